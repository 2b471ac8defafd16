import PyProof.Rows.All
import HandS.ForMost
import HandS.More
import HandS.Style
import HandS.NoneIn
import HandS.TupAny
import HandS.TupMul
import HandS.SortInts
import HandS.TupSets
import HandS.Lambda
import HandS.Conv
import HandS.Flow
import HandS.Iter
import KE.KDictDisplayH
import HandS.TryOnly
import HandS.WordsExc
import HandS.EndOwn
import PySem.Challenge.RW_tracetalk_k95_whole_words_of_many_hands
set_option Elab.async false
set_option linter.all false
set_option maxRecDepth 100000
namespace Tk
open PySem PySem.Spec PyProof.Rows L2

/-! ### data -/
inductive D where
  | non | bl (b : Bool) | int (i : Int) | str (x : Str) | ref (l : Nat)
  | tup (ds : List D) | lst (ds : List D) | rd (ds : List D)
  | dk (kvs : List (Key × D)) | dt (kvs : List (List Key × D))
  | ins (C : Addr) (ks : List Str) (ds : List D)
inductive Cell where
  | dead | lst (ds : List D) | dk (kvs : List (Key × D)) | dt (kvs : List (List Key × D)) | ins (C : Addr) (ks : List Str) (ds : List D)
  | tab (P : Addr) (q : Str)
  | lk (kvs : List (Key × D)) (o : Obj) (u : HO) | lt (kvs : List (List Key × D)) (o : Obj) (u : HO)
abbrev Nv := List (Option D)
abbrev Sto := List Cell
abbrev QE := D → Sto → Prop

section
variable (K : PySem.W.Frag) (G : Hp) (e : List Addr)
mutual
inductive RV : V → D → Prop
  | non : RV .non .non
  | bl (b : Bool) : RV (.bl b) (.bl b)
  | int (i : Int) : RV (.int i) (.int i)
  | str (x : Str) : RV (.str x) (.str x)
  | ref {l : Nat} {a : Addr} : e[l]? = some a → RV (.ref a) (.ref l)
  | tup {a : Addr} {vs : List V} {ds : List D} : G a = some (.tup vs) → RVs vs ds → RV (.ref a) (.tup ds)
  | lst {a : Addr} {vs : List V} {ds : List D} : G a = some (.lst vs) → RVs vs ds → RV (.ref a) (.lst ds)
  | rd {a : Addr} {vs : List V} {ds : List D} : SqL K G a vs → RVs vs ds → RV (.ref a) (.rd ds)
  | dk {a : Addr} {kws : List (Key × V)} {kvs : List (Key × D)} : G a = some (.dK kws) → kws.map (·.1) = kvs.map (·.1) → RVs (kws.map (·.2)) (kvs.map (·.2)) → RV (.ref a) (.dk kvs)
  | dt {a : Addr} {kws : List (List Key × V)} {kvs : List (List Key × D)} : G a = some (.dT kws) → kws.map (·.1) = kvs.map (·.1) → RVs (kws.map (·.2)) (kvs.map (·.2)) → RV (.ref a) (.dt kvs)
  | ins {a C dx : Addr} {ks : List Str} {vs : List V} {ds : List D} : G a = some (.ins C dx (ks.zip vs)) → vs.length = ks.length → RVs vs ds → RV (.ref a) (.ins C ks ds)
inductive RVs : List V → List D → Prop
  | nil : RVs [] []
  | cons {v : V} {d : D} {vs : List V} {ds : List D} : RV v d → RVs vs ds → RVs (v :: vs) (d :: ds)
end
end

theorem tq {K : PySem.W.Frag} {H : Hp} {a : Addr} {xs : List V} (h : H a = some (.tup xs)) : SqT K H a xs := .inl (.inl h)
theorem Same.sqT {K : PySem.W.Frag} {H H' : Hp} {a : Addr} {xs : List V} (e : Same H H') (h : SqT K H a xs) : SqT K H' a xs := by
  rcases h with (h | ⟨o, h⟩) | h
  · exact .inl (.inl (e _ _ h))
  · exact .inl (.inr ⟨o, e _ _ h⟩)
  · exact .inr h

section
variable {K : PySem.W.Frag} {G G' : Hp} {e e' : List Addr}
mutual
theorem RV.mono (g : Same G G') (he : ∀ (l : Nat) (a : Addr), e[l]? = some a → e'[l]? = some a) : ∀ {v : V} {d : D}, RV K G e v d → RV K G' e' v d
  | _, _, .non => .non
  | _, _, .bl b => .bl b
  | _, _, .int i => .int i
  | _, _, .str x => .str x
  | _, _, .ref h => .ref (he _ _ h)
  | _, _, .tup h r => .tup (g _ _ h) (RVs.mono g he r)
  | _, _, .lst h r => .lst (g _ _ h) (RVs.mono g he r)
  | _, _, .rd h r => .rd (g.seq h) (RVs.mono g he r)
  | _, _, .dk h k r => .dk (g _ _ h) k (RVs.mono g he r)
  | _, _, .dt h k r => .dt (g _ _ h) k (RVs.mono g he r)
  | _, _, .ins h l r => .ins (g _ _ h) l (RVs.mono g he r)
theorem RVs.mono (g : Same G G') (he : ∀ (l : Nat) (a : Addr), e[l]? = some a → e'[l]? = some a) : ∀ {vs : List V} {ds : List D}, RVs K G e vs ds → RVs K G' e' vs ds
  | _, _, .nil => .nil
  | _, _, .cons h r => .cons (RV.mono g he h) (RVs.mono g he r)
end
theorem RVs.length : ∀ {vs : List V} {ds : List D}, RVs K G e vs ds → vs.length = ds.length
  | _, _, .nil => rfl
  | _, _, .cons _ r => congrArg (· + 1) (RVs.length r)
theorem RVs.get : ∀ {vs : List V} {ds : List D} {i : Nat} {d : D}, RVs K G e vs ds → ds[i]? = some d → ∃ v, vs[i]? = some v ∧ RV K G e v d
  | _, _, _, _, .nil, h => by simp at h
  | _, _, 0, _, .cons r _, h => by
    simp at h
    subst h
    exact ⟨_, rfl, r⟩
  | _, _, i + 1, _, .cons _ r, h => by
    obtain ⟨v, h1, h2⟩ := RVs.get (i := i) r (by simpa using h)
    exact ⟨v, by simpa using h1, h2⟩
theorem RVs.get' : ∀ {vs : List V} {ds : List D} {i : Nat} {v : V}, RVs K G e vs ds → vs[i]? = some v → ∃ d, ds[i]? = some d ∧ RV K G e v d
  | _, _, _, _, .nil, h => by simp at h
  | _, _, 0, _, .cons r _, h => by
    simp at h
    subst h
    exact ⟨_, rfl, r⟩
  | _, _, i + 1, _, .cons _ r, h => by
    obtain ⟨v, h1, h2⟩ := RVs.get' (i := i) r (by simpa using h)
    exact ⟨v, by simpa using h1, h2⟩
theorem RVs.append : ∀ {vs ws : List V} {ds es : List D}, RVs K G e vs ds → RVs K G e ws es → RVs K G e (vs ++ ws) (ds ++ es)
  | _, _, _, _, .nil, s => s
  | _, _, _, _, .cons r t, s => .cons r (RVs.append t s)
theorem RVs.set {v : V} {d : D} (r : RV K G e v d) : ∀ {vs : List V} {ds : List D} (i : Nat), RVs K G e vs ds → RVs K G e (vs.set i v) (ds.set i d)
  | _, _, _, .nil => .nil
  | _, _, 0, .cons _ t => .cons r t
  | _, _, i + 1, .cons q t => .cons q (RVs.set r i t)
theorem RVs.take : ∀ {vs : List V} {ds : List D} (n : Nat), RVs K G e vs ds → RVs K G e (vs.take n) (ds.take n)
  | _, _, 0, _ => .nil
  | _, _, _ + 1, .nil => .nil
  | _, _, n + 1, .cons r t => .cons r (RVs.take n t)
theorem RVs.drop : ∀ {vs : List V} {ds : List D} (n : Nat), RVs K G e vs ds → RVs K G e (vs.drop n) (ds.drop n)
  | _, _, 0, r => r
  | _, _, _ + 1, .nil => .nil
  | _, _, n + 1, .cons _ t => RVs.drop n t
theorem RVs.reverse {vs : List V} {ds : List D} (h : RVs K G e vs ds) : RVs K G e vs.reverse ds.reverse := by
  induction h using RVs.rec (motive_1 := fun _ _ _ => True) with
  | nil => exact .nil
  | cons r _ _ ih =>
    rw [List.reverse_cons, List.reverse_cons]
    exact RVs.append ih (.cons r .nil)
  | _ => trivial
theorem RVs.eraseIdx : ∀ {vs : List V} {ds : List D} (i : Nat), RVs K G e vs ds → RVs K G e (vs.eraseIdx i) (ds.eraseIdx i)
  | _, _, _, .nil => .nil
  | _, _, 0, .cons _ t => t
  | _, _, i + 1, .cons r t => .cons r (RVs.eraseIdx i t)
theorem RVs.dropLast : ∀ {vs : List V} {ds : List D}, RVs K G e vs ds → RVs K G e vs.dropLast ds.dropLast
  | _, _, .nil => .nil
  | _, _, .cons _ .nil => .nil
  | _, _, .cons r (.cons q t) => .cons r (RVs.dropLast (.cons q t))
theorem RVs.rep {vs : List V} {ds : List D} (h : RVs K G e vs ds) : ∀ k : Nat, RVs K G e (List.replicate k vs).flatten (List.replicate k ds).flatten
  | 0 => .nil
  | k + 1 => by
    rw [List.replicate_succ, List.replicate_succ, List.flatten_cons, List.flatten_cons]
    exact RVs.append h (RVs.rep h k)
theorem RVs.ints : ∀ {vs : List V} {ns : List Int}, RVs K G e vs (ns.map D.int) → vs = ns.map V.int
  | _, [], .nil => rfl
  | _, n :: ns, .cons r t => by
    cases r
    rw [RVs.ints t]
    rfl
theorem RVs.of_ints : ∀ ns : List Int, RVs K G e (ns.map V.int) (ns.map D.int)
  | [] => .nil
  | n :: ns => .cons (.int n) (RVs.of_ints ns)
theorem RVs.bls : ∀ {vs : List V} {ns : List Bool}, RVs K G e vs (ns.map D.bl) → vs = ns.map V.bl
  | _, [], .nil => rfl
  | _, n :: ns, .cons r t => by
    cases r
    rw [RVs.bls t]
    rfl
end

/-! ### worlds -/
structure Wd where
  G : Hp
  e : List Addr
  H : Hp
/-- no object, or a table of code objects -/
def Fr (H : Hp) (a : Addr) : Prop := H a = none ∨ ∃ ps, H a = some (.tbl ps)
structure Le (A B : Wd) : Prop where
  g : Same A.G B.G
  e : ∃ t, B.e = A.e ++ t
  fr : ∀ a ∈ B.e, a ∈ A.e ∨ Fr A.H a
  kp : ∀ a o, A.H a = some o → a ∉ A.e → (∀ ps, o ≠ .tbl ps) → B.H a = some o
  gn : ∀ a, B.G a ≠ none → A.G a ≠ none ∨ Fr A.H a ∨ a ∈ A.e ∨ (∃ vs, A.H a = some (.tup vs)) ∨ ∃ φ, A.H a = some (.ext φ)
theorem Le.refl (A : Wd) : Le A A := ⟨fun _ _ h => h, ⟨[], by simp⟩, fun _ h => .inl h, fun _ _ h _ _ => h, fun _ h => .inl h⟩
theorem Le.trans {A B C : Wd} (x : Le A B) (y : Le B C) : Le A C := by
  have hn : ∀ a, Fr B.H a → Fr A.H a ∨ a ∈ A.e := fun a h => by
    cases q : A.H a with
    | none => exact .inl (.inl q)
    | some o =>
      by_cases hm : a ∈ A.e
      · exact .inr hm
      · by_cases ht : ∃ ps, o = .tbl ps
        · obtain ⟨ps, e⟩ := ht
          exact .inl (.inr ⟨ps, by rw [q, e]⟩)
        · have k := x.kp a o q hm fun ps e => ht ⟨ps, e⟩
          rcases h with h | ⟨ps, h⟩
          · rw [k] at h
            cases h
          · rw [k] at h
            exact absurd ⟨ps, Option.some.inj h⟩ ht
  have hk : ∀ a o, A.H a = some o → a ∉ A.e → (∀ ps, o ≠ .tbl ps) → a ∉ B.e := fun a o h hm ht z => by
    rcases x.fr a z with z | z | ⟨ps, z⟩
    · exact hm z
    · rw [z] at h
      cases h
    · rw [z] at h
      exact ht ps (Option.some.inj h).symm
  refine ⟨fun a o h => y.g _ _ (x.g _ _ h), ?_, fun a h => ?_, fun a o h hm ht => y.kp a o (x.kp a o h hm ht) (hk a o h hm ht) ht, fun a h => ?_⟩
  · obtain ⟨t, e1⟩ := x.e
    obtain ⟨u, e2⟩ := y.e
    exact ⟨t ++ u, by rw [e2, e1, List.append_assoc]⟩
  · rcases y.fr a h with h | h
    · exact x.fr a h
    · exact (hn a h).symm
  · have old : ∀ o, B.H a = some o → (∀ ps, o ≠ .tbl ps) → Fr A.H a ∨ a ∈ A.e ∨ A.H a = some o := fun o h ht => by
      cases q : A.H a with
      | none => exact .inl (.inl q)
      | some u =>
        by_cases hm : a ∈ A.e
        · exact .inr (.inl hm)
        · by_cases hu : ∃ ps, u = .tbl ps
          · obtain ⟨ps, e⟩ := hu
            exact .inl (.inr ⟨ps, by rw [q, e]⟩)
          · have := x.kp a u q hm fun ps e => hu ⟨ps, e⟩
            rw [h] at this
            exact .inr (.inr this.symm)
    rcases y.gn a h with h | h | h | ⟨vs, h⟩ | ⟨φ, h⟩
    · exact x.gn a h
    · rcases hn a h with z | z
      · exact .inr (.inl z)
      · exact .inr (.inr (.inl z))
    · rcases x.fr a h with z | z
      · exact .inr (.inr (.inl z))
      · exact .inr (.inl z)
    · rcases old _ h (fun _ z => by cases z) with z | z | z
      · exact .inr (.inl z)
      · exact .inr (.inr (.inl z))
      · exact .inr (.inr (.inr (.inl ⟨vs, z⟩)))
    · rcases old _ h (fun _ z => by cases z) with z | z | z
      · exact .inr (.inl z)
      · exact .inr (.inr (.inl z))
      · exact .inr (.inr (.inr (.inr ⟨φ, z⟩)))
theorem Le.at {A B : Wd} (x : Le A B) : ∀ (l : Nat) (a : Addr), A.e[l]? = some a → B.e[l]? = some a := fun l a h => by
  obtain ⟨t, e⟩ := x.e
  rw [e, List.getElem?_append_left (List.getElem?_eq_some_iff.mp h).1]
  exact h
theorem Le.rv {K : PySem.W.Frag} {A B : Wd} (x : Le A B) {v : V} {d : D} (r : RV K A.G A.e v d) : RV K B.G B.e v d := r.mono x.g x.at
theorem Le.rvs {K : PySem.W.Frag} {A B : Wd} (x : Le A B) {v : List V} {d : List D} (r : RVs K A.G A.e v d) : RVs K B.G B.e v d := r.mono x.g x.at

/-- an object is as a cell says -/
def OC (K : PySem.W.Frag) (G : Hp) (e : List Addr) : HO → Cell → Prop
  | .lst vs, .lst ds => RVs K G e vs ds
  | .dK kws, .dk kvs => kws.map (·.1) = kvs.map (·.1) ∧ RVs K G e (kws.map (·.2)) (kvs.map (·.2))
  | .dT kws, .dt kvs => kws.map (·.1) = kvs.map (·.1) ∧ RVs K G e (kws.map (·.2)) (kvs.map (·.2))
  | .ins C _ fs, .ins C' ks ds => C = C' ∧ ∃ vs, fs = ks.zip vs ∧ vs.length = ks.length ∧ RVs K G e vs ds
  | .frz o u, .lk kvs o' u' => o = o' ∧ u = u' ∧ ∃ kws, u = .dK kws ∧ kws.map (·.1) = kvs.map (·.1) ∧ RVs K G e (kws.map (·.2)) (kvs.map (·.2))
  | .frz o u, .lt kvs o' u' => o = o' ∧ u = u' ∧ ∃ kws, u = .dT kws ∧ kws.map (·.1) = kvs.map (·.1) ∧ RVs K G e (kws.map (·.2)) (kvs.map (·.2))
  | .tbl ps, .tab _ q => TriplesOk ps.toList ∧ ∀ pos cv, codeAmong pos ps.toList = some cv → ∃ c, cv = .ref c ∧ G c = some (LamX.CodeO c q)
  | _, _ => False
theorem OC.mono {K : PySem.W.Frag} {G G' : Hp} {e e' : List Addr} (g : Same G G') (he : ∀ (l : Nat) (a : Addr), e[l]? = some a → e'[l]? = some a) {o : HO} {c : Cell} (h : OC K G e o c) : OC K G' e' o c := by
  unfold OC at h
  split at h
  · exact RVs.mono g he h
  · exact ⟨h.1, RVs.mono g he h.2⟩
  · exact ⟨h.1, RVs.mono g he h.2⟩
  · obtain ⟨h1, vs, h2, h3, h4⟩ := h
    exact ⟨h1, vs, h2, h3, RVs.mono g he h4⟩
  · obtain ⟨e1, e2, kws, h1, h2, h3⟩ := h
    exact ⟨e1, e2, kws, h1, h2, RVs.mono g he h3⟩
  · obtain ⟨e1, e2, kws, h1, h2, h3⟩ := h
    exact ⟨e1, e2, kws, h1, h2, RVs.mono g he h3⟩
  · exact ⟨h.1, fun pos cv q => by
      obtain ⟨c, e1, e2⟩ := h.2 pos cv q
      exact ⟨c, e1, g _ _ e2⟩⟩
  · exact h.elim
/-- the heap part: G stands in H and is never changed; each cell of the store that is not dead has its object -/
structure Hs (K : PySem.W.Frag) (W : Wd) (S : Sto) : Prop where
  g : Same W.G W.H
  len : W.e.length = S.length
  th : ∀ a ∈ W.e, W.H a ≠ none
  nd : W.e.Nodup
  cel : ∀ (l : Nat) (a : Addr) (c : Cell), W.e[l]? = some a → S[l]? = some c → (c = .dead ∧ W.G a ≠ none) ∨ (W.G a = none ∧ ∃ o, W.H a = some o ∧ OC K W.G W.e o c)
  nt : ∀ a ps, W.G a ≠ some (.tbl ps)
  ta : ∀ l P q, S[l]? = some (.tab P q) → l = 0 ∧ W.e[0]? = some P
theorem Hs.notin {K : PySem.W.Frag} {W : Wd} {S : Sto} (h : Hs K W S) {p : Addr} (hp : W.H p = none) : p ∉ W.e := fun z => h.th p z hp
theorem Hs.gnone {K : PySem.W.Frag} {W : Wd} {S : Sto} (h : Hs K W S) {p : Addr} (hp : W.H p = none) : W.G p = none := by
  cases q : W.G p with
  | none => rfl
  | some o =>
    rw [h.g p o q] at hp
    cases hp
theorem Hs.addr {K : PySem.W.Frag} {W : Wd} {S : Sto} (h : Hs K W S) {l : Nat} {c : Cell} (hc : S[l]? = some c) : ∃ a, W.e[l]? = some a := by
  have hl := (List.getElem?_eq_some_iff.mp hc).1
  exact ⟨_, List.getElem?_eq_getElem (by rw [h.len]; exact hl)⟩
theorem Hs.at {K : PySem.W.Frag} {W : Wd} {S : Sto} (h : Hs K W S) {l : Nat} {a : Addr} {c : Cell} (he : W.e[l]? = some a) (hc : S[l]? = some c) (hd : c ≠ .dead) : W.G a = none ∧ ∃ o, W.H a = some o ∧ OC K W.G W.e o c := by
  rcases h.cel l a c he hc with z | z
  · exact absurd z.1 hd
  · exact z

/-- a new object at p, no part of the store, not frozen -/
theorem Hs.laid {K : PySem.W.Frag} {W : Wd} {S : Sto} (h : Hs K W S) {p : Addr} {o : HO} (hp : W.H p = none) :
    Hs K ⟨W.G, W.e, upd W.H p o⟩ S ∧ Le W ⟨W.G, W.e, upd W.H p o⟩ := by
  have hn := h.notin hp
  refine ⟨⟨fun a u q => ?_, h.len, fun a q => ?_, h.nd, fun l a c h1 h2 => ?_, h.nt, h.ta⟩, fun _ _ q => q, ⟨[], by simp⟩, fun _ q => .inl q, fun a u q _ _ => ?_, fun _ q => .inl q⟩
  · have : a ≠ p := fun z => by
      subst z
      rw [h.g a u q] at hp
      cases hp
    show upd W.H p o a = _
    rw [upd_ne this]
    exact h.g a u q
  · show upd W.H p o a ≠ none
    rw [upd_ne (fun z : a = p => hn (z ▸ q))]
    exact h.th a q
  · rcases h.cel l a c h1 h2 with z | ⟨z1, u, z2, z3⟩
    · exact .inl z
    · refine .inr ⟨z1, u, ?_, z3⟩
      show upd W.H p o a = _
      rw [upd_ne (fun z => by rw [z, hp] at z2; cases z2)]
      exact z2
  · show upd W.H p o a = _
    rw [upd_ne (fun z => by rw [z, hp] at q; cases q)]
    exact q
/-- an object that stands is frozen -/
theorem Hs.frozen {K : PySem.W.Frag} {W : Wd} {S : Sto} (h : Hs K W S) {p : Addr} {o : HO} (hp : W.H p = some o) (hg : W.G p = none) (hn : p ∉ W.e) (ht : ∀ ps, o ≠ .tbl ps) : Hs K ⟨upd W.G p o, W.e, W.H⟩ S := by
  have sm : Same W.G (upd W.G p o) := fun b u q => by
    rw [upd_ne (ne_of_none q hg)]
    exact q
  refine ⟨fun a u q => ?_, h.len, h.th, h.nd, fun l a c h1 h2 => ?_, fun a ps q => by
    by_cases z : a = p
    · subst z
      have q : upd W.G a o a = some (.tbl ps) := q
      rw [upd_same] at q
      exact ht ps (Option.some.inj q)
    · have q : upd W.G p o a = some (.tbl ps) := q
      rw [upd_ne z] at q
      exact h.nt a ps q, h.ta⟩
  · by_cases z : a = p
    · subst z
      have q : upd W.G a o a = some u := q
      rw [upd_same] at q
      exact hp.trans q
    · have q : upd W.G p o a = some u := q
      rw [upd_ne z] at q
      exact h.g a u q
  · rcases h.cel l a c h1 h2 with z | ⟨z1, u, z2, z3⟩
    · refine .inl ⟨z.1, fun y => z.2 ?_⟩
      have y : upd W.G p o a = none := y
      cases e : W.G a with
      | none => rfl
      | some v =>
        rw [sm a v e] at y
        cases y
    · refine .inr ⟨?_, u, z2, z3.mono sm fun _ _ q => q⟩
      show upd W.G p o a = none
      rw [upd_ne (fun z : a = p => hn (z ▸ List.mem_of_getElem? h1))]
      exact z1
/-- an object that stands becomes a cell -/
theorem Hs.cell {K : PySem.W.Frag} {W : Wd} {S : Sto} (h : Hs K W S) {p : Addr} {o : HO} {c : Cell} (hp : W.H p = some o) (hg : W.G p = none) (hn : p ∉ W.e) (hc : OC K W.G W.e o c) (nb : ∀ ps, o ≠ .tbl ps) : Hs K ⟨W.G, W.e ++ [p], W.H⟩ (S ++ [c]) := by
  have at' : ∀ (l : Nat) (a : Addr), W.e[l]? = some a → (W.e ++ [p])[l]? = some a := fun l a q => by
    rw [List.getElem?_append_left (List.getElem?_eq_some_iff.mp q).1]
    exact q
  refine ⟨h.g, by rw [List.length_append, List.length_append, h.len]; rfl, fun a q => ?_, ?_, fun l a d h1 h2 => ?_, h.nt, fun l P q z => by
    by_cases hl : l < S.length
    · rw [List.getElem?_append_left hl] at z
      obtain ⟨z1, z2⟩ := h.ta l P q z
      exact ⟨z1, at' _ _ z2⟩
    · rw [List.getElem?_append_right (by omega)] at z
      have z3 : c = .tab P q := by
        cases e : l - S.length with
        | zero =>
          rw [e] at z
          simpa using z
        | succ n =>
          rw [e] at z
          simp at z
      subst z3
      cases o <;> first
        | exact (nb _ rfl).elim
        | exact hc.elim⟩
  · rcases List.mem_append.mp q with q | q
    · exact h.th a q
    · rw [List.mem_singleton.mp q]
      intro z
      rw [hp] at z
      cases z
  · refine List.nodup_append.mpr ⟨h.nd, by simp, fun a ha b hb => ?_⟩
    rw [List.mem_singleton.mp hb]
    exact fun z => hn (z ▸ ha)
  · have h1 : (W.e ++ [p])[l]? = some a := h1
    by_cases hl : l < W.e.length
    · rw [List.getElem?_append_left hl] at h1
      rw [List.getElem?_append_left (by rw [← h.len]; exact hl)] at h2
      rcases h.cel l a d h1 h2 with z | ⟨z1, u, z2, z3⟩
      · exact .inl z
      · exact .inr ⟨z1, u, z2, z3.mono (fun _ _ q => q) at'⟩
    · rw [List.getElem?_append_right (Nat.le_of_not_lt hl)] at h1
      rw [List.getElem?_append_right (by rw [← h.len]; exact Nat.le_of_not_lt hl), ← h.len] at h2
      cases q : l - W.e.length with
      | zero =>
        rw [q] at h1 h2
        simp at h1 h2
        subst h1 h2
        exact .inr ⟨hg, o, hp, hc.mono (fun _ _ q => q) at'⟩
      | succ n =>
        rw [q] at h1
        simp at h1
/-- a cell is written -/
theorem Hs.set {K : PySem.W.Frag} {W : Wd} {S : Sto} (h : Hs K W S) {l : Nat} {a : Addr} {c c' : Cell} {o' : HO} (he : W.e[l]? = some a) (hc : S[l]? = some c) (hd : c ≠ .dead) (ho : OC K W.G W.e o' c') (nb : ∀ ps, o' ≠ .tbl ps := by intro _ z; cases z) :
    Hs K ⟨W.G, W.e, upd W.H a o'⟩ (S.set l c') ∧ Le W ⟨W.G, W.e, upd W.H a o'⟩ := by
  obtain ⟨hg, o, hH, _⟩ := h.at he hc hd
  refine ⟨⟨fun b u q => ?_, by rw [List.length_set]; exact h.len, fun b q => ?_, h.nd, fun m b d h1 h2 => ?_, h.nt, fun m P q z => by
    by_cases hm : m = l
    · subst hm
      rw [List.getElem?_set_self (List.getElem?_eq_some_iff.mp hc).1] at z
      have z := Option.some.inj z
      subst z
      cases o' <;> first
        | exact (nb _ rfl).elim
        | exact ho.elim
    · rw [List.getElem?_set_ne (Ne.symm hm)] at z
      exact h.ta m P q z⟩, fun _ _ q => q, ⟨[], by simp⟩, fun _ q => .inl q, fun b u q hm _ => ?_, fun _ q => .inl q⟩
  · have : b ≠ a := fun z => by
      subst z
      rw [hg] at q
      cases q
    show upd W.H a o' b = _
    rw [upd_ne this]
    exact h.g b u q
  · show upd W.H a o' b ≠ none
    by_cases z : b = a
    · rw [z, upd_same]
      simp
    · rw [upd_ne z]
      exact h.th b q
  · by_cases hm : m = l
    · subst hm
      have hl := (List.getElem?_eq_some_iff.mp hc).1
      rw [List.getElem?_set_self hl] at h2
      have h1 : W.e[m]? = some b := h1
      rw [he] at h1
      cases h1
      cases h2
      exact .inr ⟨hg, o', upd_same, ho⟩
    · rw [List.getElem?_set_ne (Ne.symm hm)] at h2
      have h1 : W.e[m]? = some b := h1
      have hb : b ≠ a := fun z => by
        subst z
        obtain ⟨m1, e1⟩ := List.getElem?_eq_some_iff.mp h1
        obtain ⟨l1, e2⟩ := List.getElem?_eq_some_iff.mp he
        exact hm ((List.getElem_inj h.nd).mp (e1.trans e2.symm))
      rcases h.cel m b d h1 h2 with z | ⟨z1, u, z2, z3⟩
      · exact .inl z
      · refine .inr ⟨z1, u, ?_, z3⟩
        show upd W.H a o' b = _
        rw [upd_ne hb]
        exact z2
  · have : b ≠ a := fun z => hm (z ▸ List.mem_of_getElem? he)
    show upd W.H a o' b = _
    rw [upd_ne this]
    exact q
/-- a cell becomes frozen: it is dead from then on -/
theorem Hs.freeze {K : PySem.W.Frag} {W : Wd} {S : Sto} (h : Hs K W S) {l : Nat} {a : Addr} {o : HO} {c : Cell} (he : W.e[l]? = some a) (hc : S[l]? = some c) (hd : c ≠ .dead) (ho : W.H a = some o) (ht : ∀ ps, o ≠ .tbl ps) :
    Hs K ⟨upd W.G a o, W.e, W.H⟩ (S.set l .dead) ∧ Le W ⟨upd W.G a o, W.e, W.H⟩ := by
  obtain ⟨hg, _⟩ := h.at he hc hd
  have sm : Same W.G (upd W.G a o) := fun b u q => by
    rw [upd_ne (ne_of_none q hg)]
    exact q
  refine ⟨⟨fun b u q => ?_, by rw [List.length_set]; exact h.len, h.th, h.nd, fun m b d h1 h2 => ?_, fun b ps q => ?_, fun m P q z => by
    by_cases hm : m = l
    · subst hm
      rw [List.getElem?_set_self (List.getElem?_eq_some_iff.mp hc).1] at z
      cases z
    · rw [List.getElem?_set_ne (Ne.symm hm)] at z
      exact h.ta m P q z⟩, sm, ⟨[], by simp⟩, fun _ q => .inl q, fun b u q _ _ => q, fun b q => ?_⟩
  · have q : upd W.G a o b = some u := q
    by_cases z : b = a
    · subst z
      rw [upd_same] at q
      exact ho.trans q
    · rw [upd_ne z] at q
      exact h.g b u q
  · have h1 : W.e[m]? = some b := h1
    by_cases hm : m = l
    · subst hm
      rw [List.getElem?_set_self (List.getElem?_eq_some_iff.mp hc).1] at h2
      cases h2
      have hba : b = a := by
        rw [he] at h1
        exact (Option.some.inj h1).symm
      refine .inl ⟨rfl, fun y => ?_⟩
      have y : upd W.G a o b = none := y
      rw [hba, upd_same] at y
      cases y
    · rw [List.getElem?_set_ne (Ne.symm hm)] at h2
      have hb : b ≠ a := fun z => by
        subst z
        obtain ⟨m1, e1⟩ := List.getElem?_eq_some_iff.mp h1
        obtain ⟨l1, e2⟩ := List.getElem?_eq_some_iff.mp he
        exact hm ((List.getElem_inj h.nd).mp (e1.trans e2.symm))
      rcases h.cel m b d h1 h2 with z | ⟨z1, u, z2, z3⟩
      · refine .inl ⟨z.1, fun y => z.2 ?_⟩
        have y : upd W.G a o b = none := y
        rwa [upd_ne hb] at y
      · refine .inr ⟨?_, u, z2, z3.mono sm fun _ _ q => q⟩
        show upd W.G a o b = none
        rw [upd_ne hb]
        exact z1
  · by_cases z : b = a
    · subst z
      have q : upd W.G b o b = some (.tbl ps) := q
      rw [upd_same] at q
      exact ht ps (Option.some.inj q)
    · have q : upd W.G a o b = some (.tbl ps) := q
      rw [upd_ne z] at q
      exact h.nt b ps q
  · by_cases z : b = a
    · exact .inr (.inr (.inl (z ▸ List.mem_of_getElem? he)))
    · have q : upd W.G a o b ≠ none := q
      rw [upd_ne z] at q
      exact .inl q

/-- the names -/
def RE (K : PySem.W.Frag) (W : Wd) (σ : L2.St) (ρ : Nv) : Prop := σ.length = ρ.length ∧ ∀ (i : Nat) (d : D), ρ[i]? = some (some d) → ∃ v, σ[i]? = some (some v) ∧ RV K W.G W.e v d
theorem RE.mono {K : PySem.W.Frag} {W W' : Wd} {σ : L2.St} {ρ : Nv} (x : Le W W') (h : RE K W σ ρ) : RE K W' σ ρ := ⟨h.1, fun i d q => by
  obtain ⟨v, h1, h2⟩ := h.2 i d q
  exact ⟨v, h1, x.rv h2⟩⟩
theorem RE.set {K : PySem.W.Frag} {W : Wd} {σ : L2.St} {ρ : Nv} {i : Nat} {v : V} {d : D} (h : RE K W σ ρ) (r : RV K W.G W.e v d) : RE K W (σ.set i (some v)) (ρ.set i (some d)) := by
  refine ⟨by rw [List.length_set, List.length_set]; exact h.1, fun j d' q => ?_⟩
  by_cases hj : j = i
  · subst hj
    by_cases hl : j < ρ.length
    · rw [List.getElem?_set_self hl] at q
      cases q
      exact ⟨v, by rw [List.getElem?_set_self (by rw [h.1]; exact hl)], r⟩
    · rw [List.getElem?_eq_none (by rw [List.length_set]; exact Nat.le_of_not_lt hl)] at q
      cases q
  · rw [List.getElem?_set_ne (Ne.symm hj)] at q
    obtain ⟨v', h1, h2⟩ := h.2 j d' q
    exact ⟨v', by rw [List.getElem?_set_ne (Ne.symm hj)]; exact h1, h2⟩
theorem RE.weak {K : PySem.W.Frag} {W : Wd} {σ : L2.St} {ρ ρ' : Nv} (h : RE K W σ ρ) (hl : ρ'.length = ρ.length) (w : ∀ (i : Nat) (d : D), ρ'[i]? = some (some d) → ρ[i]? = some (some d)) : RE K W σ ρ' :=
  ⟨h.1.trans hl.symm, fun i d q => h.2 i d (w i d q)⟩
theorem Fr.of {H : Hp} {a : Addr} (h : H a = none) : Fr H a := .inl h
end Tk

namespace Tk
open PySem PySem.Spec PyProof.Rows L2
abbrev St := L2.St

/-! ### what is wanted, over data -/
abbrev WE := Nv → Sto → QE → Prop
abbrev WT := Nv → Sto → (Bool → Sto → Prop) → Prop
abbrev WA := Nv → Sto → (List D → Sto → Prop) → Prop
abbrev WF := Nv → Sto → (Cell → Sto → Prop) → Prop
abbrev WG := D → Nv → Sto → (Nv → Sto → Prop) → Prop
abbrev WGs := List D → Nv → Sto → (Nv → Sto → Prop) → Prop
abbrev WI := Nv → Sto → (List D → (Sto → Prop) → Sto → Prop) → Prop
structure Es where
  nx : Nv → Sto → Prop
  rt : QE
  bk : Nv → Sto → Prop
  ct : Nv → Sto → Prop
abbrev WS := Es → Nv → Sto → Prop
abbrev Z1 := D → Sto → QE → Prop
abbrev Z2 := D → D → Sto → QE → Prop
abbrev Zs := List D → Sto → QE → Prop

section
variable (K : PySem.W.Frag)
/-- the end of an expression -/
def Kt (W : Wd) (R : QE) (Q : VK) : Prop := ∀ (W' : Wd) (S' : Sto) (v : V) (d : D), Le W W' → Hs K W' S' → RV K W'.G W'.e v d → R d S' → Q v W'.H
def tE (w : WE) : TE := fun σ H Q => ∃ (W : Wd) (ρ : Nv) (S : Sto) (R : QE), W.H = H ∧ Hs K W S ∧ RE K W σ ρ ∧ w ρ S R ∧ Kt K W R Q
def tT (w : WT) : TT := fun σ H Q => ∃ (W : Wd) (ρ : Nv) (S : Sto) (R : Bool → Sto → Prop), W.H = H ∧ Hs K W S ∧ RE K W σ ρ ∧ w ρ S R ∧ ∀ (W' : Wd) (S' : Sto) (b : Bool), Le W W' → Hs K W' S' → R b S' → Q b W'.H
def tA (w : WA) : TA := fun σ H Q => ∃ (W : Wd) (ρ : Nv) (S : Sto) (R : List D → Sto → Prop), W.H = H ∧ Hs K W S ∧ RE K W σ ρ ∧ w ρ S R ∧
  ∀ (W' : Wd) (S' : Sto) (vs : List V) (ds : List D), Le W W' → Hs K W' S' → RVs K W'.G W'.e vs ds → R ds S' → Q vs W'.H
/-- a new object at p -/
structure New (W W' : Wd) (p : Addr) (o : HO) : Prop where
  le : Le W W'
  old : Fr W.H p
  at' : W'.H p = some o
  ng : W'.G p = none
  ne : p ∉ W'.e
  nb : ∀ ps, o ≠ .tbl ps
def KtF (W : Wd) (R : Cell → Sto → Prop) (Q : VK) : Prop := ∀ (W' : Wd) (S' : Sto) (p : Addr) (o : HO) (c : Cell), New W W' p o → Hs K W' S' → OC K W'.G W'.e o c → R c S' → Q (.ref p) W'.H
def tF (w : WF) : TE := fun σ H Q => ∃ (W : Wd) (ρ : Nv) (S : Sto) (R : Cell → Sto → Prop), W.H = H ∧ Hs K W S ∧ RE K W σ ρ ∧ w ρ S R ∧ KtF K W R Q
/-- the ends of a statement -/
structure EsOk (W : Wd) (R : Es) (D : Ends) : Prop where
  nx : ∀ (W' : Wd) (S' : Sto) (σ' : St) (ρ' : Nv), Le W W' → Hs K W' S' → RE K W' σ' ρ' → R.nx ρ' S' → D.nx σ' W'.H
  rt : Kt K W R.rt D.rt
  bk : ∀ (W' : Wd) (S' : Sto) (σ' : St) (ρ' : Nv), Le W W' → Hs K W' S' → RE K W' σ' ρ' → R.bk ρ' S' → D.bk σ' W'.H
  ct : ∀ (W' : Wd) (S' : Sto) (σ' : St) (ρ' : Nv), Le W W' → Hs K W' S' → RE K W' σ' ρ' → R.ct ρ' S' → D.ct σ' W'.H
def tS (w : WS) : TS := fun D σ H => ∃ (W : Wd) (ρ : Nv) (S : Sto) (R : Es), W.H = H ∧ Hs K W S ∧ RE K W σ ρ ∧ w R ρ S ∧ EsOk K W R D
def tG (w : WG) : TG := fun v σ H Q => ∃ (W : Wd) (d : D) (ρ : Nv) (S : Sto) (R : Nv → Sto → Prop), W.H = H ∧ Hs K W S ∧ RE K W σ ρ ∧ RV K W.G W.e v d ∧ w d ρ S R ∧
  ∀ (W' : Wd) (S' : Sto) (σ' : St) (ρ' : Nv), Le W W' → Hs K W' S' → RE K W' σ' ρ' → R ρ' S' → Q σ' W'.H
def tGs (w : WGs) : TGs := fun vs σ H Q => ∃ (W : Wd) (ds : List D) (ρ : Nv) (S : Sto) (R : Nv → Sto → Prop), W.H = H ∧ Hs K W S ∧ RE K W σ ρ ∧ RVs K W.G W.e vs ds ∧ w ds ρ S R ∧
  ∀ (W' : Wd) (S' : Sto) (σ' : St) (ρ' : Nv), Le W W' → Hs K W' S' → RE K W' σ' ρ' → R ρ' S' → Q σ' W'.H
/-- by values -/
def r1 (z : Z1) : V → Hp → VK → Prop := fun x H Q => ∃ (W : Wd) (S : Sto) (dx : D) (R : QE), W.H = H ∧ Hs K W S ∧ RV K W.G W.e x dx ∧ z dx S R ∧ Kt K W R Q
def r2 (z : Z2) : R2 := fun x y H Q => ∃ (W : Wd) (S : Sto) (dx dy : D) (R : QE), W.H = H ∧ Hs K W S ∧ RV K W.G W.e x dx ∧ RV K W.G W.e y dy ∧ z dx dy S R ∧ Kt K W R Q
def rs (z : Zs) : List V → Hp → VK → Prop := fun xs H Q => ∃ (W : Wd) (S : Sto) (ds : List D) (R : QE), W.H = H ∧ Hs K W S ∧ RVs K W.G W.e xs ds ∧ z ds S R ∧ Kt K W R Q
def rm (z : D → Zs) : V → List V → Hp → VK → Prop := fun x xs H Q => ∃ (W : Wd) (S : Sto) (dx : D) (ds : List D) (R : QE), W.H = H ∧ Hs K W S ∧ RV K W.G W.e x dx ∧ RVs K W.G W.e xs ds ∧ z dx ds S R ∧ Kt K W R Q
abbrev ZFs := List D → Sto → (Cell → Sto → Prop) → Prop
def rsF (z : ZFs) : List V → Hp → VK → Prop := fun xs H Q => ∃ (W : Wd) (S : Sto) (ds : List D) (R : Cell → Sto → Prop), W.H = H ∧ Hs K W S ∧ RVs K W.G W.e xs ds ∧ z ds S R ∧ KtF K W R Q
abbrev ZF2 := D → D → Sto → (Cell → Sto → Prop) → Prop
def r2F (z : ZF2) : R2 := fun x y H Q => ∃ (W : Wd) (S : Sto) (dx dy : D) (R : Cell → Sto → Prop), W.H = H ∧ Hs K W S ∧ RV K W.G W.e x dx ∧ RV K W.G W.e y dy ∧ z dx dy S R ∧ KtF K W R Q
end

section
variable {K : PySem.W.Frag}
theorem Kt.le {W W1 : Wd} {R : QE} {Q : VK} (k : Kt K W R Q) (l : Le W W1) : Kt K W1 R Q := fun W' S' v d h => k W' S' v d (l.trans h)
theorem New.pre {W W1 W2 : Wd} {p : Addr} {o : HO} (l : Le W W1) (n : New W1 W2 p o) (h : p ∉ W.e ∨ Fr W.H p) : New W W2 p o := by
  refine ⟨l.trans n.le, ?_, n.at', n.ng, n.ne, n.nb⟩
  rcases h with h | h
  · cases q : W.H p with
    | none => exact .inl q
    | some u =>
      by_cases ht : ∃ ps, u = .tbl ps
      · obtain ⟨ps, e⟩ := ht
        exact .inr ⟨ps, by rw [q, e]⟩
      · have k := l.kp p u q h fun ps e => ht ⟨ps, e⟩
        rcases n.old with z | ⟨ps, z⟩
        · rw [k] at z
          cases z
        · rw [k] at z
          exact absurd ⟨ps, Option.some.inj z⟩ ht
  · exact h
theorem New.notin {W W2 : Wd} {p : Addr} {o : HO} (n : New W W2 p o) : p ∉ W.e := fun z => by
  obtain ⟨t, e⟩ := n.le.e
  exact n.ne (by rw [e]; exact List.mem_append_left _ z)
theorem Le.notin {W W1 : Wd} {p : Addr} (l : Le W W1) (h : p ∉ W1.e) : p ∉ W.e := fun z => by
  obtain ⟨t, e⟩ := l.e
  exact h (by rw [e]; exact List.mem_append_left _ z)
theorem KtF.le {W W1 : Wd} {R : Cell → Sto → Prop} {Q : VK} (k : KtF K W R Q) (l : Le W W1) : KtF K W1 R Q := fun W' S' p o c n => k W' S' p o c (n.pre l (.inl (l.notin n.notin)))
theorem EsOk.le {W W1 : Wd} {R : Es} {D : Ends} (k : EsOk K W R D) (l : Le W W1) : EsOk K W1 R D :=
  ⟨fun W' S' σ' ρ' h => k.nx W' S' σ' ρ' (l.trans h), k.rt.le l, fun W' S' σ' ρ' h => k.bk W' S' σ' ρ' (l.trans h), fun W' S' σ' ρ' h => k.ct W' S' σ' ρ' (l.trans h)⟩
theorem New.laid {W : Wd} {S : Sto} (h : Hs K W S) {p : Addr} {o : HO} (hp : W.H p = none) (nb : ∀ ps, o ≠ .tbl ps := by intro _ z; cases z) : New W ⟨W.G, W.e, upd W.H p o⟩ p o ∧ Hs K ⟨W.G, W.e, upd W.H p o⟩ S :=
  ⟨⟨(h.laid hp).2, .inl hp, upd_same, h.gnone hp, h.notin hp, nb⟩, (h.laid hp).1⟩
end

/-! ### weakening -/
section
variable {X : Cx} {e : Expr} {st : Stmt}
theorem pe_weak {t t' : TE} (h : PE X e t) (w : ∀ σ H Q, t' σ H Q → t σ H Q) : PE X e t' := ⟨fun pins s σ H Q I q => h.run pins s σ H Q I (w σ H Q q)⟩
theorem pt_weak {t t' : TT} (h : PT X e t) (w : ∀ σ H Q, t' σ H Q → t σ H Q) : PT X e t' := ⟨fun pins s σ H Q I q => h.run pins s σ H Q I (w σ H Q q)⟩
theorem pw_weak {t t' : TT} (h : PW X e t) (w : ∀ σ H Q, t' σ H Q → t σ H Q) : PW X e t' := ⟨fun wh pins s σ H Q I q => h.run wh pins s σ H Q I (w σ H Q q)⟩
theorem pa_weak {es : List Expr} {t t' : TA} (h : PA X es t) (w : ∀ σ H Q, t' σ H Q → t σ H Q) : PA X es t' := ⟨fun p pins s σ H Q I q => h.run p pins s σ H Q I (w σ H Q q)⟩
theorem ps_weak {t t' : TS} (h : PS X st t) (w : ∀ D σ H, t' D σ H → t D σ H) : PS X st t' := ⟨fun pins s σ H D I q => h.run pins s σ H D I (w D σ H q)⟩
theorem pss_weak {sts : List Stmt} {t t' : TS} (h : PSs X sts t) (w : ∀ D σ H, t' D σ H → t D σ H) : PSs X sts t' := ⟨fun pins s σ H D I q => h.run pins s σ H D I (w D σ H q)⟩
theorem pg_weak {t t' : TG} (h : PG X e t) (w : ∀ v σ H Q, t' v σ H Q → t v σ H Q) : PG X e t' := ⟨fun pins s σ H v u Q I r q => h.run pins s σ H v u Q I r (w v σ H Q q)⟩
theorem pi_weak {tg : Expr} {t t' : TI} (h : PI X tg e t) (w : ∀ σ H R, t' σ H R → t σ H R) : PI X tg e t' := ⟨fun pins s σ H R I q => h.run pins s σ H R I (w σ H R q)⟩
end

/-! ### short names for the judgements -/
abbrev JE (X : Cx) (e : Expr) (w : WE) : Prop := PE X e (tE X.K w)
abbrev JF (X : Cx) (e : Expr) (w : WF) : Prop := PE X e (tF X.K w)
abbrev JT (X : Cx) (e : Expr) (w : WT) : Prop := PT X e (tT X.K w)
abbrev JW (X : Cx) (e : Expr) (w : WT) : Prop := PW X e (tT X.K w)
abbrev JA (X : Cx) (es : List Expr) (w : WA) : Prop := PA X es (tA X.K w)
abbrev JS (X : Cx) (st : Stmt) (w : WS) : Prop := PS X st (tS X.K w)
abbrev JB (X : Cx) (st : List Stmt) (w : WS) : Prop := PSs X st (tS X.K w)
abbrev JG (X : Cx) (e : Expr) (w : WG) : Prop := PG X e (tG X.K w)
abbrev JGs (X : Cx) (e : List Expr) (w : WGs) : Prop := PGs X e (tGs X.K w)

/-! ### expressions -/
def wV (i : Nat) : WE := fun ρ S Q => ∃ d, ρ[i]? = some (some d) ∧ Q d S
def wC (d : D) : WE := fun _ S Q => Q d S
def wB (z : Z2) (a b : WE) : WE := fun ρ S Q => a ρ S fun x S1 => b ρ S1 fun y S2 => z x y S2 Q
def wU (z : Z1) (a : WE) : WE := fun ρ S Q => a ρ S fun x S1 => z x S1 Q
def wNil : WA := fun _ S Q => Q [] S
def wCons (a : WE) (r : WA) : WA := fun ρ S Q => a ρ S fun x S1 => r ρ S1 fun xs S2 => Q (x :: xs) S2
def wZ (z : Zs) (a : WA) : WE := fun ρ S Q => a ρ S fun xs S1 => z xs S1 Q
def wTup (a : WA) : WE := fun ρ S Q => a ρ S fun xs S1 => xs.length ≤ sizeLine ∧ Q (.tup xs) S1
def wLst (a : WA) : WF := fun ρ S Q => a ρ S fun xs S1 => xs.length ≤ sizeLine ∧ Q (.lst xs) S1
/-- a new object, as a value from then on; as a cell of the store -/
def fz : Cell → D → Prop
  | .lst ds, d => d = .lst ds
  | .dk kvs, d => d = .dk kvs
  | .dt kvs, d => d = .dt kvs
  | .ins C ks ds, d => d = .ins C ks ds
  | .dead, _ => False
  | .tab _ _, _ => False
  | .lk _ _ _, _ => False
  | .lt _ _ _, _ => False
def wFz (w : WF) : WE := fun ρ S Q => w ρ S fun c S1 => ∃ d, fz c d ∧ Q d S1
def wCl (w : WF) : WE := fun ρ S Q => w ρ S fun c S1 => Q (.ref S1.length) (S1 ++ [c])
section
variable {X : Cx} {e a b : Expr} {es : List Expr} {w wa wb : WE} {pos : Pos}
theorem j_var {i : Nat} {x : Str} (h : PE X (.Name x pos) (tVar i)) : JE X (.Name x pos) (wV i) := pe_weak h fun σ H Q ⟨W, ρ, S, R, hH, hs, re, ⟨d, h1, h2⟩, k⟩ => by
  obtain ⟨v, e1, rv⟩ := re.2 i d h1
  exact ⟨v, e1, hH ▸ k W S v d (Le.refl W) hs rv h2⟩
/-- the name in slot i -/
theorem jv (i : Nat) {x : Str} (hN : X.N[i]? = some x := by rfl) (hv : Vis X.env.scope x := by first | exact Or.inl rfl | exact Or.inr (Or.inl rfl) | exact Or.inr (Or.inr rfl)) (hd : (x == ("__debug__" : Str)) = false := by decide)
    (hcd : (x == ("__classdict__" : Str)) = false := by decide) : JE X (.Name x pos) (wV i) := j_var (pe_var hN hv hd hcd)
theorem j_const {v : V} {d : D} (h : PE X e (tC v)) (r : ∀ W : Wd, RV X.K W.G W.e v d) : JE X e (wC d) := pe_weak h fun σ H Q ⟨W, ρ, S, R, hH, hs, re, h1, k⟩ => hH ▸ k W S v d (Le.refl W) hs (r W) h1
theorem j_int {i : Int} {j pos} : JE X (.Constant (.int i) j pos) (wC (.int i)) := j_const pe_int fun _ => .int i
theorem j_bl {b j pos} : JE X (.Constant (.bool b) j pos) (wC (.bl b)) := j_const pe_bl fun _ => .bl b
theorem j_non {j pos} : JE X (.Constant .none j pos) (wC .non) := j_const pe_non fun _ => .non
theorem j_str {x j pos} : JE X (.Constant (.str x) j pos) (wC (.str x)) := j_const pe_str fun _ => .str x
/-- a module's int -/
theorem j_gint {x : Str} {i : Int} {u : Value} (hg : Gl X x) (hm : X.mg x = some u) (r : RelV (.int i) u) (hd : (x == ("__debug__" : Str)) = false := by decide) : JE X (.Name x pos) (wC (.int i)) := j_const (pe_glob hg hm r hd) fun _ => .int i
theorem j_gstr {x : Str} {i : Str} {u : Value} (hg : Gl X x) (hm : X.mg x = some u) (r : RelV (.str i) u) (hd : (x == ("__debug__" : Str)) = false := by decide) : JE X (.Name x pos) (wC (.str i)) := j_const (pe_glob hg hm r hd) fun _ => .str i
theorem tOp_weak {K : PySem.W.Frag} {z : Z2} {wa wb : WE} {σ : St} {H : Hp} {Q : VK} (h : tE K (wB z wa wb) σ H Q) : tOp (r2 K z) (tE K wa) (tE K wb) σ H Q := by
  obtain ⟨W, ρ, S, R, rfl, hs, re, hw, k⟩ := h
  exact ⟨W, ρ, S, _, rfl, hs, re, hw, fun W1 S1 x dx l1 hs1 r1 h1 => ⟨W1, ρ, S1, _, rfl, hs1, re.mono l1, h1, fun W2 S2 y dy l2 hs2 r2 h2 => ⟨W2, S2, dx, dy, R, rfl, hs2, l2.rv r1, r2, h2, k.le (l1.trans l2)⟩⟩⟩
theorem j_op {op : Operator} {z : Z2} (ho : OpR X (binaryOp op) (r2 X.K z)) (ha : JE X a wa) (hb : JE X b wb) : JE X (.BinOp a op b pos) (wB z wa wb) := pe_weak (pe_op ho ha hb) fun _ _ _ => tOp_weak
theorem j_un {op : UnaryOp} {z : Z1} (ho : UnR X (unaryOp op) (r1 X.K z)) (ha : JE X a wa) : JE X (.UnaryOp op a pos) (wU z wa) := pe_weak (pe_un ho ha) fun σ H Q ⟨W, ρ, S, R, hH, hs, re, hw, k⟩ =>
  ⟨W, ρ, S, _, hH, hs, re, hw, fun W1 S1 x dx l1 hs1 q1 h1 => ⟨W1, S1, dx, R, rfl, hs1, q1, h1, k.le l1⟩⟩
theorem j_cmp {op : CmpOp} {z : Z2} (ho : OpR X (compareOp op) (r2 X.K z)) (ha : JE X a wa) (hb : JE X b wb) (hm : behindInMarks op b = false) : JE X (.Compare a [op] [b] pos) (wB z wa wb) := pe_weak (pe_cmpR ho ha hb hm) fun _ _ _ => tOp_weak
theorem j_ix {z : Z2} (hr : IxR X (r2 X.K z)) (ha : JE X a wa) (hb : JE X b wb) (hs : PlainIx b) : JE X (.Subscript a b pos) (wB z wa wb) := pe_weak (pe_ix hr ha hb hs) fun _ _ _ => tOp_weak
theorem ja_nil : JA X [] wNil := pa_weak pa_nil fun σ H Q ⟨W, ρ, S, R, hH, hs, re, hw, k⟩ => hH ▸ k W S [] [] (Le.refl W) hs .nil hw
theorem tCons_weak {K : PySem.W.Frag} {wa : WE} {r : WA} {σ : St} {H : Hp} {Q : List V → Hp → Prop} (h : tA K (wCons wa r) σ H Q) : tCons (tE K wa) (tA K r) σ H Q := by
  obtain ⟨W, ρ, S, R, rfl, hs, re, hw, k⟩ := h
  exact ⟨W, ρ, S, _, rfl, hs, re, hw, fun W1 S1 x dx l1 hs1 r1 h1 => ⟨W1, ρ, S1, _, rfl, hs1, re.mono l1, h1, fun W2 S2 xs dxs l2 hs2 r2 h2 => k W2 S2 (x :: xs) (dx :: dxs) (l1.trans l2) hs2 (.cons (l2.rv r1) r2) h2⟩⟩
theorem ja_cons {r : WA} (ha : JE X e wa) (hr : JA X es r) (hs : starEach (e :: es) X.env = (false, eval e X.env) :: starEach es X.env := by rfl) : JA X (e :: es) (wCons wa r) := pa_weak (pa_cons ha hr hs) fun _ _ _ => tCons_weak
theorem j_tup {x1} {r : WA} (h : JA X es r) : JE X (.Tuple es x1 pos) (wTup r) := pe_weak (pe_tup h) fun σ H Q ⟨W, ρ, S, R, hH, hs, re, hw, k⟩ =>
  ⟨W, ρ, S, _, hH, hs, re, hw, fun W1 S1 xs ds l1 hs1 rv ⟨hz, h1⟩ => ⟨by rw [rv.length]; exact hz, fun p hp => by
    obtain ⟨n, hs2⟩ := New.laid (o := .tup xs) hs1 hp
    have hs3 := hs2.frozen n.at' n.ng n.ne (fun _ z => by cases z)
    have sm : Same W1.G (upd W1.G p (.tup xs)) := fun b u q => by
      rw [upd_ne (ne_of_none q (hs1.gnone hp))]
      exact q
    refine k ⟨upd W1.G p (.tup xs), W1.e, upd W1.H p (.tup xs)⟩ S1 (.ref p) (.tup ds) (l1.trans ⟨sm, n.le.e, n.le.fr, n.le.kp, fun b q => ?_⟩) hs3 (.tup upd_same (rv.mono sm fun _ _ q => q)) h1
    by_cases z : b = p
    · exact .inr (.inl (.inl (z ▸ hp)))
    · have q : upd W1.G p (.tup xs) b ≠ none := q
      rw [upd_ne z] at q
      exact .inl q⟩⟩
theorem KtF.lst {K : PySem.W.Frag} {W : Wd} {S : Sto} {R : Cell → Sto → Prop} {Q : VK} (k : KtF K W R Q) (hs : Hs K W S) {xs : List V} {ds : List D} (rv : RVs K W.G W.e xs ds) (h : R (.lst ds) S) (p : Addr) (hp : W.H p = none) : Q (.ref p) (upd W.H p (.lst xs)) := by
  obtain ⟨n, hs2⟩ := New.laid (o := .lst xs) hs hp
  exact k ⟨W.G, W.e, upd W.H p (.lst xs)⟩ S p _ (.lst ds) n hs2 rv h
theorem f_lst {r : WA} (h : JA X es r) : JF X (.List es pos) (wLst r) := pe_weak (pe_lst h) fun σ H Q ⟨W, ρ, S, R, hH, hs, re, hw, k⟩ =>
  ⟨W, ρ, S, _, hH, hs, re, hw, fun W1 S1 xs ds l1 hs1 rv ⟨hz, h1⟩ => ⟨by rw [rv.length]; exact hz, fun p hp => (k.le l1).lst hs1 rv h1 p hp⟩⟩
theorem New.frz {K : PySem.W.Frag} {W W' : Wd} {S : Sto} {p : Addr} {o : HO} (n : New W W' p o) (hs : Hs K W' S) (ht : ∀ ps, o ≠ .tbl ps) : Le W ⟨upd W'.G p o, W'.e, W'.H⟩ ∧ Hs K ⟨upd W'.G p o, W'.e, W'.H⟩ S ∧ Same W'.G (upd W'.G p o) := by
  have sm : Same W'.G (upd W'.G p o) := fun b u q => by
    rw [upd_ne (ne_of_none q n.ng)]
    exact q
  refine ⟨⟨fun a u q => sm _ _ (n.le.g a u q), n.le.e, n.le.fr, n.le.kp, fun b q => ?_⟩, hs.frozen n.at' n.ng n.ne ht, sm⟩
  by_cases z : b = p
  · exact .inr (.inl (z ▸ n.old))
  · have q : upd W'.G p o b ≠ none := q
    rw [upd_ne z] at q
    exact n.le.gn b q
theorem OC.nb {K : PySem.W.Frag} {G : Hp} {e : List Addr} {o : HO} {c : Cell} (h : OC K G e o c) (hd : ∀ P q, c ≠ .tab P q) : ∀ ps, o ≠ .tbl ps := fun ps z => by
  subst z
  cases c <;> first
    | exact h.elim
    | exact (hd _ _ rfl).elim
theorem OC.nt {K : PySem.W.Frag} {G : Hp} {e : List Addr} {o : HO} {c : Cell} {d : D} (h : OC K G e o c) (hd : fz c d) : ∀ ps, o ≠ .tbl ps := fun ps z => by
  subst z
  cases c <;> first
    | exact h.elim
    | exact hd.elim
theorem OC.frz {K : PySem.W.Frag} {G : Hp} {e : List Addr} {o : HO} {c : Cell} {d : D} {p : Addr} (h : OC K G e o c) (hd : fz c d) (hp : G p = some o) : RV K G e (.ref p) d := by
  cases o <;> cases c <;> first
    | exact h.elim
    | exact hd.elim
    | (have hd := (show d = _ from hd)
       subst hd
       first
         | exact .lst hp h
         | exact .dk hp h.1 h.2
         | exact .dt hp h.1 h.2
         | (obtain ⟨rfl, vs, rfl, h3, h4⟩ := h
            exact .ins hp h3 h4))
theorem j_fz {w : WF} (h : JF X e w) : JE X e (wFz w) := pe_weak h fun σ H Q ⟨W, ρ, S, R, hH, hs, re, hw, k⟩ =>
  ⟨W, ρ, S, _, hH, hs, re, hw, fun W1 S1 p o c n hs1 hc ⟨d, hd, h1⟩ => by
    obtain ⟨l, hs2, sm⟩ := n.frz hs1 (hc.nt hd)
    exact k ⟨upd W1.G p o, W1.e, W1.H⟩ S1 (.ref p) d l hs2 ((hc.mono sm fun _ _ q => q).frz hd upd_same) h1⟩
theorem New.cell {K : PySem.W.Frag} {W W' : Wd} {S : Sto} {p : Addr} {o : HO} {c : Cell} (n : New W W' p o) (hs : Hs K W' S) (hc : OC K W'.G W'.e o c) : Le W ⟨W'.G, W'.e ++ [p], W'.H⟩ ∧ Hs K ⟨W'.G, W'.e ++ [p], W'.H⟩ (S ++ [c]) ∧ (W'.e ++ [p])[S.length]? = some p := by
  refine ⟨⟨n.le.g, ?_, fun a q => ?_, n.le.kp, n.le.gn⟩, hs.cell n.at' n.ng n.ne hc n.nb, ?_⟩
  · obtain ⟨t, e⟩ := n.le.e
    exact ⟨t ++ [p], by show W'.e ++ [p] = _; rw [e, List.append_assoc]⟩
  · rcases List.mem_append.mp q with q | q
    · exact n.le.fr a q
    · rw [List.mem_singleton.mp q]
      exact .inr n.old
  · rw [← hs.len, List.getElem?_append_right (Nat.le_refl _)]
    simp
theorem j_cl {w : WF} (h : JF X e w) : JE X e (wCl w) := pe_weak h fun σ H Q ⟨W, ρ, S, R, hH, hs, re, hw, k⟩ =>
  ⟨W, ρ, S, _, hH, hs, re, hw, fun W1 S1 p o c n hs1 hc h1 => by
    obtain ⟨l, hs2, at'⟩ := n.cell hs1 hc
    exact k ⟨W1.G, W1.e ++ [p], W1.H⟩ (S1 ++ [c]) (.ref p) (.ref S1.length) l hs2 (.ref at') h1⟩
end
end Tk

namespace Tk
open PySem PySem.Spec PyProof.Rows L2

/-! ### reading data -/
def seqOf (S : Sto) : D → Option (List D)
  | .tup ds => some ds
  | .lst ds => some ds
  | .rd ds => some ds
  | .ref l => match S[l]? with
    | some (.lst ds) => some ds
    | _ => none
  | _ => none
def lstOf (S : Sto) : D → Option (List D)
  | .lst ds => some ds
  | .ref l => match S[l]? with
    | some (.lst ds) => some ds
    | _ => none
  | _ => none
def intsOf : List D → Option (List Int)
  | [] => some []
  | .int i :: r => match intsOf r with
    | some ns => some (i :: ns)
    | none => none
  | _ :: _ => none
def blsOf : List D → Option (List Bool)
  | [] => some []
  | .bl i :: r => match blsOf r with
    | some ns => some (i :: ns)
    | none => none
  | _ :: _ => none
theorem intsOf_eq : ∀ {ds : List D} {ns : List Int}, intsOf ds = some ns → ds = ns.map D.int
  | [], ns, h => by
    cases h
    rfl
  | d :: r, ns, h => by
    cases d with
    | int i =>
      simp only [intsOf] at h
      split at h
      · rename_i ms hm
        cases h
        rw [intsOf_eq hm]
        rfl
      · cases h
    | _ => simp only [intsOf] at h; cases h
@[simp] theorem intsOf_map : ∀ ns : List Int, intsOf (ns.map D.int) = some ns
  | [] => rfl
  | n :: ns => by
    show intsOf (D.int n :: ns.map D.int) = _
    unfold intsOf
    rw [intsOf_map ns]
theorem blsOf_eq : ∀ {ds : List D} {ns : List Bool}, blsOf ds = some ns → ds = ns.map D.bl
  | [], ns, h => by
    cases h
    rfl
  | d :: r, ns, h => by
    cases d with
    | bl i =>
      simp only [blsOf] at h
      split at h
      · rename_i ms hm
        cases h
        rw [blsOf_eq hm]
        rfl
      · cases h
    | _ => simp only [blsOf] at h; cases h
@[simp] theorem blsOf_map : ∀ ns : List Bool, blsOf (ns.map D.bl) = some ns
  | [] => rfl
  | n :: ns => by
    show blsOf (D.bl n :: ns.map D.bl) = _
    unfold blsOf
    rw [blsOf_map ns]
section
variable {K : PySem.W.Frag} {W : Wd} {S : Sto}
theorem Hs.cellL (h : Hs K W S) {l : Nat} {a : Addr} {ds : List D} (he : W.e[l]? = some a) (hc : S[l]? = some (.lst ds)) : ∃ vs, W.H a = some (.lst vs) ∧ RVs K W.G W.e vs ds := by
  obtain ⟨_, o, h1, h2⟩ := h.at he hc (by simp)
  cases o <;> first
    | exact h2.elim
    | exact ⟨_, h1, h2⟩
theorem Hs.lst (h : Hs K W S) {x : V} {d : D} {ds : List D} (r : RV K W.G W.e x d) (hd : lstOf S d = some ds) : ∃ a vs, x = .ref a ∧ W.H a = some (.lst vs) ∧ RVs K W.G W.e vs ds := by
  cases r with
  | lst hg hv =>
    cases hd
    exact ⟨_, _, rfl, h.g _ _ hg, hv⟩
  | ref he =>
    simp only [lstOf] at hd
    split at hd
    · rename_i hc
      cases hd
      obtain ⟨vs, h1, h2⟩ := h.cellL he hc
      exact ⟨_, vs, rfl, h1, h2⟩
    · cases hd
  | _ => cases hd
theorem Hs.seq (h : Hs K W S) {x : V} {d : D} {ds : List D} (r : RV K W.G W.e x d) (hd : seqOf S d = some ds) : ∃ a vs, x = .ref a ∧ (SqL K W.H a vs ∨ SqT K W.H a vs) ∧ RVs K W.G W.e vs ds := by
  cases r with
  | lst hg hv =>
    cases hd
    exact ⟨_, _, rfl, .inl (SqL.of (h.g _ _ hg)), hv⟩
  | rd hg hv =>
    cases hd
    exact ⟨_, _, rfl, .inl (h.g.seq hg), hv⟩
  | tup hg hv =>
    cases hd
    exact ⟨_, _, rfl, .inr (Same.sqT h.g (tq hg)), hv⟩
  | ref he =>
    simp only [seqOf] at hd
    split at hd
    · rename_i hc
      cases hd
      obtain ⟨vs, h1, h2⟩ := h.cellL he hc
      exact ⟨_, vs, rfl, .inl (SqL.of h1), h2⟩
    · cases hd
  | _ => cases hd
theorem Kt.now {R : QE} {Q : VK} (k : Kt K W R Q) (hs : Hs K W S) {v : V} {d : D} (r : RV K W.G W.e v d) (h : R d S) : Q v W.H := k W S v d (Le.refl W) hs r h
/-- a new tuple -/
theorem Kt.tup {R : QE} {Q : VK} (k : Kt K W R Q) (hs : Hs K W S) {xs : List V} {ds : List D} (rv : RVs K W.G W.e xs ds) (h : R (.tup ds) S) (p : Addr) (hp : W.H p = none) : Q (.ref p) (upd W.H p (.tup xs)) := by
  obtain ⟨n, hs2⟩ := New.laid (o := .tup xs) hs hp
  obtain ⟨l, hs3, sm⟩ := n.frz hs2 (fun _ z => by cases z)
  exact k ⟨upd W.G p (.tup xs), W.e, upd W.H p (.tup xs)⟩ S (.ref p) (.tup ds) l hs3 (.tup upd_same (rv.mono sm fun _ _ q => q)) h
end

/-! ### operators on ints -/
def zI (C : Int → Int → Prop) (g : Int → Int → Int) : Z2 := fun x y S Q => ∃ i j, x = .int i ∧ y = .int j ∧ C i j ∧ Q (.int (g i j)) S
def zIb (g : Int → Int → Bool) : Z2 := fun x y S Q => ∃ i j, x = .int i ∧ y = .int j ∧ Q (.bl (g i j)) S
section
variable {X : Cx}
theorem o_int {f : Value → Value → Sem Value} {C : Int → Int → Prop} {g : Int → Int → Int} (h : OpR X f (rI C fun i j => .int (g i j))) : OpR X f (r2 X.K (zI C g)) := by
  intro pins s σ H x y v u Q I rx ry ⟨W, S, dx, dy, R, hH, hs, r1, r2, ⟨i, j, e1, e2, hc, hq⟩, k⟩
  subst e1 e2
  cases r1
  cases r2
  exact h pins s σ H _ _ v u Q I rx ry ⟨i, j, rfl, rfl, hc, hH ▸ k.now hs (.int _) hq⟩
theorem o_int0 {f : Value → Value → Sem Value} {g : Int → Int → Int} (h : OpR X f (rI0 fun i j => .int (g i j))) : OpR X f (r2 X.K (zI (fun _ _ => True) g)) := by
  intro pins s σ H x y v u Q I rx ry ⟨W, S, dx, dy, R, hH, hs, r1, r2, ⟨i, j, e1, e2, hc, hq⟩, k⟩
  subst e1 e2
  cases r1
  cases r2
  exact h pins s σ H _ _ v u Q I rx ry ⟨i, j, rfl, rfl, hH ▸ k.now hs (.int _) hq⟩
theorem o_intB {f : Value → Value → Sem Value} {g : Int → Int → Bool} (h : OpR X f (rI0 fun i j => .bl (g i j))) : OpR X f (r2 X.K (zIb g)) := by
  intro pins s σ H x y v u Q I rx ry ⟨W, S, dx, dy, R, hH, hs, r1, r2, ⟨i, j, e1, e2, hq⟩, k⟩
  subst e1 e2
  cases r1
  cases r2
  exact h pins s σ H _ _ v u Q I rx ry ⟨i, j, rfl, rfl, hH ▸ k.now hs (.bl _) hq⟩
abbrev zSub : Z2 := zI (fun _ _ => True) fun i j => i - j
abbrev zMul : Z2 := zI CMul fun i j => i * j
abbrev zDiv : Z2 := zI CDivN fun i j => i.fdiv j
abbrev zMod : Z2 := zI (fun _ j => j ≠ 0) fun i j => i.fmod j
abbrev zPow : Z2 := zI CPow fun i j => i ^ j.toNat
abbrev zShl : Z2 := zI CPow fun i j => i * 2 ^ j.toNat
abbrev zShr : Z2 := zI (fun _ j => 0 ≤ j) fun i j => i / 2 ^ j.toNat
abbrev zAnd : Z2 := zI (fun _ _ => True) Builtin.bitAnd
abbrev zOr : Z2 := zI (fun _ _ => True) Builtin.bitOr
abbrev zLt : Z2 := zIb fun i j => decide (i < j)
abbrev zLe : Z2 := zIb fun i j => decide (i ≤ j)
abbrev zGt : Z2 := zIb fun i j => decide (j < i)
abbrev zGe : Z2 := zIb fun i j => decide (j ≤ i)
theorem o_sub : OpR X (binaryOp .Sub) (r2 X.K zSub) := o_int0 op_sub
theorem o_mulI : OpR X (binaryOp .Mult) (r2 X.K zMul) := o_int op_mul
theorem o_div : OpR X (binaryOp .FloorDiv) (r2 X.K zDiv) := o_int op_fdivN
theorem o_mod : OpR X (binaryOp .Mod) (r2 X.K zMod) := o_int op_modN
theorem o_pow : OpR X (binaryOp .Pow) (r2 X.K zPow) := o_int op_pow
theorem o_shl : OpR X (binaryOp .LShift) (r2 X.K zShl) := o_int op_shl
theorem o_shr : OpR X (binaryOp .RShift) (r2 X.K zShr) := o_int op_shr
theorem o_and : OpR X (binaryOp .BitAnd) (r2 X.K zAnd) := o_int0 op_and
theorem o_or : OpR X (binaryOp .BitOr) (r2 X.K zOr) := o_int0 op_or
theorem o_lt : OpR X (compareOp .Lt) (r2 X.K zLt) := o_intB op_lt
theorem o_le : OpR X (compareOp .LtE) (r2 X.K zLe) := o_intB op_le
theorem o_gt : OpR X (compareOp .Gt) (r2 X.K zGt) := o_intB op_gt
theorem o_ge : OpR X (compareOp .GtE) (r2 X.K zGe) := o_intB op_ge
/-- a + b of ints, tuples, texts -/
def zAdd : Z2 := fun x y S Q => match x, y with
  | .int i, .int j => Q (.int (i + j)) S
  | .tup as, .tup bs => as.length + bs.length ≤ sizeLine ∧ Q (.tup (as ++ bs)) S
  | .str a, .str b => a.length + b.length ≤ sizeLine ∧ Q (.str (a ++ b)) S
  | _, _ => False
theorem RVs.nil_iff {K : PySem.W.Frag} {G : Hp} {e : List Addr} {vs : List V} {ds : List D} (h : RVs K G e vs ds) : vs = [] ↔ ds = [] := by
  cases h <;> simp
theorem o_add : OpR X (binaryOp .Add) (r2 X.K zAdd) := by
  intro pins s σ H x y v u Q I rx ry ⟨W, S, dx, dy, R, hH, hs, q1, q2, hz, k⟩
  cases dx <;> cases dy <;> try (exact hz.elim)
  · cases q1
    cases q2
    exact op_add pins s σ H _ _ v u Q I rx ry ⟨_, _, rfl, rfl, hH ▸ k.now hs (.int _) hz⟩
  · cases q1
    cases q2
    exact op_add_str pins s σ H _ _ v u Q I rx ry ⟨_, _, rfl, rfl, hz.1, hH ▸ k.now hs (.str _) hz.2⟩
  · rename_i as bs
    cases q1 with
    | tup ha va =>
      cases q2 with
      | tup hb vb =>
        rename_i xs b ys
        subst hH
        obtain ⟨hl, hq⟩ := hz
        refine op_catA pins s σ W.H _ _ v u Q I rx ry ⟨_, _, xs, ys, rfl, rfl, Same.sqT hs.g (tq ha), Same.sqT hs.g (tq hb), by rw [va.length, vb.length]; exact hl, fun e => ?_, fun e e2 => ?_, fun e e2 p hp => ?_⟩
        · subst e
          cases va
          exact k.now hs (.tup hb vb) hq
        · subst e2
          cases vb
          rw [List.append_nil] at hq
          exact k.now hs (.tup ha va) hq
        · exact k.tup hs (va.append vb) hq p hp
/-- a list + a list: a new one -/
def zCat : ZF2 := fun x y S Q => ∃ as bs, lstOf S x = some as ∧ lstOf S y = some bs ∧ as.length + bs.length ≤ sizeLine ∧ Q (.lst (as ++ bs)) S
theorem o_cat : OpR X (binaryOp .Add) (r2F X.K zCat) := by
  intro pins s σ H x y v u Q I rx ry ⟨W, S, dx, dy, R, hH, hs, q1, q2, ⟨as, bs, h1, h2, hl, hq⟩, k⟩
  subst hH
  obtain ⟨a, xs, rfl, ha, va⟩ := hs.lst q1 h1
  obtain ⟨b, ys, rfl, hb, vb⟩ := hs.lst q2 h2
  exact op_cat pins s σ W.H _ _ v u Q I rx ry ⟨a, b, xs, ys, rfl, rfl, ha, hb, by rw [va.length, vb.length]; exact hl, fun p hp => k.lst hs (va.append vb) hq p hp⟩
/-- a list * an int: a new one -/
def zRep : ZF2 := fun x y S Q => ∃ as n, lstOf S x = some as ∧ y = .int n ∧ -(2 ^ 63) ≤ n ∧ n < 2 ^ 63 ∧ as.length * n.toNat ≤ sizeLine ∧ Q (.lst (List.replicate n.toNat as).flatten) S
theorem o_rep : OpR X (binaryOp .Mult) (r2F X.K zRep) := by
  intro pins s σ H x y v u Q I rx ry ⟨W, S, dx, dy, R, hH, hs, q1, q2, ⟨as, n, h1, e2, b1, b2, hl, hq⟩, k⟩
  subst hH e2
  obtain ⟨a, xs, rfl, ha, va⟩ := hs.lst q1 h1
  cases q2
  exact op_rep pins s σ W.H _ _ v u Q I rx ry ⟨a, n, xs, rfl, rfl, ha, b1, b2, by rw [va.length]; exact hl, fun p hp => k.lst hs (va.rep _) hq p hp⟩
theorem tOp_weakF {K : PySem.W.Frag} {z : ZF2} {wa wb : WE} {σ : St} {H : Hp} {Q : VK} (h : tF K (fun ρ S Q => wa ρ S fun x S1 => wb ρ S1 fun y S2 => z x y S2 Q) σ H Q) : tOp (r2F K z) (tE K wa) (tE K wb) σ H Q := by
  obtain ⟨W, ρ, S, R, rfl, hs, re, hw, k⟩ := h
  exact ⟨W, ρ, S, _, rfl, hs, re, hw, fun W1 S1 x dx l1 hs1 r1 h1 => ⟨W1, ρ, S1, _, rfl, hs1, re.mono l1, h1, fun W2 S2 y dy l2 hs2 r2 h2 => ⟨W2, S2, dx, dy, R, rfl, hs2, l2.rv r1, r2, h2, k.le (l1.trans l2)⟩⟩⟩
def wBF (z : ZF2) (a b : WE) : WF := fun ρ S Q => a ρ S fun x S1 => b ρ S1 fun y S2 => z x y S2 Q
theorem f_op {op : Operator} {z : ZF2} {a b : Expr} {wa wb : WE} {pos : Pos} (ho : OpR X (binaryOp op) (r2F X.K z)) (ha : JE X a wa) (hb : JE X b wb) : JF X (.BinOp a op b pos) (wBF z wa wb) := pe_weak (pe_op ho ha hb) fun _ _ _ => tOp_weakF
/-- -a -/
def zNeg : Z1 := fun x S Q => ∃ i, x = .int i ∧ Q (.int (-i)) S
theorem o_neg : UnR X (unaryOp .USub) (r1 X.K zNeg) := by
  intro pins s σ H x v Q I rx ⟨W, S, dx, R, hH, hs, q1, ⟨i, e1, hq⟩, k⟩
  subst e1
  cases q1
  exact un_neg pins s σ H _ v Q I rx ⟨i, rfl, hH ▸ k.now hs (.int _) hq⟩
def zInv : Z1 := fun x S Q => ∃ i, x = .int i ∧ Q (.int (Builtin.bitNot i)) S
theorem o_inv : UnR X (unaryOp .Invert) (r1 X.K zInv) := by
  intro pins s σ H x v Q I rx ⟨W, S, dx, R, hH, hs, q1, ⟨i, e1, hq⟩, k⟩
  subst e1
  cases q1
  exact un_inv pins s σ H _ v Q I rx ⟨i, rfl, hH ▸ k.now hs (.int _) hq⟩

/-! ### items, slices -/
def zIx : Z2 := fun x y S Q => ∃ ds i d, seqOf S x = some ds ∧ y = .int i ∧ atI ds i = some d ∧ Q d S
theorem RVs.atI {K : PySem.W.Frag} {G : Hp} {e : List Addr} {vs : List V} {ds : List D} {i : Int} {d : D} (h : RVs K G e vs ds) (q : L2.atI ds i = some d) : ∃ v, L2.atI vs i = some v ∧ RV K G e v d := by
  unfold L2.atI at q ⊢
  rw [h.length]
  cases z : ixN ds.length i with
  | none => rw [z] at q; cases q
  | some j =>
    rw [z] at q
    exact h.get q
theorem o_ix : IxR X (r2 X.K zIx) := by
  intro value slice pins s σ H x y v u Q I rx ry ⟨W, S, dx, dy, R, hH, hs, q1, q2, ⟨ds, i, d, h1, e2, h3, hq⟩, k⟩ hsub
  subst hH e2
  obtain ⟨a, vs, rfl, ha, va⟩ := hs.seq q1 h1
  cases q2
  obtain ⟨w, hw, rw'⟩ := va.atI h3
  refine ix_seq value slice pins s σ W.H _ _ v u Q I rx ry ?_ hsub
  rcases ha with ha | ha
  · exact .inl ⟨a, vs, i, w, rfl, rfl, ha, hw, k.now hs rw' hq⟩
  · exact .inr (.inl ⟨a, vs, i, w, rfl, rfl, ha, hw, k.now hs rw' hq⟩)
def cutD (xs : List D) (lo hi : Option Int) : List D := (xs.drop (HT.sIx xs.length 0 lo)).take (HT.sIx xs.length xs.length hi - HT.sIx xs.length 0 lo)
theorem RVs.cut {K : PySem.W.Frag} {G : Hp} {e : List Addr} {vs : List V} {ds : List D} (h : RVs K G e vs ds) (lo hi : Option Int) : RVs K G e (cutV vs lo hi) (cutD ds lo hi) := by
  unfold cutV cutD
  rw [h.length]
  exact (h.drop _).take _
/-- a slice's bound -/
abbrev WO := Nv → Sto → (Option Int → Sto → Prop) → Prop
def tO (K : PySem.W.Frag) (w : WO) : TO := fun σ H Q => ∃ (W : Wd) (ρ : Nv) (S : Sto) (R : Option Int → Sto → Prop), W.H = H ∧ Hs K W S ∧ RE K W σ ρ ∧ w ρ S R ∧ ∀ (W' : Wd) (S' : Sto) (b : Option Int), Le W W' → Hs K W' S' → R b S' → Q b W'.H
def wNo : WO := fun _ S Q => Q none S
def wSo (w : WE) : WO := fun ρ S Q => w ρ S fun x S1 => ∃ i, x = .int i ∧ Q (some i) S1
theorem po_weak {e : Option Expr} {t t' : TO} (h : PO X e t) (w : ∀ σ H Q, t' σ H Q → t σ H Q) : PO X e t' := ⟨fun pins s σ H Q I q => h.run pins s σ H Q I (w σ H Q q)⟩
theorem jo_none : PO X none (tO X.K wNo) := po_weak po_none fun σ H Q ⟨W, ρ, S, R, hH, hs, re, hw, k⟩ => hH ▸ k W S none (Le.refl W) hs hw
theorem jo_some {e : Expr} {w : WE} (h : JE X e w) : PO X (some e) (tO X.K (wSo w)) := po_weak (po_some h) fun σ H Q ⟨W, ρ, S, R, hH, hs, re, hw, k⟩ =>
  ⟨W, ρ, S, _, hH, hs, re, hw, fun W1 S1 x dx l1 hs1 q1 ⟨i, e1, h1⟩ => by
    subst e1
    cases q1
    exact ⟨i, rfl, k W1 S1 (some i) l1 hs1 h1⟩⟩
/-- t[lo:hi] of a tuple -/
def wSlT (w : WE) (lo hi : WO) : WE := fun ρ S Q => w ρ S fun x S1 => lo ρ S1 fun a S2 => hi ρ S2 fun b S3 => ∃ ds, x = .tup ds ∧ Q (.tup (cutD ds a b)) S3
def rSlTD (K : PySem.W.Frag) : V → Option Int → Option Int → Hp → VK → Prop := fun x a b H Q => ∃ (W : Wd) (S : Sto) (ds : List D) (R : QE), W.H = H ∧ Hs K W S ∧ RV K W.G W.e x (.tup ds) ∧ R (.tup (cutD ds a b)) S ∧ Kt K W R Q
theorem sl_tupD : SlR X (rSlTD X.K) := by
  intro pins s σ H x v vl vu lo hi sl Q I rx hsl pl pu ⟨W, S, ds, R, hH, hs, q1, hq, k⟩
  subst hH
  cases q1 with
  | tup ha va =>
    rename_i a vs
    refine sl_tupA pins s σ W.H _ v vl vu lo hi sl Q I rx hsl pl pu ⟨a, vs, rfl, Same.sqT hs.g (tq ha), fun ⟨z1, z2⟩ => ?_, fun _ p hp => k.tup hs (va.cut lo hi) hq p hp⟩
    have e : cutD ds lo hi = ds := by
      unfold cutD
      rw [va.length] at z1 z2
      rw [z1, z2]
      simp
    rw [e] at hq
    exact k.now hs (.tup ha va) hq
theorem tSl_weak {K : PySem.W.Frag} {w : WE} {lo hi : WO} {σ : St} {H : Hp} {Q : VK} {r : V → Option Int → Option Int → Hp → VK → Prop} {R0 : Type} {T : Wd → Sto → (R0 → Sto → Prop) → VK → Prop} {z : D → Option Int → Option Int → Sto → (R0 → Sto → Prop) → Prop}
    (hT : ∀ {W W1 : Wd} {S : Sto} {R : R0 → Sto → Prop} {Q : VK}, T W S R Q → Le W W1 → ∀ S1, T W1 S1 R Q)
    (hr : ∀ (W : Wd) (S : Sto) (x : V) (d : D) (a b : Option Int) (R : R0 → Sto → Prop) (Q : VK), Hs K W S → RV K W.G W.e x d → z d a b S R → T W S R Q → r x a b W.H Q)
    (h : ∃ (W : Wd) (ρ : Nv) (S : Sto) (R : R0 → Sto → Prop), W.H = H ∧ Hs K W S ∧ RE K W σ ρ ∧ (w ρ S fun x S1 => lo ρ S1 fun a S2 => hi ρ S2 fun b S3 => z x a b S3 R) ∧ T W S R Q) : tSl r (tE K w) (tO K lo) (tO K hi) σ H Q := by
  obtain ⟨W, ρ, S, R, rfl, hs, re, hw, k⟩ := h
  exact ⟨W, ρ, S, _, rfl, hs, re, hw, fun W1 S1 x dx l1 hs1 q1 h1 => ⟨W1, ρ, S1, _, rfl, hs1, re.mono l1, h1, fun W2 S2 a l2 hs2 h2 => ⟨W2, ρ, S2, _, rfl, hs2, (re.mono l1).mono l2, h2, fun W3 S3 b l3 hs3 h3 => hr W3 S3 x dx a b R Q hs3 (l3.rv (l2.rv q1)) h3 (hT k (l1.trans (l2.trans l3)) S3)⟩⟩⟩
theorem j_slT {e : Expr} {lo hi : Option Expr} {w : WE} {wl wh : WO} {p2 pos : Pos} (he : JE X e w) (hl : PO X lo (tO X.K wl)) (hh : PO X hi (tO X.K wh)) : JE X (.Subscript e (.Slice lo hi none p2) pos) (wSlT w wl wh) :=
  pe_weak (pe_slice sl_tupD he hl hh) fun σ H Q h => tSl_weak (R0 := D) (T := fun W _ R Q => Kt X.K W R Q) (z := fun x a b S Q => ∃ ds, x = .tup ds ∧ Q (.tup (cutD ds a b)) S) (fun k l _ => k.le l)
    (fun W S x d a b R Q hs q1 ⟨ds, e1, h1⟩ k => by
      subst e1
      exact ⟨W, S, ds, R, rfl, hs, q1, h1, k⟩) h
/-- xs[lo:hi] of a list: a new list -/
def wSlL (w : WE) (lo hi : WO) : WF := fun ρ S Q => w ρ S fun x S1 => lo ρ S1 fun a S2 => hi ρ S2 fun b S3 => ∃ ds, lstOf S3 x = some ds ∧ Q (.lst (cutD ds a b)) S3
theorem f_slL {e : Expr} {lo hi : Option Expr} {w : WE} {wl wh : WO} {p2 pos : Pos} (he : JE X e w) (hl : PO X lo (tO X.K wl)) (hh : PO X hi (tO X.K wh)) : JF X (.Subscript e (.Slice lo hi none p2) pos) (wSlL w wl wh) :=
  pe_weak (pe_slice sl_list he hl hh) fun σ H Q h => tSl_weak (R0 := Cell) (T := fun W _ R Q => KtF X.K W R Q) (z := fun x a b S Q => ∃ ds, lstOf S x = some ds ∧ Q (.lst (cutD ds a b)) S) (fun k l _ => k.le l)
    (fun W S x d a b R Q hs q1 ⟨ds, e1, h1⟩ k => by
      obtain ⟨p, vs, rfl, ha, va⟩ := hs.lst q1 e1
      exact ⟨p, vs, rfl, SqL.of ha, fun p hp => k.lst hs (va.cut a b) h1 p hp⟩) h
/-- xs[::-1]: a new list -/
def wRev (w : WE) : WF := fun ρ S Q => w ρ S fun x S1 => ∃ ds, lstOf S1 x = some ds ∧ Q (.lst ds.reverse) S1
theorem f_rev {e : Expr} {w : WE} {k : Nat} {p1 p2 p3 pos : Pos} (he : JE X e w) : JF X (.Subscript e (.Slice none none (some (.UnaryOp .USub (.Constant (.int 1) k p1) p2)) p3) pos) (wRev w) :=
  pe_weak (pe_revL he) fun σ H Q ⟨W, ρ, S, R, hH, hs, re, hw, k⟩ => ⟨W, ρ, S, _, hH, hs, re, hw, fun W1 S1 x dx l1 hs1 q1 ⟨ds, e1, h1⟩ => by
    obtain ⟨p, vs, rfl, ha, va⟩ := hs1.lst q1 e1
    exact ⟨p, vs, rfl, SqL.of ha, fun p hp => (k.le l1).lst hs1 va.reverse h1 p hp⟩⟩

/-! ### comparisons -/
mutual
def toP (S : Sto) : D → Option PyData
  | .non => some .none
  | .bl b => some (.bool b)
  | .int i => some (.int i)
  | .str x => some (.str x)
  | .tup ds => match toPs S ds with
    | some ps => some (.tuple ps)
    | none => none
  | .lst ds => match toPs S ds with
    | some ps => some (.list ps)
    | none => none
  | _ => none
def toPs (S : Sto) : List D → Option (List PyData)
  | [] => some []
  | d :: ds => match toP S d, toPs S ds with
    | some p, some ps => some (p :: ps)
    | _, _ => none
end
/-- a cell's list, too -/
def toPc (S : Sto) : D → Option PyData
  | .ref l => match S[l]? with
    | some (.lst ds) => match toPs S ds with
      | some ps => some (.list ps)
      | none => none
    | _ => none
  | d => toP S d
section
variable {K : PySem.W.Frag} {W : Wd} {S : Sto}
mutual
theorem toP_dp (h : Hs K W S) : ∀ (d : D) (x : V) (p : PyData), RV K W.G W.e x d → toP S d = some p → Dp K W.H x p
  | .non, _, _, r, e => by
    cases r
    cases e
    exact .non
  | .bl b, _, _, r, e => by
    cases r
    cases e
    exact .bl b
  | .int i, _, _, r, e => by
    cases r
    cases e
    exact .int i
  | .str z, _, _, r, e => by
    cases r
    cases e
    exact .str z
  | .tup ds, _, _, r, e => by
    cases r with
    | tup hg hv =>
      simp only [toP] at e
      split at e
      · rename_i ps hp
        cases e
        exact .tup (Same.sqT h.g (tq hg)) (toPs_dp h ds _ ps hv hp)
      · cases e
  | .lst ds, _, _, r, e => by
    cases r with
    | lst hg hv =>
      simp only [toP] at e
      split at e
      · rename_i ps hp
        cases e
        exact .lst (SqL.of (h.g _ _ hg)) (toPs_dp h ds _ ps hv hp)
      · cases e
  | .ref _, _, _, _, e => by simp [toP] at e
  | .rd _, _, _, _, e => by simp [toP] at e
  | .dk _, _, _, _, e => by simp [toP] at e
  | .dt _, _, _, _, e => by simp [toP] at e
  | .ins _ _ _, _, _, _, e => by simp [toP] at e
theorem toPs_dp (h : Hs K W S) : ∀ (ds : List D) (xs : List V) (ps : List PyData), RVs K W.G W.e xs ds → toPs S ds = some ps → DpAll K W.H xs ps
  | [], _, _, r, e => by
    cases r
    cases e
    exact .nil
  | d :: ds, _, _, r, e => by
    cases r with
    | cons r1 r2 =>
      simp only [toPs] at e
      split at e
      · rename_i p ps h1 h2
        cases e
        exact .cons (toP_dp h d _ p r1 h1) (toPs_dp h ds _ ps r2 h2)
      · cases e
end
theorem toPc_dp (h : Hs K W S) {d : D} {x : V} {p : PyData} (r : RV K W.G W.e x d) (e : toPc S d = some p) : Dp K W.H x p := by
  cases d with
  | ref l =>
    cases r with
    | ref he =>
      simp only [toPc] at e
      split at e
      · rename_i ds hc
        split at e
        · rename_i ps hp
          cases e
          obtain ⟨vs, h1, h2⟩ := h.cellL he hc
          exact .lst (SqL.of h1) (toPs_dp h ds vs ps h2 hp)
        · cases e
      · cases e
  | _ => exact toP_dp h _ x p r e
end
def zEq : Z2 := fun x y S Q => ∃ p q, toPc S x = some p ∧ toPc S y = some q ∧ SeqAt.shaped p = true ∧ SeqAt.shaped q = true ∧ Q (.bl (PyData.eqv p q)) S
def zNe : Z2 := fun x y S Q => ∃ p q, toPc S x = some p ∧ toPc S y = some q ∧ SeqAt.shaped p = true ∧ SeqAt.shaped q = true ∧ Q (.bl (!PyData.eqv p q)) S
theorem o_eq (hu : X.A.units + 64 < cLine) : OpR X (compareOp .Eq) (r2 X.K zEq) := by
  intro pins s σ H x y v u Q I rx ry ⟨W, S, dx, dy, R, hH, hs, q1, q2, ⟨p, q, h1, h2, s1, s2, hq⟩, k⟩
  subst hH
  exact op_eqD hu pins s σ W.H _ _ v u Q I rx ry ⟨p, q, toPc_dp hs q1 h1, toPc_dp hs q2 h2, s1, s2, k.now hs (.bl _) hq⟩
theorem o_ne (hu : X.A.units + 64 < cLine) : OpR X (compareOp .NotEq) (r2 X.K zNe) := by
  intro pins s σ H x y v u Q I rx ry ⟨W, S, dx, dy, R, hH, hs, q1, q2, ⟨p, q, h1, h2, s1, s2, hq⟩, k⟩
  subst hH
  exact op_neD hu pins s σ W.H _ _ v u Q I rx ry ⟨p, q, toPc_dp hs q1 h1, toPc_dp hs q2 h2, s1, s2, k.now hs (.bl _) hq⟩
/-- an int in a list or tuple of ints -/
def zIn : Z2 := fun x y S Q => ∃ i ds ns, x = .int i ∧ seqOf S y = some ds ∧ intsOf ds = some ns ∧ Q (.bl (decide (i ∈ ns))) S
def zNotIn : Z2 := fun x y S Q => ∃ i ds ns, x = .int i ∧ seqOf S y = some ds ∧ intsOf ds = some ns ∧ Q (.bl (!decide (i ∈ ns))) S
theorem inV_ints (i : Int) : ∀ ns : List Int, inV (.int i) (ns.map V.int) = decide (i ∈ ns)
  | [] => rfl
  | n :: ns => by
    have ih := inV_ints i ns
    show (eqV (.int n) (.int i) || inV (.int i) (ns.map V.int)) = _
    rw [ih]
    show ((n == i) || _) = _
    by_cases e : i = n
    · subst e
      simp
    · simp [e, show ¬ n = i from fun z => e z.symm]
theorem flat_ints : ∀ ns : List Int, (ns.map V.int).all flatV = true
  | [] => rfl
  | n :: ns => by
    show (flatV (.int n) && (ns.map V.int).all flatV) = true
    rw [flat_ints ns]
    rfl
theorem o_in : OpR X (compareOp .In) (r2 X.K zIn) := by
  intro pins s σ H x y v u Q I rx ry ⟨W, S, dx, dy, R, hH, hs, q1, q2, ⟨i, ds, ns, e1, h2, h3, hq⟩, k⟩
  subst hH e1
  cases q1
  obtain ⟨a, vs, rfl, ha, va⟩ := hs.seq q2 h2
  rw [intsOf_eq h3] at va
  obtain rfl := va.ints
  refine op_in_seq pins s σ W.H _ _ v u Q I rx ry ⟨a, _, rfl, ha, rfl, flat_ints ns, ?_⟩
  simp only [Bool.false_eq_true, if_false, inV_ints]
  exact k.now hs (.bl _) hq
theorem o_notIn : OpR X (compareOp .NotIn) (r2 X.K zNotIn) := by
  intro pins s σ H x y v u Q I rx ry ⟨W, S, dx, dy, R, hH, hs, q1, q2, ⟨i, ds, ns, e1, h2, h3, hq⟩, k⟩
  subst hH e1
  cases q1
  obtain ⟨a, vs, rfl, ha, va⟩ := hs.seq q2 h2
  rw [intsOf_eq h3] at va
  obtain rfl := va.ints
  refine op_notIn_seq pins s σ W.H _ _ v u Q I rx ry ⟨a, _, rfl, ha, rfl, flat_ints ns, ?_⟩
  simp only [if_true, inV_ints]
  exact k.now hs (.bl _) hq
/-- is None, is not None; is True .. -/
def isNon : D → Bool
  | .non => true
  | _ => false
def zIsN : Z2 := fun x y S Q => y = .non ∧ Q (.bl (isNon x)) S
def zNotN : Z2 := fun x y S Q => y = .non ∧ Q (.bl (!isNon x)) S
theorem RV.isNon {K : PySem.W.Frag} {G : Hp} {e : List Addr} {x : V} {d : D} (r : RV K G e x d) : decide (x = .non) = Tk.isNon d := by
  cases r <;> simp [Tk.isNon]
theorem o_isN : OpR X (compareOp .Is) (r2 X.K zIsN) := by
  intro pins s σ H x y v u Q I rx ry ⟨W, S, dx, dy, R, hH, hs, q1, q2, ⟨e2, hq⟩, k⟩
  subst hH e2
  cases q2
  exact op_isN pins s σ W.H _ _ v u Q I rx ry ⟨rfl, by rw [q1.isNon]; exact k.now hs (.bl _) hq⟩
theorem o_notN : OpR X (compareOp .IsNot) (r2 X.K zNotN) := by
  intro pins s σ H x y v u Q I rx ry ⟨W, S, dx, dy, R, hH, hs, q1, q2, ⟨e2, hq⟩, k⟩
  subst hH e2
  cases q2
  exact op_notN pins s σ W.H _ _ v u Q I rx ry ⟨rfl, by rw [q1.isNon]; exact k.now hs (.bl _) hq⟩
def zIsB : Z2 := fun x y S Q => ∃ a b : Bool, x = .bl a ∧ y = .bl b ∧ Q (.bl (decide (a = b))) S
def zNotB : Z2 := fun x y S Q => ∃ a b : Bool, x = .bl a ∧ y = .bl b ∧ Q (.bl (!decide (a = b))) S
theorem o_isB : OpR X (compareOp .Is) (r2 X.K zIsB) := by
  intro pins s σ H x y v u Q I rx ry ⟨W, S, dx, dy, R, hH, hs, q1, q2, ⟨a, b, e1, e2, hq⟩, k⟩
  subst hH e1 e2
  cases q1
  cases q2
  exact op_isBl pins s σ W.H _ _ v u Q I rx ry ⟨a, b, rfl, rfl, k.now hs (.bl _) hq⟩
theorem o_notB : OpR X (compareOp .IsNot) (r2 X.K zNotB) := by
  intro pins s σ H x y v u Q I rx ry ⟨W, S, dx, dy, R, hH, hs, q1, q2, ⟨a, b, e1, e2, hq⟩, k⟩
  subst hH e1 e2
  cases q1
  cases q2
  exact op_notBl pins s σ W.H _ _ v u Q I rx ry ⟨a, b, rfl, rfl, k.now hs (.bl _) hq⟩
end
end Tk

namespace Tk
open PySem PySem.Spec PyProof.Rows L2

/-! ### tests -/
def wTb (w : WE) : WT := fun ρ S Q => w ρ S fun x S1 => ∃ c, x = .bl c ∧ Q c S1
def wAndT (a b : WT) : WT := fun ρ S Q => a ρ S fun c S1 => if c = true then b ρ S1 Q else Q false S1
def wOrT (a b : WT) : WT := fun ρ S Q => a ρ S fun c S1 => if c = true then Q true S1 else b ρ S1 Q
def wNotT (a : WT) : WT := fun ρ S Q => a ρ S fun c S1 => Q (!c) S1
def wAndV (a b : WE) : WE := fun ρ S Q => a ρ S fun x S1 => ∃ c, x = .bl c ∧ if c = true then b ρ S1 Q else Q (.bl false) S1
def wOrV (a b : WE) : WE := fun ρ S Q => a ρ S fun x S1 => ∃ c, x = .bl c ∧ if c = true then Q (.bl true) S1 else b ρ S1 Q
def wNotV (a : WE) : WE := fun ρ S Q => a ρ S fun x S1 => ∃ c, x = .bl c ∧ Q (.bl (!c)) S1
def wIfE (t : WT) (a b : WE) : WE := fun ρ S Q => t ρ S fun c S1 => if c = true then a ρ S1 Q else b ρ S1 Q
/-- a < b < c -/
def wChain (z z' : Z2) (a b c : WE) : WE := fun ρ S Q => a ρ S fun x S1 => b ρ S1 fun y S2 => z x y S2 fun r S3 => ∃ k, r = .bl k ∧ if k = true then c ρ S3 (fun u S4 => z' y u S4 Q) else Q (.bl false) S3
section
variable {X : Cx} {e a b c : Expr} {rest : List Expr} {wa wb wc : WE} {ta tb : WT} {pos : Pos}
theorem tB_weak {K : PySem.W.Frag} {w : WE} {σ : St} {H : Hp} {Q : Bool → Hp → Prop} (h : tT K (wTb w) σ H Q) : tB (tE K w) σ H Q := by
  obtain ⟨W, ρ, S, R, rfl, hs, re, hw, k⟩ := h
  refine ⟨W, ρ, S, _, rfl, hs, re, hw, fun W1 S1 x dx l1 hs1 q1 ⟨c, e1, h1⟩ => ?_⟩
  subst e1
  cases q1
  exact ⟨c, rfl, k W1 S1 c l1 hs1 h1⟩
theorem jt_val (h : JE X e wa) (he : ∀ whole, isTrue e X.env whole = (do let v ← whole; standAt e.pos; holding [v] (truthy v)) := by intro _; rfl) : JT X e (wTb wa) := pt_weak (pt_val h he) fun _ _ _ => tB_weak
theorem jt_cmp {op : CmpOp} {z : Z2} (ho : OpR X (compareOp op) (r2 X.K z)) (ha : JE X a wa) (hb : JE X b wb) (hm : behindInMarks op b = false) : JT X (.Compare a [op] [b] pos) (wTb (wB z wa wb)) :=
  pt_weak (pt_cmpR ho ha hb hm) fun σ H Q ⟨W, ρ, S, R, hH, hs, re, hw, k⟩ => tOp_weak ⟨W, ρ, S, _, hH, hs, re, hw, fun W1 S1 x dx l1 hs1 q1 ⟨c, e1, h1⟩ => by
    subst e1
    cases q1
    exact ⟨c, rfl, k W1 S1 c l1 hs1 h1⟩⟩
theorem jw_and1 (h : JT X a ta) : JW X (.BoolOp .And [a] pos) ta := pw_and1 h
theorem jw_or1 (h : JT X a ta) : JW X (.BoolOp .Or [a] pos) ta := pw_or1 h
theorem jw_and (ha : JT X a ta) (hb : JW X (.BoolOp .And (b :: rest) pos) tb) : JW X (.BoolOp .And (a :: b :: rest) pos) (wAndT ta tb) := pw_weak (pw_and ha hb) fun σ H Q ⟨W, ρ, S, R, hH, hs, re, hw, k⟩ =>
  ⟨W, ρ, S, _, hH, hs, re, hw, fun W1 S1 c l1 hs1 h1 => by
    cases c with
    | true => exact ⟨W1, ρ, S1, R, rfl, hs1, re.mono l1, h1, fun W2 S2 b l2 hs2 h2 => k W2 S2 b (l1.trans l2) hs2 h2⟩
    | false => exact k W1 S1 false l1 hs1 h1⟩
theorem jw_or (ha : JT X a ta) (hb : JW X (.BoolOp .Or (b :: rest) pos) tb) : JW X (.BoolOp .Or (a :: b :: rest) pos) (wOrT ta tb) := pw_weak (pw_or ha hb) fun σ H Q ⟨W, ρ, S, R, hH, hs, re, hw, k⟩ =>
  ⟨W, ρ, S, _, hH, hs, re, hw, fun W1 S1 c l1 hs1 h1 => by
    cases c with
    | false => exact ⟨W1, ρ, S1, R, rfl, hs1, re.mono l1, h1, fun W2 S2 b l2 hs2 h2 => k W2 S2 b (l1.trans l2) hs2 h2⟩
    | true => exact k W1 S1 true l1 hs1 h1⟩
theorem jt_w (h : JW X e ta) : JT X e ta := PW.pt h
theorem jt_not (h : JT X a ta) : JT X (.UnaryOp .Not a pos) (wNotT ta) := pt_weak (pt_not h) fun σ H Q ⟨W, ρ, S, R, hH, hs, re, hw, k⟩ => ⟨W, ρ, S, _, hH, hs, re, hw, fun W1 S1 c l1 hs1 h1 => k W1 S1 (!c) l1 hs1 h1⟩
theorem j_one {op} (h : JE X a wa) : JE X (.BoolOp op [a] pos) wa := pe_one h
theorem j_and (ha : JE X a wa) (hb : JE X (.BoolOp .And (b :: rest) pos) wb) : JE X (.BoolOp .And (a :: b :: rest) pos) (wAndV wa wb) := pe_weak (pe_and ha hb) fun σ H Q ⟨W, ρ, S, R, hH, hs, re, hw, k⟩ =>
  ⟨W, ρ, S, _, hH, hs, re, hw, fun W1 S1 x dx l1 hs1 q1 ⟨c, e1, h1⟩ => by
    subst e1
    cases q1
    cases c with
    | true => exact ⟨true, rfl, W1, ρ, S1, R, rfl, hs1, re.mono l1, h1, k.le l1⟩
    | false => exact ⟨false, rfl, (k.le l1).now hs1 (.bl false) h1⟩⟩
theorem j_or (ha : JE X a wa) (hb : JE X (.BoolOp .Or (b :: rest) pos) wb) : JE X (.BoolOp .Or (a :: b :: rest) pos) (wOrV wa wb) := pe_weak (pe_or ha hb) fun σ H Q ⟨W, ρ, S, R, hH, hs, re, hw, k⟩ =>
  ⟨W, ρ, S, _, hH, hs, re, hw, fun W1 S1 x dx l1 hs1 q1 ⟨c, e1, h1⟩ => by
    subst e1
    cases q1
    cases c with
    | false => exact ⟨false, rfl, W1, ρ, S1, R, rfl, hs1, re.mono l1, h1, k.le l1⟩
    | true => exact ⟨true, rfl, (k.le l1).now hs1 (.bl true) h1⟩⟩
theorem j_not (ha : JE X a wa) : JE X (.UnaryOp .Not a pos) (wNotV wa) := pe_weak (pe_not ha) fun σ H Q ⟨W, ρ, S, R, hH, hs, re, hw, k⟩ =>
  ⟨W, ρ, S, _, hH, hs, re, hw, fun W1 S1 x dx l1 hs1 q1 ⟨c, e1, h1⟩ => by
    subst e1
    cases q1
    exact ⟨c, rfl, (k.le l1).now hs1 (.bl _) h1⟩⟩
theorem j_if (hc : JT X c ta) (ha : JE X a wa) (hb : JE X b wb) : JE X (.IfExp c a b pos) (wIfE ta wa wb) := pe_weak (pe_ifExp hc ha hb) fun σ H Q ⟨W, ρ, S, R, hH, hs, re, hw, k⟩ =>
  ⟨W, ρ, S, _, hH, hs, re, hw, fun W1 S1 c l1 hs1 h1 => by
    cases c with
    | true => exact ⟨W1, ρ, S1, R, rfl, hs1, re.mono l1, h1, k.le l1⟩
    | false => exact ⟨W1, ρ, S1, R, rfl, hs1, re.mono l1, h1, k.le l1⟩⟩
theorem tChain_weak {K : PySem.W.Frag} {z z' : Z2} {σ : St} {H : Hp} {Q : VK} (h : tE K (wChain z z' wa wb wc) σ H Q) : tChain (r2 K z) (r2 K z') (tE K wa) (tE K wb) (tE K wc) σ H Q := by
  obtain ⟨W, ρ, S, R, rfl, hs, re, hw, k⟩ := h
  refine ⟨W, ρ, S, _, rfl, hs, re, hw, fun W1 S1 x dx l1 hs1 r1 h1 => ⟨W1, ρ, S1, _, rfl, hs1, re.mono l1, h1, fun W2 S2 y dy l2 hs2 r2 h2 => ⟨W2, S2, dx, dy, _, rfl, hs2, l2.rv r1, r2, h2, fun W3 S3 u du l3 hs3 r3 ⟨c, e1, h3⟩ => ?_⟩⟩⟩
  subst e1
  cases r3
  refine ⟨c, rfl, ?_⟩
  have l := l1.trans (l2.trans l3)
  cases c with
  | true => exact ⟨W3, ρ, S3, _, rfl, hs3, re.mono l, h3, fun W4 S4 v dv l4 hs4 r4 h4 => ⟨W4, S4, dy, dv, R, rfl, hs4, (l3.trans l4).rv r2, r4, h4, k.le (l.trans l4)⟩⟩
  | false => exact (k.le l).now hs3 (.bl false) h3
theorem j_chain {op op' : CmpOp} {z z' : Z2} (ho : OpR X (compareOp op) (r2 X.K z)) (ho' : OpR X (compareOp op') (r2 X.K z')) (ha : JE X a wa) (hb : JE X b wb) (hc : JE X c wc) (hm : lastMarks [op, op'] [b, c] = false := by rfl) :
    JE X (.Compare a [op, op'] [b, c] pos) (wChain z z' wa wb wc) := pe_weak (pe_chain ho ho' ha hb hc hm) fun _ _ _ => tChain_weak
theorem jt_chain {op op' : CmpOp} {z z' : Z2} (ho : OpR X (compareOp op) (r2 X.K z)) (ho' : OpR X (compareOp op') (r2 X.K z')) (ha : JE X a wa) (hb : JE X b wb) (hc : JE X c wc) (hm : lastMarks [op, op'] [b, c] = false := by rfl) :
    JT X (.Compare a [op, op'] [b, c] pos) (wTb (wChain z z' wa wb wc)) := pt_weak (pt_chain ho ho' ha hb hc hm) fun σ H Q ⟨W, ρ, S, R, hH, hs, re, hw, k⟩ => tChain_weak ⟨W, ρ, S, _, hH, hs, re, hw, fun W1 S1 x dx l1 hs1 q1 ⟨c, e1, h1⟩ => by
    subst e1
    cases q1
    exact ⟨c, rfl, k W1 S1 c l1 hs1 h1⟩⟩
end

/-! ### calls of what is built in -/
section
variable {X : Cx} {x : Str} {p pos : Pos} {e : Expr} {es : List Expr} {w : WA} {id T : String}
theorem tCB_weak {K : PySem.W.Frag} {z : Zs} {σ : St} {H : Hp} {Q : VK} (h : tE K (wZ z w) σ H Q) : tCB (rs K z) (tA K w) σ H Q := by
  obtain ⟨W, ρ, S, R, rfl, hs, re, hw, k⟩ := h
  exact ⟨W, ρ, S, _, rfl, hs, re, hw, fun W1 S1 vs ds l1 hs1 r1 h1 => ⟨W1, S1, ds, R, rfl, hs1, r1, h1, k.le l1⟩⟩
def wZF (z : ZFs) (a : WA) : WF := fun ρ S Q => a ρ S fun xs S1 => z xs S1 Q
theorem tCB_weakF {K : PySem.W.Frag} {z : ZFs} {σ : St} {H : Hp} {Q : VK} (h : tF K (wZF z w) σ H Q) : tCB (rsF K z) (tA K w) σ H Q := by
  obtain ⟨W, ρ, S, R, rfl, hs, re, hw, k⟩ := h
  exact ⟨W, ρ, S, _, rfl, hs, re, hw, fun W1 S1 vs ds l1 hs1 r1 h1 => ⟨W1, S1, ds, R, rfl, hs1, r1, h1, k.le l1⟩⟩
theorem j_cb {z : Zs} (hc : CallR X (.builtin id) (rs X.K z)) (hg : Gl X x) (hm : X.mg x = none) (hv : bootBuiltins x = some (.builtin id)) (ha : JA X (e :: es) w) (hn : x ≠ "__name__" := by decide) (hdb : (x == ("__debug__" : Str)) = false := by decide)
    (he : starEach (e :: es) X.env = (false, eval e X.env) :: starEach es X.env := by rfl) (hpl : (backTo pos (starEach es X.env)).any (·.1) = false := by rfl) : JE X (.Call (.Name x p) (e :: es) [] pos) (wZ z w) := pe_weak (pe_callB hc hg hm hv ha hn hdb he hpl) fun _ _ _ => tCB_weak
theorem j_ct {z : Zs} (hc : CallR X (.type T) (rs X.K z)) (hg : Gl X x) (hm : X.mg x = none) (hv : bootBuiltins x = some (.type T)) (ha : JA X (e :: es) w) (hn : x ≠ "__name__" := by decide) (hdb : (x == ("__debug__" : Str)) = false := by decide)
    (he : starEach (e :: es) X.env = (false, eval e X.env) :: starEach es X.env := by rfl) (hpl : (backTo pos (starEach es X.env)).any (·.1) = false := by rfl) : JE X (.Call (.Name x p) (e :: es) [] pos) (wZ z w) := pe_weak (pe_callTy hc hg hm hv ha hn hdb he hpl) fun _ _ _ => tCB_weak
theorem f_cb {z : ZFs} (hc : CallR X (.builtin id) (rsF X.K z)) (hg : Gl X x) (hm : X.mg x = none) (hv : bootBuiltins x = some (.builtin id)) (ha : JA X (e :: es) w) (hn : x ≠ "__name__" := by decide) (hdb : (x == ("__debug__" : Str)) = false := by decide)
    (he : starEach (e :: es) X.env = (false, eval e X.env) :: starEach es X.env := by rfl) (hpl : (backTo pos (starEach es X.env)).any (·.1) = false := by rfl) : JF X (.Call (.Name x p) (e :: es) [] pos) (wZF z w) := pe_weak (pe_callB hc hg hm hv ha hn hdb he hpl) fun _ _ _ => tCB_weakF
theorem f_ct {z : ZFs} (hc : CallR X (.type T) (rsF X.K z)) (hg : Gl X x) (hm : X.mg x = none) (hv : bootBuiltins x = some (.type T)) (ha : JA X (e :: es) w) (hn : x ≠ "__name__" := by decide) (hdb : (x == ("__debug__" : Str)) = false := by decide)
    (he : starEach (e :: es) X.env = (false, eval e X.env) :: starEach es X.env := by rfl) (hpl : (backTo pos (starEach es X.env)).any (·.1) = false := by rfl) : JF X (.Call (.Name x p) (e :: es) [] pos) (wZF z w) := pe_weak (pe_callTy hc hg hm hv ha hn hdb he hpl) fun _ _ _ => tCB_weakF
end
section
variable {K : PySem.W.Frag} {G : Hp} {e : List Addr}
theorem RVs.one {vs : List V} {d : D} (h : RVs K G e vs [d]) : ∃ v, vs = [v] ∧ RV K G e v d := by
  cases h with
  | cons r t =>
    cases t
    exact ⟨_, rfl, r⟩
theorem RVs.two {vs : List V} {d d' : D} (h : RVs K G e vs [d, d']) : ∃ v v', vs = [v, v'] ∧ RV K G e v d ∧ RV K G e v' d' := by
  cases h with
  | cons r t =>
    cases t with
    | cons r' t =>
      cases t
      exact ⟨_, _, rfl, r, r'⟩
end
section
variable {X : Cx}
/-- len -/
def zLen : Zs := fun xs S Q => ∃ x ds, xs = [x] ∧ seqOf S x = some ds ∧ Q (.int (ds.length : Nat)) S
theorem c_len : CallR X (.builtin "len") (rs X.K zLen) := by
  intro pins s σ H xs us Q I r ⟨W, S, ds, R, hH, hs, q1, ⟨x, es, e1, h1, hq⟩, k⟩
  subst hH e1
  obtain ⟨v, rfl, r1⟩ := q1.one
  obtain ⟨a, vs, rfl, ha, va⟩ := hs.seq r1 h1
  refine call_len_seq pins s σ W.H _ us Q I r ⟨a, vs, rfl, ha, ?_⟩
  rw [va.length]
  exact k.now hs (.int _) hq
/-- int(i), int(flag) -/
def zInt : Zs := fun xs S Q => (∃ i, xs = [.int i] ∧ Q (.int i) S) ∨ ∃ c : Bool, xs = [.bl c] ∧ Q (.int (if c then 1 else 0)) S
theorem c_int : CallR X (.type "int") (rs X.K zInt) := by
  intro pins s σ H xs us Q I r ⟨W, S, ds, R, hH, hs, q1, hz, k⟩
  subst hH
  rcases hz with ⟨i, e1, hq⟩ | ⟨c, e1, hq⟩
  · subst e1
    obtain ⟨v, rfl, r1⟩ := q1.one
    cases r1
    exact call_int1 pins s σ W.H _ us Q I r (.inl ⟨i, rfl, k.now hs (.int _) hq⟩)
  · subst e1
    obtain ⟨v, rfl, r1⟩ := q1.one
    cases r1
    exact call_int1 pins s σ W.H _ us Q I r (.inr ⟨c, rfl, k.now hs (.int _) hq⟩)
/-- max(a, b), min(a, b) -/
def zMax2 : Zs := fun xs S Q => ∃ i j, xs = [.int i, .int j] ∧ Q (.int (if j > i then j else i)) S
theorem c_max2 (hc : X.calm = true) : CallR X (.builtin "max") (rs X.K zMax2) := by
  intro pins s σ H xs us Q I r ⟨W, S, ds, R, hH, hs, q1, ⟨i, j, e1, hq⟩, k⟩
  subst hH e1
  obtain ⟨v, v', rfl, r1, r2⟩ := q1.two
  cases r1
  cases r2
  exact call_max2 hc pins s σ W.H _ us Q I r ⟨i, j, rfl, k.now hs (.int _) hq⟩
def zMin2 : Zs := fun xs S Q => ∃ i j, xs = [.int i, .int j] ∧ Q (.int (if j < i then j else i)) S
theorem c_min2 (hc : X.calm = true) : CallR X (.builtin "min") (rs X.K zMin2) := by
  intro pins s σ H xs us Q I r ⟨W, S, ds, R, hH, hs, q1, ⟨i, j, e1, hq⟩, k⟩
  subst hH e1
  obtain ⟨v, v', rfl, r1, r2⟩ := q1.two
  cases r1
  cases r2
  exact call_min2 hc pins s σ W.H _ us Q I r ⟨i, j, rfl, k.now hs (.int _) hq⟩
/-- max(xs), min(xs) of a list of ints -/
def zMax : Zs := fun xs S Q => ∃ x ds ns, xs = [x] ∧ lstOf S x = some ds ∧ intsOf ds = some ns ∧ 0 < ns.length ∧ ∀ m, m ∈ ns → (∀ y, y ∈ ns → y ≤ m) → Q (.int m) S
theorem c_max (hc : X.calm = true) : CallR X (.builtin "max") (rs X.K zMax) := by
  intro pins s σ H xs us Q I r ⟨W, S, ds, R, hH, hs, q1, ⟨x, es, ns, e1, h1, h2, h3, hq⟩, k⟩
  subst hH e1
  obtain ⟨v, rfl, r1⟩ := q1.one
  obtain ⟨a, vs, rfl, ha, va⟩ := hs.lst r1 h1
  rw [intsOf_eq h2] at va
  obtain rfl := va.ints
  exact cr_max hc pins s σ W.H _ us Q I r ⟨a, ns, rfl, SqL.of ha, h3, fun m m1 m2 => k.now hs (.int _) (hq m m1 m2)⟩
def zMin : Zs := fun xs S Q => ∃ x ds ns, xs = [x] ∧ lstOf S x = some ds ∧ intsOf ds = some ns ∧ 0 < ns.length ∧ ∀ m, m ∈ ns → (∀ y, y ∈ ns → m ≤ y) → Q (.int m) S
theorem c_min (hc : X.calm = true) : CallR X (.builtin "min") (rs X.K zMin) := by
  intro pins s σ H xs us Q I r ⟨W, S, ds, R, hH, hs, q1, ⟨x, es, ns, e1, h1, h2, h3, hq⟩, k⟩
  subst hH e1
  obtain ⟨v, rfl, r1⟩ := q1.one
  obtain ⟨a, vs, rfl, ha, va⟩ := hs.lst r1 h1
  rw [intsOf_eq h2] at va
  obtain rfl := va.ints
  exact cr_min hc pins s σ W.H _ us Q I r ⟨a, ns, rfl, SqL.of ha, h3, fun m m1 m2 => k.now hs (.int _) (hq m m1 m2)⟩
/-- all(xs), any(xs) of a list of bools -/
def zAll : Zs := fun xs S Q => ∃ x ds bs, xs = [x] ∧ lstOf S x = some ds ∧ blsOf ds = some bs ∧ Q (.bl (bs.all id)) S
theorem c_all (hc : X.calm = true) : CallR X (.builtin "all") (rs X.K zAll) := by
  intro pins s σ H xs us Q I r ⟨W, S, ds, R, hH, hs, q1, ⟨x, es, ns, e1, h1, h2, hq⟩, k⟩
  subst hH e1
  obtain ⟨v, rfl, r1⟩ := q1.one
  obtain ⟨a, vs, rfl, ha, va⟩ := hs.lst r1 h1
  rw [blsOf_eq h2] at va
  obtain rfl := va.bls
  exact cr_all hc pins s σ W.H _ us Q I r ⟨a, ns, rfl, SqL.of ha, k.now hs (.bl _) hq⟩
def zAny : Zs := fun xs S Q => ∃ x ds bs, xs = [x] ∧ lstOf S x = some ds ∧ blsOf ds = some bs ∧ Q (.bl (bs.any id)) S
theorem c_any (hc : X.calm = true) : CallR X (.builtin "any") (rs X.K zAny) := by
  intro pins s σ H xs us Q I r ⟨W, S, ds, R, hH, hs, q1, ⟨x, es, ns, e1, h1, h2, hq⟩, k⟩
  subst hH e1
  obtain ⟨v, rfl, r1⟩ := q1.one
  obtain ⟨a, vs, rfl, ha, va⟩ := hs.lst r1 h1
  rw [blsOf_eq h2] at va
  obtain rfl := va.bls
  exact cr_any hc pins s σ W.H _ us Q I r ⟨a, ns, rfl, SqL.of ha, k.now hs (.bl _) hq⟩
/-- sum(xs) of a list or tuple of ints -/
theorem old_keptT {s : Shared} {l : Addr} {h' : Heap} (hk : ∀ b o, b ∉ [s.heap.objs.size] → (s.heap.push { cls := .type "tuple_iterator", data := .fields #[.ref l, .int 0 0] }).get? b = some o → h'.get? b = some o) :
    ∀ b o, s.heap.get? b = some o → h'.get? b = some o := fun b o e => by
  refine hk b o (fun hm => ?_) (Heap.get?_push_of_some _ e)
  rcases List.mem_cons.mp hm with e1 | hm
  · exact absurd (e1 ▸ Heap.lt_size e) (Nat.lt_irrefl _)
  · cases hm
theorem sum_tupG {prog : Program} {w : World} {A : Around} {E : Value → Shared → Prop} {s : Shared} {l : Addr} {xs : Array (Int × Tok)} {Q : Value → Shared → Prop} (hh : A.handled = none) (hl : s.heap.IsTuple l (intItems xs))
    (h : ∀ h' tk t', (∀ b o, s.heap.get? b = some o → h'.get? b = some o) → Q (.int (preSum (numAt xs) xs.size) t') { s with heap := h', toks := tk }) : wpAny (model prog w) A (call (.builtin "sum") [.ref l]) Q E s := by
  have hlt : l < s.heap.objs.size := by obtain ⟨_, e, _⟩ := hl; exact Heap.lt_size e
  refine call_sum_walkG (wpAny_pyIter_tuple hl ?_)
  refine ⟨s.heap.objs.size, [s.heap.objs.size, l], [s.heap.objs.size], _, _, _, numAt xs, rfl, Walks.tuple (A := A.in1) hh _ l (Nat.ne_of_lt hlt) (intItems xs), ⟨⟨_, Heap.get?_push_size _ rfl, rfl, rfl⟩, ?_⟩, fun b hb => ?_, (fun _ _ => intItems_at), fun h' tk t' hk => ?_⟩
  · obtain ⟨o, e, r⟩ := hl
    exact ⟨o, Heap.get?_push_of_some _ e, r⟩
  · show b < (s.heap.push _).objs.size
    rw [Heap.size_push]
    rcases List.mem_cons.mp hb with rfl | hb
    · exact Nat.lt_succ_self _
    · rcases List.mem_cons.mp hb with rfl | hb
      · exact Nat.lt_succ_of_lt hlt
      · cases hb
  · have := h h' tk t' (old_keptT hk)
    simpa [intItems] using this
def zSum : Zs := fun xs S Q => ∃ x ds ns, xs = [x] ∧ seqOf S x = some ds ∧ intsOf ds = some ns ∧ Q (.int ns.sum) S
theorem c_sum (hc : X.calm = true) : CallR X (.builtin "sum") (rs X.K zSum) := by
  intro pins s σ H xs us Q I r ⟨W, S, ds, R, hH, hs, q1, ⟨x, es, ns, e1, h1, h2, hq⟩, k⟩
  subst hH e1
  obtain ⟨v, rfl, r1⟩ := q1.one
  obtain ⟨a, vs, rfl, ha, va⟩ := hs.seq r1 h1
  rw [intsOf_eq h2] at va
  obtain rfl := va.ints
  have kq := k.now hs (.int _) hq
  rcases ha with ha | ha
  · exact cr_sum hc pins s σ W.H _ us Q I r ⟨a, ns, rfl, ha, kq⟩
  · obtain ⟨its, rv, ht, _⟩ := I.tuple ha
    rw [Vals.ref1 r]
    have hi := rv.ints
    obtain ⟨zs, ez⟩ := hi.allInts.items
    have hn : numsOf (intItems zs).toList = ns := by
      rw [← ez]
      exact hi.numsOf
    rw [nums_intItems] at hn
    rw [ez] at ht
    refine sum_tupG (I.ok.hd hc) (show s.heap.IsTuple a (intItems zs) from ht) fun h' tk t' hk => ?_
    rw [preSum_eq, List.take_of_length_le (by simp), hn]
    exact ⟨.int _, W.H, I.kept hk, ⟨_, rfl⟩, kq⟩
/-- list(xs), tuple(xs) -/
def zList : ZFs := fun xs S Q => ∃ x ds, xs = [x] ∧ seqOf S x = some ds ∧ Q (.lst ds) S
theorem c_list : CallR X (.type "list") (rsF X.K zList) := by
  intro pins s σ H xs us Q I r ⟨W, S, ds, R, hH, hs, q1, ⟨x, es, e1, h1, hq⟩, k⟩
  subst hH e1
  obtain ⟨v, rfl, r1⟩ := q1.one
  obtain ⟨a, vs, rfl, ha, va⟩ := hs.seq r1 h1
  exact call_list_of pins s σ W.H _ us Q I r ⟨a, vs, rfl, ha, fun l hl => k.lst hs va hq l hl⟩
def zTuple : Zs := fun xs S Q => ∃ x ds, xs = [x] ∧ seqOf S x = some ds ∧ Q (.tup ds) S
theorem c_tuple : CallR X (.type "tuple") (rs X.K zTuple) := by
  intro pins s σ H xs us Q I r ⟨W, S, ds, R, hH, hs, q1, ⟨x, es, e1, h1, hq⟩, k⟩
  subst hH e1
  obtain ⟨v, rfl, r1⟩ := q1.one
  cases r1 with
  | tup hg hv =>
    cases h1
    exact call_tuple_of pins s σ W.H _ us Q I r ⟨_, _, rfl, .inr ⟨Same.sqT hs.g (tq hg), k.now hs (.tup hg hv) hq⟩⟩
  | lst hg hv =>
    cases h1
    exact call_tuple_of pins s σ W.H _ us Q I r ⟨_, _, rfl, .inl ⟨SqL.of (hs.g _ _ hg), fun l hl => k.tup hs hv hq l hl⟩⟩
  | rd hg hv =>
    cases h1
    exact call_tuple_of pins s σ W.H _ us Q I r ⟨_, _, rfl, .inl ⟨hs.g.seq hg, fun l hl => k.tup hs hv hq l hl⟩⟩
  | ref he =>
    simp only [seqOf] at h1
    split at h1
    · rename_i hc
      cases h1
      obtain ⟨vs, hh, hv⟩ := hs.cellL he hc
      exact call_tuple_of pins s σ W.H _ us Q I r ⟨_, _, rfl, .inl ⟨SqL.of hh, fun l hl => k.tup hs hv hq l hl⟩⟩
    · cases h1
  | _ => cases h1
/-- sorted(xs), ints -/
def zSorted : ZFs := fun xs S Q => ∃ x ds ns, xs = [x] ∧ lstOf S x = some ds ∧ intsOf ds = some ns ∧ ∀ ns' : List Int, ns'.Perm ns → ns'.Pairwise (· ≤ ·) → Q (.lst (ns'.map D.int)) S
theorem c_sorted : CallR X (.builtin "sorted") (rsF X.K zSorted) := by
  intro pins s σ H xs us Q I r ⟨W, S, ds, R, hH, hs, q1, ⟨x, es, ns, e1, h1, h2, hq⟩, k⟩
  subst hH e1
  obtain ⟨v, rfl, r1⟩ := q1.one
  obtain ⟨a, vs, rfl, ha, va⟩ := hs.lst r1 h1
  rw [intsOf_eq h2] at va
  obtain rfl := va.ints
  exact cr_sortedI pins s σ W.H _ us Q I r ⟨a, ns, rfl, SqL.of ha, fun ns' p pm pw hp => k.lst hs (.of_ints ns') (hq ns' pm pw) p hp⟩
end

/-! ### methods of lists -/
abbrev Zm := D → Zs
def wM (z : Zm) (o : WE) (a : WA) : WE := fun ρ S Q => o ρ S fun x S1 => (∃ ds, lstOf S1 x = some ds) ∧ a ρ S1 fun xs S2 => z x xs S2 Q
def wM0 (z : Zm) (o : WE) : WE := fun ρ S Q => o ρ S fun x S1 => (∃ ds, lstOf S1 x = some ds) ∧ z x [] S1 Q
section
variable {X : Cx} {o e : Expr} {es : List Expr} {wo : WE} {wa : WA} {name : Str} {apos cpos : Pos} {id : String} {z : Zm}
theorem tyV_lst {K : PySem.W.Frag} {W : Wd} {S : Sto} (hs : Hs K W S) {x : V} {d : D} (r : RV K W.G W.e x d) (h : ∃ ds, lstOf S d = some ds) : tyV K "list" x W.H := by
  obtain ⟨ds, h⟩ := h
  obtain ⟨a, vs, rfl, ha, _⟩ := hs.lst r h
  exact .inl ⟨rfl, _, SqL.of ha⟩
theorem j_m (slot : Slot "list" name id) (hty : typeOf (.builtin id) = pure (.type "method_descriptor")) (hm : MtR X id (rm X.K z)) (ho : JE X o wo) (ha : JA X (e :: es) wa)
    (hbase : attributeBase o name X.env (eval o X.env) = eval o X.env := by rfl)
    (hfew : ((backTo cpos (starEach (e :: es) X.env)).all (fun x => !x.1) && (backToKw cpos (keywordEach [] X.env)).all (fun x => x.1.isSome)
      && decide ((e :: es).length + ([] : List Keyword).length + (if ([] : List Keyword).isEmpty then 0 else 1) < 30)) = true := by rfl)
    (hline : (apos.endLine == cpos.line) = true := by rfl) (hs : starEach (e :: es) X.env = (false, eval e X.env) :: starEach es X.env := by rfl) (hplain : (backTo cpos (starEach es X.env)).any (·.1) = false := by rfl) :
    JE X (.Call (.Attribute o name apos) (e :: es) [] cpos) (wM z wo wa) :=
  pe_weak (pe_bm PySem.F.plainAttrs_list slot hty hm ho ha hbase hfew hline hs hplain) fun σ H Q ⟨W, ρ, S, R, hH, hs, re, hw, k⟩ =>
    ⟨W, ρ, S, _, hH, hs, re, hw, fun W1 S1 x dx l1 hs1 r1 ⟨ht, h1⟩ => ⟨tyV_lst hs1 r1 ht, W1, ρ, S1, _, rfl, hs1, re.mono l1, h1, fun W2 S2 vs ds l2 hs2 r2 h2 => ⟨W2, S2, dx, ds, R, rfl, hs2, l2.rv r1, r2, h2, k.le (l1.trans l2)⟩⟩⟩
theorem j_m0 (slot : Slot "list" name id) (hty : typeOf (.builtin id) = pure (.type "method_descriptor")) (hm : MtR X id (rm X.K z)) (ho : JE X o wo)
    (hbase : attributeBase o name X.env (eval o X.env) = eval o X.env := by rfl) (hline : (apos.endLine == cpos.line) = true := by rfl) : JE X (.Call (.Attribute o name apos) [] [] cpos) (wM0 z wo) :=
  pe_weak (pe_bm0 PySem.F.plainAttrs_list slot hty hm ho hbase hline) fun σ H Q ⟨W, ρ, S, R, hH, hs, re, hw, k⟩ =>
    ⟨W, ρ, S, _, hH, hs, re, hw, fun W1 S1 x dx l1 hs1 r1 ⟨ht, h1⟩ => ⟨tyV_lst hs1 r1 ht, W1, S1, dx, [], R, rfl, hs1, r1, .nil, h1, k.le l1⟩⟩
end
section
variable {K : PySem.W.Frag} {W : Wd} {S : Sto}
/-- a list's cell is written -/
theorem Hs.setL (hs : Hs K W S) {l : Nat} {a : Addr} {ds ds' : List D} {vs' : List V} (he : W.e[l]? = some a) (hc : S[l]? = some (.lst ds)) (r : RVs K W.G W.e vs' ds') :
    Hs K ⟨W.G, W.e, upd W.H a (.lst vs')⟩ (S.set l (.lst ds')) ∧ Le W ⟨W.G, W.e, upd W.H a (.lst vs')⟩ := hs.set he hc (by simp) (o' := .lst vs') (c' := .lst ds') r
end
section
variable {X : Cx}
def zAppend : Zm := fun x xs S Q => ∃ l ds y, x = .ref l ∧ xs = [y] ∧ S[l]? = some (.lst ds) ∧ ds.length < sizeLine ∧ Q .non (S.set l (.lst (ds ++ [y])))
theorem m_append : MtR X "list.append" (rm X.K zAppend) := by
  intro pins s σ H x xs v us Q I rx rs ⟨W, S, dx, ds, R, hH, hs, q1, q2, ⟨l, es, y, e1, e2, hc, hl, hq⟩, k⟩
  subst hH e1 e2
  cases q1 with
  | ref he =>
    rename_i a
    obtain ⟨w, rfl, rw'⟩ := q2.one
    obtain ⟨vs, hh, hv⟩ := hs.cellL he hc
    obtain ⟨hs2, l2⟩ := hs.setL he hc (hv.append (.cons rw' .nil))
    exact mt_append pins s σ W.H _ _ v us Q I rx rs ⟨a, vs, w, rfl, rfl, hh, by rw [hv.length]; exact hl, k ⟨W.G, W.e, upd W.H a (.lst (vs ++ [w]))⟩ _ .non .non l2 hs2 .non hq⟩
def zPop : Zm := fun x xs S Q => ∃ l ds y, x = .ref l ∧ xs = [] ∧ S[l]? = some (.lst ds) ∧ ds[ds.length - 1]? = some y ∧ Q y (S.set l (.lst ds.dropLast))
theorem m_pop : MtR X "list.pop" (rm X.K zPop) := by
  intro pins s σ H x xs v us Q I rx rs ⟨W, S, dx, ds, R, hH, hs, q1, q2, ⟨l, es, y, e1, e2, hc, hy, hq⟩, k⟩
  subst hH e1 e2
  cases q1 with
  | ref he =>
    rename_i a
    cases q2
    obtain ⟨vs, hh, hv⟩ := hs.cellL he hc
    obtain ⟨hs2, l2⟩ := hs.setL he hc hv.dropLast
    obtain ⟨w, hw, rw'⟩ := hv.get hy
    rw [← hv.length] at hw
    exact mt_pop pins s σ W.H _ _ v us Q I rx rs ⟨a, vs, w, rfl, rfl, hh, hw, k ⟨W.G, W.e, upd W.H a (.lst vs.dropLast)⟩ _ w y l2 hs2 rw' hq⟩
def zPopAt : Zm := fun x xs S Q => ∃ l ds i j y, x = .ref l ∧ xs = [.int i] ∧ S[l]? = some (.lst ds) ∧ -(2 ^ 63) ≤ i ∧ i < 2 ^ 63 ∧ ixN ds.length i = some j ∧ ds[j]? = some y ∧ Q y (S.set l (.lst (ds.eraseIdx j)))
theorem m_popAt : MtR X "list.pop" (rm X.K zPopAt) := by
  intro pins s σ H x xs v us Q I rx rs ⟨W, S, dx, ds, R, hH, hs, q1, q2, ⟨l, es, i, j, y, e1, e2, hc, b1, b2, hj, hy, hq⟩, k⟩
  subst hH e1 e2
  cases q1 with
  | ref he =>
    rename_i a
    obtain ⟨w0, rfl, rw0⟩ := q2.one
    cases rw0
    obtain ⟨vs, hh, hv⟩ := hs.cellL he hc
    obtain ⟨hs2, l2⟩ := hs.setL he hc (hv.eraseIdx j)
    obtain ⟨w, hw, rw'⟩ := hv.get hy
    rw [← hv.length] at hj
    exact mt_popAt pins s σ W.H _ _ v us Q I rx rs ⟨a, vs, i, j, w, rfl, rfl, hh, b1, b2, (ixN_seq hj).1, hw, k ⟨W.G, W.e, upd W.H a (.lst (vs.eraseIdx j))⟩ _ w y l2 hs2 rw' hq⟩
def zExtend : Zm := fun x xs S Q => ∃ l ds y es, x = .ref l ∧ xs = [y] ∧ S[l]? = some (.lst ds) ∧ lstOf S y = some es ∧ ds.length + es.length ≤ sizeLine ∧ Q .non (S.set l (.lst (ds ++ es)))
theorem m_extend : MtR X "list.extend" (rm X.K zExtend) := by
  intro pins s σ H x xs v us Q I rx rs ⟨W, S, dx, ds, R, hH, hs, q1, q2, ⟨l, es, y, fs, e1, e2, hc, hy, hl, hq⟩, k⟩
  subst hH e1 e2
  cases q1 with
  | ref he =>
    rename_i a
    obtain ⟨w, rfl, rw'⟩ := q2.one
    obtain ⟨vs, hh, hv⟩ := hs.cellL he hc
    obtain ⟨b, ws, rfl, hb, hw⟩ := hs.lst rw' hy
    obtain ⟨hs2, l2⟩ := hs.setL he hc (hv.append hw)
    exact mt_extend pins s σ W.H _ _ v us Q I rx rs ⟨a, b, vs, ws, rfl, rfl, hh, hb, by rw [hv.length, hw.length]; exact hl, k ⟨W.G, W.e, upd W.H a (.lst (vs ++ ws))⟩ _ .non .non l2 hs2 .non hq⟩
def zReverse : Zm := fun x xs S Q => ∃ l ds, x = .ref l ∧ xs = [] ∧ S[l]? = some (.lst ds) ∧ Q .non (S.set l (.lst ds.reverse))
theorem m_reverse : MtR X "list.reverse" (rm X.K zReverse) := by
  intro pins s σ H x xs v us Q I rx rs ⟨W, S, dx, ds, R, hH, hs, q1, q2, ⟨l, es, e1, e2, hc, hq⟩, k⟩
  subst hH e1 e2
  cases q1 with
  | ref he =>
    rename_i a
    cases q2
    obtain ⟨vs, hh, hv⟩ := hs.cellL he hc
    obtain ⟨hs2, l2⟩ := hs.setL he hc hv.reverse
    exact mt_reverse pins s σ W.H _ _ v us Q I rx rs ⟨a, vs, rfl, rfl, hh, k ⟨W.G, W.e, upd W.H a (.lst vs.reverse)⟩ _ .non .non l2 hs2 .non hq⟩
end

/-! ### instances -/
def insOf (S : Sto) : D → Option (Addr × List Str × List D)
  | .ins C ks ds => some (C, ks, ds)
  | .ref l => match S[l]? with
    | some (.ins C ks ds) => some (C, ks, ds)
    | _ => none
  | _ => none
theorem Hs.ins {K : PySem.W.Frag} {W : Wd} {S : Sto} (h : Hs K W S) {x : V} {d : D} {C : Addr} {ks : List Str} {ds : List D} (r : RV K W.G W.e x d) (hd : insOf S d = some (C, ks, ds)) :
    ∃ a dx vs, x = .ref a ∧ W.H a = some (.ins C dx (ks.zip vs)) ∧ vs.length = ks.length ∧ RVs K W.G W.e vs ds := by
  cases r with
  | ins hg hl hv =>
    cases hd
    exact ⟨_, _, _, rfl, h.g _ _ hg, hl, hv⟩
  | ref he =>
    simp only [insOf] at hd
    split at hd
    · rename_i hc
      cases hd
      obtain ⟨_, o, h1, h2⟩ := h.at he hc (by simp)
      cases o <;> try (exact h2.elim)
      obtain ⟨rfl, vs, rfl, h3, h4⟩ := h2
      exact ⟨_, _, vs, rfl, h1, h3, h4⟩
    · cases hd
  | _ => cases hd
theorem zip_lookup : ∀ {ks : List Str} {vs : List V} {i : Nat} {f : Str} {v : V}, ks.Nodup → ks[i]? = some f → vs[i]? = some v → (ks.zip vs).lookup f = some v
  | [], _, _, _, _, _, h, _ => by simp at h
  | _ :: _, [], _, _, _, _, _, h => by simp at h
  | k :: ks, w :: vs, 0, f, v, nd, h1, h2 => by
    simp at h1 h2
    subst h1 h2
    simp [List.zip_cons_cons, List.lookup_cons]
  | k :: ks, w :: vs, i + 1, f, v, nd, h1, h2 => by
    have h1 : ks[i]? = some f := by simpa using h1
    have hk : (f == k) = false := by
      have : f ≠ k := fun z => (List.nodup_cons.mp nd).1 (z ▸ List.mem_of_getElem? h1)
      simpa using this
    rw [List.zip_cons_cons, List.lookup_cons, hk]
    exact zip_lookup (List.nodup_cons.mp nd).2 h1 (by simpa using h2)
theorem zip_lookup_none : ∀ {ks : List Str} {vs : List V} {f : Str}, f ∉ ks → (ks.zip vs).lookup f = none
  | [], _, _, _ => by simp
  | _ :: _, [], _, _ => by simp
  | k :: ks, w :: vs, f, h => by
    have hk : (f == k) = false := by
      have : f ≠ k := fun z => h (z ▸ List.mem_cons_self)
      simpa using this
    rw [List.zip_cons_cons, List.lookup_cons, hk]
    exact zip_lookup_none fun z => h (List.mem_cons_of_mem _ z)
theorem putF_old : ∀ {ks : List Str} {vs : List V} {i : Nat} {f : Str} {v : V}, ks.Nodup → ks[i]? = some f → vs.length = ks.length → putF f v (ks.zip vs) = ks.zip (vs.set i v)
  | [], _, _, _, _, _, h, _ => by simp at h
  | _ :: _, [], _, _, _, _, _, h => by simp at h
  | k :: ks, w :: vs, 0, f, v, nd, h1, h2 => by
    simp at h1
    subst h1
    simp [putF]
  | k :: ks, w :: vs, i + 1, f, v, nd, h1, h2 => by
    have h1 : ks[i]? = some f := by simpa using h1
    have hk : k ≠ f := fun z => (List.nodup_cons.mp nd).1 (z ▸ List.mem_of_getElem? h1)
    rw [List.zip_cons_cons, List.set_cons_succ, List.zip_cons_cons]
    show (if k = f then _ else _) = _
    rw [if_neg hk, putF_old (List.nodup_cons.mp nd).2 h1 (by simpa using h2)]
theorem putF_new : ∀ {ks : List Str} {vs : List V} {f : Str} {v : V}, f ∉ ks → vs.length = ks.length → putF f v (ks.zip vs) = (ks ++ [f]).zip (vs ++ [v])
  | [], [], _, _, _, _ => rfl
  | [], _ :: _, _, _, _, h => by simp at h
  | _ :: _, [], _, _, _, h => by simp at h
  | k :: ks, w :: vs, f, v, h1, h2 => by
    have hk : k ≠ f := fun z => h1 (z ▸ List.mem_cons_self)
    rw [List.zip_cons_cons, List.cons_append, List.cons_append, List.zip_cons_cons]
    show (if k = f then _ else _) = _
    rw [if_neg hk, putF_new (fun z => h1 (List.mem_cons_of_mem _ z)) (by simpa using h2)]
theorem OC.insOf {K : PySem.W.Frag} {G : Hp} {e : List Addr} {o : HO} {C : Addr} {ks : List Str} {ds : List D} (h : OC K G e o (.ins C ks ds)) : ∃ dx vs, o = .ins C dx (ks.zip vs) ∧ vs.length = ks.length ∧ RVs K G e vs ds := by
  cases o with
  | ins C' dx fs =>
    obtain ⟨rfl, vs, rfl, h3, h4⟩ := h
    exact ⟨dx, vs, rfl, h3, h4⟩
  | _ => exact h.elim
/-- e.f, f the i-th attribute -/
def wFld (C : Addr) (ks : List Str) (i : Nat) (w : WE) : WE := fun ρ S Q => w ρ S fun x S1 => ∃ ds d, insOf S1 x = some (C, ks, ds) ∧ ds[i]? = some d ∧ Q d S1
/-- e.f = v, f a new attribute; the i-th one -/
def wFldNew (C : Addr) (ks : List Str) (f : Str) (wo wv : WE) : WS := fun E ρ S => wv ρ S fun y S1 => wo ρ S1 fun x S2 => ∃ l ds, x = .ref l ∧ S2[l]? = some (.ins C ks ds) ∧ E.nx ρ (S2.set l (.ins C (ks ++ [f]) (ds ++ [y])))
def wFldSet (C : Addr) (ks : List Str) (i : Nat) (wo wv : WE) : WS := fun E ρ S => wv ρ S fun y S1 => wo ρ S1 fun x S2 => ∃ l ds, x = .ref l ∧ S2[l]? = some (.ins C ks ds) ∧ E.nx ρ (S2.set l (.ins C ks (ds.set i y)))
/-- e.f += v (ints) -/
def wFldAug (C : Addr) (ks : List Str) (i : Nat) (wo wv : WE) : WS := fun E ρ S => wo ρ S fun x S1 => ∃ l ds, x = .ref l ∧ S1[l]? = some (.ins C ks ds) ∧ ∃ n, ds[i]? = some (.int n) ∧
  wv ρ S1 fun y S2 => ∃ m ds', y = .int m ∧ S2[l]? = some (.ins C ks ds') ∧ E.nx ρ (S2.set l (.ins C ks (ds'.set i (.int (n + m)))))
section
variable {X : Cx} {o e value : Expr} {f : Str} {pos pos' tpos : Pos} {wo wv : WE} {C : Addr} {ks : List Str} {i : Nat}
theorem j_fld (c : Cls X.K C) (n : NoAttr X.K C f) (nd : ks.Nodup) (hi : ks[i]? = some f) (he : JE X e wo) (hb : attributeBase e f X.env (eval e X.env) = eval e X.env := by rfl) : JE X (.Attribute e f pos) (wFld C ks i wo) :=
  pe_weak (pe_fld he hb) fun σ H Q ⟨W, ρ, S, R, hH, hs, re, hw, k⟩ => ⟨W, ρ, S, _, hH, hs, re, hw, fun W1 S1 x dx l1 hs1 r1 ⟨ds, d, h1, h2, h3⟩ => by
    obtain ⟨a, dx, vs, rfl, ha, hl, hv⟩ := hs1.ins r1 h1
    obtain ⟨v, hw, rv⟩ := hv.get h2
    exact ⟨a, C, dx, _, v, rfl, ha, c, n, zip_lookup nd hi hw, (k.le l1).now hs1 rv h3⟩⟩
theorem zip_len {ks : List Str} {vs : List V} (h : vs.length = ks.length) (hk : ks.length < 1000) : (ks.zip vs).length < 1000 := by
  rw [List.length_zip, h, Nat.min_self]
  exact hk
theorem s_fldNew (c : Cls X.K C) (n : NoAttr X.K C f) (hf : f ∉ ks) (hk : ks.length < 1000) (ho : JE X o wo) (hv : JE X value wv) (hs : swapsWith value (some (.Attribute o f pos')) pos.line X.env = pure false := by rfl) :
    JS X (.Assign [.Attribute o f pos'] value pos) (wFldNew C ks f wo wv) :=
  ps_weak (ps_fld ho hv hs) fun D σ H ⟨W, ρ, S, R, hH, hs, re, hw, k⟩ => ⟨W, ρ, S, _, hH, hs, re, hw, fun W1 S1 y dy l1 hs1 r1 h1 => ⟨W1, ρ, S1, _, rfl, hs1, re.mono l1, h1, fun W2 S2 x dx l2 hs2 r2 ⟨l, ds, e1, hc, h2⟩ => by
    subst e1
    cases r2 with
    | ref he =>
      rename_i a
      obtain ⟨_, o, h3, h4⟩ := hs2.at he hc (by simp)
      obtain ⟨dx, vs, rfl, hl, hv⟩ := h4.insOf
      have q : OC X.K W2.G W2.e (.ins C dx (putF f y (ks.zip vs))) (.ins C (ks ++ [f]) (ds ++ [dy])) := ⟨rfl, vs ++ [y], putF_new hf hl, by simp [hl], hv.append (.cons (l2.rv r1) .nil)⟩
      obtain ⟨hs3, l3⟩ := hs2.set he hc (by simp) q
      exact ⟨a, C, dx, _, rfl, h3, c, n, zip_len hl hk, k.nx ⟨W2.G, W2.e, upd W2.H a (.ins C dx (putF f y (ks.zip vs)))⟩ _ σ ρ (l1.trans (l2.trans l3)) hs3 (re.mono (l1.trans (l2.trans l3))) h2⟩⟩⟩
theorem s_fldSet (c : Cls X.K C) (n : NoAttr X.K C f) (nd : ks.Nodup) (hi : ks[i]? = some f) (hk : ks.length < 1000) (ho : JE X o wo) (hv : JE X value wv) (hs : swapsWith value (some (.Attribute o f pos')) pos.line X.env = pure false := by rfl) :
    JS X (.Assign [.Attribute o f pos'] value pos) (wFldSet C ks i wo wv) :=
  ps_weak (ps_fld ho hv hs) fun D σ H ⟨W, ρ, S, R, hH, hs, re, hw, k⟩ => ⟨W, ρ, S, _, hH, hs, re, hw, fun W1 S1 y dy l1 hs1 r1 h1 => ⟨W1, ρ, S1, _, rfl, hs1, re.mono l1, h1, fun W2 S2 x dx l2 hs2 r2 ⟨l, ds, e1, hc, h2⟩ => by
    subst e1
    cases r2 with
    | ref he =>
      rename_i a
      obtain ⟨_, o, h3, h4⟩ := hs2.at he hc (by simp)
      obtain ⟨dx, vs, rfl, hl, hv⟩ := h4.insOf
      have q : OC X.K W2.G W2.e (.ins C dx (putF f y (ks.zip vs))) (.ins C ks (ds.set i dy)) := ⟨rfl, vs.set i y, putF_old nd hi hl, by simp [hl], hv.set (l2.rv r1) i⟩
      obtain ⟨hs3, l3⟩ := hs2.set he hc (by simp) q
      exact ⟨a, C, dx, _, rfl, h3, c, n, zip_len hl hk, k.nx ⟨W2.G, W2.e, upd W2.H a (.ins C dx (putF f y (ks.zip vs)))⟩ _ σ ρ (l1.trans (l2.trans l3)) hs3 (re.mono (l1.trans (l2.trans l3))) h2⟩⟩⟩
theorem s_fldAug (c : Cls X.K C) (n : NoAttr X.K C f) (nd : ks.Nodup) (hi : ks[i]? = some f) (hk : ks.length < 1000) (ho : JE X o wo) (hv : JE X value wv) : JS X (.AugAssign (.Attribute o f tpos) .Add value pos) (wFldAug C ks i wo wv) :=
  ps_weak (ps_fldaug ho hv in_add) fun D σ H ⟨W, ρ, S, R, hH, hs, re, hw, k⟩ => ⟨W, ρ, S, _, hH, hs, re, hw, fun W1 S1 x dx l1 hs1 r1 ⟨l, ds, e1, hc, m, hm, h1⟩ => by
    subst e1
    cases r1 with
    | ref he =>
      rename_i a
      obtain ⟨_, o, h3, h4⟩ := hs1.at he hc (by simp)
      obtain ⟨dx, vs, rfl, hl, hv⟩ := h4.insOf
      obtain ⟨v, hw, rv⟩ := hv.get hm
      cases rv
      refine ⟨a, C, dx, _, .int m, rfl, h3, c, n, zip_lookup nd hi hw, W1, ρ, S1, _, rfl, hs1, re.mono l1, h1, fun W2 S2 y dy l2 hs2 r2 ⟨j, ds', e2, hc2, h2⟩ => ?_⟩
      subst e2
      cases r2
      obtain ⟨_, o, h5, h6⟩ := hs2.at (l2.at _ _ he) hc2 (by simp)
      obtain ⟨dx2, vs2, rfl, hl2, hv2⟩ := h6.insOf
      have q : OC X.K W2.G W2.e (.ins C dx2 (putF f (.int (m + j)) (ks.zip vs2))) (.ins C ks (ds'.set i (.int (m + j)))) := ⟨rfl, vs2.set i (.int (m + j)), putF_old nd hi hl2, by simp [hl2], hv2.set (.int _) i⟩
      obtain ⟨hs3, l3⟩ := hs2.set (l2.at _ _ he) hc2 (by simp) q
      exact ⟨m, j, rfl, rfl, dx2, _, h5, zip_len hl2 hk, k.nx ⟨W2.G, W2.e, upd W2.H a (.ins C dx2 (putF f (.int (m + j)) (ks.zip vs2)))⟩ _ σ ρ (l1.trans (l2.trans l3)) hs3 (re.mono (l1.trans (l2.trans l3))) h2⟩⟩
end
end Tk

namespace Tk
open PySem PySem.Spec PyProof.Rows L2

/-! ### promises over data -/
abbrev Pr := List D → Sto → QE → Prop
def spOf (K : PySem.W.Frag) (n : Nat) (F : Pr) : Sp := fun vs H Q _ => ∃ (W : Wd) (S : Sto) (ds : List D) (R : QE), W.H = H ∧ Hs K W S ∧ RVs K W.G W.e vs ds ∧ ds.length = n ∧ F ds S R ∧ Kt K W R Q
/-- a def of the module keeps a promise: all that a call asks -/
structure DefOk (P : Program) (w : World) (K : PySem.W.Frag) (mg : Str → Option Value) (base : Heap) (k : Nat) (x : Str) (n : Nat) (F : Pr) : Prop where
  ex : ∃ (f : Addr) (fd : FuncData) (ps : List Str), ps.length = n ∧ FnOk P w K mg base CX0 k f fd ps (spOf K n F) ∧ mg x = some (.ref f) ∧ PySem.W.keepIn K (.ref f) = true ∧ Binds K fd ps []
structure MethOk (P : Program) (w : World) (K : PySem.W.Frag) (mg : Str → Option Value) (base : Heap) (k : Nat) (C : Addr) (m : Str) (n : Nat) (F : Pr) : Prop where
  ex : ∃ (f : Addr) (fd : FuncData) (ps : List Str), ps.length = n ∧ FnOk P w K mg base CX0 k f fd ps (spOf K n F) ∧ Meth K C m f ∧ Binds K fd ps []
structure MakeOk (P : Program) (w : World) (K : PySem.W.Frag) (mg : Str → Option Value) (base : Heap) (k : Nat) (x : Str) (C : Addr) (n : Nat) (F : Pr) : Prop where
  ex : ∃ (f : Addr) (fd : FuncData) (ps : List Str), ps.length = n ∧ FnOk P w K mg base CX0 k f fd ps (spOf K n F) ∧ Mk K C f ∧ mg x = some (.ref C) ∧ Binds K fd ps []
def wCall (n : Nat) (F : Pr) (a : WA) : WE := fun ρ S Q => a ρ S fun ds S1 => ds.length = n ∧ F ds S1 Q
def wMeth (C : Addr) (ks : List Str) (n : Nat) (F : Pr) (o : WE) (a : WA) : WE := fun ρ S Q => o ρ S fun x S1 => (∃ fs, insOf S1 x = some (C, ks, fs)) ∧ a ρ S1 fun ds S2 => ds.length + 1 = n ∧ F (x :: ds) S2 Q
def wMake (C : Addr) (n : Nat) (F : Pr) (a : WA) : WE := fun ρ S Q => a ρ S fun ds S1 => ds.length + 1 = n ∧ F (.ref S1.length :: ds) (S1 ++ [.ins C [] []]) fun d S2 => d = .non ∧ Q (.ref S1.length) S2
section
variable {X : Cx} {k j n : Nat} {x m : Str} {ks : List Str} {F : Pr} {p pos apos : Pos} {e o : Expr} {es : List Expr} {wa : WA} {wo : WE} {C : Addr}
theorem tCall_weak {K : PySem.W.Frag} {σ : St} {H : Hp} {Q : VK} (h : tE K (wCall n F wa) σ H Q) : tCall (spOf K n F) [] E0 (tA K wa) σ H Q := by
  obtain ⟨W, ρ, S, R, hH, hs, re, hw, k⟩ := h
  exact ⟨W, ρ, S, _, hH, hs, re, hw, fun W1 S1 vs ds l1 hs1 r1 ⟨hl, h1⟩ => ⟨W1, S1, ds, R, rfl, hs1, by rw [List.append_nil]; exact r1, hl, h1, k.le l1⟩⟩
theorem j_call (D0 : DefOk X.prog X.w X.K X.mg X.base k x n F) (hr : Room j X.A) (hg : Gl X x) (ha : JA X (e :: es) wa) (hk : k ≤ j := by decide) (hdb : (x == ("__debug__" : Str)) = false := by decide) (he : starEach (e :: es) X.env = (false, eval e X.env) :: starEach es X.env := by rfl)
    (hpl : (backTo pos (starEach es X.env)).any (·.1) = false := by rfl) : JE X (.Call (.Name x p) (e :: es) [] pos) (wCall n F wa) := by
  obtain ⟨f, fd, ps, hn, Fo, hm, hkp, hb⟩ := D0.ex
  exact pe_weak (pe_call Fo (hr.mono hk) hg hm hkp hb .nil pass0 ha hdb he hpl) fun _ _ _ => tCall_weak
theorem j_call0 (D0 : DefOk X.prog X.w X.K X.mg X.base k x n F) (hr : Room j X.A) (hg : Gl X x) (hk : k ≤ j := by decide) (hdb : (x == ("__debug__" : Str)) = false := by decide) : JE X (.Call (.Name x p) [] [] pos) (wCall n F wNil) := by
  obtain ⟨f, fd, ps, hn, Fo, hm, hkp, hb⟩ := D0.ex
  exact pe_weak (pe_call0 Fo (hr.mono hk) hg hm hkp hb .nil pass0 hdb) fun σ H Q ⟨W, ρ, S, R, hH, hs, re, ⟨hl, hw⟩, k⟩ => ⟨W, S, [], R, hH, hs, .nil, hl, hw, k⟩
theorem tMeth_weak {K : PySem.W.Frag} {σ : St} {H : Hp} {Q : VK} (hm : m ∉ ks) (h : tE K (wMeth C ks n F wo wa) σ H Q) : tMeth C m (spOf K n F) [] E0 (tE K wo) (tA K wa) σ H Q := by
  obtain ⟨W, ρ, S, R, hH, hs, re, hw, k⟩ := h
  refine ⟨W, ρ, S, _, hH, hs, re, hw, fun W1 S1 x dx l1 hs1 r1 ⟨⟨fs, hi⟩, h1⟩ => ?_⟩
  obtain ⟨a, dx', vs, rfl, ha, hl, hv⟩ := hs1.ins r1 hi
  exact ⟨a, dx', _, rfl, ha, zip_lookup_none hm, W1, ρ, S1, _, rfl, hs1, re.mono l1, h1, fun W2 S2 vs ds l2 hs2 r2 ⟨hl, h2⟩ => ⟨W2, S2, dx :: ds, R, rfl, hs2, by rw [List.append_nil]; exact .cons (l2.rv r1) r2, hl, h2, k.le (l1.trans l2)⟩⟩
theorem j_meth (M0 : MethOk X.prog X.w X.K X.mg X.base k C m n F) (c : Cls X.K C) (hr : Room j X.A) (hmk : m ∉ ks) (ho : JE X o wo) (ha : JA X (e :: es) wa) {pl : Sem Bool} (hk : k ≤ j := by decide)
    (hst : starEach (e :: es) X.env = (false, eval e X.env) :: starEach es X.env := by rfl) (hpl : (backTo pos (starEach es X.env)).any (·.1) = false := by rfl)
    (ht : eval (.Call (.Attribute o m apos) (e :: es) [] pos) X.env = (do
      let ov ← eval o X.env
      standAt apos.atName
      let (f, first) ← holding [ov] (getMethod ov m pl)
      callWith pos f first (backTo pos (starEach (e :: es) X.env)) (backToKw pos (keywordEach [] X.env))) := by rfl) : JE X (.Call (.Attribute o m apos) (e :: es) [] pos) (wMeth C ks n F wo wa) := by
  obtain ⟨f, fd, ps, hn, Fo, hm, hb⟩ := M0.ex
  exact pe_weak (pe_meth ho c hm Fo (hr.mono hk) hb .nil pass0 ha hst hpl ht) fun _ _ _ => tMeth_weak hmk
theorem j_meth0 (M0 : MethOk X.prog X.w X.K X.mg X.base k C m n F) (c : Cls X.K C) (hr : Room j X.A) (hmk : m ∉ ks) (ho : JE X o wo) {pl : Sem Bool} (hk : k ≤ j := by decide)
    (ht : eval (.Call (.Attribute o m apos) [] [] pos) X.env = (do
      let ov ← eval o X.env
      standAt apos.atName
      let (f, first) ← holding [ov] (getMethod ov m pl)
      callWith pos f first (backTo pos (starEach [] X.env)) (backToKw pos (keywordEach [] X.env))) := by rfl) : JE X (.Call (.Attribute o m apos) [] [] pos) (wMeth C ks n F wo wNil) := by
  obtain ⟨f, fd, ps, hn, Fo, hm, hb⟩ := M0.ex
  exact pe_weak (pe_meth0 ho c hm Fo (hr.mono hk) hb .nil pass0 ht) fun σ H Q h => by
    have q := tMeth_weak hmk h
    obtain ⟨W, ρ, S, R, hH, hs, re, hw, k⟩ := q
    refine ⟨W, ρ, S, R, hH, hs, re, hw, fun W' S' v d l h1 h2 h3 => ?_⟩
    obtain ⟨a, dx, fs, e1, e2, e3, h4⟩ := k W' S' v d l h1 h2 h3
    obtain ⟨W, ρ, S, R, hH, hs, re, hw, k⟩ := h4
    exact ⟨a, dx, fs, e1, e2, e3, hH ▸ k W S [] [] (Le.refl W) hs .nil hw⟩
theorem tMake_weak {K : PySem.W.Frag} {σ : St} {H : Hp} {Q : VK} (h : tE K (wMake C n F wa) σ H Q) : tMake C (spOf K n F) [] E0 (tA K wa) σ H Q := by
  obtain ⟨W, ρ, S, R, hH, hs, re, hw, k⟩ := h
  refine ⟨W, ρ, S, _, hH, hs, re, hw, fun W1 S1 vs ds l1 hs1 r1 ⟨hl, h1⟩ => ?_⟩
  intro x dx nx ndx ne
  obtain ⟨hs2, l2⟩ := hs1.laid (o := .own x) ndx
  have nx2 : upd W1.H dx (.own x) x = none := by
    rw [upd_ne ne.symm]
    exact nx
  obtain ⟨n3, hs3⟩ := New.laid (o := HO.ins C dx []) hs2 nx2
  obtain ⟨l4, hs4, at4⟩ := n3.cell hs3 (c := .ins C [] []) ⟨rfl, [], rfl, rfl, .nil⟩
  have l5 := l2.trans l4
  refine ⟨⟨W1.G, W1.e ++ [x], upd (upd W1.H dx (.own x)) x (.ins C dx [])⟩, S1 ++ [.ins C [] []], .ref S1.length :: ds, _, rfl, hs4, by rw [List.append_nil]; exact .cons (.ref at4) (l5.rvs r1), hl, h1, fun W' S' v d l h2 h3 ⟨e1, h4⟩ => ?_⟩
  subst e1
  cases h3
  exact ⟨rfl, k W' S' (.ref x) _ (l1.trans (l5.trans l)) h2 (.ref (l.at _ _ at4)) h4⟩
theorem j_make (M0 : MakeOk X.prog X.w X.K X.mg X.base k x C n F) (hr : Room j X.A) (hg : Gl X x) (ha : JA X (e :: es) wa) (hk : k + 1 ≤ j := by decide) (hdb : (x == ("__debug__" : Str)) = false := by decide)
    (he : starEach (e :: es) X.env = (false, eval e X.env) :: starEach es X.env := by rfl) (hpl : (backTo pos (starEach es X.env)).any (·.1) = false := by rfl) : JE X (.Call (.Name x p) (e :: es) [] pos) (wMake C n F wa) := by
  obtain ⟨f, fd, ps, hn, Fo, M, hm, hb⟩ := M0.ex
  exact pe_weak (pe_make M Fo (hr.mono hk) hg hm hb .nil pass0 ha hdb he hpl) fun _ _ _ => tMake_weak
end
/-- a cell as a value from then on -/
def wFrz (w : WE) : WE := fun ρ S Q => w ρ S fun x S1 => ∃ l c d, x = .ref l ∧ S1[l]? = some c ∧ fz c d ∧ Q d (S1.set l .dead)
theorem Hs.frz {K : PySem.W.Frag} {W : Wd} {S : Sto} (hs : Hs K W S) {l : Nat} {x : V} {c : Cell} {d : D} (r : RV K W.G W.e x (.ref l)) (hc : S[l]? = some c) (hd : fz c d) : ∃ W', W'.H = W.H ∧ Le W W' ∧ Hs K W' (S.set l .dead) ∧ RV K W'.G W'.e x d := by
  cases r with
  | ref he =>
    rename_i a
    have nd : c ≠ .dead := fun z => by
      subst z
      exact hd
    obtain ⟨ng, o, h1, h2⟩ := hs.at he hc nd
    obtain ⟨hs2, l2⟩ := hs.freeze he hc nd h1 (h2.nt hd)
    exact ⟨⟨upd W.G a o, W.e, W.H⟩, rfl, l2, hs2, (h2.mono l2.g fun _ _ q => q).frz hd upd_same⟩
theorem j_frz {X : Cx} {e : Expr} {w : WE} (h : JE X e w) : JE X e (wFrz w) := pe_weak h fun σ H Q ⟨W, ρ, S, R, hH, hs, re, hw, k⟩ => ⟨W, ρ, S, _, hH, hs, re, hw, fun W1 S1 x dx l1 hs1 r1 ⟨l, c, d, e1, hc, hd, h1⟩ => by
  subst e1
  obtain ⟨W2, e2, l2, hs2, r2⟩ := hs1.frz r1 hc hd
  exact e2 ▸ k W2 _ x d (l1.trans l2) hs2 r2 h1⟩

/-! ### targets -/
def gN (i : Nat) : WG := fun d ρ S Q => Q (ρ.set i (some d)) S
def gsNil : WGs := fun ds ρ S Q => ds = [] ∧ Q ρ S
def gsCons (g : WG) (r : WGs) : WGs := fun ds ρ S Q => ∃ d es, ds = d :: es ∧ g d ρ S fun ρ1 S1 => r es ρ1 S1 Q
def gTu (n : Nat) (r : WGs) : WG := fun d ρ S Q => ∃ ds, seqOf S d = some ds ∧ ds.length = n ∧ r ds ρ S Q
def gIx (o i : WE) : WG := fun d ρ S Q => o ρ S fun x S1 => i ρ S1 fun y S2 => ∃ l ds n j, x = .ref l ∧ S2[l]? = some (.lst ds) ∧ y = .int n ∧ ixN ds.length n = some j ∧ Q ρ (S2.set l (.lst (ds.set j d)))
section
variable {X : Cx} {e : Expr} {es : List Expr} {pos : Pos}
theorem jg_name {i : Nat} {x : Str} (hN : X.N.Nodup) (hi : X.N[i]? = some x) (hx : Loc X.env.scope x) (hf : X.fn x = true ∨ X.env.scope.names.lookup x = some .local := by first | exact .inl rfl | exact .inr rfl | assumption) : JG X (.Name x pos) (gN i) :=
  pg_weak (pg_name hN hi hx hf) fun v σ H Q ⟨W, d, ρ, S, R, hH, hs, re, rv, hw, k⟩ => hH ▸ k W S _ _ (Le.refl W) hs (re.set rv) hw
theorem jgs_nil : JGs X [] gsNil := ⟨fun pins s σ H vs us Q I r ⟨W, ds, ρ, S, R, hH, hs, re, rv, ⟨e1, hw⟩, k⟩ => pgs_nil.run pins s σ H vs us Q I r (by
  subst e1
  cases rv
  exact ⟨rfl, hH ▸ k W S σ ρ (Le.refl W) hs re hw⟩)⟩
theorem jgs_cons {g : WG} {r : WGs} (h1 : JG X e g) (h2 : JGs X es r) (hs : (assignEach (e :: es) X.env).map (·.2) = assign e X.env :: (assignEach es X.env).map (·.2) := by rfl) : JGs X (e :: es) (gsCons g r) :=
  ⟨fun pins s σ H vs us Q I rv ⟨W, ds, ρ, S, R, hH, hs0, re, r0, ⟨d, es', e1, hw⟩, k⟩ => (pgs_cons h1 h2 hs).run pins s σ H vs us Q I rv (by
    subst e1
    cases r0 with
    | cons r1 r2 =>
      exact ⟨_, _, rfl, W, d, ρ, S, _, hH, hs0, re, r1, hw, fun W1 S1 σ1 ρ1 l1 hs1 re1 q1 => ⟨W1, es', ρ1, S1, R, rfl, hs1, re1, l1.rvs r2, q1, fun W2 S2 σ2 ρ2 l2 hs2 re2 q2 => k W2 S2 σ2 ρ2 (l1.trans l2) hs2 re2 q2⟩⟩)⟩
theorem jg_tup {k n : Nat} {r : WGs} (hc : X.calm = true) (h : JGs X es r) (hn : (assignEach es X.env).length = n := by rfl) (hst : (assignEach es X.env).findIdx? (·.1) = none := by rfl) : JG X (.Tuple es k pos) (gTu n r) :=
  ⟨fun pins s σ H v u Q I rv ⟨W, d, ρ, S, R, hH, hs, re, r0, ⟨ds, e1, e2, hw⟩, kk⟩ => by
    subst hH
    obtain ⟨a, vs, rfl, ha, hv⟩ := hs.seq r0 e1
    rcases ha with ha | ha
    · exact (pg_unl hc h hn hst).run pins s σ W.H _ u Q I rv ⟨a, vs, rfl, ha, hv.length.trans e2, W, ds, ρ, S, R, rfl, hs, re, hv, hw, kk⟩
    · exact (pg_tup hc h hn hst).run pins s σ W.H _ u Q I rv ⟨a, vs, rfl, ha, hv.length.trans e2, W, ds, ρ, S, R, rfl, hs, re, hv, hw, kk⟩⟩
theorem jg_ix {o i : Expr} {wo wi : WE} (ho : JE X o wo) (hi : JE X i wi)
    (ha : ∀ v, assign (.Subscript o i pos) X.env v = (do
      let ov ← holding [v] (eval o X.env)
      let iv ← holding [v, ov] (eval i X.env)
      standAt pos
      holding [v, ov, iv] (setItem ov iv v)
      release [v, ov, iv] []) := by intro _; rfl) : JG X (.Subscript o i pos) (gIx wo wi) :=
  pg_weak (pg_sub ho hi set_list ha) fun v σ H Q ⟨W, d, ρ, S, R, hH, hs, re, rv, hw, k⟩ => ⟨W, ρ, S, _, hH, hs, re, hw, fun W1 S1 x dx l1 hs1 r1 h1 => ⟨W1, ρ, S1, _, rfl, hs1, re.mono l1, h1, fun W2 S2 y dy l2 hs2 r2 ⟨l, ds, n, j, e1, hc, e2, hj, h2⟩ => by
    subst e1 e2
    cases r2
    have r1 := l2.rv r1
    cases r1 with
    | ref he =>
      rename_i a
      obtain ⟨vs, hh, hv⟩ := hs2.cellL he hc
      have l12 := l1.trans l2
      obtain ⟨hs3, l3⟩ := hs2.setL he hc (hv.set (l12.rv rv) j)
      exact ⟨a, vs, n, j, rfl, rfl, hh, by rw [hv.length]; exact hj, k ⟨W2.G, W2.e, upd W2.H a (.lst (vs.set j v))⟩ _ σ ρ (l12.trans l3) hs3 (re.mono (l12.trans l3)) h2⟩⟩⟩
end

/-! ### statements -/
def sSeq (a b : WS) : WS := fun E ρ S => a { E with nx := b E } ρ S
def sNil : WS := fun E ρ S => E.nx ρ S
def sAsg (w : WE) (g : WG) : WS := fun E ρ S => w ρ S fun d S1 => g d ρ S1 E.nx
def sDrop (w : WE) : WS := fun E ρ S => w ρ S fun _ S1 => E.nx ρ S1
def sRet (w : WE) : WS := fun E ρ S => w ρ S E.rt
def sRetN : WS := fun E _ S => E.rt .non S
def sIf (t : WT) (a b : WS) : WS := fun E ρ S => t ρ S fun c S1 => if c = true then a E ρ S1 else b E ρ S1
def sBrk : WS := fun E ρ S => E.bk ρ S
def sCnt : WS := fun E ρ S => E.ct ρ S
def sNever : WS := fun _ _ _ => False
def sAug (i : Nat) (z : Z2) (w : WE) : WS := fun E ρ S => ∃ d, ρ[i]? = some (some d) ∧ w ρ S fun y S1 => z d y S1 fun r S2 => E.nx (ρ.set i (some r)) S2
def sAugIx (z : Z2) (o i w : WE) : WS := fun E ρ S => o ρ S fun x S1 => i ρ S1 fun y S2 => ∃ l ds n j d, x = .ref l ∧ y = .int n ∧ S2[l]? = some (.lst ds) ∧ ixN ds.length n = some j ∧ ds[j]? = some d ∧
  w ρ S2 fun u S3 => z d u S3 fun r S4 => ∃ ds', S4[l]? = some (.lst ds') ∧ ixN ds'.length n = some j ∧ E.nx ρ (S4.set l (.lst (ds'.set j r)))
def sPar (i j : Nat) (a b : WE) : WS := fun E ρ S => a ρ S fun x S1 => b ρ S1 fun y S2 => E.nx ((ρ.set i (some x)).set j (some y)) S2
section
variable {X : Cx} {st : Stmt} {rest : List Stmt} {a b : WS} {e : Expr} {w : WE} {pos : Pos}
theorem b_nil : JB X [] sNil := pss_weak pss_nil fun D σ H ⟨W, ρ, S, R, hH, hs, re, hw, k⟩ => hH ▸ k.nx W S σ ρ (Le.refl W) hs re hw
theorem b_cons (h1 : JS X st a) (h2 : JB X rest b) : JB X (st :: rest) (sSeq a b) := pss_weak (pss_cons h1 h2) fun D σ H ⟨W, ρ, S, R, hH, hs, re, hw, k⟩ =>
  ⟨W, ρ, S, { R with nx := b R }, hH, hs, re, hw, fun W1 S1 σ1 ρ1 l1 hs1 re1 h1 => ⟨W1, ρ1, S1, R, rfl, hs1, re1, h1, k.le l1⟩, k.rt, k.bk, k.ct⟩
theorem b_one (h1 : JS X st a) : JB X [st] a := pss_one h1
theorem b_never {sts : List Stmt} : JB X sts sNever := pss_weak pss_never fun D σ H ⟨W, ρ, S, R, hH, hs, re, hw, k⟩ => hw
theorem s_never : JS X st sNever := ps_weak ps_never fun D σ H ⟨W, ρ, S, R, hH, hs, re, hw, k⟩ => hw
theorem s_pass : JS X (.Pass pos) sNil := ps_weak ps_pass fun D σ H ⟨W, ρ, S, R, hH, hs, re, hw, k⟩ => hH ▸ k.nx W S σ ρ (Le.refl W) hs re hw
theorem s_doc {x j pos pos'} : JS X (.Expr (.Constant (.str x) j pos) pos') sNil := ps_weak ps_doc fun D σ H ⟨W, ρ, S, R, hH, hs, re, hw, k⟩ => hH ▸ k.nx W S σ ρ (Le.refl W) hs re hw
theorem s_brk : JS X (.Break pos) sBrk := ps_weak ps_break fun D σ H ⟨W, ρ, S, R, hH, hs, re, hw, k⟩ => hH ▸ k.bk W S σ ρ (Le.refl W) hs re hw
theorem s_cnt : JS X (.Continue pos) sCnt := ps_weak ps_continue fun D σ H ⟨W, ρ, S, R, hH, hs, re, hw, k⟩ => hH ▸ k.ct W S σ ρ (Le.refl W) hs re hw
theorem s_expr (he : JE X e w) (hs : swapsWith e none pos.line X.env = pure false := by rfl) : JS X (.Expr e pos) (sDrop w) := ps_weak (ps_expr he hs) fun D σ H ⟨W, ρ, S, R, hH, hs, re, hw, k⟩ =>
  ⟨W, ρ, S, _, hH, hs, re, hw, fun W1 S1 v d l1 hs1 _ h1 => k.nx W1 S1 σ ρ l1 hs1 (re.mono l1) h1⟩
theorem s_ret (he : JE X e w) : JS X (.Return (some e) pos) (sRet w) := ps_weak (ps_ret he) fun D σ H ⟨W, ρ, S, R, hH, hs, re, hw, k⟩ => ⟨W, ρ, S, _, hH, hs, re, hw, k.rt⟩
theorem s_retN : JS X (.Return none pos) sRetN := ps_weak ps_retN fun D σ H ⟨W, ρ, S, R, hH, hs, re, hw, k⟩ => hH ▸ k.rt W S .non .non (Le.refl W) hs .non hw
theorem s_if {c : Expr} {x y : List Stmt} {t : WT} (hc : JT X c t) (ha : JB X x a) (hb : JB X y b) : JS X (.If c x y pos) (sIf t a b) := ps_weak (ps_if hc ha hb) fun D σ H ⟨W, ρ, S, R, hH, hs, re, hw, k⟩ =>
  ⟨W, ρ, S, _, hH, hs, re, hw, fun W1 S1 c l1 hs1 h1 => by
    cases c with
    | true => exact ⟨W1, ρ, S1, R, rfl, hs1, re.mono l1, h1, k.le l1⟩
    | false => exact ⟨W1, ρ, S1, R, rfl, hs1, re.mono l1, h1, k.le l1⟩⟩
theorem s_asg {tg : Expr} {g : WG} (he : JE X e w) (hg : JG X tg g) (hs : swapsWithSole [tg] e pos.line X.env = pure false := by rfl) (hw : swappedStores [tg] e X.env = pure none := by rfl)
    (h1 : (assignEach [tg] X.env).map (·.2) = [assign tg X.env] := by rfl) : JS X (.Assign [tg] e pos) (sAsg w g) := ps_weak (ps_asg he hg hs hw h1) fun D σ H ⟨W, ρ, S, R, hH, hs, re, hw, k⟩ =>
  ⟨W, ρ, S, _, hH, hs, re, hw, fun W1 S1 x d l1 hs1 r1 h1 => ⟨W1, d, ρ, S1, R.nx, rfl, hs1, re.mono l1, r1, h1, fun W2 S2 σ2 ρ2 l2 hs2 re2 h2 => k.nx W2 S2 σ2 ρ2 (l1.trans l2) hs2 re2 h2⟩⟩
theorem s_set {i : Nat} {x : Str} {pos' : Pos} (hN : X.N.Nodup) (hi : X.N[i]? = some x) (hx : Loc X.env.scope x) (he : JE X e w) (hs : swapsWith e (some (.Name x pos')) pos.line X.env = pure false := by rfl) (hf : X.fn x = true ∨ X.env.scope.names.lookup x = some .local := by first | exact .inl rfl | exact .inr rfl | assumption) :
    JS X (.Assign [.Name x pos'] e pos) (sAsg w (gN i)) := ps_weak (ps_set hN hi hx he hs hf) fun D σ H ⟨W, ρ, S, R, hH, hs, re, hw, k⟩ =>
  ⟨W, ρ, S, _, hH, hs, re, hw, fun W1 S1 x d l1 hs1 r1 h1 => k.nx W1 S1 _ _ l1 hs1 ((re.mono l1).set r1) h1⟩
theorem s_aug {i : Nat} {x : Str} {pos' : Pos} {op : Operator} {z : Z2} (ho : OpR X (inplaceOp op) (r2 X.K z)) (hN : X.N.Nodup) (hi : X.N[i]? = some x) (hx : Loc X.env.scope x) (he : JE X e w) (hf : X.fn x = true ∨ X.env.scope.names.lookup x = some .local := by first | exact .inl rfl | exact .inr rfl | assumption) :
    JS X (.AugAssign (.Name x pos') op e pos) (sAug i z w) := ps_weak (ps_aug (ti := r2 X.K z) hN hi hx he ho hf) fun D σ H ⟨W, ρ, S, R, hH, hs, re, ⟨d, hd, hw⟩, k⟩ => by
  obtain ⟨v, hv, rv⟩ := re.2 i d hd
  exact ⟨v, hv, W, ρ, S, _, hH, hs, re, hw, fun W1 S1 y dy l1 hs1 r1 h1 => ⟨W1, S1, d, dy, _, rfl, hs1, l1.rv rv, r1, h1, fun W2 S2 u du l2 hs2 r2 h2 => k.nx W2 S2 _ _ (l1.trans l2) hs2 ((re.mono (l1.trans l2)).set r2) h2⟩⟩
theorem i_add : OpR X (inplaceOp .Add) (r2 X.K (zI (fun _ _ => True) fun i j => i + j)) := o_int0 iop_add
theorem i_sub : OpR X (inplaceOp .Sub) (r2 X.K (zI (fun _ _ => True) fun i j => i - j)) := o_int0 iop_sub
/-- xs[i], by values -/
theorem get_lst {pins : List (Addr × Obj)} {s : Shared} {σ : St} {H : Hp} {p : Addr} {xs : List V} {i : Int} {z : V} {ov iv : Value} {Q : VK} (I : Inv X pins σ H s) (ro : RelV (.ref p) ov) (ri : RelV (.int i) iv) (hq : SqL X.K H p xs) (he : atI xs i = some z) (q : Q z H) : wpAny (model X.prog X.w) X.A (getItem ov iv) (EP X pins σ Q) X.xe s := by
  cases ro
  obtain ⟨t, rfl⟩ := ri
  obtain ⟨its, r, pl, hz⟩ := I.list hq
  obtain ⟨j, h1, h2, h3, h4, h5⟩ := atI_get he
  obtain ⟨w, ew, rw'⟩ := r.get h2
  have hl := r.length
  have hn := line63
  have fin : EP X pins σ Q w s := ⟨z, H, I, rw', q⟩
  by_cases h0 : 0 ≤ i
  · have hj : i.toNat = j := by
      rw [seqIndex_of h0 h5] at h1
      exact Option.some.inj h1
    exact wpAny_getItem_list pl.isList h0 (by omega) (by rw [hj]; simpa using ew) fin
  · have hj : (i + (its.toArray.size : Int)).toNat = j := by
      rw [seqIndex_neg (by omega) h4] at h1
      rw [List.size_toArray, ← hl]
      exact Option.some.inj h1
    exact wpAny_getItem_list_neg pl.isList (by omega) (by rw [List.size_toArray] <;> omega) (by omega) (by rw [hj]; simpa using ew) fin
theorem pget_lst : PGet X (fun o i H Q => ∃ p xs n z, o = .ref p ∧ i = .int n ∧ SqL X.K H p xs ∧ atI xs n = some z ∧ Q z H) := fun pins s σ H o i ov iv Q I ro ri ⟨p, xs, n, z, e1, e2, hq, he, q⟩ => by
  subst e1 e2
  exact get_lst I ro ri hq he q
theorem s_augIx {o i : Expr} {wo wi : WE} {op : Operator} {z : Z2} {tpos : Pos} (hop : OpR X (inplaceOp op) (r2 X.K z)) (ho : JE X o wo) (hi : JE X i wi) (he : JE X e w)
    (ha : ∀ ov iv new, augStore i ov iv new = (do holding [new, ov, iv] (setItem ov iv new); release [new, ov, iv] []; pure .next) := by intros; rfl) : JS X (.AugAssign (.Subscript o i tpos) op e pos) (sAugIx z wo wi w) :=
  ps_weak (ps_augS ho hi pget_lst he (tip := r2 X.K z) hop set_list ha) fun D σ H ⟨W, ρ, S, R, hH, hs, re, hw, k⟩ =>
    ⟨W, ρ, S, _, hH, hs, re, hw, fun W1 S1 x dx l1 hs1 r1 h1 => ⟨W1, ρ, S1, _, rfl, hs1, re.mono l1, h1, fun W2 S2 y dy l2 hs2 r2 ⟨l, ds, n, j, d, e1, e2, hc, hj, hd, h2⟩ => by
      subst e1 e2
      cases r2
      have r1 := l2.rv r1
      cases r1 with
      | ref he' =>
        rename_i a
        obtain ⟨vs, hh, hv⟩ := hs2.cellL he' hc
        obtain ⟨v, ev, rv⟩ := hv.get hd
        have l12 := l1.trans l2
        refine ⟨a, vs, n, v, rfl, rfl, SqL.of hh, by unfold atI; rw [hv.length, hj]; exact ev, W2, ρ, S2, _, rfl, hs2, re.mono l12, h2, fun W3 S3 u du l3 hs3 r3 h3 => ⟨W3, S3, d, du, _, rfl, hs3, l3.rv rv, r3, h3, fun W4 S4 t dt l4 hs4 r4 ⟨ds', hc', hj', h4⟩ => ?_⟩⟩
        have he4 := (l3.trans l4).at _ _ he'
        obtain ⟨vs', hh', hv'⟩ := hs4.cellL he4 hc'
        obtain ⟨hs5, l5⟩ := hs4.setL he4 hc' (hv'.set r4 j)
        have l := l12.trans ((l3.trans l4).trans l5)
        exact ⟨a, vs', n, j, rfl, rfl, hh', by rw [hv'.length]; exact hj', k.nx ⟨W4.G, W4.e, upd W4.H a (.lst (vs'.set j t))⟩ _ σ ρ l hs5 (re.mono l) h4⟩⟩⟩
theorem s_par {i j : Nat} {x y : Str} {ea eb : Expr} {wa wb : WE} {px py pt : Pos} {kt k2 pt2} (hc : X.calm = true) (hN : X.N.Nodup) (hi : X.N[i]? = some x) (hj : X.N[j]? = some y) (hij : i ≠ j)
    (hx : X.env.scope.names.lookup x = some .local) (hy : X.env.scope.names.lookup y = some .local) (ha : JE X ea wa) (hb : JE X eb wb)
    (hw : swappedStores [.Tuple [.Name x px, .Name y py] kt pt] (.Tuple [ea, eb] k2 pt2) X.env = pure (some [x, y]) := by rfl)
    (hs : swapsWithSole [.Tuple [.Name x px, .Name y py] kt pt] (.Tuple [ea, eb] k2 pt2) pos.line X.env = pure false := by rfl)
    (hst1 : starEach (ea :: [eb]) X.env = (false, eval ea X.env) :: starEach [eb] X.env := by rfl) (hst2 : starEach (eb :: []) X.env = (false, eval eb X.env) :: starEach [] X.env := by rfl) :
    JS X (.Assign [.Tuple [.Name x px, .Name y py] kt pt] (.Tuple [ea, eb] k2 pt2) pos) (sPar i j wa wb) :=
  ps_weak (ps_par hc hN hi hj hij hx hy (ja_cons ha (ja_cons hb ja_nil hst2) hst1) hw hs) fun D σ H ⟨W, ρ, S, R, hH, hs, re, hw, k⟩ =>
    ⟨W, ρ, S, fun ds S2 => (match ds with
      | [x, y] => R.nx ((ρ.set i (some x)).set j (some y)) S2
      | _ => False), hH, hs, re, hw, fun W1 S1 vs ds l1 hs1 r1 h1 => by
      cases r1 with
      | nil => exact h1.elim
      | cons q1 r1 =>
        cases r1 with
        | nil => exact h1.elim
        | cons q2 r1 =>
          cases r1 with
          | nil => exact ⟨_, _, rfl, k.nx W1 S1 _ _ l1 hs1 (((re.mono l1).set q1).set q2) h1⟩
          | cons _ _ => exact h1.elim⟩
end
end Tk

namespace Tk
open PySem PySem.Spec PyProof.Rows L2

/-! ### what is walked -/
structure JOk (K : PySem.W.Frag) (W0 : Wd) (J : It) (items : List D) (side : Sto → Prop) : Prop where
  go : ∀ (W : Wd) (S : Sto) (i : Nat), Le W0 W → Hs K W S → side S → i < items.length → J.go i W.H
  yld : ∀ (W : Wd) (S : Sto) (i : Nat) (x : V) (H' : Hp), Le W0 W → Hs K W S → side S → i < items.length → J.yld i W.H x H' → ∃ (W' : Wd) (d : D), W'.H = H' ∧ Le W W' ∧ Hs K W' S ∧ items[i]? = some d ∧ RV K W'.G W'.e x d
  stop : ∀ (W : Wd) (S : Sto), Le W0 W → Hs K W S → side S → J.stop items.length W.H
def tI (K : PySem.W.Frag) (w : WI) : TI := fun σ H Q => ∃ (W : Wd) (ρ : Nv) (S : Sto) (R : List D → (Sto → Prop) → Sto → Prop), W.H = H ∧ Hs K W S ∧ RE K W σ ρ ∧ w ρ S R ∧
  ∀ (W' : Wd) (S' : Sto) (J : It) (items : List D) (side : Sto → Prop), Le W W' → Hs K W' S' → JOk K W' J items side → side S' → R items side S' → Q J W'.H
abbrev JI (X : Cx) (tg e : Expr) (w : WI) : Prop := PI X tg e (tI X.K w)
/-- over a list or a tuple -/
def wIn (w : WE) : WI := fun ρ S Q => w ρ S fun x S1 => ∃ ds, seqOf S1 x = some ds ∧ Q ds (fun S => seqOf S x = some ds) S1
/-- over range -/
def rng (lo : Int) (n : Nat) : List D := (List.range n).map fun i => D.int (lo + (i : Nat))
def rngC (lo c : Int) (n : Nat) : List D := (List.range n).map fun i => D.int (lo + (i : Nat) * c)
def wR1 (a : WE) : WI := fun ρ S Q => a ρ S fun x S1 => ∃ j, x = .int j ∧ (-(2 ^ 62) ≤ j ∧ j < 2 ^ 62) ∧ Q (rng 0 j.toNat) (fun _ => True) S1
def wR2 (a b : WE) : WI := fun ρ S Q => a ρ S fun x S1 => b ρ S1 fun y S2 => ∃ i j, x = .int i ∧ y = .int j ∧ (-(2 ^ 62) ≤ i ∧ i < 2 ^ 62 ∧ -(2 ^ 62) ≤ j ∧ j < 2 ^ 62) ∧ Q (rng i (j - i).toNat) (fun _ => True) S2
def wR3 (a b c : WE) : WI := fun ρ S Q => a ρ S fun x S1 => b ρ S1 fun y S2 => c ρ S2 fun z S3 => ∃ i j c n, x = .int i ∧ y = .int j ∧ z = .int c ∧ RgC i j c n ∧ Q (rngC i c n) (fun _ => True) S3
section
variable {X : Cx} {tg : Expr} {e : Expr} {w : WE}
theorem jok_list {K : PySem.W.Frag} {W : Wd} {a : Addr} {d : D} {ds : List D} (r : RV K W.G W.e (.ref a) d) (hL : ∀ (W1 : Wd) (S1 : Sto), Le W W1 → Hs K W1 S1 → seqOf S1 d = some ds → ∃ vs, SqL K W1.H a vs ∧ RVs K W1.G W1.e vs ds)
    (inj : ∀ (W1 : Wd) (S1 : Sto) (vs vs' : List V), Le W W1 → Hs K W1 S1 → True) : JOk K W (Itl K a) ds fun S => seqOf S d = some ds where
  go := fun W1 S1 i l1 hs1 sd hi => by
    obtain ⟨vs, h1, h2⟩ := hL W1 S1 l1 hs1 sd
    exact ⟨vs, vs[i]'(by rw [h2.length]; exact hi), h1, List.getElem?_eq_getElem _⟩
  yld := fun W1 S1 i x H' l1 hs1 sd hi hy => by
    obtain ⟨vs, h1, h2⟩ := hL W1 S1 l1 hs1 sd
    obtain ⟨e1, e2⟩ := hy
    obtain ⟨d', h3, h4⟩ := h2.get' (e2 vs h1)
    exact ⟨W1, d', e1.symm, Le.refl W1, hs1, h3, h4⟩
  stop := fun W1 S1 l1 hs1 sd => by
    obtain ⟨vs, h1, h2⟩ := hL W1 S1 l1 hs1 sd
    exact ⟨vs, h1, Nat.le_of_eq h2.length⟩
theorem jok_tup {K : PySem.W.Frag} {W : Wd} {a : Addr} {vs : List V} {ds : List D} (h1 : SqT K W.G a vs) (h2 : RVs K W.G W.e vs ds) {side : Sto → Prop} : JOk K W (Itt K a) ds side where
  go := fun W1 S1 i l1 hs1 sd hi => ⟨vs, vs[i]'(by rw [h2.length]; exact hi), Same.sqT hs1.g (Same.sqT l1.g h1), List.getElem?_eq_getElem _⟩
  yld := fun W1 S1 i x H' l1 hs1 sd hi hy => by
    obtain ⟨e1, e2⟩ := hy
    obtain ⟨d', h3, h4⟩ := h2.get' (e2 vs (Same.sqT hs1.g (Same.sqT l1.g h1)))
    exact ⟨W1, d', e1.symm, Le.refl W1, hs1, h3, l1.rv h4⟩
  stop := fun W1 S1 l1 hs1 sd => ⟨vs, Same.sqT hs1.g (Same.sqT l1.g h1), Nat.le_of_eq h2.length⟩
theorem ji_seq (he : JE X e w) : JI X tg e (wIn w) := by
  refine ⟨fun pins s σ H Q I ⟨W, ρ, S, R, hH, hs, re, hw, k⟩ => ?_⟩
  have he' := he.run pins s σ H (fun x H1 => ∃ (W1 : Wd) (S1 : Sto) (d : D) (ds : List D), W1.H = H1 ∧ Le W W1 ∧ Hs X.K W1 S1 ∧ RV X.K W1.G W1.e x d ∧ seqOf S1 d = some ds ∧ R ds (fun S => seqOf S d = some ds) S1) I
    ⟨W, ρ, S, _, hH, hs, re, hw, fun W1 S1 x d l1 hs1 r1 ⟨ds, h1, h2⟩ => ⟨W1, S1, d, ds, rfl, l1, hs1, r1, h1, h2⟩⟩
  refine thn he' fun v s1 ⟨x, H1, I1, rx, W1, S1, d, ds, e1, l1, hs1, r1, h1, h2⟩ => ?_
  subst e1
  have fl : ∀ {a : Addr} {vs : List V}, x = .ref a → SqL X.K W1.H a vs → RV X.K W1.G W1.e (.ref a) d → JOk X.K W1 (Itl X.K a) ds (fun S => seqOf S d = some ds) → wpAny (model X.prog X.w) X.A (pyIter v) (PIE X pins σ tg Q) X.xe s1 := fun {a vs} ex hq rd jo => by
    subst ex
    cases rx
    obtain ⟨its, rv, p, hz⟩ := I1.list hq
    refine wpAny_pyIter_list p.isList ?_
    refine ⟨s1.heap.objs.size, [s1.heap.objs.size], _, _, W1.H, rfl, I1.kept (t' := s1.toks) fun b o e => Heap.get?_push_of_some _ e, turn_list a _, ⟨_, Heap.get?_push_size _ rfl, rfl, rfl⟩, fun b hb => ?_, k W1 S1 (Itl X.K a) ds _ l1 hs1 jo h1 h2⟩
    have e : b = s1.heap.objs.size := by simpa using hb
    subst e
    exact I1.fpOk (Nat.le_refl _) (I1.hok.fresh (Nat.le_refl _))
  cases d with
  | lst es =>
    cases h1
    cases r1 with
    | lst hg hv => exact fl rfl (SqL.of (hs1.g _ _ hg)) (.lst hg hv) (jok_list (.lst hg hv) (fun W2 S2 l2 hs2 _ => ⟨_, SqL.of (hs2.g _ _ (l2.g _ _ hg)), l2.rvs hv⟩) fun _ _ _ _ _ _ => trivial)
  | rd es =>
    cases h1
    cases r1 with
    | rd hg hv => exact fl rfl (hs1.g.seq hg) (.rd hg hv) (jok_list (.rd hg hv) (fun W2 S2 l2 hs2 _ => ⟨_, hs2.g.seq (l2.g.seq hg), l2.rvs hv⟩) fun _ _ _ _ _ _ => trivial)
  | ref l =>
    cases r1 with
    | ref hl =>
      simp only [seqOf] at h1
      split at h1
      · rename_i es hc
        cases h1
        obtain ⟨vs, hh, hv⟩ := hs1.cellL hl hc
        refine fl rfl (SqL.of hh) (.ref hl) (jok_list (.ref hl) (fun W2 S2 l2 hs2 sd => ?_) fun _ _ _ _ _ _ => trivial)
        simp only [seqOf] at sd
        split at sd
        · rename_i es' hc'
          cases sd
          obtain ⟨vs', hh', hv'⟩ := hs2.cellL (l2.at _ _ hl) hc'
          exact ⟨vs', SqL.of hh', hv'⟩
        · cases sd
      · cases h1
  | tup es =>
    cases h1
    cases r1 with
    | tup hg hv =>
      cases rx
      obtain ⟨its, rv, p, hz⟩ := I1.tuple (Same.sqT hs1.g (tq hg))
      refine wpAny_pyIter_tuple (show s1.heap.IsTuple _ its.toArray from p) ?_
      refine ⟨s1.heap.objs.size, [s1.heap.objs.size], _, _, W1.H, rfl, I1.kept (t' := s1.toks) fun b o e => Heap.get?_push_of_some _ e, turn_tuple _ _, ⟨_, Heap.get?_push_size _ rfl, rfl, rfl⟩, fun b hb => ?_, k W1 S1 (Itt X.K _) _ (fun S => seqOf S (Tk.D.tup _) = some _) l1 hs1 (jok_tup (tq hg) hv) rfl h2⟩
      have e : b = s1.heap.objs.size := by simpa using hb
      subst e
      exact I1.fpOk (Nat.le_refl _) (I1.hok.fresh (Nat.le_refl _))
  | _ => cases h1
theorem rng_len (lo : Int) (n : Nat) : (rng lo n).length = n := by simp [rng]
theorem rng_get {lo : Int} {n i : Nat} (h : i < n) : (rng lo n)[i]? = some (.int (lo + (i : Nat))) := by simp [rng, h]
theorem rngC_len (lo c : Int) (n : Nat) : (rngC lo c n).length = n := by simp [rngC]
theorem rngC_get {lo c : Int} {n i : Nat} (h : i < n) : (rngC lo c n)[i]? = some (.int (lo + (i : Nat) * c)) := by simp [rngC, h]
theorem jok_rng {K : PySem.W.Frag} {W : Wd} {lo : Int} {n : Nat} : JOk K W (Itr lo n) (rng lo n) fun _ => True where
  go := fun W1 S1 i l1 hs1 sd hi => by
    rw [rng_len] at hi
    exact hi
  yld := fun W1 S1 i x H' l1 hs1 sd hi hy => by
    rw [rng_len] at hi
    obtain ⟨e1, e2⟩ := hy
    subst e2
    exact ⟨W1, _, e1.symm, Le.refl W1, hs1, rng_get hi, .int _⟩
  stop := fun W1 S1 l1 hs1 sd => by
    rw [rng_len]
    exact Nat.le_refl _
theorem jok_rngC {K : PySem.W.Frag} {W : Wd} {lo c : Int} {n : Nat} : JOk K W (Itc lo c n) (rngC lo c n) fun _ => True where
  go := fun W1 S1 i l1 hs1 sd hi => by
    rw [rngC_len] at hi
    exact hi
  yld := fun W1 S1 i x H' l1 hs1 sd hi hy => by
    rw [rngC_len] at hi
    obtain ⟨e1, e2⟩ := hy
    subst e2
    exact ⟨W1, _, e1.symm, Le.refl W1, hs1, rngC_get hi, .int _⟩
  stop := fun W1 S1 l1 hs1 sd => by
    rw [rngC_len]
    exact Nat.le_refl _
theorem ji_r1 {a : Expr} {wa : WE} {p pos : Pos} (hg : Gl X "range") (hm : X.mg "range" = none) (ha : JE X a wa) (hs : starEach [a] X.env = [(false, eval a X.env)] := by rfl) : JI X tg (.Call (.Name "range" p) [a] [] pos) (wR1 wa) :=
  pi_weak (pi_range1 hg hm (pa_cons ha pa_nil hs) hs) fun σ H Q ⟨W, ρ, S, R, hH, hs, re, hw, k⟩ => ⟨W, ρ, S, _, hH, hs, re, hw, fun W1 S1 x dx l1 hs1 r1 ⟨j, e1, ⟨b1, b2⟩, h1⟩ => by
    subst e1
    cases r1
    exact ⟨j, rfl, b1, b2, k W1 S1 _ _ _ l1 hs1 jok_rng trivial h1⟩⟩
theorem ji_r2 {a b : Expr} {wa wb : WE} {p pos : Pos} (hg : Gl X "range") (hm : X.mg "range" = none) (ha : JE X a wa) (hb : JE X b wb) (hs : starEach [a, b] X.env = [(false, eval a X.env), (false, eval b X.env)] := by rfl) (hs2 : starEach [b] X.env = [(false, eval b X.env)] := by rfl) :
    JI X tg (.Call (.Name "range" p) [a, b] [] pos) (wR2 wa wb) :=
  pi_weak (pi_range2 hg hm (pa_cons ha (pa_cons hb pa_nil hs2) (by rw [hs, hs2])) hs hs2) fun σ H Q ⟨W, ρ, S, R, hH, hs, re, hw, k⟩ => ⟨W, ρ, S, _, hH, hs, re, hw, fun W1 S1 x dx l1 hs1 r1 h1 => ⟨W1, ρ, S1, _, rfl, hs1, re.mono l1, h1, fun W2 S2 y dy l2 hs2 r2 ⟨i, j, e1, e2, bs, h2⟩ => by
    subst e1 e2
    cases r1
    cases r2
    exact ⟨i, j, rfl, bs, k W2 S2 _ _ _ (l1.trans l2) hs2 jok_rng trivial h2⟩⟩⟩
theorem ji_r3 {a b c : Expr} {wa wb wc : WE} {p pos : Pos} (hg : Gl X "range") (hm : X.mg "range" = none) (ha : JE X a wa) (hb : JE X b wb) (hc : JE X c wc)
    (hs : starEach [a, b, c] X.env = [(false, eval a X.env), (false, eval b X.env), (false, eval c X.env)] := by rfl) (hs2 : starEach [b, c] X.env = [(false, eval b X.env), (false, eval c X.env)] := by rfl) (hs3 : starEach [c] X.env = [(false, eval c X.env)] := by rfl) :
    JI X tg (.Call (.Name "range" p) [a, b, c] [] pos) (wR3 wa wb wc) :=
  pi_weak (pi_range3 hg hm (pa_cons ha (pa_cons hb (pa_cons hc pa_nil hs3) (by rw [hs2, hs3])) (by rw [hs, hs2])) (by rw [hs, hs2]) (by rw [hs2]; rfl)) fun σ H Q ⟨W, ρ, S, R, hH, hs, re, hw, k⟩ => ⟨W, ρ, S, _, hH, hs, re, hw, fun W1 S1 x dx l1 hs1 r1 h1 => ⟨W1, ρ, S1, _, rfl, hs1, re.mono l1, h1, fun W2 S2 y dy l2 hs2 r2 h2 => ⟨W2, ρ, S2, _, rfl, hs2, (re.mono l1).mono l2, h2, fun W3 S3 z dz l3 hs3 r3 ⟨i, j, c, n, e1, e2, e3, bs, h3⟩ => by
    subst e1 e2 e3
    cases r1
    cases r2
    cases r3
    exact ⟨i, j, c, n, rfl, bs, k W3 S3 _ _ _ (l1.trans (l2.trans l3)) hs3 jok_rngC trivial h3⟩⟩⟩⟩
end

/-! ### for, while -/
def sFor (wi : WI) (g : WG) (b : WS) : WS := fun E ρ S => wi ρ S fun items side S1 => ∃ Pv : Nat → Nv → Sto → Prop, Pv 0 ρ S1 ∧ (∀ i ρ S, i ≤ items.length → Pv i ρ S → side S) ∧
  (∀ i x ρ S, items[i]? = some x → Pv i ρ S → g x ρ S fun ρ2 S2 => b { E with nx := Pv (i + 1), ct := Pv (i + 1), bk := E.nx } ρ2 S2) ∧ ∀ ρ S, Pv items.length ρ S → E.nx ρ S
def sWhile (c : WT) (b : WS) : WS := fun E ρ S => ∃ Pv : Nat → Nv → Sto → Prop, (∃ m, Pv m ρ S) ∧ ∀ m ρ S, Pv m ρ S → c ρ S fun t S1 =>
  if t = true then b { E with nx := fun ρ S => ∃ m', m' < m ∧ Pv m' ρ S, ct := fun ρ S => ∃ m', m' < m ∧ Pv m' ρ S, bk := E.nx } ρ S1 else E.nx ρ S1
section
variable {X : Cx} {tg iter : Expr} {body : List Stmt} {wi : WI} {g : WG} {b : WS} {pos : Pos}
theorem s_for (hp : PassesOwn (model X.prog X.w) X.A X.env X.xe) (hc : X.calm = true) (hi : JI X tg iter wi) (hg : JG X tg g) (hb : JB X body b) (hs : ∀ x, foldedSetIterable iter X.env x = pure x := by intro _; rfl) : JS X (.For tg iter body [] pos) (sFor wi g b) :=
  ps_weak (ps_for hp hc hi hg hb hs) fun D σ H ⟨W, ρ, S, R, hH, hs, re, hw, k⟩ => ⟨W, ρ, S, _, hH, hs, re, hw, fun W1 S1 J items side l1 hs1 jo sd ⟨Pv, p0, psd, pt, pd⟩ => by
    refine ⟨fun i m σ H => m = items.length - i ∧ i ≤ items.length ∧ ∃ (W2 : Wd) (ρ2 : Nv) (S2 : Sto), W2.H = H ∧ Le W1 W2 ∧ Hs X.K W2 S2 ∧ RE X.K W2 σ ρ2 ∧ Pv i ρ2 S2, ⟨items.length, rfl, Nat.zero_le _, W1, ρ, S1, rfl, Le.refl W1, hs1, re.mono l1, p0⟩, ?_⟩
    rintro i m σ2 H2 ⟨rfl, hi, W2, ρ2, S2, rfl, l2, hs2, re2, p2⟩
    have sd2 := psd i ρ2 S2 hi p2
    by_cases hlt : i < items.length
    · refine .inr ⟨jo.go W2 S2 i l2 hs2 sd2 hlt, fun σ' H' => i + 1 ≤ items.length ∧ ∃ (W3 : Wd) (ρ3 : Nv) (S3 : Sto), W3.H = H' ∧ Le W1 W3 ∧ Hs X.K W3 S3 ∧ RE X.K W3 σ' ρ3 ∧ Pv (i + 1) ρ3 S3, fun σ' H' ⟨h1, h2⟩ => ⟨items.length - (i + 1), by omega, rfl, h1, h2⟩, fun x H' hy => ?_⟩
      obtain ⟨W3, d, rfl, l3, hs3, hd, rd⟩ := jo.yld W2 S2 i x H' l2 hs2 sd2 hlt hy
      refine ⟨W3, d, ρ2, S2, _, rfl, hs3, re2.mono l3, rd, pt i d ρ2 S2 hd p2, fun W4 S4 σ4 ρ4 l4 hs4 re4 h4 => ?_⟩
      have l14 := l2.trans (l3.trans l4)
      have k4 := k.le (l1.trans l14)
      exact ⟨W4, ρ4, S4, _, rfl, hs4, re4, h4, fun W5 S5 σ5 ρ5 l5 hs5 re5 h5 => ⟨hlt, W5, ρ5, S5, rfl, l14.trans l5, hs5, re5, h5⟩, k4.rt, fun W5 S5 σ5 ρ5 l5 hs5 re5 h5 => k4.nx W5 S5 σ5 ρ5 l5 hs5 re5 h5,
        fun W5 S5 σ5 ρ5 l5 hs5 re5 h5 => ⟨hlt, W5, ρ5, S5, rfl, l14.trans l5, hs5, re5, h5⟩⟩
    · have e : i = items.length := by omega
      subst e
      exact .inl ⟨jo.stop W2 S2 l2 hs2 sd2, k.nx W2 S2 σ2 ρ2 (l1.trans l2) hs2 re2 (pd ρ2 S2 p2)⟩⟩
theorem s_while {c : Expr} {t : WT} (hp : PassesOwn (model X.prog X.w) X.A X.env X.xe) (hc : JT X c t) (hb : JB X body b) : JS X (.While c body [] pos) (sWhile t b) :=
  ps_weak (ps_while hp hc hb) fun D σ H ⟨W, ρ, S, R, hH, hs, re, ⟨Pv, ⟨m0, p0⟩, pt⟩, k⟩ => by
    refine ⟨fun m σ H => ∃ (W2 : Wd) (ρ2 : Nv) (S2 : Sto), W2.H = H ∧ Le W W2 ∧ Hs X.K W2 S2 ∧ RE X.K W2 σ ρ2 ∧ Pv m ρ2 S2, ⟨m0, W, ρ, S, hH, Le.refl W, hs, re, p0⟩, ?_⟩
    rintro m σ2 H2 ⟨W2, ρ2, S2, rfl, l2, hs2, re2, p2⟩
    refine ⟨W2, ρ2, S2, _, rfl, hs2, re2, pt m ρ2 S2 p2, fun W3 S3 c l3 hs3 h3 => ?_⟩
    have l23 := l2.trans l3
    cases c with
    | true =>
      refine ⟨fun σ' H' => ∃ m', m' < m ∧ ∃ (W2 : Wd) (ρ2 : Nv) (S2 : Sto), W2.H = H' ∧ Le W W2 ∧ Hs X.K W2 S2 ∧ RE X.K W2 σ' ρ2 ∧ Pv m' ρ2 S2, fun _ _ h => h, W3, ρ2, S3, _, rfl, hs3, re2.mono l3, h3, fun W5 S5 σ5 ρ5 l5 hs5 re5 ⟨m', hm, h5⟩ => ⟨m', hm, W5, ρ5, S5, rfl, l23.trans l5, hs5, re5, h5⟩, (k.le l23).rt, fun W5 S5 σ5 ρ5 l5 hs5 re5 h5 => (k.le l23).nx W5 S5 σ5 ρ5 l5 hs5 re5 h5,
        fun W5 S5 σ5 ρ5 l5 hs5 re5 ⟨m', hm, h5⟩ => ⟨m', hm, W5, ρ5, S5, rfl, l23.trans l5, hs5, re5, h5⟩⟩
    | false => exact k.nx W3 S3 σ2 ρ2 l23 hs3 (re2.mono l3) h3
end

/-! ### list comprehensions -/
def wipeD (ρ : Nv) : List Nat → Nv
  | [] => ρ
  | v :: vs => (wipeD ρ vs).set v none
theorem wipe_get (σ : St) : ∀ (vs : List Nat) (j : Nat), (wipe σ vs)[j]? = if j ∈ vs then (if j < σ.length then some none else none) else σ[j]?
  | [], j => by simp [wipe]
  | v :: vs, j => by
    unfold wipe
    by_cases h : v = j
    · subst h
      by_cases hl : v < σ.length
      · rw [List.getElem?_set_self (by rw [wipe_length]; exact hl)]
        simp [hl]
      · rw [List.getElem?_eq_none (by rw [List.length_set, wipe_length]; exact Nat.le_of_not_lt hl)]
        simp [hl]
    · rw [List.getElem?_set_ne h, wipe_get σ vs j]
      simp [List.mem_cons, show ¬ j = v from fun z => h z.symm]
theorem wipeD_get (σ : Nv) : ∀ (vs : List Nat) (j : Nat), (wipeD σ vs)[j]? = if j ∈ vs then (if j < σ.length then some none else none) else σ[j]?
  | [], j => by simp [wipeD]
  | v :: vs, j => by
    have wl : ∀ vs, (wipeD σ vs).length = σ.length := fun vs => by
      induction vs with
      | nil => rfl
      | cons a r ih => unfold wipeD; rw [List.length_set, ih]
    unfold wipeD
    by_cases h : v = j
    · subst h
      by_cases hl : v < σ.length
      · rw [List.getElem?_set_self (by rw [wl]; exact hl)]
        simp [hl]
      · rw [List.getElem?_eq_none (by rw [List.length_set, wl]; exact Nat.le_of_not_lt hl)]
        simp [hl]
    · rw [List.getElem?_set_ne h, wipeD_get σ vs j]
      simp [List.mem_cons, show ¬ j = v from fun z => h z.symm]
theorem wipeD_len (σ : Nv) : ∀ vs, (wipeD σ vs).length = σ.length
  | [] => rfl
  | v :: vs => by unfold wipeD; rw [List.length_set, wipeD_len σ vs]
theorem RE.wipe {K : PySem.W.Frag} {W : Wd} {σ : St} {ρ : Nv} (h : RE K W σ ρ) (vs : List Nat) : RE K W (L2.wipe σ vs) (wipeD ρ vs) := by
  refine ⟨by rw [wipe_length, wipeD_len]; exact h.1, fun i d q => ?_⟩
  rw [wipeD_get] at q
  by_cases hi : i ∈ vs
  · rw [if_pos hi] at q
    split at q <;> cases q
  · rw [if_neg hi] at q
    rw [wipe_get, if_neg hi]
    exact h.2 i d q
/-- the targets of a comprehension: a name; a tuple of names -/
inductive Tg where
  | n (i : Nat)
  | t (is : List Nat)
def setAll (σ : St) : List Nat → List V → St
  | i :: is, v :: vs => setAll (σ.set i (some v)) is vs
  | _, _ => σ
def setAllD (σ : Nv) : List Nat → List D → Nv
  | i :: is, v :: vs => setAllD (σ.set i (some v)) is vs
  | _, _ => σ
theorem RE.setAll {K : PySem.W.Frag} {W : Wd} : ∀ {is : List Nat} {σ : St} {ρ : Nv} {vs : List V} {ds : List D}, RE K W σ ρ → RVs K W.G W.e vs ds → RE K W (Tk.setAll σ is vs) (setAllD ρ is ds)
  | [], _, _, _, _, h, _ => by simpa [Tk.setAll, setAllD] using h
  | _ :: _, _, _, _, _, h, .nil => by simpa [Tk.setAll, setAllD] using h
  | i :: is, _, _, _, _, h, .cons r t => RE.setAll (is := is) (h.set r) t
theorem wipe_set {σ σ' : St} {vs : List Nat} (h : ∀ j, j ∉ vs → σ'[j]? = σ[j]?) (hl : σ'.length = σ.length) : wipe σ' vs = wipe σ vs := by
  refine List.ext_getElem? fun j => ?_
  rw [wipe_get, wipe_get, hl]
  by_cases hj : j ∈ vs
  · rw [if_pos hj, if_pos hj]
  · rw [if_neg hj, if_neg hj, h j hj]
theorem setAll_len : ∀ (is : List Nat) (σ : St) (vs : List V), (setAll σ is vs).length = σ.length
  | [], _, _ => rfl
  | _ :: _, _, [] => rfl
  | i :: is, σ, v :: vs => by
    show (setAll (σ.set i (some v)) is vs).length = _
    rw [setAll_len is, List.length_set]
theorem setAll_ne : ∀ (is : List Nat) (σ : St) (vs : List V) (j : Nat), j ∉ is → (setAll σ is vs)[j]? = σ[j]?
  | [], _, _, _, _ => rfl
  | _ :: _, _, [], _, _ => rfl
  | i :: is, σ, v :: vs, j, h => by
    show (setAll (σ.set i (some v)) is vs)[j]? = _
    rw [setAll_ne is _ vs j fun z => h (List.mem_cons_of_mem _ z), List.getElem?_set_ne fun z : i = j => h (z ▸ List.mem_cons_self)]
/-- the target's rule, over σ -/
def gsS (K : PySem.W.Frag) : Tg → TG
  | .n i => gName i
  | .t is => fun v σ H Q => ∃ a xs, v = .ref a ∧ SqT K H a xs ∧ xs.length = is.length ∧ Q (setAll σ is xs) H
theorem gs_all : ∀ {is : List Nat} {X : Cx} {es : List Expr}, (∀ t, (t : TGs) = t → True) → True := fun _ => trivial
structure TgOk (X : Cx) (tg : Expr) (t : Tg) : Prop where
  run : PG X tg (gsS X.K t)
def gsL : List Nat → TGs
  | [] => gNil
  | i :: is => gCons (gName i) (gsL is)
theorem gsL_run : ∀ {is : List Nat} {vs : List V} {σ : St} {H : Hp} {Q : St → Hp → Prop}, vs.length = is.length → Q (setAll σ is vs) H → gsL is vs σ H Q
  | [], [], _, _, _, _, h => ⟨rfl, h⟩
  | i :: is, v :: vs, _, _, _, hl, h => ⟨v, vs, rfl, gsL_run (is := is) (by simpa using hl) h⟩
theorem tg_name {X : Cx} {e : Expr} {i : Nat} (h : PG X e (gName i)) : TgOk X e (.n i) := ⟨h⟩
theorem tg_tup {X : Cx} {es : List Expr} {k : Nat} {pos : Pos} {is : List Nat} (hc : X.calm = true) (h : PGs X es (gsL is)) (hn : (assignEach es X.env).length = is.length := by rfl) (hst : (assignEach es X.env).findIdx? (·.1) = none := by rfl) : TgOk X (.Tuple es k pos) (.t is) :=
  ⟨pg_weak (pg_tup hc h hn hst) fun v σ H Q ⟨a, xs, e1, h1, h2, h3⟩ => ⟨a, xs, e1, h1, h2, gsL_run h2 h3⟩⟩
def tgs : Tg → List Nat
  | .n i => [i]
  | .t is => is
/-- over data -/
def tgD : Tg → D → Nv → Sto → (Nv → Prop) → Prop
  | .n i, d, ρ, _, Q => Q (ρ.set i (some d))
  | .t is, d, ρ, _, Q => ∃ ds, d = .tup ds ∧ ds.length = is.length ∧ Q (setAllD ρ is ds)
def wLc (wi : WI) (tg : Tg) (t : WT) (w : WE) (vs : List Nat) : WF := fun ρ S Q => wi ρ S fun items side S1 => ∃ Pv : Nat → List D → Sto → Prop, Pv 0 [] S1 ∧ (∀ i acc S, i ≤ items.length → Pv i acc S → side S) ∧
  (∀ i x acc S, items[i]? = some x → Pv i acc S → tgD tg x (wipeD ρ vs) S fun ρ2 => t ρ2 S fun c S2 => if c = true then w ρ2 S2 fun y S3 => acc.length < sizeLine ∧ Pv (i + 1) (acc ++ [y]) S3 else Pv (i + 1) acc S2) ∧ ∀ acc S, Pv items.length acc S → Q (.lst acc) S
def wYes : WT := fun _ S Q => Q true S
def tTs (K : PySem.W.Frag) (w : WT) : TT := tT K w
theorem Hs.over {K : PySem.W.Frag} {W : Wd} {S : Sto} (h : Hs K W S) {p : Addr} {o : HO} (hg : W.G p = none) (hn : p ∉ W.e) : Hs K ⟨W.G, W.e, upd W.H p o⟩ S := by
  refine ⟨fun a u q => ?_, h.len, fun a q => ?_, h.nd, fun l a c h1 h2 => ?_, h.nt, h.ta⟩
  · show upd W.H p o a = _
    rw [upd_ne (fun z : a = p => by rw [z, hg] at q; cases q)]
    exact h.g a u q
  · show upd W.H p o a ≠ none
    rw [upd_ne (fun z : a = p => hn (z ▸ q))]
    exact h.th a q
  · rcases h.cel l a c h1 h2 with z | ⟨z1, u, z2, z3⟩
    · exact .inl z
    · refine .inr ⟨z1, u, ?_, z3⟩
      show upd W.H p o a = _
      rw [upd_ne (fun z : a = p => hn (z ▸ List.mem_of_getElem? h1))]
      exact z2
theorem Le.over {A B : Wd} (l : Le A B) {p : Addr} {o : HO} (hp : A.H p = none) : Le A ⟨B.G, B.e, upd B.H p o⟩ := by
  refine ⟨l.g, l.e, l.fr, fun a u h1 h2 h3 => ?_, l.gn⟩
  show upd B.H p o a = _
  rw [upd_ne (fun z : a = p => by rw [z, hp] at h1; cases h1)]
  exact l.kp a u h1 h2 h3
theorem Le.ng {A B : Wd} (l : Le A B) {p : Addr} {o : HO} (h1 : A.H p = some o) (h2 : A.G p = none) (h3 : p ∉ A.e) (nt : ∀ vs, o ≠ .tup vs := by intro _ z; cases z) (nb : ∀ ps, o ≠ .tbl ps := by intro _ z; cases z) (nx : ∀ φ, o ≠ .ext φ := by intro _ z; cases z) : B.H p = some o ∧ B.G p = none ∧ p ∉ B.e := by
  have nf : ¬ Fr A.H p := fun z => by
    rcases z with z | ⟨ps, z⟩
    · rw [h1] at z
      cases z
    · rw [h1] at z
      exact nb ps (Option.some.inj z)
  refine ⟨l.kp p o h1 h3 nb, ?_, fun z => ?_⟩
  · cases q : B.G p with
    | none => rfl
    | some u =>
      rcases l.gn p (by rw [q]; simp) with z | z | z | ⟨vs, z⟩ | ⟨φ, z⟩
      · exact absurd h2 z
      · exact absurd z nf
      · exact absurd z h3
      · rw [h1] at z
        exact (nt vs (Option.some.inj z)).elim
      · rw [h1] at z
        exact (nx φ (Option.some.inj z)).elim
  · rcases l.fr p z with z | z
    · exact h3 z
    · exact nf z
theorem lc_weak {K : PySem.W.Frag} {wi : WI} {tg : Tg} {t : WT} {w : WE} {vs : List Nat} {σ : St} {H : Hp} {Q : VK} (hsub : ∀ i ∈ tgs tg, i ∈ vs) (h : tF K (wLc wi tg t w vs) σ H Q) : tLc (tI K wi) (gsS K tg) (tT K t) (tE K w) vs σ H Q := by
  obtain ⟨W, ρ, S, R, hH, hs, re, hw, k⟩ := h
  refine ⟨W, ρ, S, _, hH, hs, re, hw, fun W1 S1 J items side l1 hs1 jo sd ⟨Pv, p0, psd, pt, pd⟩ => ?_⟩
  intro D hD
  refine ⟨fun i m H => m = items.length - i ∧ i ≤ items.length ∧ ∃ (W2 : Wd) (S2 : Sto) (acc : List Tk.D) (accv : List V), W2.H = H ∧ Le W1 W2 ∧ Hs K W2 S2 ∧ W2.H D = some (.lst accv) ∧ W2.G D = none ∧ D ∉ W2.e ∧ RVs K W2.G W2.e accv acc ∧ Pv i acc S2,
    ⟨items.length, rfl, Nat.zero_le _, ⟨W1.G, W1.e, upd W1.H D (.lst [])⟩, S1, [], [], rfl, (hs1.laid hD).2, (hs1.laid hD).1, upd_same, hs1.gnone hD, hs1.notin hD, .nil, p0⟩, ?_⟩
  rintro i m H2 ⟨rfl, hi, W2, S2, acc, accv, rfl, l2, hs2, d1, d2, d3, ra, p2⟩
  have sd2 := psd i acc S2 hi p2
  by_cases hlt : i < items.length
  · refine .inr ⟨jo.go W2 S2 i l2 hs2 sd2 hlt, fun H' => i + 1 ≤ items.length ∧ ∃ (W3 : Wd) (S3 : Sto) (acc : List Tk.D) (accv : List V), W3.H = H' ∧ Le W1 W3 ∧ Hs K W3 S3 ∧ W3.H D = some (.lst accv) ∧ W3.G D = none ∧ D ∉ W3.e ∧ RVs K W3.G W3.e accv acc ∧ Pv (i + 1) acc S3,
      fun H' ⟨h1, h2⟩ => ⟨items.length - (i + 1), by omega, rfl, h1, h2⟩, fun x H' hy => ?_⟩
    obtain ⟨W3, d, rfl, l3, hs3, hd, rd⟩ := jo.yld W2 S2 i x H' l2 hs2 sd2 hlt hy
    have pq := pt i d acc S2 hd p2
    have l13 := l2.trans l3
    have re3 : RE K W3 (wipe σ vs) (wipeD ρ vs) := (re.mono (l1.trans l13)).wipe vs
    obtain ⟨d31, d32, d33⟩ := l3.ng d1 d2 d3
    -- behind the target
    have fin : ∀ (σ2 : St) (ρ2 : Nv), RE K W3 σ2 ρ2 → (t ρ2 S2 fun c S3 => if c = true then w ρ2 S3 fun y S4 => acc.length < sizeLine ∧ Pv (i + 1) (acc ++ [y]) S4 else Pv (i + 1) acc S3) →
        tT K t σ2 W3.H fun b H3 => if b = true then tE K w σ2 H3 fun y H4 => ∃ acc, H4 D = some (.lst acc) ∧ acc.length < sizeLine ∧ (fun H' => i + 1 ≤ items.length ∧ ∃ (W3 : Wd) (S3 : Sto) (acc : List Tk.D) (accv : List V), W3.H = H' ∧ Le W1 W3 ∧ Hs K W3 S3 ∧ W3.H D = some (.lst accv) ∧ W3.G D = none ∧ D ∉ W3.e ∧ RVs K W3.G W3.e accv acc ∧ Pv (i + 1) acc S3) (upd H4 D (.lst (acc ++ [y])))
          else (fun H' => i + 1 ≤ items.length ∧ ∃ (W3 : Wd) (S3 : Sto) (acc : List Tk.D) (accv : List V), W3.H = H' ∧ Le W1 W3 ∧ Hs K W3 S3 ∧ W3.H D = some (.lst accv) ∧ W3.G D = none ∧ D ∉ W3.e ∧ RVs K W3.G W3.e accv acc ∧ Pv (i + 1) acc S3) H3 := fun σ2 ρ2 re2 h2 => by
      refine ⟨W3, ρ2, S2, _, rfl, hs3, re2, h2, fun W4 S4 c l4 hs4 h4 => ?_⟩
      obtain ⟨d41, d42, d43⟩ := l4.ng d31 d32 d33
      cases c with
      | true =>
        simp only [if_true] at h4 ⊢
        refine ⟨W4, ρ2, S4, _, rfl, hs4, re2.mono l4, h4, fun W5 S5 y dy l5 hs5 r5 ⟨hz, h5⟩ => ?_⟩
        obtain ⟨d51, d52, d53⟩ := l5.ng d41 d42 d43
        have l15 := l13.trans (l4.trans l5)
        have ra5 := (l3.trans (l4.trans l5)).rvs ra
        exact ⟨accv, d51, by rw [ra.length]; exact hz, hlt, ⟨W5.G, W5.e, upd W5.H D (.lst (accv ++ [y]))⟩, S5, acc ++ [dy], accv ++ [y], rfl, l15.over hD, hs5.over d52 d53, upd_same, d52, d53, ra5.append (.cons r5 .nil), h5⟩
      | false =>
        simp only [Bool.false_eq_true, if_false] at h4 ⊢
        exact ⟨hlt, W4, S4, acc, accv, rfl, l13.trans l4, hs4, d41, d42, d43, (l3.trans l4).rvs ra, h4⟩
    cases tg with
    | n j =>
      refine ⟨?_, fin _ _ (re3.set rd) pq⟩
      refine (wipe_set (vs := vs) (σ := wipe σ vs) (fun m hm => ?_) (by rw [List.length_set])).trans ?_
      · rw [List.getElem?_set_ne fun z : j = m => hm (z ▸ hsub j (by simp [tgs]))]
      · exact wipe_set (fun m hm => by rw [wipe_get, if_neg hm]) (wipe_length σ vs)
    | t is =>
      obtain ⟨ds, e1, e2, pq⟩ := pq
      subst e1
      cases rd with
      | tup hg hv =>
        refine ⟨_, _, rfl, Same.sqT hs3.g (tq hg), hv.length.trans e2, ?_, fin _ _ (re3.setAll hv) pq⟩
        refine (wipe_set (vs := vs) (σ := wipe σ vs) (fun m hm => ?_) (by rw [setAll_len])).trans ?_
        · rw [setAll_ne]
          exact fun z => hm (hsub m z)
        · exact wipe_set (fun m hm => by rw [wipe_get, if_neg hm]) (wipe_length σ vs)
  · have e : i = items.length := by omega
    subst e
    have hD0 : Fr W.H D := by
      cases q : W.H D with
      | none => exact .inl q
      | some u =>
        by_cases hm : D ∈ W.e
        · refine absurd ?_ (hs1.notin hD)
          obtain ⟨t, e⟩ := l1.e
          rw [e]
          exact List.mem_append_left _ hm
        · by_cases hu : ∃ ps, u = .tbl ps
          · obtain ⟨ps, e⟩ := hu
            exact .inr ⟨ps, by rw [q, e]⟩
          · rw [l1.kp D u q hm fun ps e => hu ⟨ps, e⟩] at hD
            cases hD
    exact .inl ⟨jo.stop W2 S2 l2 hs2 sd2, k W2 S2 D (.lst accv) (.lst acc) ⟨l1.trans l2, hD0, d1, d2, d3, fun _ z => by cases z⟩ hs2 ra (pd acc S2 p2)⟩
end Tk

namespace Tk
open PySem PySem.Spec PyProof.Rows L2
section
variable {X : Cx} {elt tg iter : Expr} {ifs : List Expr} {scope : Scope} {vs : List Nat} {pos spos : Pos} {wi : WI} {t : WT} {w : WE} {tgt : Tg}
abbrev JTs (X : Cx) (ifs : List Expr) (t : WT) : Prop := PTs X ifs (tT X.K t)
theorem jts_nil : JTs X [] wYes := ⟨fun pins s σ H Q I ⟨W, ρ, S, R, hH, hs, re, hw, k⟩ => pts_nil.run pins s σ H Q I (hH ▸ k W S true (Le.refl W) hs hw)⟩
theorem jts_one {c : Expr} (h : JT X c t) : JTs X [c] t := pts_one h
/-- a block's contexts -/
abbrev Blk (X : Cx) (scope : Scope) (P : Cx → Prop) : Prop := ∀ (s : Shared) (H : Hp) (C : Addr) (cl : List (Str × Addr)) (fp : List Addr), P (X.blk s H scope (compEnvC scope cl C X.env) fp)
theorem f_lc (own : List (Str × Nat)) (hvs : own.map (·.2) = vs) (hc : X.calm = true) (hN : X.N.Nodup) (hi : JI X tg iter wi) (ok : BlkOk X.N X.env.scope scope own) (hg : Blk X scope fun Y => TgOk Y tg tgt) (hsub : ∀ i ∈ tgs tgt, i ∈ vs) (ht : Blk X scope fun Y => JTs Y ifs t) (he : Blk X scope fun Y => JE Y elt w)
    (hs : ∀ x, foldedSetIterable iter X.env x = pure x := by intro _; rfl) : JF X (.ListComp elt [⟨tg, iter, ifs, 0⟩] scope pos) (wLc wi tgt t w vs) :=
  by
  subst hvs
  exact pe_weak (pe_lc hc hN hi ok (fun s H C cl fp => (hg s H C cl fp).run) ht he hs) fun _ _ _ => lc_weak hsub
/-- y = [..] on one line -/
theorem s_lcF {i : Nat} {y : Str} {py : Pos} (own : List (Str × Nat)) (hvs : own.map (·.2) = vs) (hc : X.calm = true) (hN : X.N.Nodup) (hy : X.N[i]? = some y) (hyl : X.env.scope.names.lookup y = some .local) (hsw : swapsWith (.ListComp elt [⟨tg, iter, ifs, 0⟩] scope pos) (some (.Name y py)) spos.line X.env = pure true)
    (hi : JI X tg iter wi) (ok : BlkOk X.N X.env.scope scope own) (hg : Blk X scope fun Y => TgOk Y tg tgt) (hsub : ∀ i ∈ tgs tgt, i ∈ vs) (ht : Blk X scope fun Y => JTs Y ifs t) (he : Blk X scope fun Y => JE Y elt w) (hs : ∀ x, foldedSetIterable iter X.env x = pure x := by intro _; rfl) :
    JS X (.Assign [.Name y py] (.ListComp elt [⟨tg, iter, ifs, 0⟩] scope pos) spos) (sAsg (wFz (wLc wi tgt t w vs)) (gN i)) :=
  by
  subst hvs
  exact ps_weak (ps_setLc hc hN hy hyl hsw hi ok (fun s H C cl fp => (hg s H C cl fp).run) ht he hs) fun D σ H ⟨W, ρ, S, R, hH, hs, re, hw, k⟩ => lc_weak (K := X.K) (t := t) (w := w) hsub ⟨W, ρ, S, fun c S1 => ∃ d, fz c d ∧ R.nx (ρ.set i (some d)) S1, hH, hs, re, hw, fun W1 S1 p o c n hs1 hc ⟨d, hd, h1⟩ => by
    obtain ⟨l, hs2, sm⟩ := n.frz hs1 (hc.nt hd)
    exact k.nx ⟨upd W1.G p o, W1.e, W1.H⟩ S1 _ _ l hs2 ((re.mono l).set ((hc.mono sm fun _ _ q => q).frz hd upd_same)) h1⟩
theorem s_lcC {i : Nat} {y : Str} {py : Pos} (own : List (Str × Nat)) (hvs : own.map (·.2) = vs) (hc : X.calm = true) (hN : X.N.Nodup) (hy : X.N[i]? = some y) (hyl : X.env.scope.names.lookup y = some .local) (hsw : swapsWith (.ListComp elt [⟨tg, iter, ifs, 0⟩] scope pos) (some (.Name y py)) spos.line X.env = pure true)
    (hi : JI X tg iter wi) (ok : BlkOk X.N X.env.scope scope own) (hg : Blk X scope fun Y => TgOk Y tg tgt) (hsub : ∀ i ∈ tgs tgt, i ∈ vs) (ht : Blk X scope fun Y => JTs Y ifs t) (he : Blk X scope fun Y => JE Y elt w) (hs : ∀ x, foldedSetIterable iter X.env x = pure x := by intro _; rfl) :
    JS X (.Assign [.Name y py] (.ListComp elt [⟨tg, iter, ifs, 0⟩] scope pos) spos) (sAsg (wCl (wLc wi tgt t w vs)) (gN i)) :=
  by
  subst hvs
  exact ps_weak (ps_setLc hc hN hy hyl hsw hi ok (fun s H C cl fp => (hg s H C cl fp).run) ht he hs) fun D σ H ⟨W, ρ, S, R, hH, hs, re, hw, k⟩ => lc_weak (K := X.K) (t := t) (w := w) hsub ⟨W, ρ, S, fun c S1 => R.nx (ρ.set i (some (.ref S1.length))) (S1 ++ [c]), hH, hs, re, hw, fun W1 S1 p o c n hs1 hc h1 => by
    obtain ⟨l, hs2, at'⟩ := n.cell hs1 hc
    exact k.nx ⟨W1.G, W1.e ++ [p], W1.H⟩ (S1 ++ [c]) _ _ l hs2 ((re.mono l).set (.ref at')) h1⟩
end

/-! ### how a def ends -/
section
variable (n : Nat)
mutual
inductive OkD : D → Prop
  | non : OkD .non
  | bl (b : Bool) : OkD (.bl b)
  | int (i : Int) : OkD (.int i)
  | str (x : Str) : OkD (.str x)
  | ref {l : Nat} : l < n → OkD (.ref l)
  | tup {ds : List D} : OkDs ds → OkD (.tup ds)
  | lst {ds : List D} : OkDs ds → OkD (.lst ds)
  | rd {ds : List D} : OkDs ds → OkD (.rd ds)
  | dk {kvs : List (Key × D)} : OkDs (kvs.map (·.2)) → OkD (.dk kvs)
  | dt {kvs : List (List Key × D)} : OkDs (kvs.map (·.2)) → OkD (.dt kvs)
  | ins {C : Addr} {ks : List Str} {ds : List D} : OkDs ds → OkD (.ins C ks ds)
inductive OkDs : List D → Prop
  | nil : OkDs []
  | cons {d : D} {ds : List D} : OkD d → OkDs ds → OkDs (d :: ds)
end
def OkC : Cell → Prop
  | .dead => True
  | .tab _ _ => True
  | .lst ds => OkDs n ds
  | .dk kvs => OkDs n (kvs.map (·.2))
  | .dt kvs => OkDs n (kvs.map (·.2))
  | .ins _ _ ds => OkDs n ds
  | .lk kvs _ _ => OkDs n (kvs.map (·.2))
  | .lt kvs _ _ => OkDs n (kvs.map (·.2))
end
section
variable {K : PySem.W.Frag} {G : Hp} {e : List Addr} {n : Nat}
theorem at_take {e : List Addr} {n l : Nat} {a : Addr} (h : e[l]? = some a) (hl : l < n) : (e.take n)[l]? = some a := by
  rw [List.getElem?_take_of_lt hl]
  exact h
mutual
theorem RV.cut : ∀ {v : V} {d : D}, RV K G e v d → OkD n d → RV K G (e.take n) v d
  | _, _, .non, _ => .non
  | _, _, .bl b, _ => .bl b
  | _, _, .int i, _ => .int i
  | _, _, .str x, _ => .str x
  | _, _, .ref h, .ref hl => .ref (at_take h hl)
  | _, _, .tup h r, .tup o => .tup h (RVs.cutN r o)
  | _, _, .lst h r, .lst o => .lst h (RVs.cutN r o)
  | _, _, .rd h r, .rd o => .rd h (RVs.cutN r o)
  | _, _, .dk h k r, .dk o => .dk h k (RVs.cutN r o)
  | _, _, .dt h k r, .dt o => .dt h k (RVs.cutN r o)
  | _, _, .ins h l r, .ins o => .ins h l (RVs.cutN r o)
theorem RVs.cutN : ∀ {vs : List V} {ds : List D}, RVs K G e vs ds → OkDs n ds → RVs K G (e.take n) vs ds
  | _, _, .nil, _ => .nil
  | _, _, .cons h r, .cons o p => .cons (RV.cut h o) (RVs.cutN r p)
end
mutual
theorem RV.okd : ∀ {v : V} {d : D}, RV K G e v d → OkD e.length d
  | _, _, .non => .non
  | _, _, .bl b => .bl b
  | _, _, .int i => .int i
  | _, _, .str x => .str x
  | _, _, .ref h => .ref (List.getElem?_eq_some_iff.mp h).1
  | _, _, .tup h r => .tup (RVs.okds r)
  | _, _, .lst h r => .lst (RVs.okds r)
  | _, _, .rd h r => .rd (RVs.okds r)
  | _, _, .dk h k r => .dk (RVs.okds r)
  | _, _, .dt h k r => .dt (RVs.okds r)
  | _, _, .ins h l r => .ins (RVs.okds r)
theorem RVs.okds : ∀ {vs : List V} {ds : List D}, RVs K G e vs ds → OkDs e.length ds
  | _, _, .nil => .nil
  | _, _, .cons h r => .cons (RV.okd h) (RVs.okds r)
end
theorem OC.okc {o : HO} {c : Cell} (h : OC K G e o c) : OkC e.length c := by
  cases o <;> cases c <;> first
    | exact h.elim
    | exact RVs.okds h
    | exact RVs.okds h.2
    | exact trivial
    | (obtain ⟨_, _, _, _, _, h4⟩ := h
       exact RVs.okds h4)
    | (obtain ⟨_, vs, _, _, h4⟩ := h
       exact RVs.okds h4)
theorem OC.cut {o : HO} {c : Cell} (h : OC K G e o c) (k : OkC n c) : OC K G (e.take n) o c := by
  cases o <;> cases c <;> first
    | exact h.elim
    | exact RVs.cutN h k
    | exact ⟨h.1, RVs.cutN h.2 k⟩
    | exact h
    | (obtain ⟨e1, e2, kws, h1, h2, h3⟩ := h
       exact ⟨e1, e2, kws, h1, h2, RVs.cutN h3 k⟩)
    | (obtain ⟨h1, vs, h2, h3, h4⟩ := h
       exact ⟨h1, vs, h2, h3, RVs.cutN h4 k⟩)
end
/-- the callee's own cells are gone -/
def Back (S S' : Sto) : Prop := ∀ (i : Nat) (c : Cell), i < S.length → S'[i]? = some c → S[i]? = some c ∨ OkC S.length c
theorem Hs.back {K : PySem.W.Frag} {W W' : Wd} {S S' : Sto} (h : Hs K W S) (l : Le W W') (h' : Hs K W' S') (b : Back S S') : Hs K ⟨W'.G, W'.e.take S.length, W'.H⟩ (S'.take S.length) ∧ Le W ⟨W'.G, W'.e.take S.length, W'.H⟩ ∧ W'.e.take S.length = W.e := by
  have e1 : W'.e.take S.length = W.e := by
    obtain ⟨t, e⟩ := l.e
    rw [e, ← h.len, List.take_left']
    rfl
  refine ⟨⟨h'.g, ?_, fun a q => h'.th a (List.mem_of_mem_take q), h'.nd.sublist (List.take_sublist _ _), fun i a c h1 h2 => ?_, h'.nt, fun i P q z => by
      have hi : i < S.length := by
        have := (List.getElem?_eq_some_iff.mp z).1
        rw [List.length_take] at this
        omega
      rw [List.getElem?_take_of_lt hi] at z
      obtain ⟨z1, z2⟩ := h'.ta i P q z
      exact ⟨z1, by rw [List.getElem?_take_of_lt (by omega)]; exact z2⟩⟩, ⟨l.g, ⟨[], by show W'.e.take S.length = _; rw [e1]; simp⟩, fun a q => l.fr a (List.mem_of_mem_take q), l.kp, l.gn⟩, e1⟩
  · show (W'.e.take S.length).length = _
    rw [List.length_take, List.length_take, h'.len]
  · have h1 : (W'.e.take S.length)[i]? = some a := h1
    have hi : i < S.length := by
      have := (List.getElem?_eq_some_iff.mp h2).1
      rw [List.length_take] at this
      omega
    have h1' := h1
    rw [List.getElem?_take_of_lt hi] at h1 h2
    have ok : OkC S.length c := by
      rcases b i c hi h2 with z | z
      · rw [e1] at h1'
        rcases h.cel i a c h1' z with q | ⟨_, o, _, q⟩
        · rw [q.1]
          exact trivial
        · have := q.okc
          rw [h.len] at this
          exact this
      · exact z
    rcases h'.cel i a c h1 h2 with z | ⟨z1, o, z2, z3⟩
    · exact .inl z
    · exact .inr ⟨z1, o, z2, z3.cut ok⟩
/-- how a def ends: S the store at its entry -/
abbrev Fin := Sto → QE → QE
structure FinOk (fl : Fin) : Prop where
  ok : ∀ (K : PySem.W.Frag) (W : Wd) (S : Sto) (R : QE) (Q : VK), Hs K W S → Kt K W R Q → Kt K W (fl S R) Q
def flKeep : Fin := fun _ R => R
def flCut : Fin := fun S R d S' => OkD S.length d ∧ Back S S' ∧ R d (S'.take S.length)
def flOwn : Fin := fun S R d S' => ∃ l c, d = .ref l ∧ S.length ≤ l ∧ S'[l]? = some c ∧ (c ≠ .dead ∧ ∀ P q, c ≠ .tab P q) ∧ OkC S.length c ∧ Back S S' ∧ R (.ref S.length) (S'.take S.length ++ [c])
theorem fin_keep : FinOk flKeep := ⟨fun _ _ _ _ _ _ k => k⟩
theorem fin_cut : FinOk flCut := ⟨fun K W S R Q hs k W' S' v d l hs' r ⟨o, b, h⟩ => by
  obtain ⟨h1, h2, h3⟩ := hs.back l hs' b
  exact k ⟨W'.G, W'.e.take S.length, W'.H⟩ (S'.take S.length) v d h2 h1 (r.cut o) h⟩
theorem fin_own : FinOk flOwn := ⟨fun K W S R Q hs k W' S' v d l hs' r ⟨i, c, e1, hi, hc, nd, ok, b, h⟩ => by
  subst e1
  cases r with
  | ref he =>
    rename_i a
    obtain ⟨h1, h2, h3⟩ := hs.back l hs' b
    obtain ⟨ng, o, hh, ho⟩ := hs'.at he hc nd.1
    have hn : a ∉ W'.e.take S.length := fun z => by
      obtain ⟨j, hj⟩ := List.getElem?_of_mem z
      have hjl : j < S.length := by
        have := (List.getElem?_eq_some_iff.mp hj).1
        rw [List.length_take] at this
        omega
      rw [List.getElem?_take_of_lt hjl] at hj
      obtain ⟨p, e1⟩ := List.getElem?_eq_some_iff.mp hj
      obtain ⟨q, e2⟩ := List.getElem?_eq_some_iff.mp he
      have := (List.getElem_inj hs'.nd).mp (e1.trans e2.symm)
      omega
    have h4 := h1.cell (c := c) hh ng hn (ho.cut ok) (ho.nb nd.2)
    have ln : (W'.e.take S.length).length = S.length := by
      rw [h3, hs.len]
    refine k ⟨W'.G, W'.e.take S.length ++ [a], W'.H⟩ _ (.ref a) (.ref S.length) ⟨h2.g, ?_, fun b q => ?_, h2.kp, h2.gn⟩ h4 (.ref ?_) h
    · obtain ⟨t, e⟩ := h2.e
      exact ⟨t ++ [a], by show W'.e.take S.length ++ [a] = _; rw [show W'.e.take S.length = W.e ++ t from e, List.append_assoc]⟩
    · rcases List.mem_append.mp q with q | q
      · exact h2.fr b q
      · rw [List.mem_singleton.mp q]
        exact l.fr a (List.mem_of_getElem? he) |>.elim (fun z => absurd (h3 ▸ z) hn) .inr
    · show (W'.e.take S.length ++ [a])[S.length]? = some a
      rw [List.getElem?_append_right (by rw [ln]; exact Nat.le_refl _), ln]
      simp⟩

/-! ### a def keeps its promise -/
def start0 (n : Nat) (ds : List D) : Nv := ds.map some ++ List.replicate (n - ds.length) none
theorem RE.start {K : PySem.W.Frag} {W : Wd} {N : List Str} {vs : List V} {ds : List D} (h : RVs K W.G W.e vs ds) : RE K W (L2.start N vs) (start0 N.length ds) := by
  have hl := h.length
  refine ⟨?_, fun i d q => ?_⟩
  · unfold L2.start start0
    simp [hl]
  · unfold start0 at q
    by_cases hi : i < ds.length
    · rw [List.getElem?_append_left (by simpa using hi), List.getElem?_map] at q
      cases e : ds[i]? with
      | none => rw [e] at q; cases q
      | some u =>
        rw [e] at q
        cases q
        obtain ⟨v, h1, h2⟩ := h.get e
        refine ⟨v, ?_, h2⟩
        unfold L2.start
        rw [List.getElem?_append_left (by simp only [List.length_map]; omega), List.getElem?_map, h1]
        rfl
    · rw [List.getElem?_append_right (by simpa using Nat.le_of_not_lt hi), List.getElem?_replicate] at q
      split at q <;> cases q
/-- the ends of a def's body -/
def esDef (fl : Fin) (S : Sto) (Q : QE) : Es := ⟨fun _ S' => fl S Q .non S', fl S Q, fun _ _ => False, fun _ _ => False⟩
section
variable {P : Program} {w : World} {K : PySem.W.Frag} {mg : Str → Option Value} {base : Heap}
theorem fn_ok {x qual : Str} {st : Stmt} {f : Addr} {fd : FuncData} {N ps : List Str} {k : Nat} (F : Fun K x qual st f fd) (Sc : FnScope N ps (defScope st)) {fl : Fin} (hf : FinOk fl) {W : WS} {Fp : Pr} {n : Nat} (hn : ps.length = n)
    (hder : ∀ X : Cx, X.prog = P → X.w = w → X.K = K → X.mg = mg → X.base = base → X.N = N → X.env.scope = defScope st → Room k X.A → X.calm = true → X.fn = (fun _ => true) → X.xe = (fun _ _ => False) → JB X (defBody st) W)
    (hw : ∀ ds S Q, ds.length = n → Fp ds S Q → W (esDef fl S Q) (start0 N.length ds) S) : FnOk P w K mg base CX0 (k + 1) f fd ps (spOf K n Fp) := by
  subst hn
  refine F.ok Sc (fun vs H Q E ⟨W, S, ds, R, hH, hs, rv, hl, h, kt⟩ => rv.length.trans hl) (fun cdv A outer s H vs Q E hr ⟨W0, S, ds, R, hH, hs, rv, hl, h, kt⟩ => ?_)
  refine ⟨_, hder (cxOf CX0 P w K mg base N qual (defScope st) f cdv A outer s H E).nox rfl rfl rfl rfl rfl rfl rfl hr rfl rfl rfl, W0, start0 N.length ds, S, _, hH, hs, .start rv, hw ds S R hl h, ?_⟩
  have kf := hf.ok K W0 S R Q hs kt
  exact ⟨fun W' S' σ' ρ' l hs' re' h => kf W' S' .non .non l hs' .non h, kf, fun _ _ _ _ _ _ _ h => h.elim, fun _ _ _ _ _ _ _ h => h.elim⟩
end
end Tk

namespace Tk
open PySem PySem.Spec PyProof.Rows L2

theorem j_gintE {X : Cx} {x : Str} {i : Int} {pos : Pos} (hg : Gl X x) (h : ∃ u, X.mg x = some u ∧ RelV (.int i) u) (hd : (x == ("__debug__" : Str)) = false := by decide) : JE X (.Name x pos) (wC (.int i)) := by
  obtain ⟨u, h1, h2⟩ := h
  exact j_gint hg h1 h2 hd
theorem j_gstrE {X : Cx} {x i : Str} {pos : Pos} (hg : Gl X x) (h : ∃ u, X.mg x = some u ∧ RelV (.str i) u) (hd : (x == ("__debug__" : Str)) = false := by decide) : JE X (.Name x pos) (wC (.str i)) := by
  obtain ⟨u, h1, h2⟩ := h
  exact j_gstr hg h1 h2 hd

/-! ### dicts whose keys are ints and texts -/
def kD : Key → D
  | .inl i => .int i
  | .inr x => .str x
def dkOf (S : Sto) : D → Option (List (Key × D))
  | .dk kvs => some kvs
  | .ref l => match S[l]? with
    | some (.dk kvs) => some kvs
    | _ => none
  | _ => none
section
variable {K : PySem.W.Frag} {W : Wd} {S : Sto} {G : Hp} {e : List Addr}
theorem RV.key {x : V} {k : Key} (r : RV K G e x (kD k)) : x = kV k := by
  cases k <;> (cases r; rfl)
theorem Hs.cellK (h : Hs K W S) {l : Nat} {a : Addr} {kvs : List (Key × D)} (he : W.e[l]? = some a) (hc : S[l]? = some (.dk kvs)) : ∃ kws, W.H a = some (.dK kws) ∧ kws.map (·.1) = kvs.map (·.1) ∧ RVs K W.G W.e (kws.map (·.2)) (kvs.map (·.2)) := by
  obtain ⟨_, o, h1, h2⟩ := h.at he hc (by simp)
  cases o <;> first
    | exact h2.elim
    | exact ⟨_, h1, h2.1, h2.2⟩
theorem Hs.dk (h : Hs K W S) {x : V} {d : D} {kvs : List (Key × D)} (r : RV K W.G W.e x d) (hd : dkOf S d = some kvs) : ∃ a kws, x = .ref a ∧ W.H a = some (.dK kws) ∧ kws.map (·.1) = kvs.map (·.1) ∧ RVs K W.G W.e (kws.map (·.2)) (kvs.map (·.2)) := by
  cases r with
  | dk hg hk hv =>
    cases hd
    exact ⟨_, _, rfl, h.g _ _ hg, hk, hv⟩
  | ref he =>
    simp only [dkOf] at hd
    split at hd
    · rename_i hc
      cases hd
      obtain ⟨kws, h1, h2, h3⟩ := h.cellK he hc
      exact ⟨_, kws, rfl, h1, h2, h3⟩
    · cases hd
  | _ => cases hd
/-- look-up and store, over any values -/
def getK {κ α : Type} [DecidableEq κ] (kvs : List (κ × α)) (k : κ) : Option α := (kvs.find? fun kv => decide (kv.1 = k)).map (·.2)
def putK' {κ α : Type} [DecidableEq κ] (k : κ) (v : α) : List (κ × α) → List (κ × α)
  | [] => [(k, v)]
  | (j, u) :: r => if j = k then (j, v) :: (r.map fun kv => if kv.1 = k then (kv.1, v) else kv) else (j, u) :: putK' k v r
theorem putK_cons_ne {κ : Type} [DecidableEq κ] {j k : κ} {u v : V} {r : List (κ × V)} (h : j ≠ k) : putK ((j, u) :: r) k v = (j, u) :: putK r k v := by
  unfold putK
  simp only [List.any_cons, h, decide_false, Bool.false_or]
  by_cases c : (r.any fun kv => decide (kv.1 = k)) = true
  · simp [c, h]
  · simp [c, h]
theorem putK_eq {κ : Type} [DecidableEq κ] (k : κ) (v : V) : ∀ kvs : List (κ × V), putK kvs k v = putK' k v kvs
  | [] => by simp [putK, putK']
  | (j, u) :: r => by
    by_cases h : j = k
    · subst h
      simp [putK, putK']
    · rw [putK_cons_ne h, putK_eq k v r]
      simp [putK', h]
theorem RVs.putK {κ : Type} [DecidableEq κ] {k : κ} {v : V} {d : D} (rv : RV K G e v d) : ∀ {kws : List (κ × V)} {kvs : List (κ × D)}, kws.map (·.1) = kvs.map (·.1) → RVs K G e (kws.map (·.2)) (kvs.map (·.2)) →
    (putK' k v kws).map (·.1) = (putK' k d kvs).map (·.1) ∧ RVs K G e ((putK' k v kws).map (·.2)) ((putK' k d kvs).map (·.2))
  | [], [], _, _ => ⟨rfl, .cons rv .nil⟩
  | [], _ :: _, h, _ => by simp at h
  | _ :: _, [], h, _ => by simp at h
  | (j, u) :: r, (j', u') :: r', h, q => by
    simp only [List.map_cons, List.cons.injEq] at h
    obtain ⟨e1, h⟩ := h
    have e1 : j = j' := e1
    subst e1
    simp only [List.map_cons] at q
    cases q with
    | cons q1 q2 =>
      by_cases hk : j = k
      · subst hk
        have key : ∀ (r : List (κ × V)) (r' : List (κ × D)), r.map (·.1) = r'.map (·.1) → RVs K G e (r.map (·.2)) (r'.map (·.2)) →
            (r.map fun kv => if kv.1 = j then (kv.1, v) else kv).map (·.1) = (r'.map fun kv => if kv.1 = j then (kv.1, d) else kv).map (·.1) ∧
            RVs K G e ((r.map fun kv => if kv.1 = j then (kv.1, v) else kv).map (·.2)) ((r'.map fun kv => if kv.1 = j then (kv.1, d) else kv).map (·.2)) := by
          intro r
          induction r with
          | nil =>
            intro r' h1 h2
            cases r' with
            | nil => exact ⟨rfl, .nil⟩
            | cons => simp at h1
          | cons p r ih =>
            intro r' h1 h2
            cases r' with
            | nil => simp at h1
            | cons p' r' =>
              simp only [List.map_cons, List.cons.injEq] at h1 h2
              cases h2 with
              | cons h3 h4 =>
                obtain ⟨i1, i2⟩ := ih r' h1.2 h4
                simp only [List.map_cons, List.cons.injEq]
                by_cases c : p.1 = j
                · have c' : p'.1 = j := h1.1 ▸ c
                  simp only [c, c', if_true]
                  exact ⟨⟨trivial, i1⟩, .cons rv i2⟩
                · have c' : ¬ p'.1 = j := fun z => c (h1.1.trans z)
                  simp only [c, c', if_false]
                  exact ⟨⟨h1.1, i1⟩, .cons h3 i2⟩
        obtain ⟨i1, i2⟩ := key r r' h q2
        simp only [putK', if_true, List.map_cons]
        exact ⟨by rw [i1], .cons rv i2⟩
      · obtain ⟨i1, i2⟩ := RVs.putK (k := k) rv h q2
        simp only [putK', hk, if_false, List.map_cons]
        exact ⟨by rw [i1], .cons q1 i2⟩
theorem RVs.getK {κ : Type} [DecidableEq κ] {k : κ} : ∀ {kws : List (κ × V)} {kvs : List (κ × D)}, kws.map (·.1) = kvs.map (·.1) → RVs K G e (kws.map (·.2)) (kvs.map (·.2)) →
    (valV kws k = none ∧ Tk.getK kvs k = none) ∨ ∃ v d, valV kws k = some v ∧ Tk.getK kvs k = some d ∧ RV K G e v d
  | [], [], _, _ => .inl ⟨rfl, rfl⟩
  | [], _ :: _, h, _ => by simp at h
  | _ :: _, [], h, _ => by simp at h
  | (j, u) :: r, (j', u') :: r', h, q => by
    simp only [List.map_cons, List.cons.injEq] at h
    obtain ⟨e1, h⟩ := h
    have e1 : j = j' := e1
    subst e1
    simp only [List.map_cons] at q
    cases q with
    | cons q1 q2 =>
      by_cases hk : j = k
      · subst hk
        exact .inr ⟨u, u', valV_pos rfl, by simp [Tk.getK, List.find?_cons], q1⟩
      · rw [valV_neg hk, show Tk.getK ((j, u') :: r') k = Tk.getK r' k by simp [Tk.getK, List.find?_cons, hk]]
        exact RVs.getK h q2
theorem putK'_len {κ α : Type} [DecidableEq κ] (k : κ) (v : α) : ∀ kvs : List (κ × α), (putK' k v kvs).length ≤ kvs.length + 1
  | [] => Nat.le_refl _
  | (j, u) :: r => by
    unfold putK'
    split
    · simp
    · have := putK'_len k v r
      simp only [List.length_cons]
      omega
end
/-- {} for int and text keys; {k: v} -/
def wDNew : WF := fun _ S Q => Q (.dk []) S
def wDisp1 (wk wv : WE) : WF := fun ρ S Q => wk ρ S fun x S1 => wv ρ S1 fun y S2 => ∃ k, x = kD k ∧ Q (.dk [(k, y)]) S2
/-- d[k] = v -/
def sDPut (wd wk wv : WE) : WS := fun E ρ S => wv ρ S fun v S1 => wd ρ S1 fun x S2 => wk ρ S2 fun y S3 => ∃ l kvs k, x = .ref l ∧ y = kD k ∧ S3[l]? = some (.dk kvs) ∧ kvs.length < sizeLine ∧ E.nx ρ (S3.set l (.dk (putK' k v kvs)))
def wDGet (wd wk : WE) : WE := fun ρ S Q => wd ρ S fun x S1 => wk ρ S1 fun y S2 => ∃ kvs k d, dkOf S2 x = some kvs ∧ y = kD k ∧ getK kvs k = some d ∧ Q d S2
section
variable {X : Cx} {pos pos' : Pos}
theorem KtF.dk {K : PySem.W.Frag} {W : Wd} {S : Sto} {R : Cell → Sto → Prop} {Q : VK} (k : KtF K W R Q) (hs : Hs K W S) {kws : List (Key × V)} {kvs : List (Key × D)} (h1 : kws.map (·.1) = kvs.map (·.1)) (rv : RVs K W.G W.e (kws.map (·.2)) (kvs.map (·.2))) (h : R (.dk kvs) S) (p : Addr) (hp : W.H p = none) : Q (.ref p) (upd W.H p (.dK kws)) := by
  obtain ⟨n, hs2⟩ := New.laid (o := .dK kws) hs hp
  exact k ⟨W.G, W.e, upd W.H p (.dK kws)⟩ S p _ (.dk kvs) n hs2 ⟨h1, rv⟩ h
theorem f_dnewK : JF X (.Dict [] [] pos) wDNew := pe_weak pe_dnewK fun σ H Q ⟨W, ρ, S, R, hH, hs, re, hw, k⟩ => by
  subst hH
  exact fun p hp => k.dk hs (kws := []) (kvs := []) rfl .nil hw p hp
theorem f_disp1 {ek ev : Expr} {wk wv : WE} (hk : JE X ek wk) (hv : JE X ev wv) : JF X (.Dict [some ek] [ev] pos) (wDisp1 wk wv) :=
  pe_weak (pe_disp (pps_cons hk hv pps_nil) (by rfl) (by rfl) (fun z => by cases z) (by show 1 ≤ 15; decide)) fun σ H Q ⟨W, ρ, S, R, hH, hs, re, hw, k⟩ => by
    subst hH
    intro p hp
    obtain ⟨n0, hs0⟩ := New.laid (o := HO.dK []) hs hp
    refine ⟨⟨W.G, W.e, upd W.H p (.dK [])⟩, ρ, S, _, rfl, hs0, re.mono n0.le, hw, fun W1 S1 x dx l1 hs1 r1 h1 => ⟨W1, ρ, S1, _, rfl, hs1, (re.mono n0.le).mono l1, h1, fun W2 S2 y dy l2 hs2 r2 ⟨k', e1, h2⟩ => ?_⟩⟩
    subst e1
    have ex := r1.key
    subst ex
    obtain ⟨d1, d2, d3⟩ := (l1.trans l2).ng n0.at' n0.ng n0.ne
    refine ⟨d1, [(k', y)], rfl, by simp, ?_⟩
    have l02 := n0.le.trans (l1.trans l2)
    refine k ⟨W2.G, W2.e, upd W2.H p (.dK [(k', y)])⟩ S2 p _ (.dk [(k', dy)]) ⟨l02.over hp, .inl hp, upd_same, d2, d3, fun _ z => by cases z⟩ (hs2.over d2 d3) ⟨rfl, .cons r2 .nil⟩ h2
theorem s_dput {ed ek ev : Expr} {wd wk wv : WE} (hu : X.A.units + 1 < cLine) (hd : JE X ed wd) (hk : JE X ek wk) (hv : JE X ev wv) (hs : swapsWith ev (some (.Subscript ed ek pos')) pos.line X.env = pure false := by rfl) : JS X (.Assign [.Subscript ed ek pos'] ev pos) (sDPut wd wk wv) :=
  ps_weak (ps_dput hu hd hk hv hs) fun D σ H ⟨W, ρ, S, R, hH, hs, re, hw, k⟩ => ⟨W, ρ, S, _, hH, hs, re, hw, fun W1 S1 v dv l1 hs1 r1 h1 => ⟨W1, ρ, S1, _, rfl, hs1, re.mono l1, h1, fun W2 S2 x dx l2 hs2 r2 h2 => ⟨W2, ρ, S2, _, rfl, hs2, (re.mono l1).mono l2, h2, fun W3 S3 y dy l3 hs3 r3 ⟨l, kvs, k', e1, e2, hc, hz, h3⟩ => by
    subst e1 e2
    have ex := r3.key
    subst ex
    have r2 := l3.rv r2
    cases r2 with
    | ref he =>
      rename_i a
      obtain ⟨kws, hh, hk1, hv1⟩ := hs3.cellK he hc
      have l23 := l2.trans l3
      obtain ⟨i1, i2⟩ := RVs.putK (k := k') (l23.rv r1) hk1 hv1
      obtain ⟨hs4, l4⟩ := hs3.set he hc (by simp) (o' := .dK (putK' k' v kws)) (c' := .dk (putK' k' dv kvs)) ⟨i1, i2⟩
      have ln : kws.length = kvs.length := by
        have := congrArg List.length hk1
        simpa using this
      have ll := l1.trans (l23.trans l4)
      exact ⟨a, _, rfl, DPut.k (k := k') hh (by rw [ln]; exact hz), by rw [putK_eq]; exact k.nx ⟨W3.G, W3.e, upd W3.H a (.dK (putK' k' v kws))⟩ _ σ ρ ll hs4 (re.mono ll) h3⟩⟩⟩⟩
theorem j_dget {ed ek : Expr} {wd wk : WE} (hu : X.A.units + 1 < cLine) (hd : JE X ed wd) (hk : JE X ek wk) (hs : NoSl ek := by exact fun _ _ => rfl) : JE X (.Subscript ed ek pos) (wDGet wd wk) :=
  pe_weak (pe_dget hu hd hk hs) fun σ H Q ⟨W, ρ, S, R, hH, hs, re, hw, k⟩ => ⟨W, ρ, S, _, hH, hs, re, hw, fun W1 S1 x dx l1 hs1 r1 h1 => ⟨W1, ρ, S1, _, rfl, hs1, re.mono l1, h1, fun W2 S2 y dy l2 hs2 r2 ⟨kvs, k', d, e1, e2, e3, h2⟩ => by
    subst e2
    have ex := r2.key
    subst ex
    obtain ⟨a, kws, rfl, hh, hk1, hv1⟩ := hs2.dk (l2.rv r1) e1
    rcases RVs.getK (k := k') hk1 hv1 with ⟨_, z⟩ | ⟨v, d', z1, z2, z3⟩
    · rw [z] at e3
      cases e3
    · rw [z2] at e3
      cases e3
      exact ⟨a, v, rfl, z1 ▸ DGet.k (k := k') hh, (k.le (l1.trans l2)).now hs2 z3 h2⟩⟩⟩
/-- k in d -/
def zDIn : Z2 := fun x y S Q => ∃ kvs k, dkOf S y = some kvs ∧ x = kD k ∧ Q (.bl (getK kvs k).isSome) S
def zDNotIn : Z2 := fun x y S Q => ∃ kvs k, dkOf S y = some kvs ∧ x = kD k ∧ Q (.bl (!(getK kvs k).isSome)) S
theorem o_din (hu : X.A.units + 1 < cLine) : OpR X (compareOp .In) (r2 X.K zDIn) := by
  intro pins s σ H x y v u Q I rx ry ⟨W, S, dx, dy, R, hH, hs, q1, q2, ⟨kvs, k', e1, e2, hq⟩, k⟩
  subst hH e2
  have ex := q1.key
  subst ex
  obtain ⟨a, kws, rfl, hh, hk1, hv1⟩ := hs.dk q2 e1
  cases ry
  refine d_in hu I (DGet.k (k := k') hh) rx fun s' I' => ⟨.bl _, W.H, I', rfl, ?_⟩
  rcases RVs.getK (k := k') hk1 hv1 with ⟨z1, z2⟩ | ⟨v, d', z1, z2, z3⟩
  · rw [z2] at hq
    rw [z1]
    exact k.now hs (.bl _) hq
  · rw [z2] at hq
    rw [z1]
    exact k.now hs (.bl _) hq
theorem o_dnotIn (hu : X.A.units + 1 < cLine) : OpR X (compareOp .NotIn) (r2 X.K zDNotIn) := by
  intro pins s σ H x y v u Q I rx ry ⟨W, S, dx, dy, R, hH, hs, q1, q2, ⟨kvs, k', e1, e2, hq⟩, k⟩
  subst hH e2
  have ex := q1.key
  subst ex
  obtain ⟨a, kws, rfl, hh, hk1, hv1⟩ := hs.dk q2 e1
  cases ry
  refine d_notIn hu I (DGet.k (k := k') hh) rx fun s' I' => ⟨.bl _, W.H, I', rfl, ?_⟩
  rcases RVs.getK (k := k') hk1 hv1 with ⟨z1, z2⟩ | ⟨v, d', z1, z2, z3⟩
  · rw [z2] at hq
    rw [z1]
    exact k.now hs (.bl _) hq
  · rw [z2] at hq
    rw [z1]
    exact k.now hs (.bl _) hq
/-- sorted(d), int keys -/
def intKeys : List (Key × D) → Option (List Int)
  | [] => some []
  | (.inl i, _) :: r => match intKeys r with
    | some ns => some (i :: ns)
    | none => none
  | (.inr _, _) :: _ => none
theorem intKeys_eq : ∀ {kvs : List (Key × D)} {ns : List Int}, intKeys kvs = some ns → kvs.map (·.1) = ns.map Sum.inl
  | [], ns, h => by
    cases h
    rfl
  | (.inl i, d) :: r, ns, h => by
    simp only [intKeys] at h
    split at h
    · rename_i ms hm
      cases h
      simp [intKeys_eq hm]
    · cases h
  | (.inr i, d) :: r, ns, h => by simp [intKeys] at h
def zSortedD : ZFs := fun xs S Q => ∃ x kvs ks, xs = [x] ∧ dkOf S x = some kvs ∧ intKeys kvs = some ks ∧ ks.length < 64 ∧ ∀ ys : List Int, ys.Perm ks → ys.Pairwise (· ≤ ·) → Q (.lst (ys.map D.int)) S
theorem c_sortedD (hc : X.calm = true) : CallR X (.builtin "sorted") (rsF X.K zSortedD) := by
  intro pins s σ H xs us Q I r ⟨W, S, ds, R, hH, hs, q1, ⟨x, kvs, ks, e1, h1, h2, h3, hq⟩, k⟩
  subst hH e1
  obtain ⟨v, rfl, r1⟩ := q1.one
  obtain ⟨a, kws, rfl, hh, hk1, hv1⟩ := hs.dk r1 h1
  exact call_sortedDI hc pins s σ W.H _ us Q I r ⟨a, kws, ks, rfl, .inl hh, hk1.trans (intKeys_eq h2), h3, fun ys p pm pw hp => k.lst hs (.of_ints ys) (hq ys pm pw) p hp⟩
/-- dict(xs), xs a list of pairs -/
def pairsD : List D → Option (List (Key × D))
  | [] => some []
  | .tup [.int i, d] :: r => match pairsD r with
    | some ps => some ((.inl i, d) :: ps)
    | none => none
  | .tup [.str i, d] :: r => match pairsD r with
    | some ps => some ((.inr i, d) :: ps)
    | none => none
  | _ :: _ => none
theorem pairsD_rel {K : PySem.W.Frag} {W : Wd} {S : Sto} (hs : Hs K W S) : ∀ {ds : List D} {ps : List (Key × D)} {vs : List V}, RVs K W.G W.e vs ds → pairsD ds = some ps →
    ∃ (as : List Addr) (kws : List (Key × V)), vs = as.map V.ref ∧ Paired (fun p kv => SqT K W.H p [kV kv.1, kv.2]) as kws ∧ kws.map (·.1) = ps.map (·.1) ∧ RVs K W.G W.e (kws.map (·.2)) (ps.map (·.2))
  | [], _, _, r, h => by
    cases h
    cases r
    exact ⟨[], [], rfl, .nil, rfl, .nil⟩
  | d :: ds, ps, _, r, h => by
    cases r with
    | cons r1 r2 =>
      unfold pairsD at h
      split at h
      · rename_i e1
        cases e1
      · rename_i i d' r' e1
        cases e1
        split at h
        · rename_i ps' hp
          cases h
          obtain ⟨as, kws, e1, e2, e3, e4⟩ := pairsD_rel hs r2 hp
          cases r1 with
          | tup hg hv =>
            obtain ⟨v1, v2, rfl, q1, q2⟩ := hv.two
            cases q1
            exact ⟨_ :: as, (.inl i, v2) :: kws, by rw [e1]; rfl, .cons (Same.sqT hs.g (tq hg)) e2, by simp [e3], .cons q2 e4⟩
        · cases h
      · rename_i i d' r' e1
        cases e1
        split at h
        · rename_i ps' hp
          cases h
          obtain ⟨as, kws, e1, e2, e3, e4⟩ := pairsD_rel hs r2 hp
          cases r1 with
          | tup hg hv =>
            obtain ⟨v1, v2, rfl, q1, q2⟩ := hv.two
            cases q1
            exact ⟨_ :: as, (.inr i, v2) :: kws, by rw [e1]; rfl, .cons (Same.sqT hs.g (tq hg)) e2, by simp [e3], .cons q2 e4⟩
        · cases h
      · cases h
def mergeD (acc : List (Key × D)) (ps : List (Key × D)) : List (Key × D) := ps.foldl (fun acc kv => putK' kv.1 kv.2 acc) acc
theorem mergeD_rel {K : PySem.W.Frag} {G : Hp} {e : List Addr} : ∀ {ps : List (Key × D)} {kws : List (Key × V)} {acc : List (Key × V)} {accD : List (Key × D)}, kws.map (·.1) = ps.map (·.1) → RVs K G e (kws.map (·.2)) (ps.map (·.2)) → acc.map (·.1) = accD.map (·.1) → RVs K G e (acc.map (·.2)) (accD.map (·.2)) →
    (mergeK acc kws).map (·.1) = (mergeD accD ps).map (·.1) ∧ RVs K G e ((mergeK acc kws).map (·.2)) ((mergeD accD ps).map (·.2))
  | [], [], _, _, _, _, h3, h4 => ⟨h3, h4⟩
  | [], _ :: _, _, _, h, _, _, _ => by simp at h
  | _ :: _, [], _, _, h, _, _, _ => by simp at h
  | p :: ps, q :: kws, acc, accD, h1, h2, h3, h4 => by
    simp only [List.map_cons, List.cons.injEq] at h1 h2
    cases h2 with
    | cons r1 r2 =>
      have e : mergeK acc (q :: kws) = mergeK (putK' q.1 q.2 acc) kws := by
        show mergeK (putK acc q.1 q.2) kws = _
        rw [putK_eq]
      rw [e, h1.1]
      obtain ⟨i1, i2⟩ := RVs.putK (k := p.1) r1 h3 h4
      exact mergeD_rel (ps := ps) h1.2 r2 i1 i2
def zDictP : ZFs := fun xs S Q => ∃ x ds ps, xs = [x] ∧ lstOf S x = some ds ∧ pairsD ds = some ps ∧ Q (.dk (mergeD [] ps)) S
theorem c_dictP (hc : X.calm = true) : CallR X (.type "dict") (rsF X.K zDictP) := by
  intro pins s σ H xs us Q I r ⟨W, S, ds, R, hH, hs, q1, ⟨x, es, ps, e1, h1, h2, hq⟩, k⟩
  subst hH e1
  obtain ⟨v, rfl, r1⟩ := q1.one
  obtain ⟨a, vs, rfl, ha, va⟩ := hs.lst r1 h1
  obtain ⟨as, kws, rfl, e2, e3, e4⟩ := pairsD_rel hs va h2
  obtain ⟨i1, i2⟩ := mergeD_rel (acc := []) (accD := []) e3 e4 rfl .nil
  exact call_dictP hc pins s σ W.H _ us Q I r ⟨a, as, kws, rfl, SqL.of ha, e2, fun p hp => k.dk hs i1 i2 hq p hp⟩

/-! ### sorted of tuples of ints -/
def tupsOf : List D → Option (List (List Int))
  | [] => some []
  | .tup ds :: r => match intsOf ds, tupsOf r with
    | some ns, some nss => some (ns :: nss)
    | _, _ => none
  | _ :: _ => none
def tupD (ns : List Int) : D := .tup (ns.map D.int)
theorem tupsOf_eq : ∀ {ds : List D} {nss : List (List Int)}, tupsOf ds = some nss → ds = nss.map tupD
  | [], nss, h => by
    cases h
    rfl
  | d :: r, nss, h => by
    unfold tupsOf at h
    split at h
    · rename_i e1
      cases e1
    · rename_i es r' e1
      cases e1
      split at h
      · rename_i ns mss h1 h2
        cases h
        rw [tupsOf_eq h2, intsOf_eq h1]
        rfl
      · cases h
    · cases h
@[simp] theorem tupsOf_map : ∀ nss : List (List Int), tupsOf (nss.map tupD) = some nss
  | [] => rfl
  | n :: nss => by
    show tupsOf (.tup (n.map D.int) :: nss.map tupD) = _
    unfold tupsOf
    rw [intsOf_map, tupsOf_map nss]
theorem perm_rvs {K : PySem.W.Frag} {G : Hp} {e : List Addr} {ys xs : List V} (p : ys.Perm xs) : ∀ {ds : List D}, RVs K G e xs ds → ∃ es, es.Perm ds ∧ RVs K G e ys es := by
  induction p with
  | nil => exact fun r => ⟨_, .refl _, r⟩
  | cons x _ ih =>
    intro ds r
    cases r with
    | cons r1 r2 =>
      obtain ⟨es, h1, h2⟩ := ih r2
      exact ⟨_ :: es, h1.cons _, .cons r1 h2⟩
  | swap x y l =>
    intro ds r
    cases r with
    | cons r1 r2 =>
      cases r2 with
      | cons r2 r3 => exact ⟨_, .swap _ _ _, .cons r2 (.cons r1 r3)⟩
  | trans _ _ ih1 ih2 =>
    intro ds r
    obtain ⟨es, h1, h2⟩ := ih2 r
    obtain ⟨fs, h3, h4⟩ := ih1 h2
    exact ⟨fs, h3.trans h1, h4⟩
theorem perm_map_inv {α β : Type} {f : α → β} {m m' : List β} (p : m.Perm m') : ∀ {l : List α}, m' = l.map f → ∃ l' : List α, l'.Perm l ∧ m = l'.map f := by
  induction p with
  | nil =>
    intro l h
    exact ⟨l, .refl _, h⟩
  | cons x _ ih =>
    intro l h
    cases l with
    | nil => cases h
    | cons a l =>
      rw [List.map_cons, List.cons.injEq] at h
      obtain ⟨l', h1, h2⟩ := ih h.2
      exact ⟨a :: l', h1.cons _, by rw [h.1, h2]; rfl⟩
  | swap x y l0 =>
    intro l h
    match l, h with
    | [], h => cases h
    | [_], h => simp at h
    | a :: b :: l, h =>
      rw [List.map_cons, List.map_cons, List.cons.injEq, List.cons.injEq] at h
      exact ⟨b :: a :: l, .swap _ _ _, by rw [h.1, h.2.1, h.2.2]; rfl⟩
  | trans _ _ ih1 ih2 =>
    intro l h
    obtain ⟨l1, h1, h2⟩ := ih2 h
    obtain ⟨l2, h3, h4⟩ := ih1 h2
    exact ⟨l2, h3.trans h1, h4⟩
def zSortedT : ZFs := fun xs S Q => ∃ x ds nss d B, xs = [x] ∧ lstOf S x = some ds ∧ tupsOf ds = some nss ∧ nss.length < 64 ∧ 1 ≤ d ∧ (∀ ns ∈ nss, ns.length = d ∧ TS.Bd B ns) ∧
  ∀ mss : List (List Int), mss.Perm nss → mss.Pairwise (fun n m => TS.code B n ≤ TS.code B m) → Q (.lst (mss.map tupD)) S
theorem rvs_tups {K : PySem.W.Frag} {W : Wd} {S : Sto} (hs : Hs K W S) : ∀ {nss : List (List Int)} {vs : List V}, RVs K W.G W.e vs (nss.map tupD) → ∀ (i : Nat) (x : V), vs[i]? = some x → ∃ ns, nss[i]? = some ns ∧ TupI K W.H x ns := by
  intro nss vs r i x h
  obtain ⟨d, h1, h2⟩ := r.get' h
  rw [List.getElem?_map] at h1
  cases e : nss[i]? with
  | none => rw [e] at h1; cases h1
  | some ns =>
    rw [e] at h1
    cases h1
    refine ⟨ns, rfl, ?_⟩
    cases h2 with
    | tup hg hv =>
      obtain rfl := hv.ints
      exact ⟨_, rfl, Same.sqT hs.g (tq hg)⟩
theorem c_sortedT : CallR X (.builtin "sorted") (rsF X.K zSortedT) := by
  intro pins s σ H xs us Q I r ⟨W, S, ds, R, hH, hs, q1, ⟨x, es, nss, d, B, e1, h1, h2, h3, h4, h5, hq⟩, k⟩
  subst hH e1
  obtain ⟨v, rfl, r1⟩ := q1.one
  obtain ⟨a, vs, rfl, ha, va⟩ := hs.lst r1 h1
  rw [tupsOf_eq h2] at va
  have vl : vs.length = nss.length := by
    have := va.length
    simpa using this
  refine cr_sortT (B := B) h4 pins s σ W.H _ us Q I r ⟨a, vs, rfl, SqL.of ha, by rw [vl]; exact h3, fun x hx => ?_, fun ys p pm pw hp => ?_⟩
  · obtain ⟨i, hi⟩ := List.getElem?_of_mem hx
    obtain ⟨ns, hn, ht⟩ := rvs_tups hs va i x hi
    obtain ⟨l1, l2⟩ := h5 ns (List.mem_of_getElem? hn)
    exact ⟨ns, ht, l1, l2⟩
  · obtain ⟨fs, g1, g2⟩ := perm_rvs pm va
    obtain ⟨mss, g3, g4⟩ := perm_map_inv (f := tupD) (l := nss) g1 rfl
    subst g4
    refine k.lst hs g2 (hq mss g3 ?_) p hp
    refine List.pairwise_iff_getElem.mpr fun i j hi hj hij => ?_
    have yl : ys.length = mss.length := by
      have := g2.length
      simpa using this
    have hiy : i < ys.length := by omega
    have hjy : j < ys.length := by omega
    have hp2 := List.pairwise_iff_getElem.mp pw i j hiy hjy hij
    obtain ⟨n1, a1, b1⟩ := rvs_tups hs g2 i _ (List.getElem?_eq_getElem hiy)
    obtain ⟨n2, a2, b2⟩ := rvs_tups hs g2 j _ (List.getElem?_eq_getElem hjy)
    rw [List.getElem?_eq_getElem hi] at a1
    rw [List.getElem?_eq_getElem hj] at a2
    cases a1
    cases a2
    exact hp2 _ _ b1 b2
/-- list(range(n)) -/
def wLRg (w : WE) : WF := fun ρ S Q => w ρ S fun x S1 => ∃ n, x = .int n ∧ RgOk 0 n ∧ Q (.lst (rng 0 n.toNat)) S1
theorem f_listRg {a : Expr} {w : WE} {p p2 pos2 : Pos} (hc : X.calm = true) (hg : Gl X "list") (hm : X.mg "list" = none) (hg2 : Gl X "range") (hm2 : X.mg "range" = none) (ha : JE X a w) (na : starEach [a] X.env = (false, eval a X.env) :: starEach [] X.env := by rfl)
    (na2 : starEach [(.Call (.Name "range" p2) [a] [] pos2)] X.env = (false, eval (.Call (.Name "range" p2) [a] [] pos2) X.env) :: starEach [] X.env := by rfl) :
    JF X (.Call (.Name "list" p) [.Call (.Name "range" p2) [a] [] pos2] [] pos) (wLRg w) :=
  pe_weak (pe_listRg hc hg hm (prg_1 hg2 hm2 ha na) na2) fun σ H Q ⟨W, ρ, S, R, hH, hs, re, hw, k⟩ => ⟨W, ρ, S, _, hH, hs, re, hw, fun W1 S1 x dx l1 hs1 r1 ⟨n, e1, ok, h1⟩ => by
    subst e1
    cases r1
    refine ⟨n, rfl, ok, fun q hq => ?_⟩
    refine (k.le l1).lst hs1 ?_ h1 q hq
    unfold rgV rng
    rw [Int.sub_zero]
    generalize List.range n.toNat = l
    induction l with
    | nil => exact .nil
    | cons a l ih => exact .cons (.int _) ih⟩
end

/-! ### a list of cells as a value from then on -/
inductive FrzAll : List D → Sto → List D → Sto → Prop
  | nil {S : Sto} : FrzAll [] S [] S
  | keep {d : D} {ds es : List D} {S S' : Sto} : FrzAll ds S es S' → FrzAll (d :: ds) S (d :: es) S'
  | cons {l : Nat} {c : Cell} {d : D} {ds es : List D} {S S' : Sto} : S[l]? = some c → fz c d → FrzAll ds (S.set l .dead) es S' → FrzAll (.ref l :: ds) S (d :: es) S'
def wFrz2 (w : WE) : WE := fun ρ S Q => w ρ S fun x S1 => ∃ l ds es S2, x = .ref l ∧ S1[l]? = some (.lst ds) ∧ FrzAll ds S1 es S2 ∧ S2[l]? = some (.lst ds) ∧ Q (.lst es) (S2.set l .dead)
theorem frzAll {K : PySem.W.Frag} {ds es : List D} {S S' : Sto} (h : FrzAll ds S es S') : ∀ {W : Wd} {vs : List V}, Hs K W S → RVs K W.G W.e vs ds → ∃ W', W'.H = W.H ∧ Le W W' ∧ Hs K W' S' ∧ RVs K W'.G W'.e vs es := by
  induction h with
  | nil => exact fun hs r => ⟨_, rfl, Le.refl _, hs, r⟩
  | keep _ ih =>
    intro W vs hs r
    cases r with
    | cons r1 r2 =>
      obtain ⟨W', e1, l1, hs1, r3⟩ := ih hs r2
      exact ⟨W', e1, l1, hs1, .cons (l1.rv r1) r3⟩
  | cons hc hd _ ih =>
    intro W vs hs r
    cases r with
    | cons r1 r2 =>
      obtain ⟨W1, e1, l1, hs1, r3⟩ := hs.frz r1 hc hd
      obtain ⟨W2, e2, l2, hs2, r4⟩ := ih hs1 (l1.rvs r2)
      exact ⟨W2, e2.trans e1, l1.trans l2, hs2, .cons (l2.rv r3) r4⟩
theorem j_frz2 {X : Cx} {e : Expr} {w : WE} (h : JE X e w) : JE X e (wFrz2 w) := pe_weak h fun σ H Q ⟨W, ρ, S, R, hH, hs, re, hw, k⟩ => ⟨W, ρ, S, _, hH, hs, re, hw, fun W1 S1 x dx l1 hs1 r1 ⟨l, ds, es, S2, e1, hc, hf, hc2, h1⟩ => by
  subst e1
  cases r1 with
  | ref he =>
    rename_i a
    obtain ⟨vs, hh, hv⟩ := hs1.cellL he hc
    obtain ⟨W2, e2, l2, hs2, r2⟩ := frzAll hf hs1 hv
    have he2 := l2.at _ _ he
    have hh2 : W2.H a = some (.lst vs) := by rw [e2]; exact hh
    obtain ⟨hs3, l3⟩ := hs2.freeze he2 hc2 (by simp) hh2 (fun _ z => by cases z)
    have sm := l3.g
    rw [← e2]
    exact k ⟨upd W2.G a (.lst vs), W2.e, W2.H⟩ _ (.ref a) (.lst es) (l1.trans (l2.trans l3)) hs3 (.lst upd_same (r2.mono sm fun _ _ q => q)) h1⟩
end Tk

/-! over data alone: an executor for readings. bO, bI, bB, bL, bN, bP hold the rest of a reading back until what it waits for is known. -/
namespace Tk
open PySem L2
def bO {α : Type} (o : Option α) (f : α → Prop) : Prop := ∃ a, o = some a ∧ f a
def bI (d : D) (f : Int → Prop) : Prop := ∃ a, d = .int a ∧ f a
def bB (d : D) (f : Bool → Prop) : Prop := ∃ a, d = .bl a ∧ f a
def bL (d : D) (f : Nat → Prop) : Prop := ∃ a, d = .ref a ∧ f a
def bN (d : D) (q : Prop) : Prop := d = .non ∧ q
def bP (p q : Prop) : Prop := p ∧ q
def bY (b : Bool) (p q : Prop) : Prop := if b = true then p else q
theorem bO_some {α : Type} (a : α) (f : α → Prop) : bO (some a) f = f a := propext ⟨fun ⟨_, e, h⟩ => by cases e; exact h, fun h => ⟨a, rfl, h⟩⟩
theorem bI_int (a : Int) (f : Int → Prop) : bI (.int a) f = f a := propext ⟨fun ⟨_, e, h⟩ => by cases e; exact h, fun h => ⟨a, rfl, h⟩⟩
theorem bB_bl (a : Bool) (f : Bool → Prop) : bB (.bl a) f = f a := propext ⟨fun ⟨_, e, h⟩ => by cases e; exact h, fun h => ⟨a, rfl, h⟩⟩
theorem bL_ref (a : Nat) (f : Nat → Prop) : bL (.ref a) f = f a := propext ⟨fun ⟨_, e, h⟩ => by cases e; exact h, fun h => ⟨a, rfl, h⟩⟩
theorem bN_non (q : Prop) : bN .non q = q := propext ⟨fun h => h.2, fun h => ⟨rfl, h⟩⟩
theorem bP_t (q : Prop) : bP True q = q := propext ⟨fun h => h.2, fun h => ⟨trivial, h⟩⟩
theorem bP_i {p q : Prop} (h : p) : bP p q = q := propext ⟨fun h => h.2, fun k => ⟨h, k⟩⟩
theorem bY_t (p q : Prop) : bY true p q = p := by simp [bY]
theorem bY_f (p q : Prop) : bY false p q = q := by simp [bY]
theorem bP_mk {p q : Prop} (h : p) (k : q) : bP p q := ⟨h, k⟩
theorem bY_mk {b : Bool} {p q : Prop} (h1 : b = true → p) (h2 : b = false → q) : bY b p q := by
  unfold bY
  cases b with
  | true => exact h1 rfl
  | false => exact h2 rfl
theorem bO_mk {α : Type} {o : Option α} {f : α → Prop} {a : α} (h : o = some a) (k : f a) : bO o f := ⟨a, h, k⟩

/-! the parts -/
section
variable (ρ : Nv) (S : Sto) (Q : QE) (E : Es)
theorem xo_V (i : Nat) : wV i ρ S Q = bO (ρ[i]?.join) fun d => Q d S := by
  unfold wV bO
  refine propext ⟨fun ⟨d, h, k⟩ => ⟨d, by rw [h]; rfl, k⟩, fun ⟨d, h, k⟩ => ⟨d, ?_, k⟩⟩
  cases e : ρ[i]? with
  | none => rw [e] at h; cases h
  | some o => cases o with
    | none => rw [e] at h; cases h
    | some u => rw [e] at h; cases h; rfl
theorem xo_C (d : D) : wC d ρ S Q = Q d S := rfl
theorem xo_B (z : Z2) (a b : WE) : wB z a b ρ S Q = a ρ S fun x S1 => b ρ S1 fun y S2 => z x y S2 Q := rfl
theorem xo_U (z : Z1) (a : WE) : wU z a ρ S Q = a ρ S fun x S1 => z x S1 Q := rfl
theorem xo_Nil (Q : List D → Sto → Prop) : wNil ρ S Q = Q [] S := rfl
theorem xo_Cons (a : WE) (r : WA) (Q : List D → Sto → Prop) : wCons a r ρ S Q = a ρ S fun x S1 => r ρ S1 fun xs S2 => Q (x :: xs) S2 := rfl
theorem xo_Z (z : Zs) (a : WA) : wZ z a ρ S Q = a ρ S fun xs S1 => z xs S1 Q := rfl
theorem xo_Tup (a : WA) : wTup a ρ S Q = a ρ S fun xs S1 => bP (xs.length ≤ sizeLine) (Q (.tup xs) S1) := rfl
theorem xo_Lst (a : WA) (Q : Cell → Sto → Prop) : wLst a ρ S Q = a ρ S fun xs S1 => bP (xs.length ≤ sizeLine) (Q (.lst xs) S1) := rfl
def fzO : Cell → Option D
  | .lst ds => some (.lst ds)
  | .dk kvs => some (.dk kvs)
  | .dt kvs => some (.dt kvs)
  | .ins C ks ds => some (.ins C ks ds)
  | .dead => none
  | .tab _ _ => none
  | .lk _ _ _ => none
  | .lt _ _ _ => none
theorem fz_iff (c : Cell) (d : D) : fz c d = (fzO c = some d) := by
  cases c <;> simp [fz, fzO, eq_comm]
theorem xo_Fz (w : WF) : wFz w ρ S Q = w ρ S fun c S1 => bO (fzO c) fun d => Q d S1 := by
  unfold wFz bO
  simp only [fz_iff]
theorem xo_Cl (w : WF) : wCl w ρ S Q = w ρ S fun c S1 => Q (.ref S1.length) (S1 ++ [c]) := rfl
theorem xo_BF (z : ZF2) (a b : WE) (Q : Cell → Sto → Prop) : wBF z a b ρ S Q = a ρ S fun x S1 => b ρ S1 fun y S2 => z x y S2 Q := rfl
theorem xo_ZF (z : ZFs) (a : WA) (Q : Cell → Sto → Prop) : wZF z a ρ S Q = a ρ S fun xs S1 => z xs S1 Q := rfl
variable (QT : Bool → Sto → Prop)
theorem xo_Tb (w : WE) : wTb w ρ S QT = w ρ S fun x S1 => bB x fun c => QT c S1 := rfl
theorem xo_AndT (a b : WT) : wAndT a b ρ S QT = a ρ S fun c S1 => bY c (b ρ S1 QT) (QT false S1) := rfl
theorem xo_OrT (a b : WT) : wOrT a b ρ S QT = a ρ S fun c S1 => bY c (QT true S1) (b ρ S1 QT) := rfl
theorem xo_NotT (a : WT) : wNotT a ρ S QT = a ρ S fun c S1 => QT (!c) S1 := rfl
theorem xo_Yes : wYes ρ S QT = QT true S := rfl
theorem xo_AndV (a b : WE) : wAndV a b ρ S Q = a ρ S fun x S1 => bB x fun c => bY c (b ρ S1 Q) (Q (.bl false) S1) := rfl
theorem xo_OrV (a b : WE) : wOrV a b ρ S Q = a ρ S fun x S1 => bB x fun c => bY c (Q (.bl true) S1) (b ρ S1 Q) := rfl
theorem xo_NotV (a : WE) : wNotV a ρ S Q = a ρ S fun x S1 => bB x fun c => Q (.bl (!c)) S1 := rfl
theorem xo_IfE (t : WT) (a b : WE) : wIfE t a b ρ S Q = t ρ S fun c S1 => bY c (a ρ S1 Q) (b ρ S1 Q) := rfl
theorem xo_Chain (z z' : Z2) (a b c : WE) : wChain z z' a b c ρ S Q = a ρ S fun x S1 => b ρ S1 fun y S2 => z x y S2 fun r S3 => bB r fun k => bY k (c ρ S3 fun u S4 => z' y u S4 Q) (Q (.bl false) S3) := rfl
theorem xo_I (C : Int → Int → Prop) (g : Int → Int → Int) (x y : D) : zI C g x y S Q = bI x fun i => bI y fun j => bP (C i j) (Q (.int (g i j)) S) :=
  propext ⟨fun ⟨i, j, e1, e2, h, k⟩ => ⟨i, e1, j, e2, h, k⟩, fun ⟨i, e1, j, e2, h, k⟩ => ⟨i, j, e1, e2, h, k⟩⟩
theorem xo_Ib (g : Int → Int → Bool) (x y : D) : zIb g x y S Q = bI x fun i => bI y fun j => Q (.bl (g i j)) S :=
  propext ⟨fun ⟨i, j, e1, e2, k⟩ => ⟨i, e1, j, e2, k⟩, fun ⟨i, e1, j, e2, k⟩ => ⟨i, j, e1, e2, k⟩⟩
theorem xo_AddI (i j : Int) : zAdd (.int i) (.int j) S Q = Q (.int (i + j)) S := rfl
theorem xo_Cat (x y : D) (Q : Cell → Sto → Prop) : zCat x y S Q = bO (lstOf S x) fun as => bO (lstOf S y) fun bs => bP (as.length + bs.length ≤ sizeLine) (Q (.lst (as ++ bs)) S) :=
  propext ⟨fun ⟨i, j, e1, e2, h, k⟩ => ⟨i, e1, j, e2, h, k⟩, fun ⟨i, e1, j, e2, h, k⟩ => ⟨i, j, e1, e2, h, k⟩⟩
theorem xo_Rep (x y : D) (Q : Cell → Sto → Prop) : zRep x y S Q = bO (lstOf S x) fun as => bI y fun n => bP ((-(2 ^ 63) ≤ n ∧ n < 2 ^ 63) ∧ as.length * n.toNat ≤ sizeLine) (Q (.lst (List.replicate n.toNat as).flatten) S) :=
  propext ⟨fun ⟨i, j, e1, e2, h, h2, h3, k⟩ => ⟨i, e1, j, e2, ⟨⟨h, h2⟩, h3⟩, k⟩, fun ⟨i, e1, j, e2, ⟨⟨h, h2⟩, h3⟩, k⟩ => ⟨i, j, e1, e2, h, h2, h3, k⟩⟩
theorem xo_Neg (x : D) : zNeg x S Q = bI x fun i => Q (.int (-i)) S := rfl
theorem xo_Ix (x y : D) : zIx x y S Q = bO (seqOf S x) fun ds => bI y fun i => bO (atI ds i) fun d => Q d S :=
  propext ⟨fun ⟨i, j, d, e1, e2, h, k⟩ => ⟨i, e1, j, e2, d, h, k⟩, fun ⟨i, e1, j, e2, d, h, k⟩ => ⟨i, j, d, e1, e2, h, k⟩⟩
theorem xo_No (Q : Option Int → Sto → Prop) : wNo ρ S Q = Q none S := rfl
theorem xo_So (w : WE) (Q : Option Int → Sto → Prop) : wSo w ρ S Q = w ρ S fun x S1 => bI x fun i => Q (some i) S1 := rfl
def tupOf : D → Option (List D)
  | .tup ds => some ds
  | _ => none
theorem tupOf_eq (d : D) (ds : List D) : (d = .tup ds) = (tupOf d = some ds) := by
  cases d <;> simp [tupOf, eq_comm]
theorem xo_SlT (w : WE) (lo hi : WO) : wSlT w lo hi ρ S Q = w ρ S fun x S1 => lo ρ S1 fun a S2 => hi ρ S2 fun b S3 => bO (tupOf x) fun ds => Q (.tup (cutD ds a b)) S3 := by
  unfold wSlT bO
  simp only [tupOf_eq]
theorem xo_SlL (w : WE) (lo hi : WO) (Q : Cell → Sto → Prop) : wSlL w lo hi ρ S Q = w ρ S fun x S1 => lo ρ S1 fun a S2 => hi ρ S2 fun b S3 => bO (lstOf S3 x) fun ds => Q (.lst (cutD ds a b)) S3 := rfl
theorem xo_Rev (w : WE) (Q : Cell → Sto → Prop) : wRev w ρ S Q = w ρ S fun x S1 => bO (lstOf S1 x) fun ds => Q (.lst ds.reverse) S1 := rfl
theorem xo_In (x y : D) : zIn x y S Q = bI x fun i => bO (seqOf S y) fun ds => bO (intsOf ds) fun ns => Q (.bl (decide (i ∈ ns))) S :=
  propext ⟨fun ⟨i, j, d, e1, e2, h, k⟩ => ⟨i, e1, j, e2, d, h, k⟩, fun ⟨i, e1, j, e2, d, h, k⟩ => ⟨i, j, d, e1, e2, h, k⟩⟩
theorem xo_NotIn (x y : D) : zNotIn x y S Q = bI x fun i => bO (seqOf S y) fun ds => bO (intsOf ds) fun ns => Q (.bl (!decide (i ∈ ns))) S :=
  propext ⟨fun ⟨i, j, d, e1, e2, h, k⟩ => ⟨i, e1, j, e2, d, h, k⟩, fun ⟨i, e1, j, e2, d, h, k⟩ => ⟨i, j, d, e1, e2, h, k⟩⟩
theorem xo_IsN (x y : D) : zIsN x y S Q = bN y (Q (.bl (isNon x)) S) := rfl
theorem xo_NotN (x y : D) : zNotN x y S Q = bN y (Q (.bl (!isNon x)) S) := rfl
theorem xo_IsB (x y : D) : zIsB x y S Q = bB x fun a => bB y fun b => Q (.bl (decide (a = b))) S :=
  propext ⟨fun ⟨i, j, e1, e2, k⟩ => ⟨i, e1, j, e2, k⟩, fun ⟨i, e1, j, e2, k⟩ => ⟨i, j, e1, e2, k⟩⟩
theorem xo_NotB (x y : D) : zNotB x y S Q = bB x fun a => bB y fun b => Q (.bl (!decide (a = b))) S :=
  propext ⟨fun ⟨i, j, e1, e2, k⟩ => ⟨i, e1, j, e2, k⟩, fun ⟨i, e1, j, e2, k⟩ => ⟨i, j, e1, e2, k⟩⟩
theorem xo_Len (x : D) : zLen [x] S Q = bO (seqOf S x) fun ds => Q (.int (ds.length : Nat)) S :=
  propext ⟨fun ⟨i, j, e1, e2, k⟩ => by cases e1; exact ⟨j, e2, k⟩, fun ⟨j, e2, k⟩ => ⟨x, j, rfl, e2, k⟩⟩
theorem xo_Int (i : Int) : zInt [.int i] S Q = Q (.int i) S :=
  propext ⟨fun h => by rcases h with ⟨_, e, h⟩ | ⟨_, e, h⟩ <;> cases e; exact h, fun h => .inl ⟨i, rfl, h⟩⟩
theorem xo_Max2 (i j : Int) : zMax2 [.int i, .int j] S Q = Q (.int (max i j)) S := by
  refine propext ⟨fun ⟨_, _, e, h⟩ => ?_, fun h => ⟨i, j, rfl, ?_⟩⟩
  · cases e
    have : (if j > i then j else i) = max i j := by omega
    exact this ▸ h
  · have : (if j > i then j else i) = max i j := by omega
    exact this.symm ▸ h
theorem xo_Max (x : D) : zMax [x] S Q = bO (lstOf S x) fun ds => bO (intsOf ds) fun ns => bP (0 < ns.length) (∀ m, m ∈ ns → (∀ y, y ∈ ns → y ≤ m) → Q (.int m) S) :=
  propext ⟨fun ⟨i, j, k, e1, e2, e3, h, h2⟩ => by cases e1; exact ⟨j, e2, k, e3, h, h2⟩, fun ⟨j, e2, k, e3, h, h2⟩ => ⟨x, j, k, rfl, e2, e3, h, h2⟩⟩
theorem xo_Min (x : D) : zMin [x] S Q = bO (lstOf S x) fun ds => bO (intsOf ds) fun ns => bP (0 < ns.length) (∀ m, m ∈ ns → (∀ y, y ∈ ns → m ≤ y) → Q (.int m) S) :=
  propext ⟨fun ⟨i, j, k, e1, e2, e3, h, h2⟩ => by cases e1; exact ⟨j, e2, k, e3, h, h2⟩, fun ⟨j, e2, k, e3, h, h2⟩ => ⟨x, j, k, rfl, e2, e3, h, h2⟩⟩
theorem xo_Sum (x : D) : zSum [x] S Q = bO (seqOf S x) fun ds => bO (intsOf ds) fun ns => Q (.int ns.sum) S :=
  propext ⟨fun ⟨i, j, k, e1, e2, e3, h⟩ => by cases e1; exact ⟨j, e2, k, e3, h⟩, fun ⟨j, e2, k, e3, h⟩ => ⟨x, j, k, rfl, e2, e3, h⟩⟩
theorem xo_All (x : D) : zAll [x] S Q = bO (lstOf S x) fun ds => bO (blsOf ds) fun ns => Q (.bl (ns.all id)) S :=
  propext ⟨fun ⟨i, j, k, e1, e2, e3, h⟩ => by cases e1; exact ⟨j, e2, k, e3, h⟩, fun ⟨j, e2, k, e3, h⟩ => ⟨x, j, k, rfl, e2, e3, h⟩⟩
theorem xo_Any (x : D) : zAny [x] S Q = bO (lstOf S x) fun ds => bO (blsOf ds) fun ns => Q (.bl (ns.any id)) S :=
  propext ⟨fun ⟨i, j, k, e1, e2, e3, h⟩ => by cases e1; exact ⟨j, e2, k, e3, h⟩, fun ⟨j, e2, k, e3, h⟩ => ⟨x, j, k, rfl, e2, e3, h⟩⟩
theorem xo_List (x : D) (Q : Cell → Sto → Prop) : zList [x] S Q = bO (seqOf S x) fun ds => Q (.lst ds) S :=
  propext ⟨fun ⟨i, j, e1, e2, k⟩ => by cases e1; exact ⟨j, e2, k⟩, fun ⟨j, e2, k⟩ => ⟨x, j, rfl, e2, k⟩⟩
theorem xo_Tuple (x : D) : zTuple [x] S Q = bO (seqOf S x) fun ds => Q (.tup ds) S :=
  propext ⟨fun ⟨i, j, e1, e2, k⟩ => by cases e1; exact ⟨j, e2, k⟩, fun ⟨j, e2, k⟩ => ⟨x, j, rfl, e2, k⟩⟩
theorem xo_Sorted (x : D) (Q : Cell → Sto → Prop) : zSorted [x] S Q = bO (lstOf S x) fun ds => bO (intsOf ds) fun ns => ∀ ns' : List Int, ns'.Perm ns → ns'.Pairwise (· ≤ ·) → Q (.lst (ns'.map D.int)) S :=
  propext ⟨fun ⟨i, j, k, e1, e2, e3, h⟩ => by cases e1; exact ⟨j, e2, k, e3, h⟩, fun ⟨j, e2, k, e3, h⟩ => ⟨x, j, k, rfl, e2, e3, h⟩⟩
theorem xo_M (z : Zm) (o : WE) (a : WA) : wM z o a ρ S Q = o ρ S fun x S1 => bP ((lstOf S1 x).isSome = true) (a ρ S1 fun xs S2 => z x xs S2 Q) := by
  unfold wM bP
  simp only [Option.isSome_iff_exists]
theorem xo_M0 (z : Zm) (o : WE) : wM0 z o ρ S Q = o ρ S fun x S1 => bP ((lstOf S1 x).isSome = true) (z x [] S1 Q) := by
  unfold wM0 bP
  simp only [Option.isSome_iff_exists]
def clL : Cell → Option (List D)
  | .lst ds => some ds
  | _ => none
def clI : Cell → Option (Addr × List Str × List D)
  | .ins C ks ds => some (C, ks, ds)
  | _ => none
def clK : Cell → Option (List (Key × D))
  | .dk ds => some ds
  | _ => none
theorem xo_Append (x y : D) : zAppend x [y] S Q = bL x fun l => bO (S[l]?.bind clL) fun ds => bP (ds.length < sizeLine) (Q .non (S.set l (.lst (ds ++ [y])))) := by
  refine propext ⟨fun ⟨l, ds, z, e1, e2, h, h2, k⟩ => ?_, fun ⟨l, e1, ds, h, h2, k⟩ => ⟨l, ds, y, e1, rfl, ?_, h2, k⟩⟩
  · cases e2
    exact ⟨l, e1, ds, by rw [h]; rfl, h2, k⟩
  · cases e : S[l]? with
    | none => rw [e] at h; cases h
    | some c => rw [e] at h; cases c <;> cases h; rfl
theorem xo_Pop (x : D) : zPop x [] S Q = bL x fun l => bO (S[l]?.bind clL) fun ds => bO (ds[ds.length - 1]?) fun y => Q y (S.set l (.lst ds.dropLast)) := by
  refine propext ⟨fun ⟨l, ds, z, e1, e2, h, h2, k⟩ => ?_, fun ⟨l, e1, ds, h, y, h2, k⟩ => ⟨l, ds, y, e1, rfl, ?_, h2, k⟩⟩
  · exact ⟨l, e1, ds, by rw [h]; rfl, z, h2, k⟩
  · cases e : S[l]? with
    | none => rw [e] at h; cases h
    | some c => rw [e] at h; cases c <;> cases h; rfl
theorem xo_PopAt (x y : D) : zPopAt x [y] S Q = bL x fun l => bO (S[l]?.bind clL) fun ds => bI y fun i => bP (-(2 ^ 63) ≤ i ∧ i < 2 ^ 63) (bO (ixN ds.length i) fun j => bO (ds[j]?) fun y => Q y (S.set l (.lst (ds.eraseIdx j)))) := by
  refine propext ⟨fun ⟨l, ds, i, j, z, e1, e2, h, h2, h3, h4, h5, k⟩ => ?_, fun ⟨l, e1, ds, h, i, e2, ⟨h2, h3⟩, j, h4, z, h5, k⟩ => ⟨l, ds, i, j, z, e1, by rw [e2], ?_, h2, h3, h4, h5, k⟩⟩
  · cases e2
    exact ⟨l, e1, ds, by rw [h]; rfl, i, rfl, ⟨h2, h3⟩, j, h4, z, h5, k⟩
  · cases e : S[l]? with
    | none => rw [e] at h; cases h
    | some c => rw [e] at h; cases c <;> cases h; rfl
theorem xo_Reverse (x : D) : zReverse x [] S Q = bL x fun l => bO (S[l]?.bind clL) fun ds => Q .non (S.set l (.lst ds.reverse)) := by
  refine propext ⟨fun ⟨l, ds, e1, e2, h, k⟩ => ?_, fun ⟨l, e1, ds, h, k⟩ => ⟨l, ds, e1, rfl, ?_, k⟩⟩
  · exact ⟨l, e1, ds, by rw [h]; rfl, k⟩
  · cases e : S[l]? with
    | none => rw [e] at h; cases h
    | some c => rw [e] at h; cases c <;> cases h; rfl
theorem xo_Fld (C : Addr) (ks : List Str) (i : Nat) (w : WE) : wFld C ks i w ρ S Q = w ρ S fun x S1 => bO (insOf S1 x) fun t => bP (t.1 = C ∧ t.2.1 = ks) (bO (t.2.2[i]?) fun d => Q d S1) := by
  unfold wFld
  congr 1
  funext x S1
  refine propext ⟨fun ⟨ds, d, h1, h2, k⟩ => ⟨_, h1, ⟨rfl, rfl⟩, d, h2, k⟩, fun ⟨⟨a, b, ds⟩, h1, ⟨h3, h4⟩, d, h2, k⟩ => ?_⟩
  cases h3
  cases h4
  exact ⟨ds, d, h1, h2, k⟩
theorem xo_FldNew (C : Addr) (ks : List Str) (f : Str) (wo wv : WE) : wFldNew C ks f wo wv E ρ S = wv ρ S fun y S1 => wo ρ S1 fun x S2 => bL x fun l => bO (S2[l]?.bind clI) fun t => bP (t.1 = C ∧ t.2.1 = ks) (E.nx ρ (S2.set l (.ins C (ks ++ [f]) (t.2.2 ++ [y])))) := by
  unfold wFldNew
  congr 1
  funext y S1
  congr 1
  funext x S2
  refine propext ⟨fun ⟨l, ds, h1, h2, k⟩ => ⟨l, h1, (C, ks, ds), by rw [h2]; rfl, ⟨rfl, rfl⟩, k⟩, fun ⟨l, h1, ⟨a, b, ds⟩, h2, ⟨h3, h4⟩, k⟩ => ⟨l, ds, h1, ?_, k⟩⟩
  cases h3
  cases h4
  cases e : S2[l]? with
  | none => rw [e] at h2; cases h2
  | some c => rw [e] at h2; cases c <;> cases h2; rfl
theorem xo_FldSet (C : Addr) (ks : List Str) (i : Nat) (wo wv : WE) : wFldSet C ks i wo wv E ρ S = wv ρ S fun y S1 => wo ρ S1 fun x S2 => bL x fun l => bO (S2[l]?.bind clI) fun t => bP (t.1 = C ∧ t.2.1 = ks) (E.nx ρ (S2.set l (.ins C ks (t.2.2.set i y)))) := by
  unfold wFldSet
  congr 1
  funext y S1
  congr 1
  funext x S2
  refine propext ⟨fun ⟨l, ds, h1, h2, k⟩ => ⟨l, h1, (C, ks, ds), by rw [h2]; rfl, ⟨rfl, rfl⟩, k⟩, fun ⟨l, h1, ⟨a, b, ds⟩, h2, ⟨h3, h4⟩, k⟩ => ⟨l, ds, h1, ?_, k⟩⟩
  cases h3
  cases h4
  cases e : S2[l]? with
  | none => rw [e] at h2; cases h2
  | some c => rw [e] at h2; cases c <;> cases h2; rfl
theorem clI_eq {S : Sto} {l : Nat} {C : Addr} {ks : List Str} {ds : List D} (h : S[l]?.bind clI = some (C, ks, ds)) : S[l]? = some (.ins C ks ds) := by
  cases e : S[l]? with
  | none => rw [e] at h; cases h
  | some c => rw [e] at h; cases c <;> cases h; rfl
theorem clL_eq {S : Sto} {l : Nat} {ds : List D} (h : S[l]?.bind clL = some ds) : S[l]? = some (.lst ds) := by
  cases e : S[l]? with
  | none => rw [e] at h; cases h
  | some c => rw [e] at h; cases c <;> cases h; rfl
theorem clK_eq {S : Sto} {l : Nat} {ds : List (Key × D)} (h : S[l]?.bind clK = some ds) : S[l]? = some (.dk ds) := by
  cases e : S[l]? with
  | none => rw [e] at h; cases h
  | some c => rw [e] at h; cases c <;> cases h; rfl
theorem xo_FldAug (C : Addr) (ks : List Str) (i : Nat) (wo wv : WE) : wFldAug C ks i wo wv E ρ S = wo ρ S fun x S1 => bL x fun l => bO (S1[l]?.bind clI) fun t => bP (t.1 = C ∧ t.2.1 = ks) (bO (t.2.2[i]?) fun u => bI u fun n =>
    wv ρ S1 fun y S2 => bI y fun m => bO (S2[l]?.bind clI) fun t => bP (t.1 = C ∧ t.2.1 = ks) (E.nx ρ (S2.set l (.ins C ks (t.2.2.set i (.int (n + m))))))) := by
  unfold wFldAug
  congr 1
  funext x S1
  have e : ∀ (n : Int) (l : Nat) (y : D) (S2 : Sto), (∃ m ds', y = .int m ∧ S2[l]? = some (.ins C ks ds') ∧ E.nx ρ (S2.set l (.ins C ks (ds'.set i (.int (n + m)))))) = (bI y fun m => bO (S2[l]?.bind clI) fun t => bP (t.1 = C ∧ t.2.1 = ks) (E.nx ρ (S2.set l (.ins C ks (t.2.2.set i (.int (n + m))))))) := fun n l y S2 =>
    propext ⟨fun ⟨m, ds, h1, h2, k⟩ => ⟨m, h1, (C, ks, ds), by rw [h2]; rfl, ⟨rfl, rfl⟩, k⟩, fun ⟨m, h1, ⟨a, b, ds⟩, h2, ⟨h3, h4⟩, k⟩ => by
      cases h3
      cases h4
      exact ⟨m, ds, h1, clI_eq h2, k⟩⟩
  simp only [e]
  refine propext ⟨fun ⟨l, ds, h1, h2, n, h3, k⟩ => ⟨l, h1, (C, ks, ds), by rw [h2]; rfl, ⟨rfl, rfl⟩, _, h3, n, rfl, k⟩, fun ⟨l, h1, ⟨a, b, ds⟩, h2, ⟨h3, h4⟩, u, h5, n, h6, k⟩ => ?_⟩
  cases h3
  cases h4
  exact ⟨l, ds, h1, clI_eq h2, n, h6 ▸ h5, k⟩
theorem xo_Call (n : Nat) (F : Pr) (a : WA) : wCall n F a ρ S Q = a ρ S fun ds S1 => bP (ds.length = n) (F ds S1 Q) := rfl
theorem xo_Meth (C : Addr) (ks : List Str) (n : Nat) (F : Pr) (o : WE) (a : WA) : wMeth C ks n F o a ρ S Q = o ρ S fun x S1 => bO (insOf S1 x) fun t => bP (t.1 = C ∧ t.2.1 = ks) (a ρ S1 fun ds S2 => bP (ds.length + 1 = n) (F (x :: ds) S2 Q)) := by
  unfold wMeth
  congr 1
  funext x S1
  refine propext ⟨fun ⟨⟨ds, h1⟩, k⟩ => ⟨_, h1, ⟨rfl, rfl⟩, k⟩, fun ⟨⟨a, b, ds⟩, h1, ⟨h3, h4⟩, k⟩ => ?_⟩
  cases h3
  cases h4
  exact ⟨⟨ds, h1⟩, k⟩
theorem xo_Make (C : Addr) (n : Nat) (F : Pr) (a : WA) : wMake C n F a ρ S Q = a ρ S fun ds S1 => bP (ds.length + 1 = n) (F (.ref S1.length :: ds) (S1 ++ [.ins C [] []]) fun d S2 => bN d (Q (.ref S1.length) S2)) := rfl
theorem xo_Frz (w : WE) : wFrz w ρ S Q = w ρ S fun x S1 => bL x fun l => bO (S1[l]?.bind fzO) fun d => Q d (S1.set l .dead) := by
  unfold wFrz
  congr 1
  funext x S1
  simp only [fz_iff]
  refine propext ⟨fun ⟨l, c, d, e1, h1, h2, k⟩ => ⟨l, e1, d, by rw [h1]; exact h2, k⟩, fun ⟨l, e1, d, h, k⟩ => ?_⟩
  cases e : S1[l]? with
  | none => rw [e] at h; cases h
  | some c => rw [e] at h; exact ⟨l, c, d, e1, e, h, k⟩
variable (QN : Nv → Sto → Prop)
theorem xo_gN (i : Nat) (d : D) : gN i d ρ S QN = QN (ρ.set i (some d)) S := rfl
theorem xo_gsNil : gsNil [] ρ S QN = QN ρ S := propext ⟨fun h => h.2, fun h => ⟨rfl, h⟩⟩
theorem xo_gsCons (g : WG) (r : WGs) (d : D) (ds : List D) : gsCons g r (d :: ds) ρ S QN = g d ρ S fun ρ1 S1 => r ds ρ1 S1 QN := propext ⟨fun ⟨_, _, e, h⟩ => by cases e; exact h, fun h => ⟨_, _, rfl, h⟩⟩
theorem xo_gTu (n : Nat) (r : WGs) (d : D) : gTu n r d ρ S QN = bO (seqOf S d) fun ds => bP (ds.length = n) (r ds ρ S QN) := rfl
theorem xo_gIx (o i : WE) (d : D) : gIx o i d ρ S QN = o ρ S fun x S1 => i ρ S1 fun y S2 => bL x fun l => bO (S2[l]?.bind clL) fun ds => bI y fun n => bO (ixN ds.length n) fun j => QN ρ (S2.set l (.lst (ds.set j d))) := by
  unfold gIx
  congr 1
  funext x S1
  congr 1
  funext y S2
  refine propext ⟨fun ⟨l, ds, n, j, e1, h, e2, hj, k⟩ => ⟨l, e1, ds, by rw [h]; rfl, n, e2, j, hj, k⟩, fun ⟨l, e1, ds, h, n, e2, j, hj, k⟩ => ⟨l, ds, n, j, e1, clL_eq h, e2, hj, k⟩⟩
theorem xo_Seq (a b : WS) : sSeq a b E ρ S = a { E with nx := b E } ρ S := rfl
theorem xo_SNil : sNil E ρ S = E.nx ρ S := rfl
theorem xo_Asg (w : WE) (g : WG) : sAsg w g E ρ S = w ρ S fun d S1 => g d ρ S1 E.nx := rfl
theorem xo_Drop (w : WE) : sDrop w E ρ S = w ρ S fun _ S1 => E.nx ρ S1 := rfl
theorem xo_Ret (w : WE) : sRet w E ρ S = w ρ S fun d S1 => E.rt d S1 := rfl
theorem xo_RetN : sRetN E ρ S = E.rt .non S := rfl
theorem xo_If (t : WT) (a b : WS) : sIf t a b E ρ S = t ρ S fun c S1 => bY c (a E ρ S1) (b E ρ S1) := rfl
theorem xo_Brk : sBrk E ρ S = E.bk ρ S := rfl
theorem xo_Cnt : sCnt E ρ S = E.ct ρ S := rfl
theorem xo_Never : sNever E ρ S = False := rfl
theorem xo_Aug (i : Nat) (z : Z2) (w : WE) : sAug i z w E ρ S = bO (ρ[i]?.join) fun d => w ρ S fun y S1 => z d y S1 fun r S2 => E.nx (ρ.set i (some r)) S2 := by
  unfold sAug bO
  refine propext ⟨fun ⟨d, h, k⟩ => ⟨d, by rw [h]; rfl, k⟩, fun ⟨d, h, k⟩ => ⟨d, ?_, k⟩⟩
  cases e : ρ[i]? with
  | none => rw [e] at h; cases h
  | some o => cases o with
    | none => rw [e] at h; cases h
    | some u => rw [e] at h; cases h; rfl
theorem xo_AugIx (z : Z2) (o i w : WE) : sAugIx z o i w E ρ S = o ρ S fun x S1 => i ρ S1 fun y S2 => bL x fun l => bI y fun n => bO (S2[l]?.bind clL) fun ds => bO (ixN ds.length n) fun j => bO (ds[j]?) fun d =>
    w ρ S2 fun u S3 => z d u S3 fun r S4 => bO (S4[l]?.bind clL) fun ds' => bP (ixN ds'.length n = some j) (E.nx ρ (S4.set l (.lst (ds'.set j r)))) := by
  unfold sAugIx
  congr 1
  funext x S1
  congr 1
  funext y S2
  have e : ∀ (l j : Nat) (n : Int) (r : D) (S4 : Sto), (∃ ds', S4[l]? = some (.lst ds') ∧ ixN ds'.length n = some j ∧ E.nx ρ (S4.set l (.lst (ds'.set j r)))) = (bO (S4[l]?.bind clL) fun ds' => bP (ixN ds'.length n = some j) (E.nx ρ (S4.set l (.lst (ds'.set j r))))) := fun l j n r S4 =>
    propext ⟨fun ⟨ds, h, k⟩ => ⟨ds, by rw [h]; rfl, k⟩, fun ⟨ds, h, k⟩ => ⟨ds, clL_eq h, k⟩⟩
  simp only [e]
  exact propext ⟨fun ⟨l, ds, n, j, d, e1, e2, h1, h2, h3, k⟩ => ⟨l, e1, n, e2, ds, by rw [h1]; rfl, j, h2, d, h3, k⟩, fun ⟨l, e1, n, e2, ds, h1, j, h2, d, h3, k⟩ => ⟨l, ds, n, j, d, e1, e2, clL_eq h1, h2, h3, k⟩⟩
theorem xo_Par (i j : Nat) (a b : WE) : sPar i j a b E ρ S = a ρ S fun x S1 => b ρ S1 fun y S2 => E.nx ((ρ.set i (some x)).set j (some y)) S2 := rfl
variable (QI : List D → (Sto → Prop) → Sto → Prop)
theorem xo_WIn (w : WE) : wIn w ρ S QI = w ρ S fun x S1 => bO (seqOf S1 x) fun ds => QI ds (fun S => seqOf S x = some ds) S1 := rfl
theorem xo_R1 (a : WE) : wR1 a ρ S QI = a ρ S fun x S1 => bI x fun j => bP (-(2 ^ 62) ≤ j ∧ j < 2 ^ 62) (QI (rng 0 j.toNat) (fun _ => True) S1) := rfl
theorem xo_R3 (a b c : WE) : wR3 a b c ρ S QI = a ρ S fun x S1 => b ρ S1 fun y S2 => c ρ S2 fun z S3 => bI x fun i => bI y fun j => bI z fun c => ∃ n, RgC i j c n ∧ QI (rngC i c n) (fun _ => True) S3 := by
  unfold wR3
  congr 1
  funext x S1
  congr 1
  funext y S2
  congr 1
  funext z S3
  exact propext ⟨fun ⟨i, j, c, n, e1, e2, e3, h, k⟩ => ⟨i, e1, j, e2, c, e3, n, h, k⟩, fun ⟨i, e1, j, e2, c, e3, n, h, k⟩ => ⟨i, j, c, n, e1, e2, e3, h, k⟩⟩
theorem xo_DNew (Q : Cell → Sto → Prop) : wDNew ρ S Q = Q (.dk []) S := rfl
def keyO : D → Option Key
  | .int i => some (.inl i)
  | .str x => some (.inr x)
  | _ => none
theorem keyO_eq (d : D) (k : Key) : (d = kD k) = (keyO d = some k) := by
  cases k <;> cases d <;> simp [kD, keyO]
theorem xo_Disp1 (wk wv : WE) (Q : Cell → Sto → Prop) : wDisp1 wk wv ρ S Q = wk ρ S fun x S1 => wv ρ S1 fun y S2 => bO (keyO x) fun k => Q (.dk [(k, y)]) S2 := by
  unfold wDisp1 bO
  simp only [keyO_eq]
theorem xo_DPut (wd wk wv : WE) : sDPut wd wk wv E ρ S = wv ρ S fun v S1 => wd ρ S1 fun x S2 => wk ρ S2 fun y S3 => bL x fun l => bO (keyO y) fun k => bO (S3[l]?.bind clK) fun kvs => bP (kvs.length < sizeLine) (E.nx ρ (S3.set l (.dk (putK' k v kvs)))) := by
  unfold sDPut
  simp only [keyO_eq]
  congr 1
  funext v S1
  congr 1
  funext x S2
  congr 1
  funext y S3
  exact propext ⟨fun ⟨l, kvs, k, e1, e2, h1, h2, h3⟩ => ⟨l, e1, k, e2, kvs, by rw [h1]; rfl, h2, h3⟩, fun ⟨l, e1, k, e2, kvs, h1, h2, h3⟩ => ⟨l, kvs, k, e1, e2, clK_eq h1, h2, h3⟩⟩
theorem xo_SortedD (x : D) (Q : Cell → Sto → Prop) : zSortedD [x] S Q = bO (dkOf S x) fun kvs => bO (intKeys kvs) fun ks => bP (ks.length < 64) (∀ ys : List Int, ys.Perm ks → ys.Pairwise (· ≤ ·) → Q (.lst (ys.map D.int)) S) :=
  propext ⟨fun ⟨i, j, k, e1, e2, e3, h, h2⟩ => by cases e1; exact ⟨j, e2, k, e3, h, h2⟩, fun ⟨j, e2, k, e3, h, h2⟩ => ⟨x, j, k, rfl, e2, e3, h, h2⟩⟩
theorem xo_DictP (x : D) (Q : Cell → Sto → Prop) : zDictP [x] S Q = bO (lstOf S x) fun ds => bO (pairsD ds) fun ps => Q (.dk (mergeD [] ps)) S :=
  propext ⟨fun ⟨i, j, k, e1, e2, e3, h⟩ => by cases e1; exact ⟨j, e2, k, e3, h⟩, fun ⟨j, e2, k, e3, h⟩ => ⟨x, j, k, rfl, e2, e3, h⟩⟩
theorem xo_LRg (w : WE) (Q : Cell → Sto → Prop) : wLRg w ρ S Q = w ρ S fun x S1 => bI x fun n => bP (RgOk 0 n) (Q (.lst (rng 0 n.toNat)) S1) := rfl
end
/-! loops -/
def ForP (items : List D) (side : Sto → Prop) (g : WG) (b : WS) (E : Es) (ρ : Nv) (S : Sto) : Prop := ∃ Pv : Nat → Nv → Sto → Prop, Pv 0 ρ S ∧ (∀ i ρ S, i ≤ items.length → Pv i ρ S → side S) ∧
  (∀ i x ρ S, items[i]? = some x → Pv i ρ S → g x ρ S fun ρ2 S2 => b { E with nx := Pv (i + 1), ct := Pv (i + 1), bk := E.nx } ρ2 S2) ∧ ∀ ρ S, Pv items.length ρ S → E.nx ρ S
theorem xo_For {wi : WI} {g : WG} {b : WS} {E : Es} {ρ : Nv} {S : Sto} : sFor wi g b E ρ S = wi ρ S fun items side S1 => ForP items side g b E ρ S1 := rfl
def WhP (c : WT) (b : WS) (E : Es) (ρ : Nv) (S : Sto) : Prop := sWhile c b E ρ S
theorem xo_While {c : WT} {b : WS} {E : Es} {ρ : Nv} {S : Sto} : sWhile c b E ρ S = WhP c b E ρ S := rfl
def LcP (items : List D) (side : Sto → Prop) (tg : Tg) (t : WT) (w : WE) (vs : List Nat) (ρ : Nv) (S1 : Sto) (Q : Cell → Sto → Prop) : Prop := ∃ Pv : Nat → List D → Sto → Prop, Pv 0 [] S1 ∧ (∀ i acc S, i ≤ items.length → Pv i acc S → side S) ∧
  (∀ i x acc S, items[i]? = some x → Pv i acc S → tgD tg x (wipeD ρ vs) S fun ρ2 => t ρ2 S fun c S2 => if c = true then w ρ2 S2 fun y S3 => acc.length < sizeLine ∧ Pv (i + 1) (acc ++ [y]) S3 else Pv (i + 1) acc S2) ∧ ∀ acc S, Pv items.length acc S → Q (.lst acc) S
theorem xo_Lc {wi : WI} {tg : Tg} {t : WT} {w : WE} {vs : List Nat} {ρ : Nv} {S : Sto} {Q : Cell → Sto → Prop} : wLc wi tg t w vs ρ S Q = wi ρ S fun items side S1 => LcP items side tg t w vs ρ S1 Q := rfl
/-! the rest of a reading, held by name: a rule enters it only when it is reached -/
def kQ (Q : QE) (S : Sto) : D → Prop := fun d => Q d S
theorem kQ' (Q : QE) (S : Sto) (d) : kQ Q S d = Q d S := rfl
def kB2 (z : Z2) (x : D) (Q : QE) : QE := fun y S2 => z x y S2 Q
theorem kB2' (z : Z2) (x : D) (Q : QE) (y) (S2) : kB2 z x Q y S2 = z x y S2 Q := rfl
def kB1 (z : Z2) (b : WE) (ρ : Nv) (Q : QE) : QE := fun x S1 => b ρ S1 (kB2 z x Q)
theorem kB1' (z : Z2) (b : WE) (ρ : Nv) (Q : QE) (x) (S1) : kB1 z b ρ Q x S1 = b ρ S1 (kB2 z x Q) := rfl
def kU (z : Z1) (Q : QE) : QE := fun x S1 => z x S1 Q
theorem kU' (z : Z1) (Q : QE) (x) (S1) : kU z Q x S1 = z x S1 Q := rfl
def kC2 (x : D) (Q : List D → Sto → Prop) : List D → Sto → Prop := fun xs S2 => Q (x :: xs) S2
theorem kC2' (x : D) (Q : List D → Sto → Prop) (xs) (S2) : kC2 x Q xs S2 = Q (x :: xs) S2 := rfl
def kC1 (r : WA) (ρ : Nv) (Q : List D → Sto → Prop) : QE := fun x S1 => r ρ S1 (kC2 x Q)
theorem kC1' (r : WA) (ρ : Nv) (Q : List D → Sto → Prop) (x) (S1) : kC1 r ρ Q x S1 = r ρ S1 (kC2 x Q) := rfl
def kZ (z : Zs) (Q : QE) : List D → Sto → Prop := fun xs S1 => z xs S1 Q
theorem kZ' (z : Zs) (Q : QE) (xs) (S1) : kZ z Q xs S1 = z xs S1 Q := rfl
def kTup (Q : QE) : List D → Sto → Prop := fun xs S1 => bP (xs.length ≤ sizeLine) (Q (.tup xs) S1)
theorem kTup' (Q : QE) (xs) (S1) : kTup Q xs S1 = bP (xs.length ≤ sizeLine) (Q (.tup xs) S1) := rfl
def kLst (Q : Cell → Sto → Prop) : List D → Sto → Prop := fun xs S1 => bP (xs.length ≤ sizeLine) (Q (.lst xs) S1)
theorem kLst' (Q : Cell → Sto → Prop) (xs) (S1) : kLst Q xs S1 = bP (xs.length ≤ sizeLine) (Q (.lst xs) S1) := rfl
def kFz (Q : QE) : Cell → Sto → Prop := fun c S1 => bO (fzO c) (kQ Q S1)
theorem kFz' (Q : QE) (c) (S1) : kFz Q c S1 = bO (fzO c) (kQ Q S1) := rfl
def kCl (Q : QE) : Cell → Sto → Prop := fun c S1 => Q (.ref S1.length) (S1 ++ [c])
theorem kCl' (Q : QE) (c) (S1) : kCl Q c S1 = Q (.ref S1.length) (S1 ++ [c]) := rfl
def kBF2 (z : ZF2) (x : D) (Q : Cell → Sto → Prop) : QE := fun y S2 => z x y S2 Q
theorem kBF2' (z : ZF2) (x : D) (Q : Cell → Sto → Prop) (y) (S2) : kBF2 z x Q y S2 = z x y S2 Q := rfl
def kBF1 (z : ZF2) (b : WE) (ρ : Nv) (Q : Cell → Sto → Prop) : QE := fun x S1 => b ρ S1 (kBF2 z x Q)
theorem kBF1' (z : ZF2) (b : WE) (ρ : Nv) (Q : Cell → Sto → Prop) (x) (S1) : kBF1 z b ρ Q x S1 = b ρ S1 (kBF2 z x Q) := rfl
def kZF (z : ZFs) (Q : Cell → Sto → Prop) : List D → Sto → Prop := fun xs S1 => z xs S1 Q
theorem kZF' (z : ZFs) (Q : Cell → Sto → Prop) (xs) (S1) : kZF z Q xs S1 = z xs S1 Q := rfl
def kT (QT : Bool → Sto → Prop) (S : Sto) : Bool → Prop := fun c => QT c S
theorem kT' (QT : Bool → Sto → Prop) (S : Sto) (c) : kT QT S c = QT c S := rfl
def kTb (QT : Bool → Sto → Prop) : QE := fun x S1 => bB x (kT QT S1)
theorem kTb' (QT : Bool → Sto → Prop) (x) (S1) : kTb QT x S1 = bB x (kT QT S1) := rfl
def kAndT (b : WT) (ρ : Nv) (QT : Bool → Sto → Prop) : Bool → Sto → Prop := fun c S1 => bY c (b ρ S1 QT) (QT false S1)
theorem kAndT' (b : WT) (ρ : Nv) (QT : Bool → Sto → Prop) (c) (S1) : kAndT b ρ QT c S1 = bY c (b ρ S1 QT) (QT false S1) := rfl
def kOrT (b : WT) (ρ : Nv) (QT : Bool → Sto → Prop) : Bool → Sto → Prop := fun c S1 => bY c (QT true S1) (b ρ S1 QT)
theorem kOrT' (b : WT) (ρ : Nv) (QT : Bool → Sto → Prop) (c) (S1) : kOrT b ρ QT c S1 = bY c (QT true S1) (b ρ S1 QT) := rfl
def kNotT (QT : Bool → Sto → Prop) : Bool → Sto → Prop := fun c S1 => QT (!c) S1
theorem kNotT' (QT : Bool → Sto → Prop) (c) (S1) : kNotT QT c S1 = QT (!c) S1 := rfl
def kAndV2 (b : WE) (ρ : Nv) (Q : QE) (S1 : Sto) : Bool → Prop := fun c => bY c (b ρ S1 Q) (Q (.bl false) S1)
theorem kAndV2' (b : WE) (ρ : Nv) (Q : QE) (S1 : Sto) (c) : kAndV2 b ρ Q S1 c = bY c (b ρ S1 Q) (Q (.bl false) S1) := rfl
def kAndV (b : WE) (ρ : Nv) (Q : QE) : QE := fun x S1 => bB x (kAndV2 b ρ Q S1)
theorem kAndV' (b : WE) (ρ : Nv) (Q : QE) (x) (S1) : kAndV b ρ Q x S1 = bB x (kAndV2 b ρ Q S1) := rfl
def kOrV2 (b : WE) (ρ : Nv) (Q : QE) (S1 : Sto) : Bool → Prop := fun c => bY c (Q (.bl true) S1) (b ρ S1 Q)
theorem kOrV2' (b : WE) (ρ : Nv) (Q : QE) (S1 : Sto) (c) : kOrV2 b ρ Q S1 c = bY c (Q (.bl true) S1) (b ρ S1 Q) := rfl
def kOrV (b : WE) (ρ : Nv) (Q : QE) : QE := fun x S1 => bB x (kOrV2 b ρ Q S1)
theorem kOrV' (b : WE) (ρ : Nv) (Q : QE) (x) (S1) : kOrV b ρ Q x S1 = bB x (kOrV2 b ρ Q S1) := rfl
def kNotV2 (Q : QE) (S1 : Sto) : Bool → Prop := fun c => Q (.bl (!c)) S1
theorem kNotV2' (Q : QE) (S1 : Sto) (c) : kNotV2 Q S1 c = Q (.bl (!c)) S1 := rfl
def kNotV (Q : QE) : QE := fun x S1 => bB x (kNotV2 Q S1)
theorem kNotV' (Q : QE) (x) (S1) : kNotV Q x S1 = bB x (kNotV2 Q S1) := rfl
def kIfE (a b : WE) (ρ : Nv) (Q : QE) : Bool → Sto → Prop := fun c S1 => bY c (a ρ S1 Q) (b ρ S1 Q)
theorem kIfE' (a b : WE) (ρ : Nv) (Q : QE) (c) (S1) : kIfE a b ρ Q c S1 = bY c (a ρ S1 Q) (b ρ S1 Q) := rfl
def kCh5 (z' : Z2) (y : D) (Q : QE) : QE := fun u S4 => z' y u S4 Q
theorem kCh5' (z' : Z2) (y : D) (Q : QE) (u) (S4) : kCh5 z' y Q u S4 = z' y u S4 Q := rfl
def kCh4 (z' : Z2) (y : D) (c : WE) (ρ : Nv) (Q : QE) (S3 : Sto) : Bool → Prop := fun k => bY k (c ρ S3 (kCh5 z' y Q)) (Q (.bl false) S3)
theorem kCh4' (z' : Z2) (y : D) (c : WE) (ρ : Nv) (Q : QE) (S3 : Sto) (k) : kCh4 z' y c ρ Q S3 k = bY k (c ρ S3 (kCh5 z' y Q)) (Q (.bl false) S3) := rfl
def kCh3 (z' : Z2) (y : D) (c : WE) (ρ : Nv) (Q : QE) : QE := fun r S3 => bB r (kCh4 z' y c ρ Q S3)
theorem kCh3' (z' : Z2) (y : D) (c : WE) (ρ : Nv) (Q : QE) (r) (S3) : kCh3 z' y c ρ Q r S3 = bB r (kCh4 z' y c ρ Q S3) := rfl
def kCh2 (z z' : Z2) (x : D) (c : WE) (ρ : Nv) (Q : QE) : QE := fun y S2 => z x y S2 (kCh3 z' y c ρ Q)
theorem kCh2' (z z' : Z2) (x : D) (c : WE) (ρ : Nv) (Q : QE) (y) (S2) : kCh2 z z' x c ρ Q y S2 = z x y S2 (kCh3 z' y c ρ Q) := rfl
def kCh1 (z z' : Z2) (b c : WE) (ρ : Nv) (Q : QE) : QE := fun x S1 => b ρ S1 (kCh2 z z' x c ρ Q)
theorem kCh1' (z z' : Z2) (b c : WE) (ρ : Nv) (Q : QE) (x) (S1) : kCh1 z z' b c ρ Q x S1 = b ρ S1 (kCh2 z z' x c ρ Q) := rfl
def kI2 (C : Int → Int → Prop) (g : Int → Int → Int) (i : Int) (S : Sto) (Q : QE) : Int → Prop := fun j => bP (C i j) (Q (.int (g i j)) S)
theorem kI2' (C : Int → Int → Prop) (g : Int → Int → Int) (i : Int) (S : Sto) (Q : QE) (j) : kI2 C g i S Q j = bP (C i j) (Q (.int (g i j)) S) := rfl
def kI1 (C : Int → Int → Prop) (g : Int → Int → Int) (y : D) (S : Sto) (Q : QE) : Int → Prop := fun i => bI y (kI2 C g i S Q)
theorem kI1' (C : Int → Int → Prop) (g : Int → Int → Int) (y : D) (S : Sto) (Q : QE) (i) : kI1 C g y S Q i = bI y (kI2 C g i S Q) := rfl
def kIb2 (g : Int → Int → Bool) (i : Int) (S : Sto) (Q : QE) : Int → Prop := fun j => Q (.bl (g i j)) S
theorem kIb2' (g : Int → Int → Bool) (i : Int) (S : Sto) (Q : QE) (j) : kIb2 g i S Q j = Q (.bl (g i j)) S := rfl
def kIb1 (g : Int → Int → Bool) (y : D) (S : Sto) (Q : QE) : Int → Prop := fun i => bI y (kIb2 g i S Q)
theorem kIb1' (g : Int → Int → Bool) (y : D) (S : Sto) (Q : QE) (i) : kIb1 g y S Q i = bI y (kIb2 g i S Q) := rfl
def kCat2 (S : Sto) (as : List D) (Q : Cell → Sto → Prop) : List D → Prop := fun bs => bP (as.length + bs.length ≤ sizeLine) (Q (.lst (as ++ bs)) S)
theorem kCat2' (S : Sto) (as : List D) (Q : Cell → Sto → Prop) (bs) : kCat2 S as Q bs = bP (as.length + bs.length ≤ sizeLine) (Q (.lst (as ++ bs)) S) := rfl
def kCat1 (S : Sto) (y : D) (Q : Cell → Sto → Prop) : List D → Prop := fun as => bO (lstOf S y) (kCat2 S as Q)
theorem kCat1' (S : Sto) (y : D) (Q : Cell → Sto → Prop) (as) : kCat1 S y Q as = bO (lstOf S y) (kCat2 S as Q) := rfl
def kRep2 (S : Sto) (as : List D) (Q : Cell → Sto → Prop) : Int → Prop := fun n => bP ((-(2 ^ 63) ≤ n ∧ n < 2 ^ 63) ∧ as.length * n.toNat ≤ sizeLine) (Q (.lst (List.replicate n.toNat as).flatten) S)
theorem kRep2' (S : Sto) (as : List D) (Q : Cell → Sto → Prop) (n) : kRep2 S as Q n = bP ((-(2 ^ 63) ≤ n ∧ n < 2 ^ 63) ∧ as.length * n.toNat ≤ sizeLine) (Q (.lst (List.replicate n.toNat as).flatten) S) := rfl
def kRep1 (S : Sto) (y : D) (Q : Cell → Sto → Prop) : List D → Prop := fun as => bI y (kRep2 S as Q)
theorem kRep1' (S : Sto) (y : D) (Q : Cell → Sto → Prop) (as) : kRep1 S y Q as = bI y (kRep2 S as Q) := rfl
def kNeg (S : Sto) (Q : QE) : Int → Prop := fun i => Q (.int (-i)) S
theorem kNeg' (S : Sto) (Q : QE) (i) : kNeg S Q i = Q (.int (-i)) S := rfl
def kIx2 (S : Sto) (ds : List D) (Q : QE) : Int → Prop := fun i => bO (atI ds i) (kQ Q S)
theorem kIx2' (S : Sto) (ds : List D) (Q : QE) (i) : kIx2 S ds Q i = bO (atI ds i) (kQ Q S) := rfl
def kIx1 (S : Sto) (y : D) (Q : QE) : List D → Prop := fun ds => bI y (kIx2 S ds Q)
theorem kIx1' (S : Sto) (y : D) (Q : QE) (ds) : kIx1 S y Q ds = bI y (kIx2 S ds Q) := rfl
def kSo2 (Q : Option Int → Sto → Prop) (S1 : Sto) : Int → Prop := fun i => Q (some i) S1
theorem kSo2' (Q : Option Int → Sto → Prop) (S1 : Sto) (i) : kSo2 Q S1 i = Q (some i) S1 := rfl
def kSo (Q : Option Int → Sto → Prop) : QE := fun x S1 => bI x (kSo2 Q S1)
theorem kSo' (Q : Option Int → Sto → Prop) (x) (S1) : kSo Q x S1 = bI x (kSo2 Q S1) := rfl
def kSl4 (a b : Option Int) (S3 : Sto) (Q : QE) : List D → Prop := fun ds => Q (.tup (cutD ds a b)) S3
theorem kSl4' (a b : Option Int) (S3 : Sto) (Q : QE) (ds) : kSl4 a b S3 Q ds = Q (.tup (cutD ds a b)) S3 := rfl
def kSl3 (x : D) (a : Option Int) (Q : QE) : Option Int → Sto → Prop := fun b S3 => bO (tupOf x) (kSl4 a b S3 Q)
theorem kSl3' (x : D) (a : Option Int) (Q : QE) (b) (S3) : kSl3 x a Q b S3 = bO (tupOf x) (kSl4 a b S3 Q) := rfl
def kSl2 (x : D) (hi : WO) (ρ : Nv) (Q : QE) : Option Int → Sto → Prop := fun a S2 => hi ρ S2 (kSl3 x a Q)
theorem kSl2' (x : D) (hi : WO) (ρ : Nv) (Q : QE) (a) (S2) : kSl2 x hi ρ Q a S2 = hi ρ S2 (kSl3 x a Q) := rfl
def kSl1 (lo hi : WO) (ρ : Nv) (Q : QE) : QE := fun x S1 => lo ρ S1 (kSl2 x hi ρ Q)
theorem kSl1' (lo hi : WO) (ρ : Nv) (Q : QE) (x) (S1) : kSl1 lo hi ρ Q x S1 = lo ρ S1 (kSl2 x hi ρ Q) := rfl
def kSm4 (a b : Option Int) (S3 : Sto) (Q : Cell → Sto → Prop) : List D → Prop := fun ds => Q (.lst (cutD ds a b)) S3
theorem kSm4' (a b : Option Int) (S3 : Sto) (Q : Cell → Sto → Prop) (ds) : kSm4 a b S3 Q ds = Q (.lst (cutD ds a b)) S3 := rfl
def kSm3 (x : D) (a : Option Int) (Q : Cell → Sto → Prop) : Option Int → Sto → Prop := fun b S3 => bO (lstOf S3 x) (kSm4 a b S3 Q)
theorem kSm3' (x : D) (a : Option Int) (Q : Cell → Sto → Prop) (b) (S3) : kSm3 x a Q b S3 = bO (lstOf S3 x) (kSm4 a b S3 Q) := rfl
def kSm2 (x : D) (hi : WO) (ρ : Nv) (Q : Cell → Sto → Prop) : Option Int → Sto → Prop := fun a S2 => hi ρ S2 (kSm3 x a Q)
theorem kSm2' (x : D) (hi : WO) (ρ : Nv) (Q : Cell → Sto → Prop) (a) (S2) : kSm2 x hi ρ Q a S2 = hi ρ S2 (kSm3 x a Q) := rfl
def kSm1 (lo hi : WO) (ρ : Nv) (Q : Cell → Sto → Prop) : QE := fun x S1 => lo ρ S1 (kSm2 x hi ρ Q)
theorem kSm1' (lo hi : WO) (ρ : Nv) (Q : Cell → Sto → Prop) (x) (S1) : kSm1 lo hi ρ Q x S1 = lo ρ S1 (kSm2 x hi ρ Q) := rfl
def kRev2 (S1 : Sto) (Q : Cell → Sto → Prop) : List D → Prop := fun ds => Q (.lst ds.reverse) S1
theorem kRev2' (S1 : Sto) (Q : Cell → Sto → Prop) (ds) : kRev2 S1 Q ds = Q (.lst ds.reverse) S1 := rfl
def kRev (Q : Cell → Sto → Prop) : QE := fun x S1 => bO (lstOf S1 x) (kRev2 S1 Q)
theorem kRev' (Q : Cell → Sto → Prop) (x) (S1) : kRev Q x S1 = bO (lstOf S1 x) (kRev2 S1 Q) := rfl
def kIn3 (S : Sto) (i : Int) (Q : QE) : List Int → Prop := fun ns => Q (.bl (decide (i ∈ ns))) S
theorem kIn3' (S : Sto) (i : Int) (Q : QE) (ns) : kIn3 S i Q ns = Q (.bl (decide (i ∈ ns))) S := rfl
def kIn2 (S : Sto) (i : Int) (Q : QE) : List D → Prop := fun ds => bO (intsOf ds) (kIn3 S i Q)
theorem kIn2' (S : Sto) (i : Int) (Q : QE) (ds) : kIn2 S i Q ds = bO (intsOf ds) (kIn3 S i Q) := rfl
def kIn1 (S : Sto) (y : D) (Q : QE) : Int → Prop := fun i => bO (seqOf S y) (kIn2 S i Q)
theorem kIn1' (S : Sto) (y : D) (Q : QE) (i) : kIn1 S y Q i = bO (seqOf S y) (kIn2 S i Q) := rfl
def kNi3 (S : Sto) (i : Int) (Q : QE) : List Int → Prop := fun ns => Q (.bl (!decide (i ∈ ns))) S
theorem kNi3' (S : Sto) (i : Int) (Q : QE) (ns) : kNi3 S i Q ns = Q (.bl (!decide (i ∈ ns))) S := rfl
def kNi2 (S : Sto) (i : Int) (Q : QE) : List D → Prop := fun ds => bO (intsOf ds) (kNi3 S i Q)
theorem kNi2' (S : Sto) (i : Int) (Q : QE) (ds) : kNi2 S i Q ds = bO (intsOf ds) (kNi3 S i Q) := rfl
def kNi1 (S : Sto) (y : D) (Q : QE) : Int → Prop := fun i => bO (seqOf S y) (kNi2 S i Q)
theorem kNi1' (S : Sto) (y : D) (Q : QE) (i) : kNi1 S y Q i = bO (seqOf S y) (kNi2 S i Q) := rfl
def kIs2 (S : Sto) (a : Bool) (Q : QE) : Bool → Prop := fun b => Q (.bl (decide (a = b))) S
theorem kIs2' (S : Sto) (a : Bool) (Q : QE) (b) : kIs2 S a Q b = Q (.bl (decide (a = b))) S := rfl
def kIs1 (S : Sto) (y : D) (Q : QE) : Bool → Prop := fun a => bB y (kIs2 S a Q)
theorem kIs1' (S : Sto) (y : D) (Q : QE) (a) : kIs1 S y Q a = bB y (kIs2 S a Q) := rfl
def kNb2 (S : Sto) (a : Bool) (Q : QE) : Bool → Prop := fun b => Q (.bl (!decide (a = b))) S
theorem kNb2' (S : Sto) (a : Bool) (Q : QE) (b) : kNb2 S a Q b = Q (.bl (!decide (a = b))) S := rfl
def kNb1 (S : Sto) (y : D) (Q : QE) : Bool → Prop := fun a => bB y (kNb2 S a Q)
theorem kNb1' (S : Sto) (y : D) (Q : QE) (a) : kNb1 S y Q a = bB y (kNb2 S a Q) := rfl
def kLen (S : Sto) (Q : QE) : List D → Prop := fun ds => Q (.int (ds.length : Nat)) S
theorem kLen' (S : Sto) (Q : QE) (ds) : kLen S Q ds = Q (.int (ds.length : Nat)) S := rfl
def kMax2 (S : Sto) (Q : QE) : List Int → Prop := fun ns => bP (0 < ns.length) (∀ m, m ∈ ns → (∀ y, y ∈ ns → y ≤ m) → Q (.int m) S)
theorem kMax2' (S : Sto) (Q : QE) (ns) : kMax2 S Q ns = bP (0 < ns.length) (∀ m, m ∈ ns → (∀ y, y ∈ ns → y ≤ m) → Q (.int m) S) := rfl
def kMax1 (S : Sto) (Q : QE) : List D → Prop := fun ds => bO (intsOf ds) (kMax2 S Q)
theorem kMax1' (S : Sto) (Q : QE) (ds) : kMax1 S Q ds = bO (intsOf ds) (kMax2 S Q) := rfl
def kMin2 (S : Sto) (Q : QE) : List Int → Prop := fun ns => bP (0 < ns.length) (∀ m, m ∈ ns → (∀ y, y ∈ ns → m ≤ y) → Q (.int m) S)
theorem kMin2' (S : Sto) (Q : QE) (ns) : kMin2 S Q ns = bP (0 < ns.length) (∀ m, m ∈ ns → (∀ y, y ∈ ns → m ≤ y) → Q (.int m) S) := rfl
def kMin1 (S : Sto) (Q : QE) : List D → Prop := fun ds => bO (intsOf ds) (kMin2 S Q)
theorem kMin1' (S : Sto) (Q : QE) (ds) : kMin1 S Q ds = bO (intsOf ds) (kMin2 S Q) := rfl
def kSum2 (S : Sto) (Q : QE) : List Int → Prop := fun ns => Q (.int ns.sum) S
theorem kSum2' (S : Sto) (Q : QE) (ns) : kSum2 S Q ns = Q (.int ns.sum) S := rfl
def kSum1 (S : Sto) (Q : QE) : List D → Prop := fun ds => bO (intsOf ds) (kSum2 S Q)
theorem kSum1' (S : Sto) (Q : QE) (ds) : kSum1 S Q ds = bO (intsOf ds) (kSum2 S Q) := rfl
def kAll2 (S : Sto) (Q : QE) : List Bool → Prop := fun ns => Q (.bl (ns.all id)) S
theorem kAll2' (S : Sto) (Q : QE) (ns) : kAll2 S Q ns = Q (.bl (ns.all id)) S := rfl
def kAll1 (S : Sto) (Q : QE) : List D → Prop := fun ds => bO (blsOf ds) (kAll2 S Q)
theorem kAll1' (S : Sto) (Q : QE) (ds) : kAll1 S Q ds = bO (blsOf ds) (kAll2 S Q) := rfl
def kAny2 (S : Sto) (Q : QE) : List Bool → Prop := fun ns => Q (.bl (ns.any id)) S
theorem kAny2' (S : Sto) (Q : QE) (ns) : kAny2 S Q ns = Q (.bl (ns.any id)) S := rfl
def kAny1 (S : Sto) (Q : QE) : List D → Prop := fun ds => bO (blsOf ds) (kAny2 S Q)
theorem kAny1' (S : Sto) (Q : QE) (ds) : kAny1 S Q ds = bO (blsOf ds) (kAny2 S Q) := rfl
def kList (S : Sto) (Q : Cell → Sto → Prop) : List D → Prop := fun ds => Q (.lst ds) S
theorem kList' (S : Sto) (Q : Cell → Sto → Prop) (ds) : kList S Q ds = Q (.lst ds) S := rfl
def kTuple (S : Sto) (Q : QE) : List D → Prop := fun ds => Q (.tup ds) S
theorem kTuple' (S : Sto) (Q : QE) (ds) : kTuple S Q ds = Q (.tup ds) S := rfl
def kSrt2 (S : Sto) (Q : Cell → Sto → Prop) : List Int → Prop := fun ns => ∀ ns' : List Int, ns'.Perm ns → ns'.Pairwise (· ≤ ·) → Q (.lst (ns'.map D.int)) S
theorem kSrt2' (S : Sto) (Q : Cell → Sto → Prop) (ns) : kSrt2 S Q ns = ∀ ns' : List Int, ns'.Perm ns → ns'.Pairwise (· ≤ ·) → Q (.lst (ns'.map D.int)) S := rfl
def kSrt1 (S : Sto) (Q : Cell → Sto → Prop) : List D → Prop := fun ds => bO (intsOf ds) (kSrt2 S Q)
theorem kSrt1' (S : Sto) (Q : Cell → Sto → Prop) (ds) : kSrt1 S Q ds = bO (intsOf ds) (kSrt2 S Q) := rfl
def kM2 (z : Zm) (x : D) (Q : QE) : List D → Sto → Prop := fun xs S2 => z x xs S2 Q
theorem kM2' (z : Zm) (x : D) (Q : QE) (xs) (S2) : kM2 z x Q xs S2 = z x xs S2 Q := rfl
def kM1 (z : Zm) (a : WA) (ρ : Nv) (Q : QE) : QE := fun x S1 => bP ((lstOf S1 x).isSome = true) (a ρ S1 (kM2 z x Q))
theorem kM1' (z : Zm) (a : WA) (ρ : Nv) (Q : QE) (x) (S1) : kM1 z a ρ Q x S1 = bP ((lstOf S1 x).isSome = true) (a ρ S1 (kM2 z x Q)) := rfl
def kM0 (z : Zm) (Q : QE) : QE := fun x S1 => bP ((lstOf S1 x).isSome = true) (z x [] S1 Q)
theorem kM0' (z : Zm) (Q : QE) (x) (S1) : kM0 z Q x S1 = bP ((lstOf S1 x).isSome = true) (z x [] S1 Q) := rfl
def kAp2 (S : Sto) (l : Nat) (y : D) (Q : QE) : List D → Prop := fun ds => bP (ds.length < sizeLine) (Q .non (S.set l (.lst (ds ++ [y]))))
theorem kAp2' (S : Sto) (l : Nat) (y : D) (Q : QE) (ds) : kAp2 S l y Q ds = bP (ds.length < sizeLine) (Q .non (S.set l (.lst (ds ++ [y])))) := rfl
def kAp1 (S : Sto) (y : D) (Q : QE) : Nat → Prop := fun l => bO (S[l]?.bind clL) (kAp2 S l y Q)
theorem kAp1' (S : Sto) (y : D) (Q : QE) (l) : kAp1 S y Q l = bO (S[l]?.bind clL) (kAp2 S l y Q) := rfl
def kPop3 (S : Sto) (l : Nat) (ds : List D) (Q : QE) : D → Prop := fun y => Q y (S.set l (.lst ds.dropLast))
theorem kPop3' (S : Sto) (l : Nat) (ds : List D) (Q : QE) (y) : kPop3 S l ds Q y = Q y (S.set l (.lst ds.dropLast)) := rfl
def kPop2 (S : Sto) (l : Nat) (Q : QE) : List D → Prop := fun ds => bO (ds[ds.length - 1]?) (kPop3 S l ds Q)
theorem kPop2' (S : Sto) (l : Nat) (Q : QE) (ds) : kPop2 S l Q ds = bO (ds[ds.length - 1]?) (kPop3 S l ds Q) := rfl
def kPop1 (S : Sto) (Q : QE) : Nat → Prop := fun l => bO (S[l]?.bind clL) (kPop2 S l Q)
theorem kPop1' (S : Sto) (Q : QE) (l) : kPop1 S Q l = bO (S[l]?.bind clL) (kPop2 S l Q) := rfl
def kPa5 (S : Sto) (l : Nat) (ds : List D) (j : Nat) (Q : QE) : D → Prop := fun y => Q y (S.set l (.lst (ds.eraseIdx j)))
theorem kPa5' (S : Sto) (l : Nat) (ds : List D) (j : Nat) (Q : QE) (y) : kPa5 S l ds j Q y = Q y (S.set l (.lst (ds.eraseIdx j))) := rfl
def kPa4 (S : Sto) (l : Nat) (ds : List D) (Q : QE) : Nat → Prop := fun j => bO (ds[j]?) (kPa5 S l ds j Q)
theorem kPa4' (S : Sto) (l : Nat) (ds : List D) (Q : QE) (j) : kPa4 S l ds Q j = bO (ds[j]?) (kPa5 S l ds j Q) := rfl
def kPa3 (S : Sto) (l : Nat) (ds : List D) (Q : QE) : Int → Prop := fun i => bP (-(2 ^ 63) ≤ i ∧ i < 2 ^ 63) (bO (ixN ds.length i) (kPa4 S l ds Q))
theorem kPa3' (S : Sto) (l : Nat) (ds : List D) (Q : QE) (i) : kPa3 S l ds Q i = bP (-(2 ^ 63) ≤ i ∧ i < 2 ^ 63) (bO (ixN ds.length i) (kPa4 S l ds Q)) := rfl
def kPa2 (S : Sto) (l : Nat) (y : D) (Q : QE) : List D → Prop := fun ds => bI y (kPa3 S l ds Q)
theorem kPa2' (S : Sto) (l : Nat) (y : D) (Q : QE) (ds) : kPa2 S l y Q ds = bI y (kPa3 S l ds Q) := rfl
def kPa1 (S : Sto) (y : D) (Q : QE) : Nat → Prop := fun l => bO (S[l]?.bind clL) (kPa2 S l y Q)
theorem kPa1' (S : Sto) (y : D) (Q : QE) (l) : kPa1 S y Q l = bO (S[l]?.bind clL) (kPa2 S l y Q) := rfl
def kRv2 (S : Sto) (l : Nat) (Q : QE) : List D → Prop := fun ds => Q .non (S.set l (.lst ds.reverse))
theorem kRv2' (S : Sto) (l : Nat) (Q : QE) (ds) : kRv2 S l Q ds = Q .non (S.set l (.lst ds.reverse)) := rfl
def kRv1 (S : Sto) (Q : QE) : Nat → Prop := fun l => bO (S[l]?.bind clL) (kRv2 S l Q)
theorem kRv1' (S : Sto) (Q : QE) (l) : kRv1 S Q l = bO (S[l]?.bind clL) (kRv2 S l Q) := rfl
def kFld2 (C : Addr) (ks : List Str) (i : Nat) (S1 : Sto) (Q : QE) : Addr × List Str × List D → Prop := fun t => bP (t.1 = C ∧ t.2.1 = ks) (bO (t.2.2[i]?) (kQ Q S1))
theorem kFld2' (C : Addr) (ks : List Str) (i : Nat) (S1 : Sto) (Q : QE) (t) : kFld2 C ks i S1 Q t = bP (t.1 = C ∧ t.2.1 = ks) (bO (t.2.2[i]?) (kQ Q S1)) := rfl
def kFld1 (C : Addr) (ks : List Str) (i : Nat) (Q : QE) : QE := fun x S1 => bO (insOf S1 x) (kFld2 C ks i S1 Q)
theorem kFld1' (C : Addr) (ks : List Str) (i : Nat) (Q : QE) (x) (S1) : kFld1 C ks i Q x S1 = bO (insOf S1 x) (kFld2 C ks i S1 Q) := rfl
def kFn4 (C : Addr) (ks : List Str) (f : Str) (y : D) (E : Es) (ρ : Nv) (S2 : Sto) (l : Nat) : Addr × List Str × List D → Prop := fun t => bP (t.1 = C ∧ t.2.1 = ks) (E.nx ρ (S2.set l (.ins C (ks ++ [f]) (t.2.2 ++ [y]))))
theorem kFn4' (C : Addr) (ks : List Str) (f : Str) (y : D) (E : Es) (ρ : Nv) (S2 : Sto) (l : Nat) (t) : kFn4 C ks f y E ρ S2 l t = bP (t.1 = C ∧ t.2.1 = ks) (E.nx ρ (S2.set l (.ins C (ks ++ [f]) (t.2.2 ++ [y])))) := rfl
def kFn3 (C : Addr) (ks : List Str) (f : Str) (y : D) (E : Es) (ρ : Nv) (S2 : Sto) : Nat → Prop := fun l => bO (S2[l]?.bind clI) (kFn4 C ks f y E ρ S2 l)
theorem kFn3' (C : Addr) (ks : List Str) (f : Str) (y : D) (E : Es) (ρ : Nv) (S2 : Sto) (l) : kFn3 C ks f y E ρ S2 l = bO (S2[l]?.bind clI) (kFn4 C ks f y E ρ S2 l) := rfl
def kFn2 (C : Addr) (ks : List Str) (f : Str) (y : D) (E : Es) (ρ : Nv) : QE := fun x S2 => bL x (kFn3 C ks f y E ρ S2)
theorem kFn2' (C : Addr) (ks : List Str) (f : Str) (y : D) (E : Es) (ρ : Nv) (x) (S2) : kFn2 C ks f y E ρ x S2 = bL x (kFn3 C ks f y E ρ S2) := rfl
def kFn1 (C : Addr) (ks : List Str) (f : Str) (wo : WE) (E : Es) (ρ : Nv) : QE := fun y S1 => wo ρ S1 (kFn2 C ks f y E ρ)
theorem kFn1' (C : Addr) (ks : List Str) (f : Str) (wo : WE) (E : Es) (ρ : Nv) (y) (S1) : kFn1 C ks f wo E ρ y S1 = wo ρ S1 (kFn2 C ks f y E ρ) := rfl
def kFs4 (C : Addr) (ks : List Str) (i : Nat) (y : D) (E : Es) (ρ : Nv) (S2 : Sto) (l : Nat) : Addr × List Str × List D → Prop := fun t => bP (t.1 = C ∧ t.2.1 = ks) (E.nx ρ (S2.set l (.ins C ks (t.2.2.set i y))))
theorem kFs4' (C : Addr) (ks : List Str) (i : Nat) (y : D) (E : Es) (ρ : Nv) (S2 : Sto) (l : Nat) (t) : kFs4 C ks i y E ρ S2 l t = bP (t.1 = C ∧ t.2.1 = ks) (E.nx ρ (S2.set l (.ins C ks (t.2.2.set i y)))) := rfl
def kFs3 (C : Addr) (ks : List Str) (i : Nat) (y : D) (E : Es) (ρ : Nv) (S2 : Sto) : Nat → Prop := fun l => bO (S2[l]?.bind clI) (kFs4 C ks i y E ρ S2 l)
theorem kFs3' (C : Addr) (ks : List Str) (i : Nat) (y : D) (E : Es) (ρ : Nv) (S2 : Sto) (l) : kFs3 C ks i y E ρ S2 l = bO (S2[l]?.bind clI) (kFs4 C ks i y E ρ S2 l) := rfl
def kFs2 (C : Addr) (ks : List Str) (i : Nat) (y : D) (E : Es) (ρ : Nv) : QE := fun x S2 => bL x (kFs3 C ks i y E ρ S2)
theorem kFs2' (C : Addr) (ks : List Str) (i : Nat) (y : D) (E : Es) (ρ : Nv) (x) (S2) : kFs2 C ks i y E ρ x S2 = bL x (kFs3 C ks i y E ρ S2) := rfl
def kFs1 (C : Addr) (ks : List Str) (i : Nat) (wo : WE) (E : Es) (ρ : Nv) : QE := fun y S1 => wo ρ S1 (kFs2 C ks i y E ρ)
theorem kFs1' (C : Addr) (ks : List Str) (i : Nat) (wo : WE) (E : Es) (ρ : Nv) (y) (S1) : kFs1 C ks i wo E ρ y S1 = wo ρ S1 (kFs2 C ks i y E ρ) := rfl
def kFa7 (C : Addr) (ks : List Str) (i : Nat) (n m : Int) (E : Es) (ρ : Nv) (S2 : Sto) (l : Nat) : Addr × List Str × List D → Prop := fun t => bP (t.1 = C ∧ t.2.1 = ks) (E.nx ρ (S2.set l (.ins C ks (t.2.2.set i (.int (n + m))))))
theorem kFa7' (C : Addr) (ks : List Str) (i : Nat) (n m : Int) (E : Es) (ρ : Nv) (S2 : Sto) (l : Nat) (t) : kFa7 C ks i n m E ρ S2 l t = bP (t.1 = C ∧ t.2.1 = ks) (E.nx ρ (S2.set l (.ins C ks (t.2.2.set i (.int (n + m)))))) := rfl
def kFa6 (C : Addr) (ks : List Str) (i : Nat) (n : Int) (E : Es) (ρ : Nv) (S2 : Sto) (l : Nat) : Int → Prop := fun m => bO (S2[l]?.bind clI) (kFa7 C ks i n m E ρ S2 l)
theorem kFa6' (C : Addr) (ks : List Str) (i : Nat) (n : Int) (E : Es) (ρ : Nv) (S2 : Sto) (l : Nat) (m) : kFa6 C ks i n E ρ S2 l m = bO (S2[l]?.bind clI) (kFa7 C ks i n m E ρ S2 l) := rfl
def kFa5 (C : Addr) (ks : List Str) (i : Nat) (n : Int) (E : Es) (ρ : Nv) (l : Nat) : QE := fun y S2 => bI y (kFa6 C ks i n E ρ S2 l)
theorem kFa5' (C : Addr) (ks : List Str) (i : Nat) (n : Int) (E : Es) (ρ : Nv) (l : Nat) (y) (S2) : kFa5 C ks i n E ρ l y S2 = bI y (kFa6 C ks i n E ρ S2 l) := rfl
def kFa4 (C : Addr) (ks : List Str) (i : Nat) (wv : WE) (E : Es) (ρ : Nv) (S1 : Sto) (l : Nat) : Int → Prop := fun n => wv ρ S1 (kFa5 C ks i n E ρ l)
theorem kFa4' (C : Addr) (ks : List Str) (i : Nat) (wv : WE) (E : Es) (ρ : Nv) (S1 : Sto) (l : Nat) (n) : kFa4 C ks i wv E ρ S1 l n = wv ρ S1 (kFa5 C ks i n E ρ l) := rfl
def kFa35 (C : Addr) (ks : List Str) (i : Nat) (wv : WE) (E : Es) (ρ : Nv) (S1 : Sto) (l : Nat) : D → Prop := fun u => bI u (kFa4 C ks i wv E ρ S1 l)
theorem kFa35' (C : Addr) (ks : List Str) (i : Nat) (wv : WE) (E : Es) (ρ : Nv) (S1 : Sto) (l : Nat) (u) : kFa35 C ks i wv E ρ S1 l u = bI u (kFa4 C ks i wv E ρ S1 l) := rfl
def kFa3 (C : Addr) (ks : List Str) (i : Nat) (wv : WE) (E : Es) (ρ : Nv) (S1 : Sto) (l : Nat) : Addr × List Str × List D → Prop := fun t => bP (t.1 = C ∧ t.2.1 = ks) (bO (t.2.2[i]?) (kFa35 C ks i wv E ρ S1 l))
theorem kFa3' (C : Addr) (ks : List Str) (i : Nat) (wv : WE) (E : Es) (ρ : Nv) (S1 : Sto) (l : Nat) (t) : kFa3 C ks i wv E ρ S1 l t = bP (t.1 = C ∧ t.2.1 = ks) (bO (t.2.2[i]?) (kFa35 C ks i wv E ρ S1 l)) := rfl
def kFa2 (C : Addr) (ks : List Str) (i : Nat) (wv : WE) (E : Es) (ρ : Nv) (S1 : Sto) : Nat → Prop := fun l => bO (S1[l]?.bind clI) (kFa3 C ks i wv E ρ S1 l)
theorem kFa2' (C : Addr) (ks : List Str) (i : Nat) (wv : WE) (E : Es) (ρ : Nv) (S1 : Sto) (l) : kFa2 C ks i wv E ρ S1 l = bO (S1[l]?.bind clI) (kFa3 C ks i wv E ρ S1 l) := rfl
def kFa1 (C : Addr) (ks : List Str) (i : Nat) (wv : WE) (E : Es) (ρ : Nv) : QE := fun x S1 => bL x (kFa2 C ks i wv E ρ S1)
theorem kFa1' (C : Addr) (ks : List Str) (i : Nat) (wv : WE) (E : Es) (ρ : Nv) (x) (S1) : kFa1 C ks i wv E ρ x S1 = bL x (kFa2 C ks i wv E ρ S1) := rfl
def kCall (n : Nat) (F : Pr) (Q : QE) : List D → Sto → Prop := fun ds S1 => bP (ds.length = n) (F ds S1 Q)
theorem kCall' (n : Nat) (F : Pr) (Q : QE) (ds) (S1) : kCall n F Q ds S1 = bP (ds.length = n) (F ds S1 Q) := rfl
def kMt3 (n : Nat) (F : Pr) (x : D) (Q : QE) : List D → Sto → Prop := fun ds S2 => bP (ds.length + 1 = n) (F (x :: ds) S2 Q)
theorem kMt3' (n : Nat) (F : Pr) (x : D) (Q : QE) (ds) (S2) : kMt3 n F x Q ds S2 = bP (ds.length + 1 = n) (F (x :: ds) S2 Q) := rfl
def kMt2 (C : Addr) (ks : List Str) (n : Nat) (F : Pr) (a : WA) (ρ : Nv) (Q : QE) (x : D) (S1 : Sto) : Addr × List Str × List D → Prop := fun t => bP (t.1 = C ∧ t.2.1 = ks) (a ρ S1 (kMt3 n F x Q))
theorem kMt2' (C : Addr) (ks : List Str) (n : Nat) (F : Pr) (a : WA) (ρ : Nv) (Q : QE) (x : D) (S1 : Sto) (t) : kMt2 C ks n F a ρ Q x S1 t = bP (t.1 = C ∧ t.2.1 = ks) (a ρ S1 (kMt3 n F x Q)) := rfl
def kMt1 (C : Addr) (ks : List Str) (n : Nat) (F : Pr) (a : WA) (ρ : Nv) (Q : QE) : QE := fun x S1 => bO (insOf S1 x) (kMt2 C ks n F a ρ Q x S1)
theorem kMt1' (C : Addr) (ks : List Str) (n : Nat) (F : Pr) (a : WA) (ρ : Nv) (Q : QE) (x) (S1) : kMt1 C ks n F a ρ Q x S1 = bO (insOf S1 x) (kMt2 C ks n F a ρ Q x S1) := rfl
def kMk2 (Q : QE) (l : Nat) : QE := fun d S2 => bN d (Q (.ref l) S2)
theorem kMk2' (Q : QE) (l : Nat) (d) (S2) : kMk2 Q l d S2 = bN d (Q (.ref l) S2) := rfl
def kMk1 (C : Addr) (n : Nat) (F : Pr) (Q : QE) : List D → Sto → Prop := fun ds S1 => bP (ds.length + 1 = n) (F (.ref S1.length :: ds) (S1 ++ [.ins C [] []]) (kMk2 Q S1.length))
theorem kMk1' (C : Addr) (n : Nat) (F : Pr) (Q : QE) (ds) (S1) : kMk1 C n F Q ds S1 = bP (ds.length + 1 = n) (F (.ref S1.length :: ds) (S1 ++ [.ins C [] []]) (kMk2 Q S1.length)) := rfl
def kFrz3 (S1 : Sto) (l : Nat) (Q : QE) : D → Prop := fun d => Q d (S1.set l .dead)
theorem kFrz3' (S1 : Sto) (l : Nat) (Q : QE) (d) : kFrz3 S1 l Q d = Q d (S1.set l .dead) := rfl
def kFrz2 (S1 : Sto) (Q : QE) : Nat → Prop := fun l => bO (S1[l]?.bind fzO) (kFrz3 S1 l Q)
theorem kFrz2' (S1 : Sto) (Q : QE) (l) : kFrz2 S1 Q l = bO (S1[l]?.bind fzO) (kFrz3 S1 l Q) := rfl
def kFrz1 (Q : QE) : QE := fun x S1 => bL x (kFrz2 S1 Q)
theorem kFrz1' (Q : QE) (x) (S1) : kFrz1 Q x S1 = bL x (kFrz2 S1 Q) := rfl
def kGs (r : WGs) (ds : List D) (QN : Nv → Sto → Prop) : Nv → Sto → Prop := fun ρ1 S1 => r ds ρ1 S1 QN
theorem kGs' (r : WGs) (ds : List D) (QN : Nv → Sto → Prop) (ρ1) (S1) : kGs r ds QN ρ1 S1 = r ds ρ1 S1 QN := rfl
def kGt (n : Nat) (r : WGs) (ρ : Nv) (S : Sto) (QN : Nv → Sto → Prop) : List D → Prop := fun ds => bP (ds.length = n) (r ds ρ S QN)
theorem kGt' (n : Nat) (r : WGs) (ρ : Nv) (S : Sto) (QN : Nv → Sto → Prop) (ds) : kGt n r ρ S QN ds = bP (ds.length = n) (r ds ρ S QN) := rfl
def kGi6 (ds : List D) (d : D) (ρ : Nv) (S2 : Sto) (l : Nat) (QN : Nv → Sto → Prop) : Nat → Prop := fun j => QN ρ (S2.set l (.lst (ds.set j d)))
theorem kGi6' (ds : List D) (d : D) (ρ : Nv) (S2 : Sto) (l : Nat) (QN : Nv → Sto → Prop) (j) : kGi6 ds d ρ S2 l QN j = QN ρ (S2.set l (.lst (ds.set j d))) := rfl
def kGi5 (ds : List D) (d : D) (ρ : Nv) (S2 : Sto) (l : Nat) (QN : Nv → Sto → Prop) : Int → Prop := fun n => bO (ixN ds.length n) (kGi6 ds d ρ S2 l QN)
theorem kGi5' (ds : List D) (d : D) (ρ : Nv) (S2 : Sto) (l : Nat) (QN : Nv → Sto → Prop) (n) : kGi5 ds d ρ S2 l QN n = bO (ixN ds.length n) (kGi6 ds d ρ S2 l QN) := rfl
def kGi4 (y d : D) (ρ : Nv) (S2 : Sto) (l : Nat) (QN : Nv → Sto → Prop) : List D → Prop := fun ds => bI y (kGi5 ds d ρ S2 l QN)
theorem kGi4' (y d : D) (ρ : Nv) (S2 : Sto) (l : Nat) (QN : Nv → Sto → Prop) (ds) : kGi4 y d ρ S2 l QN ds = bI y (kGi5 ds d ρ S2 l QN) := rfl
def kGi3 (y d : D) (ρ : Nv) (S2 : Sto) (QN : Nv → Sto → Prop) : Nat → Prop := fun l => bO (S2[l]?.bind clL) (kGi4 y d ρ S2 l QN)
theorem kGi3' (y d : D) (ρ : Nv) (S2 : Sto) (QN : Nv → Sto → Prop) (l) : kGi3 y d ρ S2 QN l = bO (S2[l]?.bind clL) (kGi4 y d ρ S2 l QN) := rfl
def kGi2 (x d : D) (ρ : Nv) (QN : Nv → Sto → Prop) : QE := fun y S2 => bL x (kGi3 y d ρ S2 QN)
theorem kGi2' (x d : D) (ρ : Nv) (QN : Nv → Sto → Prop) (y) (S2) : kGi2 x d ρ QN y S2 = bL x (kGi3 y d ρ S2 QN) := rfl
def kGi1 (i : WE) (d : D) (ρ : Nv) (QN : Nv → Sto → Prop) : QE := fun x S1 => i ρ S1 (kGi2 x d ρ QN)
theorem kGi1' (i : WE) (d : D) (ρ : Nv) (QN : Nv → Sto → Prop) (x) (S1) : kGi1 i d ρ QN x S1 = i ρ S1 (kGi2 x d ρ QN) := rfl
def kAsg (g : WG) (ρ : Nv) (E : Es) : QE := fun d S1 => g d ρ S1 E.nx
theorem kAsg' (g : WG) (ρ : Nv) (E : Es) (d) (S1) : kAsg g ρ E d S1 = g d ρ S1 E.nx := rfl
def kDrop (E : Es) (ρ : Nv) : QE := fun _ S1 => E.nx ρ S1
theorem kDrop' (E : Es) (ρ : Nv) (u_) (S1) : kDrop E ρ u_ S1 = E.nx ρ S1 := rfl
def kIf (a b : WS) (E : Es) (ρ : Nv) : Bool → Sto → Prop := fun c S1 => bY c (a E ρ S1) (b E ρ S1)
theorem kIf' (a b : WS) (E : Es) (ρ : Nv) (c) (S1) : kIf a b E ρ c S1 = bY c (a E ρ S1) (b E ρ S1) := rfl
def kAug3 (i : Nat) (E : Es) (ρ : Nv) : QE := fun r S2 => E.nx (ρ.set i (some r)) S2
theorem kAug3' (i : Nat) (E : Es) (ρ : Nv) (r) (S2) : kAug3 i E ρ r S2 = E.nx (ρ.set i (some r)) S2 := rfl
def kAug2 (i : Nat) (z : Z2) (d : D) (E : Es) (ρ : Nv) : QE := fun y S1 => z d y S1 (kAug3 i E ρ)
theorem kAug2' (i : Nat) (z : Z2) (d : D) (E : Es) (ρ : Nv) (y) (S1) : kAug2 i z d E ρ y S1 = z d y S1 (kAug3 i E ρ) := rfl
def kAug1 (i : Nat) (z : Z2) (w : WE) (E : Es) (ρ : Nv) (S : Sto) : D → Prop := fun d => w ρ S (kAug2 i z d E ρ)
theorem kAug1' (i : Nat) (z : Z2) (w : WE) (E : Es) (ρ : Nv) (S : Sto) (d) : kAug1 i z w E ρ S d = w ρ S (kAug2 i z d E ρ) := rfl
def kAi10 (E : Es) (ρ : Nv) (l : Nat) (n : Int) (j : Nat) (r : D) (S4 : Sto) : List D → Prop := fun ds' => bP (ixN ds'.length n = some j) (E.nx ρ (S4.set l (.lst (ds'.set j r))))
theorem kAi10' (E : Es) (ρ : Nv) (l : Nat) (n : Int) (j : Nat) (r : D) (S4 : Sto) (ds') : kAi10 E ρ l n j r S4 ds' = bP (ixN ds'.length n = some j) (E.nx ρ (S4.set l (.lst (ds'.set j r)))) := rfl
def kAi9 (E : Es) (ρ : Nv) (l : Nat) (n : Int) (j : Nat) : QE := fun r S4 => bO (S4[l]?.bind clL) (kAi10 E ρ l n j r S4)
theorem kAi9' (E : Es) (ρ : Nv) (l : Nat) (n : Int) (j : Nat) (r) (S4) : kAi9 E ρ l n j r S4 = bO (S4[l]?.bind clL) (kAi10 E ρ l n j r S4) := rfl
def kAi8 (z : Z2) (d : D) (E : Es) (ρ : Nv) (l : Nat) (n : Int) (j : Nat) : QE := fun u S3 => z d u S3 (kAi9 E ρ l n j)
theorem kAi8' (z : Z2) (d : D) (E : Es) (ρ : Nv) (l : Nat) (n : Int) (j : Nat) (u) (S3) : kAi8 z d E ρ l n j u S3 = z d u S3 (kAi9 E ρ l n j) := rfl
def kAi7 (z : Z2) (w : WE) (E : Es) (ρ : Nv) (S2 : Sto) (l : Nat) (n : Int) (j : Nat) : D → Prop := fun d => w ρ S2 (kAi8 z d E ρ l n j)
theorem kAi7' (z : Z2) (w : WE) (E : Es) (ρ : Nv) (S2 : Sto) (l : Nat) (n : Int) (j : Nat) (d) : kAi7 z w E ρ S2 l n j d = w ρ S2 (kAi8 z d E ρ l n j) := rfl
def kAi6 (z : Z2) (w : WE) (E : Es) (ρ : Nv) (S2 : Sto) (l : Nat) (n : Int) (ds : List D) : Nat → Prop := fun j => bO (ds[j]?) (kAi7 z w E ρ S2 l n j)
theorem kAi6' (z : Z2) (w : WE) (E : Es) (ρ : Nv) (S2 : Sto) (l : Nat) (n : Int) (ds : List D) (j) : kAi6 z w E ρ S2 l n ds j = bO (ds[j]?) (kAi7 z w E ρ S2 l n j) := rfl
def kAi5 (z : Z2) (w : WE) (E : Es) (ρ : Nv) (S2 : Sto) (l : Nat) (n : Int) : List D → Prop := fun ds => bO (ixN ds.length n) (kAi6 z w E ρ S2 l n ds)
theorem kAi5' (z : Z2) (w : WE) (E : Es) (ρ : Nv) (S2 : Sto) (l : Nat) (n : Int) (ds) : kAi5 z w E ρ S2 l n ds = bO (ixN ds.length n) (kAi6 z w E ρ S2 l n ds) := rfl
def kAi4 (z : Z2) (w : WE) (E : Es) (ρ : Nv) (S2 : Sto) (l : Nat) : Int → Prop := fun n => bO (S2[l]?.bind clL) (kAi5 z w E ρ S2 l n)
theorem kAi4' (z : Z2) (w : WE) (E : Es) (ρ : Nv) (S2 : Sto) (l : Nat) (n) : kAi4 z w E ρ S2 l n = bO (S2[l]?.bind clL) (kAi5 z w E ρ S2 l n) := rfl
def kAi3 (z : Z2) (y : D) (w : WE) (E : Es) (ρ : Nv) (S2 : Sto) : Nat → Prop := fun l => bI y (kAi4 z w E ρ S2 l)
theorem kAi3' (z : Z2) (y : D) (w : WE) (E : Es) (ρ : Nv) (S2 : Sto) (l) : kAi3 z y w E ρ S2 l = bI y (kAi4 z w E ρ S2 l) := rfl
def kAi2 (z : Z2) (x : D) (w : WE) (E : Es) (ρ : Nv) : QE := fun y S2 => bL x (kAi3 z y w E ρ S2)
theorem kAi2' (z : Z2) (x : D) (w : WE) (E : Es) (ρ : Nv) (y) (S2) : kAi2 z x w E ρ y S2 = bL x (kAi3 z y w E ρ S2) := rfl
def kAi1 (z : Z2) (i w : WE) (E : Es) (ρ : Nv) : QE := fun x S1 => i ρ S1 (kAi2 z x w E ρ)
theorem kAi1' (z : Z2) (i w : WE) (E : Es) (ρ : Nv) (x) (S1) : kAi1 z i w E ρ x S1 = i ρ S1 (kAi2 z x w E ρ) := rfl
def kPar2 (i j : Nat) (x : D) (E : Es) (ρ : Nv) : QE := fun y S2 => E.nx ((ρ.set i (some x)).set j (some y)) S2
theorem kPar2' (i j : Nat) (x : D) (E : Es) (ρ : Nv) (y) (S2) : kPar2 i j x E ρ y S2 = E.nx ((ρ.set i (some x)).set j (some y)) S2 := rfl
def kPar1 (i j : Nat) (b : WE) (E : Es) (ρ : Nv) : QE := fun x S1 => b ρ S1 (kPar2 i j x E ρ)
theorem kPar1' (i j : Nat) (b : WE) (E : Es) (ρ : Nv) (x) (S1) : kPar1 i j b E ρ x S1 = b ρ S1 (kPar2 i j x E ρ) := rfl
def kWin2 (QI : List D → (Sto → Prop) → Sto → Prop) (x : D) (S1 : Sto) : List D → Prop := fun ds => QI ds (fun S => seqOf S x = some ds) S1
theorem kWin2' (QI : List D → (Sto → Prop) → Sto → Prop) (x : D) (S1 : Sto) (ds) : kWin2 QI x S1 ds = QI ds (fun S => seqOf S x = some ds) S1 := rfl
def kWin1 (QI : List D → (Sto → Prop) → Sto → Prop) : QE := fun x S1 => bO (seqOf S1 x) (kWin2 QI x S1)
theorem kWin1' (QI : List D → (Sto → Prop) → Sto → Prop) (x) (S1) : kWin1 QI x S1 = bO (seqOf S1 x) (kWin2 QI x S1) := rfl
def kR12 (QI : List D → (Sto → Prop) → Sto → Prop) (S1 : Sto) : Int → Prop := fun j => bP (-(2 ^ 62) ≤ j ∧ j < 2 ^ 62) (QI (rng 0 j.toNat) (fun _ => True) S1)
theorem kR12' (QI : List D → (Sto → Prop) → Sto → Prop) (S1 : Sto) (j) : kR12 QI S1 j = bP (-(2 ^ 62) ≤ j ∧ j < 2 ^ 62) (QI (rng 0 j.toNat) (fun _ => True) S1) := rfl
def kR11 (QI : List D → (Sto → Prop) → Sto → Prop) : QE := fun x S1 => bI x (kR12 QI S1)
theorem kR11' (QI : List D → (Sto → Prop) → Sto → Prop) (x) (S1) : kR11 QI x S1 = bI x (kR12 QI S1) := rfl
def kR36 (i j : Int) (S3 : Sto) (QI : List D → (Sto → Prop) → Sto → Prop) : Int → Prop := fun c => ∃ n, RgC i j c n ∧ QI (rngC i c n) (fun _ => True) S3
theorem kR36' (i j : Int) (S3 : Sto) (QI : List D → (Sto → Prop) → Sto → Prop) (c) : kR36 i j S3 QI c = ∃ n, RgC i j c n ∧ QI (rngC i c n) (fun _ => True) S3 := rfl
def kR35 (i : Int) (z : D) (S3 : Sto) (QI : List D → (Sto → Prop) → Sto → Prop) : Int → Prop := fun j => bI z (kR36 i j S3 QI)
theorem kR35' (i : Int) (z : D) (S3 : Sto) (QI : List D → (Sto → Prop) → Sto → Prop) (j) : kR35 i z S3 QI j = bI z (kR36 i j S3 QI) := rfl
def kR34 (y z : D) (S3 : Sto) (QI : List D → (Sto → Prop) → Sto → Prop) : Int → Prop := fun i => bI y (kR35 i z S3 QI)
theorem kR34' (y z : D) (S3 : Sto) (QI : List D → (Sto → Prop) → Sto → Prop) (i) : kR34 y z S3 QI i = bI y (kR35 i z S3 QI) := rfl
def kR33 (x y : D) (QI : List D → (Sto → Prop) → Sto → Prop) : QE := fun z S3 => bI x (kR34 y z S3 QI)
theorem kR33' (x y : D) (QI : List D → (Sto → Prop) → Sto → Prop) (z) (S3) : kR33 x y QI z S3 = bI x (kR34 y z S3 QI) := rfl
def kR32 (x : D) (c : WE) (ρ : Nv) (QI : List D → (Sto → Prop) → Sto → Prop) : QE := fun y S2 => c ρ S2 (kR33 x y QI)
theorem kR32' (x : D) (c : WE) (ρ : Nv) (QI : List D → (Sto → Prop) → Sto → Prop) (y) (S2) : kR32 x c ρ QI y S2 = c ρ S2 (kR33 x y QI) := rfl
def kR31 (b c : WE) (ρ : Nv) (QI : List D → (Sto → Prop) → Sto → Prop) : QE := fun x S1 => b ρ S1 (kR32 x c ρ QI)
theorem kR31' (b c : WE) (ρ : Nv) (QI : List D → (Sto → Prop) → Sto → Prop) (x) (S1) : kR31 b c ρ QI x S1 = b ρ S1 (kR32 x c ρ QI) := rfl
def kDi3 (y : D) (S2 : Sto) (Q : Cell → Sto → Prop) : Key → Prop := fun k => Q (.dk [(k, y)]) S2
theorem kDi3' (y : D) (S2 : Sto) (Q : Cell → Sto → Prop) (k) : kDi3 y S2 Q k = Q (.dk [(k, y)]) S2 := rfl
def kDi2 (x : D) (Q : Cell → Sto → Prop) : QE := fun y S2 => bO (keyO x) (kDi3 y S2 Q)
theorem kDi2' (x : D) (Q : Cell → Sto → Prop) (y) (S2) : kDi2 x Q y S2 = bO (keyO x) (kDi3 y S2 Q) := rfl
def kDi1 (wv : WE) (ρ : Nv) (Q : Cell → Sto → Prop) : QE := fun x S1 => wv ρ S1 (kDi2 x Q)
theorem kDi1' (wv : WE) (ρ : Nv) (Q : Cell → Sto → Prop) (x) (S1) : kDi1 wv ρ Q x S1 = wv ρ S1 (kDi2 x Q) := rfl
def kDp6 (v : D) (l : Nat) (k : Key) (E : Es) (ρ : Nv) (S3 : Sto) : List (Key × D) → Prop := fun kvs => bP (kvs.length < sizeLine) (E.nx ρ (S3.set l (.dk (putK' k v kvs))))
theorem kDp6' (v : D) (l : Nat) (k : Key) (E : Es) (ρ : Nv) (S3 : Sto) (kvs) : kDp6 v l k E ρ S3 kvs = bP (kvs.length < sizeLine) (E.nx ρ (S3.set l (.dk (putK' k v kvs)))) := rfl
def kDp5 (v : D) (l : Nat) (E : Es) (ρ : Nv) (S3 : Sto) : Key → Prop := fun k => bO (S3[l]?.bind clK) (kDp6 v l k E ρ S3)
theorem kDp5' (v : D) (l : Nat) (E : Es) (ρ : Nv) (S3 : Sto) (k) : kDp5 v l E ρ S3 k = bO (S3[l]?.bind clK) (kDp6 v l k E ρ S3) := rfl
def kDp4 (v y : D) (E : Es) (ρ : Nv) (S3 : Sto) : Nat → Prop := fun l => bO (keyO y) (kDp5 v l E ρ S3)
theorem kDp4' (v y : D) (E : Es) (ρ : Nv) (S3 : Sto) (l) : kDp4 v y E ρ S3 l = bO (keyO y) (kDp5 v l E ρ S3) := rfl
def kDp3 (v x : D) (E : Es) (ρ : Nv) : QE := fun y S3 => bL x (kDp4 v y E ρ S3)
theorem kDp3' (v x : D) (E : Es) (ρ : Nv) (y) (S3) : kDp3 v x E ρ y S3 = bL x (kDp4 v y E ρ S3) := rfl
def kDp2 (v : D) (wk : WE) (E : Es) (ρ : Nv) : QE := fun x S2 => wk ρ S2 (kDp3 v x E ρ)
theorem kDp2' (v : D) (wk : WE) (E : Es) (ρ : Nv) (x) (S2) : kDp2 v wk E ρ x S2 = wk ρ S2 (kDp3 v x E ρ) := rfl
def kDp1 (wd wk : WE) (E : Es) (ρ : Nv) : QE := fun v S1 => wd ρ S1 (kDp2 v wk E ρ)
theorem kDp1' (wd wk : WE) (E : Es) (ρ : Nv) (v) (S1) : kDp1 wd wk E ρ v S1 = wd ρ S1 (kDp2 v wk E ρ) := rfl
def kSd2 (S : Sto) (Q : Cell → Sto → Prop) : List Int → Prop := fun ks => bP (ks.length < 64) (∀ ys : List Int, ys.Perm ks → ys.Pairwise (· ≤ ·) → Q (.lst (ys.map D.int)) S)
theorem kSd2' (S : Sto) (Q : Cell → Sto → Prop) (ks) : kSd2 S Q ks = bP (ks.length < 64) (∀ ys : List Int, ys.Perm ks → ys.Pairwise (· ≤ ·) → Q (.lst (ys.map D.int)) S) := rfl
def kSd1 (S : Sto) (Q : Cell → Sto → Prop) : List (Key × D) → Prop := fun kvs => bO (intKeys kvs) (kSd2 S Q)
theorem kSd1' (S : Sto) (Q : Cell → Sto → Prop) (kvs) : kSd1 S Q kvs = bO (intKeys kvs) (kSd2 S Q) := rfl
def kDc2 (S : Sto) (Q : Cell → Sto → Prop) : List (Key × D) → Prop := fun ps => Q (.dk (mergeD [] ps)) S
theorem kDc2' (S : Sto) (Q : Cell → Sto → Prop) (ps) : kDc2 S Q ps = Q (.dk (mergeD [] ps)) S := rfl
def kDc1 (S : Sto) (Q : Cell → Sto → Prop) : List D → Prop := fun ds => bO (pairsD ds) (kDc2 S Q)
theorem kDc1' (S : Sto) (Q : Cell → Sto → Prop) (ds) : kDc1 S Q ds = bO (pairsD ds) (kDc2 S Q) := rfl
def kLr2 (S1 : Sto) (Q : Cell → Sto → Prop) : Int → Prop := fun n => bP (RgOk 0 n) (Q (.lst (rng 0 n.toNat)) S1)
theorem kLr2' (S1 : Sto) (Q : Cell → Sto → Prop) (n) : kLr2 S1 Q n = bP (RgOk 0 n) (Q (.lst (rng 0 n.toNat)) S1) := rfl
def kLr1 (Q : Cell → Sto → Prop) : QE := fun x S1 => bI x (kLr2 S1 Q)
theorem kLr1' (Q : Cell → Sto → Prop) (x) (S1) : kLr1 Q x S1 = bI x (kLr2 S1 Q) := rfl
def kFor (g : WG) (b : WS) (E : Es) (ρ : Nv) : List D → (Sto → Prop) → Sto → Prop := fun items side S1 => ForP items side g b E ρ S1
theorem kFor' (g : WG) (b : WS) (E : Es) (ρ : Nv) (items) (side) (S1) : kFor g b E ρ items side S1 = ForP items side g b E ρ S1 := rfl
def kLc (tg : Tg) (t : WT) (w : WE) (vs : List Nat) (ρ : Nv) (Q : Cell → Sto → Prop) : List D → (Sto → Prop) → Sto → Prop := fun items side S1 => LcP items side tg t w vs ρ S1 Q
theorem kLc' (tg : Tg) (t : WT) (w : WE) (vs : List Nat) (ρ : Nv) (Q : Cell → Sto → Prop) (items) (side) (S1) : kLc tg t w vs ρ Q items side S1 = LcP items side tg t w vs ρ S1 Q := rfl
def kF2 (Q : QE) : QE := fun x S1 => ∃ l ds es S2, x = .ref l ∧ S1[l]? = some (.lst ds) ∧ FrzAll ds S1 es S2 ∧ S2[l]? = some (.lst ds) ∧ Q (.lst es) (S2.set l .dead)
theorem kF2' (Q : QE) (x) (S1) : kF2 Q x S1 = ∃ l ds es S2, x = .ref l ∧ S1[l]? = some (.lst ds) ∧ FrzAll ds S1 es S2 ∧ S2[l]? = some (.lst ds) ∧ Q (.lst es) (S2.set l .dead) := rfl

section
variable (ρ : Nv) (S : Sto) (Q : QE) (E : Es) (QC : Cell → Sto → Prop) (QT : Bool → Sto → Prop) (QN : Nv → Sto → Prop) (QI : List D → (Sto → Prop) → Sto → Prop) (QL : List D → Sto → Prop) (QO : Option Int → Sto → Prop)
theorem x_V (i : Nat) : wV i ρ S Q = bO (ρ[i]?.join) (kQ Q S) := xo_V ρ S Q i
theorem x_C (d : D) : wC d ρ S Q = Q d S := rfl
theorem x_B (z : Z2) (a b : WE) : wB z a b ρ S Q = a ρ S (kB1 z b ρ Q) := rfl
theorem x_U (z : Z1) (a : WE) : wU z a ρ S Q = a ρ S (kU z Q) := rfl
theorem x_Nil : wNil ρ S QL = QL [] S := rfl
theorem x_Cons (a : WE) (r : WA) : wCons a r ρ S QL = a ρ S (kC1 r ρ QL) := rfl
theorem x_Z (z : Zs) (a : WA) : wZ z a ρ S Q = a ρ S (kZ z Q) := rfl
theorem x_Tup (a : WA) : wTup a ρ S Q = a ρ S (kTup Q) := rfl
theorem x_Lst (a : WA) : wLst a ρ S QC = a ρ S (kLst QC) := rfl
theorem x_Fz (w : WF) : wFz w ρ S Q = w ρ S (kFz Q) := xo_Fz ρ S Q w
theorem x_Cl (w : WF) : wCl w ρ S Q = w ρ S (kCl Q) := rfl
theorem x_BF (z : ZF2) (a b : WE) : wBF z a b ρ S QC = a ρ S (kBF1 z b ρ QC) := rfl
theorem x_ZF (z : ZFs) (a : WA) : wZF z a ρ S QC = a ρ S (kZF z QC) := rfl
theorem x_Tb (w : WE) : wTb w ρ S QT = w ρ S (kTb QT) := rfl
theorem x_AndT (a b : WT) : wAndT a b ρ S QT = a ρ S (kAndT b ρ QT) := rfl
theorem x_OrT (a b : WT) : wOrT a b ρ S QT = a ρ S (kOrT b ρ QT) := rfl
theorem x_NotT (a : WT) : wNotT a ρ S QT = a ρ S (kNotT QT) := rfl
theorem x_Yes : wYes ρ S QT = QT true S := rfl
theorem x_AndV (a b : WE) : wAndV a b ρ S Q = a ρ S (kAndV b ρ Q) := rfl
theorem x_OrV (a b : WE) : wOrV a b ρ S Q = a ρ S (kOrV b ρ Q) := rfl
theorem x_NotV (a : WE) : wNotV a ρ S Q = a ρ S (kNotV Q) := rfl
theorem x_IfE (t : WT) (a b : WE) : wIfE t a b ρ S Q = t ρ S (kIfE a b ρ Q) := rfl
theorem x_Chain (z z' : Z2) (a b c : WE) : wChain z z' a b c ρ S Q = a ρ S (kCh1 z z' b c ρ Q) := rfl
theorem x_I (C : Int → Int → Prop) (g : Int → Int → Int) (x y : D) : zI C g x y S Q = bI x (kI1 C g y S Q) := xo_I S Q C g x y
theorem x_Ib (g : Int → Int → Bool) (x y : D) : zIb g x y S Q = bI x (kIb1 g y S Q) := xo_Ib S Q g x y
theorem x_AddI (i j : Int) : zAdd (.int i) (.int j) S Q = Q (.int (i + j)) S := rfl
theorem x_Cat (x y : D) : zCat x y S QC = bO (lstOf S x) (kCat1 S y QC) := xo_Cat S x y QC
theorem x_Rep (x y : D) : zRep x y S QC = bO (lstOf S x) (kRep1 S y QC) := xo_Rep S x y QC
theorem x_Neg (x : D) : zNeg x S Q = bI x (kNeg S Q) := rfl
theorem x_Ix (x y : D) : zIx x y S Q = bO (seqOf S x) (kIx1 S y Q) := xo_Ix S Q x y
theorem x_No : wNo ρ S QO = QO none S := rfl
theorem x_So (w : WE) : wSo w ρ S QO = w ρ S (kSo QO) := rfl
theorem x_SlT (w : WE) (lo hi : WO) : wSlT w lo hi ρ S Q = w ρ S (kSl1 lo hi ρ Q) := xo_SlT ρ S Q w lo hi
theorem x_SlL (w : WE) (lo hi : WO) : wSlL w lo hi ρ S QC = w ρ S (kSm1 lo hi ρ QC) := rfl
theorem x_Rev (w : WE) : wRev w ρ S QC = w ρ S (kRev QC) := rfl
theorem x_In (x y : D) : zIn x y S Q = bI x (kIn1 S y Q) := xo_In S Q x y
theorem x_NotIn (x y : D) : zNotIn x y S Q = bI x (kNi1 S y Q) := xo_NotIn S Q x y
theorem x_IsN (x y : D) : zIsN x y S Q = bN y (Q (.bl (isNon x)) S) := rfl
theorem x_NotN (x y : D) : zNotN x y S Q = bN y (Q (.bl (!isNon x)) S) := rfl
theorem x_IsB (x y : D) : zIsB x y S Q = bB x (kIs1 S y Q) := xo_IsB S Q x y
theorem x_NotB (x y : D) : zNotB x y S Q = bB x (kNb1 S y Q) := xo_NotB S Q x y
theorem x_Len (x : D) : zLen [x] S Q = bO (seqOf S x) (kLen S Q) := xo_Len S Q x
theorem x_Int (i : Int) : zInt [.int i] S Q = Q (.int i) S := xo_Int S Q i
theorem x_Max2 (i j : Int) : zMax2 [.int i, .int j] S Q = Q (.int (max i j)) S := xo_Max2 S Q i j
theorem x_Max (x : D) : zMax [x] S Q = bO (lstOf S x) (kMax1 S Q) := xo_Max S Q x
theorem x_Min (x : D) : zMin [x] S Q = bO (lstOf S x) (kMin1 S Q) := xo_Min S Q x
theorem x_Sum (x : D) : zSum [x] S Q = bO (seqOf S x) (kSum1 S Q) := xo_Sum S Q x
theorem x_All (x : D) : zAll [x] S Q = bO (lstOf S x) (kAll1 S Q) := xo_All S Q x
theorem x_Any (x : D) : zAny [x] S Q = bO (lstOf S x) (kAny1 S Q) := xo_Any S Q x
theorem x_List (x : D) : zList [x] S QC = bO (seqOf S x) (kList S QC) := xo_List S x QC
theorem x_Tuple (x : D) : zTuple [x] S Q = bO (seqOf S x) (kTuple S Q) := xo_Tuple S Q x
theorem x_Sorted (x : D) : zSorted [x] S QC = bO (lstOf S x) (kSrt1 S QC) := xo_Sorted S x QC
theorem x_M (z : Zm) (o : WE) (a : WA) : wM z o a ρ S Q = o ρ S (kM1 z a ρ Q) := xo_M ρ S Q z o a
theorem x_M0 (z : Zm) (o : WE) : wM0 z o ρ S Q = o ρ S (kM0 z Q) := xo_M0 ρ S Q z o
theorem x_Append (x y : D) : zAppend x [y] S Q = bL x (kAp1 S y Q) := xo_Append S Q x y
theorem x_Pop (x : D) : zPop x [] S Q = bL x (kPop1 S Q) := xo_Pop S Q x
theorem x_PopAt (x y : D) : zPopAt x [y] S Q = bL x (kPa1 S y Q) := xo_PopAt S Q x y
theorem x_Reverse (x : D) : zReverse x [] S Q = bL x (kRv1 S Q) := xo_Reverse S Q x
theorem x_Fld (C : Addr) (ks : List Str) (i : Nat) (w : WE) : wFld C ks i w ρ S Q = w ρ S (kFld1 C ks i Q) := xo_Fld ρ S Q C ks i w
theorem x_FldNew (C : Addr) (ks : List Str) (f : Str) (wo wv : WE) : wFldNew C ks f wo wv E ρ S = wv ρ S (kFn1 C ks f wo E ρ) := xo_FldNew ρ S E C ks f wo wv
theorem x_FldSet (C : Addr) (ks : List Str) (i : Nat) (wo wv : WE) : wFldSet C ks i wo wv E ρ S = wv ρ S (kFs1 C ks i wo E ρ) := xo_FldSet ρ S E C ks i wo wv
theorem x_FldAug (C : Addr) (ks : List Str) (i : Nat) (wo wv : WE) : wFldAug C ks i wo wv E ρ S = wo ρ S (kFa1 C ks i wv E ρ) := xo_FldAug ρ S E C ks i wo wv
theorem x_Call (n : Nat) (F : Pr) (a : WA) : wCall n F a ρ S Q = a ρ S (kCall n F Q) := rfl
theorem x_Meth (C : Addr) (ks : List Str) (n : Nat) (F : Pr) (o : WE) (a : WA) : wMeth C ks n F o a ρ S Q = o ρ S (kMt1 C ks n F a ρ Q) := xo_Meth ρ S Q C ks n F o a
theorem x_Make (C : Addr) (n : Nat) (F : Pr) (a : WA) : wMake C n F a ρ S Q = a ρ S (kMk1 C n F Q) := rfl
theorem x_Frz (w : WE) : wFrz w ρ S Q = w ρ S (kFrz1 Q) := xo_Frz ρ S Q w
theorem x_gN (i : Nat) (d : D) : gN i d ρ S QN = QN (ρ.set i (some d)) S := rfl
theorem x_gsNil : gsNil [] ρ S QN = QN ρ S := xo_gsNil ρ S QN
theorem x_gsCons (g : WG) (r : WGs) (d : D) (ds : List D) : gsCons g r (d :: ds) ρ S QN = g d ρ S (kGs r ds QN) := xo_gsCons ρ S QN g r d ds
theorem x_gTu (n : Nat) (r : WGs) (d : D) : gTu n r d ρ S QN = bO (seqOf S d) (kGt n r ρ S QN) := rfl
theorem x_gIx (o i : WE) (d : D) : gIx o i d ρ S QN = o ρ S (kGi1 i d ρ QN) := xo_gIx ρ S QN o i d
theorem x_Seq (a b : WS) : sSeq a b E ρ S = a { E with nx := b E } ρ S := rfl
theorem x_SNil : sNil E ρ S = E.nx ρ S := rfl
theorem x_Asg (w : WE) (g : WG) : sAsg w g E ρ S = w ρ S (kAsg g ρ E) := rfl
theorem x_Drop (w : WE) : sDrop w E ρ S = w ρ S (kDrop E ρ) := rfl
theorem x_Ret (w : WE) : sRet w E ρ S = w ρ S E.rt := rfl
theorem x_RetN : sRetN E ρ S = E.rt .non S := rfl
theorem x_If (t : WT) (a b : WS) : sIf t a b E ρ S = t ρ S (kIf a b E ρ) := rfl
theorem x_Brk : sBrk E ρ S = E.bk ρ S := rfl
theorem x_Cnt : sCnt E ρ S = E.ct ρ S := rfl
theorem x_Never : sNever E ρ S = False := rfl
theorem x_Aug (i : Nat) (z : Z2) (w : WE) : sAug i z w E ρ S = bO (ρ[i]?.join) (kAug1 i z w E ρ S) := xo_Aug ρ S E i z w
theorem x_AugIx (z : Z2) (o i w : WE) : sAugIx z o i w E ρ S = o ρ S (kAi1 z i w E ρ) := xo_AugIx ρ S E z o i w
theorem x_Par (i j : Nat) (a b : WE) : sPar i j a b E ρ S = a ρ S (kPar1 i j b E ρ) := rfl
theorem x_WIn (w : WE) : wIn w ρ S QI = w ρ S (kWin1 QI) := rfl
theorem x_R1 (a : WE) : wR1 a ρ S QI = a ρ S (kR11 QI) := rfl
theorem x_R3 (a b c : WE) : wR3 a b c ρ S QI = a ρ S (kR31 b c ρ QI) := xo_R3 ρ S QI a b c
theorem x_DNew : wDNew ρ S QC = QC (.dk []) S := rfl
theorem x_Disp1 (wk wv : WE) : wDisp1 wk wv ρ S QC = wk ρ S (kDi1 wv ρ QC) := xo_Disp1 ρ S wk wv QC
theorem x_DPut (wd wk wv : WE) : sDPut wd wk wv E ρ S = wv ρ S (kDp1 wd wk E ρ) := xo_DPut ρ S E wd wk wv
theorem x_SortedD (x : D) : zSortedD [x] S QC = bO (dkOf S x) (kSd1 S QC) := xo_SortedD S x QC
theorem x_DictP (x : D) : zDictP [x] S QC = bO (lstOf S x) (kDc1 S QC) := xo_DictP S x QC
theorem x_LRg (w : WE) : wLRg w ρ S QC = w ρ S (kLr1 QC) := rfl
theorem x_For (wi : WI) (g : WG) (b : WS) : sFor wi g b E ρ S = wi ρ S (kFor g b E ρ) := rfl
theorem x_While (c : WT) (b : WS) : sWhile c b E ρ S = WhP c b E ρ S := rfl
theorem x_Lc (wi : WI) (tg : Tg) (t : WT) (w : WE) (vs : List Nat) : wLc wi tg t w vs ρ S QC = wi ρ S (kLc tg t w vs ρ QC) := rfl
theorem x_Frz2 (w : WE) : wFrz2 w ρ S Q = w ρ S (kF2 Q) := rfl
end
def tgP (g : Tg) (x : D) (ρ : Nv) (f : Nv → Prop) : Prop := match g with
  | .n i => f (ρ.set i (some x))
  | .t is => bO (tupOf x) fun ds => bP (ds.length = is.length) (f (setAllD ρ is ds))
theorem tgP_eq (g : Tg) (x : D) (ρ : Nv) (S : Sto) (f : Nv → Prop) : tgD g x ρ S f = tgP g x ρ f := by
  cases g with
  | n i => rfl
  | t is =>
    unfold tgD tgP bO
    simp only [tupOf_eq]
    rfl
section
variable {α : Type} {side : Sto → Prop} {g : WG} {b : WS} {E : Es} {ρ : Nv} {S : Sto}
/-- a for loop over items made from xs: an invariant over what is done -/
theorem ForP.over (xs : List α) (h : α → D) (I : List α → Nv → Sto → Prop) (h0 : I [] ρ S) (hs : ∀ ys ρ S, I ys ρ S → side S)
    (ht : ∀ ys x zs ρ S, xs = ys ++ x :: zs → I ys ρ S → g (h x) ρ S fun ρ2 S2 => b { E with nx := I (ys ++ [x]), ct := I (ys ++ [x]), bk := E.nx } ρ2 S2) (hd : ∀ ρ S, I xs ρ S → E.nx ρ S) : ForP (xs.map h) side g b E ρ S := by
  refine ⟨fun i => I (xs.take i), h0, fun i ρ S _ p => hs _ ρ S p, fun i x ρ S hx p => ?_, fun ρ S p => hd ρ S ?_⟩
  · rw [List.getElem?_map] at hx
    cases e : xs[i]? with
    | none => rw [e] at hx; cases hx
    | some y =>
      rw [e] at hx
      cases hx
      obtain ⟨hi, e2⟩ := List.getElem?_eq_some_iff.mp e
      have e3 : xs.take (i + 1) = xs.take i ++ [y] := by rw [List.take_succ, e]; rfl
      have := ht (xs.take i) y (xs.drop (i + 1)) ρ S (by rw [← e2, ← List.drop_eq_getElem_cons, List.take_append_drop]) p
      simp only [e3]
      exact this
  · rw [List.length_map, List.take_length] at p
    exact p
/-- for k in range(n) -/
theorem ForP.range (n : Nat) (I : Nat → Nv → Sto → Prop) (h0 : I 0 ρ S) (hs : ∀ i ρ S, I i ρ S → side S)
    (ht : ∀ i ρ S, i < n → I i ρ S → g (.int (i : Nat)) ρ S fun ρ2 S2 => b { E with nx := I (i + 1), ct := I (i + 1), bk := E.nx } ρ2 S2) (hd : ∀ ρ S, I n ρ S → E.nx ρ S) : ForP ((List.range n).map fun i => D.int (i : Nat)) side g b E ρ S := by
  refine ⟨I, h0, fun i ρ S _ p => hs i ρ S p, fun i x ρ S hx p => ?_, fun ρ S p => hd ρ S ?_⟩
  · rw [List.getElem?_map] at hx
    cases e : (List.range n)[i]? with
    | none => rw [e] at hx; cases hx
    | some y =>
      obtain ⟨hi, e2⟩ := List.getElem?_eq_some_iff.mp e
      rw [List.getElem_range] at e2
      subst e2
      rw [e] at hx
      cases hx
      rw [List.length_range] at hi
      exact ht i ρ S hi p
  · rw [List.length_map, List.length_range] at p
    exact p
theorem WhP.inv {c : WT} (I : Nat → Nv → Sto → Prop) (m : Nat) (h0 : I m ρ S)
    (ht : ∀ m ρ S, I m ρ S → c ρ S fun t S1 => bY t (b { E with nx := fun ρ S => ∃ m', m' < m ∧ I m' ρ S, ct := fun ρ S => ∃ m', m' < m ∧ I m' ρ S, bk := E.nx } ρ S1) (E.nx ρ S1)) : WhP c b E ρ S := ⟨I, ⟨m, h0⟩, ht⟩
variable {tg : Tg} {t : WT} {w : WE} {vs : List Nat} {Q : Cell → Sto → Prop}
/-- a comprehension that changes nothing -/
theorem LcP.pure (xs : List α) (h : α → D) (p : α → Bool) (f : α → D) (hs : side S) (hz : xs.length ≤ sizeLine)
    (ht : ∀ x ∈ xs, ∀ (A : D → Sto → Prop) (B : Sto → Prop), (p x = true → A (f x) S) → (p x = false → B S) → tgP tg (h x) (wipeD ρ vs) fun ρ2 => t ρ2 S fun c S2 => bY c (w ρ2 S2 A) (B S2))
    (hq : Q (.lst ((xs.filter p).map f)) S) : LcP (xs.map h) side tg t w vs ρ S Q := by
  refine ⟨fun i acc S' => S' = S ∧ acc = ((xs.take i).filter p).map f, ⟨rfl, by simp⟩, fun i acc S' _ q => q.1 ▸ hs, fun i x acc S' hx q => ?_, fun acc S' q => ?_⟩
  · obtain ⟨rfl, rfl⟩ := q
    rw [List.getElem?_map] at hx
    cases e : xs[i]? with
    | none => rw [e] at hx; cases hx
    | some y =>
      rw [e] at hx
      cases hx
      have e3 : xs.take (i + 1) = xs.take i ++ [y] := by rw [List.take_succ, e]; rfl
      obtain ⟨hi, e2⟩ := List.getElem?_eq_some_iff.mp e
      rw [tgP_eq]
      refine ht y (e2 ▸ List.getElem_mem hi) _ _ (fun hp => ?_) (fun hp => ?_)
      · refine ⟨?_, rfl, ?_⟩
        · rw [List.length_map]
          have h1 := List.length_filter_le p (xs.take i)
          rw [List.length_take] at h1
          omega
        · rw [e3, List.filter_append, List.map_append]
          simp [hp]
      · refine ⟨rfl, ?_⟩
        rw [e3, List.filter_append, List.map_append]
        simp [hp]
  · obtain ⟨rfl, rfl⟩ := q
    rw [List.length_map, List.take_length]
    exact hq
/-- a comprehension; the store goes along -/
theorem LcP.st (xs : List α) (h : α → D) (I : List α → List D → Sto → Prop) (h0 : I [] [] S) (hs : ∀ ys acc S, I ys acc S → side S) (hz : xs.length ≤ sizeLine)
    (ht : ∀ ys x zs acc S, xs = ys ++ x :: zs → I ys acc S → ∀ (A : D → Sto → Prop) (B : Sto → Prop), (∀ y S3, I (ys ++ [x]) (acc ++ [y]) S3 → A y S3) → (∀ S2, I (ys ++ [x]) acc S2 → B S2) → tgP tg (h x) (wipeD ρ vs) fun ρ2 => t ρ2 S fun c S2 => bY c (w ρ2 S2 A) (B S2))
    (hd : ∀ acc S, I xs acc S → Q (.lst acc) S) : LcP (xs.map h) side tg t w vs ρ S Q := by
  refine ⟨fun i acc S' => acc.length ≤ i ∧ I (xs.take i) acc S', ⟨Nat.le_refl _, h0⟩, fun i acc S' _ q => hs _ _ _ q.2, fun i x acc S' hx q => ?_, fun acc S' q => ?_⟩
  · obtain ⟨ql, q⟩ := q
    rw [List.getElem?_map] at hx
    cases e : xs[i]? with
    | none => rw [e] at hx; cases hx
    | some y =>
      rw [e] at hx
      cases hx
      have e3 : xs.take (i + 1) = xs.take i ++ [y] := by rw [List.take_succ, e]; rfl
      obtain ⟨hi, e2⟩ := List.getElem?_eq_some_iff.mp e
      rw [tgP_eq]
      refine ht (xs.take i) y (xs.drop (i + 1)) acc S' (by rw [← e2, ← List.drop_eq_getElem_cons, List.take_append_drop]) q _ _ (fun z S3 hI => ⟨by omega, ?_, ?_⟩) (fun S2 hI => ⟨by omega, ?_⟩)
      · simp only [List.length_append, List.length_cons, List.length_nil]
        omega
      · rw [e3]
        exact hI
      · rw [e3]
        exact hI
  · rw [List.length_map, List.take_length] at q
    exact hd acc S' q.2
end
end Tk

/-! numbers and stores, for the executor -/
namespace Tk
open PySem L2
def nats (l : List Nat) : List D := l.map fun n => D.int (n : Nat)
theorem q_tup (S : Sto) (ds : List D) : seqOf S (.tup ds) = some ds := rfl
theorem q_lst (S : Sto) (ds : List D) : seqOf S (.lst ds) = some ds := rfl
theorem q_rd (S : Sto) (ds : List D) : seqOf S (.rd ds) = some ds := rfl
theorem q_ref (S : Sto) (l : Nat) : seqOf S (.ref l) = S[l]?.bind clL := by
  cases e : S[l]? with
  | none => simp [seqOf, e]
  | some c => cases c <;> simp [seqOf, e, clL]
theorem l_lst (S : Sto) (ds : List D) : lstOf S (.lst ds) = some ds := rfl
theorem l_ref (S : Sto) (l : Nat) : lstOf S (.ref l) = S[l]?.bind clL := by
  cases e : S[l]? with
  | none => simp [lstOf, e]
  | some c => cases c <;> simp [lstOf, e, clL]
theorem i_ins (S : Sto) (C : Addr) (ks : List Str) (ds : List D) : insOf S (.ins C ks ds) = some (C, ks, ds) := rfl
theorem i_ref (S : Sto) (l : Nat) : insOf S (.ref l) = S[l]?.bind clI := by
  cases e : S[l]? with
  | none => simp [insOf, e]
  | some c => cases c <;> simp [insOf, e, clI]
theorem d_dk (S : Sto) (kvs : List (Key × D)) : dkOf S (.dk kvs) = some kvs := rfl
theorem d_ref (S : Sto) (l : Nat) : dkOf S (.ref l) = S[l]?.bind clK := by
  cases e : S[l]? with
  | none => simp [dkOf, e]
  | some c => cases c <;> simp [dkOf, e, clK]
theorem cl_lst (ds : List D) : clL (.lst ds) = some ds := rfl
theorem cl_ins (C : Addr) (ks : List Str) (ds : List D) : clI (.ins C ks ds) = some (C, ks, ds) := rfl
theorem cl_dk (kvs : List (Key × D)) : clK (.dk kvs) = some kvs := rfl
theorem f_lst' (ds : List D) : fzO (.lst ds) = some (.lst ds) := rfl
theorem f_dk (kvs : List (Key × D)) : fzO (.dk kvs) = some (.dk kvs) := rfl
theorem f_ins (C : Addr) (ks : List Str) (ds : List D) : fzO (.ins C ks ds) = some (.ins C ks ds) := rfl
theorem sb (c : Cell) {α : Type} (f : Cell → Option α) : (some c).bind f = f c := rfl
theorem sj {α : Type} (c : α) : (some (some c)).join = some c := rfl
/-! stores -/
theorem g_app0 (S T : Sto) : (S ++ T)[S.length]? = T[0]? := by
  rw [List.getElem?_append_right (Nat.le_refl _), Nat.sub_self]
theorem g_app (S T : Sto) (k : Nat) : (S ++ T)[S.length + k]? = T[k]? := by
  rw [List.getElem?_append_right (Nat.le_add_right _ _), Nat.add_sub_cancel_left]
theorem s_app0 (S T : Sto) (c : Cell) : (S ++ T).set S.length c = S ++ T.set 0 c := by
  rw [List.set_append_right _ _ (Nat.le_refl _), Nat.sub_self]
theorem s_app (S T : Sto) (k : Nat) (c : Cell) : (S ++ T).set (S.length + k) c = S ++ T.set k c := by
  rw [List.set_append_right _ _ (Nat.le_add_right _ _), Nat.add_sub_cancel_left]
theorem g_lt (S T : Sto) {l : Nat} (h : l < S.length) : (S ++ T)[l]? = S[l]? := List.getElem?_append_left h
theorem s_lt (S T : Sto) {l : Nat} (c : Cell) (h : l < S.length) : (S ++ T).set l c = S.set l c ++ T := List.set_append_left _ _ h
/-! numbers -/
theorem ixN_nat (n k : Nat) : ixN n (k : Int) = if k < n then some k else none := by
  unfold ixN
  have h1 : (0 : Int) ≤ k := by omega
  rw [if_pos h1]
  by_cases h : k < n
  · rw [if_pos h, if_pos (by omega)]
    simp
  · rw [if_neg h, if_neg (by omega)]
theorem ixN_lt {n k : Nat} (h : k < n) : ixN n (k : Int) = some k := by rw [ixN_nat, if_pos h]
theorem at_nat {α : Type} (l : List α) (k : Nat) : atI l (k : Int) = l[k]? := by
  unfold atI
  rw [ixN_nat]
  split
  · rfl
  · rename_i h
    exact (List.getElem?_eq_none (by omega)).symm
theorem atI_0 {α : Type} (l : List α) : atI l 0 = l[0]? := at_nat l 0
theorem atI_1 {α : Type} (l : List α) : atI l 1 = l[1]? := at_nat l 1
theorem atI_2 {α : Type} (l : List α) : atI l 2 = l[2]? := at_nat l 2
theorem atI_3 {α : Type} (l : List α) : atI l 3 = l[3]? := at_nat l 3
theorem nats_get {l : List Nat} {k : Nat} (h : k < l.length) : (nats l)[k]? = some (.int (l.getD k 0 : Nat)) := by
  unfold nats
  rw [List.getElem?_map, List.getElem?_eq_getElem h, List.getD_eq_getElem?_getD, List.getElem?_eq_getElem h]
  rfl
theorem nats_len (l : List Nat) : (nats l).length = l.length := by simp [nats]
theorem ints_nats (l : List Nat) : intsOf (nats l) = some (l.map fun n : Nat => (n : Int)) := by
  have : nats l = (l.map fun n : Nat => (n : Int)).map D.int := by simp [nats]
  rw [this, intsOf_map]
theorem ints_ints (l : List Int) : intsOf (l.map D.int) = some l := intsOf_map l
theorem mem_cast (k : Nat) (l : List Nat) : decide ((k : Int) ∈ l.map fun n : Nat => (n : Int)) = decide (k ∈ l) := by
  rw [decide_eq_decide]
  simp only [List.mem_map]
  refine ⟨fun ⟨a, h, e⟩ => ?_, fun h => ⟨k, h, rfl⟩⟩
  have : a = k := by omega
  exact this ▸ h
theorem nats_app (l m : List Nat) : nats l ++ nats m = nats (l ++ m) := by simp [nats]
theorem nats_snoc (l : List Nat) (k : Nat) : nats l ++ [.int (k : Nat)] = nats (l ++ [k]) := by simp [nats]
theorem nats_nil : nats [] = [] := rfl
theorem nats_one (k : Nat) : nats [k] = [.int (k : Nat)] := rfl
theorem nats_rev (l : List Nat) : (nats l).reverse = nats l.reverse := by simp [nats]
theorem nats_set (l : List Nat) (i k : Nat) : (nats l).set i (.int (k : Nat)) = nats (l.set i k) := by simp [nats, List.map_set]
theorem map_erase {α β : Type} (f : α → β) : ∀ (l : List α) (i : Nat), (l.map f).eraseIdx i = (l.eraseIdx i).map f
  | [], _ => rfl
  | _ :: _, 0 => rfl
  | a :: l, i + 1 => congrArg (f a :: ·) (map_erase f l i)
theorem nats_erase (l : List Nat) (i : Nat) : (nats l).eraseIdx i = nats (l.eraseIdx i) := map_erase _ l i
theorem rng_0 (n : Nat) : rng 0 n = nats (List.range n) := by simp [rng, nats]
theorem rng_N (n : Nat) : rng 0 ((n : Int)).toNat = nats (List.range n) := by
  rw [Int.toNat_natCast]
  exact rng_0 n
theorem lt_cast (i j : Nat) : decide ((i : Int) < j) = decide (i < j) := by
  rw [decide_eq_decide]
  omega
theorem le_cast (i j : Nat) : decide ((i : Int) ≤ j) = decide (i ≤ j) := by
  rw [decide_eq_decide]
  omega
theorem add_cast (i j : Nat) : (i : Int) + j = ((i + j : Nat) : Int) := by omega
theorem add1_cast (i : Nat) : (i : Int) + 1 = ((i + 1 : Nat) : Int) := by omega
theorem max_cast (i j : Nat) : max (i : Int) j = ((max i j : Nat) : Int) := by omega
theorem sum_cast (l : List Nat) : (l.map fun n : Nat => (n : Int)).sum = ((l.sum : Nat) : Int) := by
  induction l with
  | nil => rfl
  | cons a l ih => simp only [List.map_cons, List.sum_cons, ih]; omega
theorem sz62 {n : Nat} (h : n ≤ 1000000) : -(2 ^ 62) ≤ (n : Int) ∧ (n : Int) < 2 ^ 62 := by omega
theorem szl {n : Nat} (h : n ≤ 1000000) : n ≤ sizeLine := by
  unfold sizeLine
  omega
theorem szlt {n : Nat} (h : n ≤ 1000000) : n < sizeLine := by
  unfold sizeLine
  omega

/-! ### equal data -/
theorem toP_int (S : Sto) (i : Int) : toPc S (.int i) = some (.int i) := rfl
theorem toP_bl (S : Sto) (i : Bool) : toPc S (.bl i) = some (.bool i) := rfl
theorem canI (i : Int) : SeqAt.shaped (.int i) = true := by rfl
theorem canB (i : Bool) : SeqAt.shaped (.bool i) = true := by rfl
theorem x_EqI (S : Sto) (Q : QE) (i j : Int) : zEq (.int i) (.int j) S Q = Q (.bl (decide (i = j))) S := by
  have e : PyData.eqv (.int i) (.int j) = decide (i = j) := by
    simp only [PyData.eqv]
    rfl
  exact propext ⟨fun ⟨_, _, e1, e2, _, _, h⟩ => by cases e1; cases e2; rw [e] at h; exact h, fun h => ⟨_, _, rfl, rfl, canI i, canI j, by rw [e]; exact h⟩⟩
theorem x_NeI (S : Sto) (Q : QE) (i j : Int) : zNe (.int i) (.int j) S Q = Q (.bl (!decide (i = j))) S := by
  have e : PyData.eqv (.int i) (.int j) = decide (i = j) := by
    simp only [PyData.eqv]
    rfl
  exact propext ⟨fun ⟨_, _, e1, e2, _, _, h⟩ => by cases e1; cases e2; rw [e] at h; exact h, fun h => ⟨_, _, rfl, rfl, canI i, canI j, by rw [e]; exact h⟩⟩
theorem x_NeB (S : Sto) (Q : QE) (i j : Bool) : zNe (.bl i) (.bl j) S Q = Q (.bl (!decide (i = j))) S := by
  have e : PyData.eqv (.bool i) (.bool j) = decide (i = j) := by
    cases i <;> cases j <;> rfl
  exact propext ⟨fun ⟨_, _, e1, e2, _, _, h⟩ => by cases e1; cases e2; rw [e] at h; exact h, fun h => ⟨_, _, rfl, rfl, canB i, canB j, by rw [e]; exact h⟩⟩
/-! plain data, no deeper than n: equal to itself -/
mutual
def flD (n : Nat) : D → Bool
  | .non => true
  | .bl _ => true
  | .int _ => true
  | .str x => (PyData.str x).canLay0
  | .tup ds => match n with
    | 0 => false
    | m + 1 => flDs m ds
  | .lst ds => match n with
    | 0 => false
    | m + 1 => flDs m ds
  | _ => false
def flDs (n : Nat) : List D → Bool
  | [] => true
  | d :: ds => flD n d && flDs n ds
end
mutual
theorem flD_ok (S : Sto) : ∀ (d : D) (n : Nat), flD n d = true → ∃ p, toP S d = some p ∧ p.canLay0 = true ∧ p.depth ≤ n ∧ PyData.eqv p p = true
  | .non, n, _ => ⟨.none, by rfl, by rfl, by simp [PyData.depth], by rfl⟩
  | .bl b, n, _ => ⟨.bool b, by rfl, by rfl, by simp [PyData.depth], by simp [PyData.eqv]⟩
  | .int b, n, _ => ⟨.int b, by rfl, by rfl, by simp [PyData.depth], by simp [PyData.eqv]⟩
  | .tup ds, 0, h => by simp [flD] at h
  | .tup ds, m + 1, h => by
    obtain ⟨ps, h1, h2, h3, h4⟩ := flDs_ok S ds m (by simpa [flD] using h)
    exact ⟨.tuple ps, by simp [toP, h1], by simpa [PyData.canLay0] using h2, by simpa [PyData.depth] using h3, by simpa [PyData.eqv] using h4⟩
  | .lst ds, 0, h => by simp [flD] at h
  | .lst ds, m + 1, h => by
    obtain ⟨ps, h1, h2, h3, h4⟩ := flDs_ok S ds m (by simpa [flD] using h)
    exact ⟨.list ps, by simp [toP, h1], by simpa [PyData.canLay0] using h2, by simpa [PyData.depth] using h3, by simpa [PyData.eqv] using h4⟩
  | .str x, n, h => ⟨.str x, by rfl, by simpa [flD] using h, by simp [PyData.depth], by simp [PyData.eqv]⟩
  | .ref _, n, h => by simp [flD] at h
  | .rd _, n, h => by simp [flD] at h
  | .dk _, n, h => by simp [flD] at h
  | .dt _, n, h => by simp [flD] at h
  | .ins _ _ _, n, h => by simp [flD] at h
theorem flDs_ok (S : Sto) : ∀ (ds : List D) (n : Nat), flDs n ds = true → ∃ p, toPs S ds = some p ∧ PyData.canLayAll0 p = true ∧ PyData.depthAll p ≤ n ∧ PyData.eqvAll p p = true
  | [], n, _ => ⟨[], by rfl, by rfl, by simp [PyData.depthAll], by rfl⟩
  | d :: ds, n, h => by
    simp only [flDs, Bool.and_eq_true] at h
    obtain ⟨p, h1, h2, h3, h4⟩ := flD_ok S d n h.1
    obtain ⟨ps, k1, k2, k3, k4⟩ := flDs_ok S ds n h.2
    refine ⟨p :: ps, by simp [toPs, h1, k1], by simp [PyData.canLayAll0, h2, k2], ?_, by simp [PyData.eqvAll, h4, k4]⟩
    simp only [PyData.depthAll]
    omega
end
theorem fl_pc {S : Sto} {d : D} (h : flD 60 d = true) : ∃ p, toPc S d = some p ∧ SeqAt.shaped p = true ∧ PyData.eqv p p = true := by
  obtain ⟨p, h1, h2, h3, h4⟩ := flD_ok S d 60 h
  refine ⟨p, ?_, ?_, h4⟩
  · cases d <;> first
      | exact h1
      | (simp [flD] at h)
  · unfold SeqAt.shaped
    rw [h2, decide_eq_true (show p.depth ≤ 64 by omega)]
    rfl
theorem x_EqS {S : Sto} {Q : QE} {d : D} (h : flD 60 d = true) (q : Q (.bl true) S) : zEq d d S Q := by
  obtain ⟨p, h1, h2, h3⟩ := fl_pc (S := S) h
  exact ⟨p, p, h1, h1, h2, h2, by rw [h3]; exact q⟩
theorem x_NeS {S : Sto} {Q : QE} {d : D} (h : flD 60 d = true) (q : Q (.bl false) S) : zNe d d S Q := by
  obtain ⟨p, h1, h2, h3⟩ := fl_pc (S := S) h
  exact ⟨p, p, h1, h1, h2, h2, by rw [h3]; exact q⟩
theorem x_NeR {S : Sto} {Q : QE} {l : Nat} {ds : List D} (hc : S[l]? = some (.lst ds)) (h : flD 60 (.lst ds) = true) (q : Q (.bl false) S) : zNe (.ref l) (.lst ds) S Q := by
  obtain ⟨p, h1, h2, h3⟩ := fl_pc (S := S) h
  have h0 : toPc S (.ref l) = some p := by
    have h1' : toP S (.lst ds) = some p := h1
    simp only [toP] at h1'
    simp only [toPc, hc]
    exact h1'
  exact ⟨p, p, h0, h1, h2, h2, by rw [h3]; exact q⟩
theorem flDs_all {n : Nat} : ∀ {ds : List D}, (∀ d ∈ ds, flD n d = true) → flDs n ds = true
  | [], _ => rfl
  | d :: ds, h => by
    simp only [flDs, Bool.and_eq_true]
    exact ⟨h d (by simp), flDs_all fun e he => h e (by simp [he])⟩
theorem flDs_nats (n : Nat) (l : List Nat) : flDs n (nats l) = true := flDs_all fun d h => by
  simp only [nats, List.mem_map] at h
  obtain ⟨a, _, rfl⟩ := h
  cases n <;> rfl
theorem fl_tup (n : Nat) (l : List Nat) : flD (n + 1) (.tup (nats l)) = true := by
  simp only [flD]
  exact flDs_nats n l
theorem fl_lst (n : Nat) (l : List Nat) : flD (n + 1) (.lst (nats l)) = true := by
  simp only [flD]
  exact flDs_nats n l

/-! ### how a def ends -/
theorem ok_non (n : Nat) : OkD n .non := .non
theorem ok_bl (n : Nat) (b : Bool) : OkD n (.bl b) := .bl b
theorem ok_int (n : Nat) (b : Int) : OkD n (.int b) := .int b
theorem oks_all {n : Nat} : ∀ {ds : List D}, (∀ d ∈ ds, OkD n d) → OkDs n ds
  | [], _ => .nil
  | d :: ds, h => .cons (h d (by simp)) (oks_all fun e he => h e (by simp [he]))
theorem oks_nats (n : Nat) (l : List Nat) : OkDs n (nats l) := oks_all fun d h => by
  simp only [nats, List.mem_map] at h
  obtain ⟨a, _, rfl⟩ := h
  exact .int _
theorem oks_ints (n : Nat) (l : List Int) : OkDs n (l.map D.int) := oks_all fun d h => by
  simp only [List.mem_map] at h
  obtain ⟨a, _, rfl⟩ := h
  exact .int _
theorem ok_tup (n : Nat) (l : List Nat) : OkD n (.tup (nats l)) := .tup (oks_nats n l)
theorem ok_lst (n : Nat) (l : List Nat) : OkD n (.lst (nats l)) := .lst (oks_nats n l)
theorem back_app (S T : Sto) : Back S (S ++ T) := fun i c hi h => .inl (by rwa [List.getElem?_append_left hi] at h)
theorem back_rfl (S : Sto) : Back S S := fun i c hi h => .inl h
theorem back_set {S : Sto} (l : Nat) (c : Cell) (T : Sto) (h : OkC S.length c) : Back S (S.set l c ++ T) := fun i d hi e => by
  rw [List.getElem?_append_left (by rw [List.length_set]; exact hi), List.getElem?_set] at e
  split at e
  · split at e
    · cases e
      exact .inr h
    · cases e
  · exact .inl e
theorem cut_app {S T : Sto} {Q : QE} {d : D} (h : OkD S.length d) (q : Q d S) : flCut S Q d (S ++ T) := ⟨h, back_app S T, by rw [List.take_left' rfl]; exact q⟩
theorem cut_rfl {S : Sto} {Q : QE} {d : D} (h : OkD S.length d) (q : Q d S) : flCut S Q d S := ⟨h, back_rfl S, by rw [List.take_length]; exact q⟩
theorem cut_set {S T : Sto} {Q : QE} {d : D} {l : Nat} {c : Cell} (h : OkD S.length d) (hc : OkC S.length c) (q : Q d (S.set l c)) : flCut S Q d (S.set l c ++ T) := ⟨h, back_set l c T hc, by
  rw [List.take_left' (List.length_set ..)]
  exact q⟩
theorem cut_set0 {S : Sto} {Q : QE} {d : D} {l : Nat} {c : Cell} (h : OkD S.length d) (hc : OkC S.length c) (q : Q d (S.set l c)) : flCut S Q d (S.set l c) := by
  have := cut_set (T := []) h hc q
  rwa [List.append_nil] at this
theorem e_rt (fl : Fin) (S : Sto) (Q : QE) (d : D) (S' : Sto) : (esDef fl S Q).rt d S' = fl S Q d S' := rfl
theorem e_nx (fl : Fin) (S : Sto) (Q : QE) (ρ : Nv) (S' : Sto) : (esDef fl S Q).nx ρ S' = fl S Q .non S' := rfl
end Tk
namespace Tk
theorem lt0 (x : Nat) : decide ((x : Int) < 0) = false := by
  rw [decide_eq_false_iff_not]
  omega
theorem ge0 (x : Nat) : decide (0 ≤ (x : Int)) = true := by
  rw [decide_eq_true_eq]
  omega
theorem eq0 (x : Nat) : decide ((x : Int) = 0) = decide (x = 0) := by
  rw [decide_eq_decide]
  omega
theorem gt0 (x : Nat) : decide (0 < (x : Int)) = decide (0 < x) := by
  rw [decide_eq_decide]
  omega
theorem eq_cast (i j : Nat) : decide ((i : Int) = j) = decide (i = j) := by
  rw [decide_eq_decide]
  omega
theorem sub1_cast {k : Nat} (h : 0 < k) : (k : Int) - 1 = ((k - 1 : Nat) : Int) := by omega
theorem ForP.ofNats {α : Type} {side : Sto → Prop} {g : WG} {b : WS} {E : Es} {ρ : Nv} {S : Sto} {xs : List Nat} (h : ForP (xs.map fun n : Nat => D.int (n : Nat)) side g b E ρ S) : ForP (nats xs) side g b E ρ S := h
end Tk
namespace Tk
theorem x_AddT (S : Sto) (Q : QE) (as bs : List D) : zAdd (.tup as) (.tup bs) S Q = bP (as.length + bs.length ≤ PySem.sizeLine) (Q (.tup (as ++ bs)) S) := rfl
theorem z0 : (0 ≤ PySem.sizeLine) = True := eq_true (szl (by omega))
theorem z1 : (1 ≤ PySem.sizeLine) = True := eq_true (szl (by omega))
theorem z2 : (2 ≤ PySem.sizeLine) = True := eq_true (szl (by omega))
theorem z3 : (3 ≤ PySem.sizeLine) = True := eq_true (szl (by omega))
theorem z4 : (4 ≤ PySem.sizeLine) = True := eq_true (szl (by omega))
theorem z5 : (5 ≤ PySem.sizeLine) = True := eq_true (szl (by omega))
theorem z6 : (6 ≤ PySem.sizeLine) = True := eq_true (szl (by omega))
theorem z0' : (0 < PySem.sizeLine) = True := eq_true (szlt (by omega))
end Tk
namespace Tk
theorem seq_app {S : Sto} {d : D} {ds : List D} (h : seqOf S d = some ds) (T : Sto) : seqOf (S ++ T) d = some ds := by
  cases d with
  | ref l =>
    rw [q_ref] at h ⊢
    by_cases hl : l < S.length
    · rw [List.getElem?_append_left hl]
      exact h
    · rw [List.getElem?_eq_none (by omega)] at h
      cases h
  | _ => exact h
theorem seq_set {S : Sto} {d : D} {ds : List D} {l : Nat} {c : Cell} (h : seqOf S d = some ds) (hl : S[l]?.bind clL = none) : seqOf (S.set l c) d = some ds := by
  cases d with
  | ref m =>
    rw [q_ref] at h ⊢
    by_cases e : l = m
    · subst e
      rw [hl] at h
      cases h
    · rw [List.getElem?_set_ne e]
      exact h
  | _ => exact h
end Tk
namespace Tk
theorem gs_self {S : Sto} {l : Nat} {c : Cell} (h : l < S.length) : (S.set l c)[l]? = some c := List.getElem?_set_self h
theorem gs_ne {S : Sto} {l m : Nat} {c : Cell} (h : l ≠ m) : (S.set l c)[m]? = S[m]? := List.getElem?_set_ne h
theorem back_set2 {S : Sto} (l m : Nat) (c d : Cell) (T : Sto) (h : OkC S.length c) (k : OkC S.length d) : Back S ((S.set l c).set m d ++ T) := fun i x hi e => by
  rw [List.getElem?_append_left (by rw [List.length_set, List.length_set]; exact hi), List.getElem?_set] at e
  split at e
  · split at e
    · cases e
      exact .inr k
    · cases e
  · exact back_set l c [] h i x hi (by rw [List.append_nil]; exact e)
theorem cut_set2 {S T : Sto} {Q : QE} {d : D} {l m : Nat} {c c' : Cell} (h : OkD S.length d) (hc : OkC S.length c) (hc' : OkC S.length c') (q : Q d ((S.set l c).set m c')) : flCut S Q d ((S.set l c).set m c' ++ T) := ⟨h, back_set2 l m c c' T hc hc', by
  rw [List.take_left' (by rw [List.length_set, List.length_set])]
  exact q⟩
theorem cut_set20 {S : Sto} {Q : QE} {d : D} {l m : Nat} {c c' : Cell} (h : OkD S.length d) (hc : OkC S.length c) (hc' : OkC S.length c') (q : Q d ((S.set l c).set m c')) : flCut S Q d ((S.set l c).set m c') := by
  have := cut_set2 (T := []) h hc hc' q
  rwa [List.append_nil] at this
end Tk
namespace Tk
theorem flt_t {α : Type} (l : List α) : l.filter (fun _ => true) = l := List.filter_eq_self.mpr fun _ _ => rfl
end Tk
namespace Tk
open L2 PySem
theorem ForP.rangeH {side : Sto → Prop} {g : WG} {b : WS} {E : Es} {ρ : Nv} {S : Sto} (n : Nat) (h : Nat → D) (I : Nat → Nv → Sto → Prop) (h0 : I 0 ρ S) (hs : ∀ i ρ S, I i ρ S → side S)
    (ht : ∀ i ρ S, i < n → I i ρ S → g (h i) ρ S fun ρ2 S2 => b { E with nx := I (i + 1), ct := I (i + 1), bk := E.nx } ρ2 S2) (hd : ∀ ρ S, I n ρ S → E.nx ρ S) : ForP ((List.range n).map h) side g b E ρ S := by
  refine ⟨I, h0, fun i ρ S _ p => hs i ρ S p, fun i x ρ S hx p => ?_, fun ρ S p => hd ρ S ?_⟩
  · rw [List.getElem?_map] at hx
    cases e : (List.range n)[i]? with
    | none => rw [e] at hx; cases hx
    | some y =>
      obtain ⟨hi, e2⟩ := List.getElem?_eq_some_iff.mp e
      rw [List.getElem_range] at e2
      subst e2
      rw [e] at hx
      cases hx
      rw [List.length_range] at hi
      exact ht i ρ S hi p
  · rw [List.length_map, List.length_range] at p
    exact p
theorem bor_cast (a b : Nat) : Builtin.bitOr (a : Int) (b : Int) = ((a ||| b : Nat) : Int) := by
  unfold Builtin.bitOr Builtin.bitAnd Builtin.bitNot
  have h1 : decide (0 ≤ -(a : Int) - 1) = false := by rw [decide_eq_false_iff_not]; omega
  have h2 : decide (0 ≤ -(b : Int) - 1) = false := by rw [decide_eq_false_iff_not]; omega
  have h3 : (-(-(a : Int) - 1) - 1).toNat = a := by omega
  have h4 : (-(-(b : Int) - 1) - 1).toNat = b := by omega
  rw [h1, h2]
  simp only [h3, h4]
  try omega
theorem band_cast (a b : Nat) : Builtin.bitAnd (a : Int) (b : Int) = ((a &&& b : Nat) : Int) := by
  unfold Builtin.bitAnd
  have h1 : decide (0 ≤ (a : Int)) = true := by rw [decide_eq_true_eq]; omega
  have h2 : decide (0 ≤ (b : Int)) = true := by rw [decide_eq_true_eq]; omega
  rw [h1, h2]
  rfl
theorem shl_cast (k : Nat) : (1 : Int) * 2 ^ (k : Int).toNat = ((1 <<< k : Nat) : Int) := by
  rw [Int.toNat_natCast, Int.one_mul, Nat.shiftLeft_eq, Nat.one_mul, Int.natCast_pow]
  try rfl
theorem shr_cast (m k : Nat) : (m : Int) / 2 ^ (k : Int).toNat = ((m >>> k : Nat) : Int) := by
  rw [Int.toNat_natCast, Nat.shiftRight_eq_div_pow, Int.natCast_ediv, Int.natCast_pow]
  try rfl
theorem bit_1 (m k : Nat) : decide (Builtin.bitAnd ((m >>> k : Nat) : Int) 1 = 1) = m.testBit k := by
  have := band_cast (m >>> k) 1
  rw [show ((1 : Nat) : Int) = 1 from rfl] at this
  rw [this]
  unfold Nat.testBit
  rw [Nat.and_comm 1]
  have h := Nat.and_one_is_mod (m >>> k)
  rw [h]
  have h2 := Nat.mod_two_eq_zero_or_one (m >>> k)
  rcases h2 with h2 | h2 <;> rw [h2] <;> decide
theorem bit_0 (m k : Nat) : decide (Builtin.bitAnd ((m >>> k : Nat) : Int) 1 = 0) = !m.testBit k := by
  have := band_cast (m >>> k) 1
  rw [show ((1 : Nat) : Int) = 1 from rfl] at this
  rw [this]
  unfold Nat.testBit
  rw [Nat.and_comm 1]
  have h := Nat.and_one_is_mod (m >>> k)
  rw [h]
  have h2 := Nat.mod_two_eq_zero_or_one (m >>> k)
  rcases h2 with h2 | h2 <;> rw [h2] <;> decide
end Tk
namespace Tk
theorem shl_cast' (k : Nat) : (1 * 2 ^ k : Int) = ((1 <<< k : Nat) : Int) := by
  have := shl_cast k
  rwa [Int.toNat_natCast] at this
theorem shr_cast' (m k : Nat) : ((m : Int) / (2 : Int) ^ k) = ((m >>> k : Nat) : Int) := by
  have := shr_cast m k
  rwa [Int.toNat_natCast] at this
end Tk
namespace Tk
open L2 PySem
theorem gset0 (S T : Sto) (l : Nat) (x : Cell) : (S.set l x ++ T)[S.length]? = T[0]? := by
  have := g_app0 (S.set l x) T
  rwa [List.length_set] at this
theorem gset (S T : Sto) (l : Nat) (x : Cell) (k : Nat) : (S.set l x ++ T)[S.length + k]? = T[k]? := by
  have := g_app (S.set l x) T k
  rwa [List.length_set] at this
theorem sset0 (S T : Sto) (l : Nat) (x c : Cell) : (S.set l x ++ T).set S.length c = S.set l x ++ T.set 0 c := by
  have := s_app0 (S.set l x) T c
  rwa [List.length_set] at this
theorem sset (S T : Sto) (l : Nat) (x : Cell) (k : Nat) (c : Cell) : (S.set l x ++ T).set (S.length + k) c = S.set l x ++ T.set k c := by
  have := s_app (S.set l x) T k c
  rwa [List.length_set] at this
theorem one_add (r : Nat) : (1 : Int) + (r : Nat) = ((r + 1 : Nat) : Int) := by omega
end Tk

/-! more walks and tests -/
namespace Tk
open PySem PySem.Spec PyProof.Rows L2
/-- a new tuple, frozen -/
theorem fresh_tup {K : PySem.W.Frag} {W : Wd} {S : Sto} {xs : List V} {ds : List D} {p : Addr} (hs : Hs K W S) (rv : RVs K W.G W.e xs ds) (hp : W.H p = none) : ∃ W', W'.H = upd W.H p (.tup xs) ∧ Le W W' ∧ Hs K W' S ∧ RV K W'.G W'.e (.ref p) (.tup ds) := by
  obtain ⟨n, hs2⟩ := New.laid (o := .tup xs) hs hp
  obtain ⟨l, hs3, sm⟩ := n.frz hs2 (fun _ z => by cases z)
  exact ⟨⟨upd W.G p (.tup xs), W.e, upd W.H p (.tup xs)⟩, rfl, l, hs3, .tup upd_same (rv.mono sm fun _ _ q => q)⟩
/-! enumerate(list) -/
def enm (ds : List D) : List D := ds.mapIdx fun i d => .tup [.int (i : Nat), d]
theorem enm_len (ds : List D) : (enm ds).length = ds.length := by simp [enm]
theorem enm_get {ds : List D} {i : Nat} {d : D} (h : ds[i]? = some d) : (enm ds)[i]? = some (.tup [.int (i : Nat), d]) := by simp [enm, h]
def wEn (w : WE) : WI := fun ρ S Q => w ρ S fun x S1 => ∃ ds, lstOf S1 x = some ds ∧ Q (enm ds) (fun S => lstOf S x = some ds) S1
theorem jok_enum {K : PySem.W.Frag} {W0 : Wd} {x : D} {a : Addr} {ds : List D} (r : RV K W0.G W0.e (.ref a) x) : JOk K W0 (Ite K a) (enm ds) (fun S => lstOf S x = some ds) where
  go := fun W S i l hs sd hi => by
    rw [enm_len] at hi
    obtain ⟨a', vs, e, ha, hv⟩ := hs.lst (l.rv r) sd
    cases e
    have hi' : i < vs.length := by rw [hv.length]; exact hi
    exact ⟨vs, vs[i], SqL.of ha, List.getElem?_eq_getElem hi'⟩
  yld := fun W S i v H' l hs sd hi hy => by
    rw [enm_len] at hi
    obtain ⟨a', vs, e, ha, hv⟩ := hs.lst (l.rv r) sd
    cases e
    obtain ⟨T, x', rfl, hT, rfl, hx⟩ := hy
    have h1 := hx vs (SqL.of ha)
    obtain ⟨d, hd, rd⟩ := hv.get' h1
    obtain ⟨W', e1, l1, hs1, r1⟩ := fresh_tup hs (.cons (.int (i : Nat)) (.cons rd .nil)) hT
    exact ⟨W', _, e1, l1, hs1, enm_get hd, r1⟩
  stop := fun W S l hs sd => by
    obtain ⟨a', vs, e, ha, hv⟩ := hs.lst (l.rv r) sd
    cases e
    exact ⟨vs, SqL.of ha, by rw [enm_len, hv.length]; exact Nat.le_refl _⟩
theorem ji_enum {X : Cx} {e : Expr} {w : WE} {p pos tpos : Pos} {elts : List Expr} {kk : Nat} (hg : Gl X "enumerate") (hm : X.mg "enumerate" = none) (he : JE X e w) (hs : starEach [e] X.env = [(false, eval e X.env)] := by rfl) : JI X (.Tuple elts kk tpos) (.Call (.Name "enumerate" p) [e] [] pos) (wEn w) :=
  pi_weak (pi_enum hg hm (ja_cons he ja_nil hs) hs) fun σ H Q ⟨W, ρ, S, R, hH, hs0, re, hw, k⟩ => ⟨W, ρ, S, fun ds S1 => match ds with
    | [x] => ∃ ds', lstOf S1 x = some ds' ∧ R (enm ds') (fun S => lstOf S x = some ds') S1
    | _ => False, hH, hs0, re, hw, fun W1 S1 xs ds l1 hs1 rv h1 => by
    match ds, rv, h1 with
    | [d], .cons r .nil, ⟨ds', h1, h2⟩ =>
      obtain ⟨a, vs, rfl, ha, hv⟩ := hs1.lst r h1
      exact ⟨a, vs, rfl, SqL.of ha, k W1 S1 (Ite X.K a) (enm ds') (fun S => lstOf S d = some ds') l1 hs1 (jok_enum r) h1 h2⟩⟩
/-! truth of a list, a tuple, a number -/
def truD (S : Sto) : D → Option Bool
  | .non => some false
  | .bl b => some b
  | .int i => some (i != 0)
  | .tup ds => some (!ds.isEmpty)
  | .lst ds => some (!ds.isEmpty)
  | .rd ds => some (!ds.isEmpty)
  | .ref l => match S[l]? with
    | some (.lst ds) => some (!ds.isEmpty)
    | _ => none
  | _ => none
theorem RVs.isEmpty {K : PySem.W.Frag} {G : Hp} {e : List Addr} {vs : List V} {ds : List D} (r : RVs K G e vs ds) : vs.isEmpty = ds.isEmpty := by
  cases r <;> rfl
theorem RV.tru {K : PySem.W.Frag} {W : Wd} {S : Sto} {x : V} {d : D} {b : Bool} (hs : Hs K W S) (r : RV K W.G W.e x d) (h : truD S d = some b) : TruV K x W.H b := by
  cases r with
  | non => cases h; exact rfl
  | bl c => cases h; exact rfl
  | int i => cases h; exact rfl
  | tup hg hv =>
    cases h
    exact .inr (.inl ⟨_, Same.sqT hs.g (tq hg), by rw [hv.isEmpty]⟩)
  | lst hg hv =>
    cases h
    exact .inl ⟨_, SqL.of (hs.g _ _ hg), by rw [hv.isEmpty]⟩
  | rd hg hv =>
    cases h
    exact .inl ⟨_, hs.g.seq hg, by rw [hv.isEmpty]⟩
  | ref he =>
    simp only [truD] at h
    split at h
    · rename_i ds hc
      cases h
      obtain ⟨vs, h1, h2⟩ := hs.cellL he hc
      exact .inl ⟨vs, SqL.of h1, by rw [h2.isEmpty]⟩
    · cases h
  | _ => cases h
def wTt (w : WE) : WT := fun ρ S Q => w ρ S fun x S1 => ∃ b, truD S1 x = some b ∧ Q b S1
theorem jt_truth {X : Cx} {e : Expr} {w : WE} (h : JE X e w) (he : ∀ whole, isTrue e X.env whole = (do let v ← whole; standAt e.pos; holding [v] (truthy v)) := by intro _; rfl) : JT X e (wTt w) :=
  pt_weak (pt_truth h he) fun σ H Q ⟨W, ρ, S, R, hH, hs, re, hw, k⟩ => ⟨W, ρ, S, _, hH, hs, re, hw, fun W1 S1 x d l1 hs1 r1 ⟨b, h1, h2⟩ => ⟨b, r1.tru hs1 h1, k W1 S1 b l1 hs1 h2⟩⟩
/-! tuple * n -/
theorem tuple_mul1 (l : Addr) (items : Array Value) (n : Nat) (dd : Option Addr) (sl : Array (Option Value)) (u : Tok) :
    Meets (Builtin.«tuple.__mul__» ⟨[.ref l, .int 1 u], []⟩) (fun _ R s => s.heap.get? l = some { cls := .type "tuple", dict := dd, data := .seq items n, slots := sl } ∧
      R (.ok (.ret (Value.ref l))) s) :=
  .of_wp fun prog w A R s h => by
    obtain ⟨hp, g, d, tk, os⟩ := s
    obtain ⟨hl, h⟩ := h
    have f1 := AutoSeq1.idx_int
    wp_walk using wpAny_loadPart' hl
    exact ⟨_, rfl, h⟩
def rRep1 (K : PySem.W.Frag) : R2 := fun x y H Q => ∃ l xs, x = .ref l ∧ y = .int 1 ∧ SqT K H l xs ∧ Q (.ref l) H
theorem op_rep1 {X : Cx} : OpR X (binaryOp .Mult) (rRep1 X.K) := by
  intro pins s σ H x y v u Q I rx ry h
  obtain ⟨l, xs, rfl, rfl, hT, q⟩ := h
  cases rx
  obtain ⟨t, rfl⟩ := ry
  obtain ⟨its, r, ⟨⟨cls, dd, data, sl⟩, ho, hc, n, hd⟩, hs⟩ := I.tuple hT
  simp only at hc hd
  subst hc hd
  refine wpAny_binaryOp_repeat_ref (T := "tuple") (U := "int") (by decide) ⟨_, ho, rfl⟩ (fun s' => typeIs_int s' 1 t) noFill_tuple_mul F.fills_int_mul F.slot_int_rmul repeat_tuple F.slot_int_index.lookup
    (call_meets F.slot_int_rmul (typeIs_int s 1 t) F.entry_int_rmul (F.args_int_rmul_2 _ _) (int_rmul_tuple 1 t l its.toArray n dd sl)
      ⟨ho, rfl, ⟨_, ho, rfl⟩, call_meets F.slot_tuple_mul ⟨_, ho, rfl⟩ F.entry_tuple_mul (F.args_tuple_mul_2 _ _) (tuple_mul1 l its.toArray n dd sl t) ⟨ho, ?_⟩⟩)
  exact ⟨.ref l, H, I, rfl, q⟩
def zRepT : Z2 := fun x y S Q => ∃ ds n, x = .tup ds ∧ y = .int n ∧ ds ≠ [] ∧ 1 ≤ n ∧ n ≤ 1000 ∧ ds.length ≤ 1000 ∧ Q (.tup (List.replicate n.toNat ds).flatten) S
theorem o_repT {X : Cx} : OpR X (binaryOp .Mult) (r2 X.K zRepT) := by
  intro pins s σ H x y v u Q I rx ry ⟨W, S, dx, dy, R, hH, hs, q1, q2, ⟨ds, n, e1, e2, h0, h1, h2, h3, hq⟩, k⟩
  subst hH e1 e2
  cases q2
  cases q1 with
  | tup hg hv =>
    by_cases e : n = 1
    · subst e
      refine op_rep1 pins s σ W.H _ _ v u Q I rx ry ⟨_, _, rfl, rfl, Same.sqT hs.g (tq hg), ?_⟩
      have e1 : (List.replicate (1 : Int).toNat ds).flatten = ds := by
        show (List.replicate 1 ds).flatten = ds
        simp
      rw [e1] at hq
      exact k.now hs (.tup hg hv) hq
    · refine op_repT pins s σ W.H _ _ v u Q I rx ry ⟨_, n, _, rfl, rfl, Same.sqT hs.g (tq hg), fun z => h0 ?_, by omega, h2, by rw [hv.length]; exact h3, fun p hp => ?_⟩
      · subst z
        cases hv
        rfl
      · exact k.tup hs (hv.rep n.toNat) hq p hp
/-! xs.index(y), ints -/
def zIndex : Zm := fun x xs S Q => ∃ ds ns i j, xs = [.int i] ∧ lstOf S x = some ds ∧ intsOf ds = some ns ∧ ns[j]? = some i ∧ (∀ m, m < j → ns[m]? ≠ some i) ∧ Q (.int (j : Nat)) S
theorem rvs_ints_eq {K : PySem.W.Frag} {G : Hp} {e : List Addr} : ∀ {vs : List V} {ns : List Int}, RVs K G e vs (ns.map D.int) → vs = ns.map V.int
  | [], [], _ => rfl
  | [], _ :: _, h => by cases h
  | _ :: _, [], h => by cases h
  | v :: vs, n :: ns, h => by
    cases h with
    | cons r t =>
      cases r
      rw [rvs_ints_eq t]
      rfl
theorem m_index {X : Cx} : MtR X "list.index" (rm X.K zIndex) := by
  intro pins s σ H x xs v us Q I rx rs ⟨W, S, dx, ds, R, hH, hs, q1, q2, ⟨es, ns, i, j, e1, h1, h2, h3, h4, hq⟩, k⟩
  subst hH e1
  obtain ⟨w0, rfl, rw0⟩ := q2.one
  cases rw0
  obtain ⟨a, vs, rfl, ha, hv⟩ := hs.lst q1 h1
  have he := intsOf_eq h2
  subst he
  have hvs := rvs_ints_eq hv
  subst hvs
  refine mt_index pins s σ W.H _ _ v us Q I rx rs ⟨a, _, .int i, j, .int i, rfl, rfl, SqL.of ha, rfl, ?_, ?_, ?_, fun m z' hm hz => ?_, k.now hs (.int _) hq⟩
  · exact flat_ints ns
  · rw [List.getElem?_map, h3]
    rfl
  · exact beq_self_eq_true i
  · rw [List.getElem?_map] at hz
    cases e : ns[m]? with
    | none => rw [e] at hz; cases hz
    | some y =>
      rw [e] at hz
      cases hz
      show (y == i) = false
      rw [beq_eq_false_iff_ne]
      exact fun z => h4 m hm (z ▸ e)
end Tk

/-! dicts whose keys are flat tuples -/
namespace Tk
open PySem PySem.Spec PyProof.Rows L2
def dtOf (S : Sto) : D → Option (List (List Key × D))
  | .dt kvs => some kvs
  | .ref l => match S[l]? with
    | some (.dt kvs) => some kvs
    | some (.lt kvs _ _) => some kvs
    | _ => none
  | _ => none
def keyT (ks : List Key) : D := .tup (ks.map kD)
theorem rvs_key {K : PySem.W.Frag} {G : Hp} {e : List Addr} : ∀ {ks : List Key} {vs : List V}, RVs K G e vs (ks.map kD) → vs = ks.map kV
  | [], [], _ => rfl
  | [], _ :: _, h => by cases h
  | _ :: _, [], h => by cases h
  | k :: ks, v :: vs, h => by
    cases h with
    | cons r t =>
      rw [r.key, rvs_key t]
      rfl
theorem RV.atKey {K : PySem.W.Frag} {G : Hp} {e : List Addr} {x : V} {ks : List Key} (r : RV K G e x (keyT ks)) : ∃ b, x = .ref b ∧ G b = some (.tup (ks.map kV)) := by
  cases r with
  | tup hg hv =>
    rw [rvs_key hv] at hg
    exact ⟨_, rfl, hg⟩
theorem Hs.dt {K : PySem.W.Frag} {W : Wd} {S : Sto} (h : Hs K W S) {x : V} {d : D} {kvs : List (List Key × D)} (r : RV K W.G W.e x d) (hd : dtOf S d = some kvs) : ∃ a kws, x = .ref a ∧ Rd W.H a (.dT kws) ∧ kws.map (·.1) = kvs.map (·.1) ∧ RVs K W.G W.e (kws.map (·.2)) (kvs.map (·.2)) := by
  cases r with
  | dt hg hk hv =>
    cases hd
    exact ⟨_, _, rfl, .inl (h.g _ _ hg), hk, hv⟩
  | ref he =>
    simp only [dtOf] at hd
    split at hd
    · rename_i hc
      cases hd
      obtain ⟨_, o, h1, h2⟩ := h.at he hc (by simp)
      cases o <;> first
        | exact h2.elim
        | exact ⟨_, _, rfl, .inl h1, h2.1, h2.2⟩
    · rename_i hc
      cases hd
      obtain ⟨_, o, h1, h2⟩ := h.at he hc (by simp)
      cases o <;> first
        | exact h2.elim
        | (obtain ⟨_, _, kws, rfl, h3, h4⟩ := h2
           exact ⟨_, kws, rfl, .inr ⟨_, h1⟩, h3, h4⟩)
    · cases hd
  | _ => cases hd
theorem dget_t {H : Hp} {a b : Addr} {kvs : List (List Key × V)} {k : List Key} (e : Rd H a (.dT kvs)) (eb : H b = some (.tup (k.map kV))) : DGet H a (.ref b) (valV kvs k) := .inr ⟨kvs, k, b, e, rfl, eb, rfl⟩
def wTNew : WF := fun _ S Q => Q (.dt []) S
def sTPut (wd wk wv : WE) : WS := fun E ρ S => wv ρ S fun v S1 => wd ρ S1 fun x S2 => wk ρ S2 fun y S3 => ∃ l kvs k, x = .ref l ∧ y = keyT k ∧ S3[l]? = some (.dt kvs) ∧ kvs.length < sizeLine ∧ E.nx ρ (S3.set l (.dt (putK' k v kvs)))
def wTGet (wd wk : WE) : WE := fun ρ S Q => wd ρ S fun x S1 => wk ρ S1 fun y S2 => ∃ kvs k d, dtOf S2 x = some kvs ∧ y = keyT k ∧ getK kvs k = some d ∧ Q d S2
def wTGet2 (wd wk wx : WE) : WE := fun ρ S Q => wd ρ S fun x S1 => (∃ kvs, dtOf S1 x = some kvs) ∧ wk ρ S1 fun y S2 => wx ρ S2 fun z S3 => ∃ kvs k, dtOf S3 x = some kvs ∧ y = keyT k ∧ Q ((getK kvs k).getD z) S3
def zTIn : Z2 := fun x y S Q => ∃ kvs k, dtOf S y = some kvs ∧ x = keyT k ∧ Q (.bl (getK kvs k).isSome) S
def zTNotIn : Z2 := fun x y S Q => ∃ kvs k, dtOf S y = some kvs ∧ x = keyT k ∧ Q (.bl (!(getK kvs k).isSome)) S
section
variable {X : Cx} {pos pos' : Pos}
theorem KtF.dt {K : PySem.W.Frag} {W : Wd} {S : Sto} {R : Cell → Sto → Prop} {Q : VK} (k : KtF K W R Q) (hs : Hs K W S) {kws : List (List Key × V)} {kvs : List (List Key × D)} (h1 : kws.map (·.1) = kvs.map (·.1)) (rv : RVs K W.G W.e (kws.map (·.2)) (kvs.map (·.2))) (h : R (.dt kvs) S) (p : Addr) (hp : W.H p = none) : Q (.ref p) (upd W.H p (.dT kws)) := by
  obtain ⟨n, hs2⟩ := New.laid (o := .dT kws) hs hp
  exact k ⟨W.G, W.e, upd W.H p (.dT kws)⟩ S p _ (.dt kvs) n hs2 ⟨h1, rv⟩ h
theorem f_dnewT : JF X (.Dict [] [] pos) wTNew := pe_weak pe_dnewT fun σ H Q ⟨W, ρ, S, R, hH, hs, re, hw, k⟩ => by
  subst hH
  exact fun p hp => k.dt hs (kws := []) (kvs := []) rfl .nil hw p hp
theorem s_tput {ed ek ev : Expr} {wd wk wv : WE} (hu : X.A.units + 1 < cLine) (hd : JE X ed wd) (hk : JE X ek wk) (hv : JE X ev wv) (hs : swapsWith ev (some (.Subscript ed ek pos')) pos.line X.env = pure false := by rfl) : JS X (.Assign [.Subscript ed ek pos'] ev pos) (sTPut wd wk wv) :=
  ps_weak (ps_dput hu hd hk hv hs) fun D σ H ⟨W, ρ, S, R, hH, hs, re, hw, k⟩ => ⟨W, ρ, S, _, hH, hs, re, hw, fun W1 S1 v dv l1 hs1 r1 h1 => ⟨W1, ρ, S1, _, rfl, hs1, re.mono l1, h1, fun W2 S2 x dx l2 hs2 r2 h2 => ⟨W2, ρ, S2, _, rfl, hs2, (re.mono l1).mono l2, h2, fun W3 S3 y dy l3 hs3 r3 ⟨l, kvs, k', e1, e2, hc, hz, h3⟩ => by
    subst e1 e2
    obtain ⟨b, rfl, hb⟩ := r3.atKey
    have r2 := l3.rv r2
    cases r2 with
    | ref he =>
      rename_i a
      obtain ⟨_, o, h4, h5⟩ := hs3.at he hc (by simp)
      cases o with
      | dT kws =>
        obtain ⟨hk1, hv1⟩ := h5
        have l23 := l2.trans l3
        obtain ⟨i1, i2⟩ := RVs.putK (k := k') (l23.rv r1) hk1 hv1
        obtain ⟨hs4, l4⟩ := hs3.set he hc (by simp) (o' := .dT (putK' k' v kws)) (c' := .dt (putK' k' dv kvs)) ⟨i1, i2⟩
        have ln : kws.length = kvs.length := by
          have := congrArg List.length hk1
          simpa using this
        have ll := l1.trans (l23.trans l4)
        exact ⟨a, _, rfl, DPut.t (k := k') h4 (hs3.g _ _ hb) (by rw [ln]; exact hz), by rw [putK_eq]; exact k.nx ⟨W3.G, W3.e, upd W3.H a (.dT (putK' k' v kws))⟩ _ σ ρ ll hs4 (re.mono ll) h3⟩
      | _ => exact h5.elim⟩⟩⟩
theorem j_tget {ed ek : Expr} {wd wk : WE} (hu : X.A.units + 1 < cLine) (hd : JE X ed wd) (hk : JE X ek wk) (hs : NoSl ek := by exact fun _ _ => rfl) : JE X (.Subscript ed ek pos) (wTGet wd wk) :=
  pe_weak (pe_dget hu hd hk hs) fun σ H Q ⟨W, ρ, S, R, hH, hs, re, hw, k⟩ => ⟨W, ρ, S, _, hH, hs, re, hw, fun W1 S1 x dx l1 hs1 r1 h1 => ⟨W1, ρ, S1, _, rfl, hs1, re.mono l1, h1, fun W2 S2 y dy l2 hs2 r2 ⟨kvs, k', d, e1, e2, e3, h2⟩ => by
    subst e2
    obtain ⟨b, rfl, hb⟩ := r2.atKey
    obtain ⟨a, kws, rfl, hh, hk1, hv1⟩ := hs2.dt (l2.rv r1) e1
    rcases RVs.getK (k := k') hk1 hv1 with ⟨_, z⟩ | ⟨v, d', z1, z2, z3⟩
    · rw [z] at e3
      cases e3
    · rw [z2] at e3
      cases e3
      exact ⟨a, v, rfl, z1 ▸ dget_t (k := k') hh (hs2.g _ _ hb), (k.le (l1.trans l2)).now hs2 z3 h2⟩⟩⟩
theorem o_tin (hu : X.A.units + 1 < cLine) : OpR X (compareOp .In) (r2 X.K zTIn) := by
  intro pins s σ H x y v u Q I rx ry ⟨W, S, dx, dy, R, hH, hs, q1, q2, ⟨kvs, k', e1, e2, hq⟩, k⟩
  subst hH e2
  obtain ⟨b, rfl, hb⟩ := q1.atKey
  obtain ⟨a, kws, rfl, hh, hk1, hv1⟩ := hs.dt q2 e1
  cases ry
  refine d_in hu I (dget_t (k := k') hh (hs.g _ _ hb)) rx fun s' I' => ⟨.bl _, W.H, I', rfl, ?_⟩
  rcases RVs.getK (k := k') hk1 hv1 with ⟨z1, z2⟩ | ⟨v, d', z1, z2, z3⟩
  · rw [z2] at hq
    rw [z1]
    exact k.now hs (.bl _) hq
  · rw [z2] at hq
    rw [z1]
    exact k.now hs (.bl _) hq
theorem o_tnotIn (hu : X.A.units + 1 < cLine) : OpR X (compareOp .NotIn) (r2 X.K zTNotIn) := by
  intro pins s σ H x y v u Q I rx ry ⟨W, S, dx, dy, R, hH, hs, q1, q2, ⟨kvs, k', e1, e2, hq⟩, k⟩
  subst hH e2
  obtain ⟨b, rfl, hb⟩ := q1.atKey
  obtain ⟨a, kws, rfl, hh, hk1, hv1⟩ := hs.dt q2 e1
  cases ry
  refine d_notIn hu I (dget_t (k := k') hh (hs.g _ _ hb)) rx fun s' I' => ⟨.bl _, W.H, I', rfl, ?_⟩
  rcases RVs.getK (k := k') hk1 hv1 with ⟨z1, z2⟩ | ⟨v, d', z1, z2, z3⟩
  · rw [z2] at hq
    rw [z1]
    exact k.now hs (.bl _) hq
  · rw [z2] at hq
    rw [z1]
    exact k.now hs (.bl _) hq
theorem j_tget2 {o e f : Expr} {apos cpos : Pos} {wd wk wx : WE} (hu : X.A.units + 1 < cLine) (ho : JE X o wd) (he : JE X e wk) (hf : JE X f wx) (m : M2 X o "get" apos e f cpos) : JE X (.Call (.Attribute o "get" apos) [e, f] [] cpos) (wTGet2 wd wk wx) :=
  pe_weak (pe_dget2 hu ho he hf m) fun σ H Q ⟨W, ρ, S, R, hH, hs, re, hw, k⟩ => ⟨W, ρ, S, _, hH, hs, re, hw, fun W1 S1 x dx l1 hs1 r1 ⟨⟨kvs0, h0⟩, h1⟩ => by
    obtain ⟨a, kws0, rfl, hh0, _, _⟩ := hs1.dt r1 h0
    exact ⟨a, rfl, .inr ⟨kws0, hh0⟩, W1, ρ, S1, _, rfl, hs1, re.mono l1, h1, fun W2 S2 y dy l2 hs2 r2 h2 => ⟨W2, ρ, S2, _, rfl, hs2, (re.mono l1).mono l2, h2, fun W3 S3 z dz l3 hs3 r3 ⟨kvs, k', e1, e2, h3⟩ => by
      subst e2
      obtain ⟨b, rfl, hb⟩ := (l3.rv r2).atKey
      obtain ⟨a', kws, ea, hh, hk1, hv1⟩ := hs3.dt ((l2.trans l3).rv r1) e1
      cases ea
      refine ⟨_, dget_t (k := k') hh (hs3.g _ _ hb), ?_⟩
      have kk := k.le (l1.trans (l2.trans l3))
      rcases RVs.getK (k := k') hk1 hv1 with ⟨z1, z2⟩ | ⟨v, d', z1, z2, z3⟩
      · rw [z2] at h3
        rw [z1]
        exact kk.now hs3 r3 h3
      · rw [z2] at h3
        rw [z1]
        exact kk.now hs3 z3 h3⟩⟩⟩
end
end Tk

/-! walks over dicts: the dict is locked -/
namespace Tk
open PySem PySem.Spec PyProof.Rows L2
def sLkT (i : Nat) (a : WS) : WS := fun E ρ S => ∃ l kvs, ρ[i]? = some (some (.ref l)) ∧ S[l]? = some (.dt kvs) ∧ ∀ (o : Obj) (u : HO),
  a ⟨fun ρ' S' => S'[l]? = some (.lt kvs o u) ∧ E.nx ρ' (S'.set l (.dt kvs)), fun d S' => S'[l]? = some (.lt kvs o u) ∧ E.rt d (S'.set l (.dt kvs)), fun ρ' S' => S'[l]? = some (.lt kvs o u) ∧ E.bk ρ' (S'.set l (.dt kvs)), fun ρ' S' => S'[l]? = some (.lt kvs o u) ∧ E.ct ρ' (S'.set l (.dt kvs))⟩ ρ (S.set l (.lt kvs o u))
theorem Hs.unlock {K : PySem.W.Frag} {W : Wd} {S : Sto} {l : Nat} {a : Addr} {kvs : List (List Key × D)} {kws : List (List Key × V)} {od : Obj} (hs : Hs K W S) (he : W.e[l]? = some a) (hc : S[l]? = some (.lt kvs od (.dT kws))) :
    W.H a = some (.frz od (.dT kws)) ∧ Hs K ⟨W.G, W.e, upd W.H a (.dT kws)⟩ (S.set l (.dt kvs)) ∧ Le W ⟨W.G, W.e, upd W.H a (.dT kws)⟩ := by
  obtain ⟨_, o, h1, h2⟩ := hs.at he hc (by simp)
  cases o <;> first
    | exact h2.elim
    | (obtain ⟨e1, e2, kws2, e3, h3, h4⟩ := h2
       subst e1 e2
       cases e3
       obtain ⟨hs2, l2⟩ := hs.set he hc (by simp) (o' := .dT kws) (c' := .dt kvs) ⟨h3, h4⟩
       exact ⟨h1, hs2, l2⟩)
theorem s_lkT {X : Cx} {st : Stmt} {i : Nat} {a : WS} (h : JS X st a) : JS X st (sLkT i a) :=
  ps_weak (ps_lock h) fun D σ H ⟨W, ρ, S, R, hH, hs, re, ⟨l, kvs, hi, hc, hw⟩, k⟩ => by
    subst hH
    obtain ⟨v, hv, rv⟩ := re.2 i _ hi
    cases rv with
    | ref he =>
      rename_i p
      obtain ⟨_, o, h1, h2⟩ := hs.at he hc (by simp)
      cases o with
      | dT kws =>
        refine ⟨p, .dT kws, h1, trivial, fun od => ?_⟩
        obtain ⟨hs1, l1⟩ := hs.set he hc (by simp) (o' := .frz od (.dT kws)) (c' := .lt kvs od (.dT kws)) ⟨rfl, rfl, kws, rfl, h2.1, h2.2⟩
        refine ⟨_, ρ, _, _, rfl, hs1, re.mono l1, hw od (.dT kws), ?_⟩
        refine ⟨fun W' S' σ' ρ' l' hs' re' ⟨q1, q2⟩ => ?_, fun W' S' v d l' hs' r' ⟨q1, q2⟩ => ?_, fun W' S' σ' ρ' l' hs' re' ⟨q1, q2⟩ => ?_, fun W' S' σ' ρ' l' hs' re' ⟨q1, q2⟩ => ?_⟩
        all_goals
          obtain ⟨z1, z2, z3⟩ := hs'.unlock (l'.at _ _ he) q1
          refine ⟨z1, ?_⟩
        · exact k.nx _ _ σ' ρ' (l1.trans (l'.trans z3)) z2 (re'.mono z3) q2
        · exact k.rt _ _ v d (l1.trans (l'.trans z3)) z2 (z3.rv r') q2
        · exact k.bk _ _ σ' ρ' (l1.trans (l'.trans z3)) z2 (re'.mono z3) q2
        · exact k.ct _ _ σ' ρ' (l1.trans (l'.trans z3)) z2 (re'.mono z3) q2
      | _ => exact h2.elim
end Tk

namespace Tk
open PySem PySem.Spec PyProof.Rows L2
theorem rvs_kV {K : PySem.W.Frag} {G : Hp} {e : List Addr} : ∀ ks : List Key, RVs K G e (ks.map kV) (ks.map kD)
  | [] => .nil
  | .inl i :: ks => .cons (.int i) (rvs_kV ks)
  | .inr x :: ks => .cons (.str x) (rvs_kV ks)
/-- a tuple of keys that stands is frozen -/
theorem Hs.tupIn {K : PySem.W.Frag} {W : Wd} {S : Sto} {q : Addr} {ks : List Key} (hs : Hs K W S) (hq : W.H q = some (.tup (ks.map kV))) : ∃ W', W'.H = W.H ∧ Le W W' ∧ Hs K W' S ∧ RV K W'.G W'.e (.ref q) (keyT ks) := by
  cases e : W.G q with
  | some o =>
    have := hs.g q o e
    rw [hq] at this
    cases this
    exact ⟨W, rfl, Le.refl W, hs, .tup e (rvs_kV ks)⟩
  | none =>
    have hn : q ∉ W.e := fun z => by
      obtain ⟨m, hm⟩ := List.getElem?_of_mem z
      have hml : m < S.length := by
        rw [← hs.len]
        exact (List.getElem?_eq_some_iff.mp hm).1
      rcases hs.cel m q S[m] hm (List.getElem?_eq_getElem hml) with y | ⟨_, o, y1, y2⟩
      · exact y.2 e
      · rw [hq] at y1
        cases y1
        revert y2
        cases S[m] <;> exact fun z => z.elim
    have sm : Same W.G (upd W.G q (.tup (ks.map kV))) := fun b u y => by
      rw [upd_ne (ne_of_none y e)]
      exact y
    refine ⟨⟨upd W.G q (.tup (ks.map kV)), W.e, W.H⟩, rfl, ⟨sm, ⟨[], by simp⟩, fun _ y => .inl y, fun b u y _ _ => y, fun b y => ?_⟩, hs.frozen hq e hn (fun _ z => by cases z), .tup upd_same (rvs_kV ks)⟩
    by_cases z : b = q
    · exact .inr (.inr (.inr (.inl ⟨_, z ▸ hq⟩)))
    · have y : upd W.G q (.tup (ks.map kV)) b ≠ none := y
      rw [upd_ne z] at y
      exact .inl y
def keysT (kvs : List (List Key × D)) : List D := kvs.map fun kv => keyT kv.1
def wKeysT (w : WE) : WI := fun ρ S Q => w ρ S fun x S1 => ∃ l kvs o u, x = .ref l ∧ S1[l]? = some (.lt kvs o u) ∧ Q (keysT kvs) (fun S => S[l]? = some (.lt kvs o u)) S1
theorem jok_keysT {K : PySem.W.Frag} {W0 : Wd} {l : Nat} {a : Addr} {kvs : List (List Key × D)} {kws : List (List Key × V)} {od : Obj} (he : W0.e[l]? = some a) (hk : kws.map (·.1) = kvs.map (·.1)) : JOk K W0 (Itkt a od kws) (keysT kvs) (fun S => S[l]? = some (.lt kvs od (.dT kws))) := by
  have ln : kws.length = kvs.length := by
    have := congrArg List.length hk
    simpa using this
  refine ⟨fun W S i l1 hs sd hi => ?_, fun W S i x H' l1 hs sd hi hy => ?_, fun W S l1 hs sd => ?_⟩
  · exact ⟨(hs.unlock (l1.at _ _ he) sd).1, by rw [ln]; simpa [keysT] using hi⟩
  · obtain ⟨rfl, k, v, q, h1, rfl, h2⟩ := hy
    obtain ⟨W', e1, l2, hs2, r⟩ := hs.tupIn h2
    refine ⟨W', _, e1, l2, hs2, ?_, r⟩
    have h3 : (kws.map (·.1))[i]? = some k := by rw [List.getElem?_map, h1]; rfl
    rw [hk, List.getElem?_map] at h3
    unfold keysT
    rw [List.getElem?_map]
    cases e : kvs[i]? with
    | none => rw [e] at h3; cases h3
    | some p =>
      rw [e] at h3
      have h3 : p.1 = k := Option.some.inj h3
      rw [← h3]
      rfl
  · exact ⟨(hs.unlock (l1.at _ _ he) sd).1, by rw [ln]; simp [keysT]⟩
theorem ji_keysT {X : Cx} {tg e : Expr} {w : WE} (he : JE X e w) : JI X tg e (wKeysT w) :=
  pi_weak (pi_keys he) fun σ H Q ⟨W, ρ, S, R, hH, hs, re, hw, k⟩ => ⟨W, ρ, S, _, hH, hs, re, hw, fun W1 S1 x d l1 hs1 r1 ⟨l, kvs, o, u, e1, hc, h1⟩ => by
    subst e1
    cases r1 with
    | ref hl =>
      rename_i a
      obtain ⟨_, o', h2, h3⟩ := hs1.at hl hc (by simp)
      cases o' <;> first
        | exact h3.elim
        | (obtain ⟨y1, y2, kws, y3, y4, y5⟩ := h3
           subst y1 y2 y3
           exact ⟨a, _, rfl, .inr ⟨kws, h2, k W1 S1 _ _ _ l1 hs1 (jok_keysT hl y4) hc h1⟩⟩)⟩
/-- a fresh object's making under a lock of the dict in slot i -/
def wLkF (i : Nat) (w : WF) : WF := fun ρ S Q => ∃ l kvs, ρ[i]? = some (some (.ref l)) ∧ S[l]? = some (.dt kvs) ∧ ∀ (o : Obj) (u : HO), w ρ (S.set l (.lt kvs o u)) fun c S' => S'[l]? = some (.lt kvs o u) ∧ Q c (S'.set l (.dt kvs))
theorem f_lkT {X : Cx} {e : Expr} {i : Nat} {w : WF} (h : JF X e w) : JF X e (wLkF i w) :=
  pe_weak (pe_lock h) fun σ H Q ⟨W, ρ, S, R, hH, hs, re, ⟨l, kvs, hi, hc, hw⟩, k⟩ => by
    subst hH
    obtain ⟨v, hv, rv⟩ := re.2 i _ hi
    cases rv with
    | ref he =>
      rename_i p
      obtain ⟨_, o, h1, h2⟩ := hs.at he hc (by simp)
      cases o with
      | dT kws =>
        refine ⟨p, .dT kws, h1, trivial, fun od => ?_⟩
        obtain ⟨hs1, l1⟩ := hs.set he hc (by simp) (o' := .frz od (.dT kws)) (c' := .lt kvs od (.dT kws)) ⟨rfl, rfl, kws, rfl, h2.1, h2.2⟩
        refine ⟨_, ρ, _, _, rfl, hs1, re.mono l1, hw od (.dT kws), fun W' S' q oo c n hs' hc' ⟨q1, q2⟩ => ?_⟩
        obtain ⟨z1, z2, z3⟩ := hs'.unlock (n.le.at _ _ he) q1
        refine ⟨z1, ?_⟩
        have hqp : q ≠ p := fun z => n.ne (by rw [z]; exact List.mem_of_getElem? (n.le.at _ _ he))
        have n2 : New W ⟨W'.G, W'.e, upd W'.H p (.dT kws)⟩ q oo := ⟨l1.trans (n.le.trans z3), by
          have := n.old
          have y : Fr (upd W.H p (.frz od (.dT kws))) q := this
          unfold Fr at y ⊢
          rwa [upd_ne hqp] at y, by
          show upd W'.H p (.dT kws) q = _
          rw [upd_ne hqp]
          exact n.at', n.ng, n.ne, n.nb⟩
        exact k _ _ q oo c n2 z2 hc' q2
      | _ => exact h2.elim
end Tk

/-! {k: v}, k a tuple -/
namespace Tk
open PySem PySem.Spec PyProof.Rows L2
theorem isKeyT {P : Program} {w : World} {H : Hp} {h : Heap} (ok : HOk P w H h) {b : Addr} {k : List Key} (hb : H b = some (.tup (k.map kV))) : IsTupleKey (mixKind P w) h k b := by
  obtain ⟨_, its, hv, ht⟩ := ok b _ hb
  obtain ⟨o, h1, h2, n, h3⟩ := ht
  exact ⟨o, _, _, h1, h2, h3, items_are (by simpa using hv)⟩
def tTDisp (tk tv : TE) : TE := fun σ H Q => ∀ p, H p = none → tPairs [(tk, tv)] σ (upd H p (.dT [])) fun ps H2 => H2 p = some (.dT []) ∧ ∃ k b y, ps = [(V.ref b, y)] ∧ H2 b = some (.tup (k.map kV)) ∧ Q (.ref p) (upd H2 p (.dT [(k, y)]))
theorem pe_tdisp {X : Cx} {ek ev : Expr} {tk tv : TE} {pos : Pos} (hu : X.A.units + 1 < cLine) (hk : PE X ek tk) (hv : PE X ev tv) : PE X (.Dict [some ek] [ev] pos) (tTDisp tk tv) := by
  refine ⟨fun pins s σ H Q I q => ?_⟩
  refine wpAny_Dict_any (by rfl) (by rfl) (fun z => by cases z) (by show 1 ≤ 15; decide) ?_
  have hp := I.fresh
  have I1 := I.laid (h' := Heap.push s.heap { cls := Value.type "dict", data := Data.dict #[] }) (a := Array.size s.heap.objs) (o := .dT []) (t' := s.toks) (fun b u hb => by exact Heap.get?_push_of_some _ hb) (Nat.le_refl _) (dt_empty s.heap I.big)
  have R := (pps_cons (pos := pos) hk hv pps_nil).run pins _ σ _ _ I1 (q (Array.size s.heap.objs) hp)
  refine wpAny_mono R (fun vs s1 ⟨ps, H2, I2, r, hd, k, b, y, e1, hb, hq⟩ => ?_) fun _ _ h => h
  subst e1
  cases r with
  | @cons _ q1 _ _ r1 r2 =>
    cases r2
    obtain ⟨u, r⟩ := q1
    obtain ⟨r3, r4⟩ := r1
    have r3 : u = Value.ref b := r3
    subst r3
    obtain ⟨hz, hm, xs, kt, o, es, ep, h1, h2, h3, h4, h5⟩ := I2.hok _ _ hd
    cases kt
    refine wpAny_storeAllH (knd := tupleKind (mixKind X.prog X.w)) (by show X.A.units < cLine; omega) [(Value.ref b, r)] [(k, b, r)] [] s1 _ ⟨rfl, rfl, isKeyT I2.hok hb, trivial⟩ ⟨o, es, ep, h1, h2, h3, h4, (by simp), h5⟩ (by show 1 ≤ sizeLine; decide) fun h' tk' hd' sb => ?_
    have hne : b ≠ Array.size s.heap.objs := fun z => by
      rw [z, hd] at hb
      cases hb
    have hd'' := hd'
    obtain ⟨o', es', ep', g1, g2, g3, g4, g5, g6⟩ := hd'
    refine ⟨.ref _, _, d_write (ob := .dT [(k, y)]) I2 (by rw [hd]; trivial) sb ⟨_, g1⟩ ⟨by show 1 ≤ sizeLine; decide, hm, [(k, b, r)], ?_, o', es', ep', g1, g2, g3, g4, g6⟩, rfl, hq⟩
    refine .cons ⟨rfl, ?_, r4⟩ .nil
    show upd H2 _ _ b = _
    rw [upd_ne hne]
    exact hb
def wTDisp1 (wk wv : WE) : WF := fun ρ S Q => wk ρ S fun x S1 => wv ρ S1 fun y S2 => ∃ k, x = keyT k ∧ Q (.dt [(k, y)]) S2
theorem f_tdisp1 {X : Cx} {ek ev : Expr} {wk wv : WE} {pos : Pos} (hu : X.A.units + 1 < cLine) (hk : JE X ek wk) (hv : JE X ev wv) : JF X (.Dict [some ek] [ev] pos) (wTDisp1 wk wv) :=
  pe_weak (pe_tdisp hu hk hv) fun σ H Q ⟨W, ρ, S, R, hH, hs, re, hw, k⟩ => by
    subst hH
    intro p hp
    obtain ⟨n0, hs0⟩ := New.laid (o := HO.dT []) hs hp
    refine ⟨⟨W.G, W.e, upd W.H p (.dT [])⟩, ρ, S, _, rfl, hs0, re.mono n0.le, hw, fun W1 S1 x dx l1 hs1 r1 h1 => ⟨W1, ρ, S1, _, rfl, hs1, (re.mono n0.le).mono l1, h1, fun W2 S2 y dy l2 hs2 r2 ⟨k', e1, h2⟩ => ?_⟩⟩
    subst e1
    obtain ⟨b, rfl, gb⟩ := (l2.rv r1).atKey
    obtain ⟨d1, d2, d3⟩ := (l1.trans l2).ng n0.at' n0.ng n0.ne
    refine ⟨d1, k', b, y, rfl, hs2.g _ _ gb, ?_⟩
    have l02 := n0.le.trans (l1.trans l2)
    refine k ⟨W2.G, W2.e, upd W2.H p (.dT [(k', y)])⟩ S2 p _ (.dt [(k', dy)]) ⟨l02.over hp, .inl hp, upd_same, d2, d3, fun _ z => by cases z⟩ (hs2.over d2 d3) ⟨rfl, .cons r2 .nil⟩ h2
end Tk

/-! the executor's rules for truth, enumerate, dicts with tuple keys -/
namespace Tk
open PySem L2
section
variable (ρ : Nv) (S : Sto) (Q : QE) (E : Es) (QT : Bool → Sto → Prop) (QI : List D → (Sto → Prop) → Sto → Prop)
def trC : Cell → Option Bool
  | .lst ds => some (!ds.isEmpty)
  | _ => none
theorem tr_ref (l : Nat) : truD S (.ref l) = S[l]?.bind trC := by
  simp only [truD]
  cases S[l]? with
  | none => rfl
  | some c => cases c <;> rfl
theorem tr_tup (ds : List D) : truD S (.tup ds) = some (!ds.isEmpty) := rfl
theorem tr_lst (ds : List D) : truD S (.lst ds) = some (!ds.isEmpty) := rfl
theorem tr_clst (ds : List D) : trC (.lst ds) = some (!ds.isEmpty) := rfl
def kTt (QT : Bool → Sto → Prop) : QE := fun x S1 => bO (truD S1 x) (kT QT S1)
theorem kTt' (x : D) (S1 : Sto) : kTt QT x S1 = bO (truD S1 x) (kT QT S1) := rfl
theorem x_Tt (w : WE) : wTt w ρ S QT = w ρ S (kTt QT) := rfl
def kEn2 (QI : List D → (Sto → Prop) → Sto → Prop) (x : D) (S1 : Sto) : List D → Prop := fun ds => QI (enm ds) (fun S => lstOf S x = some ds) S1
def kEn (QI : List D → (Sto → Prop) → Sto → Prop) : QE := fun x S1 => bO (lstOf S1 x) (kEn2 QI x S1)
theorem kEn2' (x : D) (S1 : Sto) (ds : List D) : kEn2 QI x S1 ds = QI (enm ds) (fun S => lstOf S x = some ds) S1 := rfl
theorem kEn' (x : D) (S1 : Sto) : kEn QI x S1 = bO (lstOf S1 x) (kEn2 QI x S1) := rfl
theorem x_En (w : WE) : wEn w ρ S QI = w ρ S (kEn QI) := rfl
/-! dicts with tuple keys: what is left is named zT.. -/
theorem x_TNew (Q : Cell → Sto → Prop) : wTNew ρ S Q = Q (.dt []) S := rfl
def zTD1 (x y : D) (S : Sto) (Q : Cell → Sto → Prop) : Prop := ∃ k, x = keyT k ∧ Q (.dt [(k, y)]) S
def kTD2 (x : D) (Q : Cell → Sto → Prop) : QE := fun y S => zTD1 x y S Q
def kTD1 (wv : WE) (ρ : Nv) (Q : Cell → Sto → Prop) : QE := fun x S1 => wv ρ S1 (kTD2 x Q)
theorem kTD2' (x : D) (Q : Cell → Sto → Prop) (y : D) (S : Sto) : kTD2 x Q y S = zTD1 x y S Q := rfl
theorem kTD1' (wv : WE) (ρ : Nv) (Q : Cell → Sto → Prop) (x : D) (S1 : Sto) : kTD1 wv ρ Q x S1 = wv ρ S1 (kTD2 x Q) := rfl
theorem x_TDisp1 (wk wv : WE) (Q : Cell → Sto → Prop) : wTDisp1 wk wv ρ S Q = wk ρ S (kTD1 wv ρ Q) := rfl
def zTG (x y : D) (S : Sto) (Q : QE) : Prop := ∃ kvs k d, dtOf S x = some kvs ∧ y = keyT k ∧ getK kvs k = some d ∧ Q d S
def kTG2 (x : D) (Q : QE) : QE := fun y S => zTG x y S Q
def kTG1 (wk : WE) (ρ : Nv) (Q : QE) : QE := fun x S1 => wk ρ S1 (kTG2 x Q)
theorem kTG2' (x : D) (y : D) (S : Sto) : kTG2 x Q y S = zTG x y S Q := rfl
theorem kTG1' (wk : WE) (x : D) (S1 : Sto) : kTG1 wk ρ Q x S1 = wk ρ S1 (kTG2 x Q) := rfl
theorem x_TGet (wd wk : WE) : wTGet wd wk ρ S Q = wd ρ S (kTG1 wk ρ Q) := rfl
def zTG2 (x y z : D) (S : Sto) (Q : QE) : Prop := ∃ kvs k, dtOf S x = some kvs ∧ y = keyT k ∧ Q ((getK kvs k).getD z) S
def kTH3 (x y : D) (Q : QE) : QE := fun z S => zTG2 x y z S Q
def kTH2 (x : D) (wx : WE) (ρ : Nv) (Q : QE) : QE := fun y S => wx ρ S (kTH3 x y Q)
def kTH1 (wk wx : WE) (ρ : Nv) (Q : QE) : QE := fun x S1 => bP (∃ kvs, dtOf S1 x = some kvs) (wk ρ S1 (kTH2 x wx ρ Q))
theorem kTH3' (x y z : D) (S : Sto) : kTH3 x y Q z S = zTG2 x y z S Q := rfl
theorem kTH2' (x : D) (wx : WE) (y : D) (S : Sto) : kTH2 x wx ρ Q y S = wx ρ S (kTH3 x y Q) := rfl
theorem kTH1' (wk wx : WE) (x : D) (S1 : Sto) : kTH1 wk wx ρ Q x S1 = bP (∃ kvs, dtOf S1 x = some kvs) (wk ρ S1 (kTH2 x wx ρ Q)) := rfl
theorem x_TGet2 (wd wk wx : WE) : wTGet2 wd wk wx ρ S Q = wd ρ S (kTH1 wk wx ρ Q) := rfl
def zTP (v x y : D) (E : Es) (ρ : Nv) (S : Sto) : Prop := ∃ l kvs k, x = .ref l ∧ y = keyT k ∧ S[l]? = some (.dt kvs) ∧ kvs.length < sizeLine ∧ E.nx ρ (S.set l (.dt (putK' k v kvs)))
def kTP3 (v x : D) (E : Es) (ρ : Nv) : QE := fun y S => zTP v x y E ρ S
def kTP2 (v : D) (wk : WE) (E : Es) (ρ : Nv) : QE := fun x S => wk ρ S (kTP3 v x E ρ)
def kTP1 (wd wk : WE) (E : Es) (ρ : Nv) : QE := fun v S => wd ρ S (kTP2 v wk E ρ)
theorem kTP3' (v x y : D) (S : Sto) : kTP3 v x E ρ y S = zTP v x y E ρ S := rfl
theorem kTP2' (v : D) (wk : WE) (x : D) (S : Sto) : kTP2 v wk E ρ x S = wk ρ S (kTP3 v x E ρ) := rfl
theorem kTP1' (wd wk : WE) (v : D) (S : Sto) : kTP1 wd wk E ρ v S = wd ρ S (kTP2 v wk E ρ) := rfl
theorem x_TPut (wd wk wv : WE) : sTPut wd wk wv E ρ S = wv ρ S (kTP1 wd wk E ρ) := rfl
def zKy (x : D) (S : Sto) (QI : List D → (Sto → Prop) → Sto → Prop) : Prop := ∃ l kvs o u, x = .ref l ∧ S[l]? = some (.lt kvs o u) ∧ QI (keysT kvs) (fun S => S[l]? = some (.lt kvs o u)) S
def kKy (QI : List D → (Sto → Prop) → Sto → Prop) : QE := fun x S => zKy x S QI
theorem kKy' (x : D) : kKy QI x S = zKy x S QI := rfl
theorem x_KeysT (w : WE) : wKeysT w ρ S QI = w ρ S (kKy QI) := rfl
def kR25 (i : Int) (S3 : Sto) (QI : List D → (Sto → Prop) → Sto → Prop) : Int → Prop := fun j => bP (-(2 ^ 62) ≤ i ∧ i < 2 ^ 62 ∧ -(2 ^ 62) ≤ j ∧ j < 2 ^ 62) (QI (rng i (j - i).toNat) (fun _ => True) S3)
theorem kR25' (i j : Int) : kR25 i S QI j = bP (-(2 ^ 62) ≤ i ∧ i < 2 ^ 62 ∧ -(2 ^ 62) ≤ j ∧ j < 2 ^ 62) (QI (rng i (j - i).toNat) (fun _ => True) S) := rfl
def kR24 (y : D) (S3 : Sto) (QI : List D → (Sto → Prop) → Sto → Prop) : Int → Prop := fun i => bI y (kR25 i S3 QI)
theorem kR24' (y : D) (i : Int) : kR24 y S QI i = bI y (kR25 i S QI) := rfl
def kR23 (x : D) (QI : List D → (Sto → Prop) → Sto → Prop) : QE := fun y S3 => bI x (kR24 y S3 QI)
theorem kR23' (x y : D) : kR23 x QI y S = bI x (kR24 y S QI) := rfl
def kR22 (b : WE) (ρ : Nv) (QI : List D → (Sto → Prop) → Sto → Prop) : QE := fun x S1 => b ρ S1 (kR23 x QI)
theorem kR22' (b : WE) (x : D) : kR22 b ρ QI x S = b ρ S (kR23 x QI) := rfl
theorem x_R2 (a b : WE) : wR2 a b ρ S QI = a ρ S (kR22 b ρ QI) := by
  unfold wR2 kR22 kR23
  congr 1
  funext x S1
  congr 1
  funext y S2
  exact propext ⟨fun ⟨i, j, e1, e2, h, k⟩ => ⟨i, e1, j, e2, h, k⟩, fun ⟨i, e1, j, e2, h, k⟩ => ⟨i, j, e1, e2, h, k⟩⟩
theorem f_dt (kvs : List (List Key × D)) : fzO (.dt kvs) = some (.dt kvs) := rfl
end
theorem x_Inv (S : Sto) (Q : QE) (i : Int) : zInv (.int i) S Q = Q (.int (Builtin.bitNot i)) S := propext ⟨fun ⟨_, e, h⟩ => by cases e; exact h, fun h => ⟨i, rfl, h⟩⟩
theorem x_EqStr (S : Sto) (Q : QE) {a b : Str} (ha : SeqAt.shaped (.str a) = true) (hb : SeqAt.shaped (.str b) = true) : zEq (.str a) (.str b) S Q = Q (.bl (decide (a = b))) S := by
  have e : PyData.eqv (.str a) (.str b) = decide (a = b) := by
    simp only [PyData.eqv]
    rfl
  exact propext ⟨fun ⟨_, _, e1, e2, _, _, h⟩ => by cases e1; cases e2; rw [e] at h; exact h, fun h => ⟨_, _, rfl, rfl, ha, hb, by rw [e]; exact h⟩⟩
theorem sh_str : SeqAt.shaped (.str "joined") = true := by decide +kernel
end Tk

/-! what raises one class of the program; lambdas handed to a def that tries them -/
namespace Tk
open PySem PySem.Spec PyProof.Rows L2
abbrev WX0 := Nv → Sto → (Sto → Prop) → Prop
abbrev PrX := List D → Sto → (Sto → Prop) → Prop
section
variable (K : PySem.W.Frag) (NR : Addr)
def KX (W : Wd) (RX : Sto → Prop) (E : XK) : Prop := ∀ (W' : Wd) (S' : Sto), Le W W' → Hs K W' S' → RX S' → E (.ref NR) none W'.H
def tX (w : WX0) (E : XK) (σ : St) (H : Hp) : Prop := ∃ (W : Wd) (ρ : Nv) (S : Sto) (RX : Sto → Prop), W.H = H ∧ Hs K W S ∧ RE K W σ ρ ∧ w ρ S RX ∧ KX K NR W RX E
def tXS (w : WX0) (E : XK) : TS := fun _ σ H => tX K NR w E σ H
def tXE (w : WX0) (E : XK) : TE := fun σ H _ => tX K NR w E σ H
def spX (n : Nat) (F : Pr) (FX : PrX) : Sp := fun vs H Q E => spOf K n F vs H Q E ∨ ∃ (W : Wd) (S : Sto) (ds : List D) (RX : Sto → Prop), W.H = H ∧ Hs K W S ∧ RVs K W.G W.e vs ds ∧ ds.length = n ∧ FX ds S RX ∧ KX K NR W RX E
end
theorem KX.le {K : PySem.W.Frag} {NR : Addr} {W W1 : Wd} {RX : Sto → Prop} {E : XK} (k : KX K NR W RX E) (l : Le W W1) : KX K NR W1 RX E := fun W' S' l' => k W' S' (l.trans l')
structure MethX (P : Program) (w : World) (K : PySem.W.Frag) (mg : Str → Option Value) (base : Heap) (NR : Addr) (k : Nat) (C : Addr) (m : Str) (n : Nat) (F : Pr) (FX : PrX) : Prop where
  ex : ∃ (f : Addr) (fd : FuncData) (ps : List Str), ps.length = n ∧ FnOk P w K mg base (CX P w) k f fd ps (spX K NR n F FX) ∧ Meth K C m f ∧ Binds K fd ps []
def wMethX (C : Addr) (ks : List Str) (n : Nat) (FX : PrX) (o : WE) (a : WA) : WX0 := fun ρ S RX => o ρ S fun x S1 => (∃ fs, insOf S1 x = some (C, ks, fs)) ∧ a ρ S1 fun ds S2 => ds.length + 1 = n ∧ FX (x :: ds) S2 RX
def wMethXA (C : Addr) (ks : List Str) (o : WE) (x : WX0) : WX0 := fun ρ S RX => o ρ S fun d S1 => (∃ fs, insOf S1 d = some (C, ks, fs)) ∧ x ρ S1 RX
def wSeqX (a : WS) (x : WX0) : WX0 := fun ρ S RX => a ⟨fun ρ' S' => x ρ' S' RX, fun _ _ => False, fun _ _ => False, fun _ _ => False⟩ ρ S
def wIfX (t : WT) : WX0 := fun ρ S RX => t ρ S fun b S' => b = true ∧ RX S'
section
variable {X : Cx} {k j n : Nat} {m : Str} {ks : List Str} {F : Pr} {FX : PrX} {p pos apos : Pos} {e o : Expr} {es : List Expr} {wa : WA} {wo : WE} {C NR : Addr} {E : XK} {W0 : WX}
theorem j_methN (M0 : MethX X.prog X.w X.K X.mg X.base NR k C m n F FX) (c : Cls X.K C) (hr : Room j X.A) (hmk : m ∉ ks) (ho : JE X o wo) (ha : JA X (e :: es) wa) {pl : Sem Bool} (hk : k ≤ j := by decide)
    (hst : starEach (e :: es) X.env = (false, eval e X.env) :: starEach es X.env := by rfl) (hpl : (backTo pos (starEach es X.env)).any (·.1) = false := by rfl)
    (ht : eval (.Call (.Attribute o m apos) (e :: es) [] pos) X.env = (do
      let ov ← eval o X.env
      standAt apos.atName
      let (f, first) ← holding [ov] (getMethod ov m pl)
      callWith pos f first (backTo pos (starEach (e :: es) X.env)) (backToKw pos (keywordEach [] X.env))) := by rfl) : JE X (.Call (.Attribute o m apos) (e :: es) [] pos) (wMeth C ks n F wo wa) := by
  obtain ⟨f, fd, ps, hn, Fo, hm, hb⟩ := M0.ex
  refine pe_weak (pe_meth ho c hm Fo (hr.mono hk) hb .nil (passes_call (W := fun _ _ _ _ => False) (E := fun _ _ _ => False) takes0 fun _ _ _ _ h => h) ha hst hpl ht) fun σ H Q h => ?_
  obtain ⟨W, ρ, S, R, hH, hs, re, hw, k⟩ := h
  refine ⟨W, ρ, S, _, hH, hs, re, hw, fun W1 S1 x dx l1 hs1 r1 ⟨⟨fs, hi⟩, h1⟩ => ?_⟩
  obtain ⟨a, dx', vs, rfl, ha, hl, hv⟩ := hs1.ins r1 hi
  refine ⟨a, dx', _, rfl, ha, zip_lookup_none hmk, W1, ρ, S1, _, rfl, hs1, re.mono l1, h1, fun W2 S2 vs ds l2 hs2 r2 ⟨hl, h2⟩ => .inl ⟨W2, S2, dx :: ds, R, rfl, hs2, ?_, hl, h2, k.le (l1.trans l2)⟩⟩
  rw [List.append_nil]
  exact .cons (l2.rv r1) r2
theorem x_meth (M0 : MethX X.prog X.w X.K X.mg X.base NR k C m n F FX) (tk : Takes X W0) (hE : ∀ cls d σ H, E cls d H → W0 cls d σ H) (c : Cls X.K C) (hr : Room j X.A) (hmk : m ∉ ks) (ho : JE X o wo) (ha : JA X (e :: es) wa) {pl : Sem Bool} (hk : k ≤ j := by decide)
    (hst : starEach (e :: es) X.env = (false, eval e X.env) :: starEach es X.env := by rfl) (hpl : (backTo pos (starEach es X.env)).any (·.1) = false := by rfl)
    (ht : eval (.Call (.Attribute o m apos) (e :: es) [] pos) X.env = (do
      let ov ← eval o X.env
      standAt apos.atName
      let (f, first) ← holding [ov] (getMethod ov m pl)
      callWith pos f first (backTo pos (starEach (e :: es) X.env)) (backToKw pos (keywordEach [] X.env))) := by rfl) : PE X (.Call (.Attribute o m apos) (e :: es) [] pos) (tXE X.K NR (wMethX C ks n FX wo wa) E) := by
  obtain ⟨f, fd, ps, hn, Fo, hm, hb⟩ := M0.ex
  refine pe_weak (pe_meth ho c hm Fo (hr.mono hk) hb .nil (passes_call tk hE) ha hst hpl ht) fun σ H Q h => ?_
  obtain ⟨W, ρ, S, RX, hH, hs, re, hw, k⟩ := h
  refine ⟨W, ρ, S, _, hH, hs, re, hw, fun W1 S1 x dx l1 hs1 r1 ⟨⟨fs, hi⟩, h1⟩ => ?_⟩
  obtain ⟨a, dx', vs, rfl, ha, hl, hv⟩ := hs1.ins r1 hi
  refine ⟨a, dx', _, rfl, ha, zip_lookup_none hmk, W1, ρ, S1, _, rfl, hs1, re.mono l1, h1, fun W2 S2 vs ds l2 hs2 r2 ⟨hl, h2⟩ => .inr ⟨W2, S2, dx :: ds, RX, rfl, hs2, ?_, hl, h2, k.le (l1.trans l2)⟩⟩
  rw [List.append_nil]
  exact .cons (l2.rv r1) r2
/-- the argument raises -/
theorem x_methA {wx : WX0} (M0 : MethOk X.prog X.w X.K X.mg X.base k C m n F) (c : Cls X.K C) (hr : Room j X.A) (hmk : m ∉ ks) (ho : JE X o wo) (hx : PE X e (tXE X.K NR wx E)) {pl : Sem Bool} (hk : k ≤ j := by decide)
    (hst : starEach [e] X.env = (false, eval e X.env) :: starEach [] X.env := by rfl) (hpl : (backTo pos (starEach [] X.env)).any (·.1) = false := by rfl)
    (ht : eval (.Call (.Attribute o m apos) [e] [] pos) X.env = (do
      let ov ← eval o X.env
      standAt apos.atName
      let (f, first) ← holding [ov] (getMethod ov m pl)
      callWith pos f first (backTo pos (starEach [e] X.env)) (backToKw pos (keywordEach [] X.env))) := by rfl) : PE X (.Call (.Attribute o m apos) [e] [] pos) (tXE X.K NR (wMethXA C ks wo wx) E) := by
  obtain ⟨f, fd, ps, hn, Fo, hm, hb⟩ := M0.ex
  refine pe_weak (pe_meth ho c hm Fo (hr.mono hk) hb .nil pass0 (pa_cons hx pa_nil hst) hst hpl ht) fun σ H Q h => ?_
  obtain ⟨W, ρ, S, RX, hH, hs, re, hw, k⟩ := h
  refine ⟨W, ρ, S, _, hH, hs, re, hw, fun W1 S1 x dx l1 hs1 r1 ⟨⟨fs, hi⟩, h1⟩ => ?_⟩
  obtain ⟨a, dx', vs, rfl, ha, hl, hv⟩ := hs1.ins r1 hi
  exact ⟨a, dx', _, rfl, ha, zip_lookup_none hmk, W1, ρ, S1, RX, rfl, hs1, re.mono l1, h1, k.le l1⟩
theorem bx_cons {st : Stmt} {rest : List Stmt} {a : WS} {wx : WX0} (h1 : JS X st a) (h2 : PSs X rest (tXS X.K NR wx E)) : PSs X (st :: rest) (tXS X.K NR (wSeqX a wx) E) := pss_weak (pss_cons h1 h2) fun D σ H h => by
  obtain ⟨W, ρ, S, RX, hH, hs, re, hw, k⟩ := h
  exact ⟨W, ρ, S, _, hH, hs, re, hw, fun W' S' σ' ρ' l hs' re' h => ⟨W', ρ', S', RX, rfl, hs', re', h, k.le l⟩, fun _ _ _ _ _ _ _ h => h.elim, fun _ _ _ _ _ _ _ h => h.elim, fun _ _ _ _ _ _ _ h => h.elim⟩
theorem bx_set {rest : List Stmt} {wx : WX0} {i : Nat} {x : Str} {px : Pos} (hN : X.N.Nodup) (hi : X.N[i]? = some x) (hx : L2.Loc X.env.scope x) (h : PE X e (tXE X.K NR wx E)) {u : TS} (hu : PSs X rest u) (hs : swapsWith e (some (.Name x px)) pos.line X.env = pure false := by rfl) (hf : X.fn x = true := by rfl) :
    PSs X (.Assign [.Name x px] e pos :: rest) (tXS X.K NR wx E) := pss_weak (pss_cons (ps_set hN hi hx h hs (.inl hf)) hu) fun D σ H h => h
theorem bx_if {c : Expr} {st : Stmt} {rest : List Stmt} {wt : WT} {u v : TS} (hc : JT X c wt) (h : PSs X [st] (fun _ _ H => E (.ref NR) none H)) (he : PSs X es' u) (hr : PSs X rest v) : PSs X (.If c [st] es' pos :: rest) (tXS X.K NR (wIfX wt) E) := pss_weak (pss_cons (ps_if hc h he) hr) fun D σ H q => by
  obtain ⟨W, ρ, S, RX, hH, hs, re, hw, k⟩ := q
  refine ⟨W, ρ, S, _, hH, hs, re, hw, fun W' S' b l hs' ⟨hb, hR⟩ => ?_⟩
  subst hb
  exact k W' S' l hs' hR
end
theorem fn_okX {P : Program} {w : World} {K : PySem.W.Frag} {mg : Str → Option Value} {base : Heap} {NR : Addr} {x qual : Str} {st : Stmt} {f : Addr} {fd : FuncData} {N ps : List Str} {k : Nat} (F : Fun K x qual st f fd) (Sc : FnScope N ps (defScope st)) {fl : Fin} (hf : FinOk fl) {Wn : WS} {Wx : WX0} {Fp : Pr} {FX : PrX} {n : Nat} (hn : ps.length = n)
    (hder : ∀ {cdv : Value} {A : Around} {outer : List Env} {s : Shared} {H : Hp} {E : XK}, Room k (A.deeper (envOfC qual (defScope st) s.heap.objs.size f cdv)) → JB (cxOf CX0 P w K mg base N qual (defScope st) f cdv A outer s H E).nox (defBody st) Wn)
    (hderX : ∀ {cdv : Value} {A : Around} {outer : List Env} {s : Shared} {H : Hp} {E : XK}, Room k (A.deeper (envOfC qual (defScope st) s.heap.objs.size f cdv)) → PSs (cxOf (CX P w) P w K mg base N qual (defScope st) f cdv A outer s H E) (defBody st) (tXS K NR Wx E))
    (hw : ∀ ds S Q, ds.length = n → Fp ds S Q → Wn (esDef fl S Q) (start0 N.length ds) S) (hx : ∀ ds S RX, ds.length = n → FX ds S RX → Wx (start0 N.length ds) S RX) : FnOk P w K mg base (CX P w) (k + 1) f fd ps (spX K NR n Fp FX) := by
  subst hn
  refine F.okX Sc (fun vs H Q E h => ?_) (fun cdv A outer s H vs Q E hr h => ?_)
  · rcases h with ⟨W, S, ds, R, hH, hs, rv, hl, h⟩ | ⟨W, S, ds, R, hH, hs, rv, hl, h⟩
    · exact rv.length.trans hl
    · exact rv.length.trans hl
  · rcases h with ⟨W0, S, ds, R, hH, hs, rv, hl, h, kt⟩ | ⟨W0, S, ds, R, hH, hs, rv, hl, h, kt⟩
    · refine ⟨_, PSs.nox (X := cxOf (CX P w) P w K mg base N qual (defScope st) f cdv A outer s H E) (hder (E := E) (H := H) (outer := outer) hr), W0, start0 N.length ds, S, _, hH, hs, .start rv, hw ds S R hl h, ?_⟩
      have kf := hf.ok K W0 S R Q hs kt
      exact ⟨fun W' S' σ' ρ' l hs' re' h => kf W' S' .non .non l hs' .non h, kf, fun _ _ _ _ _ _ _ h => h.elim, fun _ _ _ _ _ _ _ h => h.elim⟩
    · exact ⟨_, hderX hr, W0, start0 N.length ds, S, R, hH, hs, .start rv, hx ds S R hl h, kt⟩
/-! ### lambdas -/
open Classical in
theorem lam_world {K : PySem.W.Frag} {W : Wd} {S : Sto} {P : Addr} {q : Str} {H1 : Hp} (hs : Hs K W S) (ht : S[0]? = some (.tab P q)) (eN : LamX.ExtN W.H H1) (T1 : LamX.Tabs [(P, q)] H1) : ∃ W1 : Wd, W1.H = H1 ∧ Le W W1 ∧ Hs K W1 S := by
  have hP := (hs.ta 0 P q ht).2
  obtain ⟨gP, oP, hPo, ocP⟩ := hs.at hP ht (by simp)
  obtain ⟨ps1, k1, k2, k3⟩ := T1 (P, q) (by simp)
  have kg : ∀ a o, W.G a = some o → H1 a = some o := fun a o h => eN a o (hs.g a o h) fun ps e => hs.nt a ps (by rw [h, e])
  let G1 : Hp := fun b => match W.G b with
    | some o => some o
    | none => if H1 b = some (LamX.CodeO b q) then some (LamX.CodeO b q) else none
  have g1 : ∀ a o, W.G a = some o → G1 a = some o := fun a o h => by
    show (match W.G a with | some o => some o | none => _) = _
    rw [h]
  have g2 : ∀ a, W.G a = none → G1 a = if H1 a = some (LamX.CodeO a q) then some (LamX.CodeO a q) else none := fun a h => by
    show (match W.G a with | some o => some o | none => _) = _
    rw [h]
  have gc : ∀ c, H1 c = some (LamX.CodeO c q) → G1 c = some (LamX.CodeO c q) := fun c h => by
    cases e : W.G c with
    | none => rw [g2 c e, if_pos h]
    | some o =>
      rw [g1 c o e, ← h]
      exact (kg c o e).symm
  have isx : ∀ a o, G1 a = some o → W.G a = some o ∨ (W.G a = none ∧ H1 a = some o ∧ o = LamX.CodeO a q) := fun a o h => by
    cases e : W.G a with
    | some u =>
      rw [g1 a u e] at h
      exact .inl (by rw [← h])
    | none =>
      rw [g2 a e] at h
      split at h
      · rename_i z
        exact .inr ⟨rfl, by rw [z, h], (Option.some.inj h).symm⟩
      · cases h
  have live : ∀ a o c, W.H a = some o → OC K W.G W.e o c → (∀ ps, o ≠ .tbl ps) → W.G a = none → H1 a = some o ∧ G1 a = none := fun a o c h1 h2 h3 h4 => by
    have h5 := eN a o h1 h3
    refine ⟨h5, ?_⟩
    rw [g2 a h4, if_neg]
    intro z
    rw [h5] at z
    have z := Option.some.inj z
    subst z
    cases c <;> exact h2.elim
  refine ⟨⟨G1, W.e, H1⟩, rfl, ⟨g1, ⟨[], by simp⟩, fun _ h => .inl h, fun a o h _ h3 => eN a o h h3, fun a h => ?_⟩, fun a o h => ?_, hs.len, fun a h => ?_, hs.nd, fun l a c h1 h2 => ?_, fun a ps h => ?_, hs.ta⟩
  · obtain ⟨o, ho⟩ := Option.ne_none_iff_exists'.mp h
    rcases isx a o ho with z | ⟨z1, z2, z3⟩
    · exact .inl (by rw [z]; simp)
    · cases e : W.H a with
      | none => exact .inr (.inl (.inl e))
      | some u =>
        by_cases hu : ∃ ps, u = .tbl ps
        · obtain ⟨ps, e2⟩ := hu
          exact .inr (.inl (.inr ⟨ps, by rw [e, e2]⟩))
        · have := eN a u e fun ps z => hu ⟨ps, z⟩
          rw [z2] at this
          have := Option.some.inj this
          subst this
          exact .inr (.inr (.inr (.inr ⟨_, congrArg some z3⟩)))
  · rcases isx a o h with z | ⟨_, z, _⟩
    · exact kg a o z
    · exact z
  · obtain ⟨l, hl⟩ := List.getElem?_of_mem h
    have hlt : l < S.length := by
      rw [← hs.len]
      exact (List.getElem?_eq_some_iff.mp hl).1
    rcases hs.cel l a S[l] hl (List.getElem?_eq_getElem hlt) with z | ⟨z1, o, z2, z3⟩
    · obtain ⟨o, ho⟩ := Option.ne_none_iff_exists'.mp z.2
      show H1 a ≠ none
      rw [kg a o ho]
      simp
    · by_cases ho : ∃ ps, o = .tbl ps
      · obtain ⟨ps, e⟩ := ho
        subst e
        have : ∃ P' q', S[l] = .tab P' q' := by
          revert z3
          cases S[l] <;> first
            | exact fun z => z.elim
            | exact fun _ => ⟨_, _, rfl⟩
        obtain ⟨P', q', e⟩ := this
        obtain ⟨e1, e2⟩ := hs.ta l P' q' (by rw [← e]; exact List.getElem?_eq_getElem hlt)
        subst e1
        rw [hP] at hl
        have hl := Option.some.inj hl
        subst hl
        show H1 P ≠ none
        rw [k1]
        simp
      · show H1 a ≠ none
        rw [(live a o _ z2 z3 (fun ps z => ho ⟨ps, z⟩) z1).1]
        simp
  · rcases hs.cel l a c h1 h2 with z | ⟨z1, o, z2, z3⟩
    · refine .inl ⟨z.1, ?_⟩
      obtain ⟨o, ho⟩ := Option.ne_none_iff_exists'.mp z.2
      show G1 a ≠ none
      rw [g1 a o ho]
      simp
    · by_cases ho : ∃ ps, o = .tbl ps
      · obtain ⟨ps, e⟩ := ho
        subst e
        have : ∃ P' q', c = .tab P' q' := by
          revert z3
          cases c <;> first
            | exact fun z => z.elim
            | exact fun _ => ⟨_, _, rfl⟩
        obtain ⟨P', q', e⟩ := this
        subst e
        obtain ⟨e1, e2⟩ := hs.ta l P' q' h2
        subst e1
        rw [ht] at h2
        cases h2
        have h1 : W.e[0]? = some a := h1
        rw [hP] at h1
        have h1 := Option.some.inj h1
        subst h1
        refine .inr ⟨?_, .tbl ps1, k1, k2, fun pos cv hc => ?_⟩
        · show G1 P = none
          rw [g2 P gP, if_neg]
          intro z
          have k1 : H1 P = some (.tbl ps1) := k1
          rw [k1] at z
          unfold LamX.CodeO at z
          cases z
        · obtain ⟨c, e1, e2⟩ := k3 pos cv hc
          exact ⟨c, e1, gc c e2⟩
      · obtain ⟨y1, y2⟩ := live a o c z2 z3 (fun ps z => ho ⟨ps, z⟩) z1
        exact .inr ⟨y2, o, y1, z3.mono g1 fun _ _ z => z⟩
  · rcases isx a _ h with z | ⟨_, _, z⟩
    · exact hs.nt a ps z
    · unfold LamX.CodeO at z
      cases z
/-- try: return a() / except NR: return None -/
def TNone (NR : Addr) : (XK → Hp → VK → Prop) → Hp → VK → Prop := fun tl H Q => tl (fun cls _ H' => cls = .ref NR ∧ Q .non H') H Q
theorem none_gives {X : Cx} {Ng : List Str} {x a e q : Str} {sg : Scope} {g NR : Addr} {cdg : Value} {j : Nat} {p1 p2 p3 p4 p5 p6 p7 p8 : Pos} (hsc : sg.names.lookup e = some .globalImplicit) (hmg : X.mg e = some (.ref NR)) (hdb : (e == ("__debug__" : Str)) = false)
    (hst : ∀ f : Addr, (L2.start Ng [V.ref f])[0]? = some (some (V.ref f))) (hex : PySem.W.exmOne X.K (.ref NR) (.ref NR) = some true) :
    LamX.GivesTo X Ng x sg g cdg [.Try [.Return (some (.Call (.Name a p1) [] [] p2)) p3] [.ExceptHandler (some (.Name e p4)) none [.Return (some (.Constant .none j p5)) p6] p7] [] [] p8] a q (TNone NR) := by
  intro fn cc sh Hh Qq rd hact hcc hrd
  let Y := (cxOf C8.CX0 X.prog X.w X.K X.mg X.base Ng x sg g cdg X.A X.stack sh Hh C8.E0).nox
  let Rd : WX → TS := fun Wx D σ H => ∃ Eo : XK, (∀ c d s h, Eo c d h → Wx c d s h) ∧ σ[0]? = some (some (.ref fn)) ∧ H cc = some (LamX.CodeO cc q) ∧ rd Eo H D.rt
  have hname : Names Y e (.ref NR) := ⟨hsc, hdb, .inl hmg⟩
  have hbody : ∀ (Wx : WX) (pn : List (Addr × Obj)) (xe : Value → Shared → Prop), Takes (Y.tr pn xe) Wx → PassesOwn (model Y.prog Y.w) Y.A Y.env xe → PSs (Y.tr pn xe) [.Return (some (.Call (.Name a p1) [] [] p2)) p3] (Rd Wx) := by
    intro Wx pn xe tk _
    constructor
    intro pins s' σ H' D I hR
    obtain ⟨Eo, hEo, r1, r2, r3⟩ := hR
    exact (pss_one (ps_ret (pos := p3) (hact Wx pn xe Eo p1 p2 tk hEo))).run pins s' σ H' D I ⟨r1, r2, r3⟩
  have htry := ps_try_only (X := Y) (pos := p8) (pos' := p7) (np := p4) rfl rfl hname takes0 hbody (fun _ _ _ _ _ _ _ => pss_one (ps_ret (pos := p6) (pe_non (j := j) (pos := p5))))
  refine ⟨_, pss_one htry, fun cls _ H' => cls = .ref NR ∧ Qq .non H', ?_, hst fn, hcc, hrd⟩
  rintro cls d σ' H' ⟨rfl, hq⟩
  exact ⟨true, hex, fun _ _ _ => hq, fun z => by cases z⟩
def wLam (P : Addr) (q : Str) (wn : WE) (wx : WX0) : WE := fun ρ S Q => S[0]? = some (.tab P q) ∧ (wn ρ S Q ∨ wx ρ S fun S' => Q .non S')
theorem j_lam {X : Cx} {NR : Addr} {wn : WE} {wx : WX0} {e : Expr} {P : Addr} {q : Str} {k : Nat} {scope : Scope} {body : Expr} (h : ∀ t : XK → TE, (∀ (A : Around) (outer : List Env) (s : Shared) (H : Hp) (E : XK) (f c' : Addr), Room k (A.deeper (LamX.lamEnv X scope s.heap.objs.size f c')) → PE (LamX.lamCx X A outer s H E scope f c') body (t E)) → PE X e (LamX.tLam [(P, q)] (TNone NR) t))
    (hn : ∀ (A : Around) (outer : List Env) (s : Shared) (H : Hp) (E : XK) (f c' : Addr), Room k (A.deeper (LamX.lamEnv X scope s.heap.objs.size f c')) → JE (LamX.lamCx X A outer s H E scope f c') body wn)
    (hx : ∀ (A : Around) (outer : List Env) (s : Shared) (H : Hp) (E : XK) (f c' : Addr), Room k (A.deeper (LamX.lamEnv X scope s.heap.objs.size f c')) → PE (LamX.lamCx X A outer s H E scope f c') body (tXE X.K NR wx E)) : JE X e (wLam P q wn wx) := by
  have main := h (fun E σ H Q => tE X.K wn σ H Q ∨ tXE X.K NR wx E σ H Q) fun A outer s H E f c' hr => ⟨fun pins s' σ H' Q I z => z.elim (fun z => (hn A outer s H E f c' hr).run pins s' σ H' Q I z) fun z => (hx A outer s H E f c' hr).run pins s' σ H' Q I z⟩
  refine pe_weak main fun σ H Q ⟨W, ρ, S, R, hH, hs, re, ⟨ht, hw⟩, k⟩ => ?_
  subst hH
  refine ⟨fun p hp => ?_, fun H1 eN T1 => ?_⟩
  · rw [List.mem_singleton.mp hp]
    have hP := (hs.ta 0 P q ht).2
    obtain ⟨gP, o, hPo, oc⟩ := hs.at hP ht (by simp)
    cases o with
    | tbl ps =>
      exact ⟨ps, hPo, oc.1, fun pos cv hc => by
        obtain ⟨c, e1, e2⟩ := oc.2 pos cv hc
        exact ⟨c, e1, hs.g _ _ e2⟩⟩
    | _ => exact oc.elim
  · obtain ⟨W1, e1, l1, hs1⟩ := lam_world hs ht eN T1
    rcases hw with hw | hw
    · exact .inl ⟨W1, ρ, S, R, e1, hs1, re.mono l1, hw, k.le l1⟩
    · exact .inr ⟨W1, ρ, S, _, e1, hs1, re.mono l1, hw, fun W' S' l hs' hR => ⟨rfl, k W' S' .non .non (l1.trans l) hs' .non hR⟩⟩
end Tk

/-! Words up to the order of independent letters: plain Lean. -/
namespace Tr
/-- an alphabet: places, the places of each letter -/
structure Al where
  k : Nat
  ls : List (List Nat)
def Al.n (A : Al) : Nat := A.ls.length
def pl (A : Al) (a : Nat) : List Nat := A.ls.getD a []
def dep (A : Al) (a b : Nat) : Bool := (pl A a).any fun p => decide (p ∈ pl A b)
structure Ok (A : Al) : Prop where
  k1 : 1 ≤ A.k
  k4 : A.k ≤ 4
  n1 : 1 ≤ A.n
  n6 : A.n ≤ 6
  ne : ∀ l ∈ A.ls, l ≠ []
  asc : ∀ l ∈ A.ls, l.Pairwise (· < ·)
  lt : ∀ l ∈ A.ls, ∀ p ∈ l, p < A.k
/-- a word over the alphabet -/
def Wo (A : Al) (w : List Nat) : Prop := ∀ a ∈ w, a < A.n
theorem dep_iff {A : Al} {a b : Nat} : dep A a b = true ↔ ∃ p, p ∈ pl A a ∧ p ∈ pl A b := by
  simp [dep]
theorem dep_comm (A : Al) (a b : Nat) : dep A a b = dep A b a := by
  rw [Bool.eq_iff_iff, dep_iff, dep_iff]
  exact ⟨fun ⟨p, h1, h2⟩ => ⟨p, h2, h1⟩, fun ⟨p, h1, h2⟩ => ⟨p, h2, h1⟩⟩
theorem pl_mem {A : Al} {a : Nat} (h : a < A.n) : pl A a ∈ A.ls := by
  unfold pl
  rw [List.getD_eq_getElem?_getD, List.getElem?_eq_getElem h]
  exact List.getElem_mem h
theorem pl_ne {A : Al} (o : Ok A) {a : Nat} (h : a < A.n) : ∃ p, p ∈ pl A a := by
  have := o.ne _ (pl_mem h)
  cases e : pl A a with
  | nil => exact absurd e this
  | cons p r => exact ⟨p, by simp⟩
theorem pl_lt {A : Al} (o : Ok A) {a p : Nat} (h : a < A.n) (hp : p ∈ pl A a) : p < A.k := o.lt _ (pl_mem h) p hp
theorem pl_lt' {A : Al} (o : Ok A) {a p : Nat} (hp : p ∈ pl A a) : p < A.k ∧ a < A.n := by
  by_cases h : a < A.n
  · exact ⟨pl_lt o h hp, h⟩
  · unfold pl at hp
    rw [List.getD_eq_getElem?_getD, List.getElem?_eq_none (by unfold Al.n at h; omega)] at hp
    simp at hp
theorem dep_self {A : Al} (o : Ok A) {a : Nat} (h : a < A.n) : dep A a a = true := by
  obtain ⟨p, hp⟩ := pl_ne o h
  exact dep_iff.mpr ⟨p, hp, hp⟩
theorem ndep {A : Al} {a b p : Nat} (h : dep A a b = false) (ha : p ∈ pl A a) : p ∉ pl A b := fun hb => by
  rw [dep_iff.mpr ⟨p, ha, hb⟩] at h
  cases h
theorem Wo.cons {A : Al} {a : Nat} {w : List Nat} (h : Wo A (a :: w)) : a < A.n ∧ Wo A w := ⟨h a (by simp), fun b hb => h b (by simp [hb])⟩
theorem Wo.app {A : Al} {u v : List Nat} : Wo A (u ++ v) ↔ Wo A u ∧ Wo A v := ⟨fun h => ⟨fun a ha => h a (by simp [ha]), fun a ha => h a (by simp [ha])⟩, fun h a ha => by
  rcases List.mem_append.mp ha with q | q
  · exact h.1 a q
  · exact h.2 a q⟩
/-- the letter at a place of a word -/
abbrev at0 (w : List Nat) (k : Nat) : Nat := w.getD k 0
theorem at0_lt {A : Al} {w : List Nat} (h : Wo A w) {k : Nat} (hk : k < w.length) : at0 w k < A.n := by
  unfold at0
  rw [List.getD_eq_getElem?_getD, List.getElem?_eq_getElem hk]
  exact h _ (List.getElem_mem hk)
theorem at0_get {w : List Nat} {k : Nat} (hk : k < w.length) : w[k]? = some (at0 w k) := by
  unfold at0
  rw [List.getD_eq_getElem?_getD, List.getElem?_eq_getElem hk]
  rfl

/-! ### what a place sees -/
def prj (A : Al) (p : Nat) (w : List Nat) : List Nat := w.filter fun a => decide (p ∈ pl A a)
theorem prj_app (A : Al) (p : Nat) (u v : List Nat) : prj A p (u ++ v) = prj A p u ++ prj A p v := List.filter_append ..
theorem prj_in {A : Al} {p a : Nat} (h : p ∈ pl A a) (w : List Nat) : prj A p (a :: w) = a :: prj A p w := by simp [prj, h]
theorem prj_out {A : Al} {p a : Nat} (h : p ∉ pl A a) (w : List Nat) : prj A p (a :: w) = prj A p w := by simp [prj, h]
structure Eqv (A : Al) (u v : List Nat) : Prop where
  l : Wo A u
  r : Wo A v
  p : ∀ p, prj A p u = prj A p v
theorem Eqv.refl {A : Al} {u : List Nat} (h : Wo A u) : Eqv A u u := ⟨h, h, fun _ => rfl⟩
theorem Eqv.symm {A : Al} {u v : List Nat} (h : Eqv A u v) : Eqv A v u := ⟨h.r, h.l, fun p => (h.p p).symm⟩
theorem Eqv.trans {A : Al} {u v w : List Nat} (h : Eqv A u v) (k : Eqv A v w) : Eqv A u w := ⟨h.l, k.r, fun p => (h.p p).trans (k.p p)⟩
theorem Eqv.app {A : Al} {u v u' v' : List Nat} (h : Eqv A u v) (k : Eqv A u' v') : Eqv A (u ++ u') (v ++ v') := ⟨Wo.app.mpr ⟨h.l, k.l⟩, Wo.app.mpr ⟨h.r, k.r⟩, fun p => by rw [prj_app, prj_app, h.p, k.p]⟩
/-- a letter that could come first -/
def rdy (A : Al) (w : List Nat) (a : Nat) : Bool := (pl A a).all fun p => (prj A p w).head? == some a
theorem rdy_iff {A : Al} {w : List Nat} {a : Nat} : rdy A w a = true ↔ ∀ p ∈ pl A a, ∃ r, prj A p w = a :: r := by
  unfold rdy
  rw [List.all_eq_true]
  refine forall_congr' fun p => forall_congr' fun _ => ?_
  cases prj A p w with
  | nil => simp
  | cons b r => simp
theorem Eqv.rdy {A : Al} {u v : List Nat} (h : Eqv A u v) (a : Nat) : rdy A u a = rdy A v a := by
  unfold Tr.rdy
  simp only [h.p]
/-- a first letter: where it stands -/
theorem rdy_split {A : Al} (o : Ok A) : ∀ {w : List Nat} {a : Nat}, Wo A w → a < A.n → rdy A w a = true → ∃ x y, w = x ++ a :: y ∧ (∀ b ∈ x, dep A b a = false) ∧ a ∉ x
  | [], a, _, ha, h => by
    obtain ⟨p, hp⟩ := pl_ne o ha
    obtain ⟨r, hr⟩ := rdy_iff.mp h p hp
    cases hr
  | b :: w, a, hw, ha, h => by
    by_cases e : b = a
    · subst e
      exact ⟨[], w, rfl, by simp, by simp⟩
    · have hd : dep A b a = false := by
        rw [Bool.eq_false_iff, Ne, dep_iff]
        rintro ⟨p, h1, h2⟩
        obtain ⟨r, hr⟩ := rdy_iff.mp h p h2
        rw [prj_in h1] at hr
        exact e (List.cons.inj hr).1
      have h' : rdy A w a = true := by
        rw [rdy_iff] at h ⊢
        intro p hp
        have := h p hp
        rwa [prj_out (fun q => ndep hd q hp)] at this
      obtain ⟨x, y, e1, e2, e3⟩ := rdy_split o hw.cons.2 ha h'
      refine ⟨b :: x, y, by rw [e1]; rfl, fun c hc => ?_, ?_⟩
      · rcases List.mem_cons.mp hc with q | q
        · rw [q]
          exact hd
        · exact e2 c q
      · intro q
        rcases List.mem_cons.mp q with q | q
        · exact e q.symm
        · exact e3 q
theorem rdy_of {A : Al} {x y : List Nat} {a : Nat} (h : ∀ b ∈ x, dep A b a = false) : rdy A (x ++ a :: y) a = true := by
  rw [rdy_iff]
  intro p hp
  refine ⟨prj A p y, ?_⟩
  rw [prj_app, prj_in hp]
  have : prj A p x = [] := by
    unfold prj
    rw [List.filter_eq_nil_iff]
    intro b hb
    have := ndep (by rw [dep_comm]; exact h b hb) hp
    simpa using this
  rw [this]
  rfl
theorem swap {A : Al} {x y : List Nat} {a : Nat} (hw : Wo A (x ++ a :: y)) (h : ∀ b ∈ x, dep A b a = false) : Eqv A (x ++ a :: y) (a :: (x ++ y)) := by
  refine ⟨hw, fun b hb => hw b ?_, fun p => ?_⟩
  · simp only [List.mem_cons, List.mem_append] at hb ⊢
    rcases hb with q | q | q
    · exact .inr (.inl q)
    · exact .inl q
    · exact .inr (.inr q)
  · by_cases hp : p ∈ pl A a
    · have : prj A p x = [] := by
        unfold prj
        rw [List.filter_eq_nil_iff]
        intro b hb
        have := ndep (by rw [dep_comm]; exact h b hb) hp
        simpa using this
      rw [prj_app, prj_in hp, prj_in hp, prj_app, this]
      rfl
    · rw [prj_app, prj_out hp, prj_out hp, prj_app]
theorem erase_mid {x y : List Nat} {a : Nat} (h : a ∉ x) : (x ++ a :: y).erase a = x ++ y := by
  rw [List.erase_append_right _ h, List.erase_cons_head]
theorem rdy_erase {A : Al} (o : Ok A) {w : List Nat} {a : Nat} (hw : Wo A w) (ha : a < A.n) (h : rdy A w a = true) : Eqv A w (a :: w.erase a) := by
  obtain ⟨x, y, rfl, h1, h2⟩ := rdy_split o hw ha h
  rw [erase_mid h2]
  exact swap hw h1
theorem Eqv.tail {A : Al} {a : Nat} {u v : List Nat} (h : Eqv A (a :: u) (a :: v)) : Eqv A u v := ⟨h.l.cons.2, h.r.cons.2, fun p => by
  have := h.p p
  by_cases hp : p ∈ pl A a
  · rw [prj_in hp, prj_in hp] at this
    exact (List.cons.inj this).2
  · rwa [prj_out hp, prj_out hp] at this⟩
theorem Eqv.drop {A : Al} {c u v : List Nat} (h : Eqv A (c ++ u) (c ++ v)) : Eqv A u v := by
  induction c with
  | nil => exact h
  | cons a c ih => exact ih h.tail
theorem rdy_mem {A : Al} (o : Ok A) {w : List Nat} {a : Nat} (ha : a < A.n) (h : rdy A w a = true) : a ∈ w := by
  obtain ⟨p, hp⟩ := pl_ne o ha
  obtain ⟨r, hr⟩ := rdy_iff.mp h p hp
  have : a ∈ prj A p w := by rw [hr]; simp
  exact (List.mem_filter.mp this).1
theorem rdy_head {A : Al} {a : Nat} {w : List Nat} : rdy A (a :: w) a = true := rdy_of (x := []) (by simp)
/-- equal up to order: the same letters -/
theorem Eqv.perm {A : Al} (o : Ok A) : ∀ {u v : List Nat}, Eqv A u v → u.Perm v
  | [], v, h => by
    cases v with
    | nil => exact .nil
    | cons a v =>
      have := h.rdy a
      rw [rdy_head] at this
      have := rdy_mem o h.r.cons.1 this
      cases this
  | a :: u, v, h => by
    have ha := h.l.cons.1
    have hr : Tr.rdy A v a = true := by rw [← h.rdy a]; exact rdy_head
    have hv := rdy_erase o h.r ha hr
    have ht := (h.trans hv).tail
    exact ((Eqv.perm o ht).cons a).trans (List.perm_cons_erase (rdy_mem o ha hr)).symm
theorem Eqv.length {A : Al} (o : Ok A) {u v : List Nat} (h : Eqv A u v) : u.length = v.length := (h.perm o).length_eq

/-! ### the least form -/
def lr (A : Al) (w : List Nat) : Option Nat := (List.range A.n).find? (rdy A w)
theorem lr_some {A : Al} {w : List Nat} {a : Nat} (h : lr A w = some a) : a < A.n ∧ rdy A w a = true := ⟨List.mem_range.mp (List.mem_of_find?_eq_some h), List.find?_some h⟩
theorem lr_none {A : Al} {w : List Nat} (hw : Wo A w) (h : lr A w = none) : w = [] := by
  cases w with
  | nil => rfl
  | cons a w =>
    have := List.find?_eq_none.mp h a (List.mem_range.mpr hw.cons.1)
    rw [rdy_head] at this
    simp at this
theorem lr_least {A : Al} {w : List Nat} {a b : Nat} (h : lr A w = some a) (hb : b < A.n) (hr : rdy A w b = true) : a ≤ b := by
  unfold lr at h
  rw [List.find?_range_eq_some] at h
  refine Nat.le_of_not_lt fun q => ?_
  have := h.2.2 b q
  rw [hr] at this
  cases this
theorem lr_is {A : Al} {w : List Nat} {a : Nat} (ha : a < A.n) (h : rdy A w a = true) (hl : ∀ b, b < A.n → rdy A w b = true → a ≤ b) : lr A w = some a := by
  cases e : lr A w with
  | none =>
    have := List.find?_eq_none.mp e a (List.mem_range.mpr ha)
    rw [h] at this
    simp at this
  | some b =>
    have h1 := lr_some e
    have h2 := lr_least e ha h
    have h3 := hl b h1.1 h1.2
    rw [Nat.le_antisymm h2 h3]
theorem lr_nil {A : Al} (o : Ok A) : lr A [] = none := by
  cases e : lr A [] with
  | none => rfl
  | some a => exact absurd (rdy_mem o (lr_some e).1 (lr_some e).2) (by simp)
def lfN (A : Al) : Nat → List Nat → List Nat
  | 0, _ => []
  | n + 1, w => match lr A w with
    | none => []
    | some a => a :: lfN A n (w.erase a)
def lf (A : Al) (w : List Nat) : List Nat := lfN A w.length w
theorem lf_nil (A : Al) : lf A [] = [] := rfl
theorem lf_step {A : Al} (o : Ok A) {w : List Nat} {a : Nat} (h : lr A w = some a) : lf A w = a :: lf A (w.erase a) := by
  have hm := rdy_mem o (lr_some h).1 (lr_some h).2
  have hl := List.length_erase_of_mem hm
  have hp := List.length_pos_of_mem hm
  unfold lf
  obtain ⟨m, e⟩ : ∃ m, w.length = m + 1 := ⟨w.length - 1, by omega⟩
  rw [hl, e]
  show (match lr A w with | none => [] | some a => a :: lfN A m (w.erase a)) = _
  rw [h]
  rfl
theorem Eqv.lr {A : Al} {u v : List Nat} (h : Eqv A u v) : lr A u = lr A v := by
  unfold Tr.lr
  congr 1
  funext a
  exact h.rdy a
theorem lf_eqv {A : Al} (o : Ok A) : ∀ (n : Nat) {w : List Nat}, w.length = n → Wo A w → Eqv A w (lf A w)
  | 0, w, hl, hw => by
    cases w with
    | nil => exact .refl hw
    | cons _ _ => cases hl
  | n + 1, w, hl, hw => by
    cases e : lr A w with
    | none =>
      rw [lr_none hw e] at hl
      cases hl
    | some a =>
      obtain ⟨ha, hr⟩ := lr_some e
      rw [lf_step o e]
      have h1 := rdy_erase o hw ha hr
      have h2 := lf_eqv o n (w := w.erase a) (by rw [List.length_erase_of_mem (rdy_mem o ha hr)]; omega) h1.r.cons.2
      exact h1.trans (Eqv.app (.refl (u := [a]) (by intro b hb; rw [List.mem_singleton.mp hb]; exact ha)) h2)
theorem lf_e {A : Al} (o : Ok A) {w : List Nat} (hw : Wo A w) : Eqv A w (lf A w) := lf_eqv o _ rfl hw
theorem lf_cong' {A : Al} (o : Ok A) : ∀ (n : Nat) {u v : List Nat}, u.length = n → Eqv A u v → lf A u = lf A v
  | 0, u, v, hl, h => by
    have := h.length o
    cases u with
    | nil => cases v with
      | nil => rfl
      | cons _ _ => cases this
    | cons _ _ => cases hl
  | n + 1, u, v, hl, h => by
    cases e : Tr.lr A u with
    | none =>
      rw [lr_none h.l e] at hl
      cases hl
    | some a =>
      obtain ⟨ha, hr⟩ := lr_some e
      have hr' : rdy A v a = true := by rw [← h.rdy]; exact hr
      have e' : Tr.lr A v = some a := h.lr ▸ e
      rw [lf_step o e, lf_step o e']
      have h1 := rdy_erase o h.l ha hr
      have h2 := rdy_erase o h.r ha hr'
      rw [lf_cong' o n (by rw [List.length_erase_of_mem (rdy_mem o ha hr)]; omega) ((h1.symm.trans h).trans h2).tail]
theorem lf_cong {A : Al} (o : Ok A) {u v : List Nat} (h : Eqv A u v) : lf A u = lf A v := lf_cong' o _ rfl h
theorem lf_lf {A : Al} (o : Ok A) {w : List Nat} (hw : Wo A w) : lf A (lf A w) = lf A w := (lf_cong o (lf_e o hw)).symm
theorem lf_len {A : Al} (o : Ok A) {w : List Nat} (hw : Wo A w) : (lf A w).length = w.length := ((lf_e o hw).length o).symm
theorem lf_wo {A : Al} (o : Ok A) {w : List Nat} (hw : Wo A w) : Wo A (lf A w) := (lf_e o hw).r

/-! ### the positions whose letters could come first -/
def fl (A : Al) (w : List Nat) : List Nat := (List.range w.length).filter fun k => (List.range k).all fun j => !dep A (at0 w j) (at0 w k)
theorem fl_iff {A : Al} {w : List Nat} {k : Nat} : k ∈ fl A w ↔ k < w.length ∧ ∀ j, j < k → dep A (at0 w j) (at0 w k) = false := by
  simp [fl]
theorem fl_split {A : Al} (o : Ok A) {w : List Nat} (hw : Wo A w) {k : Nat} (h : k ∈ fl A w) : rdy A w (at0 w k) = true ∧ w.eraseIdx k = w.erase (at0 w k) := by
  obtain ⟨hk, hi⟩ := fl_iff.mp h
  have e1 : w = w.take k ++ at0 w k :: w.drop (k + 1) := by
    conv => lhs; rw [← List.take_append_drop k w, List.drop_eq_getElem_cons hk]
    have : w[k] = at0 w k := by
      have := at0_get hk
      rw [List.getElem?_eq_getElem hk] at this
      exact Option.some.inj this
    rw [this]
  have hx : ∀ b ∈ w.take k, dep A b (at0 w k) = false := fun b hb => by
    obtain ⟨j, hj, e⟩ := List.getElem_of_mem hb
    rw [List.length_take] at hj
    rw [List.getElem_take] at e
    have := hi j (by omega)
    have e2 := at0_get (w := w) (k := j) (by omega)
    rw [List.getElem?_eq_getElem (by omega)] at e2
    rw [← Option.some.inj e2, e] at this
    exact this
  have hn : at0 w k ∉ w.take k := fun q => by
    have := hx _ q
    rw [dep_self o (at0_lt hw hk)] at this
    cases this
  refine ⟨by have := rdy_of (y := w.drop (k + 1)) hx; rwa [← e1] at this, ?_⟩
  rw [List.eraseIdx_eq_take_drop_succ]
  have e3 : w.erase (at0 w k) = (w.take k ++ at0 w k :: w.drop (k + 1)).erase (at0 w k) := congrArg (·.erase (at0 w k)) e1
  rw [e3, erase_mid hn]
theorem fl_of {A : Al} (o : Ok A) {w : List Nat} (hw : Wo A w) {a : Nat} (ha : a < A.n) (h : rdy A w a = true) : ∃ k, k ∈ fl A w ∧ at0 w k = a := by
  obtain ⟨x, y, rfl, h1, h2⟩ := rdy_split o hw ha h
  have e : ∀ j, j < x.length → at0 (x ++ a :: y) j ∈ x := fun j hj => by
    unfold at0
    rw [List.getD_eq_getElem?_getD, List.getElem?_append_left hj, List.getElem?_eq_getElem hj]
    exact List.getElem_mem hj
  have e2 : at0 (x ++ a :: y) x.length = a := by
    unfold at0
    rw [List.getD_eq_getElem?_getD, List.getElem?_append_right (Nat.le_refl _), Nat.sub_self]
    rfl
  refine ⟨x.length, fl_iff.mpr ⟨by simp, fun j hj => ?_⟩, e2⟩
  rw [e2]
  exact h1 _ (e j hj)
theorem fl_uniq {A : Al} (o : Ok A) {w : List Nat} (hw : Wo A w) {i j : Nat} (hi : i ∈ fl A w) (hj : j ∈ fl A w) (e : at0 w i = at0 w j) : i = j := by
  obtain ⟨i1, i2⟩ := fl_iff.mp hi
  obtain ⟨j1, j2⟩ := fl_iff.mp hj
  rcases Nat.lt_trichotomy i j with q | q | q
  · have := j2 i q
    rw [e, dep_self o (at0_lt hw j1)] at this
    cases this
  · exact q
  · have := i2 j q
    rw [e, dep_self o (at0_lt hw j1)] at this
    cases this
end Tr

/-! Down-sets, clocks: plain Lean. -/
namespace Tr
/-- below some events -/
inductive Dn (A : Al) (w : List Nat) (E : List Nat) : Nat → Prop
  | base {i : Nat} : i < w.length → i ∈ E → Dn A w E i
  | step {i j : Nat} : i < j → dep A (at0 w i) (at0 w j) = true → Dn A w E j → Dn A w E i
theorem Dn.lt {A : Al} {w E : List Nat} {i : Nat} (h : Dn A w E i) : i < w.length := by
  induction h with
  | base h _ => exact h
  | step h _ _ ih => omega
theorem Dn.mono {A : Al} {w E F : List Nat} (h : ∀ e, e < w.length → e ∈ E → Dn A w F e) {i : Nat} (d : Dn A w E i) : Dn A w F i := by
  induction d with
  | base h1 h2 => exact h _ h1 h2
  | step h1 h2 _ ih => exact .step h1 h2 ih
theorem Dn.one {A : Al} {w E : List Nat} {i : Nat} (d : Dn A w E i) : ∃ e, e < w.length ∧ e ∈ E ∧ Dn A w [e] i := by
  induction d with
  | base h1 h2 => exact ⟨_, h1, h2, .base h1 (by simp)⟩
  | step h1 h2 _ ih =>
    obtain ⟨e, e1, e2, e3⟩ := ih
    exact ⟨e, e1, e2, .step h1 h2 e3⟩
theorem Dn.le {A : Al} {w : List Nat} {e i : Nat} (d : Dn A w [e] i) : i ≤ e := by
  induction d with
  | base h1 h2 => simp at h2; omega
  | step h1 h2 _ ih => omega
theorem Dn.tr {A : Al} {w : List Nat} {e i j : Nat} (h : Dn A w [j] i) (k : Dn A w [e] j) : Dn A w [e] i := h.mono fun x _ q => by
  rw [List.mem_singleton.mp q]
  exact k
theorem Dn.self {A : Al} {w : List Nat} {i : Nat} (h : i < w.length) : Dn A w [i] i := .base h (by simp)
theorem Dn.dep {A : Al} {w : List Nat} {i j : Nat} (h : i < j) (hj : j < w.length) (d : dep A (at0 w i) (at0 w j) = true) : Dn A w [j] i := .step h d (.self hj)
theorem Dn.inv {A : Al} {w E : List Nat} {i : Nat} : Dn A w E i ↔ i < w.length ∧ (i ∈ E ∨ ∃ j, i < j ∧ Tr.dep A (at0 w i) (at0 w j) = true ∧ Dn A w E j) :=
  ⟨fun h => ⟨h.lt, by cases h with
    | base h1 h2 => exact .inl h2
    | step h1 h2 h3 => exact .inr ⟨_, h1, h2, h3⟩⟩, fun ⟨h, k⟩ => by
    rcases k with k | ⟨j, h1, h2, h3⟩
    · exact .base h k
    · exact .step h1 h2 h3⟩
open Classical
noncomputable def dn (A : Al) (w : List Nat) (E : List Nat) : List Nat := (List.range w.length).filter fun i => decide (Dn A w E i)
theorem dn_mem {A : Al} {w E : List Nat} {i : Nat} : i ∈ dn A w E ↔ Dn A w E i := by
  unfold dn
  rw [List.mem_filter, List.mem_range, decide_eq_true_eq]
  exact ⟨fun h => h.2, fun h => ⟨h.lt, h⟩⟩
theorem asc_range (n : Nat) : (List.range n).Pairwise (· < ·) := List.pairwise_lt_range
theorem dn_asc {A : Al} {w E : List Nat} : (dn A w E).Pairwise (· < ·) := (asc_range _).filter _
theorem asc_ext : ∀ {l m : List Nat}, l.Pairwise (· < ·) → m.Pairwise (· < ·) → (∀ x, x ∈ l ↔ x ∈ m) → l = m
  | [], [], _, _, _ => rfl
  | [], b :: m, _, _, h => by have := (h b).mpr (by simp); cases this
  | a :: l, [], _, _, h => by have := (h a).mp (by simp); cases this
  | a :: l, b :: m, h1, h2, h => by
    rw [List.pairwise_cons] at h1 h2
    have e : a = b := by
      rcases List.mem_cons.mp ((h a).mp (by simp)) with q | q
      · exact q
      · rcases List.mem_cons.mp ((h b).mpr (by simp)) with r | r
        · exact r.symm
        · have := h1.1 b r
          have := h2.1 a q
          omega
    subst e
    rw [asc_ext h1.2 h2.2 fun x => ⟨fun hx => ?_, fun hx => ?_⟩]
    · rcases List.mem_cons.mp ((h x).mp (by simp [hx])) with q | q
      · have := h1.1 x hx
        omega
      · exact q
    · rcases List.mem_cons.mp ((h x).mpr (by simp [hx])) with q | q
      · have := h2.1 x hx
        omega
      · exact q
/-- a cut -/
structure Cl (A : Al) (w C : List Nat) : Prop where
  asc : C.Pairwise (· < ·)
  lt : ∀ i ∈ C, i < w.length
  cl : ∀ i j, i < j → dep A (at0 w i) (at0 w j) = true → j ∈ C → i ∈ C
theorem Cl.le {A : Al} {w C : List Nat} (c : Cl A w C) {i j : Nat} (h : Dn A w [j] i) (hj : j ∈ C) : i ∈ C := by
  induction h with
  | base h1 h2 => rwa [List.mem_singleton.mp h2]
  | step h1 h2 _ ih => exact c.cl _ _ h1 h2 ih
theorem Cl.sub {A : Al} {w C E : List Nat} (c : Cl A w C) (hE : ∀ e ∈ E, e < w.length → e ∈ C) {i : Nat} (h : Dn A w E i) : i ∈ C := by
  obtain ⟨e, e1, e2, e3⟩ := h.one
  exact c.le e3 (hE e e2 e1)
theorem dn_cl (A : Al) (w E : List Nat) : Cl A w (dn A w E) := ⟨dn_asc, fun i h => (dn_mem.mp h).lt, fun i j h d hj => dn_mem.mpr (.step h d (dn_mem.mp hj))⟩
theorem Cl.eq {A : Al} {w C : List Nat} (c : Cl A w C) : dn A w C = C := asc_ext dn_asc c.asc fun x => by
  rw [dn_mem]
  exact ⟨c.sub fun e h _ => h, fun h => .base (c.lt x h) h⟩
theorem range_cl (A : Al) (w : List Nat) : Cl A w (List.range w.length) := ⟨asc_range _, fun i h => List.mem_range.mp h, fun i j h _ hj => List.mem_range.mpr (by have := List.mem_range.mp hj; omega)⟩
theorem nil_cl (A : Al) (w : List Nat) : Cl A w [] := ⟨.nil, fun i h => absurd h (by simp), fun i j _ _ h => absurd h (by simp)⟩

/-! ### clocks -/
abbrev Rw := Nat → Nat → Nat
def mxl (R : Rw) (b : Nat) (ps : List Nat) : Nat := ps.foldr (fun p m => max (R p b) m) 0
def nr (A : Al) (R : Rw) (a b : Nat) : Nat := mxl R b (pl A a) + if b = a then 1 else 0
def stp (A : Al) (R : Rw) (a : Nat) : Rw := fun p => if p ∈ pl A a then nr A R a else R p
def R0 : Rw := fun _ _ => 0
def run (A : Al) (R : Rw) (w : List Nat) : Rw := w.foldl (stp A) R
/-- the events at a place -/
def evs (A : Al) (w : List Nat) (p : Nat) : List Nat := (List.range w.length).filter fun k => decide (p ∈ pl A (at0 w k))
theorem evs_mem {A : Al} {w : List Nat} {p k : Nat} : k ∈ evs A w p ↔ k < w.length ∧ p ∈ pl A (at0 w k) := by simp [evs]
/-- what a place has seen of the first m -/
def Vw (A : Al) (w : List Nat) (m p j : Nat) : Prop := ∃ e, e < m ∧ p ∈ pl A (at0 w e) ∧ Dn A w [e] j
theorem filter_or_len {P Q : Nat → Bool} : ∀ {L : List Nat}, L.Pairwise (· < ·) → (∀ x y, x ∈ L → y ∈ L → x < y → P y = true → P x = true) → (∀ x y, x ∈ L → y ∈ L → x < y → Q y = true → Q x = true) →
    (L.filter fun x => P x || Q x).length = max (L.filter P).length (L.filter Q).length := by
  intro L _ hp hq
  by_cases h : ∀ x ∈ L, P x = true → Q x = true
  · have e : L.filter (fun x => P x || Q x) = L.filter Q := List.filter_congr fun x hx => by
      cases e1 : P x with
      | false => rfl
      | true => rw [h x hx e1]; rfl
    have : (L.filter P).length ≤ (L.filter Q).length := by
      rw [← List.countP_eq_length_filter, ← List.countP_eq_length_filter]
      exact List.countP_mono_left h
    rw [e]
    omega
  · have h' : ∀ x ∈ L, Q x = true → P x = true := by
      intro y hy qy
      refine Classical.byContradiction fun py => h fun x hx px => ?_
      rcases Nat.lt_trichotomy x y with r | r | r
      · exact hq x y hx hy r qy
      · rw [r]
        exact qy
      · exact absurd (hp y x hy hx r px) py
    have e : L.filter (fun x => P x || Q x) = L.filter P := List.filter_congr fun x hx => by
      cases e1 : Q x with
      | false => simp
      | true => rw [h' x hx e1]; rfl
    have : (L.filter Q).length ≤ (L.filter P).length := by
      rw [← List.countP_eq_length_filter, ← List.countP_eq_length_filter]
      exact List.countP_mono_left h'
    rw [e]
    omega
theorem filter_any_len {P : Nat → Nat → Bool} {L : List Nat} (hL : L.Pairwise (· < ·)) (h : ∀ p x y, x ∈ L → y ∈ L → x < y → P p y = true → P p x = true) : ∀ ps : List Nat,
    (L.filter fun x => ps.any fun p => P p x).length = ps.foldr (fun p m => max (L.filter (P p)).length m) 0
  | [] => by simp
  | p :: ps => by
    simp only [List.any_cons, List.foldr_cons]
    rw [filter_or_len hL (h p) (fun x y hx hy r q => ?_), filter_any_len hL h ps]
    rw [List.any_eq_true] at q ⊢
    obtain ⟨p', h1, h2⟩ := q
    exact ⟨p', h1, h p' x y hx hy r h2⟩
section
open Classical
variable {A : Al} (o : Ok A) {w : List Nat} (hw : Wo A w)
noncomputable def vct (A : Al) (w : List Nat) (m p b : Nat) : Nat := ((List.range m).filter fun j => decide (at0 w j = b) && decide (Vw A w m p j)).length
noncomputable def cct (A : Al) (w : List Nat) (k b : Nat) : Nat := ((dn A w [k]).filter fun j => decide (at0 w j = b)).length
theorem le_dep {m j : Nat} (h : Dn A w [m] j) : j = m ∨ ∃ e, j ≤ e ∧ e < m ∧ dep A (at0 w e) (at0 w m) = true ∧ Dn A w [e] j := by
  induction h with
  | base h1 h2 => exact .inl (by simpa using h2)
  | step h1 h2 h3 ih =>
    rename_i i j
    have hl := h3.lt
    rcases ih with q | ⟨e, q1, q2, q3, q4⟩
    · subst q
      exact .inr ⟨i, Nat.le_refl _, h1, h2, .self (by omega)⟩
    · exact .inr ⟨e, by omega, q2, q3, .step h1 h2 q4⟩
include o hw in
theorem same_chain {i j : Nat} (h : i < j) (hj : j < w.length) (e : at0 w i = at0 w j) : Dn A w [j] i := .dep h hj (by rw [e]; exact dep_self o (at0_lt hw hj))
theorem dn_cut {k : Nat} (hk : k < w.length) : dn A w [k] = (List.range (k + 1)).filter fun j => decide (Dn A w [k] j) := asc_ext dn_asc ((asc_range _).filter _) fun x => by
  rw [dn_mem, List.mem_filter, List.mem_range, decide_eq_true_eq]
  exact ⟨fun h => ⟨by have := h.le; omega, h⟩, fun h => h.2⟩
include o hw in
/-- the next row -/
theorem nr_is {m b : Nat} (hm : m < w.length) {R : Rw} (hR : ∀ p b, R p b = vct A w m p b) : nr A R (at0 w m) b = cct A w m b := by
  unfold nr mxl cct
  simp only [hR]
  unfold vct
  have e1 : ∀ p, (List.range m).filter (fun j => decide (at0 w j = b) && decide (Vw A w m p j)) = ((List.range m).filter fun j => decide (at0 w j = b)).filter fun j => decide (Vw A w m p j) := fun p => by
    rw [List.filter_filter]
    exact List.filter_congr fun x _ => Bool.and_comm ..
  simp only [e1]
  have hL : ((List.range m).filter fun j => decide (at0 w j = b)).Pairwise (· < ·) := (asc_range _).filter _
  rw [← filter_any_len (P := fun p j => decide (Vw A w m p j)) hL]
  · rw [dn_cut hm, List.range_succ, List.filter_append, List.filter_append, List.length_append]
    have e2 : ((List.range m).filter fun j => decide (Dn A w [m] j)).filter (fun j => decide (at0 w j = b)) = ((List.range m).filter fun j => decide (at0 w j = b)).filter fun x => (pl A (at0 w m)).any fun p => decide (Vw A w m p x) := by
      rw [List.filter_filter, List.filter_filter]
      refine List.filter_congr fun x hx => ?_
      rw [Bool.and_comm]
      congr 1
      rw [Bool.eq_iff_iff, List.any_eq_true, decide_eq_true_eq]
      have hx := List.mem_range.mp hx
      constructor
      · intro h
        rcases le_dep h with q | ⟨e, q1, q2, q3, q4⟩
        · omega
        · obtain ⟨p, p1, p2⟩ := dep_iff.mp q3
          exact ⟨p, p2, decide_eq_true ⟨e, q2, p1, q4⟩⟩
      · rintro ⟨p, p1, p2⟩
        obtain ⟨e, q1, q2, q3⟩ := of_decide_eq_true p2
        exact q3.tr (.dep q1 hm (dep_iff.mpr ⟨p, q2, p1⟩))
    rw [e2]
    congr 1
    have hs : decide (Dn A w [m] m) = true := decide_eq_true (.self hm)
    rw [List.filter_cons, hs]
    by_cases hb : b = at0 w m
    · rw [if_pos hb, if_pos rfl, List.filter_nil, List.filter_cons, decide_eq_true hb.symm]
      rfl
    · have : ¬ at0 w m = b := fun q => hb q.symm
      rw [if_neg hb, if_pos rfl, List.filter_nil, List.filter_cons, decide_eq_false this]
      rfl
  · intro p x y hx hy r q
    obtain ⟨e, q1, q2, q3⟩ := of_decide_eq_true q
    have h1 := (List.mem_filter.mp hx)
    have h2 := (List.mem_filter.mp hy)
    have hy' := List.mem_range.mp h2.1
    exact decide_eq_true ⟨e, q1, q2, (same_chain o hw r (by omega) ((of_decide_eq_true h1.2).trans (of_decide_eq_true h2.2).symm)).tr q3⟩
theorem take_succ_at {k : Nat} (hk : k < w.length) : w.take (k + 1) = w.take k ++ [at0 w k] := by
  rw [List.take_succ, at0_get hk]
  rfl
include o hw in
theorem run_is : ∀ {m : Nat}, m ≤ w.length → ∀ p b, run A R0 (w.take m) p b = vct A w m p b
  | 0, _, p, b => by simp [run, R0, vct]
  | m + 1, hm, p, b => by
    have ih := run_is (m := m) (by omega)
    have hml : m < w.length := by omega
    rw [take_succ_at hml]
    unfold run
    rw [List.foldl_append]
    show stp A (run A R0 (w.take m)) (at0 w m) p b = _
    unfold stp
    by_cases hp : p ∈ pl A (at0 w m)
    · rw [if_pos hp, nr_is o hw hml ih]
      unfold cct vct
      rw [dn_cut hml, List.filter_filter]
      congr 1
      refine List.filter_congr fun x hx => ?_
      congr 1
      rw [decide_eq_decide]
      constructor
      · exact fun h => ⟨m, by omega, hp, h⟩
      · rintro ⟨e, q1, q2, q3⟩
        by_cases q : e = m
        · exact q ▸ q3
        · exact q3.tr (.dep (by omega) hml (dep_iff.mpr ⟨p, q2, hp⟩))
    · rw [if_neg hp, ih]
      unfold vct
      rw [List.range_succ, List.filter_append]
      have e0 : ∀ x, Vw A w (m + 1) p x ↔ Vw A w m p x := fun x => by
        constructor
        · rintro ⟨e, q1, q2, q3⟩
          by_cases q : e = m
          · exact absurd (q ▸ q2) hp
          · exact ⟨e, by omega, q2, q3⟩
        · rintro ⟨e, q1, q2, q3⟩
          exact ⟨e, by omega, q2, q3⟩
      simp only [e0]
      have : decide (Vw A w m p m) = false := decide_eq_false fun ⟨e, q1, q2, q3⟩ => by
        have := q3.le
        omega
      simp [this]
/-- a clock -/
def clk (A : Al) (w : List Nat) (k b : Nat) : Nat := nr A (run A R0 (w.take k)) (at0 w k) b
include o hw in
theorem clk_is {k : Nat} (hk : k < w.length) (b : Nat) : clk A w k b = cct A w k b := nr_is o hw hk (run_is o hw (by omega))
def gat (A : Al) (w : List Nat) (p b : Nat) : Nat := run A R0 w p b
include o hw in
theorem gat_is (p b : Nat) : gat A w p b = ((dn A w (evs A w p)).filter fun j => decide (at0 w j = b)).length := by
  have := run_is o hw (Nat.le_refl _) p b
  rw [List.take_length] at this
  unfold gat
  rw [this]
  unfold vct dn
  rw [List.filter_filter]
  congr 1
  refine List.filter_congr fun x hx => ?_
  congr 1
  rw [decide_eq_decide]
  constructor
  · rintro ⟨e, q1, q2, q3⟩
    exact q3.mono fun y _ hy => by
      rw [List.mem_singleton.mp hy]
      exact .base q1 (evs_mem.mpr ⟨q1, q2⟩)
  · intro h
    obtain ⟨e, q1, q2, q3⟩ := h.one
    exact ⟨e, q1, (evs_mem.mp q2).2, q3⟩
theorem sum_counts {n : Nat} {f : Nat → Nat} : ∀ {L : List Nat}, (∀ x ∈ L, f x < n) → ((List.range n).map fun b => (L.filter fun j => decide (f j = b)).length).sum = L.length
  | [], _ => by
    have : ((List.range n).map fun b => (([] : List Nat).filter fun j => decide (f j = b)).length) = List.replicate n 0 := by
      simp [List.eq_replicate_iff]
    rw [this]
    simp
  | x :: L, h => by
    have ih := sum_counts (n := n) (f := f) (L := L) fun y hy => h y (by simp [hy])
    have hx := h x (by simp)
    have e : ∀ b, ((x :: L).filter fun j => decide (f j = b)).length = (L.filter fun j => decide (f j = b)).length + if f x = b then 1 else 0 := fun b => by
      rw [List.filter_cons]
      by_cases q : f x = b <;> simp [q]
    simp only [e]
    have e2 : ∀ (g k : Nat → Nat) (l : List Nat), (l.map fun b => g b + k b).sum = (l.map g).sum + (l.map k).sum := fun g k l => by
      induction l with
      | nil => rfl
      | cons a l ih => simp only [List.map_cons, List.sum_cons, ih]; omega
    rw [e2, ih]
    have e3 : ∀ n, f x < n → ((List.range n).map fun b => if f x = b then 1 else 0).sum = 1 := by
      intro n
      induction n with
      | zero => intro h; omega
      | succ n ih =>
        intro h
        rw [List.range_succ, List.map_append, List.sum_append]
        by_cases q : f x = n
        · have : ((List.range n).map fun b => if f x = b then 1 else 0) = List.replicate n 0 := by
            rw [List.eq_replicate_iff]
            refine ⟨by simp, fun b hb => ?_⟩
            obtain ⟨c, c1, rfl⟩ := List.mem_map.mp hb
            have := List.mem_range.mp c1
            rw [if_neg (by omega)]
          rw [this]
          simp [q]
        · rw [ih (by omega)]
          simp [q]
    rw [e3 n hx]
    rfl
include o hw in
theorem clk_sum {k : Nat} (hk : k < w.length) : ((List.range A.n).map (clk A w k)).sum = (dn A w [k]).length := by
  have : (List.range A.n).map (clk A w k) = (List.range A.n).map fun b => ((dn A w [k]).filter fun j => decide (at0 w j = b)).length := List.map_congr_left fun b _ => clk_is o hw hk b
  rw [this]
  exact sum_counts fun x hx => at0_lt hw (dn_mem.mp hx).lt
include o hw in
theorem gat_sum (p : Nat) : ((List.range A.n).map (gat A w p)).sum = (dn A w (evs A w p)).length := by
  have : (List.range A.n).map (gat A w p) = (List.range A.n).map fun b => ((dn A w (evs A w p)).filter fun j => decide (at0 w j = b)).length := List.map_congr_left fun b _ => gat_is o hw p b
  rw [this]
  exact sum_counts fun x hx => at0_lt hw (dn_mem.mp hx).lt
include o hw in
/-- clocks tell the order -/
theorem clk_le {i j : Nat} (hi : i < w.length) (hj : j < w.length) : (∀ b, b < A.n → clk A w i b ≤ clk A w j b) ↔ Dn A w [j] i := by
  constructor
  · intro h
    have h1 := h (at0 w i) (at0_lt hw hi)
    rw [clk_is o hw hi, clk_is o hw hj] at h1
    refine Classical.byContradiction fun hn => ?_
    have h2 : cct A w j (at0 w i) < cct A w i (at0 w i) := by
      unfold cct
      have e : (dn A w [i]).filter (fun x => decide (at0 w x = at0 w i)) = ((dn A w [j]).filter fun x => decide (at0 w x = at0 w i)) ++ (((List.range w.length).filter fun x => decide (at0 w x = at0 w i)).filter fun x => decide (x ≤ i) && !decide (Dn A w [j] x)) := by
        refine asc_ext (dn_asc.filter _) ?_ fun x => ?_
        · rw [List.pairwise_append]
          refine ⟨dn_asc.filter _, ((asc_range _).filter _).filter _, fun x hx y hy => ?_⟩
          simp only [List.mem_filter, decide_eq_true_eq, dn_mem, List.mem_range, Bool.and_eq_true, Bool.not_eq_true', decide_eq_false_iff_not] at hx hy
          refine Nat.lt_of_not_le fun q => ?_
          by_cases e : y = x
          · exact hy.2.2 (e ▸ hx.1)
          · exact hy.2.2 ((same_chain o hw (by omega) hx.1.lt (hy.1.2.trans hx.2.symm)).tr hx.1)
        · simp only [List.mem_append, List.mem_filter, decide_eq_true_eq, dn_mem, List.mem_range, Bool.and_eq_true, Bool.not_eq_true', decide_eq_false_iff_not]
          constructor
          · rintro ⟨h1, h2⟩
            by_cases q : Dn A w [j] x
            · exact .inl ⟨q, h2⟩
            · exact .inr ⟨⟨h1.lt, h2⟩, h1.le, q⟩
          · rintro (⟨h1, h2⟩ | ⟨⟨h1, h2⟩, h3, h4⟩)
            · refine ⟨?_, h2⟩
              rcases Nat.lt_trichotomy x i with q | q | q
              · exact same_chain o hw q hi h2
              · rw [q]
                exact .self hi
              · exact absurd ((same_chain o hw q h1.lt h2.symm).tr h1) hn
            · refine ⟨?_, h2⟩
              by_cases q : x = i
              · rw [q]
                exact .self hi
              · exact same_chain o hw (by omega) hi h2
      rw [e, List.length_append]
      have : i ∈ ((List.range w.length).filter fun x => decide (at0 w x = at0 w i)).filter fun x => decide (x ≤ i) && !decide (Dn A w [j] x) := by
        simp only [List.mem_filter, decide_eq_true_eq, List.mem_range, Bool.and_eq_true, Bool.not_eq_true', decide_eq_false_iff_not]
        exact ⟨⟨hi, trivial⟩, Nat.le_refl _, hn⟩
      have := List.length_pos_of_mem this
      omega
    omega
  · intro h b _
    rw [clk_is o hw hi, clk_is o hw hj]
    unfold cct
    unfold dn
    rw [List.filter_filter, List.filter_filter, ← List.countP_eq_length_filter, ← List.countP_eq_length_filter]
    refine List.countP_mono_left fun x _ hx => ?_
    rw [Bool.and_eq_true, decide_eq_true_eq, decide_eq_true_eq] at hx ⊢
    exact ⟨hx.1, hx.2.tr h⟩
end
end Tr

/-! Cuts, words of cuts, runs told apart: plain Lean. -/
namespace Tr
open Classical
/-- the word of some events -/
def sub (w C : List Nat) : List Nat := C.map (at0 w)
theorem sub_app (w C D : List Nat) : sub w (C ++ D) = sub w C ++ sub w D := List.map_append ..
theorem sub_wo {A : Al} {w C : List Nat} (hw : Wo A w) (h : ∀ i ∈ C, i < w.length) : Wo A (sub w C) := fun a ha => by
  obtain ⟨i, hi, rfl⟩ := List.mem_map.mp ha
  exact at0_lt hw (h i hi)
theorem sub_all (w : List Nat) : sub w (List.range w.length) = w := by
  apply List.ext_getElem?
  intro i
  unfold sub
  rw [List.getElem?_map]
  by_cases h : i < w.length
  · rw [List.getElem?_range h, at0_get h]
    rfl
  · rw [List.getElem?_eq_none (by simp; omega), List.getElem?_eq_none (by omega)]
    rfl
theorem prj_sub (A : Al) (p : Nat) (w C : List Nat) : prj A p (sub w C) = sub w (C.filter fun i => decide (p ∈ pl A (at0 w i))) := by
  unfold prj sub
  rw [List.filter_map]
  rfl
theorem split_filter {c : Nat → Bool} : ∀ {L : List Nat}, L.Pairwise (fun x y => c x = false → c y = false) → L = L.filter c ++ L.filter fun x => !c x
  | [], _ => rfl
  | x :: L, h => by
    rw [List.pairwise_cons] at h
    cases e : c x with
    | true =>
      rw [List.filter_cons, List.filter_cons, e]
      simp only [if_true, Bool.not_true, Bool.false_eq_true, if_false, List.cons_append]
      rw [← split_filter h.2]
    | false =>
      have h1 : L.filter c = [] := List.filter_eq_nil_iff.mpr fun y hy => by rw [h.1 y hy e]; simp
      have h2 : L.filter (fun x => !c x) = L := List.filter_eq_self.mpr fun y hy => by rw [h.1 y hy e]; rfl
      rw [List.filter_cons, List.filter_cons, e]
      simp [h1, h2]
/-- a part that nothing of the rest stands below goes first -/
theorem sub_split {A : Al} {w I : List Nat} (hw : Wo A w) (hI : ∀ i ∈ I, i < w.length) (asc : I.Pairwise (· < ·)) (c : Nat → Bool) (h : ∀ i j, i ∈ I → j ∈ I → i < j → dep A (at0 w i) (at0 w j) = true → c j = true → c i = true) :
    Eqv A (sub w I) (sub w (I.filter c) ++ sub w (I.filter fun x => !c x)) := by
  refine ⟨sub_wo hw hI, Wo.app.mpr ⟨sub_wo hw fun i hi => hI i (List.mem_filter.mp hi).1, sub_wo hw fun i hi => hI i (List.mem_filter.mp hi).1⟩, fun p => ?_⟩
  rw [prj_app, prj_sub, prj_sub, prj_sub, ← sub_app]
  congr 1
  have hp : (I.filter fun i => decide (p ∈ pl A (at0 w i))).Pairwise (fun x y => c x = false → c y = false) := by
    refine List.Pairwise.imp_of_mem ?_ (asc.filter _)
    intro x y hx hy hxy hc
    have hx := List.mem_filter.mp hx
    have hy := List.mem_filter.mp hy
    cases e : c y with
    | false => rfl
    | true =>
      rw [h x y hx.1 hy.1 hxy (dep_iff.mpr ⟨p, of_decide_eq_true hx.2, of_decide_eq_true hy.2⟩) e] at hc
      cases hc
  conv => lhs; rw [split_filter hp]
  rw [List.filter_filter, List.filter_filter, List.filter_filter, List.filter_filter]
  congr 1
  · exact List.filter_congr fun x _ => Bool.and_comm ..
  · exact List.filter_congr fun x _ => Bool.and_comm ..
theorem cut_split {A : Al} {w I C : List Nat} (hw : Wo A w) (hI : ∀ i ∈ I, i < w.length) (asc : I.Pairwise (· < ·)) (hC : Cl A w C) : Eqv A (sub w I) (sub w (I.filter fun x => decide (x ∈ C)) ++ sub w (I.filter fun x => !decide (x ∈ C))) :=
  sub_split hw hI asc _ fun i j _ _ hij d hj => decide_eq_true (hC.cl i j hij d (of_decide_eq_true hj))
/-- two cuts: what is common, and what is not -/
structure Two (A : Al) (u v c r s : List Nat) : Prop where
  le : Eqv A u (c ++ r)
  ri : Eqv A v (c ++ s)
  ap : ∀ a ∈ r, ∀ b ∈ s, dep A a b = false
theorem two_cuts {A : Al} {w C D : List Nat} (hw : Wo A w) (hC : Cl A w C) (hD : Cl A w D) : Two A (sub w C) (sub w D) (sub w (C.filter fun x => decide (x ∈ D))) (sub w (C.filter fun x => !decide (x ∈ D))) (sub w (D.filter fun x => !decide (x ∈ C))) := by
  have e : C.filter (fun x => decide (x ∈ D)) = D.filter fun x => decide (x ∈ C) := asc_ext (hC.asc.filter _) (hD.asc.filter _) fun x => by
    simp only [List.mem_filter, decide_eq_true_eq]
    exact And.comm
  refine ⟨cut_split hw hC.lt hC.asc hD, by rw [e]; exact cut_split hw hD.lt hD.asc hC, fun a ha b hb => ?_⟩
  obtain ⟨i, hi, rfl⟩ := List.mem_map.mp ha
  obtain ⟨j, hj, rfl⟩ := List.mem_map.mp hb
  simp only [List.mem_filter, Bool.not_eq_true', decide_eq_false_iff_not] at hi hj
  cases e : dep A (at0 w i) (at0 w j) with
  | false => rfl
  | true =>
    rcases Nat.lt_trichotomy i j with q | q | q
    · exact absurd (hD.cl i j q e hj.1) hi.2
    · subst q
      exact absurd hi.1 hj.2
    · rw [dep_comm] at e
      exact absurd (hC.cl j i q e hi.1) hj.2
/-- the cut of both -/
theorem cup_split {A : Al} {w C D J : List Nat} (hw : Wo A w) (hC : Cl A w C) (hD : Cl A w D) (hJ : J.Pairwise (· < ·)) (hm : ∀ x, x ∈ J ↔ x ∈ C ∨ x ∈ D) :
    Eqv A (sub w J) (sub w (C.filter fun x => decide (x ∈ D)) ++ sub w (C.filter fun x => !decide (x ∈ D)) ++ sub w (D.filter fun x => !decide (x ∈ C))) := by
  have h1 := cut_split hw (I := J) (fun i hi => by rcases (hm i).mp hi with q | q; exact hC.lt i q; exact hD.lt i q) hJ hC
  have e1 : J.filter (fun x => decide (x ∈ C)) = C := asc_ext (hJ.filter _) hC.asc fun x => by
    simp only [List.mem_filter, decide_eq_true_eq, hm]
    exact ⟨fun h => h.2, fun h => ⟨.inl h, h⟩⟩
  have e2 : J.filter (fun x => !decide (x ∈ C)) = D.filter fun x => !decide (x ∈ C) := asc_ext (hJ.filter _) (hD.asc.filter _) fun x => by
    simp only [List.mem_filter, Bool.not_eq_true', decide_eq_false_iff_not, hm]
    exact ⟨fun h => ⟨h.1.elim (fun q => absurd q h.2) id, h.2⟩, fun h => ⟨.inr h.1, h.2⟩⟩
  rw [e1, e2] at h1
  exact h1.trans ((two_cuts hw hC hD).le.app (.refl (sub_wo hw fun i hi => hD.lt i (List.mem_filter.mp hi).1)))
theorem cup_cl {A : Al} {w C D J : List Nat} (hC : Cl A w C) (hD : Cl A w D) (hJ : J.Pairwise (· < ·)) (hm : ∀ x, x ∈ J ↔ x ∈ C ∨ x ∈ D) : Cl A w J :=
  ⟨hJ, fun i hi => by rcases (hm i).mp hi with q | q; exact hC.lt i q; exact hD.lt i q, fun i j h d hj => (hm i).mpr (by
    rcases (hm j).mp hj with q | q
    · exact .inl (hC.cl i j h d q)
    · exact .inr (hD.cl i j h d q))⟩
theorem cap_cl {A : Al} {w C D : List Nat} (hC : Cl A w C) (hD : Cl A w D) : Cl A w (C.filter fun x => decide (x ∈ D)) :=
  ⟨hC.asc.filter _, fun i hi => hC.lt i (List.mem_filter.mp hi).1, fun i j h d hj => by
    have := List.mem_filter.mp hj
    exact List.mem_filter.mpr ⟨hC.cl i j h d this.1, decide_eq_true (hD.cl i j h d (of_decide_eq_true this.2))⟩⟩
/-- greedy: a letter that both could begin with is common -/
theorem two_step {A : Al} (o : Ok A) {u v c r s : List Nat} (h : Two A u v c r s) {a : Nat} (ha : a < A.n) (hu : rdy A u a = true) (hv : rdy A v a = true) : rdy A c a = true ∧ Two A (u.erase a) (v.erase a) (c.erase a) r s := by
  have h1 : rdy A (c ++ r) a = true := by rw [← h.le.rdy]; exact hu
  have h2 : rdy A (c ++ s) a = true := by rw [← h.ri.rdy]; exact hv
  have hc : rdy A c a = true := by
    obtain ⟨x, y, e, k1, k2⟩ := rdy_split o h.le.r ha h1
    by_cases hm : a ∈ c
    · obtain ⟨x', y', e', n'⟩ := List.eq_append_cons_of_mem hm
      have : x = x' ∧ y = y' ++ r := by
        rw [e', List.append_assoc, List.cons_append] at e
        have : (x' ++ a :: (y' ++ r)).takeWhile (fun b => decide (b ≠ a)) = (x ++ a :: y).takeWhile (fun b => decide (b ≠ a)) := congrArg (fun l => l.takeWhile (fun b => decide (b ≠ a))) e
        have tw : ∀ (x y : List Nat), a ∉ x → (x ++ a :: y).takeWhile (fun b => decide (b ≠ a)) = x := fun x y hx => by
          have hall : ∀ b ∈ x, decide (b ≠ a) = true := fun b hb => decide_eq_true fun q => by
            rw [q] at hb
            exact hx hb
          rw [List.takeWhile_append_of_pos hall]
          simp
        rw [tw _ _ n', tw _ _ k2] at this
        subst this
        exact ⟨rfl, (List.cons.inj (List.append_cancel_left e)).2.symm⟩
      rw [e', ← this.1]
      exact rdy_of k1
    · exfalso
      obtain ⟨p, hp⟩ := pl_ne o ha
      obtain ⟨t, ht⟩ := rdy_iff.mp h1 p hp
      obtain ⟨t', ht'⟩ := rdy_iff.mp h2 p hp
      have m1 := rdy_mem o ha h1
      have m2 := rdy_mem o ha h2
      have := h.ap a ((List.mem_append.mp m1).resolve_left hm) a ((List.mem_append.mp m2).resolve_left hm)
      rw [dep_self o ha] at this
      cases this
  refine ⟨hc, ?_, ?_, h.ap⟩
  · have e1 := rdy_erase o h.le.l ha hu
    have e2 := rdy_erase o (Wo.app.mp h.le.r).1 ha hc
    exact ((e1.symm.trans h.le).trans (e2.app (.refl (Wo.app.mp h.le.r).2))).tail
  · have e1 := rdy_erase o h.ri.l ha hv
    have e2 := rdy_erase o (Wo.app.mp h.ri.r).1 ha hc
    exact ((e1.symm.trans h.ri).trans (e2.app (.refl (Wo.app.mp h.ri.r).2))).tail
theorem two_end {A : Al} {u v c r s : List Nat} (h : Two A u v c r s) (hn : ∀ a, a < A.n → rdy A u a = true → rdy A v a = true → False) : c = [] := by
  cases c with
  | nil => rfl
  | cons a c =>
    have ha : a < A.n := (Wo.app.mp h.le.r).1.cons.1
    refine (hn a ha ?_ ?_).elim
    · rw [h.le.rdy]
      exact rdy_head
    · rw [h.ri.rdy]
      exact rdy_head

/-! ### what each place writes down -/
/-- the logs of a place, from some rows on -/
def lg (A : Al) (p : Nat) : Rw → List Nat → List (Nat × (Nat → Nat))
  | _, [] => []
  | R, a :: w => if p ∈ pl A a then (a, nr A R a) :: lg A p (stp A R a) w else lg A p (stp A R a) w
def cks (A : Al) : Rw → List Nat → List (Nat → Nat)
  | _, [] => []
  | R, a :: w => nr A R a :: cks A (stp A R a) w
theorem nr_far {A : Al} {R : Rw} {a b : Nat} (h : dep A a b = false) : nr A (stp A R a) b = nr A R b := by
  funext x
  unfold nr mxl
  congr 1
  have : ∀ ps : List Nat, (∀ p ∈ ps, p ∉ pl A a) → ps.foldr (fun p m => max (stp A R a p x) m) 0 = ps.foldr (fun p m => max (R p x) m) 0 := by
    intro ps hp
    induction ps with
    | nil => rfl
    | cons p ps ih =>
      simp only [List.foldr_cons]
      rw [ih fun q hq => hp q (by simp [hq])]
      have : stp A R a p = R p := if_neg (hp p (by simp))
      rw [this]
  exact this _ fun p hp => ndep (by rw [dep_comm]; exact h) hp
theorem stp_far {A : Al} {R : Rw} {a b : Nat} (h : dep A a b = false) : stp A (stp A R a) b = stp A (stp A R b) a := by
  funext p
  have h' : dep A b a = false := by rw [dep_comm]; exact h
  show (if p ∈ pl A b then nr A (stp A R a) b else stp A R a p) = if p ∈ pl A a then nr A (stp A R b) a else stp A R b p
  rw [nr_far h, nr_far h']
  unfold stp
  by_cases hb : p ∈ pl A b
  · rw [if_pos hb, if_neg (ndep h' hb), if_pos hb]
  · rw [if_neg hb]
    by_cases ha : p ∈ pl A a
    · rw [if_pos ha, if_pos ha]
    · rw [if_neg ha, if_neg ha, if_neg hb]
theorem lg_far {A : Al} (p : Nat) : ∀ {x : List Nat} {y : List Nat} {a : Nat} {R : Rw}, (∀ b ∈ x, dep A b a = false) → lg A p R (x ++ a :: y) = lg A p R (a :: (x ++ y))
  | [], y, a, R, _ => rfl
  | b :: x, y, a, R, h => by
    have hb := h b (by simp)
    have hb' : dep A a b = false := by rw [dep_comm]; exact hb
    have ih := lg_far p (x := x) (y := y) (a := a) (R := stp A R b) fun c hc => h c (by simp [hc])
    show lg A p R (b :: (x ++ a :: y)) = lg A p R (a :: (b :: (x ++ y)))
    simp only [lg] at ih ⊢
    rw [ih, nr_far hb, nr_far hb', stp_far hb]
    by_cases q : p ∈ pl A b
    · have : p ∉ pl A a := ndep hb q
      simp [q, this]
    · simp [q]
theorem cks_far {A : Al} : ∀ {x : List Nat} {y : List Nat} {a : Nat} {R : Rw}, (∀ b ∈ x, dep A b a = false) → (cks A R (x ++ a :: y)).Perm (cks A R (a :: (x ++ y)))
  | [], y, a, R, _ => .refl _
  | b :: x, y, a, R, h => by
    have hb := h b (by simp)
    have hb' : dep A a b = false := by rw [dep_comm]; exact hb
    have ih := cks_far (x := x) (y := y) (a := a) (R := stp A R b) fun c hc => h c (by simp [hc])
    show (nr A R b :: cks A (stp A R b) (x ++ a :: y)).Perm (nr A R a :: nr A (stp A R a) b :: cks A (stp A (stp A R a) b) (x ++ y))
    refine (ih.cons _).trans ?_
    simp only [cks]
    rw [nr_far hb, nr_far hb', stp_far hb]
    exact .swap _ _ _
theorem Eqv.mid {A : Al} {a : Nat} {u x y : List Nat} (h : Eqv A (a :: u) (x ++ a :: y)) (hx : ∀ b ∈ x, dep A b a = false) : Eqv A u (x ++ y) := (h.trans (swap h.r hx)).tail
theorem Eqv.lg {A : Al} (o : Ok A) (p : Nat) : ∀ {u v : List Nat} {R : Rw}, Eqv A u v → lg A p R u = lg A p R v
  | [], v, R, h => by
    have := h.length o
    cases v with
    | nil => rfl
    | cons _ _ => cases this
  | a :: u, v, R, h => by
    have ha := h.l.cons.1
    have hr : Tr.rdy A v a = true := by rw [← h.rdy a]; exact rdy_head
    obtain ⟨x, y, rfl, h1, h2⟩ := rdy_split o h.r ha hr
    rw [lg_far p h1]
    have ih := Eqv.lg o p (R := stp A R a) (h.mid h1)
    simp only [Tr.lg]
    rw [ih]
theorem Eqv.cks {A : Al} (o : Ok A) : ∀ {u v : List Nat} {R : Rw}, Eqv A u v → (cks A R u).Perm (cks A R v)
  | [], v, R, h => by
    have := h.length o
    cases v with
    | nil => exact .refl _
    | cons _ _ => cases this
  | a :: u, v, R, h => by
    have ha := h.l.cons.1
    have hr : Tr.rdy A v a = true := by rw [← h.rdy a]; exact rdy_head
    obtain ⟨x, y, rfl, h1, h2⟩ := rdy_split o h.r ha hr
    exact ((Eqv.cks o (R := stp A R a) (h.mid h1)).cons _).trans (cks_far h1).symm
theorem run_app (A : Al) (R : Rw) (u v : List Nat) : run A R (u ++ v) = run A (run A R u) v := List.foldl_append ..
theorem cks_is (A : Al) : ∀ (v u : List Nat), cks A (run A R0 u) v = (List.range v.length).map fun k => clk A (u ++ v) (u.length + k)
  | [], u => rfl
  | a :: v, u => by
    have ih := cks_is A v (u ++ [a])
    have e1 : run A R0 (u ++ [a]) = stp A (run A R0 u) a := run_app A R0 u [a]
    rw [e1] at ih
    show nr A (run A R0 u) a :: cks A (stp A (run A R0 u) a) v = _
    rw [ih, List.length_cons, List.range_succ_eq_map, List.map_cons, List.map_map]
    congr 1
    · unfold clk
      rw [Nat.add_zero, List.take_left' rfl]
      have : at0 (u ++ a :: v) u.length = a := by
        unfold at0
        rw [List.getD_eq_getElem?_getD, List.getElem?_append_right (Nat.le_refl _), Nat.sub_self]
        rfl
      rw [this]
    · refine List.map_congr_left fun k _ => ?_
      show clk A (u ++ [a] ++ v) ((u ++ [a]).length + k) = clk A (u ++ a :: v) (u.length + (k + 1))
      rw [List.append_assoc, List.singleton_append, List.length_append, List.length_singleton, Nat.add_assoc, Nat.add_comm 1 k]
theorem lg_is (A : Al) (p : Nat) : ∀ (v u : List Nat), lg A p (run A R0 u) v = ((List.range v.length).filter fun k => decide (p ∈ pl A (at0 v k))).map fun k => (at0 v k, clk A (u ++ v) (u.length + k))
  | [], u => rfl
  | a :: v, u => by
    have ih := lg_is A p v (u ++ [a])
    have e1 : run A R0 (u ++ [a]) = stp A (run A R0 u) a := run_app A R0 u [a]
    rw [e1] at ih
    have e2 : clk A (u ++ a :: v) (u.length + 0) = nr A (run A R0 u) a := by
      unfold clk
      rw [Nat.add_zero, List.take_left' rfl]
      have : at0 (u ++ a :: v) u.length = a := by
        unfold at0
        rw [List.getD_eq_getElem?_getD, List.getElem?_append_right (Nat.le_refl _), Nat.sub_self]
        rfl
      rw [this]
    have e3 : ((List.map Nat.succ (List.range v.length)).filter fun k => decide (p ∈ pl A (at0 (a :: v) k))).map (fun k => (at0 (a :: v) k, clk A (u ++ a :: v) (u.length + k))) = lg A p (stp A (run A R0 u) a) v := by
      rw [ih, List.filter_map, List.map_map]
      refine List.map_congr_left fun k _ => ?_
      show (at0 (a :: v) (k + 1), clk A (u ++ a :: v) (u.length + (k + 1))) = (at0 v k, clk A (u ++ [a] ++ v) ((u ++ [a]).length + k))
      rw [List.append_assoc, List.singleton_append, List.length_append, List.length_singleton, Nat.add_assoc, Nat.add_comm 1 k]
      rfl
    rw [List.length_cons, List.range_succ_eq_map, List.filter_cons]
    show (if p ∈ pl A a then (a, nr A (run A R0 u) a) :: lg A p (stp A (run A R0 u) a) v else lg A p (stp A (run A R0 u) a) v) = _
    by_cases q : p ∈ pl A a
    · have : decide (p ∈ pl A (at0 (a :: v) 0)) = true := decide_eq_true q
      rw [if_pos q, this, if_pos rfl, List.map_cons, e2, e3]
      rfl
    · have : decide (p ∈ pl A (at0 (a :: v) 0)) = false := decide_eq_false q
      rw [if_neg q, this, if_neg (by simp), e3]
/-- the logs of a word -/
def lgs (A : Al) (w : List Nat) (p : Nat) : List (Nat × (Nat → Nat)) := (evs A w p).map fun k => (at0 w k, clk A w k)
theorem lgs_eq {A : Al} (o : Ok A) {u v : List Nat} (h : Eqv A u v) (p : Nat) : lgs A u p = lgs A v p := by
  have e : ∀ w, lgs A w p = lg A p R0 w := fun w => by
    have := lg_is A p w []
    simp only [List.nil_append, List.length_nil, Nat.zero_add] at this
    exact this.symm
  rw [e, e, h.lg o p]
theorem clks_perm {A : Al} (o : Ok A) {u v : List Nat} (h : Eqv A u v) : ((List.range u.length).map (clk A u)).Perm ((List.range v.length).map (clk A v)) := by
  have e : ∀ w, (List.range w.length).map (clk A w) = cks A R0 w := fun w => by
    have := cks_is A w []
    simp only [List.nil_append, List.length_nil, Nat.zero_add] at this
    exact this.symm
  rw [e, e]
  exact h.cks o
end Tr

/-! What words have in common, and their joins: plain Lean. -/
namespace Tr
/-- common beginning c, what is left has no first letter in common -/
structure Gcd (A : Al) (u v c r s : List Nat) : Prop where
  le : Eqv A u (c ++ r)
  ri : Eqv A v (c ++ s)
  nc : ∀ a, a < A.n → rdy A r a = true → rdy A s a = true → False
theorem rdy_app {A : Al} (o : Ok A) {c r : List Nat} {a : Nat} (hw : Wo A (c ++ r)) (ha : a < A.n) (h : rdy A (c ++ r) a = true) : rdy A c a = true ∨ (a ∉ c ∧ rdy A r a = true) := by
  by_cases hm : a ∈ c
  · left
    obtain ⟨x, y, e, k1, k2⟩ := rdy_split o hw ha h
    obtain ⟨x', y', e', n'⟩ := List.eq_append_cons_of_mem hm
    have : x' = x := by
      rw [e', List.append_assoc, List.cons_append] at e
      have t : (x' ++ a :: (y' ++ r)).takeWhile (fun b => decide (b ≠ a)) = (x ++ a :: y).takeWhile (fun b => decide (b ≠ a)) := congrArg (fun l => l.takeWhile (fun b => decide (b ≠ a))) e
      have tw : ∀ (x y : List Nat), a ∉ x → (x ++ a :: y).takeWhile (fun b => decide (b ≠ a)) = x := fun x y hx => by
        have hall : ∀ b ∈ x, decide (b ≠ a) = true := fun b hb => decide_eq_true fun q => by
          rw [q] at hb
          exact hx hb
        rw [List.takeWhile_append_of_pos hall]
        simp
      rw [tw _ _ n', tw _ _ k2] at t
      exact t
    rw [e', this]
    exact rdy_of k1
  · right
    refine ⟨hm, ?_⟩
    rw [rdy_iff] at h ⊢
    intro p hp
    obtain ⟨t, ht⟩ := h p hp
    rw [prj_app] at ht
    cases e : prj A p c with
    | nil =>
      rw [e] at ht
      exact ⟨t, ht⟩
    | cons b l =>
      rw [e] at ht
      have hb : b = a := (List.cons.inj ht).1
      have : a ∈ prj A p c := by rw [e, hb]; simp
      exact absurd (List.mem_filter.mp this).1 hm
theorem gcd_step {A : Al} (o : Ok A) {u v c r s : List Nat} (h : Gcd A u v c r s) {a : Nat} (ha : a < A.n) (hu : rdy A u a = true) (hv : rdy A v a = true) : rdy A c a = true ∧ Gcd A (u.erase a) (v.erase a) (c.erase a) r s := by
  have h1 : rdy A (c ++ r) a = true := by rw [← h.le.rdy]; exact hu
  have h2 : rdy A (c ++ s) a = true := by rw [← h.ri.rdy]; exact hv
  have hc : rdy A c a = true := by
    rcases rdy_app o h.le.r ha h1 with q | ⟨q1, q2⟩
    · exact q
    · rcases rdy_app o h.ri.r ha h2 with z | ⟨z1, z2⟩
      · exact z
      · exact (h.nc a ha q2 z2).elim
  refine ⟨hc, ?_, ?_, h.nc⟩
  · have e1 := rdy_erase o h.le.l ha hu
    have e2 := rdy_erase o (Wo.app.mp h.le.r).1 ha hc
    exact ((e1.symm.trans h.le).trans (e2.app (.refl (Wo.app.mp h.le.r).2))).tail
  · have e1 := rdy_erase o h.ri.l ha hv
    have e2 := rdy_erase o (Wo.app.mp h.ri.r).1 ha hc
    exact ((e1.symm.trans h.ri).trans (e2.app (.refl (Wo.app.mp h.ri.r).2))).tail
theorem gcd_end {A : Al} {u v c r s : List Nat} (h : Gcd A u v c r s) (hn : ∀ a, a < A.n → rdy A u a = true → rdy A v a = true → False) : c = [] := by
  cases c with
  | nil => rfl
  | cons a c =>
    have ha : a < A.n := (Wo.app.mp h.le.r).1.cons.1
    refine (hn a ha ?_ ?_).elim
    · rw [h.le.rdy]
      exact rdy_head
    · rw [h.ri.rdy]
      exact rdy_head
theorem gcd_ex {A : Al} (o : Ok A) : ∀ (n : Nat) {u v : List Nat}, u.length = n → Wo A u → Wo A v → ∃ c r s, Gcd A u v c r s
  | n, u, v, hl, hu, hv => by
    by_cases h : ∃ a, a < A.n ∧ rdy A u a = true ∧ rdy A v a = true
    · obtain ⟨a, ha, h1, h2⟩ := h
      have m1 := rdy_mem o ha h1
      have e1 := rdy_erase o hu ha h1
      have e2 := rdy_erase o hv ha h2
      have hle := List.length_erase_of_mem m1
      have hpo := List.length_pos_of_mem m1
      cases n with
      | zero => omega
      | succ n =>
        obtain ⟨c, r, s, g⟩ := gcd_ex o n (u := u.erase a) (v := v.erase a) (by omega) e1.r.cons.2 e2.r.cons.2
        have ea : Eqv A [a] [a] := .refl (by intro b hb; rw [List.mem_singleton.mp hb]; exact ha)
        exact ⟨a :: c, r, s, e1.trans (ea.app g.le), e2.trans (ea.app g.ri), g.nc⟩
    · exact ⟨[], u, v, .refl hu, .refl hv, fun a ha h1 h2 => h ⟨a, ha, h1, h2⟩⟩
/-! by what the places see -/
def LeP (A : Al) (u v : List Nat) : Prop := ∀ p, prj A p u <+: prj A p v
def Cmp (A : Al) (u v : List Nat) : Prop := ∀ p, prj A p u <+: prj A p v ∨ prj A p v <+: prj A p u
def Apart (A : Al) (r s : List Nat) : Prop := ∀ a ∈ r, ∀ b ∈ s, dep A a b = false
theorem LeP.refl (A : Al) (u : List Nat) : LeP A u u := fun p => List.prefix_refl _
theorem LeP.trans {A : Al} {u v w : List Nat} (h : LeP A u v) (k : LeP A v w) : LeP A u w := fun p => (h p).trans (k p)
theorem LeP.app (A : Al) (u r : List Nat) : LeP A u (u ++ r) := fun p => by rw [prj_app]; exact List.prefix_append _ _
theorem LeP.of {A : Al} {u v r : List Nat} (h : Eqv A v (u ++ r)) : LeP A u v := fun p => by rw [h.p]; exact LeP.app A u r p
theorem LeP.l {A : Al} {u u' v : List Nat} (h : LeP A u v) (e : Eqv A u u') : LeP A u' v := fun p => by rw [← e.p]; exact h p
theorem LeP.r {A : Al} {u v v' : List Nat} (h : LeP A u v) (e : Eqv A v v') : LeP A u v' := fun p => by rw [← e.p]; exact h p
theorem pre_drop {a b c : List Nat} (h : a ++ b <+: a ++ c) : b <+: c := (List.prefix_append_right_inj a).mp h
theorem first_rdy {A : Al} {r : List Nat} (hr : r ≠ []) (hw : Wo A r) : ∃ a, a < A.n ∧ rdy A r a = true := by
  cases r with
  | nil => exact absurd rfl hr
  | cons a r => exact ⟨a, hw.cons.1, rdy_head⟩
theorem LeP.ex {A : Al} (o : Ok A) {u v : List Nat} (hu : Wo A u) (hv : Wo A v) (h : LeP A u v) : ∃ s, Eqv A v (u ++ s) := by
  obtain ⟨c, r, s, g⟩ := gcd_ex o _ rfl hu hv
  have hr : r = [] := by
    refine Classical.byContradiction fun hn => ?_
    obtain ⟨a, ha, h1⟩ := first_rdy hn (Wo.app.mp g.le.r).2
    refine g.nc a ha h1 ?_
    rw [rdy_iff] at h1 ⊢
    intro p hp
    obtain ⟨t, ht⟩ := h1 p hp
    have := h p
    rw [g.le.p, g.ri.p, prj_app, prj_app] at this
    have := pre_drop this
    rw [ht] at this
    obtain ⟨z, hz⟩ := this
    exact ⟨t ++ z, by rw [← hz]; rfl⟩
  subst hr
  have e := g.le
  rw [List.append_nil] at e
  exact ⟨s, g.ri.trans (e.symm.app (.refl (Wo.app.mp g.ri.r).2))⟩
/-- the common beginning is the greatest -/
theorem gcd_great {A : Al} (o : Ok A) {u v c r s x : List Nat} (g : Gcd A u v c r s) (hx : Wo A x) (h1 : LeP A x u) (h2 : LeP A x v) : LeP A x c := by
  obtain ⟨d, x', c', k⟩ := gcd_ex o _ rfl hx (Wo.app.mp g.le.r).1
  -- x = d x', c = d c', nothing in common: x' is empty
  have hx' : x' = [] := by
    refine Classical.byContradiction fun hn => ?_
    obtain ⟨a, ha, q⟩ := first_rdy hn (Wo.app.mp k.le.r).2
    have key : ∀ {w t : List Nat}, Eqv A w (c ++ t) → LeP A x w → rdy A (c' ++ t) a = true := fun {w t} e hl => by
      rw [rdy_iff] at q ⊢
      intro p hp
      obtain ⟨z, hz⟩ := q p hp
      have := hl p
      rw [k.le.p, e.p, prj_app, prj_app, k.ri.p, prj_app, List.append_assoc] at this
      have := pre_drop this
      rw [hz] at this
      obtain ⟨y, hy⟩ := this
      exact ⟨z ++ y, by rw [prj_app, ← hy]; rfl⟩
    have w1 : Wo A (c' ++ r) := Wo.app.mpr ⟨(Wo.app.mp k.ri.r).2, (Wo.app.mp g.le.r).2⟩
    have w2 : Wo A (c' ++ s) := Wo.app.mpr ⟨(Wo.app.mp k.ri.r).2, (Wo.app.mp g.ri.r).2⟩
    rcases rdy_app o w1 ha (key g.le h1) with z | ⟨z1, z2⟩
    · exact k.nc a ha q z
    · rcases rdy_app o w2 ha (key g.ri h2) with y | ⟨y1, y2⟩
      · exact k.nc a ha q y
      · exact g.nc a ha z2 y2
  subst hx'
  have e := k.le
  rw [List.append_nil] at e
  exact (LeP.of k.ri).l e.symm
theorem gcd_le {A : Al} {u v c r s : List Nat} (g : Gcd A u v c r s) : LeP A c u ∧ LeP A c v := ⟨.of g.le, .of g.ri⟩
theorem LeP.eqv {A : Al} (o : Ok A) {u v : List Nat} (hu : Wo A u) (hv : Wo A v) (h : LeP A u v) (k : LeP A v u) : Eqv A u v := ⟨hu, hv, fun p => (h p).eq_of_length (Nat.le_antisymm (h p).length_le (k p).length_le)⟩
theorem gcd_uniq {A : Al} (o : Ok A) {u v c r s c' r' s' : List Nat} (g : Gcd A u v c r s) (g' : Gcd A u v c' r' s') : Eqv A c c' :=
  LeP.eqv o (Wo.app.mp g.le.r).1 (Wo.app.mp g'.le.r).1 (gcd_great o g' (Wo.app.mp g.le.r).1 (gcd_le g).1 (gcd_le g).2) (gcd_great o g (Wo.app.mp g'.le.r).1 (gcd_le g').1 (gcd_le g').2)
/-! joins -/
theorem apart_prj {A : Al} {r s : List Nat} (h : Apart A r s) (p : Nat) : prj A p r = [] ∨ prj A p s = [] := by
  cases e : prj A p r with
  | nil => exact .inl rfl
  | cons a l =>
    right
    have ha : a ∈ prj A p r := by rw [e]; simp
    have ha := List.mem_filter.mp ha
    unfold prj
    rw [List.filter_eq_nil_iff]
    intro b hb
    have := ndep (h a ha.1 b hb) (of_decide_eq_true ha.2)
    simpa using this
theorem Cmp.of_apart {A : Al} {u v c r s : List Nat} (l : Eqv A u (c ++ r)) (m : Eqv A v (c ++ s)) (h : Apart A r s) : Cmp A u v := fun p => by
  rw [l.p, m.p, prj_app, prj_app]
  rcases apart_prj h p with e | e
  · left
    rw [e, List.append_nil]
    exact List.prefix_append _ _
  · right
    rw [e, List.append_nil]
    exact List.prefix_append _ _
/-- where places see no difference, what is left is apart -/
theorem Cmp.apart {A : Al} (o : Ok A) {r s : List Nat} (hr : Wo A r) (hs : Wo A s) (h : Cmp A r s) (nc : ∀ a, a < A.n → rdy A r a = true → rdy A s a = true → False) : Apart A r s := by
  -- a place where both have something: its first letter in r stands at some depth of r; the least such depth has a letter that both could begin with
  have key : ∀ (d : Nat) (p : Nat) (x : Nat) (pre post : List Nat), r = pre ++ x :: post → pre.length ≤ d → p ∈ pl A x → (∀ y ∈ pre, p ∉ pl A y) → prj A p s ≠ [] → False := by
    intro d
    induction d with
    | zero =>
      intro p x pre post e hl hp hpre hne
      have : pre = [] := List.length_eq_zero_iff.mp (by omega)
      subst this
      rw [List.nil_append] at e
      subst e
      have hx := hr.cons.1
      refine nc x hx rdy_head ?_
      -- x is in s, and first at each of its places
      have hxs : x ∈ s := by
        have := h p
        rw [prj_in hp] at this
        cases e2 : prj A p s with
        | nil => exact absurd e2 hne
        | cons b l =>
          rw [e2] at this
          have hb : x = b := by
            rcases this with ⟨z, hz⟩ | ⟨z, hz⟩
            · exact (List.cons.inj hz).1
            · exact (List.cons.inj hz).1.symm
          have : b ∈ prj A p s := by rw [e2]; simp
          exact hb ▸ (List.mem_filter.mp this).1
      rw [rdy_iff]
      intro q hq
      have := h q
      rw [prj_in hq] at this
      cases e2 : prj A q s with
      | nil =>
        have : x ∈ prj A q s := List.mem_filter.mpr ⟨hxs, decide_eq_true hq⟩
        rw [e2] at this
        cases this
      | cons b l =>
        rw [e2] at this
        have hb : x = b := by
          rcases this with ⟨z, hz⟩ | ⟨z, hz⟩
          · exact (List.cons.inj hz).1
          · exact (List.cons.inj hz).1.symm
        exact ⟨l, by rw [hb]⟩
    | succ d ih =>
      intro p x pre post e hl hp hpre hne
      have hx : x < A.n := hr x (by rw [e]; simp)
      have pf : ∀ q, q ∈ pl A x → (∀ y ∈ pre, q ∉ pl A y) → ∃ t, prj A q r = x :: t := fun q hq hy => by
        refine ⟨prj A q post, ?_⟩
        rw [e, prj_app, prj_in hq]
        have : prj A q pre = [] := by
          unfold prj
          rw [List.filter_eq_nil_iff]
          intro y hyp
          simpa using hy y hyp
        rw [this]
        rfl
      have hxs : x ∈ s := by
        obtain ⟨t, ht⟩ := pf p hp hpre
        have := h p
        rw [ht] at this
        cases e2 : prj A p s with
        | nil => exact absurd e2 hne
        | cons b l =>
          rw [e2] at this
          have hb : x = b := by
            rcases this with ⟨z, hz⟩ | ⟨z, hz⟩
            · exact (List.cons.inj hz).1
            · exact (List.cons.inj hz).1.symm
          have : b ∈ prj A p s := by rw [e2]; simp
          exact hb ▸ (List.mem_filter.mp this).1
      by_cases hq : ∃ q, q ∈ pl A x ∧ ∃ y ∈ pre, q ∈ pl A y
      · obtain ⟨q, hqx, y, hy, hqy⟩ := hq
        -- the first of pre at q
        have hex : ∃ y pre' post', pre = pre' ++ y :: post' ∧ q ∈ pl A y ∧ ∀ z ∈ pre', q ∉ pl A z := by
          clear ih hl pf hpre e
          induction pre with
          | nil => cases hy
          | cons b l ihl =>
            by_cases hb : q ∈ pl A b
            · exact ⟨b, [], l, rfl, hb, by simp⟩
            · rcases List.mem_cons.mp hy with z | z
              · exact absurd (z ▸ hqy) hb
              · obtain ⟨y', p1, p2, e1, e2, e3⟩ := ihl z
                refine ⟨y', b :: p1, p2, by rw [e1]; rfl, e2, fun z hz => ?_⟩
                rcases List.mem_cons.mp hz with w | w
                · rw [w]
                  exact hb
                · exact e3 z w
        obtain ⟨y', p1, p2, e1, e2, e3⟩ := hex
        refine ih q y' p1 (p2 ++ x :: post) (by rw [e, e1]; simp) ?_ e2 e3 ?_
        · have := congrArg List.length e1
          simp at this
          omega
        · intro z
          have : x ∈ prj A q s := List.mem_filter.mpr ⟨hxs, decide_eq_true hqx⟩
          rw [z] at this
          cases this
      · have hall : ∀ q, q ∈ pl A x → ∃ t, prj A q r = x :: t := fun q hqx => pf q hqx fun y hy z => hq ⟨q, hqx, y, hy, z⟩
        refine nc x hx (rdy_iff.mpr hall) (rdy_iff.mpr fun q hqx => ?_)
        obtain ⟨t, ht⟩ := hall q hqx
        have := h q
        rw [ht] at this
        cases e2 : prj A q s with
        | nil =>
          have : x ∈ prj A q s := List.mem_filter.mpr ⟨hxs, decide_eq_true hqx⟩
          rw [e2] at this
          cases this
        | cons b l =>
          rw [e2] at this
          have hb : x = b := by
            rcases this with ⟨z, hz⟩ | ⟨z, hz⟩
            · exact (List.cons.inj hz).1
            · exact (List.cons.inj hz).1.symm
          exact ⟨l, by rw [hb]⟩
  intro a ha b hb
  cases hd : dep A a b with
  | false => rfl
  | true =>
    exfalso
    obtain ⟨p, pa, pb⟩ := dep_iff.mp hd
    have hex : ∃ y pre post, r = pre ++ y :: post ∧ p ∈ pl A y ∧ ∀ z ∈ pre, p ∉ pl A z := by
      clear key nc h hr hs
      induction r with
      | nil => cases ha
      | cons x l ihl =>
        by_cases hx : p ∈ pl A x
        · exact ⟨x, [], l, rfl, hx, by simp⟩
        · rcases List.mem_cons.mp ha with z | z
          · exact absurd (z ▸ pa) hx
          · obtain ⟨y', p1, p2, e1, e2, e3⟩ := ihl z
            refine ⟨y', x :: p1, p2, by rw [e1]; rfl, e2, fun z hz => ?_⟩
            rcases List.mem_cons.mp hz with w | w
            · rw [w]
              exact hx
            · exact e3 z w
    obtain ⟨y, pre, post, e1, e2, e3⟩ := hex
    refine key pre.length p y pre post e1 (Nat.le_refl _) e2 e3 fun z => ?_
    have : b ∈ prj A p s := List.mem_filter.mpr ⟨hb, decide_eq_true pb⟩
    rw [z] at this
    cases this
theorem gcd_apart {A : Al} (o : Ok A) {u v c r s : List Nat} (g : Gcd A u v c r s) : Apart A r s ↔ Cmp A u v :=
  ⟨fun h => .of_apart g.le g.ri h, fun h => Cmp.apart o (Wo.app.mp g.le.r).2 (Wo.app.mp g.ri.r).2 (fun p => by
    have := h p
    rw [g.le.p, g.ri.p, prj_app, prj_app] at this
    exact this.imp pre_drop pre_drop) g.nc⟩
/-- the join of two: what each place sees of it -/
theorem join_prj {A : Al} {u v c r s : List Nat} (g : Gcd A u v c r s) (h : Apart A r s) (p : Nat) : (prj A p (c ++ r ++ s) = prj A p u ∧ prj A p v <+: prj A p u) ∨ (prj A p (c ++ r ++ s) = prj A p v ∧ prj A p u <+: prj A p v) := by
  rw [g.le.p, g.ri.p]
  simp only [prj_app]
  rcases apart_prj h p with e | e
  · right
    rw [e, List.append_nil]
    exact ⟨rfl, List.prefix_append _ _⟩
  · left
    rw [e, List.append_nil, List.append_nil]
    exact ⟨rfl, List.prefix_append _ _⟩
theorem join_cmp {A : Al} {u v c r s z : List Nat} (g : Gcd A u v c r s) (h : Apart A r s) (h1 : Cmp A u z) (h2 : Cmp A v z) : Cmp A (c ++ r ++ s) z := fun p => by
  rcases join_prj g h p with ⟨e, _⟩ | ⟨e, _⟩
  · rw [e]
    exact h1 p
  · rw [e]
    exact h2 p
theorem join_le {A : Al} {u v c r s : List Nat} (g : Gcd A u v c r s) (h : Apart A r s) : LeP A u (c ++ r ++ s) ∧ LeP A v (c ++ r ++ s) := ⟨fun p => by
  rcases join_prj g h p with ⟨e, k⟩ | ⟨e, k⟩
  · rw [e]
    exact List.prefix_refl _
  · rw [e]
    exact k, fun p => by
  rcases join_prj g h p with ⟨e, k⟩ | ⟨e, k⟩
  · rw [e]
    exact k
  · rw [e]
    exact List.prefix_refl _⟩
theorem join_least {A : Al} {u v c r s z : List Nat} (g : Gcd A u v c r s) (h : Apart A r s) (h1 : LeP A u z) (h2 : LeP A v z) : LeP A (c ++ r ++ s) z := fun p => by
  rcases join_prj g h p with ⟨e, _⟩ | ⟨e, _⟩
  · rw [e]
    exact h1 p
  · rw [e]
    exact h2 p
theorem LeP.cmp {A : Al} {u v : List Nat} (h : LeP A u v) : Cmp A u v := fun p => .inl (h p)
theorem Cmp.symm {A : Al} {u v : List Nat} (h : Cmp A u v) : Cmp A v u := fun p => (h p).symm
theorem Cmp.bound {A : Al} {u v z : List Nat} (h1 : LeP A u z) (h2 : LeP A v z) : Cmp A u v := fun p => List.prefix_or_prefix_of_prefix (h1 p) (h2 p)
end Tr

namespace K5
open PySem Tk Tr
structure Ca where
  Alphabet : Addr
  Table : Addr
  NotReady : Addr
  LC : Addr
  LT : Addr
abbrev lamq : Str := "law.<locals>.<lambda>"
abbrev k_Alphabet : List Str := ["places", "letters"]
abbrev k_Table : List Str := ["_alphabet", "_rows", "_events", "_count"]
def dLs (A : Al) : List D := A.ls.map fun l => .tup (nats l)
def dAl (c : Ca) (A : Al) : D := .ins c.Alphabet k_Alphabet [.int (A.k : Nat), .tup (dLs A)]
structure Ws (A : Al) (w : List Nat) : Prop where
  o : Ok A
  z : w.length ≤ 1000
  w : Wo A w
def P_fits (c : Ca) : Pr := fun ds S Q => ∃ (l : List Nat) (k : Nat), ds = [.tup (nats l), .int (k : Nat)] ∧ l ≠ [] ∧ l.length ≤ 1000 ∧ l.Pairwise (· < ·) ∧ (∀ p ∈ l, p < k) ∧ Q (.bl true) S
def P_Alphabet_init (c : Ca) : Pr := fun ds S Q => ∃ (A : Al) (l : Nat), ds = [.ref l, .int (A.k : Nat), .lst (dLs A)] ∧ Ok A ∧ S[l]? = some (.ins c.Alphabet [] []) ∧ Q .non (S.set l (.ins c.Alphabet k_Alphabet [.int (A.k : Nat), .tup (dLs A)]))
def P_independent (c : Ca) : Pr := fun ds S Q => ∃ (A : Al) (a b : Nat), ds = [dAl c A, .int (a : Nat), .int (b : Nat)] ∧ a < A.n ∧ b < A.n ∧ Q (.bl (!dep A a b)) S
def maskOf (A : Al) (a : Nat) : Nat → Nat
  | 0 => 0
  | n + 1 => if dep A a n then maskOf A a n ||| (1 <<< n) else maskOf A a n
def dFn (A : Al) (f : Nat → Nat) : List Nat := (List.range A.n).map f
def P_masks (c : Ca) : Pr := fun ds S Q => ∃ A : Al, ds = [dAl c A] ∧ Ok A ∧ Q (.lst (nats (dFn A fun a => maskOf A a A.n))) S
def P_first_letters (c : Ca) : Pr := fun ds S Q => ∃ (A : Al) (x : D) (w : List Nat), ds = [dAl c A, x] ∧ seqOf S x = some (nats w) ∧ Ws A w ∧ Q (.lst (nats (fl A w))) S
def P_below_all (c : Ca) : Pr := fun ds S Q => ∃ (A : Al) (w : List Nat) (y : D) (E : List Nat), ds = [dAl c A, .tup (nats w), y] ∧ seqOf S y = some (nats E) ∧ Ws A w ∧ Q (.lst (nats (dn A w E))) S
def P_place_word (c : Ca) : Pr := fun ds S Q => ∃ (A : Al) (w : List Nat) (p : Nat), ds = [dAl c A, .tup (nats w), .int (p : Nat)] ∧ Ws A w ∧ Q (.tup (nats (prj A p w))) S
def lmx (l : List Nat) : Nat := l.foldr max 0
def optI : Option Nat → Int
  | some p => p
  | none => -1
def P_is_below (c : Ca) : Pr := fun ds S Q => ∃ (A : Al) (w : List Nat) (i j : Nat), ds = [dAl c A, .tup (nats w), .int (i : Nat), .int (j : Nat)] ∧ Ws A w ∧ Q (.bl (decide (i ∈ dn A w [j]))) S
def P_least_form (c : Ca) : Pr := fun ds S Q => ∃ (A : Al) (x : D) (w : List Nat), ds = [dAl c A, x] ∧ seqOf S x = some (nats w) ∧ Ws A w ∧ Q (.tup (nats (lf A w))) S
def fpl (A : Al) (w : List Nat) (a : Nat) : Option Nat := (fl A w).find? fun k => decide (at0 w k = a)
def P_first_place (c : Ca) : Pr := fun ds S Q => ∃ (A : Al) (w : List Nat) (a : Nat), ds = [dAl c A, .tup (nats w), .int (a : Nat)] ∧ Ws A w ∧ Q (.int (optI (fpl A w a))) S
def P_without_prefixes (c : Ca) : Pr := fun ds S Q => ∃ (w : List Nat) (k : Nat), ds = [.tup (nats w), .int (k : Nat)] ∧ k < w.length ∧ w.length ≤ 1000 ∧ Q (.tup (nats (w.eraseIdx k))) S
def P_rest (c : Ca) : Pr := fun ds S Q => ∃ (A : Al) (u v r : List Nat), ds = [dAl c A, .tup (nats u), .tup (nats v)] ∧ Ws A v ∧ Eqv A v (u ++ r) ∧ Q (.tup (nats (lf A r))) S
def muL (A : Al) (num : Nat) : List (Nat × Nat) → List Nat → List Nat
  | [], _ => []
  | (i, a) :: r, ls => if i = num ∨ ∃ b ∈ ls, dep A b a = true then i :: muL A num r (ls ++ [a]) else muL A num r ls
def drD (ns : List Int) : Cell := .lst (ns.map D.int)
def P__law_draws (c : Ca) : Pr := fun ds S Q => ∃ ns : List Int, ds = [.rd (ns.map D.int), .int 400] ∧ ns.length ≤ 1000 ∧ ∀ ms : List Int, Q (.ref S.length) (S ++ [drD ms])
def P__law_take (c : Ca) : Pr := fun ds S Q => ∃ (l m : Nat) (ns : List Int), ds = [.ref l, .int (m : Nat)] ∧ 0 < m ∧ S[l]? = some (drD ns) ∧ ∀ (r : Nat) (ms : List Int), r < m → Q (.int (r : Nat)) (S.set l (drD ms))
def P__law_alphabet (c : Ca) : Pr := fun ds S Q => ∃ (l : Nat) (ns : List Int), ds = [.ref l, .int (3 : Nat), .int (4 : Nat)] ∧ S[l]? = some (drD ns) ∧ ∀ (A : Al) (ms : List Int), Ok A → Q (.tup [.int (A.k : Nat), .lst (dLs A)]) (S.set l (drD ms))
def P_law0 : Pr := fun ds S Q => ∃ ns : List Int, ds = [.rd (ns.map D.int)] ∧ ns.length ≤ 1000 ∧ ∀ S', Q (.bl true) S'
/-- the least form of the greatest common beginning, of joins -/
def P_common_prefix (c : Ca) : Pr := fun ds S Q => ∃ (A : Al) (u v x r s : List Nat), ds = [dAl c A, .tup (nats u), .tup (nats v)] ∧ Ws A u ∧ Ws A v ∧ Gcd A u v x r s ∧ Q (.tup (nats (lf A x))) S
def apB (A : Al) (u v : List Nat) : Bool := u.all fun a => v.all fun b => !dep A a b
def P_are_apart (c : Ca) : Pr := fun ds S Q => ∃ (A : Al) (u v : List Nat), ds = [dAl c A, .tup (nats u), .tup (nats v)] ∧ Wo A u ∧ Wo A v ∧ Q (.bl (apB A u v)) S
/-- z is the join of all of ws -/
structure Jn (A : Al) (ws : List (List Nat)) (z : List Nat) : Prop where
  w : Wo A z
  up : ∀ u ∈ ws, LeP A u z
  le : ∀ y, Wo A y → (∀ u ∈ ws, LeP A u y) → LeP A z y
/-- z is what all of ws begin with -/
structure Gd (A : Al) (ws : List (List Nat)) (z : List Nat) : Prop where
  w : Wo A z
  dn : ∀ u ∈ ws, LeP A z u
  gr : ∀ y, Wo A y → (∀ u ∈ ws, LeP A y u) → LeP A y z
def P_join (c : Ca) : Pr := fun ds S Q => ∃ (A : Al) (u v : List Nat), ds = [dAl c A, .tup (nats u), .tup (nats v)] ∧ Ws A u ∧ Ws A v ∧ u.length + v.length ≤ 1000 ∧
  (¬ Cmp A u v → Q .non S) ∧ (Cmp A u v → ∀ z, Jn A [u, v] z → z.length ≤ u.length + v.length → (∀ y, Cmp A u y → Cmp A v y → Cmp A z y) → Q (.tup (nats (lf A z))) S)
def wsD (ws : List (List Nat)) : List D := ws.map fun w => .tup (nats w)
/-- words, short together -/
structure Wss (A : Al) (ws : List (List Nat)) : Prop where
  o : Ok A
  z : (ws.map List.length).sum ≤ 1000
  n : ws.length ≤ 1000
  w : ∀ u ∈ ws, Wo A u
def P_joined_all (c : Ca) : Pr := fun ds S Q => ∃ (A : Al) (ws : List (List Nat)), ds = [dAl c A, .lst (wsD ws)] ∧ Wss A ws ∧
  (∀ z, Jn A ws z → z.length ≤ 1000 → Q (.tup [.str "joined", .tup (nats (lf A z))]) S) ∧
  (∀ i j u v, i < j → ws[i]? = some u → ws[j]? = some v → ¬ Cmp A u v → Q (.tup [.str "conflict", .int (i : Nat), .int (j : Nat)]) S)
def P_common_all (c : Ca) : Pr := fun ds S Q => ∃ (A : Al) (ws : List (List Nat)), ds = [dAl c A, .lst (wsD ws)] ∧ Wss A ws ∧ ws ≠ [] ∧ ∀ z, Gd A ws z → z.length ≤ 1000 → Q (.tup (nats (lf A z))) S
open Classical in
/-- the events that stand above none of E -/
noncomputable def offs (A : Al) (w E : List Nat) : List Nat := (List.range w.length).filter fun k => !(E.any fun e => decide (e ∈ dn A w [k]))
def P_without_joins (c : Ca) : Pr := fun ds S Q => ∃ (A : Al) (w E : List Nat), ds = [dAl c A, .tup (nats w), .lst (nats E)] ∧ Ws A w ∧ E.length ≤ 1000 ∧ Q (.tup (nats (lf A (sub w (offs A w E))))) S
def P_equivalent (c : Ca) : Pr := fun ds S Q => ∃ (A : Al) (u v : List Nat), ds = [dAl c A, .tup (nats u), .tup (nats v)] ∧ Ws A u ∧ Ws A v ∧ Eqv A u v ∧ Q (.bl true) S
def P_is_least (c : Ca) : Pr := fun ds S Q => ∃ (A : Al) (w : List Nat), ds = [dAl c A, .tup (nats w)] ∧ Ws A w ∧ lf A w = w ∧ Q (.bl true) S
def P_next_barred (c : Ca) : Pr := fun ds S Q => ∃ (A : Al) (a n : Nat), ds = [.lst (nats (dFn A fun a => maskOf A a A.n)), .int (n : Nat), .int (a : Nat)] ∧ Ok A ∧ a < A.n ∧ n < 64 ∧
  ∀ m : Nat, m < 64 → (∀ b, b < A.n → m.testBit b = ((n.testBit b || decide (b < a)) && !dep A a b)) → Q (.int (m : Nat)) S
/-- counts below each event are at most those ahead of it -/
def P_earlier_counts (c : Ca) : Pr := fun ds S Q => ∃ (A : Al) (w : List Nat), ds = [dAl c A, .tup (nats w)] ∧ Ws A w ∧ ∀ F : Nat → Nat → Nat, (∀ k b, k < w.length → F k b ≤ (w.take k).count b) → Q (.lst ((List.range w.length).map fun k => .lst (nats (dFn A (F k))))) S
def P_order_count (c : Ca) : Pr := fun ds S Q => ∃ (A : Al) (w : List Nat), ds = [dAl c A, .tup (nats w)] ∧ Ws A w ∧ A.n ^ w.length ≤ 16000000 ∧ ∀ i : Int, 1 ≤ i → Q (.int i) S
/-! tables: events are (number, hand, letter) -/
abbrev Ev := Nat × Nat × Nat
def evD (es : List Ev) : List D := es.map fun e => .tup [.int (e.1 : Nat), .int (e.2.1 : Nat), .int (e.2.2 : Nat)]
def tb (c : Ca) (A : Al) (r e n : Nat) : Cell := .ins c.Table k_Table [dAl c A, .ref r, .ref e, .int (n : Nat)]
structure TbAt (c : Ca) (S : Sto) (l r e : Nat) (A : Al) (rows : List (List Nat)) (es : List Ev) (n : Nat) : Prop where
  ne : r ≠ e
  o : Ok A
  l : S[l]? = some (tb c A r e n)
  r : S[r]? = some (.lst (wsD rows))
  e : S[e]? = some (.lst (evD es))
  w : ∀ x ∈ es, x.2.2 < A.n
  h : ∀ x ∈ es, x.2.1 < rows.length
  z : es.length ≤ 1000
  rz : ∀ x ∈ rows, x.length ≤ 900
  hz : rows.length ≤ 4
def P_Table_init (c : Ca) : Pr := fun ds S Q => ∃ (A : Al) (l h : Nat), ds = [.ref l, dAl c A, .int (h : Nat)] ∧ 1 ≤ h ∧ h ≤ 4 ∧ S[l]? = some (.ins c.Table [] []) ∧
  Q .non (S.set l (tb c A S.length (S.length + 1) 0) ++ [Cell.lst (wsD (List.replicate h [])), Cell.lst (evD [])])
def P_Table__check (c : Ca) : Pr := fun ds S Q => ∃ (A : Al) (l r e n h : Nat) (rows : List (List Nat)) (es : List Ev), ds = [.ref l, .int (h : Nat)] ∧ TbAt c S l r e A rows es n ∧ h < rows.length ∧ Q .non S
def P_Table__add (c : Ca) : Pr := fun ds S Q => ∃ (A : Al) (l r e n h a : Nat) (rows : List (List Nat)) (es : List Ev), ds = [.ref l, .int (h : Nat), .int (a : Nat)] ∧ TbAt c S l r e A rows es n ∧
  Q (.int (n : Nat)) ((S.set e (.lst (evD (es ++ [(n, h, a)])))).set l (tb c A r e (n + 1)))
def P_Table_do (c : Ca) : Pr := fun ds S Q => ∃ (A : Al) (l r e n h a : Nat) (rows : List (List Nat)) (es : List Ev), ds = [.ref l, .int (h : Nat), .int (a : Nat)] ∧ TbAt c S l r e A rows es n ∧ h < rows.length ∧
  Q (.int (n : Nat)) (((S.set r (.lst (wsD (rows.set h [])))).set e (.lst (evD (es ++ [(n, h, a)])))).set l (tb c A r e (n + 1)))
def P_Table_do_again (c : Ca) : Pr := fun ds S Q => ∃ (A : Al) (l r e n h a : Nat) (row : List Nat) (rows : List (List Nat)) (es : List Ev), ds = [.ref l, .int (h : Nat)] ∧ TbAt c S l r e A rows es n ∧ rows[h]? = some (row ++ [a]) ∧
  Q (.int (n : Nat)) (((S.set r (.lst (wsD (rows.set h row)))).set e (.lst (evD (es ++ [(n, h, a)])))).set l (tb c A r e (n + 1)))
def num (es : List Ev) : List (Nat × Nat) := es.map fun x => (x.1, x.2.2)
def P_Table__resting (c : Ca) : Pr := fun ds S Q => ∃ (A : Al) (l r e n m : Nat) (rows : List (List Nat)) (es : List Ev), ds = [.ref l, .int (m : Nat)] ∧ TbAt c S l r e A rows es n ∧ Q (.lst (nats (muL A m (num es) []))) S
def backR (m : Nat) (es : List Ev) (rows : List (List Nat)) : List (List Nat) := es.foldl (fun R x => if x.1 = m then R.set x.2.1 (R.getD x.2.1 [] ++ [x.2.2]) else R) rows
def backE (m : Nat) (es : List Ev) : List Ev := es.filter fun x => !decide (x.1 = m)
def P_Table__take_back (c : Ca) : Pr := fun ds S Q => ∃ (A : Al) (l r e n m : Nat) (rows : List (List Nat)) (es : List Ev), ds = [.ref l, .int (m : Nat)] ∧ TbAt c S l r e A rows es n ∧ (∀ x ∈ rows, x.length + es.length ≤ 900) ∧
  Q .non (((S.set r (.lst (wsD (backR m es rows)))).set l (tb c A r S.length n)) ++ [Cell.lst (evD (backE m es))])
def P_Table_row (c : Ca) : Pr := fun ds S Q => ∃ (A : Al) (l r e n h : Nat) (row : List Nat) (rows : List (List Nat)) (es : List Ev), ds = [.ref l, .int (h : Nat)] ∧ TbAt c S l r e A rows es n ∧ rows[h]? = some row ∧ Q (.tup (nats row)) S
def P_Table_events (c : Ca) : Pr := fun ds S Q => ∃ (A : Al) (l r e n : Nat) (rows : List (List Nat)) (es : List Ev), ds = [.ref l] ∧ TbAt c S l r e A rows es n ∧ Q (.lst (evD es)) S
/-- the letters of events -/
def lett (es : List Ev) : List Nat := es.map (·.2.2)
def P_Table_word (c : Ca) : Pr := fun ds S Q => ∃ (A : Al) (l r e n : Nat) (rows : List (List Nat)) (es : List Ev), ds = [.ref l] ∧ TbAt c S l r e A rows es n ∧ Q (.tup (nats (lf A (lett es)))) S
/-- the newest event of a hand -/
def nwst (es : List Ev) (h : Nat) : Option Nat := ((es.filter fun x => decide (x.2.1 = h)).map (·.1)).getLast?
def P_Table__newest (c : Ca) : Pr := fun ds S Q => ∃ (A : Al) (l r e n h m : Nat) (rows : List (List Nat)) (es : List Ev), ds = [.ref l, .int (h : Nat)] ∧ TbAt c S l r e A rows es n ∧ nwst es h = some m ∧ Q (.int (m : Nat)) S
/-- what undoing leaves: other cells stay -/
structure Und (S S' : Sto) (l r e e' : Nat) : Prop where
  len : S.length ≤ S'.length
  keep : ∀ i, i < S.length → i ≠ l → i ≠ r → S'[i]? = S[i]?
  ev : e' = e ∨ S.length ≤ e'
def P_Table_undo (c : Ca) : Pr := fun ds S Q => ∃ (A : Al) (l r e n h m : Nat) (rows : List (List Nat)) (es : List Ev), ds = [.ref l, .int (h : Nat)] ∧ TbAt c S l r e A rows es n ∧ (∀ x ∈ rows, x.length + es.length ≤ 900) ∧ h < rows.length ∧ nwst es h = some m ∧ muL A m (num es) [] = [m] ∧
  ∀ S' e', Und S S' l r e e' → TbAt c S' l r e' A (backR m es rows) (backE m es) n → Q (.int (m : Nat)) S'
def P_Table_undo_with_all (c : Ca) : Pr := fun ds S Q => ∃ (A : Al) (l r e n h m : Nat) (rows : List (List Nat)) (es : List Ev), ds = [.ref l, .int (h : Nat)] ∧ TbAt c S l r e A rows es n ∧ (∀ x ∈ rows, x.length + es.length * es.length ≤ 900) ∧ h < rows.length ∧ nwst es h = some m ∧
  ∀ S' e', Und S S' l r e e' → TbAt c S' l r e' A ((muL A m (num es) []).reverse.foldl (fun p m => (backR m p.2 p.1, backE m p.2)) (rows, es)).1 ((muL A m (num es) []).reverse.foldl (fun p m => (backR m p.2 p.1, backE m p.2)) (rows, es)).2 n → Q (.lst (nats (muL A m (num es) []))) S'
/-- nothing is there to be undone: NotReady, and all stays -/
def X_Table__newest (c : Ca) : PrX := fun ds S RX => ∃ (A : Al) (l r e n h : Nat) (rows : List (List Nat)) (es : List Ev), ds = [.ref l, .int (h : Nat)] ∧ TbAt c S l r e A rows es n ∧ h < rows.length ∧ nwst es h = none ∧ RX S
def X_Table_undo (c : Ca) : PrX := X_Table__newest c
def X_Table_undo_with_all (c : Ca) : PrX := X_Table__newest c
/-! the law's own -/
def P__law_meet (c : Ca) : Pr := fun ds S Q => ∃ (A : Al) (a b : Nat), ds = [.lst (dLs A), .int (a : Nat), .int (b : Nat)] ∧ Ok A ∧ a < A.n ∧ b < A.n ∧ Q (.bl (dep A a b)) S
def P__law_words (c : Ca) : Pr := fun ds S Q => ∃ (l : Nat) (ns : List Int) (A : Al), ds = [.ref l, .lst (dLs A)] ∧ Ok A ∧ S[l]? = some (drD ns) ∧
  ∀ (ms : List Int) (ws : List (List Nat)), ws ≠ [] → ws.length ≤ 4 → (∀ w ∈ ws, Wo A w ∧ w.length ≤ 9) → Q (.lst (wsD ws)) (S.set l (drD ms))
def P__law_joins_right (c : Ca) : Pr := fun ds S Q => ∃ (l : Nat) (ns : List Int) (A : Al), ds = [.ref l, dAl c A, .int (A.k : Nat), .lst (dLs A)] ∧ Ok A ∧ S[l]? = some (drD ns) ∧ ∀ ms : List Int, Q (.bl true) (S.set l (drD ms))
def P_law (c : Ca) : Pr := fun ds S Q => P_law0 ds S Q ∧ S[0]? = some (.tab c.LT lamq)
end K5

/-! printed by gen.py -/
namespace K5
open PySem Tk
/-- fits: 0 letter, 1 places, 2 k -/
def w_fits (c : Ca) : WS := (sSeq (sIf (wTb (wB zEq (wZ zLen (wCons (wV 0) wNil)) (wC (.int 0)))) (sRet (wC (.bl false))) sNil)
  (sSeq (sFor (wR1 (wZ zLen (wCons (wV 0) wNil))) (gN 2) (sIf (wOrT (wTb (wB zLt (wB zIx (wV 0) (wV 2)) (wC (.int 0)))) (wOrT (wTb (wB zGe (wB zIx (wV 0) (wV 2)) (wV 1))) (wAndT (wTb (wB zGt (wV 2) (wC (.int 0)))) (wTb (wB zLe (wB zIx (wV 0) (wV 2)) (wB zIx (wV 0) (wB zSub (wV 2) (wC (.int 1))))))))) (sRet (wC (.bl false))) sNil))
  (sRet (wC (.bl true)))))
/-- independent: 0 alphabet, 1 first, 2 second, 3 place -/
def w_independent (c : Ca) : WS := (sSeq (sFor (wIn (wB zIx (wFld c.Alphabet k_Alphabet 1 (wV 0)) (wV 1))) (gN 3) (sIf (wTb (wB zIn (wV 3) (wB zIx (wFld c.Alphabet k_Alphabet 1 (wV 0)) (wV 2)))) (sRet (wC (.bl false))) sNil))
  (sRet (wC (.bl true))))
/-- next_barred: 0 dependent, 1 barred, 2 letter, 3 lesser -/
def w_next_barred (c : Ca) : WS := (sSeq (sAsg (wB zSub (wB zShl (wC (.int 1)) (wV 2)) (wC (.int 1))) (gN 3))
  (sRet (wB zAnd (wB zOr (wV 1) (wV 3)) (wU zInv (wB zIx (wV 0) (wV 2))))))
/-- Table.__init__: 0 self, 1 alphabet, 2 hands, 3 _ -/
def w_Table_init (c : Ca) : WS := (sSeq (sIf (wNotT (wTb (wChain zLe zLe (wC (.int 1)) (wV 2) (wC (.int (4)))))) sNever sNil)
  (sSeq (wFldNew c.Table (k_Table.take 0) "_alphabet" (wV 0) (wV 1))
  (sSeq (wFldNew c.Table (k_Table.take 1) "_rows" (wV 0) (wCl (wLc (wR1 (wV 2)) (.n 3) wYes (wTup wNil) [3])))
  (sSeq (wFldNew c.Table (k_Table.take 2) "_events" (wV 0) (wCl (wLst wNil)))
  (wFldNew c.Table (k_Table.take 3) "_count" (wV 0) (wC (.int 0)))))))
/-- Table._check: 0 self, 1 hand -/
def w_Table__check (c : Ca) : WS := (sIf (wNotT (wTb (wChain zLe zLt (wC (.int 0)) (wV 1) (wZ zLen (wCons (wFld c.Table k_Table 1 (wV 0)) wNil))))) sNever sNil)
/-- Table._add: 0 self, 1 hand, 2 letter -/
def w_Table__add (c : Ca) : WS := (sSeq (sDrop (wM zAppend (wFld c.Table k_Table 2 (wV 0)) (wCons (wTup (wCons (wFld c.Table k_Table 3 (wV 0)) (wCons (wV 1) (wCons (wV 2) wNil)))) wNil)))
  (sSeq (wFldAug c.Table k_Table 3 (wV 0) (wC (.int 1)))
  (sRet (wB zSub (wFld c.Table k_Table 3 (wV 0)) (wC (.int 1))))))
/-- Table._newest: 0 self, 1 hand, 2 numbers, 3 number, 4 other, 5 _ -/
def w_Table__newest (c : Ca) : WS := (sSeq (sAsg (wFz (wLc (wIn (wFld c.Table k_Table 2 (wV 0))) (.t [3, 4, 5]) (wTb (wB zEq (wV 4) (wV 1))) (wV 3) [3, 4, 5])) (gN 2))
  (sSeq (sIf (wNotT (wTt (wV 2))) sNever sNil)
  (sRet (wB zIx (wV 2) (wU zNeg (wC (.int 1)))))))
def wx_Table__newest (c : Ca) : WX0 := (wSeqX (sAsg (wFz (wLc (wIn (wFld c.Table k_Table 2 (wV 0))) (.t [3, 4, 5]) (wTb (wB zEq (wV 4) (wV 1))) (wV 3) [3, 4, 5])) (gN 2)) (wIfX (wNotT (wTt (wV 2)))))
/-- Table._take_back: 0 self, 1 number, 2 other, 3 hand, 4 letter, 5 event -/
def w_Table__take_back (c : Ca) : WS := (sSeq (sFor (wIn (wFld c.Table k_Table 2 (wV 0))) (gTu 3 (gsCons (gN 2) (gsCons (gN 3) (gsCons (gN 4) gsNil)))) (sIf (wTb (wB zEq (wV 2) (wV 1))) (sAsg (wB zAdd (wB zIx (wFld c.Table k_Table 1 (wV 0)) (wV 3)) (wTup (wCons (wV 4) wNil))) (gIx (wFld c.Table k_Table 1 (wV 0)) (wV 3))) sNil))
  (wFldSet c.Table k_Table 2 (wV 0) (wCl (wLc (wIn (wFld c.Table k_Table 2 (wV 0))) (.n 5) (wTb (wB zNe (wB zIx (wV 5) (wC (.int 0))) (wV 1))) (wV 5) [5]))))
/-- Table.events: 0 self -/
def w_Table_events (c : Ca) : WS := (sRet (wFz (wZF zList (wCons (wFld c.Table k_Table 2 (wV 0)) wNil))))
/-- without: 0 word, 1 position -/
def w_without_prefixes (c : Ca) : WS := (sRet (wB zAdd (wZ zTuple (wCons (wSlT (wV 0) wNo (wSo (wV 1))) wNil)) (wZ zTuple (wCons (wSlT (wV 0) (wSo (wB zAdd (wV 1) (wC (.int 1)))) wNo) wNil))))
/-- place_word: 0 alphabet, 1 word, 2 place, 3 letter -/
def w_place_word (c : Ca) : WS := (sRet (wZ zTuple (wCons (wFz (wLc (wIn (wV 1)) (.n 3) (wTb (wB zIn (wV 2) (wB zIx (wFld c.Alphabet k_Alphabet 1 (wV 0)) (wV 3)))) (wV 3) [3])) wNil)))
/-- _law_draws: 0 script, 1 count, 2 cells, 3 found, 4 mixed, 5 k, 6 j, 7 cell, 8 again -/
def w__law_draws (c : Ca) : WS := (sSeq (sAsg (wCl (wZF zList (wCons (wV 0) wNil))) (gN 2))
  (sSeq (sIf (wTb (wB zEq (wZ zLen (wCons (wV 2) wNil)) (wC (.int 0)))) (sAsg (wCl (wLst (wCons (wC (.int 7)) wNil))) (gN 2)) sNil)
  (sSeq (sAsg (wCl (wLst wNil)) (gN 3))
  (sSeq (sAsg (wC (.int 12345)) (gN 4))
  (sSeq (sFor (wR1 (wV 1)) (gN 5) (sSeq (sAsg (wB zMod (wV 5) (wZ zLen (wCons (wV 2) wNil))) (gN 6))
  (sSeq (sAsg (wB zIx (wV 2) (wV 6)) (gN 7))
  (sSeq (sAsg (wB zMod (wZ zInt (wCons (wB zAdd (wB zAdd (wB zAdd (wB zMul (wV 4) (wC (.int 48271))) (wB zMul (wB zMod (wZ zInt (wCons (wV 7) wNil)) (wC (.int 1000003))) (wC (.int 69621)))) (wB zMul (wV 5) (wC (.int 7919)))) (wC (.int 11))) wNil)) (wC (.int 2147483647))) (gN 4))
  (sSeq (sAsg (wB zMod (wZ zInt (wCons (wB zAdd (wB zAdd (wB zMul (wV 4) (wV 4)) (wB zMul (wC (.int 31)) (wV 4))) (wV 5)) wNil)) (wC (.int 1000003))) (gN 8))
  (sIf (wTb (wB zGe (wV 7) (wB zPow (wC (.int 10)) (wC (.int 18))))) (sSeq (sDrop (wM zAppend (wV 3) (wCons (wB zMod (wZ zInt (wCons (wV 7) wNil)) (wC (.int 1000))) wNil)))
  (sAsg (wB zDiv (wV 7) (wC (.int 1000))) (gIx (wV 2) (wV 6)))) (sDrop (wM zAppend (wV 3) (wCons (wB zMod (wZ zInt (wCons (wV 8) wNil)) (wC (.int 1000))) wNil)))))))))
  (sSeq (sDrop (wM0 zReverse (wV 3)))
  (sRet (wV 3))))))))
/-- _law_take: 0 draws, 1 limit -/
def w__law_take (c : Ca) : WS := (sSeq (sIf (wTb (wB zEq (wZ zLen (wCons (wV 0) wNil)) (wC (.int 0)))) (sRet (wC (.int 0))) sNil)
  (sRet (wB zMod (wZ zInt (wCons (wM0 zPop (wV 0)) wNil)) (wV 1))))
/-- _law_meet: 0 letters, 1 a, 2 b, 3 place -/
def w__law_meet (c : Ca) : WS := (sRet (wB zGt (wZ zLen (wCons (wFz (wLc (wIn (wB zIx (wV 0) (wV 1))) (.n 3) (wTb (wB zIn (wV 3) (wB zIx (wV 0) (wV 2)))) (wC (.int 1)) [3])) wNil)) (wC (.int 0))))
/-- Alphabet.__init__: 0 self, 1 places, 2 letters, 3 valid, 4 letter -/
def w_Alphabet_init (c : Ca) : WS := (sSeq (sAsg (wAndV (wChain zLe zLe (wC (.int 1)) (wV 1) (wC (.int (4)))) (wChain zLe zLe (wC (.int 1)) (wZ zLen (wCons (wV 2) wNil)) (wC (.int (6))))) (gN 3))
  (sSeq (sFor (wIn (wV 2)) (gN 4) (sAsg (wAndV (wV 3) (wCall 2 (P_fits c) (wCons (wV 4) (wCons (wV 1) wNil)))) (gN 3)))
  (sSeq (sIf (wNotT (wTb (wV 3))) sNever sNil)
  (sSeq (wFldNew c.Alphabet (k_Alphabet.take 0) "places" (wV 0) (wV 1))
  (wFldNew c.Alphabet (k_Alphabet.take 1) "letters" (wV 0) (wZ zTuple (wCons (wFz (wLc (wIn (wV 2)) (.n 4) wYes (wZ zTuple (wCons (wV 4) wNil)) [4])) wNil)))))))
/-- masks: 0 alphabet, 1 found, 2 first, 3 mask, 4 second -/
def w_masks (c : Ca) : WS := (sSeq (sAsg (wCl (wLst wNil)) (gN 1))
  (sSeq (sFor (wR1 (wZ zLen (wCons (wFld c.Alphabet k_Alphabet 1 (wV 0)) wNil))) (gN 2) (sSeq (sAsg (wC (.int 0)) (gN 3))
  (sSeq (sFor (wR1 (wZ zLen (wCons (wFld c.Alphabet k_Alphabet 1 (wV 0)) wNil))) (gN 4) (sIf (wNotT (wTb (wCall 3 (P_independent c) (wCons (wV 0) (wCons (wV 2) (wCons (wV 4) wNil)))))) (sAsg (wB zOr (wV 3) (wB zShl (wC (.int 1)) (wV 4))) (gN 3)) sNil))
  (sDrop (wM zAppend (wV 1) (wCons (wV 3) wNil))))))
  (sRet (wFrz (wV 1)))))
/-- Table._resting: 0 self, 1 number, 2 found, 3 letters, 4 other, 5 _, 6 letter, 7 one -/
def w_Table__resting (c : Ca) : WS := (sSeq (sAsg (wCl (wLst wNil)) (gN 2))
  (sSeq (sAsg (wCl (wLst wNil)) (gN 3))
  (sSeq (sFor (wIn (wFld c.Table k_Table 2 (wV 0))) (gTu 3 (gsCons (gN 4) (gsCons (gN 5) (gsCons (gN 6) gsNil)))) (sIf (wOrT (wTb (wB zEq (wV 4) (wV 1))) (wTb (wZ zAny (wCons (wFz (wLc (wIn (wV 3)) (.n 7) wYes (wNotV (wCall 3 (P_independent c) (wCons (wFld c.Table k_Table 0 (wV 0)) (wCons (wV 7) (wCons (wV 6) wNil))))) [7])) wNil)))) (sSeq (sDrop (wM zAppend (wV 2) (wCons (wV 4) wNil)))
  (sDrop (wM zAppend (wV 3) (wCons (wV 6) wNil)))) sNil))
  (sRet (wFrz (wV 2))))))
/-- Table.do: 0 self, 1 hand, 2 letter -/
def w_Table_do (c : Ca) : WS := (sSeq (sDrop (wMeth c.Table k_Table 2 (P_Table__check c) (wV 0) (wCons (wV 1) wNil)))
  (sSeq (sAsg (wTup wNil) (gIx (wFld c.Table k_Table 1 (wV 0)) (wV 1)))
  (sRet (wMeth c.Table k_Table 3 (P_Table__add c) (wV 0) (wCons (wV 1) (wCons (wV 2) wNil))))))
/-- Table.do_again: 0 self, 1 hand, 2 letter -/
def w_Table_do_again (c : Ca) : WS := (sSeq (sDrop (wMeth c.Table k_Table 2 (P_Table__check c) (wV 0) (wCons (wV 1) wNil)))
  (sSeq (sIf (wNotT (wTt (wB zIx (wFld c.Table k_Table 1 (wV 0)) (wV 1)))) sNever sNil)
  (sSeq (sAsg (wB zIx (wB zIx (wFld c.Table k_Table 1 (wV 0)) (wV 1)) (wU zNeg (wC (.int 1)))) (gN 2))
  (sSeq (sAsg (wSlT (wB zIx (wFld c.Table k_Table 1 (wV 0)) (wV 1)) wNo (wSo (wU zNeg (wC (.int 1))))) (gIx (wFld c.Table k_Table 1 (wV 0)) (wV 1)))
  (sRet (wMeth c.Table k_Table 3 (P_Table__add c) (wV 0) (wCons (wV 1) (wCons (wV 2) wNil))))))))
/-- Table.row: 0 self, 1 hand -/
def w_Table_row (c : Ca) : WS := (sSeq (sDrop (wMeth c.Table k_Table 2 (P_Table__check c) (wV 0) (wCons (wV 1) wNil)))
  (sRet (wB zIx (wFld c.Table k_Table 1 (wV 0)) (wV 1))))
/-- below_all: 0 alphabet, 1 word, 2 events, 3 found, 4 first, 5 inside, 6 second -/
def w_below_all (c : Ca) : WS := (sSeq (sAsg (wCl (wLst wNil)) (gN 3))
  (sSeq (sFor (wR3 (wB zSub (wZ zLen (wCons (wV 1) wNil)) (wC (.int 1))) (wU zNeg (wC (.int 1))) (wU zNeg (wC (.int 1)))) (gN 4) (sSeq (sAsg (wB zIn (wV 4) (wV 2)) (gN 5))
  (sSeq (sFor (wIn (wV 3)) (gN 6) (sAsg (wOrV (wV 5) (wAndV (wB zLt (wV 4) (wV 6)) (wNotV (wCall 3 (P_independent c) (wCons (wV 0) (wCons (wB zIx (wV 1) (wV 4)) (wCons (wB zIx (wV 1) (wV 6)) wNil))))))) (gN 5)))
  (sIf (wTb (wV 5)) (sDrop (wM zAppend (wV 3) (wCons (wV 4) wNil))) sNil))))
  (sRet (wFz (wRev (wV 3))))))
/-- are_apart: 0 alphabet, 1 first, 2 second, 3 one, 4 two -/
def w_are_apart (c : Ca) : WS := (sSeq (sFor (wIn (wV 1)) (gN 3) (sFor (wIn (wV 2)) (gN 4) (sIf (wNotT (wTb (wCall 3 (P_independent c) (wCons (wV 0) (wCons (wV 3) (wCons (wV 4) wNil)))))) (sRet (wC (.bl false))) sNil)))
  (sRet (wC (.bl true))))
/-- earlier_counts: 0 alphabet, 1 word, 2 found, 3 size, 4 k, 5 counts, 6 j, 7 i -/
def w_earlier_counts (c : Ca) : WS := (sSeq (sAsg (wCl (wLst wNil)) (gN 2))
  (sSeq (sAsg (wZ zLen (wCons (wFld c.Alphabet k_Alphabet 1 (wV 0)) wNil)) (gN 3))
  (sSeq (sFor (wR1 (wZ zLen (wCons (wV 1) wNil))) (gN 4) (sSeq (sAsg (wCl (wBF zRep (wFz (wLst (wCons (wC (.int 0)) wNil))) (wV 3))) (gN 5))
  (sSeq (sFor (wR1 (wV 4)) (gN 6) (sIf (wNotT (wTb (wCall 3 (P_independent c) (wCons (wV 0) (wCons (wB zIx (wV 1) (wV 6)) (wCons (wB zIx (wV 1) (wV 4)) wNil)))))) (sSeq (sAsg (wCl (wLc (wR1 (wV 3)) (.n 7) wYes (wZ zMax2 (wCons (wB zIx (wV 5) (wV 7)) (wCons (wB zIx (wB zIx (wV 2) (wV 6)) (wV 7)) wNil))) [7])) (gN 5))
  (sAsg (wZ zMax2 (wCons (wB zIx (wV 5) (wB zIx (wV 1) (wV 6))) (wCons (wB zAdd (wB zIx (wB zIx (wV 2) (wV 6)) (wB zIx (wV 1) (wV 6))) (wC (.int 1))) wNil))) (gIx (wV 5) (wB zIx (wV 1) (wV 6))))) sNil))
  (sDrop (wM zAppend (wV 2) (wCons (wFrz (wV 5)) wNil))))))
  (sRet (wFrz (wV 2))))))
/-- equivalent: 0 alphabet, 1 first, 2 second, 3 place -/
def w_equivalent (c : Ca) : WS := (sSeq (sFor (wR1 (wFld c.Alphabet k_Alphabet 0 (wV 0))) (gN 3) (sIf (wTb (wB zNe (wCall 3 (P_place_word c) (wCons (wV 0) (wCons (wV 1) (wCons (wV 3) wNil)))) (wCall 3 (P_place_word c) (wCons (wV 0) (wCons (wV 2) (wCons (wV 3) wNil)))))) (sRet (wC (.bl false))) sNil))
  (sRet (wC (.bl true))))
/-- _law_alphabet: 0 draws, 1 most_places, 2 most_letters, 3 places, 4 letters, 5 k, 6 chosen, 7 extra -/
def w__law_alphabet (c : Ca) : WS := (sSeq (sAsg (wB zAdd (wC (.int 1)) (wCall 2 (P__law_take c) (wCons (wV 0) (wCons (wV 1) wNil)))) (gN 3))
  (sSeq (sAsg (wCl (wLst wNil)) (gN 4))
  (sSeq (sFor (wR1 (wB zAdd (wC (.int 1)) (wCall 2 (P__law_take c) (wCons (wV 0) (wCons (wV 2) wNil))))) (gN 5) (sSeq (sAsg (wCl (wDisp1 (wCall 2 (P__law_take c) (wCons (wV 0) (wCons (wV 3) wNil))) (wC (.bl true)))) (gN 6))
  (sSeq (sFor (wR1 (wCall 2 (P__law_take c) (wCons (wV 0) (wCons (wC (.int 3)) wNil)))) (gN 7) (sDPut (wV 6) (wCall 2 (P__law_take c) (wCons (wV 0) (wCons (wV 3) wNil))) (wC (.bl true))))
  (sDrop (wM zAppend (wV 4) (wCons (wZ zTuple (wCons (wFz (wZF zSortedD (wCons (wV 6) wNil))) wNil)) wNil))))))
  (sRet (wTup (wCons (wV 3) (wCons (wFrz (wV 4)) wNil)))))))
/-- _law_words: 0 draws, 1 letters, 2 base, 3 k, 4 words, 5 word, 6 left, 7 j, 8 ready, 9 at, 10 i -/
def w__law_words (c : Ca) : WS := (sSeq (sAsg (wZ zTuple (wCons (wFz (wLc (wR1 (wCall 2 (P__law_take c) (wCons (wV 0) (wCons (wC (.int 9)) wNil)))) (.n 3) wYes (wCall 2 (P__law_take c) (wCons (wV 0) (wCons (wZ zLen (wCons (wV 1) wNil)) wNil))) [3])) wNil)) (gN 2))
  (sSeq (sAsg (wCl (wLst wNil)) (gN 4))
  (sSeq (sFor (wR1 (wB zAdd (wC (.int 1)) (wCall 2 (P__law_take c) (wCons (wV 0) (wCons (wC (.int 4)) wNil))))) (gN 3) (sSeq (sAsg (wTup wNil) (gN 5))
  (sSeq (sAsg (wCl (wZF zList (wCons (wV 2) wNil))) (gN 6))
  (sSeq (sFor (wR1 (wCall 2 (P__law_take c) (wCons (wV 0) (wCons (wB zAdd (wZ zLen (wCons (wV 2) wNil)) (wC (.int 1))) wNil)))) (gN 7) (sSeq (sAsg (wFz (wLc (wR1 (wZ zLen (wCons (wV 6) wNil))) (.n 9) (wTb (wB zEq (wZ zLen (wCons (wFz (wLc (wR1 (wV 9)) (.n 10) (wTb (wCall 3 (P__law_meet c) (wCons (wV 1) (wCons (wB zIx (wV 6) (wV 10)) (wCons (wB zIx (wV 6) (wV 9)) wNil))))) (wC (.int 1)) [10])) wNil)) (wC (.int 0)))) (wV 9) [9])) (gN 8))
  (sSeq (sAsg (wB zIx (wV 8) (wCall 2 (P__law_take c) (wCons (wV 0) (wCons (wZ zLen (wCons (wV 8) wNil)) wNil)))) (gN 9))
  (sAsg (wB zAdd (wV 5) (wTup (wCons (wM zPopAt (wV 6) (wCons (wV 9) wNil)) wNil))) (gN 5)))))
  (sSeq (sIf (wTb (wB zEq (wCall 2 (P__law_take c) (wCons (wV 0) (wCons (wC (.int 4)) wNil))) (wC (.int 0)))) (sAsg (wB zAdd (wV 5) (wTup (wCons (wCall 2 (P__law_take c) (wCons (wV 0) (wCons (wZ zLen (wCons (wV 1) wNil)) wNil))) wNil))) (gN 5)) sNil)
  (sDrop (wM zAppend (wV 4) (wCons (wV 5) wNil))))))))
  (sRet (wFrz (wV 4))))))
/-- first_letters: 0 alphabet, 1 word, 2 found, 3 blocked, 4 dependent, 5 k -/
def w_first_letters (c : Ca) : WS := (sSeq (sAsg (wCl (wLst wNil)) (gN 2))
  (sSeq (sAsg (wC (.int 0)) (gN 3))
  (sSeq (sAsg (wCall 1 (P_masks c) (wCons (wV 0) wNil)) (gN 4))
  (sSeq (sFor (wR1 (wZ zLen (wCons (wV 1) wNil))) (gN 5) (sSeq (sIf (wTb (wB zEq (wB zAnd (wB zShr (wV 3) (wB zIx (wV 1) (wV 5))) (wC (.int 1))) (wC (.int 0)))) (sDrop (wM zAppend (wV 2) (wCons (wV 5) wNil))) sNil)
  (sAsg (wB zOr (wV 3) (wB zIx (wV 4) (wB zIx (wV 1) (wV 5)))) (gN 3))))
  (sRet (wFrz (wV 2)))))))
/-- is_least: 0 alphabet, 1 word, 2 dependent, 3 barred, 4 letter -/
def w_is_least (c : Ca) : WS := (sSeq (sAsg (wCall 1 (P_masks c) (wCons (wV 0) wNil)) (gN 2))
  (sSeq (sAsg (wC (.int 0)) (gN 3))
  (sSeq (sFor (wIn (wV 1)) (gN 4) (sSeq (sIf (wTb (wB zEq (wB zAnd (wB zShr (wV 3) (wV 4)) (wC (.int 1))) (wC (.int 1)))) (sRet (wC (.bl false))) sNil)
  (sAsg (wCall 3 (P_next_barred c) (wCons (wV 2) (wCons (wV 3) (wCons (wV 4) wNil)))) (gN 3))))
  (sRet (wC (.bl true))))))
/-- Table.undo: 0 self, 1 hand, 2 number -/
def w_Table_undo (c : Ca) : WS := (sSeq (sDrop (wMeth c.Table k_Table 2 (P_Table__check c) (wV 0) (wCons (wV 1) wNil)))
  (sSeq (sAsg (wMeth c.Table k_Table 2 (P_Table__newest c) (wV 0) (wCons (wV 1) wNil)) (gN 2))
  (sSeq (sIf (wTb (wB zNe (wMeth c.Table k_Table 2 (P_Table__resting c) (wV 0) (wCons (wV 2) wNil)) (wFz (wLst (wCons (wV 2) wNil))))) sNever sNil)
  (sSeq (sDrop (wMeth c.Table k_Table 2 (P_Table__take_back c) (wV 0) (wCons (wV 2) wNil)))
  (sRet (wV 2))))))
def wx_Table_undo (c : Ca) : WX0 := (wSeqX (sDrop (wMeth c.Table k_Table 2 (P_Table__check c) (wV 0) (wCons (wV 1) wNil))) (wMethX c.Table k_Table 2 (X_Table__newest c) (wV 0) (wCons (wV 1) wNil)))
/-- Table.undo_with_all: 0 self, 1 hand, 2 found, 3 number -/
def w_Table_undo_with_all (c : Ca) : WS := (sSeq (sDrop (wMeth c.Table k_Table 2 (P_Table__check c) (wV 0) (wCons (wV 1) wNil)))
  (sSeq (sAsg (wMeth c.Table k_Table 2 (P_Table__resting c) (wV 0) (wCons (wMeth c.Table k_Table 2 (P_Table__newest c) (wV 0) (wCons (wV 1) wNil)) wNil)) (gN 2))
  (sSeq (sFor (wIn (wFz (wRev (wV 2)))) (gN 3) (sDrop (wMeth c.Table k_Table 2 (P_Table__take_back c) (wV 0) (wCons (wV 3) wNil))))
  (sRet (wV 2)))))
def wx_Table_undo_with_all (c : Ca) : WX0 := (wSeqX (sDrop (wMeth c.Table k_Table 2 (P_Table__check c) (wV 0) (wCons (wV 1) wNil))) (wMethXA c.Table k_Table (wV 0) (wMethX c.Table k_Table 2 (X_Table__newest c) (wV 0) (wCons (wV 1) wNil))))
/-- is_below: 0 alphabet, 1 word, 2 first, 3 second -/
def w_is_below (c : Ca) : WS := (sRet (wB zIn (wV 2) (wCall 3 (P_below_all c) (wCons (wV 0) (wCons (wV 1) (wCons (wFz (wLst (wCons (wV 3) wNil))) wNil))))))
/-- order_count: 0 alphabet, 1 word, 2 needed, 3 size, 4 events, 5 k, 6 letter, 7 counts, 8 _, 9 longer, 10 done, 11 due, 12 after -/
def w_order_count (c : Ca) : WS := (sSeq (sAsg (wCall 2 (P_earlier_counts c) (wCons (wV 0) (wCons (wV 1) wNil))) (gN 2))
  (sSeq (sAsg (wZ zLen (wCons (wFld c.Alphabet k_Alphabet 1 (wV 0)) wNil)) (gN 3))
  (sSeq (sAsg (wFz (wLc (wR1 (wV 3)) (.n 6) wYes (wFz (wLc (wR1 (wZ zLen (wCons (wV 1) wNil))) (.n 5) (wTb (wB zEq (wB zIx (wV 1) (wV 5)) (wV 6))) (wV 5) [5])) [6])) (gN 4))
  (sSeq (sAsg (wCl (wTDisp1 (wB zRepT (wTup (wCons (wC (.int 0)) wNil)) (wV 3)) (wC (.int 1)))) (gN 7))
  (sSeq (sFor (wR1 (wZ zLen (wCons (wV 1) wNil))) (gN 8) (sSeq (sAsg (wCl wTNew) (gN 9))
  (sSeq (sLkT 7 (sFor (wKeysT (wV 7)) (gN 10) (sFor (wR1 (wV 3)) (gN 6) (sIf (wTb (wB zLt (wB zIx (wV 10) (wV 6)) (wZ zLen (wCons (wB zIx (wV 4) (wV 6)) wNil)))) (sSeq (sAsg (wB zIx (wV 2) (wB zIx (wB zIx (wV 4) (wV 6)) (wB zIx (wV 10) (wV 6)))) (gN 11))
  (sIf (wTb (wB zEq (wZ zLen (wCons (wFz (wLc (wR1 (wV 3)) (.n 5) (wTb (wB zGt (wB zIx (wV 11) (wV 5)) (wB zIx (wV 10) (wV 5)))) (wV 5) [5])) wNil)) (wC (.int 0)))) (sSeq (sAsg (wB zAdd (wB zAdd (wSlT (wV 10) wNo (wSo (wV 6))) (wTup (wCons (wB zAdd (wB zIx (wV 10) (wV 6)) (wC (.int 1))) wNil))) (wSlT (wV 10) (wSo (wB zAdd (wV 6) (wC (.int 1)))) wNo)) (gN 12))
  (sTPut (wV 9) (wV 12) (wB zAdd (wTGet2 (wV 9) (wV 12) (wC (.int 0))) (wTGet (wV 7) (wV 10))))) sNil)) sNil))))
  (sAsg (wV 9) (gN 7)))))
  (sRet (wZ zSum (wCons (wFz (wLkF 7 (wLc (wKeysT (wV 7)) (.n 10) wYes (wTGet (wV 7) (wV 10)) [10]))) wNil))))))))
/-- least_form: 0 alphabet, 1 word, 2 rest, 3 found, 4 best, 5 k -/
def w_least_form (c : Ca) : WS := (sSeq (sAsg (wCl (wZF zList (wCons (wV 1) wNil))) (gN 2))
  (sSeq (sAsg (wCl (wLst wNil)) (gN 3))
  (sSeq (sWhile (wTb (wB zGt (wZ zLen (wCons (wV 2) wNil)) (wC (.int 0)))) (sSeq (sAsg (wU zNeg (wC (.int 1))) (gN 4))
  (sSeq (sFor (wIn (wCall 2 (P_first_letters c) (wCons (wV 0) (wCons (wV 2) wNil)))) (gN 5) (sIf (wOrT (wTb (wB zLt (wV 4) (wC (.int 0)))) (wTb (wB zLt (wB zIx (wV 2) (wV 5)) (wB zIx (wV 2) (wV 4))))) (sAsg (wV 5) (gN 4)) sNil))
  (sDrop (wM zAppend (wV 3) (wCons (wM zPopAt (wV 2) (wCons (wV 4) wNil)) wNil))))))
  (sRet (wZ zTuple (wCons (wV 3) wNil))))))
/-- first_place: 0 alphabet, 1 word, 2 letter, 3 k -/
def w_first_place (c : Ca) : WS := (sSeq (sFor (wIn (wCall 2 (P_first_letters c) (wCons (wV 0) (wCons (wV 1) wNil)))) (gN 3) (sIf (wTb (wB zEq (wB zIx (wV 1) (wV 3)) (wV 2))) (sRet (wV 3)) sNil))
  (sRet (wU zNeg (wC (.int 1)))))
/-- Table.word: 0 self, 1 _, 2 letter -/
def w_Table_word (c : Ca) : WS := (sRet (wCall 2 (P_least_form c) (wCons (wFld c.Table k_Table 0 (wV 0)) (wCons (wFz (wLc (wIn (wFld c.Table k_Table 2 (wV 0))) (.t [1, 1, 2]) wYes (wV 2) [1, 1, 2])) wNil))))
/-- rest: 0 alphabet, 1 first, 2 second, 3 left, 4 letter, 5 at -/
def w_rest (c : Ca) : WS := (sSeq (sAsg (wZ zTuple (wCons (wV 2) wNil)) (gN 3))
  (sSeq (sFor (wIn (wV 1)) (gN 4) (sSeq (sAsg (wCall 3 (P_first_place c) (wCons (wV 0) (wCons (wV 3) (wCons (wV 4) wNil)))) (gN 5))
  (sSeq (sIf (wTb (wB zLt (wV 5) (wC (.int 0)))) (sRet (wC .non)) sNil)
  (sAsg (wCall 2 (P_without_prefixes c) (wCons (wV 3) (wCons (wV 5) wNil))) (gN 3)))))
  (sRet (wCall 2 (P_least_form c) (wCons (wV 0) (wCons (wV 3) wNil))))))
/-- common_prefix: 0 alphabet, 1 first, 2 second, 3 one, 4 two, 5 found, 6 at, 7 k, 8 j -/
def w_common_prefix (c : Ca) : WS := (sSeq (sAsg (wZ zTuple (wCons (wV 1) wNil)) (gN 3))
  (sSeq (sAsg (wZ zTuple (wCons (wV 2) wNil)) (gN 4))
  (sSeq (sAsg (wCl (wLst wNil)) (gN 5))
  (sSeq (sAsg (wC (.int 0)) (gN 6))
  (sSeq (sWhile (wTb (wB zLt (wV 6) (wZ zLen (wCons (wFld c.Alphabet k_Alphabet 1 (wV 0)) wNil)))) (sSeq (sAsg (wCall 3 (P_first_place c) (wCons (wV 0) (wCons (wV 3) (wCons (wV 6) wNil)))) (gN 7))
  (sSeq (sAsg (wCall 3 (P_first_place c) (wCons (wV 0) (wCons (wV 4) (wCons (wV 6) wNil)))) (gN 8))
  (sIf (wAndT (wTb (wB zGe (wV 7) (wC (.int 0)))) (wTb (wB zGe (wV 8) (wC (.int 0))))) (sSeq (sDrop (wM zAppend (wV 5) (wCons (wV 6) wNil)))
  (sSeq (sAsg (wCall 2 (P_without_prefixes c) (wCons (wV 3) (wCons (wV 7) wNil))) (gN 3))
  (sSeq (sAsg (wCall 2 (P_without_prefixes c) (wCons (wV 4) (wCons (wV 8) wNil))) (gN 4))
  (sAsg (wC (.int 0)) (gN 6))))) (sAug 6 (zI (fun _ _ => True) fun i j => i + j) (wC (.int 1)))))))
  (sRet (wCall 2 (P_least_form c) (wCons (wV 0) (wCons (wV 5) wNil)))))))))
/-- without: 0 alphabet, 1 word, 2 events, 3 kept, 4 k, 5 event -/
def w_without_joins (c : Ca) : WS := (sSeq (sAsg (wCl (wLst wNil)) (gN 3))
  (sSeq (sFor (wR1 (wZ zLen (wCons (wV 1) wNil))) (gN 4) (sIf (wNotT (wTb (wZ zAny (wCons (wFz (wLc (wIn (wV 2)) (.n 5) wYes (wCall 4 (P_is_below c) (wCons (wV 0) (wCons (wV 1) (wCons (wV 5) (wCons (wV 4) wNil))))) [5])) wNil)))) (sDrop (wM zAppend (wV 3) (wCons (wB zIx (wV 1) (wV 4)) wNil))) sNil))
  (sRet (wCall 2 (P_least_form c) (wCons (wV 0) (wCons (wV 3) wNil))))))
/-- join: 0 alphabet, 1 first, 2 second, 3 common, 4 one, 5 two -/
def w_join (c : Ca) : WS := (sSeq (sAsg (wCall 3 (P_common_prefix c) (wCons (wV 0) (wCons (wV 1) (wCons (wV 2) wNil)))) (gN 3))
  (sSeq (sAsg (wCall 3 (P_rest c) (wCons (wV 0) (wCons (wV 3) (wCons (wV 1) wNil)))) (gN 4))
  (sSeq (sAsg (wCall 3 (P_rest c) (wCons (wV 0) (wCons (wV 3) (wCons (wV 2) wNil)))) (gN 5))
  (sSeq (sIf (wNotT (wTb (wCall 3 (P_are_apart c) (wCons (wV 0) (wCons (wV 4) (wCons (wV 5) wNil)))))) (sRet (wC .non)) sNil)
  (sRet (wCall 2 (P_least_form c) (wCons (wV 0) (wCons (wB zAdd (wB zAdd (wV 3) (wV 4)) (wV 5)) wNil))))))))
/-- common_all: 0 alphabet, 1 words, 2 found, 3 word -/
def w_common_all (c : Ca) : WS := (sSeq (sAsg (wCall 2 (P_least_form c) (wCons (wV 0) (wCons (wB zIx (wV 1) (wC (.int 0))) wNil))) (gN 2))
  (sSeq (sFor (wIn (wFz (wSlL (wV 1) (wSo (wC (.int 1))) wNo))) (gN 3) (sAsg (wCall 3 (P_common_prefix c) (wCons (wV 0) (wCons (wV 2) (wCons (wV 3) wNil)))) (gN 2)))
  (sRet (wV 2))))
/-- joined_all: 0 alphabet, 1 words, 2 i, 3 first, 4 j, 5 found, 6 word -/
def w_joined_all (c : Ca) : WS := (sSeq (sFor (wEn (wV 1)) (gTu 2 (gsCons (gN 2) (gsCons (gN 3) gsNil))) (sFor (wR2 (wB zAdd (wV 2) (wC (.int 1))) (wZ zLen (wCons (wV 1) wNil))) (gN 4) (sIf (wTb (wB zIsN (wCall 3 (P_join c) (wCons (wV 0) (wCons (wV 3) (wCons (wB zIx (wV 1) (wV 4)) wNil)))) (wC .non))) (sRet (wTup (wCons (wC (.str ("conflict" : Str))) (wCons (wV 2) (wCons (wV 4) wNil))))) sNil)))
  (sSeq (sAsg (wTup wNil) (gN 5))
  (sSeq (sFor (wIn (wV 1)) (gN 6) (sAsg (wCall 3 (P_join c) (wCons (wV 0) (wCons (wV 5) (wCons (wV 6) wNil)))) (gN 5)))
  (sRet (wTup (wCons (wC (.str ("joined" : Str))) (wCons (wV 5) wNil)))))))
/-- _law_joins_right: 0 draws, 1 alphabet, 2 places, 3 letters, 4 words, 5 low, 6 high, 7 each, 8 pair, 9 base, 10 prefixes, 11 k, 12 place -/
def w__law_joins_right (c : Ca) : WS := (sSeq (sAsg (wCall 2 (P__law_words c) (wCons (wV 0) (wCons (wV 3) wNil))) (gN 4))
  (sSeq (sPar 5 6 (wCall 2 (P_common_all c) (wCons (wV 1) (wCons (wV 4) wNil))) (wCall 2 (P_joined_all c) (wCons (wV 1) (wCons (wV 4) wNil))))
  (sSeq (sFor (wIn (wV 4)) (gN 7) (sIf (wOrT (wTb (wB zIsN (wCall 3 (P_rest c) (wCons (wV 1) (wCons (wV 5) (wCons (wV 7) wNil)))) (wC .non))) (wAndT (wTb (wB zEq (wB zIx (wV 6) (wC (.int 0))) (wC (.str ("joined" : Str))))) (wTb (wB zIsN (wCall 3 (P_rest c) (wCons (wV 1) (wCons (wV 7) (wCons (wB zIx (wV 6) (wC (.int 1))) wNil)))) (wC .non))))) (sRet (wC (.bl false))) sNil))
  (sSeq (sAsg (wCall 3 (P_join c) (wCons (wV 1) (wCons (wB zIx (wV 4) (wC (.int 0))) (wCons (wB zIx (wV 4) (wB zSub (wZ zLen (wCons (wV 4) wNil)) (wC (.int 1)))) wNil)))) (gN 8))
  (sSeq (sIf (wOrT (wAndT (wTb (wB zEq (wB zIx (wV 6) (wC (.int 0))) (wC (.str ("joined" : Str))))) (wTb (wB zIsN (wV 8) (wC .non)))) (wAndT (wTb (wB zEq (wB zIx (wV 6) (wC (.int 0))) (wC (.str ("conflict" : Str))))) (wTb (wB zNotN (wCall 3 (P_join c) (wCons (wV 1) (wCons (wB zIx (wV 4) (wB zIx (wV 6) (wC (.int 1)))) (wCons (wB zIx (wV 4) (wB zIx (wV 6) (wC (.int 2)))) wNil)))) (wC .non))))) (sRet (wC (.bl false))) sNil)
  (sSeq (sIf (wOrT (wAndT (wTb (wB zEq (wB zIx (wV 6) (wC (.int 0))) (wC (.str ("joined" : Str))))) (wTb (wB zIsN (wCall 3 (P_rest c) (wCons (wV 1) (wCons (wV 8) (wCons (wB zIx (wV 6) (wC (.int 1))) wNil)))) (wC .non)))) (wTb (wB zIsN (wCall 3 (P_rest c) (wCons (wV 1) (wCons (wV 5) (wCons (wCall 3 (P_common_prefix c) (wCons (wV 1) (wCons (wB zIx (wV 4) (wC (.int 0))) (wCons (wB zIx (wV 4) (wB zSub (wZ zLen (wCons (wV 4) wNil)) (wC (.int 1)))) wNil)))) wNil)))) (wC .non)))) (sRet (wC (.bl false))) sNil)
  (sSeq (sIf (wOrT (wTb (wB zNe (wCall 2 (P_common_all c) (wCons (wV 1) (wCons (wFz (wBF zCat (wV 4) (wV 4))) wNil))) (wV 5))) (wTb (wB zNe (wCall 2 (P_common_all c) (wCons (wV 1) (wCons (wFz (wSlL (wV 4) wNo (wSo (wC (.int 1))))) wNil))) (wCall 2 (P_least_form c) (wCons (wV 1) (wCons (wB zIx (wV 4) (wC (.int 0))) wNil)))))) (sRet (wC (.bl false))) sNil)
  (sSeq (sIf (wTb (wB zNe (wB zIx (wCall 2 (P_joined_all c) (wCons (wV 1) (wCons (wFz (wSlL (wV 4) wNo (wSo (wC (.int 1))))) wNil))) (wC (.int 1))) (wCall 2 (P_least_form c) (wCons (wV 1) (wCons (wB zIx (wV 4) (wC (.int 0))) wNil))))) (sRet (wC (.bl false))) sNil)
  (sSeq (sAsg (wB zIx (wV 4) (wC (.int 0))) (gN 9))
  (sSeq (sAsg (wFz (wLc (wR1 (wB zAdd (wZ zLen (wCons (wV 9) wNil)) (wC (.int 1)))) (.n 11) wYes (wSlT (wV 9) wNo (wSo (wV 11))) [11])) (gN 10))
  (sSeq (sIf (wOrT (wTb (wB zNe (wCall 2 (P_joined_all c) (wCons (wV 1) (wCons (wV 10) wNil))) (wTup (wCons (wC (.str ("joined" : Str))) (wCons (wCall 2 (P_least_form c) (wCons (wV 1) (wCons (wV 9) wNil))) wNil))))) (wTb (wB zNe (wCall 2 (P_common_all c) (wCons (wV 1) (wCons (wV 10) wNil))) (wTup wNil)))) (sRet (wC (.bl false))) sNil)
  (sSeq (sIf (wOrT (wTb (wB zNe (wCall 3 (P_without_joins c) (wCons (wV 1) (wCons (wV 9) (wCons (wFz (wLst wNil)) wNil)))) (wCall 2 (P_least_form c) (wCons (wV 1) (wCons (wV 9) wNil))))) (wOrT (wTb (wB zNe (wCall 3 (P_without_joins c) (wCons (wV 1) (wCons (wV 9) (wCons (wFz (wLRg (wZ zLen (wCons (wV 9) wNil)))) wNil)))) (wTup wNil))) (wTb (wB zLt (wCall 2 (P_order_count c) (wCons (wV 1) (wCons (wV 9) wNil))) (wC (.int 1)))))) (sRet (wC (.bl false))) sNil)
  (sSeq (sIf (wAndT (wTb (wB zGt (wZ zLen (wCons (wV 9) wNil)) (wC (.int 1)))) (wAndT (wTb (wCall 3 (P_independent c) (wCons (wV 1) (wCons (wB zIx (wV 9) (wC (.int 0))) (wCons (wB zIx (wV 9) (wC (.int 1))) wNil))))) (wNotT (wTb (wCall 3 (P_equivalent c) (wCons (wV 1) (wCons (wV 9) (wCons (wB zAdd (wTup (wCons (wB zIx (wV 9) (wC (.int 1))) (wCons (wB zIx (wV 9) (wC (.int 0))) wNil))) (wSlT (wV 9) (wSo (wC (.int 2))) wNo)) wNil)))))))) (sRet (wC (.bl false))) sNil)
  (sSeq (sFor (wR1 (wV 2)) (gN 12) (sIf (wTb (wB zNe (wCall 3 (P_place_word c) (wCons (wV 1) (wCons (wV 5) (wCons (wV 12) wNil)))) (wSlT (wCall 3 (P_place_word c) (wCons (wV 1) (wCons (wB zIx (wV 4) (wC (.int 0))) (wCons (wV 12) wNil)))) wNo (wSo (wZ zLen (wCons (wCall 3 (P_place_word c) (wCons (wV 1) (wCons (wV 5) (wCons (wV 12) wNil)))) wNil)))))) (sRet (wC (.bl false))) sNil))
  (sRet (wC (.bl true)))))))))))))))))
/-- law: 0 script, 1 draws, 2 turn, 3 places, 4 letters, 5 alphabet, 6 table, 7 hands, 8 k, 9 word, 10 number, 11 hand, 12 letter, 13 numbers, 14 who, 15 mine, 16 before, 17 newest, 18 at, 19 gone, 20 other, 21 told, 22 rows, 23 each -/
def w_law (c : Ca) : WS := (sSeq (sAsg (wCall 2 (P__law_draws c) (wCons (wV 0) (wCons (wC (.int 400)) wNil))) (gN 1))
  (sSeq (sFor (wR1 (wC (.int 3))) (gN 2) (sSeq (sAsg (wCall 3 (P__law_alphabet c) (wCons (wV 1) (wCons (wC (.int 3)) (wCons (wC (.int 4)) wNil)))) (gTu 2 (gsCons (gN 3) (gsCons (gN 4) gsNil))))
  (sSeq (sAsg (wFrz (wMake c.Alphabet 3 (P_Alphabet_init c) (wCons (wV 3) (wCons (wV 4) wNil)))) (gN 5))
  (sSeq (sAsg (wTup (wCons (wMake c.Table 3 (P_Table_init c) (wCons (wV 5) (wCons (wC (.int 2)) wNil))) (wCons (wC (.int 2)) wNil))) (gTu 2 (gsCons (gN 6) (gsCons (gN 7) gsNil))))
  (sSeq (sFor (wR1 (wCall 2 (P__law_take c) (wCons (wV 1) (wCons (wC (.int 9)) wNil)))) (gN 8) (sDrop (wMeth c.Table k_Table 3 (P_Table_do c) (wV 6) (wCons (wCall 2 (P__law_take c) (wCons (wV 1) (wCons (wV 7) wNil))) (wCons (wCall 2 (P__law_take c) (wCons (wV 1) (wCons (wZ zLen (wCons (wV 4) wNil)) wNil))) wNil)))))
  (sSeq (sAsg (wZ zTuple (wCons (wFz (wLc (wIn (wMeth c.Table k_Table 1 (P_Table_events c) (wV 6) wNil)) (.t [10, 11, 12]) wYes (wV 12) [10, 11, 12])) wNil)) (gN 9))
  (sSeq (sIf (wOrT (wTb (wB zNe (wMeth c.Table k_Table 1 (P_Table_word c) (wV 6) wNil) (wCall 2 (P_least_form c) (wCons (wV 5) (wCons (wV 9) wNil))))) (wOrT (wNotT (wTb (wCall 3 (P_equivalent c) (wCons (wV 5) (wCons (wMeth c.Table k_Table 1 (P_Table_word c) (wV 6) wNil) (wCons (wV 9) wNil)))))) (wTb (wB zNotB (wCall 2 (P_is_least c) (wCons (wV 5) (wCons (wMeth c.Table k_Table 1 (P_Table_word c) (wV 6) wNil) wNil))) (wC (.bl true)))))) (sRet (wC (.bl false))) sNil)
  (sSeq (sAsg (wCall 2 (P__law_take c) (wCons (wV 1) (wCons (wV 7) wNil))) (gN 11))
  (sSeq (sAsg (wFz (wLc (wIn (wMeth c.Table k_Table 1 (P_Table_events c) (wV 6) wNil)) (.t [10, 14, 12]) wYes (wV 10) [10, 14, 12])) (gN 13))
  (sSeq (sAsg (wFz (wLc (wIn (wMeth c.Table k_Table 1 (P_Table_events c) (wV 6) wNil)) (.t [10, 14, 12]) (wTb (wB zEq (wV 14) (wV 11))) (wV 10) [10, 14, 12])) (gN 15))
  (sSeq (sAsg (wMeth c.Table k_Table 1 (P_Table_word c) (wV 6) wNil) (gN 16))
  (sSeq (sIf (wTb (wB zGt (wZ zLen (wCons (wV 15) wNil)) (wC (.int 0)))) (sSeq (sAsg (wB zIx (wV 15) (wB zSub (wZ zLen (wCons (wV 15) wNil)) (wC (.int 1)))) (gN 17))
  (sSeq (sAsg (wM zIndex (wV 13) (wCons (wV 17) wNil)) (gN 18))
  (sSeq (sAsg (wFz (wBF zCat (wFz (wLst (wCons (wV 18) wNil))) (wFz (wLc (wR2 (wB zAdd (wV 18) (wC (.int 1))) (wZ zLen (wCons (wV 9) wNil))) (.n 20) (wTb (wCall 4 (P_is_below c) (wCons (wV 5) (wCons (wV 9) (wCons (wV 18) (wCons (wV 20) wNil)))))) (wV 20) [20])))) (gN 19))
  (sSeq (sAsg (wMeth c.Table k_Table 2 (P_Table_undo_with_all c) (wV 6) (wCons (wV 11) wNil)) (gN 21))
  (sSeq (sIf (wOrT (wTb (wB zNe (wV 21) (wFz (wLc (wIn (wV 19)) (.n 8) wYes (wB zIx (wV 13) (wV 8)) [8])))) (wTb (wB zNe (wMeth c.Table k_Table 1 (P_Table_word c) (wV 6) wNil) (wCall 3 (P_without_joins c) (wCons (wV 5) (wCons (wV 9) (wCons (wFz (wLst (wCons (wV 18) wNil))) wNil))))))) (sRet (wC (.bl false))) sNil)
  (sSeq (sIf (wOrT (wTb (wB zIsN (wCall 3 (P_rest c) (wCons (wV 5) (wCons (wMeth c.Table k_Table 1 (P_Table_word c) (wV 6) wNil) (wCons (wV 16) wNil)))) (wC .non))) (wTb (wB zNe (wZ zLen (wCons (wMeth c.Table k_Table 1 (P_Table_word c) (wV 6) wNil) wNil)) (wB zSub (wZ zLen (wCons (wV 16) wNil)) (wZ zLen (wCons (wV 19) wNil)))))) (sRet (wC (.bl false))) sNil)
  (sSeq (sAsg (wFz (wLc (wR1 (wV 7)) (.n 23) wYes (wZ zLen (wCons (wMeth c.Table k_Table 2 (P_Table_row c) (wV 6) (wCons (wV 23) wNil)) wNil)) [23])) (gN 22))
  (sSeq (sIf (wTb (wB zNe (wZ zSum (wCons (wV 22) wNil)) (wZ zLen (wCons (wV 19) wNil)))) (sRet (wC (.bl false))) sNil)
  (sIf (wTb (wB zEq (wZ zLen (wCons (wV 19) wNil)) (wC (.int 1)))) (sSeq (sIf (wOrT (wTb (wB zIsN (wMeth c.Table k_Table 2 (P_Table_do_again c) (wV 6) (wCons (wV 11) wNil)) (wC .non))) (wOrT (wTb (wB zNe (wMeth c.Table k_Table 1 (P_Table_word c) (wV 6) wNil) (wV 16))) (wTb (wB zNe (wMeth c.Table k_Table 2 (P_Table_row c) (wV 6) (wCons (wV 11) wNil)) (wTup wNil))))) (sRet (wC (.bl false))) sNil)
  (sIf (wOrT (wTb (wB zIsN (wLam c.LT lamq (wMeth c.Table k_Table 2 (P_Table_undo c) (wV 6) (wCons (wV 11) wNil)) (wMethX c.Table k_Table 2 (X_Table_undo c) (wV 6) (wCons (wV 11) wNil))) (wC .non))) (wTb (wB zNe (wMeth c.Table k_Table 1 (P_Table_word c) (wV 6) wNil) (wCall 3 (P_without_joins c) (wCons (wV 5) (wCons (wV 9) (wCons (wFz (wLst (wCons (wV 18) wNil))) wNil))))))) (sRet (wC (.bl false))) sNil)) sNil))))))))) (sIf (wTb (wB zNotN (wLam c.LT lamq (wMeth c.Table k_Table 2 (P_Table_undo c) (wV 6) (wCons (wV 11) wNil)) (wMethX c.Table k_Table 2 (X_Table_undo c) (wV 6) (wCons (wV 11) wNil))) (wC .non))) (sRet (wC (.bl false))) (sIf (wTb (wB zNotN (wLam c.LT lamq (wMeth c.Table k_Table 2 (P_Table_undo_with_all c) (wV 6) (wCons (wV 11) wNil)) (wMethX c.Table k_Table 2 (X_Table_undo_with_all c) (wV 6) (wCons (wV 11) wNil))) (wC .non))) (sRet (wC (.bl false))) sNil)))
  (sIf (wNotT (wTb (wCall 4 (P__law_joins_right c) (wCons (wV 1) (wCons (wV 5) (wCons (wV 3) (wCons (wV 4) wNil))))))) (sRet (wC (.bl false))) sNil)))))))))))))
  (sRet (wC (.bl true)))))
end K5

set_option maxHeartbeats 4000000
namespace K5
open PySem Tk Tr L2
variable {c : Ca}
theorem dLs_get {A : Al} {a : Nat} (h : a < A.n) : (dLs A)[a]? = some (.tup (nats (pl A a))) := by
  unfold dLs pl
  have h' : a < A.ls.length := h
  rw [List.getElem?_map, List.getElem?_eq_getElem h', List.getD_eq_getElem?_getD, List.getElem?_eq_getElem h']
  rfl
theorem dLs_len (A : Al) : (dLs A).length = A.n := by simp [dLs, Al.n]
theorem i_al (S : Sto) (A : Al) : insOf S (dAl c A) = some (c.Alphabet, k_Alphabet, [.int (A.k : Nat), .tup (dLs A)]) := rfl
local macro_rules | `(tactic| simp_arith only [$xs,*]) => `(tactic| simp only [↓x_V, ↓x_C, ↓x_B, ↓x_U, ↓x_Nil, ↓x_Cons, ↓x_Z, ↓x_Tup, ↓x_Lst, ↓x_Fz, ↓x_Cl, ↓x_BF, ↓x_ZF, ↓x_Tb, ↓x_AndT, ↓x_OrT, ↓x_NotT, ↓x_Yes, ↓x_AndV, ↓x_OrV, ↓x_NotV, ↓x_IfE, ↓x_Chain, ↓x_I, ↓x_Ib, ↓x_AddI, ↓x_AddT, ↓x_Cat, ↓x_Rep, ↓x_Neg, ↓x_Ix, ↓x_No, ↓x_So, ↓x_SlT, ↓x_SlL, ↓x_Rev, ↓x_In, ↓x_NotIn, ↓x_IsN, ↓x_NotN, ↓x_IsB, ↓x_NotB, ↓x_Len, ↓x_Int, ↓x_Max2, ↓x_Max, ↓x_Min, ↓x_Sum, ↓x_All, ↓x_Any, ↓x_List, ↓x_Tuple, ↓x_Sorted, ↓x_M, ↓x_M0, ↓x_Append, ↓x_Pop, ↓x_PopAt, ↓x_Reverse, ↓x_Fld, ↓x_FldNew, ↓x_FldSet, ↓x_FldAug, ↓x_Call, ↓x_Meth, ↓x_Make, ↓x_Frz, ↓x_gN, ↓x_gsNil, ↓x_gsCons, ↓x_gTu, ↓x_gIx, ↓x_Seq, ↓x_SNil, ↓x_Asg, ↓x_Drop, ↓x_Ret, ↓x_RetN, ↓x_If, ↓x_Brk, ↓x_Cnt, ↓x_Aug, ↓x_AugIx, ↓x_Par, ↓x_WIn, ↓x_R1, ↓x_R2, ↓x_R3, ↓x_DNew, ↓x_Disp1, ↓x_DPut, ↓x_SortedD, ↓x_DictP, ↓x_LRg, ↓x_For, ↓x_While, ↓x_Lc, ↓x_Inv, ↓x_Tt, ↓x_En, ↓x_TNew, ↓x_TDisp1, ↓x_TGet, ↓x_TGet2, ↓x_TPut, ↓x_KeysT, ↓x_EqI, ↓x_NeI, ↓x_NeB, ↓e_rt, ↓e_nx, ↓tgP, ↓kR25', ↓kR24', ↓kR23', ↓kR22', ↓kTt', ↓kEn2', ↓kEn', ↓kTD2', ↓kTD1', ↓kTG2', ↓kTG1', ↓kTH3', ↓kTH2', ↓kTH1', ↓kTP3', ↓kTP2', ↓kTP1', ↓kKy', ↓kQ', ↓kB2', ↓kB1', ↓kU', ↓kC2', ↓kC1', ↓kZ', ↓kTup', ↓kLst', ↓kFz', ↓kCl', ↓kBF2', ↓kBF1', ↓kZF', ↓kT', ↓kTb', ↓kAndT', ↓kOrT', ↓kNotT', ↓kAndV2', ↓kAndV', ↓kOrV2', ↓kOrV', ↓kNotV2', ↓kNotV', ↓kIfE', ↓kCh5', ↓kCh4', ↓kCh3', ↓kCh2', ↓kCh1', ↓kI2', ↓kI1', ↓kIb2', ↓kIb1', ↓kCat2', ↓kCat1', ↓kRep2', ↓kRep1', ↓kNeg', ↓kIx2', ↓kIx1', ↓kSo2', ↓kSo', ↓kSl4', ↓kSl3', ↓kSl2', ↓kSl1', ↓kSm4', ↓kSm3', ↓kSm2', ↓kSm1', ↓kRev2', ↓kRev', ↓kIn3', ↓kIn2', ↓kIn1', ↓kNi3', ↓kNi2', ↓kNi1', ↓kIs2', ↓kIs1', ↓kNb2', ↓kNb1', ↓kLen', ↓kMax2', ↓kMax1', ↓kMin2', ↓kMin1', ↓kSum2', ↓kSum1', ↓kAll2', ↓kAll1', ↓kAny2', ↓kAny1', ↓kList', ↓kTuple', ↓kSrt2', ↓kSrt1', ↓kM2', ↓kM1', ↓kM0', ↓kAp2', ↓kAp1', ↓kPop3', ↓kPop2', ↓kPop1', ↓kPa5', ↓kPa4', ↓kPa3', ↓kPa2', ↓kPa1', ↓kRv2', ↓kRv1', ↓kFld2', ↓kFld1', ↓kFn4', ↓kFn3', ↓kFn2', ↓kFn1', ↓kFs4', ↓kFs3', ↓kFs2', ↓kFs1', ↓kFa7', ↓kFa6', ↓kFa5', ↓kFa4', ↓kFa35', ↓kFa3', ↓kFa2', ↓kFa1', ↓kCall', ↓kMt3', ↓kMt2', ↓kMt1', ↓kMk2', ↓kMk1', ↓kFrz3', ↓kFrz2', ↓kFrz1', ↓kGs', ↓kGt', ↓kGi6', ↓kGi5', ↓kGi4', ↓kGi3', ↓kGi2', ↓kGi1', ↓kAsg', ↓kDrop', ↓kIf', ↓kAug3', ↓kAug2', ↓kAug1', ↓kAi10', ↓kAi9', ↓kAi8', ↓kAi7', ↓kAi6', ↓kAi5', ↓kAi4', ↓kAi3', ↓kAi2', ↓kAi1', ↓kPar2', ↓kPar1', ↓kWin2', ↓kWin1', ↓kR12', ↓kR11', ↓kR36', ↓kR35', ↓kR34', ↓kR33', ↓kR32', ↓kR31', ↓kDi3', ↓kDi2', ↓kDi1', ↓kDp6', ↓kDp5', ↓kDp4', ↓kDp3', ↓kDp2', ↓kDp1', ↓kSd2', ↓kSd1', ↓kDc2', ↓kDc1', ↓kLr2', ↓kLr1', ↓kFor', ↓kLc', ↓kF2', z0, z1, z2, z3, z4, z5, z6, z0', bO_some, bI_int, bB_bl, bL_ref, bN_non, bP_t, bY_t, bY_f, q_tup, q_lst, q_rd, q_ref, l_lst, l_ref, i_ins, i_ref, d_dk, d_ref, cl_lst, cl_ins, cl_dk, tr_ref, tr_tup, tr_lst, tr_clst, f_dt, f_lst', f_dk, f_ins, sb, sj, gset0, gset, sset0, sset, g_app0, g_app, flt_t, g_lt, s_lt, gs_self, List.set_set, s_app0, s_app, ixN_nat, at_nat, atI_0, atI_1, atI_2, atI_3, nats_len, ints_nats, mem_cast, nats_app, nats_snoc, nats_rev, nats_set, nats_erase, rng_0, rng_N, lt_cast, le_cast, max_cast, lt0, ge0, eq0, gt0, eq_cast, keyO, tupOf, fzO, List.getElem?_cons_zero, List.getElem?_cons_succ, List.set_cons_zero, List.set_cons_succ, List.length_cons, List.length_nil, List.length_append, List.append_assoc, List.cons_append, List.nil_append, List.append_nil, List.length_set, List.length_map, List.length_range, Nat.reduceAdd, Nat.zero_add, Nat.add_zero, Option.isSome_some, and_self, and_true, true_and, Option.bind_some, decide_true, decide_false, decide_eq_true_eq, wipeD, setAllD, Bool.not_true, Bool.not_false, Tk.isNon, eq_self, if_true, if_pos, start0, List.map_cons, List.map_nil, List.replicate, List.take, Nat.reduceSub, Nat.reduceLeDiff, Nat.reduceLT, Int.toNat_natCast, Int.reduceNeg, Nat.reduceEqDiff, Nat.add_eq, Nat.add_assoc, i_al, dLs_len, $xs,*])
local macro_rules | `(tactic| simp_arith! only [$xs,*]) => `(tactic| simp only [↓x_V, ↓x_C, ↓x_B, ↓x_U, ↓x_Nil, ↓x_Cons, ↓x_Z, ↓x_Tup, ↓x_Lst, ↓x_Fz, ↓x_Cl, ↓x_BF, ↓x_ZF, ↓x_Tb, ↓x_AndT, ↓x_OrT, ↓x_NotT, ↓x_Yes, ↓x_AndV, ↓x_OrV, ↓x_NotV, ↓x_IfE, ↓x_Chain, ↓x_I, ↓x_Ib, ↓x_AddI, ↓x_AddT, ↓x_Cat, ↓x_Rep, ↓x_Neg, ↓x_Ix, ↓x_No, ↓x_So, ↓x_SlT, ↓x_SlL, ↓x_Rev, ↓x_In, ↓x_NotIn, ↓x_IsN, ↓x_NotN, ↓x_IsB, ↓x_NotB, ↓x_Len, ↓x_Int, ↓x_Max2, ↓x_Max, ↓x_Min, ↓x_Sum, ↓x_All, ↓x_Any, ↓x_List, ↓x_Tuple, ↓x_Sorted, ↓x_M, ↓x_M0, ↓x_Append, ↓x_Pop, ↓x_PopAt, ↓x_Reverse, ↓x_Fld, ↓x_FldNew, ↓x_FldSet, ↓x_FldAug, ↓x_Call, ↓x_Meth, ↓x_Make, ↓x_Frz, ↓x_gN, ↓x_gsNil, ↓x_gsCons, ↓x_gTu, ↓x_gIx, ↓x_SNil, ↓x_Asg, ↓x_Drop, ↓x_Ret, ↓x_RetN, ↓x_If, ↓x_Brk, ↓x_Cnt, ↓x_Aug, ↓x_AugIx, ↓x_Par, ↓x_WIn, ↓x_R1, ↓x_R2, ↓x_R3, ↓x_DNew, ↓x_Disp1, ↓x_DPut, ↓x_SortedD, ↓x_DictP, ↓x_LRg, ↓x_For, ↓x_While, ↓x_Lc, ↓x_Inv, ↓x_Tt, ↓x_En, ↓x_TNew, ↓x_TDisp1, ↓x_TGet, ↓x_TGet2, ↓x_TPut, ↓x_KeysT, ↓x_EqI, ↓x_NeI, ↓x_NeB, ↓e_rt, ↓e_nx, ↓tgP, ↓kR25', ↓kR24', ↓kR23', ↓kR22', ↓kTt', ↓kEn2', ↓kEn', ↓kTD2', ↓kTD1', ↓kTG2', ↓kTG1', ↓kTH3', ↓kTH2', ↓kTH1', ↓kTP3', ↓kTP2', ↓kTP1', ↓kKy', ↓kQ', ↓kB2', ↓kB1', ↓kU', ↓kC2', ↓kC1', ↓kZ', ↓kTup', ↓kLst', ↓kFz', ↓kCl', ↓kBF2', ↓kBF1', ↓kZF', ↓kT', ↓kTb', ↓kAndT', ↓kOrT', ↓kNotT', ↓kAndV2', ↓kAndV', ↓kOrV2', ↓kOrV', ↓kNotV2', ↓kNotV', ↓kIfE', ↓kCh5', ↓kCh4', ↓kCh3', ↓kCh2', ↓kCh1', ↓kI2', ↓kI1', ↓kIb2', ↓kIb1', ↓kCat2', ↓kCat1', ↓kRep2', ↓kRep1', ↓kNeg', ↓kIx2', ↓kIx1', ↓kSo2', ↓kSo', ↓kSl4', ↓kSl3', ↓kSl2', ↓kSl1', ↓kSm4', ↓kSm3', ↓kSm2', ↓kSm1', ↓kRev2', ↓kRev', ↓kIn3', ↓kIn2', ↓kIn1', ↓kNi3', ↓kNi2', ↓kNi1', ↓kIs2', ↓kIs1', ↓kNb2', ↓kNb1', ↓kLen', ↓kMax2', ↓kMax1', ↓kMin2', ↓kMin1', ↓kSum2', ↓kSum1', ↓kAll2', ↓kAll1', ↓kAny2', ↓kAny1', ↓kList', ↓kTuple', ↓kSrt2', ↓kSrt1', ↓kM2', ↓kM1', ↓kM0', ↓kAp2', ↓kAp1', ↓kPop3', ↓kPop2', ↓kPop1', ↓kPa5', ↓kPa4', ↓kPa3', ↓kPa2', ↓kPa1', ↓kRv2', ↓kRv1', ↓kFld2', ↓kFld1', ↓kFn4', ↓kFn3', ↓kFn2', ↓kFn1', ↓kFs4', ↓kFs3', ↓kFs2', ↓kFs1', ↓kFa7', ↓kFa6', ↓kFa5', ↓kFa4', ↓kFa35', ↓kFa3', ↓kFa2', ↓kFa1', ↓kCall', ↓kMt3', ↓kMt2', ↓kMt1', ↓kMk2', ↓kMk1', ↓kFrz3', ↓kFrz2', ↓kFrz1', ↓kGs', ↓kGt', ↓kGi6', ↓kGi5', ↓kGi4', ↓kGi3', ↓kGi2', ↓kGi1', ↓kAsg', ↓kDrop', ↓kIf', ↓kAug3', ↓kAug2', ↓kAug1', ↓kAi10', ↓kAi9', ↓kAi8', ↓kAi7', ↓kAi6', ↓kAi5', ↓kAi4', ↓kAi3', ↓kAi2', ↓kAi1', ↓kPar2', ↓kPar1', ↓kWin2', ↓kWin1', ↓kR12', ↓kR11', ↓kR36', ↓kR35', ↓kR34', ↓kR33', ↓kR32', ↓kR31', ↓kDi3', ↓kDi2', ↓kDi1', ↓kDp6', ↓kDp5', ↓kDp4', ↓kDp3', ↓kDp2', ↓kDp1', ↓kSd2', ↓kSd1', ↓kDc2', ↓kDc1', ↓kLr2', ↓kLr1', ↓kFor', ↓kLc', ↓kF2', z0, z1, z2, z3, z4, z5, z6, z0', bO_some, bI_int, bB_bl, bL_ref, bN_non, bP_t, bY_t, bY_f, q_tup, q_lst, q_rd, q_ref, l_lst, l_ref, i_ins, i_ref, d_dk, d_ref, cl_lst, cl_ins, cl_dk, tr_ref, tr_tup, tr_lst, tr_clst, f_dt, f_lst', f_dk, f_ins, sb, sj, gset0, gset, sset0, sset, g_app0, g_app, flt_t, g_lt, s_lt, gs_self, List.set_set, s_app0, s_app, ixN_nat, at_nat, atI_0, atI_1, atI_2, atI_3, nats_len, ints_nats, mem_cast, nats_app, nats_snoc, nats_rev, nats_set, nats_erase, rng_0, rng_N, lt_cast, le_cast, max_cast, lt0, ge0, eq0, gt0, eq_cast, keyO, tupOf, fzO, List.getElem?_cons_zero, List.getElem?_cons_succ, List.set_cons_zero, List.set_cons_succ, List.length_cons, List.length_nil, List.length_append, List.append_assoc, List.cons_append, List.nil_append, List.append_nil, List.length_set, List.length_map, List.length_range, Nat.reduceAdd, Nat.zero_add, Nat.add_zero, Option.isSome_some, and_self, and_true, true_and, Option.bind_some, decide_true, decide_false, decide_eq_true_eq, wipeD, setAllD, Bool.not_true, Bool.not_false, Tk.isNon, eq_self, if_true, if_pos, start0, List.map_cons, List.map_nil, List.replicate, List.take, Nat.reduceSub, Nat.reduceLeDiff, Nat.reduceLT, Int.toNat_natCast, Int.reduceNeg, Nat.reduceEqDiff, Nat.add_eq, Nat.add_assoc, i_al, dLs_len, $xs,*])
theorem nats_at {l : List Nat} {k : Nat} (h : k < l.length) : (nats l)[k]? = some (.int (at0 l k : Nat)) := nats_get h
theorem sz4 (n : Nat) (h : n ≤ 1000) : (-(2 ^ 62) ≤ (n : Int) ∧ (n : Int) < 2 ^ 62) = True := eq_true (by omega)
theorem szK {A : Al} (o : Ok A) : (-(2 ^ 62) ≤ (A.k : Int) ∧ (A.k : Int) < 2 ^ 62) = True := eq_true (by have := o.k4; omega)
theorem szN {A : Al} (o : Ok A) : (-(2 ^ 62) ≤ (A.n : Int) ∧ (A.n : Int) < 2 ^ 62) = True := eq_true (by have := o.n6; omega)
theorem szL (n : Nat) (h : n ≤ 1000) : (n < PySem.sizeLine) = True := eq_true (szlt (by omega))
theorem szM (n : Nat) (h : n ≤ 1000) : (n ≤ PySem.sizeLine) = True := eq_true (szl (by omega))
theorem sq_tup (l : List Nat) (S : Sto) : seqOf S (.tup (nats l)) = some (nats l) := rfl
theorem b_fits (ds : List D) (S : Sto) (Q : QE) (h : P_fits c ds S Q) : w_fits c (esDef flCut S Q) (start0 3 ds) S := by
  obtain ⟨l, k, rfl, h1, h2, h3, h4, hq⟩ := h
  unfold w_fits
  have e0 : l.length ≠ 0 := fun q => h1 (List.length_eq_zero_iff.mp q)
  simp_arith only [decide_eq_false e0, sz4 _ h2]
  refine ForP.range _ (fun i ρ S' => S' = S ∧ ∃ z, ρ = [some (.tup (nats l)), some (.int (k : Nat)), z]) ⟨rfl, _, rfl⟩ (fun i ρ S' h => trivial) ?_ ?_
  · rintro i ρ S' hi ⟨rfl, z, rfl⟩
    have hm : at0 l i ∈ l := List.mem_of_getElem? (at0_get hi)
    have e1 : decide (k ≤ at0 l i) = false := by
      have := h4 _ hm
      rw [decide_eq_false_iff_not]
      omega
    by_cases hi0 : 0 < i
    · have hi1 : i - 1 < l.length := by omega
      have e2 : decide (at0 l i ≤ at0 l (i - 1)) = false := by
        rw [decide_eq_false_iff_not]
        have := List.pairwise_iff_getElem.mp h3 (i - 1) i hi1 hi (by omega)
        have a1 := at0_get hi
        have a2 := at0_get hi1
        rw [List.getElem?_eq_getElem hi] at a1
        rw [List.getElem?_eq_getElem hi1] at a2
        rw [Option.some.inj a1, Option.some.inj a2] at this
        omega
      simp_arith only [nats_at hi, e1, decide_eq_true hi0, sub1_cast hi0, nats_at hi1, e2]
      exact ⟨_, rfl⟩
    · simp_arith only [nats_at hi, e1, decide_eq_false hi0]
      exact ⟨_, rfl⟩
  · rintro ρ S' ⟨rfl, z, rfl⟩
    try simp_arith only []
    exact cut_rfl (.bl _) hq
theorem b_place_word (ds : List D) (S : Sto) (Q : QE) (h : P_place_word c ds S Q) : w_place_word c (esDef flCut S Q) (start0 4 ds) S := by
  obtain ⟨A, w, p, rfl, hw, hq⟩ := h
  unfold w_place_word
  try simp_arith only []
  refine LcP.pure w (fun n : Nat => D.int (n : Nat)) (fun a => decide (p ∈ pl A a)) (fun n : Nat => D.int (n : Nat)) trivial (szl (by have := hw.z; omega)) (fun a ha X Y hX hY => ?_) ?_
  · simp_arith only [dLs_get (hw.w a ha)]
    exact bY_mk hX hY
  · try simp_arith only []
    exact cut_rfl (ok_tup _ _) hq
theorem cut_lo (w : List Nat) {k : Nat} (hk : k < w.length) : cutD (nats w) none (some (k : Int)) = nats (w.take k) := by
  unfold cutD HT.sIx
  have h1 : ¬ (k : Int) < 0 := by omega
  simp only [h1, if_false, List.drop_zero, Nat.sub_zero, Int.toNat_natCast, nats_len]
  rw [Nat.min_eq_left (by omega)]
  simp [nats, List.map_take]
theorem cut_hi (w : List Nat) {k : Nat} (hk : k < w.length) : cutD (nats w) (some ((k : Int) + 1)) none = nats (w.drop (k + 1)) := by
  unfold cutD HT.sIx
  have h1 : ¬ (k : Int) + 1 < 0 := by omega
  have h2 : ((k : Int) + 1).toNat = k + 1 := by omega
  simp only [h1, if_false, h2, nats_len]
  rw [Nat.min_eq_left (by omega), List.take_of_length_le (by simp [nats_len])]
  simp [nats, List.map_drop]
theorem b_without_prefixes (ds : List D) (S : Sto) (Q : QE) (h : P_without_prefixes c ds S Q) : w_without_prefixes c (esDef flCut S Q) (start0 2 ds) S := by
  obtain ⟨w, k, rfl, hk, hz, hq⟩ := h
  unfold w_without_prefixes
  simp_arith only [cut_lo w hk, cut_hi w hk]
  refine bP_mk (szl (by simp only [List.length_take, List.length_drop]; omega)) ?_
  rw [← List.eraseIdx_eq_take_drop_succ]
  exact cut_rfl (ok_tup _ _) hq
theorem foldr_max_le {l : List Nat} {x : Nat} (h : x ∈ l) : x ≤ lmx l := by
  induction l with
  | nil => cases h
  | cons a l ih =>
    show x ≤ max a (lmx l)
    rcases List.mem_cons.mp h with q | q
    · omega
    · have := ih q
      omega
theorem foldr_max_mem : ∀ {l : List Nat}, l ≠ [] → lmx l ∈ l
  | [], h => absurd rfl h
  | [a], _ => by simp [lmx]
  | a :: b :: l, _ => by
    have := foldr_max_mem (l := b :: l) (by simp)
    show max a (lmx (b :: l)) ∈ _
    by_cases q : a ≤ lmx (b :: l)
    · rw [Nat.max_eq_right q]
      exact List.mem_cons_of_mem _ this
    · rw [Nat.max_eq_left (by omega)]
      simp
theorem max_nats {l : List Nat} {m : Int} (h1 : m ∈ l.map fun n : Nat => (n : Int)) (h2 : ∀ y, y ∈ (l.map fun n : Nat => (n : Int)) → y ≤ m) : m = (lmx l : Nat) := by
  obtain ⟨a, ha, rfl⟩ := List.mem_map.mp h1
  have hl : l ≠ [] := fun q => by rw [q] at ha; cases ha
  have h3 := h2 _ (List.mem_map.mpr ⟨_, foldr_max_mem hl, rfl⟩)
  have h4 := foldr_max_le ha
  omega
theorem b_independent (ds : List D) (S : Sto) (Q : QE) (h : P_independent c ds S Q) : w_independent c (esDef flCut S Q) (start0 4 ds) S := by
  obtain ⟨A, a, b, rfl, ha, hb, hq⟩ := h
  unfold w_independent
  simp_arith only [dLs_get ha]
  refine ForP.over _ _ (fun ys ρ S' => S' = S ∧ (∃ z, ρ = [some (dAl c A), some (.int (a : Nat)), some (.int (b : Nat)), z]) ∧ ∀ p ∈ ys, p ∉ pl A b) ⟨rfl, ⟨_, rfl⟩, by simp⟩ (fun ys ρ S' h => trivial) ?_ ?_
  · rintro ys p zs ρ S' hp ⟨rfl, ⟨z, rfl⟩, hi⟩
    simp_arith only [dLs_get hb]
    refine bY_mk (fun h => ?_) (fun h => ?_)
    · 
      try simp_arith only []
      refine cut_rfl (.bl _) ?_
      have : dep A a b = true := dep_iff.mpr ⟨p, by rw [hp]; simp, by simpa using h⟩
      rwa [this] at hq
    · 
      try simp_arith only []
      refine ⟨⟨_, rfl⟩, fun q hq => ?_⟩
      rcases List.mem_append.mp hq with hq | hq
      · exact hi q hq
      · rw [List.mem_singleton.mp hq]
        simpa using h
  · rintro ρ S' ⟨rfl, ⟨z, rfl⟩, hi⟩
    try simp_arith only []
    refine cut_rfl (.bl _) ?_
    have : dep A a b = false := by
      rw [Bool.eq_false_iff, Ne, dep_iff]
      rintro ⟨p, h1, h2⟩
      exact hi p h1 h2
    rwa [this] at hq
theorem dFn_len (A : Al) (f : Nat → Nat) : (dFn A f).length = A.n := by simp [dFn]
theorem asc_len : ∀ {l : List Nat} {n : Nat}, l.Pairwise (· < ·) → (∀ x ∈ l, x < n) → l.length ≤ n := by
  intro l n h1 h2
  have e : l = (List.range n).filter fun x => decide (x ∈ l) := asc_ext h1 ((asc_range n).filter _) fun x => by
    simp only [List.mem_filter, List.mem_range, decide_eq_true_eq]
    exact ⟨fun h => ⟨h2 x h, h⟩, fun h => h.2⟩
  have := List.length_filter_le (fun x => decide (x ∈ l)) (List.range n)
  rw [← e, List.length_range] at this
  exact this
theorem pl_len {A : Al} (o : Ok A) {a : Nat} (h : a < A.n) : (pl A a).length ≤ 1000000 := by
  have := asc_len (o.asc _ (pl_mem h)) (o.lt _ (pl_mem h))
  have := o.k4
  omega
theorem pl_pos {A : Al} (o : Ok A) {a : Nat} (h : a < A.n) : 0 < (pl A a).length := by
  obtain ⟨p, hp⟩ := pl_ne o h
  exact List.length_pos_of_mem hp
theorem ints_map {α : Type} (l : List α) (f : α → Nat) : intsOf (l.map fun p => D.int (f p : Nat)) = some ((l.map f).map fun n : Nat => (n : Int)) := by
  have : (l.map fun p => D.int (f p : Nat)) = ((l.map f).map fun n : Nat => (n : Int)).map D.int := by simp
  rw [this, intsOf_map]
theorem dFn_at {A : Al} (f : Nat → Nat) {b : Nat} (h : b < A.n) : at0 (dFn A f) b = f b := by
  have := at0_get (w := dFn A f) (k := b) (by rw [dFn_len]; exact h)
  unfold dFn at this
  rw [List.getElem?_map, List.getElem?_range h] at this
  exact (Option.some.inj this).symm
theorem rep_nats (n k : Nat) : (List.replicate n [D.int (k : Nat)]).flatten = nats (List.replicate n k) := by
  induction n with
  | zero => rfl
  | succ n ih => rw [List.replicate_succ, List.flatten_cons, ih, List.replicate_succ]; rfl
theorem rep0 (n : Nat) : (List.replicate n [D.int 0]).flatten = nats (List.replicate n 0) := rep_nats n 0
theorem map_const0 (n : Nat) : (List.range n).map (fun _ => 0) = List.replicate n 0 := by
  rw [List.map_const', List.length_range]
theorem okds {n : Nat} {ds : List D} (h : ∀ d ∈ ds, OkD n d) : OkDs n ds := oks_all h
mutual
theorem ok_mono {n m : Nat} (h : n ≤ m) : ∀ {d : D}, OkD n d → OkD m d
  | _, .non => .non
  | _, .bl b => .bl b
  | _, .int i => .int i
  | _, .str x => .str x
  | _, .ref q => .ref (Nat.lt_of_lt_of_le q h)
  | _, .tup q => .tup (oks_mono h q)
  | _, .lst q => .lst (oks_mono h q)
  | _, .rd q => .rd (oks_mono h q)
  | _, .dk q => .dk (oks_mono h q)
  | _, .dt q => .dt (oks_mono h q)
  | _, .ins q => .ins (oks_mono h q)
theorem oks_mono {n m : Nat} (h : n ≤ m) : ∀ {ds : List D}, OkDs n ds → OkDs m ds
  | _, .nil => .nil
  | _, .cons q r => .cons (ok_mono h q) (oks_mono h r)
end
theorem ok_ls (n : Nat) (A : Al) : OkDs n (dLs A) := okds fun d hd => by
  obtain ⟨l, _, rfl⟩ := List.mem_map.mp hd
  exact ok_tup _ _
theorem ok_al (n : Nat) (A : Al) : OkD n (dAl c A) := .ins (.cons (.int _) (.cons (.tup (ok_ls n A)) .nil))
theorem b__law_take (ds : List D) (S : Sto) (Q : QE) (h : P__law_take c ds S Q) : w__law_take c (esDef flCut S Q) (start0 2 ds) S := by
  obtain ⟨l, m, ns, rfl, hm, hl, hq⟩ := h
  unfold w__law_take
  have hlt := (List.getElem?_eq_some_iff.mp hl).1
  unfold drD at hl
  have hm0 : (m : Int) ≠ 0 := by omega
  cases ns with
  | nil =>
    simp_arith only [hl]
    have := hq 0 [] hm
    have e : S.set l (drD []) = S := by
      apply List.ext_getElem?
      intro i
      rw [List.getElem?_set]
      split
      · rename_i q
        subst q
        rw [hl]
        rfl
      · rfl
    rw [e] at this
    exact cut_rfl (.int _) this
  | cons a ns =>
    have e0 : decide ((a :: ns).length = 0) = false := by simp
    have e1 : ((a :: ns).map D.int)[(a :: ns).length - 1]? = some (D.int ((a :: ns).getLast (by simp))) := by
      rw [List.getElem?_map, ← List.getLast?_eq_getElem?, List.getLast?_eq_some_getLast (by simp)]
      rfl
    simp only [List.map_cons, List.length_cons, Nat.add_one_sub_one] at e0 e1 hl
    simp_arith only [hl, e0, e1, hm0, not_false_iff, Nat.add_one_sub_one, Ne]
    generalize hz : (a :: ns).getLast (by simp) = z
    obtain ⟨r, hr1, hr2⟩ : ∃ r : Nat, r < m ∧ z.fmod m = (r : Nat) := by
      have h1 := Int.fmod_nonneg_of_pos z (show (0 : Int) < m by omega)
      have h2 := Int.fmod_lt_of_pos z (show (0 : Int) < m by omega)
      exact ⟨(z.fmod m).toNat, by omega, by omega⟩
    rw [hr2]
    have e3 : (D.int a :: ns.map D.int).dropLast = (a :: ns).dropLast.map D.int := by
      rw [← List.map_cons, List.map_dropLast]
    rw [e3]
    exact cut_set0 (.int _) (oks_ints _ _) (hq r _ hr1)
theorem cm_r {i j : Int} (h1 : -2 ^ 64 < j) (h2 : j < 2 ^ 64) : CMul i j = True := eq_true (.inr ⟨h1, h2⟩)
theorem cm_l {i j : Int} (h1 : -2 ^ 64 < i) (h2 : i < 2 ^ 64) : CMul i j = True := eq_true (.inl ⟨h1, h2⟩)
theorem fmod_b (z : Int) (m : Nat) (h : 0 < m) : 0 ≤ z.fmod m ∧ z.fmod m < m := ⟨Int.fmod_nonneg_of_pos z (by omega), Int.fmod_lt_of_pos z (by omega)⟩
theorem ints_get {l : List Int} {k : Nat} (h : k < l.length) : (l.map D.int)[k]? = some (.int (l.getD k 0)) := by
  rw [List.getElem?_map, List.getElem?_eq_getElem h, List.getD_eq_getElem?_getD, List.getElem?_eq_getElem h]
  rfl
theorem fmod_nat (k n : Nat) : (k : Int).fmod (n : Int) = ((k % n : Nat) : Int) := by
  rw [Int.fmod_eq_emod_of_nonneg _ (by omega)]
  omega
theorem ints_snoc (l : List Int) (z : Int) : l.map D.int ++ [D.int z] = (l ++ [z]).map D.int := by simp
theorem draws_loop {S : Sto} {x y : D} {E : Es} {cs : List Int} (hz : cs.length ≤ 1000) (h0 : cs ≠ []) {m0 : Int} {a b d e : Option D} {side : Sto → Prop} (hside : ∀ S, side S) (hE : ∀ (ρ : Nv) (cs' fs : List Int), fs.length ≤ 400 → (∃ m a b d e, ρ = [some x, some y, some (.ref S.length), some (.ref (S.length + 1)), m, a, b, d, e]) → E.nx ρ (S ++ [Cell.lst (cs'.map D.int), Cell.lst (fs.map D.int)])) :
    ForP ((List.range 400).map fun i => D.int (i : Nat)) side (gN 5)
        (sSeq (sAsg (wB zMod (wV 5) (wZ zLen (wCons (wV 2) wNil))) (gN 6))
          (sSeq (sAsg (wB zIx (wV 2) (wV 6)) (gN 7))
            (sSeq
              (sAsg
                (wB zMod
                  (wZ zInt
                    (wCons
                      (wB zAdd
                        (wB zAdd
                          (wB zAdd (wB zMul (wV 4) (wC (D.int 48271)))
                            (wB zMul (wB zMod (wZ zInt (wCons (wV 7) wNil)) (wC (D.int 1000003))) (wC (D.int 69621))))
                          (wB zMul (wV 5) (wC (D.int 7919))))
                        (wC (D.int 11)))
                      wNil))
                  (wC (D.int 2147483647)))
                (gN 4))
              (sSeq
                (sAsg
                  (wB zMod
                    (wZ zInt
                      (wCons (wB zAdd (wB zAdd (wB zMul (wV 4) (wV 4)) (wB zMul (wC (D.int 31)) (wV 4))) (wV 5)) wNil))
                    (wC (D.int 1000003)))
                  (gN 8))
                (sIf (wTb (wB zGe (wV 7) (wB zPow (wC (D.int 10)) (wC (D.int 18)))))
                  (sSeq
                    (sDrop (wM zAppend (wV 3) (wCons (wB zMod (wZ zInt (wCons (wV 7) wNil)) (wC (D.int 1000))) wNil)))
                    (sAsg (wB zDiv (wV 7) (wC (D.int 1000))) (gIx (wV 2) (wV 6))))
                  (sDrop
                    (wM zAppend (wV 3) (wCons (wB zMod (wZ zInt (wCons (wV 8) wNil)) (wC (D.int 1000))) wNil))))))))
        E
        [some x, some y, some (.ref S.length), some (.ref (S.length + 1)), some (.int m0), a, b, d, e]
        (S ++ [Cell.lst (cs.map D.int), Cell.lst []]) := by
  refine ForP.range _ (fun i ρ S' => (∃ cs' fs : List Int, cs'.length = cs.length ∧ fs.length = i ∧ S' = S ++ [Cell.lst (cs'.map D.int), Cell.lst (fs.map D.int)]) ∧ ∃ (m : Int) (a b d e : Option D), ρ = [some x, some y, some (.ref S.length), some (.ref (S.length + 1)), some (.int m), a, b, d, e]) ⟨⟨cs, [], rfl, rfl, rfl⟩, _, _, _, _, _, rfl⟩ (fun i ρ S' h => hside _) ?_ ?_
  · rintro i ρ S' hi ⟨⟨cs', fs, h1, h2, rfl⟩, m, a, b, d, e, rfl⟩
    have hp : 0 < cs'.length := by
      rw [h1]
      exact List.length_pos_iff.mpr h0
    have hp' : (cs'.length : Int) ≠ 0 := by omega
    have hj : i % cs'.length < cs'.length := Nat.mod_lt _ hp
    have a1 : ∀ z : Int, CMul z 48271 = True := fun z => cm_r (by omega) (by omega)
    have a2 : ∀ z : Int, CMul z 69621 = True := fun z => cm_r (by omega) (by omega)
    have a3 : ∀ z : Int, CMul z 7919 = True := fun z => cm_r (by omega) (by omega)
    have a4 : ∀ z : Int, CMul 31 z = True := fun z => cm_l (by omega) (by omega)
    have a5 : ∀ z : Int, CMul (z.fmod 2147483647) (z.fmod 2147483647) = True := fun z => by
      have h1 := Int.fmod_nonneg_of_pos z (show (0 : Int) < 2147483647 by omega)
      have h2 := Int.fmod_lt_of_pos z (show (0 : Int) < 2147483647 by omega)
      exact cm_l (by omega) (by omega)
    have a6 : CPow 10 18 = True := eq_true ⟨by omega, by omega, by decide⟩
    have a7 : ∀ z : Int, CDivN z 1000 = True := fun z => eq_true ⟨by omega, by decide⟩
    have b1 : ((1000003 : Int) ≠ 0) = True := by simp
    have b2 : ((2147483647 : Int) ≠ 0) = True := by simp
    have b3 : ((1000 : Int) ≠ 0) = True := by simp
    have b4 : (fs.length < PySem.sizeLine) = True := szL _ (by omega)
    simp_arith only [List.length_map, hp', fmod_nat, ints_get hj, b1, b2, b3, a1, a2, a3, a4, a5, a6, a7, b4, ints_snoc, hj, Ne, not_false_iff]
    refine bY_mk (fun _ => ?_) (fun _ => ?_)
    · refine ⟨⟨cs'.set (i % cs'.length) ((cs'.getD (i % cs'.length) 0).fdiv 1000), fs ++ [(cs'.getD (i % cs'.length) 0).fmod 1000], by rw [List.length_set]; exact h1, by simp [h2], ?_⟩, _, _, _, _, _, rfl⟩
      rw [← List.map_set]
    · exact ⟨⟨cs', fs ++ [_], h1, by simp [h2], rfl⟩, _, _, _, _, _, rfl⟩
  · rintro ρ S' ⟨⟨cs', fs, h1, h2, rfl⟩, m, a, b, d, e, rfl⟩
    exact hE _ _ _ (by omega) ⟨_, _, _, _, _, rfl⟩
theorem own_app {S : Sto} {T : List Cell} {Q : QE} {k : Nat} {c : Cell} (hc : T[k]? = some c) (nd : c ≠ .dead ∧ ∀ P q, c ≠ .tab P q) (ok : OkC S.length c) (q : Q (.ref S.length) (S ++ [c])) : flOwn S Q (.ref (S.length + k)) (S ++ T) :=
  ⟨S.length + k, c, rfl, by omega, by rw [g_app]; exact hc, nd, ok, back_app S T, by rw [List.take_left' rfl]; exact q⟩
theorem b__law_draws (ds : List D) (S : Sto) (Q : QE) (h : P__law_draws c ds S Q) : w__law_draws c (esDef flOwn S Q) (start0 9 ds) S := by
  obtain ⟨ns, rfl, hz, hq⟩ := h
  unfold w__law_draws
  have e1 : (-2 ^ 62 ≤ (400 : Int) ∧ (400 : Int) < 2 ^ 62) = True := by simp
  have e2 : rng 0 (Int.toNat 400) = (List.range 400).map fun i : Nat => D.int (i : Nat) := rng_0 400
  simp_arith only [List.length_map, e1, e2]
  refine bY_mk (fun _ => ?_) (fun h => ?_)
  · have := draws_loop (S := S ++ [Cell.lst (ns.map D.int)]) (x := .rd (ns.map D.int)) (y := .int 400) (E := { nx := sSeq (sDrop (wM0 zReverse (wV 3))) (sRet (wV 3)) (esDef flOwn S Q), rt := (esDef flOwn S Q).rt, bk := (esDef flOwn S Q).bk, ct := (esDef flOwn S Q).ct }) (cs := [7]) (by simp) (by simp) (m0 := 12345) (a := none) (b := none) (d := none) (e := none) (side := fun _ => True) (fun _ => trivial) ?_
    · rw [List.append_assoc] at this
      simp only [List.length_append, List.length_cons, List.length_nil, Nat.zero_add, Nat.add_assoc, Nat.reduceAdd] at this
      exact this
    · rintro ρ cs' fs hf ⟨m, a, b, d, e, rfl⟩
      simp_arith only []
      refine own_app (k := 2) rfl (by simp) ?_ ?_
      · rw [← List.map_reverse]
        exact oks_ints _ _
      · rw [← List.map_reverse]
        exact hq _
  · have h0 : ns ≠ [] := fun q => by
      rw [q] at h
      simp at h
    refine draws_loop (S := S) hz h0 (fun _ => trivial) ?_
    rintro ρ cs' fs hf ⟨m, a, b, d, e, rfl⟩
    simp_arith only []
    refine own_app (k := 1) rfl (by simp) ?_ ?_
    · rw [← List.map_reverse]
      exact oks_ints _ _
    · rw [← List.map_reverse]
      exact hq _
theorem b_Alphabet_init (ds : List D) (S : Sto) (Q : QE) (h : P_Alphabet_init c ds S Q) : w_Alphabet_init c (esDef flCut S Q) (start0 5 ds) S := by
  obtain ⟨A, l, rfl, o, hl, hq⟩ := h
  unfold w_Alphabet_init
  have hlt := (List.getElem?_eq_some_iff.mp hl).1
  have e1 : decide ((1 : Int) ≤ (A.k : Nat)) = true := decide_eq_true (by have := o.k1; omega)
  have e2 : decide ((A.k : Int) ≤ 4) = true := decide_eq_true (by have := o.k4; omega)
  have e3 : decide ((1 : Int) ≤ (A.n : Nat)) = true := decide_eq_true (by have := o.n1; omega)
  have e4 : decide ((A.n : Int) ≤ 6) = true := decide_eq_true (by have := o.n6; omega)
  simp_arith only [e1, e2, e3, e4]
  refine ForP.over A.ls (fun l => D.tup (nats l)) (fun ys ρ S' => S' = S ∧ ∃ x, ρ = [some (.ref l), some (.int (A.k : Nat)), some (.lst (dLs A)), some (.bl true), x]) ⟨rfl, _, rfl⟩ (fun ys ρ S' h => trivial) ?_ ?_
  · rintro ys x zs ρ S' hx ⟨rfl, y, rfl⟩
    have hm : x ∈ A.ls := by rw [hx]; simp
    simp_arith only []
    refine ⟨x, A.k, rfl, o.ne _ hm, ?_, o.asc _ hm, o.lt _ hm, ?_⟩
    · have := asc_len (o.asc _ hm) (o.lt _ hm)
      have := o.k4
      omega
    · exact ⟨rfl, _, rfl⟩
  · rintro ρ S' ⟨rfl, y, rfl⟩
    simp_arith only [hl, hlt]
    refine LcP.pure A.ls (fun l => D.tup (nats l)) (fun _ => true) (fun l => D.tup (nats l)) trivial (szl (by have := o.n6; unfold Al.n at this; omega)) (fun x hx X Y hX hY => ?_) ?_
    · simp_arith only []
      exact hX rfl
    · simp_arith only [hlt]
      exact cut_set0 .non (.cons (.int _) (.cons (.tup (ok_ls _ A)) .nil)) hq
theorem mask_bit {A : Al} (a j : Nat) : ∀ n : Nat, (maskOf A a n).testBit j = (decide (j < n) && dep A a j)
  | 0 => by simp [maskOf]
  | n + 1 => by
    have ih := mask_bit (A := A) a j n
    unfold maskOf
    have e : (1 <<< n).testBit j = decide (n = j) := by
      rw [Nat.shiftLeft_eq, Nat.one_mul, Nat.testBit_two_pow]
    by_cases d : dep A a n = true
    · rw [if_pos d, Nat.testBit_or, ih, e]
      by_cases q : n = j
      · subst q
        simp [d]
      · have : decide (j < n + 1) = decide (j < n) := by rw [decide_eq_decide]; omega
        rw [this, decide_eq_false q, Bool.or_false]
    · rw [if_neg d, ih]
      by_cases q : n = j
      · subst q
        simp [d]
      · have : decide (j < n + 1) = decide (j < n) := by rw [decide_eq_decide]; omega
        rw [this]
theorem b_masks (ds : List D) (S : Sto) (Q : QE) (h : P_masks c ds S Q) : w_masks c (esDef flCut S Q) (start0 5 ds) S := by
  obtain ⟨A, rfl, o, hq⟩ := h
  unfold w_masks
  simp_arith only [szN o]
  refine ForP.range _ (fun i ρ S' => S' = S ++ [Cell.lst (nats ((List.range i).map fun a => maskOf A a A.n))] ∧ ∃ x y z, ρ = [some (dAl c A), some (.ref S.length), x, y, z]) ⟨rfl, _, _, _, rfl⟩ (fun i ρ S' h => trivial) ?_ ?_
  · rintro i ρ S' hi ⟨rfl, x, y, z, rfl⟩
    simp_arith only [szN o]
    refine ForP.range _ (fun j ρ S' => S' = S ++ [Cell.lst (nats ((List.range i).map fun a => maskOf A a A.n))] ∧ ∃ z, ρ = [some (dAl c A), some (.ref S.length), some (.int (i : Nat)), some (.int (maskOf A i j : Nat)), z]) ⟨rfl, _, rfl⟩ (fun i ρ S' h => trivial) ?_ ?_
    · rintro j ρ S' hj ⟨rfl, z, rfl⟩
      simp_arith only []
      refine ⟨A, i, j, rfl, hi, hj, ?_⟩
      have cp : CPow 1 (j : Nat) = True := eq_true ⟨by omega, by have := o.n6; omega, by decide⟩
      rw [show maskOf A i (j + 1) = if dep A i j = true then maskOf A i j ||| (1 <<< j) else maskOf A i j from rfl]
      cases d : dep A i j with
      | true =>
        simp_arith only [cp, shl_cast', bor_cast]
        exact ⟨_, rfl⟩
      | false =>
        simp_arith only [Bool.false_eq_true, if_false]
        exact ⟨_, rfl⟩
    · rintro ρ S' ⟨rfl, z, rfl⟩
      simp_arith only [List.length_map, List.length_range]
      refine bP_mk (szlt (by have := o.n6; omega)) ⟨?_, _, _, _, rfl⟩
      rw [List.range_succ, List.map_append]
      rfl
  · rintro ρ S' ⟨rfl, x, y, z, rfl⟩
    simp_arith only []
    exact cut_app (ok_lst _ _) hq
theorem rg_down {n : Nat} (h : n ≤ 1000) : RgC ((n : Int) - 1) (-1) (-1) n := by
  have e : Builtin.Range.rangeSize ((n : Int) - 1) (-1) (-1) = n := by
    unfold Builtin.Range.rangeSize
    rw [if_neg (by omega)]
    split
    · rw [show (-(-1) : Int) = 1 from rfl, Int.ediv_one]
      omega
    · omega
  refine ⟨by omega, by decide, ?_, e⟩
  unfold Builtin.Range.small
  rw [e]
  unfold Builtin.Range.rangeFitsLong
  simp
  omega
noncomputable def dnG (A : Al) (w E : List Nat) (m : Nat) : List Nat := (dn A w E).filter fun i => decide (m ≤ i)
open Classical in
theorem dnG_len {A : Al} {w E : List Nat} (m : Nat) : (dnG A w E m).length ≤ w.length := by
  have h1 := List.length_filter_le (fun i => decide (m ≤ i)) (dn A w E)
  unfold dn at h1
  have h2 := List.length_filter_le (fun i => decide (Dn A w E i)) (List.range w.length)
  rw [List.length_range] at h2
  unfold dnG dn
  omega
theorem dnG_lt {A : Al} {w E : List Nat} {m j : Nat} (h : j ∈ dnG A w E m) : j < w.length := (dn_mem.mp (List.mem_filter.mp h).1).lt
theorem dnG_step {A : Al} {w E : List Nat} {m : Nat} (hm : m < w.length) : dnG A w E m = if (decide (m ∈ E) || (dnG A w E (m + 1)).any fun j => dep A (at0 w m) (at0 w j)) = true then m :: dnG A w E (m + 1) else dnG A w E (m + 1) := by
  have key : (decide (m ∈ E) || (dnG A w E (m + 1)).any fun j => dep A (at0 w m) (at0 w j)) = true ↔ Dn A w E m := by
    rw [Bool.or_eq_true, decide_eq_true_eq, List.any_eq_true, Dn.inv]
    constructor
    · rintro (h | ⟨j, h1, h2⟩)
      · exact ⟨hm, .inl h⟩
      · have h1 := List.mem_filter.mp h1
        exact ⟨hm, .inr ⟨j, by have := of_decide_eq_true h1.2; omega, h2, dn_mem.mp h1.1⟩⟩
    · rintro ⟨_, h | ⟨j, h1, h2, h3⟩⟩
      · exact .inl h
      · exact .inr ⟨j, List.mem_filter.mpr ⟨dn_mem.mpr h3, decide_eq_true h1⟩, h2⟩
  by_cases h : Dn A w E m
  · rw [if_pos (key.mpr h)]
    refine asc_ext (dn_asc.filter _) ?_ fun x => ?_
    · rw [List.pairwise_cons]
      refine ⟨fun y hy => ?_, dn_asc.filter _⟩
      have := of_decide_eq_true (List.mem_filter.mp hy).2
      omega
    · unfold dnG
      simp only [List.mem_filter, List.mem_cons, decide_eq_true_eq, dn_mem]
      constructor
      · rintro ⟨h1, h2⟩
        by_cases q : x = m
        · exact .inl q
        · exact .inr ⟨h1, by omega⟩
      · rintro (q | ⟨h1, h2⟩)
        · subst q
          exact ⟨h, Nat.le_refl _⟩
        · exact ⟨h1, by omega⟩
  · rw [if_neg (fun q => h (key.mp q))]
    refine asc_ext (dn_asc.filter _) (dn_asc.filter _) fun x => ?_
    unfold dnG
    simp only [List.mem_filter, decide_eq_true_eq, dn_mem]
    constructor
    · rintro ⟨h1, h2⟩
      by_cases q : x = m
      · exact absurd (q ▸ h1) h
      · exact ⟨h1, by omega⟩
    · rintro ⟨h1, h2⟩
      exact ⟨h1, by omega⟩
theorem b_below_all (ds : List D) (S : Sto) (Q : QE) (h : P_below_all c ds S Q) : w_below_all c (esDef flCut S Q) (start0 7 ds) S := by
  obtain ⟨A, w, y, E, rfl, hy, hw, hq⟩ := h
  unfold w_below_all
  simp_arith only []
  refine ⟨_, rg_down hw.z, ?_⟩
  refine ForP.rangeH _ _ (fun i ρ S' => S' = S ++ [Cell.lst (nats (dnG A w E (w.length - i)).reverse)] ∧ ∃ a b d, ρ = [some (dAl c A), some (.tup (nats w)), some y, some (.ref S.length), a, b, d]) ⟨?_, _, _, _, rfl⟩ (fun i ρ S' h => trivial) ?_ ?_
  · have : dnG A w E (w.length - 0) = [] := by
      unfold dnG
      rw [List.filter_eq_nil_iff]
      intro x hx
      have := (dn_mem.mp hx).lt
      simp
      omega
    rw [this]
    rfl
  · rintro i ρ S' hi ⟨rfl, a, b, d, rfl⟩
    have e1 : (w.length : Int) - 1 + (i : Nat) * -1 = ((w.length - 1 - i : Nat) : Int) := by omega
    generalize hm : w.length - 1 - i = m at e1
    have hml : m < w.length := by omega
    have e2 : w.length - i = m + 1 := by omega
    have e3 : w.length - (i + 1) = m := by omega
    simp_arith only [e1, seq_app hy, e2, e3]
    refine ForP.over (dnG A w E (m + 1)).reverse (fun n : Nat => D.int (n : Nat)) (fun qs ρ S' => S' = S ++ [Cell.lst (nats (dnG A w E (m + 1)).reverse)] ∧ ∃ d, ρ = [some (dAl c A), some (.tup (nats w)), some y, some (.ref S.length), some (.int (m : Nat)), some (.bl (decide (m ∈ E) || qs.any fun j => dep A (at0 w m) (at0 w j))), d]) ⟨rfl, d, by simp⟩ (fun ys ρ S' h => by obtain ⟨rfl, _⟩ := h; simp_arith only []) ?_ ?_
    · rintro qs j rs ρ S' hx ⟨rfl, d, rfl⟩
      have hj : j ∈ dnG A w E (m + 1) := List.mem_reverse.mp (by rw [hx]; simp)
      have hjl := dnG_lt hj
      have hmj : m < j := of_decide_eq_true (List.mem_filter.mp hj).2
      simp_arith only []
      refine bY_mk (fun h => ?_) (fun h => ?_)
      · rw [List.any_append, ← Bool.or_assoc, h]
        exact ⟨_, rfl⟩
      · simp_arith only [decide_eq_true hmj, nats_at hml, nats_at hjl]
        refine ⟨A, at0 w m, at0 w j, rfl, at0_lt hw.w hml, at0_lt hw.w hjl, ?_⟩
        try simp_arith only []
        rw [List.any_append, ← Bool.or_assoc, h]
        simp only [Bool.false_or, List.any_cons, List.any_nil, Bool.or_false, Bool.not_not]
        exact ⟨_, rfl⟩
    · rintro ρ S' ⟨rfl, d, rfl⟩
      simp_arith only []
      have hz := hw.z
      have hl := dnG_len (A := A) (w := w) (E := E) (m + 1)
      have hd := dnG_step (A := A) (w := w) (E := E) hml
      rw [List.any_reverse]
      refine bY_mk (fun h => ?_) (fun h => ?_)
      · rw [if_pos h] at hd
        rw [hd, List.reverse_cons]
        simp_arith only [List.length_reverse, szL (dnG A w E (m + 1)).length (by omega)]
        exact ⟨_, _, _, rfl⟩
      · rw [if_neg (by rw [h]; simp)] at hd
        rw [hd]
        exact ⟨rfl, _, _, _, rfl⟩
  · rintro ρ S' ⟨rfl, a, b, d, rfl⟩
    simp_arith only []
    have : dnG A w E (w.length - w.length) = dn A w E := by
      rw [Nat.sub_self]
      exact List.filter_eq_self.mpr fun x _ => decide_eq_true (Nat.zero_le _)
    rw [this, List.reverse_reverse]
    exact cut_app (ok_lst _ _) hq
theorem b_is_below (ds : List D) (S : Sto) (Q : QE) (h : P_is_below c ds S Q) : w_is_below c (esDef flCut S Q) (start0 4 ds) S := by
  obtain ⟨A, w, i, j, rfl, hw, hq⟩ := h
  unfold w_is_below
  simp_arith only []
  refine ⟨A, w, _, [j], rfl, rfl, hw, ?_⟩
  simp_arith only []
  exact cut_rfl (.bl _) hq
theorem b_first_letters (ds : List D) (S : Sto) (Q : QE) (h : P_first_letters c ds S Q) : w_first_letters c (esDef flCut S Q) (start0 6 ds) S := by
  obtain ⟨A, x, w, rfl, hx, hw, hq⟩ := h
  unfold w_first_letters
  simp_arith only []
  refine ⟨A, rfl, hw.o, ?_⟩
  simp_arith only [seq_app hx, sz4 _ hw.z]
  refine ForP.range _ (fun i ρ S' => S' = S ++ [Cell.lst (nats ((fl A w).filter fun k => decide (k < i)))] ∧ ∃ (z : Option D) (b : Nat), (∀ a, a < A.n → b.testBit a = (List.range i).any fun j => dep A (at0 w j) a) ∧ ρ = [some (dAl c A), some x, some (.ref S.length), some (.int (b : Nat)), some (.lst (nats (dFn A fun a => maskOf A a A.n))), z]) ⟨?_, _, 0, ?_, rfl⟩ (fun i ρ S' h => trivial) ?_ ?_
  · have : (fl A w).filter (fun k => decide (k < 0)) = [] := by simp
    rw [this]
    rfl
  · simp
  · rintro i ρ S' hi ⟨rfl, z, b, hb, rfl⟩
    have ha := at0_lt hw.w hi
    have hm : at0 w i < (dFn A fun a => maskOf A a A.n).length := by rw [dFn_len]; exact ha
    have e1 : at0 w i ∈ List.range A.n := List.mem_range.mpr ha
    have hz := hw.z
    simp_arith only [seq_app hx, nats_at hi, nats_at hm, dFn_at _ ha, shr_cast', eq_true (show (0 : Int) ≤ (at0 w i : Nat) by omega), bit_0, hb _ ha, bor_cast]
    have key : (!(List.range i).any fun j => dep A (at0 w j) (at0 w i)) = decide (i ∈ fl A w) := by
      rw [Bool.eq_iff_iff, decide_eq_true_eq, fl_iff, Bool.not_eq_true', List.any_eq_false]
      simp [hi]
    have hb' : ∀ a, a < A.n → (b ||| maskOf A (at0 w i) A.n).testBit a = (List.range (i + 1)).any fun j => dep A (at0 w j) a := fun a ha => by
      rw [Nat.testBit_or, hb a ha, mask_bit, decide_eq_true ha, Bool.true_and, List.range_succ, List.any_append]
      simp
    have hlen : ((fl A w).filter fun k => decide (k < i)).length < PySem.sizeLine := by
      refine szlt ?_
      have h1 := List.length_filter_le (fun k => decide (k < i)) (fl A w)
      unfold fl at h1
      have h2 := List.length_filter_le (fun k => (List.range k).all fun j => !dep A (at0 w j) (at0 w k)) (List.range w.length)
      rw [List.length_range] at h2
      unfold fl
      omega
    have hasc : (fl A w).Pairwise (· < ·) := (asc_range _).filter _
    rw [key]
    refine bY_mk (fun h => ?_) (fun h => ?_)
    · have h := of_decide_eq_true h
      refine bP_mk hlen ⟨?_, _, _, hb', rfl⟩
      have : (fl A w).filter (fun k => decide (k < i)) ++ [i] = (fl A w).filter fun k => decide (k < i + 1) := by
        refine asc_ext ?_ (hasc.filter _) fun y => ?_
        · rw [List.pairwise_append]
          refine ⟨hasc.filter _, List.pairwise_singleton _ _, fun y hy z hz => ?_⟩
          rw [List.mem_singleton.mp hz]
          exact of_decide_eq_true (List.mem_filter.mp hy).2
        · simp only [List.mem_append, List.mem_filter, List.mem_singleton, decide_eq_true_eq]
          constructor
          · rintro (⟨h1, h2⟩ | h1)
            · exact ⟨h1, by omega⟩
            · subst h1
              exact ⟨h, by omega⟩
          · rintro ⟨h1, h2⟩
            by_cases q : y = i
            · exact .inr q
            · exact .inl ⟨h1, by omega⟩
      rw [this]
    · have h := of_decide_eq_false h
      refine ⟨?_, _, _, hb', rfl⟩
      have : (fl A w).filter (fun k => decide (k < i)) = (fl A w).filter fun k => decide (k < i + 1) := by
        refine List.filter_congr fun y hy => ?_
        rw [decide_eq_decide]
        have : y ≠ i := fun q => h (q ▸ hy)
        omega
      rw [this]
  · rintro ρ S' ⟨rfl, z, b, hb, rfl⟩
    simp_arith only []
    have : (fl A w).filter (fun k => decide (k < w.length)) = fl A w := List.filter_eq_self.mpr fun y hy => decide_eq_true (fl_iff.mp hy).1
    rw [this]
    exact cut_app (ok_lst _ _) hq
theorem b_least_form (ds : List D) (S : Sto) (Q : QE) (h : P_least_form c ds S Q) : w_least_form c (esDef flCut S Q) (start0 6 ds) S := by
  obtain ⟨A, x, w, rfl, hx, hw, hq⟩ := h
  unfold w_least_form
  simp_arith only [hx]
  refine WhP.inv (fun m ρ S' => ∃ v fd : List Nat, S' = S ++ [Cell.lst (nats v), Cell.lst (nats fd)] ∧ v.length = m ∧ Wo A v ∧ fd ++ lf A v = lf A w ∧ fd.length + v.length = w.length ∧ ∃ y z, ρ = [some (dAl c A), some x, some (.ref S.length), some (.ref (S.length + 1)), y, z]) w.length ⟨w, [], rfl, rfl, hw.w, rfl, by simp, _, _, rfl⟩ ?_
  rintro m ρ S' ⟨v, fd, rfl, hv, hwo, hfd, hln, y, z, rfl⟩
  have hz := hw.z
  simp_arith only []
  refine bY_mk (fun h => ?_) (fun h => ?_)
  · have hpos := of_decide_eq_true h
    refine ⟨A, _, v, rfl, by simp_arith only [], ⟨hw.o, by omega, hwo⟩, ?_⟩
    simp_arith only []
    refine ForP.over (fl A v) (fun n : Nat => D.int (n : Nat)) (fun ys ρ S' => S' = S ++ [Cell.lst (nats v), Cell.lst (nats fd)] ∧ ∃ b : Int, ((ys = [] ∧ b = -1) ∨ ∃ k : Nat, b = k ∧ k ∈ fl A v ∧ ∀ j ∈ ys, at0 v k ≤ at0 v j) ∧ ∃ z, ρ = [some (dAl c A), some x, some (.ref S.length), some (.ref (S.length + 1)), some (.int b), z]) ⟨rfl, -1, .inl ⟨rfl, rfl⟩, _, rfl⟩ (fun ys ρ S' h => trivial) ?_ ?_
    · rintro ys k zs ρ S' hk ⟨rfl, b, hb, z, rfl⟩
      have hkf : k ∈ fl A v := by rw [hk]; simp
      have hkl := (fl_iff.mp hkf).1
      rcases hb with ⟨rfl, rfl⟩ | ⟨b, rfl, hbf, hbl⟩
      · simp_arith only [show decide ((-1 : Int) < 0) = true from rfl]
        refine ⟨_, .inr ⟨k, rfl, hkf, ?_⟩, _, rfl⟩
        simp
      · have hbl' := (fl_iff.mp hbf).1
        simp_arith only [nats_at hkl, nats_at hbl']
        refine bY_mk (fun h => ?_) (fun h => ?_)
        · have h := of_decide_eq_true h
          refine ⟨_, .inr ⟨k, rfl, hkf, fun j hj => ?_⟩, _, rfl⟩
          rcases List.mem_append.mp hj with q | q
          · have := hbl j q
            omega
          · rw [List.mem_singleton.mp q]
            exact Nat.le_refl _
        · have h := of_decide_eq_false h
          refine ⟨_, .inr ⟨b, rfl, hbf, fun j hj => ?_⟩, _, rfl⟩
          rcases List.mem_append.mp hj with q | q
          · exact hbl j q
          · rw [List.mem_singleton.mp q]
            omega
    · rintro ρ S' ⟨rfl, b, hb, z, rfl⟩
      rcases hb with ⟨e, rfl⟩ | ⟨b, rfl, hbf, hbl⟩
      · exfalso
        have : 0 ∈ fl A v := fl_iff.mpr ⟨hpos, fun j hj => by omega⟩
        rw [e] at this
        cases this
      · have hbl' := (fl_iff.mp hbf).1
        have hlr : lr A v = some (at0 v b) := lr_is (at0_lt hwo hbl') (fl_split hw.o hwo hbf).1 fun a ha hr => by
          obtain ⟨k, hk1, hk2⟩ := fl_of hw.o hwo ha hr
          rw [← hk2]
          exact hbl k hk1
        have e63 : (-(2 ^ 63) ≤ (b : Int) ∧ (b : Int) < 2 ^ 63) = True := eq_true (by omega)
        simp_arith only [e63, hbl', nats_at hbl', szL fd.length (by omega)]
        refine ⟨v.length - 1, by omega, _, _, rfl, ?_, ?_, ?_, ?_, _, _, rfl⟩
        · rw [List.length_eraseIdx_of_lt hbl']
        · rw [(fl_split hw.o hwo hbf).2]
          exact fun a ha => hwo a (List.mem_of_mem_erase ha)
        · rw [(fl_split hw.o hwo hbf).2, ← hfd, lf_step hw.o hlr, List.append_assoc]
          rfl
        · rw [List.length_eraseIdx_of_lt hbl', List.length_append]
          simp only [List.length_cons, List.length_nil]
          omega
  · have h := of_decide_eq_false h
    have : v = [] := List.length_eq_zero_iff.mp (by omega)
    subst this
    rw [lf_nil, List.append_nil] at hfd
    simp_arith only [hfd]
    exact cut_app (ok_tup _ _) hq
theorem fpl_some {A : Al} (o : Ok A) {w : List Nat} (hw : Wo A w) {a k : Nat} (h : fpl A w a = some k) : k < w.length ∧ rdy A w a = true ∧ w.eraseIdx k = w.erase a ∧ at0 w k = a := by
  have h : (fl A w).find? (fun k => decide (at0 w k = a)) = some k := h
  have h1 := List.mem_of_find?_eq_some h
  have h2 := List.find?_some h
  have h2 : at0 w k = a := by simpa using h2
  have h3 := fl_split o hw h1
  rw [h2] at h3
  exact ⟨(fl_iff.mp h1).1, h3.1, h3.2, h2⟩
theorem fpl_none {A : Al} (o : Ok A) {w : List Nat} (hw : Wo A w) {a : Nat} (ha : a < A.n) (h : fpl A w a = none) : rdy A w a = false := by
  cases e : rdy A w a with
  | false => rfl
  | true =>
    obtain ⟨k, hk1, hk2⟩ := fl_of o hw ha e
    have := List.find?_eq_none.mp h k hk1
    rw [hk2] at this
    simp at this
theorem b_first_place (ds : List D) (S : Sto) (Q : QE) (h : P_first_place c ds S Q) : w_first_place c (esDef flCut S Q) (start0 4 ds) S := by
  obtain ⟨A, w, a, rfl, hw, hq⟩ := h
  unfold w_first_place
  simp_arith only []
  refine ⟨A, _, w, rfl, rfl, hw, ?_⟩
  simp_arith only []
  refine ForP.over (fl A w) (fun n : Nat => D.int (n : Nat)) (fun ys ρ S' => S' = S ∧ (∀ k ∈ ys, at0 w k ≠ a) ∧ ∃ z, ρ = [some (dAl c A), some (.tup (nats w)), some (.int (a : Nat)), z]) ⟨rfl, by simp, _, rfl⟩ (fun ys ρ S' h => trivial) ?_ ?_
  · rintro ys k zs ρ S' hk ⟨rfl, hd, z, rfl⟩
    have hkf : k ∈ fl A w := by rw [hk]; simp
    have hkl := (fl_iff.mp hkf).1
    simp_arith only [nats_at hkl]
    refine bY_mk (fun h => ?_) (fun h => ?_)
    · refine cut_rfl (.int _) ?_
      have : fpl A w a = some k := by
        unfold fpl
        rw [hk, List.find?_append, List.find?_cons, h]
        have : ys.find? (fun k => decide (at0 w k = a)) = none := by
          rw [List.find?_eq_none]
          intro x hx
          simpa using hd x hx
        rw [this]
        rfl
      rw [this] at hq
      exact hq
    · refine ⟨fun j hj => ?_, _, rfl⟩
      rcases List.mem_append.mp hj with q | q
      · exact hd j q
      · rw [List.mem_singleton.mp q]
        exact of_decide_eq_false h
  · rintro ρ S' ⟨rfl, hd, z, rfl⟩
    simp_arith only []
    have : fpl A w a = none := by
      unfold fpl
      rw [List.find?_eq_none]
      intro x hx
      simpa using hd x hx
    rw [this] at hq
    exact cut_rfl (.int _) hq
theorem b_rest (ds : List D) (S : Sto) (Q : QE) (h : P_rest c ds S Q) : w_rest c (esDef flCut S Q) (start0 6 ds) S := by
  obtain ⟨A, u, v, r, rfl, hv, he, hq⟩ := h
  unfold w_rest
  simp_arith only []
  refine ForP.over u (fun n : Nat => D.int (n : Nat)) (fun ys ρ S' => S' = S ∧ ∃ x : List Nat, x.length ≤ 1000 ∧ (∀ zs, u = ys ++ zs → Eqv A x (zs ++ r)) ∧ ∃ a b, ρ = [some (dAl c A), some (.tup (nats u)), some (.tup (nats v)), some (.tup (nats x)), a, b]) ⟨rfl, v, hv.z, fun zs h => by rw [h] at he; exact he, _, _, rfl⟩ (fun ys ρ S' h => trivial) ?_ ?_
  · rintro ys a zs ρ S' hu ⟨rfl, x, hx, hxe, y, z, rfl⟩
    have h1 := hxe (a :: zs) hu
    have ha : a < A.n := h1.r.cons.1
    simp_arith only []
    refine ⟨A, x, a, rfl, ⟨hv.o, hx, h1.l⟩, ?_⟩
    have hr : rdy A x a = true := by rw [h1.rdy]; exact rdy_head
    cases e : fpl A x a with
    | none =>
      rw [fpl_none hv.o h1.l ha e] at hr
      cases hr
    | some k =>
      obtain ⟨k1, k2, k3, k4⟩ := fpl_some hv.o h1.l e
      simp_arith only [optI]
      refine ⟨x, k, rfl, k1, hx, ?_⟩
      rw [k3]
      simp_arith only []
      refine ⟨x.erase a, ?_, fun zs' h' => ?_, _, _, rfl⟩
      · have := List.length_erase_le (a := a) (l := x)
        omega
      · have : zs' = zs := by
          have := hu.symm.trans h'
          exact (List.cons.inj (List.append_cancel_left this)).2.symm
        rw [this]
        exact ((rdy_erase hv.o h1.l ha hr).symm.trans h1).tail
  · rintro ρ S' ⟨rfl, x, hx, hxe, y, z, rfl⟩
    have h1 := hxe [] (by simp)
    simp_arith only []
    refine ⟨A, _, x, rfl, rfl, ⟨hv.o, hx, h1.l⟩, ?_⟩
    rw [lf_cong hv.o h1]
    exact cut_rfl (ok_tup _ _) hq
theorem take_mid (ys zs : List Nat) (a : Nat) : (ys ++ a :: zs).take ys.length = ys ∧ at0 (ys ++ a :: zs) ys.length = a := by
  refine ⟨List.take_left' rfl, ?_⟩
  unfold at0
  rw [List.getD_eq_getElem?_getD, List.getElem?_append_right (Nat.le_refl _), Nat.sub_self]
  rfl
theorem map_dFn (A : Al) (f : Nat → Nat) : (List.range A.n).map (fun b => D.int (f b : Nat)) = nats (dFn A f) := by simp [nats, dFn]
theorem at0_set {l : List Nat} {i j v : Nat} (h : i < l.length) : at0 (l.set i v) j = if i = j then v else at0 l j := by
  unfold at0
  rw [List.getD_eq_getElem?_getD, List.getD_eq_getElem?_getD, List.getElem?_set]
  by_cases q : i = j
  · subst q
    simp [h]
  · simp [q]
theorem list_at0 {l m : List Nat} (h : l.length = m.length) (k : ∀ i, i < l.length → at0 l i = at0 m i) : l = m := by
  apply List.ext_getElem?
  intro i
  by_cases hi : i < l.length
  · rw [at0_get hi, at0_get (by omega), k i hi]
  · rw [List.getElem?_eq_none (by omega), List.getElem?_eq_none (by omega)]
def LS (L : Nat → List D) (n : Nat) : List Cell := (List.range n).map fun p => Cell.lst (L p)
def refs (b n : Nat) : List D := (List.range' b n).map D.ref
theorem LS_len (L : Nat → List D) (n : Nat) : (LS L n).length = n := by simp [LS]
theorem LS_succ (L : Nat → List D) (n : Nat) : LS L (n + 1) = LS L n ++ [Cell.lst (L n)] := by simp [LS, List.range_succ]
theorem refs_len (b n : Nat) : (refs b n).length = n := by simp [refs]
theorem refs_succ (b n : Nat) : refs b (n + 1) = refs b n ++ [D.ref (b + n)] := by simp [refs, List.range'_concat]
theorem refs_get {b n p : Nat} (h : p < n) : (refs b n)[p]? = some (.ref (b + p)) := by
  unfold refs
  rw [List.getElem?_map, List.getElem?_range' h]
  simp
theorem LS_get (S : Sto) (L : Nat → List D) {n p : Nat} (T : List Cell) (h : p < n) : (S ++ (LS L n ++ T))[S.length + p]? = some (Cell.lst (L p)) := by
  rw [g_app, List.getElem?_append_left (by rw [LS_len]; exact h)]
  unfold LS
  rw [List.getElem?_map, List.getElem?_range h]
  rfl
theorem LS_set (S : Sto) (L : Nat → List D) {n p : Nat} (T : List Cell) (h : p < n) (d : List D) : (S ++ (LS L n ++ T)).set (S.length + p) (Cell.lst d) = S ++ (LS (fun q => if q = p then d else L q) n ++ T) := by
  rw [s_app, List.set_append_left _ _ (by rw [LS_len]; exact h)]
  congr 2
  apply List.ext_getElem?
  intro i
  unfold LS
  rw [List.getElem?_set, List.getElem?_map, List.getElem?_map]
  by_cases hi : i < n
  · rw [List.getElem?_range hi]
    by_cases q : p = i
    · subst q
      simp [hi]
    · have : ¬ i = p := fun z => q z.symm
      simp [q, this]
  · rw [List.getElem?_eq_none (by simp; omega)]
    by_cases q : p = i
    · omega
    · simp [q]
theorem LS_top (S : Sto) (L : Nat → List D) (n : Nat) (x : Cell) (T : List Cell) : (S ++ (LS L n ++ x :: T))[S.length + n]? = some x := by
  rw [g_app, List.getElem?_append_right (by rw [LS_len]; exact Nat.le_refl _), LS_len, Nat.sub_self]
  rfl
theorem LS_get' (L : Nat → List D) {n p : Nat} (T : List Cell) (h : p < n) : (LS L n ++ T)[p]? = some (Cell.lst (L p)) := by
  have := LS_get [] L T h
  simpa using this
theorem LS_set' (L : Nat → List D) {n p : Nat} (T : List Cell) (h : p < n) (d : List D) : (LS L n ++ T).set p (Cell.lst d) = LS (fun q => if q = p then d else L q) n ++ T := by
  have := LS_set [] L T h d
  simpa using this
theorem LS_top' (L : Nat → List D) (n : Nat) (x : Cell) (T : List Cell) : (LS L n ++ x :: T)[n]? = some x := by
  have := LS_top [] L n x T
  simpa using this
theorem LS_cong {L M : Nat → List D} {n : Nat} (h : ∀ p, p < n → L p = M p) : LS L n = LS M n := List.map_congr_left fun p hp => by rw [h p (List.mem_range.mp hp)]
theorem frz_row : ∀ (Ls : List (List D)) (P T : List Cell), FrzAll (refs P.length Ls.length) (P ++ (Ls.map Cell.lst ++ T)) (Ls.map D.lst) (P ++ (List.replicate Ls.length Cell.dead ++ T))
  | [], P, T => .nil
  | L :: Ls, P, T => by
    have ih := frz_row Ls (P ++ [Cell.dead]) T
    rw [List.length_append, List.length_singleton, List.append_assoc, List.append_assoc] at ih
    have e1 : refs P.length (L :: Ls).length = D.ref P.length :: refs (P.length + 1) Ls.length := by
      unfold refs
      rw [List.length_cons, List.range'_succ]
      rfl
    rw [e1]
    refine .cons (c := .lst L) (d := .lst L) ?_ rfl ?_
    · rw [g_app0]
      rfl
    · rw [s_app0]
      have e2 : (List.map Cell.lst (L :: Ls) ++ T).set 0 Cell.dead = [Cell.dead] ++ (List.map Cell.lst Ls ++ T) := rfl
      have e3 : List.replicate (L :: Ls).length Cell.dead ++ T = [Cell.dead] ++ (List.replicate Ls.length Cell.dead ++ T) := rfl
      rw [e2, e3]
      exact ih
/-! logs -/
def KB (kvs : List (Key × D)) (ks : List Nat) : Prop := kvs.map (·.1) = ks.map fun n : Nat => (Sum.inl (n : Int) : Key)
theorem KB.keys : ∀ {kvs : List (Key × D)} {ks : List Nat}, KB kvs ks → intKeys kvs = some (ks.map fun n : Nat => (n : Int))
  | [], [], _ => rfl
  | [], _ :: _, h => by cases h
  | _ :: _, [], h => by cases h
  | (k, d) :: r, n :: ks, h => by
    simp only [KB, List.map_cons, List.cons.injEq] at h
    obtain ⟨h1, h2⟩ := h
    subst h1
    have := KB.keys (kvs := r) (ks := ks) h2
    simp [intKeys, this]
theorem KB.len {kvs : List (Key × D)} {ks : List Nat} (h : KB kvs ks) : kvs.length = ks.length := by
  have := congrArg List.length h
  simpa using this
theorem KB.put {d : D} {n : Nat} : ∀ {kvs : List (Key × D)} {ks : List Nat}, KB kvs ks → KB (putK' (.inl (n : Int)) d kvs) (if n ∈ ks then ks else ks ++ [n])
  | [], [], _ => by simp [putK', KB]
  | [], _ :: _, h => by cases h
  | _ :: _, [], h => by cases h
  | (k, e) :: r, m :: ks, h => by
    simp only [KB, List.map_cons, List.cons.injEq] at h
    obtain ⟨h1, h2⟩ := h
    subst h1
    have ih := KB.put (d := d) (n := n) (kvs := r) (ks := ks) h2
    by_cases q : m = n
    · subst q
      simp only [putK', if_true, List.mem_cons, true_or]
      show List.map _ _ = _
      rw [List.map_cons, List.map_map, List.map_cons]
      congr 1
      rw [← h2]
      refine List.map_congr_left fun kv _ => ?_
      show (if kv.1 = _ then (kv.1, d) else kv).1 = kv.1
      split <;> rfl
    · have q1 : (Sum.inl (m : Int) : Key) ≠ Sum.inl (n : Int) := fun z => q (by have := Sum.inl.inj z; omega)
      have q2 : (n ∈ m :: ks) ↔ n ∈ ks := by
        rw [List.mem_cons]
        exact ⟨fun z => z.elim (fun z => absurd z.symm q) id, .inr⟩
      simp only [putK', if_neg q1, q2]
      split
      · rename_i z
        rw [if_pos z] at ih
        show List.map _ _ = _
        rw [List.map_cons, List.map_cons]
        congr 1
      · rename_i z
        rw [if_neg z] at ih
        show List.map _ _ = _
        rw [List.map_cons, List.cons_append, List.map_cons]
        congr 1
theorem perm_asc {ks : List Nat} (hn : ks.Nodup) {ys : List Int} (hp : ys.Perm (ks.map fun n : Nat => (n : Int))) (hs : ys.Pairwise (· ≤ ·)) : ∃ l : List Nat, ys.map D.int = nats l ∧ l.Pairwise (· < ·) ∧ ∀ x, x ∈ l ↔ x ∈ ks := by
  refine ⟨ys.map Int.toNat, ?_, ?_, fun x => ?_⟩
  · unfold nats
    rw [List.map_map]
    refine List.map_congr_left fun y hy => ?_
    obtain ⟨n, _, rfl⟩ := List.mem_map.mp (hp.mem_iff.mp hy)
    show D.int (n : Int) = D.int ((n : Int).toNat : Nat)
    rw [Int.toNat_natCast]
  · rw [List.pairwise_map]
    have hnd : ys.Nodup := by
      refine hp.symm.nodup ?_
      rw [List.nodup_iff_pairwise_ne, List.pairwise_map]
      exact (List.nodup_iff_pairwise_ne.mp hn).imp fun h => by omega
    have := List.Pairwise.and hs (List.nodup_iff_pairwise_ne.mp hnd)
    refine List.Pairwise.imp_of_mem ?_ this
    intro a b ha hb hab
    obtain ⟨n, _, rfl⟩ := List.mem_map.mp (hp.mem_iff.mp ha)
    obtain ⟨m, _, rfl⟩ := List.mem_map.mp (hp.mem_iff.mp hb)
    omega
  · rw [List.mem_map]
    constructor
    · rintro ⟨y, hy, rfl⟩
      obtain ⟨n, hn, rfl⟩ := List.mem_map.mp (hp.mem_iff.mp hy)
      rwa [Int.toNat_natCast]
    · intro hx
      exact ⟨(x : Int), hp.mem_iff.mpr (List.mem_map.mpr ⟨x, hx, rfl⟩), Int.toNat_natCast x⟩
theorem b__law_alphabet (ds : List D) (S : Sto) (Q : QE) (h : P__law_alphabet c ds S Q) : w__law_alphabet c (esDef flCut S Q) (start0 8 ds) S := by
  obtain ⟨l, ns, rfl, hl, hq⟩ := h
  have hlt := (List.getElem?_eq_some_iff.mp hl).1
  unfold w__law_alphabet
  simp_arith only []
  refine ⟨l, 3, ns, rfl, by omega, hl, fun r ms hr => ?_⟩
  simp_arith only [one_add]
  refine ⟨l, 4, ms, rfl, by omega, by simp_arith only [hlt], fun r2 ms hr2 => ?_⟩
  simp_arith only [hlt, one_add, sz4 (r2 + 1) (by omega)]
  refine ForP.range _ (fun i ρ S' => (∃ (ms : List Int) (ls : List (List Nat)) (T : List Cell), S' = S.set l (drD ms) ++ (Cell.lst (ls.map fun l => .tup (nats l)) :: T) ∧ ls.length = i ∧ ∀ x ∈ ls, x ≠ [] ∧ x.Pairwise (· < ·) ∧ ∀ p ∈ x, p < r + 1) ∧ ∃ a b d, ρ = [some (.ref l), some (.int (3 : Nat)), some (.int (4 : Nat)), some (.int (r + 1 : Nat)), some (.ref S.length), a, b, d]) ⟨⟨ms, [], [], rfl, rfl, by simp⟩, _, _, _, rfl⟩ (fun ys ρ S' h => trivial) ?_ ?_
  · rintro i ρ S' hi ⟨⟨ms, ls, T, rfl, hls, hx⟩, a, b, d, rfl⟩
    simp_arith only []
    refine ⟨l, r + 1, ms, rfl, by omega, by simp_arith only [hlt], fun k ms hk => ?_⟩
    simp_arith only [hlt]
    refine ⟨l, 3, ms, rfl, by omega, by simp_arith only [hlt], fun r3 ms hr3 => ?_⟩
    simp_arith only [hlt, sz4 r3 (by omega)]
    refine ForP.range _ (fun j ρ S' => (∃ (ms : List Int) (kvs : List (Key × D)) (ks : List Nat), S' = S.set l (drD ms) ++ (Cell.lst (ls.map fun l => .tup (nats l)) :: (T ++ [Cell.dk kvs])) ∧ KB kvs ks ∧ ks.Nodup ∧ ks ≠ [] ∧ (∀ x ∈ ks, x < r + 1) ∧ ks.length ≤ j + 1) ∧ ∃ d, ρ = [some (.ref l), some (.int (3 : Nat)), some (.int (4 : Nat)), some (.int (r + 1 : Nat)), some (.ref S.length), some (.int (i : Nat)), some (.ref (S.length + (T.length + 1))), d]) ⟨⟨ms, [(.inl (k : Int), .bl true)], [k], rfl, rfl, by simp, by simp, by simpa using hk, by simp⟩, _, rfl⟩ (fun ys ρ S' h => trivial) ?_ ?_
    · rintro j ρ S' hj ⟨⟨ms, kvs, ks, rfl, hkb, hnd, hne, hlt', hln⟩, d, rfl⟩
      simp_arith only []
      refine ⟨l, r + 1, ms, rfl, by omega, by simp_arith only [hlt], fun k2 ms hk2 => ?_⟩
      simp_arith only [hlt, hkb.len, szL ks.length (by omega)]
      refine ⟨⟨ms, _, _, rfl, hkb.put, ?_, ?_, ?_, ?_⟩, _, rfl⟩
      · split
        · exact hnd
        · rename_i z
          rw [List.nodup_append]
          exact ⟨hnd, by simp, fun a ha b hb => by rw [List.mem_singleton.mp hb]; exact fun e => z (e ▸ ha)⟩
      · split
        · exact hne
        · simp
      · intro x hx
        split at hx
        · exact hlt' x hx
        · rcases List.mem_append.mp hx with q | q
          · exact hlt' x q
          · rw [List.mem_singleton.mp q]
            exact hk2
      · split
        · omega
        · simp
          omega
    · rintro ρ S' ⟨⟨ms, kvs, ks, rfl, hkb, hnd, hne, hlt', hln⟩, d, rfl⟩
      simp_arith only [hkb.keys, List.length_map, eq_true (show ks.length < 64 by omega)]
      intro ys hp hs
      obtain ⟨l2, e1, e2, e3⟩ := perm_asc hnd hp hs
      rw [e1]
      simp_arith only [List.length_map, szL ls.length (by omega)]
      refine ⟨⟨ms, ls ++ [l2], T ++ [Cell.dk kvs], ?_, by simp [hls], fun x hxm => ?_⟩, _, _, _, rfl⟩
      · rw [List.map_append]
        rfl
      · rcases List.mem_append.mp hxm with q | q
        · exact hx x q
        · rw [List.mem_singleton.mp q]
          refine ⟨fun z => ?_, e2, fun p hp => hlt' p ((e3 p).mp hp)⟩
          cases ks with
          | nil => exact hne rfl
          | cons k0 ks =>
            have := (e3 k0).mpr (by simp)
            rw [z] at this
            cases this
  · rintro ρ S' ⟨⟨ms, ls, T, rfl, hls, hx⟩, a, b, d, rfl⟩
    simp_arith only []
    refine cut_set (c := drD ms) ?_ (oks_ints _ _) (hq ⟨r + 1, ls⟩ ms ⟨?_, ?_, ?_, ?_, ?_, ?_, ?_⟩)
    · exact .tup (.cons (.int _) (.cons (.lst (ok_ls _ ⟨r + 1, ls⟩)) .nil))
    · show 1 ≤ r + 1
      omega
    · show r + 1 ≤ 4
      omega
    · show 1 ≤ ls.length
      omega
    · show ls.length ≤ 6
      omega
    · exact fun x h => (hx x h).1
    · exact fun x h => (hx x h).2.1
    · exact fun x h => (hx x h).2.2
def refsM (b m : Nat) : List D := (List.range m).map fun i => D.ref (b + (i + 2))
theorem refsM_get {b m i : Nat} (h : i < m) : (refsM b m)[i]? = some (.ref (b + (i + 2))) := by
  unfold refsM
  rw [List.getElem?_map, List.getElem?_range h]
  rfl
theorem refsM_len (b m : Nat) : (refsM b m).length = m := by simp [refsM]
theorem refsM_succ (b m : Nat) : refsM b m ++ [D.ref (b + (m + 2))] = refsM b (m + 1) := by simp [refsM, List.range_succ]
theorem LS_get0 (L : Nat → List D) {n p : Nat} (h : p < n) : (LS L n)[p]? = some (Cell.lst (L p)) := by
  have := LS_get' L [] h
  simpa using this
theorem LS_set0 (L : Nat → List D) {n p : Nat} (h : p < n) (d : List D) : (LS L n).set p (Cell.lst d) = LS (fun q => if q = p then d else L q) n := by
  have := LS_set' L [] h d
  simpa using this
theorem range_mid {m : Nat} {ys zs : List Nat} {x : Nat} (h : List.range m = ys ++ x :: zs) : x = ys.length ∧ x < m := by
  have h1 : (List.range m)[ys.length]? = some x := by
    rw [h, List.getElem?_append_right (Nat.le_refl _), Nat.sub_self]
    rfl
  obtain ⟨h2, h3⟩ := List.getElem?_eq_some_iff.mp h1
  rw [List.getElem_range] at h3
  rw [List.length_range] at h2
  omega
theorem ints_cons1 (l : List Nat) : (D.int (-1) :: nats l) = ((-1) :: l.map fun n : Nat => (n : Int)).map D.int := by simp [nats]
theorem rg0 {n : Nat} (h : n ≤ 1000) : RgOk 0 (n : Int) = True := eq_true ⟨by omega, by omega, by omega, by omega, by omega⟩
def prE (w : List Nat) (L : List Nat) : List (Nat × Nat) := L.map fun i => (i, at0 w i)
theorem mu_is {A : Al} {w : List Nat} {r : Nat} (U : Nat → Bool) : ∀ (L F : List Nat), (∀ pre i post, L = pre ++ i :: post → ((i = r ∨ ∃ j, j ∈ F ++ pre.filter U ∧ dep A (at0 w j) (at0 w i) = true) ↔ U i = true)) → muL A r (prE w L) (F.map (at0 w)) = L.filter U
  | [], F, _ => rfl
  | i :: L, F, H => by
    have h0 := H [] i L rfl
    simp only [List.filter_nil, List.append_nil] at h0
    have e0 : (i = r ∨ ∃ b, b ∈ F.map (at0 w) ∧ dep A b (at0 w i) = true) ↔ U i = true := by
      rw [← h0]
      refine or_congr Iff.rfl ⟨?_, ?_⟩
      · rintro ⟨b, hb, hd⟩
        obtain ⟨j, hj, rfl⟩ := List.mem_map.mp hb
        exact ⟨j, hj, hd⟩
      · rintro ⟨j, hj, hd⟩
        exact ⟨_, List.mem_map.mpr ⟨j, hj, rfl⟩, hd⟩
    show (if i = r ∨ ∃ b, b ∈ F.map (at0 w) ∧ dep A b (at0 w i) = true then i :: muL A r (prE w L) (F.map (at0 w) ++ [at0 w i]) else muL A r (prE w L) (F.map (at0 w))) = _
    by_cases hu : U i = true
    · rw [if_pos (e0.mpr hu), List.filter_cons, if_pos hu]
      have := mu_is U L (F ++ [i]) fun pre j post h => by
        have := H (i :: pre) j post (by rw [h]; rfl)
        rw [List.filter_cons, if_pos hu] at this
        rwa [List.append_assoc, List.singleton_append]
      rw [List.map_append] at this
      rw [← this]
      rfl
    · rw [if_neg (fun q => hu (e0.mp q)), List.filter_cons, if_neg hu]
      exact mu_is U L F fun pre j post h => by
        have := H (i :: pre) j post (by rw [h]; rfl)
        rwa [List.filter_cons, if_neg hu] at this
open Classical in
/-- what stands above an event -/
noncomputable def upw (A : Al) (w : List Nat) (r : Nat) : List Nat := (List.range w.length).filter fun i => decide (r ∈ dn A w [i])
theorem upw_mem {A : Al} {w : List Nat} {r i : Nat} : i ∈ upw A w r ↔ i < w.length ∧ Dn A w [i] r := by
  unfold upw
  rw [List.mem_filter, List.mem_range, decide_eq_true_eq, dn_mem]
theorem mid_lt {L pre post : List Nat} {i : Nat} (hL : L.Pairwise (· < ·)) (h : L = pre ++ i :: post) (j : Nat) : j ∈ pre ↔ j ∈ L ∧ j < i := by
  rw [h, List.pairwise_append, List.pairwise_cons] at hL
  rw [h]
  constructor
  · intro hj
    exact ⟨by simp [hj], hL.2.2 j hj i (by simp)⟩
  · rintro ⟨h1, h2⟩
    rcases List.mem_append.mp h1 with q | q
    · exact q
    · rcases List.mem_cons.mp q with q | q
      · omega
      · have := hL.2.1.1 j q
        omega
theorem mu_all {A : Al} {w : List Nat} {r : Nat} (hr : r < w.length) : muL A r (prE w (List.range w.length)) [] = upw A w r := by
  refine mu_is (fun i => decide (r ∈ dn A w [i])) (List.range w.length) [] fun pre i post h => ?_
  have hi : i < w.length := List.mem_range.mp (by rw [h]; simp)
  rw [decide_eq_true_eq, dn_mem]
  constructor
  · rintro (q | ⟨j, hj, hd⟩)
    · subst q
      exact .self hi
    · rw [List.nil_append, List.mem_filter, mid_lt (asc_range _) h, decide_eq_true_eq, dn_mem] at hj
      exact hj.2.tr (.dep hj.1.2 hi hd)
  · intro hd
    rcases le_dep hd with q | ⟨e, e1, e2, e3, e4⟩
    · exact .inl q.symm
    · refine .inr ⟨e, ?_, e3⟩
      rw [List.nil_append, List.mem_filter, mid_lt (asc_range _) h, decide_eq_true_eq, dn_mem]
      exact ⟨⟨List.mem_range.mpr (by omega), e2⟩, e4⟩
theorem mu_one {A : Al} {w : List Nat} {r g : Nat} {D : List Nat} (hg : g ∈ upw A w r) (hgD : g ∉ D) (hD : ∀ u, u ∈ upw A w r → g < u → u ∈ D) : muL A g (prE w ((List.range w.length).filter fun i => !decide (i ∈ D))) [] = [g] := by
  have hgl := (upw_mem.mp hg).1
  have hasc : ((List.range w.length).filter fun i => !decide (i ∈ D)).Pairwise (· < ·) := (asc_range _).filter _
  have := mu_is (A := A) (w := w) (r := g) (fun i => decide (i = g)) ((List.range w.length).filter fun i => !decide (i ∈ D)) [] fun pre i post h => ?_
  · rw [List.map_nil] at this
    rw [this]
    refine asc_ext (hasc.filter _) (List.pairwise_singleton _ _) fun x => ?_
    simp only [List.mem_filter, List.mem_range, Bool.not_eq_true', decide_eq_false_iff_not, decide_eq_true_eq, List.mem_singleton]
    constructor
    · exact fun h => h.2
    · intro h
      subst h
      exact ⟨⟨hgl, hgD⟩, rfl⟩
  · rw [decide_eq_true_eq]
    constructor
    · rintro (q | ⟨j, hj, hd⟩)
      · exact q
      · exfalso
        rw [List.nil_append, List.mem_filter, mid_lt hasc h, decide_eq_true_eq] at hj
        obtain ⟨⟨_, hlt⟩, rfl⟩ := hj
        have hi : i ∈ (List.range w.length).filter fun i => !decide (i ∈ D) := by rw [h]; simp
        simp only [List.mem_filter, List.mem_range, Bool.not_eq_true', decide_eq_false_iff_not] at hi
        exact hi.2 (hD i (upw_mem.mpr ⟨hi.1, (upw_mem.mp hg).2.tr (.dep hlt hi.1 hd)⟩) hlt)
    · exact .inl
theorem prE_filter (w L : List Nat) (g : Nat) : (prE w L).filter (fun x => !decide (x.1 = g)) = prE w (L.filter fun i => !decide (i = g)) := by
  unfold prE
  rw [List.filter_map]
  rfl
theorem prE_snd (w L : List Nat) : (prE w L).map (·.2) = sub w L := by
  unfold prE sub
  rw [List.map_map]
  rfl
end K5

namespace K5
open PySem Tk Tr L2
variable {c : Ca}
local macro_rules | `(tactic| simp_arith only [$xs,*]) => `(tactic| simp only [↓x_V, ↓x_C, ↓x_B, ↓x_U, ↓x_Nil, ↓x_Cons, ↓x_Z, ↓x_Tup, ↓x_Lst, ↓x_Fz, ↓x_Cl, ↓x_BF, ↓x_ZF, ↓x_Tb, ↓x_AndT, ↓x_OrT, ↓x_NotT, ↓x_Yes, ↓x_AndV, ↓x_OrV, ↓x_NotV, ↓x_IfE, ↓x_Chain, ↓x_I, ↓x_Ib, ↓x_AddI, ↓x_AddT, ↓x_Cat, ↓x_Rep, ↓x_Neg, ↓x_Ix, ↓x_No, ↓x_So, ↓x_SlT, ↓x_SlL, ↓x_Rev, ↓x_In, ↓x_NotIn, ↓x_IsN, ↓x_NotN, ↓x_IsB, ↓x_NotB, ↓x_Len, ↓x_Int, ↓x_Max2, ↓x_Max, ↓x_Min, ↓x_Sum, ↓x_All, ↓x_Any, ↓x_List, ↓x_Tuple, ↓x_Sorted, ↓x_M, ↓x_M0, ↓x_Append, ↓x_Pop, ↓x_PopAt, ↓x_Reverse, ↓x_Fld, ↓x_FldNew, ↓x_FldSet, ↓x_FldAug, ↓x_Call, ↓x_Meth, ↓x_Make, ↓x_Frz, ↓x_gN, ↓x_gsNil, ↓x_gsCons, ↓x_gTu, ↓x_gIx, ↓x_Seq, ↓x_SNil, ↓x_Asg, ↓x_Drop, ↓x_Ret, ↓x_RetN, ↓x_If, ↓x_Brk, ↓x_Cnt, ↓x_Aug, ↓x_AugIx, ↓x_Par, ↓x_WIn, ↓x_R1, ↓x_R2, ↓x_R3, ↓x_DNew, ↓x_Disp1, ↓x_DPut, ↓x_SortedD, ↓x_DictP, ↓x_LRg, ↓x_For, ↓x_While, ↓x_Lc, ↓x_Inv, ↓x_Tt, ↓x_En, ↓x_TNew, ↓x_TDisp1, ↓x_TGet, ↓x_TGet2, ↓x_TPut, ↓x_KeysT, ↓x_EqI, ↓x_NeI, ↓x_NeB, ↓e_rt, ↓e_nx, ↓tgP, ↓kR25', ↓kR24', ↓kR23', ↓kR22', ↓kTt', ↓kEn2', ↓kEn', ↓kTD2', ↓kTD1', ↓kTG2', ↓kTG1', ↓kTH3', ↓kTH2', ↓kTH1', ↓kTP3', ↓kTP2', ↓kTP1', ↓kKy', ↓kQ', ↓kB2', ↓kB1', ↓kU', ↓kC2', ↓kC1', ↓kZ', ↓kTup', ↓kLst', ↓kFz', ↓kCl', ↓kBF2', ↓kBF1', ↓kZF', ↓kT', ↓kTb', ↓kAndT', ↓kOrT', ↓kNotT', ↓kAndV2', ↓kAndV', ↓kOrV2', ↓kOrV', ↓kNotV2', ↓kNotV', ↓kIfE', ↓kCh5', ↓kCh4', ↓kCh3', ↓kCh2', ↓kCh1', ↓kI2', ↓kI1', ↓kIb2', ↓kIb1', ↓kCat2', ↓kCat1', ↓kRep2', ↓kRep1', ↓kNeg', ↓kIx2', ↓kIx1', ↓kSo2', ↓kSo', ↓kSl4', ↓kSl3', ↓kSl2', ↓kSl1', ↓kSm4', ↓kSm3', ↓kSm2', ↓kSm1', ↓kRev2', ↓kRev', ↓kIn3', ↓kIn2', ↓kIn1', ↓kNi3', ↓kNi2', ↓kNi1', ↓kIs2', ↓kIs1', ↓kNb2', ↓kNb1', ↓kLen', ↓kMax2', ↓kMax1', ↓kMin2', ↓kMin1', ↓kSum2', ↓kSum1', ↓kAll2', ↓kAll1', ↓kAny2', ↓kAny1', ↓kList', ↓kTuple', ↓kSrt2', ↓kSrt1', ↓kM2', ↓kM1', ↓kM0', ↓kAp2', ↓kAp1', ↓kPop3', ↓kPop2', ↓kPop1', ↓kPa5', ↓kPa4', ↓kPa3', ↓kPa2', ↓kPa1', ↓kRv2', ↓kRv1', ↓kFld2', ↓kFld1', ↓kFn4', ↓kFn3', ↓kFn2', ↓kFn1', ↓kFs4', ↓kFs3', ↓kFs2', ↓kFs1', ↓kFa7', ↓kFa6', ↓kFa5', ↓kFa4', ↓kFa35', ↓kFa3', ↓kFa2', ↓kFa1', ↓kCall', ↓kMt3', ↓kMt2', ↓kMt1', ↓kMk2', ↓kMk1', ↓kFrz3', ↓kFrz2', ↓kFrz1', ↓kGs', ↓kGt', ↓kGi6', ↓kGi5', ↓kGi4', ↓kGi3', ↓kGi2', ↓kGi1', ↓kAsg', ↓kDrop', ↓kIf', ↓kAug3', ↓kAug2', ↓kAug1', ↓kAi10', ↓kAi9', ↓kAi8', ↓kAi7', ↓kAi6', ↓kAi5', ↓kAi4', ↓kAi3', ↓kAi2', ↓kAi1', ↓kPar2', ↓kPar1', ↓kWin2', ↓kWin1', ↓kR12', ↓kR11', ↓kR36', ↓kR35', ↓kR34', ↓kR33', ↓kR32', ↓kR31', ↓kDi3', ↓kDi2', ↓kDi1', ↓kDp6', ↓kDp5', ↓kDp4', ↓kDp3', ↓kDp2', ↓kDp1', ↓kSd2', ↓kSd1', ↓kDc2', ↓kDc1', ↓kLr2', ↓kLr1', ↓kFor', ↓kLc', ↓kF2', z0, z1, z2, z3, z4, z5, z6, z0', bO_some, bI_int, bB_bl, bL_ref, bN_non, bP_t, bY_t, bY_f, q_tup, q_lst, q_rd, q_ref, l_lst, l_ref, i_ins, i_ref, d_dk, d_ref, cl_lst, cl_ins, cl_dk, tr_ref, tr_tup, tr_lst, tr_clst, f_dt, f_lst', f_dk, f_ins, sb, sj, gset0, gset, sset0, sset, g_app0, g_app, flt_t, g_lt, s_lt, gs_self, List.set_set, s_app0, s_app, ixN_nat, at_nat, atI_0, atI_1, atI_2, atI_3, nats_len, ints_nats, mem_cast, nats_app, nats_snoc, nats_rev, nats_set, nats_erase, rng_0, rng_N, lt_cast, le_cast, max_cast, lt0, ge0, eq0, gt0, eq_cast, keyO, tupOf, fzO, List.getElem?_cons_zero, List.getElem?_cons_succ, List.set_cons_zero, List.set_cons_succ, List.length_cons, List.length_nil, List.length_append, List.append_assoc, List.cons_append, List.nil_append, List.append_nil, List.length_set, List.length_map, List.length_range, Nat.reduceAdd, Nat.zero_add, Nat.add_zero, Option.isSome_some, and_self, and_true, true_and, Option.bind_some, decide_true, decide_false, decide_eq_true_eq, wipeD, setAllD, Bool.not_true, Bool.not_false, Tk.isNon, eq_self, if_true, if_pos, start0, List.map_cons, List.map_nil, List.replicate, List.take, Nat.reduceSub, Nat.reduceLeDiff, Nat.reduceLT, Int.toNat_natCast, Int.reduceNeg, Nat.reduceEqDiff, Nat.add_eq, Nat.add_assoc, i_al, dLs_len, $xs,*])
local macro_rules | `(tactic| simp_arith! only [$xs,*]) => `(tactic| simp only [↓x_V, ↓x_C, ↓x_B, ↓x_U, ↓x_Nil, ↓x_Cons, ↓x_Z, ↓x_Tup, ↓x_Lst, ↓x_Fz, ↓x_Cl, ↓x_BF, ↓x_ZF, ↓x_Tb, ↓x_AndT, ↓x_OrT, ↓x_NotT, ↓x_Yes, ↓x_AndV, ↓x_OrV, ↓x_NotV, ↓x_IfE, ↓x_Chain, ↓x_I, ↓x_Ib, ↓x_AddI, ↓x_AddT, ↓x_Cat, ↓x_Rep, ↓x_Neg, ↓x_Ix, ↓x_No, ↓x_So, ↓x_SlT, ↓x_SlL, ↓x_Rev, ↓x_In, ↓x_NotIn, ↓x_IsN, ↓x_NotN, ↓x_IsB, ↓x_NotB, ↓x_Len, ↓x_Int, ↓x_Max2, ↓x_Max, ↓x_Min, ↓x_Sum, ↓x_All, ↓x_Any, ↓x_List, ↓x_Tuple, ↓x_Sorted, ↓x_M, ↓x_M0, ↓x_Append, ↓x_Pop, ↓x_PopAt, ↓x_Reverse, ↓x_Fld, ↓x_FldNew, ↓x_FldSet, ↓x_FldAug, ↓x_Call, ↓x_Meth, ↓x_Make, ↓x_Frz, ↓x_gN, ↓x_gsNil, ↓x_gsCons, ↓x_gTu, ↓x_gIx, ↓x_SNil, ↓x_Asg, ↓x_Drop, ↓x_Ret, ↓x_RetN, ↓x_If, ↓x_Brk, ↓x_Cnt, ↓x_Aug, ↓x_AugIx, ↓x_Par, ↓x_WIn, ↓x_R1, ↓x_R2, ↓x_R3, ↓x_DNew, ↓x_Disp1, ↓x_DPut, ↓x_SortedD, ↓x_DictP, ↓x_LRg, ↓x_For, ↓x_While, ↓x_Lc, ↓x_Inv, ↓x_Tt, ↓x_En, ↓x_TNew, ↓x_TDisp1, ↓x_TGet, ↓x_TGet2, ↓x_TPut, ↓x_KeysT, ↓x_EqI, ↓x_NeI, ↓x_NeB, ↓e_rt, ↓e_nx, ↓tgP, ↓kR25', ↓kR24', ↓kR23', ↓kR22', ↓kTt', ↓kEn2', ↓kEn', ↓kTD2', ↓kTD1', ↓kTG2', ↓kTG1', ↓kTH3', ↓kTH2', ↓kTH1', ↓kTP3', ↓kTP2', ↓kTP1', ↓kKy', ↓kQ', ↓kB2', ↓kB1', ↓kU', ↓kC2', ↓kC1', ↓kZ', ↓kTup', ↓kLst', ↓kFz', ↓kCl', ↓kBF2', ↓kBF1', ↓kZF', ↓kT', ↓kTb', ↓kAndT', ↓kOrT', ↓kNotT', ↓kAndV2', ↓kAndV', ↓kOrV2', ↓kOrV', ↓kNotV2', ↓kNotV', ↓kIfE', ↓kCh5', ↓kCh4', ↓kCh3', ↓kCh2', ↓kCh1', ↓kI2', ↓kI1', ↓kIb2', ↓kIb1', ↓kCat2', ↓kCat1', ↓kRep2', ↓kRep1', ↓kNeg', ↓kIx2', ↓kIx1', ↓kSo2', ↓kSo', ↓kSl4', ↓kSl3', ↓kSl2', ↓kSl1', ↓kSm4', ↓kSm3', ↓kSm2', ↓kSm1', ↓kRev2', ↓kRev', ↓kIn3', ↓kIn2', ↓kIn1', ↓kNi3', ↓kNi2', ↓kNi1', ↓kIs2', ↓kIs1', ↓kNb2', ↓kNb1', ↓kLen', ↓kMax2', ↓kMax1', ↓kMin2', ↓kMin1', ↓kSum2', ↓kSum1', ↓kAll2', ↓kAll1', ↓kAny2', ↓kAny1', ↓kList', ↓kTuple', ↓kSrt2', ↓kSrt1', ↓kM2', ↓kM1', ↓kM0', ↓kAp2', ↓kAp1', ↓kPop3', ↓kPop2', ↓kPop1', ↓kPa5', ↓kPa4', ↓kPa3', ↓kPa2', ↓kPa1', ↓kRv2', ↓kRv1', ↓kFld2', ↓kFld1', ↓kFn4', ↓kFn3', ↓kFn2', ↓kFn1', ↓kFs4', ↓kFs3', ↓kFs2', ↓kFs1', ↓kFa7', ↓kFa6', ↓kFa5', ↓kFa4', ↓kFa35', ↓kFa3', ↓kFa2', ↓kFa1', ↓kCall', ↓kMt3', ↓kMt2', ↓kMt1', ↓kMk2', ↓kMk1', ↓kFrz3', ↓kFrz2', ↓kFrz1', ↓kGs', ↓kGt', ↓kGi6', ↓kGi5', ↓kGi4', ↓kGi3', ↓kGi2', ↓kGi1', ↓kAsg', ↓kDrop', ↓kIf', ↓kAug3', ↓kAug2', ↓kAug1', ↓kAi10', ↓kAi9', ↓kAi8', ↓kAi7', ↓kAi6', ↓kAi5', ↓kAi4', ↓kAi3', ↓kAi2', ↓kAi1', ↓kPar2', ↓kPar1', ↓kWin2', ↓kWin1', ↓kR12', ↓kR11', ↓kR36', ↓kR35', ↓kR34', ↓kR33', ↓kR32', ↓kR31', ↓kDi3', ↓kDi2', ↓kDi1', ↓kDp6', ↓kDp5', ↓kDp4', ↓kDp3', ↓kDp2', ↓kDp1', ↓kSd2', ↓kSd1', ↓kDc2', ↓kDc1', ↓kLr2', ↓kLr1', ↓kFor', ↓kLc', ↓kF2', z0, z1, z2, z3, z4, z5, z6, z0', bO_some, bI_int, bB_bl, bL_ref, bN_non, bP_t, bY_t, bY_f, q_tup, q_lst, q_rd, q_ref, l_lst, l_ref, i_ins, i_ref, d_dk, d_ref, cl_lst, cl_ins, cl_dk, tr_ref, tr_tup, tr_lst, tr_clst, f_dt, f_lst', f_dk, f_ins, sb, sj, gset0, gset, sset0, sset, g_app0, g_app, flt_t, g_lt, s_lt, gs_self, List.set_set, s_app0, s_app, ixN_nat, at_nat, atI_0, atI_1, atI_2, atI_3, nats_len, ints_nats, mem_cast, nats_app, nats_snoc, nats_rev, nats_set, nats_erase, rng_0, rng_N, lt_cast, le_cast, max_cast, lt0, ge0, eq0, gt0, eq_cast, keyO, tupOf, fzO, List.getElem?_cons_zero, List.getElem?_cons_succ, List.set_cons_zero, List.set_cons_succ, List.length_cons, List.length_nil, List.length_append, List.append_assoc, List.cons_append, List.nil_append, List.append_nil, List.length_set, List.length_map, List.length_range, Nat.reduceAdd, Nat.zero_add, Nat.add_zero, Option.isSome_some, and_self, and_true, true_and, Option.bind_some, decide_true, decide_false, decide_eq_true_eq, wipeD, setAllD, Bool.not_true, Bool.not_false, Tk.isNon, eq_self, if_true, if_pos, start0, List.map_cons, List.map_nil, List.replicate, List.take, Nat.reduceSub, Nat.reduceLeDiff, Nat.reduceLT, Int.toNat_natCast, Int.reduceNeg, Nat.reduceEqDiff, Nat.add_eq, Nat.add_assoc, i_al, dLs_len, $xs,*])
theorem b__law_meet (ds : List D) (S : Sto) (Q : QE) (h : P__law_meet c ds S Q) : w__law_meet c (esDef flCut S Q) (start0 4 ds) S := by
  obtain ⟨A, a, b, rfl, o, ha, hb, hq⟩ := h
  unfold w__law_meet
  simp_arith only [dLs_get ha]
  refine LcP.pure (pl A a) (fun n : Nat => D.int (n : Nat)) (fun p => decide (p ∈ pl A b)) (fun _ => D.int 1) trivial (szl (pl_len o ha)) (fun p hp X Y hX hY => ?_) ?_
  · simp_arith only [dLs_get hb]
    exact bY_mk hX hY
  · simp_arith only [List.length_map]
    refine cut_rfl (.bl _) ?_
    have : decide (0 < ((pl A a).filter fun p => decide (p ∈ pl A b)).length) = dep A a b := by
      rw [Bool.eq_iff_iff, decide_eq_true_eq, List.length_pos_iff, dep_iff]
      constructor
      · intro h
        obtain ⟨p, hp⟩ := List.exists_mem_of_ne_nil _ h
        rw [List.mem_filter, decide_eq_true_eq] at hp
        exact ⟨p, hp⟩
      · rintro ⟨p, h1, h2⟩ h
        have : p ∈ (pl A a).filter fun p => decide (p ∈ pl A b) := List.mem_filter.mpr ⟨h1, decide_eq_true h2⟩
        rw [h] at this
        cases this
    rw [this]
    exact hq
theorem apB_iff {A : Al} {u v : List Nat} : apB A u v = true ↔ Tr.Apart A u v := by
  unfold apB Tr.Apart
  simp only [List.all_eq_true, Bool.not_eq_true']
theorem b_are_apart (ds : List D) (S : Sto) (Q : QE) (h : P_are_apart c ds S Q) : w_are_apart c (esDef flCut S Q) (start0 5 ds) S := by
  obtain ⟨A, u, v, rfl, hu, hv, hq⟩ := h
  unfold w_are_apart
  simp_arith only []
  refine ForP.over u (fun n : Nat => D.int (n : Nat)) (fun ys ρ S' => S' = S ∧ (∀ a ∈ ys, ∀ b ∈ v, dep A a b = false) ∧ ∃ x y, ρ = [some (dAl c A), some (.tup (nats u)), some (.tup (nats v)), x, y]) ⟨rfl, by simp, _, _, rfl⟩ (fun ys ρ S' h => trivial) ?_ ?_
  · rintro ys a zs ρ S' hx ⟨rfl, hI, x, y, rfl⟩
    have hau : a ∈ u := by rw [hx]; simp
    simp_arith only []
    refine ForP.over v (fun n : Nat => D.int (n : Nat)) (fun ys ρ S'' => S'' = S' ∧ (∀ b ∈ ys, dep A a b = false) ∧ ∃ y, ρ = [some (dAl c A), some (.tup (nats u)), some (.tup (nats v)), some (.int (a : Nat)), y]) ⟨rfl, by simp, _, rfl⟩ (fun ys ρ S' h => trivial) ?_ ?_
    · rintro ys' b zs' ρ S'' hx' ⟨rfl, hJ, y, rfl⟩
      have hbv : b ∈ v := by rw [hx']; simp
      simp_arith only []
      refine ⟨A, a, b, rfl, hu a hau, hv b hbv, ?_⟩
      cases hd : dep A a b with
      | false =>
        simp_arith only []
        refine ⟨fun b' hb' => ?_, _, rfl⟩
        rcases List.mem_append.mp hb' with q | q
        · exact hJ b' q
        · rw [List.mem_singleton.mp q]
          exact hd
      | true =>
        simp_arith only [Bool.false_eq_true, if_false]
        refine cut_rfl (.bl _) ?_
        have : apB A u v = false := by
          rw [Bool.eq_false_iff, Ne, apB_iff]
          intro q
          rw [q a hau b hbv] at hd
          cases hd
        rwa [this] at hq
    · rintro ρ S'' ⟨rfl, hJ, y, rfl⟩
      refine ⟨rfl, fun a' ha' => ?_, _, _, rfl⟩
      rcases List.mem_append.mp ha' with q | q
      · exact hI a' q
      · rw [List.mem_singleton.mp q]
        exact hJ
  · rintro ρ S'' ⟨rfl, hI, x, y, rfl⟩
    simp_arith only []
    refine cut_rfl (.bl _) ?_
    rwa [apB_iff.mpr hI] at hq
theorem b_equivalent (ds : List D) (S : Sto) (Q : QE) (h : P_equivalent c ds S Q) : w_equivalent c (esDef flCut S Q) (start0 4 ds) S := by
  obtain ⟨A, u, v, rfl, hu, hv, he, hq⟩ := h
  unfold w_equivalent
  simp_arith only [szK hu.o]
  refine ForP.range _ (fun i ρ S' => S' = S ∧ ∃ y, ρ = [some (dAl c A), some (.tup (nats u)), some (.tup (nats v)), y]) ⟨rfl, _, rfl⟩ (fun ys ρ S' h => trivial) ?_ ?_
  · rintro p ρ S' hp ⟨rfl, y, rfl⟩
    simp_arith only []
    refine ⟨A, u, p, rfl, hu, ?_⟩
    simp_arith only []
    refine ⟨A, v, p, rfl, hv, ?_⟩
    rw [he.p p]
    try simp_arith only []
    refine x_NeS (fl_tup _ _) ?_
    simp_arith only []
    exact ⟨_, rfl⟩
  · rintro ρ S' ⟨rfl, y, rfl⟩
    simp_arith only []
    exact cut_rfl (.bl _) hq
theorem b_without_joins (ds : List D) (S : Sto) (Q : QE) (h : P_without_joins c ds S Q) : w_without_joins c (esDef flCut S Q) (start0 6 ds) S := by
  obtain ⟨A, w, E, rfl, hw, hE, hq⟩ := h
  unfold w_without_joins
  have hz := hw.z
  simp_arith only [sz4 _ hw.z]
  refine ForP.range _ (fun i ρ S' => S' = S ++ [Cell.lst (nats (sub w ((List.range i).filter fun k => !(E.any fun e => decide (e ∈ dn A w [k])))))] ∧ ∃ x y, ρ = [some (dAl c A), some (.tup (nats w)), some (.lst (nats E)), some (.ref S.length), x, y]) ⟨rfl, _, _, rfl⟩ (fun ys ρ S' h => trivial) ?_ ?_
  · rintro k ρ S' hk ⟨rfl, x, y, rfl⟩
    simp_arith only []
    refine LcP.pure E (fun n : Nat => D.int (n : Nat)) (fun _ => true) (fun e => D.bl (decide (e ∈ dn A w [k]))) trivial (szl (by omega)) (fun e he X Y hX hY => ?_) ?_
    · simp_arith only []
      exact ⟨A, w, e, k, rfl, hw, hX rfl⟩
    · rw [flt_t]
      have e1 : blsOf (E.map fun e => D.bl (decide (e ∈ dn A w [k]))) = some (E.map fun e => decide (e ∈ dn A w [k])) := by
        have : (E.map fun e => D.bl (decide (e ∈ dn A w [k]))) = (E.map fun e => decide (e ∈ dn A w [k])).map D.bl := by simp
        rw [this, blsOf_map]
      have e2 : (E.map fun e => decide (e ∈ dn A w [k])).any id = E.any fun e => decide (e ∈ dn A w [k]) := by
        rw [List.any_map]
        rfl
      simp_arith only [e1, e2]
      have hl := List.length_filter_le (fun k => !(E.any fun e => decide (e ∈ dn A w [k]))) (List.range k)
      rw [List.length_range] at hl
      refine bY_mk (fun h => ?_) (fun h => ?_)
      · have h' : (E.any fun e => decide (e ∈ dn A w [k])) = false := by simpa using h
        simp_arith only [nats_at hk]
        refine bP_mk (szlt (by unfold sub; rw [List.length_map]; omega)) ⟨?_, _, _, rfl⟩
        rw [List.range_succ, List.filter_append]
        simp [h', sub]
      · have h' : (E.any fun e => decide (e ∈ dn A w [k])) = true := by simpa using h
        try simp_arith only []
        refine ⟨?_, _, _, rfl⟩
        rw [List.range_succ, List.filter_append]
        simp [h', sub]
  · rintro ρ S' ⟨rfl, x, y, rfl⟩
    simp_arith only []
    refine ⟨A, _, sub w ((List.range w.length).filter fun k => !(E.any fun e => decide (e ∈ dn A w [k]))), rfl, by simp_arith only [], ⟨hw.o, ?_, sub_wo hw.w fun i hi => List.mem_range.mp (List.mem_filter.mp hi).1⟩, ?_⟩
    · unfold sub
      rw [List.length_map]
      have hl := List.length_filter_le (fun k => !(E.any fun e => decide (e ∈ dn A w [k]))) (List.range w.length)
      rw [List.length_range] at hl
      omega
    · refine cut_app (ok_tup _ _) ?_
      have e : offs A w E = (List.range w.length).filter fun k => !(E.any fun e => decide (e ∈ dn A w [k])) := by
        unfold offs
        congr 1
      rw [e] at hq
      exact hq
end K5

namespace K5
open PySem Tk Tr L2
variable {c : Ca}
local macro_rules | `(tactic| simp_arith only [$xs,*]) => `(tactic| simp only [↓x_V, ↓x_C, ↓x_B, ↓x_U, ↓x_Nil, ↓x_Cons, ↓x_Z, ↓x_Tup, ↓x_Lst, ↓x_Fz, ↓x_Cl, ↓x_BF, ↓x_ZF, ↓x_Tb, ↓x_AndT, ↓x_OrT, ↓x_NotT, ↓x_Yes, ↓x_AndV, ↓x_OrV, ↓x_NotV, ↓x_IfE, ↓x_Chain, ↓x_I, ↓x_Ib, ↓x_AddI, ↓x_AddT, ↓x_Cat, ↓x_Rep, ↓x_Neg, ↓x_Ix, ↓x_No, ↓x_So, ↓x_SlT, ↓x_SlL, ↓x_Rev, ↓x_In, ↓x_NotIn, ↓x_IsN, ↓x_NotN, ↓x_IsB, ↓x_NotB, ↓x_Len, ↓x_Int, ↓x_Max2, ↓x_Max, ↓x_Min, ↓x_Sum, ↓x_All, ↓x_Any, ↓x_List, ↓x_Tuple, ↓x_Sorted, ↓x_M, ↓x_M0, ↓x_Append, ↓x_Pop, ↓x_PopAt, ↓x_Reverse, ↓x_Fld, ↓x_FldNew, ↓x_FldSet, ↓x_FldAug, ↓x_Call, ↓x_Meth, ↓x_Make, ↓x_Frz, ↓x_gN, ↓x_gsNil, ↓x_gsCons, ↓x_gTu, ↓x_gIx, ↓x_Seq, ↓x_SNil, ↓x_Asg, ↓x_Drop, ↓x_Ret, ↓x_RetN, ↓x_If, ↓x_Brk, ↓x_Cnt, ↓x_Aug, ↓x_AugIx, ↓x_Par, ↓x_WIn, ↓x_R1, ↓x_R2, ↓x_R3, ↓x_DNew, ↓x_Disp1, ↓x_DPut, ↓x_SortedD, ↓x_DictP, ↓x_LRg, ↓x_For, ↓x_While, ↓x_Lc, ↓x_Inv, ↓x_Tt, ↓x_En, ↓x_TNew, ↓x_TDisp1, ↓x_TGet, ↓x_TGet2, ↓x_TPut, ↓x_KeysT, ↓x_EqI, ↓x_NeI, ↓x_NeB, ↓e_rt, ↓e_nx, ↓tgP, ↓kR25', ↓kR24', ↓kR23', ↓kR22', ↓kTt', ↓kEn2', ↓kEn', ↓kTD2', ↓kTD1', ↓kTG2', ↓kTG1', ↓kTH3', ↓kTH2', ↓kTH1', ↓kTP3', ↓kTP2', ↓kTP1', ↓kKy', ↓kQ', ↓kB2', ↓kB1', ↓kU', ↓kC2', ↓kC1', ↓kZ', ↓kTup', ↓kLst', ↓kFz', ↓kCl', ↓kBF2', ↓kBF1', ↓kZF', ↓kT', ↓kTb', ↓kAndT', ↓kOrT', ↓kNotT', ↓kAndV2', ↓kAndV', ↓kOrV2', ↓kOrV', ↓kNotV2', ↓kNotV', ↓kIfE', ↓kCh5', ↓kCh4', ↓kCh3', ↓kCh2', ↓kCh1', ↓kI2', ↓kI1', ↓kIb2', ↓kIb1', ↓kCat2', ↓kCat1', ↓kRep2', ↓kRep1', ↓kNeg', ↓kIx2', ↓kIx1', ↓kSo2', ↓kSo', ↓kSl4', ↓kSl3', ↓kSl2', ↓kSl1', ↓kSm4', ↓kSm3', ↓kSm2', ↓kSm1', ↓kRev2', ↓kRev', ↓kIn3', ↓kIn2', ↓kIn1', ↓kNi3', ↓kNi2', ↓kNi1', ↓kIs2', ↓kIs1', ↓kNb2', ↓kNb1', ↓kLen', ↓kMax2', ↓kMax1', ↓kMin2', ↓kMin1', ↓kSum2', ↓kSum1', ↓kAll2', ↓kAll1', ↓kAny2', ↓kAny1', ↓kList', ↓kTuple', ↓kSrt2', ↓kSrt1', ↓kM2', ↓kM1', ↓kM0', ↓kAp2', ↓kAp1', ↓kPop3', ↓kPop2', ↓kPop1', ↓kPa5', ↓kPa4', ↓kPa3', ↓kPa2', ↓kPa1', ↓kRv2', ↓kRv1', ↓kFld2', ↓kFld1', ↓kFn4', ↓kFn3', ↓kFn2', ↓kFn1', ↓kFs4', ↓kFs3', ↓kFs2', ↓kFs1', ↓kFa7', ↓kFa6', ↓kFa5', ↓kFa4', ↓kFa35', ↓kFa3', ↓kFa2', ↓kFa1', ↓kCall', ↓kMt3', ↓kMt2', ↓kMt1', ↓kMk2', ↓kMk1', ↓kFrz3', ↓kFrz2', ↓kFrz1', ↓kGs', ↓kGt', ↓kGi6', ↓kGi5', ↓kGi4', ↓kGi3', ↓kGi2', ↓kGi1', ↓kAsg', ↓kDrop', ↓kIf', ↓kAug3', ↓kAug2', ↓kAug1', ↓kAi10', ↓kAi9', ↓kAi8', ↓kAi7', ↓kAi6', ↓kAi5', ↓kAi4', ↓kAi3', ↓kAi2', ↓kAi1', ↓kPar2', ↓kPar1', ↓kWin2', ↓kWin1', ↓kR12', ↓kR11', ↓kR36', ↓kR35', ↓kR34', ↓kR33', ↓kR32', ↓kR31', ↓kDi3', ↓kDi2', ↓kDi1', ↓kDp6', ↓kDp5', ↓kDp4', ↓kDp3', ↓kDp2', ↓kDp1', ↓kSd2', ↓kSd1', ↓kDc2', ↓kDc1', ↓kLr2', ↓kLr1', ↓kFor', ↓kLc', ↓kF2', z0, z1, z2, z3, z4, z5, z6, z0', bO_some, bI_int, bB_bl, bL_ref, bN_non, bP_t, bY_t, bY_f, q_tup, q_lst, q_rd, q_ref, l_lst, l_ref, i_ins, i_ref, d_dk, d_ref, cl_lst, cl_ins, cl_dk, tr_ref, tr_tup, tr_lst, tr_clst, f_dt, f_lst', f_dk, f_ins, sb, sj, gset0, gset, sset0, sset, g_app0, g_app, flt_t, g_lt, s_lt, gs_self, List.set_set, s_app0, s_app, ixN_nat, at_nat, atI_0, atI_1, atI_2, atI_3, nats_len, ints_nats, mem_cast, nats_app, nats_snoc, nats_rev, nats_set, nats_erase, rng_0, rng_N, lt_cast, le_cast, max_cast, lt0, ge0, eq0, gt0, eq_cast, keyO, tupOf, fzO, List.getElem?_cons_zero, List.getElem?_cons_succ, List.set_cons_zero, List.set_cons_succ, List.length_cons, List.length_nil, List.length_append, List.append_assoc, List.cons_append, List.nil_append, List.append_nil, List.length_set, List.length_map, List.length_range, Nat.reduceAdd, Nat.zero_add, Nat.add_zero, Option.isSome_some, and_self, and_true, true_and, Option.bind_some, decide_true, decide_false, decide_eq_true_eq, wipeD, setAllD, Bool.not_true, Bool.not_false, Tk.isNon, eq_self, if_true, if_pos, start0, List.map_cons, List.map_nil, List.replicate, List.take, Nat.reduceSub, Nat.reduceLeDiff, Nat.reduceLT, Int.toNat_natCast, Int.reduceNeg, Nat.reduceEqDiff, Nat.add_eq, Nat.add_assoc, i_al, dLs_len, $xs,*])
local macro_rules | `(tactic| simp_arith! only [$xs,*]) => `(tactic| simp only [↓x_V, ↓x_C, ↓x_B, ↓x_U, ↓x_Nil, ↓x_Cons, ↓x_Z, ↓x_Tup, ↓x_Lst, ↓x_Fz, ↓x_Cl, ↓x_BF, ↓x_ZF, ↓x_Tb, ↓x_AndT, ↓x_OrT, ↓x_NotT, ↓x_Yes, ↓x_AndV, ↓x_OrV, ↓x_NotV, ↓x_IfE, ↓x_Chain, ↓x_I, ↓x_Ib, ↓x_AddI, ↓x_AddT, ↓x_Cat, ↓x_Rep, ↓x_Neg, ↓x_Ix, ↓x_No, ↓x_So, ↓x_SlT, ↓x_SlL, ↓x_Rev, ↓x_In, ↓x_NotIn, ↓x_IsN, ↓x_NotN, ↓x_IsB, ↓x_NotB, ↓x_Len, ↓x_Int, ↓x_Max2, ↓x_Max, ↓x_Min, ↓x_Sum, ↓x_All, ↓x_Any, ↓x_List, ↓x_Tuple, ↓x_Sorted, ↓x_M, ↓x_M0, ↓x_Append, ↓x_Pop, ↓x_PopAt, ↓x_Reverse, ↓x_Fld, ↓x_FldNew, ↓x_FldSet, ↓x_FldAug, ↓x_Call, ↓x_Meth, ↓x_Make, ↓x_Frz, ↓x_gN, ↓x_gsNil, ↓x_gsCons, ↓x_gTu, ↓x_gIx, ↓x_SNil, ↓x_Asg, ↓x_Drop, ↓x_Ret, ↓x_RetN, ↓x_If, ↓x_Brk, ↓x_Cnt, ↓x_Aug, ↓x_AugIx, ↓x_Par, ↓x_WIn, ↓x_R1, ↓x_R2, ↓x_R3, ↓x_DNew, ↓x_Disp1, ↓x_DPut, ↓x_SortedD, ↓x_DictP, ↓x_LRg, ↓x_For, ↓x_While, ↓x_Lc, ↓x_Inv, ↓x_Tt, ↓x_En, ↓x_TNew, ↓x_TDisp1, ↓x_TGet, ↓x_TGet2, ↓x_TPut, ↓x_KeysT, ↓x_EqI, ↓x_NeI, ↓x_NeB, ↓e_rt, ↓e_nx, ↓tgP, ↓kR25', ↓kR24', ↓kR23', ↓kR22', ↓kTt', ↓kEn2', ↓kEn', ↓kTD2', ↓kTD1', ↓kTG2', ↓kTG1', ↓kTH3', ↓kTH2', ↓kTH1', ↓kTP3', ↓kTP2', ↓kTP1', ↓kKy', ↓kQ', ↓kB2', ↓kB1', ↓kU', ↓kC2', ↓kC1', ↓kZ', ↓kTup', ↓kLst', ↓kFz', ↓kCl', ↓kBF2', ↓kBF1', ↓kZF', ↓kT', ↓kTb', ↓kAndT', ↓kOrT', ↓kNotT', ↓kAndV2', ↓kAndV', ↓kOrV2', ↓kOrV', ↓kNotV2', ↓kNotV', ↓kIfE', ↓kCh5', ↓kCh4', ↓kCh3', ↓kCh2', ↓kCh1', ↓kI2', ↓kI1', ↓kIb2', ↓kIb1', ↓kCat2', ↓kCat1', ↓kRep2', ↓kRep1', ↓kNeg', ↓kIx2', ↓kIx1', ↓kSo2', ↓kSo', ↓kSl4', ↓kSl3', ↓kSl2', ↓kSl1', ↓kSm4', ↓kSm3', ↓kSm2', ↓kSm1', ↓kRev2', ↓kRev', ↓kIn3', ↓kIn2', ↓kIn1', ↓kNi3', ↓kNi2', ↓kNi1', ↓kIs2', ↓kIs1', ↓kNb2', ↓kNb1', ↓kLen', ↓kMax2', ↓kMax1', ↓kMin2', ↓kMin1', ↓kSum2', ↓kSum1', ↓kAll2', ↓kAll1', ↓kAny2', ↓kAny1', ↓kList', ↓kTuple', ↓kSrt2', ↓kSrt1', ↓kM2', ↓kM1', ↓kM0', ↓kAp2', ↓kAp1', ↓kPop3', ↓kPop2', ↓kPop1', ↓kPa5', ↓kPa4', ↓kPa3', ↓kPa2', ↓kPa1', ↓kRv2', ↓kRv1', ↓kFld2', ↓kFld1', ↓kFn4', ↓kFn3', ↓kFn2', ↓kFn1', ↓kFs4', ↓kFs3', ↓kFs2', ↓kFs1', ↓kFa7', ↓kFa6', ↓kFa5', ↓kFa4', ↓kFa35', ↓kFa3', ↓kFa2', ↓kFa1', ↓kCall', ↓kMt3', ↓kMt2', ↓kMt1', ↓kMk2', ↓kMk1', ↓kFrz3', ↓kFrz2', ↓kFrz1', ↓kGs', ↓kGt', ↓kGi6', ↓kGi5', ↓kGi4', ↓kGi3', ↓kGi2', ↓kGi1', ↓kAsg', ↓kDrop', ↓kIf', ↓kAug3', ↓kAug2', ↓kAug1', ↓kAi10', ↓kAi9', ↓kAi8', ↓kAi7', ↓kAi6', ↓kAi5', ↓kAi4', ↓kAi3', ↓kAi2', ↓kAi1', ↓kPar2', ↓kPar1', ↓kWin2', ↓kWin1', ↓kR12', ↓kR11', ↓kR36', ↓kR35', ↓kR34', ↓kR33', ↓kR32', ↓kR31', ↓kDi3', ↓kDi2', ↓kDi1', ↓kDp6', ↓kDp5', ↓kDp4', ↓kDp3', ↓kDp2', ↓kDp1', ↓kSd2', ↓kSd1', ↓kDc2', ↓kDc1', ↓kLr2', ↓kLr1', ↓kFor', ↓kLc', ↓kF2', z0, z1, z2, z3, z4, z5, z6, z0', bO_some, bI_int, bB_bl, bL_ref, bN_non, bP_t, bY_t, bY_f, q_tup, q_lst, q_rd, q_ref, l_lst, l_ref, i_ins, i_ref, d_dk, d_ref, cl_lst, cl_ins, cl_dk, tr_ref, tr_tup, tr_lst, tr_clst, f_dt, f_lst', f_dk, f_ins, sb, sj, gset0, gset, sset0, sset, g_app0, g_app, flt_t, g_lt, s_lt, gs_self, List.set_set, s_app0, s_app, ixN_nat, at_nat, atI_0, atI_1, atI_2, atI_3, nats_len, ints_nats, mem_cast, nats_app, nats_snoc, nats_rev, nats_set, nats_erase, rng_0, rng_N, lt_cast, le_cast, max_cast, lt0, ge0, eq0, gt0, eq_cast, keyO, tupOf, fzO, List.getElem?_cons_zero, List.getElem?_cons_succ, List.set_cons_zero, List.set_cons_succ, List.length_cons, List.length_nil, List.length_append, List.append_assoc, List.cons_append, List.nil_append, List.append_nil, List.length_set, List.length_map, List.length_range, Nat.reduceAdd, Nat.zero_add, Nat.add_zero, Option.isSome_some, and_self, and_true, true_and, Option.bind_some, decide_true, decide_false, decide_eq_true_eq, wipeD, setAllD, Bool.not_true, Bool.not_false, Tk.isNon, eq_self, if_true, if_pos, start0, List.map_cons, List.map_nil, List.replicate, List.take, Nat.reduceSub, Nat.reduceLeDiff, Nat.reduceLT, Int.toNat_natCast, Int.reduceNeg, Nat.reduceEqDiff, Nat.add_eq, Nat.add_assoc, i_al, dLs_len, $xs,*])
theorem b_common_prefix (ds : List D) (S : Sto) (Q : QE) (h : P_common_prefix c ds S Q) : w_common_prefix c (esDef flCut S Q) (start0 9 ds) S := by
  obtain ⟨A, u, v, x, r, s, rfl, hu, hv, ht, hq⟩ := h
  have o := hu.o
  unfold w_common_prefix
  simp_arith only []
  refine WhP.inv (fun m ρ S' => ∃ (u' v' x' fd : List Nat) (at' : Nat), m = x'.length * 100 + (A.n - at') ∧ S' = S ++ [Cell.lst (nats fd)] ∧ Ws A u' ∧ Ws A v' ∧ Gcd A u' v' x' r s ∧ Eqv A x (fd ++ x') ∧ fd.length + x'.length ≤ 1000 ∧ at' ≤ A.n ∧ (∀ a, a < at' → rdy A u' a = true → rdy A v' a = true → False) ∧ ∃ k j, ρ = [some (dAl c A), some (.tup (nats u)), some (.tup (nats v)), some (.tup (nats u')), some (.tup (nats v')), some (.ref S.length), some (.int (at' : Nat)), k, j]) _
    ⟨u, v, x, [], 0, rfl, rfl, hu, hv, ht, .refl (Wo.app.mp ht.le.r).1, ?_, by omega, fun a h => by omega, _, _, rfl⟩ ?_
  · have := ht.le.length o
    rw [List.length_append] at this
    have := hu.z
    simp
    omega
  · rintro m ρ S' ⟨u', v', x', fd, at', rfl, rfl, hu', hv', ht', hx', hl', han, hn, k, j, rfl⟩
    have h6 := o.n6
    simp_arith only []
    refine bY_mk (fun h => ?_) (fun h => ?_)
    · have hat := of_decide_eq_true h
      refine ⟨A, u', at', rfl, hu', ?_⟩
      simp_arith only []
      refine ⟨A, v', at', rfl, hv', ?_⟩
      simp_arith only []
      cases e1 : fpl A u' at' with
      | none =>
        have hno := fpl_none o hu'.w hat e1
        simp_arith only [optI, show decide ((0 : Int) ≤ -1) = false from rfl, add1_cast]
        refine ⟨x'.length * 100 + (A.n - (at' + 1)), by omega, u', v', x', fd, at' + 1, rfl, rfl, hu', hv', ht', hx', hl', by omega, fun a ha h1 h2 => ?_, _, _, rfl⟩
        by_cases q : a = at'
        · subst q
          rw [hno] at h1
          cases h1
        · exact hn a (by omega) h1 h2
      | some k1 =>
        cases e2 : fpl A v' at' with
        | none =>
          have hno := fpl_none o hv'.w hat e2
          simp_arith only [optI, show decide ((0 : Int) ≤ -1) = false from rfl, add1_cast]
          refine ⟨x'.length * 100 + (A.n - (at' + 1)), by omega, u', v', x', fd, at' + 1, rfl, rfl, hu', hv', ht', hx', hl', by omega, fun a ha h1 h2 => ?_, _, _, rfl⟩
          by_cases q : a = at'
          · subst q
            rw [hno] at h2
            cases h2
          · exact hn a (by omega) h1 h2
        | some k2 =>
          obtain ⟨p1, p2, p3, p4⟩ := fpl_some o hu'.w e1
          obtain ⟨q1, q2, q3, q4⟩ := fpl_some o hv'.w e2
          obtain ⟨t1, t2⟩ := gcd_step o ht' hat p2 q2
          simp_arith only [optI, szL fd.length (by omega)]
          refine ⟨u', k1, rfl, p1, hu'.z, ?_⟩
          simp_arith only []
          refine ⟨v', k2, rfl, q1, hv'.z, ?_⟩
          simp_arith only [p3, q3]
          have hm : at' ∈ x' := rdy_mem o hat t1
          have hle := List.length_erase_of_mem hm
          have hpo := List.length_pos_of_mem hm
          have hxw := (Wo.app.mp hx'.r)
          have l1 := List.length_erase_le (a := at') (l := u')
          have l2 := List.length_erase_le (a := at') (l := v')
          have z1 := hu'.z
          have z2 := hv'.z
          refine ⟨(x'.erase at').length * 100 + (A.n - 0), by omega, u'.erase at', v'.erase at', x'.erase at', fd ++ [at'], 0, rfl, rfl, ⟨o, by omega, t2.le.l⟩, ⟨o, by omega, t2.ri.l⟩, t2, ?_, ?_, by omega, fun a h => by omega, _, _, rfl⟩
          · refine hx'.trans ?_
            rw [List.append_assoc]
            exact (Eqv.refl hxw.1).app (rdy_erase o hxw.2 hat t1)
          · simp only [List.length_append, List.length_cons, List.length_nil]
            omega
    · have hat := of_decide_eq_false h
      have hx0 : x' = [] := gcd_end ht' fun a ha => hn a (by omega)
      subst hx0
      rw [List.append_nil] at hx'
      try simp_arith only []
      refine ⟨A, _, fd, rfl, by simp_arith only [], ⟨o, ?_, hx'.r⟩, ?_⟩
      · simp at hl'
        omega
      · rw [← lf_cong o hx']
        try simp_arith only []
        exact cut_app (ok_tup _ _) hq
theorem jn_of {A : Al} {u v x r s : List Nat} (g : Gcd A u v x r s) (h : Tr.Apart A r s) : Jn A [u, v] (x ++ r ++ s) := by
  obtain ⟨h1, h2⟩ := join_le g h
  refine ⟨?_, fun w hw => ?_, fun y hy k => join_least g h (k u (by simp)) (k v (by simp))⟩
  · rw [List.append_assoc]
    have k1 := Wo.app.mp g.le.r
    have k2 := Wo.app.mp g.ri.r
    exact Wo.app.mpr ⟨k1.1, Wo.app.mpr ⟨k1.2, k2.2⟩⟩
  · simp only [List.mem_cons, List.not_mem_nil, or_false] at hw
    rcases hw with q | q <;> subst q
    · exact h1
    · exact h2
theorem b_join (ds : List D) (S : Sto) (Q : QE) (h : P_join c ds S Q) : w_join c (esDef flCut S Q) (start0 6 ds) S := by
  obtain ⟨A, u, v, rfl, hu, hv, hln, hq0, hq⟩ := h
  have o := hu.o
  obtain ⟨x, r, s, ht⟩ := gcd_ex o _ rfl hu.w hv.w
  unfold w_join
  simp_arith only []
  refine ⟨A, u, v, x, r, s, rfl, hu, hv, ht, ?_⟩
  simp_arith only []
  have hx := (Wo.app.mp ht.le.r)
  have hs := (Wo.app.mp ht.ri.r)
  have l1 := ht.le.length o
  have l2 := ht.ri.length o
  rw [List.length_append] at l1 l2
  have z1 := hu.z
  have z2 := hv.z
  have ex := lf_e o hx.1
  have er := lf_e o hx.2
  have es := lf_e o hs.2
  refine ⟨A, _, u, r, rfl, hu, ht.le.trans (ex.app (.refl hx.2)), ?_⟩
  simp_arith only []
  refine ⟨A, _, v, s, rfl, hv, ht.ri.trans (ex.app (.refl hs.2)), ?_⟩
  simp_arith only []
  refine ⟨A, _, _, rfl, er.r, es.r, ?_⟩
  have hap : apB A (lf A r) (lf A s) = true ↔ Cmp A u v := by
    rw [apB_iff, ← gcd_apart o ht]
    constructor
    · exact fun h a ha b hb => h a ((er.perm o).mem_iff.mp ha) b ((es.perm o).mem_iff.mp hb)
    · exact fun h a ha b hb => h a ((er.perm o).mem_iff.mpr ha) b ((es.perm o).mem_iff.mpr hb)
  by_cases hc : Cmp A u v
  · rw [hap.mpr hc]
    have ha := (gcd_apart o ht).mpr hc
    simp_arith only [lf_len o hx.1, lf_len o hx.2, lf_len o hs.2, szM (x.length + r.length) (by omega), eq_true (szl (show x.length + (r.length + s.length) ≤ 1000000 by omega)), eq_true (szl (show x.length + r.length + s.length ≤ 1000000 by omega))]
    have ea := (ex.app er).app es
    refine ⟨A, _, lf A x ++ (lf A r ++ lf A s), rfl, rfl, ⟨o, ?_, ?_⟩, ?_⟩
    · rw [List.length_append, List.length_append, lf_len o hx.1, lf_len o hx.2, lf_len o hs.2]
      omega
    · rw [← List.append_assoc]
      exact ea.r
    · rw [← List.append_assoc, ← lf_cong o ea]
      refine cut_rfl (ok_tup _ _) (hq hc _ (jn_of ht ha) ?_ fun y h1 h2 => join_cmp ht ha h1 h2)
      simp only [List.length_append]
      omega
  · rw [Bool.eq_false_iff.mpr fun q => hc (hap.mp q)]
    simp_arith only [Bool.false_eq_true, if_false]
    exact cut_rfl .non (hq0 hc)
theorem bits64 : ∀ n : Nat, n < 64 → ∀ m : Nat, m < 64 → ∀ b : Nat, b < 6 → (n - (n &&& m)).testBit b = (n.testBit b && !m.testBit b) := by decide +kernel
theorem bandn_cast (a b : Nat) : Builtin.bitAnd (a : Int) (Builtin.bitNot (b : Int)) = ((a - (a &&& b) : Nat) : Int) := by
  unfold Builtin.bitAnd Builtin.bitNot
  have h1 : decide (0 ≤ (a : Int)) = true := by rw [decide_eq_true_eq]; omega
  have h2 : decide (0 ≤ -(b : Int) - 1) = false := by rw [decide_eq_false_iff_not]; omega
  rw [h1, h2]
  have h3 : (-(-(b : Int) - 1) - 1).toNat = b := by omega
  have h4 : (a &&& b) ≤ a := Nat.and_le_left
  simp only [h3, Int.toNat_natCast]
  omega
theorem maskOf_lt {A : Al} (o : Ok A) (a : Nat) : maskOf A a A.n < 64 := by
  have h : maskOf A a A.n < 2 ^ A.n := Nat.lt_pow_two_of_testBit _ fun i hi => by
    rw [mask_bit]
    have : decide (i < A.n) = false := by rw [decide_eq_false_iff_not]; omega
    rw [this]
    rfl
  have h6 := o.n6
  have : 2 ^ A.n ≤ 2 ^ 6 := Nat.pow_le_pow_right (by omega) h6
  omega
theorem b_next_barred (ds : List D) (S : Sto) (Q : QE) (h : P_next_barred c ds S Q) : w_next_barred c (esDef flCut S Q) (start0 4 ds) S := by
  obtain ⟨A, a, n, rfl, o, ha, hn, hq⟩ := h
  unfold w_next_barred
  have h6 := o.n6
  have cp : CPow 1 (a : Nat) = True := eq_true ⟨by omega, by omega, by decide⟩
  have e1 : 0 < 1 <<< a := by rw [Nat.shiftLeft_eq]; simp [Nat.pow_pos]
  have e2 : (nats (dFn A fun a => maskOf A a A.n))[a]? = some (.int (maskOf A a A.n : Nat)) := by
    rw [nats_at (by rw [dFn_len]; exact ha), dFn_at _ ha]
  simp_arith only [cp, shl_cast', e2]
  refine cut_rfl (.int _) ?_
  rw [sub1_cast e1, bor_cast, bandn_cast]
  refine hq _ ?_ fun b hb => ?_
  · have h1 : n ||| (1 <<< a - 1) < 2 ^ 6 := Nat.or_lt_two_pow (by omega) (by
      rw [Nat.shiftLeft_eq, Nat.one_mul]
      have : 2 ^ a ≤ 2 ^ 6 := Nat.pow_le_pow_right (by omega) (by omega)
      have : 0 < 2 ^ a := Nat.pow_pos (by omega)
      omega)
    omega
  · have h1 : n ||| (1 <<< a - 1) < 2 ^ 6 := Nat.or_lt_two_pow (by omega) (by
      rw [Nat.shiftLeft_eq, Nat.one_mul]
      have : 2 ^ a ≤ 2 ^ 6 := Nat.pow_le_pow_right (by omega) (by omega)
      have : 0 < 2 ^ a := Nat.pow_pos (by omega)
      omega)
    rw [bits64 _ h1 _ (maskOf_lt o a) b (by omega), mask_bit, Nat.testBit_or, Nat.shiftLeft_eq, Nat.one_mul, Nat.testBit_two_pow_sub_one, decide_eq_true hb, Bool.true_and]
end K5

namespace K5
open PySem Tk Tr L2
variable {c : Ca}
local macro_rules | `(tactic| simp_arith only [$xs,*]) => `(tactic| simp only [↓x_V, ↓x_C, ↓x_B, ↓x_U, ↓x_Nil, ↓x_Cons, ↓x_Z, ↓x_Tup, ↓x_Lst, ↓x_Fz, ↓x_Cl, ↓x_BF, ↓x_ZF, ↓x_Tb, ↓x_AndT, ↓x_OrT, ↓x_NotT, ↓x_Yes, ↓x_AndV, ↓x_OrV, ↓x_NotV, ↓x_IfE, ↓x_Chain, ↓x_I, ↓x_Ib, ↓x_AddI, ↓x_AddT, ↓x_Cat, ↓x_Rep, ↓x_Neg, ↓x_Ix, ↓x_No, ↓x_So, ↓x_SlT, ↓x_SlL, ↓x_Rev, ↓x_In, ↓x_NotIn, ↓x_IsN, ↓x_NotN, ↓x_IsB, ↓x_NotB, ↓x_Len, ↓x_Int, ↓x_Max2, ↓x_Max, ↓x_Min, ↓x_Sum, ↓x_All, ↓x_Any, ↓x_List, ↓x_Tuple, ↓x_Sorted, ↓x_M, ↓x_M0, ↓x_Append, ↓x_Pop, ↓x_PopAt, ↓x_Reverse, ↓x_Fld, ↓x_FldNew, ↓x_FldSet, ↓x_FldAug, ↓x_Call, ↓x_Meth, ↓x_Make, ↓x_Frz, ↓x_gN, ↓x_gsNil, ↓x_gsCons, ↓x_gTu, ↓x_gIx, ↓x_Seq, ↓x_SNil, ↓x_Asg, ↓x_Drop, ↓x_Ret, ↓x_RetN, ↓x_If, ↓x_Brk, ↓x_Cnt, ↓x_Aug, ↓x_AugIx, ↓x_Par, ↓x_WIn, ↓x_R1, ↓x_R2, ↓x_R3, ↓x_DNew, ↓x_Disp1, ↓x_DPut, ↓x_SortedD, ↓x_DictP, ↓x_LRg, ↓x_For, ↓x_While, ↓x_Lc, ↓x_Inv, ↓x_Tt, ↓x_En, ↓x_TNew, ↓x_TDisp1, ↓x_TGet, ↓x_TGet2, ↓x_TPut, ↓x_KeysT, ↓x_EqI, ↓x_NeI, ↓x_NeB, ↓e_rt, ↓e_nx, ↓tgP, ↓kR25', ↓kR24', ↓kR23', ↓kR22', ↓kTt', ↓kEn2', ↓kEn', ↓kTD2', ↓kTD1', ↓kTG2', ↓kTG1', ↓kTH3', ↓kTH2', ↓kTH1', ↓kTP3', ↓kTP2', ↓kTP1', ↓kKy', ↓kQ', ↓kB2', ↓kB1', ↓kU', ↓kC2', ↓kC1', ↓kZ', ↓kTup', ↓kLst', ↓kFz', ↓kCl', ↓kBF2', ↓kBF1', ↓kZF', ↓kT', ↓kTb', ↓kAndT', ↓kOrT', ↓kNotT', ↓kAndV2', ↓kAndV', ↓kOrV2', ↓kOrV', ↓kNotV2', ↓kNotV', ↓kIfE', ↓kCh5', ↓kCh4', ↓kCh3', ↓kCh2', ↓kCh1', ↓kI2', ↓kI1', ↓kIb2', ↓kIb1', ↓kCat2', ↓kCat1', ↓kRep2', ↓kRep1', ↓kNeg', ↓kIx2', ↓kIx1', ↓kSo2', ↓kSo', ↓kSl4', ↓kSl3', ↓kSl2', ↓kSl1', ↓kSm4', ↓kSm3', ↓kSm2', ↓kSm1', ↓kRev2', ↓kRev', ↓kIn3', ↓kIn2', ↓kIn1', ↓kNi3', ↓kNi2', ↓kNi1', ↓kIs2', ↓kIs1', ↓kNb2', ↓kNb1', ↓kLen', ↓kMax2', ↓kMax1', ↓kMin2', ↓kMin1', ↓kSum2', ↓kSum1', ↓kAll2', ↓kAll1', ↓kAny2', ↓kAny1', ↓kList', ↓kTuple', ↓kSrt2', ↓kSrt1', ↓kM2', ↓kM1', ↓kM0', ↓kAp2', ↓kAp1', ↓kPop3', ↓kPop2', ↓kPop1', ↓kPa5', ↓kPa4', ↓kPa3', ↓kPa2', ↓kPa1', ↓kRv2', ↓kRv1', ↓kFld2', ↓kFld1', ↓kFn4', ↓kFn3', ↓kFn2', ↓kFn1', ↓kFs4', ↓kFs3', ↓kFs2', ↓kFs1', ↓kFa7', ↓kFa6', ↓kFa5', ↓kFa4', ↓kFa35', ↓kFa3', ↓kFa2', ↓kFa1', ↓kCall', ↓kMt3', ↓kMt2', ↓kMt1', ↓kMk2', ↓kMk1', ↓kFrz3', ↓kFrz2', ↓kFrz1', ↓kGs', ↓kGt', ↓kGi6', ↓kGi5', ↓kGi4', ↓kGi3', ↓kGi2', ↓kGi1', ↓kAsg', ↓kDrop', ↓kIf', ↓kAug3', ↓kAug2', ↓kAug1', ↓kAi10', ↓kAi9', ↓kAi8', ↓kAi7', ↓kAi6', ↓kAi5', ↓kAi4', ↓kAi3', ↓kAi2', ↓kAi1', ↓kPar2', ↓kPar1', ↓kWin2', ↓kWin1', ↓kR12', ↓kR11', ↓kR36', ↓kR35', ↓kR34', ↓kR33', ↓kR32', ↓kR31', ↓kDi3', ↓kDi2', ↓kDi1', ↓kDp6', ↓kDp5', ↓kDp4', ↓kDp3', ↓kDp2', ↓kDp1', ↓kSd2', ↓kSd1', ↓kDc2', ↓kDc1', ↓kLr2', ↓kLr1', ↓kFor', ↓kLc', ↓kF2', z0, z1, z2, z3, z4, z5, z6, z0', bO_some, bI_int, bB_bl, bL_ref, bN_non, bP_t, bY_t, bY_f, q_tup, q_lst, q_rd, q_ref, l_lst, l_ref, i_ins, i_ref, d_dk, d_ref, cl_lst, cl_ins, cl_dk, tr_ref, tr_tup, tr_lst, tr_clst, f_dt, f_lst', f_dk, f_ins, sb, sj, gset0, gset, sset0, sset, g_app0, g_app, flt_t, g_lt, s_lt, gs_self, List.set_set, s_app0, s_app, ixN_nat, at_nat, atI_0, atI_1, atI_2, atI_3, nats_len, ints_nats, mem_cast, nats_app, nats_snoc, nats_rev, nats_set, nats_erase, rng_0, rng_N, lt_cast, le_cast, max_cast, lt0, ge0, eq0, gt0, eq_cast, keyO, tupOf, fzO, List.getElem?_cons_zero, List.getElem?_cons_succ, List.set_cons_zero, List.set_cons_succ, List.length_cons, List.length_nil, List.length_append, List.append_assoc, List.cons_append, List.nil_append, List.append_nil, List.length_set, List.length_map, List.length_range, Nat.reduceAdd, Nat.zero_add, Nat.add_zero, Option.isSome_some, and_self, and_true, true_and, Option.bind_some, decide_true, decide_false, decide_eq_true_eq, wipeD, setAllD, Bool.not_true, Bool.not_false, Tk.isNon, eq_self, if_true, if_pos, start0, List.map_cons, List.map_nil, List.replicate, List.take, Nat.reduceSub, Nat.reduceLeDiff, Nat.reduceLT, Int.toNat_natCast, Int.reduceNeg, Nat.reduceEqDiff, Nat.add_eq, Nat.add_assoc, i_al, dLs_len, $xs,*])
local macro_rules | `(tactic| simp_arith! only [$xs,*]) => `(tactic| simp only [↓x_V, ↓x_C, ↓x_B, ↓x_U, ↓x_Nil, ↓x_Cons, ↓x_Z, ↓x_Tup, ↓x_Lst, ↓x_Fz, ↓x_Cl, ↓x_BF, ↓x_ZF, ↓x_Tb, ↓x_AndT, ↓x_OrT, ↓x_NotT, ↓x_Yes, ↓x_AndV, ↓x_OrV, ↓x_NotV, ↓x_IfE, ↓x_Chain, ↓x_I, ↓x_Ib, ↓x_AddI, ↓x_AddT, ↓x_Cat, ↓x_Rep, ↓x_Neg, ↓x_Ix, ↓x_No, ↓x_So, ↓x_SlT, ↓x_SlL, ↓x_Rev, ↓x_In, ↓x_NotIn, ↓x_IsN, ↓x_NotN, ↓x_IsB, ↓x_NotB, ↓x_Len, ↓x_Int, ↓x_Max2, ↓x_Max, ↓x_Min, ↓x_Sum, ↓x_All, ↓x_Any, ↓x_List, ↓x_Tuple, ↓x_Sorted, ↓x_M, ↓x_M0, ↓x_Append, ↓x_Pop, ↓x_PopAt, ↓x_Reverse, ↓x_Fld, ↓x_FldNew, ↓x_FldSet, ↓x_FldAug, ↓x_Call, ↓x_Meth, ↓x_Make, ↓x_Frz, ↓x_gN, ↓x_gsNil, ↓x_gsCons, ↓x_gTu, ↓x_gIx, ↓x_SNil, ↓x_Asg, ↓x_Drop, ↓x_Ret, ↓x_RetN, ↓x_If, ↓x_Brk, ↓x_Cnt, ↓x_Aug, ↓x_AugIx, ↓x_Par, ↓x_WIn, ↓x_R1, ↓x_R2, ↓x_R3, ↓x_DNew, ↓x_Disp1, ↓x_DPut, ↓x_SortedD, ↓x_DictP, ↓x_LRg, ↓x_For, ↓x_While, ↓x_Lc, ↓x_Inv, ↓x_Tt, ↓x_En, ↓x_TNew, ↓x_TDisp1, ↓x_TGet, ↓x_TGet2, ↓x_TPut, ↓x_KeysT, ↓x_EqI, ↓x_NeI, ↓x_NeB, ↓e_rt, ↓e_nx, ↓tgP, ↓kR25', ↓kR24', ↓kR23', ↓kR22', ↓kTt', ↓kEn2', ↓kEn', ↓kTD2', ↓kTD1', ↓kTG2', ↓kTG1', ↓kTH3', ↓kTH2', ↓kTH1', ↓kTP3', ↓kTP2', ↓kTP1', ↓kKy', ↓kQ', ↓kB2', ↓kB1', ↓kU', ↓kC2', ↓kC1', ↓kZ', ↓kTup', ↓kLst', ↓kFz', ↓kCl', ↓kBF2', ↓kBF1', ↓kZF', ↓kT', ↓kTb', ↓kAndT', ↓kOrT', ↓kNotT', ↓kAndV2', ↓kAndV', ↓kOrV2', ↓kOrV', ↓kNotV2', ↓kNotV', ↓kIfE', ↓kCh5', ↓kCh4', ↓kCh3', ↓kCh2', ↓kCh1', ↓kI2', ↓kI1', ↓kIb2', ↓kIb1', ↓kCat2', ↓kCat1', ↓kRep2', ↓kRep1', ↓kNeg', ↓kIx2', ↓kIx1', ↓kSo2', ↓kSo', ↓kSl4', ↓kSl3', ↓kSl2', ↓kSl1', ↓kSm4', ↓kSm3', ↓kSm2', ↓kSm1', ↓kRev2', ↓kRev', ↓kIn3', ↓kIn2', ↓kIn1', ↓kNi3', ↓kNi2', ↓kNi1', ↓kIs2', ↓kIs1', ↓kNb2', ↓kNb1', ↓kLen', ↓kMax2', ↓kMax1', ↓kMin2', ↓kMin1', ↓kSum2', ↓kSum1', ↓kAll2', ↓kAll1', ↓kAny2', ↓kAny1', ↓kList', ↓kTuple', ↓kSrt2', ↓kSrt1', ↓kM2', ↓kM1', ↓kM0', ↓kAp2', ↓kAp1', ↓kPop3', ↓kPop2', ↓kPop1', ↓kPa5', ↓kPa4', ↓kPa3', ↓kPa2', ↓kPa1', ↓kRv2', ↓kRv1', ↓kFld2', ↓kFld1', ↓kFn4', ↓kFn3', ↓kFn2', ↓kFn1', ↓kFs4', ↓kFs3', ↓kFs2', ↓kFs1', ↓kFa7', ↓kFa6', ↓kFa5', ↓kFa4', ↓kFa35', ↓kFa3', ↓kFa2', ↓kFa1', ↓kCall', ↓kMt3', ↓kMt2', ↓kMt1', ↓kMk2', ↓kMk1', ↓kFrz3', ↓kFrz2', ↓kFrz1', ↓kGs', ↓kGt', ↓kGi6', ↓kGi5', ↓kGi4', ↓kGi3', ↓kGi2', ↓kGi1', ↓kAsg', ↓kDrop', ↓kIf', ↓kAug3', ↓kAug2', ↓kAug1', ↓kAi10', ↓kAi9', ↓kAi8', ↓kAi7', ↓kAi6', ↓kAi5', ↓kAi4', ↓kAi3', ↓kAi2', ↓kAi1', ↓kPar2', ↓kPar1', ↓kWin2', ↓kWin1', ↓kR12', ↓kR11', ↓kR36', ↓kR35', ↓kR34', ↓kR33', ↓kR32', ↓kR31', ↓kDi3', ↓kDi2', ↓kDi1', ↓kDp6', ↓kDp5', ↓kDp4', ↓kDp3', ↓kDp2', ↓kDp1', ↓kSd2', ↓kSd1', ↓kDc2', ↓kDc1', ↓kLr2', ↓kLr1', ↓kFor', ↓kLc', ↓kF2', z0, z1, z2, z3, z4, z5, z6, z0', bO_some, bI_int, bB_bl, bL_ref, bN_non, bP_t, bY_t, bY_f, q_tup, q_lst, q_rd, q_ref, l_lst, l_ref, i_ins, i_ref, d_dk, d_ref, cl_lst, cl_ins, cl_dk, tr_ref, tr_tup, tr_lst, tr_clst, f_dt, f_lst', f_dk, f_ins, sb, sj, gset0, gset, sset0, sset, g_app0, g_app, flt_t, g_lt, s_lt, gs_self, List.set_set, s_app0, s_app, ixN_nat, at_nat, atI_0, atI_1, atI_2, atI_3, nats_len, ints_nats, mem_cast, nats_app, nats_snoc, nats_rev, nats_set, nats_erase, rng_0, rng_N, lt_cast, le_cast, max_cast, lt0, ge0, eq0, gt0, eq_cast, keyO, tupOf, fzO, List.getElem?_cons_zero, List.getElem?_cons_succ, List.set_cons_zero, List.set_cons_succ, List.length_cons, List.length_nil, List.length_append, List.append_assoc, List.cons_append, List.nil_append, List.append_nil, List.length_set, List.length_map, List.length_range, Nat.reduceAdd, Nat.zero_add, Nat.add_zero, Option.isSome_some, and_self, and_true, true_and, Option.bind_some, decide_true, decide_false, decide_eq_true_eq, wipeD, setAllD, Bool.not_true, Bool.not_false, Tk.isNon, eq_self, if_true, if_pos, start0, List.map_cons, List.map_nil, List.replicate, List.take, Nat.reduceSub, Nat.reduceLeDiff, Nat.reduceLT, Int.toNat_natCast, Int.reduceNeg, Nat.reduceEqDiff, Nat.add_eq, Nat.add_assoc, i_al, dLs_len, $xs,*])
theorem lf_fix {A : Al} (o : Ok A) {a : Nat} {w : List Nat} (hw : Wo A (a :: w)) (h : lf A (a :: w) = a :: w) : lr A (a :: w) = some a ∧ lf A w = w := by
  cases e : lr A (a :: w) with
  | none =>
    have := lr_none hw e
    cases this
  | some b =>
    have h2 := lf_step o e
    rw [h] at h2
    obtain ⟨h3, h4⟩ := List.cons.inj h2
    subst h3
    have h5 : (a :: w).erase a = w := by simp
    rw [h5] at h4
    exact ⟨rfl, h4.symm⟩
theorem lf_drop {A : Al} (o : Ok A) : ∀ {w : List Nat} (j : Nat), Wo A w → lf A w = w → lf A (w.drop j) = w.drop j
  | w, 0, _, h => h
  | [], j + 1, _, h => h
  | a :: w, j + 1, hw, h => by
    show lf A (w.drop j) = w.drop j
    exact lf_drop o j hw.cons.2 (lf_fix o hw h).2
/-- a letter that may not come next: behind a greater one, from which on all go by it -/
def Bad (A : Al) (ys : List Nat) (b : Nat) : Prop := ∃ u a v, ys = u ++ a :: v ∧ b < a ∧ dep A a b = false ∧ ∀ x ∈ v, dep A x b = false
theorem bad_not {A : Al} (o : Ok A) {w ys zs : List Nat} {b : Nat} (hw : Wo A w) (h : lf A w = w) (e : w = ys ++ b :: zs) : ¬ Bad A ys b := by
  rintro ⟨u, a, v, rfl, hba, hd, hv⟩
  have h1 : lf A (w.drop u.length) = w.drop u.length := lf_drop o _ hw h
  have e1 : w.drop u.length = a :: (v ++ b :: zs) := by
    rw [e, List.append_assoc, List.drop_left']
    · rfl
    · rfl
  rw [e1] at h1
  have hw1 : Wo A (a :: (v ++ b :: zs)) := by
    rw [← e1]
    exact fun x hx => hw x (List.mem_of_mem_drop hx)
  have h2 := (lf_fix o hw1 h1).1
  have hr : rdy A (a :: (v ++ b :: zs)) b = true := rdy_of (x := a :: v) (y := zs) fun x hx => by
    rcases List.mem_cons.mp hx with q | q
    · rw [q]
      exact hd
    · exact hv x q
  have hb : b < A.n := hw1 b (by simp)
  have := lr_least h2 hb hr
  omega
theorem bad_step {A : Al} {ys : List Nat} {a b : Nat} : Bad A (ys ++ [a]) b ↔ ((Bad A ys b ∨ b < a) ∧ dep A a b = false) := by
  constructor
  · rintro ⟨u, x, v, e, h1, h2, h3⟩
    rcases List.eq_nil_or_concat v with q | ⟨v', y, q⟩
    · subst q
      have e' := List.append_inj' e rfl
      have := (List.cons.inj e'.2).1
      subst this
      exact ⟨.inr h1, h2⟩
    · rw [List.concat_eq_append] at q
      subst q
      have e2 : ys ++ [a] = (u ++ x :: v') ++ [y] := by rw [e]; simp
      have e' := List.append_inj' e2 rfl
      have := (List.cons.inj e'.2).1
      subst this
      exact ⟨.inl ⟨u, x, v', e'.1, h1, h2, fun z hz => h3 z (by simp [hz])⟩, h3 a (by simp)⟩
  · rintro ⟨⟨u, x, v, rfl, h1, h2, h3⟩ | h, hd⟩
    · exact ⟨u, x, v ++ [a], by simp, h1, h2, fun z hz => by
        rcases List.mem_append.mp hz with q | q
        · exact h3 z q
        · rw [List.mem_singleton.mp q]
          exact hd⟩
    · exact ⟨ys, a, [], rfl, h, hd, by simp⟩
theorem b_is_least (ds : List D) (S : Sto) (Q : QE) (h : P_is_least c ds S Q) : w_is_least c (esDef flCut S Q) (start0 5 ds) S := by
  obtain ⟨A, w, rfl, hw, hl, hq⟩ := h
  have o := hw.o
  have h6 := o.n6
  unfold w_is_least
  simp_arith only []
  refine ⟨A, rfl, o, ?_⟩
  simp_arith only []
  refine ForP.over w (fun n : Nat => D.int (n : Nat)) (fun ys ρ S' => S' = S ∧ ∃ (n : Nat) (x : Option D), n < 64 ∧ (∀ b, b < A.n → (n.testBit b = true ↔ Bad A ys b)) ∧ ρ = [some (dAl c A), some (.tup (nats w)), some (.lst (nats (dFn A fun a => maskOf A a A.n))), some (.int (n : Nat)), x]) ⟨rfl, 0, _, by omega, fun b hb => ⟨fun h => by simp at h, fun ⟨u, x, v, e, _⟩ => by simp at e⟩, rfl⟩ (fun ys ρ S' h => trivial) ?_ ?_
  · rintro ys a zs ρ S' hx ⟨rfl, n, x, hn, hb, rfl⟩
    have ha : a < A.n := hw.w a (by rw [hx]; simp)
    have e0 : n.testBit a = false := Bool.eq_false_iff.mpr fun q => bad_not o hw.w hl hx ((hb a ha).mp q)
    simp_arith only [bit_1, shr_cast', e0, show ((0 : Int) ≤ (a : Nat)) = True from eq_true (by omega)]
    refine ⟨A, a, n, rfl, o, ha, hn, fun m hm hmb => ?_⟩
    try simp_arith only []
    refine ⟨m, _, hm, fun b hb' => ?_, rfl⟩
    rw [hmb b hb', bad_step, ← hb b hb']
    simp
  · rintro ρ S' ⟨rfl, n, x, hn, hb, rfl⟩
    simp_arith only []
    exact cut_rfl (.bl _) hq
theorem b_earlier_counts (ds : List D) (S : Sto) (Q : QE) (h : P_earlier_counts c ds S Q) : w_earlier_counts c (esDef flCut S Q) (start0 8 ds) S := by
  obtain ⟨A, w, rfl, hw, hq⟩ := h
  have o := hw.o
  have h6 := o.n6
  have hz := hw.z
  unfold w_earlier_counts
  have szN' : ∀ m : Nat, m ≤ 1000 → (1 * m ≤ PySem.sizeLine) = True := fun m hm => eq_true (szl (by omega))
  simp_arith only [sz4 _ hw.z]
  refine ForP.range _ (fun i ρ S' => (∃ (F : Nat → Nat → Nat) (T : List Cell), S' = S ++ (Cell.lst ((List.range i).map fun k => .lst (nats (dFn A (F k)))) :: T) ∧ ∀ k b, k < i → F k b ≤ (w.take k).count b) ∧ ∃ x y z u, ρ = [some (dAl c A), some (.tup (nats w)), some (.ref S.length), some (.int (A.n : Nat)), x, y, z, u]) ⟨⟨fun _ _ => 0, [], rfl, fun k b hk => by omega⟩, _, _, _, _, rfl⟩ (fun ys ρ S' h => trivial) ?_ ?_
  · rintro i ρ S' hi ⟨⟨F, T, rfl, hF⟩, x, y, z, u, rfl⟩
    have szi : (-(2 ^ 62) ≤ (i : Int) ∧ (i : Int) < 2 ^ 62) = True := sz4 i (by omega)
    have szn := szN o
    try simp_arith! only []
    (rw [x_Seq]; simp_arith! only [rep0])
    refine bP_mk ⟨⟨by omega, by omega⟩, szl (by omega)⟩ ?_
    try simp_arith! only []
    (rw [x_Seq]; simp_arith! only [szi])
    refine ForP.range _ (fun j ρ S' => (∃ (T' : List Cell) (cs : List Nat), S' = S ++ (Cell.lst ((List.range i).map fun k => .lst (nats (dFn A (F k)))) :: (T' ++ [Cell.lst (nats cs)])) ∧ cs.length = A.n ∧ (∀ b, at0 cs b ≤ (w.take i).count b) ∧ ∃ z u, ρ = [some (dAl c A), some (.tup (nats w)), some (.ref S.length), some (.int (A.n : Nat)), some (.int (i : Nat)), some (.ref (S.length + (T'.length + 1))), z, u])) ⟨T, _, rfl, by simp, fun b => by rw [show at0 (List.replicate A.n 0) b = 0 from by unfold at0; rw [List.getD_eq_getElem?_getD, List.getElem?_replicate]; split <;> rfl]; omega, z, u, rfl⟩ (fun ys ρ S' h => trivial) ?_ ?_
    · rintro j ρ S' hj ⟨T', cs, rfl, hl, hc, z, u, rfl⟩
      simp_arith! only [nats_at (show j < w.length by omega), nats_at hi]
      refine ⟨A, at0 w j, at0 w i, rfl, at0_lt hw.w (by omega), at0_lt hw.w hi, ?_⟩
      cases hd : dep A (at0 w j) (at0 w i) with
      | false =>
        simp_arith! only []
        exact ⟨T', cs, rfl, hl, hc, _, _, rfl⟩
      | true =>
        have hgt : ((List.range i).map fun k => D.lst (nats (dFn A (F k))))[j]? = some (.lst (nats (dFn A (F j)))) := by
          rw [List.getElem?_map, List.getElem?_range hj]
          rfl
        have hwj := at0_lt hw.w (show j < w.length by omega)
        try simp_arith! only []
        (rw [x_Seq]; simp_arith! only [szn])
        refine LcP.pure (List.range A.n) (fun n : Nat => D.int (n : Nat)) (fun _ => true) (fun b => D.int (max (at0 cs b) (F j b) : Nat)) trivial (szl (by simp; omega)) (fun b hb X Y hX hY => ?_) ?_
        · have hb := List.mem_range.mp hb
          simp_arith! only [nats_at (show b < cs.length by omega), hgt, nats_at (show b < (dFn A (F j)).length by rw [dFn_len]; exact hb), dFn_at _ hb]
          exact hX rfl
        · rw [flt_t]
          have e1 : ((List.range A.n).map fun b => D.int (max (at0 cs b) (F j b) : Nat)) = nats (dFn A fun b => max (at0 cs b) (F j b)) := map_dFn A fun b => max (at0 cs b) (F j b)
          rw [e1]
          try simp_arith! only [nats_at (show j < w.length by omega), hgt, nats_at (show at0 w j < (dFn A (F j)).length by rw [dFn_len]; exact hwj), dFn_at _ hwj, add1_cast, nats_at (show at0 w j < (dFn A fun b => max (at0 cs b) (F j b)).length by rw [dFn_len]; exact hwj), dFn_len, hwj]
          refine ⟨T' ++ [Cell.lst (nats cs)], (dFn A fun b => max (at0 cs b) (F j b)).set (at0 w j) (max (max (at0 cs (at0 w j)) (F j (at0 w j))) (F j (at0 w j) + 1)), ?_, by rw [List.length_set, dFn_len], fun b => ?_, some (.int (j : Nat)), u, ?_⟩
          · simp [nats_set]
          · have t1 : (w.take (j + 1)).count b ≤ (w.take i).count b := ((List.take_prefix_take_left (by omega)).sublist).count_le b
            have t2 : w.take (j + 1) = w.take j ++ [at0 w j] := take_succ_at (by omega)
            rw [t2, List.count_append] at t1
            have t3 := hF j b (by omega)
            have t4 := hc b
            rw [at0_set (by rw [dFn_len]; exact hwj)]
            by_cases q : at0 w j = b
            · rw [if_pos q]
              rw [q] at t1 ⊢
              simp at t1
              omega
            · rw [if_neg q]
              by_cases hb : b < A.n
              · rw [dFn_at _ hb]
                omega
              · have : at0 (dFn A fun b => max (at0 cs b) (F j b)) b = 0 := by
                  unfold at0
                  rw [List.getD_eq_getElem?_getD, List.getElem?_eq_none (by rw [dFn_len]; omega)]
                  rfl
                omega
          · simp
    · rintro ρ S' ⟨T', cs, rfl, hl, hc, z, u, rfl⟩
      simp_arith! only []
      refine bP_mk (szlt (by omega)) ⟨⟨fun k => if k = i then at0 cs else F k, T' ++ [Cell.dead], ?_, fun k b hk => ?_⟩, _, _, _, _, rfl⟩
      · rw [List.range_succ, List.map_append]
        have e1 : ((List.range i).map fun k => D.lst (nats (dFn A ((if k = i then at0 cs else F k))))) = (List.range i).map fun k => D.lst (nats (dFn A (F k))) := List.map_congr_left fun k hk => by
          have := List.mem_range.mp hk
          rw [if_neg (by omega)]
        have e2 : dFn A (at0 cs) = cs := list_at0 (by rw [dFn_len, hl]) fun b hb => dFn_at _ (by rwa [dFn_len] at hb)
        rw [e1]
        simp only [List.map_cons, List.map_nil, if_true, e2]
      · show (if k = i then at0 cs else F k) b ≤ _
        by_cases q : k = i
        · rw [if_pos q, q]
          exact hc b
        · rw [if_neg q]
          exact hF k b (by omega)
  · rintro ρ S' ⟨⟨F, T, rfl, hF⟩, x, y, z, u, rfl⟩
    simp_arith only []
    exact cut_app (.lst (okds fun d hd => by obtain ⟨k, _, rfl⟩ := List.mem_map.mp hd; exact ok_lst _ _)) (hq F hF)
end K5

namespace K5
open PySem Tk Tr L2
variable {c : Ca}
theorem wsD_len (ws : List (List Nat)) : (wsD ws).length = ws.length := by simp [wsD]
theorem wsD_get {ws : List (List Nat)} {i : Nat} {w : List Nat} (h : ws[i]? = some w) : (wsD ws)[i]? = some (.tup (nats w)) := by simp [wsD, h]
theorem wsD_set (ws : List (List Nat)) (i : Nat) (w : List Nat) : (wsD ws).set i (.tup (nats w)) = wsD (ws.set i w) := by simp [wsD, List.map_set]
theorem wsD_app (us vs : List (List Nat)) : wsD us ++ wsD vs = wsD (us ++ vs) := by simp [wsD]
theorem evD_len (es : List Ev) : (evD es).length = es.length := by simp [evD]
theorem evD_app (es : List Ev) (i h a : Nat) : evD es ++ [D.tup [.int (i : Nat), .int (h : Nat), .int (a : Nat)]] = evD (es ++ [(i, h, a)]) := by simp [evD]
theorem ok_ev (n : Nat) (es : List Ev) : OkDs n (evD es) := okds fun d hd => by
  obtain ⟨l, _, rfl⟩ := List.mem_map.mp hd
  exact .tup (.cons (.int _) (.cons (.int _) (.cons (.int _) .nil)))
theorem ok_ws (n : Nat) (ws : List (List Nat)) : OkDs n (wsD ws) := okds fun d hd => by
  obtain ⟨l, _, rfl⟩ := List.mem_map.mp hd
  exact ok_tup _ _
theorem ok_tb {n : Nat} {A : Al} {r e k : Nat} (hr : r < n) (he : e < n) : OkC n (tb c A r e k) := .cons (ok_al _ _) (.cons (.ref hr) (.cons (.ref he) (.cons (.int _) .nil)))
theorem i_tb (A : Al) (r e n : Nat) : clI (tb c A r e n) = some (c.Table, k_Table, [dAl c A, .ref r, .ref e, .int (n : Nat)]) := rfl
theorem s_tb (A : Al) (r e n k : Nat) : Cell.ins c.Table k_Table [dAl c A, .ref r, .ref e, .int (n : Nat)] = tb c A r e n := rfl
local macro_rules | `(tactic| simp_arith only [$xs,*]) => `(tactic| simp only [↓x_V, ↓x_C, ↓x_B, ↓x_U, ↓x_Nil, ↓x_Cons, ↓x_Z, ↓x_Tup, ↓x_Lst, ↓x_Fz, ↓x_Cl, ↓x_BF, ↓x_ZF, ↓x_Tb, ↓x_AndT, ↓x_OrT, ↓x_NotT, ↓x_Yes, ↓x_AndV, ↓x_OrV, ↓x_NotV, ↓x_IfE, ↓x_Chain, ↓x_I, ↓x_Ib, ↓x_AddI, ↓x_AddT, ↓x_Cat, ↓x_Rep, ↓x_Neg, ↓x_Ix, ↓x_No, ↓x_So, ↓x_SlT, ↓x_SlL, ↓x_Rev, ↓x_In, ↓x_NotIn, ↓x_IsN, ↓x_NotN, ↓x_IsB, ↓x_NotB, ↓x_Len, ↓x_Int, ↓x_Max2, ↓x_Max, ↓x_Min, ↓x_Sum, ↓x_All, ↓x_Any, ↓x_List, ↓x_Tuple, ↓x_Sorted, ↓x_M, ↓x_M0, ↓x_Append, ↓x_Pop, ↓x_PopAt, ↓x_Reverse, ↓x_Fld, ↓x_FldNew, ↓x_FldSet, ↓x_FldAug, ↓x_Call, ↓x_Meth, ↓x_Make, ↓x_Frz, ↓x_gN, ↓x_gsNil, ↓x_gsCons, ↓x_gTu, ↓x_gIx, ↓x_Seq, ↓x_SNil, ↓x_Asg, ↓x_Drop, ↓x_Ret, ↓x_RetN, ↓x_If, ↓x_Brk, ↓x_Cnt, ↓x_Aug, ↓x_AugIx, ↓x_Par, ↓x_WIn, ↓x_R1, ↓x_R2, ↓x_R3, ↓x_DNew, ↓x_Disp1, ↓x_DPut, ↓x_SortedD, ↓x_DictP, ↓x_LRg, ↓x_For, ↓x_While, ↓x_Lc, ↓x_Inv, ↓x_Tt, ↓x_En, ↓x_TNew, ↓x_TDisp1, ↓x_TGet, ↓x_TGet2, ↓x_TPut, ↓x_KeysT, ↓x_EqI, ↓x_NeI, ↓x_NeB, ↓e_rt, ↓e_nx, ↓tgP, ↓kR25', ↓kR24', ↓kR23', ↓kR22', ↓kTt', ↓kEn2', ↓kEn', ↓kTD2', ↓kTD1', ↓kTG2', ↓kTG1', ↓kTH3', ↓kTH2', ↓kTH1', ↓kTP3', ↓kTP2', ↓kTP1', ↓kKy', ↓kQ', ↓kB2', ↓kB1', ↓kU', ↓kC2', ↓kC1', ↓kZ', ↓kTup', ↓kLst', ↓kFz', ↓kCl', ↓kBF2', ↓kBF1', ↓kZF', ↓kT', ↓kTb', ↓kAndT', ↓kOrT', ↓kNotT', ↓kAndV2', ↓kAndV', ↓kOrV2', ↓kOrV', ↓kNotV2', ↓kNotV', ↓kIfE', ↓kCh5', ↓kCh4', ↓kCh3', ↓kCh2', ↓kCh1', ↓kI2', ↓kI1', ↓kIb2', ↓kIb1', ↓kCat2', ↓kCat1', ↓kRep2', ↓kRep1', ↓kNeg', ↓kIx2', ↓kIx1', ↓kSo2', ↓kSo', ↓kSl4', ↓kSl3', ↓kSl2', ↓kSl1', ↓kSm4', ↓kSm3', ↓kSm2', ↓kSm1', ↓kRev2', ↓kRev', ↓kIn3', ↓kIn2', ↓kIn1', ↓kNi3', ↓kNi2', ↓kNi1', ↓kIs2', ↓kIs1', ↓kNb2', ↓kNb1', ↓kLen', ↓kMax2', ↓kMax1', ↓kMin2', ↓kMin1', ↓kSum2', ↓kSum1', ↓kAll2', ↓kAll1', ↓kAny2', ↓kAny1', ↓kList', ↓kTuple', ↓kSrt2', ↓kSrt1', ↓kM2', ↓kM1', ↓kM0', ↓kAp2', ↓kAp1', ↓kPop3', ↓kPop2', ↓kPop1', ↓kPa5', ↓kPa4', ↓kPa3', ↓kPa2', ↓kPa1', ↓kRv2', ↓kRv1', ↓kFld2', ↓kFld1', ↓kFn4', ↓kFn3', ↓kFn2', ↓kFn1', ↓kFs4', ↓kFs3', ↓kFs2', ↓kFs1', ↓kFa7', ↓kFa6', ↓kFa5', ↓kFa4', ↓kFa35', ↓kFa3', ↓kFa2', ↓kFa1', ↓kCall', ↓kMt3', ↓kMt2', ↓kMt1', ↓kMk2', ↓kMk1', ↓kFrz3', ↓kFrz2', ↓kFrz1', ↓kGs', ↓kGt', ↓kGi6', ↓kGi5', ↓kGi4', ↓kGi3', ↓kGi2', ↓kGi1', ↓kAsg', ↓kDrop', ↓kIf', ↓kAug3', ↓kAug2', ↓kAug1', ↓kAi10', ↓kAi9', ↓kAi8', ↓kAi7', ↓kAi6', ↓kAi5', ↓kAi4', ↓kAi3', ↓kAi2', ↓kAi1', ↓kPar2', ↓kPar1', ↓kWin2', ↓kWin1', ↓kR12', ↓kR11', ↓kR36', ↓kR35', ↓kR34', ↓kR33', ↓kR32', ↓kR31', ↓kDi3', ↓kDi2', ↓kDi1', ↓kDp6', ↓kDp5', ↓kDp4', ↓kDp3', ↓kDp2', ↓kDp1', ↓kSd2', ↓kSd1', ↓kDc2', ↓kDc1', ↓kLr2', ↓kLr1', ↓kFor', ↓kLc', ↓kF2', z0, z1, z2, z3, z4, z5, z6, z0', bO_some, bI_int, bB_bl, bL_ref, bN_non, bP_t, bY_t, bY_f, q_tup, q_lst, q_rd, q_ref, l_lst, l_ref, i_ins, i_ref, d_dk, d_ref, cl_lst, cl_ins, cl_dk, tr_ref, tr_tup, tr_lst, tr_clst, f_dt, f_lst', f_dk, f_ins, sb, sj, gset0, gset, sset0, sset, g_app0, g_app, flt_t, g_lt, s_lt, gs_self, List.set_set, s_app0, s_app, ixN_nat, at_nat, atI_0, atI_1, atI_2, atI_3, nats_len, ints_nats, mem_cast, nats_app, nats_snoc, nats_rev, nats_set, nats_erase, rng_0, rng_N, lt_cast, le_cast, max_cast, lt0, ge0, eq0, gt0, eq_cast, keyO, tupOf, fzO, List.getElem?_cons_zero, List.getElem?_cons_succ, List.set_cons_zero, List.set_cons_succ, List.length_cons, List.length_nil, List.length_append, List.append_assoc, List.cons_append, List.nil_append, List.append_nil, List.length_set, List.length_map, List.length_range, Nat.reduceAdd, Nat.zero_add, Nat.add_zero, Option.isSome_some, and_self, and_true, true_and, Option.bind_some, decide_true, decide_false, decide_eq_true_eq, wipeD, setAllD, Bool.not_true, Bool.not_false, Tk.isNon, eq_self, if_true, if_pos, start0, List.map_cons, List.map_nil, List.replicate, List.take, Nat.reduceSub, Nat.reduceLeDiff, Nat.reduceLT, Int.toNat_natCast, Int.reduceNeg, Nat.reduceEqDiff, Nat.add_eq, Nat.add_assoc, i_al, dLs_len, i_tb, wsD_len, evD_len, $xs,*])
local macro_rules | `(tactic| simp_arith! only [$xs,*]) => `(tactic| simp only [↓x_V, ↓x_C, ↓x_B, ↓x_U, ↓x_Nil, ↓x_Cons, ↓x_Z, ↓x_Tup, ↓x_Lst, ↓x_Fz, ↓x_Cl, ↓x_BF, ↓x_ZF, ↓x_Tb, ↓x_AndT, ↓x_OrT, ↓x_NotT, ↓x_Yes, ↓x_AndV, ↓x_OrV, ↓x_NotV, ↓x_IfE, ↓x_Chain, ↓x_I, ↓x_Ib, ↓x_AddI, ↓x_AddT, ↓x_Cat, ↓x_Rep, ↓x_Neg, ↓x_Ix, ↓x_No, ↓x_So, ↓x_SlT, ↓x_SlL, ↓x_Rev, ↓x_In, ↓x_NotIn, ↓x_IsN, ↓x_NotN, ↓x_IsB, ↓x_NotB, ↓x_Len, ↓x_Int, ↓x_Max2, ↓x_Max, ↓x_Min, ↓x_Sum, ↓x_All, ↓x_Any, ↓x_List, ↓x_Tuple, ↓x_Sorted, ↓x_M, ↓x_M0, ↓x_Append, ↓x_Pop, ↓x_PopAt, ↓x_Reverse, ↓x_Fld, ↓x_FldNew, ↓x_FldSet, ↓x_FldAug, ↓x_Call, ↓x_Meth, ↓x_Make, ↓x_Frz, ↓x_gN, ↓x_gsNil, ↓x_gsCons, ↓x_gTu, ↓x_gIx, ↓x_SNil, ↓x_Asg, ↓x_Drop, ↓x_Ret, ↓x_RetN, ↓x_If, ↓x_Brk, ↓x_Cnt, ↓x_Aug, ↓x_AugIx, ↓x_Par, ↓x_WIn, ↓x_R1, ↓x_R2, ↓x_R3, ↓x_DNew, ↓x_Disp1, ↓x_DPut, ↓x_SortedD, ↓x_DictP, ↓x_LRg, ↓x_For, ↓x_While, ↓x_Lc, ↓x_Inv, ↓x_Tt, ↓x_En, ↓x_TNew, ↓x_TDisp1, ↓x_TGet, ↓x_TGet2, ↓x_TPut, ↓x_KeysT, ↓x_EqI, ↓x_NeI, ↓x_NeB, ↓e_rt, ↓e_nx, ↓tgP, ↓kR25', ↓kR24', ↓kR23', ↓kR22', ↓kTt', ↓kEn2', ↓kEn', ↓kTD2', ↓kTD1', ↓kTG2', ↓kTG1', ↓kTH3', ↓kTH2', ↓kTH1', ↓kTP3', ↓kTP2', ↓kTP1', ↓kKy', ↓kQ', ↓kB2', ↓kB1', ↓kU', ↓kC2', ↓kC1', ↓kZ', ↓kTup', ↓kLst', ↓kFz', ↓kCl', ↓kBF2', ↓kBF1', ↓kZF', ↓kT', ↓kTb', ↓kAndT', ↓kOrT', ↓kNotT', ↓kAndV2', ↓kAndV', ↓kOrV2', ↓kOrV', ↓kNotV2', ↓kNotV', ↓kIfE', ↓kCh5', ↓kCh4', ↓kCh3', ↓kCh2', ↓kCh1', ↓kI2', ↓kI1', ↓kIb2', ↓kIb1', ↓kCat2', ↓kCat1', ↓kRep2', ↓kRep1', ↓kNeg', ↓kIx2', ↓kIx1', ↓kSo2', ↓kSo', ↓kSl4', ↓kSl3', ↓kSl2', ↓kSl1', ↓kSm4', ↓kSm3', ↓kSm2', ↓kSm1', ↓kRev2', ↓kRev', ↓kIn3', ↓kIn2', ↓kIn1', ↓kNi3', ↓kNi2', ↓kNi1', ↓kIs2', ↓kIs1', ↓kNb2', ↓kNb1', ↓kLen', ↓kMax2', ↓kMax1', ↓kMin2', ↓kMin1', ↓kSum2', ↓kSum1', ↓kAll2', ↓kAll1', ↓kAny2', ↓kAny1', ↓kList', ↓kTuple', ↓kSrt2', ↓kSrt1', ↓kM2', ↓kM1', ↓kM0', ↓kAp2', ↓kAp1', ↓kPop3', ↓kPop2', ↓kPop1', ↓kPa5', ↓kPa4', ↓kPa3', ↓kPa2', ↓kPa1', ↓kRv2', ↓kRv1', ↓kFld2', ↓kFld1', ↓kFn4', ↓kFn3', ↓kFn2', ↓kFn1', ↓kFs4', ↓kFs3', ↓kFs2', ↓kFs1', ↓kFa7', ↓kFa6', ↓kFa5', ↓kFa4', ↓kFa35', ↓kFa3', ↓kFa2', ↓kFa1', ↓kCall', ↓kMt3', ↓kMt2', ↓kMt1', ↓kMk2', ↓kMk1', ↓kFrz3', ↓kFrz2', ↓kFrz1', ↓kGs', ↓kGt', ↓kGi6', ↓kGi5', ↓kGi4', ↓kGi3', ↓kGi2', ↓kGi1', ↓kAsg', ↓kDrop', ↓kIf', ↓kAug3', ↓kAug2', ↓kAug1', ↓kAi10', ↓kAi9', ↓kAi8', ↓kAi7', ↓kAi6', ↓kAi5', ↓kAi4', ↓kAi3', ↓kAi2', ↓kAi1', ↓kPar2', ↓kPar1', ↓kWin2', ↓kWin1', ↓kR12', ↓kR11', ↓kR36', ↓kR35', ↓kR34', ↓kR33', ↓kR32', ↓kR31', ↓kDi3', ↓kDi2', ↓kDi1', ↓kDp6', ↓kDp5', ↓kDp4', ↓kDp3', ↓kDp2', ↓kDp1', ↓kSd2', ↓kSd1', ↓kDc2', ↓kDc1', ↓kLr2', ↓kLr1', ↓kFor', ↓kLc', ↓kF2', z0, z1, z2, z3, z4, z5, z6, z0', bO_some, bI_int, bB_bl, bL_ref, bN_non, bP_t, bY_t, bY_f, q_tup, q_lst, q_rd, q_ref, l_lst, l_ref, i_ins, i_ref, d_dk, d_ref, cl_lst, cl_ins, cl_dk, tr_ref, tr_tup, tr_lst, tr_clst, f_dt, f_lst', f_dk, f_ins, sb, sj, gset0, gset, sset0, sset, g_app0, g_app, flt_t, g_lt, s_lt, gs_self, List.set_set, s_app0, s_app, ixN_nat, at_nat, atI_0, atI_1, atI_2, atI_3, nats_len, ints_nats, mem_cast, nats_app, nats_snoc, nats_rev, nats_set, nats_erase, rng_0, rng_N, lt_cast, le_cast, max_cast, lt0, ge0, eq0, gt0, eq_cast, keyO, tupOf, fzO, List.getElem?_cons_zero, List.getElem?_cons_succ, List.set_cons_zero, List.set_cons_succ, List.length_cons, List.length_nil, List.length_append, List.append_assoc, List.cons_append, List.nil_append, List.append_nil, List.length_set, List.length_map, List.length_range, Nat.reduceAdd, Nat.zero_add, Nat.add_zero, Option.isSome_some, and_self, and_true, true_and, Option.bind_some, decide_true, decide_false, decide_eq_true_eq, wipeD, setAllD, Bool.not_true, Bool.not_false, Tk.isNon, eq_self, if_true, if_pos, start0, List.map_cons, List.map_nil, List.replicate, List.take, Nat.reduceSub, Nat.reduceLeDiff, Nat.reduceLT, Int.toNat_natCast, Int.reduceNeg, Nat.reduceEqDiff, Nat.add_eq, Nat.add_assoc, i_al, dLs_len, i_tb, wsD_len, evD_len, $xs,*])
section
variable {S : Sto} {l r e n : Nat} {A : Al} {rows : List (List Nat)} {es : List Ev} (h : TbAt c S l r e A rows es n)
include h
theorem TbAt.ll : l < S.length := (List.getElem?_eq_some_iff.mp h.l).1
theorem TbAt.rl : r < S.length := (List.getElem?_eq_some_iff.mp h.r).1
theorem TbAt.el : e < S.length := (List.getElem?_eq_some_iff.mp h.e).1
theorem TbAt.ne_r : r ≠ l := fun q => by
  have h1 := h.r
  rw [q, h.l] at h1
  cases h1
theorem TbAt.ne_e : e ≠ l := fun q => by
  have h1 := h.e
  rw [q, h.l] at h1
  cases h1
end
theorem b_Table_init (ds : List D) (S : Sto) (Q : QE) (h : P_Table_init c ds S Q) : w_Table_init c (esDef flKeep S Q) (start0 4 ds) S := by
  obtain ⟨A, l, h, rfl, h1, h4, hl, hq⟩ := h
  unfold w_Table_init
  have hlt := (List.getElem?_eq_some_iff.mp hl).1
  have e1 : decide ((1 : Int) ≤ (h : Nat)) = true := decide_eq_true (by omega)
  have e2 : decide ((h : Int) ≤ 4) = true := decide_eq_true (by omega)
  simp_arith only [hl, hlt, e1, e2, sz4 h (by omega)]
  refine LcP.pure (List.range h) (fun n : Nat => D.int (n : Nat)) (fun _ => true) (fun _ => .tup []) trivial (szl (by simp; omega)) (fun x hx X Y hX hY => ?_) ?_
  · simp_arith only []
    exact hX rfl
  · rw [flt_t]
    have e3 : (List.range h).map (fun _ => D.tup []) = wsD (List.replicate h []) := by
      simp [wsD, nats, List.map_const']
    rw [e3]
    simp_arith only [hl, hlt]
    exact hq
theorem b_Table__check (ds : List D) (S : Sto) (Q : QE) (h : P_Table__check c ds S Q) : w_Table__check c (esDef flCut S Q) (start0 2 ds) S := by
  obtain ⟨A, l, r, e, n, h, rows, es, rfl, ht, hh, hq⟩ := h
  unfold w_Table__check
  simp_arith only [ht.l, ht.r, hh]
  exact cut_rfl .non hq
theorem b_Table__add (ds : List D) (S : Sto) (Q : QE) (h : P_Table__add c ds S Q) : w_Table__add c (esDef flCut S Q) (start0 3 ds) S := by
  obtain ⟨A, l, r, e, n, h, a, rows, es, rfl, ht, hq⟩ := h
  unfold w_Table__add
  have hlt := ht.ll
  have het := ht.el
  simp_arith only [ht.l, ht.e, hlt, het, szL _ ht.z]
  have g1 : ∀ x, (S.set e x)[l]? = some (tb c A r e n) := fun x => by rw [List.getElem?_set_ne ht.ne_e]; exact ht.l
  simp_arith only [g1, evD_app, add1_cast, hlt]
  have e1 : ((n + 1 : Nat) : Int) - 1 = (n : Nat) := by omega
  rw [e1]
  exact cut_set20 (.int _) (ok_ev _ _) (ok_tb ht.rl ht.el) hq
theorem TbAt.row {S : Sto} {l r e n : Nat} {A : Al} {rows : List (List Nat)} {es : List Ev} (h : TbAt c S l r e A rows es n) {k : Nat} {row : List Nat} (hr : row.length ≤ 900) : TbAt c (S.set r (.lst (wsD (rows.set k row)))) l r e A (rows.set k row) es n :=
  ⟨h.ne, h.o, by rw [List.getElem?_set_ne h.ne_r]; exact h.l, List.getElem?_set_self h.rl, by rw [List.getElem?_set_ne h.ne]; exact h.e, h.w, by rw [List.length_set]; exact h.h, h.z, fun x hx => by
    rcases List.mem_or_eq_of_mem_set hx with q | q
    · exact h.rz x q
    · rw [q]; exact hr, by rw [List.length_set]; exact h.hz⟩
theorem cut_set30 {S : Sto} {Q : QE} {d : D} {l m k : Nat} {c c' c'' : Cell} (h : OkD S.length d) (hc : OkC S.length c) (hc' : OkC S.length c') (hc'' : OkC S.length c'') (q : Q d (((S.set l c).set m c').set k c'')) : flCut S Q d (((S.set l c).set m c').set k c'') :=
  ⟨h, fun i x hi e => by
    by_cases q3 : i = k
    · subst q3
      rw [List.getElem?_set_self (by simpa using hi)] at e
      cases e
      exact .inr hc''
    · rw [List.getElem?_set_ne (Ne.symm q3)] at e
      by_cases q2 : i = m
      · subst q2
        rw [List.getElem?_set_self (by simpa using hi)] at e
        cases e
        exact .inr hc'
      · rw [List.getElem?_set_ne (Ne.symm q2)] at e
        by_cases q1 : i = l
        · subst q1
          rw [List.getElem?_set_self hi] at e
          cases e
          exact .inr hc
        · rw [List.getElem?_set_ne (Ne.symm q1)] at e
          exact .inl e, by rw [List.take_of_length_le (by simp)]; exact q⟩
theorem b_Table_do (ds : List D) (S : Sto) (Q : QE) (h : P_Table_do c ds S Q) : w_Table_do c (esDef flCut S Q) (start0 3 ds) S := by
  obtain ⟨A, l, r, e, n, h, a, rows, es, rfl, ht, hh, hq⟩ := h
  unfold w_Table_do
  simp_arith only [ht.l]
  refine ⟨A, l, r, e, n, h, rows, es, rfl, ht, hh, ?_⟩
  simp_arith only [ht.l, ht.r, ht.rl, hh, szL _ ht.z]
  have e1 : (wsD rows).set h (.tup []) = wsD (rows.set h []) := wsD_set rows h []
  rw [e1]
  have ht' := ht.row (k := h) (row := []) (by simp)
  try simp_arith only [ht'.l]
  refine ⟨A, l, r, e, n, h, a, _, es, rfl, ht', ?_⟩
  exact cut_set30 (.int _) (ok_ws _ _) (ok_ev _ _) (ok_tb ht.rl ht.el) hq
theorem b_Table_row (ds : List D) (S : Sto) (Q : QE) (h : P_Table_row c ds S Q) : w_Table_row c (esDef flCut S Q) (start0 2 ds) S := by
  obtain ⟨A, l, r, e, n, h, row, rows, es, rfl, ht, hh, hq⟩ := h
  unfold w_Table_row
  simp_arith only [ht.l]
  refine ⟨A, l, r, e, n, h, rows, es, rfl, ht, (List.getElem?_eq_some_iff.mp hh).1, ?_⟩
  simp_arith only [ht.l, ht.r, wsD_get hh]
  exact cut_rfl (ok_tup _ _) hq
theorem b_Table_events (ds : List D) (S : Sto) (Q : QE) (h : P_Table_events c ds S Q) : w_Table_events c (esDef flCut S Q) (start0 1 ds) S := by
  obtain ⟨A, l, r, e, n, rows, es, rfl, ht, hq⟩ := h
  unfold w_Table_events
  simp_arith only [ht.l, ht.e]
  exact cut_rfl (.lst (ok_ev _ _)) hq
theorem b_Table_word (ds : List D) (S : Sto) (Q : QE) (h : P_Table_word c ds S Q) : w_Table_word c (esDef flCut S Q) (start0 3 ds) S := by
  obtain ⟨A, l, r, e, n, rows, es, rfl, hh, hq⟩ := h
  unfold w_Table_word
  have hz := hh.z
  simp_arith only [hh.l, hh.e]
  refine LcP.pure es (fun e : Ev => D.tup [.int (e.1 : Nat), .int (e.2.1 : Nat), .int (e.2.2 : Nat)]) (fun _ => true) (fun e => D.int (e.2.2 : Nat)) (by simp_arith only [hh.e]) (szl (by omega)) (fun k hk X Y hX hY => ?_) ?_
  · simp_arith only []
    exact hX rfl
  · simp_arith only []
    refine ⟨A, _, es.map (·.2.2), rfl, by simp [seqOf, nats], ⟨hh.o, by simp; omega, fun a ha => ?_⟩, ?_⟩
    · obtain ⟨x, hx, rfl⟩ := List.mem_map.mp ha
      exact hh.w x hx
    · exact cut_rfl (ok_tup _ _) hq
theorem b_Table__resting (ds : List D) (S : Sto) (Q : QE) (h : P_Table__resting c ds S Q) : w_Table__resting c (esDef flCut S Q) (start0 8 ds) S := by
  obtain ⟨A, l, r, e, n, m, rows, es, rfl, hh, hq⟩ := h
  unfold w_Table__resting
  have hlt := hh.ll
  have het := hh.el
  simp_arith only [hh.l, hh.e, hlt, het]
  refine ForP.over es (fun e : Ev => D.tup [.int (e.1 : Nat), .int (e.2.1 : Nat), .int (e.2.2 : Nat)]) (fun ys ρ S' => (∃ F L : List Nat, S' = S ++ [Cell.lst (nats F), Cell.lst (nats L)] ∧ (∀ zs, es = ys ++ zs → F ++ muL A m (num zs) L = muL A m (num es) []) ∧ F.length ≤ ys.length ∧ L.length ≤ ys.length ∧ ∀ b ∈ L, b < A.n) ∧ ∃ x y z u, ρ = [some (.ref l), some (.int (m : Nat)), some (.ref S.length), some (.ref (S.length + 1)), x, y, z, u]) ⟨⟨[], [], rfl, fun zs h => by rw [h]; rfl, by simp, by simp, by simp⟩, _, _, _, _, rfl⟩ (fun ys ρ S' h => ?_) ?_ ?_
  · obtain ⟨⟨F, L, rfl, _⟩, _⟩ := h
    simp_arith only [hh.e, het]
  · rintro ys ⟨i, hd, a⟩ zs ρ S' hx ⟨⟨F, L, rfl, hf, hF, hL, hb⟩, x, y, z, u, rfl⟩
    have ha : a < A.n := hh.w (i, hd, a) (by rw [hx]; simp)
    have hlen : ys.length < es.length := by rw [hx]; simp
    have hz := hh.z
    simp_arith only []
    refine bY_mk (fun h => ?_) (fun h => ?_)
    · have hc : i = m ∨ ∃ b ∈ L, dep A b a = true := .inl (of_decide_eq_true h)
      simp_arith only [szL F.length (by omega), szL L.length (by omega)]
      refine ⟨⟨F ++ [i], L ++ [a], rfl, fun zs' h' => ?_, by (try simp only [List.length_append, List.length_cons, List.length_nil]) <;> omega, by (try simp only [List.length_append, List.length_cons, List.length_nil]) <;> omega, fun b hbm => ?_⟩, _, _, _, _, rfl⟩
      · have := hf ((i, hd, a) :: zs') (by simp [h'])
        rw [← this]
        simp only [num, List.map_cons, muL, if_pos hc]
        simp
      · rcases List.mem_append.mp hbm with q | q
        · exact hb b q
        · rw [List.mem_singleton.mp q]
          exact ha
    · have hni := of_decide_eq_false h
      try simp_arith only []
      refine LcP.pure L (fun n : Nat => D.int (n : Nat)) (fun _ => true) (fun b => D.bl (dep A b a)) (by simp_arith only []) (szl (by omega)) (fun b hbL X Y hX hY => ?_) ?_
      · simp_arith only [hh.l, hlt]
        refine ⟨A, b, a, rfl, hb b hbL, ha, ?_⟩
        try simp_arith only []
        simp only [Bool.not_not]
        exact hX rfl
      · rw [flt_t]
        have e1 : blsOf (L.map fun b => D.bl (dep A b a)) = some (L.map fun b => dep A b a) := by
          have : (L.map fun b => D.bl (dep A b a)) = (L.map fun b => dep A b a).map D.bl := by simp
          rw [this, blsOf_map]
        have e2 : (L.map fun b => dep A b a).any id = L.any fun b => dep A b a := by
          rw [List.any_map]
          rfl
        simp_arith only [e1, e2]
        refine bY_mk (fun h => ?_) (fun h => ?_)
        · have hc : i = m ∨ ∃ b ∈ L, dep A b a = true := .inr (List.any_eq_true.mp h)
          simp_arith only [szL F.length (by omega), szL L.length (by omega)]
          refine ⟨⟨F ++ [i], L ++ [a], rfl, fun zs' h' => ?_, by (try simp only [List.length_append, List.length_cons, List.length_nil]) <;> omega, by (try simp only [List.length_append, List.length_cons, List.length_nil]) <;> omega, fun b hbm => ?_⟩, _, _, _, _, rfl⟩
          · have := hf ((i, hd, a) :: zs') (by simp [h'])
            rw [← this]
            simp only [num, List.map_cons, muL, if_pos hc]
            simp
          · rcases List.mem_append.mp hbm with q | q
            · exact hb b q
            · rw [List.mem_singleton.mp q]
              exact ha
        · try simp_arith only []
          have hc : ¬ (i = m ∨ ∃ b ∈ L, dep A b a = true) := by
            rintro (q | q)
            · exact hni q
            · rw [List.any_eq_true.mpr q] at h
              cases h
          refine ⟨⟨F, L, rfl, fun zs' h' => ?_, by (try simp only [List.length_append, List.length_cons, List.length_nil]) <;> omega, by (try simp only [List.length_append, List.length_cons, List.length_nil]) <;> omega, hb⟩, _, _, _, _, rfl⟩
          have := hf ((i, hd, a) :: zs') (by simp [h'])
          rw [← this]
          simp only [num, List.map_cons, muL, if_neg hc]
  · rintro ρ S' ⟨⟨F, L, rfl, hf, hF, hL, hb⟩, x, y, z, u, rfl⟩
    simp_arith only []
    have := hf [] (by simp)
    simp only [num, List.map_nil, muL, List.append_nil] at this
    rw [this]
    exact cut_app (ok_lst _ _) hq
end K5

namespace K5
open PySem Tk Tr L2
variable {c : Ca}
local macro_rules | `(tactic| simp_arith only [$xs,*]) => `(tactic| simp only [↓x_V, ↓x_C, ↓x_B, ↓x_U, ↓x_Nil, ↓x_Cons, ↓x_Z, ↓x_Tup, ↓x_Lst, ↓x_Fz, ↓x_Cl, ↓x_BF, ↓x_ZF, ↓x_Tb, ↓x_AndT, ↓x_OrT, ↓x_NotT, ↓x_Yes, ↓x_AndV, ↓x_OrV, ↓x_NotV, ↓x_IfE, ↓x_Chain, ↓x_I, ↓x_Ib, ↓x_AddI, ↓x_AddT, ↓x_Cat, ↓x_Rep, ↓x_Neg, ↓x_Ix, ↓x_No, ↓x_So, ↓x_SlT, ↓x_SlL, ↓x_Rev, ↓x_In, ↓x_NotIn, ↓x_IsN, ↓x_NotN, ↓x_IsB, ↓x_NotB, ↓x_Len, ↓x_Int, ↓x_Max2, ↓x_Max, ↓x_Min, ↓x_Sum, ↓x_All, ↓x_Any, ↓x_List, ↓x_Tuple, ↓x_Sorted, ↓x_M, ↓x_M0, ↓x_Append, ↓x_Pop, ↓x_PopAt, ↓x_Reverse, ↓x_Fld, ↓x_FldNew, ↓x_FldSet, ↓x_FldAug, ↓x_Call, ↓x_Meth, ↓x_Make, ↓x_Frz, ↓x_gN, ↓x_gsNil, ↓x_gsCons, ↓x_gTu, ↓x_gIx, ↓x_Seq, ↓x_SNil, ↓x_Asg, ↓x_Drop, ↓x_Ret, ↓x_RetN, ↓x_If, ↓x_Brk, ↓x_Cnt, ↓x_Aug, ↓x_AugIx, ↓x_Par, ↓x_WIn, ↓x_R1, ↓x_R2, ↓x_R3, ↓x_DNew, ↓x_Disp1, ↓x_DPut, ↓x_SortedD, ↓x_DictP, ↓x_LRg, ↓x_For, ↓x_While, ↓x_Lc, ↓x_Inv, ↓x_Tt, ↓x_En, ↓x_TNew, ↓x_TDisp1, ↓x_TGet, ↓x_TGet2, ↓x_TPut, ↓x_KeysT, ↓x_EqI, ↓x_NeI, ↓x_NeB, ↓e_rt, ↓e_nx, ↓tgP, ↓kR25', ↓kR24', ↓kR23', ↓kR22', ↓kTt', ↓kEn2', ↓kEn', ↓kTD2', ↓kTD1', ↓kTG2', ↓kTG1', ↓kTH3', ↓kTH2', ↓kTH1', ↓kTP3', ↓kTP2', ↓kTP1', ↓kKy', ↓kQ', ↓kB2', ↓kB1', ↓kU', ↓kC2', ↓kC1', ↓kZ', ↓kTup', ↓kLst', ↓kFz', ↓kCl', ↓kBF2', ↓kBF1', ↓kZF', ↓kT', ↓kTb', ↓kAndT', ↓kOrT', ↓kNotT', ↓kAndV2', ↓kAndV', ↓kOrV2', ↓kOrV', ↓kNotV2', ↓kNotV', ↓kIfE', ↓kCh5', ↓kCh4', ↓kCh3', ↓kCh2', ↓kCh1', ↓kI2', ↓kI1', ↓kIb2', ↓kIb1', ↓kCat2', ↓kCat1', ↓kRep2', ↓kRep1', ↓kNeg', ↓kIx2', ↓kIx1', ↓kSo2', ↓kSo', ↓kSl4', ↓kSl3', ↓kSl2', ↓kSl1', ↓kSm4', ↓kSm3', ↓kSm2', ↓kSm1', ↓kRev2', ↓kRev', ↓kIn3', ↓kIn2', ↓kIn1', ↓kNi3', ↓kNi2', ↓kNi1', ↓kIs2', ↓kIs1', ↓kNb2', ↓kNb1', ↓kLen', ↓kMax2', ↓kMax1', ↓kMin2', ↓kMin1', ↓kSum2', ↓kSum1', ↓kAll2', ↓kAll1', ↓kAny2', ↓kAny1', ↓kList', ↓kTuple', ↓kSrt2', ↓kSrt1', ↓kM2', ↓kM1', ↓kM0', ↓kAp2', ↓kAp1', ↓kPop3', ↓kPop2', ↓kPop1', ↓kPa5', ↓kPa4', ↓kPa3', ↓kPa2', ↓kPa1', ↓kRv2', ↓kRv1', ↓kFld2', ↓kFld1', ↓kFn4', ↓kFn3', ↓kFn2', ↓kFn1', ↓kFs4', ↓kFs3', ↓kFs2', ↓kFs1', ↓kFa7', ↓kFa6', ↓kFa5', ↓kFa4', ↓kFa35', ↓kFa3', ↓kFa2', ↓kFa1', ↓kCall', ↓kMt3', ↓kMt2', ↓kMt1', ↓kMk2', ↓kMk1', ↓kFrz3', ↓kFrz2', ↓kFrz1', ↓kGs', ↓kGt', ↓kGi6', ↓kGi5', ↓kGi4', ↓kGi3', ↓kGi2', ↓kGi1', ↓kAsg', ↓kDrop', ↓kIf', ↓kAug3', ↓kAug2', ↓kAug1', ↓kAi10', ↓kAi9', ↓kAi8', ↓kAi7', ↓kAi6', ↓kAi5', ↓kAi4', ↓kAi3', ↓kAi2', ↓kAi1', ↓kPar2', ↓kPar1', ↓kWin2', ↓kWin1', ↓kR12', ↓kR11', ↓kR36', ↓kR35', ↓kR34', ↓kR33', ↓kR32', ↓kR31', ↓kDi3', ↓kDi2', ↓kDi1', ↓kDp6', ↓kDp5', ↓kDp4', ↓kDp3', ↓kDp2', ↓kDp1', ↓kSd2', ↓kSd1', ↓kDc2', ↓kDc1', ↓kLr2', ↓kLr1', ↓kFor', ↓kLc', ↓kF2', z0, z1, z2, z3, z4, z5, z6, z0', bO_some, bI_int, bB_bl, bL_ref, bN_non, bP_t, bY_t, bY_f, q_tup, q_lst, q_rd, q_ref, l_lst, l_ref, i_ins, i_ref, d_dk, d_ref, cl_lst, cl_ins, cl_dk, tr_ref, tr_tup, tr_lst, tr_clst, f_dt, f_lst', f_dk, f_ins, sb, sj, gset0, gset, sset0, sset, g_app0, g_app, flt_t, g_lt, s_lt, gs_self, List.set_set, s_app0, s_app, ixN_nat, at_nat, atI_0, atI_1, atI_2, atI_3, nats_len, ints_nats, mem_cast, nats_app, nats_snoc, nats_rev, nats_set, nats_erase, rng_0, rng_N, lt_cast, le_cast, max_cast, lt0, ge0, eq0, gt0, eq_cast, keyO, tupOf, fzO, List.getElem?_cons_zero, List.getElem?_cons_succ, List.set_cons_zero, List.set_cons_succ, List.length_cons, List.length_nil, List.length_append, List.append_assoc, List.cons_append, List.nil_append, List.append_nil, List.length_set, List.length_map, List.length_range, Nat.reduceAdd, Nat.zero_add, Nat.add_zero, Option.isSome_some, and_self, and_true, true_and, Option.bind_some, decide_true, decide_false, decide_eq_true_eq, wipeD, setAllD, Bool.not_true, Bool.not_false, Tk.isNon, eq_self, if_true, if_pos, start0, List.map_cons, List.map_nil, List.replicate, List.take, Nat.reduceSub, Nat.reduceLeDiff, Nat.reduceLT, Int.toNat_natCast, Int.reduceNeg, Nat.reduceEqDiff, Nat.add_eq, Nat.add_assoc, i_al, dLs_len, i_tb, wsD_len, evD_len, $xs,*])
local macro_rules | `(tactic| simp_arith! only [$xs,*]) => `(tactic| simp only [↓x_V, ↓x_C, ↓x_B, ↓x_U, ↓x_Nil, ↓x_Cons, ↓x_Z, ↓x_Tup, ↓x_Lst, ↓x_Fz, ↓x_Cl, ↓x_BF, ↓x_ZF, ↓x_Tb, ↓x_AndT, ↓x_OrT, ↓x_NotT, ↓x_Yes, ↓x_AndV, ↓x_OrV, ↓x_NotV, ↓x_IfE, ↓x_Chain, ↓x_I, ↓x_Ib, ↓x_AddI, ↓x_AddT, ↓x_Cat, ↓x_Rep, ↓x_Neg, ↓x_Ix, ↓x_No, ↓x_So, ↓x_SlT, ↓x_SlL, ↓x_Rev, ↓x_In, ↓x_NotIn, ↓x_IsN, ↓x_NotN, ↓x_IsB, ↓x_NotB, ↓x_Len, ↓x_Int, ↓x_Max2, ↓x_Max, ↓x_Min, ↓x_Sum, ↓x_All, ↓x_Any, ↓x_List, ↓x_Tuple, ↓x_Sorted, ↓x_M, ↓x_M0, ↓x_Append, ↓x_Pop, ↓x_PopAt, ↓x_Reverse, ↓x_Fld, ↓x_FldNew, ↓x_FldSet, ↓x_FldAug, ↓x_Call, ↓x_Meth, ↓x_Make, ↓x_Frz, ↓x_gN, ↓x_gsNil, ↓x_gsCons, ↓x_gTu, ↓x_gIx, ↓x_SNil, ↓x_Asg, ↓x_Drop, ↓x_Ret, ↓x_RetN, ↓x_If, ↓x_Brk, ↓x_Cnt, ↓x_Aug, ↓x_AugIx, ↓x_Par, ↓x_WIn, ↓x_R1, ↓x_R2, ↓x_R3, ↓x_DNew, ↓x_Disp1, ↓x_DPut, ↓x_SortedD, ↓x_DictP, ↓x_LRg, ↓x_For, ↓x_While, ↓x_Lc, ↓x_Inv, ↓x_Tt, ↓x_En, ↓x_TNew, ↓x_TDisp1, ↓x_TGet, ↓x_TGet2, ↓x_TPut, ↓x_KeysT, ↓x_EqI, ↓x_NeI, ↓x_NeB, ↓e_rt, ↓e_nx, ↓tgP, ↓kR25', ↓kR24', ↓kR23', ↓kR22', ↓kTt', ↓kEn2', ↓kEn', ↓kTD2', ↓kTD1', ↓kTG2', ↓kTG1', ↓kTH3', ↓kTH2', ↓kTH1', ↓kTP3', ↓kTP2', ↓kTP1', ↓kKy', ↓kQ', ↓kB2', ↓kB1', ↓kU', ↓kC2', ↓kC1', ↓kZ', ↓kTup', ↓kLst', ↓kFz', ↓kCl', ↓kBF2', ↓kBF1', ↓kZF', ↓kT', ↓kTb', ↓kAndT', ↓kOrT', ↓kNotT', ↓kAndV2', ↓kAndV', ↓kOrV2', ↓kOrV', ↓kNotV2', ↓kNotV', ↓kIfE', ↓kCh5', ↓kCh4', ↓kCh3', ↓kCh2', ↓kCh1', ↓kI2', ↓kI1', ↓kIb2', ↓kIb1', ↓kCat2', ↓kCat1', ↓kRep2', ↓kRep1', ↓kNeg', ↓kIx2', ↓kIx1', ↓kSo2', ↓kSo', ↓kSl4', ↓kSl3', ↓kSl2', ↓kSl1', ↓kSm4', ↓kSm3', ↓kSm2', ↓kSm1', ↓kRev2', ↓kRev', ↓kIn3', ↓kIn2', ↓kIn1', ↓kNi3', ↓kNi2', ↓kNi1', ↓kIs2', ↓kIs1', ↓kNb2', ↓kNb1', ↓kLen', ↓kMax2', ↓kMax1', ↓kMin2', ↓kMin1', ↓kSum2', ↓kSum1', ↓kAll2', ↓kAll1', ↓kAny2', ↓kAny1', ↓kList', ↓kTuple', ↓kSrt2', ↓kSrt1', ↓kM2', ↓kM1', ↓kM0', ↓kAp2', ↓kAp1', ↓kPop3', ↓kPop2', ↓kPop1', ↓kPa5', ↓kPa4', ↓kPa3', ↓kPa2', ↓kPa1', ↓kRv2', ↓kRv1', ↓kFld2', ↓kFld1', ↓kFn4', ↓kFn3', ↓kFn2', ↓kFn1', ↓kFs4', ↓kFs3', ↓kFs2', ↓kFs1', ↓kFa7', ↓kFa6', ↓kFa5', ↓kFa4', ↓kFa35', ↓kFa3', ↓kFa2', ↓kFa1', ↓kCall', ↓kMt3', ↓kMt2', ↓kMt1', ↓kMk2', ↓kMk1', ↓kFrz3', ↓kFrz2', ↓kFrz1', ↓kGs', ↓kGt', ↓kGi6', ↓kGi5', ↓kGi4', ↓kGi3', ↓kGi2', ↓kGi1', ↓kAsg', ↓kDrop', ↓kIf', ↓kAug3', ↓kAug2', ↓kAug1', ↓kAi10', ↓kAi9', ↓kAi8', ↓kAi7', ↓kAi6', ↓kAi5', ↓kAi4', ↓kAi3', ↓kAi2', ↓kAi1', ↓kPar2', ↓kPar1', ↓kWin2', ↓kWin1', ↓kR12', ↓kR11', ↓kR36', ↓kR35', ↓kR34', ↓kR33', ↓kR32', ↓kR31', ↓kDi3', ↓kDi2', ↓kDi1', ↓kDp6', ↓kDp5', ↓kDp4', ↓kDp3', ↓kDp2', ↓kDp1', ↓kSd2', ↓kSd1', ↓kDc2', ↓kDc1', ↓kLr2', ↓kLr1', ↓kFor', ↓kLc', ↓kF2', z0, z1, z2, z3, z4, z5, z6, z0', bO_some, bI_int, bB_bl, bL_ref, bN_non, bP_t, bY_t, bY_f, q_tup, q_lst, q_rd, q_ref, l_lst, l_ref, i_ins, i_ref, d_dk, d_ref, cl_lst, cl_ins, cl_dk, tr_ref, tr_tup, tr_lst, tr_clst, f_dt, f_lst', f_dk, f_ins, sb, sj, gset0, gset, sset0, sset, g_app0, g_app, flt_t, g_lt, s_lt, gs_self, List.set_set, s_app0, s_app, ixN_nat, at_nat, atI_0, atI_1, atI_2, atI_3, nats_len, ints_nats, mem_cast, nats_app, nats_snoc, nats_rev, nats_set, nats_erase, rng_0, rng_N, lt_cast, le_cast, max_cast, lt0, ge0, eq0, gt0, eq_cast, keyO, tupOf, fzO, List.getElem?_cons_zero, List.getElem?_cons_succ, List.set_cons_zero, List.set_cons_succ, List.length_cons, List.length_nil, List.length_append, List.append_assoc, List.cons_append, List.nil_append, List.append_nil, List.length_set, List.length_map, List.length_range, Nat.reduceAdd, Nat.zero_add, Nat.add_zero, Option.isSome_some, and_self, and_true, true_and, Option.bind_some, decide_true, decide_false, decide_eq_true_eq, wipeD, setAllD, Bool.not_true, Bool.not_false, Tk.isNon, eq_self, if_true, if_pos, start0, List.map_cons, List.map_nil, List.replicate, List.take, Nat.reduceSub, Nat.reduceLeDiff, Nat.reduceLT, Int.toNat_natCast, Int.reduceNeg, Nat.reduceEqDiff, Nat.add_eq, Nat.add_assoc, i_al, dLs_len, i_tb, wsD_len, evD_len, $xs,*])
theorem cut_init (row : List Nat) (a : Nat) : cutD (nats (row ++ [a])) none (some (-1)) = nats row := by
  unfold cutD HT.sIx
  have h1 : ((-1 : Int) < 0) := by omega
  simp only [h1, if_true, List.drop_zero, Nat.sub_zero, nats_len, List.length_append, List.length_cons, List.length_nil]
  have h2 : ((-1 : Int) + ((row.length : Int) + 1)).toNat = row.length := by omega
  simp [nats, h2]
theorem at_last (row : List Nat) (a : Nat) : atI (nats (row ++ [a])) (-1) = some (.int (a : Nat)) := by
  unfold atI ixN
  have h2 : ((-1 : Int) + ((row.length : Int) + 1)).toNat = row.length := by omega
  have h3 : (1 : Int) ≤ (row.length : Int) + 1 := by omega
  simp [nats, h2, h3]
theorem snocI {α : Type} {P : List α → Prop} (h0 : P []) (h1 : ∀ ys x, P ys → P (ys ++ [x])) : ∀ l, P l := fun l => by
  have : ∀ m : List α, P m.reverse := fun m => by
    induction m with
    | nil => exact h0
    | cons a m ih =>
      rw [List.reverse_cons]
      exact h1 _ _ ih
  have := this l.reverse
  rwa [List.reverse_reverse] at this
theorem b_Table_do_again (ds : List D) (S : Sto) (Q : QE) (h : P_Table_do_again c ds S Q) : w_Table_do_again c (esDef flCut S Q) (start0 3 ds) S := by
  obtain ⟨A, l, r, e, n, h, a, row, rows, es, rfl, ht, hh, hq⟩ := h
  unfold w_Table_do_again
  have hhl := (List.getElem?_eq_some_iff.mp hh).1
  simp_arith only [ht.l]
  refine ⟨A, l, r, e, n, h, rows, es, rfl, ht, hhl, ?_⟩
  have e1 : (nats (row ++ [a])).isEmpty = false := by simp [nats]
  simp_arith only [ht.l, ht.r, ht.rl, hhl, wsD_get hh, e1, at_last, cut_init]
  have e2 : (wsD rows).set h (.tup (nats row)) = wsD (rows.set h row) := wsD_set rows h row
  rw [e2]
  have hrz := ht.rz _ (List.mem_of_getElem? hh)
  have ht' := ht.row (k := h) (row := row) (by simp at hrz; omega)
  try simp_arith only [ht'.l]
  refine ⟨A, l, r, e, n, h, a, _, es, rfl, ht', ?_⟩
  exact cut_set30 (.int _) (ok_ws _ _) (ok_ev _ _) (ok_tb ht.rl ht.el) hq
theorem backR_snoc (m : Nat) (ys : List Ev) (x : Ev) (rows : List (List Nat)) : backR m (ys ++ [x]) rows = if x.1 = m then (backR m ys rows).set x.2.1 ((backR m ys rows).getD x.2.1 [] ++ [x.2.2]) else backR m ys rows := by
  unfold backR
  rw [List.foldl_append]
  rfl
theorem backR_len (m : Nat) (rows : List (List Nat)) : ∀ ys : List Ev, (backR m ys rows).length = rows.length := by
  refine snocI ?_ ?_
  · rfl
  · intro ys x ih
    rw [backR_snoc]
    split
    · rw [List.length_set, ih]
    · exact ih
theorem backR_bd (m : Nat) {rows : List (List Nat)} {B : Nat} (h : ∀ x ∈ rows, x.length ≤ B) : ∀ ys : List Ev, ∀ x ∈ backR m ys rows, x.length ≤ B + ys.length := by
  refine snocI ?_ ?_
  · exact h
  · intro ys x ih z hz
    rw [backR_snoc] at hz
    rw [List.length_append, List.length_singleton]
    split at hz
    · rcases List.mem_or_eq_of_mem_set hz with q | q
      · have := ih z q
        omega
      · subst q
        rw [List.length_append, List.length_singleton]
        have : ((backR m ys rows).getD x.2.1 []).length ≤ B + ys.length := by
          rw [List.getD_eq_getElem?_getD]
          cases e : (backR m ys rows)[x.2.1]? with
          | none => simp
          | some y => exact ih y (List.mem_of_getElem? e)
        omega
    · have := ih z hz
      omega
theorem b_Table__take_back (ds : List D) (S : Sto) (Q : QE) (h : P_Table__take_back c ds S Q) : w_Table__take_back c (esDef flKeep S Q) (start0 6 ds) S := by
  obtain ⟨A, l, r, e, n, m, rows, es, rfl, ht, hz, hq⟩ := h
  unfold w_Table__take_back
  have hlt := ht.ll
  have hrt := ht.rl
  have het := ht.el
  have hez := ht.z
  have gl : ∀ x, (S.set r x)[l]? = some (tb c A r e n) := fun x => by rw [List.getElem?_set_ne ht.ne_r]; exact ht.l
  have ge : ∀ x, (S.set r x)[e]? = some (.lst (evD es)) := fun x => by rw [List.getElem?_set_ne ht.ne]; exact ht.e
  have hB : ∀ x ∈ rows, x.length ≤ 900 - es.length := fun x hx => by
    have := hz x hx
    omega
  have h0 : S.set r (.lst (wsD (backR m [] rows))) = S := by
    obtain ⟨h1, h2⟩ := List.getElem?_eq_some_iff.mp ht.r
    show S.set r (.lst (wsD rows)) = S
    rw [← h2]
    simp
  simp_arith only [ht.l, ht.e]
  refine ForP.over es (fun e : Ev => D.tup [.int (e.1 : Nat), .int (e.2.1 : Nat), .int (e.2.2 : Nat)]) (fun ys ρ S' => S' = S.set r (.lst (wsD (backR m ys rows))) ∧ ∃ x y z, ρ = [some (.ref l), some (.int (m : Nat)), x, y, z, none]) ⟨h0.symm, _, _, _, rfl⟩ (fun ys ρ S' h => ?_) ?_ ?_
  · obtain ⟨rfl, _⟩ := h
    simp_arith only [ge]
  · rintro ys ⟨i, hd, a⟩ zs ρ S' hx ⟨rfl, x, y, z, rfl⟩
    have hh : hd < rows.length := ht.h (i, hd, a) (by rw [hx]; simp)
    have hh' : hd < (backR m ys rows).length := by rw [backR_len]; exact hh
    have hlen : ys.length < es.length := by rw [hx]; simp
    have hr := backR_bd m hB ys _ (List.getElem_mem hh')
    have hg : (backR m ys rows)[hd]? = some (backR m ys rows)[hd] := List.getElem?_eq_getElem hh'
    have hgd : (backR m ys rows).getD hd [] = (backR m ys rows)[hd] := by rw [List.getD_eq_getElem?_getD, hg]; rfl
    have gr : ∀ x, (S.set r x)[r]? = some x := fun x => List.getElem?_set_self hrt
    simp_arith only []
    refine bY_mk (fun h => ?_) (fun h => ?_)
    · have h := of_decide_eq_true h
      have hrz : (backR m ys rows).length ≤ 4 := by rw [backR_len]; exact ht.hz
      simp_arith only [gl, gr, wsD_get hg, hh', List.length_set, hrt]
      refine bP_mk (szl (by omega)) ⟨?_, _, _, _, rfl⟩
      rw [wsD_set, backR_snoc, if_pos h, hgd]
      try rfl
    · have h := of_decide_eq_false h
      try simp_arith only []
      refine ⟨?_, _, _, _, rfl⟩
      rw [backR_snoc, if_neg h]
  · rintro ρ S' ⟨rfl, x, y, z, rfl⟩
    simp_arith only [gl, ge]
    refine LcP.pure es (fun e : Ev => D.tup [.int (e.1 : Nat), .int (e.2.1 : Nat), .int (e.2.2 : Nat)]) (fun x => !decide (x.1 = m)) (fun e => D.tup [.int (e.1 : Nat), .int (e.2.1 : Nat), .int (e.2.2 : Nat)]) (by simp_arith only [ge]) (szl (by omega)) (fun k hk X Y hX hY => ?_) ?_
    · simp_arith only []
      exact bY_mk hX hY
    · simp_arith only [hlt, gl, List.length_set]
      exact hq
end K5

namespace K5
open PySem Tk Tr L2
variable {c : Ca}
local macro_rules | `(tactic| simp_arith only [$xs,*]) => `(tactic| simp only [↓x_V, ↓x_C, ↓x_B, ↓x_U, ↓x_Nil, ↓x_Cons, ↓x_Z, ↓x_Tup, ↓x_Lst, ↓x_Fz, ↓x_Cl, ↓x_BF, ↓x_ZF, ↓x_Tb, ↓x_AndT, ↓x_OrT, ↓x_NotT, ↓x_Yes, ↓x_AndV, ↓x_OrV, ↓x_NotV, ↓x_IfE, ↓x_Chain, ↓x_I, ↓x_Ib, ↓x_AddI, ↓x_AddT, ↓x_Cat, ↓x_Rep, ↓x_Neg, ↓x_Ix, ↓x_No, ↓x_So, ↓x_SlT, ↓x_SlL, ↓x_Rev, ↓x_In, ↓x_NotIn, ↓x_IsN, ↓x_NotN, ↓x_IsB, ↓x_NotB, ↓x_Len, ↓x_Int, ↓x_Max2, ↓x_Max, ↓x_Min, ↓x_Sum, ↓x_All, ↓x_Any, ↓x_List, ↓x_Tuple, ↓x_Sorted, ↓x_M, ↓x_M0, ↓x_Append, ↓x_Pop, ↓x_PopAt, ↓x_Reverse, ↓x_Fld, ↓x_FldNew, ↓x_FldSet, ↓x_FldAug, ↓x_Call, ↓x_Meth, ↓x_Make, ↓x_Frz, ↓x_gN, ↓x_gsNil, ↓x_gsCons, ↓x_gTu, ↓x_gIx, ↓x_Seq, ↓x_SNil, ↓x_Asg, ↓x_Drop, ↓x_Ret, ↓x_RetN, ↓x_If, ↓x_Brk, ↓x_Cnt, ↓x_Aug, ↓x_AugIx, ↓x_Par, ↓x_WIn, ↓x_R1, ↓x_R2, ↓x_R3, ↓x_DNew, ↓x_Disp1, ↓x_DPut, ↓x_SortedD, ↓x_DictP, ↓x_LRg, ↓x_For, ↓x_While, ↓x_Lc, ↓x_Inv, ↓x_Tt, ↓x_En, ↓x_TNew, ↓x_TDisp1, ↓x_TGet, ↓x_TGet2, ↓x_TPut, ↓x_KeysT, ↓x_EqI, ↓x_NeI, ↓x_NeB, ↓e_rt, ↓e_nx, ↓tgP, ↓kR25', ↓kR24', ↓kR23', ↓kR22', ↓kTt', ↓kEn2', ↓kEn', ↓kTD2', ↓kTD1', ↓kTG2', ↓kTG1', ↓kTH3', ↓kTH2', ↓kTH1', ↓kTP3', ↓kTP2', ↓kTP1', ↓kKy', ↓kQ', ↓kB2', ↓kB1', ↓kU', ↓kC2', ↓kC1', ↓kZ', ↓kTup', ↓kLst', ↓kFz', ↓kCl', ↓kBF2', ↓kBF1', ↓kZF', ↓kT', ↓kTb', ↓kAndT', ↓kOrT', ↓kNotT', ↓kAndV2', ↓kAndV', ↓kOrV2', ↓kOrV', ↓kNotV2', ↓kNotV', ↓kIfE', ↓kCh5', ↓kCh4', ↓kCh3', ↓kCh2', ↓kCh1', ↓kI2', ↓kI1', ↓kIb2', ↓kIb1', ↓kCat2', ↓kCat1', ↓kRep2', ↓kRep1', ↓kNeg', ↓kIx2', ↓kIx1', ↓kSo2', ↓kSo', ↓kSl4', ↓kSl3', ↓kSl2', ↓kSl1', ↓kSm4', ↓kSm3', ↓kSm2', ↓kSm1', ↓kRev2', ↓kRev', ↓kIn3', ↓kIn2', ↓kIn1', ↓kNi3', ↓kNi2', ↓kNi1', ↓kIs2', ↓kIs1', ↓kNb2', ↓kNb1', ↓kLen', ↓kMax2', ↓kMax1', ↓kMin2', ↓kMin1', ↓kSum2', ↓kSum1', ↓kAll2', ↓kAll1', ↓kAny2', ↓kAny1', ↓kList', ↓kTuple', ↓kSrt2', ↓kSrt1', ↓kM2', ↓kM1', ↓kM0', ↓kAp2', ↓kAp1', ↓kPop3', ↓kPop2', ↓kPop1', ↓kPa5', ↓kPa4', ↓kPa3', ↓kPa2', ↓kPa1', ↓kRv2', ↓kRv1', ↓kFld2', ↓kFld1', ↓kFn4', ↓kFn3', ↓kFn2', ↓kFn1', ↓kFs4', ↓kFs3', ↓kFs2', ↓kFs1', ↓kFa7', ↓kFa6', ↓kFa5', ↓kFa4', ↓kFa35', ↓kFa3', ↓kFa2', ↓kFa1', ↓kCall', ↓kMt3', ↓kMt2', ↓kMt1', ↓kMk2', ↓kMk1', ↓kFrz3', ↓kFrz2', ↓kFrz1', ↓kGs', ↓kGt', ↓kGi6', ↓kGi5', ↓kGi4', ↓kGi3', ↓kGi2', ↓kGi1', ↓kAsg', ↓kDrop', ↓kIf', ↓kAug3', ↓kAug2', ↓kAug1', ↓kAi10', ↓kAi9', ↓kAi8', ↓kAi7', ↓kAi6', ↓kAi5', ↓kAi4', ↓kAi3', ↓kAi2', ↓kAi1', ↓kPar2', ↓kPar1', ↓kWin2', ↓kWin1', ↓kR12', ↓kR11', ↓kR36', ↓kR35', ↓kR34', ↓kR33', ↓kR32', ↓kR31', ↓kDi3', ↓kDi2', ↓kDi1', ↓kDp6', ↓kDp5', ↓kDp4', ↓kDp3', ↓kDp2', ↓kDp1', ↓kSd2', ↓kSd1', ↓kDc2', ↓kDc1', ↓kLr2', ↓kLr1', ↓kFor', ↓kLc', ↓kF2', z0, z1, z2, z3, z4, z5, z6, z0', bO_some, bI_int, bB_bl, bL_ref, bN_non, bP_t, bY_t, bY_f, q_tup, q_lst, q_rd, q_ref, l_lst, l_ref, i_ins, i_ref, d_dk, d_ref, cl_lst, cl_ins, cl_dk, tr_ref, tr_tup, tr_lst, tr_clst, f_dt, f_lst', f_dk, f_ins, sb, sj, gset0, gset, sset0, sset, g_app0, g_app, flt_t, g_lt, s_lt, gs_self, List.set_set, s_app0, s_app, ixN_nat, at_nat, atI_0, atI_1, atI_2, atI_3, nats_len, ints_nats, mem_cast, nats_app, nats_snoc, nats_rev, nats_set, nats_erase, rng_0, rng_N, lt_cast, le_cast, max_cast, lt0, ge0, eq0, gt0, eq_cast, keyO, tupOf, fzO, List.getElem?_cons_zero, List.getElem?_cons_succ, List.set_cons_zero, List.set_cons_succ, List.length_cons, List.length_nil, List.length_append, List.append_assoc, List.cons_append, List.nil_append, List.append_nil, List.length_set, List.length_map, List.length_range, Nat.reduceAdd, Nat.zero_add, Nat.add_zero, Option.isSome_some, and_self, and_true, true_and, Option.bind_some, decide_true, decide_false, decide_eq_true_eq, wipeD, setAllD, Bool.not_true, Bool.not_false, Tk.isNon, eq_self, if_true, if_pos, start0, List.map_cons, List.map_nil, List.replicate, List.take, Nat.reduceSub, Nat.reduceLeDiff, Nat.reduceLT, Int.toNat_natCast, Int.reduceNeg, Nat.reduceEqDiff, Nat.add_eq, Nat.add_assoc, i_al, dLs_len, i_tb, wsD_len, evD_len, $xs,*])
local macro_rules | `(tactic| simp_arith! only [$xs,*]) => `(tactic| simp only [↓x_V, ↓x_C, ↓x_B, ↓x_U, ↓x_Nil, ↓x_Cons, ↓x_Z, ↓x_Tup, ↓x_Lst, ↓x_Fz, ↓x_Cl, ↓x_BF, ↓x_ZF, ↓x_Tb, ↓x_AndT, ↓x_OrT, ↓x_NotT, ↓x_Yes, ↓x_AndV, ↓x_OrV, ↓x_NotV, ↓x_IfE, ↓x_Chain, ↓x_I, ↓x_Ib, ↓x_AddI, ↓x_AddT, ↓x_Cat, ↓x_Rep, ↓x_Neg, ↓x_Ix, ↓x_No, ↓x_So, ↓x_SlT, ↓x_SlL, ↓x_Rev, ↓x_In, ↓x_NotIn, ↓x_IsN, ↓x_NotN, ↓x_IsB, ↓x_NotB, ↓x_Len, ↓x_Int, ↓x_Max2, ↓x_Max, ↓x_Min, ↓x_Sum, ↓x_All, ↓x_Any, ↓x_List, ↓x_Tuple, ↓x_Sorted, ↓x_M, ↓x_M0, ↓x_Append, ↓x_Pop, ↓x_PopAt, ↓x_Reverse, ↓x_Fld, ↓x_FldNew, ↓x_FldSet, ↓x_FldAug, ↓x_Call, ↓x_Meth, ↓x_Make, ↓x_Frz, ↓x_gN, ↓x_gsNil, ↓x_gsCons, ↓x_gTu, ↓x_gIx, ↓x_SNil, ↓x_Asg, ↓x_Drop, ↓x_Ret, ↓x_RetN, ↓x_If, ↓x_Brk, ↓x_Cnt, ↓x_Aug, ↓x_AugIx, ↓x_Par, ↓x_WIn, ↓x_R1, ↓x_R2, ↓x_R3, ↓x_DNew, ↓x_Disp1, ↓x_DPut, ↓x_SortedD, ↓x_DictP, ↓x_LRg, ↓x_For, ↓x_While, ↓x_Lc, ↓x_Inv, ↓x_Tt, ↓x_En, ↓x_TNew, ↓x_TDisp1, ↓x_TGet, ↓x_TGet2, ↓x_TPut, ↓x_KeysT, ↓x_EqI, ↓x_NeI, ↓x_NeB, ↓e_rt, ↓e_nx, ↓tgP, ↓kR25', ↓kR24', ↓kR23', ↓kR22', ↓kTt', ↓kEn2', ↓kEn', ↓kTD2', ↓kTD1', ↓kTG2', ↓kTG1', ↓kTH3', ↓kTH2', ↓kTH1', ↓kTP3', ↓kTP2', ↓kTP1', ↓kKy', ↓kQ', ↓kB2', ↓kB1', ↓kU', ↓kC2', ↓kC1', ↓kZ', ↓kTup', ↓kLst', ↓kFz', ↓kCl', ↓kBF2', ↓kBF1', ↓kZF', ↓kT', ↓kTb', ↓kAndT', ↓kOrT', ↓kNotT', ↓kAndV2', ↓kAndV', ↓kOrV2', ↓kOrV', ↓kNotV2', ↓kNotV', ↓kIfE', ↓kCh5', ↓kCh4', ↓kCh3', ↓kCh2', ↓kCh1', ↓kI2', ↓kI1', ↓kIb2', ↓kIb1', ↓kCat2', ↓kCat1', ↓kRep2', ↓kRep1', ↓kNeg', ↓kIx2', ↓kIx1', ↓kSo2', ↓kSo', ↓kSl4', ↓kSl3', ↓kSl2', ↓kSl1', ↓kSm4', ↓kSm3', ↓kSm2', ↓kSm1', ↓kRev2', ↓kRev', ↓kIn3', ↓kIn2', ↓kIn1', ↓kNi3', ↓kNi2', ↓kNi1', ↓kIs2', ↓kIs1', ↓kNb2', ↓kNb1', ↓kLen', ↓kMax2', ↓kMax1', ↓kMin2', ↓kMin1', ↓kSum2', ↓kSum1', ↓kAll2', ↓kAll1', ↓kAny2', ↓kAny1', ↓kList', ↓kTuple', ↓kSrt2', ↓kSrt1', ↓kM2', ↓kM1', ↓kM0', ↓kAp2', ↓kAp1', ↓kPop3', ↓kPop2', ↓kPop1', ↓kPa5', ↓kPa4', ↓kPa3', ↓kPa2', ↓kPa1', ↓kRv2', ↓kRv1', ↓kFld2', ↓kFld1', ↓kFn4', ↓kFn3', ↓kFn2', ↓kFn1', ↓kFs4', ↓kFs3', ↓kFs2', ↓kFs1', ↓kFa7', ↓kFa6', ↓kFa5', ↓kFa4', ↓kFa35', ↓kFa3', ↓kFa2', ↓kFa1', ↓kCall', ↓kMt3', ↓kMt2', ↓kMt1', ↓kMk2', ↓kMk1', ↓kFrz3', ↓kFrz2', ↓kFrz1', ↓kGs', ↓kGt', ↓kGi6', ↓kGi5', ↓kGi4', ↓kGi3', ↓kGi2', ↓kGi1', ↓kAsg', ↓kDrop', ↓kIf', ↓kAug3', ↓kAug2', ↓kAug1', ↓kAi10', ↓kAi9', ↓kAi8', ↓kAi7', ↓kAi6', ↓kAi5', ↓kAi4', ↓kAi3', ↓kAi2', ↓kAi1', ↓kPar2', ↓kPar1', ↓kWin2', ↓kWin1', ↓kR12', ↓kR11', ↓kR36', ↓kR35', ↓kR34', ↓kR33', ↓kR32', ↓kR31', ↓kDi3', ↓kDi2', ↓kDi1', ↓kDp6', ↓kDp5', ↓kDp4', ↓kDp3', ↓kDp2', ↓kDp1', ↓kSd2', ↓kSd1', ↓kDc2', ↓kDc1', ↓kLr2', ↓kLr1', ↓kFor', ↓kLc', ↓kF2', z0, z1, z2, z3, z4, z5, z6, z0', bO_some, bI_int, bB_bl, bL_ref, bN_non, bP_t, bY_t, bY_f, q_tup, q_lst, q_rd, q_ref, l_lst, l_ref, i_ins, i_ref, d_dk, d_ref, cl_lst, cl_ins, cl_dk, tr_ref, tr_tup, tr_lst, tr_clst, f_dt, f_lst', f_dk, f_ins, sb, sj, gset0, gset, sset0, sset, g_app0, g_app, flt_t, g_lt, s_lt, gs_self, List.set_set, s_app0, s_app, ixN_nat, at_nat, atI_0, atI_1, atI_2, atI_3, nats_len, ints_nats, mem_cast, nats_app, nats_snoc, nats_rev, nats_set, nats_erase, rng_0, rng_N, lt_cast, le_cast, max_cast, lt0, ge0, eq0, gt0, eq_cast, keyO, tupOf, fzO, List.getElem?_cons_zero, List.getElem?_cons_succ, List.set_cons_zero, List.set_cons_succ, List.length_cons, List.length_nil, List.length_append, List.append_assoc, List.cons_append, List.nil_append, List.append_nil, List.length_set, List.length_map, List.length_range, Nat.reduceAdd, Nat.zero_add, Nat.add_zero, Option.isSome_some, and_self, and_true, true_and, Option.bind_some, decide_true, decide_false, decide_eq_true_eq, wipeD, setAllD, Bool.not_true, Bool.not_false, Tk.isNon, eq_self, if_true, if_pos, start0, List.map_cons, List.map_nil, List.replicate, List.take, Nat.reduceSub, Nat.reduceLeDiff, Nat.reduceLT, Int.toNat_natCast, Int.reduceNeg, Nat.reduceEqDiff, Nat.add_eq, Nat.add_assoc, i_al, dLs_len, i_tb, wsD_len, evD_len, $xs,*])
def ofHand (es : List Ev) (h : Nat) : List Nat := (es.filter fun x => decide (x.2.1 = h)).map (·.1)
theorem ofHand_is (es : List Ev) (h : Nat) : ((es.filter fun x => decide (x.2.1 = h)).map fun x : Ev => D.int (x.1 : Nat)) = nats (ofHand es h) := by
  unfold nats ofHand
  rw [List.map_map]
  rfl
theorem at_getLast {l : List Nat} {m : Nat} (h : l.getLast? = some m) : atI (nats l) (-1) = some (.int (m : Nat)) ∧ (nats l).isEmpty = false := by
  obtain ⟨r, rfl⟩ : ∃ r, l = r ++ [m] := List.getLast?_eq_some_iff.mp h
  exact ⟨at_last r m, by simp [nats]⟩
theorem b_Table__newest (ds : List D) (S : Sto) (Q : QE) (h : P_Table__newest c ds S Q) : w_Table__newest c (esDef flCut S Q) (start0 6 ds) S := by
  obtain ⟨A, l, r, e, n, h, m, rows, es, rfl, ht, hn, hq⟩ := h
  unfold w_Table__newest
  have hz := ht.z
  obtain ⟨g1, g2⟩ := at_getLast (show (ofHand es h).getLast? = some m from hn)
  simp_arith only [ht.l, ht.e]
  refine LcP.pure es (fun e : Ev => D.tup [.int (e.1 : Nat), .int (e.2.1 : Nat), .int (e.2.2 : Nat)]) (fun x => decide (x.2.1 = h)) (fun e => D.int (e.1 : Nat)) (by simp_arith only [ht.e]) (szl (by omega)) (fun k hk X Y hX hY => ?_) ?_
  · simp_arith only []
    exact bY_mk hX hY
  · rw [ofHand_is]
    simp_arith only [g1, g2]
    exact cut_rfl (.int _) hq
theorem bx_Table__newest (ds : List D) (S : Sto) (RX : Sto → Prop) (h : X_Table__newest c ds S RX) : wx_Table__newest c (start0 6 ds) S RX := by
  obtain ⟨A, l, r, e, n, h, rows, es, rfl, ht, hh, hn, hq⟩ := h
  unfold wx_Table__newest wSeqX wIfX
  have hz := ht.z
  have e1 : ofHand es h = [] := List.getLast?_eq_none_iff.mp hn
  simp_arith only [ht.l, ht.e]
  refine LcP.pure es (fun e : Ev => D.tup [.int (e.1 : Nat), .int (e.2.1 : Nat), .int (e.2.2 : Nat)]) (fun x => decide (x.2.1 = h)) (fun e => D.int (e.1 : Nat)) (by simp_arith only [ht.e]) (szl (by omega)) (fun k hk X Y hX hY => ?_) ?_
  · simp_arith only []
    exact bY_mk hX hY
  · rw [ofHand_is, e1]
    simp_arith only [nats_nil, List.isEmpty_nil]
    exact hq
theorem backE_mem {m : Nat} {es : List Ev} {x : Ev} (h : x ∈ backE m es) : x ∈ es := (List.mem_filter.mp h).1
theorem backE_len (m : Nat) (es : List Ev) : (backE m es).length ≤ es.length := List.length_filter_le _ _
theorem tb_back {S : Sto} {l r e n m : Nat} {A : Al} {rows : List (List Nat)} {es : List Ev} (ht : TbAt c S l r e A rows es n) (hz : ∀ x ∈ rows, x.length + es.length ≤ 900) :
    TbAt c (((S.set r (.lst (wsD (backR m es rows)))).set l (tb c A r S.length n)) ++ [Cell.lst (evD (backE m es))]) l r S.length A (backR m es rows) (backE m es) n ∧
      Und S (((S.set r (.lst (wsD (backR m es rows)))).set l (tb c A r S.length n)) ++ [Cell.lst (evD (backE m es))]) l r e S.length := by
  have hlt := ht.ll
  have hrt := ht.rl
  have hnr := ht.ne_r
  refine ⟨⟨by omega, ht.o, ?_, ?_, ?_, fun x hx => ht.w x (backE_mem hx), fun x hx => by rw [backR_len]; exact ht.h x (backE_mem hx), Nat.le_trans (backE_len m es) ht.z, fun x hx => ?_, by rw [backR_len]; exact ht.hz⟩, ⟨by simp, fun i hi h1 h2 => ?_, .inr (Nat.le_refl _)⟩⟩
  · rw [List.getElem?_append_left (by simpa using hlt), List.getElem?_set_self (by simpa using hlt)]
  · rw [List.getElem?_append_left (by simpa using hrt), List.getElem?_set_ne (Ne.symm hnr), List.getElem?_set_self hrt]
  · rw [List.getElem?_append_right (by simp)]
    simp
  · have := backR_bd m (B := 900 - es.length) (fun x hx => by have := hz x hx; omega) es x hx
    have : es.length ≤ 900 := by
      cases rows with
      | nil =>
        have := backR_len m ([] : List (List Nat)) es
        have h0 : backR m es [] = [] := List.length_eq_zero_iff.mp this
        rw [h0] at hx
        cases hx
      | cons y ys =>
        have := hz y (by simp)
        omega
    omega
  · rw [List.getElem?_append_left (by simpa using hi), List.getElem?_set_ne (Ne.symm h1), List.getElem?_set_ne (Ne.symm h2)]
theorem b_Table_undo (ds : List D) (S : Sto) (Q : QE) (h : P_Table_undo c ds S Q) : w_Table_undo c (esDef flKeep S Q) (start0 3 ds) S := by
  obtain ⟨A, l, r, e, n, h, m, rows, es, rfl, ht, hz, hh, hn, hm, hq⟩ := h
  unfold w_Table_undo
  simp_arith only [ht.l]
  refine ⟨A, l, r, e, n, h, rows, es, rfl, ht, hh, ?_⟩
  simp_arith only [ht.l]
  refine ⟨A, l, r, e, n, h, m, rows, es, rfl, ht, hn, ?_⟩
  simp_arith only [ht.l]
  refine ⟨A, l, r, e, n, m, rows, es, rfl, ht, ?_⟩
  rw [hm]
  try simp_arith only []
  refine x_NeS (fl_lst _ _) ?_
  simp_arith only [ht.l]
  refine ⟨A, l, r, e, n, m, rows, es, rfl, ht, hz, ?_⟩
  obtain ⟨h1, h2⟩ := tb_back (m := m) ht hz
  try simp_arith only []
  exact hq _ _ h2 h1
theorem bx_Table_undo (ds : List D) (S : Sto) (RX : Sto → Prop) (h : X_Table_undo c ds S RX) : wx_Table_undo c (start0 3 ds) S RX := by
  have h0 := h
  obtain ⟨A, l, r, e, n, h, rows, es, rfl, ht, hh, hn, hq⟩ := h
  unfold wx_Table_undo wSeqX wMethX
  simp_arith only [ht.l]
  refine ⟨A, l, r, e, n, h, rows, es, rfl, ht, hh, ?_⟩
  simp_arith only [ht.l]
  exact ⟨⟨_, rfl⟩, h0⟩
theorem muL_len (A : Al) (m : Nat) : ∀ (es : List (Nat × Nat)) (L : List Nat), (muL A m es L).length ≤ es.length
  | [], _ => by simp [muL]
  | (i, a) :: r, L => by
    unfold muL
    split
    · have := muL_len A m r (L ++ [a])
      simp only [List.length_cons]
      omega
    · have := muL_len A m r L
      simp only [List.length_cons]
      omega
def backs (ms : List Nat) (rows : List (List Nat)) (es : List Ev) : List (List Nat) × List Ev := ms.foldl (fun p m => (backR m p.2 p.1, backE m p.2)) (rows, es)
theorem backs_snoc (ms : List Nat) (m : Nat) (rows : List (List Nat)) (es : List Ev) : backs (ms ++ [m]) rows es = (backR m (backs ms rows es).2 (backs ms rows es).1, backE m (backs ms rows es).2) := by
  unfold backs
  rw [List.foldl_append]
  rfl
theorem Und.tr {S S1 S2 : Sto} {l r e e1 e2 : Nat} (h : Und S S1 l r e e1) (k : Und S1 S2 l r e1 e2) : Und S S2 l r e e2 :=
  ⟨Nat.le_trans h.len k.len, fun i hi h1 h2 => (k.keep i (Nat.lt_of_lt_of_le hi h.len) h1 h2).trans (h.keep i hi h1 h2), by
    have := h.len
    rcases k.ev with q | q
    · rw [q]
      exact h.ev
    · exact .inr (Nat.le_trans this q)⟩
theorem b_Table_undo_with_all (ds : List D) (S : Sto) (Q : QE) (h : P_Table_undo_with_all c ds S Q) : w_Table_undo_with_all c (esDef flKeep S Q) (start0 4 ds) S := by
  obtain ⟨A, l, r, e, n, h, m, rows, es, rfl, ht, hz, hh, hn, hq⟩ := h
  unfold w_Table_undo_with_all
  simp_arith only [ht.l]
  refine ⟨A, l, r, e, n, h, rows, es, rfl, ht, hh, ?_⟩
  simp_arith only [ht.l]
  refine ⟨A, l, r, e, n, h, m, rows, es, rfl, ht, hn, ?_⟩
  simp_arith only [ht.l]
  refine ⟨A, l, r, e, n, m, rows, es, rfl, ht, ?_⟩
  have hml := muL_len A m (num es) []
  have hnl : (num es).length = es.length := by simp [num]
  try simp_arith only []
  generalize hM : muL A m (num es) [] = M at hml hq ⊢
  try simp_arith only [nats_rev]
  refine ForP.over M.reverse (fun n : Nat => D.int (n : Nat)) (fun ys ρ S' => ∃ e', Und S S' l r e e' ∧ TbAt c S' l r e' A (backs ys rows es).1 (backs ys rows es).2 n ∧ (∀ x ∈ (backs ys rows es).1, x.length + (es.length - ys.length) * es.length ≤ 900) ∧ (backs ys rows es).2.length ≤ es.length ∧ ∃ z, ρ = [some (.ref l), some (.int (h : Nat)), some (.lst (nats M)), z])
    ⟨e, ⟨Nat.le_refl _, fun _ _ _ _ => rfl, .inl rfl⟩, ht, fun x hx => hz x hx, Nat.le_refl _, _, rfl⟩ (fun ys ρ S' h => trivial) ?_ ?_
  · rintro ys k zs ρ S' hx ⟨e', hU, ht', hb, hl, z, rfl⟩
    have hlen : ys.length < es.length := by
      have : M.reverse.length = ys.length + (zs.length + 1) := by rw [hx]; simp
      rw [List.length_reverse] at this
      omega
    have hmul : (es.length - ys.length) * es.length = (es.length - (ys.length + 1)) * es.length + es.length := by
      have : es.length - ys.length = (es.length - (ys.length + 1)) + 1 := by omega
      rw [this, Nat.add_mul]
      omega
    have hz' : ∀ x ∈ (backs ys rows es).1, x.length + (backs ys rows es).2.length ≤ 900 := fun x hx => by
      have := hb x hx
      omega
    simp_arith only [ht'.l]
    refine ⟨A, l, r, e', n, k, _, _, rfl, ht', hz', ?_⟩
    obtain ⟨t1, t2⟩ := tb_back (m := k) ht' hz'
    try simp_arith only []
    refine ⟨S'.length, hU.tr t2, ?_, fun x hx => ?_, ?_, _, rfl⟩
    · rw [backs_snoc]
      exact t1
    · rw [backs_snoc] at hx
      have := backR_bd k (B := 900 - (es.length - ys.length) * es.length) (fun y hy => by have := hb y hy; omega) _ x hx
      have : (es.length - ys.length) * es.length ≤ 900 := by
        cases hr : (backs ys rows es).1 with
        | nil =>
          have h0 := backR_len k (backs ys rows es).1 (backs ys rows es).2
          rw [hr] at h0 hx
          have h0 : backR k (backs ys rows es).2 [] = [] := List.length_eq_zero_iff.mp h0
          rw [h0] at hx
          cases hx
        | cons y _ =>
          have := hb y (by rw [hr]; simp)
          omega
      omega
    · rw [backs_snoc]
      exact Nat.le_trans (backE_len _ _) hl
  · rintro ρ S' ⟨e', hU, ht', hb, hl, z, rfl⟩
    simp_arith only []
    exact hq _ _ hU ht'
theorem bx_Table_undo_with_all (ds : List D) (S : Sto) (RX : Sto → Prop) (h : X_Table_undo_with_all c ds S RX) : wx_Table_undo_with_all c (start0 4 ds) S RX := by
  have h0 := h
  obtain ⟨A, l, r, e, n, h, rows, es, rfl, ht, hh, hn, hq⟩ := h
  unfold wx_Table_undo_with_all wSeqX wMethXA wMethX
  simp_arith only [ht.l]
  refine ⟨A, l, r, e, n, h, rows, es, rfl, ht, hh, ?_⟩
  simp_arith only [ht.l]
  exact ⟨⟨_, rfl⟩, ⟨_, rfl⟩, h0⟩
end K5

namespace K5
open PySem Tk Tr L2
variable {c : Ca}
/-! plain facts of tables whose events are numbered from 0 -/
theorem eqv_compl {A : Al} {w C : List Nat} (hw : Wo A w) (hC : Cl A w C) : Eqv A w (sub w C ++ sub w ((List.range w.length).filter fun x => !decide (x ∈ C))) := by
  have h := cut_split hw (I := List.range w.length) (fun i hi => List.mem_range.mp hi) (asc_range _) hC
  rw [sub_all] at h
  have e : (List.range w.length).filter (fun x => decide (x ∈ C)) = C := asc_ext ((asc_range _).filter _) hC.asc fun x => by
    simp only [List.mem_filter, List.mem_range, decide_eq_true_eq]
    exact ⟨fun h => h.2, fun h => ⟨hC.lt x h, h⟩⟩
  rwa [e] at h
/-- events numbered from 0 -/
def Num (es : List Ev) : Prop := es.map (·.1) = List.range es.length
theorem lett_len (es : List Ev) : (lett es).length = es.length := by simp [lett]
theorem lett_at {es : List Ev} {i : Nat} {x : Ev} (h : es[i]? = some x) : at0 (lett es) i = x.2.2 := by
  unfold lett at0
  rw [List.getD_eq_getElem?_getD, List.getElem?_map, h]
  rfl
theorem Num.at {es : List Ev} (h : Num es) {i : Nat} {x : Ev} (hx : es[i]? = some x) : x.1 = i := by
  have h1 : (es.map (·.1))[i]? = some x.1 := by rw [List.getElem?_map, hx]; rfl
  have hi := (List.getElem?_eq_some_iff.mp hx).1
  rw [h, List.getElem?_range hi] at h1
  exact (Option.some.inj h1).symm
theorem Num.snoc {es : List Ev} (h : Num es) (hd a : Nat) : Num (es ++ [(es.length, hd, a)]) := by
  unfold Num at h ⊢
  rw [List.map_append, h, List.length_append, List.length_singleton, List.range_succ]
  rfl
theorem num_is {es : List Ev} (h : Num es) : num es = prE (lett es) (List.range (lett es).length) := by
  rw [lett_len]
  apply List.ext_getElem?
  intro i
  unfold num prE
  rw [List.getElem?_map, List.getElem?_map]
  by_cases hi : i < es.length
  · rw [List.getElem?_range hi, List.getElem?_eq_getElem hi]
    have h1 := h.at (List.getElem?_eq_getElem hi)
    have h2 := lett_at (List.getElem?_eq_getElem hi)
    show some (es[i].1, es[i].2.2) = some (i, at0 (lett es) i)
    rw [h1, h2]
  · rw [List.getElem?_eq_none (by omega), List.getElem?_eq_none (by simp; omega)]
    rfl
/-- what is kept when M is gone -/
def keepE (es : List Ev) (M : List Nat) : List Ev := es.filter fun x => !decide (x.1 ∈ M)
theorem keep_lett {es : List Ev} (h : Num es) (M : List Nat) : lett (keepE es M) = sub (lett es) ((List.range (lett es).length).filter fun i => !decide (i ∈ M)) := by
  have e1 : es = (List.range es.length).map fun i => es.getD i (0, 0, 0) := by
    apply List.ext_getElem?
    intro i
    rw [List.getElem?_map]
    by_cases hi : i < es.length
    · rw [List.getElem?_range hi, List.getElem?_eq_getElem hi]
      show some es[i] = some (es.getD i (0, 0, 0))
      rw [List.getD_eq_getElem?_getD, List.getElem?_eq_getElem hi]
      rfl
    · rw [List.getElem?_eq_none (by omega), List.getElem?_eq_none (by simp; omega)]
      rfl
  unfold keepE lett sub
  conv => lhs; rw [e1]
  rw [List.filter_map, List.map_map, List.length_map]
  have e2 : (List.range es.length).filter ((fun x : Ev => !decide (x.1 ∈ M)) ∘ fun i => es.getD i (0, 0, 0)) = (List.range es.length).filter fun i => !decide (i ∈ M) := by
    apply List.filter_congr
    intro i hi
    have hi := List.mem_range.mp hi
    show (!decide ((es.getD i (0, 0, 0)).1 ∈ M)) = _
    have : es.getD i (0, 0, 0) = es[i] := by rw [List.getD_eq_getElem?_getD, List.getElem?_eq_getElem hi]; rfl
    rw [this, h.at (List.getElem?_eq_getElem hi)]
  rw [e2]
  apply List.map_congr_left
  intro i hi
  have hi := List.mem_range.mp (List.mem_filter.mp hi).1
  have h1 : es.getD i (0, 0, 0) = es[i] := by rw [List.getD_eq_getElem?_getD, List.getElem?_eq_getElem hi]; rfl
  have h2 := lett_at (List.getElem?_eq_getElem hi)
  show (es.getD i (0, 0, 0)).2.2 = at0 (lett es) i
  rw [h1, h2]
theorem backs_keep (rows : List (List Nat)) (es : List Ev) : ∀ M : List Nat, (backs M rows es).2 = keepE es M := by
  refine snocI ?_ ?_
  · show es = es.filter _
    exact (List.filter_eq_self.mpr fun _ _ => by simp).symm
  · intro ys x ih
    rw [backs_snoc]
    show backE x (backs ys rows es).2 = _
    rw [ih]
    unfold backE keepE
    rw [List.filter_filter]
    apply List.filter_congr
    intro y _
    simp only [List.mem_append, List.mem_singleton, not_or, Bool.decide_or, Bool.not_or]
    exact Bool.and_comm _ _
theorem keep_rev (es : List Ev) (M : List Nat) : keepE es M.reverse = keepE es M := by
  unfold keepE
  apply List.filter_congr
  intro y _
  simp
def tot (rows : List (List Nat)) : Nat := (rows.map List.length).sum
theorem tot_set {rows : List (List Nat)} {i a : Nat} (hi : i < rows.length) : tot (rows.set i (rows.getD i [] ++ [a])) = tot rows + 1 := by
  unfold tot
  induction rows generalizing i with
  | nil => simp at hi
  | cons r rs ih =>
    cases i with
    | zero =>
      simp
      omega
    | succ n =>
      have := ih (i := n) (by simpa using hi)
      simp only [List.set_cons_succ, List.map_cons, List.sum_cons, List.getD_cons_succ]
      omega
theorem backR_none {m : Nat} {es : List Ev} (h : ∀ x ∈ es, x.1 ≠ m) (rows : List (List Nat)) : backR m es rows = rows := by
  unfold backR
  induction es generalizing rows with
  | nil => rfl
  | cons x es ih =>
    rw [List.foldl_cons, if_neg (h x (by simp))]
    exact ih (fun y hy => h y (by simp [hy])) rows
theorem backR_one {m : Nat} {es : List Ev} {x : Ev} (hn : (es.map (·.1)).Nodup) (hx : x ∈ es) (hm : x.1 = m) (rows : List (List Nat)) : backR m es rows = rows.set x.2.1 (rows.getD x.2.1 [] ++ [x.2.2]) := by
  obtain ⟨u, v, rfl⟩ := List.append_of_mem hx
  rw [List.map_append, List.map_cons, List.nodup_append, List.nodup_cons] at hn
  have h1 : ∀ y ∈ u, y.1 ≠ m := fun y hy e => hn.2.2 y.1 (List.mem_map.mpr ⟨y, hy, rfl⟩) x.1 (by simp) (e.trans hm.symm)
  have h2 : ∀ y ∈ v, y.1 ≠ m := fun y hy e => hn.2.1.1 (List.mem_map.mpr ⟨y, hy, e.trans hm.symm⟩)
  unfold backR
  rw [List.foldl_append, List.foldl_cons]
  have e1 := backR_none h1 rows
  unfold backR at e1
  rw [e1, if_pos hm]
  exact backR_none h2 _
theorem backs_len (rows : List (List Nat)) (es : List Ev) : ∀ M : List Nat, (backs M rows es).1.length = rows.length := by
  refine snocI rfl ?_
  intro ys x ih
  rw [backs_snoc]
  show (backR x _ _).length = _
  rw [backR_len, ih]
theorem backs_tot {rows : List (List Nat)} {es : List Ev} (hn : (es.map (·.1)).Nodup) (hh : ∀ x ∈ es, x.2.1 < rows.length) : ∀ M : List Nat, M.Nodup → (∀ m ∈ M, ∃ x ∈ es, x.1 = m) → tot (backs M rows es).1 = tot rows + M.length := by
  refine snocI ?_ ?_
  · intro _ _
    rfl
  · intro ys m ih hM hm
    rw [List.nodup_append] at hM
    have h0 := ih hM.1 fun k hk => hm k (by simp [hk])
    obtain ⟨x, hx, rfl⟩ := hm m (by simp)
    rw [backs_snoc]
    show tot (backR x.1 (backs ys rows es).2 (backs ys rows es).1) = _
    rw [backs_keep]
    have hxk : x ∈ keepE es ys := List.mem_filter.mpr ⟨hx, by
      have : x.1 ∉ ys := fun z => hM.2.2 x.1 z x.1 (by simp) rfl
      simp [this]⟩
    have hnk : ((keepE es ys).map (·.1)).Nodup := hn.sublist ((List.filter_sublist).map _)
    rw [backR_one hnk hxk rfl, tot_set (by rw [backs_len]; exact hh x hx), h0, List.length_append, List.length_singleton]
    omega
theorem Num.nodup {es : List Ev} (h : Num es) : (es.map (·.1)).Nodup := by
  rw [h]
  exact List.nodup_range
theorem upw_asc (A : Al) (w : List Nat) (r : Nat) : (upw A w r).Pairwise (· < ·) := (asc_range _).filter _
theorem offs_one (A : Al) (w : List Nat) (r : Nat) : offs A w [r] = (List.range w.length).filter fun i => !decide (i ∈ upw A w r) := by
  unfold offs
  apply List.filter_congr
  intro k hk
  have hk := List.mem_range.mp hk
  have : (k ∈ upw A w r) ↔ r ∈ dn A w [k] := by
    rw [upw_mem, dn_mem]
    exact ⟨fun h => h.2, fun h => ⟨hk, h⟩⟩
  simp only [List.any_cons, List.any_nil, Bool.or_false]
  congr 1
  rw [Bool.eq_iff_iff, decide_eq_true_eq, decide_eq_true_eq]
  exact this.symm
theorem kept_cl (A : Al) (w : List Nat) (r : Nat) : Cl A w ((List.range w.length).filter fun i => !decide (i ∈ upw A w r)) :=
  ⟨(asc_range _).filter _, fun i h => List.mem_range.mp (List.mem_filter.mp h).1, fun i j h d hj => by
    simp only [List.mem_filter, List.mem_range, Bool.not_eq_true', decide_eq_false_iff_not] at hj ⊢
    refine ⟨by omega, fun hi => hj.2 ?_⟩
    rw [upw_mem] at hi ⊢
    exact ⟨hj.1, hi.2.tr (.dep h hj.1 d)⟩⟩
theorem compl_upw (A : Al) (w : List Nat) (r : Nat) : ((List.range w.length).filter fun x => !decide (x ∈ (List.range w.length).filter fun i => !decide (i ∈ upw A w r))) = upw A w r :=
  asc_ext ((asc_range _).filter _) (upw_asc A w r) fun x => by
    simp only [List.mem_filter, List.mem_range, Bool.not_eq_true', decide_eq_false_iff_not]
    constructor
    · rintro ⟨h1, h2⟩
      exact Classical.byContradiction fun h => h2 ⟨h1, h⟩
    · intro h
      exact ⟨(upw_mem.mp h).1, fun z => z.2 h⟩
theorem kept_len (A : Al) (w : List Nat) (r : Nat) : ((List.range w.length).filter fun i => !decide (i ∈ upw A w r)).length + (upw A w r).length = w.length := by
  have h1 : (List.range w.length).filter (fun i => decide (i ∈ upw A w r)) = upw A w r := asc_ext ((asc_range _).filter _) (upw_asc A w r) fun x => by
    simp only [List.mem_filter, List.mem_range, decide_eq_true_eq]
    exact ⟨fun h => h.2, fun h => ⟨(upw_mem.mp h).1, h⟩⟩
  have h2 : ∀ (l : List Nat) (p : Nat → Bool), (l.filter fun i => !p i).length + (l.filter p).length = l.length := by
    intro l p
    induction l with
    | nil => rfl
    | cons a l ih =>
      rw [List.filter_cons, List.filter_cons]
      cases p a <;> simp <;> omega
  have := h2 (List.range w.length) fun i => decide (i ∈ upw A w r)
  rw [h1, List.length_range] at this
  exact this
/-- an event, and those behind it that stand above it -/
theorem gone_is {A : Al} {w : List Nat} {m : Nat} (hm : m < w.length) : m :: (((List.range (w.length - (m + 1))).map fun k => m + (1 + k)).filter fun o => decide (m ∈ dn A w [o])) = upw A w m := by
  refine asc_ext (List.pairwise_cons.mpr ⟨fun x hx => ?_, (List.Pairwise.map _ (fun a b h => by omega) (asc_range _)).filter _⟩) (upw_asc A w m) fun x => ?_
  · obtain ⟨k, _, rfl⟩ := List.mem_map.mp (List.mem_filter.mp hx).1
    omega
  · rw [upw_mem, List.mem_cons, List.mem_filter, List.mem_map, decide_eq_true_eq, dn_mem]
    constructor
    · rintro (q | ⟨⟨k, hk, rfl⟩, hd⟩)
      · subst q
        exact ⟨hm, .self hm⟩
      · exact ⟨by have := List.mem_range.mp hk; omega, hd⟩
    · rintro ⟨h1, h2⟩
      by_cases q : x = m
      · exact .inl q
      · have := h2.le
        exact .inr ⟨⟨x - (m + 1), List.mem_range.mpr (by omega), by omega⟩, h2⟩
theorem muL_last {A : Al} {n a : Nat} : ∀ {es : List (Nat × Nat)}, (∀ x ∈ es, x.1 ≠ n) → muL A n (es ++ [(n, a)]) [] = [n]
  | [], _ => by simp [muL]
  | (i, b) :: r, h => by
    have h1 : ¬ (i = n ∨ ∃ b' ∈ ([] : List Nat), dep A b' b = true) := by
      rintro (q | ⟨x, hx, _⟩)
      · exact h (i, b) (by simp) q
      · cases hx
    rw [List.cons_append]
    simp only [muL, if_neg h1]
    exact muL_last fun x hx => h x (by simp [hx])
theorem nwst_mem {es : List Ev} {h m : Nat} (e : nwst es h = some m) : ∃ x ∈ es, x.1 = m ∧ x.2.1 = h := by
  have h1 : m ∈ (es.filter fun x => decide (x.2.1 = h)).map (·.1) := List.mem_of_getLast? e
  obtain ⟨x, hx, rfl⟩ := List.mem_map.mp h1
  obtain ⟨h2, h3⟩ := List.mem_filter.mp hx
  exact ⟨x, h2, rfl, of_decide_eq_true h3⟩
theorem nwst_snoc (es : List Ev) (n h a : Nat) : nwst (es ++ [(n, h, a)]) h = some n := by
  unfold nwst
  rw [List.filter_append, List.map_append]
  simp
theorem lett_nats (es : List Ev) : (es.map fun e : Ev => D.int (e.2.2 : Nat)) = nats (lett es) := by
  unfold nats lett
  rw [List.map_map]
  rfl
theorem numb_nats {es : List Ev} (h : Num es) : (es.map fun e : Ev => D.int (e.1 : Nat)) = nats (List.range es.length) := by
  rw [← h]
  unfold nats
  rw [List.map_map]
  rfl
theorem last_at {l : List Nat} {m : Nat} (h : l.getLast? = some m) : 0 < l.length ∧ at0 l (l.length - 1) = m := by
  obtain ⟨r, rfl⟩ := List.getLast?_eq_some_iff.mp h
  refine ⟨by simp, ?_⟩
  unfold at0
  rw [List.getD_eq_getElem?_getD]
  simp
theorem kept_numb (p : Nat → Bool) (g : Nat → Nat) (q : Nat → Bool) (h : ∀ j, p j = q (g j)) (n : Nat) : (((List.range n).filter p).map fun j => D.int (g j : Nat)) = nats (((List.range n).map g).filter q) := by
  unfold nats
  rw [List.filter_map, List.map_map]
  congr 1
  apply List.filter_congr
  intro j _
  exact h j
theorem seq_fin {a b : WS} {E : Es} {ρ : Nv} {S : Sto} (P : Nv → Sto → Prop) (hb : ∀ ρ S, P ρ S → b E ρ S) (ha : ∀ N : Nv → Sto → Prop, (∀ ρ S, P ρ S → N ρ S) → a ⟨N, E.rt, E.bk, E.ct⟩ ρ S) : sSeq a b E ρ S := ha (b E) hb
theorem set2 {k : Nat} (h : k < 2) : ([[], []] : List (List Nat)).set k [] = [[], []] := by
  match k, h with
  | 0, _ => rfl
  | 1, _ => rfl
theorem keep_one {es : List Ev} (h : Num es) (hd a : Nat) : backE es.length (es ++ [(es.length, hd, a)]) = es := by
  unfold backE
  rw [List.filter_append]
  have h1 : (es.filter fun x => !decide (x.1 = es.length)) = es := List.filter_eq_self.mpr fun x hx => by
    obtain ⟨i, hi⟩ := List.getElem?_of_mem hx
    have := h.at hi
    have := (List.getElem?_eq_some_iff.mp hi).1
    simp
    omega
  rw [h1]
  simp
theorem keep_num_lt {es : List Ev} (h : Num es) (M : List Nat) : ∀ x ∈ keepE es M, x.1 ≠ es.length := fun x hx => by
  have hx := (List.mem_filter.mp hx).1
  obtain ⟨i, hi⟩ := List.getElem?_of_mem hx
  have := h.at hi
  have := (List.getElem?_eq_some_iff.mp hi).1
  omega
theorem lett_app (us vs : List Ev) : lett (us ++ vs) = lett us ++ lett vs := List.map_append
theorem num_app (us vs : List Ev) : num (us ++ vs) = num us ++ num vs := List.map_append
theorem backE_last {us : List Ev} {n hd a : Nat} (h : ∀ x ∈ us, x.1 ≠ n) : backE n (us ++ [(n, hd, a)]) = us := by
  unfold backE
  rw [List.filter_append]
  have h1 : (us.filter fun x => !decide (x.1 = n)) = us := List.filter_eq_self.mpr fun x hx => by simp [h x hx]
  rw [h1]
  simp
end K5

namespace K5
open PySem Tk Tr L2
variable {c : Ca}
local macro_rules | `(tactic| simp_arith only [$xs,*]) => `(tactic| simp only [↓x_V, ↓x_C, ↓x_B, ↓x_U, ↓x_Nil, ↓x_Cons, ↓x_Z, ↓x_Tup, ↓x_Lst, ↓x_Fz, ↓x_Cl, ↓x_BF, ↓x_ZF, ↓x_Tb, ↓x_AndT, ↓x_OrT, ↓x_NotT, ↓x_Yes, ↓x_AndV, ↓x_OrV, ↓x_NotV, ↓x_IfE, ↓x_Chain, ↓x_I, ↓x_Ib, ↓x_AddI, ↓x_AddT, ↓x_Cat, ↓x_Rep, ↓x_Neg, ↓x_Ix, ↓x_No, ↓x_So, ↓x_SlT, ↓x_SlL, ↓x_Rev, ↓x_In, ↓x_NotIn, ↓x_IsN, ↓x_NotN, ↓x_IsB, ↓x_NotB, ↓x_Len, ↓x_Int, ↓x_Max2, ↓x_Max, ↓x_Min, ↓x_Sum, ↓x_All, ↓x_Any, ↓x_List, ↓x_Tuple, ↓x_Sorted, ↓x_M, ↓x_M0, ↓x_Append, ↓x_Pop, ↓x_PopAt, ↓x_Reverse, ↓x_Fld, ↓x_FldNew, ↓x_FldSet, ↓x_FldAug, ↓x_Call, ↓x_Meth, ↓x_Make, ↓x_Frz, ↓x_gN, ↓x_gsNil, ↓x_gsCons, ↓x_gTu, ↓x_gIx, ↓x_Seq, ↓x_SNil, ↓x_Asg, ↓x_Drop, ↓x_Ret, ↓x_RetN, ↓x_If, ↓x_Brk, ↓x_Cnt, ↓x_Aug, ↓x_AugIx, ↓x_Par, ↓x_WIn, ↓x_R1, ↓x_R2, ↓x_R3, ↓x_DNew, ↓x_Disp1, ↓x_DPut, ↓x_SortedD, ↓x_DictP, ↓x_LRg, ↓x_For, ↓x_While, ↓x_Lc, ↓x_Inv, ↓x_Tt, ↓x_En, ↓x_TNew, ↓x_TDisp1, ↓x_TGet, ↓x_TGet2, ↓x_TPut, ↓x_KeysT, ↓x_EqI, ↓x_NeI, ↓x_NeB, ↓e_rt, ↓e_nx, ↓tgP, ↓kR25', ↓kR24', ↓kR23', ↓kR22', ↓kTt', ↓kEn2', ↓kEn', ↓kTD2', ↓kTD1', ↓kTG2', ↓kTG1', ↓kTH3', ↓kTH2', ↓kTH1', ↓kTP3', ↓kTP2', ↓kTP1', ↓kKy', ↓kQ', ↓kB2', ↓kB1', ↓kU', ↓kC2', ↓kC1', ↓kZ', ↓kTup', ↓kLst', ↓kFz', ↓kCl', ↓kBF2', ↓kBF1', ↓kZF', ↓kT', ↓kTb', ↓kAndT', ↓kOrT', ↓kNotT', ↓kAndV2', ↓kAndV', ↓kOrV2', ↓kOrV', ↓kNotV2', ↓kNotV', ↓kIfE', ↓kCh5', ↓kCh4', ↓kCh3', ↓kCh2', ↓kCh1', ↓kI2', ↓kI1', ↓kIb2', ↓kIb1', ↓kCat2', ↓kCat1', ↓kRep2', ↓kRep1', ↓kNeg', ↓kIx2', ↓kIx1', ↓kSo2', ↓kSo', ↓kSl4', ↓kSl3', ↓kSl2', ↓kSl1', ↓kSm4', ↓kSm3', ↓kSm2', ↓kSm1', ↓kRev2', ↓kRev', ↓kIn3', ↓kIn2', ↓kIn1', ↓kNi3', ↓kNi2', ↓kNi1', ↓kIs2', ↓kIs1', ↓kNb2', ↓kNb1', ↓kLen', ↓kMax2', ↓kMax1', ↓kMin2', ↓kMin1', ↓kSum2', ↓kSum1', ↓kAll2', ↓kAll1', ↓kAny2', ↓kAny1', ↓kList', ↓kTuple', ↓kSrt2', ↓kSrt1', ↓kM2', ↓kM1', ↓kM0', ↓kAp2', ↓kAp1', ↓kPop3', ↓kPop2', ↓kPop1', ↓kPa5', ↓kPa4', ↓kPa3', ↓kPa2', ↓kPa1', ↓kRv2', ↓kRv1', ↓kFld2', ↓kFld1', ↓kFn4', ↓kFn3', ↓kFn2', ↓kFn1', ↓kFs4', ↓kFs3', ↓kFs2', ↓kFs1', ↓kFa7', ↓kFa6', ↓kFa5', ↓kFa4', ↓kFa35', ↓kFa3', ↓kFa2', ↓kFa1', ↓kCall', ↓kMt3', ↓kMt2', ↓kMt1', ↓kMk2', ↓kMk1', ↓kFrz3', ↓kFrz2', ↓kFrz1', ↓kGs', ↓kGt', ↓kGi6', ↓kGi5', ↓kGi4', ↓kGi3', ↓kGi2', ↓kGi1', ↓kAsg', ↓kDrop', ↓kIf', ↓kAug3', ↓kAug2', ↓kAug1', ↓kAi10', ↓kAi9', ↓kAi8', ↓kAi7', ↓kAi6', ↓kAi5', ↓kAi4', ↓kAi3', ↓kAi2', ↓kAi1', ↓kPar2', ↓kPar1', ↓kWin2', ↓kWin1', ↓kR12', ↓kR11', ↓kR36', ↓kR35', ↓kR34', ↓kR33', ↓kR32', ↓kR31', ↓kDi3', ↓kDi2', ↓kDi1', ↓kDp6', ↓kDp5', ↓kDp4', ↓kDp3', ↓kDp2', ↓kDp1', ↓kSd2', ↓kSd1', ↓kDc2', ↓kDc1', ↓kLr2', ↓kLr1', ↓kFor', ↓kLc', ↓kF2', z0, z1, z2, z3, z4, z5, z6, z0', bO_some, bI_int, bB_bl, bL_ref, bN_non, bP_t, bY_t, bY_f, q_tup, q_lst, q_rd, q_ref, l_lst, l_ref, i_ins, i_ref, d_dk, d_ref, cl_lst, cl_ins, cl_dk, tr_ref, tr_tup, tr_lst, tr_clst, f_dt, f_lst', f_dk, f_ins, sb, sj, gset0, gset, sset0, sset, g_app0, g_app, flt_t, g_lt, s_lt, gs_self, List.set_set, s_app0, s_app, ixN_nat, at_nat, atI_0, atI_1, atI_2, atI_3, nats_len, ints_nats, mem_cast, nats_app, nats_snoc, nats_rev, nats_set, nats_erase, rng_0, rng_N, lt_cast, le_cast, max_cast, lt0, ge0, eq0, gt0, eq_cast, keyO, tupOf, fzO, List.getElem?_cons_zero, List.getElem?_cons_succ, List.set_cons_zero, List.set_cons_succ, List.length_cons, List.length_nil, List.length_append, List.append_assoc, List.cons_append, List.nil_append, List.append_nil, List.length_set, List.length_map, List.length_range, Nat.reduceAdd, Nat.zero_add, Nat.add_zero, Option.isSome_some, and_self, and_true, true_and, Option.bind_some, decide_true, decide_false, decide_eq_true_eq, wipeD, setAllD, Bool.not_true, Bool.not_false, Tk.isNon, eq_self, if_true, if_pos, start0, List.map_cons, List.map_nil, List.replicate, List.take, Nat.reduceSub, Nat.reduceLeDiff, Nat.reduceLT, Int.toNat_natCast, Int.reduceNeg, Nat.reduceEqDiff, Nat.add_eq, Nat.add_assoc, i_al, dLs_len, i_tb, wsD_len, evD_len, $xs,*])
local macro_rules | `(tactic| simp_arith! only [$xs,*]) => `(tactic| simp only [↓x_V, ↓x_C, ↓x_B, ↓x_U, ↓x_Nil, ↓x_Cons, ↓x_Z, ↓x_Tup, ↓x_Lst, ↓x_Fz, ↓x_Cl, ↓x_BF, ↓x_ZF, ↓x_Tb, ↓x_AndT, ↓x_OrT, ↓x_NotT, ↓x_Yes, ↓x_AndV, ↓x_OrV, ↓x_NotV, ↓x_IfE, ↓x_Chain, ↓x_I, ↓x_Ib, ↓x_AddI, ↓x_AddT, ↓x_Cat, ↓x_Rep, ↓x_Neg, ↓x_Ix, ↓x_No, ↓x_So, ↓x_SlT, ↓x_SlL, ↓x_Rev, ↓x_In, ↓x_NotIn, ↓x_IsN, ↓x_NotN, ↓x_IsB, ↓x_NotB, ↓x_Len, ↓x_Int, ↓x_Max2, ↓x_Max, ↓x_Min, ↓x_Sum, ↓x_All, ↓x_Any, ↓x_List, ↓x_Tuple, ↓x_Sorted, ↓x_M, ↓x_M0, ↓x_Append, ↓x_Pop, ↓x_PopAt, ↓x_Reverse, ↓x_Fld, ↓x_FldNew, ↓x_FldSet, ↓x_FldAug, ↓x_Call, ↓x_Meth, ↓x_Make, ↓x_Frz, ↓x_gN, ↓x_gsNil, ↓x_gsCons, ↓x_gTu, ↓x_gIx, ↓x_SNil, ↓x_Asg, ↓x_Drop, ↓x_Ret, ↓x_RetN, ↓x_If, ↓x_Brk, ↓x_Cnt, ↓x_Aug, ↓x_AugIx, ↓x_Par, ↓x_WIn, ↓x_R1, ↓x_R2, ↓x_R3, ↓x_DNew, ↓x_Disp1, ↓x_DPut, ↓x_SortedD, ↓x_DictP, ↓x_LRg, ↓x_For, ↓x_While, ↓x_Lc, ↓x_Inv, ↓x_Tt, ↓x_En, ↓x_TNew, ↓x_TDisp1, ↓x_TGet, ↓x_TGet2, ↓x_TPut, ↓x_KeysT, ↓x_EqI, ↓x_NeI, ↓x_NeB, ↓e_rt, ↓e_nx, ↓tgP, ↓kR25', ↓kR24', ↓kR23', ↓kR22', ↓kTt', ↓kEn2', ↓kEn', ↓kTD2', ↓kTD1', ↓kTG2', ↓kTG1', ↓kTH3', ↓kTH2', ↓kTH1', ↓kTP3', ↓kTP2', ↓kTP1', ↓kKy', ↓kQ', ↓kB2', ↓kB1', ↓kU', ↓kC2', ↓kC1', ↓kZ', ↓kTup', ↓kLst', ↓kFz', ↓kCl', ↓kBF2', ↓kBF1', ↓kZF', ↓kT', ↓kTb', ↓kAndT', ↓kOrT', ↓kNotT', ↓kAndV2', ↓kAndV', ↓kOrV2', ↓kOrV', ↓kNotV2', ↓kNotV', ↓kIfE', ↓kCh5', ↓kCh4', ↓kCh3', ↓kCh2', ↓kCh1', ↓kI2', ↓kI1', ↓kIb2', ↓kIb1', ↓kCat2', ↓kCat1', ↓kRep2', ↓kRep1', ↓kNeg', ↓kIx2', ↓kIx1', ↓kSo2', ↓kSo', ↓kSl4', ↓kSl3', ↓kSl2', ↓kSl1', ↓kSm4', ↓kSm3', ↓kSm2', ↓kSm1', ↓kRev2', ↓kRev', ↓kIn3', ↓kIn2', ↓kIn1', ↓kNi3', ↓kNi2', ↓kNi1', ↓kIs2', ↓kIs1', ↓kNb2', ↓kNb1', ↓kLen', ↓kMax2', ↓kMax1', ↓kMin2', ↓kMin1', ↓kSum2', ↓kSum1', ↓kAll2', ↓kAll1', ↓kAny2', ↓kAny1', ↓kList', ↓kTuple', ↓kSrt2', ↓kSrt1', ↓kM2', ↓kM1', ↓kM0', ↓kAp2', ↓kAp1', ↓kPop3', ↓kPop2', ↓kPop1', ↓kPa5', ↓kPa4', ↓kPa3', ↓kPa2', ↓kPa1', ↓kRv2', ↓kRv1', ↓kFld2', ↓kFld1', ↓kFn4', ↓kFn3', ↓kFn2', ↓kFn1', ↓kFs4', ↓kFs3', ↓kFs2', ↓kFs1', ↓kFa7', ↓kFa6', ↓kFa5', ↓kFa4', ↓kFa35', ↓kFa3', ↓kFa2', ↓kFa1', ↓kCall', ↓kMt3', ↓kMt2', ↓kMt1', ↓kMk2', ↓kMk1', ↓kFrz3', ↓kFrz2', ↓kFrz1', ↓kGs', ↓kGt', ↓kGi6', ↓kGi5', ↓kGi4', ↓kGi3', ↓kGi2', ↓kGi1', ↓kAsg', ↓kDrop', ↓kIf', ↓kAug3', ↓kAug2', ↓kAug1', ↓kAi10', ↓kAi9', ↓kAi8', ↓kAi7', ↓kAi6', ↓kAi5', ↓kAi4', ↓kAi3', ↓kAi2', ↓kAi1', ↓kPar2', ↓kPar1', ↓kWin2', ↓kWin1', ↓kR12', ↓kR11', ↓kR36', ↓kR35', ↓kR34', ↓kR33', ↓kR32', ↓kR31', ↓kDi3', ↓kDi2', ↓kDi1', ↓kDp6', ↓kDp5', ↓kDp4', ↓kDp3', ↓kDp2', ↓kDp1', ↓kSd2', ↓kSd1', ↓kDc2', ↓kDc1', ↓kLr2', ↓kLr1', ↓kFor', ↓kLc', ↓kF2', z0, z1, z2, z3, z4, z5, z6, z0', bO_some, bI_int, bB_bl, bL_ref, bN_non, bP_t, bY_t, bY_f, q_tup, q_lst, q_rd, q_ref, l_lst, l_ref, i_ins, i_ref, d_dk, d_ref, cl_lst, cl_ins, cl_dk, tr_ref, tr_tup, tr_lst, tr_clst, f_dt, f_lst', f_dk, f_ins, sb, sj, gset0, gset, sset0, sset, g_app0, g_app, flt_t, g_lt, s_lt, gs_self, List.set_set, s_app0, s_app, ixN_nat, at_nat, atI_0, atI_1, atI_2, atI_3, nats_len, ints_nats, mem_cast, nats_app, nats_snoc, nats_rev, nats_set, nats_erase, rng_0, rng_N, lt_cast, le_cast, max_cast, lt0, ge0, eq0, gt0, eq_cast, keyO, tupOf, fzO, List.getElem?_cons_zero, List.getElem?_cons_succ, List.set_cons_zero, List.set_cons_succ, List.length_cons, List.length_nil, List.length_append, List.append_assoc, List.cons_append, List.nil_append, List.append_nil, List.length_set, List.length_map, List.length_range, Nat.reduceAdd, Nat.zero_add, Nat.add_zero, Option.isSome_some, and_self, and_true, true_and, Option.bind_some, decide_true, decide_false, decide_eq_true_eq, wipeD, setAllD, Bool.not_true, Bool.not_false, Tk.isNon, eq_self, if_true, if_pos, start0, List.map_cons, List.map_nil, List.replicate, List.take, Nat.reduceSub, Nat.reduceLeDiff, Nat.reduceLT, Int.toNat_natCast, Int.reduceNeg, Nat.reduceEqDiff, Nat.add_eq, Nat.add_assoc, i_al, dLs_len, i_tb, wsD_len, evD_len, $xs,*])
theorem le_sum : ∀ {l : List Nat} {a : Nat}, a ∈ l → a ≤ l.sum
  | b :: l, a, h => by
    rw [List.sum_cons]
    rcases List.mem_cons.mp h with q | q
    · omega
    · have := le_sum q
      omega
theorem wss_at {A : Al} {ws : List (List Nat)} (h : Wss A ws) {u : List Nat} (hu : u ∈ ws) : Ws A u := ⟨h.o, by
  have : u.length ≤ (ws.map List.length).sum := le_sum (List.mem_map.mpr ⟨u, hu, rfl⟩)
  have := h.z
  omega, h.w u hu⟩
theorem gd_one {A : Al} {w : List Nat} (hw : Wo A w) : Gd A [w] w := ⟨hw, fun u hu => by rw [List.mem_singleton.mp hu]; exact .refl A w, fun y _ h => h w (by simp)⟩
theorem gd_step {A : Al} (o : Ok A) {ws : List (List Nat)} {G v x r s : List Nat} (h : Gd A ws G) (g : Gcd A (lf A G) v x r s) : Gd A (ws ++ [v]) x := by
  have he := lf_e o h.w
  obtain ⟨g1, g2⟩ := gcd_le g
  have hx : Wo A x := (Wo.app.mp g.le.r).1
  refine ⟨hx, fun u hu => ?_, fun y hy hk => ?_⟩
  · rcases List.mem_append.mp hu with q | q
    · exact (g1.r he.symm).trans (h.dn u q)
    · rw [List.mem_singleton.mp q]
      exact g2
  · exact gcd_great o g hy ((h.gr y hy fun u hu => hk u (by simp [hu])).r he) (hk v (by simp))
theorem gd_len {A : Al} (o : Ok A) {u v x r s : List Nat} (g : Gcd A u v x r s) : x.length ≤ u.length := by
  have := g.le.length o
  rw [List.length_append] at this
  omega
theorem cut_tail (w : List Nat) (ws : List (List Nat)) : cutD (wsD (w :: ws)) (some 1) none = wsD ws := by
  unfold cutD HT.sIx
  have h1 : ¬ ((1 : Int) < 0) := by omega
  simp only [h1, if_false, wsD_len, List.length_cons]
  rw [List.take_of_length_le (by simp [wsD_len])]
  simp [wsD]
theorem b_common_all (ds : List D) (S : Sto) (Q : QE) (h : P_common_all c ds S Q) : w_common_all c (esDef flCut S Q) (start0 4 ds) S := by
  obtain ⟨A, ws, rfl, hw, hn, hq⟩ := h
  have o := hw.o
  obtain ⟨w, ws, rfl⟩ := List.exists_cons_of_ne_nil hn
  unfold w_common_all
  have hw0 := wss_at hw (u := w) (by simp)
  have e0 : (wsD (w :: ws))[0]? = some (.tup (nats w)) := rfl
  simp_arith only [e0]
  refine ⟨A, _, w, rfl, rfl, hw0, ?_⟩
  simp_arith only [cut_tail]
  refine ForP.over ws (fun w => D.tup (nats w)) (fun ys ρ S' => S' = S ∧ ∃ (G : List Nat) (x : Option D), Gd A (w :: ys) G ∧ G.length ≤ w.length ∧ ρ = [some (dAl c A), some (.lst (wsD (w :: ws))), some (.tup (nats (lf A G))), x]) ⟨rfl, w, _, gd_one hw0.w, Nat.le_refl _, rfl⟩ (fun ys ρ S' h => trivial) ?_ ?_
  · rintro ys v zs ρ S' hx ⟨rfl, G, x, hG, hl, rfl⟩
    have hv := wss_at hw (u := v) (by rw [hx]; simp)
    have hwz := hw0.z
    have he := lf_e o hG.w
    have hWG : Ws A (lf A G) := ⟨o, by rw [lf_len o hG.w]; omega, he.r⟩
    obtain ⟨x, r, s, g⟩ := gcd_ex o _ rfl hWG.w hv.w
    simp_arith only []
    refine ⟨A, lf A G, v, x, r, s, rfl, hWG, hv, g, ?_⟩
    simp_arith only []
    refine ⟨x, _, gd_step o hG g, ?_, rfl⟩
    have := gd_len o g
    rw [lf_len o hG.w] at this
    omega
  · rintro ρ S' ⟨rfl, G, x, hG, hl, rfl⟩
    simp_arith only []
    have := hw0.z
    exact cut_rfl (ok_tup _ _) (hq G hG (by omega))
theorem jn_nil (A : Al) : Jn A [] [] := ⟨fun a h => (by cases h), fun u h => (by cases h), fun y _ _ p => List.nil_prefix⟩
theorem jn_step {A : Al} (o : Ok A) {ws : List (List Nat)} {z v y : List Nat} (h : Jn A ws z) (g : Jn A [lf A z, v] y) : Jn A (ws ++ [v]) y := by
  have he := lf_e o h.w
  refine ⟨g.w, fun u hu => ?_, fun x hx hk => g.le x hx fun u hu => ?_⟩
  · rcases List.mem_append.mp hu with q | q
    · exact (h.up u q).trans ((g.up (lf A z) (by simp)).l he.symm)
    · rw [List.mem_singleton.mp q]
      exact g.up v (by simp)
  · simp only [List.mem_cons, List.not_mem_nil, or_false] at hu
    rcases hu with q | q
    · subst q
      exact (h.le x hx fun u hu => hk u (by simp [hu])).l he
    · subst q
      exact hk u (by simp)
theorem Cmp.eqv {A : Al} {u u' v : List Nat} (h : Cmp A u v) (e : Eqv A u u') : Cmp A u' v := fun p => by rw [← e.p]; exact h p
theorem enm_ws (ws : List (List Nat)) : enm (wsD ws) = (List.range ws.length).map fun i => D.tup [.int (i : Nat), .tup (nats (ws.getD i []))] := by
  apply List.ext_getElem?
  intro i
  by_cases h : i < ws.length
  · have h1 : ws[i]? = some (ws.getD i []) := by rw [List.getD_eq_getElem?_getD, List.getElem?_eq_getElem h]; rfl
    rw [enm_get (wsD_get h1), List.getElem?_map, List.getElem?_range h]
    rfl
  · rw [List.getElem?_eq_none (by rw [enm_len, wsD_len]; omega), List.getElem?_eq_none (by simp; omega)]
theorem b_joined_all (ds : List D) (S : Sto) (Q : QE) (h : P_joined_all c ds S Q) : w_joined_all c (esDef flCut S Q) (start0 7 ds) S := by
  obtain ⟨A, ws, rfl, hw, hq, hq2⟩ := h
  have o := hw.o
  have hn := hw.n
  unfold w_joined_all
  simp_arith only [enm_ws]
  have gt : ∀ i, i < ws.length → ws[i]? = some (ws.getD i []) := fun i h => by rw [List.getD_eq_getElem?_getD, List.getElem?_eq_getElem h]; rfl
  have gm : ∀ i, i < ws.length → ws.getD i [] ∈ ws := fun i h => List.mem_of_getElem? (gt i h)
  have sum2 : ∀ i j, i < j → j < ws.length → (ws.getD i []).length + (ws.getD j []).length ≤ 1000 := fun i j hij hj => by
    have e1 : ws = ws.take j ++ (ws.getD j [] :: ws.drop (j + 1)) := by
      have : ws.getD j [] = ws[j] := by rw [List.getD_eq_getElem?_getD, List.getElem?_eq_getElem hj]; rfl
      rw [this, List.getElem_cons_drop, List.take_append_drop]
    have e2 : ws.getD i [] ∈ ws.take j := by
      rw [List.mem_take_iff_getElem]
      refine ⟨i, by omega, ?_⟩
      rw [List.getD_eq_getElem?_getD, List.getElem?_eq_getElem (by omega)]
      rfl
    have e3 : (ws.getD i []).length ≤ ((ws.take j).map List.length).sum := le_sum (List.mem_map.mpr ⟨_, e2, rfl⟩)
    have e4 := hw.z
    have e5 : (ws.map List.length).sum = ((ws.take j).map List.length).sum + ((ws.getD j []).length + ((ws.drop (j + 1)).map List.length).sum) := by
      conv => lhs; rw [e1]
      simp only [List.map_append, List.map_cons, List.sum_append, List.sum_cons]
    omega
  refine ForP.rangeH ws.length _ (fun i ρ S' => S' = S ∧ (∀ a b, a < i → a < b → b < ws.length → Cmp A (ws.getD a []) (ws.getD b [])) ∧ ∃ x y z, ρ = [some (dAl c A), some (.lst (wsD ws)), x, y, z, none, none]) ⟨rfl, fun a b h => by omega, _, _, _, rfl⟩ (fun ys ρ S' h => trivial) ?_ ?_
  · rintro i ρ S' hi ⟨rfl, hI, x, y, z, rfl⟩
    have hwi := wss_at hw (gm i hi)
    have e1 : (-(2 ^ 62) ≤ ((i : Int) + 1) ∧ ((i : Int) + 1) < 2 ^ 62 ∧ -(2 ^ 62) ≤ (ws.length : Int) ∧ (ws.length : Int) < 2 ^ 62) = True := eq_true (by omega)
    have e2 : rng ((i : Int) + 1) ((ws.length : Int) - ((i : Int) + 1)).toNat = (List.range (ws.length - (i + 1))).map fun j => D.int (((i + (1 + j) : Nat)) : Int) := by
      unfold rng
      have : ((ws.length : Int) - ((i : Int) + 1)).toNat = ws.length - (i + 1) := by omega
      rw [this]
      refine List.map_congr_left fun j _ => ?_
      congr 1
      omega
    simp_arith only [e1, e2]
    refine ForP.rangeH (ws.length - (i + 1)) _ (fun j ρ S'' => S'' = S' ∧ (∀ b, i < b → b < i + (1 + j) → Cmp A (ws.getD i []) (ws.getD b [])) ∧ ∃ z, ρ = [some (dAl c A), some (.lst (wsD ws)), some (.int (i : Nat)), some (.tup (nats (ws.getD i []))), z, none, none]) ⟨rfl, fun b h h2 => by omega, _, rfl⟩ (fun ys ρ S' h => trivial) ?_ ?_
    · rintro j ρ S'' hj ⟨rfl, hJ, z, rfl⟩
      have hjl : i + (1 + j) < ws.length := by omega
      simp_arith only [wsD_get (gt _ hjl)]
      refine ⟨A, ws.getD i [], ws.getD (i + (1 + j)) [], rfl, hwi, wss_at hw (gm _ hjl), sum2 _ _ (by omega) hjl, fun hc => ?_, fun hc z hz hl hzc => ?_⟩
      · simp_arith only []
        exact cut_rfl (.tup (.cons (.str _) (.cons (.int _) (.cons (.int _) .nil)))) (hq2 i (i + (1 + j)) _ _ (by omega) (gt i hi) (gt _ hjl) hc)
      · simp_arith only []
        refine ⟨fun b h1 h2 => ?_, _, rfl⟩
        by_cases q : b = i + (1 + j)
        · rw [q]
          exact hc
        · exact hJ b h1 (by omega)
    · rintro ρ S'' ⟨rfl, hJ, z, rfl⟩
      refine ⟨rfl, fun a b h1 h2 h3 => ?_, _, _, _, rfl⟩
      by_cases q : a = i
      · rw [q]
        exact hJ b (by omega) (by omega)
      · exact hI a b (by omega) h2 h3
  · rintro ρ S' ⟨rfl, hI, x, y, z, rfl⟩
    simp_arith only []
    refine ForP.over ws (fun w => D.tup (nats w)) (fun ys ρ S'' => S'' = S' ∧ ∃ (J : List Nat) (u : Option D), Jn A ys J ∧ J.length ≤ (ys.map List.length).sum ∧ (∀ v, (∀ w ∈ ys, Cmp A w v) → Cmp A J v) ∧ ρ = [some (dAl c A), some (.lst (wsD ws)), x, y, z, some (.tup (nats (lf A J))), u]) ⟨rfl, [], none, jn_nil A, Nat.le_refl _, fun v _ p => .inl List.nil_prefix, rfl⟩ (fun ys ρ S' h => trivial) ?_ ?_
    · rintro ys v zs ρ S'' hx ⟨rfl, J, u, hJ, hl, hJc, rfl⟩
      have hv := wss_at hw (u := v) (by rw [hx]; simp)
      have hs := hw.z
      rw [hx, List.map_append, List.sum_append, List.map_cons, List.sum_cons] at hs
      have he := lf_e o hJ.w
      have hWJ : Ws A (lf A J) := ⟨o, by rw [lf_len o hJ.w]; omega, he.r⟩
      have hcv : Cmp A J v := hJc v fun w hwm => by
        obtain ⟨a, ha, e⟩ := List.getElem_of_mem hwm
        have h1 := hI a ys.length (by rw [hx]; simp; omega) ha (by rw [hx]; simp)
        have e3 : ws.getD a [] = w := by
          rw [hx, List.getD_eq_getElem?_getD, List.getElem?_append_left ha, List.getElem?_eq_getElem ha, e]
          rfl
        have e4 : ws.getD ys.length [] = v := by
          rw [hx, List.getD_eq_getElem?_getD, List.getElem?_append_right (Nat.le_refl _)]
          simp
        rwa [e3, e4] at h1
      simp_arith only []
      refine ⟨A, lf A J, v, rfl, hWJ, hv, by rw [lf_len o hJ.w]; omega, fun hc => absurd (Cmp.eqv hcv he) hc, fun hc z' hz hzl hzc => ?_⟩
      simp_arith only []
      refine ⟨z', _, jn_step o hJ hz, ?_, fun x hx => ?_, rfl⟩
      · rw [lf_len o hJ.w] at hzl
        simp only [List.map_append, List.sum_append, List.map_cons, List.map_nil, List.sum_cons, List.sum_nil]
        omega
      · exact hzc x (Cmp.eqv (hJc x fun w hw => hx w (by simp [hw])) he) (hx v (by simp))
    · rintro ρ S'' ⟨rfl, J, u, hJ, hl, hJc, rfl⟩
      simp_arith only []
      have := hw.z
      exact cut_rfl (.tup (.cons (.str _) (.cons (ok_tup _ _) .nil))) (hq J hJ (by omega))
end K5

namespace K5
open PySem Tk Tr L2
variable {c : Ca}
local macro_rules | `(tactic| simp_arith only [$xs,*]) => `(tactic| simp only [↓x_V, ↓x_C, ↓x_B, ↓x_U, ↓x_Nil, ↓x_Cons, ↓x_Z, ↓x_Tup, ↓x_Lst, ↓x_Fz, ↓x_Cl, ↓x_BF, ↓x_ZF, ↓x_Tb, ↓x_AndT, ↓x_OrT, ↓x_NotT, ↓x_Yes, ↓x_AndV, ↓x_OrV, ↓x_NotV, ↓x_IfE, ↓x_Chain, ↓x_I, ↓x_Ib, ↓x_AddI, ↓x_AddT, ↓x_Cat, ↓x_Rep, ↓x_Neg, ↓x_Ix, ↓x_No, ↓x_So, ↓x_SlT, ↓x_SlL, ↓x_Rev, ↓x_In, ↓x_NotIn, ↓x_IsN, ↓x_NotN, ↓x_IsB, ↓x_NotB, ↓x_Len, ↓x_Int, ↓x_Max2, ↓x_Max, ↓x_Min, ↓x_Sum, ↓x_All, ↓x_Any, ↓x_List, ↓x_Tuple, ↓x_Sorted, ↓x_M, ↓x_M0, ↓x_Append, ↓x_Pop, ↓x_PopAt, ↓x_Reverse, ↓x_Fld, ↓x_FldNew, ↓x_FldSet, ↓x_FldAug, ↓x_Call, ↓x_Meth, ↓x_Make, ↓x_Frz, ↓x_gN, ↓x_gsNil, ↓x_gsCons, ↓x_gTu, ↓x_gIx, ↓x_Seq, ↓x_SNil, ↓x_Asg, ↓x_Drop, ↓x_Ret, ↓x_RetN, ↓x_If, ↓x_Brk, ↓x_Cnt, ↓x_Aug, ↓x_AugIx, ↓x_Par, ↓x_WIn, ↓x_R1, ↓x_R2, ↓x_R3, ↓x_DNew, ↓x_Disp1, ↓x_DPut, ↓x_SortedD, ↓x_DictP, ↓x_LRg, ↓x_For, ↓x_While, ↓x_Lc, ↓x_Inv, ↓x_Tt, ↓x_En, ↓x_TNew, ↓x_TDisp1, ↓x_TGet, ↓x_TGet2, ↓x_TPut, ↓x_KeysT, ↓x_EqI, ↓x_NeI, ↓x_NeB, ↓e_rt, ↓e_nx, ↓tgP, ↓kR25', ↓kR24', ↓kR23', ↓kR22', ↓kTt', ↓kEn2', ↓kEn', ↓kTD2', ↓kTD1', ↓kTG2', ↓kTG1', ↓kTH3', ↓kTH2', ↓kTH1', ↓kTP3', ↓kTP2', ↓kTP1', ↓kKy', ↓kQ', ↓kB2', ↓kB1', ↓kU', ↓kC2', ↓kC1', ↓kZ', ↓kTup', ↓kLst', ↓kFz', ↓kCl', ↓kBF2', ↓kBF1', ↓kZF', ↓kT', ↓kTb', ↓kAndT', ↓kOrT', ↓kNotT', ↓kAndV2', ↓kAndV', ↓kOrV2', ↓kOrV', ↓kNotV2', ↓kNotV', ↓kIfE', ↓kCh5', ↓kCh4', ↓kCh3', ↓kCh2', ↓kCh1', ↓kI2', ↓kI1', ↓kIb2', ↓kIb1', ↓kCat2', ↓kCat1', ↓kRep2', ↓kRep1', ↓kNeg', ↓kIx2', ↓kIx1', ↓kSo2', ↓kSo', ↓kSl4', ↓kSl3', ↓kSl2', ↓kSl1', ↓kSm4', ↓kSm3', ↓kSm2', ↓kSm1', ↓kRev2', ↓kRev', ↓kIn3', ↓kIn2', ↓kIn1', ↓kNi3', ↓kNi2', ↓kNi1', ↓kIs2', ↓kIs1', ↓kNb2', ↓kNb1', ↓kLen', ↓kMax2', ↓kMax1', ↓kMin2', ↓kMin1', ↓kSum2', ↓kSum1', ↓kAll2', ↓kAll1', ↓kAny2', ↓kAny1', ↓kList', ↓kTuple', ↓kSrt2', ↓kSrt1', ↓kM2', ↓kM1', ↓kM0', ↓kAp2', ↓kAp1', ↓kPop3', ↓kPop2', ↓kPop1', ↓kPa5', ↓kPa4', ↓kPa3', ↓kPa2', ↓kPa1', ↓kRv2', ↓kRv1', ↓kFld2', ↓kFld1', ↓kFn4', ↓kFn3', ↓kFn2', ↓kFn1', ↓kFs4', ↓kFs3', ↓kFs2', ↓kFs1', ↓kFa7', ↓kFa6', ↓kFa5', ↓kFa4', ↓kFa35', ↓kFa3', ↓kFa2', ↓kFa1', ↓kCall', ↓kMt3', ↓kMt2', ↓kMt1', ↓kMk2', ↓kMk1', ↓kFrz3', ↓kFrz2', ↓kFrz1', ↓kGs', ↓kGt', ↓kGi6', ↓kGi5', ↓kGi4', ↓kGi3', ↓kGi2', ↓kGi1', ↓kAsg', ↓kDrop', ↓kIf', ↓kAug3', ↓kAug2', ↓kAug1', ↓kAi10', ↓kAi9', ↓kAi8', ↓kAi7', ↓kAi6', ↓kAi5', ↓kAi4', ↓kAi3', ↓kAi2', ↓kAi1', ↓kPar2', ↓kPar1', ↓kWin2', ↓kWin1', ↓kR12', ↓kR11', ↓kR36', ↓kR35', ↓kR34', ↓kR33', ↓kR32', ↓kR31', ↓kDi3', ↓kDi2', ↓kDi1', ↓kDp6', ↓kDp5', ↓kDp4', ↓kDp3', ↓kDp2', ↓kDp1', ↓kSd2', ↓kSd1', ↓kDc2', ↓kDc1', ↓kLr2', ↓kLr1', ↓kFor', ↓kLc', ↓kF2', z0, z1, z2, z3, z4, z5, z6, z0', bO_some, bI_int, bB_bl, bL_ref, bN_non, bP_t, bY_t, bY_f, q_tup, q_lst, q_rd, q_ref, l_lst, l_ref, i_ins, i_ref, d_dk, d_ref, cl_lst, cl_ins, cl_dk, tr_ref, tr_tup, tr_lst, tr_clst, f_dt, f_lst', f_dk, f_ins, sb, sj, gset0, gset, sset0, sset, g_app0, g_app, flt_t, g_lt, s_lt, gs_self, List.set_set, s_app0, s_app, ixN_nat, at_nat, atI_0, atI_1, atI_2, atI_3, nats_len, ints_nats, mem_cast, nats_app, nats_snoc, nats_rev, nats_set, nats_erase, rng_0, rng_N, lt_cast, le_cast, max_cast, lt0, ge0, eq0, gt0, eq_cast, keyO, tupOf, fzO, List.getElem?_cons_zero, List.getElem?_cons_succ, List.set_cons_zero, List.set_cons_succ, List.length_cons, List.length_nil, List.length_append, List.append_assoc, List.cons_append, List.nil_append, List.append_nil, List.length_set, List.length_map, List.length_range, Nat.reduceAdd, Nat.zero_add, Nat.add_zero, Option.isSome_some, and_self, and_true, true_and, Option.bind_some, decide_true, decide_false, decide_eq_true_eq, wipeD, setAllD, Bool.not_true, Bool.not_false, Tk.isNon, eq_self, if_true, if_pos, start0, List.map_cons, List.map_nil, List.replicate, List.take, Nat.reduceSub, Nat.reduceLeDiff, Nat.reduceLT, Int.toNat_natCast, Int.reduceNeg, Nat.reduceEqDiff, Nat.add_eq, Nat.add_assoc, i_al, dLs_len, i_tb, wsD_len, evD_len, $xs,*])
local macro_rules | `(tactic| simp_arith! only [$xs,*]) => `(tactic| simp only [↓x_V, ↓x_C, ↓x_B, ↓x_U, ↓x_Nil, ↓x_Cons, ↓x_Z, ↓x_Tup, ↓x_Lst, ↓x_Fz, ↓x_Cl, ↓x_BF, ↓x_ZF, ↓x_Tb, ↓x_AndT, ↓x_OrT, ↓x_NotT, ↓x_Yes, ↓x_AndV, ↓x_OrV, ↓x_NotV, ↓x_IfE, ↓x_Chain, ↓x_I, ↓x_Ib, ↓x_AddI, ↓x_AddT, ↓x_Cat, ↓x_Rep, ↓x_Neg, ↓x_Ix, ↓x_No, ↓x_So, ↓x_SlT, ↓x_SlL, ↓x_Rev, ↓x_In, ↓x_NotIn, ↓x_IsN, ↓x_NotN, ↓x_IsB, ↓x_NotB, ↓x_Len, ↓x_Int, ↓x_Max2, ↓x_Max, ↓x_Min, ↓x_Sum, ↓x_All, ↓x_Any, ↓x_List, ↓x_Tuple, ↓x_Sorted, ↓x_M, ↓x_M0, ↓x_Append, ↓x_Pop, ↓x_PopAt, ↓x_Reverse, ↓x_Fld, ↓x_FldNew, ↓x_FldSet, ↓x_FldAug, ↓x_Call, ↓x_Meth, ↓x_Make, ↓x_Frz, ↓x_gN, ↓x_gsNil, ↓x_gsCons, ↓x_gTu, ↓x_gIx, ↓x_SNil, ↓x_Asg, ↓x_Drop, ↓x_Ret, ↓x_RetN, ↓x_If, ↓x_Brk, ↓x_Cnt, ↓x_Aug, ↓x_AugIx, ↓x_Par, ↓x_WIn, ↓x_R1, ↓x_R2, ↓x_R3, ↓x_DNew, ↓x_Disp1, ↓x_DPut, ↓x_SortedD, ↓x_DictP, ↓x_LRg, ↓x_For, ↓x_While, ↓x_Lc, ↓x_Inv, ↓x_Tt, ↓x_En, ↓x_TNew, ↓x_TDisp1, ↓x_TGet, ↓x_TGet2, ↓x_TPut, ↓x_KeysT, ↓x_EqI, ↓x_NeI, ↓x_NeB, ↓e_rt, ↓e_nx, ↓tgP, ↓kR25', ↓kR24', ↓kR23', ↓kR22', ↓kTt', ↓kEn2', ↓kEn', ↓kTD2', ↓kTD1', ↓kTG2', ↓kTG1', ↓kTH3', ↓kTH2', ↓kTH1', ↓kTP3', ↓kTP2', ↓kTP1', ↓kKy', ↓kQ', ↓kB2', ↓kB1', ↓kU', ↓kC2', ↓kC1', ↓kZ', ↓kTup', ↓kLst', ↓kFz', ↓kCl', ↓kBF2', ↓kBF1', ↓kZF', ↓kT', ↓kTb', ↓kAndT', ↓kOrT', ↓kNotT', ↓kAndV2', ↓kAndV', ↓kOrV2', ↓kOrV', ↓kNotV2', ↓kNotV', ↓kIfE', ↓kCh5', ↓kCh4', ↓kCh3', ↓kCh2', ↓kCh1', ↓kI2', ↓kI1', ↓kIb2', ↓kIb1', ↓kCat2', ↓kCat1', ↓kRep2', ↓kRep1', ↓kNeg', ↓kIx2', ↓kIx1', ↓kSo2', ↓kSo', ↓kSl4', ↓kSl3', ↓kSl2', ↓kSl1', ↓kSm4', ↓kSm3', ↓kSm2', ↓kSm1', ↓kRev2', ↓kRev', ↓kIn3', ↓kIn2', ↓kIn1', ↓kNi3', ↓kNi2', ↓kNi1', ↓kIs2', ↓kIs1', ↓kNb2', ↓kNb1', ↓kLen', ↓kMax2', ↓kMax1', ↓kMin2', ↓kMin1', ↓kSum2', ↓kSum1', ↓kAll2', ↓kAll1', ↓kAny2', ↓kAny1', ↓kList', ↓kTuple', ↓kSrt2', ↓kSrt1', ↓kM2', ↓kM1', ↓kM0', ↓kAp2', ↓kAp1', ↓kPop3', ↓kPop2', ↓kPop1', ↓kPa5', ↓kPa4', ↓kPa3', ↓kPa2', ↓kPa1', ↓kRv2', ↓kRv1', ↓kFld2', ↓kFld1', ↓kFn4', ↓kFn3', ↓kFn2', ↓kFn1', ↓kFs4', ↓kFs3', ↓kFs2', ↓kFs1', ↓kFa7', ↓kFa6', ↓kFa5', ↓kFa4', ↓kFa35', ↓kFa3', ↓kFa2', ↓kFa1', ↓kCall', ↓kMt3', ↓kMt2', ↓kMt1', ↓kMk2', ↓kMk1', ↓kFrz3', ↓kFrz2', ↓kFrz1', ↓kGs', ↓kGt', ↓kGi6', ↓kGi5', ↓kGi4', ↓kGi3', ↓kGi2', ↓kGi1', ↓kAsg', ↓kDrop', ↓kIf', ↓kAug3', ↓kAug2', ↓kAug1', ↓kAi10', ↓kAi9', ↓kAi8', ↓kAi7', ↓kAi6', ↓kAi5', ↓kAi4', ↓kAi3', ↓kAi2', ↓kAi1', ↓kPar2', ↓kPar1', ↓kWin2', ↓kWin1', ↓kR12', ↓kR11', ↓kR36', ↓kR35', ↓kR34', ↓kR33', ↓kR32', ↓kR31', ↓kDi3', ↓kDi2', ↓kDi1', ↓kDp6', ↓kDp5', ↓kDp4', ↓kDp3', ↓kDp2', ↓kDp1', ↓kSd2', ↓kSd1', ↓kDc2', ↓kDc1', ↓kLr2', ↓kLr1', ↓kFor', ↓kLc', ↓kF2', z0, z1, z2, z3, z4, z5, z6, z0', bO_some, bI_int, bB_bl, bL_ref, bN_non, bP_t, bY_t, bY_f, q_tup, q_lst, q_rd, q_ref, l_lst, l_ref, i_ins, i_ref, d_dk, d_ref, cl_lst, cl_ins, cl_dk, tr_ref, tr_tup, tr_lst, tr_clst, f_dt, f_lst', f_dk, f_ins, sb, sj, gset0, gset, sset0, sset, g_app0, g_app, flt_t, g_lt, s_lt, gs_self, List.set_set, s_app0, s_app, ixN_nat, at_nat, atI_0, atI_1, atI_2, atI_3, nats_len, ints_nats, mem_cast, nats_app, nats_snoc, nats_rev, nats_set, nats_erase, rng_0, rng_N, lt_cast, le_cast, max_cast, lt0, ge0, eq0, gt0, eq_cast, keyO, tupOf, fzO, List.getElem?_cons_zero, List.getElem?_cons_succ, List.set_cons_zero, List.set_cons_succ, List.length_cons, List.length_nil, List.length_append, List.append_assoc, List.cons_append, List.nil_append, List.append_nil, List.length_set, List.length_map, List.length_range, Nat.reduceAdd, Nat.zero_add, Nat.add_zero, Option.isSome_some, and_self, and_true, true_and, Option.bind_some, decide_true, decide_false, decide_eq_true_eq, wipeD, setAllD, Bool.not_true, Bool.not_false, Tk.isNon, eq_self, if_true, if_pos, start0, List.map_cons, List.map_nil, List.replicate, List.take, Nat.reduceSub, Nat.reduceLeDiff, Nat.reduceLT, Int.toNat_natCast, Int.reduceNeg, Nat.reduceEqDiff, Nat.add_eq, Nat.add_assoc, i_al, dLs_len, i_tb, wsD_len, evD_len, $xs,*])
def kN (l : List Nat) : List Key := l.map fun n : Nat => .inl (n : Int)
theorem keyT_kN (l : List Nat) : keyT (kN l) = .tup (nats l) := by
  unfold keyT kN nats
  rw [List.map_map]
  rfl
/-- vectors of counts with values at least one -/
structure GK (A : Al) (kvs : List (List Key × D)) : Prop where
  k : ∀ kv ∈ kvs, ∃ l : List Nat, kv.1 = kN l ∧ l.length = A.n
  v : ∀ kv ∈ kvs, ∃ i : Int, 1 ≤ i ∧ kv.2 = .int i
theorem putK'_mem {κ α : Type} [DecidableEq κ] {k : κ} {v : α} : ∀ {kvs : List (κ × α)} {kv : κ × α}, kv ∈ putK' k v kvs → (kv.1 = k ∧ kv.2 = v) ∨ kv ∈ kvs
  | [], kv, h => by
    rw [putK', List.mem_singleton] at h
    subst h
    exact .inl ⟨rfl, rfl⟩
  | (j, u) :: r, kv, h => by
    unfold putK' at h
    split at h
    · rename_i q
      rcases List.mem_cons.mp h with h | h
      · subst h
        exact .inl ⟨q, rfl⟩
      · obtain ⟨x, hx, e⟩ := List.mem_map.mp h
        split at e
        · rename_i q2
          subst e
          exact .inl ⟨q2, rfl⟩
        · subst e
          exact .inr (List.mem_cons_of_mem _ hx)
    · rcases List.mem_cons.mp h with h | h
      · subst h
        exact .inr (by simp)
      · rcases putK'_mem h with q | q
        · exact .inl q
        · exact .inr (List.mem_cons_of_mem _ q)
theorem putK'_has {κ α : Type} [DecidableEq κ] (k : κ) (v : α) : ∀ kvs : List (κ × α), k ∈ (putK' k v kvs).map (·.1)
  | [] => by simp [putK']
  | (j, u) :: r => by
    unfold putK'
    split
    · rename_i q
      simp [q]
    · rw [List.map_cons]
      exact List.mem_cons_of_mem _ (putK'_has k v r)
theorem putK'_old {κ α : Type} [DecidableEq κ] {k x : κ} {v : α} : ∀ {kvs : List (κ × α)}, x ∈ kvs.map (·.1) → x ∈ (putK' k v kvs).map (·.1)
  | (j, u) :: r, h => by
    rw [List.map_cons] at h
    unfold putK'
    split
    · rw [List.map_cons, List.map_map]
      rcases List.mem_cons.mp h with q | q
      · rw [q]
        simp
      · refine List.mem_cons_of_mem _ ?_
        obtain ⟨y, hy, rfl⟩ := List.mem_map.mp q
        refine List.mem_map.mpr ⟨y, hy, ?_⟩
        show (if y.1 = k then (y.1, v) else y).1 = y.1
        split <;> rfl
    · rw [List.map_cons]
      rcases List.mem_cons.mp h with q | q
      · rw [q]
        simp
      · exact List.mem_cons_of_mem _ (putK'_old q)
theorem getK_mem {κ α : Type} [DecidableEq κ] {k : κ} : ∀ {kvs : List (κ × α)}, k ∈ kvs.map (·.1) → ∃ kv ∈ kvs, getK kvs k = some kv.2
  | kvs, h => by
    unfold getK
    cases e : kvs.find? fun kv => decide (kv.1 = k) with
    | none =>
      obtain ⟨y, hy, q⟩ := List.mem_map.mp h
      have := List.find?_eq_none.mp e y hy
      simp [q] at this
    | some kv => exact ⟨kv, List.mem_of_find?_eq_some e, rfl⟩
theorem getK_any {κ α : Type} [DecidableEq κ] {k : κ} {kvs : List (κ × α)} {d : α} (h : getK kvs k = some d) : ∃ kv ∈ kvs, kv.2 = d := by
  unfold getK at h
  cases e : kvs.find? fun kv => decide (kv.1 = k) with
  | none => rw [e] at h; cases h
  | some kv =>
    rw [e] at h
    cases h
    exact ⟨kv, List.mem_of_find?_eq_some e, rfl⟩
theorem GK.put {A : Al} {kvs : List (List Key × D)} (h : GK A kvs) {l : List Nat} (hl : l.length = A.n) {i : Int} (hi : 1 ≤ i) : GK A (putK' (kN l) (.int i) kvs) :=
  ⟨fun kv hk => by
    rcases putK'_mem hk with q | q
    · exact ⟨l, q.1, hl⟩
    · exact h.k kv q, fun kv hk => by
    rcases putK'_mem hk with q | q
    · exact ⟨i, hi, q.2⟩
    · exact h.v kv q⟩
theorem kN_inj : ∀ {a b : List Nat}, kN a = kN b → a = b
  | [], [], _ => rfl
  | [], _ :: _, h => by cases h
  | _ :: _, [], h => by cases h
  | x :: a, y :: b, h => by
    obtain ⟨h1, h2⟩ := List.cons.inj h
    have h3 : (x : Int) = y := by cases h1; rfl
    have h4 : x = y := by omega
    rw [h4, kN_inj h2]
def pv (A : Al) (w : List Nat) (t : Nat) : List Nat := dFn A fun a => (w.take t).count a
theorem pv_len (A : Al) (w : List Nat) (t : Nat) : (pv A w t).length = A.n := dFn_len _ _
theorem pv_at {A : Al} {w : List Nat} {t a : Nat} (h : a < A.n) : at0 (pv A w t) a = (w.take t).count a := dFn_at _ h
theorem pv_succ {A : Al} {w : List Nat} (hw : Wo A w) {t : Nat} (ht : t < w.length) : (pv A w t).set (at0 w t) (at0 (pv A w t) (at0 w t) + 1) = pv A w (t + 1) := by
  have hl := at0_lt hw ht
  refine list_at0 (by rw [List.length_set, pv_len, pv_len]) fun a ha => ?_
  rw [List.length_set, pv_len] at ha
  rw [at0_set (by rw [pv_len]; exact hl), pv_at hl, pv_at ha, pv_at ha, take_succ_at ht, List.count_append, List.count_singleton]
  by_cases q : at0 w t = a
  · rw [if_pos q, q]
    simp
  · rw [if_neg q]
    rw [beq_false_of_ne q]
    rfl
/-- the events of a letter -/
def evp (w : List Nat) (a : Nat) : List Nat := (List.range w.length).filter fun k => decide (at0 w k = a)
theorem evp_count (w : List Nat) (a : Nat) : ∀ t, t ≤ w.length → ((List.range t).filter fun k => decide (at0 w k = a)).length = (w.take t).count a
  | 0, _ => by simp
  | t + 1, h => by
    rw [List.range_succ, List.filter_append, List.length_append, evp_count w a t (by omega), take_succ_at (by omega), List.count_append, List.count_singleton]
    have : [t].filter (fun k => decide (at0 w k = a)) = if at0 w t = a then [t] else [] := by simp only [List.filter_cons, List.filter_nil, decide_eq_true_eq]
    rw [this]
    by_cases q : at0 w t = a
    · rw [if_pos q, q]
      simp
    · rw [if_neg q, beq_false_of_ne q]
      rfl
theorem evp_at {w : List Nat} {t : Nat} (ht : t < w.length) : (evp w (at0 w t))[(w.take t).count (at0 w t)]? = some t := by
  have h1 := evp_count w (at0 w t) t (by omega)
  have h2 : evp w (at0 w t) = ((List.range t).filter fun k => decide (at0 w k = at0 w t)) ++ (((List.range w.length).drop t).filter fun k => decide (at0 w k = at0 w t)) := by
    unfold evp
    rw [← List.filter_append]
    congr 1
    have := List.take_append_drop t (List.range w.length)
    rw [List.take_range, Nat.min_eq_left (by omega)] at this
    exact this.symm
  rw [h2, List.getElem?_append_right (by omega), h1, Nat.sub_self]
  have h3 : (List.range w.length).drop t = t :: (List.range w.length).drop (t + 1) := by
    rw [List.drop_eq_getElem_cons (by simpa using ht)]
    simp
  rw [h3, List.filter_cons]
  simp
theorem evp_lt {w : List Nat} {a k : Nat} (h : k ∈ evp w a) : k < w.length := List.mem_range.mp (List.mem_filter.mp h).1
theorem set_cut (l : List Nat) {a x : Nat} (ha : a < l.length) : l.take a ++ ([x] ++ l.drop (a + 1)) = l.set a x := by
  rw [List.set_eq_take_append_cons_drop, if_pos ha]
  rfl
theorem b_order_count (ds : List D) (S : Sto) (Q : QE) (h : P_order_count c ds S Q) : w_order_count c (esDef flCut S Q) (start0 13 ds) S := by
  obtain ⟨A, w, rfl, hw, hpw, hq⟩ := h
  have o := hw.o
  have h6 := o.n6
  have hz := hw.z
  have hn1 := o.n1
  unfold w_order_count
  (rw [x_Seq]; simp_arith! only [])
  refine ⟨A, w, rfl, hw, fun F hF => ?_⟩
  try simp_arith! only []
  (rw [x_Seq]; simp_arith! only [])
  try simp_arith! only []
  (rw [x_Seq]; simp_arith! only [szN o])
  have hro : ∀ k, k < w.length → ((List.range w.length).map fun k => D.lst (nats (dFn A (F k))))[k]? = some (.lst (nats (dFn A (F k)))) := fun k hk => by
    rw [List.getElem?_map, List.getElem?_range hk]
    rfl
  generalize hrows : ((List.range w.length).map fun k => D.lst (nats (dFn A (F k)))) = rows at hro
  refine LcP.pure (List.range A.n) (fun n : Nat => D.int (n : Nat)) (fun _ => true) (fun a => .lst (nats (evp w a))) trivial (szl (by simp; omega)) (fun a ha X Y hX hY => ?_) ?_
  · simp_arith! only [sz4 _ hz]
    refine LcP.pure (List.range w.length) (fun n : Nat => D.int (n : Nat)) (fun k => decide (at0 w k = a)) (fun k => .int (k : Nat)) trivial (szl (by simp; omega)) (fun k hk X Y hX hY => ?_) ?_
    · have hk := List.mem_range.mp hk
      simp_arith! only [nats_at hk]
      exact bY_mk hX hY
    · try simp_arith! only []
      exact hX rfl
  rw [flt_t]
  have hev : ∀ a, a < A.n → ((List.range A.n).map fun a => D.lst (nats (evp w a)))[a]? = some (.lst (nats (evp w a))) := fun a ha => by
    rw [List.getElem?_map, List.getElem?_range ha]
    rfl
  generalize hevs : ((List.range A.n).map fun a => D.lst (nats (evp w a))) = evs at hev
  try simp_arith! only []
  (rw [x_Seq]; simp_arith! only [])
  refine ⟨_, _, rfl, rfl, by simp, by omega, by omega, by simp, ?_⟩
  have e0 : (List.replicate ((A.n : Nat) : Int).toNat [D.int 0]).flatten = nats (List.replicate A.n 0) := by rw [Int.toNat_natCast]; exact rep0 A.n
  rw [e0]
  try simp_arith! only []
  refine ⟨kN (List.replicate A.n 0), (keyT_kN _).symm, ?_⟩
  try simp_arith! only []
  have hp0 : pv A w 0 = List.replicate A.n 0 := by
    unfold pv dFn
    rw [← map_const0]
    exact List.map_congr_left fun a _ => by simp
  (rw [x_Seq]; simp_arith! only [sz4 _ hz])
  refine ForP.range _ (fun t ρ S' => ∃ (T : List Cell) (kvs : List (List Key × D)), S' = S ++ (T ++ [Cell.dt kvs]) ∧ GK A kvs ∧ kN (pv A w t) ∈ kvs.map (·.1) ∧ kvs.length ≤ A.n ^ t ∧ ∃ z5 z6 z8 z9 z10 z11 z12, ρ = [some (dAl c A), some (.tup (nats w)), some (.lst rows), some (.int (A.n : Nat)), some (.lst evs), z5, z6, some (.ref (S.length + T.length)), z8, z9, z10, z11, z12])
    ⟨[], _, rfl, ⟨fun kv hk => ⟨List.replicate A.n 0, (by rw [List.mem_singleton.mp hk]), List.length_replicate⟩, fun kv hk => ⟨1, by omega, by rw [List.mem_singleton.mp hk]⟩⟩, by rw [hp0]; simp, by simp, _, _, _, _, _, _, _, rfl⟩ (fun ys ρ S' h => trivial) ?_ ?_
  · rintro t ρ S' ht ⟨T, kvs, rfl, hg, hpk, hkl, z5, z6, z8, z9, z10, z11, z12, rfl⟩
    try simp_arith! only []
    (rw [x_Seq]; simp_arith! only [])
    try simp_arith! only []
    rw [x_Seq]
    refine ⟨S.length + T.length, kvs, rfl, by simp_arith only [], fun lo lu => ?_⟩
    simp_arith! only []
    refine ⟨_, kvs, lo, lu, rfl, by simp_arith only [], ?_⟩
    simp_arith! only []
    refine ForP.over kvs (fun kv => keyT kv.1) (fun ys ρ S' => ∃ k2, S' = S ++ (T ++ [Cell.lt kvs lo lu, Cell.dt k2]) ∧ GK A k2 ∧ k2.length ≤ ys.length * A.n ∧ (kN (pv A w t) ∈ ys.map (·.1) → kN (pv A w (t + 1)) ∈ k2.map (·.1)) ∧ ∃ z5 z6 z10 z11 z12, ρ = [some (dAl c A), some (.tup (nats w)), some (.lst rows), some (.int (A.n : Nat)), some (.lst evs), z5, z6, some (.ref (S.length + T.length)), some (.int (t : Nat)), some (.ref (S.length + (T.length + 1))), z10, z11, z12])
      ⟨[], rfl, ⟨fun kv h => (by cases h), fun kv h => (by cases h)⟩, by simp, fun h => (by cases h), _, _, _, _, _, rfl⟩ (fun ys ρ S' h => ?_) ?_ ?_
    · obtain ⟨k2, rfl, _⟩ := h
      simp_arith only []
    · rintro ys kv zs ρ S' hx ⟨k2, rfl, hg2, hl2, hp2, z5, z6, z10, z11, z12, rfl⟩
      obtain ⟨l, hkl', hll⟩ := hg.k kv (by rw [hx]; simp)
      rw [hkl', keyT_kN]
      simp_arith! only [szN o]
      refine ForP.range _ (fun a ρ S' => ∃ k2, S' = S ++ (T ++ [Cell.lt kvs lo lu, Cell.dt k2]) ∧ GK A k2 ∧ k2.length ≤ ys.length * A.n + a ∧ (kN (pv A w t) ∈ ys.map (·.1) → kN (pv A w (t + 1)) ∈ k2.map (·.1)) ∧ (l = pv A w t → at0 w t < a → kN (pv A w (t + 1)) ∈ k2.map (·.1)) ∧ ∃ z5 z6 z11 z12, ρ = [some (dAl c A), some (.tup (nats w)), some (.lst rows), some (.int (A.n : Nat)), some (.lst evs), z5, z6, some (.ref (S.length + T.length)), some (.int (t : Nat)), some (.ref (S.length + (T.length + 1))), some (.tup (nats l)), z11, z12])
        ⟨k2, rfl, hg2, by omega, hp2, fun _ h => by omega, _, _, _, _, rfl⟩ (fun ys ρ S' h => trivial) ?_ ?_
      · rintro a ρ S' ha ⟨k3, rfl, hg3, hl3, hp3, hq3, z5, z6, z11, z12, rfl⟩
        have hal : a < l.length := by omega
        simp_arith! only [nats_at hal, hev a ha]
        refine bY_mk (fun h => ?_) (fun h => ?_)
        · have h := of_decide_eq_true h
          have hkm : at0 (evp w a) (at0 l a) ∈ evp w a := List.mem_of_getElem? (at0_get h)
          have hkw := evp_lt hkm
          try simp_arith! only []
          (rw [x_Seq]; simp_arith! only [nats_at hal, hev a ha, nats_at h, hro _ hkw])
          refine bP_mk ⟨by omega, by omega⟩ ?_
          generalize hkk : at0 (evp w a) (at0 l a) = kk at hkm hkw
          refine LcP.pure (List.range A.n) (fun n : Nat => D.int (n : Nat)) (fun b => decide (at0 l b < F kk b)) (fun b => .int (b : Nat)) trivial (szl (by simp; omega)) (fun b hb X Y hX hY => ?_) ?_
          · have hb := List.mem_range.mp hb
            simp_arith! only [nats_at (show b < (dFn A (F kk)).length by rw [dFn_len]; exact hb), dFn_at _ hb, nats_at (show b < l.length by omega)]
            exact bY_mk hX hY
          · simp_arith! only [List.length_map]
            refine bY_mk (fun h0 => ?_) (fun h0 => ?_)
            · try simp_arith! only []
              have ch : cutD (nats l) (some ((a + 1 : Nat) : Int)) none = nats (l.drop (a + 1)) := by
                have := cut_hi l hal
                rwa [add1_cast] at this
              (rw [x_Seq]; simp_arith! only [nats_at hal, cut_lo l hal, ch, add1_cast])
              refine bP_mk (szl (by rw [List.length_take]; omega)) (bP_mk (szl (by rw [List.length_take, List.length_drop]; omega)) ?_)
              have e1 : l.take a ++ (at0 l a + 1) :: l.drop (a + 1) = l.set a (at0 l a + 1) := set_cut l hal
              rw [e1]
              have d1 : dtOf (S ++ (T ++ [Cell.lt kvs lo lu, Cell.dt k3])) (D.ref (S.length + (T.length + 1))) = some k3 := by
                have : (S ++ (T ++ [Cell.lt kvs lo lu, Cell.dt k3]))[S.length + (T.length + 1)]? = some (Cell.dt k3) := by simp_arith only []
                simp only [dtOf, this]
              have d2 : dtOf (S ++ (T ++ [Cell.lt kvs lo lu, Cell.dt k3])) (D.ref (S.length + T.length)) = some kvs := by
                have : (S ++ (T ++ [Cell.lt kvs lo lu, Cell.dt k3]))[S.length + T.length]? = some (Cell.lt kvs lo lu) := by simp_arith only []
                simp only [dtOf, this]
              refine bP_mk ⟨k3, d1⟩ ⟨k3, kN (l.set a (at0 l a + 1)), d1, (keyT_kN _).symm, ?_⟩
              obtain ⟨i0, hi0, ei0⟩ : ∃ i : Int, 0 ≤ i ∧ (getK k3 (kN (l.set a (at0 l a + 1)))).getD (D.int 0) = .int i := by
                cases e : getK k3 (kN (l.set a (at0 l a + 1))) with
                | none => exact ⟨0, by omega, rfl⟩
                | some d =>
                  obtain ⟨kv', h1, h2⟩ := getK_any e
                  obtain ⟨i, h3, h4⟩ := hg3.v kv' h1
                  exact ⟨i, by omega, by rw [← h2, h4]; rfl⟩
              rw [ei0]
              simp_arith! only []
              obtain ⟨kv', m1, m2⟩ := getK_mem (k := kN l) (kvs := kvs) (List.mem_map.mpr ⟨kv, by rw [hx]; simp, hkl'⟩)
              obtain ⟨i1, hi1, ei1⟩ := hg.v kv' m1
              refine ⟨kvs, kN l, _, d2, (keyT_kN _).symm, m2, ?_⟩
              rw [ei1]
              simp_arith! only []
              have hlen3 : k3.length < sizeLine := by
                have h1 : kvs.length ≤ A.n ^ t := hkl
                have h2 : ys.length + 1 ≤ kvs.length := by rw [hx, List.length_append, List.length_cons]; omega
                have h3 : (ys.length + 1) * A.n ≤ A.n ^ t * A.n := Nat.mul_le_mul_right _ (by omega)
                have h4 : A.n ^ (t + 1) ≤ A.n ^ w.length := Nat.pow_le_pow_right (by omega) (by omega)
                rw [Nat.pow_succ] at h4
                rw [Nat.add_mul] at h3
                unfold sizeLine
                omega
              refine ⟨_, k3, _, rfl, (keyT_kN _).symm, by simp_arith only [], hlen3, ?_⟩
              refine ⟨putK' (kN (l.set a (at0 l a + 1))) (D.int (i0 + i1)) k3, by simp_arith only [], hg3.put (by rw [List.length_set]; exact hll) (show 1 ≤ i0 + i1 by omega), ?_, fun h => putK'_old (hp3 h), fun h1 h2 => ?_, _, _, _, _, rfl⟩
              · have := putK'_len (kN (l.set a (at0 l a + 1))) (D.int (i0 + i1)) k3
                omega
              · by_cases q : at0 w t = a
                · rw [h1, ← q, pv_succ hw.w ht]
                  exact putK'_has _ _ _
                · exact putK'_old (hq3 h1 (by omega))
            · try simp_arith! only []
              have h0 := of_decide_eq_false h0
              refine ⟨k3, rfl, hg3, by omega, hp3, fun h1 h2 => ?_, _, _, _, _, rfl⟩
              by_cases q : at0 w t = a
              · exfalso
                apply h0
                rw [List.length_eq_zero_iff, List.filter_eq_nil_iff]
                intro b hb
                have hb := List.mem_range.mp hb
                have hkt : kk = t := by
                  have e1 := evp_at ht
                  rw [← hkk, h1, ← q, pv_at (at0_lt hw.w ht)]
                  unfold at0
                  rw [List.getD_eq_getElem?_getD, e1]
                  rfl
                have := hF t b ht
                rw [h1, pv_at hb, hkt, decide_eq_true_eq]
                omega
              · exact hq3 h1 (by omega)
        · have h := of_decide_eq_false h
          try simp_arith! only []
          refine ⟨k3, rfl, hg3, by omega, hp3, fun h1 h2 => ?_, _, _, _, _, rfl⟩
          by_cases q : at0 w t = a
          · exfalso
            rw [h1, ← q, pv_at (at0_lt hw.w ht)] at h
            have := (List.getElem?_eq_some_iff.mp (evp_at ht)).1
            exact h this
          · exact hq3 h1 (by omega)
      · rintro ρ S' ⟨k3, rfl, hg3, hl3, hp3, hq3, z5, z6, z11, z12, rfl⟩
        refine ⟨k3, rfl, hg3, ?_, fun h => ?_, _, _, _, _, _, rfl⟩
        · rw [Nat.add_mul]
          omega
        · rw [List.map_append] at h
          rcases List.mem_append.mp h with q | q
          · exact hp3 q
          · simp only [List.map_cons, List.map_nil, List.mem_singleton] at q
            rw [hkl'] at q
            exact hq3 (kN_inj q).symm (at0_lt hw.w ht)
    · rintro ρ S' ⟨k2, rfl, hg2, hl2, hp2, z5, z6, z10, z11, z12, rfl⟩
      have hl3 : k2.length ≤ A.n ^ (t + 1) := by
        rw [Nat.pow_succ]
        exact Nat.le_trans hl2 (Nat.mul_le_mul_right _ hkl)
      refine ⟨by simp_arith only [], ?_⟩
      simp_arith! only []
      refine ⟨T ++ [Cell.dt kvs], k2, by simp, hg2, hp2 hpk, hl3, z5, z6, some (.int (t : Nat)), some (.ref (S.length + (T.length + 1))), z10, z11, z12, by simp⟩
  · rintro ρ S' ⟨T, kvs, rfl, hg, hpk, hkl, z5, z6, z8, z9, z10, z11, z12, rfl⟩
    simp_arith! only []
    refine ⟨S.length + T.length, kvs, rfl, by simp_arith only [], fun lo lu => ?_⟩
    simp_arith! only []
    refine ⟨_, kvs, lo, lu, rfl, by simp_arith only [], ?_⟩
    try simp_arith! only []
    have hkz : kvs.length < sizeLine := by
      unfold sizeLine
      omega
    have hval : ∀ kv ∈ kvs, ∃ i : Int, 1 ≤ i ∧ getK kvs kv.1 = some (.int i) := fun kv hk => by
      obtain ⟨kv', m1, m2⟩ := getK_mem (k := kv.1) (kvs := kvs) (List.mem_map.mpr ⟨kv, hk, rfl⟩)
      obtain ⟨i, h1, h2⟩ := hg.v kv' m1
      exact ⟨i, h1, by rw [m2, h2]⟩
    refine LcP.pure kvs (fun kv => keyT kv.1) (fun _ => true) (fun kv => (getK kvs kv.1).getD (.int 0)) (by simp_arith only []) (Nat.le_of_lt hkz) (fun kv hk X Y hX hY => ?_) ?_
    · obtain ⟨l, e1, e2⟩ := hg.k kv hk
      obtain ⟨i, e3, e4⟩ := hval kv hk
      rw [e1, keyT_kN]
      simp_arith! only []
      have d2 : dtOf (S ++ (T ++ [Cell.lt kvs lo lu])) (D.ref (S.length + T.length)) = some kvs := by
        have : (S ++ (T ++ [Cell.lt kvs lo lu]))[S.length + T.length]? = some (Cell.lt kvs lo lu) := by simp_arith only []
        simp only [dtOf, this]
      refine ⟨kvs, kN l, _, d2, (keyT_kN _).symm, by rw [← e1]; exact e4, ?_⟩
      have := hX rfl
      rw [e4] at this
      exact this
    · rw [flt_t]
      refine ⟨by simp_arith only [], ?_⟩
      obtain ⟨ns, hns, hns1⟩ : ∃ ns : List Int, (kvs.map fun kv => (getK kvs kv.1).getD (.int 0)) = ns.map D.int ∧ ∀ n ∈ ns, 1 ≤ n := by
        have : ∀ ks : List (List Key × D), (∀ kv ∈ ks, kv ∈ kvs) → ∃ ns : List Int, (ks.map fun kv => (getK kvs kv.1).getD (.int 0)) = ns.map D.int ∧ (∀ n ∈ ns, 1 ≤ n) := by
          intro ks
          induction ks with
          | nil => exact fun _ => ⟨[], rfl, by simp⟩
          | cons kv ks ih =>
            intro h
            obtain ⟨ns, h1, h2⟩ := ih fun x hx => h x (by simp [hx])
            obtain ⟨i, h3, h4⟩ := hval kv (h kv (by simp))
            refine ⟨i :: ns, by rw [List.map_cons, h1, h4]; rfl, fun n hn => ?_⟩
            rcases List.mem_cons.mp hn with q | q
            · rw [q]
              exact h3
            · exact h2 n q
        exact this kvs fun _ h => h
      have hne : ns ≠ [] := fun q => by
        rw [q] at hns
        have : kvs = [] := by simpa using hns
        rw [this] at hpk
        cases hpk
      have hsum : 1 ≤ ns.sum := by
        cases ns with
        | nil => exact absurd rfl hne
        | cons n ns =>
          have h1 := hns1 n (by simp)
          have h2 : ∀ ms : List Int, (∀ n ∈ ms, 1 ≤ n) → 0 ≤ ms.sum := by
            intro ms
            induction ms with
            | nil => intro _; simp
            | cons m ms ih =>
              intro h
              have := h m (by simp)
              have := ih fun x hx => h x (by simp [hx])
              rw [List.sum_cons]
              omega
          have := h2 ns fun x hx => hns1 x (by simp [hx])
          rw [List.sum_cons]
          omega
      rw [hns]
      simp_arith! only [ints_ints]
      exact cut_app (.int _) (hq _ hsum)
end K5

namespace K5
open PySem Tk Tr L2
variable {c : Ca}
local macro_rules | `(tactic| simp_arith only [$xs,*]) => `(tactic| simp only [↓x_V, ↓x_C, ↓x_B, ↓x_U, ↓x_Nil, ↓x_Cons, ↓x_Z, ↓x_Tup, ↓x_Lst, ↓x_Fz, ↓x_Cl, ↓x_BF, ↓x_ZF, ↓x_Tb, ↓x_AndT, ↓x_OrT, ↓x_NotT, ↓x_Yes, ↓x_AndV, ↓x_OrV, ↓x_NotV, ↓x_IfE, ↓x_Chain, ↓x_I, ↓x_Ib, ↓x_AddI, ↓x_AddT, ↓x_Cat, ↓x_Rep, ↓x_Neg, ↓x_Ix, ↓x_No, ↓x_So, ↓x_SlT, ↓x_SlL, ↓x_Rev, ↓x_In, ↓x_NotIn, ↓x_IsN, ↓x_NotN, ↓x_IsB, ↓x_NotB, ↓x_Len, ↓x_Int, ↓x_Max2, ↓x_Max, ↓x_Min, ↓x_Sum, ↓x_All, ↓x_Any, ↓x_List, ↓x_Tuple, ↓x_Sorted, ↓x_M, ↓x_M0, ↓x_Append, ↓x_Pop, ↓x_PopAt, ↓x_Reverse, ↓x_Fld, ↓x_FldNew, ↓x_FldSet, ↓x_FldAug, ↓x_Call, ↓x_Meth, ↓x_Make, ↓x_Frz, ↓x_gN, ↓x_gsNil, ↓x_gsCons, ↓x_gTu, ↓x_gIx, ↓x_Seq, ↓x_SNil, ↓x_Asg, ↓x_Drop, ↓x_Ret, ↓x_RetN, ↓x_If, ↓x_Brk, ↓x_Cnt, ↓x_Aug, ↓x_AugIx, ↓x_Par, ↓x_WIn, ↓x_R1, ↓x_R2, ↓x_R3, ↓x_DNew, ↓x_Disp1, ↓x_DPut, ↓x_SortedD, ↓x_DictP, ↓x_LRg, ↓x_For, ↓x_While, ↓x_Lc, ↓x_Inv, ↓x_Tt, ↓x_En, ↓x_TNew, ↓x_TDisp1, ↓x_TGet, ↓x_TGet2, ↓x_TPut, ↓x_KeysT, ↓x_EqI, ↓x_NeI, ↓x_NeB, ↓e_rt, ↓e_nx, ↓tgP, ↓kR25', ↓kR24', ↓kR23', ↓kR22', ↓kTt', ↓kEn2', ↓kEn', ↓kTD2', ↓kTD1', ↓kTG2', ↓kTG1', ↓kTH3', ↓kTH2', ↓kTH1', ↓kTP3', ↓kTP2', ↓kTP1', ↓kKy', ↓kQ', ↓kB2', ↓kB1', ↓kU', ↓kC2', ↓kC1', ↓kZ', ↓kTup', ↓kLst', ↓kFz', ↓kCl', ↓kBF2', ↓kBF1', ↓kZF', ↓kT', ↓kTb', ↓kAndT', ↓kOrT', ↓kNotT', ↓kAndV2', ↓kAndV', ↓kOrV2', ↓kOrV', ↓kNotV2', ↓kNotV', ↓kIfE', ↓kCh5', ↓kCh4', ↓kCh3', ↓kCh2', ↓kCh1', ↓kI2', ↓kI1', ↓kIb2', ↓kIb1', ↓kCat2', ↓kCat1', ↓kRep2', ↓kRep1', ↓kNeg', ↓kIx2', ↓kIx1', ↓kSo2', ↓kSo', ↓kSl4', ↓kSl3', ↓kSl2', ↓kSl1', ↓kSm4', ↓kSm3', ↓kSm2', ↓kSm1', ↓kRev2', ↓kRev', ↓kIn3', ↓kIn2', ↓kIn1', ↓kNi3', ↓kNi2', ↓kNi1', ↓kIs2', ↓kIs1', ↓kNb2', ↓kNb1', ↓kLen', ↓kMax2', ↓kMax1', ↓kMin2', ↓kMin1', ↓kSum2', ↓kSum1', ↓kAll2', ↓kAll1', ↓kAny2', ↓kAny1', ↓kList', ↓kTuple', ↓kSrt2', ↓kSrt1', ↓kM2', ↓kM1', ↓kM0', ↓kAp2', ↓kAp1', ↓kPop3', ↓kPop2', ↓kPop1', ↓kPa5', ↓kPa4', ↓kPa3', ↓kPa2', ↓kPa1', ↓kRv2', ↓kRv1', ↓kFld2', ↓kFld1', ↓kFn4', ↓kFn3', ↓kFn2', ↓kFn1', ↓kFs4', ↓kFs3', ↓kFs2', ↓kFs1', ↓kFa7', ↓kFa6', ↓kFa5', ↓kFa4', ↓kFa35', ↓kFa3', ↓kFa2', ↓kFa1', ↓kCall', ↓kMt3', ↓kMt2', ↓kMt1', ↓kMk2', ↓kMk1', ↓kFrz3', ↓kFrz2', ↓kFrz1', ↓kGs', ↓kGt', ↓kGi6', ↓kGi5', ↓kGi4', ↓kGi3', ↓kGi2', ↓kGi1', ↓kAsg', ↓kDrop', ↓kIf', ↓kAug3', ↓kAug2', ↓kAug1', ↓kAi10', ↓kAi9', ↓kAi8', ↓kAi7', ↓kAi6', ↓kAi5', ↓kAi4', ↓kAi3', ↓kAi2', ↓kAi1', ↓kPar2', ↓kPar1', ↓kWin2', ↓kWin1', ↓kR12', ↓kR11', ↓kR36', ↓kR35', ↓kR34', ↓kR33', ↓kR32', ↓kR31', ↓kDi3', ↓kDi2', ↓kDi1', ↓kDp6', ↓kDp5', ↓kDp4', ↓kDp3', ↓kDp2', ↓kDp1', ↓kSd2', ↓kSd1', ↓kDc2', ↓kDc1', ↓kLr2', ↓kLr1', ↓kFor', ↓kLc', ↓kF2', z0, z1, z2, z3, z4, z5, z6, z0', bO_some, bI_int, bB_bl, bL_ref, bN_non, bP_t, bY_t, bY_f, q_tup, q_lst, q_rd, q_ref, l_lst, l_ref, i_ins, i_ref, d_dk, d_ref, cl_lst, cl_ins, cl_dk, tr_ref, tr_tup, tr_lst, tr_clst, f_dt, f_lst', f_dk, f_ins, sb, sj, gset0, gset, sset0, sset, g_app0, g_app, flt_t, g_lt, s_lt, gs_self, List.set_set, s_app0, s_app, ixN_nat, at_nat, atI_0, atI_1, atI_2, atI_3, nats_len, ints_nats, mem_cast, nats_app, nats_snoc, nats_rev, nats_set, nats_erase, rng_0, rng_N, lt_cast, le_cast, max_cast, lt0, ge0, eq0, gt0, eq_cast, keyO, tupOf, fzO, List.getElem?_cons_zero, List.getElem?_cons_succ, List.set_cons_zero, List.set_cons_succ, List.length_cons, List.length_nil, List.length_append, List.append_assoc, List.cons_append, List.nil_append, List.append_nil, List.length_set, List.length_map, List.length_range, Nat.reduceAdd, Nat.zero_add, Nat.add_zero, Option.isSome_some, and_self, and_true, true_and, Option.bind_some, decide_true, decide_false, decide_eq_true_eq, wipeD, setAllD, Bool.not_true, Bool.not_false, Tk.isNon, eq_self, if_true, if_pos, start0, List.map_cons, List.map_nil, List.replicate, List.take, Nat.reduceSub, Nat.reduceLeDiff, Nat.reduceLT, Int.toNat_natCast, Int.reduceNeg, Nat.reduceEqDiff, Nat.add_eq, Nat.add_assoc, i_al, dLs_len, i_tb, wsD_len, evD_len, $xs,*])
local macro_rules | `(tactic| simp_arith! only [$xs,*]) => `(tactic| simp only [↓x_V, ↓x_C, ↓x_B, ↓x_U, ↓x_Nil, ↓x_Cons, ↓x_Z, ↓x_Tup, ↓x_Lst, ↓x_Fz, ↓x_Cl, ↓x_BF, ↓x_ZF, ↓x_Tb, ↓x_AndT, ↓x_OrT, ↓x_NotT, ↓x_Yes, ↓x_AndV, ↓x_OrV, ↓x_NotV, ↓x_IfE, ↓x_Chain, ↓x_I, ↓x_Ib, ↓x_AddI, ↓x_AddT, ↓x_Cat, ↓x_Rep, ↓x_Neg, ↓x_Ix, ↓x_No, ↓x_So, ↓x_SlT, ↓x_SlL, ↓x_Rev, ↓x_In, ↓x_NotIn, ↓x_IsN, ↓x_NotN, ↓x_IsB, ↓x_NotB, ↓x_Len, ↓x_Int, ↓x_Max2, ↓x_Max, ↓x_Min, ↓x_Sum, ↓x_All, ↓x_Any, ↓x_List, ↓x_Tuple, ↓x_Sorted, ↓x_M, ↓x_M0, ↓x_Append, ↓x_Pop, ↓x_PopAt, ↓x_Reverse, ↓x_Fld, ↓x_FldNew, ↓x_FldSet, ↓x_FldAug, ↓x_Call, ↓x_Meth, ↓x_Make, ↓x_Frz, ↓x_gN, ↓x_gsNil, ↓x_gsCons, ↓x_gTu, ↓x_gIx, ↓x_SNil, ↓x_Asg, ↓x_Drop, ↓x_Ret, ↓x_RetN, ↓x_If, ↓x_Brk, ↓x_Cnt, ↓x_Aug, ↓x_AugIx, ↓x_Par, ↓x_WIn, ↓x_R1, ↓x_R2, ↓x_R3, ↓x_DNew, ↓x_Disp1, ↓x_DPut, ↓x_SortedD, ↓x_DictP, ↓x_LRg, ↓x_For, ↓x_While, ↓x_Lc, ↓x_Inv, ↓x_Tt, ↓x_En, ↓x_TNew, ↓x_TDisp1, ↓x_TGet, ↓x_TGet2, ↓x_TPut, ↓x_KeysT, ↓x_EqI, ↓x_NeI, ↓x_NeB, ↓e_rt, ↓e_nx, ↓tgP, ↓kR25', ↓kR24', ↓kR23', ↓kR22', ↓kTt', ↓kEn2', ↓kEn', ↓kTD2', ↓kTD1', ↓kTG2', ↓kTG1', ↓kTH3', ↓kTH2', ↓kTH1', ↓kTP3', ↓kTP2', ↓kTP1', ↓kKy', ↓kQ', ↓kB2', ↓kB1', ↓kU', ↓kC2', ↓kC1', ↓kZ', ↓kTup', ↓kLst', ↓kFz', ↓kCl', ↓kBF2', ↓kBF1', ↓kZF', ↓kT', ↓kTb', ↓kAndT', ↓kOrT', ↓kNotT', ↓kAndV2', ↓kAndV', ↓kOrV2', ↓kOrV', ↓kNotV2', ↓kNotV', ↓kIfE', ↓kCh5', ↓kCh4', ↓kCh3', ↓kCh2', ↓kCh1', ↓kI2', ↓kI1', ↓kIb2', ↓kIb1', ↓kCat2', ↓kCat1', ↓kRep2', ↓kRep1', ↓kNeg', ↓kIx2', ↓kIx1', ↓kSo2', ↓kSo', ↓kSl4', ↓kSl3', ↓kSl2', ↓kSl1', ↓kSm4', ↓kSm3', ↓kSm2', ↓kSm1', ↓kRev2', ↓kRev', ↓kIn3', ↓kIn2', ↓kIn1', ↓kNi3', ↓kNi2', ↓kNi1', ↓kIs2', ↓kIs1', ↓kNb2', ↓kNb1', ↓kLen', ↓kMax2', ↓kMax1', ↓kMin2', ↓kMin1', ↓kSum2', ↓kSum1', ↓kAll2', ↓kAll1', ↓kAny2', ↓kAny1', ↓kList', ↓kTuple', ↓kSrt2', ↓kSrt1', ↓kM2', ↓kM1', ↓kM0', ↓kAp2', ↓kAp1', ↓kPop3', ↓kPop2', ↓kPop1', ↓kPa5', ↓kPa4', ↓kPa3', ↓kPa2', ↓kPa1', ↓kRv2', ↓kRv1', ↓kFld2', ↓kFld1', ↓kFn4', ↓kFn3', ↓kFn2', ↓kFn1', ↓kFs4', ↓kFs3', ↓kFs2', ↓kFs1', ↓kFa7', ↓kFa6', ↓kFa5', ↓kFa4', ↓kFa35', ↓kFa3', ↓kFa2', ↓kFa1', ↓kCall', ↓kMt3', ↓kMt2', ↓kMt1', ↓kMk2', ↓kMk1', ↓kFrz3', ↓kFrz2', ↓kFrz1', ↓kGs', ↓kGt', ↓kGi6', ↓kGi5', ↓kGi4', ↓kGi3', ↓kGi2', ↓kGi1', ↓kAsg', ↓kDrop', ↓kIf', ↓kAug3', ↓kAug2', ↓kAug1', ↓kAi10', ↓kAi9', ↓kAi8', ↓kAi7', ↓kAi6', ↓kAi5', ↓kAi4', ↓kAi3', ↓kAi2', ↓kAi1', ↓kPar2', ↓kPar1', ↓kWin2', ↓kWin1', ↓kR12', ↓kR11', ↓kR36', ↓kR35', ↓kR34', ↓kR33', ↓kR32', ↓kR31', ↓kDi3', ↓kDi2', ↓kDi1', ↓kDp6', ↓kDp5', ↓kDp4', ↓kDp3', ↓kDp2', ↓kDp1', ↓kSd2', ↓kSd1', ↓kDc2', ↓kDc1', ↓kLr2', ↓kLr1', ↓kFor', ↓kLc', ↓kF2', z0, z1, z2, z3, z4, z5, z6, z0', bO_some, bI_int, bB_bl, bL_ref, bN_non, bP_t, bY_t, bY_f, q_tup, q_lst, q_rd, q_ref, l_lst, l_ref, i_ins, i_ref, d_dk, d_ref, cl_lst, cl_ins, cl_dk, tr_ref, tr_tup, tr_lst, tr_clst, f_dt, f_lst', f_dk, f_ins, sb, sj, gset0, gset, sset0, sset, g_app0, g_app, flt_t, g_lt, s_lt, gs_self, List.set_set, s_app0, s_app, ixN_nat, at_nat, atI_0, atI_1, atI_2, atI_3, nats_len, ints_nats, mem_cast, nats_app, nats_snoc, nats_rev, nats_set, nats_erase, rng_0, rng_N, lt_cast, le_cast, max_cast, lt0, ge0, eq0, gt0, eq_cast, keyO, tupOf, fzO, List.getElem?_cons_zero, List.getElem?_cons_succ, List.set_cons_zero, List.set_cons_succ, List.length_cons, List.length_nil, List.length_append, List.append_assoc, List.cons_append, List.nil_append, List.append_nil, List.length_set, List.length_map, List.length_range, Nat.reduceAdd, Nat.zero_add, Nat.add_zero, Option.isSome_some, and_self, and_true, true_and, Option.bind_some, decide_true, decide_false, decide_eq_true_eq, wipeD, setAllD, Bool.not_true, Bool.not_false, Tk.isNon, eq_self, if_true, if_pos, start0, List.map_cons, List.map_nil, List.replicate, List.take, Nat.reduceSub, Nat.reduceLeDiff, Nat.reduceLT, Int.toNat_natCast, Int.reduceNeg, Nat.reduceEqDiff, Nat.add_eq, Nat.add_assoc, i_al, dLs_len, i_tb, wsD_len, evD_len, $xs,*])
theorem sz63 (n : Nat) (h : n ≤ 1000) : (-(2 ^ 63) ≤ (n : Int) ∧ (n : Int) < 2 ^ 63) = True := eq_true (by omega)
/-- a letter that goes by all ahead of it -/
def rdyAt (A : Al) (v : List Nat) (k : Nat) : Bool := decide (((List.range k).filter fun i => dep A (at0 v i) (at0 v k)).length = 0)
theorem b__law_words (ds : List D) (S : Sto) (Q : QE) (h : P__law_words c ds S Q) : w__law_words c (esDef flCut S Q) (start0 11 ds) S := by
  obtain ⟨l, ns, A, rfl, o, hl, hq⟩ := h
  have hlt := (List.getElem?_eq_some_iff.mp hl).1
  have hn1 := o.n1
  have h6 := o.n6
  unfold w__law_words
  rw [x_Seq]
  simp_arith! only []
  refine ⟨l, 9, ns, rfl, by omega, hl, fun r ms hr => ?_⟩
  simp_arith! only [sz4 r (by omega)]
  refine LcP.st (List.range r) (fun n : Nat => D.int (n : Nat)) (fun ys acc S' => ∃ (ms : List Int) (w : List Nat), S' = S.set l (drD ms) ∧ acc = nats w ∧ w.length = ys.length ∧ Wo A w) ⟨ms, [], rfl, rfl, rfl, by intro a ha; cases ha⟩ (fun ys acc S' h => trivial) (szl (by simp; omega)) (fun ys k zs acc S' hx hI X Y hX hY => ?_) (fun acc S' hI => ?_)
  · obtain ⟨ms, w, rfl, rfl, hwl, hw⟩ := hI
    simp_arith only []
    refine ⟨l, A.n, ms, rfl, by omega, by simp_arith only [hlt], fun r ms hr => ?_⟩
    refine hX _ _ ⟨ms, w ++ [r], by simp_arith only [], by simp_arith only [], by simp [hwl], fun a ha => ?_⟩
    rcases List.mem_append.mp ha with q | q
    · exact hw a q
    · rw [List.mem_singleton.mp q]
      exact hr
  obtain ⟨ms, base, rfl, rfl, hwl, hwo⟩ := hI
  rw [List.length_range] at hwl
  try simp_arith! only []
  (rw [x_Seq]; simp_arith! only [])
  try simp_arith! only []
  (rw [x_Seq]; simp_arith! only [])
  refine ⟨l, 4, ms, rfl, by omega, by simp_arith only [hlt], fun r4 ms hr4 => ?_⟩
  simp_arith! only [hlt, one_add, sz4 (r4 + 1) (by omega)]
  refine ForP.range _ (fun i ρ S' => (∃ (ms : List Int) (ws : List (List Nat)) (T : List Cell), S' = S.set l (drD ms) ++ (Cell.lst (wsD ws) :: T) ∧ ws.length = i ∧ ∀ w ∈ ws, Wo A w ∧ w.length ≤ 9) ∧ ∃ z3 z5 z6 z7 z8 z9, ρ = [some (.ref l), some (.lst (dLs A)), some (.tup (nats base)), z3, some (.ref S.length), z5, z6, z7, z8, z9, none]) ⟨⟨ms, [], [], rfl, rfl, by simp⟩, _, _, _, _, _, _, rfl⟩ (fun ys ρ S' h => trivial) ?_ ?_
  · rintro i ρ S' hi ⟨⟨ms, ws, T, rfl, hws, hwo'⟩, z3, z5, z6, z7, z8, z9, rfl⟩
    try simp_arith! only []
    (rw [x_Seq]; simp_arith! only [])
    try simp_arith! only []
    (rw [x_Seq]; simp_arith! only [])
    try simp_arith! only []
    (rw [x_Seq]; simp_arith! only [])
    refine ⟨l, base.length + 1, ms, rfl, by omega, by simp_arith only [hlt], fun rj ms hrj => ?_⟩
    simp_arith! only [hlt, sz4 rj (by omega)]
    refine ForP.range _ (fun j ρ S' => (∃ (ms : List Int) (v left : List Nat), S' = S.set l (drD ms) ++ (Cell.lst (wsD ws) :: (T ++ [Cell.lst (nats left)])) ∧ Wo A v ∧ Wo A left ∧ v.length = j ∧ left.length + j = base.length ∧ ∃ z7 z8 z9, ρ = [some (.ref l), some (.lst (dLs A)), some (.tup (nats base)), some (.int (i : Nat)), some (.ref S.length), some (.tup (nats v)), some (.ref (S.length + (T.length + 1))), z7, z8, z9, none])) ⟨ms, [], base, rfl, (fun a h => by cases h), hwo, rfl, by omega, _, _, _, rfl⟩ (fun ys ρ S' h => trivial) ?_ ?_
    · rintro j ρ S' hj ⟨ms, v, left, rfl, hv, hlo, hvl, hll, z7, z8, z9, rfl⟩
      have hlz : left.length ≤ 1000 := by omega
      have hpos : 0 < left.length := by omega
      try simp_arith! only []
      (rw [x_Seq]; simp_arith! only [sz4 _ hlz])
      refine LcP.pure (List.range left.length) (fun n : Nat => D.int (n : Nat)) (rdyAt A left) (fun n : Nat => D.int (n : Nat)) trivial (szl (by simp; omega)) (fun k hk X Y hX hY => ?_) ?_
      · have hk := List.mem_range.mp hk
        simp_arith! only [sz4 k (by omega)]
        refine LcP.pure (List.range k) (fun n : Nat => D.int (n : Nat)) (fun i => dep A (at0 left i) (at0 left k)) (fun n => D.int 1) trivial (szl (by simp; omega)) (fun i hi X Y hX hY => ?_) ?_
        · have hi := List.mem_range.mp hi
          simp_arith! only [nats_at (show i < left.length by omega), nats_at hk]
          refine ⟨A, _, _, rfl, o, at0_lt hlo (by omega), at0_lt hlo hk, ?_⟩
          simp_arith! only []
          exact bY_mk hX hY
        · simp_arith! only [List.length_map]
          exact bY_mk hX hY
      · generalize hR : (List.range left.length).filter (rdyAt A left) = R
        have hRm : ∀ x ∈ R, x < left.length := fun x hx => by
          rw [← hR] at hx
          exact List.mem_range.mp (List.mem_filter.mp hx).1
        have hR0 : 0 < R.length := by
          refine List.length_pos_of_mem (a := 0) ?_
          rw [← hR]
          exact List.mem_filter.mpr ⟨List.mem_range.mpr hpos, by simp [rdyAt]⟩
        have e0 : R.map (fun n : Nat => D.int (n : Nat)) = nats R := rfl
        rw [e0]
        try simp_arith! only []
        (rw [x_Seq]; simp_arith! only [])
        refine ⟨l, R.length, ms, rfl, hR0, by simp_arith only [hlt], fun rr ms hrr => ?_⟩
        have hat := hRm _ (List.mem_of_getElem? (at0_get hrr))
        simp_arith! only [hlt, nats_at hrr, hat, nats_at hat, sz63 _ (show at0 R rr ≤ 1000 by omega)]
        refine bP_mk (szl (by omega)) ⟨ms, v ++ [at0 left (at0 R rr)], left.eraseIdx (at0 R rr), rfl, ?_, fun a ha => hlo a (List.mem_of_mem_eraseIdx ha), by simp [hvl], ?_, _, _, _, rfl⟩
        · exact Wo.app.mpr ⟨hv, fun a ha => by rw [List.mem_singleton.mp ha]; exact at0_lt hlo hat⟩
        · rw [List.length_eraseIdx_of_lt hat]
          omega
    · rintro ρ S' ⟨ms, v, left, rfl, hv, hlo, hvl, hll, z7, z8, z9, rfl⟩
      try simp_arith! only []
      (rw [x_Seq]; simp_arith! only [])
      refine ⟨l, 4, ms, rfl, by omega, by simp_arith only [hlt], fun rz ms hrz => ?_⟩
      simp_arith! only [hlt]
      refine bY_mk (fun _ => ?_) (fun _ => ?_)
      · try simp_arith! only []
        refine ⟨l, A.n, ms, rfl, by omega, by simp_arith only [hlt], fun ra ms hra => ?_⟩
        simp_arith! only [hlt]
        refine bP_mk (szl (by omega)) ?_
        refine bP_mk (szlt (by omega)) ⟨⟨ms, ws ++ [v ++ [ra]], T ++ [Cell.lst (nats left)], ?_, by simp [hws], fun w hw => ?_⟩, _, _, _, _, _, _, rfl⟩
        · rw [← wsD_app]
          rfl
        · rcases List.mem_append.mp hw with q | q
          · exact hwo' w q
          · rw [List.mem_singleton.mp q]
            exact ⟨Wo.app.mpr ⟨hv, fun a ha => by rw [List.mem_singleton.mp ha]; exact hra⟩, by simp; omega⟩
      · try simp_arith! only []
        refine bP_mk (szlt (by omega)) ⟨⟨ms, ws ++ [v], T ++ [Cell.lst (nats left)], ?_, by simp [hws], fun w hw => ?_⟩, _, _, _, _, _, _, rfl⟩
        · rw [← wsD_app]
          rfl
        · rcases List.mem_append.mp hw with q | q
          · exact hwo' w q
          · rw [List.mem_singleton.mp q]
            exact ⟨hv, by omega⟩
  · rintro ρ S' ⟨⟨ms, ws, T, rfl, hws, hwo'⟩, z3, z5, z6, z7, z8, z9, rfl⟩
    simp_arith! only []
    exact cut_set (c := drD ms) (.lst (ok_ws _ _)) (oks_ints _ _) (hq ms ws (fun q => by rw [q] at hws; cases hws) (by omega) hwo')
end K5

namespace K5
open PySem Tk Tr L2
variable {c : Ca}
theorem eJJ (S : Sto) (Q : QE) : zEq (.str "joined") (.str "joined") S Q = Q (.bl true) S := x_EqStr S Q (by decide +kernel) (by decide +kernel)
theorem eCC (S : Sto) (Q : QE) : zEq (.str "conflict") (.str "conflict") S Q = Q (.bl true) S := x_EqStr S Q (by decide +kernel) (by decide +kernel)
theorem eJC (S : Sto) (Q : QE) : zEq (.str "joined") (.str "conflict") S Q = Q (.bl false) S := x_EqStr S Q (by decide +kernel) (by decide +kernel)
theorem eCJ (S : Sto) (Q : QE) : zEq (.str "conflict") (.str "joined") S Q = Q (.bl false) S := x_EqStr S Q (by decide +kernel) (by decide +kernel)
local macro_rules | `(tactic| simp_arith only [$xs,*]) => `(tactic| simp only [↓x_V, ↓x_C, ↓x_B, ↓x_U, ↓x_Nil, ↓x_Cons, ↓x_Z, ↓x_Tup, ↓x_Lst, ↓x_Fz, ↓x_Cl, ↓x_BF, ↓x_ZF, ↓x_Tb, ↓x_AndT, ↓x_OrT, ↓x_NotT, ↓x_Yes, ↓x_AndV, ↓x_OrV, ↓x_NotV, ↓x_IfE, ↓x_Chain, ↓x_I, ↓x_Ib, ↓x_AddI, ↓x_AddT, ↓x_Cat, ↓x_Rep, ↓x_Neg, ↓x_Ix, ↓x_No, ↓x_So, ↓x_SlT, ↓x_SlL, ↓x_Rev, ↓x_In, ↓x_NotIn, ↓x_IsN, ↓x_NotN, ↓x_IsB, ↓x_NotB, ↓x_Len, ↓x_Int, ↓x_Max2, ↓x_Max, ↓x_Min, ↓x_Sum, ↓x_All, ↓x_Any, ↓x_List, ↓x_Tuple, ↓x_Sorted, ↓x_M, ↓x_M0, ↓x_Append, ↓x_Pop, ↓x_PopAt, ↓x_Reverse, ↓x_Fld, ↓x_FldNew, ↓x_FldSet, ↓x_FldAug, ↓x_Call, ↓x_Meth, ↓x_Make, ↓x_Frz, ↓x_gN, ↓x_gsNil, ↓x_gsCons, ↓x_gTu, ↓x_gIx, ↓x_Seq, ↓x_SNil, ↓x_Asg, ↓x_Drop, ↓x_Ret, ↓x_RetN, ↓x_If, ↓x_Brk, ↓x_Cnt, ↓x_Aug, ↓x_AugIx, ↓x_Par, ↓x_WIn, ↓x_R1, ↓x_R2, ↓x_R3, ↓x_DNew, ↓x_Disp1, ↓x_DPut, ↓x_SortedD, ↓x_DictP, ↓x_LRg, ↓x_For, ↓x_While, ↓x_Lc, ↓x_Inv, ↓x_Tt, ↓x_En, ↓x_TNew, ↓x_TDisp1, ↓x_TGet, ↓x_TGet2, ↓x_TPut, ↓x_KeysT, ↓x_EqI, ↓x_NeI, ↓x_NeB, ↓e_rt, ↓e_nx, ↓tgP, ↓kR25', ↓kR24', ↓kR23', ↓kR22', ↓kTt', ↓kEn2', ↓kEn', ↓kTD2', ↓kTD1', ↓kTG2', ↓kTG1', ↓kTH3', ↓kTH2', ↓kTH1', ↓kTP3', ↓kTP2', ↓kTP1', ↓kKy', ↓kQ', ↓kB2', ↓kB1', ↓kU', ↓kC2', ↓kC1', ↓kZ', ↓kTup', ↓kLst', ↓kFz', ↓kCl', ↓kBF2', ↓kBF1', ↓kZF', ↓kT', ↓kTb', ↓kAndT', ↓kOrT', ↓kNotT', ↓kAndV2', ↓kAndV', ↓kOrV2', ↓kOrV', ↓kNotV2', ↓kNotV', ↓kIfE', ↓kCh5', ↓kCh4', ↓kCh3', ↓kCh2', ↓kCh1', ↓kI2', ↓kI1', ↓kIb2', ↓kIb1', ↓kCat2', ↓kCat1', ↓kRep2', ↓kRep1', ↓kNeg', ↓kIx2', ↓kIx1', ↓kSo2', ↓kSo', ↓kSl4', ↓kSl3', ↓kSl2', ↓kSl1', ↓kSm4', ↓kSm3', ↓kSm2', ↓kSm1', ↓kRev2', ↓kRev', ↓kIn3', ↓kIn2', ↓kIn1', ↓kNi3', ↓kNi2', ↓kNi1', ↓kIs2', ↓kIs1', ↓kNb2', ↓kNb1', ↓kLen', ↓kMax2', ↓kMax1', ↓kMin2', ↓kMin1', ↓kSum2', ↓kSum1', ↓kAll2', ↓kAll1', ↓kAny2', ↓kAny1', ↓kList', ↓kTuple', ↓kSrt2', ↓kSrt1', ↓kM2', ↓kM1', ↓kM0', ↓kAp2', ↓kAp1', ↓kPop3', ↓kPop2', ↓kPop1', ↓kPa5', ↓kPa4', ↓kPa3', ↓kPa2', ↓kPa1', ↓kRv2', ↓kRv1', ↓kFld2', ↓kFld1', ↓kFn4', ↓kFn3', ↓kFn2', ↓kFn1', ↓kFs4', ↓kFs3', ↓kFs2', ↓kFs1', ↓kFa7', ↓kFa6', ↓kFa5', ↓kFa4', ↓kFa35', ↓kFa3', ↓kFa2', ↓kFa1', ↓kCall', ↓kMt3', ↓kMt2', ↓kMt1', ↓kMk2', ↓kMk1', ↓kFrz3', ↓kFrz2', ↓kFrz1', ↓kGs', ↓kGt', ↓kGi6', ↓kGi5', ↓kGi4', ↓kGi3', ↓kGi2', ↓kGi1', ↓kAsg', ↓kDrop', ↓kIf', ↓kAug3', ↓kAug2', ↓kAug1', ↓kAi10', ↓kAi9', ↓kAi8', ↓kAi7', ↓kAi6', ↓kAi5', ↓kAi4', ↓kAi3', ↓kAi2', ↓kAi1', ↓kPar2', ↓kPar1', ↓kWin2', ↓kWin1', ↓kR12', ↓kR11', ↓kR36', ↓kR35', ↓kR34', ↓kR33', ↓kR32', ↓kR31', ↓kDi3', ↓kDi2', ↓kDi1', ↓kDp6', ↓kDp5', ↓kDp4', ↓kDp3', ↓kDp2', ↓kDp1', ↓kSd2', ↓kSd1', ↓kDc2', ↓kDc1', ↓kLr2', ↓kLr1', ↓kFor', ↓kLc', ↓kF2', z0, z1, z2, z3, z4, z5, z6, z0', bO_some, bI_int, bB_bl, bL_ref, bN_non, bP_t, bY_t, bY_f, q_tup, q_lst, q_rd, q_ref, l_lst, l_ref, i_ins, i_ref, d_dk, d_ref, cl_lst, cl_ins, cl_dk, tr_ref, tr_tup, tr_lst, tr_clst, f_dt, f_lst', f_dk, f_ins, sb, sj, gset0, gset, sset0, sset, g_app0, g_app, flt_t, g_lt, s_lt, gs_self, List.set_set, s_app0, s_app, ixN_nat, at_nat, atI_0, atI_1, atI_2, atI_3, nats_len, ints_nats, mem_cast, nats_app, nats_snoc, nats_rev, nats_set, nats_erase, rng_0, rng_N, lt_cast, le_cast, max_cast, lt0, ge0, eq0, gt0, eq_cast, keyO, tupOf, fzO, List.getElem?_cons_zero, List.getElem?_cons_succ, List.set_cons_zero, List.set_cons_succ, List.length_cons, List.length_nil, List.length_append, List.append_assoc, List.cons_append, List.nil_append, List.append_nil, List.length_set, List.length_map, List.length_range, Nat.reduceAdd, Nat.zero_add, Nat.add_zero, Option.isSome_some, and_self, and_true, true_and, Option.bind_some, decide_true, decide_false, decide_eq_true_eq, wipeD, setAllD, Bool.not_true, Bool.not_false, Tk.isNon, eq_self, if_true, if_pos, start0, List.map_cons, List.map_nil, List.replicate, List.take, Nat.reduceSub, Nat.reduceLeDiff, Nat.reduceLT, Int.toNat_natCast, Int.reduceNeg, Nat.reduceEqDiff, Nat.add_eq, Nat.add_assoc, i_al, dLs_len, i_tb, wsD_len, evD_len, eJJ, eCC, eJC, eCJ, $xs,*])
local macro_rules | `(tactic| simp_arith! only [$xs,*]) => `(tactic| simp only [↓x_V, ↓x_C, ↓x_B, ↓x_U, ↓x_Nil, ↓x_Cons, ↓x_Z, ↓x_Tup, ↓x_Lst, ↓x_Fz, ↓x_Cl, ↓x_BF, ↓x_ZF, ↓x_Tb, ↓x_AndT, ↓x_OrT, ↓x_NotT, ↓x_Yes, ↓x_AndV, ↓x_OrV, ↓x_NotV, ↓x_IfE, ↓x_Chain, ↓x_I, ↓x_Ib, ↓x_AddI, ↓x_AddT, ↓x_Cat, ↓x_Rep, ↓x_Neg, ↓x_Ix, ↓x_No, ↓x_So, ↓x_SlT, ↓x_SlL, ↓x_Rev, ↓x_In, ↓x_NotIn, ↓x_IsN, ↓x_NotN, ↓x_IsB, ↓x_NotB, ↓x_Len, ↓x_Int, ↓x_Max2, ↓x_Max, ↓x_Min, ↓x_Sum, ↓x_All, ↓x_Any, ↓x_List, ↓x_Tuple, ↓x_Sorted, ↓x_M, ↓x_M0, ↓x_Append, ↓x_Pop, ↓x_PopAt, ↓x_Reverse, ↓x_Fld, ↓x_FldNew, ↓x_FldSet, ↓x_FldAug, ↓x_Call, ↓x_Meth, ↓x_Make, ↓x_Frz, ↓x_gN, ↓x_gsNil, ↓x_gsCons, ↓x_gTu, ↓x_gIx, ↓x_SNil, ↓x_Asg, ↓x_Drop, ↓x_Ret, ↓x_RetN, ↓x_If, ↓x_Brk, ↓x_Cnt, ↓x_Aug, ↓x_AugIx, ↓x_Par, ↓x_WIn, ↓x_R1, ↓x_R2, ↓x_R3, ↓x_DNew, ↓x_Disp1, ↓x_DPut, ↓x_SortedD, ↓x_DictP, ↓x_LRg, ↓x_For, ↓x_While, ↓x_Lc, ↓x_Inv, ↓x_Tt, ↓x_En, ↓x_TNew, ↓x_TDisp1, ↓x_TGet, ↓x_TGet2, ↓x_TPut, ↓x_KeysT, ↓x_EqI, ↓x_NeI, ↓x_NeB, ↓e_rt, ↓e_nx, ↓tgP, ↓kR25', ↓kR24', ↓kR23', ↓kR22', ↓kTt', ↓kEn2', ↓kEn', ↓kTD2', ↓kTD1', ↓kTG2', ↓kTG1', ↓kTH3', ↓kTH2', ↓kTH1', ↓kTP3', ↓kTP2', ↓kTP1', ↓kKy', ↓kQ', ↓kB2', ↓kB1', ↓kU', ↓kC2', ↓kC1', ↓kZ', ↓kTup', ↓kLst', ↓kFz', ↓kCl', ↓kBF2', ↓kBF1', ↓kZF', ↓kT', ↓kTb', ↓kAndT', ↓kOrT', ↓kNotT', ↓kAndV2', ↓kAndV', ↓kOrV2', ↓kOrV', ↓kNotV2', ↓kNotV', ↓kIfE', ↓kCh5', ↓kCh4', ↓kCh3', ↓kCh2', ↓kCh1', ↓kI2', ↓kI1', ↓kIb2', ↓kIb1', ↓kCat2', ↓kCat1', ↓kRep2', ↓kRep1', ↓kNeg', ↓kIx2', ↓kIx1', ↓kSo2', ↓kSo', ↓kSl4', ↓kSl3', ↓kSl2', ↓kSl1', ↓kSm4', ↓kSm3', ↓kSm2', ↓kSm1', ↓kRev2', ↓kRev', ↓kIn3', ↓kIn2', ↓kIn1', ↓kNi3', ↓kNi2', ↓kNi1', ↓kIs2', ↓kIs1', ↓kNb2', ↓kNb1', ↓kLen', ↓kMax2', ↓kMax1', ↓kMin2', ↓kMin1', ↓kSum2', ↓kSum1', ↓kAll2', ↓kAll1', ↓kAny2', ↓kAny1', ↓kList', ↓kTuple', ↓kSrt2', ↓kSrt1', ↓kM2', ↓kM1', ↓kM0', ↓kAp2', ↓kAp1', ↓kPop3', ↓kPop2', ↓kPop1', ↓kPa5', ↓kPa4', ↓kPa3', ↓kPa2', ↓kPa1', ↓kRv2', ↓kRv1', ↓kFld2', ↓kFld1', ↓kFn4', ↓kFn3', ↓kFn2', ↓kFn1', ↓kFs4', ↓kFs3', ↓kFs2', ↓kFs1', ↓kFa7', ↓kFa6', ↓kFa5', ↓kFa4', ↓kFa35', ↓kFa3', ↓kFa2', ↓kFa1', ↓kCall', ↓kMt3', ↓kMt2', ↓kMt1', ↓kMk2', ↓kMk1', ↓kFrz3', ↓kFrz2', ↓kFrz1', ↓kGs', ↓kGt', ↓kGi6', ↓kGi5', ↓kGi4', ↓kGi3', ↓kGi2', ↓kGi1', ↓kAsg', ↓kDrop', ↓kIf', ↓kAug3', ↓kAug2', ↓kAug1', ↓kAi10', ↓kAi9', ↓kAi8', ↓kAi7', ↓kAi6', ↓kAi5', ↓kAi4', ↓kAi3', ↓kAi2', ↓kAi1', ↓kPar2', ↓kPar1', ↓kWin2', ↓kWin1', ↓kR12', ↓kR11', ↓kR36', ↓kR35', ↓kR34', ↓kR33', ↓kR32', ↓kR31', ↓kDi3', ↓kDi2', ↓kDi1', ↓kDp6', ↓kDp5', ↓kDp4', ↓kDp3', ↓kDp2', ↓kDp1', ↓kSd2', ↓kSd1', ↓kDc2', ↓kDc1', ↓kLr2', ↓kLr1', ↓kFor', ↓kLc', ↓kF2', z0, z1, z2, z3, z4, z5, z6, z0', bO_some, bI_int, bB_bl, bL_ref, bN_non, bP_t, bY_t, bY_f, q_tup, q_lst, q_rd, q_ref, l_lst, l_ref, i_ins, i_ref, d_dk, d_ref, cl_lst, cl_ins, cl_dk, tr_ref, tr_tup, tr_lst, tr_clst, f_dt, f_lst', f_dk, f_ins, sb, sj, gset0, gset, sset0, sset, g_app0, g_app, flt_t, g_lt, s_lt, gs_self, List.set_set, s_app0, s_app, ixN_nat, at_nat, atI_0, atI_1, atI_2, atI_3, nats_len, ints_nats, mem_cast, nats_app, nats_snoc, nats_rev, nats_set, nats_erase, rng_0, rng_N, lt_cast, le_cast, max_cast, lt0, ge0, eq0, gt0, eq_cast, keyO, tupOf, fzO, List.getElem?_cons_zero, List.getElem?_cons_succ, List.set_cons_zero, List.set_cons_succ, List.length_cons, List.length_nil, List.length_append, List.append_assoc, List.cons_append, List.nil_append, List.append_nil, List.length_set, List.length_map, List.length_range, Nat.reduceAdd, Nat.zero_add, Nat.add_zero, Option.isSome_some, and_self, and_true, true_and, Option.bind_some, decide_true, decide_false, decide_eq_true_eq, wipeD, setAllD, Bool.not_true, Bool.not_false, Tk.isNon, eq_self, if_true, if_pos, start0, List.map_cons, List.map_nil, List.replicate, List.take, Nat.reduceSub, Nat.reduceLeDiff, Nat.reduceLT, Int.toNat_natCast, Int.reduceNeg, Nat.reduceEqDiff, Nat.add_eq, Nat.add_assoc, i_al, dLs_len, i_tb, wsD_len, evD_len, eJJ, eCC, eJC, eCJ, $xs,*])
theorem tst {w : WT} {ρ : Nv} {S : Sto} {K : Bool → Sto → Prop} (h : ∀ K : Bool → Sto → Prop, K false S → w ρ S K) (k : K false S) : w ρ S K := h K k
def High (A : Al) (ws : List (List Nat)) (h : D) : Prop := (∃ z, Jn A ws z ∧ z.length ≤ 1000 ∧ h = .tup [.str "joined", .tup (nats (lf A z))]) ∨
  (∃ i j u v, i < j ∧ ws[i]? = some u ∧ ws[j]? = some v ∧ ¬ Cmp A u v ∧ h = .tup [.str "conflict", .int (i : Nat), .int (j : Nat)])
theorem split_high {A : Al} {ws : List (List Nat)} {K : QE} {S : Sto} (h : ∀ h, High A ws h → K h S) : (∀ z, Jn A ws z → z.length ≤ 1000 → K (.tup [.str "joined", .tup (nats (lf A z))]) S) ∧
    (∀ i j u v, i < j → ws[i]? = some u → ws[j]? = some v → ¬ Cmp A u v → K (.tup [.str "conflict", .int (i : Nat), .int (j : Nat)]) S) :=
  ⟨fun z h1 h2 => h _ (.inl ⟨z, h1, h2, rfl⟩), fun i j u v h1 h2 h3 h4 => h _ (.inr ⟨i, j, u, v, h1, h2, h3, h4, rfl⟩)⟩
def PairD (A : Al) (u v : List Nat) (p : D) : Prop := (¬ Cmp A u v ∧ p = .non) ∨ (Cmp A u v ∧ ∃ z, Jn A [u, v] z ∧ z.length ≤ u.length + v.length ∧ p = .tup (nats (lf A z)))
theorem split_pair {A : Al} {u v : List Nat} {K : QE} {S : Sto} (h : ∀ p, PairD A u v p → K p S) : (¬ Cmp A u v → K .non S) ∧ (Cmp A u v → ∀ z, Jn A [u, v] z → z.length ≤ u.length + v.length → (∀ y, Cmp A u y → Cmp A v y → Cmp A z y) → K (.tup (nats (lf A z))) S) :=
  ⟨fun h1 => h _ (.inl ⟨h1, rfl⟩), fun h1 z h2 h3 _ => h _ (.inr ⟨h1, z, h2, h3, rfl⟩)⟩
theorem gd_uniq {A : Al} (o : Ok A) {ws vs : List (List Nat)} {G H : List Nat} (g : Gd A ws G) (h : Gd A vs H) (k : ∀ u, u ∈ ws ↔ u ∈ vs) : lf A G = lf A H :=
  lf_cong o (LeP.eqv o g.w h.w (h.gr G g.w fun u hu => g.dn u ((k u).mpr hu)) (g.gr H h.w fun u hu => h.dn u ((k u).mp hu)))
theorem jn_uniq {A : Al} (o : Ok A) {ws vs : List (List Nat)} {G H : List Nat} (g : Jn A ws G) (h : Jn A vs H) (k : ∀ u, u ∈ ws ↔ u ∈ vs) : lf A G = lf A H :=
  lf_cong o (LeP.eqv o g.w h.w (g.le H h.w fun u hu => h.up u ((k u).mp hu)) (h.le G g.w fun u hu => g.up u ((k u).mpr hu)))
theorem jn_one {A : Al} {w : List Nat} (hw : Wo A w) : Jn A [w] w := ⟨hw, fun u hu => by rw [List.mem_singleton.mp hu]; exact .refl A w, fun y _ h => h w (by simp)⟩
theorem take_le (A : Al) (w : List Nat) (k : Nat) : LeP A (w.take k) w := fun p => by
  unfold prj
  exact (List.take_prefix k w).filter _
def prefs (w : List Nat) : List (List Nat) := (List.range (w.length + 1)).map fun k => w.take k
theorem prefs_mem {w u : List Nat} : u ∈ prefs w ↔ ∃ k, k ≤ w.length ∧ u = w.take k := by
  unfold prefs
  simp only [List.mem_map, List.mem_range, Nat.lt_succ_iff]
  exact ⟨fun ⟨k, h, e⟩ => ⟨k, h, e.symm⟩, fun ⟨k, h, e⟩ => ⟨k, h, e.symm⟩⟩
theorem jn_prefs {A : Al} {w : List Nat} (hw : Wo A w) : Jn A (prefs w) w := ⟨hw, fun u hu => by
  obtain ⟨k, _, rfl⟩ := prefs_mem.mp hu
  exact take_le A w k, fun y _ h => h w (prefs_mem.mpr ⟨w.length, Nat.le_refl _, by simp⟩)⟩
theorem gd_prefs {A : Al} {w : List Nat} : Gd A (prefs w) [] := ⟨fun a h => (by cases h), fun u _ p => List.nil_prefix, fun y _ h => by
  have := h [] (prefs_mem.mpr ⟨0, by omega, by simp⟩)
  exact this⟩
theorem cut_lo' (w : List Nat) (k : Nat) : cutD (nats w) none (some (k : Int)) = nats (w.take k) := by
  unfold cutD HT.sIx
  have h1 : ¬ (k : Int) < 0 := by omega
  simp only [h1, if_false, List.drop_zero, Nat.sub_zero, Int.toNat_natCast, nats_len]
  by_cases h : k ≤ w.length
  · rw [Nat.min_eq_left (by omega)]
    simp [nats, List.map_take]
  · rw [Nat.min_eq_right (by omega), List.take_of_length_le (by simp [nats_len]), List.take_of_length_le (by omega)]
theorem cut_hi2 (w : List Nat) : cutD (nats w) (some 2) none = nats (w.drop 2) := by
  unfold cutD HT.sIx
  have h1 : ¬ (2 : Int) < 0 := by omega
  simp only [h1, if_false, nats_len]
  rw [List.take_of_length_le (by simp [nats_len])]
  by_cases h : 2 ≤ w.length
  · rw [Nat.min_eq_left (by omega)]
    simp [nats, List.map_drop]
  · rw [Nat.min_eq_right (by omega), List.drop_eq_nil_of_le (by simp [nats_len]), List.drop_eq_nil_of_le (by omega)]
    rfl
theorem cut_ws1 {w : List Nat} {ws : List (List Nat)} (h : ws[0]? = some w) : cutD (wsD ws) none (some 1) = wsD [w] := by
  obtain ⟨ws', rfl⟩ : ∃ ws', ws = w :: ws' := by
    cases ws with
    | nil => cases h
    | cons a r => exact ⟨r, by cases h; rfl⟩
  unfold cutD HT.sIx
  have h1 : ¬ (1 : Int) < 0 := by omega
  simp only [h1, if_false, wsD_len, List.length_cons]
  rw [Nat.min_eq_left (by simp)]
  simp [wsD]
theorem fl_joined {w : List Nat} : flD 60 (.tup [.str "joined", .tup (nats w)]) = true := by
  simp only [flD, flDs, Bool.and_true]
  rw [Bool.and_eq_true]
  exact ⟨by decide +kernel, flDs_nats _ _⟩
theorem sum_bd : ∀ {l : List Nat} {b : Nat}, (∀ x ∈ l, x ≤ b) → l.sum ≤ l.length * b
  | [], _, _ => by simp
  | a :: l, b, h => by
    have h1 := h a (by simp)
    have h2 := sum_bd (l := l) (b := b) fun x hx => h x (by simp [hx])
    rw [List.sum_cons, List.length_cons, Nat.add_mul]
    omega
theorem wss_of {A : Al} (o : Ok A) {ws : List (List Nat)} (hn : ws.length ≤ 100) (h : ∀ w ∈ ws, Wo A w ∧ w.length ≤ 9) : Wss A ws := ⟨o, by
  have := sum_bd (l := ws.map List.length) (b := 9) fun x hx => by
    obtain ⟨w, hw, rfl⟩ := List.mem_map.mp hx
    exact (h w hw).2
  rw [List.length_map] at this
  omega, by omega, fun w hw => (h w hw).1⟩
theorem offs_nil (A : Al) (w : List Nat) : offs A w [] = List.range w.length := by
  unfold offs
  simp
theorem offs_all (A : Al) (w : List Nat) : offs A w (List.range w.length) = [] := by
  unfold offs
  rw [List.filter_eq_nil_iff]
  intro k hk
  have hk := List.mem_range.mp hk
  simp only [Bool.not_eq_true, Bool.not_eq_false', List.any_eq_true, decide_eq_true_eq]
  exact ⟨k, List.mem_range.mpr hk, dn_mem.mpr (.self hk)⟩
theorem lf_emp (A : Al) : lf A [] = [] := rfl
theorem prefs_tup (w : List Nat) : (List.range (w.length + 1)).map (fun k => D.tup (nats (w.take k))) = wsD (prefs w) := by
  unfold wsD prefs
  rw [List.map_map]
  rfl
theorem b__law_joins_right (ds : List D) (S : Sto) (Q : QE) (h : P__law_joins_right c ds S Q) : w__law_joins_right c (esDef flCut S Q) (start0 13 ds) S := by
  obtain ⟨l, ns, A, rfl, o, hl, hq⟩ := h
  have hlt := (List.getElem?_eq_some_iff.mp hl).1
  have h6 := o.n6
  unfold w__law_joins_right
  (rw [x_Seq]; simp_arith! only [])
  refine ⟨l, ns, A, rfl, o, hl, fun ms ws hne hlen hws => ?_⟩
  generalize hS0 : S.set l (drD ms) = S0
  have hW : Wss A ws := wss_of o (by omega) hws
  have hpos : 0 < ws.length := List.length_pos_iff.mpr hne
  obtain ⟨w0, h0⟩ : ∃ w0, ws[0]? = some w0 := ⟨_, List.getElem?_eq_getElem hpos⟩
  have hm0 := List.mem_of_getElem? h0
  have hw0 := wss_at hW hm0
  have hz9 := (hws w0 hm0).2
  have g0 : (wsD ws)[0]? = some (.tup (nats w0)) := wsD_get h0
  try simp_arith! only []
  (rw [x_Seq]; simp_arith! only [])
  refine ⟨A, _, rfl, hW, hne, fun G hG hGl => ?_⟩
  simp_arith! only []
  refine ⟨A, _, rfl, hW, split_high fun high hh => ?_⟩
  try simp_arith! only []
  have heG := lf_e o hG.w
  have hWG : Ws A (lf A G) := ⟨o, by rw [lf_len o hG.w]; exact hGl, heG.r⟩
  have hhJ : ∀ z, Jn A ws z → ∀ u v, u ∈ ws → v ∈ ws → Cmp A u v := fun z hz u v hu hv => Cmp.bound (hz.up u hu) (hz.up v hv)
  (rw [x_Seq]; simp_arith! only [])
  refine ForP.over ws (fun w => D.tup (nats w)) (fun ys ρ S' => S' = S0 ∧ ∃ z7, ρ = [some (.ref l), some (dAl c A), some (.int (A.k : Nat)), some (.lst (dLs A)), some (.lst (wsD ws)), some (.tup (nats (lf A G))), some high, z7, none, none, none, none, none]) ⟨rfl, _, rfl⟩ (fun ys ρ S' h => trivial) ?_ ?_
  · rintro ys w zs ρ S' hx ⟨rfl, z7, rfl⟩
    have hwm : w ∈ ws := by rw [hx]; simp
    have hww := wss_at hW hwm
    obtain ⟨r1, hr1⟩ := LeP.ex o hWG.w hww.w ((hG.dn w hwm).l heG)
    simp_arith! only []
    refine ⟨A, _, w, r1, rfl, hww, hr1, ?_⟩
    rcases hh with ⟨z, hz, hzl, rfl⟩ | ⟨i, j, u, v, hij, hi, hj, hc, rfl⟩
    · have hez := lf_e o hz.w
      have hWz : Ws A (lf A z) := ⟨o, by rw [lf_len o hz.w]; exact hzl, hez.r⟩
      obtain ⟨r2, hr2⟩ := LeP.ex o hww.w hWz.w ((hz.up w hwm).r hez)
      simp_arith! only []
      refine ⟨A, w, _, r2, rfl, hWz, hr2, ?_⟩
      simp_arith! only []
      exact ⟨_, rfl⟩
    · simp_arith! only []
      exact ⟨_, rfl⟩
  rintro ρ S' ⟨rfl, z7, rfl⟩
  have hll : ws.length - 1 < ws.length := by omega
  obtain ⟨wl, hwl⟩ : ∃ wl, ws[ws.length - 1]? = some wl := ⟨_, List.getElem?_eq_getElem hll⟩
  have hwlm := List.mem_of_getElem? hwl
  have hwlw := wss_at hW hwlm
  have hz9l := (hws wl hwlm).2
  have gl : atI (wsD ws) ((ws.length : Int) - 1) = some (.tup (nats wl)) := by
    rw [sub1_cast hpos, at_nat]
    exact wsD_get hwl
  have hpl : w0.length + wl.length ≤ 1000 := by omega
  try simp_arith! only []
  (rw [x_Seq]; simp_arith! only [g0, gl])
  refine ⟨A, w0, wl, rfl, hw0, hwlw, hpl, split_pair fun pair hp => ?_⟩
  try simp_arith! only []
  rw [x_Seq, x_If]
  refine tst (fun K hK => ?_) ?_
  · rcases hh with ⟨z, hz, hzl, rfl⟩ | ⟨i, j, u, v, hij, hi, hj, hc, rfl⟩
    · rcases hp with ⟨hp, rfl⟩ | ⟨hp, z', hz', hzl', rfl⟩
      · exact absurd (hhJ z hz w0 wl hm0 hwlm) hp
      · simp_arith! only []
        exact hK
    · have gi := wsD_get hi
      have gj := wsD_get hj
      have hui := wss_at hW (List.mem_of_getElem? hi)
      have hvj := wss_at hW (List.mem_of_getElem? hj)
      have l1 := (hws u (List.mem_of_getElem? hi)).2
      have l2 := (hws v (List.mem_of_getElem? hj)).2
      simp_arith! only [gi, gj]
      refine ⟨A, u, v, rfl, hui, hvj, by omega, fun _ => ?_, fun h => absurd h hc⟩
      simp_arith! only []
      exact hK
  try simp_arith! only []
  obtain ⟨cx, cr, cs, g⟩ := gcd_ex o _ rfl hw0.w hwlw.w
  have hcx : Wo A cx := (Wo.app.mp g.le.r).1
  have hcl := g.le.length o
  rw [List.length_append] at hcl
  have hec := lf_e o hcx
  have hWc : Ws A (lf A cx) := ⟨o, by rw [lf_len o hcx]; omega, hec.r⟩
  have hGc : LeP A (lf A G) (lf A cx) := ((gcd_great o g hG.w (hG.dn w0 hm0) (hG.dn wl hwlm)).r hec).l heG
  obtain ⟨r3, hr3⟩ := LeP.ex o hWG.w hWc.w hGc
  have tail : ∀ K : Bool → Sto → Prop, K false S' → ∀ ρ, ρ = [some (.ref l), some (dAl c A), some (.int (A.k : Nat)), some (.lst (dLs A)), some (.lst (wsD ws)), some (.tup (nats (lf A G))), some high, z7, some pair, none, none, none, none] → (wTb (wB zIsN (wCall 3 (P_rest c) (wCons (wV 1) (wCons (wV 5) (wCons (wCall 3 (P_common_prefix c) (wCons (wV 1) (wCons (wB zIx (wV 4) (wC (.int 0))) (wCons (wB zIx (wV 4) (wB zSub (wZ zLen (wCons (wV 4) wNil)) (wC (.int 1)))) wNil)))) wNil)))) (wC .non))) ρ S' K := by
    rintro K hK ρ rfl
    simp_arith! only [g0, gl]
    refine ⟨A, w0, wl, cx, cr, cs, rfl, hw0, hwlw, g, ?_⟩
    simp_arith! only []
    refine ⟨A, _, _, r3, rfl, hWc, hr3, ?_⟩
    simp_arith! only []
    exact hK
  rw [x_Seq, x_If]
  refine tst (fun K hK => ?_) ?_
  · rcases hh with ⟨z, hz, hzl, rfl⟩ | ⟨i, j, u, v, hij, hi, hj, hc, rfl⟩
    · rcases hp with ⟨hp, rfl⟩ | ⟨hp, z', hz', hzl', rfl⟩
      · exact absurd (hhJ z hz w0 wl hm0 hwlm) hp
      · have hez := lf_e o hz.w
        have hez' := lf_e o hz'.w
        have hWz : Ws A (lf A z) := ⟨o, by rw [lf_len o hz.w]; exact hzl, hez.r⟩
        have hle : LeP A z' z := hz'.le z hz.w fun u hu => by
          simp only [List.mem_cons, List.not_mem_nil, or_false] at hu
          rcases hu with q | q
          · rw [q]
            exact hz.up w0 hm0
          · rw [q]
            exact hz.up wl hwlm
        obtain ⟨r2, hr2⟩ := LeP.ex o hez'.r hWz.w ((hle.r hez).l hez')
        rw [x_OrT]
        simp_arith! only []
        refine ⟨A, _, _, r2, rfl, hWz, hr2, ?_⟩
        simp_arith! only [g0, gl]
        refine ⟨A, w0, wl, cx, cr, cs, rfl, hw0, hwlw, g, ?_⟩
        simp_arith! only []
        refine ⟨A, _, _, r3, rfl, hWc, hr3, ?_⟩
        simp_arith! only []
        exact hK
    · simp_arith! only [g0, gl]
      refine ⟨A, w0, wl, cx, cr, cs, rfl, hw0, hwlw, g, ?_⟩
      simp_arith! only []
      refine ⟨A, _, _, r3, rfl, hWc, hr3, ?_⟩
      simp_arith! only []
      exact hK
  clear tail
  try simp_arith! only []
  have hz1 := hW.n
  (rw [x_Seq]; simp_arith! only [wsD_app, szM (ws.length + ws.length) (by omega)])
  refine ⟨A, ws ++ ws, rfl, wss_of o (by rw [List.length_append]; omega) (fun w hw => hws w (by simpa using hw)), by simp [hne], fun G2 hG2 _ => ?_⟩
  have eG2 : lf A G2 = lf A G := gd_uniq o hG2 hG fun u => by simp
  rw [eG2]
  try simp_arith! only []
  refine x_NeS (fl_tup _ _) ?_
  simp_arith! only [cut_ws1 h0]
  have hW1 : Wss A [w0] := wss_of o (by simp) fun w hw => by rw [List.mem_singleton.mp hw]; exact hws w0 hm0
  refine ⟨A, [w0], rfl, hW1, by simp, fun G3 hG3 _ => ?_⟩
  have eG3 : lf A G3 = lf A w0 := gd_uniq o hG3 (gd_one hw0.w) fun u => Iff.rfl
  rw [eG3]
  simp_arith! only [g0]
  refine ⟨A, _, w0, rfl, rfl, hw0, ?_⟩
  try simp_arith! only []
  refine x_NeS (fl_tup _ _) ?_
  try simp_arith! only []
  (rw [x_Seq]; simp_arith! only [cut_ws1 h0])
  refine ⟨A, [w0], rfl, hW1, fun z3 hz3 _ => ?_, fun i j u v hij hi hj => ?_⟩
  rotate_left
  · have h1 := (List.getElem?_eq_some_iff.mp hi).1
    have h2 := (List.getElem?_eq_some_iff.mp hj).1
    simp at h1 h2
    omega
  have ez3 : lf A z3 = lf A w0 := jn_uniq o hz3 (jn_one hw0.w) fun u => Iff.rfl
  rw [ez3]
  simp_arith! only [g0]
  refine ⟨A, _, w0, rfl, rfl, hw0, ?_⟩
  try simp_arith! only []
  refine x_NeS (fl_tup _ _) ?_
  try simp_arith! only []
  (rw [x_Seq]; simp_arith! only [g0])
  try simp_arith! only []
  (rw [x_Seq]; simp_arith! only [add1_cast, sz4 (w0.length + 1) (by omega)])
  refine LcP.pure (List.range (w0.length + 1)) (fun n : Nat => D.int (n : Nat)) (fun _ => true) (fun k => D.tup (nats (w0.take k))) trivial (szl (by simp; omega)) (fun k hk X Y hX hY => ?_) ?_
  · simp_arith! only [cut_lo']
    exact hX rfl
  rw [flt_t, prefs_tup]
  have hWp : Wss A (prefs w0) := wss_of o (by simp [prefs]; omega) fun w hw => by
    obtain ⟨k, hk, rfl⟩ := prefs_mem.mp hw
    exact ⟨fun a ha => hw0.w a (List.mem_of_mem_take ha), by rw [List.length_take]; omega⟩
  try simp_arith! only []
  (rw [x_Seq]; simp_arith! only [])
  refine ⟨A, prefs w0, rfl, hWp, fun z4 hz4 _ => ?_, fun i j u v hij hi hj hc => absurd (Cmp.bound ((jn_prefs hw0.w).up u (List.mem_of_getElem? hi)) ((jn_prefs hw0.w).up v (List.mem_of_getElem? hj))) hc⟩
  have ez4 : lf A z4 = lf A w0 := jn_uniq o hz4 (jn_prefs hw0.w) fun u => Iff.rfl
  rw [ez4]
  try simp_arith! only []
  refine ⟨A, _, w0, rfl, rfl, hw0, ?_⟩
  try simp_arith! only []
  refine x_NeS fl_joined ?_
  try simp_arith! only []
  refine ⟨A, prefs w0, rfl, hWp, (fun q => by simp [prefs] at q), fun G5 hG5 _ => ?_⟩
  have eG5 : lf A G5 = [] := gd_uniq o hG5 gd_prefs fun u => Iff.rfl
  rw [eG5]
  try simp_arith! only []
  refine x_NeS (fl_tup _ []) ?_
  try simp_arith! only []
  (rw [x_Seq]; simp_arith! only [])
  refine ⟨A, w0, [], rfl, hw0, by simp, ?_⟩
  rw [offs_nil, sub_all]
  try simp_arith! only []
  refine ⟨A, _, w0, rfl, rfl, hw0, ?_⟩
  try simp_arith! only []
  refine x_NeS (fl_tup _ _) ?_
  simp_arith! only [rg0 hw0.z]
  refine ⟨A, w0, List.range w0.length, rfl, hw0, by rw [List.length_range]; exact hw0.z, ?_⟩
  rw [offs_all]
  try simp_arith! only []
  refine x_NeS (fl_tup _ []) ?_
  try simp_arith! only []
  have hpow : A.n ^ w0.length ≤ 16000000 := by
    have h1 : A.n ^ w0.length ≤ 6 ^ w0.length := Nat.pow_le_pow_left h6 _
    have h2 : 6 ^ w0.length ≤ 6 ^ 9 := Nat.pow_le_pow_right (by omega) hz9
    omega
  refine ⟨A, w0, rfl, hw0, hpow, fun i hi => ?_⟩
  simp_arith! only [show decide (i < 1) = false from decide_eq_false (by omega)]
  rw [x_Seq, x_If]
  refine tst (fun K hK => ?_) ?_
  · by_cases q : 1 < w0.length
    · have q0 := nats_at (l := w0) (k := 0) (by omega)
      have q1 := nats_at (l := w0) (k := 1) q
      have e1 : decide ((1 : Int) < (w0.length : Nat)) = true := decide_eq_true (by omega)
      simp_arith! only [e1, q0, q1]
      refine ⟨A, _, _, rfl, at0_lt hw0.w (by omega), at0_lt hw0.w q, ?_⟩
      cases hd : dep A (at0 w0 0) (at0 w0 1) with
      | true =>
        try simp_arith! only [Bool.false_eq_true]
        exact hK
      | false =>
        simp_arith! only [q0, q1, cut_hi2]
        have hsp : w0 = [at0 w0 0] ++ at0 w0 1 :: w0.drop 2 := by
          match w0, q with
          | a :: b :: r, _ => rfl
        have hsw := swap (A := A) (x := [at0 w0 0]) (y := w0.drop 2) (a := at0 w0 1) (by rw [← hsp]; exact hw0.w) fun b hb => by
          rw [List.mem_singleton.mp hb]
          exact hd
        rw [← hsp] at hsw
        refine bP_mk (szl (by rw [List.length_drop]; omega)) ⟨A, w0, at0 w0 1 :: ([at0 w0 0] ++ w0.drop 2), rfl, hw0, ⟨o, ?_, hsw.r⟩, hsw, ?_⟩
        · simp only [List.length_cons, List.length_append, List.length_drop, List.length_nil]
          omega
        · simp_arith! only []
          exact hK
    · have e1 : decide ((1 : Int) < (w0.length : Nat)) = false := decide_eq_false (by omega)
      simp_arith! only [e1]
      exact hK
  try simp_arith! only []
  (rw [x_Seq]; simp_arith! only [szK o])
  refine ForP.range _ (fun p ρ S'' => S'' = S' ∧ ∃ z12, ρ = [some (.ref l), some (dAl c A), some (.int (A.k : Nat)), some (.lst (dLs A)), some (.lst (wsD ws)), some (.tup (nats (lf A G))), some high, z7, some pair, some (.tup (nats w0)), some (.lst (wsD (prefs w0))), none, z12]) ⟨rfl, _, rfl⟩ (fun ys ρ S' h => trivial) ?_ ?_
  · rintro p ρ S'' hp' ⟨rfl, z12, rfl⟩
    simp_arith! only []
    refine ⟨A, _, p, rfl, hWG, ?_⟩
    simp_arith! only [g0]
    refine ⟨A, w0, p, rfl, hw0, ?_⟩
    simp_arith! only []
    refine ⟨A, _, p, rfl, hWG, ?_⟩
    simp_arith! only [cut_lo']
    have hpre : prj A p (lf A G) <+: prj A p w0 := (hG.dn w0 hm0).l heG p
    rw [← List.prefix_iff_eq_take.mp hpre]
    refine x_NeS (fl_tup _ _) ?_
    try simp_arith! only []
    exact ⟨_, rfl⟩
  · rintro ρ S'' ⟨rfl, z12, rfl⟩
    simp_arith! only []
    subst hS0
    have := cut_set0 (S := S) (Q := Q) (d := .bl true) (l := l) (c := drD ms) (.bl _) (oks_ints _ _) (hq ms)
    exact this
end K5

set_option maxHeartbeats 8000000
namespace K5
open PySem Tk Tr L2
variable {c : Ca}
local macro_rules | `(tactic| simp_arith only [$xs,*]) => `(tactic| simp only [↓x_V, ↓x_C, ↓x_B, ↓x_U, ↓x_Nil, ↓x_Cons, ↓x_Z, ↓x_Tup, ↓x_Lst, ↓x_Fz, ↓x_Cl, ↓x_BF, ↓x_ZF, ↓x_Tb, ↓x_AndT, ↓x_OrT, ↓x_NotT, ↓x_Yes, ↓x_AndV, ↓x_OrV, ↓x_NotV, ↓x_IfE, ↓x_Chain, ↓x_I, ↓x_Ib, ↓x_AddI, ↓x_AddT, ↓x_Cat, ↓x_Rep, ↓x_Neg, ↓x_Ix, ↓x_No, ↓x_So, ↓x_SlT, ↓x_SlL, ↓x_Rev, ↓x_In, ↓x_NotIn, ↓x_IsN, ↓x_NotN, ↓x_IsB, ↓x_NotB, ↓x_Len, ↓x_Int, ↓x_Max2, ↓x_Max, ↓x_Min, ↓x_Sum, ↓x_All, ↓x_Any, ↓x_List, ↓x_Tuple, ↓x_Sorted, ↓x_M, ↓x_M0, ↓x_Append, ↓x_Pop, ↓x_PopAt, ↓x_Reverse, ↓x_Fld, ↓x_FldNew, ↓x_FldSet, ↓x_FldAug, ↓x_Call, ↓x_Meth, ↓x_Make, ↓x_Frz, ↓x_gN, ↓x_gsNil, ↓x_gsCons, ↓x_gTu, ↓x_gIx, ↓x_Seq, ↓x_SNil, ↓x_Asg, ↓x_Drop, ↓x_Ret, ↓x_RetN, ↓x_If, ↓x_Brk, ↓x_Cnt, ↓x_Aug, ↓x_AugIx, ↓x_Par, ↓x_WIn, ↓x_R1, ↓x_R2, ↓x_R3, ↓x_DNew, ↓x_Disp1, ↓x_DPut, ↓x_SortedD, ↓x_DictP, ↓x_LRg, ↓x_For, ↓x_While, ↓x_Lc, ↓x_Inv, ↓x_Tt, ↓x_En, ↓x_TNew, ↓x_TDisp1, ↓x_TGet, ↓x_TGet2, ↓x_TPut, ↓x_KeysT, ↓x_EqI, ↓x_NeI, ↓x_NeB, ↓e_rt, ↓e_nx, ↓tgP, ↓kR25', ↓kR24', ↓kR23', ↓kR22', ↓kTt', ↓kEn2', ↓kEn', ↓kTD2', ↓kTD1', ↓kTG2', ↓kTG1', ↓kTH3', ↓kTH2', ↓kTH1', ↓kTP3', ↓kTP2', ↓kTP1', ↓kKy', ↓kQ', ↓kB2', ↓kB1', ↓kU', ↓kC2', ↓kC1', ↓kZ', ↓kTup', ↓kLst', ↓kFz', ↓kCl', ↓kBF2', ↓kBF1', ↓kZF', ↓kT', ↓kTb', ↓kAndT', ↓kOrT', ↓kNotT', ↓kAndV2', ↓kAndV', ↓kOrV2', ↓kOrV', ↓kNotV2', ↓kNotV', ↓kIfE', ↓kCh5', ↓kCh4', ↓kCh3', ↓kCh2', ↓kCh1', ↓kI2', ↓kI1', ↓kIb2', ↓kIb1', ↓kCat2', ↓kCat1', ↓kRep2', ↓kRep1', ↓kNeg', ↓kIx2', ↓kIx1', ↓kSo2', ↓kSo', ↓kSl4', ↓kSl3', ↓kSl2', ↓kSl1', ↓kSm4', ↓kSm3', ↓kSm2', ↓kSm1', ↓kRev2', ↓kRev', ↓kIn3', ↓kIn2', ↓kIn1', ↓kNi3', ↓kNi2', ↓kNi1', ↓kIs2', ↓kIs1', ↓kNb2', ↓kNb1', ↓kLen', ↓kMax2', ↓kMax1', ↓kMin2', ↓kMin1', ↓kSum2', ↓kSum1', ↓kAll2', ↓kAll1', ↓kAny2', ↓kAny1', ↓kList', ↓kTuple', ↓kSrt2', ↓kSrt1', ↓kM2', ↓kM1', ↓kM0', ↓kAp2', ↓kAp1', ↓kPop3', ↓kPop2', ↓kPop1', ↓kPa5', ↓kPa4', ↓kPa3', ↓kPa2', ↓kPa1', ↓kRv2', ↓kRv1', ↓kFld2', ↓kFld1', ↓kFn4', ↓kFn3', ↓kFn2', ↓kFn1', ↓kFs4', ↓kFs3', ↓kFs2', ↓kFs1', ↓kFa7', ↓kFa6', ↓kFa5', ↓kFa4', ↓kFa35', ↓kFa3', ↓kFa2', ↓kFa1', ↓kCall', ↓kMt3', ↓kMt2', ↓kMt1', ↓kMk2', ↓kMk1', ↓kFrz3', ↓kFrz2', ↓kFrz1', ↓kGs', ↓kGt', ↓kGi6', ↓kGi5', ↓kGi4', ↓kGi3', ↓kGi2', ↓kGi1', ↓kAsg', ↓kDrop', ↓kIf', ↓kAug3', ↓kAug2', ↓kAug1', ↓kAi10', ↓kAi9', ↓kAi8', ↓kAi7', ↓kAi6', ↓kAi5', ↓kAi4', ↓kAi3', ↓kAi2', ↓kAi1', ↓kPar2', ↓kPar1', ↓kWin2', ↓kWin1', ↓kR12', ↓kR11', ↓kR36', ↓kR35', ↓kR34', ↓kR33', ↓kR32', ↓kR31', ↓kDi3', ↓kDi2', ↓kDi1', ↓kDp6', ↓kDp5', ↓kDp4', ↓kDp3', ↓kDp2', ↓kDp1', ↓kSd2', ↓kSd1', ↓kDc2', ↓kDc1', ↓kLr2', ↓kLr1', ↓kFor', ↓kLc', ↓kF2', z0, z1, z2, z3, z4, z5, z6, z0', bO_some, bI_int, bB_bl, bL_ref, bN_non, bP_t, bY_t, bY_f, q_tup, q_lst, q_rd, q_ref, l_lst, l_ref, i_ins, i_ref, d_dk, d_ref, cl_lst, cl_ins, cl_dk, tr_ref, tr_tup, tr_lst, tr_clst, f_dt, f_lst', f_dk, f_ins, sb, sj, gset0, gset, sset0, sset, g_app0, g_app, flt_t, g_lt, s_lt, gs_self, List.set_set, s_app0, s_app, ixN_nat, at_nat, atI_0, atI_1, atI_2, atI_3, nats_len, ints_nats, mem_cast, nats_app, nats_snoc, nats_rev, nats_set, nats_erase, rng_0, rng_N, lt_cast, le_cast, max_cast, lt0, ge0, eq0, gt0, eq_cast, keyO, tupOf, fzO, List.getElem?_cons_zero, List.getElem?_cons_succ, List.set_cons_zero, List.set_cons_succ, List.length_cons, List.length_nil, List.length_append, List.append_assoc, List.cons_append, List.nil_append, List.append_nil, List.length_set, List.length_map, List.length_range, Nat.reduceAdd, Nat.zero_add, Nat.add_zero, Option.isSome_some, and_self, and_true, true_and, Option.bind_some, decide_true, decide_false, decide_eq_true_eq, wipeD, setAllD, Bool.not_true, Bool.not_false, Tk.isNon, eq_self, if_true, if_pos, start0, List.map_cons, List.map_nil, List.replicate, List.take, Nat.reduceSub, Nat.reduceLeDiff, Nat.reduceLT, Int.toNat_natCast, Int.reduceNeg, Nat.reduceEqDiff, Nat.add_eq, Nat.add_assoc, i_al, dLs_len, i_tb, wsD_len, evD_len, $xs,*])
local macro_rules | `(tactic| simp_arith! only [$xs,*]) => `(tactic| simp only [↓x_V, ↓x_C, ↓x_B, ↓x_U, ↓x_Nil, ↓x_Cons, ↓x_Z, ↓x_Tup, ↓x_Lst, ↓x_Fz, ↓x_Cl, ↓x_BF, ↓x_ZF, ↓x_Tb, ↓x_AndT, ↓x_OrT, ↓x_NotT, ↓x_Yes, ↓x_AndV, ↓x_OrV, ↓x_NotV, ↓x_IfE, ↓x_Chain, ↓x_I, ↓x_Ib, ↓x_AddI, ↓x_AddT, ↓x_Cat, ↓x_Rep, ↓x_Neg, ↓x_Ix, ↓x_No, ↓x_So, ↓x_SlT, ↓x_SlL, ↓x_Rev, ↓x_In, ↓x_NotIn, ↓x_IsN, ↓x_NotN, ↓x_IsB, ↓x_NotB, ↓x_Len, ↓x_Int, ↓x_Max2, ↓x_Max, ↓x_Min, ↓x_Sum, ↓x_All, ↓x_Any, ↓x_List, ↓x_Tuple, ↓x_Sorted, ↓x_M, ↓x_M0, ↓x_Append, ↓x_Pop, ↓x_PopAt, ↓x_Reverse, ↓x_Fld, ↓x_FldNew, ↓x_FldSet, ↓x_FldAug, ↓x_Call, ↓x_Meth, ↓x_Make, ↓x_Frz, ↓x_gN, ↓x_gsNil, ↓x_gsCons, ↓x_gTu, ↓x_gIx, ↓x_SNil, ↓x_Asg, ↓x_Drop, ↓x_Ret, ↓x_RetN, ↓x_If, ↓x_Brk, ↓x_Cnt, ↓x_Aug, ↓x_AugIx, ↓x_Par, ↓x_WIn, ↓x_R1, ↓x_R2, ↓x_R3, ↓x_DNew, ↓x_Disp1, ↓x_DPut, ↓x_SortedD, ↓x_DictP, ↓x_LRg, ↓x_For, ↓x_While, ↓x_Lc, ↓x_Inv, ↓x_Tt, ↓x_En, ↓x_TNew, ↓x_TDisp1, ↓x_TGet, ↓x_TGet2, ↓x_TPut, ↓x_KeysT, ↓x_EqI, ↓x_NeI, ↓x_NeB, ↓e_rt, ↓e_nx, ↓tgP, ↓kR25', ↓kR24', ↓kR23', ↓kR22', ↓kTt', ↓kEn2', ↓kEn', ↓kTD2', ↓kTD1', ↓kTG2', ↓kTG1', ↓kTH3', ↓kTH2', ↓kTH1', ↓kTP3', ↓kTP2', ↓kTP1', ↓kKy', ↓kQ', ↓kB2', ↓kB1', ↓kU', ↓kC2', ↓kC1', ↓kZ', ↓kTup', ↓kLst', ↓kFz', ↓kCl', ↓kBF2', ↓kBF1', ↓kZF', ↓kT', ↓kTb', ↓kAndT', ↓kOrT', ↓kNotT', ↓kAndV2', ↓kAndV', ↓kOrV2', ↓kOrV', ↓kNotV2', ↓kNotV', ↓kIfE', ↓kCh5', ↓kCh4', ↓kCh3', ↓kCh2', ↓kCh1', ↓kI2', ↓kI1', ↓kIb2', ↓kIb1', ↓kCat2', ↓kCat1', ↓kRep2', ↓kRep1', ↓kNeg', ↓kIx2', ↓kIx1', ↓kSo2', ↓kSo', ↓kSl4', ↓kSl3', ↓kSl2', ↓kSl1', ↓kSm4', ↓kSm3', ↓kSm2', ↓kSm1', ↓kRev2', ↓kRev', ↓kIn3', ↓kIn2', ↓kIn1', ↓kNi3', ↓kNi2', ↓kNi1', ↓kIs2', ↓kIs1', ↓kNb2', ↓kNb1', ↓kLen', ↓kMax2', ↓kMax1', ↓kMin2', ↓kMin1', ↓kSum2', ↓kSum1', ↓kAll2', ↓kAll1', ↓kAny2', ↓kAny1', ↓kList', ↓kTuple', ↓kSrt2', ↓kSrt1', ↓kM2', ↓kM1', ↓kM0', ↓kAp2', ↓kAp1', ↓kPop3', ↓kPop2', ↓kPop1', ↓kPa5', ↓kPa4', ↓kPa3', ↓kPa2', ↓kPa1', ↓kRv2', ↓kRv1', ↓kFld2', ↓kFld1', ↓kFn4', ↓kFn3', ↓kFn2', ↓kFn1', ↓kFs4', ↓kFs3', ↓kFs2', ↓kFs1', ↓kFa7', ↓kFa6', ↓kFa5', ↓kFa4', ↓kFa35', ↓kFa3', ↓kFa2', ↓kFa1', ↓kCall', ↓kMt3', ↓kMt2', ↓kMt1', ↓kMk2', ↓kMk1', ↓kFrz3', ↓kFrz2', ↓kFrz1', ↓kGs', ↓kGt', ↓kGi6', ↓kGi5', ↓kGi4', ↓kGi3', ↓kGi2', ↓kGi1', ↓kAsg', ↓kDrop', ↓kIf', ↓kAug3', ↓kAug2', ↓kAug1', ↓kAi10', ↓kAi9', ↓kAi8', ↓kAi7', ↓kAi6', ↓kAi5', ↓kAi4', ↓kAi3', ↓kAi2', ↓kAi1', ↓kPar2', ↓kPar1', ↓kWin2', ↓kWin1', ↓kR12', ↓kR11', ↓kR36', ↓kR35', ↓kR34', ↓kR33', ↓kR32', ↓kR31', ↓kDi3', ↓kDi2', ↓kDi1', ↓kDp6', ↓kDp5', ↓kDp4', ↓kDp3', ↓kDp2', ↓kDp1', ↓kSd2', ↓kSd1', ↓kDc2', ↓kDc1', ↓kLr2', ↓kLr1', ↓kFor', ↓kLc', ↓kF2', z0, z1, z2, z3, z4, z5, z6, z0', bO_some, bI_int, bB_bl, bL_ref, bN_non, bP_t, bY_t, bY_f, q_tup, q_lst, q_rd, q_ref, l_lst, l_ref, i_ins, i_ref, d_dk, d_ref, cl_lst, cl_ins, cl_dk, tr_ref, tr_tup, tr_lst, tr_clst, f_dt, f_lst', f_dk, f_ins, sb, sj, gset0, gset, sset0, sset, g_app0, g_app, flt_t, g_lt, s_lt, gs_self, List.set_set, s_app0, s_app, ixN_nat, at_nat, atI_0, atI_1, atI_2, atI_3, nats_len, ints_nats, mem_cast, nats_app, nats_snoc, nats_rev, nats_set, nats_erase, rng_0, rng_N, lt_cast, le_cast, max_cast, lt0, ge0, eq0, gt0, eq_cast, keyO, tupOf, fzO, List.getElem?_cons_zero, List.getElem?_cons_succ, List.set_cons_zero, List.set_cons_succ, List.length_cons, List.length_nil, List.length_append, List.append_assoc, List.cons_append, List.nil_append, List.append_nil, List.length_set, List.length_map, List.length_range, Nat.reduceAdd, Nat.zero_add, Nat.add_zero, Option.isSome_some, and_self, and_true, true_and, Option.bind_some, decide_true, decide_false, decide_eq_true_eq, wipeD, setAllD, Bool.not_true, Bool.not_false, Tk.isNon, eq_self, if_true, if_pos, start0, List.map_cons, List.map_nil, List.replicate, List.take, Nat.reduceSub, Nat.reduceLeDiff, Nat.reduceLT, Int.toNat_natCast, Int.reduceNeg, Nat.reduceEqDiff, Nat.add_eq, Nat.add_assoc, i_al, dLs_len, i_tb, wsD_len, evD_len, $xs,*])
structure Lw (c : Ca) (S : Sto) (d : Nat) (ms : List Int) (l r e : Nat) (A : Al) (rows : List (List Nat)) (es : List Ev) (n : Nat) : Prop where
  tab : S[0]? = some (.tab c.LT lamq)
  dr : S[d]? = some (drD ms)
  tb : TbAt c S l r e A rows es n
  dl : d ≠ l
  dR : d ≠ r
  dE : d ≠ e
  d0 : d ≠ 0
section
variable {S : Sto} {d : Nat} {ms : List Int} {l r e n : Nat} {A : Al} {rows : List (List Nat)} {es : List Ev} (h : Lw c S d ms l r e A rows es n)
include h
theorem Lw.l0 : l ≠ 0 := fun q => by
  have h1 := h.tb.l
  rw [q, h.tab] at h1
  cases h1
theorem Lw.r0 : r ≠ 0 := fun q => by
  have h1 := h.tb.r
  rw [q, h.tab] at h1
  cases h1
theorem Lw.e0 : e ≠ 0 := fun q => by
  have h1 := h.tb.e
  rw [q, h.tab] at h1
  cases h1
theorem Lw.take (ms' : List Int) : Lw c (S.set d (drD ms')) d ms' l r e A rows es n :=
  ⟨by rw [List.getElem?_set_ne h.d0]; exact h.tab, List.getElem?_set_self (List.getElem?_eq_some_iff.mp h.dr).1, ⟨h.tb.ne, h.tb.o, by rw [List.getElem?_set_ne h.dl]; exact h.tb.l, by rw [List.getElem?_set_ne h.dR]; exact h.tb.r, by rw [List.getElem?_set_ne h.dE]; exact h.tb.e, h.tb.w, h.tb.h, h.tb.z, h.tb.rz, h.tb.hz⟩, h.dl, h.dR, h.dE, h.d0⟩
theorem Lw.add {k a : Nat} {row : List Nat} (hk : k < rows.length) (ha : a < A.n) (hz : es.length < 1000) (hr : row.length ≤ 900) :
    Lw c (((S.set r (.lst (wsD (rows.set k row)))).set e (.lst (evD (es ++ [(n, k, a)])))).set l (K5.tb c A r e (n + 1))) d ms l r e A (rows.set k row) (es ++ [(n, k, a)]) (n + 1) := by
  have hl := h.tb.ll
  have hrl := h.tb.rl
  have hel := h.tb.el
  refine ⟨?_, ?_, ⟨h.tb.ne, h.tb.o, ?_, ?_, ?_, fun x hx => ?_, fun x hx => ?_, ?_, fun x hx => ?_, by rw [List.length_set]; exact h.tb.hz⟩, h.dl, h.dR, h.dE, h.d0⟩
  · rw [List.getElem?_set_ne h.l0, List.getElem?_set_ne h.e0, List.getElem?_set_ne h.r0]
    exact h.tab
  · rw [List.getElem?_set_ne h.dl.symm, List.getElem?_set_ne h.dE.symm, List.getElem?_set_ne h.dR.symm]
    exact h.dr
  · exact List.getElem?_set_self (by simpa using hl)
  · rw [List.getElem?_set_ne h.tb.ne_r.symm, List.getElem?_set_ne h.tb.ne.symm]
    exact List.getElem?_set_self hrl
  · rw [List.getElem?_set_ne h.tb.ne_e.symm]
    exact List.getElem?_set_self (by simpa using hel)
  · rcases List.mem_append.mp hx with q | q
    · exact h.tb.w x q
    · rw [List.mem_singleton.mp q]
      exact ha
  · rw [List.length_set]
    rcases List.mem_append.mp hx with q | q
    · exact h.tb.h x q
    · rw [List.mem_singleton.mp q]
      exact hk
  · rw [List.length_append, List.length_singleton]
    omega
  · rcases List.mem_or_eq_of_mem_set hx with q | q
    · exact h.tb.rz x q
    · rw [q]
      exact hr
theorem Lw.und {S' : Sto} {e' : Nat} {rows' : List (List Nat)} {es' : List Ev} (u : Und S S' l r e e') (t : TbAt c S' l r e' A rows' es' n) : Lw c S' d ms l r e' A rows' es' n := by
  have hd := (List.getElem?_eq_some_iff.mp h.dr).1
  have h0 := (List.getElem?_eq_some_iff.mp h.tab).1
  refine ⟨?_, ?_, t, h.dl, h.dR, ?_, h.d0⟩
  · rw [u.keep 0 h0 h.l0.symm h.r0.symm]
    exact h.tab
  · rw [u.keep d hd h.dl h.dR]
    exact h.dr
  · rcases u.ev with q | q
    · rw [q]
      exact h.dE
    · omega
end
theorem TbAt.ins {S : Sto} {l r e n : Nat} {A : Al} {rows : List (List Nat)} {es : List Ev} (h : TbAt c S l r e A rows es n) : insOf S (.ref l) = some (c.Table, k_Table, [dAl c A, .ref r, .ref e, .int (n : Nat)]) := by
  rw [i_ref, h.l]
  rfl
theorem wMethX_mk {C : Addr} {ks : List Str} {FX : PrX} {i j : Nat} {ρ : Nv} {S : Sto} {RX : Sto → Prop} {x y : D} {fs : List D} (hi : ρ[i]? = some (some x)) (hj : ρ[j]? = some (some y)) (hx : insOf S x = some (C, ks, fs)) (h : FX [x, y] S RX) : wMethX C ks 2 FX (wV i) (wCons (wV j) wNil) ρ S RX :=
  ⟨x, hi, ⟨fs, hx⟩, y, hj, rfl, h⟩
theorem b_law (ds : List D) (S : Sto) (Q : QE) (h : P_law c ds S Q) : w_law c (esDef flKeep S Q) (start0 24 ds) S := by
  obtain ⟨⟨ns, rfl, hz, hq⟩, htab⟩ := h
  unfold w_law
  have hS0 := (List.getElem?_eq_some_iff.mp htab).1
  simp_arith! only [start0]
  (rw [x_Seq]; simp_arith! only [])
  refine ⟨ns, rfl, hz, fun ms => ?_⟩
  try simp_arith! only []
  (rw [x_Seq]; simp_arith! only [show (-(2 ^ 62) ≤ (3 : Int) ∧ (3 : Int) < 2 ^ 62) = True from eq_true (by omega), show rng 0 (Int.toNat 3) = nats (List.range 3) from rng_0 3])
  generalize hd : S.length = d
  refine ForP.range 3 (fun i ρ S' => (∃ (ms : List Int), S'[0]? = some (.tab c.LT lamq) ∧ S'[d]? = some (drD ms) ∧ d ≠ 0) ∧ ∃ s2 s3 s4 s5 s6 s7 s8 s9 s10 s11 s12 s13 s14 s15 s16 s17 s18 s19 s20 s21 s22 s23, ρ = [some (.rd (ns.map D.int)), some (.ref d), s2, s3, s4, s5, s6, s7, s8, s9, s10, s11, s12, s13, s14, s15, s16, s17, s18, s19, s20, s21, s22, s23]) ⟨⟨ms, ?_, ?_, by omega⟩, _, _, _, _, _, _, _, _, _, _, _, _, _, _, _, _, _, _, _, _, _, _, rfl⟩ (fun ys ρ S' h => trivial) ?_ ?_
  · rw [List.getElem?_append_left hS0]
    exact htab
  · subst hd
    simp
  · rintro turn ρ S' ht ⟨⟨ms, htab, hdr, hd0⟩, s2, s3, s4, s5, s6, s7, s8, s9, s10, s11, s12, s13, s14, s15, s16, s17, s18, s19, s20, s21, s22, s23, rfl⟩
    have hdl := (List.getElem?_eq_some_iff.mp hdr).1
    have h0l := (List.getElem?_eq_some_iff.mp htab).1
    try simp_arith! only []
    (rw [x_Seq]; simp_arith! only [])
    refine ⟨d, ms, rfl, hdr, fun A ms o => ?_⟩
    have htab1 : (S'.set d (drD ms))[0]? = some (.tab c.LT lamq) := by rw [List.getElem?_set_ne hd0]; exact htab
    have hdr1 : (S'.set d (drD ms))[d]? = some (drD ms) := List.getElem?_set_self hdl
    generalize S'.set d (drD ms) = S1 at htab1 hdr1
    clear htab hdr hdl h0l
    have hdl := (List.getElem?_eq_some_iff.mp hdr1).1
    have h0l := (List.getElem?_eq_some_iff.mp htab1).1
    try simp_arith! only []
    (rw [x_Seq]; simp_arith! only [])
    refine ⟨A, S1.length, rfl, o, by simp_arith only [], ?_⟩
    try simp_arith! only []
    have eA : D.ins c.Alphabet k_Alphabet [D.int (A.k : Nat), D.tup (dLs A)] = dAl c A := rfl
    rw [eA]
    have hn6 := o.n6
    have hk4 := o.k4
    have hn1 := o.n1
    (rw [x_Seq]; simp_arith! only [])
    refine ⟨A, S1.length + 1, 2, rfl, by omega, by omega, by simp_arith only [], ?_⟩
    try simp_arith! only []
    have hL0 : Lw c (S1 ++ [Cell.dead, K5.tb c A (S1.length + 2) (S1.length + 3) 0, Cell.lst (wsD [[], []]), Cell.lst (evD [])]) d ms (S1.length + 1) (S1.length + 2) (S1.length + 3) A [[], []] [] 0 := by
      refine ⟨by rw [List.getElem?_append_left h0l]; exact htab1, by rw [List.getElem?_append_left hdl]; exact hdr1, ⟨by omega, o, ?_, ?_, ?_, fun x hx => (by cases hx), fun x hx => (by cases hx), by simp, fun x hx => ?_, by simp⟩, by omega, by omega, by omega, hd0⟩
      · simp
      · simp
      · simp
      · simp at hx
        subst hx
        simp
    generalize S1 ++ [Cell.dead, K5.tb c A (S1.length + 2) (S1.length + 3) 0, Cell.lst (wsD [[], []]), Cell.lst (evD [])] = S2 at hL0 ⊢
    clear htab1 hdr1 hdl h0l
    generalize S1.length + 1 = l at hL0 ⊢
    generalize S1.length + 2 = r at hL0
    generalize S1.length + 3 = e at hL0
    (rw [x_Seq]; simp_arith! only [])
    refine ⟨d, 9, ms, rfl, by omega, hL0.dr, fun r9 ms hr9 => ?_⟩
    have hL1 := hL0.take ms
    generalize S2.set d (drD ms) = S3 at hL1 ⊢
    clear hL0
    simp_arith! only [sz4 r9 (by omega)]
    refine ForP.range _ (fun i ρ S' => (∃ (ms : List Int) (es : List Ev), Lw c S' d ms l r e A [[], []] es i ∧ Num es ∧ es.length = i) ∧ ∃ s8, ρ = [some (.rd (ns.map D.int)), some (.ref d), some (.int (turn : Nat)), some (.int (A.k : Nat)), some (.lst (dLs A)), some (dAl c A), some (.ref l), some (.int 2), s8, s9, s10, s11, s12, s13, s14, s15, s16, s17, s18, s19, s20, s21, s22, s23]) ⟨⟨ms, [], hL1, rfl, rfl⟩, _, rfl⟩ (fun ys ρ S' h => trivial) ?_ ?_
    · rintro i ρ S4 hi ⟨⟨ms, es, hL, hN, hlen⟩, s8, rfl⟩
      simp_arith! only [hL.tb.l]
      refine ⟨d, 2, ms, rfl, by omega, hL.dr, fun rh ms hrh => ?_⟩
      have hLa := hL.take ms
      generalize S4.set d (drD ms) = S5 at hLa ⊢
      simp_arith! only []
      refine ⟨d, A.n, ms, rfl, by omega, hLa.dr, fun ra ms hra => ?_⟩
      have hLb := hLa.take ms
      generalize S5.set d (drD ms) = S6 at hLb ⊢
      try simp_arith! only []
      refine ⟨A, l, r, e, i, rh, ra, [[], []], es, rfl, hLb.tb, by simpa using hrh, ?_⟩
      have hLc := hLb.add (k := rh) (a := ra) (row := []) (by simpa using hrh) hra (by omega) (by simp)
      rw [set2 hrh] at hLc ⊢
      generalize ((S6.set r (.lst (wsD [[], []]))).set e (.lst (evD (es ++ [(i, rh, ra)])))).set l (K5.tb c A r e (i + 1)) = S7 at hLc ⊢
      try simp_arith! only []
      refine ⟨⟨ms, _, hLc, ?_, by simp [hlen]⟩, _, rfl⟩
      subst hlen
      exact hN.snoc rh ra
    rintro ρ S4 ⟨⟨ms, es, hL, hN, hlen⟩, s8, rfl⟩
    clear hL1
    have hes9 : es.length ≤ 8 := by omega
    have hw : Ws A (lett es) := ⟨o, by rw [lett_len]; omega, fun a ha => by
      obtain ⟨x, hx, rfl⟩ := List.mem_map.mp ha
      exact hL.tb.w x hx⟩
    have hle := lf_e o hw.w
    have hwf : Ws A (lf A (lett es)) := ⟨o, by rw [lf_len o hw.w]; exact hw.z, hle.r⟩
    try simp_arith! only []
    (rw [x_Seq]; simp_arith! only [hL.tb.l])
    refine ⟨A, l, r, e, r9, [[], []], es, rfl, hL.tb, ?_⟩
    try simp_arith! only []
    refine LcP.pure es (fun e : Ev => D.tup [.int (e.1 : Nat), .int (e.2.1 : Nat), .int (e.2.2 : Nat)]) (fun _ => true) (fun e => D.int (e.2.2 : Nat)) trivial (szl (by omega)) (fun k hk X Y hX hY => ?_) ?_
    · simp_arith! only []
      exact hX rfl
    rw [flt_t, lett_nats]
    try simp_arith! only []
    (rw [x_Seq]; simp_arith! only [hL.tb.l])
    refine ⟨A, l, r, e, r9, [[], []], es, rfl, hL.tb, ?_⟩
    try simp_arith! only []
    refine ⟨A, _, lett es, rfl, rfl, hw, ?_⟩
    try simp_arith! only []
    refine x_NeS (fl_tup _ _) ?_
    simp_arith! only [hL.tb.l]
    refine ⟨A, l, r, e, r9, [[], []], es, rfl, hL.tb, ?_⟩
    try simp_arith! only []
    refine ⟨A, _, _, rfl, hwf, hw, hle.symm, ?_⟩
    simp_arith! only [hL.tb.l]
    refine ⟨A, l, r, e, r9, [[], []], es, rfl, hL.tb, ?_⟩
    try simp_arith! only []
    refine ⟨A, _, rfl, hwf, lf_lf o hw.w, ?_⟩
    try simp_arith! only []
    (rw [x_Seq]; simp_arith! only [])
    refine ⟨d, 2, ms, rfl, by omega, hL.dr, fun rh ms hrh => ?_⟩
    have hLa := hL.take ms
    generalize S4.set d (drD ms) = S5 at hLa ⊢
    clear hL
    try simp_arith! only []
    (rw [x_Seq]; simp_arith! only [hLa.tb.l])
    refine ⟨A, l, r, e, r9, [[], []], es, rfl, hLa.tb, ?_⟩
    try simp_arith! only []
    refine LcP.pure es (fun e : Ev => D.tup [.int (e.1 : Nat), .int (e.2.1 : Nat), .int (e.2.2 : Nat)]) (fun _ => true) (fun e => D.int (e.1 : Nat)) trivial (szl (by omega)) (fun k hk X Y hX hY => ?_) ?_
    · simp_arith! only []
      exact hX rfl
    rw [flt_t, numb_nats hN]
    try simp_arith! only []
    (rw [x_Seq]; simp_arith! only [hLa.tb.l])
    refine ⟨A, l, r, e, r9, [[], []], es, rfl, hLa.tb, ?_⟩
    try simp_arith! only []
    refine LcP.pure es (fun e : Ev => D.tup [.int (e.1 : Nat), .int (e.2.1 : Nat), .int (e.2.2 : Nat)]) (fun x => decide (x.2.1 = rh)) (fun e => D.int (e.1 : Nat)) trivial (szl (by omega)) (fun k hk X Y hX hY => ?_) ?_
    · simp_arith! only []
      exact bY_mk hX hY
    rw [ofHand_is]
    try simp_arith! only []
    (rw [x_Seq]; simp_arith! only [hLa.tb.l])
    refine ⟨A, l, r, e, r9, [[], []], es, rfl, hLa.tb, ?_⟩
    try simp_arith! only []
    refine seq_fin (fun ρ S' => (∃ ms : List Int, S'[0]? = some (.tab c.LT lamq) ∧ S'[d]? = some (drD ms)) ∧ ∃ s8 s10 s12 s14 s17 s18 s19 s20 s21 s22 s23, ρ = [some (.rd (ns.map D.int)), some (.ref d), some (.int (turn : Nat)), some (.int (A.k : Nat)), some (.lst (dLs A)), some (dAl c A), some (.ref l), some (.int 2), s8, some (.tup (nats (lett es))), s10, some (.int (rh : Nat)), s12, some (.lst (nats (List.range es.length))), s14, some (.lst (nats (ofHand es rh))), some (.tup (nats (lf A (lett es)))), s17, s18, s19, s20, s21, s22, s23]) ?_ (fun N hNx => ?_)
    · rintro ρ S6 ⟨⟨ms, h1, h2⟩, s8, s10, s12, s14, s17, s18, s19, s20, s21, s22, s23, rfl⟩
      simp_arith! only []
      refine ⟨d, ms, A, rfl, o, h2, fun ms' => ?_⟩
      try simp_arith! only []
      refine ⟨⟨ms', ?_, ?_, hd0⟩, _, _, _, _, _, _, _, _, _, _, _, _, _, _, _, _, _, _, _, _, _, _, rfl⟩
      · rw [List.getElem?_set_ne hd0]
        exact h1
      · exact List.getElem?_set_self (List.getElem?_eq_some_iff.mp h2).1
    cases hm0 : nwst es rh with
    | none =>
      have e0 : ofHand es rh = [] := List.getLast?_eq_none_iff.mp hm0
      have e1 : decide ((0 : Int) < ((ofHand es rh).length : Nat)) = false := by rw [e0]; rfl
      have e2 : (ofHand es rh).length = 0 := by rw [e0]; rfl
      simp_arith! only [e1, e2]
      refine ⟨hLa.tab, .inr (wMethX_mk rfl rfl hLa.tb.ins ⟨A, l, r, e, r9, rh, [[], []], es, rfl, hLa.tb, by simpa using hrh, hm0, ?_⟩)⟩
      simp_arith! only []
      refine ⟨hLa.tab, .inr (wMethX_mk rfl rfl hLa.tb.ins ⟨A, l, r, e, r9, rh, [[], []], es, rfl, hLa.tb, by simpa using hrh, hm0, ?_⟩)⟩
      simp_arith! only []
      exact hNx _ _ ⟨⟨ms, hLa.tab, hLa.dr⟩, _, _, _, _, _, _, _, _, _, _, _, rfl⟩
    | some m0 =>
      obtain ⟨e0, e1⟩ := last_at (show (ofHand es rh).getLast? = some m0 from hm0)
      obtain ⟨x0, hx0, hx1, hx2⟩ := nwst_mem hm0
      obtain ⟨i0, hi0⟩ := List.getElem?_of_mem hx0
      have hi0l := (List.getElem?_eq_some_iff.mp hi0).1
      have hi0e : i0 = m0 := (hN.at hi0).symm.trans hx1
      have hm0l : m0 < es.length := by omega
      have hm0w : m0 < (lett es).length := by rw [lett_len]; exact hm0l
      have ha0 : at0 (lett es) m0 = x0.2.2 := by rw [← hi0e]; exact lett_at hi0
      simp_arith! only [decide_eq_true e0]
      (rw [x_Seq]; simp_arith! only [sub1_cast e0, nats_at (show (ofHand es rh).length - 1 < (ofHand es rh).length by omega), e1])
      try simp_arith! only []
      (rw [x_Seq]; simp_arith! only [])
      refine ⟨_, (List.range es.length).map (fun n : Nat => (n : Int)), (m0 : Int), m0, rfl, rfl, ints_nats _, ?_, ?_, ?_⟩
      · rw [List.getElem?_map, List.getElem?_range hm0l]
        rfl
      · intro k hk e
        rw [List.getElem?_map, List.getElem?_range (by omega)] at e
        have : (k : Int) = (m0 : Int) := Option.some.inj e
        omega
      try simp_arith! only []
      have b1 : (-(2 ^ 62) ≤ ((m0 : Int) + 1) ∧ ((m0 : Int) + 1) < 2 ^ 62 ∧ -(2 ^ 62) ≤ ((lett es).length : Int) ∧ ((lett es).length : Int) < 2 ^ 62) = True := eq_true (by have := lett_len es; omega)
      have b2 : rng ((m0 : Int) + 1) (((lett es).length : Int) - ((m0 : Int) + 1)).toNat = (List.range ((lett es).length - (m0 + 1))).map fun j => D.int (((m0 + (1 + j) : Nat)) : Int) := by
        unfold rng
        have : (((lett es).length : Int) - ((m0 : Int) + 1)).toNat = (lett es).length - (m0 + 1) := by omega
        rw [this]
        refine List.map_congr_left fun j _ => ?_
        congr 1
        omega
      (rw [x_Seq]; simp_arith! only [b1, b2])
      refine LcP.pure (List.range ((lett es).length - (m0 + 1))) (fun j => D.int (((m0 + (1 + j) : Nat)) : Int)) (fun j => decide (m0 ∈ dn A (lett es) [m0 + (1 + j)])) (fun j => D.int (((m0 + (1 + j) : Nat)) : Int)) trivial (szl (by have := lett_len es; simp; omega)) (fun k hk X Y hX hY => ?_) ?_
      · simp_arith! only []
        refine ⟨A, lett es, m0, m0 + (1 + k), rfl, hw, ?_⟩
        simp_arith! only []
        exact bY_mk hX hY
      rw [kept_numb (fun j => decide (m0 ∈ dn A (lett es) [m0 + (1 + j)])) (fun j => m0 + (1 + j)) (fun o => decide (m0 ∈ dn A (lett es) [o])) (fun j => rfl)]
      have hup := gone_is (A := A) hm0w
      have hupl : (upw A (lett es) m0).length ≤ es.length := by
        have := kept_len A (lett es) m0
        rw [lett_len] at this
        omega
      have hup2 : D.int (m0 : Nat) :: nats (((List.range ((lett es).length - (m0 + 1))).map fun j => m0 + (1 + j)).filter fun o => decide (m0 ∈ dn A (lett es) [o])) = nats (upw A (lett es) m0) := by
        rw [← hup]
        rfl
      have hup3 : (1 + (((List.range ((lett es).length - (m0 + 1))).map fun j => m0 + (1 + j)).filter fun o => decide (m0 ∈ dn A (lett es) [o])).length) = (upw A (lett es) m0).length := by
        rw [← hup, List.length_cons]
        omega
      try simp_arith! only [hup3, szM (upw A (lett es) m0).length (by omega)]
      rw [hup2]
      have hmu : muL A m0 (num es) [] = upw A (lett es) m0 := by rw [num_is hN, mu_all hm0w]
      have hund := upw_asc A (lett es) m0
      generalize hMd : upw A (lett es) m0 = M at *
      (rw [x_Seq]; simp_arith! only [hLa.tb.l])
      refine ⟨A, l, r, e, r9, rh, m0, [[], []], es, rfl, hLa.tb, ?_, by simpa using hrh, hm0, fun S6 e' hU ht' => ?_⟩
      · intro x hx
        have : x = [] := by simpa using hx
        subst this
        have : es.length * es.length ≤ 8 * 8 := Nat.mul_le_mul hes9 hes9
        simp
        omega
      rw [hmu] at ht' ⊢
      have hLb : Lw c S6 d ms l r e' A (backs M.reverse [[], []] es).1 (backs M.reverse [[], []] es).2 r9 := hLa.und hU ht'
      rw [backs_keep, keep_rev] at hLb
      clear ht' hU
      have hMl : ∀ k ∈ M, k < es.length := fun k hk => by
        rw [← hMd] at hk
        have := (upw_mem.mp hk).1
        rwa [lett_len] at this
      have hMn : M.Nodup := by
        rw [← hMd]
        exact (upw_asc A (lett es) m0).imp fun h => by omega
      have hkl := keep_lett hN M
      have hcl : Cl A (lett es) ((List.range (lett es).length).filter fun i => !decide (i ∈ M)) := by
        rw [← hMd]
        exact kept_cl A (lett es) m0
      have hE : Eqv A (lett es) (lett (keepE es M) ++ sub (lett es) M) := by
        have h1 := eqv_compl hw.w hcl
        have h2 := compl_upw A (lett es) m0
        rw [hMd] at h2
        rw [h2, ← hkl] at h1
        exact h1
      have hKM := (Wo.app.mp hE.r)
      have hlK : (lett (keepE es M)).length + M.length = (lett es).length := by
        have := hE.length o
        rw [List.length_append] at this
        unfold sub at this
        rw [List.length_map] at this
        omega
      have heK := lf_e o hKM.1
      have hWK : Ws A (lf A (lett (keepE es M))) := ⟨o, by rw [lf_len o hKM.1]; have := hw.z; omega, heK.r⟩
      have hoff : sub (lett es) (offs A (lett es) [m0]) = lett (keepE es M) := by rw [offs_one, hMd, hkl]
      generalize hRw : (backs M.reverse [[], []] es).1 = rows at hLb
      have hrl : rows.length = 2 := by
        rw [← hRw, backs_len]
        rfl
      have htot : tot rows = M.length := by
        rw [← hRw, backs_tot hN.nodup (fun x hx => hLa.tb.h x hx) M.reverse ((List.reverse_perm M).nodup_iff.mpr hMn) (fun k hk => by
          have hk := hMl k (List.mem_reverse.mp hk)
          have h1 : es[k]? = some es[k] := List.getElem?_eq_getElem hk
          exact ⟨es[k], List.mem_of_getElem? h1, hN.at h1⟩), List.length_reverse]
        show 0 + M.length = _
        omega
      try simp_arith! only []
      (rw [x_Seq]; simp_arith! only [])
      refine LcP.pure M (fun n : Nat => D.int (n : Nat)) (fun _ => true) (fun n : Nat => D.int (n : Nat)) trivial (szl (by omega)) (fun k hk X Y hX hY => ?_) ?_
      · have hk := hMl k hk
        have e3 : at0 (List.range es.length) k = k := by
          unfold at0
          rw [List.getD_eq_getElem?_getD, List.getElem?_range hk]
          rfl
        simp_arith! only [nats_at (show k < (List.range es.length).length by simpa using hk), e3]
        exact hX rfl
      rw [flt_t]
      have e4 : M.map (fun n : Nat => D.int (n : Nat)) = nats M := rfl
      rw [e4]
      try simp_arith! only []
      refine x_NeS (fl_lst _ _) ?_
      simp_arith! only [hLb.tb.l]
      refine ⟨A, l, r, e', r9, rows, keepE es M, rfl, hLb.tb, ?_⟩
      try simp_arith! only []
      refine ⟨A, lett es, [m0], rfl, hw, by simp, ?_⟩
      rw [hoff]
      try simp_arith! only []
      refine x_NeS (fl_tup _ _) ?_
      try simp_arith! only []
      (rw [x_Seq]; simp_arith! only [hLb.tb.l])
      refine ⟨A, l, r, e', r9, rows, keepE es M, rfl, hLb.tb, ?_⟩
      try simp_arith! only []
      refine ⟨A, _, _, sub (lett es) M, rfl, hwf, hle.symm.trans (hE.trans (heK.app (.refl hKM.2))), ?_⟩
      simp_arith! only [hLb.tb.l]
      refine ⟨A, l, r, e', r9, rows, keepE es M, rfl, hLb.tb, ?_⟩
      have q1 : decide ((((lf A (lett (keepE es M))).length : Nat) : Int) = ((lf A (lett es)).length : Int) - (M.length : Int)) = true := by
        rw [lf_len o hKM.1, lf_len o hw.w, decide_eq_true_eq]
        omega
      simp_arith! only [q1]
      obtain ⟨ra, rb, hab⟩ : ∃ ra rb, rows = [ra, rb] := by
        match rows, hrl with
        | [a, b], _ => exact ⟨a, b, rfl⟩
      (rw [x_Seq]; simp_arith! only [show (-(2 ^ 62) ≤ (2 : Int) ∧ (2 : Int) < 2 ^ 62) = True from eq_true (by omega), show rng 0 (Int.toNat 2) = nats (List.range 2) from rng_0 2])
      refine LcP.pure (List.range 2) (fun n : Nat => D.int (n : Nat)) (fun _ => true) (fun k => D.int ((rows.getD k []).length : Nat)) trivial (szl (by simp)) (fun k hk X Y hX hY => ?_) ?_
      · have hk := List.mem_range.mp hk
        simp_arith! only [hLb.tb.l]
        refine ⟨A, l, r, e', r9, k, rows.getD k [], rows, _, rfl, hLb.tb, ?_, ?_⟩
        · rw [List.getD_eq_getElem?_getD, List.getElem?_eq_getElem (by omega)]
          rfl
        · simp_arith! only []
          exact hX rfl
      rw [flt_t]
      have e5 : (List.range 2).map (fun k => D.int ((rows.getD k []).length : Nat)) = [D.int (ra.length : Nat), D.int (rb.length : Nat)] := by
        rw [hab]
        rfl
      rw [e5]
      try simp_arith! only []
      have e6 : intsOf [D.int (ra.length : Nat), D.int (rb.length : Nat)] = some [(ra.length : Int), (rb.length : Int)] := rfl
      have e7 : decide (([(ra.length : Int), (rb.length : Int)] : List Int).sum = (M.length : Int)) = true := by
        rw [hab] at htot
        have : ra.length + (rb.length + 0) = M.length := by simpa [tot] using htot
        rw [decide_eq_true_eq]
        simp
        omega
      (rw [x_Seq]; simp_arith! only [e6, e7])
      refine bY_mk (fun q => ?_) (fun q => ?_)
      rotate_left
      · try simp_arith! only []
        exact hNx _ _ ⟨⟨ms, hLb.tab, hLb.dr⟩, _, _, _, _, _, _, _, _, _, _, _, rfl⟩
      have q : M.length = 1 := by
        have := of_decide_eq_true q
        omega
      have hM1 : M = [m0] := by
        cases hM2 : M with
        | nil =>
          rw [hM2] at q
          cases q
        | cons y t =>
          rw [hM2] at q hup
          have ht0 : t = [] := List.length_eq_zero_iff.mp (by rw [List.length_cons] at q; omega)
          have hy : m0 = y := (List.cons.inj hup).1
          rw [ht0, hy]
      have hRs0 : rows = ([[], []] : List (List Nat)).set rh [x0.2.2] := by
        rw [← hRw, hM1]
        show backR m0 es [[], []] = _
        rw [backR_one hN.nodup hx0 hx1, hx2]
        congr 1
        match rh, hrh with
        | 0, _ => rfl
        | 1, _ => rfl
      have hRs : rows.set rh [] = [[], []] := by rw [hRs0, List.set_set, set2 hrh]
      have hrow : rows[rh]? = some ([] ++ [x0.2.2]) := by
        rw [hRs0, List.getElem?_set_self (by simpa using hrh)]
        rfl
      have hLc := hLb.add (k := rh) (a := x0.2.2) (row := []) (by omega) (hLa.tb.w x0 hx0) (by have := hLb.tb.z; have := List.length_filter_le (fun x : Ev => !decide (x.1 ∈ M)) es; unfold keepE; omega) (by simp)
      try simp_arith! only []
      (rw [x_Seq]; simp_arith! only [hLb.tb.l])
      refine ⟨A, l, r, e', r9, rh, x0.2.2, [], rows, keepE es M, rfl, hLb.tb, hrow, ?_⟩
      rw [hRs] at hLc ⊢
      generalize ((S6.set r (.lst (wsD [[], []]))).set e' (.lst (evD (keepE es M ++ [(r9, rh, x0.2.2)])))).set l (K5.tb c A r e' (r9 + 1)) = S7 at hLc ⊢
      have hsu : sub (lett es) M = [x0.2.2] := by
        rw [hM1]
        show [at0 (lett es) m0] = _
        rw [ha0]
      have hwd : lf A (lett (keepE es M ++ [(r9, rh, x0.2.2)])) = lf A (lett es) := by
        rw [lett_app]
        show lf A (lett (keepE es M) ++ [x0.2.2]) = _
        rw [← hsu]
        exact (lf_cong o hE).symm
      have hlt9 : ∀ x ∈ keepE es M, x.1 ≠ r9 := fun x hx => by
        rw [← hlen]
        exact keep_num_lt hN M x hx
      simp_arith! only [hLc.tb.l]
      refine ⟨A, l, r, e', r9 + 1, [[], []], _, rfl, hLc.tb, ?_⟩
      rw [hwd]
      try simp_arith! only []
      refine x_NeS (fl_tup _ _) ?_
      simp_arith! only [hLc.tb.l]
      refine ⟨A, l, r, e', r9 + 1, rh, [], [[], []], _, rfl, hLc.tb, ?_, ?_⟩
      · match rh, hrh with
        | 0, _ => rfl
        | 1, _ => rfl
      try simp_arith! only []
      refine x_NeS (fl_tup _ []) ?_
      try simp_arith! only []
      refine ⟨hLc.tab, .inl ?_⟩
      simp_arith! only [hLc.tb.l]
      refine ⟨A, l, r, e', r9 + 1, rh, r9, [[], []], _, rfl, hLc.tb, ?_, by simpa using hrh, nwst_snoc _ _ _ _, ?_, fun S8 e2 hU ht' => ?_⟩
      · intro x hx
        have h1 : x = [] := by simpa using hx
        subst h1
        have := hLc.tb.z
        have := List.length_filter_le (fun x : Ev => !decide (x.1 ∈ M)) es
        simp only [List.length_append, List.length_cons, List.length_nil]
        unfold keepE
        omega
      · rw [num_app]
        exact muL_last fun x hx => by
          obtain ⟨y, hy, rfl⟩ := List.mem_map.mp hx
          exact hlt9 y hy
      have hLd := hLc.und hU ht'
      rw [backE_last hlt9] at hLd
      simp_arith! only [hLd.tb.l]
      refine ⟨A, l, r, e2, r9 + 1, _, _, rfl, hLd.tb, ?_⟩
      try simp_arith! only []
      refine ⟨A, lett es, [m0], rfl, hw, by simp, ?_⟩
      rw [hoff]
      try simp_arith! only []
      refine x_NeS (fl_tup _ _) ?_
      try simp_arith! only []
      exact hNx _ _ ⟨⟨ms, hLd.tab, hLd.dr⟩, _, _, _, _, _, _, _, _, _, _, _, rfl⟩
  · rintro ρ S' ⟨⟨ms, htab, hdr, hd0⟩, s2, s3, s4, s5, s6, s7, s8, s9, s10, s11, s12, s13, s14, s15, s16, s17, s18, s19, s20, s21, s22, s23, rfl⟩
    simp_arith! only []
    exact hq S'
end K5

/-! printed by gen.py -/
namespace K5
open PySem PySem.Spec PyProof.Rows L2 Tk
def topS (i : Nat) : Stmt := PySem.Challenge.pw_tracetalk_k95_whole_words_of_many_hands.main.body.getD i (.Pass ⟨0, 0, 0, 0⟩)
structure Tx (P : Program) (w : World) (K : PySem.W.Frag) (mg : Str → Option Value) (base : Heap) (c : Ca) : Prop where
  b_any : mg "any" = none
  b_enumerate : mg "enumerate" = none
  b_int : mg "int" = none
  b_len : mg "len" = none
  b_list : mg "list" = none
  b_max : mg "max" = none
  b_range : mg "range" = none
  b_sorted : mg "sorted" = none
  b_sum : mg "sum" = none
  b_tuple : mg "tuple" = none
  c_MOST_HANDS : ∃ u, mg "MOST_HANDS" = some u ∧ RelV (.int (4)) u
  c_MOST_LETTERS : ∃ u, mg "MOST_LETTERS" = some u ∧ RelV (.int (6)) u
  c_MOST_PLACES : ∃ u, mg "MOST_PLACES" = some u ∧ RelV (.int (4)) u
  xg_NotReady : mg "NotReady" = some (.ref c.NotReady)
  xk_NotReady : PySem.W.keepIn K (.ref c.NotReady) = true
  xx_NotReady : PySem.W.excIn K c.NotReady [.type "ValueError", .type "Exception", .type "BaseException", .type "object"] "ValueError.__new__" = true
  xb_NotReady : PySem.W.subIn K (.ref c.NotReady) (.type "BaseException") = some true
  xt_NotReady : PySem.W.typeIn K (.ref c.NotReady) = some (.type "type")
  xe_NotReady : PySem.W.exmOne K (.ref c.NotReady) (.ref c.NotReady) = some true
  cls_Alphabet : Cls K c.Alphabet
  na_Alphabet_places : NoAttr K c.Alphabet "places"
  na_Alphabet_letters : NoAttr K c.Alphabet "letters"
  cls_Table : Cls K c.Table
  na_Table__alphabet : NoAttr K c.Table "_alphabet"
  na_Table__rows : NoAttr K c.Table "_rows"
  na_Table__events : NoAttr K c.Table "_events"
  na_Table__count : NoAttr K c.Table "_count"
theorem nd_Alphabet : k_Alphabet.Nodup := by decide +kernel
theorem nd_Table : k_Table.Nodup := by decide +kernel
abbrev s__law_told : Stmt := topS 48
theorem sc__law_told : FnScope ["call"] ["call"] (defScope s__law_told) := ⟨rfl, rfl, rfl, by decide +kernel, rfl, by decide +kernel, by decide +kernel⟩
structure ToldOk (K : PySem.W.Frag) (mg : Str → Option Value) (g : Addr) (fd : FuncData) : Prop where
  f : Fun K "_law_told" "_law_told" s__law_told g fd
  m : mg "_law_told" = some (.ref g)
theorem told_call {X : Cx} {c : Ca} {g : Addr} {fd : FuncData} {params : Arguments} {body : Expr} {scope : Scope} {lpos p pos : Pos} {k : Nat} {t : XK → TE} (TO : ToldOk X.K X.mg g fd) (T : Tx X.prog X.w X.K X.mg X.base c) (TB : LamX.TabB X.base X.mg c.LC c.LT) (hcode : X.env.code = .ref c.LC) (hq : X.env.qual ++ "<lambda>" = lamq)
    (hr : Room (k + 2) X.A) (L : LamX.LamS X.env.scope scope) (hdef : defaultsOf params X.env = ([], [])) (hbind : ∀ (q : Str) (cl : List (Str × Addr)) (pm cv ctv : Value), bindArgs (PySem.W.kla_fn "<lambda>" q params body scope cl pm cv ctv) ⟨[], []⟩ = pure [])
    (hb : ∀ (A : Around) (outer : List Env) (s : Shared) (H : Hp) (E : XK) (f cc : Addr), Room k (A.deeper (LamX.lamEnv X scope s.heap.objs.size f cc)) → PE (LamX.lamCx X A outer s H E scope f cc) body (t E)) (hg : Gl X "_law_told" := by rfl) :
    PE X (.Call (.Name "_law_told" p) [.Lambda params body scope lpos] [] pos) (LamX.tLam [(c.LT, lamq)] (TNone c.NotReady) t) := by
  have hbd := TO.f.binds (ps := ["call"]) fun _ _ _ _ _ _ us hl => match us, hl with | [_], _ => rfl
  obtain ⟨oc, od, kV, doc, pm, an, cdv, ct, osl, e, lk, hc⟩ := TO.f.1
  subst e
  exact LamX.pe_lamcall hg TO.m TO.f.2 lk hc hbd sc__law_told rfl (Or.inl rfl) (none_gives rfl T.xg_NotReady rfl (fun _ => rfl) T.xe_NotReady) TB hcode (by rw [hq]; simp) (fun p hp _ => by rw [hq, List.mem_singleton.mp hp]) hr L hdef hbind hb
section
variable {P : Program} {w : World} {K : PySem.W.Frag} {mg : Str → Option Value} {base : Heap} {c : Ca}
abbrev s_fits : Stmt := topS 8
abbrev n_fits : List Str := ["letter", "places", "k"]
theorem sc_fits : FnScope n_fits ["letter", "places"] (defScope s_fits) := ⟨rfl, rfl, rfl, by decide +kernel, rfl, by decide +kernel, by decide +kernel⟩
theorem der_fits (T : Tx P w K mg base c) {f : Addr} {cdv : Value} {A : Around} {outer : List Env} {s : Shared} {H : Hp} {E : XK} (hr : Room 0 (A.deeper (envOfC "fits" (defScope s_fits) s.heap.objs.size f cdv))) :
    JB (cxOf CX0 P w K mg base n_fits "fits" (defScope s_fits) f cdv A outer s H E).nox (defBody s_fits) (w_fits c) :=
  have nd := sc_fits.nd
  (b_cons (s_if (jt_cmp (o_eq hr.units) (j_cb c_len (by rfl) T.b_len (by decide +kernel) (ja_cons (jv 0) ja_nil)) j_int (nomark _)) (b_one (s_ret j_bl)) b_nil)
  (b_cons (s_for PassesOwn.never rfl (ji_r1 (by rfl) T.b_range (j_cb c_len (by rfl) T.b_len (by decide +kernel) (ja_cons (jv 0) ja_nil))) (jg_name (i := 2) nd rfl (Or.inl rfl)) (b_one (s_if (jt_w (jw_or (jt_cmp o_lt (j_ix o_ix (jv 0) (jv 2) (fun _ _ => rfl)) j_int (nomark _)) (jw_or (jt_cmp o_ge (j_ix o_ix (jv 0) (jv 2) (fun _ _ => rfl)) (jv 1) (nomark _)) (jw_or1 (jt_w (jw_and (jt_cmp o_gt (jv 2) j_int (nomark _)) (jw_and1 (jt_cmp o_le (j_ix o_ix (jv 0) (jv 2) (fun _ _ => rfl)) (j_ix o_ix (jv 0) (j_op o_sub (jv 2) j_int) (fun _ _ => rfl)) (nomark _))))))))) (b_one (s_ret j_bl)) b_nil)))
  (b_one (s_ret j_bl))))
abbrev s_independent : Stmt := topS 10
abbrev n_independent : List Str := ["alphabet", "first", "second", "place"]
theorem sc_independent : FnScope n_independent ["alphabet", "first", "second"] (defScope s_independent) := ⟨rfl, rfl, rfl, by decide +kernel, rfl, by decide +kernel, by decide +kernel⟩
theorem der_independent (T : Tx P w K mg base c) {f : Addr} {cdv : Value} {A : Around} {outer : List Env} {s : Shared} {H : Hp} {E : XK} (hr : Room 0 (A.deeper (envOfC "independent" (defScope s_independent) s.heap.objs.size f cdv))) :
    JB (cxOf CX0 P w K mg base n_independent "independent" (defScope s_independent) f cdv A outer s H E).nox (defBody s_independent) (w_independent c) :=
  have nd := sc_independent.nd
  (b_cons (s_for PassesOwn.never rfl (ji_seq (j_ix o_ix (j_fld T.cls_Alphabet T.na_Alphabet_letters nd_Alphabet rfl (jv 0)) (jv 1) (fun _ _ => rfl))) (jg_name (i := 3) nd rfl (Or.inl rfl)) (b_one (s_if (jt_cmp o_in (jv 3) (j_ix o_ix (j_fld T.cls_Alphabet T.na_Alphabet_letters nd_Alphabet rfl (jv 0)) (jv 2) (fun _ _ => rfl)) (by rfl)) (b_one (s_ret j_bl)) b_nil)))
  (b_one (s_ret j_bl)))
abbrev s_next_barred : Stmt := topS 15
abbrev n_next_barred : List Str := ["dependent", "barred", "letter", "lesser"]
theorem sc_next_barred : FnScope n_next_barred ["dependent", "barred", "letter"] (defScope s_next_barred) := ⟨rfl, rfl, rfl, by decide +kernel, rfl, by decide +kernel, by decide +kernel⟩
theorem der_next_barred (T : Tx P w K mg base c) {f : Addr} {cdv : Value} {A : Around} {outer : List Env} {s : Shared} {H : Hp} {E : XK} (hr : Room 0 (A.deeper (envOfC "next_barred" (defScope s_next_barred) s.heap.objs.size f cdv))) :
    JB (cxOf CX0 P w K mg base n_next_barred "next_barred" (defScope s_next_barred) f cdv A outer s H E).nox (defBody s_next_barred) (w_next_barred c) :=
  have nd := sc_next_barred.nd
  (b_cons (s_set (i := 3) nd rfl (Or.inl rfl) (j_op o_sub (j_op o_shl j_int (jv 2)) j_int))
  (b_one (s_ret (j_op o_and (j_op o_or (jv 1) (jv 3)) (j_un o_inv (j_ix o_ix (jv 0) (jv 2) (fun _ _ => rfl)))))))
abbrev s_Table_init : Stmt := inClass (topS 19) 0
abbrev n_Table_init : List Str := ["self", "alphabet", "hands", "_"]
theorem sc_Table_init : FnScope n_Table_init ["self", "alphabet", "hands"] (defScope s_Table_init) := ⟨rfl, rfl, rfl, by decide +kernel, rfl, by decide +kernel, by decide +kernel⟩
theorem der_Table_init (T : Tx P w K mg base c) {f : Addr} {cdv : Value} {A : Around} {outer : List Env} {s : Shared} {H : Hp} {E : XK} (hr : Room 0 (A.deeper (envOfC "Table.__init__" (defScope s_Table_init) s.heap.objs.size f cdv))) :
    JB (cxOf CX0 P w K mg base n_Table_init "Table.__init__" (defScope s_Table_init) f cdv A outer s H E).nox (defBody s_Table_init) (w_Table_init c) :=
  have nd := sc_Table_init.nd
  (b_cons (s_if (jt_not (jt_chain o_le o_le j_int (jv 2) (j_gintE (by rfl) T.c_MOST_HANDS))) (b_one s_never) b_nil)
  (b_cons (s_fldNew (ks := k_Table.take 0) T.cls_Table T.na_Table__alphabet (by decide) (by decide) (jv 0) (jv 1))
  (b_cons (s_fldNew (ks := k_Table.take 1) T.cls_Table T.na_Table__rows (by decide) (by decide) (jv 0) (j_cl (f_lc [(("_" : Str), 3)] rfl rfl nd (ji_r1 (by rfl) T.b_range (jv 2)) (blkOk_by (N := n_Table_init) (sc := defScope s_Table_init) (by decide +kernel)) (fun _ _ _ _ _ => (tg_name (pg_name (i := 3) nd rfl (Or.inl rfl)))) (by decide) (fun _ _ _ _ _ => jts_nil) (fun _ _ _ _ _ => (j_tup ja_nil)))))
  (b_cons (s_fldNew (ks := k_Table.take 2) T.cls_Table T.na_Table__events (by decide) (by decide) (jv 0) (j_cl (f_lst ja_nil)))
  (b_one (s_fldNew (ks := k_Table.take 3) T.cls_Table T.na_Table__count (by decide) (by decide) (jv 0) j_int))))))
abbrev s_Table__check : Stmt := inClass (topS 19) 1
abbrev n_Table__check : List Str := ["self", "hand"]
theorem sc_Table__check : FnScope n_Table__check ["self", "hand"] (defScope s_Table__check) := ⟨rfl, rfl, rfl, by decide +kernel, rfl, by decide +kernel, by decide +kernel⟩
theorem der_Table__check (T : Tx P w K mg base c) {f : Addr} {cdv : Value} {A : Around} {outer : List Env} {s : Shared} {H : Hp} {E : XK} (hr : Room 0 (A.deeper (envOfC "Table._check" (defScope s_Table__check) s.heap.objs.size f cdv))) :
    JB (cxOf CX0 P w K mg base n_Table__check "Table._check" (defScope s_Table__check) f cdv A outer s H E).nox (defBody s_Table__check) (w_Table__check c) :=
  have nd := sc_Table__check.nd
  (b_one (s_if (jt_not (jt_chain o_le o_lt j_int (jv 1) (j_cb c_len (by rfl) T.b_len (by decide +kernel) (ja_cons (j_fld T.cls_Table T.na_Table__rows nd_Table rfl (jv 0)) ja_nil)))) (b_one s_never) b_nil))
abbrev s_Table__add : Stmt := inClass (topS 19) 2
abbrev n_Table__add : List Str := ["self", "hand", "letter"]
theorem sc_Table__add : FnScope n_Table__add ["self", "hand", "letter"] (defScope s_Table__add) := ⟨rfl, rfl, rfl, by decide +kernel, rfl, by decide +kernel, by decide +kernel⟩
theorem der_Table__add (T : Tx P w K mg base c) {f : Addr} {cdv : Value} {A : Around} {outer : List Env} {s : Shared} {H : Hp} {E : XK} (hr : Room 0 (A.deeper (envOfC "Table._add" (defScope s_Table__add) s.heap.objs.size f cdv))) :
    JB (cxOf CX0 P w K mg base n_Table__add "Table._add" (defScope s_Table__add) f cdv A outer s H E).nox (defBody s_Table__add) (w_Table__add c) :=
  have nd := sc_Table__add.nd
  (b_cons (s_expr (j_m PySem.F.slot_list_append PySem.F.type_list_append m_append (j_fld T.cls_Table T.na_Table__events nd_Table rfl (jv 0)) (ja_cons (j_tup (ja_cons (j_fld T.cls_Table T.na_Table__count nd_Table rfl (jv 0)) (ja_cons (jv 1) (ja_cons (jv 2) ja_nil)))) ja_nil)))
  (b_cons (s_fldAug T.cls_Table T.na_Table__count nd_Table rfl (by decide) (jv 0) j_int)
  (b_one (s_ret (j_op o_sub (j_fld T.cls_Table T.na_Table__count nd_Table rfl (jv 0)) j_int)))))
abbrev s_Table__newest : Stmt := inClass (topS 19) 4
abbrev n_Table__newest : List Str := ["self", "hand", "numbers", "number", "other", "_"]
theorem sc_Table__newest : FnScope n_Table__newest ["self", "hand"] (defScope s_Table__newest) := ⟨rfl, rfl, rfl, by decide +kernel, rfl, by decide +kernel, by decide +kernel⟩
theorem derx_Table__newest (T : Tx P w K mg base c) {f : Addr} {cdv : Value} {A : Around} {outer : List Env} {s : Shared} {H : Hp} {E : XK} (hr : Room 0 (A.deeper (envOfC "Table._newest" (defScope s_Table__newest) s.heap.objs.size f cdv))) :
    PSs (cxOf (CX P w) P w K mg base n_Table__newest "Table._newest" (defScope s_Table__newest) f cdv A outer s H E) (defBody s_Table__newest) (tXS K c.NotReady (wx_Table__newest c) E) :=
  have nd := sc_Table__newest.nd
  (bx_cons (s_lcF (i := 2) [(("number" : Str), 3), (("other" : Str), 4), (("_" : Str), 5)] rfl rfl nd rfl rfl (sw_true rfl rfl rfl (by decide +kernel)) (ji_seq (j_fld T.cls_Table T.na_Table__events nd_Table rfl (jv 0))) (blkOk_by (N := n_Table__newest) (sc := defScope s_Table__newest) (by decide +kernel)) (fun _ _ _ _ _ => (tg_tup rfl (pgs_cons (pg_name (i := 3) nd rfl (Or.inl rfl)) (pgs_cons (pg_name (i := 4) nd rfl (Or.inl rfl)) (pgs_cons (pg_name (i := 5) nd rfl (Or.inl rfl)) pgs_nil))))) (by decide) (fun _ _ _ _ _ => (jts_one (jt_cmp (o_eq hr.units) (jv 4) (jv 1) (nomark _)))) (fun _ _ _ _ _ => (jv 3))) (bx_if (jt_not (jt_truth (jv 2))) (pss_one (ps_raise rfl (takes_of rfl rfl rfl rfl) (pmk_own PySem.F.excBase_ValueError T.xx_NotReady T.xg_NotReady T.xk_NotReady (raises_own T.xb_NotReady T.xt_NotReady) (by rfl)))) b_nil pss_never))
theorem der_Table__newest (T : Tx P w K mg base c) {f : Addr} {cdv : Value} {A : Around} {outer : List Env} {s : Shared} {H : Hp} {E : XK} (hr : Room 0 (A.deeper (envOfC "Table._newest" (defScope s_Table__newest) s.heap.objs.size f cdv))) :
    JB (cxOf CX0 P w K mg base n_Table__newest "Table._newest" (defScope s_Table__newest) f cdv A outer s H E).nox (defBody s_Table__newest) (w_Table__newest c) :=
  have nd := sc_Table__newest.nd
  (b_cons (s_lcF (i := 2) [(("number" : Str), 3), (("other" : Str), 4), (("_" : Str), 5)] rfl rfl nd rfl rfl (sw_true rfl rfl rfl (by decide +kernel)) (ji_seq (j_fld T.cls_Table T.na_Table__events nd_Table rfl (jv 0))) (blkOk_by (N := n_Table__newest) (sc := defScope s_Table__newest) (by decide +kernel)) (fun _ _ _ _ _ => (tg_tup rfl (pgs_cons (pg_name (i := 3) nd rfl (Or.inl rfl)) (pgs_cons (pg_name (i := 4) nd rfl (Or.inl rfl)) (pgs_cons (pg_name (i := 5) nd rfl (Or.inl rfl)) pgs_nil))))) (by decide) (fun _ _ _ _ _ => (jts_one (jt_cmp (o_eq hr.units) (jv 4) (jv 1) (nomark _)))) (fun _ _ _ _ _ => (jv 3)))
  (b_cons (s_if (jt_not (jt_truth (jv 2))) (b_one s_never) b_nil)
  (b_one (s_ret (j_ix o_ix (jv 2) (j_un o_neg j_int) (fun _ _ => rfl))))))
abbrev s_Table__take_back : Stmt := inClass (topS 19) 5
abbrev n_Table__take_back : List Str := ["self", "number", "other", "hand", "letter", "event"]
theorem sc_Table__take_back : FnScope n_Table__take_back ["self", "number"] (defScope s_Table__take_back) := ⟨rfl, rfl, rfl, by decide +kernel, rfl, by decide +kernel, by decide +kernel⟩
theorem der_Table__take_back (T : Tx P w K mg base c) {f : Addr} {cdv : Value} {A : Around} {outer : List Env} {s : Shared} {H : Hp} {E : XK} (hr : Room 0 (A.deeper (envOfC "Table._take_back" (defScope s_Table__take_back) s.heap.objs.size f cdv))) :
    JB (cxOf CX0 P w K mg base n_Table__take_back "Table._take_back" (defScope s_Table__take_back) f cdv A outer s H E).nox (defBody s_Table__take_back) (w_Table__take_back c) :=
  have nd := sc_Table__take_back.nd
  (b_cons (s_for PassesOwn.never rfl (ji_seq (j_fld T.cls_Table T.na_Table__events nd_Table rfl (jv 0))) (jg_tup rfl (jgs_cons (jg_name (i := 2) nd rfl (Or.inl rfl)) (jgs_cons (jg_name (i := 3) nd rfl (Or.inl rfl)) (jgs_cons (jg_name (i := 4) nd rfl (Or.inl rfl)) jgs_nil)))) (b_one (s_if (jt_cmp (o_eq hr.units) (jv 2) (jv 1) (nomark _)) (b_one (s_asg (j_op o_add (j_ix o_ix (j_fld T.cls_Table T.na_Table__rows nd_Table rfl (jv 0)) (jv 3) (fun _ _ => rfl)) (j_tup (ja_cons (jv 4) ja_nil))) (jg_ix (j_fld T.cls_Table T.na_Table__rows nd_Table rfl (jv 0)) (jv 3)))) b_nil)))
  (b_one (s_fldSet T.cls_Table T.na_Table__events nd_Table rfl (by decide) (jv 0) (j_cl (f_lc [(("event" : Str), 5)] rfl rfl nd (ji_seq (j_fld T.cls_Table T.na_Table__events nd_Table rfl (jv 0))) (blkOk_by (N := n_Table__take_back) (sc := defScope s_Table__take_back) (by decide +kernel)) (fun _ _ _ _ _ => (tg_name (pg_name (i := 5) nd rfl (Or.inl rfl)))) (by decide) (fun _ _ _ _ _ => (jts_one (jt_cmp (o_ne hr.units) (j_ix o_ix (jv 5) j_int (fun _ _ => rfl)) (jv 1) (nomark _)))) (fun _ _ _ _ _ => (jv 5)))))))
abbrev s_Table_events : Stmt := inClass (topS 19) 11
abbrev n_Table_events : List Str := ["self"]
theorem sc_Table_events : FnScope n_Table_events ["self"] (defScope s_Table_events) := ⟨rfl, rfl, rfl, by decide +kernel, rfl, by decide +kernel, by decide +kernel⟩
theorem der_Table_events (T : Tx P w K mg base c) {f : Addr} {cdv : Value} {A : Around} {outer : List Env} {s : Shared} {H : Hp} {E : XK} (hr : Room 0 (A.deeper (envOfC "Table.events" (defScope s_Table_events) s.heap.objs.size f cdv))) :
    JB (cxOf CX0 P w K mg base n_Table_events "Table.events" (defScope s_Table_events) f cdv A outer s H E).nox (defBody s_Table_events) (w_Table_events c) :=
  have nd := sc_Table_events.nd
  (b_one (s_ret (j_fz (f_ct c_list (by rfl) T.b_list (by decide +kernel) (ja_cons (j_fld T.cls_Table T.na_Table__events nd_Table rfl (jv 0)) ja_nil)))))
abbrev s_without_prefixes : Stmt := topS 25
abbrev n_without_prefixes : List Str := ["word", "position"]
theorem sc_without_prefixes : FnScope n_without_prefixes ["word", "position"] (defScope s_without_prefixes) := ⟨rfl, rfl, rfl, by decide +kernel, rfl, by decide +kernel, by decide +kernel⟩
theorem der_without_prefixes (T : Tx P w K mg base c) {f : Addr} {cdv : Value} {A : Around} {outer : List Env} {s : Shared} {H : Hp} {E : XK} (hr : Room 0 (A.deeper (envOfC "without" (defScope s_without_prefixes) s.heap.objs.size f cdv))) :
    JB (cxOf CX0 P w K mg base n_without_prefixes "without" (defScope s_without_prefixes) f cdv A outer s H E).nox (defBody s_without_prefixes) (w_without_prefixes c) :=
  have nd := sc_without_prefixes.nd
  (b_one (s_ret (j_op o_add (j_ct c_tuple (by rfl) T.b_tuple (by decide +kernel) (ja_cons (j_slT (jv 0) jo_none (jo_some (jv 1))) ja_nil)) (j_ct c_tuple (by rfl) T.b_tuple (by decide +kernel) (ja_cons (j_slT (jv 0) (jo_some (j_op o_add (jv 1) j_int)) jo_none) ja_nil)))))
abbrev s_place_word : Stmt := topS 39
abbrev n_place_word : List Str := ["alphabet", "word", "place", "letter"]
theorem sc_place_word : FnScope n_place_word ["alphabet", "word", "place"] (defScope s_place_word) := ⟨rfl, rfl, rfl, by decide +kernel, rfl, by decide +kernel, by decide +kernel⟩
theorem der_place_word (T : Tx P w K mg base c) {f : Addr} {cdv : Value} {A : Around} {outer : List Env} {s : Shared} {H : Hp} {E : XK} (hr : Room 0 (A.deeper (envOfC "place_word" (defScope s_place_word) s.heap.objs.size f cdv))) :
    JB (cxOf CX0 P w K mg base n_place_word "place_word" (defScope s_place_word) f cdv A outer s H E).nox (defBody s_place_word) (w_place_word c) :=
  have nd := sc_place_word.nd
  (b_one (s_ret (j_ct c_tuple (by rfl) T.b_tuple (by decide +kernel) (ja_cons (j_fz (f_lc [(("letter" : Str), 3)] rfl rfl nd (ji_seq (jv 1)) (blkOk_by (N := n_place_word) (sc := defScope s_place_word) (by decide +kernel)) (fun _ _ _ _ _ => (tg_name (pg_name (i := 3) nd rfl (Or.inl rfl)))) (by decide) (fun _ _ _ _ _ => (jts_one (jt_cmp o_in (jv 2) (j_ix o_ix (j_fld T.cls_Alphabet T.na_Alphabet_letters nd_Alphabet rfl (jv 0)) (jv 3) (fun _ _ => rfl)) (by rfl)))) (fun _ _ _ _ _ => (jv 3)))) ja_nil))))
abbrev s__law_draws : Stmt := topS 42
abbrev n__law_draws : List Str := ["script", "count", "cells", "found", "mixed", "k", "j", "cell", "again"]
theorem sc__law_draws : FnScope n__law_draws ["script", "count"] (defScope s__law_draws) := ⟨rfl, rfl, rfl, by decide +kernel, rfl, by decide +kernel, by decide +kernel⟩
theorem der__law_draws (T : Tx P w K mg base c) {f : Addr} {cdv : Value} {A : Around} {outer : List Env} {s : Shared} {H : Hp} {E : XK} (hr : Room 0 (A.deeper (envOfC "_law_draws" (defScope s__law_draws) s.heap.objs.size f cdv))) :
    JB (cxOf CX0 P w K mg base n__law_draws "_law_draws" (defScope s__law_draws) f cdv A outer s H E).nox (defBody s__law_draws) (w__law_draws c) :=
  have nd := sc__law_draws.nd
  (b_cons (s_set (i := 2) nd rfl (Or.inl rfl) (j_cl (f_ct c_list (by rfl) T.b_list (by decide +kernel) (ja_cons (jv 0) ja_nil))))
  (b_cons (s_if (jt_cmp (o_eq hr.units) (j_cb c_len (by rfl) T.b_len (by decide +kernel) (ja_cons (jv 2) ja_nil)) j_int (nomark _)) (b_one (s_set (i := 2) nd rfl (Or.inl rfl) (j_cl (f_lst (ja_cons j_int ja_nil))))) b_nil)
  (b_cons (s_set (i := 3) nd rfl (Or.inl rfl) (j_cl (f_lst ja_nil)))
  (b_cons (s_set (i := 4) nd rfl (Or.inl rfl) j_int)
  (b_cons (s_for PassesOwn.never rfl (ji_r1 (by rfl) T.b_range (jv 1)) (jg_name (i := 5) nd rfl (Or.inl rfl)) (b_cons (s_set (i := 6) nd rfl (Or.inl rfl) (j_op o_mod (jv 5) (j_cb c_len (by rfl) T.b_len (by decide +kernel) (ja_cons (jv 2) ja_nil))))
  (b_cons (s_set (i := 7) nd rfl (Or.inl rfl) (j_ix o_ix (jv 2) (jv 6) (fun _ _ => rfl)))
  (b_cons (s_set (i := 4) nd rfl (Or.inl rfl) (j_op o_mod (j_ct c_int (by rfl) T.b_int (by decide +kernel) (ja_cons (j_op o_add (j_op o_add (j_op o_add (j_op o_mulI (jv 4) j_int) (j_op o_mulI (j_op o_mod (j_ct c_int (by rfl) T.b_int (by decide +kernel) (ja_cons (jv 7) ja_nil)) j_int) j_int)) (j_op o_mulI (jv 5) j_int)) j_int) ja_nil)) j_int))
  (b_cons (s_set (i := 8) nd rfl (Or.inl rfl) (j_op o_mod (j_ct c_int (by rfl) T.b_int (by decide +kernel) (ja_cons (j_op o_add (j_op o_add (j_op o_mulI (jv 4) (jv 4)) (j_op o_mulI j_int (jv 4))) (jv 5)) ja_nil)) j_int))
  (b_one (s_if (jt_cmp o_ge (jv 7) (j_op o_pow j_int j_int) (nomark _)) (b_cons (s_expr (j_m PySem.F.slot_list_append PySem.F.type_list_append m_append (jv 3) (ja_cons (j_op o_mod (j_ct c_int (by rfl) T.b_int (by decide +kernel) (ja_cons (jv 7) ja_nil)) j_int) ja_nil)))
  (b_one (s_asg (j_op o_div (jv 7) j_int) (jg_ix (jv 2) (jv 6))))) (b_one (s_expr (j_m PySem.F.slot_list_append PySem.F.type_list_append m_append (jv 3) (ja_cons (j_op o_mod (j_ct c_int (by rfl) T.b_int (by decide +kernel) (ja_cons (jv 8) ja_nil)) j_int) ja_nil)))))))))))
  (b_cons (s_expr (j_m0 PySem.F.slot_list_reverse PySem.F.type_list_reverse m_reverse (jv 3)))
  (b_one (s_ret (jv 3)))))))))
abbrev s__law_take : Stmt := topS 43
abbrev n__law_take : List Str := ["draws", "limit"]
theorem sc__law_take : FnScope n__law_take ["draws", "limit"] (defScope s__law_take) := ⟨rfl, rfl, rfl, by decide +kernel, rfl, by decide +kernel, by decide +kernel⟩
theorem der__law_take (T : Tx P w K mg base c) {f : Addr} {cdv : Value} {A : Around} {outer : List Env} {s : Shared} {H : Hp} {E : XK} (hr : Room 0 (A.deeper (envOfC "_law_take" (defScope s__law_take) s.heap.objs.size f cdv))) :
    JB (cxOf CX0 P w K mg base n__law_take "_law_take" (defScope s__law_take) f cdv A outer s H E).nox (defBody s__law_take) (w__law_take c) :=
  have nd := sc__law_take.nd
  (b_cons (s_if (jt_cmp (o_eq hr.units) (j_cb c_len (by rfl) T.b_len (by decide +kernel) (ja_cons (jv 0) ja_nil)) j_int (nomark _)) (b_one (s_ret j_int)) b_nil)
  (b_one (s_ret (j_op o_mod (j_ct c_int (by rfl) T.b_int (by decide +kernel) (ja_cons (j_m0 PySem.F.slot_list_pop PySem.F.type_list_pop m_pop (jv 0)) ja_nil)) (jv 1)))))
abbrev s__law_meet : Stmt := topS 46
abbrev n__law_meet : List Str := ["letters", "a", "b", "place"]
theorem sc__law_meet : FnScope n__law_meet ["letters", "a", "b"] (defScope s__law_meet) := ⟨rfl, rfl, rfl, by decide +kernel, rfl, by decide +kernel, by decide +kernel⟩
theorem der__law_meet (T : Tx P w K mg base c) {f : Addr} {cdv : Value} {A : Around} {outer : List Env} {s : Shared} {H : Hp} {E : XK} (hr : Room 0 (A.deeper (envOfC "_law_meet" (defScope s__law_meet) s.heap.objs.size f cdv))) :
    JB (cxOf CX0 P w K mg base n__law_meet "_law_meet" (defScope s__law_meet) f cdv A outer s H E).nox (defBody s__law_meet) (w__law_meet c) :=
  have nd := sc__law_meet.nd
  (b_one (s_ret (j_cmp o_gt (j_cb c_len (by rfl) T.b_len (by decide +kernel) (ja_cons (j_fz (f_lc [(("place" : Str), 3)] rfl rfl nd (ji_seq (j_ix o_ix (jv 0) (jv 1) (fun _ _ => rfl))) (blkOk_by (N := n__law_meet) (sc := defScope s__law_meet) (by decide +kernel)) (fun _ _ _ _ _ => (tg_name (pg_name (i := 3) nd rfl (Or.inl rfl)))) (by decide) (fun _ _ _ _ _ => (jts_one (jt_cmp o_in (jv 3) (j_ix o_ix (jv 0) (jv 2) (fun _ _ => rfl)) (by rfl)))) (fun _ _ _ _ _ => j_int))) ja_nil)) j_int (nomark _))))
abbrev s_Alphabet_init : Stmt := inClass (topS 9) 0
abbrev n_Alphabet_init : List Str := ["self", "places", "letters", "valid", "letter"]
theorem sc_Alphabet_init : FnScope n_Alphabet_init ["self", "places", "letters"] (defScope s_Alphabet_init) := ⟨rfl, rfl, rfl, by decide +kernel, rfl, by decide +kernel, by decide +kernel⟩
theorem der_Alphabet_init (T : Tx P w K mg base c) (D_fits : DefOk P w K mg base 1 "fits" 2 (P_fits c)) {f : Addr} {cdv : Value} {A : Around} {outer : List Env} {s : Shared} {H : Hp} {E : XK} (hr : Room 1 (A.deeper (envOfC "Alphabet.__init__" (defScope s_Alphabet_init) s.heap.objs.size f cdv))) :
    JB (cxOf CX0 P w K mg base n_Alphabet_init "Alphabet.__init__" (defScope s_Alphabet_init) f cdv A outer s H E).nox (defBody s_Alphabet_init) (w_Alphabet_init c) :=
  have nd := sc_Alphabet_init.nd
  (b_cons (s_set (i := 3) nd rfl (Or.inl rfl) (j_and (j_chain o_le o_le j_int (jv 1) (j_gintE (by rfl) T.c_MOST_PLACES)) (j_one (j_chain o_le o_le j_int (j_cb c_len (by rfl) T.b_len (by decide +kernel) (ja_cons (jv 2) ja_nil)) (j_gintE (by rfl) T.c_MOST_LETTERS)))))
  (b_cons (s_for PassesOwn.never rfl (ji_seq (jv 2)) (jg_name (i := 4) nd rfl (Or.inl rfl)) (b_one (s_set (i := 3) nd rfl (Or.inl rfl) (j_and (jv 3) (j_one (j_call D_fits hr (by rfl) (ja_cons (jv 4) (ja_cons (jv 1) ja_nil))))))))
  (b_cons (s_if (jt_not (jt_val (jv 3))) (b_one s_never) b_nil)
  (b_cons (s_fldNew (ks := k_Alphabet.take 0) T.cls_Alphabet T.na_Alphabet_places (by decide) (by decide) (jv 0) (jv 1))
  (b_one (s_fldNew (ks := k_Alphabet.take 1) T.cls_Alphabet T.na_Alphabet_letters (by decide) (by decide) (jv 0) (j_ct c_tuple (by rfl) T.b_tuple (by decide +kernel) (ja_cons (j_fz (f_lc [(("letter" : Str), 4)] rfl rfl nd (ji_seq (jv 2)) (blkOk_by (N := n_Alphabet_init) (sc := defScope s_Alphabet_init) (by decide +kernel)) (fun _ _ _ _ _ => (tg_name (pg_name (i := 4) nd rfl (Or.inl rfl)))) (by decide) (fun _ _ _ _ _ => jts_nil) (fun _ _ _ _ _ => (j_ct c_tuple (by rfl) T.b_tuple (by decide +kernel) (ja_cons (jv 4) ja_nil))))) ja_nil))))))))
abbrev s_masks : Stmt := topS 11
abbrev n_masks : List Str := ["alphabet", "found", "first", "mask", "second"]
theorem sc_masks : FnScope n_masks ["alphabet"] (defScope s_masks) := ⟨rfl, rfl, rfl, by decide +kernel, rfl, by decide +kernel, by decide +kernel⟩
theorem der_masks (T : Tx P w K mg base c) (D_independent : DefOk P w K mg base 1 "independent" 3 (P_independent c)) {f : Addr} {cdv : Value} {A : Around} {outer : List Env} {s : Shared} {H : Hp} {E : XK} (hr : Room 1 (A.deeper (envOfC "masks" (defScope s_masks) s.heap.objs.size f cdv))) :
    JB (cxOf CX0 P w K mg base n_masks "masks" (defScope s_masks) f cdv A outer s H E).nox (defBody s_masks) (w_masks c) :=
  have nd := sc_masks.nd
  (b_cons (s_set (i := 1) nd rfl (Or.inl rfl) (j_cl (f_lst ja_nil)))
  (b_cons (s_for PassesOwn.never rfl (ji_r1 (by rfl) T.b_range (j_cb c_len (by rfl) T.b_len (by decide +kernel) (ja_cons (j_fld T.cls_Alphabet T.na_Alphabet_letters nd_Alphabet rfl (jv 0)) ja_nil))) (jg_name (i := 2) nd rfl (Or.inl rfl)) (b_cons (s_set (i := 3) nd rfl (Or.inl rfl) j_int)
  (b_cons (s_for PassesOwn.never rfl (ji_r1 (by rfl) T.b_range (j_cb c_len (by rfl) T.b_len (by decide +kernel) (ja_cons (j_fld T.cls_Alphabet T.na_Alphabet_letters nd_Alphabet rfl (jv 0)) ja_nil))) (jg_name (i := 4) nd rfl (Or.inl rfl)) (b_one (s_if (jt_not (jt_val (j_call D_independent hr (by rfl) (ja_cons (jv 0) (ja_cons (jv 2) (ja_cons (jv 4) ja_nil)))))) (b_one (s_set (i := 3) nd rfl (Or.inl rfl) (j_op o_or (jv 3) (j_op o_shl j_int (jv 4))))) b_nil)))
  (b_one (s_expr (j_m PySem.F.slot_list_append PySem.F.type_list_append m_append (jv 1) (ja_cons (jv 3) ja_nil)))))))
  (b_one (s_ret (j_frz (jv 1))))))
abbrev s_Table__resting : Stmt := inClass (topS 19) 3
abbrev n_Table__resting : List Str := ["self", "number", "found", "letters", "other", "_", "letter", "one"]
theorem sc_Table__resting : FnScope n_Table__resting ["self", "number"] (defScope s_Table__resting) := ⟨rfl, rfl, rfl, by decide +kernel, rfl, by decide +kernel, by decide +kernel⟩
theorem der_Table__resting (T : Tx P w K mg base c) (D_independent : DefOk P w K mg base 1 "independent" 3 (P_independent c)) {f : Addr} {cdv : Value} {A : Around} {outer : List Env} {s : Shared} {H : Hp} {E : XK} (hr : Room 1 (A.deeper (envOfC "Table._resting" (defScope s_Table__resting) s.heap.objs.size f cdv))) :
    JB (cxOf CX0 P w K mg base n_Table__resting "Table._resting" (defScope s_Table__resting) f cdv A outer s H E).nox (defBody s_Table__resting) (w_Table__resting c) :=
  have nd := sc_Table__resting.nd
  (b_cons (s_set (i := 2) nd rfl (Or.inl rfl) (j_cl (f_lst ja_nil)))
  (b_cons (s_set (i := 3) nd rfl (Or.inl rfl) (j_cl (f_lst ja_nil)))
  (b_cons (s_for PassesOwn.never rfl (ji_seq (j_fld T.cls_Table T.na_Table__events nd_Table rfl (jv 0))) (jg_tup rfl (jgs_cons (jg_name (i := 4) nd rfl (Or.inl rfl)) (jgs_cons (jg_name (i := 5) nd rfl (Or.inl rfl)) (jgs_cons (jg_name (i := 6) nd rfl (Or.inr rfl)) jgs_nil)))) (b_one (s_if (jt_w (jw_or (jt_cmp (o_eq hr.units) (jv 4) (jv 1) (nomark _)) (jw_or1 (jt_val (j_cb (c_any rfl) (by rfl) T.b_any (by decide +kernel) (ja_cons (j_fz (f_lc [(("one" : Str), 7)] rfl rfl nd (ji_seq (jv 3)) (blkOk_by (N := n_Table__resting) (sc := defScope s_Table__resting) (by decide +kernel)) (fun _ _ _ _ _ => (tg_name (pg_name (i := 7) nd rfl (Or.inl rfl)))) (by decide) (fun _ _ _ _ _ => jts_nil) (fun _ _ _ _ _ => (j_not (j_call D_independent hr (by rfl) (ja_cons (j_fld T.cls_Table T.na_Table__alphabet nd_Table rfl (jv 0)) (ja_cons (jv 7) (ja_cons (jv 6) ja_nil)))))))) ja_nil)))))) (b_cons (s_expr (j_m PySem.F.slot_list_append PySem.F.type_list_append m_append (jv 2) (ja_cons (jv 4) ja_nil)))
  (b_one (s_expr (j_m PySem.F.slot_list_append PySem.F.type_list_append m_append (jv 3) (ja_cons (jv 6) ja_nil))))) b_nil)))
  (b_one (s_ret (j_frz (jv 2)))))))
abbrev s_Table_do : Stmt := inClass (topS 19) 6
abbrev n_Table_do : List Str := ["self", "hand", "letter"]
theorem sc_Table_do : FnScope n_Table_do ["self", "hand", "letter"] (defScope s_Table_do) := ⟨rfl, rfl, rfl, by decide +kernel, rfl, by decide +kernel, by decide +kernel⟩
theorem der_Table_do (T : Tx P w K mg base c) (D_Table__add : MethOk P w K mg base 1 c.Table "_add" 3 (P_Table__add c)) (D_Table__check : MethOk P w K mg base 1 c.Table "_check" 2 (P_Table__check c)) {f : Addr} {cdv : Value} {A : Around} {outer : List Env} {s : Shared} {H : Hp} {E : XK} (hr : Room 1 (A.deeper (envOfC "Table.do" (defScope s_Table_do) s.heap.objs.size f cdv))) :
    JB (cxOf CX0 P w K mg base n_Table_do "Table.do" (defScope s_Table_do) f cdv A outer s H E).nox (defBody s_Table_do) (w_Table_do c) :=
  have nd := sc_Table_do.nd
  (b_cons (s_expr (j_meth (ks := k_Table) D_Table__check T.cls_Table hr (by decide) (jv 0) (ja_cons (jv 1) ja_nil)))
  (b_cons (s_asg (j_tup ja_nil) (jg_ix (j_fld T.cls_Table T.na_Table__rows nd_Table rfl (jv 0)) (jv 1)))
  (b_one (s_ret (j_meth (ks := k_Table) D_Table__add T.cls_Table hr (by decide) (jv 0) (ja_cons (jv 1) (ja_cons (jv 2) ja_nil)))))))
abbrev s_Table_do_again : Stmt := inClass (topS 19) 9
abbrev n_Table_do_again : List Str := ["self", "hand", "letter"]
theorem sc_Table_do_again : FnScope n_Table_do_again ["self", "hand"] (defScope s_Table_do_again) := ⟨rfl, rfl, rfl, by decide +kernel, rfl, by decide +kernel, by decide +kernel⟩
theorem der_Table_do_again (T : Tx P w K mg base c) (D_Table__add : MethOk P w K mg base 1 c.Table "_add" 3 (P_Table__add c)) (D_Table__check : MethOk P w K mg base 1 c.Table "_check" 2 (P_Table__check c)) {f : Addr} {cdv : Value} {A : Around} {outer : List Env} {s : Shared} {H : Hp} {E : XK} (hr : Room 1 (A.deeper (envOfC "Table.do_again" (defScope s_Table_do_again) s.heap.objs.size f cdv))) :
    JB (cxOf CX0 P w K mg base n_Table_do_again "Table.do_again" (defScope s_Table_do_again) f cdv A outer s H E).nox (defBody s_Table_do_again) (w_Table_do_again c) :=
  have nd := sc_Table_do_again.nd
  (b_cons (s_expr (j_meth (ks := k_Table) D_Table__check T.cls_Table hr (by decide) (jv 0) (ja_cons (jv 1) ja_nil)))
  (b_cons (s_if (jt_not (jt_truth (j_ix o_ix (j_fld T.cls_Table T.na_Table__rows nd_Table rfl (jv 0)) (jv 1) (fun _ _ => rfl)))) (b_one s_never) b_nil)
  (b_cons (s_set (i := 2) nd rfl (Or.inl rfl) (j_ix o_ix (j_ix o_ix (j_fld T.cls_Table T.na_Table__rows nd_Table rfl (jv 0)) (jv 1) (fun _ _ => rfl)) (j_un o_neg j_int) (fun _ _ => rfl)))
  (b_cons (s_asg (j_slT (j_ix o_ix (j_fld T.cls_Table T.na_Table__rows nd_Table rfl (jv 0)) (jv 1) (fun _ _ => rfl)) jo_none (jo_some (j_un o_neg j_int))) (jg_ix (j_fld T.cls_Table T.na_Table__rows nd_Table rfl (jv 0)) (jv 1)))
  (b_one (s_ret (j_meth (ks := k_Table) D_Table__add T.cls_Table hr (by decide) (jv 0) (ja_cons (jv 1) (ja_cons (jv 2) ja_nil)))))))))
abbrev s_Table_row : Stmt := inClass (topS 19) 10
abbrev n_Table_row : List Str := ["self", "hand"]
theorem sc_Table_row : FnScope n_Table_row ["self", "hand"] (defScope s_Table_row) := ⟨rfl, rfl, rfl, by decide +kernel, rfl, by decide +kernel, by decide +kernel⟩
theorem der_Table_row (T : Tx P w K mg base c) (D_Table__check : MethOk P w K mg base 1 c.Table "_check" 2 (P_Table__check c)) {f : Addr} {cdv : Value} {A : Around} {outer : List Env} {s : Shared} {H : Hp} {E : XK} (hr : Room 1 (A.deeper (envOfC "Table.row" (defScope s_Table_row) s.heap.objs.size f cdv))) :
    JB (cxOf CX0 P w K mg base n_Table_row "Table.row" (defScope s_Table_row) f cdv A outer s H E).nox (defBody s_Table_row) (w_Table_row c) :=
  have nd := sc_Table_row.nd
  (b_cons (s_expr (j_meth (ks := k_Table) D_Table__check T.cls_Table hr (by decide) (jv 0) (ja_cons (jv 1) ja_nil)))
  (b_one (s_ret (j_ix o_ix (j_fld T.cls_Table T.na_Table__rows nd_Table rfl (jv 0)) (jv 1) (fun _ _ => rfl)))))
abbrev s_below_all : Stmt := topS 21
abbrev n_below_all : List Str := ["alphabet", "word", "events", "found", "first", "inside", "second"]
theorem sc_below_all : FnScope n_below_all ["alphabet", "word", "events"] (defScope s_below_all) := ⟨rfl, rfl, rfl, by decide +kernel, rfl, by decide +kernel, by decide +kernel⟩
theorem der_below_all (T : Tx P w K mg base c) (D_independent : DefOk P w K mg base 1 "independent" 3 (P_independent c)) {f : Addr} {cdv : Value} {A : Around} {outer : List Env} {s : Shared} {H : Hp} {E : XK} (hr : Room 1 (A.deeper (envOfC "below_all" (defScope s_below_all) s.heap.objs.size f cdv))) :
    JB (cxOf CX0 P w K mg base n_below_all "below_all" (defScope s_below_all) f cdv A outer s H E).nox (defBody s_below_all) (w_below_all c) :=
  have nd := sc_below_all.nd
  (b_cons (s_set (i := 3) nd rfl (Or.inl rfl) (j_cl (f_lst ja_nil)))
  (b_cons (s_for PassesOwn.never rfl (ji_r3 (by rfl) T.b_range (j_op o_sub (j_cb c_len (by rfl) T.b_len (by decide +kernel) (ja_cons (jv 1) ja_nil)) j_int) (j_un o_neg j_int) (j_un o_neg j_int)) (jg_name (i := 4) nd rfl (Or.inl rfl)) (b_cons (s_set (i := 5) nd rfl (Or.inl rfl) (j_cmp o_in (jv 4) (jv 2) (by rfl)))
  (b_cons (s_for PassesOwn.never rfl (ji_seq (jv 3)) (jg_name (i := 6) nd rfl (Or.inl rfl)) (b_one (s_set (i := 5) nd rfl (Or.inl rfl) (j_or (jv 5) (j_one (j_and (j_cmp o_lt (jv 4) (jv 6) (nomark _)) (j_one (j_not (j_call D_independent hr (by rfl) (ja_cons (jv 0) (ja_cons (j_ix o_ix (jv 1) (jv 4) (fun _ _ => rfl)) (ja_cons (j_ix o_ix (jv 1) (jv 6) (fun _ _ => rfl)) ja_nil))))))))))))
  (b_one (s_if (jt_val (jv 5)) (b_one (s_expr (j_m PySem.F.slot_list_append PySem.F.type_list_append m_append (jv 3) (ja_cons (jv 4) ja_nil)))) b_nil)))))
  (b_one (s_ret (j_fz (f_rev (jv 3)))))))
abbrev s_are_apart : Stmt := topS 29
abbrev n_are_apart : List Str := ["alphabet", "first", "second", "one", "two"]
theorem sc_are_apart : FnScope n_are_apart ["alphabet", "first", "second"] (defScope s_are_apart) := ⟨rfl, rfl, rfl, by decide +kernel, rfl, by decide +kernel, by decide +kernel⟩
theorem der_are_apart (T : Tx P w K mg base c) (D_independent : DefOk P w K mg base 1 "independent" 3 (P_independent c)) {f : Addr} {cdv : Value} {A : Around} {outer : List Env} {s : Shared} {H : Hp} {E : XK} (hr : Room 1 (A.deeper (envOfC "are_apart" (defScope s_are_apart) s.heap.objs.size f cdv))) :
    JB (cxOf CX0 P w K mg base n_are_apart "are_apart" (defScope s_are_apart) f cdv A outer s H E).nox (defBody s_are_apart) (w_are_apart c) :=
  have nd := sc_are_apart.nd
  (b_cons (s_for PassesOwn.never rfl (ji_seq (jv 1)) (jg_name (i := 3) nd rfl (Or.inl rfl)) (b_one (s_for PassesOwn.never rfl (ji_seq (jv 2)) (jg_name (i := 4) nd rfl (Or.inl rfl)) (b_one (s_if (jt_not (jt_val (j_call D_independent hr (by rfl) (ja_cons (jv 0) (ja_cons (jv 3) (ja_cons (jv 4) ja_nil)))))) (b_one (s_ret j_bl)) b_nil)))))
  (b_one (s_ret j_bl)))
abbrev s_earlier_counts : Stmt := topS 31
abbrev n_earlier_counts : List Str := ["alphabet", "word", "found", "size", "k", "counts", "j", "i"]
theorem sc_earlier_counts : FnScope n_earlier_counts ["alphabet", "word"] (defScope s_earlier_counts) := ⟨rfl, rfl, rfl, by decide +kernel, rfl, by decide +kernel, by decide +kernel⟩
theorem der_earlier_counts (T : Tx P w K mg base c) (D_independent : DefOk P w K mg base 1 "independent" 3 (P_independent c)) {f : Addr} {cdv : Value} {A : Around} {outer : List Env} {s : Shared} {H : Hp} {E : XK} (hr : Room 1 (A.deeper (envOfC "earlier_counts" (defScope s_earlier_counts) s.heap.objs.size f cdv))) :
    JB (cxOf CX0 P w K mg base n_earlier_counts "earlier_counts" (defScope s_earlier_counts) f cdv A outer s H E).nox (defBody s_earlier_counts) (w_earlier_counts c) :=
  have nd := sc_earlier_counts.nd
  (b_cons (s_set (i := 2) nd rfl (Or.inr rfl) (j_cl (f_lst ja_nil)))
  (b_cons (s_set (i := 3) nd rfl (Or.inl rfl) (j_cb c_len (by rfl) T.b_len (by decide +kernel) (ja_cons (j_fld T.cls_Alphabet T.na_Alphabet_letters nd_Alphabet rfl (jv 0)) ja_nil)))
  (b_cons (s_for PassesOwn.never rfl (ji_r1 (by rfl) T.b_range (j_cb c_len (by rfl) T.b_len (by decide +kernel) (ja_cons (jv 1) ja_nil))) (jg_name (i := 4) nd rfl (Or.inl rfl)) (b_cons (s_set (i := 5) nd rfl (Or.inr rfl) (j_cl (f_op o_rep (j_fz (f_lst (ja_cons j_int ja_nil))) (jv 3))))
  (b_cons (s_for PassesOwn.never rfl (ji_r1 (by rfl) T.b_range (jv 4)) (jg_name (i := 6) nd rfl (Or.inr rfl)) (b_one (s_if (jt_not (jt_val (j_call D_independent hr (by rfl) (ja_cons (jv 0) (ja_cons (j_ix o_ix (jv 1) (jv 6) (fun _ _ => rfl)) (ja_cons (j_ix o_ix (jv 1) (jv 4) (fun _ _ => rfl)) ja_nil)))))) (b_cons (s_set (i := 5) nd rfl (Or.inr rfl) (j_cl (f_lc [(("i" : Str), 7)] rfl rfl nd (ji_r1 (by rfl) T.b_range (jv 3)) (blkOk_by (N := n_earlier_counts) (sc := defScope s_earlier_counts) (by decide +kernel)) (fun _ _ _ _ _ => (tg_name (pg_name (i := 7) nd rfl (Or.inl rfl)))) (by decide) (fun _ _ _ _ _ => jts_nil) (fun _ _ _ _ _ => (j_cb (c_max2 rfl) (by rfl) T.b_max (by decide +kernel) (ja_cons (j_ix o_ix (jv 5) (jv 7) (fun _ _ => rfl)) (ja_cons (j_ix o_ix (j_ix o_ix (jv 2) (jv 6) (fun _ _ => rfl)) (jv 7) (fun _ _ => rfl)) ja_nil)))))))
  (b_one (s_asg (j_cb (c_max2 rfl) (by rfl) T.b_max (by decide +kernel) (ja_cons (j_ix o_ix (jv 5) (j_ix o_ix (jv 1) (jv 6) (fun _ _ => rfl)) (fun _ _ => rfl)) (ja_cons (j_op o_add (j_ix o_ix (j_ix o_ix (jv 2) (jv 6) (fun _ _ => rfl)) (j_ix o_ix (jv 1) (jv 6) (fun _ _ => rfl)) (fun _ _ => rfl)) j_int) ja_nil))) (jg_ix (jv 5) (j_ix o_ix (jv 1) (jv 6) (fun _ _ => rfl)))))) b_nil)))
  (b_one (s_expr (j_m PySem.F.slot_list_append PySem.F.type_list_append m_append (jv 2) (ja_cons (j_frz (jv 5)) ja_nil)))))))
  (b_one (s_ret (j_frz (jv 2)))))))
abbrev s_equivalent : Stmt := topS 40
abbrev n_equivalent : List Str := ["alphabet", "first", "second", "place"]
theorem sc_equivalent : FnScope n_equivalent ["alphabet", "first", "second"] (defScope s_equivalent) := ⟨rfl, rfl, rfl, by decide +kernel, rfl, by decide +kernel, by decide +kernel⟩
theorem der_equivalent (T : Tx P w K mg base c) (D_place_word : DefOk P w K mg base 1 "place_word" 3 (P_place_word c)) {f : Addr} {cdv : Value} {A : Around} {outer : List Env} {s : Shared} {H : Hp} {E : XK} (hr : Room 1 (A.deeper (envOfC "equivalent" (defScope s_equivalent) s.heap.objs.size f cdv))) :
    JB (cxOf CX0 P w K mg base n_equivalent "equivalent" (defScope s_equivalent) f cdv A outer s H E).nox (defBody s_equivalent) (w_equivalent c) :=
  have nd := sc_equivalent.nd
  (b_cons (s_for PassesOwn.never rfl (ji_r1 (by rfl) T.b_range (j_fld T.cls_Alphabet T.na_Alphabet_places nd_Alphabet rfl (jv 0))) (jg_name (i := 3) nd rfl (Or.inl rfl)) (b_one (s_if (jt_cmp (o_ne hr.units) (j_call D_place_word hr (by rfl) (ja_cons (jv 0) (ja_cons (jv 1) (ja_cons (jv 3) ja_nil)))) (j_call D_place_word hr (by rfl) (ja_cons (jv 0) (ja_cons (jv 2) (ja_cons (jv 3) ja_nil)))) (nomark _)) (b_one (s_ret j_bl)) b_nil)))
  (b_one (s_ret j_bl)))
abbrev s__law_alphabet : Stmt := topS 45
abbrev n__law_alphabet : List Str := ["draws", "most_places", "most_letters", "places", "letters", "k", "chosen", "extra"]
theorem sc__law_alphabet : FnScope n__law_alphabet ["draws", "most_places", "most_letters"] (defScope s__law_alphabet) := ⟨rfl, rfl, rfl, by decide +kernel, rfl, by decide +kernel, by decide +kernel⟩
theorem der__law_alphabet (T : Tx P w K mg base c) (D__law_take : DefOk P w K mg base 1 "_law_take" 2 (P__law_take c)) {f : Addr} {cdv : Value} {A : Around} {outer : List Env} {s : Shared} {H : Hp} {E : XK} (hr : Room 1 (A.deeper (envOfC "_law_alphabet" (defScope s__law_alphabet) s.heap.objs.size f cdv))) :
    JB (cxOf CX0 P w K mg base n__law_alphabet "_law_alphabet" (defScope s__law_alphabet) f cdv A outer s H E).nox (defBody s__law_alphabet) (w__law_alphabet c) :=
  have nd := sc__law_alphabet.nd
  (b_cons (s_set (i := 3) nd rfl (Or.inl rfl) (j_op o_add j_int (j_call D__law_take hr (by rfl) (ja_cons (jv 0) (ja_cons (jv 1) ja_nil)))))
  (b_cons (s_set (i := 4) nd rfl (Or.inl rfl) (j_cl (f_lst ja_nil)))
  (b_cons (s_for PassesOwn.never rfl (ji_r1 (by rfl) T.b_range (j_op o_add j_int (j_call D__law_take hr (by rfl) (ja_cons (jv 0) (ja_cons (jv 2) ja_nil))))) (jg_name (i := 5) nd rfl (Or.inl rfl)) (b_cons (s_set (i := 6) nd rfl (Or.inl rfl) (j_cl (f_disp1 (j_call D__law_take hr (by rfl) (ja_cons (jv 0) (ja_cons (jv 3) ja_nil))) j_bl)))
  (b_cons (s_for PassesOwn.never rfl (ji_r1 (by rfl) T.b_range (j_call D__law_take hr (by rfl) (ja_cons (jv 0) (ja_cons j_int ja_nil)))) (jg_name (i := 7) nd rfl (Or.inl rfl)) (b_one (s_dput (hu_of hr) (jv 6) (j_call D__law_take hr (by rfl) (ja_cons (jv 0) (ja_cons (jv 3) ja_nil))) j_bl)))
  (b_one (s_expr (j_m PySem.F.slot_list_append PySem.F.type_list_append m_append (jv 4) (ja_cons (j_ct c_tuple (by rfl) T.b_tuple (by decide +kernel) (ja_cons (j_fz (f_cb (c_sortedD rfl) (by rfl) T.b_sorted (by decide +kernel) (ja_cons (jv 6) ja_nil))) ja_nil)) ja_nil)))))))
  (b_one (s_ret (j_tup (ja_cons (jv 3) (ja_cons (j_frz (jv 4)) ja_nil))))))))
abbrev s__law_words : Stmt := topS 47
abbrev n__law_words : List Str := ["draws", "letters", "base", "k", "words", "word", "left", "j", "ready", "at", "i"]
theorem sc__law_words : FnScope n__law_words ["draws", "letters"] (defScope s__law_words) := ⟨rfl, rfl, rfl, by decide +kernel, rfl, by decide +kernel, by decide +kernel⟩
theorem der__law_words (T : Tx P w K mg base c) (D__law_meet : DefOk P w K mg base 1 "_law_meet" 3 (P__law_meet c)) (D__law_take : DefOk P w K mg base 1 "_law_take" 2 (P__law_take c)) {f : Addr} {cdv : Value} {A : Around} {outer : List Env} {s : Shared} {H : Hp} {E : XK} (hr : Room 1 (A.deeper (envOfC "_law_words" (defScope s__law_words) s.heap.objs.size f cdv))) :
    JB (cxOf CX0 P w K mg base n__law_words "_law_words" (defScope s__law_words) f cdv A outer s H E).nox (defBody s__law_words) (w__law_words c) :=
  have nd := sc__law_words.nd
  (b_cons (s_set (i := 2) nd rfl (Or.inl rfl) (j_ct c_tuple (by rfl) T.b_tuple (by decide +kernel) (ja_cons (j_fz (f_lc [(("k" : Str), 3)] rfl rfl nd (ji_r1 (by rfl) T.b_range (j_call D__law_take hr (by rfl) (ja_cons (jv 0) (ja_cons j_int ja_nil)))) (blkOk_by (N := n__law_words) (sc := defScope s__law_words) (by decide +kernel)) (fun _ _ _ _ _ => (tg_name (pg_name (i := 3) nd rfl (Or.inl rfl)))) (by decide) (fun _ _ _ _ _ => jts_nil) (fun _ _ _ _ _ => (j_call D__law_take hr (by rfl) (ja_cons (jv 0) (ja_cons (j_cb c_len (by rfl) T.b_len (by decide +kernel) (ja_cons (jv 1) ja_nil)) ja_nil)))))) ja_nil)))
  (b_cons (s_set (i := 4) nd rfl (Or.inl rfl) (j_cl (f_lst ja_nil)))
  (b_cons (s_for PassesOwn.never rfl (ji_r1 (by rfl) T.b_range (j_op o_add j_int (j_call D__law_take hr (by rfl) (ja_cons (jv 0) (ja_cons j_int ja_nil))))) (jg_name (i := 3) nd rfl (Or.inl rfl)) (b_cons (s_set (i := 5) nd rfl (Or.inl rfl) (j_tup ja_nil))
  (b_cons (s_set (i := 6) nd rfl (Or.inr rfl) (j_cl (f_ct c_list (by rfl) T.b_list (by decide +kernel) (ja_cons (jv 2) ja_nil))))
  (b_cons (s_for PassesOwn.never rfl (ji_r1 (by rfl) T.b_range (j_call D__law_take hr (by rfl) (ja_cons (jv 0) (ja_cons (j_op o_add (j_cb c_len (by rfl) T.b_len (by decide +kernel) (ja_cons (jv 2) ja_nil)) j_int) ja_nil)))) (jg_name (i := 7) nd rfl (Or.inl rfl)) (b_cons (s_lcF (i := 8) [(("at" : Str), 9)] rfl rfl nd rfl rfl (sw_true rfl rfl rfl (by decide +kernel)) (ji_r1 (by rfl) T.b_range (j_cb c_len (by rfl) T.b_len (by decide +kernel) (ja_cons (jv 6) ja_nil))) (blkOk_by (N := n__law_words) (sc := defScope s__law_words) (by decide +kernel)) (fun _ _ _ _ _ => (tg_name (pg_name (i := 9) nd rfl (Or.inr rfl)))) (by decide) (fun _ _ _ _ _ => (jts_one (jt_cmp (o_eq hr.units) (j_cb c_len (by rfl) T.b_len (by decide +kernel) (ja_cons (j_fz (f_lc [(("i" : Str), 10)] rfl rfl nd (ji_r1 (by rfl) T.b_range (jv 9)) (blkOk_by (N := n__law_words) (sc := relS _ (defScope s__law_words)) (by decide +kernel)) (fun _ _ _ _ _ => (tg_name (pg_name (i := 10) nd rfl (Or.inl rfl)))) (by decide) (fun _ _ _ _ _ => (jts_one (jt_val (j_call D__law_meet hr (by rfl) (ja_cons (jv 1) (ja_cons (j_ix o_ix (jv 6) (jv 10) (fun _ _ => rfl)) (ja_cons (j_ix o_ix (jv 6) (jv 9) (fun _ _ => rfl)) ja_nil))))))) (fun _ _ _ _ _ => j_int))) ja_nil)) j_int (nomark _)))) (fun _ _ _ _ _ => (jv 9)))
  (b_cons (s_set (i := 9) nd rfl (Or.inl rfl) (j_ix o_ix (jv 8) (j_call D__law_take hr (by rfl) (ja_cons (jv 0) (ja_cons (j_cb c_len (by rfl) T.b_len (by decide +kernel) (ja_cons (jv 8) ja_nil)) ja_nil))) (fun _ _ => rfl)))
  (b_one (s_set (i := 5) nd rfl (Or.inl rfl) (j_op o_add (jv 5) (j_tup (ja_cons (j_m PySem.F.slot_list_pop PySem.F.type_list_pop m_popAt (jv 6) (ja_cons (jv 9) ja_nil)) ja_nil))))))))
  (b_cons (s_if (jt_cmp (o_eq hr.units) (j_call D__law_take hr (by rfl) (ja_cons (jv 0) (ja_cons j_int ja_nil))) j_int (nomark _)) (b_one (s_set (i := 5) nd rfl (Or.inl rfl) (j_op o_add (jv 5) (j_tup (ja_cons (j_call D__law_take hr (by rfl) (ja_cons (jv 0) (ja_cons (j_cb c_len (by rfl) T.b_len (by decide +kernel) (ja_cons (jv 1) ja_nil)) ja_nil))) ja_nil))))) b_nil)
  (b_one (s_expr (j_m PySem.F.slot_list_append PySem.F.type_list_append m_append (jv 4) (ja_cons (jv 5) ja_nil)))))))))
  (b_one (s_ret (j_frz (jv 4)))))))
abbrev s_first_letters : Stmt := topS 13
abbrev n_first_letters : List Str := ["alphabet", "word", "found", "blocked", "dependent", "k"]
theorem sc_first_letters : FnScope n_first_letters ["alphabet", "word"] (defScope s_first_letters) := ⟨rfl, rfl, rfl, by decide +kernel, rfl, by decide +kernel, by decide +kernel⟩
theorem der_first_letters (T : Tx P w K mg base c) (D_masks : DefOk P w K mg base 2 "masks" 1 (P_masks c)) {f : Addr} {cdv : Value} {A : Around} {outer : List Env} {s : Shared} {H : Hp} {E : XK} (hr : Room 2 (A.deeper (envOfC "first_letters" (defScope s_first_letters) s.heap.objs.size f cdv))) :
    JB (cxOf CX0 P w K mg base n_first_letters "first_letters" (defScope s_first_letters) f cdv A outer s H E).nox (defBody s_first_letters) (w_first_letters c) :=
  have nd := sc_first_letters.nd
  (b_cons (s_set (i := 2) nd rfl (Or.inl rfl) (j_cl (f_lst ja_nil)))
  (b_cons (s_set (i := 3) nd rfl (Or.inl rfl) j_int)
  (b_cons (s_set (i := 4) nd rfl (Or.inl rfl) (j_call D_masks hr (by rfl) (ja_cons (jv 0) ja_nil)))
  (b_cons (s_for PassesOwn.never rfl (ji_r1 (by rfl) T.b_range (j_cb c_len (by rfl) T.b_len (by decide +kernel) (ja_cons (jv 1) ja_nil))) (jg_name (i := 5) nd rfl (Or.inl rfl)) (b_cons (s_if (jt_cmp (o_eq hr.units) (j_op o_and (j_op o_shr (jv 3) (j_ix o_ix (jv 1) (jv 5) (fun _ _ => rfl))) j_int) j_int (nomark _)) (b_one (s_expr (j_m PySem.F.slot_list_append PySem.F.type_list_append m_append (jv 2) (ja_cons (jv 5) ja_nil)))) b_nil)
  (b_one (s_set (i := 3) nd rfl (Or.inl rfl) (j_op o_or (jv 3) (j_ix o_ix (jv 4) (j_ix o_ix (jv 1) (jv 5) (fun _ _ => rfl)) (fun _ _ => rfl)))))))
  (b_one (s_ret (j_frz (jv 2))))))))
abbrev s_is_least : Stmt := topS 16
abbrev n_is_least : List Str := ["alphabet", "word", "dependent", "barred", "letter"]
theorem sc_is_least : FnScope n_is_least ["alphabet", "word"] (defScope s_is_least) := ⟨rfl, rfl, rfl, by decide +kernel, rfl, by decide +kernel, by decide +kernel⟩
theorem der_is_least (T : Tx P w K mg base c) (D_masks : DefOk P w K mg base 2 "masks" 1 (P_masks c)) (D_next_barred : DefOk P w K mg base 1 "next_barred" 3 (P_next_barred c)) {f : Addr} {cdv : Value} {A : Around} {outer : List Env} {s : Shared} {H : Hp} {E : XK} (hr : Room 2 (A.deeper (envOfC "is_least" (defScope s_is_least) s.heap.objs.size f cdv))) :
    JB (cxOf CX0 P w K mg base n_is_least "is_least" (defScope s_is_least) f cdv A outer s H E).nox (defBody s_is_least) (w_is_least c) :=
  have nd := sc_is_least.nd
  (b_cons (s_set (i := 2) nd rfl (Or.inl rfl) (j_call D_masks hr (by rfl) (ja_cons (jv 0) ja_nil)))
  (b_cons (s_set (i := 3) nd rfl (Or.inl rfl) j_int)
  (b_cons (s_for PassesOwn.never rfl (ji_seq (jv 1)) (jg_name (i := 4) nd rfl (Or.inl rfl)) (b_cons (s_if (jt_cmp (o_eq hr.units) (j_op o_and (j_op o_shr (jv 3) (jv 4)) j_int) j_int (nomark _)) (b_one (s_ret j_bl)) b_nil)
  (b_one (s_set (i := 3) nd rfl (Or.inl rfl) (j_call D_next_barred hr (by rfl) (ja_cons (jv 2) (ja_cons (jv 3) (ja_cons (jv 4) ja_nil))))))))
  (b_one (s_ret j_bl)))))
abbrev s_Table_undo : Stmt := inClass (topS 19) 7
abbrev n_Table_undo : List Str := ["self", "hand", "number"]
theorem sc_Table_undo : FnScope n_Table_undo ["self", "hand"] (defScope s_Table_undo) := ⟨rfl, rfl, rfl, by decide +kernel, rfl, by decide +kernel, by decide +kernel⟩
theorem derx_Table_undo (T : Tx P w K mg base c) (D_Table__check : MethOk P w K mg base 1 c.Table "_check" 2 (P_Table__check c)) (D_Table__newest : MethX P w K mg base c.NotReady 1 c.Table "_newest" 2 (P_Table__newest c) (X_Table__newest c)) (D_Table__resting : MethOk P w K mg base 2 c.Table "_resting" 2 (P_Table__resting c)) (D_Table__take_back : MethOk P w K mg base 1 c.Table "_take_back" 2 (P_Table__take_back c)) {f : Addr} {cdv : Value} {A : Around} {outer : List Env} {s : Shared} {H : Hp} {E : XK} (hr : Room 2 (A.deeper (envOfC "Table.undo" (defScope s_Table_undo) s.heap.objs.size f cdv))) :
    PSs (cxOf (CX P w) P w K mg base n_Table_undo "Table.undo" (defScope s_Table_undo) f cdv A outer s H E) (defBody s_Table_undo) (tXS K c.NotReady (wx_Table_undo c) E) :=
  have nd := sc_Table_undo.nd
  (bx_cons (s_expr (j_meth (ks := k_Table) D_Table__check T.cls_Table hr (by decide) (jv 0) (ja_cons (jv 1) ja_nil))) (bx_set (i := 2) nd rfl (Or.inl rfl) (x_meth (ks := k_Table) D_Table__newest (takes_of rfl rfl rfl rfl) (fun _ _ _ _ h => h) T.cls_Table hr (by decide) (jv 0) (ja_cons (jv 1) ja_nil)) pss_never))
theorem der_Table_undo (T : Tx P w K mg base c) (D_Table__check : MethOk P w K mg base 1 c.Table "_check" 2 (P_Table__check c)) (D_Table__newest : MethX P w K mg base c.NotReady 1 c.Table "_newest" 2 (P_Table__newest c) (X_Table__newest c)) (D_Table__resting : MethOk P w K mg base 2 c.Table "_resting" 2 (P_Table__resting c)) (D_Table__take_back : MethOk P w K mg base 1 c.Table "_take_back" 2 (P_Table__take_back c)) {f : Addr} {cdv : Value} {A : Around} {outer : List Env} {s : Shared} {H : Hp} {E : XK} (hr : Room 2 (A.deeper (envOfC "Table.undo" (defScope s_Table_undo) s.heap.objs.size f cdv))) :
    JB (cxOf CX0 P w K mg base n_Table_undo "Table.undo" (defScope s_Table_undo) f cdv A outer s H E).nox (defBody s_Table_undo) (w_Table_undo c) :=
  have nd := sc_Table_undo.nd
  (b_cons (s_expr (j_meth (ks := k_Table) D_Table__check T.cls_Table hr (by decide) (jv 0) (ja_cons (jv 1) ja_nil)))
  (b_cons (s_set (i := 2) nd rfl (Or.inl rfl) (j_methN (ks := k_Table) D_Table__newest T.cls_Table hr (by decide) (jv 0) (ja_cons (jv 1) ja_nil)))
  (b_cons (s_if (jt_cmp (o_ne hr.units) (j_meth (ks := k_Table) D_Table__resting T.cls_Table hr (by decide) (jv 0) (ja_cons (jv 2) ja_nil)) (j_fz (f_lst (ja_cons (jv 2) ja_nil))) (nomark _)) (b_one s_never) b_nil)
  (b_cons (s_expr (j_meth (ks := k_Table) D_Table__take_back T.cls_Table hr (by decide) (jv 0) (ja_cons (jv 2) ja_nil)))
  (b_one (s_ret (jv 2)))))))
abbrev s_Table_undo_with_all : Stmt := inClass (topS 19) 8
abbrev n_Table_undo_with_all : List Str := ["self", "hand", "found", "number"]
theorem sc_Table_undo_with_all : FnScope n_Table_undo_with_all ["self", "hand"] (defScope s_Table_undo_with_all) := ⟨rfl, rfl, rfl, by decide +kernel, rfl, by decide +kernel, by decide +kernel⟩
theorem derx_Table_undo_with_all (T : Tx P w K mg base c) (D_Table__check : MethOk P w K mg base 1 c.Table "_check" 2 (P_Table__check c)) (D_Table__newest : MethX P w K mg base c.NotReady 1 c.Table "_newest" 2 (P_Table__newest c) (X_Table__newest c)) (D_Table__resting : MethOk P w K mg base 2 c.Table "_resting" 2 (P_Table__resting c)) (D_Table__take_back : MethOk P w K mg base 1 c.Table "_take_back" 2 (P_Table__take_back c)) {f : Addr} {cdv : Value} {A : Around} {outer : List Env} {s : Shared} {H : Hp} {E : XK} (hr : Room 2 (A.deeper (envOfC "Table.undo_with_all" (defScope s_Table_undo_with_all) s.heap.objs.size f cdv))) :
    PSs (cxOf (CX P w) P w K mg base n_Table_undo_with_all "Table.undo_with_all" (defScope s_Table_undo_with_all) f cdv A outer s H E) (defBody s_Table_undo_with_all) (tXS K c.NotReady (wx_Table_undo_with_all c) E) :=
  have nd := sc_Table_undo_with_all.nd
  (bx_cons (s_expr (j_meth (ks := k_Table) D_Table__check T.cls_Table hr (by decide) (jv 0) (ja_cons (jv 1) ja_nil))) (bx_set (i := 2) nd rfl (Or.inl rfl) (x_methA (ks := k_Table) D_Table__resting T.cls_Table hr (by decide) (jv 0) (x_meth (ks := k_Table) D_Table__newest (takes_of rfl rfl rfl rfl) (fun _ _ _ _ h => h) T.cls_Table hr (by decide) (jv 0) (ja_cons (jv 1) ja_nil))) pss_never))
theorem der_Table_undo_with_all (T : Tx P w K mg base c) (D_Table__check : MethOk P w K mg base 1 c.Table "_check" 2 (P_Table__check c)) (D_Table__newest : MethX P w K mg base c.NotReady 1 c.Table "_newest" 2 (P_Table__newest c) (X_Table__newest c)) (D_Table__resting : MethOk P w K mg base 2 c.Table "_resting" 2 (P_Table__resting c)) (D_Table__take_back : MethOk P w K mg base 1 c.Table "_take_back" 2 (P_Table__take_back c)) {f : Addr} {cdv : Value} {A : Around} {outer : List Env} {s : Shared} {H : Hp} {E : XK} (hr : Room 2 (A.deeper (envOfC "Table.undo_with_all" (defScope s_Table_undo_with_all) s.heap.objs.size f cdv))) :
    JB (cxOf CX0 P w K mg base n_Table_undo_with_all "Table.undo_with_all" (defScope s_Table_undo_with_all) f cdv A outer s H E).nox (defBody s_Table_undo_with_all) (w_Table_undo_with_all c) :=
  have nd := sc_Table_undo_with_all.nd
  (b_cons (s_expr (j_meth (ks := k_Table) D_Table__check T.cls_Table hr (by decide) (jv 0) (ja_cons (jv 1) ja_nil)))
  (b_cons (s_set (i := 2) nd rfl (Or.inl rfl) (j_meth (ks := k_Table) D_Table__resting T.cls_Table hr (by decide) (jv 0) (ja_cons (j_methN (ks := k_Table) D_Table__newest T.cls_Table hr (by decide) (jv 0) (ja_cons (jv 1) ja_nil)) ja_nil)))
  (b_cons (s_for PassesOwn.never rfl (ji_seq (j_fz (f_rev (jv 2)))) (jg_name (i := 3) nd rfl (Or.inl rfl)) (b_one (s_expr (j_meth (ks := k_Table) D_Table__take_back T.cls_Table hr (by decide) (jv 0) (ja_cons (jv 3) ja_nil)))))
  (b_one (s_ret (jv 2))))))
abbrev s_is_below : Stmt := topS 22
abbrev n_is_below : List Str := ["alphabet", "word", "first", "second"]
theorem sc_is_below : FnScope n_is_below ["alphabet", "word", "first", "second"] (defScope s_is_below) := ⟨rfl, rfl, rfl, by decide +kernel, rfl, by decide +kernel, by decide +kernel⟩
theorem der_is_below (T : Tx P w K mg base c) (D_below_all : DefOk P w K mg base 2 "below_all" 3 (P_below_all c)) {f : Addr} {cdv : Value} {A : Around} {outer : List Env} {s : Shared} {H : Hp} {E : XK} (hr : Room 2 (A.deeper (envOfC "is_below" (defScope s_is_below) s.heap.objs.size f cdv))) :
    JB (cxOf CX0 P w K mg base n_is_below "is_below" (defScope s_is_below) f cdv A outer s H E).nox (defBody s_is_below) (w_is_below c) :=
  have nd := sc_is_below.nd
  (b_one (s_ret (j_cmp o_in (jv 2) (j_call D_below_all hr (by rfl) (ja_cons (jv 0) (ja_cons (jv 1) (ja_cons (j_fz (f_lst (ja_cons (jv 3) ja_nil))) ja_nil)))) (by rfl))))
abbrev s_order_count : Stmt := topS 32
abbrev n_order_count : List Str := ["alphabet", "word", "needed", "size", "events", "k", "letter", "counts", "_", "longer", "done", "due", "after"]
theorem sc_order_count : FnScope n_order_count ["alphabet", "word"] (defScope s_order_count) := ⟨rfl, rfl, rfl, by decide +kernel, rfl, by decide +kernel, by decide +kernel⟩
theorem der_order_count (T : Tx P w K mg base c) (D_earlier_counts : DefOk P w K mg base 2 "earlier_counts" 2 (P_earlier_counts c)) {f : Addr} {cdv : Value} {A : Around} {outer : List Env} {s : Shared} {H : Hp} {E : XK} (hr : Room 2 (A.deeper (envOfC "order_count" (defScope s_order_count) s.heap.objs.size f cdv))) :
    JB (cxOf CX0 P w K mg base n_order_count "order_count" (defScope s_order_count) f cdv A outer s H E).nox (defBody s_order_count) (w_order_count c) :=
  have nd := sc_order_count.nd
  (b_cons (s_set (i := 2) nd rfl (Or.inl rfl) (j_call D_earlier_counts hr (by rfl) (ja_cons (jv 0) (ja_cons (jv 1) ja_nil))))
  (b_cons (s_set (i := 3) nd rfl (Or.inl rfl) (j_cb c_len (by rfl) T.b_len (by decide +kernel) (ja_cons (j_fld T.cls_Alphabet T.na_Alphabet_letters nd_Alphabet rfl (jv 0)) ja_nil)))
  (b_cons (s_lcF (i := 4) [(("letter" : Str), 6)] rfl rfl nd rfl rfl (sw_true rfl rfl rfl (by decide +kernel)) (ji_r1 (by rfl) T.b_range (jv 3)) (blkOk_by (N := n_order_count) (sc := defScope s_order_count) (by decide +kernel)) (fun _ _ _ _ _ => (tg_name (pg_name (i := 6) nd rfl (Or.inr rfl)))) (by decide) (fun _ _ _ _ _ => jts_nil) (fun _ _ _ _ _ => (j_fz (f_lc [(("k" : Str), 5)] rfl rfl nd (ji_r1 (by rfl) T.b_range (j_cb c_len (by rfl) T.b_len (by decide +kernel) (ja_cons (jv 1) ja_nil))) (blkOk_by (N := n_order_count) (sc := relS _ (defScope s_order_count)) (by decide +kernel)) (fun _ _ _ _ _ => (tg_name (pg_name (i := 5) nd rfl (Or.inl rfl)))) (by decide) (fun _ _ _ _ _ => (jts_one (jt_cmp (o_eq hr.units) (j_ix o_ix (jv 1) (jv 5) (fun _ _ => rfl)) (jv 6) (nomark _)))) (fun _ _ _ _ _ => (jv 5))))))
  (b_cons (s_set (i := 7) nd rfl (Or.inr rfl) (j_cl (f_tdisp1 (hu_of hr) (j_op o_repT (j_tup (ja_cons j_int ja_nil)) (jv 3)) j_int)))
  (b_cons (s_for PassesOwn.never rfl (ji_r1 (by rfl) T.b_range (j_cb c_len (by rfl) T.b_len (by decide +kernel) (ja_cons (jv 1) ja_nil))) (jg_name (i := 8) nd rfl (Or.inl rfl)) (b_cons (s_set (i := 9) nd rfl (Or.inl rfl) (j_cl f_dnewT))
  (b_cons (s_lkT (s_for PassesOwn.never rfl (ji_keysT (jv 7)) (jg_name (i := 10) nd rfl (Or.inr rfl)) (b_one (s_for PassesOwn.never rfl (ji_r1 (by rfl) T.b_range (jv 3)) (jg_name (i := 6) nd rfl (Or.inl rfl)) (b_one (s_if (jt_cmp o_lt (j_ix o_ix (jv 10) (jv 6) (fun _ _ => rfl)) (j_cb c_len (by rfl) T.b_len (by decide +kernel) (ja_cons (j_ix o_ix (jv 4) (jv 6) (fun _ _ => rfl)) ja_nil)) (nomark _)) (b_cons (s_set (i := 11) nd rfl (Or.inr rfl) (j_ix o_ix (jv 2) (j_ix o_ix (j_ix o_ix (jv 4) (jv 6) (fun _ _ => rfl)) (j_ix o_ix (jv 10) (jv 6) (fun _ _ => rfl)) (fun _ _ => rfl)) (fun _ _ => rfl)))
  (b_one (s_if (jt_cmp (o_eq hr.units) (j_cb c_len (by rfl) T.b_len (by decide +kernel) (ja_cons (j_fz (f_lc [(("k" : Str), 5)] rfl rfl nd (ji_r1 (by rfl) T.b_range (jv 3)) (blkOk_by (N := n_order_count) (sc := defScope s_order_count) (by decide +kernel)) (fun _ _ _ _ _ => (tg_name (pg_name (i := 5) nd rfl (Or.inl rfl)))) (by decide) (fun _ _ _ _ _ => (jts_one (jt_cmp o_gt (j_ix o_ix (jv 11) (jv 5) (fun _ _ => rfl)) (j_ix o_ix (jv 10) (jv 5) (fun _ _ => rfl)) (nomark _)))) (fun _ _ _ _ _ => (jv 5)))) ja_nil)) j_int (nomark _)) (b_cons (s_set (i := 12) nd rfl (Or.inl rfl) (j_op o_add (j_op o_add (j_slT (jv 10) jo_none (jo_some (jv 6))) (j_tup (ja_cons (j_op o_add (j_ix o_ix (jv 10) (jv 6) (fun _ _ => rfl)) j_int) ja_nil))) (j_slT (jv 10) (jo_some (j_op o_add (jv 6) j_int)) jo_none)))
  (b_one (s_tput (hu_of hr) (jv 9) (jv 12) (j_op o_add (j_tget2 (hu_of hr) (jv 9) (jv 12) j_int ⟨by rfl, by rfl, by rfl, by rfl⟩) (j_tget (hu_of hr) (jv 7) (jv 10)))))) b_nil))) b_nil))))))
  (b_one (s_set (i := 7) nd rfl (Or.inr rfl) (jv 9))))))
  (b_one (s_ret (j_cb (c_sum rfl) (by rfl) T.b_sum (by decide +kernel) (ja_cons (j_fz (f_lkT (f_lc [(("done" : Str), 10)] rfl rfl nd (ji_keysT (jv 7)) (blkOk_by (N := n_order_count) (sc := defScope s_order_count) (by decide +kernel)) (fun _ _ _ _ _ => (tg_name (pg_name (i := 10) nd rfl (Or.inl rfl)))) (by decide) (fun _ _ _ _ _ => jts_nil) (fun _ _ _ _ _ => (j_tget (hu_of hr) (jv 7) (jv 10)))))) ja_nil)))))))))
abbrev s_least_form : Stmt := topS 14
abbrev n_least_form : List Str := ["alphabet", "word", "rest", "found", "best", "k"]
theorem sc_least_form : FnScope n_least_form ["alphabet", "word"] (defScope s_least_form) := ⟨rfl, rfl, rfl, by decide +kernel, rfl, by decide +kernel, by decide +kernel⟩
theorem der_least_form (T : Tx P w K mg base c) (D_first_letters : DefOk P w K mg base 3 "first_letters" 2 (P_first_letters c)) {f : Addr} {cdv : Value} {A : Around} {outer : List Env} {s : Shared} {H : Hp} {E : XK} (hr : Room 3 (A.deeper (envOfC "least_form" (defScope s_least_form) s.heap.objs.size f cdv))) :
    JB (cxOf CX0 P w K mg base n_least_form "least_form" (defScope s_least_form) f cdv A outer s H E).nox (defBody s_least_form) (w_least_form c) :=
  have nd := sc_least_form.nd
  (b_cons (s_set (i := 2) nd rfl (Or.inl rfl) (j_cl (f_ct c_list (by rfl) T.b_list (by decide +kernel) (ja_cons (jv 1) ja_nil))))
  (b_cons (s_set (i := 3) nd rfl (Or.inl rfl) (j_cl (f_lst ja_nil)))
  (b_cons (s_while PassesOwn.never (jt_cmp o_gt (j_cb c_len (by rfl) T.b_len (by decide +kernel) (ja_cons (jv 2) ja_nil)) j_int (nomark _)) (b_cons (s_set (i := 4) nd rfl (Or.inl rfl) (j_un o_neg j_int))
  (b_cons (s_for PassesOwn.never rfl (ji_seq (j_call D_first_letters hr (by rfl) (ja_cons (jv 0) (ja_cons (jv 2) ja_nil)))) (jg_name (i := 5) nd rfl (Or.inl rfl)) (b_one (s_if (jt_w (jw_or (jt_cmp o_lt (jv 4) j_int (nomark _)) (jw_or1 (jt_cmp o_lt (j_ix o_ix (jv 2) (jv 5) (fun _ _ => rfl)) (j_ix o_ix (jv 2) (jv 4) (fun _ _ => rfl)) (nomark _))))) (b_one (s_set (i := 4) nd rfl (Or.inl rfl) (jv 5))) b_nil)))
  (b_one (s_expr (j_m PySem.F.slot_list_append PySem.F.type_list_append m_append (jv 3) (ja_cons (j_m PySem.F.slot_list_pop PySem.F.type_list_pop m_popAt (jv 2) (ja_cons (jv 4) ja_nil)) ja_nil)))))))
  (b_one (s_ret (j_ct c_tuple (by rfl) T.b_tuple (by decide +kernel) (ja_cons (jv 3) ja_nil)))))))
abbrev s_first_place : Stmt := topS 24
abbrev n_first_place : List Str := ["alphabet", "word", "letter", "k"]
theorem sc_first_place : FnScope n_first_place ["alphabet", "word", "letter"] (defScope s_first_place) := ⟨rfl, rfl, rfl, by decide +kernel, rfl, by decide +kernel, by decide +kernel⟩
theorem der_first_place (T : Tx P w K mg base c) (D_first_letters : DefOk P w K mg base 3 "first_letters" 2 (P_first_letters c)) {f : Addr} {cdv : Value} {A : Around} {outer : List Env} {s : Shared} {H : Hp} {E : XK} (hr : Room 3 (A.deeper (envOfC "first_place" (defScope s_first_place) s.heap.objs.size f cdv))) :
    JB (cxOf CX0 P w K mg base n_first_place "first_place" (defScope s_first_place) f cdv A outer s H E).nox (defBody s_first_place) (w_first_place c) :=
  have nd := sc_first_place.nd
  (b_cons (s_for PassesOwn.never rfl (ji_seq (j_call D_first_letters hr (by rfl) (ja_cons (jv 0) (ja_cons (jv 1) ja_nil)))) (jg_name (i := 3) nd rfl (Or.inl rfl)) (b_one (s_if (jt_cmp (o_eq hr.units) (j_ix o_ix (jv 1) (jv 3) (fun _ _ => rfl)) (jv 2) (nomark _)) (b_one (s_ret (jv 3))) b_nil)))
  (b_one (s_ret (j_un o_neg j_int))))
abbrev s_Table_word : Stmt := inClass (topS 19) 12
abbrev n_Table_word : List Str := ["self", "_", "letter"]
theorem sc_Table_word : FnScope n_Table_word ["self"] (defScope s_Table_word) := ⟨rfl, rfl, rfl, by decide +kernel, rfl, by decide +kernel, by decide +kernel⟩
theorem der_Table_word (T : Tx P w K mg base c) (D_least_form : DefOk P w K mg base 4 "least_form" 2 (P_least_form c)) {f : Addr} {cdv : Value} {A : Around} {outer : List Env} {s : Shared} {H : Hp} {E : XK} (hr : Room 4 (A.deeper (envOfC "Table.word" (defScope s_Table_word) s.heap.objs.size f cdv))) :
    JB (cxOf CX0 P w K mg base n_Table_word "Table.word" (defScope s_Table_word) f cdv A outer s H E).nox (defBody s_Table_word) (w_Table_word c) :=
  have nd := sc_Table_word.nd
  (b_one (s_ret (j_call D_least_form hr (by rfl) (ja_cons (j_fld T.cls_Table T.na_Table__alphabet nd_Table rfl (jv 0)) (ja_cons (j_fz (f_lc [(("_" : Str), 1), (("_" : Str), 1), (("letter" : Str), 2)] rfl rfl nd (ji_seq (j_fld T.cls_Table T.na_Table__events nd_Table rfl (jv 0))) (blkOk_by (N := n_Table_word) (sc := defScope s_Table_word) (by decide +kernel)) (fun _ _ _ _ _ => (tg_tup rfl (pgs_cons (pg_name (i := 1) nd rfl (Or.inl rfl)) (pgs_cons (pg_name (i := 1) nd rfl (Or.inl rfl)) (pgs_cons (pg_name (i := 2) nd rfl (Or.inl rfl)) pgs_nil))))) (by decide) (fun _ _ _ _ _ => jts_nil) (fun _ _ _ _ _ => (jv 2)))) ja_nil)))))
abbrev s_rest : Stmt := topS 27
abbrev n_rest : List Str := ["alphabet", "first", "second", "left", "letter", "at"]
theorem sc_rest : FnScope n_rest ["alphabet", "first", "second"] (defScope s_rest) := ⟨rfl, rfl, rfl, by decide +kernel, rfl, by decide +kernel, by decide +kernel⟩
theorem der_rest (T : Tx P w K mg base c) (D_first_place : DefOk P w K mg base 4 "first_place" 3 (P_first_place c)) (D_least_form : DefOk P w K mg base 4 "least_form" 2 (P_least_form c)) (D_without_prefixes : DefOk P w K mg base 1 "without_prefixes" 2 (P_without_prefixes c)) {f : Addr} {cdv : Value} {A : Around} {outer : List Env} {s : Shared} {H : Hp} {E : XK} (hr : Room 4 (A.deeper (envOfC "rest" (defScope s_rest) s.heap.objs.size f cdv))) :
    JB (cxOf CX0 P w K mg base n_rest "rest" (defScope s_rest) f cdv A outer s H E).nox (defBody s_rest) (w_rest c) :=
  have nd := sc_rest.nd
  (b_cons (s_set (i := 3) nd rfl (Or.inl rfl) (j_ct c_tuple (by rfl) T.b_tuple (by decide +kernel) (ja_cons (jv 2) ja_nil)))
  (b_cons (s_for PassesOwn.never rfl (ji_seq (jv 1)) (jg_name (i := 4) nd rfl (Or.inl rfl)) (b_cons (s_set (i := 5) nd rfl (Or.inl rfl) (j_call D_first_place hr (by rfl) (ja_cons (jv 0) (ja_cons (jv 3) (ja_cons (jv 4) ja_nil)))))
  (b_cons (s_if (jt_cmp o_lt (jv 5) j_int (nomark _)) (b_one (s_ret j_non)) b_nil)
  (b_one (s_set (i := 3) nd rfl (Or.inl rfl) (j_call D_without_prefixes hr (by rfl) (ja_cons (jv 3) (ja_cons (jv 5) ja_nil))))))))
  (b_one (s_ret (j_call D_least_form hr (by rfl) (ja_cons (jv 0) (ja_cons (jv 3) ja_nil)))))))
abbrev s_common_prefix : Stmt := topS 28
abbrev n_common_prefix : List Str := ["alphabet", "first", "second", "one", "two", "found", "at", "k", "j"]
theorem sc_common_prefix : FnScope n_common_prefix ["alphabet", "first", "second"] (defScope s_common_prefix) := ⟨rfl, rfl, rfl, by decide +kernel, rfl, by decide +kernel, by decide +kernel⟩
theorem der_common_prefix (T : Tx P w K mg base c) (D_first_place : DefOk P w K mg base 4 "first_place" 3 (P_first_place c)) (D_least_form : DefOk P w K mg base 4 "least_form" 2 (P_least_form c)) (D_without_prefixes : DefOk P w K mg base 1 "without_prefixes" 2 (P_without_prefixes c)) {f : Addr} {cdv : Value} {A : Around} {outer : List Env} {s : Shared} {H : Hp} {E : XK} (hr : Room 4 (A.deeper (envOfC "common_prefix" (defScope s_common_prefix) s.heap.objs.size f cdv))) :
    JB (cxOf CX0 P w K mg base n_common_prefix "common_prefix" (defScope s_common_prefix) f cdv A outer s H E).nox (defBody s_common_prefix) (w_common_prefix c) :=
  have nd := sc_common_prefix.nd
  (b_cons (s_set (i := 3) nd rfl (Or.inl rfl) (j_ct c_tuple (by rfl) T.b_tuple (by decide +kernel) (ja_cons (jv 1) ja_nil)))
  (b_cons (s_set (i := 4) nd rfl (Or.inl rfl) (j_ct c_tuple (by rfl) T.b_tuple (by decide +kernel) (ja_cons (jv 2) ja_nil)))
  (b_cons (s_set (i := 5) nd rfl (Or.inl rfl) (j_cl (f_lst ja_nil)))
  (b_cons (s_set (i := 6) nd rfl (Or.inl rfl) j_int)
  (b_cons (s_while PassesOwn.never (jt_cmp o_lt (jv 6) (j_cb c_len (by rfl) T.b_len (by decide +kernel) (ja_cons (j_fld T.cls_Alphabet T.na_Alphabet_letters nd_Alphabet rfl (jv 0)) ja_nil)) (nomark _)) (b_cons (s_set (i := 7) nd rfl (Or.inl rfl) (j_call D_first_place hr (by rfl) (ja_cons (jv 0) (ja_cons (jv 3) (ja_cons (jv 6) ja_nil)))))
  (b_cons (s_set (i := 8) nd rfl (Or.inl rfl) (j_call D_first_place hr (by rfl) (ja_cons (jv 0) (ja_cons (jv 4) (ja_cons (jv 6) ja_nil)))))
  (b_one (s_if (jt_w (jw_and (jt_cmp o_ge (jv 7) j_int (nomark _)) (jw_and1 (jt_cmp o_ge (jv 8) j_int (nomark _))))) (b_cons (s_expr (j_m PySem.F.slot_list_append PySem.F.type_list_append m_append (jv 5) (ja_cons (jv 6) ja_nil)))
  (b_cons (s_set (i := 3) nd rfl (Or.inl rfl) (j_call D_without_prefixes hr (by rfl) (ja_cons (jv 3) (ja_cons (jv 7) ja_nil))))
  (b_cons (s_set (i := 4) nd rfl (Or.inl rfl) (j_call D_without_prefixes hr (by rfl) (ja_cons (jv 4) (ja_cons (jv 8) ja_nil))))
  (b_one (s_set (i := 6) nd rfl (Or.inl rfl) j_int))))) (b_one (s_aug (i := 6) i_add nd rfl (Or.inl rfl) j_int)))))))
  (b_one (s_ret (j_call D_least_form hr (by rfl) (ja_cons (jv 0) (ja_cons (jv 5) ja_nil))))))))))
abbrev s_without_joins : Stmt := topS 36
abbrev n_without_joins : List Str := ["alphabet", "word", "events", "kept", "k", "event"]
theorem sc_without_joins : FnScope n_without_joins ["alphabet", "word", "events"] (defScope s_without_joins) := ⟨rfl, rfl, rfl, by decide +kernel, rfl, by decide +kernel, by decide +kernel⟩
theorem der_without_joins (T : Tx P w K mg base c) (D_is_below : DefOk P w K mg base 3 "is_below" 4 (P_is_below c)) (D_least_form : DefOk P w K mg base 4 "least_form" 2 (P_least_form c)) {f : Addr} {cdv : Value} {A : Around} {outer : List Env} {s : Shared} {H : Hp} {E : XK} (hr : Room 4 (A.deeper (envOfC "without" (defScope s_without_joins) s.heap.objs.size f cdv))) :
    JB (cxOf CX0 P w K mg base n_without_joins "without" (defScope s_without_joins) f cdv A outer s H E).nox (defBody s_without_joins) (w_without_joins c) :=
  have nd := sc_without_joins.nd
  (b_cons (s_set (i := 3) nd rfl (Or.inl rfl) (j_cl (f_lst ja_nil)))
  (b_cons (s_for PassesOwn.never rfl (ji_r1 (by rfl) T.b_range (j_cb c_len (by rfl) T.b_len (by decide +kernel) (ja_cons (jv 1) ja_nil))) (jg_name (i := 4) nd rfl (Or.inr rfl)) (b_one (s_if (jt_not (jt_val (j_cb (c_any rfl) (by rfl) T.b_any (by decide +kernel) (ja_cons (j_fz (f_lc [(("event" : Str), 5)] rfl rfl nd (ji_seq (jv 2)) (blkOk_by (N := n_without_joins) (sc := defScope s_without_joins) (by decide +kernel)) (fun _ _ _ _ _ => (tg_name (pg_name (i := 5) nd rfl (Or.inl rfl)))) (by decide) (fun _ _ _ _ _ => jts_nil) (fun _ _ _ _ _ => (j_call D_is_below hr (by rfl) (ja_cons (jv 0) (ja_cons (jv 1) (ja_cons (jv 5) (ja_cons (jv 4) ja_nil)))))))) ja_nil)))) (b_one (s_expr (j_m PySem.F.slot_list_append PySem.F.type_list_append m_append (jv 3) (ja_cons (j_ix o_ix (jv 1) (jv 4) (fun _ _ => rfl)) ja_nil)))) b_nil)))
  (b_one (s_ret (j_call D_least_form hr (by rfl) (ja_cons (jv 0) (ja_cons (jv 3) ja_nil)))))))
abbrev s_join : Stmt := topS 30
abbrev n_join : List Str := ["alphabet", "first", "second", "common", "one", "two"]
theorem sc_join : FnScope n_join ["alphabet", "first", "second"] (defScope s_join) := ⟨rfl, rfl, rfl, by decide +kernel, rfl, by decide +kernel, by decide +kernel⟩
theorem der_join (T : Tx P w K mg base c) (D_are_apart : DefOk P w K mg base 2 "are_apart" 3 (P_are_apart c)) (D_common_prefix : DefOk P w K mg base 5 "common_prefix" 3 (P_common_prefix c)) (D_least_form : DefOk P w K mg base 4 "least_form" 2 (P_least_form c)) (D_rest : DefOk P w K mg base 5 "rest" 3 (P_rest c)) {f : Addr} {cdv : Value} {A : Around} {outer : List Env} {s : Shared} {H : Hp} {E : XK} (hr : Room 5 (A.deeper (envOfC "join" (defScope s_join) s.heap.objs.size f cdv))) :
    JB (cxOf CX0 P w K mg base n_join "join" (defScope s_join) f cdv A outer s H E).nox (defBody s_join) (w_join c) :=
  have nd := sc_join.nd
  (b_cons (s_set (i := 3) nd rfl (Or.inl rfl) (j_call D_common_prefix hr (by rfl) (ja_cons (jv 0) (ja_cons (jv 1) (ja_cons (jv 2) ja_nil)))))
  (b_cons (s_set (i := 4) nd rfl (Or.inl rfl) (j_call D_rest hr (by rfl) (ja_cons (jv 0) (ja_cons (jv 3) (ja_cons (jv 1) ja_nil)))))
  (b_cons (s_set (i := 5) nd rfl (Or.inl rfl) (j_call D_rest hr (by rfl) (ja_cons (jv 0) (ja_cons (jv 3) (ja_cons (jv 2) ja_nil)))))
  (b_cons (s_if (jt_not (jt_val (j_call D_are_apart hr (by rfl) (ja_cons (jv 0) (ja_cons (jv 4) (ja_cons (jv 5) ja_nil)))))) (b_one (s_ret j_non)) b_nil)
  (b_one (s_ret (j_call D_least_form hr (by rfl) (ja_cons (jv 0) (ja_cons (j_op o_add (j_op o_add (jv 3) (jv 4)) (jv 5)) ja_nil)))))))))
abbrev s_common_all : Stmt := topS 35
abbrev n_common_all : List Str := ["alphabet", "words", "found", "word"]
theorem sc_common_all : FnScope n_common_all ["alphabet", "words"] (defScope s_common_all) := ⟨rfl, rfl, rfl, by decide +kernel, rfl, by decide +kernel, by decide +kernel⟩
theorem der_common_all (T : Tx P w K mg base c) (D_common_prefix : DefOk P w K mg base 5 "common_prefix" 3 (P_common_prefix c)) (D_least_form : DefOk P w K mg base 4 "least_form" 2 (P_least_form c)) {f : Addr} {cdv : Value} {A : Around} {outer : List Env} {s : Shared} {H : Hp} {E : XK} (hr : Room 5 (A.deeper (envOfC "common_all" (defScope s_common_all) s.heap.objs.size f cdv))) :
    JB (cxOf CX0 P w K mg base n_common_all "common_all" (defScope s_common_all) f cdv A outer s H E).nox (defBody s_common_all) (w_common_all c) :=
  have nd := sc_common_all.nd
  (b_cons (s_set (i := 2) nd rfl (Or.inl rfl) (j_call D_least_form hr (by rfl) (ja_cons (jv 0) (ja_cons (j_ix o_ix (jv 1) j_int (fun _ _ => rfl)) ja_nil))))
  (b_cons (s_for PassesOwn.never rfl (ji_seq (j_fz (f_slL (jv 1) (jo_some j_int) jo_none))) (jg_name (i := 3) nd rfl (Or.inl rfl)) (b_one (s_set (i := 2) nd rfl (Or.inl rfl) (j_call D_common_prefix hr (by rfl) (ja_cons (jv 0) (ja_cons (jv 2) (ja_cons (jv 3) ja_nil)))))))
  (b_one (s_ret (jv 2)))))
abbrev s_joined_all : Stmt := topS 34
abbrev n_joined_all : List Str := ["alphabet", "words", "i", "first", "j", "found", "word"]
theorem sc_joined_all : FnScope n_joined_all ["alphabet", "words"] (defScope s_joined_all) := ⟨rfl, rfl, rfl, by decide +kernel, rfl, by decide +kernel, by decide +kernel⟩
theorem der_joined_all (T : Tx P w K mg base c) (D_join : DefOk P w K mg base 6 "join" 3 (P_join c)) {f : Addr} {cdv : Value} {A : Around} {outer : List Env} {s : Shared} {H : Hp} {E : XK} (hr : Room 6 (A.deeper (envOfC "joined_all" (defScope s_joined_all) s.heap.objs.size f cdv))) :
    JB (cxOf CX0 P w K mg base n_joined_all "joined_all" (defScope s_joined_all) f cdv A outer s H E).nox (defBody s_joined_all) (w_joined_all c) :=
  have nd := sc_joined_all.nd
  (b_cons (s_for PassesOwn.never rfl (ji_enum (by rfl) T.b_enumerate (jv 1)) (jg_tup rfl (jgs_cons (jg_name (i := 2) nd rfl (Or.inl rfl)) (jgs_cons (jg_name (i := 3) nd rfl (Or.inl rfl)) jgs_nil))) (b_one (s_for PassesOwn.never rfl (ji_r2 (by rfl) T.b_range (j_op o_add (jv 2) j_int) (j_cb c_len (by rfl) T.b_len (by decide +kernel) (ja_cons (jv 1) ja_nil))) (jg_name (i := 4) nd rfl (Or.inl rfl)) (b_one (s_if (jt_cmp o_isN (j_call D_join hr (by rfl) (ja_cons (jv 0) (ja_cons (jv 3) (ja_cons (j_ix o_ix (jv 1) (jv 4) (fun _ _ => rfl)) ja_nil)))) j_non (nomark _)) (b_one (s_ret (j_tup (ja_cons j_str (ja_cons (jv 2) (ja_cons (jv 4) ja_nil)))))) b_nil)))))
  (b_cons (s_set (i := 5) nd rfl (Or.inl rfl) (j_tup ja_nil))
  (b_cons (s_for PassesOwn.never rfl (ji_seq (jv 1)) (jg_name (i := 6) nd rfl (Or.inl rfl)) (b_one (s_set (i := 5) nd rfl (Or.inl rfl) (j_call D_join hr (by rfl) (ja_cons (jv 0) (ja_cons (jv 5) (ja_cons (jv 6) ja_nil)))))))
  (b_one (s_ret (j_tup (ja_cons j_str (ja_cons (jv 5) ja_nil))))))))
abbrev s__law_joins_right : Stmt := topS 49
abbrev n__law_joins_right : List Str := ["draws", "alphabet", "places", "letters", "words", "low", "high", "each", "pair", "base", "prefixes", "k", "place"]
theorem sc__law_joins_right : FnScope n__law_joins_right ["draws", "alphabet", "places", "letters"] (defScope s__law_joins_right) := ⟨rfl, rfl, rfl, by decide +kernel, rfl, by decide +kernel, by decide +kernel⟩
theorem der__law_joins_right (T : Tx P w K mg base c) (D__law_words : DefOk P w K mg base 2 "_law_words" 2 (P__law_words c)) (D_common_all : DefOk P w K mg base 6 "common_all" 2 (P_common_all c)) (D_common_prefix : DefOk P w K mg base 5 "common_prefix" 3 (P_common_prefix c)) (D_equivalent : DefOk P w K mg base 2 "equivalent" 3 (P_equivalent c)) (D_independent : DefOk P w K mg base 1 "independent" 3 (P_independent c)) (D_join : DefOk P w K mg base 6 "join" 3 (P_join c)) (D_joined_all : DefOk P w K mg base 7 "joined_all" 2 (P_joined_all c)) (D_least_form : DefOk P w K mg base 4 "least_form" 2 (P_least_form c)) (D_order_count : DefOk P w K mg base 3 "order_count" 2 (P_order_count c)) (D_place_word : DefOk P w K mg base 1 "place_word" 3 (P_place_word c)) (D_rest : DefOk P w K mg base 5 "rest" 3 (P_rest c)) (D_without_joins : DefOk P w K mg base 5 "without_joins" 3 (P_without_joins c)) {f : Addr} {cdv : Value} {A : Around} {outer : List Env} {s : Shared} {H : Hp} {E : XK} (hr : Room 7 (A.deeper (envOfC "_law_joins_right" (defScope s__law_joins_right) s.heap.objs.size f cdv))) :
    JB (cxOf CX0 P w K mg base n__law_joins_right "_law_joins_right" (defScope s__law_joins_right) f cdv A outer s H E).nox (defBody s__law_joins_right) (w__law_joins_right c) :=
  have nd := sc__law_joins_right.nd
  (b_cons (s_set (i := 4) nd rfl (Or.inl rfl) (j_call D__law_words hr (by rfl) (ja_cons (jv 0) (ja_cons (jv 3) ja_nil))))
  (b_cons (s_par (i := 5) (j := 6) rfl nd rfl rfl (by decide) rfl rfl (j_call D_common_all hr (by rfl) (ja_cons (jv 1) (ja_cons (jv 4) ja_nil))) (j_call D_joined_all hr (by rfl) (ja_cons (jv 1) (ja_cons (jv 4) ja_nil))))
  (b_cons (s_for PassesOwn.never rfl (ji_seq (jv 4)) (jg_name (i := 7) nd rfl (Or.inl rfl)) (b_one (s_if (jt_w (jw_or (jt_cmp o_isN (j_call D_rest hr (by rfl) (ja_cons (jv 1) (ja_cons (jv 5) (ja_cons (jv 7) ja_nil)))) j_non (nomark _)) (jw_or1 (jt_w (jw_and (jt_cmp (o_eq hr.units) (j_ix o_ix (jv 6) j_int (fun _ _ => rfl)) j_str (nomark _)) (jw_and1 (jt_cmp o_isN (j_call D_rest hr (by rfl) (ja_cons (jv 1) (ja_cons (jv 7) (ja_cons (j_ix o_ix (jv 6) j_int (fun _ _ => rfl)) ja_nil)))) j_non (nomark _)))))))) (b_one (s_ret j_bl)) b_nil)))
  (b_cons (s_set (i := 8) nd rfl (Or.inl rfl) (j_call D_join hr (by rfl) (ja_cons (jv 1) (ja_cons (j_ix o_ix (jv 4) j_int (fun _ _ => rfl)) (ja_cons (j_ix o_ix (jv 4) (j_op o_sub (j_cb c_len (by rfl) T.b_len (by decide +kernel) (ja_cons (jv 4) ja_nil)) j_int) (fun _ _ => rfl)) ja_nil)))))
  (b_cons (s_if (jt_w (jw_or (jt_w (jw_and (jt_cmp (o_eq hr.units) (j_ix o_ix (jv 6) j_int (fun _ _ => rfl)) j_str (nomark _)) (jw_and1 (jt_cmp o_isN (jv 8) j_non (nomark _))))) (jw_or1 (jt_w (jw_and (jt_cmp (o_eq hr.units) (j_ix o_ix (jv 6) j_int (fun _ _ => rfl)) j_str (nomark _)) (jw_and1 (jt_cmp o_notN (j_call D_join hr (by rfl) (ja_cons (jv 1) (ja_cons (j_ix o_ix (jv 4) (j_ix o_ix (jv 6) j_int (fun _ _ => rfl)) (fun _ _ => rfl)) (ja_cons (j_ix o_ix (jv 4) (j_ix o_ix (jv 6) j_int (fun _ _ => rfl)) (fun _ _ => rfl)) ja_nil)))) j_non (nomark _)))))))) (b_one (s_ret j_bl)) b_nil)
  (b_cons (s_if (jt_w (jw_or (jt_w (jw_and (jt_cmp (o_eq hr.units) (j_ix o_ix (jv 6) j_int (fun _ _ => rfl)) j_str (nomark _)) (jw_and1 (jt_cmp o_isN (j_call D_rest hr (by rfl) (ja_cons (jv 1) (ja_cons (jv 8) (ja_cons (j_ix o_ix (jv 6) j_int (fun _ _ => rfl)) ja_nil)))) j_non (nomark _))))) (jw_or1 (jt_cmp o_isN (j_call D_rest hr (by rfl) (ja_cons (jv 1) (ja_cons (jv 5) (ja_cons (j_call D_common_prefix hr (by rfl) (ja_cons (jv 1) (ja_cons (j_ix o_ix (jv 4) j_int (fun _ _ => rfl)) (ja_cons (j_ix o_ix (jv 4) (j_op o_sub (j_cb c_len (by rfl) T.b_len (by decide +kernel) (ja_cons (jv 4) ja_nil)) j_int) (fun _ _ => rfl)) ja_nil)))) ja_nil)))) j_non (nomark _))))) (b_one (s_ret j_bl)) b_nil)
  (b_cons (s_if (jt_w (jw_or (jt_cmp (o_ne hr.units) (j_call D_common_all hr (by rfl) (ja_cons (jv 1) (ja_cons (j_fz (f_op o_cat (jv 4) (jv 4))) ja_nil))) (jv 5) (nomark _)) (jw_or1 (jt_cmp (o_ne hr.units) (j_call D_common_all hr (by rfl) (ja_cons (jv 1) (ja_cons (j_fz (f_slL (jv 4) jo_none (jo_some j_int))) ja_nil))) (j_call D_least_form hr (by rfl) (ja_cons (jv 1) (ja_cons (j_ix o_ix (jv 4) j_int (fun _ _ => rfl)) ja_nil))) (nomark _))))) (b_one (s_ret j_bl)) b_nil)
  (b_cons (s_if (jt_cmp (o_ne hr.units) (j_ix o_ix (j_call D_joined_all hr (by rfl) (ja_cons (jv 1) (ja_cons (j_fz (f_slL (jv 4) jo_none (jo_some j_int))) ja_nil))) j_int (fun _ _ => rfl)) (j_call D_least_form hr (by rfl) (ja_cons (jv 1) (ja_cons (j_ix o_ix (jv 4) j_int (fun _ _ => rfl)) ja_nil))) (nomark _)) (b_one (s_ret j_bl)) b_nil)
  (b_cons (s_set (i := 9) nd rfl (Or.inr rfl) (j_ix o_ix (jv 4) j_int (fun _ _ => rfl)))
  (b_cons (s_lcF (i := 10) [(("k" : Str), 11)] rfl rfl nd rfl rfl (sw_true rfl rfl rfl (by decide +kernel)) (ji_r1 (by rfl) T.b_range (j_op o_add (j_cb c_len (by rfl) T.b_len (by decide +kernel) (ja_cons (jv 9) ja_nil)) j_int)) (blkOk_by (N := n__law_joins_right) (sc := defScope s__law_joins_right) (by decide +kernel)) (fun _ _ _ _ _ => (tg_name (pg_name (i := 11) nd rfl (Or.inl rfl)))) (by decide) (fun _ _ _ _ _ => jts_nil) (fun _ _ _ _ _ => (j_slT (jv 9) jo_none (jo_some (jv 11)))))
  (b_cons (s_if (jt_w (jw_or (jt_cmp (o_ne hr.units) (j_call D_joined_all hr (by rfl) (ja_cons (jv 1) (ja_cons (jv 10) ja_nil))) (j_tup (ja_cons j_str (ja_cons (j_call D_least_form hr (by rfl) (ja_cons (jv 1) (ja_cons (jv 9) ja_nil))) ja_nil))) (nomark _)) (jw_or1 (jt_cmp (o_ne hr.units) (j_call D_common_all hr (by rfl) (ja_cons (jv 1) (ja_cons (jv 10) ja_nil))) (j_tup ja_nil) (nomark _))))) (b_one (s_ret j_bl)) b_nil)
  (b_cons (s_if (jt_w (jw_or (jt_cmp (o_ne hr.units) (j_call D_without_joins hr (by rfl) (ja_cons (jv 1) (ja_cons (jv 9) (ja_cons (j_fz (f_lst ja_nil)) ja_nil)))) (j_call D_least_form hr (by rfl) (ja_cons (jv 1) (ja_cons (jv 9) ja_nil))) (nomark _)) (jw_or (jt_cmp (o_ne hr.units) (j_call D_without_joins hr (by rfl) (ja_cons (jv 1) (ja_cons (jv 9) (ja_cons (j_fz (f_listRg rfl (by rfl) T.b_list (by rfl) T.b_range (j_cb c_len (by rfl) T.b_len (by decide +kernel) (ja_cons (jv 9) ja_nil)))) ja_nil)))) (j_tup ja_nil) (nomark _)) (jw_or1 (jt_cmp o_lt (j_call D_order_count hr (by rfl) (ja_cons (jv 1) (ja_cons (jv 9) ja_nil))) j_int (nomark _)))))) (b_one (s_ret j_bl)) b_nil)
  (b_cons (s_if (jt_w (jw_and (jt_cmp o_gt (j_cb c_len (by rfl) T.b_len (by decide +kernel) (ja_cons (jv 9) ja_nil)) j_int (nomark _)) (jw_and (jt_val (j_call D_independent hr (by rfl) (ja_cons (jv 1) (ja_cons (j_ix o_ix (jv 9) j_int (fun _ _ => rfl)) (ja_cons (j_ix o_ix (jv 9) j_int (fun _ _ => rfl)) ja_nil))))) (jw_and1 (jt_not (jt_val (j_call D_equivalent hr (by rfl) (ja_cons (jv 1) (ja_cons (jv 9) (ja_cons (j_op o_add (j_tup (ja_cons (j_ix o_ix (jv 9) j_int (fun _ _ => rfl)) (ja_cons (j_ix o_ix (jv 9) j_int (fun _ _ => rfl)) ja_nil))) (j_slT (jv 9) (jo_some j_int) jo_none)) ja_nil)))))))))) (b_one (s_ret j_bl)) b_nil)
  (b_cons (s_for PassesOwn.never rfl (ji_r1 (by rfl) T.b_range (jv 2)) (jg_name (i := 12) nd rfl (Or.inl rfl)) (b_one (s_if (jt_cmp (o_ne hr.units) (j_call D_place_word hr (by rfl) (ja_cons (jv 1) (ja_cons (jv 5) (ja_cons (jv 12) ja_nil)))) (j_slT (j_call D_place_word hr (by rfl) (ja_cons (jv 1) (ja_cons (j_ix o_ix (jv 4) j_int (fun _ _ => rfl)) (ja_cons (jv 12) ja_nil)))) jo_none (jo_some (j_cb c_len (by rfl) T.b_len (by decide +kernel) (ja_cons (j_call D_place_word hr (by rfl) (ja_cons (jv 1) (ja_cons (jv 5) (ja_cons (jv 12) ja_nil)))) ja_nil)))) (nomark _)) (b_one (s_ret j_bl)) b_nil)))
  (b_one (s_ret j_bl))))))))))))))))
abbrev s_law : Stmt := topS 50
abbrev n_law : List Str := ["script", "draws", "turn", "places", "letters", "alphabet", "table", "hands", "k", "word", "number", "hand", "letter", "numbers", "who", "mine", "before", "newest", "at", "gone", "other", "told", "rows", "each"]
theorem sc_law : FnScope n_law ["script"] (defScope s_law) := ⟨rfl, rfl, rfl, by decide +kernel, rfl, by decide +kernel, by decide +kernel⟩
theorem der_law (T : Tx P w K mg base c) (D_Table_do : MethOk P w K mg base 2 c.Table "do" 3 (P_Table_do c)) (D_Table_do_again : MethOk P w K mg base 2 c.Table "do_again" 2 (P_Table_do_again c)) (D_Table_events : MethOk P w K mg base 1 c.Table "events" 1 (P_Table_events c)) (D_Table_row : MethOk P w K mg base 2 c.Table "row" 2 (P_Table_row c)) (D_Table_undo : MethX P w K mg base c.NotReady 3 c.Table "undo" 2 (P_Table_undo c) (X_Table_undo c)) (D_Table_undo_with_all : MethX P w K mg base c.NotReady 3 c.Table "undo_with_all" 2 (P_Table_undo_with_all c) (X_Table_undo_with_all c)) (D_Table_word : MethOk P w K mg base 5 c.Table "word" 1 (P_Table_word c)) (D__law_alphabet : DefOk P w K mg base 2 "_law_alphabet" 3 (P__law_alphabet c)) (D__law_draws : DefOk P w K mg base 1 "_law_draws" 2 (P__law_draws c)) (D__law_joins_right : DefOk P w K mg base 8 "_law_joins_right" 4 (P__law_joins_right c)) (D__law_take : DefOk P w K mg base 1 "_law_take" 2 (P__law_take c)) (D_equivalent : DefOk P w K mg base 2 "equivalent" 3 (P_equivalent c)) (D_is_below : DefOk P w K mg base 3 "is_below" 4 (P_is_below c)) (D_is_least : DefOk P w K mg base 3 "is_least" 2 (P_is_least c)) (D_least_form : DefOk P w K mg base 4 "least_form" 2 (P_least_form c)) (D_rest : DefOk P w K mg base 5 "rest" 3 (P_rest c)) (D_without_joins : DefOk P w K mg base 5 "without_joins" 3 (P_without_joins c)) (M_Alphabet : MakeOk P w K mg base 2 "Alphabet" c.Alphabet 3 (P_Alphabet_init c)) (M_Table : MakeOk P w K mg base 1 "Table" c.Table 3 (P_Table_init c)) {g : Addr} {fd : FuncData} (TO : ToldOk K mg g fd) (TB : LamX.TabB base mg c.LC c.LT) {f : Addr} {A : Around} {outer : List Env} {s : Shared} {H : Hp} {E : XK} (hr : Room 8 (A.deeper (envOfC "law" (defScope s_law) s.heap.objs.size f (.ref c.LC)))) :
    JB (cxOf CX0 P w K mg base n_law "law" (defScope s_law) f (.ref c.LC) A outer s H E).nox (defBody s_law) (w_law c) :=
  have nd := sc_law.nd
  (b_cons (s_set (i := 1) nd rfl (Or.inl rfl) (j_call D__law_draws hr (by rfl) (ja_cons (jv 0) (ja_cons j_int ja_nil))))
  (b_cons (s_for PassesOwn.never rfl (ji_r1 (by rfl) T.b_range j_int) (jg_name (i := 2) nd rfl (Or.inl rfl)) (b_cons (s_asg (j_call D__law_alphabet hr (by rfl) (ja_cons (jv 1) (ja_cons j_int (ja_cons j_int ja_nil)))) (jg_tup rfl (jgs_cons (jg_name (i := 3) nd rfl (Or.inl rfl)) (jgs_cons (jg_name (i := 4) nd rfl (Or.inl rfl)) jgs_nil))))
  (b_cons (s_set (i := 5) nd rfl (Or.inr rfl) (j_frz (j_make M_Alphabet hr (by rfl) (ja_cons (jv 3) (ja_cons (jv 4) ja_nil)))))
  (b_cons (s_asg (j_tup (ja_cons (j_make M_Table hr (by rfl) (ja_cons (jv 5) (ja_cons j_int ja_nil))) (ja_cons j_int ja_nil))) (jg_tup rfl (jgs_cons (jg_name (i := 6) nd rfl (Or.inr rfl)) (jgs_cons (jg_name (i := 7) nd rfl (Or.inl rfl)) jgs_nil))))
  (b_cons (s_for PassesOwn.never rfl (ji_r1 (by rfl) T.b_range (j_call D__law_take hr (by rfl) (ja_cons (jv 1) (ja_cons j_int ja_nil)))) (jg_name (i := 8) nd rfl (Or.inl rfl)) (b_one (s_expr (j_meth (ks := k_Table) D_Table_do T.cls_Table hr (by decide) (jv 6) (ja_cons (j_call D__law_take hr (by rfl) (ja_cons (jv 1) (ja_cons (jv 7) ja_nil))) (ja_cons (j_call D__law_take hr (by rfl) (ja_cons (jv 1) (ja_cons (j_cb c_len (by rfl) T.b_len (by decide +kernel) (ja_cons (jv 4) ja_nil)) ja_nil))) ja_nil))))))
  (b_cons (s_set (i := 9) nd rfl (Or.inr rfl) (j_ct c_tuple (by rfl) T.b_tuple (by decide +kernel) (ja_cons (j_fz (f_lc [(("number" : Str), 10), (("hand" : Str), 11), (("letter" : Str), 12)] rfl rfl nd (ji_seq (j_meth0 (ks := k_Table) D_Table_events T.cls_Table hr (by decide) (jv 6))) (blkOk_by (N := n_law) (sc := defScope s_law) (by decide +kernel)) (fun _ _ _ _ _ => (tg_tup rfl (pgs_cons (pg_name (i := 10) nd rfl (Or.inl rfl)) (pgs_cons (pg_name (i := 11) nd rfl (Or.inl rfl)) (pgs_cons (pg_name (i := 12) nd rfl (Or.inl rfl)) pgs_nil))))) (by decide) (fun _ _ _ _ _ => jts_nil) (fun _ _ _ _ _ => (jv 12)))) ja_nil)))
  (b_cons (s_if (jt_w (jw_or (jt_cmp (o_ne hr.units) (j_meth0 (ks := k_Table) D_Table_word T.cls_Table hr (by decide) (jv 6)) (j_call D_least_form hr (by rfl) (ja_cons (jv 5) (ja_cons (jv 9) ja_nil))) (nomark _)) (jw_or (jt_not (jt_val (j_call D_equivalent hr (by rfl) (ja_cons (jv 5) (ja_cons (j_meth0 (ks := k_Table) D_Table_word T.cls_Table hr (by decide) (jv 6)) (ja_cons (jv 9) ja_nil)))))) (jw_or1 (jt_cmp o_notB (j_call D_is_least hr (by rfl) (ja_cons (jv 5) (ja_cons (j_meth0 (ks := k_Table) D_Table_word T.cls_Table hr (by decide) (jv 6)) ja_nil))) j_bl (nomark _)))))) (b_one (s_ret j_bl)) b_nil)
  (b_cons (s_set (i := 11) nd rfl (Or.inr rfl) (j_call D__law_take hr (by rfl) (ja_cons (jv 1) (ja_cons (jv 7) ja_nil))))
  (b_cons (s_set (i := 13) nd rfl (Or.inr rfl) (j_fz (f_lc [(("number" : Str), 10), (("who" : Str), 14), (("letter" : Str), 12)] rfl rfl nd (ji_seq (j_meth0 (ks := k_Table) D_Table_events T.cls_Table hr (by decide) (jv 6))) (blkOk_by (N := n_law) (sc := defScope s_law) (by decide +kernel)) (fun _ _ _ _ _ => (tg_tup rfl (pgs_cons (pg_name (i := 10) nd rfl (Or.inl rfl)) (pgs_cons (pg_name (i := 14) nd rfl (Or.inl rfl)) (pgs_cons (pg_name (i := 12) nd rfl (Or.inl rfl)) pgs_nil))))) (by decide) (fun _ _ _ _ _ => jts_nil) (fun _ _ _ _ _ => (jv 10)))))
  (b_cons (s_lcF (i := 15) [(("number" : Str), 10), (("who" : Str), 14), (("letter" : Str), 12)] rfl rfl nd rfl rfl (sw_true rfl rfl rfl (by decide +kernel)) (ji_seq (j_meth0 (ks := k_Table) D_Table_events T.cls_Table hr (by decide) (jv 6))) (blkOk_by (N := n_law) (sc := defScope s_law) (by decide +kernel)) (fun _ _ _ _ _ => (tg_tup rfl (pgs_cons (pg_name (i := 10) nd rfl (Or.inl rfl)) (pgs_cons (pg_name (i := 14) nd rfl (Or.inl rfl)) (pgs_cons (pg_name (i := 12) nd rfl (Or.inl rfl)) pgs_nil))))) (by decide) (fun _ _ _ _ _ => (jts_one (jt_cmp (o_eq hr.units) (jv 14) (jv 11) (nomark _)))) (fun _ _ _ _ _ => (jv 10)))
  (b_cons (s_set (i := 16) nd rfl (Or.inl rfl) (j_meth0 (ks := k_Table) D_Table_word T.cls_Table hr (by decide) (jv 6)))
  (b_cons (s_if (jt_cmp o_gt (j_cb c_len (by rfl) T.b_len (by decide +kernel) (ja_cons (jv 15) ja_nil)) j_int (nomark _)) (b_cons (s_set (i := 17) nd rfl (Or.inl rfl) (j_ix o_ix (jv 15) (j_op o_sub (j_cb c_len (by rfl) T.b_len (by decide +kernel) (ja_cons (jv 15) ja_nil)) j_int) (fun _ _ => rfl)))
  (b_cons (s_set (i := 18) nd rfl (Or.inr rfl) (j_m PySem.F.slot_list_index PySem.F.type_list_index m_index (jv 13) (ja_cons (jv 17) ja_nil)))
  (b_cons (s_set (i := 19) nd rfl (Or.inl rfl) (j_fz (f_op o_cat (j_fz (f_lst (ja_cons (jv 18) ja_nil))) (j_fz (f_lc [(("other" : Str), 20)] rfl rfl nd (ji_r2 (by rfl) T.b_range (j_op o_add (jv 18) j_int) (j_cb c_len (by rfl) T.b_len (by decide +kernel) (ja_cons (jv 9) ja_nil))) (blkOk_by (N := n_law) (sc := defScope s_law) (by decide +kernel)) (fun _ _ _ _ _ => (tg_name (pg_name (i := 20) nd rfl (Or.inl rfl)))) (by decide) (fun _ _ _ _ _ => (jts_one (jt_val (j_call D_is_below hr (by rfl) (ja_cons (jv 5) (ja_cons (jv 9) (ja_cons (jv 18) (ja_cons (jv 20) ja_nil)))))))) (fun _ _ _ _ _ => (jv 20)))))))
  (b_cons (s_set (i := 21) nd rfl (Or.inl rfl) (j_methN (ks := k_Table) D_Table_undo_with_all T.cls_Table hr (by decide) (jv 6) (ja_cons (jv 11) ja_nil)))
  (b_cons (s_if (jt_w (jw_or (jt_cmp (o_ne hr.units) (jv 21) (j_fz (f_lc [(("k" : Str), 8)] rfl rfl nd (ji_seq (jv 19)) (blkOk_by (N := n_law) (sc := defScope s_law) (by decide +kernel)) (fun _ _ _ _ _ => (tg_name (pg_name (i := 8) nd rfl (Or.inl rfl)))) (by decide) (fun _ _ _ _ _ => jts_nil) (fun _ _ _ _ _ => (j_ix o_ix (jv 13) (jv 8) (fun _ _ => rfl))))) (nomark _)) (jw_or1 (jt_cmp (o_ne hr.units) (j_meth0 (ks := k_Table) D_Table_word T.cls_Table hr (by decide) (jv 6)) (j_call D_without_joins hr (by rfl) (ja_cons (jv 5) (ja_cons (jv 9) (ja_cons (j_fz (f_lst (ja_cons (jv 18) ja_nil))) ja_nil)))) (nomark _))))) (b_one (s_ret j_bl)) b_nil)
  (b_cons (s_if (jt_w (jw_or (jt_cmp o_isN (j_call D_rest hr (by rfl) (ja_cons (jv 5) (ja_cons (j_meth0 (ks := k_Table) D_Table_word T.cls_Table hr (by decide) (jv 6)) (ja_cons (jv 16) ja_nil)))) j_non (nomark _)) (jw_or1 (jt_cmp (o_ne hr.units) (j_cb c_len (by rfl) T.b_len (by decide +kernel) (ja_cons (j_meth0 (ks := k_Table) D_Table_word T.cls_Table hr (by decide) (jv 6)) ja_nil)) (j_op o_sub (j_cb c_len (by rfl) T.b_len (by decide +kernel) (ja_cons (jv 16) ja_nil)) (j_cb c_len (by rfl) T.b_len (by decide +kernel) (ja_cons (jv 19) ja_nil))) (nomark _))))) (b_one (s_ret j_bl)) b_nil)
  (b_cons (s_lcF (i := 22) [(("each" : Str), 23)] rfl rfl nd rfl rfl (sw_true rfl rfl rfl (by decide +kernel)) (ji_r1 (by rfl) T.b_range (jv 7)) (blkOk_by (N := n_law) (sc := defScope s_law) (by decide +kernel)) (fun _ _ _ _ _ => (tg_name (pg_name (i := 23) nd rfl (Or.inl rfl)))) (by decide) (fun _ _ _ _ _ => jts_nil) (fun _ _ _ _ _ => (j_cb c_len (by rfl) T.b_len (by decide +kernel) (ja_cons (j_meth (ks := k_Table) D_Table_row T.cls_Table hr (by decide) (jv 6) (ja_cons (jv 23) ja_nil)) ja_nil))))
  (b_cons (s_if (jt_cmp (o_ne hr.units) (j_cb (c_sum rfl) (by rfl) T.b_sum (by decide +kernel) (ja_cons (jv 22) ja_nil)) (j_cb c_len (by rfl) T.b_len (by decide +kernel) (ja_cons (jv 19) ja_nil)) (nomark _)) (b_one (s_ret j_bl)) b_nil)
  (b_one (s_if (jt_cmp (o_eq hr.units) (j_cb c_len (by rfl) T.b_len (by decide +kernel) (ja_cons (jv 19) ja_nil)) j_int (nomark _)) (b_cons (s_if (jt_w (jw_or (jt_cmp o_isN (j_meth (ks := k_Table) D_Table_do_again T.cls_Table hr (by decide) (jv 6) (ja_cons (jv 11) ja_nil)) j_non (nomark _)) (jw_or (jt_cmp (o_ne hr.units) (j_meth0 (ks := k_Table) D_Table_word T.cls_Table hr (by decide) (jv 6)) (jv 16) (nomark _)) (jw_or1 (jt_cmp (o_ne hr.units) (j_meth (ks := k_Table) D_Table_row T.cls_Table hr (by decide) (jv 6) (ja_cons (jv 11) ja_nil)) (j_tup ja_nil) (nomark _)))))) (b_one (s_ret j_bl)) b_nil)
  (b_one (s_if (jt_w (jw_or (jt_cmp o_isN (j_lam (k := 3) (fun t hb => told_call TO T TB rfl (by rfl) (hr.mono (by decide)) (LamX.lamS_by (sc := defScope s_law) (by decide +kernel)) rfl (fun _ _ _ _ _ => rfl) hb) (fun A outer s H E f cc hr => j_methN (ks := k_Table) D_Table_undo T.cls_Table hr (by decide) (jv 6) (ja_cons (jv 11) ja_nil)) (fun A outer s H E f cc hr => x_meth (ks := k_Table) D_Table_undo (takes_of rfl rfl rfl rfl) (fun _ _ _ _ h => h) T.cls_Table hr (by decide) (jv 6) (ja_cons (jv 11) ja_nil))) j_non (nomark _)) (jw_or1 (jt_cmp (o_ne hr.units) (j_meth0 (ks := k_Table) D_Table_word T.cls_Table hr (by decide) (jv 6)) (j_call D_without_joins hr (by rfl) (ja_cons (jv 5) (ja_cons (jv 9) (ja_cons (j_fz (f_lst (ja_cons (jv 18) ja_nil))) ja_nil)))) (nomark _))))) (b_one (s_ret j_bl)) b_nil))) b_nil)))))))))) (b_one (s_if (jt_cmp o_notN (j_lam (k := 3) (fun t hb => told_call TO T TB rfl (by rfl) (hr.mono (by decide)) (LamX.lamS_by (sc := defScope s_law) (by decide +kernel)) rfl (fun _ _ _ _ _ => rfl) hb) (fun A outer s H E f cc hr => j_methN (ks := k_Table) D_Table_undo T.cls_Table hr (by decide) (jv 6) (ja_cons (jv 11) ja_nil)) (fun A outer s H E f cc hr => x_meth (ks := k_Table) D_Table_undo (takes_of rfl rfl rfl rfl) (fun _ _ _ _ h => h) T.cls_Table hr (by decide) (jv 6) (ja_cons (jv 11) ja_nil))) j_non (nomark _)) (b_one (s_ret j_bl)) (b_one (s_if (jt_cmp o_notN (j_lam (k := 3) (fun t hb => told_call TO T TB rfl (by rfl) (hr.mono (by decide)) (LamX.lamS_by (sc := defScope s_law) (by decide +kernel)) rfl (fun _ _ _ _ _ => rfl) hb) (fun A outer s H E f cc hr => j_methN (ks := k_Table) D_Table_undo_with_all T.cls_Table hr (by decide) (jv 6) (ja_cons (jv 11) ja_nil)) (fun A outer s H E f cc hr => x_meth (ks := k_Table) D_Table_undo_with_all (takes_of rfl rfl rfl rfl) (fun _ _ _ _ h => h) T.cls_Table hr (by decide) (jv 6) (ja_cons (jv 11) ja_nil))) j_non (nomark _)) (b_one (s_ret j_bl)) b_nil)))))
  (b_one (s_if (jt_not (jt_val (j_call D__law_joins_right hr (by rfl) (ja_cons (jv 1) (ja_cons (jv 5) (ja_cons (jv 3) (ja_cons (jv 4) ja_nil))))))) (b_one (s_ret j_bl)) b_nil))))))))))))))
  (b_one (s_ret j_bl))))
end
end K5

namespace K5
open PySem PySem.Spec PyProof.Rows L2 Tk
section
variable {P : Program} {w : World} {K : PySem.W.Frag} {mg : Str → Option Value} {base : Heap}
theorem fn_okC {x qual : Str} {st : Stmt} {f : Addr} {fd : FuncData} {N ps : List Str} {k : Nat} (F : Fun K x qual st f fd) (Sc : FnScope N ps (defScope st)) {fl : Tk.Fin} (hf : FinOk fl) {W : WS} {Fp : Pr} {n : Nat} (hn : ps.length = n)
    (hder : ∀ {cdv : Value} {A : Around} {outer : List Env} {s : Shared} {H : Hp} {E : XK}, Room k (A.deeper (envOfC qual (defScope st) s.heap.objs.size f cdv)) → JB (cxOf CX0 P w K mg base N qual (defScope st) f cdv A outer s H E).nox (defBody st) W)
    (hw : ∀ ds S Q, ds.length = n → Fp ds S Q → W (esDef fl S Q) (start0 N.length ds) S) : FnOk P w K mg base CX0 (k + 1) f fd ps (spOf K n Fp) := by
  subst hn
  refine F.ok Sc (fun vs H Q E ⟨W, S, ds, R, hH, hs, rv, hl, h, kt⟩ => rv.length.trans hl) (fun cdv A outer s H vs Q E hr ⟨W0, S, ds, R, hH, hs, rv, hl, h, kt⟩ => ?_)
  refine ⟨_, hder hr, W0, start0 N.length ds, S, _, hH, hs, .start rv, hw ds S R hl h, ?_⟩
  have kf := hf.ok K W0 S R Q hs kt
  exact ⟨fun W' S' σ' ρ' l hs' re' h => kf W' S' .non .non l hs' .non h, kf, fun _ _ _ _ _ _ _ h => h.elim, fun _ _ _ _ _ _ _ h => h.elim⟩
theorem rvs_ints (G : Hp) (e : List Addr) : ∀ ns : List Int, RVs K G e (ns.map V.int) (ns.map D.int)
  | [] => .nil
  | n :: ns => .cons (.int n) (rvs_ints G e ns)
def lawFn (c : Ca) (kV dc pm ct : Value) (an : Option Addr) : FuncData := PySem.W.fnOf "law" "law" (defArgs s_law) (defBody s_law) (defScope s_law) .none kV dc pm an (.ref c.LC) ct
theorem law_fn {c : Ca} {f : Addr} {oc kV dc pm ct : Value} {od an : Option Addr} {osl : Array (Option Value)} {k : Nat} (lk : K.lookup f = some ⟨oc, od, .func (lawFn c kV dc pm ct an), osl⟩) (hc : PySem.W.codeIn K (.ref c.LC) "law" = true)
    (hder : ∀ {A : Around} {outer : List Env} {s : Shared} {H : Hp} {E : XK}, Room k (A.deeper (envOfC "law" (defScope s_law) s.heap.objs.size f (.ref c.LC))) → JB (cxOf CX0 P w K mg base n_law "law" (defScope s_law) f (.ref c.LC) A outer s H E).nox (defBody s_law) (w_law c)) :
    FnOk P w K mg base CX0 (k + 1) f (lawFn c kV dc pm ct an) ["script"] (spOf K 1 (P_law c)) := by
  refine ⟨fun vs H Q E ⟨W, S, ds, R, hH, hs, rv, hl, h, kt⟩ => rv.length.trans hl, fun A outer s H args us vs Q E hr e0 hb rv ⟨W0, S, ds, R, hH, hs, rvs, hl, h, kt⟩ => ?_⟩
  refine LamX.run_ofS (CX := CX0) lk hc sc_law hr e0 hb rv (rvs.length.trans hl) fun hr' => ⟨_, PSs.nox (hder (E := E) hr'), W0, start0 24 ds, S, _, hH, hs, .start rvs, b_law ds S R h, ?_⟩
  exact ⟨fun W' S' σ' ρ' l hs' re' h => kt W' S' .non .non l hs' .non h, kt, fun _ _ _ _ _ _ _ h => h.elim, fun _ _ _ _ _ _ _ h => h.elim⟩
/-- the heap without its tables -/
def hid (H : Hp) : Hp := fun b => match H b with
  | some (.tbl _) => none
  | o => o
theorem hid_of {H : Hp} {b : Addr} {o : HO} (h : hid H b = some o) : H b = some o ∧ ∀ ps, o ≠ .tbl ps := by
  unfold hid at h
  split at h
  · cases h
  · rename_i hn
    exact ⟨h, fun ps e => hn ps (by rw [h, e])⟩
theorem hid_is {H : Hp} {b : Addr} {o : HO} (h : H b = some o) (ht : ∀ ps, o ≠ .tbl ps) : hid H b = some o := by
  unfold hid
  split
  · rename_i ps e
    rw [h] at e
    exact absurd (Option.some.inj e) (ht ps)
  · exact h
theorem law_start {c : Ca} {H : Hp} {a : Addr} {ns : List Int} (hl : ns.length ≤ 63) (hT : H c.LT = some (.tbl #[])) (hS : SqL K H a (ns.map V.int)) {E : XK} : spOf K 1 (P_law c) [.ref a] H (fun v _ => v = .bl true) E := by
  have hS' : SqL K (hid H) a (ns.map V.int) := by
    rcases hS with (h | ⟨o, h⟩) | h
    · exact .inl (.inl (hid_is h fun _ z => by cases z))
    · exact .inl (.inr ⟨o, hid_is h fun _ z => by cases z⟩)
    · exact .inr h
  refine ⟨⟨hid H, [c.LT], H⟩, [.tab c.LT lamq], [.rd (ns.map D.int)], fun d _ => d = .bl true, rfl, ⟨fun b o h => (hid_of h).1, rfl, fun b h => ?_, by simp, fun l b x h1 h2 => ?_, fun b ps h => (hid_of h).2 ps rfl, fun l P q h => ?_⟩, .cons (.rd hS' (rvs_ints _ _ ns)) .nil, rfl, ⟨⟨ns, rfl, Nat.le_trans hl (by decide), fun S' => rfl⟩, rfl⟩, fun W' S' v d l hs r h => by
    subst h
    cases r
    rfl⟩
  · have h : b = c.LT := List.mem_singleton.mp h
    subst h
    show H c.LT ≠ none
    rw [hT]
    simp
  · have hl0 : l = 0 := by
      have := (List.getElem?_eq_some_iff.mp h2).1
      simp at this
      exact this
    subst hl0
    cases h1
    cases h2
    refine .inr ⟨?_, .tbl #[], hT, ?_, fun pos cv h => ?_⟩
    · show hid H c.LT = none
      unfold hid
      rw [hT]
    · obtain ⟨ps, e, e1, _⟩ := LamX.TabS.nil (q := "") hT
      rw [hT] at e
      cases e
      exact e1
    · cases h
  · have hl0 : l = 0 := by
      have := (List.getElem?_eq_some_iff.mp h).1
      simp at this
      exact this
    subst hl0
    cases h
    exact ⟨rfl, rfl⟩
theorem codeHd_look {c Q : Addr} (h : PySem.W.codeHdIn K c Q = true) : ∃ e dd vs sl, K.lookup c = some ⟨e, dd, .fields vs, sl⟩ ∧ vs[11]? = some (.ref Q) := by
  unfold PySem.W.codeHdIn at h
  split at h
  · rename_i dd vs sl e
    simp only [Bool.and_eq_true] at h
    have h1 := h.1.1.1.1.1
    split at h1
    · rename_i Q' e2
      rw [beq_iff_eq.mp h1] at e2
      exact ⟨_, _, vs, _, e, e2⟩
    · cases h1
  · cases h
end
/-- all that the end asks of the law -/
def LawK (l : PySem.W.OpenLaw) (w : World) (K : PySem.W.Frag) (mg : Str → Option Value) (fa : Addr) : Prop :=
  ∃ (c : Ca) (oc : Value) (od an : Option Addr) (osl : Array (Option Value)) (kV dc pm ct : Value), K.lookup fa = some ⟨oc, od, .func (lawFn c kV dc pm ct an), osl⟩ ∧ PySem.W.codeHdIn K c.LC c.LT = true ∧ K.lookup c.LT = none ∧
    ∀ base : Heap, LamX.TabB base mg c.LC c.LT → FnOk l.prog w K mg base CX0 9 fa (lawFn c kV dc pm ct an) ["script"] (spOf K 1 (P_law c))
theorem all_mk {l : PySem.W.OpenLaw} {w : World} {K : PySem.W.Frag} {h : Heap} {mg : Str → Option Value} {fa LC LT C_Alphabet C_Table C_NotReady : Addr} (X : K.In h) (G : h.Ns mainGlobals mg) (hfa : mg "law" = some (.ref fa))
    {g0 : Addr} {gd ga : Option Addr} {gs : Array (Option Value)} {go gk gc gp gcd gt : Value}
    {f0 : Addr} {od0 an0 : Option Addr} {sl0 : Array (Option Value)} {oc0 kV0 dc0 pm0 cd0 ct0 : Value}
    {f1 : Addr} {od1 an1 : Option Addr} {sl1 : Array (Option Value)} {oc1 kV1 dc1 pm1 cd1 ct1 : Value}
    {f2 : Addr} {od2 an2 : Option Addr} {sl2 : Array (Option Value)} {oc2 kV2 dc2 pm2 cd2 ct2 : Value}
    {f3 : Addr} {od3 an3 : Option Addr} {sl3 : Array (Option Value)} {oc3 kV3 dc3 pm3 cd3 ct3 : Value}
    {f4 : Addr} {od4 an4 : Option Addr} {sl4 : Array (Option Value)} {oc4 kV4 dc4 pm4 cd4 ct4 : Value}
    {f5 : Addr} {od5 an5 : Option Addr} {sl5 : Array (Option Value)} {oc5 kV5 dc5 pm5 cd5 ct5 : Value}
    {f6 : Addr} {od6 an6 : Option Addr} {sl6 : Array (Option Value)} {oc6 kV6 dc6 pm6 cd6 ct6 : Value}
    {f7 : Addr} {od7 an7 : Option Addr} {sl7 : Array (Option Value)} {oc7 kV7 dc7 pm7 cd7 ct7 : Value}
    {f8 : Addr} {od8 an8 : Option Addr} {sl8 : Array (Option Value)} {oc8 kV8 dc8 pm8 cd8 ct8 : Value}
    {f9 : Addr} {od9 an9 : Option Addr} {sl9 : Array (Option Value)} {oc9 kV9 dc9 pm9 cd9 ct9 : Value}
    {f10 : Addr} {od10 an10 : Option Addr} {sl10 : Array (Option Value)} {oc10 kV10 dc10 pm10 cd10 ct10 : Value}
    {f11 : Addr} {od11 an11 : Option Addr} {sl11 : Array (Option Value)} {oc11 kV11 dc11 pm11 cd11 ct11 : Value}
    {f12 : Addr} {od12 an12 : Option Addr} {sl12 : Array (Option Value)} {oc12 kV12 dc12 pm12 cd12 ct12 : Value}
    {f13 : Addr} {od13 an13 : Option Addr} {sl13 : Array (Option Value)} {oc13 kV13 dc13 pm13 cd13 ct13 : Value}
    {f14 : Addr} {od14 an14 : Option Addr} {sl14 : Array (Option Value)} {oc14 kV14 dc14 pm14 cd14 ct14 : Value}
    {f15 : Addr} {od15 an15 : Option Addr} {sl15 : Array (Option Value)} {oc15 kV15 dc15 pm15 cd15 ct15 : Value}
    {f16 : Addr} {od16 an16 : Option Addr} {sl16 : Array (Option Value)} {oc16 kV16 dc16 pm16 cd16 ct16 : Value}
    {f17 : Addr} {od17 an17 : Option Addr} {sl17 : Array (Option Value)} {oc17 kV17 dc17 pm17 cd17 ct17 : Value}
    {f18 : Addr} {od18 an18 : Option Addr} {sl18 : Array (Option Value)} {oc18 kV18 dc18 pm18 cd18 ct18 : Value}
    {f19 : Addr} {od19 an19 : Option Addr} {sl19 : Array (Option Value)} {oc19 kV19 dc19 pm19 cd19 ct19 : Value}
    {f20 : Addr} {od20 an20 : Option Addr} {sl20 : Array (Option Value)} {oc20 kV20 dc20 pm20 cd20 ct20 : Value}
    {f21 : Addr} {od21 an21 : Option Addr} {sl21 : Array (Option Value)} {oc21 kV21 dc21 pm21 cd21 ct21 : Value}
    {f22 : Addr} {od22 an22 : Option Addr} {sl22 : Array (Option Value)} {oc22 kV22 dc22 pm22 cd22 ct22 : Value}
    {f23 : Addr} {od23 an23 : Option Addr} {sl23 : Array (Option Value)} {oc23 kV23 dc23 pm23 cd23 ct23 : Value}
    {f24 : Addr} {od24 an24 : Option Addr} {sl24 : Array (Option Value)} {oc24 kV24 dc24 pm24 cd24 ct24 : Value}
    {f25 : Addr} {od25 an25 : Option Addr} {sl25 : Array (Option Value)} {oc25 kV25 dc25 pm25 cd25 ct25 : Value}
    {f26 : Addr} {od26 an26 : Option Addr} {sl26 : Array (Option Value)} {oc26 kV26 dc26 pm26 cd26 ct26 : Value}
    {f27 : Addr} {od27 an27 : Option Addr} {sl27 : Array (Option Value)} {oc27 kV27 dc27 pm27 cd27 ct27 : Value}
    {f28 : Addr} {od28 an28 : Option Addr} {sl28 : Array (Option Value)} {oc28 kV28 dc28 pm28 cd28 ct28 : Value}
    {f29 : Addr} {od29 an29 : Option Addr} {sl29 : Array (Option Value)} {oc29 kV29 dc29 pm29 cd29 ct29 : Value}
    {f30 : Addr} {od30 an30 : Option Addr} {sl30 : Array (Option Value)} {oc30 kV30 dc30 pm30 cd30 ct30 : Value}
    {f31 : Addr} {od31 an31 : Option Addr} {sl31 : Array (Option Value)} {oc31 kV31 dc31 pm31 cd31 ct31 : Value}
    {f32 : Addr} {od32 an32 : Option Addr} {sl32 : Array (Option Value)} {oc32 kV32 dc32 pm32 cd32 ct32 : Value}
    {f33 : Addr} {od33 an33 : Option Addr} {sl33 : Array (Option Value)} {oc33 kV33 dc33 pm33 cd33 ct33 : Value}
    {f34 : Addr} {od34 an34 : Option Addr} {sl34 : Array (Option Value)} {oc34 kV34 dc34 pm34 cd34 ct34 : Value}
    {f35 : Addr} {od35 an35 : Option Addr} {sl35 : Array (Option Value)} {oc35 kV35 dc35 pm35 cd35 ct35 : Value}
    {f36 : Addr} {od36 an36 : Option Addr} {sl36 : Array (Option Value)} {oc36 kV36 dc36 pm36 cd36 ct36 : Value}
    {f37 : Addr} {od37 an37 : Option Addr} {sl37 : Array (Option Value)} {oc37 kV37 dc37 pm37 cd37 ct37 : Value}
    {f38 : Addr} {od38 an38 : Option Addr} {sl38 : Array (Option Value)} {oc38 kV38 dc38 pm38 cd38 ct38 : Value}
    {f39 : Addr} {od39 an39 : Option Addr} {sl39 : Array (Option Value)} {oc39 kV39 dc39 pm39 cd39 ct39 : Value}
    {f40 : Addr} {od40 an40 : Option Addr} {sl40 : Array (Option Value)} {oc40 kV40 dc40 pm40 cd40 ct40 : Value}
    {f41 : Addr} {od41 an41 : Option Addr} {sl41 : Array (Option Value)} {oc41 kV41 dc41 pm41 cd41 ct41 : Value}
    {f42 : Addr} {od42 an42 : Option Addr} {sl42 : Array (Option Value)} {oc42 kV42 dc42 pm42 ct42 : Value}
    {t_MOST_HANDS : Tok}
    {t_MOST_LETTERS : Tok}
    {t_MOST_PLACES : Tok}
    (zC0 : PySem.W.nsIn K mainGlobals "Alphabet" = some (some (.ref C_Alphabet)))
    (zg0 : PySem.W.plainGet K C_Alphabet Str.empty = true)
    (zd0 : PySem.W.hasDictIn K C_Alphabet = true)
    (zp0 : PySem.W.plainOver K C_Alphabet = true)
    (zs0 : PySem.W.findIn K (.ref C_Alphabet) "__setattr__" = some (some (.builtin "object.__setattr__")))
    (zm0 : PySem.W.makesIn K C_Alphabet = true)
    (zk0 : PySem.W.keepIn K (.ref C_Alphabet) = true)
    (zC1 : PySem.W.nsIn K mainGlobals "Table" = some (some (.ref C_Table)))
    (zg1 : PySem.W.plainGet K C_Table Str.empty = true)
    (zd1 : PySem.W.hasDictIn K C_Table = true)
    (zp1 : PySem.W.plainOver K C_Table = true)
    (zs1 : PySem.W.findIn K (.ref C_Table) "__setattr__" = some (some (.builtin "object.__setattr__")))
    (zm1 : PySem.W.makesIn K C_Table = true)
    (zk1 : PySem.W.keepIn K (.ref C_Table) = true)
    (ta : PySem.W.nsIn K mainGlobals "_law_told" = some (some (.ref g0)))
    (tl : K.lookup g0 = some ⟨go, gd, .func (PySem.W.fnOf "_law_told" "_law_told" (defArgs s__law_told) (defBody s__law_told) (defScope s__law_told) .none gk gc gp ga gcd gt), gs⟩)
    (tcode : PySem.W.codeIn K gcd "_law_told" = true)
    (tkeep : PySem.W.keepIn K (.ref g0) = true)
    (a0 : PySem.W.nsIn K mainGlobals "fits" = some (some (.ref f0)))
    (l0 : K.lookup f0 = some ⟨oc0, od0, .func (PySem.W.fnOf "fits" "fits" (defArgs s_fits) (defBody s_fits) (defScope s_fits) .none kV0 dc0 pm0 an0 cd0 ct0), sl0⟩)
    (c0 : PySem.W.codeIn K cd0 "fits" = true)
    (k0 : PySem.W.keepIn K (.ref f0) = true)
    (a1 : PySem.W.nsIn K mainGlobals "independent" = some (some (.ref f1)))
    (l1 : K.lookup f1 = some ⟨oc1, od1, .func (PySem.W.fnOf "independent" "independent" (defArgs s_independent) (defBody s_independent) (defScope s_independent) .none kV1 dc1 pm1 an1 cd1 ct1), sl1⟩)
    (c1 : PySem.W.codeIn K cd1 "independent" = true)
    (k1 : PySem.W.keepIn K (.ref f1) = true)
    (a2 : PySem.W.nsIn K mainGlobals "next_barred" = some (some (.ref f2)))
    (l2 : K.lookup f2 = some ⟨oc2, od2, .func (PySem.W.fnOf "next_barred" "next_barred" (defArgs s_next_barred) (defBody s_next_barred) (defScope s_next_barred) .none kV2 dc2 pm2 an2 cd2 ct2), sl2⟩)
    (c2 : PySem.W.codeIn K cd2 "next_barred" = true)
    (k2 : PySem.W.keepIn K (.ref f2) = true)
    (a3 : PySem.W.findIn K (.ref C_Table) "__init__" = some (some (.ref f3)))
    (i3 : PySem.W.isFn K (.ref f3) = true)
    (l3 : K.lookup f3 = some ⟨oc3, od3, .func (PySem.W.fnOf "__init__" "Table.__init__" (defArgs s_Table_init) (defBody s_Table_init) (defScope s_Table_init) .none kV3 dc3 pm3 an3 cd3 ct3), sl3⟩)
    (c3 : PySem.W.codeIn K cd3 "Table.__init__" = true)
    (k3 : PySem.W.keepIn K (.ref f3) = true)
    (a4 : PySem.W.findIn K (.ref C_Table) "_check" = some (some (.ref f4)))
    (i4 : PySem.W.isFn K (.ref f4) = true)
    (l4 : K.lookup f4 = some ⟨oc4, od4, .func (PySem.W.fnOf "_check" "Table._check" (defArgs s_Table__check) (defBody s_Table__check) (defScope s_Table__check) .none kV4 dc4 pm4 an4 cd4 ct4), sl4⟩)
    (c4 : PySem.W.codeIn K cd4 "Table._check" = true)
    (k4 : PySem.W.keepIn K (.ref f4) = true)
    (a5 : PySem.W.findIn K (.ref C_Table) "_add" = some (some (.ref f5)))
    (i5 : PySem.W.isFn K (.ref f5) = true)
    (l5 : K.lookup f5 = some ⟨oc5, od5, .func (PySem.W.fnOf "_add" "Table._add" (defArgs s_Table__add) (defBody s_Table__add) (defScope s_Table__add) .none kV5 dc5 pm5 an5 cd5 ct5), sl5⟩)
    (c5 : PySem.W.codeIn K cd5 "Table._add" = true)
    (k5 : PySem.W.keepIn K (.ref f5) = true)
    (a6 : PySem.W.findIn K (.ref C_Table) "_newest" = some (some (.ref f6)))
    (i6 : PySem.W.isFn K (.ref f6) = true)
    (l6 : K.lookup f6 = some ⟨oc6, od6, .func (PySem.W.fnOf "_newest" "Table._newest" (defArgs s_Table__newest) (defBody s_Table__newest) (defScope s_Table__newest) .none kV6 dc6 pm6 an6 cd6 ct6), sl6⟩)
    (c6 : PySem.W.codeIn K cd6 "Table._newest" = true)
    (k6 : PySem.W.keepIn K (.ref f6) = true)
    (a7 : PySem.W.findIn K (.ref C_Table) "_take_back" = some (some (.ref f7)))
    (i7 : PySem.W.isFn K (.ref f7) = true)
    (l7 : K.lookup f7 = some ⟨oc7, od7, .func (PySem.W.fnOf "_take_back" "Table._take_back" (defArgs s_Table__take_back) (defBody s_Table__take_back) (defScope s_Table__take_back) .none kV7 dc7 pm7 an7 cd7 ct7), sl7⟩)
    (c7 : PySem.W.codeIn K cd7 "Table._take_back" = true)
    (k7 : PySem.W.keepIn K (.ref f7) = true)
    (a8 : PySem.W.findIn K (.ref C_Table) "events" = some (some (.ref f8)))
    (i8 : PySem.W.isFn K (.ref f8) = true)
    (l8 : K.lookup f8 = some ⟨oc8, od8, .func (PySem.W.fnOf "events" "Table.events" (defArgs s_Table_events) (defBody s_Table_events) (defScope s_Table_events) .none kV8 dc8 pm8 an8 cd8 ct8), sl8⟩)
    (c8 : PySem.W.codeIn K cd8 "Table.events" = true)
    (k8 : PySem.W.keepIn K (.ref f8) = true)
    (a9 : PySem.W.nsIn K mainGlobals "without_prefixes" = some (some (.ref f9)))
    (l9 : K.lookup f9 = some ⟨oc9, od9, .func (PySem.W.fnOf "without" "without" (defArgs s_without_prefixes) (defBody s_without_prefixes) (defScope s_without_prefixes) .none kV9 dc9 pm9 an9 cd9 ct9), sl9⟩)
    (c9 : PySem.W.codeIn K cd9 "without" = true)
    (k9 : PySem.W.keepIn K (.ref f9) = true)
    (a10 : PySem.W.nsIn K mainGlobals "place_word" = some (some (.ref f10)))
    (l10 : K.lookup f10 = some ⟨oc10, od10, .func (PySem.W.fnOf "place_word" "place_word" (defArgs s_place_word) (defBody s_place_word) (defScope s_place_word) .none kV10 dc10 pm10 an10 cd10 ct10), sl10⟩)
    (c10 : PySem.W.codeIn K cd10 "place_word" = true)
    (k10 : PySem.W.keepIn K (.ref f10) = true)
    (a11 : PySem.W.nsIn K mainGlobals "_law_draws" = some (some (.ref f11)))
    (l11 : K.lookup f11 = some ⟨oc11, od11, .func (PySem.W.fnOf "_law_draws" "_law_draws" (defArgs s__law_draws) (defBody s__law_draws) (defScope s__law_draws) .none kV11 dc11 pm11 an11 cd11 ct11), sl11⟩)
    (c11 : PySem.W.codeIn K cd11 "_law_draws" = true)
    (k11 : PySem.W.keepIn K (.ref f11) = true)
    (a12 : PySem.W.nsIn K mainGlobals "_law_take" = some (some (.ref f12)))
    (l12 : K.lookup f12 = some ⟨oc12, od12, .func (PySem.W.fnOf "_law_take" "_law_take" (defArgs s__law_take) (defBody s__law_take) (defScope s__law_take) .none kV12 dc12 pm12 an12 cd12 ct12), sl12⟩)
    (c12 : PySem.W.codeIn K cd12 "_law_take" = true)
    (k12 : PySem.W.keepIn K (.ref f12) = true)
    (a13 : PySem.W.nsIn K mainGlobals "_law_meet" = some (some (.ref f13)))
    (l13 : K.lookup f13 = some ⟨oc13, od13, .func (PySem.W.fnOf "_law_meet" "_law_meet" (defArgs s__law_meet) (defBody s__law_meet) (defScope s__law_meet) .none kV13 dc13 pm13 an13 cd13 ct13), sl13⟩)
    (c13 : PySem.W.codeIn K cd13 "_law_meet" = true)
    (k13 : PySem.W.keepIn K (.ref f13) = true)
    (a14 : PySem.W.findIn K (.ref C_Alphabet) "__init__" = some (some (.ref f14)))
    (i14 : PySem.W.isFn K (.ref f14) = true)
    (l14 : K.lookup f14 = some ⟨oc14, od14, .func (PySem.W.fnOf "__init__" "Alphabet.__init__" (defArgs s_Alphabet_init) (defBody s_Alphabet_init) (defScope s_Alphabet_init) .none kV14 dc14 pm14 an14 cd14 ct14), sl14⟩)
    (c14 : PySem.W.codeIn K cd14 "Alphabet.__init__" = true)
    (k14 : PySem.W.keepIn K (.ref f14) = true)
    (a15 : PySem.W.nsIn K mainGlobals "masks" = some (some (.ref f15)))
    (l15 : K.lookup f15 = some ⟨oc15, od15, .func (PySem.W.fnOf "masks" "masks" (defArgs s_masks) (defBody s_masks) (defScope s_masks) .none kV15 dc15 pm15 an15 cd15 ct15), sl15⟩)
    (c15 : PySem.W.codeIn K cd15 "masks" = true)
    (k15 : PySem.W.keepIn K (.ref f15) = true)
    (a16 : PySem.W.findIn K (.ref C_Table) "_resting" = some (some (.ref f16)))
    (i16 : PySem.W.isFn K (.ref f16) = true)
    (l16 : K.lookup f16 = some ⟨oc16, od16, .func (PySem.W.fnOf "_resting" "Table._resting" (defArgs s_Table__resting) (defBody s_Table__resting) (defScope s_Table__resting) .none kV16 dc16 pm16 an16 cd16 ct16), sl16⟩)
    (c16 : PySem.W.codeIn K cd16 "Table._resting" = true)
    (k16 : PySem.W.keepIn K (.ref f16) = true)
    (a17 : PySem.W.findIn K (.ref C_Table) "do" = some (some (.ref f17)))
    (i17 : PySem.W.isFn K (.ref f17) = true)
    (l17 : K.lookup f17 = some ⟨oc17, od17, .func (PySem.W.fnOf "do" "Table.do" (defArgs s_Table_do) (defBody s_Table_do) (defScope s_Table_do) .none kV17 dc17 pm17 an17 cd17 ct17), sl17⟩)
    (c17 : PySem.W.codeIn K cd17 "Table.do" = true)
    (k17 : PySem.W.keepIn K (.ref f17) = true)
    (a18 : PySem.W.findIn K (.ref C_Table) "do_again" = some (some (.ref f18)))
    (i18 : PySem.W.isFn K (.ref f18) = true)
    (l18 : K.lookup f18 = some ⟨oc18, od18, .func (PySem.W.fnOf "do_again" "Table.do_again" (defArgs s_Table_do_again) (defBody s_Table_do_again) (defScope s_Table_do_again) .none kV18 dc18 pm18 an18 cd18 ct18), sl18⟩)
    (c18 : PySem.W.codeIn K cd18 "Table.do_again" = true)
    (k18 : PySem.W.keepIn K (.ref f18) = true)
    (a19 : PySem.W.findIn K (.ref C_Table) "row" = some (some (.ref f19)))
    (i19 : PySem.W.isFn K (.ref f19) = true)
    (l19 : K.lookup f19 = some ⟨oc19, od19, .func (PySem.W.fnOf "row" "Table.row" (defArgs s_Table_row) (defBody s_Table_row) (defScope s_Table_row) .none kV19 dc19 pm19 an19 cd19 ct19), sl19⟩)
    (c19 : PySem.W.codeIn K cd19 "Table.row" = true)
    (k19 : PySem.W.keepIn K (.ref f19) = true)
    (a20 : PySem.W.nsIn K mainGlobals "below_all" = some (some (.ref f20)))
    (l20 : K.lookup f20 = some ⟨oc20, od20, .func (PySem.W.fnOf "below_all" "below_all" (defArgs s_below_all) (defBody s_below_all) (defScope s_below_all) .none kV20 dc20 pm20 an20 cd20 ct20), sl20⟩)
    (c20 : PySem.W.codeIn K cd20 "below_all" = true)
    (k20 : PySem.W.keepIn K (.ref f20) = true)
    (a21 : PySem.W.nsIn K mainGlobals "are_apart" = some (some (.ref f21)))
    (l21 : K.lookup f21 = some ⟨oc21, od21, .func (PySem.W.fnOf "are_apart" "are_apart" (defArgs s_are_apart) (defBody s_are_apart) (defScope s_are_apart) .none kV21 dc21 pm21 an21 cd21 ct21), sl21⟩)
    (c21 : PySem.W.codeIn K cd21 "are_apart" = true)
    (k21 : PySem.W.keepIn K (.ref f21) = true)
    (a22 : PySem.W.nsIn K mainGlobals "earlier_counts" = some (some (.ref f22)))
    (l22 : K.lookup f22 = some ⟨oc22, od22, .func (PySem.W.fnOf "earlier_counts" "earlier_counts" (defArgs s_earlier_counts) (defBody s_earlier_counts) (defScope s_earlier_counts) .none kV22 dc22 pm22 an22 cd22 ct22), sl22⟩)
    (c22 : PySem.W.codeIn K cd22 "earlier_counts" = true)
    (k22 : PySem.W.keepIn K (.ref f22) = true)
    (a23 : PySem.W.nsIn K mainGlobals "equivalent" = some (some (.ref f23)))
    (l23 : K.lookup f23 = some ⟨oc23, od23, .func (PySem.W.fnOf "equivalent" "equivalent" (defArgs s_equivalent) (defBody s_equivalent) (defScope s_equivalent) .none kV23 dc23 pm23 an23 cd23 ct23), sl23⟩)
    (c23 : PySem.W.codeIn K cd23 "equivalent" = true)
    (k23 : PySem.W.keepIn K (.ref f23) = true)
    (a24 : PySem.W.nsIn K mainGlobals "_law_alphabet" = some (some (.ref f24)))
    (l24 : K.lookup f24 = some ⟨oc24, od24, .func (PySem.W.fnOf "_law_alphabet" "_law_alphabet" (defArgs s__law_alphabet) (defBody s__law_alphabet) (defScope s__law_alphabet) .none kV24 dc24 pm24 an24 cd24 ct24), sl24⟩)
    (c24 : PySem.W.codeIn K cd24 "_law_alphabet" = true)
    (k24 : PySem.W.keepIn K (.ref f24) = true)
    (a25 : PySem.W.nsIn K mainGlobals "_law_words" = some (some (.ref f25)))
    (l25 : K.lookup f25 = some ⟨oc25, od25, .func (PySem.W.fnOf "_law_words" "_law_words" (defArgs s__law_words) (defBody s__law_words) (defScope s__law_words) .none kV25 dc25 pm25 an25 cd25 ct25), sl25⟩)
    (c25 : PySem.W.codeIn K cd25 "_law_words" = true)
    (k25 : PySem.W.keepIn K (.ref f25) = true)
    (a26 : PySem.W.nsIn K mainGlobals "first_letters" = some (some (.ref f26)))
    (l26 : K.lookup f26 = some ⟨oc26, od26, .func (PySem.W.fnOf "first_letters" "first_letters" (defArgs s_first_letters) (defBody s_first_letters) (defScope s_first_letters) .none kV26 dc26 pm26 an26 cd26 ct26), sl26⟩)
    (c26 : PySem.W.codeIn K cd26 "first_letters" = true)
    (k26 : PySem.W.keepIn K (.ref f26) = true)
    (a27 : PySem.W.nsIn K mainGlobals "is_least" = some (some (.ref f27)))
    (l27 : K.lookup f27 = some ⟨oc27, od27, .func (PySem.W.fnOf "is_least" "is_least" (defArgs s_is_least) (defBody s_is_least) (defScope s_is_least) .none kV27 dc27 pm27 an27 cd27 ct27), sl27⟩)
    (c27 : PySem.W.codeIn K cd27 "is_least" = true)
    (k27 : PySem.W.keepIn K (.ref f27) = true)
    (a28 : PySem.W.findIn K (.ref C_Table) "undo" = some (some (.ref f28)))
    (i28 : PySem.W.isFn K (.ref f28) = true)
    (l28 : K.lookup f28 = some ⟨oc28, od28, .func (PySem.W.fnOf "undo" "Table.undo" (defArgs s_Table_undo) (defBody s_Table_undo) (defScope s_Table_undo) .none kV28 dc28 pm28 an28 cd28 ct28), sl28⟩)
    (c28 : PySem.W.codeIn K cd28 "Table.undo" = true)
    (k28 : PySem.W.keepIn K (.ref f28) = true)
    (a29 : PySem.W.findIn K (.ref C_Table) "undo_with_all" = some (some (.ref f29)))
    (i29 : PySem.W.isFn K (.ref f29) = true)
    (l29 : K.lookup f29 = some ⟨oc29, od29, .func (PySem.W.fnOf "undo_with_all" "Table.undo_with_all" (defArgs s_Table_undo_with_all) (defBody s_Table_undo_with_all) (defScope s_Table_undo_with_all) .none kV29 dc29 pm29 an29 cd29 ct29), sl29⟩)
    (c29 : PySem.W.codeIn K cd29 "Table.undo_with_all" = true)
    (k29 : PySem.W.keepIn K (.ref f29) = true)
    (a30 : PySem.W.nsIn K mainGlobals "is_below" = some (some (.ref f30)))
    (l30 : K.lookup f30 = some ⟨oc30, od30, .func (PySem.W.fnOf "is_below" "is_below" (defArgs s_is_below) (defBody s_is_below) (defScope s_is_below) .none kV30 dc30 pm30 an30 cd30 ct30), sl30⟩)
    (c30 : PySem.W.codeIn K cd30 "is_below" = true)
    (k30 : PySem.W.keepIn K (.ref f30) = true)
    (a31 : PySem.W.nsIn K mainGlobals "order_count" = some (some (.ref f31)))
    (l31 : K.lookup f31 = some ⟨oc31, od31, .func (PySem.W.fnOf "order_count" "order_count" (defArgs s_order_count) (defBody s_order_count) (defScope s_order_count) .none kV31 dc31 pm31 an31 cd31 ct31), sl31⟩)
    (c31 : PySem.W.codeIn K cd31 "order_count" = true)
    (k31 : PySem.W.keepIn K (.ref f31) = true)
    (a32 : PySem.W.nsIn K mainGlobals "least_form" = some (some (.ref f32)))
    (l32 : K.lookup f32 = some ⟨oc32, od32, .func (PySem.W.fnOf "least_form" "least_form" (defArgs s_least_form) (defBody s_least_form) (defScope s_least_form) .none kV32 dc32 pm32 an32 cd32 ct32), sl32⟩)
    (c32 : PySem.W.codeIn K cd32 "least_form" = true)
    (k32 : PySem.W.keepIn K (.ref f32) = true)
    (a33 : PySem.W.nsIn K mainGlobals "first_place" = some (some (.ref f33)))
    (l33 : K.lookup f33 = some ⟨oc33, od33, .func (PySem.W.fnOf "first_place" "first_place" (defArgs s_first_place) (defBody s_first_place) (defScope s_first_place) .none kV33 dc33 pm33 an33 cd33 ct33), sl33⟩)
    (c33 : PySem.W.codeIn K cd33 "first_place" = true)
    (k33 : PySem.W.keepIn K (.ref f33) = true)
    (a34 : PySem.W.findIn K (.ref C_Table) "word" = some (some (.ref f34)))
    (i34 : PySem.W.isFn K (.ref f34) = true)
    (l34 : K.lookup f34 = some ⟨oc34, od34, .func (PySem.W.fnOf "word" "Table.word" (defArgs s_Table_word) (defBody s_Table_word) (defScope s_Table_word) .none kV34 dc34 pm34 an34 cd34 ct34), sl34⟩)
    (c34 : PySem.W.codeIn K cd34 "Table.word" = true)
    (k34 : PySem.W.keepIn K (.ref f34) = true)
    (a35 : PySem.W.nsIn K mainGlobals "rest" = some (some (.ref f35)))
    (l35 : K.lookup f35 = some ⟨oc35, od35, .func (PySem.W.fnOf "rest" "rest" (defArgs s_rest) (defBody s_rest) (defScope s_rest) .none kV35 dc35 pm35 an35 cd35 ct35), sl35⟩)
    (c35 : PySem.W.codeIn K cd35 "rest" = true)
    (k35 : PySem.W.keepIn K (.ref f35) = true)
    (a36 : PySem.W.nsIn K mainGlobals "common_prefix" = some (some (.ref f36)))
    (l36 : K.lookup f36 = some ⟨oc36, od36, .func (PySem.W.fnOf "common_prefix" "common_prefix" (defArgs s_common_prefix) (defBody s_common_prefix) (defScope s_common_prefix) .none kV36 dc36 pm36 an36 cd36 ct36), sl36⟩)
    (c36 : PySem.W.codeIn K cd36 "common_prefix" = true)
    (k36 : PySem.W.keepIn K (.ref f36) = true)
    (a37 : PySem.W.nsIn K mainGlobals "without_joins" = some (some (.ref f37)))
    (l37 : K.lookup f37 = some ⟨oc37, od37, .func (PySem.W.fnOf "without" "without" (defArgs s_without_joins) (defBody s_without_joins) (defScope s_without_joins) .none kV37 dc37 pm37 an37 cd37 ct37), sl37⟩)
    (c37 : PySem.W.codeIn K cd37 "without" = true)
    (k37 : PySem.W.keepIn K (.ref f37) = true)
    (a38 : PySem.W.nsIn K mainGlobals "join" = some (some (.ref f38)))
    (l38 : K.lookup f38 = some ⟨oc38, od38, .func (PySem.W.fnOf "join" "join" (defArgs s_join) (defBody s_join) (defScope s_join) .none kV38 dc38 pm38 an38 cd38 ct38), sl38⟩)
    (c38 : PySem.W.codeIn K cd38 "join" = true)
    (k38 : PySem.W.keepIn K (.ref f38) = true)
    (a39 : PySem.W.nsIn K mainGlobals "common_all" = some (some (.ref f39)))
    (l39 : K.lookup f39 = some ⟨oc39, od39, .func (PySem.W.fnOf "common_all" "common_all" (defArgs s_common_all) (defBody s_common_all) (defScope s_common_all) .none kV39 dc39 pm39 an39 cd39 ct39), sl39⟩)
    (c39 : PySem.W.codeIn K cd39 "common_all" = true)
    (k39 : PySem.W.keepIn K (.ref f39) = true)
    (a40 : PySem.W.nsIn K mainGlobals "joined_all" = some (some (.ref f40)))
    (l40 : K.lookup f40 = some ⟨oc40, od40, .func (PySem.W.fnOf "joined_all" "joined_all" (defArgs s_joined_all) (defBody s_joined_all) (defScope s_joined_all) .none kV40 dc40 pm40 an40 cd40 ct40), sl40⟩)
    (c40 : PySem.W.codeIn K cd40 "joined_all" = true)
    (k40 : PySem.W.keepIn K (.ref f40) = true)
    (a41 : PySem.W.nsIn K mainGlobals "_law_joins_right" = some (some (.ref f41)))
    (l41 : K.lookup f41 = some ⟨oc41, od41, .func (PySem.W.fnOf "_law_joins_right" "_law_joins_right" (defArgs s__law_joins_right) (defBody s__law_joins_right) (defScope s__law_joins_right) .none kV41 dc41 pm41 an41 cd41 ct41), sl41⟩)
    (c41 : PySem.W.codeIn K cd41 "_law_joins_right" = true)
    (k41 : PySem.W.keepIn K (.ref f41) = true)
    (a42 : PySem.W.nsIn K mainGlobals "law" = some (some (.ref f42)))
    (l42 : K.lookup f42 = some ⟨oc42, od42, .func (PySem.W.fnOf "law" "law" (defArgs s_law) (defBody s_law) (defScope s_law) .none kV42 dc42 pm42 an42 (.ref LC) ct42), sl42⟩)
    (c42 : PySem.W.codeIn K (.ref LC) "law" = true)
    (k42 : PySem.W.keepIn K (.ref f42) = true)
    (hCH : PySem.W.codeHdIn K LC LT = true)
    (hNT : K.lookup LT = none)
    (tb_any : PySem.W.nsIn K mainGlobals "any" = some none)
    (tb_enumerate : PySem.W.nsIn K mainGlobals "enumerate" = some none)
    (tb_int : PySem.W.nsIn K mainGlobals "int" = some none)
    (tb_len : PySem.W.nsIn K mainGlobals "len" = some none)
    (tb_list : PySem.W.nsIn K mainGlobals "list" = some none)
    (tb_max : PySem.W.nsIn K mainGlobals "max" = some none)
    (tb_range : PySem.W.nsIn K mainGlobals "range" = some none)
    (tb_sorted : PySem.W.nsIn K mainGlobals "sorted" = some none)
    (tb_sum : PySem.W.nsIn K mainGlobals "sum" = some none)
    (tb_tuple : PySem.W.nsIn K mainGlobals "tuple" = some none)
    (tc_MOST_HANDS : PySem.W.nsIn K mainGlobals "MOST_HANDS" = some (some (.int (4) t_MOST_HANDS)))
    (tc_MOST_LETTERS : PySem.W.nsIn K mainGlobals "MOST_LETTERS" = some (some (.int (6) t_MOST_LETTERS)))
    (tc_MOST_PLACES : PySem.W.nsIn K mainGlobals "MOST_PLACES" = some (some (.int (4) t_MOST_PLACES)))
    (xg_NotReady : PySem.W.nsIn K mainGlobals "NotReady" = some (some (.ref C_NotReady)))
    (xk_NotReady : PySem.W.keepIn K (.ref C_NotReady) = true)
    (xx_NotReady : PySem.W.excIn K C_NotReady [.type "ValueError", .type "Exception", .type "BaseException", .type "object"] "ValueError.__new__" = true)
    (xb_NotReady : PySem.W.subIn K (.ref C_NotReady) (.type "BaseException") = some true)
    (xt_NotReady : PySem.W.typeIn K (.ref C_NotReady) = some (.type "type"))
    (xe_NotReady : PySem.W.exmOne K (.ref C_NotReady) (.ref C_NotReady) = some true)
    (tn_Alphabet_places : PySem.W.findIn K (.ref C_Alphabet) "places" = some none)
    (tn_Alphabet_letters : PySem.W.findIn K (.ref C_Alphabet) "letters" = some none)
    (tn_Table__alphabet : PySem.W.findIn K (.ref C_Table) "_alphabet" = some none)
    (tn_Table__rows : PySem.W.findIn K (.ref C_Table) "_rows" = some none)
    (tn_Table__events : PySem.W.findIn K (.ref C_Table) "_events" = some none)
    (tn_Table__count : PySem.W.findIn K (.ref C_Table) "_count" = some none) :
    LawK l w K mg fa := by
  let c : Ca := ⟨C_Alphabet, C_Table, C_NotReady, LC, LT⟩
  have e := hfa.symm.trans (PySem.W.mg_of X G a42)
  cases e
  have F0 := fun_mk (st := s_fits) l0 c0 k0
  have F1 := fun_mk (st := s_independent) l1 c1 k1
  have F2 := fun_mk (st := s_next_barred) l2 c2 k2
  have F3 := fun_mk (st := s_Table_init) l3 c3 k3
  have F4 := fun_mk (st := s_Table__check) l4 c4 k4
  have F5 := fun_mk (st := s_Table__add) l5 c5 k5
  have F6 := fun_mk (st := s_Table__newest) l6 c6 k6
  have F7 := fun_mk (st := s_Table__take_back) l7 c7 k7
  have F8 := fun_mk (st := s_Table_events) l8 c8 k8
  have F9 := fun_mk (st := s_without_prefixes) l9 c9 k9
  have F10 := fun_mk (st := s_place_word) l10 c10 k10
  have F11 := fun_mk (st := s__law_draws) l11 c11 k11
  have F12 := fun_mk (st := s__law_take) l12 c12 k12
  have F13 := fun_mk (st := s__law_meet) l13 c13 k13
  have F14 := fun_mk (st := s_Alphabet_init) l14 c14 k14
  have F15 := fun_mk (st := s_masks) l15 c15 k15
  have F16 := fun_mk (st := s_Table__resting) l16 c16 k16
  have F17 := fun_mk (st := s_Table_do) l17 c17 k17
  have F18 := fun_mk (st := s_Table_do_again) l18 c18 k18
  have F19 := fun_mk (st := s_Table_row) l19 c19 k19
  have F20 := fun_mk (st := s_below_all) l20 c20 k20
  have F21 := fun_mk (st := s_are_apart) l21 c21 k21
  have F22 := fun_mk (st := s_earlier_counts) l22 c22 k22
  have F23 := fun_mk (st := s_equivalent) l23 c23 k23
  have F24 := fun_mk (st := s__law_alphabet) l24 c24 k24
  have F25 := fun_mk (st := s__law_words) l25 c25 k25
  have F26 := fun_mk (st := s_first_letters) l26 c26 k26
  have F27 := fun_mk (st := s_is_least) l27 c27 k27
  have F28 := fun_mk (st := s_Table_undo) l28 c28 k28
  have F29 := fun_mk (st := s_Table_undo_with_all) l29 c29 k29
  have F30 := fun_mk (st := s_is_below) l30 c30 k30
  have F31 := fun_mk (st := s_order_count) l31 c31 k31
  have F32 := fun_mk (st := s_least_form) l32 c32 k32
  have F33 := fun_mk (st := s_first_place) l33 c33 k33
  have F34 := fun_mk (st := s_Table_word) l34 c34 k34
  have F35 := fun_mk (st := s_rest) l35 c35 k35
  have F36 := fun_mk (st := s_common_prefix) l36 c36 k36
  have F37 := fun_mk (st := s_without_joins) l37 c37 k37
  have F38 := fun_mk (st := s_join) l38 c38 k38
  have F39 := fun_mk (st := s_common_all) l39 c39 k39
  have F40 := fun_mk (st := s_joined_all) l40 c40 k40
  have F41 := fun_mk (st := s__law_joins_right) l41 c41 k41
  have FT := fun_mk (st := s__law_told) tl tcode tkeep
  refine ⟨c, oc42, od42, an42, sl42, kV42, dc42, pm42, ct42, l42, hCH, hNT, fun base TB => ?_⟩
  have T : Tx l.prog w K mg base c := ⟨PySem.W.mg_none_of X G tb_any, PySem.W.mg_none_of X G tb_enumerate, PySem.W.mg_none_of X G tb_int, PySem.W.mg_none_of X G tb_len, PySem.W.mg_none_of X G tb_list, PySem.W.mg_none_of X G tb_max, PySem.W.mg_none_of X G tb_range, PySem.W.mg_none_of X G tb_sorted, PySem.W.mg_none_of X G tb_sum, PySem.W.mg_none_of X G tb_tuple, ⟨_, PySem.W.mg_of X G tc_MOST_HANDS, ⟨_, rfl⟩⟩, ⟨_, PySem.W.mg_of X G tc_MOST_LETTERS, ⟨_, rfl⟩⟩, ⟨_, PySem.W.mg_of X G tc_MOST_PLACES, ⟨_, rfl⟩⟩, PySem.W.mg_of X G xg_NotReady, xk_NotReady, xx_NotReady, xb_NotReady, xt_NotReady, xe_NotReady, ⟨zg0, zd0, zp0, zs0⟩, tn_Alphabet_places, tn_Alphabet_letters, ⟨zg1, zd1, zp1, zs1⟩, tn_Table__alphabet, tn_Table__rows, tn_Table__events, tn_Table__count⟩
  have O0 : FnOk l.prog w K mg base CX0 1 f0 _ ["letter", "places"] (spOf K 2 (P_fits c)) := fn_okC F0 sc_fits fin_cut rfl (fun hr => der_fits T  hr) (fun ds S Q _ h => b_fits ds S Q h)
  have D_fits : DefOk l.prog w K mg base 1 "fits" 2 (P_fits c) := ⟨⟨_, _, _, rfl, O0, PySem.W.mg_of X G a0, k0, (F0.binds fun _ _ _ _ _ _ us hl => match us, hl with | [_, _], _ => rfl)⟩⟩
  have O1 : FnOk l.prog w K mg base CX0 1 f1 _ ["alphabet", "first", "second"] (spOf K 3 (P_independent c)) := fn_okC F1 sc_independent fin_cut rfl (fun hr => der_independent T  hr) (fun ds S Q _ h => b_independent ds S Q h)
  have D_independent : DefOk l.prog w K mg base 1 "independent" 3 (P_independent c) := ⟨⟨_, _, _, rfl, O1, PySem.W.mg_of X G a1, k1, (F1.binds fun _ _ _ _ _ _ us hl => match us, hl with | [_, _, _], _ => rfl)⟩⟩
  have O2 : FnOk l.prog w K mg base CX0 1 f2 _ ["dependent", "barred", "letter"] (spOf K 3 (P_next_barred c)) := fn_okC F2 sc_next_barred fin_cut rfl (fun hr => der_next_barred T  hr) (fun ds S Q _ h => b_next_barred ds S Q h)
  have D_next_barred : DefOk l.prog w K mg base 1 "next_barred" 3 (P_next_barred c) := ⟨⟨_, _, _, rfl, O2, PySem.W.mg_of X G a2, k2, (F2.binds fun _ _ _ _ _ _ us hl => match us, hl with | [_, _, _], _ => rfl)⟩⟩
  have O3 : FnOk l.prog w K mg base CX0 1 f3 _ ["self", "alphabet", "hands"] (spOf K 3 (P_Table_init c)) := fn_okC F3 sc_Table_init fin_keep rfl (fun hr => der_Table_init T  hr) (fun ds S Q _ h => b_Table_init ds S Q h)
  have M_Table : MakeOk l.prog w K mg base 1 "Table" c.Table 3 (P_Table_init c) := ⟨⟨_, _, _, rfl, O3, ⟨zm1, a3, i3, zk1⟩, PySem.W.mg_of X G zC1, (F3.binds fun _ _ _ _ _ _ us hl => match us, hl with | [_, _, _], _ => rfl)⟩⟩
  have O4 : FnOk l.prog w K mg base CX0 1 f4 _ ["self", "hand"] (spOf K 2 (P_Table__check c)) := fn_okC F4 sc_Table__check fin_cut rfl (fun hr => der_Table__check T  hr) (fun ds S Q _ h => b_Table__check ds S Q h)
  have D_Table__check : MethOk l.prog w K mg base 1 c.Table "_check" 2 (P_Table__check c) := ⟨⟨_, _, _, rfl, O4, ⟨a4, i4, k4⟩, (F4.binds fun _ _ _ _ _ _ us hl => match us, hl with | [_, _], _ => rfl)⟩⟩
  have O5 : FnOk l.prog w K mg base CX0 1 f5 _ ["self", "hand", "letter"] (spOf K 3 (P_Table__add c)) := fn_okC F5 sc_Table__add fin_cut rfl (fun hr => der_Table__add T  hr) (fun ds S Q _ h => b_Table__add ds S Q h)
  have D_Table__add : MethOk l.prog w K mg base 1 c.Table "_add" 3 (P_Table__add c) := ⟨⟨_, _, _, rfl, O5, ⟨a5, i5, k5⟩, (F5.binds fun _ _ _ _ _ _ us hl => match us, hl with | [_, _, _], _ => rfl)⟩⟩
  have O6 : FnOk l.prog w K mg base (CX l.prog w) 1 f6 _ ["self", "hand"] (spX K C_NotReady 2 (P_Table__newest c) (X_Table__newest c)) := fn_okX F6 sc_Table__newest fin_cut rfl (fun hr => der_Table__newest T  hr) (fun hr => derx_Table__newest T  hr) (fun ds S Q _ h => b_Table__newest ds S Q h) (fun ds S RX _ h => bx_Table__newest ds S RX h)
  have D_Table__newest : MethX l.prog w K mg base c.NotReady 1 c.Table "_newest" 2 (P_Table__newest c) (X_Table__newest c) := ⟨⟨_, _, _, rfl, O6, ⟨a6, i6, k6⟩, (F6.binds fun _ _ _ _ _ _ us hl => match us, hl with | [_, _], _ => rfl)⟩⟩
  have O7 : FnOk l.prog w K mg base CX0 1 f7 _ ["self", "number"] (spOf K 2 (P_Table__take_back c)) := fn_okC F7 sc_Table__take_back fin_keep rfl (fun hr => der_Table__take_back T  hr) (fun ds S Q _ h => b_Table__take_back ds S Q h)
  have D_Table__take_back : MethOk l.prog w K mg base 1 c.Table "_take_back" 2 (P_Table__take_back c) := ⟨⟨_, _, _, rfl, O7, ⟨a7, i7, k7⟩, (F7.binds fun _ _ _ _ _ _ us hl => match us, hl with | [_, _], _ => rfl)⟩⟩
  have O8 : FnOk l.prog w K mg base CX0 1 f8 _ ["self"] (spOf K 1 (P_Table_events c)) := fn_okC F8 sc_Table_events fin_cut rfl (fun hr => der_Table_events T  hr) (fun ds S Q _ h => b_Table_events ds S Q h)
  have D_Table_events : MethOk l.prog w K mg base 1 c.Table "events" 1 (P_Table_events c) := ⟨⟨_, _, _, rfl, O8, ⟨a8, i8, k8⟩, (F8.binds fun _ _ _ _ _ _ us hl => match us, hl with | [_], _ => rfl)⟩⟩
  have O9 : FnOk l.prog w K mg base CX0 1 f9 _ ["word", "position"] (spOf K 2 (P_without_prefixes c)) := fn_okC F9 sc_without_prefixes fin_cut rfl (fun hr => der_without_prefixes T  hr) (fun ds S Q _ h => b_without_prefixes ds S Q h)
  have D_without_prefixes : DefOk l.prog w K mg base 1 "without_prefixes" 2 (P_without_prefixes c) := ⟨⟨_, _, _, rfl, O9, PySem.W.mg_of X G a9, k9, (F9.binds fun _ _ _ _ _ _ us hl => match us, hl with | [_, _], _ => rfl)⟩⟩
  have O10 : FnOk l.prog w K mg base CX0 1 f10 _ ["alphabet", "word", "place"] (spOf K 3 (P_place_word c)) := fn_okC F10 sc_place_word fin_cut rfl (fun hr => der_place_word T  hr) (fun ds S Q _ h => b_place_word ds S Q h)
  have D_place_word : DefOk l.prog w K mg base 1 "place_word" 3 (P_place_word c) := ⟨⟨_, _, _, rfl, O10, PySem.W.mg_of X G a10, k10, (F10.binds fun _ _ _ _ _ _ us hl => match us, hl with | [_, _, _], _ => rfl)⟩⟩
  have O11 : FnOk l.prog w K mg base CX0 1 f11 _ ["script", "count"] (spOf K 2 (P__law_draws c)) := fn_okC F11 sc__law_draws fin_own rfl (fun hr => der__law_draws T  hr) (fun ds S Q _ h => b__law_draws ds S Q h)
  have D__law_draws : DefOk l.prog w K mg base 1 "_law_draws" 2 (P__law_draws c) := ⟨⟨_, _, _, rfl, O11, PySem.W.mg_of X G a11, k11, (F11.binds fun _ _ _ _ _ _ us hl => match us, hl with | [_, _], _ => rfl)⟩⟩
  have O12 : FnOk l.prog w K mg base CX0 1 f12 _ ["draws", "limit"] (spOf K 2 (P__law_take c)) := fn_okC F12 sc__law_take fin_cut rfl (fun hr => der__law_take T  hr) (fun ds S Q _ h => b__law_take ds S Q h)
  have D__law_take : DefOk l.prog w K mg base 1 "_law_take" 2 (P__law_take c) := ⟨⟨_, _, _, rfl, O12, PySem.W.mg_of X G a12, k12, (F12.binds fun _ _ _ _ _ _ us hl => match us, hl with | [_, _], _ => rfl)⟩⟩
  have O13 : FnOk l.prog w K mg base CX0 1 f13 _ ["letters", "a", "b"] (spOf K 3 (P__law_meet c)) := fn_okC F13 sc__law_meet fin_cut rfl (fun hr => der__law_meet T  hr) (fun ds S Q _ h => b__law_meet ds S Q h)
  have D__law_meet : DefOk l.prog w K mg base 1 "_law_meet" 3 (P__law_meet c) := ⟨⟨_, _, _, rfl, O13, PySem.W.mg_of X G a13, k13, (F13.binds fun _ _ _ _ _ _ us hl => match us, hl with | [_, _, _], _ => rfl)⟩⟩
  have O14 : FnOk l.prog w K mg base CX0 2 f14 _ ["self", "places", "letters"] (spOf K 3 (P_Alphabet_init c)) := fn_okC F14 sc_Alphabet_init fin_cut rfl (fun hr => der_Alphabet_init T D_fits hr) (fun ds S Q _ h => b_Alphabet_init ds S Q h)
  have M_Alphabet : MakeOk l.prog w K mg base 2 "Alphabet" c.Alphabet 3 (P_Alphabet_init c) := ⟨⟨_, _, _, rfl, O14, ⟨zm0, a14, i14, zk0⟩, PySem.W.mg_of X G zC0, (F14.binds fun _ _ _ _ _ _ us hl => match us, hl with | [_, _, _], _ => rfl)⟩⟩
  have O15 : FnOk l.prog w K mg base CX0 2 f15 _ ["alphabet"] (spOf K 1 (P_masks c)) := fn_okC F15 sc_masks fin_cut rfl (fun hr => der_masks T D_independent hr) (fun ds S Q _ h => b_masks ds S Q h)
  have D_masks : DefOk l.prog w K mg base 2 "masks" 1 (P_masks c) := ⟨⟨_, _, _, rfl, O15, PySem.W.mg_of X G a15, k15, (F15.binds fun _ _ _ _ _ _ us hl => match us, hl with | [_], _ => rfl)⟩⟩
  have O16 : FnOk l.prog w K mg base CX0 2 f16 _ ["self", "number"] (spOf K 2 (P_Table__resting c)) := fn_okC F16 sc_Table__resting fin_cut rfl (fun hr => der_Table__resting T D_independent hr) (fun ds S Q _ h => b_Table__resting ds S Q h)
  have D_Table__resting : MethOk l.prog w K mg base 2 c.Table "_resting" 2 (P_Table__resting c) := ⟨⟨_, _, _, rfl, O16, ⟨a16, i16, k16⟩, (F16.binds fun _ _ _ _ _ _ us hl => match us, hl with | [_, _], _ => rfl)⟩⟩
  have O17 : FnOk l.prog w K mg base CX0 2 f17 _ ["self", "hand", "letter"] (spOf K 3 (P_Table_do c)) := fn_okC F17 sc_Table_do fin_cut rfl (fun hr => der_Table_do T D_Table__add D_Table__check hr) (fun ds S Q _ h => b_Table_do ds S Q h)
  have D_Table_do : MethOk l.prog w K mg base 2 c.Table "do" 3 (P_Table_do c) := ⟨⟨_, _, _, rfl, O17, ⟨a17, i17, k17⟩, (F17.binds fun _ _ _ _ _ _ us hl => match us, hl with | [_, _, _], _ => rfl)⟩⟩
  have O18 : FnOk l.prog w K mg base CX0 2 f18 _ ["self", "hand"] (spOf K 2 (P_Table_do_again c)) := fn_okC F18 sc_Table_do_again fin_cut rfl (fun hr => der_Table_do_again T D_Table__add D_Table__check hr) (fun ds S Q _ h => b_Table_do_again ds S Q h)
  have D_Table_do_again : MethOk l.prog w K mg base 2 c.Table "do_again" 2 (P_Table_do_again c) := ⟨⟨_, _, _, rfl, O18, ⟨a18, i18, k18⟩, (F18.binds fun _ _ _ _ _ _ us hl => match us, hl with | [_, _], _ => rfl)⟩⟩
  have O19 : FnOk l.prog w K mg base CX0 2 f19 _ ["self", "hand"] (spOf K 2 (P_Table_row c)) := fn_okC F19 sc_Table_row fin_cut rfl (fun hr => der_Table_row T D_Table__check hr) (fun ds S Q _ h => b_Table_row ds S Q h)
  have D_Table_row : MethOk l.prog w K mg base 2 c.Table "row" 2 (P_Table_row c) := ⟨⟨_, _, _, rfl, O19, ⟨a19, i19, k19⟩, (F19.binds fun _ _ _ _ _ _ us hl => match us, hl with | [_, _], _ => rfl)⟩⟩
  have O20 : FnOk l.prog w K mg base CX0 2 f20 _ ["alphabet", "word", "events"] (spOf K 3 (P_below_all c)) := fn_okC F20 sc_below_all fin_cut rfl (fun hr => der_below_all T D_independent hr) (fun ds S Q _ h => b_below_all ds S Q h)
  have D_below_all : DefOk l.prog w K mg base 2 "below_all" 3 (P_below_all c) := ⟨⟨_, _, _, rfl, O20, PySem.W.mg_of X G a20, k20, (F20.binds fun _ _ _ _ _ _ us hl => match us, hl with | [_, _, _], _ => rfl)⟩⟩
  have O21 : FnOk l.prog w K mg base CX0 2 f21 _ ["alphabet", "first", "second"] (spOf K 3 (P_are_apart c)) := fn_okC F21 sc_are_apart fin_cut rfl (fun hr => der_are_apart T D_independent hr) (fun ds S Q _ h => b_are_apart ds S Q h)
  have D_are_apart : DefOk l.prog w K mg base 2 "are_apart" 3 (P_are_apart c) := ⟨⟨_, _, _, rfl, O21, PySem.W.mg_of X G a21, k21, (F21.binds fun _ _ _ _ _ _ us hl => match us, hl with | [_, _, _], _ => rfl)⟩⟩
  have O22 : FnOk l.prog w K mg base CX0 2 f22 _ ["alphabet", "word"] (spOf K 2 (P_earlier_counts c)) := fn_okC F22 sc_earlier_counts fin_cut rfl (fun hr => der_earlier_counts T D_independent hr) (fun ds S Q _ h => b_earlier_counts ds S Q h)
  have D_earlier_counts : DefOk l.prog w K mg base 2 "earlier_counts" 2 (P_earlier_counts c) := ⟨⟨_, _, _, rfl, O22, PySem.W.mg_of X G a22, k22, (F22.binds fun _ _ _ _ _ _ us hl => match us, hl with | [_, _], _ => rfl)⟩⟩
  have O23 : FnOk l.prog w K mg base CX0 2 f23 _ ["alphabet", "first", "second"] (spOf K 3 (P_equivalent c)) := fn_okC F23 sc_equivalent fin_cut rfl (fun hr => der_equivalent T D_place_word hr) (fun ds S Q _ h => b_equivalent ds S Q h)
  have D_equivalent : DefOk l.prog w K mg base 2 "equivalent" 3 (P_equivalent c) := ⟨⟨_, _, _, rfl, O23, PySem.W.mg_of X G a23, k23, (F23.binds fun _ _ _ _ _ _ us hl => match us, hl with | [_, _, _], _ => rfl)⟩⟩
  have O24 : FnOk l.prog w K mg base CX0 2 f24 _ ["draws", "most_places", "most_letters"] (spOf K 3 (P__law_alphabet c)) := fn_okC F24 sc__law_alphabet fin_cut rfl (fun hr => der__law_alphabet T D__law_take hr) (fun ds S Q _ h => b__law_alphabet ds S Q h)
  have D__law_alphabet : DefOk l.prog w K mg base 2 "_law_alphabet" 3 (P__law_alphabet c) := ⟨⟨_, _, _, rfl, O24, PySem.W.mg_of X G a24, k24, (F24.binds fun _ _ _ _ _ _ us hl => match us, hl with | [_, _, _], _ => rfl)⟩⟩
  have O25 : FnOk l.prog w K mg base CX0 2 f25 _ ["draws", "letters"] (spOf K 2 (P__law_words c)) := fn_okC F25 sc__law_words fin_cut rfl (fun hr => der__law_words T D__law_meet D__law_take hr) (fun ds S Q _ h => b__law_words ds S Q h)
  have D__law_words : DefOk l.prog w K mg base 2 "_law_words" 2 (P__law_words c) := ⟨⟨_, _, _, rfl, O25, PySem.W.mg_of X G a25, k25, (F25.binds fun _ _ _ _ _ _ us hl => match us, hl with | [_, _], _ => rfl)⟩⟩
  have O26 : FnOk l.prog w K mg base CX0 3 f26 _ ["alphabet", "word"] (spOf K 2 (P_first_letters c)) := fn_okC F26 sc_first_letters fin_cut rfl (fun hr => der_first_letters T D_masks hr) (fun ds S Q _ h => b_first_letters ds S Q h)
  have D_first_letters : DefOk l.prog w K mg base 3 "first_letters" 2 (P_first_letters c) := ⟨⟨_, _, _, rfl, O26, PySem.W.mg_of X G a26, k26, (F26.binds fun _ _ _ _ _ _ us hl => match us, hl with | [_, _], _ => rfl)⟩⟩
  have O27 : FnOk l.prog w K mg base CX0 3 f27 _ ["alphabet", "word"] (spOf K 2 (P_is_least c)) := fn_okC F27 sc_is_least fin_cut rfl (fun hr => der_is_least T D_masks D_next_barred hr) (fun ds S Q _ h => b_is_least ds S Q h)
  have D_is_least : DefOk l.prog w K mg base 3 "is_least" 2 (P_is_least c) := ⟨⟨_, _, _, rfl, O27, PySem.W.mg_of X G a27, k27, (F27.binds fun _ _ _ _ _ _ us hl => match us, hl with | [_, _], _ => rfl)⟩⟩
  have O28 : FnOk l.prog w K mg base (CX l.prog w) 3 f28 _ ["self", "hand"] (spX K C_NotReady 2 (P_Table_undo c) (X_Table_undo c)) := fn_okX F28 sc_Table_undo fin_keep rfl (fun hr => der_Table_undo T D_Table__check D_Table__newest D_Table__resting D_Table__take_back hr) (fun hr => derx_Table_undo T D_Table__check D_Table__newest D_Table__resting D_Table__take_back hr) (fun ds S Q _ h => b_Table_undo ds S Q h) (fun ds S RX _ h => bx_Table_undo ds S RX h)
  have D_Table_undo : MethX l.prog w K mg base c.NotReady 3 c.Table "undo" 2 (P_Table_undo c) (X_Table_undo c) := ⟨⟨_, _, _, rfl, O28, ⟨a28, i28, k28⟩, (F28.binds fun _ _ _ _ _ _ us hl => match us, hl with | [_, _], _ => rfl)⟩⟩
  have O29 : FnOk l.prog w K mg base (CX l.prog w) 3 f29 _ ["self", "hand"] (spX K C_NotReady 2 (P_Table_undo_with_all c) (X_Table_undo_with_all c)) := fn_okX F29 sc_Table_undo_with_all fin_keep rfl (fun hr => der_Table_undo_with_all T D_Table__check D_Table__newest D_Table__resting D_Table__take_back hr) (fun hr => derx_Table_undo_with_all T D_Table__check D_Table__newest D_Table__resting D_Table__take_back hr) (fun ds S Q _ h => b_Table_undo_with_all ds S Q h) (fun ds S RX _ h => bx_Table_undo_with_all ds S RX h)
  have D_Table_undo_with_all : MethX l.prog w K mg base c.NotReady 3 c.Table "undo_with_all" 2 (P_Table_undo_with_all c) (X_Table_undo_with_all c) := ⟨⟨_, _, _, rfl, O29, ⟨a29, i29, k29⟩, (F29.binds fun _ _ _ _ _ _ us hl => match us, hl with | [_, _], _ => rfl)⟩⟩
  have O30 : FnOk l.prog w K mg base CX0 3 f30 _ ["alphabet", "word", "first", "second"] (spOf K 4 (P_is_below c)) := fn_okC F30 sc_is_below fin_cut rfl (fun hr => der_is_below T D_below_all hr) (fun ds S Q _ h => b_is_below ds S Q h)
  have D_is_below : DefOk l.prog w K mg base 3 "is_below" 4 (P_is_below c) := ⟨⟨_, _, _, rfl, O30, PySem.W.mg_of X G a30, k30, (F30.binds fun _ _ _ _ _ _ us hl => match us, hl with | [_, _, _, _], _ => rfl)⟩⟩
  have O31 : FnOk l.prog w K mg base CX0 3 f31 _ ["alphabet", "word"] (spOf K 2 (P_order_count c)) := fn_okC F31 sc_order_count fin_cut rfl (fun hr => der_order_count T D_earlier_counts hr) (fun ds S Q _ h => b_order_count ds S Q h)
  have D_order_count : DefOk l.prog w K mg base 3 "order_count" 2 (P_order_count c) := ⟨⟨_, _, _, rfl, O31, PySem.W.mg_of X G a31, k31, (F31.binds fun _ _ _ _ _ _ us hl => match us, hl with | [_, _], _ => rfl)⟩⟩
  have O32 : FnOk l.prog w K mg base CX0 4 f32 _ ["alphabet", "word"] (spOf K 2 (P_least_form c)) := fn_okC F32 sc_least_form fin_cut rfl (fun hr => der_least_form T D_first_letters hr) (fun ds S Q _ h => b_least_form ds S Q h)
  have D_least_form : DefOk l.prog w K mg base 4 "least_form" 2 (P_least_form c) := ⟨⟨_, _, _, rfl, O32, PySem.W.mg_of X G a32, k32, (F32.binds fun _ _ _ _ _ _ us hl => match us, hl with | [_, _], _ => rfl)⟩⟩
  have O33 : FnOk l.prog w K mg base CX0 4 f33 _ ["alphabet", "word", "letter"] (spOf K 3 (P_first_place c)) := fn_okC F33 sc_first_place fin_cut rfl (fun hr => der_first_place T D_first_letters hr) (fun ds S Q _ h => b_first_place ds S Q h)
  have D_first_place : DefOk l.prog w K mg base 4 "first_place" 3 (P_first_place c) := ⟨⟨_, _, _, rfl, O33, PySem.W.mg_of X G a33, k33, (F33.binds fun _ _ _ _ _ _ us hl => match us, hl with | [_, _, _], _ => rfl)⟩⟩
  have O34 : FnOk l.prog w K mg base CX0 5 f34 _ ["self"] (spOf K 1 (P_Table_word c)) := fn_okC F34 sc_Table_word fin_cut rfl (fun hr => der_Table_word T D_least_form hr) (fun ds S Q _ h => b_Table_word ds S Q h)
  have D_Table_word : MethOk l.prog w K mg base 5 c.Table "word" 1 (P_Table_word c) := ⟨⟨_, _, _, rfl, O34, ⟨a34, i34, k34⟩, (F34.binds fun _ _ _ _ _ _ us hl => match us, hl with | [_], _ => rfl)⟩⟩
  have O35 : FnOk l.prog w K mg base CX0 5 f35 _ ["alphabet", "first", "second"] (spOf K 3 (P_rest c)) := fn_okC F35 sc_rest fin_cut rfl (fun hr => der_rest T D_first_place D_least_form D_without_prefixes hr) (fun ds S Q _ h => b_rest ds S Q h)
  have D_rest : DefOk l.prog w K mg base 5 "rest" 3 (P_rest c) := ⟨⟨_, _, _, rfl, O35, PySem.W.mg_of X G a35, k35, (F35.binds fun _ _ _ _ _ _ us hl => match us, hl with | [_, _, _], _ => rfl)⟩⟩
  have O36 : FnOk l.prog w K mg base CX0 5 f36 _ ["alphabet", "first", "second"] (spOf K 3 (P_common_prefix c)) := fn_okC F36 sc_common_prefix fin_cut rfl (fun hr => der_common_prefix T D_first_place D_least_form D_without_prefixes hr) (fun ds S Q _ h => b_common_prefix ds S Q h)
  have D_common_prefix : DefOk l.prog w K mg base 5 "common_prefix" 3 (P_common_prefix c) := ⟨⟨_, _, _, rfl, O36, PySem.W.mg_of X G a36, k36, (F36.binds fun _ _ _ _ _ _ us hl => match us, hl with | [_, _, _], _ => rfl)⟩⟩
  have O37 : FnOk l.prog w K mg base CX0 5 f37 _ ["alphabet", "word", "events"] (spOf K 3 (P_without_joins c)) := fn_okC F37 sc_without_joins fin_cut rfl (fun hr => der_without_joins T D_is_below D_least_form hr) (fun ds S Q _ h => b_without_joins ds S Q h)
  have D_without_joins : DefOk l.prog w K mg base 5 "without_joins" 3 (P_without_joins c) := ⟨⟨_, _, _, rfl, O37, PySem.W.mg_of X G a37, k37, (F37.binds fun _ _ _ _ _ _ us hl => match us, hl with | [_, _, _], _ => rfl)⟩⟩
  have O38 : FnOk l.prog w K mg base CX0 6 f38 _ ["alphabet", "first", "second"] (spOf K 3 (P_join c)) := fn_okC F38 sc_join fin_cut rfl (fun hr => der_join T D_are_apart D_common_prefix D_least_form D_rest hr) (fun ds S Q _ h => b_join ds S Q h)
  have D_join : DefOk l.prog w K mg base 6 "join" 3 (P_join c) := ⟨⟨_, _, _, rfl, O38, PySem.W.mg_of X G a38, k38, (F38.binds fun _ _ _ _ _ _ us hl => match us, hl with | [_, _, _], _ => rfl)⟩⟩
  have O39 : FnOk l.prog w K mg base CX0 6 f39 _ ["alphabet", "words"] (spOf K 2 (P_common_all c)) := fn_okC F39 sc_common_all fin_cut rfl (fun hr => der_common_all T D_common_prefix D_least_form hr) (fun ds S Q _ h => b_common_all ds S Q h)
  have D_common_all : DefOk l.prog w K mg base 6 "common_all" 2 (P_common_all c) := ⟨⟨_, _, _, rfl, O39, PySem.W.mg_of X G a39, k39, (F39.binds fun _ _ _ _ _ _ us hl => match us, hl with | [_, _], _ => rfl)⟩⟩
  have O40 : FnOk l.prog w K mg base CX0 7 f40 _ ["alphabet", "words"] (spOf K 2 (P_joined_all c)) := fn_okC F40 sc_joined_all fin_cut rfl (fun hr => der_joined_all T D_join hr) (fun ds S Q _ h => b_joined_all ds S Q h)
  have D_joined_all : DefOk l.prog w K mg base 7 "joined_all" 2 (P_joined_all c) := ⟨⟨_, _, _, rfl, O40, PySem.W.mg_of X G a40, k40, (F40.binds fun _ _ _ _ _ _ us hl => match us, hl with | [_, _], _ => rfl)⟩⟩
  have O41 : FnOk l.prog w K mg base CX0 8 f41 _ ["draws", "alphabet", "places", "letters"] (spOf K 4 (P__law_joins_right c)) := fn_okC F41 sc__law_joins_right fin_cut rfl (fun hr => der__law_joins_right T D__law_words D_common_all D_common_prefix D_equivalent D_independent D_join D_joined_all D_least_form D_order_count D_place_word D_rest D_without_joins hr) (fun ds S Q _ h => b__law_joins_right ds S Q h)
  have D__law_joins_right : DefOk l.prog w K mg base 8 "_law_joins_right" 4 (P__law_joins_right c) := ⟨⟨_, _, _, rfl, O41, PySem.W.mg_of X G a41, k41, (F41.binds fun _ _ _ _ _ _ us hl => match us, hl with | [_, _, _, _], _ => rfl)⟩⟩
  exact law_fn l42 c42 (fun hr => der_law T D_Table_do D_Table_do_again D_Table_events D_Table_row D_Table_undo D_Table_undo_with_all D_Table_word D__law_alphabet D__law_draws D__law_joins_right D__law_take D_equivalent D_is_below D_is_least D_least_form D_rest D_without_joins M_Alphabet M_Table ⟨FT, PySem.W.mg_of X G ta⟩ TB hr)
theorem walk {l : PySem.W.OpenLaw} {q : Program} {loose : List Str} {XP : (Str → Option Value) → Heap → Prop} {YP : World → Heap → Prop} {d : DefRec} {K : Params → PySem.W.Frag} (hn : l.most = some 63) (hdf : d.params.defaults = [])
    (hrec : ((recsOf q).any fun e => e.name == d.name) = true) (hY : ∀ (w : World) (h : Heap), YP w h → (K w.params).In h)
    (F : ∀ (w : World) (mg : Str → Option Value) (fa : Addr) (h : Heap), (K w.params).In h → h.Ns mainGlobals mg → mg d.name = some (.ref fa) → LawK l w (K w.params) mg fa) :
    PySem.W.WalkO q loose XP YP l.row.toRowW d [] (fun f vs => PySem.call f vs) := by
  refine LamX.walk_ofOwn (n := 63) (k := 9) (x := "script") (CX := fun _ => CX0) hn (by decide) hdf ⟨rfl, by decide, by decide⟩ hrec hY (fun w mg fa h Y KX G e own => ?_) fun _ _ _ _ _ z => z
  obtain ⟨c, oc, od, an, osl, kV, dc, pm, ct, lk, hCH, hNT, hF⟩ := F w mg fa h KX G e
  obtain ⟨e1, dd, vs, sl, h1, h2⟩ := codeHd_look hCH
  refine ⟨lawFn c kV dc pm ct an, [(c.LC, c.LT)], spOf (K w.params) 1 (P_law c), fun p hp => ?_, fun p hp => ?_, fun p hp => ?_, fun s u => .of_eq rfl, fun H a ns hl _ hT hS => law_start hl (hT (c.LC, c.LT) (by simp)) hS, fun base _ _ TB => hF base (TB (c.LC, c.LT) (by simp))⟩
  · rw [List.mem_singleton.mp hp]
    exact own c.LC c.LT _ _ e1 dd vs sl lk rfl rfl h1 h2
  · rw [List.mem_singleton.mp hp]
    exact hNT
  · rw [List.mem_singleton.mp hp]
    exact PySem.W.codeHd_of_K KX hCH
end K5

open PySem PySem.W PyProof.Rows in
set_option maxRecDepth 100000 in
set_option maxHeartbeats 0 in
theorem PySem.Challenge.cw_tracetalk_k95_whole_words_of_many_hands_holds : PySem.Challenge.rw_tracetalk_k95_whole_words_of_many_hands.Holds := by
  w_on; o_law; k_head; (case hw => w_witness2)
  k_fill
  refine K5.walk (l := PySem.Challenge.rw_tracetalk_k95_whole_words_of_many_hands) rfl rfl (by rfl) (fun w h Y => PySem.W.km_in_of Y) ?F
  case F =>
    intro w mg fa h KX G hmg
    refine' K5.all_mk (LT := 373) KX G hmg ?zC0 ?zg0 ?zd0 ?zp0 ?zs0 ?zm0 ?zk0 ?zC1 ?zg1 ?zd1 ?zp1 ?zs1 ?zm1 ?zk1 ?ta ?tl ?tcode ?tkeep ?a0 ?l0 ?c0 ?k0 ?a1 ?l1 ?c1 ?k1 ?a2 ?l2 ?c2 ?k2 ?a3 ?i3 ?l3 ?c3 ?k3 ?a4 ?i4 ?l4 ?c4 ?k4 ?a5 ?i5 ?l5 ?c5 ?k5 ?a6 ?i6 ?l6 ?c6 ?k6 ?a7 ?i7 ?l7 ?c7 ?k7 ?a8 ?i8 ?l8 ?c8 ?k8 ?a9 ?l9 ?c9 ?k9 ?a10 ?l10 ?c10 ?k10 ?a11 ?l11 ?c11 ?k11 ?a12 ?l12 ?c12 ?k12 ?a13 ?l13 ?c13 ?k13 ?a14 ?i14 ?l14 ?c14 ?k14 ?a15 ?l15 ?c15 ?k15 ?a16 ?i16 ?l16 ?c16 ?k16 ?a17 ?i17 ?l17 ?c17 ?k17 ?a18 ?i18 ?l18 ?c18 ?k18 ?a19 ?i19 ?l19 ?c19 ?k19 ?a20 ?l20 ?c20 ?k20 ?a21 ?l21 ?c21 ?k21 ?a22 ?l22 ?c22 ?k22 ?a23 ?l23 ?c23 ?k23 ?a24 ?l24 ?c24 ?k24 ?a25 ?l25 ?c25 ?k25 ?a26 ?l26 ?c26 ?k26 ?a27 ?l27 ?c27 ?k27 ?a28 ?i28 ?l28 ?c28 ?k28 ?a29 ?i29 ?l29 ?c29 ?k29 ?a30 ?l30 ?c30 ?k30 ?a31 ?l31 ?c31 ?k31 ?a32 ?l32 ?c32 ?k32 ?a33 ?l33 ?c33 ?k33 ?a34 ?i34 ?l34 ?c34 ?k34 ?a35 ?l35 ?c35 ?k35 ?a36 ?l36 ?c36 ?k36 ?a37 ?l37 ?c37 ?k37 ?a38 ?l38 ?c38 ?k38 ?a39 ?l39 ?c39 ?k39 ?a40 ?l40 ?c40 ?k40 ?a41 ?l41 ?c41 ?k41 ?a42 ?l42 ?c42 ?k42 ?hCH ?hNT ?tb_any ?tb_enumerate ?tb_int ?tb_len ?tb_list ?tb_max ?tb_range ?tb_sorted ?tb_sum ?tb_tuple ?tc_MOST_HANDS ?tc_MOST_LETTERS ?tc_MOST_PLACES ?xg_NotReady ?xk_NotReady ?xx_NotReady ?xb_NotReady ?xt_NotReady ?xe_NotReady ?tn_Alphabet_places ?tn_Alphabet_letters ?tn_Table__alphabet ?tn_Table__rows ?tn_Table__events ?tn_Table__count
    (case zC0 => k_is)
    (case zg0 => k_is)
    (case zd0 => k_is)
    (case zp0 => k_is)
    (case zs0 => k_is)
    (case zm0 => k_is)
    (case zk0 => k_is)
    (case zC1 => k_is)
    (case zg1 => k_is)
    (case zd1 => k_is)
    (case zp1 => k_is)
    (case zs1 => k_is)
    (case zm1 => k_is)
    (case zk1 => k_is)
    (case ta => k_is)
    (case tl => k_is)
    (case tcode => k_is)
    (case tkeep => k_is)
    (case a0 => k_is)
    (case l0 => k_is)
    (case c0 => k_is)
    (case k0 => k_is)
    (case a1 => k_is)
    (case l1 => k_is)
    (case c1 => k_is)
    (case k1 => k_is)
    (case a2 => k_is)
    (case l2 => k_is)
    (case c2 => k_is)
    (case k2 => k_is)
    (case a3 => k_is)
    (case i3 => k_is)
    (case l3 => k_is)
    (case c3 => k_is)
    (case k3 => k_is)
    (case a4 => k_is)
    (case i4 => k_is)
    (case l4 => k_is)
    (case c4 => k_is)
    (case k4 => k_is)
    (case a5 => k_is)
    (case i5 => k_is)
    (case l5 => k_is)
    (case c5 => k_is)
    (case k5 => k_is)
    (case a6 => k_is)
    (case i6 => k_is)
    (case l6 => k_is)
    (case c6 => k_is)
    (case k6 => k_is)
    (case a7 => k_is)
    (case i7 => k_is)
    (case l7 => k_is)
    (case c7 => k_is)
    (case k7 => k_is)
    (case a8 => k_is)
    (case i8 => k_is)
    (case l8 => k_is)
    (case c8 => k_is)
    (case k8 => k_is)
    (case a9 => k_is)
    (case l9 => k_is)
    (case c9 => k_is)
    (case k9 => k_is)
    (case a10 => k_is)
    (case l10 => k_is)
    (case c10 => k_is)
    (case k10 => k_is)
    (case a11 => k_is)
    (case l11 => k_is)
    (case c11 => k_is)
    (case k11 => k_is)
    (case a12 => k_is)
    (case l12 => k_is)
    (case c12 => k_is)
    (case k12 => k_is)
    (case a13 => k_is)
    (case l13 => k_is)
    (case c13 => k_is)
    (case k13 => k_is)
    (case a14 => k_is)
    (case i14 => k_is)
    (case l14 => k_is)
    (case c14 => k_is)
    (case k14 => k_is)
    (case a15 => k_is)
    (case l15 => k_is)
    (case c15 => k_is)
    (case k15 => k_is)
    (case a16 => k_is)
    (case i16 => k_is)
    (case l16 => k_is)
    (case c16 => k_is)
    (case k16 => k_is)
    (case a17 => k_is)
    (case i17 => k_is)
    (case l17 => k_is)
    (case c17 => k_is)
    (case k17 => k_is)
    (case a18 => k_is)
    (case i18 => k_is)
    (case l18 => k_is)
    (case c18 => k_is)
    (case k18 => k_is)
    (case a19 => k_is)
    (case i19 => k_is)
    (case l19 => k_is)
    (case c19 => k_is)
    (case k19 => k_is)
    (case a20 => k_is)
    (case l20 => k_is)
    (case c20 => k_is)
    (case k20 => k_is)
    (case a21 => k_is)
    (case l21 => k_is)
    (case c21 => k_is)
    (case k21 => k_is)
    (case a22 => k_is)
    (case l22 => k_is)
    (case c22 => k_is)
    (case k22 => k_is)
    (case a23 => k_is)
    (case l23 => k_is)
    (case c23 => k_is)
    (case k23 => k_is)
    (case a24 => k_is)
    (case l24 => k_is)
    (case c24 => k_is)
    (case k24 => k_is)
    (case a25 => k_is)
    (case l25 => k_is)
    (case c25 => k_is)
    (case k25 => k_is)
    (case a26 => k_is)
    (case l26 => k_is)
    (case c26 => k_is)
    (case k26 => k_is)
    (case a27 => k_is)
    (case l27 => k_is)
    (case c27 => k_is)
    (case k27 => k_is)
    (case a28 => k_is)
    (case i28 => k_is)
    (case l28 => k_is)
    (case c28 => k_is)
    (case k28 => k_is)
    (case a29 => k_is)
    (case i29 => k_is)
    (case l29 => k_is)
    (case c29 => k_is)
    (case k29 => k_is)
    (case a30 => k_is)
    (case l30 => k_is)
    (case c30 => k_is)
    (case k30 => k_is)
    (case a31 => k_is)
    (case l31 => k_is)
    (case c31 => k_is)
    (case k31 => k_is)
    (case a32 => k_is)
    (case l32 => k_is)
    (case c32 => k_is)
    (case k32 => k_is)
    (case a33 => k_is)
    (case l33 => k_is)
    (case c33 => k_is)
    (case k33 => k_is)
    (case a34 => k_is)
    (case i34 => k_is)
    (case l34 => k_is)
    (case c34 => k_is)
    (case k34 => k_is)
    (case a35 => k_is)
    (case l35 => k_is)
    (case c35 => k_is)
    (case k35 => k_is)
    (case a36 => k_is)
    (case l36 => k_is)
    (case c36 => k_is)
    (case k36 => k_is)
    (case a37 => k_is)
    (case l37 => k_is)
    (case c37 => k_is)
    (case k37 => k_is)
    (case a38 => k_is)
    (case l38 => k_is)
    (case c38 => k_is)
    (case k38 => k_is)
    (case a39 => k_is)
    (case l39 => k_is)
    (case c39 => k_is)
    (case k39 => k_is)
    (case a40 => k_is)
    (case l40 => k_is)
    (case c40 => k_is)
    (case k40 => k_is)
    (case a41 => k_is)
    (case l41 => k_is)
    (case c41 => k_is)
    (case k41 => k_is)
    (case a42 => k_is)
    (case l42 => k_is)
    (case c42 => k_is)
    (case k42 => k_is)
    (case hCH => first | kernel_rfl | rfl | decide +kernel)
    (case hNT => first | kernel_rfl | rfl | decide +kernel)
    (case tb_any => k_is)
    (case tb_enumerate => k_is)
    (case tb_int => k_is)
    (case tb_len => k_is)
    (case tb_list => k_is)
    (case tb_max => k_is)
    (case tb_range => k_is)
    (case tb_sorted => k_is)
    (case tb_sum => k_is)
    (case tb_tuple => k_is)
    (case tc_MOST_HANDS => k_is)
    (case tc_MOST_LETTERS => k_is)
    (case tc_MOST_PLACES => k_is)
    (case xg_NotReady => k_is)
    (case xk_NotReady => k_is)
    (case xx_NotReady => first | kernel_rfl | rfl | decide +kernel)
    (case xb_NotReady => k_is)
    (case xt_NotReady => k_is)
    (case xe_NotReady => first | kernel_rfl | rfl | decide +kernel)
    (case tn_Alphabet_places => k_is)
    (case tn_Alphabet_letters => k_is)
    (case tn_Table__alphabet => k_is)
    (case tn_Table__rows => k_is)
    (case tn_Table__events => k_is)
    (case tn_Table__count => k_is)
