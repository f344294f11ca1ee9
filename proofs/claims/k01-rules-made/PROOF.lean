import PyProof.Rows.All
import Wide.All
import OpenK.AllK
import Wide.FinOn
import HandS.ForMost
import HandS.Exc
import HandS.HeadHook1
import HandS.Defaults
import HandS.MakeKw
import HandS.TupAny
import HandS.Codes
import PyProof.NeKinds
import HandS.Strs
import HandS.SetFor
import KE.SortData
import KE.SortLaws
import PyProof.CollectStr
import PyProof.TupleOfSeq
import HandS.FStr
import HandS.Replace
import HandS.IsInst
import PyProof.ReprReads
import PyProof.ReprRoads
import PyProof.ReprLen
import PyProof.StrLawsRepr
import KE.KCallOwn
import PyProof.InstNe
import HandS.EndBits
import HandS.HeadHook4
import HandS.HeadHook2
import PySem.Challenge.RW_fuseposts_k01_rules_made
import KE.KStateDown
import Lean
import HandS.Head0
import HandS.Head1
import HandS.Head2
import HandS.HeadEnd
set_option Elab.async false
set_option linter.all false
set_option maxRecDepth 100000
set_option maxHeartbeats 0
section
/-! Fz: abstract data, a store of mutable cells, and readings over them, above the hand layer. -/
namespace Fz
open PySem PySem.Spec PyProof.Rows L2

/-- data without a heap; ref p: what may change, by its place; obj a c fs: an object of the class c that never changes -/
inductive D where
  | non | bl (b : Bool) | int (i : Int) | str (x : List Nat) | ref (p : Addr)
  | tup (ds : List D) | lst (ds : List D) | scr (ns : List Int) | obj (a : Addr) (c : Str) (fs : List (Str × D))
  | dk (ks : List (Key × D)) | dt (ks : List (List Key × D))

mutual
inductive Rep (K : PySem.W.Frag) (G : Hp) : D → V → Prop
  | non : Rep K G .non .non
  | bl {b} : Rep K G (.bl b) (.bl b)
  | int {i} : Rep K G (.int i) (.int i)
  | str {x} : x.length ≤ 16777000 → Rep K G (.str x) (.str ⟨x.toArray⟩)
  | ref {p} : Rep K G (.ref p) (.ref p)
  | tup {ds a xs} : SqT K G a xs → RepL K G ds xs → Rep K G (.tup ds) (.ref a)
  | lst {ds a xs} : G a = some (.lst xs) → RepL K G ds xs → Rep K G (.lst ds) (.ref a)
  | scr {ns a} : SqL K G a (ns.map V.int) → Rep K G (.scr ns) (.ref a)
  | obj {a c fs dx vs} : G a = some (.ins (He.ga K c) dx vs) → RepF K G fs vs → Rep K G (.obj a c fs) (.ref a)
  | dk {a ks vs} : G a = some (.dK vs) → RepK K G ks vs → Rep K G (.dk ks) (.ref a)
  | dt {a ks vs} : G a = some (.dT vs) → RepT K G ks vs → Rep K G (.dt ks) (.ref a)
inductive RepL (K : PySem.W.Frag) (G : Hp) : List D → List V → Prop
  | nil : RepL K G [] []
  | cons {d v ds vs} : Rep K G d v → RepL K G ds vs → RepL K G (d :: ds) (v :: vs)
inductive RepF (K : PySem.W.Frag) (G : Hp) : List (Str × D) → List (Str × V) → Prop
  | nil : RepF K G [] []
  | cons {n d v ds vs} : Rep K G d v → RepF K G ds vs → RepF K G ((n, d) :: ds) ((n, v) :: vs)
inductive RepK (K : PySem.W.Frag) (G : Hp) : List (Key × D) → List (Key × V) → Prop
  | nil : RepK K G [] []
  | cons {n d v ds vs} : Rep K G d v → RepK K G ds vs → RepK K G ((n, d) :: ds) ((n, v) :: vs)
inductive RepT (K : PySem.W.Frag) (G : Hp) : List (List Key × D) → List (List Key × V) → Prop
  | nil : RepT K G [] []
  | cons {n d v ds vs} : Rep K G d v → RepT K G ds vs → RepT K G ((n, d) :: ds) ((n, v) :: vs)
end

abbrev Sub (G G' : Hp) : Prop := ∀ a o, G a = some o → G' a = some o
theorem Sub.rd {G G' : Hp} {a : Addr} {u : HO} (e : Sub G G') (h : Rd G a u) : Rd G' a u := by
  rcases h with h | ⟨o, h⟩
  · exact .inl (e _ _ h)
  · exact .inr ⟨o, e _ _ h⟩
theorem Sub.sl {K} {G G' : Hp} {a : Addr} {xs : List V} (e : Sub G G') (h : SqL K G a xs) : SqL K G' a xs := h.imp e.rd id
theorem Sub.st {K} {G G' : Hp} {a : Addr} {xs : List V} (e : Sub G G') (h : SqT K G a xs) : SqT K G' a xs := h.imp e.rd id

mutual
theorem Rep.mono {K G G'} (e : Sub G G') : ∀ {d v}, Rep K G d v → Rep K G' d v
  | _, _, .non => .non
  | _, _, .bl => .bl
  | _, _, .int => .int
  | _, _, .str h => .str h
  | _, _, .ref => .ref
  | _, _, .tup h r => .tup (e.st h) (RepL.mono e r)
  | _, _, .lst h r => .lst (e _ _ h) (RepL.mono e r)
  | _, _, .scr h => .scr (e.sl h)
  | _, _, .obj h r => .obj (e _ _ h) (RepF.mono e r)
  | _, _, .dk h r => .dk (e _ _ h) (RepK.mono e r)
  | _, _, .dt h r => .dt (e _ _ h) (RepT.mono e r)
theorem RepL.mono {K G G'} (e : Sub G G') : ∀ {d v}, RepL K G d v → RepL K G' d v
  | _, _, .nil => .nil
  | _, _, .cons h r => .cons (Rep.mono e h) (RepL.mono e r)
theorem RepF.mono {K G G'} (e : Sub G G') : ∀ {d v}, RepF K G d v → RepF K G' d v
  | _, _, .nil => .nil
  | _, _, .cons h r => .cons (Rep.mono e h) (RepF.mono e r)
theorem RepK.mono {K G G'} (e : Sub G G') : ∀ {d v}, RepK K G d v → RepK K G' d v
  | _, _, .nil => .nil
  | _, _, .cons h r => .cons (Rep.mono e h) (RepK.mono e r)
theorem RepT.mono {K G G'} (e : Sub G G') : ∀ {d v}, RepT K G d v → RepT K G' d v
  | _, _, .nil => .nil
  | _, _, .cons h r => .cons (Rep.mono e h) (RepT.mono e r)
end
theorem RepL.length {K G} : ∀ {ds vs}, RepL K G ds vs → ds.length = vs.length
  | _, _, .nil => rfl
  | _, _, .cons _ r => congrArg (· + 1) r.length
theorem RepL.get {K G} : ∀ {ds vs} {i : Nat} {d : D}, RepL K G ds vs → ds[i]? = some d → ∃ v, vs[i]? = some v ∧ Rep K G d v
  | _, _, _, _, .nil, e => by simp at e
  | _, _, 0, _, .cons h _, e => by simp at e; subst e; exact ⟨_, rfl, h⟩
  | _, _, i + 1, d, .cons _ r, e => by
    obtain ⟨v, h1, h2⟩ := RepL.get (i := i) (d := d) r (by simpa using e)
    exact ⟨v, by simpa using h1, h2⟩
theorem RepL.get' {K G} : ∀ {ds vs} {i : Nat} {v : V}, RepL K G ds vs → vs[i]? = some v → ∃ d, ds[i]? = some d ∧ Rep K G d v
  | _, _, _, _, .nil, e => by simp at e
  | _, _, 0, _, .cons h _, e => by simp at e; subst e; exact ⟨_, rfl, h⟩
  | _, _, i + 1, d, .cons _ r, e => by
    obtain ⟨v, h1, h2⟩ := RepL.get' (i := i) (v := d) r (by simpa using e)
    exact ⟨v, by simpa using h1, h2⟩
theorem RepL.app {K G} : ∀ {ds vs es ws}, RepL K G ds vs → RepL K G es ws → RepL K G (ds ++ es) (vs ++ ws)
  | _, _, _, _, .nil, s => s
  | _, _, _, _, .cons h r, s => .cons h (r.app s)
theorem RepL.take {K G} : ∀ {ds vs} (n : Nat), RepL K G ds vs → RepL K G (ds.take n) (vs.take n)
  | _, _, 0, _ => .nil
  | _, _, _ + 1, .nil => .nil
  | _, _, n + 1, .cons h r => .cons h (r.take n)
theorem RepL.drop {K G} : ∀ {ds vs} (n : Nat), RepL K G ds vs → RepL K G (ds.drop n) (vs.drop n)
  | _, _, 0, r => r
  | _, _, _ + 1, .nil => .nil
  | _, _, n + 1, .cons _ r => r.drop n
theorem RepL.set {K G} {d : D} {v : V} (h : Rep K G d v) : ∀ {ds vs} (n : Nat), RepL K G ds vs → RepL K G (ds.set n d) (vs.set n v)
  | _, _, _, .nil => .nil
  | _, _, 0, .cons _ r => .cons h r
  | _, _, n + 1, .cons g r => .cons g (RepL.set h n r)
theorem RepL.ints {K G} : ∀ (ns : List Int), RepL K G (ns.map D.int) (ns.map V.int)
  | [] => .nil
  | _ :: ns => .cons .int (RepL.ints ns)
theorem RepL.ints_inv {K G} : ∀ {ns : List Int} {vs}, RepL K G (ns.map D.int) vs → vs = ns.map V.int
  | [], _, .nil => rfl
  | _ :: ns, _, .cons h r => by cases h; rw [RepL.ints_inv r]; rfl
theorem RepL.strs_inv {K G} : ∀ {ns : List (List Nat)} {vs}, RepL K G (ns.map D.str) vs → vs = (ns.map fun x => V.str ⟨x.toArray⟩) ∧ ∀ x ∈ ns, x.length ≤ 16777000
  | [], _, .nil => ⟨rfl, fun _ h => nomatch h⟩
  | n :: ns, _, .cons h r => by
    cases h with
    | str hl =>
      obtain ⟨e, q⟩ := RepL.strs_inv r
      exact ⟨by rw [e]; rfl, fun x hx => (List.mem_cons.mp hx).elim (fun z => z ▸ hl) (q x)⟩
theorem RepL.strs {K G} : ∀ (ns : List (List Nat)), (∀ x ∈ ns, x.length ≤ 16777000) → RepL K G (ns.map D.str) (ns.map fun x => V.str ⟨x.toArray⟩)
  | [], _ => .nil
  | _ :: ns, h => .cons (.str (h _ (List.mem_cons_self ..))) (RepL.strs ns fun x hx => h x (List.mem_cons_of_mem _ hx))
theorem RepL.bls_inv {K G} : ∀ {ns : List Bool} {vs}, RepL K G (ns.map D.bl) vs → vs = ns.map V.bl
  | [], _, .nil => rfl
  | _ :: ns, _, .cons h r => by cases h; rw [RepL.bls_inv r]; rfl
theorem RepF.look {K G} : ∀ {fs vs} {f : Str} {d : D}, RepF K G fs vs → fs.lookup f = some d → ∃ v, vs.lookup f = some v ∧ Rep K G d v
  | _, _, _, _, .nil, e => by simp at e
  | _, _, f, d, .cons (n := n) h r, e => by
    rw [List.lookup_cons] at e ⊢
    cases q : f == n with
    | true => rw [q] at e; cases e; exact ⟨_, rfl, h⟩
    | false => rw [q] at e; exact r.look e
theorem RepF.none {K G} : ∀ {fs vs} {f : Str}, RepF K G fs vs → fs.lookup f = Option.none → vs.lookup f = Option.none
  | _, _, _, .nil, _ => rfl
  | _, _, f, .cons (n := n) h r, e => by
    rw [List.lookup_cons] at e ⊢
    cases q : f == n with
    | true => rw [q] at e; cases e
    | false => rw [q] at e; exact r.none e
theorem RepF.length {K G} : ∀ {ds vs}, RepF K G ds vs → ds.length = vs.length
  | _, _, .nil => rfl
  | _, _, .cons _ r => congrArg (· + 1) r.length

/-! ### mutable cells -/
inductive Cell where
  | lst (ds : List D)
  /-- three ints, the first two at least 0: the law's own bag -/
  | bag
  | dk (ks : List (Key × D)) | dt (ks : List (List Key × D))
  | ins (c : Str) (fs : List (Str × D))
abbrev Store := List (Addr × Cell)
def CellAt (K : PySem.W.Frag) (G : Hp) (o : Option HO) : Cell → Prop
  | .lst ds => ∃ xs, o = some (.lst xs) ∧ RepL K G ds xs
  | .bag => ∃ a b c : Int, o = some (.lst [.int a, .int b, .int c]) ∧ 0 ≤ a ∧ 0 ≤ b
  | .dk ks => ∃ vs, o = some (.dK vs) ∧ RepK K G ks vs
  | .dt ks => ∃ vs, o = some (.dT vs) ∧ RepT K G ks vs
  | .ins c fs => ∃ dx vs, o = some (.ins (He.ga K c) dx vs) ∧ RepF K G fs vs
theorem CellAt.mono {K G G' o} (e : Sub G G') : ∀ {c : Cell}, CellAt K G o c → CellAt K G' o c
  | .lst _, ⟨xs, h, r⟩ => ⟨xs, h, r.mono e⟩
  | .bag, h => h
  | .dk _, ⟨xs, h, r⟩ => ⟨xs, h, r.mono e⟩
  | .dt _, ⟨xs, h, r⟩ => ⟨xs, h, r.mono e⟩
  | .ins _ _, ⟨dx, xs, h, r⟩ => ⟨dx, xs, h, r.mono e⟩
theorem CellAt.some {K G o} : ∀ {c : Cell}, CellAt K G o c → ∃ u, o = some u
  | .lst _, ⟨_, h, _⟩ => ⟨_, h⟩
  | .bag, ⟨_, _, _, h, _⟩ => ⟨_, h⟩
  | .dk _, ⟨_, h, _⟩ => ⟨_, h⟩
  | .dt _, ⟨_, h, _⟩ => ⟨_, h⟩
  | .ins _ _, ⟨_, _, h, _⟩ => ⟨_, h⟩

/-- the heap without what may change: F the frame's hidden places, the store's places -/
def hd (l : List Addr) (H : Hp) : Hp := fun a => if a ∈ l then none else H a
abbrev keys (S : Store) : List Addr := S.map (·.1)
abbrev vw (F : List Addr) (S : Store) (H : Hp) : Hp := hd (F ++ keys S) H
theorem hd_in {l : List Addr} {H : Hp} {a : Addr} (h : a ∈ l) : hd l H a = none := if_pos h
theorem hd_out {l : List Addr} {H : Hp} {a : Addr} (h : a ∉ l) : hd l H a = H a := if_neg h
theorem hd_sub {l : List Addr} {H : Hp} : Sub (hd l H) H := fun a o h => by
  by_cases q : a ∈ l
  · rw [hd_in q] at h; cases h
  · rw [hd_out q] at h; exact h
theorem hd_less {l l' : List Addr} {H : Hp} (h : ∀ a, a ∈ l' → a ∈ l) : Sub (hd l H) (hd l' H) := fun a o e => by
  by_cases q : a ∈ l
  · rw [hd_in q] at e; cases e
  · rw [hd_out fun z => q (h a z)]; rw [hd_out q] at e; exact e

theorem ne_mem {l : List Addr} {a p : Addr} (h : a ∈ l) (n : p ∉ l) : a ≠ p := fun z => n (by rw [← z]; exact h)
theorem ne_mem' {l : List Addr} {a p : Addr} (h : a ∉ l) (n : p ∈ l) : a ≠ p := fun z => h (by rw [z]; exact n)
structure HC (K : PySem.W.Frag) (F : List Addr) (S : Store) (H : Hp) : Prop where
  nd : (F ++ keys S).Nodup
  fr : ∀ a ∈ F, H a ≠ none
  at_ : ∀ p c, (p, c) ∈ S → CellAt K (vw F S H) (H p) c
structure Stp (F : List Addr) (S : Store) (H : Hp) (S' : Store) (H' : Hp) : Prop where
  ext : Sub (vw F S H) (vw F S' H')
  frm : ∀ a ∈ F, H' a = H a
theorem Stp.refl {F S H} : Stp F S H S H := ⟨fun _ _ h => h, fun _ _ => rfl⟩
theorem Stp.trans {F S H S1 H1 S2 H2} (a : Stp F S H S1 H1) (b : Stp F S1 H1 S2 H2) : Stp F S H S2 H2 :=
  ⟨fun x o h => b.ext x o (a.ext x o h), fun x h => (b.frm x h).trans (a.frm x h)⟩
theorem HC.there {K F S H} (h : HC K F S H) {a : Addr} (m : a ∈ F ++ keys S) : H a ≠ none := by
  rcases List.mem_append.mp m with m | m
  · exact h.fr a m
  · obtain ⟨⟨p, c⟩, hm, rfl⟩ := List.mem_map.mp m
    obtain ⟨u, e⟩ := (h.at_ p c hm).some
    show H p ≠ none
    rw [e]; exact fun z => nomatch z
theorem HC.fresh {K F S H} (h : HC K F S H) {a : Addr} (n : H a = none) : a ∉ F ++ keys S := fun m => h.there m n
/-- a new object -/
theorem HC.new {K F S H} (h : HC K F S H) {p : Addr} {o : HO} (n : H p = none) : HC K F S (upd H p o) ∧ Stp F S H S (upd H p o) ∧ vw F S (upd H p o) p = some o := by
  have np := h.fresh n
  have sub : Sub (vw F S H) (vw F S (upd H p o)) := fun a u e => by
    have ha : a ∉ F ++ keys S := fun q => by rw [vw, hd_in q] at e; cases e
    rw [vw, hd_out ha] at e ⊢
    rw [upd_ne (ne_of_none e n)]; exact e
  refine ⟨⟨h.nd, fun a ha => ?_, fun q c hq => ?_⟩, ⟨sub, fun a ha => ?_⟩, ?_⟩
  · rw [upd_ne (ne_mem (List.mem_append_left _ ha) np)]; exact h.fr a ha
  · have hm : q ∈ F ++ keys S := List.mem_append_right _ (List.mem_map.mpr ⟨_, hq, rfl⟩)
    rw [upd_ne (ne_mem hm np)]
    exact (h.at_ q c hq).mono sub
  · rw [upd_ne (ne_mem (List.mem_append_left _ ha) np)]
  · rw [vw, hd_out np, upd_same]
/-- a new object, twice -/
theorem HC.grow {K F S H H'} (h : HC K F S H) (e : Sub H H') : HC K F S H' ∧ Stp F S H S H' := by
  have sub : Sub (vw F S H) (vw F S H') := fun a u q => by
    have ha : a ∉ F ++ keys S := fun z => by rw [vw, hd_in z] at q; cases q
    rw [vw, hd_out ha] at q ⊢
    exact e a u q
  have same : ∀ a, a ∈ F ++ keys S → H' a = H a := fun a ha => by
    cases q : H a with
    | none => exact absurd q (h.there ha)
    | some o => exact e a o q
  refine ⟨⟨h.nd, fun a ha => ?_, fun q c hq => ?_⟩, ⟨sub, fun a ha => same a (List.mem_append_left _ ha)⟩⟩
  · rw [same a (List.mem_append_left _ ha)]; exact h.fr a ha
  · rw [same q (List.mem_append_right _ (List.mem_map.mpr ⟨_, hq, rfl⟩))]
    exact (h.at_ q c hq).mono sub
/-- a new cell -/
theorem HC.cell {K F S H} (h : HC K F S H) {p : Addr} {o : HO} {c : Cell} (n : H p = none) (hc : CellAt K (vw F S H) (some o) c) :
    HC K F (S ++ [(p, c)]) (upd H p o) ∧ Stp F S H (S ++ [(p, c)]) (upd H p o) := by
  have np := h.fresh n
  have ek : F ++ keys (S ++ [(p, c)]) = (F ++ keys S) ++ [p] := by simp [keys]
  have same : ∀ a, a ≠ p → vw F (S ++ [(p, c)]) (upd H p o) a = vw F S H a := fun a ha => by
    by_cases q : a ∈ F ++ keys S
    · rw [vw, hd_in (by rw [ek]; exact List.mem_append_left _ q), vw, hd_in q]
    · rw [vw, hd_out (by rw [ek]; intro z; rcases List.mem_append.mp z with z | z; exact q z; exact ha (List.mem_singleton.mp z)), vw, hd_out q, upd_ne ha]
  have sub : Sub (vw F S H) (vw F (S ++ [(p, c)]) (upd H p o)) := fun a u e => by
    have ha : a ≠ p := fun z => by
      subst z
      rw [vw, hd_out np, n] at e; cases e
    rw [same a ha]; exact e
  refine ⟨⟨?_, fun a ha => ?_, fun q c' hq => ?_⟩, ⟨sub, fun a ha => ?_⟩⟩
  · rw [ek]
    exact List.nodup_append.mpr ⟨h.nd, by simp, fun a ha b hb => by simp at hb; subst hb; exact fun z => np (z ▸ ha)⟩
  · rw [upd_ne (ne_mem (List.mem_append_left _ ha) np)]; exact h.fr a ha
  · rcases List.mem_append.mp hq with hq | hq
    · have hm : q ∈ F ++ keys S := List.mem_append_right _ (List.mem_map.mpr ⟨_, hq, rfl⟩)
      rw [upd_ne (ne_mem hm np)]
      exact (h.at_ q c' hq).mono sub
    · obtain ⟨rfl, rfl⟩ := Prod.mk.inj (List.mem_singleton.mp hq)
      rw [upd_same]
      exact hc.mono sub
  · rw [upd_ne (ne_mem (List.mem_append_left _ ha) np)]
/-- the content of the k-th cell is changed -/
theorem HC.put {K F S H} (h : HC K F S H) {k : Nat} {p : Addr} {c c' : Cell} {o : HO} (hk : S[k]? = some (p, c)) (hc : CellAt K (vw F S H) (some o) c') :
    HC K F (S.set k (p, c')) (upd H p o) ∧ Stp F S H (S.set k (p, c')) (upd H p o) := by
  have kl : k < S.length := (List.getElem?_eq_some_iff.mp hk).1
  have ek : keys (S.set k (p, c')) = keys S := by
    unfold keys
    rw [List.map_set]
    apply List.ext_getElem?
    intro i
    by_cases q : k = i
    · subst q
      rw [List.getElem?_set_self (by simpa using kl), List.getElem?_map, hk]; rfl
    · rw [List.getElem?_set_ne q]
  have hm : p ∈ F ++ keys S := List.mem_append_right _ (List.mem_map.mpr ⟨_, List.mem_of_getElem? hk, rfl⟩)
  have ev : vw F (S.set k (p, c')) (upd H p o) = vw F S H := by
    funext a
    by_cases q : a ∈ F ++ keys S
    · rw [vw, ek, hd_in q, vw, hd_in q]
    · rw [vw, ek, hd_out q, vw, hd_out q, upd_ne (ne_mem' q hm)]
  have nd := h.nd
  have pF : p ∉ F := fun z => (List.nodup_append.mp nd).2.2 p z p (List.mem_map.mpr ⟨_, List.mem_of_getElem? hk, rfl⟩) rfl
  refine ⟨⟨by rw [ek]; exact nd, fun a ha => ?_, fun q d hq => ?_⟩, ⟨by rw [ev]; exact fun _ _ z => z, fun a ha => ?_⟩⟩
  · rw [upd_ne (ne_mem ha pF)]; exact h.fr a ha
  · rw [ev]
    obtain ⟨j, hj⟩ := List.mem_iff_getElem?.mp hq
    by_cases e : k = j
    · subst e
      rw [List.getElem?_set_self kl] at hj
      obtain ⟨rfl, rfl⟩ := Prod.mk.inj (Option.some.inj hj)
      rw [upd_same]; exact hc
    · rw [List.getElem?_set_ne e] at hj
      have nk : (keys S).Nodup := (List.nodup_append.mp nd).2.1
      have ne : q ≠ p := fun z => by
        subst z
        have e1 : (keys S)[k]? = some q := by rw [List.getElem?_map, hk]; rfl
        have e2 : (keys S)[j]? = some q := by rw [List.getElem?_map, hj]; rfl
        exact e ((List.getElem?_inj (by simpa using kl) nk).mp (e1.trans e2.symm))
      rw [upd_ne ne]
      exact h.at_ q d (List.mem_of_getElem? hj)
  · rw [upd_ne (ne_mem ha pF)]
theorem HC.get {K F S H} (h : HC K F S H) {k : Nat} {p : Addr} {c : Cell} (hk : S[k]? = some (p, c)) : CellAt K (vw F S H) (H p) c := h.at_ p c (List.mem_of_getElem? hk)
/-- the last cell is changed no more -/
theorem HC.freeze {K F S H} {p : Addr} {c : Cell} (h : HC K F (S ++ [(p, c)]) H) : HC K F S H ∧ Stp F (S ++ [(p, c)]) H S H ∧ vw F S H p = H p := by
  have ek : F ++ keys (S ++ [(p, c)]) = (F ++ keys S) ++ [p] := by simp [keys]
  have sub : Sub (vw F (S ++ [(p, c)]) H) (vw F S H) := hd_less fun a ha => by rw [ek]; exact List.mem_append_left _ ha
  have nd := h.nd
  rw [ek] at nd
  have np : p ∉ F ++ keys S := fun z => (List.nodup_append.mp nd).2.2 p z p (by simp) rfl
  refine ⟨⟨(List.nodup_append.mp nd).1, h.fr, fun q d hq => (h.at_ q d (List.mem_append_left _ hq)).mono sub⟩, ⟨sub, fun _ _ => rfl⟩, ?_⟩
  rw [vw, hd_out np]
end Fz
end

section
namespace Fz
open PySem PySem.Spec PyProof.Rows L2

/-! ### exceptions wished for -/
abbrev AX := Str → List (Str × D) → Store → Prop
abbrev AX0 : AX := fun _ _ _ => False
def XcAt (K : PySem.W.Frag) (F : List Addr) (S : Store) (H : Hp) (d : Option Addr) (fl : List (Str × D)) : Prop :=
  (fl = [] ∧ d = none) ∨ ∃ dx vs, d = some dx ∧ vw F S H dx = some (.xd vs) ∧ RepF K (vw F S H) fl vs
structure XR (X : Cx) (Ex : AX) (F : List Addr) (S : Store) (H : Hp) : Prop where
  ex : ∃ E : XK, Takes X (fun c d _ H => E c d H) ∧ ∀ S' H' c d fl, Stp F S H S' H' → HC X.K F S' H' → XcAt X.K F S' H' d fl → Ex c fl S' → E (.ref (He.ga X.K c)) d H'
theorem XR.step {X Ex F S H S1 H1} (x : XR X Ex F S H) (t : Stp F S H S1 H1) : XR X Ex F S1 H1 := by
  obtain ⟨E, tk, h⟩ := x.ex
  exact ⟨E, tk, fun S' H' c d fl u => h S' H' c d fl (t.trans u)⟩
theorem takesN {X : Cx} : Takes X (fun _ _ _ _ => False) := fun _ _ x => by
  obtain ⟨_, _, _, _, _, _, _, _, _, _, _, _, _, _, _, _, z⟩ := x
  exact z.elim
theorem XR.none {X F S H} : XR X AX0 F S H := ⟨fun _ _ _ => False, takesN, fun _ _ _ _ _ _ _ _ z => z⟩

/-! ### the frame -/
abbrev Gam := List (Option D)
def RG (K : PySem.W.Frag) (G : Hp) (Γ : Gam) (σ : L2.St) : Prop := Γ.length = σ.length ∧ ∀ (i : Nat) (d : D), Γ[i]? = some (some d) → ∃ v, σ[i]? = some (some v) ∧ Rep K G d v
theorem RG.mono {K G G' Γ σ} (e : Sub G G') (h : RG K G Γ σ) : RG K G' Γ σ := ⟨h.1, fun i d q => let ⟨v, a, b⟩ := h.2 i d q; ⟨v, a, b.mono e⟩⟩
theorem RG.set {K G Γ σ} (h : RG K G Γ σ) {i : Nat} {d : D} {v : V} (r : Rep K G d v) : RG K G (Γ.set i (some d)) (σ.set i (some v)) := by
  refine ⟨by simpa using h.1, fun j e q => ?_⟩
  by_cases c : i = j
  · subst c
    have hl : i < Γ.length := by
      have := (List.getElem?_eq_some_iff.mp q).1
      simpa using this
    rw [List.getElem?_set_self hl] at q
    cases q
    exact ⟨v, by rw [List.getElem?_set_self (by rw [← h.1]; exact hl)], r⟩
  · rw [List.getElem?_set_ne c] at q ⊢
    exact h.2 j e q
/-- slots forgotten -/
def weaker (Γ Γ' : Gam) : Prop := Γ'.length = Γ.length ∧ ∀ (i : Nat) (d : D), Γ'[i]? = some (some d) → Γ[i]? = some (some d)
theorem RG.weak {K G Γ Γ' σ} (h : RG K G Γ σ) (w : weaker Γ Γ') : RG K G Γ' σ := ⟨w.1.trans h.1, fun i d q => h.2 i d (w.2 i d q)⟩
theorem RG.wipe {K G Γ σ} (h : RG K G Γ σ) : ∀ (vs : List Nat), ∃ Γ', Γ' = vs.foldr (fun v g => g.set v none) Γ ∧ RG K G Γ' (L2.wipe σ vs)
  | [] => ⟨Γ, rfl, h⟩
  | v :: vs => by
    obtain ⟨Γ', e, r⟩ := RG.wipe h vs
    refine ⟨_, by rw [List.foldr_cons, ← e], ?_⟩
    show RG K G (Γ'.set v Option.none) ((L2.wipe σ vs).set v Option.none)
    refine ⟨by simpa using r.1, fun j d q => ?_⟩
    by_cases c : v = j
    · subst c
      have hl : v < Γ'.length := by
        have := (List.getElem?_eq_some_iff.mp q).1
        simpa using this
      rw [List.getElem?_set_self hl] at q
      cases q
    · rw [List.getElem?_set_ne c] at q ⊢
      exact r.2 j d q

structure XOk (X : Cx) : Prop where
  nd : X.N.Nodup
  po : PassesOwn (model X.prog X.w) X.A X.env X.xe
  calm : X.calm = true
  gd : X.A.guards = some []
structure Con (X : Cx) (Ex : AX) (F : List Addr) (Γ : Gam) (S : Store) (σ : L2.St) (H : Hp) : Prop where
  ok : XOk X
  hc : HC X.K F S H
  rg : RG X.K (vw F S H) Γ σ
  xr : XR X Ex F S H
theorem Con.step {X Ex F Γ S σ H S' H'} (c : Con X Ex F Γ S σ H) (t : Stp F S H S' H') (h : HC X.K F S' H') : Con X Ex F Γ S' σ H' := ⟨c.ok, h, c.rg.mono t.ext, c.xr.step t⟩

/-! ### judgements -/
abbrev DQ := D → Store → Prop
abbrev GQ := Gam → Store → Prop
def QR (K : PySem.W.Frag) (F : List Addr) (S : Store) (H : Hp) (Q : DQ) (Q' : VK) : Prop := ∀ v H' d S', Stp F S H S' H' → HC K F S' H' → Rep K (vw F S' H') d v → Q d S' → Q' v H'
theorem QR.step {K F S H Q Q' S1 H1} (h : QR K F S H Q Q') (t : Stp F S H S1 H1) : QR K F S1 H1 Q Q' := fun v H' d S' u => h v H' d S' (t.trans u)
def tSelf (X : Cx) (e : Expr) : TE := fun σ H Q => ∀ pins s, Inv X pins σ H s → wpAny (model X.prog X.w) X.A (eval e X.env) (EP X pins σ Q) X.xe s
theorem pe_self {X e} : PE X e (tSelf X e) := ⟨fun pins s σ H Q I h => h pins s I⟩
theorem self_of {X e t} (h : PE X e t) {σ H Q} (q : t σ H Q) : tSelf X e σ H Q := fun pins s I => h.run pins s σ H Q I q
def ZE (X : Cx) (Ex : AX) (e : Expr) (Γ : Gam) (S : Store) (Q : DQ) : Prop := ∀ F σ H, Con X Ex F Γ S σ H → ∀ Q' : VK, QR X.K F S H Q Q' → tSelf X e σ H Q'

def tSelfT (X : Cx) (e : Expr) : TT := fun σ H Q => ∀ pins s, Inv X pins σ H s → wpAny (model X.prog X.w) X.A (isTrue e X.env (eval e X.env)) (TP X pins σ Q) X.xe s
theorem pt_self {X e} : PT X e (tSelfT X e) := ⟨fun pins s σ H Q I h => h pins s I⟩
theorem selfT_of {X e t} (h : PT X e t) {σ H Q} (q : t σ H Q) : tSelfT X e σ H Q := fun pins s I => h.run pins s σ H Q I q
def QT (K : PySem.W.Frag) (F : List Addr) (S : Store) (H : Hp) (Q : Bool → Store → Prop) (Q' : Bool → Hp → Prop) : Prop := ∀ b H' S', Stp F S H S' H' → HC K F S' H' → Q b S' → Q' b H'
def ZT (X : Cx) (Ex : AX) (e : Expr) (Γ : Gam) (S : Store) (Q : Bool → Store → Prop) : Prop := ∀ F σ H, Con X Ex F Γ S σ H → ∀ Q', QT X.K F S H Q Q' → tSelfT X e σ H Q'
/-- a chain of and | or: its whole whatever -/
def tSelfW (X : Cx) (e : Expr) : TT := fun σ H Q => ∀ (wh : Sem Value) pins s, Inv X pins σ H s → wpAny (model X.prog X.w) X.A (isTrue e X.env wh) (TP X pins σ Q) X.xe s
theorem pw_self {X e} : PW X e (tSelfW X e) := ⟨fun wh pins s σ H Q I h => h wh pins s I⟩
theorem selfW_of {X e t} (h : PW X e t) {σ H Q} (q : t σ H Q) : tSelfW X e σ H Q := fun wh pins s I => h.run wh pins s σ H Q I q
def ZW (X : Cx) (Ex : AX) (e : Expr) (Γ : Gam) (S : Store) (Q : Bool → Store → Prop) : Prop := ∀ F σ H, Con X Ex F Γ S σ H → ∀ Q', QT X.K F S H Q Q' → tSelfW X e σ H Q'

def tSelfA (X : Cx) (es : List Expr) : TA := fun σ H Q => ∀ pos pins s, Inv X pins σ H s → wpAny (model X.prog X.w) X.A (spliced (backTo pos (starEach es X.env))) (AP X pins σ Q) X.xe s
theorem pa_self {X es} : PA X es (tSelfA X es) := ⟨fun pos pins s σ H Q I h => h pos pins s I⟩
theorem selfA_of {X es t} (h : PA X es t) {σ H Q} (q : t σ H Q) : tSelfA X es σ H Q := fun pos pins s I => h.run pos pins s σ H Q I q
abbrev LQ := List D → Store → Prop
def QL (K : PySem.W.Frag) (F : List Addr) (S : Store) (H : Hp) (Q : LQ) (Q' : List V → Hp → Prop) : Prop := ∀ vs H' ds S', Stp F S H S' H' → HC K F S' H' → RepL K (vw F S' H') ds vs → Q ds S' → Q' vs H'
def ZA (X : Cx) (Ex : AX) (es : List Expr) (Γ : Gam) (S : Store) (Q : LQ) : Prop := ∀ F σ H, Con X Ex F Γ S σ H → ∀ Q', QL X.K F S H Q Q' → tSelfA X es σ H Q'

structure AEnds where
  nx : GQ
  rt : DQ
  bk : GQ := fun _ _ => False
  ct : GQ := fun _ _ => False
def GR (K : PySem.W.Frag) (F : List Addr) (S : Store) (H : Hp) (q : GQ) (q' : L2.St → Hp → Prop) : Prop := ∀ σ' H' Γ' S', Stp F S H S' H' → HC K F S' H' → RG K (vw F S' H') Γ' σ' → q Γ' S' → q' σ' H'
theorem GR.step {K F S H q q' S1 H1} (h : GR K F S H q q') (t : Stp F S H S1 H1) : GR K F S1 H1 q q' := fun σ' H' Γ' S' u => h σ' H' Γ' S' (t.trans u)
structure ER (K : PySem.W.Frag) (F : List Addr) (S : Store) (H : Hp) (D : AEnds) (D' : Ends) : Prop where
  nx : GR K F S H D.nx D'.nx
  rt : QR K F S H D.rt D'.rt
  bk : GR K F S H D.bk D'.bk
  ct : GR K F S H D.ct D'.ct
theorem ER.step {K F S H D D' S1 H1} (h : ER K F S H D D') (t : Stp F S H S1 H1) : ER K F S1 H1 D D' := ⟨h.nx.step t, h.rt.step t, h.bk.step t, h.ct.step t⟩
def tSelfS (X : Cx) (ss : List Stmt) : TS := fun D σ H => ∀ pins s, Inv X pins σ H s → wpAny (model X.prog X.w) X.A (execs ss X.env) (SP X pins D) X.xe s
theorem pss_self {X ss} : PSs X ss (tSelfS X ss) := ⟨fun pins s σ H D I h => h pins s I⟩
theorem selfS_of {X ss t} (h : PSs X ss t) {D σ H} (q : t D σ H) : tSelfS X ss D σ H := fun pins s I => h.run pins s σ H D I q
def ZS (X : Cx) (Ex : AX) (ss : List Stmt) (Γ : Gam) (S : Store) (D : AEnds) : Prop := ∀ F σ H, Con X Ex F Γ S σ H → ∀ D', ER X.K F S H D D' → tSelfS X ss D' σ H
/-- one statement, alone -/
def tSelf1 (X : Cx) (st : Stmt) : TS := fun D σ H => ∀ pins s, Inv X pins σ H s → wpAny (model X.prog X.w) X.A (exec st X.env) (SP X pins D) X.xe s
theorem ps_self {X st} : PS X st (tSelf1 X st) := ⟨fun pins s σ H D I h => h pins s I⟩
theorem self1_of {X st t} (h : PS X st t) {D σ H} (q : t D σ H) : tSelf1 X st D σ H := fun pins s I => h.run pins s σ H D I q
def Z1 (X : Cx) (Ex : AX) (st : Stmt) (Γ : Gam) (S : Store) (D : AEnds) : Prop := ∀ F σ H, Con X Ex F Γ S σ H → ∀ D', ER X.K F S H D D' → tSelf1 X st D' σ H
def tSelfG (X : Cx) (tg : Expr) : TG := fun v σ H Q => ∀ pins s u, Inv X pins σ H s → RelV v u → wpAny (model X.prog X.w) X.A (assign tg X.env u) (fun _ s' => ∃ σ' H', Inv X pins σ' H' s' ∧ Q σ' H') X.xe s
theorem pg_self {X tg} : PG X tg (tSelfG X tg) := ⟨fun pins s σ H v u Q I r h => h pins s u I r⟩
theorem selfG_of {X tg t} (h : PG X tg t) {v σ H Q} (q : t v σ H Q) : tSelfG X tg v σ H Q := fun pins s u I r => h.run pins s σ H v u Q I r q
def ZG (X : Cx) (Ex : AX) (tg : Expr) (d : D) (Γ : Gam) (S : Store) (q : GQ) : Prop := ∀ F σ H v, Con X Ex F Γ S σ H → Rep X.K (vw F S H) d v → ∀ q', GR X.K F S H q q' → tSelfG X tg v σ H q'

section
variable {X : Cx} {Ex : AX} {Γ : Gam} {S : Store} {Q : DQ} {a b c e : Expr} {es : List Expr} {pos : Pos} {d x y : D}

/-! ### pure values -/
def ZV (X : Cx) (e : Expr) (Γ : Gam) (S : Store) (d : D) : Prop := ∀ (Ex : AX) (Q : DQ), Q d S → ZE X Ex e Γ S Q
theorem ZV.ze (h : ZV X e Γ S d) (q : Q d S) : ZE X Ex e Γ S Q := h Ex Q q
def ZB (X : Cx) (e : Expr) (Γ : Gam) (S : Store) (t : Bool) : Prop := ∀ (Ex : AX) (Q : Bool → Store → Prop), Q t S → ZT X Ex e Γ S Q
theorem ZB.zt {t : Bool} {Q : Bool → Store → Prop} (h : ZB X e Γ S t) (q : Q t S) : ZT X Ex e Γ S Q := h Ex Q q
def ZL (X : Cx) (es : List Expr) (Γ : Gam) (S : Store) (ds : List D) : Prop := ∀ (Ex : AX) (Q : LQ), Q ds S → ZA X Ex es Γ S Q
theorem ZL.za {ds : List D} {Q : LQ} (h : ZL X es Γ S ds) (q : Q ds S) : ZA X Ex es Γ S Q := h Ex Q q
theorem ZE.mono {Q1 : DQ} (h : ZE X Ex e Γ S Q) (m : ∀ d S', Q d S' → Q1 d S') : ZE X Ex e Γ S Q1 := fun F σ H c Q' q => h F σ H c Q' fun v H' d S' t hc r z => q v H' d S' t hc r (m d S' z)
/-- from a reading that says nothing but of the frame, the heap -/
theorem ze_of {t : TE} (h : PE X e t) (k : ∀ F σ H, Con X Ex F Γ S σ H → ∀ Q', QR X.K F S H Q Q' → t σ H Q') : ZE X Ex e Γ S Q := fun F σ H c Q' q => self_of h (k F σ H c Q' q)
theorem zt_of {t : TT} {Q : Bool → Store → Prop} (h : PT X e t) (k : ∀ F σ H, Con X Ex F Γ S σ H → ∀ Q', QT X.K F S H Q Q' → t σ H Q') : ZT X Ex e Γ S Q := fun F σ H c Q' q => selfT_of h (k F σ H c Q' q)

/-! ### names, constants -/
theorem zv_var {i : Nat} {x : Str} (h : Γ[i]? = some (some d)) (hN : X.N[i]? = some x := by rfl) (hv : Vis X.env.scope x := by first | exact Or.inl rfl | exact Or.inr (Or.inl rfl) | exact Or.inr (Or.inr rfl))
    (hd : (x == ("__debug__" : Str)) = false := by decide) (hcd : (x == ("__classdict__" : Str)) = false := by decide) : ZV X (.Name x pos) Γ S d := fun Ex Q q =>
  ze_of (pe_var hN hv hd hcd) fun F σ H c Q' k => by
    obtain ⟨v, h1, h2⟩ := c.rg.2 i d h
    exact ⟨v, h1, k v H d S .refl c.hc h2 q⟩
theorem zv_int {i : Int} {j} : ZV X (.Constant (.int i) j pos) Γ S (.int i) := fun Ex Q q => ze_of pe_int fun F σ H c Q' k => k _ _ _ _ .refl c.hc .int q
theorem zv_bl {i : Bool} {j} : ZV X (.Constant (.bool i) j pos) Γ S (.bl i) := fun Ex Q q => ze_of pe_bl fun F σ H c Q' k => k _ _ _ _ .refl c.hc .bl q
theorem zv_non {j} : ZV X (.Constant .none j pos) Γ S .non := fun Ex Q q => ze_of pe_non fun F σ H c Q' k => k _ _ _ _ .refl c.hc .non q
theorem str_tl (x : Str) : (⟨x.cps.toList.toArray⟩ : Str) = x := by cases x; simp
theorem rep_str {K G} (x : Str) (h : x.length ≤ 16777000) : Rep K G (.str x.cps.toList) (.str x) := by
  have h : Rep K G (.str x.cps.toList) (.str ⟨x.cps.toList.toArray⟩) := .str (show x.cps.toList.length ≤ 16777000 by rw [Array.length_toList]; exact h)
  rw [str_tl] at h; exact h
theorem small {n : Nat} (h : n ≤ 16777216) : n ≤ sizeLine := by rw [sizeLine_eq]; exact h
def codes (s : String) : List Nat := (PySem.Str.ofString s).cps.toList
theorem zv_str {s : String} {j} (h : (PySem.Str.ofString s).length ≤ 10000 := by decide +kernel) : ZV X (.Constant (.str (PySem.Str.ofString s)) j pos) Γ S (.str (codes s)) := fun Ex Q q => ze_of pe_str fun F σ H c Q' k => k _ _ _ _ .refl c.hc (rep_str _ (by omega)) q
/-- a constant of the module -/
theorem zv_gint {x : Str} {i : Int} (hg : Gl X x) (hm : ∃ t, X.mg x = some (.int i t)) (hd : (x == ("__debug__" : Str)) = false := by decide) : ZV X (.Name x pos) Γ S (.int i) := fun Ex Q q => by
  obtain ⟨t, hm⟩ := hm
  exact ze_of (pe_glob (v := .int i) hg hm ⟨t, rfl⟩ hd) fun F σ H c Q' k => k _ _ _ _ .refl c.hc .int q
theorem zv_gstr {x : Str} {z : Str} (hg : Gl X x) (hm : ∃ t, X.mg x = some (.str z t)) (hz : z.length ≤ 10000) (hd : (x == ("__debug__" : Str)) = false := by decide) : ZV X (.Name x pos) Γ S (.str z.cps.toList) := fun Ex Q q => by
  obtain ⟨t, hm⟩ := hm
  exact ze_of (pe_glob (v := .str z) hg hm ⟨t, rfl⟩ hd) fun F σ H c Q' k => k _ _ _ _ .refl c.hc (rep_str z (by omega)) q

/-! ### two-place operators -/
abbrev AR2 := D → D → Store → DQ → Prop
/-- r does on values what R says of data -/
def AOp (X : Cx) (r : R2) (R : AR2) : Prop := ∀ F S H x y v u Q Q', XOk X → HC X.K F S H → Rep X.K (vw F S H) x v → Rep X.K (vw F S H) y u → R x y S Q → QR X.K F S H Q Q' → r v u H Q'
theorem opTwo {r : R2} {R : AR2} (hr : AOp X r R) (h : ZE X Ex a Γ S fun x S1 => ZE X Ex b Γ S1 fun y S2 => R x y S2 Q) {F σ H} (c : Con X Ex F Γ S σ H) {Q' : VK} (k : QR X.K F S H Q Q') :
    tOp r (tSelf X a) (tSelf X b) σ H Q' :=
  h F σ H c _ fun v H1 x S1 t1 c1 r1 h1 => h1 F σ H1 (c.step t1 c1) _ fun u H2 y S2 t2 c2 r2 h2 =>
    hr F S2 H2 x y v u Q Q' c.ok c2 (r1.mono t2.ext) r2 h2 (k.step (t1.trans t2))
theorem ze_op {op : Operator} {r : R2} {R : AR2} (ho : OpR X (binaryOp op) r) (hr : AOp X r R) (h : ZE X Ex a Γ S fun x S1 => ZE X Ex b Γ S1 fun y S2 => R x y S2 Q) : ZE X Ex (.BinOp a op b pos) Γ S Q :=
  ze_of (pe_op ho pe_self pe_self) fun F σ H c Q' k => opTwo hr h c k
theorem ze_cmp {op : CmpOp} {r : R2} {R : AR2} (ho : OpR X (compareOp op) r) (hr : AOp X r R) (hm : behindInMarks op b = false) (h : ZE X Ex a Γ S fun x S1 => ZE X Ex b Γ S1 fun y S2 => R x y S2 Q) : ZE X Ex (.Compare a [op] [b] pos) Γ S Q :=
  ze_of (pe_cmpR ho pe_self pe_self hm) fun F σ H c Q' k => opTwo hr h c k
/-- .. as a test -/
theorem zt_cmp {op : CmpOp} {r : R2} {R : AR2} {Q : Bool → Store → Prop} (ho : OpR X (compareOp op) r) (hr : AOp X r R) (hm : behindInMarks op b = false)
    (h : ZE X Ex a Γ S fun x S1 => ZE X Ex b Γ S1 fun y S2 => R x y S2 fun z S3 => ∃ t, z = .bl t ∧ Q t S3) : ZT X Ex (.Compare a [op] [b] pos) Γ S Q :=
  zt_of (pt_cmpR ho pe_self pe_self hm) fun F σ H c Q' k => opTwo (Q := fun z S3 => ∃ t, z = .bl t ∧ Q t S3) hr h c fun v H' z S' t hc r ⟨u, e, q⟩ => by
    subst e; cases r; exact ⟨u, rfl, k u H' S' t hc q⟩
/-- a value that is a truth, as a test -/
theorem zt_val {Q : Bool → Store → Prop} (h : ZE X Ex e Γ S fun z S' => ∃ t, z = .bl t ∧ Q t S') (he : ∀ whole, isTrue e X.env whole = (do let v ← whole; standAt e.pos; holding [v] (truthy v)) := by intro _; rfl) : ZT X Ex e Γ S Q :=
  zt_of (pt_val pe_self he) fun F σ H c Q' k => h F σ H c _ fun v H' z S' t hc r ⟨u, e, q⟩ => by
    subst e; cases r; exact ⟨u, rfl, k u H' S' t hc q⟩
theorem zt_not {Q : Bool → Store → Prop} (h : ZT X Ex a Γ S fun t S' => Q (!t) S') : ZT X Ex (.UnaryOp .Not a pos) Γ S Q :=
  zt_of (pt_not pt_self) fun F σ H c Q' k => h F σ H c _ fun t H' S' u hc q => k _ H' S' u hc q
theorem zw_and1 {Q : Bool → Store → Prop} (h : ZT X Ex a Γ S Q) : ZW X Ex (.BoolOp .And [a] pos) Γ S Q := fun F σ H c Q' k => selfW_of (pw_and1 pt_self) (h F σ H c Q' k)
theorem zw_or1 {Q : Bool → Store → Prop} (h : ZT X Ex a Γ S Q) : ZW X Ex (.BoolOp .Or [a] pos) Γ S Q := fun F σ H c Q' k => selfW_of (pw_or1 pt_self) (h F σ H c Q' k)
theorem zw_and {Q : Bool → Store → Prop} (h : ZT X Ex a Γ S fun t S1 => if t = true then ZW X Ex (.BoolOp .And (b :: es) pos) Γ S1 Q else Q false S1) : ZW X Ex (.BoolOp .And (a :: b :: es) pos) Γ S Q := fun F σ H c Q' k =>
  selfW_of (pw_and pt_self pw_self) (h F σ H c _ fun t H1 S1 u hc q => by
    cases t with
    | true => exact q F σ H1 (c.step u hc) Q' fun b H' S' u' => k b H' S' (u.trans u')
    | false => exact k false H1 S1 u hc q)
theorem zw_or {Q : Bool → Store → Prop} (h : ZT X Ex a Γ S fun t S1 => if t = true then Q true S1 else ZW X Ex (.BoolOp .Or (b :: es) pos) Γ S1 Q) : ZW X Ex (.BoolOp .Or (a :: b :: es) pos) Γ S Q := fun F σ H c Q' k =>
  selfW_of (pw_or pt_self pw_self) (h F σ H c _ fun t H1 S1 u hc q => by
    cases t with
    | false => exact q F σ H1 (c.step u hc) Q' fun b H' S' u' => k b H' S' (u.trans u')
    | true => exact k true H1 S1 u hc q)
theorem ZW.zt {Q : Bool → Store → Prop} (h : ZW X Ex e Γ S Q) : ZT X Ex e Γ S Q := fun F σ H c Q' k => selfT_of pw_self.pt (h F σ H c Q' k)
/-- .. as values -/
theorem ze_one {op} (h : ZE X Ex a Γ S Q) : ZE X Ex (.BoolOp op [a] pos) Γ S Q := ze_of (pe_one pe_self) h
theorem ze_and (h : ZE X Ex a Γ S fun z S1 => ∃ t, z = .bl t ∧ if t = true then ZE X Ex (.BoolOp .And (b :: es) pos) Γ S1 Q else Q (.bl false) S1) : ZE X Ex (.BoolOp .And (a :: b :: es) pos) Γ S Q :=
  ze_of (pe_and pe_self pe_self) fun F σ H c Q' k => h F σ H c _ fun v H1 z S1 u hc r ⟨t, e, q⟩ => by
    subst e; cases r
    refine ⟨t, rfl, ?_⟩
    cases t with
    | true => exact q F σ H1 (c.step u hc) Q' (k.step u)
    | false => exact k _ H1 _ S1 u hc .bl q
theorem ze_or (h : ZE X Ex a Γ S fun z S1 => ∃ t, z = .bl t ∧ if t = true then Q (.bl true) S1 else ZE X Ex (.BoolOp .Or (b :: es) pos) Γ S1 Q) : ZE X Ex (.BoolOp .Or (a :: b :: es) pos) Γ S Q :=
  ze_of (pe_or pe_self pe_self) fun F σ H c Q' k => h F σ H c _ fun v H1 z S1 u hc r ⟨t, e, q⟩ => by
    subst e; cases r
    refine ⟨t, rfl, ?_⟩
    cases t with
    | false => exact q F σ H1 (c.step u hc) Q' (k.step u)
    | true => exact k _ H1 _ S1 u hc .bl q
theorem ze_not (h : ZE X Ex a Γ S fun z S1 => ∃ t, z = .bl t ∧ Q (.bl (!t)) S1) : ZE X Ex (.UnaryOp .Not a pos) Γ S Q :=
  ze_of (pe_not pe_self) fun F σ H c Q' k => h F σ H c _ fun v H1 z S1 u hc r ⟨t, e, q⟩ => by
    subst e; cases r
    exact ⟨t, rfl, k _ H1 _ S1 u hc .bl q⟩
theorem ze_if (h : ZT X Ex c Γ S fun t S1 => if t = true then ZE X Ex a Γ S1 Q else ZE X Ex b Γ S1 Q) : ZE X Ex (.IfExp c a b pos) Γ S Q :=
  ze_of (pe_ifExp pt_self pe_self pe_self) fun F σ H co Q' k => h F σ H co _ fun t H1 S1 u hc q => by
    cases t with
    | true => exact q F σ H1 (co.step u hc) Q' (k.step u)
    | false => exact q F σ H1 (co.step u hc) Q' (k.step u)

/-! ### arguments -/
theorem za_nil {Q : LQ} (q : Q [] S) : ZA X Ex [] Γ S Q := fun F σ H c Q' k => selfA_of pa_nil (k _ _ _ _ .refl c.hc .nil q)
theorem za_cons {Q : LQ} (h : ZE X Ex e Γ S fun x S1 => ZA X Ex es Γ S1 fun xs S2 => Q (x :: xs) S2) (hs : starEach (e :: es) X.env = (false, eval e X.env) :: starEach es X.env := by rfl) : ZA X Ex (e :: es) Γ S Q := fun F σ H c Q' k =>
  selfA_of (pa_cons pe_self pa_self hs) (h F σ H c _ fun v H1 x S1 t1 c1 r1 h1 => h1 F σ H1 (c.step t1 c1) _ fun vs H2 xs S2 t2 c2 r2 h2 =>
    k _ _ _ _ (t1.trans t2) c2 (.cons (r1.mono t2.ext) r2) h2)
theorem zl_nil : ZL X [] Γ S [] := fun Ex Q q => za_nil q
theorem zl_cons {d : D} {ds : List D} (h : ZV X e Γ S d) (hs : ZL X es Γ S ds) (hst : starEach (e :: es) X.env = (false, eval e X.env) :: starEach es X.env := by rfl) : ZL X (e :: es) Γ S (d :: ds) := fun Ex Q q =>
  za_cons (h.ze (hs.za q)) hst
theorem ze_tup {x1} (h : ZA X Ex es Γ S fun ds S1 => ds.length ≤ sizeLine ∧ Q (.tup ds) S1) : ZE X Ex (.Tuple es x1 pos) Γ S Q :=
  ze_of (pe_tup pa_self) fun F σ H c Q' k => h F σ H c _ fun vs H1 ds S1 t c1 r ⟨z, q⟩ => ⟨by rw [← r.length]; exact z, fun p hp => by
    obtain ⟨n1, n2, n3⟩ := c1.new (o := .tup vs) hp
    exact k _ _ _ _ (t.trans n2) n1 (.tup (SqT.of n3) (r.mono n2.ext)) q⟩
theorem ze_lst (h : ZA X Ex es Γ S fun ds S1 => ds.length ≤ sizeLine ∧ Q (.lst ds) S1) : ZE X Ex (.List es pos) Γ S Q :=
  ze_of (pe_lst pa_self) fun F σ H c Q' k => h F σ H c _ fun vs H1 ds S1 t c1 r ⟨z, q⟩ => ⟨by rw [← r.length]; exact z, fun p hp => by
    obtain ⟨n1, n2, n3⟩ := c1.new (o := .lst vs) hp
    exact k _ _ _ _ (t.trans n2) n1 (.lst n3 (r.mono n2.ext)) q⟩
/-- a list that will change -/
theorem ze_cell (h : ZA X Ex es Γ S fun ds S1 => ds.length ≤ sizeLine ∧ ∀ p, Q (.ref p) (S1 ++ [(p, .lst ds)])) : ZE X Ex (.List es pos) Γ S Q :=
  ze_of (pe_lst pa_self) fun F σ H c Q' k => h F σ H c _ fun vs H1 ds S1 t c1 r ⟨z, q⟩ => ⟨by rw [← r.length]; exact z, fun p hp => by
    obtain ⟨n1, n2⟩ := c1.cell (c := .lst ds) (o := .lst vs) hp ⟨vs, rfl, r⟩
    exact k _ _ _ _ (t.trans n2) n1 .ref (q p)⟩
theorem zv_tup {ds : List D} {x1} (h : ZL X es Γ S ds) (hz : ds.length ≤ sizeLine := by first | exact small (by decide) | exact small (by simp)) : ZV X (.Tuple es x1 pos) Γ S (.tup ds) := fun Ex Q q => ze_tup (h.za ⟨hz, q⟩)
theorem zv_lst {ds : List D} (h : ZL X es Γ S ds) (hz : ds.length ≤ sizeLine := by first | exact small (by decide) | exact small (by simp)) : ZV X (.List es pos) Γ S (.lst ds) := fun Ex Q q => ze_lst (h.za ⟨hz, q⟩)
end
end Fz
end

section
namespace Fz
open PySem PySem.Spec PyProof.Rows L2

/-! ### what is walked -/
def WalkA (K : PySem.W.Frag) (G1 : Hp) (J : It) (items : List D) : Prop := ∀ F' S' H', Sub G1 (vw F' S' H') → HC K F' S' H' → ∀ i,
  (∀ d, items[i]? = some d → J.go i H' ∧ ∀ x H2, J.yld i H' x H2 → Stp F' S' H' S' H2 ∧ HC K F' S' H2 ∧ Rep K (vw F' S' H2) d x) ∧ (items.length ≤ i → J.stop i H')
theorem WalkA.mono {K G1 G2 J items} (w : WalkA K G1 J items) (e : Sub G1 G2) : WalkA K G2 J items := fun F' S' H' s => w F' S' H' fun a o h => s a o (e a o h)
theorem HC.trk {K F S H} (h : HC K F S H) {a o} (e : vw F S H a = some o) : H a = some o := hd_sub a o e
theorem sl_H {K F S H} {a : Addr} {xs : List V} (h : SqL K (vw F S H) a xs) : SqL K H a xs := Sub.sl hd_sub h
theorem st_H {K F S H} {a : Addr} {xs : List V} (h : SqT K (vw F S H) a xs) : SqT K H a xs := Sub.st hd_sub h
theorem walk_list {K G a xs items} (h : SqL K G a xs) (r : RepL K G items xs) : WalkA K G (Itl K a) items := fun F' S' H' s hc i => by
  have h' : SqL K H' a xs := sl_H (s.sl h)
  refine ⟨fun d e => ?_, fun l => ⟨xs, h', by rw [← r.length]; exact l⟩⟩
  obtain ⟨v, ev, rv⟩ := r.get e
  refine ⟨⟨xs, v, h', ev⟩, fun x H2 ⟨e2, y⟩ => ?_⟩
  subst e2
  refine ⟨.refl, hc, ?_⟩
  have := y xs h'
  rw [ev] at this; cases this
  exact rv.mono s
theorem walk_tup {K G a xs items} (h : SqT K G a xs) (r : RepL K G items xs) : WalkA K G (Itt K a) items := fun F' S' H' s hc i => by
  have h' : SqT K H' a xs := st_H (s.st h)
  refine ⟨fun d e => ?_, fun l => ⟨xs, h', by rw [← r.length]; exact l⟩⟩
  obtain ⟨v, ev, rv⟩ := r.get e
  refine ⟨⟨xs, v, h', ev⟩, fun x H2 ⟨e2, y⟩ => ?_⟩
  subst e2
  refine ⟨.refl, hc, ?_⟩
  have := y xs h'
  rw [ev] at this; cases this
  exact rv.mono s
theorem walk_str {K G} {x : List Nat} : WalkA K G (Its ⟨x.toArray⟩) (x.map fun c => .str [c]) := fun F' S' H' s hc i => by
  refine ⟨fun d e => ?_, fun l => by simpa [Its] using l⟩
  rw [List.getElem?_map] at e
  cases q : x[i]? with
  | none => rw [q] at e; cases e
  | some c =>
    rw [q] at e; cases e
    refine ⟨by simpa [Its] using (List.getElem?_eq_some_iff.mp q).1, fun y H2 ⟨e2, c', h1, h2⟩ => ?_⟩
    subst e2 h2
    refine ⟨.refl, hc, ?_⟩
    have : c' = c := by simpa [q] using h1.symm
    subst this
    exact .str (x := [c']) (show 1 ≤ 16777000 by decide)
abbrev rangeD (lo : Int) (n : Nat) : List D := (List.range n).map fun (i : Nat) => D.int (lo + (i : Int))
abbrev range0 (n : Nat) : List D := (List.range n).map fun (i : Nat) => D.int (i : Int)
theorem range0_eq (n : Nat) : rangeD 0 n = range0 n := by unfold rangeD range0; congr 1; funext i; rw [Int.zero_add]
theorem rangeD_get {lo n i} {d : D} : (rangeD lo n)[i]? = some d → i < n ∧ d = .int (lo + i) := fun h => by
  rw [List.getElem?_map] at h
  by_cases q : i < n
  · rw [List.getElem?_range q] at h; cases h; exact ⟨q, rfl⟩
  · rw [List.getElem?_eq_none (by simpa using q)] at h; cases h
theorem rangeD_len {lo n} : (rangeD lo n).length = n := by simp [rangeD]
theorem walk_range {K G lo n} : WalkA K G (Itr lo n) (rangeD lo n) := fun F' S' H' s hc i => by
  refine ⟨fun d e => ?_, fun l => by rw [rangeD_len] at l; exact l⟩
  obtain ⟨h1, rfl⟩ := rangeD_get e
  refine ⟨h1, fun x H2 ⟨e1, e2⟩ => ?_⟩
  subst e1 e2
  exact ⟨.refl, hc, .int⟩
def tSelfI (X : Cx) (tg iter : Expr) : TI := fun σ H R => ∀ pins s, Inv X pins σ H s → wpAny (model X.prog X.w) X.A (eval iter X.env) (fun v s1 => wpAny (model X.prog X.w) X.A (pyIter v) (PIE X pins σ tg R) X.xe s1) X.xe s
theorem pi_self {X tg iter} : PI X tg iter (tSelfI X tg iter) := ⟨fun pins s σ H R I h => h pins s I⟩
theorem selfI_of {X tg iter t} (h : PI X tg iter t) {σ H R} (q : t σ H R) : tSelfI X tg iter σ H R := fun pins s I => h.run pins s σ H R I q
def QI (K : PySem.W.Frag) (F : List Addr) (S : Store) (H : Hp) (R : LQ) (R' : It → Hp → Prop) : Prop := ∀ J H1 S1 items, Stp F S H S1 H1 → HC K F S1 H1 → WalkA K (vw F S1 H1) J items → R items S1 → R' J H1
def ZI (X : Cx) (Ex : AX) (tg iter : Expr) (Γ : Gam) (S : Store) (R : LQ) : Prop := ∀ F σ H, Con X Ex F Γ S σ H → ∀ R', QI X.K F S H R R' → tSelfI X tg iter σ H R'
def ZIV (X : Cx) (tg iter : Expr) (Γ : Gam) (S : Store) (ds : List D) : Prop := ∀ (Ex : AX) (R : LQ), R ds S → ZI X Ex tg iter Γ S R
def itemsOf : D → Option (List D)
  | .lst ds => some ds
  | .scr ns => some (ns.map D.int)
  | .tup ds => some ds
  | .str x => some (x.map fun c => .str [c])
  | _ => none

section
variable {X : Cx} {Ex : AX} {Γ : Gam} {S : Store} {Q : DQ} {a b e iter tg : Expr} {es : List Expr} {pos : Pos} {d x y : D} {st : Stmt} {rest body : List Stmt} {D : AEnds}
theorem zi_seq {R : LQ} (h : ZE X Ex iter Γ S fun d S1 => ∃ ds, itemsOf d = some ds ∧ R ds S1) : ZI X Ex tg iter Γ S R := fun F σ H c R' k => by
  have hl := fun pins s I => h F σ H c (fun x H1 => (∃ a, x = .ref a ∧ (∃ xs, SqL X.K H1 a xs) ∧ R' (Itl X.K a) H1) ∨ (∃ a, x = .ref a ∧ (∃ xs, SqT X.K H1 a xs) ∧ R' (Itt X.K a) H1) ∨ ∃ z, x = .str z ∧ R' (Its z) H1)
    (fun v H1 d S1 t hc r ⟨ds, e, q⟩ => by
      cases r with
      | tup h r => cases e; exact .inr (.inl ⟨_, rfl, ⟨_, st_H h⟩, k _ _ _ _ t hc (walk_tup h r) q⟩)
      | lst h r => cases e; exact .inl ⟨_, rfl, ⟨_, SqL.of (hd_sub _ _ h)⟩, k _ _ _ _ t hc (walk_list (SqL.of h) r) q⟩
      | scr h => cases e; exact .inl ⟨_, rfl, ⟨_, sl_H h⟩, k _ _ _ _ t hc (walk_list h (RepL.ints _)) q⟩
      | str _ => cases e; exact .inr (.inr ⟨_, rfl, k _ _ _ _ t hc walk_str q⟩)
      | _ => cases e) pins s I
  intro pins s I
  refine thn (hl pins s I) fun v s1 ⟨x, H1, I1, r1, q1⟩ => ?_
  rcases q1 with ⟨a, ex, ⟨xs, hq⟩, q⟩ | ⟨a, ex, ⟨xs, hq⟩, q⟩ | ⟨z, ex, q⟩
  · subst ex
    cases r1
    obtain ⟨its, rv, p, hz⟩ := I1.list hq
    exact wpAny_pyIter_list p.isList (pi_one (tk := s1.toks) I1 _ (turn_list a _) ⟨_, Heap.get?_push_size _ rfl, rfl, rfl⟩ q)
  · subst ex
    cases r1
    obtain ⟨its, rv, p, hz⟩ := I1.tuple hq
    exact wpAny_pyIter_tuple (show s1.heap.IsTuple a its.toArray from p) (pi_one (tk := s1.toks) I1 _ (turn_tuple a _) ⟨_, Heap.get?_push_size _ rfl, rfl, rfl⟩ q)
  · subst ex
    obtain ⟨t, rfl⟩ := r1
    by_cases ha : z.cps.all (· < 128) = true
    · have st := turn_str (P := X.prog) (w := X.w) (K := X.K) (tg := tg) s1.heap.objs.size z t "str_ascii_iterator" (.inl rfl)
      exact wpAny_pyIter_ascii ha (pi_one (tk := s1.toks) I1 _ st ⟨_, Heap.get?_push_size _ rfl, rfl, rfl⟩ q)
    · have st := turn_str (P := X.prog) (w := X.w) (K := X.K) (tg := tg) s1.heap.objs.size z t "str_iterator" (.inr rfl)
      exact wpAny_pyIter_wide (by simpa using ha) (pi_one (tk := s1.toks) I1 _ st ⟨_, Heap.get?_push_size _ rfl, rfl, rfl⟩ q)
theorem ziv_seq {ds : List Fz.D} (h : ZV X iter Γ S d) (e : itemsOf d = some ds := by rfl) : ZIV X tg iter Γ S ds := fun Ex R q => zi_seq (h.ze ⟨ds, e, q⟩)
theorem zi_range1 {p : Pos} {R : LQ} (hg : Gl X "range") (hm : X.mg "range" = none) (h : ZE X Ex a Γ S fun d S1 => ∃ j : Int, d = .int j ∧ -(2 ^ 62) ≤ j ∧ j < 2 ^ 62 ∧ R (range0 j.toNat) S1) (hs : starEach [a] X.env = [(false, eval a X.env)] := by rfl) :
    ZI X Ex tg (.Call (.Name "range" p) [a] [] pos) Γ S R := fun F σ H c R' k => selfI_of (pi_range1 hg hm pa_self hs) (za_cons (Q := fun ds S1 => ∃ j : Int, ds = [.int j] ∧ -(2 ^ 62) ≤ j ∧ j < 2 ^ 62 ∧ R (range0 j.toNat) S1) (h.mono fun d S1 ⟨j, e, q⟩ => za_nil ⟨j, by rw [e], q⟩) (by rw [hs]; rfl) F σ H c _
      fun vs H1 ds S1 t hc r ⟨j, e, h1, h2, q⟩ => by
        subst e
        cases r with | cons r rr => cases r; cases rr; exact ⟨j, rfl, h1, h2, k _ _ _ _ t hc (by rw [← range0_eq]; exact walk_range) q⟩)
theorem zi_range2 {p : Pos} {R : LQ} (hg : Gl X "range") (hm : X.mg "range" = none) (h : ZE X Ex a Γ S fun d S1 => ZE X Ex b Γ S1 fun u S2 => ∃ i j : Int, d = .int i ∧ u = .int j ∧ (-(2 ^ 62) ≤ i ∧ i < 2 ^ 62 ∧ -(2 ^ 62) ≤ j ∧ j < 2 ^ 62) ∧ R (rangeD i (j - i).toNat) S2)
    (hs : starEach [a, b] X.env = [(false, eval a X.env), (false, eval b X.env)] := by rfl) (hs2 : starEach [b] X.env = [(false, eval b X.env)] := by rfl) :
    ZI X Ex tg (.Call (.Name "range" p) [a, b] [] pos) Γ S R := fun F σ H c R' k => selfI_of (pi_range2 hg hm pa_self hs hs2) (za_cons (Q := fun ds S1 => ∃ i j : Int, ds = [.int i, .int j] ∧ (-(2 ^ 62) ≤ i ∧ i < 2 ^ 62 ∧ -(2 ^ 62) ≤ j ∧ j < 2 ^ 62) ∧ R (rangeD i (j - i).toNat) S1)
      (h.mono fun d S1 q => za_cons (q.mono fun u S2 ⟨i, j, e1, e2, q⟩ => za_nil ⟨i, j, by rw [e1, e2], q⟩) (by rw [hs2]; rfl)) (by rw [hs, hs2]) F σ H c _
      fun vs H1 ds S1 t hc r ⟨i, j, e, h1, q⟩ => by
        subst e
        cases r with | cons r rr => cases r; cases rr with | cons r rr => cases r; cases rr; exact ⟨i, j, rfl, h1, k _ _ _ _ t hc walk_range q⟩)
theorem ziv_range1 {p : Pos} {j : Int} (hm : X.mg "range" = none) (h : ZV X a Γ S (.int j)) (h1 : -(2 ^ 62) ≤ j ∧ j < 2 ^ 62) (hg : Gl X "range" := by rfl) (hs : starEach [a] X.env = [(false, eval a X.env)] := by rfl) : ZIV X tg (.Call (.Name "range" p) [a] [] pos) Γ S (range0 j.toNat) := fun Ex R q =>
  zi_range1 hg hm (h.ze ⟨j, rfl, h1.1, h1.2, q⟩) hs
theorem ziv_range2 {p : Pos} {i j : Int} (hm : X.mg "range" = none) (ha : ZV X a Γ S (.int i)) (hb : ZV X b Γ S (.int j)) (h1 : -(2 ^ 62) ≤ i ∧ i < 2 ^ 62 ∧ -(2 ^ 62) ≤ j ∧ j < 2 ^ 62) (hg : Gl X "range" := by rfl) (hs : starEach [a, b] X.env = [(false, eval a X.env), (false, eval b X.env)] := by rfl) (hs2 : starEach [b] X.env = [(false, eval b X.env)] := by rfl) :
    ZIV X tg (.Call (.Name "range" p) [a, b] [] pos) Γ S (rangeD i (j - i).toNat) := fun Ex R q => zi_range2 hg hm (ha.ze (hb.ze ⟨i, j, rfl, rfl, h1, q⟩)) hs hs2
theorem ZIV.zi {R : LQ} {ds : List Fz.D} (h : ZIV X tg iter Γ S ds) (q : R ds S) : ZI X Ex tg iter Γ S R := h Ex R q

/-! ### statements -/
theorem ZS.weak {Γ' : Gam} (h : ZS X Ex body Γ' S D) (w : weaker Γ Γ') : ZS X Ex body Γ S D := fun F σ H c D' k => h F σ H ⟨c.ok, c.hc, c.rg.weak w, c.xr⟩ D' k
theorem zs_nil (q : D.nx Γ S) : ZS X Ex [] Γ S D := fun F σ H c D' k => selfS_of pss_nil (k.nx σ H Γ S .refl c.hc c.rg q)
theorem zs_cons (h : Z1 X Ex st Γ S { D with nx := fun Γ' S' => ZS X Ex rest Γ' S' D }) : ZS X Ex (st :: rest) Γ S D := fun F σ H c D' k =>
  selfS_of (pss_cons ps_self pss_self) (h F σ H c { D' with nx := tSelfS X rest D' } ⟨fun σ' H' Γ' S' t hc rg q => q F σ' H' ⟨c.ok, hc, rg, c.xr.step t⟩ D' (k.step t), k.rt, k.bk, k.ct⟩)
theorem zs_one (h : Z1 X Ex st Γ S D) : ZS X Ex [st] Γ S D := fun F σ H c D' k => selfS_of (pss_one ps_self) (h F σ H c D' k)
theorem z1_of {t : TS} (h : PS X st t) (k : ∀ F σ H, Con X Ex F Γ S σ H → ∀ D', ER X.K F S H D D' → t D' σ H) : Z1 X Ex st Γ S D := fun F σ H c D' q => self1_of h (k F σ H c D' q)
theorem zg_name {i : Nat} {x : Str} {q : GQ} (h : q (Γ.set i (some d)) S) (hi : X.N[i]? = some x := by rfl) (hx : Loc X.env.scope x := by first | exact .inl rfl | exact .inr rfl) (hf : X.fn x = true ∨ X.env.scope.names.lookup x = some .local := by first | exact .inl rfl | exact .inr rfl) : ZG X Ex (.Name x pos) d Γ S q := fun F σ H v c r q' k =>
  selfG_of (pg_name c.ok.nd hi hx hf) (k _ _ _ _ .refl c.hc (c.rg.set r) h)
theorem z1_set {i : Nat} {x : Str} {pos' : Pos} (h : ZE X Ex e Γ S fun d S' => D.nx (Γ.set i (some d)) S') (hi : X.N[i]? = some x := by rfl) (hx : Loc X.env.scope x := by first | exact .inl rfl | exact .inr rfl)
    (hs : swapsWith e (some (.Name x pos')) pos.line X.env = pure false := by rfl) (hf : X.fn x = true ∨ X.env.scope.names.lookup x = some .local := by first | exact .inl rfl | exact .inr rfl) : Z1 X Ex (.Assign [.Name x pos'] e pos) Γ S D := fun F σ H c D' k =>
  self1_of (ps_set c.ok.nd hi hx pe_self hs hf) (h F σ H c _ fun v H' d S' t hc r q => k.nx _ _ _ _ t hc ((c.rg.mono t.ext).set r) q)
theorem z1_asg (h : ZE X Ex e Γ S fun d S' => ZG X Ex tg d Γ S' D.nx) (hs : swapsWithSole [tg] e pos.line X.env = pure false := by rfl) (hw : swappedStores [tg] e X.env = pure none := by rfl)
    (h1 : (assignEach [tg] X.env).map (·.2) = [assign tg X.env] := by rfl) : Z1 X Ex (.Assign [tg] e pos) Γ S D :=
  z1_of (ps_asg pe_self pg_self hs hw h1) fun F σ H c D' k => h F σ H c _ fun v H' d S' t hc r q => q F σ H' v (c.step t hc) r _ (k.nx.step t)
theorem z1_par {i j : Nat} {x y : Str} {px py pt : Pos} {kt k2 pt2} (h : ZE X Ex a Γ S fun u S1 => ZE X Ex b Γ S1 fun v S2 => D.nx ((Γ.set i (some u)).set j (some v)) S2)
    (hw : swappedStores [.Tuple [.Name x px, .Name y py] kt pt] (.Tuple [a, b] k2 pt2) X.env = pure (some [x, y]) := by rfl) (hi : X.N[i]? = some x := by rfl) (hj : X.N[j]? = some y := by rfl) (hij : i ≠ j := by decide)
    (hx : X.env.scope.names.lookup x = some .local := by rfl) (hy : X.env.scope.names.lookup y = some .local := by rfl)
    (hs : swapsWithSole [.Tuple [.Name x px, .Name y py] kt pt] (.Tuple [a, b] k2 pt2) pos.line X.env = pure false := by rfl)
    (s1 : starEach [a, b] X.env = (false, eval a X.env) :: starEach [b] X.env := by rfl) (s2 : starEach [b] X.env = (false, eval b X.env) :: starEach [] X.env := by rfl) :
    Z1 X Ex (.Assign [.Tuple [.Name x px, .Name y py] kt pt] (.Tuple [a, b] k2 pt2) pos) Γ S D := fun F σ H c D' k =>
  self1_of (ps_par c.ok.calm c.ok.nd hi hj hij hx hy pa_self hw hs) (za_cons (Q := fun ds S2 => ∃ u v, ds = [u, v] ∧ D.nx ((Γ.set i (some u)).set j (some v)) S2) (h.mono fun u S1 q => za_cons (q.mono fun v S2 q => za_nil ⟨u, v, rfl, q⟩) s2) s1 F σ H c _
    fun vs H1 ds S1 t hc r ⟨u, v, e, q⟩ => by
      subst e
      cases r with | cons r rr => cases rr with | cons r2 rr => cases rr; exact ⟨_, _, rfl, k.nx _ _ _ _ t hc (((c.rg.mono t.ext).set r).set r2) q⟩)
theorem z1_expr (h : ZE X Ex e Γ S fun _ S' => D.nx Γ S') (hs : swapsWith e none pos.line X.env = pure false := by rfl) : Z1 X Ex (.Expr e pos) Γ S D :=
  z1_of (ps_expr pe_self hs) fun F σ H c D' k => h F σ H c _ fun v H' d S' t hc r q => k.nx _ _ _ _ t hc (c.rg.mono t.ext) q
theorem z1_ret (h : ZE X Ex e Γ S D.rt) : Z1 X Ex (.Return (some e) pos) Γ S D := z1_of (ps_ret pe_self) fun F σ H c D' k => h F σ H c _ k.rt
theorem z1_retN (h : D.rt .non S) : Z1 X Ex (.Return none pos) Γ S D := z1_of ps_retN fun F σ H c D' k => k.rt _ _ _ _ .refl c.hc .non h
theorem z1_pass (h : D.nx Γ S) : Z1 X Ex (.Pass pos) Γ S D := z1_of ps_pass fun F σ H c D' k => k.nx _ _ _ _ .refl c.hc c.rg h
theorem z1_break (h : D.bk Γ S) : Z1 X Ex (.Break pos) Γ S D := z1_of ps_break fun F σ H c D' k => k.bk _ _ _ _ .refl c.hc c.rg h
theorem z1_continue (h : D.ct Γ S) : Z1 X Ex (.Continue pos) Γ S D := z1_of ps_continue fun F σ H c D' k => k.ct _ _ _ _ .refl c.hc c.rg h
theorem z1_if {c : Expr} {u v : List Stmt} (h : ZT X Ex c Γ S fun t S1 => if t = true then ZS X Ex u Γ S1 D else ZS X Ex v Γ S1 D) : Z1 X Ex (.If c u v pos) Γ S D :=
  z1_of (ps_if pt_self pss_self pss_self) fun F σ H co D' k => h F σ H co _ fun t H1 S1 w hc q => by
    cases t with
    | true => exact q F σ H1 (co.step w hc) D' (k.step w)
    | false => exact q F σ H1 (co.step w hc) D' (k.step w)
theorem z1_for (h : ZI X Ex tg iter Γ S fun items S1 => ∃ I : Nat → GQ, I 0 Γ S1 ∧
      (∀ (i : Nat) d Γ' S', items[i]? = some d → I i Γ' S' → ZG X Ex tg d Γ' S' fun Γ2 S2 => ZS X Ex body Γ2 S2 { D with nx := I (i + 1), ct := I (i + 1), bk := D.nx }) ∧ ∀ Γ' S', I items.length Γ' S' → D.nx Γ' S')
    (hs : ∀ x, foldedSetIterable iter X.env x = pure x := by intro _; rfl) : Z1 X Ex (.For tg iter body [] pos) Γ S D := fun F σ H c D' k =>
  self1_of (ps_for c.ok.po c.ok.calm pi_self pg_self pss_self hs) (h F σ H c _ fun J H1 S1 items t1 hc1 wk ⟨I, i0, turn, done⟩ =>
    ⟨fun i m σ' H' => ∃ Γ' S', m = items.length - i ∧ i ≤ items.length ∧ Stp F S1 H1 S' H' ∧ HC X.K F S' H' ∧ RG X.K (vw F S' H') Γ' σ' ∧ I i Γ' S', ⟨_, Γ, S1, rfl, Nat.zero_le _, .refl, hc1, c.rg.mono t1.ext, i0⟩, by
      rintro i m σ' H' ⟨Γ', S', rfl, hi, t', hc', rg', inv⟩
      by_cases hlt : i < items.length
      · refine .inr ⟨?_, fun σ2 H2 => ∃ Γ2 S2, Stp F S1 H1 S2 H2 ∧ HC X.K F S2 H2 ∧ RG X.K (vw F S2 H2) Γ2 σ2 ∧ I (i + 1) Γ2 S2, fun σ2 H2 ⟨Γ2, S2, u, v, w, z⟩ => ⟨items.length - (i + 1), by omega, Γ2, S2, rfl, hlt, u, v, w, z⟩, fun x H2 hy => ?_⟩
        · exact ((wk F S' H' t'.ext hc' i).1 items[i] (by simp [hlt])).1
        · obtain ⟨t2, hc2, rx⟩ := ((wk F S' H' t'.ext hc' i).1 items[i] (by simp [hlt])).2 x H2 hy
          refine turn i items[i] Γ' S' (by simp [hlt]) inv F σ' H2 x ⟨c.ok, hc2, rg'.mono t2.ext, c.xr.step ((t1.trans t').trans t2)⟩ rx _ fun σ3 H3 Γ3 S3 t3 hc3 rg3 q => ?_
          refine q F σ3 H3 ⟨c.ok, hc3, rg3, c.xr.step (((t1.trans t').trans t2).trans t3)⟩ _ ?_
          have tt := (t'.trans t2).trans t3
          refine ⟨fun σ4 H4 Γ4 S4 t4 hc4 rg4 q4 => ⟨Γ4, S4, tt.trans t4, hc4, rg4, q4⟩, (k.rt).step (t1.trans tt), fun σ4 H4 Γ4 S4 t4 hc4 rg4 q4 => k.nx _ _ _ _ ((t1.trans tt).trans t4) hc4 rg4 q4, fun σ4 H4 Γ4 S4 t4 hc4 rg4 q4 => ⟨Γ4, S4, tt.trans t4, hc4, rg4, q4⟩⟩
      · have e : i = items.length := by omega
        subst e
        exact .inl ⟨(wk F S' H' t'.ext hc' _).2 (Nat.le_refl _), k.nx _ _ _ _ (t1.trans t') hc' rg' (done _ _ inv)⟩⟩)
theorem z1_while {c : Expr} (I : Nat → GQ) (m0 : Nat) (h0 : I m0 Γ S) (hs : ∀ m Γ' S', I m Γ' S' → ZT X Ex c Γ' S' fun t S1 => if t = true then ZS X Ex body Γ' S1 { D with nx := fun Γ2 S2 => ∃ m', m' < m ∧ I m' Γ2 S2, ct := fun Γ2 S2 => ∃ m', m' < m ∧ I m' Γ2 S2, bk := D.nx } else D.nx Γ' S1) :
    Z1 X Ex (.While c body [] pos) Γ S D := fun F σ H co D' k =>
  self1_of (ps_while co.ok.po pt_self pss_self) ⟨fun m σ' H' => ∃ Γ' S', Stp F S H S' H' ∧ HC X.K F S' H' ∧ RG X.K (vw F S' H') Γ' σ' ∧ I m Γ' S', ⟨m0, Γ, S, .refl, co.hc, co.rg, h0⟩, by
    rintro m σ' H' ⟨Γ', S', t', hc', rg', inv⟩
    refine hs m Γ' S' inv F σ' H' ⟨co.ok, hc', rg', co.xr.step t'⟩ _ fun b H1 S1 t1 hc1 q => ?_
    cases b with
    | true =>
      refine ⟨fun σ2 H2 => ∃ m', m' < m ∧ ∃ Γ2 S2, Stp F S H S2 H2 ∧ HC X.K F S2 H2 ∧ RG X.K (vw F S2 H2) Γ2 σ2 ∧ I m' Γ2 S2, fun _ _ z => z, ?_⟩
      refine q F σ' H1 ⟨co.ok, hc1, rg'.mono t1.ext, co.xr.step (t'.trans t1)⟩ _ ?_
      have tt := t'.trans t1
      exact ⟨fun σ4 H4 Γ4 S4 t4 hc4 rg4 ⟨m', hm, q4⟩ => ⟨m', hm, Γ4, S4, tt.trans t4, hc4, rg4, q4⟩, (k.rt).step tt, fun σ4 H4 Γ4 S4 t4 hc4 rg4 q4 => k.nx _ _ _ _ (tt.trans t4) hc4 rg4 q4, fun σ4 H4 Γ4 S4 t4 hc4 rg4 ⟨m', hm, q4⟩ => ⟨m', hm, Γ4, S4, tt.trans t4, hc4, rg4, q4⟩⟩
    | false => exact k.nx _ _ _ _ (t'.trans t1) hc1 (rg'.mono t1.ext) q⟩
/-- what comes is never reached -/
theorem zs_never (h : False) : ZS X Ex body Γ S D := h.elim

/-! ### what changes no more -/
theorem zs_freeze {p : Addr} {ds : List Fz.D} (i : Nat) (hi : Γ[i]? = some (some (.ref p))) (h : ZS X Ex body (Γ.set i (some (.lst ds))) S D) : ZS X Ex body Γ (S ++ [(p, .lst ds)]) D := fun F σ H c D' k => by
  obtain ⟨f1, f2, f3⟩ := c.hc.freeze
  obtain ⟨xs, e, r⟩ := c.hc.at_ p (.lst ds) (List.mem_append_right _ (List.mem_singleton.mpr rfl))
  refine h F σ H ⟨c.ok, f1, ?_, c.xr.step f2⟩ D' (k.step f2)
  obtain ⟨v, e1, r1⟩ := c.rg.2 i _ hi
  cases r1
  have g := (c.rg.mono f2.ext).set (i := i) (d := .lst ds) (v := .ref p) (.lst (by rw [f3]; exact e) (r.mono f2.ext))
  have es : σ.set i (some (.ref p)) = σ := by
    apply List.ext_getElem?
    intro j
    by_cases q : i = j
    · subst q; rw [List.getElem?_set_self (List.getElem?_eq_some_iff.mp e1).1, e1]
    · rw [List.getElem?_set_ne q]
  rw [es] at g
  exact g
theorem zs_drop {pc : Addr × Cell} (h : ZS X Ex body Γ S D) : ZS X Ex body Γ (S ++ [pc]) D := fun F σ H c D' k => by
  obtain ⟨p, ce⟩ := pc
  obtain ⟨f1, f2, f3⟩ := c.hc.freeze
  exact h F σ H ⟨c.ok, f1, c.rg.mono f2.ext, c.xr.step f2⟩ D' (k.step f2)
theorem ze_freeze {S0 : Store} (h : ZE X Ex e Γ S0 fun d S' => ∃ S p ds, d = .ref p ∧ S' = S ++ [(p, .lst ds)] ∧ Q (.lst ds) S) : ZE X Ex e Γ S0 Q := fun F σ H c Q' k =>
  h F σ H c Q' fun v H' d S' t hc r ⟨S1, p, ds, e1, e2, q⟩ => by
    subst e1 e2
    cases r
    obtain ⟨f1, f2, f3⟩ := hc.freeze
    obtain ⟨xs, e, r⟩ := hc.at_ p (.lst ds) (List.mem_append_right _ (List.mem_singleton.mpr rfl))
    exact k _ _ _ _ (t.trans f2) f1 (.lst (by rw [f3]; exact e) (r.mono f2.ext)) q
theorem ze_drop {S0 : Store} (h : ZE X Ex e Γ S0 fun d S' => ∃ S pc, S' = S ++ [pc] ∧ Q d S) : ZE X Ex e Γ S0 Q := fun F σ H c Q' k =>
  h F σ H c Q' fun v H' d S' t hc r ⟨S1, ⟨p, ce⟩, e2, q⟩ => by
    subst e2
    obtain ⟨f1, f2, f3⟩ := hc.freeze
    exact k _ _ _ _ (t.trans f2) f1 (r.mono f2.ext) q

/-! ### targets -/
def ZGs (X : Cx) (Ex : AX) (tgs : List Expr) (ds : List Fz.D) (Γ : Gam) (S : Store) (q : GQ) : Prop := ∃ t : TGs, PGs X tgs t ∧ ∀ F σ H vs, Con X Ex F Γ S σ H → RepL X.K (vw F S H) ds vs → ∀ q', GR X.K F S H q q' → t vs σ H q'
theorem zgs_nil {q : GQ} (h : q Γ S) : ZGs X Ex [] [] Γ S q := ⟨gNil, pgs_nil, fun F σ H vs c r q' k => by cases r; exact ⟨rfl, k _ _ _ _ .refl c.hc c.rg h⟩⟩
theorem zgs_name {i : Nat} {x : Str} {ts : List Expr} {ds : List Fz.D} {q : GQ} (h : ZGs X Ex ts ds (Γ.set i (some d)) S q) (nd : X.N.Nodup) (hi : X.N[i]? = some x := by rfl) (hx : Loc X.env.scope x := by first | exact .inl rfl | exact .inr rfl)
    (hf : X.fn x = true ∨ X.env.scope.names.lookup x = some .local := by first | exact .inl rfl | exact .inr rfl) (hs : (assignEach (.Name x pos :: ts) X.env).map (·.2) = assign (.Name x pos) X.env :: (assignEach ts X.env).map (·.2) := by rfl) : ZGs X Ex (.Name x pos :: ts) (d :: ds) Γ S q := by
  obtain ⟨t, ht, hk⟩ := h
  refine ⟨gCons (gName i) t, pgs_cons (pg_name nd hi hx hf) ht hs, fun F σ H vs c r q' k => ?_⟩
  cases r with
  | cons r rr => exact ⟨_, _, rfl, hk F _ H _ ⟨c.ok, c.hc, c.rg.set r, c.xr⟩ rr q' k⟩
theorem zg_tup {ts : List Expr} {kk} {ds : List Fz.D} {n : Nat} {q : GQ} (hd : d = .tup ds) (h : ZGs X Ex ts ds Γ S q) (hl : ds.length = n := by rfl) (hn : (assignEach ts X.env).length = n := by rfl) (hst : (assignEach ts X.env).findIdx? (·.1) = none := by rfl) : ZG X Ex (.Tuple ts kk pos) d Γ S q := fun F σ H v c r q' k => by
  obtain ⟨t, ht, hk⟩ := h
  subst hd
  refine selfG_of (pg_tup c.ok.calm ht hn hst) ?_
  cases r with
  | tup hq rr => exact ⟨_, _, rfl, st_H hq, by rw [← rr.length]; exact hl, hk F σ H _ c rr q' k⟩
end
end Fz
end

section
namespace Fz
open PySem PySem.Spec PyProof.Rows L2

/-! ### comprehensions -/
def wipeG (Γ : Gam) (vs : List Nat) : Gam := vs.foldr (fun v g => g.set v none) Γ
theorem RG.wipeG {K G Γ σ} (h : RG K G Γ σ) (vs : List Nat) : RG K G (wipeG Γ vs) (L2.wipe σ vs) := by
  obtain ⟨Γ', e, r⟩ := h.wipe vs
  unfold Fz.wipeG
  rw [← e]; exact r
theorem wipe_at {i : Nat} : ∀ {vs : List Nat} {σ : L2.St}, i ∈ vs → (wipe σ vs)[i]? = if i < σ.length then some none else none
  | v :: vs, σ, h => by
    unfold wipe
    by_cases e : v = i
    · subst e
      by_cases l : v < σ.length
      · rw [if_pos l, List.getElem?_set_self (by rw [wipe_length]; exact l)]
      · rw [if_neg l, List.getElem?_eq_none (by simp [wipe_length]; omega)]
    · rw [List.getElem?_set_ne e]
      rcases List.mem_cons.mp h with z | z
      · exact absurd z.symm e
      · exact wipe_at z
theorem ne_memN {l : List Nat} {a p : Nat} (h : a ∈ l) (n : p ∉ l) : a ≠ p := fun z => n (by rw [← z]; exact h)
theorem wipe_set {j : Nat} {vs : List Nat} {σ : L2.St} {x : Option V} (h : j ∈ vs) : wipe ((wipe σ vs).set j x) vs = wipe σ vs := by
  apply List.ext_getElem?
  intro i
  by_cases m : i ∈ vs
  · rw [wipe_at m, wipe_at m]; simp [wipe_length]
  · rw [wipe_out m, List.getElem?_set_ne (ne_memN h m)]
theorem wipe_wipe {vs : List Nat} {σ : L2.St} : wipe (wipe σ vs) vs = wipe σ vs := by
  apply List.ext_getElem?
  intro i
  by_cases m : i ∈ vs
  · rw [wipe_at m, wipe_at m]; simp [wipe_length]
  · rw [wipe_out m]
theorem wipe_set2 {i j : Nat} {vs : List Nat} {σ : L2.St} {x y : Option V} (h : i ∈ vs) (h2 : j ∈ vs) : wipe (((wipe σ vs).set i x).set j y) vs = wipe σ vs := by
  apply List.ext_getElem?
  intro k
  by_cases m : k ∈ vs
  · rw [wipe_at m, wipe_at m]; simp [wipe_length]
  · rw [wipe_out m, List.getElem?_set_ne (ne_memN h2 m), List.getElem?_set_ne (ne_memN h m)]

abbrev Bk (X : Cx) (scope : Scope) (s : Shared) (H : Hp) (C : Addr) (cl : List (Str × Addr)) (fp : List Addr) : Cx := X.blk s H scope (compEnvC scope cl C X.env) fp
/-- a comprehension's target: what of the frame it makes -/
structure CTg (X : Cx) (scope : Scope) (tg : Expr) (vs : List Nat) (rel : D → Gam → Gam → Prop) : Prop where
  ex : ∃ g : TG, (∀ s H C cl fp, PG (Bk X scope s H C cl fp) tg g) ∧ ∀ (σ : L2.St) (H : Hp) (v : V) (G : Hp) (Γ Γ2 : Gam) (d : D), Sub G H → RG X.K G Γ (wipe σ vs) → Rep X.K G d v → rel d Γ Γ2 → ∀ q : L2.St → Hp → Prop, (∀ σ2, RG X.K G Γ2 σ2 → wipe σ2 vs = wipe σ vs → q σ2 H) → g v (wipe σ vs) H q
abbrev relN (j : Nat) : D → Gam → Gam → Prop := fun d Γ Γ2 => Γ2 = Γ.set j (some d)
abbrev relP (i j : Nat) : D → Gam → Gam → Prop := fun d Γ Γ2 => ∃ a b, d = .tup [a, b] ∧ Γ2 = (Γ.set i (some a)).set j (some b)
theorem ct_name {X : Cx} {scope : Scope} {vs : List Nat} {j : Nat} {x : Str} {pos : Pos} (nd : X.N.Nodup) (hj : j ∈ vs := by simp) (hi : X.N[j]? = some x := by rfl)
    (hx : ∀ s H C cl fp, Loc (Bk X scope s H C cl fp).env.scope x := by intros; exact .inl rfl) (hf : ∀ s H C cl fp, (Bk X scope s H C cl fp).fn x = true ∨ (Bk X scope s H C cl fp).env.scope.names.lookup x = some .local := by intros; exact .inr rfl) : CTg X scope (.Name x pos) vs (relN j) :=
  ⟨gName j, fun s H C cl fp => pg_name nd hi (hx s H C cl fp) (hf s H C cl fp), fun σ H v G Γ Γ2 d _ rg r e q k => by subst e; exact k _ (rg.set r) (wipe_set hj)⟩
theorem ct_pair {X : Cx} {scope : Scope} {vs : List Nat} {i j : Nat} {x y : Str} {p1 p2 pos : Pos} {kk} (nd : X.N.Nodup) (hc : X.calm = true) (hi' : i ∈ vs := by simp) (hj : j ∈ vs := by simp) (hi : X.N[i]? = some x := by rfl) (hy : X.N[j]? = some y := by rfl)
    (hx : ∀ s H C cl fp, Loc (Bk X scope s H C cl fp).env.scope x := by intros; exact .inl rfl) (hx2 : ∀ s H C cl fp, Loc (Bk X scope s H C cl fp).env.scope y := by intros; exact .inl rfl)
    (hf : ∀ s H C cl fp, (Bk X scope s H C cl fp).fn x = true ∨ (Bk X scope s H C cl fp).env.scope.names.lookup x = some .local := by intros; exact .inr rfl)
    (hf2 : ∀ s H C cl fp, (Bk X scope s H C cl fp).fn y = true ∨ (Bk X scope s H C cl fp).env.scope.names.lookup y = some .local := by intros; exact .inr rfl)
    : CTg X scope (.Tuple [.Name x p1, .Name y p2] kk pos) vs (relP i j) :=
  ⟨gTup X.K 2 (gCons (gName i) (gCons (gName j) gNil)), fun s H C cl fp => pg_tup hc (pgs_cons (pg_name nd hi (hx s H C cl fp) (hf s H C cl fp)) (pgs_cons (pg_name nd hy (hx2 s H C cl fp) (hf2 s H C cl fp)) pgs_nil)),
    fun σ H v G Γ Γ2 d sb rg r ⟨a, b, e, e2⟩ q k => by
      subst e e2
      cases r with
      | tup hq rr =>
        cases rr with
        | cons r1 rr => cases rr with
          | cons r2 rr => cases rr; exact ⟨_, _, rfl, Sub.st sb hq, rfl, _, _, rfl, _, _, rfl, rfl, k _ ((rg.set r1).set r2) (wipe_set2 hi' hj)⟩⟩
def tSelfF (X : Cx) (ifs : List Expr) : TT := fun σ H Q => ∃ t : TT, PTs X ifs t ∧ t σ H Q
def ZF (X : Cx) (Ex : AX) (ifs : List Expr) (Γ : Gam) (S : Store) (Q : Bool → Store → Prop) : Prop := ∀ F σ H, Con X Ex F Γ S σ H → ∀ Q', QT X.K F S H Q Q' → tSelfF X ifs σ H Q'
theorem zf_nil {X Ex Γ S} {Q : Bool → Store → Prop} (h : Q true S) : ZF X Ex [] Γ S Q := fun F σ H c Q' k => ⟨tYes, pts_nil, k _ _ _ .refl c.hc h⟩
theorem zf_one {X Ex Γ S c} {Q : Bool → Store → Prop} (h : ZT X Ex c Γ S Q) : ZF X Ex [c] Γ S Q := fun F σ H co Q' k => ⟨tSelfT X c, pts_one pt_self, h F σ H co Q' k⟩
theorem XOk.blk {X : Cx} (h : XOk X) {scope s H C cl fp} : XOk (Bk X scope s H C cl fp) := ⟨h.nd, PassesOwn.never, h.calm, h.gd⟩
theorem pts_selfF {X ifs} : PTs X ifs (tSelfF X ifs) := ⟨fun pins s σ H Q I ⟨t, ht, q⟩ => ht.run pins s σ H Q I q⟩
/-- with one place more hidden -/
theorem hd_cons {l : List Addr} {H : Hp} {p a : Addr} (h : a ≠ p) : hd (p :: l) H a = hd l H a := by
  by_cases q : a ∈ l
  · rw [hd_in q, hd_in (List.mem_cons_of_mem _ q)]
  · rw [hd_out q, hd_out fun z => (List.mem_cons.mp z).elim h q]
/-- the list that a comprehension makes stands hidden at D -/
structure BI (K : PySem.W.Frag) (F : List Addr) (S1 : Store) (H1 : Hp) (D : Addr) (acc : List Fz.D) (S' : Store) (H' : Hp) : Prop where
  sb : Sub (vw F S1 H1) (vw (D :: F) S' H')
  fr : ∀ a ∈ F, H' a = H1 a
  hc : HC K (D :: F) S' H'
  at_ : ∃ vs, H' D = some (.lst vs) ∧ RepL K (vw (D :: F) S' H') acc vs
theorem BI.start {K F S1 H1 D} (hc1 : HC K F S1 H1) (hD : H1 D = none) : BI K F S1 H1 D [] S1 (upd H1 D (.lst [])) := by
  have nD := hc1.fresh hD
  obtain ⟨n1, n2, n3⟩ := hc1.new (o := .lst []) hD
  have ne : ∀ a o, vw F S1 H1 a = some o → a ≠ D := fun a o e z => by
    subst z
    have := hd_sub a o e
    rw [hD] at this; cases this
  have sb : Sub (vw F S1 H1) (vw (D :: F) S1 (upd H1 D (.lst []))) := fun a o e => by
    have : vw (D :: F) S1 (upd H1 D (.lst [])) a = vw F S1 (upd H1 D (.lst [])) a := hd_cons (ne a o e)
    rw [this]
    exact n2.ext a o e
  refine ⟨sb, fun a ha => upd_ne (ne_mem ha fun z => nD (List.mem_append_left _ z)), ⟨List.nodup_cons.mpr ⟨nD, hc1.nd⟩, fun a ha => ?_, fun p ce hp => ?_⟩, ⟨[], upd_same, .nil⟩⟩
  · rcases List.mem_cons.mp ha with z | z
    · rw [z, upd_same]; exact fun z => nomatch z
    · exact n1.fr a z
  · have np : p ≠ D := fun z => nD (by rw [← z]; exact List.mem_append_right _ (List.mem_map.mpr ⟨_, hp, rfl⟩))
    rw [upd_ne np]
    exact (hc1.at_ p ce hp).mono sb
theorem BI.step {K F S1 H1 D acc S' H' S2 H2} (b : BI K F S1 H1 D acc S' H') (t : Stp (D :: F) S' H' S2 H2) (h : HC K (D :: F) S2 H2) : BI K F S1 H1 D acc S2 H2 := by
  obtain ⟨vs, e, r⟩ := b.at_
  exact ⟨fun a o e => t.ext a o (b.sb a o e), fun a ha => (t.frm a (List.mem_cons_of_mem _ ha)).trans (b.fr a ha), h, vs, (t.frm D (List.mem_cons_self ..)).trans e, r.mono t.ext⟩
theorem BI.app {K F S1 H1 D acc S4 H4 y dy} (b : BI K F S1 H1 D acc S4 H4) (ry : Rep K (vw (D :: F) S4 H4) dy y) : ∃ vs, H4 D = some (.lst vs) ∧ vs.length = acc.length ∧ BI K F S1 H1 D (acc ++ [dy]) S4 (upd H4 D (.lst (vs ++ [y]))) := by
  obtain ⟨vs, e4, ra4⟩ := b.at_
  have hc4 := b.hc
  have n4 : D ∉ F ++ keys S4 := (List.nodup_cons.mp hc4.nd).1
  have eq : vw (D :: F) S4 (upd H4 D (.lst (vs ++ [y]))) = vw (D :: F) S4 H4 := funext fun a => by
    by_cases m : a ∈ (D :: F) ++ keys S4
    · rw [vw, hd_in m, vw, hd_in m]
    · rw [vw, hd_out m, vw, hd_out m, upd_ne fun z => m (by rw [z]; exact List.mem_cons_self ..)]
  refine ⟨vs, e4, ra4.length.symm, by rw [eq]; exact b.sb, fun a ha => ?_, ⟨hc4.nd, fun a ha => ?_, fun p ce hp => ?_⟩, vs ++ [y], upd_same, by rw [eq]; exact ra4.app (.cons ry .nil)⟩
  · rw [upd_ne (ne_mem ha fun z => n4 (List.mem_append_left _ z))]
    exact b.fr a ha
  · rcases List.mem_cons.mp ha with z | z
    · rw [z, upd_same]; exact fun z => nomatch z
    · rw [upd_ne (ne_mem z fun z => n4 (List.mem_append_left _ z))]; exact hc4.fr a ha
  · rw [eq, upd_ne (ne_mem (List.mem_append_right _ (List.mem_map.mpr ⟨_, hp, rfl⟩)) n4)]
    exact hc4.at_ p ce hp
theorem BI.done {K F S1 H1 D acc S' H'} (b : BI K F S1 H1 D acc S' H') : Stp F S1 H1 S' H' ∧ HC K F S' H' ∧ Rep K (vw F S' H') (.lst acc) (.ref D) := by
  obtain ⟨vs, e, r⟩ := b.at_
  have sub : Sub (vw (D :: F) S' H') (vw F S' H') := hd_less fun a ha => List.mem_cons_of_mem _ ha
  have n4 : D ∉ F ++ keys S' := (List.nodup_cons.mp b.hc.nd).1
  refine ⟨⟨fun a o e => sub a o (b.sb a o e), b.fr⟩, ⟨(List.nodup_cons.mp b.hc.nd).2, fun a ha => b.hc.fr a (List.mem_cons_of_mem _ ha), fun p ce hp => (b.hc.at_ p ce hp).mono sub⟩, .lst ?_ (r.mono sub)⟩
  rw [vw, hd_out n4]; exact e
section
variable {X : Cx} {Ex : AX} {Γ : Gam} {S : Store} {Q : DQ} {elt iter tg iter1 tg1 : Expr} {ifs ifs1 : List Expr} {pos : Pos} {scope : Scope} {own : List (Str × Nat)} {vs1 : List Nat} {rel rel1 : D → Gam → Gam → Prop} {DE : AEnds}
/-- what the element, the test are read to, wherever the block stands -/
abbrev teB (X : Cx) (scope : Scope) (elt : Expr) : TE := fun σ H Q => ∀ s H0 C cl fp, tSelf (Bk X scope s H0 C cl fp) elt σ H Q
abbrev ttB (X : Cx) (scope : Scope) (ifs : List Expr) : TT := fun σ H Q => ∀ s H0 C cl fp, tSelfF (Bk X scope s H0 C cl fp) ifs σ H Q
abbrev tiB (X : Cx) (scope : Scope) (tg iter : Expr) : TI := fun σ H Q => ∀ s H0 C cl fp, tSelfI (Bk X scope s H0 C cl fp) tg iter σ H Q
theorem teB_ok (s : Shared) (H0 : Hp) (C : Addr) (cl : List (Str × Addr)) (fp : List Addr) : PE (Bk X scope s H0 C cl fp) elt (teB X scope elt) := ⟨fun pins s1 σ H Q I q => pe_self.run pins s1 σ H Q I (q s H0 C cl fp)⟩
theorem ttB_ok (s : Shared) (H0 : Hp) (C : Addr) (cl : List (Str × Addr)) (fp : List Addr) : PTs (Bk X scope s H0 C cl fp) ifs (ttB X scope ifs) := ⟨fun pins s1 σ H Q I q => pts_selfF.run pins s1 σ H Q I (q s H0 C cl fp)⟩
theorem tiB_ok (s : Shared) (H0 : Hp) (C : Addr) (cl : List (Str × Addr)) (fp : List Addr) : PI (Bk X scope s H0 C cl fp) tg iter (tiB X scope tg iter) := ⟨fun pins s1 σ H Q I q => pi_self.run pins s1 σ H Q I (q s H0 C cl fp)⟩
/-- one clause: what a turn asks -/
def LcTurn (X : Cx) (scope : Scope) (ifs : List Expr) (elt : Expr) (Γ2 : Gam) (S' : Store) (yes : DQ) (no : Store → Prop) : Prop := ∀ s H C cl fp, ZF (Bk X scope s H C cl fp) AX0 ifs Γ2 S' fun t S3 => if t = true then ∀ s H C cl fp, ZE (Bk X scope s H C cl fp) AX0 elt Γ2 S3 yes else no S3
def LcAsk (X : Cx) (scope : Scope) (ifs : List Expr) (elt : Expr) (Γ : Gam) (vs : List Nat) (rel : D → Gam → Gam → Prop) (Q : DQ) : LQ := fun items S1 => ∃ I : Nat → List D → Store → Prop, I 0 [] S1 ∧
  (∀ (i : Nat) d acc S', items[i]? = some d → I i acc S' → ∃ Γ2, rel d (wipeG Γ vs) Γ2 ∧ LcTurn X scope ifs elt Γ2 S' (fun y S4 => acc.length < sizeLine ∧ I (i + 1) (acc ++ [y]) S4) (I (i + 1) acc)) ∧ ∀ acc S', I items.length acc S' → Q (.lst acc) S'
theorem lc_read (ct : CTg X scope tg (own.map (·.2)) rel) (h : ZI X Ex tg iter Γ S (LcAsk X scope ifs elt Γ (own.map (·.2)) rel Q)) : ∃ g : TG, (∀ s H C cl fp, PG (Bk X scope s H C cl fp) tg g) ∧
    ∀ F σ H, Con X Ex F Γ S σ H → ∀ Q', QR X.K F S H Q Q' → tLc (tSelfI X tg iter) g (ttB X scope ifs) (teB X scope elt) (own.map (·.2)) σ H Q' := by
  obtain ⟨g, hg, gk⟩ := ct.ex
  refine ⟨g, hg, fun F σ H c Q' k => ?_⟩
  refine h F σ H c _ fun J H1 S1 items t1 hc1 wk ⟨I, i0, turn, done⟩ D hD => ?_
  refine ⟨fun i m H' => ∃ acc S', m = items.length - i ∧ i ≤ items.length ∧ BI X.K F S1 H1 D acc S' H' ∧ I i acc S', ⟨_, [], S1, rfl, Nat.zero_le _, .start hc1 hD, i0⟩, ?_⟩
  rintro i m H' ⟨acc, S', rfl, hi, b, inv⟩
  by_cases hlt : i < items.length
  · refine .inr ⟨((wk (D :: F) S' H' b.sb b.hc i).1 items[i] (by simp [hlt])).1, fun H2 => ∃ acc S2, BI X.K F S1 H1 D acc S2 H2 ∧ I (i + 1) acc S2,
      fun H2 ⟨acc, S2, a1, a2⟩ => ⟨items.length - (i + 1), by omega, acc, S2, rfl, hlt, a1, a2⟩, fun x H2 hy => ?_⟩
    obtain ⟨t2, hc2, rx⟩ := ((wk (D :: F) S' H' b.sb b.hc i).1 items[i] (by simp [hlt])).2 x H2 hy
    obtain ⟨Γ2, hrel, body⟩ := turn i items[i] acc S' (by simp [hlt]) inv
    have b2 := b.step t2 hc2
    refine gk σ H2 x _ _ Γ2 _ hd_sub (((c.rg.mono t1.ext).mono b2.sb).wipeG _) rx hrel _ fun σ2 rg2 hw => ⟨hw, fun s H0 C cl fp => ?_⟩
    refine body s H0 C cl fp (D :: F) σ2 H2 ⟨c.ok.blk, hc2, rg2, .none⟩ _ fun t H3 S3 t3 hc3 q3 => ?_
    cases t with
    | false => exact ⟨acc, S3, b2.step t3 hc3, q3⟩
    | true =>
      intro s4 H04 C4 cl4 fp4
      refine q3 s4 H04 C4 cl4 fp4 (D :: F) σ2 H3 ⟨c.ok.blk, hc3, rg2.mono t3.ext, .none⟩ _ fun y H4 dy S4 t4 hc4 ry ⟨hz, q4⟩ => ?_
      obtain ⟨vs, e, l, b4⟩ := ((b2.step t3 hc3).step t4 hc4).app ry
      exact ⟨vs, e, by rw [l]; exact hz, acc ++ [dy], S4, b4, q4⟩
  · have e : i = items.length := by omega
    subst e
    obtain ⟨d1, d2, d3⟩ := b.done
    exact .inl ⟨(wk (D :: F) S' H' b.sb b.hc _).2 (Nat.le_refl _), k (.ref D) H' (.lst acc) S' (t1.trans d1) d2 d3 (done _ _ inv)⟩
theorem ze_lc (ok : BlkOk X.N X.env.scope scope own) (ct : CTg X scope tg (own.map (·.2)) rel) (h : ZI X Ex tg iter Γ S (LcAsk X scope ifs elt Γ (own.map (·.2)) rel Q))
    (hs : ∀ x, foldedSetIterable iter X.env x = pure x := by intro _; rfl) : ZE X Ex (.ListComp elt [⟨tg, iter, ifs, 0⟩] scope pos) Γ S Q := fun F σ H c Q' k => by
  obtain ⟨g, hg, r⟩ := lc_read ct h
  exact self_of (pe_lc c.ok.calm c.ok.nd pi_self ok hg ttB_ok teB_ok hs) (r F σ H c Q' k)
/-- name = [..] -/
theorem z1_setLc {i : Nat} {y : Str} {py spos : Pos} (ok : BlkOk X.N X.env.scope scope own) (ct : CTg X scope tg (own.map (·.2)) rel)
    (h : ZI X Ex tg iter Γ S (LcAsk X scope ifs elt Γ (own.map (·.2)) rel fun d S' => DE.nx (Γ.set i (some d)) S'))
    (hsw : swapsWith (.ListComp elt [⟨tg, iter, ifs, 0⟩] scope pos) (some (.Name y py)) spos.line X.env = pure true := by exact sw_true rfl rfl rfl (by decide +kernel)) (hi : X.N[i]? = some y := by rfl) (hyl : X.env.scope.names.lookup y = some .local := by rfl)
    (hs : ∀ x, foldedSetIterable iter X.env x = pure x := by intro _; rfl) : Z1 X Ex (.Assign [.Name y py] (.ListComp elt [⟨tg, iter, ifs, 0⟩] scope pos) spos) Γ S DE := fun F σ H c D' k => by
  obtain ⟨g, hg, r⟩ := lc_read ct h
  exact self1_of (ps_setLc c.ok.calm c.ok.nd hi hyl hsw pi_self ok hg ttB_ok teB_ok hs) (r F σ H c _ fun v H' d S' t hc rr q => k.nx _ _ _ _ t hc ((c.rg.mono t.ext).set rr) q)
/-- two clauses -/
def Lc2Ask (X : Cx) (scope : Scope) (ifs ifs1 : List Expr) (tg1 iter1 elt : Expr) (Γ : Gam) (vs vs1 : List Nat) (rel rel1 : D → Gam → Gam → Prop) (Q : DQ) : LQ := fun items S1 => ∃ I : Nat → List D → Store → Prop, I 0 [] S1 ∧
  (∀ (i : Nat) d acc S', items[i]? = some d → I i acc S' → ∃ Γ2, rel d (wipeG Γ vs) Γ2 ∧ ∀ s H C cl fp, ZF (Bk X scope s H C cl fp) AX0 ifs Γ2 S' fun t S3 => if t = true then
    ∀ s H C cl fp, ZI (Bk X scope s H C cl fp) AX0 tg1 iter1 Γ2 S3 fun items1 S4 => ∃ I1 : Nat → List D → Store → Prop, I1 0 acc S4 ∧
      (∀ (j : Nat) d1 acc1 S5, items1[j]? = some d1 → I1 j acc1 S5 → ∃ Γ3, rel1 d1 (wipeG Γ2 vs1) Γ3 ∧ LcTurn X scope ifs1 elt Γ3 S5 (fun y S6 => acc1.length < sizeLine ∧ I1 (j + 1) (acc1 ++ [y]) S6) (I1 (j + 1) acc1)) ∧ ∀ acc1 S5, I1 items1.length acc1 S5 → I (i + 1) acc1 S5
    else I (i + 1) acc S3) ∧ ∀ acc S', I items.length acc S' → Q (.lst acc) S'
theorem lc2_read (ct : CTg X scope tg (own.map (·.2)) rel) (ct1 : CTg X scope tg1 vs1 rel1) (h : ZI X Ex tg iter Γ S (Lc2Ask X scope ifs ifs1 tg1 iter1 elt Γ (own.map (·.2)) vs1 rel rel1 Q)) : ∃ g g1 : TG, (∀ s H C cl fp, PG (Bk X scope s H C cl fp) tg g) ∧ (∀ s H C cl fp, PG (Bk X scope s H C cl fp) tg1 g1) ∧
    ∀ F σ H, Con X Ex F Γ S σ H → ∀ Q', QR X.K F S H Q Q' → tLc2 (tSelfI X tg iter) g (ttB X scope ifs) (tiB X scope tg1 iter1) g1 (ttB X scope ifs1) (teB X scope elt) (own.map (·.2)) vs1 σ H Q' := by
  obtain ⟨g, hg, gk⟩ := ct.ex
  obtain ⟨g1, hg1, gk1⟩ := ct1.ex
  refine ⟨g, g1, hg, hg1, fun F σ H c Q' k => ?_⟩
  refine h F σ H c _ fun J H1 S1 items t1 hc1 wk ⟨I, i0, turn, done⟩ D hD => ?_
  refine ⟨fun i m H' => ∃ acc S', m = items.length - i ∧ i ≤ items.length ∧ BI X.K F S1 H1 D acc S' H' ∧ I i acc S', ⟨_, [], S1, rfl, Nat.zero_le _, .start hc1 hD, i0⟩, ?_⟩
  rintro i m H' ⟨acc, S', rfl, hi, b, inv⟩
  by_cases hlt : i < items.length
  · refine .inr ⟨((wk (D :: F) S' H' b.sb b.hc i).1 items[i] (by simp [hlt])).1, fun H2 => ∃ acc S2, BI X.K F S1 H1 D acc S2 H2 ∧ I (i + 1) acc S2,
      fun H2 ⟨acc, S2, a1, a2⟩ => ⟨items.length - (i + 1), by omega, acc, S2, rfl, hlt, a1, a2⟩, fun x H2 hy => ?_⟩
    obtain ⟨t2, hc2, rx⟩ := ((wk (D :: F) S' H' b.sb b.hc i).1 items[i] (by simp [hlt])).2 x H2 hy
    obtain ⟨Γ2, hrel, body⟩ := turn i items[i] acc S' (by simp [hlt]) inv
    have b2 := b.step t2 hc2
    refine gk σ H2 x _ _ Γ2 _ hd_sub (((c.rg.mono t1.ext).mono b2.sb).wipeG _) rx hrel _ fun σ2 rg2 hw => ⟨hw, fun s H0 C cl fp => ?_⟩
    refine body s H0 C cl fp (D :: F) σ2 H2 ⟨c.ok.blk, hc2, rg2, .none⟩ _ fun t H3 S3 t3 hc3 q3 => ?_
    cases t with
    | false => exact ⟨acc, S3, b2.step t3 hc3, q3⟩
    | true =>
      intro s4 H04 C4 cl4 fp4
      have b3 := b2.step t3 hc3
      refine q3 s4 H04 C4 cl4 fp4 (D :: F) σ2 H3 ⟨c.ok.blk, hc3, rg2.mono t3.ext, .none⟩ _ fun J1 H4 S4 items1 t4 hc4 wk1 ⟨I1, i10, turn1, done1⟩ => ?_
      have b4 := b3.step t4 hc4
      refine ⟨fun j m H' => ∃ acc S', m = items1.length - j ∧ j ≤ items1.length ∧ BI X.K F S1 H1 D acc S' H' ∧ Sub (vw (D :: F) S4 H4) (vw (D :: F) S' H') ∧ I1 j acc S', ⟨_, acc, S4, rfl, Nat.zero_le _, b4, fun _ _ z => z, i10⟩, ?_⟩
      rintro j m H5 ⟨acc5, S5, rfl, hj, b5, sb5, inv1⟩
      by_cases hlt1 : j < items1.length
      · refine .inr ⟨((wk1 (D :: F) S5 H5 sb5 b5.hc j).1 items1[j] (by simp [hlt1])).1, fun H2 => ∃ acc S2, BI X.K F S1 H1 D acc S2 H2 ∧ Sub (vw (D :: F) S4 H4) (vw (D :: F) S2 H2) ∧ I1 (j + 1) acc S2,
          fun H2 ⟨acc, S2, a1, a2, a3⟩ => ⟨items1.length - (j + 1), by omega, acc, S2, rfl, hlt1, a1, a2, a3⟩, fun x1 H6 hy1 => ?_⟩
        obtain ⟨t6, hc6, rx6⟩ := ((wk1 (D :: F) S5 H5 sb5 b5.hc j).1 items1[j] (by simp [hlt1])).2 x1 H6 hy1
        obtain ⟨Γ3, hrel1, body1⟩ := turn1 j items1[j] acc5 S5 (by simp [hlt1]) inv1
        have b6 := b5.step t6 hc6
        have sb6 : Sub (vw (D :: F) S4 H4) (vw (D :: F) S5 H6) := fun a o e => t6.ext a o (sb5 a o e)
        refine gk1 σ2 H6 x1 _ _ Γ3 _ hd_sub (((rg2.mono t3.ext).mono fun a o e => sb6 a o (t4.ext a o e)).wipeG _) rx6 hrel1 _ fun σ3 rg3 hw3 => ⟨hw3, fun s H0 C cl fp => ?_⟩
        refine body1 s H0 C cl fp (D :: F) σ3 H6 ⟨c.ok.blk, hc6, rg3, .none⟩ _ fun t H7 S7 t7 hc7 q7 => ?_
        cases t with
        | false => exact ⟨acc5, S7, b6.step t7 hc7, fun a o e => t7.ext a o (sb6 a o e), q7⟩
        | true =>
          intro s8 H08 C8 cl8 fp8
          refine q7 s8 H08 C8 cl8 fp8 (D :: F) σ3 H7 ⟨c.ok.blk, hc7, rg3.mono t7.ext, .none⟩ _ fun y H9 dy S9 t9 hc9 ry ⟨hz, q9⟩ => ?_
          have b9 := (b6.step t7 hc7).step t9 hc9
          obtain ⟨vs, e, l, b10⟩ := b9.app ry
          refine ⟨vs, e, by rw [l]; exact hz, acc5 ++ [dy], S9, b10, fun a o ee => ?_, q9⟩
          have z := t9.ext a o (t7.ext a o (sb6 a o ee))
          have na : a ≠ D := fun q => by subst q; rw [vw, hd_in (List.mem_append_left _ (List.mem_cons_self ..))] at z; cases z
          by_cases m : a ∈ (D :: F) ++ keys S9
          · rw [vw, hd_in m] at z; cases z
          · rw [vw, hd_out m] at z ⊢; rw [upd_ne na]; exact z
      · have e : j = items1.length := by omega
        subst e
        exact .inl ⟨(wk1 (D :: F) S5 H5 sb5 b5.hc _).2 (Nat.le_refl _), acc5, S5, b5, done1 _ _ inv1⟩
  · have e : i = items.length := by omega
    subst e
    obtain ⟨d1, d2, d3⟩ := b.done
    exact .inl ⟨(wk (D :: F) S' H' b.sb b.hc _).2 (Nat.le_refl _), k (.ref D) H' (.lst acc) S' (t1.trans d1) d2 d3 (done _ _ inv)⟩
theorem ze_lc2 (ok : BlkOk X.N X.env.scope scope own) (hv : ∀ i ∈ vs1, i ∈ own.map (·.2)) (ct : CTg X scope tg (own.map (·.2)) rel) (ct1 : CTg X scope tg1 vs1 rel1) (h : ZI X Ex tg iter Γ S (Lc2Ask X scope ifs ifs1 tg1 iter1 elt Γ (own.map (·.2)) vs1 rel rel1 Q))
    (hs : ∀ x, foldedSetIterable iter X.env x = pure x := by intro _; rfl) (hs1 : ∀ env x, foldedSetIterable iter1 env x = pure x := by intro _ _; rfl) : ZE X Ex (.ListComp elt [⟨tg, iter, ifs, 0⟩, ⟨tg1, iter1, ifs1, 0⟩] scope pos) Γ S Q := fun F σ H c Q' k => by
  obtain ⟨g, g1, hg, hg1, r⟩ := lc2_read ct ct1 h
  exact self_of (pe_lc2 c.ok.calm c.ok.nd pi_self ok hv hg ttB_ok tiB_ok hg1 ttB_ok teB_ok hs hs1) (r F σ H c Q' k)
end
end Fz
end

section
namespace Fz
open PySem PySem.Spec PyProof.Rows L2

/-! ### promises over data -/
abbrev ASp := List D → Store → DQ → AX → Prop
/-- a promise over data, as the hand layer wants it -/
def conc (K : PySem.W.Frag) (asp : ASp) : Sp := fun vs H Q E => ∃ F S ds aQ aE, HC K F S H ∧ RepL K (vw F S H) ds vs ∧ asp ds S aQ aE ∧ QR K F S H aQ Q ∧
  ∀ S' H' c d fl, Stp F S H S' H' → HC K F S' H' → XcAt K F S' H' d fl → aE c fl S' → E (.ref (He.ga K c)) d H'
/-- as FnOk, where no repr runs around -/
structure FnG (P : Program) (w : World) (K : PySem.W.Frag) (mg : Str → Option Value) (base : Heap) (k : Nat) (f : Addr) (fd : FuncData) (ps : List Str) (sp : Sp) : Prop where
  len : ∀ vs H Q E, sp vs H Q E → vs.length = ps.length
  run : ∀ (A : Around) (outer : List Env) (s : Shared) (H : Hp) (args : Args) (us : List Value) (vs : List V) (Q : VK) (E : XK), A.guards = some [] → Room k A → Env0 P w K mg base A outer s H → BindsTo s fd args (ps.zip us) → Vals vs us → sp vs H Q E →
    codeAny (model P w) A (.call (.ref f) args) (CR (L2.CX P w) outer P w H s Q E) s
theorem XOk.def_ {P : Program} {w : World} {K : PySem.W.Frag} {mg : Str → Option Value} {base : Heap} {N : List Str} {qual : Str} {scope : Scope} {f : Addr} {cd : Value} {A : Around} {outer : List Env} {s : Shared} {H : Hp} {E : XK}
    (nd : N.Nodup) (gd : A.guards = some []) : XOk (cxOf (L2.CX P w) P w K mg base N qual scope f cd A outer s H E) := ⟨nd, passes_of rfl, rfl, gd⟩
def startG (N : List Str) (ds : List D) : Gam := ds.map some ++ List.replicate (N.length - ds.length) none
theorem rg_start {K G} {N : List Str} : ∀ {ds vs}, RepL K G ds vs → ds.length ≤ N.length → RG K G (startG N ds) (L2.start N vs) := fun {ds vs} r hl => by
  have e := r.length
  refine ⟨by simp [startG, L2.start, e], fun i d h => ?_⟩
  unfold startG at h
  by_cases l : i < ds.length
  · rw [List.getElem?_append_left (by simpa using l), List.getElem?_map] at h
    cases q : ds[i]? with
    | none => rw [q] at h; cases h
    | some d' =>
      rw [q] at h
      obtain rfl : d' = d := by simpa using h
      obtain ⟨v, h1, h2⟩ := r.get q
      refine ⟨v, ?_, h2⟩
      unfold L2.start
      rw [List.getElem?_append_left (by simpa [← e] using l), List.getElem?_map, h1]; rfl
  · rw [List.getElem?_append_right (by simpa using l)] at h
    have z := List.mem_of_getElem? h
    simp [List.mem_replicate] at z
/-- THE RULE for a def: its body, read over data -/
theorem fn_g {P : Program} {w : World} {K : PySem.W.Frag} {mg : Str → Option Value} {base : Heap} {k : Nat} {f : Addr} {x qual : Str} {params : Arguments} {body : List Stmt} {scope : Scope} {dvs : List V} {kws : List (Str × V)} {fd : FuncData} {N ps : List Str} {asp : ASp}
    (Fd : FunD K x qual params body scope dvs kws f fd) (Sc : FnScope N ps scope) (len : ∀ ds S Q E, asp ds S Q E → ds.length = ps.length)
    (hb : ∀ (cdv : Value) (A : Around) (outer : List Env) (s : Shared) (H : Hp) (E : XK) (ds : List D) (S : Store) (aQ : DQ) (aE : AX), Room k (A.deeper (envOfC qual scope s.heap.objs.size f cdv)) → A.guards = some [] → asp ds S aQ aE →
      ZS (cxOf (L2.CX P w) P w K mg base N qual scope f cdv A outer s H E) aE body (startG N ds) S { nx := fun _ S' => aQ .non S', rt := aQ }) : FnG P w K mg base (k + 1) f fd ps (conc K asp) := by
  obtain ⟨oc, od, dV, kV, doc, pm, an, cdv, ct, osl, efd, lk, hcd, _, _⟩ := Fd.ex
  subst efd
  have hlen : ∀ vs H Q E, conc K asp vs H Q E → vs.length = ps.length := fun vs H Q E ⟨F, S, ds, aQ, aE, _, r, ha, _⟩ => by rw [← r.length]; exact len _ _ _ _ ha
  refine ⟨hlen, fun A outer s H args us vs Q E gd hr e0 bind r hsp => ?_⟩
  have hl := hlen _ _ _ _ hsp
  have inH : ∀ b o, base.get? b = some o → s.heap.get? b = some o := fun b o e => (e0.bs b o e).1
  have KX : K.In s.heap := e0.mod.kin.keeps inH
  have slots : ∀ y ∈ ps.zip us, scope.names.lookup y.1 = some .local ∨ (scope.names.lookup y.1 = some .cell ∧ ((cellsFrom (s.heap.objs.size + 1) scope.names []).lookup y.1).isSome = true) := by
    intro y hy
    have hm : y.1 ∈ ps := (List.of_mem_zip (show (y.1, y.2) ∈ ps.zip us from hy)).1
    exact (Sc.par _ hm).imp id fun q => ⟨q, PySem.W.cellsFrom_some _ _ _ (.inl q)⟩
  refine codeAny_call_function hr.depth (KX _ _ lk) rfl Sc.co Sc.gen rfl (PySem.W.codeRec_of KX hcd) (bind _ _ _ _ (wpAny_newFunctionEnv_cells Sc.kind slots fun env he s1 ic => ?_))
  subst he
  refine ⟨(e0.mod.nolimit.keeps inH).keeps ic.toInCall.keep, codeAny_func ?_⟩
  obtain ⟨F, S, ds, aQ, aE, hc, rd, ha, hq, hx⟩ := hsp
  have body_ok := hb cdv A outer s H E ds S aQ aE (hr.deeper _) gd ha
  have hdl : ds.length ≤ N.length := by
    have e1 := congrArg List.length Sc.pre
    rw [List.length_take] at e1
    have e2 := rd.length
    omega
  have I0 := inv_start (CX := L2.CX P w) (E := E) (cd := cdv) (qual := qual) (f := f) Sc hr.hd e0 hl r ic
  have con : Con (cxOf (L2.CX P w) P w K mg base N qual scope f cdv A outer s H E) aE F (startG N ds) S (L2.start N vs) H :=
    ⟨.def_ Sc.nd gd, hc, rg_start rd hdl, ⟨E, takes_of rfl rfl rfl rfl, fun S' H' c d fl t h1 h2 h3 => hx S' H' c d fl t h1 h2 h3⟩⟩
  have done := body_ok F (L2.start N vs) H con { nx := fun _ H' => Q .non H', rt := Q } ⟨fun σ' H' Γ' S' t hc' _ q => hq _ _ _ _ t hc' .non q, hq, fun _ _ _ _ _ _ _ z => z, fun _ _ _ _ _ _ _ z => z⟩ [] s1 I0
  exact wpAny_mono done (fun fl s' hs => match fl, hs with
    | .ret u, ⟨v, σ', H', J, rv, q⟩ => ⟨v, H', J.os, J.bare, J.base, J.hok, rv, q⟩
    | .next, ⟨σ', H', J, q⟩ => ⟨V.non, H', J.os, J.bare, J.base, J.hok, rfl, q⟩
    | .brk, ⟨_, _, _, q⟩ => q.elim
    | .cont, ⟨_, _, _, q⟩ => q.elim) fun _ _ z => z

/-! ### calls -/
/-- the value u may be called with n values and the keywords ks, and keeps asp -/
def CanCall (P : Program) (w : World) (K : PySem.W.Frag) (mg : Str → Option Value) (base : Heap) (k : Nat) (u : Value) (n : Nat) (ks : List Str) (asp : List D → List D → Store → DQ → AX → Prop) : Prop :=
  ∀ X : Cx, X.prog = P → X.w = w → X.K = K → X.mg = mg → X.base = base → ∀ A' : Around, A'.frames = X.A.frames → Room k A' → A'.guards = some [] → ∀ (F : List Addr) (S : Store) (Ex : AX) (pins : List (Addr × Obj)) (σ : L2.St) (H : Hp) (s : Shared) (us ws : List Value) (vs zs : List V) (ds es : List D) (Q : DQ) (Q' : VK),
    Inv X pins σ H s → HC K F S H → XR X Ex F S H → Vals vs us → Vals zs ws → RepL K (vw F S H) ds vs → RepL K (vw F S H) es zs → ds.length = n → es.length = ks.length → asp ds es S Q Ex → QR K F S H Q Q' →
    wpAny (model X.prog X.w) A' (call u us (ks.zip ws)) (EP X pins σ Q') X.xe s
/-- the global name x stands for such a value -/
structure AC (P : Program) (w : World) (K : PySem.W.Frag) (mg : Str → Option Value) (base : Heap) (k : Nat) (x : Str) (n : Nat) (ks : List Str) (asp : List D → List D → Store → DQ → AX → Prop) : Prop where
  ex : ∃ u, mg x = some u ∧ PySem.W.keepIn K u = true ∧ CanCall P w K mg base k u n ks asp
/-- the method m of the class c -/
structure AM (P : Program) (w : World) (K : PySem.W.Frag) (mg : Str → Option Value) (base : Heap) (k : Nat) (c m : Str) (n : Nat) (ks : List Str) (asp : List D → List D → Store → DQ → AX → Prop) : Prop where
  ex : ∃ f, Cls K (He.ga K c) ∧ Meth K (He.ga K c) m f ∧ CanCall P w K mg base k (.ref f) (n + 1) ks asp
/-- how n values and the keywords ks come to the parameters -/
structure Bd (K : PySem.W.Frag) (fd : FuncData) (ps : List Str) (n : Nat) (ks : List Str) (gD : List D → List D → List D) : Prop where
  ex : ∃ (g : List Value → List Value → List Value) (gV : List V → List V → List V), (∀ (s : Shared) us ws, K.In s.heap → us.length = n → ws.length = ks.length → BindsTo s fd ⟨us, ks.zip ws⟩ (ps.zip (g us ws))) ∧
    (∀ {vs us zs ws}, Vals vs us → Vals zs ws → vs.length = n → zs.length = ks.length → Vals (gV vs zs) (g us ws)) ∧ ∀ {G ds vs es zs}, RepL K G ds vs → RepL K G es zs → ds.length = n → es.length = ks.length → RepL K G (gD ds es) (gV vs zs)
theorem bd_of {K fd ps n} (h : Binds K fd ps []) (hn : n = ps.length) : Bd K fd ps n [] (fun ds _ => ds) :=
  ⟨fun us _ => us, fun vs _ => vs, fun s us ws k l1 l2 => by
      have := h s us k (by simp [l1, hn])
      simpa using this, fun r _ _ _ => r, fun r _ _ _ => r⟩
section
variable {P : Program} {w : World} {K : PySem.W.Frag} {mg : Str → Option Value} {base : Heap} {k : Nat} {f : Addr} {fd : FuncData} {ps ks : List Str} {n : Nat} {asp : ASp} {gD : List D → List D → List D}
theorem env_at {X : Cx} {A' : Around} {pins : List (Addr × Obj)} {σ : L2.St} {H : Hp} {s : Shared} (I : Inv X pins σ H s) (fr : A'.frames = X.A.frames) : Env0 X.prog X.w X.K X.mg X.base A' X.stack s H := by
  have e := I.env0
  exact ⟨by rw [fr]; exact e.frames, e.mod, e.bs, e.bsz, e.funs, e.frf, e.hok, e.bare⟩
theorem can_fn (F : FnG P w K mg base k f fd ps (conc K asp)) (b : Bd K fd ps n ks gD) : CanCall P w K mg base k (.ref f) n ks (fun ds es => asp (gD ds es)) := by
  rintro X rfl rfl rfl rfl rfl A' fr hr gd F' S Ex pins σ H s us ws vs zs ds es Q Q' I hc xr r rz rd re l1 l2 ha hq
  obtain ⟨g, gV, b1, b2, b3⟩ := b.ex
  have m1 : vs.length = n := rd.length.symm.trans l1
  have m2 : zs.length = ks.length := re.length.symm.trans l2
  obtain ⟨E, tk, hE⟩ := xr.ex
  refine wpAny_call (codeAny_mono (F.run A' X.stack s H ⟨us, ks.zip ws⟩ (g us ws) (gV vs zs) Q' E gd hr (env_at I fr) (b1 s us ws I.kIn (r.length.symm.trans m1) (rz.length.symm.trans m2)) (b2 r rz m1 m2) ⟨F', S, gD ds es, Q, Ex, hc, b3 rd re l1 l2, ha, hq, fun S' H' c d fl t h1 h2 h3 => hE S' H' c d fl t h1 h2 h3⟩) ?_)
  intro res s' hres
  match res, hres with
  | .error e, hres => exact passes_call tk (fun _ _ _ _ h => h) pins σ H s e s' I hres
  | .ok (.ret u), hres => exact I.after hres
  | .ok .next, hres => exact hres.elim
  | .ok .brk, hres => exact hres.elim
  | .ok .cont, hres => exact hres.elim
/-- a class: a new instance, then its __init__ -/
theorem can_make {c : Str} {C : Addr} {sp : List D → List D → Store → DQ → AX → Prop} (M : Mk K C f) (ec : C = He.ga K c) (F : FnG P w K mg base k f fd ps (conc K asp)) (b : Bd K fd ps (n + 1) ks gD)
    (hsp : ∀ ds es S Q Ex, ds.length = n → es.length = ks.length → sp ds es S Q Ex → ∀ p, asp (gD (.ref p :: ds) es) (S ++ [(p, .ins c [])]) (fun d S2 => d = .non ∧ ((Q (.ref p) S2) ∨ ∃ fs S3, S2 = S3 ++ [(p, .ins c fs)] ∧ Q (.obj p c fs) S3)) Ex) :
    CanCall P w K mg base (k + 1) (.ref C) n ks sp := by
  rintro X rfl rfl rfl rfl rfl A' fr hr gd F' S Ex pins σ H s us ws vs zs ds es Q Q' I hc xr r rz rd re l1 l2 ha hq
  obtain ⟨g, gV, b1, b2, b3⟩ := b.ex
  obtain ⟨E, tk, hE⟩ := xr.ex
  obtain ⟨dx, hdx⟩ : ∃ d, d = s.heap.objs.size := ⟨_, rfl⟩
  obtain ⟨p, hp⟩ : ∃ d, d = dx + 1 := ⟨_, rfl⟩
  have nx : H p = none := I.hok.fresh (by rw [hp, hdx]; exact Nat.le_succ _)
  have nd : H dx = none := I.hok.fresh (by rw [hdx]; exact Nat.le_refl _)
  have ne : p ≠ dx := by rw [hp]; exact Nat.succ_ne_self _
  obtain ⟨c1, t1, _⟩ := hc.new (o := .own p) nd
  have np : upd H dx (.own p) p = none := by rw [upd_ne ne]; exact nx
  obtain ⟨c2, t2⟩ := c1.cell (c := .ins c []) (o := .ins C dx []) np ⟨dx, [], by rw [ec], .nil⟩
  have t := t1.trans t2
  have I2 := Inv.made (C := C) I
  have r1 : Vals (V.ref p :: vs) (Value.ref p :: us) := .cons rfl r
  have rd1 : RepL X.K (vw F' (S ++ [(p, Cell.ins c [])]) (upd (upd H dx (.own p)) p (.ins C dx []))) (.ref p :: ds) (V.ref p :: vs) := .cons .ref (rd.mono t.ext)
  have m1 : (V.ref p :: vs).length = n + 1 := congrArg Nat.succ (rd.length.symm.trans l1)
  have m2 : zs.length = ks.length := re.length.symm.trans l2
  have hA : (A'.under (.builtin "type.__call__" ⟨.ref C :: us, ks.zip ws⟩)).guards = some [] := by
    simp [Around.under, Code.guards, Code.isGuard, pushGuards, gd, guardIds]
  subst hp
  subst hdx
  refine wpAny_call (make_map (f := f) I.kIn M.makes M.init (beq_iff_eq.mp M.fn) (codeAny_mono (F.run (A'.under (.builtin "type.__call__" ⟨.ref C :: us, ks.zip ws⟩)) X.stack _ (upd (upd H s.heap.objs.size (HO.own (s.heap.objs.size + 1))) (s.heap.objs.size + 1) (.ins C s.heap.objs.size [])) ⟨Value.ref (s.heap.objs.size + 1) :: us, ks.zip ws⟩ (g (Value.ref (s.heap.objs.size + 1) :: us) ws) (gV (V.ref (s.heap.objs.size + 1) :: vs) zs)
    (fun v H2 => v = .non ∧ Q' (.ref (s.heap.objs.size + 1)) H2) E hA (hr.make C us (ks.zip ws)) ((env_at I2 fr).make C us (ks.zip ws)) (b1 _ _ _ I2.kIn (r1.length.symm.trans m1) (rz.length.symm.trans m2)) (b2 r1 rz m1 m2)
    ⟨F', S ++ [(s.heap.objs.size + 1, .ins c [])], gD (.ref (s.heap.objs.size + 1) :: ds) es, _, Ex, c2, b3 rd1 (re.mono t.ext) (congrArg Nat.succ l1) l2, hsp ds es S Q Ex l1 l2 ha _, ?_, fun S' H' c d fl u h1 h2 h3 => hE S' H' c d fl (t.trans u) h1 h2 h3⟩) ?_))
  · rintro v H' d S' u hc' rv ⟨ed, q⟩
    subst ed
    cases rv
    refine ⟨rfl, ?_⟩
    rcases q with q | ⟨fs, S3, e3, q⟩
    · exact hq _ _ _ _ (t.trans u) hc' .ref q
    · subst e3
      obtain ⟨f1, f2, f3⟩ := hc'.freeze
      obtain ⟨dx', vs', e4, r4⟩ := hc'.at_ _ (.ins c fs) (List.mem_append_right _ (List.mem_singleton.mpr rfl))
      exact hq _ _ _ _ ((t.trans u).trans f2) f1 (.obj (by rw [f3]; exact e4) (r4.mono f2.ext)) q
  · intro res s' hres
    match res, hres with
    | .error e, hres => exact passes_call tk (fun _ _ _ _ h => h) pins σ _ _ e s' I2 hres
    | .ok (.ret u), hres =>
      obtain ⟨v, H', I3, rv, ev, q3⟩ := I2.after hres
      subst ev
      exact ⟨rv, ⟨V.ref (s.heap.objs.size + 1), H', I3, rfl, q3⟩⟩
    | .ok .next, hres => exact hres.elim
    | .ok .brk, hres => exact hres.elim
    | .ok .cont, hres => exact hres.elim
end
end Fz
end

section
namespace Fz
open PySem PySem.Spec PyProof.Rows L2

/-! ### the forms of a call -/
def tSelfK (X : Cx) (kws : List Keyword) : TA := fun σ H Q => ∀ pos pins s, Inv X pins σ H s → wpAny (model X.prog X.w) X.A (evalAll ((backToKw pos (keywordEach kws X.env)).map (·.2))) (AP X pins σ Q) X.xe s
theorem pk_self {X kws} : PK X kws (tSelfK X kws) := ⟨fun pos pins s σ H Q I h => h pos pins s I⟩
def ZK (X : Cx) (Ex : AX) (kws : List Keyword) (Γ : Gam) (S : Store) (Q : LQ) : Prop := ∀ F σ H, Con X Ex F Γ S σ H → ∀ Q', QL X.K F S H Q Q' → tSelfK X kws σ H Q'
section
variable {X : Cx} {Ex : AX} {Γ : Gam} {S : Store} {Q : DQ} {a b o e value : Expr} {es : List Expr} {pos p apos pos' : Pos} {kws : List Keyword} {d : D} {x f m c : Str} {n k j : Nat} {ks : List Str} {DE : AEnds} {asp : List D → List D → Store → DQ → AX → Prop}
theorem zk_nil {Q : LQ} (q : Q [] S) : ZK X Ex [] Γ S Q := fun F σ H c Q' k pos pins s I => (pk_nil (X := X)).run pos pins s σ H Q' I (k _ _ _ _ .refl c.hc .nil q)
theorem zk_cons {nm kpos} {Q : LQ} (h : ZE X Ex e Γ S fun x S1 => ZK X Ex kws Γ S1 fun xs S2 => Q (x :: xs) S2) : ZK X Ex (⟨nm, e, kpos⟩ :: kws) Γ S Q := fun F σ H c Q' k pos pins s I =>
  (pk_cons (nm := nm) (kpos := kpos) (pe_self (e := e)) (pk_self (X := X) (kws := kws))).run pos pins s σ H Q' I (h F σ H c _ fun v H1 x S1 t1 c1 r1 h1 => h1 F σ H1 (c.step t1 c1) _ fun vs H2 xs S2 t2 c2 r2 h2 =>
    k _ _ _ _ (t1.trans t2) c2 (.cons (r1.mono t2.ext) r2) h2)
abbrev dbgOk (x : Str) : Prop := (x == ("__debug__" : Str)) = false
theorem ze_call (C : AC X.prog X.w X.K X.mg X.base k x n [] asp) (hr : Room j X.A) (hk : k ≤ j) (h : ZA X Ex (e :: es) Γ S fun ds S1 => ds.length = n ∧ asp ds [] S1 Q Ex) (hg : Gl X x := by rfl) (hdb : dbgOk x := by decide)
    (he : starEach (e :: es) X.env = (false, eval e X.env) :: starEach es X.env := by rfl) (hpl : (backTo pos (starEach es X.env)).any (·.1) = false := by rfl) : ZE X Ex (.Call (.Name x p) (e :: es) [] pos) Γ S Q := fun F σ H co Q' kq pins s I => by
  obtain ⟨u, hm, hkp, cc⟩ := C.ex
  exact wpAny_Call_Name_kw (ld_glob I hg hm (PySem.W.callWith_K (h₀ := X.base) I.ok.mod.kin hkp (thn (h F σ H co _ (fun vs H1 ds S1 t hc r q => (⟨S1, ds, t, hc, r, q⟩ : ∃ S1 ds, Stp F S H S1 H1 ∧ HC X.K F S1 H1 ∧ RepL X.K (vw F S1 H1) ds vs ∧ ds.length = n ∧ asp ds [] S1 Q Ex)) pos pins s I)
    fun us s1 ⟨vs, H1, I1, rv, S1, ds, t, hc, r, l, q⟩ => ⟨I1.kIn, cc X rfl rfl rfl rfl rfl X.A rfl (hr.mono hk) co.ok.gd F S1 Ex pins σ H1 s1 us [] vs [] ds [] Q Q' I1 hc (co.xr.step t) rv .nil r .nil l rfl q (kq.step t)⟩) he hpl) hdb)
theorem ze_call0 (C : AC X.prog X.w X.K X.mg X.base k x 0 [] asp) (hr : Room j X.A) (hk : k ≤ j) (h : asp [] [] S Q Ex) (hg : Gl X x := by rfl) (hdb : dbgOk x := by decide) : ZE X Ex (.Call (.Name x p) [] [] pos) Γ S Q := fun F σ H co Q' kq pins s I => by
  obtain ⟨u, hm, hkp, cc⟩ := C.ex
  exact wpAny_Call_Name_kw (ld_glob I hg hm (PySem.W.callWith_K0 I.kIn hkp (cc X rfl rfl rfl rfl rfl X.A rfl (hr.mono hk) co.ok.gd F S Ex pins σ H s [] [] [] [] [] [] Q Q' I co.hc co.xr .nil .nil .nil .nil rfl rfl h kq)) hdb)
/-- f(.., k = v) -/
theorem ze_callK (C : AC X.prog X.w X.K X.mg X.base k x n ks asp) (hr : Room j X.A) (hk : k ≤ j) (h : ZA X Ex (e :: es) Γ S fun ds S1 => ZK X Ex kws Γ S1 fun zs S2 => ds.length = n ∧ zs.length = ks.length ∧ asp ds zs S2 Q Ex) (hg : Gl X x := by rfl) (hdb : dbgOk x := by decide)
    (hall : (backToKw pos (keywordEach kws X.env)).all (·.1.isSome) = true := by rfl) (hks : (backToKw pos (keywordEach kws X.env)).filterMap (·.1) = ks := by rfl)
    (he : starEach (e :: es) X.env = (false, eval e X.env) :: starEach es X.env := by rfl) (hpl : ((backTo pos (starEach (e :: es) X.env)).any (·.1) || (backToKw pos (keywordEach kws X.env)).any (·.1.isNone)) = false := by rfl) : ZE X Ex (.Call (.Name x p) (e :: es) kws pos) Γ S Q := fun F σ H co Q' kq pins s I => by
  obtain ⟨u, hm, hkp, cc⟩ := C.ex
  refine wpAny_Call_Name_kw (ld_glob I hg hm (PySem.W.callWith_KW (h₀ := X.base) I.ok.mod.kin hkp hall (thn (h F σ H co _ (fun vs H1 ds S1 t hc r q => (⟨S1, ds, t, hc, r, q⟩ : ∃ S1 ds, Stp F S H S1 H1 ∧ HC X.K F S1 H1 ∧ RepL X.K (vw F S1 H1) ds vs ∧ ZK X Ex kws Γ S1 fun zs S2 => ds.length = n ∧ zs.length = ks.length ∧ asp ds zs S2 Q Ex)) pos pins s I)
    fun us s1 ⟨vs, H1, I1, rv, S1, ds, t, hc, r, q⟩ => thn (q F σ H1 (co.step t hc) _ (fun zs H2 es S2 t2 hc2 r2 q2 => (⟨S2, es, t2, hc2, r2, q2⟩ : ∃ S2 es, Stp F S1 H1 S2 H2 ∧ HC X.K F S2 H2 ∧ RepL X.K (vw F S2 H2) es zs ∧ ds.length = n ∧ es.length = ks.length ∧ asp ds es S2 Q Ex)) pos pins s1 I1)
      fun ws s2 ⟨zs, H2, I2, rz, S2, es, t2, hc2, r2, l1, l2, q2⟩ => ⟨I2.kIn, ?_⟩) hpl he) hdb)
  rw [hks]
  exact cc X rfl rfl rfl rfl rfl X.A rfl (hr.mono hk) co.ok.gd F S2 Ex pins σ H2 s2 us ws vs zs ds es Q Q' I2 hc2 (co.xr.step (t.trans t2)) rv rz (r.mono t2.ext) r2 l1 l2 q2 (kq.step (t.trans t2))
/-- f(k = v, ..) -/
theorem ze_callK0 (C : AC X.prog X.w X.K X.mg X.base k x 0 ks asp) (hr : Room j X.A) (hk : k ≤ j) (h : ZK X Ex kws Γ S fun zs S2 => zs.length = ks.length ∧ asp [] zs S2 Q Ex) (hg : Gl X x := by rfl) (hdb : dbgOk x := by decide)
    (hall : (backToKw pos (keywordEach kws X.env)).all (·.1.isSome) = true := by rfl) (hks : (backToKw pos (keywordEach kws X.env)).filterMap (·.1) = ks := by rfl)
    (hpl : ((backTo pos (starEach [] X.env)).any (·.1) || (backToKw pos (keywordEach kws X.env)).any (·.1.isNone)) = false := by rfl) : ZE X Ex (.Call (.Name x p) [] kws pos) Γ S Q := fun F σ H co Q' kq pins s I => by
  obtain ⟨u, hm, hkp, cc⟩ := C.ex
  refine wpAny_Call_Name_kw (ld_glob I hg hm (PySem.W.callWith_KW0 (h₀ := X.base) I.ok.mod.kin hkp hall (thn (h F σ H co _ (fun zs H2 es S2 t2 hc2 r2 q2 => (⟨S2, es, t2, hc2, r2, q2⟩ : ∃ S2 es, Stp F S H S2 H2 ∧ HC X.K F S2 H2 ∧ RepL X.K (vw F S2 H2) es zs ∧ es.length = ks.length ∧ asp [] es S2 Q Ex)) pos pins s I)
      fun ws s2 ⟨zs, H2, I2, rz, S2, es, t2, hc2, r2, l2, q2⟩ => ⟨I2.kIn, ?_⟩) hpl) hdb)
  rw [hks]
  exact cc X rfl rfl rfl rfl rfl X.A rfl (hr.mono hk) co.ok.gd F S2 Ex pins σ H2 s2 [] ws [] zs [] es Q Q' I2 hc2 (co.xr.step t2) .nil rz .nil r2 rfl l2 q2 (kq.step t2)
/-! ### methods, attributes -/
def isInsD (S : Store) (c : Str) : D → Prop
  | .obj _ c' _ => c' = c
  | .ref p => ∃ (k : Nat) (fs : List (Str × D)), S[k]? = some (p, Cell.ins c fs)
  | _ => False
/-- the class has the method, and no instance at hand hides it -/
def noFieldD (S : Store) (c m : Str) : D → Prop
  | .obj _ _ gs => gs.lookup m = none
  | .ref p => ∃ (k : Nat) (gs : List (Str × D)), S[k]? = some (p, Cell.ins c gs) ∧ gs.lookup m = none
  | _ => False
theorem ins_at {K F S H} {d : D} {v : V} (hc : HC K F S H) (r : Rep K (vw F S H) d v) (h : isInsD S c d) : ∃ a dx fs, v = .ref a ∧ H a = some (.ins (He.ga K c) dx fs) ∧ ∀ f : Str, noFieldD S c f d → fs.lookup f = none := by
  cases r with
  | obj e rf =>
    have h' := h
    unfold isInsD at h'
    subst h'
    exact ⟨_, _, _, rfl, hd_sub _ _ e, fun f hf => rf.none hf⟩
  | ref =>
    obtain ⟨k, fs, hk⟩ := h
    obtain ⟨dx, vs, e, rf⟩ := hc.get hk
    refine ⟨_, dx, vs, rfl, e, fun f ⟨k2, gs, hk2, hn⟩ => ?_⟩
    obtain ⟨dx2, vs2, e2, rf2⟩ := hc.get hk2
    rw [e] at e2
    cases e2
    exact rf2.none hn
  | _ => exact h.elim
theorem ze_meth0 {pl : Sem Bool} (C : AM X.prog X.w X.K X.mg X.base k c m 0 [] asp) (hr : Room j X.A) (hk : k ≤ j) (h : ZE X Ex o Γ S fun d S1 => isInsD S1 c d ∧ noFieldD S1 c m d ∧ asp [d] [] S1 Q Ex)
    (ht : eval (.Call (.Attribute o m apos) [] [] pos) X.env = (do
      let r ← eval o X.env
      standAt apos.atName
      let (g, self) ← holding [r] (getMethod r m pl)
      callWith pos g self (backTo pos (starEach [] X.env)) (backToKw pos (keywordEach [] X.env))) := by rfl) : ZE X Ex (.Call (.Attribute o m apos) [] [] pos) Γ S Q := fun F σ H co Q' kq pins s I => by
  obtain ⟨g, cl, me, cc⟩ := C.ex
  refine PySem.W.methodCall_KW (pl := pl) (thn (h F σ H co _ (fun v H1 d S1 t hc r q => (⟨S1, d, t, hc, r, q⟩ : ∃ S1 d, Stp F S H S1 H1 ∧ HC X.K F S1 H1 ∧ Rep X.K (vw F S1 H1) d v ∧ isInsD S1 c d ∧ noFieldD S1 c m d ∧ asp [d] [] S1 Q Ex)) pins s I)
    fun u s1 ⟨v, H1, I1, rv, S1, d, t, hc, r, q1, q2, q3⟩ => ?_) ht
  obtain ⟨a, dx, fs, ev, ea, nf⟩ := ins_at hc r q1
  subst ev
  cases rv
  exact getmeth_ok I1 ea cl me (nf m q2) (PySem.W.callWith_K0 (first := [.ref a]) I1.kIn me.kp (cc X rfl rfl rfl rfl rfl X.A rfl (hr.mono hk) co.ok.gd F S1 Ex pins σ H1 s1 [.ref a] [] [.ref a] [] [d] [] Q Q' I1 hc (co.xr.step t) (.cons rfl .nil) .nil (.cons r .nil) .nil rfl rfl q3 (kq.step t)))
theorem ze_meth {pl : Sem Bool} (C : AM X.prog X.w X.K X.mg X.base k c m n [] asp) (hr : Room j X.A) (hk : k ≤ j) (h : ZE X Ex o Γ S fun d S1 => isInsD S1 c d ∧ noFieldD S1 c m d ∧ ZA X Ex (e :: es) Γ S1 fun ds S2 => ds.length = n ∧ asp (d :: ds) [] S2 Q Ex)
    (hst : starEach (e :: es) X.env = (false, eval e X.env) :: starEach es X.env := by rfl) (hpl : (backTo pos (starEach es X.env)).any (·.1) = false := by rfl)
    (ht : eval (.Call (.Attribute o m apos) (e :: es) [] pos) X.env = (do
      let r ← eval o X.env
      standAt apos.atName
      let (g, self) ← holding [r] (getMethod r m pl)
      callWith pos g self (backTo pos (starEach (e :: es) X.env)) (backToKw pos (keywordEach [] X.env))) := by rfl) : ZE X Ex (.Call (.Attribute o m apos) (e :: es) [] pos) Γ S Q := fun F σ H co Q' kq pins s I => by
  obtain ⟨g, cl, me, cc⟩ := C.ex
  refine PySem.W.methodCall_KW (pl := pl) (thn (h F σ H co _ (fun v H1 d S1 t hc r q => (⟨S1, d, t, hc, r, q⟩ : ∃ S1 d, Stp F S H S1 H1 ∧ HC X.K F S1 H1 ∧ Rep X.K (vw F S1 H1) d v ∧ isInsD S1 c d ∧ noFieldD S1 c m d ∧ ZA X Ex (e :: es) Γ S1 fun ds S2 => ds.length = n ∧ asp (d :: ds) [] S2 Q Ex)) pins s I)
    fun u s1 ⟨v, H1, I1, rv, S1, d, t, hc, r, q1, q2, q3⟩ => ?_) ht
  obtain ⟨a, dx, fs, ev, ea, nf⟩ := ins_at hc r q1
  subst ev
  cases rv
  exact getmeth_ok I1 ea cl me (nf m q2) (PySem.W.callWith_K (first := [.ref a]) (h₀ := X.base) I.ok.mod.kin me.kp (thn (q3 F σ H1 (co.step t hc) _ (fun vs H2 ds S2 t2 hc2 r2 q => (⟨S2, ds, t2, hc2, r2, q⟩ : ∃ S2 ds, Stp F S1 H1 S2 H2 ∧ HC X.K F S2 H2 ∧ RepL X.K (vw F S2 H2) ds vs ∧ ds.length = n ∧ asp (d :: ds) [] S2 Q Ex)) pos pins s1 I1)
    fun us s2 ⟨vs, H2, I2, rvs, S2, ds, t2, hc2, r2, l, q⟩ => ⟨I2.kIn, cc X rfl rfl rfl rfl rfl X.A rfl (hr.mono hk) co.ok.gd F S2 Ex pins σ H2 s2 (.ref a :: us) [] (.ref a :: vs) [] (d :: ds) [] Q Q' I2 hc2 (co.xr.step (t.trans t2)) (.cons rfl rvs) .nil (.cons (r.mono t2.ext) r2) .nil (congrArg Nat.succ l) rfl q (kq.step (t.trans t2))⟩) hst hpl)
/-- the class c has instances with plain attributes; f is no attribute of the class -/
structure Fld (K : PySem.W.Frag) (c f : Str) : Prop where
  cl : Cls K (He.ga K c)
  no : NoAttr K (He.ga K c) f
def fldD (S : Store) (c f : Str) (d : D) (Q : DQ) : Prop := (∃ a fs y, d = .obj a c fs ∧ fs.lookup f = some y ∧ Q y S) ∨ ∃ (p : Addr) (i : Nat) (fs : List (Str × D)) (y : D), d = .ref p ∧ S[i]? = some (p, Cell.ins c fs) ∧ fs.lookup f = some y ∧ Q y S
theorem ze_fld (hf : Fld X.K c f) (h : ZE X Ex o Γ S fun d S1 => fldD S1 c f d Q) (hb : attributeBase o f X.env (eval o X.env) = eval o X.env := by rfl) : ZE X Ex (.Attribute o f pos) Γ S Q :=
  ze_of (pe_fld pe_self hb) fun F σ H co Q' k => h F σ H co _ fun v H1 d S1 t hc r q => by
    rcases q with ⟨a, fs, y, e, l, q⟩ | ⟨p, i, fs, y, e, hi, l, q⟩
    · subst e
      cases r with
      | obj eo rf =>
        obtain ⟨u, l1, ru⟩ := rf.look l
        exact ⟨_, _, _, _, u, rfl, hd_sub _ _ eo, hf.cl, hf.no, l1, k _ _ _ _ t hc ru q⟩
    · subst e
      cases r
      obtain ⟨dx, vs, eo, rf⟩ := hc.get hi
      obtain ⟨u, l1, ru⟩ := rf.look l
      exact ⟨_, _, _, _, u, rfl, eo, hf.cl, hf.no, l1, k _ _ _ _ t hc ru q⟩
theorem zv_fld {a : Addr} {fs : List (Str × D)} (hf : Fld X.K c f) (h : ZV X o Γ S (.obj a c fs)) (l : fs.lookup f = some d) (hb : attributeBase o f X.env (eval o X.env) = eval o X.env := by rfl) : ZV X (.Attribute o f pos) Γ S d := fun Ex Q q =>
  ze_fld hf (h.ze (.inl ⟨a, fs, d, rfl, l, q⟩)) hb
theorem zv_fldM {p : Addr} {i : Nat} {fs : List (Str × D)} (hf : Fld X.K c f) (h : ZV X o Γ S (.ref p)) (hi : S[i]? = some (p, Cell.ins c fs)) (l : fs.lookup f = some d) (hb : attributeBase o f X.env (eval o X.env) = eval o X.env := by rfl) : ZV X (.Attribute o f pos) Γ S d := fun Ex Q q =>
  ze_fld hf (h.ze (.inr ⟨p, i, fs, d, rfl, hi, l, q⟩)) hb
theorem lk0 {d : D} {fs : List (Str × D)} : List.lookup f ((f, d) :: fs) = some d := by rw [List.lookup_cons, beq_self_eq_true]
theorem lk1 {d d' : D} {g : Str} {fs : List (Str × D)} (h : (f == g) = false) (l : List.lookup f fs = some d) : List.lookup f ((g, d') :: fs) = some d := by rw [List.lookup_cons, h]; exact l
theorem lkN {d' : D} {g : Str} {fs : List (Str × D)} (h : (f == g) = false) (l : List.lookup f fs = none) : List.lookup f ((g, d') :: fs) = none := by rw [List.lookup_cons, h]; exact l
def putG (f : Str) (d : D) : List (Str × D) → List (Str × D)
  | [] => [(f, d)]
  | (g, y) :: r => if g = f then (f, d) :: r else (g, y) :: putG f d r
end
end Fz
end

section
namespace Fz
open PySem PySem.Spec PyProof.Rows L2

/-! ### equality of data -/
mutual
def deq : D → D → Bool
  | .non, .non => true
  | .bl a, .bl b => a == b
  | .bl a, .int b => (if a then 1 else 0) == b
  | .int a, .bl b => a == (if b then 1 else 0)
  | .int a, .int b => a == b
  | .str a, .str b => a == b
  | .tup a, .tup b => deqs a b
  | .lst a, .lst b => deqs a b
  | _, _ => false
def deqs : List D → List D → Bool
  | [], [] => true
  | x :: xs, y :: ys => deq x y && deqs xs ys
  | _, _ => false
end
mutual
/-- plain data, at most so deep -/
def dat : D → Nat → Bool
  | .non, _ => true
  | .bl _, _ => true
  | .int _, _ => true
  | .str _, _ => true
  | .tup ds, n + 1 => dats ds n
  | .lst ds, n + 1 => dats ds n
  | _, _ => false
def dats : List D → Nat → Bool
  | [], _ => true
  | x :: xs, n => dat x n && dats xs n
end
theorem dats_get : ∀ {ds : List D} {n i : Nat} {d : D}, dats ds n = true → ds[i]? = some d → dat d n = true
  | [], _, _, _, _, e => by simp at e
  | x :: xs, n, 0, d, h, e => by
    simp at e; subst e
    unfold dats at h
    exact (Bool.and_eq_true_iff.mp h).1
  | x :: xs, n, i + 1, d, h, e => by
    unfold dats at h
    exact dats_get (Bool.and_eq_true_iff.mp h).2 (by simpa using e)
theorem dats_of {ds : List D} {n : Nat} (h : ∀ d ∈ ds, dat d n = true) : dats ds n = true := by
  induction ds with
  | nil => unfold dats; rfl
  | cons x xs ih =>
    unfold dats
    rw [h x (List.mem_cons_self ..), ih fun d hd => h d (List.mem_cons_of_mem _ hd)]; rfl
theorem deqs_all : ∀ {xs ys : List D}, deqs xs ys = ((List.range (min xs.length ys.length)).all (fun i => deq (xs.getD i .non) (ys.getD i .non)) && xs.length == ys.length)
  | [], [] => by unfold deqs; rfl
  | [], _ :: _ => by unfold deqs; rfl
  | _ :: _, [] => by unfold deqs; rfl
  | x :: xs, y :: ys => by
    unfold deqs
    rw [deqs_all, List.length_cons, List.length_cons, Nat.succ_min_succ, List.range_succ_eq_map, List.all_cons, List.all_map]
    have e : ((xs.length + 1 == ys.length + 1) : Bool) = (xs.length == ys.length) := by
      by_cases q : xs.length = ys.length
      · simp [q]
      · have : ¬ xs.length + 1 = ys.length + 1 := by omega
        simp [q]
    rw [e, Bool.and_assoc]
    congr 1
theorem strz {a b : List Nat} : ((⟨a.toArray⟩ : Str) == ⟨b.toArray⟩) = (a == b) := by
  rw [Bool.eq_iff_iff]
  simp only [beq_iff_eq]
  exact ⟨fun h => by simpa using congrArg (fun x : Str => x.cps.toList) h, fun h => by rw [h]⟩
section
variable {X : Cx} {pins : List (Addr × Obj)} {σ : L2.St} {H G : Hp} {s : Shared}
theorem rep_str_inv {K} {d : D} {z : Str} (r : Rep K G d (.str z)) : ∃ y, d = .str y ∧ z = ⟨y.toArray⟩ := by
  cases r; exact ⟨_, rfl, rfl⟩
theorem not_both {a : Addr} {xs ys : List V} (I : Inv X pins σ H s) (h : SqT X.K H a xs) (h2 : H a = some (.lst ys)) : False := by
  obtain ⟨its, _, ⟨o, e1, c1, _⟩, _⟩ := I.tuple h
  obtain ⟨its2, _, ⟨o2, _, e2, c2, _⟩, _⟩ := I.list (SqL.of (K := X.K) h2)
  rw [e1] at e2
  have e3 := Option.some.inj e2
  rw [← e3, c1] at c2
  injection c2 with c3
  exact absurd c3 (by decide)
theorem bl_beq_refl (a : Bool) : (a == a) = true := by cases a <;> rfl
mutual
theorem rep_same (I : Inv X pins σ H s) (sb : Sub G H) : ∀ {d e : D} {v : V} {n : Nat}, Rep X.K G d v → Rep X.K G e v → dat d n = true → dat e n = true → deq d e = true
  | _, _, _, _, .non, r, _, _ => by cases r; unfold deq; rfl
  | _, _, _, _, .bl, r, _, _ => by cases r; unfold deq; exact bl_beq_refl _
  | _, _, _, _, .int, r, _, _ => by cases r; unfold deq; simp
  | _, _, _, _, .str (x := x) _, r, _, _ => by
    obtain ⟨y, rfl, h⟩ := rep_str_inv r
    have e : x = y := by simpa using congrArg (fun x : Str => x.cps.toList) h
    subst e
    unfold deq; simp
  | _, _, _, n, .tup h r, r2, d1, d2 => by
    cases r2 with
    | tup h2 r3 =>
      have e := I.tuple_inj (Sub.st sb h) (Sub.st sb h2)
      subst e
      cases n with
      | zero => cases d1
      | succ n =>
        unfold dat at d1 d2
        unfold deq
        exact reps_same I sb r r3 d1 d2
    | lst h2 r3 => exact (not_both I (Sub.st sb h) (sb _ _ h2)).elim
    | _ => cases n <;> cases d2
  | _, _, _, n, .lst h r, r2, d1, d2 => by
    cases r2 with
    | lst h2 r3 =>
      rw [h] at h2; cases h2
      cases n with
      | zero => cases d1
      | succ n =>
        unfold dat at d1 d2
        unfold deq
        exact reps_same I sb r r3 d1 d2
    | tup h2 r3 => exact (not_both I (Sub.st sb h2) (sb _ _ h)).elim
    | _ => cases n <;> cases d2
  | _, _, _, n, .ref, _, d1, _ => by cases n <;> cases d1
  | _, _, _, n, .scr _, _, d1, _ => by cases n <;> cases d1
  | _, _, _, n, .obj _ _, _, d1, _ => by cases n <;> cases d1
  | _, _, _, n, .dk _ _, _, d1, _ => by cases n <;> cases d1
  | _, _, _, n, .dt _ _, _, d1, _ => by cases n <;> cases d1
theorem reps_same (I : Inv X pins σ H s) (sb : Sub G H) : ∀ {ds es : List D} {vs : List V} {n : Nat}, RepL X.K G ds vs → RepL X.K G es vs → dats ds n = true → dats es n = true → deqs ds es = true
  | _, _, _, _, .nil, r, _, _ => by cases r; unfold deqs; rfl
  | _, _, _, _, .cons h r, r2, d1, d2 => by
    cases r2 with
    | cons h2 r3 =>
      unfold dats at d1 d2
      obtain ⟨a1, a2⟩ := Bool.and_eq_true_iff.mp d1
      obtain ⟨b1, b2⟩ := Bool.and_eq_true_iff.mp d2
      unfold deqs
      rw [rep_same I sb h h2 a1 b1, reps_same I sb r r3 a2 b2]; rfl
end
theorem getD_of {α : Type} {l : List α} {i : Nat} {x d : α} (h : l[i]? = some x) : l.getD i d = x := by rw [List.getD_eq_getElem?_getD, h]; rfl
/-- None, a truth, a number, a text -/
def flatD : D → Bool
  | .non => true
  | .bl _ => true
  | .int _ => true
  | .str _ => true
  | _ => false
theorem flat_eq {K} {d e : D} {v w : V} (r1 : Rep K G d v) (r2 : Rep K G e w) (f1 : flatD d = true) (f2 : flatD e = true) : flatV v = true ∧ flatV w = true ∧ eqV v w = deq d e := by
  cases r1 <;> first
    | (cases f1; done)
    | (cases r2 <;> first
        | (cases f2; done)
        | (refine ⟨rfl, rfl, ?_⟩; unfold eqV deq; first | rfl | exact strz))
theorem dat_kind {d : D} {n : Nat} (h : dat d n = true) : flatD d = true ∨ ∃ m, n = m + 1 ∧ ((∃ ds, d = .tup ds ∧ dats ds m = true) ∨ ∃ ds, d = .lst ds ∧ dats ds m = true) := by
  cases d <;> cases n <;> first
    | (left; rfl)
    | (unfold dat at h; cases h; done)
    | (unfold dat at h; exact .inr ⟨_, rfl, .inl ⟨_, rfl, h⟩⟩)
    | (unfold dat at h; exact .inr ⟨_, rfl, .inr ⟨_, rfl, h⟩⟩)
open SeqAt in
theorem flat_tup {A : Around} {d : D} {v : V} {a : Value} {l : Addr} {items : Array Value} (hl : s.heap.IsTuple l items) (hu : A.units < cLine) (f : flatD d = true) (r : Rep X.K G d v) (q : L2.RelV v a) : EqAt A s (.ref l) a false ∧ EqAt A s a (.ref l) false := by
  cases r <;> first
    | (cases f; done)
    | skip
  · cases q; exact ⟨EqAt.tuple_none hl hu, EqAt.none_tuple hl hu⟩
  · cases q; exact ⟨EqAt.tuple_bool _ hl hu, EqAt.bool_tuple _ hl hu⟩
  · obtain ⟨t, rfl⟩ := q; exact ⟨EqAt.tuple_int _ _ hl hu, EqAt.int_tuple _ _ hl hu⟩
  · obtain ⟨t, rfl⟩ := q; exact ⟨EqAt.tuple_str _ _ hl hu, EqAt.str_tuple _ _ hl hu⟩
open SeqAt in
theorem flat_lst {A : Around} {d : D} {v : V} {a : Value} {l : Addr} {items : Array Value} (hl : s.heap.IsList l items) (hu : A.units < cLine) (f : flatD d = true) (r : Rep X.K G d v) (q : L2.RelV v a) : EqAt A s (.ref l) a false ∧ EqAt A s a (.ref l) false := by
  cases r <;> first
    | (cases f; done)
    | skip
  · cases q; exact ⟨EqAt.list_none hl hu, EqAt.none_list hl hu⟩
  · cases q; exact ⟨EqAt.list_bool _ hl hu, EqAt.bool_list _ hl hu⟩
  · obtain ⟨t, rfl⟩ := q; exact ⟨EqAt.list_int _ _ hl hu, EqAt.int_list _ _ hl hu⟩
  · obtain ⟨t, rfl⟩ := q; exact ⟨EqAt.list_str _ _ hl hu, EqAt.str_list _ _ hl hu⟩
theorem deq_flat_tup {d : D} {ds : List D} (f : flatD d = true) : deq d (.tup ds) = false ∧ deq (.tup ds) d = false := by
  cases d <;> first
    | (cases f; done)
    | exact ⟨by unfold deq; rfl, by unfold deq; rfl⟩
theorem deq_flat_lst {d : D} {ds : List D} (f : flatD d = true) : deq d (.lst ds) = false ∧ deq (.lst ds) d = false := by
  cases d <;> first
    | (cases f; done)
    | exact ⟨by unfold deq; rfl, by unfold deq; rfl⟩
theorem items_of {K} {ds : List D} {xs : List V} {its : List Value} (r : RepL K G ds xs) (rv : Vals xs its) : its.toArray.size = ds.length ∧ ∀ (j : Nat) (h : j < its.toArray.size), ∃ d v, ds[j]? = some d ∧ Rep K G d v ∧ L2.RelV v its.toArray[j] := by
  have e1 : its.toArray.size = ds.length := by simp [r.length, rv.length]
  refine ⟨e1, fun j h => ?_⟩
  have hj : j < ds.length := by rw [← e1]; exact h
  have e2 : ds[j]? = some ds[j] := by simp [hj]
  obtain ⟨v, v1, v2⟩ := r.get e2
  obtain ⟨u, u1, u2⟩ := rv.get v1
  refine ⟨_, v, e2, v2, ?_⟩
  have e3 : its.toArray[j] = u := by
    have := List.getElem?_eq_some_iff.mp u1
    obtain ⟨h3, h4⟩ := this
    simpa using h4
  rw [e3]; exact u2
open SeqAt in
theorem eq_at (I : Inv X pins σ H s) (sb : Sub G H) : ∀ (n : Nat) {d e : D} {v w : V} {a b : Value} {A : Around}, A.units + n < cLine → Rep X.K G d v → Rep X.K G e w → L2.RelV v a → L2.RelV w b → dat d n = true → dat e n = true → EqAt A s a b (deq d e) := by
  intro n
  induction n with
  | zero =>
    intro d e v w a b A hu r1 r2 q1 q2 d1 d2
    have f1 : flatD d = true := (dat_kind d1).elim id fun ⟨_, z, _⟩ => by cases z
    have f2 : flatD e = true := (dat_kind d2).elim id fun ⟨_, z, _⟩ => by cases z
    obtain ⟨g1, g2, g3⟩ := flat_eq r1 r2 f1 f2
    rw [← g3]
    exact eqAt_V q1 q2 g1 g2
  | succ n ih =>
    intro d e v w a b A hu r1 r2 q1 q2 d1 d2
    have hu0 : A.units < cLine := by omega
    have hu1 : A.in1.units + n < cLine := by show A.units + 1 + n < cLine; omega
    have each : ∀ {ds es : List D} {xs ys : List V} {its its2 : List Value}, RepL X.K G ds xs → RepL X.K G es ys → Vals xs its → Vals ys its2 → dats ds n = true → dats es n = true →
        ∀ (j : Nat) (h1 : j < its.toArray.size) (h2 : j < its2.toArray.size), EqAt A.in1 s its.toArray[j] its2.toArray[j] (deq (ds.getD j .non) (es.getD j .non)) := by
      intro ds es xs ys its its2 ra rb va vb da db j h1 h2
      obtain ⟨_, k1⟩ := items_of ra va
      obtain ⟨_, k2⟩ := items_of rb vb
      obtain ⟨x, vx, x1, x2, x3⟩ := k1 j h1
      obtain ⟨y, vy, y1, y2, y3⟩ := k2 j h2
      rw [getD_of x1, getD_of y1]
      exact ih hu1 x2 y2 x3 y3 (dats_get da x1) (dats_get db y1)
    rcases dat_kind d1 with f1 | ⟨m, em, k1⟩
    · rcases dat_kind d2 with f2 | ⟨m2, em2, k2⟩
      · obtain ⟨g1, g2, g3⟩ := flat_eq r1 r2 f1 f2
        rw [← g3]
        exact eqAt_V q1 q2 g1 g2
      · rcases k2 with ⟨es, e2, _⟩ | ⟨es, e2, _⟩ <;> subst e2
        · cases r2 with
          | tup h rr =>
            cases q2
            obtain ⟨its, _, p, _⟩ := I.tuple (Sub.st sb h)
            rw [(deq_flat_tup f1).1]
            exact (flat_tup (X := X) (show s.heap.IsTuple _ its.toArray from p) hu0 f1 r1 q1).2
        · cases r2 with
          | lst h rr =>
            cases q2
            obtain ⟨its, _, p, _⟩ := I.list (SqL.of (K := X.K) (sb _ _ h))
            rw [(deq_flat_lst f1).1]
            exact (flat_lst (X := X) p.isList hu0 f1 r1 q1).2
    · have em' : m = n := by omega
      subst em'
      rcases dat_kind d2 with f2 | ⟨m2, em2, k2⟩
      · rcases k1 with ⟨es, e2, _⟩ | ⟨es, e2, _⟩ <;> subst e2
        · cases r1 with
          | tup h rr =>
            cases q1
            obtain ⟨its, _, p, _⟩ := I.tuple (Sub.st sb h)
            rw [(deq_flat_tup f2).2]
            exact (flat_tup (X := X) (show s.heap.IsTuple _ its.toArray from p) hu0 f2 r2 q2).1
        · cases r1 with
          | lst h rr =>
            cases q1
            obtain ⟨its, _, p, _⟩ := I.list (SqL.of (K := X.K) (sb _ _ h))
            rw [(deq_flat_lst f2).2]
            exact (flat_lst (X := X) p.isList hu0 f2 r2 q2).1
      · have em' : m2 = m := by omega
        subst em'
        have same : ∀ {l l2 : Addr}, v = .ref l → w = .ref l2 → l = l2 → EqAt A s (.ref l) (.ref l2) (deq d e) := fun {l l2} e1 e2 e3 => by
          subst e1 e2 e3
          rw [rep_same I sb r1 r2 d1 d2]
          exact EqAt.same _
        rcases k1 with ⟨ds, e1, da⟩ | ⟨ds, e1, da⟩ <;> subst e1 <;> rcases k2 with ⟨es, e2, db⟩ | ⟨es, e2, db⟩ <;> subst e2
        · have r1' := r1
          have r2' := r2
          cases r1' with
          | @tup _ l xs h rr =>
            cases r2' with
            | @tup _ l2 ys h2 rr2 =>
              cases q1; cases q2
              by_cases c : l = l2
              · exact same rfl rfl c
              · obtain ⟨its, va, p, _⟩ := I.tuple (Sub.st sb h)
                obtain ⟨its2, vb, p2, _⟩ := I.tuple (Sub.st sb h2)
                refine EqAt.of_refs c ?_
                have z := RcAt.tuples (A := A) (show s.heap.IsTuple l its.toArray from p) (show s.heap.IsTuple l2 its2.toArray from p2) hu0 (each rr rr2 va vb da db)
                unfold deq
                rw [deqs_all]
                rw [(items_of rr va).1, (items_of rr2 vb).1] at z
                exact z
        · cases r1 with
          | tup h rr =>
            cases r2 with
            | lst h2 rr2 =>
              cases q1; cases q2
              obtain ⟨its, va, p, _⟩ := I.tuple (Sub.st sb h)
              obtain ⟨its2, vb, p2, _⟩ := I.list (SqL.of (K := X.K) (sb _ _ h2))
              have z := EqAt.tuple_list (A := A) (show s.heap.IsTuple _ its.toArray from p) p2.isList hu0
              unfold deq
              exact z
        · cases r1 with
          | lst h rr =>
            cases r2 with
            | tup h2 rr2 =>
              cases q1; cases q2
              obtain ⟨its, va, p, _⟩ := I.tuple (Sub.st sb h2)
              obtain ⟨its2, vb, p2, _⟩ := I.list (SqL.of (K := X.K) (sb _ _ h))
              have z := EqAt.list_tuple (A := A) p2.isList (show s.heap.IsTuple _ its.toArray from p) hu0
              unfold deq
              exact z
        · have r1' := r1
          have r2' := r2
          cases r1' with
          | @lst _ l xs h rr =>
            cases r2' with
            | @lst _ l2 ys h2 rr2 =>
              cases q1; cases q2
              by_cases c : l = l2
              · exact same rfl rfl c
              · obtain ⟨its, va, p, _⟩ := I.list (SqL.of (K := X.K) (sb _ _ h))
                obtain ⟨its2, vb, p2, _⟩ := I.list (SqL.of (K := X.K) (sb _ _ h2))
                refine EqAt.of_refs c ?_
                unfold deq
                rw [deqs_all]
                by_cases el : ds.length = es.length
                · have z := RcAt.lists (A := A) p.isList p2.isList (by rw [(items_of rr va).1, (items_of rr2 vb).1, el]) hu0 (each rr rr2 va vb da db)
                  rw [(items_of rr va).1] at z
                  rw [show min ds.length es.length = ds.length by omega, el, beq_self_eq_true, Bool.and_true, ← el]
                  exact z
                · have z := RcAt.lists_lengths (A := A) p.isList p2.isList (by rw [(items_of rr va).1, (items_of rr2 vb).1]; simpa using el) hu0
                  rw [show (ds.length == es.length) = false by simpa using el, Bool.and_false]
                  exact z
end
end Fz
end

section
namespace Fz
open PySem PySem.Spec PyProof.Rows L2
section
variable {X : Cx} {pins : List (Addr × Obj)} {σ : L2.St} {H G : Hp} {s : Shared}
abbrev Rc2 (A : Around) (s : Shared) (a b : Value) (t : Bool) : Prop := SeqAt.RcAt A s a b t ∧ SeqAt.RcNeAt A s a b (!t)
open SeqAt in
theorem rc_flat {K} {A : Around} {d e : D} {v w : V} {a b : Value} (f1 : flatD d = true) (f2 : flatD e = true) (r1 : Rep K G d v) (r2 : Rep K G e w) (q1 : L2.RelV v a) (q2 : L2.RelV w b) : Rc2 A s a b (deq d e) := by
  cases r1 with
  | non =>
    cases q1
    cases r2 with
    | non =>
      cases q2
      unfold deq
      exact ⟨RcAt.none_none , RcNeAt.none_none ⟩
    | bl =>
      cases q2
      unfold deq
      exact ⟨RcAt.none_bool _, RcNeAt.none_bool _⟩
    | int =>
      obtain ⟨u, rfl⟩ := q2
      unfold deq
      exact ⟨RcAt.none_int _ _, RcNeAt.none_int _ _⟩
    | str =>
      obtain ⟨u, rfl⟩ := q2
      unfold deq
      exact ⟨RcAt.none_str _ _, RcNeAt.none_str _ _⟩
    | _ => cases f2
  | bl =>
    cases q1
    cases r2 with
    | non =>
      cases q2
      unfold deq
      exact ⟨RcAt.bool_none _, RcNeAt.bool_none _⟩
    | bl =>
      cases q2
      unfold deq
      exact ⟨RcAt.bool_bool _ _, RcNeAt.bool_bool _ _⟩
    | int =>
      obtain ⟨u, rfl⟩ := q2
      unfold deq
      exact ⟨RcAt.bool_int _ _ _, RcNeAt.bool_int _ _ _⟩
    | str =>
      obtain ⟨u, rfl⟩ := q2
      unfold deq
      exact ⟨RcAt.bool_str _ _ _, RcNeAt.bool_str _ _ _⟩
    | _ => cases f2
  | int =>
    obtain ⟨t, rfl⟩ := q1
    cases r2 with
    | non =>
      cases q2
      unfold deq
      exact ⟨RcAt.int_none _ _, RcNeAt.int_none _ _⟩
    | bl =>
      cases q2
      unfold deq
      exact ⟨RcAt.int_bool _ _ _, RcNeAt.int_bool _ _ _⟩
    | int =>
      obtain ⟨u, rfl⟩ := q2
      unfold deq
      exact ⟨RcAt.int_int _ _ _ _, RcNeAt.int_int _ _ _ _⟩
    | str =>
      obtain ⟨u, rfl⟩ := q2
      unfold deq
      exact ⟨RcAt.int_str _ _ _ _, RcNeAt.int_str _ _ _ _⟩
    | _ => cases f2
  | str =>
    obtain ⟨t, rfl⟩ := q1
    cases r2 with
    | non =>
      cases q2
      unfold deq
      exact ⟨RcAt.str_none _ _, RcNeAt.str_none _ _⟩
    | bl =>
      cases q2
      unfold deq
      exact ⟨RcAt.str_bool _ _ _, RcNeAt.str_bool _ _ _⟩
    | int =>
      obtain ⟨u, rfl⟩ := q2
      unfold deq
      exact ⟨RcAt.str_int _ _ _ _, RcNeAt.str_int _ _ _ _⟩
    | str =>
      obtain ⟨u, rfl⟩ := q2
      unfold deq
      rw [← strz]
      exact ⟨RcAt.str_str _ _ _ _, RcNeAt.str_str _ _ _ _⟩
    | _ => cases f2
  | _ => cases f1
open SeqAt in
theorem rc_flat_tup {A : Around} {d : D} {v : V} {a : Value} {l : Addr} {items : Array Value} (hl : s.heap.IsTuple l items) (hu : A.units < cLine) (f : flatD d = true) (r : Rep X.K G d v) (q : L2.RelV v a) : Rc2 A s (.ref l) a false ∧ Rc2 A s a (.ref l) false := by
  cases r <;> first
    | (cases f; done)
    | skip
  · cases q; exact ⟨⟨RcAt.tuple_none hl hu, RcNeAt.tuple_none hl hu⟩, ⟨RcAt.none_tuple hl hu, RcNeAt.none_tuple hl hu⟩⟩
  · cases q; exact ⟨⟨RcAt.tuple_bool _ hl hu, RcNeAt.tuple_bool _ hl hu⟩, ⟨RcAt.bool_tuple _ hl hu, RcNeAt.bool_tuple _ hl hu⟩⟩
  · obtain ⟨t, rfl⟩ := q; exact ⟨⟨RcAt.tuple_int _ _ hl hu, RcNeAt.tuple_int _ _ hl hu⟩, ⟨RcAt.int_tuple _ _ hl hu, RcNeAt.int_tuple _ _ hl hu⟩⟩
  · obtain ⟨t, rfl⟩ := q; exact ⟨⟨RcAt.tuple_str _ _ hl hu, RcNeAt.tuple_str _ _ hl hu⟩, ⟨RcAt.str_tuple _ _ hl hu, RcNeAt.str_tuple _ _ hl hu⟩⟩
open SeqAt in
theorem rc_flat_lst {A : Around} {d : D} {v : V} {a : Value} {l : Addr} {items : Array Value} (hl : s.heap.IsList l items) (hu : A.units < cLine) (f : flatD d = true) (r : Rep X.K G d v) (q : L2.RelV v a) : Rc2 A s (.ref l) a false ∧ Rc2 A s a (.ref l) false := by
  cases r <;> first
    | (cases f; done)
    | skip
  · cases q; exact ⟨⟨RcAt.list_none hl hu, RcNeAt.list_none hl hu⟩, ⟨RcAt.none_list hl hu, RcNeAt.none_list hl hu⟩⟩
  · cases q; exact ⟨⟨RcAt.list_bool _ hl hu, RcNeAt.list_bool _ hl hu⟩, ⟨RcAt.bool_list _ hl hu, RcNeAt.bool_list _ hl hu⟩⟩
  · obtain ⟨t, rfl⟩ := q; exact ⟨⟨RcAt.list_int _ _ hl hu, RcNeAt.list_int _ _ hl hu⟩, ⟨RcAt.int_list _ _ hl hu, RcNeAt.int_list _ _ hl hu⟩⟩
  · obtain ⟨t, rfl⟩ := q; exact ⟨⟨RcAt.list_str _ _ hl hu, RcNeAt.list_str _ _ hl hu⟩, ⟨RcAt.str_list _ _ hl hu, RcNeAt.str_list _ _ hl hu⟩⟩
open SeqAt in
theorem rc_at (I : Inv X pins σ H s) (sb : Sub G H) {n : Nat} {d e : D} {v w : V} {a b : Value} {A : Around} (hu : A.units + n < cLine) (r1 : Rep X.K G d v) (r2 : Rep X.K G e w) (q1 : L2.RelV v a) (q2 : L2.RelV w b) (d1 : dat d n = true) (d2 : dat e n = true) : Rc2 A s a b (deq d e) := by
  have hu0 : A.units < cLine := by omega
  rcases dat_kind d1 with f1 | ⟨m, em, k1⟩
  · rcases dat_kind d2 with f2 | ⟨m2, em2, k2⟩
    · exact rc_flat f1 f2 r1 r2 q1 q2
    · rcases k2 with ⟨es, e2, _⟩ | ⟨es, e2, _⟩ <;> subst e2
      · cases r2 with
        | tup h rr =>
          cases q2
          obtain ⟨its, _, p, _⟩ := I.tuple (Sub.st sb h)
          rw [(deq_flat_tup f1).1]
          exact (rc_flat_tup (X := X) (show s.heap.IsTuple _ its.toArray from p) hu0 f1 r1 q1).2
      · cases r2 with
        | lst h rr =>
          cases q2
          obtain ⟨its, _, p, _⟩ := I.list (SqL.of (K := X.K) (sb _ _ h))
          rw [(deq_flat_lst f1).1]
          exact (rc_flat_lst (X := X) p.isList hu0 f1 r1 q1).2
  · have hu1 : A.in1.units + m < cLine := by show A.units + 1 + m < cLine; omega
    have each : ∀ {ds es : List D} {xs ys : List V} {its its2 : List Value}, RepL X.K G ds xs → RepL X.K G es ys → Vals xs its → Vals ys its2 → dats ds m = true → dats es m = true →
        ∀ (j : Nat) (h1 : j < its.toArray.size) (h2 : j < its2.toArray.size), EqAt A.in1 s its.toArray[j] its2.toArray[j] (deq (ds.getD j .non) (es.getD j .non)) := by
      intro ds es xs ys its its2 ra rb va vb da db j h1 h2
      obtain ⟨_, k1⟩ := items_of ra va
      obtain ⟨_, k2⟩ := items_of rb vb
      obtain ⟨x, vx, x1, x2, x3⟩ := k1 j h1
      obtain ⟨y, vy, y1, y2, y3⟩ := k2 j h2
      rw [getD_of x1, getD_of y1]
      exact eq_at I sb m hu1 x2 y2 x3 y3 (dats_get da x1) (dats_get db y1)
    rcases dat_kind d2 with f2 | ⟨m2, em2, k2⟩
    · rcases k1 with ⟨es, e2, _⟩ | ⟨es, e2, _⟩ <;> subst e2
      · cases r1 with
        | tup h rr =>
          cases q1
          obtain ⟨its, _, p, _⟩ := I.tuple (Sub.st sb h)
          rw [(deq_flat_tup f2).2]
          exact (rc_flat_tup (X := X) (show s.heap.IsTuple _ its.toArray from p) hu0 f2 r2 q2).1
      · cases r1 with
        | lst h rr =>
          cases q1
          obtain ⟨its, _, p, _⟩ := I.list (SqL.of (K := X.K) (sb _ _ h))
          rw [(deq_flat_lst f2).2]
          exact (rc_flat_lst (X := X) p.isList hu0 f2 r2 q2).1
    · have em' : m2 = m := by omega
      subst em'
      rcases k1 with ⟨ds, e1, da⟩ | ⟨ds, e1, da⟩ <;> subst e1 <;> rcases k2 with ⟨es, e2, db⟩ | ⟨es, e2, db⟩ <;> subst e2
      · cases r1 with
        | tup h rr =>
          cases r2 with
          | tup h2 rr2 =>
            cases q1; cases q2
            obtain ⟨its, va, p, _⟩ := I.tuple (Sub.st sb h)
            obtain ⟨its2, vb, p2, _⟩ := I.tuple (Sub.st sb h2)
            have z := RcAt.tuples (A := A) (show s.heap.IsTuple _ its.toArray from p) (show s.heap.IsTuple _ its2.toArray from p2) hu0 (each rr rr2 va vb da db)
            have z2 := RcNeAt.tuples (A := A) (show s.heap.IsTuple _ its.toArray from p) (show s.heap.IsTuple _ its2.toArray from p2) hu0 (each rr rr2 va vb da db)
            unfold deq
            rw [deqs_all]
            rw [(items_of rr va).1, (items_of rr2 vb).1] at z z2
            exact ⟨z, z2⟩
      · cases r1 with
        | tup h rr =>
          cases r2 with
          | lst h2 rr2 =>
            cases q1; cases q2
            obtain ⟨its, va, p, _⟩ := I.tuple (Sub.st sb h)
            obtain ⟨its2, vb, p2, _⟩ := I.list (SqL.of (K := X.K) (sb _ _ h2))
            unfold deq
            exact ⟨RcAt.tuple_list (show s.heap.IsTuple _ its.toArray from p) p2.isList hu0, RcNeAt.tuple_list (show s.heap.IsTuple _ its.toArray from p) p2.isList hu0⟩
      · cases r1 with
        | lst h rr =>
          cases r2 with
          | tup h2 rr2 =>
            cases q1; cases q2
            obtain ⟨its, va, p, _⟩ := I.tuple (Sub.st sb h2)
            obtain ⟨its2, vb, p2, _⟩ := I.list (SqL.of (K := X.K) (sb _ _ h))
            unfold deq
            exact ⟨RcAt.list_tuple p2.isList (show s.heap.IsTuple _ its.toArray from p) hu0, RcNeAt.list_tuple p2.isList (show s.heap.IsTuple _ its.toArray from p) hu0⟩
      · cases r1 with
        | lst h rr =>
          cases r2 with
          | lst h2 rr2 =>
            cases q1; cases q2
            obtain ⟨its, va, p, _⟩ := I.list (SqL.of (K := X.K) (sb _ _ h))
            obtain ⟨its2, vb, p2, _⟩ := I.list (SqL.of (K := X.K) (sb _ _ h2))
            unfold deq
            rw [deqs_all]
            by_cases el : ds.length = es.length
            · have es1 : its.toArray.size = its2.toArray.size := by rw [(items_of rr va).1, (items_of rr2 vb).1, el]
              have z := RcAt.lists (A := A) p.isList p2.isList es1 hu0 (each rr rr2 va vb da db)
              have z2 := RcNeAt.lists (A := A) p.isList p2.isList es1 hu0 (each rr rr2 va vb da db)
              rw [(items_of rr va).1] at z z2
              rw [show min ds.length es.length = ds.length by omega, el, beq_self_eq_true, Bool.and_true, ← el]
              exact ⟨z, z2⟩
            · have es1 : (its.toArray.size != its2.toArray.size) = true := by rw [(items_of rr va).1, (items_of rr2 vb).1]; simpa using el
              rw [show (ds.length == es.length) = false by simpa using el, Bool.and_false]
              exact ⟨RcAt.lists_lengths p.isList p2.isList es1 hu0, RcNeAt.lists_lengths p.isList p2.isList es1 hu0⟩
end
section
variable {X : Cx}
def rEqZ (K : PySem.W.Frag) : R2 := fun x y H Q => ∃ G d e, Sub G H ∧ Rep K G d x ∧ Rep K G e y ∧ dat d 60 = true ∧ dat e 60 = true ∧ Q (.bl (deq d e)) H
def rNeZ (K : PySem.W.Frag) : R2 := fun x y H Q => ∃ G d e, Sub G H ∧ Rep K G d x ∧ Rep K G e y ∧ dat d 60 = true ∧ dat e 60 = true ∧ Q (.bl (!deq d e)) H
theorem op_eqZ (hu : X.A.units + 64 < cLine) : OpR X (compareOp .Eq) (rEqZ X.K) := by
  intro pins s σ H x y v u Q I rx ry ⟨G, d, e, sb, r1, r2, d1, d2, q⟩
  exact (rc_at I sb (show X.A.units + 60 < cLine by omega) r1 r2 rx ry d1 d2).1 X.prog X.w X.xe _ ⟨.bl _, H, I, rfl, q⟩
theorem op_neZ (hu : X.A.units + 64 < cLine) : OpR X (compareOp .NotEq) (rNeZ X.K) := by
  intro pins s σ H x y v u Q I rx ry ⟨G, d, e, sb, r1, r2, d1, d2, q⟩
  exact (rc_at I sb (show X.A.units + 60 < cLine by omega) r1 r2 rx ry d1 d2).2 X.prog X.w X.xe _ ⟨.bl _, H, I, rfl, q⟩
/-- x in items, all of them flat -/
def ind (x : D) (ds : List D) : Bool := ds.any fun y => deq y x
theorem inV_ind {K G} {d : D} {v : V} (r : Rep K G d v) (f : flatD d = true) : ∀ {ds : List D} {xs : List V}, RepL K G ds xs → ds.all flatD = true → xs.all flatV = true ∧ inV v xs = ind d ds
  | _, _, .nil, _ => ⟨rfl, rfl⟩
  | _, _, .cons h rr, fa => by
    rw [List.all_cons] at fa
    obtain ⟨a1, a2⟩ := Bool.and_eq_true_iff.mp fa
    obtain ⟨g1, g2, g3⟩ := flat_eq h r a1 f
    obtain ⟨i1, i2⟩ := inV_ind r f rr a2
    refine ⟨by rw [List.all_cons, g1, i1]; rfl, ?_⟩
    unfold inV ind at i2 ⊢
    rw [List.any_cons, List.any_cons, g3, i2]
def rInZ (K : PySem.W.Frag) (neg : Bool) : R2 := fun x y H Q => ∃ G d ds e, Sub G H ∧ Rep K G d x ∧ Rep K G e y ∧ (e = .lst ds ∨ e = .tup ds) ∧ flatD d = true ∧ ds.all flatD = true ∧ Q (.bl (if neg then !ind d ds else ind d ds)) H
theorem rInZ_rIn {K neg x y H Q} (h : rInZ K neg x y H Q) : rIn K neg x y H Q := by
  obtain ⟨G, d, ds, e, sb, r1, r2, he, f1, f2, q⟩ := h
  rcases he with he | he <;> subst he
  · cases r2 with
    | lst hl rr =>
      obtain ⟨i1, i2⟩ := inV_ind r1 f1 rr f2
      exact ⟨_, _, rfl, .inl (SqL.of (sb _ _ hl)), (flat_eq r1 r1 f1 f1).1, i1, by rw [i2]; exact q⟩
  · cases r2 with
    | tup hl rr =>
      obtain ⟨i1, i2⟩ := inV_ind r1 f1 rr f2
      exact ⟨_, _, rfl, .inr (Sub.st sb hl), (flat_eq r1 r1 f1 f1).1, i1, by rw [i2]; exact q⟩
theorem op_inZ : OpR X (compareOp .In) (rInZ X.K false) := fun pins s σ H x y v u Q I rx ry h => op_in_seq pins s σ H x y v u Q I rx ry (rInZ_rIn h)
theorem op_notInZ : OpR X (compareOp .NotIn) (rInZ X.K true) := fun pins s σ H x y v u Q I rx ry h => op_notIn_seq pins s σ H x y v u Q I rx ry (rInZ_rIn h)
end
end Fz
end

section
namespace Fz
open PySem PySem.Spec PyProof.Rows L2
/-- an answer of the shape that QR takes -/
abbrev Ans1 (K : PySem.W.Frag) (F : List Addr) (S : Store) (H : Hp) (d : D) (Q' : VK) : Prop := ∀ w H', Stp F S H S H' → HC K F S H' → Rep K (vw F S H') d w → Q' w H'
/-- r on the values of x, y answers d and leaves the store -/
def Gives2 (K : PySem.W.Frag) (r : R2) (x y d : D) : Prop := ∀ F S H v u Q', HC K F S H → Rep K (vw F S H) x v → Rep K (vw F S H) y u → Ans1 K F S H d Q' → r v u H Q'
def GivesC (K : PySem.W.Frag) (r : List V → Hp → VK → Prop) (ds : List D) (d : D) : Prop := ∀ F S H vs Q', HC K F S H → RepL K (vw F S H) ds vs → Ans1 K F S H d Q' → r vs H Q'
section
variable {X : Cx} {Ex : AX} {Γ : Gam} {S : Store} {Q : DQ} {a b e : Expr} {es : List Expr} {pos p p2 : Pos} {d x y : D} {ds : List D} {K : PySem.W.Frag}
theorem Ans1.of {F H} {Q' : VK} (k : QR K F S H Q Q') (q : Q d S) : Ans1 K F S H d Q' := fun w H' t hc r => k w H' d S t hc r q
theorem Ans1.self {F H} {Q' : VK} (hc : HC K F S H) (k : Ans1 K F S H d Q') {v : V} (r : Rep K (vw F S H) d v) : Q' v H := k v H .refl hc r
theorem Ans1.new {F H} {Q' : VK} (hc : HC K F S H) (k : Ans1 K F S H d Q') {p : Addr} {o : HO} (hp : H p = none) (r : ∀ G, Sub (vw F S H) G → G p = some o → Rep K G d (.ref p)) : Q' (.ref p) (upd H p o) := by
  obtain ⟨n1, n2, n3⟩ := hc.new (o := o) hp
  exact k _ _ n2 n1 (r _ n2.ext n3)
theorem ze_opG {op : Operator} {r : R2} (ho : OpR X (binaryOp op) r) (h : ZE X Ex a Γ S fun x S1 => ZE X Ex b Γ S1 fun y S2 => ∃ d, Gives2 X.K r x y d ∧ Q d S2) : ZE X Ex (.BinOp a op b pos) Γ S Q :=
  ze_op (R := fun x y S2 Q => ∃ d, Gives2 X.K r x y d ∧ Q d S2) ho (fun F S H x y v u Q Q' _ hc r1 r2 ⟨d, g, q⟩ k => g F S H v u Q' hc r1 r2 (.of k q)) h
theorem zv_opG {op : Operator} {r : R2} (ho : OpR X (binaryOp op) r) (hx : ZV X a Γ S x) (hy : ZV X b Γ S y) (g : Gives2 X.K r x y d) : ZV X (.BinOp a op b pos) Γ S d := fun Ex Q q => ze_opG ho (hx.ze (hy.ze ⟨d, g, q⟩))
theorem ze_cmpG {op : CmpOp} {r : R2} (ho : OpR X (compareOp op) r) (hm : behindInMarks op b = false) (h : ZE X Ex a Γ S fun x S1 => ZE X Ex b Γ S1 fun y S2 => ∃ d, Gives2 X.K r x y d ∧ Q d S2) : ZE X Ex (.Compare a [op] [b] pos) Γ S Q :=
  ze_cmp (R := fun x y S2 Q => ∃ d, Gives2 X.K r x y d ∧ Q d S2) ho (fun F S H x y v u Q Q' _ hc r1 r2 ⟨d, g, q⟩ k => g F S H v u Q' hc r1 r2 (.of k q)) hm h
theorem zv_cmpG {op : CmpOp} {r : R2} (ho : OpR X (compareOp op) r) (hx : ZV X a Γ S x) (hy : ZV X b Γ S y) (g : Gives2 X.K r x y d) (hm : behindInMarks op b = false) : ZV X (.Compare a [op] [b] pos) Γ S d := fun Ex Q q => ze_cmpG ho hm (hx.ze (hy.ze ⟨d, g, q⟩))
theorem zt_cmpG {op : CmpOp} {r : R2} {Q : Bool → Store → Prop} (ho : OpR X (compareOp op) r) (hm : behindInMarks op b = false) (h : ZE X Ex a Γ S fun x S1 => ZE X Ex b Γ S1 fun y S2 => ∃ t, Gives2 X.K r x y (.bl t) ∧ Q t S2) : ZT X Ex (.Compare a [op] [b] pos) Γ S Q :=
  zt_cmp (R := fun x y S2 Q => ∃ d, Gives2 X.K r x y d ∧ Q d S2) ho (fun F S H x y v u Q Q' _ hc r1 r2 ⟨d, g, q⟩ k => g F S H v u Q' hc r1 r2 (.of k q)) hm (h.mono fun x S1 h2 => h2.mono fun y S2 ⟨t, g, q⟩ => ⟨.bl t, g, t, rfl, q⟩)
theorem zb_cmpG {op : CmpOp} {r : R2} {t : Bool} (ho : OpR X (compareOp op) r) (hx : ZV X a Γ S x) (hy : ZV X b Γ S y) (g : Gives2 X.K r x y (.bl t)) (hm : behindInMarks op b = false) : ZB X (.Compare a [op] [b] pos) Γ S t := fun Ex Q q => zt_cmpG ho hm (hx.ze (hy.ze ⟨t, g, q⟩))
/-- a chain of two comparisons -/
theorem ze_chain {c : Expr} {op op' : CmpOp} {r r' : R2} (ho : OpR X (compareOp op) r) (ho' : OpR X (compareOp op') r') (h : ZE X Ex a Γ S fun x S1 => ZE X Ex b Γ S1 fun y S2 => ∃ t, Gives2 X.K r x y (.bl t) ∧ if t = true then ZE X Ex c Γ S2 fun z S3 => ∃ d, Gives2 X.K r' y z d ∧ Q d S3 else Q (.bl false) S2)
    (h2 : lastMarks [op, op'] [b, c] = false := by rfl) : ZE X Ex (.Compare a [op, op'] [b, c] pos) Γ S Q :=
  ze_of (pe_chain ho ho' pe_self pe_self pe_self h2) fun F σ H co Q' k => h F σ H co _ fun v H1 x S1 t1 c1 r1 q1 => q1 F σ H1 (co.step t1 c1) _ fun u H2 y S2 t2 c2 r2 ⟨t, g, q2⟩ =>
    g F S2 H2 v u _ c2 (r1.mono t2.ext) r2 fun w H3 t3 c3 r3 => by
      cases r3
      refine ⟨t, rfl, ?_⟩
      cases t with
      | false => exact k _ _ _ _ ((t1.trans t2).trans t3) c3 .bl q2
      | true =>
        exact q2 F σ H3 (((co.step t1 c1).step t2 c2).step t3 c3) _ fun z' H4 z S4 t4 c4 r4 ⟨d, g2, q4⟩ =>
          g2 F S4 H4 u z' Q' c4 ((r2.mono t3.ext).mono t4.ext) r4 (.of (k.step (((t1.trans t2).trans t3).trans t4)) q4)

/-! ### operators on data -/
abbrev rI2 (g : Int → Int → Int) : R2 := rI0 fun i j => .int (g i j)
theorem g_I0 {g : Int → Int → V} {i j : Int} (h : ∀ G, Rep K G d (g i j)) : Gives2 K (rI0 g) (.int i) (.int j) d := fun F S H v u Q' hc r1 r2 k => by
  cases r1; cases r2; exact ⟨i, j, rfl, rfl, k.self hc (h _)⟩
theorem g_I {C : Int → Int → Prop} {g : Int → Int → V} {i j : Int} (hC : C i j) (h : ∀ G, Rep K G d (g i j)) : Gives2 K (rI C g) (.int i) (.int j) d := fun F S H v u Q' hc r1 r2 k => by
  cases r1; cases r2; exact ⟨i, j, rfl, rfl, hC, k.self hc (h _)⟩
def rAddS : R2 := fun x y H Q => ∃ i j, x = .str i ∧ y = .str j ∧ i.length + j.length ≤ sizeLine ∧ Q (.str (i ++ j)) H
def rAddZ (K : PySem.W.Frag) : R2 := fun x y H Q => (((rI0 fun i j => .int (i + j)) x y H Q) ∨ rAddS x y H Q) ∨ (rCat x y H Q ∨ rCatA K x y H Q)
theorem op_addZ : OpR X (binaryOp .Add) (rAddZ X.K) := (op_add.or op_add_str).or (op_cat.or op_catA)
def addR : D → D → Option D
  | .int i, .int j => some (.int (i + j))
  | .str a, .str b => some (.str (a ++ b))
  | .lst a, .lst b => some (.lst (a ++ b))
  | .tup a, .tup b => some (.tup (a ++ b))
  | _, _ => none
def addOk : D → D → Prop
  | .str a, .str b => a.length + b.length ≤ 16777000
  | .lst a, .lst b => a.length + b.length ≤ 16777216
  | .tup a, .tup b => a.length + b.length ≤ 16777216
  | _, _ => True
theorem str_app {a b : List Nat} : ((⟨a.toArray⟩ : Str) ++ ⟨b.toArray⟩) = ⟨(a ++ b).toArray⟩ := by
  show (⟨a.toArray ++ b.toArray⟩ : Str) = _
  simp
theorem g_add (e : addR x y = some d) (ok : addOk x y) : Gives2 K (rAddZ K) x y d := fun F S H v u Q' hc r1 r2 k => by
  cases r1 with
  | int => cases r2 with
    | int => cases e; exact .inl (.inl ⟨_, _, rfl, rfl, k.self hc .int⟩)
    | _ => cases e
  | str h1 => cases r2 with
    | str h2 =>
      cases e
      have hz : (_ : List Nat).length + (_ : List Nat).length ≤ 16777000 := ok
      refine .inl (.inr ⟨_, _, rfl, rfl, ?_, ?_⟩)
      · exact small (Nat.le_trans (by simpa [Str.length] using hz) (by decide))
      · rw [str_app]; exact k.self hc (.str (by simpa using hz))
    | _ => cases e
  | lst h1 rr1 => cases r2 with
    | lst h2 rr2 =>
      cases e
      have hz : (_ : List D).length + (_ : List D).length ≤ 16777216 := ok
      refine .inr (.inl ⟨_, _, _, _, rfl, rfl, hd_sub _ _ h1, hd_sub _ _ h2, small (by rw [← rr1.length, ← rr2.length]; exact hz), fun p hp => k.new hc hp fun G sb e => .lst e ((rr1.mono sb).app (rr2.mono sb))⟩)
    | _ => cases e
  | tup h1 rr1 => cases r2 with
    | tup h2 rr2 =>
      cases e
      have hz : (_ : List D).length + (_ : List D).length ≤ 16777216 := ok
      refine .inr (.inr ⟨_, _, _, _, rfl, rfl, st_H h1, st_H h2, small (by rw [← rr1.length, ← rr2.length]; exact hz), fun e => ?_, fun _ e => ?_, fun _ _ p hp => k.new hc hp fun G sb e => .tup (SqT.of e) ((rr1.mono sb).app (rr2.mono sb))⟩)
      · subst e
        cases rr1
        exact k.self hc (.tup h2 rr2)
      · subst e
        cases rr2
        rw [List.append_nil] at k
        exact k.self hc (.tup h1 rr1)
    | _ => cases e
  | _ => cases e
theorem zv_add (hx : ZV X a Γ S x) (hy : ZV X b Γ S y) (e : addR x y = some d := by rfl) (ok : addOk x y := by first | exact True.intro | (show _ ≤ _; simp; done) | (show _ ≤ _; omega)) : ZV X (.BinOp a .Add b pos) Γ S d := zv_opG op_addZ hx hy (g_add e ok)
theorem ze_add (h : ZE X Ex a Γ S fun x S1 => ZE X Ex b Γ S1 fun y S2 => ∃ d, addR x y = some d ∧ addOk x y ∧ Q d S2) : ZE X Ex (.BinOp a .Add b pos) Γ S Q := ze_opG op_addZ (h.mono fun x S1 h => h.mono fun y S2 ⟨d, e, ok, q⟩ => ⟨d, g_add e ok, q⟩)
theorem zv_sub {i j : Int} (hx : ZV X a Γ S (.int i)) (hy : ZV X b Γ S (.int j)) : ZV X (.BinOp a .Sub b pos) Γ S (.int (i - j)) := zv_opG op_sub hx hy (g_I0 fun _ => .int)
theorem zv_mul {i j : Int} (hx : ZV X a Γ S (.int i)) (hy : ZV X b Γ S (.int j)) (h : CMul i j) : ZV X (.BinOp a .Mult b pos) Γ S (.int (i * j)) := zv_opG op_mul hx hy (g_I h fun _ => .int)
theorem zv_fdiv {i j : Int} (hx : ZV X a Γ S (.int i)) (hy : ZV X b Γ S (.int j)) (h : 0 < j ∧ j < 1073741824) : ZV X (.BinOp a .FloorDiv b pos) Γ S (.int (i / j)) := zv_opG op_fdiv hx hy (g_I h fun _ => .int)
theorem zv_mod {i j : Int} (hx : ZV X a Γ S (.int i)) (hy : ZV X b Γ S (.int j)) (h : 0 < j) : ZV X (.BinOp a .Mod b pos) Γ S (.int (i % j)) := zv_opG op_mod hx hy (g_I h fun _ => .int)
theorem zv_pow {i j : Int} (hx : ZV X a Γ S (.int i)) (hy : ZV X b Γ S (.int j)) (h : CPow i j) : ZV X (.BinOp a .Pow b pos) Γ S (.int (i ^ j.toNat)) := zv_opG op_pow hx hy (g_I h fun _ => .int)
theorem zv_neg {i : Int} (hx : ZV X a Γ S (.int i)) : ZV X (.UnaryOp .USub a pos) Γ S (.int (-i)) := fun Ex Q q =>
  ze_of (pe_un un_neg pe_self) fun F σ H c Q' k => hx Ex (fun d S' => d = .int i ∧ Q (.int (-i)) S') ⟨rfl, q⟩ F σ H c _ fun v H' d S' t hc r ⟨e, q⟩ => by
    subst e; cases r; exact ⟨i, rfl, k _ _ _ _ t hc .int q⟩
theorem ze_neg (h : ZE X Ex a Γ S fun d S1 => ∃ i : Int, d = .int i ∧ Q (.int (-i)) S1) : ZE X Ex (.UnaryOp .USub a pos) Γ S Q :=
  ze_of (pe_un un_neg pe_self) fun F σ H c Q' k => h F σ H c _ fun v H' d S' t hc r ⟨i, e, q⟩ => by
    subst e; cases r; exact ⟨i, rfl, k _ _ _ _ t hc .int q⟩
/-- a list, so many times -/
def rMulZ : R2 := fun x y H Q => (rI CMul fun i j => .int (i * j)) x y H Q ∨ rRep x y H Q
theorem op_mulZ : OpR X (binaryOp .Mult) rMulZ := op_mul.or op_rep
theorem RepL.rep {K G} {ds : List D} {vs : List V} (r : RepL K G ds vs) : ∀ n, RepL K G (List.replicate n ds).flatten (List.replicate n vs).flatten
  | 0 => .nil
  | n + 1 => by rw [List.replicate_succ, List.replicate_succ, List.flatten_cons, List.flatten_cons]; exact r.app (RepL.rep r n)
theorem g_rep {k : Int} (h : 0 ≤ k ∧ k < 2 ^ 63 ∧ ds.length * k.toNat ≤ 16777216) : Gives2 K rRep (.lst ds) (.int k) (.lst (List.replicate k.toNat ds).flatten) := fun F S H v u Q' hc r1 r2 q => by
  cases r1 with
  | lst h1 rr =>
    cases r2
    exact ⟨_, k, _, rfl, rfl, hd_sub _ _ h1, by omega, h.2.1, small (by rw [← rr.length]; exact h.2.2), fun p hp => q.new hc hp fun G sb e => .lst e ((rr.mono sb).rep _)⟩
theorem zv_rep {k : Int} (hx : ZV X a Γ S (.lst ds)) (hy : ZV X b Γ S (.int k)) (h : 0 ≤ k ∧ k < 2 ^ 63 ∧ ds.length * k.toNat ≤ 16777216) : ZV X (.BinOp a .Mult b pos) Γ S (.lst (List.replicate k.toNat ds).flatten) := zv_opG op_rep hx hy (g_rep h)

/-! ### comparisons of data -/
theorem g_eq (d1 : dat x 60 = true) (d2 : dat y 60 = true) : Gives2 K (rEqZ K) x y (.bl (deq x y)) := fun F S H v u Q' hc r1 r2 k => ⟨_, x, y, hd_sub, r1, r2, d1, d2, k.self hc .bl⟩
theorem g_ne (d1 : dat x 60 = true) (d2 : dat y 60 = true) : Gives2 K (rNeZ K) x y (.bl (!deq x y)) := fun F S H v u Q' hc r1 r2 k => ⟨_, x, y, hd_sub, r1, r2, d1, d2, k.self hc .bl⟩
theorem units_of {k : Nat} (hr : Room k X.A) : X.A.units + 64 < cLine := hr.units
theorem g_in (e : y = .lst ds ∨ y = .tup ds) (f1 : flatD x = true) (f2 : ds.all flatD = true) : Gives2 K (rInZ K false) x y (.bl (ind x ds)) := fun F S H v u Q' hc r1 r2 k => ⟨_, x, ds, y, hd_sub, r1, r2, e, f1, f2, k.self hc .bl⟩
theorem g_notIn (e : y = .lst ds ∨ y = .tup ds) (f1 : flatD x = true) (f2 : ds.all flatD = true) : Gives2 K (rInZ K true) x y (.bl (!ind x ds)) := fun F S H v u Q' hc r1 r2 k => ⟨_, x, ds, y, hd_sub, r1, r2, e, f1, f2, k.self hc .bl⟩
def rSgn (neg : Bool) : R2 := fun x y H Q => ∃ (c : Nat) (z : Str), x = .str ⟨#[c]⟩ ∧ y = .str z ∧ Q (.bl (if neg then !decide (c ∈ z.cps.toList) else decide (c ∈ z.cps.toList))) H
theorem op_inSgn : OpR X (compareOp .In) (rSgn false) := fun pins s σ H x y v u Q I rx ry h => op_in_sign pins s σ H x y v u Q I rx ry h
theorem op_notInSgn : OpR X (compareOp .NotIn) (rSgn true) := fun pins s σ H x y v u Q I rx ry h => op_notIn_sign pins s σ H x y v u Q I rx ry h
theorem g_sgn {c : Nat} {z : List Nat} {neg : Bool} {t : Bool} (e : t = if neg then !decide (c ∈ z) else decide (c ∈ z)) : Gives2 K (rSgn neg) (.str [c]) (.str z) (.bl t) := fun F S H v u Q' hc r1 r2 k => by
  cases r1; cases r2
  refine ⟨c, ⟨z.toArray⟩, rfl, rfl, ?_⟩
  subst e
  exact k.self hc .bl
/-- a comparison, as a value or as a test -/
def ZC (X : Cx) (op : CmpOp) (a b : Expr) (Γ : Gam) (S : Store) (d : D) : Prop := ∃ r x y, OpR X (compareOp op) r ∧ ZV X a Γ S x ∧ ZV X b Γ S y ∧ Gives2 X.K r x y d ∧ behindInMarks op b = false
theorem zv_c {op : CmpOp} (h : ZC X op a b Γ S d) : ZV X (.Compare a [op] [b] pos) Γ S d := by
  obtain ⟨r, x, y, ho, hx, hy, g, hm⟩ := h
  exact zv_cmpG ho hx hy g hm
theorem zb_c {op : CmpOp} {t : Bool} (h : ZC X op a b Γ S (.bl t)) : ZB X (.Compare a [op] [b] pos) Γ S t := by
  obtain ⟨r, x, y, ho, hx, hy, g, hm⟩ := h
  exact zb_cmpG ho hx hy g hm
theorem zc_inS {c : Nat} {z : List Nat} (hx : ZV X a Γ S (.str [c])) (hy : ZV X b Γ S (.str z)) (hm : behindInMarks .In b = false := by rfl) : ZC X .In a b Γ S (.bl (decide (c ∈ z))) := ⟨_, _, _, op_inSgn, hx, hy, (g_sgn rfl), hm⟩
theorem zc_notInS {c : Nat} {z : List Nat} (hx : ZV X a Γ S (.str [c])) (hy : ZV X b Γ S (.str z)) (hm : behindInMarks .NotIn b = false := by rfl) : ZC X .NotIn a b Γ S (.bl (!decide (c ∈ z))) := ⟨_, _, _, op_notInSgn, hx, hy, (g_sgn rfl), hm⟩
theorem zc_in (hx : ZV X a Γ S x) (hy : ZV X b Γ S y) (e : itemsOf y = some ds) (f1 : flatD x = true) (f2 : ds.all flatD = true) (e2 : y = .lst ds ∨ y = .tup ds := by first | exact .inl rfl | exact .inr rfl) (hm : behindInMarks .In b = false := by rfl) : ZC X .In a b Γ S (.bl (ind x ds)) :=
  ⟨_, _, _, op_inZ, hx, hy, (g_in e2 f1 f2), hm⟩
theorem zc_notIn (hx : ZV X a Γ S x) (hy : ZV X b Γ S y) (e : itemsOf y = some ds) (f1 : flatD x = true) (f2 : ds.all flatD = true) (e2 : y = .lst ds ∨ y = .tup ds := by first | exact .inl rfl | exact .inr rfl) (hm : behindInMarks .NotIn b = false := by rfl) : ZC X .NotIn a b Γ S (.bl (!ind x ds)) :=
  ⟨_, _, _, op_notInZ, hx, hy, (g_notIn e2 f1 f2), hm⟩
theorem zc_eq {j : Nat} (hr : Room j X.A) (hx : ZV X a Γ S x) (hy : ZV X b Γ S y) (d1 : dat x 60 = true) (d2 : dat y 60 = true) {t : Bool} (e : deq x y = t) : ZC X .Eq a b Γ S (.bl t) := e ▸ ⟨_, _, _, (op_eqZ hr.units), hx, hy, (g_eq d1 d2), (nomark _)⟩
theorem zc_ne {j : Nat} (hr : Room j X.A) (hx : ZV X a Γ S x) (hy : ZV X b Γ S y) (d1 : dat x 60 = true) (d2 : dat y 60 = true) {t : Bool} (e : deq x y = t) : ZC X .NotEq a b Γ S (.bl (!t)) := e ▸ ⟨_, _, _, (op_neZ hr.units), hx, hy, (g_ne d1 d2), (nomark _)⟩
/-- ints, texts, truths -/
def rEqF : R2 := rEq
theorem g_eqI {i j : Int} : Gives2 K rEq (.int i) (.int j) (.bl (decide (i = j))) := fun F S H v u Q' hc r1 r2 k => by
  cases r1; cases r2
  exact ⟨rfl, by rw [show decide (V.int i = V.int j) = decide (i = j) by simp]; exact k.self hc .bl⟩
theorem g_eqS {i j : List Nat} : Gives2 K rEq (.str i) (.str j) (.bl (decide (i = j))) := fun F S H v u Q' hc r1 r2 k => by
  cases r1; cases r2
  exact ⟨rfl, by rw [show decide (V.str ⟨i.toArray⟩ = V.str ⟨j.toArray⟩) = decide (i = j) by simp]; exact k.self hc .bl⟩
theorem g_eqB {i j : Bool} : Gives2 K rEq (.bl i) (.bl j) (.bl (decide (i = j))) := fun F S H v u Q' hc r1 r2 k => by
  cases r1; cases r2
  exact ⟨rfl, by rw [show decide (V.bl i = V.bl j) = decide (i = j) by simp]; exact k.self hc .bl⟩
theorem g_neI {i j : Int} : Gives2 K rNe (.int i) (.int j) (.bl (!decide (i = j))) := fun F S H v u Q' hc r1 r2 k => by
  cases r1; cases r2
  exact ⟨rfl, by rw [show decide (V.int i = V.int j) = decide (i = j) by simp]; exact k.self hc .bl⟩
theorem g_neS {i j : List Nat} : Gives2 K rNe (.str i) (.str j) (.bl (!decide (i = j))) := fun F S H v u Q' hc r1 r2 k => by
  cases r1; cases r2
  exact ⟨rfl, by rw [show decide (V.str ⟨i.toArray⟩ = V.str ⟨j.toArray⟩) = decide (i = j) by simp]; exact k.self hc .bl⟩
theorem g_neB {i j : Bool} : Gives2 K rNe (.bl i) (.bl j) (.bl (!decide (i = j))) := fun F S H v u Q' hc r1 r2 k => by
  cases r1; cases r2
  exact ⟨rfl, by rw [show decide (V.bl i = V.bl j) = decide (i = j) by simp]; exact k.self hc .bl⟩
theorem zc_eqI {i j : Int} (hx : ZV X a Γ S (.int i)) (hy : ZV X b Γ S (.int j)) : ZC X .Eq a b Γ S (.bl (decide (i = j))) := ⟨_, _, _, op_eq, hx, hy, g_eqI, (nomark _)⟩
theorem zc_eqS {i j : List Nat} (hx : ZV X a Γ S (.str i)) (hy : ZV X b Γ S (.str j)) : ZC X .Eq a b Γ S (.bl (decide (i = j))) := ⟨_, _, _, op_eq, hx, hy, g_eqS, (nomark _)⟩
theorem zc_eqB {i j : Bool} (hx : ZV X a Γ S (.bl i)) (hy : ZV X b Γ S (.bl j)) : ZC X .Eq a b Γ S (.bl (decide (i = j))) := ⟨_, _, _, op_eq, hx, hy, g_eqB, (nomark _)⟩
theorem zc_neI {i j : Int} (hx : ZV X a Γ S (.int i)) (hy : ZV X b Γ S (.int j)) : ZC X .NotEq a b Γ S (.bl (!decide (i = j))) := ⟨_, _, _, op_ne, hx, hy, g_neI, (nomark _)⟩
theorem zc_neS {i j : List Nat} (hx : ZV X a Γ S (.str i)) (hy : ZV X b Γ S (.str j)) : ZC X .NotEq a b Γ S (.bl (!decide (i = j))) := ⟨_, _, _, op_ne, hx, hy, g_neS, (nomark _)⟩
theorem zc_neB {i j : Bool} (hx : ZV X a Γ S (.bl i)) (hy : ZV X b Γ S (.bl j)) : ZC X .NotEq a b Γ S (.bl (!decide (i = j))) := ⟨_, _, _, op_ne, hx, hy, g_neB, (nomark _)⟩
theorem zc_lt {i j : Int} (hx : ZV X a Γ S (.int i)) (hy : ZV X b Γ S (.int j)) : ZC X .Lt a b Γ S (.bl (decide (i < j))) := ⟨_, _, _, op_lt, hx, hy, (g_I0 fun _ => .bl), (nomark _)⟩
theorem zc_le {i j : Int} (hx : ZV X a Γ S (.int i)) (hy : ZV X b Γ S (.int j)) : ZC X .LtE a b Γ S (.bl (decide (i ≤ j))) := ⟨_, _, _, op_le, hx, hy, (g_I0 fun _ => .bl), (nomark _)⟩
theorem zc_gt {i j : Int} (hx : ZV X a Γ S (.int i)) (hy : ZV X b Γ S (.int j)) : ZC X .Gt a b Γ S (.bl (decide (j < i))) := ⟨_, _, _, op_gt, hx, hy, (g_I0 fun _ => .bl), (nomark _)⟩
theorem zc_ge {i j : Int} (hx : ZV X a Γ S (.int i)) (hy : ZV X b Γ S (.int j)) : ZC X .GtE a b Γ S (.bl (decide (j ≤ i))) := ⟨_, _, _, op_ge, hx, hy, (g_I0 fun _ => .bl), (nomark _)⟩
theorem g_ltS {i j : List Nat} : Gives2 K (fun x y H Q => ∃ i j, x = .str i ∧ y = .str j ∧ Q (.bl (decide (i.cps.toList < j.cps.toList))) H) (.str i) (.str j) (.bl (decide (i < j))) := fun F S H v u Q' hc r1 r2 k => by
  cases r1; cases r2
  exact ⟨_, _, rfl, rfl, k.self hc .bl⟩
theorem zc_ltS {i j : List Nat} (hx : ZV X a Γ S (.str i)) (hy : ZV X b Γ S (.str j)) : ZC X .Lt a b Γ S (.bl (decide (i < j))) := ⟨_, _, _, op_lt_str, hx, hy, g_ltS, (nomark _)⟩
theorem g_geS {i j : List Nat} : Gives2 K (fun x y H Q => ∃ i j, x = .str i ∧ y = .str j ∧ Q (.bl (!decide (i.cps.toList < j.cps.toList))) H) (.str i) (.str j) (.bl (!decide (i < j))) := fun F S H v u Q' hc r1 r2 k => by
  cases r1; cases r2
  exact ⟨_, _, rfl, rfl, k.self hc .bl⟩
theorem zc_geS {i j : List Nat} (hx : ZV X a Γ S (.str i)) (hy : ZV X b Γ S (.str j)) : ZC X .GtE a b Γ S (.bl (!decide (i < j))) := ⟨_, _, _, op_ge_str, hx, hy, g_geS, (nomark _)⟩
/-- is None -/
def isNon : D → Bool
  | .non => true
  | _ => false
theorem isNon_v {G v} (r : Rep K G x v) : decide (v = V.non) = isNon x := by cases r <;> rfl
theorem zv_isN {j pos'} (hx : ZV X a Γ S x) : ZV X (.Compare a [.Is] [.Constant .none j pos'] pos) Γ S (.bl (isNon x)) := fun Ex Q q =>
  ze_of (pe_cmp (pc_isN pe_self) rfl) fun F σ H c Q' k => hx Ex (fun d S' => d = x ∧ Q (.bl (isNon x)) S') ⟨rfl, q⟩ F σ H c _ fun v H' d S' t hc r ⟨e, q⟩ => by
    subst e; rw [isNon_v r]; exact k _ _ _ _ t hc .bl q
theorem zv_notN {j pos'} (hx : ZV X a Γ S x) : ZV X (.Compare a [.IsNot] [.Constant .none j pos'] pos) Γ S (.bl (!isNon x)) := fun Ex Q q =>
  ze_of (pe_cmp (pc_notN pe_self) rfl) fun F σ H c Q' k => hx Ex (fun d S' => d = x ∧ Q (.bl (!isNon x)) S') ⟨rfl, q⟩ F σ H c _ fun v H' d S' t hc r ⟨e, q⟩ => by
    subst e; rw [isNon_v r]; exact k _ _ _ _ t hc .bl q
/-- a value as a test -/
theorem zb_val {t : Bool} (h : ZV X e Γ S (.bl t)) (he : ∀ whole, isTrue e X.env whole = (do let v ← whole; standAt e.pos; holding [v] (truthy v)) := by intro _; rfl) : ZB X e Γ S t := fun Ex Q q => zt_val (h.ze ⟨t, rfl, q⟩) he
theorem zb_not {t : Bool} (h : ZB X a Γ S t) : ZB X (.UnaryOp .Not a pos) Γ S (!t) := fun Ex Q q => zt_not (h.zt q)
theorem zb_isN {j pos'} (hx : ZV X a Γ S x) : ZB X (.Compare a [.Is] [.Constant .none j pos'] pos) Γ S (isNon x) := fun Ex Q q =>
  zt_of (pt_cmp (pc_isN pe_self) rfl) fun F σ H c Q' k => hx Ex (fun d S' => d = x ∧ Q (isNon x) S') ⟨rfl, q⟩ F σ H c _ fun v H' d S' t hc r ⟨e, q⟩ => by
    subst e; exact ⟨_, congrArg V.bl (isNon_v r), k _ _ _ t hc q⟩
theorem zb_notN {j pos'} (hx : ZV X a Γ S x) : ZB X (.Compare a [.IsNot] [.Constant .none j pos'] pos) Γ S (!isNon x) := fun Ex Q q =>
  zt_of (pt_cmp (pc_notN pe_self) rfl) fun F σ H c Q' k => hx Ex (fun d S' => d = x ∧ Q (!isNon x) S') ⟨rfl, q⟩ F σ H c _ fun v H' d S' t hc r ⟨e, q⟩ => by
    subst e; exact ⟨_, congrArg (fun z => V.bl (!z)) (isNon_v r), k _ _ _ t hc q⟩
end
end Fz
end

section
namespace Fz
open PySem PySem.Spec PyProof.Rows L2
/-- the built-in names are the built-in ones -/
structure Bn (mg : Str → Option Value) : Prop where
  len : mg "len" = none
  all : mg "all" = none
  any : mg "any" = none
  sum : mg "sum" = none
  min : mg "min" = none
  max : mg "max" = none
  sorted : mg "sorted" = none
  abs : mg "abs" = none
  int : mg "int" = none
  str : mg "str" = none
  tuple : mg "tuple" = none
  list : mg "list" = none
  range : mg "range" = none
  repr : mg "repr" = none
  isinstance : mg "isinstance" = none
  divmod : mg "divmod" = none
  enumerate : mg "enumerate" = none
  zip : mg "zip" = none
  dict : mg "dict" = none
  set : mg "set" = none
  bool : mg "bool" = none
section
variable {X : Cx} {Ex : AX} {Γ : Gam} {S : Store} {Q : DQ} {a b o e value : Expr} {es : List Expr} {pos p p2 pos' apos : Pos} {d x y : D} {ds : List D} {K : PySem.W.Frag} {DE : AEnds} {n : Str}

/-! ### built-in functions -/
theorem ze_callBG {id : String} {r : List V → Hp → VK → Prop} (hc : CallR X (.builtin id) r) (hm : X.mg n = none) (hv : bootBuiltins n = some (.builtin id)) (h : ZA X Ex (e :: es) Γ S fun ds S1 => ∃ d, GivesC X.K r ds d ∧ Q d S1) (hg : Gl X n := by rfl) (hn : n ≠ "__name__" := by decide) (hdb : (n == ("__debug__" : Str)) = false := by decide)
    (he : starEach (e :: es) X.env = (false, eval e X.env) :: starEach es X.env := by rfl) (hpl : (backTo pos (starEach es X.env)).any (·.1) = false := by rfl) : ZE X Ex (.Call (.Name n p) (e :: es) [] pos) Γ S Q :=
  ze_of (pe_callB hc hg hm hv pa_self hn hdb he hpl) fun F σ H co Q' k => h F σ H co _ fun vs H1 ds S1 t hc r ⟨d, g, q⟩ => g F S1 H1 vs Q' hc r (.of (k.step t) q)
theorem ze_callTG {T : String} {r : List V → Hp → VK → Prop} (hc : CallR X (.type T) r) (hm : X.mg n = none) (hv : bootBuiltins n = some (.type T)) (h : ZA X Ex (e :: es) Γ S fun ds S1 => ∃ d, GivesC X.K r ds d ∧ Q d S1) (hg : Gl X n := by rfl) (hn : n ≠ "__name__" := by decide) (hdb : (n == ("__debug__" : Str)) = false := by decide)
    (he : starEach (e :: es) X.env = (false, eval e X.env) :: starEach es X.env := by rfl) (hpl : (backTo pos (starEach es X.env)).any (·.1) = false := by rfl) : ZE X Ex (.Call (.Name n p) (e :: es) [] pos) Γ S Q :=
  ze_of (pe_callTy hc hg hm hv pa_self hn hdb he hpl) fun F σ H co Q' k => h F σ H co _ fun vs H1 ds S1 t hc r ⟨d, g, q⟩ => g F S1 H1 vs Q' hc r (.of (k.step t) q)
/-- one argument, a pure one -/
abbrev s1 (X : Cx) (e : Expr) : Prop := starEach [e] X.env = (false, eval e X.env) :: starEach [] X.env
theorem zl1 {e : Expr} (h : ZV X e Γ S d) (hs : s1 X e := by rfl) : ZL X [e] Γ S [d] := zl_cons h zl_nil hs
theorem rep1 {K G vs} (r : RepL K G [d] vs) : ∃ v, vs = [v] ∧ Rep K G d v := by
  cases r with | cons h r => cases r; exact ⟨_, rfl, h⟩
theorem rep2 {K G vs} (r : RepL K G [x, y] vs) : ∃ v w, vs = [v, w] ∧ Rep K G x v ∧ Rep K G y w := by
  cases r with | cons h r => cases r with | cons h2 r => cases r; exact ⟨_, _, rfl, h, h2⟩
def lenD : D → Option Nat
  | .lst ds => some ds.length
  | .tup ds => some ds.length
  | .str x => some x.length
  | .scr ns => some ns.length
  | _ => none
theorem g_len {k : Nat} (h : lenD d = some k) : GivesC K (fun xs H Q => ∃ x n, xs = [x] ∧ LenV K x H n ∧ Q (.int n) H) [d] (.int k) := fun F S H vs Q' hc r q => by
  obtain ⟨v, rfl, r9⟩ := rep1 r
  refine ⟨v, k, rfl, ?_, q.self hc .int⟩
  cases r9 with
  | lst h1 rr => cases h; exact .inl ⟨_, SqL.of (hd_sub _ _ h1), rr.length⟩
  | tup h1 rr => cases h; exact .inr ⟨_, st_H h1, rr.length⟩
  | str h1 => cases h; exact ⟨show (_ : List Nat).toArray.size ≤ sizeLine from small (by simp; omega), by simp [Str.length]⟩
  | scr h1 => cases h; exact .inl ⟨_, sl_H h1, by simp⟩
  | _ => cases h
theorem zv_len {k : Nat} (bn : Bn X.mg) (h : ZV X e Γ S d) (hk : lenD d = some k := by rfl) (hg : Gl X "len" := by rfl) (hs : s1 X e := by rfl) : ZV X (.Call (.Name "len" p) [e] [] pos) Γ S (.int k) := fun Ex Q q =>
  ze_callBG call_len bn.len PySem.boot_len ((zl1 h hs).za ⟨_, g_len hk, q⟩) hg (he := hs) (hpl := rfl)
theorem g_all {α : Type} {as : List α} {g : α → Bool} : GivesC K (rAll K) [.lst (as.map fun z => .bl (g z))] (.bl (as.all g)) := fun F S H vs Q' hc r q => by
  obtain ⟨v, rfl, r9⟩ := rep1 r
  cases r9 with
  | lst h1 rr =>
    have e : (as.map fun z => D.bl (g z)) = (as.map g).map D.bl := by rw [List.map_map]; rfl
    rw [e] at rr
    have e2 := rr.bls_inv
    subst e2
    refine ⟨_, as.map g, rfl, SqL.of (hd_sub _ _ h1), ?_⟩
    rw [List.all_map]; exact q.self hc .bl
theorem g_any {α : Type} {as : List α} {g : α → Bool} : GivesC K (rAny K) [.lst (as.map fun z => .bl (g z))] (.bl (as.any g)) := fun F S H vs Q' hc r q => by
  obtain ⟨v, rfl, r9⟩ := rep1 r
  cases r9 with
  | lst h1 rr =>
    have e : (as.map fun z => D.bl (g z)) = (as.map g).map D.bl := by rw [List.map_map]; rfl
    rw [e] at rr
    have e2 := rr.bls_inv
    subst e2
    refine ⟨_, as.map g, rfl, SqL.of (hd_sub _ _ h1), ?_⟩
    rw [List.any_map]; exact q.self hc .bl
theorem boot_all' : bootBuiltins "all" = some (.builtin "all") := by decide +kernel
theorem boot_any' : bootBuiltins "any" = some (.builtin "any") := by decide +kernel
theorem boot_sum' : bootBuiltins "sum" = some (.builtin "sum") := by decide +kernel
theorem boot_abs' : bootBuiltins "abs" = some (.builtin "abs") := by decide +kernel
theorem boot_max' : bootBuiltins "max" = some (.builtin "max") := by decide +kernel
theorem boot_min' : bootBuiltins "min" = some (.builtin "min") := by decide +kernel
theorem boot_divmod' : bootBuiltins "divmod" = some (.builtin "divmod") := by decide +kernel
theorem boot_int' : bootBuiltins "int" = some (.type "int") := by decide +kernel
theorem boot_str' : bootBuiltins "str" = some (.type "str") := by decide +kernel
theorem boot_tuple' : bootBuiltins "tuple" = some (.type "tuple") := by decide +kernel
theorem boot_list' : bootBuiltins "list" = some (.type "list") := by decide +kernel
theorem zv_all {α : Type} {as : List α} {g : α → Bool} (ok : X.calm = true) (bn : Bn X.mg) (h : ZV X e Γ S (.lst (as.map fun z => .bl (g z)))) (hg : Gl X "all" := by rfl) (hs : s1 X e := by rfl) : ZV X (.Call (.Name "all" p) [e] [] pos) Γ S (.bl (as.all g)) := fun Ex Q q =>
  ze_callBG (cr_all ok) bn.all boot_all' ((zl1 h hs).za ⟨_, g_all, q⟩) hg (he := hs) (hpl := rfl)
theorem zv_any {α : Type} {as : List α} {g : α → Bool} (ok : X.calm = true) (bn : Bn X.mg) (h : ZV X e Γ S (.lst (as.map fun z => .bl (g z)))) (hg : Gl X "any" := by rfl) (hs : s1 X e := by rfl) : ZV X (.Call (.Name "any" p) [e] [] pos) Γ S (.bl (as.any g)) := fun Ex Q q =>
  ze_callBG (cr_any ok) bn.any boot_any' ((zl1 h hs).za ⟨_, g_any, q⟩) hg (he := hs) (hpl := rfl)
theorem g_sum {α : Type} {as : List α} {g : α → Int} : GivesC K (rSum K) [.lst (as.map fun z => .int (g z))] (.int (as.map g).sum) := fun F S H vs Q' hc r q => by
  obtain ⟨v, rfl, r9⟩ := rep1 r
  cases r9 with
  | lst h1 rr =>
    have e : (as.map fun z => D.int (g z)) = (as.map g).map D.int := by rw [List.map_map]; rfl
    rw [e] at rr
    have e2 := rr.ints_inv
    subst e2
    exact ⟨_, as.map g, rfl, SqL.of (hd_sub _ _ h1), q.self hc .int⟩
theorem zv_sum {α : Type} {as : List α} {g : α → Int} (ok : X.calm = true) (bn : Bn X.mg) (h : ZV X e Γ S (.lst (as.map fun z => .int (g z)))) (hg : Gl X "sum" := by rfl) (hs : s1 X e := by rfl) : ZV X (.Call (.Name "sum" p) [e] [] pos) Γ S (.int (as.map g).sum) := fun Ex Q q =>
  ze_callBG (cr_sum ok) bn.sum boot_sum' ((zl1 h hs).za ⟨_, g_sum, q⟩) hg (he := hs) (hpl := rfl)
theorem zv_abs {i : Int} (bn : Bn X.mg) (h : ZV X e Γ S (.int i)) (hg : Gl X "abs" := by rfl) (hs : s1 X e := by rfl) : ZV X (.Call (.Name "abs" p) [e] [] pos) Γ S (.int (if i < 0 then -i else i)) := fun Ex Q q =>
  ze_callBG call_abs bn.abs boot_abs' ((zl1 h hs).za ⟨_, fun F S H vs Q' hc r k => by obtain ⟨v, rfl, r9⟩ := rep1 r; cases r9; exact ⟨i, rfl, k.self hc .int⟩, q⟩) hg (he := hs) (hpl := rfl)
theorem zv_max2 {i j : Int} (ok : X.calm = true) (bn : Bn X.mg) (h : ZV X a Γ S (.int i)) (h2 : ZV X b Γ S (.int j)) (hg : Gl X "max" := by rfl) (hs : starEach [a, b] X.env = (false, eval a X.env) :: starEach [b] X.env := by rfl) (hs2 : s1 X b := by rfl) (hpl : (backTo pos (starEach [b] X.env)).any (·.1) = false := by rfl) : ZV X (.Call (.Name "max" p) [a, b] [] pos) Γ S (.int (if j > i then j else i)) := fun Ex Q q =>
  ze_callBG (call_max2 ok) bn.max boot_max' ((zl_cons h (zl1 h2 hs2) hs).za ⟨_, fun F S H vs Q' hc r k => by obtain ⟨v, w, rfl, r8, r9⟩ := rep2 r; cases r8; cases r9; exact ⟨i, j, rfl, k.self hc .int⟩, q⟩) hg (he := hs) (hpl := hpl)
theorem zv_min2 {i j : Int} (ok : X.calm = true) (bn : Bn X.mg) (h : ZV X a Γ S (.int i)) (h2 : ZV X b Γ S (.int j)) (hg : Gl X "min" := by rfl) (hs : starEach [a, b] X.env = (false, eval a X.env) :: starEach [b] X.env := by rfl) (hs2 : s1 X b := by rfl) (hpl : (backTo pos (starEach [b] X.env)).any (·.1) = false := by rfl) : ZV X (.Call (.Name "min" p) [a, b] [] pos) Γ S (.int (if j < i then j else i)) := fun Ex Q q =>
  ze_callBG (call_min2 ok) bn.min boot_min' ((zl_cons h (zl1 h2 hs2) hs).za ⟨_, fun F S H vs Q' hc r k => by obtain ⟨v, w, rfl, r8, r9⟩ := rep2 r; cases r8; cases r9; exact ⟨i, j, rfl, k.self hc .int⟩, q⟩) hg (he := hs) (hpl := hpl)
theorem zv_toInt {i : Int} (bn : Bn X.mg) (h : ZV X e Γ S (.int i)) (hg : Gl X "int" := by rfl) (hs : s1 X e := by rfl) : ZV X (.Call (.Name "int" p) [e] [] pos) Γ S (.int i) := fun Ex Q q =>
  ze_callTG call_int1 bn.int boot_int' ((zl1 h hs).za ⟨_, fun F S H vs Q' hc r k => by obtain ⟨v, rfl, r9⟩ := rep1 r; cases r9; exact .inl ⟨i, rfl, k.self hc .int⟩, q⟩) hg (he := hs) (hpl := rfl)
theorem zv_toIntB {t : Bool} (bn : Bn X.mg) (h : ZV X e Γ S (.bl t)) (hg : Gl X "int" := by rfl) (hs : s1 X e := by rfl) : ZV X (.Call (.Name "int" p) [e] [] pos) Γ S (.int (if t then 1 else 0)) := fun Ex Q q =>
  ze_callTG call_int1 bn.int boot_int' ((zl1 h hs).za ⟨_, fun F S H vs Q' hc r k => by obtain ⟨v, rfl, r9⟩ := rep1 r; cases r9; exact .inr ⟨t, rfl, k.self hc .int⟩, q⟩) hg (he := hs) (hpl := rfl)
/-- tuple(xs), list(xs) -/
theorem g_tuple (h : d = .lst ds ∨ d = .tup ds) : GivesC K (fun xs H Q => ∃ p ys, xs = [.ref p] ∧ ((SqL K H p ys ∧ ∀ l, H l = none → Q (.ref l) (upd H l (.tup ys))) ∨ (SqT K H p ys ∧ Q (.ref p) H))) [d] (.tup ds) := fun F S H vs Q' hc r q => by
  obtain ⟨v, rfl, r9⟩ := rep1 r
  rcases h with h | h <;> subst h
  · cases r9 with
    | lst h1 rr => exact ⟨_, _, rfl, .inl ⟨SqL.of (hd_sub _ _ h1), fun l hl => q.new hc hl fun G sb e => .tup (SqT.of e) (rr.mono sb)⟩⟩
  · cases r9 with
    | tup h1 rr => exact ⟨_, _, rfl, .inr ⟨st_H h1, q.self hc (.tup h1 rr)⟩⟩
theorem zv_tuple (bn : Bn X.mg) (h : ZV X e Γ S d) (hd : d = .lst ds ∨ d = .tup ds := by first | exact .inl rfl | exact .inr rfl) (hg : Gl X "tuple" := by rfl) (hs : s1 X e := by rfl) : ZV X (.Call (.Name "tuple" p) [e] [] pos) Γ S (.tup ds) := fun Ex Q q =>
  ze_callTG call_tuple_of bn.tuple boot_tuple' ((zl1 h hs).za ⟨_, g_tuple hd, q⟩) hg (he := hs) (hpl := rfl)
theorem g_list (h : d = .lst ds ∨ d = .tup ds) : GivesC K (fun xs H Q => ∃ p ys, xs = [.ref p] ∧ (SqL K H p ys ∨ SqT K H p ys) ∧ ∀ l, H l = none → Q (.ref l) (upd H l (.lst ys))) [d] (.lst ds) := fun F S H vs Q' hc r q => by
  obtain ⟨v, rfl, r9⟩ := rep1 r
  rcases h with h | h <;> subst h
  · cases r9 with
    | lst h1 rr => exact ⟨_, _, rfl, .inl (SqL.of (hd_sub _ _ h1)), fun l hl => q.new hc hl fun G sb e => .lst e (rr.mono sb)⟩
  · cases r9 with
    | tup h1 rr => exact ⟨_, _, rfl, .inr (st_H h1), fun l hl => q.new hc hl fun G sb e => .lst e (rr.mono sb)⟩
theorem zv_list (bn : Bn X.mg) (h : ZV X e Γ S d) (hd : d = .lst ds ∨ d = .tup ds := by first | exact .inl rfl | exact .inr rfl) (hg : Gl X "list" := by rfl) (hs : s1 X e := by rfl) : ZV X (.Call (.Name "list" p) [e] [] pos) Γ S (.lst ds) := fun Ex Q q =>
  ze_callTG call_list_of bn.list boot_list' ((zl1 h hs).za ⟨_, g_list hd, q⟩) hg (he := hs) (hpl := rfl)
/-- divmod -/
theorem zv_divmod {i j : Int} (bn : Bn X.mg) (h : ZV X a Γ S (.int i)) (h2 : ZV X b Γ S (.int j)) (hj : 0 < j ∧ j < 1073741824) (hg : Gl X "divmod" := by rfl) (hs : starEach [a, b] X.env = (false, eval a X.env) :: starEach [b] X.env := by rfl) (hs2 : s1 X b := by rfl) (hpl : (backTo pos (starEach [b] X.env)).any (·.1) = false := by rfl) : ZV X (.Call (.Name "divmod" p) [a, b] [] pos) Γ S (.tup [.int (i / j), .int (i % j)]) := fun Ex Q q =>
  ze_callBG call_divmod bn.divmod boot_divmod' ((zl_cons h (zl1 h2 hs2) hs).za ⟨_, fun F S H vs Q' hc r k => by obtain ⟨v, w, rfl, r8, r9⟩ := rep2 r; cases r8; cases r9; exact ⟨i, j, rfl, hj, fun p hp => k.new hc hp fun G sb e => .tup (SqT.of e) (.cons .int (.cons .int .nil))⟩, q⟩) hg (he := hs) (hpl := hpl)

/-! ### items and slices -/
def rIxZ (K : PySem.W.Frag) : R2 := fun x y H Q => rIxL K x y H Q ∨ rIxT K x y H Q ∨ rIxS x y H Q
theorem ix_Z : IxR X (rIxZ X.K) := ix_list.or (ix_tup.or ix_str)
theorem atI_map {α β : Type} {f : α → β} {xs : List α} {i : Int} : atI (xs.map f) i = (atI xs i).map f := by
  unfold atI
  rw [List.length_map]
  cases ixN xs.length i with
  | none => rfl
  | some j => simp
theorem atI_rep {G} {ds : List D} {vs : List V} {i : Int} {d : D} (r : RepL K G ds vs) (h : atI ds i = some d) : ∃ v, atI vs i = some v ∧ Rep K G d v := by
  unfold atI at h ⊢
  rw [← r.length]
  cases q : ixN ds.length i with
  | none => rw [q] at h; cases h
  | some j =>
    rw [q] at h
    exact r.get h
def ixD (d : D) (i : Int) : Option D := match d with
  | .lst ds => atI ds i
  | .tup ds => atI ds i
  | .scr ns => (atI ns i).map .int
  | .str x => (atI x i).map fun c => .str [c]
  | _ => none
theorem g_ix {i : Int} (h : ixD x i = some d) : Gives2 K (rIxZ K) x (.int i) d := fun F S H v u Q' hc r1 r2 k => by
  cases r2
  cases r1 with
  | lst h1 rr =>
    obtain ⟨v, e, r⟩ := atI_rep rr h
    exact .inl ⟨_, _, i, v, rfl, rfl, SqL.of (hd_sub _ _ h1), e, k.self hc r⟩
  | tup h1 rr =>
    obtain ⟨v, e, r⟩ := atI_rep rr h
    exact .inr (.inl ⟨_, _, i, v, rfl, rfl, st_H h1, e, k.self hc r⟩)
  | scr h1 =>
    rename_i ns _
    have h' : (atI ns i).map D.int = some d := h
    cases q : atI ns i with
    | none => rw [q] at h'; cases h'
    | some z =>
      rw [q] at h'; cases h'
      exact .inl ⟨_, _, i, _, rfl, rfl, sl_H h1, by rw [atI_map, q]; rfl, k.self hc .int⟩
  | str h1 =>
    rename_i z
    have h' : (atI z i).map (fun c => D.str [c]) = some d := h
    cases q : atI z i with
    | none => rw [q] at h'; cases h'
    | some c =>
      rw [q] at h'; cases h'
      exact .inr (.inr ⟨⟨z.toArray⟩, i, c, rfl, rfl, small (by show z.toArray.size ≤ _; simp; omega), by simpa using q, k.self hc (.str (x := [c]) (by show 1 ≤ 16777000; decide))⟩)
  | _ => cases h
theorem ze_ix (h : ZE X Ex a Γ S fun x S1 => ZE X Ex b Γ S1 fun y S2 => ∃ i d, y = .int i ∧ ixD x i = some d ∧ Q d S2) (hs : PlainIx b := by exact fun _ _ => rfl) : ZE X Ex (.Subscript a b pos) Γ S Q :=
  ze_of (pe_ix ix_Z pe_self pe_self hs) fun F σ H c Q' k => opTwo (R := fun x y S2 Q => ∃ i d, y = .int i ∧ ixD x i = some d ∧ Q d S2) (fun F S H x y v u Q Q' _ hc r1 r2 ⟨i, d, e, g, q⟩ k => by subst e; exact g_ix g F S H v u Q' hc r1 r2 (.of k q)) h c k
theorem zv_ix {i : Int} (hx : ZV X a Γ S x) (hi : ZV X b Γ S (.int i)) (h : ixD x i = some d) (hs : PlainIx b := by exact fun _ _ => rfl) : ZV X (.Subscript a b pos) Γ S d := fun Ex Q q => ze_ix (hx.ze (hi.ze ⟨i, d, rfl, h, q⟩)) hs
theorem atI_lit {α : Type} {xs : List α} {k : Nat} {v : α} {i : Int} (e : i = (k : Int)) (h : xs[k]? = some v) : atI xs i = some v := by rw [e]; exact atI_nat h
def cut {α : Type} (xs : List α) (lo hi : Option Int) : List α := (xs.drop (HT.sIx xs.length 0 lo)).take (HT.sIx xs.length xs.length hi - HT.sIx xs.length 0 lo)
theorem cut_rep {G} {ds : List D} {vs : List V} {lo hi : Option Int} (r : RepL K G ds vs) : RepL K G (cut ds lo hi) (cutV vs lo hi) := by
  unfold cut cutV
  rw [r.length]
  exact (r.drop _).take _
theorem cut_map {α β : Type} {f : α → β} {xs : List α} {lo hi : Option Int} : cut (xs.map f) lo hi = (cut xs lo hi).map f := by
  unfold cut
  rw [List.length_map, List.map_take, List.map_drop]
theorem cut_len {α : Type} {xs : List α} {lo hi : Option Int} : (cut xs lo hi).length ≤ xs.length := by
  unfold cut
  rw [List.length_take, List.length_drop]; omega
def rSlZ (K : PySem.W.Frag) : V → Option Int → Option Int → Hp → VK → Prop := fun x lo hi H Q => rSlL K x lo hi H Q ∨ rSlA K x lo hi H Q ∨ rSlS x lo hi H Q
theorem sl_Z : SlR X (rSlZ X.K) := sl_list.or (sl_tupA.or sl_str)
def sliceD (d : D) (lo hi : Option Int) : Option D := match d with
  | .lst ds => some (.lst (cut ds lo hi))
  | .tup ds => some (.tup (cut ds lo hi))
  | .str x => some (.str (cut x lo hi))
  | .scr ns => some (.lst ((cut ns lo hi).map .int))
  | _ => none
theorem g_slice {lo hi : Option Int} (h : sliceD x lo hi = some d) {F S H} {v : V} {Q' : VK} (hc : HC K F S H) (r : Rep K (vw F S H) x v) (q : Ans1 K F S H d Q') : rSlZ K v lo hi H Q' := by
  cases r with
  | lst h1 rr => cases h; exact .inl ⟨_, _, rfl, SqL.of (hd_sub _ _ h1), fun p hp => q.new hc hp fun G sb e => .lst e (cut_rep (rr.mono sb))⟩
  | @scr ns _ h1 =>
    cases h
    refine .inl ⟨_, _, rfl, sl_H h1, fun p hp => q.new hc hp fun G sb e => .lst e ?_⟩
    have z := cut_rep (K := K) (G := G) (lo := lo) (hi := hi) (RepL.ints (K := K) (G := G) ns)
    rw [cut_map] at z; exact z
  | tup h1 rr =>
    cases h
    refine .inr (.inl ⟨_, _, rfl, st_H h1, fun ⟨e1, e2⟩ => ?_, fun _ p hp => q.new hc hp fun G sb e => .tup (SqT.of e) (cut_rep (rr.mono sb))⟩)
    have e3 : ∀ {ds : List D}, HT.sIx ds.length 0 lo = 0 → HT.sIx ds.length ds.length hi = ds.length → cut ds lo hi = ds := fun {ds} e1 e2 => by
      unfold cut; rw [e1, e2]; simp
    rw [← rr.length] at e1 e2
    rw [e3 e1 e2] at q
    exact q.self hc (.tup h1 rr)
  | @str z h1 =>
    cases h
    refine .inr (.inr ⟨_, rfl, small (by show z.toArray.size ≤ _; simp; omega), ?_⟩)
    have e : cutS ⟨z.toArray⟩ lo hi = (⟨(cut z lo hi).toArray⟩ : Str) := by
      unfold cutS cut
      simp [Str.length]
    rw [e]
    exact q.self hc (.str (Nat.le_trans cut_len h1))
  | _ => cases h
def ZO (X : Cx) (Ex : AX) (o : Option Expr) (Γ : Gam) (S : Store) (Q : Option Int → Store → Prop) : Prop := match o with
  | none => Q none S
  | some e => ZE X Ex e Γ S fun d S1 => ∃ i, d = .int i ∧ Q (some i) S1
theorem zo_some {i : Int} {Q : Option Int → Store → Prop} (h : ZV X e Γ S (.int i)) (q : Q (some i) S) : ZO X Ex (some e) Γ S Q := h.ze ⟨i, rfl, q⟩
theorem zo_none {Q : Option Int → Store → Prop} (q : Q none S) : ZO X Ex none Γ S Q := q
def tSelfO (X : Cx) (o : Option Expr) : TO := match o with
  | none => tNoPart
  | some e => tPart (tSelf X e)
theorem po_self : ∀ {o : Option Expr}, PO X o (tSelfO X o)
  | none => po_none
  | some e => po_some pe_self
theorem zo_run {o : Option Expr} {Q : Option Int → Store → Prop} (h : ZO X Ex o Γ S Q) {F σ H} (c : Con X Ex F Γ S σ H) {Q' : Option Int → Hp → Prop} (k : ∀ l H' S', Stp F S H S' H' → HC X.K F S' H' → Q l S' → Q' l H') : tSelfO X o σ H Q' := by
  cases o with
  | none => exact k none H S .refl c.hc h
  | some e => exact h F σ H c _ fun v H' d S' t hc r ⟨i, e, q⟩ => by subst e; cases r; exact ⟨i, rfl, k _ _ _ t hc q⟩
theorem ze_slice {lo hi : Option Expr} (h : ZE X Ex a Γ S fun x S1 => ZO X Ex lo Γ S1 fun l S2 => ZO X Ex hi Γ S2 fun u S3 => ∃ d, sliceD x l u = some d ∧ Q d S3) : ZE X Ex (.Subscript a (.Slice lo hi none p2) pos) Γ S Q :=
  ze_of (pe_slice sl_Z pe_self po_self po_self) fun F σ H c Q' k => h F σ H c _ fun v H1 x S1 t1 c1 r1 h1 => zo_run h1 (c.step t1 c1) fun l H2 S2 t2 c2 h2 => zo_run h2 ((c.step t1 c1).step t2 c2) fun u H3 S3 t3 c3 ⟨d, g, q⟩ =>
    g_slice g c3 ((r1.mono t2.ext).mono t3.ext) (.of (k.step ((t1.trans t2).trans t3)) q)
theorem zv_sliceTo {i : Int} (hx : ZV X a Γ S x) (hi : ZV X b Γ S (.int i)) (h : sliceD x none (some i) = some d := by rfl) : ZV X (.Subscript a (.Slice none (some b) none p2) pos) Γ S d := fun Ex Q q => ze_slice (hx.ze (zo_none (zo_some hi ⟨d, h, q⟩)))
theorem zv_sliceFrom {i : Int} (hx : ZV X a Γ S x) (hi : ZV X b Γ S (.int i)) (h : sliceD x (some i) none = some d := by rfl) : ZV X (.Subscript a (.Slice (some b) none none p2) pos) Γ S d := fun Ex Q q => ze_slice (hx.ze (zo_some hi (zo_none ⟨d, h, q⟩)))

/-! ### stores -/
/-- xs.append(e) of a list that may change -/
theorem ze_append {k : Nat} {q : Addr} (ho : ZV X o Γ S (.ref q)) (h : ZE X Ex e Γ S fun d S1 => ∃ ds, S1[k]? = some (q, .lst ds) ∧ ds.length < 16777216 ∧ Q .non (S1.set k (q, .lst (ds ++ [d]))))
    (hsL : s1 X e := by rfl) (hbase : attributeBase o "append" X.env (eval o X.env) = eval o X.env := by rfl)
    (hfew : ((backTo pos (starEach [e] X.env)).all (fun x => !x.1) && (backToKw pos (keywordEach [] X.env)).all (fun x => x.1.isSome) && decide (([e] : List Expr).length + ([] : List Keyword).length + (if ([] : List Keyword).isEmpty then 0 else 1) < 30)) = true := by rfl)
    (hline : (apos.endLine == pos.line) = true := by rfl) (hk0 : ∃ ds, S[k]? = some (q, .lst ds)) : ZE X Ex (.Call (.Attribute o "append" apos) [e] [] pos) Γ S Q :=
  ze_of (pe_bm PySem.F.plainAttrs_list PySem.F.slot_list_append PySem.F.type_list_append mt_append pe_self pa_self hbase hfew hline hsL rfl) fun F σ H c Q' kq => ho Ex (fun d S' => d = .ref q ∧ S' = S) ⟨rfl, rfl⟩ F σ H c _ fun v H1 d S1 t1 c1 r1 ⟨e1, e2⟩ => by
    subst e1 e2
    cases r1
    obtain ⟨ds0, hk0⟩ := hk0
    obtain ⟨xs0, h0, _⟩ := c1.get hk0
    refine ⟨.inl ⟨rfl, xs0, SqL.of h0⟩, za_cons (Q := fun xs S' => ∃ d, xs = [d] ∧ ∃ ds, S'[k]? = some (q, .lst ds) ∧ ds.length < 16777216 ∧ Q .non (S'.set k (q, .lst (ds ++ [d])))) (h.mono fun d S' q => za_nil ⟨d, rfl, q⟩) hsL F σ H1 (c.step t1 c1) _ fun vs H2 ds2 S2 t2 c2 r2 ⟨d, ed, ds, hk, hl, q2⟩ => ?_⟩
    subst ed
    obtain ⟨v, rfl, r9⟩ := rep1 r2
    obtain ⟨xs, hx, rx⟩ := c2.get hk
    obtain ⟨p1, p2⟩ := c2.put (c' := .lst (ds ++ [d])) (o := .lst (xs ++ [v])) hk ⟨_, rfl, rx.app (.cons r9 .nil)⟩
    exact ⟨q, xs, v, rfl, rfl, hx, by rw [← rx.length, sizeLine_eq]; exact hl, kq _ _ _ _ ((t1.trans t2).trans p2) p1 .non q2⟩
/-- self.f = e -/
theorem z1_fld {c f : Str} {k : Nat} {q : Addr} (hf : Fld X.K c f) (h : ZE X Ex value Γ S fun d S1 => ZE X Ex o Γ S1 fun od S2 => od = .ref q ∧ ∃ fs, S2[k]? = some (q, .ins c fs) ∧ fs.length < 1000 ∧ DE.nx Γ (S2.set k (q, .ins c (putG f d fs))))
    (hs : swapsWith value (some (.Attribute o f pos')) pos.line X.env = pure false := by rfl) : Z1 X Ex (.Assign [.Attribute o f pos'] value pos) Γ S DE :=
  z1_of (ps_fld pe_self pe_self hs) fun F σ H co D' kq => h F σ H co _ fun v H1 d S1 t1 c1 r1 h1 => h1 F σ H1 (co.step t1 c1) _ fun u H2 od S2 t2 c2 r2 ⟨e, fs, hk, hl, q2⟩ => by
    subst e
    cases r2
    obtain ⟨dx, vs, hx, rf⟩ := c2.get hk
    have put : ∀ {fs : List (Str × D)} {vs : List (Str × V)}, RepF X.K (vw F S2 H2) fs vs → RepF X.K (vw F S2 H2) (putG f d fs) (putF f v vs) := by
      intro fs vs rf
      induction fs generalizing vs with
      | nil => cases rf; exact .cons (r1.mono t2.ext) .nil
      | cons a r ih =>
        cases rf with
        | @cons n d0 v0 ds0 vs0 h0 r0 =>
          unfold putG putF
          by_cases en : n = f
          · rw [if_pos en, if_pos en]
            have := RepF.cons (n := n) (r1.mono t2.ext) r0
            rw [en] at this ⊢
            exact this
          · rw [if_neg en, if_neg en]
            exact .cons h0 (ih r0)
    obtain ⟨p1, p2⟩ := c2.put (c' := .ins c (putG f d fs)) (o := .ins (He.ga X.K c) dx (putF f v vs)) hk ⟨dx, _, rfl, put rf⟩
    refine ⟨_, _, dx, vs, rfl, hx, hf.cl, hf.no, by rw [← rf.length]; exact hl, kq.nx _ _ _ _ ((t1.trans t2).trans p2) p1 (co.rg.mono ((t1.trans t2).trans p2).ext) q2⟩
end
end Fz
end

section
namespace Fz
open PySem PySem.Spec PyProof.Rows L2
section
variable {X : Cx} {Ex : AX} {Γ : Gam} {S : Store} {Q : DQ} {elt iter tg iter1 tg1 c : Expr} {ifs ifs1 : List Expr} {pos : Pos} {scope : Scope} {own : List (Str × Nat)} {vs vs1 : List Nat} {rel rel1 : D → Gam → Gam → Prop} {DE : AEnds} {α β : Type} {as : List α} {enc f : α → D} {p : α → Bool}
/-- in every block -/
abbrev InB (X : Cx) (scope : Scope) (P : Cx → Prop) : Prop := ∀ s H C cl fp, P (Bk X scope s H C cl fp)
theorem map_get {i : Nat} {d : D} (h : (as.map enc)[i]? = some d) : ∃ x, as[i]? = some x ∧ d = enc x := by
  rw [List.getElem?_map] at h
  cases q : as[i]? with
  | none => rw [q] at h; cases h
  | some x => rw [q] at h; cases h; exact ⟨x, rfl, rfl⟩
theorem take_snoc {i : Nat} {x : α} (h : as[i]? = some x) : as.take (i + 1) = as.take i ++ [x] := by
  rw [List.take_succ, h]; rfl
theorem ask_map (he : ∀ (i : Nat) x, as[i]? = some x → ∃ Γ2, rel (enc x) (wipeG Γ vs) Γ2 ∧ InB X scope fun Y => ZV Y elt Γ2 S (f x)) (hl : as.length ≤ 16777216) (q : Q (.lst (as.map f)) S) : LcAsk X scope [] elt Γ vs rel Q (as.map enc) S := by
  refine ⟨fun i acc S' => S' = S ∧ acc = (as.take i).map f, ⟨rfl, rfl⟩, fun i d acc S' hi ⟨e1, e2⟩ => ?_, fun acc S' ⟨e1, e2⟩ => ?_⟩
  · obtain ⟨x, hx, rfl⟩ := map_get hi
    obtain ⟨Γ2, hr, hv⟩ := he i x hx
    have il := (List.getElem?_eq_some_iff.mp hx).1
    refine ⟨Γ2, hr, fun s H C cl fp => zf_nil ?_⟩
    subst e1 e2
    intro s H C cl fp
    refine (hv s H C cl fp).ze ⟨?_, rfl, ?_⟩
    · rw [sizeLine_eq, List.length_map, List.length_take]; omega
    · rw [take_snoc hx, List.map_append]; rfl
  · subst e1 e2
    rw [List.length_map, List.take_length]; exact q
theorem ask_flt (he : ∀ (i : Nat) x, as[i]? = some x → ∃ Γ2, rel (enc x) (wipeG Γ vs) Γ2 ∧ (InB X scope fun Y => ZB Y c Γ2 S (p x)) ∧ (p x = true → InB X scope fun Y => ZV Y elt Γ2 S (f x))) (hl : as.length ≤ 16777216) (q : Q (.lst ((as.filter p).map f)) S) : LcAsk X scope [c] elt Γ vs rel Q (as.map enc) S := by
  refine ⟨fun i acc S' => S' = S ∧ acc = ((as.take i).filter p).map f, ⟨rfl, rfl⟩, fun i d acc S' hi ⟨e1, e2⟩ => ?_, fun acc S' ⟨e1, e2⟩ => ?_⟩
  · obtain ⟨x, hx, rfl⟩ := map_get hi
    obtain ⟨Γ2, hr, hb, hv⟩ := he i x hx
    have il := (List.getElem?_eq_some_iff.mp hx).1
    subst e1 e2
    refine ⟨Γ2, hr, fun s H C cl fp => zf_one ((hb s H C cl fp).zt ?_)⟩
    cases hp : p x with
    | true =>
      rw [if_pos rfl]
      intro s H C cl fp
      refine (hv hp s H C cl fp).ze ⟨?_, rfl, ?_⟩
      · rw [sizeLine_eq, List.length_map]
        have := List.length_filter_le p (as.take i)
        rw [List.length_take] at this
        omega
      · rw [take_snoc hx, List.filter_append, List.map_append, List.filter_cons, hp]; rfl
    | false =>
      rw [if_neg Bool.false_ne_true]
      refine ⟨rfl, ?_⟩
      rw [take_snoc hx, List.filter_append, List.filter_cons, hp]
      simp
  · subst e1 e2
    rw [List.length_map, List.take_length]; exact q
theorem zv_map (ok : BlkOk X.N X.env.scope scope own) (ct : CTg X scope tg (own.map (·.2)) rel) (h : ZIV X tg iter Γ S (as.map enc)) (he : ∀ (i : Nat) x, as[i]? = some x → ∃ Γ2, rel (enc x) (wipeG Γ (own.map (·.2))) Γ2 ∧ InB X scope fun Y => ZV Y elt Γ2 S (f x)) (hl : as.length ≤ 16777216)
    (hs : ∀ x, foldedSetIterable iter X.env x = pure x := by intro _; rfl) : ZV X (.ListComp elt [⟨tg, iter, [], 0⟩] scope pos) Γ S (.lst (as.map f)) := fun Ex Q q => ze_lc ok ct (h.zi (ask_map he hl q)) hs
theorem zv_flt (ok : BlkOk X.N X.env.scope scope own) (ct : CTg X scope tg (own.map (·.2)) rel) (h : ZIV X tg iter Γ S (as.map enc))
    (he : ∀ (i : Nat) x, as[i]? = some x → ∃ Γ2, rel (enc x) (wipeG Γ (own.map (·.2))) Γ2 ∧ (InB X scope fun Y => ZB Y c Γ2 S (p x)) ∧ (p x = true → InB X scope fun Y => ZV Y elt Γ2 S (f x))) (hl : as.length ≤ 16777216)
    (hs : ∀ x, foldedSetIterable iter X.env x = pure x := by intro _; rfl) : ZV X (.ListComp elt [⟨tg, iter, [c], 0⟩] scope pos) Γ S (.lst ((as.filter p).map f)) := fun Ex Q q => ze_lc ok ct (h.zi (ask_flt he hl q)) hs
/-- x = [..] -/
theorem z1_setMap {i : Nat} {y : Str} {py spos : Pos} (ok : BlkOk X.N X.env.scope scope own) (ct : CTg X scope tg (own.map (·.2)) rel) (h : ZIV X tg iter Γ S (as.map enc)) (he : ∀ (i : Nat) x, as[i]? = some x → ∃ Γ2, rel (enc x) (wipeG Γ (own.map (·.2))) Γ2 ∧ InB X scope fun Y => ZV Y elt Γ2 S (f x)) (hl : as.length ≤ 16777216)
    (q : DE.nx (Γ.set i (some (.lst (as.map f)))) S)
    (hsw : swapsWith (.ListComp elt [⟨tg, iter, [], 0⟩] scope pos) (some (.Name y py)) spos.line X.env = pure true := by exact sw_true rfl rfl rfl (by decide +kernel)) (hi : X.N[i]? = some y := by rfl) (hyl : X.env.scope.names.lookup y = some .local := by rfl)
    (hs : ∀ x, foldedSetIterable iter X.env x = pure x := by intro _; rfl) : Z1 X Ex (.Assign [.Name y py] (.ListComp elt [⟨tg, iter, [], 0⟩] scope pos) spos) Γ S DE := z1_setLc ok ct (h.zi (ask_map he hl q)) hsw hi hyl hs
theorem z1_setFlt {i : Nat} {y : Str} {py spos : Pos} (ok : BlkOk X.N X.env.scope scope own) (ct : CTg X scope tg (own.map (·.2)) rel) (h : ZIV X tg iter Γ S (as.map enc))
    (he : ∀ (i : Nat) x, as[i]? = some x → ∃ Γ2, rel (enc x) (wipeG Γ (own.map (·.2))) Γ2 ∧ (InB X scope fun Y => ZB Y c Γ2 S (p x)) ∧ (p x = true → InB X scope fun Y => ZV Y elt Γ2 S (f x))) (hl : as.length ≤ 16777216)
    (q : DE.nx (Γ.set i (some (.lst ((as.filter p).map f)))) S)
    (hsw : swapsWith (.ListComp elt [⟨tg, iter, [c], 0⟩] scope pos) (some (.Name y py)) spos.line X.env = pure true := by exact sw_true rfl rfl rfl (by decide +kernel)) (hi : X.N[i]? = some y := by rfl) (hyl : X.env.scope.names.lookup y = some .local := by rfl)
    (hs : ∀ x, foldedSetIterable iter X.env x = pure x := by intro _; rfl) : Z1 X Ex (.Assign [.Name y py] (.ListComp elt [⟨tg, iter, [c], 0⟩] scope pos) spos) Γ S DE := z1_setLc ok ct (h.zi (ask_flt he hl q)) hsw hi hyl hs
/-- two clauses, no tests -/
theorem ask_map2 {bs : α → List β} {enc1 : α → β → D} {g : α → β → D}
    (he : ∀ (i : Nat) x, as[i]? = some x → ∃ Γ2, rel (enc x) (wipeG Γ vs) Γ2 ∧ (InB X scope fun Y => ZIV Y tg1 iter1 Γ2 S ((bs x).map (enc1 x))) ∧ ∀ (j : Nat) y, (bs x)[j]? = some y → ∃ Γ3, rel1 (enc1 x y) (wipeG Γ2 vs1) Γ3 ∧ InB X scope fun Y => ZV Y elt Γ3 S (g x y))
    (hl : (as.flatMap bs).length ≤ 16777216) (q : Q (.lst (as.flatMap fun x => (bs x).map (g x))) S) : Lc2Ask X scope [] [] tg1 iter1 elt Γ vs vs1 rel rel1 Q (as.map enc) S := by
  have hle : ∀ i, ((as.take i).flatMap bs).length ≤ (as.flatMap bs).length := fun i => by
    conv => rhs; rw [← List.take_append_drop i as, List.flatMap_append, List.length_append]
    omega
  have elen : ∀ (l : List α), (l.flatMap fun x => (bs x).map (g x)).length = (l.flatMap bs).length := fun l => by
    induction l with
    | nil => rfl
    | cons x r ih => rw [List.flatMap_cons, List.flatMap_cons, List.length_append, List.length_append, List.length_map, ih]
  refine ⟨fun i acc S' => S' = S ∧ acc = (as.take i).flatMap fun x => (bs x).map (g x), ⟨rfl, rfl⟩, fun i d acc S' hi ⟨e1, e2⟩ => ?_, fun acc S' ⟨e1, e2⟩ => ?_⟩
  · obtain ⟨x, hx, rfl⟩ := map_get hi
    obtain ⟨Γ2, hr, hz, hv⟩ := he i x hx
    subst e1
    refine ⟨Γ2, hr, fun s H C cl fp => zf_nil ?_⟩
    intro s H C cl fp
    refine (hz s H C cl fp).zi ⟨fun j acc1 S' => S' = S' ∧ S' = S' ∧ acc1 = acc ++ ((bs x).take j).map (g x) ∧ S' = _, ⟨rfl, rfl, by simp, rfl⟩, fun j d1 acc1 S5 hj ⟨_, _, e4, e5⟩ => ?_, fun acc1 S5 ⟨_, _, e4, e5⟩ => ?_⟩
    · obtain ⟨y, hy, rfl⟩ := map_get hj
      obtain ⟨Γ3, hr3, hv3⟩ := hv j y hy
      subst e4 e5
      refine ⟨Γ3, hr3, fun s H C cl fp => zf_nil ?_⟩
      intro s H C cl fp
      refine (hv3 s H C cl fp).ze ⟨?_, rfl, rfl, ?_, rfl⟩
      · have jl := (List.getElem?_eq_some_iff.mp hy).1
        have h1 := hle (i + 1)
        rw [take_snoc hx, List.flatMap_append, List.length_append] at h1
        rw [e2, sizeLine_eq, List.length_append, elen, List.length_map, List.length_take]
        have h2 : ([x].flatMap bs).length = (bs x).length := by simp
        omega
      · rw [take_snoc hy, List.map_append, List.append_assoc]; rfl
    · subst e4 e5
      refine ⟨rfl, ?_⟩
      rw [List.length_map, List.take_length, take_snoc hx, List.flatMap_append, e2]
      simp
  · subst e1 e2
    rw [List.length_map, List.take_length]; exact q
theorem zv_map2 {bs : α → List β} {enc1 : α → β → D} {g : α → β → D} (ok : BlkOk X.N X.env.scope scope own) (hvs : ∀ i ∈ vs1, i ∈ own.map (·.2)) (ct : CTg X scope tg (own.map (·.2)) rel) (ct1 : CTg X scope tg1 vs1 rel1) (h : ZIV X tg iter Γ S (as.map enc))
    (he : ∀ (i : Nat) x, as[i]? = some x → ∃ Γ2, rel (enc x) (wipeG Γ (own.map (·.2))) Γ2 ∧ (InB X scope fun Y => ZIV Y tg1 iter1 Γ2 S ((bs x).map (enc1 x))) ∧ ∀ (j : Nat) y, (bs x)[j]? = some y → ∃ Γ3, rel1 (enc1 x y) (wipeG Γ2 vs1) Γ3 ∧ InB X scope fun Y => ZV Y elt Γ3 S (g x y))
    (hl : (as.flatMap bs).length ≤ 16777216) (hs : ∀ x, foldedSetIterable iter X.env x = pure x := by intro _; rfl) (hs1 : ∀ env x, foldedSetIterable iter1 env x = pure x := by intro _ _; rfl) : ZV X (.ListComp elt [⟨tg, iter, [], 0⟩, ⟨tg1, iter1, [], 0⟩] scope pos) Γ S (.lst (as.flatMap fun x => (bs x).map (g x))) := fun Ex Q q =>
  ze_lc2 ok hvs ct ct1 (h.zi (ask_map2 he hl q)) hs hs1
end
end Fz
end

section
namespace Fz
open PySem PySem.Spec PyProof.Rows L2

/-! ### a set whose members are of one kind -/
section
variable {P : Program} {w : World} {A : Around} {E : Value → Shared → Prop} {s : Shared} {κ : Type} [DecidableEq κ] {knd : PySem.KeyKind P w κ}
def unlike (knd : PySem.KeyKind P w κ) (x y : Int × Value) : Prop := ∀ k, knd.is k x.2 = true → knd.is k y.2 = true → False
theorem unlike.symm {x y : Int × Value} (h : unlike knd x y) : unlike knd y x := fun k a b => h k b a
theorem elems_perm {l l' : List (Int × Value)} (p : l'.Perm l) (e : ElemsOf knd l) : ElemsOf knd l' := fun x hx => e x (p.mem_iff.mp hx)
/-- m: what is in it; n: how many -/
def Mem (knd : PySem.KeyKind P w κ) (h : Heap) (a : Addr) (m : κ → Prop) (n : Nat) : Prop :=
  ∃ ob mem ep tab, h.get? a = some ob ∧ ob.ExactSet ∧ ob.data = .set mem ep tab ∧ tab.fits mem.size = true ∧ (w.params.followText "set-order" = true ∨ tab.led = true) ∧ Ris tab.place.toList ∧
    mem.size = n ∧ n < scanBound ∧ ElemsOf knd mem.toList ∧ mem.toList.Pairwise (unlike knd) ∧ ∀ k, m k ↔ ∃ e ∈ mem.toList, knd.is k e.2 = true
theorem Mem.keep {h h' : Heap} {a : Addr} {m : κ → Prop} {n : Nat} (x : Mem knd h a m n) (k : ∀ o, h.get? a = some o → h'.get? a = some o) : Mem knd h' a m n :=
  let ⟨ob, mem, ep, tab, ho, r⟩ := x; ⟨ob, mem, ep, tab, k _ ho, r⟩
theorem Mem.of {h : Heap} {a : Addr} {m m' : κ → Prop} {n : Nat} (x : Mem knd h a m n) (e : ∀ k, m' k ↔ m k) : Mem knd h a m' n := by
  obtain ⟨ob, mem, ep, tab, h1, h2, h3, h4, h5, h6, h7, h8, h9, h10, h11⟩ := x
  exact ⟨ob, mem, ep, tab, h1, h2, h3, h4, h5, h6, h7, h8, h9, h10, fun k => (e k).trans (h11 k)⟩
theorem mem_new {h : Heap} {a : Addr} (ho : h.get? a = some { cls := .type "set", dict := none, data := .set #[] 0 (.fresh 0 0 (!w.params.followText "set-order")) }) : Mem knd h a (fun _ => False) 0 := by
  refine ⟨_, #[], 0, _, ho, ⟨rfl, rfl, rfl⟩, rfl, by rfl, ?_, .nil, rfl, by decide, fun e he => by simp at he, .nil, fun k => by simp⟩
  show _ ∨ (!w.params.followText "set-order") = true
  cases w.params.followText "set-order" <;> simp

/-- what is left to do once the new member stands in the rows -/
theorem mem_tail {g : Bool → Sem Unit} (hg : ∀ (b : Bool) (s₁ : Shared) (Q' : Unit → Shared → Prop), Q' () s₁ → wpAny (model P w) A (g b) Q' E s₁) {a : Addr} {n : Nat} {m : κ → Prop}
    {ob : Obj} {mem mem1 : Array (Int × Value)} {ep : Nat} {tab t1 : SetTable} (h1 : s.heap.get? a = some ob) (h2 : ob.ExactSet) (h3 : ob.data = .set mem ep tab)
    (f1 : t1.fits mem1.size = true) (l1 : w.params.followText "set-order" = true ∨ t1.led = true) (r1 : Ris t1.place.toList) (n1 : mem1.size = n) (hn : n < scanBound)
    (e1 : ElemsOf knd mem1.toList) (u1 : mem1.toList.Pairwise (unlike knd)) (m1 : ∀ k, m k ↔ ∃ e ∈ mem1.toList, knd.is k e.2 = true) {dm : Bool} {R : Option Bool → Shared → Prop}
    (hR : ∀ h', Heap.SameBut a s.heap h' → Mem knd h' a m n → R (some true) { s with heap := h' }) :
    wpAny (model P w) A (do
        storeSet a mem1 t1
        if (!dm && t1.tooFull) = true then do
            g (relayAll t1 mem1 (SetTable.grown mem1.size)).2.2
            storeSet a (relayAll t1 mem1 (SetTable.grown mem1.size)).1 (relayAll t1 mem1 (SetTable.grown mem1.size)).2.1
            pure (some true)
          else pure (some true)) R E s := by
  have z1 : mem1.size < scanBound := by omega
  have k1 := store_at (es' := mem1) (t' := t1) h1 h3
  have b1 := Heap.SameBut.update s.heap a (Obj.putSet mem1 t1)
  refine wpAny_bind (wpAny_storeSet_of h1 h3 ?_ (fits_of_scanBound z1))
  split
  · have hp := relayAll_perm t1 mem1 (SetTable.grown mem1.size)
    have hf := relayAll_fits t1 mem1 (SetTable.grown mem1.size)
    have hr := relayAll_ris t1 mem1 (SetTable.grown mem1.size)
    have hl := relayAll_led t1 mem1 (SetTable.grown mem1.size)
    generalize relayAll t1 mem1 (SetTable.grown mem1.size) = Z at hp hf hr hl ⊢
    obtain ⟨mem2, t2, gv⟩ := Z
    dsimp only at hp hf hr hl ⊢
    have n2 : mem2.size = n := by rw [← Array.length_toList, hp.length_eq, Array.length_toList, n1]
    refine wpAny_bind (hg _ _ _ (wpAny_bind (wpAny_storeSet_of k1 rfl ?_ (fits_of_scanBound (by omega)))))
    refine wpAny_pure (hR _ (b1.trans (Heap.SameBut.update _ a _)) ⟨_, mem2, _, t2, store_at k1 rfl, h2, rfl, hf, l1.imp id fun z => by rw [hl]; exact z, hr, n2, hn, elems_perm hp e1, ?_, fun k => ?_⟩)
    · exact (hp.pairwise_iff fun {x y} z => unlike.symm z).mpr u1
    · exact (m1 k).trans ⟨fun ⟨e, he, q⟩ => ⟨e, hp.mem_iff.mpr he, q⟩, fun ⟨e, he, q⟩ => ⟨e, hp.mem_iff.mp he, q⟩⟩
  · exact wpAny_pure (hR _ b1 ⟨_, mem1, _, t1, k1, h2, rfl, f1, l1, r1, n1, hn, e1, u1, m1⟩)

/-- one more member, met before or not -/
theorem mem_add {a : Addr} {m : κ → Prop} {n : Nat} {k : κ} {v : Value} {Q : Bool → Shared → Prop} (x : Mem knd s.heap a m n) (room : n + 1 < scanBound) (hk : knd.is k v = true) (hs : v.scannable = true)
    (hQ : ∀ b h' n', Heap.SameBut a s.heap h' → n' ≤ n + 1 → Mem knd h' a (fun j => j = k ∨ m j) n' → Q b { s with heap := h' }) : wpAny (model P w) A (setAddHashed a v (knd.hash k)) Q E s := by
  obtain ⟨ob, mem, ep, tab, h1, h2, h3, f0, l0, r0, n0, hn, e0, u0, m0⟩ := x
  have z0 : mem.size < scanBound := by omega
  unfold setAddHashed setAddHashedIn
  refine wpAny_holding (wpAny_bind (wpAny_setState_of h1 h3 f0 ?_))
  dsimp only
  rw [byScan_of hs z0 e0]
  simp only [↓reduceIte]
  unfold setAddByScan
  refine wpAny_bind (wpAny_bind (wpAny_rule (wpAny_bind (wpAny_setScan_of hk h1 h3 f0 e0 ?_))))
  cases hfi : List.findIdx? (fun e => knd.is k e.2) mem.toList with
  | some j =>
    dsimp only
    obtain ⟨hj, pj, _⟩ := List.findIdx?_eq_some_iff_getElem.mp hfi
    have mk : m k := (m0 k).mpr ⟨_, List.getElem_mem hj, pj⟩
    exact wpAny_pure (wpAny_pure (hQ _ s.heap n (Heap.SameBut.refl a s.heap) (by omega) ⟨ob, mem, ep, tab, h1, h2, h3, f0, l0, r0, n0, hn, e0, u0, fun i => ⟨fun z => (m0 i).mp (z.elim (fun c => c ▸ mk) id), fun z => .inr ((m0 i).mpr z)⟩⟩))
  | none =>
    dsimp only
    have fresh : ∀ e ∈ mem.toList, knd.is k e.2 = true → False := fun e he c => by
      have d := List.findIdx?_eq_none_iff.mp hfi e he
      rw [c] at d
      cases d
    have gw : ∀ (b : Bool) {s₁ : Shared} {Q' : Unit → Shared → Prop}, Q' () s₁ → wpAny (model P w) A (match b with | true => rule "set.scan.the-table-gave-way" | false => pure ()) Q' E s₁ :=
      fun b s₁ Q' q => by cases b <;> first | exact wpAny_pure q | exact wpAny_rule q
    have hp := layNew_perm tab mem (knd.hash k) v
    have f1 := layNew_fits tab mem (knd.hash k) v
    have r1 := layNew_ris tab mem (knd.hash k) v r0
    have l1 := layNew_led tab mem (knd.hash k) v
    generalize layNew tab mem (knd.hash k) v = Z at hp f1 r1 l1 ⊢
    obtain ⟨mem1, t1, dm, gv⟩ := Z
    dsimp only at hp f1 r1 l1 ⊢
    rw [Array.toList_push] at hp
    have hc : mem1.toList.Perm ((knd.hash k, v) :: mem.toList) := hp.trans (List.perm_append_singleton _ _)
    have n1 : mem1.size = n + 1 := by rw [← Array.length_toList, hc.length_eq, List.length_cons, Array.length_toList, n0]
    have e1 : ElemsOf knd mem1.toList := elems_perm hc fun y hy => by
      rcases List.mem_cons.mp hy with c | c
      · rw [c]; exact ⟨⟨k, hk, rfl⟩, hs⟩
      · exact e0 y c
    have u1 : mem1.toList.Pairwise (unlike knd) := (hc.pairwise_iff fun {x y} z => unlike.symm z).mpr (List.pairwise_cons.mpr ⟨fun y hy i a b => fresh y hy (by rw [knd.inj v k i hk a]; exact b), u0⟩)
    have m1 : ∀ i, (i = k ∨ m i) ↔ ∃ e ∈ mem1.toList, knd.is i e.2 = true := fun i => by
      constructor
      · rintro (c | c)
        · exact ⟨_, hc.mem_iff.mpr List.mem_cons_self, by rw [c]; exact hk⟩
        · obtain ⟨e, he, q⟩ := (m0 i).mp c
          exact ⟨e, hc.mem_iff.mpr (List.mem_cons_of_mem _ he), q⟩
      · rintro ⟨e, he, q⟩
        rcases List.mem_cons.mp (hc.mem_iff.mp he) with c | c
        · rw [c] at q
          exact .inl (knd.inj v i k q hk)
        · exact .inr ((m0 i).mpr ⟨e, c, q⟩)
    have led : w.params.followText "set-order" = true ∨ t1.led = true := l0.imp id fun z => by rw [l1]; exact z
    have fin : ∀ h', Heap.SameBut a s.heap h' → Mem knd h' a (fun j => j = k ∨ m j) (n + 1) → Q true { s with heap := h' } := fun h' sb r => hQ true h' (n + 1) sb (Nat.le_refl _) r
    refine wpAny_bind (gw _ ?_)
    split
    · rw [hashByValue_scannable 8 hs]
      refine wpAny_bind (wpAny_pure ?_)
      refine mem_tail ?_ h1 h2 h3 ?_ ?_ ?_ n1 room e1 u1 m1 fun h' sb r => ?_
      · intro b s₁ Q' q; cases b <;> first | exact wpAny_pure q | exact wpAny_rule q
      · first | (split <;> first | exact f1 | exact SetTable.fits_plain_off f1) | exact f1
      · first | (split <;> exact led) | exact led
      · first | (split <;> exact r1) | exact r1
      · dsimp only; exact wpAny_pure (fin h' sb r)
    · refine wpAny_bind (wpAny_pure ?_)
      simp only [↓reduceIte]
      refine mem_tail ?_ h1 h2 h3 f1 led r1 n1 room e1 u1 m1 fun h' sb r => ?_
      · intro b s₁ Q' q; cases b <;> first | exact wpAny_pure q | exact wpAny_rule q
      · dsimp only; exact wpAny_pure (fin h' sb r)
end
end Fz
end

section
namespace Fz
open PySem PySem.Spec PyProof.Rows L2
section
variable {P : Program} {w : World} {A : Around} {E : Value → Shared → Prop} {s : Shared} {κ : Type} [DecidableEq κ] {knd : PySem.KeyKind P w κ}

/-- the loop that takes the members in -/
theorem mem_loop {I : Addr} {fp wr : List Addr} {G : Array GenState → Array GenState → Prop} {n : Nat} {Pv : Nat → Value → Prop} {St : Nat → Shared → Prop} {R : Result → Shared → Prop}
    (W : WalksS P w A.in1 I fp wr G n Pv St) {a : Addr} (ha : a ∉ fp) (ks : List κ) (hn : ks.length = n) (hb : n + 1 < scanBound)
    (hv : ∀ i v, Pv i v → ∃ k, ks[i]? = some k ∧ knd.is k v = true ∧ v.scannable = true) :
    ∀ (f i : Nat) (s : Shared) (c : Nat), n - i = f → i ≤ n → St i s → c ≤ i → Mem knd s.heap a (fun j => j ∈ ks.take i) c →
      (∀ s' c', Moved (a :: wr) G s s' → c' ≤ n → Mem knd s'.heap a (fun j => j ∈ ks) c' → R (.ok (.ret .none)) s') → codeAny (model P w) A (.builtin "set.update.loop" ⟨[.ref a, .ref I], []⟩) R s := by
  have aw : a ∉ wr := fun z => ha (W.sub _ z)
  have more : ∀ b ∈ wr, b ∈ a :: wr := fun b z => List.mem_cons_of_mem _ z
  intro f
  induction f with
  | zero =>
    intro i s c hf hi st hc x hR
    obtain rfl : i = n := by omega
    refine codeAny_builtin F.entry_set_update_loop ?_
    rw [Around.under_plainId F.plain_set_update_loop _]
    show wpAny _ A.in1 (pyNext (.ref I) >>= _) _ _ s
    refine wpAny_bind (W.done s _ _ st fun s' mv => ?_)
    show wpAny _ A.in1 (ret Value.none) _ _ s'
    refine wpAny_pure (hR s' c (mv.mono more) hc ?_)
    have e : ks.take i = ks := List.take_of_length_le (by omega)
    rw [e] at x
    exact x.keep fun o q => mv.heap a o aw q
  | succ f ih =>
    intro i s c hf hi st hc x hR
    have lt : i < n := by omega
    refine codeAny_builtin F.entry_set_update_loop ?_
    rw [Around.under_plainId F.plain_set_update_loop _]
    show wpAny _ A.in1 (pyNext (.ref I) >>= _) _ _ s
    refine wpAny_bind (W.item i s _ _ lt st fun v s' pv st' mv => ?_)
    obtain ⟨k, hk, iv, sv⟩ := hv i v pv
    have x' := x.keep fun o q => mv.heap a o aw q
    show wpAny _ A.in1 (holding [v] (setAdd a v) >>= _) _ _ s'
    refine wpAny_bind (wpAny_holding ?_)
    unfold setAdd
    refine wpAny_holding (wpAny_bind (knd.pyHash iv ?_))
    refine mem_add (s := { s' with toks := s'.toks + 1 }) x' (by omega) iv sv fun b h' c' sb hc' y => ?_
    have z : Mem knd h' a (fun j => j ∈ ks.take (i + 1)) c' := y.of fun j => by
      rw [List.take_add_one, hk]
      simp only [Option.toList, List.mem_append, List.mem_singleton]
      exact Or.comm
    refine wpAny_pure ⟨plainId_quiet F.plain_set_update_loop _, ih (i + 1) _ c' (by omega) lt (W.frame _ s' _ _ st' (Nat.le_succ _) fun b hb o q => ?_) (by omega) z fun s2 c2 mv2 hc2 z2 => ?_⟩
    · rw [sb.2 b fun e => ha (e ▸ hb)]
      exact q
    · refine hR s2 c2 (Moved.trans W.gtrans ((mv.mono more).then_heap (Nat.le_succ _) fun b o hb q => ?_) mv2) hc2 z2
      rw [sb.2 b fun e => hb (by rw [e]; exact List.mem_cons_self)]
      exact q

def fresh0 (w : World) : Obj := { cls := .type "set", dict := none, data := .set #[] 0 (.fresh 0 0 (!w.params.followText "set-order")) }
set_option maxHeartbeats 4000000 in
/-- set(v): what it does but the taking in -/
theorem set_shell {v : Value} {Q : Value → Shared → Prop}
    (ini : ∀ A' : Around, (A.handled = none → A'.handled = none) → wpAny (model P w) A' (Builtin.«set.__init__» ⟨[.ref s.heap.objs.size, v], []⟩) (fun r s2 => r = Fin.done (.ret .none) ∧ Q (.ref s.heap.objs.size) s2) E { s with heap := s.heap.push (fresh0 w) }) :
    wpAny (model P w) A (call (.type "set") [v]) Q E s := by
  obtain ⟨c, tl, hmro⟩ := F.called_set.mro
  have hmade := F.called_set.made
  have hsub := F.called_set.sub
  refine wpAny_call (codeAny_of_tree ?_)
  show wpAny _ _ (callAny (.type "set") _) _ _ _
  refine wpAny_pure ⟨Code.quiet_builtin _ (by decide +kernel), codeAny_builtin F.entry_type_call ?_⟩
  rw [Around.under_plain (weight_type_call_type "set" [v] []) rfl]
  have h1 := F.called_set.notType
  have h2 := F.called_set.canCreate
  have hct := F.typeCall_set_1 v
  repeat (any_goals (first | assumption | wp_step))
  refine codeAny_mono (code_set_led1 v (E := E) (Q₁ := fun obj s₁ => obj = .ref s.heap.objs.size ∧ s₁ = { s with heap := s.heap.push (fresh0 w) }) ⟨rfl, rfl⟩) fun r s₁ hr => ?_
  cases r with
  | error e => exact hr
  | ok fl =>
    cases fl with
    | ret obj =>
      obtain ⟨rfl, rfl⟩ := hr
      have hT : Shared.TypeIs { s with heap := s.heap.push (fresh0 w) } (.ref s.heap.objs.size) "set" := ⟨_, Heap.get?_push_size _ rfl, rfl⟩
      have hli := F.called_set.init.lookup
      have hbi := F.called_set.init.bind (.ref s.heap.objs.size)
      repeat (any_goals (first | assumption | wp_step))
      refine codeAny_mono (codeAny_call_builtin (R := wants (fun r s₂ => r = .none ∧ Q (.ref s.heap.objs.size) s₂) E) F.called_set.init.plain F.entry_set_init (check_set_init_1 hT ?_)) fun r₂ s₂ hr₂ => ?_
      · refine wpAny_mono (ini A.in1.in1 fun z => by simpa using z) (fun r s2 q => ?_) fun e s2 q => q
        obtain ⟨rfl, q⟩ := q
        exact ⟨rfl, q⟩
      · cases r₂ with
        | error e => exact hr₂
        | ok fl₂ =>
          cases fl₂ with
          | ret r =>
            obtain ⟨rfl, hq⟩ := hr₂
            repeat (any_goals (first | assumption | wp_step))
          | _ => exact hr₂.elim
    | _ => exact hr.elim

/-- what stands ready once the loop has an iterator -/
theorem mem_taken {it a : Addr} {n : Nat} {fp : List Addr} {Pv : Nat → Value → Prop} {St : Nat → Heap → Prop} {Q : Value → Shared → Prop} {s1 : Shared} (hh : A.handled = none) (W : Walks P w A.in1 it fp [it] n Pv St) (ha : a ∉ fp) (ks : List κ) (hn : ks.length = n) (hb : n + 1 < scanBound)
    (hv : ∀ i v, Pv i v → ∃ k, ks[i]? = some k ∧ knd.is k v = true ∧ v.scannable = true) (st : St 0 s1.heap) (x : s1.heap.get? a = some (fresh0 w))
    (hQ : ∀ h' tk c, c ≤ n → Mem knd h' a (fun j => j ∈ ks) c → (∀ b o, b ≠ a → b ≠ it → s1.heap.get? b = some o → h'.get? b = some o) → Q .none { s1 with heap := h', toks := tk }) :
    wpAny (model P w) A (runValue (.builtin "set.update.loop" ⟨[.ref a, .ref it], []⟩)) Q E s1 := by
  refine wpAny_runValue (mem_loop W.toS ha ks hn hb hv (n - 0) 0 _ 0 (by omega) (Nat.zero_le _) st (Nat.le_refl _) ((mem_new x).of fun k => by simp) fun s' c mv hc y => ?_)
  obtain ⟨h', g, d, tk, os⟩ := s'
  have eg : g = s1.gens := mv.gens
  have ed : d = s1.drawn := mv.drawn
  have eo : os = s1.os := mv.os
  subst eg ed eo
  exact hQ h' tk c hc y fun b o b1 b2 q => mv.heap b o (by simp [b1, b2]) q
end
end Fz
end

section
namespace Fz
open PySem PySem.Spec PyProof.Rows L2
section
variable {P : Program} {w : World} {A : Around} {E : Value → Shared → Prop} {s : Shared} {κ : Type} [DecidableEq κ] {knd : PySem.KeyKind P w κ}

set_option maxHeartbeats 4000000 in
/-- set(xs), a list -/
theorem set_list {l : Addr} {items : Array Value} {Q : Value → Shared → Prop} (hh : A.handled = none) (hl : s.heap.IsList l items) (ks : List κ) (hn : ks.length = items.size) (hb : items.size + 1 < scanBound)
    (hv : ∀ (i : Nat) (v : Value), items[i]? = some v → ∃ k, ks[i]? = some k ∧ knd.is k v = true ∧ v.scannable = true)
    (hQ : ∀ h' tk c, c ≤ items.size → Mem knd h' s.heap.objs.size (fun j => j ∈ ks) c → (∀ b o, s.heap.get? b = some o → h'.get? b = some o) → Q (.ref s.heap.objs.size) { s with heap := h', toks := tk }) :
    wpAny (model P w) A (call (.type "set") [.ref l]) Q E s := by
  refine set_shell fun A' hA => ?_
  have hh' := hA hh
  obtain ⟨ol, hol, hcl, nl, hdl⟩ := hl
  obtain ⟨oc, od, odt, osl⟩ := ol
  simp only at hcl hdl
  subst hcl hdl
  have hlS : l < s.heap.objs.size := Heap.lt_size hol
  have hol' : (s.heap.push (fresh0 w)).get? l = some { cls := .type "list", dict := od, data := .seq items nl, slots := osl } := Heap.get?_push_of_some _ hol
  have hl1 : (s.heap.push (fresh0 w)).IsList l items := ⟨_, hol', rfl, nl, rfl⟩
  have hS : (s.heap.push (fresh0 w)).get? s.heap.objs.size = some { cls := .type "set", dict := none, data := .set #[] 0 (.fresh 0 0 (!w.params.followText "set-order")) } := Heap.get?_push_size _ rfl
  have hT : Shared.TypeIs { s with heap := s.heap.push (fresh0 w) } (.ref s.heap.objs.size) "set" := ⟨_, hS, rfl⟩
  have hsls := F.sub_list_set
  have hslf := F.sub_list_frozenset
  have hne : (Value.type "list" == Value.type "dict") = false := by decide
  unfold Builtin.«set.__init__» noKeywords Builtin.Frozenset.updateFrom
  generalize hPI : pyIter = PI
  wp_walk
  subst hPI
  refine wpAny_pyIter_list hl1 ?_
  have z1 : (s.heap.push (fresh0 w)).objs.size = s.heap.objs.size + 1 := Heap.size_push ..
  refine wpAny_bind (mem_taken (knd := knd) (by simpa using hh') (Walks.list (by simpa using hh') (s.heap.push (fresh0 w)).objs.size l (by rw [z1]; exact Nat.ne_of_lt (Nat.lt_succ_of_lt hlS)) items) (a := s.heap.objs.size) (by
      rw [z1]
      simp only [List.mem_cons, List.not_mem_nil, or_false, not_or]
      exact ⟨Nat.ne_of_lt (Nat.lt_succ_self _), Nat.ne_of_gt hlS⟩) ks hn hb hv ?st ?here fun h' tk c hc y k => ?_)
  case st => exact ⟨⟨_, Heap.get?_push_size _ rfl, rfl, rfl⟩, hl1.push _⟩
  case here => exact Heap.get?_push_of_some _ hS
  refine wpAny_pure ?_
  show wpAny _ _ (ret Value.none) _ _ _
  refine wpAny_pure ⟨rfl, hQ h' tk c hc y fun b o q => ?_⟩
  have hb := Heap.lt_size q
  refine k b o (Nat.ne_of_lt hb) (fun e => ?_) (Heap.get?_push_of_some _ (Heap.get?_push_of_some _ q))
  have e : b = s.heap.objs.size + 1 := by rw [e, ← z1]
  exact absurd hb (by rw [e]; exact Nat.not_lt.mpr (Nat.le_succ _))

set_option maxHeartbeats 4000000 in
/-- set(x), a text: its signs -/
theorem set_text {x : Str} {t : Tok} {Q : Value → Shared → Prop} (hh : A.handled = none) (hb : x.cps.size + 1 < scanBound)
    (hQ : ∀ h' tk c, c ≤ x.cps.size → Mem (PySem.strKind P w) h' s.heap.objs.size (fun j => ∃ n ∈ x.cps.toList, j = ⟨#[n]⟩) c → (∀ b o, s.heap.get? b = some o → h'.get? b = some o) → Q (.ref s.heap.objs.size) { s with heap := h', toks := tk }) :
    wpAny (model P w) A (call (.type "set") [.str x t]) Q E s := by
  refine set_shell fun A' hA => ?_
  have hh' := hA hh
  have hS : (s.heap.push (fresh0 w)).get? s.heap.objs.size = some { cls := .type "set", dict := none, data := .set #[] 0 (.fresh 0 0 (!w.params.followText "set-order")) } := Heap.get?_push_size _ rfl
  have hT : Shared.TypeIs { s with heap := s.heap.push (fresh0 w) } (.ref s.heap.objs.size) "set" := ⟨_, hS, rfl⟩
  have hsls := F.sub_str_set
  have hslf := F.sub_str_frozenset
  have hne : (Value.type "str" == Value.type "dict") = false := by decide
  unfold Builtin.«set.__init__» noKeywords Builtin.Frozenset.updateFrom
  generalize hPI : pyIter = PI
  wp_walk
  subst hPI
  have z1 : (s.heap.push (fresh0 w)).objs.size = s.heap.objs.size + 1 := Heap.size_push ..
  refine wpAny_pyIter_str fun o St W st => ?_
  refine wpAny_bind (mem_taken (knd := PySem.strKind P w) (by simpa using hh') (W _ (by simpa using hh')) (a := s.heap.objs.size) (by
      show s.heap.objs.size ∉ [(s.heap.push (fresh0 w)).objs.size]
      rw [z1]
      simp only [List.mem_cons, List.not_mem_nil, or_false]
      exact Nat.ne_of_lt (Nat.lt_succ_self _)) (x.cps.toList.map fun n => (⟨#[n]⟩ : Str)) (by simp) hb (fun i v ⟨c, u, h1, h2⟩ => ⟨⟨#[c]⟩, by rw [List.getElem?_map, Array.getElem?_toList, h1]; rfl, by rw [h2]; exact strKind_is _ _ _ _, by rw [h2]; rfl⟩)
    ?st ?here fun h' tk c hc y k => ?_)
  case st => exact st
  case here => exact Heap.get?_push_of_some _ hS
  refine wpAny_pure ?_
  show wpAny _ _ (ret Value.none) _ _ _
  refine wpAny_pure ⟨rfl, hQ h' tk c hc (y.of fun j => by simp [List.mem_map, eq_comm]) fun b o q => ?_⟩
  have hb := Heap.lt_size q
  refine k b o (Nat.ne_of_lt hb) (fun e => ?_) (Heap.get?_push_of_some _ (Heap.get?_push_of_some _ q))
  have e : b = s.heap.objs.size + 1 := by rw [e, ← z1]
  exact absurd hb (by rw [e]; exact Nat.not_lt.mpr (Nat.le_succ _))

/-- the members, each once, in some order -/
theorem mem_out {h : Heap} {a : Addr} {m : κ → Prop} {n : Nat} (x : Mem knd h a m n) : ∃ ob es ep t, h.get? a = some ob ∧ ob.cls = .type "set" ∧ ob.data = .set es ep t ∧ t.fits es.size = true ∧ es.size < scanBound ∧ Ris t.place.toList ∧ (w.params.followText "set-order" = true ∨ t.led = true) ∧
    ∀ out : List Value, out.Perm (es.toList.map (·.2)) → ∃ ks : List κ, ItemsAre knd ks out ∧ ks.Nodup ∧ (∀ k, k ∈ ks ↔ m k) ∧ ks.length = n := by
  obtain ⟨ob, mem, ep, tab, h1, h2, h3, h4, h5, h6, h7, h8, h9, h10, h11⟩ := x
  refine ⟨ob, mem, ep, tab, h1, h2.1, h3, h4, by omega, h6, h5, fun out hp => ?_⟩
  have each : ∀ v ∈ out, ∃ k, knd.is k v = true := fun v hv => by
    obtain ⟨e, he, q⟩ := List.mem_map.mp (hp.mem_iff.mp hv)
    obtain ⟨⟨k, hk, _⟩, _⟩ := h9 e he
    exact ⟨k, by rw [← q]; exact hk⟩
  have un : out.Pairwise fun u v => ∀ k, knd.is k u = true → knd.is k v = true → False :=
    (hp.pairwise_iff fun {x y} z k a b => z k b a).mpr (List.pairwise_map.mpr h10)
  have go : ∀ out : List Value, (∀ v ∈ out, ∃ k, knd.is k v = true) → out.Pairwise (fun u v => ∀ k, knd.is k u = true → knd.is k v = true → False) →
      ∃ ks : List κ, ItemsAre knd ks out ∧ ks.Nodup ∧ (∀ k, k ∈ ks ↔ ∃ v ∈ out, knd.is k v = true) := by
    intro out
    induction out with
    | nil => exact fun _ _ => ⟨[], .nil, .nil, fun k => by simp⟩
    | cons v out ih =>
      intro he hu
      obtain ⟨ks, i1, i2, i3⟩ := ih (fun v hv => he v (List.mem_cons_of_mem _ hv)) (List.pairwise_cons.mp hu).2
      obtain ⟨k, hk⟩ := he v List.mem_cons_self
      refine ⟨k :: ks, .cons hk i1, List.nodup_cons.mpr ⟨fun z => ?_, i2⟩, fun j => ?_⟩
      · obtain ⟨u, hu', q⟩ := (i3 k).mp z
        exact (List.pairwise_cons.mp hu).1 u hu' k hk q
      · rw [List.mem_cons]
        constructor
        · rintro (e | e)
          · exact ⟨v, List.mem_cons_self, by rw [e]; exact hk⟩
          · obtain ⟨u, hu', q⟩ := (i3 j).mp e
            exact ⟨u, List.mem_cons_of_mem _ hu', q⟩
        · rintro ⟨u, hu', q⟩
          rcases List.mem_cons.mp hu' with e | e
          · rw [e] at q
            exact .inl (knd.inj v j k q hk)
          · exact .inr ((i3 j).mpr ⟨u, e, q⟩)
  obtain ⟨ks, i1, i2, i3⟩ := go out each un
  refine ⟨ks, i1, i2, fun k => (i3 k).trans (Iff.trans ⟨?_, ?_⟩ (h11 k).symm), ?_⟩
  · rintro ⟨v, hv, q⟩
    obtain ⟨e, he, c⟩ := List.mem_map.mp (hp.mem_iff.mp hv)
    exact ⟨e, he, by rw [c]; exact q⟩
  · rintro ⟨e, he, q⟩
    exact ⟨e.2, hp.mem_iff.mpr (List.mem_map.mpr ⟨e, he, rfl⟩), q⟩
  · have hl : ∀ {ks : List κ} {vs : List Value}, ItemsAre knd ks vs → ks.length = vs.length := by
      intro ks vs z
      induction z with
      | nil => rfl
      | cons _ _ ih => simp [ih]
    rw [hl i1, hp.length_eq, List.length_map, Array.length_toList, h7]
end
end Fz
end

section
namespace Fz
open PySem PySem.Spec PyProof.Rows L2 PySem.W

/-! ### data as the library reads it -/
mutual
def pyD : D → PyData
  | .bl b => .bool b
  | .int i => .int i
  | .str x => .str ⟨x.toArray⟩
  | .tup ds => .tuple (pyDs ds)
  | .lst ds => .list (pyDs ds)
  | .scr ns => .list (ns.map .int)
  | _ => .none
def pyDs : List D → List PyData
  | [] => []
  | d :: ds => pyD d :: pyDs ds
end
theorem pyDs_map : ∀ ds : List D, pyDs ds = ds.map pyD
  | [] => by unfold pyDs; rfl
  | d :: ds => by unfold pyDs; rw [pyDs_map ds]; rfl
theorem pyDs_len (ds : List D) : (pyDs ds).length = ds.length := by rw [pyDs_map, List.length_map]
section
variable {X : Cx} {pins : List (Addr × Obj)} {σ : L2.St} {H G : Hp} {s : Shared}
theorem readsAll_ints {h : Heap} : ∀ {ns : List Int} {us : List Value}, IntsAre us ns → ReadsAll h us (ns.map .int) []
  | _, _, .nil => .nil
  | _, _, .cons k t r => .cons (as := []) (bs := []) (.int k t) (readsAll_ints r)
mutual
theorem reads_at (I : Inv X pins σ H s) (sb : Sub G H) : ∀ {d : D} {v : V} {u : Value} {n : Nat}, Rep X.K G d v → L2.RelV v u → dat d n = true → ∃ as, Reads s.heap u (pyD d) as
  | _, _, u, _, .non, q, _ => by cases q; exact ⟨[], by unfold pyD; exact .none⟩
  | _, _, u, _, .bl, q, _ => by cases q; exact ⟨[], by unfold pyD; exact .bool _⟩
  | _, _, u, _, .int, q, _ => by obtain ⟨t, rfl⟩ := q; exact ⟨[], by unfold pyD; exact .int _ _⟩
  | _, _, u, _, .str _, q, _ => by obtain ⟨t, rfl⟩ := q; exact ⟨[], by unfold pyD; exact .str _ _⟩
  | _, _, u, n, .tup (a := a) (ds := ds) h r, q, dd => by
    cases q
    obtain ⟨its, rv, ⟨o, e1, e2, m, e3⟩, hz⟩ := I.tuple (sb.st h)
    cases n with
    | zero => unfold dat at dd; cases dd
    | succ n =>
      unfold dat at dd
      obtain ⟨as, ra⟩ := readsL_at I sb r rv dd
      exact ⟨as, by unfold pyD; exact .tuple e1 e2 e3 (by simpa using ra)⟩
  | _, _, u, n, .lst (a := a) (ds := ds) h r, q, dd => by
    cases q
    obtain ⟨its, rv, hl, hz⟩ := I.list (SqL.of (K := X.K) (sb _ _ h))
    obtain ⟨o, e1, e2, m, e3⟩ := hl.isList
    cases n with
    | zero => unfold dat at dd; cases dd
    | succ n =>
      unfold dat at dd
      obtain ⟨as, ra⟩ := readsL_at I sb r rv dd
      exact ⟨a :: as, by unfold pyD; exact .list e1 e2 e3 (by simpa using ra)⟩
  | _, _, _, n, .ref, _, dd => by unfold dat at dd; cases n <;> cases dd
  | _, _, _, n, .scr _, _, dd => by unfold dat at dd; cases n <;> cases dd
  | _, _, _, n, .obj _ _, _, dd => by unfold dat at dd; cases n <;> cases dd
  | _, _, _, n, .dk _ _, _, dd => by unfold dat at dd; cases n <;> cases dd
  | _, _, _, n, .dt _ _, _, dd => by unfold dat at dd; cases n <;> cases dd
theorem readsL_at (I : Inv X pins σ H s) (sb : Sub G H) : ∀ {ds : List D} {vs : List V} {us : List Value} {n : Nat}, RepL X.K G ds vs → Vals vs us → dats ds n = true → ∃ as, ReadsAll s.heap us (pyDs ds) as
  | _, _, _, _, .nil, .nil, _ => ⟨[], by unfold pyDs; exact .nil⟩
  | _, _, _, n, .cons h r, .cons q qs, dd => by
    unfold dats at dd
    obtain ⟨d1, d2⟩ := Bool.and_eq_true_iff.mp dd
    obtain ⟨as, ha⟩ := reads_at I sb h q d1
    obtain ⟨bs, hb⟩ := readsL_at I sb r qs d2
    exact ⟨as ++ bs, by unfold pyDs; exact .cons ha hb⟩
end
end

/-! ### one list for a set of members -/
def insU {α : Type} (lt : α → α → Bool) (x : α) : List α → List α
  | [] => [x]
  | y :: l => if lt x y then x :: y :: l else if lt y x then y :: insU lt x l else y :: l
def uniq {α : Type} (lt : α → α → Bool) : List α → List α
  | [] => []
  | x :: l => insU lt x (uniq lt l)
structure Strict {α : Type} (lt : α → α → Bool) : Prop where
  irr : ∀ x, lt x x = false
  tr : ∀ x y z, lt x y = true → lt y z = true → lt x z = true
  tri : ∀ x y, lt x y = false → lt y x = false → x = y
section
variable {α : Type} {lt : α → α → Bool}
theorem mem_insU (st : Strict lt) (x : α) : ∀ (l : List α) (z : α), z ∈ insU lt x l ↔ z = x ∨ z ∈ l
  | [], z => by simp [insU]
  | y :: l, z => by
    unfold insU
    by_cases c : lt x y = true
    · rw [if_pos c]; simp
    · rw [if_neg c]
      by_cases c2 : lt y x = true
      · rw [if_pos c2, List.mem_cons, mem_insU st x l z, List.mem_cons]
        constructor <;> (intro h; rcases h with h | h | h <;> simp [h])
      · rw [if_neg c2]
        have e := st.tri x y (by simpa using c) (by simpa using c2)
        subst e
        simp
theorem sorted_insU (st : Strict lt) (x : α) : ∀ (l : List α), l.Pairwise (fun a b => lt a b = true) → (insU lt x l).Pairwise (fun a b => lt a b = true)
  | [], _ => by simp [insU]
  | y :: l, h => by
    obtain ⟨h1, h2⟩ := List.pairwise_cons.mp h
    unfold insU
    by_cases c : lt x y = true
    · rw [if_pos c]
      exact List.pairwise_cons.mpr ⟨fun z hz => (List.mem_cons.mp hz).elim (fun e => e ▸ c) fun e => st.tr _ _ _ c (h1 z e), h⟩
    · rw [if_neg c]
      by_cases c2 : lt y x = true
      · rw [if_pos c2]
        exact List.pairwise_cons.mpr ⟨fun z hz => ((mem_insU st x l z).mp hz).elim (fun e => e ▸ c2) (h1 z), sorted_insU st x l h2⟩
      · rw [if_neg c2]; exact h
theorem sorted_uniq (st : Strict lt) : ∀ (l : List α), (uniq lt l).Pairwise (fun a b => lt a b = true)
  | [] => .nil
  | x :: l => sorted_insU st x _ (sorted_uniq st l)
theorem mem_uniq (st : Strict lt) : ∀ (l : List α) (z : α), z ∈ uniq lt l ↔ z ∈ l
  | [], z => Iff.rfl
  | x :: l, z => by
    show z ∈ insU lt x (uniq lt l) ↔ _
    rw [mem_insU st, mem_uniq st l z, List.mem_cons]
theorem strict_ext (st : Strict lt) : ∀ {l m : List α}, l.Pairwise (fun a b => lt a b = true) → m.Pairwise (fun a b => lt a b = true) → (∀ z, z ∈ l ↔ z ∈ m) → l = m
  | [], [], _, _, _ => rfl
  | [], y :: m, _, _, h => by simpa using (h y).mpr List.mem_cons_self
  | x :: l, [], _, _, h => by simpa using (h x).mp List.mem_cons_self
  | x :: l, y :: m, hl, hm, h => by
    obtain ⟨l1, l2⟩ := List.pairwise_cons.mp hl
    obtain ⟨m1, m2⟩ := List.pairwise_cons.mp hm
    have e : x = y := by
      rcases List.mem_cons.mp ((h x).mp List.mem_cons_self) with c | c
      · exact c
      · rcases List.mem_cons.mp ((h y).mpr List.mem_cons_self) with d | d
        · exact d.symm
        · have q := st.tr _ _ _ (m1 x c) (l1 y d)
          rw [st.irr] at q
          cases q
    subst e
    congr 1
    refine strict_ext st l2 m2 fun z => ⟨fun hz => ?_, fun hz => ?_⟩
    · rcases List.mem_cons.mp ((h z).mp (List.mem_cons_of_mem _ hz)) with c | c
      · subst c
        have q := l1 z hz
        rw [st.irr] at q
        cases q
      · exact c
    · rcases List.mem_cons.mp ((h z).mpr (List.mem_cons_of_mem _ hz)) with c | c
      · subst c
        have q := m1 z hz
        rw [st.irr] at q
        cases q
      · exact c
theorem uniq_of (st : Strict lt) {l m : List α} (hl : l.Pairwise (fun a b => lt a b = true)) (h : ∀ z, z ∈ l ↔ z ∈ m) : l = uniq lt m := strict_ext st hl (sorted_uniq st m) fun z => (h z).trans (mem_uniq st m z).symm
theorem uniq_congr (st : Strict lt) {l m : List α} (h : ∀ z, z ∈ l ↔ z ∈ m) : uniq lt l = uniq lt m := uniq_of st (sorted_uniq st l) fun z => (mem_uniq st l z).trans (h z)
theorem len_insU (x : α) : ∀ l : List α, (insU lt x l).length ≤ l.length + 1
  | [] => by simp [insU]
  | y :: l => by
    have := len_insU x l
    unfold insU
    split
    · simp
    · split
      · simp; omega
      · simp
theorem len_uniq : ∀ l : List α, (uniq lt l).length ≤ l.length
  | [] => Nat.le_refl _
  | x :: l => by
    have h := len_insU (lt := lt) x (uniq lt l)
    have h2 := len_uniq l
    show (insU lt x (uniq lt l)).length ≤ l.length + 1
    omega
end
def ltI (a b : Int) : Bool := decide (a < b)
def ltN (a b : Nat) : Bool := decide (a < b)
def ltS (a b : List Nat) : Bool := decide (a < b)
theorem strictI : Strict ltI := ⟨fun x => by simp [ltI], fun x y z a b => by simp [ltI] at *; omega, fun x y a b => by simp [ltI] at *; omega⟩
theorem strictN : Strict ltN := ⟨fun x => by simp [ltN], fun x y z a b => by simp [ltN] at *; omega, fun x y a b => by simp [ltN] at *; omega⟩
theorem strictS : Strict ltS := ⟨fun x => by simp [ltS, List.lt_irrefl], fun x y z a b => by simp [ltS] at *; exact List.lt_trans a b, fun x y a b => by simp [ltS] at *; exact List.le_antisymm b a⟩
end Fz
end

section
namespace Fz
open PySem PySem.Spec PyProof.Rows L2 PySem.W
mutual
theorem reads_lt {h : Heap} : ∀ {v : Value} {d : PyData} {as : List Addr}, Reads h v d as → ∀ b ∈ as, b < h.objs.size
  | _, _, _, .none => fun b hb => nomatch hb
  | _, _, _, .bool _ => fun b hb => nomatch hb
  | _, _, _, .int _ _ => fun b hb => nomatch hb
  | _, _, _, .str _ _ => fun b hb => nomatch hb
  | _, _, _, .list ho _ _ r => fun b hb => (List.mem_cons.mp hb).elim (fun e => e ▸ Heap.lt_size ho) (readsAll_lt r b)
  | _, _, _, .tuple _ _ _ r => readsAll_lt r
  | _, _, _, .dict ho _ _ r q => fun b hb => (List.mem_append.mp hb).elim (fun z => (List.mem_cons.mp z).elim (fun e => e ▸ Heap.lt_size ho) (readsAll_lt r b)) (readsAll_lt q b)
theorem readsAll_lt {h : Heap} : ∀ {v : List Value} {d : List PyData} {as : List Addr}, ReadsAll h v d as → ∀ b ∈ as, b < h.objs.size
  | _, _, _, .nil => fun b hb => nomatch hb
  | _, _, _, .cons r q => fun b hb => (List.mem_append.mp hb).elim (reads_lt r b) (readsAll_lt q b)
end
/-- vs stand for bs and read as data that can be sorted -/
structure Able {β : Type} (enc : β → PyData) (R : Value → β → Prop) (u : Nat) (h : Heap) (vs : List Value) (bs : List β) : Prop where
  is : EachIs R vs bs
  rd : EachIs (fun v b => ∃ as, Reads h v (enc b) as) vs bs
  al : AllAlike (bs.map enc)
  so : Sortable (bs.map enc)
  sz : bs.length ≤ sizeLine
  de : ∀ b ∈ bs, u + (enc b).depth < cLine
/-- s2 comes after s and a heap between; p is not before that one -/
structure Later (s s2 : Shared) (p : Addr) : Prop where
  by_ : ∃ h1 : Heap, (∀ b o, s.heap.get? b = some o → h1.get? b = some o) ∧ (∀ b o, h1.get? b = some o → s2.heap.get? b = some o) ∧ h1.objs.size ≤ p
  gens : s2.gens = s.gens
  os : s2.os = s.os
theorem Later.inv {X : Cx} {pins : List (Addr × Obj)} {σ : L2.St} {H : Hp} {s s2 : Shared} {p : Addr} (l : Later s s2 p) (I : Inv X pins σ H s) : H p = none ∧ ∀ o, ObjOk X.prog X.w (upd H p o) s2.heap p o → Inv X pins σ (upd H p o) s2 := by
  obtain ⟨⟨h1, k1, k2, z⟩, g, e⟩ := l
  have I1 : Inv X pins σ H { s with heap := h1, toks := s.toks } := I.kept k1
  have hn : H p = none := I1.hok.fresh z
  refine ⟨hn, fun o new => ?_⟩
  have J := I1.call (ch := []) (g' := s2.gens) (d' := s2.drawn) (t' := s2.toks) (Un.laid k2 z hn) (I1.hok.laid k2 z new) (by rw [g]; exact I.bare) (fun _ z => nomatch z)
  obtain ⟨hh, gg, dd, tt, oo⟩ := s2
  have e : oo = s.os := e
  subst e
  exact J
section
variable {P : Program} {w : World} {A : Around} {E : Value → Shared → Prop} {s : Shared} {β : Type} {enc : β → PyData} {R : Value → β → Prop}
/-- sorted(u), whatever u hands out -/
theorem sorted_call {u : Value} {Q : Value → Shared → Prop} (B : List β → Prop)
    (coll : wpAny (model P w) A.in1 (collect u) (fun vs s1 => (∀ b o, s.heap.get? b = some o → s1.heap.get? b = some o) ∧ s1.gens = s.gens ∧ s1.os = s.os ∧ ∃ bs, B bs ∧ Able enc R (A.units + 8) s1.heap vs bs) E s)
    (hQ : ∀ s2 p out c bs, Later s s2 p → s2.heap.get? p = some (seqObj "list" (List.toArray out) c) → B bs → out.length = bs.length → EachIs R out (bs.mergeSort (dataLe false enc)) → Q (.ref p) s2) :
    wpAny (model P w) A (call (.builtin "sorted") [u]) Q E s := by
  refine Calls.call_function_entry kind_sorted plain_sorted entry_sorted (args_sorted1 _) ?_
  unfold Builtin.«sorted»
  refine wpAny_bind (m := checkCount "sorted" 1 1 _) (wpAny_pure ?_)
  refine wpAny_bind (wpAny_mono coll (fun vs s1 q => ?_) fun _ _ z => z)
  obtain ⟨k1, g1, o1, bs, hB, ab⟩ := q
  have hl : vs.length = bs.length := ab.is.length
  refine wpAny_bind (wpAny_newList ?_ (by rw [hl]; exact ab.sz))
  have hoL : (s1.heap.push (seqObj "list" vs.toArray 0)).get? s1.heap.objs.size = some (seqObj "list" vs.toArray 0) := Heap.get?_push_size _ rfl
  have rd : EachIs (fun v b => ∃ as, Reads (s1.heap.push (seqObj "list" vs.toArray 0)) v (enc b) as ∧ s1.heap.objs.size ∉ as) vs bs := ab.rd.mono fun v b ⟨as, r⟩ =>
    ⟨as, PyProof.Rows.Reads.keeps (fun _ _ e => Heap.get?_push_of_some _ e) r, fun z => absurd (reads_lt r _ z) (Nat.lt_irrefl _)⟩
  refine wpAny_bind (wpAny_holding ?_)
  refine list_sort_data (R := R) (enc := enc) (s := { s1 with heap := s1.heap.push (seqObj "list" vs.toArray 0) }) hoL ab.is rd ab.al ab.so ab.sz (fun b hb => ?_) fun out hol ho => ?_
  · have := ab.de b hb
    show A.units + 1 + 1 + (enc b).depth < cLine
    omega
  · obtain ⟨c, hc⟩ := sortedHeap_at (vs := vs) (out := out.toArray) hoL
    refine wpAny_pure ⟨_, rfl, hQ _ s1.heap.objs.size out c bs ⟨⟨s1.heap, k1, fun b o q1 => ?_, Nat.le_refl _⟩, g1, o1⟩ hc hB hol ho⟩
    have lt := Heap.lt_size q1
    show (sortedHeap (s1.heap.push (seqObj "list" vs.toArray 0)) s1.heap.objs.size vs out.toArray).get? b = some o
    rw [sortedHeap_old (Nat.ne_of_lt lt) (by rw [size_push']; exact Nat.lt_succ_of_lt lt)]
    exact Heap.get?_push_of_some _ q1
end
end Fz
end

section
namespace Fz
open PySem PySem.Spec PyProof.Rows L2 PySem.W
theorem each_items {P : Program} {w : World} {κ : Type} [DecidableEq κ] {knd : PySem.KeyKind P w κ} : ∀ {ks : List κ} {vs : List Value}, ItemsAre knd ks vs → EachIs (fun v k => knd.is k v = true) vs ks
  | _, _, .nil => .nil
  | _, _, .cons h r => .cons h (each_items r)
section
variable {P : Program} {w : World} {κ : Type} [DecidableEq κ] {knd : PySem.KeyKind P w κ}
/-- members that sort by lt -/
structure Kd (knd : PySem.KeyKind P w κ) (enc : κ → PyData) (lt : κ → κ → Bool) : Prop where
  st : Strict lt
  rd : ∀ k v h, knd.is k v = true → Reads h v (enc k) []
  al : ∀ a b, alike (enc a) (enc b) = true
  so : ∀ a, enc a ≠ .none ∧ ∀ xs, enc a ≠ .tuple xs
  le : dataLe false enc = fun a b => !lt b a
  d0 : ∀ a, (enc a).depth = 0
theorem Kd.total {enc : κ → PyData} {lt : κ → κ → Bool} (k : Kd knd enc lt) : TotalLe (dataLe false enc) := by
  rw [k.le]
  refine ⟨fun a b c h1 h2 => ?_, fun a b => ?_⟩
  · simp only [Bool.not_eq_true'] at *
    cases e : lt c a with
    | false => rfl
    | true =>
      cases f : lt a b with
      | true => rw [k.st.tr _ _ _ e f] at h2; cases h2
      | false =>
        have := k.st.tri a b f h1
        subst this
        rw [e] at h2; cases h2
  · simp only [Bool.not_eq_true']
    cases e : lt b a with
    | false => exact .inl rfl
    | true =>
      refine .inr ?_
      cases f : lt a b with
      | false => rfl
      | true => have := k.st.tr _ _ _ e f; rw [k.st.irr] at this; cases this
theorem Kd.sorted {enc : κ → PyData} {lt : κ → κ → Bool} (k : Kd knd enc lt) {ks : List κ} (nd : ks.Nodup) : (ks.mergeSort (dataLe false enc)).Pairwise fun a b => lt a b = true := by
  have h1 := sort_pairwise k.total ks
  have h2 : (ks.mergeSort (dataLe false enc)).Nodup := (List.mergeSort_perm ks _).nodup_iff.mpr nd
  rw [List.nodup_iff_pairwise_ne] at h2
  refine (h1.and h2).imp fun {a b} ⟨x, ne⟩ => ?_
  rw [k.le] at x
  simp only [Bool.not_eq_true'] at x
  cases f : lt a b with
  | true => rfl
  | false => exact absurd (k.st.tri a b f x) ne
variable {A : Around} {E : Value → Shared → Prop} {s : Shared}
theorem sorted_mem {enc : κ → PyData} {lt : κ → κ → Bool} (kd : Kd knd enc lt) (hh : A.handled = none) (hu : A.units + 64 < cLine) {a : Addr} {m : κ → Prop} {n : Nat} (x : Mem knd s.heap a m n) {Q : Value → Shared → Prop}
    (hQ : ∀ s2 p out c ks, Later s s2 p → s2.heap.get? p = some (seqObj "list" (List.toArray out) c) → EachIs (fun v k => knd.is k v = true) out ks → ks.Pairwise (fun a b => lt a b = true) → (∀ j, j ∈ ks ↔ m j) → ks.length ≤ 4096 → Q (.ref p) s2) :
    wpAny (model P w) A (call (.builtin "sorted") [.ref a]) Q E s := by
  obtain ⟨ob, es, ep, t, h1, h2, h3, h4, h5, h6, h7, out0⟩ := mem_out x
  refine sorted_call (enc := enc) (R := fun v k => knd.is k v = true) (fun ks : List κ => ks.Nodup ∧ (∀ j, j ∈ ks ↔ m j) ∧ ks.length < 4096) ?_ fun s2 p out c bs la hg ⟨b1, b2, b3⟩ hl ho =>
    hQ s2 p out c _ la hg ho (kd.sorted b1) (fun j => ((List.mergeSort_perm bs _).mem_iff).trans (b2 j)) (by rw [List.length_mergeSort]; exact Nat.le_of_lt b3)
  refine collect_set (A := A.in1) hh ⟨ob, h1, h2, h3⟩ h4 h5 h6 h7 fun s1 vs k1 z1 g1 o1 pm => ?_
  obtain ⟨ks, i1, i2, i3, i4⟩ := out0 vs pm
  have hl : ks.length < 4096 := by
    have e := (each_items i1).length
    rw [← e, pm.length_eq, List.length_map, Array.length_toList]
    exact h5
  refine ⟨k1, g1, o1, ks, ⟨i2, i3, hl⟩, each_items i1, (each_items i1).mono fun v k q => ⟨[], kd.rd k v _ q⟩, AllAlike.of kd.al, Sortable.others kd.so, by rw [sizeLine_eq]; omega, fun b _ => ?_⟩
  rw [kd.d0]
  omega
end
theorem not_ltI (a b : Int) : decide (a ≤ b) = !ltI b a := by
  by_cases h : a ≤ b
  · simp [ltI, h]
  · simp [ltI, h]; omega
theorem kdI {P : Program} {w : World} : Kd (PySem.intKind P w) PyData.int ltI where
  st := strictI
  rd := fun k v h q => by
    obtain ⟨t, rfl⟩ := PySem.Value.isInt_shape q
    exact .int _ _
  al := fun a b => by unfold alike; rfl
  so := fun a => ⟨fun z => (by cases z), fun xs z => (by cases z)⟩
  le := by
    rw [dataLe_int (fun k => k)]
    funext a b
    exact not_ltI a b
  d0 := fun a => by unfold PyData.depth; rfl
def ltT (a b : Str) : Bool := ltS a.cps.toList b.cps.toList
theorem strictT : Strict ltT := ⟨fun x => strictS.irr _, fun x y z a b => strictS.tr _ _ _ a b, fun x y a b => str_of_cps (strictS.tri _ _ a b)⟩
theorem isStr_shape {k : Str} {v : Value} (h : Value.isStrOf k v = true) : ∃ t, v = .str k t := by
  cases v <;> simp_all [Value.isStrOf]
theorem kdS {P : Program} {w : World} : Kd (PySem.strKind P w) PyData.str ltT where
  st := strictT
  rd := fun k v h q => by
    obtain ⟨t, rfl⟩ := isStr_shape q
    exact .str _ _
  al := fun a b => by unfold alike; rfl
  so := fun a => ⟨fun z => (by cases z), fun xs z => (by cases z)⟩
  le := by
    rw [dataLe_str (fun k => k)]
    funext a b
    show decide (a.cps.toList ≤ b.cps.toList) = !ltS b.cps.toList a.cps.toList
    unfold ltS
    exact (not_lt_str _ _).symm
  d0 := fun a => by unfold PyData.depth; rfl
end Fz
end

section
namespace Fz
open PySem PySem.Spec PyProof.Rows L2 PySem.W
theorem vals_each {P : Program} {w : World} {κ : Type} [DecidableEq κ] {knd : PySem.KeyKind P w κ} {f : κ → V} (hf : ∀ k v, knd.is k v = true → L2.RelV (f k) v) : ∀ {us : List Value} {ks : List κ}, EachIs (fun v k => knd.is k v = true) us ks → Vals (ks.map f) us
  | _, _, .nil => .nil
  | _, _, .cons h r => .cons (hf _ _ h) (vals_each hf r)
/-- what sorted(set(x)) lists -/
inductive SetV (K : PySem.W.Frag) (H : Hp) : V → List V → Prop
  | txt {z : Str} : z.cps.size + 1 < 4096 → SetV K H (.str z) ((uniq ltN z.cps.toList).map fun c => V.str ⟨#[c]⟩)
  | nums {l : Addr} {ns : List Int} : SqL K H l (ns.map V.int) → ns.length + 1 < 4096 → SetV K H (.ref l) ((uniq ltI ns).map V.int)
  | txts {l : Addr} {ss : List Str} : SqL K H l (ss.map V.str) → ss.length + 1 < 4096 → SetV K H (.ref l) ((uniq ltT ss).map V.str)
section
variable {X : Cx}
theorem vals_at {f : α → V} {as : List α} {us : List Value} (r : Vals (as.map f) us) (i : Nat) (v : Value) (h : us[i]? = some v) : ∃ a, as[i]? = some a ∧ L2.RelV (f a) v := by
  have hl : us.length = as.length := by rw [← r.length, List.length_map]
  have hi : i < as.length := by rw [← hl]; exact (List.getElem?_eq_some_iff.mp h).1
  obtain ⟨w, hw, q⟩ := r.get (i := i) (x := f as[i]) (by simp [hi])
  rw [h] at hw
  cases hw
  exact ⟨as[i], List.getElem?_eq_getElem hi, q⟩
/-- from the set that was made: Python's sorted of it -/
theorem sort_made {pins : List (Addr × Obj)} {σ : L2.St} {H : Hp} {s : Shared} {κ : Type} [DecidableEq κ] {knd : PySem.KeyKind X.prog X.w κ} {enc : κ → PyData} {lt : κ → κ → Bool} (kd : Kd knd enc lt) (hcalm : X.calm = true) (hu : X.A.units + 64 < cLine) (I : Inv X pins σ H s)
    {m : κ → Prop} {n : Nat} {a : Addr} (x : Mem knd s.heap a m n) {f : κ → V} (hf : ∀ k v, knd.is k v = true → L2.RelV (f k) v) {Q : VK}
    (hQ : ∀ ks : List κ, ks.Pairwise (fun a b => lt a b = true) → (∀ j, j ∈ ks ↔ m j) → ∀ p, H p = none → Q (.ref p) (upd H p (.lst (ks.map f)))) :
    wpAny (model X.prog X.w) X.A (call (.builtin "sorted") [.ref a]) (EP X pins σ Q) X.xe s := by
  refine sorted_mem kd (I.ok.hd hcalm) hu x fun s2 p out c ks la hg ho hs hm hz => ?_
  obtain ⟨hn, J⟩ := la.inv I
  exact ⟨.ref p, _, J (.lst (ks.map f)) ⟨by rw [List.length_map, sizeLine_eq]; omega, out, c, vals_each hf ho, hg⟩, rfl, hQ ks hs hm p hn⟩
def tSortSet (K : PySem.W.Frag) (ta : TE) : TE := fun σ H Q => ta σ H fun x H1 => ∃ xs, SetV K H1 x xs ∧ ∀ p, H1 p = none → Q (.ref p) (upd H1 p (.lst xs))
theorem pe_sortSet {a : Expr} {ta : TE} {p p2 q pos : Pos} (hc : X.calm = true) (hu : X.A.units + 64 < cLine) (hg : Gl X "sorted") (hm : X.mg "sorted" = none) (hg2 : Gl X "set") (hm2 : X.mg "set" = none) (ha : PE X a ta)
    (na : starEach [a] X.env = (false, eval a X.env) :: starEach [] X.env := by rfl) : PE X (.Call (.Name "sorted" p) [.Call (.Name "set" p2) [a] [] q] [] pos) (tSortSet X.K ta) := by
  refine ⟨fun pins s σ H Q I h => ?_⟩
  refine Call_ (ld_blt I hg hm boot_sorted ?_)
  refine PyProof.Rows.callWith_builtin1 (PyProof.Rows.args_cons ?_ rfl) rfl rfl
  refine Call_ (ld_blt I hg2 hm2 boot_set ?_)
  refine PyProof.Rows.callWith_type1 (PyProof.Rows.args_cons (thn (ha.run pins s σ H _ I h) fun v s1 ⟨x, H1, I1, r1, q1⟩ => PyProof.Rows.args_nil ?_) na) na rfl
  obtain ⟨xs, sv, q1⟩ := q1
  have hd := I1.ok.hd hc
  cases sv with
  | @txt z hz =>
    obtain ⟨t, rfl⟩ := r1
    refine set_text hd (by unfold scanBound; omega) fun h' tk c hcz y k => PyProof.Rows.args_nil ?_
    refine sort_made (s := { s1 with heap := h', toks := tk }) kdS hc hu (I1.kept k) y (f := V.str) (fun k v q => isStr_shape q) fun ks hs hm p hp => ?_
    have e : ks.map V.str = (uniq ltN z.cps.toList).map fun c => V.str ⟨#[c]⟩ := by
      have : ks = (uniq ltN z.cps.toList).map fun c => (⟨#[c]⟩ : Str) := by
        refine strict_ext strictT hs (List.pairwise_map.mpr ((sorted_uniq strictN _).imp fun {a b} q => ?_)) fun j => ?_
        · show ltS [a] [b] = true
          unfold ltS
          unfold ltN at q
          simp only [decide_eq_true_eq] at q ⊢
          exact List.cons_lt_cons_iff.mpr (.inl q)
        · rw [hm j, List.mem_map]
          exact ⟨fun ⟨n, h1, h2⟩ => ⟨n, (mem_uniq strictN _ n).mpr h1, h2.symm⟩, fun ⟨n, h1, h2⟩ => ⟨n, (mem_uniq strictN _ n).mp h1, h2.symm⟩⟩
      rw [this, List.map_map]
      rfl
    rw [e]
    exact q1 p hp
  | @nums l ns hs hz =>
    cases r1
    obtain ⟨its, rv, hl, _⟩ := I1.list hs
    have hlen : its.length = ns.length := by rw [← rv.length, List.length_map]
    refine set_list (knd := intKind X.prog X.w) hd hl.isList ns (by rw [List.size_toArray, hlen]) (by rw [List.size_toArray, hlen]; unfold scanBound; omega) (fun i v q => ?_) fun h' tk c hcz y k => PyProof.Rows.args_nil ?_
    · obtain ⟨n, h1, t, rfl⟩ := vals_at rv i v (by simpa using q)
      exact ⟨n, h1, intKind_is _ _ _ _, rfl⟩
    · refine sort_made (s := { s1 with heap := h', toks := tk }) kdI hc hu (I1.kept k) y (f := V.int) (fun k v q => PySem.Value.isInt_shape q) fun ks hs hm p hp => ?_
      rw [uniq_of strictI hs hm]
      exact q1 p hp
  | @txts l ss hs hz =>
    cases r1
    obtain ⟨its, rv, hl, _⟩ := I1.list hs
    have hlen : its.length = ss.length := by rw [← rv.length, List.length_map]
    refine set_list (knd := strKind X.prog X.w) hd hl.isList ss (by rw [List.size_toArray, hlen]) (by rw [List.size_toArray, hlen]; unfold scanBound; omega) (fun i v q => ?_) fun h' tk c hcz y k => PyProof.Rows.args_nil ?_
    · obtain ⟨n, h1, t, rfl⟩ := vals_at rv i v (by simpa using q)
      exact ⟨n, h1, strKind_is _ _ _ _, rfl⟩
    · refine sort_made (s := { s1 with heap := h', toks := tk }) kdS hc hu (I1.kept k) y (f := V.str) (fun k v q => isStr_shape q) fun ks hs hm p hp => ?_
      rw [uniq_of strictT hs hm]
      exact q1 p hp
end
/-! ### .. of data -/
def SetOf (d : D) (out : List D) : Prop := (∃ cs, d = .str cs ∧ cs.length < 4000 ∧ out = (uniq ltN cs).map fun c => .str [c]) ∨ (∃ ns : List Int, d = .lst (ns.map .int) ∧ ns.length < 4000 ∧ out = (uniq ltI ns).map .int) ∨
  ∃ ss : List (List Nat), d = .lst (ss.map .str) ∧ ss.length < 4000 ∧ out = (uniq ltS ss).map .str
theorem insU_cons {α : Type} {lt : α → α → Bool} {x y : α} {l : List α} : insU lt x (y :: l) = if lt x y then x :: y :: l else if lt y x then y :: insU lt x l else y :: l := rfl
theorem insU_map {α β : Type} {lt : α → α → Bool} {lt' : β → β → Bool} {f : α → β} (h : ∀ a b, lt' (f a) (f b) = lt a b) (x : α) : ∀ l : List α, insU lt' (f x) (l.map f) = (insU lt x l).map f
  | [] => rfl
  | y :: l => by
    rw [List.map_cons, insU_cons, insU_cons, h, h, insU_map h x l]
    split
    · rfl
    · split <;> rfl
theorem uniq_map {α β : Type} {lt : α → α → Bool} {lt' : β → β → Bool} {f : α → β} (h : ∀ a b, lt' (f a) (f b) = lt a b) : ∀ l : List α, uniq lt' (l.map f) = (uniq lt l).map f
  | [] => rfl
  | y :: l => by
    show insU lt' (f y) (uniq lt' (l.map f)) = (insU lt y (uniq lt l)).map f
    rw [uniq_map h l, insU_map h]
theorem uniq_sub {α : Type} {lt : α → α → Bool} (st : Strict lt) {p : α → Prop} {l : List α} (h : ∀ x ∈ l, p x) : ∀ x ∈ uniq lt l, p x := fun x hx => h x ((mem_uniq st l x).mp hx)
section
variable {X : Cx} {Ex : AX} {Γ : Gam} {S : Store} {Q : DQ} {a : Expr} {pos p p2 q : Pos} {d : D}
theorem setV_of {K G} {d : D} {v : V} {H : Hp} {out : List D} (r : Rep K G d v) (e : Sub G H) (h : SetOf d out) : ∃ xs, SetV K H v xs ∧ out.length < 4000 ∧ ∀ G', RepL K G' out xs := by
  rcases h with ⟨cs, rfl, hz, rfl⟩ | ⟨ns, rfl, hz, rfl⟩ | ⟨ss, rfl, hz, rfl⟩
  · cases r with
    | str hl =>
      refine ⟨_, .txt (by simpa using (by omega : cs.length + 1 < 4096)), by rw [List.length_map]; exact Nat.lt_of_le_of_lt (len_uniq _) hz, fun G' => ?_⟩
      show RepL K G' ((uniq ltN cs).map fun c => .str [c]) ((uniq ltN cs.toArray.toList).map fun c => V.str ⟨#[c]⟩)
      have := RepL.strs (K := K) (G := G') ((uniq ltN cs).map fun c => [c]) (fun x hx => by
        obtain ⟨c, _, rfl⟩ := List.mem_map.mp hx
        show 1 ≤ 16777000
        decide)
      rw [List.map_map, List.map_map] at this
      exact this
  · cases r with
    | lst hl rr =>
      rw [rr.ints_inv] at hl
      exact ⟨_, .nums (SqL.of (e _ _ hl)) (by omega), by rw [List.length_map]; exact Nat.lt_of_le_of_lt (len_uniq _) hz, fun G' => RepL.ints _⟩
  · cases r with
    | lst hl rr =>
      obtain ⟨e1, e2⟩ := rr.strs_inv
      rw [e1] at hl
      have e3 : (ss.map fun x => V.str ⟨x.toArray⟩) = (ss.map fun x => (⟨x.toArray⟩ : Str)).map V.str := by rw [List.map_map]; rfl
      rw [e3] at hl
      refine ⟨_, .txts (SqL.of (e _ _ hl)) (by rw [List.length_map]; omega), by rw [List.length_map]; exact Nat.lt_of_le_of_lt (len_uniq _) hz, fun G' => ?_⟩
      rw [uniq_map (lt := ltS) (lt' := ltT) (f := fun x => (⟨x.toArray⟩ : Str)) (fun a b => rfl), List.map_map]
      exact RepL.strs _ (uniq_sub strictS e2)
theorem ze_sortSet {j : Nat} (hr : Room j X.A) (bn : Bn X.mg) (h : ZE X Ex a Γ S fun d S1 => ∃ out, SetOf d out ∧ Q (.lst out) S1) (hg : Gl X "sorted" := by rfl) (hg2 : Gl X "set" := by rfl) (hs : s1 X a := by rfl) : ZE X Ex (.Call (.Name "sorted" p) [.Call (.Name "set" p2) [a] [] q] [] pos) Γ S Q := fun F σ H c Q' k =>
  self_of (pe_sortSet c.ok.calm hr.units hg bn.sorted hg2 bn.set pe_self hs) (h F σ H c _ fun v H1 d S1 t hc r ⟨out, so, q⟩ => by
    obtain ⟨xs, sv, hz, rl⟩ := setV_of r hd_sub so
    refine ⟨xs, sv, fun p hp => ?_⟩
    obtain ⟨n1, n2, n3⟩ := hc.new (o := .lst xs) hp
    exact k _ _ _ _ (t.trans n2) n1 (.lst n3 (rl _)) q)
theorem zv_sortSet {j : Nat} {out : List D} (hr : Room j X.A) (bn : Bn X.mg) (h : ZV X a Γ S d) (so : SetOf d out) (hg : Gl X "sorted" := by rfl) (hg2 : Gl X "set" := by rfl) (hs : s1 X a := by rfl) : ZV X (.Call (.Name "sorted" p) [.Call (.Name "set" p2) [a] [] q] [] pos) Γ S (.lst out) := fun Ex Q q => ze_sortSet hr bn (h.ze ⟨out, so, q⟩) hg hg2 hs
end
end Fz
end

section
namespace Fz
open PySem PySem.Spec PyProof.Rows L2 PySem.W
mutual
theorem depth_dat : ∀ {d : D} {n : Nat}, dat d n = true → (pyD d).depth ≤ n
  | .non, _, _ => by unfold pyD PyData.depth; exact Nat.zero_le _
  | .bl _, _, _ => by unfold pyD PyData.depth; exact Nat.zero_le _
  | .int _, _, _ => by unfold pyD PyData.depth; exact Nat.zero_le _
  | .str _, _, _ => by unfold pyD PyData.depth; exact Nat.zero_le _
  | .tup ds, n, h => by
    cases n with
    | zero => unfold dat at h; cases h
    | succ n =>
      unfold dat at h
      unfold pyD PyData.depth
      exact Nat.succ_le_succ (depths_dat h)
  | .lst ds, n, h => by
    cases n with
    | zero => unfold dat at h; cases h
    | succ n =>
      unfold dat at h
      unfold pyD PyData.depth
      exact Nat.succ_le_succ (depths_dat h)
  | .ref _, n, h => by unfold dat at h; cases n <;> cases h
  | .scr _, n, h => by unfold dat at h; cases n <;> cases h
  | .obj _ _ _, n, h => by unfold dat at h; cases n <;> cases h
  | .dk _, n, h => by unfold dat at h; cases n <;> cases h
  | .dt _, n, h => by unfold dat at h; cases n <;> cases h
theorem depths_dat : ∀ {ds : List D} {n : Nat}, dats ds n = true → PyData.depthAll (pyDs ds) ≤ n
  | [], _, _ => by unfold pyDs PyData.depthAll; exact Nat.zero_le _
  | d :: ds, n, h => by
    unfold dats at h
    obtain ⟨a, b⟩ := Bool.and_eq_true_iff.mp h
    unfold pyDs PyData.depthAll
    exact Nat.max_le.mpr ⟨depth_dat a, depths_dat b⟩
end
/-- what an iterable hands out -/
def srcD : D → Option (List D)
  | .lst ds => some ds
  | .tup ds => some ds
  | .str cs => some (cs.map fun c => .str [c])
  | _ => none
def srt (ds : List D) : List D := ds.mergeSort (dataLe false pyD)
def rSrt (K : PySem.W.Frag) : List V → Hp → VK → Prop := fun vs H Q => ∃ G v d ds, vs = [v] ∧ Sub G H ∧ Rep K G d v ∧ srcD d = some ds ∧ dats ds 50 = true ∧ AllAlike (ds.map pyD) ∧ Sortable (ds.map pyD) ∧ ds.length ≤ 16777216 ∧
  ∀ xs p, RepL K G (srt ds) xs → H p = none → Q (.ref p) (upd H p (.lst xs))
section
variable {X : Cx} {pins : List (Addr × Obj)} {σ : L2.St} {H G : Hp} {s : Shared}
theorem each_rep {K G} : ∀ {ds : List D} {vs : List V} {us : List Value}, RepL K G ds vs → Vals vs us → EachIs (fun u d => ∃ x, L2.RelV x u ∧ Rep K G d x) us ds
  | _, _, _, .nil, .nil => .nil
  | _, _, _, .cons h r, .cons q t => .cons ⟨_, q, h⟩ (each_rep r t)
theorem rep_each {K G} : ∀ {ds : List D} {us : List Value}, EachIs (fun u d => ∃ x, L2.RelV x u ∧ Rep K G d x) us ds → ∃ vs, RepL K G ds vs ∧ Vals vs us
  | _, _, .nil => ⟨[], .nil, .nil⟩
  | _, _, .cons ⟨x, q, h⟩ t => by
    obtain ⟨vs, h1, h2⟩ := rep_each t
    exact ⟨x :: vs, .cons h h1, .cons q h2⟩
theorem each_both {α β : Type} {R T : α → β → Prop} : ∀ {us : List α} {bs : List β}, EachIs R us bs → EachIs T us bs → EachIs (fun u b => R u b ∧ T u b) us bs
  | _, _, .nil, .nil => .nil
  | _, _, .cons h r, .cons q t => .cons ⟨h, q⟩ (each_both r t)
theorem reads_each {h : Heap} : ∀ {ds : List D} {us : List Value} {as : List Addr}, ReadsAll h us (pyDs ds) as → EachIs (fun u d => ∃ as, Reads h u (pyD d) as) us ds
  | [], us, as, r => by unfold pyDs at r; cases r; exact .nil
  | d :: ds, us, as, r => by
    unfold pyDs at r
    cases r with
    | cons h t => exact .cons ⟨_, h⟩ (reads_each t)
theorem each_keep {h h' : Heap} (k : ∀ b o, h.get? b = some o → h'.get? b = some o) {ds : List D} {us : List Value} (e : EachIs (fun u d => ∃ as, Reads h u (pyD d) as) us ds) : EachIs (fun u d => ∃ as, Reads h' u (pyD d) as) us ds :=
  e.mono fun _ _ ⟨as, r⟩ => ⟨as, PyProof.Rows.Reads.keeps k r⟩
theorem sign_items {K G} {x : Str} {acc : Array Value} {h : Heap} (hi : ItemsOf (SignAt x) acc x.cps.size) : EachIs (fun u d => (∃ y, L2.RelV y u ∧ Rep K G d y) ∧ ∃ as, Reads h u (pyD d) as) acc.toList (x.cps.toList.map fun c => D.str [c]) := by
  have hl : acc.toList.length = (x.cps.toList.map fun c => D.str [c]).length := by rw [List.length_map, Array.length_toList, Array.length_toList]; exact hi.1
  refine EachIs.of_zip hl fun p hp => ?_
  obtain ⟨i, hi', e⟩ := List.mem_iff_getElem.mp hp
  rw [List.getElem_zip] at e
  rw [List.length_zip] at hi'
  have i1 : i < acc.size := by rw [Array.length_toList] at hi'; omega
  obtain ⟨c, t, h1, h2⟩ := hi.2 i _ (Array.getElem?_eq_getElem i1)
  rw [← e]
  have e2 : (x.cps.toList.map fun c => D.str [c])[i]'(by omega) = .str [c] := by
    rw [List.getElem_map]
    congr 1
    have := (Array.getElem?_eq_some_iff.mp h1).2
    rw [Array.getElem_toList, this]
  have e1 : acc.toList[i]'(by simpa using i1) = .str ⟨#[c]⟩ t := by rw [Array.getElem_toList, h2]
  show (∃ y, L2.RelV y (acc.toList[i]'_) ∧ Rep K G ((x.cps.toList.map fun c => D.str [c])[i]'_) y) ∧ ∃ as, Reads h (acc.toList[i]'_) (pyD ((x.cps.toList.map fun c => D.str [c])[i]'_)) as
  rw [e1, e2]
  exact ⟨⟨.str ⟨#[c]⟩, ⟨t, rfl⟩, .str (x := [c]) (by show 1 ≤ 16777000; decide)⟩, [], by unfold pyD; exact .str _ _⟩
theorem cr_srt (hc : X.calm = true) (hu : X.A.units + 64 < cLine) : CallR X (.builtin "sorted") (rSrt X.K) := by
  intro pins s σ H vs us Q I r ⟨G, v, d, ds, e, sb, rp, sd, dd, al, so, sz, q⟩
  subst e
  obtain ⟨u, rfl, ru⟩ := r.one
  have de : ∀ b ∈ ds, X.A.units + 8 + (pyD b).depth < cLine := fun b hb => by
    obtain ⟨i, hi⟩ := List.mem_iff_getElem?.mp hb
    have := depth_dat (dats_get dd hi)
    omega
  have fin : ∀ (s2 : Shared) (p : Addr) (out : List Value) (c : Nat) (bs : List D), Later s s2 p → s2.heap.get? p = some (seqObj "list" (List.toArray out) c) → bs = ds → out.length = bs.length →
      EachIs (fun u d => ∃ x, L2.RelV x u ∧ Rep X.K G d x) out (bs.mergeSort (dataLe false pyD)) → EP X pins σ Q (.ref p) s2 := by
    intro s2 p out c bs la hg e hl ho
    subst e
    obtain ⟨xs, h1, h2⟩ := rep_each ho
    obtain ⟨hn, J⟩ := la.inv I
    exact ⟨.ref p, _, J (.lst xs) ⟨by rw [h2.length, hl, sizeLine_eq]; exact sz, out, c, h2, hg⟩, rfl, q xs p h1 hn⟩
  have hd := I.ok.hd hc
  cases rp with
  | lst hl rr =>
    cases sd
    cases ru
    obtain ⟨its, rv, hl2, _⟩ := I.list (SqL.of (K := X.K) (sb _ _ hl))
    obtain ⟨o, e1, e2, m, e3⟩ := hl2.isList
    obtain ⟨as, ra⟩ := readsL_at I sb rr rv dd
    have hlen : its.length = ds.length := by rw [← rv.length, rr.length]
    refine sorted_call (enc := pyD) (R := fun u d => ∃ x, L2.RelV x u ∧ Rep X.K G d x) (fun bs => bs = ds) ?_ fin
    exact wpAny_collect_seq _ (.inl rfl) e1 e2 e3 (fun h' k => ⟨k, rfl, rfl, ds, rfl, ⟨each_rep rr rv, each_keep k (reads_each ra), al, so, by rw [sizeLine_eq]; exact sz, de⟩⟩) (by rw [List.size_toArray, hlen, sizeLine_eq]; exact sz)
  | tup hl rr =>
    cases sd
    cases ru
    obtain ⟨its, rv, hl2, _⟩ := I.tuple (sb.st hl)
    obtain ⟨o, e1, e2, m, e3⟩ := hl2
    obtain ⟨as, ra⟩ := readsL_at I sb rr rv dd
    have hlen : its.length = ds.length := by rw [← rv.length, rr.length]
    refine sorted_call (enc := pyD) (R := fun u d => ∃ x, L2.RelV x u ∧ Rep X.K G d x) (fun bs => bs = ds) ?_ fin
    exact wpAny_collect_seq _ (.inr rfl) e1 e2 e3 (fun h' k => ⟨k, rfl, rfl, ds, rfl, ⟨each_rep rr rv, each_keep k (reads_each ra), al, so, by rw [sizeLine_eq]; exact sz, de⟩⟩) (by rw [List.size_toArray, hlen, sizeLine_eq]; exact sz)
  | @str x hl =>
    cases sd
    obtain ⟨t, rfl⟩ := ru
    refine sorted_call (enc := pyD) (R := fun u d => ∃ x, L2.RelV x u ∧ Rep X.K G d x) (fun bs => bs = x.map fun c => .str [c]) ?_ fin
    refine wpAny_collect_str (A := X.A.in1) hd _ t (fun s' acc k g _ o hi => ⟨k, g, o, _, rfl, ?_⟩) (by rw [sizeLine_eq]; show x.toArray.size ≤ _; rw [List.size_toArray]; rw [List.length_map] at sz; exact sz)
    have si := sign_items (K := X.K) (G := G) (h := s'.heap) hi
    rw [show (⟨x.toArray⟩ : Str).cps.toList = x from by simp] at si
    exact ⟨si.mono fun _ _ z => z.1, si.mono fun _ _ z => z.2, al, so, by rw [sizeLine_eq]; exact sz, de⟩
  | _ => cases sd
end

/-! ### plain words -/
def isort (ns : List Int) : List Int := ns.mergeSort fun a b => decide (a ≤ b)
def ssort (ss : List (List Nat)) : List (List Nat) := ss.mergeSort fun a b => decide (a ≤ b)
def nsort (ns : List Nat) : List Nat := ns.mergeSort fun a b => decide (a ≤ b)
theorem pyD_int : (fun a : Int => pyD (.int a)) = PyData.int := by funext a; unfold pyD; rfl
theorem pyD_str : (fun a : List Nat => pyD (.str a)) = fun a => PyData.str ⟨a.toArray⟩ := by funext a; unfold pyD; rfl
theorem le_map {α : Type} (f : α → D) (a b : α) : dataLe false pyD (f a) (f b) = dataLe false (fun z => pyD (f z)) a b := rfl
theorem srt_ints (ns : List Int) : srt (ns.map .int) = (isort ns).map .int := by
  refine (List.map_mergeSort fun a _ b _ => ?_).symm
  rw [le_map D.int, pyD_int, dataLe_int (fun k => k)]
theorem srt_strs (ss : List (List Nat)) : srt (ss.map .str) = (ssort ss).map .str := by
  refine (List.map_mergeSort fun a _ b _ => ?_).symm
  rw [le_map D.str, pyD_str, dataLe_str (fun k : List Nat => (⟨k.toArray⟩ : Str))]
theorem srt_signs (ss : List Nat) : srt (ss.map fun c => .str [c]) = (nsort ss).map fun c => .str [c] := by
  refine (List.map_mergeSort fun a _ b _ => ?_).symm
  have e : (fun a : Nat => pyD (.str [a])) = fun a => PyData.str ⟨#[a]⟩ := by funext a; unfold pyD; rfl
  rw [le_map (fun c => D.str [c]), e, dataLe_str (fun k : Nat => (⟨#[k]⟩ : Str))]
  show decide (a ≤ b) = decide ([a] ≤ [b])
  congr 1
  simp [List.cons_le_cons_iff]
  omega
/-- items that can be sorted -/
structure Srt (ds : List D) : Prop where
  dd : dats ds 50 = true
  al : AllAlike (ds.map pyD)
  so : Sortable (ds.map pyD)
  sz : ds.length ≤ 16777216
theorem srtI {ns : List Int} (h : ns.length ≤ 16777216) : Srt (ns.map .int) where
  dd := dats_of fun d hd => by obtain ⟨n, _, rfl⟩ := List.mem_map.mp hd; unfold dat; rfl
  al := by rw [List.map_map]; exact AllAlike.of (enc := fun a : Int => pyD (.int a)) fun a b => by unfold pyD alike; rfl
  so := by rw [List.map_map]; exact Sortable.others (enc := fun a : Int => pyD (.int a)) fun a => by unfold pyD; exact ⟨fun z => (by cases z), fun xs z => (by cases z)⟩
  sz := by rw [List.length_map]; exact h
theorem srtS {ns : List (List Nat)} (h : ns.length ≤ 16777216) : Srt (ns.map .str) where
  dd := dats_of fun d hd => by obtain ⟨n, _, rfl⟩ := List.mem_map.mp hd; unfold dat; rfl
  al := by rw [List.map_map]; exact AllAlike.of (enc := fun a : List Nat => pyD (.str a)) fun a b => by unfold pyD alike; rfl
  so := by rw [List.map_map]; exact Sortable.others (enc := fun a : List Nat => pyD (.str a)) fun a => by unfold pyD; exact ⟨fun z => (by cases z), fun xs z => (by cases z)⟩
  sz := by rw [List.length_map]; exact h
theorem srtC {ns : List Nat} (h : ns.length ≤ 16777216) : Srt (ns.map fun c => .str [c]) := by
  have := srtS (ns := ns.map fun c => [c]) (by rw [List.length_map]; exact h)
  rw [List.map_map] at this
  exact this
section
variable {X : Cx} {Ex : AX} {Γ : Gam} {S : Store} {Q : DQ} {a e : Expr} {pos p p2 q : Pos} {d : D} {ds : List D} {K : PySem.W.Frag}
theorem g_srt (h : srcD d = some ds) (k : Srt ds) : GivesC K (rSrt K) [d] (.lst (srt ds)) := fun F S H vs Q' hc r q => by
  obtain ⟨v, rfl, r9⟩ := rep1 r
  exact ⟨_, v, d, ds, rfl, hd_sub, r9, h, k.dd, k.al, k.so, k.sz, fun xs p rl hp => q.new hc hp fun G sb e => .lst e (rl.mono sb)⟩
theorem ze_srt {j : Nat} (hr : Room j X.A) (bn : Bn X.mg) (hc : X.calm = true) (h : ZE X Ex e Γ S fun d S1 => ∃ ds, srcD d = some ds ∧ Srt ds ∧ Q (.lst (srt ds)) S1) (hg : Gl X "sorted" := by rfl) (hs : s1 X e := by rfl) : ZE X Ex (.Call (.Name "sorted" p) [e] [] pos) Γ S Q :=
  ze_callBG (cr_srt hc hr.units) bn.sorted boot_sorted (za_cons (h.mono fun d S1 ⟨ds, a, b, q⟩ => za_nil ⟨_, g_srt a b, q⟩) hs) hg (he := hs) (hpl := rfl)
theorem zv_srt {j : Nat} (hr : Room j X.A) (bn : Bn X.mg) (hc : X.calm = true) (h : ZV X e Γ S d) (hd : srcD d = some ds) (k : Srt ds) {out : List D} (ho : srt ds = out) (hg : Gl X "sorted" := by rfl) (hs : s1 X e := by rfl) : ZV X (.Call (.Name "sorted" p) [e] [] pos) Γ S (.lst out) := fun Ex Q q =>
  ze_srt hr bn hc (h.ze ⟨ds, hd, k, by rw [ho]; exact q⟩) hg hs
end
end Fz
end

section
namespace Fz
open PySem PySem.Spec PyProof.Rows L2 PySem.W
abbrev joinL := TL.joinL
theorem len_join (sep : List Nat) : ∀ ys : List (List Nat), (joinL sep ys).length ≤ (ys.map List.length).sum + ys.length * sep.length
  | [] => by simp [TL.joinL]
  | [y] => by simp [TL.joinL]
  | y :: z :: r => by
    have := len_join sep (z :: r)
    simp only [joinL, TL.joinL] at *
    simp only [List.length_append, List.map_cons, List.sum_cons, List.length_cons] at *
    simp only [Nat.add_mul, Nat.one_mul] at *
    omega
def splitL (c : Nat) (a : List Nat) : List (List Nat) := TL.spl [c] 0 [] a
theorem len_spl (b : List Nat) : ∀ (a : List Nat) (k : Nat) (acc : List Nat) (p : List Nat), p ∈ TL.spl b k acc a → p.length ≤ acc.length + a.length
  | [], k, acc, p, h => by
    rw [TL.spl_nil] at h
    rw [List.mem_singleton.mp h]; simp
  | c :: r, 0, acc, p, h => by
    cases e : TL.pre b (c :: r) with
    | true =>
      rw [TL.spl_hit e] at h
      rcases List.mem_cons.mp h with q | q
      · rw [q]; simp
      · have := len_spl b r _ [] p q
        simp only [List.length_cons, List.length_nil] at *
        omega
    | false =>
      rw [TL.spl_miss e] at h
      have := len_spl b r 0 _ p h
      simp only [List.length_append, List.length_cons, List.length_nil] at *
      omega
  | c :: r, k + 1, acc, p, h => by
    have e : TL.spl b (k + 1) acc (c :: r) = TL.spl b k acc r := by rw [TL.spl_pass b (k + 1), TL.spl_pass b k]; rfl
    rw [e] at h
    have := len_spl b r k acc p h
    simp only [List.length_cons] at *
    omega
theorem split_join {c : Nat} {parts : List (List Nat)} (hne : parts ≠ []) (h : ∀ p ∈ parts, c ∉ p) : splitL c (joinL [c] parts) = parts := SX.spl_join hne h
/-- the class of a datum -/
inductive TyD (K : PySem.W.Frag) (S : Store) : D → Value → Prop
  | non : TyD K S .non (.type "NoneType")
  | bl {b} : TyD K S (.bl b) (.type "bool")
  | int {i} : TyD K S (.int i) (.type "int")
  | str {x} : TyD K S (.str x) (.type "str")
  | tup {ds} : TyD K S (.tup ds) (.type "tuple")
  | lst {ds} : TyD K S (.lst ds) (.type "list")
  | scr {ns} : TyD K S (.scr ns) (.type "list")
  | dk {ks} : TyD K S (.dk ks) (.type "dict")
  | dt {ks} : TyD K S (.dt ks) (.type "dict")
  | obj {a c fs} (h : C8.InsC K (He.ga K c)) : TyD K S (.obj a c fs) (.ref (He.ga K c))
  | chg {p : Addr} {i : Nat} {c : Str} {fs : List (Str × D)} (h : C8.InsC K (He.ga K c)) (e : S[i]? = some (p, Cell.ins c fs)) : TyD K S (.ref p) (.ref (He.ga K c))
section
variable {X : Cx} {Ex : AX} {Γ : Gam} {S : Store} {Q : DQ} {a b e o : Expr} {es : List Expr} {pos p p2 q apos cpos : Pos} {d x y : D} {ds : List D} {K : PySem.W.Frag} {n : Str}
/-! ### methods of texts -/
/-- a one-argument method of a text -/
theorem ze_m1 {id : String} {name : Str} {r : V → List V → Hp → VK → Prop} (slot : Slot "str" name id) (ty : typeOf (.builtin id) = pure (.type "method_descriptor")) (rule : MtR X id r)
    (h : ZE X Ex o Γ S fun x S1 => ∃ z, x = .str z ∧ ZE X Ex e Γ S1 fun y S2 => ∃ d, Gives2 X.K (fun v u H Q => r v [u] H Q) x y d ∧ Q d S2)
    (hs : starEach [e] X.env = [(false, eval e X.env)] := by rfl) (hbase : attributeBase o name X.env (eval o X.env) = eval o X.env := by rfl) (hline : (apos.endLine == pos.line) = true := by rfl) : ZE X Ex (.Call (.Attribute o name apos) [e] [] pos) Γ S Q :=
  ze_of (pe_m1 slot ty rule pe_self pe_self hs hbase hline) fun F σ H c Q' k => h F σ H c _ fun v H1 x S1 t1 c1 r1 ⟨z, ez, h1⟩ => by
    subst ez
    cases r1 with
    | str hz =>
      exact ⟨⟨_, rfl⟩, h1 F σ H1 (c.step t1 c1) _ fun u H2 y S2 t2 c2 r2 ⟨d, g, q⟩ => g F S2 H2 _ _ Q' c2 (.str hz) r2 (.of (k.step (t1.trans t2)) q)⟩
abbrev rJoin (K : PySem.W.Frag) : V → List V → Hp → VK → Prop := fun x xs H Q => ∃ a p, ∃ ys : List Str, x = .str a ∧ xs = [.ref p] ∧ (SqL K H p (ys.map V.str) ∨ SqT K H p (ys.map V.str)) ∧
    (ys.map (·.length)).sum + ys.length * a.length ≤ 16777216 ∧ Q (.str (Txt.join a ys)) H
/-- the parts are texts -/
def joinOk (sep : List Nat) (d : D) (ss : List (List Nat)) : Prop := (d = .lst (ss.map .str) ∨ d = .tup (ss.map .str)) ∧ (ss.map List.length).sum + ss.length * sep.length ≤ 16777000
theorem map_strs (ss : List (List Nat)) : (ss.map fun x => V.str ⟨x.toArray⟩) = (ss.map SX.S).map V.str := by rw [List.map_map]; rfl
theorem g_join {sep : List Nat} {ss : List (List Nat)} (h : joinOk sep d ss) : Gives2 K (fun v u H Q => rJoin K v [u] H Q) (.str sep) d (.str (joinL sep ss)) := fun F S H v u Q' hc r1 r2 k => by
  obtain ⟨hd, hz⟩ := h
  cases r1 with
  | str h1 =>
    have fin : ∀ p, (SqL K H p ((ss.map SX.S).map V.str) ∨ SqT K H p ((ss.map SX.S).map V.str)) → rJoin K (.str ⟨sep.toArray⟩) [.ref p] H Q' := fun p hp => by
      refine ⟨SX.S sep, p, ss.map SX.S, rfl, rfl, hp, ?_, ?_⟩
      · rw [List.map_map, List.length_map, SX.S_len, show ((fun x : Str => x.length) ∘ SX.S) = List.length from funext fun x => SX.S_len x]
        omega
      · rw [SX.join_S]
        exact k.self hc (.str (Nat.le_trans (len_join sep ss) hz))
    rcases hd with e | e <;> subst e
    · cases r2 with
      | lst hl rr =>
        rw [(rr.strs_inv).1, map_strs] at hl
        exact fin _ (.inl (SqL.of (hd_sub _ _ hl)))
    · cases r2 with
      | tup hl rr =>
        rw [(rr.strs_inv).1, map_strs] at hl
        exact fin _ (.inr (st_H hl))
theorem ze_join (h : ZE X Ex o Γ S fun x S1 => ∃ sep, x = .str sep ∧ ZE X Ex e Γ S1 fun y S2 => ∃ ss, joinOk sep y ss ∧ Q (.str (joinL sep ss)) S2)
    (hs : starEach [e] X.env = [(false, eval e X.env)] := by rfl) (hbase : attributeBase o "join" X.env (eval o X.env) = eval o X.env := by rfl) (hline : (apos.endLine == pos.line) = true := by rfl) : ZE X Ex (.Call (.Attribute o "join" apos) [e] [] pos) Γ S Q :=
  ze_m1 F.slot_str_join F.type_str_join mt_join (h.mono fun x S1 ⟨sep, e1, h1⟩ => ⟨sep, e1, h1.mono fun y S2 ⟨ss, ok, q⟩ => ⟨_, e1 ▸ g_join ok, q⟩⟩) hs hbase hline
theorem zv_join {sep : List Nat} {ss : List (List Nat)} (ho : ZV X o Γ S (.str sep)) (he : ZV X e Γ S y) (ok : joinOk sep y ss)
    (hs : starEach [e] X.env = [(false, eval e X.env)] := by rfl) (hbase : attributeBase o "join" X.env (eval o X.env) = eval o X.env := by rfl) (hline : (apos.endLine == pos.line) = true := by rfl) : ZV X (.Call (.Attribute o "join" apos) [e] [] pos) Γ S (.str (joinL sep ss)) := fun Ex Q q =>
  ze_join (ho.ze ⟨sep, rfl, he.ze ⟨ss, ok, q⟩⟩) hs hbase hline
theorem g_split {c : Nat} {z : List Nat} (hc256 : c < 256) (hz : z.length ≤ 16777000) : Gives2 K (fun v u H Q => ∃ a b, v = V.str a ∧ [u] = [V.str b] ∧ (b.length == 0) = false ∧ a.length + 2 ≤ sizeLine ∧ rNewStrs (Txt.split a b) H Q) (.str z) (.str [c]) (.lst ((splitL c z).map .str)) := fun F S H v u Q' hc r1 r2 k => by
  cases r1 with
  | str h1 =>
    cases r2 with
    | str h2 =>
      refine ⟨SX.S z, SX.S [c], rfl, rfl, rfl, ?_, fun p hp => ?_⟩
      · rw [SX.S_len, sizeLine_eq]; omega
      · have e : Txt.split (SX.S z) (SX.S [c]) = (splitL c z).map SX.S := SX.split_S (by simp) (by simp [hc256])
        rw [e, ← map_strs]
        refine k.new hc hp fun G sb e => .lst e (RepL.strs _ fun x hx => ?_)
        have := len_spl [c] z 0 [] x hx
        simp only [List.length_nil] at this
        omega
theorem zv_split {c : Nat} {z : List Nat} (ho : ZV X o Γ S (.str z)) (he : ZV X e Γ S (.str [c])) (h256 : c < 256) (hz : z.length ≤ 16777000)
    (hs : starEach [e] X.env = [(false, eval e X.env)] := by rfl) (hbase : attributeBase o "split" X.env (eval o X.env) = eval o X.env := by rfl) (hline : (apos.endLine == pos.line) = true := by rfl) : ZV X (.Call (.Attribute o "split" apos) [e] [] pos) Γ S (.lst ((splitL c z).map .str)) := fun Ex Q q =>
  ze_m1 F.slot_str_split F.type_str_split mt_split (ho.ze ⟨z, rfl, he.ze ⟨_, g_split h256 hz, q⟩⟩) hs hbase hline

/-! ### f-strings, str of an int -/
def intS (i : Int) : List Nat := (toString i : Str).cps.toList
theorem int_str (i : Int) : (⟨(intS i).toArray⟩ : Str) = toString i := str_tl _
theorem len_intS {i : Int} (h : i.natAbs.log2 < 1920) : (intS i).length ≤ 10000 := by
  have e : (intS i).length = (toString i).length := by
    unfold intS
    rw [Array.length_toList]
    exact PySem.ofString_length _
  have := int_text_length_le (k := 1920) (by decide) h
  omega
set_option exponentiation.threshold 2000 in
theorem log_small {i : Int} (h : i.natAbs < 2 ^ 200) : i.natAbs.log2 < 1920 := by
  by_cases h0 : i.natAbs = 0
  · rw [h0]; decide
  · exact (Nat.log2_lt h0).mpr (Nat.lt_of_lt_of_le h (Nat.pow_le_pow_right (by decide) (by decide)))
/-- a part of an f-string -/
theorem ze_fmt (h : ZE X Ex e Γ S fun d S1 => (∃ z, d = .str z ∧ Q (.str z) S1) ∨ ∃ i : Int, d = .int i ∧ i.natAbs.log2 < 1920 ∧ Q (.str (intS i)) S1) : ZE X Ex (.FormattedValue e (-1) none pos) Γ S Q :=
  ze_of (pe_fmt pe_self) fun F σ H c Q' k => h F σ H c _ fun v H1 d S1 t hc r q => by
    rcases q with ⟨z, e, q⟩ | ⟨i, e, hi, q⟩ <;> subst e
    · cases r with
      | str hz => exact .inl ⟨_, rfl, small (by simp [Str.length]; omega), k _ _ _ _ t hc (.str hz) q⟩
    · cases r
      refine .inr ⟨i, rfl, hi, k _ _ _ _ t hc ?_ q⟩
      rw [← int_str]
      exact .str (Nat.le_trans (len_intS hi) (by decide))
theorem zv_fmtS {z : List Nat} (h : ZV X e Γ S (.str z)) : ZV X (.FormattedValue e (-1) none pos) Γ S (.str z) := fun Ex Q q => ze_fmt (h.ze (.inl ⟨z, rfl, q⟩))
theorem zv_fmtI {i : Int} (h : ZV X e Γ S (.int i)) (hi : i.natAbs.log2 < 1920) : ZV X (.FormattedValue e (-1) none pos) Γ S (.str (intS i)) := fun Ex Q q => ze_fmt (h.ze (.inr ⟨i, rfl, hi, q⟩))
/-- f'..' of one part -/
theorem ze_fs1 (h : ZE X Ex e Γ S Q) : ZE X Ex (.JoinedStr [e] pos) Γ S Q := ze_of (pe_joined1 pe_self) h
theorem zv_fs1 (h : ZV X e Γ S d) : ZV X (.JoinedStr [e] pos) Γ S d := fun Ex Q q => ze_fs1 (h.ze q)
/-- the parts of an f-string -/
inductive ZJ (X : Cx) (Γ : Gam) (S : Store) : List Expr → List (List Nat) → Prop
  | nil : ZJ X Γ S [] []
  | cons {e : Expr} {es : List Expr} {z : List Nat} {zs : List (List Nat)} (h : ZV X e Γ S (.str z)) (r : ZJ X Γ S es zs) : ZJ X Γ S (e :: es) (z :: zs)
theorem ZJ.pj {zs} (h : ZJ X Γ S es zs) : PJ X es (es.map (tSelf X)) := by
  induction h with
  | nil => exact .nil
  | cons h r ih => exact .cons pe_self ih
theorem ZJ.run {zs F σ} (h : ZJ X Γ S es zs) : ∀ {H : Hp} {acc : List Nat} {Q' : Str → Hp → Prop}, Con X Ex F Γ S σ H → acc.length + zs.flatten.length ≤ 16777000 → (∀ H', Stp F S H S H' → HC X.K F S H' → Q' ⟨(acc ++ zs.flatten).toArray⟩ H') → tJs (es.map (tSelf X)) ⟨acc.toArray⟩ σ H Q' := by
  induction h with
  | nil =>
    intro H acc Q' c hz k
    have := k H .refl c.hc
    rw [List.flatten_nil, List.append_nil] at this
    exact this
  | @cons e es z zs h r ih =>
    intro H acc Q' c hz k
    rw [List.flatten_cons, List.length_append] at hz
    refine h Ex (fun d S' => d = .str z ∧ S' = S) ⟨rfl, rfl⟩ F σ H c _ fun v H1 d S1 t hc r1 ⟨e1, e2⟩ => ?_
    subst e1 e2
    cases r1 with
    | str hz1 =>
      refine ⟨⟨z.toArray⟩, rfl, ?_, ?_⟩
      · rw [str_app]
        exact small (by simp [Str.length]; omega)
      · rw [str_app]
        refine ih (c.step t hc) (by rw [List.length_append]; omega) fun H' t2 hc2 => ?_
        have := k H' (t.trans t2) hc2
        rw [List.flatten_cons, ← List.append_assoc] at this
        exact this
theorem zv_fs {e1 e2 : Expr} {zs : List (List Nat)} (h : ZJ X Γ S (e1 :: e2 :: es) zs) (hz : zs.flatten.length ≤ 16777000) : ZV X (.JoinedStr (e1 :: e2 :: es) pos) Γ S (.str zs.flatten) := fun Ex Q q =>
  ze_of (pe_joined h.pj) fun F σ H c Q' k => h.run (acc := []) c (by simpa using hz) fun H' t hc => k _ _ _ _ t hc (by simpa using Rep.str hz) q
theorem zv_strI {i : Int} (bn : Bn X.mg) (h : ZV X e Γ S (.int i)) (hi : i.natAbs.log2 < 1920) (hg : Gl X "str" := by rfl) (hs : s1 X e := by rfl) : ZV X (.Call (.Name "str" p) [e] [] pos) Γ S (.str (intS i)) := fun Ex Q q =>
  ze_callTG call_str_int bn.str boot_str' ((zl1 h hs).za ⟨.str (intS i), fun F S H vs Q' hc r k => by
    obtain ⟨v, rfl, r9⟩ := rep1 r
    cases r9
    refine ⟨i, rfl, hi, ?_⟩
    rw [← int_str]
    exact k.self hc (.str (Nat.le_trans (len_intS hi) (by decide))), q⟩) hg (he := hs) (hpl := rfl)

/-! ### isinstance -/
theorem ty_seqL {H : Hp} {a : Addr} {xs : List V} (h : SqL K H a xs) : TyX K H (.ref a) (.type "list") := by
  rcases h with (h | ⟨o, h⟩) | ⟨o, its, n, h1, h2, _⟩
  · exact .base (.lst h)
  · exact .base (.frz h)
  · exact .kList h1 h2
theorem ty_seqT {H : Hp} {a : Addr} {xs : List V} (h : SqT K H a xs) : TyX K H (.ref a) (.type "tuple") := by
  rcases h with (h | ⟨o, h⟩) | ⟨o, its, n, h1, h2, _⟩
  · exact .base (.tup h)
  · exact .fTuple h
  · exact .kTuple h1 h2
theorem ty_at {F H v} {t : Value} (hc : HC K F S H) (r : Rep K (vw F S H) d v) (h : TyD K S d t) : TyX K H v t := by
  cases h with
  | non => cases r; exact .base .non
  | bl => cases r; exact .base (.bl _)
  | int => cases r; exact .base (.int _)
  | str => cases r; exact .base (.str _)
  | tup => cases r with | tup h _ => exact ty_seqT (st_H h)
  | lst => cases r with | lst h _ => exact .base (.lst (hd_sub _ _ h))
  | scr => cases r with | scr h => exact ty_seqL (sl_H h)
  | dk => cases r with | dk h _ => exact .base (.dK (hd_sub _ _ h))
  | dt => cases r with | dt h _ => exact .base (.dT (hd_sub _ _ h))
  | obj i => cases r with | obj h _ => exact .base (.ins (hd_sub _ _ h) i.cl i.ha i.hn i.htk i.hm)
  | chg i e =>
    cases r
    obtain ⟨dx, vs, h, _⟩ := hc.get e
    exact .base (.ins h i.cl i.ha i.hn i.htk i.hm)
/-- the name stands for the class u -/
def ClN (X : Cx) (n : Str) (u : Value) : Prop := (∃ T, u = .type T ∧ X.mg n = none ∧ bootBuiltins n = some (.type T) ∧ n ≠ "__name__") ∨ ∃ C, u = .ref C ∧ X.mg n = some (.ref C)
theorem pe_cln {u : Value} {p : Pos} (h : ClN X n u) (hg : Gl X n) (hd : (n == ("__debug__" : Str)) = false) : ∃ c, ClsV c u ∧ PE X (.Name n p) (tC c) := by
  rcases h with ⟨T, rfl, hm, hb, hn⟩ | ⟨C, rfl, hm⟩
  · exact ⟨.ty T, .ty T, ⟨fun pins s σ H Q I q => ld_blt I hg hm hb ⟨.ty T, H, I, rfl, q⟩ hn hd⟩⟩
  · exact ⟨.ref C, .own C, C8.pe_gc hg ⟨_, hm, rfl⟩ hd⟩
theorem ze_isi {u : Value} (bn : Bn X.mg) (hu : ClN X n u) (h : ZE X Ex e Γ S fun d S1 => ∃ t b, TyD X.K S1 d t ∧ kitOne X.K t u = some b ∧ Q (.bl b) S1) (hg : Gl X "isinstance" := by rfl) (hgn : Gl X n := by rfl) (hd : (n == ("__debug__" : Str)) = false := by decide)
    (he : starEach [e, .Name n p2] X.env = (false, eval e X.env) :: starEach [.Name n p2] X.env := by rfl) (hs1 : starEach [.Name n p2] X.env = (false, eval (.Name n p2) X.env) :: starEach [] X.env := by rfl) : ZE X Ex (.Call (.Name "isinstance" p) [e, .Name n p2] [] pos) Γ S Q := by
  obtain ⟨c, cv, hp⟩ := pe_cln (p := p2) hu hgn hd
  refine ze_of (pe_callB call_isi hg bn.isinstance boot_isinstance (pa_cons pe_self (pa_cons hp pa_nil hs1) he) (he := he) (hpl := by rw [hs1]; rfl)) fun F σ H co Q' k => h F σ H co _ fun v H1 d S1 t hc r ⟨ty, b, td, kt, q⟩ => ?_
  exact ⟨v, c, ty, u, b, rfl, cv, ty_at hc r td, kt, k _ _ _ _ t hc .bl q⟩
theorem zv_isi {u t : Value} {b : Bool} (bn : Bn X.mg) (hu : ClN X n u) (h : ZV X e Γ S d) (td : TyD X.K S d t) (kt : kitOne X.K t u = some b) (hg : Gl X "isinstance" := by rfl) (hgn : Gl X n := by rfl) (hd : (n == ("__debug__" : Str)) = false := by decide)
    (he : starEach [e, .Name n p2] X.env = (false, eval e X.env) :: starEach [.Name n p2] X.env := by rfl) (hs1 : starEach [.Name n p2] X.env = (false, eval (.Name n p2) X.env) :: starEach [] X.env := by rfl) : ZV X (.Call (.Name "isinstance" p) [e, .Name n p2] [] pos) Γ S (.bl b) := fun Ex Q q =>
  ze_isi bn hu (h.ze ⟨t, b, td, kt, q⟩) hg hgn hd he hs1
end
end Fz
end

section
namespace Fz
open PySem PySem.Spec PyProof.Rows L2 PySem.W
mutual
theorem dat_nodict : ∀ {d : D} {n : Nat}, dat d n = true → (pyD d).hasDict = false
  | .non, _, _ => by unfold pyD PyData.hasDict; rfl
  | .bl _, _, _ => by unfold pyD PyData.hasDict; rfl
  | .int _, _, _ => by unfold pyD PyData.hasDict; rfl
  | .str _, _, _ => by unfold pyD PyData.hasDict; rfl
  | .tup ds, n, h => by
    cases n with
    | zero => unfold dat at h; cases h
    | succ n => unfold dat at h; unfold pyD PyData.hasDict; exact dats_nodict h
  | .lst ds, n, h => by
    cases n with
    | zero => unfold dat at h; cases h
    | succ n => unfold dat at h; unfold pyD PyData.hasDict; exact dats_nodict h
  | .ref _, n, h => by unfold dat at h; cases n <;> cases h
  | .scr _, n, h => by unfold dat at h; cases n <;> cases h
  | .obj _ _ _, n, h => by unfold dat at h; cases n <;> cases h
  | .dk _, n, h => by unfold dat at h; cases n <;> cases h
  | .dt _, n, h => by unfold dat at h; cases n <;> cases h
theorem dats_nodict : ∀ {ds : List D} {n : Nat}, dats ds n = true → PyData.hasDictAll (pyDs ds) = false
  | [], _, _ => by unfold pyDs PyData.hasDictAll; rfl
  | d :: ds, n, h => by
    unfold dats at h
    obtain ⟨a, b⟩ := Bool.and_eq_true_iff.mp h
    unfold pyDs PyData.hasDictAll
    rw [dat_nodict a, dats_nodict b]; rfl
end
/-- what Python's repr tells -/
def reprD (d : D) : List Nat := (pyD d).shown.cps.toList
/-- plain data, so deep, whose text is at most so long -/
structure Rok (d : D) (n B : Nat) : Prop where
  dt : dat d n = true
  sh : (pyD d).showable = true
  ln : (pyD d).shown.length ≤ B
theorem Rok.mono {d : D} {n B C : Nat} (h : Rok d n B) (c : B ≤ C) : Rok d n C := ⟨h.dt, h.sh, Nat.le_trans h.ln c⟩
mutual
theorem dat_up : ∀ {d : D} {n m : Nat}, dat d n = true → n ≤ m → dat d m = true
  | .non, _, _, _, _ => by unfold dat; rfl
  | .bl _, _, _, _, _ => by unfold dat; rfl
  | .int _, _, _, _, _ => by unfold dat; rfl
  | .str _, _, _, _, _ => by unfold dat; rfl
  | .tup ds, n, m, h, c => by
    cases n with
    | zero => unfold dat at h; cases h
    | succ n =>
      cases m with
      | zero => omega
      | succ m => unfold dat at h ⊢; exact dats_up h (by omega)
  | .lst ds, n, m, h, c => by
    cases n with
    | zero => unfold dat at h; cases h
    | succ n =>
      cases m with
      | zero => omega
      | succ m => unfold dat at h ⊢; exact dats_up h (by omega)
  | .ref _, n, m, h, c => by unfold dat at h; cases n <;> cases h
  | .scr _, n, m, h, c => by unfold dat at h; cases n <;> cases h
  | .obj _ _ _, n, m, h, c => by unfold dat at h; cases n <;> cases h
  | .dk _, n, m, h, c => by unfold dat at h; cases n <;> cases h
  | .dt _, n, m, h, c => by unfold dat at h; cases n <;> cases h
theorem dats_up : ∀ {ds : List D} {n m : Nat}, dats ds n = true → n ≤ m → dats ds m = true
  | [], _, _, _, _ => by unfold dats; rfl
  | d :: ds, n, m, h, c => by
    unfold dats at h ⊢
    obtain ⟨a, b⟩ := Bool.and_eq_true_iff.mp h
    rw [dat_up a c, dats_up b c]; rfl
end
theorem Rok.up {d : D} {n m B C : Nat} (h : Rok d n B) (c : n ≤ m) (b : B ≤ C) : Rok d m C := ⟨dat_up h.dt c, h.sh, Nat.le_trans h.ln b⟩
theorem rok_non {n : Nat} : Rok .non n 5 := ⟨by unfold dat; rfl, by unfold pyD PyData.showable; rfl, by unfold pyD PyData.shown; decide +kernel⟩
theorem rok_bl {n : Nat} {b : Bool} : Rok (.bl b) n 5 := ⟨by unfold dat; rfl, by unfold pyD PyData.showable; rfl, by unfold pyD PyData.shown; cases b <;> decide +kernel⟩
theorem rok_int {n : Nat} {i : Int} (h : i.natAbs.log2 < 1920) : Rok (.int i) n 2000 := ⟨by unfold dat; rfl, by unfold pyD PyData.showable; exact decide_eq_true h, by
  unfold pyD PyData.shown
  have := int_text_length_le (k := 1920) (by decide) h
  have e := PySem.ofString_length (toString i)
  have e2 : (toString i : Str).length = (toString i).length := e
  show (toString i : Str).length ≤ 2000
  omega⟩
theorem rok_str {n m : Nat} {x : List Nat} (h : x.length ≤ m) (h2 : ∀ c ∈ x, c < 1114112) : Rok (.str x) n (10 * m + 2) := ⟨by unfold dat; rfl, by unfold pyD PyData.showable; rfl, by
  unfold pyD PyData.shown
  have := StrLaws.reprText_len ⟨x.toArray⟩ (fun c hc => Nat.lt_trans (h2 c (by simpa using hc)) (by decide))
  have e : (⟨x.toArray⟩ : Str).length = x.length := by simp [Str.length]
  omega⟩
theorem shownAll_len : ∀ {ds : List D} {B : Nat}, (∀ d ∈ ds, (pyD d).shown.length ≤ B) → ((PyData.shownAll (pyDs ds)).map (·.length)).sum ≤ ds.length * B ∧ (PyData.shownAll (pyDs ds)).length = ds.length
  | [], _, _ => by unfold pyDs PyData.shownAll; exact ⟨by simp, rfl⟩
  | d :: ds, B, h => by
    obtain ⟨a, b⟩ := shownAll_len (ds := ds) (B := B) fun x hx => h x (List.mem_cons_of_mem _ hx)
    have c := h d List.mem_cons_self
    unfold pyDs PyData.shownAll
    rw [List.map_cons, List.sum_cons, List.length_cons, List.length_cons, Nat.add_mul, b]
    exact ⟨by omega, rfl⟩
theorem showAll_of : ∀ {ds : List D}, (∀ d ∈ ds, (pyD d).showable = true) → PyData.showableAll (pyDs ds) = true
  | [], _ => by unfold pyDs PyData.showableAll; rfl
  | d :: ds, h => by
    unfold pyDs PyData.showableAll
    rw [h d List.mem_cons_self, showAll_of fun x hx => h x (List.mem_cons_of_mem _ hx)]; rfl
theorem rok_tup {ds : List D} {n m B : Nat} (hl : ds.length ≤ m) (h : ∀ d ∈ ds, Rok d n B) : Rok (.tup ds) (n + 1) (m * (B + 2) + 3) := by
  obtain ⟨a, b⟩ := shownAll_len fun d hd => (h d hd).ln
  have t := PySem.tupleText_len_le (PyData.shownAll (pyDs ds))
  refine ⟨by unfold dat; exact dats_of fun d hd => (h d hd).dt, by unfold pyD PyData.showable; exact showAll_of fun d hd => (h d hd).sh, ?_⟩
  unfold pyD PyData.shown
  have := Nat.mul_le_mul_right (B + 2) hl
  have e : ds.length * (B + 2) = ds.length * B + ds.length * 2 := Nat.mul_add _ _ _
  omega
theorem rok_lst {ds : List D} {n m B : Nat} (hl : ds.length ≤ m) (h : ∀ d ∈ ds, Rok d n B) : Rok (.lst ds) (n + 1) (m * (B + 2) + 3) := by
  obtain ⟨a, b⟩ := shownAll_len fun d hd => (h d hd).ln
  have t := PySem.listText_len_le (PyData.shownAll (pyDs ds))
  refine ⟨by unfold dat; exact dats_of fun d hd => (h d hd).dt, by unfold pyD PyData.showable; exact showAll_of fun d hd => (h d hd).sh, ?_⟩
  unfold pyD PyData.shown
  have := Nat.mul_le_mul_right (B + 2) hl
  have e : ds.length * (B + 2) = ds.length * B + ds.length * 2 := Nat.mul_add _ _ _
  omega
theorem rok_nil {n B : Nat} : ∀ d ∈ ([] : List D), Rok d n B := fun d h => nomatch h
theorem rok_cons {d : D} {ds : List D} {n m B C : Nat} (h : Rok d m C) (r : ∀ x ∈ ds, Rok x n B) (hm : m ≤ n := by decide) (hc : C ≤ B := by decide) : ∀ x ∈ d :: ds, Rok x n B := fun x hx => (List.mem_cons.mp hx).elim (fun e => e ▸ h.up hm hc) (r x)

def rRep1 (K : PySem.W.Frag) : List V → Hp → VK → Prop := fun vs H Q => ∃ G v d, vs = [v] ∧ Sub G H ∧ Rep K G d v ∧ Rok d 60 16777000 ∧ Q (.str ⟨(reprD d).toArray⟩) H
section
variable {X : Cx} {Ex : AX} {Γ : Gam} {S : Store} {Q : DQ} {e : Expr} {pos p : Pos} {d : D} {K : PySem.W.Frag}
theorem repr_back (d : D) : (⟨(reprD d).toArray⟩ : Str) = (pyD d).shown := str_tl _
theorem cr_repr (gd : X.A.guards = some []) (hu : X.A.units + 64 < cLine) : CallR X (.builtin "repr") (rRep1 X.K) := by
  intro pins s σ H vs us Q I r ⟨G, v, d, e, sb, rp, ok, q⟩
  subst e
  obtain ⟨u, rfl, ru⟩ := r.one
  have hz : (pyD d).shown.length ≤ sizeLine := by
    rw [sizeLine_eq]
    exact Nat.le_trans ok.ln (by decide)
  obtain ⟨as, rd⟩ := reads_at I sb rp ru ok.dt
  have dd := depth_dat ok.dt
  rw [repr_back] at q
  have at_ref : ∀ a, u = .ref a → wpAny (model X.prog X.w) X.A (call (.builtin "repr") [u]) (EP X pins σ Q) X.xe s := fun a ea => by
    subst ea
    exact repr_of_reads' rd ok.sh (PySem.PyData.noDict_hsm (dat_nodict ok.dt)) gd (by omega) (fun b o z => z) (fun h' t tk k => ⟨.str _, H, I.kept k, ⟨t, rfl⟩, q⟩) hz
  cases rp with
  | non =>
    cases ru
    unfold pyD PyData.shown at q
    exact PySem.P.repr_of_none ⟨.str _, H, I.tok _, ⟨_, rfl⟩, q⟩
  | bl =>
    cases ru
    unfold pyD PyData.shown at q
    exact PySem.P.repr_of_bool ⟨.str _, H, I.tok _, ⟨_, rfl⟩, q⟩
  | int =>
    obtain ⟨t, rfl⟩ := ru
    have sh := ok.sh
    unfold pyD PyData.showable at sh
    unfold pyD PyData.shown at q
    exact PySem.P.repr_of_int (of_decide_eq_true sh) ⟨.str _, H, I.tok _, ⟨_, rfl⟩, q⟩
  | str =>
    obtain ⟨t, rfl⟩ := ru
    unfold pyD PyData.shown at q hz
    exact PySem.P.repr_of_str ⟨.str _, H, I.tok _, ⟨_, rfl⟩, q⟩ hz
  | tup h r => exact at_ref _ ru
  | lst h r => exact at_ref _ ru
  | _ =>
    have := ok.dt
    unfold dat at this
    cases this
theorem ze_repr {j : Nat} (hr : Room j X.A) (bn : Bn X.mg) (gd : X.A.guards = some []) (h : ZE X Ex e Γ S fun d S1 => Rok d 60 16777000 ∧ Q (.str (reprD d)) S1) (hg : Gl X "repr" := by rfl) (hs : s1 X e := by rfl) : ZE X Ex (.Call (.Name "repr" p) [e] [] pos) Γ S Q :=
  ze_callBG (cr_repr gd hr.units) bn.repr boot_repr (za_cons (h.mono fun d S1 ⟨ok, q⟩ => za_nil ⟨.str (reprD d), fun F S H vs Q' hc r k => by
    obtain ⟨v, rfl, r9⟩ := rep1 r
    refine ⟨_, v, d, rfl, hd_sub, r9, ok, k.self hc (.str ?_)⟩
    have := ok.ln
    have e : (reprD d).length = (pyD d).shown.length := by unfold reprD; rw [Array.length_toList]; rfl
    omega, q⟩) hs) hg (he := hs) (hpl := rfl)
theorem zv_repr {j : Nat} (hr : Room j X.A) (bn : Bn X.mg) (gd : X.A.guards = some []) (h : ZV X e Γ S d) (ok : Rok d 60 16777000) (hg : Gl X "repr" := by rfl) (hs : s1 X e := by rfl) : ZV X (.Call (.Name "repr" p) [e] [] pos) Γ S (.str (reprD d)) := fun Ex Q q =>
  ze_repr hr bn gd (h.ze ⟨ok, q⟩) hg hs
end
end Fz
end

section
namespace Fz
open PySem PySem.Spec PyProof.Rows L2 PySem.W
abbrev ASk := List D → List D → Store → DQ → AX → Prop
/-! ### what an own class does for len, ==, !=, str, truth -/
/-- x and what is asked of it stand at hand -/
structure At (X : Cx) (Ex : AX) (F : List Addr) (S : Store) (H : Hp) (c : Str) (d : D) (v : V) : Prop where
  gd : X.A.guards = some []
  hc : HC X.K F S H
  xr : XR X Ex F S H
  rp : Rep X.K (vw F S H) d v
  is : isInsD S c d
section
variable {X : Cx} {Ex : AX} {F : List Addr} {S : Store} {H : Hp} {c m : Str} {d : D} {v : V} {k n : Nat} {asp : ASk} {pins : List (Addr × Obj)} {σ : L2.St} {s : Shared} {u : Value}
theorem At.inst (a : At X Ex F S H c d v) (I : Inv X pins σ H s) (rv : L2.RelV v u) : ∃ x ob od, v = .ref x ∧ u = .ref x ∧ InstAt s.heap x ob (He.ga X.K c) od := by
  obtain ⟨x, dx, fs, e, eh, _⟩ := ins_at a.hc a.rp a.is
  subst e
  cases rv
  obtain ⟨mA, O, _⟩ := ins_get I.hok eh
  obtain ⟨od, J, _⟩ := O.look
  exact ⟨x, _, _, rfl, rfl, J⟩
/-- the class's own m, called -/
theorem At.run (a : At X Ex F S H c d v) (C : AM X.prog X.w X.K X.mg X.base k c m n [] asp) (I : Inv X pins σ H s) (rv : L2.RelV v u) {A' : Around} (fr : A'.frames = X.A.frames) (hr : Room k A') (gd : A'.guards = some [])
    {us : List Value} {vs : List V} {ds : List D} (r : Vals vs us) (rd : RepL X.K (vw F S H) ds vs) (hn : ds.length = n) {Q : DQ} {Q' : VK} (h : asp (d :: ds) [] S Q Ex) (kq : QR X.K F S H Q Q') :
    ∃ f, findIn X.K (.ref (He.ga X.K c)) m = some (some (.ref f)) ∧ isFn X.K (.ref f) = true ∧ wpAny (model X.prog X.w) A' (call (.ref f) (u :: us)) (EP X pins σ Q') X.xe s := by
  obtain ⟨f, cl, me, cc⟩ := C.ex
  refine ⟨f, me.at_, me.fn, ?_⟩
  exact cc X rfl rfl rfl rfl rfl A' fr hr gd F S Ex pins σ H s (u :: us) [] (v :: vs) [] (d :: ds) [] Q Q' I a.hc a.xr (.cons rv r) .nil (.cons a.rp rd) .nil (congrArg Nat.succ hn) rfl h kq
def rLenO (X : Cx) (Ex : AX) (c : Str) (asp : ASk) : List V → Hp → VK → Prop := fun vs H Q' => ∃ F S d v Q, vs = [v] ∧ At X Ex F S H c d v ∧ asp [d] [] S (fun r S2 => ∃ n : Nat, r = .int n ∧ n < 2 ^ 60 ∧ Q r S2) Ex ∧ QR X.K F S H Q Q'
theorem cr_lenO {j : Nat} (C : AM X.prog X.w X.K X.mg X.base k c "__len__" 0 [] asp) (hr : Room j X.A) (hk : k + 1 ≤ j) : CallR X (.builtin "len") (rLenO X Ex c asp) := by
  intro pins s σ H vs us Q' I r ⟨F, S, d, v, Q, e, a, h, kq⟩
  subst e
  obtain ⟨u, rfl, ru⟩ := r.one
  obtain ⟨x, ob, od, e1, e2, J⟩ := a.inst I ru
  subst e1 e2
  obtain ⟨m, hF⟩ := I.fr
  obtain ⟨f, hs, hf, run⟩ := a.run C I ru (A' := X.A.in1) rfl (Room.in1 (hr.mono hk)) a.gd (us := []) (vs := []) (ds := []) .nil .nil rfl h (Q' := fun w H' => ∃ n : Nat, w = .int n ∧ n < 2 ^ 60 ∧ Q' w H') (fun w H' d' S' t hc r ⟨n, e, hn, q⟩ => by
    subst e
    cases r
    exact ⟨n, rfl, hn, kq _ _ _ _ t hc .int q⟩)
  refine len_K hF I.ok.mod.kin J hs hf (wpAny_mono run (fun w s' z => ?_) fun _ _ z => z)
  obtain ⟨w', H', I', rw', n, e, hn, q⟩ := z
  subst e
  obtain ⟨t, rfl⟩ := rw'
  exact ⟨⟨Int.natCast_nonneg _, by have : (n : Int) < 2 ^ 60 := by exact_mod_cast hn
                                   omega⟩, .int n, H', I'.tok _, ⟨_, rfl⟩, q⟩
theorem looks_ty {t : Value} (I : Inv X pins σ H s) (rv : L2.RelV v u) (ty : TyX X.K H v t) : Looks (model X.prog X.w) s.heap (typeOf u) t := by
  obtain ⟨P, Z, p, _⟩ := kit_of I rv ty
  exact Z.ty _ _ I.kIn p
def rEqO (X : Cx) (Ex : AX) (c : Str) (asp : ASk) (neg : Bool) : R2 := fun x y H Q' => ∃ F S d e t Q, At X Ex F S H c d x ∧ Rep X.K (vw F S H) e y ∧ TyD X.K S e t ∧ notFirst X.K (He.ga X.K c) t = true ∧ asp [d, e] [] S (fun r S2 => ∃ b, r = .bl b ∧ Q (.bl (if neg then !b else b)) S2) Ex ∧ QR X.K F S H Q Q'
theorem op_eqO {j : Nat} (C : AM X.prog X.w X.K X.mg X.base k c "__eq__" 1 [] asp) (hr : Room j X.A) (hk : k ≤ j) : OpR X (compareOp .Eq) (rEqO X Ex c asp false) := by
  intro pins s σ H x y v u Q' I rx ry ⟨F, S, d, e, t, Q, a, re, td, nf, h, kq⟩
  obtain ⟨x', ob, od, e1, e2, J⟩ := a.inst I rx
  subst e1 e2
  obtain ⟨m, hF⟩ := I.fr
  obtain ⟨f, hs, hf, run⟩ := a.run C I rx (A' := X.A) rfl (hr.mono hk) a.gd (us := [u]) (vs := [y]) (ds := [e]) (.cons ry .nil) (.cons re .nil) rfl h (Q' := fun w H' => ∃ b, w = .bl b ∧ Q' w H') (fun w H' d' S' t hc r ⟨b, e, q⟩ => by
    subst e
    cases r
    exact ⟨b, rfl, kq _ _ _ _ t hc .bl q⟩)
  show wpAny (model X.prog X.w) X.A (richCompare .Eq (.ref x') u) _ _ _
  refine cmp_K (op := .Eq) hr.units0 hF I.ok.mod.kin J (looks_ty I ry (ty_at a.hc re td)) nf hs hf (wpAny_mono run (fun w s' z => ?_) fun _ _ z => z)
  obtain ⟨w', H', I', rw', b, e, q⟩ := z
  subst e
  cases rw'
  exact ⟨.bl b, H', I', rfl, q⟩
end
end Fz
end

section
namespace Fz
open PySem PySem.Spec PyProof.Rows L2 PySem.W
open PySem.Calls PySem.Builtin in
section
variable {prog : Program} {w : World} {A : Around} {E : Value → Shared → Prop} {s : Shared} {K : Frag} {x C L f : Addr} {h₀ : Heap} {m : Str → Option Value} {ox : Obj} {od : Option Obj} {b tb : Value}
def NeBack (Q : Value → Shared → Prop) (v : Value) (s' : Shared) : Prop := match v with
  | .bool b => Q (.bool !b) s'
  | _ => False
theorem ne_entry {Q : Fin → Shared → Prop} (hu : A.units < cLine) (X : K.In s.heap) (I : InstAt s.heap x ox C od) (hs : findIn K (.ref C) "__eq__" = some (some (.ref f))) (hf : isFn K (.ref f) = true)
    (h : wpAny (model prog w) A (call (.ref f) [.ref x, b]) (NeBack fun v s' => Q (.done (.ret v)) s') E s) : wpAny (model prog w) A (Builtin.«object.__ne__» ⟨[.ref x, b], []⟩) Q E s := by
  unfold Builtin.«object.__ne__»
  repeat (first
    | with_reducible refine wpAny_cRoomFor hu ?_
    | (refine wpAny_bind (m := callSpecialIfBound? (.ref x) (Str.ofString "__eq__") [b]) (ifBound_K X I hs hf (wpAny_mono h (fun r s' hr => by
        cases r <;> first | exact hr.elim | skip
        repeat (first | exact hr | exact wpAny_pure hr | exact wpAny_truthy_bool hr | (refine wpAny_bind (m := truthy (.bool _)) (wpAny_truthy_bool ?_)) | wp_step)) fun _ _ e => e)))
    | wp_step)
theorem ne_call {Q : Value → Shared → Prop} (hu : A.units + 1 < cLine) (X : K.In s.heap) (I : InstAt s.heap x ox C od) (ho : subIn K (.ref C) (.type "object") = some true) (hs : findIn K (.ref C) "__eq__" = some (some (.ref f))) (hf : isFn K (.ref f) = true)
    (h : wpAny (model prog w) A.in1 (call (.ref f) [.ref x, b]) (NeBack Q) E s) : wpAny (model prog w) A (call (.builtin "object.__ne__") [.ref x, b]) Q E s := by
  refine wpAny_call (codeAny_call_builtin PySem.F.cmp_object.ne.plain PySem.F.cmpEntry_ne (@check_slot (model prog w) _ _ s "object.__ne__" "object" "__ne__" (.ref x) [b] [] _ PySem.F.cmpKind_ne PySem.F.cmpSplit_ne (I.type.andThen (looks_subIn X ho)) (PySem.F.cmpArgs_ne _ _) ?_))
  refine ne_entry hu X I hs hf (wpAny_mono h (fun r s' hr => ?_) fun _ _ z => z)
  cases r <;> first | exact hr.elim | exact hr
theorem ne_rich {Q : Value → Shared → Prop} (hu : A.units + 1 < cLine) (X : K.In s.heap) (I : InstAt s.heap x ox C od) (hb : Looks (model prog w) s.heap (typeOf b) tb) (hn : notFirst K C tb = true) (hne : findIn K (.ref C) "__ne__" = some (some (.builtin "object.__ne__")))
    (ho : subIn K (.ref C) (.type "object") = some true) (hs : findIn K (.ref C) "__eq__" = some (some (.ref f))) (hf : isFn K (.ref f) = true)
    (h : wpAny (model prog w) A.in1 (call (.ref f) [.ref x, b]) (NeBack Q) E s) : wpAny (model prog w) A (richCompare .NotEq (.ref x) b) Q E s := by
  have one : wpAny (model prog w) A (tryCompare (.ref x) (cmpInfo .NotEq).2.1 b) (fun r s' => ∃ v, r = some v ∧ Q v s') E s := by
    have cc : wpAny (model prog w) A (callSpecialIfBound? (.ref x) (Str.ofString "__ne__") [b]) (fun r s' => ∃ z, r = some (.bool z) ∧ Q (.bool z) s') E s := by
      simp only [callSpecialIfBound?, bindSpecialIfBound?]
      refine wpAny_holding (wpAny_bind (wpAny_bind (wpAny_bind (I.type.here ((looks_findIn X hne).here ?_)))))
      simp only [PySem.F.cmp_object.ne.bind]
      refine wpAny_bind (wpAny_askSetting (wpAny_ite ?_))
      have fin : wpAny (model prog w) A (call (.builtin "object.__ne__") ([.ref x] ++ [b]) >>= fun v => pure (some v)) (fun r s' => ∃ z, r = some (.bool z) ∧ Q (.bool z) s') E s := by
        refine wpAny_bind (ne_call hu X I ho hs hf (wpAny_mono h (fun r s' hr => ?_) fun _ _ z => z))
        cases r <;> first | exact hr.elim | exact wpAny_pure ⟨_, rfl, hr⟩
      split
      · exact wpAny_bind (wpAny_pure (wpAny_pure fin))
      · exact wpAny_tryCatch (wpAny_bind (wpAny_pure (wpAny_pure fin)))
    unfold tryCompare
    refine wpAny_bind (wpAny_mono cc (fun r s' z => ?_) fun _ _ z => z)
    obtain ⟨z, rfl, q⟩ := z
    exact wpAny_pure ⟨_, rfl, q⟩
  unfold richCompare
  simp only [oneThing_ref]
  refine wpAny_holding (wpAny_bind (wpAny_cRoomFor (Nat.lt_of_succ_lt hu) ?_))
  refine wpAny_bind (I.type.here (wpAny_bind (hb.here ?_)))
  split
  · rename_i q
    have e : subIn K tb (.ref C) = some false := by
      rcases Bool.or_eq_true_iff.mp hn with e | e
      · rw [beq_iff_eq.mp e] at q; simp at q
      · exact beq_iff_eq.mp e
    refine wpAny_bind ((looks_subIn X e).here ?_)
    simp only [Bool.false_eq_true, if_false]
    refine wpAny_bind (wpAny_mono one (fun r s' z => ?_) fun _ _ e => e)
    obtain ⟨v, rfl, hq⟩ := z
    exact wpAny_pure hq
  · refine wpAny_bind (wpAny_pure ?_)
    simp only [Bool.false_eq_true, if_false]
    refine wpAny_bind (wpAny_mono one (fun r s' z => ?_) fun _ _ e => e)
    obtain ⟨v, rfl, hq⟩ := z
    exact wpAny_pure hq
end
end Fz
end

section
namespace Fz
open PySem PySem.Spec PyProof.Rows L2 PySem.W
open PySem.Calls PySem.Builtin in
section
variable {prog : Program} {w : World} {A : Around} {E : Value → Shared → Prop} {s : Shared} {K : Frag} {x C f : Addr} {ox : Obj} {od : Option Obj}
theorem truth_len {Q : Bool → Shared → Prop} (X : K.In s.heap) (I : InstAt s.heap x ox C od) (hb : findIn K (.ref C) "__bool__" = some none) (hs : findIn K (.ref C) "__len__" = some (some (.ref f))) (hf : isFn K (.ref f) = true)
    (h : wpAny (model prog w) A.in1 (call (.ref f) [.ref x]) (fun v s' => ∃ n t, v = .int n t ∧ 0 ≤ n ∧ n < 2 ^ 63 ∧ ∀ tk, Q (n != 0) { s' with toks := tk }) E s) : wpAny (model prog w) A (truthy (.ref x)) Q E s := by
  unfold truthy
  refine wpAny_bind (m := callSpecial? (.ref x) (Str.ofString "__bool__")) (wpAny_bind (wpAny_bind (I.type.here ((looks_findIn X hb).here (wpAny_pure ?_)))))
  refine wpAny_bind (wpAny_bind (I.type.here ((looks_findIn X hs).here ?_)))
  refine wpAny_bind (wpAny_runValue (codeAny_builtin entry_len ?_))
  rw [Around.under_plainId plain_len _]
  unfold Builtin.«len»
  refine wpAny_bind (m := oneArg "len" _) (wpAny_pure ?_)
  refine wpAny_bind (m := callSpecial? (.ref x) (Str.ofString "__len__")) (special_fn X I hs (beq_iff_eq.mp hf) (wpAny_mono h (fun r s' hr => ?_) fun _ _ y => y))
  obtain ⟨n, t, rfl, h0, h1, hq⟩ := hr
  refine wpAny_bind (wpAny_holding (wpAny_pure ?_))
  refine wpAny_bind (wpAny_letGo ?_)
  show wpAny _ _ (if n < 0 then _ else _) _ _ _
  rw [if_neg (by omega)]
  show wpAny _ _ (if n ≥ 2 ^ 63 then _ else _) _ _ _
  rw [if_neg (by omega)]
  refine wpAny_bind (wpAny_mkInt (wpAny_pure ?_))
  exact wpAny_pure (hq _)
end
/-- facts about an own class's comparisons and truth -/
structure NeC (K : Frag) (c : Str) : Prop where
  ne : findIn K (.ref (He.ga K c)) "__ne__" = some (some (.builtin "object.__ne__"))
  ob : subIn K (.ref (He.ga K c)) (.type "object") = some true
section
variable {X : Cx} {Ex : AX} {F : List Addr} {S : Store} {H : Hp} {c m : Str} {d : D} {v : V} {k j n : Nat} {asp : ASk} {Γ : Gam} {Q : DQ} {a b e o : Expr} {es : List Expr} {pos p : Pos}
theorem op_neO (C : AM X.prog X.w X.K X.mg X.base k c "__eq__" 1 [] asp) (ne : NeC X.K c) (hr : Room j X.A) (hk : k + 1 ≤ j) : OpR X (compareOp .NotEq) (rEqO X Ex c asp true) := by
  intro pins s σ H x y v u Q' I rx ry ⟨F, S, d, e, t, Q, a, re, td, nf, h, kq⟩
  obtain ⟨x', ob, od, e1, e2, J⟩ := a.inst I rx
  subst e1 e2
  obtain ⟨f, hs, hf, run⟩ := a.run C I rx (A' := X.A.in1) rfl (Room.in1 (hr.mono hk)) a.gd (us := [u]) (vs := [y]) (ds := [e]) (.cons ry .nil) (.cons re .nil) rfl h (Q' := fun w H' => ∃ b : Bool, w = .bl b ∧ Q' (.bl !b) H') (fun w H' d' S' t hc r ⟨b, e, q⟩ => by
    subst e
    cases r
    exact ⟨b, rfl, kq _ _ _ _ t hc .bl q⟩)
  show wpAny (model X.prog X.w) X.A (richCompare .NotEq (.ref x') u) _ _ _
  refine ne_rich (by have := hr.units; omega) I.kIn J (looks_ty I ry (ty_at a.hc re td)) nf ne.ne ne.ob hs hf (wpAny_mono run (fun w s' z => ?_) fun _ _ z => z)
  obtain ⟨w', H', I', rw', b, e, q⟩ := z
  subst e
  cases rw'
  exact ⟨.bl !b, H', I', rfl, q⟩
def rStrO (X : Cx) (Ex : AX) (c : Str) (asp : ASk) : List V → Hp → VK → Prop := fun vs H Q' => ∃ F S d v Q, vs = [v] ∧ At X Ex F S H c d v ∧ asp [d] [] S (fun r S2 => ∃ z, r = .str z ∧ Q r S2) Ex ∧ QR X.K F S H Q Q'
theorem cr_strO (C : AM X.prog X.w X.K X.mg X.base k c "__str__" 0 [] asp) (hr : Room j X.A) (hk : k + 2 ≤ j) : CallR X (.type "str") (rStrO X Ex c asp) := by
  intro pins s σ H vs us Q' I r ⟨F, S, d, v, Q, e, a, h, kq⟩
  subst e
  obtain ⟨u, rfl, ru⟩ := r.one
  obtain ⟨x, ob, od, e1, e2, J⟩ := a.inst I ru
  subst e1 e2
  obtain ⟨f, hs, hf, run⟩ := a.run C I ru (A' := X.A.in1.in1) rfl (Room.in1 (Room.in1 (hr.mono hk))) a.gd (us := []) (vs := []) (ds := []) .nil .nil rfl h (Q' := fun w H' => ∃ z, w = .str z ∧ Q' w H') (fun w H' d' S' t hc r ⟨z, e, q⟩ => by
    subst e
    cases r with
    | str hz => exact ⟨_, rfl, kq _ _ _ _ t hc (.str hz) q⟩)
  refine kso_call (by have := hr.units; show X.A.units + 1 + 1 < cLine; omega) I.kIn J hs hf (wpAny_mono run (fun w s' z => ?_) fun _ _ z => z)
  obtain ⟨w', H', I', rw', z, e, q⟩ := z
  subst e
  obtain ⟨t, rfl⟩ := rw'
  exact ⟨.str z, H', I', ⟨t, rfl⟩, q⟩

/-! ### as readings -/
theorem ze_lenO (C : AM X.prog X.w X.K X.mg X.base k c "__len__" 0 [] asp) (hr : Room j X.A) (hk : k + 1 ≤ j) (bn : Bn X.mg) (h : ZE X Ex e Γ S fun d S1 => isInsD S1 c d ∧ asp [d] [] S1 (fun r S2 => ∃ n : Nat, r = .int n ∧ n < 2 ^ 60 ∧ Q r S2) Ex) (hg : Gl X "len" := by rfl) (hs : s1 X e := by rfl) : ZE X Ex (.Call (.Name "len" p) [e] [] pos) Γ S Q :=
  ze_of (pe_callB (cr_lenO C hr hk) hg bn.len PySem.boot_len (pa_cons pe_self pa_nil hs) (he := hs) (hpl := rfl)) fun F σ H co Q' kq => h F σ H co _ fun v H1 d S1 t hc r ⟨i, q⟩ =>
    ⟨F, S1, d, v, Q, rfl, ⟨co.ok.gd, hc, co.xr.step t, r, i⟩, q, kq.step t⟩
theorem ze_strO (C : AM X.prog X.w X.K X.mg X.base k c "__str__" 0 [] asp) (hr : Room j X.A) (hk : k + 2 ≤ j) (bn : Bn X.mg) (h : ZE X Ex e Γ S fun d S1 => isInsD S1 c d ∧ asp [d] [] S1 (fun r S2 => ∃ z, r = .str z ∧ Q r S2) Ex) (hg : Gl X "str" := by rfl) (hs : s1 X e := by rfl) : ZE X Ex (.Call (.Name "str" p) [e] [] pos) Γ S Q :=
  ze_of (pe_callTy (cr_strO C hr hk) hg bn.str boot_str' (pa_cons pe_self pa_nil hs) (he := hs) (hpl := rfl)) fun F σ H co Q' kq => h F σ H co _ fun v H1 d S1 t hc r ⟨i, q⟩ =>
    ⟨F, S1, d, v, Q, rfl, ⟨co.ok.gd, hc, co.xr.step t, r, i⟩, q, kq.step t⟩
/-- o == y, o != y -/
def eqAsk (X : Cx) (Ex : AX) (c : Str) (asp : ASk) (b : Expr) (Γ : Gam) (neg : Bool) (Q : DQ) : DQ := fun x S1 => isInsD S1 c x ∧ ZE X Ex b Γ S1 fun y S2 => isInsD S2 c x ∧ ∃ t, TyD X.K S2 y t ∧ notFirst X.K (He.ga X.K c) t = true ∧ asp [x, y] [] S2 (fun r S3 => ∃ z, r = .bl z ∧ Q (.bl (if neg then !z else z)) S3) Ex
theorem ask_run {neg : Bool} {σ : L2.St} (co : Con X Ex F Γ S σ H) (h : ZE X Ex a Γ S (eqAsk X Ex c asp b Γ neg Q)) {Q' : VK} (kq : QR X.K F S H Q Q') : tOp (rEqO X Ex c asp neg) (tSelf X a) (tSelf X b) σ H Q' :=
  h F σ H co _ fun v H1 x S1 t1 c1 r1 ⟨i1, h1⟩ => h1 F σ H1 (co.step t1 c1) _ fun u H2 y S2 t2 c2 r2 ⟨i2, t, td, nf, q⟩ =>
    ⟨F, S2, x, y, t, Q, ⟨co.ok.gd, c2, co.xr.step (t1.trans t2), r1.mono t2.ext, i2⟩, r2, td, nf, q, kq.step (t1.trans t2)⟩
theorem ze_eqO (C : AM X.prog X.w X.K X.mg X.base k c "__eq__" 1 [] asp) (hr : Room j X.A) (hk : k ≤ j) (h : ZE X Ex a Γ S (eqAsk X Ex c asp b Γ false Q)) (hm : behindInMarks .Eq b = false := by rfl) : ZE X Ex (.Compare a [.Eq] [b] pos) Γ S Q :=
  ze_of (pe_cmpR (op_eqO C hr hk) pe_self pe_self hm) fun F σ H co Q' kq => ask_run co h kq
theorem ze_neO (C : AM X.prog X.w X.K X.mg X.base k c "__eq__" 1 [] asp) (ne : NeC X.K c) (hr : Room j X.A) (hk : k + 1 ≤ j) (h : ZE X Ex a Γ S (eqAsk X Ex c asp b Γ true Q)) (hm : behindInMarks .NotEq b = false := by rfl) : ZE X Ex (.Compare a [.NotEq] [b] pos) Γ S Q :=
  ze_of (pe_cmpR (op_neO C ne hr hk) pe_self pe_self hm) fun F σ H co Q' kq => ask_run co h kq
theorem zt_eqO {Q : Bool → Store → Prop} (C : AM X.prog X.w X.K X.mg X.base k c "__eq__" 1 [] asp) (hr : Room j X.A) (hk : k ≤ j) (h : ZE X Ex a Γ S (eqAsk X Ex c asp b Γ false fun z S' => ∃ t, z = .bl t ∧ Q t S')) (hm : behindInMarks .Eq b = false := by rfl) : ZT X Ex (.Compare a [.Eq] [b] pos) Γ S Q :=
  zt_of (pt_cmpR (op_eqO C hr hk) pe_self pe_self hm) fun F σ H co Q' k => ask_run co h fun v H' z S' t hc r ⟨u, e, q⟩ => by
    subst e; cases r; exact ⟨u, rfl, k u H' S' t hc q⟩
theorem zt_neO {Q : Bool → Store → Prop} (C : AM X.prog X.w X.K X.mg X.base k c "__eq__" 1 [] asp) (ne : NeC X.K c) (hr : Room j X.A) (hk : k + 1 ≤ j) (h : ZE X Ex a Γ S (eqAsk X Ex c asp b Γ true fun z S' => ∃ t, z = .bl t ∧ Q t S')) (hm : behindInMarks .NotEq b = false := by rfl) : ZT X Ex (.Compare a [.NotEq] [b] pos) Γ S Q :=
  zt_of (pt_cmpR (op_neO C ne hr hk) pe_self pe_self hm) fun F σ H co Q' k => ask_run co h fun v H' z S' t hc r ⟨u, e, q⟩ => by
    subst e; cases r; exact ⟨u, rfl, k u H' S' t hc q⟩
/-- an own object with a length, as a test -/
theorem zt_lenO {Q : Bool → Store → Prop} (C : AM X.prog X.w X.K X.mg X.base k c "__len__" 0 [] asp) (nb : findIn X.K (.ref (He.ga X.K c)) "__bool__" = some none) (hr : Room j X.A) (hk : k + 1 ≤ j)
    (h : ZE X Ex e Γ S fun d S1 => isInsD S1 c d ∧ asp [d] [] S1 (fun r S2 => ∃ n : Nat, r = .int n ∧ n < 2 ^ 60 ∧ Q (decide (n ≠ 0)) S2) Ex) (he : ∀ whole, isTrue e X.env whole = (do let v ← whole; standAt e.pos; holding [v] (truthy v)) := by intro _; rfl) : ZT X Ex e Γ S Q := fun F σ H co Q' kq pins s I => by
  refine isTrue_plain (thn (h F σ H co _ (fun v H1 d S1 t hc r q => (⟨S1, d, t, hc, r, q⟩ : ∃ S1 d, Stp F S H S1 H1 ∧ HC X.K F S1 H1 ∧ Rep X.K (vw F S1 H1) d v ∧ isInsD S1 c d ∧ asp [d] [] S1 (fun r S2 => ∃ n : Nat, r = .int n ∧ n < 2 ^ 60 ∧ Q (decide (n ≠ 0)) S2) Ex)) pins s I)
    fun u s1 ⟨v, H1, I1, rv, S1, d, t, hc, r, i, q⟩ => ?_) (he _)
  have at_ : At X Ex F S1 H1 c d v := ⟨co.ok.gd, hc, co.xr.step t, r, i⟩
  obtain ⟨x, ob, od, e1, e2, J⟩ := at_.inst I1 rv
  subst e1 e2
  obtain ⟨f, hs, hf, run⟩ := at_.run C I1 rv (A' := X.A.in1) rfl (Room.in1 (hr.mono hk)) co.ok.gd (us := []) (vs := []) (ds := []) .nil .nil rfl q (Q' := fun w H' => ∃ n : Nat, w = .int n ∧ n < 2 ^ 60 ∧ Q' (decide (n ≠ 0)) H') (fun w H' d' S' t' hc' r' ⟨n, e, hn, q⟩ => by
    subst e
    cases r'
    exact ⟨n, rfl, hn, kq _ _ _ (t.trans t') hc' q⟩)
  refine truth_len I1.kIn J nb hs hf (wpAny_mono run (fun w s' z => ?_) fun _ _ z => z)
  obtain ⟨w', H', I', rw', n, e, hn, q⟩ := z
  subst e
  obtain ⟨tk, rfl⟩ := rw'
  refine ⟨n, tk, rfl, Int.natCast_nonneg _, by have : (n : Int) < 2 ^ 60 := by exact_mod_cast hn
                                               omega, fun tk' => ⟨H', I'.tok _, ?_⟩⟩
  have e : ((n : Int) != 0) = decide (n ≠ 0) := by
    by_cases h : n = 0 <;> simp [h]
  rw [e]
  exact q
end
end Fz
end

section
namespace Fz
open PySem PySem.Spec PyProof.Rows L2

/-! ### the law's own promise, and the row's end -/
/-- the law answers True on the script -/
def lawSp (n : Nat) : ASp := fun ds S Q Ex => ∃ ns : List Int, ds = [.scr ns] ∧ S = [] ∧ ns.length ≤ n ∧ (∀ z ∈ ns, Builtin.Int.intBits z ≤ 1048576) ∧ ∀ S', Q (.bl true) S'
theorem no_air {P : Program} {w : World} {H : Hp} {s s' : Shared} {e : Value} (h : L2.CX P w [] H s (fun _ _ _ => False) e s') : False := by
  obtain ⟨_, _, _, _, _, _, _, _, _, _, _, _, z⟩ := h
  exact z
theorem callerG : callerA.guards = some [] := rfl
/-- the law's call, from a heap of which nothing is followed but (if need be) the script -/
theorem law_from {P : Program} {w : World} {K : PySem.W.Frag} {mg mb : Str → Option Value} {k n : Nat} {fa a : Addr} {fd : FuncData} {x : Str} {s : Shared} {vs : List Value} {ns : List Int}
    (KX : K.In s.heap) (hns : s.heap.Ns mainGlobals mg) (hb : s.heap.Ns builtinsNs mb) (hbb : ∀ x : Str, x ≠ "__name__" → mb x = bootBuiltins x) (hlim : s.heap.NoLimit) (hg : s.gens = #[])
    (ha : s.heap.get? a = some { cls := .type "list", data := .seq vs.toArray }) (hl : ns.length ≤ n) (hbits : ∀ z ∈ ns, Builtin.Int.intBits z ≤ 1048576) (hr : Room k callerA)
    (F : ∀ base : Heap, K.In base → base.Ns mainGlobals mg → FnG P w K mg base k fa fd [x] (conc K (lawSp n))) (hbind : ∀ (s : Shared) (u : Value), BindsTo s fd ⟨[u], []⟩ [(x, u)])
    (H : Hp) (hO : ∀ b, H b = none ∨ (b = a ∧ K.lookup a = none ∧ ∃ o xs, H b = some (.frz o (.lst xs)))) (hS : SqL K H a (ns.map V.int)) (hok : HOk P w H s.heap) :
    codeAny (model P w) callerA (.call (.ref fa) ⟨[.ref a], []⟩) (fun r s' => r = .ok (.ret (.bool true)) ∧ OldK s.heap s'.heap ∧ s'.os = s.os ∧ AllBare s'.gens) s := by
  have out : ∀ {b : Addr} {o : Obj}, s.heap.get? b = some o → (∀ z, o.data ≠ .seq vs.toArray z) → H b = none := fun {b o} e d => by
    rcases hO b with q | ⟨q, _⟩
    · exact q
    · subst q
      rw [ha] at e
      cases e
      exact absurd rfl (d _)
  have nsB : ∀ {b : Addr} {m : Str → Option Value}, s.heap.Ns b m → (hidT s.heap H).Ns b m := fun {b m} ⟨o, es, ep, e, d, r⟩ => ⟨o, es, ep, hidT_get e (out e fun z q => by rw [d] at q; cases q), d, r⟩
  have kB : K.In (hidT s.heap H) := fun b o e => hidT_get (KX b o e) (by
    rcases hO b with q | ⟨q, n, _⟩
    · exact q
    · subst q
      rw [n] at e
      cases e)
  obtain ⟨mc, l1, l2⟩ := hlim
  have e0 : Env0 P w K mg (hidT s.heap H) callerA [] s H := ⟨rfl, ⟨kB, nsB hns, ⟨mb, nsB hb, hbb⟩, mc, nsB l1, l2⟩, fun b o e => of_hidT e, Nat.le_of_eq (hidT_size _ _), trivial, fun b hb => absurd (show b ∈ ([] : List Addr) from hb) (by simp), hok, .of_eq hg⟩
  have vwH : vw [] [] H = H := by
    funext b
    exact hd_out (by simp [keys])
  have hc : HC K [] [] H := ⟨by simp [keys], fun b z => (nomatch z), fun p c z => (nomatch z)⟩
  have sp : conc K (lawSp n) [.ref a] H (fun v _ => v = .bl true) fun _ _ _ => False :=
    ⟨[], [], [.scr ns], fun d _ => d = .bl true, AX0, hc, .cons (.scr (by rw [vwH]; exact hS)) .nil, ⟨ns, rfl, rfl, hl, hbits, fun _ => rfl⟩, fun v H' d S' _ _ r e => by
      subst e
      cases r
      rfl, fun _ _ _ _ _ _ _ _ z => z⟩
  refine codeAny_mono ((F _ kB (nsB hns)).run callerA [] s H ⟨[.ref a], []⟩ [.ref a] [.ref a] _ _ callerG hr e0 (hbind s (.ref a)) (.cons rfl .nil) sp) fun r s' h => ?_
  match r, h with
  | .error e, h => exact (no_air h).elim
  | .ok .next, h => exact h.elim
  | .ok .brk, h => exact h.elim
  | .ok .cont, h => exact h.elim
  | .ok (.ret u), h =>
    obtain ⟨v, H', os, bare, un, hok', r', q⟩ := h
    have q' : v = .bl true := q
    subst q'
    obtain rfl : u = Value.bool true := r'
    refine ⟨rfl, OldK.of_keep fun b o e => ?_, os, bare⟩
    rcases hO b with q | ⟨_, _, ob, xs, q⟩
    · exact un.keep b o e q (by intro z; exact absurd (show b ∈ ([] : List Addr) from z) (by simp)) (by simp)
    · obtain ⟨e1, _⟩ := hok b _ q
      obtain ⟨e2, _⟩ := hok' b _ (un.frzs b ob _ q)
      rw [e] at e1
      cases e1
      exact e2
theorem law_callG {P : Program} {w : World} {K : PySem.W.Frag} {mg mb : Str → Option Value} {k n : Nat} {fa a : Addr} {fd : FuncData} {x : Str} {s : Shared} {vs : List Value} {ns : List Int}
    (KX : K.In s.heap) (hns : s.heap.Ns mainGlobals mg) (hb : s.heap.Ns builtinsNs mb) (hbb : ∀ x : Str, x ≠ "__name__" → mb x = bootBuiltins x) (hlim : s.heap.NoLimit) (hg : s.gens = #[])
    (ha : s.heap.get? a = some { cls := .type "list", data := .seq vs.toArray }) (hi : IntsAre vs ns) (hl : ns.length ≤ n) (hn : n ≤ sizeLine) (hbits : ∀ z ∈ ns, Builtin.Int.intBits z ≤ 1048576) (hr : Room k callerA)
    (F : ∀ base : Heap, K.In base → base.Ns mainGlobals mg → FnG P w K mg base k fa fd [x] (conc K (lawSp n))) (hbind : ∀ (s : Shared) (u : Value), BindsTo s fd ⟨[u], []⟩ [(x, u)]) :
    codeAny (model P w) callerA (.call (.ref fa) ⟨[.ref a], []⟩) (fun r s' => r = .ok (.ret (.bool true)) ∧ OldK s.heap s'.heap ∧ s'.os = s.os ∧ AllBare s'.gens) s := by
  have rv := vals_ints hi
  have lv := hi.length
  have hz : ns.length ≤ sizeLine := Nat.le_trans hl hn
  cases hk : K.lookup a with
  | some o =>
    have e := KX a o hk
    rw [ha] at e
    cases e
    exact law_from KX hns hb hbb hlim hg ha hl hbits hr F hbind (fun _ => none) (fun _ => .inl rfl) (.inr ⟨_, vs.toArray, _, hk, rfl, rfl, rfl, by rw [List.size_toArray, lv]; exact hz, by simpa using rv⟩) fun b u z => nomatch (show (none : Option HO) = some u from z)
  | none =>
    refine law_from KX hns hb hbb hlim hg ha hl hbits hr F hbind (upd (fun _ => none) a (.frz { cls := .type "list", data := .seq vs.toArray } (.lst (ns.map V.int)))) (fun b => ?_) (.inl (.inr ⟨_, upd_same⟩)) fun b u z => ?_
    · by_cases e : b = a
      · subst e
        exact .inr ⟨rfl, hk, _, _, upd_same⟩
      · exact .inl (upd_ne e)
    · by_cases e : b = a
      · subst e
        rw [upd_same] at z
        cases z
        exact ⟨ha, by rw [List.length_map]; exact hz, vs, _, rv, ha⟩
      · rw [upd_ne e] at z
        cases z
/-- the goal that the head leaves -/
theorem walk_ofG {l : PySem.W.OpenLaw} {n k : Nat} {q : Program} {loose : List Str} {XP : (Str → Option Value) → Heap → Prop} {YP : World → Heap → Prop} {d : DefRec} {x : Str}
    (hn : l.most = some n) (hn2 : n ≤ sizeLine) (hdf : d.params.defaults = []) (hr : Room k callerA)
    (F : ∀ (w : World) (mg : Str → Option Value) (fa : Addr) (h : Heap), YP w h → h.Ns mainGlobals mg → mg d.name = some (.ref fa) →
      ∃ (K : PySem.W.Frag) (fd : FuncData), K.In h ∧ (∀ (s : Shared) (u : Value), BindsTo s fd ⟨[u], []⟩ [(x, u)]) ∧ ∀ base : Heap, K.In base → base.Ns mainGlobals mg → FnG l.prog w K mg base k fa fd [x] (conc K (lawSp n))) :
    PySem.W.WalkO q loose XP YP l.row.toRowW d [] (fun f vs => PySem.call f vs) := by
  refine Att.attach_callB hn hdf fun w s₀ s₁ mg mb fa o pm cd doc a vs ns G Y ho hd hcd hmg hobj hints hlen hbits hg => ?_
  obtain ⟨K, fd, KX, hb, hF⟩ := F w mg fa _ Y G.T.g hmg
  exact law_callG KX G.T.g G.T.b G.T.builtins G.T.nolimit hg hobj hints hlen hn2 hbits hr hF hb
end Fz
end

section
namespace Fz
open PySem PySem.Spec PyProof.Rows L2 PySem.W

/-! ### the bag, open and shut -/
/-- S' tells what a bag of S holds -/
def Opens (S S' : Store) (i : Nat) : Prop := ∃ p, S[i]? = some (p, Cell.bag) ∧ ∃ a b c : Int, S' = S.set i (p, .lst [.int a, .int b, .int c]) ∧ 0 ≤ a ∧ 0 ≤ b
theorem Opens.keys {S S' : Store} {i : Nat} (h : Opens S S' i) : keys S' = keys S := by
  obtain ⟨p, hp, a, b, c, e, _⟩ := h
  subst e
  unfold Fz.keys
  rw [List.map_set]
  apply List.ext_getElem?
  intro j
  by_cases q : i = j
  · subst q
    have hl := (List.getElem?_eq_some_iff.mp hp).1
    rw [List.getElem?_set_self (by simpa using hl), List.getElem?_map, hp]; rfl
  · rw [List.getElem?_set_ne q]
theorem Opens.vw {F : List Addr} {S S' : Store} {H : Hp} {i : Nat} (h : Opens S S' i) : vw F S' H = vw F S H := by
  show hd (F ++ Fz.keys S') H = hd (F ++ Fz.keys S) H
  rw [h.keys]
theorem Opens.shut {K F} {S S' : Store} {H : Hp} {i : Nat} (h : Opens S S' i) (c : HC K F S' H) : HC K F S H := by
  have ek := h.keys
  have ev := h.vw (F := F) (H := H)
  obtain ⟨p, hp, x, y, z, e, h1, h2⟩ := h
  have hl := (List.getElem?_eq_some_iff.mp hp).1
  refine ⟨by rw [← ek]; exact c.nd, c.fr, fun q ce hq => ?_⟩
  rw [← ev]
  obtain ⟨j, hj⟩ := List.mem_iff_getElem?.mp hq
  by_cases q1 : i = j
  · subst q1
    rw [hp] at hj
    cases hj
    obtain ⟨xs, e1, r⟩ := c.at_ p (.lst [.int x, .int y, .int z]) (by subst e; exact List.mem_of_getElem? (List.getElem?_set_self hl))
    refine ⟨x, y, z, ?_, h1, h2⟩
    rw [e1]
    have : xs = [V.int x, V.int y, V.int z] := RepL.ints_inv (ns := [x, y, z]) r
    rw [this]
  · exact c.at_ q ce (by subst e; exact List.mem_of_getElem? (by rw [List.getElem?_set_ne q1]; exact hj))
theorem Opens.stp {F} {S S' : Store} {H : Hp} {i : Nat} (h : Opens S S' i) : Stp F S' H S H ∧ Stp F S H S' H := by
  have ev := h.vw (F := F) (H := H)
  exact ⟨⟨by rw [ev]; exact fun _ _ z => z, fun _ _ => rfl⟩, ⟨by rw [ev]; exact fun _ _ z => z, fun _ _ => rfl⟩⟩
/-- what may be asked of a bag: three numbers -/
theorem HC.opens {K F S H} {i : Nat} {p : Addr} (c : HC K F S H) (hp : S[i]? = some (p, Cell.bag)) : ∃ S', Opens S S' i ∧ HC K F S' H := by
  obtain ⟨x, y, z, e, h1, h2⟩ := c.get hp
  have o : Opens S (S.set i (p, .lst [.int x, .int y, .int z])) i := ⟨p, hp, x, y, z, rfl, h1, h2⟩
  have hl := (List.getElem?_eq_some_iff.mp hp).1
  refine ⟨_, o, by rw [o.keys]; exact c.nd, c.fr, fun q ce hq => ?_⟩
  rw [o.vw]
  obtain ⟨j, hj⟩ := List.mem_iff_getElem?.mp hq
  by_cases q1 : i = j
  · subst q1
    rw [List.getElem?_set_self hl] at hj
    cases hj
    exact ⟨_, e, RepL.ints [x, y, z]⟩
  · rw [List.getElem?_set_ne q1] at hj
    exact c.at_ q ce (List.mem_of_getElem? hj)
section
variable {X : Cx} {Ex : AX} {Γ : Gam} {S : Store} {Q : DQ} {e o i elt iter tg c : Expr} {ss : List Stmt} {D0 : AEnds} {pos : Pos} {scope : Scope} {own : List (Str × Nat)} {vs : List Nat} {rel : D → Gam → Gam → Prop} {DE : AEnds} {α : Type} {as : List α} {enc f : α → D}
/-- ahead of the code: the bag's numbers are at hand -/
theorem zs_open {k : Nat} {p : Addr} (hp : S[k]? = some (p, Cell.bag)) (h : ∀ a b c : Int, 0 ≤ a → 0 ≤ b → ZS X Ex ss Γ (S.set k (p, .lst [.int a, .int b, .int c])) D0) : ZS X Ex ss Γ S D0 := fun F σ H co D' kq => by
  obtain ⟨S', op, hc'⟩ := co.hc.opens hp
  obtain ⟨_, st⟩ := op.stp (F := F) (H := H)
  have ev := op.vw (F := F) (H := H)
  have op' := op
  obtain ⟨p', hp', a, b, c, e, h1, h2⟩ := op
  rw [hp] at hp'
  cases hp'
  subst e
  exact h a b c h1 h2 F σ H ⟨co.ok, hc', by rw [ev]; exact co.rg, co.xr.step st⟩ D' (kq.step st)
/-- behind a value: the bag is shut -/
theorem ze_shut {k : Nat} {S0 : Store} (h : ZE X Ex e Γ S0 fun d S' => ∃ S1, Opens S1 S' k ∧ Q d S1) : ZE X Ex e Γ S0 Q := fun F σ H co Q' kq =>
  h F σ H co Q' fun v H' d S' t hc r ⟨S1, op, q⟩ => kq v H' d S1 (t.trans op.stp.1) (op.shut hc) (by rw [← op.vw]; exact r) q
theorem opens_of {k : Nat} {p : Addr} {a b c : Int} {S' : Store} (hp : S[k]? = some (p, Cell.bag)) (e : S' = S.set k (p, .lst [.int a, .int b, .int c])) (ha : 0 ≤ a) (hb : 0 ≤ b) : Opens S S' k := ⟨p, hp, a, b, c, e, ha, hb⟩
/-- a bag made -/
theorem ze_bag {es : List Expr} (h : ZA X Ex es Γ S fun ds S1 => ∃ a b c : Int, ds = [.int a, .int b, .int c] ∧ 0 ≤ a ∧ 0 ≤ b ∧ ∀ p, Q (.ref p) (S1 ++ [(p, Cell.bag)])) : ZE X Ex (.List es pos) Γ S Q :=
  ze_of (pe_lst pa_self) fun F σ H co Q' k => h F σ H co _ fun vs H1 ds S1 t c1 r ⟨a, b, c, e, h1, h2, q⟩ => by
    subst e
    have ev : vs = [V.int a, V.int b, V.int c] := RepL.ints_inv (ns := [a, b, c]) r
    subst ev
    refine ⟨small (by show 3 ≤ _; decide), fun p hp => ?_⟩
    obtain ⟨n1, n2⟩ := c1.cell (c := .bag) (o := .lst [V.int a, V.int b, V.int c]) hp ⟨a, b, c, rfl, h1, h2⟩
    exact k _ _ _ _ (t.trans n2) n1 .ref (q p)
/-- o[i] = d, a list's place -/
theorem zg_item {k j : Nat} {p : Addr} {ds : List D} {n : Int} {d : D} {q : GQ} (ho : ZV X o Γ S (.ref p)) (hi : ZV X i Γ S (.int n)) (hk : S[k]? = some (p, .lst ds)) (hj : ixN ds.length n = some j) (h : q Γ (S.set k (p, .lst (ds.set j d))))
    (ha : ∀ v, assign (.Subscript o i pos) X.env v = (do
      let ov ← holding [v] (eval o X.env)
      let iv ← holding [v, ov] (eval i X.env)
      standAt pos
      holding [v, ov, iv] (setItem ov iv v)
      release [v, ov, iv] []) := by intro _; rfl) : ZG X Ex (.Subscript o i pos) d Γ S q := fun F σ H v co rd q' kq =>
  selfG_of (pg_sub pe_self pe_self L2.set_list ha) (ho Ex (fun d S' => d = .ref p ∧ S' = S) ⟨rfl, rfl⟩ F σ H co _ fun w H1 d1 S1 t1 c1 r1 ⟨e1, e2⟩ => by
    subst e1 e2
    cases r1
    exact hi Ex (fun d S' => d = .int n ∧ S' = S1) ⟨rfl, rfl⟩ F σ H1 (co.step t1 c1) _ fun w2 H2 d2 S2 t2 c2 r2 ⟨e1, e2⟩ => by
      subst e1 e2
      cases r2
      obtain ⟨xs, hx, rx⟩ := c2.get hk
      have t := t1.trans t2
      obtain ⟨p1, p2⟩ := c2.put (c' := .lst (ds.set j d)) (o := .lst (xs.set j v)) hk ⟨_, rfl, RepL.set (rd.mono t.ext) j rx⟩
      exact ⟨p, xs, n, j, rfl, rfl, hx, by rw [← rx.length]; exact hj, kq σ _ Γ _ (t.trans p2) p1 (co.rg.mono (t.trans p2).ext) h⟩)

/-! ### comprehensions whose items are drawn -/
/-- item by item -/
inductive All2 {α β : Type} (P : α → β → Prop) : List α → List β → Prop
  | nil : All2 P [] []
  | cons {a b as bs} : P a b → All2 P as bs → All2 P (a :: as) (b :: bs)
theorem All2.snoc {α β : Type} {P : α → β → Prop} {a : α} {b : β} (h : P a b) : ∀ {as bs}, All2 P as bs → All2 P (as ++ [a]) (bs ++ [b])
  | _, _, .nil => .cons h .nil
  | _, _, .cons g r => .cons g (r.snoc h)
theorem All2.length {α β : Type} {P : α → β → Prop} : ∀ {as bs}, All2 (α := α) (β := β) P as bs → as.length = bs.length
  | _, _, .nil => rfl
  | _, _, .cons _ r => congrArg (· + 1) r.length
theorem All2.all {α β : Type} {P : α → β → Prop} {R : β → Prop} (h : ∀ a b, P a b → R b) : ∀ {as bs}, All2 P as bs → ∀ b ∈ bs, R b
  | _, _, .nil, b, hb => nomatch hb
  | _, _, .cons g r, b, hb => (List.mem_cons.mp hb).elim (fun e => e ▸ h _ _ g) (r.all h b)
theorem All2.maps {α β : Type} {P : α → β → Prop} {γ : Type} {f : γ → β} {R : γ → Prop} (h : ∀ a b, P a b → ∃ c, b = f c ∧ R c) : ∀ {as bs}, All2 P as bs → ∃ cs : List γ, bs = cs.map f ∧ cs.length = as.length ∧ ∀ c ∈ cs, R c
  | _, _, .nil => ⟨[], rfl, rfl, fun c hc => nomatch hc⟩
  | _, _, .cons g r => by
    obtain ⟨c, e, hc⟩ := h _ _ g
    obtain ⟨cs, e2, l, hcs⟩ := r.maps h
    exact ⟨c :: cs, by rw [e, e2]; rfl, congrArg (· + 1) l, fun x hx => (List.mem_cons.mp hx).elim (fun z => z ▸ hc) (hcs x)⟩
theorem ask_all {P : α → D → Prop} (he : ∀ (i : Nat) x, as[i]? = some x → ∃ Γ2, rel (enc x) (wipeG Γ vs) Γ2 ∧ InB X scope fun Y => ZE Y AX0 elt Γ2 S fun y S2 => S2 = S ∧ P x y) (hl : as.length ≤ 16777216) (q : ∀ ys, All2 P as ys → Q (.lst ys) S) : LcAsk X scope [] elt Γ vs rel Q (as.map enc) S := by
  refine ⟨fun i acc S' => S' = S ∧ i ≤ as.length ∧ All2 P (as.take i) acc, ⟨rfl, Nat.zero_le _, .nil⟩, fun i d acc S' hi ⟨e1, e2, e3⟩ => ?_, fun acc S' ⟨e1, e2, e3⟩ => ?_⟩
  · obtain ⟨x, hx, rfl⟩ := map_get hi
    obtain ⟨Γ2, hr, hv⟩ := he i x hx
    have il := (List.getElem?_eq_some_iff.mp hx).1
    subst e1
    refine ⟨Γ2, hr, fun s H C cl fp => zf_nil ?_⟩
    intro s H C cl fp
    refine (hv s H C cl fp).mono fun y S2 ⟨e, p⟩ => ⟨?_, e, il, ?_⟩
    · have := e3.length
      rw [List.length_take] at this
      rw [sizeLine_eq]; omega
    · rw [take_snoc hx]
      exact e3.snoc p
  · subst e1
    rw [List.length_map] at e3
    rw [List.take_length] at e3
    exact q _ e3
/-- some of the items, whichever the test takes -/
theorem ask_some (he : ∀ (i : Nat) x, as[i]? = some x → ∃ Γ2, rel (enc x) (wipeG Γ vs) Γ2 ∧ (InB X scope fun Y => ZT Y AX0 c Γ2 S fun _ S2 => S2 = S) ∧ InB X scope fun Y => ZV Y elt Γ2 S (f x)) (hl : as.length ≤ 16777216) (q : ∀ bs : List α, bs.Sublist as → Q (.lst (bs.map f)) S) : LcAsk X scope [c] elt Γ vs rel Q (as.map enc) S := by
  refine ⟨fun i acc S' => S' = S ∧ i ≤ as.length ∧ ∃ bs : List α, bs.Sublist (as.take i) ∧ acc = bs.map f, ⟨rfl, Nat.zero_le _, [], .slnil, rfl⟩, fun i d acc S' hi ⟨e1, e2, bs, e3, e4⟩ => ?_, fun acc S' ⟨e1, e2, bs, e3, e4⟩ => ?_⟩
  · obtain ⟨x, hx, rfl⟩ := map_get hi
    obtain ⟨Γ2, hr, hb, hv⟩ := he i x hx
    have il := (List.getElem?_eq_some_iff.mp hx).1
    subst e1 e4
    refine ⟨Γ2, hr, fun s H C cl fp => zf_one ?_⟩
    refine fun F σ H co Q' k => hb s _ C cl fp F σ H co Q' fun b H' S2 t hc e => k b H' S2 t hc ?_
    subst e
    cases b with
    | true =>
      rw [if_pos rfl]
      intro s H C cl fp
      refine (hv s H C cl fp).ze ⟨?_, rfl, il, bs ++ [x], by rw [take_snoc hx]; exact e3.append (List.Sublist.refl _), by rw [List.map_append]; rfl⟩
      have := e3.length_le
      rw [List.length_take] at this
      rw [sizeLine_eq, List.length_map]; omega
    | false =>
      rw [if_neg Bool.false_ne_true]
      exact ⟨rfl, il, bs, by rw [take_snoc hx]; exact e3.trans (List.sublist_append_left _ _), rfl⟩
  · subst e1 e4
    rw [List.length_map] at e3
    rw [List.take_length] at e3
    exact q _ e3
end
end Fz
end

section
namespace Fz
open PySem PySem.Spec PyProof.Rows L2 PySem.W

/-! ### cells looked at as data -/
/-- the frame while the cells ps are seen -/
def pkF (F : List Addr) (S : Store) (ps : List Addr) : List Addr := F ++ (keys S).filter fun a => !(ps.contains a)
section
variable {K : PySem.W.Frag} {F : List Addr} {S : Store} {H H' : Hp} {ps : List Addr}
theorem pk_mem {a : Addr} : a ∈ pkF F S ps ↔ a ∈ F ∨ (a ∈ keys S ∧ a ∉ ps) := by
  unfold pkF
  rw [List.mem_append, List.mem_filter]
  simp
theorem pk_vw {a : Addr} (h : a ∉ pkF F S ps) : vw (pkF F S ps) [] H a = H a := by
  have : a ∉ pkF F S ps ++ keys ([] : Store) := by simpa [keys] using h
  rw [vw, hd_out this]
theorem pk_sub : Sub (vw F S H) (vw (pkF F S ps) [] H) := hd_less fun a ha => by
  have ha : a ∈ pkF F S ps := by simpa [keys] using ha
  rcases pk_mem.mp ha with q | ⟨q, _⟩
  · exact List.mem_append_left _ q
  · exact List.mem_append_right _ q
theorem pk_hc (h : HC K F S H) : HC K (pkF F S ps) [] H := by
  refine ⟨?_, fun a ha => ?_, fun p c z => (nomatch z)⟩
  · have : (F ++ (keys S).filter fun a => !(ps.contains a)).Nodup := by
      obtain ⟨n1, n2, n3⟩ := List.nodup_append.mp h.nd
      exact List.nodup_append.mpr ⟨n1, n2.filter _, fun a ha b hb => n3 a ha b (List.mem_filter.mp hb).1⟩
    simpa [keys, pkF] using this
  · rcases pk_mem.mp ha with q | ⟨q, _⟩
    · exact h.fr a q
    · exact h.there (List.mem_append_right _ q)
theorem pk_back (h : HC K F S H) (t : Stp (pkF F S ps) [] H [] H') : HC K F S H' ∧ Stp F S H S H' := by
  have same : ∀ a ∈ F ++ keys S, H' a = H a := fun a ha => by
    by_cases q : a ∈ pkF F S ps
    · exact t.frm a q
    · have e := pk_vw (H := H) q
      cases z : H a with
      | none => exact absurd z (h.there ha)
      | some o =>
        have := t.ext a o (by rw [e]; exact z)
        exact hd_sub _ _ this
  have sub : Sub (vw F S H) (vw F S H') := fun a o e => by
    by_cases q : a ∈ F ++ keys S
    · rw [vw, hd_in q] at e; cases e
    · have n : a ∉ pkF F S ps := fun z => by
        rcases pk_mem.mp z with z | ⟨z, _⟩
        · exact q (List.mem_append_left _ z)
        · exact q (List.mem_append_right _ z)
      rw [vw, hd_out q] at e ⊢
      have := t.ext a o (by rw [pk_vw n]; exact e)
      exact hd_sub _ _ this
  exact ⟨⟨h.nd, fun a ha => by rw [same a (List.mem_append_left _ ha)]; exact h.fr a ha, fun q ce hq => by
    rw [same q (List.mem_append_right _ (List.mem_map.mpr ⟨_, hq, rfl⟩))]
    exact (h.at_ q ce hq).mono sub⟩, ⟨sub, fun a ha => same a (List.mem_append_left _ ha)⟩⟩
/-- a frame whose names see cells -/
inductive Seen (S : Store) (ps : List Addr) : D → D → Prop
  | self {d} : Seen S ps d d
  | lst {p : Addr} {k : Nat} {ds} : S[k]? = some (p, .lst ds) → p ∈ ps → Seen S ps (.ref p) (.lst ds)
  | dk {p : Addr} {k : Nat} {ds} : S[k]? = some (p, .dk ds) → p ∈ ps → Seen S ps (.ref p) (.dk ds)
  | dt {p : Addr} {k : Nat} {ds} : S[k]? = some (p, .dt ds) → p ∈ ps → Seen S ps (.ref p) (.dt ds)
  | ins {p : Addr} {k : Nat} {c fs} : S[k]? = some (p, .ins c fs) → p ∈ ps → Seen S ps (.ref p) (.obj p c fs)
theorem Seen.rep {d d' : D} {v : V} (h : HC K F S H) (s : Seen S ps d d') (r : Rep K (vw F S H) d v) : Rep K (vw (pkF F S ps) [] H) d' v := by
  have vis : ∀ {p : Addr}, p ∈ ps → p ∈ keys S → vw (pkF F S ps) [] H p = H p := fun {p} hp hk => pk_vw fun z => by
    rcases pk_mem.mp z with z | ⟨_, z⟩
    · exact (List.nodup_append.mp h.nd).2.2 p z p hk rfl
    · exact z hp
  have km : ∀ {p : Addr} {k : Nat} {c : Cell}, S[k]? = some (p, c) → p ∈ keys S := fun {p k c} e => List.mem_map.mpr ⟨_, List.mem_of_getElem? e, rfl⟩
  cases s with
  | self => exact r.mono pk_sub
  | lst e hp =>
    cases r
    obtain ⟨xs, ex, rx⟩ := h.get e
    exact .lst (by rw [vis hp (km e)]; exact ex) (rx.mono pk_sub)
  | dk e hp =>
    cases r
    obtain ⟨xs, ex, rx⟩ := h.get e
    exact .dk (by rw [vis hp (km e)]; exact ex) (rx.mono pk_sub)
  | dt e hp =>
    cases r
    obtain ⟨xs, ex, rx⟩ := h.get e
    exact .dt (by rw [vis hp (km e)]; exact ex) (rx.mono pk_sub)
  | ins e hp =>
    cases r
    obtain ⟨dx, xs, ex, rx⟩ := h.get e
    exact .obj (by rw [vis hp (km e)]; exact ex) (rx.mono pk_sub)
def SeenG (S : Store) (ps : List Addr) (Γ Γ' : Gam) : Prop := Γ'.length = Γ.length ∧ ∀ (i : Nat) (d' : D), Γ'[i]? = some (some d') → ∃ d, Γ[i]? = some (some d) ∧ Seen S ps d d'
theorem SeenG.self {Γ : Gam} : SeenG S ps Γ Γ := ⟨rfl, fun i d' h => ⟨d', h, .self⟩⟩
theorem SeenG.set {Γ Γ' : Gam} (g : SeenG S ps Γ Γ') {i : Nat} {d d' : D} (h : Γ[i]? = some (some d)) (s : Seen S ps d d') : SeenG S ps Γ (Γ'.set i (some d')) := by
  refine ⟨by rw [List.length_set]; exact g.1, fun j e q => ?_⟩
  by_cases c : i = j
  · subst c
    have hl := (List.getElem?_eq_some_iff.mp q).1
    rw [List.getElem?_set_self (by simpa using hl)] at q
    cases q
    exact ⟨d, h, s⟩
  · rw [List.getElem?_set_ne c] at q
    exact g.2 j e q
/-- what needs no heap -/
theorem flat_any {d : D} {v : V} {G G' : Hp} (r : Rep K G d v) (f : flatD d = true) : Rep K G' d v := by
  cases r with
  | non => exact .non
  | bl => exact .bl
  | int => exact .int
  | str h => exact .str h
  | _ => cases f
end
section
variable {X : Cx} {Γ Γ' : Gam} {S : Store} {e : Expr} {d : D} {ps : List Addr}
/-- a value that needs no heap, of names that see cells -/
theorem zv_peek (g : SeenG S ps Γ Γ') (h : ZV X e Γ' [] d) (f : flatD d = true) : ZV X e Γ S d := fun Ex Q q F σ H c Q' k => by
  have rg : RG X.K (vw (pkF F S ps) [] H) Γ' σ := ⟨g.1.trans c.rg.1, fun i d' e => by
    obtain ⟨d0, e0, s⟩ := g.2 i d' e
    obtain ⟨v, e1, r⟩ := c.rg.2 i d0 e0
    exact ⟨v, e1, s.rep c.hc r⟩⟩
  refine h AX0 (fun d' S' => d' = d ∧ S' = []) ⟨rfl, rfl⟩ (pkF F S ps) σ H ⟨c.ok, pk_hc c.hc, rg, .none⟩ Q' fun v H' d' S' t hc r ⟨e1, e2⟩ => ?_
  subst e1 e2
  obtain ⟨b1, b2⟩ := pk_back c.hc t
  exact k v H' _ S b2 b1 (flat_any r f) q
theorem zb_peek {t : Bool} (g : SeenG S ps Γ Γ') (h : ZB X e Γ' [] t) : ZB X e Γ S t := fun Ex Q q F σ H c Q' k => by
  have rg : RG X.K (vw (pkF F S ps) [] H) Γ' σ := ⟨g.1.trans c.rg.1, fun i d' e => by
    obtain ⟨d0, e0, s⟩ := g.2 i d' e
    obtain ⟨v, e1, r⟩ := c.rg.2 i d0 e0
    exact ⟨v, e1, s.rep c.hc r⟩⟩
  refine h AX0 (fun d' S' => d' = t ∧ S' = []) ⟨rfl, rfl⟩ (pkF F S ps) σ H ⟨c.ok, pk_hc c.hc, rg, .none⟩ Q' fun v H' S' tt hc ⟨e1, e2⟩ => ?_
  subst e1 e2
  obtain ⟨b1, b2⟩ := pk_back c.hc tt
  exact k _ H' S b2 b1 q
end
end Fz
namespace Fz
open PySem PySem.Spec PyProof.Rows L2 PySem.W
/-! ### any cell, changed no more -/
theorem mem_erase {S : Store} {k : Nat} {p : Addr} {c : Cell} (hk : S[k]? = some (p, c)) (a : Addr) : a ∈ keys S ↔ a = p ∨ a ∈ keys (S.eraseIdx k) := by
  have hl := (List.getElem?_eq_some_iff.mp hk).1
  have e : S = S.take k ++ (p, c) :: S.drop (k + 1) := by
    have h1 := (List.take_append_drop k S).symm
    rw [List.drop_eq_getElem_cons hl, (List.getElem?_eq_some_iff.mp hk).2] at h1
    exact h1
  have e2 : S.eraseIdx k = S.take k ++ S.drop (k + 1) := List.eraseIdx_eq_take_drop_succ S k
  rw [e2]
  conv => lhs; rw [e]
  unfold keys
  simp only [List.map_append, List.map_cons, List.mem_append, List.mem_cons]
  constructor
  · rintro (h | h | h)
    · exact .inr (.inl h)
    · exact .inl h
    · exact .inr (.inr h)
  · rintro (h | h | h)
    · exact .inr (.inl h)
    · exact .inl h
    · exact .inr (.inr h)
section
variable {K : PySem.W.Frag} {F : List Addr} {S : Store} {H H' : Hp} {k : Nat} {p : Addr} {c : Cell}
theorem thaw_nd (h : HC K F S H) (hk : S[k]? = some (p, c)) : (F ++ keys (S.eraseIdx k)).Nodup ∧ p ∉ F ++ keys (S.eraseIdx k) := by
  have hl := (List.getElem?_eq_some_iff.mp hk).1
  have e : F ++ keys S = F ++ (keys (S.take k) ++ p :: keys (S.drop (k + 1))) := by
    have h1 := (List.take_append_drop k S).symm
    rw [List.drop_eq_getElem_cons hl, (List.getElem?_eq_some_iff.mp hk).2] at h1
    conv => lhs; rw [h1]
    simp [keys]
  have e2 : F ++ keys (S.eraseIdx k) = F ++ (keys (S.take k) ++ keys (S.drop (k + 1))) := by
    rw [List.eraseIdx_eq_take_drop_succ]; simp [keys]
  have pm : (F ++ keys S).Perm (p :: (F ++ keys (S.eraseIdx k))) := by
    rw [e, e2, ← List.append_assoc, ← List.append_assoc]
    exact List.perm_middle
  have nd := pm.nodup_iff.mp h.nd
  exact ⟨(List.nodup_cons.mp nd).2, (List.nodup_cons.mp nd).1⟩
theorem HC.freezeAt (h : HC K F S H) (hk : S[k]? = some (p, c)) : HC K F (S.eraseIdx k) H ∧ Stp F S H (S.eraseIdx k) H ∧ vw F (S.eraseIdx k) H p = H p := by
  obtain ⟨n1, n2⟩ := thaw_nd h hk
  have sub : Sub (vw F S H) (vw F (S.eraseIdx k) H) := hd_less fun a ha => by
    rcases List.mem_append.mp ha with q | q
    · exact List.mem_append_left _ q
    · exact List.mem_append_right _ ((mem_erase hk a).mpr (.inr q))
  exact ⟨⟨n1, h.fr, fun q ce hq => (h.at_ q ce (List.mem_of_mem_eraseIdx hq)).mono sub⟩, ⟨sub, fun _ _ => rfl⟩, by rw [vw, hd_out n2]⟩
end
/-- what a cell is when it changes no more -/
inductive Ice : Addr → Cell → D → Prop
  | lst {p ds} : Ice p (.lst ds) (.lst ds)
  | dk {p ks} : Ice p (.dk ks) (.dk ks)
  | dt {p ks} : Ice p (.dt ks) (.dt ks)
  | ins {p c fs} : Ice p (.ins c fs) (.obj p c fs)
theorem Ice.rep {K G} {H : Hp} {p : Addr} {c : Cell} {d : D} (i : Ice p c d) (h : CellAt K G (H p) c) (e : G p = H p) : Rep K G d (.ref p) := by
  cases i with
  | lst => obtain ⟨xs, q, r⟩ := h; exact .lst (e.trans q) r
  | dk => obtain ⟨xs, q, r⟩ := h; exact .dk (e.trans q) r
  | dt => obtain ⟨xs, q, r⟩ := h; exact .dt (e.trans q) r
  | ins => obtain ⟨dx, xs, q, r⟩ := h; exact .obj (e.trans q) r
section
variable {X : Cx} {Ex : AX} {Γ : Gam} {S : Store} {ss : List Stmt} {E : AEnds} {Q : DQ} {e o i : Expr} {pos : Pos}
theorem set_here {σ : L2.St} {j : Nat} {v : V} (h : σ[j]? = some (some v)) : σ.set j (some v) = σ := by
  apply List.ext_getElem?
  intro n
  by_cases q : j = n
  · subst q
    rw [List.getElem?_set_self (List.getElem?_eq_some_iff.mp h).1, h]
  · rw [List.getElem?_set_ne q]
/-- the name's cell is data from here on -/
theorem zs_ice {k j : Nat} {p : Addr} {c : Cell} {d : D} (hk : S[k]? = some (p, c)) (hj : Γ[j]? = some (some (.ref p))) (ice : Ice p c d) (h : ZS X Ex ss (Γ.set j (some d)) (S.eraseIdx k) E) : ZS X Ex ss Γ S E := fun F σ H co D' kq => by
  obtain ⟨f1, f2, f3⟩ := co.hc.freezeAt hk
  have cell := (co.hc.get hk).mono f2.ext
  obtain ⟨v, e1, r1⟩ := co.rg.2 j _ hj
  cases r1
  have g := (co.rg.mono f2.ext).set (i := j) (ice.rep cell f3)
  rw [set_here e1] at g
  exact h F σ H ⟨co.ok, f1, g, co.xr.step f2⟩ D' (kq.step f2)
/-- a cell of no name any more -/
theorem zs_lose {k : Nat} {p : Addr} {c : Cell} (hk : S[k]? = some (p, c)) (h : ZS X Ex ss Γ (S.eraseIdx k) E) : ZS X Ex ss Γ S E := fun F σ H co D' kq => by
  obtain ⟨f1, f2, f3⟩ := co.hc.freezeAt hk
  exact h F σ H ⟨co.ok, f1, co.rg.mono f2.ext, co.xr.step f2⟩ D' (kq.step f2)
/-- a value behind which its cell is data -/
theorem ze_ice {S0 : Store} (h : ZE X Ex e Γ S0 fun r S' => ∃ k p c d, r = .ref p ∧ S'[k]? = some (p, c) ∧ Ice p c d ∧ Q d (S'.eraseIdx k)) : ZE X Ex e Γ S0 Q := fun F σ H co Q' kq =>
  h F σ H co Q' fun v H' r S' t hc rr ⟨k, p, c, d, e, hk, ice, q⟩ => by
    subst e
    cases rr
    obtain ⟨f1, f2, f3⟩ := hc.freezeAt hk
    exact kq _ _ _ _ (t.trans f2) f1 (ice.rep ((hc.get hk).mono f2.ext) f3) q
theorem ze_lose {S0 : Store} (h : ZE X Ex e Γ S0 fun r S' => ∃ k p c, S'[k]? = some (p, c) ∧ Q r (S'.eraseIdx k)) : ZE X Ex e Γ S0 Q := fun F σ H co Q' kq =>
  h F σ H co Q' fun v H' r S' t hc rr ⟨k, p, c, hk, q⟩ => by
    obtain ⟨f1, f2, f3⟩ := hc.freezeAt hk
    exact kq _ _ _ _ (t.trans f2) f1 (rr.mono f2.ext) q
/-- an item of a list that may change -/
theorem zv_ixC {k : Nat} {p : Addr} {ds : List D} {n : Int} {d : D} (ho : ZV X o Γ S (.ref p)) (hi : ZV X i Γ S (.int n)) (hk : S[k]? = some (p, .lst ds)) (h : atI ds n = some d) (hs : PlainIx i := by exact fun _ _ => rfl) : ZV X (.Subscript o i pos) Γ S d := fun Ex Q q =>
  ze_of (pe_ix ix_Z pe_self pe_self hs) fun F σ H c Q' k' => opTwo (R := fun x y S2 Q => x = .ref p ∧ y = .int n ∧ S2 = S ∧ Q d S) (fun F2 S2 H2 x y v u Q2 Q3 _ hc r1 r2 ⟨e1, e2, e3, q2⟩ kk => by
    rw [e1] at r1
    rw [e2] at r2
    cases r1
    cases r2
    obtain ⟨xs, hx, rx⟩ := hc.get (by rw [e3]; exact hk)
    obtain ⟨v, e, r⟩ := atI_rep rx h
    exact .inl ⟨_, _, n, v, rfl, rfl, SqL.of hx, e, kk _ _ _ _ .refl hc r (by rw [e3]; exact q2)⟩) (ho.ze (hi.ze ⟨rfl, rfl, rfl, q⟩)) c k'
end
end Fz
namespace Fz
open PySem PySem.Spec PyProof.Rows L2 PySem.W
/-- the name in slot i -/
theorem zn {X : Cx} {Γ : Gam} {S : Store} {d : D} {pos : Pos} {x : Str} (i : Nat) (h : Γ[i]? = some (some d) := by rfl) (hN : X.N[i]? = some x := by rfl) (hv : Vis X.env.scope x := by first | exact Or.inl rfl | exact Or.inr (Or.inl rfl) | exact Or.inr (Or.inr rfl))
    (hd : (x == ("__debug__" : Str)) = false := by decide) (hcd : (x == ("__classdict__" : Str)) = false := by decide) : ZV X (.Name x pos) Γ S d := zv_var h hN hv hd hcd
end Fz
namespace Fz
open PySem PySem.Spec PyProof.Rows L2 PySem.W
section
variable {X : Cx} {Ex : AX} {Γ : Gam} {S : Store} {E : AEnds} {d u v : D} {e a b c tg : Expr} {rest t f : List Stmt} {pos : Pos}
/-- name = e, then the rest -/
theorem zset (i : Nat) {x : Str} {pos' : Pos} (h : ZE X Ex e Γ S fun d S' => ZS X Ex rest (Γ.set i (some d)) S' E) (hi : X.N[i]? = some x := by rfl) (hx : Loc X.env.scope x := by first | exact .inl rfl | exact .inr rfl)
    (hs : swapsWith e (some (.Name x pos')) pos.line X.env = pure false := by rfl) (hf : X.fn x = true ∨ X.env.scope.names.lookup x = some .local := by first | exact .inl rfl | exact .inr rfl | assumption) : ZS X Ex (.Assign [.Name x pos'] e pos :: rest) Γ S E :=
  zs_cons (z1_set h hi hx hs hf)
theorem zsetV (i : Nat) {x : Str} {pos' : Pos} (h : ZV X e Γ S d) (k : ZS X Ex rest (Γ.set i (some d)) S E) (hi : X.N[i]? = some x := by rfl) (hx : Loc X.env.scope x := by first | exact .inl rfl | exact .inr rfl)
    (hs : swapsWith e (some (.Name x pos')) pos.line X.env = pure false := by rfl) (hf : X.fn x = true ∨ X.env.scope.names.lookup x = some .local := by first | exact .inl rfl | exact .inr rfl | assumption) : ZS X Ex (.Assign [.Name x pos'] e pos :: rest) Γ S E :=
  zset i (h.ze k) hi hx hs hf
/-- x, y = a, b -/
theorem zpar (i j : Nat) {x y : Str} {px py pt : Pos} {kt k2 pt2} (h : ZE X Ex a Γ S fun u S1 => ZE X Ex b Γ S1 fun v S2 => ZS X Ex rest ((Γ.set i (some u)).set j (some v)) S2 E)
    (hw : swappedStores [.Tuple [.Name x px, .Name y py] kt pt] (.Tuple [a, b] k2 pt2) X.env = pure (some [x, y]) := by rfl) (hi : X.N[i]? = some x := by rfl) (hj : X.N[j]? = some y := by rfl) (hij : i ≠ j := by decide)
    (hx : X.env.scope.names.lookup x = some .local := by rfl) (hy : X.env.scope.names.lookup y = some .local := by rfl)
    (hs : swapsWithSole [.Tuple [.Name x px, .Name y py] kt pt] (.Tuple [a, b] k2 pt2) pos.line X.env = pure false := by rfl)
    (s1 : starEach [a, b] X.env = (false, eval a X.env) :: starEach [b] X.env := by rfl) (s2 : starEach [b] X.env = (false, eval b X.env) :: starEach [] X.env := by rfl) : ZS X Ex (.Assign [.Tuple [.Name x px, .Name y py] kt pt] (.Tuple [a, b] k2 pt2) pos :: rest) Γ S E :=
  zs_cons (z1_par h hw hi hj hij hx hy hs s1 s2)
/-- if c: t (which ends), then the rest -/
theorem zif {tt : Bool} (h : ZB X c Γ S tt) (k : if tt = true then ZS X Ex t Γ S { E with nx := fun Γ' S' => ZS X Ex rest Γ' S' E } else ZS X Ex f Γ S { E with nx := fun Γ' S' => ZS X Ex rest Γ' S' E }) : ZS X Ex (.If c t f pos :: rest) Γ S E := zs_cons (z1_if (h.zt k))
theorem zret (h : ZE X Ex e Γ S E.rt) : ZS X Ex [.Return (some e) pos] Γ S E := zs_one (z1_ret h)
theorem zretV (h : ZV X e Γ S d) (k : E.rt d S) : ZS X Ex [.Return (some e) pos] Γ S E := zs_one (z1_ret (h.ze k))
/-- o[i] = e -/
theorem zput {o i value : Expr} {pos' : Pos} {k j : Nat} {p : Addr} {ds : List D} {n : Int} {S' : Store} (hv : ZV X value Γ S d) (ho : ZV X o Γ S (.ref p)) (hi : ZV X i Γ S (.int n)) (hk : S[k]? = some (p, .lst ds)) (hj : ixN ds.length n = some j) (hS : S.set k (p, .lst (ds.set j d)) = S') (h : ZS X Ex rest Γ S' E)
    (hs : swapsWithSole [.Subscript o i pos'] value pos.line X.env = pure false := by rfl) (hw : swappedStores [.Subscript o i pos'] value X.env = pure none := by rfl)
    (h1 : (assignEach [.Subscript o i pos'] X.env).map (·.2) = [assign (.Subscript o i pos') X.env] := by rfl)
    (ha : ∀ v, assign (.Subscript o i pos') X.env v = (do
      let ov ← holding [v] (eval o X.env)
      let iv ← holding [v, ov] (eval i X.env)
      standAt pos'
      holding [v, ov, iv] (setItem ov iv v)
      release [v, ov, iv] []) := by intro _; rfl) : ZS X Ex (.Assign [.Subscript o i pos'] value pos :: rest) Γ S E := by
  subst hS
  exact zs_cons (z1_asg (hv.ze (zg_item ho hi hk hj h ha)) hs hw h1)
end
end Fz
end

section
namespace Fz
open PySem PySem.Spec PyProof.Rows L2 PySem.W
/-- slots forgotten, one by one -/
inductive Wk : Gam → Gam → Prop
  | nil : Wk [] []
  | same {x Γ Γ'} : Wk Γ Γ' → Wk (x :: Γ) (x :: Γ')
  | drop {x Γ Γ'} : Wk Γ Γ' → Wk (x :: Γ) (none :: Γ')
theorem Wk.weak : ∀ {Γ Γ' : Gam}, Wk Γ Γ' → weaker Γ Γ'
  | _, _, .nil => ⟨rfl, fun _ _ h => h⟩
  | _, _, .same h => ⟨congrArg (· + 1) h.weak.1, fun i d e => match i with
    | 0 => e
    | i + 1 => h.weak.2 i d e⟩
  | _, _, .drop h => ⟨congrArg (· + 1) h.weak.1, fun i d e => match i with
    | 0 => by simp at e
    | i + 1 => h.weak.2 i d e⟩
section
variable {X : Cx} {Ex : AX} {Γ : Gam} {S : Store} {E : AEnds} {e a b c tg iter : Expr} {body rest ss : List Stmt} {pos : Pos} {d : D} {ds : List D} {q : GQ} {α : Type}
theorem ZG.weak {Γ' : Gam} (h : ZG X Ex tg d Γ' S q) (w : weaker Γ Γ') : ZG X Ex tg d Γ S q := fun F σ H v c r q' k => h F σ H v ⟨c.ok, c.hc, c.rg.weak w, c.xr⟩ r q' k
theorem ZE.weak {Γ' : Gam} {Q : DQ} (h : ZE X Ex e Γ' S Q) (w : weaker Γ Γ') : ZE X Ex e Γ S Q := fun F σ H c Q' k => h F σ H ⟨c.ok, c.hc, c.rg.weak w, c.xr⟩ Q' k
theorem zwk {Γ' : Gam} (h : ZS X Ex ss Γ' S E) (w : Wk Γ Γ' := by repeat constructor) : ZS X Ex ss Γ S E := h.weak w.weak
/-- for, over a state -/
theorem zfor (γ : α → Gam) (st : α → Store) (P : Nat → α → Prop) (a0 : α) (iv : ZIV X tg iter Γ S ds) (w0 : Wk Γ (γ a0)) (s0 : S = st a0) (p0 : P 0 a0)
    (turn : ∀ (i : Nat) d a, ds[i]? = some d → P i a → ZG X Ex tg d (γ a) (st a) fun Γ2 S2 => ZS X Ex body Γ2 S2 { E with nx := fun Γ3 S3 => ∃ a', Wk Γ3 (γ a') ∧ S3 = st a' ∧ P (i + 1) a', ct := fun Γ3 S3 => ∃ a', Wk Γ3 (γ a') ∧ S3 = st a' ∧ P (i + 1) a', bk := fun Γ' S' => ZS X Ex rest Γ' S' E })
    (done : ∀ a, P ds.length a → ZS X Ex rest (γ a) (st a) E) (hs : ∀ x, foldedSetIterable iter X.env x = pure x := by intro _; rfl) : ZS X Ex (.For tg iter body [] pos :: rest) Γ S E :=
  zs_cons (z1_for (iv.zi ⟨fun i Γ' S' => ∃ a, Wk Γ' (γ a) ∧ S' = st a ∧ P i a, ⟨a0, w0, s0, p0⟩, fun i d Γ' S' hi ⟨a, w, e, p⟩ => by
    subst e
    exact (turn i d a hi p).weak w.weak, fun Γ' S' ⟨a, w, e, p⟩ => by
    subst e
    exact (done a p).weak w.weak⟩) hs)
/-- one name for each item -/
theorem zgn (i : Nat) {x : Str} (h : q (Γ.set i (some d)) S) (hi : X.N[i]? = some x := by rfl) (hx : Loc X.env.scope x := by first | exact .inl rfl | exact .inr rfl) (hf : X.fn x = true ∨ X.env.scope.names.lookup x = some .local := by first | exact .inl rfl | exact .inr rfl) : ZG X Ex (.Name x pos) d Γ S q := zg_name h hi hx hf
/-- a if c else b -/
theorem zv_if {t : Bool} {x y : D} (hc : ZB X c Γ S t) (h1 : t = true → ZV X a Γ S x) (h2 : t = false → ZV X b Γ S y) : ZV X (.IfExp c a b pos) Γ S (if t = true then x else y) := fun Ex Q q => ze_if (hc.zt (by
  cases t with
  | true => exact (h1 rfl).ze q
  | false => exact (h2 rfl).ze q))
theorem zv_ifI {t : Bool} {x y : Int} (hc : ZB X c Γ S t) (h1 : t = true → ZV X a Γ S (.int x)) (h2 : t = false → ZV X b Γ S (.int y)) : ZV X (.IfExp c a b pos) Γ S (.int (if t = true then x else y)) := fun Ex Q q => ze_if (hc.zt (by
  cases t with
  | true => exact (h1 rfl).ze q
  | false => exact (h2 rfl).ze q))
theorem zb_or {es : List Expr} {t u : Bool} (h : ZB X a Γ S t) (h2 : t = false → ZB X b Γ S u) : ZB X (.BoolOp .Or [a, b] pos) Γ S (t || u) := fun Ex Q q => (zw_or (h.zt (by
  cases t with
  | true => exact q
  | false => exact zw_or1 ((h2 rfl).zt q)))).zt
theorem zb_and {es : List Expr} {t u : Bool} (h : ZB X a Γ S t) (h2 : t = true → ZB X b Γ S u) : ZB X (.BoolOp .And [a, b] pos) Γ S (t && u) := fun Ex Q q => (zw_and (h.zt (by
  cases t with
  | false => exact q
  | true => exact zw_and1 ((h2 rfl).zt q)))).zt
end
end Fz
end

section
namespace Fz
open PySem PySem.Spec PyProof.Rows L2 PySem.W

/-! ### the head's facts -/
/-- facts of own classes beside He's -/
inductive Fb where
  | ins (x : Str)
  | isB (t : String) (x : Str) (b : Bool)
  | isC (x y : Str) (b : Bool)
  | isT (x : Str) (t : String) (b : Bool)
  | nf (x : Str) (t : String)
  | nfc (x y : Str)
  | ne (x : Str)
  | nobool (x : Str)
open He in
def Fb.ok (K : Frag) : Fb → Bool
  | .ins x => (He.Fa.cls x).ok K && (eqO (findIn K (.ref (ga K x)) "__class__") (some (some (.builtin "object.__class__"))) && (eqO (specialIn K (.builtin "object.__class__") "__get__") (some (some (.builtin "getset_descriptor.__get__"))) &&
      (decide (takesIn K (.builtin "object.__class__") = some true) && (decide (mroIn K (ga K x) (.type "object") = some true) && decide (kitOne K (.ref (ga K x)) (.ref (ga K x)) = some true)))))
  | .isB t x b => decide (kitOne K (.type t) (.ref (ga K x)) = some b)
  | .isC x y b => decide (kitOne K (.ref (ga K x)) (.ref (ga K y)) = some b)
  | .isT x t b => decide (kitOne K (.ref (ga K x)) (.type t) = some b)
  | .nf x t => notFirst K (ga K x) (.type t)
  | .nfc x y => notFirst K (ga K x) (.ref (ga K y))
  | .ne x => eqO (findIn K (.ref (ga K x)) "__ne__") (some (some (.builtin "object.__ne__"))) && decide (subIn K (.ref (ga K x)) (.type "object") = some true)
  | .nobool x => eqO (findIn K (.ref (ga K x)) "__bool__") (some none)
section
variable {K : Frag}
open He
theorem ins_ok {x : Str} (c : (Fb.ins x).ok K = true) : C8.InsC K (ga K x) := by
  obtain ⟨c1, c⟩ := ba c
  obtain ⟨c2, c⟩ := ba c
  obtain ⟨c3, c⟩ := ba c
  obtain ⟨c4, c⟩ := ba c
  obtain ⟨c5, c6⟩ := ba c
  exact ⟨cls_ok c1, eqO_ok c2, eqO_ok c3, of_decide_eq_true c4, of_decide_eq_true c5, of_decide_eq_true c6⟩
theorem isB_ok {x : Str} {t : String} {b : Bool} (c : (Fb.isB t x b).ok K = true) : kitOne K (.type t) (.ref (ga K x)) = some b := of_decide_eq_true c
theorem isC_ok {x y : Str} {b : Bool} (c : (Fb.isC x y b).ok K = true) : kitOne K (.ref (ga K x)) (.ref (ga K y)) = some b := of_decide_eq_true c
theorem isT_ok {x : Str} {t : String} {b : Bool} (c : (Fb.isT x t b).ok K = true) : kitOne K (.ref (ga K x)) (.type t) = some b := of_decide_eq_true c
theorem nf_ok {x : Str} {t : String} (c : (Fb.nf x t).ok K = true) : notFirst K (ga K x) (.type t) = true := c
theorem nfc_ok {x y : Str} (c : (Fb.nfc x y).ok K = true) : notFirst K (ga K x) (.ref (ga K y)) = true := c
theorem ne_ok {x : Str} (c : (Fb.ne x).ok K = true) : NeC K x := ⟨eqO_ok (ba c).1, of_decide_eq_true (ba c).2⟩
theorem nobool_ok {x : Str} (c : (Fb.nobool x).ok K = true) : findIn K (.ref (ga K x)) "__bool__" = some none := eqO_ok c
end
structure SaysZ (fa : List He.Fa) (fn : List He.DefD) (fb : List Fb) (K : Frag) : Prop where
  d : He.SaysD fa fn K
  b : fb.all (fun f => f.ok K) = true
abbrev AlZ : Type := He.AlD × Bool
def obsZ (n : Nat) (fa : List He.Fa) (fn : List He.DefD) (fb : List Fb) (g : Addr → Option Obj) : AlZ := (He.obsD fa fn (He.frG g (He.asD g n)), fb.all fun f => f.ok (He.frG g (He.asD g n)))
def hookZ (n : Nat) (fa : List He.Fa) (fn : List He.DefD) (fb : List Fb) : Hook where
  α := AlZ
  obs := fun s => obsZ n fa fn fb s.heap.get?
  val := fun _ => (He.valD fn, true)
  says := fun _ h => ∃ K : Frag, K.In h ∧ SaysZ fa fn fb K
  of := fun _ _ e => ⟨_, He.frG_in, congrArg (fun z : AlZ => z.1) e, congrArg (fun z : AlZ => z.2) e⟩
  keeps := fun _ _ _ ⟨K, hK, c⟩ k => ⟨K, Frag.In.keeps hK k, c⟩
theorem obsZ_eq {n : Nat} {fa : List He.Fa} {fn : List He.DefD} {fb : List Fb} {g : Addr → Option Obj} {s : Shared} (h : ∀ a, g a = s.heap.get? a) : obsZ n fa fn fb g = (hookZ n fa fn fb).obs s := by
  have e : g = s.heap.get? := funext h
  rw [e]; rfl
/-- where a law's defs are proved -/
structure Cz (fa : List He.Fa) (fn : List He.DefD) (fb : List Fb) (K : Frag) (mg : Str → Option Value) (base : Heap) : Prop where
  X : K.In base
  G : base.Ns mainGlobals mg
  s : SaysZ fa fn fb K
section
variable {fa : List He.Fa} {fn : List He.DefD} {fb : List Fb} {K : Frag} {mg : Str → Option Value} {base : Heap}
theorem Cz.ta (c : Cz fa fn fb K mg base) (i : Nat) {f : He.Fa} (h : fa[i]? = some f := by rfl) : f.ok K = true := c.s.d.fact i h
theorem Cz.tb (c : Cz fa fn fb K mg base) (i : Nat) {f : Fb} (h : fb[i]? = some f := by rfl) : f.ok K = true := List.all_eq_true.mp c.s.b f (List.mem_of_getElem? h)
theorem Cz.td (c : Cz fa fn fb K mg base) (i : Nat) {d : He.DefD} (h : fn[i]? = some d := by rfl) : ∃ fd, FunD K d.name d.qual d.params d.body d.scope (d.dvs K) (d.kws K) (He.fAd K d.at_) fd := c.s.d.def_ i h
theorem Cz.free (c : Cz fa fn fb K mg base) (i : Nat) {x : Str} (h : fa[i]? = some (.free x) := by rfl) : mg x = none := He.free_ok c.X c.G (c.ta i h)
theorem Cz.glo (c : Cz fa fn fb K mg base) (i : Nat) {x : Str} (h : fa[i]? = some (.glo x) := by rfl) : mg x = some (.ref (He.ga K x)) := He.glo_ok c.X c.G (c.ta i h)
theorem Cz.cln (c : Cz fa fn fb K mg base) {X : Cx} (hm : X.mg = mg) (i : Nat) {x : Str} (h : fa[i]? = some (.glo x) := by rfl) : ClN X x (.ref (He.ga K x)) := .inr ⟨_, rfl, by rw [hm]; exact c.glo i h⟩
/-- a built-in class by its name -/
theorem cln_b {X : Cx} {n : Str} {T : String} (hm : X.mg n = none) (hb : bootBuiltins n = some (.type T)) (hn : n ≠ "__name__" := by decide) : ClN X n (.type T) := .inl ⟨T, rfl, hm, hb, hn⟩
theorem Cz.fld (c : Cz fa fn fb K mg base) {x f : Str} (i j : Nat) (h : fa[i]? = some (.cls x) := by rfl) (h2 : fa[j]? = some (.noat x f) := by rfl) : Fld K x f := ⟨He.cls_ok (c.ta i h), He.noat_ok (c.ta j h2)⟩
variable {P : Program} {w : World} {k n : Nat} {f : Addr} {fd : FuncData} {x qual : Str} {params : Arguments} {body : List Stmt} {scope : Scope} {ps ks : List Str} {asp : ASp} {asp2 : ASk} {gD : List D → List D → List D} {kws : List (Str × V)}
/-- a def of the module's top, called by its name -/
theorem ac_of (c : Cz fa fn fb K mg base) (i : Nat) (hg : fa[i]? = some (.glo x)) (F : FunD K x qual params body scope [] kws (He.ga K x) fd) (G : FnG P w K mg base k (He.ga K x) fd ps (conc K asp)) (b : Bd K fd ps n ks gD) : AC P w K mg base k x n ks (fun ds es => asp (gD ds es)) :=
  ⟨⟨_, c.glo i hg, F.kp, can_fn G b⟩⟩
theorem am_of {C m : Str} (cl : Cls K (He.ga K C)) (me : Meth K (He.ga K C) m f) (G : FnG P w K mg base k f fd ps (conc K asp)) (b : Bd K fd ps (n + 1) ks gD) : AM P w K mg base k C m n ks (fun ds es => asp (gD ds es)) :=
  ⟨⟨f, cl, me, can_fn G b⟩⟩
theorem bd_pos (F : FunD K x qual params body scope [] kws f fd) (n : Nat) (hn : n = ps.length)
    (h : ∀ (kV doc pm : Value) (an : Option Addr) (cdv ct : Value) (us : List Value), us.length = ps.length → bindArgs (fnOf x qual params body scope .none kV doc pm an cdv ct) ⟨us, []⟩ = pure (ps.zip us)) : Bd K fd ps n [] (fun ds _ => ds) := bd_of (F.bindsN h) hn
theorem vals_app : ∀ {xs ys : List V} {us ws : List Value}, Vals xs us → Vals ys ws → Vals (xs ++ ys) (us ++ ws)
  | _, _, _, _, .nil, r => r
  | _, _, _, _, .cons h t, r => .cons h (vals_app t r)
/-- keywords in the parameters' order -/
theorem bd_kw (F : FunD K x qual params body scope [] kws f fd) (n : Nat) (ks : List Str)
    (h : ∀ (kV doc pm : Value) (an : Option Addr) (cdv ct : Value) (us ws : List Value), us.length = n → ws.length = ks.length → bindArgs (fnOf x qual params body scope .none kV doc pm an cdv ct) ⟨us, ks.zip ws⟩ = pure (ps.zip (us ++ ws))) : Bd K fd ps n ks (fun ds es => ds ++ es) := by
  obtain ⟨oc, od, dV, kV, doc, pm, an, cdv, ct, osl, rfl, lk, hcd, hD, hK⟩ := F.ex
  rcases hD with ⟨_, rfl⟩ | ⟨e, _⟩
  · exact ⟨fun us ws => us ++ ws, fun vs zs => vs ++ zs, fun s us ws X l1 l2 => .of_eq (h kV doc pm an cdv ct us ws l1 l2), fun r r2 _ _ => vals_app r r2, fun r r2 _ _ => r.app r2⟩
  · exact absurd rfl e
end
end Fz
end

section
namespace Fz
open PySem PySem.Spec PyProof.Rows L2 PySem.W
/-! ### comprehensions, shorter -/
def kindB (k : NameKind) (k' : NameKind) : Bool := decide (k = k')
def blkB (N : List Str) (sc scope : Scope) (own : List (Str × Nat)) : Bool :=
  decide (scope.kind = .function) && (scope.names.all (fun y => decide (scope.names.lookup y.1 = some y.2)) && (own.all (fun p => decide (N[p.2]? = some p.1)) && (scope.names.all (fun y => decide (y.2 ≠ .free) || (decide (sc.names.lookup y.1 = some .cell) || decide (sc.names.lookup y.1 = some .free))) &&
    scope.names.all fun y => (decide (y.2 ≠ .local) && decide (y.2 ≠ .cell)) || (decide (y.1 ∈ own.map (·.1)) || decide (y.1 ∉ N)))))
theorem blk_of {N : List Str} {sc scope : Scope} {own : List (Str × Nat)} (h : blkB N sc scope own = true) : BlkOk N sc scope own := by
  unfold blkB at h
  simp only [Bool.and_eq_true, List.all_eq_true, Bool.or_eq_true, decide_eq_true_eq] at h
  obtain ⟨h1, h2, h3, h4, h5⟩ := h
  exact ⟨h1, h2, h3, fun y hy e => (h4 y hy).elim (fun z => absurd e z) id, fun y hy e => (h5 y hy).elim (fun z => e.elim (fun q => absurd q z.1) fun q => absurd q z.2) id⟩
section
variable {X : Cx} {Ex : AX} {Γ : Gam} {S : Store} {Q : DQ} {E : AEnds} {elt iter tg iter1 tg1 a b c e : Expr} {es : List Expr} {rest : List Stmt} {pos p1 : Pos} {scope : Scope} {own : List (Str × Nat)} {α β : Type} {as : List α} {enc f : α → D} {p : α → Bool} {x y z : D} {n : Str}
/-- [f(x) for x in as], one name, slot j -/
theorem zmap (j : Nat) (nd : X.N.Nodup) (h : ZIV X (.Name n p1) iter Γ S (as.map enc)) (he : ∀ (i : Nat) x, as[i]? = some x → InB X scope fun Y => ZV Y elt ((wipeG Γ [j]).set j (some (enc x))) S (f x)) (hl : as.length ≤ 16777216) (hn : X.N[j]? = some n := by rfl) (ok : blkB X.N X.env.scope scope [(n, j)] = true := by kernel_rfl)
    (hx : ∀ s H C cl fp, Loc (Bk X scope s H C cl fp).env.scope n := by intros; exact .inl rfl) (hf : ∀ s H C cl fp, (Bk X scope s H C cl fp).fn n = true ∨ (Bk X scope s H C cl fp).env.scope.names.lookup n = some .local := by intros; exact .inr rfl)
    (hs : ∀ x, foldedSetIterable iter X.env x = pure x := by intro _; rfl) : ZV X (.ListComp elt [⟨.Name n p1, iter, [], 0⟩] scope pos) Γ S (.lst (as.map f)) :=
  zv_map (own := [(n, j)]) (blk_of ok) (ct_name nd (by simp) hn hx hf) h (fun i x q => ⟨_, rfl, he i x q⟩) hl hs
/-- [f(x) for x in as if p(x)] -/
theorem zflt (j : Nat) (nd : X.N.Nodup) (h : ZIV X (.Name n p1) iter Γ S (as.map enc)) (hp : ∀ (i : Nat) x, as[i]? = some x → InB X scope fun Y => ZB Y c ((wipeG Γ [j]).set j (some (enc x))) S (p x)) (he : ∀ (i : Nat) x, as[i]? = some x → p x = true → InB X scope fun Y => ZV Y elt ((wipeG Γ [j]).set j (some (enc x))) S (f x)) (hl : as.length ≤ 16777216)
    (hn : X.N[j]? = some n := by rfl) (ok : blkB X.N X.env.scope scope [(n, j)] = true := by kernel_rfl)
    (hx : ∀ s H C cl fp, Loc (Bk X scope s H C cl fp).env.scope n := by intros; exact .inl rfl) (hf : ∀ s H C cl fp, (Bk X scope s H C cl fp).fn n = true ∨ (Bk X scope s H C cl fp).env.scope.names.lookup n = some .local := by intros; exact .inr rfl)
    (hs : ∀ x, foldedSetIterable iter X.env x = pure x := by intro _; rfl) : ZV X (.ListComp elt [⟨.Name n p1, iter, [c], 0⟩] scope pos) Γ S (.lst ((as.filter p).map f)) :=
  zv_flt (own := [(n, j)]) (blk_of ok) (ct_name nd (by simp) hn hx hf) h (fun i x q => ⟨_, rfl, hp i x q, he i x q⟩) hl hs
/-- items drawn one by one -/
theorem zall (j : Nat) (nd : X.N.Nodup) {P : α → D → Prop} (h : ZI X Ex (.Name n p1) iter Γ S fun ds S1 => ds = as.map enc ∧ S1 = S) (he : ∀ (i : Nat) x, as[i]? = some x → InB X scope fun Y => ZE Y AX0 elt ((wipeG Γ [j]).set j (some (enc x))) S fun y S2 => S2 = S ∧ P x y) (hl : as.length ≤ 16777216) (q : ∀ ys, All2 P as ys → Q (.lst ys) S)
    (hn : X.N[j]? = some n := by rfl) (ok : blkB X.N X.env.scope scope [(n, j)] = true := by kernel_rfl)
    (hx : ∀ s H C cl fp, Loc (Bk X scope s H C cl fp).env.scope n := by intros; exact .inl rfl) (hf : ∀ s H C cl fp, (Bk X scope s H C cl fp).fn n = true ∨ (Bk X scope s H C cl fp).env.scope.names.lookup n = some .local := by intros; exact .inr rfl)
    (hs : ∀ x, foldedSetIterable iter X.env x = pure x := by intro _; rfl) : ZE X Ex (.ListComp elt [⟨.Name n p1, iter, [], 0⟩] scope pos) Γ S Q :=
  ze_lc (own := [(n, j)]) (blk_of ok) (ct_name nd (by simp) hn hx hf) (fun F σ H co R' k => h F σ H co R' fun J H1 S1 items t hc wk ⟨e1, e2⟩ => by
    subst e1 e2
    exact k J H1 _ _ t hc wk (ask_all (fun i x q => ⟨_, rfl, he i x q⟩) hl q)) hs
/-! ### chains of and, or as values -/
theorem zv_and {t u : Bool} (h : ZV X a Γ S (.bl t)) (h2 : t = true → ZV X b Γ S (.bl u)) : ZV X (.BoolOp .And [a, b] pos) Γ S (.bl (t && u)) := fun Ex Q q => ze_and (h.ze ⟨t, rfl, by
  cases t with
  | true => exact ze_one ((h2 rfl).ze q)
  | false => exact q⟩)
theorem zv_or {t u : Bool} (h : ZV X a Γ S (.bl t)) (h2 : t = false → ZV X b Γ S (.bl u)) : ZV X (.BoolOp .Or [a, b] pos) Γ S (.bl (t || u)) := fun Ex Q q => ze_or (h.ze ⟨t, rfl, by
  cases t with
  | false => exact ze_one ((h2 rfl).ze q)
  | true => exact q⟩)
theorem zv_not {t : Bool} (h : ZV X a Γ S (.bl t)) : ZV X (.UnaryOp .Not a pos) Γ S (.bl (!t)) := fun Ex Q q => ze_not (h.ze ⟨t, rfl, q⟩)
/-- i <= j <= k -/
theorem zv_chainLe {i j k : Int} (ha : ZV X a Γ S (.int i)) (hb : ZV X b Γ S (.int j)) (hc : ZV X c Γ S (.int k)) (h2 : lastMarks [.LtE, .LtE] [b, c] = false := by rfl) : ZV X (.Compare a [.LtE, .LtE] [b, c] pos) Γ S (.bl (decide (i ≤ j) && decide (j ≤ k))) := fun Ex Q q =>
  ze_chain op_le op_le (ha.ze (hb.ze ⟨decide (i ≤ j), g_I0 fun _ => .bl, by
    by_cases h : i ≤ j
    · rw [decide_eq_true h] at q ⊢
      rw [if_pos rfl]
      exact hc.ze ⟨.bl (decide (j ≤ k)), g_I0 fun _ => .bl, q⟩
    · rw [decide_eq_false h] at q ⊢
      rw [if_neg (by decide)]
      exact q⟩)) h2
end
end Fz
end

section
namespace Fz
open PySem PySem.Spec PyProof.Rows L2 PySem.W
theorem cut_to {α : Type} {xs : List α} {i : Int} (h : 0 ≤ i) : cut xs none (some i) = xs.take i.toNat := by
  unfold cut HT.sIx
  simp only [List.drop_zero, Nat.sub_zero]
  rw [if_neg (by omega)]
  by_cases c : i.toNat ≤ xs.length
  · rw [Nat.min_eq_left c]
  · rw [Nat.min_eq_right (by omega), List.take_of_length_le (Nat.le_refl _), List.take_of_length_le (by omega)]
theorem cut_from {α : Type} {xs : List α} {i : Int} (h : 0 ≤ i) : cut xs (some i) none = xs.drop i.toNat := by
  unfold cut
  have e : HT.sIx xs.length 0 (some i) = min i.toNat xs.length := if_neg (by omega)
  rw [e, show HT.sIx xs.length xs.length none = xs.length from rfl]
  by_cases c : i.toNat ≤ xs.length
  · rw [Nat.min_eq_left c, List.take_of_length_le (by rw [List.length_drop]; exact Nat.le_refl _)]
  · rw [Nat.min_eq_right (by omega), Nat.sub_self, List.take_zero, List.drop_of_length_le (by omega)]
theorem join_nil : ∀ ys : List (List Nat), joinL [] ys = ys.flatten
  | [] => rfl
  | [y] => by simp [TL.joinL]
  | y :: z :: r => by
    have := join_nil (z :: r)
    simp only [joinL, TL.joinL] at *
    rw [this]; simp
theorem flat_one : ∀ x : List Nat, (x.map fun c => [c]).flatten = x
  | [] => rfl
  | c :: x => by rw [List.map_cons, List.flatten_cons, flat_one x]; rfl
theorem sum_flat (x : List (List Nat)) : (x.map List.length).sum = x.flatten.length := (List.length_flatten ..).symm
section
variable {X : Cx} {Ex : AX} {Γ : Gam} {S : Store} {Q : DQ} {E : AEnds} {a b c e o : Expr} {es : List Expr} {rest : List Stmt} {pos p apos : Pos} {d x y z : D} {n : Str} {k j m : Nat} {asp : ASk} {ds : List D} {f C : Str} {Q2 : Bool → Store → Prop}
/-- a def that tells one value and changes nothing -/
abbrev Tells (asp : ASk) (ds : List D) (S : Store) (d : D) : Prop := ∀ (Q : DQ) (Ex : AX), Q d S → asp ds [] S Q Ex
theorem zv_call (ac : AC X.prog X.w X.K X.mg X.base k n m [] asp) (hr : Room j X.A) (hk : k ≤ j) (h : ZL X (e :: es) Γ S ds) (ht : Tells asp ds S d) (hm : ds.length = m := by rfl) (hg : Gl X n := by rfl) (hdb : dbgOk n := by decide)
    (hst : starEach (e :: es) X.env = (false, eval e X.env) :: starEach es X.env := by rfl) (hpl : (backTo pos (starEach es X.env)).any (·.1) = false := by rfl) : ZV X (.Call (.Name n p) (e :: es) [] pos) Γ S d := fun Ex Q q =>
  ze_call ac hr hk (h.za ⟨hm, ht Q Ex q⟩) hg hdb hst hpl
theorem zv_meth0 (am : AM X.prog X.w X.K X.mg X.base k C f 0 [] asp) (hr : Room j X.A) (hk : k ≤ j) {a : Addr} {fs : List (Str × D)} (h : ZV X o Γ S (.obj a C fs)) (hf : fs.lookup f = none) (ht : Tells asp [.obj a C fs] S d) {pl : Sem Bool}
    (hh : eval (.Call (.Attribute o f apos) [] [] pos) X.env = (do
      let r ← eval o X.env
      standAt apos.atName
      let (g, self) ← holding [r] (getMethod r f pl)
      callWith pos g self (backTo pos (starEach [] X.env)) (backToKw pos (keywordEach [] X.env))) := by rfl) : ZV X (.Call (.Attribute o f apos) [] [] pos) Γ S d := fun Ex Q q =>
  ze_meth0 am hr hk (h.ze ⟨rfl, hf, ht Q Ex q⟩) hh
theorem zv_lenO (am : AM X.prog X.w X.K X.mg X.base k C "__len__" 0 [] asp) (hr : Room j X.A) (hk : k + 1 ≤ j) (bn : Bn X.mg) {a : Addr} {fs : List (Str × D)} {i : Nat} (h : ZV X e Γ S (.obj a C fs)) (hi : i < 2 ^ 60) (ht : Tells asp [.obj a C fs] S (.int i)) (hg : Gl X "len" := by rfl) (hs : s1 X e := by rfl) : ZV X (.Call (.Name "len" p) [e] [] pos) Γ S (.int i) := fun Ex Q q =>
  ze_lenO am hr hk bn (h.ze ⟨rfl, ht _ Ex ⟨i, rfl, hi, q⟩⟩) hg hs
theorem zv_strO (am : AM X.prog X.w X.K X.mg X.base k C "__str__" 0 [] asp) (hr : Room j X.A) (hk : k + 2 ≤ j) (bn : Bn X.mg) {a : Addr} {fs : List (Str × D)} {z : List Nat} (h : ZV X e Γ S (.obj a C fs)) (ht : Tells asp [.obj a C fs] S (.str z)) (hg : Gl X "str" := by rfl) (hs : s1 X e := by rfl) : ZV X (.Call (.Name "str" p) [e] [] pos) Γ S (.str z) := fun Ex Q q =>
  ze_strO am hr hk bn (h.ze ⟨rfl, ht _ Ex ⟨z, rfl, q⟩⟩) hg hs
theorem zv_eqO (am : AM X.prog X.w X.K X.mg X.base k C "__eq__" 1 [] asp) (hr : Room j X.A) (hk : k ≤ j) {a' : Addr} {fs : List (Str × D)} {t : Value} {r : Bool} (h : ZV X a Γ S (.obj a' C fs)) (h2 : ZV X b Γ S y) (ty : TyD X.K S y t) (nf : notFirst X.K (He.ga X.K C) t = true) (ht : Tells asp [.obj a' C fs, y] S (.bl r)) (hm : behindInMarks .Eq b = false := by rfl) : ZV X (.Compare a [.Eq] [b] pos) Γ S (.bl r) := fun Ex Q q =>
  ze_eqO am hr hk (h.ze ⟨rfl, h2.ze ⟨rfl, t, ty, nf, ht _ Ex ⟨r, rfl, q⟩⟩⟩) hm
theorem zb_eqO (am : AM X.prog X.w X.K X.mg X.base k C "__eq__" 1 [] asp) (hr : Room j X.A) (hk : k ≤ j) {a' : Addr} {fs : List (Str × D)} {t : Value} {r : Bool} (h : ZV X a Γ S (.obj a' C fs)) (h2 : ZV X b Γ S y) (ty : TyD X.K S y t) (nf : notFirst X.K (He.ga X.K C) t = true) (ht : Tells asp [.obj a' C fs, y] S (.bl r)) (hm : behindInMarks .Eq b = false := by rfl) : ZB X (.Compare a [.Eq] [b] pos) Γ S r := fun Ex Q q =>
  zt_eqO am hr hk (h.ze ⟨rfl, h2.ze ⟨rfl, t, ty, nf, ht _ Ex ⟨r, rfl, r, rfl, q⟩⟩⟩) hm
theorem zb_neO (am : AM X.prog X.w X.K X.mg X.base k C "__eq__" 1 [] asp) (ne : NeC X.K C) (hr : Room j X.A) (hk : k + 1 ≤ j) {a' : Addr} {fs : List (Str × D)} {t : Value} {r : Bool} (h : ZV X a Γ S (.obj a' C fs)) (h2 : ZV X b Γ S y) (ty : TyD X.K S y t) (nf : notFirst X.K (He.ga X.K C) t = true) (ht : Tells asp [.obj a' C fs, y] S (.bl r)) (hm : behindInMarks .NotEq b = false := by rfl) : ZB X (.Compare a [.NotEq] [b] pos) Γ S (!r) := fun Ex Q q =>
  zt_neO am ne hr hk (h.ze ⟨rfl, h2.ze ⟨rfl, t, ty, nf, ht _ Ex ⟨r, rfl, !r, rfl, q⟩⟩⟩) hm
theorem zb_lenO (am : AM X.prog X.w X.K X.mg X.base k C "__len__" 0 [] asp) (nb : findIn X.K (.ref (He.ga X.K C)) "__bool__" = some none) (hr : Room j X.A) (hk : k + 1 ≤ j) {a' : Addr} {fs : List (Str × D)} {i : Nat} (h : ZV X e Γ S (.obj a' C fs)) (hi : i < 2 ^ 60) (ht : Tells asp [.obj a' C fs] S (.int i)) (he : ∀ whole, isTrue e X.env whole = (do let v ← whole; standAt e.pos; holding [v] (truthy v)) := by intro _; rfl) : ZB X e Γ S (decide (i ≠ 0)) := fun Ex Q q =>
  zt_lenO am nb hr hk (h.ze ⟨rfl, ht _ Ex ⟨i, rfl, hi, q⟩⟩) he
/-- if a: r: nothing is done when the test fails -/
theorem zif0 {t : List Stmt} {tt : Bool} (h : ZB X c Γ S tt) (k : ZS X Ex rest Γ S E) (e : tt = false := by rfl) : ZS X Ex (.If c t [] pos :: rest) Γ S E := by
  subst e
  exact zif h (by rw [if_neg Bool.false_ne_true]; exact zs_nil k)
theorem zb_or3 {t u v : Bool} (h : ZB X a Γ S t) (h2 : t = false → ZB X b Γ S u) (h3 : t = false → u = false → ZB X c Γ S v) : ZB X (.BoolOp .Or [a, b, c] pos) Γ S (t || (u || v)) := fun Ex Q q => (zw_or (h.zt (by
  cases t with
  | true => exact q
  | false => exact zw_or ((h2 rfl).zt (by
      cases u with
      | true => exact q
      | false => exact zw_or1 ((h3 rfl rfl).zt q)))))).zt
theorem zb_or4 {a4 : Expr} {t u v w : Bool} (h : ZB X a Γ S t) (h2 : t = false → ZB X b Γ S u) (h3 : t = false → u = false → ZB X c Γ S v) (h4 : t = false → u = false → v = false → ZB X a4 Γ S w) : ZB X (.BoolOp .Or [a, b, c, a4] pos) Γ S (t || (u || (v || w))) := fun Ex Q q => (zw_or (h.zt (by
  cases t with
  | true => exact q
  | false => exact zw_or ((h2 rfl).zt (by
      cases u with
      | true => exact q
      | false => exact zw_or ((h3 rfl rfl).zt (by
          cases v with
          | true => exact q
          | false => exact zw_or1 ((h4 rfl rfl rfl).zt q)))))))).zt
theorem zb_and3 {t u v : Bool} (h : ZB X a Γ S t) (h2 : t = true → ZB X b Γ S u) (h3 : t = true → u = true → ZB X c Γ S v) : ZB X (.BoolOp .And [a, b, c] pos) Γ S (t && (u && v)) := fun Ex Q q => (zw_and (h.zt (by
  cases t with
  | false => exact q
  | true => exact zw_and ((h2 rfl).zt (by
      cases u with
      | false => exact q
      | true => exact zw_and1 ((h3 rfl rfl).zt q)))))).zt
/-- all(..) of truths -/
theorem ze_allB (ok : X.calm = true) (bn : Bn X.mg) (h : ZE X Ex e Γ S fun d S1 => ∃ ts : List Bool, d = .lst (ts.map .bl) ∧ Q (.bl (ts.all id)) S1) (hg : Gl X "all" := by rfl) (hs : s1 X e := by rfl) : ZE X Ex (.Call (.Name "all" p) [e] [] pos) Γ S Q :=
  ze_callBG (cr_all ok) bn.all boot_all' (za_cons (h.mono fun d S1 ⟨ts, e, q⟩ => za_nil ⟨_, e ▸ g_all (as := ts) (g := id), q⟩) hs) hg (he := hs) (hpl := rfl)
theorem zw_orF (h : ZT X Ex a Γ S fun t S1 => t = false ∧ ZW X Ex (.BoolOp .Or (b :: es) pos) Γ S1 Q2) : ZW X Ex (.BoolOp .Or (a :: b :: es) pos) Γ S Q2 := zw_or (fun F σ H co Q' k => h F σ H co Q' fun t H' S' u hc ⟨e, q⟩ => k t H' S' u hc (by subst e; exact q))
theorem zw_andT (h : ZT X Ex a Γ S fun t S1 => t = true ∧ ZW X Ex (.BoolOp .And (b :: es) pos) Γ S1 Q2) : ZW X Ex (.BoolOp .And (a :: b :: es) pos) Γ S Q2 := zw_and (fun F σ H co Q' k => h F σ H co Q' fun t H' S' u hc ⟨e, q⟩ => k t H' S' u hc (by subst e; exact q))
/-- a test that fails, whatever it does -/
theorem zifF {t : List Stmt} (h : ZT X Ex c Γ S fun t S1 => t = false ∧ ZS X Ex rest Γ S1 E) : ZS X Ex (.If c t [] pos :: rest) Γ S E := zs_cons (z1_if (fun F σ H co Q' k => h F σ H co Q' fun t H' S' u hc ⟨e, q⟩ => k t H' S' u hc (by
  subst e
  exact zs_nil q)))
/-- for, over a state, whatever is walked -/
theorem zforE {α : Type} {tg iter : Expr} {body : List Stmt} (γ : α → Gam) (st : α → Store) (h : ZI X Ex tg iter Γ S fun ds S1 => ∃ (P : Nat → α → Prop) (a0 : α), Wk Γ (γ a0) ∧ S1 = st a0 ∧ P 0 a0 ∧
      (∀ (i : Nat) d a, ds[i]? = some d → P i a → ZG X Ex tg d (γ a) (st a) fun Γ2 S2 => ZS X Ex body Γ2 S2 { E with nx := fun Γ3 S3 => ∃ a', Wk Γ3 (γ a') ∧ S3 = st a' ∧ P (i + 1) a', ct := fun Γ3 S3 => ∃ a', Wk Γ3 (γ a') ∧ S3 = st a' ∧ P (i + 1) a', bk := fun Γ' S' => ZS X Ex rest Γ' S' E }) ∧
      ∀ a, P ds.length a → ZS X Ex rest (γ a) (st a) E) (hs : ∀ x, foldedSetIterable iter X.env x = pure x := by intro _; rfl) : ZS X Ex (.For tg iter body [] pos :: rest) Γ S E :=
  zs_cons (z1_for (fun F σ H c R' k => h F σ H c R' fun J H1 S1 items t hc wk ⟨P, a0, w0, s0, p0, turn, done⟩ => k J H1 S1 items t hc wk ⟨fun i Γ' S' => ∃ a, Wk Γ' (γ a) ∧ S' = st a ∧ P i a, ⟨a0, w0, s0, p0⟩, fun i d Γ' S' hi ⟨a, w, e, p⟩ => by
    subst e
    exact (turn i d a hi p).weak w.weak, fun Γ' S' ⟨a, w, e, p⟩ => by
    subst e
    exact (done a p).weak w.weak⟩) hs)
/-- ''.join(texts) -/
theorem zv_cat {cpos : Pos} {u : Nat} {ss : List (List Nat)} (he : ZV X e Γ S y) (hd : y = .lst (ss.map .str) ∨ y = .tup (ss.map .str)) (hz : ss.flatten.length ≤ 16777000)
    (hs : starEach [e] X.env = [(false, eval e X.env)] := by rfl) (hbase : attributeBase (.Constant (.str (PySem.Str.ofString "")) u cpos) "join" X.env (eval (.Constant (.str (PySem.Str.ofString "")) u cpos) X.env) = eval (.Constant (.str (PySem.Str.ofString "")) u cpos) X.env := by rfl) (hline : (apos.endLine == pos.line) = true := by rfl) : ZV X (.Call (.Attribute (.Constant (.str (PySem.Str.ofString "")) u cpos) "join" apos) [e] [] pos) Γ S (.str ss.flatten) := by
  have := zv_join (ss := ss) (zv_str (X := X) (Γ := Γ) (S := S) (s := "") (j := u) (pos := cpos)) he ⟨hd, by rw [sum_flat, show codes "" = [] from rfl]; simpa using hz⟩ hs hbase hline
  rw [show codes "" = [] from rfl, join_nil] at this
  exact this
/-- .. of signs -/
theorem zv_catC {cpos : Pos} {u : Nat} {cs : List Nat} (he : ZV X e Γ S (.lst (cs.map fun c => .str [c]))) (hz : cs.length ≤ 16777000)
    (hs : starEach [e] X.env = [(false, eval e X.env)] := by rfl) (hbase : attributeBase (.Constant (.str (PySem.Str.ofString "")) u cpos) "join" X.env (eval (.Constant (.str (PySem.Str.ofString "")) u cpos) X.env) = eval (.Constant (.str (PySem.Str.ofString "")) u cpos) X.env := by rfl) (hline : (apos.endLine == pos.line) = true := by rfl) : ZV X (.Call (.Attribute (.Constant (.str (PySem.Str.ofString "")) u cpos) "join" apos) [e] [] pos) Γ S (.str cs) := by
  have := zv_cat (ss := cs.map fun c => [c]) (u := u) (cpos := cpos) he (.inl (by rw [List.map_map]; rfl)) (by rw [flat_one]; exact hz) hs hbase hline
  rw [flat_one] at this
  exact this
end
end Fz
end

section
namespace Fz
open PySem PySem.Spec PyProof.Rows L2 PySem.W
def spDraw : ASp := fun ds S Q Ex => ∃ (p : Addr) (i : Nat) (w : Int), ds = [.ref p, .int w] ∧ S[i]? = some (p, Cell.bag) ∧ 1 ≤ w ∧ w < 1000000 ∧ ∀ r : Int, 0 ≤ r → r < w → Q (.int r) S
def spBag : ASp := fun ds S Q Ex => ∃ (ns : List Int) (k : Nat), ds = [.scr ns, .int k] ∧ k < 100 ∧ ns.length < 100 ∧ ∀ p, Q (.ref p) (S ++ [(p, Cell.bag)])
/-! ### what the program's defs tell -/
theorem range_at {n i k : Nat} (h : (List.range n)[i]? = some k) : k < n := by
  obtain ⟨a, b⟩ := List.getElem?_eq_some_iff.mp h
  rw [List.getElem_range] at b
  rw [List.length_range] at a
  omega
theorem range_ix {n i k : Nat} (h : (List.range n)[i]? = some k) : k = i ∧ k < n := by
  obtain ⟨a, b⟩ := List.getElem?_eq_some_iff.mp h
  rw [List.getElem_range] at b
  rw [List.length_range] at a
  omega
theorem ix_str {x : List Nat} {i : Int} {k : Nat} (e : i = (k : Int)) (h : k < x.length) : ixD (.str x) i = some (.str [x.getD k 0]) := by
  show (atI x i).map (fun c => D.str [c]) = _
  rw [atI_lit e (List.getElem?_eq_getElem h), List.getD_eq_getElem?_getD, List.getElem?_eq_getElem h]
  rfl
theorem ix_scr {x : List Int} {i : Int} {k : Nat} (e : i = (k : Int)) (h : k < x.length) : ixD (.scr x) i = some (.int (x.getD k 0)) := by
  show (atI x i).map D.int = _
  rw [atI_lit e (List.getElem?_eq_getElem h), List.getD_eq_getElem?_getD, List.getElem?_eq_getElem h]
  rfl
def LET : List Nat := codes "abcdef"
def upB (x : List Nat) : Bool := (List.range (x.length - 1)).all fun k => decide ([x.getD k 0] < [x.getD (k + 1) 0])
def fusesB (x : List Nat) : Bool := (x.all fun c => decide (c ∈ LET)) && upB x
def spFuses : ASp := fun ds S Q Ex => ∃ x : List Nat, ds = [.str x] ∧ x.length < 100000 ∧ Q (.bl (fusesB x)) S
theorem spl_count (b : List Nat) : ∀ (a : List Nat) (k : Nat) (acc : List Nat), (TL.spl b k acc a).length ≤ a.length + 1
  | [], k, acc => by rw [TL.spl_nil]; simp
  | c :: r, 0, acc => by
    cases e : TL.pre b (c :: r) with
    | true =>
      rw [TL.spl_hit e]
      have := spl_count b r (b.length - 1) []
      simp only [List.length_cons] at *
      omega
    | false =>
      rw [TL.spl_miss e]
      have := spl_count b r 0 (acc ++ [c])
      simp only [List.length_cons] at *
      omega
  | c :: r, k + 1, acc => by
    have e : TL.spl b (k + 1) acc (c :: r) = TL.spl b k acc r := by rw [TL.spl_pass b (k + 1), TL.spl_pass b k]; rfl
    rw [e]
    have := spl_count b r k acc
    simp only [List.length_cons] at *
    omega
theorem split_count (c : Nat) (a : List Nat) : (splitL c a).length ≤ a.length + 1 := spl_count [c] a 0 []
theorem split_len {c : Nat} {a p : List Nat} (h : p ∈ splitL c a) : p.length ≤ a.length := by
  have := len_spl [c] a 0 [] p h
  simpa using this
def itemB (x : List Nat) : Bool := fusesB x && (decide ((1 : Int) ≤ (x.length : Int)) && decide ((x.length : Int) ≤ 2))
def itemsIn (z : List Nat) : Option (List (List Nat)) := if ((decide ((12 : Int) < ((splitL 32 z).length : Int))) || !((splitL 32 z).all itemB)) = true then none else some (splitL 32 z)
def itemsD : Option (List (List Nat)) → D
  | none => .non
  | some its => .tup (its.map .str)
def spItems : ASp := fun ds S Q Ex => ∃ z : List Nat, ds = [.str z] ∧ z.length < 100000 ∧ Q (itemsD (itemsIn z)) S
/-! ### a rule -/
def ruleF (z : List Nat) (its : List (List Nat)) : List (Str × D) := [("text", .str z), ("parts", .tup (its.map .str))]
def spInit : ASp := fun ds S Q Ex => ∃ (p : Addr) (S0 : Store) (z : List Nat) (its : List (List Nat)), ds = [.ref p, .str z] ∧ S = S0 ++ [(p, .ins "Rule" [])] ∧ z.length < 100000 ∧ itemsIn z = some its ∧ Q .non (S0 ++ [(p, .ins "Rule" (ruleF z its))])
def spRule : ASp := fun ds S Q Ex => ∃ (z : List Nat) (its : List (List Nat)), ds = [.str z] ∧ z.length < 100000 ∧ itemsIn z = some its ∧ ∀ p, Q (.obj p "Rule" (ruleF z its)) S
def fusesOf (its : List (List Nat)) : List Nat := uniq ltN its.flatten
/-- an asked rule -/
def spRuleM (f : List Nat → List (List Nat) → D) : ASp := fun ds S Q Ex => ∃ (a : Addr) (z : List Nat) (its : List (List Nat)), ds = [.obj a "Rule" (ruleF z its)] ∧ its.flatten.length < 3000 ∧ its.length < 100000 ∧ Q (f z its) S
def spRuleEq : ASp := fun ds S Q Ex => ∃ (a : Addr) (z : List Nat) (its : List (List Nat)), (∃ b z2 its2, ds = [.obj a "Rule" (ruleF z its), .obj b "Rule" (ruleF z2 its2)] ∧ Q (.bl (decide (z = z2))) S) ∨ ∃ x, ds = [.obj a "Rule" (ruleF z its), .str x] ∧ Q (.bl false) S
/-! ### drawing items -/
def spOne : ASp := fun ds S Q Ex => ∃ (p : Addr) (i : Nat) (x : D) (n : Nat), ds = [.ref p, x] ∧ S[i]? = some (p, Cell.bag) ∧ lenD x = some n ∧ 1 ≤ n ∧ n < 100000 ∧ ∀ k : Nat, k < n → ∃ d, ixD x (k : Int) = some d ∧ Q d S
/-- an item of a rule, of the first w letters -/
def goodI (w : Nat) (x : List Nat) : Prop := (∃ c ∈ LET.take w, x = [c]) ∨ ∃ c ∈ LET.take w, ∃ d ∈ LET.take w, c < d ∧ x = [c, d]
def spLItems : ASp := fun ds S Q Ex => ∃ (p : Addr) (i m w : Nat), ds = [.ref p, .int m, .int w] ∧ S[i]? = some (p, Cell.bag) ∧ 1 ≤ m ∧ m ≤ 100 ∧ 1 ≤ w ∧ w ≤ 6 ∧ ∀ its : List (List Nat), its ≠ [] → its.length ≤ m → (∀ x ∈ its, goodI w x) → Q (.lst (its.map .str)) S
def spLFuses : ASp := fun ds S Q Ex => ∃ its : List (List Nat), (ds = [.lst (its.map .str)] ∨ ds = [.tup (its.map .str)]) ∧ its.flatten.length < 3000 ∧ Q (.str (fusesOf its)) S
theorem app_last {S : Store} {p : Addr} {c : Cell} : (S ++ [(p, c)])[S.length]? = some (p, c) := by simp
theorem app_set {S : Store} {p q : Addr} {c c' : Cell} : (S ++ [(p, c)]).set S.length (q, c') = S ++ [(q, c')] := by simp
theorem app_cut {S : Store} {p : Addr} {c : Cell} : (S ++ [(p, c)]).eraseIdx S.length = S := by
  rw [List.eraseIdx_eq_take_drop_succ]; simp
theorem app_at {S : Store} {i : Nat} {x y : Addr × Cell} (h : S[i]? = some x) : (S ++ [y])[i]? = some x := by
  rw [List.getElem?_append_left (List.getElem?_eq_some_iff.mp h).1]; exact h
theorem ssort2 (a b : Nat) : ssort [[a], [b]] = if a ≤ b then [[a], [b]] else [[b], [a]] := by
  unfold ssort
  by_cases h : a ≤ b
  · have h2 : decide ([a] ≤ [b]) = true := by simp [List.cons_le_cons_iff]; omega
    simp [List.mergeSort, List.MergeSort.Internal.splitInTwo, List.merge, h, h2]
  · have h2 : decide ([a] ≤ [b]) = false := by simp [List.cons_le_cons_iff]; omega
    simp [List.mergeSort, List.MergeSort.Internal.splitInTwo, List.merge, h, h2]

section
variable {X : Cx} {Ex : AX} {Γ : Gam} {S : Store} {Q : DQ} {e1 e2 : Expr} {pos pp : Pos} {i k j : Nat} {p : Addr}
/-- a draw -/
theorem ze_draw {w : Int} (aD : AC X.prog X.w X.K X.mg X.base k "_law_draw" 2 [] (fun ds _ => spDraw ds)) (hr : Room j X.A) (hk : k ≤ j) (hi : S[i]? = some (p, Cell.bag)) (w1 : 1 ≤ w) (w2 : w < 1000000) (hl : ZL X [e1, e2] Γ S [.ref p, .int w]) (q : ∀ r : Int, 0 ≤ r → r < w → Q (.int r) S) (hg : Gl X "_law_draw" := by rfl)
    (hst : starEach [e1, e2] X.env = (false, eval e1 X.env) :: starEach [e2] X.env := by rfl) (hpl : (backTo pos (starEach [e2] X.env)).any (·.1) = false := by rfl) : ZE X Ex (.Call (.Name "_law_draw" pp) [e1, e2] [] pos) Γ S Q :=
  ze_call aD hr hk (hl.za ⟨rfl, p, i, w, rfl, hi, w1, w2, q⟩) hg (by decide) hst hpl
/-- a letter of a text -/
theorem ze_oneT {z : List Nat} (aO : AC X.prog X.w X.K X.mg X.base k "_law_one" 2 [] (fun ds _ => spOne ds)) (hr : Room j X.A) (hk : k ≤ j) (hi : S[i]? = some (p, Cell.bag)) (w1 : 1 ≤ z.length) (w2 : z.length < 100000) (hl : ZL X [e1, e2] Γ S [.ref p, .str z]) (q : ∀ c ∈ z, Q (.str [c]) S) (hg : Gl X "_law_one" := by rfl)
    (hst : starEach [e1, e2] X.env = (false, eval e1 X.env) :: starEach [e2] X.env := by rfl) (hpl : (backTo pos (starEach [e2] X.env)).any (·.1) = false := by rfl) : ZE X Ex (.Call (.Name "_law_one" pp) [e1, e2] [] pos) Γ S Q :=
  ze_call aO hr hk (hl.za ⟨rfl, p, i, .str z, z.length, rfl, hi, rfl, w1, w2, fun k hk => ⟨.str [z.getD k 0], ix_str rfl hk, q _ (by
    rw [List.getD_eq_getElem?_getD, List.getElem?_eq_getElem hk]
    exact List.getElem_mem ..)⟩⟩) hg (by decide) hst hpl
/-- an item of a list or a tuple -/
theorem ze_oneL {x : D} {ds : List D} (hx : x = .lst ds ∨ x = .tup ds) (aO : AC X.prog X.w X.K X.mg X.base k "_law_one" 2 [] (fun ds _ => spOne ds)) (hr : Room j X.A) (hk : k ≤ j) (hi : S[i]? = some (p, Cell.bag)) (w1 : 1 ≤ ds.length) (w2 : ds.length < 100000) (hl : ZL X [e1, e2] Γ S [.ref p, x]) (q : ∀ c ∈ ds, Q c S) (hg : Gl X "_law_one" := by rfl)
    (hst : starEach [e1, e2] X.env = (false, eval e1 X.env) :: starEach [e2] X.env := by rfl) (hpl : (backTo pos (starEach [e2] X.env)).any (·.1) = false := by rfl) : ZE X Ex (.Call (.Name "_law_one" pp) [e1, e2] [] pos) Γ S Q :=
  ze_call aO hr hk (hl.za ⟨rfl, p, i, x, ds.length, rfl, hi, by rcases hx with e | e <;> rw [e] <;> rfl, w1, w2, fun k hk => ⟨ds[k], by rcases hx with e | e <;> rw [e] <;> exact atI_lit rfl (List.getElem?_eq_getElem hk), q _ (List.getElem_mem hk)⟩⟩) hg (by decide) hst hpl
end
end Fz
end

section
namespace Fz
open PySem PySem.Spec PyProof.Rows L2 PySem.W
/-! ### plain laws about drawn items -/
theorem let_eq : LET = [97, 98, 99, 100, 101, 102] := by decide +kernel
theorem let_mem {w c : Nat} (h : c ∈ LET.take w) : 97 ≤ c ∧ c ≤ 102 := by
  have := List.mem_of_mem_take h
  rw [let_eq] at this
  simp at this
  omega
theorem let_in {c : Nat} (h1 : 97 ≤ c) (h2 : c ≤ 102) : c ∈ LET := by
  rw [let_eq]; simp; omega
structure Good (x : List Nat) : Prop where
  ok : itemB x = true
  ns : 32 ∉ x
  le : x.length ≤ 2
  ge : 1 ≤ x.length
  lt : ∀ c ∈ x, 97 ≤ c ∧ c ≤ 102
theorem good_of {w : Nat} {x : List Nat} (h : goodI w x) : Good x := by
  rcases h with ⟨c, hc, rfl⟩ | ⟨c, hc, d, hd, l, rfl⟩
  · obtain ⟨c1, c2⟩ := let_mem hc
    have := let_in c1 c2
    refine ⟨?_, by simp; omega, by simp, by simp, fun e he => by rw [List.mem_singleton.mp he]; omega⟩
    unfold itemB fusesB upB
    simp [this]
  · obtain ⟨c1, c2⟩ := let_mem hc
    obtain ⟨d1, d2⟩ := let_mem hd
    have h1 := let_in c1 c2
    have h2 := let_in d1 d2
    refine ⟨?_, by simp; omega, by simp, by simp, fun e he => by simp at he; omega⟩
    unfold itemB fusesB upB
    simp [h1, h2, List.range_succ, List.cons_lt_cons_iff, l]
theorem items_join {its : List (List Nat)} (hne : its ≠ []) (hl : its.length ≤ 12) (h : ∀ x ∈ its, Good x) : itemsIn (joinL [32] its) = some its := by
  unfold itemsIn
  rw [split_join hne fun x hx => (h x hx).ns]
  have a : (its.all itemB) = true := List.all_eq_true.mpr fun x hx => (h x hx).ok
  rw [a, if_neg]
  simp; omega
theorem flat_le {its : List (List Nat)} (h : ∀ x ∈ its, Good x) : its.flatten.length ≤ 2 * its.length := by
  induction its with
  | nil => simp
  | cons x r ih =>
    have h1 := (h x List.mem_cons_self).le
    have h2 := ih fun y hy => h y (List.mem_cons_of_mem _ hy)
    rw [List.flatten_cons, List.length_append, List.length_cons]
    omega
theorem joined_le {its : List (List Nat)} (h : ∀ x ∈ its, Good x) : (joinL [32] its).length ≤ 3 * its.length := by
  have h1 := len_join [32] its
  have h2 := flat_le h
  rw [sum_flat, show ([32] : List Nat).length = 1 from rfl] at h1
  omega
theorem mem_join {sep : List Nat} {c : Nat} : ∀ {its : List (List Nat)}, c ∈ joinL sep its → c ∈ sep ∨ ∃ x ∈ its, c ∈ x
  | [], h => by simp [TL.joinL] at h
  | [y], h => by simp [TL.joinL] at h; exact .inr ⟨y, List.mem_singleton.mpr rfl, h⟩
  | y :: z :: r, h => by
    simp only [joinL, TL.joinL, List.mem_append] at h
    rcases h with h | h | h
    · exact .inr ⟨y, List.mem_cons_self, h⟩
    · exact .inl h
    · rcases mem_join (its := z :: r) h with h | ⟨x, hx, h⟩
      · exact .inl h
      · exact .inr ⟨x, List.mem_cons_of_mem _ hx, h⟩
theorem joined_lt {its : List (List Nat)} (h : ∀ x ∈ its, Good x) : ∀ c ∈ joinL [32] its, c < 1114112 := fun c hc => by
  rcases mem_join hc with e | ⟨x, hx, e⟩
  · simp at e; omega
  · have := (h x hx).lt c e; omega
theorem rok_txts {its : List (List Nat)} (hl : its.length ≤ 12) (h : ∀ x ∈ its, Good x) {n : Nat} : ∀ d ∈ its.map D.str, Rok d n 22 := fun d hd => by
  obtain ⟨x, hx, rfl⟩ := List.mem_map.mp hd
  exact rok_str (m := 2) (h x hx).le fun c hc => by have := (h x hx).lt c hc; omega
theorem ok_spoken {its : List (List Nat)} (hl : its.length ≤ 100) (h : ∀ x ∈ its, Good x) : joinOk [32] (.lst (its.map .str)) its := by
  have := flat_le h
  refine ⟨.inl rfl, ?_⟩
  rw [sum_flat, show ([32] : List Nat).length = 1 from rfl]
  omega
theorem small_log (n : Nat) (h : n < 2 ^ 64) : ((n : Nat) : Int).natAbs.log2 < 1920 := by
  rw [Int.natAbs_natCast]
  by_cases e : n = 0
  · rw [e]; decide
  · exact Nat.lt_of_lt_of_le ((Nat.log2_lt e).mpr h) (by decide)
def spRight : ASp := fun ds S Q Ex => ∃ (p : Addr) (i : Nat), ds = [.ref p] ∧ S[i]? = some (p, Cell.bag) ∧ Q (.bl true) S
/-- so many bags a law looks into -/
def rounds (ns : List Int) : Int := if (if (6 : Int) < (ns.length : Int) then (6 : Int) else (ns.length : Int)) > 2 then (if (6 : Int) < (ns.length : Int) then (6 : Int) else (ns.length : Int)) else 2
theorem rounds_le (ns : List Int) : 0 ≤ rounds ns ∧ rounds ns ≤ 6 := by unfold rounds; split <;> split <;> omega
theorem rounds_all (ns : List Int) (f : Nat → Bool) (h : ∀ n, f n = true) (n : Nat) : (List.range n).all f = true := List.all_eq_true.mpr fun k _ => h k
theorem all2_true {α : Type} : ∀ {as : List α} {ys : List D}, All2 (fun _ y => y = .bl true) as ys → ys = (as.map fun _ => true).map .bl
  | _, _, .nil => rfl
  | _, _, .cons h r => by rw [h, all2_true r]; rfl
end Fz
end

section
namespace K01
open PySem PySem.Spec PyProof.Rows L2 PySem.W Fz
def top (i : Nat) : Stmt := PySem.Challenge.pw_fuseposts_k01_rules_made.main.body.getD i (.Pass ⟨0, 0, 0, 0⟩)
abbrev FnP (K : PySem.W.Frag) (x : Str) (st : Stmt) (f : Addr) (fd : FuncData) : Prop := FunD K x x (defArgs st) (defBody st) (defScope st) [] [] f fd
end K01
namespace K01
open PySem PySem.Spec PyProof.Rows L2 PySem.W Fz
section
variable {P : Program} {w : World} {K : PySem.W.Frag} {mg : Str → Option Value} {base : Heap} {f : Addr} {fd : FuncData}
abbrev nDraw : List Str := ["_law_bag_here", "_law_wide", "_law_figure", "_law_held", "_law_times"]
theorem scDraw : FnScope nDraw ["_law_bag_here", "_law_wide"] (defScope (top 12)) := ⟨rfl, rfl, rfl, by decide +kernel, rfl, by decide +kernel, by decide +kernel⟩
theorem okDraw (bn : Bn mg) (F : FnP K "_law_draw" (top 12) f fd) : FnG P w K mg base 1 f fd ["_law_bag_here", "_law_wide"] (conc K spDraw) := by
  refine fn_g F scDraw (fun ds S Q E ⟨p, i, w, e, _⟩ => by rw [e]; rfl) fun cdv A outer s H E ds S aQ aE hr gd ⟨p, i, wd, e, hi, w1, w2, q⟩ => ?_
  subst e
  refine zs_open hi fun a b c ha hb => ?_
  have hl := (List.getElem?_eq_some_iff.mp hi).1
  have cell : ∀ {ds : List D}, (S.set i (p, Cell.lst ds))[i]? = some (p, .lst ds) := List.getElem?_set_self hl
  refine zput (zv_add (zv_ixC (zn 0) zv_int cell rfl) zv_int) (zn 0) zv_int cell rfl (List.set_set ..) ?_
  refine zif (zb_c (zc_gt (zv_ixC (zn 0) zv_int cell rfl) zv_int)) ?_
  have fin : ∀ {e : Expr} {Γ : Gam} {a b c r : Int}, 0 ≤ a → 0 ≤ b → 0 ≤ r → r < wd → ZV (cxOf (L2.CX P w) P w K mg base nDraw "_law_draw" (defScope (top 12)) f cdv A outer s H E) e Γ (S.set i (p, .lst [.int a, .int b, .int c])) (.int r) → ZE (cxOf (L2.CX P w) P w K mg base nDraw "_law_draw" (defScope (top 12)) f cdv A outer s H E) aE e Γ (S.set i (p, .lst [.int a, .int b, .int c])) aQ := fun {e Γ a b c r} h1 h2 h3 h4 h => ze_shut (k := i) (h.ze ⟨S, opens_of hi rfl h1 h2, q r h3 h4⟩)
  by_cases h0 : 0 < a
  · rw [if_pos (decide_eq_true h0)]
    refine zsetV 2 (zv_mod (zv_toInt bn (zv_ixC (zn 0) zv_int cell rfl)) (zn 1) (by omega)) ?_
    refine zput (zv_fdiv (zv_ixC (zn 0) zv_int cell rfl) (zn 1) ⟨by omega, by omega⟩) (zn 0) zv_int cell rfl (List.set_set ..) ?_
    exact zret (fin (Int.ediv_nonneg ha (by omega)) hb (Int.emod_nonneg _ (by omega)) (Int.emod_lt_of_pos _ (by omega)) (zn 2))
  · rw [if_neg (by simpa using h0)]
    refine zs_nil ?_
    refine zsetV 3 (zv_add (zv_toInt bn (zv_ixC (zn 0) zv_int cell rfl)) (zv_mul zv_int (zv_ixC (zn 0) zv_int cell rfl) (.inl ⟨by decide, by decide⟩))) ?_
    refine zsetV 4 (zv_add (zv_mod (zv_toInt bn (zn 3)) zv_int (by decide)) zv_int) ?_
    refine zput (zv_mod (zv_toInt bn (zv_add (zv_add (zv_mul (zn 3) (zn 4) (.inr ⟨by omega, by omega⟩)) (zv_mul zv_int (zv_ixC (zn 0) zv_int cell rfl) (.inl ⟨by decide, by decide⟩))) zv_int)) zv_int (by decide)) (zn 0) zv_int cell rfl (List.set_set ..) ?_
    exact zret (fin ha (Int.emod_nonneg _ (by decide)) (Int.emod_nonneg _ (by omega)) (Int.emod_lt_of_pos _ (by omega)) (zv_mod (zv_fdiv (zv_toInt bn (zv_ixC (zn 0) zv_int cell rfl)) zv_int ⟨by decide, by decide⟩) (zn 1) (by omega)))
end
end K01
end

section
namespace K01
open PySem PySem.Spec PyProof.Rows L2 PySem.W Fz
section
variable {P : Program} {w : World} {K : PySem.W.Frag} {mg : Str → Option Value} {base : Heap} {f : Addr} {fd : FuncData}
abbrev nBag : List Str := ["_law_script", "_law_k", "_law_held_cell", "_law_seed", "_law_this", "_law_figures"]
theorem scBag : FnScope nBag ["_law_script", "_law_k"] (defScope (top 11)) := ⟨rfl, rfl, rfl, by decide +kernel, rfl, by decide +kernel, by decide +kernel⟩
theorem okBag (bn : Bn mg) (F : FnP K "_law_bag" (top 11) f fd) : FnG P w K mg base 1 f fd ["_law_script", "_law_k"] (conc K spBag) := by
  refine fn_g F scBag (fun ds S Q E ⟨p, i, e, _⟩ => by rw [e]; rfl) fun cdv A outer s H E ds S aQ aE hr gd ⟨ns, k, e, hk, hn, q⟩ => ?_
  subst e
  refine zpar 2 3 ((zv_ifI (x := ns.getD k 0) (zb_c (zc_lt (zn 1) (zv_len bn (zn 0)))) (fun h => zv_toInt bn (zv_ix (zn 0) (zn 1) ?_)) fun _ => zv_int).ze ((zv_mul zv_int (zv_add (zn 1) zv_int) (.inl ⟨by decide, by decide⟩)).ze ?_))
  · have hk : k < ns.length := by simpa using h
    show (atI ns k).map D.int = _
    rw [atI_lit rfl (List.getElem?_eq_getElem hk), List.getD_eq_getElem?_getD, List.getElem?_eq_getElem hk]
    rfl
  generalize (if decide ((k : Int) < (ns.length : Int)) = true then ns.getD k 0 else 0) = z
  refine zfor (fun a : Int => [some (.scr ns), some (.int k), some (.int z), some (.int a), none, none]) (fun _ => S) (fun _ a => 0 ≤ a) (90001 * ((k : Int) + 5)) (ziv_seq (zv_sliceTo (zn 0) zv_int)) (by repeat constructor) rfl (by omega) (fun i d a hi ha => zgn 4 ?_) fun a ha => ?_
  · obtain ⟨x, hx, rfl⟩ := map_get hi
    refine zsetV 3 (zv_mod (zv_toInt bn (zv_add (zv_add (zv_mul (zn 3) zv_int (.inr ⟨by decide, by decide⟩)) (zv_mod (zv_toInt bn (zn 4)) zv_int (by decide))) (zv_mul zv_int (zn 1) (.inl ⟨by decide, by decide⟩)))) zv_int (by decide)) (zs_nil ⟨_, by repeat constructor, rfl, Int.emod_nonneg _ (by decide)⟩)
  refine zsetV 5 (zv_ifI (x := if z < 0 then -z else z) (y := 0) (zb_or (es := []) (zb_c (zc_lt (zn 2) zv_int)) fun _ => zb_c (zc_ge (zn 2) (zv_pow zv_int zv_int ⟨by decide, by decide, by decide⟩))) (fun _ => zv_abs bn (zn 2)) fun _ => zv_int) ?_
  refine zret (ze_bag (ZL.za (zl_cons (zn 5) (zl_cons (zv_mod (zv_toInt bn (zv_add (zn 3) (zv_mul zv_int (zv_mod (zv_toInt bn (zn 2)) zv_int (by decide)) (.inl ⟨by decide, by decide⟩)))) zv_int (by decide)) (zl_cons zv_int zl_nil))) ?_))
  refine ⟨_, _, _, rfl, ?_, Int.emod_nonneg _ (by decide), q⟩
  split
  · split <;> omega
  · omega
end
end K01
end

section
namespace K01
open PySem PySem.Spec PyProof.Rows L2 PySem.W Fz
section
variable {P : Program} {w : World} {K : PySem.W.Frag} {mg : Str → Option Value} {base : Heap} {f : Addr} {fd : FuncData}
abbrev nFuses : List Str := ["value", "letter", "k"]
theorem scFuses : FnScope nFuses ["value"] (defScope (top 6)) := ⟨rfl, rfl, rfl, by decide +kernel, rfl, by decide +kernel, by decide +kernel⟩
theorem okFuses (bn : Bn mg) (hL : ∃ t, mg "LETTERS" = some (.str "abcdef" t)) (F : FnP K "are_fuses" (top 6) f fd) : FnG P w K mg base 1 f fd ["value"] (conc K spFuses) := by
  refine fn_g F scFuses (fun ds S Q E ⟨x, e, _⟩ => by rw [e]; rfl) fun cdv A outer s H E ds S aQ aE hr gd ⟨x, e, hx, q⟩ => ?_
  subst e
  refine zif (tt := !(x.all fun c => decide (c ∈ LET))) (zb_or (es := []) (t := !true) (zb_not (zb_val (zv_isi bn (cln_b bn.str boot_str') (zn 0) .str (kit_ty (r := true) (by decide +kernel))))) fun _ => zb_not (zb_val (zv_all rfl bn (zmap 1 scFuses.nd (ziv_seq (zn 0)) (fun i x _ s H C cl fp => zv_c (zc_inS (zn 1) (zv_gstr (z := "abcdef") rfl hL (by decide +kernel)))) (by omega))))) ?_
  have q : aQ (.bl ((x.all fun c => decide (c ∈ LET)) && upB x)) S := q
  cases h : (x.all fun c => decide (c ∈ LET)) with
  | false =>
    rw [h] at q
    exact zretV zv_bl q
  | true =>
    rw [h] at q
    refine zs_nil ?_
    have hn : ((x.length : Int) - 1).toNat = x.length - 1 := by omega
    refine zretV (zv_all rfl bn (zmap (enc := fun (i : Nat) => D.int i) 2 scFuses.nd (ziv_range1 bn.range (zv_sub (zv_len bn (zn 0)) zv_int) ⟨by omega, by omega⟩) (fun i k hk s H C cl fp => zv_c (zc_ltS (i := [x.getD k 0]) (j := [x.getD (k + 1) 0]) (zv_ix (zn 0) (zn 2) (ix_str rfl (by have := range_at hk; omega))) (zv_ix (zn 0) (zv_add (zn 2) zv_int) (ix_str rfl (by have := range_at hk; omega))))) (by rw [List.length_range]; omega))) ?_
    rw [hn]
    exact q
end
end K01
end

section
namespace K01
open PySem PySem.Spec PyProof.Rows L2 PySem.W Fz
section
variable {P : Program} {w : World} {K : PySem.W.Frag} {mg : Str → Option Value} {base : Heap} {f : Addr} {fd : FuncData}
abbrev nItems : List Str := ["text", "items", "item"]
theorem scItems : FnScope nItems ["text"] (defScope (top 8)) := ⟨rfl, rfl, rfl, by decide +kernel, rfl, by decide +kernel, by decide +kernel⟩
theorem okItems (bn : Bn mg) (hM : ∃ t, mg "MOST_ITEMS" = some (.int 12 t)) (aF : AC P w K mg base 1 "are_fuses" 1 [] (fun ds _ => spFuses ds)) (F : FnP K "items_in" (top 8) f fd) : FnG P w K mg base 2 f fd ["text"] (conc K spItems) := by
  refine fn_g F scItems (fun ds S Q E ⟨x, e, _⟩ => by rw [e]; rfl) fun cdv A outer s H E ds S aQ aE hr gd ⟨z, e, hz, q⟩ => ?_
  subst e
  have hcount := split_count 32 z
  refine zif0 (zb_not (zb_val (zv_isi bn (cln_b bn.str boot_str') (zn 0) .str (kit_ty (r := true) (by decide +kernel))))) ?_
  refine zsetV 1 (zv_split (c := 32) (zn 0) zv_str (by decide) (by omega)) ?_
  refine zif (zb_or (es := []) (zb_c (zc_gt (zv_len bn (zn 1)) (zv_gint rfl hM))) fun _ => zb_not (zb_val (zv_all (g := itemB) rfl bn (zmap 2 scItems.nd (ziv_seq (zn 1)) (fun i x hx s H C cl fp => zv_and (zv_call aF hr (Nat.le_refl _) (zl1 (zn 2)) fun Q Ex q => ⟨x, rfl, ?_, q⟩) fun _ => zv_chainLe zv_int (zv_len bn (zn 2)) zv_int) (by omega))))) ?_
  · have := split_len (List.mem_of_getElem? hx)
    omega
  · have q : aQ (itemsD (if ((decide ((12 : Int) < ((splitL 32 z).length : Int))) || !((splitL 32 z).all itemB)) = true then none else some (splitL 32 z))) S := q
    rw [List.length_map]
    split at q
    · rename_i h
      rw [if_pos h]
      exact zretV zv_non q
    · rename_i h
      rw [if_neg h]
      exact zs_nil (zretV (zv_tuple bn (zn 1)) q)
end
end K01
end

section
namespace K01
open PySem PySem.Spec PyProof.Rows L2 PySem.W Fz
def mth (i j : Nat) : Stmt := (C8.clsBody (top i)).getD j (.Pass ⟨0, 0, 0, 0⟩)
abbrev FnM (K : PySem.W.Frag) (x q : Str) (st : Stmt) (f : Addr) (fd : FuncData) : Prop := FunD K x q (defArgs st) (defBody st) (defScope st) [] [] f fd
section
variable {P : Program} {w : World} {K : PySem.W.Frag} {mg : Str → Option Value} {base : Heap} {f : Addr} {fd : FuncData}
abbrev nInit : List Str := ["self", "text", "items"]
theorem scInit : FnScope nInit ["self", "text"] (defScope (mth 9 0)) := ⟨rfl, rfl, rfl, by decide +kernel, rfl, by decide +kernel, by decide +kernel⟩
theorem okInit (fT : Fld K "Rule" "text") (fP : Fld K "Rule" "parts") (aI : AC P w K mg base 2 "items_in" 1 [] (fun ds _ => spItems ds)) (F : FnM K "__init__" "Rule.__init__" (mth 9 0) f fd) : FnG P w K mg base 3 f fd ["self", "text"] (conc K spInit) := by
  refine fn_g F scInit (fun ds S Q E ⟨p, S0, z, its, e, _⟩ => by rw [e]; rfl) fun cdv A outer s H E ds S aQ aE hr gd ⟨p, S0, z, its, e, eS, hz, hi, q⟩ => ?_
  subst e eS
  refine zsetV 2 (zv_call aI hr (Nat.le_refl _) (zl1 (zn 1)) fun Q Ex q => ⟨z, rfl, hz, q⟩) ?_
  rw [hi]
  refine zif0 (zb_isN (zn 2)) ?_
  have c0 : ∀ {c : Cell}, (S0 ++ [(p, c)])[S0.length]? = some (p, c) := by intro c; simp
  have s0 : ∀ {c c' : Cell}, (S0 ++ [(p, c)]).set S0.length (p, c') = S0 ++ [(p, c')] := by intro c c'; simp
  refine zs_cons (z1_fld (k := S0.length) fT ((zn 1).ze ((zn 0).ze ⟨rfl, [], c0, by decide, ?_⟩)))
  rw [s0]
  refine zs_one (z1_fld (k := S0.length) fP ((zn 2).ze ((zn 0).ze ⟨rfl, _, c0, ?_, ?_⟩)))
  · show 1 < 1000
    decide
  · rw [s0]
    exact q
abbrev nSelf : List Str := ["self"]
theorem scFus : FnScope nSelf ["self"] (defScope (mth 9 1)) := ⟨rfl, rfl, rfl, by decide +kernel, rfl, by decide +kernel, by decide +kernel⟩
theorem okFus (bn : Bn mg) (fP : Fld K "Rule" "parts") (F : FnM K "fuses" "Rule.fuses" (mth 9 1) f fd) : FnG P w K mg base 1 f fd ["self"] (conc K (spRuleM fun _ its => .str (fusesOf its))) := by
  refine fn_g F scFus (fun ds S Q E ⟨a, z, its, e, _⟩ => by rw [e]; rfl) fun cdv A outer s H E ds S aQ aE hr gd ⟨a, z, its, e, h1, h2, q⟩ => ?_
  subst e
  have hz : its.flatten.length < 4000 := by omega
  have hu := len_uniq (lt := ltN) its.flatten
  exact zretV (zv_catC (zv_sortSet hr bn (zv_cat (zv_fld fP (zn 0) (lk1 (by decide) lk0)) (.inr rfl) (by omega)) (.inl ⟨_, rfl, hz, rfl⟩)) (by omega)) q
theorem scLen : FnScope nSelf ["self"] (defScope (mth 9 2)) := ⟨rfl, rfl, rfl, by decide +kernel, rfl, by decide +kernel, by decide +kernel⟩
theorem okLen (bn : Bn mg) (fP : Fld K "Rule" "parts") (F : FnM K "__len__" "Rule.__len__" (mth 9 2) f fd) : FnG P w K mg base 1 f fd ["self"] (conc K (spRuleM fun _ its => .int its.length)) := by
  refine fn_g F scLen (fun ds S Q E ⟨a, z, its, e, _⟩ => by rw [e]; rfl) fun cdv A outer s H E ds S aQ aE hr gd ⟨a, z, its, e, h1, h2, q⟩ => ?_
  subst e
  refine zretV (zv_len bn (zv_fld fP (zn 0) (lk1 (by decide) lk0))) ?_
  rw [List.length_map]
  exact q
abbrev nEq : List Str := ["self", "other"]
theorem scEq : FnScope nEq ["self", "other"] (defScope (mth 9 3)) := ⟨rfl, rfl, rfl, by decide +kernel, rfl, by decide +kernel, by decide +kernel⟩
theorem okEq (bn : Bn mg) (hR : mg "Rule" = some (.ref (He.ga K "Rule"))) (fT : Fld K "Rule" "text") (ic : C8.InsC K (He.ga K "Rule")) (kS : kitOne K (.type "str") (.ref (He.ga K "Rule")) = some false) (F : FnM K "__eq__" "Rule.__eq__" (mth 9 3) f fd) : FnG P w K mg base 1 f fd ["self", "other"] (conc K spRuleEq) := by
  refine fn_g F scEq (fun ds S Q E ⟨a, z, its, h⟩ => by rcases h with ⟨_, _, _, e, _⟩ | ⟨_, e, _⟩ <;> rw [e] <;> rfl) fun cdv A outer s H E ds S aQ aE hr gd ⟨a, z, its, h⟩ => ?_
  rcases h with ⟨b, z2, its2, e, q⟩ | ⟨x, e, q⟩ <;> subst e
  · exact zretV (zv_and (zv_isi bn (.inr ⟨_, rfl, hR⟩) (zn 1) (.obj ic) ic.me) fun _ => zv_c (zc_eqS (zv_fld fT (zn 0) lk0) (zv_fld fT (zn 1) lk0))) (by rw [Bool.true_and]; exact q)
  · exact zretV (zv_and (u := true) (zv_isi bn (.inr ⟨_, rfl, hR⟩) (zn 1) .str kS) fun h => (nomatch h)) q
theorem scStr : FnScope nSelf ["self"] (defScope (mth 9 4)) := ⟨rfl, rfl, rfl, by decide +kernel, rfl, by decide +kernel, by decide +kernel⟩
theorem okStr (fT : Fld K "Rule" "text") (F : FnM K "__str__" "Rule.__str__" (mth 9 4) f fd) : FnG P w K mg base 1 f fd ["self"] (conc K (spRuleM fun z _ => .str z)) := by
  refine fn_g F scStr (fun ds S Q E ⟨a, z, its, e, _⟩ => by rw [e]; rfl) fun cdv A outer s H E ds S aQ aE hr gd ⟨a, z, its, e, h1, h2, q⟩ => ?_
  subst e
  exact zretV (zv_fs1 (zv_fmtS (zv_fld fT (zn 0) lk0))) q
end
end K01
end

section
namespace K01
open PySem PySem.Spec PyProof.Rows L2 PySem.W Fz
section
variable {P : Program} {w : World} {K : PySem.W.Frag} {mg : Str → Option Value} {base : Heap} {f : Addr} {fd : FuncData}
abbrev nOne : List Str := ["_law_bag_here", "_law_some"]
theorem scOne : FnScope nOne ["_law_bag_here", "_law_some"] (defScope (top 13)) := ⟨rfl, rfl, rfl, by decide +kernel, rfl, by decide +kernel, by decide +kernel⟩
theorem okOne (bn : Bn mg) (aD : AC P w K mg base 1 "_law_draw" 2 [] (fun ds _ => spDraw ds)) (F : FnP K "_law_one" (top 13) f fd) : FnG P w K mg base 2 f fd ["_law_bag_here", "_law_some"] (conc K spOne) := by
  refine fn_g F scOne (fun ds S Q E ⟨p, i, x, n, e, _⟩ => by rw [e]; rfl) fun cdv A outer s H E ds S aQ aE hr gd ⟨p, i, x, n, e, hi, hn, n1, n2, q⟩ => ?_
  subst e
  refine zret (ze_ix ((zn 1).ze (ze_call aD hr (Nat.le_refl _) ((zl_cons (zn 0) (zl1 (zv_len bn (zn 1) hn))).za ⟨rfl, p, i, n, rfl, hi, by omega, by omega, fun r h1 h2 => ?_⟩))))
  obtain ⟨d, e1, e2⟩ := q r.toNat (by omega)
  exact ⟨r, d, rfl, by rw [← e1]; congr 1; omega, e2⟩
theorem scLFus : FnScope ["_law_items_here"] ["_law_items_here"] (defScope (top 19)) := ⟨rfl, rfl, rfl, by decide +kernel, rfl, by decide +kernel, by decide +kernel⟩
theorem okLFus (bn : Bn mg) (F : FnP K "_law_fuses" (top 19) f fd) : FnG P w K mg base 1 f fd ["_law_items_here"] (conc K spLFuses) := by
  refine fn_g (N := ["_law_items_here"]) F scLFus (fun ds S Q E ⟨its, e, _⟩ => by rcases e with e | e <;> rw [e] <;> rfl) fun cdv A outer s H E ds S aQ aE hr gd ⟨its, e, hz, q⟩ => ?_
  have hu := len_uniq (lt := ltN) its.flatten
  rcases e with e | e <;> subst e
  · exact zretV (zv_catC (zv_sortSet hr bn (zv_cat (zn 0) (.inl rfl) (by omega)) (.inl ⟨_, rfl, by omega, rfl⟩)) (by omega)) q
  · exact zretV (zv_catC (zv_sortSet hr bn (zv_cat (zn 0) (.inr rfl) (by omega)) (.inl ⟨_, rfl, by omega, rfl⟩)) (by omega)) q
abbrev nLIt : List Str := ["_law_bag_here", "_law_most", "_law_wide", "_law_names", "_law_pairs", "_law_found", "_law_k", "_law_here", "_law_there"]
theorem scLIt : FnScope nLIt ["_law_bag_here", "_law_most", "_law_wide"] (defScope (top 14)) := ⟨rfl, rfl, rfl, by decide +kernel, rfl, by decide +kernel, by decide +kernel⟩
theorem okLIt (bn : Bn mg) (aD : AC P w K mg base 1 "_law_draw" 2 [] (fun ds _ => spDraw ds)) (aO : AC P w K mg base 2 "_law_one" 2 [] (fun ds _ => spOne ds)) (F : FnP K "_law_items" (top 14) f fd) : FnG P w K mg base 3 f fd ["_law_bag_here", "_law_most", "_law_wide"] (conc K spLItems) := by
  refine fn_g F scLIt (fun ds S Q E ⟨p, i, x, n, e, _⟩ => by rw [e]; rfl) fun cdv A outer s H E ds S aQ aE hr gd ⟨p, i, m, wd, e, hi, m1, m2, w1, w2, q⟩ => ?_
  subst e
  -- the names at hand
  refine zset 3 (ze_slice (ZV.ze zv_str (zo_none (ze_add (ZV.ze zv_int (ze_call aD hr (by decide) ((zl_cons (zn 0) (zl1 (zn 2))).za ⟨rfl, p, i, wd, rfl, hi, by omega, by omega, fun r h1 h2 => ⟨.int (1 + r), rfl, True.intro, 1 + r, rfl, _, rfl, ?_⟩⟩)))))))
  rw [show codes "abcdef" = LET from rfl, cut_to (by omega)]
  obtain ⟨v, hv⟩ : ∃ v : Nat, v = (1 + r).toNat := ⟨_, rfl⟩
  rw [← hv]
  have v1 : 1 ≤ v := by omega
  have v2 : v ≤ wd := by omega
  clear hv h2 h1
  have lv : (LET.take v).length = v := by
    rw [List.length_take]
    have : LET.length = 6 := by decide +kernel
    omega
  -- whether pairs are made; an empty list
  refine zpar 4 5 (ze_cmpG op_eq (nomark _) (ze_call aD hr (by decide) ((zl_cons (zn 0) (zl1 zv_int)).za ⟨rfl, p, i, 3, rfl, hi, by decide, by decide, fun r h1 h2 => ZV.ze zv_int ⟨_, g_eqI, ?_⟩⟩)))
  generalize decide (r = 0) = pb
  refine ze_cell (za_nil ⟨by decide, fun q0 => ?_⟩)
  have hb : ∀ {c : Cell}, (S ++ [(q0, c)])[i]? = some (p, Cell.bag) := fun {c} => app_at hi
  refine zforE (fun _ : List (List Nat) => [some (.ref p), some (.int m), some (.int wd), some (.str (LET.take v)), some (.bl pb), some (.ref q0), none, none, none]) (fun its => S ++ [(q0, .lst (its.map .str))]) ?_
  refine zi_range1 rfl bn.range (ze_add (ZV.ze zv_int (ze_call aD hr (by decide) ((zl_cons (zn 0) (zl1 (zn 1))).za ⟨rfl, p, i, m, rfl, hb, by omega, by omega, fun r h1 h2 => ⟨.int (1 + r), rfl, True.intro, 1 + r, rfl, by omega, by omega, ?_⟩⟩))))
  refine ⟨fun n its => its.length = n ∧ ∀ x ∈ its, goodI wd x, [], by repeat constructor, rfl, ⟨rfl, fun x hx => nomatch hx⟩, fun n d its hd hp => ?_, fun its hp => ?_⟩
  · obtain ⟨k, hk, rfl⟩ := map_get hd
    refine zgn 6 ?_
    have l6 : (LET.take v).length < 100000 := by omega
    refine zpar 7 8 (ze_oneT aO hr (by decide) hb (by omega) l6 (zl_cons (zn 0) (zl1 (zn 3))) fun c hc => ze_oneT aO hr (by decide) hb (by omega) l6 (zl_cons (zn 0) (zl1 (zn 3))) fun c2 hc2 => ?_)
    have go : ∀ x : List Nat, goodI wd x → ∃ a', Wk [some (.ref p), some (.int m), some (.int wd), some (.str (LET.take v)), some (.bl pb), some (.ref q0), some (.int k), some (.str [c]), some (.str [c2])] [some (.ref p), some (.int m), some (.int wd), some (.str (LET.take v)), some (.bl pb), some (.ref q0), none, none, none] ∧ (S ++ [(q0, Cell.lst (its.map .str))]).set S.length (q0, .lst (its.map .str ++ [.str x])) = S ++ [(q0, .lst (List.map D.str a'))] ∧ a'.length = n + 1 ∧ ∀ y ∈ a', goodI wd y := fun x gx =>
      ⟨its ++ [x], by repeat constructor, by rw [app_set, List.map_append]; rfl, by rw [List.length_append, hp.1]; rfl, fun y hy => (List.mem_append.mp hy).elim (hp.2 y) fun z => by rw [List.mem_singleton.mp z]; exact gx⟩
    have sub : ∀ a ∈ LET.take v, a ∈ LET.take wd := fun a ha => (List.take_subset_take_left LET v2) ha
    refine zs_one (z1_expr (ze_append (k := S.length) (zn 5) ?_ (hk0 := ⟨_, app_last⟩)))
    refine ZV.ze (zv_if (x := .str (ssort [[c], [c2]]).flatten) (y := .str [c]) (zb_and (es := []) (zb_c (zc_neS (zn 7) (zn 8))) fun _ => zb_val (zn 4)) (fun _ => zv_cat (ss := ssort [[c], [c2]]) (zv_srt hr bn rfl (zv_lst (zl_cons (zn 7) (zl1 (zn 8)))) rfl (srtS (ns := [[c], [c2]]) (by show 2 ≤ _; decide)) (srt_strs [[c], [c2]])) (.inl rfl) ?_) fun _ => zn 7) ?_
    · rw [ssort2]; split <;> simp
    · refine ⟨_, app_last, by rw [List.length_map, hp.1]; have := range_ix hk; omega, ?_⟩
      split
      · rename_i h
        have ne : c ≠ c2 := fun e => by rw [e] at h; simp at h
        refine go _ (.inr ?_)
        rw [ssort2]
        by_cases h' : c ≤ c2
        · rw [if_pos h']
          exact ⟨c, sub c hc, c2, sub c2 hc2, by omega, rfl⟩
        · rw [if_neg h']
          exact ⟨c2, sub c2 hc2, c, sub c hc, by omega, rfl⟩
      · exact go _ (.inl ⟨c, sub c hc, rfl⟩)
  · refine zret (ze_ice ((zn 5).ze ⟨S.length, q0, _, _, rfl, app_last, .lst, ?_⟩))
    rw [app_cut]
    rw [List.length_map, List.length_range] at hp
    exact q its (fun e => by rw [e] at hp; simp at hp; omega) (by omega) hp.2
end
end K01
end

section
namespace K01
open PySem PySem.Spec PyProof.Rows L2 PySem.W Fz
/-! ### the head's facts -/
def dd (x : Str) (st : Stmt) : He.DefD := ⟨(x, none), x, x, defArgs st, defBody st, defScope st, [], []⟩
def dm (c m q : Str) (st : Stmt) : He.DefD := ⟨(c, some m), m, q, defArgs st, defBody st, defScope st, [], []⟩
def fn : List He.DefD := [dd "are_fuses" (top 6), dd "items_in" (top 8), dm "Rule" "__init__" "Rule.__init__" (mth 9 0), dm "Rule" "fuses" "Rule.fuses" (mth 9 1), dm "Rule" "__len__" "Rule.__len__" (mth 9 2), dm "Rule" "__eq__" "Rule.__eq__" (mth 9 3), dm "Rule" "__str__" "Rule.__str__" (mth 9 4),
  dd "_law_bag" (top 11), dd "_law_draw" (top 12), dd "_law_one" (top 13), dd "_law_items" (top 14), dd "_law_fuses" (top 19), dd "_law_right" (top 20), dd "law" (top 21)]
def bnF : List He.Fa := [.free "len", .free "all", .free "any", .free "sum", .free "min", .free "max", .free "sorted", .free "abs", .free "int", .free "str", .free "tuple", .free "list", .free "range", .free "repr", .free "isinstance", .free "divmod", .free "enumerate", .free "zip", .free "dict", .free "set", .free "bool"]
def fa : List He.Fa := bnF ++ [.glo "are_fuses", .glo "items_in", .glo "Rule", .glo "_law_bag", .glo "_law_draw", .glo "_law_one", .glo "_law_items", .glo "_law_fuses", .glo "_law_right", .glo "law",
  .int "MOST_ITEMS" 12, .str "LETTERS" "abcdef", .cls "Rule", .noat "Rule" "text", .noat "Rule" "parts", .meth "Rule" "fuses", .meth "Rule" "__len__", .meth "Rule" "__eq__", .meth "Rule" "__str__", .mkr "Rule"]
def fb : List Fb := [.ins "Rule", .isB "str" "Rule" false, .nf "Rule" "str", .nfc "Rule" "Rule", .ne "Rule", .nobool "Rule"]
section
variable {P : Program} {w : World} {K : PySem.W.Frag} {mg : Str → Option Value} {base : Heap}
abbrev C (K : PySem.W.Frag) (mg : Str → Option Value) (base : Heap) : Prop := Cz fa fn fb K mg base
theorem bn (c : C K mg base) : Bn mg := ⟨c.free 0, c.free 1, c.free 2, c.free 3, c.free 4, c.free 5, c.free 6, c.free 7, c.free 8, c.free 9, c.free 10, c.free 11, c.free 12, c.free 13, c.free 14, c.free 15, c.free 16, c.free 17, c.free 18, c.free 19, c.free 20⟩
theorem aFuses (c : C K mg base) : AC P w K mg base 1 "are_fuses" 1 [] (fun ds _ => spFuses ds) := by
  obtain ⟨fd, F⟩ := c.td 0 (d := dd "are_fuses" (top 6))
  exact ac_of c 21 rfl F (okFuses (bn c) (He.str_ok c.X c.G (c.ta 32)) F) (bd_pos F 1 rfl fun _ _ _ _ _ _ us hl => match us, hl with | [_], _ => rfl)
theorem aItems (c : C K mg base) : AC P w K mg base 2 "items_in" 1 [] (fun ds _ => spItems ds) := by
  obtain ⟨fd, F⟩ := c.td 1 (d := dd "items_in" (top 8))
  exact ac_of c 22 rfl F (okItems (bn c) (He.int_ok c.X c.G (c.ta 31)) (aFuses c) F) (bd_pos F 1 rfl fun _ _ _ _ _ _ us hl => match us, hl with | [_], _ => rfl)
theorem fText (c : C K mg base) : Fld K "Rule" "text" := c.fld 33 34
theorem fParts (c : C K mg base) : Fld K "Rule" "parts" := c.fld 33 35
theorem aRule (c : C K mg base) : AC P w K mg base 4 "Rule" 1 [] (fun ds _ => spRule ds) ∧ AC P w K mg base 4 "Rule" 0 ["text"] (fun _ es => spRule es) := by
  obtain ⟨fd, F⟩ := c.td 2 (d := dm "Rule" "__init__" "Rule.__init__" (mth 9 0))
  have M := He.mkr_ok (c.ta 40)
  have G := okInit (P := P) (w := w) (mg := mg) (base := base) (fText c) (fParts c) (aItems c) F
  refine ⟨⟨⟨_, c.glo 23, M.kp, can_make M rfl G (bd_pos F 2 rfl fun _ _ _ _ _ _ us hl => match us, hl with | [_, _], _ => rfl) ?_⟩⟩, ⟨⟨_, c.glo 23, M.kp, can_make M rfl G (bd_kw F 1 ["text"] fun _ _ _ _ _ _ us ws h1 h2 => match us, ws, h1, h2 with | [_], [_], _, _ => rfl) ?_⟩⟩⟩
  · rintro ds es S Q Ex l1 l2 ⟨z, its, e, hz, hi, q⟩ p
    subst e
    exact ⟨p, S, z, its, rfl, rfl, hz, hi, rfl, .inr ⟨_, S, rfl, q p⟩⟩
  · rintro ds es S Q Ex l1 l2 ⟨z, its, e, hz, hi, q⟩ p
    subst e
    cases ds with
    | nil => exact ⟨p, S, z, its, rfl, rfl, hz, hi, rfl, .inr ⟨_, S, rfl, q p⟩⟩
    | cons _ _ => cases l1
theorem mFus (c : C K mg base) : AM P w K mg base 1 "Rule" "fuses" 0 [] (fun ds _ => spRuleM (fun _ its => .str (fusesOf its)) ds) := by
  obtain ⟨fd, F⟩ := c.td 3 (d := dm "Rule" "fuses" "Rule.fuses" (mth 9 1))
  exact am_of (He.cls_ok (c.ta 33)) (He.meth_ok (c.ta 36)) (okFus (bn c) (fParts c) F) (bd_pos F 1 rfl fun _ _ _ _ _ _ us hl => match us, hl with | [_], _ => rfl)
theorem mLen (c : C K mg base) : AM P w K mg base 1 "Rule" "__len__" 0 [] (fun ds _ => spRuleM (fun _ its => .int its.length) ds) := by
  obtain ⟨fd, F⟩ := c.td 4 (d := dm "Rule" "__len__" "Rule.__len__" (mth 9 2))
  exact am_of (He.cls_ok (c.ta 33)) (He.meth_ok (c.ta 37)) (okLen (bn c) (fParts c) F) (bd_pos F 1 rfl fun _ _ _ _ _ _ us hl => match us, hl with | [_], _ => rfl)
theorem mEq (c : C K mg base) : AM P w K mg base 1 "Rule" "__eq__" 1 [] (fun ds _ => spRuleEq ds) := by
  obtain ⟨fd, F⟩ := c.td 5 (d := dm "Rule" "__eq__" "Rule.__eq__" (mth 9 3))
  exact am_of (He.cls_ok (c.ta 33)) (He.meth_ok (c.ta 38)) (okEq (bn c) (c.glo 23) (fText c) (ins_ok (c.tb 0)) (isB_ok (c.tb 1)) F) (bd_pos F 2 rfl fun _ _ _ _ _ _ us hl => match us, hl with | [_, _], _ => rfl)
theorem mStr (c : C K mg base) : AM P w K mg base 1 "Rule" "__str__" 0 [] (fun ds _ => spRuleM (fun z _ => .str z) ds) := by
  obtain ⟨fd, F⟩ := c.td 6 (d := dm "Rule" "__str__" "Rule.__str__" (mth 9 4))
  exact am_of (He.cls_ok (c.ta 33)) (He.meth_ok (c.ta 39)) (okStr (fText c) F) (bd_pos F 1 rfl fun _ _ _ _ _ _ us hl => match us, hl with | [_], _ => rfl)
theorem aBag (c : C K mg base) : AC P w K mg base 1 "_law_bag" 2 [] (fun ds _ => spBag ds) := by
  obtain ⟨fd, F⟩ := c.td 7 (d := dd "_law_bag" (top 11))
  exact ac_of c 24 rfl F (okBag (bn c) F) (bd_pos F 2 rfl fun _ _ _ _ _ _ us hl => match us, hl with | [_, _], _ => rfl)
theorem aDraw (c : C K mg base) : AC P w K mg base 1 "_law_draw" 2 [] (fun ds _ => spDraw ds) := by
  obtain ⟨fd, F⟩ := c.td 8 (d := dd "_law_draw" (top 12))
  exact ac_of c 25 rfl F (okDraw (bn c) F) (bd_pos F 2 rfl fun _ _ _ _ _ _ us hl => match us, hl with | [_, _], _ => rfl)
theorem aOne (c : C K mg base) : AC P w K mg base 2 "_law_one" 2 [] (fun ds _ => spOne ds) := by
  obtain ⟨fd, F⟩ := c.td 9 (d := dd "_law_one" (top 13))
  exact ac_of c 26 rfl F (okOne (bn c) (aDraw c) F) (bd_pos F 2 rfl fun _ _ _ _ _ _ us hl => match us, hl with | [_, _], _ => rfl)
theorem aLIt (c : C K mg base) : AC P w K mg base 3 "_law_items" 3 [] (fun ds _ => spLItems ds) := by
  obtain ⟨fd, F⟩ := c.td 10 (d := dd "_law_items" (top 14))
  exact ac_of c 27 rfl F (okLIt (bn c) (aDraw c) (aOne c) F) (bd_pos F 3 rfl fun _ _ _ _ _ _ us hl => match us, hl with | [_, _, _], _ => rfl)
theorem aLFus (c : C K mg base) : AC P w K mg base 1 "_law_fuses" 1 [] (fun ds _ => spLFuses ds) := by
  obtain ⟨fd, F⟩ := c.td 11 (d := dd "_law_fuses" (top 19))
  exact ac_of c 28 rfl F (okLFus (bn c) F) (bd_pos F 1 rfl fun _ _ _ _ _ _ us hl => match us, hl with | [_], _ => rfl)
end
end K01
end

section
namespace K01
open PySem PySem.Spec PyProof.Rows L2 PySem.W Fz
section
variable {P : Program} {w : World} {K : PySem.W.Frag} {mg : Str → Option Value} {base : Heap} {f : Addr} {fd : FuncData}
abbrev nRight : List Str := ["_law_bag_here", "_law_made", "_law_turn", "_law_hooks", "_law_spoken", "_law_mine", "_law_each"]
theorem scRight : FnScope nRight ["_law_bag_here"] (defScope (top 20)) := ⟨rfl, rfl, rfl, by decide +kernel, rfl, by decide +kernel, by decide +kernel⟩
/-- one made rule -/
abbrev obR (m : Addr × List Nat × List (List Nat)) : D := .obj m.1 "Rule" (ruleF m.2.1 m.2.2)
theorem okRight (c : C K mg base) (F : FnP K "_law_right" (top 20) f fd) : FnG P w K mg base 6 f fd ["_law_bag_here"] (conc K spRight) := by
  have b := bn c
  refine fn_g F scRight (fun ds S Q E ⟨p, i, e, _⟩ => by rw [e]; rfl) fun cdv A outer s H E ds S aQ aE hr gd ⟨p, i, e, hi, q⟩ => ?_
  subst e
  refine zset 1 (ze_cell (za_nil ⟨by decide, fun q0 => ?_⟩))
  have hb : ∀ {c : Cell}, (S ++ [(q0, c)])[i]? = some (p, Cell.bag) := fun {c} => app_at hi
  refine zfor (fun _ : List (Addr × List Nat × List (List Nat)) => [some (.ref p), some (.ref q0), none, none, none, none, none]) (fun ms => S ++ [(q0, .lst (ms.map obR))]) (fun n ms => ms.length = n) [] (ziv_range1 b.range zv_int ⟨by decide, by decide⟩) (by repeat constructor) rfl rfl (fun n d ms hd hp => ?_) fun ms hp => ?_
  · obtain ⟨k, hk, rfl⟩ := map_get hd
    obtain ⟨_, hk4⟩ := range_ix hk
    refine zgn 2 ?_
    refine zset 3 (ze_call (aLIt c) hr (by decide) ((zl_cons (zn 0) (zl_cons zv_int (zl1 zv_int))).za ⟨rfl, p, i, 12, 6, rfl, hb, by decide, by decide, by decide, by decide, fun its hne hl hg => ?_⟩))
    have good : ∀ x ∈ its, Good x := fun x hx => good_of (hg x hx)
    have jl := joined_le good
    have fl := flat_le good
    refine zsetV 4 (zv_join (sep := [32]) (ss := its) zv_str (zn 3) (ok_spoken (by omega) good)) ?_
    have hi := items_join hne hl good
    obtain ⟨z, hz⟩ : ∃ z, z = joinL [32] its := ⟨_, rfl⟩
    have zlt := joined_lt good
    rw [← hz] at hi jl zlt ⊢
    refine zset 5 (ze_call (aRule c).1 hr (by decide) ((zl1 (zn 4)).za ⟨rfl, z, its, rfl, by omega, hi, fun a => ?_⟩))
    have tl : ∀ {g : List Nat → List (List Nat) → D} {S' : Store}, Tells (fun ds _ => spRuleM g ds) [.obj a "Rule" (ruleF z its)] S' (g z its) := fun {g S'} Q Ex q => ⟨a, z, its, rfl, by omega, by omega, q⟩
    have rk : Rok (.lst [.str z, .tup (its.map .str), .int its.length, .str z]) 60 16777000 := by
      have r1 : Rok (.str z) 2 (10 * 36 + 2) := rok_str (by omega) zlt
      refine (rok_lst (ds := [.str z, .tup (its.map .str), .int its.length, .str z]) (n := 2) (B := 2000) (m := 4) (by show 4 ≤ 4; decide) (rok_cons r1 (rok_cons (rok_tup (by rw [List.length_map]; exact hl) (rok_txts hl good (n := 1))) (rok_cons (rok_int (small_log _ (by omega)) (n := 2)) (rok_cons r1 rok_nil))))).up (by decide) (by decide)
    refine zif0 (zb_c (zc_neS (zv_repr hr b gd (zv_lst (zl_cons (zv_fld (fText c) (zn 5) lk0) (zl_cons (zv_fld (fParts c) (zn 5) (lk1 (by decide) lk0)) (zl_cons (zv_lenO (mLen c) hr (by decide) b (zn 5) (by omega) tl) (zl1 (zv_strO (mStr c) hr (by decide) b (zn 5) tl)))))) rk) (zv_repr hr b gd (zv_lst (zl_cons (zn 4) (zl_cons (zv_tuple b (zn 3)) (zl_cons (zv_len b (zn 3) (by rw [show lenD (.lst (its.map D.str)) = some (its.map D.str).length from rfl, List.length_map])) (zl1 (zn 4)))))) rk))) ?_ (by simp)
    have ic := ins_ok (c.tb 0)
    refine zifF (ZW.zt (zw_orF ((zb_c (zc_neS (zv_meth0 (mFus c) hr (by decide) (zn 5) (lkN (by decide) (lkN (by decide) rfl)) tl) (zv_call (aLFus c) hr (by decide) (zl1 (zn 3)) fun Q Ex q => ⟨its, .inl rfl, by omega, q⟩))).zt ⟨by simp, ?_⟩)))
    refine zw_orF (zt_neO (mEq c) (ne_ok (c.tb 4)) hr (by decide) (ze_callK0 (aRule c).2 hr (by decide) (zk_cons ((zn 4).ze (zk_nil ⟨rfl, z, its, rfl, by omega, hi, fun a2 => ⟨rfl, (zn 5).ze ⟨rfl, _, .obj ic, nfc_ok (c.tb 3), a2, z, its, .inl ⟨a, z, its, rfl, _, rfl, _, rfl, ?_, ?_⟩⟩⟩⟩)))))
    · simp
    refine zw_orF ((zb_eqO (mEq c) hr (by decide) (zn 5) (zn 4) .str (nf_ok (c.tb 2)) fun Q Ex q => ⟨a, z, its, .inr ⟨z, rfl, q⟩⟩).zt ⟨rfl, ?_⟩)
    refine zw_or1 ((zb_not (zb_lenO (mLen c) (nobool_ok (c.tb 5)) hr (by decide) (zn 5) (by omega) tl)).zt ⟨?_, ?_⟩)
    · have : its.length ≠ 0 := fun e => hne (List.length_eq_zero_iff.mp e)
      simp [this]
    refine zs_one (z1_expr (ze_append (k := S.length) (zn 1) ((zn 5).ze ⟨_, app_last, by rw [List.length_map, hp]; omega, ms ++ [(a, z, its)], by repeat constructor, by rw [app_set, List.map_append]; rfl, by rw [List.length_append, hp]; rfl⟩) (hk0 := ⟨_, app_last⟩)))
  · refine zs_ice (j := 1) app_last rfl .lst ?_
    rw [app_cut]
    have h4 : ms.length = 4 := by rw [hp]; rfl
    have ic := ins_ok (c.tb 0)
    obtain ⟨m0, mr, e0⟩ : ∃ m0 mr, ms = m0 :: mr := by
      cases ms with
      | nil => cases h4
      | cons m0 mr => exact ⟨m0, mr, rfl⟩
    refine zretV (zv_all (g := fun m : Addr × List Nat × List (List Nat) => decide (decide (m0.2.1 = m.2.1) = decide (m0.2.1 = m.2.1))) rfl b (zmap (enc := obR) 6 scRight.nd (ziv_seq (zn 1)) (fun n m hm s H C cl fp => zv_c (zc_eqB (zv_eqO (mEq c) hr (by decide) (zv_ix (d := obR m0) (zn 1) zv_int (by rw [e0]; exact atI_lit (k := 0) rfl rfl)) (zn 6) (.obj ic) (nfc_ok (c.tb 3)) fun Q Ex q => ⟨m0.1, m0.2.1, m0.2.2, .inl ⟨m.1, m.2.1, m.2.2, rfl, q⟩⟩) (zv_c (zc_eqS (zv_fld (fText c) (zv_ix (d := obR m0) (zn 1) zv_int (by rw [e0]; exact atI_lit (k := 0) rfl rfl)) lk0) (zv_fld (fText c) (zn 6) lk0))))) (by omega))) ?_
    have : (ms.all fun m : Addr × List Nat × List (List Nat) => decide (decide (m0.2.1 = m.2.1) = decide (m0.2.1 = m.2.1))) = true := by simp
    rw [this]
    exact q
end
end K01
end

section
namespace K01
open PySem PySem.Spec PyProof.Rows L2 PySem.W Fz
section
variable {P : Program} {w : World} {K : PySem.W.Frag} {mg : Str → Option Value} {base : Heap} {f : Addr} {fd : FuncData}
theorem aRight (c : C K mg base) : AC P w K mg base 6 "_law_right" 1 [] (fun ds _ => spRight ds) := by
  obtain ⟨fd, F⟩ := c.td 12 (d := dd "_law_right" (top 20))
  exact ac_of c 29 rfl F (okRight c F) (bd_pos F 1 rfl fun _ _ _ _ _ _ us hl => match us, hl with | [_], _ => rfl)
abbrev nLaw : List Str := ["_law_script", "_law_mine", "_law_k"]
theorem scLaw : FnScope nLaw ["_law_script"] (defScope (top 21)) := ⟨rfl, rfl, rfl, by decide +kernel, rfl, by decide +kernel, by decide +kernel⟩
theorem okLaw (c : C K mg base) (F : FnP K "law" (top 21) f fd) : FnG P w K mg base 7 f fd ["_law_script"] (conc K (lawSp 63)) := by
  have b := bn c
  refine fn_g F scLaw (fun ds S Q E ⟨ns, e, _⟩ => by rw [e]; rfl) fun cdv A outer s H E ds S aQ aE hr gd ⟨ns, e, eS, hl, hbits, q⟩ => ?_
  subst e eS
  refine zset 1 (ze_call (aRule c).1 hr (by decide) ((zl1 zv_str).za ⟨rfl, _, [codes "a", codes "b", codes "ab", codes "c"], rfl, by decide +kernel, by decide +kernel, fun a => ?_⟩))
  have tl : ∀ {g : List Nat → List (List Nat) → D} {S' : Store}, Tells (fun ds _ => spRuleM g ds) [.obj a "Rule" (ruleF (codes "a b ab c") [codes "a", codes "b", codes "ab", codes "c"])] S' (g (codes "a b ab c") [codes "a", codes "b", codes "ab", codes "c"]) := fun {g S'} Q Ex q => ⟨a, _, _, rfl, by decide +kernel, by decide +kernel, q⟩
  refine zifF (ZW.zt (zw_orF ((zb_c (zc_ne (t := true) hr (zv_lst (zl_cons (zv_fld (fParts c) (zn 1) (lk1 (by decide) lk0)) (zl_cons (zv_meth0 (mFus c) hr (by decide) (zn 1) (lkN (by decide) (lkN (by decide) rfl)) tl) (zl1 (zv_lenO (mLen c) hr (by decide) b (zn 1) (i := 4) (by decide) tl))))) (zv_lst (zl_cons (zv_tup (zl_cons zv_str (zl_cons zv_str (zl_cons zv_str (zl1 zv_str))))) (zl_cons zv_str (zl1 zv_int)))) (by decide +kernel) (by decide +kernel) (by decide +kernel))).zt ⟨rfl, ?_⟩)))
  refine zw_or1 (zt_cmpG op_ne (nomark _) (ze_meth0 (mFus c) hr (by decide) (ze_call (aRule c).1 hr (by decide) ((zl1 zv_str).za ⟨rfl, _, [codes "f"], rfl, by decide +kernel, by decide +kernel, fun a2 => ⟨rfl, (lkN (by decide) (lkN (by decide) rfl)), a2, _, _, rfl, by decide +kernel, by decide +kernel, ZV.ze zv_str ⟨false, ?_, rfl, ?_⟩⟩⟩))))
  · exact g_neS
  refine zret (ze_allB rfl b (zall (as := List.range (rounds ns).toNat) (enc := fun (i : Nat) => D.int i) (P := fun _ y => y = .bl true) 2 scLaw.nd ((ziv_range1 (j := rounds ns) b.range (zv_max2 rfl b zv_int (zv_min2 rfl b (zv_len b (zn 0)) zv_int)) (by have := rounds_le ns; omega)).zi ⟨rfl, rfl⟩) (fun i k hk s H C cl fp => ?_) (by have := rounds_le ns; rw [List.length_range]; omega) fun ys hy => ⟨_, congrArg D.lst (all2_true hy), ?_⟩))
  · have hk := (range_ix hk).2
    have := rounds_le ns
    exact ze_drop (ze_call (aRight c) hr (by decide) (za_cons (ze_call (aBag c) hr (by decide) ((zl_cons (zn 0) (zl1 (zn 2))).za ⟨rfl, ns, k, rfl, by omega, by omega, fun p => za_nil ⟨rfl, p, 0, rfl, rfl, [], _, rfl, rfl, rfl⟩⟩)) rfl))
  · have e : (List.range (rounds ns).toNat).all (id ∘ fun (_ : Nat) => true) = true := List.all_eq_true.mpr fun _ _ => rfl
    rw [List.all_map, e]
    exact q _
end
end K01
end

section
namespace K01
open PySem PySem.Spec PyProof.Rows L2 PySem.W Fz
/-! ### the head's run and the end -/
abbrev R : PySem.W.OpenRow := PySem.W.OpenLaw.row PySem.Challenge.rw_fuseposts_k01_rules_made
abbrev hk : PySem.W.Hook := hookZ 4 fa fn fb
def ob (s : PySem.W.SharedT) : AlZ := obsZ 4 fa fn fb (HandSHeadRun.getT s)
theorem ob_eq (s : PySem.W.SharedT) : ob s = hk.obs s.abs := obsZ_eq (HandSHeadRun.getT_eq s)
def names : List PySem.Str := (["__name__", "ShapeError", "InvalidText", "MOST_ITEMS", "LETTERS", "are_fuses", "items_in", "Rule", "_law_bag", "_law_draw", "_law_one", "_law_items", "_law_blown", "_law_dead", "_law_is_out", "_law_is_dark", "_law_fuses", "_law_right"] : List PySem.Str)
theorem run (w : World) : HandSHeadRun.RunEq R (PySem.W.view R.prog [21]) hk ob 20000 names w := by
  intro os
  kernel_rfl
end K01
open PySem PySem.W PySem.Calls PyProof.Rows
theorem PySem.Challenge.cw_fuseposts_k01_rules_made_holds : PySem.Challenge.rw_fuseposts_k01_rules_made.Holds := by
  w_on; o_law
  refine HandSHeadRun.head_any (r := OpenLaw.row PySem.Challenge.rw_fuseposts_k01_rules_made) (q := view (OpenLaw.row PySem.Challenge.rw_fuseposts_k01_rules_made).prog [21]) (H := K01.hk) (ob := K01.ob) (M := 20000) (loose := K01.names) (d := HandSHeadRun.topDef (OpenLaw.row PySem.Challenge.rw_fuseposts_k01_rules_made).prog 21) (kwd := []) K01.ob_eq
    (by kernel_rfl) (fun s => by kernel_rfl) K01.run (by kernel_rfl) (by kernel_rfl) (by kernel_rfl) (by rfl) (by first | assumption | decide +kernel) (by decide +kernel) ⟨rfl, rfl, rfl, rfl, rfl, by decide +kernel⟩ ?hw ?hc
  case hw => w_witness2
  case hc =>
    refine Fz.walk_ofG (l := PySem.Challenge.rw_fuseposts_k01_rules_made) (n := 63) (k := 7) (x := "_law_script") rfl (by decide) (by kernel_rfl) ⟨rfl, by decide, by decide⟩ ?F
    intro w mg f h Y G hmg0
    obtain ⟨K, KX, c⟩ := Y
    have hmg : mg ("law" : PySem.Str) = some (.ref f) := by
      have e : (HandSHeadRun.topDef (OpenLaw.row PySem.Challenge.rw_fuseposts_k01_rules_made).prog 21).name = ("law" : PySem.Str) := by kernel_rfl
      rw [← e]
      exact hmg0
    have c0 : K01.C K mg h := ⟨KX, G, c⟩
    obtain ⟨fd, F⟩ := c0.td 13 (d := K01.dd "law" (K01.top 21))
    have e := hmg.symm.trans (c0.glo 30)
    cases e
    have b := L2.FunD.bindsA (ps := ["_law_script"]) F fun _ _ _ _ _ _ us hl => match us, hl with | [_], _ => rfl
    exact ⟨K, fd, KX, fun s v => b s [v] rfl, fun base hb hg => K01.okLaw (P := PySem.Challenge.rw_fuseposts_k01_rules_made.prog) (w := w) (⟨hb, hg, c⟩ : K01.C K mg base) F⟩
end
