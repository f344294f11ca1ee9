import PyProof.Rows.All
import Wide.All
import OpenK.AllK
import Wide.FinOn
import HandS.ForMost
import HandS.Exc
import HandS.HeadHook1
import HandS.Defaults
import HandS.MakeKw
import HandS.TupAny
import HandS.Codes
import PyProof.NeKinds
import HandS.Strs
import HandS.SetFor
import KE.SortData
import KE.SortLaws
import PyProof.CollectStr
import PyProof.TupleOfSeq
import HandS.FStr
import HandS.Replace
import HandS.IsInst
import PyProof.ReprReads
import PyProof.ReprRoads
import PyProof.ReprLen
import PyProof.StrLawsRepr
import KE.KCallOwn
import PyProof.InstNe
import HandS.EndBits
import HandS.HeadHook4
import HandS.HeadHook2
import HandS.Flow
import HandS.Records
import HandS.Style
import KE.DataMinMax
import KE.GoesMore
import PyProof.EnumMake
import HandS.DictComp
import HandS.TupLe
import HandS.TupMul
import PySem.Challenge.RW_fuseposts_k14_whole_pairs_that_look_alik
import KE.KStateDown
import Lean
import HandS.Head0
import HandS.Head1
import HandS.Head2
import HandS.HeadEnd
set_option Elab.async false
set_option linter.all false
set_option maxRecDepth 100000
set_option maxHeartbeats 0
section
/-! Fz: abstract data, a store of mutable cells, and readings over them, above the hand layer. -/
namespace Fz
open PySem PySem.Spec PyProof.Rows L2

/-- data without a heap; ref p: what may change, by its place; obj a c fs: an object of the class c that never changes -/
inductive D where
  | non | bl (b : Bool) | int (i : Int) | str (x : List Nat) | ref (p : Addr)
  | tup (ds : List D) | lst (ds : List D) | scr (ns : List Int) | obj (a : Addr) (c : Str) (fs : List (Str × D))
  | dk (ks : List (Key × D)) | dt (ks : List (List Key × D))

mutual
inductive Rep (K : PySem.W.Frag) (G : Hp) : D → V → Prop
  | non : Rep K G .non .non
  | bl {b} : Rep K G (.bl b) (.bl b)
  | int {i} : Rep K G (.int i) (.int i)
  | str {x} : x.length ≤ 16777000 → Rep K G (.str x) (.str ⟨x.toArray⟩)
  | ref {p} : Rep K G (.ref p) (.ref p)
  | tup {ds a xs} : SqT K G a xs → RepL K G ds xs → Rep K G (.tup ds) (.ref a)
  | lst {ds a xs} : G a = some (.lst xs) → RepL K G ds xs → Rep K G (.lst ds) (.ref a)
  | scr {ns a} : SqL K G a (ns.map V.int) → Rep K G (.scr ns) (.ref a)
  | obj {a b c fs dx vs} : G b = some (.ins (He.ga K c) dx vs) → RepF K G fs vs → Rep K G (.obj a c fs) (.ref b)
  | dk {a ks vs} : G a = some (.dK vs) → RepK K G ks vs → Rep K G (.dk ks) (.ref a)
  | dt {a ks vs} : G a = some (.dT vs) → RepT K G ks vs → Rep K G (.dt ks) (.ref a)
inductive RepL (K : PySem.W.Frag) (G : Hp) : List D → List V → Prop
  | nil : RepL K G [] []
  | cons {d v ds vs} : Rep K G d v → RepL K G ds vs → RepL K G (d :: ds) (v :: vs)
inductive RepF (K : PySem.W.Frag) (G : Hp) : List (Str × D) → List (Str × V) → Prop
  | nil : RepF K G [] []
  | cons {n d v ds vs} : Rep K G d v → RepF K G ds vs → RepF K G ((n, d) :: ds) ((n, v) :: vs)
inductive RepK (K : PySem.W.Frag) (G : Hp) : List (Key × D) → List (Key × V) → Prop
  | nil : RepK K G [] []
  | cons {n d v ds vs} : Rep K G d v → RepK K G ds vs → RepK K G ((n, d) :: ds) ((n, v) :: vs)
inductive RepT (K : PySem.W.Frag) (G : Hp) : List (List Key × D) → List (List Key × V) → Prop
  | nil : RepT K G [] []
  | cons {n d v ds vs} : Rep K G d v → RepT K G ds vs → RepT K G ((n, d) :: ds) ((n, v) :: vs)
end

abbrev Sub (G G' : Hp) : Prop := ∀ a o, G a = some o → G' a = some o
theorem Sub.rd {G G' : Hp} {a : Addr} {u : HO} (e : Sub G G') (h : Rd G a u) : Rd G' a u := by
  rcases h with h | ⟨o, h⟩
  · exact .inl (e _ _ h)
  · exact .inr ⟨o, e _ _ h⟩
theorem Sub.sl {K} {G G' : Hp} {a : Addr} {xs : List V} (e : Sub G G') (h : SqL K G a xs) : SqL K G' a xs := h.imp e.rd id
theorem Sub.st {K} {G G' : Hp} {a : Addr} {xs : List V} (e : Sub G G') (h : SqT K G a xs) : SqT K G' a xs := h.imp e.rd id

mutual
theorem Rep.mono {K G G'} (e : Sub G G') : ∀ {d v}, Rep K G d v → Rep K G' d v
  | _, _, .non => .non
  | _, _, .bl => .bl
  | _, _, .int => .int
  | _, _, .str h => .str h
  | _, _, .ref => .ref
  | _, _, .tup h r => .tup (e.st h) (RepL.mono e r)
  | _, _, .lst h r => .lst (e _ _ h) (RepL.mono e r)
  | _, _, .scr h => .scr (e.sl h)
  | _, _, .obj h r => .obj (e _ _ h) (RepF.mono e r)
  | _, _, .dk h r => .dk (e _ _ h) (RepK.mono e r)
  | _, _, .dt h r => .dt (e _ _ h) (RepT.mono e r)
theorem RepL.mono {K G G'} (e : Sub G G') : ∀ {d v}, RepL K G d v → RepL K G' d v
  | _, _, .nil => .nil
  | _, _, .cons h r => .cons (Rep.mono e h) (RepL.mono e r)
theorem RepF.mono {K G G'} (e : Sub G G') : ∀ {d v}, RepF K G d v → RepF K G' d v
  | _, _, .nil => .nil
  | _, _, .cons h r => .cons (Rep.mono e h) (RepF.mono e r)
theorem RepK.mono {K G G'} (e : Sub G G') : ∀ {d v}, RepK K G d v → RepK K G' d v
  | _, _, .nil => .nil
  | _, _, .cons h r => .cons (Rep.mono e h) (RepK.mono e r)
theorem RepT.mono {K G G'} (e : Sub G G') : ∀ {d v}, RepT K G d v → RepT K G' d v
  | _, _, .nil => .nil
  | _, _, .cons h r => .cons (Rep.mono e h) (RepT.mono e r)
end
theorem RepL.length {K G} : ∀ {ds vs}, RepL K G ds vs → ds.length = vs.length
  | _, _, .nil => rfl
  | _, _, .cons _ r => congrArg (· + 1) r.length
theorem RepL.get {K G} : ∀ {ds vs} {i : Nat} {d : D}, RepL K G ds vs → ds[i]? = some d → ∃ v, vs[i]? = some v ∧ Rep K G d v
  | _, _, _, _, .nil, e => by simp at e
  | _, _, 0, _, .cons h _, e => by simp at e; subst e; exact ⟨_, rfl, h⟩
  | _, _, i + 1, d, .cons _ r, e => by
    obtain ⟨v, h1, h2⟩ := RepL.get (i := i) (d := d) r (by simpa using e)
    exact ⟨v, by simpa using h1, h2⟩
theorem RepL.get' {K G} : ∀ {ds vs} {i : Nat} {v : V}, RepL K G ds vs → vs[i]? = some v → ∃ d, ds[i]? = some d ∧ Rep K G d v
  | _, _, _, _, .nil, e => by simp at e
  | _, _, 0, _, .cons h _, e => by simp at e; subst e; exact ⟨_, rfl, h⟩
  | _, _, i + 1, d, .cons _ r, e => by
    obtain ⟨v, h1, h2⟩ := RepL.get' (i := i) (v := d) r (by simpa using e)
    exact ⟨v, by simpa using h1, h2⟩
theorem RepL.app {K G} : ∀ {ds vs es ws}, RepL K G ds vs → RepL K G es ws → RepL K G (ds ++ es) (vs ++ ws)
  | _, _, _, _, .nil, s => s
  | _, _, _, _, .cons h r, s => .cons h (r.app s)
theorem RepL.take {K G} : ∀ {ds vs} (n : Nat), RepL K G ds vs → RepL K G (ds.take n) (vs.take n)
  | _, _, 0, _ => .nil
  | _, _, _ + 1, .nil => .nil
  | _, _, n + 1, .cons h r => .cons h (r.take n)
theorem RepL.drop {K G} : ∀ {ds vs} (n : Nat), RepL K G ds vs → RepL K G (ds.drop n) (vs.drop n)
  | _, _, 0, r => r
  | _, _, _ + 1, .nil => .nil
  | _, _, n + 1, .cons _ r => r.drop n
theorem RepL.set {K G} {d : D} {v : V} (h : Rep K G d v) : ∀ {ds vs} (n : Nat), RepL K G ds vs → RepL K G (ds.set n d) (vs.set n v)
  | _, _, _, .nil => .nil
  | _, _, 0, .cons _ r => .cons h r
  | _, _, n + 1, .cons g r => .cons g (RepL.set h n r)
theorem RepL.ints {K G} : ∀ (ns : List Int), RepL K G (ns.map D.int) (ns.map V.int)
  | [] => .nil
  | _ :: ns => .cons .int (RepL.ints ns)
theorem RepL.ints_inv {K G} : ∀ {ns : List Int} {vs}, RepL K G (ns.map D.int) vs → vs = ns.map V.int
  | [], _, .nil => rfl
  | _ :: ns, _, .cons h r => by cases h; rw [RepL.ints_inv r]; rfl
theorem RepL.strs_inv {K G} : ∀ {ns : List (List Nat)} {vs}, RepL K G (ns.map D.str) vs → vs = (ns.map fun x => V.str ⟨x.toArray⟩) ∧ ∀ x ∈ ns, x.length ≤ 16777000
  | [], _, .nil => ⟨rfl, fun _ h => nomatch h⟩
  | n :: ns, _, .cons h r => by
    cases h with
    | str hl =>
      obtain ⟨e, q⟩ := RepL.strs_inv r
      exact ⟨by rw [e]; rfl, fun x hx => (List.mem_cons.mp hx).elim (fun z => z ▸ hl) (q x)⟩
theorem RepL.strs {K G} : ∀ (ns : List (List Nat)), (∀ x ∈ ns, x.length ≤ 16777000) → RepL K G (ns.map D.str) (ns.map fun x => V.str ⟨x.toArray⟩)
  | [], _ => .nil
  | _ :: ns, h => .cons (.str (h _ (List.mem_cons_self ..))) (RepL.strs ns fun x hx => h x (List.mem_cons_of_mem _ hx))
theorem RepL.bls_inv {K G} : ∀ {ns : List Bool} {vs}, RepL K G (ns.map D.bl) vs → vs = ns.map V.bl
  | [], _, .nil => rfl
  | _ :: ns, _, .cons h r => by cases h; rw [RepL.bls_inv r]; rfl
theorem RepF.look {K G} : ∀ {fs vs} {f : Str} {d : D}, RepF K G fs vs → fs.lookup f = some d → ∃ v, vs.lookup f = some v ∧ Rep K G d v
  | _, _, _, _, .nil, e => by simp at e
  | _, _, f, d, .cons (n := n) h r, e => by
    rw [List.lookup_cons] at e ⊢
    cases q : f == n with
    | true => rw [q] at e; cases e; exact ⟨_, rfl, h⟩
    | false => rw [q] at e; exact r.look e
theorem RepF.none {K G} : ∀ {fs vs} {f : Str}, RepF K G fs vs → fs.lookup f = Option.none → vs.lookup f = Option.none
  | _, _, _, .nil, _ => rfl
  | _, _, f, .cons (n := n) h r, e => by
    rw [List.lookup_cons] at e ⊢
    cases q : f == n with
    | true => rw [q] at e; cases e
    | false => rw [q] at e; exact r.none e
theorem RepF.length {K G} : ∀ {ds vs}, RepF K G ds vs → ds.length = vs.length
  | _, _, .nil => rfl
  | _, _, .cons _ r => congrArg (· + 1) r.length

/-! ### mutable cells -/
inductive Cell where
  | lst (ds : List D)
  /-- three ints, the first two at least 0: the law's own bag -/
  | bag
  | dk (ks : List (Key × D)) | dt (ks : List (List Key × D))
  | ins (c : Str) (fs : List (Str × D))
abbrev Store := List (Addr × Cell)
def CellAt (K : PySem.W.Frag) (G : Hp) (o : Option HO) : Cell → Prop
  | .lst ds => ∃ xs, o = some (.lst xs) ∧ RepL K G ds xs
  | .bag => ∃ a b c : Int, o = some (.lst [.int a, .int b, .int c]) ∧ 0 ≤ a ∧ 0 ≤ b
  | .dk ks => ∃ vs, o = some (.dK vs) ∧ RepK K G ks vs
  | .dt ks => ∃ vs, o = some (.dT vs) ∧ RepT K G ks vs
  | .ins c fs => ∃ dx vs, o = some (.ins (He.ga K c) dx vs) ∧ RepF K G fs vs
theorem CellAt.mono {K G G' o} (e : Sub G G') : ∀ {c : Cell}, CellAt K G o c → CellAt K G' o c
  | .lst _, ⟨xs, h, r⟩ => ⟨xs, h, r.mono e⟩
  | .bag, h => h
  | .dk _, ⟨xs, h, r⟩ => ⟨xs, h, r.mono e⟩
  | .dt _, ⟨xs, h, r⟩ => ⟨xs, h, r.mono e⟩
  | .ins _ _, ⟨dx, xs, h, r⟩ => ⟨dx, xs, h, r.mono e⟩
theorem CellAt.some {K G o} : ∀ {c : Cell}, CellAt K G o c → ∃ u, o = some u
  | .lst _, ⟨_, h, _⟩ => ⟨_, h⟩
  | .bag, ⟨_, _, _, h, _⟩ => ⟨_, h⟩
  | .dk _, ⟨_, h, _⟩ => ⟨_, h⟩
  | .dt _, ⟨_, h, _⟩ => ⟨_, h⟩
  | .ins _ _, ⟨_, _, h, _⟩ => ⟨_, h⟩

/-- the heap without what may change: F the frame's hidden places, the store's places -/
def hd (l : List Addr) (H : Hp) : Hp := fun a => if a ∈ l then none else H a
abbrev keys (S : Store) : List Addr := S.map (·.1)
abbrev vw (F : List Addr) (S : Store) (H : Hp) : Hp := hd (F ++ keys S) H
theorem hd_in {l : List Addr} {H : Hp} {a : Addr} (h : a ∈ l) : hd l H a = none := if_pos h
theorem hd_out {l : List Addr} {H : Hp} {a : Addr} (h : a ∉ l) : hd l H a = H a := if_neg h
theorem hd_sub {l : List Addr} {H : Hp} : Sub (hd l H) H := fun a o h => by
  by_cases q : a ∈ l
  · rw [hd_in q] at h; cases h
  · rw [hd_out q] at h; exact h
theorem hd_less {l l' : List Addr} {H : Hp} (h : ∀ a, a ∈ l' → a ∈ l) : Sub (hd l H) (hd l' H) := fun a o e => by
  by_cases q : a ∈ l
  · rw [hd_in q] at e; cases e
  · rw [hd_out fun z => q (h a z)]; rw [hd_out q] at e; exact e

theorem ne_mem {l : List Addr} {a p : Addr} (h : a ∈ l) (n : p ∉ l) : a ≠ p := fun z => n (by rw [← z]; exact h)
theorem ne_mem' {l : List Addr} {a p : Addr} (h : a ∉ l) (n : p ∈ l) : a ≠ p := fun z => h (by rw [z]; exact n)
structure HC (K : PySem.W.Frag) (F : List Addr) (S : Store) (H : Hp) : Prop where
  nd : (F ++ keys S).Nodup
  fr : ∀ a ∈ F, H a ≠ none
  at_ : ∀ p c, (p, c) ∈ S → CellAt K (vw F S H) (H p) c
structure Stp (F : List Addr) (S : Store) (H : Hp) (S' : Store) (H' : Hp) : Prop where
  ext : Sub (vw F S H) (vw F S' H')
  frm : ∀ a ∈ F, H' a = H a
theorem Stp.refl {F S H} : Stp F S H S H := ⟨fun _ _ h => h, fun _ _ => rfl⟩
theorem Stp.trans {F S H S1 H1 S2 H2} (a : Stp F S H S1 H1) (b : Stp F S1 H1 S2 H2) : Stp F S H S2 H2 :=
  ⟨fun x o h => b.ext x o (a.ext x o h), fun x h => (b.frm x h).trans (a.frm x h)⟩
theorem HC.there {K F S H} (h : HC K F S H) {a : Addr} (m : a ∈ F ++ keys S) : H a ≠ none := by
  rcases List.mem_append.mp m with m | m
  · exact h.fr a m
  · obtain ⟨⟨p, c⟩, hm, rfl⟩ := List.mem_map.mp m
    obtain ⟨u, e⟩ := (h.at_ p c hm).some
    show H p ≠ none
    rw [e]; exact fun z => nomatch z
theorem HC.fresh {K F S H} (h : HC K F S H) {a : Addr} (n : H a = none) : a ∉ F ++ keys S := fun m => h.there m n
/-- a new object -/
theorem HC.new {K F S H} (h : HC K F S H) {p : Addr} {o : HO} (n : H p = none) : HC K F S (upd H p o) ∧ Stp F S H S (upd H p o) ∧ vw F S (upd H p o) p = some o := by
  have np := h.fresh n
  have sub : Sub (vw F S H) (vw F S (upd H p o)) := fun a u e => by
    have ha : a ∉ F ++ keys S := fun q => by rw [vw, hd_in q] at e; cases e
    rw [vw, hd_out ha] at e ⊢
    rw [upd_ne (ne_of_none e n)]; exact e
  refine ⟨⟨h.nd, fun a ha => ?_, fun q c hq => ?_⟩, ⟨sub, fun a ha => ?_⟩, ?_⟩
  · rw [upd_ne (ne_mem (List.mem_append_left _ ha) np)]; exact h.fr a ha
  · have hm : q ∈ F ++ keys S := List.mem_append_right _ (List.mem_map.mpr ⟨_, hq, rfl⟩)
    rw [upd_ne (ne_mem hm np)]
    exact (h.at_ q c hq).mono sub
  · rw [upd_ne (ne_mem (List.mem_append_left _ ha) np)]
  · rw [vw, hd_out np, upd_same]
/-- a new object, twice -/
theorem HC.grow {K F S H H'} (h : HC K F S H) (e : Sub H H') : HC K F S H' ∧ Stp F S H S H' := by
  have sub : Sub (vw F S H) (vw F S H') := fun a u q => by
    have ha : a ∉ F ++ keys S := fun z => by rw [vw, hd_in z] at q; cases q
    rw [vw, hd_out ha] at q ⊢
    exact e a u q
  have same : ∀ a, a ∈ F ++ keys S → H' a = H a := fun a ha => by
    cases q : H a with
    | none => exact absurd q (h.there ha)
    | some o => exact e a o q
  refine ⟨⟨h.nd, fun a ha => ?_, fun q c hq => ?_⟩, ⟨sub, fun a ha => same a (List.mem_append_left _ ha)⟩⟩
  · rw [same a (List.mem_append_left _ ha)]; exact h.fr a ha
  · rw [same q (List.mem_append_right _ (List.mem_map.mpr ⟨_, hq, rfl⟩))]
    exact (h.at_ q c hq).mono sub
/-- a new cell -/
theorem HC.cell {K F S H} (h : HC K F S H) {p : Addr} {o : HO} {c : Cell} (n : H p = none) (hc : CellAt K (vw F S H) (some o) c) :
    HC K F (S ++ [(p, c)]) (upd H p o) ∧ Stp F S H (S ++ [(p, c)]) (upd H p o) := by
  have np := h.fresh n
  have ek : F ++ keys (S ++ [(p, c)]) = (F ++ keys S) ++ [p] := by simp [keys]
  have same : ∀ a, a ≠ p → vw F (S ++ [(p, c)]) (upd H p o) a = vw F S H a := fun a ha => by
    by_cases q : a ∈ F ++ keys S
    · rw [vw, hd_in (by rw [ek]; exact List.mem_append_left _ q), vw, hd_in q]
    · rw [vw, hd_out (by rw [ek]; intro z; rcases List.mem_append.mp z with z | z; exact q z; exact ha (List.mem_singleton.mp z)), vw, hd_out q, upd_ne ha]
  have sub : Sub (vw F S H) (vw F (S ++ [(p, c)]) (upd H p o)) := fun a u e => by
    have ha : a ≠ p := fun z => by
      subst z
      rw [vw, hd_out np, n] at e; cases e
    rw [same a ha]; exact e
  refine ⟨⟨?_, fun a ha => ?_, fun q c' hq => ?_⟩, ⟨sub, fun a ha => ?_⟩⟩
  · rw [ek]
    exact List.nodup_append.mpr ⟨h.nd, by simp, fun a ha b hb => by simp at hb; subst hb; exact fun z => np (z ▸ ha)⟩
  · rw [upd_ne (ne_mem (List.mem_append_left _ ha) np)]; exact h.fr a ha
  · rcases List.mem_append.mp hq with hq | hq
    · have hm : q ∈ F ++ keys S := List.mem_append_right _ (List.mem_map.mpr ⟨_, hq, rfl⟩)
      rw [upd_ne (ne_mem hm np)]
      exact (h.at_ q c' hq).mono sub
    · obtain ⟨rfl, rfl⟩ := Prod.mk.inj (List.mem_singleton.mp hq)
      rw [upd_same]
      exact hc.mono sub
  · rw [upd_ne (ne_mem (List.mem_append_left _ ha) np)]
/-- the content of the k-th cell is changed -/
theorem HC.put {K F S H} (h : HC K F S H) {k : Nat} {p : Addr} {c c' : Cell} {o : HO} (hk : S[k]? = some (p, c)) (hc : CellAt K (vw F S H) (some o) c') :
    HC K F (S.set k (p, c')) (upd H p o) ∧ Stp F S H (S.set k (p, c')) (upd H p o) := by
  have kl : k < S.length := (List.getElem?_eq_some_iff.mp hk).1
  have ek : keys (S.set k (p, c')) = keys S := by
    unfold keys
    rw [List.map_set]
    apply List.ext_getElem?
    intro i
    by_cases q : k = i
    · subst q
      rw [List.getElem?_set_self (by simpa using kl), List.getElem?_map, hk]; rfl
    · rw [List.getElem?_set_ne q]
  have hm : p ∈ F ++ keys S := List.mem_append_right _ (List.mem_map.mpr ⟨_, List.mem_of_getElem? hk, rfl⟩)
  have ev : vw F (S.set k (p, c')) (upd H p o) = vw F S H := by
    funext a
    by_cases q : a ∈ F ++ keys S
    · rw [vw, ek, hd_in q, vw, hd_in q]
    · rw [vw, ek, hd_out q, vw, hd_out q, upd_ne (ne_mem' q hm)]
  have nd := h.nd
  have pF : p ∉ F := fun z => (List.nodup_append.mp nd).2.2 p z p (List.mem_map.mpr ⟨_, List.mem_of_getElem? hk, rfl⟩) rfl
  refine ⟨⟨by rw [ek]; exact nd, fun a ha => ?_, fun q d hq => ?_⟩, ⟨by rw [ev]; exact fun _ _ z => z, fun a ha => ?_⟩⟩
  · rw [upd_ne (ne_mem ha pF)]; exact h.fr a ha
  · rw [ev]
    obtain ⟨j, hj⟩ := List.mem_iff_getElem?.mp hq
    by_cases e : k = j
    · subst e
      rw [List.getElem?_set_self kl] at hj
      obtain ⟨rfl, rfl⟩ := Prod.mk.inj (Option.some.inj hj)
      rw [upd_same]; exact hc
    · rw [List.getElem?_set_ne e] at hj
      have nk : (keys S).Nodup := (List.nodup_append.mp nd).2.1
      have ne : q ≠ p := fun z => by
        subst z
        have e1 : (keys S)[k]? = some q := by rw [List.getElem?_map, hk]; rfl
        have e2 : (keys S)[j]? = some q := by rw [List.getElem?_map, hj]; rfl
        exact e ((List.getElem?_inj (by simpa using kl) nk).mp (e1.trans e2.symm))
      rw [upd_ne ne]
      exact h.at_ q d (List.mem_of_getElem? hj)
  · rw [upd_ne (ne_mem ha pF)]
theorem HC.get {K F S H} (h : HC K F S H) {k : Nat} {p : Addr} {c : Cell} (hk : S[k]? = some (p, c)) : CellAt K (vw F S H) (H p) c := h.at_ p c (List.mem_of_getElem? hk)
/-- the last cell is changed no more -/
theorem HC.freeze {K F S H} {p : Addr} {c : Cell} (h : HC K F (S ++ [(p, c)]) H) : HC K F S H ∧ Stp F (S ++ [(p, c)]) H S H ∧ vw F S H p = H p := by
  have ek : F ++ keys (S ++ [(p, c)]) = (F ++ keys S) ++ [p] := by simp [keys]
  have sub : Sub (vw F (S ++ [(p, c)]) H) (vw F S H) := hd_less fun a ha => by rw [ek]; exact List.mem_append_left _ ha
  have nd := h.nd
  rw [ek] at nd
  have np : p ∉ F ++ keys S := fun z => (List.nodup_append.mp nd).2.2 p z p (by simp) rfl
  refine ⟨⟨(List.nodup_append.mp nd).1, h.fr, fun q d hq => (h.at_ q d (List.mem_append_left _ hq)).mono sub⟩, ⟨sub, fun _ _ => rfl⟩, ?_⟩
  rw [vw, hd_out np]
end Fz
end

section
namespace Fz
open PySem PySem.Spec PyProof.Rows L2

/-! ### exceptions wished for -/
abbrev AX := Str → List (Str × D) → Store → Prop
abbrev AX0 : AX := fun _ _ _ => False
def XcAt (K : PySem.W.Frag) (F : List Addr) (S : Store) (H : Hp) (d : Option Addr) (fl : List (Str × D)) : Prop :=
  (fl = [] ∧ d = none) ∨ ∃ dx vs, d = some dx ∧ vw F S H dx = some (.xd vs) ∧ RepF K (vw F S H) fl vs
structure XR (X : Cx) (Ex : AX) (F : List Addr) (S : Store) (H : Hp) : Prop where
  ex : ∃ E : XK, Takes X (fun c d _ H => E c d H) ∧ ∀ S' H' c d fl, Stp F S H S' H' → HC X.K F S' H' → XcAt X.K F S' H' d fl → Ex c fl S' → E (.ref (He.ga X.K c)) d H'
theorem XR.step {X Ex F S H S1 H1} (x : XR X Ex F S H) (t : Stp F S H S1 H1) : XR X Ex F S1 H1 := by
  obtain ⟨E, tk, h⟩ := x.ex
  exact ⟨E, tk, fun S' H' c d fl u => h S' H' c d fl (t.trans u)⟩
theorem takesN {X : Cx} : Takes X (fun _ _ _ _ => False) := fun _ _ x => by
  obtain ⟨_, _, _, _, _, _, _, _, _, _, _, _, _, _, _, _, z⟩ := x
  exact z.elim
theorem XR.none {X F S H} : XR X AX0 F S H := ⟨fun _ _ _ => False, takesN, fun _ _ _ _ _ _ _ _ z => z⟩

/-! ### the frame -/
abbrev Gam := List (Option D)
def RG (K : PySem.W.Frag) (G : Hp) (Γ : Gam) (σ : L2.St) : Prop := Γ.length = σ.length ∧ ∀ (i : Nat) (d : D), Γ[i]? = some (some d) → ∃ v, σ[i]? = some (some v) ∧ Rep K G d v
theorem RG.mono {K G G' Γ σ} (e : Sub G G') (h : RG K G Γ σ) : RG K G' Γ σ := ⟨h.1, fun i d q => let ⟨v, a, b⟩ := h.2 i d q; ⟨v, a, b.mono e⟩⟩
theorem RG.set {K G Γ σ} (h : RG K G Γ σ) {i : Nat} {d : D} {v : V} (r : Rep K G d v) : RG K G (Γ.set i (some d)) (σ.set i (some v)) := by
  refine ⟨by simpa using h.1, fun j e q => ?_⟩
  by_cases c : i = j
  · subst c
    have hl : i < Γ.length := by
      have := (List.getElem?_eq_some_iff.mp q).1
      simpa using this
    rw [List.getElem?_set_self hl] at q
    cases q
    exact ⟨v, by rw [List.getElem?_set_self (by rw [← h.1]; exact hl)], r⟩
  · rw [List.getElem?_set_ne c] at q ⊢
    exact h.2 j e q
/-- slots forgotten -/
def weaker (Γ Γ' : Gam) : Prop := Γ'.length = Γ.length ∧ ∀ (i : Nat) (d : D), Γ'[i]? = some (some d) → Γ[i]? = some (some d)
theorem RG.weak {K G Γ Γ' σ} (h : RG K G Γ σ) (w : weaker Γ Γ') : RG K G Γ' σ := ⟨w.1.trans h.1, fun i d q => h.2 i d (w.2 i d q)⟩
theorem RG.wipe {K G Γ σ} (h : RG K G Γ σ) : ∀ (vs : List Nat), ∃ Γ', Γ' = vs.foldr (fun v g => g.set v none) Γ ∧ RG K G Γ' (L2.wipe σ vs)
  | [] => ⟨Γ, rfl, h⟩
  | v :: vs => by
    obtain ⟨Γ', e, r⟩ := RG.wipe h vs
    refine ⟨_, by rw [List.foldr_cons, ← e], ?_⟩
    show RG K G (Γ'.set v Option.none) ((L2.wipe σ vs).set v Option.none)
    refine ⟨by simpa using r.1, fun j d q => ?_⟩
    by_cases c : v = j
    · subst c
      have hl : v < Γ'.length := by
        have := (List.getElem?_eq_some_iff.mp q).1
        simpa using this
      rw [List.getElem?_set_self hl] at q
      cases q
    · rw [List.getElem?_set_ne c] at q ⊢
      exact r.2 j d q

structure XOk (X : Cx) : Prop where
  nd : X.N.Nodup
  po : PassesOwn (model X.prog X.w) X.A X.env X.xe
  calm : X.calm = true
  gd : X.A.guards = some []
structure Con (X : Cx) (Ex : AX) (F : List Addr) (Γ : Gam) (S : Store) (σ : L2.St) (H : Hp) : Prop where
  ok : XOk X
  hc : HC X.K F S H
  rg : RG X.K (vw F S H) Γ σ
  xr : XR X Ex F S H
theorem Con.step {X Ex F Γ S σ H S' H'} (c : Con X Ex F Γ S σ H) (t : Stp F S H S' H') (h : HC X.K F S' H') : Con X Ex F Γ S' σ H' := ⟨c.ok, h, c.rg.mono t.ext, c.xr.step t⟩

/-! ### judgements -/
abbrev DQ := D → Store → Prop
abbrev GQ := Gam → Store → Prop
def QR (K : PySem.W.Frag) (F : List Addr) (S : Store) (H : Hp) (Q : DQ) (Q' : VK) : Prop := ∀ v H' d S', Stp F S H S' H' → HC K F S' H' → Rep K (vw F S' H') d v → Q d S' → Q' v H'
theorem QR.step {K F S H Q Q' S1 H1} (h : QR K F S H Q Q') (t : Stp F S H S1 H1) : QR K F S1 H1 Q Q' := fun v H' d S' u => h v H' d S' (t.trans u)
def tSelf (X : Cx) (e : Expr) : TE := fun σ H Q => ∀ pins s, Inv X pins σ H s → wpAny (model X.prog X.w) X.A (eval e X.env) (EP X pins σ Q) X.xe s
theorem pe_self {X e} : PE X e (tSelf X e) := ⟨fun pins s σ H Q I h => h pins s I⟩
theorem self_of {X e t} (h : PE X e t) {σ H Q} (q : t σ H Q) : tSelf X e σ H Q := fun pins s I => h.run pins s σ H Q I q
def ZE (X : Cx) (Ex : AX) (e : Expr) (Γ : Gam) (S : Store) (Q : DQ) : Prop := ∀ F σ H, Con X Ex F Γ S σ H → ∀ Q' : VK, QR X.K F S H Q Q' → tSelf X e σ H Q'

def tSelfT (X : Cx) (e : Expr) : TT := fun σ H Q => ∀ pins s, Inv X pins σ H s → wpAny (model X.prog X.w) X.A (isTrue e X.env (eval e X.env)) (TP X pins σ Q) X.xe s
theorem pt_self {X e} : PT X e (tSelfT X e) := ⟨fun pins s σ H Q I h => h pins s I⟩
theorem selfT_of {X e t} (h : PT X e t) {σ H Q} (q : t σ H Q) : tSelfT X e σ H Q := fun pins s I => h.run pins s σ H Q I q
def QT (K : PySem.W.Frag) (F : List Addr) (S : Store) (H : Hp) (Q : Bool → Store → Prop) (Q' : Bool → Hp → Prop) : Prop := ∀ b H' S', Stp F S H S' H' → HC K F S' H' → Q b S' → Q' b H'
def ZT (X : Cx) (Ex : AX) (e : Expr) (Γ : Gam) (S : Store) (Q : Bool → Store → Prop) : Prop := ∀ F σ H, Con X Ex F Γ S σ H → ∀ Q', QT X.K F S H Q Q' → tSelfT X e σ H Q'
/-- a chain of and | or: its whole whatever -/
def tSelfW (X : Cx) (e : Expr) : TT := fun σ H Q => ∀ (wh : Sem Value) pins s, Inv X pins σ H s → wpAny (model X.prog X.w) X.A (isTrue e X.env wh) (TP X pins σ Q) X.xe s
theorem pw_self {X e} : PW X e (tSelfW X e) := ⟨fun wh pins s σ H Q I h => h wh pins s I⟩
theorem selfW_of {X e t} (h : PW X e t) {σ H Q} (q : t σ H Q) : tSelfW X e σ H Q := fun wh pins s I => h.run wh pins s σ H Q I q
def ZW (X : Cx) (Ex : AX) (e : Expr) (Γ : Gam) (S : Store) (Q : Bool → Store → Prop) : Prop := ∀ F σ H, Con X Ex F Γ S σ H → ∀ Q', QT X.K F S H Q Q' → tSelfW X e σ H Q'

def tSelfA (X : Cx) (es : List Expr) : TA := fun σ H Q => ∀ pos pins s, Inv X pins σ H s → wpAny (model X.prog X.w) X.A (spliced (backTo pos (starEach es X.env))) (AP X pins σ Q) X.xe s
theorem pa_self {X es} : PA X es (tSelfA X es) := ⟨fun pos pins s σ H Q I h => h pos pins s I⟩
theorem selfA_of {X es t} (h : PA X es t) {σ H Q} (q : t σ H Q) : tSelfA X es σ H Q := fun pos pins s I => h.run pos pins s σ H Q I q
abbrev LQ := List D → Store → Prop
def QL (K : PySem.W.Frag) (F : List Addr) (S : Store) (H : Hp) (Q : LQ) (Q' : List V → Hp → Prop) : Prop := ∀ vs H' ds S', Stp F S H S' H' → HC K F S' H' → RepL K (vw F S' H') ds vs → Q ds S' → Q' vs H'
def ZA (X : Cx) (Ex : AX) (es : List Expr) (Γ : Gam) (S : Store) (Q : LQ) : Prop := ∀ F σ H, Con X Ex F Γ S σ H → ∀ Q', QL X.K F S H Q Q' → tSelfA X es σ H Q'

structure AEnds where
  nx : GQ
  rt : DQ
  bk : GQ := fun _ _ => False
  ct : GQ := fun _ _ => False
def GR (K : PySem.W.Frag) (F : List Addr) (S : Store) (H : Hp) (q : GQ) (q' : L2.St → Hp → Prop) : Prop := ∀ σ' H' Γ' S', Stp F S H S' H' → HC K F S' H' → RG K (vw F S' H') Γ' σ' → q Γ' S' → q' σ' H'
theorem GR.step {K F S H q q' S1 H1} (h : GR K F S H q q') (t : Stp F S H S1 H1) : GR K F S1 H1 q q' := fun σ' H' Γ' S' u => h σ' H' Γ' S' (t.trans u)
structure ER (K : PySem.W.Frag) (F : List Addr) (S : Store) (H : Hp) (D : AEnds) (D' : Ends) : Prop where
  nx : GR K F S H D.nx D'.nx
  rt : QR K F S H D.rt D'.rt
  bk : GR K F S H D.bk D'.bk
  ct : GR K F S H D.ct D'.ct
theorem ER.step {K F S H D D' S1 H1} (h : ER K F S H D D') (t : Stp F S H S1 H1) : ER K F S1 H1 D D' := ⟨h.nx.step t, h.rt.step t, h.bk.step t, h.ct.step t⟩
def tSelfS (X : Cx) (ss : List Stmt) : TS := fun D σ H => ∀ pins s, Inv X pins σ H s → wpAny (model X.prog X.w) X.A (execs ss X.env) (SP X pins D) X.xe s
theorem pss_self {X ss} : PSs X ss (tSelfS X ss) := ⟨fun pins s σ H D I h => h pins s I⟩
theorem selfS_of {X ss t} (h : PSs X ss t) {D σ H} (q : t D σ H) : tSelfS X ss D σ H := fun pins s I => h.run pins s σ H D I q
def ZS (X : Cx) (Ex : AX) (ss : List Stmt) (Γ : Gam) (S : Store) (D : AEnds) : Prop := ∀ F σ H, Con X Ex F Γ S σ H → ∀ D', ER X.K F S H D D' → tSelfS X ss D' σ H
/-- one statement, alone -/
def tSelf1 (X : Cx) (st : Stmt) : TS := fun D σ H => ∀ pins s, Inv X pins σ H s → wpAny (model X.prog X.w) X.A (exec st X.env) (SP X pins D) X.xe s
theorem ps_self {X st} : PS X st (tSelf1 X st) := ⟨fun pins s σ H D I h => h pins s I⟩
theorem self1_of {X st t} (h : PS X st t) {D σ H} (q : t D σ H) : tSelf1 X st D σ H := fun pins s I => h.run pins s σ H D I q
def Z1 (X : Cx) (Ex : AX) (st : Stmt) (Γ : Gam) (S : Store) (D : AEnds) : Prop := ∀ F σ H, Con X Ex F Γ S σ H → ∀ D', ER X.K F S H D D' → tSelf1 X st D' σ H
def tSelfG (X : Cx) (tg : Expr) : TG := fun v σ H Q => ∀ pins s u, Inv X pins σ H s → RelV v u → wpAny (model X.prog X.w) X.A (assign tg X.env u) (fun _ s' => ∃ σ' H', Inv X pins σ' H' s' ∧ Q σ' H') X.xe s
theorem pg_self {X tg} : PG X tg (tSelfG X tg) := ⟨fun pins s σ H v u Q I r h => h pins s u I r⟩
theorem selfG_of {X tg t} (h : PG X tg t) {v σ H Q} (q : t v σ H Q) : tSelfG X tg v σ H Q := fun pins s u I r => h.run pins s σ H v u Q I r q
def ZG (X : Cx) (Ex : AX) (tg : Expr) (d : D) (Γ : Gam) (S : Store) (q : GQ) : Prop := ∀ F σ H v, Con X Ex F Γ S σ H → Rep X.K (vw F S H) d v → ∀ q', GR X.K F S H q q' → tSelfG X tg v σ H q'

section
variable {X : Cx} {Ex : AX} {Γ : Gam} {S : Store} {Q : DQ} {a b c e : Expr} {es : List Expr} {pos : Pos} {d x y : D}

/-! ### pure values -/
def ZV (X : Cx) (e : Expr) (Γ : Gam) (S : Store) (d : D) : Prop := ∀ (Ex : AX) (Q : DQ), Q d S → ZE X Ex e Γ S Q
theorem ZV.ze (h : ZV X e Γ S d) (q : Q d S) : ZE X Ex e Γ S Q := h Ex Q q
def ZB (X : Cx) (e : Expr) (Γ : Gam) (S : Store) (t : Bool) : Prop := ∀ (Ex : AX) (Q : Bool → Store → Prop), Q t S → ZT X Ex e Γ S Q
theorem ZB.zt {t : Bool} {Q : Bool → Store → Prop} (h : ZB X e Γ S t) (q : Q t S) : ZT X Ex e Γ S Q := h Ex Q q
def ZL (X : Cx) (es : List Expr) (Γ : Gam) (S : Store) (ds : List D) : Prop := ∀ (Ex : AX) (Q : LQ), Q ds S → ZA X Ex es Γ S Q
theorem ZL.za {ds : List D} {Q : LQ} (h : ZL X es Γ S ds) (q : Q ds S) : ZA X Ex es Γ S Q := h Ex Q q
theorem ZE.mono {Q1 : DQ} (h : ZE X Ex e Γ S Q) (m : ∀ d S', Q d S' → Q1 d S') : ZE X Ex e Γ S Q1 := fun F σ H c Q' q => h F σ H c Q' fun v H' d S' t hc r z => q v H' d S' t hc r (m d S' z)
/-- from a reading that says nothing but of the frame, the heap -/
theorem ze_of {t : TE} (h : PE X e t) (k : ∀ F σ H, Con X Ex F Γ S σ H → ∀ Q', QR X.K F S H Q Q' → t σ H Q') : ZE X Ex e Γ S Q := fun F σ H c Q' q => self_of h (k F σ H c Q' q)
theorem zt_of {t : TT} {Q : Bool → Store → Prop} (h : PT X e t) (k : ∀ F σ H, Con X Ex F Γ S σ H → ∀ Q', QT X.K F S H Q Q' → t σ H Q') : ZT X Ex e Γ S Q := fun F σ H c Q' q => selfT_of h (k F σ H c Q' q)

/-! ### names, constants -/
theorem zv_var {i : Nat} {x : Str} (h : Γ[i]? = some (some d)) (hN : X.N[i]? = some x := by rfl) (hv : Vis X.env.scope x := by first | exact Or.inl rfl | exact Or.inr (Or.inl rfl) | exact Or.inr (Or.inr rfl))
    (hd : (x == ("__debug__" : Str)) = false := by decide) (hcd : (x == ("__classdict__" : Str)) = false := by decide) : ZV X (.Name x pos) Γ S d := fun Ex Q q =>
  ze_of (pe_var hN hv hd hcd) fun F σ H c Q' k => by
    obtain ⟨v, h1, h2⟩ := c.rg.2 i d h
    exact ⟨v, h1, k v H d S .refl c.hc h2 q⟩
theorem zv_int {i : Int} {j} : ZV X (.Constant (.int i) j pos) Γ S (.int i) := fun Ex Q q => ze_of pe_int fun F σ H c Q' k => k _ _ _ _ .refl c.hc .int q
theorem zv_bl {i : Bool} {j} : ZV X (.Constant (.bool i) j pos) Γ S (.bl i) := fun Ex Q q => ze_of pe_bl fun F σ H c Q' k => k _ _ _ _ .refl c.hc .bl q
theorem zv_non {j} : ZV X (.Constant .none j pos) Γ S .non := fun Ex Q q => ze_of pe_non fun F σ H c Q' k => k _ _ _ _ .refl c.hc .non q
theorem str_tl (x : Str) : (⟨x.cps.toList.toArray⟩ : Str) = x := by cases x; simp
theorem rep_str {K G} (x : Str) (h : x.length ≤ 16777000) : Rep K G (.str x.cps.toList) (.str x) := by
  have h : Rep K G (.str x.cps.toList) (.str ⟨x.cps.toList.toArray⟩) := .str (show x.cps.toList.length ≤ 16777000 by rw [Array.length_toList]; exact h)
  rw [str_tl] at h; exact h
theorem small {n : Nat} (h : n ≤ 16777216) : n ≤ sizeLine := by rw [sizeLine_eq]; exact h
def codes (s : String) : List Nat := (PySem.Str.ofString s).cps.toList
theorem zv_str {s : String} {j} (h : (PySem.Str.ofString s).length ≤ 10000 := by decide +kernel) : ZV X (.Constant (.str (PySem.Str.ofString s)) j pos) Γ S (.str (codes s)) := fun Ex Q q => ze_of pe_str fun F σ H c Q' k => k _ _ _ _ .refl c.hc (rep_str _ (by omega)) q
/-- a constant of the module -/
theorem zv_gint {x : Str} {i : Int} (hg : Gl X x) (hm : ∃ t, X.mg x = some (.int i t)) (hd : (x == ("__debug__" : Str)) = false := by decide) : ZV X (.Name x pos) Γ S (.int i) := fun Ex Q q => by
  obtain ⟨t, hm⟩ := hm
  exact ze_of (pe_glob (v := .int i) hg hm ⟨t, rfl⟩ hd) fun F σ H c Q' k => k _ _ _ _ .refl c.hc .int q
theorem zv_gstr {x : Str} {z : Str} (hg : Gl X x) (hm : ∃ t, X.mg x = some (.str z t)) (hz : z.length ≤ 10000) (hd : (x == ("__debug__" : Str)) = false := by decide) : ZV X (.Name x pos) Γ S (.str z.cps.toList) := fun Ex Q q => by
  obtain ⟨t, hm⟩ := hm
  exact ze_of (pe_glob (v := .str z) hg hm ⟨t, rfl⟩ hd) fun F σ H c Q' k => k _ _ _ _ .refl c.hc (rep_str z (by omega)) q

/-! ### two-place operators -/
abbrev AR2 := D → D → Store → DQ → Prop
/-- r does on values what R says of data -/
def AOp (X : Cx) (r : R2) (R : AR2) : Prop := ∀ F S H x y v u Q Q', XOk X → HC X.K F S H → Rep X.K (vw F S H) x v → Rep X.K (vw F S H) y u → R x y S Q → QR X.K F S H Q Q' → r v u H Q'
theorem opTwo {r : R2} {R : AR2} (hr : AOp X r R) (h : ZE X Ex a Γ S fun x S1 => ZE X Ex b Γ S1 fun y S2 => R x y S2 Q) {F σ H} (c : Con X Ex F Γ S σ H) {Q' : VK} (k : QR X.K F S H Q Q') :
    tOp r (tSelf X a) (tSelf X b) σ H Q' :=
  h F σ H c _ fun v H1 x S1 t1 c1 r1 h1 => h1 F σ H1 (c.step t1 c1) _ fun u H2 y S2 t2 c2 r2 h2 =>
    hr F S2 H2 x y v u Q Q' c.ok c2 (r1.mono t2.ext) r2 h2 (k.step (t1.trans t2))
theorem ze_op {op : Operator} {r : R2} {R : AR2} (ho : OpR X (binaryOp op) r) (hr : AOp X r R) (h : ZE X Ex a Γ S fun x S1 => ZE X Ex b Γ S1 fun y S2 => R x y S2 Q) : ZE X Ex (.BinOp a op b pos) Γ S Q :=
  ze_of (pe_op ho pe_self pe_self) fun F σ H c Q' k => opTwo hr h c k
theorem ze_cmp {op : CmpOp} {r : R2} {R : AR2} (ho : OpR X (compareOp op) r) (hr : AOp X r R) (hm : behindInMarks op b = false) (h : ZE X Ex a Γ S fun x S1 => ZE X Ex b Γ S1 fun y S2 => R x y S2 Q) : ZE X Ex (.Compare a [op] [b] pos) Γ S Q :=
  ze_of (pe_cmpR ho pe_self pe_self hm) fun F σ H c Q' k => opTwo hr h c k
/-- .. as a test -/
theorem zt_cmp {op : CmpOp} {r : R2} {R : AR2} {Q : Bool → Store → Prop} (ho : OpR X (compareOp op) r) (hr : AOp X r R) (hm : behindInMarks op b = false)
    (h : ZE X Ex a Γ S fun x S1 => ZE X Ex b Γ S1 fun y S2 => R x y S2 fun z S3 => ∃ t, z = .bl t ∧ Q t S3) : ZT X Ex (.Compare a [op] [b] pos) Γ S Q :=
  zt_of (pt_cmpR ho pe_self pe_self hm) fun F σ H c Q' k => opTwo (Q := fun z S3 => ∃ t, z = .bl t ∧ Q t S3) hr h c fun v H' z S' t hc r ⟨u, e, q⟩ => by
    subst e; cases r; exact ⟨u, rfl, k u H' S' t hc q⟩
/-- a value that is a truth, as a test -/
theorem zt_val {Q : Bool → Store → Prop} (h : ZE X Ex e Γ S fun z S' => ∃ t, z = .bl t ∧ Q t S') (he : ∀ whole, isTrue e X.env whole = (do let v ← whole; standAt e.pos; holding [v] (truthy v)) := by intro _; rfl) : ZT X Ex e Γ S Q :=
  zt_of (pt_val pe_self he) fun F σ H c Q' k => h F σ H c _ fun v H' z S' t hc r ⟨u, e, q⟩ => by
    subst e; cases r; exact ⟨u, rfl, k u H' S' t hc q⟩
theorem zt_not {Q : Bool → Store → Prop} (h : ZT X Ex a Γ S fun t S' => Q (!t) S') : ZT X Ex (.UnaryOp .Not a pos) Γ S Q :=
  zt_of (pt_not pt_self) fun F σ H c Q' k => h F σ H c _ fun t H' S' u hc q => k _ H' S' u hc q
theorem zw_and1 {Q : Bool → Store → Prop} (h : ZT X Ex a Γ S Q) : ZW X Ex (.BoolOp .And [a] pos) Γ S Q := fun F σ H c Q' k => selfW_of (pw_and1 pt_self) (h F σ H c Q' k)
theorem zw_or1 {Q : Bool → Store → Prop} (h : ZT X Ex a Γ S Q) : ZW X Ex (.BoolOp .Or [a] pos) Γ S Q := fun F σ H c Q' k => selfW_of (pw_or1 pt_self) (h F σ H c Q' k)
theorem zw_and {Q : Bool → Store → Prop} (h : ZT X Ex a Γ S fun t S1 => if t = true then ZW X Ex (.BoolOp .And (b :: es) pos) Γ S1 Q else Q false S1) : ZW X Ex (.BoolOp .And (a :: b :: es) pos) Γ S Q := fun F σ H c Q' k =>
  selfW_of (pw_and pt_self pw_self) (h F σ H c _ fun t H1 S1 u hc q => by
    cases t with
    | true => exact q F σ H1 (c.step u hc) Q' fun b H' S' u' => k b H' S' (u.trans u')
    | false => exact k false H1 S1 u hc q)
theorem zw_or {Q : Bool → Store → Prop} (h : ZT X Ex a Γ S fun t S1 => if t = true then Q true S1 else ZW X Ex (.BoolOp .Or (b :: es) pos) Γ S1 Q) : ZW X Ex (.BoolOp .Or (a :: b :: es) pos) Γ S Q := fun F σ H c Q' k =>
  selfW_of (pw_or pt_self pw_self) (h F σ H c _ fun t H1 S1 u hc q => by
    cases t with
    | false => exact q F σ H1 (c.step u hc) Q' fun b H' S' u' => k b H' S' (u.trans u')
    | true => exact k true H1 S1 u hc q)
theorem ZW.zt {Q : Bool → Store → Prop} (h : ZW X Ex e Γ S Q) : ZT X Ex e Γ S Q := fun F σ H c Q' k => selfT_of pw_self.pt (h F σ H c Q' k)
/-- .. as values -/
theorem ze_one {op} (h : ZE X Ex a Γ S Q) : ZE X Ex (.BoolOp op [a] pos) Γ S Q := ze_of (pe_one pe_self) h
theorem ze_and (h : ZE X Ex a Γ S fun z S1 => ∃ t, z = .bl t ∧ if t = true then ZE X Ex (.BoolOp .And (b :: es) pos) Γ S1 Q else Q (.bl false) S1) : ZE X Ex (.BoolOp .And (a :: b :: es) pos) Γ S Q :=
  ze_of (pe_and pe_self pe_self) fun F σ H c Q' k => h F σ H c _ fun v H1 z S1 u hc r ⟨t, e, q⟩ => by
    subst e; cases r
    refine ⟨t, rfl, ?_⟩
    cases t with
    | true => exact q F σ H1 (c.step u hc) Q' (k.step u)
    | false => exact k _ H1 _ S1 u hc .bl q
theorem ze_or (h : ZE X Ex a Γ S fun z S1 => ∃ t, z = .bl t ∧ if t = true then Q (.bl true) S1 else ZE X Ex (.BoolOp .Or (b :: es) pos) Γ S1 Q) : ZE X Ex (.BoolOp .Or (a :: b :: es) pos) Γ S Q :=
  ze_of (pe_or pe_self pe_self) fun F σ H c Q' k => h F σ H c _ fun v H1 z S1 u hc r ⟨t, e, q⟩ => by
    subst e; cases r
    refine ⟨t, rfl, ?_⟩
    cases t with
    | false => exact q F σ H1 (c.step u hc) Q' (k.step u)
    | true => exact k _ H1 _ S1 u hc .bl q
theorem ze_not (h : ZE X Ex a Γ S fun z S1 => ∃ t, z = .bl t ∧ Q (.bl (!t)) S1) : ZE X Ex (.UnaryOp .Not a pos) Γ S Q :=
  ze_of (pe_not pe_self) fun F σ H c Q' k => h F σ H c _ fun v H1 z S1 u hc r ⟨t, e, q⟩ => by
    subst e; cases r
    exact ⟨t, rfl, k _ H1 _ S1 u hc .bl q⟩
theorem ze_if (h : ZT X Ex c Γ S fun t S1 => if t = true then ZE X Ex a Γ S1 Q else ZE X Ex b Γ S1 Q) : ZE X Ex (.IfExp c a b pos) Γ S Q :=
  ze_of (pe_ifExp pt_self pe_self pe_self) fun F σ H co Q' k => h F σ H co _ fun t H1 S1 u hc q => by
    cases t with
    | true => exact q F σ H1 (co.step u hc) Q' (k.step u)
    | false => exact q F σ H1 (co.step u hc) Q' (k.step u)

/-! ### arguments -/
theorem za_nil {Q : LQ} (q : Q [] S) : ZA X Ex [] Γ S Q := fun F σ H c Q' k => selfA_of pa_nil (k _ _ _ _ .refl c.hc .nil q)
theorem za_cons {Q : LQ} (h : ZE X Ex e Γ S fun x S1 => ZA X Ex es Γ S1 fun xs S2 => Q (x :: xs) S2) (hs : starEach (e :: es) X.env = (false, eval e X.env) :: starEach es X.env := by rfl) : ZA X Ex (e :: es) Γ S Q := fun F σ H c Q' k =>
  selfA_of (pa_cons pe_self pa_self hs) (h F σ H c _ fun v H1 x S1 t1 c1 r1 h1 => h1 F σ H1 (c.step t1 c1) _ fun vs H2 xs S2 t2 c2 r2 h2 =>
    k _ _ _ _ (t1.trans t2) c2 (.cons (r1.mono t2.ext) r2) h2)
theorem zl_nil : ZL X [] Γ S [] := fun Ex Q q => za_nil q
theorem zl_cons {d : D} {ds : List D} (h : ZV X e Γ S d) (hs : ZL X es Γ S ds) (hst : starEach (e :: es) X.env = (false, eval e X.env) :: starEach es X.env := by rfl) : ZL X (e :: es) Γ S (d :: ds) := fun Ex Q q =>
  za_cons (h.ze (hs.za q)) hst
theorem ze_tup {x1} (h : ZA X Ex es Γ S fun ds S1 => ds.length ≤ sizeLine ∧ Q (.tup ds) S1) : ZE X Ex (.Tuple es x1 pos) Γ S Q :=
  ze_of (pe_tup pa_self) fun F σ H c Q' k => h F σ H c _ fun vs H1 ds S1 t c1 r ⟨z, q⟩ => ⟨by rw [← r.length]; exact z, fun p hp => by
    obtain ⟨n1, n2, n3⟩ := c1.new (o := .tup vs) hp
    exact k _ _ _ _ (t.trans n2) n1 (.tup (SqT.of n3) (r.mono n2.ext)) q⟩
theorem ze_lst (h : ZA X Ex es Γ S fun ds S1 => ds.length ≤ sizeLine ∧ Q (.lst ds) S1) : ZE X Ex (.List es pos) Γ S Q :=
  ze_of (pe_lst pa_self) fun F σ H c Q' k => h F σ H c _ fun vs H1 ds S1 t c1 r ⟨z, q⟩ => ⟨by rw [← r.length]; exact z, fun p hp => by
    obtain ⟨n1, n2, n3⟩ := c1.new (o := .lst vs) hp
    exact k _ _ _ _ (t.trans n2) n1 (.lst n3 (r.mono n2.ext)) q⟩
/-- a list that will change -/
theorem ze_cell (h : ZA X Ex es Γ S fun ds S1 => ds.length ≤ sizeLine ∧ ∀ p, Q (.ref p) (S1 ++ [(p, .lst ds)])) : ZE X Ex (.List es pos) Γ S Q :=
  ze_of (pe_lst pa_self) fun F σ H c Q' k => h F σ H c _ fun vs H1 ds S1 t c1 r ⟨z, q⟩ => ⟨by rw [← r.length]; exact z, fun p hp => by
    obtain ⟨n1, n2⟩ := c1.cell (c := .lst ds) (o := .lst vs) hp ⟨vs, rfl, r⟩
    exact k _ _ _ _ (t.trans n2) n1 .ref (q p)⟩
theorem zv_tup {ds : List D} {x1} (h : ZL X es Γ S ds) (hz : ds.length ≤ sizeLine := by first | exact small (by decide) | exact small (by simp)) : ZV X (.Tuple es x1 pos) Γ S (.tup ds) := fun Ex Q q => ze_tup (h.za ⟨hz, q⟩)
theorem zv_lst {ds : List D} (h : ZL X es Γ S ds) (hz : ds.length ≤ sizeLine := by first | exact small (by decide) | exact small (by simp)) : ZV X (.List es pos) Γ S (.lst ds) := fun Ex Q q => ze_lst (h.za ⟨hz, q⟩)
end
end Fz
end

section
namespace Fz
open PySem PySem.Spec PyProof.Rows L2

/-! ### what is walked -/
def WalkA (K : PySem.W.Frag) (G1 : Hp) (J : It) (items : List D) : Prop := ∀ F' S' H', Sub G1 (vw F' S' H') → HC K F' S' H' → ∀ i,
  (∀ d, items[i]? = some d → J.go i H' ∧ ∀ x H2, J.yld i H' x H2 → Stp F' S' H' S' H2 ∧ HC K F' S' H2 ∧ Rep K (vw F' S' H2) d x) ∧ (items.length ≤ i → J.stop i H')
theorem WalkA.mono {K G1 G2 J items} (w : WalkA K G1 J items) (e : Sub G1 G2) : WalkA K G2 J items := fun F' S' H' s => w F' S' H' fun a o h => s a o (e a o h)
theorem HC.trk {K F S H} (h : HC K F S H) {a o} (e : vw F S H a = some o) : H a = some o := hd_sub a o e
theorem sl_H {K F S H} {a : Addr} {xs : List V} (h : SqL K (vw F S H) a xs) : SqL K H a xs := Sub.sl hd_sub h
theorem st_H {K F S H} {a : Addr} {xs : List V} (h : SqT K (vw F S H) a xs) : SqT K H a xs := Sub.st hd_sub h
theorem walk_list {K G a xs items} (h : SqL K G a xs) (r : RepL K G items xs) : WalkA K G (Itl K a) items := fun F' S' H' s hc i => by
  have h' : SqL K H' a xs := sl_H (s.sl h)
  refine ⟨fun d e => ?_, fun l => ⟨xs, h', by rw [← r.length]; exact l⟩⟩
  obtain ⟨v, ev, rv⟩ := r.get e
  refine ⟨⟨xs, v, h', ev⟩, fun x H2 ⟨e2, y⟩ => ?_⟩
  subst e2
  refine ⟨.refl, hc, ?_⟩
  have := y xs h'
  rw [ev] at this; cases this
  exact rv.mono s
theorem walk_tup {K G a xs items} (h : SqT K G a xs) (r : RepL K G items xs) : WalkA K G (Itt K a) items := fun F' S' H' s hc i => by
  have h' : SqT K H' a xs := st_H (s.st h)
  refine ⟨fun d e => ?_, fun l => ⟨xs, h', by rw [← r.length]; exact l⟩⟩
  obtain ⟨v, ev, rv⟩ := r.get e
  refine ⟨⟨xs, v, h', ev⟩, fun x H2 ⟨e2, y⟩ => ?_⟩
  subst e2
  refine ⟨.refl, hc, ?_⟩
  have := y xs h'
  rw [ev] at this; cases this
  exact rv.mono s
theorem walk_str {K G} {x : List Nat} : WalkA K G (Its ⟨x.toArray⟩) (x.map fun c => .str [c]) := fun F' S' H' s hc i => by
  refine ⟨fun d e => ?_, fun l => by simpa [Its] using l⟩
  rw [List.getElem?_map] at e
  cases q : x[i]? with
  | none => rw [q] at e; cases e
  | some c =>
    rw [q] at e; cases e
    refine ⟨by simpa [Its] using (List.getElem?_eq_some_iff.mp q).1, fun y H2 ⟨e2, c', h1, h2⟩ => ?_⟩
    subst e2 h2
    refine ⟨.refl, hc, ?_⟩
    have : c' = c := by simpa [q] using h1.symm
    subst this
    exact .str (x := [c']) (show 1 ≤ 16777000 by decide)
abbrev rangeD (lo : Int) (n : Nat) : List D := (List.range n).map fun (i : Nat) => D.int (lo + (i : Int))
abbrev range0 (n : Nat) : List D := (List.range n).map fun (i : Nat) => D.int (i : Int)
theorem range0_eq (n : Nat) : rangeD 0 n = range0 n := by unfold rangeD range0; congr 1; funext i; rw [Int.zero_add]
theorem rangeD_get {lo n i} {d : D} : (rangeD lo n)[i]? = some d → i < n ∧ d = .int (lo + i) := fun h => by
  rw [List.getElem?_map] at h
  by_cases q : i < n
  · rw [List.getElem?_range q] at h; cases h; exact ⟨q, rfl⟩
  · rw [List.getElem?_eq_none (by simpa using q)] at h; cases h
theorem rangeD_len {lo n} : (rangeD lo n).length = n := by simp [rangeD]
theorem walk_range {K G lo n} : WalkA K G (Itr lo n) (rangeD lo n) := fun F' S' H' s hc i => by
  refine ⟨fun d e => ?_, fun l => by rw [rangeD_len] at l; exact l⟩
  obtain ⟨h1, rfl⟩ := rangeD_get e
  refine ⟨h1, fun x H2 ⟨e1, e2⟩ => ?_⟩
  subst e1 e2
  exact ⟨.refl, hc, .int⟩
def tSelfI (X : Cx) (tg iter : Expr) : TI := fun σ H R => ∀ pins s, Inv X pins σ H s → wpAny (model X.prog X.w) X.A (eval iter X.env) (fun v s1 => wpAny (model X.prog X.w) X.A (pyIter v) (PIE X pins σ tg R) X.xe s1) X.xe s
theorem pi_self {X tg iter} : PI X tg iter (tSelfI X tg iter) := ⟨fun pins s σ H R I h => h pins s I⟩
theorem selfI_of {X tg iter t} (h : PI X tg iter t) {σ H R} (q : t σ H R) : tSelfI X tg iter σ H R := fun pins s I => h.run pins s σ H R I q
def QI (K : PySem.W.Frag) (F : List Addr) (S : Store) (H : Hp) (R : LQ) (R' : It → Hp → Prop) : Prop := ∀ J H1 S1 items, Stp F S H S1 H1 → HC K F S1 H1 → WalkA K (vw F S1 H1) J items → R items S1 → R' J H1
def ZI (X : Cx) (Ex : AX) (tg iter : Expr) (Γ : Gam) (S : Store) (R : LQ) : Prop := ∀ F σ H, Con X Ex F Γ S σ H → ∀ R', QI X.K F S H R R' → tSelfI X tg iter σ H R'
def ZIV (X : Cx) (tg iter : Expr) (Γ : Gam) (S : Store) (ds : List D) : Prop := ∀ (Ex : AX) (R : LQ), R ds S → ZI X Ex tg iter Γ S R
def itemsOf : D → Option (List D)
  | .lst ds => some ds
  | .scr ns => some (ns.map D.int)
  | .tup ds => some ds
  | .str x => some (x.map fun c => .str [c])
  | _ => none

section
variable {X : Cx} {Ex : AX} {Γ : Gam} {S : Store} {Q : DQ} {a b e iter tg : Expr} {es : List Expr} {pos : Pos} {d x y : D} {st : Stmt} {rest body : List Stmt} {D : AEnds}
theorem zi_seq {R : LQ} (h : ZE X Ex iter Γ S fun d S1 => ∃ ds, itemsOf d = some ds ∧ R ds S1) : ZI X Ex tg iter Γ S R := fun F σ H c R' k => by
  have hl := fun pins s I => h F σ H c (fun x H1 => (∃ a, x = .ref a ∧ (∃ xs, SqL X.K H1 a xs) ∧ R' (Itl X.K a) H1) ∨ (∃ a, x = .ref a ∧ (∃ xs, SqT X.K H1 a xs) ∧ R' (Itt X.K a) H1) ∨ ∃ z, x = .str z ∧ R' (Its z) H1)
    (fun v H1 d S1 t hc r ⟨ds, e, q⟩ => by
      cases r with
      | tup h r => cases e; exact .inr (.inl ⟨_, rfl, ⟨_, st_H h⟩, k _ _ _ _ t hc (walk_tup h r) q⟩)
      | lst h r => cases e; exact .inl ⟨_, rfl, ⟨_, SqL.of (hd_sub _ _ h)⟩, k _ _ _ _ t hc (walk_list (SqL.of h) r) q⟩
      | scr h => cases e; exact .inl ⟨_, rfl, ⟨_, sl_H h⟩, k _ _ _ _ t hc (walk_list h (RepL.ints _)) q⟩
      | str _ => cases e; exact .inr (.inr ⟨_, rfl, k _ _ _ _ t hc walk_str q⟩)
      | _ => cases e) pins s I
  intro pins s I
  refine thn (hl pins s I) fun v s1 ⟨x, H1, I1, r1, q1⟩ => ?_
  rcases q1 with ⟨a, ex, ⟨xs, hq⟩, q⟩ | ⟨a, ex, ⟨xs, hq⟩, q⟩ | ⟨z, ex, q⟩
  · subst ex
    cases r1
    obtain ⟨its, rv, p, hz⟩ := I1.list hq
    exact wpAny_pyIter_list p.isList (pi_one (tk := s1.toks) I1 _ (turn_list a _) ⟨_, Heap.get?_push_size _ rfl, rfl, rfl⟩ q)
  · subst ex
    cases r1
    obtain ⟨its, rv, p, hz⟩ := I1.tuple hq
    exact wpAny_pyIter_tuple (show s1.heap.IsTuple a its.toArray from p) (pi_one (tk := s1.toks) I1 _ (turn_tuple a _) ⟨_, Heap.get?_push_size _ rfl, rfl, rfl⟩ q)
  · subst ex
    obtain ⟨t, rfl⟩ := r1
    by_cases ha : z.cps.all (· < 128) = true
    · have st := turn_str (P := X.prog) (w := X.w) (K := X.K) (tg := tg) s1.heap.objs.size z t "str_ascii_iterator" (.inl rfl)
      exact wpAny_pyIter_ascii ha (pi_one (tk := s1.toks) I1 _ st ⟨_, Heap.get?_push_size _ rfl, rfl, rfl⟩ q)
    · have st := turn_str (P := X.prog) (w := X.w) (K := X.K) (tg := tg) s1.heap.objs.size z t "str_iterator" (.inr rfl)
      exact wpAny_pyIter_wide (by simpa using ha) (pi_one (tk := s1.toks) I1 _ st ⟨_, Heap.get?_push_size _ rfl, rfl, rfl⟩ q)
theorem ziv_seq {ds : List Fz.D} (h : ZV X iter Γ S d) (e : itemsOf d = some ds := by rfl) : ZIV X tg iter Γ S ds := fun Ex R q => zi_seq (h.ze ⟨ds, e, q⟩)
theorem zi_range1 {p : Pos} {R : LQ} (hg : Gl X "range") (hm : X.mg "range" = none) (h : ZE X Ex a Γ S fun d S1 => ∃ j : Int, d = .int j ∧ -(2 ^ 62) ≤ j ∧ j < 2 ^ 62 ∧ R (range0 j.toNat) S1) (hs : starEach [a] X.env = [(false, eval a X.env)] := by rfl) :
    ZI X Ex tg (.Call (.Name "range" p) [a] [] pos) Γ S R := fun F σ H c R' k => selfI_of (pi_range1 hg hm pa_self hs) (za_cons (Q := fun ds S1 => ∃ j : Int, ds = [.int j] ∧ -(2 ^ 62) ≤ j ∧ j < 2 ^ 62 ∧ R (range0 j.toNat) S1) (h.mono fun d S1 ⟨j, e, q⟩ => za_nil ⟨j, by rw [e], q⟩) (by rw [hs]; rfl) F σ H c _
      fun vs H1 ds S1 t hc r ⟨j, e, h1, h2, q⟩ => by
        subst e
        cases r with | cons r rr => cases r; cases rr; exact ⟨j, rfl, h1, h2, k _ _ _ _ t hc (by rw [← range0_eq]; exact walk_range) q⟩)
theorem zi_range2 {p : Pos} {R : LQ} (hg : Gl X "range") (hm : X.mg "range" = none) (h : ZE X Ex a Γ S fun d S1 => ZE X Ex b Γ S1 fun u S2 => ∃ i j : Int, d = .int i ∧ u = .int j ∧ (-(2 ^ 62) ≤ i ∧ i < 2 ^ 62 ∧ -(2 ^ 62) ≤ j ∧ j < 2 ^ 62) ∧ R (rangeD i (j - i).toNat) S2)
    (hs : starEach [a, b] X.env = [(false, eval a X.env), (false, eval b X.env)] := by rfl) (hs2 : starEach [b] X.env = [(false, eval b X.env)] := by rfl) :
    ZI X Ex tg (.Call (.Name "range" p) [a, b] [] pos) Γ S R := fun F σ H c R' k => selfI_of (pi_range2 hg hm pa_self hs hs2) (za_cons (Q := fun ds S1 => ∃ i j : Int, ds = [.int i, .int j] ∧ (-(2 ^ 62) ≤ i ∧ i < 2 ^ 62 ∧ -(2 ^ 62) ≤ j ∧ j < 2 ^ 62) ∧ R (rangeD i (j - i).toNat) S1)
      (h.mono fun d S1 q => za_cons (q.mono fun u S2 ⟨i, j, e1, e2, q⟩ => za_nil ⟨i, j, by rw [e1, e2], q⟩) (by rw [hs2]; rfl)) (by rw [hs, hs2]) F σ H c _
      fun vs H1 ds S1 t hc r ⟨i, j, e, h1, q⟩ => by
        subst e
        cases r with | cons r rr => cases r; cases rr with | cons r rr => cases r; cases rr; exact ⟨i, j, rfl, h1, k _ _ _ _ t hc walk_range q⟩)
theorem ziv_range1 {p : Pos} {j : Int} (hm : X.mg "range" = none) (h : ZV X a Γ S (.int j)) (h1 : -(2 ^ 62) ≤ j ∧ j < 2 ^ 62) (hg : Gl X "range" := by rfl) (hs : starEach [a] X.env = [(false, eval a X.env)] := by rfl) : ZIV X tg (.Call (.Name "range" p) [a] [] pos) Γ S (range0 j.toNat) := fun Ex R q =>
  zi_range1 hg hm (h.ze ⟨j, rfl, h1.1, h1.2, q⟩) hs
theorem ziv_range2 {p : Pos} {i j : Int} (hm : X.mg "range" = none) (ha : ZV X a Γ S (.int i)) (hb : ZV X b Γ S (.int j)) (h1 : -(2 ^ 62) ≤ i ∧ i < 2 ^ 62 ∧ -(2 ^ 62) ≤ j ∧ j < 2 ^ 62) (hg : Gl X "range" := by rfl) (hs : starEach [a, b] X.env = [(false, eval a X.env), (false, eval b X.env)] := by rfl) (hs2 : starEach [b] X.env = [(false, eval b X.env)] := by rfl) :
    ZIV X tg (.Call (.Name "range" p) [a, b] [] pos) Γ S (rangeD i (j - i).toNat) := fun Ex R q => zi_range2 hg hm (ha.ze (hb.ze ⟨i, j, rfl, rfl, h1, q⟩)) hs hs2
theorem ZIV.zi {R : LQ} {ds : List Fz.D} (h : ZIV X tg iter Γ S ds) (q : R ds S) : ZI X Ex tg iter Γ S R := h Ex R q

/-! ### statements -/
theorem ZS.weak {Γ' : Gam} (h : ZS X Ex body Γ' S D) (w : weaker Γ Γ') : ZS X Ex body Γ S D := fun F σ H c D' k => h F σ H ⟨c.ok, c.hc, c.rg.weak w, c.xr⟩ D' k
theorem zs_nil (q : D.nx Γ S) : ZS X Ex [] Γ S D := fun F σ H c D' k => selfS_of pss_nil (k.nx σ H Γ S .refl c.hc c.rg q)
theorem zs_cons (h : Z1 X Ex st Γ S { D with nx := fun Γ' S' => ZS X Ex rest Γ' S' D }) : ZS X Ex (st :: rest) Γ S D := fun F σ H c D' k =>
  selfS_of (pss_cons ps_self pss_self) (h F σ H c { D' with nx := tSelfS X rest D' } ⟨fun σ' H' Γ' S' t hc rg q => q F σ' H' ⟨c.ok, hc, rg, c.xr.step t⟩ D' (k.step t), k.rt, k.bk, k.ct⟩)
theorem zs_one (h : Z1 X Ex st Γ S D) : ZS X Ex [st] Γ S D := fun F σ H c D' k => selfS_of (pss_one ps_self) (h F σ H c D' k)
theorem z1_of {t : TS} (h : PS X st t) (k : ∀ F σ H, Con X Ex F Γ S σ H → ∀ D', ER X.K F S H D D' → t D' σ H) : Z1 X Ex st Γ S D := fun F σ H c D' q => self1_of h (k F σ H c D' q)
theorem zg_name {i : Nat} {x : Str} {q : GQ} (h : q (Γ.set i (some d)) S) (hi : X.N[i]? = some x := by rfl) (hx : Loc X.env.scope x := by first | exact .inl rfl | exact .inr rfl) (hf : X.fn x = true ∨ X.env.scope.names.lookup x = some .local := by first | exact .inl rfl | exact .inr rfl) : ZG X Ex (.Name x pos) d Γ S q := fun F σ H v c r q' k =>
  selfG_of (pg_name c.ok.nd hi hx hf) (k _ _ _ _ .refl c.hc (c.rg.set r) h)
theorem z1_set {i : Nat} {x : Str} {pos' : Pos} (h : ZE X Ex e Γ S fun d S' => D.nx (Γ.set i (some d)) S') (hi : X.N[i]? = some x := by rfl) (hx : Loc X.env.scope x := by first | exact .inl rfl | exact .inr rfl)
    (hs : swapsWith e (some (.Name x pos')) pos.line X.env = pure false := by rfl) (hf : X.fn x = true ∨ X.env.scope.names.lookup x = some .local := by first | exact .inl rfl | exact .inr rfl) : Z1 X Ex (.Assign [.Name x pos'] e pos) Γ S D := fun F σ H c D' k =>
  self1_of (ps_set c.ok.nd hi hx pe_self hs hf) (h F σ H c _ fun v H' d S' t hc r q => k.nx _ _ _ _ t hc ((c.rg.mono t.ext).set r) q)
theorem z1_asg (h : ZE X Ex e Γ S fun d S' => ZG X Ex tg d Γ S' D.nx) (hs : swapsWithSole [tg] e pos.line X.env = pure false := by rfl) (hw : swappedStores [tg] e X.env = pure none := by rfl)
    (h1 : (assignEach [tg] X.env).map (·.2) = [assign tg X.env] := by rfl) : Z1 X Ex (.Assign [tg] e pos) Γ S D :=
  z1_of (ps_asg pe_self pg_self hs hw h1) fun F σ H c D' k => h F σ H c _ fun v H' d S' t hc r q => q F σ H' v (c.step t hc) r _ (k.nx.step t)
theorem z1_par {i j : Nat} {x y : Str} {px py pt : Pos} {kt k2 pt2} (h : ZE X Ex a Γ S fun u S1 => ZE X Ex b Γ S1 fun v S2 => D.nx ((Γ.set i (some u)).set j (some v)) S2)
    (hw : swappedStores [.Tuple [.Name x px, .Name y py] kt pt] (.Tuple [a, b] k2 pt2) X.env = pure (some [x, y]) := by rfl) (hi : X.N[i]? = some x := by rfl) (hj : X.N[j]? = some y := by rfl) (hij : i ≠ j := by decide)
    (hx : X.env.scope.names.lookup x = some .local := by rfl) (hy : X.env.scope.names.lookup y = some .local := by rfl)
    (hs : swapsWithSole [.Tuple [.Name x px, .Name y py] kt pt] (.Tuple [a, b] k2 pt2) pos.line X.env = pure false := by rfl)
    (s1 : starEach [a, b] X.env = (false, eval a X.env) :: starEach [b] X.env := by rfl) (s2 : starEach [b] X.env = (false, eval b X.env) :: starEach [] X.env := by rfl) :
    Z1 X Ex (.Assign [.Tuple [.Name x px, .Name y py] kt pt] (.Tuple [a, b] k2 pt2) pos) Γ S D := fun F σ H c D' k =>
  self1_of (ps_par c.ok.calm c.ok.nd hi hj hij hx hy pa_self hw hs) (za_cons (Q := fun ds S2 => ∃ u v, ds = [u, v] ∧ D.nx ((Γ.set i (some u)).set j (some v)) S2) (h.mono fun u S1 q => za_cons (q.mono fun v S2 q => za_nil ⟨u, v, rfl, q⟩) s2) s1 F σ H c _
    fun vs H1 ds S1 t hc r ⟨u, v, e, q⟩ => by
      subst e
      cases r with | cons r rr => cases rr with | cons r2 rr => cases rr; exact ⟨_, _, rfl, k.nx _ _ _ _ t hc (((c.rg.mono t.ext).set r).set r2) q⟩)
theorem z1_expr (h : ZE X Ex e Γ S fun _ S' => D.nx Γ S') (hs : swapsWith e none pos.line X.env = pure false := by rfl) : Z1 X Ex (.Expr e pos) Γ S D :=
  z1_of (ps_expr pe_self hs) fun F σ H c D' k => h F σ H c _ fun v H' d S' t hc r q => k.nx _ _ _ _ t hc (c.rg.mono t.ext) q
theorem z1_ret (h : ZE X Ex e Γ S D.rt) : Z1 X Ex (.Return (some e) pos) Γ S D := z1_of (ps_ret pe_self) fun F σ H c D' k => h F σ H c _ k.rt
theorem z1_retN (h : D.rt .non S) : Z1 X Ex (.Return none pos) Γ S D := z1_of ps_retN fun F σ H c D' k => k.rt _ _ _ _ .refl c.hc .non h
theorem z1_pass (h : D.nx Γ S) : Z1 X Ex (.Pass pos) Γ S D := z1_of ps_pass fun F σ H c D' k => k.nx _ _ _ _ .refl c.hc c.rg h
theorem z1_break (h : D.bk Γ S) : Z1 X Ex (.Break pos) Γ S D := z1_of ps_break fun F σ H c D' k => k.bk _ _ _ _ .refl c.hc c.rg h
theorem z1_continue (h : D.ct Γ S) : Z1 X Ex (.Continue pos) Γ S D := z1_of ps_continue fun F σ H c D' k => k.ct _ _ _ _ .refl c.hc c.rg h
theorem z1_if {c : Expr} {u v : List Stmt} (h : ZT X Ex c Γ S fun t S1 => if t = true then ZS X Ex u Γ S1 D else ZS X Ex v Γ S1 D) : Z1 X Ex (.If c u v pos) Γ S D :=
  z1_of (ps_if pt_self pss_self pss_self) fun F σ H co D' k => h F σ H co _ fun t H1 S1 w hc q => by
    cases t with
    | true => exact q F σ H1 (co.step w hc) D' (k.step w)
    | false => exact q F σ H1 (co.step w hc) D' (k.step w)
theorem z1_for (h : ZI X Ex tg iter Γ S fun items S1 => ∃ I : Nat → GQ, I 0 Γ S1 ∧
      (∀ (i : Nat) d Γ' S', items[i]? = some d → I i Γ' S' → ZG X Ex tg d Γ' S' fun Γ2 S2 => ZS X Ex body Γ2 S2 { D with nx := I (i + 1), ct := I (i + 1), bk := D.nx }) ∧ ∀ Γ' S', I items.length Γ' S' → D.nx Γ' S')
    (hs : ∀ x, foldedSetIterable iter X.env x = pure x := by intro _; rfl) : Z1 X Ex (.For tg iter body [] pos) Γ S D := fun F σ H c D' k =>
  self1_of (ps_for c.ok.po c.ok.calm pi_self pg_self pss_self hs) (h F σ H c _ fun J H1 S1 items t1 hc1 wk ⟨I, i0, turn, done⟩ =>
    ⟨fun i m σ' H' => ∃ Γ' S', m = items.length - i ∧ i ≤ items.length ∧ Stp F S1 H1 S' H' ∧ HC X.K F S' H' ∧ RG X.K (vw F S' H') Γ' σ' ∧ I i Γ' S', ⟨_, Γ, S1, rfl, Nat.zero_le _, .refl, hc1, c.rg.mono t1.ext, i0⟩, by
      rintro i m σ' H' ⟨Γ', S', rfl, hi, t', hc', rg', inv⟩
      by_cases hlt : i < items.length
      · refine .inr ⟨?_, fun σ2 H2 => ∃ Γ2 S2, Stp F S1 H1 S2 H2 ∧ HC X.K F S2 H2 ∧ RG X.K (vw F S2 H2) Γ2 σ2 ∧ I (i + 1) Γ2 S2, fun σ2 H2 ⟨Γ2, S2, u, v, w, z⟩ => ⟨items.length - (i + 1), by omega, Γ2, S2, rfl, hlt, u, v, w, z⟩, fun x H2 hy => ?_⟩
        · exact ((wk F S' H' t'.ext hc' i).1 items[i] (by simp [hlt])).1
        · obtain ⟨t2, hc2, rx⟩ := ((wk F S' H' t'.ext hc' i).1 items[i] (by simp [hlt])).2 x H2 hy
          refine turn i items[i] Γ' S' (by simp [hlt]) inv F σ' H2 x ⟨c.ok, hc2, rg'.mono t2.ext, c.xr.step ((t1.trans t').trans t2)⟩ rx _ fun σ3 H3 Γ3 S3 t3 hc3 rg3 q => ?_
          refine q F σ3 H3 ⟨c.ok, hc3, rg3, c.xr.step (((t1.trans t').trans t2).trans t3)⟩ _ ?_
          have tt := (t'.trans t2).trans t3
          refine ⟨fun σ4 H4 Γ4 S4 t4 hc4 rg4 q4 => ⟨Γ4, S4, tt.trans t4, hc4, rg4, q4⟩, (k.rt).step (t1.trans tt), fun σ4 H4 Γ4 S4 t4 hc4 rg4 q4 => k.nx _ _ _ _ ((t1.trans tt).trans t4) hc4 rg4 q4, fun σ4 H4 Γ4 S4 t4 hc4 rg4 q4 => ⟨Γ4, S4, tt.trans t4, hc4, rg4, q4⟩⟩
      · have e : i = items.length := by omega
        subst e
        exact .inl ⟨(wk F S' H' t'.ext hc' _).2 (Nat.le_refl _), k.nx _ _ _ _ (t1.trans t') hc' rg' (done _ _ inv)⟩⟩)
theorem z1_while {c : Expr} (I : Nat → GQ) (m0 : Nat) (h0 : I m0 Γ S) (hs : ∀ m Γ' S', I m Γ' S' → ZT X Ex c Γ' S' fun t S1 => if t = true then ZS X Ex body Γ' S1 { D with nx := fun Γ2 S2 => ∃ m', m' < m ∧ I m' Γ2 S2, ct := fun Γ2 S2 => ∃ m', m' < m ∧ I m' Γ2 S2, bk := D.nx } else D.nx Γ' S1) :
    Z1 X Ex (.While c body [] pos) Γ S D := fun F σ H co D' k =>
  self1_of (ps_while co.ok.po pt_self pss_self) ⟨fun m σ' H' => ∃ Γ' S', Stp F S H S' H' ∧ HC X.K F S' H' ∧ RG X.K (vw F S' H') Γ' σ' ∧ I m Γ' S', ⟨m0, Γ, S, .refl, co.hc, co.rg, h0⟩, by
    rintro m σ' H' ⟨Γ', S', t', hc', rg', inv⟩
    refine hs m Γ' S' inv F σ' H' ⟨co.ok, hc', rg', co.xr.step t'⟩ _ fun b H1 S1 t1 hc1 q => ?_
    cases b with
    | true =>
      refine ⟨fun σ2 H2 => ∃ m', m' < m ∧ ∃ Γ2 S2, Stp F S H S2 H2 ∧ HC X.K F S2 H2 ∧ RG X.K (vw F S2 H2) Γ2 σ2 ∧ I m' Γ2 S2, fun _ _ z => z, ?_⟩
      refine q F σ' H1 ⟨co.ok, hc1, rg'.mono t1.ext, co.xr.step (t'.trans t1)⟩ _ ?_
      have tt := t'.trans t1
      exact ⟨fun σ4 H4 Γ4 S4 t4 hc4 rg4 ⟨m', hm, q4⟩ => ⟨m', hm, Γ4, S4, tt.trans t4, hc4, rg4, q4⟩, (k.rt).step tt, fun σ4 H4 Γ4 S4 t4 hc4 rg4 q4 => k.nx _ _ _ _ (tt.trans t4) hc4 rg4 q4, fun σ4 H4 Γ4 S4 t4 hc4 rg4 ⟨m', hm, q4⟩ => ⟨m', hm, Γ4, S4, tt.trans t4, hc4, rg4, q4⟩⟩
    | false => exact k.nx _ _ _ _ (t'.trans t1) hc1 (rg'.mono t1.ext) q⟩
/-- what comes is never reached -/
theorem zs_never (h : False) : ZS X Ex body Γ S D := h.elim

/-! ### what changes no more -/
theorem zs_freeze {p : Addr} {ds : List Fz.D} (i : Nat) (hi : Γ[i]? = some (some (.ref p))) (h : ZS X Ex body (Γ.set i (some (.lst ds))) S D) : ZS X Ex body Γ (S ++ [(p, .lst ds)]) D := fun F σ H c D' k => by
  obtain ⟨f1, f2, f3⟩ := c.hc.freeze
  obtain ⟨xs, e, r⟩ := c.hc.at_ p (.lst ds) (List.mem_append_right _ (List.mem_singleton.mpr rfl))
  refine h F σ H ⟨c.ok, f1, ?_, c.xr.step f2⟩ D' (k.step f2)
  obtain ⟨v, e1, r1⟩ := c.rg.2 i _ hi
  cases r1
  have g := (c.rg.mono f2.ext).set (i := i) (d := .lst ds) (v := .ref p) (.lst (by rw [f3]; exact e) (r.mono f2.ext))
  have es : σ.set i (some (.ref p)) = σ := by
    apply List.ext_getElem?
    intro j
    by_cases q : i = j
    · subst q; rw [List.getElem?_set_self (List.getElem?_eq_some_iff.mp e1).1, e1]
    · rw [List.getElem?_set_ne q]
  rw [es] at g
  exact g
theorem zs_drop {pc : Addr × Cell} (h : ZS X Ex body Γ S D) : ZS X Ex body Γ (S ++ [pc]) D := fun F σ H c D' k => by
  obtain ⟨p, ce⟩ := pc
  obtain ⟨f1, f2, f3⟩ := c.hc.freeze
  exact h F σ H ⟨c.ok, f1, c.rg.mono f2.ext, c.xr.step f2⟩ D' (k.step f2)
theorem ze_freeze {S0 : Store} (h : ZE X Ex e Γ S0 fun d S' => ∃ S p ds, d = .ref p ∧ S' = S ++ [(p, .lst ds)] ∧ Q (.lst ds) S) : ZE X Ex e Γ S0 Q := fun F σ H c Q' k =>
  h F σ H c Q' fun v H' d S' t hc r ⟨S1, p, ds, e1, e2, q⟩ => by
    subst e1 e2
    cases r
    obtain ⟨f1, f2, f3⟩ := hc.freeze
    obtain ⟨xs, e, r⟩ := hc.at_ p (.lst ds) (List.mem_append_right _ (List.mem_singleton.mpr rfl))
    exact k _ _ _ _ (t.trans f2) f1 (.lst (by rw [f3]; exact e) (r.mono f2.ext)) q
theorem ze_drop {S0 : Store} (h : ZE X Ex e Γ S0 fun d S' => ∃ S pc, S' = S ++ [pc] ∧ Q d S) : ZE X Ex e Γ S0 Q := fun F σ H c Q' k =>
  h F σ H c Q' fun v H' d S' t hc r ⟨S1, ⟨p, ce⟩, e2, q⟩ => by
    subst e2
    obtain ⟨f1, f2, f3⟩ := hc.freeze
    exact k _ _ _ _ (t.trans f2) f1 (r.mono f2.ext) q

/-! ### targets -/
def ZGs (X : Cx) (Ex : AX) (tgs : List Expr) (ds : List Fz.D) (Γ : Gam) (S : Store) (q : GQ) : Prop := ∃ t : TGs, PGs X tgs t ∧ ∀ F σ H vs, Con X Ex F Γ S σ H → RepL X.K (vw F S H) ds vs → ∀ q', GR X.K F S H q q' → t vs σ H q'
theorem zgs_nil {q : GQ} (h : q Γ S) : ZGs X Ex [] [] Γ S q := ⟨gNil, pgs_nil, fun F σ H vs c r q' k => by cases r; exact ⟨rfl, k _ _ _ _ .refl c.hc c.rg h⟩⟩
theorem zgs_name {i : Nat} {x : Str} {ts : List Expr} {ds : List Fz.D} {q : GQ} (h : ZGs X Ex ts ds (Γ.set i (some d)) S q) (nd : X.N.Nodup) (hi : X.N[i]? = some x := by rfl) (hx : Loc X.env.scope x := by first | exact .inl rfl | exact .inr rfl)
    (hf : X.fn x = true ∨ X.env.scope.names.lookup x = some .local := by first | exact .inl rfl | exact .inr rfl) (hs : (assignEach (.Name x pos :: ts) X.env).map (·.2) = assign (.Name x pos) X.env :: (assignEach ts X.env).map (·.2) := by rfl) : ZGs X Ex (.Name x pos :: ts) (d :: ds) Γ S q := by
  obtain ⟨t, ht, hk⟩ := h
  refine ⟨gCons (gName i) t, pgs_cons (pg_name nd hi hx hf) ht hs, fun F σ H vs c r q' k => ?_⟩
  cases r with
  | cons r rr => exact ⟨_, _, rfl, hk F _ H _ ⟨c.ok, c.hc, c.rg.set r, c.xr⟩ rr q' k⟩
theorem zg_tup {ts : List Expr} {kk} {ds : List Fz.D} {n : Nat} {q : GQ} (hd : d = .tup ds) (h : ZGs X Ex ts ds Γ S q) (hl : ds.length = n := by rfl) (hn : (assignEach ts X.env).length = n := by rfl) (hst : (assignEach ts X.env).findIdx? (·.1) = none := by rfl) : ZG X Ex (.Tuple ts kk pos) d Γ S q := fun F σ H v c r q' k => by
  obtain ⟨t, ht, hk⟩ := h
  subst hd
  refine selfG_of (pg_tup c.ok.calm ht hn hst) ?_
  cases r with
  | tup hq rr => exact ⟨_, _, rfl, st_H hq, by rw [← rr.length]; exact hl, hk F σ H _ c rr q' k⟩
end
end Fz
end

section
namespace Fz
open PySem PySem.Spec PyProof.Rows L2

/-! ### comprehensions -/
def wipeG (Γ : Gam) (vs : List Nat) : Gam := vs.foldr (fun v g => g.set v none) Γ
theorem RG.wipeG {K G Γ σ} (h : RG K G Γ σ) (vs : List Nat) : RG K G (wipeG Γ vs) (L2.wipe σ vs) := by
  obtain ⟨Γ', e, r⟩ := h.wipe vs
  unfold Fz.wipeG
  rw [← e]; exact r
theorem wipe_at {i : Nat} : ∀ {vs : List Nat} {σ : L2.St}, i ∈ vs → (wipe σ vs)[i]? = if i < σ.length then some none else none
  | v :: vs, σ, h => by
    unfold wipe
    by_cases e : v = i
    · subst e
      by_cases l : v < σ.length
      · rw [if_pos l, List.getElem?_set_self (by rw [wipe_length]; exact l)]
      · rw [if_neg l, List.getElem?_eq_none (by simp [wipe_length]; omega)]
    · rw [List.getElem?_set_ne e]
      rcases List.mem_cons.mp h with z | z
      · exact absurd z.symm e
      · exact wipe_at z
theorem ne_memN {l : List Nat} {a p : Nat} (h : a ∈ l) (n : p ∉ l) : a ≠ p := fun z => n (by rw [← z]; exact h)
theorem wipe_set {j : Nat} {vs : List Nat} {σ : L2.St} {x : Option V} (h : j ∈ vs) : wipe ((wipe σ vs).set j x) vs = wipe σ vs := by
  apply List.ext_getElem?
  intro i
  by_cases m : i ∈ vs
  · rw [wipe_at m, wipe_at m]; simp [wipe_length]
  · rw [wipe_out m, List.getElem?_set_ne (ne_memN h m)]
theorem wipe_wipe {vs : List Nat} {σ : L2.St} : wipe (wipe σ vs) vs = wipe σ vs := by
  apply List.ext_getElem?
  intro i
  by_cases m : i ∈ vs
  · rw [wipe_at m, wipe_at m]; simp [wipe_length]
  · rw [wipe_out m]
theorem wipe_set2 {i j : Nat} {vs : List Nat} {σ : L2.St} {x y : Option V} (h : i ∈ vs) (h2 : j ∈ vs) : wipe (((wipe σ vs).set i x).set j y) vs = wipe σ vs := by
  apply List.ext_getElem?
  intro k
  by_cases m : k ∈ vs
  · rw [wipe_at m, wipe_at m]; simp [wipe_length]
  · rw [wipe_out m, List.getElem?_set_ne (ne_memN h2 m), List.getElem?_set_ne (ne_memN h m)]

abbrev Bk (X : Cx) (scope : Scope) (s : Shared) (H : Hp) (C : Addr) (cl : List (Str × Addr)) (fp : List Addr) : Cx := X.blk s H scope (compEnvC scope cl C X.env) fp
/-- a comprehension's target: what of the frame it makes -/
structure CTg (X : Cx) (scope : Scope) (tg : Expr) (vs : List Nat) (rel : D → Gam → Gam → Prop) : Prop where
  ex : ∃ g : TG, (∀ s H C cl fp, PG (Bk X scope s H C cl fp) tg g) ∧ ∀ (σ : L2.St) (H : Hp) (v : V) (G : Hp) (Γ Γ2 : Gam) (d : D), Sub G H → RG X.K G Γ (wipe σ vs) → Rep X.K G d v → rel d Γ Γ2 → ∀ q : L2.St → Hp → Prop, (∀ σ2, RG X.K G Γ2 σ2 → wipe σ2 vs = wipe σ vs → q σ2 H) → g v (wipe σ vs) H q
abbrev relN (j : Nat) : D → Gam → Gam → Prop := fun d Γ Γ2 => Γ2 = Γ.set j (some d)
abbrev relP (i j : Nat) : D → Gam → Gam → Prop := fun d Γ Γ2 => ∃ a b, d = .tup [a, b] ∧ Γ2 = (Γ.set i (some a)).set j (some b)
theorem ct_name {X : Cx} {scope : Scope} {vs : List Nat} {j : Nat} {x : Str} {pos : Pos} (nd : X.N.Nodup) (hj : j ∈ vs := by simp) (hi : X.N[j]? = some x := by rfl)
    (hx : ∀ s H C cl fp, Loc (Bk X scope s H C cl fp).env.scope x := by intros; exact .inl rfl) (hf : ∀ s H C cl fp, (Bk X scope s H C cl fp).fn x = true ∨ (Bk X scope s H C cl fp).env.scope.names.lookup x = some .local := by intros; exact .inr rfl) : CTg X scope (.Name x pos) vs (relN j) :=
  ⟨gName j, fun s H C cl fp => pg_name nd hi (hx s H C cl fp) (hf s H C cl fp), fun σ H v G Γ Γ2 d _ rg r e q k => by subst e; exact k _ (rg.set r) (wipe_set hj)⟩
theorem ct_pair {X : Cx} {scope : Scope} {vs : List Nat} {i j : Nat} {x y : Str} {p1 p2 pos : Pos} {kk} (nd : X.N.Nodup) (hc : X.calm = true) (hi' : i ∈ vs := by simp) (hj : j ∈ vs := by simp) (hi : X.N[i]? = some x := by rfl) (hy : X.N[j]? = some y := by rfl)
    (hx : ∀ s H C cl fp, Loc (Bk X scope s H C cl fp).env.scope x := by intros; exact .inl rfl) (hx2 : ∀ s H C cl fp, Loc (Bk X scope s H C cl fp).env.scope y := by intros; exact .inl rfl)
    (hf : ∀ s H C cl fp, (Bk X scope s H C cl fp).fn x = true ∨ (Bk X scope s H C cl fp).env.scope.names.lookup x = some .local := by intros; exact .inr rfl)
    (hf2 : ∀ s H C cl fp, (Bk X scope s H C cl fp).fn y = true ∨ (Bk X scope s H C cl fp).env.scope.names.lookup y = some .local := by intros; exact .inr rfl)
    : CTg X scope (.Tuple [.Name x p1, .Name y p2] kk pos) vs (relP i j) :=
  ⟨gTup X.K 2 (gCons (gName i) (gCons (gName j) gNil)), fun s H C cl fp => pg_tup hc (pgs_cons (pg_name nd hi (hx s H C cl fp) (hf s H C cl fp)) (pgs_cons (pg_name nd hy (hx2 s H C cl fp) (hf2 s H C cl fp)) pgs_nil)),
    fun σ H v G Γ Γ2 d sb rg r ⟨a, b, e, e2⟩ q k => by
      subst e e2
      cases r with
      | tup hq rr =>
        cases rr with
        | cons r1 rr => cases rr with
          | cons r2 rr => cases rr; exact ⟨_, _, rfl, Sub.st sb hq, rfl, _, _, rfl, _, _, rfl, rfl, k _ ((rg.set r1).set r2) (wipe_set2 hi' hj)⟩⟩
def tSelfF (X : Cx) (ifs : List Expr) : TT := fun σ H Q => ∃ t : TT, PTs X ifs t ∧ t σ H Q
def ZF (X : Cx) (Ex : AX) (ifs : List Expr) (Γ : Gam) (S : Store) (Q : Bool → Store → Prop) : Prop := ∀ F σ H, Con X Ex F Γ S σ H → ∀ Q', QT X.K F S H Q Q' → tSelfF X ifs σ H Q'
theorem zf_nil {X Ex Γ S} {Q : Bool → Store → Prop} (h : Q true S) : ZF X Ex [] Γ S Q := fun F σ H c Q' k => ⟨tYes, pts_nil, k _ _ _ .refl c.hc h⟩
theorem zf_one {X Ex Γ S c} {Q : Bool → Store → Prop} (h : ZT X Ex c Γ S Q) : ZF X Ex [c] Γ S Q := fun F σ H co Q' k => ⟨tSelfT X c, pts_one pt_self, h F σ H co Q' k⟩
theorem XOk.blk {X : Cx} (h : XOk X) {scope s H C cl fp} : XOk (Bk X scope s H C cl fp) := ⟨h.nd, PassesOwn.never, h.calm, h.gd⟩
theorem pts_selfF {X ifs} : PTs X ifs (tSelfF X ifs) := ⟨fun pins s σ H Q I ⟨t, ht, q⟩ => ht.run pins s σ H Q I q⟩
/-- with one place more hidden -/
theorem hd_cons {l : List Addr} {H : Hp} {p a : Addr} (h : a ≠ p) : hd (p :: l) H a = hd l H a := by
  by_cases q : a ∈ l
  · rw [hd_in q, hd_in (List.mem_cons_of_mem _ q)]
  · rw [hd_out q, hd_out fun z => (List.mem_cons.mp z).elim h q]
/-- the list that a comprehension makes stands hidden at D -/
structure BI (K : PySem.W.Frag) (F : List Addr) (S1 : Store) (H1 : Hp) (D : Addr) (acc : List Fz.D) (S' : Store) (H' : Hp) : Prop where
  sb : Sub (vw F S1 H1) (vw (D :: F) S' H')
  fr : ∀ a ∈ F, H' a = H1 a
  hc : HC K (D :: F) S' H'
  at_ : ∃ vs, H' D = some (.lst vs) ∧ RepL K (vw (D :: F) S' H') acc vs
theorem BI.start {K F S1 H1 D} (hc1 : HC K F S1 H1) (hD : H1 D = none) : BI K F S1 H1 D [] S1 (upd H1 D (.lst [])) := by
  have nD := hc1.fresh hD
  obtain ⟨n1, n2, n3⟩ := hc1.new (o := .lst []) hD
  have ne : ∀ a o, vw F S1 H1 a = some o → a ≠ D := fun a o e z => by
    subst z
    have := hd_sub a o e
    rw [hD] at this; cases this
  have sb : Sub (vw F S1 H1) (vw (D :: F) S1 (upd H1 D (.lst []))) := fun a o e => by
    have : vw (D :: F) S1 (upd H1 D (.lst [])) a = vw F S1 (upd H1 D (.lst [])) a := hd_cons (ne a o e)
    rw [this]
    exact n2.ext a o e
  refine ⟨sb, fun a ha => upd_ne (ne_mem ha fun z => nD (List.mem_append_left _ z)), ⟨List.nodup_cons.mpr ⟨nD, hc1.nd⟩, fun a ha => ?_, fun p ce hp => ?_⟩, ⟨[], upd_same, .nil⟩⟩
  · rcases List.mem_cons.mp ha with z | z
    · rw [z, upd_same]; exact fun z => nomatch z
    · exact n1.fr a z
  · have np : p ≠ D := fun z => nD (by rw [← z]; exact List.mem_append_right _ (List.mem_map.mpr ⟨_, hp, rfl⟩))
    rw [upd_ne np]
    exact (hc1.at_ p ce hp).mono sb
theorem BI.step {K F S1 H1 D acc S' H' S2 H2} (b : BI K F S1 H1 D acc S' H') (t : Stp (D :: F) S' H' S2 H2) (h : HC K (D :: F) S2 H2) : BI K F S1 H1 D acc S2 H2 := by
  obtain ⟨vs, e, r⟩ := b.at_
  exact ⟨fun a o e => t.ext a o (b.sb a o e), fun a ha => (t.frm a (List.mem_cons_of_mem _ ha)).trans (b.fr a ha), h, vs, (t.frm D (List.mem_cons_self ..)).trans e, r.mono t.ext⟩
theorem BI.app {K F S1 H1 D acc S4 H4 y dy} (b : BI K F S1 H1 D acc S4 H4) (ry : Rep K (vw (D :: F) S4 H4) dy y) : ∃ vs, H4 D = some (.lst vs) ∧ vs.length = acc.length ∧ BI K F S1 H1 D (acc ++ [dy]) S4 (upd H4 D (.lst (vs ++ [y]))) := by
  obtain ⟨vs, e4, ra4⟩ := b.at_
  have hc4 := b.hc
  have n4 : D ∉ F ++ keys S4 := (List.nodup_cons.mp hc4.nd).1
  have eq : vw (D :: F) S4 (upd H4 D (.lst (vs ++ [y]))) = vw (D :: F) S4 H4 := funext fun a => by
    by_cases m : a ∈ (D :: F) ++ keys S4
    · rw [vw, hd_in m, vw, hd_in m]
    · rw [vw, hd_out m, vw, hd_out m, upd_ne fun z => m (by rw [z]; exact List.mem_cons_self ..)]
  refine ⟨vs, e4, ra4.length.symm, by rw [eq]; exact b.sb, fun a ha => ?_, ⟨hc4.nd, fun a ha => ?_, fun p ce hp => ?_⟩, vs ++ [y], upd_same, by rw [eq]; exact ra4.app (.cons ry .nil)⟩
  · rw [upd_ne (ne_mem ha fun z => n4 (List.mem_append_left _ z))]
    exact b.fr a ha
  · rcases List.mem_cons.mp ha with z | z
    · rw [z, upd_same]; exact fun z => nomatch z
    · rw [upd_ne (ne_mem z fun z => n4 (List.mem_append_left _ z))]; exact hc4.fr a ha
  · rw [eq, upd_ne (ne_mem (List.mem_append_right _ (List.mem_map.mpr ⟨_, hp, rfl⟩)) n4)]
    exact hc4.at_ p ce hp
theorem BI.done {K F S1 H1 D acc S' H'} (b : BI K F S1 H1 D acc S' H') : Stp F S1 H1 S' H' ∧ HC K F S' H' ∧ Rep K (vw F S' H') (.lst acc) (.ref D) := by
  obtain ⟨vs, e, r⟩ := b.at_
  have sub : Sub (vw (D :: F) S' H') (vw F S' H') := hd_less fun a ha => List.mem_cons_of_mem _ ha
  have n4 : D ∉ F ++ keys S' := (List.nodup_cons.mp b.hc.nd).1
  refine ⟨⟨fun a o e => sub a o (b.sb a o e), b.fr⟩, ⟨(List.nodup_cons.mp b.hc.nd).2, fun a ha => b.hc.fr a (List.mem_cons_of_mem _ ha), fun p ce hp => (b.hc.at_ p ce hp).mono sub⟩, .lst ?_ (r.mono sub)⟩
  rw [vw, hd_out n4]; exact e
section
variable {X : Cx} {Ex : AX} {Γ : Gam} {S : Store} {Q : DQ} {elt iter tg iter1 tg1 : Expr} {ifs ifs1 : List Expr} {pos : Pos} {scope : Scope} {own : List (Str × Nat)} {vs1 : List Nat} {rel rel1 : D → Gam → Gam → Prop} {DE : AEnds}
/-- what the element, the test are read to, wherever the block stands -/
abbrev teB (X : Cx) (scope : Scope) (elt : Expr) : TE := fun σ H Q => ∀ s H0 C cl fp, tSelf (Bk X scope s H0 C cl fp) elt σ H Q
abbrev ttB (X : Cx) (scope : Scope) (ifs : List Expr) : TT := fun σ H Q => ∀ s H0 C cl fp, tSelfF (Bk X scope s H0 C cl fp) ifs σ H Q
abbrev tiB (X : Cx) (scope : Scope) (tg iter : Expr) : TI := fun σ H Q => ∀ s H0 C cl fp, tSelfI (Bk X scope s H0 C cl fp) tg iter σ H Q
theorem teB_ok (s : Shared) (H0 : Hp) (C : Addr) (cl : List (Str × Addr)) (fp : List Addr) : PE (Bk X scope s H0 C cl fp) elt (teB X scope elt) := ⟨fun pins s1 σ H Q I q => pe_self.run pins s1 σ H Q I (q s H0 C cl fp)⟩
theorem ttB_ok (s : Shared) (H0 : Hp) (C : Addr) (cl : List (Str × Addr)) (fp : List Addr) : PTs (Bk X scope s H0 C cl fp) ifs (ttB X scope ifs) := ⟨fun pins s1 σ H Q I q => pts_selfF.run pins s1 σ H Q I (q s H0 C cl fp)⟩
theorem tiB_ok (s : Shared) (H0 : Hp) (C : Addr) (cl : List (Str × Addr)) (fp : List Addr) : PI (Bk X scope s H0 C cl fp) tg iter (tiB X scope tg iter) := ⟨fun pins s1 σ H Q I q => pi_self.run pins s1 σ H Q I (q s H0 C cl fp)⟩
/-- one clause: what a turn asks -/
def LcTurn (X : Cx) (scope : Scope) (ifs : List Expr) (elt : Expr) (Γ2 : Gam) (S' : Store) (yes : DQ) (no : Store → Prop) : Prop := ∀ s H C cl fp, ZF (Bk X scope s H C cl fp) AX0 ifs Γ2 S' fun t S3 => if t = true then ∀ s H C cl fp, ZE (Bk X scope s H C cl fp) AX0 elt Γ2 S3 yes else no S3
def LcAsk (X : Cx) (scope : Scope) (ifs : List Expr) (elt : Expr) (Γ : Gam) (vs : List Nat) (rel : D → Gam → Gam → Prop) (Q : DQ) : LQ := fun items S1 => ∃ I : Nat → List D → Store → Prop, I 0 [] S1 ∧
  (∀ (i : Nat) d acc S', items[i]? = some d → I i acc S' → ∃ Γ2, rel d (wipeG Γ vs) Γ2 ∧ LcTurn X scope ifs elt Γ2 S' (fun y S4 => acc.length < sizeLine ∧ I (i + 1) (acc ++ [y]) S4) (I (i + 1) acc)) ∧ ∀ acc S', I items.length acc S' → Q (.lst acc) S'
theorem lc_read (ct : CTg X scope tg (own.map (·.2)) rel) (h : ZI X Ex tg iter Γ S (LcAsk X scope ifs elt Γ (own.map (·.2)) rel Q)) : ∃ g : TG, (∀ s H C cl fp, PG (Bk X scope s H C cl fp) tg g) ∧
    ∀ F σ H, Con X Ex F Γ S σ H → ∀ Q', QR X.K F S H Q Q' → tLc (tSelfI X tg iter) g (ttB X scope ifs) (teB X scope elt) (own.map (·.2)) σ H Q' := by
  obtain ⟨g, hg, gk⟩ := ct.ex
  refine ⟨g, hg, fun F σ H c Q' k => ?_⟩
  refine h F σ H c _ fun J H1 S1 items t1 hc1 wk ⟨I, i0, turn, done⟩ D hD => ?_
  refine ⟨fun i m H' => ∃ acc S', m = items.length - i ∧ i ≤ items.length ∧ BI X.K F S1 H1 D acc S' H' ∧ I i acc S', ⟨_, [], S1, rfl, Nat.zero_le _, .start hc1 hD, i0⟩, ?_⟩
  rintro i m H' ⟨acc, S', rfl, hi, b, inv⟩
  by_cases hlt : i < items.length
  · refine .inr ⟨((wk (D :: F) S' H' b.sb b.hc i).1 items[i] (by simp [hlt])).1, fun H2 => ∃ acc S2, BI X.K F S1 H1 D acc S2 H2 ∧ I (i + 1) acc S2,
      fun H2 ⟨acc, S2, a1, a2⟩ => ⟨items.length - (i + 1), by omega, acc, S2, rfl, hlt, a1, a2⟩, fun x H2 hy => ?_⟩
    obtain ⟨t2, hc2, rx⟩ := ((wk (D :: F) S' H' b.sb b.hc i).1 items[i] (by simp [hlt])).2 x H2 hy
    obtain ⟨Γ2, hrel, body⟩ := turn i items[i] acc S' (by simp [hlt]) inv
    have b2 := b.step t2 hc2
    refine gk σ H2 x _ _ Γ2 _ hd_sub (((c.rg.mono t1.ext).mono b2.sb).wipeG _) rx hrel _ fun σ2 rg2 hw => ⟨hw, fun s H0 C cl fp => ?_⟩
    refine body s H0 C cl fp (D :: F) σ2 H2 ⟨c.ok.blk, hc2, rg2, .none⟩ _ fun t H3 S3 t3 hc3 q3 => ?_
    cases t with
    | false => exact ⟨acc, S3, b2.step t3 hc3, q3⟩
    | true =>
      intro s4 H04 C4 cl4 fp4
      refine q3 s4 H04 C4 cl4 fp4 (D :: F) σ2 H3 ⟨c.ok.blk, hc3, rg2.mono t3.ext, .none⟩ _ fun y H4 dy S4 t4 hc4 ry ⟨hz, q4⟩ => ?_
      obtain ⟨vs, e, l, b4⟩ := ((b2.step t3 hc3).step t4 hc4).app ry
      exact ⟨vs, e, by rw [l]; exact hz, acc ++ [dy], S4, b4, q4⟩
  · have e : i = items.length := by omega
    subst e
    obtain ⟨d1, d2, d3⟩ := b.done
    exact .inl ⟨(wk (D :: F) S' H' b.sb b.hc _).2 (Nat.le_refl _), k (.ref D) H' (.lst acc) S' (t1.trans d1) d2 d3 (done _ _ inv)⟩
theorem ze_lc (ok : BlkOk X.N X.env.scope scope own) (ct : CTg X scope tg (own.map (·.2)) rel) (h : ZI X Ex tg iter Γ S (LcAsk X scope ifs elt Γ (own.map (·.2)) rel Q))
    (hs : ∀ x, foldedSetIterable iter X.env x = pure x := by intro _; rfl) : ZE X Ex (.ListComp elt [⟨tg, iter, ifs, 0⟩] scope pos) Γ S Q := fun F σ H c Q' k => by
  obtain ⟨g, hg, r⟩ := lc_read ct h
  exact self_of (pe_lc c.ok.calm c.ok.nd pi_self ok hg ttB_ok teB_ok hs) (r F σ H c Q' k)
/-- name = [..] -/
theorem z1_setLc {i : Nat} {y : Str} {py spos : Pos} (ok : BlkOk X.N X.env.scope scope own) (ct : CTg X scope tg (own.map (·.2)) rel)
    (h : ZI X Ex tg iter Γ S (LcAsk X scope ifs elt Γ (own.map (·.2)) rel fun d S' => DE.nx (Γ.set i (some d)) S'))
    (hsw : swapsWith (.ListComp elt [⟨tg, iter, ifs, 0⟩] scope pos) (some (.Name y py)) spos.line X.env = pure true := by exact sw_true rfl rfl rfl (by decide +kernel)) (hi : X.N[i]? = some y := by rfl) (hyl : X.env.scope.names.lookup y = some .local := by rfl)
    (hs : ∀ x, foldedSetIterable iter X.env x = pure x := by intro _; rfl) : Z1 X Ex (.Assign [.Name y py] (.ListComp elt [⟨tg, iter, ifs, 0⟩] scope pos) spos) Γ S DE := fun F σ H c D' k => by
  obtain ⟨g, hg, r⟩ := lc_read ct h
  exact self1_of (ps_setLc c.ok.calm c.ok.nd hi hyl hsw pi_self ok hg ttB_ok teB_ok hs) (r F σ H c _ fun v H' d S' t hc rr q => k.nx _ _ _ _ t hc ((c.rg.mono t.ext).set rr) q)
/-- two clauses -/
def Lc2Ask (X : Cx) (scope : Scope) (ifs ifs1 : List Expr) (tg1 iter1 elt : Expr) (Γ : Gam) (vs vs1 : List Nat) (rel rel1 : D → Gam → Gam → Prop) (Q : DQ) : LQ := fun items S1 => ∃ I : Nat → List D → Store → Prop, I 0 [] S1 ∧
  (∀ (i : Nat) d acc S', items[i]? = some d → I i acc S' → ∃ Γ2, rel d (wipeG Γ vs) Γ2 ∧ ∀ s H C cl fp, ZF (Bk X scope s H C cl fp) AX0 ifs Γ2 S' fun t S3 => if t = true then
    ∀ s H C cl fp, ZI (Bk X scope s H C cl fp) AX0 tg1 iter1 Γ2 S3 fun items1 S4 => ∃ I1 : Nat → List D → Store → Prop, I1 0 acc S4 ∧
      (∀ (j : Nat) d1 acc1 S5, items1[j]? = some d1 → I1 j acc1 S5 → ∃ Γ3, rel1 d1 (wipeG Γ2 vs1) Γ3 ∧ LcTurn X scope ifs1 elt Γ3 S5 (fun y S6 => acc1.length < sizeLine ∧ I1 (j + 1) (acc1 ++ [y]) S6) (I1 (j + 1) acc1)) ∧ ∀ acc1 S5, I1 items1.length acc1 S5 → I (i + 1) acc1 S5
    else I (i + 1) acc S3) ∧ ∀ acc S', I items.length acc S' → Q (.lst acc) S'
theorem lc2_read (ct : CTg X scope tg (own.map (·.2)) rel) (ct1 : CTg X scope tg1 vs1 rel1) (h : ZI X Ex tg iter Γ S (Lc2Ask X scope ifs ifs1 tg1 iter1 elt Γ (own.map (·.2)) vs1 rel rel1 Q)) : ∃ g g1 : TG, (∀ s H C cl fp, PG (Bk X scope s H C cl fp) tg g) ∧ (∀ s H C cl fp, PG (Bk X scope s H C cl fp) tg1 g1) ∧
    ∀ F σ H, Con X Ex F Γ S σ H → ∀ Q', QR X.K F S H Q Q' → tLc2 (tSelfI X tg iter) g (ttB X scope ifs) (tiB X scope tg1 iter1) g1 (ttB X scope ifs1) (teB X scope elt) (own.map (·.2)) vs1 σ H Q' := by
  obtain ⟨g, hg, gk⟩ := ct.ex
  obtain ⟨g1, hg1, gk1⟩ := ct1.ex
  refine ⟨g, g1, hg, hg1, fun F σ H c Q' k => ?_⟩
  refine h F σ H c _ fun J H1 S1 items t1 hc1 wk ⟨I, i0, turn, done⟩ D hD => ?_
  refine ⟨fun i m H' => ∃ acc S', m = items.length - i ∧ i ≤ items.length ∧ BI X.K F S1 H1 D acc S' H' ∧ I i acc S', ⟨_, [], S1, rfl, Nat.zero_le _, .start hc1 hD, i0⟩, ?_⟩
  rintro i m H' ⟨acc, S', rfl, hi, b, inv⟩
  by_cases hlt : i < items.length
  · refine .inr ⟨((wk (D :: F) S' H' b.sb b.hc i).1 items[i] (by simp [hlt])).1, fun H2 => ∃ acc S2, BI X.K F S1 H1 D acc S2 H2 ∧ I (i + 1) acc S2,
      fun H2 ⟨acc, S2, a1, a2⟩ => ⟨items.length - (i + 1), by omega, acc, S2, rfl, hlt, a1, a2⟩, fun x H2 hy => ?_⟩
    obtain ⟨t2, hc2, rx⟩ := ((wk (D :: F) S' H' b.sb b.hc i).1 items[i] (by simp [hlt])).2 x H2 hy
    obtain ⟨Γ2, hrel, body⟩ := turn i items[i] acc S' (by simp [hlt]) inv
    have b2 := b.step t2 hc2
    refine gk σ H2 x _ _ Γ2 _ hd_sub (((c.rg.mono t1.ext).mono b2.sb).wipeG _) rx hrel _ fun σ2 rg2 hw => ⟨hw, fun s H0 C cl fp => ?_⟩
    refine body s H0 C cl fp (D :: F) σ2 H2 ⟨c.ok.blk, hc2, rg2, .none⟩ _ fun t H3 S3 t3 hc3 q3 => ?_
    cases t with
    | false => exact ⟨acc, S3, b2.step t3 hc3, q3⟩
    | true =>
      intro s4 H04 C4 cl4 fp4
      have b3 := b2.step t3 hc3
      refine q3 s4 H04 C4 cl4 fp4 (D :: F) σ2 H3 ⟨c.ok.blk, hc3, rg2.mono t3.ext, .none⟩ _ fun J1 H4 S4 items1 t4 hc4 wk1 ⟨I1, i10, turn1, done1⟩ => ?_
      have b4 := b3.step t4 hc4
      refine ⟨fun j m H' => ∃ acc S', m = items1.length - j ∧ j ≤ items1.length ∧ BI X.K F S1 H1 D acc S' H' ∧ Sub (vw (D :: F) S4 H4) (vw (D :: F) S' H') ∧ I1 j acc S', ⟨_, acc, S4, rfl, Nat.zero_le _, b4, fun _ _ z => z, i10⟩, ?_⟩
      rintro j m H5 ⟨acc5, S5, rfl, hj, b5, sb5, inv1⟩
      by_cases hlt1 : j < items1.length
      · refine .inr ⟨((wk1 (D :: F) S5 H5 sb5 b5.hc j).1 items1[j] (by simp [hlt1])).1, fun H2 => ∃ acc S2, BI X.K F S1 H1 D acc S2 H2 ∧ Sub (vw (D :: F) S4 H4) (vw (D :: F) S2 H2) ∧ I1 (j + 1) acc S2,
          fun H2 ⟨acc, S2, a1, a2, a3⟩ => ⟨items1.length - (j + 1), by omega, acc, S2, rfl, hlt1, a1, a2, a3⟩, fun x1 H6 hy1 => ?_⟩
        obtain ⟨t6, hc6, rx6⟩ := ((wk1 (D :: F) S5 H5 sb5 b5.hc j).1 items1[j] (by simp [hlt1])).2 x1 H6 hy1
        obtain ⟨Γ3, hrel1, body1⟩ := turn1 j items1[j] acc5 S5 (by simp [hlt1]) inv1
        have b6 := b5.step t6 hc6
        have sb6 : Sub (vw (D :: F) S4 H4) (vw (D :: F) S5 H6) := fun a o e => t6.ext a o (sb5 a o e)
        refine gk1 σ2 H6 x1 _ _ Γ3 _ hd_sub (((rg2.mono t3.ext).mono fun a o e => sb6 a o (t4.ext a o e)).wipeG _) rx6 hrel1 _ fun σ3 rg3 hw3 => ⟨hw3, fun s H0 C cl fp => ?_⟩
        refine body1 s H0 C cl fp (D :: F) σ3 H6 ⟨c.ok.blk, hc6, rg3, .none⟩ _ fun t H7 S7 t7 hc7 q7 => ?_
        cases t with
        | false => exact ⟨acc5, S7, b6.step t7 hc7, fun a o e => t7.ext a o (sb6 a o e), q7⟩
        | true =>
          intro s8 H08 C8 cl8 fp8
          refine q7 s8 H08 C8 cl8 fp8 (D :: F) σ3 H7 ⟨c.ok.blk, hc7, rg3.mono t7.ext, .none⟩ _ fun y H9 dy S9 t9 hc9 ry ⟨hz, q9⟩ => ?_
          have b9 := (b6.step t7 hc7).step t9 hc9
          obtain ⟨vs, e, l, b10⟩ := b9.app ry
          refine ⟨vs, e, by rw [l]; exact hz, acc5 ++ [dy], S9, b10, fun a o ee => ?_, q9⟩
          have z := t9.ext a o (t7.ext a o (sb6 a o ee))
          have na : a ≠ D := fun q => by subst q; rw [vw, hd_in (List.mem_append_left _ (List.mem_cons_self ..))] at z; cases z
          by_cases m : a ∈ (D :: F) ++ keys S9
          · rw [vw, hd_in m] at z; cases z
          · rw [vw, hd_out m] at z ⊢; rw [upd_ne na]; exact z
      · have e : j = items1.length := by omega
        subst e
        exact .inl ⟨(wk1 (D :: F) S5 H5 sb5 b5.hc _).2 (Nat.le_refl _), acc5, S5, b5, done1 _ _ inv1⟩
  · have e : i = items.length := by omega
    subst e
    obtain ⟨d1, d2, d3⟩ := b.done
    exact .inl ⟨(wk (D :: F) S' H' b.sb b.hc _).2 (Nat.le_refl _), k (.ref D) H' (.lst acc) S' (t1.trans d1) d2 d3 (done _ _ inv)⟩
theorem ze_lc2 (ok : BlkOk X.N X.env.scope scope own) (hv : ∀ i ∈ vs1, i ∈ own.map (·.2)) (ct : CTg X scope tg (own.map (·.2)) rel) (ct1 : CTg X scope tg1 vs1 rel1) (h : ZI X Ex tg iter Γ S (Lc2Ask X scope ifs ifs1 tg1 iter1 elt Γ (own.map (·.2)) vs1 rel rel1 Q))
    (hs : ∀ x, foldedSetIterable iter X.env x = pure x := by intro _; rfl) (hs1 : ∀ env x, foldedSetIterable iter1 env x = pure x := by intro _ _; rfl) : ZE X Ex (.ListComp elt [⟨tg, iter, ifs, 0⟩, ⟨tg1, iter1, ifs1, 0⟩] scope pos) Γ S Q := fun F σ H c Q' k => by
  obtain ⟨g, g1, hg, hg1, r⟩ := lc2_read ct ct1 h
  exact self_of (pe_lc2 c.ok.calm c.ok.nd pi_self ok hv hg ttB_ok tiB_ok hg1 ttB_ok teB_ok hs hs1) (r F σ H c Q' k)
end
end Fz
end

section
namespace Fz
open PySem PySem.Spec PyProof.Rows L2

/-! ### promises over data -/
abbrev ASp := List D → Store → DQ → AX → Prop
/-- a promise over data, as the hand layer wants it -/
def conc (K : PySem.W.Frag) (asp : ASp) : Sp := fun vs H Q E => ∃ F S ds aQ aE, HC K F S H ∧ RepL K (vw F S H) ds vs ∧ asp ds S aQ aE ∧ QR K F S H aQ Q ∧
  ∀ S' H' c d fl, Stp F S H S' H' → HC K F S' H' → XcAt K F S' H' d fl → aE c fl S' → E (.ref (He.ga K c)) d H'
/-- as FnOk, where no repr runs around -/
structure FnG (P : Program) (w : World) (K : PySem.W.Frag) (mg : Str → Option Value) (base : Heap) (k : Nat) (f : Addr) (fd : FuncData) (ps : List Str) (sp : Sp) : Prop where
  len : ∀ vs H Q E, sp vs H Q E → vs.length = ps.length
  run : ∀ (A : Around) (outer : List Env) (s : Shared) (H : Hp) (args : Args) (us : List Value) (vs : List V) (Q : VK) (E : XK), A.guards = some [] → Room k A → Env0 P w K mg base A outer s H → BindsTo s fd args (ps.zip us) → Vals vs us → sp vs H Q E →
    codeAny (model P w) A (.call (.ref f) args) (CR (L2.CX P w) outer P w H s Q E) s
theorem XOk.def_ {P : Program} {w : World} {K : PySem.W.Frag} {mg : Str → Option Value} {base : Heap} {N : List Str} {qual : Str} {scope : Scope} {f : Addr} {cd : Value} {A : Around} {outer : List Env} {s : Shared} {H : Hp} {E : XK}
    (nd : N.Nodup) (gd : A.guards = some []) : XOk (cxOf (L2.CX P w) P w K mg base N qual scope f cd A outer s H E) := ⟨nd, passes_of rfl, rfl, gd⟩
def startG (N : List Str) (ds : List D) : Gam := ds.map some ++ List.replicate (N.length - ds.length) none
theorem rg_start {K G} {N : List Str} : ∀ {ds vs}, RepL K G ds vs → ds.length ≤ N.length → RG K G (startG N ds) (L2.start N vs) := fun {ds vs} r hl => by
  have e := r.length
  refine ⟨by simp [startG, L2.start, e], fun i d h => ?_⟩
  unfold startG at h
  by_cases l : i < ds.length
  · rw [List.getElem?_append_left (by simpa using l), List.getElem?_map] at h
    cases q : ds[i]? with
    | none => rw [q] at h; cases h
    | some d' =>
      rw [q] at h
      obtain rfl : d' = d := by simpa using h
      obtain ⟨v, h1, h2⟩ := r.get q
      refine ⟨v, ?_, h2⟩
      unfold L2.start
      rw [List.getElem?_append_left (by simpa [← e] using l), List.getElem?_map, h1]; rfl
  · rw [List.getElem?_append_right (by simpa using l)] at h
    have z := List.mem_of_getElem? h
    simp [List.mem_replicate] at z
/-- THE RULE for a def: its body, read over data -/
theorem fn_g {P : Program} {w : World} {K : PySem.W.Frag} {mg : Str → Option Value} {base : Heap} {k : Nat} {f : Addr} {x qual : Str} {params : Arguments} {body : List Stmt} {scope : Scope} {dvs : List V} {kws : List (Str × V)} {fd : FuncData} {N ps : List Str} {asp : ASp}
    (Fd : FunD K x qual params body scope dvs kws f fd) (Sc : FnScope N ps scope) (len : ∀ ds S Q E, asp ds S Q E → ds.length = ps.length)
    (hb : ∀ (cdv : Value) (A : Around) (outer : List Env) (s : Shared) (H : Hp) (E : XK) (ds : List D) (S : Store) (aQ : DQ) (aE : AX), Room k (A.deeper (envOfC qual scope s.heap.objs.size f cdv)) → A.guards = some [] → asp ds S aQ aE →
      ZS (cxOf (L2.CX P w) P w K mg base N qual scope f cdv A outer s H E) aE body (startG N ds) S { nx := fun _ S' => aQ .non S', rt := aQ }) : FnG P w K mg base (k + 1) f fd ps (conc K asp) := by
  obtain ⟨oc, od, dV, kV, doc, pm, an, cdv, ct, osl, efd, lk, hcd, _, _⟩ := Fd.ex
  subst efd
  have hlen : ∀ vs H Q E, conc K asp vs H Q E → vs.length = ps.length := fun vs H Q E ⟨F, S, ds, aQ, aE, _, r, ha, _⟩ => by rw [← r.length]; exact len _ _ _ _ ha
  refine ⟨hlen, fun A outer s H args us vs Q E gd hr e0 bind r hsp => ?_⟩
  have hl := hlen _ _ _ _ hsp
  have inH : ∀ b o, base.get? b = some o → s.heap.get? b = some o := fun b o e => (e0.bs b o e).1
  have KX : K.In s.heap := e0.mod.kin.keeps inH
  have slots : ∀ y ∈ ps.zip us, scope.names.lookup y.1 = some .local ∨ (scope.names.lookup y.1 = some .cell ∧ ((cellsFrom (s.heap.objs.size + 1) scope.names []).lookup y.1).isSome = true) := by
    intro y hy
    have hm : y.1 ∈ ps := (List.of_mem_zip (show (y.1, y.2) ∈ ps.zip us from hy)).1
    exact (Sc.par _ hm).imp id fun q => ⟨q, PySem.W.cellsFrom_some _ _ _ (.inl q)⟩
  refine codeAny_call_function hr.depth (KX _ _ lk) rfl Sc.co Sc.gen rfl (PySem.W.codeRec_of KX hcd) (bind _ _ _ _ (wpAny_newFunctionEnv_cells Sc.kind slots fun env he s1 ic => ?_))
  subst he
  refine ⟨(e0.mod.nolimit.keeps inH).keeps ic.toInCall.keep, codeAny_func ?_⟩
  obtain ⟨F, S, ds, aQ, aE, hc, rd, ha, hq, hx⟩ := hsp
  have body_ok := hb cdv A outer s H E ds S aQ aE (hr.deeper _) gd ha
  have hdl : ds.length ≤ N.length := by
    have e1 := congrArg List.length Sc.pre
    rw [List.length_take] at e1
    have e2 := rd.length
    omega
  have I0 := inv_start (CX := L2.CX P w) (E := E) (cd := cdv) (qual := qual) (f := f) Sc hr.hd e0 hl r ic
  have con : Con (cxOf (L2.CX P w) P w K mg base N qual scope f cdv A outer s H E) aE F (startG N ds) S (L2.start N vs) H :=
    ⟨.def_ Sc.nd gd, hc, rg_start rd hdl, ⟨E, takes_of rfl rfl rfl rfl, fun S' H' c d fl t h1 h2 h3 => hx S' H' c d fl t h1 h2 h3⟩⟩
  have done := body_ok F (L2.start N vs) H con { nx := fun _ H' => Q .non H', rt := Q } ⟨fun σ' H' Γ' S' t hc' _ q => hq _ _ _ _ t hc' .non q, hq, fun _ _ _ _ _ _ _ z => z, fun _ _ _ _ _ _ _ z => z⟩ [] s1 I0
  exact wpAny_mono done (fun fl s' hs => match fl, hs with
    | .ret u, ⟨v, σ', H', J, rv, q⟩ => ⟨v, H', J.os, J.bare, J.base, J.hok, rv, q⟩
    | .next, ⟨σ', H', J, q⟩ => ⟨V.non, H', J.os, J.bare, J.base, J.hok, rfl, q⟩
    | .brk, ⟨_, _, _, q⟩ => q.elim
    | .cont, ⟨_, _, _, q⟩ => q.elim) fun _ _ z => z

/-! ### calls -/
/-- the value u may be called with n values and the keywords ks, and keeps asp -/
def CanCall (P : Program) (w : World) (K : PySem.W.Frag) (mg : Str → Option Value) (base : Heap) (k : Nat) (u : Value) (n : Nat) (ks : List Str) (asp : List D → List D → Store → DQ → AX → Prop) : Prop :=
  ∀ X : Cx, X.prog = P → X.w = w → X.K = K → X.mg = mg → X.base = base → ∀ A' : Around, A'.frames = X.A.frames → Room k A' → A'.guards = some [] → ∀ (F : List Addr) (S : Store) (Ex : AX) (pins : List (Addr × Obj)) (σ : L2.St) (H : Hp) (s : Shared) (us ws : List Value) (vs zs : List V) (ds es : List D) (Q : DQ) (Q' : VK),
    Inv X pins σ H s → HC K F S H → XR X Ex F S H → Vals vs us → Vals zs ws → RepL K (vw F S H) ds vs → RepL K (vw F S H) es zs → ds.length = n → es.length = ks.length → asp ds es S Q Ex → QR K F S H Q Q' →
    wpAny (model X.prog X.w) A' (call u us (ks.zip ws)) (EP X pins σ Q') X.xe s
/-- the global name x stands for such a value -/
structure AC (P : Program) (w : World) (K : PySem.W.Frag) (mg : Str → Option Value) (base : Heap) (k : Nat) (x : Str) (n : Nat) (ks : List Str) (asp : List D → List D → Store → DQ → AX → Prop) : Prop where
  ex : ∃ u, mg x = some u ∧ PySem.W.keepIn K u = true ∧ CanCall P w K mg base k u n ks asp
/-- the method m of the class c -/
structure AM (P : Program) (w : World) (K : PySem.W.Frag) (mg : Str → Option Value) (base : Heap) (k : Nat) (c m : Str) (n : Nat) (ks : List Str) (asp : List D → List D → Store → DQ → AX → Prop) : Prop where
  ex : ∃ f, Cls K (He.ga K c) ∧ Meth K (He.ga K c) m f ∧ CanCall P w K mg base k (.ref f) (n + 1) ks asp
/-- how n values and the keywords ks come to the parameters -/
structure Bd (K : PySem.W.Frag) (fd : FuncData) (ps : List Str) (n : Nat) (ks : List Str) (gD : List D → List D → List D) : Prop where
  ex : ∃ (g : List Value → List Value → List Value) (gV : List V → List V → List V), (∀ (s : Shared) us ws, K.In s.heap → us.length = n → ws.length = ks.length → BindsTo s fd ⟨us, ks.zip ws⟩ (ps.zip (g us ws))) ∧
    (∀ {vs us zs ws}, Vals vs us → Vals zs ws → vs.length = n → zs.length = ks.length → Vals (gV vs zs) (g us ws)) ∧ ∀ {G ds vs es zs}, RepL K G ds vs → RepL K G es zs → ds.length = n → es.length = ks.length → RepL K G (gD ds es) (gV vs zs)
theorem bd_of {K fd ps n} (h : Binds K fd ps []) (hn : n = ps.length) : Bd K fd ps n [] (fun ds _ => ds) :=
  ⟨fun us _ => us, fun vs _ => vs, fun s us ws k l1 l2 => by
      have := h s us k (by simp [l1, hn])
      simpa using this, fun r _ _ _ => r, fun r _ _ _ => r⟩
section
variable {P : Program} {w : World} {K : PySem.W.Frag} {mg : Str → Option Value} {base : Heap} {k : Nat} {f : Addr} {fd : FuncData} {ps ks : List Str} {n : Nat} {asp : ASp} {gD : List D → List D → List D}
theorem env_at {X : Cx} {A' : Around} {pins : List (Addr × Obj)} {σ : L2.St} {H : Hp} {s : Shared} (I : Inv X pins σ H s) (fr : A'.frames = X.A.frames) : Env0 X.prog X.w X.K X.mg X.base A' X.stack s H := by
  have e := I.env0
  exact ⟨by rw [fr]; exact e.frames, e.mod, e.bs, e.bsz, e.funs, e.frf, e.hok, e.bare⟩
theorem can_fn (F : FnG P w K mg base k f fd ps (conc K asp)) (b : Bd K fd ps n ks gD) : CanCall P w K mg base k (.ref f) n ks (fun ds es => asp (gD ds es)) := by
  rintro X rfl rfl rfl rfl rfl A' fr hr gd F' S Ex pins σ H s us ws vs zs ds es Q Q' I hc xr r rz rd re l1 l2 ha hq
  obtain ⟨g, gV, b1, b2, b3⟩ := b.ex
  have m1 : vs.length = n := rd.length.symm.trans l1
  have m2 : zs.length = ks.length := re.length.symm.trans l2
  obtain ⟨E, tk, hE⟩ := xr.ex
  refine wpAny_call (codeAny_mono (F.run A' X.stack s H ⟨us, ks.zip ws⟩ (g us ws) (gV vs zs) Q' E gd hr (env_at I fr) (b1 s us ws I.kIn (r.length.symm.trans m1) (rz.length.symm.trans m2)) (b2 r rz m1 m2) ⟨F', S, gD ds es, Q, Ex, hc, b3 rd re l1 l2, ha, hq, fun S' H' c d fl t h1 h2 h3 => hE S' H' c d fl t h1 h2 h3⟩) ?_)
  intro res s' hres
  match res, hres with
  | .error e, hres => exact passes_call tk (fun _ _ _ _ h => h) pins σ H s e s' I hres
  | .ok (.ret u), hres => exact I.after hres
  | .ok .next, hres => exact hres.elim
  | .ok .brk, hres => exact hres.elim
  | .ok .cont, hres => exact hres.elim
/-- a class: a new instance, then its __init__ -/
theorem can_make {c : Str} {C : Addr} {sp : List D → List D → Store → DQ → AX → Prop} (M : Mk K C f) (ec : C = He.ga K c) (F : FnG P w K mg base k f fd ps (conc K asp)) (b : Bd K fd ps (n + 1) ks gD)
    (hsp : ∀ ds es S Q Ex, ds.length = n → es.length = ks.length → sp ds es S Q Ex → ∀ p, asp (gD (.ref p :: ds) es) (S ++ [(p, .ins c [])]) (fun d S2 => d = .non ∧ ((Q (.ref p) S2) ∨ ∃ fs S3, S2 = S3 ++ [(p, .ins c fs)] ∧ Q (.obj p c fs) S3)) Ex) :
    CanCall P w K mg base (k + 1) (.ref C) n ks sp := by
  rintro X rfl rfl rfl rfl rfl A' fr hr gd F' S Ex pins σ H s us ws vs zs ds es Q Q' I hc xr r rz rd re l1 l2 ha hq
  obtain ⟨g, gV, b1, b2, b3⟩ := b.ex
  obtain ⟨E, tk, hE⟩ := xr.ex
  obtain ⟨dx, hdx⟩ : ∃ d, d = s.heap.objs.size := ⟨_, rfl⟩
  obtain ⟨p, hp⟩ : ∃ d, d = dx + 1 := ⟨_, rfl⟩
  have nx : H p = none := I.hok.fresh (by rw [hp, hdx]; exact Nat.le_succ _)
  have nd : H dx = none := I.hok.fresh (by rw [hdx]; exact Nat.le_refl _)
  have ne : p ≠ dx := by rw [hp]; exact Nat.succ_ne_self _
  obtain ⟨c1, t1, _⟩ := hc.new (o := .own p) nd
  have np : upd H dx (.own p) p = none := by rw [upd_ne ne]; exact nx
  obtain ⟨c2, t2⟩ := c1.cell (c := .ins c []) (o := .ins C dx []) np ⟨dx, [], by rw [ec], .nil⟩
  have t := t1.trans t2
  have I2 := Inv.made (C := C) I
  have r1 : Vals (V.ref p :: vs) (Value.ref p :: us) := .cons rfl r
  have rd1 : RepL X.K (vw F' (S ++ [(p, Cell.ins c [])]) (upd (upd H dx (.own p)) p (.ins C dx []))) (.ref p :: ds) (V.ref p :: vs) := .cons .ref (rd.mono t.ext)
  have m1 : (V.ref p :: vs).length = n + 1 := congrArg Nat.succ (rd.length.symm.trans l1)
  have m2 : zs.length = ks.length := re.length.symm.trans l2
  have hA : (A'.under (.builtin "type.__call__" ⟨.ref C :: us, ks.zip ws⟩)).guards = some [] := by
    simp [Around.under, Code.guards, Code.isGuard, pushGuards, gd, guardIds]
  subst hp
  subst hdx
  refine wpAny_call (make_map (f := f) I.kIn M.makes M.init (beq_iff_eq.mp M.fn) (codeAny_mono (F.run (A'.under (.builtin "type.__call__" ⟨.ref C :: us, ks.zip ws⟩)) X.stack _ (upd (upd H s.heap.objs.size (HO.own (s.heap.objs.size + 1))) (s.heap.objs.size + 1) (.ins C s.heap.objs.size [])) ⟨Value.ref (s.heap.objs.size + 1) :: us, ks.zip ws⟩ (g (Value.ref (s.heap.objs.size + 1) :: us) ws) (gV (V.ref (s.heap.objs.size + 1) :: vs) zs)
    (fun v H2 => v = .non ∧ Q' (.ref (s.heap.objs.size + 1)) H2) E hA (hr.make C us (ks.zip ws)) ((env_at I2 fr).make C us (ks.zip ws)) (b1 _ _ _ I2.kIn (r1.length.symm.trans m1) (rz.length.symm.trans m2)) (b2 r1 rz m1 m2)
    ⟨F', S ++ [(s.heap.objs.size + 1, .ins c [])], gD (.ref (s.heap.objs.size + 1) :: ds) es, _, Ex, c2, b3 rd1 (re.mono t.ext) (congrArg Nat.succ l1) l2, hsp ds es S Q Ex l1 l2 ha _, ?_, fun S' H' c d fl u h1 h2 h3 => hE S' H' c d fl (t.trans u) h1 h2 h3⟩) ?_))
  · rintro v H' d S' u hc' rv ⟨ed, q⟩
    subst ed
    cases rv
    refine ⟨rfl, ?_⟩
    rcases q with q | ⟨fs, S3, e3, q⟩
    · exact hq _ _ _ _ (t.trans u) hc' .ref q
    · subst e3
      obtain ⟨f1, f2, f3⟩ := hc'.freeze
      obtain ⟨dx', vs', e4, r4⟩ := hc'.at_ _ (.ins c fs) (List.mem_append_right _ (List.mem_singleton.mpr rfl))
      exact hq _ _ _ _ ((t.trans u).trans f2) f1 (.obj (by rw [f3]; exact e4) (r4.mono f2.ext)) q
  · intro res s' hres
    match res, hres with
    | .error e, hres => exact passes_call tk (fun _ _ _ _ h => h) pins σ _ _ e s' I2 hres
    | .ok (.ret u), hres =>
      obtain ⟨v, H', I3, rv, ev, q3⟩ := I2.after hres
      subst ev
      exact ⟨rv, ⟨V.ref (s.heap.objs.size + 1), H', I3, rfl, q3⟩⟩
    | .ok .next, hres => exact hres.elim
    | .ok .brk, hres => exact hres.elim
    | .ok .cont, hres => exact hres.elim
end
end Fz
end

section
namespace Fz
open PySem PySem.Spec PyProof.Rows L2

/-! ### the forms of a call -/
def tSelfK (X : Cx) (kws : List Keyword) : TA := fun σ H Q => ∀ pos pins s, Inv X pins σ H s → wpAny (model X.prog X.w) X.A (evalAll ((backToKw pos (keywordEach kws X.env)).map (·.2))) (AP X pins σ Q) X.xe s
theorem pk_self {X kws} : PK X kws (tSelfK X kws) := ⟨fun pos pins s σ H Q I h => h pos pins s I⟩
def ZK (X : Cx) (Ex : AX) (kws : List Keyword) (Γ : Gam) (S : Store) (Q : LQ) : Prop := ∀ F σ H, Con X Ex F Γ S σ H → ∀ Q', QL X.K F S H Q Q' → tSelfK X kws σ H Q'
section
variable {X : Cx} {Ex : AX} {Γ : Gam} {S : Store} {Q : DQ} {a b o e value : Expr} {es : List Expr} {pos p apos pos' : Pos} {kws : List Keyword} {d : D} {x f m c : Str} {n k j : Nat} {ks : List Str} {DE : AEnds} {asp : List D → List D → Store → DQ → AX → Prop}
theorem zk_nil {Q : LQ} (q : Q [] S) : ZK X Ex [] Γ S Q := fun F σ H c Q' k pos pins s I => (pk_nil (X := X)).run pos pins s σ H Q' I (k _ _ _ _ .refl c.hc .nil q)
theorem zk_cons {nm kpos} {Q : LQ} (h : ZE X Ex e Γ S fun x S1 => ZK X Ex kws Γ S1 fun xs S2 => Q (x :: xs) S2) : ZK X Ex (⟨nm, e, kpos⟩ :: kws) Γ S Q := fun F σ H c Q' k pos pins s I =>
  (pk_cons (nm := nm) (kpos := kpos) (pe_self (e := e)) (pk_self (X := X) (kws := kws))).run pos pins s σ H Q' I (h F σ H c _ fun v H1 x S1 t1 c1 r1 h1 => h1 F σ H1 (c.step t1 c1) _ fun vs H2 xs S2 t2 c2 r2 h2 =>
    k _ _ _ _ (t1.trans t2) c2 (.cons (r1.mono t2.ext) r2) h2)
abbrev dbgOk (x : Str) : Prop := (x == ("__debug__" : Str)) = false
theorem ze_call (C : AC X.prog X.w X.K X.mg X.base k x n [] asp) (hr : Room j X.A) (hk : k ≤ j) (h : ZA X Ex (e :: es) Γ S fun ds S1 => ds.length = n ∧ asp ds [] S1 Q Ex) (hg : Gl X x := by rfl) (hdb : dbgOk x := by decide)
    (he : starEach (e :: es) X.env = (false, eval e X.env) :: starEach es X.env := by rfl) (hpl : (backTo pos (starEach es X.env)).any (·.1) = false := by rfl) : ZE X Ex (.Call (.Name x p) (e :: es) [] pos) Γ S Q := fun F σ H co Q' kq pins s I => by
  obtain ⟨u, hm, hkp, cc⟩ := C.ex
  exact wpAny_Call_Name_kw (ld_glob I hg hm (PySem.W.callWith_K (h₀ := X.base) I.ok.mod.kin hkp (thn (h F σ H co _ (fun vs H1 ds S1 t hc r q => (⟨S1, ds, t, hc, r, q⟩ : ∃ S1 ds, Stp F S H S1 H1 ∧ HC X.K F S1 H1 ∧ RepL X.K (vw F S1 H1) ds vs ∧ ds.length = n ∧ asp ds [] S1 Q Ex)) pos pins s I)
    fun us s1 ⟨vs, H1, I1, rv, S1, ds, t, hc, r, l, q⟩ => ⟨I1.kIn, cc X rfl rfl rfl rfl rfl X.A rfl (hr.mono hk) co.ok.gd F S1 Ex pins σ H1 s1 us [] vs [] ds [] Q Q' I1 hc (co.xr.step t) rv .nil r .nil l rfl q (kq.step t)⟩) he hpl) hdb)
theorem ze_call0 (C : AC X.prog X.w X.K X.mg X.base k x 0 [] asp) (hr : Room j X.A) (hk : k ≤ j) (h : asp [] [] S Q Ex) (hg : Gl X x := by rfl) (hdb : dbgOk x := by decide) : ZE X Ex (.Call (.Name x p) [] [] pos) Γ S Q := fun F σ H co Q' kq pins s I => by
  obtain ⟨u, hm, hkp, cc⟩ := C.ex
  exact wpAny_Call_Name_kw (ld_glob I hg hm (PySem.W.callWith_K0 I.kIn hkp (cc X rfl rfl rfl rfl rfl X.A rfl (hr.mono hk) co.ok.gd F S Ex pins σ H s [] [] [] [] [] [] Q Q' I co.hc co.xr .nil .nil .nil .nil rfl rfl h kq)) hdb)
/-- f(.., k = v) -/
theorem ze_callK (C : AC X.prog X.w X.K X.mg X.base k x n ks asp) (hr : Room j X.A) (hk : k ≤ j) (h : ZA X Ex (e :: es) Γ S fun ds S1 => ZK X Ex kws Γ S1 fun zs S2 => ds.length = n ∧ zs.length = ks.length ∧ asp ds zs S2 Q Ex) (hg : Gl X x := by rfl) (hdb : dbgOk x := by decide)
    (hall : (backToKw pos (keywordEach kws X.env)).all (·.1.isSome) = true := by rfl) (hks : (backToKw pos (keywordEach kws X.env)).filterMap (·.1) = ks := by rfl)
    (he : starEach (e :: es) X.env = (false, eval e X.env) :: starEach es X.env := by rfl) (hpl : ((backTo pos (starEach (e :: es) X.env)).any (·.1) || (backToKw pos (keywordEach kws X.env)).any (·.1.isNone)) = false := by rfl) : ZE X Ex (.Call (.Name x p) (e :: es) kws pos) Γ S Q := fun F σ H co Q' kq pins s I => by
  obtain ⟨u, hm, hkp, cc⟩ := C.ex
  refine wpAny_Call_Name_kw (ld_glob I hg hm (PySem.W.callWith_KW (h₀ := X.base) I.ok.mod.kin hkp hall (thn (h F σ H co _ (fun vs H1 ds S1 t hc r q => (⟨S1, ds, t, hc, r, q⟩ : ∃ S1 ds, Stp F S H S1 H1 ∧ HC X.K F S1 H1 ∧ RepL X.K (vw F S1 H1) ds vs ∧ ZK X Ex kws Γ S1 fun zs S2 => ds.length = n ∧ zs.length = ks.length ∧ asp ds zs S2 Q Ex)) pos pins s I)
    fun us s1 ⟨vs, H1, I1, rv, S1, ds, t, hc, r, q⟩ => thn (q F σ H1 (co.step t hc) _ (fun zs H2 es S2 t2 hc2 r2 q2 => (⟨S2, es, t2, hc2, r2, q2⟩ : ∃ S2 es, Stp F S1 H1 S2 H2 ∧ HC X.K F S2 H2 ∧ RepL X.K (vw F S2 H2) es zs ∧ ds.length = n ∧ es.length = ks.length ∧ asp ds es S2 Q Ex)) pos pins s1 I1)
      fun ws s2 ⟨zs, H2, I2, rz, S2, es, t2, hc2, r2, l1, l2, q2⟩ => ⟨I2.kIn, ?_⟩) hpl he) hdb)
  rw [hks]
  exact cc X rfl rfl rfl rfl rfl X.A rfl (hr.mono hk) co.ok.gd F S2 Ex pins σ H2 s2 us ws vs zs ds es Q Q' I2 hc2 (co.xr.step (t.trans t2)) rv rz (r.mono t2.ext) r2 l1 l2 q2 (kq.step (t.trans t2))
/-- f(k = v, ..) -/
theorem ze_callK0 (C : AC X.prog X.w X.K X.mg X.base k x 0 ks asp) (hr : Room j X.A) (hk : k ≤ j) (h : ZK X Ex kws Γ S fun zs S2 => zs.length = ks.length ∧ asp [] zs S2 Q Ex) (hg : Gl X x := by rfl) (hdb : dbgOk x := by decide)
    (hall : (backToKw pos (keywordEach kws X.env)).all (·.1.isSome) = true := by rfl) (hks : (backToKw pos (keywordEach kws X.env)).filterMap (·.1) = ks := by rfl)
    (hpl : ((backTo pos (starEach [] X.env)).any (·.1) || (backToKw pos (keywordEach kws X.env)).any (·.1.isNone)) = false := by rfl) : ZE X Ex (.Call (.Name x p) [] kws pos) Γ S Q := fun F σ H co Q' kq pins s I => by
  obtain ⟨u, hm, hkp, cc⟩ := C.ex
  refine wpAny_Call_Name_kw (ld_glob I hg hm (PySem.W.callWith_KW0 (h₀ := X.base) I.ok.mod.kin hkp hall (thn (h F σ H co _ (fun zs H2 es S2 t2 hc2 r2 q2 => (⟨S2, es, t2, hc2, r2, q2⟩ : ∃ S2 es, Stp F S H S2 H2 ∧ HC X.K F S2 H2 ∧ RepL X.K (vw F S2 H2) es zs ∧ es.length = ks.length ∧ asp [] es S2 Q Ex)) pos pins s I)
      fun ws s2 ⟨zs, H2, I2, rz, S2, es, t2, hc2, r2, l2, q2⟩ => ⟨I2.kIn, ?_⟩) hpl) hdb)
  rw [hks]
  exact cc X rfl rfl rfl rfl rfl X.A rfl (hr.mono hk) co.ok.gd F S2 Ex pins σ H2 s2 [] ws [] zs [] es Q Q' I2 hc2 (co.xr.step t2) .nil rz .nil r2 rfl l2 q2 (kq.step t2)
/-! ### methods, attributes -/
def isInsD (S : Store) (c : Str) : D → Prop
  | .obj _ c' _ => c' = c
  | .ref p => ∃ (k : Nat) (fs : List (Str × D)), S[k]? = some (p, Cell.ins c fs)
  | _ => False
/-- the class has the method, and no instance at hand hides it -/
def noFieldD (S : Store) (c m : Str) : D → Prop
  | .obj _ _ gs => gs.lookup m = none
  | .ref p => ∃ (k : Nat) (gs : List (Str × D)), S[k]? = some (p, Cell.ins c gs) ∧ gs.lookup m = none
  | _ => False
theorem ins_at {K F S H} {d : D} {v : V} (hc : HC K F S H) (r : Rep K (vw F S H) d v) (h : isInsD S c d) : ∃ a dx fs, v = .ref a ∧ H a = some (.ins (He.ga K c) dx fs) ∧ ∀ f : Str, noFieldD S c f d → fs.lookup f = none := by
  cases r with
  | obj e rf =>
    have h' := h
    unfold isInsD at h'
    subst h'
    exact ⟨_, _, _, rfl, hd_sub _ _ e, fun f hf => rf.none hf⟩
  | ref =>
    obtain ⟨k, fs, hk⟩ := h
    obtain ⟨dx, vs, e, rf⟩ := hc.get hk
    refine ⟨_, dx, vs, rfl, e, fun f ⟨k2, gs, hk2, hn⟩ => ?_⟩
    obtain ⟨dx2, vs2, e2, rf2⟩ := hc.get hk2
    rw [e] at e2
    cases e2
    exact rf2.none hn
  | _ => exact h.elim
theorem ze_meth0 {pl : Sem Bool} (C : AM X.prog X.w X.K X.mg X.base k c m 0 [] asp) (hr : Room j X.A) (hk : k ≤ j) (h : ZE X Ex o Γ S fun d S1 => isInsD S1 c d ∧ noFieldD S1 c m d ∧ asp [d] [] S1 Q Ex)
    (ht : eval (.Call (.Attribute o m apos) [] [] pos) X.env = (do
      let r ← eval o X.env
      standAt apos.atName
      let (g, self) ← holding [r] (getMethod r m pl)
      callWith pos g self (backTo pos (starEach [] X.env)) (backToKw pos (keywordEach [] X.env))) := by rfl) : ZE X Ex (.Call (.Attribute o m apos) [] [] pos) Γ S Q := fun F σ H co Q' kq pins s I => by
  obtain ⟨g, cl, me, cc⟩ := C.ex
  refine PySem.W.methodCall_KW (pl := pl) (thn (h F σ H co _ (fun v H1 d S1 t hc r q => (⟨S1, d, t, hc, r, q⟩ : ∃ S1 d, Stp F S H S1 H1 ∧ HC X.K F S1 H1 ∧ Rep X.K (vw F S1 H1) d v ∧ isInsD S1 c d ∧ noFieldD S1 c m d ∧ asp [d] [] S1 Q Ex)) pins s I)
    fun u s1 ⟨v, H1, I1, rv, S1, d, t, hc, r, q1, q2, q3⟩ => ?_) ht
  obtain ⟨a, dx, fs, ev, ea, nf⟩ := ins_at hc r q1
  subst ev
  cases rv
  exact getmeth_ok I1 ea cl me (nf m q2) (PySem.W.callWith_K0 (first := [.ref a]) I1.kIn me.kp (cc X rfl rfl rfl rfl rfl X.A rfl (hr.mono hk) co.ok.gd F S1 Ex pins σ H1 s1 [.ref a] [] [.ref a] [] [d] [] Q Q' I1 hc (co.xr.step t) (.cons rfl .nil) .nil (.cons r .nil) .nil rfl rfl q3 (kq.step t)))
theorem ze_meth {pl : Sem Bool} (C : AM X.prog X.w X.K X.mg X.base k c m n [] asp) (hr : Room j X.A) (hk : k ≤ j) (h : ZE X Ex o Γ S fun d S1 => isInsD S1 c d ∧ noFieldD S1 c m d ∧ ZA X Ex (e :: es) Γ S1 fun ds S2 => ds.length = n ∧ asp (d :: ds) [] S2 Q Ex)
    (hst : starEach (e :: es) X.env = (false, eval e X.env) :: starEach es X.env := by rfl) (hpl : (backTo pos (starEach es X.env)).any (·.1) = false := by rfl)
    (ht : eval (.Call (.Attribute o m apos) (e :: es) [] pos) X.env = (do
      let r ← eval o X.env
      standAt apos.atName
      let (g, self) ← holding [r] (getMethod r m pl)
      callWith pos g self (backTo pos (starEach (e :: es) X.env)) (backToKw pos (keywordEach [] X.env))) := by rfl) : ZE X Ex (.Call (.Attribute o m apos) (e :: es) [] pos) Γ S Q := fun F σ H co Q' kq pins s I => by
  obtain ⟨g, cl, me, cc⟩ := C.ex
  refine PySem.W.methodCall_KW (pl := pl) (thn (h F σ H co _ (fun v H1 d S1 t hc r q => (⟨S1, d, t, hc, r, q⟩ : ∃ S1 d, Stp F S H S1 H1 ∧ HC X.K F S1 H1 ∧ Rep X.K (vw F S1 H1) d v ∧ isInsD S1 c d ∧ noFieldD S1 c m d ∧ ZA X Ex (e :: es) Γ S1 fun ds S2 => ds.length = n ∧ asp (d :: ds) [] S2 Q Ex)) pins s I)
    fun u s1 ⟨v, H1, I1, rv, S1, d, t, hc, r, q1, q2, q3⟩ => ?_) ht
  obtain ⟨a, dx, fs, ev, ea, nf⟩ := ins_at hc r q1
  subst ev
  cases rv
  exact getmeth_ok I1 ea cl me (nf m q2) (PySem.W.callWith_K (first := [.ref a]) (h₀ := X.base) I.ok.mod.kin me.kp (thn (q3 F σ H1 (co.step t hc) _ (fun vs H2 ds S2 t2 hc2 r2 q => (⟨S2, ds, t2, hc2, r2, q⟩ : ∃ S2 ds, Stp F S1 H1 S2 H2 ∧ HC X.K F S2 H2 ∧ RepL X.K (vw F S2 H2) ds vs ∧ ds.length = n ∧ asp (d :: ds) [] S2 Q Ex)) pos pins s1 I1)
    fun us s2 ⟨vs, H2, I2, rvs, S2, ds, t2, hc2, r2, l, q⟩ => ⟨I2.kIn, cc X rfl rfl rfl rfl rfl X.A rfl (hr.mono hk) co.ok.gd F S2 Ex pins σ H2 s2 (.ref a :: us) [] (.ref a :: vs) [] (d :: ds) [] Q Q' I2 hc2 (co.xr.step (t.trans t2)) (.cons rfl rvs) .nil (.cons (r.mono t2.ext) r2) .nil (congrArg Nat.succ l) rfl q (kq.step (t.trans t2))⟩) hst hpl)
/-- the class c has instances with plain attributes; f is no attribute of the class -/
structure Fld (K : PySem.W.Frag) (c f : Str) : Prop where
  cl : Cls K (He.ga K c)
  no : NoAttr K (He.ga K c) f
def fldD (S : Store) (c f : Str) (d : D) (Q : DQ) : Prop := (∃ a fs y, d = .obj a c fs ∧ fs.lookup f = some y ∧ Q y S) ∨ ∃ (p : Addr) (i : Nat) (fs : List (Str × D)) (y : D), d = .ref p ∧ S[i]? = some (p, Cell.ins c fs) ∧ fs.lookup f = some y ∧ Q y S
theorem ze_fld (hf : Fld X.K c f) (h : ZE X Ex o Γ S fun d S1 => fldD S1 c f d Q) (hb : attributeBase o f X.env (eval o X.env) = eval o X.env := by rfl) : ZE X Ex (.Attribute o f pos) Γ S Q :=
  ze_of (pe_fld pe_self hb) fun F σ H co Q' k => h F σ H co _ fun v H1 d S1 t hc r q => by
    rcases q with ⟨a, fs, y, e, l, q⟩ | ⟨p, i, fs, y, e, hi, l, q⟩
    · subst e
      cases r with
      | obj eo rf =>
        obtain ⟨u, l1, ru⟩ := rf.look l
        exact ⟨_, _, _, _, u, rfl, hd_sub _ _ eo, hf.cl, hf.no, l1, k _ _ _ _ t hc ru q⟩
    · subst e
      cases r
      obtain ⟨dx, vs, eo, rf⟩ := hc.get hi
      obtain ⟨u, l1, ru⟩ := rf.look l
      exact ⟨_, _, _, _, u, rfl, eo, hf.cl, hf.no, l1, k _ _ _ _ t hc ru q⟩
theorem zv_fld {a : Addr} {fs : List (Str × D)} (hf : Fld X.K c f) (h : ZV X o Γ S (.obj a c fs)) (l : fs.lookup f = some d) (hb : attributeBase o f X.env (eval o X.env) = eval o X.env := by rfl) : ZV X (.Attribute o f pos) Γ S d := fun Ex Q q =>
  ze_fld hf (h.ze (.inl ⟨a, fs, d, rfl, l, q⟩)) hb
theorem zv_fldM {p : Addr} {i : Nat} {fs : List (Str × D)} (hf : Fld X.K c f) (h : ZV X o Γ S (.ref p)) (hi : S[i]? = some (p, Cell.ins c fs)) (l : fs.lookup f = some d) (hb : attributeBase o f X.env (eval o X.env) = eval o X.env := by rfl) : ZV X (.Attribute o f pos) Γ S d := fun Ex Q q =>
  ze_fld hf (h.ze (.inr ⟨p, i, fs, d, rfl, hi, l, q⟩)) hb
theorem lk0 {d : D} {fs : List (Str × D)} : List.lookup f ((f, d) :: fs) = some d := by rw [List.lookup_cons, beq_self_eq_true]
theorem lk1 {d d' : D} {g : Str} {fs : List (Str × D)} (h : (f == g) = false) (l : List.lookup f fs = some d) : List.lookup f ((g, d') :: fs) = some d := by rw [List.lookup_cons, h]; exact l
theorem lkN {d' : D} {g : Str} {fs : List (Str × D)} (h : (f == g) = false) (l : List.lookup f fs = none) : List.lookup f ((g, d') :: fs) = none := by rw [List.lookup_cons, h]; exact l
def putG (f : Str) (d : D) : List (Str × D) → List (Str × D)
  | [] => [(f, d)]
  | (g, y) :: r => if g = f then (f, d) :: r else (g, y) :: putG f d r
end
end Fz
end

section
namespace Fz
open PySem PySem.Spec PyProof.Rows L2

/-! ### equality of data -/
mutual
def deq : D → D → Bool
  | .non, .non => true
  | .bl a, .bl b => a == b
  | .bl a, .int b => (if a then 1 else 0) == b
  | .int a, .bl b => a == (if b then 1 else 0)
  | .int a, .int b => a == b
  | .str a, .str b => a == b
  | .tup a, .tup b => deqs a b
  | .lst a, .lst b => deqs a b
  | _, _ => false
def deqs : List D → List D → Bool
  | [], [] => true
  | x :: xs, y :: ys => deq x y && deqs xs ys
  | _, _ => false
end
mutual
/-- plain data, at most so deep -/
def dat : D → Nat → Bool
  | .non, _ => true
  | .bl _, _ => true
  | .int _, _ => true
  | .str _, _ => true
  | .tup ds, n + 1 => dats ds n
  | .lst ds, n + 1 => dats ds n
  | _, _ => false
def dats : List D → Nat → Bool
  | [], _ => true
  | x :: xs, n => dat x n && dats xs n
end
theorem dats_get : ∀ {ds : List D} {n i : Nat} {d : D}, dats ds n = true → ds[i]? = some d → dat d n = true
  | [], _, _, _, _, e => by simp at e
  | x :: xs, n, 0, d, h, e => by
    simp at e; subst e
    unfold dats at h
    exact (Bool.and_eq_true_iff.mp h).1
  | x :: xs, n, i + 1, d, h, e => by
    unfold dats at h
    exact dats_get (Bool.and_eq_true_iff.mp h).2 (by simpa using e)
theorem dats_of {ds : List D} {n : Nat} (h : ∀ d ∈ ds, dat d n = true) : dats ds n = true := by
  induction ds with
  | nil => unfold dats; rfl
  | cons x xs ih =>
    unfold dats
    rw [h x (List.mem_cons_self ..), ih fun d hd => h d (List.mem_cons_of_mem _ hd)]; rfl
theorem deqs_all : ∀ {xs ys : List D}, deqs xs ys = ((List.range (min xs.length ys.length)).all (fun i => deq (xs.getD i .non) (ys.getD i .non)) && xs.length == ys.length)
  | [], [] => by unfold deqs; rfl
  | [], _ :: _ => by unfold deqs; rfl
  | _ :: _, [] => by unfold deqs; rfl
  | x :: xs, y :: ys => by
    unfold deqs
    rw [deqs_all, List.length_cons, List.length_cons, Nat.succ_min_succ, List.range_succ_eq_map, List.all_cons, List.all_map]
    have e : ((xs.length + 1 == ys.length + 1) : Bool) = (xs.length == ys.length) := by
      by_cases q : xs.length = ys.length
      · simp [q]
      · have : ¬ xs.length + 1 = ys.length + 1 := by omega
        simp [q]
    rw [e, Bool.and_assoc]
    congr 1
theorem strz {a b : List Nat} : ((⟨a.toArray⟩ : Str) == ⟨b.toArray⟩) = (a == b) := by
  rw [Bool.eq_iff_iff]
  simp only [beq_iff_eq]
  exact ⟨fun h => by simpa using congrArg (fun x : Str => x.cps.toList) h, fun h => by rw [h]⟩
section
variable {X : Cx} {pins : List (Addr × Obj)} {σ : L2.St} {H G : Hp} {s : Shared}
theorem rep_str_inv {K} {d : D} {z : Str} (r : Rep K G d (.str z)) : ∃ y, d = .str y ∧ z = ⟨y.toArray⟩ := by
  cases r; exact ⟨_, rfl, rfl⟩
theorem not_both {a : Addr} {xs ys : List V} (I : Inv X pins σ H s) (h : SqT X.K H a xs) (h2 : H a = some (.lst ys)) : False := by
  obtain ⟨its, _, ⟨o, e1, c1, _⟩, _⟩ := I.tuple h
  obtain ⟨its2, _, ⟨o2, _, e2, c2, _⟩, _⟩ := I.list (SqL.of (K := X.K) h2)
  rw [e1] at e2
  have e3 := Option.some.inj e2
  rw [← e3, c1] at c2
  injection c2 with c3
  exact absurd c3 (by decide)
theorem bl_beq_refl (a : Bool) : (a == a) = true := by cases a <;> rfl
mutual
theorem rep_same (I : Inv X pins σ H s) (sb : Sub G H) : ∀ {d e : D} {v : V} {n : Nat}, Rep X.K G d v → Rep X.K G e v → dat d n = true → dat e n = true → deq d e = true
  | _, _, _, _, .non, r, _, _ => by cases r; unfold deq; rfl
  | _, _, _, _, .bl, r, _, _ => by cases r; unfold deq; exact bl_beq_refl _
  | _, _, _, _, .int, r, _, _ => by cases r; unfold deq; simp
  | _, _, _, _, .str (x := x) _, r, _, _ => by
    obtain ⟨y, rfl, h⟩ := rep_str_inv r
    have e : x = y := by simpa using congrArg (fun x : Str => x.cps.toList) h
    subst e
    unfold deq; simp
  | _, _, _, n, .tup h r, r2, d1, d2 => by
    cases r2 with
    | tup h2 r3 =>
      have e := I.tuple_inj (Sub.st sb h) (Sub.st sb h2)
      subst e
      cases n with
      | zero => cases d1
      | succ n =>
        unfold dat at d1 d2
        unfold deq
        exact reps_same I sb r r3 d1 d2
    | lst h2 r3 => exact (not_both I (Sub.st sb h) (sb _ _ h2)).elim
    | _ => cases n <;> cases d2
  | _, _, _, n, .lst h r, r2, d1, d2 => by
    cases r2 with
    | lst h2 r3 =>
      rw [h] at h2; cases h2
      cases n with
      | zero => cases d1
      | succ n =>
        unfold dat at d1 d2
        unfold deq
        exact reps_same I sb r r3 d1 d2
    | tup h2 r3 => exact (not_both I (Sub.st sb h2) (sb _ _ h)).elim
    | _ => cases n <;> cases d2
  | _, _, _, n, .ref, _, d1, _ => by cases n <;> cases d1
  | _, _, _, n, .scr _, _, d1, _ => by cases n <;> cases d1
  | _, _, _, n, .obj _ _, _, d1, _ => by cases n <;> cases d1
  | _, _, _, n, .dk _ _, _, d1, _ => by cases n <;> cases d1
  | _, _, _, n, .dt _ _, _, d1, _ => by cases n <;> cases d1
theorem reps_same (I : Inv X pins σ H s) (sb : Sub G H) : ∀ {ds es : List D} {vs : List V} {n : Nat}, RepL X.K G ds vs → RepL X.K G es vs → dats ds n = true → dats es n = true → deqs ds es = true
  | _, _, _, _, .nil, r, _, _ => by cases r; unfold deqs; rfl
  | _, _, _, _, .cons h r, r2, d1, d2 => by
    cases r2 with
    | cons h2 r3 =>
      unfold dats at d1 d2
      obtain ⟨a1, a2⟩ := Bool.and_eq_true_iff.mp d1
      obtain ⟨b1, b2⟩ := Bool.and_eq_true_iff.mp d2
      unfold deqs
      rw [rep_same I sb h h2 a1 b1, reps_same I sb r r3 a2 b2]; rfl
end
theorem getD_of {α : Type} {l : List α} {i : Nat} {x d : α} (h : l[i]? = some x) : l.getD i d = x := by rw [List.getD_eq_getElem?_getD, h]; rfl
/-- None, a truth, a number, a text -/
def flatD : D → Bool
  | .non => true
  | .bl _ => true
  | .int _ => true
  | .str _ => true
  | _ => false
theorem flat_eq {K} {d e : D} {v w : V} (r1 : Rep K G d v) (r2 : Rep K G e w) (f1 : flatD d = true) (f2 : flatD e = true) : flatV v = true ∧ flatV w = true ∧ eqV v w = deq d e := by
  cases r1 <;> first
    | (cases f1; done)
    | (cases r2 <;> first
        | (cases f2; done)
        | (refine ⟨rfl, rfl, ?_⟩; unfold eqV deq; first | rfl | exact strz))
theorem dat_kind {d : D} {n : Nat} (h : dat d n = true) : flatD d = true ∨ ∃ m, n = m + 1 ∧ ((∃ ds, d = .tup ds ∧ dats ds m = true) ∨ ∃ ds, d = .lst ds ∧ dats ds m = true) := by
  cases d <;> cases n <;> first
    | (left; rfl)
    | (unfold dat at h; cases h; done)
    | (unfold dat at h; exact .inr ⟨_, rfl, .inl ⟨_, rfl, h⟩⟩)
    | (unfold dat at h; exact .inr ⟨_, rfl, .inr ⟨_, rfl, h⟩⟩)
open SeqAt in
theorem flat_tup {A : Around} {d : D} {v : V} {a : Value} {l : Addr} {items : Array Value} (hl : s.heap.IsTuple l items) (hu : A.units < cLine) (f : flatD d = true) (r : Rep X.K G d v) (q : L2.RelV v a) : EqAt A s (.ref l) a false ∧ EqAt A s a (.ref l) false := by
  cases r <;> first
    | (cases f; done)
    | skip
  · cases q; exact ⟨EqAt.tuple_none hl hu, EqAt.none_tuple hl hu⟩
  · cases q; exact ⟨EqAt.tuple_bool _ hl hu, EqAt.bool_tuple _ hl hu⟩
  · obtain ⟨t, rfl⟩ := q; exact ⟨EqAt.tuple_int _ _ hl hu, EqAt.int_tuple _ _ hl hu⟩
  · obtain ⟨t, rfl⟩ := q; exact ⟨EqAt.tuple_str _ _ hl hu, EqAt.str_tuple _ _ hl hu⟩
open SeqAt in
theorem flat_lst {A : Around} {d : D} {v : V} {a : Value} {l : Addr} {items : Array Value} (hl : s.heap.IsList l items) (hu : A.units < cLine) (f : flatD d = true) (r : Rep X.K G d v) (q : L2.RelV v a) : EqAt A s (.ref l) a false ∧ EqAt A s a (.ref l) false := by
  cases r <;> first
    | (cases f; done)
    | skip
  · cases q; exact ⟨EqAt.list_none hl hu, EqAt.none_list hl hu⟩
  · cases q; exact ⟨EqAt.list_bool _ hl hu, EqAt.bool_list _ hl hu⟩
  · obtain ⟨t, rfl⟩ := q; exact ⟨EqAt.list_int _ _ hl hu, EqAt.int_list _ _ hl hu⟩
  · obtain ⟨t, rfl⟩ := q; exact ⟨EqAt.list_str _ _ hl hu, EqAt.str_list _ _ hl hu⟩
theorem deq_flat_tup {d : D} {ds : List D} (f : flatD d = true) : deq d (.tup ds) = false ∧ deq (.tup ds) d = false := by
  cases d <;> first
    | (cases f; done)
    | exact ⟨by unfold deq; rfl, by unfold deq; rfl⟩
theorem deq_flat_lst {d : D} {ds : List D} (f : flatD d = true) : deq d (.lst ds) = false ∧ deq (.lst ds) d = false := by
  cases d <;> first
    | (cases f; done)
    | exact ⟨by unfold deq; rfl, by unfold deq; rfl⟩
theorem items_of {K} {ds : List D} {xs : List V} {its : List Value} (r : RepL K G ds xs) (rv : Vals xs its) : its.toArray.size = ds.length ∧ ∀ (j : Nat) (h : j < its.toArray.size), ∃ d v, ds[j]? = some d ∧ Rep K G d v ∧ L2.RelV v its.toArray[j] := by
  have e1 : its.toArray.size = ds.length := by simp [r.length, rv.length]
  refine ⟨e1, fun j h => ?_⟩
  have hj : j < ds.length := by rw [← e1]; exact h
  have e2 : ds[j]? = some ds[j] := by simp [hj]
  obtain ⟨v, v1, v2⟩ := r.get e2
  obtain ⟨u, u1, u2⟩ := rv.get v1
  refine ⟨_, v, e2, v2, ?_⟩
  have e3 : its.toArray[j] = u := by
    have := List.getElem?_eq_some_iff.mp u1
    obtain ⟨h3, h4⟩ := this
    simpa using h4
  rw [e3]; exact u2
open SeqAt in
theorem eq_at (I : Inv X pins σ H s) (sb : Sub G H) : ∀ (n : Nat) {d e : D} {v w : V} {a b : Value} {A : Around}, A.units + n < cLine → Rep X.K G d v → Rep X.K G e w → L2.RelV v a → L2.RelV w b → dat d n = true → dat e n = true → EqAt A s a b (deq d e) := by
  intro n
  induction n with
  | zero =>
    intro d e v w a b A hu r1 r2 q1 q2 d1 d2
    have f1 : flatD d = true := (dat_kind d1).elim id fun ⟨_, z, _⟩ => by cases z
    have f2 : flatD e = true := (dat_kind d2).elim id fun ⟨_, z, _⟩ => by cases z
    obtain ⟨g1, g2, g3⟩ := flat_eq r1 r2 f1 f2
    rw [← g3]
    exact eqAt_V q1 q2 g1 g2
  | succ n ih =>
    intro d e v w a b A hu r1 r2 q1 q2 d1 d2
    have hu0 : A.units < cLine := by omega
    have hu1 : A.in1.units + n < cLine := by show A.units + 1 + n < cLine; omega
    have each : ∀ {ds es : List D} {xs ys : List V} {its its2 : List Value}, RepL X.K G ds xs → RepL X.K G es ys → Vals xs its → Vals ys its2 → dats ds n = true → dats es n = true →
        ∀ (j : Nat) (h1 : j < its.toArray.size) (h2 : j < its2.toArray.size), EqAt A.in1 s its.toArray[j] its2.toArray[j] (deq (ds.getD j .non) (es.getD j .non)) := by
      intro ds es xs ys its its2 ra rb va vb da db j h1 h2
      obtain ⟨_, k1⟩ := items_of ra va
      obtain ⟨_, k2⟩ := items_of rb vb
      obtain ⟨x, vx, x1, x2, x3⟩ := k1 j h1
      obtain ⟨y, vy, y1, y2, y3⟩ := k2 j h2
      rw [getD_of x1, getD_of y1]
      exact ih hu1 x2 y2 x3 y3 (dats_get da x1) (dats_get db y1)
    rcases dat_kind d1 with f1 | ⟨m, em, k1⟩
    · rcases dat_kind d2 with f2 | ⟨m2, em2, k2⟩
      · obtain ⟨g1, g2, g3⟩ := flat_eq r1 r2 f1 f2
        rw [← g3]
        exact eqAt_V q1 q2 g1 g2
      · rcases k2 with ⟨es, e2, _⟩ | ⟨es, e2, _⟩ <;> subst e2
        · cases r2 with
          | tup h rr =>
            cases q2
            obtain ⟨its, _, p, _⟩ := I.tuple (Sub.st sb h)
            rw [(deq_flat_tup f1).1]
            exact (flat_tup (X := X) (show s.heap.IsTuple _ its.toArray from p) hu0 f1 r1 q1).2
        · cases r2 with
          | lst h rr =>
            cases q2
            obtain ⟨its, _, p, _⟩ := I.list (SqL.of (K := X.K) (sb _ _ h))
            rw [(deq_flat_lst f1).1]
            exact (flat_lst (X := X) p.isList hu0 f1 r1 q1).2
    · have em' : m = n := by omega
      subst em'
      rcases dat_kind d2 with f2 | ⟨m2, em2, k2⟩
      · rcases k1 with ⟨es, e2, _⟩ | ⟨es, e2, _⟩ <;> subst e2
        · cases r1 with
          | tup h rr =>
            cases q1
            obtain ⟨its, _, p, _⟩ := I.tuple (Sub.st sb h)
            rw [(deq_flat_tup f2).2]
            exact (flat_tup (X := X) (show s.heap.IsTuple _ its.toArray from p) hu0 f2 r2 q2).1
        · cases r1 with
          | lst h rr =>
            cases q1
            obtain ⟨its, _, p, _⟩ := I.list (SqL.of (K := X.K) (sb _ _ h))
            rw [(deq_flat_lst f2).2]
            exact (flat_lst (X := X) p.isList hu0 f2 r2 q2).1
      · have em' : m2 = m := by omega
        subst em'
        have same : ∀ {l l2 : Addr}, v = .ref l → w = .ref l2 → l = l2 → EqAt A s (.ref l) (.ref l2) (deq d e) := fun {l l2} e1 e2 e3 => by
          subst e1 e2 e3
          rw [rep_same I sb r1 r2 d1 d2]
          exact EqAt.same _
        rcases k1 with ⟨ds, e1, da⟩ | ⟨ds, e1, da⟩ <;> subst e1 <;> rcases k2 with ⟨es, e2, db⟩ | ⟨es, e2, db⟩ <;> subst e2
        · have r1' := r1
          have r2' := r2
          cases r1' with
          | @tup _ l xs h rr =>
            cases r2' with
            | @tup _ l2 ys h2 rr2 =>
              cases q1; cases q2
              by_cases c : l = l2
              · exact same rfl rfl c
              · obtain ⟨its, va, p, _⟩ := I.tuple (Sub.st sb h)
                obtain ⟨its2, vb, p2, _⟩ := I.tuple (Sub.st sb h2)
                refine EqAt.of_refs c ?_
                have z := RcAt.tuples (A := A) (show s.heap.IsTuple l its.toArray from p) (show s.heap.IsTuple l2 its2.toArray from p2) hu0 (each rr rr2 va vb da db)
                unfold deq
                rw [deqs_all]
                rw [(items_of rr va).1, (items_of rr2 vb).1] at z
                exact z
        · cases r1 with
          | tup h rr =>
            cases r2 with
            | lst h2 rr2 =>
              cases q1; cases q2
              obtain ⟨its, va, p, _⟩ := I.tuple (Sub.st sb h)
              obtain ⟨its2, vb, p2, _⟩ := I.list (SqL.of (K := X.K) (sb _ _ h2))
              have z := EqAt.tuple_list (A := A) (show s.heap.IsTuple _ its.toArray from p) p2.isList hu0
              unfold deq
              exact z
        · cases r1 with
          | lst h rr =>
            cases r2 with
            | tup h2 rr2 =>
              cases q1; cases q2
              obtain ⟨its, va, p, _⟩ := I.tuple (Sub.st sb h2)
              obtain ⟨its2, vb, p2, _⟩ := I.list (SqL.of (K := X.K) (sb _ _ h))
              have z := EqAt.list_tuple (A := A) p2.isList (show s.heap.IsTuple _ its.toArray from p) hu0
              unfold deq
              exact z
        · have r1' := r1
          have r2' := r2
          cases r1' with
          | @lst _ l xs h rr =>
            cases r2' with
            | @lst _ l2 ys h2 rr2 =>
              cases q1; cases q2
              by_cases c : l = l2
              · exact same rfl rfl c
              · obtain ⟨its, va, p, _⟩ := I.list (SqL.of (K := X.K) (sb _ _ h))
                obtain ⟨its2, vb, p2, _⟩ := I.list (SqL.of (K := X.K) (sb _ _ h2))
                refine EqAt.of_refs c ?_
                unfold deq
                rw [deqs_all]
                by_cases el : ds.length = es.length
                · have z := RcAt.lists (A := A) p.isList p2.isList (by rw [(items_of rr va).1, (items_of rr2 vb).1, el]) hu0 (each rr rr2 va vb da db)
                  rw [(items_of rr va).1] at z
                  rw [show min ds.length es.length = ds.length by omega, el, beq_self_eq_true, Bool.and_true, ← el]
                  exact z
                · have z := RcAt.lists_lengths (A := A) p.isList p2.isList (by rw [(items_of rr va).1, (items_of rr2 vb).1]; simpa using el) hu0
                  rw [show (ds.length == es.length) = false by simpa using el, Bool.and_false]
                  exact z
end
end Fz
end

section
namespace Fz
open PySem PySem.Spec PyProof.Rows L2
section
variable {X : Cx} {pins : List (Addr × Obj)} {σ : L2.St} {H G : Hp} {s : Shared}
abbrev Rc2 (A : Around) (s : Shared) (a b : Value) (t : Bool) : Prop := SeqAt.RcAt A s a b t ∧ SeqAt.RcNeAt A s a b (!t)
open SeqAt in
theorem rc_flat {K} {A : Around} {d e : D} {v w : V} {a b : Value} (f1 : flatD d = true) (f2 : flatD e = true) (r1 : Rep K G d v) (r2 : Rep K G e w) (q1 : L2.RelV v a) (q2 : L2.RelV w b) : Rc2 A s a b (deq d e) := by
  cases r1 with
  | non =>
    cases q1
    cases r2 with
    | non =>
      cases q2
      unfold deq
      exact ⟨RcAt.none_none , RcNeAt.none_none ⟩
    | bl =>
      cases q2
      unfold deq
      exact ⟨RcAt.none_bool _, RcNeAt.none_bool _⟩
    | int =>
      obtain ⟨u, rfl⟩ := q2
      unfold deq
      exact ⟨RcAt.none_int _ _, RcNeAt.none_int _ _⟩
    | str =>
      obtain ⟨u, rfl⟩ := q2
      unfold deq
      exact ⟨RcAt.none_str _ _, RcNeAt.none_str _ _⟩
    | _ => cases f2
  | bl =>
    cases q1
    cases r2 with
    | non =>
      cases q2
      unfold deq
      exact ⟨RcAt.bool_none _, RcNeAt.bool_none _⟩
    | bl =>
      cases q2
      unfold deq
      exact ⟨RcAt.bool_bool _ _, RcNeAt.bool_bool _ _⟩
    | int =>
      obtain ⟨u, rfl⟩ := q2
      unfold deq
      exact ⟨RcAt.bool_int _ _ _, RcNeAt.bool_int _ _ _⟩
    | str =>
      obtain ⟨u, rfl⟩ := q2
      unfold deq
      exact ⟨RcAt.bool_str _ _ _, RcNeAt.bool_str _ _ _⟩
    | _ => cases f2
  | int =>
    obtain ⟨t, rfl⟩ := q1
    cases r2 with
    | non =>
      cases q2
      unfold deq
      exact ⟨RcAt.int_none _ _, RcNeAt.int_none _ _⟩
    | bl =>
      cases q2
      unfold deq
      exact ⟨RcAt.int_bool _ _ _, RcNeAt.int_bool _ _ _⟩
    | int =>
      obtain ⟨u, rfl⟩ := q2
      unfold deq
      exact ⟨RcAt.int_int _ _ _ _, RcNeAt.int_int _ _ _ _⟩
    | str =>
      obtain ⟨u, rfl⟩ := q2
      unfold deq
      exact ⟨RcAt.int_str _ _ _ _, RcNeAt.int_str _ _ _ _⟩
    | _ => cases f2
  | str =>
    obtain ⟨t, rfl⟩ := q1
    cases r2 with
    | non =>
      cases q2
      unfold deq
      exact ⟨RcAt.str_none _ _, RcNeAt.str_none _ _⟩
    | bl =>
      cases q2
      unfold deq
      exact ⟨RcAt.str_bool _ _ _, RcNeAt.str_bool _ _ _⟩
    | int =>
      obtain ⟨u, rfl⟩ := q2
      unfold deq
      exact ⟨RcAt.str_int _ _ _ _, RcNeAt.str_int _ _ _ _⟩
    | str =>
      obtain ⟨u, rfl⟩ := q2
      unfold deq
      rw [← strz]
      exact ⟨RcAt.str_str _ _ _ _, RcNeAt.str_str _ _ _ _⟩
    | _ => cases f2
  | _ => cases f1
open SeqAt in
theorem rc_flat_tup {A : Around} {d : D} {v : V} {a : Value} {l : Addr} {items : Array Value} (hl : s.heap.IsTuple l items) (hu : A.units < cLine) (f : flatD d = true) (r : Rep X.K G d v) (q : L2.RelV v a) : Rc2 A s (.ref l) a false ∧ Rc2 A s a (.ref l) false := by
  cases r <;> first
    | (cases f; done)
    | skip
  · cases q; exact ⟨⟨RcAt.tuple_none hl hu, RcNeAt.tuple_none hl hu⟩, ⟨RcAt.none_tuple hl hu, RcNeAt.none_tuple hl hu⟩⟩
  · cases q; exact ⟨⟨RcAt.tuple_bool _ hl hu, RcNeAt.tuple_bool _ hl hu⟩, ⟨RcAt.bool_tuple _ hl hu, RcNeAt.bool_tuple _ hl hu⟩⟩
  · obtain ⟨t, rfl⟩ := q; exact ⟨⟨RcAt.tuple_int _ _ hl hu, RcNeAt.tuple_int _ _ hl hu⟩, ⟨RcAt.int_tuple _ _ hl hu, RcNeAt.int_tuple _ _ hl hu⟩⟩
  · obtain ⟨t, rfl⟩ := q; exact ⟨⟨RcAt.tuple_str _ _ hl hu, RcNeAt.tuple_str _ _ hl hu⟩, ⟨RcAt.str_tuple _ _ hl hu, RcNeAt.str_tuple _ _ hl hu⟩⟩
open SeqAt in
theorem rc_flat_lst {A : Around} {d : D} {v : V} {a : Value} {l : Addr} {items : Array Value} (hl : s.heap.IsList l items) (hu : A.units < cLine) (f : flatD d = true) (r : Rep X.K G d v) (q : L2.RelV v a) : Rc2 A s (.ref l) a false ∧ Rc2 A s a (.ref l) false := by
  cases r <;> first
    | (cases f; done)
    | skip
  · cases q; exact ⟨⟨RcAt.list_none hl hu, RcNeAt.list_none hl hu⟩, ⟨RcAt.none_list hl hu, RcNeAt.none_list hl hu⟩⟩
  · cases q; exact ⟨⟨RcAt.list_bool _ hl hu, RcNeAt.list_bool _ hl hu⟩, ⟨RcAt.bool_list _ hl hu, RcNeAt.bool_list _ hl hu⟩⟩
  · obtain ⟨t, rfl⟩ := q; exact ⟨⟨RcAt.list_int _ _ hl hu, RcNeAt.list_int _ _ hl hu⟩, ⟨RcAt.int_list _ _ hl hu, RcNeAt.int_list _ _ hl hu⟩⟩
  · obtain ⟨t, rfl⟩ := q; exact ⟨⟨RcAt.list_str _ _ hl hu, RcNeAt.list_str _ _ hl hu⟩, ⟨RcAt.str_list _ _ hl hu, RcNeAt.str_list _ _ hl hu⟩⟩
open SeqAt in
theorem rc_at (I : Inv X pins σ H s) (sb : Sub G H) {n : Nat} {d e : D} {v w : V} {a b : Value} {A : Around} (hu : A.units + n < cLine) (r1 : Rep X.K G d v) (r2 : Rep X.K G e w) (q1 : L2.RelV v a) (q2 : L2.RelV w b) (d1 : dat d n = true) (d2 : dat e n = true) : Rc2 A s a b (deq d e) := by
  have hu0 : A.units < cLine := by omega
  rcases dat_kind d1 with f1 | ⟨m, em, k1⟩
  · rcases dat_kind d2 with f2 | ⟨m2, em2, k2⟩
    · exact rc_flat f1 f2 r1 r2 q1 q2
    · rcases k2 with ⟨es, e2, _⟩ | ⟨es, e2, _⟩ <;> subst e2
      · cases r2 with
        | tup h rr =>
          cases q2
          obtain ⟨its, _, p, _⟩ := I.tuple (Sub.st sb h)
          rw [(deq_flat_tup f1).1]
          exact (rc_flat_tup (X := X) (show s.heap.IsTuple _ its.toArray from p) hu0 f1 r1 q1).2
      · cases r2 with
        | lst h rr =>
          cases q2
          obtain ⟨its, _, p, _⟩ := I.list (SqL.of (K := X.K) (sb _ _ h))
          rw [(deq_flat_lst f1).1]
          exact (rc_flat_lst (X := X) p.isList hu0 f1 r1 q1).2
  · have hu1 : A.in1.units + m < cLine := by show A.units + 1 + m < cLine; omega
    have each : ∀ {ds es : List D} {xs ys : List V} {its its2 : List Value}, RepL X.K G ds xs → RepL X.K G es ys → Vals xs its → Vals ys its2 → dats ds m = true → dats es m = true →
        ∀ (j : Nat) (h1 : j < its.toArray.size) (h2 : j < its2.toArray.size), EqAt A.in1 s its.toArray[j] its2.toArray[j] (deq (ds.getD j .non) (es.getD j .non)) := by
      intro ds es xs ys its its2 ra rb va vb da db j h1 h2
      obtain ⟨_, k1⟩ := items_of ra va
      obtain ⟨_, k2⟩ := items_of rb vb
      obtain ⟨x, vx, x1, x2, x3⟩ := k1 j h1
      obtain ⟨y, vy, y1, y2, y3⟩ := k2 j h2
      rw [getD_of x1, getD_of y1]
      exact eq_at I sb m hu1 x2 y2 x3 y3 (dats_get da x1) (dats_get db y1)
    rcases dat_kind d2 with f2 | ⟨m2, em2, k2⟩
    · rcases k1 with ⟨es, e2, _⟩ | ⟨es, e2, _⟩ <;> subst e2
      · cases r1 with
        | tup h rr =>
          cases q1
          obtain ⟨its, _, p, _⟩ := I.tuple (Sub.st sb h)
          rw [(deq_flat_tup f2).2]
          exact (rc_flat_tup (X := X) (show s.heap.IsTuple _ its.toArray from p) hu0 f2 r2 q2).1
      · cases r1 with
        | lst h rr =>
          cases q1
          obtain ⟨its, _, p, _⟩ := I.list (SqL.of (K := X.K) (sb _ _ h))
          rw [(deq_flat_lst f2).2]
          exact (rc_flat_lst (X := X) p.isList hu0 f2 r2 q2).1
    · have em' : m2 = m := by omega
      subst em'
      rcases k1 with ⟨ds, e1, da⟩ | ⟨ds, e1, da⟩ <;> subst e1 <;> rcases k2 with ⟨es, e2, db⟩ | ⟨es, e2, db⟩ <;> subst e2
      · cases r1 with
        | tup h rr =>
          cases r2 with
          | tup h2 rr2 =>
            cases q1; cases q2
            obtain ⟨its, va, p, _⟩ := I.tuple (Sub.st sb h)
            obtain ⟨its2, vb, p2, _⟩ := I.tuple (Sub.st sb h2)
            have z := RcAt.tuples (A := A) (show s.heap.IsTuple _ its.toArray from p) (show s.heap.IsTuple _ its2.toArray from p2) hu0 (each rr rr2 va vb da db)
            have z2 := RcNeAt.tuples (A := A) (show s.heap.IsTuple _ its.toArray from p) (show s.heap.IsTuple _ its2.toArray from p2) hu0 (each rr rr2 va vb da db)
            unfold deq
            rw [deqs_all]
            rw [(items_of rr va).1, (items_of rr2 vb).1] at z z2
            exact ⟨z, z2⟩
      · cases r1 with
        | tup h rr =>
          cases r2 with
          | lst h2 rr2 =>
            cases q1; cases q2
            obtain ⟨its, va, p, _⟩ := I.tuple (Sub.st sb h)
            obtain ⟨its2, vb, p2, _⟩ := I.list (SqL.of (K := X.K) (sb _ _ h2))
            unfold deq
            exact ⟨RcAt.tuple_list (show s.heap.IsTuple _ its.toArray from p) p2.isList hu0, RcNeAt.tuple_list (show s.heap.IsTuple _ its.toArray from p) p2.isList hu0⟩
      · cases r1 with
        | lst h rr =>
          cases r2 with
          | tup h2 rr2 =>
            cases q1; cases q2
            obtain ⟨its, va, p, _⟩ := I.tuple (Sub.st sb h2)
            obtain ⟨its2, vb, p2, _⟩ := I.list (SqL.of (K := X.K) (sb _ _ h))
            unfold deq
            exact ⟨RcAt.list_tuple p2.isList (show s.heap.IsTuple _ its.toArray from p) hu0, RcNeAt.list_tuple p2.isList (show s.heap.IsTuple _ its.toArray from p) hu0⟩
      · cases r1 with
        | lst h rr =>
          cases r2 with
          | lst h2 rr2 =>
            cases q1; cases q2
            obtain ⟨its, va, p, _⟩ := I.list (SqL.of (K := X.K) (sb _ _ h))
            obtain ⟨its2, vb, p2, _⟩ := I.list (SqL.of (K := X.K) (sb _ _ h2))
            unfold deq
            rw [deqs_all]
            by_cases el : ds.length = es.length
            · have es1 : its.toArray.size = its2.toArray.size := by rw [(items_of rr va).1, (items_of rr2 vb).1, el]
              have z := RcAt.lists (A := A) p.isList p2.isList es1 hu0 (each rr rr2 va vb da db)
              have z2 := RcNeAt.lists (A := A) p.isList p2.isList es1 hu0 (each rr rr2 va vb da db)
              rw [(items_of rr va).1] at z z2
              rw [show min ds.length es.length = ds.length by omega, el, beq_self_eq_true, Bool.and_true, ← el]
              exact ⟨z, z2⟩
            · have es1 : (its.toArray.size != its2.toArray.size) = true := by rw [(items_of rr va).1, (items_of rr2 vb).1]; simpa using el
              rw [show (ds.length == es.length) = false by simpa using el, Bool.and_false]
              exact ⟨RcAt.lists_lengths p.isList p2.isList es1 hu0, RcNeAt.lists_lengths p.isList p2.isList es1 hu0⟩
end
section
variable {X : Cx}
def rEqZ (K : PySem.W.Frag) : R2 := fun x y H Q => ∃ G d e, Sub G H ∧ Rep K G d x ∧ Rep K G e y ∧ dat d 60 = true ∧ dat e 60 = true ∧ Q (.bl (deq d e)) H
def rNeZ (K : PySem.W.Frag) : R2 := fun x y H Q => ∃ G d e, Sub G H ∧ Rep K G d x ∧ Rep K G e y ∧ dat d 60 = true ∧ dat e 60 = true ∧ Q (.bl (!deq d e)) H
theorem op_eqZ (hu : X.A.units + 64 < cLine) : OpR X (compareOp .Eq) (rEqZ X.K) := by
  intro pins s σ H x y v u Q I rx ry ⟨G, d, e, sb, r1, r2, d1, d2, q⟩
  exact (rc_at I sb (show X.A.units + 60 < cLine by omega) r1 r2 rx ry d1 d2).1 X.prog X.w X.xe _ ⟨.bl _, H, I, rfl, q⟩
theorem op_neZ (hu : X.A.units + 64 < cLine) : OpR X (compareOp .NotEq) (rNeZ X.K) := by
  intro pins s σ H x y v u Q I rx ry ⟨G, d, e, sb, r1, r2, d1, d2, q⟩
  exact (rc_at I sb (show X.A.units + 60 < cLine by omega) r1 r2 rx ry d1 d2).2 X.prog X.w X.xe _ ⟨.bl _, H, I, rfl, q⟩
/-- x in items, all of them flat -/
def ind (x : D) (ds : List D) : Bool := ds.any fun y => deq y x
theorem inV_ind {K G} {d : D} {v : V} (r : Rep K G d v) (f : flatD d = true) : ∀ {ds : List D} {xs : List V}, RepL K G ds xs → ds.all flatD = true → xs.all flatV = true ∧ inV v xs = ind d ds
  | _, _, .nil, _ => ⟨rfl, rfl⟩
  | _, _, .cons h rr, fa => by
    rw [List.all_cons] at fa
    obtain ⟨a1, a2⟩ := Bool.and_eq_true_iff.mp fa
    obtain ⟨g1, g2, g3⟩ := flat_eq h r a1 f
    obtain ⟨i1, i2⟩ := inV_ind r f rr a2
    refine ⟨by rw [List.all_cons, g1, i1]; rfl, ?_⟩
    unfold inV ind at i2 ⊢
    rw [List.any_cons, List.any_cons, g3, i2]
def rInZ (K : PySem.W.Frag) (neg : Bool) : R2 := fun x y H Q => ∃ G d ds e, Sub G H ∧ Rep K G d x ∧ Rep K G e y ∧ (e = .lst ds ∨ e = .tup ds) ∧ flatD d = true ∧ ds.all flatD = true ∧ Q (.bl (if neg then !ind d ds else ind d ds)) H
theorem rInZ_rIn {K neg x y H Q} (h : rInZ K neg x y H Q) : rIn K neg x y H Q := by
  obtain ⟨G, d, ds, e, sb, r1, r2, he, f1, f2, q⟩ := h
  rcases he with he | he <;> subst he
  · cases r2 with
    | lst hl rr =>
      obtain ⟨i1, i2⟩ := inV_ind r1 f1 rr f2
      exact ⟨_, _, rfl, .inl (SqL.of (sb _ _ hl)), (flat_eq r1 r1 f1 f1).1, i1, by rw [i2]; exact q⟩
  · cases r2 with
    | tup hl rr =>
      obtain ⟨i1, i2⟩ := inV_ind r1 f1 rr f2
      exact ⟨_, _, rfl, .inr (Sub.st sb hl), (flat_eq r1 r1 f1 f1).1, i1, by rw [i2]; exact q⟩
theorem op_inZ : OpR X (compareOp .In) (rInZ X.K false) := fun pins s σ H x y v u Q I rx ry h => op_in_seq pins s σ H x y v u Q I rx ry (rInZ_rIn h)
theorem op_notInZ : OpR X (compareOp .NotIn) (rInZ X.K true) := fun pins s σ H x y v u Q I rx ry h => op_notIn_seq pins s σ H x y v u Q I rx ry (rInZ_rIn h)
end
end Fz
end

section
namespace Fz
open PySem PySem.Spec PyProof.Rows L2
/-- an answer of the shape that QR takes -/
abbrev Ans1 (K : PySem.W.Frag) (F : List Addr) (S : Store) (H : Hp) (d : D) (Q' : VK) : Prop := ∀ w H', Stp F S H S H' → HC K F S H' → Rep K (vw F S H') d w → Q' w H'
/-- r on the values of x, y answers d and leaves the store -/
def Gives2 (K : PySem.W.Frag) (r : R2) (x y d : D) : Prop := ∀ F S H v u Q', HC K F S H → Rep K (vw F S H) x v → Rep K (vw F S H) y u → Ans1 K F S H d Q' → r v u H Q'
def GivesC (K : PySem.W.Frag) (r : List V → Hp → VK → Prop) (ds : List D) (d : D) : Prop := ∀ F S H vs Q', HC K F S H → RepL K (vw F S H) ds vs → Ans1 K F S H d Q' → r vs H Q'
section
variable {X : Cx} {Ex : AX} {Γ : Gam} {S : Store} {Q : DQ} {a b e : Expr} {es : List Expr} {pos p p2 : Pos} {d x y : D} {ds : List D} {K : PySem.W.Frag}
theorem Ans1.of {F H} {Q' : VK} (k : QR K F S H Q Q') (q : Q d S) : Ans1 K F S H d Q' := fun w H' t hc r => k w H' d S t hc r q
theorem Ans1.self {F H} {Q' : VK} (hc : HC K F S H) (k : Ans1 K F S H d Q') {v : V} (r : Rep K (vw F S H) d v) : Q' v H := k v H .refl hc r
theorem Ans1.new {F H} {Q' : VK} (hc : HC K F S H) (k : Ans1 K F S H d Q') {p : Addr} {o : HO} (hp : H p = none) (r : ∀ G, Sub (vw F S H) G → G p = some o → Rep K G d (.ref p)) : Q' (.ref p) (upd H p o) := by
  obtain ⟨n1, n2, n3⟩ := hc.new (o := o) hp
  exact k _ _ n2 n1 (r _ n2.ext n3)
theorem ze_opG {op : Operator} {r : R2} (ho : OpR X (binaryOp op) r) (h : ZE X Ex a Γ S fun x S1 => ZE X Ex b Γ S1 fun y S2 => ∃ d, Gives2 X.K r x y d ∧ Q d S2) : ZE X Ex (.BinOp a op b pos) Γ S Q :=
  ze_op (R := fun x y S2 Q => ∃ d, Gives2 X.K r x y d ∧ Q d S2) ho (fun F S H x y v u Q Q' _ hc r1 r2 ⟨d, g, q⟩ k => g F S H v u Q' hc r1 r2 (.of k q)) h
theorem zv_opG {op : Operator} {r : R2} (ho : OpR X (binaryOp op) r) (hx : ZV X a Γ S x) (hy : ZV X b Γ S y) (g : Gives2 X.K r x y d) : ZV X (.BinOp a op b pos) Γ S d := fun Ex Q q => ze_opG ho (hx.ze (hy.ze ⟨d, g, q⟩))
theorem ze_cmpG {op : CmpOp} {r : R2} (ho : OpR X (compareOp op) r) (hm : behindInMarks op b = false) (h : ZE X Ex a Γ S fun x S1 => ZE X Ex b Γ S1 fun y S2 => ∃ d, Gives2 X.K r x y d ∧ Q d S2) : ZE X Ex (.Compare a [op] [b] pos) Γ S Q :=
  ze_cmp (R := fun x y S2 Q => ∃ d, Gives2 X.K r x y d ∧ Q d S2) ho (fun F S H x y v u Q Q' _ hc r1 r2 ⟨d, g, q⟩ k => g F S H v u Q' hc r1 r2 (.of k q)) hm h
theorem zv_cmpG {op : CmpOp} {r : R2} (ho : OpR X (compareOp op) r) (hx : ZV X a Γ S x) (hy : ZV X b Γ S y) (g : Gives2 X.K r x y d) (hm : behindInMarks op b = false) : ZV X (.Compare a [op] [b] pos) Γ S d := fun Ex Q q => ze_cmpG ho hm (hx.ze (hy.ze ⟨d, g, q⟩))
theorem zt_cmpG {op : CmpOp} {r : R2} {Q : Bool → Store → Prop} (ho : OpR X (compareOp op) r) (hm : behindInMarks op b = false) (h : ZE X Ex a Γ S fun x S1 => ZE X Ex b Γ S1 fun y S2 => ∃ t, Gives2 X.K r x y (.bl t) ∧ Q t S2) : ZT X Ex (.Compare a [op] [b] pos) Γ S Q :=
  zt_cmp (R := fun x y S2 Q => ∃ d, Gives2 X.K r x y d ∧ Q d S2) ho (fun F S H x y v u Q Q' _ hc r1 r2 ⟨d, g, q⟩ k => g F S H v u Q' hc r1 r2 (.of k q)) hm (h.mono fun x S1 h2 => h2.mono fun y S2 ⟨t, g, q⟩ => ⟨.bl t, g, t, rfl, q⟩)
theorem zb_cmpG {op : CmpOp} {r : R2} {t : Bool} (ho : OpR X (compareOp op) r) (hx : ZV X a Γ S x) (hy : ZV X b Γ S y) (g : Gives2 X.K r x y (.bl t)) (hm : behindInMarks op b = false) : ZB X (.Compare a [op] [b] pos) Γ S t := fun Ex Q q => zt_cmpG ho hm (hx.ze (hy.ze ⟨t, g, q⟩))
/-- a chain of two comparisons -/
theorem ze_chain {c : Expr} {op op' : CmpOp} {r r' : R2} (ho : OpR X (compareOp op) r) (ho' : OpR X (compareOp op') r') (h : ZE X Ex a Γ S fun x S1 => ZE X Ex b Γ S1 fun y S2 => ∃ t, Gives2 X.K r x y (.bl t) ∧ if t = true then ZE X Ex c Γ S2 fun z S3 => ∃ d, Gives2 X.K r' y z d ∧ Q d S3 else Q (.bl false) S2)
    (h2 : lastMarks [op, op'] [b, c] = false := by rfl) : ZE X Ex (.Compare a [op, op'] [b, c] pos) Γ S Q :=
  ze_of (pe_chain ho ho' pe_self pe_self pe_self h2) fun F σ H co Q' k => h F σ H co _ fun v H1 x S1 t1 c1 r1 q1 => q1 F σ H1 (co.step t1 c1) _ fun u H2 y S2 t2 c2 r2 ⟨t, g, q2⟩ =>
    g F S2 H2 v u _ c2 (r1.mono t2.ext) r2 fun w H3 t3 c3 r3 => by
      cases r3
      refine ⟨t, rfl, ?_⟩
      cases t with
      | false => exact k _ _ _ _ ((t1.trans t2).trans t3) c3 .bl q2
      | true =>
        exact q2 F σ H3 (((co.step t1 c1).step t2 c2).step t3 c3) _ fun z' H4 z S4 t4 c4 r4 ⟨d, g2, q4⟩ =>
          g2 F S4 H4 u z' Q' c4 ((r2.mono t3.ext).mono t4.ext) r4 (.of (k.step (((t1.trans t2).trans t3).trans t4)) q4)

/-! ### operators on data -/
abbrev rI2 (g : Int → Int → Int) : R2 := rI0 fun i j => .int (g i j)
theorem g_I0 {g : Int → Int → V} {i j : Int} (h : ∀ G, Rep K G d (g i j)) : Gives2 K (rI0 g) (.int i) (.int j) d := fun F S H v u Q' hc r1 r2 k => by
  cases r1; cases r2; exact ⟨i, j, rfl, rfl, k.self hc (h _)⟩
theorem g_I {C : Int → Int → Prop} {g : Int → Int → V} {i j : Int} (hC : C i j) (h : ∀ G, Rep K G d (g i j)) : Gives2 K (rI C g) (.int i) (.int j) d := fun F S H v u Q' hc r1 r2 k => by
  cases r1; cases r2; exact ⟨i, j, rfl, rfl, hC, k.self hc (h _)⟩
def rAddS : R2 := fun x y H Q => ∃ i j, x = .str i ∧ y = .str j ∧ i.length + j.length ≤ sizeLine ∧ Q (.str (i ++ j)) H
def rAddZ (K : PySem.W.Frag) : R2 := fun x y H Q => (((rI0 fun i j => .int (i + j)) x y H Q) ∨ rAddS x y H Q) ∨ (rCat x y H Q ∨ rCatA K x y H Q)
theorem op_addZ : OpR X (binaryOp .Add) (rAddZ X.K) := (op_add.or op_add_str).or (op_cat.or op_catA)
def addR : D → D → Option D
  | .int i, .int j => some (.int (i + j))
  | .str a, .str b => some (.str (a ++ b))
  | .lst a, .lst b => some (.lst (a ++ b))
  | .tup a, .tup b => some (.tup (a ++ b))
  | _, _ => none
def addOk : D → D → Prop
  | .str a, .str b => a.length + b.length ≤ 16777000
  | .lst a, .lst b => a.length + b.length ≤ 16777216
  | .tup a, .tup b => a.length + b.length ≤ 16777216
  | _, _ => True
theorem str_app {a b : List Nat} : ((⟨a.toArray⟩ : Str) ++ ⟨b.toArray⟩) = ⟨(a ++ b).toArray⟩ := by
  show (⟨a.toArray ++ b.toArray⟩ : Str) = _
  simp
theorem g_add (e : addR x y = some d) (ok : addOk x y) : Gives2 K (rAddZ K) x y d := fun F S H v u Q' hc r1 r2 k => by
  cases r1 with
  | int => cases r2 with
    | int => cases e; exact .inl (.inl ⟨_, _, rfl, rfl, k.self hc .int⟩)
    | _ => cases e
  | str h1 => cases r2 with
    | str h2 =>
      cases e
      have hz : (_ : List Nat).length + (_ : List Nat).length ≤ 16777000 := ok
      refine .inl (.inr ⟨_, _, rfl, rfl, ?_, ?_⟩)
      · exact small (Nat.le_trans (by simpa [Str.length] using hz) (by decide))
      · rw [str_app]; exact k.self hc (.str (by simpa using hz))
    | _ => cases e
  | lst h1 rr1 => cases r2 with
    | lst h2 rr2 =>
      cases e
      have hz : (_ : List D).length + (_ : List D).length ≤ 16777216 := ok
      refine .inr (.inl ⟨_, _, _, _, rfl, rfl, hd_sub _ _ h1, hd_sub _ _ h2, small (by rw [← rr1.length, ← rr2.length]; exact hz), fun p hp => k.new hc hp fun G sb e => .lst e ((rr1.mono sb).app (rr2.mono sb))⟩)
    | _ => cases e
  | tup h1 rr1 => cases r2 with
    | tup h2 rr2 =>
      cases e
      have hz : (_ : List D).length + (_ : List D).length ≤ 16777216 := ok
      refine .inr (.inr ⟨_, _, _, _, rfl, rfl, st_H h1, st_H h2, small (by rw [← rr1.length, ← rr2.length]; exact hz), fun e => ?_, fun _ e => ?_, fun _ _ p hp => k.new hc hp fun G sb e => .tup (SqT.of e) ((rr1.mono sb).app (rr2.mono sb))⟩)
      · subst e
        cases rr1
        exact k.self hc (.tup h2 rr2)
      · subst e
        cases rr2
        rw [List.append_nil] at k
        exact k.self hc (.tup h1 rr1)
    | _ => cases e
  | _ => cases e
theorem zv_add (hx : ZV X a Γ S x) (hy : ZV X b Γ S y) (e : addR x y = some d := by rfl) (ok : addOk x y := by first | exact True.intro | (show _ ≤ _; simp; done) | (show _ ≤ _; omega)) : ZV X (.BinOp a .Add b pos) Γ S d := zv_opG op_addZ hx hy (g_add e ok)
theorem ze_add (h : ZE X Ex a Γ S fun x S1 => ZE X Ex b Γ S1 fun y S2 => ∃ d, addR x y = some d ∧ addOk x y ∧ Q d S2) : ZE X Ex (.BinOp a .Add b pos) Γ S Q := ze_opG op_addZ (h.mono fun x S1 h => h.mono fun y S2 ⟨d, e, ok, q⟩ => ⟨d, g_add e ok, q⟩)
theorem zv_sub {i j : Int} (hx : ZV X a Γ S (.int i)) (hy : ZV X b Γ S (.int j)) : ZV X (.BinOp a .Sub b pos) Γ S (.int (i - j)) := zv_opG op_sub hx hy (g_I0 fun _ => .int)
theorem zv_mul {i j : Int} (hx : ZV X a Γ S (.int i)) (hy : ZV X b Γ S (.int j)) (h : CMul i j) : ZV X (.BinOp a .Mult b pos) Γ S (.int (i * j)) := zv_opG op_mul hx hy (g_I h fun _ => .int)
theorem zv_fdiv {i j : Int} (hx : ZV X a Γ S (.int i)) (hy : ZV X b Γ S (.int j)) (h : 0 < j ∧ j < 1073741824) : ZV X (.BinOp a .FloorDiv b pos) Γ S (.int (i / j)) := zv_opG op_fdiv hx hy (g_I h fun _ => .int)
theorem zv_mod {i j : Int} (hx : ZV X a Γ S (.int i)) (hy : ZV X b Γ S (.int j)) (h : 0 < j) : ZV X (.BinOp a .Mod b pos) Γ S (.int (i % j)) := zv_opG op_mod hx hy (g_I h fun _ => .int)
theorem zv_pow {i j : Int} (hx : ZV X a Γ S (.int i)) (hy : ZV X b Γ S (.int j)) (h : CPow i j) : ZV X (.BinOp a .Pow b pos) Γ S (.int (i ^ j.toNat)) := zv_opG op_pow hx hy (g_I h fun _ => .int)
theorem zv_neg {i : Int} (hx : ZV X a Γ S (.int i)) : ZV X (.UnaryOp .USub a pos) Γ S (.int (-i)) := fun Ex Q q =>
  ze_of (pe_un un_neg pe_self) fun F σ H c Q' k => hx Ex (fun d S' => d = .int i ∧ Q (.int (-i)) S') ⟨rfl, q⟩ F σ H c _ fun v H' d S' t hc r ⟨e, q⟩ => by
    subst e; cases r; exact ⟨i, rfl, k _ _ _ _ t hc .int q⟩
theorem ze_neg (h : ZE X Ex a Γ S fun d S1 => ∃ i : Int, d = .int i ∧ Q (.int (-i)) S1) : ZE X Ex (.UnaryOp .USub a pos) Γ S Q :=
  ze_of (pe_un un_neg pe_self) fun F σ H c Q' k => h F σ H c _ fun v H' d S' t hc r ⟨i, e, q⟩ => by
    subst e; cases r; exact ⟨i, rfl, k _ _ _ _ t hc .int q⟩
/-- a list, so many times -/
def rMulZ : R2 := fun x y H Q => (rI CMul fun i j => .int (i * j)) x y H Q ∨ rRep x y H Q
theorem op_mulZ : OpR X (binaryOp .Mult) rMulZ := op_mul.or op_rep
theorem RepL.rep {K G} {ds : List D} {vs : List V} (r : RepL K G ds vs) : ∀ n, RepL K G (List.replicate n ds).flatten (List.replicate n vs).flatten
  | 0 => .nil
  | n + 1 => by rw [List.replicate_succ, List.replicate_succ, List.flatten_cons, List.flatten_cons]; exact r.app (RepL.rep r n)
theorem g_rep {k : Int} (h : 0 ≤ k ∧ k < 2 ^ 63 ∧ ds.length * k.toNat ≤ 16777216) : Gives2 K rRep (.lst ds) (.int k) (.lst (List.replicate k.toNat ds).flatten) := fun F S H v u Q' hc r1 r2 q => by
  cases r1 with
  | lst h1 rr =>
    cases r2
    exact ⟨_, k, _, rfl, rfl, hd_sub _ _ h1, by omega, h.2.1, small (by rw [← rr.length]; exact h.2.2), fun p hp => q.new hc hp fun G sb e => .lst e ((rr.mono sb).rep _)⟩
theorem zv_rep {k : Int} (hx : ZV X a Γ S (.lst ds)) (hy : ZV X b Γ S (.int k)) (h : 0 ≤ k ∧ k < 2 ^ 63 ∧ ds.length * k.toNat ≤ 16777216) : ZV X (.BinOp a .Mult b pos) Γ S (.lst (List.replicate k.toNat ds).flatten) := zv_opG op_rep hx hy (g_rep h)

/-! ### comparisons of data -/
theorem g_eq (d1 : dat x 60 = true) (d2 : dat y 60 = true) : Gives2 K (rEqZ K) x y (.bl (deq x y)) := fun F S H v u Q' hc r1 r2 k => ⟨_, x, y, hd_sub, r1, r2, d1, d2, k.self hc .bl⟩
theorem g_ne (d1 : dat x 60 = true) (d2 : dat y 60 = true) : Gives2 K (rNeZ K) x y (.bl (!deq x y)) := fun F S H v u Q' hc r1 r2 k => ⟨_, x, y, hd_sub, r1, r2, d1, d2, k.self hc .bl⟩
theorem units_of {k : Nat} (hr : Room k X.A) : X.A.units + 64 < cLine := hr.units
theorem g_in (e : y = .lst ds ∨ y = .tup ds) (f1 : flatD x = true) (f2 : ds.all flatD = true) : Gives2 K (rInZ K false) x y (.bl (ind x ds)) := fun F S H v u Q' hc r1 r2 k => ⟨_, x, ds, y, hd_sub, r1, r2, e, f1, f2, k.self hc .bl⟩
theorem g_notIn (e : y = .lst ds ∨ y = .tup ds) (f1 : flatD x = true) (f2 : ds.all flatD = true) : Gives2 K (rInZ K true) x y (.bl (!ind x ds)) := fun F S H v u Q' hc r1 r2 k => ⟨_, x, ds, y, hd_sub, r1, r2, e, f1, f2, k.self hc .bl⟩
def rSgn (neg : Bool) : R2 := fun x y H Q => ∃ (c : Nat) (z : Str), x = .str ⟨#[c]⟩ ∧ y = .str z ∧ Q (.bl (if neg then !decide (c ∈ z.cps.toList) else decide (c ∈ z.cps.toList))) H
theorem op_inSgn : OpR X (compareOp .In) (rSgn false) := fun pins s σ H x y v u Q I rx ry h => op_in_sign pins s σ H x y v u Q I rx ry h
theorem op_notInSgn : OpR X (compareOp .NotIn) (rSgn true) := fun pins s σ H x y v u Q I rx ry h => op_notIn_sign pins s σ H x y v u Q I rx ry h
theorem g_sgn {c : Nat} {z : List Nat} {neg : Bool} {t : Bool} (e : t = if neg then !decide (c ∈ z) else decide (c ∈ z)) : Gives2 K (rSgn neg) (.str [c]) (.str z) (.bl t) := fun F S H v u Q' hc r1 r2 k => by
  cases r1; cases r2
  refine ⟨c, ⟨z.toArray⟩, rfl, rfl, ?_⟩
  subst e
  exact k.self hc .bl
/-- a comparison, as a value or as a test -/
def ZC (X : Cx) (op : CmpOp) (a b : Expr) (Γ : Gam) (S : Store) (d : D) : Prop := ∃ r x y, OpR X (compareOp op) r ∧ ZV X a Γ S x ∧ ZV X b Γ S y ∧ Gives2 X.K r x y d ∧ behindInMarks op b = false
theorem zv_c {op : CmpOp} (h : ZC X op a b Γ S d) : ZV X (.Compare a [op] [b] pos) Γ S d := by
  obtain ⟨r, x, y, ho, hx, hy, g, hm⟩ := h
  exact zv_cmpG ho hx hy g hm
theorem zb_c {op : CmpOp} {t : Bool} (h : ZC X op a b Γ S (.bl t)) : ZB X (.Compare a [op] [b] pos) Γ S t := by
  obtain ⟨r, x, y, ho, hx, hy, g, hm⟩ := h
  exact zb_cmpG ho hx hy g hm
theorem zc_inS {c : Nat} {z : List Nat} (hx : ZV X a Γ S (.str [c])) (hy : ZV X b Γ S (.str z)) (hm : behindInMarks .In b = false := by rfl) : ZC X .In a b Γ S (.bl (decide (c ∈ z))) := ⟨_, _, _, op_inSgn, hx, hy, (g_sgn rfl), hm⟩
theorem zc_notInS {c : Nat} {z : List Nat} (hx : ZV X a Γ S (.str [c])) (hy : ZV X b Γ S (.str z)) (hm : behindInMarks .NotIn b = false := by rfl) : ZC X .NotIn a b Γ S (.bl (!decide (c ∈ z))) := ⟨_, _, _, op_notInSgn, hx, hy, (g_sgn rfl), hm⟩
theorem zc_in (hx : ZV X a Γ S x) (hy : ZV X b Γ S y) (e : itemsOf y = some ds) (f1 : flatD x = true) (f2 : ds.all flatD = true) (e2 : y = .lst ds ∨ y = .tup ds := by first | exact .inl rfl | exact .inr rfl) (hm : behindInMarks .In b = false := by rfl) : ZC X .In a b Γ S (.bl (ind x ds)) :=
  ⟨_, _, _, op_inZ, hx, hy, (g_in e2 f1 f2), hm⟩
theorem zc_notIn (hx : ZV X a Γ S x) (hy : ZV X b Γ S y) (e : itemsOf y = some ds) (f1 : flatD x = true) (f2 : ds.all flatD = true) (e2 : y = .lst ds ∨ y = .tup ds := by first | exact .inl rfl | exact .inr rfl) (hm : behindInMarks .NotIn b = false := by rfl) : ZC X .NotIn a b Γ S (.bl (!ind x ds)) :=
  ⟨_, _, _, op_notInZ, hx, hy, (g_notIn e2 f1 f2), hm⟩
theorem zc_eq {j : Nat} (hr : Room j X.A) (hx : ZV X a Γ S x) (hy : ZV X b Γ S y) (d1 : dat x 60 = true) (d2 : dat y 60 = true) {t : Bool} (e : deq x y = t) : ZC X .Eq a b Γ S (.bl t) := e ▸ ⟨_, _, _, (op_eqZ hr.units), hx, hy, (g_eq d1 d2), (nomark _)⟩
theorem zc_ne {j : Nat} (hr : Room j X.A) (hx : ZV X a Γ S x) (hy : ZV X b Γ S y) (d1 : dat x 60 = true) (d2 : dat y 60 = true) {t : Bool} (e : deq x y = t) : ZC X .NotEq a b Γ S (.bl (!t)) := e ▸ ⟨_, _, _, (op_neZ hr.units), hx, hy, (g_ne d1 d2), (nomark _)⟩
/-- ints, texts, truths -/
def rEqF : R2 := rEq
theorem g_eqI {i j : Int} : Gives2 K rEq (.int i) (.int j) (.bl (decide (i = j))) := fun F S H v u Q' hc r1 r2 k => by
  cases r1; cases r2
  exact ⟨rfl, by rw [show decide (V.int i = V.int j) = decide (i = j) by simp]; exact k.self hc .bl⟩
theorem g_eqS {i j : List Nat} : Gives2 K rEq (.str i) (.str j) (.bl (decide (i = j))) := fun F S H v u Q' hc r1 r2 k => by
  cases r1; cases r2
  exact ⟨rfl, by rw [show decide (V.str ⟨i.toArray⟩ = V.str ⟨j.toArray⟩) = decide (i = j) by simp]; exact k.self hc .bl⟩
theorem g_eqB {i j : Bool} : Gives2 K rEq (.bl i) (.bl j) (.bl (decide (i = j))) := fun F S H v u Q' hc r1 r2 k => by
  cases r1; cases r2
  exact ⟨rfl, by rw [show decide (V.bl i = V.bl j) = decide (i = j) by simp]; exact k.self hc .bl⟩
theorem g_neI {i j : Int} : Gives2 K rNe (.int i) (.int j) (.bl (!decide (i = j))) := fun F S H v u Q' hc r1 r2 k => by
  cases r1; cases r2
  exact ⟨rfl, by rw [show decide (V.int i = V.int j) = decide (i = j) by simp]; exact k.self hc .bl⟩
theorem g_neS {i j : List Nat} : Gives2 K rNe (.str i) (.str j) (.bl (!decide (i = j))) := fun F S H v u Q' hc r1 r2 k => by
  cases r1; cases r2
  exact ⟨rfl, by rw [show decide (V.str ⟨i.toArray⟩ = V.str ⟨j.toArray⟩) = decide (i = j) by simp]; exact k.self hc .bl⟩
theorem g_neB {i j : Bool} : Gives2 K rNe (.bl i) (.bl j) (.bl (!decide (i = j))) := fun F S H v u Q' hc r1 r2 k => by
  cases r1; cases r2
  exact ⟨rfl, by rw [show decide (V.bl i = V.bl j) = decide (i = j) by simp]; exact k.self hc .bl⟩
theorem zc_eqI {i j : Int} (hx : ZV X a Γ S (.int i)) (hy : ZV X b Γ S (.int j)) : ZC X .Eq a b Γ S (.bl (decide (i = j))) := ⟨_, _, _, op_eq, hx, hy, g_eqI, (nomark _)⟩
theorem zc_eqS {i j : List Nat} (hx : ZV X a Γ S (.str i)) (hy : ZV X b Γ S (.str j)) : ZC X .Eq a b Γ S (.bl (decide (i = j))) := ⟨_, _, _, op_eq, hx, hy, g_eqS, (nomark _)⟩
theorem zc_eqB {i j : Bool} (hx : ZV X a Γ S (.bl i)) (hy : ZV X b Γ S (.bl j)) : ZC X .Eq a b Γ S (.bl (decide (i = j))) := ⟨_, _, _, op_eq, hx, hy, g_eqB, (nomark _)⟩
theorem zc_neI {i j : Int} (hx : ZV X a Γ S (.int i)) (hy : ZV X b Γ S (.int j)) : ZC X .NotEq a b Γ S (.bl (!decide (i = j))) := ⟨_, _, _, op_ne, hx, hy, g_neI, (nomark _)⟩
theorem zc_neS {i j : List Nat} (hx : ZV X a Γ S (.str i)) (hy : ZV X b Γ S (.str j)) : ZC X .NotEq a b Γ S (.bl (!decide (i = j))) := ⟨_, _, _, op_ne, hx, hy, g_neS, (nomark _)⟩
theorem zc_neB {i j : Bool} (hx : ZV X a Γ S (.bl i)) (hy : ZV X b Γ S (.bl j)) : ZC X .NotEq a b Γ S (.bl (!decide (i = j))) := ⟨_, _, _, op_ne, hx, hy, g_neB, (nomark _)⟩
theorem zc_lt {i j : Int} (hx : ZV X a Γ S (.int i)) (hy : ZV X b Γ S (.int j)) : ZC X .Lt a b Γ S (.bl (decide (i < j))) := ⟨_, _, _, op_lt, hx, hy, (g_I0 fun _ => .bl), (nomark _)⟩
theorem zc_le {i j : Int} (hx : ZV X a Γ S (.int i)) (hy : ZV X b Γ S (.int j)) : ZC X .LtE a b Γ S (.bl (decide (i ≤ j))) := ⟨_, _, _, op_le, hx, hy, (g_I0 fun _ => .bl), (nomark _)⟩
theorem zc_gt {i j : Int} (hx : ZV X a Γ S (.int i)) (hy : ZV X b Γ S (.int j)) : ZC X .Gt a b Γ S (.bl (decide (j < i))) := ⟨_, _, _, op_gt, hx, hy, (g_I0 fun _ => .bl), (nomark _)⟩
theorem zc_ge {i j : Int} (hx : ZV X a Γ S (.int i)) (hy : ZV X b Γ S (.int j)) : ZC X .GtE a b Γ S (.bl (decide (j ≤ i))) := ⟨_, _, _, op_ge, hx, hy, (g_I0 fun _ => .bl), (nomark _)⟩
theorem g_ltS {i j : List Nat} : Gives2 K (fun x y H Q => ∃ i j, x = .str i ∧ y = .str j ∧ Q (.bl (decide (i.cps.toList < j.cps.toList))) H) (.str i) (.str j) (.bl (decide (i < j))) := fun F S H v u Q' hc r1 r2 k => by
  cases r1; cases r2
  exact ⟨_, _, rfl, rfl, k.self hc .bl⟩
theorem zc_ltS {i j : List Nat} (hx : ZV X a Γ S (.str i)) (hy : ZV X b Γ S (.str j)) : ZC X .Lt a b Γ S (.bl (decide (i < j))) := ⟨_, _, _, op_lt_str, hx, hy, g_ltS, (nomark _)⟩
theorem g_geS {i j : List Nat} : Gives2 K (fun x y H Q => ∃ i j, x = .str i ∧ y = .str j ∧ Q (.bl (!decide (i.cps.toList < j.cps.toList))) H) (.str i) (.str j) (.bl (!decide (i < j))) := fun F S H v u Q' hc r1 r2 k => by
  cases r1; cases r2
  exact ⟨_, _, rfl, rfl, k.self hc .bl⟩
theorem zc_geS {i j : List Nat} (hx : ZV X a Γ S (.str i)) (hy : ZV X b Γ S (.str j)) : ZC X .GtE a b Γ S (.bl (!decide (i < j))) := ⟨_, _, _, op_ge_str, hx, hy, g_geS, (nomark _)⟩
/-- is None -/
def isNon : D → Bool
  | .non => true
  | _ => false
theorem isNon_v {G v} (r : Rep K G x v) : decide (v = V.non) = isNon x := by cases r <;> rfl
theorem zv_isN {j pos'} (hx : ZV X a Γ S x) : ZV X (.Compare a [.Is] [.Constant .none j pos'] pos) Γ S (.bl (isNon x)) := fun Ex Q q =>
  ze_of (pe_cmp (pc_isN pe_self) rfl) fun F σ H c Q' k => hx Ex (fun d S' => d = x ∧ Q (.bl (isNon x)) S') ⟨rfl, q⟩ F σ H c _ fun v H' d S' t hc r ⟨e, q⟩ => by
    subst e; rw [isNon_v r]; exact k _ _ _ _ t hc .bl q
theorem zv_notN {j pos'} (hx : ZV X a Γ S x) : ZV X (.Compare a [.IsNot] [.Constant .none j pos'] pos) Γ S (.bl (!isNon x)) := fun Ex Q q =>
  ze_of (pe_cmp (pc_notN pe_self) rfl) fun F σ H c Q' k => hx Ex (fun d S' => d = x ∧ Q (.bl (!isNon x)) S') ⟨rfl, q⟩ F σ H c _ fun v H' d S' t hc r ⟨e, q⟩ => by
    subst e; rw [isNon_v r]; exact k _ _ _ _ t hc .bl q
/-- a value as a test -/
theorem zb_val {t : Bool} (h : ZV X e Γ S (.bl t)) (he : ∀ whole, isTrue e X.env whole = (do let v ← whole; standAt e.pos; holding [v] (truthy v)) := by intro _; rfl) : ZB X e Γ S t := fun Ex Q q => zt_val (h.ze ⟨t, rfl, q⟩) he
theorem zb_not {t : Bool} (h : ZB X a Γ S t) : ZB X (.UnaryOp .Not a pos) Γ S (!t) := fun Ex Q q => zt_not (h.zt q)
theorem zb_isN {j pos'} (hx : ZV X a Γ S x) : ZB X (.Compare a [.Is] [.Constant .none j pos'] pos) Γ S (isNon x) := fun Ex Q q =>
  zt_of (pt_cmp (pc_isN pe_self) rfl) fun F σ H c Q' k => hx Ex (fun d S' => d = x ∧ Q (isNon x) S') ⟨rfl, q⟩ F σ H c _ fun v H' d S' t hc r ⟨e, q⟩ => by
    subst e; exact ⟨_, congrArg V.bl (isNon_v r), k _ _ _ t hc q⟩
theorem zb_notN {j pos'} (hx : ZV X a Γ S x) : ZB X (.Compare a [.IsNot] [.Constant .none j pos'] pos) Γ S (!isNon x) := fun Ex Q q =>
  zt_of (pt_cmp (pc_notN pe_self) rfl) fun F σ H c Q' k => hx Ex (fun d S' => d = x ∧ Q (!isNon x) S') ⟨rfl, q⟩ F σ H c _ fun v H' d S' t hc r ⟨e, q⟩ => by
    subst e; exact ⟨_, congrArg (fun z => V.bl (!z)) (isNon_v r), k _ _ _ t hc q⟩
end
end Fz
end

section
namespace Fz
open PySem PySem.Spec PyProof.Rows L2
/-- the built-in names are the built-in ones -/
structure Bn (mg : Str → Option Value) : Prop where
  len : mg "len" = none
  all : mg "all" = none
  any : mg "any" = none
  sum : mg "sum" = none
  min : mg "min" = none
  max : mg "max" = none
  sorted : mg "sorted" = none
  abs : mg "abs" = none
  int : mg "int" = none
  str : mg "str" = none
  tuple : mg "tuple" = none
  list : mg "list" = none
  range : mg "range" = none
  repr : mg "repr" = none
  isinstance : mg "isinstance" = none
  divmod : mg "divmod" = none
  enumerate : mg "enumerate" = none
  zip : mg "zip" = none
  dict : mg "dict" = none
  set : mg "set" = none
  bool : mg "bool" = none
section
variable {X : Cx} {Ex : AX} {Γ : Gam} {S : Store} {Q : DQ} {a b o e value : Expr} {es : List Expr} {pos p p2 pos' apos : Pos} {d x y : D} {ds : List D} {K : PySem.W.Frag} {DE : AEnds} {n : Str}

/-! ### built-in functions -/
theorem ze_callBG {id : String} {r : List V → Hp → VK → Prop} (hc : CallR X (.builtin id) r) (hm : X.mg n = none) (hv : bootBuiltins n = some (.builtin id)) (h : ZA X Ex (e :: es) Γ S fun ds S1 => ∃ d, GivesC X.K r ds d ∧ Q d S1) (hg : Gl X n := by rfl) (hn : n ≠ "__name__" := by decide) (hdb : (n == ("__debug__" : Str)) = false := by decide)
    (he : starEach (e :: es) X.env = (false, eval e X.env) :: starEach es X.env := by rfl) (hpl : (backTo pos (starEach es X.env)).any (·.1) = false := by rfl) : ZE X Ex (.Call (.Name n p) (e :: es) [] pos) Γ S Q :=
  ze_of (pe_callB hc hg hm hv pa_self hn hdb he hpl) fun F σ H co Q' k => h F σ H co _ fun vs H1 ds S1 t hc r ⟨d, g, q⟩ => g F S1 H1 vs Q' hc r (.of (k.step t) q)
theorem ze_callTG {T : String} {r : List V → Hp → VK → Prop} (hc : CallR X (.type T) r) (hm : X.mg n = none) (hv : bootBuiltins n = some (.type T)) (h : ZA X Ex (e :: es) Γ S fun ds S1 => ∃ d, GivesC X.K r ds d ∧ Q d S1) (hg : Gl X n := by rfl) (hn : n ≠ "__name__" := by decide) (hdb : (n == ("__debug__" : Str)) = false := by decide)
    (he : starEach (e :: es) X.env = (false, eval e X.env) :: starEach es X.env := by rfl) (hpl : (backTo pos (starEach es X.env)).any (·.1) = false := by rfl) : ZE X Ex (.Call (.Name n p) (e :: es) [] pos) Γ S Q :=
  ze_of (pe_callTy hc hg hm hv pa_self hn hdb he hpl) fun F σ H co Q' k => h F σ H co _ fun vs H1 ds S1 t hc r ⟨d, g, q⟩ => g F S1 H1 vs Q' hc r (.of (k.step t) q)
/-- one argument, a pure one -/
abbrev s1 (X : Cx) (e : Expr) : Prop := starEach [e] X.env = (false, eval e X.env) :: starEach [] X.env
theorem zl1 {e : Expr} (h : ZV X e Γ S d) (hs : s1 X e := by rfl) : ZL X [e] Γ S [d] := zl_cons h zl_nil hs
theorem rep1 {K G vs} (r : RepL K G [d] vs) : ∃ v, vs = [v] ∧ Rep K G d v := by
  cases r with | cons h r => cases r; exact ⟨_, rfl, h⟩
theorem rep2 {K G vs} (r : RepL K G [x, y] vs) : ∃ v w, vs = [v, w] ∧ Rep K G x v ∧ Rep K G y w := by
  cases r with | cons h r => cases r with | cons h2 r => cases r; exact ⟨_, _, rfl, h, h2⟩
def lenD : D → Option Nat
  | .lst ds => some ds.length
  | .tup ds => some ds.length
  | .str x => some x.length
  | .scr ns => some ns.length
  | _ => none
theorem g_len {k : Nat} (h : lenD d = some k) : GivesC K (fun xs H Q => ∃ x n, xs = [x] ∧ LenV K x H n ∧ Q (.int n) H) [d] (.int k) := fun F S H vs Q' hc r q => by
  obtain ⟨v, rfl, r9⟩ := rep1 r
  refine ⟨v, k, rfl, ?_, q.self hc .int⟩
  cases r9 with
  | lst h1 rr => cases h; exact .inl ⟨_, SqL.of (hd_sub _ _ h1), rr.length⟩
  | tup h1 rr => cases h; exact .inr ⟨_, st_H h1, rr.length⟩
  | str h1 => cases h; exact ⟨show (_ : List Nat).toArray.size ≤ sizeLine from small (by simp; omega), by simp [Str.length]⟩
  | scr h1 => cases h; exact .inl ⟨_, sl_H h1, by simp⟩
  | _ => cases h
theorem zv_len {k : Nat} (bn : Bn X.mg) (h : ZV X e Γ S d) (hk : lenD d = some k := by rfl) (hg : Gl X "len" := by rfl) (hs : s1 X e := by rfl) : ZV X (.Call (.Name "len" p) [e] [] pos) Γ S (.int k) := fun Ex Q q =>
  ze_callBG call_len bn.len PySem.boot_len ((zl1 h hs).za ⟨_, g_len hk, q⟩) hg (he := hs) (hpl := rfl)
theorem g_all {α : Type} {as : List α} {g : α → Bool} : GivesC K (rAll K) [.lst (as.map fun z => .bl (g z))] (.bl (as.all g)) := fun F S H vs Q' hc r q => by
  obtain ⟨v, rfl, r9⟩ := rep1 r
  cases r9 with
  | lst h1 rr =>
    have e : (as.map fun z => D.bl (g z)) = (as.map g).map D.bl := by rw [List.map_map]; rfl
    rw [e] at rr
    have e2 := rr.bls_inv
    subst e2
    refine ⟨_, as.map g, rfl, SqL.of (hd_sub _ _ h1), ?_⟩
    rw [List.all_map]; exact q.self hc .bl
theorem g_any {α : Type} {as : List α} {g : α → Bool} : GivesC K (rAny K) [.lst (as.map fun z => .bl (g z))] (.bl (as.any g)) := fun F S H vs Q' hc r q => by
  obtain ⟨v, rfl, r9⟩ := rep1 r
  cases r9 with
  | lst h1 rr =>
    have e : (as.map fun z => D.bl (g z)) = (as.map g).map D.bl := by rw [List.map_map]; rfl
    rw [e] at rr
    have e2 := rr.bls_inv
    subst e2
    refine ⟨_, as.map g, rfl, SqL.of (hd_sub _ _ h1), ?_⟩
    rw [List.any_map]; exact q.self hc .bl
theorem boot_all' : bootBuiltins "all" = some (.builtin "all") := by decide +kernel
theorem boot_any' : bootBuiltins "any" = some (.builtin "any") := by decide +kernel
theorem boot_sum' : bootBuiltins "sum" = some (.builtin "sum") := by decide +kernel
theorem boot_abs' : bootBuiltins "abs" = some (.builtin "abs") := by decide +kernel
theorem boot_max' : bootBuiltins "max" = some (.builtin "max") := by decide +kernel
theorem boot_min' : bootBuiltins "min" = some (.builtin "min") := by decide +kernel
theorem boot_divmod' : bootBuiltins "divmod" = some (.builtin "divmod") := by decide +kernel
theorem boot_int' : bootBuiltins "int" = some (.type "int") := by decide +kernel
theorem boot_str' : bootBuiltins "str" = some (.type "str") := by decide +kernel
theorem boot_tuple' : bootBuiltins "tuple" = some (.type "tuple") := by decide +kernel
theorem boot_list' : bootBuiltins "list" = some (.type "list") := by decide +kernel
theorem zv_all {α : Type} {as : List α} {g : α → Bool} (ok : X.calm = true) (bn : Bn X.mg) (h : ZV X e Γ S (.lst (as.map fun z => .bl (g z)))) (hg : Gl X "all" := by rfl) (hs : s1 X e := by rfl) : ZV X (.Call (.Name "all" p) [e] [] pos) Γ S (.bl (as.all g)) := fun Ex Q q =>
  ze_callBG (cr_all ok) bn.all boot_all' ((zl1 h hs).za ⟨_, g_all, q⟩) hg (he := hs) (hpl := rfl)
theorem zv_any {α : Type} {as : List α} {g : α → Bool} (ok : X.calm = true) (bn : Bn X.mg) (h : ZV X e Γ S (.lst (as.map fun z => .bl (g z)))) (hg : Gl X "any" := by rfl) (hs : s1 X e := by rfl) : ZV X (.Call (.Name "any" p) [e] [] pos) Γ S (.bl (as.any g)) := fun Ex Q q =>
  ze_callBG (cr_any ok) bn.any boot_any' ((zl1 h hs).za ⟨_, g_any, q⟩) hg (he := hs) (hpl := rfl)
theorem g_sum {α : Type} {as : List α} {g : α → Int} : GivesC K (rSum K) [.lst (as.map fun z => .int (g z))] (.int (as.map g).sum) := fun F S H vs Q' hc r q => by
  obtain ⟨v, rfl, r9⟩ := rep1 r
  cases r9 with
  | lst h1 rr =>
    have e : (as.map fun z => D.int (g z)) = (as.map g).map D.int := by rw [List.map_map]; rfl
    rw [e] at rr
    have e2 := rr.ints_inv
    subst e2
    exact ⟨_, as.map g, rfl, SqL.of (hd_sub _ _ h1), q.self hc .int⟩
theorem zv_sum {α : Type} {as : List α} {g : α → Int} (ok : X.calm = true) (bn : Bn X.mg) (h : ZV X e Γ S (.lst (as.map fun z => .int (g z)))) (hg : Gl X "sum" := by rfl) (hs : s1 X e := by rfl) : ZV X (.Call (.Name "sum" p) [e] [] pos) Γ S (.int (as.map g).sum) := fun Ex Q q =>
  ze_callBG (cr_sum ok) bn.sum boot_sum' ((zl1 h hs).za ⟨_, g_sum, q⟩) hg (he := hs) (hpl := rfl)
theorem zv_abs {i : Int} (bn : Bn X.mg) (h : ZV X e Γ S (.int i)) (hg : Gl X "abs" := by rfl) (hs : s1 X e := by rfl) : ZV X (.Call (.Name "abs" p) [e] [] pos) Γ S (.int (if i < 0 then -i else i)) := fun Ex Q q =>
  ze_callBG call_abs bn.abs boot_abs' ((zl1 h hs).za ⟨_, fun F S H vs Q' hc r k => by obtain ⟨v, rfl, r9⟩ := rep1 r; cases r9; exact ⟨i, rfl, k.self hc .int⟩, q⟩) hg (he := hs) (hpl := rfl)
theorem zv_max2 {i j : Int} (ok : X.calm = true) (bn : Bn X.mg) (h : ZV X a Γ S (.int i)) (h2 : ZV X b Γ S (.int j)) (hg : Gl X "max" := by rfl) (hs : starEach [a, b] X.env = (false, eval a X.env) :: starEach [b] X.env := by rfl) (hs2 : s1 X b := by rfl) (hpl : (backTo pos (starEach [b] X.env)).any (·.1) = false := by rfl) : ZV X (.Call (.Name "max" p) [a, b] [] pos) Γ S (.int (if j > i then j else i)) := fun Ex Q q =>
  ze_callBG (call_max2 ok) bn.max boot_max' ((zl_cons h (zl1 h2 hs2) hs).za ⟨_, fun F S H vs Q' hc r k => by obtain ⟨v, w, rfl, r8, r9⟩ := rep2 r; cases r8; cases r9; exact ⟨i, j, rfl, k.self hc .int⟩, q⟩) hg (he := hs) (hpl := hpl)
theorem zv_min2 {i j : Int} (ok : X.calm = true) (bn : Bn X.mg) (h : ZV X a Γ S (.int i)) (h2 : ZV X b Γ S (.int j)) (hg : Gl X "min" := by rfl) (hs : starEach [a, b] X.env = (false, eval a X.env) :: starEach [b] X.env := by rfl) (hs2 : s1 X b := by rfl) (hpl : (backTo pos (starEach [b] X.env)).any (·.1) = false := by rfl) : ZV X (.Call (.Name "min" p) [a, b] [] pos) Γ S (.int (if j < i then j else i)) := fun Ex Q q =>
  ze_callBG (call_min2 ok) bn.min boot_min' ((zl_cons h (zl1 h2 hs2) hs).za ⟨_, fun F S H vs Q' hc r k => by obtain ⟨v, w, rfl, r8, r9⟩ := rep2 r; cases r8; cases r9; exact ⟨i, j, rfl, k.self hc .int⟩, q⟩) hg (he := hs) (hpl := hpl)
theorem zv_toInt {i : Int} (bn : Bn X.mg) (h : ZV X e Γ S (.int i)) (hg : Gl X "int" := by rfl) (hs : s1 X e := by rfl) : ZV X (.Call (.Name "int" p) [e] [] pos) Γ S (.int i) := fun Ex Q q =>
  ze_callTG call_int1 bn.int boot_int' ((zl1 h hs).za ⟨_, fun F S H vs Q' hc r k => by obtain ⟨v, rfl, r9⟩ := rep1 r; cases r9; exact .inl ⟨i, rfl, k.self hc .int⟩, q⟩) hg (he := hs) (hpl := rfl)
theorem zv_toIntB {t : Bool} (bn : Bn X.mg) (h : ZV X e Γ S (.bl t)) (hg : Gl X "int" := by rfl) (hs : s1 X e := by rfl) : ZV X (.Call (.Name "int" p) [e] [] pos) Γ S (.int (if t then 1 else 0)) := fun Ex Q q =>
  ze_callTG call_int1 bn.int boot_int' ((zl1 h hs).za ⟨_, fun F S H vs Q' hc r k => by obtain ⟨v, rfl, r9⟩ := rep1 r; cases r9; exact .inr ⟨t, rfl, k.self hc .int⟩, q⟩) hg (he := hs) (hpl := rfl)
/-- tuple(xs), list(xs) -/
theorem g_tuple (h : d = .lst ds ∨ d = .tup ds) : GivesC K (fun xs H Q => ∃ p ys, xs = [.ref p] ∧ ((SqL K H p ys ∧ ∀ l, H l = none → Q (.ref l) (upd H l (.tup ys))) ∨ (SqT K H p ys ∧ Q (.ref p) H))) [d] (.tup ds) := fun F S H vs Q' hc r q => by
  obtain ⟨v, rfl, r9⟩ := rep1 r
  rcases h with h | h <;> subst h
  · cases r9 with
    | lst h1 rr => exact ⟨_, _, rfl, .inl ⟨SqL.of (hd_sub _ _ h1), fun l hl => q.new hc hl fun G sb e => .tup (SqT.of e) (rr.mono sb)⟩⟩
  · cases r9 with
    | tup h1 rr => exact ⟨_, _, rfl, .inr ⟨st_H h1, q.self hc (.tup h1 rr)⟩⟩
theorem zv_tuple (bn : Bn X.mg) (h : ZV X e Γ S d) (hd : d = .lst ds ∨ d = .tup ds := by first | exact .inl rfl | exact .inr rfl) (hg : Gl X "tuple" := by rfl) (hs : s1 X e := by rfl) : ZV X (.Call (.Name "tuple" p) [e] [] pos) Γ S (.tup ds) := fun Ex Q q =>
  ze_callTG call_tuple_of bn.tuple boot_tuple' ((zl1 h hs).za ⟨_, g_tuple hd, q⟩) hg (he := hs) (hpl := rfl)
theorem g_list (h : d = .lst ds ∨ d = .tup ds) : GivesC K (fun xs H Q => ∃ p ys, xs = [.ref p] ∧ (SqL K H p ys ∨ SqT K H p ys) ∧ ∀ l, H l = none → Q (.ref l) (upd H l (.lst ys))) [d] (.lst ds) := fun F S H vs Q' hc r q => by
  obtain ⟨v, rfl, r9⟩ := rep1 r
  rcases h with h | h <;> subst h
  · cases r9 with
    | lst h1 rr => exact ⟨_, _, rfl, .inl (SqL.of (hd_sub _ _ h1)), fun l hl => q.new hc hl fun G sb e => .lst e (rr.mono sb)⟩
  · cases r9 with
    | tup h1 rr => exact ⟨_, _, rfl, .inr (st_H h1), fun l hl => q.new hc hl fun G sb e => .lst e (rr.mono sb)⟩
theorem zv_list (bn : Bn X.mg) (h : ZV X e Γ S d) (hd : d = .lst ds ∨ d = .tup ds := by first | exact .inl rfl | exact .inr rfl) (hg : Gl X "list" := by rfl) (hs : s1 X e := by rfl) : ZV X (.Call (.Name "list" p) [e] [] pos) Γ S (.lst ds) := fun Ex Q q =>
  ze_callTG call_list_of bn.list boot_list' ((zl1 h hs).za ⟨_, g_list hd, q⟩) hg (he := hs) (hpl := rfl)
/-- divmod -/
theorem zv_divmod {i j : Int} (bn : Bn X.mg) (h : ZV X a Γ S (.int i)) (h2 : ZV X b Γ S (.int j)) (hj : 0 < j ∧ j < 1073741824) (hg : Gl X "divmod" := by rfl) (hs : starEach [a, b] X.env = (false, eval a X.env) :: starEach [b] X.env := by rfl) (hs2 : s1 X b := by rfl) (hpl : (backTo pos (starEach [b] X.env)).any (·.1) = false := by rfl) : ZV X (.Call (.Name "divmod" p) [a, b] [] pos) Γ S (.tup [.int (i / j), .int (i % j)]) := fun Ex Q q =>
  ze_callBG call_divmod bn.divmod boot_divmod' ((zl_cons h (zl1 h2 hs2) hs).za ⟨_, fun F S H vs Q' hc r k => by obtain ⟨v, w, rfl, r8, r9⟩ := rep2 r; cases r8; cases r9; exact ⟨i, j, rfl, hj, fun p hp => k.new hc hp fun G sb e => .tup (SqT.of e) (.cons .int (.cons .int .nil))⟩, q⟩) hg (he := hs) (hpl := hpl)

/-! ### items and slices -/
def rIxZ (K : PySem.W.Frag) : R2 := fun x y H Q => rIxL K x y H Q ∨ rIxT K x y H Q ∨ rIxS x y H Q
theorem ix_Z : IxR X (rIxZ X.K) := ix_list.or (ix_tup.or ix_str)
theorem atI_map {α β : Type} {f : α → β} {xs : List α} {i : Int} : atI (xs.map f) i = (atI xs i).map f := by
  unfold atI
  rw [List.length_map]
  cases ixN xs.length i with
  | none => rfl
  | some j => simp
theorem atI_rep {G} {ds : List D} {vs : List V} {i : Int} {d : D} (r : RepL K G ds vs) (h : atI ds i = some d) : ∃ v, atI vs i = some v ∧ Rep K G d v := by
  unfold atI at h ⊢
  rw [← r.length]
  cases q : ixN ds.length i with
  | none => rw [q] at h; cases h
  | some j =>
    rw [q] at h
    exact r.get h
def ixD (d : D) (i : Int) : Option D := match d with
  | .lst ds => atI ds i
  | .tup ds => atI ds i
  | .scr ns => (atI ns i).map .int
  | .str x => (atI x i).map fun c => .str [c]
  | _ => none
theorem g_ix {i : Int} (h : ixD x i = some d) : Gives2 K (rIxZ K) x (.int i) d := fun F S H v u Q' hc r1 r2 k => by
  cases r2
  cases r1 with
  | lst h1 rr =>
    obtain ⟨v, e, r⟩ := atI_rep rr h
    exact .inl ⟨_, _, i, v, rfl, rfl, SqL.of (hd_sub _ _ h1), e, k.self hc r⟩
  | tup h1 rr =>
    obtain ⟨v, e, r⟩ := atI_rep rr h
    exact .inr (.inl ⟨_, _, i, v, rfl, rfl, st_H h1, e, k.self hc r⟩)
  | scr h1 =>
    rename_i ns _
    have h' : (atI ns i).map D.int = some d := h
    cases q : atI ns i with
    | none => rw [q] at h'; cases h'
    | some z =>
      rw [q] at h'; cases h'
      exact .inl ⟨_, _, i, _, rfl, rfl, sl_H h1, by rw [atI_map, q]; rfl, k.self hc .int⟩
  | str h1 =>
    rename_i z
    have h' : (atI z i).map (fun c => D.str [c]) = some d := h
    cases q : atI z i with
    | none => rw [q] at h'; cases h'
    | some c =>
      rw [q] at h'; cases h'
      exact .inr (.inr ⟨⟨z.toArray⟩, i, c, rfl, rfl, small (by show z.toArray.size ≤ _; simp; omega), by simpa using q, k.self hc (.str (x := [c]) (by show 1 ≤ 16777000; decide))⟩)
  | _ => cases h
theorem ze_ix (h : ZE X Ex a Γ S fun x S1 => ZE X Ex b Γ S1 fun y S2 => ∃ i d, y = .int i ∧ ixD x i = some d ∧ Q d S2) (hs : PlainIx b := by exact fun _ _ => rfl) : ZE X Ex (.Subscript a b pos) Γ S Q :=
  ze_of (pe_ix ix_Z pe_self pe_self hs) fun F σ H c Q' k => opTwo (R := fun x y S2 Q => ∃ i d, y = .int i ∧ ixD x i = some d ∧ Q d S2) (fun F S H x y v u Q Q' _ hc r1 r2 ⟨i, d, e, g, q⟩ k => by subst e; exact g_ix g F S H v u Q' hc r1 r2 (.of k q)) h c k
theorem zv_ix {i : Int} (hx : ZV X a Γ S x) (hi : ZV X b Γ S (.int i)) (h : ixD x i = some d) (hs : PlainIx b := by exact fun _ _ => rfl) : ZV X (.Subscript a b pos) Γ S d := fun Ex Q q => ze_ix (hx.ze (hi.ze ⟨i, d, rfl, h, q⟩)) hs
theorem atI_lit {α : Type} {xs : List α} {k : Nat} {v : α} {i : Int} (e : i = (k : Int)) (h : xs[k]? = some v) : atI xs i = some v := by rw [e]; exact atI_nat h
def cut {α : Type} (xs : List α) (lo hi : Option Int) : List α := (xs.drop (HT.sIx xs.length 0 lo)).take (HT.sIx xs.length xs.length hi - HT.sIx xs.length 0 lo)
theorem cut_rep {G} {ds : List D} {vs : List V} {lo hi : Option Int} (r : RepL K G ds vs) : RepL K G (cut ds lo hi) (cutV vs lo hi) := by
  unfold cut cutV
  rw [r.length]
  exact (r.drop _).take _
theorem cut_map {α β : Type} {f : α → β} {xs : List α} {lo hi : Option Int} : cut (xs.map f) lo hi = (cut xs lo hi).map f := by
  unfold cut
  rw [List.length_map, List.map_take, List.map_drop]
theorem cut_len {α : Type} {xs : List α} {lo hi : Option Int} : (cut xs lo hi).length ≤ xs.length := by
  unfold cut
  rw [List.length_take, List.length_drop]; omega
def rSlZ (K : PySem.W.Frag) : V → Option Int → Option Int → Hp → VK → Prop := fun x lo hi H Q => rSlL K x lo hi H Q ∨ rSlA K x lo hi H Q ∨ rSlS x lo hi H Q
theorem sl_Z : SlR X (rSlZ X.K) := sl_list.or (sl_tupA.or sl_str)
def sliceD (d : D) (lo hi : Option Int) : Option D := match d with
  | .lst ds => some (.lst (cut ds lo hi))
  | .tup ds => some (.tup (cut ds lo hi))
  | .str x => some (.str (cut x lo hi))
  | .scr ns => some (.lst ((cut ns lo hi).map .int))
  | _ => none
theorem g_slice {lo hi : Option Int} (h : sliceD x lo hi = some d) {F S H} {v : V} {Q' : VK} (hc : HC K F S H) (r : Rep K (vw F S H) x v) (q : Ans1 K F S H d Q') : rSlZ K v lo hi H Q' := by
  cases r with
  | lst h1 rr => cases h; exact .inl ⟨_, _, rfl, SqL.of (hd_sub _ _ h1), fun p hp => q.new hc hp fun G sb e => .lst e (cut_rep (rr.mono sb))⟩
  | @scr ns _ h1 =>
    cases h
    refine .inl ⟨_, _, rfl, sl_H h1, fun p hp => q.new hc hp fun G sb e => .lst e ?_⟩
    have z := cut_rep (K := K) (G := G) (lo := lo) (hi := hi) (RepL.ints (K := K) (G := G) ns)
    rw [cut_map] at z; exact z
  | tup h1 rr =>
    cases h
    refine .inr (.inl ⟨_, _, rfl, st_H h1, fun ⟨e1, e2⟩ => ?_, fun _ p hp => q.new hc hp fun G sb e => .tup (SqT.of e) (cut_rep (rr.mono sb))⟩)
    have e3 : ∀ {ds : List D}, HT.sIx ds.length 0 lo = 0 → HT.sIx ds.length ds.length hi = ds.length → cut ds lo hi = ds := fun {ds} e1 e2 => by
      unfold cut; rw [e1, e2]; simp
    rw [← rr.length] at e1 e2
    rw [e3 e1 e2] at q
    exact q.self hc (.tup h1 rr)
  | @str z h1 =>
    cases h
    refine .inr (.inr ⟨_, rfl, small (by show z.toArray.size ≤ _; simp; omega), ?_⟩)
    have e : cutS ⟨z.toArray⟩ lo hi = (⟨(cut z lo hi).toArray⟩ : Str) := by
      unfold cutS cut
      simp [Str.length]
    rw [e]
    exact q.self hc (.str (Nat.le_trans cut_len h1))
  | _ => cases h
def ZO (X : Cx) (Ex : AX) (o : Option Expr) (Γ : Gam) (S : Store) (Q : Option Int → Store → Prop) : Prop := match o with
  | none => Q none S
  | some e => ZE X Ex e Γ S fun d S1 => ∃ i, d = .int i ∧ Q (some i) S1
theorem zo_some {i : Int} {Q : Option Int → Store → Prop} (h : ZV X e Γ S (.int i)) (q : Q (some i) S) : ZO X Ex (some e) Γ S Q := h.ze ⟨i, rfl, q⟩
theorem zo_none {Q : Option Int → Store → Prop} (q : Q none S) : ZO X Ex none Γ S Q := q
def tSelfO (X : Cx) (o : Option Expr) : TO := match o with
  | none => tNoPart
  | some e => tPart (tSelf X e)
theorem po_self : ∀ {o : Option Expr}, PO X o (tSelfO X o)
  | none => po_none
  | some e => po_some pe_self
theorem zo_run {o : Option Expr} {Q : Option Int → Store → Prop} (h : ZO X Ex o Γ S Q) {F σ H} (c : Con X Ex F Γ S σ H) {Q' : Option Int → Hp → Prop} (k : ∀ l H' S', Stp F S H S' H' → HC X.K F S' H' → Q l S' → Q' l H') : tSelfO X o σ H Q' := by
  cases o with
  | none => exact k none H S .refl c.hc h
  | some e => exact h F σ H c _ fun v H' d S' t hc r ⟨i, e, q⟩ => by subst e; cases r; exact ⟨i, rfl, k _ _ _ t hc q⟩
theorem ze_slice {lo hi : Option Expr} (h : ZE X Ex a Γ S fun x S1 => ZO X Ex lo Γ S1 fun l S2 => ZO X Ex hi Γ S2 fun u S3 => ∃ d, sliceD x l u = some d ∧ Q d S3) : ZE X Ex (.Subscript a (.Slice lo hi none p2) pos) Γ S Q :=
  ze_of (pe_slice sl_Z pe_self po_self po_self) fun F σ H c Q' k => h F σ H c _ fun v H1 x S1 t1 c1 r1 h1 => zo_run h1 (c.step t1 c1) fun l H2 S2 t2 c2 h2 => zo_run h2 ((c.step t1 c1).step t2 c2) fun u H3 S3 t3 c3 ⟨d, g, q⟩ =>
    g_slice g c3 ((r1.mono t2.ext).mono t3.ext) (.of (k.step ((t1.trans t2).trans t3)) q)
theorem zv_sliceTo {i : Int} (hx : ZV X a Γ S x) (hi : ZV X b Γ S (.int i)) (h : sliceD x none (some i) = some d := by rfl) : ZV X (.Subscript a (.Slice none (some b) none p2) pos) Γ S d := fun Ex Q q => ze_slice (hx.ze (zo_none (zo_some hi ⟨d, h, q⟩)))
theorem zv_sliceFrom {i : Int} (hx : ZV X a Γ S x) (hi : ZV X b Γ S (.int i)) (h : sliceD x (some i) none = some d := by rfl) : ZV X (.Subscript a (.Slice (some b) none none p2) pos) Γ S d := fun Ex Q q => ze_slice (hx.ze (zo_some hi (zo_none ⟨d, h, q⟩)))

/-! ### stores -/
/-- xs.append(e) of a list that may change -/
theorem ze_append {k : Nat} {q : Addr} (ho : ZV X o Γ S (.ref q)) (h : ZE X Ex e Γ S fun d S1 => ∃ ds, S1[k]? = some (q, .lst ds) ∧ ds.length < 16777216 ∧ Q .non (S1.set k (q, .lst (ds ++ [d]))))
    (hsL : s1 X e := by rfl) (hbase : attributeBase o "append" X.env (eval o X.env) = eval o X.env := by rfl)
    (hfew : ((backTo pos (starEach [e] X.env)).all (fun x => !x.1) && (backToKw pos (keywordEach [] X.env)).all (fun x => x.1.isSome) && decide (([e] : List Expr).length + ([] : List Keyword).length + (if ([] : List Keyword).isEmpty then 0 else 1) < 30)) = true := by rfl)
    (hline : (apos.endLine == pos.line) = true := by rfl) (hk0 : ∃ ds, S[k]? = some (q, .lst ds)) : ZE X Ex (.Call (.Attribute o "append" apos) [e] [] pos) Γ S Q :=
  ze_of (pe_bm PySem.F.plainAttrs_list PySem.F.slot_list_append PySem.F.type_list_append mt_append pe_self pa_self hbase hfew hline hsL rfl) fun F σ H c Q' kq => ho Ex (fun d S' => d = .ref q ∧ S' = S) ⟨rfl, rfl⟩ F σ H c _ fun v H1 d S1 t1 c1 r1 ⟨e1, e2⟩ => by
    subst e1 e2
    cases r1
    obtain ⟨ds0, hk0⟩ := hk0
    obtain ⟨xs0, h0, _⟩ := c1.get hk0
    refine ⟨.inl ⟨rfl, xs0, SqL.of h0⟩, za_cons (Q := fun xs S' => ∃ d, xs = [d] ∧ ∃ ds, S'[k]? = some (q, .lst ds) ∧ ds.length < 16777216 ∧ Q .non (S'.set k (q, .lst (ds ++ [d])))) (h.mono fun d S' q => za_nil ⟨d, rfl, q⟩) hsL F σ H1 (c.step t1 c1) _ fun vs H2 ds2 S2 t2 c2 r2 ⟨d, ed, ds, hk, hl, q2⟩ => ?_⟩
    subst ed
    obtain ⟨v, rfl, r9⟩ := rep1 r2
    obtain ⟨xs, hx, rx⟩ := c2.get hk
    obtain ⟨p1, p2⟩ := c2.put (c' := .lst (ds ++ [d])) (o := .lst (xs ++ [v])) hk ⟨_, rfl, rx.app (.cons r9 .nil)⟩
    exact ⟨q, xs, v, rfl, rfl, hx, by rw [← rx.length, sizeLine_eq]; exact hl, kq _ _ _ _ ((t1.trans t2).trans p2) p1 .non q2⟩
/-- self.f = e -/
theorem z1_fld {c f : Str} {k : Nat} {q : Addr} (hf : Fld X.K c f) (h : ZE X Ex value Γ S fun d S1 => ZE X Ex o Γ S1 fun od S2 => od = .ref q ∧ ∃ fs, S2[k]? = some (q, .ins c fs) ∧ fs.length < 1000 ∧ DE.nx Γ (S2.set k (q, .ins c (putG f d fs))))
    (hs : swapsWith value (some (.Attribute o f pos')) pos.line X.env = pure false := by rfl) : Z1 X Ex (.Assign [.Attribute o f pos'] value pos) Γ S DE :=
  z1_of (ps_fld pe_self pe_self hs) fun F σ H co D' kq => h F σ H co _ fun v H1 d S1 t1 c1 r1 h1 => h1 F σ H1 (co.step t1 c1) _ fun u H2 od S2 t2 c2 r2 ⟨e, fs, hk, hl, q2⟩ => by
    subst e
    cases r2
    obtain ⟨dx, vs, hx, rf⟩ := c2.get hk
    have put : ∀ {fs : List (Str × D)} {vs : List (Str × V)}, RepF X.K (vw F S2 H2) fs vs → RepF X.K (vw F S2 H2) (putG f d fs) (putF f v vs) := by
      intro fs vs rf
      induction fs generalizing vs with
      | nil => cases rf; exact .cons (r1.mono t2.ext) .nil
      | cons a r ih =>
        cases rf with
        | @cons n d0 v0 ds0 vs0 h0 r0 =>
          unfold putG putF
          by_cases en : n = f
          · rw [if_pos en, if_pos en]
            have := RepF.cons (n := n) (r1.mono t2.ext) r0
            rw [en] at this ⊢
            exact this
          · rw [if_neg en, if_neg en]
            exact .cons h0 (ih r0)
    obtain ⟨p1, p2⟩ := c2.put (c' := .ins c (putG f d fs)) (o := .ins (He.ga X.K c) dx (putF f v vs)) hk ⟨dx, _, rfl, put rf⟩
    refine ⟨_, _, dx, vs, rfl, hx, hf.cl, hf.no, by rw [← rf.length]; exact hl, kq.nx _ _ _ _ ((t1.trans t2).trans p2) p1 (co.rg.mono ((t1.trans t2).trans p2).ext) q2⟩
end
end Fz
end

section
namespace Fz
open PySem PySem.Spec PyProof.Rows L2
section
variable {X : Cx} {Ex : AX} {Γ : Gam} {S : Store} {Q : DQ} {elt iter tg iter1 tg1 c : Expr} {ifs ifs1 : List Expr} {pos : Pos} {scope : Scope} {own : List (Str × Nat)} {vs vs1 : List Nat} {rel rel1 : D → Gam → Gam → Prop} {DE : AEnds} {α β : Type} {as : List α} {enc f : α → D} {p : α → Bool}
/-- in every block -/
abbrev InB (X : Cx) (scope : Scope) (P : Cx → Prop) : Prop := ∀ s H C cl fp, P (Bk X scope s H C cl fp)
theorem map_get {i : Nat} {d : D} (h : (as.map enc)[i]? = some d) : ∃ x, as[i]? = some x ∧ d = enc x := by
  rw [List.getElem?_map] at h
  cases q : as[i]? with
  | none => rw [q] at h; cases h
  | some x => rw [q] at h; cases h; exact ⟨x, rfl, rfl⟩
theorem take_snoc {i : Nat} {x : α} (h : as[i]? = some x) : as.take (i + 1) = as.take i ++ [x] := by
  rw [List.take_succ, h]; rfl
theorem ask_map (he : ∀ (i : Nat) x, as[i]? = some x → ∃ Γ2, rel (enc x) (wipeG Γ vs) Γ2 ∧ InB X scope fun Y => ZV Y elt Γ2 S (f x)) (hl : as.length ≤ 16777216) (q : Q (.lst (as.map f)) S) : LcAsk X scope [] elt Γ vs rel Q (as.map enc) S := by
  refine ⟨fun i acc S' => S' = S ∧ acc = (as.take i).map f, ⟨rfl, rfl⟩, fun i d acc S' hi ⟨e1, e2⟩ => ?_, fun acc S' ⟨e1, e2⟩ => ?_⟩
  · obtain ⟨x, hx, rfl⟩ := map_get hi
    obtain ⟨Γ2, hr, hv⟩ := he i x hx
    have il := (List.getElem?_eq_some_iff.mp hx).1
    refine ⟨Γ2, hr, fun s H C cl fp => zf_nil ?_⟩
    subst e1 e2
    intro s H C cl fp
    refine (hv s H C cl fp).ze ⟨?_, rfl, ?_⟩
    · rw [sizeLine_eq, List.length_map, List.length_take]; omega
    · rw [take_snoc hx, List.map_append]; rfl
  · subst e1 e2
    rw [List.length_map, List.take_length]; exact q
theorem ask_flt (he : ∀ (i : Nat) x, as[i]? = some x → ∃ Γ2, rel (enc x) (wipeG Γ vs) Γ2 ∧ (InB X scope fun Y => ZB Y c Γ2 S (p x)) ∧ (p x = true → InB X scope fun Y => ZV Y elt Γ2 S (f x))) (hl : as.length ≤ 16777216) (q : Q (.lst ((as.filter p).map f)) S) : LcAsk X scope [c] elt Γ vs rel Q (as.map enc) S := by
  refine ⟨fun i acc S' => S' = S ∧ acc = ((as.take i).filter p).map f, ⟨rfl, rfl⟩, fun i d acc S' hi ⟨e1, e2⟩ => ?_, fun acc S' ⟨e1, e2⟩ => ?_⟩
  · obtain ⟨x, hx, rfl⟩ := map_get hi
    obtain ⟨Γ2, hr, hb, hv⟩ := he i x hx
    have il := (List.getElem?_eq_some_iff.mp hx).1
    subst e1 e2
    refine ⟨Γ2, hr, fun s H C cl fp => zf_one ((hb s H C cl fp).zt ?_)⟩
    cases hp : p x with
    | true =>
      rw [if_pos rfl]
      intro s H C cl fp
      refine (hv hp s H C cl fp).ze ⟨?_, rfl, ?_⟩
      · rw [sizeLine_eq, List.length_map]
        have := List.length_filter_le p (as.take i)
        rw [List.length_take] at this
        omega
      · rw [take_snoc hx, List.filter_append, List.map_append, List.filter_cons, hp]; rfl
    | false =>
      rw [if_neg Bool.false_ne_true]
      refine ⟨rfl, ?_⟩
      rw [take_snoc hx, List.filter_append, List.filter_cons, hp]
      simp
  · subst e1 e2
    rw [List.length_map, List.take_length]; exact q
theorem zv_map (ok : BlkOk X.N X.env.scope scope own) (ct : CTg X scope tg (own.map (·.2)) rel) (h : ZIV X tg iter Γ S (as.map enc)) (he : ∀ (i : Nat) x, as[i]? = some x → ∃ Γ2, rel (enc x) (wipeG Γ (own.map (·.2))) Γ2 ∧ InB X scope fun Y => ZV Y elt Γ2 S (f x)) (hl : as.length ≤ 16777216)
    (hs : ∀ x, foldedSetIterable iter X.env x = pure x := by intro _; rfl) : ZV X (.ListComp elt [⟨tg, iter, [], 0⟩] scope pos) Γ S (.lst (as.map f)) := fun Ex Q q => ze_lc ok ct (h.zi (ask_map he hl q)) hs
theorem zv_flt (ok : BlkOk X.N X.env.scope scope own) (ct : CTg X scope tg (own.map (·.2)) rel) (h : ZIV X tg iter Γ S (as.map enc))
    (he : ∀ (i : Nat) x, as[i]? = some x → ∃ Γ2, rel (enc x) (wipeG Γ (own.map (·.2))) Γ2 ∧ (InB X scope fun Y => ZB Y c Γ2 S (p x)) ∧ (p x = true → InB X scope fun Y => ZV Y elt Γ2 S (f x))) (hl : as.length ≤ 16777216)
    (hs : ∀ x, foldedSetIterable iter X.env x = pure x := by intro _; rfl) : ZV X (.ListComp elt [⟨tg, iter, [c], 0⟩] scope pos) Γ S (.lst ((as.filter p).map f)) := fun Ex Q q => ze_lc ok ct (h.zi (ask_flt he hl q)) hs
/-- x = [..] -/
theorem z1_setMap {i : Nat} {y : Str} {py spos : Pos} (ok : BlkOk X.N X.env.scope scope own) (ct : CTg X scope tg (own.map (·.2)) rel) (h : ZIV X tg iter Γ S (as.map enc)) (he : ∀ (i : Nat) x, as[i]? = some x → ∃ Γ2, rel (enc x) (wipeG Γ (own.map (·.2))) Γ2 ∧ InB X scope fun Y => ZV Y elt Γ2 S (f x)) (hl : as.length ≤ 16777216)
    (q : DE.nx (Γ.set i (some (.lst (as.map f)))) S)
    (hsw : swapsWith (.ListComp elt [⟨tg, iter, [], 0⟩] scope pos) (some (.Name y py)) spos.line X.env = pure true := by exact sw_true rfl rfl rfl (by decide +kernel)) (hi : X.N[i]? = some y := by rfl) (hyl : X.env.scope.names.lookup y = some .local := by rfl)
    (hs : ∀ x, foldedSetIterable iter X.env x = pure x := by intro _; rfl) : Z1 X Ex (.Assign [.Name y py] (.ListComp elt [⟨tg, iter, [], 0⟩] scope pos) spos) Γ S DE := z1_setLc ok ct (h.zi (ask_map he hl q)) hsw hi hyl hs
theorem z1_setFlt {i : Nat} {y : Str} {py spos : Pos} (ok : BlkOk X.N X.env.scope scope own) (ct : CTg X scope tg (own.map (·.2)) rel) (h : ZIV X tg iter Γ S (as.map enc))
    (he : ∀ (i : Nat) x, as[i]? = some x → ∃ Γ2, rel (enc x) (wipeG Γ (own.map (·.2))) Γ2 ∧ (InB X scope fun Y => ZB Y c Γ2 S (p x)) ∧ (p x = true → InB X scope fun Y => ZV Y elt Γ2 S (f x))) (hl : as.length ≤ 16777216)
    (q : DE.nx (Γ.set i (some (.lst ((as.filter p).map f)))) S)
    (hsw : swapsWith (.ListComp elt [⟨tg, iter, [c], 0⟩] scope pos) (some (.Name y py)) spos.line X.env = pure true := by exact sw_true rfl rfl rfl (by decide +kernel)) (hi : X.N[i]? = some y := by rfl) (hyl : X.env.scope.names.lookup y = some .local := by rfl)
    (hs : ∀ x, foldedSetIterable iter X.env x = pure x := by intro _; rfl) : Z1 X Ex (.Assign [.Name y py] (.ListComp elt [⟨tg, iter, [c], 0⟩] scope pos) spos) Γ S DE := z1_setLc ok ct (h.zi (ask_flt he hl q)) hsw hi hyl hs
/-- two clauses, no tests -/
theorem ask_map2 {bs : α → List β} {enc1 : α → β → D} {g : α → β → D}
    (he : ∀ (i : Nat) x, as[i]? = some x → ∃ Γ2, rel (enc x) (wipeG Γ vs) Γ2 ∧ (InB X scope fun Y => ZIV Y tg1 iter1 Γ2 S ((bs x).map (enc1 x))) ∧ ∀ (j : Nat) y, (bs x)[j]? = some y → ∃ Γ3, rel1 (enc1 x y) (wipeG Γ2 vs1) Γ3 ∧ InB X scope fun Y => ZV Y elt Γ3 S (g x y))
    (hl : (as.flatMap bs).length ≤ 16777216) (q : Q (.lst (as.flatMap fun x => (bs x).map (g x))) S) : Lc2Ask X scope [] [] tg1 iter1 elt Γ vs vs1 rel rel1 Q (as.map enc) S := by
  have hle : ∀ i, ((as.take i).flatMap bs).length ≤ (as.flatMap bs).length := fun i => by
    conv => rhs; rw [← List.take_append_drop i as, List.flatMap_append, List.length_append]
    omega
  have elen : ∀ (l : List α), (l.flatMap fun x => (bs x).map (g x)).length = (l.flatMap bs).length := fun l => by
    induction l with
    | nil => rfl
    | cons x r ih => rw [List.flatMap_cons, List.flatMap_cons, List.length_append, List.length_append, List.length_map, ih]
  refine ⟨fun i acc S' => S' = S ∧ acc = (as.take i).flatMap fun x => (bs x).map (g x), ⟨rfl, rfl⟩, fun i d acc S' hi ⟨e1, e2⟩ => ?_, fun acc S' ⟨e1, e2⟩ => ?_⟩
  · obtain ⟨x, hx, rfl⟩ := map_get hi
    obtain ⟨Γ2, hr, hz, hv⟩ := he i x hx
    subst e1
    refine ⟨Γ2, hr, fun s H C cl fp => zf_nil ?_⟩
    intro s H C cl fp
    refine (hz s H C cl fp).zi ⟨fun j acc1 S' => S' = S' ∧ S' = S' ∧ acc1 = acc ++ ((bs x).take j).map (g x) ∧ S' = _, ⟨rfl, rfl, by simp, rfl⟩, fun j d1 acc1 S5 hj ⟨_, _, e4, e5⟩ => ?_, fun acc1 S5 ⟨_, _, e4, e5⟩ => ?_⟩
    · obtain ⟨y, hy, rfl⟩ := map_get hj
      obtain ⟨Γ3, hr3, hv3⟩ := hv j y hy
      subst e4 e5
      refine ⟨Γ3, hr3, fun s H C cl fp => zf_nil ?_⟩
      intro s H C cl fp
      refine (hv3 s H C cl fp).ze ⟨?_, rfl, rfl, ?_, rfl⟩
      · have jl := (List.getElem?_eq_some_iff.mp hy).1
        have h1 := hle (i + 1)
        rw [take_snoc hx, List.flatMap_append, List.length_append] at h1
        rw [e2, sizeLine_eq, List.length_append, elen, List.length_map, List.length_take]
        have h2 : ([x].flatMap bs).length = (bs x).length := by simp
        omega
      · rw [take_snoc hy, List.map_append, List.append_assoc]; rfl
    · subst e4 e5
      refine ⟨rfl, ?_⟩
      rw [List.length_map, List.take_length, take_snoc hx, List.flatMap_append, e2]
      simp
  · subst e1 e2
    rw [List.length_map, List.take_length]; exact q
theorem zv_map2 {bs : α → List β} {enc1 : α → β → D} {g : α → β → D} (ok : BlkOk X.N X.env.scope scope own) (hvs : ∀ i ∈ vs1, i ∈ own.map (·.2)) (ct : CTg X scope tg (own.map (·.2)) rel) (ct1 : CTg X scope tg1 vs1 rel1) (h : ZIV X tg iter Γ S (as.map enc))
    (he : ∀ (i : Nat) x, as[i]? = some x → ∃ Γ2, rel (enc x) (wipeG Γ (own.map (·.2))) Γ2 ∧ (InB X scope fun Y => ZIV Y tg1 iter1 Γ2 S ((bs x).map (enc1 x))) ∧ ∀ (j : Nat) y, (bs x)[j]? = some y → ∃ Γ3, rel1 (enc1 x y) (wipeG Γ2 vs1) Γ3 ∧ InB X scope fun Y => ZV Y elt Γ3 S (g x y))
    (hl : (as.flatMap bs).length ≤ 16777216) (hs : ∀ x, foldedSetIterable iter X.env x = pure x := by intro _; rfl) (hs1 : ∀ env x, foldedSetIterable iter1 env x = pure x := by intro _ _; rfl) : ZV X (.ListComp elt [⟨tg, iter, [], 0⟩, ⟨tg1, iter1, [], 0⟩] scope pos) Γ S (.lst (as.flatMap fun x => (bs x).map (g x))) := fun Ex Q q =>
  ze_lc2 ok hvs ct ct1 (h.zi (ask_map2 he hl q)) hs hs1
end
end Fz
end

section
namespace Fz
open PySem PySem.Spec PyProof.Rows L2

/-! ### a set whose members are of one kind -/
section
variable {P : Program} {w : World} {A : Around} {E : Value → Shared → Prop} {s : Shared} {κ : Type} [DecidableEq κ] {knd : PySem.KeyKind P w κ}
def unlike (knd : PySem.KeyKind P w κ) (x y : Int × Value) : Prop := ∀ k, knd.is k x.2 = true → knd.is k y.2 = true → False
theorem unlike.symm {x y : Int × Value} (h : unlike knd x y) : unlike knd y x := fun k a b => h k b a
theorem elems_perm {l l' : List (Int × Value)} (p : l'.Perm l) (e : ElemsOf knd l) : ElemsOf knd l' := fun x hx => e x (p.mem_iff.mp hx)
/-- m: what is in it; n: how many -/
def Mem (knd : PySem.KeyKind P w κ) (h : Heap) (a : Addr) (m : κ → Prop) (n : Nat) : Prop :=
  ∃ ob mem ep tab, h.get? a = some ob ∧ ob.ExactSet ∧ ob.data = .set mem ep tab ∧ tab.fits mem.size = true ∧ (w.params.followText "set-order" = true ∨ tab.led = true) ∧ Ris tab.place.toList ∧
    mem.size = n ∧ n < scanBound ∧ ElemsOf knd mem.toList ∧ mem.toList.Pairwise (unlike knd) ∧ ∀ k, m k ↔ ∃ e ∈ mem.toList, knd.is k e.2 = true
theorem Mem.keep {h h' : Heap} {a : Addr} {m : κ → Prop} {n : Nat} (x : Mem knd h a m n) (k : ∀ o, h.get? a = some o → h'.get? a = some o) : Mem knd h' a m n :=
  let ⟨ob, mem, ep, tab, ho, r⟩ := x; ⟨ob, mem, ep, tab, k _ ho, r⟩
theorem Mem.of {h : Heap} {a : Addr} {m m' : κ → Prop} {n : Nat} (x : Mem knd h a m n) (e : ∀ k, m' k ↔ m k) : Mem knd h a m' n := by
  obtain ⟨ob, mem, ep, tab, h1, h2, h3, h4, h5, h6, h7, h8, h9, h10, h11⟩ := x
  exact ⟨ob, mem, ep, tab, h1, h2, h3, h4, h5, h6, h7, h8, h9, h10, fun k => (e k).trans (h11 k)⟩
theorem mem_new {h : Heap} {a : Addr} (ho : h.get? a = some { cls := .type "set", dict := none, data := .set #[] 0 (.fresh 0 0 (!w.params.followText "set-order")) }) : Mem knd h a (fun _ => False) 0 := by
  refine ⟨_, #[], 0, _, ho, ⟨rfl, rfl, rfl⟩, rfl, by rfl, ?_, .nil, rfl, by decide, fun e he => by simp at he, .nil, fun k => by simp⟩
  show _ ∨ (!w.params.followText "set-order") = true
  cases w.params.followText "set-order" <;> simp

/-- what is left to do once the new member stands in the rows -/
theorem mem_tail {g : Bool → Sem Unit} (hg : ∀ (b : Bool) (s₁ : Shared) (Q' : Unit → Shared → Prop), Q' () s₁ → wpAny (model P w) A (g b) Q' E s₁) {a : Addr} {n : Nat} {m : κ → Prop}
    {ob : Obj} {mem mem1 : Array (Int × Value)} {ep : Nat} {tab t1 : SetTable} (h1 : s.heap.get? a = some ob) (h2 : ob.ExactSet) (h3 : ob.data = .set mem ep tab)
    (f1 : t1.fits mem1.size = true) (l1 : w.params.followText "set-order" = true ∨ t1.led = true) (r1 : Ris t1.place.toList) (n1 : mem1.size = n) (hn : n < scanBound)
    (e1 : ElemsOf knd mem1.toList) (u1 : mem1.toList.Pairwise (unlike knd)) (m1 : ∀ k, m k ↔ ∃ e ∈ mem1.toList, knd.is k e.2 = true) {dm : Bool} {R : Option Bool → Shared → Prop}
    (hR : ∀ h', Heap.SameBut a s.heap h' → Mem knd h' a m n → R (some true) { s with heap := h' }) :
    wpAny (model P w) A (do
        storeSet a mem1 t1
        if (!dm && t1.tooFull) = true then do
            g (relayAll t1 mem1 (SetTable.grown mem1.size)).2.2
            storeSet a (relayAll t1 mem1 (SetTable.grown mem1.size)).1 (relayAll t1 mem1 (SetTable.grown mem1.size)).2.1
            pure (some true)
          else pure (some true)) R E s := by
  have z1 : mem1.size < scanBound := by omega
  have k1 := store_at (es' := mem1) (t' := t1) h1 h3
  have b1 := Heap.SameBut.update s.heap a (Obj.putSet mem1 t1)
  refine wpAny_bind (wpAny_storeSet_of h1 h3 ?_ (fits_of_scanBound z1))
  split
  · have hp := relayAll_perm t1 mem1 (SetTable.grown mem1.size)
    have hf := relayAll_fits t1 mem1 (SetTable.grown mem1.size)
    have hr := relayAll_ris t1 mem1 (SetTable.grown mem1.size)
    have hl := relayAll_led t1 mem1 (SetTable.grown mem1.size)
    generalize relayAll t1 mem1 (SetTable.grown mem1.size) = Z at hp hf hr hl ⊢
    obtain ⟨mem2, t2, gv⟩ := Z
    dsimp only at hp hf hr hl ⊢
    have n2 : mem2.size = n := by rw [← Array.length_toList, hp.length_eq, Array.length_toList, n1]
    refine wpAny_bind (hg _ _ _ (wpAny_bind (wpAny_storeSet_of k1 rfl ?_ (fits_of_scanBound (by omega)))))
    refine wpAny_pure (hR _ (b1.trans (Heap.SameBut.update _ a _)) ⟨_, mem2, _, t2, store_at k1 rfl, h2, rfl, hf, l1.imp id fun z => by rw [hl]; exact z, hr, n2, hn, elems_perm hp e1, ?_, fun k => ?_⟩)
    · exact (hp.pairwise_iff fun {x y} z => unlike.symm z).mpr u1
    · exact (m1 k).trans ⟨fun ⟨e, he, q⟩ => ⟨e, hp.mem_iff.mpr he, q⟩, fun ⟨e, he, q⟩ => ⟨e, hp.mem_iff.mp he, q⟩⟩
  · exact wpAny_pure (hR _ b1 ⟨_, mem1, _, t1, k1, h2, rfl, f1, l1, r1, n1, hn, e1, u1, m1⟩)

/-- one more member, met before or not -/
theorem mem_add {a : Addr} {m : κ → Prop} {n : Nat} {k : κ} {v : Value} {Q : Bool → Shared → Prop} (x : Mem knd s.heap a m n) (room : n + 1 < scanBound) (hk : knd.is k v = true) (hs : v.scannable = true)
    (hQ : ∀ b h' n', Heap.SameBut a s.heap h' → n' ≤ n + 1 → Mem knd h' a (fun j => j = k ∨ m j) n' → Q b { s with heap := h' }) : wpAny (model P w) A (setAddHashed a v (knd.hash k)) Q E s := by
  obtain ⟨ob, mem, ep, tab, h1, h2, h3, f0, l0, r0, n0, hn, e0, u0, m0⟩ := x
  have z0 : mem.size < scanBound := by omega
  unfold setAddHashed setAddHashedIn
  refine wpAny_holding (wpAny_bind (wpAny_setState_of h1 h3 f0 ?_))
  dsimp only
  rw [byScan_of hs z0 e0]
  simp only [↓reduceIte]
  unfold setAddByScan
  refine wpAny_bind (wpAny_bind (wpAny_rule (wpAny_bind (wpAny_setScan_of hk h1 h3 f0 e0 ?_))))
  cases hfi : List.findIdx? (fun e => knd.is k e.2) mem.toList with
  | some j =>
    dsimp only
    obtain ⟨hj, pj, _⟩ := List.findIdx?_eq_some_iff_getElem.mp hfi
    have mk : m k := (m0 k).mpr ⟨_, List.getElem_mem hj, pj⟩
    exact wpAny_pure (wpAny_pure (hQ _ s.heap n (Heap.SameBut.refl a s.heap) (by omega) ⟨ob, mem, ep, tab, h1, h2, h3, f0, l0, r0, n0, hn, e0, u0, fun i => ⟨fun z => (m0 i).mp (z.elim (fun c => c ▸ mk) id), fun z => .inr ((m0 i).mpr z)⟩⟩))
  | none =>
    dsimp only
    have fresh : ∀ e ∈ mem.toList, knd.is k e.2 = true → False := fun e he c => by
      have d := List.findIdx?_eq_none_iff.mp hfi e he
      rw [c] at d
      cases d
    have gw : ∀ (b : Bool) {s₁ : Shared} {Q' : Unit → Shared → Prop}, Q' () s₁ → wpAny (model P w) A (match b with | true => rule "set.scan.the-table-gave-way" | false => pure ()) Q' E s₁ :=
      fun b s₁ Q' q => by cases b <;> first | exact wpAny_pure q | exact wpAny_rule q
    have hp := layNew_perm tab mem (knd.hash k) v
    have f1 := layNew_fits tab mem (knd.hash k) v
    have r1 := layNew_ris tab mem (knd.hash k) v r0
    have l1 := layNew_led tab mem (knd.hash k) v
    generalize layNew tab mem (knd.hash k) v = Z at hp f1 r1 l1 ⊢
    obtain ⟨mem1, t1, dm, gv⟩ := Z
    dsimp only at hp f1 r1 l1 ⊢
    rw [Array.toList_push] at hp
    have hc : mem1.toList.Perm ((knd.hash k, v) :: mem.toList) := hp.trans (List.perm_append_singleton _ _)
    have n1 : mem1.size = n + 1 := by rw [← Array.length_toList, hc.length_eq, List.length_cons, Array.length_toList, n0]
    have e1 : ElemsOf knd mem1.toList := elems_perm hc fun y hy => by
      rcases List.mem_cons.mp hy with c | c
      · rw [c]; exact ⟨⟨k, hk, rfl⟩, hs⟩
      · exact e0 y c
    have u1 : mem1.toList.Pairwise (unlike knd) := (hc.pairwise_iff fun {x y} z => unlike.symm z).mpr (List.pairwise_cons.mpr ⟨fun y hy i a b => fresh y hy (by rw [knd.inj v k i hk a]; exact b), u0⟩)
    have m1 : ∀ i, (i = k ∨ m i) ↔ ∃ e ∈ mem1.toList, knd.is i e.2 = true := fun i => by
      constructor
      · rintro (c | c)
        · exact ⟨_, hc.mem_iff.mpr List.mem_cons_self, by rw [c]; exact hk⟩
        · obtain ⟨e, he, q⟩ := (m0 i).mp c
          exact ⟨e, hc.mem_iff.mpr (List.mem_cons_of_mem _ he), q⟩
      · rintro ⟨e, he, q⟩
        rcases List.mem_cons.mp (hc.mem_iff.mp he) with c | c
        · rw [c] at q
          exact .inl (knd.inj v i k q hk)
        · exact .inr ((m0 i).mpr ⟨e, c, q⟩)
    have led : w.params.followText "set-order" = true ∨ t1.led = true := l0.imp id fun z => by rw [l1]; exact z
    have fin : ∀ h', Heap.SameBut a s.heap h' → Mem knd h' a (fun j => j = k ∨ m j) (n + 1) → Q true { s with heap := h' } := fun h' sb r => hQ true h' (n + 1) sb (Nat.le_refl _) r
    refine wpAny_bind (gw _ ?_)
    split
    · rw [hashByValue_scannable 8 hs]
      refine wpAny_bind (wpAny_pure ?_)
      refine mem_tail ?_ h1 h2 h3 ?_ ?_ ?_ n1 room e1 u1 m1 fun h' sb r => ?_
      · intro b s₁ Q' q; cases b <;> first | exact wpAny_pure q | exact wpAny_rule q
      · first | (split <;> first | exact f1 | exact SetTable.fits_plain_off f1) | exact f1
      · first | (split <;> exact led) | exact led
      · first | (split <;> exact r1) | exact r1
      · dsimp only; exact wpAny_pure (fin h' sb r)
    · refine wpAny_bind (wpAny_pure ?_)
      simp only [↓reduceIte]
      refine mem_tail ?_ h1 h2 h3 f1 led r1 n1 room e1 u1 m1 fun h' sb r => ?_
      · intro b s₁ Q' q; cases b <;> first | exact wpAny_pure q | exact wpAny_rule q
      · dsimp only; exact wpAny_pure (fin h' sb r)
end
end Fz
end

section
namespace Fz
open PySem PySem.Spec PyProof.Rows L2
section
variable {P : Program} {w : World} {A : Around} {E : Value → Shared → Prop} {s : Shared} {κ : Type} [DecidableEq κ] {knd : PySem.KeyKind P w κ}

/-- the loop that takes the members in -/
theorem mem_loop {I : Addr} {fp wr : List Addr} {G : Array GenState → Array GenState → Prop} {n : Nat} {Pv : Nat → Value → Prop} {St : Nat → Shared → Prop} {R : Result → Shared → Prop}
    (W : WalksS P w A.in1 I fp wr G n Pv St) {a : Addr} (ha : a ∉ fp) (ks : List κ) (hn : ks.length = n) (hb : n + 1 < scanBound)
    (hv : ∀ i v, Pv i v → ∃ k, ks[i]? = some k ∧ knd.is k v = true ∧ v.scannable = true) :
    ∀ (f i : Nat) (s : Shared) (c : Nat), n - i = f → i ≤ n → St i s → c ≤ i → Mem knd s.heap a (fun j => j ∈ ks.take i) c →
      (∀ s' c', Moved (a :: wr) G s s' → c' ≤ n → Mem knd s'.heap a (fun j => j ∈ ks) c' → R (.ok (.ret .none)) s') → codeAny (model P w) A (.builtin "set.update.loop" ⟨[.ref a, .ref I], []⟩) R s := by
  have aw : a ∉ wr := fun z => ha (W.sub _ z)
  have more : ∀ b ∈ wr, b ∈ a :: wr := fun b z => List.mem_cons_of_mem _ z
  intro f
  induction f with
  | zero =>
    intro i s c hf hi st hc x hR
    obtain rfl : i = n := by omega
    refine codeAny_builtin F.entry_set_update_loop ?_
    rw [Around.under_plainId F.plain_set_update_loop _]
    show wpAny _ A.in1 (pyNext (.ref I) >>= _) _ _ s
    refine wpAny_bind (W.done s _ _ st fun s' mv => ?_)
    show wpAny _ A.in1 (ret Value.none) _ _ s'
    refine wpAny_pure (hR s' c (mv.mono more) hc ?_)
    have e : ks.take i = ks := List.take_of_length_le (by omega)
    rw [e] at x
    exact x.keep fun o q => mv.heap a o aw q
  | succ f ih =>
    intro i s c hf hi st hc x hR
    have lt : i < n := by omega
    refine codeAny_builtin F.entry_set_update_loop ?_
    rw [Around.under_plainId F.plain_set_update_loop _]
    show wpAny _ A.in1 (pyNext (.ref I) >>= _) _ _ s
    refine wpAny_bind (W.item i s _ _ lt st fun v s' pv st' mv => ?_)
    obtain ⟨k, hk, iv, sv⟩ := hv i v pv
    have x' := x.keep fun o q => mv.heap a o aw q
    show wpAny _ A.in1 (holding [v] (setAdd a v) >>= _) _ _ s'
    refine wpAny_bind (wpAny_holding ?_)
    unfold setAdd
    refine wpAny_holding (wpAny_bind (knd.pyHash iv ?_))
    refine mem_add (s := { s' with toks := s'.toks + 1 }) x' (by omega) iv sv fun b h' c' sb hc' y => ?_
    have z : Mem knd h' a (fun j => j ∈ ks.take (i + 1)) c' := y.of fun j => by
      rw [List.take_add_one, hk]
      simp only [Option.toList, List.mem_append, List.mem_singleton]
      exact Or.comm
    refine wpAny_pure ⟨plainId_quiet F.plain_set_update_loop _, ih (i + 1) _ c' (by omega) lt (W.frame _ s' _ _ st' (Nat.le_succ _) fun b hb o q => ?_) (by omega) z fun s2 c2 mv2 hc2 z2 => ?_⟩
    · rw [sb.2 b fun e => ha (e ▸ hb)]
      exact q
    · refine hR s2 c2 (Moved.trans W.gtrans ((mv.mono more).then_heap (Nat.le_succ _) fun b o hb q => ?_) mv2) hc2 z2
      rw [sb.2 b fun e => hb (by rw [e]; exact List.mem_cons_self)]
      exact q

def fresh0 (w : World) : Obj := { cls := .type "set", dict := none, data := .set #[] 0 (.fresh 0 0 (!w.params.followText "set-order")) }
set_option maxHeartbeats 4000000 in
/-- set(v): what it does but the taking in -/
theorem set_shell {v : Value} {Q : Value → Shared → Prop}
    (ini : ∀ A' : Around, (A.handled = none → A'.handled = none) → wpAny (model P w) A' (Builtin.«set.__init__» ⟨[.ref s.heap.objs.size, v], []⟩) (fun r s2 => r = Fin.done (.ret .none) ∧ Q (.ref s.heap.objs.size) s2) E { s with heap := s.heap.push (fresh0 w) }) :
    wpAny (model P w) A (call (.type "set") [v]) Q E s := by
  obtain ⟨c, tl, hmro⟩ := F.called_set.mro
  have hmade := F.called_set.made
  have hsub := F.called_set.sub
  refine wpAny_call (codeAny_of_tree ?_)
  show wpAny _ _ (callAny (.type "set") _) _ _ _
  refine wpAny_pure ⟨Code.quiet_builtin _ (by decide +kernel), codeAny_builtin F.entry_type_call ?_⟩
  rw [Around.under_plain (weight_type_call_type "set" [v] []) rfl]
  have h1 := F.called_set.notType
  have h2 := F.called_set.canCreate
  have hct := F.typeCall_set_1 v
  repeat (any_goals (first | assumption | wp_step))
  refine codeAny_mono (code_set_led1 v (E := E) (Q₁ := fun obj s₁ => obj = .ref s.heap.objs.size ∧ s₁ = { s with heap := s.heap.push (fresh0 w) }) ⟨rfl, rfl⟩) fun r s₁ hr => ?_
  cases r with
  | error e => exact hr
  | ok fl =>
    cases fl with
    | ret obj =>
      obtain ⟨rfl, rfl⟩ := hr
      have hT : Shared.TypeIs { s with heap := s.heap.push (fresh0 w) } (.ref s.heap.objs.size) "set" := ⟨_, Heap.get?_push_size _ rfl, rfl⟩
      have hli := F.called_set.init.lookup
      have hbi := F.called_set.init.bind (.ref s.heap.objs.size)
      repeat (any_goals (first | assumption | wp_step))
      refine codeAny_mono (codeAny_call_builtin (R := wants (fun r s₂ => r = .none ∧ Q (.ref s.heap.objs.size) s₂) E) F.called_set.init.plain F.entry_set_init (check_set_init_1 hT ?_)) fun r₂ s₂ hr₂ => ?_
      · refine wpAny_mono (ini A.in1.in1 fun z => by simpa using z) (fun r s2 q => ?_) fun e s2 q => q
        obtain ⟨rfl, q⟩ := q
        exact ⟨rfl, q⟩
      · cases r₂ with
        | error e => exact hr₂
        | ok fl₂ =>
          cases fl₂ with
          | ret r =>
            obtain ⟨rfl, hq⟩ := hr₂
            repeat (any_goals (first | assumption | wp_step))
          | _ => exact hr₂.elim
    | _ => exact hr.elim

/-- what stands ready once the loop has an iterator -/
theorem mem_taken {it a : Addr} {n : Nat} {fp : List Addr} {Pv : Nat → Value → Prop} {St : Nat → Heap → Prop} {Q : Value → Shared → Prop} {s1 : Shared} (hh : A.handled = none) (W : Walks P w A.in1 it fp [it] n Pv St) (ha : a ∉ fp) (ks : List κ) (hn : ks.length = n) (hb : n + 1 < scanBound)
    (hv : ∀ i v, Pv i v → ∃ k, ks[i]? = some k ∧ knd.is k v = true ∧ v.scannable = true) (st : St 0 s1.heap) (x : s1.heap.get? a = some (fresh0 w))
    (hQ : ∀ h' tk c, c ≤ n → Mem knd h' a (fun j => j ∈ ks) c → (∀ b o, b ≠ a → b ≠ it → s1.heap.get? b = some o → h'.get? b = some o) → Q .none { s1 with heap := h', toks := tk }) :
    wpAny (model P w) A (runValue (.builtin "set.update.loop" ⟨[.ref a, .ref it], []⟩)) Q E s1 := by
  refine wpAny_runValue (mem_loop W.toS ha ks hn hb hv (n - 0) 0 _ 0 (by omega) (Nat.zero_le _) st (Nat.le_refl _) ((mem_new x).of fun k => by simp) fun s' c mv hc y => ?_)
  obtain ⟨h', g, d, tk, os⟩ := s'
  have eg : g = s1.gens := mv.gens
  have ed : d = s1.drawn := mv.drawn
  have eo : os = s1.os := mv.os
  subst eg ed eo
  exact hQ h' tk c hc y fun b o b1 b2 q => mv.heap b o (by simp [b1, b2]) q
end
end Fz
end

section
namespace Fz
open PySem PySem.Spec PyProof.Rows L2
section
variable {P : Program} {w : World} {A : Around} {E : Value → Shared → Prop} {s : Shared} {κ : Type} [DecidableEq κ] {knd : PySem.KeyKind P w κ}

set_option maxHeartbeats 4000000 in
/-- set(xs), a list -/
theorem set_list {l : Addr} {items : Array Value} {Q : Value → Shared → Prop} (hh : A.handled = none) (hl : s.heap.IsList l items) (ks : List κ) (hn : ks.length = items.size) (hb : items.size + 1 < scanBound)
    (hv : ∀ (i : Nat) (v : Value), items[i]? = some v → ∃ k, ks[i]? = some k ∧ knd.is k v = true ∧ v.scannable = true)
    (hQ : ∀ h' tk c, c ≤ items.size → Mem knd h' s.heap.objs.size (fun j => j ∈ ks) c → (∀ b o, s.heap.get? b = some o → h'.get? b = some o) → Q (.ref s.heap.objs.size) { s with heap := h', toks := tk }) :
    wpAny (model P w) A (call (.type "set") [.ref l]) Q E s := by
  refine set_shell fun A' hA => ?_
  have hh' := hA hh
  obtain ⟨ol, hol, hcl, nl, hdl⟩ := hl
  obtain ⟨oc, od, odt, osl⟩ := ol
  simp only at hcl hdl
  subst hcl hdl
  have hlS : l < s.heap.objs.size := Heap.lt_size hol
  have hol' : (s.heap.push (fresh0 w)).get? l = some { cls := .type "list", dict := od, data := .seq items nl, slots := osl } := Heap.get?_push_of_some _ hol
  have hl1 : (s.heap.push (fresh0 w)).IsList l items := ⟨_, hol', rfl, nl, rfl⟩
  have hS : (s.heap.push (fresh0 w)).get? s.heap.objs.size = some { cls := .type "set", dict := none, data := .set #[] 0 (.fresh 0 0 (!w.params.followText "set-order")) } := Heap.get?_push_size _ rfl
  have hT : Shared.TypeIs { s with heap := s.heap.push (fresh0 w) } (.ref s.heap.objs.size) "set" := ⟨_, hS, rfl⟩
  have hsls := F.sub_list_set
  have hslf := F.sub_list_frozenset
  have hne : (Value.type "list" == Value.type "dict") = false := by decide
  unfold Builtin.«set.__init__» noKeywords Builtin.Frozenset.updateFrom
  generalize hPI : pyIter = PI
  wp_walk
  subst hPI
  refine wpAny_pyIter_list hl1 ?_
  have z1 : (s.heap.push (fresh0 w)).objs.size = s.heap.objs.size + 1 := Heap.size_push ..
  refine wpAny_bind (mem_taken (knd := knd) (by simpa using hh') (Walks.list (by simpa using hh') (s.heap.push (fresh0 w)).objs.size l (by rw [z1]; exact Nat.ne_of_lt (Nat.lt_succ_of_lt hlS)) items) (a := s.heap.objs.size) (by
      rw [z1]
      simp only [List.mem_cons, List.not_mem_nil, or_false, not_or]
      exact ⟨Nat.ne_of_lt (Nat.lt_succ_self _), Nat.ne_of_gt hlS⟩) ks hn hb hv ?st ?here fun h' tk c hc y k => ?_)
  case st => exact ⟨⟨_, Heap.get?_push_size _ rfl, rfl, rfl⟩, hl1.push _⟩
  case here => exact Heap.get?_push_of_some _ hS
  refine wpAny_pure ?_
  show wpAny _ _ (ret Value.none) _ _ _
  refine wpAny_pure ⟨rfl, hQ h' tk c hc y fun b o q => ?_⟩
  have hb := Heap.lt_size q
  refine k b o (Nat.ne_of_lt hb) (fun e => ?_) (Heap.get?_push_of_some _ (Heap.get?_push_of_some _ q))
  have e : b = s.heap.objs.size + 1 := by rw [e, ← z1]
  exact absurd hb (by rw [e]; exact Nat.not_lt.mpr (Nat.le_succ _))

set_option maxHeartbeats 4000000 in
/-- set(x), a text: its signs -/
theorem set_text {x : Str} {t : Tok} {Q : Value → Shared → Prop} (hh : A.handled = none) (hb : x.cps.size + 1 < scanBound)
    (hQ : ∀ h' tk c, c ≤ x.cps.size → Mem (PySem.strKind P w) h' s.heap.objs.size (fun j => ∃ n ∈ x.cps.toList, j = ⟨#[n]⟩) c → (∀ b o, s.heap.get? b = some o → h'.get? b = some o) → Q (.ref s.heap.objs.size) { s with heap := h', toks := tk }) :
    wpAny (model P w) A (call (.type "set") [.str x t]) Q E s := by
  refine set_shell fun A' hA => ?_
  have hh' := hA hh
  have hS : (s.heap.push (fresh0 w)).get? s.heap.objs.size = some { cls := .type "set", dict := none, data := .set #[] 0 (.fresh 0 0 (!w.params.followText "set-order")) } := Heap.get?_push_size _ rfl
  have hT : Shared.TypeIs { s with heap := s.heap.push (fresh0 w) } (.ref s.heap.objs.size) "set" := ⟨_, hS, rfl⟩
  have hsls := F.sub_str_set
  have hslf := F.sub_str_frozenset
  have hne : (Value.type "str" == Value.type "dict") = false := by decide
  unfold Builtin.«set.__init__» noKeywords Builtin.Frozenset.updateFrom
  generalize hPI : pyIter = PI
  wp_walk
  subst hPI
  have z1 : (s.heap.push (fresh0 w)).objs.size = s.heap.objs.size + 1 := Heap.size_push ..
  refine wpAny_pyIter_str fun o St W st => ?_
  refine wpAny_bind (mem_taken (knd := PySem.strKind P w) (by simpa using hh') (W _ (by simpa using hh')) (a := s.heap.objs.size) (by
      show s.heap.objs.size ∉ [(s.heap.push (fresh0 w)).objs.size]
      rw [z1]
      simp only [List.mem_cons, List.not_mem_nil, or_false]
      exact Nat.ne_of_lt (Nat.lt_succ_self _)) (x.cps.toList.map fun n => (⟨#[n]⟩ : Str)) (by simp) hb (fun i v ⟨c, u, h1, h2⟩ => ⟨⟨#[c]⟩, by rw [List.getElem?_map, Array.getElem?_toList, h1]; rfl, by rw [h2]; exact strKind_is _ _ _ _, by rw [h2]; rfl⟩)
    ?st ?here fun h' tk c hc y k => ?_)
  case st => exact st
  case here => exact Heap.get?_push_of_some _ hS
  refine wpAny_pure ?_
  show wpAny _ _ (ret Value.none) _ _ _
  refine wpAny_pure ⟨rfl, hQ h' tk c hc (y.of fun j => by simp [List.mem_map, eq_comm]) fun b o q => ?_⟩
  have hb := Heap.lt_size q
  refine k b o (Nat.ne_of_lt hb) (fun e => ?_) (Heap.get?_push_of_some _ (Heap.get?_push_of_some _ q))
  have e : b = s.heap.objs.size + 1 := by rw [e, ← z1]
  exact absurd hb (by rw [e]; exact Nat.not_lt.mpr (Nat.le_succ _))

/-- the members, each once, in some order -/
theorem mem_out {h : Heap} {a : Addr} {m : κ → Prop} {n : Nat} (x : Mem knd h a m n) : ∃ ob es ep t, h.get? a = some ob ∧ ob.cls = .type "set" ∧ ob.data = .set es ep t ∧ t.fits es.size = true ∧ es.size < scanBound ∧ Ris t.place.toList ∧ (w.params.followText "set-order" = true ∨ t.led = true) ∧
    ∀ out : List Value, out.Perm (es.toList.map (·.2)) → ∃ ks : List κ, ItemsAre knd ks out ∧ ks.Nodup ∧ (∀ k, k ∈ ks ↔ m k) ∧ ks.length = n := by
  obtain ⟨ob, mem, ep, tab, h1, h2, h3, h4, h5, h6, h7, h8, h9, h10, h11⟩ := x
  refine ⟨ob, mem, ep, tab, h1, h2.1, h3, h4, by omega, h6, h5, fun out hp => ?_⟩
  have each : ∀ v ∈ out, ∃ k, knd.is k v = true := fun v hv => by
    obtain ⟨e, he, q⟩ := List.mem_map.mp (hp.mem_iff.mp hv)
    obtain ⟨⟨k, hk, _⟩, _⟩ := h9 e he
    exact ⟨k, by rw [← q]; exact hk⟩
  have un : out.Pairwise fun u v => ∀ k, knd.is k u = true → knd.is k v = true → False :=
    (hp.pairwise_iff fun {x y} z k a b => z k b a).mpr (List.pairwise_map.mpr h10)
  have go : ∀ out : List Value, (∀ v ∈ out, ∃ k, knd.is k v = true) → out.Pairwise (fun u v => ∀ k, knd.is k u = true → knd.is k v = true → False) →
      ∃ ks : List κ, ItemsAre knd ks out ∧ ks.Nodup ∧ (∀ k, k ∈ ks ↔ ∃ v ∈ out, knd.is k v = true) := by
    intro out
    induction out with
    | nil => exact fun _ _ => ⟨[], .nil, .nil, fun k => by simp⟩
    | cons v out ih =>
      intro he hu
      obtain ⟨ks, i1, i2, i3⟩ := ih (fun v hv => he v (List.mem_cons_of_mem _ hv)) (List.pairwise_cons.mp hu).2
      obtain ⟨k, hk⟩ := he v List.mem_cons_self
      refine ⟨k :: ks, .cons hk i1, List.nodup_cons.mpr ⟨fun z => ?_, i2⟩, fun j => ?_⟩
      · obtain ⟨u, hu', q⟩ := (i3 k).mp z
        exact (List.pairwise_cons.mp hu).1 u hu' k hk q
      · rw [List.mem_cons]
        constructor
        · rintro (e | e)
          · exact ⟨v, List.mem_cons_self, by rw [e]; exact hk⟩
          · obtain ⟨u, hu', q⟩ := (i3 j).mp e
            exact ⟨u, List.mem_cons_of_mem _ hu', q⟩
        · rintro ⟨u, hu', q⟩
          rcases List.mem_cons.mp hu' with e | e
          · rw [e] at q
            exact .inl (knd.inj v j k q hk)
          · exact .inr ((i3 j).mpr ⟨u, e, q⟩)
  obtain ⟨ks, i1, i2, i3⟩ := go out each un
  refine ⟨ks, i1, i2, fun k => (i3 k).trans (Iff.trans ⟨?_, ?_⟩ (h11 k).symm), ?_⟩
  · rintro ⟨v, hv, q⟩
    obtain ⟨e, he, c⟩ := List.mem_map.mp (hp.mem_iff.mp hv)
    exact ⟨e, he, by rw [c]; exact q⟩
  · rintro ⟨e, he, q⟩
    exact ⟨e.2, hp.mem_iff.mpr (List.mem_map.mpr ⟨e, he, rfl⟩), q⟩
  · have hl : ∀ {ks : List κ} {vs : List Value}, ItemsAre knd ks vs → ks.length = vs.length := by
      intro ks vs z
      induction z with
      | nil => rfl
      | cons _ _ ih => simp [ih]
    rw [hl i1, hp.length_eq, List.length_map, Array.length_toList, h7]
end
end Fz
end

section
namespace Fz
open PySem PySem.Spec PyProof.Rows L2 PySem.W

/-! ### data as the library reads it -/
mutual
def pyD : D → PyData
  | .bl b => .bool b
  | .int i => .int i
  | .str x => .str ⟨x.toArray⟩
  | .tup ds => .tuple (pyDs ds)
  | .lst ds => .list (pyDs ds)
  | .scr ns => .list (ns.map .int)
  | _ => .none
def pyDs : List D → List PyData
  | [] => []
  | d :: ds => pyD d :: pyDs ds
end
theorem pyDs_map : ∀ ds : List D, pyDs ds = ds.map pyD
  | [] => by unfold pyDs; rfl
  | d :: ds => by unfold pyDs; rw [pyDs_map ds]; rfl
theorem pyDs_len (ds : List D) : (pyDs ds).length = ds.length := by rw [pyDs_map, List.length_map]
section
variable {X : Cx} {pins : List (Addr × Obj)} {σ : L2.St} {H G : Hp} {s : Shared}
theorem readsAll_ints {h : Heap} : ∀ {ns : List Int} {us : List Value}, IntsAre us ns → ReadsAll h us (ns.map .int) []
  | _, _, .nil => .nil
  | _, _, .cons k t r => .cons (as := []) (bs := []) (.int k t) (readsAll_ints r)
mutual
theorem reads_at (I : Inv X pins σ H s) (sb : Sub G H) : ∀ {d : D} {v : V} {u : Value} {n : Nat}, Rep X.K G d v → L2.RelV v u → dat d n = true → ∃ as, Reads s.heap u (pyD d) as
  | _, _, u, _, .non, q, _ => by cases q; exact ⟨[], by unfold pyD; exact .none⟩
  | _, _, u, _, .bl, q, _ => by cases q; exact ⟨[], by unfold pyD; exact .bool _⟩
  | _, _, u, _, .int, q, _ => by obtain ⟨t, rfl⟩ := q; exact ⟨[], by unfold pyD; exact .int _ _⟩
  | _, _, u, _, .str _, q, _ => by obtain ⟨t, rfl⟩ := q; exact ⟨[], by unfold pyD; exact .str _ _⟩
  | _, _, u, n, .tup (a := a) (ds := ds) h r, q, dd => by
    cases q
    obtain ⟨its, rv, ⟨o, e1, e2, m, e3⟩, hz⟩ := I.tuple (sb.st h)
    cases n with
    | zero => unfold dat at dd; cases dd
    | succ n =>
      unfold dat at dd
      obtain ⟨as, ra⟩ := readsL_at I sb r rv dd
      exact ⟨as, by unfold pyD; exact .tuple e1 e2 e3 (by simpa using ra)⟩
  | _, _, u, n, .lst (a := a) (ds := ds) h r, q, dd => by
    cases q
    obtain ⟨its, rv, hl, hz⟩ := I.list (SqL.of (K := X.K) (sb _ _ h))
    obtain ⟨o, e1, e2, m, e3⟩ := hl.isList
    cases n with
    | zero => unfold dat at dd; cases dd
    | succ n =>
      unfold dat at dd
      obtain ⟨as, ra⟩ := readsL_at I sb r rv dd
      exact ⟨a :: as, by unfold pyD; exact .list e1 e2 e3 (by simpa using ra)⟩
  | _, _, _, n, .ref, _, dd => by unfold dat at dd; cases n <;> cases dd
  | _, _, _, n, .scr _, _, dd => by unfold dat at dd; cases n <;> cases dd
  | _, _, _, n, .obj _ _, _, dd => by unfold dat at dd; cases n <;> cases dd
  | _, _, _, n, .dk _ _, _, dd => by unfold dat at dd; cases n <;> cases dd
  | _, _, _, n, .dt _ _, _, dd => by unfold dat at dd; cases n <;> cases dd
theorem readsL_at (I : Inv X pins σ H s) (sb : Sub G H) : ∀ {ds : List D} {vs : List V} {us : List Value} {n : Nat}, RepL X.K G ds vs → Vals vs us → dats ds n = true → ∃ as, ReadsAll s.heap us (pyDs ds) as
  | _, _, _, _, .nil, .nil, _ => ⟨[], by unfold pyDs; exact .nil⟩
  | _, _, _, n, .cons h r, .cons q qs, dd => by
    unfold dats at dd
    obtain ⟨d1, d2⟩ := Bool.and_eq_true_iff.mp dd
    obtain ⟨as, ha⟩ := reads_at I sb h q d1
    obtain ⟨bs, hb⟩ := readsL_at I sb r qs d2
    exact ⟨as ++ bs, by unfold pyDs; exact .cons ha hb⟩
end
end

/-! ### one list for a set of members -/
def insU {α : Type} (lt : α → α → Bool) (x : α) : List α → List α
  | [] => [x]
  | y :: l => if lt x y then x :: y :: l else if lt y x then y :: insU lt x l else y :: l
def uniq {α : Type} (lt : α → α → Bool) : List α → List α
  | [] => []
  | x :: l => insU lt x (uniq lt l)
structure Strict {α : Type} (lt : α → α → Bool) : Prop where
  irr : ∀ x, lt x x = false
  tr : ∀ x y z, lt x y = true → lt y z = true → lt x z = true
  tri : ∀ x y, lt x y = false → lt y x = false → x = y
section
variable {α : Type} {lt : α → α → Bool}
theorem mem_insU (st : Strict lt) (x : α) : ∀ (l : List α) (z : α), z ∈ insU lt x l ↔ z = x ∨ z ∈ l
  | [], z => by simp [insU]
  | y :: l, z => by
    unfold insU
    by_cases c : lt x y = true
    · rw [if_pos c]; simp
    · rw [if_neg c]
      by_cases c2 : lt y x = true
      · rw [if_pos c2, List.mem_cons, mem_insU st x l z, List.mem_cons]
        constructor <;> (intro h; rcases h with h | h | h <;> simp [h])
      · rw [if_neg c2]
        have e := st.tri x y (by simpa using c) (by simpa using c2)
        subst e
        simp
theorem sorted_insU (st : Strict lt) (x : α) : ∀ (l : List α), l.Pairwise (fun a b => lt a b = true) → (insU lt x l).Pairwise (fun a b => lt a b = true)
  | [], _ => by simp [insU]
  | y :: l, h => by
    obtain ⟨h1, h2⟩ := List.pairwise_cons.mp h
    unfold insU
    by_cases c : lt x y = true
    · rw [if_pos c]
      exact List.pairwise_cons.mpr ⟨fun z hz => (List.mem_cons.mp hz).elim (fun e => e ▸ c) fun e => st.tr _ _ _ c (h1 z e), h⟩
    · rw [if_neg c]
      by_cases c2 : lt y x = true
      · rw [if_pos c2]
        exact List.pairwise_cons.mpr ⟨fun z hz => ((mem_insU st x l z).mp hz).elim (fun e => e ▸ c2) (h1 z), sorted_insU st x l h2⟩
      · rw [if_neg c2]; exact h
theorem sorted_uniq (st : Strict lt) : ∀ (l : List α), (uniq lt l).Pairwise (fun a b => lt a b = true)
  | [] => .nil
  | x :: l => sorted_insU st x _ (sorted_uniq st l)
theorem mem_uniq (st : Strict lt) : ∀ (l : List α) (z : α), z ∈ uniq lt l ↔ z ∈ l
  | [], z => Iff.rfl
  | x :: l, z => by
    show z ∈ insU lt x (uniq lt l) ↔ _
    rw [mem_insU st, mem_uniq st l z, List.mem_cons]
theorem strict_ext (st : Strict lt) : ∀ {l m : List α}, l.Pairwise (fun a b => lt a b = true) → m.Pairwise (fun a b => lt a b = true) → (∀ z, z ∈ l ↔ z ∈ m) → l = m
  | [], [], _, _, _ => rfl
  | [], y :: m, _, _, h => by simpa using (h y).mpr List.mem_cons_self
  | x :: l, [], _, _, h => by simpa using (h x).mp List.mem_cons_self
  | x :: l, y :: m, hl, hm, h => by
    obtain ⟨l1, l2⟩ := List.pairwise_cons.mp hl
    obtain ⟨m1, m2⟩ := List.pairwise_cons.mp hm
    have e : x = y := by
      rcases List.mem_cons.mp ((h x).mp List.mem_cons_self) with c | c
      · exact c
      · rcases List.mem_cons.mp ((h y).mpr List.mem_cons_self) with d | d
        · exact d.symm
        · have q := st.tr _ _ _ (m1 x c) (l1 y d)
          rw [st.irr] at q
          cases q
    subst e
    congr 1
    refine strict_ext st l2 m2 fun z => ⟨fun hz => ?_, fun hz => ?_⟩
    · rcases List.mem_cons.mp ((h z).mp (List.mem_cons_of_mem _ hz)) with c | c
      · subst c
        have q := l1 z hz
        rw [st.irr] at q
        cases q
      · exact c
    · rcases List.mem_cons.mp ((h z).mpr (List.mem_cons_of_mem _ hz)) with c | c
      · subst c
        have q := m1 z hz
        rw [st.irr] at q
        cases q
      · exact c
theorem uniq_of (st : Strict lt) {l m : List α} (hl : l.Pairwise (fun a b => lt a b = true)) (h : ∀ z, z ∈ l ↔ z ∈ m) : l = uniq lt m := strict_ext st hl (sorted_uniq st m) fun z => (h z).trans (mem_uniq st m z).symm
theorem uniq_congr (st : Strict lt) {l m : List α} (h : ∀ z, z ∈ l ↔ z ∈ m) : uniq lt l = uniq lt m := uniq_of st (sorted_uniq st l) fun z => (mem_uniq st l z).trans (h z)
theorem len_insU (x : α) : ∀ l : List α, (insU lt x l).length ≤ l.length + 1
  | [] => by simp [insU]
  | y :: l => by
    have := len_insU x l
    unfold insU
    split
    · simp
    · split
      · simp; omega
      · simp
theorem len_uniq : ∀ l : List α, (uniq lt l).length ≤ l.length
  | [] => Nat.le_refl _
  | x :: l => by
    have h := len_insU (lt := lt) x (uniq lt l)
    have h2 := len_uniq l
    show (insU lt x (uniq lt l)).length ≤ l.length + 1
    omega
end
def ltI (a b : Int) : Bool := decide (a < b)
def ltN (a b : Nat) : Bool := decide (a < b)
def ltS (a b : List Nat) : Bool := decide (a < b)
theorem strictI : Strict ltI := ⟨fun x => by simp [ltI], fun x y z a b => by simp [ltI] at *; omega, fun x y a b => by simp [ltI] at *; omega⟩
theorem strictN : Strict ltN := ⟨fun x => by simp [ltN], fun x y z a b => by simp [ltN] at *; omega, fun x y a b => by simp [ltN] at *; omega⟩
theorem strictS : Strict ltS := ⟨fun x => by simp [ltS, List.lt_irrefl], fun x y z a b => by simp [ltS] at *; exact List.lt_trans a b, fun x y a b => by simp [ltS] at *; exact List.le_antisymm b a⟩
end Fz
end

section
namespace Fz
open PySem PySem.Spec PyProof.Rows L2 PySem.W
mutual
theorem reads_lt {h : Heap} : ∀ {v : Value} {d : PyData} {as : List Addr}, Reads h v d as → ∀ b ∈ as, b < h.objs.size
  | _, _, _, .none => fun b hb => nomatch hb
  | _, _, _, .bool _ => fun b hb => nomatch hb
  | _, _, _, .int _ _ => fun b hb => nomatch hb
  | _, _, _, .str _ _ => fun b hb => nomatch hb
  | _, _, _, .list ho _ _ r => fun b hb => (List.mem_cons.mp hb).elim (fun e => e ▸ Heap.lt_size ho) (readsAll_lt r b)
  | _, _, _, .tuple _ _ _ r => readsAll_lt r
  | _, _, _, .dict ho _ _ r q => fun b hb => (List.mem_append.mp hb).elim (fun z => (List.mem_cons.mp z).elim (fun e => e ▸ Heap.lt_size ho) (readsAll_lt r b)) (readsAll_lt q b)
theorem readsAll_lt {h : Heap} : ∀ {v : List Value} {d : List PyData} {as : List Addr}, ReadsAll h v d as → ∀ b ∈ as, b < h.objs.size
  | _, _, _, .nil => fun b hb => nomatch hb
  | _, _, _, .cons r q => fun b hb => (List.mem_append.mp hb).elim (reads_lt r b) (readsAll_lt q b)
end
/-- vs stand for bs and read as data that can be sorted -/
structure Able {β : Type} (enc : β → PyData) (R : Value → β → Prop) (u : Nat) (h : Heap) (vs : List Value) (bs : List β) : Prop where
  is : EachIs R vs bs
  rd : EachIs (fun v b => ∃ as, Reads h v (enc b) as) vs bs
  al : AllAlike (bs.map enc)
  so : Sortable (bs.map enc)
  sz : bs.length ≤ sizeLine
  de : ∀ b ∈ bs, u + (enc b).depth < cLine
/-- s2 comes after s and a heap between; p is not before that one -/
structure Later (s s2 : Shared) (p : Addr) : Prop where
  by_ : ∃ h1 : Heap, (∀ b o, s.heap.get? b = some o → h1.get? b = some o) ∧ (∀ b o, h1.get? b = some o → s2.heap.get? b = some o) ∧ h1.objs.size ≤ p
  gens : s2.gens = s.gens
  os : s2.os = s.os
theorem Later.inv {X : Cx} {pins : List (Addr × Obj)} {σ : L2.St} {H : Hp} {s s2 : Shared} {p : Addr} (l : Later s s2 p) (I : Inv X pins σ H s) : H p = none ∧ ∀ o, ObjOk X.prog X.w (upd H p o) s2.heap p o → Inv X pins σ (upd H p o) s2 := by
  obtain ⟨⟨h1, k1, k2, z⟩, g, e⟩ := l
  have I1 : Inv X pins σ H { s with heap := h1, toks := s.toks } := I.kept k1
  have hn : H p = none := I1.hok.fresh z
  refine ⟨hn, fun o new => ?_⟩
  have J := I1.call (ch := []) (g' := s2.gens) (d' := s2.drawn) (t' := s2.toks) (Un.laid k2 z hn) (I1.hok.laid k2 z new) (by rw [g]; exact I.bare) (fun _ z => nomatch z)
  obtain ⟨hh, gg, dd, tt, oo⟩ := s2
  have e : oo = s.os := e
  subst e
  exact J
section
variable {P : Program} {w : World} {A : Around} {E : Value → Shared → Prop} {s : Shared} {β : Type} {enc : β → PyData} {R : Value → β → Prop}
/-- sorted(u), whatever u hands out -/
theorem sorted_call {u : Value} {Q : Value → Shared → Prop} (B : List β → Prop)
    (coll : wpAny (model P w) A.in1 (collect u) (fun vs s1 => (∀ b o, s.heap.get? b = some o → s1.heap.get? b = some o) ∧ s1.gens = s.gens ∧ s1.os = s.os ∧ ∃ bs, B bs ∧ Able enc R (A.units + 8) s1.heap vs bs) E s)
    (hQ : ∀ s2 p out c bs, Later s s2 p → s2.heap.get? p = some (seqObj "list" (List.toArray out) c) → B bs → out.length = bs.length → EachIs R out (bs.mergeSort (dataLe false enc)) → Q (.ref p) s2) :
    wpAny (model P w) A (call (.builtin "sorted") [u]) Q E s := by
  refine Calls.call_function_entry kind_sorted plain_sorted entry_sorted (args_sorted1 _) ?_
  unfold Builtin.«sorted»
  refine wpAny_bind (m := checkCount "sorted" 1 1 _) (wpAny_pure ?_)
  refine wpAny_bind (wpAny_mono coll (fun vs s1 q => ?_) fun _ _ z => z)
  obtain ⟨k1, g1, o1, bs, hB, ab⟩ := q
  have hl : vs.length = bs.length := ab.is.length
  refine wpAny_bind (wpAny_newList ?_ (by rw [hl]; exact ab.sz))
  have hoL : (s1.heap.push (seqObj "list" vs.toArray 0)).get? s1.heap.objs.size = some (seqObj "list" vs.toArray 0) := Heap.get?_push_size _ rfl
  have rd : EachIs (fun v b => ∃ as, Reads (s1.heap.push (seqObj "list" vs.toArray 0)) v (enc b) as ∧ s1.heap.objs.size ∉ as) vs bs := ab.rd.mono fun v b ⟨as, r⟩ =>
    ⟨as, PyProof.Rows.Reads.keeps (fun _ _ e => Heap.get?_push_of_some _ e) r, fun z => absurd (reads_lt r _ z) (Nat.lt_irrefl _)⟩
  refine wpAny_bind (wpAny_holding ?_)
  refine list_sort_data (R := R) (enc := enc) (s := { s1 with heap := s1.heap.push (seqObj "list" vs.toArray 0) }) hoL ab.is rd ab.al ab.so ab.sz (fun b hb => ?_) fun out hol ho => ?_
  · have := ab.de b hb
    show A.units + 1 + 1 + (enc b).depth < cLine
    omega
  · obtain ⟨c, hc⟩ := sortedHeap_at (vs := vs) (out := out.toArray) hoL
    refine wpAny_pure ⟨_, rfl, hQ _ s1.heap.objs.size out c bs ⟨⟨s1.heap, k1, fun b o q1 => ?_, Nat.le_refl _⟩, g1, o1⟩ hc hB hol ho⟩
    have lt := Heap.lt_size q1
    show (sortedHeap (s1.heap.push (seqObj "list" vs.toArray 0)) s1.heap.objs.size vs out.toArray).get? b = some o
    rw [sortedHeap_old (Nat.ne_of_lt lt) (by rw [size_push']; exact Nat.lt_succ_of_lt lt)]
    exact Heap.get?_push_of_some _ q1
end
end Fz
end

section
namespace Fz
open PySem PySem.Spec PyProof.Rows L2 PySem.W
theorem each_items {P : Program} {w : World} {κ : Type} [DecidableEq κ] {knd : PySem.KeyKind P w κ} : ∀ {ks : List κ} {vs : List Value}, ItemsAre knd ks vs → EachIs (fun v k => knd.is k v = true) vs ks
  | _, _, .nil => .nil
  | _, _, .cons h r => .cons h (each_items r)
section
variable {P : Program} {w : World} {κ : Type} [DecidableEq κ] {knd : PySem.KeyKind P w κ}
/-- members that sort by lt -/
structure Kd (knd : PySem.KeyKind P w κ) (enc : κ → PyData) (lt : κ → κ → Bool) : Prop where
  st : Strict lt
  rd : ∀ k v h, knd.is k v = true → Reads h v (enc k) []
  al : ∀ a b, alike (enc a) (enc b) = true
  so : ∀ a, enc a ≠ .none ∧ ∀ xs, enc a ≠ .tuple xs
  le : dataLe false enc = fun a b => !lt b a
  d0 : ∀ a, (enc a).depth = 0
theorem Kd.total {enc : κ → PyData} {lt : κ → κ → Bool} (k : Kd knd enc lt) : TotalLe (dataLe false enc) := by
  rw [k.le]
  refine ⟨fun a b c h1 h2 => ?_, fun a b => ?_⟩
  · simp only [Bool.not_eq_true'] at *
    cases e : lt c a with
    | false => rfl
    | true =>
      cases f : lt a b with
      | true => rw [k.st.tr _ _ _ e f] at h2; cases h2
      | false =>
        have := k.st.tri a b f h1
        subst this
        rw [e] at h2; cases h2
  · simp only [Bool.not_eq_true']
    cases e : lt b a with
    | false => exact .inl rfl
    | true =>
      refine .inr ?_
      cases f : lt a b with
      | false => rfl
      | true => have := k.st.tr _ _ _ e f; rw [k.st.irr] at this; cases this
theorem Kd.sorted {enc : κ → PyData} {lt : κ → κ → Bool} (k : Kd knd enc lt) {ks : List κ} (nd : ks.Nodup) : (ks.mergeSort (dataLe false enc)).Pairwise fun a b => lt a b = true := by
  have h1 := sort_pairwise k.total ks
  have h2 : (ks.mergeSort (dataLe false enc)).Nodup := (List.mergeSort_perm ks _).nodup_iff.mpr nd
  rw [List.nodup_iff_pairwise_ne] at h2
  refine (h1.and h2).imp fun {a b} ⟨x, ne⟩ => ?_
  rw [k.le] at x
  simp only [Bool.not_eq_true'] at x
  cases f : lt a b with
  | true => rfl
  | false => exact absurd (k.st.tri a b f x) ne
variable {A : Around} {E : Value → Shared → Prop} {s : Shared}
theorem sorted_mem {enc : κ → PyData} {lt : κ → κ → Bool} (kd : Kd knd enc lt) (hh : A.handled = none) (hu : A.units + 64 < cLine) {a : Addr} {m : κ → Prop} {n : Nat} (x : Mem knd s.heap a m n) {Q : Value → Shared → Prop}
    (hQ : ∀ s2 p out c ks, Later s s2 p → s2.heap.get? p = some (seqObj "list" (List.toArray out) c) → EachIs (fun v k => knd.is k v = true) out ks → ks.Pairwise (fun a b => lt a b = true) → (∀ j, j ∈ ks ↔ m j) → ks.length ≤ 4096 → Q (.ref p) s2) :
    wpAny (model P w) A (call (.builtin "sorted") [.ref a]) Q E s := by
  obtain ⟨ob, es, ep, t, h1, h2, h3, h4, h5, h6, h7, out0⟩ := mem_out x
  refine sorted_call (enc := enc) (R := fun v k => knd.is k v = true) (fun ks : List κ => ks.Nodup ∧ (∀ j, j ∈ ks ↔ m j) ∧ ks.length < 4096) ?_ fun s2 p out c bs la hg ⟨b1, b2, b3⟩ hl ho =>
    hQ s2 p out c _ la hg ho (kd.sorted b1) (fun j => ((List.mergeSort_perm bs _).mem_iff).trans (b2 j)) (by rw [List.length_mergeSort]; exact Nat.le_of_lt b3)
  refine collect_set (A := A.in1) hh ⟨ob, h1, h2, h3⟩ h4 h5 h6 h7 fun s1 vs k1 z1 g1 o1 pm => ?_
  obtain ⟨ks, i1, i2, i3, i4⟩ := out0 vs pm
  have hl : ks.length < 4096 := by
    have e := (each_items i1).length
    rw [← e, pm.length_eq, List.length_map, Array.length_toList]
    exact h5
  refine ⟨k1, g1, o1, ks, ⟨i2, i3, hl⟩, each_items i1, (each_items i1).mono fun v k q => ⟨[], kd.rd k v _ q⟩, AllAlike.of kd.al, Sortable.others kd.so, by rw [sizeLine_eq]; omega, fun b _ => ?_⟩
  rw [kd.d0]
  omega
end
theorem not_ltI (a b : Int) : decide (a ≤ b) = !ltI b a := by
  by_cases h : a ≤ b
  · simp [ltI, h]
  · simp [ltI, h]; omega
theorem kdI {P : Program} {w : World} : Kd (PySem.intKind P w) PyData.int ltI where
  st := strictI
  rd := fun k v h q => by
    obtain ⟨t, rfl⟩ := PySem.Value.isInt_shape q
    exact .int _ _
  al := fun a b => by unfold alike; rfl
  so := fun a => ⟨fun z => (by cases z), fun xs z => (by cases z)⟩
  le := by
    rw [dataLe_int (fun k => k)]
    funext a b
    exact not_ltI a b
  d0 := fun a => by unfold PyData.depth; rfl
def ltT (a b : Str) : Bool := ltS a.cps.toList b.cps.toList
theorem strictT : Strict ltT := ⟨fun x => strictS.irr _, fun x y z a b => strictS.tr _ _ _ a b, fun x y a b => str_of_cps (strictS.tri _ _ a b)⟩
theorem isStr_shape {k : Str} {v : Value} (h : Value.isStrOf k v = true) : ∃ t, v = .str k t := by
  cases v <;> simp_all [Value.isStrOf]
theorem kdS {P : Program} {w : World} : Kd (PySem.strKind P w) PyData.str ltT where
  st := strictT
  rd := fun k v h q => by
    obtain ⟨t, rfl⟩ := isStr_shape q
    exact .str _ _
  al := fun a b => by unfold alike; rfl
  so := fun a => ⟨fun z => (by cases z), fun xs z => (by cases z)⟩
  le := by
    rw [dataLe_str (fun k => k)]
    funext a b
    show decide (a.cps.toList ≤ b.cps.toList) = !ltS b.cps.toList a.cps.toList
    unfold ltS
    exact (not_lt_str _ _).symm
  d0 := fun a => by unfold PyData.depth; rfl
end Fz
end

section
namespace Fz
open PySem PySem.Spec PyProof.Rows L2 PySem.W
theorem vals_each {P : Program} {w : World} {κ : Type} [DecidableEq κ] {knd : PySem.KeyKind P w κ} {f : κ → V} (hf : ∀ k v, knd.is k v = true → L2.RelV (f k) v) : ∀ {us : List Value} {ks : List κ}, EachIs (fun v k => knd.is k v = true) us ks → Vals (ks.map f) us
  | _, _, .nil => .nil
  | _, _, .cons h r => .cons (hf _ _ h) (vals_each hf r)
/-- what sorted(set(x)) lists -/
inductive SetV (K : PySem.W.Frag) (H : Hp) : V → List V → Prop
  | txt {z : Str} : z.cps.size + 1 < 4096 → SetV K H (.str z) ((uniq ltN z.cps.toList).map fun c => V.str ⟨#[c]⟩)
  | nums {l : Addr} {ns : List Int} : SqL K H l (ns.map V.int) → ns.length + 1 < 4096 → SetV K H (.ref l) ((uniq ltI ns).map V.int)
  | txts {l : Addr} {ss : List Str} : SqL K H l (ss.map V.str) → ss.length + 1 < 4096 → SetV K H (.ref l) ((uniq ltT ss).map V.str)
section
variable {X : Cx}
theorem vals_at {f : α → V} {as : List α} {us : List Value} (r : Vals (as.map f) us) (i : Nat) (v : Value) (h : us[i]? = some v) : ∃ a, as[i]? = some a ∧ L2.RelV (f a) v := by
  have hl : us.length = as.length := by rw [← r.length, List.length_map]
  have hi : i < as.length := by rw [← hl]; exact (List.getElem?_eq_some_iff.mp h).1
  obtain ⟨w, hw, q⟩ := r.get (i := i) (x := f as[i]) (by simp [hi])
  rw [h] at hw
  cases hw
  exact ⟨as[i], List.getElem?_eq_getElem hi, q⟩
/-- from the set that was made: Python's sorted of it -/
theorem sort_made {pins : List (Addr × Obj)} {σ : L2.St} {H : Hp} {s : Shared} {κ : Type} [DecidableEq κ] {knd : PySem.KeyKind X.prog X.w κ} {enc : κ → PyData} {lt : κ → κ → Bool} (kd : Kd knd enc lt) (hcalm : X.calm = true) (hu : X.A.units + 64 < cLine) (I : Inv X pins σ H s)
    {m : κ → Prop} {n : Nat} {a : Addr} (x : Mem knd s.heap a m n) {f : κ → V} (hf : ∀ k v, knd.is k v = true → L2.RelV (f k) v) {Q : VK}
    (hQ : ∀ ks : List κ, ks.Pairwise (fun a b => lt a b = true) → (∀ j, j ∈ ks ↔ m j) → ∀ p, H p = none → Q (.ref p) (upd H p (.lst (ks.map f)))) :
    wpAny (model X.prog X.w) X.A (call (.builtin "sorted") [.ref a]) (EP X pins σ Q) X.xe s := by
  refine sorted_mem kd (I.ok.hd hcalm) hu x fun s2 p out c ks la hg ho hs hm hz => ?_
  obtain ⟨hn, J⟩ := la.inv I
  exact ⟨.ref p, _, J (.lst (ks.map f)) ⟨by rw [List.length_map, sizeLine_eq]; omega, out, c, vals_each hf ho, hg⟩, rfl, hQ ks hs hm p hn⟩
def tSortSet (K : PySem.W.Frag) (ta : TE) : TE := fun σ H Q => ta σ H fun x H1 => ∃ xs, SetV K H1 x xs ∧ ∀ p, H1 p = none → Q (.ref p) (upd H1 p (.lst xs))
theorem pe_sortSet {a : Expr} {ta : TE} {p p2 q pos : Pos} (hc : X.calm = true) (hu : X.A.units + 64 < cLine) (hg : Gl X "sorted") (hm : X.mg "sorted" = none) (hg2 : Gl X "set") (hm2 : X.mg "set" = none) (ha : PE X a ta)
    (na : starEach [a] X.env = (false, eval a X.env) :: starEach [] X.env := by rfl) : PE X (.Call (.Name "sorted" p) [.Call (.Name "set" p2) [a] [] q] [] pos) (tSortSet X.K ta) := by
  refine ⟨fun pins s σ H Q I h => ?_⟩
  refine Call_ (ld_blt I hg hm boot_sorted ?_)
  refine PyProof.Rows.callWith_builtin1 (PyProof.Rows.args_cons ?_ rfl) rfl rfl
  refine Call_ (ld_blt I hg2 hm2 boot_set ?_)
  refine PyProof.Rows.callWith_type1 (PyProof.Rows.args_cons (thn (ha.run pins s σ H _ I h) fun v s1 ⟨x, H1, I1, r1, q1⟩ => PyProof.Rows.args_nil ?_) na) na rfl
  obtain ⟨xs, sv, q1⟩ := q1
  have hd := I1.ok.hd hc
  cases sv with
  | @txt z hz =>
    obtain ⟨t, rfl⟩ := r1
    refine set_text hd (by unfold scanBound; omega) fun h' tk c hcz y k => PyProof.Rows.args_nil ?_
    refine sort_made (s := { s1 with heap := h', toks := tk }) kdS hc hu (I1.kept k) y (f := V.str) (fun k v q => isStr_shape q) fun ks hs hm p hp => ?_
    have e : ks.map V.str = (uniq ltN z.cps.toList).map fun c => V.str ⟨#[c]⟩ := by
      have : ks = (uniq ltN z.cps.toList).map fun c => (⟨#[c]⟩ : Str) := by
        refine strict_ext strictT hs (List.pairwise_map.mpr ((sorted_uniq strictN _).imp fun {a b} q => ?_)) fun j => ?_
        · show ltS [a] [b] = true
          unfold ltS
          unfold ltN at q
          simp only [decide_eq_true_eq] at q ⊢
          exact List.cons_lt_cons_iff.mpr (.inl q)
        · rw [hm j, List.mem_map]
          exact ⟨fun ⟨n, h1, h2⟩ => ⟨n, (mem_uniq strictN _ n).mpr h1, h2.symm⟩, fun ⟨n, h1, h2⟩ => ⟨n, (mem_uniq strictN _ n).mp h1, h2.symm⟩⟩
      rw [this, List.map_map]
      rfl
    rw [e]
    exact q1 p hp
  | @nums l ns hs hz =>
    cases r1
    obtain ⟨its, rv, hl, _⟩ := I1.list hs
    have hlen : its.length = ns.length := by rw [← rv.length, List.length_map]
    refine set_list (knd := intKind X.prog X.w) hd hl.isList ns (by rw [List.size_toArray, hlen]) (by rw [List.size_toArray, hlen]; unfold scanBound; omega) (fun i v q => ?_) fun h' tk c hcz y k => PyProof.Rows.args_nil ?_
    · obtain ⟨n, h1, t, rfl⟩ := vals_at rv i v (by simpa using q)
      exact ⟨n, h1, intKind_is _ _ _ _, rfl⟩
    · refine sort_made (s := { s1 with heap := h', toks := tk }) kdI hc hu (I1.kept k) y (f := V.int) (fun k v q => PySem.Value.isInt_shape q) fun ks hs hm p hp => ?_
      rw [uniq_of strictI hs hm]
      exact q1 p hp
  | @txts l ss hs hz =>
    cases r1
    obtain ⟨its, rv, hl, _⟩ := I1.list hs
    have hlen : its.length = ss.length := by rw [← rv.length, List.length_map]
    refine set_list (knd := strKind X.prog X.w) hd hl.isList ss (by rw [List.size_toArray, hlen]) (by rw [List.size_toArray, hlen]; unfold scanBound; omega) (fun i v q => ?_) fun h' tk c hcz y k => PyProof.Rows.args_nil ?_
    · obtain ⟨n, h1, t, rfl⟩ := vals_at rv i v (by simpa using q)
      exact ⟨n, h1, strKind_is _ _ _ _, rfl⟩
    · refine sort_made (s := { s1 with heap := h', toks := tk }) kdS hc hu (I1.kept k) y (f := V.str) (fun k v q => isStr_shape q) fun ks hs hm p hp => ?_
      rw [uniq_of strictT hs hm]
      exact q1 p hp
end
/-! ### .. of data -/
def SetOf (d : D) (out : List D) : Prop := (∃ cs, d = .str cs ∧ cs.length < 4000 ∧ out = (uniq ltN cs).map fun c => .str [c]) ∨ (∃ ns : List Int, d = .lst (ns.map .int) ∧ ns.length < 4000 ∧ out = (uniq ltI ns).map .int) ∨
  ∃ ss : List (List Nat), d = .lst (ss.map .str) ∧ ss.length < 4000 ∧ out = (uniq ltS ss).map .str
theorem insU_cons {α : Type} {lt : α → α → Bool} {x y : α} {l : List α} : insU lt x (y :: l) = if lt x y then x :: y :: l else if lt y x then y :: insU lt x l else y :: l := rfl
theorem insU_map {α β : Type} {lt : α → α → Bool} {lt' : β → β → Bool} {f : α → β} (h : ∀ a b, lt' (f a) (f b) = lt a b) (x : α) : ∀ l : List α, insU lt' (f x) (l.map f) = (insU lt x l).map f
  | [] => rfl
  | y :: l => by
    rw [List.map_cons, insU_cons, insU_cons, h, h, insU_map h x l]
    split
    · rfl
    · split <;> rfl
theorem uniq_map {α β : Type} {lt : α → α → Bool} {lt' : β → β → Bool} {f : α → β} (h : ∀ a b, lt' (f a) (f b) = lt a b) : ∀ l : List α, uniq lt' (l.map f) = (uniq lt l).map f
  | [] => rfl
  | y :: l => by
    show insU lt' (f y) (uniq lt' (l.map f)) = (insU lt y (uniq lt l)).map f
    rw [uniq_map h l, insU_map h]
theorem uniq_sub {α : Type} {lt : α → α → Bool} (st : Strict lt) {p : α → Prop} {l : List α} (h : ∀ x ∈ l, p x) : ∀ x ∈ uniq lt l, p x := fun x hx => h x ((mem_uniq st l x).mp hx)
section
variable {X : Cx} {Ex : AX} {Γ : Gam} {S : Store} {Q : DQ} {a : Expr} {pos p p2 q : Pos} {d : D}
theorem setV_of {K G} {d : D} {v : V} {H : Hp} {out : List D} (r : Rep K G d v) (e : Sub G H) (h : SetOf d out) : ∃ xs, SetV K H v xs ∧ out.length < 4000 ∧ ∀ G', RepL K G' out xs := by
  rcases h with ⟨cs, rfl, hz, rfl⟩ | ⟨ns, rfl, hz, rfl⟩ | ⟨ss, rfl, hz, rfl⟩
  · cases r with
    | str hl =>
      refine ⟨_, .txt (by simpa using (by omega : cs.length + 1 < 4096)), by rw [List.length_map]; exact Nat.lt_of_le_of_lt (len_uniq _) hz, fun G' => ?_⟩
      show RepL K G' ((uniq ltN cs).map fun c => .str [c]) ((uniq ltN cs.toArray.toList).map fun c => V.str ⟨#[c]⟩)
      have := RepL.strs (K := K) (G := G') ((uniq ltN cs).map fun c => [c]) (fun x hx => by
        obtain ⟨c, _, rfl⟩ := List.mem_map.mp hx
        show 1 ≤ 16777000
        decide)
      rw [List.map_map, List.map_map] at this
      exact this
  · cases r with
    | lst hl rr =>
      rw [rr.ints_inv] at hl
      exact ⟨_, .nums (SqL.of (e _ _ hl)) (by omega), by rw [List.length_map]; exact Nat.lt_of_le_of_lt (len_uniq _) hz, fun G' => RepL.ints _⟩
  · cases r with
    | lst hl rr =>
      obtain ⟨e1, e2⟩ := rr.strs_inv
      rw [e1] at hl
      have e3 : (ss.map fun x => V.str ⟨x.toArray⟩) = (ss.map fun x => (⟨x.toArray⟩ : Str)).map V.str := by rw [List.map_map]; rfl
      rw [e3] at hl
      refine ⟨_, .txts (SqL.of (e _ _ hl)) (by rw [List.length_map]; omega), by rw [List.length_map]; exact Nat.lt_of_le_of_lt (len_uniq _) hz, fun G' => ?_⟩
      rw [uniq_map (lt := ltS) (lt' := ltT) (f := fun x => (⟨x.toArray⟩ : Str)) (fun a b => rfl), List.map_map]
      exact RepL.strs _ (uniq_sub strictS e2)
theorem ze_sortSet {j : Nat} (hr : Room j X.A) (bn : Bn X.mg) (h : ZE X Ex a Γ S fun d S1 => ∃ out, SetOf d out ∧ Q (.lst out) S1) (hg : Gl X "sorted" := by rfl) (hg2 : Gl X "set" := by rfl) (hs : s1 X a := by rfl) : ZE X Ex (.Call (.Name "sorted" p) [.Call (.Name "set" p2) [a] [] q] [] pos) Γ S Q := fun F σ H c Q' k =>
  self_of (pe_sortSet c.ok.calm hr.units hg bn.sorted hg2 bn.set pe_self hs) (h F σ H c _ fun v H1 d S1 t hc r ⟨out, so, q⟩ => by
    obtain ⟨xs, sv, hz, rl⟩ := setV_of r hd_sub so
    refine ⟨xs, sv, fun p hp => ?_⟩
    obtain ⟨n1, n2, n3⟩ := hc.new (o := .lst xs) hp
    exact k _ _ _ _ (t.trans n2) n1 (.lst n3 (rl _)) q)
theorem zv_sortSet {j : Nat} {out : List D} (hr : Room j X.A) (bn : Bn X.mg) (h : ZV X a Γ S d) (so : SetOf d out) (hg : Gl X "sorted" := by rfl) (hg2 : Gl X "set" := by rfl) (hs : s1 X a := by rfl) : ZV X (.Call (.Name "sorted" p) [.Call (.Name "set" p2) [a] [] q] [] pos) Γ S (.lst out) := fun Ex Q q => ze_sortSet hr bn (h.ze ⟨out, so, q⟩) hg hg2 hs
end
end Fz
end

section
namespace Fz
open PySem PySem.Spec PyProof.Rows L2 PySem.W
mutual
theorem depth_dat : ∀ {d : D} {n : Nat}, dat d n = true → (pyD d).depth ≤ n
  | .non, _, _ => by unfold pyD PyData.depth; exact Nat.zero_le _
  | .bl _, _, _ => by unfold pyD PyData.depth; exact Nat.zero_le _
  | .int _, _, _ => by unfold pyD PyData.depth; exact Nat.zero_le _
  | .str _, _, _ => by unfold pyD PyData.depth; exact Nat.zero_le _
  | .tup ds, n, h => by
    cases n with
    | zero => unfold dat at h; cases h
    | succ n =>
      unfold dat at h
      unfold pyD PyData.depth
      exact Nat.succ_le_succ (depths_dat h)
  | .lst ds, n, h => by
    cases n with
    | zero => unfold dat at h; cases h
    | succ n =>
      unfold dat at h
      unfold pyD PyData.depth
      exact Nat.succ_le_succ (depths_dat h)
  | .ref _, n, h => by unfold dat at h; cases n <;> cases h
  | .scr _, n, h => by unfold dat at h; cases n <;> cases h
  | .obj _ _ _, n, h => by unfold dat at h; cases n <;> cases h
  | .dk _, n, h => by unfold dat at h; cases n <;> cases h
  | .dt _, n, h => by unfold dat at h; cases n <;> cases h
theorem depths_dat : ∀ {ds : List D} {n : Nat}, dats ds n = true → PyData.depthAll (pyDs ds) ≤ n
  | [], _, _ => by unfold pyDs PyData.depthAll; exact Nat.zero_le _
  | d :: ds, n, h => by
    unfold dats at h
    obtain ⟨a, b⟩ := Bool.and_eq_true_iff.mp h
    unfold pyDs PyData.depthAll
    exact Nat.max_le.mpr ⟨depth_dat a, depths_dat b⟩
end
/-- what an iterable hands out -/
def srcD : D → Option (List D)
  | .lst ds => some ds
  | .tup ds => some ds
  | .str cs => some (cs.map fun c => .str [c])
  | _ => none
def srt (ds : List D) : List D := ds.mergeSort (dataLe false pyD)
def rSrt (K : PySem.W.Frag) : List V → Hp → VK → Prop := fun vs H Q => ∃ G v d ds, vs = [v] ∧ Sub G H ∧ Rep K G d v ∧ srcD d = some ds ∧ dats ds 50 = true ∧ AllAlike (ds.map pyD) ∧ Sortable (ds.map pyD) ∧ ds.length ≤ 16777216 ∧
  ∀ xs p, RepL K G (srt ds) xs → H p = none → Q (.ref p) (upd H p (.lst xs))
section
variable {X : Cx} {pins : List (Addr × Obj)} {σ : L2.St} {H G : Hp} {s : Shared}
theorem each_rep {K G} : ∀ {ds : List D} {vs : List V} {us : List Value}, RepL K G ds vs → Vals vs us → EachIs (fun u d => ∃ x, L2.RelV x u ∧ Rep K G d x) us ds
  | _, _, _, .nil, .nil => .nil
  | _, _, _, .cons h r, .cons q t => .cons ⟨_, q, h⟩ (each_rep r t)
theorem rep_each {K G} : ∀ {ds : List D} {us : List Value}, EachIs (fun u d => ∃ x, L2.RelV x u ∧ Rep K G d x) us ds → ∃ vs, RepL K G ds vs ∧ Vals vs us
  | _, _, .nil => ⟨[], .nil, .nil⟩
  | _, _, .cons ⟨x, q, h⟩ t => by
    obtain ⟨vs, h1, h2⟩ := rep_each t
    exact ⟨x :: vs, .cons h h1, .cons q h2⟩
theorem each_both {α β : Type} {R T : α → β → Prop} : ∀ {us : List α} {bs : List β}, EachIs R us bs → EachIs T us bs → EachIs (fun u b => R u b ∧ T u b) us bs
  | _, _, .nil, .nil => .nil
  | _, _, .cons h r, .cons q t => .cons ⟨h, q⟩ (each_both r t)
theorem reads_each {h : Heap} : ∀ {ds : List D} {us : List Value} {as : List Addr}, ReadsAll h us (pyDs ds) as → EachIs (fun u d => ∃ as, Reads h u (pyD d) as) us ds
  | [], us, as, r => by unfold pyDs at r; cases r; exact .nil
  | d :: ds, us, as, r => by
    unfold pyDs at r
    cases r with
    | cons h t => exact .cons ⟨_, h⟩ (reads_each t)
theorem each_keep {h h' : Heap} (k : ∀ b o, h.get? b = some o → h'.get? b = some o) {ds : List D} {us : List Value} (e : EachIs (fun u d => ∃ as, Reads h u (pyD d) as) us ds) : EachIs (fun u d => ∃ as, Reads h' u (pyD d) as) us ds :=
  e.mono fun _ _ ⟨as, r⟩ => ⟨as, PyProof.Rows.Reads.keeps k r⟩
theorem sign_items {K G} {x : Str} {acc : Array Value} {h : Heap} (hi : ItemsOf (SignAt x) acc x.cps.size) : EachIs (fun u d => (∃ y, L2.RelV y u ∧ Rep K G d y) ∧ ∃ as, Reads h u (pyD d) as) acc.toList (x.cps.toList.map fun c => D.str [c]) := by
  have hl : acc.toList.length = (x.cps.toList.map fun c => D.str [c]).length := by rw [List.length_map, Array.length_toList, Array.length_toList]; exact hi.1
  refine EachIs.of_zip hl fun p hp => ?_
  obtain ⟨i, hi', e⟩ := List.mem_iff_getElem.mp hp
  rw [List.getElem_zip] at e
  rw [List.length_zip] at hi'
  have i1 : i < acc.size := by rw [Array.length_toList] at hi'; omega
  obtain ⟨c, t, h1, h2⟩ := hi.2 i _ (Array.getElem?_eq_getElem i1)
  rw [← e]
  have e2 : (x.cps.toList.map fun c => D.str [c])[i]'(by omega) = .str [c] := by
    rw [List.getElem_map]
    congr 1
    have := (Array.getElem?_eq_some_iff.mp h1).2
    rw [Array.getElem_toList, this]
  have e1 : acc.toList[i]'(by simpa using i1) = .str ⟨#[c]⟩ t := by rw [Array.getElem_toList, h2]
  show (∃ y, L2.RelV y (acc.toList[i]'_) ∧ Rep K G ((x.cps.toList.map fun c => D.str [c])[i]'_) y) ∧ ∃ as, Reads h (acc.toList[i]'_) (pyD ((x.cps.toList.map fun c => D.str [c])[i]'_)) as
  rw [e1, e2]
  exact ⟨⟨.str ⟨#[c]⟩, ⟨t, rfl⟩, .str (x := [c]) (by show 1 ≤ 16777000; decide)⟩, [], by unfold pyD; exact .str _ _⟩
theorem cr_srt (hc : X.calm = true) (hu : X.A.units + 64 < cLine) : CallR X (.builtin "sorted") (rSrt X.K) := by
  intro pins s σ H vs us Q I r ⟨G, v, d, ds, e, sb, rp, sd, dd, al, so, sz, q⟩
  subst e
  obtain ⟨u, rfl, ru⟩ := r.one
  have de : ∀ b ∈ ds, X.A.units + 8 + (pyD b).depth < cLine := fun b hb => by
    obtain ⟨i, hi⟩ := List.mem_iff_getElem?.mp hb
    have := depth_dat (dats_get dd hi)
    omega
  have fin : ∀ (s2 : Shared) (p : Addr) (out : List Value) (c : Nat) (bs : List D), Later s s2 p → s2.heap.get? p = some (seqObj "list" (List.toArray out) c) → bs = ds → out.length = bs.length →
      EachIs (fun u d => ∃ x, L2.RelV x u ∧ Rep X.K G d x) out (bs.mergeSort (dataLe false pyD)) → EP X pins σ Q (.ref p) s2 := by
    intro s2 p out c bs la hg e hl ho
    subst e
    obtain ⟨xs, h1, h2⟩ := rep_each ho
    obtain ⟨hn, J⟩ := la.inv I
    exact ⟨.ref p, _, J (.lst xs) ⟨by rw [h2.length, hl, sizeLine_eq]; exact sz, out, c, h2, hg⟩, rfl, q xs p h1 hn⟩
  have hd := I.ok.hd hc
  cases rp with
  | lst hl rr =>
    cases sd
    cases ru
    obtain ⟨its, rv, hl2, _⟩ := I.list (SqL.of (K := X.K) (sb _ _ hl))
    obtain ⟨o, e1, e2, m, e3⟩ := hl2.isList
    obtain ⟨as, ra⟩ := readsL_at I sb rr rv dd
    have hlen : its.length = ds.length := by rw [← rv.length, rr.length]
    refine sorted_call (enc := pyD) (R := fun u d => ∃ x, L2.RelV x u ∧ Rep X.K G d x) (fun bs => bs = ds) ?_ fin
    exact wpAny_collect_seq _ (.inl rfl) e1 e2 e3 (fun h' k => ⟨k, rfl, rfl, ds, rfl, ⟨each_rep rr rv, each_keep k (reads_each ra), al, so, by rw [sizeLine_eq]; exact sz, de⟩⟩) (by rw [List.size_toArray, hlen, sizeLine_eq]; exact sz)
  | tup hl rr =>
    cases sd
    cases ru
    obtain ⟨its, rv, hl2, _⟩ := I.tuple (sb.st hl)
    obtain ⟨o, e1, e2, m, e3⟩ := hl2
    obtain ⟨as, ra⟩ := readsL_at I sb rr rv dd
    have hlen : its.length = ds.length := by rw [← rv.length, rr.length]
    refine sorted_call (enc := pyD) (R := fun u d => ∃ x, L2.RelV x u ∧ Rep X.K G d x) (fun bs => bs = ds) ?_ fin
    exact wpAny_collect_seq _ (.inr rfl) e1 e2 e3 (fun h' k => ⟨k, rfl, rfl, ds, rfl, ⟨each_rep rr rv, each_keep k (reads_each ra), al, so, by rw [sizeLine_eq]; exact sz, de⟩⟩) (by rw [List.size_toArray, hlen, sizeLine_eq]; exact sz)
  | @str x hl =>
    cases sd
    obtain ⟨t, rfl⟩ := ru
    refine sorted_call (enc := pyD) (R := fun u d => ∃ x, L2.RelV x u ∧ Rep X.K G d x) (fun bs => bs = x.map fun c => .str [c]) ?_ fin
    refine wpAny_collect_str (A := X.A.in1) hd _ t (fun s' acc k g _ o hi => ⟨k, g, o, _, rfl, ?_⟩) (by rw [sizeLine_eq]; show x.toArray.size ≤ _; rw [List.size_toArray]; rw [List.length_map] at sz; exact sz)
    have si := sign_items (K := X.K) (G := G) (h := s'.heap) hi
    rw [show (⟨x.toArray⟩ : Str).cps.toList = x from by simp] at si
    exact ⟨si.mono fun _ _ z => z.1, si.mono fun _ _ z => z.2, al, so, by rw [sizeLine_eq]; exact sz, de⟩
  | _ => cases sd
end

/-! ### plain words -/
def isort (ns : List Int) : List Int := ns.mergeSort fun a b => decide (a ≤ b)
def ssort (ss : List (List Nat)) : List (List Nat) := ss.mergeSort fun a b => decide (a ≤ b)
def nsort (ns : List Nat) : List Nat := ns.mergeSort fun a b => decide (a ≤ b)
theorem pyD_int : (fun a : Int => pyD (.int a)) = PyData.int := by funext a; unfold pyD; rfl
theorem pyD_str : (fun a : List Nat => pyD (.str a)) = fun a => PyData.str ⟨a.toArray⟩ := by funext a; unfold pyD; rfl
theorem le_map {α : Type} (f : α → D) (a b : α) : dataLe false pyD (f a) (f b) = dataLe false (fun z => pyD (f z)) a b := rfl
theorem srt_ints (ns : List Int) : srt (ns.map .int) = (isort ns).map .int := by
  refine (List.map_mergeSort fun a _ b _ => ?_).symm
  rw [le_map D.int, pyD_int, dataLe_int (fun k => k)]
theorem srt_strs (ss : List (List Nat)) : srt (ss.map .str) = (ssort ss).map .str := by
  refine (List.map_mergeSort fun a _ b _ => ?_).symm
  rw [le_map D.str, pyD_str, dataLe_str (fun k : List Nat => (⟨k.toArray⟩ : Str))]
theorem srt_signs (ss : List Nat) : srt (ss.map fun c => .str [c]) = (nsort ss).map fun c => .str [c] := by
  refine (List.map_mergeSort fun a _ b _ => ?_).symm
  have e : (fun a : Nat => pyD (.str [a])) = fun a => PyData.str ⟨#[a]⟩ := by funext a; unfold pyD; rfl
  rw [le_map (fun c => D.str [c]), e, dataLe_str (fun k : Nat => (⟨#[k]⟩ : Str))]
  show decide (a ≤ b) = decide ([a] ≤ [b])
  congr 1
  simp [List.cons_le_cons_iff]
  omega
/-- items that can be sorted -/
structure Srt (ds : List D) : Prop where
  dd : dats ds 50 = true
  al : AllAlike (ds.map pyD)
  so : Sortable (ds.map pyD)
  sz : ds.length ≤ 16777216
theorem srtI {ns : List Int} (h : ns.length ≤ 16777216) : Srt (ns.map .int) where
  dd := dats_of fun d hd => by obtain ⟨n, _, rfl⟩ := List.mem_map.mp hd; unfold dat; rfl
  al := by rw [List.map_map]; exact AllAlike.of (enc := fun a : Int => pyD (.int a)) fun a b => by unfold pyD alike; rfl
  so := by rw [List.map_map]; exact Sortable.others (enc := fun a : Int => pyD (.int a)) fun a => by unfold pyD; exact ⟨fun z => (by cases z), fun xs z => (by cases z)⟩
  sz := by rw [List.length_map]; exact h
theorem srtS {ns : List (List Nat)} (h : ns.length ≤ 16777216) : Srt (ns.map .str) where
  dd := dats_of fun d hd => by obtain ⟨n, _, rfl⟩ := List.mem_map.mp hd; unfold dat; rfl
  al := by rw [List.map_map]; exact AllAlike.of (enc := fun a : List Nat => pyD (.str a)) fun a b => by unfold pyD alike; rfl
  so := by rw [List.map_map]; exact Sortable.others (enc := fun a : List Nat => pyD (.str a)) fun a => by unfold pyD; exact ⟨fun z => (by cases z), fun xs z => (by cases z)⟩
  sz := by rw [List.length_map]; exact h
theorem srtC {ns : List Nat} (h : ns.length ≤ 16777216) : Srt (ns.map fun c => .str [c]) := by
  have := srtS (ns := ns.map fun c => [c]) (by rw [List.length_map]; exact h)
  rw [List.map_map] at this
  exact this
section
variable {X : Cx} {Ex : AX} {Γ : Gam} {S : Store} {Q : DQ} {a e : Expr} {pos p p2 q : Pos} {d : D} {ds : List D} {K : PySem.W.Frag}
theorem g_srt (h : srcD d = some ds) (k : Srt ds) : GivesC K (rSrt K) [d] (.lst (srt ds)) := fun F S H vs Q' hc r q => by
  obtain ⟨v, rfl, r9⟩ := rep1 r
  exact ⟨_, v, d, ds, rfl, hd_sub, r9, h, k.dd, k.al, k.so, k.sz, fun xs p rl hp => q.new hc hp fun G sb e => .lst e (rl.mono sb)⟩
theorem ze_srt {j : Nat} (hr : Room j X.A) (bn : Bn X.mg) (hc : X.calm = true) (h : ZE X Ex e Γ S fun d S1 => ∃ ds, srcD d = some ds ∧ Srt ds ∧ Q (.lst (srt ds)) S1) (hg : Gl X "sorted" := by rfl) (hs : s1 X e := by rfl) : ZE X Ex (.Call (.Name "sorted" p) [e] [] pos) Γ S Q :=
  ze_callBG (cr_srt hc hr.units) bn.sorted boot_sorted (za_cons (h.mono fun d S1 ⟨ds, a, b, q⟩ => za_nil ⟨_, g_srt a b, q⟩) hs) hg (he := hs) (hpl := rfl)
theorem zv_srt {j : Nat} (hr : Room j X.A) (bn : Bn X.mg) (hc : X.calm = true) (h : ZV X e Γ S d) (hd : srcD d = some ds) (k : Srt ds) {out : List D} (ho : srt ds = out) (hg : Gl X "sorted" := by rfl) (hs : s1 X e := by rfl) : ZV X (.Call (.Name "sorted" p) [e] [] pos) Γ S (.lst out) := fun Ex Q q =>
  ze_srt hr bn hc (h.ze ⟨ds, hd, k, by rw [ho]; exact q⟩) hg hs
end
end Fz
end

section
namespace Fz
open PySem PySem.Spec PyProof.Rows L2 PySem.W
abbrev joinL := TL.joinL
theorem len_join (sep : List Nat) : ∀ ys : List (List Nat), (joinL sep ys).length ≤ (ys.map List.length).sum + ys.length * sep.length
  | [] => by simp [TL.joinL]
  | [y] => by simp [TL.joinL]
  | y :: z :: r => by
    have := len_join sep (z :: r)
    simp only [joinL, TL.joinL] at *
    simp only [List.length_append, List.map_cons, List.sum_cons, List.length_cons] at *
    simp only [Nat.add_mul, Nat.one_mul] at *
    omega
def splitL (c : Nat) (a : List Nat) : List (List Nat) := TL.spl [c] 0 [] a
theorem len_spl (b : List Nat) : ∀ (a : List Nat) (k : Nat) (acc : List Nat) (p : List Nat), p ∈ TL.spl b k acc a → p.length ≤ acc.length + a.length
  | [], k, acc, p, h => by
    rw [TL.spl_nil] at h
    rw [List.mem_singleton.mp h]; simp
  | c :: r, 0, acc, p, h => by
    cases e : TL.pre b (c :: r) with
    | true =>
      rw [TL.spl_hit e] at h
      rcases List.mem_cons.mp h with q | q
      · rw [q]; simp
      · have := len_spl b r _ [] p q
        simp only [List.length_cons, List.length_nil] at *
        omega
    | false =>
      rw [TL.spl_miss e] at h
      have := len_spl b r 0 _ p h
      simp only [List.length_append, List.length_cons, List.length_nil] at *
      omega
  | c :: r, k + 1, acc, p, h => by
    have e : TL.spl b (k + 1) acc (c :: r) = TL.spl b k acc r := by rw [TL.spl_pass b (k + 1), TL.spl_pass b k]; rfl
    rw [e] at h
    have := len_spl b r k acc p h
    simp only [List.length_cons] at *
    omega
theorem split_join {c : Nat} {parts : List (List Nat)} (hne : parts ≠ []) (h : ∀ p ∈ parts, c ∉ p) : splitL c (joinL [c] parts) = parts := SX.spl_join hne h
/-- the class of a datum -/
inductive TyD (K : PySem.W.Frag) (S : Store) : D → Value → Prop
  | non : TyD K S .non (.type "NoneType")
  | bl {b} : TyD K S (.bl b) (.type "bool")
  | int {i} : TyD K S (.int i) (.type "int")
  | str {x} : TyD K S (.str x) (.type "str")
  | tup {ds} : TyD K S (.tup ds) (.type "tuple")
  | lst {ds} : TyD K S (.lst ds) (.type "list")
  | scr {ns} : TyD K S (.scr ns) (.type "list")
  | dk {ks} : TyD K S (.dk ks) (.type "dict")
  | dt {ks} : TyD K S (.dt ks) (.type "dict")
  | obj {a c fs} (h : C8.InsC K (He.ga K c)) : TyD K S (.obj a c fs) (.ref (He.ga K c))
  | chg {p : Addr} {i : Nat} {c : Str} {fs : List (Str × D)} (h : C8.InsC K (He.ga K c)) (e : S[i]? = some (p, Cell.ins c fs)) : TyD K S (.ref p) (.ref (He.ga K c))
section
variable {X : Cx} {Ex : AX} {Γ : Gam} {S : Store} {Q : DQ} {a b e o : Expr} {es : List Expr} {pos p p2 q apos cpos : Pos} {d x y : D} {ds : List D} {K : PySem.W.Frag} {n : Str}
/-! ### methods of texts -/
/-- a one-argument method of a text -/
theorem ze_m1 {id : String} {name : Str} {r : V → List V → Hp → VK → Prop} (slot : Slot "str" name id) (ty : typeOf (.builtin id) = pure (.type "method_descriptor")) (rule : MtR X id r)
    (h : ZE X Ex o Γ S fun x S1 => ∃ z, x = .str z ∧ ZE X Ex e Γ S1 fun y S2 => ∃ d, Gives2 X.K (fun v u H Q => r v [u] H Q) x y d ∧ Q d S2)
    (hs : starEach [e] X.env = [(false, eval e X.env)] := by rfl) (hbase : attributeBase o name X.env (eval o X.env) = eval o X.env := by rfl) (hline : (apos.endLine == pos.line) = true := by rfl) : ZE X Ex (.Call (.Attribute o name apos) [e] [] pos) Γ S Q :=
  ze_of (pe_m1 slot ty rule pe_self pe_self hs hbase hline) fun F σ H c Q' k => h F σ H c _ fun v H1 x S1 t1 c1 r1 ⟨z, ez, h1⟩ => by
    subst ez
    cases r1 with
    | str hz =>
      exact ⟨⟨_, rfl⟩, h1 F σ H1 (c.step t1 c1) _ fun u H2 y S2 t2 c2 r2 ⟨d, g, q⟩ => g F S2 H2 _ _ Q' c2 (.str hz) r2 (.of (k.step (t1.trans t2)) q)⟩
abbrev rJoin (K : PySem.W.Frag) : V → List V → Hp → VK → Prop := fun x xs H Q => ∃ a p, ∃ ys : List Str, x = .str a ∧ xs = [.ref p] ∧ (SqL K H p (ys.map V.str) ∨ SqT K H p (ys.map V.str)) ∧
    (ys.map (·.length)).sum + ys.length * a.length ≤ 16777216 ∧ Q (.str (Txt.join a ys)) H
/-- the parts are texts -/
def joinOk (sep : List Nat) (d : D) (ss : List (List Nat)) : Prop := (d = .lst (ss.map .str) ∨ d = .tup (ss.map .str)) ∧ (ss.map List.length).sum + ss.length * sep.length ≤ 16777000
theorem map_strs (ss : List (List Nat)) : (ss.map fun x => V.str ⟨x.toArray⟩) = (ss.map SX.S).map V.str := by rw [List.map_map]; rfl
theorem g_join {sep : List Nat} {ss : List (List Nat)} (h : joinOk sep d ss) : Gives2 K (fun v u H Q => rJoin K v [u] H Q) (.str sep) d (.str (joinL sep ss)) := fun F S H v u Q' hc r1 r2 k => by
  obtain ⟨hd, hz⟩ := h
  cases r1 with
  | str h1 =>
    have fin : ∀ p, (SqL K H p ((ss.map SX.S).map V.str) ∨ SqT K H p ((ss.map SX.S).map V.str)) → rJoin K (.str ⟨sep.toArray⟩) [.ref p] H Q' := fun p hp => by
      refine ⟨SX.S sep, p, ss.map SX.S, rfl, rfl, hp, ?_, ?_⟩
      · rw [List.map_map, List.length_map, SX.S_len, show ((fun x : Str => x.length) ∘ SX.S) = List.length from funext fun x => SX.S_len x]
        omega
      · rw [SX.join_S]
        exact k.self hc (.str (Nat.le_trans (len_join sep ss) hz))
    rcases hd with e | e <;> subst e
    · cases r2 with
      | lst hl rr =>
        rw [(rr.strs_inv).1, map_strs] at hl
        exact fin _ (.inl (SqL.of (hd_sub _ _ hl)))
    · cases r2 with
      | tup hl rr =>
        rw [(rr.strs_inv).1, map_strs] at hl
        exact fin _ (.inr (st_H hl))
theorem ze_join (h : ZE X Ex o Γ S fun x S1 => ∃ sep, x = .str sep ∧ ZE X Ex e Γ S1 fun y S2 => ∃ ss, joinOk sep y ss ∧ Q (.str (joinL sep ss)) S2)
    (hs : starEach [e] X.env = [(false, eval e X.env)] := by rfl) (hbase : attributeBase o "join" X.env (eval o X.env) = eval o X.env := by rfl) (hline : (apos.endLine == pos.line) = true := by rfl) : ZE X Ex (.Call (.Attribute o "join" apos) [e] [] pos) Γ S Q :=
  ze_m1 F.slot_str_join F.type_str_join mt_join (h.mono fun x S1 ⟨sep, e1, h1⟩ => ⟨sep, e1, h1.mono fun y S2 ⟨ss, ok, q⟩ => ⟨_, e1 ▸ g_join ok, q⟩⟩) hs hbase hline
theorem zv_join {sep : List Nat} {ss : List (List Nat)} (ho : ZV X o Γ S (.str sep)) (he : ZV X e Γ S y) (ok : joinOk sep y ss)
    (hs : starEach [e] X.env = [(false, eval e X.env)] := by rfl) (hbase : attributeBase o "join" X.env (eval o X.env) = eval o X.env := by rfl) (hline : (apos.endLine == pos.line) = true := by rfl) : ZV X (.Call (.Attribute o "join" apos) [e] [] pos) Γ S (.str (joinL sep ss)) := fun Ex Q q =>
  ze_join (ho.ze ⟨sep, rfl, he.ze ⟨ss, ok, q⟩⟩) hs hbase hline
theorem g_split {c : Nat} {z : List Nat} (hc256 : c < 256) (hz : z.length ≤ 16777000) : Gives2 K (fun v u H Q => ∃ a b, v = V.str a ∧ [u] = [V.str b] ∧ (b.length == 0) = false ∧ a.length + 2 ≤ sizeLine ∧ rNewStrs (Txt.split a b) H Q) (.str z) (.str [c]) (.lst ((splitL c z).map .str)) := fun F S H v u Q' hc r1 r2 k => by
  cases r1 with
  | str h1 =>
    cases r2 with
    | str h2 =>
      refine ⟨SX.S z, SX.S [c], rfl, rfl, rfl, ?_, fun p hp => ?_⟩
      · rw [SX.S_len, sizeLine_eq]; omega
      · have e : Txt.split (SX.S z) (SX.S [c]) = (splitL c z).map SX.S := SX.split_S (by simp) (by simp [hc256])
        rw [e, ← map_strs]
        refine k.new hc hp fun G sb e => .lst e (RepL.strs _ fun x hx => ?_)
        have := len_spl [c] z 0 [] x hx
        simp only [List.length_nil] at this
        omega
theorem zv_split {c : Nat} {z : List Nat} (ho : ZV X o Γ S (.str z)) (he : ZV X e Γ S (.str [c])) (h256 : c < 256) (hz : z.length ≤ 16777000)
    (hs : starEach [e] X.env = [(false, eval e X.env)] := by rfl) (hbase : attributeBase o "split" X.env (eval o X.env) = eval o X.env := by rfl) (hline : (apos.endLine == pos.line) = true := by rfl) : ZV X (.Call (.Attribute o "split" apos) [e] [] pos) Γ S (.lst ((splitL c z).map .str)) := fun Ex Q q =>
  ze_m1 F.slot_str_split F.type_str_split mt_split (ho.ze ⟨z, rfl, he.ze ⟨_, g_split h256 hz, q⟩⟩) hs hbase hline

/-! ### f-strings, str of an int -/
def intS (i : Int) : List Nat := (toString i : Str).cps.toList
theorem int_str (i : Int) : (⟨(intS i).toArray⟩ : Str) = toString i := str_tl _
theorem len_intS {i : Int} (h : i.natAbs.log2 < 1920) : (intS i).length ≤ 10000 := by
  have e : (intS i).length = (toString i).length := by
    unfold intS
    rw [Array.length_toList]
    exact PySem.ofString_length _
  have := int_text_length_le (k := 1920) (by decide) h
  omega
set_option exponentiation.threshold 2000 in
theorem log_small {i : Int} (h : i.natAbs < 2 ^ 200) : i.natAbs.log2 < 1920 := by
  by_cases h0 : i.natAbs = 0
  · rw [h0]; decide
  · exact (Nat.log2_lt h0).mpr (Nat.lt_of_lt_of_le h (Nat.pow_le_pow_right (by decide) (by decide)))
/-- a part of an f-string -/
theorem ze_fmt (h : ZE X Ex e Γ S fun d S1 => (∃ z, d = .str z ∧ Q (.str z) S1) ∨ ∃ i : Int, d = .int i ∧ i.natAbs.log2 < 1920 ∧ Q (.str (intS i)) S1) : ZE X Ex (.FormattedValue e (-1) none pos) Γ S Q :=
  ze_of (pe_fmt pe_self) fun F σ H c Q' k => h F σ H c _ fun v H1 d S1 t hc r q => by
    rcases q with ⟨z, e, q⟩ | ⟨i, e, hi, q⟩ <;> subst e
    · cases r with
      | str hz => exact .inl ⟨_, rfl, small (by simp [Str.length]; omega), k _ _ _ _ t hc (.str hz) q⟩
    · cases r
      refine .inr ⟨i, rfl, hi, k _ _ _ _ t hc ?_ q⟩
      rw [← int_str]
      exact .str (Nat.le_trans (len_intS hi) (by decide))
theorem zv_fmtS {z : List Nat} (h : ZV X e Γ S (.str z)) : ZV X (.FormattedValue e (-1) none pos) Γ S (.str z) := fun Ex Q q => ze_fmt (h.ze (.inl ⟨z, rfl, q⟩))
theorem zv_fmtI {i : Int} (h : ZV X e Γ S (.int i)) (hi : i.natAbs.log2 < 1920) : ZV X (.FormattedValue e (-1) none pos) Γ S (.str (intS i)) := fun Ex Q q => ze_fmt (h.ze (.inr ⟨i, rfl, hi, q⟩))
/-- f'..' of one part -/
theorem ze_fs1 (h : ZE X Ex e Γ S Q) : ZE X Ex (.JoinedStr [e] pos) Γ S Q := ze_of (pe_joined1 pe_self) h
theorem zv_fs1 (h : ZV X e Γ S d) : ZV X (.JoinedStr [e] pos) Γ S d := fun Ex Q q => ze_fs1 (h.ze q)
/-- the parts of an f-string -/
inductive ZJ (X : Cx) (Γ : Gam) (S : Store) : List Expr → List (List Nat) → Prop
  | nil : ZJ X Γ S [] []
  | cons {e : Expr} {es : List Expr} {z : List Nat} {zs : List (List Nat)} (h : ZV X e Γ S (.str z)) (r : ZJ X Γ S es zs) : ZJ X Γ S (e :: es) (z :: zs)
theorem ZJ.pj {zs} (h : ZJ X Γ S es zs) : PJ X es (es.map (tSelf X)) := by
  induction h with
  | nil => exact .nil
  | cons h r ih => exact .cons pe_self ih
theorem ZJ.run {zs F σ} (h : ZJ X Γ S es zs) : ∀ {H : Hp} {acc : List Nat} {Q' : Str → Hp → Prop}, Con X Ex F Γ S σ H → acc.length + zs.flatten.length ≤ 16777000 → (∀ H', Stp F S H S H' → HC X.K F S H' → Q' ⟨(acc ++ zs.flatten).toArray⟩ H') → tJs (es.map (tSelf X)) ⟨acc.toArray⟩ σ H Q' := by
  induction h with
  | nil =>
    intro H acc Q' c hz k
    have := k H .refl c.hc
    rw [List.flatten_nil, List.append_nil] at this
    exact this
  | @cons e es z zs h r ih =>
    intro H acc Q' c hz k
    rw [List.flatten_cons, List.length_append] at hz
    refine h Ex (fun d S' => d = .str z ∧ S' = S) ⟨rfl, rfl⟩ F σ H c _ fun v H1 d S1 t hc r1 ⟨e1, e2⟩ => ?_
    subst e1 e2
    cases r1 with
    | str hz1 =>
      refine ⟨⟨z.toArray⟩, rfl, ?_, ?_⟩
      · rw [str_app]
        exact small (by simp [Str.length]; omega)
      · rw [str_app]
        refine ih (c.step t hc) (by rw [List.length_append]; omega) fun H' t2 hc2 => ?_
        have := k H' (t.trans t2) hc2
        rw [List.flatten_cons, ← List.append_assoc] at this
        exact this
theorem zv_fs {e1 e2 : Expr} {zs : List (List Nat)} (h : ZJ X Γ S (e1 :: e2 :: es) zs) (hz : zs.flatten.length ≤ 16777000) : ZV X (.JoinedStr (e1 :: e2 :: es) pos) Γ S (.str zs.flatten) := fun Ex Q q =>
  ze_of (pe_joined h.pj) fun F σ H c Q' k => h.run (acc := []) c (by simpa using hz) fun H' t hc => k _ _ _ _ t hc (by simpa using Rep.str hz) q
theorem zv_strI {i : Int} (bn : Bn X.mg) (h : ZV X e Γ S (.int i)) (hi : i.natAbs.log2 < 1920) (hg : Gl X "str" := by rfl) (hs : s1 X e := by rfl) : ZV X (.Call (.Name "str" p) [e] [] pos) Γ S (.str (intS i)) := fun Ex Q q =>
  ze_callTG call_str_int bn.str boot_str' ((zl1 h hs).za ⟨.str (intS i), fun F S H vs Q' hc r k => by
    obtain ⟨v, rfl, r9⟩ := rep1 r
    cases r9
    refine ⟨i, rfl, hi, ?_⟩
    rw [← int_str]
    exact k.self hc (.str (Nat.le_trans (len_intS hi) (by decide))), q⟩) hg (he := hs) (hpl := rfl)

/-! ### isinstance -/
theorem ty_seqL {H : Hp} {a : Addr} {xs : List V} (h : SqL K H a xs) : TyX K H (.ref a) (.type "list") := by
  rcases h with (h | ⟨o, h⟩) | ⟨o, its, n, h1, h2, _⟩
  · exact .base (.lst h)
  · exact .base (.frz h)
  · exact .kList h1 h2
theorem ty_seqT {H : Hp} {a : Addr} {xs : List V} (h : SqT K H a xs) : TyX K H (.ref a) (.type "tuple") := by
  rcases h with (h | ⟨o, h⟩) | ⟨o, its, n, h1, h2, _⟩
  · exact .base (.tup h)
  · exact .fTuple h
  · exact .kTuple h1 h2
theorem ty_at {F H v} {t : Value} (hc : HC K F S H) (r : Rep K (vw F S H) d v) (h : TyD K S d t) : TyX K H v t := by
  cases h with
  | non => cases r; exact .base .non
  | bl => cases r; exact .base (.bl _)
  | int => cases r; exact .base (.int _)
  | str => cases r; exact .base (.str _)
  | tup => cases r with | tup h _ => exact ty_seqT (st_H h)
  | lst => cases r with | lst h _ => exact .base (.lst (hd_sub _ _ h))
  | scr => cases r with | scr h => exact ty_seqL (sl_H h)
  | dk => cases r with | dk h _ => exact .base (.dK (hd_sub _ _ h))
  | dt => cases r with | dt h _ => exact .base (.dT (hd_sub _ _ h))
  | obj i => cases r with | obj h _ => exact .base (.ins (hd_sub _ _ h) i.cl i.ha i.hn i.htk i.hm)
  | chg i e =>
    cases r
    obtain ⟨dx, vs, h, _⟩ := hc.get e
    exact .base (.ins h i.cl i.ha i.hn i.htk i.hm)
/-- the name stands for the class u -/
def ClN (X : Cx) (n : Str) (u : Value) : Prop := (∃ T, u = .type T ∧ X.mg n = none ∧ bootBuiltins n = some (.type T) ∧ n ≠ "__name__") ∨ ∃ C, u = .ref C ∧ X.mg n = some (.ref C)
theorem pe_cln {u : Value} {p : Pos} (h : ClN X n u) (hg : Gl X n) (hd : (n == ("__debug__" : Str)) = false) : ∃ c, ClsV c u ∧ PE X (.Name n p) (tC c) := by
  rcases h with ⟨T, rfl, hm, hb, hn⟩ | ⟨C, rfl, hm⟩
  · exact ⟨.ty T, .ty T, ⟨fun pins s σ H Q I q => ld_blt I hg hm hb ⟨.ty T, H, I, rfl, q⟩ hn hd⟩⟩
  · exact ⟨.ref C, .own C, C8.pe_gc hg ⟨_, hm, rfl⟩ hd⟩
theorem ze_isi {u : Value} (bn : Bn X.mg) (hu : ClN X n u) (h : ZE X Ex e Γ S fun d S1 => ∃ t b, TyD X.K S1 d t ∧ kitOne X.K t u = some b ∧ Q (.bl b) S1) (hg : Gl X "isinstance" := by rfl) (hgn : Gl X n := by rfl) (hd : (n == ("__debug__" : Str)) = false := by decide)
    (he : starEach [e, .Name n p2] X.env = (false, eval e X.env) :: starEach [.Name n p2] X.env := by rfl) (hs1 : starEach [.Name n p2] X.env = (false, eval (.Name n p2) X.env) :: starEach [] X.env := by rfl) : ZE X Ex (.Call (.Name "isinstance" p) [e, .Name n p2] [] pos) Γ S Q := by
  obtain ⟨c, cv, hp⟩ := pe_cln (p := p2) hu hgn hd
  refine ze_of (pe_callB call_isi hg bn.isinstance boot_isinstance (pa_cons pe_self (pa_cons hp pa_nil hs1) he) (he := he) (hpl := by rw [hs1]; rfl)) fun F σ H co Q' k => h F σ H co _ fun v H1 d S1 t hc r ⟨ty, b, td, kt, q⟩ => ?_
  exact ⟨v, c, ty, u, b, rfl, cv, ty_at hc r td, kt, k _ _ _ _ t hc .bl q⟩
theorem zv_isi {u t : Value} {b : Bool} (bn : Bn X.mg) (hu : ClN X n u) (h : ZV X e Γ S d) (td : TyD X.K S d t) (kt : kitOne X.K t u = some b) (hg : Gl X "isinstance" := by rfl) (hgn : Gl X n := by rfl) (hd : (n == ("__debug__" : Str)) = false := by decide)
    (he : starEach [e, .Name n p2] X.env = (false, eval e X.env) :: starEach [.Name n p2] X.env := by rfl) (hs1 : starEach [.Name n p2] X.env = (false, eval (.Name n p2) X.env) :: starEach [] X.env := by rfl) : ZV X (.Call (.Name "isinstance" p) [e, .Name n p2] [] pos) Γ S (.bl b) := fun Ex Q q =>
  ze_isi bn hu (h.ze ⟨t, b, td, kt, q⟩) hg hgn hd he hs1
end
end Fz
end

section
namespace Fz
open PySem PySem.Spec PyProof.Rows L2 PySem.W
mutual
theorem dat_nodict : ∀ {d : D} {n : Nat}, dat d n = true → (pyD d).hasDict = false
  | .non, _, _ => by unfold pyD PyData.hasDict; rfl
  | .bl _, _, _ => by unfold pyD PyData.hasDict; rfl
  | .int _, _, _ => by unfold pyD PyData.hasDict; rfl
  | .str _, _, _ => by unfold pyD PyData.hasDict; rfl
  | .tup ds, n, h => by
    cases n with
    | zero => unfold dat at h; cases h
    | succ n => unfold dat at h; unfold pyD PyData.hasDict; exact dats_nodict h
  | .lst ds, n, h => by
    cases n with
    | zero => unfold dat at h; cases h
    | succ n => unfold dat at h; unfold pyD PyData.hasDict; exact dats_nodict h
  | .ref _, n, h => by unfold dat at h; cases n <;> cases h
  | .scr _, n, h => by unfold dat at h; cases n <;> cases h
  | .obj _ _ _, n, h => by unfold dat at h; cases n <;> cases h
  | .dk _, n, h => by unfold dat at h; cases n <;> cases h
  | .dt _, n, h => by unfold dat at h; cases n <;> cases h
theorem dats_nodict : ∀ {ds : List D} {n : Nat}, dats ds n = true → PyData.hasDictAll (pyDs ds) = false
  | [], _, _ => by unfold pyDs PyData.hasDictAll; rfl
  | d :: ds, n, h => by
    unfold dats at h
    obtain ⟨a, b⟩ := Bool.and_eq_true_iff.mp h
    unfold pyDs PyData.hasDictAll
    rw [dat_nodict a, dats_nodict b]; rfl
end
/-- what Python's repr tells -/
def reprD (d : D) : List Nat := (pyD d).shown.cps.toList
/-- plain data, so deep, whose text is at most so long -/
structure Rok (d : D) (n B : Nat) : Prop where
  dt : dat d n = true
  sh : (pyD d).showable = true
  ln : (pyD d).shown.length ≤ B
theorem Rok.mono {d : D} {n B C : Nat} (h : Rok d n B) (c : B ≤ C) : Rok d n C := ⟨h.dt, h.sh, Nat.le_trans h.ln c⟩
mutual
theorem dat_up : ∀ {d : D} {n m : Nat}, dat d n = true → n ≤ m → dat d m = true
  | .non, _, _, _, _ => by unfold dat; rfl
  | .bl _, _, _, _, _ => by unfold dat; rfl
  | .int _, _, _, _, _ => by unfold dat; rfl
  | .str _, _, _, _, _ => by unfold dat; rfl
  | .tup ds, n, m, h, c => by
    cases n with
    | zero => unfold dat at h; cases h
    | succ n =>
      cases m with
      | zero => omega
      | succ m => unfold dat at h ⊢; exact dats_up h (by omega)
  | .lst ds, n, m, h, c => by
    cases n with
    | zero => unfold dat at h; cases h
    | succ n =>
      cases m with
      | zero => omega
      | succ m => unfold dat at h ⊢; exact dats_up h (by omega)
  | .ref _, n, m, h, c => by unfold dat at h; cases n <;> cases h
  | .scr _, n, m, h, c => by unfold dat at h; cases n <;> cases h
  | .obj _ _ _, n, m, h, c => by unfold dat at h; cases n <;> cases h
  | .dk _, n, m, h, c => by unfold dat at h; cases n <;> cases h
  | .dt _, n, m, h, c => by unfold dat at h; cases n <;> cases h
theorem dats_up : ∀ {ds : List D} {n m : Nat}, dats ds n = true → n ≤ m → dats ds m = true
  | [], _, _, _, _ => by unfold dats; rfl
  | d :: ds, n, m, h, c => by
    unfold dats at h ⊢
    obtain ⟨a, b⟩ := Bool.and_eq_true_iff.mp h
    rw [dat_up a c, dats_up b c]; rfl
end
theorem Rok.up {d : D} {n m B C : Nat} (h : Rok d n B) (c : n ≤ m) (b : B ≤ C) : Rok d m C := ⟨dat_up h.dt c, h.sh, Nat.le_trans h.ln b⟩
theorem rok_non {n : Nat} : Rok .non n 5 := ⟨by unfold dat; rfl, by unfold pyD PyData.showable; rfl, by unfold pyD PyData.shown; decide +kernel⟩
theorem rok_bl {n : Nat} {b : Bool} : Rok (.bl b) n 5 := ⟨by unfold dat; rfl, by unfold pyD PyData.showable; rfl, by unfold pyD PyData.shown; cases b <;> decide +kernel⟩
theorem rok_int {n : Nat} {i : Int} (h : i.natAbs.log2 < 1920) : Rok (.int i) n 2000 := ⟨by unfold dat; rfl, by unfold pyD PyData.showable; exact decide_eq_true h, by
  unfold pyD PyData.shown
  have := int_text_length_le (k := 1920) (by decide) h
  have e := PySem.ofString_length (toString i)
  have e2 : (toString i : Str).length = (toString i).length := e
  show (toString i : Str).length ≤ 2000
  omega⟩
theorem rok_str {n m : Nat} {x : List Nat} (h : x.length ≤ m) (h2 : ∀ c ∈ x, c < 1114112) : Rok (.str x) n (10 * m + 2) := ⟨by unfold dat; rfl, by unfold pyD PyData.showable; rfl, by
  unfold pyD PyData.shown
  have := StrLaws.reprText_len ⟨x.toArray⟩ (fun c hc => Nat.lt_trans (h2 c (by simpa using hc)) (by decide))
  have e : (⟨x.toArray⟩ : Str).length = x.length := by simp [Str.length]
  omega⟩
theorem shownAll_len : ∀ {ds : List D} {B : Nat}, (∀ d ∈ ds, (pyD d).shown.length ≤ B) → ((PyData.shownAll (pyDs ds)).map (·.length)).sum ≤ ds.length * B ∧ (PyData.shownAll (pyDs ds)).length = ds.length
  | [], _, _ => by unfold pyDs PyData.shownAll; exact ⟨by simp, rfl⟩
  | d :: ds, B, h => by
    obtain ⟨a, b⟩ := shownAll_len (ds := ds) (B := B) fun x hx => h x (List.mem_cons_of_mem _ hx)
    have c := h d List.mem_cons_self
    unfold pyDs PyData.shownAll
    rw [List.map_cons, List.sum_cons, List.length_cons, List.length_cons, Nat.add_mul, b]
    exact ⟨by omega, rfl⟩
theorem showAll_of : ∀ {ds : List D}, (∀ d ∈ ds, (pyD d).showable = true) → PyData.showableAll (pyDs ds) = true
  | [], _ => by unfold pyDs PyData.showableAll; rfl
  | d :: ds, h => by
    unfold pyDs PyData.showableAll
    rw [h d List.mem_cons_self, showAll_of fun x hx => h x (List.mem_cons_of_mem _ hx)]; rfl
theorem rok_tup {ds : List D} {n m B : Nat} (hl : ds.length ≤ m) (h : ∀ d ∈ ds, Rok d n B) : Rok (.tup ds) (n + 1) (m * (B + 2) + 3) := by
  obtain ⟨a, b⟩ := shownAll_len fun d hd => (h d hd).ln
  have t := PySem.tupleText_len_le (PyData.shownAll (pyDs ds))
  refine ⟨by unfold dat; exact dats_of fun d hd => (h d hd).dt, by unfold pyD PyData.showable; exact showAll_of fun d hd => (h d hd).sh, ?_⟩
  unfold pyD PyData.shown
  have := Nat.mul_le_mul_right (B + 2) hl
  have e : ds.length * (B + 2) = ds.length * B + ds.length * 2 := Nat.mul_add _ _ _
  omega
theorem rok_lst {ds : List D} {n m B : Nat} (hl : ds.length ≤ m) (h : ∀ d ∈ ds, Rok d n B) : Rok (.lst ds) (n + 1) (m * (B + 2) + 3) := by
  obtain ⟨a, b⟩ := shownAll_len fun d hd => (h d hd).ln
  have t := PySem.listText_len_le (PyData.shownAll (pyDs ds))
  refine ⟨by unfold dat; exact dats_of fun d hd => (h d hd).dt, by unfold pyD PyData.showable; exact showAll_of fun d hd => (h d hd).sh, ?_⟩
  unfold pyD PyData.shown
  have := Nat.mul_le_mul_right (B + 2) hl
  have e : ds.length * (B + 2) = ds.length * B + ds.length * 2 := Nat.mul_add _ _ _
  omega
theorem rok_nil {n B : Nat} : ∀ d ∈ ([] : List D), Rok d n B := fun d h => nomatch h
theorem rok_cons {d : D} {ds : List D} {n m B C : Nat} (h : Rok d m C) (r : ∀ x ∈ ds, Rok x n B) (hm : m ≤ n := by decide) (hc : C ≤ B := by decide) : ∀ x ∈ d :: ds, Rok x n B := fun x hx => (List.mem_cons.mp hx).elim (fun e => e ▸ h.up hm hc) (r x)

def rRep1 (K : PySem.W.Frag) : List V → Hp → VK → Prop := fun vs H Q => ∃ G v d, vs = [v] ∧ Sub G H ∧ Rep K G d v ∧ Rok d 60 16777000 ∧ Q (.str ⟨(reprD d).toArray⟩) H
section
variable {X : Cx} {Ex : AX} {Γ : Gam} {S : Store} {Q : DQ} {e : Expr} {pos p : Pos} {d : D} {K : PySem.W.Frag}
theorem repr_back (d : D) : (⟨(reprD d).toArray⟩ : Str) = (pyD d).shown := str_tl _
theorem cr_repr (gd : X.A.guards = some []) (hu : X.A.units + 64 < cLine) : CallR X (.builtin "repr") (rRep1 X.K) := by
  intro pins s σ H vs us Q I r ⟨G, v, d, e, sb, rp, ok, q⟩
  subst e
  obtain ⟨u, rfl, ru⟩ := r.one
  have hz : (pyD d).shown.length ≤ sizeLine := by
    rw [sizeLine_eq]
    exact Nat.le_trans ok.ln (by decide)
  obtain ⟨as, rd⟩ := reads_at I sb rp ru ok.dt
  have dd := depth_dat ok.dt
  rw [repr_back] at q
  have at_ref : ∀ a, u = .ref a → wpAny (model X.prog X.w) X.A (call (.builtin "repr") [u]) (EP X pins σ Q) X.xe s := fun a ea => by
    subst ea
    exact repr_of_reads' rd ok.sh (PySem.PyData.noDict_hsm (dat_nodict ok.dt)) gd (by omega) (fun b o z => z) (fun h' t tk k => ⟨.str _, H, I.kept k, ⟨t, rfl⟩, q⟩) hz
  cases rp with
  | non =>
    cases ru
    unfold pyD PyData.shown at q
    exact PySem.P.repr_of_none ⟨.str _, H, I.tok _, ⟨_, rfl⟩, q⟩
  | bl =>
    cases ru
    unfold pyD PyData.shown at q
    exact PySem.P.repr_of_bool ⟨.str _, H, I.tok _, ⟨_, rfl⟩, q⟩
  | int =>
    obtain ⟨t, rfl⟩ := ru
    have sh := ok.sh
    unfold pyD PyData.showable at sh
    unfold pyD PyData.shown at q
    exact PySem.P.repr_of_int (of_decide_eq_true sh) ⟨.str _, H, I.tok _, ⟨_, rfl⟩, q⟩
  | str =>
    obtain ⟨t, rfl⟩ := ru
    unfold pyD PyData.shown at q hz
    exact PySem.P.repr_of_str ⟨.str _, H, I.tok _, ⟨_, rfl⟩, q⟩ hz
  | tup h r => exact at_ref _ ru
  | lst h r => exact at_ref _ ru
  | _ =>
    have := ok.dt
    unfold dat at this
    cases this
theorem ze_repr {j : Nat} (hr : Room j X.A) (bn : Bn X.mg) (gd : X.A.guards = some []) (h : ZE X Ex e Γ S fun d S1 => Rok d 60 16777000 ∧ Q (.str (reprD d)) S1) (hg : Gl X "repr" := by rfl) (hs : s1 X e := by rfl) : ZE X Ex (.Call (.Name "repr" p) [e] [] pos) Γ S Q :=
  ze_callBG (cr_repr gd hr.units) bn.repr boot_repr (za_cons (h.mono fun d S1 ⟨ok, q⟩ => za_nil ⟨.str (reprD d), fun F S H vs Q' hc r k => by
    obtain ⟨v, rfl, r9⟩ := rep1 r
    refine ⟨_, v, d, rfl, hd_sub, r9, ok, k.self hc (.str ?_)⟩
    have := ok.ln
    have e : (reprD d).length = (pyD d).shown.length := by unfold reprD; rw [Array.length_toList]; rfl
    omega, q⟩) hs) hg (he := hs) (hpl := rfl)
theorem zv_repr {j : Nat} (hr : Room j X.A) (bn : Bn X.mg) (gd : X.A.guards = some []) (h : ZV X e Γ S d) (ok : Rok d 60 16777000) (hg : Gl X "repr" := by rfl) (hs : s1 X e := by rfl) : ZV X (.Call (.Name "repr" p) [e] [] pos) Γ S (.str (reprD d)) := fun Ex Q q =>
  ze_repr hr bn gd (h.ze ⟨ok, q⟩) hg hs
end
end Fz
end

section
namespace Fz
open PySem PySem.Spec PyProof.Rows L2 PySem.W
abbrev ASk := List D → List D → Store → DQ → AX → Prop
/-! ### what an own class does for len, ==, !=, str, truth -/
/-- x and what is asked of it stand at hand -/
structure At (X : Cx) (Ex : AX) (F : List Addr) (S : Store) (H : Hp) (c : Str) (d : D) (v : V) : Prop where
  gd : X.A.guards = some []
  hc : HC X.K F S H
  xr : XR X Ex F S H
  rp : Rep X.K (vw F S H) d v
  is : isInsD S c d
section
variable {X : Cx} {Ex : AX} {F : List Addr} {S : Store} {H : Hp} {c m : Str} {d : D} {v : V} {k n : Nat} {asp : ASk} {pins : List (Addr × Obj)} {σ : L2.St} {s : Shared} {u : Value}
theorem At.inst (a : At X Ex F S H c d v) (I : Inv X pins σ H s) (rv : L2.RelV v u) : ∃ x ob od, v = .ref x ∧ u = .ref x ∧ InstAt s.heap x ob (He.ga X.K c) od := by
  obtain ⟨x, dx, fs, e, eh, _⟩ := ins_at a.hc a.rp a.is
  subst e
  cases rv
  obtain ⟨mA, O, _⟩ := ins_get I.hok eh
  obtain ⟨od, J, _⟩ := O.look
  exact ⟨x, _, _, rfl, rfl, J⟩
/-- the class's own m, called -/
theorem At.run (a : At X Ex F S H c d v) (C : AM X.prog X.w X.K X.mg X.base k c m n [] asp) (I : Inv X pins σ H s) (rv : L2.RelV v u) {A' : Around} (fr : A'.frames = X.A.frames) (hr : Room k A') (gd : A'.guards = some [])
    {us : List Value} {vs : List V} {ds : List D} (r : Vals vs us) (rd : RepL X.K (vw F S H) ds vs) (hn : ds.length = n) {Q : DQ} {Q' : VK} (h : asp (d :: ds) [] S Q Ex) (kq : QR X.K F S H Q Q') :
    ∃ f, findIn X.K (.ref (He.ga X.K c)) m = some (some (.ref f)) ∧ isFn X.K (.ref f) = true ∧ wpAny (model X.prog X.w) A' (call (.ref f) (u :: us)) (EP X pins σ Q') X.xe s := by
  obtain ⟨f, cl, me, cc⟩ := C.ex
  refine ⟨f, me.at_, me.fn, ?_⟩
  exact cc X rfl rfl rfl rfl rfl A' fr hr gd F S Ex pins σ H s (u :: us) [] (v :: vs) [] (d :: ds) [] Q Q' I a.hc a.xr (.cons rv r) .nil (.cons a.rp rd) .nil (congrArg Nat.succ hn) rfl h kq
def rLenO (X : Cx) (Ex : AX) (c : Str) (asp : ASk) : List V → Hp → VK → Prop := fun vs H Q' => ∃ F S d v Q, vs = [v] ∧ At X Ex F S H c d v ∧ asp [d] [] S (fun r S2 => ∃ n : Nat, r = .int n ∧ n < 2 ^ 60 ∧ Q r S2) Ex ∧ QR X.K F S H Q Q'
theorem cr_lenO {j : Nat} (C : AM X.prog X.w X.K X.mg X.base k c "__len__" 0 [] asp) (hr : Room j X.A) (hk : k + 1 ≤ j) : CallR X (.builtin "len") (rLenO X Ex c asp) := by
  intro pins s σ H vs us Q' I r ⟨F, S, d, v, Q, e, a, h, kq⟩
  subst e
  obtain ⟨u, rfl, ru⟩ := r.one
  obtain ⟨x, ob, od, e1, e2, J⟩ := a.inst I ru
  subst e1 e2
  obtain ⟨m, hF⟩ := I.fr
  obtain ⟨f, hs, hf, run⟩ := a.run C I ru (A' := X.A.in1) rfl (Room.in1 (hr.mono hk)) a.gd (us := []) (vs := []) (ds := []) .nil .nil rfl h (Q' := fun w H' => ∃ n : Nat, w = .int n ∧ n < 2 ^ 60 ∧ Q' w H') (fun w H' d' S' t hc r ⟨n, e, hn, q⟩ => by
    subst e
    cases r
    exact ⟨n, rfl, hn, kq _ _ _ _ t hc .int q⟩)
  refine len_K hF I.ok.mod.kin J hs hf (wpAny_mono run (fun w s' z => ?_) fun _ _ z => z)
  obtain ⟨w', H', I', rw', n, e, hn, q⟩ := z
  subst e
  obtain ⟨t, rfl⟩ := rw'
  exact ⟨⟨Int.natCast_nonneg _, by have : (n : Int) < 2 ^ 60 := by exact_mod_cast hn
                                   omega⟩, .int n, H', I'.tok _, ⟨_, rfl⟩, q⟩
theorem looks_ty {t : Value} (I : Inv X pins σ H s) (rv : L2.RelV v u) (ty : TyX X.K H v t) : Looks (model X.prog X.w) s.heap (typeOf u) t := by
  obtain ⟨P, Z, p, _⟩ := kit_of I rv ty
  exact Z.ty _ _ I.kIn p
def rEqO (X : Cx) (Ex : AX) (c : Str) (asp : ASk) (neg : Bool) : R2 := fun x y H Q' => ∃ F S d e t Q, At X Ex F S H c d x ∧ Rep X.K (vw F S H) e y ∧ TyD X.K S e t ∧ notFirst X.K (He.ga X.K c) t = true ∧ asp [d, e] [] S (fun r S2 => ∃ b, r = .bl b ∧ Q (.bl (if neg then !b else b)) S2) Ex ∧ QR X.K F S H Q Q'
theorem op_eqO {j : Nat} (C : AM X.prog X.w X.K X.mg X.base k c "__eq__" 1 [] asp) (hr : Room j X.A) (hk : k ≤ j) : OpR X (compareOp .Eq) (rEqO X Ex c asp false) := by
  intro pins s σ H x y v u Q' I rx ry ⟨F, S, d, e, t, Q, a, re, td, nf, h, kq⟩
  obtain ⟨x', ob, od, e1, e2, J⟩ := a.inst I rx
  subst e1 e2
  obtain ⟨m, hF⟩ := I.fr
  obtain ⟨f, hs, hf, run⟩ := a.run C I rx (A' := X.A) rfl (hr.mono hk) a.gd (us := [u]) (vs := [y]) (ds := [e]) (.cons ry .nil) (.cons re .nil) rfl h (Q' := fun w H' => ∃ b, w = .bl b ∧ Q' w H') (fun w H' d' S' t hc r ⟨b, e, q⟩ => by
    subst e
    cases r
    exact ⟨b, rfl, kq _ _ _ _ t hc .bl q⟩)
  show wpAny (model X.prog X.w) X.A (richCompare .Eq (.ref x') u) _ _ _
  refine cmp_K (op := .Eq) hr.units0 hF I.ok.mod.kin J (looks_ty I ry (ty_at a.hc re td)) nf hs hf (wpAny_mono run (fun w s' z => ?_) fun _ _ z => z)
  obtain ⟨w', H', I', rw', b, e, q⟩ := z
  subst e
  cases rw'
  exact ⟨.bl b, H', I', rfl, q⟩
end
end Fz
end

section
namespace Fz
open PySem PySem.Spec PyProof.Rows L2 PySem.W
open PySem.Calls PySem.Builtin in
section
variable {prog : Program} {w : World} {A : Around} {E : Value → Shared → Prop} {s : Shared} {K : Frag} {x C L f : Addr} {h₀ : Heap} {m : Str → Option Value} {ox : Obj} {od : Option Obj} {b tb : Value}
def NeBack (Q : Value → Shared → Prop) (v : Value) (s' : Shared) : Prop := match v with
  | .bool b => Q (.bool !b) s'
  | _ => False
theorem ne_entry {Q : Fin → Shared → Prop} (hu : A.units < cLine) (X : K.In s.heap) (I : InstAt s.heap x ox C od) (hs : findIn K (.ref C) "__eq__" = some (some (.ref f))) (hf : isFn K (.ref f) = true)
    (h : wpAny (model prog w) A (call (.ref f) [.ref x, b]) (NeBack fun v s' => Q (.done (.ret v)) s') E s) : wpAny (model prog w) A (Builtin.«object.__ne__» ⟨[.ref x, b], []⟩) Q E s := by
  unfold Builtin.«object.__ne__»
  repeat (first
    | with_reducible refine wpAny_cRoomFor hu ?_
    | (refine wpAny_bind (m := callSpecialIfBound? (.ref x) (Str.ofString "__eq__") [b]) (ifBound_K X I hs hf (wpAny_mono h (fun r s' hr => by
        cases r <;> first | exact hr.elim | skip
        repeat (first | exact hr | exact wpAny_pure hr | exact wpAny_truthy_bool hr | (refine wpAny_bind (m := truthy (.bool _)) (wpAny_truthy_bool ?_)) | wp_step)) fun _ _ e => e)))
    | wp_step)
theorem ne_call {Q : Value → Shared → Prop} (hu : A.units + 1 < cLine) (X : K.In s.heap) (I : InstAt s.heap x ox C od) (ho : subIn K (.ref C) (.type "object") = some true) (hs : findIn K (.ref C) "__eq__" = some (some (.ref f))) (hf : isFn K (.ref f) = true)
    (h : wpAny (model prog w) A.in1 (call (.ref f) [.ref x, b]) (NeBack Q) E s) : wpAny (model prog w) A (call (.builtin "object.__ne__") [.ref x, b]) Q E s := by
  refine wpAny_call (codeAny_call_builtin PySem.F.cmp_object.ne.plain PySem.F.cmpEntry_ne (@check_slot (model prog w) _ _ s "object.__ne__" "object" "__ne__" (.ref x) [b] [] _ PySem.F.cmpKind_ne PySem.F.cmpSplit_ne (I.type.andThen (looks_subIn X ho)) (PySem.F.cmpArgs_ne _ _) ?_))
  refine ne_entry hu X I hs hf (wpAny_mono h (fun r s' hr => ?_) fun _ _ z => z)
  cases r <;> first | exact hr.elim | exact hr
theorem ne_rich {Q : Value → Shared → Prop} (hu : A.units + 1 < cLine) (X : K.In s.heap) (I : InstAt s.heap x ox C od) (hb : Looks (model prog w) s.heap (typeOf b) tb) (hn : notFirst K C tb = true) (hne : findIn K (.ref C) "__ne__" = some (some (.builtin "object.__ne__")))
    (ho : subIn K (.ref C) (.type "object") = some true) (hs : findIn K (.ref C) "__eq__" = some (some (.ref f))) (hf : isFn K (.ref f) = true)
    (h : wpAny (model prog w) A.in1 (call (.ref f) [.ref x, b]) (NeBack Q) E s) : wpAny (model prog w) A (richCompare .NotEq (.ref x) b) Q E s := by
  have one : wpAny (model prog w) A (tryCompare (.ref x) (cmpInfo .NotEq).2.1 b) (fun r s' => ∃ v, r = some v ∧ Q v s') E s := by
    have cc : wpAny (model prog w) A (callSpecialIfBound? (.ref x) (Str.ofString "__ne__") [b]) (fun r s' => ∃ z, r = some (.bool z) ∧ Q (.bool z) s') E s := by
      simp only [callSpecialIfBound?, bindSpecialIfBound?]
      refine wpAny_holding (wpAny_bind (wpAny_bind (wpAny_bind (I.type.here ((looks_findIn X hne).here ?_)))))
      simp only [PySem.F.cmp_object.ne.bind]
      refine wpAny_bind (wpAny_askSetting (wpAny_ite ?_))
      have fin : wpAny (model prog w) A (call (.builtin "object.__ne__") ([.ref x] ++ [b]) >>= fun v => pure (some v)) (fun r s' => ∃ z, r = some (.bool z) ∧ Q (.bool z) s') E s := by
        refine wpAny_bind (ne_call hu X I ho hs hf (wpAny_mono h (fun r s' hr => ?_) fun _ _ z => z))
        cases r <;> first | exact hr.elim | exact wpAny_pure ⟨_, rfl, hr⟩
      split
      · exact wpAny_bind (wpAny_pure (wpAny_pure fin))
      · exact wpAny_tryCatch (wpAny_bind (wpAny_pure (wpAny_pure fin)))
    unfold tryCompare
    refine wpAny_bind (wpAny_mono cc (fun r s' z => ?_) fun _ _ z => z)
    obtain ⟨z, rfl, q⟩ := z
    exact wpAny_pure ⟨_, rfl, q⟩
  unfold richCompare
  simp only [oneThing_ref]
  refine wpAny_holding (wpAny_bind (wpAny_cRoomFor (Nat.lt_of_succ_lt hu) ?_))
  refine wpAny_bind (I.type.here (wpAny_bind (hb.here ?_)))
  split
  · rename_i q
    have e : subIn K tb (.ref C) = some false := by
      rcases Bool.or_eq_true_iff.mp hn with e | e
      · rw [beq_iff_eq.mp e] at q; simp at q
      · exact beq_iff_eq.mp e
    refine wpAny_bind ((looks_subIn X e).here ?_)
    simp only [Bool.false_eq_true, if_false]
    refine wpAny_bind (wpAny_mono one (fun r s' z => ?_) fun _ _ e => e)
    obtain ⟨v, rfl, hq⟩ := z
    exact wpAny_pure hq
  · refine wpAny_bind (wpAny_pure ?_)
    simp only [Bool.false_eq_true, if_false]
    refine wpAny_bind (wpAny_mono one (fun r s' z => ?_) fun _ _ e => e)
    obtain ⟨v, rfl, hq⟩ := z
    exact wpAny_pure hq
end
end Fz
end

section
namespace Fz
open PySem PySem.Spec PyProof.Rows L2 PySem.W
open PySem.Calls PySem.Builtin in
section
variable {prog : Program} {w : World} {A : Around} {E : Value → Shared → Prop} {s : Shared} {K : Frag} {x C f : Addr} {ox : Obj} {od : Option Obj}
theorem truth_len {Q : Bool → Shared → Prop} (X : K.In s.heap) (I : InstAt s.heap x ox C od) (hb : findIn K (.ref C) "__bool__" = some none) (hs : findIn K (.ref C) "__len__" = some (some (.ref f))) (hf : isFn K (.ref f) = true)
    (h : wpAny (model prog w) A.in1 (call (.ref f) [.ref x]) (fun v s' => ∃ n t, v = .int n t ∧ 0 ≤ n ∧ n < 2 ^ 63 ∧ ∀ tk, Q (n != 0) { s' with toks := tk }) E s) : wpAny (model prog w) A (truthy (.ref x)) Q E s := by
  unfold truthy
  refine wpAny_bind (m := callSpecial? (.ref x) (Str.ofString "__bool__")) (wpAny_bind (wpAny_bind (I.type.here ((looks_findIn X hb).here (wpAny_pure ?_)))))
  refine wpAny_bind (wpAny_bind (I.type.here ((looks_findIn X hs).here ?_)))
  refine wpAny_bind (wpAny_runValue (codeAny_builtin entry_len ?_))
  rw [Around.under_plainId plain_len _]
  unfold Builtin.«len»
  refine wpAny_bind (m := oneArg "len" _) (wpAny_pure ?_)
  refine wpAny_bind (m := callSpecial? (.ref x) (Str.ofString "__len__")) (special_fn X I hs (beq_iff_eq.mp hf) (wpAny_mono h (fun r s' hr => ?_) fun _ _ y => y))
  obtain ⟨n, t, rfl, h0, h1, hq⟩ := hr
  refine wpAny_bind (wpAny_holding (wpAny_pure ?_))
  refine wpAny_bind (wpAny_letGo ?_)
  show wpAny _ _ (if n < 0 then _ else _) _ _ _
  rw [if_neg (by omega)]
  show wpAny _ _ (if n ≥ 2 ^ 63 then _ else _) _ _ _
  rw [if_neg (by omega)]
  refine wpAny_bind (wpAny_mkInt (wpAny_pure ?_))
  exact wpAny_pure (hq _)
end
/-- facts about an own class's comparisons and truth -/
structure NeC (K : Frag) (c : Str) : Prop where
  ne : findIn K (.ref (He.ga K c)) "__ne__" = some (some (.builtin "object.__ne__"))
  ob : subIn K (.ref (He.ga K c)) (.type "object") = some true
section
variable {X : Cx} {Ex : AX} {F : List Addr} {S : Store} {H : Hp} {c m : Str} {d : D} {v : V} {k j n : Nat} {asp : ASk} {Γ : Gam} {Q : DQ} {a b e o : Expr} {es : List Expr} {pos p : Pos}
theorem op_neO (C : AM X.prog X.w X.K X.mg X.base k c "__eq__" 1 [] asp) (ne : NeC X.K c) (hr : Room j X.A) (hk : k + 1 ≤ j) : OpR X (compareOp .NotEq) (rEqO X Ex c asp true) := by
  intro pins s σ H x y v u Q' I rx ry ⟨F, S, d, e, t, Q, a, re, td, nf, h, kq⟩
  obtain ⟨x', ob, od, e1, e2, J⟩ := a.inst I rx
  subst e1 e2
  obtain ⟨f, hs, hf, run⟩ := a.run C I rx (A' := X.A.in1) rfl (Room.in1 (hr.mono hk)) a.gd (us := [u]) (vs := [y]) (ds := [e]) (.cons ry .nil) (.cons re .nil) rfl h (Q' := fun w H' => ∃ b : Bool, w = .bl b ∧ Q' (.bl !b) H') (fun w H' d' S' t hc r ⟨b, e, q⟩ => by
    subst e
    cases r
    exact ⟨b, rfl, kq _ _ _ _ t hc .bl q⟩)
  show wpAny (model X.prog X.w) X.A (richCompare .NotEq (.ref x') u) _ _ _
  refine ne_rich (by have := hr.units; omega) I.kIn J (looks_ty I ry (ty_at a.hc re td)) nf ne.ne ne.ob hs hf (wpAny_mono run (fun w s' z => ?_) fun _ _ z => z)
  obtain ⟨w', H', I', rw', b, e, q⟩ := z
  subst e
  cases rw'
  exact ⟨.bl !b, H', I', rfl, q⟩
def rStrO (X : Cx) (Ex : AX) (c : Str) (asp : ASk) : List V → Hp → VK → Prop := fun vs H Q' => ∃ F S d v Q, vs = [v] ∧ At X Ex F S H c d v ∧ asp [d] [] S (fun r S2 => ∃ z, r = .str z ∧ Q r S2) Ex ∧ QR X.K F S H Q Q'
theorem cr_strO (C : AM X.prog X.w X.K X.mg X.base k c "__str__" 0 [] asp) (hr : Room j X.A) (hk : k + 2 ≤ j) : CallR X (.type "str") (rStrO X Ex c asp) := by
  intro pins s σ H vs us Q' I r ⟨F, S, d, v, Q, e, a, h, kq⟩
  subst e
  obtain ⟨u, rfl, ru⟩ := r.one
  obtain ⟨x, ob, od, e1, e2, J⟩ := a.inst I ru
  subst e1 e2
  obtain ⟨f, hs, hf, run⟩ := a.run C I ru (A' := X.A.in1.in1) rfl (Room.in1 (Room.in1 (hr.mono hk))) a.gd (us := []) (vs := []) (ds := []) .nil .nil rfl h (Q' := fun w H' => ∃ z, w = .str z ∧ Q' w H') (fun w H' d' S' t hc r ⟨z, e, q⟩ => by
    subst e
    cases r with
    | str hz => exact ⟨_, rfl, kq _ _ _ _ t hc (.str hz) q⟩)
  refine kso_call (by have := hr.units; show X.A.units + 1 + 1 < cLine; omega) I.kIn J hs hf (wpAny_mono run (fun w s' z => ?_) fun _ _ z => z)
  obtain ⟨w', H', I', rw', z, e, q⟩ := z
  subst e
  obtain ⟨t, rfl⟩ := rw'
  exact ⟨.str z, H', I', ⟨t, rfl⟩, q⟩

/-! ### as readings -/
theorem ze_lenO (C : AM X.prog X.w X.K X.mg X.base k c "__len__" 0 [] asp) (hr : Room j X.A) (hk : k + 1 ≤ j) (bn : Bn X.mg) (h : ZE X Ex e Γ S fun d S1 => isInsD S1 c d ∧ asp [d] [] S1 (fun r S2 => ∃ n : Nat, r = .int n ∧ n < 2 ^ 60 ∧ Q r S2) Ex) (hg : Gl X "len" := by rfl) (hs : s1 X e := by rfl) : ZE X Ex (.Call (.Name "len" p) [e] [] pos) Γ S Q :=
  ze_of (pe_callB (cr_lenO C hr hk) hg bn.len PySem.boot_len (pa_cons pe_self pa_nil hs) (he := hs) (hpl := rfl)) fun F σ H co Q' kq => h F σ H co _ fun v H1 d S1 t hc r ⟨i, q⟩ =>
    ⟨F, S1, d, v, Q, rfl, ⟨co.ok.gd, hc, co.xr.step t, r, i⟩, q, kq.step t⟩
theorem ze_strO (C : AM X.prog X.w X.K X.mg X.base k c "__str__" 0 [] asp) (hr : Room j X.A) (hk : k + 2 ≤ j) (bn : Bn X.mg) (h : ZE X Ex e Γ S fun d S1 => isInsD S1 c d ∧ asp [d] [] S1 (fun r S2 => ∃ z, r = .str z ∧ Q r S2) Ex) (hg : Gl X "str" := by rfl) (hs : s1 X e := by rfl) : ZE X Ex (.Call (.Name "str" p) [e] [] pos) Γ S Q :=
  ze_of (pe_callTy (cr_strO C hr hk) hg bn.str boot_str' (pa_cons pe_self pa_nil hs) (he := hs) (hpl := rfl)) fun F σ H co Q' kq => h F σ H co _ fun v H1 d S1 t hc r ⟨i, q⟩ =>
    ⟨F, S1, d, v, Q, rfl, ⟨co.ok.gd, hc, co.xr.step t, r, i⟩, q, kq.step t⟩
/-- o == y, o != y -/
def eqAsk (X : Cx) (Ex : AX) (c : Str) (asp : ASk) (b : Expr) (Γ : Gam) (neg : Bool) (Q : DQ) : DQ := fun x S1 => isInsD S1 c x ∧ ZE X Ex b Γ S1 fun y S2 => isInsD S2 c x ∧ ∃ t, TyD X.K S2 y t ∧ notFirst X.K (He.ga X.K c) t = true ∧ asp [x, y] [] S2 (fun r S3 => ∃ z, r = .bl z ∧ Q (.bl (if neg then !z else z)) S3) Ex
theorem ask_run {neg : Bool} {σ : L2.St} (co : Con X Ex F Γ S σ H) (h : ZE X Ex a Γ S (eqAsk X Ex c asp b Γ neg Q)) {Q' : VK} (kq : QR X.K F S H Q Q') : tOp (rEqO X Ex c asp neg) (tSelf X a) (tSelf X b) σ H Q' :=
  h F σ H co _ fun v H1 x S1 t1 c1 r1 ⟨i1, h1⟩ => h1 F σ H1 (co.step t1 c1) _ fun u H2 y S2 t2 c2 r2 ⟨i2, t, td, nf, q⟩ =>
    ⟨F, S2, x, y, t, Q, ⟨co.ok.gd, c2, co.xr.step (t1.trans t2), r1.mono t2.ext, i2⟩, r2, td, nf, q, kq.step (t1.trans t2)⟩
theorem ze_eqO (C : AM X.prog X.w X.K X.mg X.base k c "__eq__" 1 [] asp) (hr : Room j X.A) (hk : k ≤ j) (h : ZE X Ex a Γ S (eqAsk X Ex c asp b Γ false Q)) (hm : behindInMarks .Eq b = false := by rfl) : ZE X Ex (.Compare a [.Eq] [b] pos) Γ S Q :=
  ze_of (pe_cmpR (op_eqO C hr hk) pe_self pe_self hm) fun F σ H co Q' kq => ask_run co h kq
theorem ze_neO (C : AM X.prog X.w X.K X.mg X.base k c "__eq__" 1 [] asp) (ne : NeC X.K c) (hr : Room j X.A) (hk : k + 1 ≤ j) (h : ZE X Ex a Γ S (eqAsk X Ex c asp b Γ true Q)) (hm : behindInMarks .NotEq b = false := by rfl) : ZE X Ex (.Compare a [.NotEq] [b] pos) Γ S Q :=
  ze_of (pe_cmpR (op_neO C ne hr hk) pe_self pe_self hm) fun F σ H co Q' kq => ask_run co h kq
theorem zt_eqO {Q : Bool → Store → Prop} (C : AM X.prog X.w X.K X.mg X.base k c "__eq__" 1 [] asp) (hr : Room j X.A) (hk : k ≤ j) (h : ZE X Ex a Γ S (eqAsk X Ex c asp b Γ false fun z S' => ∃ t, z = .bl t ∧ Q t S')) (hm : behindInMarks .Eq b = false := by rfl) : ZT X Ex (.Compare a [.Eq] [b] pos) Γ S Q :=
  zt_of (pt_cmpR (op_eqO C hr hk) pe_self pe_self hm) fun F σ H co Q' k => ask_run co h fun v H' z S' t hc r ⟨u, e, q⟩ => by
    subst e; cases r; exact ⟨u, rfl, k u H' S' t hc q⟩
theorem zt_neO {Q : Bool → Store → Prop} (C : AM X.prog X.w X.K X.mg X.base k c "__eq__" 1 [] asp) (ne : NeC X.K c) (hr : Room j X.A) (hk : k + 1 ≤ j) (h : ZE X Ex a Γ S (eqAsk X Ex c asp b Γ true fun z S' => ∃ t, z = .bl t ∧ Q t S')) (hm : behindInMarks .NotEq b = false := by rfl) : ZT X Ex (.Compare a [.NotEq] [b] pos) Γ S Q :=
  zt_of (pt_cmpR (op_neO C ne hr hk) pe_self pe_self hm) fun F σ H co Q' k => ask_run co h fun v H' z S' t hc r ⟨u, e, q⟩ => by
    subst e; cases r; exact ⟨u, rfl, k u H' S' t hc q⟩
/-- an own object with a length, as a test -/
theorem zt_lenO {Q : Bool → Store → Prop} (C : AM X.prog X.w X.K X.mg X.base k c "__len__" 0 [] asp) (nb : findIn X.K (.ref (He.ga X.K c)) "__bool__" = some none) (hr : Room j X.A) (hk : k + 1 ≤ j)
    (h : ZE X Ex e Γ S fun d S1 => isInsD S1 c d ∧ asp [d] [] S1 (fun r S2 => ∃ n : Nat, r = .int n ∧ n < 2 ^ 60 ∧ Q (decide (n ≠ 0)) S2) Ex) (he : ∀ whole, isTrue e X.env whole = (do let v ← whole; standAt e.pos; holding [v] (truthy v)) := by intro _; rfl) : ZT X Ex e Γ S Q := fun F σ H co Q' kq pins s I => by
  refine isTrue_plain (thn (h F σ H co _ (fun v H1 d S1 t hc r q => (⟨S1, d, t, hc, r, q⟩ : ∃ S1 d, Stp F S H S1 H1 ∧ HC X.K F S1 H1 ∧ Rep X.K (vw F S1 H1) d v ∧ isInsD S1 c d ∧ asp [d] [] S1 (fun r S2 => ∃ n : Nat, r = .int n ∧ n < 2 ^ 60 ∧ Q (decide (n ≠ 0)) S2) Ex)) pins s I)
    fun u s1 ⟨v, H1, I1, rv, S1, d, t, hc, r, i, q⟩ => ?_) (he _)
  have at_ : At X Ex F S1 H1 c d v := ⟨co.ok.gd, hc, co.xr.step t, r, i⟩
  obtain ⟨x, ob, od, e1, e2, J⟩ := at_.inst I1 rv
  subst e1 e2
  obtain ⟨f, hs, hf, run⟩ := at_.run C I1 rv (A' := X.A.in1) rfl (Room.in1 (hr.mono hk)) co.ok.gd (us := []) (vs := []) (ds := []) .nil .nil rfl q (Q' := fun w H' => ∃ n : Nat, w = .int n ∧ n < 2 ^ 60 ∧ Q' (decide (n ≠ 0)) H') (fun w H' d' S' t' hc' r' ⟨n, e, hn, q⟩ => by
    subst e
    cases r'
    exact ⟨n, rfl, hn, kq _ _ _ (t.trans t') hc' q⟩)
  refine truth_len I1.kIn J nb hs hf (wpAny_mono run (fun w s' z => ?_) fun _ _ z => z)
  obtain ⟨w', H', I', rw', n, e, hn, q⟩ := z
  subst e
  obtain ⟨tk, rfl⟩ := rw'
  refine ⟨n, tk, rfl, Int.natCast_nonneg _, by have : (n : Int) < 2 ^ 60 := by exact_mod_cast hn
                                               omega, fun tk' => ⟨H', I'.tok _, ?_⟩⟩
  have e : ((n : Int) != 0) = decide (n ≠ 0) := by
    by_cases h : n = 0 <;> simp [h]
  rw [e]
  exact q
end
end Fz
end

section
namespace Fz
open PySem PySem.Spec PyProof.Rows L2

/-! ### the law's own promise, and the row's end -/
/-- the law answers True on the script -/
def lawSp (n : Nat) : ASp := fun ds S Q Ex => ∃ ns : List Int, ds = [.scr ns] ∧ S = [] ∧ ns.length ≤ n ∧ (∀ z ∈ ns, Builtin.Int.intBits z ≤ 1048576) ∧ ∀ S', Q (.bl true) S'
theorem no_air {P : Program} {w : World} {H : Hp} {s s' : Shared} {e : Value} (h : L2.CX P w [] H s (fun _ _ _ => False) e s') : False := by
  obtain ⟨_, _, _, _, _, _, _, _, _, _, _, _, z⟩ := h
  exact z
theorem callerG : callerA.guards = some [] := rfl
/-- the law's call, from a heap of which nothing is followed but (if need be) the script -/
theorem law_from {P : Program} {w : World} {K : PySem.W.Frag} {mg mb : Str → Option Value} {k n : Nat} {fa a : Addr} {fd : FuncData} {x : Str} {s : Shared} {vs : List Value} {ns : List Int}
    (KX : K.In s.heap) (hns : s.heap.Ns mainGlobals mg) (hb : s.heap.Ns builtinsNs mb) (hbb : ∀ x : Str, x ≠ "__name__" → mb x = bootBuiltins x) (hlim : s.heap.NoLimit) (hg : s.gens = #[])
    (ha : s.heap.get? a = some { cls := .type "list", data := .seq vs.toArray }) (hl : ns.length ≤ n) (hbits : ∀ z ∈ ns, Builtin.Int.intBits z ≤ 1048576) (hr : Room k callerA)
    (F : ∀ base : Heap, K.In base → base.Ns mainGlobals mg → FnG P w K mg base k fa fd [x] (conc K (lawSp n))) (hbind : ∀ (s : Shared) (u : Value), BindsTo s fd ⟨[u], []⟩ [(x, u)])
    (H : Hp) (hO : ∀ b, H b = none ∨ (b = a ∧ K.lookup a = none ∧ ∃ o xs, H b = some (.frz o (.lst xs)))) (hS : SqL K H a (ns.map V.int)) (hok : HOk P w H s.heap) :
    codeAny (model P w) callerA (.call (.ref fa) ⟨[.ref a], []⟩) (fun r s' => r = .ok (.ret (.bool true)) ∧ OldK s.heap s'.heap ∧ s'.os = s.os ∧ AllBare s'.gens) s := by
  have out : ∀ {b : Addr} {o : Obj}, s.heap.get? b = some o → (∀ z, o.data ≠ .seq vs.toArray z) → H b = none := fun {b o} e d => by
    rcases hO b with q | ⟨q, _⟩
    · exact q
    · subst q
      rw [ha] at e
      cases e
      exact absurd rfl (d _)
  have nsB : ∀ {b : Addr} {m : Str → Option Value}, s.heap.Ns b m → (hidT s.heap H).Ns b m := fun {b m} ⟨o, es, ep, e, d, r⟩ => ⟨o, es, ep, hidT_get e (out e fun z q => by rw [d] at q; cases q), d, r⟩
  have kB : K.In (hidT s.heap H) := fun b o e => hidT_get (KX b o e) (by
    rcases hO b with q | ⟨q, n, _⟩
    · exact q
    · subst q
      rw [n] at e
      cases e)
  obtain ⟨mc, l1, l2⟩ := hlim
  have e0 : Env0 P w K mg (hidT s.heap H) callerA [] s H := ⟨rfl, ⟨kB, nsB hns, ⟨mb, nsB hb, hbb⟩, mc, nsB l1, l2⟩, fun b o e => of_hidT e, Nat.le_of_eq (hidT_size _ _), trivial, fun b hb => absurd (show b ∈ ([] : List Addr) from hb) (by simp), hok, .of_eq hg⟩
  have vwH : vw [] [] H = H := by
    funext b
    exact hd_out (by simp [keys])
  have hc : HC K [] [] H := ⟨by simp [keys], fun b z => (nomatch z), fun p c z => (nomatch z)⟩
  have sp : conc K (lawSp n) [.ref a] H (fun v _ => v = .bl true) fun _ _ _ => False :=
    ⟨[], [], [.scr ns], fun d _ => d = .bl true, AX0, hc, .cons (.scr (by rw [vwH]; exact hS)) .nil, ⟨ns, rfl, rfl, hl, hbits, fun _ => rfl⟩, fun v H' d S' _ _ r e => by
      subst e
      cases r
      rfl, fun _ _ _ _ _ _ _ _ z => z⟩
  refine codeAny_mono ((F _ kB (nsB hns)).run callerA [] s H ⟨[.ref a], []⟩ [.ref a] [.ref a] _ _ callerG hr e0 (hbind s (.ref a)) (.cons rfl .nil) sp) fun r s' h => ?_
  match r, h with
  | .error e, h => exact (no_air h).elim
  | .ok .next, h => exact h.elim
  | .ok .brk, h => exact h.elim
  | .ok .cont, h => exact h.elim
  | .ok (.ret u), h =>
    obtain ⟨v, H', os, bare, un, hok', r', q⟩ := h
    have q' : v = .bl true := q
    subst q'
    obtain rfl : u = Value.bool true := r'
    refine ⟨rfl, OldK.of_keep fun b o e => ?_, os, bare⟩
    rcases hO b with q | ⟨_, _, ob, xs, q⟩
    · exact un.keep b o e q (by intro z; exact absurd (show b ∈ ([] : List Addr) from z) (by simp)) (by simp)
    · obtain ⟨e1, _⟩ := hok b _ q
      obtain ⟨e2, _⟩ := hok' b _ (un.frzs b ob _ q)
      rw [e] at e1
      cases e1
      exact e2
theorem law_callG {P : Program} {w : World} {K : PySem.W.Frag} {mg mb : Str → Option Value} {k n : Nat} {fa a : Addr} {fd : FuncData} {x : Str} {s : Shared} {vs : List Value} {ns : List Int}
    (KX : K.In s.heap) (hns : s.heap.Ns mainGlobals mg) (hb : s.heap.Ns builtinsNs mb) (hbb : ∀ x : Str, x ≠ "__name__" → mb x = bootBuiltins x) (hlim : s.heap.NoLimit) (hg : s.gens = #[])
    (ha : s.heap.get? a = some { cls := .type "list", data := .seq vs.toArray }) (hi : IntsAre vs ns) (hl : ns.length ≤ n) (hn : n ≤ sizeLine) (hbits : ∀ z ∈ ns, Builtin.Int.intBits z ≤ 1048576) (hr : Room k callerA)
    (F : ∀ base : Heap, K.In base → base.Ns mainGlobals mg → FnG P w K mg base k fa fd [x] (conc K (lawSp n))) (hbind : ∀ (s : Shared) (u : Value), BindsTo s fd ⟨[u], []⟩ [(x, u)]) :
    codeAny (model P w) callerA (.call (.ref fa) ⟨[.ref a], []⟩) (fun r s' => r = .ok (.ret (.bool true)) ∧ OldK s.heap s'.heap ∧ s'.os = s.os ∧ AllBare s'.gens) s := by
  have rv := vals_ints hi
  have lv := hi.length
  have hz : ns.length ≤ sizeLine := Nat.le_trans hl hn
  cases hk : K.lookup a with
  | some o =>
    have e := KX a o hk
    rw [ha] at e
    cases e
    exact law_from KX hns hb hbb hlim hg ha hl hbits hr F hbind (fun _ => none) (fun _ => .inl rfl) (.inr ⟨_, vs.toArray, _, hk, rfl, rfl, rfl, by rw [List.size_toArray, lv]; exact hz, by simpa using rv⟩) fun b u z => nomatch (show (none : Option HO) = some u from z)
  | none =>
    refine law_from KX hns hb hbb hlim hg ha hl hbits hr F hbind (upd (fun _ => none) a (.frz { cls := .type "list", data := .seq vs.toArray } (.lst (ns.map V.int)))) (fun b => ?_) (.inl (.inr ⟨_, upd_same⟩)) fun b u z => ?_
    · by_cases e : b = a
      · subst e
        exact .inr ⟨rfl, hk, _, _, upd_same⟩
      · exact .inl (upd_ne e)
    · by_cases e : b = a
      · subst e
        rw [upd_same] at z
        cases z
        exact ⟨ha, by rw [List.length_map]; exact hz, vs, _, rv, ha⟩
      · rw [upd_ne e] at z
        cases z
/-- the goal that the head leaves -/
theorem walk_ofG {l : PySem.W.OpenLaw} {n k : Nat} {q : Program} {loose : List Str} {XP : (Str → Option Value) → Heap → Prop} {YP : World → Heap → Prop} {d : DefRec} {x : Str}
    (hn : l.most = some n) (hn2 : n ≤ sizeLine) (hdf : d.params.defaults = []) (hr : Room k callerA)
    (F : ∀ (w : World) (mg : Str → Option Value) (fa : Addr) (h : Heap), YP w h → h.Ns mainGlobals mg → mg d.name = some (.ref fa) →
      ∃ (K : PySem.W.Frag) (fd : FuncData), K.In h ∧ (∀ (s : Shared) (u : Value), BindsTo s fd ⟨[u], []⟩ [(x, u)]) ∧ ∀ base : Heap, K.In base → base.Ns mainGlobals mg → FnG l.prog w K mg base k fa fd [x] (conc K (lawSp n))) :
    PySem.W.WalkO q loose XP YP l.row.toRowW d [] (fun f vs => PySem.call f vs) := by
  refine Att.attach_callB hn hdf fun w s₀ s₁ mg mb fa o pm cd doc a vs ns G Y ho hd hcd hmg hobj hints hlen hbits hg => ?_
  obtain ⟨K, fd, KX, hb, hF⟩ := F w mg fa _ Y G.T.g hmg
  exact law_callG KX G.T.g G.T.b G.T.builtins G.T.nolimit hg hobj hints hlen hn2 hbits hr hF hb
end Fz
end

section
namespace Fz
open PySem PySem.Spec PyProof.Rows L2 PySem.W

/-! ### the bag, open and shut -/
/-- S' tells what a bag of S holds -/
def Opens (S S' : Store) (i : Nat) : Prop := ∃ p, S[i]? = some (p, Cell.bag) ∧ ∃ a b c : Int, S' = S.set i (p, .lst [.int a, .int b, .int c]) ∧ 0 ≤ a ∧ 0 ≤ b
theorem Opens.keys {S S' : Store} {i : Nat} (h : Opens S S' i) : keys S' = keys S := by
  obtain ⟨p, hp, a, b, c, e, _⟩ := h
  subst e
  unfold Fz.keys
  rw [List.map_set]
  apply List.ext_getElem?
  intro j
  by_cases q : i = j
  · subst q
    have hl := (List.getElem?_eq_some_iff.mp hp).1
    rw [List.getElem?_set_self (by simpa using hl), List.getElem?_map, hp]; rfl
  · rw [List.getElem?_set_ne q]
theorem Opens.vw {F : List Addr} {S S' : Store} {H : Hp} {i : Nat} (h : Opens S S' i) : vw F S' H = vw F S H := by
  show hd (F ++ Fz.keys S') H = hd (F ++ Fz.keys S) H
  rw [h.keys]
theorem Opens.shut {K F} {S S' : Store} {H : Hp} {i : Nat} (h : Opens S S' i) (c : HC K F S' H) : HC K F S H := by
  have ek := h.keys
  have ev := h.vw (F := F) (H := H)
  obtain ⟨p, hp, x, y, z, e, h1, h2⟩ := h
  have hl := (List.getElem?_eq_some_iff.mp hp).1
  refine ⟨by rw [← ek]; exact c.nd, c.fr, fun q ce hq => ?_⟩
  rw [← ev]
  obtain ⟨j, hj⟩ := List.mem_iff_getElem?.mp hq
  by_cases q1 : i = j
  · subst q1
    rw [hp] at hj
    cases hj
    obtain ⟨xs, e1, r⟩ := c.at_ p (.lst [.int x, .int y, .int z]) (by subst e; exact List.mem_of_getElem? (List.getElem?_set_self hl))
    refine ⟨x, y, z, ?_, h1, h2⟩
    rw [e1]
    have : xs = [V.int x, V.int y, V.int z] := RepL.ints_inv (ns := [x, y, z]) r
    rw [this]
  · exact c.at_ q ce (by subst e; exact List.mem_of_getElem? (by rw [List.getElem?_set_ne q1]; exact hj))
theorem Opens.stp {F} {S S' : Store} {H : Hp} {i : Nat} (h : Opens S S' i) : Stp F S' H S H ∧ Stp F S H S' H := by
  have ev := h.vw (F := F) (H := H)
  exact ⟨⟨by rw [ev]; exact fun _ _ z => z, fun _ _ => rfl⟩, ⟨by rw [ev]; exact fun _ _ z => z, fun _ _ => rfl⟩⟩
/-- what may be asked of a bag: three numbers -/
theorem HC.opens {K F S H} {i : Nat} {p : Addr} (c : HC K F S H) (hp : S[i]? = some (p, Cell.bag)) : ∃ S', Opens S S' i ∧ HC K F S' H := by
  obtain ⟨x, y, z, e, h1, h2⟩ := c.get hp
  have o : Opens S (S.set i (p, .lst [.int x, .int y, .int z])) i := ⟨p, hp, x, y, z, rfl, h1, h2⟩
  have hl := (List.getElem?_eq_some_iff.mp hp).1
  refine ⟨_, o, by rw [o.keys]; exact c.nd, c.fr, fun q ce hq => ?_⟩
  rw [o.vw]
  obtain ⟨j, hj⟩ := List.mem_iff_getElem?.mp hq
  by_cases q1 : i = j
  · subst q1
    rw [List.getElem?_set_self hl] at hj
    cases hj
    exact ⟨_, e, RepL.ints [x, y, z]⟩
  · rw [List.getElem?_set_ne q1] at hj
    exact c.at_ q ce (List.mem_of_getElem? hj)
section
variable {X : Cx} {Ex : AX} {Γ : Gam} {S : Store} {Q : DQ} {e o i elt iter tg c : Expr} {ss : List Stmt} {D0 : AEnds} {pos : Pos} {scope : Scope} {own : List (Str × Nat)} {vs : List Nat} {rel : D → Gam → Gam → Prop} {DE : AEnds} {α : Type} {as : List α} {enc f : α → D}
/-- ahead of the code: the bag's numbers are at hand -/
theorem zs_open {k : Nat} {p : Addr} (hp : S[k]? = some (p, Cell.bag)) (h : ∀ a b c : Int, 0 ≤ a → 0 ≤ b → ZS X Ex ss Γ (S.set k (p, .lst [.int a, .int b, .int c])) D0) : ZS X Ex ss Γ S D0 := fun F σ H co D' kq => by
  obtain ⟨S', op, hc'⟩ := co.hc.opens hp
  obtain ⟨_, st⟩ := op.stp (F := F) (H := H)
  have ev := op.vw (F := F) (H := H)
  have op' := op
  obtain ⟨p', hp', a, b, c, e, h1, h2⟩ := op
  rw [hp] at hp'
  cases hp'
  subst e
  exact h a b c h1 h2 F σ H ⟨co.ok, hc', by rw [ev]; exact co.rg, co.xr.step st⟩ D' (kq.step st)
/-- behind a value: the bag is shut -/
theorem ze_shut {k : Nat} {S0 : Store} (h : ZE X Ex e Γ S0 fun d S' => ∃ S1, Opens S1 S' k ∧ Q d S1) : ZE X Ex e Γ S0 Q := fun F σ H co Q' kq =>
  h F σ H co Q' fun v H' d S' t hc r ⟨S1, op, q⟩ => kq v H' d S1 (t.trans op.stp.1) (op.shut hc) (by rw [← op.vw]; exact r) q
theorem opens_of {k : Nat} {p : Addr} {a b c : Int} {S' : Store} (hp : S[k]? = some (p, Cell.bag)) (e : S' = S.set k (p, .lst [.int a, .int b, .int c])) (ha : 0 ≤ a) (hb : 0 ≤ b) : Opens S S' k := ⟨p, hp, a, b, c, e, ha, hb⟩
/-- a bag made -/
theorem ze_bag {es : List Expr} (h : ZA X Ex es Γ S fun ds S1 => ∃ a b c : Int, ds = [.int a, .int b, .int c] ∧ 0 ≤ a ∧ 0 ≤ b ∧ ∀ p, Q (.ref p) (S1 ++ [(p, Cell.bag)])) : ZE X Ex (.List es pos) Γ S Q :=
  ze_of (pe_lst pa_self) fun F σ H co Q' k => h F σ H co _ fun vs H1 ds S1 t c1 r ⟨a, b, c, e, h1, h2, q⟩ => by
    subst e
    have ev : vs = [V.int a, V.int b, V.int c] := RepL.ints_inv (ns := [a, b, c]) r
    subst ev
    refine ⟨small (by show 3 ≤ _; decide), fun p hp => ?_⟩
    obtain ⟨n1, n2⟩ := c1.cell (c := .bag) (o := .lst [V.int a, V.int b, V.int c]) hp ⟨a, b, c, rfl, h1, h2⟩
    exact k _ _ _ _ (t.trans n2) n1 .ref (q p)
/-- o[i] = d, a list's place -/
theorem zg_item {k j : Nat} {p : Addr} {ds : List D} {n : Int} {d : D} {q : GQ} (ho : ZV X o Γ S (.ref p)) (hi : ZV X i Γ S (.int n)) (hk : S[k]? = some (p, .lst ds)) (hj : ixN ds.length n = some j) (h : q Γ (S.set k (p, .lst (ds.set j d))))
    (ha : ∀ v, assign (.Subscript o i pos) X.env v = (do
      let ov ← holding [v] (eval o X.env)
      let iv ← holding [v, ov] (eval i X.env)
      standAt pos
      holding [v, ov, iv] (setItem ov iv v)
      release [v, ov, iv] []) := by intro _; rfl) : ZG X Ex (.Subscript o i pos) d Γ S q := fun F σ H v co rd q' kq =>
  selfG_of (pg_sub pe_self pe_self L2.set_list ha) (ho Ex (fun d S' => d = .ref p ∧ S' = S) ⟨rfl, rfl⟩ F σ H co _ fun w H1 d1 S1 t1 c1 r1 ⟨e1, e2⟩ => by
    subst e1 e2
    cases r1
    exact hi Ex (fun d S' => d = .int n ∧ S' = S1) ⟨rfl, rfl⟩ F σ H1 (co.step t1 c1) _ fun w2 H2 d2 S2 t2 c2 r2 ⟨e1, e2⟩ => by
      subst e1 e2
      cases r2
      obtain ⟨xs, hx, rx⟩ := c2.get hk
      have t := t1.trans t2
      obtain ⟨p1, p2⟩ := c2.put (c' := .lst (ds.set j d)) (o := .lst (xs.set j v)) hk ⟨_, rfl, RepL.set (rd.mono t.ext) j rx⟩
      exact ⟨p, xs, n, j, rfl, rfl, hx, by rw [← rx.length]; exact hj, kq σ _ Γ _ (t.trans p2) p1 (co.rg.mono (t.trans p2).ext) h⟩)

/-! ### comprehensions whose items are drawn -/
/-- item by item -/
inductive All2 {α β : Type} (P : α → β → Prop) : List α → List β → Prop
  | nil : All2 P [] []
  | cons {a b as bs} : P a b → All2 P as bs → All2 P (a :: as) (b :: bs)
theorem All2.snoc {α β : Type} {P : α → β → Prop} {a : α} {b : β} (h : P a b) : ∀ {as bs}, All2 P as bs → All2 P (as ++ [a]) (bs ++ [b])
  | _, _, .nil => .cons h .nil
  | _, _, .cons g r => .cons g (r.snoc h)
theorem All2.length {α β : Type} {P : α → β → Prop} : ∀ {as bs}, All2 (α := α) (β := β) P as bs → as.length = bs.length
  | _, _, .nil => rfl
  | _, _, .cons _ r => congrArg (· + 1) r.length
theorem All2.all {α β : Type} {P : α → β → Prop} {R : β → Prop} (h : ∀ a b, P a b → R b) : ∀ {as bs}, All2 P as bs → ∀ b ∈ bs, R b
  | _, _, .nil, b, hb => nomatch hb
  | _, _, .cons g r, b, hb => (List.mem_cons.mp hb).elim (fun e => e ▸ h _ _ g) (r.all h b)
theorem All2.maps {α β : Type} {P : α → β → Prop} {γ : Type} {f : γ → β} {R : γ → Prop} (h : ∀ a b, P a b → ∃ c, b = f c ∧ R c) : ∀ {as bs}, All2 P as bs → ∃ cs : List γ, bs = cs.map f ∧ cs.length = as.length ∧ ∀ c ∈ cs, R c
  | _, _, .nil => ⟨[], rfl, rfl, fun c hc => nomatch hc⟩
  | _, _, .cons g r => by
    obtain ⟨c, e, hc⟩ := h _ _ g
    obtain ⟨cs, e2, l, hcs⟩ := r.maps h
    exact ⟨c :: cs, by rw [e, e2]; rfl, congrArg (· + 1) l, fun x hx => (List.mem_cons.mp hx).elim (fun z => z ▸ hc) (hcs x)⟩
theorem ask_all {P : α → D → Prop} (he : ∀ (i : Nat) x, as[i]? = some x → ∃ Γ2, rel (enc x) (wipeG Γ vs) Γ2 ∧ InB X scope fun Y => ZE Y AX0 elt Γ2 S fun y S2 => S2 = S ∧ P x y) (hl : as.length ≤ 16777216) (q : ∀ ys, All2 P as ys → Q (.lst ys) S) : LcAsk X scope [] elt Γ vs rel Q (as.map enc) S := by
  refine ⟨fun i acc S' => S' = S ∧ i ≤ as.length ∧ All2 P (as.take i) acc, ⟨rfl, Nat.zero_le _, .nil⟩, fun i d acc S' hi ⟨e1, e2, e3⟩ => ?_, fun acc S' ⟨e1, e2, e3⟩ => ?_⟩
  · obtain ⟨x, hx, rfl⟩ := map_get hi
    obtain ⟨Γ2, hr, hv⟩ := he i x hx
    have il := (List.getElem?_eq_some_iff.mp hx).1
    subst e1
    refine ⟨Γ2, hr, fun s H C cl fp => zf_nil ?_⟩
    intro s H C cl fp
    refine (hv s H C cl fp).mono fun y S2 ⟨e, p⟩ => ⟨?_, e, il, ?_⟩
    · have := e3.length
      rw [List.length_take] at this
      rw [sizeLine_eq]; omega
    · rw [take_snoc hx]
      exact e3.snoc p
  · subst e1
    rw [List.length_map] at e3
    rw [List.take_length] at e3
    exact q _ e3
/-- some of the items, whichever the test takes -/
theorem ask_some (he : ∀ (i : Nat) x, as[i]? = some x → ∃ Γ2, rel (enc x) (wipeG Γ vs) Γ2 ∧ (InB X scope fun Y => ZT Y AX0 c Γ2 S fun _ S2 => S2 = S) ∧ InB X scope fun Y => ZV Y elt Γ2 S (f x)) (hl : as.length ≤ 16777216) (q : ∀ bs : List α, bs.Sublist as → Q (.lst (bs.map f)) S) : LcAsk X scope [c] elt Γ vs rel Q (as.map enc) S := by
  refine ⟨fun i acc S' => S' = S ∧ i ≤ as.length ∧ ∃ bs : List α, bs.Sublist (as.take i) ∧ acc = bs.map f, ⟨rfl, Nat.zero_le _, [], .slnil, rfl⟩, fun i d acc S' hi ⟨e1, e2, bs, e3, e4⟩ => ?_, fun acc S' ⟨e1, e2, bs, e3, e4⟩ => ?_⟩
  · obtain ⟨x, hx, rfl⟩ := map_get hi
    obtain ⟨Γ2, hr, hb, hv⟩ := he i x hx
    have il := (List.getElem?_eq_some_iff.mp hx).1
    subst e1 e4
    refine ⟨Γ2, hr, fun s H C cl fp => zf_one ?_⟩
    refine fun F σ H co Q' k => hb s _ C cl fp F σ H co Q' fun b H' S2 t hc e => k b H' S2 t hc ?_
    subst e
    cases b with
    | true =>
      rw [if_pos rfl]
      intro s H C cl fp
      refine (hv s H C cl fp).ze ⟨?_, rfl, il, bs ++ [x], by rw [take_snoc hx]; exact e3.append (List.Sublist.refl _), by rw [List.map_append]; rfl⟩
      have := e3.length_le
      rw [List.length_take] at this
      rw [sizeLine_eq, List.length_map]; omega
    | false =>
      rw [if_neg Bool.false_ne_true]
      exact ⟨rfl, il, bs, by rw [take_snoc hx]; exact e3.trans (List.sublist_append_left _ _), rfl⟩
  · subst e1 e4
    rw [List.length_map] at e3
    rw [List.take_length] at e3
    exact q _ e3
end
end Fz
end

section
namespace Fz
open PySem PySem.Spec PyProof.Rows L2 PySem.W

/-! ### cells looked at as data -/
/-- the frame while the cells ps are seen -/
def pkF (F : List Addr) (S : Store) (ps : List Addr) : List Addr := F ++ (keys S).filter fun a => !(ps.contains a)
section
variable {K : PySem.W.Frag} {F : List Addr} {S : Store} {H H' : Hp} {ps : List Addr}
theorem pk_mem {a : Addr} : a ∈ pkF F S ps ↔ a ∈ F ∨ (a ∈ keys S ∧ a ∉ ps) := by
  unfold pkF
  rw [List.mem_append, List.mem_filter]
  simp
theorem pk_vw {a : Addr} (h : a ∉ pkF F S ps) : vw (pkF F S ps) [] H a = H a := by
  have : a ∉ pkF F S ps ++ keys ([] : Store) := by simpa [keys] using h
  rw [vw, hd_out this]
theorem pk_sub : Sub (vw F S H) (vw (pkF F S ps) [] H) := hd_less fun a ha => by
  have ha : a ∈ pkF F S ps := by simpa [keys] using ha
  rcases pk_mem.mp ha with q | ⟨q, _⟩
  · exact List.mem_append_left _ q
  · exact List.mem_append_right _ q
theorem pk_hc (h : HC K F S H) : HC K (pkF F S ps) [] H := by
  refine ⟨?_, fun a ha => ?_, fun p c z => (nomatch z)⟩
  · have : (F ++ (keys S).filter fun a => !(ps.contains a)).Nodup := by
      obtain ⟨n1, n2, n3⟩ := List.nodup_append.mp h.nd
      exact List.nodup_append.mpr ⟨n1, n2.filter _, fun a ha b hb => n3 a ha b (List.mem_filter.mp hb).1⟩
    simpa [keys, pkF] using this
  · rcases pk_mem.mp ha with q | ⟨q, _⟩
    · exact h.fr a q
    · exact h.there (List.mem_append_right _ q)
theorem pk_back (h : HC K F S H) (t : Stp (pkF F S ps) [] H [] H') : HC K F S H' ∧ Stp F S H S H' := by
  have same : ∀ a ∈ F ++ keys S, H' a = H a := fun a ha => by
    by_cases q : a ∈ pkF F S ps
    · exact t.frm a q
    · have e := pk_vw (H := H) q
      cases z : H a with
      | none => exact absurd z (h.there ha)
      | some o =>
        have := t.ext a o (by rw [e]; exact z)
        exact hd_sub _ _ this
  have sub : Sub (vw F S H) (vw F S H') := fun a o e => by
    by_cases q : a ∈ F ++ keys S
    · rw [vw, hd_in q] at e; cases e
    · have n : a ∉ pkF F S ps := fun z => by
        rcases pk_mem.mp z with z | ⟨z, _⟩
        · exact q (List.mem_append_left _ z)
        · exact q (List.mem_append_right _ z)
      rw [vw, hd_out q] at e ⊢
      have := t.ext a o (by rw [pk_vw n]; exact e)
      exact hd_sub _ _ this
  exact ⟨⟨h.nd, fun a ha => by rw [same a (List.mem_append_left _ ha)]; exact h.fr a ha, fun q ce hq => by
    rw [same q (List.mem_append_right _ (List.mem_map.mpr ⟨_, hq, rfl⟩))]
    exact (h.at_ q ce hq).mono sub⟩, ⟨sub, fun a ha => same a (List.mem_append_left _ ha)⟩⟩
/-- a frame whose names see cells -/
inductive Seen (S : Store) (ps : List Addr) : D → D → Prop
  | self {d} : Seen S ps d d
  | lst {p : Addr} {k : Nat} {ds} : S[k]? = some (p, .lst ds) → p ∈ ps → Seen S ps (.ref p) (.lst ds)
  | dk {p : Addr} {k : Nat} {ds} : S[k]? = some (p, .dk ds) → p ∈ ps → Seen S ps (.ref p) (.dk ds)
  | dt {p : Addr} {k : Nat} {ds} : S[k]? = some (p, .dt ds) → p ∈ ps → Seen S ps (.ref p) (.dt ds)
  | ins {p : Addr} {k : Nat} {c fs} : S[k]? = some (p, .ins c fs) → p ∈ ps → Seen S ps (.ref p) (.obj p c fs)
theorem Seen.rep {d d' : D} {v : V} (h : HC K F S H) (s : Seen S ps d d') (r : Rep K (vw F S H) d v) : Rep K (vw (pkF F S ps) [] H) d' v := by
  have vis : ∀ {p : Addr}, p ∈ ps → p ∈ keys S → vw (pkF F S ps) [] H p = H p := fun {p} hp hk => pk_vw fun z => by
    rcases pk_mem.mp z with z | ⟨_, z⟩
    · exact (List.nodup_append.mp h.nd).2.2 p z p hk rfl
    · exact z hp
  have km : ∀ {p : Addr} {k : Nat} {c : Cell}, S[k]? = some (p, c) → p ∈ keys S := fun {p k c} e => List.mem_map.mpr ⟨_, List.mem_of_getElem? e, rfl⟩
  cases s with
  | self => exact r.mono pk_sub
  | lst e hp =>
    cases r
    obtain ⟨xs, ex, rx⟩ := h.get e
    exact .lst (by rw [vis hp (km e)]; exact ex) (rx.mono pk_sub)
  | dk e hp =>
    cases r
    obtain ⟨xs, ex, rx⟩ := h.get e
    exact .dk (by rw [vis hp (km e)]; exact ex) (rx.mono pk_sub)
  | dt e hp =>
    cases r
    obtain ⟨xs, ex, rx⟩ := h.get e
    exact .dt (by rw [vis hp (km e)]; exact ex) (rx.mono pk_sub)
  | ins e hp =>
    cases r
    obtain ⟨dx, xs, ex, rx⟩ := h.get e
    exact .obj (by rw [vis hp (km e)]; exact ex) (rx.mono pk_sub)
def SeenG (S : Store) (ps : List Addr) (Γ Γ' : Gam) : Prop := Γ'.length = Γ.length ∧ ∀ (i : Nat) (d' : D), Γ'[i]? = some (some d') → ∃ d, Γ[i]? = some (some d) ∧ Seen S ps d d'
theorem SeenG.self {Γ : Gam} : SeenG S ps Γ Γ := ⟨rfl, fun i d' h => ⟨d', h, .self⟩⟩
theorem SeenG.set {Γ Γ' : Gam} (g : SeenG S ps Γ Γ') {i : Nat} {d d' : D} (h : Γ[i]? = some (some d)) (s : Seen S ps d d') : SeenG S ps Γ (Γ'.set i (some d')) := by
  refine ⟨by rw [List.length_set]; exact g.1, fun j e q => ?_⟩
  by_cases c : i = j
  · subst c
    have hl := (List.getElem?_eq_some_iff.mp q).1
    rw [List.getElem?_set_self (by simpa using hl)] at q
    cases q
    exact ⟨d, h, s⟩
  · rw [List.getElem?_set_ne c] at q
    exact g.2 j e q
/-- what needs no heap -/
theorem flat_any {d : D} {v : V} {G G' : Hp} (r : Rep K G d v) (f : flatD d = true) : Rep K G' d v := by
  cases r with
  | non => exact .non
  | bl => exact .bl
  | int => exact .int
  | str h => exact .str h
  | _ => cases f
end
section
variable {X : Cx} {Γ Γ' : Gam} {S : Store} {e : Expr} {d : D} {ps : List Addr}
/-- a value that needs no heap, of names that see cells -/
theorem zv_peek (g : SeenG S ps Γ Γ') (h : ZV X e Γ' [] d) (f : flatD d = true) : ZV X e Γ S d := fun Ex Q q F σ H c Q' k => by
  have rg : RG X.K (vw (pkF F S ps) [] H) Γ' σ := ⟨g.1.trans c.rg.1, fun i d' e => by
    obtain ⟨d0, e0, s⟩ := g.2 i d' e
    obtain ⟨v, e1, r⟩ := c.rg.2 i d0 e0
    exact ⟨v, e1, s.rep c.hc r⟩⟩
  refine h AX0 (fun d' S' => d' = d ∧ S' = []) ⟨rfl, rfl⟩ (pkF F S ps) σ H ⟨c.ok, pk_hc c.hc, rg, .none⟩ Q' fun v H' d' S' t hc r ⟨e1, e2⟩ => ?_
  subst e1 e2
  obtain ⟨b1, b2⟩ := pk_back c.hc t
  exact k v H' _ S b2 b1 (flat_any r f) q
theorem zb_peek {t : Bool} (g : SeenG S ps Γ Γ') (h : ZB X e Γ' [] t) : ZB X e Γ S t := fun Ex Q q F σ H c Q' k => by
  have rg : RG X.K (vw (pkF F S ps) [] H) Γ' σ := ⟨g.1.trans c.rg.1, fun i d' e => by
    obtain ⟨d0, e0, s⟩ := g.2 i d' e
    obtain ⟨v, e1, r⟩ := c.rg.2 i d0 e0
    exact ⟨v, e1, s.rep c.hc r⟩⟩
  refine h AX0 (fun d' S' => d' = t ∧ S' = []) ⟨rfl, rfl⟩ (pkF F S ps) σ H ⟨c.ok, pk_hc c.hc, rg, .none⟩ Q' fun v H' S' tt hc ⟨e1, e2⟩ => ?_
  subst e1 e2
  obtain ⟨b1, b2⟩ := pk_back c.hc tt
  exact k _ H' S b2 b1 q
end
end Fz
namespace Fz
open PySem PySem.Spec PyProof.Rows L2 PySem.W
/-! ### any cell, changed no more -/
theorem mem_erase {S : Store} {k : Nat} {p : Addr} {c : Cell} (hk : S[k]? = some (p, c)) (a : Addr) : a ∈ keys S ↔ a = p ∨ a ∈ keys (S.eraseIdx k) := by
  have hl := (List.getElem?_eq_some_iff.mp hk).1
  have e : S = S.take k ++ (p, c) :: S.drop (k + 1) := by
    have h1 := (List.take_append_drop k S).symm
    rw [List.drop_eq_getElem_cons hl, (List.getElem?_eq_some_iff.mp hk).2] at h1
    exact h1
  have e2 : S.eraseIdx k = S.take k ++ S.drop (k + 1) := List.eraseIdx_eq_take_drop_succ S k
  rw [e2]
  conv => lhs; rw [e]
  unfold keys
  simp only [List.map_append, List.map_cons, List.mem_append, List.mem_cons]
  constructor
  · rintro (h | h | h)
    · exact .inr (.inl h)
    · exact .inl h
    · exact .inr (.inr h)
  · rintro (h | h | h)
    · exact .inr (.inl h)
    · exact .inl h
    · exact .inr (.inr h)
section
variable {K : PySem.W.Frag} {F : List Addr} {S : Store} {H H' : Hp} {k : Nat} {p : Addr} {c : Cell}
theorem thaw_nd (h : HC K F S H) (hk : S[k]? = some (p, c)) : (F ++ keys (S.eraseIdx k)).Nodup ∧ p ∉ F ++ keys (S.eraseIdx k) := by
  have hl := (List.getElem?_eq_some_iff.mp hk).1
  have e : F ++ keys S = F ++ (keys (S.take k) ++ p :: keys (S.drop (k + 1))) := by
    have h1 := (List.take_append_drop k S).symm
    rw [List.drop_eq_getElem_cons hl, (List.getElem?_eq_some_iff.mp hk).2] at h1
    conv => lhs; rw [h1]
    simp [keys]
  have e2 : F ++ keys (S.eraseIdx k) = F ++ (keys (S.take k) ++ keys (S.drop (k + 1))) := by
    rw [List.eraseIdx_eq_take_drop_succ]; simp [keys]
  have pm : (F ++ keys S).Perm (p :: (F ++ keys (S.eraseIdx k))) := by
    rw [e, e2, ← List.append_assoc, ← List.append_assoc]
    exact List.perm_middle
  have nd := pm.nodup_iff.mp h.nd
  exact ⟨(List.nodup_cons.mp nd).2, (List.nodup_cons.mp nd).1⟩
theorem HC.freezeAt (h : HC K F S H) (hk : S[k]? = some (p, c)) : HC K F (S.eraseIdx k) H ∧ Stp F S H (S.eraseIdx k) H ∧ vw F (S.eraseIdx k) H p = H p := by
  obtain ⟨n1, n2⟩ := thaw_nd h hk
  have sub : Sub (vw F S H) (vw F (S.eraseIdx k) H) := hd_less fun a ha => by
    rcases List.mem_append.mp ha with q | q
    · exact List.mem_append_left _ q
    · exact List.mem_append_right _ ((mem_erase hk a).mpr (.inr q))
  exact ⟨⟨n1, h.fr, fun q ce hq => (h.at_ q ce (List.mem_of_mem_eraseIdx hq)).mono sub⟩, ⟨sub, fun _ _ => rfl⟩, by rw [vw, hd_out n2]⟩
end
/-- what a cell is when it changes no more -/
inductive Ice : Addr → Cell → D → Prop
  | lst {p ds} : Ice p (.lst ds) (.lst ds)
  | dk {p ks} : Ice p (.dk ks) (.dk ks)
  | dt {p ks} : Ice p (.dt ks) (.dt ks)
  | ins {p c fs} : Ice p (.ins c fs) (.obj p c fs)
theorem Ice.rep {K G} {H : Hp} {p : Addr} {c : Cell} {d : D} (i : Ice p c d) (h : CellAt K G (H p) c) (e : G p = H p) : Rep K G d (.ref p) := by
  cases i with
  | lst => obtain ⟨xs, q, r⟩ := h; exact .lst (e.trans q) r
  | dk => obtain ⟨xs, q, r⟩ := h; exact .dk (e.trans q) r
  | dt => obtain ⟨xs, q, r⟩ := h; exact .dt (e.trans q) r
  | ins => obtain ⟨dx, xs, q, r⟩ := h; exact .obj (e.trans q) r
section
variable {X : Cx} {Ex : AX} {Γ : Gam} {S : Store} {ss : List Stmt} {E : AEnds} {Q : DQ} {e o i : Expr} {pos : Pos}
theorem set_here {σ : L2.St} {j : Nat} {v : V} (h : σ[j]? = some (some v)) : σ.set j (some v) = σ := by
  apply List.ext_getElem?
  intro n
  by_cases q : j = n
  · subst q
    rw [List.getElem?_set_self (List.getElem?_eq_some_iff.mp h).1, h]
  · rw [List.getElem?_set_ne q]
/-- the name's cell is data from here on -/
theorem zs_ice {k j : Nat} {p : Addr} {c : Cell} {d : D} (hk : S[k]? = some (p, c)) (hj : Γ[j]? = some (some (.ref p))) (ice : Ice p c d) (h : ZS X Ex ss (Γ.set j (some d)) (S.eraseIdx k) E) : ZS X Ex ss Γ S E := fun F σ H co D' kq => by
  obtain ⟨f1, f2, f3⟩ := co.hc.freezeAt hk
  have cell := (co.hc.get hk).mono f2.ext
  obtain ⟨v, e1, r1⟩ := co.rg.2 j _ hj
  cases r1
  have g := (co.rg.mono f2.ext).set (i := j) (ice.rep cell f3)
  rw [set_here e1] at g
  exact h F σ H ⟨co.ok, f1, g, co.xr.step f2⟩ D' (kq.step f2)
/-- a cell of no name any more -/
theorem zs_lose {k : Nat} {p : Addr} {c : Cell} (hk : S[k]? = some (p, c)) (h : ZS X Ex ss Γ (S.eraseIdx k) E) : ZS X Ex ss Γ S E := fun F σ H co D' kq => by
  obtain ⟨f1, f2, f3⟩ := co.hc.freezeAt hk
  exact h F σ H ⟨co.ok, f1, co.rg.mono f2.ext, co.xr.step f2⟩ D' (kq.step f2)
/-- a value behind which its cell is data -/
theorem ze_ice {S0 : Store} (h : ZE X Ex e Γ S0 fun r S' => ∃ k p c d, r = .ref p ∧ S'[k]? = some (p, c) ∧ Ice p c d ∧ Q d (S'.eraseIdx k)) : ZE X Ex e Γ S0 Q := fun F σ H co Q' kq =>
  h F σ H co Q' fun v H' r S' t hc rr ⟨k, p, c, d, e, hk, ice, q⟩ => by
    subst e
    cases rr
    obtain ⟨f1, f2, f3⟩ := hc.freezeAt hk
    exact kq _ _ _ _ (t.trans f2) f1 (ice.rep ((hc.get hk).mono f2.ext) f3) q
theorem ze_lose {S0 : Store} (h : ZE X Ex e Γ S0 fun r S' => ∃ k p c, S'[k]? = some (p, c) ∧ Q r (S'.eraseIdx k)) : ZE X Ex e Γ S0 Q := fun F σ H co Q' kq =>
  h F σ H co Q' fun v H' r S' t hc rr ⟨k, p, c, hk, q⟩ => by
    obtain ⟨f1, f2, f3⟩ := hc.freezeAt hk
    exact kq _ _ _ _ (t.trans f2) f1 (rr.mono f2.ext) q
/-- an item of a list that may change -/
theorem zv_ixC {k : Nat} {p : Addr} {ds : List D} {n : Int} {d : D} (ho : ZV X o Γ S (.ref p)) (hi : ZV X i Γ S (.int n)) (hk : S[k]? = some (p, .lst ds)) (h : atI ds n = some d) (hs : PlainIx i := by exact fun _ _ => rfl) : ZV X (.Subscript o i pos) Γ S d := fun Ex Q q =>
  ze_of (pe_ix ix_Z pe_self pe_self hs) fun F σ H c Q' k' => opTwo (R := fun x y S2 Q => x = .ref p ∧ y = .int n ∧ S2 = S ∧ Q d S) (fun F2 S2 H2 x y v u Q2 Q3 _ hc r1 r2 ⟨e1, e2, e3, q2⟩ kk => by
    rw [e1] at r1
    rw [e2] at r2
    cases r1
    cases r2
    obtain ⟨xs, hx, rx⟩ := hc.get (by rw [e3]; exact hk)
    obtain ⟨v, e, r⟩ := atI_rep rx h
    exact .inl ⟨_, _, n, v, rfl, rfl, SqL.of hx, e, kk _ _ _ _ .refl hc r (by rw [e3]; exact q2)⟩) (ho.ze (hi.ze ⟨rfl, rfl, rfl, q⟩)) c k'
end
end Fz
namespace Fz
open PySem PySem.Spec PyProof.Rows L2 PySem.W
/-- the name in slot i -/
theorem zn {X : Cx} {Γ : Gam} {S : Store} {d : D} {pos : Pos} {x : Str} (i : Nat) (h : Γ[i]? = some (some d) := by rfl) (hN : X.N[i]? = some x := by rfl) (hv : Vis X.env.scope x := by first | exact Or.inl rfl | exact Or.inr (Or.inl rfl) | exact Or.inr (Or.inr rfl))
    (hd : (x == ("__debug__" : Str)) = false := by decide) (hcd : (x == ("__classdict__" : Str)) = false := by decide) : ZV X (.Name x pos) Γ S d := zv_var h hN hv hd hcd
end Fz
namespace Fz
open PySem PySem.Spec PyProof.Rows L2 PySem.W
section
variable {X : Cx} {Ex : AX} {Γ : Gam} {S : Store} {E : AEnds} {d u v : D} {e a b c tg : Expr} {rest t f : List Stmt} {pos : Pos}
/-- name = e, then the rest -/
theorem zset (i : Nat) {x : Str} {pos' : Pos} (h : ZE X Ex e Γ S fun d S' => ZS X Ex rest (Γ.set i (some d)) S' E) (hi : X.N[i]? = some x := by rfl) (hx : Loc X.env.scope x := by first | exact .inl rfl | exact .inr rfl)
    (hs : swapsWith e (some (.Name x pos')) pos.line X.env = pure false := by rfl) (hf : X.fn x = true ∨ X.env.scope.names.lookup x = some .local := by first | exact .inl rfl | exact .inr rfl | assumption) : ZS X Ex (.Assign [.Name x pos'] e pos :: rest) Γ S E :=
  zs_cons (z1_set h hi hx hs hf)
theorem zsetV (i : Nat) {x : Str} {pos' : Pos} (h : ZV X e Γ S d) (k : ZS X Ex rest (Γ.set i (some d)) S E) (hi : X.N[i]? = some x := by rfl) (hx : Loc X.env.scope x := by first | exact .inl rfl | exact .inr rfl)
    (hs : swapsWith e (some (.Name x pos')) pos.line X.env = pure false := by rfl) (hf : X.fn x = true ∨ X.env.scope.names.lookup x = some .local := by first | exact .inl rfl | exact .inr rfl | assumption) : ZS X Ex (.Assign [.Name x pos'] e pos :: rest) Γ S E :=
  zset i (h.ze k) hi hx hs hf
/-- x, y = a, b -/
theorem zpar (i j : Nat) {x y : Str} {px py pt : Pos} {kt k2 pt2} (h : ZE X Ex a Γ S fun u S1 => ZE X Ex b Γ S1 fun v S2 => ZS X Ex rest ((Γ.set i (some u)).set j (some v)) S2 E)
    (hw : swappedStores [.Tuple [.Name x px, .Name y py] kt pt] (.Tuple [a, b] k2 pt2) X.env = pure (some [x, y]) := by rfl) (hi : X.N[i]? = some x := by rfl) (hj : X.N[j]? = some y := by rfl) (hij : i ≠ j := by decide)
    (hx : X.env.scope.names.lookup x = some .local := by rfl) (hy : X.env.scope.names.lookup y = some .local := by rfl)
    (hs : swapsWithSole [.Tuple [.Name x px, .Name y py] kt pt] (.Tuple [a, b] k2 pt2) pos.line X.env = pure false := by rfl)
    (s1 : starEach [a, b] X.env = (false, eval a X.env) :: starEach [b] X.env := by rfl) (s2 : starEach [b] X.env = (false, eval b X.env) :: starEach [] X.env := by rfl) : ZS X Ex (.Assign [.Tuple [.Name x px, .Name y py] kt pt] (.Tuple [a, b] k2 pt2) pos :: rest) Γ S E :=
  zs_cons (z1_par h hw hi hj hij hx hy hs s1 s2)
/-- if c: t (which ends), then the rest -/
theorem zif {tt : Bool} (h : ZB X c Γ S tt) (k : if tt = true then ZS X Ex t Γ S { E with nx := fun Γ' S' => ZS X Ex rest Γ' S' E } else ZS X Ex f Γ S { E with nx := fun Γ' S' => ZS X Ex rest Γ' S' E }) : ZS X Ex (.If c t f pos :: rest) Γ S E := zs_cons (z1_if (h.zt k))
theorem zret (h : ZE X Ex e Γ S E.rt) : ZS X Ex [.Return (some e) pos] Γ S E := zs_one (z1_ret h)
theorem zretV (h : ZV X e Γ S d) (k : E.rt d S) : ZS X Ex [.Return (some e) pos] Γ S E := zs_one (z1_ret (h.ze k))
/-- o[i] = e -/
theorem zput {o i value : Expr} {pos' : Pos} {k j : Nat} {p : Addr} {ds : List D} {n : Int} {S' : Store} (hv : ZV X value Γ S d) (ho : ZV X o Γ S (.ref p)) (hi : ZV X i Γ S (.int n)) (hk : S[k]? = some (p, .lst ds)) (hj : ixN ds.length n = some j) (hS : S.set k (p, .lst (ds.set j d)) = S') (h : ZS X Ex rest Γ S' E)
    (hs : swapsWithSole [.Subscript o i pos'] value pos.line X.env = pure false := by rfl) (hw : swappedStores [.Subscript o i pos'] value X.env = pure none := by rfl)
    (h1 : (assignEach [.Subscript o i pos'] X.env).map (·.2) = [assign (.Subscript o i pos') X.env] := by rfl)
    (ha : ∀ v, assign (.Subscript o i pos') X.env v = (do
      let ov ← holding [v] (eval o X.env)
      let iv ← holding [v, ov] (eval i X.env)
      standAt pos'
      holding [v, ov, iv] (setItem ov iv v)
      release [v, ov, iv] []) := by intro _; rfl) : ZS X Ex (.Assign [.Subscript o i pos'] value pos :: rest) Γ S E := by
  subst hS
  exact zs_cons (z1_asg (hv.ze (zg_item ho hi hk hj h ha)) hs hw h1)
end
end Fz
end

section
namespace Fz
open PySem PySem.Spec PyProof.Rows L2 PySem.W
/-- slots forgotten, one by one -/
inductive Wk : Gam → Gam → Prop
  | nil : Wk [] []
  | same {x Γ Γ'} : Wk Γ Γ' → Wk (x :: Γ) (x :: Γ')
  | drop {x Γ Γ'} : Wk Γ Γ' → Wk (x :: Γ) (none :: Γ')
theorem Wk.weak : ∀ {Γ Γ' : Gam}, Wk Γ Γ' → weaker Γ Γ'
  | _, _, .nil => ⟨rfl, fun _ _ h => h⟩
  | _, _, .same h => ⟨congrArg (· + 1) h.weak.1, fun i d e => match i with
    | 0 => e
    | i + 1 => h.weak.2 i d e⟩
  | _, _, .drop h => ⟨congrArg (· + 1) h.weak.1, fun i d e => match i with
    | 0 => by simp at e
    | i + 1 => h.weak.2 i d e⟩
section
variable {X : Cx} {Ex : AX} {Γ : Gam} {S : Store} {E : AEnds} {e a b c tg iter : Expr} {body rest ss : List Stmt} {pos : Pos} {d : D} {ds : List D} {q : GQ} {α : Type}
theorem ZG.weak {Γ' : Gam} (h : ZG X Ex tg d Γ' S q) (w : weaker Γ Γ') : ZG X Ex tg d Γ S q := fun F σ H v c r q' k => h F σ H v ⟨c.ok, c.hc, c.rg.weak w, c.xr⟩ r q' k
theorem ZE.weak {Γ' : Gam} {Q : DQ} (h : ZE X Ex e Γ' S Q) (w : weaker Γ Γ') : ZE X Ex e Γ S Q := fun F σ H c Q' k => h F σ H ⟨c.ok, c.hc, c.rg.weak w, c.xr⟩ Q' k
theorem zwk {Γ' : Gam} (h : ZS X Ex ss Γ' S E) (w : Wk Γ Γ' := by repeat constructor) : ZS X Ex ss Γ S E := h.weak w.weak
/-- for, over a state -/
theorem zfor (γ : α → Gam) (st : α → Store) (P : Nat → α → Prop) (a0 : α) (iv : ZIV X tg iter Γ S ds) (w0 : Wk Γ (γ a0)) (s0 : S = st a0) (p0 : P 0 a0)
    (turn : ∀ (i : Nat) d a, ds[i]? = some d → P i a → ZG X Ex tg d (γ a) (st a) fun Γ2 S2 => ZS X Ex body Γ2 S2 { E with nx := fun Γ3 S3 => ∃ a', Wk Γ3 (γ a') ∧ S3 = st a' ∧ P (i + 1) a', ct := fun Γ3 S3 => ∃ a', Wk Γ3 (γ a') ∧ S3 = st a' ∧ P (i + 1) a', bk := fun Γ' S' => ZS X Ex rest Γ' S' E })
    (done : ∀ a, P ds.length a → ZS X Ex rest (γ a) (st a) E) (hs : ∀ x, foldedSetIterable iter X.env x = pure x := by intro _; rfl) : ZS X Ex (.For tg iter body [] pos :: rest) Γ S E :=
  zs_cons (z1_for (iv.zi ⟨fun i Γ' S' => ∃ a, Wk Γ' (γ a) ∧ S' = st a ∧ P i a, ⟨a0, w0, s0, p0⟩, fun i d Γ' S' hi ⟨a, w, e, p⟩ => by
    subst e
    exact (turn i d a hi p).weak w.weak, fun Γ' S' ⟨a, w, e, p⟩ => by
    subst e
    exact (done a p).weak w.weak⟩) hs)
/-- one name for each item -/
theorem zgn (i : Nat) {x : Str} (h : q (Γ.set i (some d)) S) (hi : X.N[i]? = some x := by rfl) (hx : Loc X.env.scope x := by first | exact .inl rfl | exact .inr rfl) (hf : X.fn x = true ∨ X.env.scope.names.lookup x = some .local := by first | exact .inl rfl | exact .inr rfl) : ZG X Ex (.Name x pos) d Γ S q := zg_name h hi hx hf
/-- a if c else b -/
theorem zv_if {t : Bool} {x y : D} (hc : ZB X c Γ S t) (h1 : t = true → ZV X a Γ S x) (h2 : t = false → ZV X b Γ S y) : ZV X (.IfExp c a b pos) Γ S (if t = true then x else y) := fun Ex Q q => ze_if (hc.zt (by
  cases t with
  | true => exact (h1 rfl).ze q
  | false => exact (h2 rfl).ze q))
theorem zv_ifI {t : Bool} {x y : Int} (hc : ZB X c Γ S t) (h1 : t = true → ZV X a Γ S (.int x)) (h2 : t = false → ZV X b Γ S (.int y)) : ZV X (.IfExp c a b pos) Γ S (.int (if t = true then x else y)) := fun Ex Q q => ze_if (hc.zt (by
  cases t with
  | true => exact (h1 rfl).ze q
  | false => exact (h2 rfl).ze q))
theorem zb_or {es : List Expr} {t u : Bool} (h : ZB X a Γ S t) (h2 : t = false → ZB X b Γ S u) : ZB X (.BoolOp .Or [a, b] pos) Γ S (t || u) := fun Ex Q q => (zw_or (h.zt (by
  cases t with
  | true => exact q
  | false => exact zw_or1 ((h2 rfl).zt q)))).zt
theorem zb_and {es : List Expr} {t u : Bool} (h : ZB X a Γ S t) (h2 : t = true → ZB X b Γ S u) : ZB X (.BoolOp .And [a, b] pos) Γ S (t && u) := fun Ex Q q => (zw_and (h.zt (by
  cases t with
  | false => exact q
  | true => exact zw_and1 ((h2 rfl).zt q)))).zt
end
end Fz
end

section
namespace Fz
open PySem PySem.Spec PyProof.Rows L2 PySem.W

/-! ### the head's facts -/
/-- facts of own classes beside He's -/
inductive Fb where
  | ins (x : Str)
  | isB (t : String) (x : Str) (b : Bool)
  | isC (x y : Str) (b : Bool)
  | isT (x : Str) (t : String) (b : Bool)
  | nf (x : Str) (t : String)
  | nfc (x y : Str)
  | ne (x : Str)
  | nobool (x : Str)
  | nolen (x : Str)
  | dtup (f : Str × Option Str) (i : Nat)
  | tbl (cs : List Str)
def tyN : List String := ["NoneType", "bool", "int", "str", "tuple", "list", "dict"]
open He in
def insB (K : Frag) (x : Str) : Bool := (He.Fa.cls x).ok K && (eqO (findIn K (.ref (ga K x)) "__class__") (some (some (.builtin "object.__class__"))) && (eqO (specialIn K (.builtin "object.__class__") "__get__") (some (some (.builtin "getset_descriptor.__get__"))) &&
      (decide (takesIn K (.builtin "object.__class__") = some true) && (decide (mroIn K (ga K x) (.type "object") = some true) && decide (kitOne K (.ref (ga K x)) (.ref (ga K x)) = some true)))))
open He in
def Fb.ok (K : Frag) : Fb → Bool
  | .ins x => (He.Fa.cls x).ok K && (eqO (findIn K (.ref (ga K x)) "__class__") (some (some (.builtin "object.__class__"))) && (eqO (specialIn K (.builtin "object.__class__") "__get__") (some (some (.builtin "getset_descriptor.__get__"))) &&
      (decide (takesIn K (.builtin "object.__class__") = some true) && (decide (mroIn K (ga K x) (.type "object") = some true) && decide (kitOne K (.ref (ga K x)) (.ref (ga K x)) = some true)))))
  | .isB t x b => decide (kitOne K (.type t) (.ref (ga K x)) = some b)
  | .isC x y b => decide (kitOne K (.ref (ga K x)) (.ref (ga K y)) = some b)
  | .isT x t b => decide (kitOne K (.ref (ga K x)) (.type t) = some b)
  | .nf x t => notFirst K (ga K x) (.type t)
  | .nfc x y => notFirst K (ga K x) (.ref (ga K y))
  | .ne x => eqO (findIn K (.ref (ga K x)) "__ne__") (some (some (.builtin "object.__ne__"))) && decide (subIn K (.ref (ga K x)) (.type "object") = some true)
  | .nobool x => eqO (findIn K (.ref (ga K x)) "__bool__") (some none)
  | .nolen x => eqO (findIn K (.ref (ga K x)) "__len__") (some none)
  | .tbl cs => cs.all fun c => insB K c && ((tyN.all fun T => decide (kitOne K (.ref (ga K c)) (.type T) = some false) && (decide (kitOne K (.type T) (.ref (ga K c)) = some false) && notFirst K (ga K c) (.type T))) && cs.all fun c' => decide (kitOne K (.ref (ga K c)) (.ref (ga K c')) = some (decide (c = c'))) && notFirst K (ga K c) (.ref (ga K c')))
  | .dtup f i => match K.lookup (He.dflAt f i K) with
    | some ⟨.type c, _, .seq its _, _⟩ => decide (c = "tuple") && its.toList.isEmpty
    | _ => false
section
variable {K : Frag}
open He
theorem ins_ok {x : Str} (c : (Fb.ins x).ok K = true) : C8.InsC K (ga K x) := by
  obtain ⟨c1, c⟩ := ba c
  obtain ⟨c2, c⟩ := ba c
  obtain ⟨c3, c⟩ := ba c
  obtain ⟨c4, c⟩ := ba c
  obtain ⟨c5, c6⟩ := ba c
  exact ⟨cls_ok c1, eqO_ok c2, eqO_ok c3, of_decide_eq_true c4, of_decide_eq_true c5, of_decide_eq_true c6⟩
theorem isB_ok {x : Str} {t : String} {b : Bool} (c : (Fb.isB t x b).ok K = true) : kitOne K (.type t) (.ref (ga K x)) = some b := of_decide_eq_true c
theorem isC_ok {x y : Str} {b : Bool} (c : (Fb.isC x y b).ok K = true) : kitOne K (.ref (ga K x)) (.ref (ga K y)) = some b := of_decide_eq_true c
theorem isT_ok {x : Str} {t : String} {b : Bool} (c : (Fb.isT x t b).ok K = true) : kitOne K (.ref (ga K x)) (.type t) = some b := of_decide_eq_true c
theorem nf_ok {x : Str} {t : String} (c : (Fb.nf x t).ok K = true) : notFirst K (ga K x) (.type t) = true := c
theorem nfc_ok {x y : Str} (c : (Fb.nfc x y).ok K = true) : notFirst K (ga K x) (.ref (ga K y)) = true := c
theorem ne_ok {x : Str} (c : (Fb.ne x).ok K = true) : NeC K x := ⟨eqO_ok (ba c).1, of_decide_eq_true (ba c).2⟩
theorem nobool_ok {x : Str} (c : (Fb.nobool x).ok K = true) : findIn K (.ref (ga K x)) "__bool__" = some none := eqO_ok c
end
theorem nolen_ok {K : Frag} {x : Str} (c : (Fb.nolen x).ok K = true) : findIn K (.ref (He.ga K x)) "__len__" = some none := He.eqO_ok c
theorem dtup_ok {K : Frag} {f : Str × Option Str} {i : Nat} (c : (Fb.dtup f i).ok K = true) (G : Hp) : SqT K G (He.dflAt f i K) [] := by
  have c1 : (match K.lookup (He.dflAt f i K) with
    | some ⟨.type c, _, .seq its _, _⟩ => decide (c = "tuple") && its.toList.isEmpty
    | _ => false) = true := c
  cases q : K.lookup (He.dflAt f i K) with
  | none => rw [q] at c1; cases c1
  | some o =>
    obtain ⟨oc, od, dt, osl⟩ := o
    rw [q] at c1
    cases oc with
    | type t =>
      cases dt with
      | seq its n =>
        simp only [Bool.and_eq_true, decide_eq_true_eq, List.isEmpty_iff] at c1
        obtain ⟨e1, e2⟩ := c1
        have e3 : its.size = 0 := by rw [← Array.length_toList, e2]; rfl
        exact .inr ⟨_, its, n, q, by rw [e1], rfl, by rw [e3]; exact Nat.zero_le _, by rw [e2]; exact .nil⟩
      | _ => cases c1
    | _ => cases c1
structure SaysZ (fa : List He.Fa) (fn : List He.DefD) (fb : List Fb) (K : Frag) : Prop where
  d : He.SaysD fa fn K
  b : fb.all (fun f => f.ok K) = true
abbrev AlZ : Type := He.AlD × Bool
def obsZ (n : Nat) (fa : List He.Fa) (fn : List He.DefD) (fb : List Fb) (g : Addr → Option Obj) : AlZ := (He.obsD fa fn (He.frG g (He.asD g n)), fb.all fun f => f.ok (He.frG g (He.asD g n)))
def hookZ (n : Nat) (fa : List He.Fa) (fn : List He.DefD) (fb : List Fb) : Hook where
  α := AlZ
  obs := fun s => obsZ n fa fn fb s.heap.get?
  val := fun _ => (He.valD fn, true)
  says := fun _ h => ∃ K : Frag, K.In h ∧ SaysZ fa fn fb K
  of := fun _ _ e => ⟨_, He.frG_in, congrArg (fun z : AlZ => z.1) e, congrArg (fun z : AlZ => z.2) e⟩
  keeps := fun _ _ _ ⟨K, hK, c⟩ k => ⟨K, Frag.In.keeps hK k, c⟩
theorem obsZ_eq {n : Nat} {fa : List He.Fa} {fn : List He.DefD} {fb : List Fb} {g : Addr → Option Obj} {s : Shared} (h : ∀ a, g a = s.heap.get? a) : obsZ n fa fn fb g = (hookZ n fa fn fb).obs s := by
  have e : g = s.heap.get? := funext h
  rw [e]; rfl
/-- where a law's defs are proved -/
structure Cz (fa : List He.Fa) (fn : List He.DefD) (fb : List Fb) (K : Frag) (mg : Str → Option Value) (base : Heap) : Prop where
  X : K.In base
  G : base.Ns mainGlobals mg
  s : SaysZ fa fn fb K
section
variable {fa : List He.Fa} {fn : List He.DefD} {fb : List Fb} {K : Frag} {mg : Str → Option Value} {base : Heap}
theorem Cz.ta (c : Cz fa fn fb K mg base) (i : Nat) {f : He.Fa} (h : fa[i]? = some f := by rfl) : f.ok K = true := c.s.d.fact i h
theorem Cz.tb (c : Cz fa fn fb K mg base) (i : Nat) {f : Fb} (h : fb[i]? = some f := by rfl) : f.ok K = true := List.all_eq_true.mp c.s.b f (List.mem_of_getElem? h)
theorem Cz.td (c : Cz fa fn fb K mg base) (i : Nat) {d : He.DefD} (h : fn[i]? = some d := by rfl) : ∃ fd, FunD K d.name d.qual d.params d.body d.scope (d.dvs K) (d.kws K) (He.fAd K d.at_) fd := c.s.d.def_ i h
theorem Cz.free (c : Cz fa fn fb K mg base) (i : Nat) {x : Str} (h : fa[i]? = some (.free x) := by rfl) : mg x = none := He.free_ok c.X c.G (c.ta i h)
theorem Cz.glo (c : Cz fa fn fb K mg base) (i : Nat) {x : Str} (h : fa[i]? = some (.glo x) := by rfl) : mg x = some (.ref (He.ga K x)) := He.glo_ok c.X c.G (c.ta i h)
theorem Cz.cln (c : Cz fa fn fb K mg base) {X : Cx} (hm : X.mg = mg) (i : Nat) {x : Str} (h : fa[i]? = some (.glo x) := by rfl) : ClN X x (.ref (He.ga K x)) := .inr ⟨_, rfl, by rw [hm]; exact c.glo i h⟩
/-- a built-in class by its name -/
theorem cln_b {X : Cx} {n : Str} {T : String} (hm : X.mg n = none) (hb : bootBuiltins n = some (.type T)) (hn : n ≠ "__name__" := by decide) : ClN X n (.type T) := .inl ⟨T, rfl, hm, hb, hn⟩
theorem Cz.fld (c : Cz fa fn fb K mg base) {x f : Str} (i j : Nat) (h : fa[i]? = some (.cls x) := by rfl) (h2 : fa[j]? = some (.noat x f) := by rfl) : Fld K x f := ⟨He.cls_ok (c.ta i h), He.noat_ok (c.ta j h2)⟩
variable {P : Program} {w : World} {k n : Nat} {f : Addr} {fd : FuncData} {x qual : Str} {params : Arguments} {body : List Stmt} {scope : Scope} {ps ks : List Str} {asp : ASp} {asp2 : ASk} {gD : List D → List D → List D} {kws : List (Str × V)}
/-- a def of the module's top, called by its name -/
theorem ac_of (c : Cz fa fn fb K mg base) (i : Nat) (hg : fa[i]? = some (.glo x)) (F : FunD K x qual params body scope [] kws (He.ga K x) fd) (G : FnG P w K mg base k (He.ga K x) fd ps (conc K asp)) (b : Bd K fd ps n ks gD) : AC P w K mg base k x n ks (fun ds es => asp (gD ds es)) :=
  ⟨⟨_, c.glo i hg, F.kp, can_fn G b⟩⟩
theorem am_of {C m : Str} (cl : Cls K (He.ga K C)) (me : Meth K (He.ga K C) m f) (G : FnG P w K mg base k f fd ps (conc K asp)) (b : Bd K fd ps (n + 1) ks gD) : AM P w K mg base k C m n ks (fun ds es => asp (gD ds es)) :=
  ⟨⟨f, cl, me, can_fn G b⟩⟩
theorem bd_pos (F : FunD K x qual params body scope [] kws f fd) (n : Nat) (hn : n = ps.length)
    (h : ∀ (kV doc pm : Value) (an : Option Addr) (cdv ct : Value) (us : List Value), us.length = ps.length → bindArgs (fnOf x qual params body scope .none kV doc pm an cdv ct) ⟨us, []⟩ = pure (ps.zip us)) : Bd K fd ps n [] (fun ds _ => ds) := bd_of (F.bindsN h) hn
theorem vals_app : ∀ {xs ys : List V} {us ws : List Value}, Vals xs us → Vals ys ws → Vals (xs ++ ys) (us ++ ws)
  | _, _, _, _, .nil, r => r
  | _, _, _, _, .cons h t, r => .cons h (vals_app t r)
/-- keywords in the parameters' order -/
theorem bd_kw (F : FunD K x qual params body scope [] kws f fd) (n : Nat) (ks : List Str)
    (h : ∀ (kV doc pm : Value) (an : Option Addr) (cdv ct : Value) (us ws : List Value), us.length = n → ws.length = ks.length → bindArgs (fnOf x qual params body scope .none kV doc pm an cdv ct) ⟨us, ks.zip ws⟩ = pure (ps.zip (us ++ ws))) : Bd K fd ps n ks (fun ds es => ds ++ es) := by
  obtain ⟨oc, od, dV, kV, doc, pm, an, cdv, ct, osl, rfl, lk, hcd, hD, hK⟩ := F.ex
  rcases hD with ⟨_, rfl⟩ | ⟨e, _⟩
  · exact ⟨fun us ws => us ++ ws, fun vs zs => vs ++ zs, fun s us ws X l1 l2 => .of_eq (h kV doc pm an cdv ct us ws l1 l2), fun r r2 _ _ => vals_app r r2, fun r r2 _ _ => r.app r2⟩
  · exact absurd rfl e
end
end Fz
end

section
namespace Fz
open PySem PySem.Spec PyProof.Rows L2 PySem.W
/-! ### comprehensions, shorter -/
def kindB (k : NameKind) (k' : NameKind) : Bool := decide (k = k')
def blkB (N : List Str) (sc scope : Scope) (own : List (Str × Nat)) : Bool :=
  decide (scope.kind = .function) && (scope.names.all (fun y => decide (scope.names.lookup y.1 = some y.2)) && (own.all (fun p => decide (N[p.2]? = some p.1)) && (scope.names.all (fun y => decide (y.2 ≠ .free) || (decide (sc.names.lookup y.1 = some .cell) || decide (sc.names.lookup y.1 = some .free))) &&
    scope.names.all fun y => (decide (y.2 ≠ .local) && decide (y.2 ≠ .cell)) || (decide (y.1 ∈ own.map (·.1)) || decide (y.1 ∉ N)))))
theorem blk_of {N : List Str} {sc scope : Scope} {own : List (Str × Nat)} (h : blkB N sc scope own = true) : BlkOk N sc scope own := by
  unfold blkB at h
  simp only [Bool.and_eq_true, List.all_eq_true, Bool.or_eq_true, decide_eq_true_eq] at h
  obtain ⟨h1, h2, h3, h4, h5⟩ := h
  exact ⟨h1, h2, h3, fun y hy e => (h4 y hy).elim (fun z => absurd e z) id, fun y hy e => (h5 y hy).elim (fun z => e.elim (fun q => absurd q z.1) fun q => absurd q z.2) id⟩
section
variable {X : Cx} {Ex : AX} {Γ : Gam} {S : Store} {Q : DQ} {E : AEnds} {elt iter tg iter1 tg1 a b c e : Expr} {es : List Expr} {rest : List Stmt} {pos p1 : Pos} {scope : Scope} {own : List (Str × Nat)} {α β : Type} {as : List α} {enc f : α → D} {p : α → Bool} {x y z : D} {n : Str}
/-- [f(x) for x in as], one name, slot j -/
theorem zmap (j : Nat) (nd : X.N.Nodup) (h : ZIV X (.Name n p1) iter Γ S (as.map enc)) (he : ∀ (i : Nat) x, as[i]? = some x → InB X scope fun Y => ZV Y elt ((wipeG Γ [j]).set j (some (enc x))) S (f x)) (hl : as.length ≤ 16777216) (hn : X.N[j]? = some n := by rfl) (ok : blkB X.N X.env.scope scope [(n, j)] = true := by kernel_rfl)
    (hx : ∀ s H C cl fp, Loc (Bk X scope s H C cl fp).env.scope n := by intros; exact .inl rfl) (hf : ∀ s H C cl fp, (Bk X scope s H C cl fp).fn n = true ∨ (Bk X scope s H C cl fp).env.scope.names.lookup n = some .local := by intros; exact .inr rfl)
    (hs : ∀ x, foldedSetIterable iter X.env x = pure x := by intro _; rfl) : ZV X (.ListComp elt [⟨.Name n p1, iter, [], 0⟩] scope pos) Γ S (.lst (as.map f)) :=
  zv_map (own := [(n, j)]) (blk_of ok) (ct_name nd (by simp) hn hx hf) h (fun i x q => ⟨_, rfl, he i x q⟩) hl hs
/-- [f(x) for x in as if p(x)] -/
theorem zflt (j : Nat) (nd : X.N.Nodup) (h : ZIV X (.Name n p1) iter Γ S (as.map enc)) (hp : ∀ (i : Nat) x, as[i]? = some x → InB X scope fun Y => ZB Y c ((wipeG Γ [j]).set j (some (enc x))) S (p x)) (he : ∀ (i : Nat) x, as[i]? = some x → p x = true → InB X scope fun Y => ZV Y elt ((wipeG Γ [j]).set j (some (enc x))) S (f x)) (hl : as.length ≤ 16777216)
    (hn : X.N[j]? = some n := by rfl) (ok : blkB X.N X.env.scope scope [(n, j)] = true := by kernel_rfl)
    (hx : ∀ s H C cl fp, Loc (Bk X scope s H C cl fp).env.scope n := by intros; exact .inl rfl) (hf : ∀ s H C cl fp, (Bk X scope s H C cl fp).fn n = true ∨ (Bk X scope s H C cl fp).env.scope.names.lookup n = some .local := by intros; exact .inr rfl)
    (hs : ∀ x, foldedSetIterable iter X.env x = pure x := by intro _; rfl) : ZV X (.ListComp elt [⟨.Name n p1, iter, [c], 0⟩] scope pos) Γ S (.lst ((as.filter p).map f)) :=
  zv_flt (own := [(n, j)]) (blk_of ok) (ct_name nd (by simp) hn hx hf) h (fun i x q => ⟨_, rfl, hp i x q, he i x q⟩) hl hs
/-- items drawn one by one -/
theorem zall (j : Nat) (nd : X.N.Nodup) {P : α → D → Prop} (h : ZI X Ex (.Name n p1) iter Γ S fun ds S1 => ds = as.map enc ∧ S1 = S) (he : ∀ (i : Nat) x, as[i]? = some x → InB X scope fun Y => ZE Y AX0 elt ((wipeG Γ [j]).set j (some (enc x))) S fun y S2 => S2 = S ∧ P x y) (hl : as.length ≤ 16777216) (q : ∀ ys, All2 P as ys → Q (.lst ys) S)
    (hn : X.N[j]? = some n := by rfl) (ok : blkB X.N X.env.scope scope [(n, j)] = true := by kernel_rfl)
    (hx : ∀ s H C cl fp, Loc (Bk X scope s H C cl fp).env.scope n := by intros; exact .inl rfl) (hf : ∀ s H C cl fp, (Bk X scope s H C cl fp).fn n = true ∨ (Bk X scope s H C cl fp).env.scope.names.lookup n = some .local := by intros; exact .inr rfl)
    (hs : ∀ x, foldedSetIterable iter X.env x = pure x := by intro _; rfl) : ZE X Ex (.ListComp elt [⟨.Name n p1, iter, [], 0⟩] scope pos) Γ S Q :=
  ze_lc (own := [(n, j)]) (blk_of ok) (ct_name nd (by simp) hn hx hf) (fun F σ H co R' k => h F σ H co R' fun J H1 S1 items t hc wk ⟨e1, e2⟩ => by
    subst e1 e2
    exact k J H1 _ _ t hc wk (ask_all (fun i x q => ⟨_, rfl, he i x q⟩) hl q)) hs
/-! ### chains of and, or as values -/
theorem zv_and {t u : Bool} (h : ZV X a Γ S (.bl t)) (h2 : t = true → ZV X b Γ S (.bl u)) : ZV X (.BoolOp .And [a, b] pos) Γ S (.bl (t && u)) := fun Ex Q q => ze_and (h.ze ⟨t, rfl, by
  cases t with
  | true => exact ze_one ((h2 rfl).ze q)
  | false => exact q⟩)
theorem zv_or {t u : Bool} (h : ZV X a Γ S (.bl t)) (h2 : t = false → ZV X b Γ S (.bl u)) : ZV X (.BoolOp .Or [a, b] pos) Γ S (.bl (t || u)) := fun Ex Q q => ze_or (h.ze ⟨t, rfl, by
  cases t with
  | false => exact ze_one ((h2 rfl).ze q)
  | true => exact q⟩)
theorem zv_not {t : Bool} (h : ZV X a Γ S (.bl t)) : ZV X (.UnaryOp .Not a pos) Γ S (.bl (!t)) := fun Ex Q q => ze_not (h.ze ⟨t, rfl, q⟩)
/-- i <= j <= k -/
theorem zv_chainLe {i j k : Int} (ha : ZV X a Γ S (.int i)) (hb : ZV X b Γ S (.int j)) (hc : ZV X c Γ S (.int k)) (h2 : lastMarks [.LtE, .LtE] [b, c] = false := by rfl) : ZV X (.Compare a [.LtE, .LtE] [b, c] pos) Γ S (.bl (decide (i ≤ j) && decide (j ≤ k))) := fun Ex Q q =>
  ze_chain op_le op_le (ha.ze (hb.ze ⟨decide (i ≤ j), g_I0 fun _ => .bl, by
    by_cases h : i ≤ j
    · rw [decide_eq_true h] at q ⊢
      rw [if_pos rfl]
      exact hc.ze ⟨.bl (decide (j ≤ k)), g_I0 fun _ => .bl, q⟩
    · rw [decide_eq_false h] at q ⊢
      rw [if_neg (by decide)]
      exact q⟩)) h2
end
end Fz
end

section
namespace Fz
open PySem PySem.Spec PyProof.Rows L2 PySem.W
theorem cut_to {α : Type} {xs : List α} {i : Int} (h : 0 ≤ i) : cut xs none (some i) = xs.take i.toNat := by
  unfold cut HT.sIx
  simp only [List.drop_zero, Nat.sub_zero]
  rw [if_neg (by omega)]
  by_cases c : i.toNat ≤ xs.length
  · rw [Nat.min_eq_left c]
  · rw [Nat.min_eq_right (by omega), List.take_of_length_le (Nat.le_refl _), List.take_of_length_le (by omega)]
theorem cut_from {α : Type} {xs : List α} {i : Int} (h : 0 ≤ i) : cut xs (some i) none = xs.drop i.toNat := by
  unfold cut
  have e : HT.sIx xs.length 0 (some i) = min i.toNat xs.length := if_neg (by omega)
  rw [e, show HT.sIx xs.length xs.length none = xs.length from rfl]
  by_cases c : i.toNat ≤ xs.length
  · rw [Nat.min_eq_left c, List.take_of_length_le (by rw [List.length_drop]; exact Nat.le_refl _)]
  · rw [Nat.min_eq_right (by omega), Nat.sub_self, List.take_zero, List.drop_of_length_le (by omega)]
theorem join_nil : ∀ ys : List (List Nat), joinL [] ys = ys.flatten
  | [] => rfl
  | [y] => by simp [TL.joinL]
  | y :: z :: r => by
    have := join_nil (z :: r)
    simp only [joinL, TL.joinL] at *
    rw [this]; simp
theorem flat_one : ∀ x : List Nat, (x.map fun c => [c]).flatten = x
  | [] => rfl
  | c :: x => by rw [List.map_cons, List.flatten_cons, flat_one x]; rfl
theorem sum_flat (x : List (List Nat)) : (x.map List.length).sum = x.flatten.length := (List.length_flatten ..).symm
section
variable {X : Cx} {Ex : AX} {Γ : Gam} {S : Store} {Q : DQ} {E : AEnds} {a b c e o : Expr} {es : List Expr} {rest : List Stmt} {pos p apos : Pos} {d x y z : D} {n : Str} {k j m : Nat} {asp : ASk} {ds : List D} {f C : Str} {Q2 : Bool → Store → Prop}
/-- a def that tells one value and changes nothing -/
abbrev Tells (asp : ASk) (ds : List D) (S : Store) (d : D) : Prop := ∀ (Q : DQ) (Ex : AX), Q d S → asp ds [] S Q Ex
theorem zv_call (ac : AC X.prog X.w X.K X.mg X.base k n m [] asp) (hr : Room j X.A) (hk : k ≤ j) (h : ZL X (e :: es) Γ S ds) (ht : Tells asp ds S d) (hm : ds.length = m := by rfl) (hg : Gl X n := by rfl) (hdb : dbgOk n := by decide)
    (hst : starEach (e :: es) X.env = (false, eval e X.env) :: starEach es X.env := by rfl) (hpl : (backTo pos (starEach es X.env)).any (·.1) = false := by rfl) : ZV X (.Call (.Name n p) (e :: es) [] pos) Γ S d := fun Ex Q q =>
  ze_call ac hr hk (h.za ⟨hm, ht Q Ex q⟩) hg hdb hst hpl
theorem zv_meth0 (am : AM X.prog X.w X.K X.mg X.base k C f 0 [] asp) (hr : Room j X.A) (hk : k ≤ j) {a : Addr} {fs : List (Str × D)} (h : ZV X o Γ S (.obj a C fs)) (hf : fs.lookup f = none) (ht : Tells asp [.obj a C fs] S d) {pl : Sem Bool}
    (hh : eval (.Call (.Attribute o f apos) [] [] pos) X.env = (do
      let r ← eval o X.env
      standAt apos.atName
      let (g, self) ← holding [r] (getMethod r f pl)
      callWith pos g self (backTo pos (starEach [] X.env)) (backToKw pos (keywordEach [] X.env))) := by rfl) : ZV X (.Call (.Attribute o f apos) [] [] pos) Γ S d := fun Ex Q q =>
  ze_meth0 am hr hk (h.ze ⟨rfl, hf, ht Q Ex q⟩) hh
theorem zv_lenO (am : AM X.prog X.w X.K X.mg X.base k C "__len__" 0 [] asp) (hr : Room j X.A) (hk : k + 1 ≤ j) (bn : Bn X.mg) {a : Addr} {fs : List (Str × D)} {i : Nat} (h : ZV X e Γ S (.obj a C fs)) (hi : i < 2 ^ 60) (ht : Tells asp [.obj a C fs] S (.int i)) (hg : Gl X "len" := by rfl) (hs : s1 X e := by rfl) : ZV X (.Call (.Name "len" p) [e] [] pos) Γ S (.int i) := fun Ex Q q =>
  ze_lenO am hr hk bn (h.ze ⟨rfl, ht _ Ex ⟨i, rfl, hi, q⟩⟩) hg hs
theorem zv_strO (am : AM X.prog X.w X.K X.mg X.base k C "__str__" 0 [] asp) (hr : Room j X.A) (hk : k + 2 ≤ j) (bn : Bn X.mg) {a : Addr} {fs : List (Str × D)} {z : List Nat} (h : ZV X e Γ S (.obj a C fs)) (ht : Tells asp [.obj a C fs] S (.str z)) (hg : Gl X "str" := by rfl) (hs : s1 X e := by rfl) : ZV X (.Call (.Name "str" p) [e] [] pos) Γ S (.str z) := fun Ex Q q =>
  ze_strO am hr hk bn (h.ze ⟨rfl, ht _ Ex ⟨z, rfl, q⟩⟩) hg hs
theorem zv_eqO (am : AM X.prog X.w X.K X.mg X.base k C "__eq__" 1 [] asp) (hr : Room j X.A) (hk : k ≤ j) {a' : Addr} {fs : List (Str × D)} {t : Value} {r : Bool} (h : ZV X a Γ S (.obj a' C fs)) (h2 : ZV X b Γ S y) (ty : TyD X.K S y t) (nf : notFirst X.K (He.ga X.K C) t = true) (ht : Tells asp [.obj a' C fs, y] S (.bl r)) (hm : behindInMarks .Eq b = false := by rfl) : ZV X (.Compare a [.Eq] [b] pos) Γ S (.bl r) := fun Ex Q q =>
  ze_eqO am hr hk (h.ze ⟨rfl, h2.ze ⟨rfl, t, ty, nf, ht _ Ex ⟨r, rfl, q⟩⟩⟩) hm
theorem zb_eqO (am : AM X.prog X.w X.K X.mg X.base k C "__eq__" 1 [] asp) (hr : Room j X.A) (hk : k ≤ j) {a' : Addr} {fs : List (Str × D)} {t : Value} {r : Bool} (h : ZV X a Γ S (.obj a' C fs)) (h2 : ZV X b Γ S y) (ty : TyD X.K S y t) (nf : notFirst X.K (He.ga X.K C) t = true) (ht : Tells asp [.obj a' C fs, y] S (.bl r)) (hm : behindInMarks .Eq b = false := by rfl) : ZB X (.Compare a [.Eq] [b] pos) Γ S r := fun Ex Q q =>
  zt_eqO am hr hk (h.ze ⟨rfl, h2.ze ⟨rfl, t, ty, nf, ht _ Ex ⟨r, rfl, r, rfl, q⟩⟩⟩) hm
theorem zb_neO (am : AM X.prog X.w X.K X.mg X.base k C "__eq__" 1 [] asp) (ne : NeC X.K C) (hr : Room j X.A) (hk : k + 1 ≤ j) {a' : Addr} {fs : List (Str × D)} {t : Value} {r : Bool} (h : ZV X a Γ S (.obj a' C fs)) (h2 : ZV X b Γ S y) (ty : TyD X.K S y t) (nf : notFirst X.K (He.ga X.K C) t = true) (ht : Tells asp [.obj a' C fs, y] S (.bl r)) (hm : behindInMarks .NotEq b = false := by rfl) : ZB X (.Compare a [.NotEq] [b] pos) Γ S (!r) := fun Ex Q q =>
  zt_neO am ne hr hk (h.ze ⟨rfl, h2.ze ⟨rfl, t, ty, nf, ht _ Ex ⟨r, rfl, !r, rfl, q⟩⟩⟩) hm
theorem zb_lenO (am : AM X.prog X.w X.K X.mg X.base k C "__len__" 0 [] asp) (nb : findIn X.K (.ref (He.ga X.K C)) "__bool__" = some none) (hr : Room j X.A) (hk : k + 1 ≤ j) {a' : Addr} {fs : List (Str × D)} {i : Nat} (h : ZV X e Γ S (.obj a' C fs)) (hi : i < 2 ^ 60) (ht : Tells asp [.obj a' C fs] S (.int i)) (he : ∀ whole, isTrue e X.env whole = (do let v ← whole; standAt e.pos; holding [v] (truthy v)) := by intro _; rfl) : ZB X e Γ S (decide (i ≠ 0)) := fun Ex Q q =>
  zt_lenO am nb hr hk (h.ze ⟨rfl, ht _ Ex ⟨i, rfl, hi, q⟩⟩) he
/-- if a: r: nothing is done when the test fails -/
theorem zif0 {t : List Stmt} {tt : Bool} (h : ZB X c Γ S tt) (k : ZS X Ex rest Γ S E) (e : tt = false := by rfl) : ZS X Ex (.If c t [] pos :: rest) Γ S E := by
  subst e
  exact zif h (by rw [if_neg Bool.false_ne_true]; exact zs_nil k)
theorem zb_or3 {t u v : Bool} (h : ZB X a Γ S t) (h2 : t = false → ZB X b Γ S u) (h3 : t = false → u = false → ZB X c Γ S v) : ZB X (.BoolOp .Or [a, b, c] pos) Γ S (t || (u || v)) := fun Ex Q q => (zw_or (h.zt (by
  cases t with
  | true => exact q
  | false => exact zw_or ((h2 rfl).zt (by
      cases u with
      | true => exact q
      | false => exact zw_or1 ((h3 rfl rfl).zt q)))))).zt
theorem zb_or4 {a4 : Expr} {t u v w : Bool} (h : ZB X a Γ S t) (h2 : t = false → ZB X b Γ S u) (h3 : t = false → u = false → ZB X c Γ S v) (h4 : t = false → u = false → v = false → ZB X a4 Γ S w) : ZB X (.BoolOp .Or [a, b, c, a4] pos) Γ S (t || (u || (v || w))) := fun Ex Q q => (zw_or (h.zt (by
  cases t with
  | true => exact q
  | false => exact zw_or ((h2 rfl).zt (by
      cases u with
      | true => exact q
      | false => exact zw_or ((h3 rfl rfl).zt (by
          cases v with
          | true => exact q
          | false => exact zw_or1 ((h4 rfl rfl rfl).zt q)))))))).zt
theorem zb_and3 {t u v : Bool} (h : ZB X a Γ S t) (h2 : t = true → ZB X b Γ S u) (h3 : t = true → u = true → ZB X c Γ S v) : ZB X (.BoolOp .And [a, b, c] pos) Γ S (t && (u && v)) := fun Ex Q q => (zw_and (h.zt (by
  cases t with
  | false => exact q
  | true => exact zw_and ((h2 rfl).zt (by
      cases u with
      | false => exact q
      | true => exact zw_and1 ((h3 rfl rfl).zt q)))))).zt
/-- all(..) of truths -/
theorem ze_allB (ok : X.calm = true) (bn : Bn X.mg) (h : ZE X Ex e Γ S fun d S1 => ∃ ts : List Bool, d = .lst (ts.map .bl) ∧ Q (.bl (ts.all id)) S1) (hg : Gl X "all" := by rfl) (hs : s1 X e := by rfl) : ZE X Ex (.Call (.Name "all" p) [e] [] pos) Γ S Q :=
  ze_callBG (cr_all ok) bn.all boot_all' (za_cons (h.mono fun d S1 ⟨ts, e, q⟩ => za_nil ⟨_, e ▸ g_all (as := ts) (g := id), q⟩) hs) hg (he := hs) (hpl := rfl)
theorem zw_orF (h : ZT X Ex a Γ S fun t S1 => t = false ∧ ZW X Ex (.BoolOp .Or (b :: es) pos) Γ S1 Q2) : ZW X Ex (.BoolOp .Or (a :: b :: es) pos) Γ S Q2 := zw_or (fun F σ H co Q' k => h F σ H co Q' fun t H' S' u hc ⟨e, q⟩ => k t H' S' u hc (by subst e; exact q))
theorem zw_andT (h : ZT X Ex a Γ S fun t S1 => t = true ∧ ZW X Ex (.BoolOp .And (b :: es) pos) Γ S1 Q2) : ZW X Ex (.BoolOp .And (a :: b :: es) pos) Γ S Q2 := zw_and (fun F σ H co Q' k => h F σ H co Q' fun t H' S' u hc ⟨e, q⟩ => k t H' S' u hc (by subst e; exact q))
/-- a test that fails, whatever it does -/
theorem zifF {t : List Stmt} (h : ZT X Ex c Γ S fun t S1 => t = false ∧ ZS X Ex rest Γ S1 E) : ZS X Ex (.If c t [] pos :: rest) Γ S E := zs_cons (z1_if (fun F σ H co Q' k => h F σ H co Q' fun t H' S' u hc ⟨e, q⟩ => k t H' S' u hc (by
  subst e
  exact zs_nil q)))
/-- for, over a state, whatever is walked -/
theorem zforE {α : Type} {tg iter : Expr} {body : List Stmt} (γ : α → Gam) (st : α → Store) (h : ZI X Ex tg iter Γ S fun ds S1 => ∃ (P : Nat → α → Prop) (a0 : α), Wk Γ (γ a0) ∧ S1 = st a0 ∧ P 0 a0 ∧
      (∀ (i : Nat) d a, ds[i]? = some d → P i a → ZG X Ex tg d (γ a) (st a) fun Γ2 S2 => ZS X Ex body Γ2 S2 { E with nx := fun Γ3 S3 => ∃ a', Wk Γ3 (γ a') ∧ S3 = st a' ∧ P (i + 1) a', ct := fun Γ3 S3 => ∃ a', Wk Γ3 (γ a') ∧ S3 = st a' ∧ P (i + 1) a', bk := fun Γ' S' => ZS X Ex rest Γ' S' E }) ∧
      ∀ a, P ds.length a → ZS X Ex rest (γ a) (st a) E) (hs : ∀ x, foldedSetIterable iter X.env x = pure x := by intro _; rfl) : ZS X Ex (.For tg iter body [] pos :: rest) Γ S E :=
  zs_cons (z1_for (fun F σ H c R' k => h F σ H c R' fun J H1 S1 items t hc wk ⟨P, a0, w0, s0, p0, turn, done⟩ => k J H1 S1 items t hc wk ⟨fun i Γ' S' => ∃ a, Wk Γ' (γ a) ∧ S' = st a ∧ P i a, ⟨a0, w0, s0, p0⟩, fun i d Γ' S' hi ⟨a, w, e, p⟩ => by
    subst e
    exact (turn i d a hi p).weak w.weak, fun Γ' S' ⟨a, w, e, p⟩ => by
    subst e
    exact (done a p).weak w.weak⟩) hs)
/-- ''.join(texts) -/
theorem zv_cat {cpos : Pos} {u : Nat} {ss : List (List Nat)} (he : ZV X e Γ S y) (hd : y = .lst (ss.map .str) ∨ y = .tup (ss.map .str)) (hz : ss.flatten.length ≤ 16777000)
    (hs : starEach [e] X.env = [(false, eval e X.env)] := by rfl) (hbase : attributeBase (.Constant (.str (PySem.Str.ofString "")) u cpos) "join" X.env (eval (.Constant (.str (PySem.Str.ofString "")) u cpos) X.env) = eval (.Constant (.str (PySem.Str.ofString "")) u cpos) X.env := by rfl) (hline : (apos.endLine == pos.line) = true := by rfl) : ZV X (.Call (.Attribute (.Constant (.str (PySem.Str.ofString "")) u cpos) "join" apos) [e] [] pos) Γ S (.str ss.flatten) := by
  have := zv_join (ss := ss) (zv_str (X := X) (Γ := Γ) (S := S) (s := "") (j := u) (pos := cpos)) he ⟨hd, by rw [sum_flat, show codes "" = [] from rfl]; simpa using hz⟩ hs hbase hline
  rw [show codes "" = [] from rfl, join_nil] at this
  exact this
/-- .. of signs -/
theorem zv_catC {cpos : Pos} {u : Nat} {cs : List Nat} (he : ZV X e Γ S (.lst (cs.map fun c => .str [c]))) (hz : cs.length ≤ 16777000)
    (hs : starEach [e] X.env = [(false, eval e X.env)] := by rfl) (hbase : attributeBase (.Constant (.str (PySem.Str.ofString "")) u cpos) "join" X.env (eval (.Constant (.str (PySem.Str.ofString "")) u cpos) X.env) = eval (.Constant (.str (PySem.Str.ofString "")) u cpos) X.env := by rfl) (hline : (apos.endLine == pos.line) = true := by rfl) : ZV X (.Call (.Attribute (.Constant (.str (PySem.Str.ofString "")) u cpos) "join" apos) [e] [] pos) Γ S (.str cs) := by
  have := zv_cat (ss := cs.map fun c => [c]) (u := u) (cpos := cpos) he (.inl (by rw [List.map_map]; rfl)) (by rw [flat_one]; exact hz) hs hbase hline
  rw [flat_one] at this
  exact this
end
end Fz
end

section
namespace Fz
open PySem PySem.Spec PyProof.Rows L2 PySem.W
def spDraw : ASp := fun ds S Q Ex => ∃ (p : Addr) (i : Nat) (w : Int), ds = [.ref p, .int w] ∧ S[i]? = some (p, Cell.bag) ∧ 1 ≤ w ∧ w < 1073741824 ∧ ∀ r : Int, 0 ≤ r → r < w → Q (.int r) S
def spBag : ASp := fun ds S Q Ex => ∃ (ns : List Int) (k : Nat), ds = [.scr ns, .int k] ∧ k < 100 ∧ ns.length < 100 ∧ ∀ p, Q (.ref p) (S ++ [(p, Cell.bag)])
/-! ### what the program's defs tell -/
theorem range_at {n i k : Nat} (h : (List.range n)[i]? = some k) : k < n := by
  obtain ⟨a, b⟩ := List.getElem?_eq_some_iff.mp h
  rw [List.getElem_range] at b
  rw [List.length_range] at a
  omega
theorem range_ix {n i k : Nat} (h : (List.range n)[i]? = some k) : k = i ∧ k < n := by
  obtain ⟨a, b⟩ := List.getElem?_eq_some_iff.mp h
  rw [List.getElem_range] at b
  rw [List.length_range] at a
  omega
theorem ix_str {x : List Nat} {i : Int} {k : Nat} (e : i = (k : Int)) (h : k < x.length) : ixD (.str x) i = some (.str [x.getD k 0]) := by
  show (atI x i).map (fun c => D.str [c]) = _
  rw [atI_lit e (List.getElem?_eq_getElem h), List.getD_eq_getElem?_getD, List.getElem?_eq_getElem h]
  rfl
theorem ix_scr {x : List Int} {i : Int} {k : Nat} (e : i = (k : Int)) (h : k < x.length) : ixD (.scr x) i = some (.int (x.getD k 0)) := by
  show (atI x i).map D.int = _
  rw [atI_lit e (List.getElem?_eq_getElem h), List.getD_eq_getElem?_getD, List.getElem?_eq_getElem h]
  rfl
def LET : List Nat := codes "abcdef"
def upB (x : List Nat) : Bool := (List.range (x.length - 1)).all fun k => decide ([x.getD k 0] < [x.getD (k + 1) 0])
def fusesB (x : List Nat) : Bool := (x.all fun c => decide (c ∈ LET)) && upB x
def spFuses : ASp := fun ds S Q Ex => ∃ x : List Nat, ds = [.str x] ∧ x.length < 100000 ∧ Q (.bl (fusesB x)) S
theorem spl_count (b : List Nat) : ∀ (a : List Nat) (k : Nat) (acc : List Nat), (TL.spl b k acc a).length ≤ a.length + 1
  | [], k, acc => by rw [TL.spl_nil]; simp
  | c :: r, 0, acc => by
    cases e : TL.pre b (c :: r) with
    | true =>
      rw [TL.spl_hit e]
      have := spl_count b r (b.length - 1) []
      simp only [List.length_cons] at *
      omega
    | false =>
      rw [TL.spl_miss e]
      have := spl_count b r 0 (acc ++ [c])
      simp only [List.length_cons] at *
      omega
  | c :: r, k + 1, acc => by
    have e : TL.spl b (k + 1) acc (c :: r) = TL.spl b k acc r := by rw [TL.spl_pass b (k + 1), TL.spl_pass b k]; rfl
    rw [e]
    have := spl_count b r k acc
    simp only [List.length_cons] at *
    omega
theorem split_count (c : Nat) (a : List Nat) : (splitL c a).length ≤ a.length + 1 := spl_count [c] a 0 []
theorem split_len {c : Nat} {a p : List Nat} (h : p ∈ splitL c a) : p.length ≤ a.length := by
  have := len_spl [c] a 0 [] p h
  simpa using this
def itemB (x : List Nat) : Bool := fusesB x && (decide ((1 : Int) ≤ (x.length : Int)) && decide ((x.length : Int) ≤ 2))
def itemsIn (z : List Nat) : Option (List (List Nat)) := if ((decide ((12 : Int) < ((splitL 32 z).length : Int))) || !((splitL 32 z).all itemB)) = true then none else some (splitL 32 z)
def itemsD : Option (List (List Nat)) → D
  | none => .non
  | some its => .tup (its.map .str)
def spItems : ASp := fun ds S Q Ex => ∃ z : List Nat, ds = [.str z] ∧ z.length < 100000 ∧ Q (itemsD (itemsIn z)) S
/-! ### a rule -/
def ruleF (z : List Nat) (its : List (List Nat)) : List (Str × D) := [("text", .str z), ("parts", .tup (its.map .str))]
def spInit : ASp := fun ds S Q Ex => ∃ (p : Addr) (S0 : Store) (z : List Nat) (its : List (List Nat)), ds = [.ref p, .str z] ∧ S = S0 ++ [(p, .ins "Rule" [])] ∧ z.length < 100000 ∧ itemsIn z = some its ∧ Q .non (S0 ++ [(p, .ins "Rule" (ruleF z its))])
def spRule : ASp := fun ds S Q Ex => ∃ (z : List Nat) (its : List (List Nat)), ds = [.str z] ∧ z.length < 100000 ∧ itemsIn z = some its ∧ ∀ p, Q (.obj p "Rule" (ruleF z its)) S
def fusesOf (its : List (List Nat)) : List Nat := uniq ltN its.flatten
/-- an asked rule -/
def spRuleM (f : List Nat → List (List Nat) → D) : ASp := fun ds S Q Ex => ∃ (a : Addr) (z : List Nat) (its : List (List Nat)), ds = [.obj a "Rule" (ruleF z its)] ∧ its.flatten.length < 3000 ∧ its.length < 100000 ∧ Q (f z its) S
def spRuleEq : ASp := fun ds S Q Ex => ∃ (a : Addr) (z : List Nat) (its : List (List Nat)), (∃ b z2 its2, ds = [.obj a "Rule" (ruleF z its), .obj b "Rule" (ruleF z2 its2)] ∧ Q (.bl (decide (z = z2))) S) ∨ ∃ x, ds = [.obj a "Rule" (ruleF z its), .str x] ∧ Q (.bl false) S
/-! ### drawing items -/
def spOne : ASp := fun ds S Q Ex => ∃ (p : Addr) (i : Nat) (x : D) (n : Nat), ds = [.ref p, x] ∧ S[i]? = some (p, Cell.bag) ∧ lenD x = some n ∧ 1 ≤ n ∧ n < 100000 ∧ ∀ k : Nat, k < n → ∃ d, ixD x (k : Int) = some d ∧ Q d S
/-- an item of a rule, of the first w letters -/
def goodI (w : Nat) (x : List Nat) : Prop := (∃ c ∈ LET.take w, x = [c]) ∨ ∃ c ∈ LET.take w, ∃ d ∈ LET.take w, c < d ∧ x = [c, d]
def spLItems : ASp := fun ds S Q Ex => ∃ (p : Addr) (i m w : Nat), ds = [.ref p, .int m, .int w] ∧ S[i]? = some (p, Cell.bag) ∧ 1 ≤ m ∧ m ≤ 100 ∧ 1 ≤ w ∧ w ≤ 6 ∧ ∀ its : List (List Nat), its ≠ [] → its.length ≤ m → (∀ x ∈ its, goodI w x) → Q (.lst (its.map .str)) S
def spLFuses : ASp := fun ds S Q Ex => ∃ its : List (List Nat), (ds = [.lst (its.map .str)] ∨ ds = [.tup (its.map .str)]) ∧ its.flatten.length < 3000 ∧ Q (.str (fusesOf its)) S
theorem app_last {S : Store} {p : Addr} {c : Cell} : (S ++ [(p, c)])[S.length]? = some (p, c) := by simp
theorem app_set {S : Store} {p q : Addr} {c c' : Cell} : (S ++ [(p, c)]).set S.length (q, c') = S ++ [(q, c')] := by simp
theorem app_cut {S : Store} {p : Addr} {c : Cell} : (S ++ [(p, c)]).eraseIdx S.length = S := by
  rw [List.eraseIdx_eq_take_drop_succ]; simp
theorem app_at {S : Store} {i : Nat} {x y : Addr × Cell} (h : S[i]? = some x) : (S ++ [y])[i]? = some x := by
  rw [List.getElem?_append_left (List.getElem?_eq_some_iff.mp h).1]; exact h
theorem ssort2 (a b : Nat) : ssort [[a], [b]] = if a ≤ b then [[a], [b]] else [[b], [a]] := by
  unfold ssort
  by_cases h : a ≤ b
  · have h2 : decide ([a] ≤ [b]) = true := by simp [List.cons_le_cons_iff]; omega
    simp [List.mergeSort, List.MergeSort.Internal.splitInTwo, List.merge, h, h2]
  · have h2 : decide ([a] ≤ [b]) = false := by simp [List.cons_le_cons_iff]; omega
    simp [List.mergeSort, List.MergeSort.Internal.splitInTwo, List.merge, h, h2]

section
variable {X : Cx} {Ex : AX} {Γ : Gam} {S : Store} {Q : DQ} {e1 e2 : Expr} {pos pp : Pos} {i k j : Nat} {p : Addr}
/-- a draw -/
theorem ze_draw {w : Int} (aD : AC X.prog X.w X.K X.mg X.base k "_law_draw" 2 [] (fun ds _ => spDraw ds)) (hr : Room j X.A) (hk : k ≤ j) (hi : S[i]? = some (p, Cell.bag)) (w1 : 1 ≤ w) (w2 : w < 1073741824) (hl : ZL X [e1, e2] Γ S [.ref p, .int w]) (q : ∀ r : Int, 0 ≤ r → r < w → Q (.int r) S) (hg : Gl X "_law_draw" := by rfl)
    (hst : starEach [e1, e2] X.env = (false, eval e1 X.env) :: starEach [e2] X.env := by rfl) (hpl : (backTo pos (starEach [e2] X.env)).any (·.1) = false := by rfl) : ZE X Ex (.Call (.Name "_law_draw" pp) [e1, e2] [] pos) Γ S Q :=
  ze_call aD hr hk (hl.za ⟨rfl, p, i, w, rfl, hi, w1, w2, q⟩) hg (by decide) hst hpl
/-- a letter of a text -/
theorem ze_oneT {z : List Nat} (aO : AC X.prog X.w X.K X.mg X.base k "_law_one" 2 [] (fun ds _ => spOne ds)) (hr : Room j X.A) (hk : k ≤ j) (hi : S[i]? = some (p, Cell.bag)) (w1 : 1 ≤ z.length) (w2 : z.length < 100000) (hl : ZL X [e1, e2] Γ S [.ref p, .str z]) (q : ∀ c ∈ z, Q (.str [c]) S) (hg : Gl X "_law_one" := by rfl)
    (hst : starEach [e1, e2] X.env = (false, eval e1 X.env) :: starEach [e2] X.env := by rfl) (hpl : (backTo pos (starEach [e2] X.env)).any (·.1) = false := by rfl) : ZE X Ex (.Call (.Name "_law_one" pp) [e1, e2] [] pos) Γ S Q :=
  ze_call aO hr hk (hl.za ⟨rfl, p, i, .str z, z.length, rfl, hi, rfl, w1, w2, fun k hk => ⟨.str [z.getD k 0], ix_str rfl hk, q _ (by
    rw [List.getD_eq_getElem?_getD, List.getElem?_eq_getElem hk]
    exact List.getElem_mem ..)⟩⟩) hg (by decide) hst hpl
/-- an item of a list or a tuple -/
theorem ze_oneL {x : D} {ds : List D} (hx : x = .lst ds ∨ x = .tup ds) (aO : AC X.prog X.w X.K X.mg X.base k "_law_one" 2 [] (fun ds _ => spOne ds)) (hr : Room j X.A) (hk : k ≤ j) (hi : S[i]? = some (p, Cell.bag)) (w1 : 1 ≤ ds.length) (w2 : ds.length < 100000) (hl : ZL X [e1, e2] Γ S [.ref p, x]) (q : ∀ c ∈ ds, Q c S) (hg : Gl X "_law_one" := by rfl)
    (hst : starEach [e1, e2] X.env = (false, eval e1 X.env) :: starEach [e2] X.env := by rfl) (hpl : (backTo pos (starEach [e2] X.env)).any (·.1) = false := by rfl) : ZE X Ex (.Call (.Name "_law_one" pp) [e1, e2] [] pos) Γ S Q :=
  ze_call aO hr hk (hl.za ⟨rfl, p, i, x, ds.length, rfl, hi, by rcases hx with e | e <;> rw [e] <;> rfl, w1, w2, fun k hk => ⟨ds[k], by rcases hx with e | e <;> rw [e] <;> exact atI_lit rfl (List.getElem?_eq_getElem hk), q _ (List.getElem_mem hk)⟩⟩) hg (by decide) hst hpl
end
end Fz
end

section
namespace Fz
open PySem PySem.Spec PyProof.Rows L2 PySem.W
/-! ### plain laws about drawn items -/
theorem let_eq : LET = [97, 98, 99, 100, 101, 102] := by decide +kernel
theorem let_mem {w c : Nat} (h : c ∈ LET.take w) : 97 ≤ c ∧ c ≤ 102 := by
  have := List.mem_of_mem_take h
  rw [let_eq] at this
  simp at this
  omega
theorem let_in {c : Nat} (h1 : 97 ≤ c) (h2 : c ≤ 102) : c ∈ LET := by
  rw [let_eq]; simp; omega
structure Good (x : List Nat) : Prop where
  ok : itemB x = true
  ns : 32 ∉ x
  le : x.length ≤ 2
  ge : 1 ≤ x.length
  lt : ∀ c ∈ x, 97 ≤ c ∧ c ≤ 102
theorem good_of {w : Nat} {x : List Nat} (h : goodI w x) : Good x := by
  rcases h with ⟨c, hc, rfl⟩ | ⟨c, hc, d, hd, l, rfl⟩
  · obtain ⟨c1, c2⟩ := let_mem hc
    have := let_in c1 c2
    refine ⟨?_, by simp; omega, by simp, by simp, fun e he => by rw [List.mem_singleton.mp he]; omega⟩
    unfold itemB fusesB upB
    simp [this]
  · obtain ⟨c1, c2⟩ := let_mem hc
    obtain ⟨d1, d2⟩ := let_mem hd
    have h1 := let_in c1 c2
    have h2 := let_in d1 d2
    refine ⟨?_, by simp; omega, by simp, by simp, fun e he => by simp at he; omega⟩
    unfold itemB fusesB upB
    simp [h1, h2, List.range_succ, List.cons_lt_cons_iff, l]
theorem items_join {its : List (List Nat)} (hne : its ≠ []) (hl : its.length ≤ 12) (h : ∀ x ∈ its, Good x) : itemsIn (joinL [32] its) = some its := by
  unfold itemsIn
  rw [split_join hne fun x hx => (h x hx).ns]
  have a : (its.all itemB) = true := List.all_eq_true.mpr fun x hx => (h x hx).ok
  rw [a, if_neg]
  simp; omega
theorem flat_le {its : List (List Nat)} (h : ∀ x ∈ its, Good x) : its.flatten.length ≤ 2 * its.length := by
  induction its with
  | nil => simp
  | cons x r ih =>
    have h1 := (h x List.mem_cons_self).le
    have h2 := ih fun y hy => h y (List.mem_cons_of_mem _ hy)
    rw [List.flatten_cons, List.length_append, List.length_cons]
    omega
theorem joined_le {its : List (List Nat)} (h : ∀ x ∈ its, Good x) : (joinL [32] its).length ≤ 3 * its.length := by
  have h1 := len_join [32] its
  have h2 := flat_le h
  rw [sum_flat, show ([32] : List Nat).length = 1 from rfl] at h1
  omega
theorem mem_join {sep : List Nat} {c : Nat} : ∀ {its : List (List Nat)}, c ∈ joinL sep its → c ∈ sep ∨ ∃ x ∈ its, c ∈ x
  | [], h => by simp [TL.joinL] at h
  | [y], h => by simp [TL.joinL] at h; exact .inr ⟨y, List.mem_singleton.mpr rfl, h⟩
  | y :: z :: r, h => by
    simp only [joinL, TL.joinL, List.mem_append] at h
    rcases h with h | h | h
    · exact .inr ⟨y, List.mem_cons_self, h⟩
    · exact .inl h
    · rcases mem_join (its := z :: r) h with h | ⟨x, hx, h⟩
      · exact .inl h
      · exact .inr ⟨x, List.mem_cons_of_mem _ hx, h⟩
theorem joined_lt {its : List (List Nat)} (h : ∀ x ∈ its, Good x) : ∀ c ∈ joinL [32] its, c < 1114112 := fun c hc => by
  rcases mem_join hc with e | ⟨x, hx, e⟩
  · simp at e; omega
  · have := (h x hx).lt c e; omega
theorem rok_txts {its : List (List Nat)} (hl : its.length ≤ 12) (h : ∀ x ∈ its, Good x) {n : Nat} : ∀ d ∈ its.map D.str, Rok d n 22 := fun d hd => by
  obtain ⟨x, hx, rfl⟩ := List.mem_map.mp hd
  exact rok_str (m := 2) (h x hx).le fun c hc => by have := (h x hx).lt c hc; omega
theorem ok_spoken {its : List (List Nat)} (hl : its.length ≤ 100) (h : ∀ x ∈ its, Good x) : joinOk [32] (.lst (its.map .str)) its := by
  have := flat_le h
  refine ⟨.inl rfl, ?_⟩
  rw [sum_flat, show ([32] : List Nat).length = 1 from rfl]
  omega
theorem small_log (n : Nat) (h : n < 2 ^ 64) : ((n : Nat) : Int).natAbs.log2 < 1920 := by
  rw [Int.natAbs_natCast]
  by_cases e : n = 0
  · rw [e]; decide
  · exact Nat.lt_of_lt_of_le ((Nat.log2_lt e).mpr h) (by decide)
def spRight : ASp := fun ds S Q Ex => ∃ (p : Addr) (i : Nat), ds = [.ref p] ∧ S[i]? = some (p, Cell.bag) ∧ Q (.bl true) S
/-- so many bags a law looks into -/
def rounds (ns : List Int) : Int := if (if (6 : Int) < (ns.length : Int) then (6 : Int) else (ns.length : Int)) > 2 then (if (6 : Int) < (ns.length : Int) then (6 : Int) else (ns.length : Int)) else 2
theorem rounds_le (ns : List Int) : 0 ≤ rounds ns ∧ rounds ns ≤ 6 := by unfold rounds; split <;> split <;> omega
theorem rounds_all (ns : List Int) (f : Nat → Bool) (h : ∀ n, f n = true) (n : Nat) : (List.range n).all f = true := List.all_eq_true.mpr fun k _ => h k
theorem all2_true {α : Type} : ∀ {as : List α} {ys : List D}, All2 (fun _ y => y = .bl true) as ys → ys = (as.map fun _ => true).map .bl
  | _, _, .nil => rfl
  | _, _, .cons h r => by rw [h, all2_true r]; rfl
end Fz
end

section
namespace Fz
open PySem PySem.Spec PyProof.Rows L2 PySem.W
/-! ### truth of data -/
def truD : D → Option Bool
  | .non => some false
  | .bl b => some b
  | .int i => some (i != 0)
  | .str x => some (!x.isEmpty)
  | .tup ds => some (!ds.isEmpty)
  | .lst ds => some (!ds.isEmpty)
  | .scr ns => some (!ns.isEmpty)
  | _ => none
theorem empty_rep {K G} {ds : List D} {vs : List V} (r : RepL K G ds vs) : (!vs.isEmpty) = !ds.isEmpty := by cases r <;> rfl
theorem tru_rep {K : Frag} {F : List Addr} {S : Store} {H : Hp} {d : D} {v : V} {k : Bool} (r : Rep K (vw F S H) d v) (h : truD d = some k) : TruV K v H k := by
  cases r with
  | non => cases h; rfl
  | bl => cases h; rfl
  | int => cases h; rfl
  | str hl =>
    rename_i x
    cases h
    refine ⟨?_, ?_⟩
    · rw [sizeLine_eq]
      show x.toArray.size ≤ _
      simp; omega
    · show _ = (((⟨x.toArray⟩ : Str).cps.size : Int) != 0)
      cases x with
      | nil => rfl
      | cons a l =>
        show true = (((a :: l).toArray.size : Int) != 0)
        have h0 : (a :: l).toArray.size ≠ 0 := by simp
        have : ((a :: l).toArray.size : Int) ≠ 0 := by exact_mod_cast h0
        exact (bne_iff_ne.mpr this).symm
  | tup h1 r1 => cases h; exact .inr (.inl ⟨_, st_H h1, (empty_rep r1).symm⟩)
  | lst h1 r1 => cases h; exact .inl ⟨_, SqL.of (hd_sub _ _ h1), (empty_rep r1).symm⟩
  | scr h1 => cases h; exact .inl ⟨_, sl_H h1, by cases ‹List Int› <;> rfl⟩
  | _ => cases h
section
variable {X : Cx} {Ex : AX} {Γ : Gam} {S : Store} {Q : DQ} {E : AEnds} {a b c e : Expr} {es : List Expr} {pos p : Pos} {d x y : D} {t : Bool}
theorem zv_orT {t : Bool} (h : ZV X a Γ S x) (e : truD x = some t) (h2 : t = false → ZV X b Γ S y) : ZV X (.BoolOp .Or [a, b] pos) Γ S (if t = true then x else y) := fun Ex Q q =>
  ze_of (pe_orT pe_self pe_self) fun F σ H c Q' k => h Ex (fun z S1 => z = x ∧ S1 = S) ⟨rfl, rfl⟩ F σ H c _ fun v H1 z S1 u hc r ⟨e1, e2⟩ => by
    subst e1 e2
    refine ⟨t, tru_rep r e, ?_⟩
    cases t with
    | true => exact k _ _ _ _ u hc r q
    | false => exact ze_one ((h2 rfl).ze q) F σ H1 (c.step u hc) Q' (k.step u)
/-- a value as a test -/
theorem zb_tru (h : ZV X e Γ S x) (ht : truD x = some t) (he : ∀ whole, isTrue e X.env whole = (do let v ← whole; standAt e.pos; holding [v] (truthy v)) := by intro _; rfl) : ZB X e Γ S t := fun Ex Q q =>
  zt_of (pt_truth pe_self he) fun F σ H co Q' kq => h Ex (fun d S' => d = x ∧ S' = S) ⟨rfl, rfl⟩ F σ H co _ fun v H1 d S1 u hc r ⟨e1, e2⟩ => by
    subst e1 e2
    exact ⟨t, tru_rep r ht, kq _ _ _ u hc q⟩
def rTruI (K : PySem.W.Frag) (c : Str) : V → Hp → (Bool → Hp → Prop) → Prop := fun x H Q => ∃ a dx fs, x = .ref a ∧ H a = some (.ins (He.ga K c) dx fs) ∧ Q true H
open PySem.Calls PySem.Builtin in
theorem tru_ins {c : Str} (hb : findIn X.K (.ref (He.ga X.K c)) "__bool__" = some none) (hl : findIn X.K (.ref (He.ga X.K c)) "__len__" = some none) : TruR X (rTruI X.K c) := by
  intro pins s σ H x v Q I rx ⟨a, dx, fs, e, eh, q⟩
  subst e
  cases rx
  obtain ⟨mA, O, _⟩ := ins_get I.hok eh
  obtain ⟨od, J, _⟩ := O.look
  unfold truthy
  refine wpAny_bind (m := callSpecial? (.ref a) (Str.ofString "__bool__")) (wpAny_bind (wpAny_bind (J.type.here ((looks_findIn I.kIn hb).here (wpAny_pure ?_)))))
  refine wpAny_bind (wpAny_bind (J.type.here ((looks_findIn I.kIn hl).here ?_)))
  exact wpAny_pure ⟨H, I, q⟩
/-- an own object without length or truth of its own, as a test -/
theorem zb_ins {c : Str} {p : Addr} {fs : List (Str × D)} (hb : findIn X.K (.ref (He.ga X.K c)) "__bool__" = some none) (hl : findIn X.K (.ref (He.ga X.K c)) "__len__" = some none) (h : ZV X e Γ S (.obj p c fs)) (he : ∀ whole, isTrue e X.env whole = (do let v ← whole; standAt e.pos; holding [v] (truthy v)) := by intro _; rfl) : ZB X e Γ S true := fun Ex Q q =>
  zt_of (pt_truthR pe_self (tru_ins hb hl) he) fun F σ H co Q' kq => h Ex (fun d S' => d = .obj p c fs ∧ S' = S) ⟨rfl, rfl⟩ F σ H co _ fun v H1 d S1 u hc r ⟨e1, e2⟩ => by
    subst e1 e2
    cases r with
    | obj h1 h2 => exact ⟨_, _, _, rfl, hd_sub _ _ h1, kq _ _ _ u hc q⟩
end
/-! ### defaults -/
def pick {α : Type} (p : List Nat) (xs : List α) : List α := p.filterMap fun i => xs[i]?
theorem vals_get : ∀ {xs : List V} {us : List Value} (i : Nat), Vals xs us → (xs[i]? = none ∧ us[i]? = none) ∨ ∃ x u, xs[i]? = some x ∧ us[i]? = some u ∧ RelV x u
  | _, _, i, .nil => .inl ⟨by simp, by simp⟩
  | _, _, 0, .cons h _ => .inr ⟨_, _, by simp, by simp, h⟩
  | _, _, i + 1, .cons _ r => by simpa using vals_get i r
theorem vals_pick {xs : List V} {us : List Value} (r : Vals xs us) : ∀ p : List Nat, Vals (pick p xs) (pick p us)
  | [] => .nil
  | i :: p => by
    have t := vals_pick r p
    unfold pick at t ⊢
    rw [List.filterMap_cons, List.filterMap_cons]
    rcases vals_get i r with ⟨e1, e2⟩ | ⟨x, u, e1, e2, h⟩
    · rw [e1, e2]; exact t
    · rw [e1, e2]; exact .cons h t
theorem repL_at {K G} : ∀ {ds : List D} {vs : List V} (i : Nat), RepL K G ds vs → (ds[i]? = none ∧ vs[i]? = none) ∨ ∃ x u, ds[i]? = some x ∧ vs[i]? = some u ∧ Rep K G x u
  | _, _, i, .nil => .inl ⟨by simp, by simp⟩
  | _, _, 0, .cons h _ => .inr ⟨_, _, by simp, by simp, h⟩
  | _, _, i + 1, .cons _ r => by simpa using repL_at i r
theorem repL_pick {K G} {ds : List D} {vs : List V} (r : RepL K G ds vs) : ∀ p : List Nat, RepL K G (pick p ds) (pick p vs)
  | [] => .nil
  | i :: p => by
    have t := repL_pick r p
    unfold pick at t ⊢
    rw [List.filterMap_cons, List.filterMap_cons]
    rcases repL_at i r with ⟨e1, e2⟩ | ⟨x, u, e1, e2, h⟩
    · rw [e1, e2]; exact t
    · rw [e1, e2]; exact .cons h t
section
variable {K : Frag} {k n : Nat} {f : Addr} {fd : FuncData} {x qual : Str} {params : Arguments} {body : List Stmt} {scope : Scope} {ps ks : List Str} {kws : List (Str × V)} {dvs : List V}
/-- n values, keywords ks, the defaults behind: p tells which come to the parameters -/
theorem bd_pick (F : FunD K x qual params body scope dvs kws f fd) (n : Nat) (ks : List Str) (p : List Nat) (dD : List D) (hd : dvs ≠ []) (rd : ∀ G, RepL K G dD dvs)
    (h : ∀ (T : Addr) (kV doc pm : Value) (an : Option Addr) (cdv ct : Value) (us ws its : List Value), us.length = n → ws.length = ks.length → its.length = dvs.length →
      ∃ k, bindArgs (fnOf x qual params body scope (.ref T) kV doc pm an cdv ct) ⟨us, ks.zip ws⟩ = seqItems? (.ref T) >>= k ∧ k (some its.toArray) = pure (ps.zip (pick p (us ++ ws ++ its)))) : Bd K fd ps n ks (fun ds es => pick p (ds ++ es ++ dD)) := by
  obtain ⟨oc, od, dV, kV, doc, pm, an, cdv, ct, osl, rfl, lk, hcd, hD, hK⟩ := F.ex
  rcases hD with ⟨e, _⟩ | ⟨_, T, o, its, m, rfl, lT, oT, rT⟩
  · exact absurd e hd
  · refine ⟨fun us ws => pick p (us ++ ws ++ its), fun vs zs => pick p (vs ++ zs ++ dvs), fun s us ws X l1 l2 => ?_, fun r r2 _ _ => vals_pick (vals_app (vals_app r r2) rT) p, fun {G ds vs es zs} r r2 _ _ => repL_pick ((r.app r2).app (rd G)) p⟩
    obtain ⟨k, e1, e2⟩ := h T kV doc pm an cdv ct us ws its l1 l2 rT.length.symm
    refine BindsTo.of_looks fun M => ?_
    rw [e1]
    exact looks_items X lT oT (.of_pure e2)
end
end Fz
end

section
namespace Fz
open PySem PySem.Spec PyProof.Rows L2 PySem.W
/-! ### evenings: specs and plain laws -/
abbrev nums (ns : List Int) : List D := ns.map D.int
def spInt : ASp := fun ds S Q Ex => ∃ i : Int, ds = [.int i] ∧ Q (.bl true) S
def spBetween : ASp := fun ds S Q Ex => ∃ i a b : Int, ds = [.int i, .int a, .int b] ∧ Q (.bl (decide (a ≤ i) && decide (i ≤ b))) S
def ascB (ns : List Int) (a b : Int) : Bool := (ns.all fun n => decide (a ≤ n) && decide (n ≤ b)) && (List.range (ns.length - 1)).all fun k => decide (ns.getD k 0 < ns.getD (k + 1) 0)
def spAsc : ASp := fun ds S Q Ex => ∃ (ns : List Int) (a b : Int), ds = [.tup (nums ns), .int a, .int b] ∧ ns.length < 100000 ∧ Q (.bl (ascB ns a b)) S
def textOf (ns : List Int) : List Nat := if ns = [] then codes "none" else joinL [32] (ns.map intS)
def postsOk (ns : List Int) : Prop := ns.length ≤ 100 ∧ ∀ n ∈ ns, n.natAbs < 2 ^ 200
def spTextOf : ASp := fun ds S Q Ex => ∃ ns : List Int, ds = [.tup (nums ns)] ∧ postsOk ns ∧ Q (.str (textOf ns)) S
abbrev E40 : Int := 10000000000000000000000000000000000000000
/-- an evening that may be made -/
structure goodE (x : List Nat) (ns : List Int) : Prop where
  len : x.length < 100000
  fus : fusesB x = true
  asc : ascB ns 0 E40 = true
  most : ns.length ≤ 6
def evF (x : List Nat) (ns : List Int) : List (Str × D) := [("blown", .str x), ("dead", .tup (nums ns))]
def spEInit : ASp := fun ds S Q Ex => ∃ (p : Addr) (S0 : Store) (x : List Nat) (ns : List Int), ds = [.ref p, .str x, .tup (nums ns)] ∧ S = S0 ++ [(p, .ins "Evening" [])] ∧ goodE x ns ∧ Q .non (S0 ++ [(p, .ins "Evening" (evF x ns))])
def spEv : ASp := fun ds S Q Ex => ∃ (x : List Nat) (ns : List Int), ds = [.str x, .tup (nums ns)] ∧ goodE x ns ∧ ∀ p, Q (.obj p "Evening" (evF x ns)) S
def eveS (x : List Nat) (ns : List Int) : List Nat := (if x = [] then codes "nothing" else x) ++ (codes " blown, " ++ (textOf ns ++ codes " dead"))
def spEStr : ASp := fun ds S Q Ex => ∃ (a : Addr) (x : List Nat) (ns : List Int), ds = [.obj a "Evening" (evF x ns)] ∧ x.length < 100000 ∧ postsOk ns ∧ Q (.str (eveS x ns)) S
def spEEq : ASp := fun ds S Q Ex => ∃ (a : Addr) (x : List Nat) (ns : List Int), (∃ b x2 ns2, ds = [.obj a "Evening" (evF x ns), .obj b "Evening" (evF x2 ns2)] ∧ Q (.bl (decide (x = x2) && decide (ns = ns2))) S) ∨ ∃ y, ds = [.obj a "Evening" (evF x ns), .str y] ∧ Q (.bl false) S
def spBlown : ASp := fun ds S Q Ex => ∃ (p : Addr) (i : Nat) (m : Int), ds = [.ref p, .int m] ∧ S[i]? = some (p, Cell.bag) ∧ 0 ≤ m ∧ m < 1000 ∧ ∀ x : List Nat, x.Sublist LET → x.length ≤ m.toNat → Q (.str x) S
abbrev rising (ns : List Int) : Prop := ns.Pairwise (· < ·)
def spDead : ASp := fun ds S Q Ex => ∃ (p : Addr) (i : Nat) (z m : Int), ds = [.ref p, .int z, .int m] ∧ S[i]? = some (p, Cell.bag) ∧ 1 ≤ z ∧ z < 1073741824 ∧ 0 ≤ m ∧ m < 1000 ∧ ∀ ns : List Int, ns.length ≤ m.toNat → (∀ n ∈ ns, 0 ≤ n ∧ n < z) → rising ns → Q (.tup (nums ns)) S
theorem deq_int {a b : Int} : deq (.int a) (.int b) = decide (a = b) := by
  unfold deq
  by_cases h : a = b <;> simp [h]
theorem deqs_ints : ∀ {ns ms : List Int}, deqs (nums ns) (nums ms) = decide (ns = ms)
  | [], [] => by unfold deqs; rfl
  | [], _ :: _ => by unfold deqs; simp
  | _ :: _, [] => by unfold deqs; simp
  | n :: ns, m :: ms => by
    show deqs (.int n :: nums ns) (.int m :: nums ms) = _
    unfold deqs
    rw [deq_int, deqs_ints (ns := ns) (ms := ms)]
    by_cases h : n = m <;> by_cases h2 : ns = ms <;> simp [h, h2]
theorem deq_ints {ns ms : List Int} : deq (.tup (nums ns)) (.tup (nums ms)) = decide (ns = ms) := by
  have := deqs_ints (ns := ns) (ms := ms)
  rw [← this]
  rw [deq]
theorem dats_ints {n : Nat} : ∀ {ns : List Int}, dats (nums ns) n = true
  | [] => by unfold dats; rfl
  | a :: ns => by
    show dats (.int a :: nums ns) n = true
    unfold dats
    rw [dats_ints (ns := ns)]
    unfold dat; rfl
theorem dat_ints {ns : List Int} {n : Nat} : dat (.tup (nums ns)) (n + 1) = true := by
  rw [dat]; exact dats_ints
theorem asc_of {ns : List Int} {a b : Int} (h : rising ns) (h2 : ∀ n ∈ ns, a ≤ n ∧ n ≤ b) : ascB ns a b = true := by
  unfold ascB
  rw [Bool.and_eq_true, List.all_eq_true, List.all_eq_true]
  refine ⟨fun n hn => by simpa using h2 n hn, fun k hk => ?_⟩
  have hk := List.mem_range.mp hk
  have l1 : k < ns.length := by omega
  have l2 : k + 1 < ns.length := by omega
  rw [List.getD_eq_getElem?_getD, List.getD_eq_getElem?_getD, List.getElem?_eq_getElem l1, List.getElem?_eq_getElem l2]
  exact decide_eq_true (List.pairwise_iff_getElem.mp h k (k + 1) l1 l2 (Nat.lt_succ_self k))
theorem up_of {x : List Nat} (h : x.Pairwise (· < ·)) : upB x = true := by
  unfold upB
  rw [List.all_eq_true]
  intro k hk
  have hk := List.mem_range.mp hk
  have l1 : k < x.length := by omega
  have l2 : k + 1 < x.length := by omega
  rw [List.getD_eq_getElem?_getD, List.getD_eq_getElem?_getD, List.getElem?_eq_getElem l1, List.getElem?_eq_getElem l2]
  have := List.pairwise_iff_getElem.mp h k (k + 1) l1 l2 (Nat.lt_succ_self k)
  refine decide_eq_true ?_
  show [x[k]] < [x[k + 1]]
  exact List.Lex.rel this
theorem let_up : LET.Pairwise (· < ·) := by decide +kernel
theorem fuses_sub {x : List Nat} (h : x.Sublist LET) : fusesB x = true := by
  unfold fusesB
  rw [Bool.and_eq_true, List.all_eq_true]
  exact ⟨fun c hc => decide_eq_true (h.subset hc), up_of (let_up.sublist h)⟩
theorem let_len : LET.length = 6 := by decide +kernel
theorem e40_lt : E40 < 2 ^ 200 := by decide
theorem posts_of {ns : List Int} (hl : ns.length ≤ 6) (h : ∀ n ∈ ns, 0 ≤ n ∧ n ≤ E40) : postsOk ns := ⟨by omega, fun n hn => by
  have := h n hn
  have := e40_lt
  omega⟩
theorem asc_in {ns : List Int} {a b : Int} (h : ascB ns a b = true) : ∀ n ∈ ns, a ≤ n ∧ n ≤ b := by
  unfold ascB at h
  rw [Bool.and_eq_true, List.all_eq_true] at h
  exact fun n hn => by simpa using h.1 n hn
theorem goodE.posts {x ns} (g : goodE x ns) : postsOk ns := posts_of g.most (asc_in g.asc)
theorem goodE.of {x ns} (h : x.Sublist LET) (hl : ns.length ≤ 6) (hr : rising ns) (hb : ∀ n ∈ ns, 0 ≤ n ∧ n ≤ E40) : goodE x ns :=
  ⟨by have := h.length_le; rw [let_len] at this; omega, fuses_sub h, asc_of hr hb, hl⟩
theorem sum_bound {B : Nat} : ∀ {l : List (List Nat)}, (∀ x ∈ l, x.length ≤ B) → (l.map List.length).sum ≤ l.length * B
  | [], _ => by simp
  | x :: l, h => by
    have h1 := h x (List.mem_cons_self ..)
    have h2 := sum_bound (l := l) fun y hy => h y (List.mem_cons_of_mem _ hy)
    simp only [List.map_cons, List.sum_cons, List.length_cons, Nat.add_mul]
    omega
theorem post_len {n : Int} (h : n.natAbs < 2 ^ 200) : (intS n).length ≤ 10000 := len_intS (log_small h)
theorem text_len {ns : List Int} (h : postsOk ns) : (textOf ns).length ≤ 1010000 := by
  unfold textOf
  split
  · decide +kernel
  · have h1 := len_join [32] (ns.map intS)
    have h2 := sum_bound (B := 10000) (l := ns.map intS) fun x hx => by
      obtain ⟨n, hn, rfl⟩ := List.mem_map.mp hx
      exact post_len (h.2 n hn)
    have h3 := h.1
    simp only [List.length_map, List.length_cons, List.length_nil] at h1 h2
    have : ns.length * 10000 ≤ 100 * 10000 := Nat.mul_le_mul_right _ h3
    omega
theorem join_posts {ns : List Int} (h : postsOk ns) : joinOk [32] (.lst ((ns.map intS).map .str)) (ns.map intS) := by
  refine ⟨.inl rfl, ?_⟩
  have h2 := sum_bound (B := 10000) (l := ns.map intS) fun x hx => by
    obtain ⟨n, hn, rfl⟩ := List.mem_map.mp hx
    exact post_len (h.2 n hn)
  have h3 := h.1
  simp only [List.length_map, List.length_cons, List.length_nil] at h2 ⊢
  have : ns.length * 10000 ≤ 100 * 10000 := Nat.mul_le_mul_right _ h3
  omega
section
variable {X : Cx} {Ex : AX} {Γ : Gam} {S : Store} {Q : DQ} {a b c e : Expr} {pos : Pos}
theorem zv_and3 {t u v : Bool} (h : ZV X a Γ S (.bl t)) (h2 : t = true → ZV X b Γ S (.bl u)) (h3 : t = true → u = true → ZV X c Γ S (.bl v)) : ZV X (.BoolOp .And [a, b, c] pos) Γ S (.bl (t && (u && v))) := fun Ex Q q => ze_and (h.ze ⟨t, rfl, by
  cases t with
  | false => exact q
  | true => exact ze_and ((h2 rfl).ze ⟨u, rfl, by
      cases u with
      | false => exact q
      | true => exact ze_one ((h3 rfl rfl).ze q)⟩)⟩)
/-- a text or another -/
theorem zv_orS {x y : List Nat} (h : ZV X a Γ S (.str x)) (h2 : ZV X b Γ S (.str y)) : ZV X (.BoolOp .Or [a, b] pos) Γ S (.str (if x = [] then y else x)) := by
  have := zv_orT (pos := pos) (t := !x.isEmpty) h rfl fun _ => h2
  cases x with
  | nil => exact this
  | cons _ _ => exact this
variable {n : Str} {elt iter : Expr} {p p1 apos : Pos} {scope : Scope} {α : Type} {as : List α} {enc f : α → D} {y : D}
theorem zsome (j : Nat) (nd : X.N.Nodup) (h : ZIV X (.Name n p1) iter Γ S (as.map enc)) (hc : ∀ (i : Nat) x, as[i]? = some x → InB X scope fun Y => ZT Y AX0 c ((wipeG Γ [j]).set j (some (enc x))) S fun _ S2 => S2 = S) (he : ∀ (i : Nat) x, as[i]? = some x → InB X scope fun Y => ZV Y elt ((wipeG Γ [j]).set j (some (enc x))) S (f x)) (hl : as.length ≤ 16777216) (q : ∀ bs : List α, bs.Sublist as → Q (.lst (bs.map f)) S)
    (hn : X.N[j]? = some n := by rfl) (ok : blkB X.N X.env.scope scope [(n, j)] = true := by kernel_rfl)
    (hx : ∀ s H C cl fp, Loc (Bk X scope s H C cl fp).env.scope n := by intros; exact .inl rfl) (hf : ∀ s H C cl fp, (Bk X scope s H C cl fp).fn n = true ∨ (Bk X scope s H C cl fp).env.scope.names.lookup n = some .local := by intros; exact .inr rfl)
    (hs : ∀ x, foldedSetIterable iter X.env x = pure x := by intro _; rfl) : ZE X Ex (.ListComp elt [⟨.Name n p1, iter, [c], 0⟩] scope pos) Γ S Q :=
  ze_lc (own := [(n, j)]) (blk_of ok) (ct_name nd (by simp) hn hx hf) (h.zi (ask_some (fun i x q => ⟨_, rfl, hc i x q, he i x q⟩) hl q)) hs
theorem zallE (j : Nat) (nd : X.N.Nodup) {P : α → D → Prop} (h : ZI X Ex (.Name n p1) iter Γ S fun ds S1 => ∃ as : List α, ds = as.map enc ∧ (∀ (i : Nat) x, as[i]? = some x → InB X scope fun Y => ZE Y AX0 elt ((wipeG Γ [j]).set j (some (enc x))) S1 fun y S2 => S2 = S1 ∧ P x y) ∧ as.length ≤ 16777216 ∧ ∀ ys, All2 P as ys → Q (.lst ys) S1)
    (hn : X.N[j]? = some n := by rfl) (ok : blkB X.N X.env.scope scope [(n, j)] = true := by kernel_rfl)
    (hx : ∀ s H C cl fp, Loc (Bk X scope s H C cl fp).env.scope n := by intros; exact .inl rfl) (hf : ∀ s H C cl fp, (Bk X scope s H C cl fp).fn n = true ∨ (Bk X scope s H C cl fp).env.scope.names.lookup n = some .local := by intros; exact .inr rfl)
    (hs : ∀ x, foldedSetIterable iter X.env x = pure x := by intro _; rfl) : ZE X Ex (.ListComp elt [⟨.Name n p1, iter, [], 0⟩] scope pos) Γ S Q :=
  ze_lc (own := [(n, j)]) (blk_of ok) (ct_name nd (by simp) hn hx hf) (fun F σ H co R' k => h F σ H co R' fun J H1 S1 items t hc wk ⟨as, e1, he, hl, q⟩ => by
    subst e1
    exact k J H1 _ _ t hc wk (ask_all (fun i x q => ⟨_, rfl, he i x q⟩) hl q)) hs
theorem ze_catC {cpos : Pos} {u : Nat} (h : ZE X Ex e Γ S fun d S1 => ∃ cs : List Nat, d = .lst (cs.map fun c => .str [c]) ∧ cs.length ≤ 16777000 ∧ Q (.str cs) S1)
    (hs : starEach [e] X.env = [(false, eval e X.env)] := by rfl) (hbase : attributeBase (.Constant (.str (PySem.Str.ofString "")) u cpos) "join" X.env (eval (.Constant (.str (PySem.Str.ofString "")) u cpos) X.env) = eval (.Constant (.str (PySem.Str.ofString "")) u cpos) X.env := by rfl) (hline : (apos.endLine == pos.line) = true := by rfl) : ZE X Ex (.Call (.Attribute (.Constant (.str (PySem.Str.ofString "")) u cpos) "join" apos) [e] [] pos) Γ S Q :=
  ze_join (ZV.ze zv_str ⟨[], rfl, h.mono fun d S1 ⟨cs, e, hl, q⟩ => ⟨cs.map fun c => [c], ⟨.inl (by rw [e, List.map_map]; rfl), by rw [sum_flat, flat_one]; simpa using hl⟩, by rw [join_nil, flat_one]; exact q⟩⟩) hs hbase hline
theorem ze_tupleE (bn : Bn X.mg) (h : ZE X Ex e Γ S fun d S1 => ∃ ds, (d = .lst ds ∨ d = .tup ds) ∧ Q (.tup ds) S1) (hg : Gl X "tuple" := by rfl) (hs : s1 X e := by rfl) : ZE X Ex (.Call (.Name "tuple" p) [e] [] pos) Γ S Q :=
  ze_callTG call_tuple_of bn.tuple boot_tuple' (za_cons (h.mono fun d S1 ⟨ds, e, q⟩ => za_nil ⟨_, g_tuple e, q⟩) hs) hg (he := hs) (hpl := rfl)
end
end Fz
namespace Fz
open PySem PySem.Spec PyProof.Rows L2 PySem.W
section
variable {X : Cx} {Ex : AX} {Γ : Gam} {S : Store} {E : AEnds} {c : Expr} {t rest : List Stmt} {pos : Pos} {α : Type}
/-- if c: t, whose two ways meet again at some state -/
theorem zifJ (γ : α → Gam) (st : α → Store) (P : α → Prop) (h : ZT X Ex c Γ S fun b S1 => if b = true then ZS X Ex t Γ S1 { E with nx := fun Γ' S' => ∃ a, P a ∧ Γ' = γ a ∧ S' = st a } else ∃ a, P a ∧ Γ = γ a ∧ S1 = st a) (k : ∀ a, P a → ZS X Ex rest (γ a) (st a) E) : ZS X Ex (.If c t [] pos :: rest) Γ S E :=
  zs_cons (z1_if (fun F σ H co Q' kq => h F σ H co Q' fun b H' S' u hc q => kq b H' S' u hc (by
    cases b with
    | true => exact fun F σ H co D' kd => q F σ H co D' ⟨fun σ' H' Γ' S' t hc rg ⟨a, pa, e1, e2⟩ => kd.nx σ' H' Γ' S' t hc rg (by subst e1 e2; exact k a pa), kd.rt, kd.bk, kd.ct⟩
    | false =>
      obtain ⟨a, pa, e1, e2⟩ := q
      subst e1 e2
      exact zs_nil (k a pa))))
end
end Fz
namespace Fz
open PySem PySem.Spec PyProof.Rows L2 PySem.W
def signs (x : List Nat) : Prop := ∀ c ∈ x, c < 1114112
theorem signs_of (s : String) : signs (PySem.Str.ofString s).cps.toList := by
  intro c hc
  rw [PySem.Str.ofString_eq_toList] at hc
  simp only [List.mem_map] at hc
  obtain ⟨ch, _, rfl⟩ := hc
  have := ch.valid
  rcases this with h | h
  · exact Nat.lt_trans h (by decide)
  · exact h.2
theorem signs_codes (s : String) : signs (codes s) := signs_of s
theorem signs_int (i : Int) : signs (intS i) := signs_of (toString i)
theorem signs_app {x y : List Nat} (h : signs x) (h2 : signs y) : signs (x ++ y) := fun c hc => (List.mem_append.mp hc).elim (h c) (h2 c)
theorem signs_join {s : List Nat} (hs : signs s) : ∀ {l : List (List Nat)}, (∀ x ∈ l, signs x) → signs (joinL s l)
  | [], _ => fun c hc => by simp [joinL, TL.joinL] at hc
  | [x], h => by
    have := h x (by simp)
    simpa [joinL, TL.joinL] using this
  | x :: y :: l, h => by
    have h1 := h x (by simp)
    have h2 := signs_join hs (l := y :: l) fun z hz => h z (List.mem_cons_of_mem _ hz)
    simp only [joinL, TL.joinL] at *
    first | exact signs_app h1 (signs_app hs h2) | exact signs_app (signs_app h1 hs) h2
theorem text_len6 {ns : List Int} (h : ns.length ≤ 6) (hp : postsOk ns) : (textOf ns).length ≤ 61000 := by
  unfold textOf
  split
  · decide +kernel
  · have h1 := len_join [32] (ns.map intS)
    have h2 := sum_bound (B := 10000) (l := ns.map intS) fun x hx => by
      obtain ⟨n, hn, rfl⟩ := List.mem_map.mp hx
      exact post_len (hp.2 n hn)
    simp only [List.length_map, List.length_cons, List.length_nil] at h1 h2
    have : ns.length * 10000 ≤ 6 * 10000 := Nat.mul_le_mul_right _ h
    omega
theorem signs_text (ns : List Int) : signs (textOf ns) := by
  unfold textOf
  split
  · exact signs_codes _
  · exact signs_join (s := [32]) (fun c hc => by rw [List.mem_singleton.mp hc]; decide) fun x hx => by
      obtain ⟨n, _, rfl⟩ := List.mem_map.mp hx
      exact signs_int n
theorem signs_fus {x : List Nat} (h : x.Sublist LET) : signs x := fun c hc => by
  have : ∀ c ∈ LET, c < 1114112 := by decide +kernel
  exact this c (h.subset hc)
theorem signs_eve {x : List Nat} {ns : List Int} (h : signs x) : signs (eveS x ns) := by
  unfold eveS
  refine signs_app ?_ (signs_app (signs_codes _) (signs_app (signs_text ns) (signs_codes _)))
  split
  · exact signs_codes _
  · exact h
theorem eve_len {x : List Nat} {ns : List Int} (hx : x.length ≤ 6) (h : ns.length ≤ 6) (hp : postsOk ns) : (eveS x ns).length ≤ 62000 := by
  have l1 : (codes "nothing").length ≤ 100 := by decide +kernel
  have l2 : (codes " blown, ").length ≤ 100 := by decide +kernel
  have l3 : (codes " dead").length ≤ 100 := by decide +kernel
  have := text_len6 h hp
  unfold eveS
  simp only [List.length_append]
  split <;> omega
theorem rok_nums {ns : List Int} (h : ns.length ≤ 6) (hp : postsOk ns) : Rok (.tup (nums ns)) 2 20000 :=
  (rok_tup (n := 1) (m := 6) (B := 2000) (by rw [List.length_map]; exact h) fun d hd => by
    obtain ⟨n, hn, rfl⟩ := List.mem_map.mp hd
    exact rok_int (log_small (hp.2 n hn))).up (by decide) (by decide)
theorem rok_eve {x : List Nat} {ns : List Int} (hx : x.Sublist LET) (h : ns.length ≤ 6) (hp : postsOk ns) : Rok (.lst [.str x, .tup (nums ns), .str (eveS x ns)]) 60 16777000 := by
  have l6 : x.length ≤ 6 := by have := hx.length_le; rwa [let_len] at this
  exact (rok_lst (ds := [.str x, .tup (nums ns), .str (eveS x ns)]) (n := 2) (B := 700000) (m := 3) (by show 3 ≤ 3; decide) (rok_cons (rok_str (n := 2) l6 (signs_fus hx)) (rok_cons (rok_nums h hp) (rok_cons (rok_str (n := 2) (eve_len l6 h hp) (signs_eve (signs_fus hx))) rok_nil)))).up (by decide) (by decide)
end Fz
end

section
/-! Cg: computations over data, and what a text of Python computes. -/
namespace Fz
open PySem PySem.Spec PyProof.Rows L2 PySem.W

abbrev EX := Str → List (Str × D) → Prop
/-- a computation: what is wanted of its value, of its error -/
@[reducible] def Cm (α : Type) : Type := (α → Prop) → EX → Prop
namespace Cm
variable {α β γ : Type}
def ok (a : α) : Cm α := fun q _ => q a
def er (c : Str) (fs : List (Str × D)) : Cm α := fun _ e => e c fs
def st : Cm α := fun _ _ => False
def bind (m : Cm α) (f : α → Cm β) : Cm β := fun q e => m (fun a => f a q e) e
def opt : Option α → Cm α
  | some a => ok a
  | none => st
/-- if it holds, go on -/
def asr (p : Prop) (m : Cm α) : Cm α := fun q e => p ∧ m q e
def b1 (f : D → Option D) (a : Cm D) : Cm D := a.bind fun x => opt (f x)
def b2 (f : D → D → Option D) (a b : Cm D) : Cm D := a.bind fun x => b.bind fun y => opt (f x y)
def cnd (c : Cm Bool) (a b : Cm α) : Cm α := c.bind fun t => bif t then a else b
def andC (a b : Cm Bool) : Cm Bool := a.bind fun t => bif t then b else ok false
def orC (a b : Cm Bool) : Cm Bool := a.bind fun t => bif t then ok true else b
def notC (a : Cm Bool) : Cm Bool := a.bind fun t => ok (!t)
/-- a truth as a value, and back -/
def ofB (a : Cm Bool) : Cm D := a.bind fun t => ok (.bl t)
def toB (a : Cm D) : Cm Bool := a.bind fun d => match d with
  | .bl t => ok t
  | _ => st
def nil : Cm (List D) := ok []
def cons (a : Cm D) (b : Cm (List D)) : Cm (List D) := a.bind fun x => b.bind fun xs => ok (x :: xs)
def c0 (f : Cm D) : Cm D := f
def c1 (f : D → Cm D) (a : Cm D) : Cm D := a.bind f
def c2 (f : D → D → Cm D) (a b : Cm D) : Cm D := a.bind fun x => b.bind fun y => f x y
def c3 (f : D → D → D → Cm D) (a b c : Cm D) : Cm D := a.bind fun x => b.bind fun y => c.bind fun z => f x y z
def c4 (f : D → D → D → D → Cm D) (a b c d : Cm D) : Cm D := a.bind fun x => b.bind fun y => c.bind fun z => d.bind fun w => f x y z w
def c5 (f : D → D → D → D → D → Cm D) (a b c d g : Cm D) : Cm D := a.bind fun x => b.bind fun y => c.bind fun z => d.bind fun w => g.bind fun v => f x y z w v
def c6 (f : D → D → D → D → D → D → Cm D) (a b c d g h : Cm D) : Cm D := a.bind fun x => b.bind fun y => c.bind fun z => d.bind fun w => g.bind fun v => h.bind fun u => f x y z w v u
def u0 (f : Cm D) : List D → Cm D | [] => f | _ => st
def u1 (f : D → Cm D) : List D → Cm D | [a] => f a | _ => st
def u2 (f : D → D → Cm D) : List D → Cm D | [a, b] => f a b | _ => st
def u3 (f : D → D → D → Cm D) : List D → Cm D | [a, b, c] => f a b c | _ => st
def u4 (f : D → D → D → D → Cm D) : List D → Cm D | [a, b, c, d] => f a b c d | _ => st
def u5 (f : D → D → D → D → D → Cm D) : List D → Cm D | [a, b, c, d, g] => f a b c d g | _ => st
def u6 (f : D → D → D → D → D → D → Cm D) : List D → Cm D | [a, b, c, d, g, h] => f a b c d g h | _ => st
@[simp] theorem ok_bind (a : α) (f : α → Cm β) : (ok a).bind f = f a := funext fun _ => funext fun _ => propext Iff.rfl
@[simp] theorem er_bind (c fs) (f : α → Cm β) : (er c fs).bind f = er c fs := funext fun _ => funext fun _ => propext Iff.rfl
@[simp] theorem st_bind (f : α → Cm β) : (st).bind f = st := funext fun _ => funext fun _ => propext Iff.rfl
theorem bind_assoc (m : Cm α) (f : α → Cm β) (g : β → Cm γ) : (m.bind f).bind g = m.bind fun a => (f a).bind g := funext fun _ => funext fun _ => propext Iff.rfl
@[simp] theorem opt_some (a : α) : opt (some a) = ok a := funext fun _ => funext fun _ => propext Iff.rfl
@[simp] theorem opt_none : opt (none : Option α) = st := funext fun _ => funext fun _ => propext Iff.rfl
@[simp] theorem asr_true {p : Prop} (h : p) (m : Cm α) : asr p m = m := by
  funext q e
  exact propext ⟨fun z => z.2, fun z => ⟨h, z⟩⟩
@[simp] theorem b1_ok (f) (x : D) : b1 f (ok x) = opt (f x) := funext fun _ => funext fun _ => propext Iff.rfl
@[simp] theorem b2_ok (f) (x y : D) : b2 f (ok x) (ok y) = opt (f x y) := funext fun _ => funext fun _ => propext Iff.rfl
@[simp] theorem cnd_ok (t) (a b : Cm α) : cnd (ok t) a b = bif t then a else b := funext fun _ => funext fun _ => propext Iff.rfl
@[simp] theorem andC_ok (t) (b : Cm Bool) : andC (ok t) b = bif t then b else ok false := funext fun _ => funext fun _ => propext Iff.rfl
@[simp] theorem orC_ok (t) (b : Cm Bool) : orC (ok t) b = bif t then ok true else b := funext fun _ => funext fun _ => propext Iff.rfl
theorem andC_okk (t u : Bool) : andC (ok t) (ok u) = ok (t && u) := by cases t <;> rfl
theorem orC_okk (t u : Bool) : orC (ok t) (ok u) = ok (t || u) := by cases t <;> rfl
@[simp] theorem notC_ok (t) : notC (ok t) = ok (!t) := funext fun _ => funext fun _ => propext Iff.rfl
@[simp] theorem ofB_ok (t) : ofB (ok t) = ok (.bl t) := funext fun _ => funext fun _ => propext Iff.rfl
@[simp] theorem toB_ok (t) : toB (ok (.bl t)) = ok t := funext fun _ => funext fun _ => propext Iff.rfl
@[simp] theorem cons_ok (a : D) (b : List D) : cons (ok a) (ok b) = ok (a :: b) := funext fun _ => funext fun _ => propext Iff.rfl
@[simp] theorem c1_ok (f) (x : D) : c1 f (ok x) = f x := funext fun _ => funext fun _ => propext Iff.rfl
@[simp] theorem c2_ok (f) (x y : D) : c2 f (ok x) (ok y) = f x y := funext fun _ => funext fun _ => propext Iff.rfl
@[simp] theorem c3_ok (f) (x y z : D) : c3 f (ok x) (ok y) (ok z) = f x y z := funext fun _ => funext fun _ => propext Iff.rfl
@[simp] theorem c4_ok (f) (x y z w : D) : c4 f (ok x) (ok y) (ok z) (ok w) = f x y z w := funext fun _ => funext fun _ => propext Iff.rfl
@[simp] theorem c5_ok (f) (x y z w v : D) : c5 f (ok x) (ok y) (ok z) (ok w) (ok v) = f x y z w v := funext fun _ => funext fun _ => propext Iff.rfl
@[simp] theorem c6_ok (f) (x y z w v u : D) : c6 f (ok x) (ok y) (ok z) (ok w) (ok v) (ok u) = f x y z w v u := funext fun _ => funext fun _ => propext Iff.rfl
end Cm

/-! ### judgements: S0 the store at hand, x the frame's own cells behind it -/
def xOf (S0 : Store) (e : EX) : AX := fun c fs S' => ∃ x, S' = S0 ++ x ∧ e c fs
def ZN (X : Cx) (S0 : Store) (ex : Expr) (Γ : Gam) (x : Store) (m : Cm D) : Prop := ∀ (q : D → Prop) (e : EX), m q e → ZE X (xOf S0 e) ex Γ (S0 ++ x) fun d S' => S' = S0 ++ x ∧ q d
def ZQ (X : Cx) (S0 : Store) (ex : Expr) (Γ : Gam) (x : Store) (m : Cm Bool) : Prop := ∀ (q : Bool → Prop) (e : EX), m q e → ZT X (xOf S0 e) ex Γ (S0 ++ x) fun d S' => S' = S0 ++ x ∧ q d
def ZNA (X : Cx) (S0 : Store) (es : List Expr) (Γ : Gam) (x : Store) (m : Cm (List D)) : Prop := ∀ (q : List D → Prop) (e : EX), m q e → ZA X (xOf S0 e) es Γ (S0 ++ x) fun d S' => S' = S0 ++ x ∧ q d
def ZNI (X : Cx) (S0 : Store) (tg iter : Expr) (Γ : Gam) (x : Store) (m : Cm (List D)) : Prop := ∀ (q : List D → Prop) (e : EX), m q e → ZI X (xOf S0 e) tg iter Γ (S0 ++ x) fun d S' => S' = S0 ++ x ∧ q d

section
variable {X : Cx} {S0 x : Store} {Γ : Gam} {a b c o ex tg iter : Expr} {es : List Expr} {pos p p2 apos : Pos} {m ma mb mc : Cm D} {n ma' mb' : Cm Bool} {ms : Cm (List D)} {d : D} {k j : Nat}
theorem zn_st : ZN X S0 ex Γ x .st := fun q e h => h.elim
theorem zq_st : ZQ X S0 ex Γ x .st := fun q e h => h.elim
theorem zni_st : ZNI X S0 tg iter Γ x .st := fun q e h => h.elim
theorem zn_v (h : ZV X ex Γ (S0 ++ x) d) : ZN X S0 ex Γ x (.ok d) := fun q e hq => h.ze ⟨rfl, hq⟩
theorem zn_var (i : Nat) {y : Str} (h : Γ[i]? = some (some d) := by rfl) (hN : X.N[i]? = some y := by rfl) (hv : Vis X.env.scope y := by first | exact Or.inl rfl | exact Or.inr (Or.inl rfl) | exact Or.inr (Or.inr rfl))
    (hd : (y == ("__debug__" : Str)) = false := by decide) (hcd : (y == ("__classdict__" : Str)) = false := by decide) : ZN X S0 (.Name y pos) Γ x (.ok d) := zn_v (zv_var h hN hv hd hcd)
theorem zn_int {i : Int} {j} : ZN X S0 (.Constant (.int i) j pos) Γ x (.ok (.int i)) := zn_v zv_int
theorem zn_bl {i : Bool} {j} : ZN X S0 (.Constant (.bool i) j pos) Γ x (.ok (.bl i)) := zn_v zv_bl
theorem zn_non {j} : ZN X S0 (.Constant .none j pos) Γ x (.ok .non) := zn_v zv_non
theorem zn_str {s : String} {j} (h : (PySem.Str.ofString s).length ≤ 10000 := by decide +kernel) : ZN X S0 (.Constant (.str (PySem.Str.ofString s)) j pos) Γ x (.ok (.str (codes s))) := zn_v (zv_str h)
theorem zn_gint {y : Str} {i : Int} (hm : ∃ t, X.mg y = some (.int i t)) (hg : Gl X y := by rfl) (hd : (y == ("__debug__" : Str)) = false := by decide) : ZN X S0 (.Name y pos) Γ x (.ok (.int i)) := zn_v (zv_gint hg hm hd)
theorem zn_gstr {y : Str} {z : String} (hm : ∃ t, X.mg y = some (.str (PySem.Str.ofString z) t)) (hz : (PySem.Str.ofString z).length ≤ 10000 := by decide +kernel) (hg : Gl X y := by rfl) (hd : (y == ("__debug__" : Str)) = false := by decide) : ZN X S0 (.Name y pos) Γ x (.ok (.str (codes z))) := zn_v (zv_gstr hg hm hz hd)

/-- an operator's whole word -/
def Op2 (X : Cx) (op : Operator) (f : D → D → Option D) : Prop := ∃ r, OpR X (binaryOp op) r ∧ ∀ u v d, f u v = some d → Gives2 X.K r u v d
def Cp2 (X : Cx) (op : CmpOp) (f : D → D → Option Bool) : Prop := ∃ r, OpR X (compareOp op) r ∧ ∀ u v d, f u v = some d → Gives2 X.K r u v (.bl d)
theorem zn_bin {op : Operator} {f : D → D → Option D} (ho : Op2 X op f) (ha : ZN X S0 a Γ x ma) (hb : ZN X S0 b Γ x mb) : ZN X S0 (.BinOp a op b pos) Γ x (.b2 f ma mb) := fun q e h => by
  obtain ⟨r, h1, h2⟩ := ho
  refine ze_opG h1 ((ha _ e h).mono ?_)
  rintro u S1 ⟨rfl, h3⟩
  refine (hb _ e h3).mono ?_
  rintro v S2 ⟨rfl, h4⟩
  cases hf : f u v with
  | none => rw [hf] at h4; exact h4.elim
  | some z => rw [hf] at h4; exact ⟨z, h2 u v z hf, rfl, h4⟩
namespace Cm
def q2 (f : D → D → Option Bool) (a b : Cm D) : Cm Bool := a.bind fun x => b.bind fun y => opt (f x y)
@[simp] theorem q2_ok (f) (x y : D) : q2 f (ok x) (ok y) = opt (f x y) := funext fun _ => funext fun _ => propext Iff.rfl
def q3 (f g : D → D → Option Bool) (a b c : Cm D) : Cm Bool := a.bind fun x => b.bind fun y => (opt (f x y)).bind fun t => bif t then c.bind fun z => opt (g y z) else ok false
theorem q3_ok (f g) (x y z : D) : q3 f g (ok x) (ok y) (ok z) = (opt (f x y)).bind fun t => bif t then opt (g y z) else ok false := funext fun _ => funext fun _ => propext Iff.rfl
end Cm
theorem zq_cmp {op : CmpOp} {f : D → D → Option Bool} (ho : Cp2 X op f) (ha : ZN X S0 a Γ x ma) (hb : ZN X S0 b Γ x mb) (hm : behindInMarks op b = false := by first | rfl | exact nomark _) : ZQ X S0 (.Compare a [op] [b] pos) Γ x (.q2 f ma mb) := fun q e h => by
  obtain ⟨r, h1, h2⟩ := ho
  refine zt_cmpG h1 hm ((ha _ e h).mono ?_)
  rintro u S1 ⟨rfl, h3⟩
  refine (hb _ e h3).mono ?_
  rintro v S2 ⟨rfl, h4⟩
  cases hf : f u v with
  | none => rw [hf] at h4; exact h4.elim
  | some z => rw [hf] at h4; exact ⟨z, h2 u v z hf, rfl, h4⟩
theorem zn_cmp {op : CmpOp} {f : D → D → Option Bool} (ho : Cp2 X op f) (ha : ZN X S0 a Γ x ma) (hb : ZN X S0 b Γ x mb) (hm : behindInMarks op b = false := by first | rfl | exact nomark _) : ZN X S0 (.Compare a [op] [b] pos) Γ x (.ofB (.q2 f ma mb)) := fun q e h => by
  obtain ⟨r, h1, h2⟩ := ho
  refine ze_cmpG h1 hm ((ha _ e h).mono ?_)
  rintro u S1 ⟨rfl, h3⟩
  refine (hb _ e h3).mono ?_
  rintro v S2 ⟨rfl, h4⟩
  cases hf : f u v with
  | none => rw [hf] at h4; exact h4.elim
  | some z => rw [hf] at h4; exact ⟨.bl z, h2 u v z hf, rfl, h4⟩
theorem zn_chain {op op' : CmpOp} {f g : D → D → Option Bool} (ho : Cp2 X op f) (ho' : Cp2 X op' g) (ha : ZN X S0 a Γ x ma) (hb : ZN X S0 b Γ x mb) (hc : ZN X S0 c Γ x mc) (h2 : lastMarks [op, op'] [b, c] = false := by rfl) : ZN X S0 (.Compare a [op, op'] [b, c] pos) Γ x (.ofB (.q3 f g ma mb mc)) := fun q e h => by
  obtain ⟨r, h1, h3⟩ := ho
  obtain ⟨r', h1', h3'⟩ := ho'
  refine ze_chain h1 h1' ((ha _ e h).mono ?_) h2
  rintro u S1 ⟨rfl, k1⟩
  refine (hb _ e k1).mono ?_
  rintro v S2 ⟨rfl, k2⟩
  cases hf : f u v with
  | none => rw [hf] at k2; exact k2.elim
  | some z =>
    rw [hf] at k2
    refine ⟨z, h3 u v z hf, ?_⟩
    cases z with
    | false => exact ⟨rfl, k2⟩
    | true =>
      rw [if_pos rfl]
      refine (hc _ e k2).mono ?_
      rintro w S3 ⟨rfl, k3⟩
      cases hg : g v w with
      | none => rw [hg] at k3; exact k3.elim
      | some t => rw [hg] at k3; exact ⟨.bl t, h3' v w t hg, rfl, k3⟩
/-- a truth as a value is a test -/
theorem zq_n (h : ZN X S0 ex Γ x m) (he : ∀ whole, isTrue ex X.env whole = (do let v ← whole; standAt ex.pos; holding [v] (truthy v)) := by intro _; rfl) : ZQ X S0 ex Γ x (.toB m) := fun q e hq =>
  zt_val ((h _ e hq).mono fun d S1 ⟨e1, h1⟩ => by
    cases d with
    | bl t => exact ⟨t, rfl, e1, h1⟩
    | _ => exact h1.elim) he
theorem zq_ofB (h : ZN X S0 ex Γ x (.ofB n)) (he : ∀ whole, isTrue ex X.env whole = (do let v ← whole; standAt ex.pos; holding [v] (truthy v)) := by intro _; rfl) : ZQ X S0 ex Γ x n := fun q e hq =>
  zt_val ((h (fun d => ∃ t, d = .bl t ∧ q t) e (by
    show n (fun t => ∃ t', (D.bl t) = .bl t' ∧ q t') e
    have : (fun t => ∃ t', (D.bl t) = .bl t' ∧ q t') = q := funext fun t => propext ⟨fun ⟨t', e1, h1⟩ => by cases e1; exact h1, fun h1 => ⟨t, rfl, h1⟩⟩
    rw [this]; exact hq)).mono fun d S1 ⟨e1, t, e2, h1⟩ => ⟨t, e2, e1, h1⟩) he
theorem zq_not (h : ZQ X S0 a Γ x n) : ZQ X S0 (.UnaryOp .Not a pos) Γ x (.notC n) := fun q e hq => zt_not (h _ e hq)
theorem zn_not (h : ZN X S0 a Γ x (.ofB n)) : ZN X S0 (.UnaryOp .Not a pos) Γ x (.ofB (.notC n)) := fun q e hq =>
  ze_not ((h (fun d => ∃ t, d = .bl t ∧ q (.bl (!t))) e (by
    show n (fun t => ∃ t', (D.bl t) = .bl t' ∧ q (.bl (!t'))) e
    have : (fun t => ∃ t', (D.bl t) = .bl t' ∧ q (.bl (!t'))) = fun t => q (.bl (!t)) := funext fun t => propext ⟨fun ⟨t', e1, h1⟩ => by cases e1; exact h1, fun h1 => ⟨t, rfl, h1⟩⟩
    rw [this]; exact hq)).mono fun d S1 ⟨e1, t, e2, h1⟩ => ⟨t, e2, e1, h1⟩)
/-- not, of what is a truth -/
theorem zn_notD (h : ZN X S0 a Γ x m) : ZN X S0 (.UnaryOp .Not a pos) Γ x (.ofB (.notC (.toB m))) := fun q e hq =>
  ze_not ((h _ e hq).mono fun d S1 ⟨e1, h1⟩ => by
    cases d with
    | bl t => exact ⟨t, rfl, e1, h1⟩
    | _ => exact h1.elim)
def ZQW (X : Cx) (S0 : Store) (ex : Expr) (Γ : Gam) (x : Store) (m : Cm Bool) : Prop := ∀ (q : Bool → Prop) (e : EX), m q e → ZW X (xOf S0 e) ex Γ (S0 ++ x) fun d S' => S' = S0 ++ x ∧ q d
theorem zqw_and1 (h : ZQ X S0 a Γ x n) : ZQW X S0 (.BoolOp .And [a] pos) Γ x n := fun q e hq => zw_and1 (h q e hq)
theorem zqw_or1 (h : ZQ X S0 a Γ x n) : ZQW X S0 (.BoolOp .Or [a] pos) Γ x n := fun q e hq => zw_or1 (h q e hq)
theorem ZT.mono {Ex : AX} {e : Expr} {S : Store} {Q Q1 : Bool → Store → Prop} (h : ZT X Ex e Γ S Q) (m : ∀ d S', Q d S' → Q1 d S') : ZT X Ex e Γ S Q1 := fun F σ H c Q' q => h F σ H c Q' fun v H' S' t hc z => q v H' S' t hc (m v S' z)
theorem zqw_and (h : ZQ X S0 a Γ x ma') (h2 : ZQW X S0 (.BoolOp .And (b :: es) pos) Γ x mb') : ZQW X S0 (.BoolOp .And (a :: b :: es) pos) Γ x (.andC ma' mb') := fun q e hq => zw_and ((h _ e hq).mono fun t S1 ⟨e1, h1⟩ => by
  subst e1
  cases t with
  | true => exact h2 q e h1
  | false => exact ⟨rfl, h1⟩)
theorem zqw_or (h : ZQ X S0 a Γ x ma') (h2 : ZQW X S0 (.BoolOp .Or (b :: es) pos) Γ x mb') : ZQW X S0 (.BoolOp .Or (a :: b :: es) pos) Γ x (.orC ma' mb') := fun q e hq => zw_or ((h _ e hq).mono fun t S1 ⟨e1, h1⟩ => by
  subst e1
  cases t with
  | false => exact h2 q e h1
  | true => exact ⟨rfl, h1⟩)
theorem ZQW.q (h : ZQW X S0 ex Γ x n) : ZQ X S0 ex Γ x n := fun q e hq => (h q e hq).zt
/-- and, or of truths, as values -/
theorem zn_one {op} (h : ZN X S0 a Γ x m) : ZN X S0 (.BoolOp op [a] pos) Γ x m := fun q e hq => ze_one (h q e hq)
namespace Cm
def andV (a b : Cm D) : Cm D := a.bind fun d => match d with
  | .bl t => bif t then b else ok (.bl false)
  | _ => st
def orV (a b : Cm D) : Cm D := a.bind fun d => match d with
  | .bl t => bif t then ok (.bl true) else b
  | _ => st
@[simp] theorem andV_ok (t : Bool) (b : Cm D) : andV (ok (.bl t)) b = bif t then b else ok (.bl false) := funext fun _ => funext fun _ => propext Iff.rfl
@[simp] theorem orV_ok (t : Bool) (b : Cm D) : orV (ok (.bl t)) b = bif t then ok (.bl true) else b := funext fun _ => funext fun _ => propext Iff.rfl
end Cm
theorem zn_and (h : ZN X S0 a Γ x ma) (h2 : ZN X S0 (.BoolOp .And (b :: es) pos) Γ x mb) : ZN X S0 (.BoolOp .And (a :: b :: es) pos) Γ x (.andV ma mb) := fun q e hq => ze_and ((h _ e hq).mono fun d S1 ⟨e1, h1⟩ => by
  subst e1
  cases d with
  | bl t =>
    refine ⟨t, rfl, ?_⟩
    cases t with
    | true => exact h2 q e h1
    | false => exact ⟨rfl, h1⟩
  | _ => exact h1.elim)
theorem zn_or (h : ZN X S0 a Γ x ma) (h2 : ZN X S0 (.BoolOp .Or (b :: es) pos) Γ x mb) : ZN X S0 (.BoolOp .Or (a :: b :: es) pos) Γ x (.orV ma mb) := fun q e hq => ze_or ((h _ e hq).mono fun d S1 ⟨e1, h1⟩ => by
  subst e1
  cases d with
  | bl t =>
    refine ⟨t, rfl, ?_⟩
    cases t with
    | false => exact h2 q e h1
    | true => exact ⟨rfl, h1⟩
  | _ => exact h1.elim)
theorem zn_if (h : ZQ X S0 c Γ x n) (ha : ZN X S0 a Γ x ma) (hb : ZN X S0 b Γ x mb) : ZN X S0 (.IfExp c a b pos) Γ x (.cnd n ma mb) := fun q e hq => ze_if ((h _ e hq).mono fun t S1 ⟨e1, h1⟩ => by
  subst e1
  cases t with
  | true => exact ha q e h1
  | false => exact hb q e h1)
/-! ### arguments, displays -/
theorem zna_nil : ZNA X S0 [] Γ x .nil := fun q e hq => za_nil ⟨rfl, hq⟩
theorem ZA.mono {Ex : AX} {es : List Expr} {S : Store} {Q Q1 : LQ} (h : ZA X Ex es Γ S Q) (m : ∀ d S', Q d S' → Q1 d S') : ZA X Ex es Γ S Q1 := fun F σ H c Q' q => h F σ H c Q' fun v H' d S' t hc r z => q v H' d S' t hc r (m d S' z)
theorem ZI.mono {Ex : AX} {S : Store} {Q Q1 : LQ} (h : ZI X Ex tg iter Γ S Q) (m : ∀ d S', Q d S' → Q1 d S') : ZI X Ex tg iter Γ S Q1 := fun F σ H c Q' q => h F σ H c Q' fun J H1 S1 its t hc r z => q J H1 S1 its t hc r (m its S1 z)
theorem zna_cons (h : ZN X S0 a Γ x m) (h2 : ZNA X S0 es Γ x ms) (hs : starEach (a :: es) X.env = (false, eval a X.env) :: starEach es X.env := by rfl) : ZNA X S0 (a :: es) Γ x (.cons m ms) := fun q e hq => za_cons ((h _ e hq).mono fun d S1 ⟨e1, h1⟩ => by
  subst e1
  exact (h2 _ e h1).mono fun ds S2 ⟨e2, h3⟩ => ⟨e2, h3⟩) hs
namespace Cm
def tupC (a : Cm (List D)) : Cm D := a.bind fun ds => asr (ds.length ≤ 16777216) (ok (.tup ds))
def lstC (a : Cm (List D)) : Cm D := a.bind fun ds => asr (ds.length ≤ 16777216) (ok (.lst ds))
end Cm
theorem zn_tup {x1} (h : ZNA X S0 es Γ x ms) : ZN X S0 (.Tuple es x1 pos) Γ x (.tupC ms) := fun q e hq => ze_tup ((h _ e hq).mono fun ds S1 ⟨e1, h1, h2⟩ => ⟨small h1, e1, h2⟩)
theorem zn_lst (h : ZNA X S0 es Γ x ms) : ZN X S0 (.List es pos) Γ x (.lstC ms) := fun q e hq => ze_lst ((h _ e hq).mono fun ds S1 ⟨e1, h1, h2⟩ => ⟨small h1, e1, h2⟩)
/-! ### calls -/
def aspC (m : List D → Cm D) : ASp := fun ds S Q Ex => m ds (fun d => Q d S) (fun c fs => Ex c fs S)
def aspK (n : Nat) (m : List D → Cm D) : ASk := fun ds es S Q Ex => m (ds ++ es) (fun d => Q d S) (fun c fs => Ex c fs S)
theorem zn_call {f : Str} {l : Nat} {m : List D → Cm D} (C : AC X.prog X.w X.K X.mg X.base k f l [] (fun ds _ => aspC m ds)) (hr : Room j X.A) (hk : k ≤ j) (h : ZNA X S0 (a :: es) Γ x ms) (hl : (a :: es).length = l := by rfl) (hg : Gl X f := by rfl) (hdb : dbgOk f := by decide)
    (he : starEach (a :: es) X.env = (false, eval a X.env) :: starEach es X.env := by rfl) (hpl : (backTo pos (starEach es X.env)).any (·.1) = false := by rfl) : ZN X S0 (.Call (.Name f p) (a :: es) [] pos) Γ x (ms.bind fun ds => Cm.asr (ds.length = l) (m ds)) := fun q e hq =>
  ze_call C hr hk ((h _ e hq).mono fun ds S1 ⟨e1, h1, h2⟩ => by
    subst e1
    refine ⟨h1, ?_⟩
    show m ds _ _
    have : (fun d => S0 ++ x = S0 ++ x ∧ q d) = q := funext fun d => propext ⟨fun z => z.2, fun z => ⟨rfl, z⟩⟩
    have e2 : (fun c fs => xOf S0 e c fs (S0 ++ x)) = e := funext fun c => funext fun fs => propext ⟨fun ⟨_, _, z⟩ => z, fun z => ⟨x, rfl, z⟩⟩
    rw [this, e2]
    exact h2) hg hdb he hpl
end
end Fz
end

section
namespace Fz
open PySem PySem.Spec PyProof.Rows L2 PySem.W
/-! ### what the operators do to data -/
def addO : D → D → Option D
  | .int i, .int j => some (.int (i + j))
  | .str a, .str b => if a.length + b.length ≤ 16777000 then some (.str (a ++ b)) else none
  | .lst a, .lst b => if a.length + b.length ≤ 16777216 then some (.lst (a ++ b)) else none
  | .tup a, .tup b => if a.length + b.length ≤ 16777216 then some (.tup (a ++ b)) else none
  | _, _ => none
def subO : D → D → Option D
  | .int i, .int j => some (.int (i - j))
  | _, _ => none
def smallI (i : Int) : Bool := decide (-18446744073709551616 < i) && decide (i < 18446744073709551616)
def mulO : D → D → Option D
  | .int i, .int j => if smallI i || smallI j then some (.int (i * j)) else none
  | .lst ds, .int k => if 0 ≤ k ∧ k < 9223372036854775808 ∧ ds.length * k.toNat ≤ 16777216 then some (.lst (List.replicate k.toNat ds).flatten) else none
  | _, _ => none
def fdivO : D → D → Option D
  | .int i, .int j => if 0 < j ∧ j < 1073741824 then some (.int (i / j)) else none
  | _, _ => none
def modO : D → D → Option D
  | .int i, .int j => if 0 < j then some (.int (i % j)) else none
  | _, _ => none
def powO : D → D → Option D
  | .int i, .int j => if 0 ≤ j ∧ j ≤ 1000000 ∧ i.natAbs < 18446744073709551616 then some (.int (i ^ j.toNat)) else none
  | _, _ => none
def ltO : D → D → Option Bool
  | .int i, .int j => some (decide (i < j))
  | .str i, .str j => some (decide (i < j))
  | _, _ => none
def leO : D → D → Option Bool
  | .int i, .int j => some (decide (i ≤ j))
  | .str i, .str j => some (!decide (j < i))
  | _, _ => none
def gtO : D → D → Option Bool
  | .int i, .int j => some (decide (j < i))
  | .str i, .str j => some (decide (j < i))
  | _, _ => none
def geO : D → D → Option Bool
  | .int i, .int j => some (decide (j ≤ i))
  | .str i, .str j => some (!decide (i < j))
  | _, _ => none
def eqO (a b : D) : Option Bool := if dat a 60 && dat b 60 then some (deq a b) else none
def neO (a b : D) : Option Bool := if dat a 60 && dat b 60 then some (!deq a b) else none
def inO : D → D → Option Bool
  | .str x, .str z => match x with
    | [c] => some (decide (c ∈ z))
    | _ => none
  | d, .lst ds => if flatD d && ds.all flatD then some (ind d ds) else none
  | d, .tup ds => if flatD d && ds.all flatD then some (ind d ds) else none
  | _, _ => none
def niO (a b : D) : Option Bool := (inO a b).map (!·)
def ixO : D → D → Option D
  | x, .int i => ixD x i
  | _, _ => none
section
variable {X : Cx}
theorem o_add : Op2 X .Add addO := ⟨_, op_addZ, fun u v d h => by
  cases u <;> cases v <;> first | (cases h; done) | skip
  · cases h; exact g_add rfl True.intro
  · rename_i a b
    have h : (if a.length + b.length ≤ 16777000 then some (D.str (a ++ b)) else none) = some d := h
    split at h
    · cases h; exact g_add rfl (by show _ ≤ _; assumption)
    · cases h
  · rename_i a b
    have h : (if a.length + b.length ≤ 16777216 then some (D.tup (a ++ b)) else none) = some d := h
    split at h
    · cases h; exact g_add rfl (by show _ ≤ _; assumption)
    · cases h
  · rename_i a b
    have h : (if a.length + b.length ≤ 16777216 then some (D.lst (a ++ b)) else none) = some d := h
    split at h
    · cases h; exact g_add rfl (by show _ ≤ _; assumption)
    · cases h⟩
theorem o_sub : Op2 X .Sub subO := ⟨_, op_sub, fun u v d h => by
  cases u <;> cases v <;> first | (cases h; done) | skip
  cases h; exact g_I0 fun _ => .int⟩
theorem o_mul : Op2 X .Mult mulO := ⟨_, op_mulZ, fun u v d h => by
  cases u <;> cases v <;> first | (cases h; done) | skip
  · rename_i i j
    have h : (if (smallI i || smallI j) = true then some (D.int (i * j)) else none) = some d := h
    split at h
    · rename_i c
      cases h
      intro F S H v u Q' hc r1 r2 k
      refine .inl (g_I (C := CMul) (g := fun i j => V.int (i * j)) ?_ (fun _ => .int) F S H v u Q' hc r1 r2 k)
      rcases Bool.or_eq_true_iff.mp c with c | c <;> (unfold smallI at c; simp at c)
      · exact .inl (by omega)
      · exact .inr (by omega)
    · cases h
  · rename_i ds k
    have h : (if 0 ≤ k ∧ k < 9223372036854775808 ∧ ds.length * k.toNat ≤ 16777216 then some (D.lst (List.replicate k.toNat ds).flatten) else none) = some d := h
    split at h
    · rename_i c
      cases h
      intro F S H v u Q' hc r1 r2 q
      exact .inr (g_rep (by omega) F S H v u Q' hc r1 r2 q)
    · cases h⟩
theorem o_fdiv : Op2 X .FloorDiv fdivO := ⟨_, op_fdiv, fun u v d h => by
  cases u <;> cases v <;> first | (cases h; done) | skip
  rename_i i j
  have h : (if 0 < j ∧ j < 1073741824 then some (D.int (i / j)) else none) = some d := h
  split at h
  · rename_i c; cases h; exact g_I c fun _ => .int
  · cases h⟩
theorem o_mod : Op2 X .Mod modO := ⟨_, op_mod, fun u v d h => by
  cases u <;> cases v <;> first | (cases h; done) | skip
  rename_i i j
  have h : (if 0 < j then some (D.int (i % j)) else none) = some d := h
  split at h
  · rename_i c; cases h; exact g_I c fun _ => .int
  · cases h⟩
theorem o_pow : Op2 X .Pow powO := ⟨_, op_pow, fun u v d h => by
  cases u <;> cases v <;> first | (cases h; done) | skip
  rename_i i j
  have h : (if 0 ≤ j ∧ j ≤ 1000000 ∧ i.natAbs < 18446744073709551616 then some (D.int (i ^ j.toNat)) else none) = some d := h
  split at h
  · rename_i c; cases h; exact g_I (C := CPow) ⟨c.1, c.2.1, by have := c.2.2; omega⟩ fun _ => .int
  · cases h⟩
/-! ### comparisons -/
def rOrd (fi : Int → Int → Bool) (fs : List Nat → List Nat → Bool) : R2 := fun x y H Q => (∃ i j, x = .int i ∧ y = .int j ∧ Q (.bl (fi i j)) H) ∨ ∃ i j, x = .str i ∧ y = .str j ∧ Q (.bl (fs i.cps.toList j.cps.toList)) H
theorem g_ord {K} {fi fs} {u v : D} {b : Bool} (h : (∃ i j, u = .int i ∧ v = .int j ∧ b = fi i j) ∨ ∃ i j, u = .str i ∧ v = .str j ∧ b = fs i j) : Gives2 K (rOrd fi fs) u v (.bl b) := fun F S H x y Q' hc r1 r2 k => by
  rcases h with ⟨i, j, rfl, rfl, rfl⟩ | ⟨i, j, rfl, rfl, rfl⟩
  · cases r1; cases r2; exact .inl ⟨i, j, rfl, rfl, k.self hc .bl⟩
  · cases r1; cases r2; exact .inr ⟨_, _, rfl, rfl, k.self hc .bl⟩
theorem o_ord {op : CmpOp} {f : D → D → Option Bool} {fi : Int → Int → Bool} {fs : List Nat → List Nat → Bool} (h1 : OpR X (compareOp op) (rI0 fun i j => .bl (fi i j))) (h2 : OpR X (compareOp op) (fun x y H Q => ∃ i j, x = .str i ∧ y = .str j ∧ Q (.bl (fs i.cps.toList j.cps.toList)) H))
    (hf : ∀ u v b, f u v = some b → (∃ i j, u = .int i ∧ v = .int j ∧ b = fi i j) ∨ ∃ i j, u = .str i ∧ v = .str j ∧ b = fs i j) : Cp2 X op f :=
  ⟨rOrd fi fs, fun pins s σ H x y v u Q I rx ry h => by
    rcases h with ⟨i, j, e1, e2, q⟩ | h
    · exact h1 pins s σ H x y v u Q I rx ry ⟨i, j, e1, e2, q⟩
    · exact h2 pins s σ H x y v u Q I rx ry h, fun u v d h => g_ord (hf u v d h)⟩
theorem o_lt : Cp2 X .Lt ltO := o_ord (fi := fun i j => decide (i < j)) (fs := fun i j => decide (i < j)) op_lt op_lt_str fun u v b h => by
  cases u <;> cases v <;> first | (cases h; done) | skip
  · cases h; exact .inl ⟨_, _, rfl, rfl, rfl⟩
  · cases h; exact .inr ⟨_, _, rfl, rfl, rfl⟩
theorem o_le : Cp2 X .LtE leO := o_ord (fi := fun i j => decide (i ≤ j)) (fs := fun i j => !decide (j < i)) op_le op_le_str fun u v b h => by
  cases u <;> cases v <;> first | (cases h; done) | skip
  · cases h; exact .inl ⟨_, _, rfl, rfl, rfl⟩
  · cases h; exact .inr ⟨_, _, rfl, rfl, rfl⟩
theorem o_gt : Cp2 X .Gt gtO := o_ord (fi := fun i j => decide (j < i)) (fs := fun i j => decide (j < i)) op_gt op_gt_str fun u v b h => by
  cases u <;> cases v <;> first | (cases h; done) | skip
  · cases h; exact .inl ⟨_, _, rfl, rfl, rfl⟩
  · cases h; exact .inr ⟨_, _, rfl, rfl, rfl⟩
theorem o_ge : Cp2 X .GtE geO := o_ord (fi := fun i j => decide (j ≤ i)) (fs := fun i j => !decide (i < j)) op_ge op_ge_str fun u v b h => by
  cases u <;> cases v <;> first | (cases h; done) | skip
  · cases h; exact .inl ⟨_, _, rfl, rfl, rfl⟩
  · cases h; exact .inr ⟨_, _, rfl, rfl, rfl⟩
theorem o_eq {j : Nat} (hr : Room j X.A) : Cp2 X .Eq eqO := ⟨_, op_eqZ hr.units, fun u v b h => by
  unfold eqO at h
  split at h
  · rename_i c; cases h; exact g_eq (Bool.and_eq_true_iff.mp c).1 (Bool.and_eq_true_iff.mp c).2
  · cases h⟩
theorem o_ne {j : Nat} (hr : Room j X.A) : Cp2 X .NotEq neO := ⟨_, op_neZ hr.units, fun u v b h => by
  unfold neO at h
  split at h
  · rename_i c; cases h; exact g_ne (Bool.and_eq_true_iff.mp c).1 (Bool.and_eq_true_iff.mp c).2
  · cases h⟩
def rInU (K : PySem.W.Frag) (neg : Bool) : R2 := fun x y H Q => rInZ K neg x y H Q ∨ rSgn neg x y H Q
theorem OpR.or2 {op : Value → Value → Sem Value} {r s : R2} (h1 : OpR X op r) (h2 : OpR X op s) : OpR X op (fun x y H Q => r x y H Q ∨ s x y H Q) := fun pins s' σ H x y v u Q I rx ry h => h.elim (h1 pins s' σ H x y v u Q I rx ry) (h2 pins s' σ H x y v u Q I rx ry)
theorem inO_cases {u v : D} {b : Bool} (h : inO u v = some b) : (∃ c z, u = .str [c] ∧ v = .str z ∧ b = decide (c ∈ z)) ∨ ∃ ds, (v = .lst ds ∨ v = .tup ds) ∧ flatD u = true ∧ ds.all flatD = true ∧ b = ind u ds := by
  have two : ∀ ds, (if (flatD u && ds.all flatD) = true then some (ind u ds) else none) = some b → flatD u = true ∧ ds.all flatD = true ∧ b = ind u ds := fun ds h => by
    split at h
    · rename_i c; cases h; exact ⟨(Bool.and_eq_true_iff.mp c).1, (Bool.and_eq_true_iff.mp c).2, rfl⟩
    · cases h
  cases v with
  | str z => cases u with
    | str x => match x, h with
      | [c], h => cases h; exact .inl ⟨c, z, rfl, rfl, rfl⟩
    | _ => cases h
  | lst ds => exact .inr ⟨ds, .inl rfl, two ds (by cases u <;> exact h)⟩
  | tup ds => exact .inr ⟨ds, .inr rfl, two ds (by cases u <;> exact h)⟩
  | _ => cases u <;> cases h
theorem o_in : Cp2 X .In inO := ⟨rInU X.K false, OpR.or2 op_inZ op_inSgn, fun u v b h F S H x y Q' hc r1 r2 k => by
  rcases inO_cases h with ⟨c, z, rfl, rfl, rfl⟩ | ⟨ds, e, f1, f2, rfl⟩
  · exact .inr (g_sgn (neg := false) rfl F S H x y Q' hc r1 r2 k)
  · exact .inl (g_in e f1 f2 F S H x y Q' hc r1 r2 k)⟩
theorem o_ni : Cp2 X .NotIn niO := ⟨rInU X.K true, OpR.or2 op_notInZ op_notInSgn, fun u v b h F S H x y Q' hc r1 r2 k => by
  unfold niO at h
  cases h' : inO u v with
  | none => rw [h'] at h; cases h
  | some t =>
    rw [h'] at h
    cases h
    rcases inO_cases h' with ⟨c, z, rfl, rfl, rfl⟩ | ⟨ds, e, f1, f2, rfl⟩
    · exact .inr (g_sgn (neg := true) rfl F S H x y Q' hc r1 r2 k)
    · exact .inl (g_notIn e f1 f2 F S H x y Q' hc r1 r2 k)⟩
end
section
variable {X : Cx} {S0 x : Store} {Γ : Gam} {a b c o ex tg iter : Expr} {es : List Expr} {pos p p2 apos pos' : Pos} {m ma mb mc : Cm D} {n ma' mb' : Cm Bool} {ms : Cm (List D)} {d : D} {k j : Nat} {f : Str}
/-! ### is None -/
namespace Cm
def isN (a : Cm D) : Cm Bool := a.bind fun d => ok (isNon d)
@[simp] theorem isN_ok (d) : isN (ok d) = ok (isNon d) := funext fun _ => funext fun _ => propext Iff.rfl
end Cm
theorem zn_isN {j} (h : ZN X S0 a Γ x m) : ZN X S0 (.Compare a [.Is] [.Constant .none j pos'] pos) Γ x (.ofB (.isN m)) := fun q e hq =>
  ze_of (pe_cmp (pc_isN pe_self) rfl) fun F σ H c Q' k => h _ e hq F σ H c _ fun v H' d S' t hc r ⟨e1, q1⟩ => by
    rw [isNon_v r]; exact k _ _ _ _ t hc .bl ⟨e1, q1⟩
theorem zn_notN {j} (h : ZN X S0 a Γ x m) : ZN X S0 (.Compare a [.IsNot] [.Constant .none j pos'] pos) Γ x (.ofB (.notC (.isN m))) := fun q e hq =>
  ze_of (pe_cmp (pc_notN pe_self) rfl) fun F σ H c Q' k => h _ e hq F σ H c _ fun v H' d S' t hc r ⟨e1, q1⟩ => by
    rw [isNon_v r]; exact k _ _ _ _ t hc .bl ⟨e1, q1⟩
theorem zq_isN {j} (h : ZN X S0 a Γ x m) : ZQ X S0 (.Compare a [.Is] [.Constant .none j pos'] pos) Γ x (.isN m) := fun q e hq =>
  zt_of (pt_cmp (pc_isN pe_self) rfl) fun F σ H c Q' k => h _ e hq F σ H c _ fun v H' d S' t hc r ⟨e1, q1⟩ =>
    ⟨_, congrArg V.bl (isNon_v r), k _ _ _ t hc ⟨e1, q1⟩⟩
theorem zq_notN {j} (h : ZN X S0 a Γ x m) : ZQ X S0 (.Compare a [.IsNot] [.Constant .none j pos'] pos) Γ x (.notC (.isN m)) := fun q e hq =>
  zt_of (pt_cmp (pc_notN pe_self) rfl) fun F σ H c Q' k => h _ e hq F σ H c _ fun v H' d S' t hc r ⟨e1, q1⟩ =>
    ⟨_, congrArg (fun z => V.bl (!z)) (isNon_v r), k _ _ _ t hc ⟨e1, q1⟩⟩
/-! ### items, slices -/
theorem zn_ix (ha : ZN X S0 a Γ x ma) (hb : ZN X S0 b Γ x mb) (hs : PlainIx b := by exact fun _ _ => rfl) : ZN X S0 (.Subscript a b pos) Γ x (.b2 ixO ma mb) := fun q e h => ze_ix ((ha _ e h).mono fun u S1 ⟨e1, h1⟩ => by
  subst e1
  refine (hb _ e h1).mono ?_
  rintro v S2 ⟨rfl, h4⟩
  cases v with
  | int i =>
    cases hf : ixD u i with
    | none => have h5 : (Cm.opt (ixD u i)) q e := h4; rw [hf] at h5; exact h5.elim
    | some z => have h5 : (Cm.opt (ixD u i)) q e := h4; rw [hf] at h5; exact ⟨i, z, rfl, hf, rfl, h5⟩
  | _ => exact h4.elim) hs
namespace Cm
def intO : D → Option Int
  | .int i => some i
  | _ => none
/-- the bound of a slice -/
def bnd (m : Cm D) (f : Option Int → Cm D) : Cm D := m.bind fun d => match d with
  | .int i => f (some i)
  | _ => st
@[simp] theorem bnd_ok (i : Int) (f) : bnd (ok (.int i)) f = f (some i) := funext fun _ => funext fun _ => propext Iff.rfl
def slTo (a b : Cm D) : Cm D := a.bind fun u => bnd b fun h => opt (sliceD u none h)
def slFrom (a b : Cm D) : Cm D := a.bind fun u => bnd b fun l => opt (sliceD u l none)
def slMid (a b c : Cm D) : Cm D := a.bind fun u => bnd b fun l => bnd c fun h => opt (sliceD u l h)
def slAll (a : Cm D) : Cm D := a.bind fun u => opt (sliceD u none none)
@[simp] theorem slTo_ok (u : D) (i : Int) : slTo (ok u) (ok (.int i)) = opt (sliceD u none (some i)) := funext fun _ => funext fun _ => propext Iff.rfl
@[simp] theorem slFrom_ok (u : D) (i : Int) : slFrom (ok u) (ok (.int i)) = opt (sliceD u (some i) none) := funext fun _ => funext fun _ => propext Iff.rfl
@[simp] theorem slMid_ok (u : D) (i l : Int) : slMid (ok u) (ok (.int i)) (ok (.int l)) = opt (sliceD u (some i) (some l)) := funext fun _ => funext fun _ => propext Iff.rfl
end Cm
theorem zo_bnd {f : Option Int → Cm D} {q : D → Prop} {e : EX} (hb : ZN X S0 b Γ x mb) (h : (Cm.bnd mb f) q e) : ZO X (xOf S0 e) (some b) Γ (S0 ++ x) fun l S' => S' = S0 ++ x ∧ f l q e :=
  (hb _ e h).mono fun d S1 ⟨e1, h1⟩ => by
    cases d with
    | int i => exact ⟨i, rfl, e1, h1⟩
    | _ => exact h1.elim
theorem sl_end {u : D} {l h : Option Int} {q : D → Prop} {e : EX} {S' : Store} (e1 : S' = S0 ++ x) (k : (Cm.opt (sliceD u l h)) q e) : ∃ d, sliceD u l h = some d ∧ S' = S0 ++ x ∧ q d := by
  cases hf : sliceD u l h with
  | none => rw [hf] at k; exact k.elim
  | some z => rw [hf] at k; exact ⟨z, rfl, e1, k⟩
theorem ZO.mono {Ex : AX} {oe : Option Expr} {S : Store} {Q Q1 : Option Int → Store → Prop} (h : ZO X Ex oe Γ S Q) (m : ∀ d S', Q d S' → Q1 d S') : ZO X Ex oe Γ S Q1 := by
  cases oe with
  | none => exact m _ _ h
  | some e => exact ZE.mono h fun d S' ⟨i, e1, z⟩ => ⟨i, e1, m _ _ z⟩
theorem zn_slTo (ha : ZN X S0 a Γ x ma) (hb : ZN X S0 b Γ x mb) : ZN X S0 (.Subscript a (.Slice none (some b) none p2) pos) Γ x (.slTo ma mb) := fun q e h => ze_slice ((ha _ e h).mono fun u S1 ⟨e1, h1⟩ => by
  subst e1
  exact zo_none ((zo_bnd hb h1).mono fun l S2 ⟨e2, h2⟩ => sl_end e2 h2))
theorem zn_slFrom (ha : ZN X S0 a Γ x ma) (hb : ZN X S0 b Γ x mb) : ZN X S0 (.Subscript a (.Slice (some b) none none p2) pos) Γ x (.slFrom ma mb) := fun q e h => ze_slice ((ha _ e h).mono fun u S1 ⟨e1, h1⟩ => by
  subst e1
  exact (zo_bnd hb h1).mono fun l S2 ⟨e2, h2⟩ => zo_none (sl_end e2 h2))
theorem zn_slMid (ha : ZN X S0 a Γ x ma) (hb : ZN X S0 b Γ x mb) (hc : ZN X S0 c Γ x mc) : ZN X S0 (.Subscript a (.Slice (some b) (some c) none p2) pos) Γ x (.slMid ma mb mc) := fun q e h => ze_slice ((ha _ e h).mono fun u S1 ⟨e1, h1⟩ => by
  subst e1
  refine (zo_bnd hb h1).mono fun l S2 ⟨e2, h2⟩ => ?_
  subst e2
  exact (zo_bnd hc h2).mono fun h S3 ⟨e3, h3⟩ => sl_end e3 h3)
theorem zn_slAll (ha : ZN X S0 a Γ x ma) : ZN X S0 (.Subscript a (.Slice none none none p2) pos) Γ x (.slAll ma) := fun q e h => ze_slice ((ha _ e h).mono fun u S1 ⟨e1, h1⟩ => by
  subst e1
  exact zo_none (zo_none (sl_end rfl h1)))
theorem zn_neg (h : ZN X S0 a Γ x m) : ZN X S0 (.UnaryOp .USub a pos) Γ x (.b1 (fun d => match d with | .int i => some (.int (-i)) | _ => none) m) := fun q e hq => ze_neg ((h _ e hq).mono fun u S1 ⟨e1, h1⟩ => by
  cases u with
  | int i => exact ⟨i, rfl, e1, h1⟩
  | _ => exact h1.elim)
/-! ### built-in functions -/
theorem zn_cb1 {id : String} {r : List V → Hp → VK → Prop} {g : D → Option D} (hc : CallR X (.builtin id) r) (hg' : ∀ d z, g d = some z → GivesC X.K r [d] z) (hm : X.mg f = none) (hv : bootBuiltins f = some (.builtin id)) (h : ZN X S0 a Γ x m)
    (hg : Gl X f := by rfl) (hn : f ≠ "__name__" := by decide) (hdb : (f == ("__debug__" : Str)) = false := by decide) (hs : s1 X a := by rfl) : ZN X S0 (.Call (.Name f p) [a] [] pos) Γ x (.b1 g m) := fun q e hq =>
  ze_callBG hc hm hv (za_cons ((h _ e hq).mono fun u S1 ⟨e1, h1⟩ => by
    cases hf : g u with
    | none => have h2 : (Cm.opt (g u)) q e := h1; rw [hf] at h2; exact h2.elim
    | some z => have h2 : (Cm.opt (g u)) q e := h1; rw [hf] at h2; exact za_nil ⟨z, hg' u z hf, e1, h2⟩) hs) hg hn hdb (he := hs) (hpl := rfl)
theorem zn_ct1 {T : String} {r : List V → Hp → VK → Prop} {g : D → Option D} (hc : CallR X (.type T) r) (hg' : ∀ d z, g d = some z → GivesC X.K r [d] z) (hm : X.mg f = none) (hv : bootBuiltins f = some (.type T)) (h : ZN X S0 a Γ x m)
    (hg : Gl X f := by rfl) (hn : f ≠ "__name__" := by decide) (hdb : (f == ("__debug__" : Str)) = false := by decide) (hs : s1 X a := by rfl) : ZN X S0 (.Call (.Name f p) [a] [] pos) Γ x (.b1 g m) := fun q e hq =>
  ze_callTG hc hm hv (za_cons ((h _ e hq).mono fun u S1 ⟨e1, h1⟩ => by
    cases hf : g u with
    | none => have h2 : (Cm.opt (g u)) q e := h1; rw [hf] at h2; exact h2.elim
    | some z => have h2 : (Cm.opt (g u)) q e := h1; rw [hf] at h2; exact za_nil ⟨z, hg' u z hf, e1, h2⟩) hs) hg hn hdb (he := hs) (hpl := rfl)
theorem zn_cb2 {id : String} {r : List V → Hp → VK → Prop} {g : D → D → Option D} (hc : CallR X (.builtin id) r) (hg' : ∀ d u z, g d u = some z → GivesC X.K r [d, u] z) (hm : X.mg f = none) (hv : bootBuiltins f = some (.builtin id)) (h : ZN X S0 a Γ x ma) (h' : ZN X S0 b Γ x mb)
    (hg : Gl X f := by rfl) (hn : f ≠ "__name__" := by decide) (hdb : (f == ("__debug__" : Str)) = false := by decide) (hs : starEach [a, b] X.env = (false, eval a X.env) :: starEach [b] X.env := by rfl) (hs2 : s1 X b := by rfl) (hpl : (backTo pos (starEach [b] X.env)).any (·.1) = false := by rfl) : ZN X S0 (.Call (.Name f p) [a, b] [] pos) Γ x (.b2 g ma mb) := fun q e hq =>
  ze_callBG hc hm hv (za_cons ((h _ e hq).mono fun u S1 ⟨e1, h1⟩ => by
    subst e1
    refine za_cons ((h' _ e h1).mono fun v S2 ⟨e2, h2⟩ => ?_) hs2
    cases hf : g u v with
    | none => have h3 : (Cm.opt (g u v)) q e := h2; rw [hf] at h3; exact h3.elim
    | some z => have h3 : (Cm.opt (g u v)) q e := h2; rw [hf] at h3; exact za_nil ⟨z, hg' u v z hf, e2, h3⟩) hs) hg hn hdb (he := hs) (hpl := hpl)
def lenO (d : D) : Option D := (lenD d).map fun k => .int k
theorem zn_len (bn : Bn X.mg) (h : ZN X S0 a Γ x m) (hg : Gl X "len" := by rfl) (hs : s1 X a := by rfl) : ZN X S0 (.Call (.Name "len" p) [a] [] pos) Γ x (.b1 lenO m) := zn_cb1 call_len (fun d z e => by
  unfold lenO at e
  cases hk : lenD d with
  | none => rw [hk] at e; cases e
  | some k => rw [hk] at e; cases e; exact g_len hk) bn.len PySem.boot_len h hg (hs := hs)
def blsO : List D → Option (List Bool)
  | [] => some []
  | .bl t :: ds => (blsO ds).map (t :: ·)
  | _ => none
theorem blsO_map {α : Type} (as : List α) (g : α → Bool) : blsO (as.map fun z => .bl (g z)) = some (as.map g) := by
  induction as with
  | nil => rfl
  | cons a as ih => rw [List.map_cons, blsO, ih]; rfl
theorem blsO_eq : ∀ {ds : List D} {ts}, blsO ds = some ts → ds = ts.map .bl
  | [], ts, h => by cases h; rfl
  | d :: ds, ts, h => by
    cases d with
    | bl t =>
      rw [blsO] at h
      cases h' : blsO ds with
      | none => rw [h'] at h; cases h
      | some us => rw [h'] at h; cases h; rw [blsO_eq h']; rfl
    | _ => cases h
def intsO : List D → Option (List Int)
  | [] => some []
  | .int t :: ds => (intsO ds).map (t :: ·)
  | _ => none
theorem intsO_map {α : Type} (as : List α) (g : α → Int) : intsO (as.map fun z => .int (g z)) = some (as.map g) := by
  induction as with
  | nil => rfl
  | cons a as ih => rw [List.map_cons, intsO, ih]; rfl
theorem intsO_map' (as : List Int) : intsO (as.map .int) = some as := by
  have := intsO_map as id
  rw [List.map_id] at this
  exact this
theorem intsO_eq : ∀ {ds : List D} {ts}, intsO ds = some ts → ds = ts.map .int
  | [], ts, h => by cases h; rfl
  | d :: ds, ts, h => by
    cases d with
    | int t =>
      rw [intsO] at h
      cases h' : intsO ds with
      | none => rw [h'] at h; cases h
      | some us => rw [h'] at h; cases h; rw [intsO_eq h']; rfl
    | _ => cases h
def strsO : List D → Option (List (List Nat))
  | [] => some []
  | .str t :: ds => (strsO ds).map (t :: ·)
  | _ => none
theorem strsO_map {α : Type} (as : List α) (g : α → List Nat) : strsO (as.map fun z => .str (g z)) = some (as.map g) := by
  induction as with
  | nil => rfl
  | cons a as ih => rw [List.map_cons, strsO, ih]; rfl
theorem strsO_map' (as : List (List Nat)) : strsO (as.map .str) = some as := by
  have := strsO_map as id
  rw [List.map_id] at this
  exact this
theorem strsO_eq : ∀ {ds : List D} {ts}, strsO ds = some ts → ds = ts.map .str
  | [], ts, h => by cases h; rfl
  | d :: ds, ts, h => by
    cases d with
    | str t =>
      rw [strsO] at h
      cases h' : strsO ds with
      | none => rw [h'] at h; cases h
      | some us => rw [h'] at h; cases h; rw [strsO_eq h']; rfl
    | _ => cases h
def allO : D → Option D
  | .lst ds => (blsO ds).map fun ts => .bl (ts.all id)
  | _ => none
def anyO : D → Option D
  | .lst ds => (blsO ds).map fun ts => .bl (ts.any id)
  | _ => none
def sumO : D → Option D
  | .lst ds => (intsO ds).map fun ts => .int ts.sum
  | _ => none
theorem map_bl (ts : List Bool) : (ts.map fun t => D.bl (id t)) = ts.map .bl := rfl
theorem zn_all (ok : X.calm = true) (bn : Bn X.mg) (h : ZN X S0 a Γ x m) (hg : Gl X "all" := by rfl) (hs : s1 X a := by rfl) : ZN X S0 (.Call (.Name "all" p) [a] [] pos) Γ x (.b1 allO m) := zn_cb1 (cr_all ok) (fun d z e => by
  cases d with
  | lst ds =>
    have e : (blsO ds).map (fun ts => D.bl (ts.all id)) = some z := e
    cases hk : blsO ds with
    | none => rw [hk] at e; cases e
    | some ts => rw [hk] at e; cases e; rw [blsO_eq hk]; exact g_all (as := ts) (g := id)
  | _ => cases e) bn.all boot_all' h hg (hs := hs)
theorem zn_any (ok : X.calm = true) (bn : Bn X.mg) (h : ZN X S0 a Γ x m) (hg : Gl X "any" := by rfl) (hs : s1 X a := by rfl) : ZN X S0 (.Call (.Name "any" p) [a] [] pos) Γ x (.b1 anyO m) := zn_cb1 (cr_any ok) (fun d z e => by
  cases d with
  | lst ds =>
    have e : (blsO ds).map (fun ts => D.bl (ts.any id)) = some z := e
    cases hk : blsO ds with
    | none => rw [hk] at e; cases e
    | some ts => rw [hk] at e; cases e; rw [blsO_eq hk]; exact g_any (as := ts) (g := id)
  | _ => cases e) bn.any boot_any' h hg (hs := hs)
theorem zn_sum (ok : X.calm = true) (bn : Bn X.mg) (h : ZN X S0 a Γ x m) (hg : Gl X "sum" := by rfl) (hs : s1 X a := by rfl) : ZN X S0 (.Call (.Name "sum" p) [a] [] pos) Γ x (.b1 sumO m) := zn_cb1 (cr_sum ok) (fun d z e => by
  cases d with
  | lst ds =>
    have e : (intsO ds).map (fun ts => D.int ts.sum) = some z := e
    cases hk : intsO ds with
    | none => rw [hk] at e; cases e
    | some ts =>
      rw [hk] at e; cases e; rw [intsO_eq hk]
      have := g_sum (K := X.K) (as := ts) (g := id)
      rw [List.map_id] at this
      exact this
  | _ => cases e) bn.sum boot_sum' h hg (hs := hs)
def absO : D → Option D
  | .int i => some (.int (if i < 0 then -i else i))
  | _ => none
theorem zn_abs (bn : Bn X.mg) (h : ZN X S0 a Γ x m) (hg : Gl X "abs" := by rfl) (hs : s1 X a := by rfl) : ZN X S0 (.Call (.Name "abs" p) [a] [] pos) Γ x (.b1 absO m) := zn_cb1 call_abs (fun d z e => by
  cases d with
  | int i => cases e; exact fun F S H vs Q' hc r k => by obtain ⟨v, rfl, r9⟩ := rep1 r; cases r9; exact ⟨i, rfl, k.self hc .int⟩
  | _ => cases e) bn.abs boot_abs' h hg (hs := hs)
def toIntO : D → Option D
  | .int i => some (.int i)
  | .bl t => some (.int (if t then 1 else 0))
  | _ => none
theorem zn_toInt (bn : Bn X.mg) (h : ZN X S0 a Γ x m) (hg : Gl X "int" := by rfl) (hs : s1 X a := by rfl) : ZN X S0 (.Call (.Name "int" p) [a] [] pos) Γ x (.b1 toIntO m) := zn_ct1 call_int1 (fun d z e => by
  cases d with
  | int i => cases e; exact fun F S H vs Q' hc r k => by obtain ⟨v, rfl, r9⟩ := rep1 r; cases r9; exact .inl ⟨i, rfl, k.self hc .int⟩
  | bl t => cases e; exact fun F S H vs Q' hc r k => by obtain ⟨v, rfl, r9⟩ := rep1 r; cases r9; exact .inr ⟨t, rfl, k.self hc .int⟩
  | _ => cases e) bn.int boot_int' h hg (hs := hs)
def tupO : D → Option D
  | .lst ds => some (.tup ds)
  | .tup ds => some (.tup ds)
  | _ => none
def lstO : D → Option D
  | .lst ds => some (.lst ds)
  | .tup ds => some (.lst ds)
  | _ => none
theorem zn_tuple (bn : Bn X.mg) (h : ZN X S0 a Γ x m) (hg : Gl X "tuple" := by rfl) (hs : s1 X a := by rfl) : ZN X S0 (.Call (.Name "tuple" p) [a] [] pos) Γ x (.b1 tupO m) := zn_ct1 call_tuple_of (fun d z e => by
  cases d with
  | lst ds => cases e; exact g_tuple (.inl rfl)
  | tup ds => cases e; exact g_tuple (.inr rfl)
  | _ => cases e) bn.tuple boot_tuple' h hg (hs := hs)
theorem zn_list (bn : Bn X.mg) (h : ZN X S0 a Γ x m) (hg : Gl X "list" := by rfl) (hs : s1 X a := by rfl) : ZN X S0 (.Call (.Name "list" p) [a] [] pos) Γ x (.b1 lstO m) := zn_ct1 call_list_of (fun d z e => by
  cases d with
  | lst ds => cases e; exact g_list (.inl rfl)
  | tup ds => cases e; exact g_list (.inr rfl)
  | _ => cases e) bn.list boot_list' h hg (hs := hs)
def strO : D → Option D
  | .int i => if i.natAbs.log2 < 1920 then some (.str (intS i)) else none
  | _ => none
theorem zn_strI (bn : Bn X.mg) (h : ZN X S0 a Γ x m) (hg : Gl X "str" := by rfl) (hs : s1 X a := by rfl) : ZN X S0 (.Call (.Name "str" p) [a] [] pos) Γ x (.b1 strO m) := zn_ct1 call_str_int (fun d z e => by
  cases d with
  | int i =>
    have e : (if i.natAbs.log2 < 1920 then some (D.str (intS i)) else none) = some z := e
    split at e
    · rename_i hi
      cases e
      exact fun F S H vs Q' hc r k => by
        obtain ⟨v, rfl, r9⟩ := rep1 r
        cases r9
        refine ⟨i, rfl, hi, ?_⟩
        rw [← int_str]
        exact k.self hc (.str (Nat.le_trans (len_intS hi) (by decide)))
    · cases e
  | _ => cases e) bn.str boot_str' h hg (hs := hs)
def maxO : D → D → Option D
  | .int i, .int j => some (.int (max i j))
  | _, _ => none
def minO : D → D → Option D
  | .int i, .int j => some (.int (min i j))
  | _, _ => none
theorem zn_max2 (ok : X.calm = true) (bn : Bn X.mg) (h : ZN X S0 a Γ x ma) (h2 : ZN X S0 b Γ x mb) (hg : Gl X "max" := by rfl) (hs : starEach [a, b] X.env = (false, eval a X.env) :: starEach [b] X.env := by rfl) (hs2 : s1 X b := by rfl) (hpl : (backTo pos (starEach [b] X.env)).any (·.1) = false := by rfl) : ZN X S0 (.Call (.Name "max" p) [a, b] [] pos) Γ x (.b2 maxO ma mb) := zn_cb2 (call_max2 ok) (fun d u z e => by
  cases d <;> cases u <;> first | (cases e; done) | skip
  rename_i i j
  cases e
  exact fun F S H vs Q' hc r k => by
    obtain ⟨v, w, rfl, r8, r9⟩ := rep2 r; cases r8; cases r9
    have : (if j > i then j else i) = max i j := by split <;> omega
    exact ⟨i, j, rfl, k.self hc (this ▸ .int)⟩) bn.max boot_max' h h2 hg (hs := hs) (hs2 := hs2) (hpl := hpl)
theorem zn_min2 (ok : X.calm = true) (bn : Bn X.mg) (h : ZN X S0 a Γ x ma) (h2 : ZN X S0 b Γ x mb) (hg : Gl X "min" := by rfl) (hs : starEach [a, b] X.env = (false, eval a X.env) :: starEach [b] X.env := by rfl) (hs2 : s1 X b := by rfl) (hpl : (backTo pos (starEach [b] X.env)).any (·.1) = false := by rfl) : ZN X S0 (.Call (.Name "min" p) [a, b] [] pos) Γ x (.b2 minO ma mb) := zn_cb2 (call_min2 ok) (fun d u z e => by
  cases d <;> cases u <;> first | (cases e; done) | skip
  rename_i i j
  cases e
  exact fun F S H vs Q' hc r k => by
    obtain ⟨v, w, rfl, r8, r9⟩ := rep2 r; cases r8; cases r9
    have : (if j < i then j else i) = min i j := by split <;> omega
    exact ⟨i, j, rfl, k.self hc (this ▸ .int)⟩) bn.min boot_min' h h2 hg (hs := hs) (hs2 := hs2) (hpl := hpl)
def dmO : D → D → Option D
  | .int i, .int j => if 0 < j ∧ j < 1073741824 then some (.tup [.int (i / j), .int (i % j)]) else none
  | _, _ => none
theorem zn_divmod (bn : Bn X.mg) (h : ZN X S0 a Γ x ma) (h2 : ZN X S0 b Γ x mb) (hg : Gl X "divmod" := by rfl) (hs : starEach [a, b] X.env = (false, eval a X.env) :: starEach [b] X.env := by rfl) (hs2 : s1 X b := by rfl) (hpl : (backTo pos (starEach [b] X.env)).any (·.1) = false := by rfl) : ZN X S0 (.Call (.Name "divmod" p) [a, b] [] pos) Γ x (.b2 dmO ma mb) := zn_cb2 call_divmod (fun d u z e => by
  cases d <;> cases u <;> first | (cases e; done) | skip
  rename_i i j
  have e : (if 0 < j ∧ j < 1073741824 then some (D.tup [.int (i / j), .int (i % j)]) else none) = some z := e
  split at e
  · rename_i hj
    cases e
    exact fun F S H vs Q' hc r k => by obtain ⟨v, w, rfl, r8, r9⟩ := rep2 r; cases r8; cases r9; exact ⟨i, j, rfl, hj, fun p hp => k.new hc hp fun G sb e => .tup (SqT.of e) (.cons .int (.cons .int .nil))⟩
  · cases e) bn.divmod boot_divmod' h h2 hg (hs := hs) (hs2 := hs2) (hpl := hpl)
namespace Cm
/-- a value of which p holds -/
def som (p : D → Prop) : Cm D := fun q _ => ∃ d, p d ∧ q d
def srtL : Option (List D) → Cm D
  | some ds => asr (Srt ds) (ok (.lst (srt ds)))
  | none => st
def srtC (m : Cm D) : Cm D := m.bind fun d => srtL (srcD d)
def setC (m : Cm D) : Cm D := m.bind fun d => (fun q _ => ∃ out, SetOf d out ∧ q (D.lst out) : Cm D)
def reprC (m : Cm D) : Cm D := m.bind fun d => asr (Rok d 60 16777000) (ok (.str (reprD d)))
end Cm
theorem zn_srt (hr : Room j X.A) (bn : Bn X.mg) (hc : X.calm = true) (h : ZN X S0 a Γ x m) (hg : Gl X "sorted" := by rfl) (hs : s1 X a := by rfl) : ZN X S0 (.Call (.Name "sorted" p) [a] [] pos) Γ x (.srtC m) := fun q e hq =>
  ze_srt hr bn hc ((h _ e hq).mono fun u S1 ⟨e1, h1⟩ => by
    have h1 : (Cm.srtL (srcD u)) q e := h1
    cases hd : srcD u with
    | none => rw [hd] at h1; exact h1.elim
    | some ds => rw [hd] at h1; exact ⟨ds, rfl, h1.1, e1, h1.2⟩) hg hs
theorem zn_sortSet {q' : Pos} (hr : Room j X.A) (bn : Bn X.mg) (h : ZN X S0 a Γ x m) (hg : Gl X "sorted" := by rfl) (hg2 : Gl X "set" := by rfl) (hs : s1 X a := by rfl) : ZN X S0 (.Call (.Name "sorted" p) [.Call (.Name "set" p2) [a] [] q'] [] pos) Γ x (.setC m) := fun q e hq =>
  ze_sortSet hr bn ((h _ e hq).mono fun u S1 ⟨e1, out, h1, h2⟩ => ⟨out, h1, e1, h2⟩) hg hg2 hs
theorem zn_repr (hr : Room j X.A) (bn : Bn X.mg) (gd : X.A.guards = some []) (h : ZN X S0 a Γ x m) (hg : Gl X "repr" := by rfl) (hs : s1 X a := by rfl) : ZN X S0 (.Call (.Name "repr" p) [a] [] pos) Γ x (.reprC m) := fun q e hq =>
  ze_repr hr bn gd ((h _ e hq).mono fun u S1 ⟨e1, h1, h2⟩ => ⟨h1, e1, h2⟩) hg hs
/-! ### methods of texts -/
theorem zn_m1 {id : String} {name : Str} {r : V → List V → Hp → VK → Prop} {g : D → D → Option D} (slot : Slot "str" name id) (ty : typeOf (.builtin id) = pure (.type "method_descriptor")) (rule : MtR X id r)
    (hgv : ∀ u v z, g u v = some z → (∃ y, u = .str y) ∧ Gives2 X.K (fun v u H Q => r v [u] H Q) u v z) (ha : ZN X S0 o Γ x ma) (hb : ZN X S0 a Γ x mb)
    (hs : starEach [a] X.env = [(false, eval a X.env)] := by rfl) (hbase : attributeBase o name X.env (eval o X.env) = eval o X.env := by rfl) (hline : (apos.endLine == pos.line) = true := by rfl) : ZN X S0 (.Call (.Attribute o name apos) [a] [] pos) Γ x (ma.bind fun u => match u with | .str z => mb.bind fun v => .opt (g (.str z) v) | _ => .st) := fun q e hq =>
  ze_m1 slot ty rule ((ha _ e hq).mono fun u S1 ⟨e1, h1⟩ => by
    subst e1
    cases u with
    | str z =>
      refine ⟨z, rfl, (hb _ e h1).mono ?_⟩
      rintro v S2 ⟨rfl, h2⟩
      cases hf : g (.str z) v with
      | none => have h3 : (Cm.opt (g (.str z) v)) q e := h2; rw [hf] at h3; exact h3.elim
      | some w => have h3 : (Cm.opt (g (.str z) v)) q e := h2; rw [hf] at h3; exact ⟨w, (hgv _ _ _ hf).2, rfl, h3⟩
    | _ => exact h1.elim) hs hbase hline
namespace Cm
def t2 (g : D → D → Option D) (ma mb : Cm D) : Cm D := ma.bind fun u => match u with | .str z => mb.bind fun v => opt (g (.str z) v) | _ => st
@[simp] theorem t2_ok (g) (z : List Nat) (v : D) : t2 g (ok (.str z)) (ok v) = opt (g (.str z) v) := funext fun _ => funext fun _ => propext Iff.rfl
end Cm
def seqD : D → Option (List D)
  | .lst ds => some ds
  | .tup ds => some ds
  | _ => none
def joinO : D → D → Option D
  | .str sep, d => match seqD d with
    | some ds => match strsO ds with
      | some ss => if (ss.map List.length).sum + ss.length * sep.length ≤ 16777000 then some (.str (joinL sep ss)) else none
      | none => none
    | none => none
  | _, _ => none
theorem joinO_some {u v z : D} (h : joinO u v = some z) : ∃ sep ss, u = .str sep ∧ joinOk sep v ss ∧ z = .str (joinL sep ss) := by
  cases u with
  | str sep =>
    unfold joinO at h
    cases h1 : seqD v with
    | none => simp [h1] at h
    | some ds =>
      cases h2 : strsO ds with
      | none => simp [h1, h2] at h
      | some ss =>
        simp only [h1, h2] at h
        split at h
        · rename_i c
          cases h
          have e := strsO_eq h2
          subst e
          refine ⟨sep, ss, rfl, ⟨?_, c⟩, rfl⟩
          cases v with
          | lst _ => cases h1; exact .inl rfl
          | tup _ => cases h1; exact .inr rfl
          | _ => cases h1
        · cases h
  | _ => cases h
theorem zn_join (ha : ZN X S0 o Γ x ma) (hb : ZN X S0 a Γ x mb) (hs : starEach [a] X.env = [(false, eval a X.env)] := by rfl) (hbase : attributeBase o "join" X.env (eval o X.env) = eval o X.env := by rfl) (hline : (apos.endLine == pos.line) = true := by rfl) : ZN X S0 (.Call (.Attribute o "join" apos) [a] [] pos) Γ x (.t2 joinO ma mb) :=
  zn_m1 F.slot_str_join F.type_str_join mt_join (fun u v z h => by
    obtain ⟨sep, ss, rfl, ok, rfl⟩ := joinO_some h
    exact ⟨⟨_, rfl⟩, g_join ok⟩) ha hb hs hbase hline
def splitO : D → D → Option D
  | .str z, .str b => match b with
    | [c] => if c < 256 ∧ z.length ≤ 16777000 then some (.lst ((splitL c z).map .str)) else none
    | _ => none
  | _, _ => none
theorem zn_split (ha : ZN X S0 o Γ x ma) (hb : ZN X S0 a Γ x mb) (hs : starEach [a] X.env = [(false, eval a X.env)] := by rfl) (hbase : attributeBase o "split" X.env (eval o X.env) = eval o X.env := by rfl) (hline : (apos.endLine == pos.line) = true := by rfl) : ZN X S0 (.Call (.Attribute o "split" apos) [a] [] pos) Γ x (.t2 splitO ma mb) :=
  zn_m1 F.slot_str_split F.type_str_split mt_split (fun u v z h => by
    cases u <;> cases v <;> first | (cases h; done) | skip
    rename_i u v
    match v, h with
    | [c], h =>
      have h : (if c < 256 ∧ u.length ≤ 16777000 then some (D.lst ((splitL c u).map .str)) else none) = some z := h
      split at h
      · rename_i k; cases h; exact ⟨⟨_, rfl⟩, g_split k.1 k.2⟩
      · cases h) ha hb hs hbase hline
/-! ### f-strings -/
namespace Cm
def fmtC (m : Cm D) : Cm D := m.bind fun d => match d with
  | .str z => ok (.str z)
  | .int i => asr (i.natAbs.log2 < 1920) (ok (.str (intS i)))
  | _ => st
@[simp] theorem fmtC_str (z) : fmtC (ok (.str z)) = ok (.str z) := funext fun _ => funext fun _ => propext Iff.rfl
end Cm
theorem zn_fmt (h : ZN X S0 a Γ x m) : ZN X S0 (.FormattedValue a (-1) none pos) Γ x (.fmtC m) := fun q e hq => ze_fmt ((h _ e hq).mono fun u S1 ⟨e1, h1⟩ => by
  cases u with
  | str z => exact .inl ⟨z, rfl, e1, h1⟩
  | int i => exact .inr ⟨i, rfl, h1.1, e1, h1.2⟩
  | _ => exact h1.elim)
theorem zn_fs1 (h : ZN X S0 a Γ x m) : ZN X S0 (.JoinedStr [a] pos) Γ x m := fun q e hq => ze_fs1 (h q e hq)
end
end Fz
end

section
namespace Fz
open PySem PySem.Spec PyProof.Rows L2 PySem.W
/-! ### comprehensions -/
namespace Cm
variable {α β : Type}
def noer (m : Cm α) : Cm α := fun q _ => m q fun _ _ => False
@[simp] theorem noer_ok (a : α) : noer (ok a) = ok a := funext fun _ => funext fun _ => propext Iff.rfl
@[simp] theorem noer_st : noer (st : Cm α) = st := funext fun _ => funext fun _ => propext Iff.rfl
theorem noer_bind (m : Cm α) (f : α → Cm β) : noer (m.bind f) = (noer m).bind fun a => noer (f a) := funext fun _ => funext fun _ => propext Iff.rfl
def mapC (f : D → Cm D) : List D → Cm (List D)
  | [] => ok []
  | d :: ds => (noer (f d)).bind fun y => (mapC f ds).bind fun ys => ok (y :: ys)
def fltC (p : D → Cm Bool) (f : D → Cm D) : List D → Cm (List D)
  | [] => ok []
  | d :: ds => (noer (p d)).bind fun t => bif t then (noer (f d)).bind fun y => (fltC p f ds).bind fun ys => ok (y :: ys) else fltC p f ds
/-- [f(d) for d in mi], [f(d) for d in mi if p(d)] -/
def comp (mi : Cm (List D)) (f : D → Cm D) : Cm D := mi.bind fun ds => asr (ds.length ≤ 16777216) ((mapC f ds).bind fun ys => ok (.lst ys))
def compF (mi : Cm (List D)) (p : D → Cm Bool) (f : D → Cm D) : Cm D := mi.bind fun ds => asr (ds.length ≤ 16777216) ((fltC p f ds).bind fun ys => ok (.lst ys))
theorem flt_map (f : D → Cm D) : ∀ ds, fltC (fun _ => ok true) f ds = mapC f ds
  | [] => rfl
  | d :: ds => by rw [fltC, mapC, flt_map f ds]; rfl
/-- two names for a pair -/
def pr {α : Type} (f : D → D → Cm α) : D → Cm α
  | .tup [a, b] => f a b
  | _ => st
@[simp] theorem pr_tup {α : Type} (f : D → D → Cm α) (a b : D) : pr f (.tup [a, b]) = f a b := funext fun _ => funext fun _ => propext Iff.rfl
def tr3 {α : Type} (f : D → D → D → Cm α) : D → Cm α
  | .tup [a, b, c] => f a b c
  | _ => st
@[simp] theorem tr3_tup {α : Type} (f : D → D → D → Cm α) (a b c : D) : tr3 f (.tup [a, b, c]) = f a b c := funext fun _ => funext fun _ => propext Iff.rfl
end Cm
section
variable {X : Cx} {S0 x : Store} {Γ : Gam} {a b c o ex elt tg iter : Expr} {es : List Expr} {pos p p1 p2 apos pos' : Pos} {m ma mb mc : Cm D} {n ma' mb' : Cm Bool} {ms mi : Cm (List D)} {d : D} {k j : Nat} {f : Str} {scope : Scope} {own : List (Str × Nat)} {rel : D → Gam → Gam → Prop} {ifs : List Expr}
theorem ZE.ax0 {e : Expr} {S : Store} {Q : DQ} (h : ZE X (xOf S0 fun _ _ => False) e Γ S Q) : ZE X AX0 e Γ S Q := fun F σ H c Q' k => h F σ H ⟨c.ok, c.hc, c.rg, ⟨fun _ _ _ => False, takesN, fun _ _ _ _ _ _ _ _ ⟨_, _, z⟩ => z⟩⟩ Q' k
theorem ZT.ax0 {e : Expr} {S : Store} {Q : Bool → Store → Prop} (h : ZT X (xOf S0 fun _ _ => False) e Γ S Q) : ZT X AX0 e Γ S Q := fun F σ H c Q' k => h F σ H ⟨c.ok, c.hc, c.rg, ⟨fun _ _ _ => False, takesN, fun _ _ _ _ _ _ _ _ ⟨_, _, z⟩ => z⟩⟩ Q' k
/-- what a clause asks of its test -/
def ZIf (X : Cx) (S0 : Store) (ifs : List Expr) (Γ : Gam) (x : Store) (m : Cm Bool) : Prop := (ifs = [] ∧ m = .ok true) ∨ ∃ c, ifs = [c] ∧ ZQ X S0 c Γ x m
theorem zif_no : ZIf X S0 [] Γ x (.ok true) := .inl ⟨rfl, rfl⟩
theorem zif_yes (h : ZQ X S0 c Γ x n) : ZIf X S0 [c] Γ x n := .inr ⟨c, rfl, h⟩
theorem ask_cm {vs : List Nat} {pc : D → Cm Bool} {fc : D → Cm D} {q : D → Prop} {e : EX} {ds : List D}
    (he : ∀ d, (pc d = .st) ∨ ∃ Γ2, rel d (wipeG Γ vs) Γ2 ∧ (InB X scope fun Y => ZIf Y S0 ifs Γ2 x (pc d)) ∧ InB X scope fun Y => ZN Y S0 elt Γ2 x (fc d))
    (hl : ds.length ≤ 16777216) (hq : (Cm.fltC pc fc ds) (fun ys => q (.lst ys)) e) : LcAsk X scope ifs elt Γ vs rel (fun d S' => S' = S0 ++ x ∧ q d) ds (S0 ++ x) := by
  refine ⟨fun i acc S' => S' = S0 ++ x ∧ acc.length ≤ i ∧ (Cm.fltC pc fc (ds.drop i)) (fun ys => q (.lst (acc ++ ys))) e, ⟨rfl, Nat.zero_le _, by simpa using hq⟩, fun i d acc S' hi ⟨e1, hz, h1⟩ => ?_, fun acc S' ⟨e1, hz, h1⟩ => ⟨e1, by
    rw [List.drop_length] at h1
    have h2 : q (.lst (acc ++ [])) := h1
    rwa [List.append_nil] at h2⟩⟩
  subst e1
  have il := (List.getElem?_eq_some_iff.mp hi).1
  rw [List.drop_eq_getElem_cons il] at h1
  have hd : ds[i] = d := by
    have := List.getElem?_eq_getElem il
    rw [hi] at this
    exact (Option.some.inj this).symm
  rw [hd] at h1
  rcases he d with hs | ⟨Γ2, hr, hp, hf⟩
  · have h2 : (Cm.noer (pc d)) (fun t => (bif t then (Cm.noer (fc d)).bind fun y => (Cm.fltC pc fc (ds.drop (i + 1))).bind fun ys => .ok (y :: ys) else Cm.fltC pc fc (ds.drop (i + 1))) (fun ys => q (.lst (acc ++ ys))) e) e := h1
    rw [hs] at h2
    exact h2.elim
  · refine ⟨Γ2, hr, fun s H C cl fp => ?_⟩
    have yes : ((Cm.noer (fc d)).bind fun y => (Cm.fltC pc fc (ds.drop (i + 1))).bind fun ys => Cm.ok (y :: ys)) (fun ys => q (.lst (acc ++ ys))) e → ∀ s H C cl fp, ZE (Bk X scope s H C cl fp) AX0 elt Γ2 (S0 ++ x) (fun y S4 => acc.length < sizeLine ∧ S4 = S0 ++ x ∧ (acc ++ [y]).length ≤ i + 1 ∧ (Cm.fltC pc fc (ds.drop (i + 1))) (fun ys => q (.lst ((acc ++ [y]) ++ ys))) e) := fun h2 s H C cl fp => by
      refine ((hf s H C cl fp _ _ h2).ax0).mono fun y S4 ⟨e4, h4⟩ => ?_
      refine ⟨by rw [sizeLine_eq]; omega, e4, by simp; omega, ?_⟩
      have e5 : (fun ys => q (D.lst ((acc ++ [y]) ++ ys))) = fun ys => q (D.lst (acc ++ (y :: ys))) := by funext ys; rw [List.append_assoc]; rfl
      rw [e5]
      exact h4
    rcases hp s H C cl fp with ⟨e2, e3⟩ | ⟨c, e2, hc⟩
    · subst e2
      rw [Cm.fltC, e3] at h1
      exact zf_nil (by rw [if_pos rfl]; exact yes h1)
    · subst e2
      refine zf_one ((hc _ _ h1).ax0.mono fun t S3 ⟨e4, h4⟩ => ?_)
      subst e4
      cases t with
      | true => rw [if_pos rfl]; exact yes h4
      | false => rw [if_neg Bool.false_ne_true]; exact ⟨rfl, by omega, h4⟩
theorem zn_lcG (ok : BlkOk X.N X.env.scope scope own) (ct : CTg X scope tg (own.map (·.2)) rel) {pc : D → Cm Bool} {fc : D → Cm D} (h : ZNI X S0 tg iter Γ x mi)
    (he : ∀ d, (pc d = .st) ∨ ∃ Γ2, rel d (wipeG Γ (own.map (·.2))) Γ2 ∧ (InB X scope fun Y => ZIf Y S0 ifs Γ2 x (pc d)) ∧ InB X scope fun Y => ZN Y S0 elt Γ2 x (fc d))
    (hs : ∀ x, foldedSetIterable iter X.env x = pure x := by intro _; rfl) : ZN X S0 (.ListComp elt [⟨tg, iter, ifs, 0⟩] scope pos) Γ x (.compF mi pc fc) := fun q e hq =>
  ze_lc ok ct ((h _ e hq).mono fun ds S1 ⟨e1, h1, h2⟩ => by
    subst e1
    exact ask_cm he h1 h2) hs
/-- one name -/
theorem zn_lc (j : Nat) (nd : X.N.Nodup) {fc : D → Cm D} {n : Str} (h : ZNI X S0 (.Name n p1) iter Γ x mi) (he : ∀ d, InB X scope fun Y => ZN Y S0 elt ((wipeG Γ [j]).set j (some d)) x (fc d))
    (hn : X.N[j]? = some n := by rfl) (ok : blkB X.N X.env.scope scope [(n, j)] = true := by kernel_rfl)
    (hx : ∀ s H C cl fp, Loc (Bk X scope s H C cl fp).env.scope n := by intros; exact .inl rfl) (hf : ∀ s H C cl fp, (Bk X scope s H C cl fp).fn n = true ∨ (Bk X scope s H C cl fp).env.scope.names.lookup n = some .local := by intros; exact .inr rfl)
    (hs : ∀ x, foldedSetIterable iter X.env x = pure x := by intro _; rfl) : ZN X S0 (.ListComp elt [⟨.Name n p1, iter, [], 0⟩] scope pos) Γ x (.comp mi fc) := by
  have := zn_lcG (own := [(n, j)]) (ifs := []) (pc := fun _ => .ok true) (fc := fc) (elt := elt) (pos := pos) (blk_of ok) (ct_name nd (by simp) hn hx hf) h (fun d => .inr ⟨_, rfl, fun s H C cl fp => zif_no, he d⟩) hs
  have e : Cm.compF mi (fun _ => .ok true) fc = Cm.comp mi fc := by unfold Cm.compF Cm.comp; simp only [Cm.flt_map]
  rw [e] at this
  exact this
theorem zn_lcF (j : Nat) (nd : X.N.Nodup) {pc : D → Cm Bool} {fc : D → Cm D} {n : Str} (h : ZNI X S0 (.Name n p1) iter Γ x mi) (hp : ∀ d, InB X scope fun Y => ZQ Y S0 c ((wipeG Γ [j]).set j (some d)) x (pc d)) (he : ∀ d, InB X scope fun Y => ZN Y S0 elt ((wipeG Γ [j]).set j (some d)) x (fc d))
    (hn : X.N[j]? = some n := by rfl) (ok : blkB X.N X.env.scope scope [(n, j)] = true := by kernel_rfl)
    (hx : ∀ s H C cl fp, Loc (Bk X scope s H C cl fp).env.scope n := by intros; exact .inl rfl) (hf : ∀ s H C cl fp, (Bk X scope s H C cl fp).fn n = true ∨ (Bk X scope s H C cl fp).env.scope.names.lookup n = some .local := by intros; exact .inr rfl)
    (hs : ∀ x, foldedSetIterable iter X.env x = pure x := by intro _; rfl) : ZN X S0 (.ListComp elt [⟨.Name n p1, iter, [c], 0⟩] scope pos) Γ x (.compF mi pc fc) :=
  zn_lcG (own := [(n, j)]) (blk_of ok) (ct_name nd (by simp) hn hx hf) h (fun d => .inr ⟨_, rfl, fun s H C cl fp => zif_yes (hp d s H C cl fp), he d⟩) hs
/-- a pair of names -/
theorem zn_lcP (i j : Nat) (ok0 : XOk X) {fc : D → D → Cm D} {n n2 : Str} {kk} (h : ZNI X S0 (.Tuple [.Name n p1, .Name n2 p2] kk p) iter Γ x mi) (he : ∀ d d2, InB X scope fun Y => ZN Y S0 elt (((wipeG Γ [i, j]).set i (some d)).set j (some d2)) x (fc d d2))
    (hn : X.N[i]? = some n := by rfl) (hn2 : X.N[j]? = some n2 := by rfl) (ok : blkB X.N X.env.scope scope [(n, i), (n2, j)] = true := by kernel_rfl)
    (hx : ∀ s H C cl fp, Loc (Bk X scope s H C cl fp).env.scope n := by intros; exact .inl rfl) (hf : ∀ s H C cl fp, (Bk X scope s H C cl fp).fn n = true ∨ (Bk X scope s H C cl fp).env.scope.names.lookup n = some .local := by intros; exact .inr rfl)
    (hx2 : ∀ s H C cl fp, Loc (Bk X scope s H C cl fp).env.scope n2 := by intros; exact .inl rfl) (hf2 : ∀ s H C cl fp, (Bk X scope s H C cl fp).fn n2 = true ∨ (Bk X scope s H C cl fp).env.scope.names.lookup n2 = some .local := by intros; exact .inr rfl)
    (hs : ∀ x, foldedSetIterable iter X.env x = pure x := by intro _; rfl) : ZN X S0 (.ListComp elt [⟨.Tuple [.Name n p1, .Name n2 p2] kk p, iter, [], 0⟩] scope pos) Γ x (.compF mi (.pr fun _ _ => .ok true) (.pr fc)) :=
  zn_lcG (own := [(n, i), (n2, j)]) (ifs := []) (blk_of ok) (ct_pair ok0.nd ok0.calm (by simp) (by simp) hn hn2 hx hx2 hf hf2) h (fun d => by
    match d with
    | .tup [a, b] => exact .inr ⟨_, ⟨a, b, rfl, rfl⟩, fun s H C cl fp => zif_no, he a b⟩
    | .tup [] | .tup [_] | .tup (_ :: _ :: _ :: _) | .non | .bl _ | .int _ | .str _ | .ref _ | .lst _ | .scr _ | .obj .. | .dk _ | .dt _ => exact .inl rfl) hs
theorem zn_lcPF (i j : Nat) (ok0 : XOk X) {pc : D → D → Cm Bool} {fc : D → D → Cm D} {n n2 : Str} {kk} (h : ZNI X S0 (.Tuple [.Name n p1, .Name n2 p2] kk p) iter Γ x mi) (hp : ∀ d d2, InB X scope fun Y => ZQ Y S0 c (((wipeG Γ [i, j]).set i (some d)).set j (some d2)) x (pc d d2)) (he : ∀ d d2, InB X scope fun Y => ZN Y S0 elt (((wipeG Γ [i, j]).set i (some d)).set j (some d2)) x (fc d d2))
    (hn : X.N[i]? = some n := by rfl) (hn2 : X.N[j]? = some n2 := by rfl) (ok : blkB X.N X.env.scope scope [(n, i), (n2, j)] = true := by kernel_rfl)
    (hx : ∀ s H C cl fp, Loc (Bk X scope s H C cl fp).env.scope n := by intros; exact .inl rfl) (hf : ∀ s H C cl fp, (Bk X scope s H C cl fp).fn n = true ∨ (Bk X scope s H C cl fp).env.scope.names.lookup n = some .local := by intros; exact .inr rfl)
    (hx2 : ∀ s H C cl fp, Loc (Bk X scope s H C cl fp).env.scope n2 := by intros; exact .inl rfl) (hf2 : ∀ s H C cl fp, (Bk X scope s H C cl fp).fn n2 = true ∨ (Bk X scope s H C cl fp).env.scope.names.lookup n2 = some .local := by intros; exact .inr rfl)
    (hs : ∀ x, foldedSetIterable iter X.env x = pure x := by intro _; rfl) : ZN X S0 (.ListComp elt [⟨.Tuple [.Name n p1, .Name n2 p2] kk p, iter, [c], 0⟩] scope pos) Γ x (.compF mi (.pr pc) (.pr fc)) :=
  zn_lcG (own := [(n, i), (n2, j)]) (blk_of ok) (ct_pair ok0.nd ok0.calm (by simp) (by simp) hn hn2 hx hx2 hf hf2) h (fun d => by
    match d with
    | .tup [a, b] => exact .inr ⟨_, ⟨a, b, rfl, rfl⟩, fun s H C cl fp => zif_yes (hp a b s H C cl fp), he a b⟩
    | .tup [] | .tup [_] | .tup (_ :: _ :: _ :: _) | .non | .bl _ | .int _ | .str _ | .ref _ | .lst _ | .scr _ | .obj .. | .dk _ | .dt _ => exact .inl rfl) hs
/-! ### what is walked -/
namespace Cm
def its (m : Cm D) : Cm (List D) := m.bind fun d => opt (itemsOf d)
@[simp] theorem its_ok (d) : its (ok d) = opt (itemsOf d) := funext fun _ => funext fun _ => propext Iff.rfl
def rng1 (m : Cm D) : Cm (List D) := m.bind fun d => match d with
  | .int j => asr (-4611686018427387904 ≤ j ∧ j < 4611686018427387904) (ok (range0 j.toNat))
  | _ => st
def rng2 (ma mb : Cm D) : Cm (List D) := ma.bind fun d => mb.bind fun u => match d, u with
  | .int i, .int j => asr (-4611686018427387904 ≤ i ∧ i < 4611686018427387904 ∧ -4611686018427387904 ≤ j ∧ j < 4611686018427387904) (ok (rangeD i (j - i).toNat))
  | _, _ => st
end Cm
theorem zni_seq (h : ZN X S0 iter Γ x m) : ZNI X S0 tg iter Γ x (.its m) := fun q e hq => zi_seq ((h _ e hq).mono fun d S1 ⟨e1, h1⟩ => by
  cases hd : itemsOf d with
  | none => have h2 : (Cm.opt (itemsOf d)) q e := h1; rw [hd] at h2; exact h2.elim
  | some ds => have h2 : (Cm.opt (itemsOf d)) q e := h1; rw [hd] at h2; exact ⟨ds, rfl, e1, h2⟩)
theorem zni_range1 (bn : Bn X.mg) (h : ZN X S0 a Γ x m) (hg : Gl X "range" := by rfl) (hs : starEach [a] X.env = [(false, eval a X.env)] := by rfl) : ZNI X S0 tg (.Call (.Name "range" p) [a] [] pos) Γ x (.rng1 m) := fun q e hq => zi_range1 hg bn.range ((h _ e hq).mono fun d S1 ⟨e1, h1⟩ => by
  cases d with
  | int j => exact ⟨j, rfl, by have := h1.1; omega, by have := h1.1; omega, e1, h1.2⟩
  | _ => exact h1.elim) hs
theorem zni_range2 (bn : Bn X.mg) (h : ZN X S0 a Γ x ma) (h2 : ZN X S0 b Γ x mb) (hg : Gl X "range" := by rfl) (hs : starEach [a, b] X.env = [(false, eval a X.env), (false, eval b X.env)] := by rfl) (hs2 : starEach [b] X.env = [(false, eval b X.env)] := by rfl) : ZNI X S0 tg (.Call (.Name "range" p) [a, b] [] pos) Γ x (.rng2 ma mb) := fun q e hq => zi_range2 hg bn.range ((h _ e hq).mono fun d S1 ⟨e1, h1⟩ => by
  subst e1
  refine (h2 _ e h1).mono fun u S2 ⟨e2, h3⟩ => ?_
  cases d with
  | int i => cases u with
    | int j => exact ⟨i, j, rfl, rfl, by have := h3.1; omega, e2, h3.2⟩
    | _ => exact h3.elim
  | _ => exact h3.elim) hs hs2
/-! ### attributes, methods, classes -/
namespace Cm
/-- a plain attribute of an instance of one of these classes -/
def fld (c f : Str) (m : Cm D) : Cm D := m.bind fun d => match d with
  | .obj _ c' fs => if c' = c then opt (fs.lookup f) else st
  | _ => st
/-- a method: of an instance of c -/
def onC (c : Str) (g : D → Cm D) (a : Cm D) : Cm D := a.bind fun d => match d with
  | .obj p c' fs => if c' = c then g (.obj p c' fs) else st
  | _ => st
def lenI : D → Cm D
  | .int i => asr (0 ≤ i ∧ i < 1152921504606846976) (ok (.int i))
  | _ => st
def strI : D → Cm D
  | .str z => ok (.str z)
  | _ => st
def mth (c m : Str) (g : D → Cm D) (a : Cm D) : Cm D := a.bind fun d => match d with
  | .obj p c' fs => if c' = c ∧ fs.lookup m = none then g (.obj p c' fs) else st
  | _ => st
end Cm
theorem zn_fld {c : Str} (hf : Fld X.K c f) (h : ZN X S0 a Γ x m) (hb : attributeBase a f X.env (eval a X.env) = eval a X.env := by rfl) : ZN X S0 (.Attribute a f pos) Γ x (.fld c f m) := fun q e hq => ze_fld hf ((h _ e hq).mono fun d S1 ⟨e1, h1⟩ => by
  cases d with
  | obj p c' fs =>
    have h2 : (if c' = c then (Cm.opt (fs.lookup f)) else .st) q e := h1
    split at h2
    · rename_i ec
      subst ec
      cases hl : fs.lookup f with
      | none => rw [hl] at h2; exact h2.elim
      | some y => rw [hl] at h2; exact .inl ⟨p, fs, y, rfl, hl, e1, h2⟩
    · exact h2.elim
  | _ => exact h1.elim) hb
theorem q_self {q : D → Prop} : (fun d => S0 ++ x = S0 ++ x ∧ q d) = q := funext fun d => propext ⟨fun z => z.2, fun z => ⟨rfl, z⟩⟩
theorem e_self {e : EX} : (fun c fs => xOf S0 e c fs (S0 ++ x)) = e := funext fun c => funext fun fs => propext ⟨fun ⟨_, _, z⟩ => z, fun z => ⟨x, rfl, z⟩⟩
theorem asp_self {m : List D → Cm D} {ds : List D} {q : D → Prop} {e : EX} (h : m ds q e) : aspC m ds (S0 ++ x) (fun d S' => S' = S0 ++ x ∧ q d) (xOf S0 e) := by
  show m ds _ _
  rw [q_self, e_self]; exact h
theorem zn_meth0 {c g : Str} {pl : Sem Bool} {mm : List D → Cm D} (C : AM X.prog X.w X.K X.mg X.base k c g 0 [] (fun ds _ => aspC mm ds)) (hr : Room j X.A) (hk : k ≤ j) (h : ZN X S0 o Γ x m)
    (ht : eval (.Call (.Attribute o g apos) [] [] pos) X.env = (do
      let r ← eval o X.env
      standAt apos.atName
      let (g', self) ← holding [r] (getMethod r g pl)
      callWith pos g' self (backTo pos (starEach [] X.env)) (backToKw pos (keywordEach [] X.env))) := by rfl) : ZN X S0 (.Call (.Attribute o g apos) [] [] pos) Γ x (.mth c g (fun d => mm [d]) m) := fun q e hq =>
  ze_meth0 C hr hk ((h _ e hq).mono fun d S1 ⟨e1, h1⟩ => by
    subst e1
    cases d with
    | obj p c' fs =>
      have h2 : (if c' = c ∧ fs.lookup g = none then mm [.obj p c' fs] else .st) q e := h1
      split at h2
      · rename_i ec
        exact ⟨ec.1, ec.2, asp_self h2⟩
      · exact h2.elim
    | _ => exact h1.elim) ht
theorem zn_meth {c g : Str} {l : Nat} {pl : Sem Bool} {mm : List D → Cm D} (C : AM X.prog X.w X.K X.mg X.base k c g l [] (fun ds _ => aspC mm ds)) (hr : Room j X.A) (hk : k ≤ j) (h : ZN X S0 o Γ x m) (h2 : ZNA X S0 (a :: es) Γ x ms)
    (hst : starEach (a :: es) X.env = (false, eval a X.env) :: starEach es X.env := by rfl) (hpl : (backTo pos (starEach es X.env)).any (·.1) = false := by rfl)
    (ht : eval (.Call (.Attribute o g apos) (a :: es) [] pos) X.env = (do
      let r ← eval o X.env
      standAt apos.atName
      let (g', self) ← holding [r] (getMethod r g pl)
      callWith pos g' self (backTo pos (starEach (a :: es) X.env)) (backToKw pos (keywordEach [] X.env))) := by rfl) : ZN X S0 (.Call (.Attribute o g apos) (a :: es) [] pos) Γ x (.mth c g (fun d => ms.bind fun ds => .asr (ds.length = l) (mm (d :: ds))) m) := fun q e hq =>
  ze_meth C hr hk ((h _ e hq).mono fun d S1 ⟨e1, h1⟩ => by
    subst e1
    cases d with
    | obj p c' fs =>
      have h3 : (if c' = c ∧ fs.lookup g = none then (ms.bind fun ds => .asr (ds.length = l) (mm (.obj p c' fs :: ds))) else .st) q e := h1
      split at h3
      · rename_i ec
        refine ⟨ec.1, ec.2, (h2 _ e h3).mono fun ds S2 ⟨e2, h4, h5⟩ => ?_⟩
        subst e2
        exact ⟨h4, asp_self h5⟩
      · exact h3.elim
    | _ => exact h1.elim) hst hpl ht
/-- len, str of an instance -/
theorem zn_lenO {c : Str} {mm : D → Cm D} (C : AM X.prog X.w X.K X.mg X.base k c "__len__" 0 [] (fun ds _ => aspC (Cm.u1 mm) ds)) (hr : Room j X.A) (hk : k + 1 ≤ j) (bn : Bn X.mg) (h : ZN X S0 a Γ x m) (hg : Gl X "len" := by rfl) (hs : s1 X a := by rfl) :
    ZN X S0 (.Call (.Name "len" p) [a] [] pos) Γ x (.onC c (fun d => (mm d).bind .lenI) m) := fun q e hq =>
  ze_lenO C hr hk bn ((h _ e hq).mono fun d S1 ⟨e1, h1⟩ => by
    subst e1
    cases d with
    | obj p c' fs =>
      have h2 : (if c' = c then ((mm (.obj p c' fs)).bind Cm.lenI) else .st) q e := h1
      split at h2
      · rename_i ec
        refine ⟨ec, ?_⟩
        have h3 : (Cm.u1 mm [.obj p c' fs]) (fun r => ∃ n : Nat, r = .int n ∧ n < 2 ^ 60 ∧ S0 ++ x = S0 ++ x ∧ q r) e := by
          have e2 : (fun r => (Cm.lenI r) q e) = (fun r => ∃ n : Nat, r = .int n ∧ n < 2 ^ 60 ∧ S0 ++ x = S0 ++ x ∧ q r) := by
            funext r
            cases r with
            | int i =>
              refine propext ⟨fun ⟨z1, z2⟩ => ⟨i.toNat, ?_, by omega, rfl, z2⟩, fun ⟨n, z1, z2, _, z3⟩ => ?_⟩
              · congr 1; omega
              · cases z1
                exact ⟨by omega, z3⟩
            | _ => exact propext ⟨fun z => z.elim, fun ⟨n, z, _⟩ => by cases z⟩
          rw [← e2]
          exact h2
        show (Cm.u1 mm [.obj p c' fs]) _ _
        rw [e_self]
        exact h3
      · exact h2.elim
    | _ => exact h1.elim) hg hs
theorem zn_strO {c : Str} {mm : D → Cm D} (C : AM X.prog X.w X.K X.mg X.base k c "__str__" 0 [] (fun ds _ => aspC (Cm.u1 mm) ds)) (hr : Room j X.A) (hk : k + 2 ≤ j) (bn : Bn X.mg) (h : ZN X S0 a Γ x m) (hg : Gl X "str" := by rfl) (hs : s1 X a := by rfl) :
    ZN X S0 (.Call (.Name "str" p) [a] [] pos) Γ x (.onC c (fun d => (mm d).bind .strI) m) := fun q e hq =>
  ze_strO C hr hk bn ((h _ e hq).mono fun d S1 ⟨e1, h1⟩ => by
    subst e1
    cases d with
    | obj p c' fs =>
      have h2 : (if c' = c then ((mm (.obj p c' fs)).bind Cm.strI) else .st) q e := h1
      split at h2
      · rename_i ec
        refine ⟨ec, ?_⟩
        have h3 : (Cm.u1 mm [.obj p c' fs]) (fun r => ∃ z, r = .str z ∧ S0 ++ x = S0 ++ x ∧ q r) e := by
          have e2 : (fun r => (Cm.strI r) q e) = (fun r => ∃ z, r = .str z ∧ S0 ++ x = S0 ++ x ∧ q r) := by
            funext r
            cases r with
            | str i => exact propext ⟨fun z => ⟨i, rfl, rfl, z⟩, fun ⟨n, z1, _, z3⟩ => z3⟩
            | _ => exact propext ⟨fun z => z.elim, fun ⟨n, z, _⟩ => by cases z⟩
          rw [← e2]
          exact h2
        show (Cm.u1 mm [.obj p c' fs]) _ _
        rw [e_self]
        exact h3
      · exact h2.elim
    | _ => exact h1.elim) hg hs
end
end Fz
end

section
namespace Fz
open PySem PySem.Spec PyProof.Rows L2 PySem.W
/-! ### what a block of statements computes -/
structure Jn (S0 : Store) (ρ : Type) where
  rt : D → ρ
  en : (ρ → Prop) → AEnds
  hrt : ∀ q d y, q (rt d) → (en q).rt d (S0 ++ y)
/-- a block at the def's end: its value -/
def jT {S0 : Store} : Jn S0 D := ⟨id, fun q => { nx := fun _ S' => ∃ y, S' = S0 ++ y ∧ q .non, rt := fun d S' => ∃ y, S' = S0 ++ y ∧ q d }, fun q d y h => ⟨y, rfl, h⟩⟩
inductive Lf (σ ρ : Type) where
  | nx (s : σ) | bk (s : σ) | up (r : ρ)
inductive Jo (α ρ : Type) where
  | nx (a : α) | up (r : ρ)
section
variable {σ ρ α : Type} {S0 : Store}
/-- the body of a loop -/
def jL (J : Jn S0 ρ) (γ : σ → Gam) (s : σ → Store) : Jn S0 (Lf σ ρ) := ⟨fun d => .up (J.rt d), fun q => { nx := fun Γ' S' => ∃ a, weaker Γ' (γ a) ∧ S' = S0 ++ s a ∧ q (.nx a), ct := fun Γ' S' => ∃ a, weaker Γ' (γ a) ∧ S' = S0 ++ s a ∧ q (.nx a), bk := fun Γ' S' => ∃ a, weaker Γ' (γ a) ∧ S' = S0 ++ s a ∧ q (.bk a), rt := (J.en fun r => q (.up r)).rt },
  fun q d y h => J.hrt (fun r => q (.up r)) d y h⟩
/-- a branch of an if that goes on -/
def jJ (J : Jn S0 ρ) (γ : α → Gam) (s : α → Store) : Jn S0 (Jo α ρ) := ⟨fun d => .up (J.rt d), fun q => { J.en (fun r => q (.up r)) with nx := fun Γ' S' => ∃ a, weaker Γ' (γ a) ∧ S' = S0 ++ s a ∧ q (.nx a) }, fun q d y h => J.hrt (fun r => q (.up r)) d y h⟩
/-- a branch that never goes on -/
def Jn.dead (J : Jn S0 ρ) : Jn S0 ρ := ⟨J.rt, fun q => { J.en q with nx := fun _ _ => False }, J.hrt⟩
namespace Cm
def loop (fb : σ → D → Cm (Lf σ ρ)) (k : σ → Cm ρ) : List D → σ → Cm ρ
  | [], s => k s
  | d :: ds, s => (fb s d).bind fun r => match r with
    | .nx s' => loop fb k ds s'
    | .bk s' => k s'
    | .up r => ok r
def go (k : α → Cm ρ) : Jo α ρ → Cm ρ
  | .nx a => k a
  | .up r => ok r
@[simp] theorem go_nx (k : α → Cm ρ) (a : α) : go k (.nx a) = k a := funext fun _ => funext fun _ => propext Iff.rfl
@[simp] theorem go_up (k : α → Cm ρ) (r : ρ) : go k (.up r) = ok r := funext fun _ => funext fun _ => propext Iff.rfl
/-- while: so many turns -/
def whl (c : σ → Cm Bool) (fb : σ → Cm (Lf σ ρ)) (k : σ → Cm ρ) : Nat → σ → Cm ρ
  | 0, _ => st
  | n + 1, s => (c s).bind fun t => bif t then (fb s).bind fun r => match r with
      | .nx s' => whl c fb k n s'
      | .bk s' => k s'
      | .up r => ok r
    else k s
def wh (c : σ → Cm Bool) (fb : σ → Cm (Lf σ ρ)) (k : σ → Cm ρ) (s : σ) : Cm ρ := fun q e => ∃ n, whl c fb k n s q e
end Cm
end
def ZX {ρ : Type} (X : Cx) {S0 : Store} (J : Jn S0 ρ) (ss : List Stmt) (Γ : Gam) (x : Store) (m : Cm ρ) : Prop := ∀ (q : ρ → Prop) (e : EX), m q e → ZS X (xOf S0 e) ss Γ (S0 ++ x) (J.en q)
section
variable {σ ρ α : Type} {X : Cx} {S0 x : Store} {J : Jn S0 ρ} {Γ : Gam} {a b c o ex elt tg iter value : Expr} {es : List Expr} {rest body t f : List Stmt} {pos p p1 p2 p3 apos pos' pt : Pos} {m ma mb mc : Cm D} {n ma' mb' : Cm Bool} {ms mi : Cm (List D)} {d : D} {k j : Nat} {scope : Scope} {own : List (Str × Nat)} {rel : D → Gam → Gam → Prop} {ifs : List Expr} {y z : Str}
theorem ZS.monoE {Ex : AX} {S : Store} {D1 D2 : AEnds} (h : ZS X Ex body Γ S D1) (h1 : ∀ g s, D1.nx g s → D2.nx g s) (h2 : ∀ g s, D1.rt g s → D2.rt g s) (h3 : ∀ g s, D1.bk g s → D2.bk g s) (h4 : ∀ g s, D1.ct g s → D2.ct g s) : ZS X Ex body Γ S D2 := fun F σ H co D' k => h F σ H co D'
  ⟨fun σ' H' Γ' S' t hc rg q => k.nx σ' H' Γ' S' t hc rg (h1 _ _ q), fun v H' d S' t hc r q => k.rt v H' d S' t hc r (h2 _ _ q), fun σ' H' Γ' S' t hc rg q => k.bk σ' H' Γ' S' t hc rg (h3 _ _ q), fun σ' H' Γ' S' t hc rg q => k.ct σ' H' Γ' S' t hc rg (h4 _ _ q)⟩
theorem zx_st : ZX X J body Γ x .st := fun q e h => h.elim
theorem zx_weak {Γ' : Gam} {m : Cm ρ} (h : ZX X J body Γ' x m) (w : Wk Γ Γ' := by repeat constructor) : ZX X J body Γ x m := fun q e hq => (h q e hq).weak w.weak
theorem zx_set (i : Nat) (h : ZN X S0 a Γ x m) {f : D → Cm ρ} (k : ∀ d, ZX X J rest (Γ.set i (some d)) x (f d)) (hi : X.N[i]? = some y := by rfl) (hx : Loc X.env.scope y := by first | exact .inl rfl | exact .inr rfl)
    (hs : swapsWith a (some (.Name y p')) pos.line X.env = pure false := by rfl) (hf : X.fn y = true ∨ X.env.scope.names.lookup y = some .local := by first | exact .inl rfl | exact .inr rfl) : ZX X J (.Assign [.Name y p'] a pos :: rest) Γ x (m.bind f) := fun q e hq =>
  zs_cons (z1_set ((h _ e hq).mono fun d S1 ⟨e1, h1⟩ => by
    subst e1
    exact k d q e h1) hi hx hs hf)
theorem LcAsk.mono {elt : Expr} {vs : List Nat} {S : Store} {ds : List D} {Q Q1 : DQ} (h : LcAsk X scope ifs elt Γ vs rel Q ds S) (hm : ∀ d S', Q d S' → Q1 d S') : LcAsk X scope ifs elt Γ vs rel Q1 ds S := by
  obtain ⟨I, h1, h2, h3⟩ := h
  exact ⟨I, h1, h2, fun acc S' hi => hm _ _ (h3 acc S' hi)⟩
/-- name = [..] -/
theorem zx_setLcG (i : Nat) {pc : D → Cm Bool} {fc : D → Cm D} (ok : BlkOk X.N X.env.scope scope own) (ct : CTg X scope tg (own.map (·.2)) rel) (h : ZNI X S0 tg iter Γ x mi)
    (he : ∀ d, (pc d = .st) ∨ ∃ Γ2, rel d (wipeG Γ (own.map (·.2))) Γ2 ∧ (InB X scope fun Y => ZIf Y S0 ifs Γ2 x (pc d)) ∧ InB X scope fun Y => ZN Y S0 elt Γ2 x (fc d))
    {f : D → Cm ρ} (k : ∀ d, ZX X J rest (Γ.set i (some d)) x (f d))
    (hsw : swapsWith (.ListComp elt [⟨tg, iter, ifs, 0⟩] scope pos) (some (.Name y p1)) pos'.line X.env = pure true := by exact sw_true rfl rfl rfl (by decide +kernel)) (hi : X.N[i]? = some y := by rfl) (hyl : X.env.scope.names.lookup y = some .local := by rfl)
    (hs : ∀ x, foldedSetIterable iter X.env x = pure x := by intro _; rfl) : ZX X J (.Assign [.Name y p1] (.ListComp elt [⟨tg, iter, ifs, 0⟩] scope pos) pos' :: rest) Γ x ((Cm.compF mi pc fc).bind f) := fun q e hq =>
  zs_cons (z1_setLc ok ct ((h _ e hq).mono fun ds S1 ⟨e1, h1, h2⟩ => by
    subst e1
    exact (ask_cm (q := fun d => (f d) q e) he h1 h2).mono fun d S' ⟨e2, h3⟩ => by
      subst e2
      exact k d q e h3) hsw hi hyl hs)
theorem zx_setLc (i j : Nat) (nd : X.N.Nodup) {fc : D → Cm D} {n : Str} (h : ZNI X S0 (.Name n p2) iter Γ x mi) (he : ∀ d, InB X scope fun Y => ZN Y S0 elt ((wipeG Γ [j]).set j (some d)) x (fc d))
    {f : D → Cm ρ} (k : ∀ d, ZX X J rest (Γ.set i (some d)) x (f d))
    (hsw : swapsWith (.ListComp elt [⟨.Name n p2, iter, [], 0⟩] scope pos) (some (.Name y p1)) pos'.line X.env = pure true := by exact sw_true rfl rfl rfl (by decide +kernel)) (hi : X.N[i]? = some y := by rfl) (hyl : X.env.scope.names.lookup y = some .local := by rfl)
    (hn : X.N[j]? = some n := by rfl) (ok : blkB X.N X.env.scope scope [(n, j)] = true := by kernel_rfl)
    (hx : ∀ s H C cl fp, Loc (Bk X scope s H C cl fp).env.scope n := by intros; exact .inl rfl) (hf : ∀ s H C cl fp, (Bk X scope s H C cl fp).fn n = true ∨ (Bk X scope s H C cl fp).env.scope.names.lookup n = some .local := by intros; exact .inr rfl)
    (hs : ∀ x, foldedSetIterable iter X.env x = pure x := by intro _; rfl) : ZX X J (.Assign [.Name y p1] (.ListComp elt [⟨.Name n p2, iter, [], 0⟩] scope pos) pos' :: rest) Γ x ((Cm.comp mi fc).bind f) := by
  have := zx_setLcG (own := [(n, j)]) (ifs := []) (pc := fun _ => .ok true) (fc := fc) i (blk_of ok) (ct_name nd (by simp) hn hx hf) h (fun d => .inr ⟨_, rfl, fun s H C cl fp => zif_no, he d⟩) k hsw hi hyl hs
  have e : Cm.compF mi (fun _ => .ok true) fc = Cm.comp mi fc := by unfold Cm.compF Cm.comp; simp only [Cm.flt_map]
  rw [e] at this
  exact this
theorem zx_setLcF (i j : Nat) (nd : X.N.Nodup) {pc : D → Cm Bool} {fc : D → Cm D} {n : Str} (h : ZNI X S0 (.Name n p2) iter Γ x mi) (hp : ∀ d, InB X scope fun Y => ZQ Y S0 c ((wipeG Γ [j]).set j (some d)) x (pc d)) (he : ∀ d, InB X scope fun Y => ZN Y S0 elt ((wipeG Γ [j]).set j (some d)) x (fc d))
    {f : D → Cm ρ} (k : ∀ d, ZX X J rest (Γ.set i (some d)) x (f d))
    (hsw : swapsWith (.ListComp elt [⟨.Name n p2, iter, [c], 0⟩] scope pos) (some (.Name y p1)) pos'.line X.env = pure true := by exact sw_true rfl rfl rfl (by decide +kernel)) (hi : X.N[i]? = some y := by rfl) (hyl : X.env.scope.names.lookup y = some .local := by rfl)
    (hn : X.N[j]? = some n := by rfl) (ok : blkB X.N X.env.scope scope [(n, j)] = true := by kernel_rfl)
    (hx : ∀ s H C cl fp, Loc (Bk X scope s H C cl fp).env.scope n := by intros; exact .inl rfl) (hf : ∀ s H C cl fp, (Bk X scope s H C cl fp).fn n = true ∨ (Bk X scope s H C cl fp).env.scope.names.lookup n = some .local := by intros; exact .inr rfl)
    (hs : ∀ x, foldedSetIterable iter X.env x = pure x := by intro _; rfl) : ZX X J (.Assign [.Name y p1] (.ListComp elt [⟨.Name n p2, iter, [c], 0⟩] scope pos) pos' :: rest) Γ x ((Cm.compF mi pc fc).bind f) :=
  zx_setLcG (own := [(n, j)]) i (blk_of ok) (ct_name nd (by simp) hn hx hf) h (fun d => .inr ⟨_, rfl, fun s H C cl fp => zif_yes (hp d s H C cl fp), he d⟩) k hsw hi hyl hs
theorem zx_setLcP (i j l : Nat) (ok0 : XOk X) {fc : D → D → Cm D} {n n2 : Str} {kk} (h : ZNI X S0 (.Tuple [.Name n p2, .Name n2 p3] kk p) iter Γ x mi) (he : ∀ d d2, InB X scope fun Y => ZN Y S0 elt (((wipeG Γ [j, l]).set j (some d)).set l (some d2)) x (fc d d2))
    {f : D → Cm ρ} (k : ∀ d, ZX X J rest (Γ.set i (some d)) x (f d))
    (hsw : swapsWith (.ListComp elt [⟨.Tuple [.Name n p2, .Name n2 p3] kk p, iter, [], 0⟩] scope pos) (some (.Name y p1)) pos'.line X.env = pure true := by exact sw_true rfl rfl rfl (by decide +kernel)) (hi : X.N[i]? = some y := by rfl) (hyl : X.env.scope.names.lookup y = some .local := by rfl)
    (hn : X.N[j]? = some n := by rfl) (hn2 : X.N[l]? = some n2 := by rfl) (ok : blkB X.N X.env.scope scope [(n, j), (n2, l)] = true := by kernel_rfl)
    (hx : ∀ s H C cl fp, Loc (Bk X scope s H C cl fp).env.scope n := by intros; exact .inl rfl) (hf : ∀ s H C cl fp, (Bk X scope s H C cl fp).fn n = true ∨ (Bk X scope s H C cl fp).env.scope.names.lookup n = some .local := by intros; exact .inr rfl)
    (hx2 : ∀ s H C cl fp, Loc (Bk X scope s H C cl fp).env.scope n2 := by intros; exact .inl rfl) (hf2 : ∀ s H C cl fp, (Bk X scope s H C cl fp).fn n2 = true ∨ (Bk X scope s H C cl fp).env.scope.names.lookup n2 = some .local := by intros; exact .inr rfl)
    (hs : ∀ x, foldedSetIterable iter X.env x = pure x := by intro _; rfl) : ZX X J (.Assign [.Name y p1] (.ListComp elt [⟨.Tuple [.Name n p2, .Name n2 p3] kk p, iter, [], 0⟩] scope pos) pos' :: rest) Γ x ((Cm.compF mi (.pr fun _ _ => .ok true) (.pr fc)).bind f) :=
  zx_setLcG (own := [(n, j), (n2, l)]) (ifs := []) i (blk_of ok) (ct_pair ok0.nd ok0.calm (by simp) (by simp) hn hn2 hx hx2 hf hf2) h (fun d => by
    match d with
    | .tup [a, b] => exact .inr ⟨_, ⟨a, b, rfl, rfl⟩, fun s H C cl fp => zif_no, he a b⟩
    | .tup [] | .tup [_] | .tup (_ :: _ :: _ :: _) | .non | .bl _ | .int _ | .str _ | .ref _ | .lst _ | .scr _ | .obj .. | .dk _ | .dt _ => exact .inl rfl) k hsw hi hyl hs
/-- a, b = u, v -/
theorem zx_par (i j : Nat) {kt k2 pt2} {px py : Pos} (h : ZN X S0 a Γ x ma) (h2 : ZN X S0 b Γ x mb) {f : D → D → Cm ρ} (k : ∀ d d2, ZX X J rest ((Γ.set i (some d)).set j (some d2)) x (f d d2))
    (hw : swappedStores [.Tuple [.Name y px, .Name z py] kt pt] (.Tuple [a, b] k2 pt2) X.env = pure (some [y, z]) := by rfl) (hi : X.N[i]? = some y := by rfl) (hj : X.N[j]? = some z := by rfl) (hij : i ≠ j := by decide)
    (hx : X.env.scope.names.lookup y = some .local := by rfl) (hy : X.env.scope.names.lookup z = some .local := by rfl)
    (hs : swapsWithSole [.Tuple [.Name y px, .Name z py] kt pt] (.Tuple [a, b] k2 pt2) pos.line X.env = pure false := by rfl)
    (s1 : starEach [a, b] X.env = (false, eval a X.env) :: starEach [b] X.env := by rfl) (s2 : starEach [b] X.env = (false, eval b X.env) :: starEach [] X.env := by rfl) :
    ZX X J (.Assign [.Tuple [.Name y px, .Name z py] kt pt] (.Tuple [a, b] k2 pt2) pos :: rest) Γ x (ma.bind fun u => mb.bind fun v => f u v) := fun q e hq =>
  zs_cons (z1_par (i := i) (j := j) ((h _ e hq).mono fun d S1 ⟨e1, h1⟩ => by
    subst e1
    refine (h2 _ e h1).mono fun d2 S2 ⟨e2, h3⟩ => ?_
    subst e2
    exact k d d2 q e h3) hw hi hj hij hx hy hs s1 s2)
/-- a, b = e -/
theorem zx_unp (i j : Nat) {kt} {px py : Pos} (h : ZN X S0 a Γ x m) {f : D → D → Cm ρ} (k : ∀ d d2, ZX X J rest ((Γ.set i (some d)).set j (some d2)) x (f d d2)) (nd : X.N.Nodup)
    (hi : X.N[i]? = some y := by rfl) (hj : X.N[j]? = some z := by rfl) (hx : Loc X.env.scope y := by first | exact .inl rfl | exact .inr rfl) (hx2 : Loc X.env.scope z := by first | exact .inl rfl | exact .inr rfl)
    (hf : X.fn y = true ∨ X.env.scope.names.lookup y = some .local := by first | exact .inl rfl | exact .inr rfl) (hf2 : X.fn z = true ∨ X.env.scope.names.lookup z = some .local := by first | exact .inl rfl | exact .inr rfl)
    (e1 : (assignEach (.Name y px :: [.Name z py]) X.env).map (·.2) = assign (.Name y px) X.env :: (assignEach [.Name z py] X.env).map (·.2) := by rfl) (e2 : (assignEach (.Name z py :: []) X.env).map (·.2) = assign (.Name z py) X.env :: (assignEach [] X.env).map (·.2) := by rfl)
    (hn : (assignEach [.Name y px, .Name z py] X.env).length = 2 := by rfl) (hst : (assignEach [.Name y px, .Name z py] X.env).findIdx? (·.1) = none := by rfl)
    (hs : swapsWithSole [.Tuple [.Name y px, .Name z py] kt pt] a pos.line X.env = pure false := by rfl) (hw : swappedStores [.Tuple [.Name y px, .Name z py] kt pt] a X.env = pure none := by rfl)
    (h1 : (assignEach [.Tuple [.Name y px, .Name z py] kt pt] X.env).map (·.2) = [assign (.Tuple [.Name y px, .Name z py] kt pt) X.env] := by rfl) :
    ZX X J (.Assign [.Tuple [.Name y px, .Name z py] kt pt] a pos :: rest) Γ x (m.bind (.pr f)) := fun q e hq =>
  zs_cons (z1_asg ((h _ e hq).mono fun d S1 ⟨e3, h3⟩ => by
    subst e3
    match d, h3 with
    | .tup [u, v], h3 => exact zg_tup rfl (zgs_name (i := i) (zgs_name (i := j) (zgs_nil (k u v q e h3)) nd hj hx2 hf2 e2) nd hi hx hf e1) rfl hn hst
    | .tup [], h3 | .tup [_], h3 | .tup (_ :: _ :: _ :: _), h3 | .non, h3 | .bl _, h3 | .int _, h3 | .str _, h3 | .ref _, h3 | .lst _, h3 | .scr _, h3 | .obj .., h3 | .dk _, h3 | .dt _, h3 => exact h3.elim) hs hw h1)
theorem zx_expr (h : ZN X S0 a Γ x m) {f : Cm ρ} (k : ZX X J rest Γ x f) (hs : swapsWith a none pos.line X.env = pure false := by rfl) : ZX X J (.Expr a pos :: rest) Γ x (m.bind fun _ => f) := fun q e hq =>
  zs_cons (z1_expr ((h _ e hq).mono fun d S1 ⟨e1, h1⟩ => by subst e1; exact k q e h1) hs)
theorem zx_doc {s : String} {jj} {f : Cm ρ} (k : ZX X J rest Γ x f) : ZX X J (.Expr (.Constant (.str (PySem.Str.ofString s)) jj p) pos :: rest) Γ x f := fun q e hq =>
  zs_cons (z1_of (ps_doc) fun F σ H c D' k' => k'.nx _ _ _ _ .refl c.hc c.rg (k q e hq))
theorem zx_pass {f : Cm ρ} (k : ZX X J rest Γ x f) : ZX X J (.Pass pos :: rest) Γ x f := fun q e hq => zs_cons (z1_pass (k q e hq))
/-! ### ends of a block -/
theorem zx_ret (h : ZN X S0 a Γ x m) : ZX X (jT (S0 := S0)) [.Return (some a) pos] Γ x m := fun q e hq => zs_one (z1_ret ((h _ e hq).mono fun d S1 ⟨e1, h1⟩ => ⟨x, e1, h1⟩))
theorem zx_retU (h : ZN X S0 a Γ x m) : ZX X J [.Return (some a) pos] Γ x (m.bind fun d => .ok (J.rt d)) := fun q e hq => zs_one (z1_ret ((h _ e hq).mono fun d S1 ⟨e1, h1⟩ => by subst e1; exact J.hrt q d x h1))
theorem zx_retN : ZX X J [.Return none pos] Γ x (.ok (J.rt .non)) := fun q e hq => zs_one (z1_retN (J.hrt q .non x hq))
theorem zx_fall : ZX X (jT (S0 := S0)) [] Γ x (.ok .non) := fun q e hq => zs_nil ⟨x, rfl, hq⟩
theorem zx_nxL {γ : σ → Gam} {s : σ → Store} (v : σ) (w : Wk Γ (γ v) := by repeat constructor) (e : x = s v := by rfl) : ZX X (jL J γ s) [] Γ x (.ok (.nx v)) := fun q e' hq => zs_nil ⟨v, w.weak, by rw [e], hq⟩
theorem zx_ctL {γ : σ → Gam} {s : σ → Store} (v : σ) (w : Wk Γ (γ v) := by repeat constructor) (e : x = s v := by rfl) : ZX X (jL J γ s) [.Continue pos] Γ x (.ok (.nx v)) := fun q e' hq => zs_one (z1_continue ⟨v, w.weak, by rw [e], hq⟩)
theorem zx_bkL {γ : σ → Gam} {s : σ → Store} (v : σ) (w : Wk Γ (γ v) := by repeat constructor) (e : x = s v := by rfl) : ZX X (jL J γ s) [.Break pos] Γ x (.ok (.bk v)) := fun q e' hq => zs_one (z1_break ⟨v, w.weak, by rw [e], hq⟩)
theorem zx_nxJ {γ : α → Gam} {s : α → Store} (v : α) (w : Wk Γ (γ v) := by repeat constructor) (e : x = s v := by rfl) : ZX X (jJ J γ s) [] Γ x (.ok (.nx v)) := fun q e' hq => zs_nil ⟨v, w.weak, by rw [e], hq⟩
/-- through a dead end, or a branch -/
theorem zx_dead {m : Cm ρ} (h : ∀ q e, m q e → ZS X (xOf S0 e) body Γ (S0 ++ x) { J.en q with nx := fun _ _ => False }) : ZX X J.dead body Γ x m := h
theorem zx_bkD {γ : σ → Gam} {s : σ → Store} (v : σ) (w : Wk Γ (γ v) := by repeat constructor) (e : x = s v := by rfl) : ZX X (jL J γ s).dead [.Break pos] Γ x (.ok (.bk v)) := fun q e' hq => zs_one (z1_break ⟨v, w.weak, by rw [e], hq⟩)
theorem zx_ctD {γ : σ → Gam} {s : σ → Store} (v : σ) (w : Wk Γ (γ v) := by repeat constructor) (e : x = s v := by rfl) : ZX X (jL J γ s).dead [.Continue pos] Γ x (.ok (.nx v)) := fun q e' hq => zs_one (z1_continue ⟨v, w.weak, by rw [e], hq⟩)
theorem zx_retD (h : ZN X S0 a Γ x m) : ZX X (jT (S0 := S0)).dead [.Return (some a) pos] Γ x m := fun q e hq => zs_one (z1_ret ((h _ e hq).mono fun d S1 ⟨e1, h1⟩ => ⟨x, e1, h1⟩))
/-! ### if -/
theorem zx_ifR {mt mr : Cm ρ} (h : ZQ X S0 c Γ x n) (ht : ZX X J.dead t Γ x mt) (hr : ZX X J rest Γ x mr) : ZX X J (.If c t [] pos :: rest) Γ x (.cnd n mt mr) := fun q e hq =>
  zs_cons (z1_if ((h _ e hq).mono fun tt S1 ⟨e1, h1⟩ => by
    subst e1
    cases tt with
    | true => exact (ht q e h1).monoE (fun _ _ z => z.elim) (fun _ _ z => z) (fun _ _ z => z) (fun _ _ z => z)
    | false => exact zs_nil (hr q e h1)))
theorem zx_ifE {mt mf : Cm ρ} (h : ZQ X S0 c Γ x n) (ht : ZX X J t Γ x mt) (hf : ZX X J f Γ x mf) : ZX X J [.If c t f pos] Γ x (.cnd n mt mf) := fun q e hq =>
  zs_one (z1_if ((h _ e hq).mono fun tt S1 ⟨e1, h1⟩ => by
    subst e1
    cases tt with
    | true => exact ht q e h1
    | false => exact hf q e h1))
theorem zx_ifJ (γ : α → Gam) (s : α → Store) {mt mf : Cm (Jo α ρ)} {kk : α → Cm ρ} (h : ZQ X S0 c Γ x n) (ht : ZX X (jJ J γ s) t Γ x mt) (hf : ZX X (jJ J γ s) f Γ x mf) (hk : ∀ v, ZX X J rest (γ v) (s v) (kk v)) : ZX X J (.If c t f pos :: rest) Γ x ((Cm.cnd n mt mf).bind (.go kk)) := fun q e hq => by
  have conv : ∀ {ss : List Stmt} {mm : Cm (Jo α ρ)}, ZX X (jJ J γ s) ss Γ x mm → mm (fun r => (Cm.go kk r) q e) e → ZS X (xOf S0 e) ss Γ (S0 ++ x) { J.en q with nx := fun Γ' S' => ZS X (xOf S0 e) rest Γ' S' (J.en q) } := fun hz hm =>
    (hz _ e hm).monoE (fun g s' ⟨v, w, e1, h1⟩ => by
      subst e1
      exact (hk v q e h1).weak w) (fun _ _ z => z) (fun _ _ z => z) (fun _ _ z => z)
  exact zs_cons (z1_if ((h _ e hq).mono fun tt S1 ⟨e1, h1⟩ => by
    subst e1
    cases tt with
    | true => exact conv ht h1
    | false => exact conv hf h1))
/-! ### loops -/
theorem zx_forG (γ : σ → Gam) (s : σ → Store) (v0 : σ) {fb : σ → D → Cm (Lf σ ρ)} {kk : σ → Cm ρ} (h : ZNI X S0 tg iter Γ x mi) (w : Wk Γ (γ v0)) (e0 : x = s v0)
    (turn : ∀ v d (q : Lf σ ρ → Prop) (e : EX), (fb v d) q e → ZG X (xOf S0 e) tg d (γ v) (S0 ++ s v) fun Γ2 S2 => ZS X (xOf S0 e) body Γ2 S2 ((jL J γ s).en q))
    (hk : ∀ v, ZX X J rest (γ v) (s v) (kk v)) (hs : ∀ x, foldedSetIterable iter X.env x = pure x := by intro _; rfl) : ZX X J (.For tg iter body [] pos :: rest) Γ x (mi.bind fun ds => .loop fb kk ds v0) := fun q e hq =>
  zs_cons (z1_for ((h _ e hq).mono fun ds S1 ⟨e1, h1⟩ => by
    subst e1
    refine ⟨fun i Γ' S' => ∃ v, weaker Γ' (γ v) ∧ S' = S0 ++ s v ∧ (Cm.loop fb kk (ds.drop i) v) q e, ⟨v0, w.weak, by rw [e0], by simpa using h1⟩, fun i d Γ' S' hi ⟨v, wv, es, hl⟩ => ?_, fun Γ' S' ⟨v, wv, es, hl⟩ => ?_⟩
    · subst es
      have il := (List.getElem?_eq_some_iff.mp hi).1
      have hd : ds[i] = d := by
        have := List.getElem?_eq_getElem il
        rw [hi] at this
        exact (Option.some.inj this).symm
      rw [List.drop_eq_getElem_cons il, hd] at hl
      refine ZG.weak (Γ' := γ v) ?_ wv
      have := turn v d _ e hl
      refine fun F σ' H u co r q' gr => this F σ' H u co r q' fun σ2 H2 Γ2 S2 t2 hc2 rg2 z => gr σ2 H2 Γ2 S2 t2 hc2 rg2 (z.monoE ?_ ?_ ?_ ?_)
      · rintro g s' ⟨v', w', e', h'⟩
        exact ⟨v', w', e', h'⟩
      · exact fun _ _ z => z
      · rintro g s' ⟨v', w', e', h'⟩
        subst e'
        exact (hk v' q e h').weak w'
      · rintro g s' ⟨v', w', e', h'⟩
        exact ⟨v', w', e', h'⟩
    · subst es
      rw [List.drop_length] at hl
      exact (hk v q e hl).weak wv) hs)
theorem zx_for (i : Nat) (γ : σ → Gam) (s : σ → Store) (v0 : σ) {fb : σ → D → Cm (Lf σ ρ)} {kk : σ → Cm ρ} (h : ZNI X S0 (.Name y p) iter Γ x mi)
    (turn : ∀ v d, ZX X (jL J γ s) body ((γ v).set i (some d)) (s v) (fb v d)) (hk : ∀ v, ZX X J rest (γ v) (s v) (kk v)) (w : Wk Γ (γ v0) := by repeat constructor) (e0 : x = s v0 := by rfl)
    (hi : X.N[i]? = some y := by rfl) (hx : Loc X.env.scope y := by first | exact .inl rfl | exact .inr rfl) (hf : X.fn y = true ∨ X.env.scope.names.lookup y = some .local := by first | exact .inl rfl | exact .inr rfl) (hs : ∀ x, foldedSetIterable iter X.env x = pure x := by intro _; rfl) :
    ZX X J (.For (.Name y p) iter body [] pos :: rest) Γ x (mi.bind fun ds => .loop fb kk ds v0) :=
  zx_forG γ s v0 h w e0 (fun v d q e hq => zgn i (turn v d q e hq) hi hx hf) hk hs
theorem zx_forP (i j : Nat) (γ : σ → Gam) (s : σ → Store) (v0 : σ) {kt} {px py : Pos} {fb : σ → D → D → Cm (Lf σ ρ)} {kk : σ → Cm ρ} (h : ZNI X S0 (.Tuple [.Name y px, .Name z py] kt pt) iter Γ x mi) (nd : X.N.Nodup)
    (turn : ∀ v d d2, ZX X (jL J γ s) body (((γ v).set i (some d)).set j (some d2)) (s v) (fb v d d2)) (hk : ∀ v, ZX X J rest (γ v) (s v) (kk v)) (w : Wk Γ (γ v0) := by repeat constructor) (e0 : x = s v0 := by rfl)
    (hi : X.N[i]? = some y := by rfl) (hj : X.N[j]? = some z := by rfl) (hx : Loc X.env.scope y := by first | exact .inl rfl | exact .inr rfl) (hx2 : Loc X.env.scope z := by first | exact .inl rfl | exact .inr rfl)
    (hf : X.fn y = true ∨ X.env.scope.names.lookup y = some .local := by first | exact .inl rfl | exact .inr rfl) (hf2 : X.fn z = true ∨ X.env.scope.names.lookup z = some .local := by first | exact .inl rfl | exact .inr rfl)
    (e1 : (assignEach (.Name y px :: [.Name z py]) X.env).map (·.2) = assign (.Name y px) X.env :: (assignEach [.Name z py] X.env).map (·.2) := by rfl) (e2 : (assignEach (.Name z py :: []) X.env).map (·.2) = assign (.Name z py) X.env :: (assignEach [] X.env).map (·.2) := by rfl)
    (hn : (assignEach [.Name y px, .Name z py] X.env).length = 2 := by rfl) (hst : (assignEach [.Name y px, .Name z py] X.env).findIdx? (·.1) = none := by rfl) (hs : ∀ x, foldedSetIterable iter X.env x = pure x := by intro _; rfl) :
    ZX X J (.For (.Tuple [.Name y px, .Name z py] kt pt) iter body [] pos :: rest) Γ x (mi.bind fun ds => .loop (fun v => .pr (fb v)) kk ds v0) :=
  zx_forG γ s v0 h w e0 (fun v d q e hq => by
    match d, hq with
    | .tup [u, v'], h3 => exact zg_tup rfl (zgs_name (i := i) (zgs_name (i := j) (zgs_nil (turn v u v' q e h3)) nd hj hx2 hf2 e2) nd hi hx hf e1) rfl hn hst
    | .tup [], h3 | .tup [_], h3 | .tup (_ :: _ :: _ :: _), h3 | .non, h3 | .bl _, h3 | .int _, h3 | .str _, h3 | .ref _, h3 | .lst _, h3 | .scr _, h3 | .obj .., h3 | .dk _, h3 | .dt _, h3 => exact h3.elim) hk hs
theorem zx_while (γ : σ → Gam) (s : σ → Store) (v0 : σ) {cc : σ → Cm Bool} {fb : σ → Cm (Lf σ ρ)} {kk : σ → Cm ρ} (hc : ∀ v, ZQ X S0 c (γ v) (s v) (cc v)) (turn : ∀ v, ZX X (jL J γ s) body (γ v) (s v) (fb v)) (hk : ∀ v, ZX X J rest (γ v) (s v) (kk v)) (w : Wk Γ (γ v0) := by repeat constructor) (e0 : x = s v0 := by rfl) :
    ZX X J (.While c body [] pos :: rest) Γ x (.wh cc fb kk v0) := fun q e hq => by
  obtain ⟨n0, hq⟩ := hq
  refine zs_cons (z1_while (fun n Γ' S' => ∃ v, weaker Γ' (γ v) ∧ S' = S0 ++ s v ∧ (Cm.whl cc fb kk n v) q e) n0 ⟨v0, w.weak, by rw [e0], hq⟩ fun n Γ' S' ⟨v, wv, es, hl⟩ => ?_)
  subst es
  cases n with
  | zero => exact hl.elim
  | succ n =>
    have zw : ∀ {Q : Bool → Store → Prop}, ZT X (xOf S0 e) c (γ v) (S0 ++ s v) Q → ZT X (xOf S0 e) c Γ' (S0 ++ s v) Q := fun h F σ H co Q' k => h F σ H ⟨co.ok, co.hc, co.rg.weak wv, co.xr⟩ Q' k
    refine zw ((hc v _ e hl).mono fun t S1 ⟨e1, h1⟩ => ?_)
    subst e1
    cases t with
    | true =>
      rw [if_pos rfl]
      refine ((turn v _ e h1).weak wv).monoE ?_ (fun _ _ z => z) ?_ ?_
      · rintro g s' ⟨v', w', e', h'⟩
        exact ⟨n, Nat.lt_succ_self n, v', w', e', h'⟩
      · rintro g s' ⟨v', w', e', h'⟩
        subst e'
        exact (hk v' q e h').weak w'
      · rintro g s' ⟨v', w', e', h'⟩
        exact ⟨n, Nat.lt_succ_self n, v', w', e', h'⟩
    | false =>
      rw [if_neg Bool.false_ne_true]
      exact (hk v q e h1).weak wv
/-! ### the frame's own lists -/
theorem zx_new (i : Nat) (h : ZNA X S0 es Γ x ms) {f : List D → Cm ρ} (k : ∀ p ds, ZX X J rest (Γ.set i (some (.ref p))) (x ++ [(p, .lst ds)]) (f ds)) (hi : X.N[i]? = some y := by rfl) (hx : Loc X.env.scope y := by first | exact .inl rfl | exact .inr rfl)
    (hs : swapsWith (.List es p2) (some (.Name y p')) pos.line X.env = pure false := by rfl) (hf : X.fn y = true ∨ X.env.scope.names.lookup y = some .local := by first | exact .inl rfl | exact .inr rfl) : ZX X J (.Assign [.Name y p'] (.List es p2) pos :: rest) Γ x (ms.bind fun ds => .asr (ds.length ≤ 16777216) (f ds)) := fun q e hq =>
  zs_cons (z1_set (ze_cell ((h _ e hq).mono fun ds S1 ⟨e1, h1, h2⟩ => by
    subst e1
    refine ⟨small h1, fun p => ?_⟩
    have := k p ds q e h2
    rw [← List.append_assoc] at this
    exact this)) hi hx hs hf)
/-- a, b = u, [..] -/
theorem zx_parVN (i j : Nat) {kt k2 pt2} {px py pb : Pos} (h : ZN X S0 a Γ x ma) (h2 : ZNA X S0 es Γ x ms) {f : D → List D → Cm ρ} (k : ∀ d p ds, ZX X J rest ((Γ.set i (some d)).set j (some (.ref p))) (x ++ [(p, .lst ds)]) (f d ds))
    (hw : swappedStores [.Tuple [.Name y px, .Name z py] kt pt] (.Tuple [a, .List es pb] k2 pt2) X.env = pure (some [y, z]) := by rfl) (hi : X.N[i]? = some y := by rfl) (hj : X.N[j]? = some z := by rfl) (hij : i ≠ j := by decide)
    (hx : X.env.scope.names.lookup y = some .local := by rfl) (hy : X.env.scope.names.lookup z = some .local := by rfl)
    (hs : swapsWithSole [.Tuple [.Name y px, .Name z py] kt pt] (.Tuple [a, .List es pb] k2 pt2) pos.line X.env = pure false := by rfl)
    (s1 : starEach [a, .List es pb] X.env = (false, eval a X.env) :: starEach [.List es pb] X.env := by rfl) (s2 : starEach [.List es pb] X.env = (false, eval (.List es pb) X.env) :: starEach [] X.env := by rfl) :
    ZX X J (.Assign [.Tuple [.Name y px, .Name z py] kt pt] (.Tuple [a, .List es pb] k2 pt2) pos :: rest) Γ x (ma.bind fun u => ms.bind fun ds => .asr (ds.length ≤ 16777216) (f u ds)) := fun q e hq =>
  zs_cons (z1_par (i := i) (j := j) ((h _ e hq).mono fun d S1 ⟨e1, h1⟩ => by
    subst e1
    refine ze_cell ((h2 _ e h1).mono fun ds S2 ⟨e2, h3, h4⟩ => ?_)
    subst e2
    refine ⟨small h3, fun p => ?_⟩
    have := k d p ds q e h4
    rw [← List.append_assoc] at this
    exact this) hw hi hj hij hx hy hs s1 s2)
theorem zx_app (t : Nat) {p0 : Addr} {ds : List D} (hx : x[t]? = some (p0, .lst ds)) (ho : ZN X S0 o Γ x (.ok (.ref p0))) (h : ZN X S0 a Γ x m) {f : D → Cm ρ} (k : ∀ d, ZX X J rest Γ (x.set t (p0, .lst (ds ++ [d]))) (f d))
    (hov : ZV X o Γ (S0 ++ x) (.ref p0))
    (hsL : s1 X a := by rfl) (hbase : attributeBase o "append" X.env (eval o X.env) = eval o X.env := by rfl)
    (hfew : ((backTo pos (starEach [a] X.env)).all (fun x => !x.1) && (backToKw pos (keywordEach [] X.env)).all (fun x => x.1.isSome) && decide (([a] : List Expr).length + ([] : List Keyword).length + (if ([] : List Keyword).isEmpty then 0 else 1) < 30)) = true := by rfl)
    (hline : (apos.endLine == pos.line) = true := by rfl) (hs : swapsWith (.Call (.Attribute o "append" apos) [a] [] pos) none p1.line X.env = pure false := by rfl) :
    ZX X J (.Expr (.Call (.Attribute o "append" apos) [a] [] pos) p1 :: rest) Γ x (m.bind fun d => .asr (ds.length < 16777216) (f d)) := fun q e hq => by
  have at_ : (S0 ++ x)[S0.length + t]? = some (p0, Cell.lst ds) := by rw [List.getElem?_append_right (by omega), Nat.add_sub_cancel_left]; exact hx
  refine zs_cons (z1_expr (ze_append (k := S0.length + t) hov ((h _ e hq).mono fun d S1 ⟨e1, h1, h2⟩ => ?_) hsL hbase hfew hline ⟨_, at_⟩) hs)
  subst e1
  refine ⟨ds, at_, h1, ?_⟩
  rw [List.set_append_right _ _ (by omega), Nat.add_sub_cancel_left]
  exact k d q e h2
/-- a list that changes no more -/
theorem zx_ice (t i : Nat) {p0 : Addr} {ds : List D} (hx : x[t]? = some (p0, .lst ds)) (hi : Γ[i]? = some (some (.ref p0))) {f : Cm ρ} (k : ZX X J rest (Γ.set i (some (.lst ds))) (x.eraseIdx t) f) : ZX X J rest Γ x f := fun q e hq => by
  have at_ : (S0 ++ x)[S0.length + t]? = some (p0, Cell.lst ds) := by rw [List.getElem?_append_right (by omega), Nat.add_sub_cancel_left]; exact hx
  refine zs_ice (k := S0.length + t) (j := i) at_ hi .lst ?_
  rw [List.eraseIdx_append_of_length_le (by omega), Nat.add_sub_cancel_left]
  exact k q e hq
end
end Fz
end

section
namespace Fz
open PySem PySem.Spec PyProof.Rows L2 PySem.W
/-! ### the frame's own cells are lost at the def's end -/
theorem lose {K F} : ∀ {y S : Store} {H : Hp}, HC K F (S ++ y) H → HC K F S H ∧ Stp F (S ++ y) H S H
  | [], S, H, h => by rw [List.append_nil] at h ⊢; exact ⟨h, .refl⟩
  | (p, c) :: y, S, H, h => by
    have e : S ++ (p, c) :: y = (S ++ [(p, c)]) ++ y := by simp
    rw [e] at h ⊢
    obtain ⟨h1, t1⟩ := lose (y := y) h
    obtain ⟨f1, f2, _⟩ := h1.freeze
    exact ⟨f1, t1.trans f2⟩
section
variable {X : Cx} {S0 x : Store} {Γ : Gam} {body : List Stmt}
theorem xc_lose {K F} {y S : Store} {H : Hp} {d : Option Addr} {fl : List (Str × D)} (t : Stp F (S ++ y) H S H) (h : XcAt K F (S ++ y) H d fl) : XcAt K F S H d fl := by
  rcases h with h | ⟨dx, vs, e, a, r⟩
  · exact .inl h
  · exact .inr ⟨dx, vs, e, t.ext _ _ a, r.mono t.ext⟩
theorem zs_out {aE : AX} {aQ : DQ} (h : ZS X (xOf S0 fun c fs => aE c fs S0) body Γ S0 ((jT (S0 := S0)).en fun d => aQ d S0)) : ZS X aE body Γ S0 { nx := fun _ S' => aQ .non S', rt := aQ } := fun F σ H co D' k => by
  obtain ⟨E, tk, hE⟩ := co.xr.ex
  refine h F σ H ⟨co.ok, co.hc, co.rg, ⟨E, tk, ?_⟩⟩ D' ⟨?_, ?_, fun _ _ _ _ _ _ _ z => z.elim, fun _ _ _ _ _ _ _ z => z.elim⟩
  · rintro S' H' c d fl t hc ho ⟨y, rfl, he⟩
    obtain ⟨h1, t1⟩ := lose hc
    exact hE S0 H' c d fl (t.trans t1) h1 (xc_lose t1 ho) he
  · rintro σ' H' Γ' S' t hc rg ⟨y, rfl, hq⟩
    obtain ⟨h1, t1⟩ := lose hc
    exact k.nx σ' H' Γ' S0 (t.trans t1) h1 (rg.mono t1.ext) hq
  · rintro v H' d S' t hc r ⟨y, rfl, hq⟩
    obtain ⟨h1, t1⟩ := lose hc
    exact k.rt v H' d S0 (t.trans t1) h1 (r.mono t1.ext) hq
end
section
variable {P : Program} {w : World} {K : PySem.W.Frag} {mg : Str → Option Value} {base : Heap} {k : Nat} {f : Addr} {x qual : Str} {params : Arguments} {body : List Stmt} {scope : Scope} {dvs : List V} {kws : List (Str × V)} {fd : FuncData} {N ps : List Str}
abbrev cxD (P : Program) (w : World) (K : PySem.W.Frag) (mg : Str → Option Value) (base : Heap) (N : List Str) (qual : Str) (scope : Scope) (f : Addr) (cdv : Value) (A : Around) (outer : List Env) (s : Shared) (H : Hp) (E : XK) : Cx := cxOf (L2.CX P w) P w K mg base N qual scope f cdv A outer s H E
/-- a def whose body computes mm -/
theorem fn_c (Fd : FunD K x qual params body scope dvs kws f fd) (Sc : FnScope N ps scope) {mm : List D → Cm D} (len : ∀ ds q e, mm ds q e → ds.length = ps.length)
    (hb : ∀ (cdv : Value) (A : Around) (outer : List Env) (s : Shared) (H : Hp) (E : XK) (ds : List D) (S : Store), Room k (A.deeper (envOfC qual scope s.heap.objs.size f cdv)) → A.guards = some [] → ds.length = ps.length →
      ZX (cxD P w K mg base N qual scope f cdv A outer s H E) (jT (S0 := S)) body (startG N ds) [] (mm ds)) : FnG P w K mg base (k + 1) f fd ps (conc K (aspC mm)) :=
  fn_g Fd Sc (fun ds S Q E h => len ds _ _ h) fun cdv A outer s H E ds S aQ aE hr gd h => zs_out (by
    have := hb cdv A outer s H E ds S hr gd (len ds _ _ h) _ _ h
    rw [List.append_nil] at this
    exact this)
theorem fn_c0 (Fd : FunD K x qual params body scope dvs kws f fd) (Sc : FnScope N ps scope) {m : Cm D} (hp : ps.length = 0)
    (hb : ∀ (cdv : Value) (A : Around) (outer : List Env) (s : Shared) (H : Hp) (E : XK) (S : Store), Room k (A.deeper (envOfC qual scope s.heap.objs.size f cdv)) → A.guards = some [] → ZX (cxD P w K mg base N qual scope f cdv A outer s H E) (jT (S0 := S)) body (startG N []) [] m) : FnG P w K mg base (k + 1) f fd ps (conc K (aspC (Cm.u0 m))) :=
  fn_c Fd Sc (fun ds q e h => by match ds, h with | [], _ => exact hp.symm) fun cdv A outer s H E ds S hr gd hl => by
    match ds with
    | [] => exact hb cdv A outer s H E S hr gd
    | _ :: _ => exact zx_st
theorem fn_c1 (Fd : FunD K x qual params body scope dvs kws f fd) (Sc : FnScope N ps scope) {m : D → Cm D} (hp : ps.length = 1)
    (hb : ∀ (cdv : Value) (A : Around) (outer : List Env) (s : Shared) (H : Hp) (E : XK) (a : D) (S : Store), Room k (A.deeper (envOfC qual scope s.heap.objs.size f cdv)) → A.guards = some [] → ZX (cxD P w K mg base N qual scope f cdv A outer s H E) (jT (S0 := S)) body (startG N [a]) [] (m a)) : FnG P w K mg base (k + 1) f fd ps (conc K (aspC (Cm.u1 m))) :=
  fn_c Fd Sc (fun ds q e h => by match ds, h with | [a], _ => exact hp.symm) fun cdv A outer s H E ds S hr gd hl => by
    match ds with
    | [a] => exact hb cdv A outer s H E a S hr gd
    | [] | _ :: _ :: _ => exact zx_st
theorem fn_c2 (Fd : FunD K x qual params body scope dvs kws f fd) (Sc : FnScope N ps scope) {m : D → D → Cm D} (hp : ps.length = 2)
    (hb : ∀ (cdv : Value) (A : Around) (outer : List Env) (s : Shared) (H : Hp) (E : XK) (a b : D) (S : Store), Room k (A.deeper (envOfC qual scope s.heap.objs.size f cdv)) → A.guards = some [] → ZX (cxD P w K mg base N qual scope f cdv A outer s H E) (jT (S0 := S)) body (startG N [a, b]) [] (m a b)) : FnG P w K mg base (k + 1) f fd ps (conc K (aspC (Cm.u2 m))) :=
  fn_c Fd Sc (fun ds q e h => by match ds, h with | [a, b], _ => exact hp.symm) fun cdv A outer s H E ds S hr gd hl => by
    match ds with
    | [a, b] => exact hb cdv A outer s H E a b S hr gd
    | [] | [_] | _ :: _ :: _ :: _ => exact zx_st
theorem fn_c3 (Fd : FunD K x qual params body scope dvs kws f fd) (Sc : FnScope N ps scope) {m : D → D → D → Cm D} (hp : ps.length = 3)
    (hb : ∀ (cdv : Value) (A : Around) (outer : List Env) (s : Shared) (H : Hp) (E : XK) (a b c : D) (S : Store), Room k (A.deeper (envOfC qual scope s.heap.objs.size f cdv)) → A.guards = some [] → ZX (cxD P w K mg base N qual scope f cdv A outer s H E) (jT (S0 := S)) body (startG N [a, b, c]) [] (m a b c)) : FnG P w K mg base (k + 1) f fd ps (conc K (aspC (Cm.u3 m))) :=
  fn_c Fd Sc (fun ds q e h => by match ds, h with | [a, b, c], _ => exact hp.symm) fun cdv A outer s H E ds S hr gd hl => by
    match ds with
    | [a, b, c] => exact hb cdv A outer s H E a b c S hr gd
    | [] | [_] | [_, _] | _ :: _ :: _ :: _ :: _ => exact zx_st
theorem fn_c4 (Fd : FunD K x qual params body scope dvs kws f fd) (Sc : FnScope N ps scope) {m : D → D → D → D → Cm D} (hp : ps.length = 4)
    (hb : ∀ (cdv : Value) (A : Around) (outer : List Env) (s : Shared) (H : Hp) (E : XK) (a b c d : D) (S : Store), Room k (A.deeper (envOfC qual scope s.heap.objs.size f cdv)) → A.guards = some [] → ZX (cxD P w K mg base N qual scope f cdv A outer s H E) (jT (S0 := S)) body (startG N [a, b, c, d]) [] (m a b c d)) : FnG P w K mg base (k + 1) f fd ps (conc K (aspC (Cm.u4 m))) :=
  fn_c Fd Sc (fun ds q e h => by match ds, h with | [a, b, c, d], _ => exact hp.symm) fun cdv A outer s H E ds S hr gd hl => by
    match ds with
    | [a, b, c, d] => exact hb cdv A outer s H E a b c d S hr gd
    | [] | [_] | [_, _] | [_, _, _] | _ :: _ :: _ :: _ :: _ :: _ => exact zx_st
theorem fn_c5 (Fd : FunD K x qual params body scope dvs kws f fd) (Sc : FnScope N ps scope) {m : D → D → D → D → D → Cm D} (hp : ps.length = 5)
    (hb : ∀ (cdv : Value) (A : Around) (outer : List Env) (s : Shared) (H : Hp) (E : XK) (a b c d g : D) (S : Store), Room k (A.deeper (envOfC qual scope s.heap.objs.size f cdv)) → A.guards = some [] → ZX (cxD P w K mg base N qual scope f cdv A outer s H E) (jT (S0 := S)) body (startG N [a, b, c, d, g]) [] (m a b c d g)) : FnG P w K mg base (k + 1) f fd ps (conc K (aspC (Cm.u5 m))) :=
  fn_c Fd Sc (fun ds q e h => by match ds, h with | [a, b, c, d, g], _ => exact hp.symm) fun cdv A outer s H E ds S hr gd hl => by
    match ds with
    | [a, b, c, d, g] => exact hb cdv A outer s H E a b c d g S hr gd
    | [] | [_] | [_, _] | [_, _, _] | [_, _, _, _] | _ :: _ :: _ :: _ :: _ :: _ :: _ => exact zx_st
/-! ### defs that draw: the first parameter is the bag -/
def aspB (m : List D → Cm D) : ASp := fun ds S Q Ex => ∃ (p : Addr) (i : Nat) (es : List D), ds = .ref p :: es ∧ S[i]? = some (p, Cell.bag) ∧ m es (fun d => Q d S) (fun c fs => Ex c fs S)
theorem fn_b (Fd : FunD K x qual params body scope dvs kws f fd) (Sc : FnScope N ps scope) {mm : List D → Cm D} (len : ∀ ds q e, mm ds q e → ds.length + 1 = ps.length)
    (hb : ∀ (cdv : Value) (A : Around) (outer : List Env) (s : Shared) (H : Hp) (E : XK) (p : Addr) (i : Nat) (ds : List D) (S : Store), Room k (A.deeper (envOfC qual scope s.heap.objs.size f cdv)) → A.guards = some [] → S[i]? = some (p, Cell.bag) →
      ZX (cxD P w K mg base N qual scope f cdv A outer s H E) (jT (S0 := S)) body (startG N (.ref p :: ds)) [] (mm ds)) : FnG P w K mg base (k + 1) f fd ps (conc K (aspB mm)) :=
  fn_g Fd Sc (fun ds S Q E ⟨p, i, es, e1, e2, h⟩ => by rw [e1]; exact len es _ _ h) fun cdv A outer s H E ds S aQ aE hr gd ⟨p, i, es, e1, e2, h⟩ => zs_out (by
    subst e1
    have := hb cdv A outer s H E p i es S hr gd e2 _ _ h
    rw [List.append_nil] at this
    exact this)
theorem fn_b0 (Fd : FunD K x qual params body scope dvs kws f fd) (Sc : FnScope N ps scope) {m : Cm D} (hp : ps.length = 1)
    (hb : ∀ (cdv : Value) (A : Around) (outer : List Env) (s : Shared) (H : Hp) (E : XK) (p : Addr) (i : Nat) (S : Store), Room k (A.deeper (envOfC qual scope s.heap.objs.size f cdv)) → A.guards = some [] → S[i]? = some (p, Cell.bag) → ZX (cxD P w K mg base N qual scope f cdv A outer s H E) (jT (S0 := S)) body (startG N [.ref p]) [] m) : FnG P w K mg base (k + 1) f fd ps (conc K (aspB (Cm.u0 m))) :=
  fn_b Fd Sc (fun ds q e h => by match ds, h with | [], _ => exact hp.symm) fun cdv A outer s H E p i ds S hr gd hi => by
    match ds with
    | [] => exact hb cdv A outer s H E p i S hr gd hi
    | _ :: _ => exact zx_st
theorem fn_b1 (Fd : FunD K x qual params body scope dvs kws f fd) (Sc : FnScope N ps scope) {m : D → Cm D} (hp : ps.length = 2)
    (hb : ∀ (cdv : Value) (A : Around) (outer : List Env) (s : Shared) (H : Hp) (E : XK) (p : Addr) (i : Nat) (a : D) (S : Store), Room k (A.deeper (envOfC qual scope s.heap.objs.size f cdv)) → A.guards = some [] → S[i]? = some (p, Cell.bag) → ZX (cxD P w K mg base N qual scope f cdv A outer s H E) (jT (S0 := S)) body (startG N [.ref p, a]) [] (m a)) : FnG P w K mg base (k + 1) f fd ps (conc K (aspB (Cm.u1 m))) :=
  fn_b Fd Sc (fun ds q e h => by match ds, h with | [a], _ => exact hp.symm) fun cdv A outer s H E p i ds S hr gd hi => by
    match ds with
    | [a] => exact hb cdv A outer s H E p i a S hr gd hi
    | [] | _ :: _ :: _ => exact zx_st
theorem fn_b2 (Fd : FunD K x qual params body scope dvs kws f fd) (Sc : FnScope N ps scope) {m : D → D → Cm D} (hp : ps.length = 3)
    (hb : ∀ (cdv : Value) (A : Around) (outer : List Env) (s : Shared) (H : Hp) (E : XK) (p : Addr) (i : Nat) (a b : D) (S : Store), Room k (A.deeper (envOfC qual scope s.heap.objs.size f cdv)) → A.guards = some [] → S[i]? = some (p, Cell.bag) → ZX (cxD P w K mg base N qual scope f cdv A outer s H E) (jT (S0 := S)) body (startG N [.ref p, a, b]) [] (m a b)) : FnG P w K mg base (k + 1) f fd ps (conc K (aspB (Cm.u2 m))) :=
  fn_b Fd Sc (fun ds q e h => by match ds, h with | [a, b], _ => exact hp.symm) fun cdv A outer s H E p i ds S hr gd hi => by
    match ds with
    | [a, b] => exact hb cdv A outer s H E p i a b S hr gd hi
    | [] | [_] | _ :: _ :: _ :: _ => exact zx_st
theorem fn_b3 (Fd : FunD K x qual params body scope dvs kws f fd) (Sc : FnScope N ps scope) {m : D → D → D → Cm D} (hp : ps.length = 4)
    (hb : ∀ (cdv : Value) (A : Around) (outer : List Env) (s : Shared) (H : Hp) (E : XK) (p : Addr) (i : Nat) (a b c : D) (S : Store), Room k (A.deeper (envOfC qual scope s.heap.objs.size f cdv)) → A.guards = some [] → S[i]? = some (p, Cell.bag) → ZX (cxD P w K mg base N qual scope f cdv A outer s H E) (jT (S0 := S)) body (startG N [.ref p, a, b, c]) [] (m a b c)) : FnG P w K mg base (k + 1) f fd ps (conc K (aspB (Cm.u3 m))) :=
  fn_b Fd Sc (fun ds q e h => by match ds, h with | [a, b, c], _ => exact hp.symm) fun cdv A outer s H E p i ds S hr gd hi => by
    match ds with
    | [a, b, c] => exact hb cdv A outer s H E p i a b c S hr gd hi
    | [] | [_] | [_, _] | _ :: _ :: _ :: _ :: _ => exact zx_st
end
section
variable {X : Cx} {S0 x : Store} {Γ : Gam} {a b c o ex elt tg iter : Expr} {es : List Expr} {pos p p1 p2 apos pos' : Pos} {m ma mb mc : Cm D} {n ma' mb' : Cm Bool} {ms mk : Cm (List D)} {d : D} {k j l : Nat} {f : Str} {ks : List Str} {kws : List Keyword}
theorem asb_self {mm : List D → Cm D} {ds : List D} {q : D → Prop} {e : EX} {p0 : Addr} {i : Nat} (hb : S0[i]? = some (p0, Cell.bag)) (h : mm ds q e) : aspB mm (.ref p0 :: ds) (S0 ++ x) (fun d S' => S' = S0 ++ x ∧ q d) (xOf S0 e) :=
  ⟨p0, i, ds, rfl, by rw [List.getElem?_append_left (List.getElem?_eq_some_iff.mp hb).1]; exact hb, by rw [q_self, e_self]; exact h⟩
/-- f(bag, ..) -/
theorem zn_callB {mm : List D → Cm D} {p0 : Addr} {i : Nat} (C : AC X.prog X.w X.K X.mg X.base k f (l + 1) [] (fun ds _ => aspB mm ds)) (hr : Room j X.A) (hk : k ≤ j) (hb : S0[i]? = some (p0, Cell.bag)) (ha : ZN X S0 a Γ x (.ok (.ref p0))) (h : ZNA X S0 es Γ x ms) (hl : es.length = l := by rfl) (hg : Gl X f := by rfl) (hdb : dbgOk f := by decide)
    (he : starEach (a :: es) X.env = (false, eval a X.env) :: starEach es X.env := by rfl) (hpl : (backTo pos (starEach es X.env)).any (·.1) = false := by rfl) : ZN X S0 (.Call (.Name f p) (a :: es) [] pos) Γ x (ms.bind fun ds => .asr (ds.length = l) (mm ds)) := fun q e hq =>
  ze_call C hr hk (za_cons ((ha (fun d => d = .ref p0) e rfl).mono fun d S1 ⟨e1, e2⟩ => by
    subst e1 e2
    refine (h _ e hq).mono fun ds S2 ⟨e3, h1, h2⟩ => ?_
    subst e3
    exact ⟨by simp [h1], asb_self hb h2⟩) he) hg hdb he hpl
theorem zn_call0 {mm : List D → Cm D} (C : AC X.prog X.w X.K X.mg X.base k f 0 [] (fun ds _ => aspC mm ds)) (hr : Room j X.A) (hk : k ≤ j) (hg : Gl X f := by rfl) (hdb : dbgOk f := by decide) : ZN X S0 (.Call (.Name f p) [] [] pos) Γ x (mm []) := fun q e hq =>
  ze_call0 C hr hk (asp_self hq) hg hdb
/-! ### keywords -/
def ZNK (X : Cx) (S0 : Store) (kws : List Keyword) (Γ : Gam) (x : Store) (m : Cm (List D)) : Prop := ∀ (q : List D → Prop) (e : EX), m q e → ZK X (xOf S0 e) kws Γ (S0 ++ x) fun d S' => S' = S0 ++ x ∧ q d
theorem ZK.mono {Ex : AX} {S : Store} {Q Q1 : LQ} (h : ZK X Ex kws Γ S Q) (m : ∀ d S', Q d S' → Q1 d S') : ZK X Ex kws Γ S Q1 := fun F σ H c Q' q => h F σ H c Q' fun v H' d S' t hc r z => q v H' d S' t hc r (m d S' z)
theorem znk_nil : ZNK X S0 [] Γ x .nil := fun q e hq => zk_nil ⟨rfl, hq⟩
theorem znk_cons {nm kpos} (h : ZN X S0 a Γ x m) (h2 : ZNK X S0 kws Γ x ms) : ZNK X S0 (⟨nm, a, kpos⟩ :: kws) Γ x (.cons m ms) := fun q e hq => zk_cons ((h _ e hq).mono fun d S1 ⟨e1, h1⟩ => by
  subst e1
  exact (h2 _ e h1).mono fun ds S2 ⟨e2, h3⟩ => ⟨e2, h3⟩)
theorem zn_callK {mm : List D → Cm D} {g : List D → List D → List D} (C : AC X.prog X.w X.K X.mg X.base k f l ks (fun ds es => aspC mm (g ds es))) (hr : Room j X.A) (hk : k ≤ j) (h : ZNA X S0 (a :: es) Γ x ms) (h2 : ZNK X S0 kws Γ x mk) (hg : Gl X f := by rfl) (hdb : dbgOk f := by decide)
    (hall : (backToKw pos (keywordEach kws X.env)).all (·.1.isSome) = true := by rfl) (hks : (backToKw pos (keywordEach kws X.env)).filterMap (·.1) = ks := by rfl)
    (he : starEach (a :: es) X.env = (false, eval a X.env) :: starEach es X.env := by rfl) (hpl : ((backTo pos (starEach (a :: es) X.env)).any (·.1) || (backToKw pos (keywordEach kws X.env)).any (·.1.isNone)) = false := by rfl) : ZN X S0 (.Call (.Name f p) (a :: es) kws pos) Γ x (ms.bind fun ds => mk.bind fun zs => .asr (ds.length = l ∧ zs.length = ks.length) (mm (g ds zs))) := fun q e hq =>
  ze_callK C hr hk ((h _ e hq).mono fun ds S1 ⟨e1, h1⟩ => by
    subst e1
    refine (h2 _ e h1).mono fun zs S2 ⟨e2, h3, h4⟩ => ?_
    subst e2
    exact ⟨h3.1, h3.2, asp_self h4⟩) hg hdb hall hks he hpl
theorem zn_callK0 {mm : List D → Cm D} {g : List D → List D → List D} (C : AC X.prog X.w X.K X.mg X.base k f 0 ks (fun ds es => aspC mm (g ds es))) (hr : Room j X.A) (hk : k ≤ j) (h2 : ZNK X S0 kws Γ x mk) (hg : Gl X f := by rfl) (hdb : dbgOk f := by decide)
    (hall : (backToKw pos (keywordEach kws X.env)).all (·.1.isSome) = true := by rfl) (hks : (backToKw pos (keywordEach kws X.env)).filterMap (·.1) = ks := by rfl)
    (hpl : ((backTo pos (starEach [] X.env)).any (·.1) || (backToKw pos (keywordEach kws X.env)).any (·.1.isNone)) = false := by rfl) : ZN X S0 (.Call (.Name f p) [] kws pos) Γ x (mk.bind fun zs => .asr (zs.length = ks.length) (mm (g [] zs))) := fun q e hq =>
  ze_callK0 C hr hk ((h2 _ e hq).mono fun zs S2 ⟨e2, h3, h4⟩ => by
    subst e2
    exact ⟨h3, asp_self h4⟩) hg hdb hall hks hpl
/-! ### the own classes at hand -/
structure ClsT (K : Frag) (cs : List Str) : Prop where
  ins : ∀ c ∈ cs, C8.InsC K (He.ga K c)
  toT : ∀ c ∈ cs, ∀ T ∈ tyN, kitOne K (.ref (He.ga K c)) (.type T) = some false
  ofT : ∀ c ∈ cs, ∀ T ∈ tyN, kitOne K (.type T) (.ref (He.ga K c)) = some false
  tt : ∀ c ∈ cs, ∀ c' ∈ cs, kitOne K (.ref (He.ga K c)) (.ref (He.ga K c')) = some (decide (c = c'))
  nf : ∀ c ∈ cs, ∀ T ∈ tyN, notFirst K (He.ga K c) (.type T) = true
  nfc : ∀ c ∈ cs, ∀ c' ∈ cs, notFirst K (He.ga K c) (.ref (He.ga K c')) = true
theorem tbl_ok {K : Frag} {cs : List Str} (h : (Fb.tbl cs).ok K = true) : ClsT K cs := by
  have h1 : ∀ c ∈ cs, insB K c = true ∧ (∀ T ∈ tyN, kitOne K (.ref (He.ga K c)) (.type T) = some false ∧ kitOne K (.type T) (.ref (He.ga K c)) = some false ∧ notFirst K (He.ga K c) (.type T) = true) ∧ ∀ c' ∈ cs, kitOne K (.ref (He.ga K c)) (.ref (He.ga K c')) = some (decide (c = c')) ∧ notFirst K (He.ga K c) (.ref (He.ga K c')) = true := fun c hc => by
    have := List.all_eq_true.mp (show (cs.all fun c => insB K c && ((tyN.all fun T => decide (kitOne K (.ref (He.ga K c)) (.type T) = some false) && (decide (kitOne K (.type T) (.ref (He.ga K c)) = some false) && notFirst K (He.ga K c) (.type T))) && cs.all fun c' => decide (kitOne K (.ref (He.ga K c)) (.ref (He.ga K c')) = some (decide (c = c'))) && notFirst K (He.ga K c) (.ref (He.ga K c')))) = true from h) c hc
    simp only [Bool.and_eq_true, List.all_eq_true, decide_eq_true_eq] at this
    exact this
  exact ⟨fun c hc => ins_ok (x := c) (h1 c hc).1, fun c hc T hT => ((h1 c hc).2.1 T hT).1, fun c hc T hT => ((h1 c hc).2.1 T hT).2.1, fun c hc c' hc' => ((h1 c hc).2.2 c' hc').1, fun c hc T hT => ((h1 c hc).2.1 T hT).2.2, fun c hc c' hc' => ((h1 c hc).2.2 c' hc').2⟩
/-- the name of a value's built-in class -/
def tyB : D → Option String
  | .non => some "NoneType" | .bl _ => some "bool" | .int _ => some "int" | .str _ => some "str" | .tup _ => some "tuple" | .lst _ => some "list" | .scr _ => some "list" | .dk _ => some "dict" | .dt _ => some "dict"
  | _ => none
theorem tyB_ok {K : Frag} {S : Store} {d : D} {T : String} (h : tyB d = some T) : TyD K S d (.type T) ∧ T ∈ tyN := by
  cases d <;> first | (cases h; done) | skip
  · cases h; exact ⟨.non, by decide⟩
  · cases h; exact ⟨.bl, by decide⟩
  · cases h; exact ⟨.int, by decide⟩
  · cases h; exact ⟨.str, by decide⟩
  · cases h; exact ⟨.tup, by decide⟩
  · cases h; exact ⟨.lst, by decide⟩
  · cases h; exact ⟨.scr, by decide⟩
  · cases h; exact ⟨.dk, by decide⟩
  · cases h; exact ⟨.dt, by decide⟩
def subT (t T : String) : Bool := decide (t = T) || (decide (t = "bool") && decide (T = "int"))
def isaO (cs : List Str) (T : String) (d : D) : Option Bool := match d with
  | .obj _ c _ => if c ∈ cs then some false else none
  | d => (tyB d).map fun t => subT t T
def iscO (cs : List Str) (C : Str) (d : D) : Option Bool := match d with
  | .obj _ c _ => if c ∈ cs then some (decide (c = C)) else none
  | d => (tyB d).map fun _ => false
/-- what isinstance says -/
def IsaR (X : Cx) (u : Value) (g : D → Option Bool) : Prop := ∀ S d b, g d = some b → ∃ t, TyD X.K S d t ∧ kitOne X.K t u = some b
theorem isa_ok {cs : List Str} (ct : ClsT X.K cs) {T : String} (hT : T = "int" ∨ T = "bool" ∨ T = "str" ∨ T = "tuple" ∨ T = "list" ∨ T = "dict") : IsaR X (.type T) (isaO cs T) := fun S d b h => by
  have base : ∀ {t : String}, t ∈ tyN → kitOne X.K (.type t) (.type T) = some (subT t T) := fun {t} ht => by
    refine kit_ty ?_
    simp only [tyN, List.mem_cons, List.not_mem_nil, or_false] at ht
    rcases ht with rfl | rfl | rfl | rfl | rfl | rfl | rfl <;> rcases hT with rfl | rfl | rfl | rfl | rfl | rfl <;> decide +kernel
  have gen : (tyB d).map (fun t => subT t T) = some b → ∃ t, TyD X.K S d t ∧ kitOne X.K t (.type T) = some b := fun h => by
    cases ht : tyB d with
    | none => rw [ht] at h; cases h
    | some t =>
      rw [ht] at h
      cases h
      obtain ⟨h1, h2⟩ := tyB_ok (K := X.K) (S := S) ht
      exact ⟨_, h1, base h2⟩
  cases d with
  | obj p c fs =>
    have h : (if c ∈ cs then some false else none) = some b := h
    split at h
    · rename_i hc
      cases h
      refine ⟨_, .obj (ct.ins c hc), ct.toT c hc T ?_⟩
      rcases hT with rfl | rfl | rfl | rfl | rfl | rfl <;> decide
    · cases h
  | _ => exact gen h
theorem isc_ok {cs : List Str} (ct : ClsT X.K cs) {C : Str} (hC : C ∈ cs) : IsaR X (.ref (He.ga X.K C)) (iscO cs C) := fun S d b h => by
  have gen : (tyB d).map (fun _ => false) = some b → ∃ t, TyD X.K S d t ∧ kitOne X.K t (.ref (He.ga X.K C)) = some b := fun h => by
    cases ht : tyB d with
    | none => rw [ht] at h; cases h
    | some t =>
      rw [ht] at h
      cases h
      obtain ⟨h1, h2⟩ := tyB_ok (K := X.K) (S := S) ht
      exact ⟨_, h1, ct.ofT C hC t h2⟩
  cases d with
  | obj p c fs =>
    have h : (if c ∈ cs then some (decide (c = C)) else none) = some b := h
    split at h
    · rename_i hc
      cases h
      exact ⟨_, .obj (ct.ins c hc), ct.tt c hc C hC⟩
    · cases h
  | _ => exact gen h
namespace Cm
def isa (g : D → Option Bool) (m : Cm D) : Cm Bool := m.bind fun d => opt (g d)
@[simp] theorem isa_ok (g) (d) : isa g (ok d) = opt (g d) := funext fun _ => funext fun _ => propext Iff.rfl
end Cm
theorem zn_isa {u : Value} {g : D → Option Bool} (bn : Bn X.mg) (hu : ClN X f u) (hg' : IsaR X u g) (h : ZN X S0 a Γ x m) (hg : Gl X "isinstance" := by rfl) (hgn : Gl X f := by rfl) (hd : (f == ("__debug__" : Str)) = false := by decide)
    (he : starEach [a, .Name f p2] X.env = (false, eval a X.env) :: starEach [.Name f p2] X.env := by rfl) (hs1 : starEach [.Name f p2] X.env = (false, eval (.Name f p2) X.env) :: starEach [] X.env := by rfl) : ZN X S0 (.Call (.Name "isinstance" p) [a, .Name f p2] [] pos) Γ x (.ofB (.isa g m)) := fun q e hq =>
  ze_isi bn hu ((h _ e hq).mono fun d S1 ⟨e1, h1⟩ => by
    cases hf : g d with
    | none => have h2 : ((Cm.opt (g d)).bind fun t => Cm.ok (D.bl t)) q e := h1; rw [hf] at h2; exact h2.elim
    | some b =>
      have h2 : ((Cm.opt (g d)).bind fun t => Cm.ok (D.bl t)) q e := h1
      rw [hf] at h2
      obtain ⟨t, h3, h4⟩ := hg' S1 d b hf
      exact ⟨t, b, h3, h4, e1, h2⟩) hg hgn hd he hs1
/-! ### own equality -/
namespace Cm
/-- a value as the right side of an own == -/
def rhs (cs : List Str) (d : D) : Prop := (∃ T, tyB d = some T) ∨ ∃ p c fs, d = .obj p c fs ∧ c ∈ cs
def bI : D → Cm Bool
  | .bl t => ok t
  | _ => st
def eqC (cs : List Str) (c : Str) (g : D → D → Cm D) (a b : Cm D) : Cm Bool := a.bind fun d => match d with
  | .obj p c' fs => if c' = c then b.bind fun y => asr (rhs cs y) ((g (.obj p c' fs) y).bind bI) else st
  | _ => st
end Cm
theorem rhs_ty {cs : List Str} {C : Str} (ct : ClsT X.K cs) (hC : C ∈ cs) {y : D} (h : Cm.rhs cs y) (S : Store) : ∃ t, TyD X.K S y t ∧ notFirst X.K (He.ga X.K C) t = true := by
  rcases h with ⟨T, h⟩ | ⟨p, c, fs, rfl, h⟩
  · obtain ⟨h1, h2⟩ := tyB_ok (K := X.K) (S := S) h
    exact ⟨_, h1, ct.nf C hC T h2⟩
  · exact ⟨_, .obj (ct.ins c h), ct.nfc C hC c h⟩
theorem eq_ask {cs : List Str} {C : Str} {g : D → D → Cm D} {neg : Bool} {q : Bool → Prop} {e : EX} (ct : ClsT X.K cs) (hC : C ∈ cs) (hb : ZN X S0 b Γ x mb) (Q2 : DQ) (hQ : ∀ t, q t ↔ Q2 (.bl (if neg then !t else t)) (S0 ++ x)) {d : D}
    (h1 : (match d with | .obj p c' fs => if c' = C then mb.bind fun y => Cm.asr (Cm.rhs cs y) ((g (.obj p c' fs) y).bind Cm.bI) else .st | _ => (.st : Cm Bool)) q e) : eqAsk X (xOf S0 e) C (fun ds _ => aspC (Cm.u2 g) ds) b Γ neg Q2 d (S0 ++ x) := by
  cases d with
  | obj p c' fs =>
    have h2 : (if c' = C then mb.bind fun y => Cm.asr (Cm.rhs cs y) ((g (.obj p c' fs) y).bind Cm.bI) else .st) q e := h1
    split at h2
    · rename_i ec
      subst ec
      refine ⟨rfl, (hb _ e h2).mono fun y S2 ⟨e2, h3, h4⟩ => ?_⟩
      subst e2
      obtain ⟨t, h5, h6⟩ := rhs_ty ct hC h3 (S0 ++ x)
      refine ⟨rfl, t, h5, h6, ?_⟩
      show (g (.obj p c' fs) y) _ _
      rw [e_self]
      have e3 : (fun r => (Cm.bI r) q e) = fun r => ∃ z, r = .bl z ∧ Q2 (.bl (if neg = true then !z else z)) (S0 ++ x) := funext fun r => propext (by
        cases r with
        | bl t => exact ⟨fun h => ⟨t, rfl, (hQ t).mp h⟩, fun ⟨z, e1, h⟩ => by cases e1; exact (hQ t).mpr h⟩
        | _ => exact ⟨fun h => h.elim, fun ⟨z, e1, _⟩ => by cases e1⟩)
      rw [← e3]
      exact h4
    · exact h2.elim
  | _ => exact h1.elim
theorem zq_eqO {cs : List Str} {C : Str} {g : D → D → Cm D} (ct : ClsT X.K cs) (am : AM X.prog X.w X.K X.mg X.base k C "__eq__" 1 [] (fun ds _ => aspC (Cm.u2 g) ds)) (hr : Room j X.A) (hk : k ≤ j) (ha : ZN X S0 a Γ x ma) (hb : ZN X S0 b Γ x mb) (hC : C ∈ cs := by simp) (hm : behindInMarks .Eq b = false := by rfl) : ZQ X S0 (.Compare a [.Eq] [b] pos) Γ x (.eqC cs C g ma mb) := fun q e hq =>
  zt_eqO am hr hk ((ha _ e hq).mono fun d S1 ⟨e1, h1⟩ => by
    subst e1
    exact eq_ask ct hC hb _ (fun t => ⟨fun h => ⟨t, rfl, rfl, h⟩, fun ⟨u, e1, _, h⟩ => by cases e1; exact h⟩) h1) hm
theorem zn_eqO {cs : List Str} {C : Str} {g : D → D → Cm D} (ct : ClsT X.K cs) (am : AM X.prog X.w X.K X.mg X.base k C "__eq__" 1 [] (fun ds _ => aspC (Cm.u2 g) ds)) (hr : Room j X.A) (hk : k ≤ j) (ha : ZN X S0 a Γ x ma) (hb : ZN X S0 b Γ x mb) (hC : C ∈ cs := by simp) (hm : behindInMarks .Eq b = false := by rfl) : ZN X S0 (.Compare a [.Eq] [b] pos) Γ x (.ofB (.eqC cs C g ma mb)) := fun q e hq =>
  ze_eqO am hr hk ((ha (fun d => _) e hq).mono fun d S1 ⟨e1, h1⟩ => by
    subst e1
    exact eq_ask (q := fun t => q (.bl t)) ct hC hb _ (fun t => ⟨fun h => ⟨rfl, h⟩, fun h => h.2⟩) h1) hm
theorem zq_neO {cs : List Str} {C : Str} {g : D → D → Cm D} (ct : ClsT X.K cs) (am : AM X.prog X.w X.K X.mg X.base k C "__eq__" 1 [] (fun ds _ => aspC (Cm.u2 g) ds)) (ne : NeC X.K C) (hr : Room j X.A) (hk : k + 1 ≤ j) (ha : ZN X S0 a Γ x ma) (hb : ZN X S0 b Γ x mb) (hC : C ∈ cs := by simp) (hm : behindInMarks .NotEq b = false := by rfl) : ZQ X S0 (.Compare a [.NotEq] [b] pos) Γ x (.notC (.eqC cs C g ma mb)) := fun q e hq =>
  zt_neO am ne hr hk ((ha (fun d => _) e hq).mono fun d S1 ⟨e1, h1⟩ => by
    subst e1
    exact eq_ask (q := fun t => q (!t)) (neg := true) ct hC hb _ (fun t => ⟨fun h => ⟨_, rfl, rfl, h⟩, fun ⟨u, e1, _, h⟩ => by cases e1; exact h⟩) h1) hm
/-! ### any value as a test -/
namespace Cm
def truO : D → Option Bool
  | .non => some false
  | .bl b => some b
  | .int i => some (decide (i ≠ 0))
  | .str z => some (!z.isEmpty)
  | .tup ds => some (!ds.isEmpty)
  | .lst ds => some (!ds.isEmpty)
  | _ => none
def tru (m : Cm D) : Cm Bool := m.bind fun d => opt (truO d)
@[simp] theorem tru_ok (d) : tru (ok d) = opt (truO d) := funext fun _ => funext fun _ => propext Iff.rfl
end Cm
theorem truV_of {K F S H} {d : D} {v : V} {b : Bool} (r : Rep K (vw F S H) d v) (h : Cm.truO d = some b) : TruV K v H b := by
  cases r with
  | non => cases h; rfl
  | bl => cases h; rfl
  | @int i =>
    cases h
    show decide (i ≠ 0) = (i != 0)
    by_cases c : i = 0 <;> simp [c]
  | @str z hz =>
    cases h
    refine ⟨small (by show z.toArray.size ≤ _; simp; omega), ?_⟩
    cases z with
    | nil => simp [Str.length]
    | cons c z => simp [Str.length]; omega
  | @tup ds a xs h1 rr =>
    cases h
    refine .inr (.inl ⟨xs, st_H h1, ?_⟩)
    cases rr <;> rfl
  | @lst ds a xs h1 rr =>
    cases h
    refine .inl ⟨xs, SqL.of (hd_sub _ _ h1), ?_⟩
    cases rr <;> rfl
  | _ => cases h
theorem zq_tru (h : ZN X S0 ex Γ x m) (he : ∀ whole, isTrue ex X.env whole = (do let v ← whole; standAt ex.pos; holding [v] (truthy v)) := by intro _; rfl) : ZQ X S0 ex Γ x (.tru m) := fun q e hq => fun F σ H co Q' kq =>
  selfT_of (pt_truth pe_self he) (h _ e hq F σ H co _ fun v H1 d S1 t hc r ⟨e1, h1⟩ => by
    cases hd : Cm.truO d with
    | none => have h2 : (Cm.opt (Cm.truO d)) q e := h1; rw [hd] at h2; exact h2.elim
    | some b => have h2 : (Cm.opt (Cm.truO d)) q e := h1; rw [hd] at h2; exact ⟨b, truV_of r hd, kq _ _ _ t hc ⟨e1, h2⟩⟩)
/-- not .. of any value -/
theorem zq_notT (h : ZQ X S0 a Γ x n) : ZQ X S0 (.UnaryOp .Not a pos) Γ x (.notC n) := zq_not h
/-! ### own lists, read -/
theorem zn_peek {Γ' : Gam} {ps : List Addr} (g : SeenG (S0 ++ x) ps Γ Γ') (h : ZN X [] ex Γ' [] m) : ZN X S0 ex Γ x ((Cm.noer m).bind fun d => bif flatD d then .ok d else .st) := fun q e hq F σ H c Q' k => by
  have rg : RG X.K (vw (pkF F (S0 ++ x) ps) [] H) Γ' σ := ⟨g.1.trans c.rg.1, fun i d' e => by
    obtain ⟨d0, e0, s⟩ := g.2 i d' e
    obtain ⟨v, e1, r⟩ := c.rg.2 i d0 e0
    exact ⟨v, e1, s.rep c.hc r⟩⟩
  refine ((h _ _ hq).ax0) (pkF F (S0 ++ x) ps) σ H ⟨c.ok, pk_hc c.hc, rg, .none⟩ Q' fun v H' d' S' t hc r ⟨e1, e2⟩ => ?_
  subst e1
  obtain ⟨b1, b2⟩ := pk_back c.hc t
  cases hf : flatD d' with
  | true =>
    have e2 : (bif flatD d' then Cm.ok d' else .st) q e := e2
    rw [hf] at e2
    exact k v H' d' _ b2 b1 (flat_any r hf) ⟨rfl, e2⟩
  | false =>
    have e2 : (bif flatD d' then Cm.ok d' else .st) q e := e2
    rw [hf] at e2
    exact e2.elim
theorem zq_peek {Γ' : Gam} {ps : List Addr} (g : SeenG (S0 ++ x) ps Γ Γ') (h : ZQ X [] ex Γ' [] n) : ZQ X S0 ex Γ x (Cm.noer n) := fun q e hq F σ H c Q' k => by
  have rg : RG X.K (vw (pkF F (S0 ++ x) ps) [] H) Γ' σ := ⟨g.1.trans c.rg.1, fun i d' e => by
    obtain ⟨d0, e0, s⟩ := g.2 i d' e
    obtain ⟨v, e1, r⟩ := c.rg.2 i d0 e0
    exact ⟨v, e1, s.rep c.hc r⟩⟩
  refine ((h _ _ hq).ax0) (pkF F (S0 ++ x) ps) σ H ⟨c.ok, pk_hc c.hc, rg, .none⟩ Q' fun b H' S' t hc ⟨e1, e2⟩ => ?_
  subst e1
  obtain ⟨b1, b2⟩ := pk_back c.hc t
  exact k b H' _ b2 b1 ⟨rfl, e2⟩
end
end Fz
end

section
namespace Fz
open PySem PySem.Spec PyProof.Rows L2 PySem.W
/-! ### arguments, one by one -/
namespace Cm
theorem args0 (f : Cm D) : ((nil).bind fun ds => asr (ds.length = 0) (u0 f ds)) = f := by
  funext q e; exact propext ⟨fun h => h.2, fun h => ⟨rfl, h⟩⟩
theorem args1 (f : D → Cm D) (a : Cm D) : ((cons a nil).bind fun ds => asr (ds.length = 1) (u1 f ds)) = c1 f a := by
  have : ∀ x : D, asr ([x].length = 1) (u1 f [x]) = f x := fun x => asr_true rfl _
  unfold c1 cons nil
  simp only [bind_assoc, ok_bind, this]
theorem args2 (f : D → D → Cm D) (a b : Cm D) : ((cons a (cons b nil)).bind fun ds => asr (ds.length = 2) (u2 f ds)) = c2 f a b := by
  have : ∀ x y : D, asr ([x, y].length = 2) (u2 f [x, y]) = f x y := fun x y => asr_true rfl _
  unfold c2 cons nil
  simp only [bind_assoc, ok_bind, this]
theorem args3 (f : D → D → D → Cm D) (a b c : Cm D) : ((cons a (cons b (cons c nil))).bind fun ds => asr (ds.length = 3) (u3 f ds)) = c3 f a b c := by
  have : ∀ x y z : D, asr ([x, y, z].length = 3) (u3 f [x, y, z]) = f x y z := fun x y z => asr_true rfl _
  unfold c3 cons nil
  simp only [bind_assoc, ok_bind, this]
theorem args4 (f : D → D → D → D → Cm D) (a b c d : Cm D) : ((cons a (cons b (cons c (cons d nil)))).bind fun ds => asr (ds.length = 4) (u4 f ds)) = c4 f a b c d := by
  have : ∀ x y z w : D, asr ([x, y, z, w].length = 4) (u4 f [x, y, z, w]) = f x y z w := fun x y z w => asr_true rfl _
  unfold c4 cons nil
  simp only [bind_assoc, ok_bind, this]
theorem args5 (f : D → D → D → D → D → Cm D) (a b c d g : Cm D) : ((cons a (cons b (cons c (cons d (cons g nil))))).bind fun ds => asr (ds.length = 5) (u5 f ds)) = c5 f a b c d g := by
  have : ∀ x y z w v : D, asr ([x, y, z, w, v].length = 5) (u5 f [x, y, z, w, v]) = f x y z w v := fun x y z w v => asr_true rfl _
  unfold c5 cons nil
  simp only [bind_assoc, ok_bind, this]
/-- or, and as values, by truth -/
def orT (a b : Cm D) : Cm D := a.bind fun d => (opt (truO d)).bind fun t => bif t then ok d else b
def andT (a b : Cm D) : Cm D := a.bind fun d => (opt (truO d)).bind fun t => bif t then b else ok d
end Cm
section
variable {σ ρ α : Type} {X : Cx} {S0 x : Store} {J : Jn S0 ρ} {Γ : Gam} {a b c o ex elt tg iter value : Expr} {es : List Expr} {rest body t f : List Stmt} {pos p p1 p2 p3 apos pos' pt : Pos} {m ma mb mc md me : Cm D} {n : Cm Bool} {ms : Cm (List D)} {d : D} {k j : Nat} {y z g : Str}
theorem zn_orT (h : ZN X S0 a Γ x ma) (h2 : ZN X S0 (.BoolOp .Or (b :: es) pos) Γ x mb) : ZN X S0 (.BoolOp .Or (a :: b :: es) pos) Γ x (.orT ma mb) := fun q e hq => ze_of (pe_orT pe_self pe_self) fun F σ H co Q' kq => h _ e hq F σ H co _ fun v H1 d S1 t hc r ⟨e1, h1⟩ => by
  subst e1
  have h3 : ((Cm.opt (Cm.truO d)).bind fun t => bif t then Cm.ok d else mb) q e := h1
  cases hd : Cm.truO d with
  | none => rw [hd] at h3; exact h3.elim
  | some b =>
    rw [hd] at h3
    refine ⟨b, truV_of r hd, ?_⟩
    cases b with
    | true => rw [if_pos rfl]; exact kq _ _ _ _ t hc r ⟨rfl, h3⟩
    | false => rw [if_neg Bool.false_ne_true]; exact h2 q e h3 F σ H1 (co.step t hc) _ (kq.step t)
theorem zn_andT (h : ZN X S0 a Γ x ma) (h2 : ZN X S0 (.BoolOp .And (b :: es) pos) Γ x mb) : ZN X S0 (.BoolOp .And (a :: b :: es) pos) Γ x (.andT ma mb) := fun q e hq => ze_of (pe_andT pe_self pe_self) fun F σ H co Q' kq => h _ e hq F σ H co _ fun v H1 d S1 t hc r ⟨e1, h1⟩ => by
  subst e1
  have h3 : ((Cm.opt (Cm.truO d)).bind fun t => bif t then mb else Cm.ok d) q e := h1
  cases hd : Cm.truO d with
  | none => rw [hd] at h3; exact h3.elim
  | some b =>
    rw [hd] at h3
    refine ⟨b, truV_of r hd, ?_⟩
    cases b with
    | false => rw [if_neg Bool.false_ne_true]; exact kq _ _ _ _ t hc r ⟨rfl, h3⟩
    | true => rw [if_pos rfl]; exact h2 q e h3 F σ H1 (co.step t hc) _ (kq.step t)
theorem zx_retI {J : Jn S0 D} (h : ZN X S0 a Γ x m) (hJ : J.rt = id := by rfl) : ZX X J [.Return (some a) pos] Γ x m := fun q e hq => by
  have := zx_retU (J := J) (pos := pos) h q e (by rw [hJ]; exact hq)
  exact this
theorem zx_bkG (r : ρ) (h : ∀ q, q r → (J.en q).bk Γ (S0 ++ x)) : ZX X J [.Break pos] Γ x (.ok r) := fun q e hq => zs_one (z1_break (h q hq))
theorem zx_ctG (r : ρ) (h : ∀ q, q r → (J.en q).ct Γ (S0 ++ x)) : ZX X J [.Continue pos] Γ x (.ok r) := fun q e hq => zs_one (z1_continue (h q hq))
/-! ### calls by the number of arguments -/
section
variable {l : Nat}
theorem zn_c1 {f : D → Cm D} (C : AC X.prog X.w X.K X.mg X.base k g 1 [] (fun ds _ => aspC (.u1 f) ds)) (hr : Room j X.A) (hk : k ≤ j) (h : ZN X S0 a Γ x ma) (hg : Gl X g := by rfl) (hdb : dbgOk g := by decide)
    (h1 : s1 X a := by rfl) (hpl : (backTo pos (starEach [] X.env)).any (·.1) = false := by rfl) : ZN X S0 (.Call (.Name g p) [a] [] pos) Γ x (.c1 f ma) := by
  rw [← Cm.args1]; exact zn_call C hr hk (zna_cons h zna_nil h1) rfl hg hdb h1 hpl
theorem zn_c2 {f : D → D → Cm D} (C : AC X.prog X.w X.K X.mg X.base k g 2 [] (fun ds _ => aspC (.u2 f) ds)) (hr : Room j X.A) (hk : k ≤ j) (h : ZN X S0 a Γ x ma) (h' : ZN X S0 b Γ x mb) (hg : Gl X g := by rfl) (hdb : dbgOk g := by decide)
    (h1 : starEach [a, b] X.env = (false, eval a X.env) :: starEach [b] X.env := by rfl) (h2 : s1 X b := by rfl) (hpl : (backTo pos (starEach [b] X.env)).any (·.1) = false := by rfl) : ZN X S0 (.Call (.Name g p) [a, b] [] pos) Γ x (.c2 f ma mb) := by
  rw [← Cm.args2]; exact zn_call C hr hk (zna_cons h (zna_cons h' zna_nil h2) h1) rfl hg hdb h1 hpl
theorem zn_c3 {f : D → D → D → Cm D} (C : AC X.prog X.w X.K X.mg X.base k g 3 [] (fun ds _ => aspC (.u3 f) ds)) (hr : Room j X.A) (hk : k ≤ j) (h : ZN X S0 a Γ x ma) (h' : ZN X S0 b Γ x mb) (h'' : ZN X S0 c Γ x mc) (hg : Gl X g := by rfl) (hdb : dbgOk g := by decide)
    (h1 : starEach [a, b, c] X.env = (false, eval a X.env) :: starEach [b, c] X.env := by rfl) (h2 : starEach [b, c] X.env = (false, eval b X.env) :: starEach [c] X.env := by rfl) (h3 : s1 X c := by rfl) (hpl : (backTo pos (starEach [b, c] X.env)).any (·.1) = false := by rfl) : ZN X S0 (.Call (.Name g p) [a, b, c] [] pos) Γ x (.c3 f ma mb mc) := by
  rw [← Cm.args3]; exact zn_call C hr hk (zna_cons h (zna_cons h' (zna_cons h'' zna_nil h3) h2) h1) rfl hg hdb h1 hpl
theorem zn_c4 {f : D → D → D → D → Cm D} {d' : Expr} (C : AC X.prog X.w X.K X.mg X.base k g 4 [] (fun ds _ => aspC (.u4 f) ds)) (hr : Room j X.A) (hk : k ≤ j) (h : ZNA X S0 [a, b, c, d'] Γ x (.cons ma (.cons mb (.cons mc (.cons md .nil))))) (hg : Gl X g := by rfl) (hdb : dbgOk g := by decide)
    (h1 : starEach [a, b, c, d'] X.env = (false, eval a X.env) :: starEach [b, c, d'] X.env := by rfl) (hpl : (backTo pos (starEach [b, c, d'] X.env)).any (·.1) = false := by rfl) : ZN X S0 (.Call (.Name g p) [a, b, c, d'] [] pos) Γ x (.c4 f ma mb mc md) := by
  rw [← Cm.args4]; exact zn_call C hr hk h rfl hg hdb h1 hpl
theorem zn_c5 {f : D → D → D → D → D → Cm D} {d' e' : Expr} (C : AC X.prog X.w X.K X.mg X.base k g 5 [] (fun ds _ => aspC (.u5 f) ds)) (hr : Room j X.A) (hk : k ≤ j) (h : ZNA X S0 [a, b, c, d', e'] Γ x (.cons ma (.cons mb (.cons mc (.cons md (.cons me .nil)))))) (hg : Gl X g := by rfl) (hdb : dbgOk g := by decide)
    (h1 : starEach [a, b, c, d', e'] X.env = (false, eval a X.env) :: starEach [b, c, d', e'] X.env := by rfl) (hpl : (backTo pos (starEach [b, c, d', e'] X.env)).any (·.1) = false := by rfl) : ZN X S0 (.Call (.Name g p) [a, b, c, d', e'] [] pos) Γ x (.c5 f ma mb mc md me) := by
  rw [← Cm.args5]; exact zn_call C hr hk h rfl hg hdb h1 hpl
theorem zn_cB0 {m : Cm D} {p0 : Addr} {i : Nat} (C : AC X.prog X.w X.K X.mg X.base k g 1 [] (fun ds _ => aspB (.u0 m) ds)) (hr : Room j X.A) (hk : k ≤ j) (hb : S0[i]? = some (p0, Cell.bag)) (ha : ZN X S0 a Γ x (.ok (.ref p0))) (hg : Gl X g := by rfl) (hdb : dbgOk g := by decide)
    (he : s1 X a := by rfl) (hpl : (backTo pos (starEach [] X.env)).any (·.1) = false := by rfl) : ZN X S0 (.Call (.Name g p) [a] [] pos) Γ x m := by
  have := zn_callB (pos := pos) (p := p) C hr hk hb ha zna_nil rfl hg hdb he hpl
  rw [Cm.args0] at this; exact this
theorem zn_cB1 {f : D → Cm D} {p0 : Addr} {i : Nat} (C : AC X.prog X.w X.K X.mg X.base k g 2 [] (fun ds _ => aspB (.u1 f) ds)) (hr : Room j X.A) (hk : k ≤ j) (hb : S0[i]? = some (p0, Cell.bag)) (ha : ZN X S0 a Γ x (.ok (.ref p0))) (h : ZN X S0 b Γ x mb) (hg : Gl X g := by rfl) (hdb : dbgOk g := by decide)
    (he : starEach [a, b] X.env = (false, eval a X.env) :: starEach [b] X.env := by rfl) (h2 : s1 X b := by rfl) (hpl : (backTo pos (starEach [b] X.env)).any (·.1) = false := by rfl) : ZN X S0 (.Call (.Name g p) [a, b] [] pos) Γ x (.c1 f mb) := by
  rw [← Cm.args1]; exact zn_callB C hr hk hb ha (zna_cons h zna_nil h2) rfl hg hdb he hpl
theorem zn_cB2 {f : D → D → Cm D} {p0 : Addr} {i : Nat} (C : AC X.prog X.w X.K X.mg X.base k g 3 [] (fun ds _ => aspB (.u2 f) ds)) (hr : Room j X.A) (hk : k ≤ j) (hb : S0[i]? = some (p0, Cell.bag)) (ha : ZN X S0 a Γ x (.ok (.ref p0))) (h : ZN X S0 b Γ x mb) (h' : ZN X S0 c Γ x mc) (hg : Gl X g := by rfl) (hdb : dbgOk g := by decide)
    (he : starEach [a, b, c] X.env = (false, eval a X.env) :: starEach [b, c] X.env := by rfl) (h2 : starEach [b, c] X.env = (false, eval b X.env) :: starEach [c] X.env := by rfl) (h3 : s1 X c := by rfl) (hpl : (backTo pos (starEach [b, c] X.env)).any (·.1) = false := by rfl) : ZN X S0 (.Call (.Name g p) [a, b, c] [] pos) Γ x (.c2 f mb mc) := by
  rw [← Cm.args2]; exact zn_callB C hr hk hb ha (zna_cons h (zna_cons h' zna_nil h3) h2) rfl hg hdb he hpl
theorem zn_cB3 {f : D → D → D → Cm D} {d' : Expr} {p0 : Addr} {i : Nat} (C : AC X.prog X.w X.K X.mg X.base k g 4 [] (fun ds _ => aspB (.u3 f) ds)) (hr : Room j X.A) (hk : k ≤ j) (hb : S0[i]? = some (p0, Cell.bag)) (ha : ZN X S0 a Γ x (.ok (.ref p0))) (h : ZNA X S0 [b, c, d'] Γ x (.cons mb (.cons mc (.cons md .nil)))) (hg : Gl X g := by rfl) (hdb : dbgOk g := by decide)
    (he : starEach [a, b, c, d'] X.env = (false, eval a X.env) :: starEach [b, c, d'] X.env := by rfl) (hpl : (backTo pos (starEach [b, c, d'] X.env)).any (·.1) = false := by rfl) : ZN X S0 (.Call (.Name g p) [a, b, c, d'] [] pos) Γ x (.c3 f mb mc md) := by
  rw [← Cm.args3]; exact zn_callB C hr hk hb ha h rfl hg hdb he hpl
end
/-! ### the frame of an __init__ -/
theorem zx_fld {c0 : Str} (t : Nat) {p0 : Addr} {fs : List (Str × D)} (hf : Fld X.K c0 g) (hx : x[t]? = some (p0, .ins c0 fs)) (h : ZN X S0 a Γ x m) (ho : ZV X o Γ (S0 ++ x) (.ref p0)) {f : D → Cm ρ} (k : ∀ d, ZX X J rest Γ (x.set t (p0, .ins c0 (putG g d fs))) (f d))
    (hs : swapsWith a (some (.Attribute o g pos')) pos.line X.env = pure false := by rfl) : ZX X J (.Assign [.Attribute o g pos'] a pos :: rest) Γ x (m.bind fun d => .asr (fs.length < 1000) (f d)) := fun q e hq => by
  have at_ : (S0 ++ x)[S0.length + t]? = some (p0, Cell.ins c0 fs) := by rw [List.getElem?_append_right (by omega), Nat.add_sub_cancel_left]; exact hx
  refine zs_cons (z1_fld (k := S0.length + t) (q := p0) hf ((h _ e hq).mono fun d S1 ⟨e1, h1, h2⟩ => ?_) hs)
  subst e1
  refine ho.ze ⟨rfl, fs, at_, h1, ?_⟩
  rw [List.set_append_right _ _ (by omega), Nat.add_sub_cancel_left]
  exact k d q e h2
abbrev Flds := List (Str × D)
def jI (S0 : Store) (c : Str) (p0 : Addr) : Jn S0 (Option Flds) := ⟨fun _ => none, fun q => { nx := fun _ S' => ∃ fs y, S' = S0 ++ (p0, .ins c fs) :: y ∧ q (some fs), rt := fun _ _ => q none }, fun q d y h => h⟩
theorem zx_fallI {c0 : Str} {p0 : Addr} {fs : Flds} {y : Store} (hx : x = (p0, .ins c0 fs) :: y := by rfl) : ZX X (jI S0 c0 p0) [] Γ x (.ok (some fs)) := fun q e hq => zs_nil ⟨fs, y, by rw [hx], hq⟩
end
namespace Cm
def insQ (q : Flds → Prop) : Option Flds → Prop
  | some fs => q fs
  | none => False
/-- a new instance -/
def mk (c : Str) (m : Cm (Option Flds)) : Cm D := m.bind fun o => match o with
  | some fs => ok (.obj 0 c fs)
  | none => st
@[simp] theorem mk_ok (c : Str) (fs : Flds) : mk c (ok (some fs)) = ok (.obj 0 c fs) := funext fun _ => funext fun _ => propext Iff.rfl
end Cm
def aspI (c : Str) (m : List D → Cm (Option Flds)) : ASp := fun ds S1 Q Ex => ∃ (p : Addr) (S : Store) (es : List D), ds = .ref p :: es ∧ S1 = S ++ [(p, .ins c [])] ∧ m es (Cm.insQ fun fs => Q .non (S ++ [(p, .ins c fs)])) (fun c fs => Ex c fs S)
section
variable {P : Program} {w : World} {K : PySem.W.Frag} {mg : Str → Option Value} {base : Heap} {k : Nat} {f : Addr} {x qual : Str} {params : Arguments} {body : List Stmt} {scope : Scope} {dvs : List V} {kws : List (Str × V)} {fd : FuncData} {N ps ks : List Str} {c : Str} {n : Nat} {mm : List D → Cm (Option Flds)} {gD : List D → List D → List D}
theorem fn_i (Fd : FunD K x qual params body scope dvs kws f fd) (Sc : FnScope N ps scope) (len : ∀ ds q e, mm ds q e → ds.length + 1 = ps.length)
    (hb : ∀ (cdv : Value) (A : Around) (outer : List Env) (s : Shared) (H : Hp) (E : XK) (p : Addr) (ds : List D) (S : Store), Room k (A.deeper (envOfC qual scope s.heap.objs.size f cdv)) → A.guards = some [] →
      ZX (cxD P w K mg base N qual scope f cdv A outer s H E) (jI S c p) body (startG N (.ref p :: ds)) [(p, .ins c [])] (mm ds)) : FnG P w K mg base (k + 1) f fd ps (conc K (aspI c mm)) :=
  fn_g Fd Sc (fun ds S Q E ⟨p, S0, es, e1, e2, h⟩ => by rw [e1]; exact len es _ _ h) fun cdv A outer s H E ds S aQ aE hr gd ⟨p, S0, es, e1, e2, h⟩ => by
    subst e1 e2
    have z := hb cdv A outer s H E p es S0 hr gd _ _ h
    intro F σ H1 co D' k'
    obtain ⟨E', tk, hE⟩ := co.xr.ex
    have e3 : ∀ {y : Store} {fs : Flds}, S0 ++ (p, Cell.ins c fs) :: y = (S0 ++ [(p, .ins c fs)]) ++ y := fun {y fs} => by simp
    have back : ∀ {S' : Store} {H' : Hp}, Stp F (S0 ++ [(p, Cell.ins c [])]) H1 S' H' → Stp F (S0 ++ [(p, Cell.ins c [])]) H1 S' H' := id
    refine z F σ H1 ⟨co.ok, co.hc, co.rg, ⟨E', tk, ?_⟩⟩ D' ⟨?_, fun _ _ _ _ _ _ _ z => z.elim, fun _ _ _ _ _ _ _ z => z.elim, fun _ _ _ _ _ _ _ z => z.elim⟩
    · rintro S' H' c' d fl t hc ho ⟨y, rfl, he⟩
      obtain ⟨h1, t1⟩ := lose hc
      exact hE S0 H' c' d fl (t.trans t1) h1 (xc_lose t1 ho) he
    · rintro σ' H' Γ' S' t hc rg ⟨fs, y, rfl, hq⟩
      have t2 : Stp F (S0 ++ [(p, Cell.ins c [])]) H1 ((S0 ++ [(p, Cell.ins c fs)]) ++ y) H' := by rw [← e3]; exact t
      have hc2 : HC K F ((S0 ++ [(p, Cell.ins c fs)]) ++ y) H' := by rw [← e3]; exact hc
      obtain ⟨h1, t1⟩ := lose hc2
      exact k'.nx σ' H' Γ' _ (t2.trans t1) h1 (RG.mono t1.ext (by rw [← e3]; exact rg)) hq
theorem QR.obj0 {F : List Addr} {S : Store} {H : Hp} {Q : DQ} {Q' : VK} {c : Str} (h : QR K F S H Q Q') : QR K F S H (fun d S' => ∃ p fs, d = .obj p c fs ∧ Q (.obj 0 c fs) S') Q' := fun v H' d S' t hc r ⟨p, fs, e, q⟩ => by
  subst e
  cases r with
  | obj h1 rf => exact h _ H' _ S' t hc (.obj (a := 0) h1 rf) q
/-- the class, called -/
theorem can_mk {C : Addr} (M : Mk K C f) (ec : C = He.ga K c) (F : FnG P w K mg base k f fd ps (conc K (aspI c mm))) (b : Bd K fd ps (n + 1) ks gD) {g : List D → List D → List D} (hg : ∀ p ds es, ds.length = n → es.length = ks.length → gD (.ref p :: ds) es = .ref p :: g ds es) :
    CanCall P w K mg base (k + 1) (.ref C) n ks (fun ds es => aspC (fun zs => Cm.mk c (mm zs)) (g ds es)) := by
  have cm := can_make (sp := fun ds es S Q Ex => ∀ p, (mm (g ds es)) (Cm.insQ fun fs => (Q (.ref p) (S ++ [(p, Cell.ins c fs)])) ∨ Q (.obj p c fs) S) (fun c fs => Ex c fs S)) (n := n) (ks := ks) (c := c) M ec F b (fun ds es S Q Ex l1 l2 h p => by
    rw [hg p ds es l1 l2]
    refine ⟨p, S, g ds es, rfl, rfl, ?_⟩
    have e : (Cm.insQ fun fs => (D.non = D.non ∧ ((Q (.ref p) (S ++ [(p, Cell.ins c fs)])) ∨ ∃ fs' S3, S ++ [(p, Cell.ins c fs)] = S3 ++ [(p, .ins c fs')] ∧ Q (.obj p c fs') S3))) = (Cm.insQ fun fs => (Q (.ref p) (S ++ [(p, Cell.ins c fs)])) ∨ Q (.obj p c fs) S) := by
      funext o
      cases o with
      | none => rfl
      | some fs =>
        refine propext ⟨fun ⟨_, z⟩ => ?_, fun z => ⟨rfl, ?_⟩⟩
        · rcases z with z | ⟨fs', S3, e, z⟩
          · exact .inl z
          · have := List.append_inj' e rfl
            obtain ⟨e1, e2⟩ := this
            cases e2
            subst e1
            exact .inr z
        · rcases z with z | z
          · exact .inl z
          · exact .inr ⟨fs, S, rfl, z⟩
    rw [e]
    exact h p)
  intro X h1 h2 h3 h4 h5 A' fr hr gd F' S Ex pins σ H s us ws vs zs ds es Q Q' I hc xr r rz rd re l1 l2 ha hq
  refine cm X h1 h2 h3 h4 h5 A' fr hr gd F' S Ex pins σ H s us ws vs zs ds es (fun d S' => ∃ p fs, d = .obj p c fs ∧ Q (.obj 0 c fs) S') Q' I hc xr r rz rd re l1 l2 (fun p => ?_) hq.obj0
  have e : (Cm.insQ fun fs => (∃ p' fs', D.ref p = .obj p' c fs' ∧ Q (.obj 0 c fs') (S ++ [(p, Cell.ins c fs)])) ∨ ∃ p' fs', D.obj p c fs = .obj p' c fs' ∧ Q (.obj 0 c fs') S) = fun o => (match o with | some fs => Cm.ok (D.obj 0 c fs) | none => Cm.st : Cm D) (fun d => Q d S) (fun c fs => Ex c fs S) := by
    funext o
    cases o with
    | none => rfl
    | some fs =>
      refine propext ⟨fun z => ?_, fun z => .inr ⟨p, fs, rfl, z⟩⟩
      rcases z with ⟨_, _, z, _⟩ | ⟨p', fs', z, h⟩
      · cases z
      · cases z; exact h
  rw [e]
  exact ha
end
/-! ### weaker promises -/
theorem AC.imp {P : Program} {w : World} {K : PySem.W.Frag} {mg : Str → Option Value} {base : Heap} {k : Nat} {x : Str} {n : Nat} {ks : List Str} {a1 a2 : ASk} (h : AC P w K mg base k x n ks a1) (hi : ∀ ds es S Q Ex, a2 ds es S Q Ex → a1 ds es S Q Ex) : AC P w K mg base k x n ks a2 := by
  obtain ⟨u, h1, h2, h3⟩ := h.ex
  exact ⟨⟨u, h1, h2, fun X e1 e2 e3 e4 e5 A' fr hr gd F' S Ex pins σ H s us ws vs zs ds es Q Q' I hc xr r rz rd re l1 l2 ha hq => h3 X e1 e2 e3 e4 e5 A' fr hr gd F' S Ex pins σ H s us ws vs zs ds es Q Q' I hc xr r rz rd re l1 l2 (hi _ _ _ _ _ ha) hq⟩⟩
/-! ### draws -/
namespace Cm
def draw (w : Int) : Cm D := fun q _ => 1 ≤ w ∧ w < 1073741824 ∧ ∀ r : Int, 0 ≤ r → r < w → q (.int r)
def drawD : D → Cm D
  | .int w => draw w
  | _ => st
/-- a bag of script[k] -/
def bag (a b : Cm D) (m : Cm D) : Cm D := a.bind fun u => b.bind fun v => match u, v with
  | .scr ns, .int k => asr (0 ≤ k ∧ k < 100 ∧ ns.length < 100) m
  | _, _ => st
end Cm
theorem draw_ask {ds : List D} {S : Store} {Q : DQ} {Ex : AX} (h : aspB (Cm.u1 Cm.drawD) ds S Q Ex) : spDraw ds S Q Ex := by
  obtain ⟨p, i, zs, e, hi, h⟩ := h
  match zs, e, h with
  | [], e, h => exact h.elim
  | _ :: _ :: _, e, h => exact h.elim
  | [d], e, h => cases d with
    | int w => exact ⟨p, i, w, e, hi, h.1, h.2.1, h.2.2⟩
    | _ => exact h.elim
section
variable {X : Cx} {S0 x : Store} {Γ : Gam} {a b c : Expr} {es : List Expr} {pos p p1 p2 : Pos} {m ma mb : Cm D} {k k2 j : Nat} {g g2 : Str}
/-- f(bag(script, k)) -/
theorem zn_bagged (B : AC X.prog X.w X.K X.mg X.base k g2 2 [] (fun ds _ => spBag ds)) (C : AC X.prog X.w X.K X.mg X.base k2 g 1 [] (fun ds _ => aspB (.u0 m) ds)) (hr : Room j X.A) (hk : k ≤ j) (hk2 : k2 ≤ j) (h : ZN X S0 a Γ x ma) (h' : ZN X S0 b Γ x mb) (hg : Gl X g := by rfl) (hdb : dbgOk g := by decide) (hg2 : Gl X g2 := by rfl) (hdb2 : dbgOk g2 := by decide)
    (e1 : starEach [a, b] X.env = (false, eval a X.env) :: starEach [b] X.env := by rfl) (e2 : s1 X b := by rfl) (hpl : (backTo p2 (starEach [b] X.env)).any (·.1) = false := by rfl) (e3 : s1 X (.Call (.Name g2 p1) [a, b] [] p2) := by rfl) (hpl2 : (backTo pos (starEach [] X.env)).any (·.1) = false := by rfl) :
    ZN X S0 (.Call (.Name g p) [.Call (.Name g2 p1) [a, b] [] p2] [] pos) Γ x (.bag ma mb m) := fun q e hq => by
  refine ze_drop (ze_call C hr hk2 (za_cons (ze_call B hr hk (za_cons ((h _ e hq).mono fun u S1 ⟨z1, h1⟩ => ?_) e1) hg2 hdb2 e1 hpl) e3) hg hdb e3 hpl2)
  subst z1
  refine za_cons ((h' _ e h1).mono fun v S2 ⟨z2, h2⟩ => za_nil ?_) e2
  subst z2
  cases u with
  | scr ns => cases v with
   | int k =>
    obtain ⟨⟨k0, k1, n1⟩, h3⟩ := h2
    refine ⟨rfl, ns, k.toNat, by rw [Int.toNat_of_nonneg k0], by omega, n1, fun p0 => za_nil ⟨rfl, p0, (S0 ++ x).length, [], rfl, by simp, ?_⟩⟩
    have e4 : (fun d => ∃ S pc, (S0 ++ x) ++ [(p0, Cell.bag)] = S ++ [pc] ∧ S = S0 ++ x ∧ q d) = q := funext fun d => propext ⟨fun ⟨_, _, _, _, z⟩ => z, fun z => ⟨_, _, rfl, rfl, z⟩⟩
    have e5 : (fun c fs => xOf S0 e c fs ((S0 ++ x) ++ [(p0, Cell.bag)])) = e := funext fun c => funext fun fs => propext ⟨fun ⟨_, _, z⟩ => z, fun z => ⟨x ++ [(p0, Cell.bag)], by simp, z⟩⟩
    show m _ _
    rw [e4, e5]
    exact h3
   | _ => exact h2.elim
  | _ => exact h2.elim
end
end Fz
end

section
namespace Fz
open PySem PySem.Spec PyProof.Rows L2 PySem.W
namespace Cm
variable {ρ : Type}
/-- a value that needs no heap, read while lists may still change -/
def pk (m : Cm D) : Cm D := (noer m).bind fun d => bif flatD d then ok d else st
@[reducible] def let2 (ma mb : Cm D) (f : D → D → Cm ρ) : Cm ρ := ma.bind fun u => mb.bind fun v => f u v
@[reducible] def let3 (ma mb mc : Cm D) (f : D → D → D → Cm ρ) : Cm ρ := ma.bind fun u => mb.bind fun v => mc.bind fun w => f u v w
def jrun : List (Cm D) → List Nat → Cm D
  | [], acc => ok (.str acc)
  | m :: ms, acc => m.bind fun d => match d with
    | .str z => asr (acc.length + z.length ≤ 16777000) (jrun ms (acc ++ z))
    | _ => st
def joinF (ms : List (Cm D)) : Cm D := jrun ms []
def ixL (ds : List D) (b : Cm D) : Cm D := b.bind fun i => match i with
  | .int i => opt (atI ds i)
  | _ => st
@[simp] theorem ixL_ok (ds : List D) (i : Int) : ixL ds (ok (.int i)) = opt (atI ds i) := funext fun _ => funext fun _ => propext Iff.rfl
end Cm
def negO : D → Option D
  | .int i => some (.int (-i))
  | _ => none
def augA : D → D → Option D
  | .int i, .int j => some (.int (i + j))
  | _, _ => none
def augS : D → D → Option D
  | .int i, .int j => some (.int (i - j))
  | _, _ => none
section
variable {σ ρ α : Type} {X : Cx} {S0 x : Store} {J : Jn S0 ρ} {Γ : Gam} {a b c o ex elt tg iter value : Expr} {es : List Expr} {rest body t f : List Stmt} {pos p p1 p2 p3 apos pos' pt : Pos} {m ma mb mc md me : Cm D} {n : Cm Bool} {ms : Cm (List D)} {d : D} {k j : Nat} {y z g : Str} {scope : Scope} {kws : List Keyword}
theorem own_at {k : Nat} {c : Addr × Cell} (t : Nat) (h : x[t]? = some c) : (S0 ++ x)[S0.length + t]? = some c := by rw [List.getElem?_append_right (by omega), Nat.add_sub_cancel_left]; exact h
/-! ### expressions -/
theorem zn_neg' (h : ZN X S0 a Γ x m) : ZN X S0 (.UnaryOp .USub a pos) Γ x (.b1 negO m) := fun q e hq => ze_neg ((h _ e hq).mono fun u S1 ⟨e1, h1⟩ => by
  cases u with
  | int i => exact ⟨i, rfl, e1, h1⟩
  | _ => exact h1.elim)
theorem zn_notTr (h : ZN X S0 a Γ x m) : ZN X S0 (.UnaryOp .Not a pos) Γ x (.ofB (.notC (.tru m))) := fun q e hq => ze_of (pe_notT pe_self) fun F σ H co Q' kq => h _ e hq F σ H co _ fun v H1 d S1 t hc r ⟨e1, h1⟩ => by
  have h3 : ((Cm.opt (Cm.truO d)).bind fun t => Cm.ok (D.bl (!t))) q e := h1
  cases hd : Cm.truO d with
  | none => rw [hd] at h3; exact h3.elim
  | some b => rw [hd] at h3; exact ⟨b, truV_of r hd, kq _ _ _ _ t hc .bl ⟨e1, h3⟩⟩
theorem zq_chain {op op' : CmpOp} {f g : D → D → Option Bool} (ho : Cp2 X op f) (ho' : Cp2 X op' g) (ha : ZN X S0 a Γ x ma) (hb : ZN X S0 b Γ x mb) (hc : ZN X S0 c Γ x mc) (h2 : lastMarks [op, op'] [b, c] = false := by rfl)
    (he : ∀ whole, isTrue (.Compare a [op, op'] [b, c] pos) X.env whole = (do let v ← whole; standAt (Expr.Compare a [op, op'] [b, c] pos).pos; holding [v] (truthy v)) := by intro _; rfl) : ZQ X S0 (.Compare a [op, op'] [b, c] pos) Γ x (.q3 f g ma mb mc) := zq_ofB (zn_chain ho ho' ha hb hc h2) he
theorem zn_peek' {Γ' : Gam} {ps : List Addr} (g : SeenG (S0 ++ x) ps Γ Γ') (h : ZN X [] ex Γ' [] m) : ZN X S0 ex Γ x (.pk m) := zn_peek g h
theorem zn_ixC (t : Nat) {p0 : Addr} {ds : List D} (hx : x[t]? = some (p0, .lst ds)) (ho : ZV X o Γ (S0 ++ x) (.ref p0)) (h : ZN X S0 a Γ x m) (hs : PlainIx a := by exact fun _ _ => rfl) : ZN X S0 (.Subscript o a pos) Γ x (.ixL ds m) := fun q e hq => by
  have at_ : (S0 ++ x)[S0.length + t]? = some (p0, Cell.lst ds) := by rw [List.getElem?_append_right (by omega), Nat.add_sub_cancel_left]; exact hx
  have hR : AOp X (rIxZ X.K) (fun u v S2 Q => u = .ref p0 ∧ S2 = S0 ++ x ∧ ∃ i d, v = .int i ∧ atI ds i = some d ∧ Q d S2) := fun F2 S2 H2 u v v' u' Q2 Q3 _ hc r1 r2 ⟨e1, e3, i, d, e2, hi, q2⟩ kk => by
    subst e1 e2 e3
    cases r1
    cases r2
    obtain ⟨xs, hx', rx⟩ := hc.get at_
    obtain ⟨w, e4, r⟩ := atI_rep rx hi
    exact .inl ⟨_, _, i, w, rfl, rfl, SqL.of hx', e4, kk _ _ _ _ .refl hc r q2⟩
  refine ze_of (pe_ix ix_Z pe_self pe_self hs) fun F σ H c Q' k' => opTwo (Ex := xOf S0 e) (Q := fun d S' => S' = S0 ++ x ∧ q d) hR (ho.ze ((h _ e hq).mono fun d S1 ⟨e1, h1⟩ => ?_)) c k'
  subst e1
  cases d with
  | int i =>
    cases ha : atI ds i with
    | none => have h2 : (Cm.opt (atI ds i)) q e := h1; rw [ha] at h2; exact h2.elim
    | some z => have h2 : (Cm.opt (atI ds i)) q e := h1; rw [ha] at h2; exact ⟨rfl, rfl, i, z, rfl, ha, rfl, h2⟩
  | _ => exact h1.elim
/-! f-strings -/
inductive ZJC (X : Cx) (S0 : Store) (Γ : Gam) (x : Store) : List Expr → List (Cm D) → Prop
  | nil : ZJC X S0 Γ x [] []
  | cons {e : Expr} {es : List Expr} {m : Cm D} {ms : List (Cm D)} (h : ZN X S0 e Γ x m) (r : ZJC X S0 Γ x es ms) : ZJC X S0 Γ x (e :: es) (m :: ms)
theorem ZJC.pj {es ms} (h : ZJC X S0 Γ x es ms) : PJ X es (es.map (tSelf X)) := by
  induction h with
  | nil => exact .nil
  | cons h r ih => exact .cons pe_self ih
theorem ZJC.run {es ms F σ} (h : ZJC X S0 Γ x es ms) : ∀ {H : Hp} {acc : List Nat} {Q' : Str → Hp → Prop} {q : D → Prop} {e : EX}, Con X (xOf S0 e) F Γ (S0 ++ x) σ H → acc.length ≤ 16777000 → (Cm.jrun ms acc) q e → (∀ H' z, z.length ≤ 16777000 → Stp F (S0 ++ x) H (S0 ++ x) H' → HC X.K F (S0 ++ x) H' → q (.str z) → Q' ⟨z.toArray⟩ H') → tJs (es.map (tSelf X)) ⟨acc.toArray⟩ σ H Q' := by
  induction h with
  | nil => exact fun {H acc Q' q e} c hz hq k => k H acc hz .refl c.hc hq
  | @cons ex es m ms h r ih =>
    intro H acc Q' q e c hz hq k
    refine h _ e hq F σ H c _ fun v H1 d S1 t hc r1 ⟨e1, h1⟩ => ?_
    subst e1
    cases d with
    | str z =>
      cases r1 with
      | str hz1 =>
        obtain ⟨h2, h3⟩ := h1
        refine ⟨⟨z.toArray⟩, rfl, ?_, ?_⟩
        · rw [str_app]
          exact small (by simp [Str.length]; omega)
        · rw [str_app]
          exact ih (c.step t hc) (by rw [List.length_append]; exact h2) h3 fun H' z' hz' t2 hc2 hq' => k H' z' hz' (t.trans t2) hc2 hq'
    | _ => exact h1.elim
theorem zn_fs {e1 e2 : Expr} {m1 m2 : Cm D} {mr : List (Cm D)} (h : ZJC X S0 Γ x (e1 :: e2 :: es) (m1 :: m2 :: mr)) : ZN X S0 (.JoinedStr (e1 :: e2 :: es) pos) Γ x (.joinF (m1 :: m2 :: mr)) := fun q e hq =>
  ze_of (pe_joined h.pj) fun F σ H c Q' k => h.run (acc := []) c (by simp) hq fun H' z hz t hc hq' => k _ _ _ _ t hc (.str hz) ⟨rfl, hq'⟩
/-! ### statements -/
theorem zx_new0 (i : Nat) {m : Cm ρ} (k : ∀ p, ZX X J rest (Γ.set i (some (.ref p))) (x ++ [(p, .lst [])]) m) (hi : X.N[i]? = some y := by rfl) (hx : Loc X.env.scope y := by first | exact .inl rfl | exact .inr rfl)
    (hs : swapsWith (.List [] p2) (some (.Name y p')) pos.line X.env = pure false := by rfl) (hf : X.fn y = true ∨ X.env.scope.names.lookup y = some .local := by first | exact .inl rfl | exact .inr rfl) : ZX X J (.Assign [.Name y p'] (.List [] p2) pos :: rest) Γ x m := fun q e hq =>
  zs_cons (z1_set (ze_cell (za_nil ⟨small (by decide), fun p => by
    have := k p q e hq
    rw [← List.append_assoc] at this
    exact this⟩)) hi hx hs hf)
theorem zx_parVN0 (i j : Nat) {kt k2 pt2} {px py pb : Pos} (h : ZN X S0 a Γ x ma) {f : D → Cm ρ} (k : ∀ d p, ZX X J rest ((Γ.set i (some d)).set j (some (.ref p))) (x ++ [(p, .lst [])]) (f d))
    (hw : swappedStores [.Tuple [.Name y px, .Name z py] kt pt] (.Tuple [a, .List [] pb] k2 pt2) X.env = pure (some [y, z]) := by rfl) (hi : X.N[i]? = some y := by rfl) (hj : X.N[j]? = some z := by rfl) (hij : i ≠ j := by decide)
    (hx : X.env.scope.names.lookup y = some .local := by rfl) (hy : X.env.scope.names.lookup z = some .local := by rfl)
    (hs : swapsWithSole [.Tuple [.Name y px, .Name z py] kt pt] (.Tuple [a, .List [] pb] k2 pt2) pos.line X.env = pure false := by rfl)
    (s1 : starEach [a, .List [] pb] X.env = (false, eval a X.env) :: starEach [.List [] pb] X.env := by rfl) (s2 : starEach [.List [] pb] X.env = (false, eval (.List [] pb) X.env) :: starEach [] X.env := by rfl) :
    ZX X J (.Assign [.Tuple [.Name y px, .Name z py] kt pt] (.Tuple [a, .List [] pb] k2 pt2) pos :: rest) Γ x (ma.bind f) := fun q e hq =>
  zs_cons (z1_par (i := i) (j := j) ((h _ e hq).mono fun d S1 ⟨e1, h1⟩ => by
    subst e1
    refine ze_cell (za_nil ⟨small (by decide), fun p => ?_⟩)
    have := k d p q e h1
    rw [← List.append_assoc] at this
    exact this) hw hi hj hij hx hy hs s1 s2)
def AugR (X : Cx) (op : Operator) (f : D → D → Option D) : Prop := ∃ r, PIp X op r ∧ ∀ u v d, f u v = some d → Gives2 X.K r u v d
theorem ip_augA : AugR X .Add augA := ⟨_, ip_add, fun u v d h => by
  cases u <;> cases v <;> first | (cases h; done) | skip
  cases h
  exact fun F S H v u Q' hc r1 r2 k => by cases r1; cases r2; exact ⟨_, _, rfl, rfl, k.self hc .int⟩⟩
theorem ip_augS : AugR X .Sub augS := ⟨_, ip_sub, fun u v d h => by
  cases u <;> cases v <;> first | (cases h; done) | skip
  cases h
  exact fun F S H v u Q' hc r1 r2 k => by cases r1; cases r2; exact ⟨_, _, rfl, rfl, k.self hc .int⟩⟩
theorem zx_aug (i : Nat) {op : Operator} {g : D → D → Option D} (ho : AugR X op g) (hΓ : Γ[i]? = some (some d)) (h : ZN X S0 a Γ x m) {f : D → Cm ρ} (k : ∀ d, ZX X J rest (Γ.set i (some d)) x (f d)) (nd : X.N.Nodup := by assumption) (hi : X.N[i]? = some y := by rfl) (hx : Loc X.env.scope y := by first | exact .inl rfl | exact .inr rfl)
    (hf : X.fn y = true ∨ X.env.scope.names.lookup y = some .local := by first | exact .inl rfl | exact .inr rfl) : ZX X J (.AugAssign (.Name y p') op a pos :: rest) Γ x ((Cm.b2 g (.ok d) m).bind f) := fun q e hq => by
  obtain ⟨r, h1, h2⟩ := ho
  refine zs_cons (z1_of (ps_aug nd hi hx pe_self h1 hf) fun F σ H c D' k' => ?_)
  obtain ⟨v, e1, r1⟩ := c.rg.2 i d hΓ
  refine ⟨v, e1, h (fun u => (Cm.opt (g d u)) (fun z => (f z) q e) e) e hq F σ H c _ fun u H1 du S1 t1 c1 r2 ⟨e2, h3⟩ => ?_⟩
  subst e2
  cases hg : g d du with
  | none => rw [hg] at h3; exact h3.elim
  | some z =>
    rw [hg] at h3
    exact h2 d du z hg F _ H1 v u _ c1 (r1.mono t1.ext) r2 fun w H2 t2 c2 r3 => k'.nx _ _ _ _ (t1.trans t2) c2 ((c.rg.mono (t1.trans t2).ext).set r3) (k z q e h3)
theorem zx_ifRD {mt mr : Cm ρ} (h : ZQ X S0 c Γ x n) (ht : ZX X J.dead t Γ x mt) (hr : ZX X J.dead rest Γ x mr) : ZX X J.dead (.If c t [] pos :: rest) Γ x (.cnd n mt mr) := zx_ifR h ht hr
/-! ### calls by pattern: keywords, defaults -/
theorem asp_K {mm : List D → Cm D} {G : List D → List D → List D} {ds es : List D} {q : D → Prop} {e : EX} (h : mm (G ds es) q e) : (fun ds es => aspC mm (G ds es)) ds es (S0 ++ x) (fun d S' => S' = S0 ++ x ∧ q d) (xOf S0 e) := asp_self h
theorem zn_p0 {mm : List D → Cm D} {G : List D → List D → List D} {m : Cm D} (C : AC X.prog X.w X.K X.mg X.base k g 0 [] (fun ds es => aspC mm (G ds es))) (hr : Room j X.A) (hk : k ≤ j) (hF : mm (G [] []) = m := by rfl) (hg : Gl X g := by rfl) (hdb : dbgOk g := by decide) : ZN X S0 (.Call (.Name g p) [] [] pos) Γ x m := fun q e hq =>
  ze_call0 C hr hk (asp_K (by rw [hF]; exact hq)) hg hdb
theorem zn_p1 {mm : List D → Cm D} {G : List D → List D → List D} {f : D → Cm D} (C : AC X.prog X.w X.K X.mg X.base k g 1 [] (fun ds es => aspC mm (G ds es))) (hr : Room j X.A) (hk : k ≤ j) (h : ZN X S0 a Γ x ma) (hF : ∀ u, mm (G [u] []) = f u := by intros; rfl) (hg : Gl X g := by rfl) (hdb : dbgOk g := by decide)
    (h1 : s1 X a := by rfl) (hpl : (backTo pos (starEach [] X.env)).any (·.1) = false := by rfl) : ZN X S0 (.Call (.Name g p) [a] [] pos) Γ x (.c1 f ma) := fun q e hq =>
  ze_call C hr hk (za_cons ((h _ e hq).mono fun d S1 ⟨e1, h3⟩ => by
    subst e1
    exact za_nil ⟨rfl, asp_K (by rw [hF]; exact h3)⟩) h1) hg hdb h1 hpl
theorem zn_p2 {mm : List D → Cm D} {G : List D → List D → List D} {f : D → D → Cm D} (C : AC X.prog X.w X.K X.mg X.base k g 2 [] (fun ds es => aspC mm (G ds es))) (hr : Room j X.A) (hk : k ≤ j) (h : ZN X S0 a Γ x ma) (h' : ZN X S0 b Γ x mb) (hF : ∀ u v, mm (G [u, v] []) = f u v := by intros; rfl) (hg : Gl X g := by rfl) (hdb : dbgOk g := by decide)
    (h1 : starEach [a, b] X.env = (false, eval a X.env) :: starEach [b] X.env := by rfl) (h2 : s1 X b := by rfl) (hpl : (backTo pos (starEach [b] X.env)).any (·.1) = false := by rfl) : ZN X S0 (.Call (.Name g p) [a, b] [] pos) Γ x (.c2 f ma mb) := fun q e hq =>
  ze_call C hr hk (za_cons ((h _ e hq).mono fun d S1 ⟨e1, h3⟩ => by
    subst e1
    refine za_cons ((h' _ e h3).mono fun d2 S2 ⟨e2, h4⟩ => ?_) h2
    subst e2
    exact za_nil ⟨rfl, asp_K (by rw [hF]; exact h4)⟩) h1) hg hdb h1 hpl
theorem zn_k01 {mm : List D → Cm D} {G : List D → List D → List D} {f : D → Cm D} {k1 : Str} (C : AC X.prog X.w X.K X.mg X.base k g 0 [k1] (fun ds es => aspC mm (G ds es))) (hr : Room j X.A) (hk : k ≤ j) (h : ZNK X S0 kws Γ x (.cons ma .nil)) (hF : ∀ u, mm (G [] [u]) = f u := by intros; rfl) (hg : Gl X g := by rfl) (hdb : dbgOk g := by decide)
    (hall : (backToKw pos (keywordEach kws X.env)).all (·.1.isSome) = true := by rfl) (hks : (backToKw pos (keywordEach kws X.env)).filterMap (·.1) = [k1] := by rfl)
    (hpl : ((backTo pos (starEach [] X.env)).any (·.1) || (backToKw pos (keywordEach kws X.env)).any (·.1.isNone)) = false := by rfl) : ZN X S0 (.Call (.Name g p) [] kws pos) Γ x (.c1 f ma) := fun q e hq => by
  have z := zn_callK0 (S0 := S0) (Γ := Γ) (x := x) (p := p) C hr hk h hg hdb hall hks hpl q e
  refine z ?_
  show ma (fun u => _ ∧ (mm (G [] [u])) q e) e
  have e1 : (fun u => [u].length = [k1].length ∧ (mm (G [] [u])) q e) = fun u => (f u) q e := funext fun u => propext ⟨fun z => by rw [← hF]; exact z.2, fun z => ⟨rfl, by rw [hF]; exact z⟩⟩
  rw [e1]
  exact hq
theorem zn_k02 {mm : List D → Cm D} {G : List D → List D → List D} {f : D → D → Cm D} {k1 k2 : Str} (C : AC X.prog X.w X.K X.mg X.base k g 0 [k1, k2] (fun ds es => aspC mm (G ds es))) (hr : Room j X.A) (hk : k ≤ j) (h : ZNK X S0 kws Γ x (.cons ma (.cons mb .nil))) (hF : ∀ u v, mm (G [] [u, v]) = f u v := by intros; rfl) (hg : Gl X g := by rfl) (hdb : dbgOk g := by decide)
    (hall : (backToKw pos (keywordEach kws X.env)).all (·.1.isSome) = true := by rfl) (hks : (backToKw pos (keywordEach kws X.env)).filterMap (·.1) = [k1, k2] := by rfl)
    (hpl : ((backTo pos (starEach [] X.env)).any (·.1) || (backToKw pos (keywordEach kws X.env)).any (·.1.isNone)) = false := by rfl) : ZN X S0 (.Call (.Name g p) [] kws pos) Γ x (.c2 f ma mb) := fun q e hq => by
  have z := zn_callK0 (S0 := S0) (Γ := Γ) (x := x) (p := p) C hr hk h hg hdb hall hks hpl q e
  refine z ?_
  show ma (fun u => mb (fun v => _ ∧ (mm (G [] [u, v])) q e) e) e
  have e1 : (fun u => mb (fun v => [u, v].length = [k1, k2].length ∧ (mm (G [] [u, v])) q e) e) = fun u => mb (fun v => (f u v) q e) e := funext fun u => congrArg (fun z => mb z e) (funext fun v => propext ⟨fun z => by rw [← hF]; exact z.2, fun z => ⟨rfl, by rw [hF]; exact z⟩⟩)
  rw [e1]
  exact hq
theorem zn_k03 {mm : List D → Cm D} {G : List D → List D → List D} {f : D → D → D → Cm D} {k1 k2 k3 : Str} (C : AC X.prog X.w X.K X.mg X.base k g 0 [k1, k2, k3] (fun ds es => aspC mm (G ds es))) (hr : Room j X.A) (hk : k ≤ j) (h : ZNK X S0 kws Γ x (.cons ma (.cons mb (.cons mc .nil)))) (hF : ∀ u v w, mm (G [] [u, v, w]) = f u v w := by intros; rfl) (hg : Gl X g := by rfl) (hdb : dbgOk g := by decide)
    (hall : (backToKw pos (keywordEach kws X.env)).all (·.1.isSome) = true := by rfl) (hks : (backToKw pos (keywordEach kws X.env)).filterMap (·.1) = [k1, k2, k3] := by rfl)
    (hpl : ((backTo pos (starEach [] X.env)).any (·.1) || (backToKw pos (keywordEach kws X.env)).any (·.1.isNone)) = false := by rfl) : ZN X S0 (.Call (.Name g p) [] kws pos) Γ x (.c3 f ma mb mc) := fun q e hq => by
  have z := zn_callK0 (S0 := S0) (Γ := Γ) (x := x) (p := p) C hr hk h hg hdb hall hks hpl q e
  refine z ?_
  show ma (fun u => mb (fun v => mc (fun w => _ ∧ (mm (G [] [u, v, w])) q e) e) e) e
  have e1 : (fun u => mb (fun v => mc (fun w => [u, v, w].length = [k1, k2, k3].length ∧ (mm (G [] [u, v, w])) q e) e) e) = fun u => mb (fun v => mc (fun w => (f u v w) q e) e) e := funext fun u => congrArg (fun z => mb z e) (funext fun v => congrArg (fun z => mc z e) (funext fun w => propext ⟨fun z => by rw [← hF]; exact z.2, fun z => ⟨rfl, by rw [hF]; exact z⟩⟩))
  rw [e1]
  exact hq
theorem zn_k04 {mm : List D → Cm D} {G : List D → List D → List D} {f : D → D → D → D → Cm D} {k1 k2 k3 k4 : Str} (C : AC X.prog X.w X.K X.mg X.base k g 0 [k1, k2, k3, k4] (fun ds es => aspC mm (G ds es))) (hr : Room j X.A) (hk : k ≤ j) (h : ZNK X S0 kws Γ x (.cons ma (.cons mb (.cons mc (.cons md .nil))))) (hF : ∀ u v w t, mm (G [] [u, v, w, t]) = f u v w t := by intros; rfl) (hg : Gl X g := by rfl) (hdb : dbgOk g := by decide)
    (hall : (backToKw pos (keywordEach kws X.env)).all (·.1.isSome) = true := by rfl) (hks : (backToKw pos (keywordEach kws X.env)).filterMap (·.1) = [k1, k2, k3, k4] := by rfl)
    (hpl : ((backTo pos (starEach [] X.env)).any (·.1) || (backToKw pos (keywordEach kws X.env)).any (·.1.isNone)) = false := by rfl) : ZN X S0 (.Call (.Name g p) [] kws pos) Γ x (.c4 f ma mb mc md) := fun q e hq => by
  have z := zn_callK0 (S0 := S0) (Γ := Γ) (x := x) (p := p) C hr hk h hg hdb hall hks hpl q e
  refine z ?_
  show ma (fun u => mb (fun v => mc (fun w => md (fun t => _ ∧ (mm (G [] [u, v, w, t])) q e) e) e) e) e
  have e1 : (fun u => mb (fun v => mc (fun w => md (fun t => [u, v, w, t].length = [k1, k2, k3, k4].length ∧ (mm (G [] [u, v, w, t])) q e) e) e) e) = fun u => mb (fun v => mc (fun w => md (fun t => (f u v w t) q e) e) e) e := funext fun u => congrArg (fun z => mb z e) (funext fun v => congrArg (fun z => mc z e) (funext fun w => congrArg (fun z => md z e) (funext fun t => propext ⟨fun z => by rw [← hF]; exact z.2, fun z => ⟨rfl, by rw [hF]; exact z⟩⟩)))
  rw [e1]
  exact hq
/-- f(a, k = ..) -/
theorem zn_kG {mm : List D → Cm D} {G : List D → List D → List D} {l : Nat} {ks : List Str} {mk : Cm (List D)} (C : AC X.prog X.w X.K X.mg X.base k g l ks (fun ds es => aspC mm (G ds es))) (hr : Room j X.A) (hk : k ≤ j) (h : ZNA X S0 (a :: es) Γ x ms) (h2 : ZNK X S0 kws Γ x mk) {m : Cm D} (hF : ∀ q e, m q e → (ms.bind fun ds => mk.bind fun zs => .asr (ds.length = l ∧ zs.length = ks.length) (mm (G ds zs))) q e) (hg : Gl X g := by rfl) (hdb : dbgOk g := by decide)
    (hall : (backToKw pos (keywordEach kws X.env)).all (·.1.isSome) = true := by rfl) (hks : (backToKw pos (keywordEach kws X.env)).filterMap (·.1) = ks := by rfl)
    (he : starEach (a :: es) X.env = (false, eval a X.env) :: starEach es X.env := by rfl) (hpl : ((backTo pos (starEach (a :: es) X.env)).any (·.1) || (backToKw pos (keywordEach kws X.env)).any (·.1.isNone)) = false := by rfl) : ZN X S0 (.Call (.Name g p) (a :: es) kws pos) Γ x m := fun q e hq =>
  zn_callK C hr hk h h2 hg hdb hall hks he hpl q e (hF q e hq)
end
section
variable {P : Program} {w : World} {K : PySem.W.Frag} {mg : Str → Option Value} {base : Heap} {k : Nat} {f : Addr} {x qual : Str} {params : Arguments} {body : List Stmt} {scope : Scope} {dvs : List V} {kws : List (Str × V)} {fd : FuncData} {N ps ks : List Str} {n : Nat}
/-- values and keywords in any order, without defaults -/
theorem bd_perm (F : FunD K x qual params body scope [] kws f fd) (n : Nat) (ks : List Str) (p : List Nat)
    (h : ∀ (kV doc pm : Value) (an : Option Addr) (cdv ct : Value) (us ws : List Value), us.length = n → ws.length = ks.length → bindArgs (fnOf x qual params body scope .none kV doc pm an cdv ct) ⟨us, ks.zip ws⟩ = pure (ps.zip (pick p (us ++ ws)))) : Bd K fd ps n ks (fun ds es => pick p (ds ++ es)) := by
  obtain ⟨oc, od, dV, kV, doc, pm, an, cdv, ct, osl, rfl, lk, hcd, hD, hK⟩ := F.ex
  rcases hD with ⟨_, rfl⟩ | ⟨e, _⟩
  · exact ⟨fun us ws => pick p (us ++ ws), fun vs zs => pick p (vs ++ zs), fun s us ws X l1 l2 => .of_eq (h kV doc pm an cdv ct us ws l1 l2), fun r r2 _ _ => vals_pick (vals_app r r2) p, fun {G ds vs es zs} r r2 _ _ => repL_pick (r.app r2) p⟩
  · exact absurd rfl e
end
/-! ### __init__s and classes by the number of arguments -/
namespace Cm
def v0 (f : Cm (Option Flds)) : List D → Cm (Option Flds) | [] => f | _ => st
def v1 (f : D → Cm (Option Flds)) : List D → Cm (Option Flds) | [a] => f a | _ => st
def v2 (f : D → D → Cm (Option Flds)) : List D → Cm (Option Flds) | [a, b] => f a b | _ => st
def v3 (f : D → D → D → Cm (Option Flds)) : List D → Cm (Option Flds) | [a, b, c] => f a b c | _ => st
end Cm
theorem len_v1 {f : D → Cm (Option Flds)} {ps : List Str} (h : ps.length = 2) (ds q e) (z : Cm.v1 f ds q e) : ds.length + 1 = ps.length := by match ds, z with | [a], _ => exact h.symm
theorem len_v2 {f : D → D → Cm (Option Flds)} {ps : List Str} (h : ps.length = 3) (ds q e) (z : Cm.v2 f ds q e) : ds.length + 1 = ps.length := by match ds, z with | [a, b], _ => exact h.symm
theorem len_v3 {f : D → D → D → Cm (Option Flds)} {ps : List Str} (h : ps.length = 4) (ds q e) (z : Cm.v3 f ds q e) : ds.length + 1 = ps.length := by match ds, z with | [a, b, c], _ => exact h.symm
section
variable {X : Cx} {S0 x : Store} {J : Jn S0 (Option Flds)} {body : List Stmt} {N : List Str} {d0 : D}
theorem v1_cases {m : D → Cm (Option Flds)} (h : ∀ a, ZX X J body (startG N [d0, a]) x (m a)) (ds : List D) : ZX X J body (startG N (d0 :: ds)) x (Cm.v1 m ds) := by
  match ds with
  | [a] => exact h a
  | [] | _ :: _ :: _ => exact zx_st
theorem v2_cases {m : D → D → Cm (Option Flds)} (h : ∀ a b, ZX X J body (startG N [d0, a, b]) x (m a b)) (ds : List D) : ZX X J body (startG N (d0 :: ds)) x (Cm.v2 m ds) := by
  match ds with
  | [a, b] => exact h a b
  | [] | [_] | _ :: _ :: _ :: _ => exact zx_st
theorem v3_cases {m : D → D → D → Cm (Option Flds)} (h : ∀ a b c, ZX X J body (startG N [d0, a, b, c]) x (m a b c)) (ds : List D) : ZX X J body (startG N (d0 :: ds)) x (Cm.v3 m ds) := by
  match ds with
  | [a, b, c] => exact h a b c
  | [] | [_] | [_, _] | _ :: _ :: _ :: _ :: _ => exact zx_st
end
theorem mk_imp1 {c : Str} {m : D → Cm (Option Flds)} {M : D → Cm D} {zs : List D} {S : Store} {Q : DQ} {Ex : AX} (h : aspC (Cm.u1 M) zs S Q Ex) (hM : ∀ a, M a = Cm.mk c (m a) := by intros; rfl) : aspC (fun zs => Cm.mk c (Cm.v1 m zs)) zs S Q Ex := by
  match zs, h with
  | [a], h => have h2 : (M a) (fun d => Q d S) (fun c fs => Ex c fs S) := h; rw [hM] at h2; exact h2
theorem mk_imp2 {c : Str} {m : D → D → Cm (Option Flds)} {M : D → D → Cm D} {zs : List D} {S : Store} {Q : DQ} {Ex : AX} (h : aspC (Cm.u2 M) zs S Q Ex) (hM : ∀ a b, M a b = Cm.mk c (m a b) := by intros; rfl) : aspC (fun zs => Cm.mk c (Cm.v2 m zs)) zs S Q Ex := by
  match zs, h with
  | [a, b], h => have h2 : (M a b) (fun d => Q d S) (fun c fs => Ex c fs S) := h; rw [hM] at h2; exact h2
theorem mk_imp3 {c : Str} {m : D → D → D → Cm (Option Flds)} {M : D → D → D → Cm D} {zs : List D} {S : Store} {Q : DQ} {Ex : AX} (h : aspC (Cm.u3 M) zs S Q Ex) (hM : ∀ a b d, M a b d = Cm.mk c (m a b d) := by intros; rfl) : aspC (fun zs => Cm.mk c (Cm.v3 m zs)) zs S Q Ex := by
  match zs, h with
  | [a, b, d], h => have h2 : (M a b d) (fun d => Q d S) (fun c fs => Ex c fs S) := h; rw [hM] at h2; exact h2
/-! ### the law's own promise -/
theorem FnG.imp {P : Program} {w : World} {K : PySem.W.Frag} {mg : Str → Option Value} {base : Heap} {k : Nat} {f : Addr} {fd : FuncData} {ps : List Str} {a1 a2 : ASp} (F : FnG P w K mg base k f fd ps (conc K a1)) (h : ∀ ds S Q Ex, a2 ds S Q Ex → a1 ds S Q Ex) : FnG P w K mg base k f fd ps (conc K a2) :=
  ⟨fun vs H Q E ⟨F', S, ds, aQ, aE, z1, z2, z3, z4⟩ => F.len vs H Q E ⟨F', S, ds, aQ, aE, z1, z2, h _ _ _ _ z3, z4⟩, fun A outer s H args us vs Q E gd hr e0 b r ⟨F', S, ds, aQ, aE, z1, z2, z3, z4⟩ => F.run A outer s H args us vs Q E gd hr e0 b r ⟨F', S, ds, aQ, aE, z1, z2, h _ _ _ _ z3, z4⟩⟩
theorem law_of {P : Program} {w : World} {K : PySem.W.Frag} {mg : Str → Option Value} {base : Heap} {k : Nat} {f : Addr} {fd : FuncData} {ps : List Str} {m : D → Cm D} (h : ∀ ns : List Int, ns.length ≤ 63 → ∀ (q : D → Prop) (e : EX), q (.bl true) → m (.scr ns) q e) (F : FnG P w K mg base k f fd ps (conc K (aspC (Cm.u1 m)))) : FnG P w K mg base k f fd ps (conc K (lawSp 63)) :=
  F.imp fun ds S Q Ex ⟨ns, e1, e2, hl, hb, hq⟩ => by
    subst e1
    exact h ns hl _ _ (hq S)
/-! ### own instances as tests -/
namespace Cm
def truId (c : Str) : D → Cm Bool
  | .obj _ c' _ => if c' = c then ok true else st
  | _ => st
def truI (c : Str) (m : Cm D) : Cm Bool := m.bind (truId c)
def truN : D → Cm Bool
  | .int i => asr (0 ≤ i ∧ i < 1152921504606846976) (ok (decide (i ≠ 0)))
  | _ => st
def truLd (c : Str) (g : D → Cm D) : D → Cm Bool
  | .obj p c' fs => if c' = c then (g (.obj p c' fs)).bind truN else st
  | _ => st
def truL (c : Str) (g : D → Cm D) (m : Cm D) : Cm Bool := m.bind (truLd c g)
end Cm
section
variable {X : Cx} {S0 x : Store} {Γ : Gam} {a ex : Expr} {m : Cm D} {k j : Nat}
theorem zq_truI {c : Str} (hb : findIn X.K (.ref (He.ga X.K c)) "__bool__" = some none) (hl : findIn X.K (.ref (He.ga X.K c)) "__len__" = some none) (h : ZN X S0 ex Γ x m) (he : ∀ whole, isTrue ex X.env whole = (do let v ← whole; standAt ex.pos; holding [v] (truthy v)) := by intro _; rfl) : ZQ X S0 ex Γ x (.truI c m) := fun q e hq F σ H co Q' kq pins s I => by
  refine isTrue_plain (thn (h _ e hq F σ H co _ (fun v H1 d S1 t hc r q1 => (⟨S1, d, t, hc, r, q1⟩ : ∃ S1 d, Stp F (S0 ++ x) H S1 H1 ∧ HC X.K F S1 H1 ∧ Rep X.K (vw F S1 H1) d v ∧ S1 = S0 ++ x ∧ (Cm.truId c d) q e)) pins s I)
    fun u s1 ⟨v, H1, I1, rv, S1, d, t, hc, r, e1, q1⟩ => ?_) (he _)
  subst e1
  cases d with
  | obj p c' fs =>
    have q2 : (if c' = c then Cm.ok true else .st) q e := q1
    split at q2
    · rename_i ec
      subst ec
      cases r with
      | obj h1 rf => exact tru_ins hb hl pins s1 σ H1 _ u Q' I1 rv ⟨_, _, _, rfl, hd_sub _ _ h1, kq _ _ _ t hc ⟨rfl, q2⟩⟩
    · exact q2.elim
  | _ => exact q1.elim
theorem zq_truL {c : Str} {g : D → Cm D} (C : AM X.prog X.w X.K X.mg X.base k c "__len__" 0 [] (fun ds _ => aspC (.u1 g) ds)) (nb : findIn X.K (.ref (He.ga X.K c)) "__bool__" = some none) (hr : Room j X.A) (hk : k + 1 ≤ j) (h : ZN X S0 ex Γ x m) (he : ∀ whole, isTrue ex X.env whole = (do let v ← whole; standAt ex.pos; holding [v] (truthy v)) := by intro _; rfl) : ZQ X S0 ex Γ x (.truL c g m) := fun q e hq =>
  zt_lenO C nb hr hk ((h _ e hq).mono fun d S1 ⟨e1, h1⟩ => by
    subst e1
    cases d with
    | obj p c' fs =>
      have h2 : (if c' = c then (g (.obj p c' fs)).bind Cm.truN else .st) q e := h1
      split at h2
      · rename_i ec
        refine ⟨ec, ?_⟩
        show (g (.obj p c' fs)) _ _
        rw [e_self]
        have e2 : (fun r => (Cm.truN r) q e) = (fun r => ∃ n : Nat, r = .int n ∧ n < 2 ^ 60 ∧ S0 ++ x = S0 ++ x ∧ q (decide (n ≠ 0))) := by
          funext r
          cases r with
          | int i =>
            refine propext ⟨fun ⟨z1, z2⟩ => ⟨i.toNat, by congr 1; omega, by omega, rfl, ?_⟩, fun ⟨n, z1, z2, _, z3⟩ => ?_⟩
            · have z3 : q (decide (i ≠ 0)) := z2
              have : (decide (i ≠ 0)) = decide (i.toNat ≠ 0) := by
                by_cases hz : i = 0
                · subst hz; rfl
                · have : i.toNat ≠ 0 := by omega
                  simp [hz, this]
              rwa [this] at z3
            · cases z1
              refine ⟨by omega, ?_⟩
              show q (decide ((n : Int) ≠ 0))
              have : (decide ((n : Int) ≠ 0)) = decide (n ≠ 0) := by
                by_cases hz : n = 0 <;> simp [hz]
              rw [this]; exact z3
          | _ => exact propext ⟨fun z => z.elim, fun ⟨n, z, _⟩ => by cases z⟩
        rw [← e2]
        exact h2
      · exact h2.elim
    | _ => exact h1.elim) he
end
theorem boot_bool' : bootBuiltins "bool" = some (.type "bool") := by decide +kernel
theorem boot_dict' : bootBuiltins "dict" = some (.type "dict") := by decide +kernel
end Fz
end

section
namespace Fz
open PySem PySem.Spec PyProof.Rows L2 PySem.W
/-! ### rewriting of computations -/
namespace Cm
variable {α β : Type}
def mapA {α : Type} (F : α → Cm D) : List α → Cm (List D)
  | [] => ok []
  | a :: as => (noer (F a)).bind fun y => (mapA F as).bind fun ys => ok (y :: ys)
def fltA {α : Type} (p : α → Cm Bool) (F : α → Cm D) : List α → Cm (List D)
  | [] => ok []
  | a :: as => (noer (p a)).bind fun t => bif t then (noer (F a)).bind fun y => (fltA p F as).bind fun ys => ok (y :: ys) else fltA p F as
theorem mapC_map (f : D → Cm D) (enc : α → D) : ∀ as : List α, mapC f (as.map enc) = mapA (fun a => f (enc a)) as
  | [] => rfl
  | a :: as => by rw [List.map_cons, mapC, mapA, mapC_map f enc as]
theorem fltC_map (p : D → Cm Bool) (f : D → Cm D) (enc : α → D) : ∀ as : List α, fltC p f (as.map enc) = fltA (fun a => p (enc a)) (fun a => f (enc a)) as
  | [] => rfl
  | a :: as => by rw [List.map_cons, fltC, fltA, fltC_map p f enc as]
theorem mapA_of {F : α → Cm D} {g : α → D} : ∀ {as : List α}, (∀ a ∈ as, F a = ok (g a)) → mapA F as = ok (as.map g)
  | [], _ => rfl
  | a :: as, h => by rw [mapA, h a (List.mem_cons_self ..), mapA_of fun b hb => h b (List.mem_cons_of_mem _ hb)]; rfl
theorem fltA_of {p : α → Cm Bool} {F : α → Cm D} {pb : α → Bool} {g : α → D} : ∀ {as : List α}, (∀ a ∈ as, p a = ok (pb a)) → (∀ a ∈ as, pb a = true → F a = ok (g a)) → fltA p F as = ok ((as.filter pb).map g)
  | [], _, _ => rfl
  | a :: as, h, h2 => by
    rw [fltA, h a (List.mem_cons_self ..), fltA_of (fun b hb => h b (List.mem_cons_of_mem _ hb)) fun b hb => h2 b (List.mem_cons_of_mem _ hb)]
    cases hp : pb a with
    | true => rw [h2 a (List.mem_cons_self ..) hp, List.filter_cons, hp]; rfl
    | false => rw [List.filter_cons, hp]; rfl
/-- [f(a) for a in as] -/
theorem comp_of {f : D → Cm D} {enc : α → D} {g : α → D} {as : List α} (h : ∀ a ∈ as, f (enc a) = ok (g a)) (hl : as.length ≤ 16777216) : comp (ok (as.map enc)) f = ok (.lst (as.map g)) := by
  unfold comp
  rw [ok_bind, asr_true (by rw [List.length_map]; exact hl), mapC_map, mapA_of h]; rfl
theorem compF_of {p : D → Cm Bool} {f : D → Cm D} {enc : α → D} {pb : α → Bool} {g : α → D} {as : List α} (hp : ∀ a ∈ as, p (enc a) = ok (pb a)) (h : ∀ a ∈ as, pb a = true → f (enc a) = ok (g a)) (hl : as.length ≤ 16777216) : compF (ok (as.map enc)) p f = ok (.lst ((as.filter pb).map g)) := by
  unfold compF
  rw [ok_bind, asr_true (by rw [List.length_map]; exact hl), fltC_map, fltA_of hp h]; rfl
/-- .. of items drawn: what holds of each -/
theorem mapA_post {P : α → D → Prop} {F : α → Cm D} {q : List D → Prop} {e : EX} : ∀ {as : List α}, (∀ a ∈ as, ∀ q' : D → Prop, (∀ y, P a y → q' y) → F a q' (fun _ _ => False)) → (∀ ys, All2 P as ys → q ys) → mapA F as q e
  | [], _, hq => hq [] .nil
  | a :: as, h, hq => h a (List.mem_cons_self ..) _ fun y hy => mapA_post (fun b hb => h b (List.mem_cons_of_mem _ hb)) fun ys hys => hq _ (.cons hy hys)
theorem comp_post {P : α → D → Prop} {f : D → Cm D} {enc : α → D} {q : D → Prop} {e : EX} {as : List α} (h : ∀ a ∈ as, ∀ q' : D → Prop, (∀ y, P a y → q' y) → f (enc a) q' (fun _ _ => False)) (hl : as.length ≤ 16777216) (hq : ∀ ys, All2 P as ys → q (.lst ys)) : comp (ok (as.map enc)) f q e := by
  unfold comp
  rw [ok_bind, asr_true (by rw [List.length_map]; exact hl), mapC_map]
  exact mapA_post h hq
/-- a test that is drawn: any part may be left -/
theorem fltA_some {p : α → Cm Bool} {F : α → Cm D} {g : α → D} {q : List D → Prop} {e : EX} : ∀ {as : List α}, (∀ a ∈ as, ∀ q' : Bool → Prop, (∀ t, q' t) → p a q' (fun _ _ => False)) → (∀ a ∈ as, F a = ok (g a)) → (∀ bs : List α, bs.Sublist as → q (bs.map g)) → fltA p F as q e
  | [], _, _, hq => hq [] .slnil
  | a :: as, h, h2, hq => h a (List.mem_cons_self ..) _ fun t => by
    cases t with
    | true =>
      show ((noer (F a)).bind fun y => (fltA p F as).bind fun ys => ok (y :: ys)) q e
      rw [h2 a (List.mem_cons_self ..)]
      exact fltA_some (q := fun ys => q (g a :: ys)) (fun b hb => h b (List.mem_cons_of_mem _ hb)) (fun b hb => h2 b (List.mem_cons_of_mem _ hb)) fun bs hbs => hq (a :: bs) (hbs.cons₂ a)
    | false => exact fltA_some (q := q) (fun b hb => h b (List.mem_cons_of_mem _ hb)) (fun b hb => h2 b (List.mem_cons_of_mem _ hb)) fun bs hbs => hq bs (hbs.cons a)
theorem compF_some {p : D → Cm Bool} {f : D → Cm D} {enc : α → D} {g : α → D} {q : D → Prop} {e : EX} {as : List α} (h : ∀ a ∈ as, ∀ q' : Bool → Prop, (∀ t, q' t) → p (enc a) q' (fun _ _ => False)) (h2 : ∀ a ∈ as, f (enc a) = ok (g a)) (hl : as.length ≤ 16777216) (hq : ∀ bs : List α, bs.Sublist as → q (.lst (bs.map g))) : compF (ok (as.map enc)) p f q e := by
  unfold compF
  rw [ok_bind, asr_true (by rw [List.length_map]; exact hl), fltC_map]
  exact fltA_some h h2 hq
theorem rng1_of {j : Int} (h : -4611686018427387904 ≤ j ∧ j < 4611686018427387904) : rng1 (ok (.int j)) = ok (range0 j.toNat) := asr_true h _
theorem rng2_of {i j : Int} (h : -4611686018427387904 ≤ i ∧ i < 4611686018427387904 ∧ -4611686018427387904 ≤ j ∧ j < 4611686018427387904) : rng2 (ok (.int i)) (ok (.int j)) = ok (rangeD i (j - i).toNat) := asr_true h _
theorem tupC_of {ds : List D} (h : ds.length ≤ 16777216) : tupC (ok ds) = ok (.tup ds) := asr_true h _
theorem lstC_of {ds : List D} (h : ds.length ≤ 16777216) : lstC (ok ds) = ok (.lst ds) := asr_true h _
theorem pow_of {i j : Int} (h : 0 ≤ j ∧ j ≤ 1000000 ∧ i.natAbs < 18446744073709551616) : b2 powO (ok (.int i)) (ok (.int j)) = ok (.int (i ^ j.toNat)) := by
  show opt (if 0 ≤ j ∧ j ≤ 1000000 ∧ i.natAbs < 18446744073709551616 then _ else _) = _
  rw [if_pos h]; rfl
theorem repr_of {d : D} (h : Rok d 60 16777000) : reprC (ok d) = ok (.str (reprD d)) := asr_true h _
/-- a loop by what holds between its turns -/
theorem loop_inv {σ ρ : Type} {fb : σ → D → Cm (Lf σ ρ)} {k : σ → Cm ρ} {q : ρ → Prop} {e : EX} (I : Nat → σ → Prop) {ds : List D} {s : σ} (h0 : I 0 s)
    (turn : ∀ (i : Nat) d s, ds[i]? = some d → I i s → ∀ q' : Lf σ ρ → Prop, (∀ s', I (i + 1) s' → q' (.nx s')) → (∀ s', k s' q e → q' (.bk s')) → (∀ r, q r → q' (.up r)) → fb s d q' e)
    (done : ∀ s, I ds.length s → k s q e) : loop fb k ds s q e := by
  have go : ∀ n i s, ds.length = i + n → I i s → loop fb k (ds.drop i) s q e := by
    intro n
    induction n with
    | zero =>
      intro i s hl hi
      rw [List.drop_of_length_le (by omega)]
      have : i = ds.length := by omega
      subst this
      exact done s hi
    | succ n ih =>
      intro i s hl hi
      have il : i < ds.length := by omega
      rw [List.drop_eq_getElem_cons il]
      exact turn i ds[i] s (List.getElem?_eq_getElem il) hi _ (fun s' h => ih (i + 1) s' (by omega) h) (fun s' h => h) (fun r h => h)
  have := go ds.length 0 s (by omega) h0
  rwa [List.drop_zero] at this
end Cm
/-! ### what is wanted of a computation, step by step -/
namespace Cm
section
variable {α β σ ρ : Type} {q : α → Prop} {e : EX}
theorem a_bind (m : Cm β) (f : β → Cm α) : (m.bind f) q e = m (fun a => f a q e) e := propext Iff.rfl
theorem a_ok (a : α) : (ok a) q e = q a := propext Iff.rfl
theorem a_asr (p : Prop) (m : Cm α) : (asr p m) q e = (p ∧ m q e) := propext Iff.rfl
theorem a_cnd (c : Cm Bool) (a b : Cm α) : (cnd c a b) q e = c (fun t => (bif t then a else b) q e) e := propext Iff.rfl
theorem a_let2 (ma mb : Cm D) (f : D → D → Cm α) : (let2 ma mb f) q e = ma (fun u => mb (fun v => f u v q e) e) e := propext Iff.rfl
theorem a_let3 (ma mb mc : Cm D) (f : D → D → D → Cm α) : (let3 ma mb mc f) q e = ma (fun u => mb (fun v => mc (fun w => f u v w q e) e) e) e := propext Iff.rfl
end
section
variable {q : D → Prop} {e : EX} {r : Bool → Prop} {l : List D → Prop}
theorem a_b1 (f : D → Option D) (a : Cm D) : (b1 f a) q e = a (fun x => (opt (f x)) q e) e := propext Iff.rfl
theorem a_b2 (f : D → D → Option D) (a b : Cm D) : (b2 f a b) q e = a (fun x => b (fun y => (opt (f x y)) q e) e) e := propext Iff.rfl
theorem a_q2 (f : D → D → Option Bool) (a b : Cm D) : (q2 f a b) r e = a (fun x => b (fun y => (opt (f x y)) r e) e) e := propext Iff.rfl
theorem a_c1 (f : D → Cm D) (a : Cm D) : (c1 f a) q e = a (fun x => f x q e) e := propext Iff.rfl
theorem a_c2 (f : D → D → Cm D) (a b : Cm D) : (c2 f a b) q e = a (fun x => b (fun y => f x y q e) e) e := propext Iff.rfl
theorem a_c3 (f : D → D → D → Cm D) (a b c : Cm D) : (c3 f a b c) q e = a (fun x => b (fun y => c (fun z => f x y z q e) e) e) e := propext Iff.rfl
theorem a_c4 (f : D → D → D → D → Cm D) (a b c d : Cm D) : (c4 f a b c d) q e = a (fun x => b (fun y => c (fun z => d (fun w => f x y z w q e) e) e) e) e := propext Iff.rfl
theorem a_nil : nil l e = l [] := propext Iff.rfl
theorem a_cons (a : Cm D) (b : Cm (List D)) : (cons a b) l e = a (fun x => b (fun xs => l (x :: xs)) e) e := propext Iff.rfl
theorem a_tupC (a : Cm (List D)) : (tupC a) q e = a (fun ds => ds.length ≤ 16777216 ∧ q (.tup ds)) e := propext Iff.rfl
theorem a_lstC (a : Cm (List D)) : (lstC a) q e = a (fun ds => ds.length ≤ 16777216 ∧ q (.lst ds)) e := propext Iff.rfl
theorem a_notC (a : Cm Bool) : (notC a) r e = a (fun t => r (!t)) e := propext Iff.rfl
theorem a_ofB (a : Cm Bool) : (ofB a) q e = a (fun t => q (.bl t)) e := propext Iff.rfl
theorem a_andC (a b : Cm Bool) : (andC a b) r e = a (fun t => (bif t then b else ok false) r e) e := propext Iff.rfl
theorem a_orC (a b : Cm Bool) : (orC a b) r e = a (fun t => (bif t then ok true else b) r e) e := propext Iff.rfl
theorem a_draw (w : Int) : (drawD (.int w)) q e = (1 ≤ w ∧ w < 1073741824 ∧ ∀ r : Int, 0 ≤ r → r < w → q (.int r)) := propext Iff.rfl
theorem a_its (m : Cm D) : (its m) l e = m (fun d => (opt (itemsOf d)) l e) e := propext Iff.rfl
theorem a_reprC (m : Cm D) : (reprC m) q e = m (fun d => Rok d 60 16777000 ∧ q (.str (reprD d))) e := propext Iff.rfl
end
end Cm
/-! ### the operators on data of a known kind -/
@[simp] theorem isaO_non (cs T) : isaO cs T .non = some (subT "NoneType" T) := rfl
@[simp] theorem isaO_bl (cs T b) : isaO cs T (.bl b) = some (subT "bool" T) := rfl
@[simp] theorem isaO_int (cs T i) : isaO cs T (.int i) = some (subT "int" T) := rfl
@[simp] theorem isaO_str (cs T x) : isaO cs T (.str x) = some (subT "str" T) := rfl
@[simp] theorem isaO_tup (cs T x) : isaO cs T (.tup x) = some (subT "tuple" T) := rfl
@[simp] theorem isaO_lst (cs T x) : isaO cs T (.lst x) = some (subT "list" T) := rfl
@[simp] theorem iscO_non (cs C) : iscO cs C .non = some false := rfl
@[simp] theorem iscO_bl (cs C b) : iscO cs C (.bl b) = some false := rfl
@[simp] theorem iscO_int (cs C i) : iscO cs C (.int i) = some false := rfl
@[simp] theorem iscO_str (cs C x) : iscO cs C (.str x) = some false := rfl
@[simp] theorem iscO_tup (cs C x) : iscO cs C (.tup x) = some false := rfl
@[simp] theorem iscO_lst (cs C x) : iscO cs C (.lst x) = some false := rfl
@[simp] theorem iscO_obj (cs C a c f) : iscO cs C (.obj a c f) = if c ∈ cs then some (decide (c = C)) else none := rfl
@[simp] theorem subT_self (T : String) : subT T T = true := by simp [subT]
@[simp] theorem itemsOf_lst (ds) : itemsOf (.lst ds) = some ds := rfl
@[simp] theorem itemsOf_tup (ds) : itemsOf (.tup ds) = some ds := rfl
@[simp] theorem itemsOf_str (x) : itemsOf (.str x) = some (x.map fun c => .str [c]) := rfl
@[simp] theorem itemsOf_scr (x) : itemsOf (.scr x) = some (x.map .int) := rfl
@[simp] theorem addO_int (i j) : addO (.int i) (.int j) = some (.int (i + j)) := rfl
@[simp] theorem subO_int (i j) : subO (.int i) (.int j) = some (.int (i - j)) := rfl
@[simp] theorem ltO_int (i j) : ltO (.int i) (.int j) = some (decide (i < j)) := rfl
@[simp] theorem leO_int (i j) : leO (.int i) (.int j) = some (decide (i ≤ j)) := rfl
@[simp] theorem gtO_int (i j) : gtO (.int i) (.int j) = some (decide (j < i)) := rfl
@[simp] theorem geO_int (i j) : geO (.int i) (.int j) = some (decide (j ≤ i)) := rfl
@[simp] theorem ltO_str (i j) : ltO (.str i) (.str j) = some (decide (i < j)) := rfl
@[simp] theorem leO_str (i j) : leO (.str i) (.str j) = some (!decide (j < i)) := rfl
@[simp] theorem gtO_str (i j) : gtO (.str i) (.str j) = some (decide (j < i)) := rfl
@[simp] theorem geO_str (i j) : geO (.str i) (.str j) = some (!decide (i < j)) := rfl
@[simp] theorem ixO_int (x i) : ixO x (.int i) = ixD x i := rfl
@[simp] theorem lenO_lst (ds) : lenO (.lst ds) = some (.int ds.length) := rfl
@[simp] theorem lenO_tup (ds) : lenO (.tup ds) = some (.int ds.length) := rfl
@[simp] theorem lenO_str (ds) : lenO (.str ds) = some (.int ds.length) := rfl
@[simp] theorem lenO_scr (ds) : lenO (.scr ds) = some (.int ds.length) := rfl
@[simp] theorem tupO_lst (ds) : tupO (.lst ds) = some (.tup ds) := rfl
@[simp] theorem tupO_tup (ds) : tupO (.tup ds) = some (.tup ds) := rfl
@[simp] theorem toIntO_int (i) : toIntO (.int i) = some (.int i) := rfl
@[simp] theorem maxO_int (i j) : maxO (.int i) (.int j) = some (.int (max i j)) := rfl
@[simp] theorem minO_int (i j) : minO (.int i) (.int j) = some (.int (min i j)) := rfl
@[simp] theorem isNon_non : isNon .non = true := rfl
@[simp] theorem isNon_tup (x) : isNon (.tup x) = false := rfl
@[simp] theorem isNon_int (x) : isNon (.int x) = false := rfl
@[simp] theorem isNon_str (x) : isNon (.str x) = false := rfl
@[simp] theorem isNon_lst (x) : isNon (.lst x) = false := rfl
theorem allO_map {α : Type} (as : List α) (g : α → Bool) : allO (.lst (as.map fun a => .bl (g a))) = some (.bl (as.all g)) := by
  show (blsO _).map _ = _
  rw [blsO_map]
  show some (D.bl ((as.map g).all id)) = _
  rw [List.all_map]; rfl
theorem anyO_map {α : Type} (as : List α) (g : α → Bool) : anyO (.lst (as.map fun a => .bl (g a))) = some (.bl (as.any g)) := by
  show (blsO _).map _ = _
  rw [blsO_map]
  show some (D.bl ((as.map g).any id)) = _
  rw [List.any_map]; rfl
theorem sumO_map {α : Type} (as : List α) (g : α → Int) : sumO (.lst (as.map fun a => .int (g a))) = some (.int (as.map g).sum) := by
  show (intsO _).map _ = _
  rw [intsO_map]; rfl
theorem dat_flat {d : D} {n : Nat} (h : flatD d = true) : dat d n = true := by
  cases d <;> first | (unfold dat; rfl) | (cases h)
theorem eqO_flat {a b : D} (h : flatD a = true) (h2 : flatD b = true) : eqO a b = some (deq a b) := by
  unfold eqO; rw [dat_flat h, dat_flat h2]; rfl
theorem neO_flat {a b : D} (h : flatD a = true) (h2 : flatD b = true) : neO a b = some (!deq a b) := by
  unfold neO; rw [dat_flat h, dat_flat h2]; rfl
theorem deq_str {a b : List Nat} : deq (.str a) (.str b) = decide (a = b) := by
  unfold deq; by_cases h : a = b <;> simp [h]
theorem deq_bl {a b : Bool} : deq (.bl a) (.bl b) = decide (a = b) := by
  unfold deq; by_cases h : a = b <;> simp [h]
@[simp] theorem eqO_int (a b) : eqO (.int a) (.int b) = some (decide (a = b)) := by rw [eqO_flat rfl rfl, deq_int]
@[simp] theorem neO_int (a b) : neO (.int a) (.int b) = some (!decide (a = b)) := by rw [neO_flat rfl rfl, deq_int]
@[simp] theorem eqO_str (a b) : eqO (.str a) (.str b) = some (decide (a = b)) := by rw [eqO_flat rfl rfl, deq_str]
@[simp] theorem neO_str (a b) : neO (.str a) (.str b) = some (!decide (a = b)) := by rw [neO_flat rfl rfl, deq_str]
@[simp] theorem eqO_bl (a b) : eqO (.bl a) (.bl b) = some (decide (a = b)) := by rw [eqO_flat rfl rfl, deq_bl]
@[simp] theorem neO_bl (a b) : neO (.bl a) (.bl b) = some (!decide (a = b)) := by rw [neO_flat rfl rfl, deq_bl]
theorem inO_chr {c : Nat} {z : List Nat} : inO (.str [c]) (.str z) = some (decide (c ∈ z)) := rfl
theorem joinO_lst {sep : List Nat} {ss : List (List Nat)} (h : (ss.map List.length).sum + ss.length * sep.length ≤ 16777000) : joinO (.str sep) (.lst (ss.map .str)) = some (.str (joinL sep ss)) := by
  unfold joinO
  simp only [seqD, strsO_map']
  rw [if_pos h]
theorem joinO_tup {sep : List Nat} {ss : List (List Nat)} (h : (ss.map List.length).sum + ss.length * sep.length ≤ 16777000) : joinO (.str sep) (.tup (ss.map .str)) = some (.str (joinL sep ss)) := by
  unfold joinO
  simp only [seqD, strsO_map']
  rw [if_pos h]
end Fz
end

section
namespace Fz
open PySem PySem.Spec PyProof.Rows L2 PySem.W
section
variable {σ ρ α : Type} {X : Cx} {Ex : AX} {S S0 x : Store} {J : Jn S0 ρ} {Γ : Gam} {a b c o ex elt tg iter value : Expr} {es : List Expr} {rest body t f : List Stmt} {pos p p1 p2 p3 apos pos' pt : Pos} {m ma mb mc : Cm D} {n : Cm Bool} {ms mi : Cm (List D)} {d : D} {k j : Nat} {scope : Scope} {y z w : Str} {DE : AEnds}
theorem z1_par3 {i j l : Nat} {kt k2 pt2} {px py pz : Pos} (h : ZE X Ex a Γ S fun u S1 => ZE X Ex b Γ S1 fun v S2 => ZE X Ex c Γ S2 fun q S3 => DE.nx (((Γ.set i (some u)).set j (some v)).set l (some q)) S3)
    (hw : swappedStores [.Tuple [.Name y px, .Name z py, .Name w pz] kt pt] (.Tuple [a, b, c] k2 pt2) X.env = pure (some [y, z, w])) (hi : X.N[i]? = some y) (hj : X.N[j]? = some z) (hl : X.N[l]? = some w) (hij : i ≠ j) (hil : i ≠ l) (hjl : j ≠ l)
    (hx : X.env.scope.names.lookup y = some .local) (hy : X.env.scope.names.lookup z = some .local) (hz : X.env.scope.names.lookup w = some .local)
    (hs : swapsWithSole [.Tuple [.Name y px, .Name z py, .Name w pz] kt pt] (.Tuple [a, b, c] k2 pt2) pos.line X.env = pure false)
    (s1 : starEach [a, b, c] X.env = (false, eval a X.env) :: starEach [b, c] X.env) (s2 : starEach [b, c] X.env = (false, eval b X.env) :: starEach [c] X.env) (s3 : starEach [c] X.env = (false, eval c X.env) :: starEach [] X.env) :
    Z1 X Ex (.Assign [.Tuple [.Name y px, .Name z py, .Name w pz] kt pt] (.Tuple [a, b, c] k2 pt2) pos) Γ S DE := fun F σ H co D' kq =>
  self1_of (ps_par3 co.ok.calm co.ok.nd hi hj hl hij hil hjl hx hy hz pa_self hw hs) (za_cons (Q := fun ds S3 => ∃ u v q, ds = [u, v, q] ∧ DE.nx (((Γ.set i (some u)).set j (some v)).set l (some q)) S3) (h.mono fun u S1 q => za_cons (q.mono fun v S2 q => za_cons (q.mono fun w S3 q => za_nil ⟨u, v, w, rfl, q⟩) s3) s2) s1 F σ H co _
    fun vs H1 ds S1 t hc r ⟨u, v, q', e, q⟩ => by
      subst e
      cases r with | cons r rr => cases rr with | cons r2 rr => cases rr with | cons r3 rr => cases rr; exact ⟨_, _, _, rfl, kq.nx _ _ _ _ t hc ((((co.rg.mono t.ext).set r).set r2).set r3) q⟩)
/-- a, b, c = u, v, w -/
theorem zx_par3 (i j l : Nat) {kt k2 pt2} {px py pz : Pos} (h : ZN X S0 a Γ x ma) (h2 : ZN X S0 b Γ x mb) (h3 : ZN X S0 c Γ x mc) {f : D → D → D → Cm ρ} (k : ∀ d d2 d3, ZX X J rest (((Γ.set i (some d)).set j (some d2)).set l (some d3)) x (f d d2 d3))
    (hw : swappedStores [.Tuple [.Name y px, .Name z py, .Name w pz] kt pt] (.Tuple [a, b, c] k2 pt2) X.env = pure (some [y, z, w]) := by rfl) (hi : X.N[i]? = some y := by rfl) (hj : X.N[j]? = some z := by rfl) (hl : X.N[l]? = some w := by rfl) (hij : i ≠ j := by decide) (hil : i ≠ l := by decide) (hjl : j ≠ l := by decide)
    (hx : X.env.scope.names.lookup y = some .local := by rfl) (hy : X.env.scope.names.lookup z = some .local := by rfl) (hz : X.env.scope.names.lookup w = some .local := by rfl)
    (hs : swapsWithSole [.Tuple [.Name y px, .Name z py, .Name w pz] kt pt] (.Tuple [a, b, c] k2 pt2) pos.line X.env = pure false := by rfl)
    (s1 : starEach [a, b, c] X.env = (false, eval a X.env) :: starEach [b, c] X.env := by rfl) (s2 : starEach [b, c] X.env = (false, eval b X.env) :: starEach [c] X.env := by rfl) (s3 : starEach [c] X.env = (false, eval c X.env) :: starEach [] X.env := by rfl) :
    ZX X J (.Assign [.Tuple [.Name y px, .Name z py, .Name w pz] kt pt] (.Tuple [a, b, c] k2 pt2) pos :: rest) Γ x (Cm.let3 ma mb mc f) := fun q e hq =>
  zs_cons (z1_par3 (i := i) (j := j) (l := l) ((h _ e hq).mono fun d S1 ⟨e1, h1⟩ => by
    subst e1
    refine (h2 _ e h1).mono fun d2 S2 ⟨e2, h4⟩ => ?_
    subst e2
    refine (h3 _ e h4).mono fun d3 S3 ⟨e3, h5⟩ => ?_
    subst e3
    exact k d d2 d3 q e h5) hw hi hj hl hij hil hjl hx hy hz hs s1 s2 s3)
/-- a, b, c = e -/
theorem zx_unp3 (i j l : Nat) {kt} {px py pz : Pos} (h : ZN X S0 a Γ x m) {f : D → D → D → Cm ρ} (k : ∀ d d2 d3, ZX X J rest (((Γ.set i (some d)).set j (some d2)).set l (some d3)) x (f d d2 d3)) (nd : X.N.Nodup)
    (hi : X.N[i]? = some y := by rfl) (hj : X.N[j]? = some z := by rfl) (hl : X.N[l]? = some w := by rfl) (hx : Loc X.env.scope y := by first | exact .inl rfl | exact .inr rfl) (hx2 : Loc X.env.scope z := by first | exact .inl rfl | exact .inr rfl) (hx3 : Loc X.env.scope w := by first | exact .inl rfl | exact .inr rfl)
    (hf : X.fn y = true ∨ X.env.scope.names.lookup y = some .local := by first | exact .inl rfl | exact .inr rfl) (hf2 : X.fn z = true ∨ X.env.scope.names.lookup z = some .local := by first | exact .inl rfl | exact .inr rfl) (hf3 : X.fn w = true ∨ X.env.scope.names.lookup w = some .local := by first | exact .inl rfl | exact .inr rfl)
    (e1 : (assignEach (.Name y px :: [.Name z py, .Name w pz]) X.env).map (·.2) = assign (.Name y px) X.env :: (assignEach [.Name z py, .Name w pz] X.env).map (·.2) := by rfl) (e2 : (assignEach (.Name z py :: [.Name w pz]) X.env).map (·.2) = assign (.Name z py) X.env :: (assignEach [.Name w pz] X.env).map (·.2) := by rfl) (e3 : (assignEach (.Name w pz :: []) X.env).map (·.2) = assign (.Name w pz) X.env :: (assignEach [] X.env).map (·.2) := by rfl)
    (hn : (assignEach [.Name y px, .Name z py, .Name w pz] X.env).length = 3 := by rfl) (hst : (assignEach [.Name y px, .Name z py, .Name w pz] X.env).findIdx? (·.1) = none := by rfl)
    (hs : swapsWithSole [.Tuple [.Name y px, .Name z py, .Name w pz] kt pt] a pos.line X.env = pure false := by rfl) (hw : swappedStores [.Tuple [.Name y px, .Name z py, .Name w pz] kt pt] a X.env = pure none := by rfl)
    (h1 : (assignEach [.Tuple [.Name y px, .Name z py, .Name w pz] kt pt] X.env).map (·.2) = [assign (.Tuple [.Name y px, .Name z py, .Name w pz] kt pt) X.env] := by rfl) :
    ZX X J (.Assign [.Tuple [.Name y px, .Name z py, .Name w pz] kt pt] a pos :: rest) Γ x (m.bind (.tr3 f)) := fun q e hq =>
  zs_cons (z1_asg ((h _ e hq).mono fun d S1 ⟨e4, h4⟩ => by
    subst e4
    match d, h4 with
    | .tup [u, v, r], h3 => exact zg_tup rfl (zgs_name (i := i) (zgs_name (i := j) (zgs_name (i := l) (zgs_nil (k u v r q e h3)) nd hl hx3 hf3 e3) nd hj hx2 hf2 e2) nd hi hx hf e1) rfl hn hst
    | .tup [], h3 | .tup [_], h3 | .tup [_, _], h3 | .tup (_ :: _ :: _ :: _ :: _), h3 | .non, h3 | .bl _, h3 | .int _, h3 | .str _, h3 | .ref _, h3 | .lst _, h3 | .scr _, h3 | .obj .., h3 | .dk _, h3 | .dt _, h3 => exact h3.elim) hs hw h1)
end
/-! ### list.count, of flat items -/
def rCntF (K : PySem.W.Frag) : V → List V → Hp → VK → Prop := fun x xs H Q => ∃ (a : Addr) (ys : List V) (y : V), x = V.ref a ∧ xs = [y] ∧ SqL K H a ys ∧ flatV y = true ∧ ys.all flatV = true ∧ Q (.int (ys.countP fun z => eqV z y : Nat)) H
theorem countF {ys : List V} {its : List Value} {y : V} (rv : Vals ys its) (f : ys.all flatV = true) : its.countP (eqU y) = ys.countP fun z => eqV z y := by
  induction rv with
  | nil => rfl
  | cons r t ih =>
    rw [List.all_cons, Bool.and_eq_true] at f
    rw [List.countP_cons, List.countP_cons, ih f.2, eqU_of r f.1]
theorem mt_lcountF {X : Cx} : MtR X "list.count" (rCntF X.K) := by
  intro pins s σ H x xs v us Q I rx rxs h
  obtain ⟨a, ys, y, rfl, rfl, hs, fy, fys, q⟩ := h
  cases rx
  cases rxs with
  | cons ry rt =>
    rename_i uy ut
    cases rt
    obtain ⟨its, rv, ⟨⟨cls, dd, data, sl⟩, n, ho, hc, hdn, hd⟩, hlen⟩ := I.list hs
    simp only at hc hd
    subst hc hd
    refine call_meets PySem.F.slot_list_count ⟨_, ho, rfl⟩ PySem.F.entry_list_count (PySem.F.args_list_count_2 _ _)
      (SeqAt.list_countAt a its.toArray n dd sl uy (eqU y)) ⟨ho, fun u' hu' => (mem_eqAt ry fy rv fys u' (by simpa using hu')), ?_⟩
    have ec : its.toArray.toList.countP (eqU y) = ys.countP fun z => eqV z y := countF rv fys
    refine ⟨.int (ys.countP fun z => eqV z y : Nat), H, I.tok _, ⟨s.toks, ?_⟩, q⟩
    show Value.int ((its.toArray.toList.countP (eqU y) : Nat) : Int) s.toks = _
    rw [ec]
namespace Cm
def countD (d e : D) : Option D := match d with
  | .lst ds => if flatD e && ds.all flatD then some (.int (ds.countP fun x => deq x e : Nat)) else none
  | _ => none
def lm2 (g : D → D → Option D) (ma mb : Cm D) : Cm D := ma.bind fun u => match u with | .lst z => mb.bind fun v => opt (g (.lst z) v) | _ => st
def countC (a b : Cm D) : Cm D := lm2 countD a b
end Cm
section
variable {X : Cx} {S0 x : Store} {Γ : Gam} {a o : Expr} {pos apos : Pos} {ma mb : Cm D}
theorem flat_cnt {K G} {e : D} {w : V} (re : Rep K G e w) (fe : flatD e = true) : ∀ {ds : List D} {vs : List V}, RepL K G ds vs → ds.all flatD = true → vs.all flatV = true ∧ (vs.countP fun z => eqV z w) = ds.countP fun x => deq x e
  | _, _, .nil, _ => ⟨rfl, rfl⟩
  | _, _, .cons r rr, f => by
    rw [List.all_cons, Bool.and_eq_true] at f
    obtain ⟨h1, h2⟩ := flat_cnt re fe rr f.2
    obtain ⟨f1, f2, h3⟩ := flat_eq r re f.1 fe
    exact ⟨by rw [List.all_cons, f1, h1]; rfl, by rw [List.countP_cons, List.countP_cons, h2, h3]⟩
theorem zn_count (ha : ZN X S0 o Γ x ma) (hb : ZN X S0 a Γ x mb) (hs : starEach [a] X.env = (false, eval a X.env) :: starEach [] X.env := by rfl) (hbase : attributeBase o "count" X.env (eval o X.env) = eval o X.env := by rfl)
    (hfew : ((backTo pos (starEach [a] X.env)).all (fun x => !x.1) && (backToKw pos (keywordEach [] X.env)).all (fun x => x.1.isSome) && decide (([a] : List Expr).length + ([] : List Keyword).length + (if ([] : List Keyword).isEmpty then 0 else 1) < 30)) = true := by rfl)
    (hline : (apos.endLine == pos.line) = true := by rfl) : ZN X S0 (.Call (.Attribute o "count" apos) [a] [] pos) Γ x (.countC ma mb) := fun q e hq =>
  ze_of (pe_bm PySem.F.plainAttrs_list PySem.F.slot_list_count PySem.F.type_list_count mt_lcountF pe_self pa_self hbase hfew hline hs rfl) fun F σ H c Q' kq => ha _ e hq F σ H c _ fun v H1 d S1 t1 c1 r1 ⟨e1, h1⟩ => by
    subst e1
    cases d with
    | lst ds =>
      cases r1 with
      | @lst _ p xs hl rr =>
        refine ⟨.inl ⟨rfl, xs, SqL.of (hd_sub _ _ hl)⟩, za_cons (Q := fun zs S' => ∃ d, zs = [d] ∧ S' = S0 ++ x ∧ (Cm.opt (Cm.countD (.lst ds) d)) q e) ((hb _ e h1).mono fun d S' ⟨e2, q2⟩ => za_nil ⟨d, rfl, e2, q2⟩) hs F σ H1 (c.step t1 c1) _ fun vs H2 ds2 S2 t2 c2 r2 ⟨d, ed, e2, q2⟩ => ?_⟩
        subst ed e2
        obtain ⟨w, rfl, r9⟩ := rep1 r2
        have q3 : (Cm.opt (if (flatD d && ds.all flatD) = true then some (D.int (ds.countP fun x => deq x d : Nat)) else none)) q e := q2
        split at q3
        · rename_i hf
          obtain ⟨f1, f2⟩ := Bool.and_eq_true_iff.mp hf
          have rr2 := rr.mono t2.ext
          obtain ⟨h3, h4⟩ := flat_cnt r9 f1 rr2 f2
          obtain ⟨fw, _, _⟩ := flat_eq r9 r9 f1 f1
          refine ⟨p, xs, w, rfl, rfl, SqL.of (hd_sub _ _ (t2.ext _ _ hl)), fw, h3, ?_⟩
          rw [h4]
          exact kq _ _ _ _ (t1.trans t2) c2 .int ⟨rfl, q3⟩
        · exact q3.elim
    | _ => exact h1.elim
end
/-! ### enumerate -/
def enumD (ds : List D) : List D := ds.zipIdx.map fun p => .tup [.int (p.2 : Int), p.1]
theorem enum_get {ds : List D} {i : Nat} {d : D} (h : (enumD ds)[i]? = some d) : ∃ y, ds[i]? = some y ∧ d = .tup [.int (i : Int), y] := by
  unfold enumD at h
  rw [List.getElem?_map, List.getElem?_zipIdx] at h
  cases hd : ds[i]? with
  | none => rw [hd] at h; cases h
  | some y => rw [hd] at h; simp at h; exact ⟨y, rfl, h.symm⟩
theorem walk_enum {K G a xs ds} (h : SqL K G a xs) (r : RepL K G ds xs) : WalkA K G (Ite K a) (enumD ds) := fun F' S' H' s hc i => by
  have h' : SqL K H' a xs := sl_H (s.sl h)
  refine ⟨fun d e => ?_, fun l => ⟨xs, h', by rw [← r.length]; unfold enumD at l; simpa using l⟩⟩
  obtain ⟨y, hy, rfl⟩ := enum_get e
  obtain ⟨v, ev, rv⟩ := r.get hy
  refine ⟨⟨xs, v, h', ev⟩, fun x H2 ⟨T, x', e1, e2, e3, e4⟩ => ?_⟩
  subst e1 e3
  have e5 := e4 xs h'
  rw [ev] at e5
  cases e5
  obtain ⟨n1, n2, n3⟩ := hc.new (o := .tup [.int (i : Nat), v]) e2
  exact ⟨n2, n1, .tup (SqT.of n3) (.cons .int (.cons ((rv.mono s).mono n2.ext) .nil))⟩
namespace Cm
def enmO : D → Option (List D)
  | .lst ds => some (enumD ds)
  | _ => none
def enm (m : Cm D) : Cm (List D) := m.bind fun d => opt (enmO d)
end Cm
section
variable {X : Cx} {S0 x : Store} {Γ : Gam} {a b c : Expr} {elts : List Expr} {kk : Nat} {pos p tpos : Pos} {m : Cm D}
theorem zni_enum (bn : Bn X.mg) (h : ZN X S0 a Γ x m) (hg : Gl X "enumerate" := by rfl) (hs : starEach [a] X.env = [(false, eval a X.env)] := by rfl) : ZNI X S0 (.Tuple elts kk tpos) (.Call (.Name "enumerate" p) [a] [] pos) Γ x (.enm m) := fun q e hq F σ H co R' kq =>
  selfI_of (pi_enum hg bn.enumerate pa_self hs) (za_cons (Q := fun zs S' => ∃ d, zs = [d] ∧ S' = S0 ++ x ∧ (Cm.opt (Cm.enmO d)) q e) ((h _ e hq).mono fun d S' ⟨e2, q2⟩ => za_nil ⟨d, rfl, e2, q2⟩) (by rw [hs]; rfl) F σ H co _ fun vs H1 zs S1 t hc r ⟨d, ed, e2, q2⟩ => by
    subst ed e2
    obtain ⟨v, rfl, r9⟩ := rep1 r
    cases d with
    | lst ds =>
      cases r9 with
      | @lst _ pa xs hl rr => exact ⟨pa, xs, rfl, SqL.of (hd_sub _ _ hl), kq _ _ _ _ t hc (walk_enum (SqL.of hl) rr) ⟨rfl, q2⟩⟩
    | _ => exact q2.elim)
/-! ### min, max of a list of ints -/
def mnI : List Int → Int
  | [] => 0
  | n :: ns => ns.foldl min n
def mxI : List Int → Int
  | [] => 0
  | n :: ns => ns.foldl max n
theorem foldl_min : ∀ (ns : List Int) (n : Int), (ns.foldl min n = n ∨ ns.foldl min n ∈ ns) ∧ ns.foldl min n ≤ n ∧ ∀ y ∈ ns, ns.foldl min n ≤ y
  | [], n => ⟨.inl rfl, Int.le_refl _, fun y h => nomatch h⟩
  | k :: ns, n => by
    obtain ⟨h1, h2, h3⟩ := foldl_min ns (min n k)
    rw [List.foldl_cons]
    refine ⟨?_, by omega, fun y hy => ?_⟩
    · rcases h1 with h | h
      · by_cases c : n ≤ k
        · left; rw [h]; omega
        · right; rw [h]
          have : min n k = k := by omega
          rw [this]; exact List.mem_cons_self ..
      · right; exact List.mem_cons_of_mem _ h
    · rcases List.mem_cons.mp hy with e | hy
      · subst e; omega
      · exact h3 y hy
theorem foldl_max : ∀ (ns : List Int) (n : Int), (ns.foldl max n = n ∨ ns.foldl max n ∈ ns) ∧ n ≤ ns.foldl max n ∧ ∀ y ∈ ns, y ≤ ns.foldl max n
  | [], n => ⟨.inl rfl, Int.le_refl _, fun y h => nomatch h⟩
  | k :: ns, n => by
    obtain ⟨h1, h2, h3⟩ := foldl_max ns (max n k)
    rw [List.foldl_cons]
    refine ⟨?_, by omega, fun y hy => ?_⟩
    · rcases h1 with h | h
      · by_cases c : k ≤ n
        · left; rw [h]; omega
        · right; rw [h]
          have : max n k = k := by omega
          rw [this]; exact List.mem_cons_self ..
      · right; exact List.mem_cons_of_mem _ h
    · rcases List.mem_cons.mp hy with e | hy
      · subst e; omega
      · exact h3 y hy
theorem mn_spec {n : Int} {ns : List Int} : mnI (n :: ns) ∈ n :: ns ∧ ∀ y ∈ n :: ns, mnI (n :: ns) ≤ y := by
  obtain ⟨h1, h2, h3⟩ := foldl_min ns n
  exact ⟨h1.elim (fun h => by rw [show mnI (n :: ns) = ns.foldl min n from rfl, h]; exact List.mem_cons_self ..) fun h => List.mem_cons_of_mem _ h, fun y hy => (List.mem_cons.mp hy).elim (fun e => e ▸ h2) (h3 y)⟩
theorem mx_spec {n : Int} {ns : List Int} : mxI (n :: ns) ∈ n :: ns ∧ ∀ y ∈ n :: ns, y ≤ mxI (n :: ns) := by
  obtain ⟨h1, h2, h3⟩ := foldl_max ns n
  exact ⟨h1.elim (fun h => by rw [show mxI (n :: ns) = ns.foldl max n from rfl, h]; exact List.mem_cons_self ..) fun h => List.mem_cons_of_mem _ h, fun y hy => (List.mem_cons.mp hy).elim (fun e => e ▸ h2) (h3 y)⟩
def min1O : D → Option D
  | .lst ds => (intsO ds).bind fun ns => if ns.isEmpty then none else some (.int (mnI ns))
  | _ => none
def max1O : D → Option D
  | .lst ds => (intsO ds).bind fun ns => if ns.isEmpty then none else some (.int (mxI ns))
  | _ => none
namespace Cm
def min1 (m : Cm D) : Cm D := b1 min1O m
def max1 (m : Cm D) : Cm D := b1 max1O m
end Cm
theorem zn_min1 (ok : X.calm = true) (bn : Bn X.mg) (h : ZN X S0 a Γ x m) (hg : Gl X "min" := by rfl) (hs : s1 X a := by rfl) : ZN X S0 (.Call (.Name "min" p) [a] [] pos) Γ x (.min1 m) := zn_cb1 (cr_min ok) (fun d z e => by
  cases d with
  | lst ds =>
    have e : ((intsO ds).bind fun ns => if ns.isEmpty then none else some (D.int (mnI ns))) = some z := e
    cases hk : intsO ds with
    | none => rw [hk] at e; cases e
    | some ns =>
      rw [hk] at e
      cases ns with
      | nil => cases e
      | cons n ns =>
        cases e
        rw [intsO_eq hk]
        exact fun F S H vs Q' hc r k => by
          obtain ⟨v, rfl, r9⟩ := rep1 r
          cases r9 with
          | lst hl rr =>
            rw [rr.ints_inv] at hl
            refine ⟨_, n :: ns, rfl, SqL.of (hd_sub _ _ hl), by simp, fun w h1 h2 => ?_⟩
            have := mn_spec (n := n) (ns := ns)
            have e : w = mnI (n :: ns) := Int.le_antisymm (h2 _ this.1) (this.2 w h1)
            rw [e]; exact k.self hc .int
  | _ => cases e) bn.min boot_min' h hg (hs := hs)
theorem zn_max1 (ok : X.calm = true) (bn : Bn X.mg) (h : ZN X S0 a Γ x m) (hg : Gl X "max" := by rfl) (hs : s1 X a := by rfl) : ZN X S0 (.Call (.Name "max" p) [a] [] pos) Γ x (.max1 m) := zn_cb1 (cr_max ok) (fun d z e => by
  cases d with
  | lst ds =>
    have e : ((intsO ds).bind fun ns => if ns.isEmpty then none else some (D.int (mxI ns))) = some z := e
    cases hk : intsO ds with
    | none => rw [hk] at e; cases e
    | some ns =>
      rw [hk] at e
      cases ns with
      | nil => cases e
      | cons n ns =>
        cases e
        rw [intsO_eq hk]
        exact fun F S H vs Q' hc r k => by
          obtain ⟨v, rfl, r9⟩ := rep1 r
          cases r9 with
          | lst hl rr =>
            rw [rr.ints_inv] at hl
            refine ⟨_, n :: ns, rfl, SqL.of (hd_sub _ _ hl), by simp, fun w h1 h2 => ?_⟩
            have := mx_spec (n := n) (ns := ns)
            have e : w = mxI (n :: ns) := Int.le_antisymm (this.2 w h1) (h2 _ this.1)
            rw [e]; exact k.self hc .int
  | _ => cases e) bn.max boot_max' h hg (hs := hs)
end
end Fz
end

section
/-! max(a, b), min(a, b) of two data -/
namespace Fz
open PySem PySem.Spec PyProof.Rows PySem.SeqAt PySem.W
open Sem (wp)
section
variable {prog : Program} {w : World} {A : Around} {E : Value → Shared → Prop} {s : Shared}
theorem call_max_twoH {x y : Value} {dx dy : PyData} {as : List Addr} {Q : Value → Shared → Prop} (hh : A.handled = none) (hr : ReadsAll s.heap [x, y] [dx, dy] as) (ha : AlikeAll [dx, dy]) (hu : A.units + 1 + PyData.depthAll [dx, dy] < cLine)
    (h : ∀ h' tk, (∀ b o, s.heap.get? b = some o → h'.get? b = some o) → Q (if dataLt dx dy then y else x) { s with heap := h', toks := tk }) : wpAny (model prog w) A (call (.builtin "max") [x, y]) Q E s := by
  have hname : (toString "max" ++ toString ".loop" : String) = "max.loop" := by decide
  refine call_function_tree F.kind_max F.plain_max F.entry_max (F.args_max2 _ _) ?_
  show wpAny _ A.in1 (Builtin.Builtins.bindParams "max" ["key", "default"] 0 ⟨[], []⟩ >>= _) _ _ s
  refine wpAny_bind (wpAny_of_eq (show Builtin.Builtins.bindParams "max" ["key", "default"] 0 ⟨[], []⟩ = pure [none, none] from rfl) ?_)
  show wpAny _ A.in1 (newTuple [x, y] >>= _) _ _ s
  refine wpAny_bind (wpAny_newObj_type ?_)
  have hT : (s.heap.push { cls := .type "tuple", data := .seq #[x, y] }).IsTuple s.heap.objs.size #[x, y] := ⟨_, Heap.get?_push_size _ rfl, rfl, 0, by simp⟩
  have k0 : ∀ b o, s.heap.get? b = some o → (s.heap.push { cls := .type "tuple", data := .seq #[x, y] }).get? b = some o := fun b o e => Heap.get?_push_of_some _ e
  refine wpAny_bind (iter_tupleW (A := A.in1) (s := { s with heap := s.heap.push { cls := .type "tuple", data := .seq #[x, y] } }) hh hT fun s₂ e W st hfp hw hk => ?_)
  refine wpAny_bind (wpAny_newObj_type ?_)
  have hSf : s₂.heap.objs.size ∉ [(s.heap.push { cls := .type "tuple", data := .seq #[x, y] }).objs.size, s.heap.objs.size] := fun hm => Nat.lt_irrefl _ (hfp _ hm)
  rw [hname]
  have hr1 : ReadsAll (s.heap.push { cls := .type "tuple", data := .seq #[x, y] }) (#[x, y] : Array Value).toList [dx, dy] as := ReadsAll.keeps k0 hr
  refine wpAny_pure ⟨plainId_quiet F.plain_max_loop _, codeAny_max_loop_firstH W _ hw (fun i j => dataLt ([dx, dy].getD j .none) ([dx, dy].getD i .none)) (cmpIn_gt (A := A.in1) (s := { s with heap := s.heap.push { cls := .type "tuple", data := .seq #[x, y] } }) hr1 ha (by show A.units + 1 + _ < _; exact hu)) s₂.heap.objs.size hSf (fresh_in hk) _ (by show 0 < 2; decide) (fun b o e => Heap.get?_push_of_some _ (hk b o e)) (W.frame 0 s₂ _ s₂.toks st (Nat.le_refl _) fun b _ o e => Heap.get?_push_of_some _ e) (Heap.get?_push_size _ rfl) fun v s' hP hm => ?_⟩
  obtain ⟨h', tk, rfl, hk'⟩ := moved_old e rfl (Moved.drop_new (tk := s₂.toks) hm (Nat.le_refl _))
  have hv : v = if dataLt dx dy then y else x := by
    have hP' : (#[x, y] : Array Value)[if dataLt dx dy = true then 1 else 0]? = some v := hP
    cases hd : dataLt dx dy with
    | true => rw [hd] at hP'; exact (Option.some.inj hP').symm
    | false => rw [hd] at hP'; exact (Option.some.inj hP').symm
  rw [hv]
  exact h h' tk fun b o e => hk' b o (k0 b o e)
theorem call_min_twoH {x y : Value} {dx dy : PyData} {as : List Addr} {Q : Value → Shared → Prop} (hh : A.handled = none) (hr : ReadsAll s.heap [x, y] [dx, dy] as) (ha : AlikeAll [dx, dy]) (hu : A.units + 1 + PyData.depthAll [dx, dy] < cLine)
    (h : ∀ h' tk, (∀ b o, s.heap.get? b = some o → h'.get? b = some o) → Q (if dataLt dy dx then y else x) { s with heap := h', toks := tk }) : wpAny (model prog w) A (call (.builtin "min") [x, y]) Q E s := by
  have hname : (toString "min" ++ toString ".loop" : String) = "min.loop" := by decide
  refine call_function_tree F.kind_min F.plain_min F.entry_min (F.args_min2 _ _) ?_
  show wpAny _ A.in1 (Builtin.Builtins.bindParams "min" ["key", "default"] 0 ⟨[], []⟩ >>= _) _ _ s
  refine wpAny_bind (wpAny_of_eq (show Builtin.Builtins.bindParams "min" ["key", "default"] 0 ⟨[], []⟩ = pure [none, none] from rfl) ?_)
  show wpAny _ A.in1 (newTuple [x, y] >>= _) _ _ s
  refine wpAny_bind (wpAny_newObj_type ?_)
  have hT : (s.heap.push { cls := .type "tuple", data := .seq #[x, y] }).IsTuple s.heap.objs.size #[x, y] := ⟨_, Heap.get?_push_size _ rfl, rfl, 0, by simp⟩
  have k0 : ∀ b o, s.heap.get? b = some o → (s.heap.push { cls := .type "tuple", data := .seq #[x, y] }).get? b = some o := fun b o e => Heap.get?_push_of_some _ e
  refine wpAny_bind (iter_tupleW (A := A.in1) (s := { s with heap := s.heap.push { cls := .type "tuple", data := .seq #[x, y] } }) hh hT fun s₂ e W st hfp hw hk => ?_)
  refine wpAny_bind (wpAny_newObj_type ?_)
  have hSf : s₂.heap.objs.size ∉ [(s.heap.push { cls := .type "tuple", data := .seq #[x, y] }).objs.size, s.heap.objs.size] := fun hm => Nat.lt_irrefl _ (hfp _ hm)
  rw [hname]
  have hr1 : ReadsAll (s.heap.push { cls := .type "tuple", data := .seq #[x, y] }) (#[x, y] : Array Value).toList [dx, dy] as := ReadsAll.keeps k0 hr
  refine wpAny_pure ⟨plainId_quiet F.plain_min_loop _, codeAny_min_loop_firstH W _ hw (fun i j => dataLt ([dx, dy].getD i .none) ([dx, dy].getD j .none)) (cmpIn_lt (A := A.in1) (s := { s with heap := s.heap.push { cls := .type "tuple", data := .seq #[x, y] } }) hr1 ha (by show A.units + 1 + _ < _; exact hu)) s₂.heap.objs.size hSf (fresh_in hk) _ (by show 0 < 2; decide) (fun b o e => Heap.get?_push_of_some _ (hk b o e)) (W.frame 0 s₂ _ s₂.toks st (Nat.le_refl _) fun b _ o e => Heap.get?_push_of_some _ e) (Heap.get?_push_size _ rfl) fun v s' hP hm => ?_⟩
  obtain ⟨h', tk, rfl, hk'⟩ := moved_old e rfl (Moved.drop_new (tk := s₂.toks) hm (Nat.le_refl _))
  have hv : v = if dataLt dy dx then y else x := by
    have hP' : (#[x, y] : Array Value)[if dataLt dy dx = true then 1 else 0]? = some v := hP
    cases hd : dataLt dy dx with
    | true => rw [hd] at hP'; exact (Option.some.inj hP').symm
    | false => rw [hd] at hP'; exact (Option.some.inj hP').symm
  rw [hv]
  exact h h' tk fun b o e => hk' b o (k0 b o e)

theorem call_minL {l : Addr} {vs : Array Value} {x : PyData} {xs : List PyData} {as : List Addr} {Q : Value → Shared → Prop} (hh : A.handled = none) (hl : s.heap.IsList l vs) (hr : ReadsAll s.heap vs.toList (x :: xs) as) (ha : AlikeAll (x :: xs)) (hu : A.units + 1 + PyData.depthAll (x :: xs) < cLine)
    (h : ∀ v h' tk, vs[argBest (fun i j => dataLt ((x :: xs).getD i .none) ((x :: xs).getD j .none)) xs.length]? = some v → (∀ b o, s.heap.get? b = some o → h'.get? b = some o) → Q v { s with heap := h', toks := tk }) :
    wpAny (model prog w) A (call (.builtin "min") [.ref l]) Q E s := by
  have hn : vs.size = xs.length + 1 := readsAll_len hr
  refine call_min_walkH (iter_listW (A := A.in1) hh hl fun s₂ e W st hfp hw hk => ?_)
  refine ⟨_, _, _, _, _, _, _, s.heap, _, rfl, W, st, hfp, by omega, hw, hk, cmpIn_lt (A := A.in1) hr ha (by show A.units + 1 + _ < _; exact hu), fun v s' hP m => ?_⟩
  obtain ⟨h', tk, rfl, hk'⟩ := moved_old e rfl m
  have e1 : vs.size - 1 = xs.length := by omega
  rw [e1] at hP
  exact h v h' tk hP hk'

theorem call_maxL {l : Addr} {vs : Array Value} {x : PyData} {xs : List PyData} {as : List Addr} {Q : Value → Shared → Prop} (hh : A.handled = none) (hl : s.heap.IsList l vs) (hr : ReadsAll s.heap vs.toList (x :: xs) as) (ha : AlikeAll (x :: xs)) (hu : A.units + 1 + PyData.depthAll (x :: xs) < cLine)
    (h : ∀ v h' tk, vs[argBest (fun i j => dataLt ((x :: xs).getD j .none) ((x :: xs).getD i .none)) xs.length]? = some v → (∀ b o, s.heap.get? b = some o → h'.get? b = some o) → Q v { s with heap := h', toks := tk }) :
    wpAny (model prog w) A (call (.builtin "max") [.ref l]) Q E s := by
  have hn : vs.size = xs.length + 1 := readsAll_len hr
  refine call_max_walkH (iter_listW (A := A.in1) hh hl fun s₂ e W st hfp hw hk => ?_)
  refine ⟨_, _, _, _, _, _, _, s.heap, _, rfl, W, st, hfp, by omega, hw, hk, cmpIn_gt (A := A.in1) hr ha (by show A.units + 1 + _ < _; exact hu), fun v s' hP m => ?_⟩
  obtain ⟨h', tk, rfl, hk'⟩ := moved_old e rfl m
  have e1 : vs.size - 1 = xs.length := by omega
  rw [e1] at hP
  exact h v h' tk hP hk'
end
end Fz
end

section
/-! max and min of data: of two, of a list -/
namespace Fz
open PySem PySem.Spec PyProof.Rows L2 PySem.W
def cmpD (ds : List D) : Prop := dats ds 50 = true ∧ AlikeAll (ds.map pyD)
def mxD (d e : D) : D := if dataLt (pyD d) (pyD e) then e else d
def mnD (d e : D) : D := if dataLt (pyD e) (pyD d) then e else d
def rMax2D (K : PySem.W.Frag) : List V → Hp → VK → Prop := fun vs H Q => ∃ G x y d e, vs = [x, y] ∧ Sub G H ∧ Rep K G d x ∧ Rep K G e y ∧ cmpD [d, e] ∧ Q (if dataLt (pyD d) (pyD e) then y else x) H
def rMin2D (K : PySem.W.Frag) : List V → Hp → VK → Prop := fun vs H Q => ∃ G x y d e, vs = [x, y] ∧ Sub G H ∧ Rep K G d x ∧ Rep K G e y ∧ cmpD [d, e] ∧ Q (if dataLt (pyD e) (pyD d) then y else x) H
def rMaxLD (K : PySem.W.Frag) : List V → Hp → VK → Prop := fun vs H Q => ∃ (G : Hp) (a : Addr) (xs : List V) (d : D) (ds : List D), vs = [.ref a] ∧ Sub G H ∧ SqL K H a xs ∧ RepL K G (d :: ds) xs ∧ cmpD (d :: ds) ∧ ∀ v, Rep K G (ds.foldl mxD d) v → Q v H
def rMinLD (K : PySem.W.Frag) : List V → Hp → VK → Prop := fun vs H Q => ∃ (G : Hp) (a : Addr) (xs : List V) (d : D) (ds : List D), vs = [.ref a] ∧ Sub G H ∧ SqL K H a xs ∧ RepL K G (d :: ds) xs ∧ cmpD (d :: ds) ∧ ∀ v, Rep K G (ds.foldl mnD d) v → Q v H
theorem depth_all : ∀ {ds : List D} {n : Nat}, dats ds n = true → PyData.depthAll (ds.map pyD) ≤ n
  | [], _, _ => Nat.zero_le _
  | d :: ds, n, h => by
    unfold dats at h
    obtain ⟨a, b⟩ := Bool.and_eq_true_iff.mp h
    exact Nat.max_le.mpr ⟨depth_dat a, depth_all b⟩
theorem repL_ix {K G} : ∀ {ds : List D} {vs : List V}, RepL K G ds vs → ∀ (i : Nat) (v : V), vs[i]? = some v → Rep K G (ds.getD i .non) v
  | _, _, .cons h _, 0, v, e => by
    have e : some _ = some v := e
    cases e; exact h
  | _, _, .cons _ r, i + 1, v, e => by
    have := repL_ix r i v (by simpa using e)
    simpa using this
  | _, _, .nil, i, v, e => by simp at e
theorem vals_ix : ∀ {vs : List V} {us : List Value}, Vals vs us → ∀ (i : Nat) (u : Value), us[i]? = some u → ∃ v, vs[i]? = some v ∧ L2.RelV v u
  | _, _, .cons h _, 0, u, e => by
    have e : some _ = some u := e
    cases e; exact ⟨_, rfl, h⟩
  | _, _, .cons _ r, i + 1, u, e => by
    obtain ⟨v, a, b⟩ := vals_ix r i u (by simpa using e)
    exact ⟨v, by simpa using a, b⟩
  | _, _, .nil, i, u, e => by simp at e
theorem getD_py (ds : List D) (i : Nat) : (ds.map pyD).getD i .none = pyD (ds.getD i .non) := by
  rw [List.getD_eq_getElem?_getD, List.getD_eq_getElem?_getD, List.getElem?_map]
  cases ds[i]? with
  | none => show PyData.none = pyD .non; unfold pyD; rfl
  | some d => rfl
section
variable {X : Cx}
theorem cr_max2D (hc : X.calm = true) (hu : X.A.units + 64 < cLine) : CallR X (.builtin "max") (rMax2D X.K) := by
  intro pins s σ H vs us Q I r ⟨G, x, y, d, e, ev, sb, r1, r2, ⟨dd, al⟩, q⟩
  subst ev
  obtain ⟨as, ra⟩ := readsL_at I sb (.cons r1 (.cons r2 .nil)) r dd
  rw [pyDs_map] at ra
  obtain ⟨u, v, rfl, ru, rv⟩ := vals2 r
  have hd := depth_all dd
  refine call_max_twoH (I.ok.hd hc) ra al (by show X.A.units + 1 + PyData.depthAll ([d, e].map pyD) < _; omega) fun h' tk k => ⟨_, H, I.kept k, ?_, q⟩
  cases dataLt (pyD d) (pyD e)
  · exact ru
  · exact rv
theorem cr_min2D (hc : X.calm = true) (hu : X.A.units + 64 < cLine) : CallR X (.builtin "min") (rMin2D X.K) := by
  intro pins s σ H vs us Q I r ⟨G, x, y, d, e, ev, sb, r1, r2, ⟨dd, al⟩, q⟩
  subst ev
  obtain ⟨as, ra⟩ := readsL_at I sb (.cons r1 (.cons r2 .nil)) r dd
  rw [pyDs_map] at ra
  obtain ⟨u, v, rfl, ru, rv⟩ := vals2 r
  have hd := depth_all dd
  refine call_min_twoH (I.ok.hd hc) ra al (by show X.A.units + 1 + PyData.depthAll ([d, e].map pyD) < _; omega) fun h' tk k => ⟨_, H, I.kept k, ?_, q⟩
  cases dataLt (pyD e) (pyD d)
  · exact ru
  · exact rv
theorem cr_maxLD (hc : X.calm = true) (hu : X.A.units + 64 < cLine) : CallR X (.builtin "max") (rMaxLD X.K) := by
  intro pins s σ H vs us Q I r ⟨G, a, xs, d, ds, ev, sb, sq, rl, ⟨dd, al⟩, q⟩
  subst ev
  obtain ⟨its, rv, hl, _⟩ := I.list sq
  obtain ⟨as, ra⟩ := readsL_at I sb rl rv dd
  rw [pyDs_map] at ra
  have hd := depth_all dd
  rw [Vals.ref1 r]
  refine call_maxL (I.ok.hd hc) hl.isList (x := pyD d) (xs := ds.map pyD) (by simpa using ra) al (by show X.A.units + 1 + PyData.depthAll ((d :: ds).map pyD) < _; omega) fun u h' tk hu k => ?_
  have ef : (fun i j => dataLt ((pyD d :: ds.map pyD).getD j .none) ((pyD d :: ds.map pyD).getD i .none)) = fun i j => (fun a b => dataLt (pyD b) (pyD a)) ((d :: ds).getD i .non) ((d :: ds).getD j .non) := by
    funext i j
    show dataLt (((d :: ds).map pyD).getD j .none) (((d :: ds).map pyD).getD i .none) = _
    rw [getD_py, getD_py]
  have e2 := (argBest_fold (fun a b => dataLt (pyD b) (pyD a)) D.non d ds ds.length (Nat.le_refl _)).2
  rw [List.take_length] at e2
  rw [ef, List.length_map] at hu
  rw [List.getElem?_toArray] at hu
  obtain ⟨v, h1, h2⟩ := vals_ix rv _ u hu
  have h3 := repL_ix rl _ v h1
  rw [e2] at h3
  exact ⟨v, H, I.kept k, h2, q v h3⟩
theorem cr_minLD (hc : X.calm = true) (hu : X.A.units + 64 < cLine) : CallR X (.builtin "min") (rMinLD X.K) := by
  intro pins s σ H vs us Q I r ⟨G, a, xs, d, ds, ev, sb, sq, rl, ⟨dd, al⟩, q⟩
  subst ev
  obtain ⟨its, rv, hl, _⟩ := I.list sq
  obtain ⟨as, ra⟩ := readsL_at I sb rl rv dd
  rw [pyDs_map] at ra
  have hd := depth_all dd
  rw [Vals.ref1 r]
  refine call_minL (I.ok.hd hc) hl.isList (x := pyD d) (xs := ds.map pyD) (by simpa using ra) al (by show X.A.units + 1 + PyData.depthAll ((d :: ds).map pyD) < _; omega) fun u h' tk hu k => ?_
  have ef : (fun i j => dataLt ((pyD d :: ds.map pyD).getD i .none) ((pyD d :: ds.map pyD).getD j .none)) = fun i j => (fun a b => dataLt (pyD a) (pyD b)) ((d :: ds).getD i .non) ((d :: ds).getD j .non) := by
    funext i j
    show dataLt (((d :: ds).map pyD).getD i .none) (((d :: ds).map pyD).getD j .none) = _
    rw [getD_py, getD_py]
  have e2 := (argBest_fold (fun a b => dataLt (pyD a) (pyD b)) D.non d ds ds.length (Nat.le_refl _)).2
  rw [List.take_length] at e2
  rw [ef, List.length_map] at hu
  rw [List.getElem?_toArray] at hu
  obtain ⟨v, h1, h2⟩ := vals_ix rv _ u hu
  have h3 := repL_ix rl _ v h1
  rw [e2] at h3
  exact ⟨v, H, I.kept k, h2, q v h3⟩
end
section
variable {X : Cx} {S0 x : Store} {Γ : Gam} {a b c o ex tg iter : Expr} {es : List Expr} {pos p p2 apos pos' : Pos} {m ma mb mc : Cm D} {n ma' mb' : Cm Bool} {ms : Cm (List D)} {d : D} {k j : Nat} {f : Str}
namespace Cm
def max2 (ma mb : Cm D) : Cm D := ma.bind fun d => mb.bind fun e => asr (cmpD [d, e]) (ok (mxD d e))
def min2 (ma mb : Cm D) : Cm D := ma.bind fun d => mb.bind fun e => asr (cmpD [d, e]) (ok (mnD d e))
def bestL (g : D → D → D) (m : Cm D) : Cm D := m.bind fun d => match d with
  | .lst (y :: ys) => asr (cmpD (y :: ys)) (ok (ys.foldl g y))
  | _ => st
theorem max2_of {d e : D} (h : cmpD [d, e]) : max2 (ok d) (ok e) = ok (mxD d e) := asr_true h _
theorem min2_of {d e : D} (h : cmpD [d, e]) : min2 (ok d) (ok e) = ok (mnD d e) := asr_true h _
theorem bestL_of {g} {y : D} {ys : List D} (h : cmpD (y :: ys)) : bestL g (ok (.lst (y :: ys))) = ok (ys.foldl g y) := asr_true h _
end Cm
theorem zn_max2D (hr : Room j X.A) (ok : X.calm = true) (bn : Bn X.mg) (h : ZN X S0 a Γ x ma) (h' : ZN X S0 b Γ x mb) (hg : Gl X "max" := by rfl) (hs : starEach [a, b] X.env = (false, eval a X.env) :: starEach [b] X.env := by rfl) (hs2 : s1 X b := by rfl) (hpl : (backTo pos (starEach [b] X.env)).any (·.1) = false := by rfl) : ZN X S0 (.Call (.Name "max" p) [a, b] [] pos) Γ x (.max2 ma mb) := fun q e hq =>
  ze_callBG (cr_max2D ok hr.units) bn.max boot_max' (za_cons ((h _ e hq).mono fun u S1 ⟨e1, h1⟩ => by
    subst e1
    refine za_cons ((h' _ e h1).mono fun v S2 ⟨e2, h2, h3⟩ => za_nil ⟨mxD u v, fun F S H vs Q' hc r k => ?_, e2, h3⟩) hs2
    obtain ⟨y, z, rfl, r8, r9⟩ := rep2 r
    refine ⟨_, y, z, u, v, rfl, hd_sub, r8, r9, h2, ?_⟩
    unfold mxD at k
    cases hl : dataLt (pyD u) (pyD v) with
    | true => rw [hl] at k; exact k.self hc r9
    | false => rw [hl] at k; exact k.self hc r8) hs) hg (he := hs) (hpl := hpl)
theorem zn_min2D (hr : Room j X.A) (ok : X.calm = true) (bn : Bn X.mg) (h : ZN X S0 a Γ x ma) (h' : ZN X S0 b Γ x mb) (hg : Gl X "min" := by rfl) (hs : starEach [a, b] X.env = (false, eval a X.env) :: starEach [b] X.env := by rfl) (hs2 : s1 X b := by rfl) (hpl : (backTo pos (starEach [b] X.env)).any (·.1) = false := by rfl) : ZN X S0 (.Call (.Name "min" p) [a, b] [] pos) Γ x (.min2 ma mb) := fun q e hq =>
  ze_callBG (cr_min2D ok hr.units) bn.min boot_min' (za_cons ((h _ e hq).mono fun u S1 ⟨e1, h1⟩ => by
    subst e1
    refine za_cons ((h' _ e h1).mono fun v S2 ⟨e2, h2, h3⟩ => za_nil ⟨mnD u v, fun F S H vs Q' hc r k => ?_, e2, h3⟩) hs2
    obtain ⟨y, z, rfl, r8, r9⟩ := rep2 r
    refine ⟨_, y, z, u, v, rfl, hd_sub, r8, r9, h2, ?_⟩
    unfold mnD at k
    cases hl : dataLt (pyD v) (pyD u) with
    | true => rw [hl] at k; exact k.self hc r9
    | false => rw [hl] at k; exact k.self hc r8) hs) hg (he := hs) (hpl := hpl)
theorem zn_maxLD (hr : Room j X.A) (ok : X.calm = true) (bn : Bn X.mg) (h : ZN X S0 a Γ x m) (hg : Gl X "max" := by rfl) (hs : s1 X a := by rfl) : ZN X S0 (.Call (.Name "max" p) [a] [] pos) Γ x (.bestL mxD m) := fun q e hq =>
  ze_callBG (cr_maxLD ok hr.units) bn.max boot_max' (za_cons ((h _ e hq).mono fun u S1 ⟨e1, h1⟩ => by
    match u, h1 with
    | .lst (y :: ys), h1 =>
      refine za_nil ⟨ys.foldl mxD y, fun F S H vs Q' hc r k => ?_, e1, h1.2⟩
      obtain ⟨v, rfl, r9⟩ := rep1 r
      cases r9 with
      | lst hl rr => exact ⟨_, _, _, y, ys, rfl, hd_sub, SqL.of (hd_sub _ _ hl), rr, h1.1, fun v rv => k.self hc rv⟩) hs) hg (he := hs) (hpl := rfl)
theorem zn_minLD (hr : Room j X.A) (ok : X.calm = true) (bn : Bn X.mg) (h : ZN X S0 a Γ x m) (hg : Gl X "min" := by rfl) (hs : s1 X a := by rfl) : ZN X S0 (.Call (.Name "min" p) [a] [] pos) Γ x (.bestL mnD m) := fun q e hq =>
  ze_callBG (cr_minLD ok hr.units) bn.min boot_min' (za_cons ((h _ e hq).mono fun u S1 ⟨e1, h1⟩ => by
    match u, h1 with
    | .lst (y :: ys), h1 =>
      refine za_nil ⟨ys.foldl mnD y, fun F S H vs Q' hc r k => ?_, e1, h1.2⟩
      obtain ⟨v, rfl, r9⟩ := rep1 r
      cases r9 with
      | lst hl rr => exact ⟨_, _, _, y, ys, rfl, hd_sub, SqL.of (hd_sub _ _ hl), rr, h1.1, fun v rv => k.self hc rv⟩) hs) hg (he := hs) (hpl := rfl)
end
section
variable {X : Cx} {S0 x : Store} {Γ : Gam} {a b o : Expr} {es : List Expr} {pos apos : Pos} {m ma mb mc : Cm D} {k j : Nat}
theorem zn_c0 {f : Str} (C : AC X.prog X.w X.K X.mg X.base k f 0 [] (fun ds _ => aspC (.u0 m) ds)) (hr : Room j X.A) (hk : k ≤ j) (hg : Gl X f := by rfl) (hdb : dbgOk f := by decide) : ZN X S0 (.Call (.Name f apos) [] [] pos) Γ x m := zn_call0 C hr hk hg hdb
/-! ### methods -/
theorem zn_mt0 {c g : Str} {pl : Sem Bool} {f : D → Cm D} (C : AM X.prog X.w X.K X.mg X.base k c g 0 [] (fun ds _ => aspC (.u1 f) ds)) (hr : Room j X.A) (hk : k ≤ j) (h : ZN X S0 o Γ x m)
    (ht : eval (.Call (.Attribute o g apos) [] [] pos) X.env = (do
      let r ← eval o X.env
      standAt apos.atName
      let (g', self) ← holding [r] (getMethod r g pl)
      callWith pos g' self (backTo pos (starEach [] X.env)) (backToKw pos (keywordEach [] X.env))) := by rfl) : ZN X S0 (.Call (.Attribute o g apos) [] [] pos) Γ x (.mth c g f m) := zn_meth0 C hr hk h ht
theorem mt_args1 (f : D → D → Cm D) (d : D) : ((Cm.cons ma .nil).bind fun ds => Cm.asr (ds.length = 1) (Cm.u2 f (d :: ds))) = ma.bind (f d) := funext fun q => funext fun e => propext (by
  show ma (fun u => 1 = 1 ∧ f d u q e) e ↔ ma (fun u => f d u q e) e
  have : (fun u => 1 = 1 ∧ f d u q e) = fun u => f d u q e := funext fun u => propext ⟨fun z => z.2, fun z => ⟨rfl, z⟩⟩
  rw [this])
theorem mt_args2 (f : D → D → D → Cm D) (d : D) : ((Cm.cons ma (.cons mb .nil)).bind fun ds => Cm.asr (ds.length = 2) (Cm.u3 f (d :: ds))) = ma.bind fun u => mb.bind (f d u) := funext fun q => funext fun e => propext (by
  show ma (fun u => mb (fun v => 2 = 2 ∧ f d u v q e) e) e ↔ ma (fun u => mb (fun v => f d u v q e) e) e
  have : (fun u => mb (fun v => 2 = 2 ∧ f d u v q e) e) = fun u => mb (fun v => f d u v q e) e := funext fun u => by
    have : (fun v => 2 = 2 ∧ f d u v q e) = fun v => f d u v q e := funext fun v => propext ⟨fun z => z.2, fun z => ⟨rfl, z⟩⟩
    rw [this]
  rw [this])
theorem zn_mt1 {c g : Str} {pl : Sem Bool} {f : D → D → Cm D} (C : AM X.prog X.w X.K X.mg X.base k c g 1 [] (fun ds _ => aspC (.u2 f) ds)) (hr : Room j X.A) (hk : k ≤ j) (h : ZN X S0 o Γ x m) (h2 : ZN X S0 a Γ x ma)
    (hst : starEach [a] X.env = (false, eval a X.env) :: starEach [] X.env := by rfl) (hpl : (backTo pos (starEach [] X.env)).any (·.1) = false := by rfl)
    (ht : eval (.Call (.Attribute o g apos) [a] [] pos) X.env = (do
      let r ← eval o X.env
      standAt apos.atName
      let (g', self) ← holding [r] (getMethod r g pl)
      callWith pos g' self (backTo pos (starEach [a] X.env)) (backToKw pos (keywordEach [] X.env))) := by rfl) : ZN X S0 (.Call (.Attribute o g apos) [a] [] pos) Γ x (.mth c g (fun d => ma.bind (f d)) m) := by
  have := zn_meth C hr hk h (zna_cons h2 zna_nil (hs := hst)) hst hpl ht
  simp only [mt_args1] at this
  exact this
end
end Fz
end

section
/-! running a mirror by rewriting: the macro cms, folds, whiles -/
namespace Fz
open PySem PySem.Spec PyProof.Rows L2 PySem.W
namespace Cm
section
variable {α β σ τ ρ : Type}
theorem ext {m n : Cm α} (h : ∀ q e, m q e ↔ n q e) : m = n := funext fun q => funext fun e => propext (h q e)
theorem nil_eq : nil = ok [] := ext fun _ _ => Iff.rfl
theorem cnd_t (a b : Cm α) : cnd (ok true) a b = a := ext fun _ _ => Iff.rfl
theorem cnd_f (a b : Cm α) : cnd (ok false) a b = b := ext fun _ _ => Iff.rfl
theorem cnd_d (p : Prop) [Decidable p] (a b : Cm α) : cnd (ok (decide p)) a b = if p then a else b := by
  by_cases h : p
  · rw [if_pos h, decide_eq_true h, cnd_t]
  · rw [if_neg h, decide_eq_false h, cnd_f]
theorem cnd_n (t : Bool) (a b : Cm α) : cnd (ok (!t)) a b = cnd (ok t) b a := by cases t <;> rfl
theorem cnd_b (t : Bool) (a b : Cm α) : cnd (ok t) a b = bif t then a else b := by cases t <;> rfl
theorem bif_ok (t : Bool) (x y : α) : (bif t then ok x else ok y) = ok (bif t then x else y) := by cases t <;> rfl
theorem if_ok (p : Prop) [Decidable p] (x y : α) : (if p then ok x else ok y) = ok (if p then x else y) := by split <;> rfl
theorem bif_bind (t : Bool) (a b : Cm α) (f : α → Cm β) : (bif t then a else b).bind f = bif t then a.bind f else b.bind f := by cases t <;> rfl
theorem if_bind (p : Prop) [Decidable p] (a b : Cm α) (f : α → Cm β) : (if p then a else b).bind f = if p then a.bind f else b.bind f := by split <;> rfl
theorem cnd_bind (t : Cm Bool) (a b : Cm α) (f : α → Cm β) : (cnd t a b).bind f = cnd t (a.bind f) (b.bind f) := ext fun q e => by
  show t (fun u => (bif u then a else b) _ e) e ↔ t (fun u => (bif u then a.bind f else b.bind f) q e) e
  have : (fun u => (bif u then a else b) (fun x => f x q e) e) = fun u => (bif u then a.bind f else b.bind f) q e := by funext u; cases u <;> rfl
  rw [this]
theorem asr_bind (p : Prop) (m : Cm α) (f : α → Cm β) : (asr p m).bind f = asr p (m.bind f) := ext fun _ _ => Iff.rfl
theorem let2_ok (a b : D) (f : D → D → Cm ρ) : let2 (ok a) (ok b) f = f a b := ext fun _ _ => Iff.rfl
theorem let3_ok (a b c : D) (f : D → D → D → Cm ρ) : let3 (ok a) (ok b) (ok c) f = f a b c := ext fun _ _ => Iff.rfl
theorem isN_ok' (d : D) : isN (ok d) = ok (isNon d) := ext fun _ _ => Iff.rfl
theorem lst_ok {ds : List D} (h : ds.length ≤ 16777216) : lstC (ok ds) = ok (.lst ds) := asr_true h _
theorem tup_ok {ds : List D} (h : ds.length ≤ 16777216) : tupC (ok ds) = ok (.tup ds) := asr_true h _
theorem lst_0 : lstC (ok []) = ok (.lst []) := asr_true (by show 0 ≤ _; omega) _
theorem lst_1 (a : D) : lstC (ok [a]) = ok (.lst [a]) := asr_true (by show 1 ≤ _; omega) _
theorem lst_2 (a b : D) : lstC (ok [a, b]) = ok (.lst [a, b]) := asr_true (by show 2 ≤ _; omega) _
theorem lst_3 (a b c : D) : lstC (ok [a, b, c]) = ok (.lst [a, b, c]) := asr_true (by show 3 ≤ _; omega) _
theorem lst_4 (a b c d : D) : lstC (ok [a, b, c, d]) = ok (.lst [a, b, c, d]) := asr_true (by show 4 ≤ _; omega) _
theorem tup_0 : tupC (ok []) = ok (.tup []) := asr_true (by show 0 ≤ _; omega) _
theorem tup_1 (a : D) : tupC (ok [a]) = ok (.tup [a]) := asr_true (by show 1 ≤ _; omega) _
theorem tup_2 (a b : D) : tupC (ok [a, b]) = ok (.tup [a, b]) := asr_true (by show 2 ≤ _; omega) _
theorem tup_3 (a b c : D) : tupC (ok [a, b, c]) = ok (.tup [a, b, c]) := asr_true (by show 3 ≤ _; omega) _
theorem tup_4 (a b c d : D) : tupC (ok [a, b, c, d]) = ok (.tup [a, b, c, d]) := asr_true (by show 4 ≤ _; omega) _
/-! ### comprehensions over a list of known data -/
def mapP {α : Type} : (as : List α) → ((a : α) → a ∈ as → Cm D) → Cm (List D)
  | [], _ => ok []
  | a :: as, f => (noer (f a (List.mem_cons_self ..))).bind fun y => (mapP as fun b h => f b (List.mem_cons_of_mem _ h)).bind fun ys => ok (y :: ys)
def fltP {α : Type} : (as : List α) → ((a : α) → a ∈ as → Cm Bool) → ((a : α) → a ∈ as → Cm D) → Cm (List D)
  | [], _, _ => ok []
  | a :: as, p, f => (noer (p a (List.mem_cons_self ..))).bind fun t => bif t then (noer (f a (List.mem_cons_self ..))).bind fun y => (fltP as (fun b h => p b (List.mem_cons_of_mem _ h)) fun b h => f b (List.mem_cons_of_mem _ h)).bind fun ys => ok (y :: ys) else fltP as (fun b h => p b (List.mem_cons_of_mem _ h)) fun b h => f b (List.mem_cons_of_mem _ h)
/-- a comprehension over a list of known data: each item stands in it -/
def compM (as : List α) (f : (a : α) → a ∈ as → Cm D) : Cm D := asr (as.length ≤ 16777216) ((mapP as f).bind fun ys => ok (.lst ys))
def compN (as : List α) (p : (a : α) → a ∈ as → Cm Bool) (f : (a : α) → a ∈ as → Cm D) : Cm D := asr (as.length ≤ 16777216) ((fltP as p f).bind fun ys => ok (.lst ys))
theorem mapP_map (enc : α → D) (f : D → Cm D) : ∀ as : List α, mapC f (as.map enc) = mapP as fun a _ => f (enc a)
  | [] => rfl
  | a :: as => by rw [List.map_cons, mapC, mapP, mapP_map enc f as]
theorem fltP_map (enc : α → D) (p : D → Cm Bool) (f : D → Cm D) : ∀ as : List α, fltC p f (as.map enc) = fltP as (fun a _ => p (enc a)) fun a _ => f (enc a)
  | [] => rfl
  | a :: as => by rw [List.map_cons, fltC, fltP, fltP_map enc p f as]
theorem comp_map (enc : α → D) (as : List α) (f : D → Cm D) : comp (ok (as.map enc)) f = compM as fun a _ => f (enc a) := by
  unfold comp compM
  rw [ok_bind, List.length_map, mapP_map]
theorem compF_map (enc : α → D) (as : List α) (p : D → Cm Bool) (f : D → Cm D) : compF (ok (as.map enc)) p f = compN as (fun a _ => p (enc a)) fun a _ => f (enc a) := by
  unfold compF compN
  rw [ok_bind, List.length_map, fltP_map]
theorem mapP_ok (g : α → D) : ∀ as : List α, (mapP as fun a _ => ok (g a)) = ok (as.map g)
  | [] => rfl
  | a :: as => by rw [mapP, mapP_ok g as]; rfl
theorem fltP_ok (p : α → Bool) (g : α → D) : ∀ as : List α, (fltP as (fun a _ => ok (p a)) fun a _ => ok (g a)) = ok ((as.filter p).map g)
  | [] => rfl
  | a :: as => by
    rw [fltP, fltP_ok p g as, List.filter_cons]
    cases p a <;> rfl
theorem compM_ok (as : List α) (g : α → D) (h : as.length ≤ 16777216) : (compM as fun a _ => ok (g a)) = ok (.lst (as.map g)) := by
  unfold compM
  rw [asr_true h, mapP_ok]; rfl
theorem compN_ok (as : List α) (p : α → Bool) (g : α → D) (h : as.length ≤ 16777216) : (compN as (fun a _ => ok (p a)) fun a _ => ok (g a)) = ok (.lst ((as.filter p).map g)) := by
  unfold compN
  rw [asr_true h, fltP_ok]; rfl
/-! ### loops -/
theorem loop_nil (fb : σ → D → Cm (Lf σ ρ)) (k : σ → Cm ρ) (s : σ) : loop fb k [] s = k s := by rw [loop]
theorem loop_nx {fb : σ → D → Cm (Lf σ ρ)} {k : σ → Cm ρ} {d : D} {ds : List D} {s s' : σ} (h : fb s d = ok (.nx s')) : loop fb k (d :: ds) s = loop fb k ds s' := by rw [loop, h]; rfl
theorem loop_up {fb : σ → D → Cm (Lf σ ρ)} {k : σ → Cm ρ} {d : D} {ds : List D} {s : σ} {r : ρ} (h : fb s d = ok (.up r)) : loop fb k (d :: ds) s = ok r := by rw [loop, h]; rfl
theorem loop_bk {fb : σ → D → Cm (Lf σ ρ)} {k : σ → Cm ρ} {d : D} {ds : List D} {s s' : σ} (h : fb s d = ok (.bk s')) : loop fb k (d :: ds) s = k s' := by rw [loop, h]; rfl
theorem loop_fold {fb : σ → D → Cm (Lf σ ρ)} {k : σ → Cm ρ} (enc : α → D) (es : τ → σ) (step : τ → α → τ) (I : Nat → τ → Prop) : ∀ (as : List α) (n : Nat) (s : τ), I n s → (∀ (i : Nat) s a, n ≤ i → as[i - n]? = some a → I i s → fb (es s) (enc a) = ok (.nx (es (step s a))) ∧ I (i + 1) (step s a)) →
    loop fb k (as.map enc) (es s) = k (es (as.foldl step s)) ∧ I (n + as.length) (as.foldl step s)
  | [], n, s, h0, _ => ⟨loop_nil .., h0⟩
  | a :: as, n, s, h0, h => by
    obtain ⟨h1, h2⟩ := h n s a (Nat.le_refl _) (by rw [Nat.sub_self]; rfl) h0
    obtain ⟨h3, h4⟩ := loop_fold (k := k) enc es step I as (n + 1) (step s a) h2 fun i s b hi hb => h i s b (by omega) (by
      rw [show i - n = (i - (n + 1)) + 1 from by omega]
      exact hb)
    exact ⟨by rw [List.map_cons, loop_nx h1, h3]; rfl, by rw [List.length_cons, show n + (as.length + 1) = n + 1 + as.length from by omega]; exact h4⟩
/-- a loop that takes each item by a step -/
theorem loop_of {fb : σ → D → Cm (Lf σ ρ)} {k : σ → Cm ρ} (enc : α → D) (es : τ → σ) (step : τ → α → τ) {as : List α} {s : τ} (h : ∀ s, ∀ a ∈ as, fb (es s) (enc a) = ok (.nx (es (step s a)))) : loop fb k (as.map enc) (es s) = k (es (as.foldl step s)) :=
  (loop_fold enc es step (fun _ _ => True) as 0 s trivial fun i s a _ ha _ => ⟨h s a (List.mem_of_getElem? ha), trivial⟩).1
theorem loop_ofI {fb : σ → D → Cm (Lf σ ρ)} {k : σ → Cm ρ} (enc : α → D) (es : τ → σ) (step : τ → α → τ) (I : τ → Prop) {as : List α} {s : τ} (h0 : I s) (h : ∀ s, I s → ∀ a ∈ as, fb (es s) (enc a) = ok (.nx (es (step s a))) ∧ I (step s a)) : loop fb k (as.map enc) (es s) = k (es (as.foldl step s)) ∧ I (as.foldl step s) :=
  loop_fold enc es step (fun _ => I) as 0 s h0 fun i s a _ ha hi => h s hi a (List.mem_of_getElem? ha)
/-- a loop that ends at the first item that is not as asked -/
theorem loop_all {fb : σ → D → Cm (Lf σ ρ)} {k : σ → Cm ρ} (enc : α → D) (p : α → Bool) {s : σ} {r : ρ} : ∀ {as : List α}, (∀ a ∈ as, fb s (enc a) = bif p a then ok (.nx s) else ok (.up r)) → loop fb k (as.map enc) s = bif as.all p then k s else ok r
  | [], _ => loop_nil ..
  | a :: as, h => by
    have h1 := h a (List.mem_cons_self ..)
    cases hp : p a with
    | true =>
      rw [hp] at h1
      rw [List.map_cons, loop_nx h1, loop_all enc p fun b hb => h b (List.mem_cons_of_mem _ hb), List.all_cons, hp, Bool.true_and]
    | false =>
      rw [hp] at h1
      rw [List.map_cons, loop_up h1, List.all_cons, hp]; rfl
/-- a loop that changes nothing -/
theorem loop_same {fb : σ → D → Cm (Lf σ ρ)} {k : σ → Cm ρ} {s : σ} : ∀ {ds : List D}, (∀ d ∈ ds, fb s d = ok (.nx s)) → loop fb k ds s = k s
  | [], _ => loop_nil ..
  | d :: ds, h => by rw [loop_nx (h d (List.mem_cons_self ..)), loop_same fun e he => h e (List.mem_cons_of_mem _ he)]
/-- a loop each of whose turns goes on (the goal is what is wanted) -/
theorem loop_go {fb : σ → D → Cm (Lf σ ρ)} {k : σ → Cm ρ} (enc : α → D) {s : σ} {as : List α} {q : ρ → Prop} {e : EX} (h : ∀ a ∈ as, ∀ q' : Lf σ ρ → Prop, q' (.nx s) → fb s (enc a) q' e) (hk : k s q e) : loop fb k (as.map enc) s q e :=
  loop_inv (fun _ s' => s' = s) rfl (fun i d s' hd hs q' h1 h2 h3 => by
    subst hs
    rw [List.getElem?_map] at hd
    cases hq : as[i]? with
    | none => rw [hq] at hd; cases hd
    | some a => rw [hq] at hd; cases hd; exact h a (List.mem_of_getElem? hq) q' (h1 _ rfl)) fun s' hs => by subst hs; exact hk
/-- a loop by what holds behind the items so far; it may end early -/
theorem loop_pre {fb : σ → D → Cm (Lf σ ρ)} {k : σ → Cm ρ} (enc : α → D) (es : τ → σ) (I : List α → τ → Prop) (R : α → ρ → Prop) {as : List α} {s : τ} (h0 : I [] s)
    (h : ∀ pre a s, a ∈ as → I pre s → (∃ t, fb (es s) (enc a) = ok (.nx (es t)) ∧ I (pre ++ [a]) t) ∨ ∃ r, fb (es s) (enc a) = ok (.up r) ∧ R a r) :
    (∃ t, loop fb k (as.map enc) (es s) = k (es t) ∧ I as t) ∨ ∃ a ∈ as, ∃ r, loop fb k (as.map enc) (es s) = ok r ∧ R a r := by
  have go : ∀ (bs : List α) (pre : List α) (s : τ), (∀ b ∈ bs, b ∈ as) → I pre s → (∃ t, loop fb k (bs.map enc) (es s) = k (es t) ∧ I (pre ++ bs) t) ∨ ∃ a ∈ as, ∃ r, loop fb k (bs.map enc) (es s) = ok r ∧ R a r := by
    intro bs
    induction bs with
    | nil => intro pre s _ hi; exact .inl ⟨s, loop_nil .., by rw [List.append_nil]; exact hi⟩
    | cons b bs ih =>
      intro pre s hb hi
      rcases h pre b s (hb b (List.mem_cons_self ..)) hi with ⟨t, h1, h2⟩ | ⟨r, h1, h2⟩
      · rw [List.map_cons, loop_nx h1]
        have := ih (pre ++ [b]) t (fun c hc => hb c (List.mem_cons_of_mem _ hc)) h2
        rw [List.append_assoc] at this
        exact this
      · rw [List.map_cons, loop_up h1]
        exact .inr ⟨b, hb b (List.mem_cons_self ..), r, rfl, h2⟩
  exact go as [] s (fun _ h => h) h0
/-- a loop over numbers, by what holds ahead of each; it may end early -/
theorem loop_rng {fb : σ → D → Cm (Lf σ ρ)} {k : σ → Cm ρ} (es : τ → σ) (I : Nat → τ → Prop) (R : Nat → ρ → Prop) {n : Nat} {s : τ} (h0 : I 0 s)
    (h : ∀ i s, i < n → I i s → (∃ t, fb (es s) (.int (i : Int)) = ok (.nx (es t)) ∧ I (i + 1) t) ∨ ∃ r, fb (es s) (.int (i : Int)) = ok (.up r) ∧ R i r) :
    (∃ t, loop fb k ((List.range n).map fun i : Nat => D.int (i : Int)) (es s) = k (es t) ∧ I n t) ∨ ∃ j < n, ∃ r, loop fb k ((List.range n).map fun i : Nat => D.int (i : Int)) (es s) = ok r ∧ R j r := by
  have go : ∀ (m i : Nat) (s : τ), i + m = n → I i s → (∃ t, loop fb k ((List.range' i m).map fun i : Nat => D.int (i : Int)) (es s) = k (es t) ∧ I n t) ∨ ∃ j < n, ∃ r, loop fb k ((List.range' i m).map fun i : Nat => D.int (i : Int)) (es s) = ok r ∧ R j r := by
    intro m
    induction m with
    | zero => intro i s e hi; have : i = n := by omega
              subst this; exact .inl ⟨s, loop_nil .., hi⟩
    | succ m ih =>
      intro i s e hi
      rw [List.range'_succ, List.map_cons]
      rcases h i s (by omega) hi with ⟨t, h1, h2⟩ | ⟨r, h1, h2⟩
      · rw [loop_nx h1]
        exact ih (i + 1) t (by omega) h2
      · rw [loop_up h1]
        exact .inr ⟨i, by omega, r, rfl, h2⟩
  rw [List.range_eq_range']
  exact go n 0 s (by omega) h0
/-- while: a measure, what holds, what is done -/
theorem wh_eq {c : σ → Cm Bool} {fb : σ → Cm (Lf σ ρ)} {k : σ → Cm ρ} (es : τ → σ) (I : τ → Prop) (Dn : τ → Prop) (mu : τ → Nat)
    (h : ∀ s, I s → (c (es s) = ok false ∧ Dn s) ∨ (c (es s) = ok true ∧ ((∃ t, fb (es s) = ok (.bk (es t)) ∧ Dn t) ∨ ∃ t, fb (es s) = ok (.nx (es t)) ∧ I t ∧ mu t < mu s))) (s : τ) (h0 : I s) : ∃ t, Dn t ∧ wh c fb k (es s) = k (es t) := by
  have go : ∀ n s, mu s ≤ n → I s → ∃ t, Dn t ∧ (∃ j, ∀ i, j ≤ i → whl c fb k i (es s) = k (es t)) ∧ ∀ i q e, whl c fb k i (es s) q e → k (es t) q e := by
    intro n
    induction n with
    | zero =>
      intro s hs hi
      rcases h s hi with ⟨h1, h2⟩ | ⟨h1, ⟨t, h2, h3⟩ | ⟨t, h2, h3, h4⟩⟩
      · refine ⟨s, h2, ⟨1, fun i hi => ?_⟩, fun i q e hz => ?_⟩
        · match i, hi with | i + 1, _ => rw [whl, h1]; rfl
        · match i, hz with
          | 0, hz => exact hz.elim
          | i + 1, hz => rw [whl, h1] at hz; exact hz
      · refine ⟨t, h3, ⟨1, fun i hi => ?_⟩, fun i q e hz => ?_⟩
        · match i, hi with | i + 1, _ => rw [whl, h1, h2]; rfl
        · match i, hz with
          | 0, hz => exact hz.elim
          | i + 1, hz => rw [whl, h1, h2] at hz; exact hz
      · omega
    | succ n ih =>
      intro s hs hi
      rcases h s hi with ⟨h1, h2⟩ | ⟨h1, ⟨t, h2, h3⟩ | ⟨t, h2, h3, h4⟩⟩
      · refine ⟨s, h2, ⟨1, fun i hi => ?_⟩, fun i q e hz => ?_⟩
        · match i, hi with | i + 1, _ => rw [whl, h1]; rfl
        · match i, hz with
          | 0, hz => exact hz.elim
          | i + 1, hz => rw [whl, h1] at hz; exact hz
      · refine ⟨t, h3, ⟨1, fun i hi => ?_⟩, fun i q e hz => ?_⟩
        · match i, hi with | i + 1, _ => rw [whl, h1, h2]; rfl
        · match i, hz with
          | 0, hz => exact hz.elim
          | i + 1, hz => rw [whl, h1, h2] at hz; exact hz
      · obtain ⟨u, h5, ⟨j, h6⟩, h7⟩ := ih t (by omega) h3
        refine ⟨u, h5, ⟨j + 1, fun i hi => ?_⟩, fun i q e hz => ?_⟩
        · match i, hi with
          | i + 1, hi =>
            rw [whl, h1, h2]
            exact h6 i (by omega)
        · match i, hz with
          | 0, hz => exact hz.elim
          | i + 1, hz =>
            rw [whl, h1, h2] at hz
            exact h7 i q e hz
  obtain ⟨t, h1, ⟨j, h2⟩, h3⟩ := go (mu s) s (Nat.le_refl _) h0
  refine ⟨t, h1, ext fun q e => ⟨fun ⟨i, hz⟩ => h3 i q e hz, fun hz => ⟨j, ?_⟩⟩⟩
  rw [h2 j (Nat.le_refl _)]; exact hz
end
end Cm
theorem Cm.rng1_nat (n : Nat) (h : n < 4611686018427387904) : Cm.rng1 (Cm.ok (.int (n : Int))) = Cm.ok ((List.range n).map fun i : Nat => D.int (i : Int)) := Cm.rng1_of (by omega)
/-! ### operators -/
theorem mul_small {a b : Int} (h : (-18446744073709551616 < a ∧ a < 18446744073709551616) ∨ (-18446744073709551616 < b ∧ b < 18446744073709551616)) : mulO (.int a) (.int b) = some (.int (a * b)) := by
  show (if (smallI _ || smallI _) = true then _ else _) = _
  rw [if_pos]
  rw [Bool.or_eq_true]
  unfold smallI
  rcases h with h | h
  · left; simp; omega
  · right; simp; omega
theorem mod_pos {a b : Int} (h : 0 < b) : modO (.int a) (.int b) = some (.int (a % b)) := if_pos h
theorem fdiv_pos {a b : Int} (h : 0 < b ∧ b < 1073741824) : fdivO (.int a) (.int b) = some (.int (a / b)) := if_pos h
theorem dm_pos {a b : Int} (h : 0 < b ∧ b < 1073741824) : dmO (.int a) (.int b) = some (.tup [.int (a / b), .int (a % b)]) := if_pos h
theorem add_str {a b : List Nat} (h : a.length + b.length ≤ 16777000) : addO (.str a) (.str b) = some (.str (a ++ b)) := if_pos h
theorem add_lst {a b : List D} (h : a.length + b.length ≤ 16777216) : addO (.lst a) (.lst b) = some (.lst (a ++ b)) := if_pos h
theorem add_tup {a b : List D} (h : a.length + b.length ≤ 16777216) : addO (.tup a) (.tup b) = some (.tup (a ++ b)) := if_pos h
theorem add_map {α : Type} {as bs : List α} (enc : α → D) (h : as.length + bs.length ≤ 16777216) : addO (.lst (as.map enc)) (.lst (bs.map enc)) = some (.lst ((as ++ bs).map enc)) := by
  rw [List.map_append]; exact if_pos (by rw [List.length_map, List.length_map]; exact h)
theorem add_strs {α : Type} {as : List (List Nat)} {bs : List α} (g : α → List Nat) (h : as.length + bs.length ≤ 16777216) : addO (.lst (as.map D.str)) (.lst (bs.map fun b => D.str (g b))) = some (.lst ((as ++ bs.map g).map D.str)) := by
  rw [List.map_append, List.map_map]; exact if_pos (by rw [List.length_map, List.length_map]; exact h)
theorem add_ints {α : Type} {as : List Int} {bs : List α} (g : α → Int) (h : as.length + bs.length ≤ 16777216) : addO (.lst (as.map D.int)) (.lst (bs.map fun b => D.int (g b))) = some (.lst ((as ++ bs.map g).map D.int)) := by
  rw [List.map_append, List.map_map]; exact if_pos (by rw [List.length_map, List.length_map]; exact h)
theorem truO_bl (b : Bool) : Cm.truO (.bl b) = some b := rfl
theorem truO_int (i : Int) : Cm.truO (.int i) = some (decide (i ≠ 0)) := rfl
theorem truO_str (x : List Nat) : Cm.truO (.str x) = some (!x.isEmpty) := rfl
theorem truO_non : Cm.truO .non = some false := rfl
theorem aug_add {i j : Int} : augA (.int i) (.int j) = some (.int (i + j)) := rfl
theorem aug_sub {i j : Int} : augS (.int i) (.int j) = some (.int (i - j)) := rfl
theorem toInt_bl (b : Bool) : toIntO (.bl b) = some (.int (if b = true then 1 else 0)) := by cases b <;> rfl
theorem toInt_int (i : Int) : toIntO (.int i) = some (.int i) := rfl
/-- an item of a list of known data -/
theorem ix_map {α : Type} (enc : α → D) (as : List α) (i : Int) (z : α) (h0 : 0 ≤ i) (h1 : i < as.length) : ixD (.lst (as.map enc)) i = some (enc (as.getD i.toNat z)) := by
  show atI (as.map enc) i = _
  have hk : i.toNat < as.length := by omega
  rw [atI_map, atI_lit (k := i.toNat) (by omega) (List.getElem?_eq_getElem hk), List.getD_eq_getElem?_getD, List.getElem?_eq_getElem hk]
  rfl
theorem ix_mapT {α : Type} (enc : α → D) (as : List α) (i : Int) (z : α) (h0 : 0 ≤ i) (h1 : i < as.length) : ixD (.tup (as.map enc)) i = some (enc (as.getD i.toNat z)) := ix_map enc as i z h0 h1
theorem ix_mapN {α : Type} (enc : α → D) (as : List α) (k : Nat) (z : α) (h1 : k < as.length) : ixD (.lst (as.map enc)) (k : Int) = some (enc (as.getD k z)) := ix_map enc as k z (by omega) (by omega)
theorem ix_mapTN {α : Type} (enc : α → D) (as : List α) (k : Nat) (z : α) (h1 : k < as.length) : ixD (.tup (as.map enc)) (k : Int) = some (enc (as.getD k z)) := ix_map enc as k z (by omega) (by omega)
theorem ix_range (g : Nat → D) (n k : Nat) (h : k < n) : ixD (.lst ((List.range n).map g)) (k : Int) = some (g k) := by
  rw [ix_mapN g (List.range n) k 0 (by rw [List.length_range]; exact h), List.getD_eq_getElem?_getD, List.getElem?_range h]; rfl
theorem ix_0 (a : D) (l : List D) : ixD (.lst (a :: l)) 0 = some a := atI_lit (k := 0) rfl rfl
theorem ix_1 (a b : D) (l : List D) : ixD (.lst (a :: b :: l)) 1 = some b := atI_lit (k := 1) rfl rfl
theorem ix_2 (a b c : D) (l : List D) : ixD (.lst (a :: b :: c :: l)) 2 = some c := atI_lit (k := 2) rfl rfl
theorem ixT_0 (a : D) (l : List D) : ixD (.tup (a :: l)) 0 = some a := atI_lit (k := 0) rfl rfl
theorem ixT_1 (a b : D) (l : List D) : ixD (.tup (a :: b :: l)) 1 = some b := atI_lit (k := 1) rfl rfl
theorem ixT_2 (a b c : D) (l : List D) : ixD (.tup (a :: b :: c :: l)) 2 = some c := atI_lit (k := 2) rfl rfl
/-! ### equality of data -/
structure EqT {α : Type} [DecidableEq α] (enc : α → D) (n : Nat) : Prop where
  dat : ∀ a m, n ≤ m → dat (enc a) m = true
  deq : ∀ a b, deq (enc a) (enc b) = decide (a = b)
theorem EqT.int : EqT D.int 0 := ⟨fun a m _ => by unfold Fz.dat; rfl, fun a b => deq_int⟩
theorem EqT.str : EqT D.str 0 := ⟨fun a m _ => by unfold Fz.dat; rfl, fun a b => deq_str⟩
theorem EqT.bl : EqT D.bl 0 := ⟨fun a m _ => by unfold Fz.dat; rfl, fun a b => deq_bl⟩
theorem deqs_map {α : Type} [DecidableEq α] {enc : α → D} {n : Nat} (h : EqT enc n) : ∀ as bs : List α, deqs (as.map enc) (bs.map enc) = decide (as = bs)
  | [], [] => by simp [deqs]
  | [], b :: bs => by simp [deqs]
  | a :: as, [] => by simp [deqs]
  | a :: as, b :: bs => by
    rw [List.map_cons, List.map_cons, deqs, h.deq, deqs_map h as bs]
    by_cases e : a = b <;> simp [e]
theorem EqT.lst {α : Type} [DecidableEq α] {enc : α → D} {n : Nat} (h : EqT enc n) : EqT (fun as : List α => D.lst (as.map enc)) (n + 1) where
  dat as m hm := by
    match m, hm with
    | m + 1, hm =>
      unfold Fz.dat
      exact dats_of fun d hd => by
        obtain ⟨a, _, rfl⟩ := List.mem_map.mp hd
        exact h.dat a m (by omega)
  deq as bs := by rw [Fz.deq, deqs_map h]
theorem EqT.tup {α : Type} [DecidableEq α] {enc : α → D} {n : Nat} (h : EqT enc n) : EqT (fun as : List α => D.tup (as.map enc)) (n + 1) where
  dat as m hm := by
    match m, hm with
    | m + 1, hm =>
      unfold Fz.dat
      exact dats_of fun d hd => by
        obtain ⟨a, _, rfl⟩ := List.mem_map.mp hd
        exact h.dat a m (by omega)
  deq as bs := by rw [Fz.deq, deqs_map h]
theorem EqT.pair {α β : Type} [DecidableEq α] [DecidableEq β] {f : α → D} {g : β → D} {n m : Nat} (h : EqT f n) (h2 : EqT g m) : EqT (fun p : α × β => D.tup [f p.1, g p.2]) (max n m + 1) where
  dat p k hk := by
    match k, hk with
    | k + 1, hk =>
      unfold Fz.dat dats dats dats
      rw [h.dat _ _ (by omega), h2.dat _ _ (by omega)]; rfl
  deq p r := by
    rw [Fz.deq, deqs, deqs, deqs, h.deq, h2.deq]
    obtain ⟨a, b⟩ := p
    obtain ⟨c, d⟩ := r
    by_cases e1 : a = c <;> by_cases e2 : b = d <;> simp [e1, e2]
/-- a value or None -/
def optD {α : Type} (enc : α → D) : Option α → D
  | none => .non
  | some a => enc a
theorem optD_none {α : Type} (enc : α → D) : optD enc none = .non := rfl
theorem optD_some {α : Type} (enc : α → D) (a : α) : optD enc (some a) = enc a := rfl
theorem EqT.opt {α : Type} [DecidableEq α] {enc : α → D} {n : Nat} (h : EqT enc n) (hn : ∀ a, isNon (enc a) = false) : EqT (optD enc) n where
  dat o m hm := by
    cases o with
    | none => show Fz.dat .non m = true; unfold Fz.dat; rfl
    | some a => exact h.dat a m hm
  deq o p := by
    cases o with
    | none =>
      cases p with
      | none => simp [optD, Fz.deq]
      | some b =>
        have := hn b
        simp only [optD]
        cases e : enc b <;> rw [e] at this <;> first | (cases this; done) | simp [Fz.deq]
    | some a =>
      cases p with
      | none =>
        have := hn a
        simp only [optD]
        cases e : enc a <;> rw [e] at this <;> first | (cases this; done) | simp [Fz.deq]
      | some b => simp [optD, h.deq]
theorem EqT.eqO {α : Type} [DecidableEq α] {enc : α → D} {n : Nat} (h : EqT enc n) (hn : n ≤ 60) (a b : α) : Fz.eqO (enc a) (enc b) = some (decide (a = b)) := by
  unfold Fz.eqO
  rw [h.dat a 60 hn, h.dat b 60 hn, h.deq]; rfl
theorem EqT.neO {α : Type} [DecidableEq α] {enc : α → D} {n : Nat} (h : EqT enc n) (hn : n ≤ 60) (a b : α) : Fz.neO (enc a) (enc b) = some (!decide (a = b)) := by
  unfold Fz.neO
  rw [h.dat a 60 hn, h.dat b 60 hn, h.deq]; rfl
theorem eq_ints (a b : List Int) : eqO (.lst (a.map .int)) (.lst (b.map .int)) = some (decide (a = b)) := EqT.int.lst.eqO (by decide) a b
theorem ne_ints (a b : List Int) : neO (.lst (a.map .int)) (.lst (b.map .int)) = some (!decide (a = b)) := EqT.int.lst.neO (by decide) a b
theorem eq_strs (a b : List (List Nat)) : eqO (.lst (a.map .str)) (.lst (b.map .str)) = some (decide (a = b)) := EqT.str.lst.eqO (by decide) a b
theorem ne_strs (a b : List (List Nat)) : neO (.lst (a.map .str)) (.lst (b.map .str)) = some (!decide (a = b)) := EqT.str.lst.neO (by decide) a b
theorem eq_intsT (a b : List Int) : eqO (.tup (a.map .int)) (.tup (b.map .int)) = some (decide (a = b)) := EqT.int.tup.eqO (by decide) a b
theorem ne_intsT (a b : List Int) : neO (.tup (a.map .int)) (.tup (b.map .int)) = some (!decide (a = b)) := EqT.int.tup.neO (by decide) a b
theorem eq_strsT (a b : List (List Nat)) : eqO (.tup (a.map .str)) (.tup (b.map .str)) = some (decide (a = b)) := EqT.str.tup.eqO (by decide) a b
theorem ne_strsT (a b : List (List Nat)) : neO (.tup (a.map .str)) (.tup (b.map .str)) = some (!decide (a = b)) := EqT.str.tup.neO (by decide) a b
theorem eq_nilS (a : List (List Nat)) : eqO (.lst (a.map .str)) (.lst []) = some (decide (a = [])) := EqT.str.lst.eqO (by decide) a []
theorem ne_nilS (a : List (List Nat)) : neO (.lst (a.map .str)) (.lst []) = some (!decide (a = [])) := EqT.str.lst.neO (by decide) a []
theorem eq_nilI (a : List Int) : eqO (.lst (a.map .int)) (.lst []) = some (decide (a = [])) := EqT.int.lst.eqO (by decide) a []
theorem ne_nilI (a : List Int) : neO (.lst (a.map .int)) (.lst []) = some (!decide (a = [])) := EqT.int.lst.neO (by decide) a []
theorem codes_sp : codes " " = [32] := rfl
theorem ne_nilG {α : Type} (enc : α → D) (h : ∀ a, flatD (enc a) = true) (as : List α) : neO (.lst (as.map enc)) (.lst []) = some (!decide (as = [])) := by
  unfold neO
  have d1 : dat (.lst (as.map enc)) 60 = true := by
    unfold dat
    exact dats_of fun d hd => by
      obtain ⟨a, _, rfl⟩ := List.mem_map.mp hd
      exact dat_flat (h a)
  have d2 : dat (.lst []) 60 = true := by rw [dat, dats]
  rw [d1, d2]
  show some _ = _
  congr 2
  cases as with
  | nil => rw [List.map_nil, deq, deqs]; simp
  | cons a as => rw [List.map_cons, deq, deqs] <;> simp
theorem Cm.pk_int (i : Int) : Cm.pk (Cm.ok (.int i)) = Cm.ok (.int i) := Cm.ext fun _ _ => Iff.rfl
theorem Cm.pk_bl (i : Bool) : Cm.pk (Cm.ok (.bl i)) = Cm.ok (.bl i) := Cm.ext fun _ _ => Iff.rfl
theorem Cm.pk_str (i : List Nat) : Cm.pk (Cm.ok (.str i)) = Cm.ok (.str i) := Cm.ext fun _ _ => Iff.rfl
theorem Cm.min1_map {α : Type} {as : List α} (g : α → Int) (h : as ≠ []) : Cm.min1 (Cm.ok (.lst (as.map fun z => .int (g z)))) = Cm.ok (.int (mnI (as.map g))) := by
  show Cm.opt ((intsO _).bind fun ns => if ns.isEmpty then none else some (D.int (mnI ns))) = _
  rw [intsO_map]
  cases as with
  | nil => exact absurd rfl h
  | cons a as => rfl
theorem Cm.max1_map {α : Type} {as : List α} (g : α → Int) (h : as ≠ []) : Cm.max1 (Cm.ok (.lst (as.map fun z => .int (g z)))) = Cm.ok (.int (mxI (as.map g))) := by
  show Cm.opt ((intsO _).bind fun ns => if ns.isEmpty then none else some (D.int (mxI ns))) = _
  rw [intsO_map]
  cases as with
  | nil => exact absurd rfl h
  | cons a as => rfl
theorem Cm.orT_bl (t u : Bool) : Cm.orT (Cm.ok (.bl t)) (Cm.ok (.bl u)) = Cm.ok (.bl (t || u)) := by cases t <;> rfl
theorem Cm.andT_bl (t u : Bool) : Cm.andT (Cm.ok (.bl t)) (Cm.ok (.bl u)) = Cm.ok (.bl (t && u)) := by cases t <;> rfl
theorem mul_one2 (a : D) : mulO (.lst [a]) (.int 2) = some (.lst [a, a]) := rfl
theorem mul_one3 (a : D) : mulO (.lst [a]) (.int 3) = some (.lst [a, a, a]) := rfl
/-- one item of a text is in it -/
theorem ni_chr {c : Nat} {z : List Nat} : niO (.str [c]) (.str z) = some (!decide (c ∈ z)) := rfl
theorem ind_map {α : Type} [DecidableEq α] {enc : α → D} {n : Nat} (h : EqT enc n) (a : α) : ∀ as : List α, ind (enc a) (as.map enc) = decide (a ∈ as)
  | [] => rfl
  | b :: bs => by
    show (Fz.deq (enc b) (enc a) || ind (enc a) (bs.map enc)) = _
    rw [ind_map h a bs, h.deq]
    by_cases e : b = a
    · subst e; simp
    · have : ¬ a = b := fun z => e z.symm
      simp [e, this]
theorem in_map {α : Type} [DecidableEq α] {enc : α → D} {n : Nat} (h : EqT enc n) (hf : ∀ a, flatD (enc a) = true) (a : α) (as : List α) : inO (enc a) (.lst (as.map enc)) = some (decide (a ∈ as)) := by
  have h1 : (as.map enc).all flatD = true := by rw [List.all_map]; exact List.all_eq_true.mpr fun b _ => hf b
  have : inO (enc a) (.lst (as.map enc)) = if (flatD (enc a) && (as.map enc).all flatD) = true then some (ind (enc a) (as.map enc)) else none := by
    cases enc a <;> rfl
  rw [this, hf, h1, if_pos (by rfl), ind_map h]
theorem codes_no : codes "" = [] := rfl
theorem in_ints (a : Int) (as : List Int) : inO (.int a) (.lst (as.map .int)) = some (decide (a ∈ as)) := in_map EqT.int (fun _ => rfl) a as
theorem ni_ints (a : Int) (as : List Int) : niO (.int a) (.lst (as.map .int)) = some (!decide (a ∈ as)) := by unfold niO; rw [in_ints]; rfl
theorem in_intsT (a : Int) (as : List Int) : inO (.int a) (.tup (as.map .int)) = some (decide (a ∈ as)) := in_ints a as
theorem ni_intsT (a : Int) (as : List Int) : niO (.int a) (.tup (as.map .int)) = some (!decide (a ∈ as)) := ni_ints a as
namespace Cm
theorem a_rng1b2 {l : List D → Prop} {e : EX} (f : D → D → Option D) (a b : Cm D) : (rng1 (b2 f a b)) l e = (b2 f a b) (fun d => (rng1 (ok d)) l e) e := propext Iff.rfl
theorem a_rng1b1 {l : List D → Prop} {e : EX} (f : D → Option D) (a : Cm D) : (rng1 (b1 f a)) l e = (b1 f a) (fun d => (rng1 (ok d)) l e) e := propext Iff.rfl
theorem a_rng1c1 {l : List D → Prop} {e : EX} (f : D → Cm D) (a : Cm D) : (rng1 (c1 f a)) l e = (c1 f a) (fun d => (rng1 (ok d)) l e) e := propext Iff.rfl
theorem a_c5 {q : D → Prop} {e : EX} (f : D → D → D → D → D → Cm D) (a b c d g : Cm D) : (c5 f a b c d g) q e = a (fun x => b (fun y => c (fun z => d (fun w => g (fun v => f x y z w v q e) e) e) e) e) e := propext Iff.rfl
end Cm
/-! ### what runs a mirror: cmS rewrites, cmA asks step by step -/
theorem cmS : type_of% (And.intro @ni_intsT (And.intro @in_intsT (And.intro @ni_ints (And.intro @in_ints (And.intro @Cm.orT_bl (And.intro @Cm.andT_bl (And.intro @mul_one2 (And.intro @mul_one3 (And.intro @Cm.pk_int (And.intro @Cm.pk_bl (And.intro @Cm.pk_str (And.intro @Cm.asr_true (And.intro @Cm.nil_eq (And.intro @Cm.ok_bind (And.intro @Cm.er_bind (And.intro @Cm.st_bind (And.intro @Cm.opt_some (And.intro @Cm.opt_none (And.intro @Cm.b1_ok (And.intro @Cm.b2_ok (And.intro @Cm.andC_okk (And.intro @Cm.orC_okk (And.intro @Cm.andC_ok (And.intro @Cm.orC_ok (And.intro @Cm.notC_ok (And.intro @Cm.ofB_ok (And.intro @Cm.toB_ok (And.intro @Cm.cons_ok (And.intro @Cm.c1_ok (And.intro @Cm.c2_ok (And.intro @Cm.c3_ok (And.intro @Cm.c4_ok (And.intro @Cm.c5_ok (And.intro @Cm.c6_ok (And.intro @Cm.q2_ok (And.intro @Cm.q3_ok (And.intro @Cm.its_ok (And.intro @Cm.isN_ok' (And.intro @Cm.isa_ok (And.intro @Cm.tru_ok (And.intro @Cm.andV_ok (And.intro @Cm.orV_ok (And.intro @Cm.pr_tup (And.intro @Cm.tr3_tup (And.intro @Cm.fmtC_str (And.intro @Cm.t2_ok (And.intro @Cm.go_nx (And.intro @Cm.go_up (And.intro @Cm.noer_ok (And.intro @Cm.let2_ok (And.intro @Cm.let3_ok (And.intro @Cm.cnd_t (And.intro @Cm.cnd_f (And.intro @Cm.cnd_n (And.intro @Cm.cnd_d (And.intro @Cm.lst_0 (And.intro @Cm.lst_1 (And.intro @Cm.lst_2 (And.intro @Cm.lst_3 (And.intro @Cm.lst_4 (And.intro @Cm.tup_0 (And.intro @Cm.tup_1 (And.intro @Cm.tup_2 (And.intro @Cm.tup_3 (And.intro @Cm.tup_4 (And.intro @Cm.rng1_nat (And.intro @Cm.comp_map (And.intro @Cm.compF_map (And.intro @Cm.compM_ok (And.intro @Cm.compN_ok (And.intro @Cm.bnd_ok (And.intro @Cm.slTo_ok (And.intro @Cm.slFrom_ok (And.intro @Cm.slMid_ok (And.intro @Cm.ixL_ok (And.intro @Bool.not_true (And.intro @Bool.not_false (And.intro @Bool.and_true (And.intro @Bool.true_and (And.intro @Bool.and_false (And.intro @Bool.false_and (And.intro @Bool.or_true (And.intro @Bool.true_or (And.intro @Bool.or_false (And.intro @Bool.false_or (And.intro @Bool.not_not (And.intro @cond_true.{1} (And.intro @cond_false.{1} (And.intro @itemsOf_lst (And.intro @itemsOf_tup (And.intro @itemsOf_str (And.intro @itemsOf_scr (And.intro @addO_int (And.intro @subO_int (And.intro @ltO_int (And.intro @leO_int (And.intro @gtO_int (And.intro @geO_int (And.intro @ltO_str (And.intro @leO_str (And.intro @maxO_int (And.intro @minO_int (And.intro @isNon_non (And.intro @isNon_tup (And.intro @isNon_int (And.intro @isNon_str (And.intro @isNon_lst (And.intro @allO_map (And.intro @anyO_map (And.intro @sumO_map (And.intro @eqO_int (And.intro @neO_int (And.intro @eqO_str (And.intro @neO_str (And.intro @eqO_bl (And.intro @neO_bl (And.intro @inO_chr (And.intro @ni_chr (And.intro @ixO_int (And.intro @lenO_lst (And.intro @lenO_tup (And.intro @lenO_str (And.intro @lenO_scr (And.intro @tupO_lst (And.intro @tupO_tup (And.intro @mul_small (And.intro @mod_pos (And.intro @fdiv_pos (And.intro @dm_pos (And.intro @truO_bl (And.intro @truO_int (And.intro @truO_str (And.intro @truO_non (And.intro @add_str (And.intro @add_map (And.intro @add_strs (And.intro @add_ints (And.intro @aug_add (And.intro @aug_sub (And.intro @toInt_bl (And.intro @toInt_int (And.intro @ix_range (And.intro @ix_0 (And.intro @ix_1 (And.intro @ix_2 (And.intro @ixT_0 (And.intro @ixT_1 (And.intro @ixT_2 (And.intro @isaO_non (And.intro @isaO_bl (And.intro @isaO_int (And.intro @isaO_str (And.intro @isaO_tup (And.intro @isaO_lst (And.intro @iscO_non (And.intro @iscO_bl (And.intro @iscO_int (And.intro @iscO_str (And.intro @iscO_tup (And.intro @iscO_lst (And.intro @subT_self (And.intro @eq_ints (And.intro @ne_ints (And.intro @eq_strs (And.intro @ne_strs (And.intro @eq_intsT (And.intro @ne_intsT (And.intro @eq_strsT (And.intro @ne_strsT (And.intro @List.length_map.{0, 0} (And.intro @List.length_range (And.intro @List.length_cons.{0} (And.intro @List.length_nil.{0} (And.intro @List.length_append.{0} (And.intro @codes_no (And.intro @codes_sp (And.intro @eq_nilS (And.intro @ne_nilS (And.intro @eq_nilI (And.intro @ne_nilI (And.intro @eq_self.{1} (@decide_true)))))))))))))))))))))))))))))))))))))))))))))))))))))))))))))))))))))))))))))))))))))))))))))))))))))))))))))))))))))))))))))))))))))))))))))))))))))))))))))))))))))))))))))))))))))) := And.intro @ni_intsT (And.intro @in_intsT (And.intro @ni_ints (And.intro @in_ints (And.intro @Cm.orT_bl (And.intro @Cm.andT_bl (And.intro @mul_one2 (And.intro @mul_one3 (And.intro @Cm.pk_int (And.intro @Cm.pk_bl (And.intro @Cm.pk_str (And.intro @Cm.asr_true (And.intro @Cm.nil_eq (And.intro @Cm.ok_bind (And.intro @Cm.er_bind (And.intro @Cm.st_bind (And.intro @Cm.opt_some (And.intro @Cm.opt_none (And.intro @Cm.b1_ok (And.intro @Cm.b2_ok (And.intro @Cm.andC_okk (And.intro @Cm.orC_okk (And.intro @Cm.andC_ok (And.intro @Cm.orC_ok (And.intro @Cm.notC_ok (And.intro @Cm.ofB_ok (And.intro @Cm.toB_ok (And.intro @Cm.cons_ok (And.intro @Cm.c1_ok (And.intro @Cm.c2_ok (And.intro @Cm.c3_ok (And.intro @Cm.c4_ok (And.intro @Cm.c5_ok (And.intro @Cm.c6_ok (And.intro @Cm.q2_ok (And.intro @Cm.q3_ok (And.intro @Cm.its_ok (And.intro @Cm.isN_ok' (And.intro @Cm.isa_ok (And.intro @Cm.tru_ok (And.intro @Cm.andV_ok (And.intro @Cm.orV_ok (And.intro @Cm.pr_tup (And.intro @Cm.tr3_tup (And.intro @Cm.fmtC_str (And.intro @Cm.t2_ok (And.intro @Cm.go_nx (And.intro @Cm.go_up (And.intro @Cm.noer_ok (And.intro @Cm.let2_ok (And.intro @Cm.let3_ok (And.intro @Cm.cnd_t (And.intro @Cm.cnd_f (And.intro @Cm.cnd_n (And.intro @Cm.cnd_d (And.intro @Cm.lst_0 (And.intro @Cm.lst_1 (And.intro @Cm.lst_2 (And.intro @Cm.lst_3 (And.intro @Cm.lst_4 (And.intro @Cm.tup_0 (And.intro @Cm.tup_1 (And.intro @Cm.tup_2 (And.intro @Cm.tup_3 (And.intro @Cm.tup_4 (And.intro @Cm.rng1_nat (And.intro @Cm.comp_map (And.intro @Cm.compF_map (And.intro @Cm.compM_ok (And.intro @Cm.compN_ok (And.intro @Cm.bnd_ok (And.intro @Cm.slTo_ok (And.intro @Cm.slFrom_ok (And.intro @Cm.slMid_ok (And.intro @Cm.ixL_ok (And.intro @Bool.not_true (And.intro @Bool.not_false (And.intro @Bool.and_true (And.intro @Bool.true_and (And.intro @Bool.and_false (And.intro @Bool.false_and (And.intro @Bool.or_true (And.intro @Bool.true_or (And.intro @Bool.or_false (And.intro @Bool.false_or (And.intro @Bool.not_not (And.intro @cond_true.{1} (And.intro @cond_false.{1} (And.intro @itemsOf_lst (And.intro @itemsOf_tup (And.intro @itemsOf_str (And.intro @itemsOf_scr (And.intro @addO_int (And.intro @subO_int (And.intro @ltO_int (And.intro @leO_int (And.intro @gtO_int (And.intro @geO_int (And.intro @ltO_str (And.intro @leO_str (And.intro @maxO_int (And.intro @minO_int (And.intro @isNon_non (And.intro @isNon_tup (And.intro @isNon_int (And.intro @isNon_str (And.intro @isNon_lst (And.intro @allO_map (And.intro @anyO_map (And.intro @sumO_map (And.intro @eqO_int (And.intro @neO_int (And.intro @eqO_str (And.intro @neO_str (And.intro @eqO_bl (And.intro @neO_bl (And.intro @inO_chr (And.intro @ni_chr (And.intro @ixO_int (And.intro @lenO_lst (And.intro @lenO_tup (And.intro @lenO_str (And.intro @lenO_scr (And.intro @tupO_lst (And.intro @tupO_tup (And.intro @mul_small (And.intro @mod_pos (And.intro @fdiv_pos (And.intro @dm_pos (And.intro @truO_bl (And.intro @truO_int (And.intro @truO_str (And.intro @truO_non (And.intro @add_str (And.intro @add_map (And.intro @add_strs (And.intro @add_ints (And.intro @aug_add (And.intro @aug_sub (And.intro @toInt_bl (And.intro @toInt_int (And.intro @ix_range (And.intro @ix_0 (And.intro @ix_1 (And.intro @ix_2 (And.intro @ixT_0 (And.intro @ixT_1 (And.intro @ixT_2 (And.intro @isaO_non (And.intro @isaO_bl (And.intro @isaO_int (And.intro @isaO_str (And.intro @isaO_tup (And.intro @isaO_lst (And.intro @iscO_non (And.intro @iscO_bl (And.intro @iscO_int (And.intro @iscO_str (And.intro @iscO_tup (And.intro @iscO_lst (And.intro @subT_self (And.intro @eq_ints (And.intro @ne_ints (And.intro @eq_strs (And.intro @ne_strs (And.intro @eq_intsT (And.intro @ne_intsT (And.intro @eq_strsT (And.intro @ne_strsT (And.intro @List.length_map.{0, 0} (And.intro @List.length_range (And.intro @List.length_cons.{0} (And.intro @List.length_nil.{0} (And.intro @List.length_append.{0} (And.intro @codes_no (And.intro @codes_sp (And.intro @eq_nilS (And.intro @ne_nilS (And.intro @eq_nilI (And.intro @ne_nilI (And.intro @eq_self.{1} (@decide_true)))))))))))))))))))))))))))))))))))))))))))))))))))))))))))))))))))))))))))))))))))))))))))))))))))))))))))))))))))))))))))))))))))))))))))))))))))))))))))))))))))))))))))))))))))))
theorem cmA : type_of% (And.intro @Cm.a_c5 (And.intro @Cm.a_rng1c1 (And.intro @Cm.a_rng1b1 (And.intro @Cm.a_rng1b2 (And.intro @Cm.a_bind (And.intro @Cm.a_ok (And.intro @Cm.a_asr (And.intro @Cm.a_cnd (And.intro @Cm.a_let2 (And.intro @Cm.a_let3 (And.intro @Cm.a_b1 (And.intro @Cm.a_b2 (And.intro @Cm.a_q2 (And.intro @Cm.a_c1 (And.intro @Cm.a_c2 (And.intro @Cm.a_c3 (And.intro @Cm.a_c4 (And.intro @Cm.a_nil (And.intro @Cm.a_cons (And.intro @Cm.a_tupC (And.intro @Cm.a_lstC (And.intro @Cm.a_notC (And.intro @Cm.a_ofB (And.intro @Cm.a_andC (And.intro @Cm.a_orC (And.intro @Cm.a_draw (@Cm.a_its))))))))))))))))))))))))))) := And.intro @Cm.a_c5 (And.intro @Cm.a_rng1c1 (And.intro @Cm.a_rng1b1 (And.intro @Cm.a_rng1b2 (And.intro @Cm.a_bind (And.intro @Cm.a_ok (And.intro @Cm.a_asr (And.intro @Cm.a_cnd (And.intro @Cm.a_let2 (And.intro @Cm.a_let3 (And.intro @Cm.a_b1 (And.intro @Cm.a_b2 (And.intro @Cm.a_q2 (And.intro @Cm.a_c1 (And.intro @Cm.a_c2 (And.intro @Cm.a_c3 (And.intro @Cm.a_c4 (And.intro @Cm.a_nil (And.intro @Cm.a_cons (And.intro @Cm.a_tupC (And.intro @Cm.a_lstC (And.intro @Cm.a_notC (And.intro @Cm.a_ofB (And.intro @Cm.a_andC (And.intro @Cm.a_orC (And.intro @Cm.a_draw (@Cm.a_its))))))))))))))))))))))))))
end Fz
end

section
/-! names that may be unset, longer rows of names -/
namespace Fz
open PySem PySem.Spec PyProof.Rows L2 PySem.W
namespace Cm
def tr4 {α : Type} (f : D → D → D → D → Cm α) : D → Cm α
  | .tup [d0, d1, d2, d3] => f d0 d1 d2 d3
  | _ => st
theorem tr4_tup {α : Type} (f : D → D → D → D → Cm α) (d0 d1 d2 d3 : D) : tr4 f (.tup [d0, d1, d2, d3]) = f d0 d1 d2 d3 := ext fun _ _ => Iff.rfl
def tr5 {α : Type} (f : D → D → D → D → D → Cm α) : D → Cm α
  | .tup [d0, d1, d2, d3, d4] => f d0 d1 d2 d3 d4
  | _ => st
theorem tr5_tup {α : Type} (f : D → D → D → D → D → Cm α) (d0 d1 d2 d3 d4 : D) : tr5 f (.tup [d0, d1, d2, d3, d4]) = f d0 d1 d2 d3 d4 := ext fun _ _ => Iff.rfl
def tr6 {α : Type} (f : D → D → D → D → D → D → Cm α) : D → Cm α
  | .tup [d0, d1, d2, d3, d4, d5] => f d0 d1 d2 d3 d4 d5
  | _ => st
theorem tr6_tup {α : Type} (f : D → D → D → D → D → D → Cm α) (d0 d1 d2 d3 d4 d5 : D) : tr6 f (.tup [d0, d1, d2, d3, d4, d5]) = f d0 d1 d2 d3 d4 d5 := ext fun _ _ => Iff.rfl
end Cm
section
variable {σ ρ α : Type} {X : Cx} {Ex : AX} {S S0 x : Store} {J : Jn S0 ρ} {Γ : Gam} {a b c o ex elt tg iter value : Expr} {es : List Expr} {rest body t f : List Stmt} {pos p p1 p2 p3 apos pos' pt : Pos} {m ma mb mc : Cm D} {n : Cm Bool} {ms mi : Cm (List D)} {d : D} {k j : Nat} {scope : Scope} {y z w : Str} {DE : AEnds}
/-- a name that may be unset -/
theorem zn_varO (i : Nat) {o : Option D} {y : Str} (h : Γ[i]? = some o := by rfl) (hN : X.N[i]? = some y := by rfl) (hv : Vis X.env.scope y := by first | exact Or.inl rfl | exact Or.inr (Or.inl rfl) | exact Or.inr (Or.inr rfl))
    (hd : (y == ("__debug__" : Str)) = false := by decide) (hcd : (y == ("__classdict__" : Str)) = false := by decide) : ZN X S0 (.Name y pos) Γ x (.opt o) := by
  cases o with
  | none => exact zn_st
  | some d => exact zn_var i h hN hv hd hcd
theorem zx_unp4 (i0 i1 i2 i3 : Nat) {y0 y1 y2 y3 : Str} {kt} {q0 q1 q2 q3 : Pos} (h : ZN X S0 a Γ x m) {f : D → D → D → D → Cm ρ} (k : ∀ d0 d1 d2 d3, ZX X J rest ((((Γ.set i0 (some d0)).set i1 (some d1)).set i2 (some d2)).set i3 (some d3)) x (f d0 d1 d2 d3)) (nd : X.N.Nodup)
    (hi0 : X.N[i0]? = some y0 := by rfl) (hx0 : Loc X.env.scope y0 := by first | exact .inl rfl | exact .inr rfl) (hf0 : X.fn y0 = true ∨ X.env.scope.names.lookup y0 = some .local := by first | exact .inl rfl | exact .inr rfl) (hi1 : X.N[i1]? = some y1 := by rfl) (hx1 : Loc X.env.scope y1 := by first | exact .inl rfl | exact .inr rfl) (hf1 : X.fn y1 = true ∨ X.env.scope.names.lookup y1 = some .local := by first | exact .inl rfl | exact .inr rfl) (hi2 : X.N[i2]? = some y2 := by rfl) (hx2 : Loc X.env.scope y2 := by first | exact .inl rfl | exact .inr rfl) (hf2 : X.fn y2 = true ∨ X.env.scope.names.lookup y2 = some .local := by first | exact .inl rfl | exact .inr rfl) (hi3 : X.N[i3]? = some y3 := by rfl) (hx3 : Loc X.env.scope y3 := by first | exact .inl rfl | exact .inr rfl) (hf3 : X.fn y3 = true ∨ X.env.scope.names.lookup y3 = some .local := by first | exact .inl rfl | exact .inr rfl)
    (e0 : (assignEach (.Name y0 q0 :: [.Name y1 q1, .Name y2 q2, .Name y3 q3]) X.env).map (·.2) = assign (.Name y0 q0) X.env :: (assignEach [.Name y1 q1, .Name y2 q2, .Name y3 q3] X.env).map (·.2) := by rfl) (e1 : (assignEach (.Name y1 q1 :: [.Name y2 q2, .Name y3 q3]) X.env).map (·.2) = assign (.Name y1 q1) X.env :: (assignEach [.Name y2 q2, .Name y3 q3] X.env).map (·.2) := by rfl) (e2 : (assignEach (.Name y2 q2 :: [.Name y3 q3]) X.env).map (·.2) = assign (.Name y2 q2) X.env :: (assignEach [.Name y3 q3] X.env).map (·.2) := by rfl) (e3 : (assignEach (.Name y3 q3 :: []) X.env).map (·.2) = assign (.Name y3 q3) X.env :: (assignEach [] X.env).map (·.2) := by rfl)
    (hn : (assignEach [.Name y0 q0, .Name y1 q1, .Name y2 q2, .Name y3 q3] X.env).length = 4 := by rfl) (hst : (assignEach [.Name y0 q0, .Name y1 q1, .Name y2 q2, .Name y3 q3] X.env).findIdx? (·.1) = none := by rfl)
    (hs : swapsWithSole [.Tuple [.Name y0 q0, .Name y1 q1, .Name y2 q2, .Name y3 q3] kt pt] a pos.line X.env = pure false := by rfl) (hw : swappedStores [.Tuple [.Name y0 q0, .Name y1 q1, .Name y2 q2, .Name y3 q3] kt pt] a X.env = pure none := by rfl)
    (h1 : (assignEach [.Tuple [.Name y0 q0, .Name y1 q1, .Name y2 q2, .Name y3 q3] kt pt] X.env).map (·.2) = [assign (.Tuple [.Name y0 q0, .Name y1 q1, .Name y2 q2, .Name y3 q3] kt pt) X.env] := by rfl) :
    ZX X J (.Assign [.Tuple [.Name y0 q0, .Name y1 q1, .Name y2 q2, .Name y3 q3] kt pt] a pos :: rest) Γ x (m.bind (Cm.tr4 f)) := fun q e hq =>
  zs_cons (z1_asg ((h _ e hq).mono fun d S1 ⟨e4, h4⟩ => by
    subst e4
    match d, h4 with
    | .tup [d0, d1, d2, d3], h3 => exact zg_tup rfl (zgs_name (i := i0) (zgs_name (i := i1) (zgs_name (i := i2) (zgs_name (i := i3) (zgs_nil (k d0 d1 d2 d3 q e h3)) nd hi3 hx3 hf3 e3) nd hi2 hx2 hf2 e2) nd hi1 hx1 hf1 e1) nd hi0 hx0 hf0 e0) rfl hn hst
    | .tup [], h3 | .tup [_], h3 | .tup [_, _], h3 | .tup [_, _, _], h3 | .tup (_ :: _ :: _ :: _ :: _ :: _), h3 | .non, h3 | .bl _, h3 | .int _, h3 | .str _, h3 | .ref _, h3 | .lst _, h3 | .scr _, h3 | .obj .., h3 | .dk _, h3 | .dt _, h3 => exact h3.elim) hs hw h1)
theorem zx_unp5 (i0 i1 i2 i3 i4 : Nat) {y0 y1 y2 y3 y4 : Str} {kt} {q0 q1 q2 q3 q4 : Pos} (h : ZN X S0 a Γ x m) {f : D → D → D → D → D → Cm ρ} (k : ∀ d0 d1 d2 d3 d4, ZX X J rest (((((Γ.set i0 (some d0)).set i1 (some d1)).set i2 (some d2)).set i3 (some d3)).set i4 (some d4)) x (f d0 d1 d2 d3 d4)) (nd : X.N.Nodup)
    (hi0 : X.N[i0]? = some y0 := by rfl) (hx0 : Loc X.env.scope y0 := by first | exact .inl rfl | exact .inr rfl) (hf0 : X.fn y0 = true ∨ X.env.scope.names.lookup y0 = some .local := by first | exact .inl rfl | exact .inr rfl) (hi1 : X.N[i1]? = some y1 := by rfl) (hx1 : Loc X.env.scope y1 := by first | exact .inl rfl | exact .inr rfl) (hf1 : X.fn y1 = true ∨ X.env.scope.names.lookup y1 = some .local := by first | exact .inl rfl | exact .inr rfl) (hi2 : X.N[i2]? = some y2 := by rfl) (hx2 : Loc X.env.scope y2 := by first | exact .inl rfl | exact .inr rfl) (hf2 : X.fn y2 = true ∨ X.env.scope.names.lookup y2 = some .local := by first | exact .inl rfl | exact .inr rfl) (hi3 : X.N[i3]? = some y3 := by rfl) (hx3 : Loc X.env.scope y3 := by first | exact .inl rfl | exact .inr rfl) (hf3 : X.fn y3 = true ∨ X.env.scope.names.lookup y3 = some .local := by first | exact .inl rfl | exact .inr rfl) (hi4 : X.N[i4]? = some y4 := by rfl) (hx4 : Loc X.env.scope y4 := by first | exact .inl rfl | exact .inr rfl) (hf4 : X.fn y4 = true ∨ X.env.scope.names.lookup y4 = some .local := by first | exact .inl rfl | exact .inr rfl)
    (e0 : (assignEach (.Name y0 q0 :: [.Name y1 q1, .Name y2 q2, .Name y3 q3, .Name y4 q4]) X.env).map (·.2) = assign (.Name y0 q0) X.env :: (assignEach [.Name y1 q1, .Name y2 q2, .Name y3 q3, .Name y4 q4] X.env).map (·.2) := by rfl) (e1 : (assignEach (.Name y1 q1 :: [.Name y2 q2, .Name y3 q3, .Name y4 q4]) X.env).map (·.2) = assign (.Name y1 q1) X.env :: (assignEach [.Name y2 q2, .Name y3 q3, .Name y4 q4] X.env).map (·.2) := by rfl) (e2 : (assignEach (.Name y2 q2 :: [.Name y3 q3, .Name y4 q4]) X.env).map (·.2) = assign (.Name y2 q2) X.env :: (assignEach [.Name y3 q3, .Name y4 q4] X.env).map (·.2) := by rfl) (e3 : (assignEach (.Name y3 q3 :: [.Name y4 q4]) X.env).map (·.2) = assign (.Name y3 q3) X.env :: (assignEach [.Name y4 q4] X.env).map (·.2) := by rfl) (e4 : (assignEach (.Name y4 q4 :: []) X.env).map (·.2) = assign (.Name y4 q4) X.env :: (assignEach [] X.env).map (·.2) := by rfl)
    (hn : (assignEach [.Name y0 q0, .Name y1 q1, .Name y2 q2, .Name y3 q3, .Name y4 q4] X.env).length = 5 := by rfl) (hst : (assignEach [.Name y0 q0, .Name y1 q1, .Name y2 q2, .Name y3 q3, .Name y4 q4] X.env).findIdx? (·.1) = none := by rfl)
    (hs : swapsWithSole [.Tuple [.Name y0 q0, .Name y1 q1, .Name y2 q2, .Name y3 q3, .Name y4 q4] kt pt] a pos.line X.env = pure false := by rfl) (hw : swappedStores [.Tuple [.Name y0 q0, .Name y1 q1, .Name y2 q2, .Name y3 q3, .Name y4 q4] kt pt] a X.env = pure none := by rfl)
    (h1 : (assignEach [.Tuple [.Name y0 q0, .Name y1 q1, .Name y2 q2, .Name y3 q3, .Name y4 q4] kt pt] X.env).map (·.2) = [assign (.Tuple [.Name y0 q0, .Name y1 q1, .Name y2 q2, .Name y3 q3, .Name y4 q4] kt pt) X.env] := by rfl) :
    ZX X J (.Assign [.Tuple [.Name y0 q0, .Name y1 q1, .Name y2 q2, .Name y3 q3, .Name y4 q4] kt pt] a pos :: rest) Γ x (m.bind (Cm.tr5 f)) := fun q e hq =>
  zs_cons (z1_asg ((h _ e hq).mono fun d S1 ⟨e4, h4⟩ => by
    subst e4
    match d, h4 with
    | .tup [d0, d1, d2, d3, d4], h3 => exact zg_tup rfl (zgs_name (i := i0) (zgs_name (i := i1) (zgs_name (i := i2) (zgs_name (i := i3) (zgs_name (i := i4) (zgs_nil (k d0 d1 d2 d3 d4 q e h3)) nd hi4 hx4 hf4 e4) nd hi3 hx3 hf3 e3) nd hi2 hx2 hf2 e2) nd hi1 hx1 hf1 e1) nd hi0 hx0 hf0 e0) rfl hn hst
    | .tup [], h3 | .tup [_], h3 | .tup [_, _], h3 | .tup [_, _, _], h3 | .tup [_, _, _, _], h3 | .tup (_ :: _ :: _ :: _ :: _ :: _ :: _), h3 | .non, h3 | .bl _, h3 | .int _, h3 | .str _, h3 | .ref _, h3 | .lst _, h3 | .scr _, h3 | .obj .., h3 | .dk _, h3 | .dt _, h3 => exact h3.elim) hs hw h1)
theorem zx_unp6 (i0 i1 i2 i3 i4 i5 : Nat) {y0 y1 y2 y3 y4 y5 : Str} {kt} {q0 q1 q2 q3 q4 q5 : Pos} (h : ZN X S0 a Γ x m) {f : D → D → D → D → D → D → Cm ρ} (k : ∀ d0 d1 d2 d3 d4 d5, ZX X J rest ((((((Γ.set i0 (some d0)).set i1 (some d1)).set i2 (some d2)).set i3 (some d3)).set i4 (some d4)).set i5 (some d5)) x (f d0 d1 d2 d3 d4 d5)) (nd : X.N.Nodup)
    (hi0 : X.N[i0]? = some y0 := by rfl) (hx0 : Loc X.env.scope y0 := by first | exact .inl rfl | exact .inr rfl) (hf0 : X.fn y0 = true ∨ X.env.scope.names.lookup y0 = some .local := by first | exact .inl rfl | exact .inr rfl) (hi1 : X.N[i1]? = some y1 := by rfl) (hx1 : Loc X.env.scope y1 := by first | exact .inl rfl | exact .inr rfl) (hf1 : X.fn y1 = true ∨ X.env.scope.names.lookup y1 = some .local := by first | exact .inl rfl | exact .inr rfl) (hi2 : X.N[i2]? = some y2 := by rfl) (hx2 : Loc X.env.scope y2 := by first | exact .inl rfl | exact .inr rfl) (hf2 : X.fn y2 = true ∨ X.env.scope.names.lookup y2 = some .local := by first | exact .inl rfl | exact .inr rfl) (hi3 : X.N[i3]? = some y3 := by rfl) (hx3 : Loc X.env.scope y3 := by first | exact .inl rfl | exact .inr rfl) (hf3 : X.fn y3 = true ∨ X.env.scope.names.lookup y3 = some .local := by first | exact .inl rfl | exact .inr rfl) (hi4 : X.N[i4]? = some y4 := by rfl) (hx4 : Loc X.env.scope y4 := by first | exact .inl rfl | exact .inr rfl) (hf4 : X.fn y4 = true ∨ X.env.scope.names.lookup y4 = some .local := by first | exact .inl rfl | exact .inr rfl) (hi5 : X.N[i5]? = some y5 := by rfl) (hx5 : Loc X.env.scope y5 := by first | exact .inl rfl | exact .inr rfl) (hf5 : X.fn y5 = true ∨ X.env.scope.names.lookup y5 = some .local := by first | exact .inl rfl | exact .inr rfl)
    (e0 : (assignEach (.Name y0 q0 :: [.Name y1 q1, .Name y2 q2, .Name y3 q3, .Name y4 q4, .Name y5 q5]) X.env).map (·.2) = assign (.Name y0 q0) X.env :: (assignEach [.Name y1 q1, .Name y2 q2, .Name y3 q3, .Name y4 q4, .Name y5 q5] X.env).map (·.2) := by rfl) (e1 : (assignEach (.Name y1 q1 :: [.Name y2 q2, .Name y3 q3, .Name y4 q4, .Name y5 q5]) X.env).map (·.2) = assign (.Name y1 q1) X.env :: (assignEach [.Name y2 q2, .Name y3 q3, .Name y4 q4, .Name y5 q5] X.env).map (·.2) := by rfl) (e2 : (assignEach (.Name y2 q2 :: [.Name y3 q3, .Name y4 q4, .Name y5 q5]) X.env).map (·.2) = assign (.Name y2 q2) X.env :: (assignEach [.Name y3 q3, .Name y4 q4, .Name y5 q5] X.env).map (·.2) := by rfl) (e3 : (assignEach (.Name y3 q3 :: [.Name y4 q4, .Name y5 q5]) X.env).map (·.2) = assign (.Name y3 q3) X.env :: (assignEach [.Name y4 q4, .Name y5 q5] X.env).map (·.2) := by rfl) (e4 : (assignEach (.Name y4 q4 :: [.Name y5 q5]) X.env).map (·.2) = assign (.Name y4 q4) X.env :: (assignEach [.Name y5 q5] X.env).map (·.2) := by rfl) (e5 : (assignEach (.Name y5 q5 :: []) X.env).map (·.2) = assign (.Name y5 q5) X.env :: (assignEach [] X.env).map (·.2) := by rfl)
    (hn : (assignEach [.Name y0 q0, .Name y1 q1, .Name y2 q2, .Name y3 q3, .Name y4 q4, .Name y5 q5] X.env).length = 6 := by rfl) (hst : (assignEach [.Name y0 q0, .Name y1 q1, .Name y2 q2, .Name y3 q3, .Name y4 q4, .Name y5 q5] X.env).findIdx? (·.1) = none := by rfl)
    (hs : swapsWithSole [.Tuple [.Name y0 q0, .Name y1 q1, .Name y2 q2, .Name y3 q3, .Name y4 q4, .Name y5 q5] kt pt] a pos.line X.env = pure false := by rfl) (hw : swappedStores [.Tuple [.Name y0 q0, .Name y1 q1, .Name y2 q2, .Name y3 q3, .Name y4 q4, .Name y5 q5] kt pt] a X.env = pure none := by rfl)
    (h1 : (assignEach [.Tuple [.Name y0 q0, .Name y1 q1, .Name y2 q2, .Name y3 q3, .Name y4 q4, .Name y5 q5] kt pt] X.env).map (·.2) = [assign (.Tuple [.Name y0 q0, .Name y1 q1, .Name y2 q2, .Name y3 q3, .Name y4 q4, .Name y5 q5] kt pt) X.env] := by rfl) :
    ZX X J (.Assign [.Tuple [.Name y0 q0, .Name y1 q1, .Name y2 q2, .Name y3 q3, .Name y4 q4, .Name y5 q5] kt pt] a pos :: rest) Γ x (m.bind (Cm.tr6 f)) := fun q e hq =>
  zs_cons (z1_asg ((h _ e hq).mono fun d S1 ⟨e4, h4⟩ => by
    subst e4
    match d, h4 with
    | .tup [d0, d1, d2, d3, d4, d5], h3 => exact zg_tup rfl (zgs_name (i := i0) (zgs_name (i := i1) (zgs_name (i := i2) (zgs_name (i := i3) (zgs_name (i := i4) (zgs_name (i := i5) (zgs_nil (k d0 d1 d2 d3 d4 d5 q e h3)) nd hi5 hx5 hf5 e5) nd hi4 hx4 hf4 e4) nd hi3 hx3 hf3 e3) nd hi2 hx2 hf2 e2) nd hi1 hx1 hf1 e1) nd hi0 hx0 hf0 e0) rfl hn hst
    | .tup [], h3 | .tup [_], h3 | .tup [_, _], h3 | .tup [_, _, _], h3 | .tup [_, _, _, _], h3 | .tup [_, _, _, _, _], h3 | .tup (_ :: _ :: _ :: _ :: _ :: _ :: _ :: _), h3 | .non, h3 | .bl _, h3 | .int _, h3 | .str _, h3 | .ref _, h3 | .lst _, h3 | .scr _, h3 | .obj .., h3 | .dk _, h3 | .dt _, h3 => exact h3.elim) hs hw h1)
end
end Fz
end

section
/-! dicts whose keys are numbers or texts, and tuples of these -/
namespace Fz
open PySem PySem.Spec PyProof.Rows L2 PySem.W
def keyD : Key → D
  | .inl i => .int i
  | .inr s => .str s.cps.toList
def dKey : D → Option Key
  | .int i => some (.inl i)
  | .str x => some (.inr ⟨x.toArray⟩)
  | _ => none
def dKeys : List D → Option (List Key)
  | [] => some []
  | d :: ds => match dKey d, dKeys ds with
    | some k, some ks => some (k :: ks)
    | _, _ => none
def tKey : D → Option (List Key)
  | .tup ds => dKeys ds
  | _ => none
section
variable {κ α : Type} [DecidableEq κ]
def putD (kvs : List (κ × α)) (k : κ) (v : α) : List (κ × α) := if (kvs.any fun kv => decide (kv.1 = k)) = true then kvs.map (fun kv => if kv.1 = k then (kv.1, v) else kv) else kvs ++ [(k, v)]
def getD' (kvs : List (κ × α)) (k : κ) : Option α := (kvs.find? fun kv => decide (kv.1 = k)).map (·.2)
end
section
variable {K : PySem.W.Frag} {G : Hp}
theorem repK_any (k : Key) : ∀ {ks : List (Key × D)} {vs : List (Key × V)}, RepK K G ks vs → (vs.any fun kv => decide (kv.1 = k)) = ks.any fun kv => decide (kv.1 = k)
  | _, _, .nil => rfl
  | _, _, .cons h r => by rw [List.any_cons, List.any_cons, repK_any k r]
theorem repK_map {k : Key} {d : D} {v : V} (hd : Rep K G d v) : ∀ {ks : List (Key × D)} {vs : List (Key × V)}, RepK K G ks vs → RepK K G (ks.map fun kv => if kv.1 = k then (kv.1, d) else kv) (vs.map fun kv => if kv.1 = k then (kv.1, v) else kv)
  | _, _, .nil => .nil
  | _, _, .cons (n := n) h r => by
    rw [List.map_cons, List.map_cons]
    by_cases e : n = k
    · rw [if_pos e, if_pos e]; exact .cons hd (repK_map hd r)
    · rw [if_neg e, if_neg e]; exact .cons h (repK_map hd r)
theorem repK_app {k : Key} {d : D} {v : V} (hd : Rep K G d v) : ∀ {ks : List (Key × D)} {vs : List (Key × V)}, RepK K G ks vs → RepK K G (ks ++ [(k, d)]) (vs ++ [(k, v)])
  | _, _, .nil => .cons hd .nil
  | _, _, .cons h r => .cons h (repK_app hd r)
theorem repK_put {k : Key} {d : D} {v : V} (hd : Rep K G d v) {ks : List (Key × D)} {vs : List (Key × V)} (r : RepK K G ks vs) : RepK K G (putD ks k d) (putK vs k v) := by
  unfold putD putK
  rw [repK_any k r]
  split
  · exact repK_map hd r
  · exact repK_app hd r
theorem repK_len : ∀ {ks : List (Key × D)} {vs : List (Key × V)}, RepK K G ks vs → ks.length = vs.length
  | _, _, .nil => rfl
  | _, _, .cons _ r => by rw [List.length_cons, List.length_cons, repK_len r]
theorem repK_get {k : Key} : ∀ {ks : List (Key × D)} {vs : List (Key × V)}, RepK K G ks vs → (getD' ks k = none ∧ valV vs k = none) ∨ ∃ d v, getD' ks k = some d ∧ valV vs k = some v ∧ Rep K G d v
  | _, _, .nil => .inl ⟨rfl, rfl⟩
  | _, _, .cons (n := n) (d := d) (v := v) h r => by
    by_cases e : n = k
    · exact .inr ⟨d, v, by simp [getD', e], by simp [valV, e], h⟩
    · have := repK_get (k := k) r
      have e1 : ∀ rest : List (Key × D), getD' ((n, d) :: rest) k = getD' rest k := fun rest => by simp [getD', List.find?_cons, e]
      have e2 : ∀ rest : List (Key × V), valV ((n, v) :: rest) k = valV rest k := fun rest => by simp [valV, List.find?_cons, e]
      rw [e1, e2]; exact this
theorem repT_any (k : List Key) : ∀ {ks : List (List Key × D)} {vs : List (List Key × V)}, RepT K G ks vs → (vs.any fun kv => decide (kv.1 = k)) = ks.any fun kv => decide (kv.1 = k)
  | _, _, .nil => rfl
  | _, _, .cons h r => by rw [List.any_cons, List.any_cons, repT_any k r]
theorem repT_map {k : List Key} {d : D} {v : V} (hd : Rep K G d v) : ∀ {ks : List (List Key × D)} {vs : List (List Key × V)}, RepT K G ks vs → RepT K G (ks.map fun kv => if kv.1 = k then (kv.1, d) else kv) (vs.map fun kv => if kv.1 = k then (kv.1, v) else kv)
  | _, _, .nil => .nil
  | _, _, .cons (n := n) h r => by
    rw [List.map_cons, List.map_cons]
    by_cases e : n = k
    · rw [if_pos e, if_pos e]; exact .cons hd (repT_map hd r)
    · rw [if_neg e, if_neg e]; exact .cons h (repT_map hd r)
theorem repT_app {k : List Key} {d : D} {v : V} (hd : Rep K G d v) : ∀ {ks : List (List Key × D)} {vs : List (List Key × V)}, RepT K G ks vs → RepT K G (ks ++ [(k, d)]) (vs ++ [(k, v)])
  | _, _, .nil => .cons hd .nil
  | _, _, .cons h r => .cons h (repT_app hd r)
theorem repT_put {k : List Key} {d : D} {v : V} (hd : Rep K G d v) {ks : List (List Key × D)} {vs : List (List Key × V)} (r : RepT K G ks vs) : RepT K G (putD ks k d) (putK vs k v) := by
  unfold putD putK
  rw [repT_any k r]
  split
  · exact repT_map hd r
  · exact repT_app hd r
theorem repT_len : ∀ {ks : List (List Key × D)} {vs : List (List Key × V)}, RepT K G ks vs → ks.length = vs.length
  | _, _, .nil => rfl
  | _, _, .cons _ r => by rw [List.length_cons, List.length_cons, repT_len r]
theorem rep_key {d : D} {v : V} {k : Key} (r : Rep K G d v) (h : dKey d = some k) : v = kV k := by
  cases r <;> first | (cases h; done) | (cases h; rfl)
theorem repL_keys : ∀ {ds : List D} {vs : List V} {ks : List Key}, RepL K G ds vs → dKeys ds = some ks → vs = ks.map kV
  | _, _, ks, .nil, h => by
    have h : some [] = some ks := h
    cases h; rfl
  | _, _, ks, .cons (d := d) (ds := ds) q r, h => by
    unfold dKeys at h
    cases h1 : dKey d with
    | none => rw [h1] at h; cases h
    | some k =>
      cases h2 : dKeys ds with
      | none => rw [h1, h2] at h; cases h
      | some l =>
        rw [h1, h2] at h
        cases h
        rw [List.map_cons, rep_key q h1, repL_keys r h2]
end
section
variable {σ ρ α : Type} {X : Cx} {Ex : AX} {S S0 x : Store} {J : Jn S0 ρ} {Γ : Gam} {a b c o ix elt tg iter value : Expr} {es : List Expr} {rest body t f : List Stmt} {pos p p1 p2 p3 apos pos' p' pt : Pos} {m ma mb mc : Cm D} {n : Cm Bool} {ms mi : Cm (List D)} {d : D} {k j : Nat} {scope : Scope} {y z w : Str} {DE : AEnds} {Q : DQ}
theorem ze_newDk (h : ∀ p, Q (.ref p) (S ++ [(p, .dk [])])) : ZE X Ex (.Dict [] [] pos) Γ S Q := ze_of pe_dnewK fun F σ H c Q' k => fun p hp => by
  obtain ⟨n1, n2⟩ := c.hc.cell (c := .dk []) (o := .dK []) hp ⟨[], rfl, .nil⟩
  exact k _ _ _ _ n2 n1 .ref (h p)
theorem ze_newDt (h : ∀ p, Q (.ref p) (S ++ [(p, .dt [])])) : ZE X Ex (.Dict [] [] pos) Γ S Q := ze_of pe_dnewT fun F σ H c Q' k => fun p hp => by
  obtain ⟨n1, n2⟩ := c.hc.cell (c := .dt []) (o := .dT []) hp ⟨[], rfl, .nil⟩
  exact k _ _ _ _ n2 n1 .ref (h p)
theorem zx_newDk (i : Nat) {m : Cm ρ} (k : ∀ p, ZX X J rest (Γ.set i (some (.ref p))) (x ++ [(p, .dk [])]) m) (hi : X.N[i]? = some y := by rfl) (hx : Loc X.env.scope y := by first | exact .inl rfl | exact .inr rfl)
    (hs : swapsWith (.Dict [] [] p2) (some (.Name y p')) pos.line X.env = pure false := by rfl) (hf : X.fn y = true ∨ X.env.scope.names.lookup y = some .local := by first | exact .inl rfl | exact .inr rfl) : ZX X J (.Assign [.Name y p'] (.Dict [] [] p2) pos :: rest) Γ x m := fun q e hq =>
  zs_cons (z1_set (ze_newDk fun p => by
    have := k p q e hq
    rw [← List.append_assoc] at this
    exact this) hi hx hs hf)
theorem zx_newDt (i : Nat) {m : Cm ρ} (k : ∀ p, ZX X J rest (Γ.set i (some (.ref p))) (x ++ [(p, .dt [])]) m) (hi : X.N[i]? = some y := by rfl) (hx : Loc X.env.scope y := by first | exact .inl rfl | exact .inr rfl)
    (hs : swapsWith (.Dict [] [] p2) (some (.Name y p')) pos.line X.env = pure false := by rfl) (hf : X.fn y = true ∨ X.env.scope.names.lookup y = some .local := by first | exact .inl rfl | exact .inr rfl) : ZX X J (.Assign [.Name y p'] (.Dict [] [] p2) pos :: rest) Γ x m := fun q e hq =>
  zs_cons (z1_set (ze_newDt fun p => by
    have := k p q e hq
    rw [← List.append_assoc] at this
    exact this) hi hx hs hf)
theorem z1_dput {k j : Nat} {q : Addr} (hr : Room j X.A) (h : ZE X Ex value Γ S fun d S1 => ZE X Ex o Γ S1 fun od S2 => ZE X Ex ix Γ S2 fun kd S3 => od = .ref q ∧ ∃ ks kk, dKey kd = some kk ∧ S3[k]? = some (q, .dk ks) ∧ ks.length < 16777216 ∧ DE.nx Γ (S3.set k (q, .dk (putD ks kk d))))
    (hs : swapsWith value (some (.Subscript o ix pos')) pos.line X.env = pure false := by rfl) : Z1 X Ex (.Assign [.Subscript o ix pos'] value pos) Γ S DE :=
  z1_of (ps_dput (by have := hr.units; omega) pe_self pe_self pe_self hs) fun F σ H co D' kq => h F σ H co _ fun v H1 d S1 t1 c1 r1 h1 => h1 F σ H1 (co.step t1 c1) _ fun u H2 od S2 t2 c2 r2 h2 => h2 F σ H2 ((co.step t1 c1).step t2 c2) _ fun y H3 kd S3 t3 c3 r3 ⟨e, ks, kk, ek, hk, hl, q2⟩ => by
    subst e
    cases r2
    obtain ⟨vs, hx, rf⟩ := c3.get hk
    have ey := rep_key r3 ek
    obtain ⟨p1, p2⟩ := c3.put (c' := .dk (putD ks kk d)) (o := .dK (putK vs kk v)) hk ⟨_, rfl, repK_put ((r1.mono t2.ext).mono t3.ext) rf⟩
    refine ⟨q, _, rfl, by rw [ey]; exact DPut.k hx (by rw [← repK_len rf, sizeLine_eq]; exact hl), ?_⟩
    exact kq.nx _ _ _ _ (((t1.trans t2).trans t3).trans p2) p1 ((((co.rg.mono t1.ext).mono t2.ext).mono t3.ext).mono p2.ext) q2
namespace Cm
/-- a key that is a number or a text -/
def dky (d : D) (f : Key → Cm ρ) : Cm ρ := match dKey d with
  | some k => f k
  | none => st
theorem dky_int (i : Int) (f : Key → Cm ρ) : dky (.int i) f = f (.inl i) := ext fun _ _ => Iff.rfl
theorem dky_str (x : List Nat) (f : Key → Cm ρ) : dky (.str x) f = f (.inr ⟨x.toArray⟩) := ext fun _ _ => Iff.rfl
end Cm
/-- found[k] = e -/
theorem zx_dput (t : Nat) {p0 : Addr} {ks : List (Key × D)} (hx : x[t]? = some (p0, .dk ks)) (hr : Room j X.A) (h : ZN X S0 value Γ x ma) (ho : ZN X S0 o Γ x (.ok (.ref p0))) (hi : ZN X S0 ix Γ x mb) {f : D → Key → Cm ρ} (k : ∀ d kk, ZX X J rest Γ (x.set t (p0, .dk (putD ks kk d))) (f d kk))
    (hs : swapsWith value (some (.Subscript o ix pos')) pos.line X.env = pure false := by rfl) : ZX X J (.Assign [.Subscript o ix pos'] value pos :: rest) Γ x (ma.bind fun d => mb.bind fun kd => Cm.dky kd fun kk => .asr (ks.length < 16777216) (f d kk)) := fun q e hq => by
  have at_ : (S0 ++ x)[S0.length + t]? = some (p0, Cell.dk ks) := by rw [List.getElem?_append_right (by omega), Nat.add_sub_cancel_left]; exact hx
  refine zs_cons (z1_dput (k := S0.length + t) (q := p0) hr ((h _ e hq).mono fun d S1 ⟨e1, h1⟩ => ?_) hs)
  subst e1
  refine (ho _ e (show (Cm.ok (D.ref p0)) (fun od => od = .ref p0) e from rfl)).mono fun od S2 ⟨e2, h2⟩ => ?_
  subst e2
  refine (hi _ e h1).mono fun kd S3 ⟨e3, h3⟩ => ?_
  subst e3
  have h4 : (match dKey kd with | some kk => Cm.asr (ks.length < 16777216) (f d kk) | none => Cm.st) q e := h3
  cases hk : dKey kd with
  | none => rw [hk] at h4; exact h4.elim
  | some kk =>
    rw [hk] at h4
    refine ⟨h2, ks, kk, rfl, at_, h4.1, ?_⟩
    rw [List.set_append_right _ _ (by omega), Nat.add_sub_cancel_left]
    exact k d kk q e h4.2
/-- a dict that changes no more -/
theorem zx_iceK (t i : Nat) {p0 : Addr} {ds : List (Key × D)} (hx : x[t]? = some (p0, .dk ds)) (hi : Γ[i]? = some (some (.ref p0))) {f : Cm ρ} (k : ZX X J rest (Γ.set i (some (.dk ds))) (x.eraseIdx t) f) : ZX X J rest Γ x f := fun q e hq => by
  have at_ : (S0 ++ x)[S0.length + t]? = some (p0, Cell.dk ds) := by rw [List.getElem?_append_right (by omega), Nat.add_sub_cancel_left]; exact hx
  refine zs_ice (k := S0.length + t) (j := i) at_ hi .dk ?_
  rw [List.eraseIdx_append_of_length_le (by omega), Nat.add_sub_cancel_left]
  exact k q e hq
/-! ### list(d), k in d -/
def numK : List (Key × D) → Option (List Int)
  | [] => some []
  | (.inl i, _) :: ks => (numK ks).map (i :: ·)
  | _ => none
theorem numK_map {β : Type} (as : List β) (g : β → Int) (f : β → D) : numK (as.map fun a => (.inl (g a), f a)) = some (as.map g) := by
  induction as with
  | nil => rfl
  | cons a as ih => rw [List.map_cons, numK, ih]; rfl
theorem repK_nums {K G} : ∀ {ks : List (Key × D)} {vs : List (Key × V)} {ns : List Int}, RepK K G ks vs → numK ks = some ns → (vs.map fun kv => kV kv.1) = ns.map V.int
  | _, _, ns, .nil, h => by cases h; rfl
  | _, _, ns, .cons (n := n) (ds := ds) _ r, h => by
    cases n with
    | inr s => cases h
    | inl i =>
      have h : (numK ds).map (i :: ·) = some ns := h
      cases h1 : numK ds with
      | none => rw [h1] at h; cases h
      | some l =>
        rw [h1] at h
        cases h
        rw [List.map_cons, List.map_cons, repK_nums r h1]; rfl
def lstKO : D → Option D
  | .dk ks => (numK ks).map fun ns => .lst (ns.map .int)
  | _ => none
theorem zn_listK (ok : X.calm = true) (bn : Bn X.mg) (h : ZN X S0 a Γ x m) (hg : Gl X "list" := by rfl) (hs : s1 X a := by rfl) : ZN X S0 (.Call (.Name "list" p) [a] [] pos) Γ x (.b1 lstKO m) := zn_ct1 (call_listD ok) (fun d z e => by
  cases d with
  | dk ks =>
    have e : (numK ks).map (fun ns => D.lst (ns.map .int)) = some z := e
    cases hn : numK ks with
    | none => rw [hn] at e; cases e
    | some ns =>
      rw [hn] at e
      cases e
      exact fun F S H vs Q' hc r k => by
        obtain ⟨v, rfl, r9⟩ := rep1 r
        cases r9 with
        | dk h1 rr => exact ⟨_, _, rfl, .inl (hd_sub _ _ h1), fun p hp => k.new hc hp fun G sb e2 => .lst e2 (by rw [repK_nums rr hn]; exact RepL.ints ns)⟩
  | _ => cases e) bn.list boot_list' h hg (hs := hs)
def inKO : D → D → Option Bool
  | u, .dk ks => (dKey u).map fun k => (getD' ks k).isSome
  | _, _ => none
theorem inK_ask {F : List Addr} {S : Store} {H : Hp} {u v : D} {y w : V} {b : Bool} (hc : HC X.K F S H) (h : inKO u v = some b) (ry : Rep X.K (vw F S H) u y) (rw' : Rep X.K (vw F S H) v w) : ∃ a o, w = V.ref a ∧ DGet H a y o ∧ o.isSome = b := by
  cases v with
  | dk ks =>
    have h : (dKey u).map (fun k => (getD' ks k).isSome) = some b := by cases u <;> exact h
    cases hk : dKey u with
    | none => rw [hk] at h; cases h
    | some k =>
      rw [hk] at h
      cases h
      have ey := rep_key ry hk
      cases rw' with
      | dk h1 rr =>
        refine ⟨_, _, rfl, by rw [ey]; exact DGet.k (hd_sub _ _ h1), ?_⟩
        rcases repK_get (k := k) rr with ⟨g1, g2⟩ | ⟨d, v, g1, g2, _⟩
        · show _ = (getD' ks k).isSome; rw [g1, g2]; rfl
        · show _ = (getD' ks k).isSome; rw [g1, g2]; rfl
  | _ => cases u <;> cases h
theorem zn_inK (hr : Room j X.A) (h : ZN X S0 a Γ x ma) (h2 : ZN X S0 b Γ x mb) (hm : behindInMarks .In b = false := by first | rfl | exact nomark _) : ZN X S0 (.Compare a [.In] [b] pos) Γ x (.ofB (.q2 inKO ma mb)) := fun q e hq =>
  ze_of (pe_cmp (pc_din (by have := hr.units; omega) pe_self pe_self) hm) fun F σ H c Q' k => h _ e hq F σ H c _ fun y H1 u S1 t1 c1 r1 ⟨e1, h3⟩ => by
    subst e1
    refine h2 _ e h3 F σ H1 (c.step t1 c1) _ fun w H2 v S2 t2 c2 r2 ⟨e2, h4⟩ => ?_
    subst e2
    have h5 : (Cm.opt (inKO u v)) (fun t => q (.bl t)) e := h4
    cases hb : inKO u v with
    | none => rw [hb] at h5; exact h5.elim
    | some t =>
      rw [hb] at h5
      obtain ⟨ad, o, e3, g, e4⟩ := inK_ask c2 hb (r1.mono t2.ext) r2
      refine ⟨ad, o, e3, g, ?_⟩
      rw [e4]
      exact k _ _ _ _ (t1.trans t2) c2 .bl ⟨rfl, h5⟩
theorem zq_inK (hr : Room j X.A) (h : ZN X S0 a Γ x ma) (h2 : ZN X S0 b Γ x mb) (hm : behindInMarks .In b = false := by first | rfl | exact nomark _) (he : ∀ whole, isTrue (.Compare a [.In] [b] pos) X.env whole = (do let v ← whole; standAt pos; holding [v] (truthy v)) := by intro _; rfl) : ZQ X S0 (.Compare a [.In] [b] pos) Γ x (.q2 inKO ma mb) := zq_ofB (zn_inK hr h h2 hm) he
/-- a chain of comparisons as a test -/
theorem zq_chainT {op op' : CmpOp} {f g : D → D → Option Bool} (ho : Cp2 X op f) (ho' : Cp2 X op' g) (ha : ZN X S0 a Γ x ma) (hb : ZN X S0 b Γ x mb) (hc : ZN X S0 c Γ x mc) (h2 : lastMarks [op, op'] [b, c] = false := by rfl) : ZQ X S0 (.Compare a [op, op'] [b, c] pos) Γ x (.q3 f g ma mb mc) := fun q e h => by
  obtain ⟨r, h1, h3⟩ := ho
  obtain ⟨r', h1', h3'⟩ := ho'
  refine zt_of (pt_chain h1 h1' pe_self pe_self pe_self h2) fun F σ H co Q' k => ?_
  refine ha _ e h F σ H co _ fun v H1 x1 S1 t1 c1 r1 ⟨e1, q1⟩ => ?_
  subst e1
  refine hb _ e q1 F σ H1 (co.step t1 c1) _ fun u H2 y1 S2 t2 c2 r2 ⟨e2, q2⟩ => ?_
  subst e2
  have q2 : ((Cm.opt (f x1 y1)).bind fun t => bif t then mc.bind fun z => Cm.opt (g y1 z) else Cm.ok false) q e := q2
  cases hf : f x1 y1 with
  | none => rw [hf] at q2; exact q2.elim
  | some t =>
    rw [hf] at q2
    refine h3 _ _ t hf F _ H2 v u _ c2 (r1.mono t2.ext) r2 fun w H3 t3 c3 r3 => ?_
    cases r3
    refine ⟨t, rfl, ?_⟩
    cases t with
    | false => exact ⟨false, rfl, k _ _ _ ((t1.trans t2).trans t3) c3 ⟨rfl, q2⟩⟩
    | true =>
      rw [if_pos rfl]
      refine hc _ e q2 F σ H3 (((co.step t1 c1).step t2 c2).step t3 c3) _ fun z' H4 z1 S4 t4 c4 r4 ⟨e4, q4⟩ => ?_
      subst e4
      have q4 : (Cm.opt (g y1 z1)) q e := q4
      cases hg : g y1 z1 with
      | none => rw [hg] at q4; exact q4.elim
      | some t' =>
        rw [hg] at q4
        refine h3' _ _ t' hg F _ H4 u z' _ c4 ((r2.mono t3.ext).mono t4.ext) r4 fun w H5 t5 c5 r5 => ?_
        cases r5
        exact ⟨t', rfl, k _ _ _ ((((t1.trans t2).trans t3).trans t4).trans t5) c5 ⟨rfl, q4⟩⟩
end
/-! ### enumerate of a tuple -/
def IteT (K : PySem.W.Frag) (a : Addr) : It :=
  ⟨fun i H => ∃ (xs : List V) (x : V), SqT K H a xs ∧ xs[i]? = some x, fun i H v H' => ∃ T x, v = .ref T ∧ H T = none ∧ H' = upd H T (.tup [.int (i : Nat), x]) ∧ ∀ xs, SqT K H a xs → xs[i]? = some x, fun i H => ∃ xs : List V, SqT K H a xs ∧ xs.length ≤ i⟩
end Fz
end

section
/-! enumerate of a tuple -/
namespace PySem
open Sem (wp)
open AutoSeq1 (wpAny_loadPart')
theorem fz_enumT (l : Addr) (items : Array Value) (n : Nat) (dct : Option Addr) (sl : Array (Option Value)) :
    Meets (Builtin.«enumerate.__new__» ⟨[.type "enumerate", .ref l], []⟩) (fun _ R s => s.heap.get? l = some { cls := .type "tuple", dict := dct, data := .seq items n, slots := sl } ∧
      R (.ok (.ret (.ref (s.heap.push { cls := .type "tuple_iterator", data := .fields #[.ref l, .int 0 0] }).objs.size)))
        { s with heap := (s.heap.push { cls := .type "tuple_iterator", data := .fields #[.ref l, .int 0 0] }).push { cls := .type "enumerate", data := .fields #[.none, .bool false, .ref s.heap.objs.size, rawInt 0, .none, .none] } }) :=
  .of_wp fun prog w A R s h => by
    obtain ⟨hp, g, d, tk, os⟩ := s; obtain ⟨hl, h⟩ := h
    have hsub := sub_enumerate
    have hL : Heap.IsTuple (Shared.heap ⟨hp, g, d, tk, os⟩) l items := ⟨_, hl, rfl, n, rfl⟩
    wp_walk using wpAny_loadPart' hl
    refine wpAny_stack_any fun st => wpAny_pure ?_
    split
    · rename_i c _ _ _ _ _
      cases (c == Value.type "enumerate")
      · wp_walk using wpAny_loadPart' hl, wpAny_pyIter_tuple hL
        exact ⟨_, rfl, h⟩
      · wp_walk using wpAny_loadPart' hl, wpAny_pyIter_tuple hL
        exact ⟨_, rfl, h⟩
    · wp_walk using wpAny_loadPart' hl, wpAny_pyIter_tuple hL
      exact ⟨_, rfl, h⟩
section
variable {prog : Program} {w : World} {A : Around} {E : Value → Shared → Prop} {s : Shared}
theorem fz_call_enumT {l : Addr} {items : Array Value} {Q : Value → Shared → Prop} (hL : s.heap.IsTuple l items)
    (h : ∀ h', IsEnum h' (s.heap.objs.size + 1) s.heap.objs.size 0 .none → h'.IsTupleIter s.heap.objs.size l 0 → h'.objs.size = s.heap.objs.size + 2 →
      (∀ b o, s.heap.get? b = some o → h'.get? b = some o) → Q (.ref (s.heap.objs.size + 1)) { s with heap := h' }) :
    wpAny (model prog w) A (call (.type "enumerate") [.ref l]) Q E s := by
  obtain ⟨⟨c, dct, dt, sl⟩, hl, hc, n, hd⟩ := hL
  replace hc : c = .type "tuple" := hc
  replace hd : dt = .seq items n := hd
  subst hc hd
  refine callType_new F.called_enumerate (by decide) (F.typeCall_enumerate_1 _) (F.newCall_enumerate_1 _) (fun obj => F.args_object_init_2 obj _) F.entry_enumerate_new
    (fz_enumT l items n dct sl) ⟨hl, ?_⟩
  have hz : (s.heap.push { cls := .type "tuple_iterator", data := .fields #[.ref l, .int 0 0] }).objs.size = s.heap.objs.size + 1 := Heap.size_push ..
  show _ ∧ _
  rw [hz]
  have he : IsEnum ((s.heap.push { cls := .type "tuple_iterator", data := .fields #[.ref l, .int 0 0] }).push
      { cls := .type "enumerate", data := .fields #[.none, .bool false, .ref s.heap.objs.size, rawInt 0, .none, .none] }) (s.heap.objs.size + 1) s.heap.objs.size 0 .none := by
    have := Heap.get?_push_size (s.heap.push { cls := .type "tuple_iterator", data := .fields #[.ref l, .int 0 0] })
      (o := { cls := .type "enumerate", data := .fields #[.none, .bool false, .ref s.heap.objs.size, rawInt 0, .none, .none] }) rfl
    rw [hz] at this; exact this
  refine ⟨⟨_, he, rfl⟩, h _ he ⟨_, Heap.get?_push_of_some _ (Heap.get?_push_size _ rfl), rfl, rfl⟩ (by rw [Heap.size_push, hz]) fun b o x => Heap.get?_push_of_some _ (Heap.get?_push_of_some _ x)⟩
end
end PySem
namespace Fz
open PySem PySem.Spec PyProof.Rows L2 PySem.W
theorem turn_enumT {P : Program} {w : World} {K : PySem.W.Frag} {elts : List Expr} {kk : Nat} {tpos : Pos} (a e it : Addr) :
    Turn P w K (.Tuple elts kk tpos) (IteT K a) [e, it] e (fun i h => (∃ old, IsEnum h e it ((i : Nat) : Int) old) ∧ h.IsTupleIter it a i ∧ e ≠ it) where
  mem := by simp
  obj := fun i h st b hb => by
    obtain ⟨⟨old, he⟩, ⟨o, ho, hc, hd⟩, _⟩ := st
    have e' : b = e ∨ b = it := by simpa using hb
    rcases e' with z | z
    · rw [z]; exact ⟨_, he, fun v q => nomatch q⟩
    · rw [z]; exact ⟨o, ho, fun v q => by rw [hd] at q; cases q⟩
  keep := fun i h h' st k => let ⟨⟨old, he⟩, hi, hne⟩ := st; ⟨⟨old, k e (by simp) _ he⟩, hi.at fun o q => k it (by simp) o q, hne⟩
  item := by
    intro X hP hw hK hc i pins s σ H E I hf st hg
    subst hP hw hK
    obtain ⟨⟨old, he⟩, hit, hne⟩ := st
    obtain ⟨xs, x, hq, hx⟩ := hg
    obtain ⟨its, rv, p, hz⟩ := I.tuple hq
    obtain ⟨u, hu, ru⟩ := rv.get hx
    have hel : e < s.heap.objs.size := Heap.lt_size he
    have hil : it < s.heap.objs.size := by obtain ⟨_, q, _⟩ := hit; exact Heap.lt_size q
    have hai : a ≠ it := fun z => by
      obtain ⟨o, ho, hc2, _⟩ := hit
      obtain ⟨o', ho', hc', _⟩ := p
      rw [z, ho] at ho'
      cases ho'
      rw [hc2] at hc'
      have hc3 : Value.type "tuple_iterator" = .type "tuple" := hc'
      injection hc3 with e3
      exact absurd e3 (by decide)
    have hea : e ≠ a := fun z => by
      obtain ⟨o', ho', hc', _⟩ := p
      rw [← z] at ho'
      have he2 : s.heap.get? e = some _ := he
      rw [he2] at ho'
      cases ho'
      have hc3 : Value.type "enumerate" = .type "tuple" := hc'
      injection hc3 with e3
      exact absurd e3 (by decide)
    have hui : its.toArray[i]? = some u := by simpa using hu
    have hlt : i < its.toArray.size := (Array.getElem?_eq_some_iff.mp hui).1
    refine wpAny_pyNext_enum_itemD (Draws.tuple (prog := X.prog) (w := X.w) (A := X.A.in1) (I.ok.hd hc) it a hai its.toArray) he ⟨hit, p⟩ hlt hne (by simp [hne, hea]) fun x' h' tk hP ho hst hT hsz hk => ?_
    have ex : x' = u := Option.some.inj (hP.symm.trans hui)
    subst ex
    refine ⟨_, rfl, wpAny_letOwnedTupleGo_enum (s := { s with heap := h', toks := tk + 1 }) ho fun h'' he' sb => ?_⟩
    have hT2 : h''.get? s.heap.objs.size = some { cls := .type "tuple", data := .seq #[.int i tk, x'] } := (sb.2 _ (Nat.ne_of_gt hel)).trans hT
    have new : ObjOk X.prog X.w (upd H s.heap.objs.size (.tup [.int (i : Nat), x])) h'' s.heap.objs.size (.tup [.int (i : Nat), x]) :=
      ⟨by show 2 ≤ sizeLine; decide, [.int i tk, x'], .cons ⟨_, rfl⟩ (.cons ru .nil), ⟨_, hT2, rfl, _, rfl⟩⟩
    have I1 : Inv X pins σ (upd H s.heap.objs.size (.tup [.int (i : Nat), x])) { s with heap := h'', toks := tk + 1 } :=
      I.turnedNew (ch := [e, it]) (fun b ob hb q => (sb.2 b (fun z => hb (by simp [z]))).trans (hk b ob (fun z => hb (by simp [z])) (fun z => hb (by simp [z])) q)) hf (Nat.le_refl _) new
    refine ⟨.ref s.heap.objs.size, _, I1, rfl, ⟨_, x, rfl, I.hok.fresh (Nat.le_refl _), rfl, fun ys hy => by rw [I.tuple_inj hy hq]; exact hx⟩, ⟨⟨x', ?_⟩, hst.1.at fun o q => (sb.2 it (Ne.symm hne)).trans q, hne⟩, fun b hb => ?_⟩
    · have e1 : ((i + 1 : Nat) : Int) = (i : Int) + 1 := by omega
      rw [e1]; exact he'
    · have hb' : b < s.heap.objs.size := by
        have e' : b = e ∨ b = it := by simpa using hb
        rcases e' with z | z
        · rw [z]; exact hel
        · rw [z]; exact hil
      rw [upd_ne (Nat.ne_of_lt hb')]
      exact (hf b hb).1
  done := by
    intro X hP hw hK hc i pins s σ H E I hf st hg
    subst hP hw hK
    obtain ⟨⟨old, he⟩, hit, hne⟩ := st
    obtain ⟨xs, hq, hx⟩ := hg
    obtain ⟨its, rv, p, hz⟩ := I.tuple hq
    obtain ⟨f0, f1, f2, f3, f4, f5⟩ := hf it (by simp)
    have hl := rv.length
    have hai : a ≠ it := fun z => by
      obtain ⟨o, ho, hc2, _⟩ := hit
      obtain ⟨o', ho', hc', _⟩ := p
      rw [z, ho] at ho'
      cases ho'
      rw [hc2] at hc'
      have hc3 : Value.type "tuple_iterator" = .type "tuple" := hc'
      injection hc3 with e3
      exact absurd e3 (by decide)
    have hn : its.toArray.size ≤ i := by rw [List.size_toArray]; omega
    have hT : s.TypeIs (.ref e) "enumerate" := ⟨_, he, rfl⟩
    unfold pyNext
    refine wpAny_bind (wpAny_attempt (wpAny_callSpecial?_slot (name := Str.ofString "__next__") hT F.slot_enumerate_next
      (wpAny_call_entry F.slot_enumerate_next hT F.entry_enumerate_next ?_ (F.args_enumerate_next_1 _))))
    show wpAny _ _ (field (.ref e) 2 >>= _) _ _ _
    refine wpAny_bind (wpAny_field he rfl (x := .ref it) rfl ?_)
    refine wpAny_bind (wpAny_nextOf_tuple_end (I.ok.hd hc) hit p (by simp; omega) fun h' x he' hx' => ?_)
    obtain ⟨o, ho, hc'⟩ := hx'
    refine wpAny_bind (wpAny_isInstance (T := "StopIteration") (b := true) ⟨o, ho, hc'⟩ isSubtype_stop ?_)
    exact wpAny_pure ⟨rfl, I.turned (t' := s.toks) (fun b o hb q => he' b o hb q) f0 f1 f3 f4 f5⟩
  self := fun A i s Q E st h => let ⟨⟨_, he⟩, _⟩ := st; wpAny_pyIter_enum he h
def iEnumB (K : PySem.W.Frag) (ta : TA) : TI := fun σ H R => ta σ H fun vs H1 => (∃ a xs, vs = [.ref a] ∧ SqL K H1 a xs ∧ R (Ite K a) H1) ∨ ∃ a xs, vs = [.ref a] ∧ SqT K H1 a xs ∧ R (IteT K a) H1
theorem pi_enumB {X : Cx} {e : Expr} {ta : TA} {p pos tpos : Pos} {elts : List Expr} {kk : Nat} (hg : Gl X "enumerate") (hm : X.mg "enumerate" = none) (ha : PA X [e] ta) (hs : starEach [e] X.env = [(false, eval e X.env)] := by rfl) :
    PI X (.Tuple elts kk tpos) (.Call (.Name "enumerate" p) [e] [] pos) (iEnumB X.K ta) := by
  refine ⟨fun pins s σ H R I h => ?_⟩
  refine Call_ (ld_blt I hg hm boot_enumerate (PyProof.Rows.callWith_type1 (thn (ha.run pos pins s σ H _ I h) fun us s1 ⟨vs, H1, I1, r1, q1⟩ => ?_) hs rfl))
  rcases q1 with ⟨a, xs, ex, hq, q⟩ | ⟨a, xs, ex, hq, q⟩
  · subst ex
    cases r1 with
    | cons r rr =>
      cases rr
      cases r
      obtain ⟨its, rv, p', hz⟩ := I1.list hq
      refine call_enumerate_list p'.isList fun h' he hit hsz hk => wpAny_pyIter_enum he ?_
      have I2 : Inv X pins σ H1 { s1 with heap := h' } := I1.kept (t' := s1.toks) hk
      refine ⟨s1.heap.objs.size + 1, [s1.heap.objs.size + 1, s1.heap.objs.size], _, _, H1, rfl, I2, turn_enum a (s1.heap.objs.size + 1) s1.heap.objs.size, ⟨⟨.none, he⟩, hit, Nat.succ_ne_self _⟩, fun b hb => ?_, q⟩
      have e' : b = s1.heap.objs.size + 1 ∨ b = s1.heap.objs.size := by simpa using hb
      have hle : s1.heap.objs.size ≤ b := by
        rcases e' with z | z
        · rw [z]; exact Nat.le_add_right _ _
        · rw [z]; exact Nat.le_refl _
      exact I1.fpOk hle (I1.hok.fresh hle)
  · subst ex
    cases r1 with
    | cons r rr =>
      cases rr
      cases r
      obtain ⟨its, rv, p', hz⟩ := I1.tuple hq
      refine fz_call_enumT p' fun h' he hit hsz hk => wpAny_pyIter_enum he ?_
      have I2 : Inv X pins σ H1 { s1 with heap := h' } := I1.kept (t' := s1.toks) hk
      refine ⟨s1.heap.objs.size + 1, [s1.heap.objs.size + 1, s1.heap.objs.size], _, _, H1, rfl, I2, turn_enumT a (s1.heap.objs.size + 1) s1.heap.objs.size, ⟨⟨.none, he⟩, hit, Nat.succ_ne_self _⟩, fun b hb => ?_, q⟩
      have e' : b = s1.heap.objs.size + 1 ∨ b = s1.heap.objs.size := by simpa using hb
      have hle : s1.heap.objs.size ≤ b := by
        rcases e' with z | z
        · rw [z]; exact Nat.le_add_right _ _
        · rw [z]; exact Nat.le_refl _
      exact I1.fpOk hle (I1.hok.fresh hle)
theorem walk_enumT {K G a xs ds} (h : SqT K G a xs) (r : RepL K G ds xs) : WalkA K G (IteT K a) (enumD ds) := fun F' S' H' s hc i => by
  have h' : SqT K H' a xs := st_H (s.st h)
  refine ⟨fun d e => ?_, fun l => ⟨xs, h', by rw [← r.length]; unfold enumD at l; simpa using l⟩⟩
  obtain ⟨y, hy, rfl⟩ := enum_get e
  obtain ⟨v, ev, rv⟩ := r.get hy
  refine ⟨⟨xs, v, h', ev⟩, fun x H2 ⟨T, x', e1, e2, e3, e4⟩ => ?_⟩
  subst e1 e3
  have e5 := e4 xs h'
  rw [ev] at e5
  cases e5
  obtain ⟨n1, n2, n3⟩ := hc.new (o := .tup [.int (i : Nat), v]) e2
  exact ⟨n2, n1, .tup (SqT.of n3) (.cons .int (.cons ((rv.mono s).mono n2.ext) .nil))⟩
namespace Cm
def enmB : D → Option (List D)
  | .lst ds => some (enumD ds)
  | .tup ds => some (enumD ds)
  | _ => none
def enb (m : Cm D) : Cm (List D) := m.bind fun d => opt (enmB d)
theorem enb_tup (ds : List D) : enb (ok (.tup ds)) = ok (enumD ds) := ext fun _ _ => Iff.rfl
theorem enb_lst (ds : List D) : enb (ok (.lst ds)) = ok (enumD ds) := ext fun _ _ => Iff.rfl
end Cm
section
variable {X : Cx} {S0 x : Store} {Γ : Gam} {a b c : Expr} {elts : List Expr} {kk : Nat} {pos p tpos : Pos} {m : Cm D}
theorem zni_enumB (bn : Bn X.mg) (h : ZN X S0 a Γ x m) (hg : Gl X "enumerate" := by rfl) (hs : starEach [a] X.env = [(false, eval a X.env)] := by rfl) : ZNI X S0 (.Tuple elts kk tpos) (.Call (.Name "enumerate" p) [a] [] pos) Γ x (.enb m) := fun q e hq F σ H co R' kq =>
  selfI_of (pi_enumB hg bn.enumerate pa_self hs) (za_cons (Q := fun zs S' => ∃ d, zs = [d] ∧ S' = S0 ++ x ∧ (Cm.opt (Cm.enmB d)) q e) ((h _ e hq).mono fun d S' ⟨e2, q2⟩ => za_nil ⟨d, rfl, e2, q2⟩) (by rw [hs]; rfl) F σ H co _ fun vs H1 zs S1 t hc r ⟨d, ed, e2, q2⟩ => by
    subst ed e2
    obtain ⟨v, rfl, r9⟩ := rep1 r
    cases d with
    | lst ds =>
      cases r9 with
      | @lst _ pa xs hl rr => exact .inl ⟨pa, xs, rfl, SqL.of (hd_sub _ _ hl), kq _ _ _ _ t hc (walk_enum (SqL.of hl) rr) ⟨rfl, q2⟩⟩
    | tup ds =>
      cases r9 with
      | @tup _ pa xs hl rr => exact .inr ⟨pa, xs, rfl, st_H hl, kq _ _ _ _ t hc (walk_enumT hl rr) ⟨rfl, q2⟩⟩
    | _ => exact q2.elim)
end
end Fz
end

section
/-! five and six keywords -/
namespace Fz
open PySem PySem.Spec PyProof.Rows L2 PySem.W
section
variable {X : Cx} {S0 x : Store} {Γ : Gam} {kws : List Keyword} {g : Str} {k j : Nat} {pos p : Pos} {ma mb mc md me mf : Cm D}
theorem zn_k05 {mm : List D → Cm D} {G : List D → List D → List D} {f : D → D → D → D → D → Cm D} {k1 k2 k3 k4 k5 : Str} (C : AC X.prog X.w X.K X.mg X.base k g 0 [k1, k2, k3, k4, k5] (fun ds es => aspC mm (G ds es))) (hr : Room j X.A) (hk : k ≤ j) (h : ZNK X S0 kws Γ x (.cons ma (.cons mb (.cons mc (.cons md (.cons me .nil)))))) (hF : ∀ u v w t s, mm (G [] [u, v, w, t, s]) = f u v w t s := by intros; rfl) (hg : Gl X g := by rfl) (hdb : dbgOk g := by decide)
    (hall : (backToKw pos (keywordEach kws X.env)).all (·.1.isSome) = true := by rfl) (hks : (backToKw pos (keywordEach kws X.env)).filterMap (·.1) = [k1, k2, k3, k4, k5] := by rfl)
    (hpl : ((backTo pos (starEach [] X.env)).any (·.1) || (backToKw pos (keywordEach kws X.env)).any (·.1.isNone)) = false := by rfl) : ZN X S0 (.Call (.Name g p) [] kws pos) Γ x (.c5 f ma mb mc md me) := fun q e hq => by
  have z := zn_callK0 (S0 := S0) (Γ := Γ) (x := x) (p := p) C hr hk h hg hdb hall hks hpl q e
  refine z ?_
  show ma (fun u => mb (fun v => mc (fun w => md (fun t => me (fun s => _ ∧ (mm (G [] [u, v, w, t, s])) q e) e) e) e) e) e
  have e1 : (fun u => mb (fun v => mc (fun w => md (fun t => me (fun s => [u, v, w, t, s].length = [k1, k2, k3, k4, k5].length ∧ (mm (G [] [u, v, w, t, s])) q e) e) e) e) e) = fun u => mb (fun v => mc (fun w => md (fun t => me (fun s => (f u v w t s) q e) e) e) e) e := funext fun u => congrArg (fun z => mb z e) (funext fun v => congrArg (fun z => mc z e) (funext fun w => congrArg (fun z => md z e) (funext fun t => congrArg (fun z => me z e) (funext fun s => propext ⟨fun z => by rw [← hF]; exact z.2, fun z => ⟨rfl, by rw [hF]; exact z⟩⟩))))
  rw [e1]
  exact hq
theorem zn_k06 {mm : List D → Cm D} {G : List D → List D → List D} {f : D → D → D → D → D → D → Cm D} {k1 k2 k3 k4 k5 k6 : Str} (C : AC X.prog X.w X.K X.mg X.base k g 0 [k1, k2, k3, k4, k5, k6] (fun ds es => aspC mm (G ds es))) (hr : Room j X.A) (hk : k ≤ j) (h : ZNK X S0 kws Γ x (.cons ma (.cons mb (.cons mc (.cons md (.cons me (.cons mf .nil))))))) (hF : ∀ u v w t s r, mm (G [] [u, v, w, t, s, r]) = f u v w t s r := by intros; rfl) (hg : Gl X g := by rfl) (hdb : dbgOk g := by decide)
    (hall : (backToKw pos (keywordEach kws X.env)).all (·.1.isSome) = true := by rfl) (hks : (backToKw pos (keywordEach kws X.env)).filterMap (·.1) = [k1, k2, k3, k4, k5, k6] := by rfl)
    (hpl : ((backTo pos (starEach [] X.env)).any (·.1) || (backToKw pos (keywordEach kws X.env)).any (·.1.isNone)) = false := by rfl) : ZN X S0 (.Call (.Name g p) [] kws pos) Γ x (.c6 f ma mb mc md me mf) := fun q e hq => by
  have z := zn_callK0 (S0 := S0) (Γ := Γ) (x := x) (p := p) C hr hk h hg hdb hall hks hpl q e
  refine z ?_
  show ma (fun u => mb (fun v => mc (fun w => md (fun t => me (fun s => mf (fun r => _ ∧ (mm (G [] [u, v, w, t, s, r])) q e) e) e) e) e) e) e
  have e1 : (fun u => mb (fun v => mc (fun w => md (fun t => me (fun s => mf (fun r => [u, v, w, t, s, r].length = [k1, k2, k3, k4, k5, k6].length ∧ (mm (G [] [u, v, w, t, s, r])) q e) e) e) e) e) e) = fun u => mb (fun v => mc (fun w => md (fun t => me (fun s => mf (fun r => (f u v w t s r) q e) e) e) e) e) e := funext fun u => congrArg (fun z => mb z e) (funext fun v => congrArg (fun z => mc z e) (funext fun w => congrArg (fun z => md z e) (funext fun t => congrArg (fun z => me z e) (funext fun s => congrArg (fun z => mf z e) (funext fun r => propext ⟨fun z => by rw [← hF]; exact z.2, fun z => ⟨rfl, by rw [hF]; exact z⟩⟩)))))
  rw [e1]
  exact hq
end
end Fz
end

section
/-! dict comprehensions, keys numbers or texts -/
namespace Fz
open PySem PySem.Spec PyProof.Rows L2 PySem.W
/-- the dict that a comprehension makes stands hidden at D -/
structure BK (K : PySem.W.Frag) (F : List Addr) (S1 : Store) (H1 : Hp) (D : Addr) (acc : List (Key × Fz.D)) (S' : Store) (H' : Hp) : Prop where
  sb : Sub (vw F S1 H1) (vw (D :: F) S' H')
  fr : ∀ a ∈ F, H' a = H1 a
  hc : HC K (D :: F) S' H'
  at_ : ∃ vs, H' D = some (.dK vs) ∧ RepK K (vw (D :: F) S' H') acc vs
theorem BK.start {K F S1 H1 D} (hc1 : HC K F S1 H1) (hD : H1 D = none) : BK K F S1 H1 D [] S1 (upd H1 D (.dK [])) := by
  have nD := hc1.fresh hD
  obtain ⟨n1, n2, n3⟩ := hc1.new (o := .dK []) hD
  have ne : ∀ a o, vw F S1 H1 a = some o → a ≠ D := fun a o e z => by
    subst z
    have := hd_sub a o e
    rw [hD] at this; cases this
  have sb : Sub (vw F S1 H1) (vw (D :: F) S1 (upd H1 D (.dK []))) := fun a o e => by
    have : vw (D :: F) S1 (upd H1 D (.dK [])) a = vw F S1 (upd H1 D (.dK [])) a := hd_cons (ne a o e)
    rw [this]
    exact n2.ext a o e
  refine ⟨sb, fun a ha => upd_ne (ne_mem ha fun z => nD (List.mem_append_left _ z)), ⟨List.nodup_cons.mpr ⟨nD, hc1.nd⟩, fun a ha => ?_, fun p ce hp => ?_⟩, ⟨[], upd_same, .nil⟩⟩
  · rcases List.mem_cons.mp ha with z | z
    · rw [z, upd_same]; exact fun z => nomatch z
    · exact n1.fr a z
  · have np : p ≠ D := fun z => nD (by rw [← z]; exact List.mem_append_right _ (List.mem_map.mpr ⟨_, hp, rfl⟩))
    rw [upd_ne np]
    exact (hc1.at_ p ce hp).mono sb
theorem repK_mono {K : PySem.W.Frag} {G G' : Hp} (h : Sub G G') : ∀ {ks : List (Key × D)} {vs : List (Key × V)}, RepK K G ks vs → RepK K G' ks vs
  | _, _, .nil => .nil
  | _, _, .cons q r => .cons (q.mono h) (repK_mono h r)
theorem BK.step {K F S1 H1 D acc S' H' S2 H2} (b : BK K F S1 H1 D acc S' H') (t : Stp (D :: F) S' H' S2 H2) (h : HC K (D :: F) S2 H2) : BK K F S1 H1 D acc S2 H2 := by
  obtain ⟨vs, e, r⟩ := b.at_
  exact ⟨fun a o e => t.ext a o (b.sb a o e), fun a ha => (t.frm a (List.mem_cons_of_mem _ ha)).trans (b.fr a ha), h, vs, (t.frm D (List.mem_cons_self ..)).trans e, repK_mono t.ext r⟩
theorem BK.put {K F S1 H1 D acc S4 H4 y dy} (k : Key) (b : BK K F S1 H1 D acc S4 H4) (ry : Rep K (vw (D :: F) S4 H4) dy y) : ∃ vs, H4 D = some (.dK vs) ∧ vs.length = acc.length ∧ BK K F S1 H1 D (putD acc k dy) S4 (upd H4 D (.dK (putK vs k y))) := by
  obtain ⟨vs, e4, ra4⟩ := b.at_
  have hc4 := b.hc
  have n4 : D ∉ F ++ keys S4 := (List.nodup_cons.mp hc4.nd).1
  have eq : vw (D :: F) S4 (upd H4 D (.dK (putK vs k y))) = vw (D :: F) S4 H4 := funext fun a => by
    by_cases m : a ∈ (D :: F) ++ keys S4
    · rw [vw, hd_in m, vw, hd_in m]
    · rw [vw, hd_out m, vw, hd_out m, upd_ne fun z => m (by rw [z]; exact List.mem_cons_self ..)]
  refine ⟨vs, e4, (repK_len ra4).symm, by rw [eq]; exact b.sb, fun a ha => ?_, ⟨hc4.nd, fun a ha => ?_, fun p ce hp => ?_⟩, putK vs k y, upd_same, by rw [eq]; exact repK_put ry ra4⟩
  · rw [upd_ne (ne_mem ha fun z => n4 (List.mem_append_left _ z))]
    exact b.fr a ha
  · rcases List.mem_cons.mp ha with z | z
    · rw [z, upd_same]; exact fun z => nomatch z
    · rw [upd_ne (ne_mem z fun z => n4 (List.mem_append_left _ z))]; exact hc4.fr a ha
  · rw [eq, upd_ne (ne_mem (List.mem_append_right _ (List.mem_map.mpr ⟨_, hp, rfl⟩)) n4)]
    exact hc4.at_ p ce hp
theorem BK.done {K F S1 H1 D acc S' H'} (b : BK K F S1 H1 D acc S' H') : Stp F S1 H1 S' H' ∧ HC K F S' H' ∧ Rep K (vw F S' H') (.dk acc) (.ref D) := by
  obtain ⟨vs, e, r⟩ := b.at_
  have sub : Sub (vw (D :: F) S' H') (vw F S' H') := hd_less fun a ha => List.mem_cons_of_mem _ ha
  have n4 : D ∉ F ++ keys S' := (List.nodup_cons.mp b.hc.nd).1
  refine ⟨⟨fun a o e => sub a o (b.sb a o e), b.fr⟩, ⟨(List.nodup_cons.mp b.hc.nd).2, fun a ha => b.hc.fr a (List.mem_cons_of_mem _ ha), fun p ce hp => (b.hc.at_ p ce hp).mono sub⟩, .dk ?_ (repK_mono sub r)⟩
  rw [vw, hd_out n4]; exact e
section
variable {X : Cx} {Ex : AX} {Γ : Gam} {S S0 x : Store} {Q : DQ} {kx vx iter tg : Expr} {pos p1 : Pos} {scope : Scope} {own : List (Str × Nat)} {rel : D → Gam → Gam → Prop} {mi : Cm (List D)}
def DcAsk (X : Cx) (scope : Scope) (kx vx : Expr) (Γ : Gam) (vs : List Nat) (rel : D → Gam → Gam → Prop) (Q : DQ) : LQ := fun items S1 => ∃ I : Nat → List (Key × D) → Store → Prop, I 0 [] S1 ∧
  (∀ (i : Nat) d acc S', items[i]? = some d → I i acc S' → ∃ Γ2, rel d (wipeG Γ vs) Γ2 ∧ InB X scope fun Y => ZE Y AX0 kx Γ2 S' fun yd S3 => ∃ kk, dKey yd = some kk ∧ InB X scope fun Y => ZE Y AX0 vx Γ2 S3 fun vd S4 => acc.length < sizeLine ∧ I (i + 1) (putD acc kk vd) S4) ∧ ∀ acc S', I items.length acc S' → Q (.dk acc) S'
theorem dc_read (ct : CTg X scope tg (own.map (·.2)) rel) (h : ZI X Ex tg iter Γ S (DcAsk X scope kx vx Γ (own.map (·.2)) rel Q)) : ∃ g : TG, (∀ s H C cl fp, PG (Bk X scope s H C cl fp) tg g) ∧
    ∀ F σ H, Con X Ex F Γ S σ H → ∀ Q', QR X.K F S H Q Q' → tDc (tSelfI X tg iter) g (ttB X scope []) (teB X scope kx) (teB X scope vx) (own.map (·.2)) σ H Q' := by
  obtain ⟨g, hg, gk⟩ := ct.ex
  refine ⟨g, hg, fun F σ H c Q' k => ?_⟩
  refine h F σ H c _ fun J H1 S1 items t1 hc1 wk ⟨I, i0, turn, done⟩ D hD => ?_
  refine ⟨fun i m H' => ∃ acc S', m = items.length - i ∧ i ≤ items.length ∧ BK X.K F S1 H1 D acc S' H' ∧ I i acc S', ⟨_, [], S1, rfl, Nat.zero_le _, .start hc1 hD, i0⟩, ?_⟩
  rintro i m H' ⟨acc, S', rfl, hi, b, inv⟩
  by_cases hlt : i < items.length
  · refine .inr ⟨((wk (D :: F) S' H' b.sb b.hc i).1 items[i] (by simp [hlt])).1, fun H2 => ∃ acc S2, BK X.K F S1 H1 D acc S2 H2 ∧ I (i + 1) acc S2,
      fun H2 ⟨acc, S2, a1, a2⟩ => ⟨items.length - (i + 1), by omega, acc, S2, rfl, hlt, a1, a2⟩, fun x H2 hy => ?_⟩
    obtain ⟨t2, hc2, rx⟩ := ((wk (D :: F) S' H' b.sb b.hc i).1 items[i] (by simp [hlt])).2 x H2 hy
    obtain ⟨Γ2, hrel, body⟩ := turn i items[i] acc S' (by simp [hlt]) inv
    have b2 := b.step t2 hc2
    refine gk σ H2 x _ _ Γ2 _ hd_sub (((c.rg.mono t1.ext).mono b2.sb).wipeG _) rx hrel _ fun σ2 rg2 hw => ⟨hw, fun s H0 C cl fp => ⟨tYes, pts_nil, ?_⟩⟩
    dsimp only [tYes]
    rw [if_pos rfl]
    intro s4 H04 C4 cl4 fp4
    refine body s4 H04 C4 cl4 fp4 (D :: F) σ2 H2 ⟨c.ok.blk, hc2, rg2, .none⟩ _ fun y H4 dy S4 t4 hc4 ry ⟨kk, ek, q4⟩ => ?_
    intro s5 H05 C5 cl5 fp5
    have b4 := b2.step t4 hc4
    refine q4 s5 H05 C5 cl5 fp5 (D :: F) σ2 H4 ⟨c.ok.blk, hc4, rg2.mono t4.ext, .none⟩ _ fun z H5 dz S5 t5 hc5 rz ⟨hz, q5⟩ => ?_
    obtain ⟨vs, e, l, b5⟩ := (b4.step t5 hc5).put kk rz
    exact ⟨vs, kk, rep_key ry ek, e, by rw [l]; exact hz, _, S5, b5, q5⟩
  · have e : i = items.length := by omega
    subst e
    obtain ⟨d1, d2, d3⟩ := b.done
    exact .inl ⟨(wk (D :: F) S' H' b.sb b.hc _).2 (Nat.le_refl _), k (.ref D) H' (.dk acc) S' (t1.trans d1) d2 d3 (done _ _ inv)⟩
theorem ze_dc (ok : BlkOk X.N X.env.scope scope own) (ct : CTg X scope tg (own.map (·.2)) rel) (h : ZI X Ex tg iter Γ S (DcAsk X scope kx vx Γ (own.map (·.2)) rel Q))
    (hs : ∀ x, foldedSetIterable iter X.env x = pure x := by intro _; rfl) : ZE X Ex (.DictComp kx vx [⟨tg, iter, [], 0⟩] scope pos) Γ S Q := fun F σ H c Q' k => by
  obtain ⟨g, hg, r⟩ := dc_read ct h
  exact self_of (pe_dc c.ok.calm c.ok.nd pi_self ok hg ttB_ok teB_ok teB_ok hs) (r F σ H c Q' k)
namespace Cm
def dcM (fk fv : D → Cm D) : List D → List (Key × D) → Cm D
  | [], acc => ok (.dk acc)
  | d :: ds, acc => (noer (fk d)).bind fun kd => dky kd fun kk => (noer (fv d)).bind fun v => dcM fk fv ds (putD acc kk v)
def dcomp (mi : Cm (List D)) (fk fv : D → Cm D) : Cm D := mi.bind fun ds => asr (ds.length ≤ 16777216) (dcM fk fv ds [])
end Cm
theorem length_putD {κ α : Type} [DecidableEq κ] (kvs : List (κ × α)) (k : κ) (v : α) : (putD kvs k v).length ≤ kvs.length + 1 := by
  unfold putD
  split
  · rw [List.length_map]; omega
  · rw [List.length_append]; simp
theorem dask_cm {vs : List Nat} {fk fv : D → Cm D} {q : D → Prop} {e : EX} {ds : List D}
    (he : ∀ d, ∃ Γ2, rel d (wipeG Γ vs) Γ2 ∧ (InB X scope fun Y => ZN Y S0 kx Γ2 x (fk d)) ∧ InB X scope fun Y => ZN Y S0 vx Γ2 x (fv d))
    (hl : ds.length ≤ 16777216) (hq : (Cm.dcM fk fv ds []) q e) : DcAsk X scope kx vx Γ vs rel (fun d S' => S' = S0 ++ x ∧ q d) ds (S0 ++ x) := by
  refine ⟨fun i acc S' => S' = S0 ++ x ∧ acc.length ≤ i ∧ (Cm.dcM fk fv (ds.drop i) acc) q e, ⟨rfl, Nat.zero_le _, by simpa using hq⟩, fun i d acc S' hi ⟨e1, hz, h1⟩ => ?_, fun acc S' ⟨e1, hz, h1⟩ => ⟨e1, by
    rw [List.drop_length] at h1
    exact h1⟩⟩
  subst e1
  have il := (List.getElem?_eq_some_iff.mp hi).1
  rw [List.drop_eq_getElem_cons il] at h1
  have hd : ds[i] = d := by
    have := List.getElem?_eq_getElem il
    rw [hi] at this
    exact (Option.some.inj this).symm
  rw [hd] at h1
  obtain ⟨Γ2, hr, hk, hv⟩ := he d
  refine ⟨Γ2, hr, fun s H C cl fp => ?_⟩
  refine ((hk s H C cl fp _ _ h1).ax0).mono fun y S4 ⟨e4, h4⟩ => ?_
  subst e4
  have h4 : (match dKey y with | some kk => (Cm.noer (fv d)).bind fun v => Cm.dcM fk fv (ds.drop (i + 1)) (putD acc kk v) | none => Cm.st) q e := h4
  cases hy : dKey y with
  | none => rw [hy] at h4; exact h4.elim
  | some kk =>
    rw [hy] at h4
    refine ⟨kk, rfl, fun s H C cl fp => ?_⟩
    refine ((hv s H C cl fp _ _ h4).ax0).mono fun y S5 ⟨e5, h5⟩ => ?_
    refine ⟨by rw [sizeLine_eq]; omega, e5, ?_, h5⟩
    have := length_putD acc kk y
    omega
theorem zn_dc (j : Nat) (nd : X.N.Nodup) {fk fv : D → Cm D} {n : Str} (h : ZNI X S0 (.Name n p1) iter Γ x mi) (hk : ∀ d, InB X scope fun Y => ZN Y S0 kx ((wipeG Γ [j]).set j (some d)) x (fk d)) (hv : ∀ d, InB X scope fun Y => ZN Y S0 vx ((wipeG Γ [j]).set j (some d)) x (fv d))
    (hn : X.N[j]? = some n := by rfl) (ok : blkB X.N X.env.scope scope [(n, j)] = true := by kernel_rfl)
    (hx : ∀ s H C cl fp, Loc (Bk X scope s H C cl fp).env.scope n := by intros; exact .inl rfl) (hf : ∀ s H C cl fp, (Bk X scope s H C cl fp).fn n = true ∨ (Bk X scope s H C cl fp).env.scope.names.lookup n = some .local := by intros; exact .inr rfl)
    (hs : ∀ x, foldedSetIterable iter X.env x = pure x := by intro _; rfl) : ZN X S0 (.DictComp kx vx [⟨.Name n p1, iter, [], 0⟩] scope pos) Γ x (.dcomp mi fk fv) := fun q e hq =>
  ze_dc (own := [(n, j)]) (blk_of ok) (ct_name nd (by simp) hn hx hf) ((h _ e hq).mono fun ds S1 ⟨e1, h1, h2⟩ => by
    subst e1
    exact dask_cm (fun d => ⟨_, rfl, hk d, hv d⟩) h1 h2) hs
end
end Fz
end

section
/-! x, found = a, [] where a block within reads a name (stores in their order) -/
namespace Fz
open PySem PySem.Spec PyProof.Rows L2 PySem.W
section
variable {σ ρ : Type} {X : Cx} {S0 x : Store} {J : Jn S0 ρ} {Γ : Gam} {a : Expr} {rest : List Stmt} {pos pt : Pos} {ma : Cm D} {y z : Str}
theorem zx_unpVN0 (i j : Nat) {kt k2 pt2} {px py pb : Pos} (h : ZN X S0 a Γ x ma) {f : D → Cm ρ} (k : ∀ d p, ZX X J rest ((Γ.set i (some d)).set j (some (.ref p))) (x ++ [(p, .lst [])]) (f d)) (nd : X.N.Nodup)
    (hi : X.N[i]? = some y := by rfl) (hj : X.N[j]? = some z := by rfl) (hx : Loc X.env.scope y := by first | exact .inl rfl | exact .inr rfl) (hx2 : Loc X.env.scope z := by first | exact .inl rfl | exact .inr rfl)
    (hf : X.fn y = true ∨ X.env.scope.names.lookup y = some .local := by first | exact .inl rfl | exact .inr rfl) (hf2 : X.fn z = true ∨ X.env.scope.names.lookup z = some .local := by first | exact .inl rfl | exact .inr rfl)
    (e1 : (assignEach (.Name y px :: [.Name z py]) X.env).map (·.2) = assign (.Name y px) X.env :: (assignEach [.Name z py] X.env).map (·.2) := by rfl) (e2 : (assignEach (.Name z py :: []) X.env).map (·.2) = assign (.Name z py) X.env :: (assignEach [] X.env).map (·.2) := by rfl)
    (hn : (assignEach [.Name y px, .Name z py] X.env).length = 2 := by rfl) (hst : (assignEach [.Name y px, .Name z py] X.env).findIdx? (·.1) = none := by rfl)
    (hs : swapsWithSole [.Tuple [.Name y px, .Name z py] kt pt] (.Tuple [a, .List [] pb] k2 pt2) pos.line X.env = pure false := by rfl) (hw : swappedStores [.Tuple [.Name y px, .Name z py] kt pt] (.Tuple [a, .List [] pb] k2 pt2) X.env = pure none := by rfl)
    (h1 : (assignEach [.Tuple [.Name y px, .Name z py] kt pt] X.env).map (·.2) = [assign (.Tuple [.Name y px, .Name z py] kt pt) X.env] := by rfl)
    (s1 : starEach [a, .List [] pb] X.env = (false, eval a X.env) :: starEach [.List [] pb] X.env := by rfl) (s2 : starEach [.List [] pb] X.env = (false, eval (.List [] pb) X.env) :: starEach [] X.env := by rfl) :
    ZX X J (.Assign [.Tuple [.Name y px, .Name z py] kt pt] (.Tuple [a, .List [] pb] k2 pt2) pos :: rest) Γ x (ma.bind f) := fun q e hq =>
  zs_cons (z1_asg (ze_tup (za_cons ((h _ e hq).mono fun d S1 ⟨e3, h3⟩ => by
    subst e3
    refine za_cons (ze_cell (za_nil ⟨small (by decide), fun p => za_nil ⟨small (by show 2 ≤ _; decide), ?_⟩⟩)) s2
    refine zg_tup rfl (zgs_name (i := i) (zgs_name (i := j) (zgs_nil ?_) nd hj hx2 hf2 e2) nd hi hx hf e1) rfl hn hst
    have := k d p q e h3
    rw [← List.append_assoc] at this
    exact this) s1)) hs hw h1)
end
end Fz
end

section
/-! comprehensions of two clauses; a, b, found = u, v, [] -/
namespace Fz
open PySem PySem.Spec PyProof.Rows L2 PySem.W
namespace Cm
def lc2N {α : Type} (f : D → Cm D) (k : List D → Cm α) : List D → List D → Cm α
  | [], acc => k acc
  | e :: es, acc => (noer (f e)).bind fun y => asr (acc.length < 16777216) (lc2N f k es (acc ++ [y]))
def lc2M (fi : D → Cm (List D)) (fc : D → D → Cm D) : List D → List D → Cm D
  | [], acc => ok (.lst acc)
  | d :: ds, acc => (noer (fi d)).bind fun es => lc2N (fc d) (lc2M fi fc ds) es acc
def comp2 (mi : Cm (List D)) (fi : D → Cm (List D)) (fc : D → D → Cm D) : Cm D := mi.bind fun ds => lc2M fi fc ds []
end Cm
section
variable {σ ρ : Type} {X : Cx} {Ex : AX} {S0 x : Store} {J : Jn S0 ρ} {Γ : Gam} {a b iter iter1 tg tg1 elt : Expr} {rest : List Stmt} {pos pt p1 p2 : Pos} {scope : Scope} {own : List (Str × Nat)} {vs1 : List Nat} {rel rel1 : D → Gam → Gam → Prop} {ma mb : Cm D} {mi : Cm (List D)} {y z w : Str}
theorem ZI.ax0 {e tg : Expr} {S : Store} {Q : LQ} (h : ZI X (xOf S0 fun _ _ => False) tg e Γ S Q) : ZI X AX0 tg e Γ S Q := fun F σ H c Q' k => h F σ H ⟨c.ok, c.hc, c.rg, ⟨fun _ _ _ => False, takesN, fun _ _ _ _ _ _ _ _ ⟨_, _, z⟩ => z⟩⟩ Q' k
theorem drop_get {ds : List D} {i : Nat} {d : D} (h : ds[i]? = some d) : ds.drop i = d :: ds.drop (i + 1) := by
  have il := (List.getElem?_eq_some_iff.mp h).1
  rw [List.drop_eq_getElem_cons il]
  have := List.getElem?_eq_getElem il
  rw [h] at this
  rw [(Option.some.inj this).symm]
theorem ask_cm2 {vs : List Nat} {fi : D → Cm (List D)} {fc : D → D → Cm D} {q : D → Prop} {e : EX} {ds : List D}
    (he : ∀ d, ∃ Γ2, rel d (wipeG Γ vs) Γ2 ∧ (InB X scope fun Y => ZNI Y S0 tg1 iter1 Γ2 x (fi d)) ∧ ∀ d1, ∃ Γ3, rel1 d1 (wipeG Γ2 vs1) Γ3 ∧ InB X scope fun Y => ZN Y S0 elt Γ3 x (fc d d1))
    (hq : (Cm.lc2M fi fc ds []) q e) : Lc2Ask X scope [] [] tg1 iter1 elt Γ vs vs1 rel rel1 (fun d S' => S' = S0 ++ x ∧ q d) ds (S0 ++ x) := by
  refine ⟨fun i acc S' => S' = S0 ++ x ∧ (Cm.lc2M fi fc (ds.drop i) acc) q e, ⟨rfl, by simpa using hq⟩, fun i d acc S' hi ⟨e1, h1⟩ => ?_, fun acc S' ⟨e1, h1⟩ => ⟨e1, by
    rw [List.drop_length] at h1
    exact h1⟩⟩
  subst e1
  rw [drop_get hi] at h1
  obtain ⟨Γ2, hr, hi2, hf⟩ := he d
  refine ⟨Γ2, hr, fun s H C cl fp => zf_nil ?_⟩
  rw [if_pos rfl]
  intro s H C cl fp
  refine ((hi2 s H C cl fp _ _ h1).ax0).mono fun es S4 ⟨e4, h4⟩ => ?_
  subst e4
  refine ⟨fun j acc1 S5 => S5 = S0 ++ x ∧ (Cm.lc2N (fc d) (Cm.lc2M fi fc (ds.drop (i + 1))) (es.drop j) acc1) q e, ⟨rfl, by simpa using h4⟩, fun j d1 acc1 S5 hj ⟨e5, h5⟩ => ?_, fun acc1 S5 ⟨e5, h5⟩ => ⟨e5, by
    rw [List.drop_length] at h5
    exact h5⟩⟩
  subst e5
  rw [drop_get hj] at h5
  obtain ⟨Γ3, hr3, hn⟩ := hf d1
  refine ⟨Γ3, hr3, fun s H C cl fp => zf_nil ?_⟩
  rw [if_pos rfl]
  intro s H C cl fp
  exact ((hn s H C cl fp _ _ h5).ax0).mono fun y S6 ⟨e6, h6⟩ => ⟨by rw [sizeLine_eq]; exact h6.1, e6, h6.2⟩
theorem zn_lc2 (i j : Nat) (nd : X.N.Nodup) {fi : D → Cm (List D)} {fc : D → D → Cm D} {n n2 : Str} (h : ZNI X S0 (.Name n p1) iter Γ x mi)
    (h2 : ∀ d, InB X scope fun Y => ZNI Y S0 (.Name n2 p2) iter1 ((wipeG Γ [i, j]).set i (some d)) x (fi d)) (he : ∀ d d1, InB X scope fun Y => ZN Y S0 elt ((wipeG ((wipeG Γ [i, j]).set i (some d)) [j]).set j (some d1)) x (fc d d1))
    (hn : X.N[i]? = some n := by rfl) (hn2 : X.N[j]? = some n2 := by rfl) (ok : blkB X.N X.env.scope scope [(n, i), (n2, j)] = true := by kernel_rfl)
    (hx : ∀ s H C cl fp, Loc (Bk X scope s H C cl fp).env.scope n := by intros; exact .inl rfl) (hf : ∀ s H C cl fp, (Bk X scope s H C cl fp).fn n = true ∨ (Bk X scope s H C cl fp).env.scope.names.lookup n = some .local := by intros; exact .inr rfl)
    (hx2 : ∀ s H C cl fp, Loc (Bk X scope s H C cl fp).env.scope n2 := by intros; exact .inl rfl) (hf2 : ∀ s H C cl fp, (Bk X scope s H C cl fp).fn n2 = true ∨ (Bk X scope s H C cl fp).env.scope.names.lookup n2 = some .local := by intros; exact .inr rfl)
    (hs : ∀ x, foldedSetIterable iter X.env x = pure x := by intro _; rfl) (hs1 : ∀ env x, foldedSetIterable iter1 env x = pure x := by intro _ _; rfl) :
    ZN X S0 (.ListComp elt [⟨.Name n p1, iter, [], 0⟩, ⟨.Name n2 p2, iter1, [], 0⟩] scope pos) Γ x (.comp2 mi fi fc) := fun q e hq =>
  ze_lc2 (own := [(n, i), (n2, j)]) (vs1 := [j]) (blk_of ok) (by simp) (ct_name nd (by simp) hn hx hf) (ct_name nd (by simp) hn2 hx2 hf2) ((h _ e hq).mono fun ds S1 ⟨e1, h1⟩ => by
    subst e1
    exact ask_cm2 (fun d => ⟨_, rfl, h2 d, fun d1 => ⟨_, rfl, he d d1⟩⟩) h1) hs hs1
/-- a, b, found = u, v, [] -/
theorem zx_par3N0 (i j l : Nat) {kt k2 pt2} {px py pz pb : Pos} (h : ZN X S0 a Γ x ma) (h2 : ZN X S0 b Γ x mb) {f : D → D → Cm ρ} (k : ∀ d d2 p, ZX X J rest (((Γ.set i (some d)).set j (some d2)).set l (some (.ref p))) (x ++ [(p, .lst [])]) (f d d2))
    (hw : swappedStores [.Tuple [.Name y px, .Name z py, .Name w pz] kt pt] (.Tuple [a, b, .List [] pb] k2 pt2) X.env = pure (some [y, z, w]) := by rfl) (hi : X.N[i]? = some y := by rfl) (hj : X.N[j]? = some z := by rfl) (hl : X.N[l]? = some w := by rfl) (hij : i ≠ j := by decide) (hil : i ≠ l := by decide) (hjl : j ≠ l := by decide)
    (hx : X.env.scope.names.lookup y = some .local := by rfl) (hy : X.env.scope.names.lookup z = some .local := by rfl) (hz : X.env.scope.names.lookup w = some .local := by rfl)
    (hs : swapsWithSole [.Tuple [.Name y px, .Name z py, .Name w pz] kt pt] (.Tuple [a, b, .List [] pb] k2 pt2) pos.line X.env = pure false := by rfl)
    (s1 : starEach [a, b, .List [] pb] X.env = (false, eval a X.env) :: starEach [b, .List [] pb] X.env := by rfl) (s2 : starEach [b, .List [] pb] X.env = (false, eval b X.env) :: starEach [.List [] pb] X.env := by rfl) (s3 : starEach [.List [] pb] X.env = (false, eval (.List [] pb) X.env) :: starEach [] X.env := by rfl) :
    ZX X J (.Assign [.Tuple [.Name y px, .Name z py, .Name w pz] kt pt] (.Tuple [a, b, .List [] pb] k2 pt2) pos :: rest) Γ x (Cm.let2 ma mb f) := fun q e hq =>
  zs_cons (z1_par3 (i := i) (j := j) (l := l) ((h _ e hq).mono fun d S1 ⟨e1, h1⟩ => by
    subst e1
    refine (h2 _ e h1).mono fun d2 S2 ⟨e2, h4⟩ => ?_
    subst e2
    refine ze_cell (za_nil ⟨small (by decide), fun p => ?_⟩)
    have := k d d2 p q e h4
    rw [← List.append_assoc] at this
    exact this) hw hi hj hl hij hil hjl hx hy hz hs s1 s2 s3)
def isbO : D → D → Option Bool
  | .bl a, .bl b => some (decide (a = b))
  | _, _ => none
def inbO : D → D → Option Bool
  | .bl a, .bl b => some (!decide (a = b))
  | _, _ => none
theorem o_isb : Cp2 X .Is isbO := ⟨_, op_is_bl, fun u v b h => by
  cases u <;> cases v <;> first | (cases h; done) | skip
  cases h
  exact fun F S H x y Q' hc r1 r2 k => by cases r1; cases r2; exact ⟨_, _, rfl, rfl, k.self hc .bl⟩⟩
theorem o_inb : Cp2 X .IsNot inbO := ⟨_, op_isnot_bl, fun u v b h => by
  cases u <;> cases v <;> first | (cases h; done) | skip
  cases h
  exact fun F S H x y Q' hc r1 r2 k => by cases r1; cases r2; exact ⟨_, _, rfl, rfl, k.self hc .bl⟩⟩
end
end Fz
end

section
/-! a tuple, so many times -/
namespace Fz
open PySem PySem.Spec PyProof.Rows L2 PySem.W
def mulTO : D → D → Option D
  | .tup ds, .int k => if ds ≠ [] ∧ 2 ≤ k ∧ k ≤ 1000 ∧ ds.length ≤ 1000 then some (.tup (List.replicate k.toNat ds).flatten) else none
  | _, _ => none
theorem o_mulT {X : Cx} : Op2 X .Mult mulTO := ⟨_, op_repT, fun u v d h => by
  cases u with
  | tup ds =>
    cases v with
    | int k =>
      have h : (if ds ≠ [] ∧ 2 ≤ k ∧ k ≤ 1000 ∧ ds.length ≤ 1000 then some (D.tup (List.replicate k.toNat ds).flatten) else none) = some d := h
      split at h
      · rename_i c
        cases h
        obtain ⟨c1, c2, c3, c4⟩ := c
        intro F S H v u Q' hc r1 r2 q
        cases r1 with
        | @tup _ pa xs h1 rr =>
          cases r2
          refine ⟨_, k, xs, rfl, rfl, st_H h1, fun e => c1 (by subst e; cases rr; rfl), c2, c3, by rw [← rr.length]; exact c4, fun p hp => q.new hc hp fun G sb e => .tup (SqT.of e) ((rr.mono sb).rep _)⟩
      · cases h
    | _ => cases h
  | _ => cases h⟩
end Fz
end

section
/-! the mirrors of the defs: printed by law.py -/
namespace Mm
open PySem PySem.Spec PySem.W Fz
abbrev clsL : List PySem.Str := ["Rule"]
@[irreducible] def m_are_fuses (value : D) : Cm D :=
  (.cnd (.orC (.notC (.isa (isaO clsL "str") (.ok value))) (.notC (.toB (.b1 allO (.comp (.its (.ok value)) (fun letter => (.ofB (.q2 inO (.ok letter) (.ok (.str (codes "abcdef"))))))))))) (.ok (.bl false)) (.b1 allO (.comp (.rng1 (.b2 subO (.b1 lenO (.ok value)) (.ok (.int 1)))) (fun k => (.ofB (.q2 ltO (.b2 ixO (.ok value) (.ok k)) (.b2 ixO (.ok value) (.b2 addO (.ok k) (.ok (.int 1))))))))))
@[irreducible] def m_items_in (text : D) : Cm D :=
  (.cnd (.notC (.isa (isaO clsL "str") (.ok text))) (.ok .non) (.bind (.t2 splitO (.ok text) (.ok (.str (codes " ")))) fun items => (.cnd (.orC (.q2 gtO (.b1 lenO (.ok items)) (.ok (.int 12))) (.notC (.toB (.b1 allO (.comp (.its (.ok items)) (fun item => (.andV (.c1 m_are_fuses (.ok item)) (.ofB (.q3 leO leO (.ok (.int 1)) (.b1 lenO (.ok item)) (.ok (.int 2))))))))))) (.ok .non) (.b1 tupO (.ok items)))))
@[irreducible] def m_Rule___init__ (text : D) : Cm (Option Flds) :=
  (.bind (.c1 m_items_in (.ok text)) fun items => (.cnd (.isN (.ok items)) .st (.bind (.ok text) fun w1 => .asr (([] : Flds).length < 1000) (.bind (.ok items) fun w2 => .asr ((putG "text" w1 ([]) : Flds).length < 1000) (.ok (some (putG "parts" w2 (putG "text" w1 ([])))))))))
@[irreducible] def m_Rule_fuses (self : D) : Cm D :=
  (.t2 joinO (.ok (.str (codes ""))) (.setC (.t2 joinO (.ok (.str (codes ""))) (.fld "Rule" "parts" (.ok self)))))
@[irreducible] def m_Rule___len__ (self : D) : Cm D :=
  (.b1 lenO (.fld "Rule" "parts" (.ok self)))
@[irreducible] def m_Rule___eq__ (self other : D) : Cm D :=
  (.andV (.ofB (.isa (iscO clsL "Rule") (.ok other))) (.ofB (.q2 eqO (.fld "Rule" "text" (.ok self)) (.fld "Rule" "text" (.ok other)))))
@[irreducible] def m_Rule___str__ (self : D) : Cm D :=
  (.fmtC (.fld "Rule" "text" (.ok self)))
@[irreducible] def m_Rule (text : D) : Cm D := .mk "Rule" (m_Rule___init__ text)
@[irreducible] def m_check_rule (rule_ : D) : Cm D :=
  (.cnd (.notC (.isa (iscO clsL "Rule") (.ok rule_))) .st (.ok .non))
@[irreducible] def m_is_integer (value : D) : Cm D :=
  (.andV (.ofB (.isa (isaO clsL "int") (.ok value))) (.ofB (.notC (.isa (isaO clsL "bool") (.ok value)))))
@[irreducible] def m_is_between (value least most : D) : Cm D :=
  (.andV (.c1 m_is_integer (.ok value)) (.ofB (.q3 leO leO (.ok least) (.ok value) (.ok most))))
@[irreducible] def m_check_between (value least most : D) : Cm D :=
  (.cnd (.notC (.toB (.c3 m_is_between (.ok value) (.ok least) (.ok most)))) .st (.ok .non))
@[irreducible] def m_check_most (blown dead : D) : Cm D :=
  (.bind (.c3 m_check_between (.ok blown) (.ok (.int 0)) (.ok (.int 6))) fun _ => (.bind (.c3 m_check_between (.ok dead) (.ok (.int 0)) (.ok (.int 4))) fun _ => (.ok .non)))
@[irreducible] def m_check_asked (rule_ blown dead : D) : Cm D :=
  (.bind (.c1 m_check_rule (.ok rule_)) fun _ => (.bind (.c2 m_check_most (.ok blown) (.ok dead)) fun _ => (.ok .non)))
@[irreducible] def m_is_window (value : D) : Cm D :=
  (.cnd (.orC (.notC (.isa (isaO clsL "tuple") (.ok value))) (.q2 neO (.b1 lenO (.ok value)) (.ok (.int 2)))) (.ok (.bl false)) (.cnd (.orC (.notC (.toB (.c3 m_is_between (.b2 ixO (.ok value) (.ok (.int 0))) (.ok (.int 0)) (.ok (.int 10000000000000000000000000000000000000000))))) (.notC (.toB (.c3 m_is_between (.b2 ixO (.ok value) (.ok (.int 1))) (.ok (.int 1)) (.ok (.int 200)))))) (.ok (.bl false)) (.ofB (.q2 leO (.b2 subO (.b2 addO (.b2 ixO (.ok value) (.ok (.int 0))) (.b2 ixO (.ok value) (.ok (.int 1)))) (.ok (.int 1))) (.ok (.int 10000000000000000000000000000000000000000))))))
def m_check_windows_t1 (v1 : Unit) (index : D) (window : D) : Cm (Lf (Unit) (D)) :=
  (.cnd (.notC (.toB (.c1 m_is_window (.ok window)))) .st (.ok (.nx ())))
@[irreducible] def m_check_windows (windows : D) : Cm D :=
  (.cnd (.orC (.notC (.isa (isaO clsL "tuple") (.ok windows))) (.notC (.q3 leO leO (.ok (.int 1)) (.b1 lenO (.ok windows)) (.ok (.int 6))))) .st (.bind (.enb (.ok windows)) fun ds2 => .loop (fun (v1 : Unit) => .pr ((m_check_windows_t1) v1)) (fun (v1 : Unit) => (.ok .non)) ds2 ()))
def m_posts_in_t1 (first_ : D) (v3 : List (L2.Key × D)) (k : D) : Cm (Lf (List (L2.Key × D)) (Lf (List (L2.Key × D)) (D))) :=
  (.bind (.ok (.bl true)) fun w4 => .bind (.b2 addO (.ok first_) (.ok k)) fun kd5 => .dky kd5 fun kk6 => .asr ((v3).length < 16777216) (.ok (.nx (putD (v3) kk6 w4))))
def m_posts_in_t2 (v2 : List (L2.Key × D)) (first_ : D) (many : D) : Cm (Lf (List (L2.Key × D)) (D)) :=
  (Cm.bind (α := List D) (.rng1 (.ok many)) fun ds7 => .loop (m_posts_in_t1 first_) (fun (v3 : List (L2.Key × D)) => (.ok (.nx v3))) ds7 v2)
def m_posts_in_k1 (v2 : List (L2.Key × D)) : Cm (D) :=
  (.srtC (.b1 lstKO (.ok (.dk (v2)))))
@[irreducible] def m_posts_in (windows : D) : Cm D :=
  (Cm.bind (α := List D) (.its (.ok windows)) fun ds8 => .loop (fun (v2 : List (L2.Key × D)) => .pr ((m_posts_in_t2) v2)) (m_posts_in_k1) ds8 ([]))
def m_sets_of_t1 (v1 : D) (fuse : D) : Cm (Lf (D) (D)) :=
  (.bind (.b2 addO (.ok v1) (.comp (.its (.ok v1)) (fun some_ => (.b2 addO (.ok some_) (.ok fuse))))) fun found => (.ok (.nx found)))
def m_sets_of_k1 (most : D) (v1 : D) : Cm (D) :=
  (.srtC (.compF (.its (.ok v1)) (fun some_ => (.q2 leO (.b1 lenO (.ok some_)) (.ok most))) (fun some_ => (.ok some_))))
@[irreducible] def m_sets_of (fuses most : D) : Cm D :=
  (.bind (.lstC (.cons (.ok (.str (codes ""))) .nil)) fun found => (Cm.bind (α := List D) (.its (.ok fuses)) fun ds2 => .loop (m_sets_of_t1) (m_sets_of_k1 most) ds2 found))
@[irreducible] def m_all_pairs (rule_ blown : D) : Cm D :=
  (.bind (.c2 m_sets_of (.mth "Rule" "fuses" m_Rule_fuses (.ok rule_)) (.ok blown)) fun some_ => (.comp2 (.rng1 (.b1 lenO (.ok some_))) (fun k => (.rng2 (.b2 addO (.ok k) (.ok (.int 1))) (.b1 lenO (.ok some_)))) (fun k j => (.tupC (.cons (.b2 ixO (.ok some_) (.ok k)) (.cons (.b2 ixO (.ok some_) (.ok j)) .nil))))))
@[irreducible] def m_is_out (item blown : D) : Cm D :=
  (.b1 allO (.comp (.its (.ok item)) (fun fuse => (.ofB (.q2 inO (.ok fuse) (.ok blown))))))
@[irreducible] def m_only_by (rule_ one other posts : D) : Cm D :=
  (.bind (.comp (.its (.fld "Rule" "parts" (.ok rule_))) (fun item => (.andV (.c2 m_is_out (.ok item) (.ok one)) (.ofB (.notC (.toB (.c2 m_is_out (.ok item) (.ok other)))))))) fun flags => (.compF (.its (.ok posts)) (fun post => (.tru (.b2 ixO (.ok flags) (.b2 modO (.ok post) (.b1 lenO (.ok flags)))))) (fun post => (.ok post))))
@[irreducible] def m_are_alike (rule_ one other dead posts : D) : Cm D :=
  (.andV (.ofB (.q2 leO (.b1 lenO (.c4 m_only_by (.ok rule_) (.ok one) (.ok other) (.ok posts))) (.ok dead))) (.ofB (.q2 leO (.b1 lenO (.c4 m_only_by (.ok rule_) (.ok other) (.ok one) (.ok posts))) (.ok dead))))
@[irreducible] def m_pairs_alike (rule_ blown dead windows : D) : Cm D :=
  (.bind (.c3 m_check_asked (.ok rule_) (.ok blown) (.ok dead)) fun _ => (.bind (.c1 m_check_windows (.ok windows)) fun _ => (.bind (.c1 m_posts_in (.ok windows)) fun posts => (.b1 tupO (.compF (.its (.c2 m_all_pairs (.ok rule_) (.ok blown))) (fun pair => (.toB (.c5 m_are_alike (.ok rule_) (.b2 ixO (.ok pair) (.ok (.int 0))) (.b2 ixO (.ok pair) (.ok (.int 1))) (.ok dead) (.ok posts)))) (fun pair => (.ok pair)))))))
@[irreducible] def m_can_tell (rule_ blown dead windows : D) : Cm D :=
  (.ofB (.q2 eqO (.c4 m_pairs_alike (.ok rule_) (.ok blown) (.ok dead) (.ok windows)) (.tupC .nil)))
abbrev m__law_draw : D → Cm D := .drawD
@[irreducible] def m__law_one (some_ : D) : Cm D :=
  (.b2 ixO (.ok some_) (.c1 m__law_draw (.b1 lenO (.ok some_))))
def m__law_items_t1 (names : D) (pairs : D) (v2 : List D) (k : D) : Cm (Lf (List D) (D)) :=
  (.let2 (.c1 m__law_one (.ok names)) (.c1 m__law_one (.ok names)) (fun here there => (.bind (.cnd (.andC (.q2 neO (.ok here) (.ok there)) (.tru (.ok pairs))) (.t2 joinO (.ok (.str (codes ""))) (.srtC (.lstC (.cons (.ok here) (.cons (.ok there) .nil))))) (.ok here)) fun y5 => .asr ((v2).length < 16777216) (.ok (.nx (v2 ++ [y5]))))))
@[irreducible] def m__law_items (most wide : D) : Cm D :=
  (.bind (.slTo (.ok (.str (codes "abcdef"))) (.b2 addO (.ok (.int 1)) (.c1 m__law_draw (.ok wide)))) fun names => (.bind (.ofB (.q2 eqO (.c1 m__law_draw (.ok (.int 3))) (.ok (.int 0)))) fun pairs => (Cm.bind (α := List D) (.rng1 (.b2 addO (.ok (.int 1)) (.c1 m__law_draw (.ok most)))) fun ds6 => .loop (m__law_items_t1 names pairs) (fun (v2 : List D) => (.ok (.lst (v2)))) ds6 ([]))))
def m__law_windows_t1 (start : D) (v2 : List D) (k : D) : Cm (Lf (List D) (D)) :=
  (.bind (.tupC (.cons (.b2 addO (.ok start) (.c1 m__law_draw (.ok (.int 16)))) (.cons (.b2 addO (.ok (.int 1)) (.c1 m__law_draw (.ok (.int 9)))) .nil))) fun y3 => .asr ((v2).length < 16777216) (.ok (.nx (v2 ++ [y3]))))
@[irreducible] def m__law_windows (far : D) : Cm D :=
  (.bind (.c1 m__law_one (.lstC (.cons (.ok (.int 0)) (.cons (.ok (.int 0)) (.cons (.c1 m__law_draw (.ok (.int 30))) (.cons (.ok far) .nil)))))) fun start => (Cm.bind (α := List D) (.rng1 (.b2 addO (.ok (.int 1)) (.c1 m__law_draw (.ok (.int 3))))) fun ds4 => .loop (m__law_windows_t1 start) (fun (v2 : List D) => (.b1 tupO (.ok (.lst (v2))))) ds4 ([])))
def m__law_sets_t1 (v1 : D) (letter : D) : Cm (Lf (D) (D)) :=
  (.bind (.b2 addO (.ok v1) (.comp (.its (.ok v1)) (fun some_ => (.b2 addO (.ok some_) (.ok letter))))) fun found => (.ok (.nx found)))
def m__law_sets_k1 (most : D) (v1 : D) : Cm (D) :=
  (.srtC (.compF (.its (.ok v1)) (fun some_ => (.q2 leO (.b1 lenO (.ok some_)) (.ok most))) (fun some_ => (.ok some_))))
@[irreducible] def m__law_sets (fuses most : D) : Cm D :=
  (.bind (.lstC (.cons (.ok (.str (codes ""))) .nil)) fun found => (Cm.bind (α := List D) (.its (.ok fuses)) fun ds2 => .loop (m__law_sets_t1) (m__law_sets_k1 most) ds2 found))
def m__law_places_t1 (v1 : D) (start : D) (size : D) : Cm (Lf (D) (D)) :=
  (.bind (.b2 addO (.ok v1) (.compF (.rng1 (.ok size)) (fun k => (.q2 niO (.b2 addO (.ok start) (.ok k)) (.ok v1))) (fun k => (.b2 addO (.ok start) (.ok k))))) fun found => (.ok (.nx found)))
@[irreducible] def m__law_places (windows : D) : Cm D :=
  (.bind (.lstC .nil) fun found => (Cm.bind (α := List D) (.its (.ok windows)) fun ds2 => .loop (fun (v1 : D) => .pr ((m__law_places_t1) v1)) (fun (v1 : D) => (.srtC (.ok v1))) ds2 found))
@[irreducible] def m__law_fuses (items : D) : Cm D :=
  (.t2 joinO (.ok (.str (codes ""))) (.setC (.t2 joinO (.ok (.str (codes ""))) (.ok items))))
@[irreducible] def m__law_is_out (item blown : D) : Cm D :=
  (.ofB (.q2 eqO (.compF (.its (.ok item)) (fun letter => (.q2 niO (.ok letter) (.ok blown))) (fun letter => (.ok letter))) (.lstC .nil)))
@[irreducible] def m__law_darkened (items blown places : D) : Cm D :=
  (.compF (.its (.ok places)) (fun place => (.toB (.c2 m__law_is_out (.b2 ixO (.ok items) (.b2 modO (.b1 toIntO (.ok place)) (.b1 lenO (.ok items)))) (.ok blown)))) (fun place => (.ok place)))
@[irreducible] def m__law_same_look (items one_set two_set spare places : D) : Cm D :=
  (.bind (.tupC (.cons (.c3 m__law_darkened (.ok items) (.ok one_set) (.ok places)) (.cons (.c3 m__law_darkened (.ok items) (.ok two_set) (.ok places)) .nil))) (.pr fun here there => (.cnd (.q2 gtO (.b1 lenO (.compF (.its (.ok here)) (fun place => (.q2 niO (.ok place) (.ok there))) (fun place => (.ok place)))) (.ok spare)) (.ok (.bl false)) (.ofB (.q2 leO (.b1 lenO (.compF (.its (.ok there)) (fun place => (.q2 niO (.ok place) (.ok here))) (fun place => (.ok place)))) (.ok spare))))))
def m__law_right_t1 (hooks : D) (spare : D) (some_ : D) (places : D) (k : D) (v9 : List D) (j : D) : Cm (Lf (List D) (Lf (List D) (Lf (Unit) (D)))) :=
  (.cnd (.toB (.c5 m__law_same_look (.ok hooks) (.b2 ixO (.ok some_) (.ok k)) (.b2 ixO (.ok some_) (.ok j)) (.ok spare) (.ok places))) (.bind (.tupC (.cons (.b2 ixO (.ok some_) (.ok k)) (.cons (.b2 ixO (.ok some_) (.ok j)) .nil))) fun y10 => .asr ((v9).length < 16777216) (.ok (.nx (v9 ++ [y10])))) (.ok (.nx v9)))
def m__law_right_t2 (hooks : D) (spare : D) (some_ : D) (places : D) (v8 : List D) (k : D) : Cm (Lf (List D) (Lf (Unit) (D))) :=
  (Cm.bind (α := List D) (.rng2 (.b2 addO (.ok k) (.ok (.int 1))) (.b1 lenO (.ok some_))) fun ds11 => .loop (m__law_right_t1 hooks spare some_ places k) (fun (v9 : List D) => (.ok (.nx v9))) ds11 v8)
def m__law_right_k1 (most : D) (spare : D) (mine : D) (seen : D) (v8 : List D) : Cm (Lf (Unit) (D)) :=
  (Cm.bind (α := List D) (.cons (.c4 m_pairs_alike (.ok mine) (.ok most) (.ok spare) (.ok seen)) .nil) fun told13 => .asr (told13.length ≤ 16777216) (.bind (.c4 (fun x0 x1 x2 x3 => m_pairs_alike x3 x2 x1 x0) (.ok seen) (.ok spare) (.ok most) (.ok mine)) fun y14 => .asr ((told13).length < 16777216) (.cnd (.q2 neO (.pk (.reprC (.ok (.lst (told13 ++ [y14]))))) (.pk (.reprC (.b2 mulO (.lstC (.cons (.b1 tupO (.ok (.lst (v8)))) .nil)) (.ok (.int 2)))))) (.bind (.ok (.bl false)) fun r => .ok (.up r)) (Cm.bind (α := List D) (.cons (.c4 m_can_tell (.ok mine) (.ok most) (.ok spare) (.ok seen)) (.cons (.c4 (fun x0 x1 x2 x3 => m_can_tell x3 x2 x1 x0) (.ok seen) (.ok spare) (.ok most) (.ok mine)) .nil)) fun told16 => .asr (told16.length ≤ 16777216) (.cnd (.q2 neO (.pk (.reprC (.ok (.lst (told16))))) (.reprC (.b2 mulO (.lstC (.cons (.pk (.ofB (.q2 eqO (.ok (.lst (v8))) (.lstC .nil)))) .nil)) (.ok (.int 2))))) (.bind (.ok (.bl false)) fun r => .ok (.up r)) (.ok (.nx ())))))))
def m__law_right_t3 (v1 : Unit) (turn : D) : Cm (Lf (Unit) (D)) :=
  (.let3 (.c2 m__law_items (.ok (.int 8)) (.ok (.int 5))) (.c1 m__law_draw (.ok (.int 5))) (.c1 m__law_one (.lstC (.cons (.ok (.int 0)) (.cons (.ok (.int 0)) (.cons (.ok (.int 1)) (.cons (.c1 m__law_draw (.ok (.int 5))) .nil)))))) (fun hooks most spare => (.let2 (.c1 m_Rule (.t2 joinO (.ok (.str (codes " "))) (.ok hooks))) (.c1 m__law_windows (.b2 powO (.ok (.int 10)) (.ok (.int 39)))) (fun mine seen => (.let2 (.c2 m__law_sets (.c1 m__law_fuses (.ok hooks)) (.ok most)) (.c1 m__law_places (.ok seen)) (fun some_ places => (Cm.bind (α := List D) (.rng1 (.b1 lenO (.ok some_))) fun ds17 => .loop (m__law_right_t2 hooks spare some_ places) (m__law_right_k1 most spare mine seen) ds17 ([]))))))))
@[irreducible] def m__law_right : Cm D :=
  (Cm.bind (α := List D) (.rng1 (.ok (.int 2))) fun ds18 => .loop (m__law_right_t3) (fun (v1 : Unit) => (.ok (.bl true))) ds18 ())
@[irreducible] def m_law (script : D) : Cm D :=
  (.bind (.c1 m_Rule (.ok (.str (codes "a b ab c")))) fun mine => (.cnd (.q2 inbO (.c4 m_can_tell (.ok mine) (.ok (.int 2)) (.ok (.int 0)) (.b2 mulTO (.tupC (.cons (.tupC (.cons (.ok (.int 0)) (.cons (.ok (.int 200)) .nil))) .nil)) (.ok (.int 6)))) (.ok (.bl true))) (.ok (.bl false)) (.cnd (.orC (.q2 inbO (.c4 m_can_tell (.ok mine) (.ok (.int 2)) (.ok (.int 0)) (.tupC (.cons (.tupC (.cons (.ok (.int 0)) (.cons (.ok (.int 4)) .nil))) .nil))) (.ok (.bl true))) (.q2 neO (.c4 m_pairs_alike (.ok mine) (.ok (.int 1)) (.ok (.int 0)) (.tupC (.cons (.tupC (.cons (.ok (.int 0)) (.cons (.ok (.int 3)) .nil))) .nil))) (.tupC (.cons (.tupC (.cons (.ok (.str (codes ""))) (.cons (.ok (.str (codes "c"))) .nil))) .nil)))) (.ok (.bl false)) (.b1 allO (.comp (.rng1 (.b2 maxO (.ok (.int 2)) (.b2 minO (.b1 lenO (.ok script)) (.ok (.int 5))))) (fun k => (.bag (.ok script) (.ok k) m__law_right)))))))
end Mm
end

section
namespace Kx
open PySem PySem.Spec PyProof.Rows L2 PySem.W Fz Mm
def top (i : Nat) : Stmt := PySem.Challenge.pw_fuseposts_k14_whole_pairs_that_look_alik.main.body.getD i (.Pass ⟨0, 0, 0, 0⟩)
def mth (i j : Nat) : Stmt := (C8.clsBody (top i)).getD j (.Pass ⟨0, 0, 0, 0⟩)
abbrev FnP (K : PySem.W.Frag) (x : Str) (st : Stmt) (f : Addr) (fd : FuncData) : Prop := FunD K x x (defArgs st) (defBody st) (defScope st) [] [] f fd
abbrev FnM (K : PySem.W.Frag) (x q : Str) (st : Stmt) (dvs : List V) (f : Addr) (fd : FuncData) : Prop := FunD K x q (defArgs st) (defBody st) (defScope st) dvs [] f fd
def dd (x : Str) (st : Stmt) (d : List He.Dv) : He.DefD := ⟨(x, none), x, x, defArgs st, defBody st, defScope st, d, []⟩
def dm (c m q : Str) (st : Stmt) (d : List He.Dv) : He.DefD := ⟨(c, some m), m, q, defArgs st, defBody st, defScope st, d, []⟩
def fn : List He.DefD := [(dd "_law_draw" (top 37) []),
  (dd "_law_bag" (top 36) []),
  (dd "are_fuses" (top 16) []),
  (dd "items_in" (top 19) []),
  (dm "Rule" "fuses" "Rule.fuses" (mth 21 1) []),
  (dm "Rule" "__len__" "Rule.__len__" (mth 21 2) []),
  (dm "Rule" "__eq__" "Rule.__eq__" (mth 21 3) []),
  (dm "Rule" "__str__" "Rule.__str__" (mth 21 4) []),
  (dm "Rule" "__init__" "Rule.__init__" (mth 21 0) []),
  (dd "check_rule" (top 22) []),
  (dd "is_integer" (top 14) []),
  (dd "is_between" (top 15) []),
  (dd "check_between" (top 17) []),
  (dd "check_most" (top 23) []),
  (dd "check_asked" (top 32) []),
  (dd "is_window" (top 26) []),
  (dd "check_windows" (top 27) []),
  (dd "posts_in" (top 28) []),
  (dd "sets_of" (top 24) []),
  (dd "all_pairs" (top 31) []),
  (dd "is_out" (top 20) []),
  (dd "only_by" (top 29) []),
  (dd "are_alike" (top 30) []),
  (dd "pairs_alike" (top 33) []),
  (dd "can_tell" (top 34) []),
  (dd "_law_one" (top 38) []),
  (dd "_law_items" (top 39) []),
  (dd "_law_windows" (top 47) []),
  (dd "_law_sets" (top 45) []),
  (dd "_law_places" (top 48) []),
  (dd "_law_fuses" (top 44) []),
  (dd "_law_is_out" (top 42) []),
  (dd "_law_darkened" (top 49) []),
  (dd "_law_same_look" (top 50) []),
  (dd "_law_right" (top 51) []),
  (dd "law" (top 52) [])]
def fa : List He.Fa := ([.free "len", .free "all", .free "any", .free "sum", .free "min", .free "max", .free "sorted", .free "abs", .free "int", .free "str", .free "tuple", .free "list", .free "range", .free "repr", .free "isinstance"] : List He.Fa) ++ ([.free "divmod", .free "enumerate", .free "zip", .free "dict", .free "set", .free "bool", .glo "_law_draw", .glo "_law_bag", .str "LETTERS" "abcdef", .glo "are_fuses", .int "MOST_ITEMS" 12, .glo "items_in", .cls "Rule", .meth "Rule" "fuses", .meth "Rule" "__len__"] : List He.Fa) ++ ([.glo "Rule", .meth "Rule" "__eq__", .meth "Rule" "__str__", .mkr "Rule", .glo "check_rule", .glo "is_integer", .glo "is_between", .glo "check_between", .int "MOST_FUSES" 6, .int "MOST_SPARE" 4, .glo "check_most", .glo "check_asked", .int "MOST_POST" 10000000000000000000000000000000000000000, .int "MOST_SEEN" 200, .glo "is_window"] : List He.Fa) ++ ([.int "MOST_WINDOWS" 6, .glo "check_windows", .glo "posts_in", .glo "sets_of", .glo "all_pairs", .glo "is_out", .glo "only_by", .glo "are_alike", .glo "pairs_alike", .glo "can_tell", .glo "_law_one", .glo "_law_items", .glo "_law_windows", .glo "_law_sets", .glo "_law_places"] : List He.Fa) ++ ([.glo "_law_fuses", .glo "_law_is_out", .glo "_law_darkened", .glo "_law_same_look", .glo "_law_right", .glo "law", .noat "Rule" "text", .noat "Rule" "parts"] : List He.Fa)
def fb : List Fb := [.tbl ["Rule"]]
abbrev C (K : PySem.W.Frag) (mg : Str → Option Value) (base : Heap) : Prop := Cz fa fn fb K mg base
theorem bn {K : PySem.W.Frag} {mg : Str → Option Value} {base : Heap} (c : C K mg base) : Bn mg := ⟨c.free 0, c.free 1, c.free 2, c.free 3, c.free 4, c.free 5, c.free 6, c.free 7, c.free 8, c.free 9, c.free 10, c.free 11, c.free 12, c.free 13, c.free 14, c.free 15, c.free 16, c.free 17, c.free 18, c.free 19, c.free 20⟩
theorem fl_Rule_text {K : PySem.W.Frag} {mg : Str → Option Value} {base : Heap} (c : C K mg base) : Fld K "Rule" "text" := c.fld 27 66
theorem fl_Rule_parts {K : PySem.W.Frag} {mg : Str → Option Value} {base : Heap} (c : C K mg base) : Fld K "Rule" "parts" := c.fld 27 67
theorem clsT {K : PySem.W.Frag} {mg : Str → Option Value} {base : Heap} (c : C K mg base) : ClsT K clsL := tbl_ok (c.tb 0)
end Kx
end

section
namespace Kx
open PySem PySem.Spec PyProof.Rows L2 PySem.W Fz Mm
section
variable {P : Program} {w : World} {K : PySem.W.Frag} {mg : Str → Option Value} {base : Heap} {f : Addr} {fd : FuncData}
theorem sc_are_fuses : FnScope ["value", "k", "letter"] ["value"] (defScope (top 16)) := ⟨rfl, rfl, rfl, by decide +kernel, rfl, by decide +kernel, by decide +kernel⟩
theorem ok_are_fuses (cc : C K mg base) (F : FnP K "are_fuses" (top 16) f fd) : FnG P w K mg base 2 f fd ["value"] (conc K (aspC (.u1 m_are_fuses))) := by
  have bn := bn cc
  have ct := clsT cc
  have g_LETTERS := He.str_ok cc.X cc.G (cc.ta 23)
  refine fn_c1 F sc_are_fuses rfl fun cdv A outer s H E value S hr gd => ?_
  have nd := sc_are_fuses.nd
  have ok := XOk.def_ (P := P) (w := w) (K := K) (mg := mg) (base := base) (N := ["value", "k", "letter"]) (qual := "are_fuses") (scope := defScope (top 16)) (f := f) (cd := cdv) (A := A) (outer := outer) (s := s) (H := H) (E := E) nd gd
  unfold m_are_fuses
  exact (zx_ifR (zqw_or (zq_not (zq_ofB (zn_isa bn (cln_b bn.str boot_str') (isa_ok ct (by decide)) (zn_var 0)))) (zqw_or1 (zq_not (zq_n (zn_all rfl bn (zn_lc 2 nd (zni_seq (zn_var 0)) (fun letter _ _ _ _ _ => (zn_cmp o_in (zn_var 2) (zn_gstr (z := "abcdef") g_LETTERS))))))))).q (zx_retI zn_bl) (zx_ret (zn_all rfl bn (zn_lc 1 nd (zni_range1 bn (zn_bin o_sub (zn_len bn (zn_var 0)) zn_int)) (fun k _ _ _ _ _ => (zn_cmp o_lt (zn_ix (zn_var 0) (zn_var 1)) (zn_ix (zn_var 0) (zn_bin o_add (zn_var 1) zn_int))))))))
theorem a_are_fuses (c : C K mg base) : AC P w K mg base 2 "are_fuses" 1 [] (fun ds _ => aspC (.u1 m_are_fuses) ds) := by
  obtain ⟨fd, F⟩ := c.td 2 (d := (dd "are_fuses" (top 16) []))
  exact ac_of c 24 rfl F (ok_are_fuses c F) (bd_pos F 1 rfl fun _ _ _ _ _ _ us hl => match us, hl with | [_], _ => rfl)
end
end Kx
end

section
namespace Kx
open PySem PySem.Spec PyProof.Rows L2 PySem.W Fz Mm
section
variable {P : Program} {w : World} {K : PySem.W.Frag} {mg : Str → Option Value} {base : Heap} {f : Addr} {fd : FuncData}
theorem sc_items_in : FnScope ["text", "items", "item"] ["text"] (defScope (top 19)) := ⟨rfl, rfl, rfl, by decide +kernel, rfl, by decide +kernel, by decide +kernel⟩
theorem ok_items_in (cc : C K mg base) (F : FnP K "items_in" (top 19) f fd) : FnG P w K mg base 3 f fd ["text"] (conc K (aspC (.u1 m_items_in))) := by
  have bn := bn cc
  have ct := clsT cc
  have g_MOST_ITEMS := He.int_ok cc.X cc.G (cc.ta 25)
  have a_are_fuses := a_are_fuses (P := P) (w := w) cc
  refine fn_c1 F sc_items_in rfl fun cdv A outer s H E text S hr gd => ?_
  have nd := sc_items_in.nd
  have ok := XOk.def_ (P := P) (w := w) (K := K) (mg := mg) (base := base) (N := ["text", "items", "item"]) (qual := "items_in") (scope := defScope (top 19)) (f := f) (cd := cdv) (A := A) (outer := outer) (s := s) (H := H) (E := E) nd gd
  unfold m_items_in
  exact (zx_ifR (zq_not (zq_ofB (zn_isa bn (cln_b bn.str boot_str') (isa_ok ct (by decide)) (zn_var 0)))) (zx_retI zn_non) (zx_set 1 (zn_split (zn_var 0) zn_str) (fun items => (zx_ifR (zqw_or (zq_cmp o_gt (zn_len bn (zn_var 1)) (zn_gint g_MOST_ITEMS)) (zqw_or1 (zq_not (zq_n (zn_all rfl bn (zn_lc 2 nd (zni_seq (zn_var 1)) (fun item _ _ _ _ _ => (zn_and (zn_c1 a_are_fuses hr (by decide) (zn_var 2)) (zn_one (zn_chain o_le o_le zn_int (zn_len bn (zn_var 2)) zn_int)))))))))).q (zx_retI zn_non) (zx_ret (zn_tuple bn (zn_var 1)))))))
theorem a_items_in (c : C K mg base) : AC P w K mg base 3 "items_in" 1 [] (fun ds _ => aspC (.u1 m_items_in) ds) := by
  obtain ⟨fd, F⟩ := c.td 3 (d := (dd "items_in" (top 19) []))
  exact ac_of c 26 rfl F (ok_items_in c F) (bd_pos F 1 rfl fun _ _ _ _ _ _ us hl => match us, hl with | [_], _ => rfl)
end
end Kx
end

section
namespace Kx
open PySem PySem.Spec PyProof.Rows L2 PySem.W Fz Mm
section
variable {P : Program} {w : World} {K : PySem.W.Frag} {mg : Str → Option Value} {base : Heap} {f : Addr} {fd : FuncData}
theorem sc_Rule___init__ : FnScope ["self", "text", "items"] ["self", "text"] (defScope (mth 21 0)) := ⟨rfl, rfl, rfl, by decide +kernel, rfl, by decide +kernel, by decide +kernel⟩
theorem ok_Rule___init__ {dvs : List V} (cc : C K mg base) (F : FnM K "__init__" "Rule.__init__" (mth 21 0) dvs f fd) : FnG P w K mg base 4 f fd ["self", "text"] (conc K (aspI "Rule" (.v1 m_Rule___init__))) := by
  have bn := bn cc
  have a_items_in := a_items_in (P := P) (w := w) cc
  have f_Rule_text := fl_Rule_text cc
  have f_Rule_parts := fl_Rule_parts cc
  refine fn_i F sc_Rule___init__ (len_v1 rfl) fun cdv A outer s H E p ds S hr gd => ?_
  have nd := sc_Rule___init__.nd
  have ok := XOk.def_ (P := P) (w := w) (K := K) (mg := mg) (base := base) (N := ["self", "text", "items"]) (qual := "Rule.__init__") (scope := defScope (mth 21 0)) (f := f) (cd := cdv) (A := A) (outer := outer) (s := s) (H := H) (E := E) nd gd
  refine v1_cases ?_ ds
  intro text
  unfold m_Rule___init__
  exact (zx_set 2 (zn_c1 a_items_in hr (by decide) (zn_var 1)) (fun items => (zx_ifR (zq_isN (zn_var 2)) zx_st (zx_fld 0 f_Rule_text rfl (zn_var 1) (zn 0) (fun w1 => (zx_fld 0 f_Rule_parts rfl (zn_var 2) (zn 0) (fun w2 => zx_fallI)))))))
end
end Kx
end

section
namespace Kx
open PySem PySem.Spec PyProof.Rows L2 PySem.W Fz Mm
section
variable {P : Program} {w : World} {K : PySem.W.Frag} {mg : Str → Option Value} {base : Heap} {f : Addr} {fd : FuncData}
theorem sc_Rule_fuses : FnScope ["self"] ["self"] (defScope (mth 21 1)) := ⟨rfl, rfl, rfl, by decide +kernel, rfl, by decide +kernel, by decide +kernel⟩
theorem ok_Rule_fuses {dvs : List V} (cc : C K mg base) (F : FnM K "fuses" "Rule.fuses" (mth 21 1) dvs f fd) : FnG P w K mg base 2 f fd ["self"] (conc K (aspC (.u1 m_Rule_fuses))) := by
  have bn := bn cc
  have f_Rule_parts := fl_Rule_parts cc
  refine fn_c1 F sc_Rule_fuses rfl fun cdv A outer s H E self S hr gd => ?_
  have nd := sc_Rule_fuses.nd
  have ok := XOk.def_ (P := P) (w := w) (K := K) (mg := mg) (base := base) (N := ["self"]) (qual := "Rule.fuses") (scope := defScope (mth 21 1)) (f := f) (cd := cdv) (A := A) (outer := outer) (s := s) (H := H) (E := E) nd gd
  unfold m_Rule_fuses
  exact (zx_ret (zn_join zn_str (zn_sortSet hr bn (zn_join zn_str (zn_fld f_Rule_parts (zn_var 0))))))
theorem a_Rule_fuses (c : C K mg base) : AM P w K mg base 2 "Rule" "fuses" 0 [] (fun ds _ => aspC (.u1 m_Rule_fuses) ds) := by
  obtain ⟨fd, F⟩ := c.td 4 (d := (dm "Rule" "fuses" "Rule.fuses" (mth 21 1) []))
  exact am_of (He.cls_ok (c.ta 27)) (He.meth_ok (c.ta 28)) (ok_Rule_fuses c F) (bd_pos F 1 rfl fun _ _ _ _ _ _ us hl => match us, hl with | [_], _ => rfl)
end
end Kx
end

section
namespace Kx
open PySem PySem.Spec PyProof.Rows L2 PySem.W Fz Mm
section
variable {P : Program} {w : World} {K : PySem.W.Frag} {mg : Str → Option Value} {base : Heap} {f : Addr} {fd : FuncData}
theorem sc_Rule___len__ : FnScope ["self"] ["self"] (defScope (mth 21 2)) := ⟨rfl, rfl, rfl, by decide +kernel, rfl, by decide +kernel, by decide +kernel⟩
theorem ok_Rule___len__ {dvs : List V} (cc : C K mg base) (F : FnM K "__len__" "Rule.__len__" (mth 21 2) dvs f fd) : FnG P w K mg base 2 f fd ["self"] (conc K (aspC (.u1 m_Rule___len__))) := by
  have bn := bn cc
  have f_Rule_parts := fl_Rule_parts cc
  refine fn_c1 F sc_Rule___len__ rfl fun cdv A outer s H E self S hr gd => ?_
  have nd := sc_Rule___len__.nd
  have ok := XOk.def_ (P := P) (w := w) (K := K) (mg := mg) (base := base) (N := ["self"]) (qual := "Rule.__len__") (scope := defScope (mth 21 2)) (f := f) (cd := cdv) (A := A) (outer := outer) (s := s) (H := H) (E := E) nd gd
  unfold m_Rule___len__
  exact (zx_ret (zn_len bn (zn_fld f_Rule_parts (zn_var 0))))
theorem a_Rule___len__ (c : C K mg base) : AM P w K mg base 2 "Rule" "__len__" 0 [] (fun ds _ => aspC (.u1 m_Rule___len__) ds) := by
  obtain ⟨fd, F⟩ := c.td 5 (d := (dm "Rule" "__len__" "Rule.__len__" (mth 21 2) []))
  exact am_of (He.cls_ok (c.ta 27)) (He.meth_ok (c.ta 29)) (ok_Rule___len__ c F) (bd_pos F 1 rfl fun _ _ _ _ _ _ us hl => match us, hl with | [_], _ => rfl)
end
end Kx
end

section
namespace Kx
open PySem PySem.Spec PyProof.Rows L2 PySem.W Fz Mm
section
variable {P : Program} {w : World} {K : PySem.W.Frag} {mg : Str → Option Value} {base : Heap} {f : Addr} {fd : FuncData}
theorem sc_Rule___eq__ : FnScope ["self", "other"] ["self", "other"] (defScope (mth 21 3)) := ⟨rfl, rfl, rfl, by decide +kernel, rfl, by decide +kernel, by decide +kernel⟩
theorem ok_Rule___eq__ {dvs : List V} (cc : C K mg base) (F : FnM K "__eq__" "Rule.__eq__" (mth 21 3) dvs f fd) : FnG P w K mg base 2 f fd ["self", "other"] (conc K (aspC (.u2 m_Rule___eq__))) := by
  have bn := bn cc
  have ct := clsT cc
  have f_Rule_text := fl_Rule_text cc
  refine fn_c2 F sc_Rule___eq__ rfl fun cdv A outer s H E self other S hr gd => ?_
  have nd := sc_Rule___eq__.nd
  have ok := XOk.def_ (P := P) (w := w) (K := K) (mg := mg) (base := base) (N := ["self", "other"]) (qual := "Rule.__eq__") (scope := defScope (mth 21 3)) (f := f) (cd := cdv) (A := A) (outer := outer) (s := s) (H := H) (E := E) nd gd
  unfold m_Rule___eq__
  exact (zx_ret (zn_and (zn_isa bn (cc.cln rfl 30) (isc_ok ct (by simp [clsL])) (zn_var 1)) (zn_one (zn_cmp (o_eq hr) (zn_fld f_Rule_text (zn_var 0)) (zn_fld f_Rule_text (zn_var 1))))))
theorem a_Rule___eq__ (c : C K mg base) : AM P w K mg base 2 "Rule" "__eq__" 1 [] (fun ds _ => aspC (.u2 m_Rule___eq__) ds) := by
  obtain ⟨fd, F⟩ := c.td 6 (d := (dm "Rule" "__eq__" "Rule.__eq__" (mth 21 3) []))
  exact am_of (He.cls_ok (c.ta 27)) (He.meth_ok (c.ta 31)) (ok_Rule___eq__ c F) (bd_pos F 2 rfl fun _ _ _ _ _ _ us hl => match us, hl with | [_, _], _ => rfl)
end
end Kx
end

section
namespace Kx
open PySem PySem.Spec PyProof.Rows L2 PySem.W Fz Mm
section
variable {P : Program} {w : World} {K : PySem.W.Frag} {mg : Str → Option Value} {base : Heap} {f : Addr} {fd : FuncData}
theorem sc_Rule___str__ : FnScope ["self"] ["self"] (defScope (mth 21 4)) := ⟨rfl, rfl, rfl, by decide +kernel, rfl, by decide +kernel, by decide +kernel⟩
theorem ok_Rule___str__ {dvs : List V} (cc : C K mg base) (F : FnM K "__str__" "Rule.__str__" (mth 21 4) dvs f fd) : FnG P w K mg base 2 f fd ["self"] (conc K (aspC (.u1 m_Rule___str__))) := by
  have bn := bn cc
  have f_Rule_text := fl_Rule_text cc
  refine fn_c1 F sc_Rule___str__ rfl fun cdv A outer s H E self S hr gd => ?_
  have nd := sc_Rule___str__.nd
  have ok := XOk.def_ (P := P) (w := w) (K := K) (mg := mg) (base := base) (N := ["self"]) (qual := "Rule.__str__") (scope := defScope (mth 21 4)) (f := f) (cd := cdv) (A := A) (outer := outer) (s := s) (H := H) (E := E) nd gd
  unfold m_Rule___str__
  exact (zx_ret (zn_fs1 (zn_fmt (zn_fld f_Rule_text (zn_var 0)))))
theorem a_Rule___str__ (c : C K mg base) : AM P w K mg base 2 "Rule" "__str__" 0 [] (fun ds _ => aspC (.u1 m_Rule___str__) ds) := by
  obtain ⟨fd, F⟩ := c.td 7 (d := (dm "Rule" "__str__" "Rule.__str__" (mth 21 4) []))
  exact am_of (He.cls_ok (c.ta 27)) (He.meth_ok (c.ta 32)) (ok_Rule___str__ c F) (bd_pos F 1 rfl fun _ _ _ _ _ _ us hl => match us, hl with | [_], _ => rfl)
end
end Kx
end

section
namespace Kx
open PySem PySem.Spec PyProof.Rows L2 PySem.W Fz Mm
section
variable {P : Program} {w : World} {K : PySem.W.Frag} {mg : Str → Option Value} {base : Heap} {f : Addr} {fd : FuncData}
theorem a_Rule (c : C K mg base) : AC P w K mg base 5 "Rule" 1 [] (fun ds _ => aspC (.u1 m_Rule) ds) := by
  obtain ⟨fd, F⟩ := c.td 8 (d := (dm "Rule" "__init__" "Rule.__init__" (mth 21 0) []))
  have M := He.mkr_ok (c.ta 33)
  exact AC.imp ⟨⟨_, c.glo 30, M.kp, can_mk M rfl (ok_Rule___init__ c F) (bd_pos F 2 rfl fun _ _ _ _ _ _ us hl => match us, hl with | [_, _], _ => rfl) (g := (fun ds _ => ds)) (fun _ _ _ _ _ => rfl)⟩⟩ fun ds es S Q Ex h => mk_imp1 h (by intros; unfold m_Rule; rfl)
end
end Kx
end

section
namespace Kx
open PySem PySem.Spec PyProof.Rows L2 PySem.W Fz Mm
section
variable {P : Program} {w : World} {K : PySem.W.Frag} {mg : Str → Option Value} {base : Heap} {f : Addr} {fd : FuncData}
theorem sc_check_rule : FnScope ["rule"] ["rule"] (defScope (top 22)) := ⟨rfl, rfl, rfl, by decide +kernel, rfl, by decide +kernel, by decide +kernel⟩
theorem ok_check_rule (cc : C K mg base) (F : FnP K "check_rule" (top 22) f fd) : FnG P w K mg base 2 f fd ["rule"] (conc K (aspC (.u1 m_check_rule))) := by
  have bn := bn cc
  have ct := clsT cc
  refine fn_c1 F sc_check_rule rfl fun cdv A outer s H E rule_ S hr gd => ?_
  have nd := sc_check_rule.nd
  have ok := XOk.def_ (P := P) (w := w) (K := K) (mg := mg) (base := base) (N := ["rule"]) (qual := "check_rule") (scope := defScope (top 22)) (f := f) (cd := cdv) (A := A) (outer := outer) (s := s) (H := H) (E := E) nd gd
  unfold m_check_rule
  exact (zx_ifE (zq_not (zq_ofB (zn_isa bn (cc.cln rfl 30) (isc_ok ct (by simp [clsL])) (zn_var 0)))) zx_st zx_fall)
theorem a_check_rule (c : C K mg base) : AC P w K mg base 2 "check_rule" 1 [] (fun ds _ => aspC (.u1 m_check_rule) ds) := by
  obtain ⟨fd, F⟩ := c.td 9 (d := (dd "check_rule" (top 22) []))
  exact ac_of c 34 rfl F (ok_check_rule c F) (bd_pos F 1 rfl fun _ _ _ _ _ _ us hl => match us, hl with | [_], _ => rfl)
end
end Kx
end

section
namespace Kx
open PySem PySem.Spec PyProof.Rows L2 PySem.W Fz Mm
section
variable {P : Program} {w : World} {K : PySem.W.Frag} {mg : Str → Option Value} {base : Heap} {f : Addr} {fd : FuncData}
theorem sc_is_integer : FnScope ["value"] ["value"] (defScope (top 14)) := ⟨rfl, rfl, rfl, by decide +kernel, rfl, by decide +kernel, by decide +kernel⟩
theorem ok_is_integer (cc : C K mg base) (F : FnP K "is_integer" (top 14) f fd) : FnG P w K mg base 2 f fd ["value"] (conc K (aspC (.u1 m_is_integer))) := by
  have bn := bn cc
  have ct := clsT cc
  refine fn_c1 F sc_is_integer rfl fun cdv A outer s H E value S hr gd => ?_
  have nd := sc_is_integer.nd
  have ok := XOk.def_ (P := P) (w := w) (K := K) (mg := mg) (base := base) (N := ["value"]) (qual := "is_integer") (scope := defScope (top 14)) (f := f) (cd := cdv) (A := A) (outer := outer) (s := s) (H := H) (E := E) nd gd
  unfold m_is_integer
  exact (zx_ret (zn_and (zn_isa bn (cln_b bn.int boot_int') (isa_ok ct (by decide)) (zn_var 0)) (zn_one (zn_not (zn_isa bn (cln_b bn.bool boot_bool') (isa_ok ct (by decide)) (zn_var 0))))))
theorem a_is_integer (c : C K mg base) : AC P w K mg base 2 "is_integer" 1 [] (fun ds _ => aspC (.u1 m_is_integer) ds) := by
  obtain ⟨fd, F⟩ := c.td 10 (d := (dd "is_integer" (top 14) []))
  exact ac_of c 35 rfl F (ok_is_integer c F) (bd_pos F 1 rfl fun _ _ _ _ _ _ us hl => match us, hl with | [_], _ => rfl)
end
end Kx
end

section
namespace Kx
open PySem PySem.Spec PyProof.Rows L2 PySem.W Fz Mm
section
variable {P : Program} {w : World} {K : PySem.W.Frag} {mg : Str → Option Value} {base : Heap} {f : Addr} {fd : FuncData}
theorem sc_is_between : FnScope ["value", "least", "most"] ["value", "least", "most"] (defScope (top 15)) := ⟨rfl, rfl, rfl, by decide +kernel, rfl, by decide +kernel, by decide +kernel⟩
theorem ok_is_between (cc : C K mg base) (F : FnP K "is_between" (top 15) f fd) : FnG P w K mg base 3 f fd ["value", "least", "most"] (conc K (aspC (.u3 m_is_between))) := by
  have bn := bn cc
  have a_is_integer := a_is_integer (P := P) (w := w) cc
  refine fn_c3 F sc_is_between rfl fun cdv A outer s H E value least most S hr gd => ?_
  have nd := sc_is_between.nd
  have ok := XOk.def_ (P := P) (w := w) (K := K) (mg := mg) (base := base) (N := ["value", "least", "most"]) (qual := "is_between") (scope := defScope (top 15)) (f := f) (cd := cdv) (A := A) (outer := outer) (s := s) (H := H) (E := E) nd gd
  unfold m_is_between
  exact (zx_ret (zn_and (zn_c1 a_is_integer hr (by decide) (zn_var 0)) (zn_one (zn_chain o_le o_le (zn_var 1) (zn_var 0) (zn_var 2)))))
theorem a_is_between (c : C K mg base) : AC P w K mg base 3 "is_between" 3 [] (fun ds _ => aspC (.u3 m_is_between) ds) := by
  obtain ⟨fd, F⟩ := c.td 11 (d := (dd "is_between" (top 15) []))
  exact ac_of c 36 rfl F (ok_is_between c F) (bd_pos F 3 rfl fun _ _ _ _ _ _ us hl => match us, hl with | [_, _, _], _ => rfl)
end
end Kx
end

section
namespace Kx
open PySem PySem.Spec PyProof.Rows L2 PySem.W Fz Mm
section
variable {P : Program} {w : World} {K : PySem.W.Frag} {mg : Str → Option Value} {base : Heap} {f : Addr} {fd : FuncData}
theorem sc_check_between : FnScope ["value", "least", "most"] ["value", "least", "most"] (defScope (top 17)) := ⟨rfl, rfl, rfl, by decide +kernel, rfl, by decide +kernel, by decide +kernel⟩
theorem ok_check_between (cc : C K mg base) (F : FnP K "check_between" (top 17) f fd) : FnG P w K mg base 4 f fd ["value", "least", "most"] (conc K (aspC (.u3 m_check_between))) := by
  have bn := bn cc
  have a_is_between := a_is_between (P := P) (w := w) cc
  refine fn_c3 F sc_check_between rfl fun cdv A outer s H E value least most S hr gd => ?_
  have nd := sc_check_between.nd
  have ok := XOk.def_ (P := P) (w := w) (K := K) (mg := mg) (base := base) (N := ["value", "least", "most"]) (qual := "check_between") (scope := defScope (top 17)) (f := f) (cd := cdv) (A := A) (outer := outer) (s := s) (H := H) (E := E) nd gd
  unfold m_check_between
  exact (zx_ifE (zq_not (zq_n (zn_c3 a_is_between hr (by decide) (zn_var 0) (zn_var 1) (zn_var 2)))) zx_st zx_fall)
theorem a_check_between (c : C K mg base) : AC P w K mg base 4 "check_between" 3 [] (fun ds _ => aspC (.u3 m_check_between) ds) := by
  obtain ⟨fd, F⟩ := c.td 12 (d := (dd "check_between" (top 17) []))
  exact ac_of c 37 rfl F (ok_check_between c F) (bd_pos F 3 rfl fun _ _ _ _ _ _ us hl => match us, hl with | [_, _, _], _ => rfl)
end
end Kx
end

section
namespace Kx
open PySem PySem.Spec PyProof.Rows L2 PySem.W Fz Mm
section
variable {P : Program} {w : World} {K : PySem.W.Frag} {mg : Str → Option Value} {base : Heap} {f : Addr} {fd : FuncData}
theorem sc_check_most : FnScope ["blown", "dead"] ["blown", "dead"] (defScope (top 23)) := ⟨rfl, rfl, rfl, by decide +kernel, rfl, by decide +kernel, by decide +kernel⟩
theorem ok_check_most (cc : C K mg base) (F : FnP K "check_most" (top 23) f fd) : FnG P w K mg base 5 f fd ["blown", "dead"] (conc K (aspC (.u2 m_check_most))) := by
  have bn := bn cc
  have a_check_between := a_check_between (P := P) (w := w) cc
  have g_MOST_FUSES := He.int_ok cc.X cc.G (cc.ta 38)
  have g_MOST_SPARE := He.int_ok cc.X cc.G (cc.ta 39)
  refine fn_c2 F sc_check_most rfl fun cdv A outer s H E blown dead S hr gd => ?_
  have nd := sc_check_most.nd
  have ok := XOk.def_ (P := P) (w := w) (K := K) (mg := mg) (base := base) (N := ["blown", "dead"]) (qual := "check_most") (scope := defScope (top 23)) (f := f) (cd := cdv) (A := A) (outer := outer) (s := s) (H := H) (E := E) nd gd
  unfold m_check_most
  exact (zx_expr (zn_c3 a_check_between hr (by decide) (zn_var 0) zn_int (zn_gint g_MOST_FUSES)) (zx_expr (zn_c3 a_check_between hr (by decide) (zn_var 1) zn_int (zn_gint g_MOST_SPARE)) zx_fall))
theorem a_check_most (c : C K mg base) : AC P w K mg base 5 "check_most" 2 [] (fun ds _ => aspC (.u2 m_check_most) ds) := by
  obtain ⟨fd, F⟩ := c.td 13 (d := (dd "check_most" (top 23) []))
  exact ac_of c 40 rfl F (ok_check_most c F) (bd_pos F 2 rfl fun _ _ _ _ _ _ us hl => match us, hl with | [_, _], _ => rfl)
end
end Kx
end

section
namespace Kx
open PySem PySem.Spec PyProof.Rows L2 PySem.W Fz Mm
section
variable {P : Program} {w : World} {K : PySem.W.Frag} {mg : Str → Option Value} {base : Heap} {f : Addr} {fd : FuncData}
theorem sc_check_asked : FnScope ["rule", "blown", "dead"] ["rule", "blown", "dead"] (defScope (top 32)) := ⟨rfl, rfl, rfl, by decide +kernel, rfl, by decide +kernel, by decide +kernel⟩
theorem ok_check_asked (cc : C K mg base) (F : FnP K "check_asked" (top 32) f fd) : FnG P w K mg base 6 f fd ["rule", "blown", "dead"] (conc K (aspC (.u3 m_check_asked))) := by
  have bn := bn cc
  have a_check_rule := a_check_rule (P := P) (w := w) cc
  have a_check_most := a_check_most (P := P) (w := w) cc
  refine fn_c3 F sc_check_asked rfl fun cdv A outer s H E rule_ blown dead S hr gd => ?_
  have nd := sc_check_asked.nd
  have ok := XOk.def_ (P := P) (w := w) (K := K) (mg := mg) (base := base) (N := ["rule", "blown", "dead"]) (qual := "check_asked") (scope := defScope (top 32)) (f := f) (cd := cdv) (A := A) (outer := outer) (s := s) (H := H) (E := E) nd gd
  unfold m_check_asked
  exact (zx_expr (zn_c1 a_check_rule hr (by decide) (zn_var 0)) (zx_expr (zn_c2 a_check_most hr (by decide) (zn_var 1) (zn_var 2)) zx_fall))
theorem a_check_asked (c : C K mg base) : AC P w K mg base 6 "check_asked" 3 [] (fun ds _ => aspC (.u3 m_check_asked) ds) := by
  obtain ⟨fd, F⟩ := c.td 14 (d := (dd "check_asked" (top 32) []))
  exact ac_of c 41 rfl F (ok_check_asked c F) (bd_pos F 3 rfl fun _ _ _ _ _ _ us hl => match us, hl with | [_, _, _], _ => rfl)
end
end Kx
end

section
namespace Kx
open PySem PySem.Spec PyProof.Rows L2 PySem.W Fz Mm
section
variable {P : Program} {w : World} {K : PySem.W.Frag} {mg : Str → Option Value} {base : Heap} {f : Addr} {fd : FuncData}
theorem sc_is_window : FnScope ["value"] ["value"] (defScope (top 26)) := ⟨rfl, rfl, rfl, by decide +kernel, rfl, by decide +kernel, by decide +kernel⟩
theorem ok_is_window (cc : C K mg base) (F : FnP K "is_window" (top 26) f fd) : FnG P w K mg base 4 f fd ["value"] (conc K (aspC (.u1 m_is_window))) := by
  have bn := bn cc
  have ct := clsT cc
  have a_is_between := a_is_between (P := P) (w := w) cc
  have g_MOST_POST := He.int_ok cc.X cc.G (cc.ta 42)
  have g_MOST_SEEN := He.int_ok cc.X cc.G (cc.ta 43)
  refine fn_c1 F sc_is_window rfl fun cdv A outer s H E value S hr gd => ?_
  have nd := sc_is_window.nd
  have ok := XOk.def_ (P := P) (w := w) (K := K) (mg := mg) (base := base) (N := ["value"]) (qual := "is_window") (scope := defScope (top 26)) (f := f) (cd := cdv) (A := A) (outer := outer) (s := s) (H := H) (E := E) nd gd
  unfold m_is_window
  exact (zx_ifR (zqw_or (zq_not (zq_ofB (zn_isa bn (cln_b bn.tuple boot_tuple') (isa_ok ct (by decide)) (zn_var 0)))) (zqw_or1 (zq_cmp (o_ne hr) (zn_len bn (zn_var 0)) zn_int))).q (zx_retI zn_bl) (zx_ifR (zqw_or (zq_not (zq_n (zn_c3 a_is_between hr (by decide) (zn_ix (zn_var 0) zn_int) zn_int (zn_gint g_MOST_POST)))) (zqw_or1 (zq_not (zq_n (zn_c3 a_is_between hr (by decide) (zn_ix (zn_var 0) zn_int) zn_int (zn_gint g_MOST_SEEN)))))).q (zx_retI zn_bl) (zx_ret (zn_cmp o_le (zn_bin o_sub (zn_bin o_add (zn_ix (zn_var 0) zn_int) (zn_ix (zn_var 0) zn_int)) zn_int) (zn_gint g_MOST_POST)))))
theorem a_is_window (c : C K mg base) : AC P w K mg base 4 "is_window" 1 [] (fun ds _ => aspC (.u1 m_is_window) ds) := by
  obtain ⟨fd, F⟩ := c.td 15 (d := (dd "is_window" (top 26) []))
  exact ac_of c 44 rfl F (ok_is_window c F) (bd_pos F 1 rfl fun _ _ _ _ _ _ us hl => match us, hl with | [_], _ => rfl)
end
end Kx
end

section
namespace Kx
open PySem PySem.Spec PyProof.Rows L2 PySem.W Fz Mm
section
variable {P : Program} {w : World} {K : PySem.W.Frag} {mg : Str → Option Value} {base : Heap} {f : Addr} {fd : FuncData}
theorem sc_check_windows : FnScope ["windows", "index", "window"] ["windows"] (defScope (top 27)) := ⟨rfl, rfl, rfl, by decide +kernel, rfl, by decide +kernel, by decide +kernel⟩
theorem ok_check_windows (cc : C K mg base) (F : FnP K "check_windows" (top 27) f fd) : FnG P w K mg base 5 f fd ["windows"] (conc K (aspC (.u1 m_check_windows))) := by
  have bn := bn cc
  have ct := clsT cc
  have g_MOST_WINDOWS := He.int_ok cc.X cc.G (cc.ta 45)
  have a_is_window := a_is_window (P := P) (w := w) cc
  refine fn_c1 F sc_check_windows rfl fun cdv A outer s H E windows S hr gd => ?_
  have nd := sc_check_windows.nd
  have ok := XOk.def_ (P := P) (w := w) (K := K) (mg := mg) (base := base) (N := ["windows", "index", "window"]) (qual := "check_windows") (scope := defScope (top 27)) (f := f) (cd := cdv) (A := A) (outer := outer) (s := s) (H := H) (E := E) nd gd
  unfold m_check_windows
  exact (zx_ifR (zqw_or (zq_not (zq_ofB (zn_isa bn (cln_b bn.tuple boot_tuple') (isa_ok ct (by decide)) (zn_var 0)))) (zqw_or1 (zq_not (zq_chainT o_le o_le zn_int (zn_len bn (zn_var 0)) (zn_gint g_MOST_WINDOWS))))).q zx_st (zx_forP 1 2 (fun (v1 : Unit) => [some windows, none, none]) (fun v1 => []) () (zni_enumB bn (zn_var 0)) nd (fun v1 index window => (zx_ifE (zq_not (zq_n (zn_c1 a_is_window hr (by decide) (zn_var 2)))) zx_st (zx_nxL ()))) (fun v1 => zx_fall)))
theorem a_check_windows (c : C K mg base) : AC P w K mg base 5 "check_windows" 1 [] (fun ds _ => aspC (.u1 m_check_windows) ds) := by
  obtain ⟨fd, F⟩ := c.td 16 (d := (dd "check_windows" (top 27) []))
  exact ac_of c 46 rfl F (ok_check_windows c F) (bd_pos F 1 rfl fun _ _ _ _ _ _ us hl => match us, hl with | [_], _ => rfl)
end
end Kx
end

section
namespace Kx
open PySem PySem.Spec PyProof.Rows L2 PySem.W Fz Mm
section
variable {P : Program} {w : World} {K : PySem.W.Frag} {mg : Str → Option Value} {base : Heap} {f : Addr} {fd : FuncData}
theorem sc_posts_in : FnScope ["windows", "found", "first", "many", "k"] ["windows"] (defScope (top 28)) := ⟨rfl, rfl, rfl, by decide +kernel, rfl, by decide +kernel, by decide +kernel⟩
theorem ok_posts_in (cc : C K mg base) (F : FnP K "posts_in" (top 28) f fd) : FnG P w K mg base 2 f fd ["windows"] (conc K (aspC (.u1 m_posts_in))) := by
  have bn := bn cc
  refine fn_c1 F sc_posts_in rfl fun cdv A outer s H E windows S hr gd => ?_
  have nd := sc_posts_in.nd
  have ok := XOk.def_ (P := P) (w := w) (K := K) (mg := mg) (base := base) (N := ["windows", "found", "first", "many", "k"]) (qual := "posts_in") (scope := defScope (top 28)) (f := f) (cd := cdv) (A := A) (outer := outer) (s := s) (H := H) (E := E) nd gd
  unfold m_posts_in
  exact (zx_newDk 1 (fun p1 => (zx_forP 2 3 (fun (v2 : List (L2.Key × D)) => [some windows, some (.ref p1), none, none, none]) (fun v2 => [(p1, .dk (v2))]) ([]) (zni_seq (zn_var 0)) nd (fun v2 first_ many => (zx_for 4 (fun (v3 : List (L2.Key × D)) => [some windows, some (.ref p1), some first_, some many, none]) (fun v3 => [(p1, .dk (v3))]) v2 (zni_range1 bn (zn_var 3)) (fun v3 k => (zx_dput 0 rfl hr zn_bl (zn_var 1) (zn_bin o_add (zn_var 2) (zn_var 4)) (fun w4 kk6 => (zx_nxL (putD (v3) kk6 w4))))) (fun v3 => (zx_nxL v3)))) (fun v2 => (zx_iceK 0 1 rfl rfl (zx_ret (zn_srt hr bn rfl (zn_listK rfl bn (zn_var 1)))))))))
theorem a_posts_in (c : C K mg base) : AC P w K mg base 2 "posts_in" 1 [] (fun ds _ => aspC (.u1 m_posts_in) ds) := by
  obtain ⟨fd, F⟩ := c.td 17 (d := (dd "posts_in" (top 28) []))
  exact ac_of c 47 rfl F (ok_posts_in c F) (bd_pos F 1 rfl fun _ _ _ _ _ _ us hl => match us, hl with | [_], _ => rfl)
end
end Kx
end

section
namespace Kx
open PySem PySem.Spec PyProof.Rows L2 PySem.W Fz Mm
section
variable {P : Program} {w : World} {K : PySem.W.Frag} {mg : Str → Option Value} {base : Heap} {f : Addr} {fd : FuncData}
theorem sc_sets_of : FnScope ["fuses", "most", "found", "fuse", "some"] ["fuses", "most"] (defScope (top 24)) := ⟨rfl, rfl, rfl, by decide +kernel, rfl, by decide +kernel, by decide +kernel⟩
theorem ok_sets_of (cc : C K mg base) (F : FnP K "sets_of" (top 24) f fd) : FnG P w K mg base 2 f fd ["fuses", "most"] (conc K (aspC (.u2 m_sets_of))) := by
  have bn := bn cc
  refine fn_c2 F sc_sets_of rfl fun cdv A outer s H E fuses most S hr gd => ?_
  have nd := sc_sets_of.nd
  have ok := XOk.def_ (P := P) (w := w) (K := K) (mg := mg) (base := base) (N := ["fuses", "most", "found", "fuse", "some"]) (qual := "sets_of") (scope := defScope (top 24)) (f := f) (cd := cdv) (A := A) (outer := outer) (s := s) (H := H) (E := E) nd gd
  unfold m_sets_of
  exact (zx_set 2 (zn_lst (zna_cons zn_str zna_nil)) (fun found => (zx_for 3 (fun (v1 : D) => [some fuses, some most, some v1, none, none]) (fun v1 => []) found (zni_seq (zn_var 0)) (fun v1 fuse => (zx_set 2 (zn_bin o_add (zn_var 2) (zn_lc 4 nd (zni_seq (zn_var 2)) (fun some_ _ _ _ _ _ => (zn_bin o_add (zn_var 4) (zn_var 3))))) (fun found => (zx_nxL found)))) (fun v1 => (zx_ret (zn_srt hr bn rfl (zn_lcF 4 nd (zni_seq (zn_var 2)) (fun some_ _ _ _ _ _ => (zq_cmp o_le (zn_len bn (zn_var 4)) (zn_var 1))) (fun some_ _ _ _ _ _ => (zn_var 4)))))))))
theorem a_sets_of (c : C K mg base) : AC P w K mg base 2 "sets_of" 2 [] (fun ds _ => aspC (.u2 m_sets_of) ds) := by
  obtain ⟨fd, F⟩ := c.td 18 (d := (dd "sets_of" (top 24) []))
  exact ac_of c 48 rfl F (ok_sets_of c F) (bd_pos F 2 rfl fun _ _ _ _ _ _ us hl => match us, hl with | [_, _], _ => rfl)
end
end Kx
end

section
namespace Kx
open PySem PySem.Spec PyProof.Rows L2 PySem.W Fz Mm
section
variable {P : Program} {w : World} {K : PySem.W.Frag} {mg : Str → Option Value} {base : Heap} {f : Addr} {fd : FuncData}
theorem sc_all_pairs : FnScope ["rule", "blown", "some", "k", "j"] ["rule", "blown"] (defScope (top 31)) := ⟨rfl, rfl, rfl, by decide +kernel, rfl, by decide +kernel, by decide +kernel⟩
theorem ok_all_pairs (cc : C K mg base) (F : FnP K "all_pairs" (top 31) f fd) : FnG P w K mg base 3 f fd ["rule", "blown"] (conc K (aspC (.u2 m_all_pairs))) := by
  have bn := bn cc
  have a_sets_of := a_sets_of (P := P) (w := w) cc
  have a_Rule_fuses := a_Rule_fuses (P := P) (w := w) cc
  refine fn_c2 F sc_all_pairs rfl fun cdv A outer s H E rule_ blown S hr gd => ?_
  have nd := sc_all_pairs.nd
  have ok := XOk.def_ (P := P) (w := w) (K := K) (mg := mg) (base := base) (N := ["rule", "blown", "some", "k", "j"]) (qual := "all_pairs") (scope := defScope (top 31)) (f := f) (cd := cdv) (A := A) (outer := outer) (s := s) (H := H) (E := E) nd gd
  unfold m_all_pairs
  exact (zx_set 2 (zn_c2 a_sets_of hr (by decide) (zn_mt0 a_Rule_fuses hr (by decide) (zn_var 0)) (zn_var 1)) (fun some_ => (zx_ret (zn_lc2 3 4 nd (zni_range1 bn (zn_len bn (zn_var 2))) (fun k _ _ _ _ _ => (zni_range2 bn (zn_bin o_add (zn_var 3) zn_int) (zn_len bn (zn_var 2)))) (fun k j _ _ _ _ _ => (zn_tup (zna_cons (zn_ix (zn_var 2) (zn_var 3)) (zna_cons (zn_ix (zn_var 2) (zn_var 4)) zna_nil))))))))
theorem a_all_pairs (c : C K mg base) : AC P w K mg base 3 "all_pairs" 2 [] (fun ds _ => aspC (.u2 m_all_pairs) ds) := by
  obtain ⟨fd, F⟩ := c.td 19 (d := (dd "all_pairs" (top 31) []))
  exact ac_of c 49 rfl F (ok_all_pairs c F) (bd_pos F 2 rfl fun _ _ _ _ _ _ us hl => match us, hl with | [_, _], _ => rfl)
end
end Kx
end

section
namespace Kx
open PySem PySem.Spec PyProof.Rows L2 PySem.W Fz Mm
section
variable {P : Program} {w : World} {K : PySem.W.Frag} {mg : Str → Option Value} {base : Heap} {f : Addr} {fd : FuncData}
theorem sc_is_out : FnScope ["item", "blown", "fuse"] ["item", "blown"] (defScope (top 20)) := ⟨rfl, rfl, rfl, by decide +kernel, rfl, by decide +kernel, by decide +kernel⟩
theorem ok_is_out (cc : C K mg base) (F : FnP K "is_out" (top 20) f fd) : FnG P w K mg base 2 f fd ["item", "blown"] (conc K (aspC (.u2 m_is_out))) := by
  have bn := bn cc
  refine fn_c2 F sc_is_out rfl fun cdv A outer s H E item blown S hr gd => ?_
  have nd := sc_is_out.nd
  have ok := XOk.def_ (P := P) (w := w) (K := K) (mg := mg) (base := base) (N := ["item", "blown", "fuse"]) (qual := "is_out") (scope := defScope (top 20)) (f := f) (cd := cdv) (A := A) (outer := outer) (s := s) (H := H) (E := E) nd gd
  unfold m_is_out
  exact (zx_ret (zn_all rfl bn (zn_lc 2 nd (zni_seq (zn_var 0)) (fun fuse _ _ _ _ _ => (zn_cmp o_in (zn_var 2) (zn_var 1))))))
theorem a_is_out (c : C K mg base) : AC P w K mg base 2 "is_out" 2 [] (fun ds _ => aspC (.u2 m_is_out) ds) := by
  obtain ⟨fd, F⟩ := c.td 20 (d := (dd "is_out" (top 20) []))
  exact ac_of c 50 rfl F (ok_is_out c F) (bd_pos F 2 rfl fun _ _ _ _ _ _ us hl => match us, hl with | [_, _], _ => rfl)
end
end Kx
end

section
namespace Kx
open PySem PySem.Spec PyProof.Rows L2 PySem.W Fz Mm
section
variable {P : Program} {w : World} {K : PySem.W.Frag} {mg : Str → Option Value} {base : Heap} {f : Addr} {fd : FuncData}
theorem sc_only_by : FnScope ["rule", "one", "other", "posts", "flags", "item", "post"] ["rule", "one", "other", "posts"] (defScope (top 29)) := ⟨rfl, rfl, rfl, by decide +kernel, rfl, by decide +kernel, by decide +kernel⟩
theorem ok_only_by (cc : C K mg base) (F : FnP K "only_by" (top 29) f fd) : FnG P w K mg base 3 f fd ["rule", "one", "other", "posts"] (conc K (aspC (.u4 m_only_by))) := by
  have bn := bn cc
  have f_Rule_parts := fl_Rule_parts cc
  have a_is_out := a_is_out (P := P) (w := w) cc
  refine fn_c4 F sc_only_by rfl fun cdv A outer s H E rule_ one other posts S hr gd => ?_
  have nd := sc_only_by.nd
  have ok := XOk.def_ (P := P) (w := w) (K := K) (mg := mg) (base := base) (N := ["rule", "one", "other", "posts", "flags", "item", "post"]) (qual := "only_by") (scope := defScope (top 29)) (f := f) (cd := cdv) (A := A) (outer := outer) (s := s) (H := H) (E := E) nd gd
  unfold m_only_by
  exact (zx_set 4 (zn_lc 5 nd (zni_seq (zn_fld f_Rule_parts (zn_var 0))) (fun item _ _ _ _ _ => (zn_and (zn_c2 a_is_out hr (by decide) (zn_var 5) (zn_var 1)) (zn_one (zn_notD (zn_c2 a_is_out hr (by decide) (zn_var 5) (zn_var 2))))))) (fun flags => (zx_ret (zn_lcF 6 nd (zni_seq (zn_var 3)) (fun post _ _ _ _ _ => (zq_tru (zn_ix (zn_var 4) (zn_bin o_mod (zn_var 6) (zn_len bn (zn_var 4)))))) (fun post _ _ _ _ _ => (zn_var 6))))))
theorem a_only_by (c : C K mg base) : AC P w K mg base 3 "only_by" 4 [] (fun ds _ => aspC (.u4 m_only_by) ds) := by
  obtain ⟨fd, F⟩ := c.td 21 (d := (dd "only_by" (top 29) []))
  exact ac_of c 51 rfl F (ok_only_by c F) (bd_pos F 4 rfl fun _ _ _ _ _ _ us hl => match us, hl with | [_, _, _, _], _ => rfl)
end
end Kx
end

section
namespace Kx
open PySem PySem.Spec PyProof.Rows L2 PySem.W Fz Mm
section
variable {P : Program} {w : World} {K : PySem.W.Frag} {mg : Str → Option Value} {base : Heap} {f : Addr} {fd : FuncData}
theorem sc_are_alike : FnScope ["rule", "one", "other", "dead", "posts"] ["rule", "one", "other", "dead", "posts"] (defScope (top 30)) := ⟨rfl, rfl, rfl, by decide +kernel, rfl, by decide +kernel, by decide +kernel⟩
theorem ok_are_alike (cc : C K mg base) (F : FnP K "are_alike" (top 30) f fd) : FnG P w K mg base 4 f fd ["rule", "one", "other", "dead", "posts"] (conc K (aspC (.u5 m_are_alike))) := by
  have bn := bn cc
  have a_only_by := a_only_by (P := P) (w := w) cc
  refine fn_c5 F sc_are_alike rfl fun cdv A outer s H E rule_ one other dead posts S hr gd => ?_
  have nd := sc_are_alike.nd
  have ok := XOk.def_ (P := P) (w := w) (K := K) (mg := mg) (base := base) (N := ["rule", "one", "other", "dead", "posts"]) (qual := "are_alike") (scope := defScope (top 30)) (f := f) (cd := cdv) (A := A) (outer := outer) (s := s) (H := H) (E := E) nd gd
  unfold m_are_alike
  exact (zx_ret (zn_and (zn_cmp o_le (zn_len bn (zn_c4 a_only_by hr (by decide) (zna_cons (zn_var 0) (zna_cons (zn_var 1) (zna_cons (zn_var 2) (zna_cons (zn_var 4) zna_nil)))))) (zn_var 3)) (zn_one (zn_cmp o_le (zn_len bn (zn_c4 a_only_by hr (by decide) (zna_cons (zn_var 0) (zna_cons (zn_var 2) (zna_cons (zn_var 1) (zna_cons (zn_var 4) zna_nil)))))) (zn_var 3)))))
theorem a_are_alike (c : C K mg base) : AC P w K mg base 4 "are_alike" 5 [] (fun ds _ => aspC (.u5 m_are_alike) ds) := by
  obtain ⟨fd, F⟩ := c.td 22 (d := (dd "are_alike" (top 30) []))
  exact ac_of c 52 rfl F (ok_are_alike c F) (bd_pos F 5 rfl fun _ _ _ _ _ _ us hl => match us, hl with | [_, _, _, _, _], _ => rfl)
end
end Kx
end

section
namespace Kx
open PySem PySem.Spec PyProof.Rows L2 PySem.W Fz Mm
section
variable {P : Program} {w : World} {K : PySem.W.Frag} {mg : Str → Option Value} {base : Heap} {f : Addr} {fd : FuncData}
theorem sc_pairs_alike : FnScope ["rule", "blown", "dead", "windows", "posts", "pair"] ["rule", "blown", "dead", "windows"] (defScope (top 33)) := ⟨rfl, rfl, rfl, by decide +kernel, rfl, by decide +kernel, by decide +kernel⟩
theorem ok_pairs_alike (cc : C K mg base) (F : FnP K "pairs_alike" (top 33) f fd) : FnG P w K mg base 7 f fd ["rule", "blown", "dead", "windows"] (conc K (aspC (.u4 m_pairs_alike))) := by
  have bn := bn cc
  have a_check_asked := a_check_asked (P := P) (w := w) cc
  have a_check_windows := a_check_windows (P := P) (w := w) cc
  have a_posts_in := a_posts_in (P := P) (w := w) cc
  have a_all_pairs := a_all_pairs (P := P) (w := w) cc
  have a_are_alike := a_are_alike (P := P) (w := w) cc
  refine fn_c4 F sc_pairs_alike rfl fun cdv A outer s H E rule_ blown dead windows S hr gd => ?_
  have nd := sc_pairs_alike.nd
  have ok := XOk.def_ (P := P) (w := w) (K := K) (mg := mg) (base := base) (N := ["rule", "blown", "dead", "windows", "posts", "pair"]) (qual := "pairs_alike") (scope := defScope (top 33)) (f := f) (cd := cdv) (A := A) (outer := outer) (s := s) (H := H) (E := E) nd gd
  unfold m_pairs_alike
  exact (zx_expr (zn_c3 a_check_asked hr (by decide) (zn_var 0) (zn_var 1) (zn_var 2)) (zx_expr (zn_c1 a_check_windows hr (by decide) (zn_var 3)) (zx_set 4 (zn_c1 a_posts_in hr (by decide) (zn_var 3)) (fun posts => (zx_ret (zn_tuple bn (zn_lcF 5 nd (zni_seq (zn_c2 a_all_pairs hr (by decide) (zn_var 0) (zn_var 1))) (fun pair _ _ _ _ _ => (zq_n (zn_c5 a_are_alike hr (by decide) (zna_cons (zn_var 0) (zna_cons (zn_ix (zn_var 5) zn_int) (zna_cons (zn_ix (zn_var 5) zn_int) (zna_cons (zn_var 2) (zna_cons (zn_var 4) zna_nil)))))))) (fun pair _ _ _ _ _ => (zn_var 5)))))))))
theorem a_pairs_alike (c : C K mg base) : AC P w K mg base 7 "pairs_alike" 4 [] (fun ds _ => aspC (.u4 m_pairs_alike) ds) := by
  obtain ⟨fd, F⟩ := c.td 23 (d := (dd "pairs_alike" (top 33) []))
  exact ac_of c 53 rfl F (ok_pairs_alike c F) (bd_pos F 4 rfl fun _ _ _ _ _ _ us hl => match us, hl with | [_, _, _, _], _ => rfl)
theorem a_pairs_alike_p0_windows_dead_blown_rule (c : C K mg base) : AC P w K mg base 7 "pairs_alike" 0 ["windows", "dead", "blown", "rule"] (fun ds es => aspC (.u4 m_pairs_alike) (pick [3, 2, 1, 0] (ds ++ es))) := by
  obtain ⟨fd, F⟩ := c.td 23 (d := (dd "pairs_alike" (top 33) []))
  exact ac_of c 53 rfl F (ok_pairs_alike c F) (bd_perm F 0 ["windows", "dead", "blown", "rule"] [3, 2, 1, 0] fun _ _ _ _ _ _ us ws l1 l2 => match us, ws, l1, l2 with | [], [_, _, _, _], _, _ => rfl)
end
end Kx
end

section
namespace Kx
open PySem PySem.Spec PyProof.Rows L2 PySem.W Fz Mm
section
variable {P : Program} {w : World} {K : PySem.W.Frag} {mg : Str → Option Value} {base : Heap} {f : Addr} {fd : FuncData}
theorem sc_can_tell : FnScope ["rule", "blown", "dead", "windows"] ["rule", "blown", "dead", "windows"] (defScope (top 34)) := ⟨rfl, rfl, rfl, by decide +kernel, rfl, by decide +kernel, by decide +kernel⟩
theorem ok_can_tell (cc : C K mg base) (F : FnP K "can_tell" (top 34) f fd) : FnG P w K mg base 8 f fd ["rule", "blown", "dead", "windows"] (conc K (aspC (.u4 m_can_tell))) := by
  have bn := bn cc
  have a_pairs_alike := a_pairs_alike (P := P) (w := w) cc
  refine fn_c4 F sc_can_tell rfl fun cdv A outer s H E rule_ blown dead windows S hr gd => ?_
  have nd := sc_can_tell.nd
  have ok := XOk.def_ (P := P) (w := w) (K := K) (mg := mg) (base := base) (N := ["rule", "blown", "dead", "windows"]) (qual := "can_tell") (scope := defScope (top 34)) (f := f) (cd := cdv) (A := A) (outer := outer) (s := s) (H := H) (E := E) nd gd
  unfold m_can_tell
  exact (zx_ret (zn_cmp (o_eq hr) (zn_c4 a_pairs_alike hr (by decide) (zna_cons (zn_var 0) (zna_cons (zn_var 1) (zna_cons (zn_var 2) (zna_cons (zn_var 3) zna_nil))))) (zn_tup zna_nil)))
theorem a_can_tell (c : C K mg base) : AC P w K mg base 8 "can_tell" 4 [] (fun ds _ => aspC (.u4 m_can_tell) ds) := by
  obtain ⟨fd, F⟩ := c.td 24 (d := (dd "can_tell" (top 34) []))
  exact ac_of c 54 rfl F (ok_can_tell c F) (bd_pos F 4 rfl fun _ _ _ _ _ _ us hl => match us, hl with | [_, _, _, _], _ => rfl)
theorem a_can_tell_p0_windows_dead_blown_rule (c : C K mg base) : AC P w K mg base 8 "can_tell" 0 ["windows", "dead", "blown", "rule"] (fun ds es => aspC (.u4 m_can_tell) (pick [3, 2, 1, 0] (ds ++ es))) := by
  obtain ⟨fd, F⟩ := c.td 24 (d := (dd "can_tell" (top 34) []))
  exact ac_of c 54 rfl F (ok_can_tell c F) (bd_perm F 0 ["windows", "dead", "blown", "rule"] [3, 2, 1, 0] fun _ _ _ _ _ _ us ws l1 l2 => match us, ws, l1, l2 with | [], [_, _, _, _], _, _ => rfl)
end
end Kx
end

section
namespace Kx
open PySem PySem.Spec PyProof.Rows L2 PySem.W Fz Mm
section
variable {P : Program} {w : World} {K : PySem.W.Frag} {mg : Str → Option Value} {base : Heap} {f : Addr} {fd : FuncData}
abbrev nDraw : List Str := ["_law_bag_here", "_law_wide", "_law_figure", "_law_held", "_law_times"]
theorem scDraw : FnScope nDraw ["_law_bag_here", "_law_wide"] (defScope (top 37)) := ⟨rfl, rfl, rfl, by decide +kernel, rfl, by decide +kernel, by decide +kernel⟩
theorem okDraw (cc : C K mg base) (F : FnP K "_law_draw" (top 37) f fd) : FnG P w K mg base 1 f fd ["_law_bag_here", "_law_wide"] (conc K spDraw) := by
  have bn := bn cc
  refine fn_g F scDraw (fun ds S Q E ⟨p, i, w, e, _⟩ => by rw [e]; rfl) fun cdv A outer s H E ds S aQ aE hr gd ⟨p, i, wd, e, hi, w1, w2, q⟩ => ?_
  subst e
  refine zs_open hi fun a b c ha hb => ?_
  have hl := (List.getElem?_eq_some_iff.mp hi).1
  have cell : ∀ {ds : List D}, (S.set i (p, Cell.lst ds))[i]? = some (p, .lst ds) := List.getElem?_set_self hl
  refine zput (zv_add (zv_ixC (zn 0) zv_int cell rfl) zv_int) (zn 0) zv_int cell rfl (List.set_set ..) ?_
  refine zif (zb_c (zc_gt (zv_ixC (zn 0) zv_int cell rfl) zv_int)) ?_
  have fin : ∀ {e : Expr} {Γ : Gam} {a b c r : Int}, 0 ≤ a → 0 ≤ b → 0 ≤ r → r < wd → ZV (cxOf (L2.CX P w) P w K mg base nDraw "_law_draw" (defScope (top 37)) f cdv A outer s H E) e Γ (S.set i (p, .lst [.int a, .int b, .int c])) (.int r) → ZE (cxOf (L2.CX P w) P w K mg base nDraw "_law_draw" (defScope (top 37)) f cdv A outer s H E) aE e Γ (S.set i (p, .lst [.int a, .int b, .int c])) aQ := fun {e Γ a b c r} h1 h2 h3 h4 h => ze_shut (k := i) (h.ze ⟨S, opens_of hi rfl h1 h2, q r h3 h4⟩)
  by_cases h0 : 0 < a
  · rw [if_pos (decide_eq_true h0)]
    refine zsetV 2 (zv_mod (zv_toInt bn (zv_ixC (zn 0) zv_int cell rfl)) (zn 1) (by omega)) ?_
    refine zput (zv_fdiv (zv_ixC (zn 0) zv_int cell rfl) (zn 1) ⟨by omega, by omega⟩) (zn 0) zv_int cell rfl (List.set_set ..) ?_
    exact zret (fin (Int.ediv_nonneg ha (by omega)) hb (Int.emod_nonneg _ (by omega)) (Int.emod_lt_of_pos _ (by omega)) (zn 2))
  · rw [if_neg (by simpa using h0)]
    refine zs_nil ?_
    refine zsetV 3 (zv_add (zv_toInt bn (zv_ixC (zn 0) zv_int cell rfl)) (zv_mul zv_int (zv_ixC (zn 0) zv_int cell rfl) (.inl ⟨by decide, by decide⟩))) ?_
    refine zsetV 4 (zv_add (zv_mod (zv_toInt bn (zn 3)) zv_int (by decide)) zv_int) ?_
    refine zput (zv_mod (zv_toInt bn (zv_add (zv_add (zv_mul (zn 3) (zn 4) (.inr ⟨by omega, by omega⟩)) (zv_mul zv_int (zv_ixC (zn 0) zv_int cell rfl) (.inl ⟨by decide, by decide⟩))) zv_int)) zv_int (by decide)) (zn 0) zv_int cell rfl (List.set_set ..) ?_
    exact zret (fin ha (Int.emod_nonneg _ (by decide)) (Int.emod_nonneg _ (by omega)) (Int.emod_lt_of_pos _ (by omega)) (zv_mod (zv_fdiv (zv_toInt bn (zv_ixC (zn 0) zv_int cell rfl)) zv_int ⟨by decide, by decide⟩) (zn 1) (by omega)))
theorem aDraw (c : C K mg base) : AC P w K mg base 1 "_law_draw" 2 [] (fun ds _ => spDraw ds) := by
  obtain ⟨fd, F⟩ := c.td 0 (d := (dd "_law_draw" (top 37) []))
  exact ac_of c 21 rfl F (okDraw c F) (bd_pos F 2 rfl fun _ _ _ _ _ _ us hl => match us, hl with | [_, _], _ => rfl)

theorem a__law_draw (c : C K mg base) : AC P w K mg base 1 "_law_draw" 2 [] (fun ds _ => aspB (.u1 m__law_draw) ds) := AC.imp (aDraw c) fun ds es S Q Ex h => draw_ask h
end
end Kx
end

section
namespace Kx
open PySem PySem.Spec PyProof.Rows L2 PySem.W Fz Mm
section
variable {P : Program} {w : World} {K : PySem.W.Frag} {mg : Str → Option Value} {base : Heap} {f : Addr} {fd : FuncData}
theorem sc__law_one : FnScope ["_law_bag_here", "_law_some"] ["_law_bag_here", "_law_some"] (defScope (top 38)) := ⟨rfl, rfl, rfl, by decide +kernel, rfl, by decide +kernel, by decide +kernel⟩
theorem ok__law_one (cc : C K mg base) (F : FnP K "_law_one" (top 38) f fd) : FnG P w K mg base 2 f fd ["_law_bag_here", "_law_some"] (conc K (aspB (.u1 m__law_one))) := by
  have bn := bn cc
  have a__law_draw := a__law_draw (P := P) (w := w) cc
  refine fn_b1 F sc__law_one rfl fun cdv A outer s H E p i some_ S hr gd hb => ?_
  have nd := sc__law_one.nd
  have ok := XOk.def_ (P := P) (w := w) (K := K) (mg := mg) (base := base) (N := ["_law_bag_here", "_law_some"]) (qual := "_law_one") (scope := defScope (top 38)) (f := f) (cd := cdv) (A := A) (outer := outer) (s := s) (H := H) (E := E) nd gd
  unfold m__law_one
  exact (zx_ret (zn_ix (zn_var 1) (zn_cB1 a__law_draw hr (by decide) hb (zn_var 0) (zn_len bn (zn_var 1)))))
theorem a__law_one (c : C K mg base) : AC P w K mg base 2 "_law_one" 2 [] (fun ds _ => aspB (.u1 m__law_one) ds) := by
  obtain ⟨fd, F⟩ := c.td 25 (d := (dd "_law_one" (top 38) []))
  exact ac_of c 55 rfl F (ok__law_one c F) (bd_pos F 2 rfl fun _ _ _ _ _ _ us hl => match us, hl with | [_, _], _ => rfl)
end
end Kx
end

section
namespace Kx
open PySem PySem.Spec PyProof.Rows L2 PySem.W Fz Mm
section
variable {P : Program} {w : World} {K : PySem.W.Frag} {mg : Str → Option Value} {base : Heap} {f : Addr} {fd : FuncData}
theorem sc__law_items : FnScope ["_law_bag_here", "_law_most", "_law_wide", "_law_names", "_law_k", "_law_pairs", "_law_found", "_law_here", "_law_there"] ["_law_bag_here", "_law_most", "_law_wide"] (defScope (top 39)) := ⟨rfl, rfl, rfl, by decide +kernel, rfl, by decide +kernel, by decide +kernel⟩
theorem ok__law_items (cc : C K mg base) (F : FnP K "_law_items" (top 39) f fd) : FnG P w K mg base 3 f fd ["_law_bag_here", "_law_most", "_law_wide"] (conc K (aspB (.u2 m__law_items))) := by
  have bn := bn cc
  have a__law_draw := a__law_draw (P := P) (w := w) cc
  have a__law_one := a__law_one (P := P) (w := w) cc
  refine fn_b2 F sc__law_items rfl fun cdv A outer s H E p i most wide S hr gd hb => ?_
  have nd := sc__law_items.nd
  have ok := XOk.def_ (P := P) (w := w) (K := K) (mg := mg) (base := base) (N := ["_law_bag_here", "_law_most", "_law_wide", "_law_names", "_law_k", "_law_pairs", "_law_found", "_law_here", "_law_there"]) (qual := "_law_items") (scope := defScope (top 39)) (f := f) (cd := cdv) (A := A) (outer := outer) (s := s) (H := H) (E := E) nd gd
  unfold m__law_items
  exact (zx_set 3 (zn_slTo zn_str (zn_bin o_add zn_int (zn_cB1 a__law_draw hr (by decide) hb (zn_var 0) (zn_var 2)))) (fun names => (zx_parVN0 5 6 (zn_cmp (o_eq hr) (zn_cB1 a__law_draw hr (by decide) hb (zn_var 0) zn_int) zn_int) (fun pairs p1 => (zx_for 4 (fun (v2 : List D) => [some (.ref p), some most, some wide, some names, none, some pairs, some (.ref p1), none, none]) (fun v2 => [(p1, .lst (v2))]) ([]) (zni_range1 bn (zn_bin o_add zn_int (zn_cB1 a__law_draw hr (by decide) hb (zn_var 0) (zn_var 1)))) (fun v2 k => (zx_par 7 8 (zn_cB1 a__law_one hr (by decide) hb (zn_var 0) (zn_var 3)) (zn_cB1 a__law_one hr (by decide) hb (zn_var 0) (zn_var 3)) (fun here there => (zx_app 0 rfl (zn_var 6) (zn_if (zqw_and (zq_cmp (o_ne hr) (zn_var 7) (zn_var 8)) (zqw_and1 (zq_tru (zn_var 5)))).q (zn_join zn_str (zn_srt hr bn rfl (zn_lst (zna_cons (zn_var 7) (zna_cons (zn_var 8) zna_nil))))) (zn_var 7)) (fun y5 => (zx_nxL (v2 ++ [y5]))) (zn 6))))) (fun v2 => (zx_ice 0 6 rfl rfl (zx_ret (zn_var 6)))))))))
theorem a__law_items (c : C K mg base) : AC P w K mg base 3 "_law_items" 3 [] (fun ds _ => aspB (.u2 m__law_items) ds) := by
  obtain ⟨fd, F⟩ := c.td 26 (d := (dd "_law_items" (top 39) []))
  exact ac_of c 56 rfl F (ok__law_items c F) (bd_pos F 3 rfl fun _ _ _ _ _ _ us hl => match us, hl with | [_, _, _], _ => rfl)
end
end Kx
end

section
namespace Kx
open PySem PySem.Spec PyProof.Rows L2 PySem.W Fz Mm
section
variable {P : Program} {w : World} {K : PySem.W.Frag} {mg : Str → Option Value} {base : Heap} {f : Addr} {fd : FuncData}
theorem sc__law_windows : FnScope ["_law_bag_here", "_law_far", "_law_k", "_law_start", "_law_found"] ["_law_bag_here", "_law_far"] (defScope (top 47)) := ⟨rfl, rfl, rfl, by decide +kernel, rfl, by decide +kernel, by decide +kernel⟩
theorem ok__law_windows (cc : C K mg base) (F : FnP K "_law_windows" (top 47) f fd) : FnG P w K mg base 3 f fd ["_law_bag_here", "_law_far"] (conc K (aspB (.u1 m__law_windows))) := by
  have bn := bn cc
  have a__law_one := a__law_one (P := P) (w := w) cc
  have a__law_draw := a__law_draw (P := P) (w := w) cc
  refine fn_b1 F sc__law_windows rfl fun cdv A outer s H E p i far S hr gd hb => ?_
  have nd := sc__law_windows.nd
  have ok := XOk.def_ (P := P) (w := w) (K := K) (mg := mg) (base := base) (N := ["_law_bag_here", "_law_far", "_law_k", "_law_start", "_law_found"]) (qual := "_law_windows") (scope := defScope (top 47)) (f := f) (cd := cdv) (A := A) (outer := outer) (s := s) (H := H) (E := E) nd gd
  unfold m__law_windows
  exact (zx_parVN0 3 4 (zn_cB1 a__law_one hr (by decide) hb (zn_var 0) (zn_lst (zna_cons zn_int (zna_cons zn_int (zna_cons (zn_cB1 a__law_draw hr (by decide) hb (zn_var 0) zn_int) (zna_cons (zn_var 1) zna_nil)))))) (fun start p1 => (zx_for 2 (fun (v2 : List D) => [some (.ref p), some far, none, some start, some (.ref p1)]) (fun v2 => [(p1, .lst (v2))]) ([]) (zni_range1 bn (zn_bin o_add zn_int (zn_cB1 a__law_draw hr (by decide) hb (zn_var 0) zn_int))) (fun v2 k => (zx_app 0 rfl (zn_var 4) (zn_tup (zna_cons (zn_bin o_add (zn_var 3) (zn_cB1 a__law_draw hr (by decide) hb (zn_var 0) zn_int)) (zna_cons (zn_bin o_add zn_int (zn_cB1 a__law_draw hr (by decide) hb (zn_var 0) zn_int)) zna_nil))) (fun y3 => (zx_nxL (v2 ++ [y3]))) (zn 4))) (fun v2 => (zx_ice 0 4 rfl rfl (zx_ret (zn_tuple bn (zn_var 4))))))))
theorem a__law_windows (c : C K mg base) : AC P w K mg base 3 "_law_windows" 2 [] (fun ds _ => aspB (.u1 m__law_windows) ds) := by
  obtain ⟨fd, F⟩ := c.td 27 (d := (dd "_law_windows" (top 47) []))
  exact ac_of c 57 rfl F (ok__law_windows c F) (bd_pos F 2 rfl fun _ _ _ _ _ _ us hl => match us, hl with | [_, _], _ => rfl)
end
end Kx
end

section
namespace Kx
open PySem PySem.Spec PyProof.Rows L2 PySem.W Fz Mm
section
variable {P : Program} {w : World} {K : PySem.W.Frag} {mg : Str → Option Value} {base : Heap} {f : Addr} {fd : FuncData}
theorem sc__law_sets : FnScope ["_law_fuses_here", "_law_most", "_law_found", "_law_letter", "_law_some"] ["_law_fuses_here", "_law_most"] (defScope (top 45)) := ⟨rfl, rfl, rfl, by decide +kernel, rfl, by decide +kernel, by decide +kernel⟩
theorem ok__law_sets (cc : C K mg base) (F : FnP K "_law_sets" (top 45) f fd) : FnG P w K mg base 2 f fd ["_law_fuses_here", "_law_most"] (conc K (aspC (.u2 m__law_sets))) := by
  have bn := bn cc
  refine fn_c2 F sc__law_sets rfl fun cdv A outer s H E fuses most S hr gd => ?_
  have nd := sc__law_sets.nd
  have ok := XOk.def_ (P := P) (w := w) (K := K) (mg := mg) (base := base) (N := ["_law_fuses_here", "_law_most", "_law_found", "_law_letter", "_law_some"]) (qual := "_law_sets") (scope := defScope (top 45)) (f := f) (cd := cdv) (A := A) (outer := outer) (s := s) (H := H) (E := E) nd gd
  unfold m__law_sets
  exact (zx_set 2 (zn_lst (zna_cons zn_str zna_nil)) (fun found => (zx_for 3 (fun (v1 : D) => [some fuses, some most, some v1, none, none]) (fun v1 => []) found (zni_seq (zn_var 0)) (fun v1 letter => (zx_set 2 (zn_bin o_add (zn_var 2) (zn_lc 4 nd (zni_seq (zn_var 2)) (fun some_ _ _ _ _ _ => (zn_bin o_add (zn_var 4) (zn_var 3))))) (fun found => (zx_nxL found)))) (fun v1 => (zx_ret (zn_srt hr bn rfl (zn_lcF 4 nd (zni_seq (zn_var 2)) (fun some_ _ _ _ _ _ => (zq_cmp o_le (zn_len bn (zn_var 4)) (zn_var 1))) (fun some_ _ _ _ _ _ => (zn_var 4)))))))))
theorem a__law_sets (c : C K mg base) : AC P w K mg base 2 "_law_sets" 2 [] (fun ds _ => aspC (.u2 m__law_sets) ds) := by
  obtain ⟨fd, F⟩ := c.td 28 (d := (dd "_law_sets" (top 45) []))
  exact ac_of c 58 rfl F (ok__law_sets c F) (bd_pos F 2 rfl fun _ _ _ _ _ _ us hl => match us, hl with | [_, _], _ => rfl)
end
end Kx
end

section
namespace Kx
open PySem PySem.Spec PyProof.Rows L2 PySem.W Fz Mm
section
variable {P : Program} {w : World} {K : PySem.W.Frag} {mg : Str → Option Value} {base : Heap} {f : Addr} {fd : FuncData}
theorem sc__law_places : FnScope ["_law_windows_here", "_law_found", "_law_start", "_law_size", "_law_k"] ["_law_windows_here"] (defScope (top 48)) := ⟨rfl, rfl, rfl, by decide +kernel, rfl, by decide +kernel, by decide +kernel⟩
theorem ok__law_places (cc : C K mg base) (F : FnP K "_law_places" (top 48) f fd) : FnG P w K mg base 2 f fd ["_law_windows_here"] (conc K (aspC (.u1 m__law_places))) := by
  have bn := bn cc
  refine fn_c1 F sc__law_places rfl fun cdv A outer s H E windows S hr gd => ?_
  have nd := sc__law_places.nd
  have ok := XOk.def_ (P := P) (w := w) (K := K) (mg := mg) (base := base) (N := ["_law_windows_here", "_law_found", "_law_start", "_law_size", "_law_k"]) (qual := "_law_places") (scope := defScope (top 48)) (f := f) (cd := cdv) (A := A) (outer := outer) (s := s) (H := H) (E := E) nd gd
  unfold m__law_places
  exact (zx_set 1 (zn_lst zna_nil) (fun found => (zx_forP 2 3 (fun (v1 : D) => [some windows, some v1, none, none, none]) (fun v1 => []) found (zni_seq (zn_var 0)) nd (fun v1 start size => (zx_set 1 (zn_bin o_add (zn_var 1) (zn_lcF 4 nd (zni_range1 bn (zn_var 3)) (fun k _ _ _ _ _ => (zq_cmp o_ni (zn_bin o_add (zn_var 2) (zn_var 4)) (zn_var 1))) (fun k _ _ _ _ _ => (zn_bin o_add (zn_var 2) (zn_var 4))))) (fun found => (zx_nxL found)))) (fun v1 => (zx_ret (zn_srt hr bn rfl (zn_var 1)))))))
theorem a__law_places (c : C K mg base) : AC P w K mg base 2 "_law_places" 1 [] (fun ds _ => aspC (.u1 m__law_places) ds) := by
  obtain ⟨fd, F⟩ := c.td 29 (d := (dd "_law_places" (top 48) []))
  exact ac_of c 59 rfl F (ok__law_places c F) (bd_pos F 1 rfl fun _ _ _ _ _ _ us hl => match us, hl with | [_], _ => rfl)
end
end Kx
end

section
namespace Kx
open PySem PySem.Spec PyProof.Rows L2 PySem.W Fz Mm
section
variable {P : Program} {w : World} {K : PySem.W.Frag} {mg : Str → Option Value} {base : Heap} {f : Addr} {fd : FuncData}
theorem sc__law_fuses : FnScope ["_law_items_here"] ["_law_items_here"] (defScope (top 44)) := ⟨rfl, rfl, rfl, by decide +kernel, rfl, by decide +kernel, by decide +kernel⟩
theorem ok__law_fuses (cc : C K mg base) (F : FnP K "_law_fuses" (top 44) f fd) : FnG P w K mg base 2 f fd ["_law_items_here"] (conc K (aspC (.u1 m__law_fuses))) := by
  have bn := bn cc
  refine fn_c1 F sc__law_fuses rfl fun cdv A outer s H E items S hr gd => ?_
  have nd := sc__law_fuses.nd
  have ok := XOk.def_ (P := P) (w := w) (K := K) (mg := mg) (base := base) (N := ["_law_items_here"]) (qual := "_law_fuses") (scope := defScope (top 44)) (f := f) (cd := cdv) (A := A) (outer := outer) (s := s) (H := H) (E := E) nd gd
  unfold m__law_fuses
  exact (zx_ret (zn_join zn_str (zn_sortSet hr bn (zn_join zn_str (zn_var 0)))))
theorem a__law_fuses (c : C K mg base) : AC P w K mg base 2 "_law_fuses" 1 [] (fun ds _ => aspC (.u1 m__law_fuses) ds) := by
  obtain ⟨fd, F⟩ := c.td 30 (d := (dd "_law_fuses" (top 44) []))
  exact ac_of c 60 rfl F (ok__law_fuses c F) (bd_pos F 1 rfl fun _ _ _ _ _ _ us hl => match us, hl with | [_], _ => rfl)
end
end Kx
end

section
namespace Kx
open PySem PySem.Spec PyProof.Rows L2 PySem.W Fz Mm
section
variable {P : Program} {w : World} {K : PySem.W.Frag} {mg : Str → Option Value} {base : Heap} {f : Addr} {fd : FuncData}
theorem sc__law_is_out : FnScope ["_law_item", "_law_blown_here", "_law_letter"] ["_law_item", "_law_blown_here"] (defScope (top 42)) := ⟨rfl, rfl, rfl, by decide +kernel, rfl, by decide +kernel, by decide +kernel⟩
theorem ok__law_is_out (cc : C K mg base) (F : FnP K "_law_is_out" (top 42) f fd) : FnG P w K mg base 2 f fd ["_law_item", "_law_blown_here"] (conc K (aspC (.u2 m__law_is_out))) := by
  have bn := bn cc
  refine fn_c2 F sc__law_is_out rfl fun cdv A outer s H E item blown S hr gd => ?_
  have nd := sc__law_is_out.nd
  have ok := XOk.def_ (P := P) (w := w) (K := K) (mg := mg) (base := base) (N := ["_law_item", "_law_blown_here", "_law_letter"]) (qual := "_law_is_out") (scope := defScope (top 42)) (f := f) (cd := cdv) (A := A) (outer := outer) (s := s) (H := H) (E := E) nd gd
  unfold m__law_is_out
  exact (zx_ret (zn_cmp (o_eq hr) (zn_lcF 2 nd (zni_seq (zn_var 0)) (fun letter _ _ _ _ _ => (zq_cmp o_ni (zn_var 2) (zn_var 1))) (fun letter _ _ _ _ _ => (zn_var 2))) (zn_lst zna_nil)))
theorem a__law_is_out (c : C K mg base) : AC P w K mg base 2 "_law_is_out" 2 [] (fun ds _ => aspC (.u2 m__law_is_out) ds) := by
  obtain ⟨fd, F⟩ := c.td 31 (d := (dd "_law_is_out" (top 42) []))
  exact ac_of c 61 rfl F (ok__law_is_out c F) (bd_pos F 2 rfl fun _ _ _ _ _ _ us hl => match us, hl with | [_, _], _ => rfl)
end
end Kx
end

section
namespace Kx
open PySem PySem.Spec PyProof.Rows L2 PySem.W Fz Mm
section
variable {P : Program} {w : World} {K : PySem.W.Frag} {mg : Str → Option Value} {base : Heap} {f : Addr} {fd : FuncData}
theorem sc__law_darkened : FnScope ["_law_items_here", "_law_blown_here", "_law_places_here", "_law_place"] ["_law_items_here", "_law_blown_here", "_law_places_here"] (defScope (top 49)) := ⟨rfl, rfl, rfl, by decide +kernel, rfl, by decide +kernel, by decide +kernel⟩
theorem ok__law_darkened (cc : C K mg base) (F : FnP K "_law_darkened" (top 49) f fd) : FnG P w K mg base 3 f fd ["_law_items_here", "_law_blown_here", "_law_places_here"] (conc K (aspC (.u3 m__law_darkened))) := by
  have bn := bn cc
  have a__law_is_out := a__law_is_out (P := P) (w := w) cc
  refine fn_c3 F sc__law_darkened rfl fun cdv A outer s H E items blown places S hr gd => ?_
  have nd := sc__law_darkened.nd
  have ok := XOk.def_ (P := P) (w := w) (K := K) (mg := mg) (base := base) (N := ["_law_items_here", "_law_blown_here", "_law_places_here", "_law_place"]) (qual := "_law_darkened") (scope := defScope (top 49)) (f := f) (cd := cdv) (A := A) (outer := outer) (s := s) (H := H) (E := E) nd gd
  unfold m__law_darkened
  exact (zx_ret (zn_lcF 3 nd (zni_seq (zn_var 2)) (fun place _ _ _ _ _ => (zq_n (zn_c2 a__law_is_out hr (by decide) (zn_ix (zn_var 0) (zn_bin o_mod (zn_toInt bn (zn_var 3)) (zn_len bn (zn_var 0)))) (zn_var 1)))) (fun place _ _ _ _ _ => (zn_var 3))))
theorem a__law_darkened (c : C K mg base) : AC P w K mg base 3 "_law_darkened" 3 [] (fun ds _ => aspC (.u3 m__law_darkened) ds) := by
  obtain ⟨fd, F⟩ := c.td 32 (d := (dd "_law_darkened" (top 49) []))
  exact ac_of c 62 rfl F (ok__law_darkened c F) (bd_pos F 3 rfl fun _ _ _ _ _ _ us hl => match us, hl with | [_, _, _], _ => rfl)
end
end Kx
end

section
namespace Kx
open PySem PySem.Spec PyProof.Rows L2 PySem.W Fz Mm
section
variable {P : Program} {w : World} {K : PySem.W.Frag} {mg : Str → Option Value} {base : Heap} {f : Addr} {fd : FuncData}
theorem sc__law_same_look : FnScope ["_law_items_here", "_law_one_set", "_law_two_set", "_law_spare", "_law_places_here", "_law_here", "_law_there", "_law_place"] ["_law_items_here", "_law_one_set", "_law_two_set", "_law_spare", "_law_places_here"] (defScope (top 50)) := ⟨rfl, rfl, rfl, by decide +kernel, rfl, by decide +kernel, by decide +kernel⟩
theorem ok__law_same_look (cc : C K mg base) (F : FnP K "_law_same_look" (top 50) f fd) : FnG P w K mg base 4 f fd ["_law_items_here", "_law_one_set", "_law_two_set", "_law_spare", "_law_places_here"] (conc K (aspC (.u5 m__law_same_look))) := by
  have bn := bn cc
  have a__law_darkened := a__law_darkened (P := P) (w := w) cc
  refine fn_c5 F sc__law_same_look rfl fun cdv A outer s H E items one_set two_set spare places S hr gd => ?_
  have nd := sc__law_same_look.nd
  have ok := XOk.def_ (P := P) (w := w) (K := K) (mg := mg) (base := base) (N := ["_law_items_here", "_law_one_set", "_law_two_set", "_law_spare", "_law_places_here", "_law_here", "_law_there", "_law_place"]) (qual := "_law_same_look") (scope := defScope (top 50)) (f := f) (cd := cdv) (A := A) (outer := outer) (s := s) (H := H) (E := E) nd gd
  unfold m__law_same_look
  exact (zx_unp 5 6 (zn_tup (zna_cons (zn_c3 a__law_darkened hr (by decide) (zn_var 0) (zn_var 1) (zn_var 4)) (zna_cons (zn_c3 a__law_darkened hr (by decide) (zn_var 0) (zn_var 2) (zn_var 4)) zna_nil))) (fun here there => (zx_ifR (zq_cmp o_gt (zn_len bn (zn_lcF 7 nd (zni_seq (zn_var 5)) (fun place _ _ _ _ _ => (zq_cmp o_ni (zn_var 7) (zn_var 6))) (fun place _ _ _ _ _ => (zn_var 7)))) (zn_var 3)) (zx_retI zn_bl) (zx_ret (zn_cmp o_le (zn_len bn (zn_lcF 7 nd (zni_seq (zn_var 6)) (fun place _ _ _ _ _ => (zq_cmp o_ni (zn_var 7) (zn_var 5))) (fun place _ _ _ _ _ => (zn_var 7)))) (zn_var 3))))) nd)
theorem a__law_same_look (c : C K mg base) : AC P w K mg base 4 "_law_same_look" 5 [] (fun ds _ => aspC (.u5 m__law_same_look) ds) := by
  obtain ⟨fd, F⟩ := c.td 33 (d := (dd "_law_same_look" (top 50) []))
  exact ac_of c 63 rfl F (ok__law_same_look c F) (bd_pos F 5 rfl fun _ _ _ _ _ _ us hl => match us, hl with | [_, _, _, _, _], _ => rfl)
end
end Kx
end

section
namespace Kx
open PySem PySem.Spec PyProof.Rows L2 PySem.W Fz Mm
section
variable {P : Program} {w : World} {K : PySem.W.Frag} {mg : Str → Option Value} {base : Heap} {f : Addr} {fd : FuncData}
theorem sc__law_right : FnScope ["_law_bag_here", "_law_turn", "_law_k", "_law_told", "_law_hooks", "_law_most", "_law_spare", "_law_mine", "_law_seen_here", "_law_some", "_law_places_here", "_law_due", "_law_j"] ["_law_bag_here"] (defScope (top 51)) := ⟨rfl, rfl, rfl, by decide +kernel, rfl, by decide +kernel, by decide +kernel⟩
theorem ok__law_right (cc : C K mg base) (F : FnP K "_law_right" (top 51) f fd) : FnG P w K mg base 9 f fd ["_law_bag_here"] (conc K (aspB (.u0 m__law_right))) := by
  have bn := bn cc
  have a__law_items := a__law_items (P := P) (w := w) cc
  have a__law_draw := a__law_draw (P := P) (w := w) cc
  have a__law_one := a__law_one (P := P) (w := w) cc
  have a_Rule := a_Rule (P := P) (w := w) cc
  have a__law_windows := a__law_windows (P := P) (w := w) cc
  have a__law_sets := a__law_sets (P := P) (w := w) cc
  have a__law_fuses := a__law_fuses (P := P) (w := w) cc
  have a__law_places := a__law_places (P := P) (w := w) cc
  have a__law_same_look := a__law_same_look (P := P) (w := w) cc
  have a_pairs_alike := a_pairs_alike (P := P) (w := w) cc
  have a_pairs_alike_p0_windows_dead_blown_rule := a_pairs_alike_p0_windows_dead_blown_rule (P := P) (w := w) cc
  have a_can_tell := a_can_tell (P := P) (w := w) cc
  have a_can_tell_p0_windows_dead_blown_rule := a_can_tell_p0_windows_dead_blown_rule (P := P) (w := w) cc
  refine fn_b0 F sc__law_right rfl fun cdv A outer s H E p i  S hr gd hb => ?_
  have nd := sc__law_right.nd
  have ok := XOk.def_ (P := P) (w := w) (K := K) (mg := mg) (base := base) (N := ["_law_bag_here", "_law_turn", "_law_k", "_law_told", "_law_hooks", "_law_most", "_law_spare", "_law_mine", "_law_seen_here", "_law_some", "_law_places_here", "_law_due", "_law_j"]) (qual := "_law_right") (scope := defScope (top 51)) (f := f) (cd := cdv) (A := A) (outer := outer) (s := s) (H := H) (E := E) nd gd
  unfold m__law_right
  exact (zx_for 1 (fun (v1 : Unit) => [some (.ref p), none, none, none, none, none, none, none, none, none, none, none, none]) (fun v1 => []) () (zni_range1 bn zn_int) (fun v1 turn => (zx_par3 4 5 6 (zn_cB2 a__law_items hr (by decide) hb (zn_var 0) zn_int zn_int) (zn_cB1 a__law_draw hr (by decide) hb (zn_var 0) zn_int) (zn_cB1 a__law_one hr (by decide) hb (zn_var 0) (zn_lst (zna_cons zn_int (zna_cons zn_int (zna_cons zn_int (zna_cons (zn_cB1 a__law_draw hr (by decide) hb (zn_var 0) zn_int) zna_nil)))))) (fun hooks most spare => (zx_par 7 8 (zn_c1 a_Rule hr (by decide) (zn_join zn_str (zn_var 4))) (zn_cB1 a__law_windows hr (by decide) hb (zn_var 0) (zn_bin o_pow zn_int zn_int)) (fun mine seen => (zx_par3N0 9 10 11 (zn_c2 a__law_sets hr (by decide) (zn_c1 a__law_fuses hr (by decide) (zn_var 4)) (zn_var 5)) (zn_c1 a__law_places hr (by decide) (zn_var 8)) (fun some_ places p7 => (zx_for 2 (fun (v8 : List D) => [some (.ref p), some turn, none, none, some hooks, some most, some spare, some mine, some seen, some some_, some places, some (.ref p7), none]) (fun v8 => [(p7, .lst (v8))]) ([]) (zni_range1 bn (zn_len bn (zn_var 9))) (fun v8 k => (zx_for 12 (fun (v9 : List D) => [some (.ref p), some turn, some k, none, some hooks, some most, some spare, some mine, some seen, some some_, some places, some (.ref p7), none]) (fun v9 => [(p7, .lst (v9))]) v8 (zni_range2 bn (zn_bin o_add (zn_var 2) zn_int) (zn_len bn (zn_var 9))) (fun v9 j => (zx_ifE (zq_n (zn_c5 a__law_same_look hr (by decide) (zna_cons (zn_var 4) (zna_cons (zn_ix (zn_var 9) (zn_var 2)) (zna_cons (zn_ix (zn_var 9) (zn_var 12)) (zna_cons (zn_var 6) (zna_cons (zn_var 10) zna_nil))))))) (zx_app 0 rfl (zn_var 11) (zn_tup (zna_cons (zn_ix (zn_var 9) (zn_var 2)) (zna_cons (zn_ix (zn_var 9) (zn_var 12)) zna_nil))) (fun y10 => (zx_nxL (v9 ++ [y10]))) (zn 11)) (zx_nxL v9))) (fun v9 => (zx_nxL v9)))) (fun v8 => (zx_new 3 (zna_cons (zn_c4 a_pairs_alike hr (by decide) (zna_cons (zn_var 7) (zna_cons (zn_var 5) (zna_cons (zn_var 6) (zna_cons (zn_var 8) zna_nil))))) zna_nil) (fun p12 told13 => (zx_app 1 rfl (zn_var 3) (zn_k04 a_pairs_alike_p0_windows_dead_blown_rule hr (by decide) (znk_cons (zn_var 8) (znk_cons (zn_var 6) (znk_cons (zn_var 5) (znk_cons (zn_var 7) znk_nil))))) (fun y14 => (zx_ifR (zq_cmp (o_ne hr) (zn_peek' (ps := [p12]) (SeenG.self.set (i := 3) rfl (.lst (own_at (k := 0) (t := 1) rfl) (by simp))) (zn_repr hr bn gd (zn_var 3))) (zn_peek' (ps := [p7]) (SeenG.self.set (i := 11) rfl (.lst (own_at (k := 0) (t := 0) rfl) (by simp))) (zn_repr hr bn gd (zn_bin o_mul (zn_lst (zna_cons (zn_tuple bn (zn_var 11)) zna_nil)) zn_int)))) (zx_retU zn_bl) (zx_ice 1 3 rfl rfl (zx_new 3 (zna_cons (zn_c4 a_can_tell hr (by decide) (zna_cons (zn_var 7) (zna_cons (zn_var 5) (zna_cons (zn_var 6) (zna_cons (zn_var 8) zna_nil))))) (zna_cons (zn_k04 a_can_tell_p0_windows_dead_blown_rule hr (by decide) (znk_cons (zn_var 8) (znk_cons (zn_var 6) (znk_cons (zn_var 5) (znk_cons (zn_var 7) znk_nil))))) zna_nil)) (fun p15 told16 => (zx_ifE (zq_cmp (o_ne hr) (zn_peek' (ps := [p15]) (SeenG.self.set (i := 3) rfl (.lst (own_at (k := 0) (t := 1) rfl) (by simp))) (zn_repr hr bn gd (zn_var 3))) (zn_repr hr bn gd (zn_bin o_mul (zn_lst (zna_cons (zn_peek' (ps := [p7]) (SeenG.self.set (i := 11) rfl (.lst (own_at (k := 0) (t := 0) rfl) (by simp))) (zn_cmp (o_eq hr) (zn_var 11) (zn_lst zna_nil))) zna_nil)) zn_int))) (zx_retU zn_bl) (zx_ice 0 11 rfl rfl (zx_ice 0 3 rfl rfl (zx_nxL ()))))))))) (zn 3))))))))))))) (fun v1 => (zx_ret zn_bl)))
theorem a__law_right (c : C K mg base) : AC P w K mg base 9 "_law_right" 1 [] (fun ds _ => aspB (.u0 m__law_right) ds) := by
  obtain ⟨fd, F⟩ := c.td 34 (d := (dd "_law_right" (top 51) []))
  exact ac_of c 64 rfl F (ok__law_right c F) (bd_pos F 1 rfl fun _ _ _ _ _ _ us hl => match us, hl with | [_], _ => rfl)
end
end Kx
end

section
namespace Kx
open PySem PySem.Spec PyProof.Rows L2 PySem.W Fz Mm
section
variable {P : Program} {w : World} {K : PySem.W.Frag} {mg : Str → Option Value} {base : Heap} {f : Addr} {fd : FuncData}
abbrev nBag : List Str := ["_law_script", "_law_k", "_law_held_cell", "_law_seed", "_law_this", "_law_figures"]
theorem scBag : FnScope nBag ["_law_script", "_law_k"] (defScope (top 36)) := ⟨rfl, rfl, rfl, by decide +kernel, rfl, by decide +kernel, by decide +kernel⟩
theorem okBag (c : C K mg base) (F : FnP K "_law_bag" (top 36) f fd) : FnG P w K mg base 1 f fd ["_law_script", "_law_k"] (conc K spBag) := by
  have bn := bn c
  refine fn_g F scBag (fun ds S Q E ⟨p, i, e, _⟩ => by rw [e]; rfl) fun cdv A outer s H E ds S aQ aE hr gd ⟨ns, k, e, hk, hn, q⟩ => ?_
  subst e
  refine zpar 2 3 ((zv_ifI (x := ns.getD k 0) (zb_c (zc_lt (zn 1) (zv_len bn (zn 0)))) (fun h => zv_toInt bn (zv_ix (zn 0) (zn 1) ?_)) fun _ => zv_int).ze ((zv_mul zv_int (zv_add (zn 1) zv_int) (.inl ⟨by decide, by decide⟩)).ze ?_))
  · have hk : k < ns.length := by simpa using h
    show (atI ns k).map D.int = _
    rw [atI_lit rfl (List.getElem?_eq_getElem hk), List.getD_eq_getElem?_getD, List.getElem?_eq_getElem hk]
    rfl
  generalize (if decide ((k : Int) < (ns.length : Int)) = true then ns.getD k 0 else 0) = z
  refine zfor (fun a : Int => [some (.scr ns), some (.int k), some (.int z), some (.int a), none, none]) (fun _ => S) (fun _ a => 0 ≤ a) (90001 * ((k : Int) + 5)) (ziv_seq (zv_sliceTo (zn 0) zv_int)) (by repeat constructor) rfl (by omega) (fun i d a hi ha => zgn 4 ?_) fun a ha => ?_
  · obtain ⟨x, hx, rfl⟩ := map_get hi
    refine zsetV 3 (zv_mod (zv_toInt bn (zv_add (zv_add (zv_mul (zn 3) zv_int (.inr ⟨by decide, by decide⟩)) (zv_mod (zv_toInt bn (zn 4)) zv_int (by decide))) (zv_mul zv_int (zn 1) (.inl ⟨by decide, by decide⟩)))) zv_int (by decide)) (zs_nil ⟨_, by repeat constructor, rfl, Int.emod_nonneg _ (by decide)⟩)
  refine zsetV 5 (zv_ifI (x := if z < 0 then -z else z) (y := 0) (zb_or (es := []) (zb_c (zc_lt (zn 2) zv_int)) fun _ => zb_c (zc_ge (zn 2) (zv_pow zv_int zv_int ⟨by decide, by decide, by decide⟩))) (fun _ => zv_abs bn (zn 2)) fun _ => zv_int) ?_
  refine zret (ze_bag (ZL.za (zl_cons (zn 5) (zl_cons (zv_mod (zv_toInt bn (zv_add (zn 3) (zv_mul zv_int (zv_mod (zv_toInt bn (zn 2)) zv_int (by decide)) (.inl ⟨by decide, by decide⟩)))) zv_int (by decide)) (zl_cons zv_int zl_nil))) ?_))
  refine ⟨_, _, _, rfl, ?_, Int.emod_nonneg _ (by decide), q⟩
  split
  · split <;> omega
  · omega
theorem aBag (c : C K mg base) : AC P w K mg base 1 "_law_bag" 2 [] (fun ds _ => spBag ds) := by
  obtain ⟨fd, F⟩ := c.td 1 (d := (dd "_law_bag" (top 36) []))
  exact ac_of c 22 rfl F (okBag c F) (bd_pos F 2 rfl fun _ _ _ _ _ _ us hl => match us, hl with | [_, _], _ => rfl)
end
end Kx
end

section
namespace Kx
open PySem PySem.Spec PyProof.Rows L2 PySem.W Fz Mm
section
variable {P : Program} {w : World} {K : PySem.W.Frag} {mg : Str → Option Value} {base : Heap} {f : Addr} {fd : FuncData}
theorem sc_law : FnScope ["_law_script", "_law_mine", "_law_k"] ["_law_script"] (defScope (top 52)) := ⟨rfl, rfl, rfl, by decide +kernel, rfl, by decide +kernel, by decide +kernel⟩
theorem ok_law (cc : C K mg base) (F : FnP K "law" (top 52) f fd) : FnG P w K mg base 10 f fd ["_law_script"] (conc K (aspC (.u1 m_law))) := by
  have bn := bn cc
  have a_Rule := a_Rule (P := P) (w := w) cc
  have a_can_tell := a_can_tell (P := P) (w := w) cc
  have a_pairs_alike := a_pairs_alike (P := P) (w := w) cc
  have a__law_right := a__law_right (P := P) (w := w) cc
  have a__law_bag := aBag (P := P) (w := w) cc
  refine fn_c1 F sc_law rfl fun cdv A outer s H E script S hr gd => ?_
  have nd := sc_law.nd
  have ok := XOk.def_ (P := P) (w := w) (K := K) (mg := mg) (base := base) (N := ["_law_script", "_law_mine", "_law_k"]) (qual := "law") (scope := defScope (top 52)) (f := f) (cd := cdv) (A := A) (outer := outer) (s := s) (H := H) (E := E) nd gd
  unfold m_law
  exact (zx_set 1 (zn_c1 a_Rule hr (by decide) zn_str) (fun mine => (zx_ifR (zq_cmp o_inb (zn_c4 a_can_tell hr (by decide) (zna_cons (zn_var 1) (zna_cons zn_int (zna_cons zn_int (zna_cons (zn_bin o_mulT (zn_tup (zna_cons (zn_tup (zna_cons zn_int (zna_cons zn_int zna_nil))) zna_nil)) zn_int) zna_nil))))) zn_bl) (zx_retI zn_bl) (zx_ifR (zqw_or (zq_cmp o_inb (zn_c4 a_can_tell hr (by decide) (zna_cons (zn_var 1) (zna_cons zn_int (zna_cons zn_int (zna_cons (zn_tup (zna_cons (zn_tup (zna_cons zn_int (zna_cons zn_int zna_nil))) zna_nil)) zna_nil))))) zn_bl) (zqw_or1 (zq_cmp (o_ne hr) (zn_c4 a_pairs_alike hr (by decide) (zna_cons (zn_var 1) (zna_cons zn_int (zna_cons zn_int (zna_cons (zn_tup (zna_cons (zn_tup (zna_cons zn_int (zna_cons zn_int zna_nil))) zna_nil)) zna_nil))))) (zn_tup (zna_cons (zn_tup (zna_cons zn_str (zna_cons zn_str zna_nil))) zna_nil))))).q (zx_retI zn_bl) (zx_ret (zn_all rfl bn (zn_lc 2 nd (zni_range1 bn (zn_max2 rfl bn zn_int (zn_min2 rfl bn (zn_len bn (zn_var 0)) zn_int))) (fun k _ _ _ _ _ => (zn_bagged a__law_bag a__law_right hr (by decide) (by decide) (zn_var 0) (zn_var 2))))))))))
theorem a_law (c : C K mg base) : AC P w K mg base 10 "law" 1 [] (fun ds _ => aspC (.u1 m_law) ds) := by
  obtain ⟨fd, F⟩ := c.td 35 (d := (dd "law" (top 52) []))
  exact ac_of c 65 rfl F (ok_law c F) (bd_pos F 1 rfl fun _ _ _ _ _ _ us hl => match us, hl with | [_], _ => rfl)
end
end Kx
end

section
/-! what the small defs compute, on data of the kinds that come -/
namespace Mm
open PySem PySem.Spec PyProof.Rows L2 PySem.W Fz
/-! ### checks -/
theorem fuses_ok {x : List Nat} (h : x.length < 100000) : m_are_fuses (.str x) = .ok (.bl (fusesB x)) := by
  unfold m_are_fuses
  simp only [Cm.its_ok, itemsOf_str, Cm.opt_some, Cm.isa_ok, isaO_str, subT_self, Cm.notC_ok, Bool.not_true]
  rw [Cm.comp_of (g := fun c => .bl (decide (c ∈ LET))) (fun c _ => by simp [inO_chr]; rfl) (by omega)]
  simp only [Cm.b1_ok, allO_map, Cm.opt_some, Cm.toB_ok, Cm.notC_ok, Cm.orC_okk, Bool.false_or, Cm.cnd_ok, lenO_str, Cm.b2_ok, subO_int]
  have hn : ((x.length : Int) - 1).toNat = x.length - 1 := by omega
  have hr : Cm.rng1 (.ok (.int ((x.length : Int) - 1))) = .ok (range0 (x.length - 1)) := by
    show Cm.asr _ _ = _
    rw [Cm.asr_true (by omega), hn]
  rw [hr, Cm.comp_of (g := fun k => .bl (decide ([x.getD k 0] < [x.getD (k + 1) 0]))) (fun k hk => ?_) (by rw [List.length_range]; omega)]
  · simp only [Cm.b1_ok, allO_map, Cm.opt_some]
    unfold fusesB upB
    cases (x.all fun c => decide (c ∈ LET)) <;> rfl
  · have hk' : k < x.length - 1 := List.mem_range.mp hk
    have e1 : ixD (.str x) (k : Int) = some (.str [x.getD k 0]) := ix_str rfl (by omega)
    have e2 : ixD (.str x) ((k : Int) + 1) = some (.str [x.getD (k + 1) 0]) := ix_str (by omega) (by omega)
    simp only [Cm.b2_ok, ixO_int, e1, addO_int, Cm.opt_some, e2, Cm.q2_ok, ltO_str, Cm.ofB_ok]
theorem integer_ok {i : Int} : m_is_integer (.int i) = .ok (.bl true) := by
  unfold m_is_integer
  simp [subT]
theorem between_ok {i a b : Int} : m_is_between (.int i) (.int a) (.int b) = .ok (.bl (decide (a ≤ i) && decide (i ≤ b))) := by
  unfold m_is_between
  simp only [Cm.c1_ok, integer_ok, Cm.andV_ok, cond_true, Cm.q3_ok, leO_int, Cm.opt_some, Cm.ok_bind]
  cases decide (a ≤ i) <;> rfl
end Mm
end

section
/-! evenings -/
namespace Mm
open PySem PySem.Spec PyProof.Rows L2 PySem.W Fz
abbrev obE (x : List Nat) (ns : List Int) : D := .obj 0 "Evening" (evF x ns)
theorem put1 (w : D) : putG "blown" w [] = ([("blown", w)] : Flds) := rfl
theorem put2 (w v : D) : putG "dead" v ([("blown", w)] : Flds) = ([("blown", w), ("dead", v)] : Flds) := by
  unfold putG
  rw [if_neg (by decide)]
  rfl
theorem fld_blown {x ns} : Cm.fld "Evening" "blown" (.ok (obE x ns)) = .ok (.str x) := rfl
theorem fld_dead {x ns} : Cm.fld "Evening" "dead" (.ok (obE x ns)) = .ok (.tup (nums ns)) := rfl
theorem neO_nums {ns ms : List Int} : neO (.tup (nums ns)) (.tup (nums ms)) = some (!decide (ns = ms)) := by
  unfold neO
  rw [dat_ints, dat_ints, deq_ints]; rfl
theorem eqO_nums {ns ms : List Int} : eqO (.tup (nums ns)) (.tup (nums ms)) = some (decide (ns = ms)) := by
  unfold eqO
  rw [dat_ints, dat_ints, deq_ints]; rfl
theorem tup_nil : Cm.tupC .nil = .ok (.tup (nums [])) := Cm.asr_true (by decide) _
theorem strs_of {ns : List Int} (h : postsOk ns) : Cm.comp (.ok (nums ns)) (fun post => Cm.b1 strO (.ok post)) = .ok (.lst ((ns.map intS).map .str)) := by
  rw [Cm.comp_of (g := fun n => .str (intS n)) (fun n hn => ?_) (by have := h.1; omega), List.map_map]
  · rfl
  · show Cm.opt (if n.natAbs.log2 < 1920 then _ else _) = _
    rw [if_pos (log_small (h.2 n hn))]; rfl
theorem eve_tru {x : List Nat} {ns : List Int} : Cm.truI "Evening" (.ok (obE x ns)) = .ok true := by
  show (if ("Evening" : PySem.Str) = "Evening" then Cm.ok true else .st) = _
  rw [if_pos rfl]
end Mm
end

section
/-! rules -/
namespace Mm
open PySem PySem.Spec PyProof.Rows L2 PySem.W Fz
abbrev obR (z : List Nat) (its : List (List Nat)) : D := .obj 0 "Rule" (ruleF z its)
theorem item_ok {x : List Nat} (h : x.length < 100000) : Cm.andV (.c1 m_are_fuses (.ok (.str x))) (.ofB (.q3 leO leO (.ok (.int 1)) (.b1 lenO (.ok (.str x))) (.ok (.int 2)))) = .ok (.bl (itemB x)) := by
  rw [Cm.c1_ok, fuses_ok h, Cm.b1_ok, lenO_str, Cm.opt_some, Cm.andV_ok, Cm.q3_ok, leO_int, leO_int, Cm.opt_some, Cm.ok_bind, Cm.opt_some]
  unfold itemB
  cases fusesB x <;> cases decide ((1 : Int) ≤ (x.length : Int)) <;> rfl
theorem items_ok {z : List Nat} (hz : z.length < 100000) : m_items_in (.str z) = .ok (itemsD (itemsIn z)) := by
  unfold m_items_in
  have hcount := split_count 32 z
  have e1 : splitO (.str z) (.str [32]) = some (.lst ((splitL 32 z).map .str)) := by
    show (if (32 < 256 ∧ z.length ≤ 16777000) then some (D.lst ((splitL 32 z).map .str)) else none) = _
    rw [if_pos ⟨by decide, by omega⟩]
  rw [codes_sp, Cm.isa_ok, isaO_str, subT_self, Cm.opt_some, Cm.notC_ok, Bool.not_true, Cm.cnd_ok, cond_false, Cm.t2_ok, e1, Cm.opt_some, Cm.ok_bind, Cm.b1_ok, lenO_lst, Cm.opt_some, Cm.q2_ok, gtO_int, Cm.opt_some, Cm.its_ok, itemsOf_lst, Cm.opt_some]
  rw [Cm.comp_of (g := fun x => .bl (itemB x)) (fun x hx => item_ok (by have := split_len hx; omega)) (by omega), Cm.b1_ok, allO_map, Cm.opt_some, Cm.toB_ok, Cm.notC_ok, Cm.orC_okk, Cm.cnd_ok, Cm.b1_ok, tupO_lst, Cm.opt_some, List.length_map]
  unfold itemsIn
  cases h : (decide ((12 : Int) < ((splitL 32 z).length : Int)) || !((splitL 32 z).all itemB)) with
  | true => rfl
  | false => rfl
theorem putR1 (w : D) : putG "text" w [] = ([("text", w)] : Flds) := rfl
theorem putR2 (w v : D) : putG "parts" v ([("text", w)] : Flds) = ([("text", w), ("parts", v)] : Flds) := by
  unfold putG
  rw [if_neg (by decide)]
  rfl
theorem rule_ok {z : List Nat} {its : List (List Nat)} (hz : z.length < 100000) (hi : itemsIn z = some its) : m_Rule (.str z) = .ok (obR z its) := by
  unfold m_Rule m_Rule___init__
  rw [Cm.c1_ok, items_ok hz, hi, Cm.ok_bind]
  rw [show itemsD (some its) = D.tup (its.map .str) from rfl, Cm.isN_ok, isNon_tup, Cm.cnd_ok, cond_false, Cm.ok_bind, putR1]
  rw [Cm.ok_bind, putR2, Cm.asr_true, Cm.asr_true, Cm.mk_ok]
  · rfl
  · simp
  · simp
theorem fld_text {z its} : Cm.fld "Rule" "text" (.ok (obR z its)) = .ok (.str z) := rfl
theorem fld_parts {z its} : Cm.fld "Rule" "parts" (.ok (obR z its)) = .ok (.tup (its.map .str)) := rfl
theorem rlen_ok {z its} : m_Rule___len__ (obR z its) = .ok (.int (its.length : Int)) := by
  unfold m_Rule___len__
  rw [fld_parts, Cm.b1_ok, lenO_tup, Cm.opt_some, List.length_map]
theorem rstr_ok {z its} : m_Rule___str__ (obR z its) = .ok (.str z) := by
  unfold m_Rule___str__
  rw [fld_text, Cm.fmtC_str]
theorem req_ok {z y its its2} (hc : ("Rule" : PySem.Str) ∈ clsL) : m_Rule___eq__ (obR z its) (obR y its2) = .ok (.bl (decide (z = y))) := by
  unfold m_Rule___eq__
  rw [Cm.isa_ok, iscO_obj, if_pos hc, Cm.opt_some, fld_text, fld_text, Cm.q2_ok, eqO_str, Cm.opt_some, Cm.ofB_ok, Cm.ofB_ok, Cm.andV_ok, decide_eq_true (rfl : ("Rule" : PySem.Str) = "Rule"), cond_true]
theorem eqR {z y its its2} (hc : ("Rule" : PySem.Str) ∈ clsL) : Cm.eqC clsL "Rule" m_Rule___eq__ (.ok (obR z its)) (.ok (obR y its2)) = .ok (decide (z = y)) := by
  show (if ("Rule" : PySem.Str) = "Rule" then Cm.asr _ ((m_Rule___eq__ (obR z its) (obR y its2)).bind Cm.bI) else .st) = _
  rw [if_pos rfl, Cm.asr_true (.inr ⟨0, _, _, rfl, hc⟩), req_ok hc]; rfl
theorem cat_of {ss : List (List Nat)} (h : ss.flatten.length ≤ 16777000) : joinO (.str []) (.lst (ss.map .str)) = some (.str ss.flatten) ∧ joinO (.str []) (.tup (ss.map .str)) = some (.str ss.flatten) := by
  have hs : (ss.map List.length).sum + ss.length * ([] : List Nat).length ≤ 16777000 := by rw [sum_flat]; simpa using h
  exact ⟨by rw [joinO_lst hs, Fz.join_nil], by rw [joinO_tup hs, Fz.join_nil]⟩
theorem rfuses_ok {z : List Nat} {its : List (List Nat)} {q : D → Prop} {e : EX} (h : its.flatten.length < 3000) (hq : q (.str (fusesOf its))) : m_Rule_fuses (obR z its) q e := by
  unfold m_Rule_fuses
  have hu := len_uniq (lt := ltN) its.flatten
  rw [codes_no, fld_parts, Cm.t2_ok, (cat_of (show its.flatten.length ≤ 16777000 by omega)).2, Cm.opt_some]
  refine ⟨_, .inl ⟨_, rfl, by omega, rfl⟩, ?_⟩
  have e1 : joinO (.str []) (.lst ((uniq ltN its.flatten).map fun c => .str [c])) = some (.str (uniq ltN its.flatten)) := by
    have := (cat_of (ss := (uniq ltN its.flatten).map fun c => [c]) (by rw [flat_one]; omega)).1
    rw [List.map_map, flat_one] at this
    exact this
  show (Cm.opt (joinO (.str []) (.lst ((uniq ltN its.flatten).map fun c => .str [c])))) q e
  rw [e1]; exact hq
/-- whether an item is out -/
def outB (y x : List Nat) : Bool := x.all fun c => decide (c ∈ y)
theorem out_ok {x y : List Nat} (h : x.length < 100000) : m_is_out (.str x) (.str y) = .ok (.bl (outB y x)) := by
  unfold m_is_out
  rw [Cm.its_ok, itemsOf_str, Cm.opt_some, Cm.comp_of (g := fun c => .bl (decide (c ∈ y))) (fun c _ => by rw [Cm.q2_ok, inO_chr]; rfl) (by omega), Cm.b1_ok, allO_map]; rfl
end Mm
end

section
/-! checks of arguments, whether a post is dark -/
namespace Mm
open PySem PySem.Spec PyProof.Rows L2 PySem.W Fz
theorem isR {z its} (hc : ("Rule" : PySem.Str) ∈ clsL) : Cm.isa (iscO clsL "Rule") (.ok (obR z its)) = .ok true := by
  rw [Cm.isa_ok, iscO_obj, if_pos hc, decide_eq_true (rfl : ("Rule" : PySem.Str) = "Rule")]; rfl
theorem isE {x ns} (hc : ("Evening" : PySem.Str) ∈ clsL) : Cm.isa (iscO clsL "Evening") (.ok (obE x ns)) = .ok true := by
  rw [Cm.isa_ok, iscO_obj, if_pos hc, decide_eq_true (rfl : ("Evening" : PySem.Str) = "Evening")]; rfl
theorem crule_ok {z its} (hc : ("Rule" : PySem.Str) ∈ clsL) : m_check_rule (obR z its) = .ok .non := by
  unfold m_check_rule
  rw [isR hc, Cm.notC_ok, Cm.cnd_ok]; rfl
theorem cbet_ok {i a b : Int} (h1 : a ≤ i) (h2 : i ≤ b) : m_check_between (.int i) (.int a) (.int b) = .ok .non := by
  unfold m_check_between
  rw [Cm.c3_ok, between_ok, decide_eq_true h1, decide_eq_true h2, Bool.and_self, Cm.toB_ok, Cm.notC_ok, Cm.cnd_ok]; rfl
/-! ### the flags of a round -/
abbrev flagsD (its : List (List Nat)) (x : List Nat) : List D := its.map fun i => .bl (outB x i)
/-- whether the item of post p is out -/
def offAt (its : List (List Nat)) (x : List Nat) (p : Int) : Bool := outB x (its.getD (p % (its.length : Int)).toNat [])
theorem mod_of {p : Int} {n : Nat} (h : 0 < n) : Cm.b2 modO (.ok (.int p)) (.ok (.int n)) = .ok (.int (p % n)) := by
  rw [Cm.b2_ok]
  show Cm.opt (if (0 : Int) < n then _ else _) = _
  rw [if_pos (by omega)]; rfl
theorem ix_of {its : List (List Nat)} {x : List Nat} {p : Int} (h : its ≠ []) : Cm.b2 ixO (.ok (.lst (flagsD its x))) (.ok (.int (p % (its.length : Int)))) = .ok (.bl (offAt its x p)) := by
  have hl : 0 < its.length := List.length_pos_iff.mpr h
  have h0 : 0 ≤ p % (its.length : Int) := Int.emod_nonneg _ (by omega)
  have h1 : p % (its.length : Int) < its.length := Int.emod_lt_of_pos _ (by omega)
  have hk : (p % (its.length : Int)).toNat < its.length := by omega
  rw [Cm.b2_ok, ixO_int]
  show Cm.opt (atI (its.map fun i => D.bl (outB x i)) (p % (its.length : Int))) = _
  rw [atI_map, atI_lit (k := (p % (its.length : Int)).toNat) (by omega) (List.getElem?_eq_getElem hk)]
  unfold offAt
  rw [List.getD_eq_getElem?_getD, List.getElem?_eq_getElem hk]
  rfl
theorem off_of {its : List (List Nat)} {x : List Nat} {p : Int} (h : its ≠ []) : Cm.b2 ixO (.ok (.lst (flagsD its x))) (.b2 modO (.ok (.int p)) (.b1 lenO (.ok (.lst (flagsD its x))))) = .ok (.bl (offAt its x p)) := by
  rw [Cm.b1_ok, lenO_lst, Cm.opt_some, List.length_map, mod_of (List.length_pos_iff.mpr h), ix_of h]
/-! ### counts -/
theorem deq_true (b : Bool) : deq (.bl b) (.bl true) = b := by rw [deq_bl]; cases b <;> rfl
theorem count_of {its : List (List Nat)} {x : List Nat} : Cm.countC (.ok (.lst (flagsD its x))) (.ok (.bl true)) = .ok (.int (its.countP (outB x) : Nat)) := by
  show Cm.opt (Cm.countD (.lst (flagsD its x)) (.bl true)) = _
  have hf : (flagsD its x).all flatD = true := by rw [List.all_map]; exact List.all_eq_true.mpr fun _ _ => rfl
  show Cm.opt (if (flatD (.bl true) && (flagsD its x).all flatD) = true then some (D.int ((flagsD its x).countP fun y => deq y (.bl true) : Nat)) else none) = _
  rw [hf, if_pos (by rfl), List.countP_map]
  have : ((fun y => deq y (.bl true)) ∘ fun i => D.bl (outB x i)) = outB x := by funext i; exact deq_true _
  rw [this]; rfl
end Mm
end

section
/-! what is drawn: one of some, blown fuses, dead lamps -/
namespace Mm
open PySem PySem.Spec PyProof.Rows L2 PySem.W Fz
theorem one_post {x : D} {n : Nat} {q : D → Prop} {e : EX} (hl : lenD x = some n) (n1 : 1 ≤ n) (n2 : n < 100000) (hq : ∀ k : Nat, k < n → ∃ d, ixD x (k : Int) = some d ∧ q d) : m__law_one x q e := by
  unfold m__law_one
  have e1 : Cm.b1 lenO (.ok x) = .ok (.int n) := by rw [Cm.b1_ok]; unfold lenO; rw [hl]; rfl
  rw [e1]
  refine ⟨by omega, by omega, fun r h1 h2 => ?_⟩
  obtain ⟨d, h3, h4⟩ := hq r.toNat (by omega)
  rw [Int.toNat_of_nonneg h1] at h3
  show (Cm.opt (ixD x r)) q e
  rw [h3]; exact h4
theorem one_lst {ds : List D} {q : D → Prop} {e : EX} (n1 : 1 ≤ ds.length) (n2 : ds.length < 100000) (hq : ∀ d ∈ ds, q d) : m__law_one (.lst ds) q e :=
  one_post rfl n1 n2 fun k hk => ⟨ds[k], atI_lit rfl (List.getElem?_eq_getElem hk), hq _ (List.getElem_mem hk)⟩
theorem one_str {x : List Nat} {q : D → Prop} {e : EX} (n1 : 1 ≤ x.length) (n2 : x.length < 100000) (hq : ∀ c ∈ x, q (.str [c])) : m__law_one (.str x) q e :=
  one_post rfl n1 n2 fun k hk => ⟨.str [x.getD k 0], ix_str rfl hk, hq _ (by rw [List.getD_eq_getElem?_getD, List.getElem?_eq_getElem hk]; exact List.getElem_mem ..)⟩
end Mm
end

section
/-! items that are drawn -/
namespace Mm
open PySem PySem.Spec PyProof.Rows L2 PySem.W Fz
theorem two_ok {c d : Nat} {pb : Bool} {q : D → Prop} {e : EX} (h1 : q (.str [c])) (h2 : pb = true → c ≠ d → q (.str (if c ≤ d then [c, d] else [d, c]))) :
    (Cm.cnd (.andC (.q2 neO (.ok (.str [c])) (.ok (.str [d]))) (.tru (.ok (.bl pb)))) (.t2 joinO (.ok (.str (codes ""))) (.srtC (.lstC (.cons (.ok (.str [c])) (.cons (.ok (.str [d])) .nil))))) (.ok (.str [c]))) q e := by
  have e1 : Cm.lstC (.cons (.ok (.str [c])) (.cons (.ok (.str [d])) .nil)) = .ok (.lst ([[c], [d]].map .str)) := Cm.lstC_of (by show 2 ≤ _; decide)
  have e2 : Cm.srtC (.ok (D.lst ([[c], [d]].map D.str))) = (.ok (D.lst ((ssort [[c], [d]]).map D.str)) : Cm D) := by
    show Cm.asr (Srt ([[c], [d]].map D.str)) (.ok (D.lst (srt ([[c], [d]].map D.str)))) = _
    rw [Cm.asr_true (srtS (by show 2 ≤ _; decide)), srt_strs]
  have e3 : joinO (.str []) (.lst ((ssort [[c], [d]]).map .str)) = some (.str (if c ≤ d then [c, d] else [d, c])) := by
    rw [(cat_of (by rw [ssort2]; split <;> (show 2 ≤ _; decide))).1, ssort2]
    split <;> rfl
  rw [e1, e2, codes_no, Cm.t2_ok, e3, Cm.opt_some, Cm.q2_ok, neO_str, Cm.opt_some, Cm.tru_ok]
  show (Cm.cnd (.andC (.ok _) (.ok pb)) _ _) q e
  rw [Cm.andC_okk, Cm.cnd_ok]
  cases hb : (!decide ([c] = [d]) && pb) with
  | false => exact h1
  | true =>
    obtain ⟨h3, h4⟩ := Bool.and_eq_true_iff.mp hb
    exact h2 h4 fun e => by rw [e] at h3; simp at h3
theorem litems_post {m w : Nat} {q : D → Prop} {e : EX} (m1 : 1 ≤ m) (m2 : m ≤ 100) (w1 : 1 ≤ w) (w2 : w ≤ 6) (hq : ∀ its : List (List Nat), its ≠ [] → its.length ≤ m → (∀ x ∈ its, goodI w x) → q (.lst (its.map .str))) : m__law_items (.int m) (.int w) q e := by
  unfold m__law_items
  simp only [Cm.a_bind, Cm.a_ofB, Cm.a_q2, Cm.a_c1, Cm.a_ok]
  refine ⟨by omega, by omega, fun r h1 h2 => ?_⟩
  have e1 : sliceD (.str (codes "abcdef")) none (some (1 + r)) = some (.str (LET.take (1 + r).toNat)) := by
    show some (D.str (cut LET none (some (1 + r)))) = _
    rw [cut_to (by omega)]
  obtain ⟨v, hv⟩ : ∃ v : Nat, v = (1 + r).toNat := ⟨_, rfl⟩
  rw [← hv] at e1
  have v1 : 1 ≤ v := by omega
  have v2 : v ≤ w := by omega
  have lv : (LET.take v).length = v := by
    rw [List.length_take]
    have := let_len
    omega
  show (Cm.bnd (.ok (.int (1 + r))) fun h => Cm.opt (sliceD (.str (codes "abcdef")) none h)) _ e
  rw [Cm.bnd_ok, e1, Cm.opt_some, Cm.a_ok]
  refine ⟨by decide, by decide, fun r2 _ _ => ?_⟩
  show (Cm.opt (eqO (.int r2) (.int 0))) _ e
  rw [eqO_int, Cm.opt_some, Cm.a_ok]
  generalize decide (r2 = 0) = pb
  have sub : ∀ a ∈ LET.take v, a ∈ LET.take w := fun a ha => (List.take_subset_take_left LET v2) ha
  show (Cm.b2 addO (.ok (.int 1)) (.c1 m__law_draw (.ok (.int m)))) (fun d => (Cm.rng1 (.ok d)) (fun ds => Cm.loop (m__law_items_t1 (.str (LET.take v)) (.bl pb)) (fun v2 => .ok (.lst v2)) ds [] q e) e) e
  simp only [Cm.a_b2, Cm.a_c1, Cm.a_ok]
  refine ⟨by omega, by omega, fun r3 h3 h4 => ?_⟩
  show (Cm.opt (addO (.int 1) (.int r3))) _ e
  rw [addO_int, Cm.opt_some, Cm.a_ok, Cm.rng1_of (by omega), Cm.a_ok]
  refine Cm.loop_inv (fun n (s : List D) => ∃ its : List (List Nat), s = its.map .str ∧ its.length = n ∧ ∀ x ∈ its, goodI w x) ⟨[], rfl, rfl, fun x hx => nomatch hx⟩ (fun n d s hd ⟨its, es, hl, hg⟩ q' k1 k2 k3 => ?_) fun s ⟨its, es, hl, hg⟩ => ?_
  · subst es
    obtain ⟨k, hk, rfl⟩ := map_get hd
    have hk' := range_ix hk
    unfold m__law_items_t1
    simp only [Cm.a_let2, Cm.a_c1, Cm.a_ok]
    refine one_str (by omega) (by omega) fun c hc => ?_
    refine one_str (by omega) (by omega) fun d hd => ?_
    have go : ∀ x : List Nat, goodI w x → (Cm.asr ((its.map D.str).length < 16777216) (.ok (.nx (its.map D.str ++ [.str x]) : Lf (List D) D))) q' e := fun x gx => by
      rw [Cm.a_asr, Cm.a_ok]
      refine ⟨by rw [List.length_map]; omega, k1 _ ⟨its ++ [x], by rw [List.map_append]; rfl, by rw [List.length_append, hl]; rfl, fun y hy => ?_⟩⟩
      exact (List.mem_append.mp hy).elim (hg y) fun z => by rw [List.mem_singleton.mp z]; exact gx
    rw [Cm.a_bind]
    refine two_ok (go _ (.inl ⟨c, sub c hc, rfl⟩)) fun _ ne => go _ (.inr ?_)
    by_cases h' : c ≤ d
    · rw [if_pos h']
      exact ⟨c, sub c hc, d, sub d hd, by omega, rfl⟩
    · rw [if_neg h']
      exact ⟨d, sub d hd, c, sub c hc, by omega, rfl⟩
  · subst es
    rw [List.length_map, List.length_range] at hl
    rw [Cm.a_ok]
    exact hq its (fun e => by rw [e] at hl; simp at hl; omega) (by omega) hg
end Mm
end

section
/-! how many dark posts below a limit: count, the law's own way -/
namespace Mm
open PySem PySem.Spec PyProof.Rows L2 PySem.W Fz
theorem niO_chr {c : Nat} {z : List Nat} : niO (.str [c]) (.str z) = some (!decide (c ∈ z)) := rfl
theorem dats_flat {ds : List D} (h : ds.all flatD = true) {n : Nat} : dats ds n = true := dats_of fun d hd => dat_flat (List.all_eq_true.mp h d hd)
theorem strs_flat {α : Type} {as : List α} {g : α → List Nat} : (as.map fun a => D.str (g a)).all flatD = true := by
  rw [List.all_map]; exact List.all_eq_true.mpr fun _ _ => rfl
theorem lout_ok {x y : List Nat} (h : x.length < 100000) : m__law_is_out (.str x) (.str y) = .ok (.bl (outB y x)) := by
  unfold m__law_is_out
  have e2 : eqO (.lst ((x.filter fun c => !decide (c ∈ y)).map fun c => .str [c])) (.lst []) = some (outB y x) := by
    unfold eqO
    have d1 : dat (.lst ((x.filter fun c => !decide (c ∈ y)).map fun c => .str [c])) 60 = true := by
      rw [dat]; exact dats_flat strs_flat
    have d2 : dat (.lst []) 60 = true := by rw [dat, dats]
    rw [d1, d2]
    show some _ = _
    congr 1
    unfold outB
    cases hf : x.filter fun c => !decide (c ∈ y) with
    | nil =>
      have : x.all (fun c => decide (c ∈ y)) = true := List.all_eq_true.mpr fun c hc => by
        have := List.filter_eq_nil_iff.mp hf c hc
        simpa using this
      rw [this, List.map_nil, deq, deqs]
    | cons c cs =>
      have hc : c ∈ x.filter fun c => !decide (c ∈ y) := by rw [hf]; exact List.mem_cons_self ..
      obtain ⟨h1, h2⟩ := List.mem_filter.mp hc
      have : x.all (fun c => decide (c ∈ y)) = false := by
        rw [List.all_eq_false]; exact ⟨c, h1, by simpa using h2⟩
      rw [this, List.map_cons, deq, deqs] <;> (intros; contradiction)
  have e1 : (Cm.lstC .nil : Cm D) = .ok (.lst []) := Cm.lstC_of (by decide)
  rw [Cm.its_ok, itemsOf_str, Cm.opt_some, Cm.compF_of (pb := fun c => !decide (c ∈ y)) (g := fun c => .str [c]) (fun c _ => by rw [Cm.q2_ok, niO_chr]; rfl) (fun c _ _ => rfl) (by omega), e1, Cm.q2_ok, e2]; rfl
/-! ### plain sums -/
theorem sum_bool {α : Type} (p : α → Bool) : ∀ as : List α, (as.map fun a => if p a = true then (1 : Int) else 0).sum = (as.countP p : Nat)
  | [] => rfl
  | a :: as => by
    rw [List.map_cons, List.sum_cons, sum_bool p as, List.countP_cons]
    cases p a <;> simp <;> omega
theorem range_take {α : Type} (z : α) : ∀ (as : List α) (n : Nat), n ≤ as.length → (List.range n).map (fun k => as.getD k z) = as.take n := fun as n h => by
  apply List.ext_getElem
  · rw [List.length_map, List.length_range, List.length_take]; omega
  · intro i h1 h2
    rw [List.length_map, List.length_range] at h1
    rw [List.getElem_map, List.getElem_range, List.getElem_take, List.getD_eq_getElem?_getD, List.getElem?_eq_getElem (by omega)]; rfl
/-- posts below n that are off -/
def below (its : List (List Nat)) (x : List Nat) (l : Int) : Int := l / (its.length : Int) * (its.countP (outB x) : Nat) + ((its.take (l % (its.length : Int)).toNat).countP (outB x) : Nat)
def dead (its : List (List Nat)) (x : List Nat) (ns : List Int) (l : Int) : Nat := (ns.filter fun n => decide (n < l) && !offAt its x n).length
theorem small_mul {a : Int} {n : Nat} (h : n ≤ 100) : mulO (.int a) (.int n) = some (.int (a * n)) := by
  show (if (smallI _ || smallI _) = true then _ else _) = _
  rw [if_pos]
  rw [Bool.or_eq_true]
  right
  unfold smallI
  simp
  omega
end Mm
end

section
/-! how many posts below a limit are dark: the plain law; count; the law's own one by one -/
namespace Mm
open PySem PySem.Spec PyProof.Rows L2 PySem.W Fz
theorem dead_succ (f : Int → Bool) (n : Int) : ∀ ns : List Int, rising ns → ns.countP (fun d => decide (d < n + 1) && f d) = ns.countP (fun d => decide (d < n) && f d) + (if n ∈ ns ∧ f n = true then 1 else 0)
  | [], _ => by simp
  | a :: t, h => by
    obtain ⟨h1, h2⟩ := List.pairwise_cons.mp h
    rw [List.countP_cons, List.countP_cons, dead_succ f n t h2]
    by_cases e : a = n
    · subst e
      have na : a ∉ t := fun m => absurd (h1 a m) (Int.lt_irrefl a)
      have l1 : decide (a < a + 1) = true := decide_eq_true (by omega)
      have l2 : decide (a < a) = false := decide_eq_false (by omega)
      rw [l1, l2]
      cases f a <;> simp [na]
    · have hm : (n ∈ a :: t) ↔ n ∈ t := by
        rw [List.mem_cons]
        exact ⟨fun h => h.elim (fun z => absurd z.symm e) id, .inr⟩
      have l : decide (a < n + 1) = decide (a < n) := decide_eq_decide.mpr (by omega)
      rw [l]
      simp only [hm]
      omega
/-- below, in naturals -/
def belowN (p : List Nat → Bool) (its : List (List Nat)) (n : Nat) : Nat := n / its.length * its.countP p + (its.take (n % its.length)).countP p
theorem belowN_succ {p : List Nat → Bool} {its : List (List Nat)} (h : its ≠ []) (n : Nat) : belowN p its (n + 1) = belowN p its n + (if p (its.getD (n % its.length) []) = true then 1 else 0) := by
  have hp : 0 < its.length := List.length_pos_iff.mpr h
  have hr : n % its.length < its.length := Nat.mod_lt _ hp
  have hn := Nat.div_add_mod n its.length
  have ht : (its.take (n % its.length + 1)).countP p = (its.take (n % its.length)).countP p + (if p (its.getD (n % its.length) []) = true then 1 else 0) := by
    rw [List.take_succ, List.countP_append, List.getD_eq_getElem?_getD, List.getElem?_eq_getElem hr]
    simp [List.countP_cons]
  unfold belowN
  generalize hq : n / its.length = a at *
  generalize hm : n % its.length = r at *
  by_cases hc : r + 1 < its.length
  · have d1 : (n + 1) / its.length = a := by
      rw [← hn, Nat.add_assoc, Nat.mul_add_div hp, Nat.div_eq_of_lt hc]; rfl
    have m1 : (n + 1) % its.length = r + 1 := by
      rw [← hn, Nat.add_assoc, Nat.mul_add_mod, Nat.mod_eq_of_lt hc]
    rw [d1, m1, ht]; omega
  · have e : r + 1 = its.length := by omega
    have d1 : (n + 1) / its.length = a + 1 := by
      rw [← hn, Nat.add_assoc, Nat.mul_add_div hp, e, Nat.div_self hp]
    have m1 : (n + 1) % its.length = 0 := by
      rw [← hn, Nat.add_assoc, Nat.mul_add_mod, e, Nat.mod_self]
    have hw : its.countP p = (its.take (r + 1)).countP p := by rw [e, List.take_length]
    rw [d1, m1, Nat.add_mul, Nat.one_mul, List.take_zero, List.countP_nil]
    omega
theorem below_nat {its : List (List Nat)} {x : List Nat} (n : Nat) : below its x (n : Int) = (belowN (outB x) its n : Nat) := by
  unfold below belowN
  have e : ((n : Int) % (its.length : Int)).toNat = n % its.length := by
    rw [← Int.natCast_emod]; rfl
  rw [e, ← Int.natCast_ediv, Int.natCast_add, Int.natCast_mul]
theorem off_nat {its : List (List Nat)} {x : List Nat} (n : Nat) : offAt its x (n : Int) = outB x (its.getD (n % its.length) []) := by
  unfold offAt
  have e : ((n : Int) % (its.length : Int)).toNat = n % its.length := by
    rw [← Int.natCast_emod]; rfl
  rw [e]
theorem plain {its : List (List Nat)} {x : List Nat} {ns : List Int} (h : its ≠ []) (hr : rising ns) (h0 : ∀ n ∈ ns, 0 ≤ n) : ∀ n : Nat, ((((List.range n).filter fun k : Nat => offAt its x (k : Int) || decide ((k : Int) ∈ ns)).length : Nat) : Int) = below its x (n : Int) + (dead its x ns (n : Int) : Nat)
  | 0 => by
    rw [below_nat]
    have e1 : belowN (outB x) its 0 = 0 := by unfold belowN; simp
    have e2 : dead its x ns ((0 : Nat) : Int) = 0 := by
      unfold dead
      rw [List.length_eq_zero_iff, List.filter_eq_nil_iff]
      intro d hd
      have := h0 d hd
      rw [decide_eq_false (by omega)]; simp
    rw [e1, e2]; rfl
  | n + 1 => by
    have ih := plain (x := x) h hr h0 n
    have d1 : dead its x ns ((n + 1 : Nat) : Int) = dead its x ns (n : Int) + (if (n : Int) ∈ ns ∧ (!offAt its x (n : Int)) = true then 1 else 0) := by
      unfold dead
      rw [← List.countP_eq_length_filter, ← List.countP_eq_length_filter, Int.natCast_add]
      exact dead_succ (fun d => !offAt its x d) n ns hr
    rw [below_nat] at ih ⊢
    rw [belowN_succ h, d1, List.range_succ, List.filter_append, List.length_append, ← off_nat]
    have s : ([n].filter fun k : Nat => offAt its x (k : Int) || decide ((k : Int) ∈ ns)).length = (if offAt its x (n : Int) = true then 1 else 0) + (if (n : Int) ∈ ns ∧ (!offAt its x (n : Int)) = true then 1 else 0) := by
      rw [List.filter_cons]
      cases offAt its x (n : Int) <;> by_cases hm : (n : Int) ∈ ns <;> simp [hm]
    rw [s]
    omega
theorem ind_ints {p : Int} : ∀ {ns : List Int}, ind (.int p) (nums ns) = decide (p ∈ ns)
  | [] => rfl
  | n :: ns => by
    show (deq (.int n) (.int p) || ind (.int p) (nums ns)) = _
    rw [ind_ints, deq_int]
    by_cases h : n = p
    · subst h; simp
    · have : ¬ p = n := fun z => h z.symm
      simp [h, this]
theorem inO_int {p : Int} {ns : List Int} : inO (.int p) (.tup (nums ns)) = some (decide (p ∈ ns)) := by
  have hf : (nums ns).all flatD = true := by rw [List.all_map]; exact List.all_eq_true.mpr fun _ _ => rfl
  show (if (flatD (.int p) && (nums ns).all flatD) = true then some (ind (.int p) (nums ns)) else none) = _
  rw [hf, if_pos (by rfl), ind_ints]
end Mm
end

section
/-! all strings of at most so many fuses -/
namespace Mm
open PySem PySem.Spec PyProof.Rows L2 PySem.W Fz
def growS (found : List (List Nat)) (c : Nat) : List (List Nat) := found ++ found.map fun x => x ++ [c]
def subsS (fs : List Nat) : List (List Nat) := fs.foldl growS [[]]
def setsS (fs : List Nat) (m : Int) : List (List Nat) := ssort ((subsS fs).filter fun x => decide ((x.length : Int) ≤ m))
theorem pow_le {n m : Nat} (h : n ≤ m) : 2 ^ n ≤ 2 ^ m := Nat.pow_le_pow_right (by decide) h
theorem grow_inv {fs : List Nat} : (subsS fs).length = 2 ^ fs.length ∧ ∀ x ∈ subsS fs, x.length ≤ fs.length := by
  have : ∀ (fs : List Nat) (n : Nat) (s : List (List Nat)), (s.length = 2 ^ n ∧ ∀ x ∈ s, x.length ≤ n) → (fs.foldl growS s).length = 2 ^ (n + fs.length) ∧ ∀ x ∈ fs.foldl growS s, x.length ≤ n + fs.length := by
    intro fs
    induction fs with
    | nil => intro n s h; exact h
    | cons c fs ih =>
      intro n s ⟨h1, h2⟩
      have := ih (n + 1) (growS s c) ⟨by unfold growS; rw [List.length_append, List.length_map, h1, Nat.pow_succ]; omega, fun x hx => by
        unfold growS at hx
        rcases List.mem_append.mp hx with hx | hx
        · have := h2 x hx; omega
        · obtain ⟨y, hy, rfl⟩ := List.mem_map.mp hx
          have := h2 y hy
          rw [List.length_append]; simp; omega⟩
      rw [List.foldl_cons, List.length_cons, show n + (fs.length + 1) = n + 1 + fs.length from by omega]
      exact this
  have h := this fs 0 [[]] ⟨rfl, by simp⟩
  rw [Nat.zero_add] at h
  exact h
theorem srt_ok {ss : List (List Nat)} (h : ss.length ≤ 16777216) : Cm.srtC (.ok (.lst (ss.map .str))) = .ok (.lst ((ssort ss).map .str)) := by
  show Cm.asr (Srt (ss.map D.str)) (.ok (D.lst (srt (ss.map D.str)))) = _
  rw [Cm.asr_true (srtS h), srt_strs]
theorem sets_t {s : List (List Nat)} {c : Nat} (h : s.length ≤ 1000) (hx : ∀ x ∈ s, x.length ≤ 1000) : m_sets_of_t1 (.lst (s.map .str)) (.str [c]) = .ok (.nx (.lst ((growS s c).map .str))) := by
  unfold m_sets_of_t1
  simp (disch := first | assumption | omega | (simp only [List.length_map, List.length_range, List.length_cons, List.length_nil, List.length_append]; omega) | grind) only [↓reduceIte, cmS, Cm.tr4_tup, Cm.tr5_tup, Cm.tr6_tup]
  rfl
theorem sets_ok {fs : List Nat} {m : Int} (h : fs.length ≤ 6) : m_sets_of (.str fs) (.int m) = .ok (.lst ((setsS fs m).map .str)) := by
  unfold m_sets_of
  simp (disch := first | assumption | omega | (simp only [List.length_map, List.length_range, List.length_cons, List.length_nil, List.length_append]; omega) | grind) only [↓reduceIte, cmS, Cm.tr4_tup, Cm.tr5_tup, Cm.tr6_tup]
  obtain ⟨h1, _⟩ := Cm.loop_fold (fb := m_sets_of_t1) (k := m_sets_of_k1 (.int m)) (fun c : Nat => D.str [c]) (fun s : List (List Nat) => D.lst (s.map .str)) growS (fun n s => s = subsS (fs.take n)) fs 0 [[]] rfl (fun i s a _ ha hs => by
    have hi : i < fs.length := (List.getElem?_eq_some_iff.mp ha).1
    have hg := grow_inv (fs := fs.take i)
    rw [← hs, List.length_take] at hg
    have hp : 2 ^ min i fs.length ≤ 2 ^ 6 := pow_le (by omega)
    refine ⟨sets_t (by omega) fun x q => by have := hg.2 x q; omega, ?_⟩
    have : fs.take (i + 1) = fs.take i ++ [a] := by
      rw [List.take_add_one]
      rw [Nat.sub_zero] at ha
      rw [ha]; rfl
    rw [this, subsS, List.foldl_append]
    rw [hs]; rfl)
  have hg := grow_inv (fs := fs)
  have hp : 2 ^ fs.length ≤ 2 ^ 6 := pow_le (by omega)
  have e : fs.foldl growS [[]] = subsS fs := rfl
  refine h1.trans ?_
  rw [e]
  unfold m_sets_of_k1
  simp (disch := first | assumption | omega | (simp only [List.length_map, List.length_range, List.length_cons, List.length_nil, List.length_append]; omega) | grind) only [↓reduceIte, cmS, Cm.tr4_tup, Cm.tr5_tup, Cm.tr6_tup]
  rw [srt_ok]
  · rfl
  · have := List.length_filter_le (fun x : List Nat => decide ((x.length : Int) ≤ m)) (subsS fs)
    omega
theorem lsets_ok {fs : List Nat} {m : Int} (h : fs.length ≤ 6) : m__law_sets (.str fs) (.int m) = .ok (.lst ((setsS fs m).map .str)) := by
  have := sets_ok (m := m) h
  unfold m_sets_of at this
  unfold m__law_sets
  exact this
theorem set_str {cs : List Nat} (h : cs.length < 4000) : Cm.setC (.ok (.str cs)) = .ok (.lst ((uniq ltN cs).map fun c => .str [c])) := Cm.ext fun q e => by
  constructor
  · rintro ⟨out, h1 | h1 | h1, hq⟩
    · obtain ⟨cs', e1, _, rfl⟩ := h1
      cases e1; exact hq
    · obtain ⟨ns, e1, _⟩ := h1; cases e1
    · obtain ⟨ns, e1, _⟩ := h1; cases e1
  · intro hq
    exact ⟨_, .inl ⟨cs, rfl, h, rfl⟩, hq⟩
theorem map_inj {α : Type} {f : α → D} (hf : ∀ a b, f a = f b → a = b) : ∀ {as bs : List α}, as.map f = bs.map f → as = bs
  | [], [], _ => rfl
  | [], _ :: _, h => by cases h
  | _ :: _, [], h => by cases h
  | a :: as, b :: bs, h => by
    rw [List.map_cons, List.map_cons] at h
    injection h with h1 h2
    rw [hf a b h1, map_inj hf h2]
theorem int_str_nil {ns : List Int} {ss : List (List Nat)} (h : ns.map D.int = ss.map D.str) : ns = [] ∧ ss = [] := by
  cases ns with
  | nil => cases ss with
    | nil => exact ⟨rfl, rfl⟩
    | cons s ss => cases h
  | cons n ns => cases ss with
    | nil => cases h
    | cons s ss => rw [List.map_cons, List.map_cons] at h; injection h with h1 h2; cases h1
theorem set_ints {ns : List Int} (h : ns.length < 4000) : Cm.setC (.ok (.lst (ns.map .int))) = .ok (.lst ((uniq ltI ns).map .int)) := Cm.ext fun q e => by
  constructor
  · rintro ⟨out, h1 | h1 | h1, hq⟩
    · obtain ⟨ns, e1, _⟩ := h1; cases e1
    · obtain ⟨ms, e1, _, rfl⟩ := h1
      injection e1 with e1
      rw [map_inj (fun a b z => by injection z) e1]; exact hq
    · obtain ⟨ss, e1, _, rfl⟩ := h1
      injection e1 with e1
      obtain ⟨rfl, rfl⟩ := int_str_nil e1
      exact hq
  · intro hq
    exact ⟨_, .inr (.inl ⟨ns, rfl, h, rfl⟩), hq⟩
theorem set_strs {ns : List (List Nat)} (h : ns.length < 4000) : Cm.setC (.ok (.lst (ns.map .str))) = .ok (.lst ((uniq ltS ns).map .str)) := Cm.ext fun q e => by
  constructor
  · rintro ⟨out, h1 | h1 | h1, hq⟩
    · obtain ⟨ns, e1, _⟩ := h1; cases e1
    · obtain ⟨ss, e1, _, rfl⟩ := h1
      injection e1 with e1
      obtain ⟨rfl, rfl⟩ := int_str_nil e1.symm
      exact hq
    · obtain ⟨ms, e1, _, rfl⟩ := h1
      injection e1 with e1
      rw [map_inj (fun a b z => by injection z) e1]; exact hq
  · intro hq
    exact ⟨_, .inr (.inr ⟨ns, rfl, h, rfl⟩), hq⟩
theorem join0 {ss : List (List Nat)} (h : ss.flatten.length ≤ 16777000) : joinO (.str []) (.lst (ss.map .str)) = some (.str ss.flatten) := (cat_of h).1
theorem join0T {ss : List (List Nat)} (h : ss.flatten.length ≤ 16777000) : joinO (.str []) (.tup (ss.map .str)) = some (.str ss.flatten) := (cat_of h).2
theorem join1 {cs : List Nat} (h : cs.length ≤ 16777000) : joinO (.str []) (.lst (cs.map fun c => .str [c])) = some (.str cs) := by
  have := (cat_of (ss := cs.map fun c => [c]) (by rw [flat_one]; exact h)).1
  rw [List.map_map, flat_one] at this
  exact this
theorem rfuses_eq {z : List Nat} {its : List (List Nat)} (h : its.flatten.length < 3000) : m_Rule_fuses (obR z its) = .ok (.str (fusesOf its)) := by
  unfold m_Rule_fuses
  have hu := len_uniq (lt := ltN) its.flatten
  rw [fld_parts, codes_no, Cm.t2_ok, join0T (by omega), Cm.opt_some, set_str (by omega), Cm.t2_ok, join1 (by omega)]
  rfl
theorem lfuses_eq {its : List (List Nat)} (h : its.flatten.length < 3000) : m__law_fuses (.lst (its.map .str)) = .ok (.str (fusesOf its)) := by
  unfold m__law_fuses
  have hu := len_uniq (lt := ltN) its.flatten
  rw [codes_no, Cm.t2_ok, join0 (by omega), Cm.opt_some, set_str (by omega), Cm.t2_ok, join1 (by omega)]
  rfl
theorem mth_fuses {z : List Nat} {its : List (List Nat)} (h : its.flatten.length < 3000) : Cm.mth "Rule" "fuses" m_Rule_fuses (.ok (obR z its)) = .ok (.str (fusesOf its)) := by
  show (if ("Rule" : PySem.Str) = "Rule" ∧ (ruleF z its).lookup ("fuses" : PySem.Str) = none then m_Rule_fuses (obR z its) else .st) = _
  have e : (ruleF z its).lookup ("fuses" : PySem.Str) = none := by
    unfold ruleF
    rw [List.lookup_cons, List.lookup_cons, List.lookup_nil]
    have e1 : (("fuses" : PySem.Str) == ("text" : PySem.Str)) = false := by decide
    have e2 : (("fuses" : PySem.Str) == ("parts" : PySem.Str)) = false := by decide
    rw [e1, e2]
  rw [if_pos ⟨rfl, e⟩, rfuses_eq h]
/-! ### items that are let in -/
structure Its (its : List (List Nat)) : Prop where
  ne : its ≠ []
  le : its.length ≤ 12
  good : ∀ i ∈ its, Good i
theorem Its.pos {its} (h : Its its) : 0 < its.length := List.length_pos_iff.mpr h.ne
theorem Its.flat {its} (h : Its its) : its.flatten.length ≤ 24 := by have := flat_le h.good; have := h.le; omega
theorem Its.small {its} (h : Its its) : its.flatten.length < 3000 := by have := h.flat; omega
theorem Its.item {its} (h : Its its) : ∀ i ∈ its, i.length < 100000 := fun i hi => by have := (h.good i hi).le; omega
theorem sorted_len : ∀ {l : List Nat} {a b : Nat}, l.Pairwise (· < ·) → (∀ x ∈ l, a ≤ x ∧ x < b) → l.length ≤ b - a
  | [], _, _, _, _ => Nat.zero_le _
  | x :: l, a, b, h, hb => by
    obtain ⟨h1, h2⟩ := List.pairwise_cons.mp h
    have hx := hb x (List.mem_cons_self ..)
    have := sorted_len (a := x + 1) (b := b) h2 fun y hy => ⟨h1 y hy, (hb y (List.mem_cons_of_mem _ hy)).2⟩
    rw [List.length_cons]; omega
theorem fus_sorted (its : List (List Nat)) : (fusesOf its).Pairwise (· < ·) := (sorted_uniq strictN its.flatten).imp fun {a b} h => of_decide_eq_true h
theorem fus_mem {its : List (List Nat)} {c : Nat} : c ∈ fusesOf its ↔ ∃ i ∈ its, c ∈ i := by
  unfold fusesOf
  rw [mem_uniq strictN]; exact List.mem_flatten
theorem Its.fus {its} (h : Its its) : (fusesOf its).length ≤ 6 := by
  have := sorted_len (a := 97) (b := 103) (fus_sorted its) fun c hc => by
    obtain ⟨i, hi, hc⟩ := fus_mem.mp hc
    have := (h.good i hi).lt c hc
    omega
  omega
def gsS (its : List (List Nat)) (m : Int) : List (List Nat) := (setsS (fusesOf its) (min m (fusesOf its).length)).filter fun x => decide ((x.length : Int) = min m (fusesOf its).length)
theorem len_sets {fs : List Nat} {m : Int} (h : fs.length ≤ 6) : (setsS fs m).length ≤ 64 := by
  have hg := grow_inv (fs := fs)
  have hp : 2 ^ fs.length ≤ 2 ^ 6 := pow_le (by omega)
  have := List.length_filter_le (fun x : List Nat => decide ((x.length : Int) ≤ m)) (subsS fs)
  unfold setsS ssort
  rw [List.length_mergeSort]; omega
theorem mem_sets {fs : List Nat} {m : Int} {x : List Nat} : x ∈ setsS fs m ↔ x ∈ subsS fs ∧ (x.length : Int) ≤ m := by
  unfold setsS ssort
  rw [List.mem_mergeSort, List.mem_filter, decide_eq_true_iff]
end Mm
end

section
/-! plain words about stretches: lit posts, what can be reached, the greatest -/
namespace Mm
open PySem PySem.Spec PyProof.Rows L2 PySem.W Fz
/-- how many posts from s on, m of them, are lit -/
def lit (f : Nat → Bool) (s : Nat) : Nat → Nat
  | 0 => 0
  | m + 1 => lit f s m + if f (s + m) = true then 0 else 1
section
variable {f g : Nat → Bool} {s m n : Nat}
theorem lit_mono : ∀ {m k : Nat}, m ≤ k → lit f s m ≤ lit f s k := by
  intro m k h
  induction h with
  | refl => exact Nat.le_refl _
  | step _ ih => rw [lit]; omega
theorem lit_add (a : Nat) : ∀ b, lit f s (a + b) = lit f s a + lit f (s + a) b
  | 0 => by simp [lit]
  | b + 1 => by rw [← Nat.add_assoc, lit, lit_add a b, lit, Nat.add_assoc s a b]; omega
theorem lit_le : ∀ m, lit f s m ≤ m
  | 0 => Nat.le_refl _
  | m + 1 => by rw [lit]; have := lit_le m; split <;> omega
theorem lit_cg (h : ∀ p, s ≤ p → p < s + m → f p = g p) : lit f s m = lit g s m := by
  induction m with
  | zero => rfl
  | succ m ih => rw [lit, lit, ih fun p h1 h2 => h p h1 (by omega), h (s + m) (by omega) (by omega)]
theorem lit_less (h : ∀ p, f p = true → g p = true) : ∀ m, lit g s m ≤ lit f s m
  | 0 => Nat.le_refl _
  | m + 1 => by
    have := lit_less h m
    rw [lit, lit]
    by_cases e : f (s + m) = true
    · rw [if_pos e, if_pos (h _ e)]; omega
    · rw [if_neg e]; split <;> omega
theorem lit_shift (h : ∀ p, f (p + n) = f p) : ∀ m, lit f (s + n) m = lit f s m
  | 0 => rfl
  | m + 1 => by rw [lit, lit, lit_shift h m, show s + n + m = s + m + n from by omega, h]
theorem lit_shifts (h : ∀ p, f (p + n) = f p) (k : Nat) : lit f (s + k * n) m = lit f s m := by
  induction k with
  | zero => simp
  | succ k ih => rw [Nat.succ_mul, ← Nat.add_assoc, lit_shift h, ih]
theorem lit_mod (h : ∀ p, f (p + n) = f p) : lit f (s % n) m = lit f s m := by
  have := lit_shifts (s := s % n) (m := m) h (s / n)
  rw [Nat.mul_comm, Nat.mod_add_div] at this
  exact this.symm
/-- a whole round has as many, wherever it begins -/
theorem lit_round (h : ∀ p, f (p + n) = f p) : ∀ s, lit f s n = lit f 0 n
  | 0 => rfl
  | s + 1 => by
    have h1 := lit_add (f := f) (s := s) n 1
    have h2 := lit_add (f := f) (s := s) 1 n
    have h3 : lit f (s + n) 1 = lit f s 1 := lit_shift h 1
    rw [← lit_round h s]
    rw [Nat.add_comm 1 n] at h2
    omega
theorem lit_rounds (h : ∀ p, f (p + n) = f p) (s : Nat) : ∀ k, lit f s (k * n) = k * lit f 0 n
  | 0 => by simp [lit]
  | k + 1 => by rw [Nat.succ_mul, lit_add, lit_rounds h s k, lit_round h (s + k * n), Nat.succ_mul]
theorem lit_pos (h : ∀ p, f (p + n) = f p) {k : Nat} (hk : k < n) (hf : f k = false) : 1 ≤ lit f 0 n := by
  have h1 := lit_mono (f := f) (s := 0) (show k + 1 ≤ n from hk)
  have h2 : lit f 0 (k + 1) = lit f 0 k + 1 := by rw [lit, Nat.zero_add, hf]; rfl
  omega
theorem lit_zero (h : ∀ p, s ≤ p → p < s + m → f p = true) : lit f s m = 0 := by
  induction m with
  | zero => rfl
  | succ m ih => rw [lit, ih fun p h1 h2 => h p h1 (by omega), h (s + m) (by omega) (by omega)]; rfl
end
/-- whether post p is dark by fuses -/
def offN (its : List (List Nat)) (x : List Nat) (p : Nat) : Bool := outB x (its.getD (p % its.length) [])
theorem offN_per {its : List (List Nat)} {x : List Nat} (p : Nat) : offN its x (p + its.length) = offN its x p := by
  unfold offN; rw [Nat.add_mod_right]
theorem offN_all {its : List (List Nat)} {x : List Nat} (h : its ≠ []) : its.all (outB x) = true ↔ ∀ p, offN its x p = true := by
  have hp : 0 < its.length := List.length_pos_iff.mpr h
  rw [List.all_eq_true]
  constructor
  · intro a p
    unfold offN
    have := Nat.mod_lt p hp
    rw [List.getD_eq_getElem?_getD, List.getElem?_eq_getElem this]
    exact a _ (List.getElem_mem this)
  · intro a i hi
    obtain ⟨k, hk, rfl⟩ := List.mem_iff_getElem.mp hi
    have := a k
    unfold offN at this
    rw [Nat.mod_eq_of_lt hk, List.getD_eq_getElem?_getD, List.getElem?_eq_getElem hk] at this
    exact this
theorem offN_lit {its : List (List Nat)} {x : List Nat} (h : its.all (outB x) = false) : 1 ≤ lit (offN its x) 0 its.length := by
  obtain ⟨i, hi, ho⟩ := List.all_eq_false.mp h
  obtain ⟨k, hk, rfl⟩ := List.mem_iff_getElem.mp hi
  refine lit_pos (fun p => offN_per p) hk ?_
  unfold offN
  rw [Nat.mod_eq_of_lt hk, List.getD_eq_getElem?_getD, List.getElem?_eq_getElem hk]
  simpa using ho
theorem outB_mono {x y i : List Nat} (h : ∀ c ∈ x, c ∈ y) (ho : outB x i = true) : outB y i = true := by
  unfold outB at *
  rw [List.all_eq_true] at *
  intro c hc
  have := ho c hc
  exact decide_eq_true (h c (of_decide_eq_true this))
theorem offN_mono {its : List (List Nat)} {x y : List Nat} (h : ∀ c ∈ x, c ∈ y) (p : Nat) (ho : offN its x p = true) : offN its y p = true := outB_mono h ho
/-! ### all strings of fuses -/
theorem mem_subs {x : List Nat} : ∀ {fs : List Nat}, x ∈ subsS fs ↔ x.Sublist fs := by
  have go : ∀ (fs pre : List Nat) (s : List (List Nat)), (∀ x, x ∈ s ↔ x.Sublist pre) → ∀ x, x ∈ fs.foldl growS s ↔ x.Sublist (pre ++ fs) := by
    intro fs
    induction fs with
    | nil => intro pre s h x; rw [List.append_nil]; exact h x
    | cons c fs ih =>
      intro pre s h x
      have := ih (pre ++ [c]) (growS s c) (fun y => by
        unfold growS
        rw [List.mem_append, List.mem_map, List.sublist_append_iff]
        constructor
        · rintro (h1 | ⟨z, hz, rfl⟩)
          · exact ⟨y, [], by simp, (h y).mp h1, List.nil_sublist _⟩
          · exact ⟨z, [c], rfl, (h z).mp hz, List.Sublist.refl _⟩
        · rintro ⟨a, b, rfl, h1, h2⟩
          have hb : b = [] ∨ b = [c] := by
            cases h2 with
            | cons _ h3 => left; exact List.sublist_nil.mp h3
            | cons_cons _ h3 => right; rw [List.sublist_nil.mp h3]
          rcases hb with rfl | rfl
          · left; rw [List.append_nil]; exact (h a).mpr h1
          · right; exact ⟨a, (h a).mpr h1, rfl⟩) x
      rw [List.foldl_cons, this, List.append_assoc]; rfl
  intro fs
  have := go fs [] [[]] (fun x => by simp) x
  rw [List.nil_append] at this
  exact this
theorem sub_ext {x fs : List Nat} (h : x.Sublist fs) : ∀ {k : Nat}, x.length ≤ k → k ≤ fs.length → ∃ y, y.Sublist fs ∧ y.length = k ∧ x.Sublist y := by
  induction h with
  | slnil => intro k h1 h2; exact ⟨[], List.Sublist.refl _, by simp at h2; exact h2.symm, List.Sublist.refl _⟩
  | @cons x fs a h ih =>
    intro k h1 h2
    by_cases hk : k ≤ fs.length
    · obtain ⟨y, a1, a2, a3⟩ := ih h1 hk
      exact ⟨y, a1.cons a, a2, a3⟩
    · exact ⟨a :: fs, List.Sublist.refl _, by rw [List.length_cons] at *; omega, h.cons a⟩
  | @cons_cons x fs a h ih =>
    intro k h1 h2
    rw [List.length_cons] at h1 h2
    obtain ⟨y, a1, a2, a3⟩ := ih (k := k - 1) (by omega) (by omega)
    exact ⟨a :: y, a1.cons_cons a, by rw [List.length_cons]; omega, a3.cons₂ a⟩
theorem mem_gs {its : List (List Nat)} {m : Int} {x : List Nat} (h0 : 0 ≤ m) : x ∈ gsS its m ↔ x.Sublist (fusesOf its) ∧ (x.length : Int) = min m (fusesOf its).length := by
  unfold gsS
  rw [List.mem_filter, mem_sets, mem_subs, decide_eq_true_iff]
  constructor
  · rintro ⟨⟨a, b⟩, c⟩; exact ⟨a, c⟩
  · rintro ⟨a, c⟩; exact ⟨⟨a, by omega⟩, c⟩
theorem mem_setsF {fs : List Nat} {m : Int} {x : List Nat} : x ∈ setsS fs m ↔ x.Sublist fs ∧ (x.length : Int) ≤ m := by rw [mem_sets, mem_subs]
theorem gs_sub {its : List (List Nat)} {m : Int} {x : List Nat} (h0 : 0 ≤ m) (h : x ∈ gsS its m) : x ∈ setsS (fusesOf its) m := by
  obtain ⟨a, b⟩ := (mem_gs h0).mp h
  exact mem_setsF.mpr ⟨a, by omega⟩
theorem gs_ext {its : List (List Nat)} {m : Int} {x : List Nat} (h0 : 0 ≤ m) (h : x ∈ setsS (fusesOf its) m) : ∃ y ∈ gsS its m, ∀ c ∈ x, c ∈ y := by
  obtain ⟨a, b⟩ := mem_setsF.mp h
  have l := a.length_le
  obtain ⟨y, h1, h2, h3⟩ := sub_ext a (k := min m.toNat (fusesOf its).length) (by omega) (by omega)
  exact ⟨y, (mem_gs h0).mpr ⟨h1, by omega⟩, fun c hc => h3.subset hc⟩
theorem nil_sets {fs : List Nat} {m : Int} (h0 : 0 ≤ m) : [] ∈ setsS fs m := mem_setsF.mpr ⟨List.nil_sublist _, h0⟩
/-! ### the greatest stretch -/
def inL (L : Option Nat) (p : Nat) : Prop := ∀ l, L = some l → p ≤ l
instance (L : Option Nat) (p : Nat) : Decidable (inL L p) := match L with
  | none => .isTrue fun l e => nomatch e
  | some l => if h : p ≤ l then .isTrue fun k e => (by cases e; exact h) else .isFalse fun z => h (z l rfl)
def Reach (gs : List (List Nat)) (its : List (List Nat)) (d : Nat) (L : Option Nat) (m : Nat) : Prop := ∃ x ∈ gs, ∃ s, inL L (s + m) ∧ lit (offN its x) s m ≤ d
def Whole (gs : List (List Nat)) (its : List (List Nat)) : Prop := ∃ x ∈ gs, its.all (outB x) = true
/-- w is what worst tells -/
def IsW (gs : List (List Nat)) (its : List (List Nat)) (d : Nat) (L : Option Nat) : Option Nat → Prop
  | none => L = none ∧ Whole gs its
  | some w => (L = none → ¬ Whole gs its) ∧ Reach gs its d L w ∧ ∀ m, Reach gs its d L m → m ≤ w
theorem isW_one {gs its d L} {a b : Option Nat} (ha : IsW gs its d L a) (hb : IsW gs its d L b) : a = b := by
  cases a with
  | none => cases b with
    | none => rfl
    | some w => exact absurd ha.2 (hb.1 ha.1)
  | some v => cases b with
    | none => exact absurd hb.2 (ha.1 hb.1)
    | some w => rw [Nat.le_antisymm (hb.2.2 v ha.2.1) (ha.2.2 w hb.2.1)]
theorem reach_gs {its : List (List Nat)} {b : Int} {d L m} (h0 : 0 ≤ b) : Reach (gsS its b) its d L m ↔ Reach (setsS (fusesOf its) b) its d L m := by
  constructor
  · rintro ⟨x, hx, s, h1, h2⟩; exact ⟨x, gs_sub h0 hx, s, h1, h2⟩
  · rintro ⟨x, hx, s, h1, h2⟩
    obtain ⟨y, hy, h3⟩ := gs_ext h0 hx
    exact ⟨y, hy, s, h1, Nat.le_trans (lit_less (fun p => offN_mono h3 p) m) h2⟩
theorem whole_gs {its : List (List Nat)} {b : Int} (h0 : 0 ≤ b) : Whole (gsS its b) its ↔ Whole (setsS (fusesOf its) b) its := by
  constructor
  · rintro ⟨x, hx, h1⟩; exact ⟨x, gs_sub h0 hx, h1⟩
  · rintro ⟨x, hx, h1⟩
    obtain ⟨y, hy, h3⟩ := gs_ext h0 hx
    rw [List.all_eq_true] at h1
    exact ⟨y, hy, List.all_eq_true.mpr fun i hi => outB_mono h3 (h1 i hi)⟩
theorem isW_gs {its : List (List Nat)} {b : Int} {d L o} (h0 : 0 ≤ b) : IsW (gsS its b) its d L o ↔ IsW (setsS (fusesOf its) b) its d L o := by
  cases o with
  | none => unfold IsW; rw [whole_gs h0]
  | some w => unfold IsW; rw [whole_gs h0]; simp only [reach_gs h0]
/-- a stretch may begin within the first round -/
theorem reach_near {gs its d L m} (hn : its ≠ []) (h : Reach gs its d L m) : ∃ x ∈ gs, ∃ s, s < its.length ∧ inL L (s + m) ∧ lit (offN its x) s m ≤ d := by
  obtain ⟨x, hx, s, h1, h2⟩ := h
  have hp : 0 < its.length := List.length_pos_iff.mpr hn
  refine ⟨x, hx, s % its.length, Nat.mod_lt _ hp, fun l e => ?_, by rw [lit_mod fun p => offN_per p]; exact h2⟩
  have := h1 l e
  have := Nat.mod_le s its.length
  omega
/-- without whole rounds no stretch is longer than so many rounds -/
theorem reach_lt {gs its d L m} (hw : ¬ Whole gs its) (h : Reach gs its d L m) : m < (d + 1) * its.length := by
  obtain ⟨x, hx, s, h1, h2⟩ := h
  rcases Nat.lt_or_ge m ((d + 1) * its.length) with h3 | h3
  · exact h3
  · have h4 := lit_mono (f := offN its x) (s := s) h3
    rw [lit_rounds fun p => offN_per p] at h4
    have h5 : its.all (outB x) = false := by
      cases e : its.all (outB x) with
      | true => exact absurd ⟨x, hx, e⟩ hw
      | false => rfl
    have h6 := offN_lit h5
    have h7 := Nat.mul_le_mul_left (d + 1) h6
    omega
/-- .. so for all lengths is for a length of so many rounds -/
theorem isW_far {gs its d L w} {l : Nat} (hn : its ≠ []) (hw : ¬ Whole gs its) (hl : (d + 2) * its.length ≤ l) (hL : ∀ k, L = some k → (d + 2) * its.length ≤ k) (h : IsW gs its d (some l) (some w)) : IsW gs its d L (some w) := by
  have mv : ∀ {L' m}, (∀ k, L' = some k → (d + 2) * its.length ≤ k) → ∀ {L2}, Reach gs its d L2 m → Reach gs its d L' m := fun hL' L2 h2 => by
    have h3 := reach_lt hw h2
    obtain ⟨x, hx, s, h4, _, h5⟩ := reach_near hn h2
    refine ⟨x, hx, s, fun k e => ?_, h5⟩
    have := hL' k e
    have : (d + 2) * its.length = (d + 1) * its.length + its.length := by rw [← Nat.succ_mul]
    omega
  exact ⟨fun _ => hw, mv hL h.2.1, fun m hm => h.2.2 m (mv (fun k e => by cases e; exact hl) hm)⟩
theorem isW_whole {gs its d} {l : Nat} (hn : its ≠ []) (hw : Whole gs its) : IsW gs its d (some l) (some l) := by
  obtain ⟨x, hx, h⟩ := hw
  show (some l = none → ¬ Whole gs its) ∧ Reach gs its d (some l) l ∧ ∀ m, Reach gs its d (some l) m → m ≤ l
  refine ⟨fun e => (nomatch e), ⟨x, hx, 0, fun k e => (by cases e; omega), ?_⟩, fun m ⟨y, _, s, h1, _⟩ => (by have := h1 l rfl; omega)⟩
  rw [lit_zero fun p _ _ => (offN_all hn).mp h p]; omega
end Mm
end

section
/-! worst: how far a stretch goes, the greatest of all -/
namespace Mm
open PySem PySem.Spec PyProof.Rows L2 PySem.W Fz
theorem ix_off1 {its : List (List Nat)} {x : List Nat} (p : Nat) (h : its ≠ []) : ixD (.lst (flagsD its x)) ((p : Int) % (its.length : Int)) = some (.bl (offN its x p)) := by
  have hp : 0 < its.length := List.length_pos_iff.mpr h
  have hm := Nat.mod_lt p hp
  rw [← Int.natCast_emod, flagsD, ix_mapN (fun i => D.bl (outB x i)) its (p % its.length) [] hm]
  rfl
theorem ix_off2 {its : List (List Nat)} {x : List Nat} (s m : Nat) (h : its ≠ []) : ixD (.lst (flagsD its x)) (((s : Int) + (m : Int)) % (its.length : Int)) = some (.bl (offN its x (s + m))) := by
  rw [← Int.natCast_add]; exact ix_off1 (s + m) h
abbrev natD : Nat → D := fun n => .int (n : Int)
abbrev esP (t : Nat × Nat) : D × D := (.int (t.1 : Int), .int (t.2 : Int))
/-- m is how far a stretch goes from s -/
def IsSpan (its : List (List Nat)) (x : List Nat) (s d : Nat) (L : Option Nat) (m : Nat) : Prop := inL L (s + m) ∧ lit (offN its x) s m ≤ d ∧ ∀ k, inL L (s + k) → lit (offN its x) s k ≤ d → k ≤ m
/-! ### triples -/
abbrev e3 (t : Nat × List Nat × Nat) : D := .tup [.int (t.1 : Int), .str t.2.1, .int (t.2.2 : Int)]
def lt3 (a b : Nat × List Nat × Nat) : Bool := dataLt (pyD (e3 a)) (pyD (e3 b))
theorem py3 (a : Nat × List Nat × Nat) : pyD (e3 a) = .tuple [.int a.1, .str ⟨a.2.1.toArray⟩, .int a.2.2] := by
  unfold pyD; rw [pyDs_map]
  simp only [List.map_cons, List.map_nil]
  unfold pyD; rfl
theorem cmp3 (a b : Nat × List Nat × Nat) : cmpD [e3 a, e3 b] := by
  refine ⟨dats_of fun d hd => ?_, ?_⟩
  · have : ∀ c : Nat × List Nat × Nat, dat (e3 c) 50 = true := fun c => by
      unfold dat
      exact dats_of fun d hd => by
        rcases List.mem_cons.mp hd with rfl | hd
        · unfold dat; rfl
        rcases List.mem_cons.mp hd with rfl | hd
        · unfold dat; rfl
        rw [List.mem_singleton.mp hd]; unfold dat; rfl
    rcases List.mem_cons.mp hd with rfl | hd
    · exact this a
    · rw [List.mem_singleton.mp hd]; exact this b
  · have : ∀ c e : Nat × List Nat × Nat, alike (pyD (e3 c)) (pyD (e3 e)) = true := fun c e => by
      rw [py3, py3]; simp [alike, alikeAll]
    have nn : ∀ c : Nat × List Nat × Nat, pyD (e3 c) ≠ .none := fun c => by rw [py3]; exact fun z => (by cases z)
    constructor
    · intro x hx y hy
      simp only [List.map_cons, List.map_nil, List.mem_cons, List.not_mem_nil, or_false] at hx hy
      rcases hx with rfl | rfl <;> rcases hy with rfl | rfl <;> exact this _ _
    · intro x hx
      simp only [List.map_cons, List.map_nil, List.mem_cons, List.not_mem_nil, or_false] at hx
      rcases hx with rfl | rfl <;> exact nn _
theorem lt3_ne {a b : Nat × List Nat × Nat} (h : a.1 ≠ b.1) : lt3 a b = decide (a.1 < b.1) := by
  unfold lt3
  rw [py3, py3]
  show PyProof.Rows.lexLt itemOrd (keyToks (.tuple _)) (keyToks (.tuple _)) = _
  rw [show ∀ xs, keyToks (.tuple xs) = keyToksAll xs from fun xs => by rw [keyToks], show ∀ xs, keyToks (.tuple xs) = keyToksAll xs from fun xs => by rw [keyToks]]
  rw [dataLt_all_no (by unfold alike; rfl) (by unfold PyData.eqv; simp; omega), dataLt_int]
  exact decide_eq_decide.mpr (by omega)
theorem lt3_t {a b : Nat × List Nat × Nat} (h : lt3 a b = true) : a.1 ≤ b.1 := by
  by_cases e : a.1 = b.1
  · omega
  · rw [lt3_ne e] at h; have := of_decide_eq_true h; omega
theorem lt3_f {a b : Nat × List Nat × Nat} (h : lt3 a b = false) : b.1 ≤ a.1 := by
  by_cases e : a.1 = b.1
  · omega
  · rw [lt3_ne e] at h; have := of_decide_eq_false h; omega
theorem max3 (a b : Nat × List Nat × Nat) : ∃ c, Cm.max2 (.ok (e3 a)) (.ok (e3 b)) = .ok (e3 c) ∧ (c = a ∨ c = b) ∧ a.1 ≤ c.1 ∧ b.1 ≤ c.1 := by
  rw [Cm.max2_of (cmp3 a b)]
  unfold mxD
  cases h : lt3 a b with
  | true => exact ⟨b, by rw [if_pos (show dataLt (pyD (e3 a)) (pyD (e3 b)) = true from h)], .inr rfl, lt3_t h, Nat.le_refl _⟩
  | false =>
    refine ⟨a, ?_, .inl rfl, Nat.le_refl _, lt3_f h⟩
    have : ¬ (dataLt (pyD (e3 a)) (pyD (e3 b)) = true) := fun z => by rw [show dataLt (pyD (e3 a)) (pyD (e3 b)) = false from h] at z; cases z
    rw [if_neg this]
/-! ### the greatest of all -/
def Cd (its : List (List Nat)) (b : Int) (d : Nat) (L : Option Nat) (t : Nat × List Nat × Nat) : Prop := t.2.1 ∈ setsS (fusesOf its) b ∧ inL L (t.2.2 + t.1) ∧ lit (offN its t.2.1) t.2.2 t.1 ≤ d
theorem asked_ok {z its} {b : Int} {d : Nat} (hc : ("Rule" : PySem.Str) ∈ clsL) (b0 : 0 ≤ b) (b1 : b ≤ 6) (hd : d ≤ 4) : m_check_asked (obR z its) (.int b) (.int d) = .ok .non := by
  unfold m_check_asked m_check_most
  simp (disch := first | assumption | omega | (simp only [List.length_map, List.length_range, List.length_cons, List.length_nil, List.length_append]; omega) | grind) only [↓reduceIte, cmS, Cm.tr4_tup, Cm.tr5_tup, Cm.tr6_tup, crule_ok hc, cbet_ok b0 b1, cbet_ok (show (0 : Int) ≤ (d : Int) by omega) (show (d : Int) ≤ 4 by omega)]
end Mm
end

section
/-! rules of drawn and of told items; worst of told rules; what repr asks -/
namespace Mm
open PySem PySem.Spec PyProof.Rows L2 PySem.W Fz
theorem its_items {m w : Nat} {q : D → Prop} {e : EX} (m1 : 1 ≤ m) (m2 : m ≤ 12) (w1 : 1 ≤ w) (w2 : w ≤ 6) (hq : ∀ its : List (List Nat), Its its → its.length ≤ m → (∀ x ∈ its, goodI w x) → q (.lst (its.map .str))) : m__law_items (.int m) (.int w) q e :=
  litems_post m1 (by omega) w1 w2 fun its h1 h2 h3 => hq its ⟨h1, by omega, fun i hi => good_of (h3 i hi)⟩ h2 h3
theorem sum_le2 : ∀ {its : List (List Nat)}, (∀ i ∈ its, Good i) → (its.map List.length).sum ≤ 2 * its.length
  | [], _ => by decide
  | i :: is, h => by
    rw [List.map_cons, List.sum_cons, List.length_cons]
    have a := (h i (List.mem_cons_self ..)).le
    have b := sum_le2 fun j hj => h j (List.mem_cons_of_mem _ hj)
    omega
theorem Its.join {its} (h : Its its) : joinO (.str [32]) (.lst (its.map .str)) = some (.str (joinL [32] its)) := joinO_lst (by
  have := sum_le2 h.good; have := h.le
  show (its.map List.length).sum + its.length * 1 ≤ 16777000
  omega)
theorem Its.rule {its} (h : Its its) : m_Rule (.str (joinL [32] its)) = .ok (obR (joinL [32] its) its) := rule_ok (by have := joined_le h.good; have := h.le; omega) (items_join h.ne h.le h.good)
theorem rule_at {s : String} {its : List (List Nat)} (h : itemsIn (codes s) = some its) (hl : (codes s).length < 100000) : m_Rule (.str (codes s)) = .ok (obR (codes s) its) := rule_ok hl h
def wholeB (its : List (List Nat)) (b : Int) : Bool := (subsS (fusesOf its)).any fun x => decide ((x.length : Int) ≤ b) && its.all (outB x)
def reachB (its : List (List Nat)) (b : Int) (d : Nat) (L : Option Nat) (m : Nat) : Bool := (subsS (fusesOf its)).any fun x => decide ((x.length : Int) ≤ b) && (List.range its.length).any fun s => decide (inL L (s + m)) && decide (lit (offN its x) s m ≤ d)
theorem wholeB_iff {its b} : wholeB its b = true ↔ Whole (setsS (fusesOf its) b) its := by
  unfold wholeB Whole
  rw [List.any_eq_true]
  constructor
  · rintro ⟨x, h1, h2⟩
    obtain ⟨h3, h4⟩ := Bool.and_eq_true_iff.mp h2
    exact ⟨x, mem_sets.mpr ⟨h1, of_decide_eq_true h3⟩, h4⟩
  · rintro ⟨x, h1, h2⟩
    obtain ⟨h3, h4⟩ := mem_sets.mp h1
    exact ⟨x, h3, Bool.and_eq_true_iff.mpr ⟨decide_eq_true h4, h2⟩⟩
theorem reachB_iff {its b d L m} (hn : its ≠ []) : reachB its b d L m = true ↔ Reach (setsS (fusesOf its) b) its d L m := by
  unfold reachB
  rw [List.any_eq_true]
  constructor
  · rintro ⟨x, h1, h2⟩
    obtain ⟨h3, h4⟩ := Bool.and_eq_true_iff.mp h2
    obtain ⟨s, h5, h6⟩ := List.any_eq_true.mp h4
    obtain ⟨h7, h8⟩ := Bool.and_eq_true_iff.mp h6
    exact ⟨x, mem_sets.mpr ⟨h1, of_decide_eq_true h3⟩, s, of_decide_eq_true h7, of_decide_eq_true h8⟩
  · intro h
    obtain ⟨x, h1, s, h2, h3, h4⟩ := reach_near hn h
    obtain ⟨h5, h6⟩ := mem_sets.mp h1
    exact ⟨x, h5, Bool.and_eq_true_iff.mpr ⟨decide_eq_true h6, List.any_eq_true.mpr ⟨s, List.mem_range.mpr h2, Bool.and_eq_true_iff.mpr ⟨decide_eq_true h3, decide_eq_true h4⟩⟩⟩⟩
theorem reach_down {gs its d L m k} (h : Reach gs its d L m) (hk : k ≤ m) : Reach gs its d L k := by
  obtain ⟨x, hx, s, h1, h2⟩ := h
  exact ⟨x, hx, s, fun l e => (by have := h1 l e; omega), Nat.le_trans (lit_mono hk) h2⟩
theorem isW_val {its b d L} (w : Nat) (hn : its ≠ []) (h0 : L = none → wholeB its b = false) (h1 : reachB its b d L w = true) (h2 : reachB its b d L (w + 1) = false) : IsW (setsS (fusesOf its) b) its d L (some w) := by
  refine ⟨fun e hw => ?_, (reachB_iff hn).mp h1, fun m hm => ?_⟩
  · rw [wholeB_iff.mpr hw] at h0; exact nomatch (h0 e)
  · rcases Nat.lt_or_ge w m with z | z
    · have := (reachB_iff hn).mpr (reach_down hm z)
      rw [this] at h2; cases h2
    · exact z
theorem isW_inf {its b d} (h : wholeB its b = true) : IsW (setsS (fusesOf its) b) its d none none := ⟨rfl, wholeB_iff.mp h⟩
theorem isW_le {gs its d} {l w : Nat} (h : IsW gs its d (some l) (some w)) : w ≤ l := by
  obtain ⟨x, _, s, h1, _⟩ := h.2.1
  have := h1 l rfl
  omega
/-! ### what repr asks -/
def okV (w : Option Nat) : Prop := ∀ v, w = some v → v < 2 ^ 200
theorem rok_int' {v : Nat} (h : v < 2 ^ 200) : Rok (.int (v : Int)) 1 2000 := rok_int (log_small (by rw [Int.natAbs_natCast]; exact h))
theorem repr_pair {w : Option Nat} (h : okV w) : Cm.reprC (.ok (.lst [optD natD w, optD natD w])) = .ok (.str (reprD (.lst [optD natD w, optD natD w]))) := by
  have : Rok (optD natD w) 1 2000 := by
    cases w with
    | none => exact (rok_non (n := 1)).up (by decide) (by decide)
    | some v => exact rok_int' (h v rfl)
  exact Cm.repr_of ((rok_lst (ds := [optD natD w, optD natD w]) (n := 1) (B := 2000) (m := 2) (by show 2 ≤ 2; decide) (rok_cons this (rok_cons this rok_nil))).up (by decide) (by decide))
theorem filt_all {its : List (List Nat)} {x : List Nat} : (its.filter fun i => !outB x i) = [] ↔ its.all (outB x) = true := by
  rw [List.filter_eq_nil_iff, List.all_eq_true]
  simp
theorem inR : ("Rule" : PySem.Str) ∈ clsL := by decide
theorem ten9 : Cm.b2 powO (.ok (.int 10)) (.ok (.int 9)) = .ok (.int 1000000000) := by
  rw [Cm.pow_of (by decide)]; rfl
theorem ten30 : Cm.b2 powO (.ok (.int 10)) (.ok (.int 30)) = .ok (.int 1000000000000000000000000000000) := by
  rw [Cm.pow_of (by decide)]; rfl
theorem ten39 : Cm.b2 powO (.ok (.int 10)) (.ok (.int 39)) = .ok (.int 1000000000000000000000000000000000000000) := by
  rw [Cm.pow_of (by decide)]; rfl
theorem ten40 : Cm.b2 powO (.ok (.int 10)) (.ok (.int 40)) = .ok (.int 10000000000000000000000000000000000000000) := by
  rw [Cm.pow_of (by decide)]; rfl
theorem ten6 : Cm.b2 powO (.ok (.int 10)) (.ok (.int 6)) = .ok (.int 1000000) := by
  rw [Cm.pow_of (by decide)]; rfl
theorem ten20 : Cm.b2 powO (.ok (.int 10)) (.ok (.int 20)) = .ok (.int 100000000000000000000) := by
  rw [Cm.pow_of (by decide)]; rfl
theorem its_lane : Its [[97], [98], [97, 98], [99]] := ⟨by decide, by decide, fun i hi => good_of (w := 6) (by
    simp at hi
    rcases hi with rfl | rfl | rfl | rfl
    · exact .inl ⟨97, by decide, rfl⟩
    · exact .inl ⟨98, by decide, rfl⟩
    · exact .inr ⟨97, by decide, 98, by decide, by decide, rfl⟩
    · exact .inl ⟨99, by decide, rfl⟩)⟩
theorem its_alley : Its [[97], [98], [99]] := ⟨by decide, by decide, fun i hi => good_of (w := 6) (by
    simp at hi
    rcases hi with rfl | rfl | rfl
    · exact .inl ⟨97, by decide, rfl⟩
    · exact .inl ⟨98, by decide, rfl⟩
    · exact .inl ⟨99, by decide, rfl⟩)⟩
theorem its_square : Its [[97, 98], [98, 99], [97, 99]] := ⟨by decide, by decide, fun i hi => good_of (w := 6) (by
    simp at hi
    rcases hi with rfl | rfl | rfl
    · exact .inr ⟨97, by decide, 98, by decide, by decide, rfl⟩
    · exact .inr ⟨98, by decide, 99, by decide, by decide, rfl⟩
    · exact .inr ⟨97, by decide, 99, by decide, by decide, rfl⟩)⟩
/-- the law's end: each script's bags -/
theorem bags_ok {ns : List Int} {n : Int} {m : Cm D} {q : D → Prop} {e : EX} (hl : ns.length ≤ 63) (hn : n ≤ 6) (hm : ∀ q' e', q' (.bl true) → m q' e') (hq : q (.bl true)) : (Cm.b1 allO (.comp (.rng1 (.ok (.int (max 2 (min (ns.length : Int) n))))) fun k => .bag (.ok (.scr ns)) (.ok k) m)) q e := by
  rw [Cm.rng1_of (by omega)]
  simp only [Cm.a_b1]
  refine Cm.comp_post (P := fun _ y => y = .bl true) (fun k hk q' h => ?_) (by rw [List.length_range]; omega) fun ys hys => ?_
  · have := List.mem_range.mp hk
    show (Cm.asr _ m) q' _
    refine ⟨by omega, hm _ _ (h _ rfl)⟩
  · have := all2_true hys
    subst this
    rw [List.map_map]
    show (Cm.opt (allO (.lst (List.map (fun a => .bl ((fun _ => true) a)) _)))) q e
    rw [allO_map, Cm.opt_some, Cm.a_ok]
    have : (List.range (max 2 (min (ns.length : Int) n)).toNat).all (fun _ => true) = true := by simp
    rw [this]
    exact hq
theorem reach_wide {gs its d l k m} (h : Reach gs its d (some l) m) (hk : l ≤ k) : Reach gs its d (some k) m := by
  obtain ⟨x, hx, s, h1, h2⟩ := h
  exact ⟨x, hx, s, fun l' e => (by cases e; have := h1 l rfl; omega), h2⟩
theorem reach_none {gs its d L m} (h : Reach gs its d L m) : Reach gs its d none m := by
  obtain ⟨x, hx, s, h1, h2⟩ := h
  exact ⟨x, hx, s, fun l e => (nomatch e), h2⟩
theorem reach_some {gs its d m} (h : Reach gs its d none m) : ∃ l, Reach gs its d (some l) m := by
  obtain ⟨x, hx, s, h1, h2⟩ := h
  exact ⟨s + m, x, hx, s, fun l e => (by cases e; exact Nat.le_refl _), h2⟩
theorem reach_whole {gs its d m} (hn : its ≠ []) (hw : Whole gs its) : Reach gs its d (some m) m := (isW_whole hn hw).2.1
theorem le_iff {gs its d L w m} (h : IsW gs its d L (some w)) : m ≤ w ↔ Reach gs its d L m := ⟨fun e => reach_down h.2.1 e, h.2.2 m⟩
theorem isW_some {gs its d l w} (h : IsW gs its d (some l) w) : ∃ v, w = some v := by
  cases w with
  | none => exact nomatch h.1
  | some v => exact ⟨v, rfl⟩
theorem okW {gs its d w} (hle : its.length ≤ 12) (hd : d ≤ 4) (h : IsW gs its d none (some w)) : w ≤ 60 := by
  have := reach_lt (h.1 rfl) h.2.1
  have : (d + 1) * its.length ≤ 5 * 12 := Nat.mul_le_mul (by omega) hle
  omega
theorem rok_opt {w : Option Nat} (h : okV w) : Rok (optD natD w) 1 2000 := by
  cases w with
  | none => exact (rok_non (n := 1)).up (by decide) (by decide)
  | some v => exact rok_int' (h v rfl)
theorem repr_opt {w : Option Nat} (h : okV w) : Cm.reprC (.ok (optD natD w)) = .ok (.str (reprD (optD natD w))) := Cm.repr_of ((rok_opt h).up (by decide) (by decide))
theorem repr_2 {v w : Option Nat} (h : okV v) (h2 : okV w) : Cm.reprC (.ok (.lst [optD natD v, optD natD w])) = .ok (.str (reprD (.lst [optD natD v, optD natD w]))) :=
  Cm.repr_of ((rok_lst (ds := [optD natD v, optD natD w]) (n := 1) (B := 2000) (m := 2) (by show 2 ≤ 2; decide) (rok_cons (rok_opt h) (rok_cons (rok_opt h2) rok_nil))).up (by decide) (by decide))
end Mm
end

section
/-! dark posts -/
namespace Mm
open PySem PySem.Spec PyProof.Rows L2 PySem.W Fz
def drk (its : List (List Nat)) (x : List Nat) (ns : List Int) (p : Int) : Bool := offAt its x p || decide (p ∈ ns)
/-- the dark posts of a stretch -/
def darks (its : List (List Nat)) (x : List Nat) (ns : List Int) (f : Int) (m : Nat) : List Int := ((List.range m).filter fun k : Nat => drk its x ns (f + (k : Int))).map fun k : Nat => f + (k : Int)
theorem darks_D {its x ns} {f : Int} {m : Nat} : List.map (fun k : Nat => D.int (f + (k : Int))) (List.filter (fun k : Nat => drk its x ns (f + (k : Int))) (List.range m)) = nums (darks its x ns f m) := by
  unfold darks
  rw [nums, List.map_map]; rfl
theorem darks_len {its x ns f m} : (darks its x ns f m).length ≤ m := by
  unfold darks
  rw [List.length_map]
  have := List.length_filter_le (fun k : Nat => drk its x ns (f + (k : Int))) (List.range m)
  rw [List.length_range] at this
  exact this
theorem darks_mem {its x ns f m} {p : Int} (hp : p ∈ darks its x ns f m) : f ≤ p ∧ p < f + m := by
  unfold darks at hp
  obtain ⟨k, hk, rfl⟩ := List.mem_map.mp hp
  have := List.mem_range.mp (List.mem_filter.mp hk).1
  omega
theorem inE40 {v : Int} (h0 : 0 ≤ v) (h1 : v ≤ E40 + 1000) : v.natAbs.log2 < 1920 := log_small (by
  have hE : E40 + 1000 < 2 ^ 200 := by decide
  have : v < 2 ^ 200 := by
    generalize E40 = w at *
    omega
  omega)
theorem rok_nums {ns : List Int} {m : Nat} (hl : ns.length ≤ m) (h : ∀ n ∈ ns, 0 ≤ n ∧ n ≤ E40 + 1000) : Rok (.tup (nums ns)) 2 (m * 2002 + 3) := rok_tup (n := 1) (B := 2000) (by rw [List.length_map]; exact hl) fun d hd => by
  obtain ⟨n, hn, rfl⟩ := List.mem_map.mp hd
  have := h n hn
  exact rok_int (inE40 this.1 this.2)
theorem repr_bl2 (b : Bool) : Cm.reprC (.ok (.lst [.bl b, .bl b])) = .ok (.str (reprD (.lst [.bl b, .bl b]))) :=
  Cm.repr_of ((rok_lst (ds := [.bl b, .bl b]) (n := 1) (B := 5) (m := 2) (by show 2 ≤ 2; decide) (rok_cons (rok_bl (n := 1)) (rok_cons (rok_bl (n := 1)) rok_nil))).up (by decide) (by decide))
theorem drawn_good {x : List Nat} {ns : List Int} {m : Int} (hx : x.Sublist LET) (hl : ns.length ≤ 6) (hn : ∀ n ∈ ns, 0 ≤ n ∧ n < m) (hm : m ≤ 1000000000) (hr : rising ns) : goodE x ns := .of hx hl hr fun n h => by
  have a := hn n h
  have hE : (2000000000 : Int) < E40 := by decide
  generalize E40 = w at *
  omega
end Mm
end

section
/-! windows, and who looks alike in them -/
namespace Mm
open PySem PySem.Spec PyProof.Rows L2 PySem.W Fz
abbrev winD (w : Int × Nat) : D := .tup [.int w.1, .int (w.2 : Int)]
structure Win (w : Int × Nat) : Prop where
  f0 : 0 ≤ w.1
  m0 : 1 ≤ w.2
  m1 : w.2 ≤ 200
  f1 : w.1 + (w.2 : Int) ≤ E40 + 1
structure Wins (ws : List (Int × Nat)) : Prop where
  ne : 1 ≤ ws.length
  le : ws.length ≤ 6
  ok : ∀ w ∈ ws, Win w
theorem window_ok {w : Int × Nat} (h : Win w) : m_is_window (winD w) = .ok (.bl true) := by
  obtain ⟨f0, m0, m1, f1⟩ := h
  unfold m_is_window
  have h1 : (decide (0 ≤ w.1) && decide (w.1 ≤ 10000000000000000000000000000000000000000)) = true := by simp; unfold E40 at f1; omega
  have h2 : (decide ((1 : Int) ≤ (w.2 : Int)) && decide ((w.2 : Int) ≤ 200)) = true := by simp; omega
  have h3 : decide (w.1 + (w.2 : Int) - 1 ≤ 10000000000000000000000000000000000000000) = true := decide_eq_true (by unfold E40 at f1; omega)
  simp (disch := first | assumption | omega | (simp only [List.length_map, List.length_range, List.length_cons, List.length_nil, List.length_append]; omega) | grind) only [↓reduceIte, cmS, Cm.tr4_tup, Cm.tr5_tup, Cm.tr6_tup, between_ok, h1, h2, h3, Int.reduceAdd, show decide ((0 : Nat) + 1 + 1 = 2) = true from rfl]
  rfl
theorem wins_ok {ws : List (Int × Nat)} (h : Wins ws) : m_check_windows (.tup (ws.map winD)) = .ok .non := by
  obtain ⟨h1, h2, h3⟩ := h
  unfold m_check_windows
  have e1 : decide ((1 : Int) ≤ (ws.length : Int)) = true := decide_eq_true (by omega)
  have e2 : decide ((ws.length : Int) ≤ 6) = true := decide_eq_true (by omega)
  simp (disch := first | assumption | omega | (simp only [List.length_map, List.length_range, List.length_cons, List.length_nil, List.length_append]; omega) | grind) only [↓reduceIte, cmS, Cm.tr4_tup, Cm.tr5_tup, Cm.tr6_tup, e1, e2]
  rw [Cm.enb_tup, Cm.ok_bind]
  refine Cm.loop_same fun d hd => ?_
  obtain ⟨i, hi⟩ := List.mem_iff_getElem?.mp hd
  obtain ⟨y, hy, rfl⟩ := enum_get hi
  obtain ⟨w, hw, rfl⟩ := map_get hy
  rw [Cm.pr_tup]
  unfold m_check_windows_t1
  simp (disch := first | assumption | omega | (simp only [List.length_map, List.length_range, List.length_cons, List.length_nil, List.length_append]; omega) | grind) only [↓reduceIte, cmS, Cm.tr4_tup, Cm.tr5_tup, Cm.tr6_tup, window_ok (h3 w (List.mem_of_getElem? hw))]
/-! ### the posts in windows -/
def postsW (w : Int × Nat) : List Int := (List.range w.2).map fun k : Nat => w.1 + (k : Int)
def placesS (ws : List (Int × Nat)) : List Int := uniq ltI (ws.flatMap postsW)
theorem mem_postsW {w : Int × Nat} {p : Int} : p ∈ postsW w ↔ w.1 ≤ p ∧ p < w.1 + w.2 := by
  unfold postsW
  rw [List.mem_map]
  constructor
  · rintro ⟨k, hk, rfl⟩; have := List.mem_range.mp hk; omega
  · rintro ⟨h1, h2⟩; exact ⟨(p - w.1).toNat, List.mem_range.mpr (by omega), by omega⟩
theorem mem_places {ws : List (Int × Nat)} {p : Int} : p ∈ placesS ws ↔ ∃ w ∈ ws, w.1 ≤ p ∧ p < w.1 + w.2 := by
  unfold placesS
  rw [mem_uniq strictI, List.mem_flatMap]
  constructor
  · rintro ⟨w, hw, h⟩; exact ⟨w, hw, mem_postsW.mp h⟩
  · rintro ⟨w, hw, h⟩; exact ⟨w, hw, mem_postsW.mpr h⟩
theorem places_len {ws : List (Int × Nat)} : (placesS ws).length ≤ (ws.flatMap postsW).length := len_uniq _
theorem flat_len {ws : List (Int × Nat)} (h : ∀ w ∈ ws, w.2 ≤ 200) : (ws.flatMap postsW).length ≤ 200 * ws.length := by
  induction ws with
  | nil => simp
  | cons w ws ih =>
    have := ih fun v hv => h v (List.mem_cons_of_mem _ hv)
    have hw := h w (List.mem_cons_self ..)
    rw [List.flatMap_cons, List.length_append, List.length_cons]
    unfold postsW at *
    rw [List.length_map, List.length_range]
    omega
def insP (ns : List Int) (n : Int) : List Int := if n ∈ ns then ns else ns ++ [n]
theorem insP_mem {ns : List Int} {n p : Int} : p ∈ insP ns n ↔ p ∈ ns ∨ p = n := by
  unfold insP
  split
  · exact ⟨.inl, fun h => h.elim id fun e => e ▸ ‹_›⟩
  · rw [List.mem_append, List.mem_singleton]
theorem insP_nodup {ns : List Int} {n : Int} (h : ns.Nodup) : (insP ns n).Nodup := by
  unfold insP
  split
  · exact h
  · rename_i hn
    rw [List.nodup_append]
    refine ⟨h, by simp, fun a ha b hb => ?_⟩
    rw [List.mem_singleton.mp hb]
    exact fun e => hn (e ▸ ha)
theorem insP_len {ns : List Int} {n : Int} : (insP ns n).length ≤ ns.length + 1 := by
  unfold insP
  split
  · omega
  · rw [List.length_append]; simp
theorem fold_mem : ∀ {l ns : List Int} {p : Int}, p ∈ l.foldl insP ns ↔ p ∈ ns ∨ p ∈ l
  | [], ns, p => by simp
  | n :: l, ns, p => by
    rw [List.foldl_cons, fold_mem, insP_mem, List.mem_cons]
    exact ⟨fun h => h.elim (fun h => h.elim .inl fun e => .inr (.inl e)) fun h => .inr (.inr h), fun h => h.elim (fun h => .inl (.inl h)) fun h => h.elim (fun e => .inl (.inr e)) .inr⟩
theorem fold_nodup : ∀ {l ns : List Int}, ns.Nodup → (l.foldl insP ns).Nodup
  | [], _, h => h
  | n :: l, ns, h => fold_nodup (l := l) (insP_nodup h)
theorem fold_len : ∀ {l ns : List Int}, (l.foldl insP ns).length ≤ ns.length + l.length
  | [], ns => by simp
  | n :: l, ns => by
    have := fold_len (l := l) (ns := insP ns n)
    have := insP_len (ns := ns) (n := n)
    rw [List.foldl_cons, List.length_cons]; omega
theorem mem_isort {ns : List Int} {p : Int} : p ∈ isort ns ↔ p ∈ ns := by unfold isort; exact List.mem_mergeSort
theorem isort_strict {ns : List Int} (h : ns.Nodup) : (isort ns).Pairwise (fun a b => ltI a b = true) := by
  have h1 : (isort ns).Pairwise fun a b => decide (a ≤ b) = true := by
    unfold isort
    exact List.pairwise_mergeSort (fun a b c => by simp; omega) (fun a b => by simp; omega) ns
  have h2 : (isort ns).Nodup := by
    unfold isort
    exact (List.mergeSort_perm ns _).nodup_iff.mpr h
  have h3 := h1.and h2
  refine h3.imp fun {a b} ⟨x, y⟩ => ?_
  have := of_decide_eq_true x
  exact decide_eq_true (by omega)
theorem isort_places {ns : List Int} {ws : List (Int × Nat)} (h : ns.Nodup) (hm : ∀ p, p ∈ ns ↔ p ∈ ws.flatMap postsW) : isort ns = placesS ws :=
  uniq_of strictI (isort_strict h) fun z => (mem_isort.trans (hm z))
theorem srtI_ok {ns : List Int} (h : ns.length ≤ 16777216) : Cm.srtC (.ok (.lst (ns.map .int))) = .ok (.lst ((isort ns).map .int)) := by
  show Cm.asr (Srt (ns.map D.int)) (.ok (D.lst (srt (ns.map D.int)))) = _
  rw [Cm.asr_true (srtI h), srt_ints]
abbrev kT (n : Int) : Key × D := (.inl n, .bl true)
theorem put_kT {ns : List Int} {n : Int} : putD (ns.map kT) (.inl n) (.bl true) = (insP ns n).map kT := by
  unfold putD insP
  have e : ((ns.map kT).any fun kv => decide (kv.1 = (.inl n : Key))) = decide (n ∈ ns) := by
    rw [List.any_map]
    induction ns with
    | nil => rfl
    | cons a ns ih =>
      rw [List.any_cons, ih]
      by_cases h : a = n
      · subst h; simp
      · have h2 : ¬ n = a := fun z => h z.symm
        simp [h, h2]
  rw [e]
  by_cases h : n ∈ ns
  · rw [if_pos (decide_eq_true h), if_pos h, List.map_map]
    refine List.map_congr_left fun a _ => ?_
    show (if (.inl a : Key) = .inl n then ((.inl a : Key), D.bl true) else (.inl a, .bl true)) = _
    split <;> rfl
  · rw [if_neg (by simpa using h), if_neg h, List.map_append]; rfl
theorem posts_t2 {ns : List Int} {w : Int × Nat} (hn : ns.length ≤ 10000) (hw : w.2 ≤ 200) : m_posts_in_t2 (ns.map kT) (.int w.1) (.int (w.2 : Int)) = .ok (.nx (((postsW w).foldl insP ns).map kT)) := by
  unfold m_posts_in_t2
  simp (disch := first | assumption | omega | (simp only [List.length_map, List.length_range, List.length_cons, List.length_nil, List.length_append]; omega) | grind) only [↓reduceIte, cmS, Cm.tr4_tup, Cm.tr5_tup, Cm.tr6_tup]
  have run := Cm.loop_fold (fb := m_posts_in_t1 (.int w.1)) (k := fun v3 => (.ok (.nx v3) : Cm (Lf (List (Key × D)) D))) (fun k : Nat => D.int (k : Int)) (fun ns : List Int => ns.map kT) (fun ns (k : Nat) => insP ns (w.1 + (k : Int))) (fun i v => v.length ≤ ns.length + i) (List.range w.2) 0 ns (by omega) (fun i v k _ hk hv => by
    have hi := (List.getElem?_eq_some_iff.mp hk).1
    rw [List.length_range] at hi
    refine ⟨?_, by have := insP_len (ns := v) (n := w.1 + (k : Int)); omega⟩
    unfold m_posts_in_t1
    simp (disch := first | assumption | omega | (simp only [List.length_map, List.length_range, List.length_cons, List.length_nil, List.length_append]; omega) | grind) only [↓reduceIte, cmS, Cm.tr4_tup, Cm.tr5_tup, Cm.tr6_tup, Cm.dky_int, put_kT])
  refine run.1.trans ?_
  unfold postsW
  rw [List.foldl_map]
theorem posts_ok {ws : List (Int × Nat)} (h : Wins ws) : m_posts_in (.tup (ws.map winD)) = .ok (.lst ((placesS ws).map .int)) := by
  obtain ⟨h1, h2, h3⟩ := h
  unfold m_posts_in
  simp (disch := first | assumption | omega | (simp only [List.length_map, List.length_range, List.length_cons, List.length_nil, List.length_append]; omega) | grind) only [↓reduceIte, cmS, Cm.tr4_tup, Cm.tr5_tup, Cm.tr6_tup]
  have run := Cm.loop_fold (fb := fun v2 => Cm.pr (m_posts_in_t2 v2)) (k := m_posts_in_k1) winD (fun ns : List Int => ns.map kT) (fun ns w => (postsW w).foldl insP ns) (fun i v => v.length ≤ 200 * i) ws 0 [] (by simp) (fun i v w _ hw hv => by
    have hi := (List.getElem?_eq_some_iff.mp hw).1
    have ok := h3 w (List.mem_of_getElem? hw)
    have := ok.m1
    refine ⟨by rw [Cm.pr_tup]; exact posts_t2 (by omega) ok.m1, ?_⟩
    have := fold_len (l := postsW w) (ns := v)
    have e : (postsW w).length = w.2 := by unfold postsW; rw [List.length_map, List.length_range]
    omega)
  obtain ⟨e1, e2⟩ := run
  have e : ws.foldl (fun ns w => (postsW w).foldl insP ns) [] = (ws.flatMap postsW).foldl insP [] := by
    have : ∀ (l : List (Int × Nat)) (ns : List Int), l.foldl (fun ns w => (postsW w).foldl insP ns) ns = (l.flatMap postsW).foldl insP ns := by
      intro l
      induction l with
      | nil => intro ns; rfl
      | cons w l ih => intro ns; rw [List.foldl_cons, ih, List.flatMap_cons, List.foldl_append]
    exact this ws []
  have e1' : Cm.loop (fun v2 => Cm.pr (m_posts_in_t2 v2)) m_posts_in_k1 (ws.map winD) [] = _ := e1
  rw [e1', e]
  rw [e] at e2
  unfold m_posts_in_k1
  have ek : lstKO (.dk (((ws.flatMap postsW).foldl insP []).map kT)) = some (.lst (((ws.flatMap postsW).foldl insP []).map .int)) := by
    show (numK _).map _ = _
    rw [numK_map _ (fun n : Int => n), List.map_id']; rfl
  rw [Cm.b1_ok, ek, Cm.opt_some, srtI_ok (by omega), isort_places (ws := ws) (fold_nodup (by simp)) fun p => by rw [fold_mem]; simp]
theorem places_t1 {ns : List Int} {w : Int × Nat} (hn : ns.length ≤ 10000) (hw : w.2 ≤ 200) : m__law_places_t1 (.lst (ns.map .int)) (.int w.1) (.int (w.2 : Int)) = .ok (.nx (.lst ((ns ++ (postsW w).filter fun p => !decide (p ∈ ns)).map .int))) := by
  unfold m__law_places_t1
  have hl := List.length_filter_le (fun k : Nat => !decide (w.1 + (k : Int) ∈ ns)) (List.range w.2)
  rw [List.length_range] at hl
  have e : (postsW w).filter (fun p => !decide (p ∈ ns)) = ((List.range w.2).filter fun k : Nat => !decide (w.1 + (k : Int) ∈ ns)).map fun k : Nat => w.1 + (k : Int) := by
    unfold postsW
    rw [List.filter_map]; rfl
  rw [e]
  simp (disch := first | assumption | omega | (simp only [List.length_map, List.length_range, List.length_cons, List.length_nil, List.length_append]; omega) | grind) only [↓reduceIte, cmS, Cm.tr4_tup, Cm.tr5_tup, Cm.tr6_tup]
theorem range_nodup {w : Int × Nat} : (postsW w).Nodup := by
  unfold postsW
  refine List.Pairwise.map _ (fun a b h => ?_) (List.nodup_range (n := w.2))
  intro e; exact h (by omega)
theorem lplaces_ok {ws : List (Int × Nat)} (h : Wins ws) : m__law_places (.tup (ws.map winD)) = .ok (.lst ((placesS ws).map .int)) := by
  obtain ⟨h1, h2, h3⟩ := h
  unfold m__law_places
  simp (disch := first | assumption | omega | (simp only [List.length_map, List.length_range, List.length_cons, List.length_nil, List.length_append]; omega) | grind) only [↓reduceIte, cmS, Cm.tr4_tup, Cm.tr5_tup, Cm.tr6_tup]
  have run := Cm.loop_fold (fb := fun v1 => Cm.pr (m__law_places_t1 v1)) (k := fun v1 => .srtC (.ok v1)) winD (fun ns : List Int => D.lst (ns.map .int)) (fun ns w => ns ++ (postsW w).filter fun p => !decide (p ∈ ns)) (fun i v => v.length ≤ 200 * i ∧ v.Nodup ∧ ∀ p, p ∈ v ↔ p ∈ (ws.take i).flatMap postsW) ws 0 [] ⟨by simp, by simp, fun p => by simp⟩ (fun i v w _ hw ⟨hv, hn, hm⟩ => by
    have hi := (List.getElem?_eq_some_iff.mp hw).1
    have ok := h3 w (List.mem_of_getElem? hw)
    have := ok.m1
    have e : (postsW w).length = w.2 := by unfold postsW; rw [List.length_map, List.length_range]
    have hl := List.length_filter_le (fun p => !decide (p ∈ v)) (postsW w)
    refine ⟨by rw [Cm.pr_tup]; exact places_t1 (by omega) ok.m1, by rw [List.length_append]; omega, ?_, fun p => ?_⟩
    · rw [List.nodup_append]
      refine ⟨hn, range_nodup.filter _, fun a ha b hb => ?_⟩
      have := (List.mem_filter.mp hb).2
      intro e
      subst e
      simp [ha] at this
    · have et : ws.take (i + 1) = ws.take i ++ [w] := by
        rw [List.take_add_one]
        rw [Nat.sub_zero] at hw
        rw [hw]; rfl
      rw [et, List.flatMap_append, List.mem_append, List.mem_append, hm, List.mem_filter]
      simp only [List.flatMap_cons, List.flatMap_nil, List.append_nil]
      by_cases hp : p ∈ (ws.take i).flatMap postsW
      · simp [hp]
      · have : p ∉ v := fun z => hp ((hm p).mp z)
        simp [hp, this])
  obtain ⟨e1, e2, e3, e4⟩ := run
  have e1' : Cm.loop (fun v1 => Cm.pr (m__law_places_t1 v1)) (fun v1 => .srtC (.ok v1)) (ws.map winD) (.lst []) = _ := e1
  rw [e1', srtI_ok (by omega), isort_places (ws := ws) e3 fun p => by rw [e4, Nat.zero_add, List.take_length]]
/-! ### who looks alike -/
def onlyAt (its : List (List Nat)) (x y : List Nat) (p : Int) : Bool := offAt its x p && !offAt its y p
theorem ix_pred {its : List (List Nat)} {p : List Nat → Bool} {q : Int} (h : its ≠ []) : ixD (.lst (its.map fun i => .bl (p i))) (q % (its.length : Int)) = some (.bl (p (its.getD (q % (its.length : Int)).toNat []))) := by
  have hl : 0 < its.length := List.length_pos_iff.mpr h
  have h0 : 0 ≤ q % (its.length : Int) := Int.emod_nonneg _ (by omega)
  have h1 : q % (its.length : Int) < its.length := Int.emod_lt_of_pos _ (by omega)
  exact ix_map (fun i => D.bl (p i)) its _ [] h0 h1
theorem only_ok {z its x y} {P : List Int} (h : Its its) (hP : P.length ≤ 100000) : m_only_by (obR z its) (.str x) (.str y) (.lst (P.map .int)) = .ok (.lst ((P.filter (onlyAt its x y)).map .int)) := by
  unfold m_only_by
  have hi := h.item
  have hle := h.le
  have hp := h.pos
  rw [fld_parts]
  simp (disch := first | assumption | omega | (simp only [List.length_map, List.length_range, List.length_cons, List.length_nil, List.length_append]; omega) | grind) only [↓reduceIte, cmS, Cm.tr4_tup, Cm.tr5_tup, Cm.tr6_tup, out_ok, Cm.bif_ok]
  have e : (fun a => Cm.ok (D.bl (outB x a) )) = (fun a => Cm.ok (D.bl (outB x a))) := rfl
  have ef : (fun a : List Nat => (bif outB x a then D.bl (!outB y a) else D.bl false)) = fun a => D.bl (outB x a && !outB y a) := by
    funext a; cases outB x a <;> rfl
  simp (disch := first | assumption | omega | (simp only [List.length_map, List.length_range, List.length_cons, List.length_nil, List.length_append]; omega) | grind) only [↓reduceIte, cmS, Cm.tr4_tup, Cm.tr5_tup, Cm.tr6_tup, ef, ix_pred h.ne]
  rfl
def sameS (its : List (List Nat)) (x y : List Nat) (d : Int) (P : List Int) : Bool := decide (((P.filter (onlyAt its x y)).length : Int) ≤ d) && decide (((P.filter (onlyAt its y x)).length : Int) ≤ d)
theorem alike_ok {z its x y} {d : Int} {P : List Int} (h : Its its) (hP : P.length ≤ 100000) : m_are_alike (obR z its) (.str x) (.str y) (.int d) (.lst (P.map .int)) = .ok (.bl (sameS its x y d P)) := by
  unfold m_are_alike sameS
  simp (disch := first | assumption | omega | (simp only [List.length_map, List.length_range, List.length_cons, List.length_nil, List.length_append]; omega) | grind) only [↓reduceIte, cmS, Cm.tr4_tup, Cm.tr5_tup, Cm.tr6_tup, only_ok h hP]
  cases decide (((P.filter (onlyAt its x y)).length : Int) ≤ d) <;> rfl
theorem ldark_ok {its x} {P : List Int} (h : Its its) (hP : P.length ≤ 100000) : m__law_darkened (.lst (its.map .str)) (.str x) (.lst (P.map .int)) = .ok (.lst ((P.filter (offAt its x)).map .int)) := by
  unfold m__law_darkened
  have hp := h.pos
  have ix : ∀ q : Int, ixD (.lst (its.map .str)) (q % (its.length : Int)) = some (.str (its.getD (q % (its.length : Int)).toNat [])) := fun q => ix_map D.str its _ [] (Int.emod_nonneg _ (by omega)) (Int.emod_lt_of_pos _ (by omega))
  have il : ∀ q : Int, (its.getD (q % (its.length : Int)).toNat []).length < 100000 := fun q => by
    have h0 : 0 ≤ q % (its.length : Int) := Int.emod_nonneg _ (by omega)
    have h1 : q % (its.length : Int) < its.length := Int.emod_lt_of_pos _ (by omega)
    rw [List.getD_eq_getElem?_getD, List.getElem?_eq_getElem (by omega)]
    exact h.item _ (List.getElem_mem _)
  have lo : ∀ q : Int, m__law_is_out (.str (its.getD (q % (its.length : Int)).toNat [])) (.str x) = .ok (.bl (offAt its x q)) := fun q => lout_ok (il q)
  simp (disch := first | assumption | omega | (simp only [List.length_map, List.length_range, List.length_cons, List.length_nil, List.length_append]; omega) | grind) only [↓reduceIte, cmS, Cm.tr4_tup, Cm.tr5_tup, Cm.tr6_tup, ix, lo]
theorem filt_two {its x y} {P : List Int} : (P.filter (offAt its x)).filter (fun p => !decide (p ∈ P.filter (offAt its y))) = P.filter (onlyAt its x y) := by
  rw [List.filter_filter]
  refine List.filter_congr fun p hp => ?_
  unfold onlyAt
  have : decide (p ∈ P.filter (offAt its y)) = offAt its y p := by
    cases h : offAt its y p with
    | true => exact decide_eq_true (List.mem_filter.mpr ⟨hp, h⟩)
    | false => exact decide_eq_false fun z => by rw [(List.mem_filter.mp z).2] at h; cases h
  rw [this, Bool.and_comm]
theorem lsame_ok {its x y} {d : Int} {P : List Int} (h : Its its) (hP : P.length ≤ 100000) : m__law_same_look (.lst (its.map .str)) (.str x) (.str y) (.int d) (.lst (P.map .int)) = .ok (.bl (sameS its x y d P)) := by
  unfold m__law_same_look sameS
  have l1 := List.length_filter_le (offAt its x) P
  have l2 := List.length_filter_le (offAt its y) P
  simp (disch := first | assumption | omega | (simp only [List.length_map, List.length_range, List.length_cons, List.length_nil, List.length_append]; omega) | grind) only [↓reduceIte, cmS, Cm.tr4_tup, Cm.tr5_tup, Cm.tr6_tup, ldark_ok h hP, filt_two]
  by_cases c : d < ((P.filter (onlyAt its x y)).length : Int)
  · rw [if_pos c, decide_eq_false (show ¬ ((P.filter (onlyAt its x y)).length : Int) ≤ d by omega)]; rfl
  · rw [if_neg c, decide_eq_true (show ((P.filter (onlyAt its x y)).length : Int) ≤ d by omega)]; rfl
theorem sameS_comm {its x y d P} : sameS its x y d P = sameS its y x d P := by unfold sameS; rw [Bool.and_comm]
theorem sameS_self {its x P} {d : Int} (hd : 0 ≤ d) : sameS its x x d P = true := by
  have : P.filter (onlyAt its x x) = [] := List.filter_eq_nil_iff.mpr fun p _ => by unfold onlyAt; cases offAt its x p <;> simp
  unfold sameS
  rw [this]
  simp [hd]
theorem fusB_let {x : List Nat} (h : x.Sublist LET) : fusesB x = true := (goodE.of (ns := []) h (by decide) .nil (fun n hn => nomatch hn)).fus
theorem places_few {ws : List (Int × Nat)} (h : Wins ws) : (placesS ws).length ≤ 100000 := by
  have := flat_len fun w hw => (h.ok w hw).m1
  have := places_len (ws := ws)
  have := h.le
  omega
end Mm
end

section
/-! drawn windows -/
namespace Mm
open PySem PySem.Spec PyProof.Rows L2 PySem.W Fz
theorem lwins_post {far : Int} {q : D → Prop} {e : EX} (f0 : 0 ≤ far) (f1 : far ≤ 1000000000000000000000000000000000000000) (hq : ∀ ws, Wins ws → ws.length ≤ 3 → (∀ w ∈ ws, w.2 ≤ 9) → q (.tup (ws.map winD))) : m__law_windows (.int far) q e := by
  unfold m__law_windows
  simp (disch := first | assumption | omega | (simp only [List.length_map, List.length_range, List.length_cons, List.length_nil, List.length_append]; omega) | grind) only [↓reduceIte, cmS, Cm.tr4_tup, Cm.tr5_tup, Cm.tr6_tup, cmA, Nat.reduceAdd, Nat.reduceLeDiff, true_and]
  refine ⟨by decide, by decide, fun a a0 a1 => ?_⟩
  refine one_lst (ds := [.int 0, .int 0, .int a, .int far]) (by show 1 ≤ 4; decide) (by show 4 < _; decide) fun ds hds => ?_
  have hs : ∃ s : Int, ds = .int s ∧ 0 ≤ s ∧ s ≤ 1000000000000000000000000000000000000000 := by
    simp only [List.mem_cons, List.not_mem_nil, or_false] at hds
    rcases hds with rfl | rfl | rfl | rfl
    · exact ⟨_, rfl, by decide, by decide⟩
    · exact ⟨_, rfl, by decide, by decide⟩
    · exact ⟨_, rfl, a0, by omega⟩
    · exact ⟨_, rfl, f0, f1⟩
  obtain ⟨s, rfl, s0, s1⟩ := hs
  refine ⟨by decide, by decide, fun n n0 n1 => ?_⟩
  rw [Cm.rng1_of (by omega)]
  simp (disch := first | assumption | omega | (simp only [List.length_map, List.length_range, List.length_cons, List.length_nil, List.length_append]; omega) | grind) only [↓reduceIte, cmS, Cm.tr4_tup, Cm.tr5_tup, Cm.tr6_tup, cmA, Nat.reduceAdd, Nat.reduceLeDiff, true_and]
  refine Cm.loop_inv (fun i (v : List D) => ∃ ws : List (Int × Nat), v = ws.map winD ∧ ws.length = i ∧ ∀ w ∈ ws, Win w ∧ w.2 ≤ 9) ⟨[], rfl, rfl, fun w hw => nomatch hw⟩ (fun i d v hd ⟨ws, ev, hl, hw⟩ q' h1 h2 h3 => ?_) fun v ⟨ws, ev, hl, hw⟩ => ?_
  · subst ev
    obtain ⟨k, hk, rfl⟩ := map_get hd
    have hk' := range_ix hk
    unfold m__law_windows_t1
    simp (disch := first | assumption | omega | (simp only [List.length_map, List.length_range, List.length_cons, List.length_nil, List.length_append]; omega) | grind) only [↓reduceIte, cmS, Cm.tr4_tup, Cm.tr5_tup, Cm.tr6_tup, cmA, Nat.reduceAdd, Nat.reduceLeDiff, true_and]
    refine ⟨by decide, by decide, fun b b0 b1 => ⟨by decide, by decide, fun c c0 c1 => ?_⟩⟩
    obtain ⟨m, hm⟩ := Int.eq_ofNat_of_zero_le (show 0 ≤ 1 + c by omega)
    rw [hm]
    refine h1 _ ⟨ws ++ [(s + b, m)], by rw [List.map_append]; rfl, by rw [List.length_append, hl]; rfl, fun w hw' => ?_⟩
    rcases List.mem_append.mp hw' with z | z
    · exact hw w z
    · rw [List.mem_singleton.mp z]
      exact ⟨⟨by show 0 ≤ s + b; omega, by show 1 ≤ m; omega, by show m ≤ 200; omega, by show s + b + (m : Int) ≤ E40 + 1; unfold E40; omega⟩, by show m ≤ 9; omega⟩
  · subst ev
    rw [List.length_map, List.length_range] at hl
    simp (disch := first | assumption | omega | (simp only [List.length_map, List.length_range, List.length_cons, List.length_nil, List.length_append]; omega) | grind) only [↓reduceIte, cmS, Cm.tr4_tup, Cm.tr5_tup, Cm.tr6_tup, cmA, Nat.reduceAdd, Nat.reduceLeDiff, true_and]
    exact hq ws ⟨by omega, by omega, fun w h => (hw w h).1⟩ (by omega) fun w h => (hw w h).2
end Mm
end

section
/-! the first longest dark stretch, post by post -/
namespace Mm
open PySem PySem.Spec PyProof.Rows L2 PySem.W Fz
/-- r is the first longest stretch of the first n posts -/
def IsF (f : Nat → Bool) (n : Nat) : Option (Nat × Nat) → Prop
  | none => ∀ p, p < n → f p = false
  | some (a, m) => 1 ≤ m ∧ a + m ≤ n ∧ (∀ p, a ≤ p → p < a + m → f p = true) ∧ ∀ b k, b + k ≤ n → (∀ p, b ≤ p → p < b + k → f p = true) → k ≤ m ∧ (k = m → a ≤ b)
theorem isF_one {f n} {r t : Option (Nat × Nat)} (hr : IsF f n r) (ht : IsF f n t) : r = t := by
  cases r with
  | none => cases t with
    | none => rfl
    | some t =>
      obtain ⟨a, m⟩ := t
      obtain ⟨h1, h2, h3, _⟩ := ht
      have := hr a (by omega)
      rw [h3 a (Nat.le_refl _) (by omega)] at this; cases this
  | some r => cases t with
    | none =>
      obtain ⟨a, m⟩ := r
      obtain ⟨h1, h2, h3, _⟩ := hr
      have := ht a (by omega)
      rw [h3 a (Nat.le_refl _) (by omega)] at this; cases this
    | some t =>
      obtain ⟨a, m⟩ := r
      obtain ⟨b, k⟩ := t
      obtain ⟨h1, h2, h3, h4⟩ := hr
      obtain ⟨g1, g2, g3, g4⟩ := ht
      obtain ⟨e1, e2⟩ := h4 b k g2 g3
      obtain ⟨e3, e4⟩ := g4 a m h2 h3
      have e : m = k := by omega
      subst e
      have := e2 rfl
      have := e4 rfl
      congr 2
      omega
/-- how many posts it has -/
def manyF : Option (Nat × Nat) → Nat
  | none => 0
  | some p => p.2
theorem manyF_is {f n w} {r : Option (Nat × Nat)} (hr : IsF f n r) (h1 : ∃ b, b + w ≤ n ∧ ∀ p, b ≤ p → p < b + w → f p = true) (h2 : ∀ b k, b + k ≤ n → (∀ p, b ≤ p → p < b + k → f p = true) → k ≤ w) : manyF r = w := by
  obtain ⟨b, hb, hf⟩ := h1
  cases r with
  | none =>
    show 0 = w
    rcases Nat.eq_zero_or_pos w with z | z
    · exact z.symm
    · have := hr b (by omega)
      rw [hf b (Nat.le_refl _) (by omega)] at this; cases this
  | some r =>
    obtain ⟨a, m⟩ := r
    obtain ⟨g1, g2, g3, g4⟩ := hr
    show m = w
    have := h2 a m g2 g3
    have := (g4 b w hb hf).1
    omega
abbrev prD : Nat × Nat → D := fun p => .tup [.int (p.1 : Int), .int (p.2 : Int)]
abbrev esF (t : Nat × Option (Nat × Nat)) : D × D := (.int (t.1 : Int), optD prD t.2)
structure AtF (f : Nat → Bool) (i : Nat) (t : Nat × Option (Nat × Nat)) : Prop where
  le : t.1 ≤ i
  run : ∀ p, i - t.1 ≤ p → p < i → f p = true
  stop : t.1 = i ∨ f (i - t.1 - 1) = false
  best : IsF f i t.2
/-! ### sorted lists within one another -/
theorem sub_sorted {α : Type} {R : α → α → Prop} (irr : ∀ a, ¬ R a a) (tr : ∀ a b c, R a b → R b c → R a c) : ∀ (L l : List α), l.Pairwise R → L.Pairwise R → (∀ x ∈ l, x ∈ L) → l.Sublist L
  | [], l, _, _, h => by
    cases l with
    | nil => exact List.Sublist.refl _
    | cons x l => exact nomatch (h x (List.mem_cons_self ..))
  | y :: L, [], _, _, _ => List.nil_sublist _
  | y :: L, x :: l, h1, h2, h => by
    obtain ⟨a1, a2⟩ := List.pairwise_cons.mp h1
    obtain ⟨b1, b2⟩ := List.pairwise_cons.mp h2
    rcases List.mem_cons.mp (h x (List.mem_cons_self ..)) with rfl | hx
    · refine (sub_sorted irr tr L l a2 b2 fun z hz => ?_).cons_cons x
      rcases List.mem_cons.mp (h z (List.mem_cons_of_mem _ hz)) with rfl | hz2
      · exact absurd (a1 z hz) (irr z)
      · exact hz2
    · refine (sub_sorted irr tr L (x :: l) h1 b2 fun z hz => ?_).cons y
      rcases List.mem_cons.mp hz with rfl | hz2
      · exact hx
      · rcases List.mem_cons.mp (h z hz) with rfl | hz3
        · exact absurd (tr _ _ _ (b1 x hx) (a1 z hz2)) (irr z)
        · exact hz3
theorem fus_let {its} (h : Its its) : (fusesOf its).Sublist LET := sub_sorted (R := (· < ·)) (fun a => Nat.lt_irrefl a) (fun a b c => Nat.lt_trans) LET (fusesOf its) (fus_sorted its) (by decide +kernel) fun c hc => by
  obtain ⟨i, hi, hc⟩ := fus_mem.mp hc
  have := (h.good i hi).lt c hc
  exact let_in this.1 this.2
/-- the lit posts of a stretch -/
def litL (f : Nat → Bool) (s m : Nat) : List Int := ((List.range m).filter fun k => !f (s + k)).map fun k => ((s + k : Nat) : Int)
theorem litL_len (f : Nat → Bool) (s : Nat) : ∀ m, (litL f s m).length = lit f s m
  | 0 => rfl
  | m + 1 => by
    have := litL_len f s m
    unfold litL at this ⊢
    rw [List.length_map] at this ⊢
    rw [List.range_succ, List.filter_append, List.length_append, this, lit]
    cases hf : f (s + m) <;> simp [hf]
theorem litL_mem {f : Nat → Bool} {s m : Nat} {p : Int} : p ∈ litL f s m ↔ ∃ q : Nat, p = (q : Int) ∧ s ≤ q ∧ q < s + m ∧ f q = false := by
  unfold litL
  rw [List.mem_map]
  constructor
  · rintro ⟨k, hk, rfl⟩
    obtain ⟨h1, h2⟩ := List.mem_filter.mp hk
    have := List.mem_range.mp h1
    exact ⟨s + k, rfl, by omega, by omega, by simpa using h2⟩
  · rintro ⟨q, rfl, h1, h2, h3⟩
    refine ⟨q - s, List.mem_filter.mpr ⟨List.mem_range.mpr (by omega), ?_⟩, by omega⟩
    rw [show s + (q - s) = q from by omega, h3]; rfl
theorem litL_rise {f : Nat → Bool} {s m : Nat} : rising (litL f s m) := by
  unfold litL rising
  rw [List.pairwise_map]
  exact (List.pairwise_lt_range.filter _).imp fun {a b} h => by omega
theorem drk_nat {its x ns} {p : Nat} : drk its x ns (p : Int) = (offN its x p || decide ((p : Int) ∈ ns)) := by
  unfold drk offN
  rw [off_nat]
/-- as many lit posts of a dark stretch as dead lamps help there, at most -/
theorem lit_dead {its x ns} {b k : Nat} (hr : rising ns) (h : ∀ p : Nat, b ≤ p → p < b + k → drk its x ns p = true) : lit (offN its x) b k ≤ ns.length := by
  rw [← litL_len]
  refine (sub_sorted (R := (· < ·)) (fun a => Int.lt_irrefl a) (fun a b c => Int.lt_trans) ns (litL (offN its x) b k) litL_rise hr fun p hp => ?_).length_le
  obtain ⟨q, rfl, h1, h2, h3⟩ := litL_mem.mp hp
  have := h q h1 h2
  rw [drk_nat, h3] at this
  simpa using this
end Mm
end

section
/-! what is seen in windows, and who is a suspect -/
namespace Mm
open PySem PySem.Spec PyProof.Rows L2 PySem.W Fz
theorem darks_posts {its x ns} {w : Int × Nat} : darks its x ns w.1 w.2 = (postsW w).filter (drk its x ns) := by
  unfold darks postsW
  rw [List.filter_map]; rfl
theorem Win.e40 {w : Int × Nat} (h : Win w) : w.1 ≤ E40 := by
  have := h.f1
  have := h.m0
  generalize E40 = e at *
  omega
theorem places_sorted {ws : List (Int × Nat)} : (placesS ws).Pairwise (fun a b => ltI a b = true) := sorted_uniq strictI _
theorem places_flat {ws : List (Int × Nat)} {p : Int} : p ∈ placesS ws ↔ p ∈ ws.flatMap postsW := by unfold placesS; rw [mem_uniq strictI]
/-! ### suspects -/
theorem off_nil {its} {p : Int} (h : Its its) : offAt its [] p = false := by
  have hp := h.pos
  have h0 : 0 ≤ p % (its.length : Int) := Int.emod_nonneg _ (by omega)
  have h1 : p % (its.length : Int) < its.length := Int.emod_lt_of_pos _ (by omega)
  unfold offAt
  rw [List.getD_eq_getElem?_getD, List.getElem?_eq_getElem (by omega)]
  have g := (h.good _ (List.getElem_mem (h := (show (p % (its.length : Int)).toNat < its.length by omega)))).ge
  generalize its[(p % (its.length : Int)).toNat] = i at g
  cases i with
  | nil => exact absurd g (by decide)
  | cons c i => simp [outB]
theorem only_nil {its x} (h : Its its) : onlyAt its x [] = offAt its x := funext fun p => by unfold onlyAt; rw [off_nil h]; simp
def fitS (its : List (List Nat)) (dk : Int → Bool) (d : Int) (P : List Int) (x : List Nat) : Bool := (P.filter (offAt its x)).all dk && decide (((P.filter dk).length : Int) - ((P.filter (offAt its x)).length : Int) ≤ d)
theorem dcM_ok {P : List Int} : ∀ {ns : List Int}, Cm.dcM (fun post => .ok post) (fun _ => .ok (.bl true)) (P.map .int) (ns.map kT) = .ok (.dk ((P.foldl insP ns).map kT)) := by
  induction P with
  | nil => intro ns; rfl
  | cons p P ih =>
    intro ns
    rw [List.map_cons, Cm.dcM, Cm.noer_ok, Cm.ok_bind, Cm.dky_int, Cm.noer_ok, Cm.ok_bind, put_kT, ih, List.foldl_cons]
theorem inK_of {ns : List Int} {p : Int} : inKO (.int p) (.dk (ns.map kT)) = some (decide (p ∈ ns)) := by
  show some (getD' (ns.map kT) (.inl p)).isSome = _
  congr 1
  induction ns with
  | nil => rfl
  | cons a ns ih =>
    unfold getD' at ih ⊢
    rw [List.map_cons, List.find?_cons]
    by_cases h : a = p
    · subst h; simp
    · have h2 : ¬ p = a := fun z => h z.symm
      have e : decide ((kT a).1 = (.inl p : Key)) = false := by simp [h]
      rw [e]
      refine Eq.trans ih ?_
      simp [h2]
theorem asc_of {S : List Int} (h : S.Pairwise (fun a b => ltI a b = true)) (hl : S.length ≤ 100000) : Cm.b1 allO (.comp (.rng1 (.ok (.int ((S.length : Int) - 1)))) (fun k => (.ofB (.q2 ltO (.opt (ixO (.tup (S.map .int)) k)) (.b2 ixO (.ok (.tup (S.map .int))) (.opt (addO k (.int 1)))))))) = .ok (.bl true) := by
  have hn : ((S.length : Int) - 1).toNat = S.length - 1 := by omega
  have hr : Cm.rng1 (.ok (.int ((S.length : Int) - 1))) = .ok (range0 (S.length - 1)) := by
    show Cm.asr _ _ = _
    rw [Cm.asr_true (by omega), hn]
  have at_ : ∀ k : Nat, k < S.length → ixD (.tup (S.map .int)) (k : Int) = some (.int (S.getD k 0)) := fun k hk => by
    show atI (S.map D.int) k = _
    rw [atI_map, atI_lit rfl (List.getElem?_eq_getElem hk), List.getD_eq_getElem?_getD, List.getElem?_eq_getElem hk]
    rfl
  rw [hr, Cm.comp_of (g := fun _ => .bl true) (fun k hk => ?_) (by rw [List.length_range]; omega)]
  · show Cm.opt (allO (.lst ((List.range (S.length - 1)).map fun _ => D.bl true))) = _
    rw [allO_map, Cm.opt_some, show ((List.range (S.length - 1)).all fun _ => true) = true from List.all_eq_true.mpr fun _ _ => rfl]
  · have hk' : k < S.length - 1 := List.mem_range.mp hk
    have e1 := at_ k (by omega)
    have e2 := at_ (k + 1) (by omega)
    have e3 : ((k + 1 : Nat) : Int) = (k : Int) + 1 := by omega
    rw [e3] at e2
    have lt : S.getD k 0 < S.getD (k + 1) 0 := by
      rw [List.getD_eq_getElem?_getD, List.getD_eq_getElem?_getD, List.getElem?_eq_getElem (show k < S.length by omega), List.getElem?_eq_getElem (show k + 1 < S.length by omega)]
      have := List.pairwise_iff_getElem.mp h k (k + 1) (by omega) (by omega) (by omega)
      exact of_decide_eq_true this
    simp only [Cm.b2_ok, ixO_int, e1, addO_int, Cm.opt_some, e2, Cm.q2_ok, ltO_int, Cm.ofB_ok, decide_eq_true lt]
theorem places_in {ws : List (Int × Nat)} (h : Wins ws) {p : Int} (hp : p ∈ placesS ws) : 0 ≤ p ∧ p ≤ E40 := by
  obtain ⟨w, hw, h1, h2⟩ := mem_places.mp hp
  have ok := h.ok w hw
  have := ok.f0
  have := ok.f1
  generalize E40 = e at *
  omega
theorem fold_filt {α : Type} {p : α → Bool} : ∀ {xs l : List α}, xs.foldl (fun l x => bif p x then l ++ [x] else l) l = l ++ xs.filter p
  | [], l => by simp
  | x :: xs, l => by
    rw [List.foldl_cons, fold_filt, List.filter_cons]
    cases p x <;> simp
end Mm
end

section
/-! who is a suspect: plain -/
namespace Mm
open PySem PySem.Spec PyProof.Rows L2 PySem.W Fz
theorem in_strsT (a : List Nat) (as : List (List Nat)) : inO (.str a) (.tup (as.map .str)) = some (decide (a ∈ as)) := by
  have e : inO (.str a) (.tup (as.map .str)) = inO (.str a) (.lst (as.map .str)) := rfl
  rw [e, in_map EqT.str (fun _ => rfl)]
  congr 1
  rw [decide_eq_decide]
theorem ni_strsT (a : List Nat) (as : List (List Nat)) : niO (.str a) (.tup (as.map .str)) = some (!decide (a ∈ as)) := by unfold niO; rw [in_strsT]; rfl
theorem ni_strsL (a : List Nat) (as : List (List Nat)) : niO (.str a) (.lst (as.map .str)) = some (!decide (a ∈ as)) := ni_strsT a as
theorem len_split {dk A : Int → Bool} : ∀ {P : List Int}, (P.filter dk).length = (P.filter fun p => dk p && A p).length + (P.filter fun p => dk p && !A p).length
  | [] => rfl
  | p :: P => by
    have := len_split (dk := dk) (A := A) (P := P)
    simp only [List.filter_cons]
    cases dk p <;> cases A p <;> simp <;> omega
theorem all_nil {A dk : Int → Bool} {P : List Int} : decide ((P.filter fun p => A p && !dk p) = []) = (P.filter A).all dk := by
  rw [Bool.eq_iff_iff, decide_eq_true_iff, List.filter_eq_nil_iff, List.all_eq_true]
  constructor
  · intro z p hp
    have := z p (List.mem_filter.mp hp).1
    rw [(List.mem_filter.mp hp).2] at this
    cases h : dk p with
    | true => rfl
    | false => rw [h] at this; exact absurd rfl this
  · intro z p hp
    cases h : A p with
    | false => simp
    | true => rw [z p (List.mem_filter.mpr ⟨hp, h⟩)]; simp
theorem fit_iff {its dk d P x} : fitS its dk d P x = (decide (((P.filter fun p => dk p && !offAt its x p).length : Int) ≤ d) && decide ((P.filter fun p => offAt its x p && !dk p) = [])) := by
  unfold fitS
  rw [all_nil, Bool.and_comm]
  cases ha : (P.filter (offAt its x)).all dk with
  | false => simp
  | true =>
    have e3 : (P.filter fun p => dk p && offAt its x p) = P.filter (offAt its x) := List.filter_congr fun p hp => by
      cases h : offAt its x p with
      | false => simp
      | true => rw [List.all_eq_true.mp ha p (List.mem_filter.mpr ⟨hp, h⟩)]; rfl
    have := len_split (dk := dk) (A := offAt its x) (P := P)
    rw [e3] at this
    rw [Bool.and_true, Bool.and_true, Bool.eq_iff_iff, decide_eq_true_iff, decide_eq_true_iff]
    omega
theorem drk_nil {its x} : drk its x [] = offAt its x := funext fun p => by unfold drk; simp
theorem two_filt {P : List Int} {a b : Int → Bool} : (P.filter a).filter (fun p => !decide (p ∈ P.filter b)) = P.filter fun p => a p && !b p := by
  rw [List.filter_filter]
  refine List.filter_congr fun p hp => ?_
  have : decide (p ∈ P.filter b) = b p := by
    cases h : b p with
    | true => exact decide_eq_true (List.mem_filter.mpr ⟨hp, h⟩)
    | false => exact decide_eq_false fun z => by rw [(List.mem_filter.mp z).2] at h; cases h
  rw [this, Bool.and_comm]
theorem places_lt {ws : List (Int × Nat)} (h : Wins ws) : (placesS ws).length ≤ 1200 := by
  have := flat_len fun w hw => (h.ok w hw).m1
  have := places_len (ws := ws)
  have := h.le
  omega
theorem places_ne {ws : List (Int × Nat)} (h : Wins ws) : 1 ≤ (placesS ws).length := by
  have hn := h.ne
  match ws, hn, h with
  | w :: ws, _, h =>
    have := (h.ok w (List.mem_cons_self ..)).m0
    exact List.length_pos_of_mem (mem_places.mpr ⟨w, List.mem_cons_self .., Int.le_refl _, by omega⟩)
/-- two that fit look alike -/
theorem fit_same {its dk d P x y} (hx : fitS its dk d P x = true) (hy : fitS its dk d P y = true) : sameS its x y d P = true := by
  have one : ∀ {x y}, fitS its dk d P x = true → fitS its dk d P y = true → ((P.filter (onlyAt its x y)).length : Int) ≤ d := fun {x y} hx hy => by
    rw [fit_iff, Bool.and_eq_true, decide_eq_true_iff, decide_eq_true_iff] at hx hy
    have hs : (P.filter (onlyAt its x y)).length ≤ (P.filter fun p => dk p && !offAt its y p).length := by
      rw [← List.countP_eq_length_filter, ← List.countP_eq_length_filter]
      refine List.countP_mono_left fun p hp h => ?_
      have h1 := List.filter_eq_nil_iff.mp hx.2 p hp
      unfold onlyAt at h
      revert h h1
      cases offAt its x p <;> cases offAt its y p <;> cases dk p <;> simp
    omega
  unfold sameS
  rw [decide_eq_true (one hx hy), decide_eq_true (one hy hx)]; rfl
theorem filt_self {P S : List Int} (hP : P.Pairwise (fun a b => ltI a b = true)) (hS : S.Pairwise (fun a b => ltI a b = true)) (hs : ∀ p ∈ S, p ∈ P) : P.filter (fun p => decide (p ∈ S)) = S := strict_ext strictI (hP.filter _) hS fun p => by
  rw [List.mem_filter, decide_eq_true_iff]
  exact ⟨fun z => z.2, fun z => ⟨hs p z, z⟩⟩
theorem ssort_of {l c : List (List Nat)} (hc : c.Pairwise (fun a b => ltS a b = true)) (hl : l.Nodup) (hm : ∀ z, z ∈ l ↔ z ∈ c) : ssort l = c := by
  refine strict_ext strictS ?_ hc fun z => by unfold ssort; rw [List.mem_mergeSort]; exact hm z
  have h1 : (ssort l).Pairwise fun a b => decide (a ≤ b) = true := by
    unfold ssort
    exact List.pairwise_mergeSort (fun a b c => by simp; exact List.le_trans) (fun a b => by simp; exact List.le_total a b) l
  have h2 : (ssort l).Nodup := by
    unfold ssort
    exact (List.mergeSort_perm l _).nodup_iff.mpr hl
  refine (h1.and h2).imp fun {a b} ⟨x, y⟩ => ?_
  have hx := of_decide_eq_true x
  refine decide_eq_true (Decidable.byContradiction fun z => y (List.le_antisymm hx ?_))
  exact List.not_lt.mp z
end Mm
end

section
/-! pairs that look alike -/
namespace Mm
open PySem PySem.Spec PyProof.Rows L2 PySem.W Fz
abbrev pairD (p : List Nat × List Nat) : D := .tup [.str p.1, .str p.2]
def pairsK (S : List (List Nat)) (k : Nat) : List (List Nat × List Nat) := (List.range (S.length - (k + 1))).map fun t => (S.getD k [], S.getD (k + 1 + t) [])
def pairsS (S : List (List Nat)) : List (List Nat × List Nat) := (List.range S.length).flatMap (pairsK S)
theorem pairsK_len {S k} : (pairsK S k).length ≤ S.length := by
  unfold pairsK
  rw [List.length_map, List.length_range]; omega
theorem flat_bound {α β : Type} {f : α → List β} {n : Nat} : ∀ {l : List α}, (∀ a ∈ l, (f a).length ≤ n) → (l.flatMap f).length ≤ n * l.length
  | [], _ => by simp
  | a :: l, h => by
    have h1 := h a (List.mem_cons_self ..)
    have h2 := flat_bound (l := l) fun b hb => h b (List.mem_cons_of_mem _ hb)
    rw [List.flatMap_cons, List.length_append, List.length_cons, Nat.mul_add]
    omega
theorem pairs_len {S : List (List Nat)} (h : S.length ≤ 64) : (pairsS S).length ≤ 4096 := by
  have := flat_bound (f := pairsK S) (n := S.length) (l := List.range S.length) fun k _ => pairsK_len
  rw [List.length_range] at this
  have h2 : S.length * S.length ≤ 64 * 64 := Nat.mul_le_mul h h
  exact Nat.le_trans this h2
theorem lc2N_ok {α β : Type} {f : D → Cm D} {k : List D → Cm α} {enc g : β → D} : ∀ {bs : List β} {acc : List D}, (∀ b ∈ bs, f (enc b) = .ok (g b)) → acc.length + bs.length ≤ 16777216 → Cm.lc2N f k (bs.map enc) acc = k (acc ++ bs.map g)
  | [], acc, _, _ => by rw [List.map_nil, List.map_nil, List.append_nil]; rfl
  | b :: bs, acc, h, hl => by
    rw [List.length_cons] at hl
    rw [List.map_cons, Cm.lc2N, h b (List.mem_cons_self ..), Cm.noer_ok, Cm.ok_bind, Cm.asr_true (by omega), lc2N_ok (fun c hc => h c (List.mem_cons_of_mem _ hc)) (by rw [List.length_append]; simp; omega), List.append_assoc]; rfl
theorem lc2M_ok {α β : Type} {fi : D → Cm (List D)} {fc : D → D → Cm D} {enc : α → D} {enc2 : α → β → D} {bs : α → List β} {g : α → β → D} {n : Nat} : ∀ {as : List α} {acc : List D}, (∀ a ∈ as, fi (enc a) = .ok ((bs a).map (enc2 a)) ∧ (bs a).length ≤ n ∧ ∀ b ∈ bs a, fc (enc a) (enc2 a b) = .ok (g a b)) → acc.length + n * as.length ≤ 16777216 → Cm.lc2M fi fc (as.map enc) acc = .ok (.lst (acc ++ as.flatMap fun a => (bs a).map (g a)))
  | [], acc, _, _ => by rw [List.map_nil, List.flatMap_nil, List.append_nil]; rfl
  | a :: as, acc, h, hl => by
    obtain ⟨h1, h2, h3⟩ := h a (List.mem_cons_self ..)
    rw [List.length_cons, Nat.mul_add] at hl
    rw [List.map_cons, Cm.lc2M, h1, Cm.noer_ok, Cm.ok_bind, lc2N_ok (enc := enc2 a) (g := g a) h3 (by omega), lc2M_ok (fun c hc => h c (List.mem_cons_of_mem _ hc)) (by rw [List.length_append, List.length_map]; omega), List.append_assoc, List.flatMap_cons]
theorem rng2_k {k n : Nat} (h : n ≤ 64) (hk : k < n) : Cm.rng2 (.ok (.int ((k : Int) + 1))) (.ok (.int (n : Int))) = .ok ((List.range (n - (k + 1))).map fun t : Nat => D.int ((k : Int) + 1 + (t : Int))) := by
  rw [Cm.rng2_of (by omega), show ((n : Int) - ((k : Int) + 1)).toNat = n - (k + 1) by omega]
theorem ixS {S : List (List Nat)} {k : Nat} (h : k < S.length) : ixD (.lst (S.map .str)) (k : Int) = some (.str (S.getD k [])) := ix_mapN D.str S k [] h
theorem ixS2 {S : List (List Nat)} {k t : Nat} (h : k + 1 + t < S.length) : ixD (.lst (S.map .str)) ((k : Int) + 1 + (t : Int)) = some (.str (S.getD (k + 1 + t) [])) := by
  have := ix_mapN D.str S (k + 1 + t) [] h
  rw [← this]
  rfl
theorem all_pairs_ok {z its} {b : Int} (h : Its its) : m_all_pairs (obR z its) (.int b) = .ok (.lst ((pairsS (setsS (fusesOf its) b)).map pairD)) := by
  have l64 := len_sets (m := b) h.fus
  unfold m_all_pairs
  simp (disch := first | assumption | omega | (simp only [List.length_map, List.length_range, List.length_cons, List.length_nil, List.length_append]; omega) | grind) only [↓reduceIte, cmS, Cm.tr4_tup, Cm.tr5_tup, Cm.tr6_tup, mth_fuses h.small, sets_ok h.fus]
  generalize setsS (fusesOf its) b = S at *
  unfold Cm.comp2
  simp (disch := first | assumption | omega | (simp only [List.length_map, List.length_range, List.length_cons, List.length_nil, List.length_append]; omega) | grind) only [↓reduceIte, cmS, Cm.tr4_tup, Cm.tr5_tup, Cm.tr6_tup]
  have run := lc2M_ok (fi := fun k => Cm.rng2 (.opt (addO k (.int 1))) (.ok (.int (S.length : Int)))) (fc := fun k j => Cm.tupC (.cons (.opt (ixO (.lst (S.map .str)) k)) (.cons (.opt (ixO (.lst (S.map .str)) j)) (.ok [])))) (enc := fun k : Nat => D.int (k : Int)) (enc2 := fun (k t : Nat) => D.int ((k : Int) + 1 + (t : Int))) (bs := fun k => List.range (S.length - (k + 1))) (g := fun k t => pairD (S.getD k [], S.getD (k + 1 + t) [])) (n := 64) (as := List.range S.length) (acc := []) (fun k hk => by
    have hk' := List.mem_range.mp hk
    refine ⟨by simp (disch := first | assumption | omega | (simp only [List.length_map, List.length_range, List.length_cons, List.length_nil, List.length_append]; omega) | grind) only [↓reduceIte, cmS, Cm.tr4_tup, Cm.tr5_tup, Cm.tr6_tup, rng2_k l64 hk'], by rw [List.length_range]; omega, fun t ht => ?_⟩
    have ht' := List.mem_range.mp ht
    simp (disch := first | assumption | omega | (simp only [List.length_map, List.length_range, List.length_cons, List.length_nil, List.length_append]; omega) | grind) only [↓reduceIte, cmS, Cm.tr4_tup, Cm.tr5_tup, Cm.tr6_tup, ixS hk', ixS2 (show k + 1 + t < S.length by omega)]) (by rw [List.length_range]; simp; omega)
  refine run.trans ?_
  rw [List.nil_append]
  unfold pairsS pairsK
  rw [List.map_flatMap]
  simp only [List.map_map]
  rfl
/-- tuples of pairs are told apart -/
theorem pair_nil (l : List (List Nat × List Nat)) : eqO (.tup (l.map pairD)) (.tup []) = some (decide (l = [])) := (EqT.pair EqT.str EqT.str).tup.eqO (by decide) l []
theorem pair_nilL (l : List (List Nat × List Nat)) : eqO (.lst (l.map pairD)) (.lst []) = some (decide (l = [])) := (EqT.pair EqT.str EqT.str).lst.eqO (by decide) l []
def aliS (its : List (List Nat)) (b d : Int) (P : List Int) : List (List Nat × List Nat) := (pairsS (setsS (fusesOf its) b)).filter fun p => sameS its p.1 p.2 d P
theorem alikes_ok {z its} {b d : Int} {ws : List (Int × Nat)} (h : Its its) (b0 : 0 ≤ b) (b1 : b ≤ 6) (d0 : 0 ≤ d) (d1 : d ≤ 4) (hw : Wins ws) : m_pairs_alike (obR z its) (.int b) (.int d) (.tup (ws.map winD)) = .ok (.tup ((aliS its b d (placesS ws)).map pairD)) := by
  have few := places_few hw
  have ask : m_check_asked (obR z its) (.int b) (.int d) = .ok .non := by
    obtain ⟨n, rfl⟩ := Int.eq_ofNat_of_zero_le d0
    exact asked_ok inR b0 b1 (by omega)
  have l64 := pairs_len (len_sets (m := b) h.fus)
  unfold m_pairs_alike
  simp (disch := first | assumption | omega | (simp only [List.length_map, List.length_range, List.length_cons, List.length_nil, List.length_append]; omega) | grind) only [↓reduceIte, cmS, Cm.tr4_tup, Cm.tr5_tup, Cm.tr6_tup, ask, wins_ok hw, posts_ok hw, all_pairs_ok h, alike_ok h few]
  rfl
theorem can_ok {z its} {b d : Int} {ws : List (Int × Nat)} (h : Its its) (b0 : 0 ≤ b) (b1 : b ≤ 6) (d0 : 0 ≤ d) (d1 : d ≤ 4) (hw : Wins ws) : m_can_tell (obR z its) (.int b) (.int d) (.tup (ws.map winD)) = .ok (.bl (decide (aliS its b d (placesS ws) = []))) := by
  unfold m_can_tell
  simp (disch := first | assumption | omega | (simp only [List.length_map, List.length_range, List.length_cons, List.length_nil, List.length_append]; omega) | grind) only [↓reduceIte, cmS, Cm.tr4_tup, Cm.tr5_tup, Cm.tr6_tup, alikes_ok h b0 b1 d0 d1 hw, pair_nil]
end Mm
end

section
/-! law k14 -/
namespace Mm
open PySem PySem.Spec PyProof.Rows L2 PySem.W Fz
theorem fold_filtM {α β : Type} {p : α → Bool} {g : α → β} : ∀ {xs : List α} {l : List β}, xs.foldl (fun l x => bif p x then l ++ [g x] else l) l = l ++ (xs.filter p).map g
  | [], l => by simp
  | x :: xs, l => by
    rw [List.foldl_cons, fold_filtM, List.filter_cons]
    cases p x <;> simp
theorem fold_app {α β : Type} {f : α → List β} : ∀ {xs : List α} {l : List β}, xs.foldl (fun l x => l ++ f x) l = l ++ xs.flatMap f
  | [], l => by simp
  | x :: xs, l => by
    rw [List.foldl_cons, fold_app, List.flatMap_cons, List.append_assoc]
theorem filt_flat {α β : Type} {f : α → List β} {p : β → Bool} : ∀ {xs : List α}, (xs.flatMap f).filter p = xs.flatMap fun x => (f x).filter p
  | [] => rfl
  | x :: xs => by rw [List.flatMap_cons, List.flatMap_cons, List.filter_append, filt_flat]
abbrev sm (its : List (List Nat)) (d : Int) (P : List Int) (p : List Nat × List Nat) : Bool := sameS its p.1 p.2 d P
theorem t1_ok {its} {d : Int} {ws : List (Int × Nat)} {S : List (List Nat)} {k t : Nat} {l : List (List Nat × List Nat)} (h : Its its) (hw : Wins ws) (hk : k < S.length) (ht : k + 1 + t < S.length) (hl : l.length ≤ 10000) :
    m__law_right_t1 (.lst (its.map .str)) (.int d) (.lst (S.map .str)) (.lst ((placesS ws).map .int)) (.int (k : Int)) (l.map pairD) (.int ((k : Int) + 1 + (t : Int))) = .ok (.nx ((bif sm its d (placesS ws) (S.getD k [], S.getD (k + 1 + t) []) then l ++ [(S.getD k [], S.getD (k + 1 + t) [])] else l).map pairD)) := by
  unfold m__law_right_t1
  simp (disch := first | assumption | omega | (simp only [List.length_map, List.length_range, List.length_cons, List.length_nil, List.length_append]; omega) | grind) only [↓reduceIte, cmS, Cm.tr4_tup, Cm.tr5_tup, Cm.tr6_tup, ixS hk, ixS2 ht, lsame_ok h (places_few hw)]
  show _ = Cm.ok (Lf.nx ((bif sameS its (S.getD k []) (S.getD (k + 1 + t) []) d (placesS ws) then l ++ [(S.getD k [], S.getD (k + 1 + t) [])] else l).map pairD))
  cases sameS its (S.getD k []) (S.getD (k + 1 + t) []) d (placesS ws) with
  | false => rfl
  | true =>
    show Cm.ok (Lf.nx (List.map pairD l ++ [pairD (S.getD k [], S.getD (k + 1 + t) [])])) = Cm.ok (Lf.nx (List.map pairD (l ++ [(S.getD k [], S.getD (k + 1 + t) [])])))
    rw [List.map_append]; rfl
theorem t2_ok {its} {d : Int} {ws : List (Int × Nat)} {S : List (List Nat)} {k : Nat} {l : List (List Nat × List Nat)} (h : Its its) (hw : Wins ws) (hS : S.length ≤ 64) (hk : k < S.length) (hl : l.length ≤ 5000) :
    m__law_right_t2 (.lst (its.map .str)) (.int d) (.lst (S.map .str)) (.lst ((placesS ws).map .int)) (l.map pairD) (.int (k : Int)) = .ok (.nx ((l ++ (pairsK S k).filter (sm its d (placesS ws))).map pairD)) := by
  unfold m__law_right_t2
  simp (disch := first | assumption | omega | (simp only [List.length_map, List.length_range, List.length_cons, List.length_nil, List.length_append]; omega) | grind) only [↓reduceIte, cmS, Cm.tr4_tup, Cm.tr5_tup, Cm.tr6_tup, rng2_k hS hk]
  have run := Cm.loop_fold (fb := m__law_right_t1 (.lst (its.map .str)) (.int d) (.lst (S.map .str)) (.lst ((placesS ws).map .int)) (.int (k : Int))) (k := fun v9 => (.ok (.nx v9) : Cm (Lf (List D) (Lf Unit D)))) (fun t : Nat => D.int ((k : Int) + 1 + (t : Int))) (fun l : List (List Nat × List Nat) => l.map pairD) (fun l t => bif sm its d (placesS ws) (S.getD k [], S.getD (k + 1 + t) []) then l ++ [(S.getD k [], S.getD (k + 1 + t) [])] else l) (fun i v => v.length ≤ 5000 + i) (List.range (S.length - (k + 1))) 0 l (by omega) (fun i v t _ ht hv => by
    have hi := (List.getElem?_eq_some_iff.mp ht).1
    have ht' := List.mem_range.mp (List.mem_of_getElem? ht)
    rw [List.length_range] at hi
    exact ⟨t1_ok h hw hk (by omega) (by omega), by cases sm its d (placesS ws) (S.getD k [], S.getD (k + 1 + t) []) <;> simp <;> omega⟩)
  refine run.1.trans ?_
  rw [fold_filtM (p := fun t => sm its d (placesS ws) (S.getD k [], S.getD (k + 1 + t) [])) (g := fun t => (S.getD k [], S.getD (k + 1 + t) []))]
  unfold pairsK
  rw [List.filter_map]
  rfl
theorem rok_ali {its} {b d : Int} {P : List Int} (h : Its its) : Cm.reprC (.ok (.lst [.tup ((aliS its b d P).map pairD), .tup ((aliS its b d P).map pairD)])) = .ok (.str (reprD (.lst [.tup ((aliS its b d P).map pairD), .tup ((aliS its b d P).map pairD)]))) := by
  have hS : ∀ k, Rok (.str ((setsS (fusesOf its) b).getD k [])) 1 62 := fun k => by
    have hs : ((setsS (fusesOf its) b).getD k []).Sublist LET := by
      rw [List.getD_eq_getElem?_getD]
      cases e : (setsS (fusesOf its) b)[k]? with
      | none => exact List.nil_sublist _
      | some x => exact (mem_setsF.mp (List.mem_of_getElem? e)).1.trans (fus_let h)
    have hl := hs.length_le
    rw [let_len] at hl
    exact rok_str (m := 6) hl fun c hc => by
      have : ∀ c ∈ LET, c < 1114112 := by decide +kernel
      exact this c (hs.subset hc)
  have one : Rok (.tup ((aliS its b d P).map pairD)) 3 544771 := rok_tup (n := 2) (m := 4096) (B := 131) (by
    rw [List.length_map]; exact Nat.le_trans (List.length_filter_le _ _) (pairs_len (len_sets h.fus))) fun x hx => by
    obtain ⟨y, hy, rfl⟩ := List.mem_map.mp hx
    obtain ⟨k, hk, hy⟩ := List.mem_flatMap.mp (List.mem_filter.mp hy).1
    obtain ⟨t, ht, rfl⟩ := List.mem_map.mp hy
    exact rok_tup (ds := [.str _, .str _]) (n := 1) (B := 62) (m := 2) (by show 2 ≤ 2; decide) (rok_cons (hS _) (rok_cons (hS _) rok_nil))
  exact Cm.repr_of ((rok_lst (ds := [.tup ((aliS its b d P).map pairD), .tup ((aliS its b d P).map pairD)]) (n := 3) (B := 544771) (m := 2) (by show 2 ≤ 2; decide) (rok_cons one (rok_cons one rok_nil))).up (by decide) (by decide))
theorem k1_ok {z its} {b d : Int} {ws : List (Int × Nat)} (h : Its its) (hw : Wins ws) (b0 : 0 ≤ b) (b1 : b ≤ 6) (d0 : 0 ≤ d) (d1 : d ≤ 4) :
    m__law_right_k1 (.int b) (.int d) (obR z its) (.tup (ws.map winD)) ((aliS its b d (placesS ws)).map pairD) = .ok (.nx ()) := by
  have al := alikes_ok (z := z) (b := b) (d := d) h b0 b1 d0 d1 hw
  have ca := can_ok (z := z) (b := b) (d := d) h b0 b1 d0 d1 hw
  have rp := rok_ali (b := b) (d := d) (P := placesS ws) h
  unfold m__law_right_k1
  simp (disch := first | assumption | omega | (simp only [List.length_map, List.length_range, List.length_cons, List.length_nil, List.length_append]; omega) | grind) only [↓reduceIte, cmS, Cm.tr4_tup, Cm.tr5_tup, Cm.tr6_tup, al, ca, rp, List.cons_append, List.nil_append, pair_nilL, repr_bl2]
theorem right_t3 {dd : D} {q : Lf Unit D → Prop} {e : EX} (hq : q (.nx ())) : m__law_right_t3 () dd q e := by
  unfold m__law_right_t3
  rw [ten39]
  simp (disch := first | assumption | omega | (simp only [List.length_map, List.length_range, List.length_cons, List.length_nil, List.length_append]; omega) | grind) only [↓reduceIte, cmS, Cm.tr4_tup, Cm.tr5_tup, Cm.tr6_tup, cmA, Nat.reduceAdd, Nat.reduceLeDiff, true_and]
  refine its_items (m := 8) (w := 5) (by decide) (by decide) (by decide) (by decide) fun its h _ _ => ?_
  refine ⟨by decide, by decide, fun b b0 b1 => ⟨by decide, by decide, fun a a0 a1 => ?_⟩⟩
  refine one_lst (ds := [.int 0, .int 0, .int 1, .int a]) (by show 1 ≤ 4; decide) (by show 4 < _; decide) fun ds hds => ?_
  have hs : ∃ s : Int, ds = .int s ∧ 0 ≤ s ∧ s ≤ 4 := by
    simp only [List.mem_cons, List.not_mem_nil, or_false] at hds
    rcases hds with rfl | rfl | rfl | rfl
    · exact ⟨_, rfl, by decide, by decide⟩
    · exact ⟨_, rfl, by decide, by decide⟩
    · exact ⟨_, rfl, by decide, by decide⟩
    · exact ⟨_, rfl, a0, by omega⟩
  obtain ⟨d, rfl, d0, d1⟩ := hs
  simp (disch := first | assumption | omega | (simp only [List.length_map, List.length_range, List.length_cons, List.length_nil, List.length_append]; omega) | grind) only [↓reduceIte, cmS, Cm.tr4_tup, Cm.tr5_tup, Cm.tr6_tup, cmA, Nat.reduceAdd, Nat.reduceLeDiff, true_and, h.join, h.rule]
  refine lwins_post (by decide) (by decide) fun ws hw hw3 _ => ?_
  simp (disch := first | assumption | omega | (simp only [List.length_map, List.length_range, List.length_cons, List.length_nil, List.length_append]; omega) | grind) only [↓reduceIte, cmS, Cm.tr4_tup, Cm.tr5_tup, Cm.tr6_tup, cmA, Nat.reduceAdd, Nat.reduceLeDiff, true_and, lplaces_ok hw, lfuses_eq h.small, lsets_ok h.fus]
  have l64 := len_sets (m := b) h.fus
  have run := Cm.loop_fold (fb := m__law_right_t2 (.lst (its.map .str)) (.int d) (.lst ((setsS (fusesOf its) b).map .str)) (.lst ((placesS ws).map .int))) (k := m__law_right_k1 (.int b) (.int d) (obR (joinL [32] its) its) (.tup (ws.map winD))) (fun k : Nat => D.int (k : Int)) (fun l : List (List Nat × List Nat) => l.map pairD) (fun l k => l ++ (pairsK (setsS (fusesOf its) b) k).filter (sm its d (placesS ws))) (fun i v => v.length ≤ 64 * i) (List.range (setsS (fusesOf its) b).length) 0 [] (by simp) (fun i v k _ hk hv => by
    have hi := (List.getElem?_eq_some_iff.mp hk).1
    have hk' := List.mem_range.mp (List.mem_of_getElem? hk)
    rw [List.length_range] at hi
    have hp := pairsK_len (S := setsS (fusesOf its) b) (k := k)
    have hf := List.length_filter_le (sm its d (placesS ws)) (pairsK (setsS (fusesOf its) b) k)
    exact ⟨t2_ok h hw l64 hk' (by omega), by rw [List.length_append]; omega⟩)
  have e1 : Cm.loop (m__law_right_t2 (.lst (its.map .str)) (.int d) (.lst ((setsS (fusesOf its) b).map .str)) (.lst ((placesS ws).map .int))) (m__law_right_k1 (.int b) (.int d) (obR (joinL [32] its) its) (.tup (ws.map winD))) ((List.range (setsS (fusesOf its) b).length).map fun k : Nat => D.int (k : Int)) [] = _ := run.1
  rw [Cm.rng1_nat _ (by omega)]
  show (Cm.loop (m__law_right_t2 (.lst (its.map .str)) (.int d) (.lst ((setsS (fusesOf its) b).map .str)) (.lst ((placesS ws).map .int))) (m__law_right_k1 (.int b) (.int d) (obR (joinL [32] its) its) (.tup (ws.map winD))) ((List.range (setsS (fusesOf its) b).length).map fun k : Nat => D.int (k : Int)) []) q e
  rw [e1, fold_app, List.nil_append, ← filt_flat]
  rw [show m__law_right_k1 (.int b) (.int d) (obR (joinL [32] its) its) (.tup (ws.map winD)) (List.map pairD (List.filter (sm its d (placesS ws)) ((List.range (setsS (fusesOf its) b).length).flatMap (pairsK (setsS (fusesOf its) b))))) = .ok (.nx ()) from k1_ok h hw b0 (by omega) d0 d1]
  exact hq
theorem right_ok {q : D → Prop} {e : EX} (hq : q (.bl true)) : m__law_right q e := by
  unfold m__law_right
  rw [Cm.rng1_of (by decide), Cm.ok_bind]
  exact Cm.loop_go (fun i : Nat => D.int (i : Int)) (as := List.range 2) (fun i _ q' h => right_t3 h) hq
abbrev lane : List (List Nat) := [[97], [98], [97, 98], [99]]
theorem sets_lane2 : setsS (fusesOf lane) 2 = [[], [97], [97, 98], [97, 99], [98], [98, 99], [99]] := by
  have hp : ((subsS (fusesOf lane)).filter fun x => decide ((x.length : Int) ≤ 2)).Perm [[], [97], [97, 98], [97, 99], [98], [98, 99], [99]] := by decide +kernel
  exact ssort_of (by decide +kernel) (by decide +kernel) fun z => hp.mem_iff
theorem sets_lane1 : setsS (fusesOf lane) 1 = [[], [97], [98], [99]] := by
  have hp : ((subsS (fusesOf lane)).filter fun x => decide ((x.length : Int) ≤ 1)).Perm [[], [97], [98], [99]] := by decide +kernel
  exact ssort_of (by decide +kernel) (by decide +kernel) fun z => hp.mem_iff
theorem places6 : placesS [(0, 200), (0, 200), (0, 200), (0, 200), (0, 200), (0, 200)] = (List.range 200).map fun k : Nat => (k : Int) := by
  refine strict_ext strictI places_sorted ?_ fun p => ?_
  · refine List.Pairwise.map _ (fun a b h => ?_) (List.pairwise_lt_range (n := 200))
    exact decide_eq_true (by omega)
  · rw [mem_places, List.mem_map]
    constructor
    · rintro ⟨w, hw, h1, h2⟩
      have hw' : w = (0, 200) := by
        simp only [List.mem_cons, List.not_mem_nil, or_false, or_self] at hw
        exact hw
      subst hw'
      exact ⟨p.toNat, List.mem_range.mpr (by have : p < 0 + 200 := h2; omega), by have : (0 : Int) ≤ p := h1; omega⟩
    · rintro ⟨k, hk, rfl⟩
      have := List.mem_range.mp hk
      exact ⟨(0, 200), List.mem_cons_self .., by show (0 : Int) ≤ k; omega, by show (k : Int) < 0 + 200; omega⟩
theorem law_ok (ns : List Int) (hl : ns.length ≤ 63) (q : D → Prop) (e : EX) (hq : q (.bl true)) : m_law (.scr ns) q e := by
  unfold m_law
  have r1 := rule_at (s := "a b ab c") (its := lane) (by decide +kernel) (by decide +kernel)
  have cc : codes "c" = [99] := by decide +kernel
  have hw3 : Wins [(0, 3)] := ⟨by decide, by decide, fun w h => by
    rw [List.mem_singleton.mp h]
    exact ⟨by decide, by decide, by decide, by decide⟩⟩
  have hw4 : Wins [(0, 4)] := ⟨by decide, by decide, fun w h => by
    rw [List.mem_singleton.mp h]
    exact ⟨by decide, by decide, by decide, by decide⟩⟩
  have hw6 : Wins [(0, 200), (0, 200), (0, 200), (0, 200), (0, 200), (0, 200)] := ⟨by decide, by decide, fun w h => by
    have hw' : w = (0, 200) := by
      simp only [List.mem_cons, List.not_mem_nil, or_false, or_self] at h
      exact h
    rw [hw']
    exact ⟨by decide, by decide, by decide, by decide⟩⟩
  have c6 := can_ok (z := codes "a b ab c") (b := 2) (d := 0) its_lane (by decide) (by decide) (by decide) (by decide) hw6
  have c4 := can_ok (z := codes "a b ab c") (b := 2) (d := 0) its_lane (by decide) (by decide) (by decide) (by decide) hw4
  have p3 := alikes_ok (z := codes "a b ab c") (b := 1) (d := 0) its_lane (by decide) (by decide) (by decide) (by decide) hw3
  have a6 : aliS lane 2 0 (placesS [(0, 200), (0, 200), (0, 200), (0, 200), (0, 200), (0, 200)]) = [] := by
    unfold aliS
    rw [sets_lane2, places6]
    decide +kernel
  have a4 : aliS lane 2 0 (placesS [(0, 4)]) = [] := by
    unfold aliS
    rw [sets_lane2]
    decide +kernel
  have a3 : aliS lane 1 0 (placesS [(0, 3)]) = [([], [99])] := by
    unfold aliS
    rw [sets_lane1]
    decide +kernel
  rw [a6] at c6
  rw [a4] at c4
  rw [a3] at p3
  have c6' : m_can_tell (obR (codes "a b ab c") lane) (.int 2) (.int 0) (.tup [.tup [.int 0, .int 200], .tup [.int 0, .int 200], .tup [.int 0, .int 200], .tup [.int 0, .int 200], .tup [.int 0, .int 200], .tup [.int 0, .int 200]]) = .ok (.bl true) := c6
  have c4' : m_can_tell (obR (codes "a b ab c") lane) (.int 2) (.int 0) (.tup [.tup [.int 0, .int 4]]) = .ok (.bl true) := c4
  have p3' : m_pairs_alike (obR (codes "a b ab c") lane) (.int 1) (.int 0) (.tup [.tup [.int 0, .int 3]]) = .ok (.tup [.tup [.str [], .str [99]]]) := p3
  have t1 : ∀ n : Int, Cm.tupC (.ok [D.tup [.int 0, .int n]]) = .ok (.tup [.tup [.int 0, .int n]]) := fun n => Cm.tup_1 _
  have m6 : mulTO (.tup [.tup [.int 0, .int 200]]) (.int 6) = some (.tup [.tup [.int 0, .int 200], .tup [.int 0, .int 200], .tup [.int 0, .int 200], .tup [.int 0, .int 200], .tup [.int 0, .int 200], .tup [.int 0, .int 200]]) := by
    show (if [D.tup [.int 0, .int 200]] ≠ [] ∧ (2 : Int) ≤ 6 ∧ (6 : Int) ≤ 1000 ∧ 1 ≤ 1000 then some (D.tup (List.replicate 6 [D.tup [.int 0, .int 200]]).flatten) else none) = _
    rw [if_pos ⟨by simp, by decide, by decide, by decide⟩]
    rfl
  have ib : inbO (.bl true) (.bl true) = some false := rfl
  have ne2 : neO (.tup [.tup [.str [], .str [99]]]) (.tup [.tup [.str [], .str [99]]]) = some false := by
    have := (EqT.pair EqT.str EqT.str).tup.neO (by decide) [([], [99])] [([], [99])]
    exact this
  rw [cc]
  simp (disch := first | assumption | omega | (simp only [List.length_map, List.length_range, List.length_cons, List.length_nil, List.length_append]; omega) | grind) only [↓reduceIte, cmS, Cm.tr4_tup, Cm.tr5_tup, Cm.tr6_tup, r1, t1, m6, c6', c4', p3', ib, ne2]
  exact bags_ok (n := 5) hl (by decide) (fun q' e' h => right_ok h) hq
end Mm
end

section
namespace Kx
open PySem PySem.Spec PyProof.Rows L2 PySem.W Fz Mm
/-! ### the head's run and the end -/
abbrev R : PySem.W.OpenRow := PySem.W.OpenLaw.row PySem.Challenge.rw_fuseposts_k14_whole_pairs_that_look_alik
abbrev hk : PySem.W.Hook := hookZ 4 fa fn fb
def ob (s : PySem.W.SharedT) : AlZ := obsZ 4 fa fn fb (HandSHeadRun.getT s)
theorem ob_eq (s : PySem.W.SharedT) : ob s = hk.obs s.abs := obsZ_eq (HandSHeadRun.getT_eq s)
def names : List PySem.Str := (["__name__", "ShapeError", "InvalidText", "InvalidNumber", "InvalidWindows", "NotARule", "MOST_ITEMS", "MOST_FUSES", "MOST_SPARE", "MOST_POST", "MOST_SEEN", "MOST_WINDOWS", "LETTERS", "is_integer", "is_between", "are_fuses", "check_between", "items_in", "is_out", "Rule"] : List PySem.Str) ++ (["check_rule", "check_most", "sets_of", "is_window", "check_windows", "posts_in", "only_by", "are_alike", "all_pairs", "check_asked", "pairs_alike", "can_tell", "_law_bag", "_law_draw", "_law_one", "_law_items", "_law_blown", "_law_dead", "_law_is_out", "_law_is_dark"] : List PySem.Str) ++ (["_law_fuses", "_law_sets", "_law_longest_of", "_law_windows", "_law_places", "_law_darkened", "_law_same_look", "_law_right"] : List PySem.Str)
theorem run (w : World) : HandSHeadRun.RunEq R (PySem.W.view R.prog [52]) hk ob 20000 names w := by
  intro os
  kernel_rfl
end Kx
open PySem PySem.W PySem.Calls PyProof.Rows
theorem PySem.Challenge.cw_fuseposts_k14_whole_pairs_that_look_alik_holds : PySem.Challenge.rw_fuseposts_k14_whole_pairs_that_look_alik.Holds := by
  w_on; o_law
  refine HandSHeadRun.head_any (r := OpenLaw.row PySem.Challenge.rw_fuseposts_k14_whole_pairs_that_look_alik) (q := view (OpenLaw.row PySem.Challenge.rw_fuseposts_k14_whole_pairs_that_look_alik).prog [52]) (H := Kx.hk) (ob := Kx.ob) (M := 20000) (loose := Kx.names) (d := HandSHeadRun.topDef (OpenLaw.row PySem.Challenge.rw_fuseposts_k14_whole_pairs_that_look_alik).prog 52) (kwd := []) Kx.ob_eq
    (by kernel_rfl) (fun s => by kernel_rfl) Kx.run (by kernel_rfl) (by kernel_rfl) (by kernel_rfl) (by rfl) (by first | assumption | decide +kernel) (by decide +kernel) ⟨rfl, rfl, rfl, rfl, rfl, by decide +kernel⟩ ?hw ?hc
  case hw => w_witness2
  case hc =>
    refine Fz.walk_ofG (l := PySem.Challenge.rw_fuseposts_k14_whole_pairs_that_look_alik) (n := 63) (k := 10) (x := "_law_script") rfl (by decide) (by kernel_rfl) ⟨rfl, by decide, by decide⟩ ?F
    intro w mg f h Y G hmg0
    obtain ⟨K, KX, c⟩ := Y
    have hmg : mg ("law" : PySem.Str) = some (.ref f) := by
      have e : (HandSHeadRun.topDef (OpenLaw.row PySem.Challenge.rw_fuseposts_k14_whole_pairs_that_look_alik).prog 52).name = ("law" : PySem.Str) := by kernel_rfl
      rw [← e]
      exact hmg0
    have c0 : Kx.C K mg h := ⟨KX, G, c⟩
    obtain ⟨fd, F⟩ := c0.td 35 (d := (Kx.dd "law" (Kx.top 52) []))
    have e := hmg.symm.trans (c0.glo 65)
    cases e
    have b := L2.FunD.bindsA (ps := ["_law_script"]) F fun _ _ _ _ _ _ us hl => match us, hl with | [_], _ => rfl
    exact ⟨K, fd, KX, fun s v => b s [v] rfl, fun base hb hg => Fz.law_of Mm.law_ok (Kx.ok_law (P := PySem.Challenge.rw_fuseposts_k14_whole_pairs_that_look_alik.prog) (w := w) (⟨hb, hg, c⟩ : Kx.C K mg base) F)⟩
end
