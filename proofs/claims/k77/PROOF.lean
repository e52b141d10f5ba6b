import PyProof.Rows.All
import Wide.All
import OpenK.AllK
import Wide.FinOn
import KE.KStateDown
import KE.SortData
import HandS.ForMost
import HandS.Exc
import HandS.Defaults
import HandS.DictComp
import HandS.SetKeys
import HandS.TupSets
import HandS.OwnEq
import HandS.IsInst
import HandS.Zip
import HandS.WideBits
import HandS.Wide
import HandS.Codes
import HandS.Deep
import HandS.Head0
import HandS.Head1
import HandS.Head2
import HandS.HeadEnd
import HandS.HeadHook1
import HandS.HeadHook2
import KE.KDictCopyH
import HandS.Star
import HandS.Conv
import HandS.DictTup
import KE.KDictDisplayH
import KE.KDictZip
import HandS.TupLe
import KE.SortKeyHeap
import HandS.Lambda
import HandS.ExcInit
import HandS.ExcOwn
import HandS.WordsExc
import HandS.ExcField
import KE.KSuper
import KE.KExcSuper
import HandS.NoneIn
import HandS.Style
import PySem.Challenge.RW_evenfriends_k77_whole_squares_and_club_r
set_option Elab.async false
set_option linter.all false
set_option maxRecDepth 100000
set_option maxHeartbeats 4000000
set_option pp.maxSteps 600
namespace Ef
open PySem PySem.Spec PyProof.Rows L2

/-! ### heaps that part only at the places of S -/
def SB (S : List Addr) (H H' : Hp) : Prop := ∀ b o, b ∉ S → H b = some o → H' b = some o
theorem SB.same {S : List Addr} {H : Hp} : SB S H H := fun _ _ _ h => h
theorem SB.trans {S : List Addr} {H H1 H2 : Hp} (a : SB S H H1) (b : SB S H1 H2) : SB S H H2 := fun c o n h => b c o n (a c o n h)
theorem SB.wide {S T : List Addr} {H H' : Hp} (a : SB S H H') (h : ∀ b ∈ S, b ∈ T) : SB T H H' := fun c o n e => a c o (fun z => n (h c z)) e
theorem SB.of {S : List Addr} {H H' : Hp} (a : Same H H') : SB S H H' := fun c o _ e => a c o e
theorem SB.nil {H H' : Hp} (a : SB [] H H') : Same H H' := fun c o e => a c o (by simp) e
theorem SB.new {S : List Addr} {H H1 : Hp} {p : Addr} {o : HO} (a : SB S H H1) (h : H1 p = none) : SB S H (upd H1 p o) := fun c u n e => by
  have e1 := a c u n e
  rw [upd_ne (ne_of_none e1 h)]
  exact e1
theorem SB.put {S : List Addr} {H H1 : Hp} {p : Addr} {o : HO} (a : SB S H H1) (h : p ∈ S) : SB S H (upd H1 p o) := fun c u n e => by
  rw [upd_ne (fun z => n (by rw [z]; exact h))]
  exact a c u n e
/-- an object that H does not know may change -/
theorem SB.mut {S : List Addr} {H H1 : Hp} {p : Addr} {o : HO} (a : SB S H H1) (h : H p = none) : SB S H (upd H1 p o) := fun c u n e => by
  rw [upd_ne (ne_of_none e h)]
  exact a c u n e
/-- what H does not know need not be named -/
theorem SB.drop {S : List Addr} {H H1 : Hp} {p : Addr} (a : SB (p :: S) H H1) (h : H p = none) : SB S H H1 := fun c u n e =>
  a c u (fun z => (List.mem_cons.mp z).elim (ne_of_none e h) n) e
theorem SB.free {H H' : Hp} {S : List Addr} {p : Addr} (a : SB S H H') (h : H' p = none) (n : p ∉ S) : H p = none := by
  cases q : H p with
  | none => rfl
  | some o =>
    rw [a p o n q] at h
    cases h
theorem Same.new {H H1 : Hp} {p : Addr} {o : HO} (a : Same H H1) (h : H1 p = none) : Same H (upd H1 p o) := fun c u e => by
  have e1 := a c u e
  rw [upd_ne (ne_of_none e1 h)]
  exact e1
theorem Same.mut {H H1 : Hp} {p : Addr} {o : HO} (a : Same H H1) (h : H p = none) : Same H (upd H1 p o) := fun c u e => by
  rw [upd_ne (ne_of_none e h)]
  exact a c u e
theorem Same.sb {S : List Addr} {H H' : Hp} (a : Same H H') : SB S H H' := SB.of a
/-- all places of S are known -/
def Dom (S : List Addr) (H : Hp) : Prop := ∀ b ∈ S, H b ≠ none
theorem Dom.nil {H : Hp} : Dom [] H := fun _ h => nomatch h
theorem Dom.out {S : List Addr} {H : Hp} {p : Addr} (d : Dom S H) (h : H p = none) : p ∉ S := fun z => d p z h
theorem Dom.cons {S : List Addr} {H : Hp} {p : Addr} {o : HO} (d : Dom S H) (h : H p = some o) : Dom (p :: S) H := fun b z => by
  rcases List.mem_cons.mp z with z | z
  · subst z
    rw [h]
    exact fun e => nomatch e
  · exact d b z
theorem Dom.upd {S : List Addr} {H : Hp} {p : Addr} {o : HO} (d : Dom S H) : Dom S (upd H p o) := fun b z => by
  by_cases e : b = p
  · subst e
    rw [upd_same]
    exact fun e => nomatch e
  · rw [upd_ne e]
    exact d b z
theorem Dom.same {S : List Addr} {H H' : Hp} (d : Dom S H) (a : Same H H') : Dom S H' := fun b z => by
  have h := d b z
  cases q : H b with
  | none => exact absurd q h
  | some o =>
    rw [a b o q]
    exact fun e => nomatch e
theorem Dom.tail {S : List Addr} {H : Hp} {p : Addr} (d : Dom (p :: S) H) : Dom S H := fun b z => d b (List.mem_cons_of_mem _ z)

/-! ### lists and tuples that stand outside S, or in the written part -/
def KL (K : PySem.W.Frag) (a : Addr) (xs : List V) : Prop :=
  ∃ (o : Obj) (its : Array Value) (n : Nat), K.lookup a = some o ∧ o.cls = .type "list" ∧ o.dict = none ∧ o.data = .seq its n ∧ its.size ≤ sizeLine ∧ Vals xs its.toList
def KT (K : PySem.W.Frag) (a : Addr) (xs : List V) : Prop :=
  ∃ (o : Obj) (its : Array Value) (n : Nat), K.lookup a = some o ∧ o.cls = .type "tuple" ∧ o.data = .seq its n ∧ its.size ≤ sizeLine ∧ Vals xs its.toList
def RL (K : PySem.W.Frag) (S : List Addr) (H : Hp) (a : Addr) (xs : List V) : Prop := (a ∉ S ∧ Rd H a (.lst xs)) ∨ KL K a xs
def RT (K : PySem.W.Frag) (S : List Addr) (H : Hp) (a : Addr) (xs : List V) : Prop := (a ∉ S ∧ Rd H a (.tup xs)) ∨ KT K a xs
section
variable {K : PySem.W.Frag} {S T : List Addr} {H H' : Hp} {a p : Addr} {xs : List V} {o : HO}
theorem RL.sq (h : RL K S H a xs) : SqL K H a xs := h.elim (fun h => .inl h.2) .inr
theorem RT.sq (h : RT K S H a xs) : SqT K H a xs := h.elim (fun h => .inl h.2) .inr
theorem RL.at (h : H a = some (.lst xs)) (n : a ∉ S) : RL K S H a xs := .inl ⟨n, .inl h⟩
theorem RT.at (h : H a = some (.tup xs)) (n : a ∉ S) : RT K S H a xs := .inl ⟨n, .inl h⟩
theorem RL.of_sq (h : SqL K H a xs) : RL K [] H a xs := h.elim (fun h => .inl ⟨by simp, h⟩) .inr
theorem rd_sb {u : HO} (n : a ∉ S) (h : Rd H a u) (e : SB S H H') : Rd H' a u := h.elim (fun h => .inl (e a _ n h)) fun ⟨o, h⟩ => .inr ⟨o, e a _ n h⟩
theorem RL.sb (h : RL K S H a xs) (e : SB S H H') : RL K S H' a xs := h.elim (fun h => .inl ⟨h.1, rd_sb h.1 h.2 e⟩) .inr
theorem RT.sb (h : RT K S H a xs) (e : SB S H H') : RT K S H' a xs := h.elim (fun h => .inl ⟨h.1, rd_sb h.1 h.2 e⟩) .inr
theorem RL.less (h : RL K S H a xs) (e : ∀ b ∈ T, b ∈ S) : RL K T H a xs := h.elim (fun h => .inl ⟨fun z => h.1 (e _ z), h.2⟩) .inr
theorem RT.less (h : RT K S H a xs) (e : ∀ b ∈ T, b ∈ S) : RT K T H a xs := h.elim (fun h => .inl ⟨fun z => h.1 (e _ z), h.2⟩) .inr
theorem rd_ne {u : HO} (h : Rd H a u) (n : H p = none) : a ≠ p := by
  rcases h with h | ⟨o, h⟩
  · exact ne_of_none h n
  · exact ne_of_none h n
/-- a place that is not known is in nothing -/
theorem RL.more (h : RL K S H a xs) (n : H p = none) : RL K (p :: S) H a xs := h.elim (fun h => .inl ⟨fun z => (List.mem_cons.mp z).elim (rd_ne h.2 n) h.1, h.2⟩) .inr
theorem RT.more (h : RT K S H a xs) (n : H p = none) : RT K (p :: S) H a xs := h.elim (fun h => .inl ⟨fun z => (List.mem_cons.mp z).elim (rd_ne h.2 n) h.1, h.2⟩) .inr
end

/-! ### data -/
/-- an empty dict outside S -/
def RD (S : List Addr) (H : Hp) (a : Addr) : Prop := a ∉ S ∧ H a = some (.dK [])
mutual
def Rp (K : PySem.W.Frag) (S : List Addr) (H : Hp) : PyData → V → Prop
  | .none, v => v = .non
  | .bool b, v => v = .bl b
  | .int i, v => v = .int i
  | .str x, v => v = .str x
  | .list ds, v => ∃ a xs, v = .ref a ∧ RL K S H a xs ∧ RpL K S H ds xs
  | .tuple ds, v => ∃ a xs, v = .ref a ∧ RT K S H a xs ∧ RpL K S H ds xs
  | .dict kvs, v => kvs = [] ∧ ∃ a, v = .ref a ∧ RD S H a
def RpL (K : PySem.W.Frag) (S : List Addr) (H : Hp) : List PyData → List V → Prop
  | [], xs => xs = []
  | d :: ds, xs => ∃ x ys, xs = x :: ys ∧ Rp K S H d x ∧ RpL K S H ds ys
end
section
variable {K : PySem.W.Frag} {S T : List Addr} {H H' : Hp} {p : Addr}
mutual
theorem Rp.map (f : ∀ a xs, RL K S H a xs → RL K T H' a xs) (g : ∀ a xs, RT K S H a xs → RT K T H' a xs) (k : ∀ a, RD S H a → RD T H' a) : ∀ (d : PyData) (v : V), Rp K S H d v → Rp K T H' d v
  | .none, _, h => h
  | .bool _, _, h => h
  | .int _, _, h => h
  | .str _, _, h => h
  | .list ds, _, ⟨a, xs, e, h1, h2⟩ => ⟨a, xs, e, f _ _ h1, RpL.map f g k ds xs h2⟩
  | .tuple ds, _, ⟨a, xs, e, h1, h2⟩ => ⟨a, xs, e, g _ _ h1, RpL.map f g k ds xs h2⟩
  | .dict _, _, ⟨z, a, e, h⟩ => ⟨z, a, e, k a h⟩
theorem RpL.map (f : ∀ a xs, RL K S H a xs → RL K T H' a xs) (g : ∀ a xs, RT K S H a xs → RT K T H' a xs) (k : ∀ a, RD S H a → RD T H' a) : ∀ (ds : List PyData) (vs : List V), RpL K S H ds vs → RpL K T H' ds vs
  | [], _, h => h
  | d :: ds, _, ⟨x, ys, e, h1, h2⟩ => ⟨x, ys, e, Rp.map f g k d x h1, RpL.map f g k ds ys h2⟩
end
theorem Rp.sb {d : PyData} {v : V} (h : Rp K S H d v) (e : SB S H H') : Rp K S H' d v := Rp.map (fun _ _ h => h.sb e) (fun _ _ h => h.sb e) (fun _ h => ⟨h.1, e _ _ h.1 h.2⟩) d v h
theorem Rp.less {d : PyData} {v : V} (h : Rp K S H d v) (e : ∀ b ∈ T, b ∈ S) : Rp K T H d v := Rp.map (fun _ _ h => h.less e) (fun _ _ h => h.less e) (fun _ h => ⟨fun z => h.1 (e _ z), h.2⟩) d v h
theorem Rp.more {d : PyData} {v : V} (h : Rp K S H d v) (n : H p = none) : Rp K (p :: S) H d v := Rp.map (fun _ _ h => h.more n) (fun _ _ h => h.more n) (fun _ h => ⟨fun z => (List.mem_cons.mp z).elim (ne_of_none h.2 n) h.1, h.2⟩) d v h
theorem RpL.sb {d : List PyData} {v : List V} (h : RpL K S H d v) (e : SB S H H') : RpL K S H' d v := RpL.map (fun _ _ h => h.sb e) (fun _ _ h => h.sb e) (fun _ h => ⟨h.1, e _ _ h.1 h.2⟩) d v h
theorem RpL.less {d : List PyData} {v : List V} (h : RpL K S H d v) (e : ∀ b ∈ T, b ∈ S) : RpL K T H d v := RpL.map (fun _ _ h => h.less e) (fun _ _ h => h.less e) (fun _ h => ⟨fun z => h.1 (e _ z), h.2⟩) d v h
theorem RpL.more {d : List PyData} {v : List V} (h : RpL K S H d v) (n : H p = none) : RpL K (p :: S) H d v := RpL.map (fun _ _ h => h.more n) (fun _ _ h => h.more n) (fun _ h => ⟨fun z => (List.mem_cons.mp z).elim (ne_of_none h.2 n) h.1, h.2⟩) d v h
theorem RpL.len : ∀ {ds : List PyData} {vs : List V}, RpL K S H ds vs → vs.length = ds.length
  | [], _, h => by
    have e : _ = [] := h
    rw [e] <;> rfl
  | d :: ds, _, ⟨x, ys, e, _, h2⟩ => by rw [e, List.length_cons, List.length_cons, RpL.len h2]
theorem RpL.get : ∀ {ds : List PyData} {vs : List V} {i : Nat} {d : PyData}, RpL K S H ds vs → ds[i]? = some d → ∃ v, vs[i]? = some v ∧ Rp K S H d v
  | [], _, _, _, _, e => by simp at e
  | d :: ds, _, 0, d', ⟨x, ys, e, h1, _⟩, q => by
    subst e
    have q' : d = d' := by simpa using q
    subst q'
    exact ⟨x, rfl, h1⟩
  | d :: ds, _, i + 1, _, ⟨x, ys, e, _, h2⟩, q => by
    subst e
    obtain ⟨v, h3, h4⟩ := RpL.get h2 (by simpa using q)
    exact ⟨v, by simpa using h3, h4⟩
theorem RpL.get' : ∀ {ds : List PyData} {vs : List V} {i : Nat} {v : V}, RpL K S H ds vs → vs[i]? = some v → ∃ d, ds[i]? = some d ∧ Rp K S H d v
  | [], _, _, _, h, e => by
    have e' : _ = [] := h
    rw [e'] at e
    simp at e
  | d :: ds, _, 0, v, ⟨x, ys, e, h1, _⟩, q => by
    subst e
    have q' : x = v := by simpa using q
    subst q'
    exact ⟨d, rfl, h1⟩
  | d :: ds, _, i + 1, _, ⟨x, ys, e, _, h2⟩, q => by
    subst e
    obtain ⟨v, h3, h4⟩ := RpL.get' h2 (by simpa using q)
    exact ⟨v, by simpa using h3, h4⟩
theorem RpL.snoc : ∀ {ds : List PyData} {vs : List V} {d : PyData} {v : V}, RpL K S H ds vs → Rp K S H d v → RpL K S H (ds ++ [d]) (vs ++ [v])
  | [], _, d, v, h, q => by
    have e : _ = [] := h
    subst e
    exact ⟨v, [], rfl, q, rfl⟩
  | c :: ds, _, d, v, ⟨x, ys, e, h1, h2⟩, q => by
    subst e
    exact ⟨x, ys ++ [v], rfl, h1, RpL.snoc h2 q⟩
theorem RpL.app : ∀ {ds es : List PyData} {vs us : List V}, RpL K S H ds vs → RpL K S H es us → RpL K S H (ds ++ es) (vs ++ us)
  | [], _, _, _, h, q => by
    have e : _ = [] := h
    subst e
    exact q
  | c :: ds, _, _, us, ⟨x, ys, e, h1, h2⟩, q => by
    subst e
    exact ⟨x, ys ++ us, rfl, h1, RpL.app h2 q⟩
theorem RpL.cons {d : PyData} {ds : List PyData} {v : V} {vs : List V} (h : Rp K S H d v) (q : RpL K S H ds vs) : RpL K S H (d :: ds) (v :: vs) := ⟨v, vs, rfl, h, q⟩
theorem RpL.nil : RpL K S H [] [] := rfl
mutual
/-- no dict within -/
def plainD : PyData → Bool
  | .none => true
  | .bool _ => true
  | .int _ => true
  | .str _ => true
  | .list ds => plainL ds
  | .tuple ds => plainL ds
  | .dict _ => false
def plainL : List PyData → Bool
  | [] => true
  | d :: ds => plainD d && plainL ds
end
theorem plainD_str (x : Str) : plainD (.str x) = true := by simp [plainD]
theorem plainL_map {α : Type} {f : α → PyData} (h : ∀ x, plainD (f x) = true) : ∀ l : List α, plainL (l.map f) = true
  | [] => by simp [plainL]
  | x :: l => by simp [plainL, h x, plainL_map h l]
theorem plainL_strs (l : List Str) : plainL (l.map PyData.str) = true := plainL_map plainD_str l
mutual
theorem Rp.dp' : ∀ {d : PyData} {v : V}, plainD d = true → Rp K S H d v → Dp K H v d
  | .none, _, _, h => by
    have e : _ = V.non := h
    subst e
    exact .non
  | .bool b, _, _, h => by
    have e : _ = V.bl b := h
    subst e
    exact .bl b
  | .int i, _, _, h => by
    have e : _ = V.int i := h
    subst e
    exact .int i
  | .str x, _, _, h => by
    have e : _ = V.str x := h
    subst e
    exact .str x
  | .list ds, _, p, ⟨a, xs, e, h1, h2⟩ => by
    subst e
    exact .lst h1.sq (RpL.dp' (by simpa [plainD] using p) h2)
  | .tuple ds, _, p, ⟨a, xs, e, h1, h2⟩ => by
    subst e
    exact .tup h1.sq (RpL.dp' (by simpa [plainD] using p) h2)
  | .dict _, _, p, _ => by simp [plainD] at p
theorem RpL.dp' : ∀ {ds : List PyData} {vs : List V}, plainL ds = true → RpL K S H ds vs → DpAll K H vs ds
  | [], _, _, h => by
    have e : _ = [] := h
    subst e
    exact .nil
  | d :: ds, _, p, ⟨x, ys, e, h1, h2⟩ => by
    subst e
    have p' : plainD d = true ∧ plainL ds = true := by simpa [plainL] using p
    exact .cons (Rp.dp' p'.1 h1) (RpL.dp' p'.2 h2)
end
theorem Rp.dp {d : PyData} {v : V} (h : Rp K S H d v) (p : plainD d = true := by first | rfl | (simp [plainD, plainL, plainL_strs, plainL_map]; done)) : Dp K H v d := Rp.dp' p h
end

/-! ### lists of texts, of pairs of texts -/
abbrev dS (ws : List Str) : PyData := .list (ws.map PyData.str)
abbrev dP1 (p : Str × Str) : PyData := .tuple [.str p.1, .str p.2]
abbrev dP (ps : List (Str × Str)) : PyData := .list (ps.map dP1)
section
variable {K : PySem.W.Frag} {S T : List Addr} {H H' : Hp} {p : Addr}
theorem rpl_strs : ∀ {ws : List Str} {xs : List V}, RpL K S H (ws.map PyData.str) xs ↔ xs = ws.map V.str
  | [], xs => Iff.rfl
  | w :: ws, xs => by
    constructor
    · rintro ⟨x, ys, e, h1, h2⟩
      have h1 : x = V.str w := h1
      rw [e, h1, rpl_strs.mp h2] <;> rfl
    · rintro rfl
      exact ⟨_, _, rfl, rfl, rpl_strs.mpr rfl⟩
theorem rpl_ints : ∀ {ws : List Int} {xs : List V}, RpL K S H (ws.map PyData.int) xs ↔ xs = ws.map V.int
  | [], xs => Iff.rfl
  | w :: ws, xs => by
    constructor
    · rintro ⟨x, ys, e, h1, h2⟩
      have h1 : x = V.int w := h1
      rw [e, h1, rpl_ints.mp h2] <;> rfl
    · rintro rfl
      exact ⟨_, _, rfl, rfl, rpl_ints.mpr rfl⟩
theorem rpl_bools : ∀ {ws : List Bool} {xs : List V}, RpL K S H (ws.map PyData.bool) xs ↔ xs = ws.map V.bl
  | [], xs => Iff.rfl
  | w :: ws, xs => by
    constructor
    · rintro ⟨x, ys, e, h1, h2⟩
      have h1 : x = V.bl w := h1
      rw [e, h1, rpl_bools.mp h2] <;> rfl
    · rintro rfl
      exact ⟨_, _, rfl, rfl, rpl_bools.mpr rfl⟩
/-- a list of texts -/
def LS (K : PySem.W.Frag) (S : List Addr) (H : Hp) (ws : List Str) (v : V) : Prop := ∃ a, v = .ref a ∧ RL K S H a (ws.map V.str)
theorem ls_rp {ws : List Str} {v : V} : LS K S H ws v ↔ Rp K S H (dS ws) v := by
  constructor
  · rintro ⟨a, e, h⟩
    exact ⟨a, _, e, h, rpl_strs.mpr rfl⟩
  · rintro ⟨a, xs, e, h, q⟩
    rw [rpl_strs.mp q] at h
    exact ⟨a, e, h⟩
theorem LS.sb {ws : List Str} {v : V} (h : LS K S H ws v) (e : SB S H H') : LS K S H' ws v := let ⟨a, q, r⟩ := h; ⟨a, q, r.sb e⟩
theorem LS.less {ws : List Str} {v : V} (h : LS K S H ws v) (e : ∀ b ∈ T, b ∈ S) : LS K T H ws v := let ⟨a, q, r⟩ := h; ⟨a, q, r.less e⟩
theorem LS.more {ws : List Str} {v : V} (h : LS K S H ws v) (n : H p = none) : LS K (p :: S) H ws v := let ⟨a, q, r⟩ := h; ⟨a, q, r.more n⟩
/-- a tuple that is tracked outside S -/
def RT2 (_K : PySem.W.Frag) (S : List Addr) (H : Hp) (a : Addr) (xs : List V) : Prop := a ∉ S ∧ H a = some (.tup xs)
theorem RT2.rt {a : Addr} {xs : List V} (h : RT2 K S H a xs) : RT K S H a xs := RT.at h.2 h.1
theorem RT2.sq {a : Addr} {xs : List V} (h : RT2 K S H a xs) : SqT K H a xs := SqT.of h.2
theorem RT2.at {a : Addr} {xs : List V} (h : H a = some (.tup xs)) (n : a ∉ S) : RT2 K S H a xs := ⟨n, h⟩
theorem RT2.sb {a : Addr} {xs : List V} (h : RT2 K S H a xs) (e : SB S H H') : RT2 K S H' a xs := ⟨h.1, e _ _ h.1 h.2⟩
theorem RT2.less {a : Addr} {xs : List V} (h : RT2 K S H a xs) (e : ∀ b ∈ T, b ∈ S) : RT2 K T H a xs := ⟨fun z => h.1 (e _ z), h.2⟩
theorem RT2.more {a : Addr} {xs : List V} (h : RT2 K S H a xs) (n : H p = none) : RT2 K (p :: S) H a xs := ⟨fun z => (List.mem_cons.mp z).elim (fun z => by have h2 := h.2; rw [z, n] at h2; cases h2) h.1, h.2⟩
/-- a pair of texts -/
def P2 (K : PySem.W.Frag) (S : List Addr) (H : Hp) (q : Str × Str) (v : V) : Prop := ∃ a, v = .ref a ∧ RT2 K S H a [.str q.1, .str q.2]
theorem p2_rp {q : Str × Str} {v : V} (h : P2 K S H q v) : Rp K S H (dP1 q) v := by
  obtain ⟨a, e, h⟩ := h
  exact ⟨a, _, e, h.rt, _, _, rfl, rfl, _, _, rfl, rfl, rfl⟩
theorem P2.sb {q : Str × Str} {v : V} (h : P2 K S H q v) (e : SB S H H') : P2 K S H' q v := let ⟨a, q, r⟩ := h; ⟨a, q, r.sb e⟩
theorem P2.less {q : Str × Str} {v : V} (h : P2 K S H q v) (e : ∀ b ∈ T, b ∈ S) : P2 K T H q v := let ⟨a, q, r⟩ := h; ⟨a, q, r.less e⟩
theorem P2.more {q : Str × Str} {v : V} (h : P2 K S H q v) (n : H p = none) : P2 K (p :: S) H q v := let ⟨a, q, r⟩ := h; ⟨a, q, r.more n⟩
abbrev P2s (K : PySem.W.Frag) (S : List Addr) (H : Hp) : List (Str × Str) → List V → Prop := Paired (P2 K S H)
theorem P2s.sb {qs : List (Str × Str)} {vs : List V} (h : P2s K S H qs vs) (e : SB S H H') : P2s K S H' qs vs := Paired.mapP h fun _ _ z => z.sb e
theorem P2s.less {qs : List (Str × Str)} {vs : List V} (h : P2s K S H qs vs) (e : ∀ b ∈ T, b ∈ S) : P2s K T H qs vs := Paired.mapP h fun _ _ z => z.less e
theorem P2s.more {qs : List (Str × Str)} {vs : List V} (h : P2s K S H qs vs) (n : H p = none) : P2s K (p :: S) H qs vs := Paired.mapP h fun _ _ z => z.more n
theorem rpl_pairs : ∀ {qs : List (Str × Str)} {xs : List V}, P2s K S H qs xs → RpL K S H (qs.map dP1) xs
  | [], _, h => by
    cases h
    exact rfl
  | q :: qs, xs, h => by
    cases h with
    | cons h1 h2 => exact ⟨_, _, rfl, p2_rp h1, rpl_pairs h2⟩
/-- a list of pairs -/
def LP (K : PySem.W.Frag) (S : List Addr) (H : Hp) (qs : List (Str × Str)) (v : V) : Prop := ∃ a xs, v = .ref a ∧ RL K S H a xs ∧ P2s K S H qs xs
theorem lp_rp {qs : List (Str × Str)} {v : V} (h : LP K S H qs v) : Rp K S H (dP qs) v := by
  obtain ⟨a, xs, e, h, q⟩ := h
  exact ⟨a, xs, e, h, rpl_pairs q⟩
theorem LP.sb {qs : List (Str × Str)} {v : V} (h : LP K S H qs v) (e : SB S H H') : LP K S H' qs v := let ⟨a, xs, q, r, t⟩ := h; ⟨a, xs, q, r.sb e, P2s.sb t e⟩
theorem LP.less {qs : List (Str × Str)} {v : V} (h : LP K S H qs v) (e : ∀ b ∈ T, b ∈ S) : LP K T H qs v := let ⟨a, xs, q, r, t⟩ := h; ⟨a, xs, q, r.less e, P2s.less t e⟩
theorem LP.more {qs : List (Str × Str)} {v : V} (h : LP K S H qs v) (n : H p = none) : LP K (p :: S) H qs v := let ⟨a, xs, q, r, t⟩ := h; ⟨a, xs, q, r.more n, P2s.more t n⟩
theorem P2s.len {qs : List (Str × Str)} {vs : List V} (h : P2s K S H qs vs) : vs.length = qs.length := (Paired.length h).symm
end
theorem Paired.at1 {α β : Type} {F : α → β → Prop} : ∀ {l₁ : List α} {l₂ : List β} {i : Nat} {b : β}, Paired F l₁ l₂ → l₂[i]? = some b → ∃ a, l₁[i]? = some a ∧ F a b
  | _, _, _, _, .nil, e => by simp at e
  | _, _, 0, _, .cons r _, e => by
    have e' := by simpa using e
    subst e'
    exact ⟨_, rfl, r⟩
  | _, _, i + 1, _, .cons _ t, e => by
    obtain ⟨a, h1, h2⟩ := Paired.at1 (i := i) t (by simpa using e)
    exact ⟨a, by simpa using h1, h2⟩
theorem Paired.at2 {α β : Type} {F : α → β → Prop} : ∀ {l₁ : List α} {l₂ : List β} {i : Nat} {a : α}, Paired F l₁ l₂ → l₁[i]? = some a → ∃ b, l₂[i]? = some b ∧ F a b
  | _, _, _, _, .nil, e => by simp at e
  | _, _, 0, _, .cons r _, e => by
    have e' := by simpa using e
    subst e'
    exact ⟨_, rfl, r⟩
  | _, _, i + 1, _, .cons _ t, e => by
    obtain ⟨a, h1, h2⟩ := Paired.at2 (i := i) t (by simpa using e)
    exact ⟨a, by simpa using h1, h2⟩
theorem Paired.app {α β : Type} {F : α → β → Prop} : ∀ {l₁ m₁ : List α} {l₂ m₂ : List β}, Paired F l₁ l₂ → Paired F m₁ m₂ → Paired F (l₁ ++ m₁) (l₂ ++ m₂)
  | _, _, _, _, .nil, h => h
  | _, _, _, _, .cons r t, h => .cons r (Paired.app t h)
end Ef
namespace Ef
open PySem PySem.Spec PyProof.Rows L2
section
variable {X : Cx}
/-! ### one of two readings -/
theorem pe_or2 {e : Expr} {t u : TE} (h : PE X e t) (h' : PE X e u) : PE X e (fun σ H Q => t σ H Q ∨ u σ H Q) := ⟨fun pins s σ H Q I q => q.elim (h.run pins s σ H Q I) (h'.run pins s σ H Q I)⟩
theorem pi_or2 {tg e : Expr} {t u : TI} (h : PI X tg e t) (h' : PI X tg e u) : PI X tg e (fun σ H R => t σ H R ∨ u σ H R) := ⟨fun pins s σ H R I q => q.elim (h.run pins s σ H R I) (h'.run pins s σ H R I)⟩
theorem op_or2 {f : Value → Value → Sem Value} {r r' : R2} (h : OpR X f r) (h' : OpR X f r') : OpR X f (fun x y H Q => r x y H Q ∨ r' x y H Q) := fun pins s σ H x y v u Q I rx ry q =>
  q.elim (h pins s σ H x y v u Q I rx ry) (h' pins s σ H x y v u Q I rx ry)

/-! ### powers of greater numbers -/
def CPowW (i j : Int) : Prop := 0 ≤ j ∧ (Builtin.Int.intBits i : Int) * j ≤ 2 ^ 27
theorem op_powW : OpR X (binaryOp .Pow) (rI CPowW fun i j => .int (i ^ j.toNat)) := opI fun _ _ _ _ _ _ _ hc q => pow_int hc.1 hc.2 q

/-! ### list(a text) -/
def signV (x : Str) : List V := x.cps.toList.map fun c => V.str ⟨#[c]⟩
theorem vals_signs : ∀ {l : List Nat} {us : List Value}, us.length = l.length → (∀ (i : Nat) (u : Value), us[i]? = some u → ∃ (c : Nat) (t : Tok), l[i]? = some c ∧ u = Value.str ⟨#[c]⟩ t) → Vals (l.map fun c => V.str ⟨#[c]⟩) us
  | [], [], _, _ => .nil
  | [], _ :: _, h, _ => by cases h
  | _ :: _, [], h, _ => by cases h
  | c :: l, u :: us, h, q => by
    obtain ⟨d, t, e1, e2⟩ := q 0 u rfl
    have e1' : c = d := by simpa using e1
    subst e1' e2
    exact .cons ⟨t, rfl⟩ (vals_signs (by simpa using h) fun i u hi => q (i + 1) u (by simpa using hi))
def rListStr : List V → Hp → VK → Prop := fun xs H Q => ∃ x : Str, xs = [.str x] ∧ x.length ≤ sizeLine ∧ ∀ l, H l = none → Q (.ref l) (upd H l (.lst (signV x)))
theorem cr_listStr (hc : X.calm = true) : CallR X (.type "list") rListStr := by
  intro pins s σ H xs us Q I r h
  obtain ⟨x, rfl, hz, q⟩ := h
  obtain ⟨u, rfl, ru⟩ := vals1 r
  obtain ⟨t, rfl⟩ := ru
  refine PySem.call_list_str (I.ok.hd hc) x t (fun h' tk acc c hk hl hi => ?_) hz
  have hn := I.hok.fresh (Nat.le_refl s.heap.objs.size)
  refine ⟨.ref s.heap.objs.size, upd H s.heap.objs.size (.lst (signV x)), I.laid (t' := tk) hk (Nat.le_refl _) ?_, rfl, q _ hn⟩
  refine ⟨by unfold signV; rw [List.length_map, Array.length_toList]; exact hz, acc.toList, c, ?_, by rw [Array.toArray_toList]; exact hl⟩
  refine vals_signs (by rw [Array.length_toList, Array.length_toList]; exact hi.1) fun i u e => ?_
  obtain ⟨d, t, e1, e2⟩ := hi.2 i u (by rw [← Array.getElem?_toList]; exact e)
  exact ⟨d, t, by rw [Array.getElem?_toList]; exact e1, e2⟩

/-! ### a text times a number -/
def repS (x : Str) (n : Nat) : Str := ⟨(List.replicate n x.cps).foldl (· ++ ·) #[]⟩
def rMulS : R2 := fun x y H Q => ∃ (z : Str) (n : Int), x = .str z ∧ y = .int n ∧ 2 ≤ n ∧ n ≤ 100 ∧ 1 ≤ z.length ∧ z.length ≤ 100 ∧ Q (.str (repS z n.toNat)) H
theorem foldl_cat : ∀ (l : List (Array Nat)) (a : Array Nat), (l.foldl (· ++ ·) a).toList = a.toList ++ (l.map Array.toList).flatten
  | [], a => by simp
  | x :: l, a => by
    rw [List.foldl_cons, foldl_cat l (a ++ x)]
    simp
theorem repS_tl (x : Str) (n : Nat) : (repS x n).cps.toList = (List.replicate n x.cps.toList).flatten := by
  unfold repS
  rw [foldl_cat, List.map_replicate]
  rfl
theorem repS_len (x : Str) (n : Nat) : (repS x n).length = n * x.length := by
  have e := congrArg List.length (repS_tl x n)
  rw [Array.length_toList] at e
  show (repS x n).cps.size = _
  rw [e, List.length_flatten, List.map_replicate, List.sum_replicate_nat, Array.length_toList]
  rfl
theorem op_mulS : OpR X (binaryOp .Mult) rMulS := by
  intro pins s σ H x y v u Q I rx ry h
  obtain ⟨z, n, rfl, rfl, h1, h2, h3, h4, q⟩ := h
  obtain ⟨t, rfl⟩ := rx
  obtain ⟨t', rfl⟩ := ry
  have n1 : ¬ n < 1 := by omega
  have n2 : (n == 1 || z.length == 0) = false := by
    rw [Bool.or_eq_false_iff]
    exact ⟨beq_eq_false_iff_ne.mpr (by omega), beq_eq_false_iff_ne.mpr (by omega)⟩
  refine PySem.P.mul_str ?_ (fun _ _ => ?_) (fun _ _ => ?_) ?_
  · rw [Bool.or_eq_false_iff]
    exact ⟨decide_eq_false (by omega), decide_eq_false (by omega)⟩
  · have e : (92233720368547758 : Int) ≤ (2 ^ 63 - 1) / n := by
      rw [Int.le_ediv_iff_mul_le (by omega)]
      omega
    omega
  · have e : z.length * n.toNat ≤ 100 * 100 := Nat.mul_le_mul h4 (by omega)
    unfold Builtin.Str.tooLong
    exact decide_eq_false (by rw [sizeLine_eq]; omega)
  · rw [if_neg n1, n2]
    exact ⟨by
      show (repS z n.toNat).length ≤ sizeLine
      rw [repS_len]
      have e : n.toNat * z.length ≤ 100 * 100 := Nat.mul_le_mul (by omega) h4
      rw [sizeLine_eq]
      omega, ⟨.str _, H, I.tok _, ⟨_, rfl⟩, q⟩⟩

/-! ### xs[::e] where e is 1 or -1 -/
def tStep (K : PySem.W.Frag) (te ts : TE) : TE := fun σ H Q => te σ H fun x H1 => ts σ H1 fun y H2 => ∃ a xs n, x = .ref a ∧ y = .int n ∧ SqL K H2 a xs ∧
  ((n = 1 ∧ ∀ p, H2 p = none → Q (.ref p) (upd H2 p (.lst xs))) ∨ (n = -1 ∧ ∀ p, H2 p = none → Q (.ref p) (upd H2 p (.lst xs.reverse))))
theorem pick_one (items : Array Value) : slicePick items none none (some 1) = items := by
  have e : slicePick items none none (some 1) = slicePick items none none none := rfl
  rw [e, slicePick_cut]
  have e2 : items.toList.take items.size = items.toList := List.take_of_length_le (by rw [Array.length_toList]; exact Nat.le_refl _)
  simp [HT.sIx, e2]
theorem pe_step {e st : Expr} {te ts : TE} {p3 pos : Pos} (he : PE X e te) (hs : PE X st ts) (hm : ∀ (σ : L2.St) (H : Hp) (Q Q' : VK), (∀ v H', Q v H' → Q' v H') → ts σ H Q → ts σ H Q') : PE X (.Subscript e (.Slice none none (some st) p3) pos) (tStep X.K te ts) := by
  refine ⟨fun pins s σ H Q I h => ?_⟩
  have hq : PO X (some st) (tPart ts) := po_some hs
  refine Subscript_ (thn (he.run pins s σ H _ I h) fun v s1 ⟨x, H1, I1, r1, q1⟩ => ?_)
  refine wpAny_Slice (thn (po_none.run pins s1 σ H1 (fun o H2 => o = none ∧ H2 = H1) I1 ⟨rfl, rfl⟩) fun vl s2 ⟨l, H2, I2, pl, el, e2⟩ => ?_)
  subst el e2
  refine thn (po_none.run pins s2 σ H2 (fun o H3 => o = none ∧ H3 = H2) I2 ⟨rfl, rfl⟩) fun vu s3 ⟨u, H3, I3, pu, eu, e3⟩ => ?_
  subst eu e3
  have hw : tPart ts σ H3 fun o H4 => ∃ n, o = some n ∧ ∃ a xs, x = .ref a ∧ SqL X.K H4 a xs ∧
      ((n = 1 ∧ ∀ p, H4 p = none → Q (.ref p) (upd H4 p (.lst xs))) ∨ (n = -1 ∧ ∀ p, H4 p = none → Q (.ref p) (upd H4 p (.lst xs.reverse)))) := hm _ _ _ _ (fun y H4 ⟨a, xs, n, e1, e2, e3, e4⟩ => ⟨n, e2, n, rfl, a, xs, e1, e3, e4⟩) q1
  refine thn (hq.run pins s3 σ H3 _ I3 hw) fun vs s4 z => ?_
  obtain ⟨o, H4, I4, ps, n, eo, a, xs, ex, hx, q⟩ := z
  subst eo ex
  cases r1
  have I5 : Inv X pins σ H4 { s4 with heap := s4.heap.push { cls := .type "slice", data := .fields #[vl, vu, vs] } } := I4.kept (t' := s4.toks) fun b ob q => Heap.get?_push_of_some _ q
  obtain ⟨its, r, ht, hz⟩ := I5.list hx
  have hlen := r.length
  show wpAny (model X.prog X.w) X.A (subscriptTail e (.Slice none none (some st) p3) (.ref a) (.ref s4.heap.objs.size)) (EP X pins σ Q) X.xe { s4 with heap := s4.heap.push { cls := .type "slice", data := .fields #[vl, vu, vs] } }
  refine tail_any (ops := [.ref a, .ref s4.heap.objs.size]) ht.isList.typeIs (PySem.slot_list_getitem.lookup) ?_ (by with_unfolding_all rfl)
  rcases q with ⟨rfl, q⟩ | ⟨rfl, q⟩
  · refine wpAny_getItem_list_slice ht.isList (Heap.IsSliceOf.new _ vl vu vs) pl pu ps (by decide) ?_ (by rw [List.size_toArray]; omega)
    rw [pick_one]
    refine ⟨.ref _, _, I5.laid (t' := s4.toks) (o := .lst xs) (fun b ob q => Heap.get?_push_of_some _ q) (Nat.le_refl _) ?_, rfl, q _ (I5.hok.fresh (Nat.le_refl _))⟩
    exact ⟨hz, _, 0, r, Heap.get?_push_size _ rfl⟩
  · refine wpAny_getItem_list_slice ht.isList (Heap.IsSliceOf.new _ vl vu vs) pl pu ps (by decide) ?_ (by rw [List.size_toArray]; omega)
    rw [PySem.W.krv_pick]
    refine ⟨.ref _, _, I5.laid (t' := s4.toks) (o := .lst xs.reverse) (fun b ob q => Heap.get?_push_of_some _ q) (Nat.le_refl _) ?_, rfl, q _ (I5.hok.fresh (Nat.le_refl _))⟩
    exact ⟨by rw [List.length_reverse]; exact hz, _, 0, r.reverse, Heap.get?_push_size _ rfl⟩
end
end Ef
namespace Ef
open PySem PySem.Spec PyProof.Rows L2
/-! ### set(a list), whatever is kept of the set: J i h: behind i items -/
section
variable {P : Program} {w : World}
/-- one item goes in -/
def AddsOne (P : Program) (w : World) (A : Around) (E : Value → Shared → Prop) (h0 : Heap) (S : Addr) (items : Array Value) (J : Nat → Heap → Prop) : Prop :=
  ∀ (i : Nat) (v : Value) (s' : Shared), items[i]? = some v → J i s'.heap → (∀ b o, h0.get? b = some o → s'.heap.get? b = some o) →
    wpAny (model P w) A (setAdd S v) (fun _ s2 => ∃ h2 tk, s2 = { s' with heap := h2, toks := tk } ∧ s'.toks ≤ tk ∧ Heap.SameBut S s'.heap h2 ∧ J (i + 1) h2) E s'
def StaysJ (h0 : Heap) (S : Addr) (J : Nat → Heap → Prop) : Prop :=
  ∀ (i : Nat) (g h : Heap), J i g → (∀ b o, h0.get? b = some o → h.get? b = some o) → (∀ o, g.get? S = some o → h.get? S = some o) → J i h
section
variable {A : Around} {R : Result → Shared → Prop} {I : Addr} {fp wr : List Addr} {G : Array GenState → Array GenState → Prop} {n : Nat} {Pv : Nat → Value → Prop} {St : Nat → Shared → Prop}
theorem update_loop {h0 : Heap} {S : Addr} {items : Array Value} {J : Nat → Heap → Prop} (W : WalksS P w A.in1 I fp wr G n Pv St) (hSf : S ∉ fp) (hn : n = items.size) (hv : ∀ i v, Pv i v → items[i]? = some v)
    (hS0 : h0.get? S = none) (hw0 : ∀ b ∈ wr, h0.get? b = none) (st : StaysJ h0 S J) (ad : AddsOne P w A.in1 (fun e s' => R (.error e) s') h0 S items J) :
    ∀ (k i : Nat) (s : Shared), n - i = k → i ≤ n → St i s → (∀ b o, h0.get? b = some o → s.heap.get? b = some o) → J i s.heap →
      (∀ s', Moved (S :: wr) G s s' → J n s'.heap → (∀ b o, h0.get? b = some o → s'.heap.get? b = some o) → R (.ok (.ret .none)) s') →
      codeAny (model P w) A (.builtin "set.update.loop" ⟨[.ref S, .ref I], []⟩) R s := by
  have outS : S ∉ wr := fun z => hSf (W.sub _ z)
  have wide : ∀ b ∈ wr, b ∈ S :: wr := fun b z => List.mem_cons_of_mem _ z
  have past : ∀ {s s' : Shared}, Moved wr G s s' → (∀ b o, h0.get? b = some o → s.heap.get? b = some o) → ∀ b o, h0.get? b = some o → s'.heap.get? b = some o :=
    fun m q b o e => m.heap b o (fun z => by rw [hw0 b z] at e; cases e) (q b o e)
  intro k
  induction k with
  | zero =>
    intro i s hk hi hst hq hJ hR
    have ei : i = n := by omega
    subst ei
    refine codeAny_builtin F.entry_set_update_loop ?_
    rw [Around.under_plainId F.plain_set_update_loop _]
    show wpAny _ A.in1 (pyNext (.ref I) >>= _) _ _ s
    refine wpAny_bind (W.done s _ _ hst fun s' m => ?_)
    refine wpAny_pure (hR s' (m.mono wide) (st _ _ _ hJ (past m hq) fun o e => m.heap S o outS e) (past m hq))
  | succ k ih =>
    intro i s hk hi hst hq hJ hR
    have lt : i < n := by omega
    refine codeAny_builtin F.entry_set_update_loop ?_
    rw [Around.under_plainId F.plain_set_update_loop _]
    show wpAny _ A.in1 (pyNext (.ref I) >>= _) _ _ s
    refine wpAny_bind (W.item i s _ _ lt hst fun v s' hP hst' m => ?_)
    have q1 := past m hq
    have J1 : J i s'.heap := st _ _ _ hJ q1 fun o e => m.heap S o outS e
    show wpAny _ A.in1 (holding [v] (setAdd S v) >>= _) _ _ s'
    refine wpAny_bind (wpAny_holding (wpAny_mono (ad i v s' (hv i v hP) J1 q1) (fun _ s2 z => ?_) fun _ _ z => z))
    obtain ⟨h2, tk, rfl, htk, sb, J2⟩ := z
    have neS : ∀ b, b ∈ fp → b ≠ S := fun b hb z => hSf (z ▸ hb)
    have q2 : ∀ b o, h0.get? b = some o → h2.get? b = some o := fun b o e => (sb.2 b fun z => by rw [z, hS0] at e; cases e).trans (q1 b o e)
    refine wpAny_pure ⟨plainId_quiet F.plain_set_update_loop _, ih (i + 1) _ (by omega) lt (W.frame _ s' _ _ hst' htk fun b hb o e => (sb.2 b (neS b hb)).trans e) q2 J2 fun s3 m3 J3 q3 => ?_⟩
    refine hR s3 (Moved.trans W.gtrans ((m.mono wide).then_heap htk fun b o hb e => ?_) m3) J3 q3
    exact (sb.2 b fun z => hb (by rw [z]; exact List.mem_cons_self)).trans e
end
theorem none_above {h : Heap} {b : Addr} (hb : h.objs.size ≤ b) : h.get? b = none := by
  cases q : h.get? b with
  | none => rfl
  | some o => exact absurd (Nat.lt_of_lt_of_le (Heap.lt_size q) hb) (Nat.lt_irrefl _)
def setObj (P : Program) (w : World) : Obj := { cls := .type "set", dict := none, data := .set #[] 0 (.fresh 0 0 (!w.params.followText "set-order")) }
/-- a type called, its __init__'s check asked by itself -/
theorem type_codes {A : Around} {E : Value → Shared → Prop} {s : Shared} {T newId initId : String} {Bi : Builtin} {args : List Value} {Q Q1 : Value → Shared → Prop} (ft : TypeCalled T newId initId) (hct : checkTypeCall T ⟨args, []⟩ = pure ()) (en : entryFor table initId = some Bi)
    (mk : codeAny (model P w) A.in1 (.call (.builtin newId) ⟨.type T :: args, []⟩) (wants Q1 E) s)
    (go : ∀ obj s1, Q1 obj s1 → s1.TypeIs obj T ∧ (∀ (M : Model) (A' : Around) (E' : Value → Shared → Prop) (Q' : Unit → Shared → Prop), Q' () s1 → wpAny M A' (checkBuiltinCall initId ⟨obj :: args, []⟩) Q' E' s1) ∧
      wpAny (model P w) A.in1.in1 (Bi ⟨obj :: args, []⟩)
        (fun fin s' => match fin with | .done f => wants (fun r s2 => r = .none ∧ Q obj s2) E (.ok f) s' | .again c' => c'.quiet = true ∧ codeAny (model P w) A.in1 c' (wants (fun r s2 => r = .none ∧ Q obj s2) E) s')
        (fun e s' => wants (fun r s2 => r = .none ∧ Q obj s2) E (.error e) s') s1) : wpAny (model P w) A (call (.type T) args) Q E s := by
  obtain ⟨c, tl, hm⟩ := ft.mro
  have m1 := ft.made
  have m2 := ft.sub
  have m3 := ft.notType
  have m4 := ft.canCreate
  refine wpAny_call (codeAny_of_tree (show wpAny _ _ (callAny (.type T) _) _ _ _ from wpAny_pure ⟨Code.quiet_builtin _ (by decide +kernel), codeAny_builtin F.entry_type_call ?_⟩))
  rw [Around.under_plain (weight_type_call_type T args []) rfl]
  repeat (any_goals (first | assumption | wp_step))
  refine codeAny_mono mk fun r s1 hr => ?_
  cases r with
  | error e => exact hr
  | ok fl =>
    cases fl with
    | ret obj =>
      obtain ⟨hT, hchk, body⟩ := go _ _ hr
      have i1 := ft.init.lookup
      have i2 := ft.init.bind obj
      repeat (any_goals (first | assumption | wp_step))
      refine codeAny_mono (codeAny_call_builtin ft.init.plain en (hchk _ _ _ _ body)) fun r2 s2 hr2 => ?_
      cases r2 with
      | error e => exact hr2
      | ok f2 =>
        cases f2 with
        | ret r =>
          obtain ⟨rfl, q⟩ := hr2
          repeat (any_goals (first | assumption | wp_step))
        | _ => exact hr2.elim
    | _ => exact hr.elim
set_option maxHeartbeats 8000000 in
theorem set_of_list {A : Around} {E : Value → Shared → Prop} {s : Shared} {l : Addr} {items : Array Value} {J : Nat → Heap → Prop} {Q : Value → Shared → Prop} (hh : A.handled = none) (hl : s.heap.IsList l items)
    (st : StaysJ s.heap s.heap.objs.size J) (ad : ∀ E' : Value → Shared → Prop, AddsOne P w A.in1.in1.in1 E' s.heap s.heap.objs.size items J) (J0 : ∀ h, h.get? s.heap.objs.size = some (setObj P w) → J 0 h)
    (h : ∀ (h2 : Heap) (tk : Nat), J items.size h2 → (∀ b o, s.heap.get? b = some o → h2.get? b = some o) → Q (.ref s.heap.objs.size) { s with heap := h2, toks := tk }) :
    wpAny (model P w) A (call (.type "set") [.ref l]) Q E s := by
  refine type_codes (Q1 := fun obj s1 => obj = .ref s.heap.objs.size ∧ s1 = { s with heap := s.heap.push (setObj P w) }) F.called_set (F.typeCall_set_1 _) F.entry_set_init
    (code_set_led1 _ ⟨rfl, rfl⟩) fun obj s1 h1 => ?_
  obtain ⟨rfl, rfl⟩ := h1
  have hS : (s.heap.push (setObj P w)).get? s.heap.objs.size = some (setObj P w) := Heap.get?_push_size _ rfl
  have hT : Shared.TypeIs { s with heap := s.heap.push (setObj P w) } (.ref s.heap.objs.size) "set" := ⟨_, hS, rfl⟩
  refine ⟨hT, fun M A' E' Q' q => check_set_init_1 hT q, ?_⟩
  obtain ⟨⟨oc, od, odt, osl⟩, ho, hc, nl, hd⟩ := hl
  simp only at hc hd
  subst hc hd
  have ho1 : (s.heap.push (setObj P w)).get? l = some { cls := .type "list", dict := od, data := .seq items nl, slots := osl } := Heap.get?_push_of_some _ ho
  have c1 := F.sub_list_set
  have c2 := F.sub_list_frozenset
  have c3 : (Value.type "list" == Value.type "dict") = false := by decide
  have hl1 : (s.heap.push (setObj P w)).IsList l items := ⟨_, ho1, rfl, nl, rfl⟩
  unfold Builtin.«set.__init__» noKeywords Builtin.Frozenset.updateFrom
  generalize hPI : pyIter = PI
  wp_walk
  subst hPI
  refine wpAny_pyIter_list hl1 ?_
  refine wpAny_bind (wpAny_runValue ?_)
  have ll : l < s.heap.objs.size := Heap.lt_size ho
  have sz1 : (s.heap.push (setObj P w)).objs.size = s.heap.objs.size + 1 := Heap.size_push ..
  have nI : l ≠ (s.heap.push (setObj P w)).objs.size := by rw [sz1]; exact Nat.ne_of_lt (Nat.lt_succ_of_lt ll)
  have h3 : A.in1.in1.in1.handled = none := by simp [hh]
  have old : ∀ b o, s.heap.get? b = some o → ((s.heap.push (setObj P w)).push { cls := .type "list_iterator", data := .fields #[.ref l, .int 0 0] }).get? b = some o := fun b o e => Heap.get?_push_of_some _ (Heap.get?_push_of_some _ e)
  refine update_loop (h0 := s.heap) (items := items) (J := J) ((Walks.list h3 _ l nI items).toS) ?_ rfl (fun i v z => z) (none_above (Nat.le_refl _)) (fun b hb => none_above ?_) st (ad _) (items.size - 0) 0 _ (by omega) (Nat.zero_le _)
    ⟨⟨_, Heap.get?_push_size _ rfl, rfl, rfl⟩, hl1.push _⟩ old (J0 _ (Heap.get?_push_of_some _ hS)) fun s2 m J2 q2 => ?_
  · rw [sz1]
    simp only [List.mem_cons, List.not_mem_nil, or_false, not_or]
    exact ⟨Nat.ne_of_lt (Nat.lt_succ_self _), Nat.ne_of_gt ll⟩
  · rw [List.mem_singleton.mp hb, sz1]
    exact Nat.le_succ _
  · obtain ⟨h2, g2, d2, tk2, os2⟩ := s2
    obtain rfl : g2 = s.gens := m.gens
    obtain rfl : d2 = s.drawn := m.drawn
    obtain rfl : os2 = s.os := m.os
    refine wpAny_pure ?_
    exact wpAny_pure ⟨rfl, h h2 tk2 J2 q2⟩
end
end Ef
namespace Ef
open PySem PySem.Spec PyProof.Rows L2
section
variable {P : Program} {w : World}
/-! ### a set of texts -/
def strsIn (P : Program) (w : World) (S : Addr) (ws : List Str) (i : Nat) (h : Heap) : Prop := h.SetOf (PySem.strKind P w) S (fun k => (ws.take i).any (· == k)) i
theorem strsIn_stays {h0 : Heap} {S : Addr} {ws : List Str} : StaysJ h0 S (strsIn P w S ws) := fun i g h hJ _ k => by
  obtain ⟨o, es, ep, t, ho, r⟩ := hJ
  exact ⟨o, es, ep, t, k o ho, r⟩
theorem strsIn_adds {A : Around} {E : Value → Shared → Prop} {h0 : Heap} {S : Addr} {ws : List Str} {items : Array Value} (hi : Vals (ws.map V.str) items.toList) (nd : ws.Nodup) (few : ws.length < 1000) : AddsOne P w A E h0 S items (strsIn P w S ws) := by
  intro i v s' hv hJ hq
  obtain ⟨x, hx, rx⟩ : ∃ x, ws[i]? = some x ∧ RelV (.str x) v := by
    have e : items.toList[i]? = some v := by rw [Array.getElem?_toList]; exact hv
    obtain ⟨y, h1, h2⟩ := Paired.at1 hi e
    rw [List.getElem?_map] at h1
    cases q : ws[i]? with
    | none => rw [q] at h1; cases h1
    | some x =>
      rw [q] at h1
      exact ⟨x, rfl, by rw [Option.some.inj h1]; exact h2⟩
  obtain ⟨t, rfl⟩ := rx
  have lt : i < ws.length := (List.getElem?_eq_some_iff.mp hx).1
  have ta : ws.take (i + 1) = ws.take i ++ [x] := by rw [List.take_add_one, hx]; rfl
  have nx : (ws.take i).any (· == x) = false := by
    rw [List.any_eq_false]
    intro y hy z
    have z' : y = x := by simpa using z
    subst z'
    obtain ⟨j, hj, ej⟩ := List.getElem_of_mem hy
    rw [List.length_take] at hj
    rw [List.getElem_take] at ej
    have e1 : ws[j]? = some y := by rw [List.getElem?_eq_getElem (by omega), ej]
    have := nd_ix nd e1 hx
    omega
  unfold setAdd
  refine wpAny_holding (wpAny_bind ((PySem.strKind P w).pyHash (k := x) (strKind_is _ _ _ _) ?_))
  refine wpAny_setAddHashed_of (knd := PySem.strKind P w) (s := { s' with toks := s'.toks + 1 }) (strKind_is _ _ _ _) rfl hJ (by unfold scanBound; omega) fun h2 sb hS => ⟨h2, _, rfl, Nat.le_succ _, sb, ?_⟩
  refine SetOf_congr hS (fun k => ?_) (by rw [nx]; rfl)
  show _ = (ws.take (i + 1)).any (· == k)
  rw [ta, List.any_append]
  show ((ws.take i).any (· == k) || decide (k = x)) = ((ws.take i).any (· == k) || [x].any (· == k))
  congr 1
  by_cases e : k = x
  · subst e; simp
  · have e2 : (x == k) = false := by simpa [beq_iff_eq] using (fun z : x = k => e z.symm)
    simp [e, e2]

/-! ### a set of tuples of texts -/
abbrev tkey (P : Program) (w : World) (h : Heap) (k : List Str) (a : Addr) : Prop := IsTupleKey (PySem.strKind P w) h k a
abbrev tkh (P : Program) (w : World) (k : List Str) : Int := tupleKeyHash (PySem.strKind P w) k
structure SetP (P : Program) (w : World) (h : Heap) (S : Addr) (ks : List (Addr × List Str)) (n : Nat) (es : Array (Int × Value)) (ep : Nat) (t : SetTable) : Prop where
  ob : ∃ o, h.get? S = some o ∧ o.ExactSet ∧ o.data = .set es ep t
  size : es.size = n
  tab : TabOk t (es.toList.map (·.1))
  mem : ∀ e ∈ es.toList, ∃ p ∈ ks, e.2 = .ref p.1 ∧ tkey P w h p.2 p.1 ∧ e.1 = tkh P w p.2
  led : w.params.followText "set-order" = true ∨ t.led = true
  room : n * 5 < t.mask * 3
  few : n < 64
variable {A : Around} {E : Value → Shared → Prop} {s : Shared} {S : Addr} {ks : List (Addr × List Str)} {n : Nat} {es : Array (Int × Value)} {ep : Nat} {t : SetTable}
theorem tabsz {hs : List Int} (T : TabOk t hs) : t.fill = hs.length := by
  unfold SetTable.fill
  rw [T.dm, T.sz]
  rfl
theorem SetP.fits {h : Heap} (R : SetP P w h S ks n es ep t) : t.fits es.size = true := by
  have h1 := tabsz R.tab
  have h2 := R.tab.sz
  have h3 := R.room
  have h4 := R.size
  rw [List.length_map, Array.length_toList] at h1 h2
  unfold SetTable.fits
  rw [Bool.and_eq_true, beq_iff_eq, decide_eq_true_eq]
  omega
theorem SetP.odd {h : Heap} (R : SetP P w h S ks n es ep t) : ¬ t.gaveWay = true := by
  unfold SetTable.gaveWay
  rw [mask_odd R.tab.mok]
  decide
theorem str_items {k : List Str} {vs : List Value} (h : ItemsAre (PySem.strKind P w) k vs) : ∀ v ∈ vs, ∃ x t, v = Value.str x t := by
  induction h with
  | nil => intro v hv; cases hv
  | cons h1 _ ih =>
    intro v hv
    rcases List.mem_cons.mp hv with e | hv
    · obtain ⟨t, e2⟩ := Value.isStrOf_shape h1
      exact ⟨_, t, e.trans e2⟩
    · exact ih v hv
theorem noclass_str (n : Nat) (x : Str) (t : Tok) : ofAClassStatement n (.str x t) = pure false := by cases n <;> rfl
theorem noclass_key {k : List Str} {b : Addr} {Q : Bool → Shared → Prop} (hk : tkey P w s.heap k b) (h : Q false s) : wpAny (model P w) A (ofAClassStatement 8 (.ref b)) Q E s := by
  have hT := hk.typeIs
  obtain ⟨o, items, m, ho, _, hd, hi⟩ := hk
  have each := str_items hi
  unfold ofAClassStatement
  refine wpAny_bind (wpAny_typeOf hT ?_)
  dsimp only
  have e : (("tuple" : String) == "tuple") = true := by decide
  simp only [e, if_true, Bool.not_true, Bool.false_eq_true, if_false]
  try refine wpAny_bind (wpAny_pure ?_)
  try simp only [Bool.not_true, Bool.false_eq_true, if_false]
  show wpAny _ _ (seqItems? (.ref b) >>= _) _ _ s
  refine wpAny_bind (wpAny_seqItems ho hd ?_)
  dsimp only
  refine wpAny_bind ?_
  show wpAny _ _ (forIn items _ _) _ _ s
  rw [← Array.forIn_toList]
  refine wpAny_forIn_list _ (fun l r s1 => r.1 = none ∧ s1 = s ∧ ∀ v ∈ l, ∃ x t, v = Value.str x t) _ ?_ ?_ _ _ ⟨rfl, rfl, each⟩
  · rintro v l r s1 ⟨hr, rfl, al⟩
    obtain ⟨x, u, rfl⟩ := al v List.mem_cons_self
    rw [noclass_str]
    refine wpAny_bind (wpAny_pure ?_)
    simp only [Bool.false_eq_true, if_false]
    exact wpAny_pure ⟨rfl, rfl, fun z hz => al z (List.mem_cons_of_mem _ hz)⟩
  · rintro ⟨r1, r2⟩ s1 ⟨hr, rfl, _⟩
    simp only at hr
    subst hr
    exact wpAny_pure h
theorem unseen_key {k : List Str} {b : Addr} {Q : Bool → Shared → Prop} (hk : tkey P w s.heap k b) {ys : List Value} (hy : ∀ y ∈ ys, ∃ k' c, y = Value.ref c ∧ tkey P w s.heap k' c) (h : Q false s) :
    wpAny (model P w) A (searchCouldBeSeen (.ref b) ys) Q E s := by
  unfold searchCouldBeSeen
  refine wpAny_bind (wpAny_forIn_list _ (fun l r s1 => r.1 = none ∧ s1 = s ∧ ∀ y ∈ l, ∃ k' c, y = Value.ref c ∧ tkey P w s.heap k' c) _ ?_ ?_ _ _ ⟨rfl, rfl, hy⟩)
  · rintro v l r s1 ⟨hr, rfl, al⟩
    obtain ⟨k', c, rfl, hc⟩ := al v List.mem_cons_self
    have more : ∀ y ∈ l, ∃ k' c, y = Value.ref c ∧ tkey P w s1.heap k' c := fun z hz => al z (List.mem_cons_of_mem _ hz)
    dsimp only
    by_cases same : (b == c || (carriedByValue (.ref b) && carriedByValue (.ref c))) = true
    · exact wp_if_pos same (wpAny_pure ⟨rfl, rfl, more⟩)
    · refine wp_if_neg same (wpAny_bind (wpAny_eqIsQuiet_tuple hk ?_))
      simp only [Bool.not_true, Bool.false_eq_true, if_false]
      refine wpAny_bind (wpAny_eqIsQuiet_tuple hc ?_)
      simp only [Bool.not_true, Bool.false_eq_true, if_false]
      refine wpAny_bind (noclass_key hk ?_)
      simp only [Bool.false_eq_true, if_false]
      refine wpAny_bind (noclass_key hc ?_)
      simp only [Bool.false_eq_true, if_false]
      exact wpAny_pure ⟨rfl, rfl, more⟩
  · rintro ⟨r1, r2⟩ s1 ⟨hr, rfl, _⟩
    simp only at hr
    subst hr
    exact wpAny_pure h
/-- the c-th step of the way -/
abbrev stepAt (t : SetTable) (h : Int) (c : Nat) : SetTable.Probe := nth t.mask (runAt t.mask (SetTable.bits h % (t.mask + 1)) (SetTable.bits h)) c
theorem step_plain (t : SetTable) (h : Int) (c : Nat) : (stepAt t h c).dummy = none := by
  have key : ∀ (m : Nat) (p : SetTable.Probe), p.dummy = none → (nth t.mask p m).dummy = none := by
    intro m
    induction m with
    | zero => exact fun p q => q
    | succ m ih =>
      intro p q
      refine ih _ ?_
      unfold adv
      split <;> exact q
  exact key c _ rfl
/-- a key that is not there is not found -/
theorem search_absent (R : SetP P w s.heap S ks n es ep t) {x : Addr} {k : List Str} (hx : tkey P w s.heap k x) (nk : ∀ p ∈ ks, p.2 ≠ k) (hu : A.units < cLine) {K : Nat} (hF : K < 10 * SetTable.turns t.mask)
    (hK : way t.mask (tkh P w k) K ∉ t.place.toList) (hB : ∀ c, c < K → way t.mask (tkh P w k) c ∈ t.place.toList) {Q : SetFound → Shared → Prop} (q : Q (.free (way t.mask (tkh P w k) K) false) s) :
    ∀ (f c : Nat) (stand : Option SetTable.Probe), stand.getD (t.probeStart (tkh P w k)) = stepAt t (tkh P w k) c → c ≤ K → K - c < f → wpAny (model P w) A (setSearchFrom S (.ref x) (tkh P w k) true f stand) Q E s
  | 0, c, stand, _, _, hf => absurd hf (Nat.not_lt_zero _)
  | f + 1, c, stand, hst, hc, hf => by
    obtain ⟨o, ho, hex, hd⟩ := R.ob
    generalize hh : tkh P w k = hv at hK hB q hst ⊢
    rw [setSearchFrom_succ]
    refine wpAny_bind (wpAny_setState_of ho hd R.fits ?_)
    dsimp only
    refine wp_if_neg R.odd ?_
    try refine wpAny_bind (wpAny_pure ?_)
    have sh : ∀ m, nth t.mask (stepAt t hv c) m = stepAt t hv (c + m) := fun m => (nth_add t.mask c _ m).symm
    have ej : ∀ m, (nth t.mask (stepAt t hv c) m).j = way t.mask hv (c + m) := fun m => congrArg SetTable.Probe.j (sh m)
    have spec := go_spec t R.tab.ris R.tab.dm (fun i => (es[i]?.map (·.1)).getD 0) hv (10 * SetTable.turns t.mask) (K - c) (stepAt t hv c) (step_plain t hv c) (by omega)
      (fun m hm => by rw [ej]; exact hB (c + m) (by omega)) (by rw [ej, show c + (K - c) = K by omega]; exact hK)
    rcases spec with ⟨m, i, hm, hi, _, _, hpr⟩ | ⟨_, hpr⟩
    · have pr : t.probe (fun i => (es[i]?.map (·.1)).getD 0) hv (stand.getD (t.probeStart hv)) = some (.candidate (way t.mask hv (c + m)) i (stepAt t hv (c + (m + 1)))) := by
        rw [hst, ← ej, ← sh]
        exact hpr
      rw [pr]
      dsimp only
      rw [ej] at hi
      have lt : i < es.size := by
        have h1 : i < t.place.toList.length := (List.getElem?_eq_some_iff.mp hi).1
        have h2 := R.tab.sz
        rw [List.length_map, Array.length_toList] at h2
        rw [Array.length_toList] at h1
        omega
      have he : es[i]? = some es[i] := Array.getElem?_eq_getElem lt
      have hmem : es[i] ∈ es.toList := by
        rw [← Array.mem_def]
        exact Array.getElem_mem lt
      obtain ⟨⟨c2, k2⟩, e4, e1, e2, e3⟩ := R.mem _ hmem
      have nkk : ¬ k2 = k := nk _ e4
      generalize hes : es[i] = e at he e1 e3
      obtain ⟨eh, ev⟩ := e
      simp only at e1 e3
      subst e1
      have rest : wpAny (model P w) A (searchRest S (.ref x) hv true f es t (way t.mask hv (c + m)) i (stepAt t hv (c + (m + 1)))) Q E s := by
        unfold searchRest
        rw [he]
        dsimp only
        refine wpAny_bind (wpAny_holding (wpAny_eqBool_tuple hu e2 hx ?_))
        refine wpAny_bind (wpAny_setState_of ho hd R.fits ?_)
        dsimp only
        refine wp_if_neg (by simp [nkk]) ?_
        try refine wpAny_bind (wpAny_pure ?_)
        rw [sameMem]
        dsimp only
        have hsl : t.slot (way t.mask hv (c + m)) = .live i := slot_live R.tab.ris hi
        simp only [if_true, hsl, he]
        refine wpAny_bind (wpAny_isSame_ref_self (wpAny_bind (wpAny_pure ?_)))
        simp only [if_true]
        refine wp_if_neg (by simp [nkk]) ?_
        rw [← hh]
        rw [← hh] at hK hB q
        exact search_absent R hx nk hu hF hK hB q f (c + (m + 1)) _ (by rw [hh]; rfl) (by omega) (by omega)
      by_cases hl : t.led = true
      · refine wp_if_neg (by simp [hl]) ?_
        try refine wpAny_bind (wpAny_pure ?_)
        exact rest
      · refine wp_if_pos (by simp [hl]) ?_
        refine wpAny_bind (unseen_key hx (fun y hy => ?_) ?_)
        · obtain ⟨e, h1, h2⟩ := List.mem_map.mp hy
          have h3 : e ∈ es ∧ e.1 = hv := by simpa using h1
          obtain ⟨p3, _, a1, a2, _⟩ := R.mem e (by rw [← Array.mem_def]; exact h3.1)
          exact ⟨p3.2, p3.1, by rw [← h2]; exact a1, a2⟩
        · refine wp_if_neg (by decide) ?_
          try refine wpAny_bind (wpAny_pure ?_)
          exact rest
    · have pr : t.probe (fun i => (es[i]?.map (·.1)).getD 0) hv (stand.getD (t.probeStart hv)) = some (.empty (way t.mask hv K) none) := by
        have e2 : way t.mask hv K = (nth t.mask (stepAt t hv c) (K - c)).j := by rw [ej, show c + (K - c) = K by omega]
        rw [hst, e2]
        exact hpr
      rw [pr]
      dsimp only
      exact wpAny_pure q
end
end Ef
namespace Ef
open PySem PySem.Spec PyProof.Rows L2
section
variable {P : Program} {w : World} {A : Around} {E : Value → Shared → Prop} {s : Shared} {S : Addr} {ks : List (Addr × List Str)} {n : Nat} {es : Array (Int × Value)} {ep : Nat} {t : SetTable}
theorem hashes_key {k : List Str} {b : Addr} {Q : Bool → Shared → Prop} (hk : tkey P w s.heap k b) (h : ∀ r, Q r s) : wpAny (model P w) A (hashByValue 8 (.ref b)) Q E s := by
  have hT := hk.typeIs
  obtain ⟨o, items, m, ho, _, hd, hi⟩ := hk
  have each := str_items hi
  unfold hashByValue
  refine wpAny_bind (wpAny_specialOf hT F.slot_tuple_hash.lookup ?_)
  show wpAny _ _ (seqItems? (.ref b) >>= _) _ _ s
  refine wpAny_bind (wpAny_seqItems ho hd ?_)
  refine wpAny_bind ?_
  show wpAny _ _ (forIn items _ _) _ _ s
  rw [← Array.forIn_toList]
  have nb : ∀ (m : Nat) (x : Str) (u : Tok), hashByValue m (.str x u) = pure false := fun m x u => by cases m <;> rfl
  refine wpAny_forIn_list _ (fun l r s1 => s1 = s ∧ ∀ v ∈ l, ∃ x t, v = Value.str x t) _ ?_ ?_ _ _ ⟨rfl, each⟩
  · rintro v l r s1 ⟨rfl, al⟩
    obtain ⟨x, u, rfl⟩ := al v List.mem_cons_self
    rw [nb]
    refine wpAny_bind (wpAny_pure ?_)
    simp only [Bool.not_false, if_true]
    exact wpAny_pure (by first | exact h _ | exact wpAny_pure (h _))
  · rintro ⟨r1, r2⟩ s1 ⟨rfl, _⟩
    cases r1 with
    | none => exact wpAny_pure (h _)
    | some r => exact wpAny_pure (h _)
theorem tkey_same {h h' : Heap} {k : List Str} {a b : Addr} {o : Obj} (hb : tkey P w h k b) (ho : h.get? a = some o) (hd : o.data = .set es ep t) (hs : Heap.SameBut a h h') : tkey P w h' k b := by
  obtain ⟨o', items, m, ho', hc, hd', hi⟩ := hb
  have ne : b ≠ a := by
    rintro rfl
    obtain rfl : o' = o := Option.some.inj (ho'.symm.trans ho)
    rw [hd] at hd'
    exact nomatch hd'
  exact ⟨o', items, m, (hs.2 b ne).trans ho', hc, hd', hi⟩
theorem picks (es : Array (Int × Value)) : ∀ l : List Nat, (∀ i ∈ l, i < es.size) →
    (l.filterMap (es[·]?)).map (·.1) = l.map (fun i => (es.map (·.1)).getD i 0) ∧ (∀ e ∈ l.filterMap (es[·]?), e ∈ es.toList)
  | [], _ => ⟨rfl, fun e he => nomatch he⟩
  | i :: l, h => by
    have hi : i < es.size := h i List.mem_cons_self
    obtain ⟨e1, e2⟩ := picks es l fun j hj => h j (List.mem_cons_of_mem _ hj)
    have he : es[i]? = some es[i] := Array.getElem?_eq_getElem hi
    have hm : (es.map (·.1)).getD i 0 = es[i].1 := by simp [Array.getD_eq_getD_getElem?, he]
    rw [List.filterMap_cons_some he, List.map_cons, List.map_cons, e1, hm]
    refine ⟨rfl, fun e hh => ?_⟩
    rcases List.mem_cons.mp hh with z | z
    · rw [z, ← Array.mem_def]
      exact Array.getElem_mem hi
    · exact e2 e z
/-- the table laid anew -/
theorem relay_key {o : Obj} (ho : s.heap.get? S = some o) (hex : o.ExactSet) (hd : o.data = .set es ep t) (sz : es.size = n) (tab : TabOk t (es.toList.map (·.1))) (fl : es.size ≤ t.mask)
    (mem : ∀ e ∈ es.toList, ∃ p ∈ ks, e.2 = .ref p.1 ∧ tkey P w s.heap p.2 p.1 ∧ e.1 = tkh P w p.2) (ld : w.params.followText "set-order" = true ∨ t.led = true) (few : n < 64) {wanted M : Nat}
    (hw : SetTable.sizeAbove wanted - 1 = M) (hM : MaskOk M) (hw2 : SetTable.sizeAbove wanted ≤ 128) (hn : n * 5 < M * 3) {Q : Unit → Shared → Prop}
    (hQ : ∀ h' es' ep' t', Heap.SameBut S s.heap h' → SetP P w h' S ks n es' ep' t' → Q () { s with heap := h' }) : wpAny (model P w) A (setRelay S wanted) Q E s := by
  have h1 := tabsz tab
  have h2 := tab.sz
  rw [List.length_map, Array.length_toList] at h1 h2
  have fits : t.fits es.size = true := by
    unfold SetTable.fits
    rw [Bool.and_eq_true, beq_iff_eq, decide_eq_true_eq]
    omega
  obtain ⟨t', order, e, hp, T, em, el, _, ed⟩ := relaid_ok t (hs := es.map (·.1)) (wanted := wanted) hw hM (by rw [Array.size_map]; omega)
  rw [Array.size_map] at hp
  obtain ⟨p1, p2⟩ := picks es order.toList fun i hi => List.mem_range.mp (hp.mem_iff.mp hi)
  have tl : (order.filterMap (es[·]?)).toList = order.toList.filterMap (es[·]?) := by first | rw [Array.toList_filterMap] | simp
  have sz2 : (order.filterMap (es[·]?)).size = es.size := by
    rw [← Array.length_toList, tl]
    have q := congrArg List.length p1
    rw [List.length_map, List.length_map, hp.length_eq, List.length_range] at q
    exact q
  rw [setRelay_eq]
  refine wpAny_bind (wpAny_setState_of ho hd fits ?_)
  dsimp only
  refine wp_if_neg (by rw [sizeLine_eq]; omega) ?_
  try refine wpAny_bind (wpAny_pure ?_)
  rw [e]
  dsimp only
  refine wpAny_bind ?_
  refine wp_if_neg (by rw [sz2]; simp) ?_
  try refine wpAny_bind (wpAny_pure ?_)
  refine wpAny_pure ?_
  dsimp only
  refine wpAny_storeSet_of ho hd ?_ (by rw [sz2, sz, sizeLine_eq]; omega)
  have sb : Heap.SameBut S s.heap (s.heap.update S (Obj.putSet (order.filterMap (es[·]?)) t')) := Heap.SameBut.update ..
  refine hQ _ _ (ep + 1) t' sb ⟨⟨_, store_at ho hd, ⟨hex.1, hex.2.1, hex.2.2⟩, rfl⟩, by rw [sz2, sz], by rw [tl, p1]; exact T, fun z hz => ?_, by rw [el]; exact ld, by rw [em]; exact hn, few⟩
  rw [tl] at hz
  obtain ⟨p, a4, a1, a2, a3⟩ := mem z (p2 z hz)
  exact ⟨p, a4, a1, tkey_same a2 ho hd sb, a3⟩
/-- a key that is not there is put in -/
theorem add_key (R : SetP P w s.heap S ks n es ep t) {x : Addr} {k : List Str} (hx : tkey P w s.heap k x) (nk : ∀ p ∈ ks, p.2 ≠ k) (hu : A.units < cLine) (few : n + 1 < 64) {Q : Bool → Shared → Prop}
    (hQ : ∀ b h' es' ep' t', Heap.SameBut S s.heap h' → SetP P w h' S ((x, k) :: ks) (n + 1) es' ep' t' → Q b { s with heap := h' }) : wpAny (model P w) A (setAddHashed S (.ref x) (tkh P w k)) Q E s := by
  obtain ⟨o, ho, hex, hd⟩ := R.ob
  have room := R.room
  have sz := R.size
  have ll : (es.toList.map (·.1)).length = n := by rw [List.length_map, Array.length_toList, sz]
  obtain ⟨K, hF, hK, hB⟩ := R.tab.first (by rw [ll]; omega) (tkh P w k)
  have big : K < 100000 := by
    have : 10 * SetTable.turns t.mask ≤ 1420 := by
      unfold SetTable.turns
      rcases R.tab.mok with e | e | e <;> omega
    omega
  unfold setAddHashed
  refine wpAny_holding ?_
  rw [show (100000 : Nat) = 99999 + 1 from rfl, setAddHashedIn_succ]
  refine wpAny_bind (wpAny_setState_of ho hd R.fits ?_)
  dsimp only
  refine wp_if_neg (by simp [byScan, Value.scannable]) ?_
  try refine wpAny_bind (wpAny_pure ?_)
  refine wpAny_bind ?_
  unfold setSearch
  refine search_absent R hx nk hu hF hK hB ?_ 100000 0 none rfl (Nat.zero_le _) (by omega)
  dsimp only
  refine wpAny_bind (wpAny_setState_of ho hd R.fits ?_)
  dsimp only
  obtain ⟨q1, q2, q3, q4, q5, _, _, _, q9⟩ := R.tab.put hK hB
  generalize hpt : t.put (way t.mask (tkh P w k) K) = pt at q1 q3 q4 q5 q9 ⊢
  obtain ⟨t1, p⟩ := pt
  dsimp only at q1 q3 q4 q5 q9 ⊢
  subst q1
  -- whatever is said of its hash
  have go : ∀ r : Bool, wpAny (model P w) A (do
      storeSet S (SetTable.insertAt es (SetTable.below t.place (way t.mask (tkh P w k) K)) (tkh P w k, Value.ref x)) (if r = true then t1 else { t1 with plain := false })
      if !false && (if r = true then t1 else { t1 with plain := false }).tooFull then setRelay S (SetTable.grown (es.size + 1))
      return true) Q E s := fun r => by
    have z1 : (if r = true then t1 else { t1 with plain := false }).mask = t1.mask := by cases r <;> rfl
    have z2 : (if r = true then t1 else { t1 with plain := false }).fill = t1.fill := by cases r <;> rfl
    have z3 : (if r = true then t1 else { t1 with plain := false }).led = t1.led := by cases r <;> rfl
    have q3' : TabOk (if r = true then t1 else { t1 with plain := false }) (List.take (SetTable.below t.place (way t.mask (tkh P w k) K)) (es.toList.map (·.1)) ++ tkh P w k :: List.drop (SetTable.below t.place (way t.mask (tkh P w k) K)) (es.toList.map (·.1))) := by
      cases r
      · exact ⟨q3.ris, q3.dm, q3.sz, q3.mok, q3.bd, q3.reach⟩
      · exact q3
    generalize (if r = true then t1 else { t1 with plain := false }) = t2 at z1 z2 z3 q3' ⊢
    have tl : (SetTable.insertAt es (SetTable.below t.place (way t.mask (tkh P w k) K)) (tkh P w k, Value.ref x)).toList = es.toList.take (SetTable.below t.place (way t.mask (tkh P w k) K)) ++ (tkh P w k, Value.ref x) :: es.toList.drop (SetTable.below t.place (way t.mask (tkh P w k) K)) := SetTable.toList_insertAt _ _ _
    have q3'' : TabOk t2 ((SetTable.insertAt es (SetTable.below t.place (way t.mask (tkh P w k) K)) (tkh P w k, Value.ref x)).toList.map (·.1)) := by
      rw [tl, List.map_append, List.map_cons, List.map_take, List.map_drop]
      exact q3'
    have pm : ∀ e, e ∈ (SetTable.insertAt es (SetTable.below t.place (way t.mask (tkh P w k) K)) (tkh P w k, Value.ref x)).toList → e = (tkh P w k, Value.ref x) ∨ e ∈ es.toList := fun e he => by
      rw [tl] at he
      exact mem_ins.1 he
    have sz1 : (SetTable.insertAt es (SetTable.below t.place (way t.mask (tkh P w k) K)) (tkh P w k, Value.ref x)).size = n + 1 := by
      rw [← Array.length_toList, tl, len_ins _ (by rw [Array.length_toList, sz]; rw [ll] at q2; exact q2), Array.length_toList, sz]
    generalize SetTable.insertAt es (SetTable.below t.place (way t.mask (tkh P w k) K)) (tkh P w k, Value.ref x) = es1 at q3'' pm sz1 ⊢
    refine wpAny_bind (wpAny_storeSet_of ho hd ?_ (by rw [sz1, sizeLine_eq]; omega))
    have sb : Heap.SameBut S s.heap (s.heap.update S (Obj.putSet es1 t2)) := Heap.SameBut.update ..
    have ho1 := store_at (es' := es1) (t' := t2) ho hd
    generalize s.heap.update S (Obj.putSet es1 t2) = h1 at sb ho1 ⊢
    have mem1 : ∀ e ∈ es1.toList, ∃ p ∈ (x, k) :: ks, e.2 = .ref p.1 ∧ tkey P w h1 p.2 p.1 ∧ e.1 = tkh P w p.2 := fun e he => by
      rcases pm e he with z | z
      · subst z
        exact ⟨(x, k), List.mem_cons_self, rfl, tkey_same hx ho hd sb, rfl⟩
      · obtain ⟨p', a4, a1, a2, a3⟩ := R.mem e z
        exact ⟨p', List.mem_cons_of_mem _ a4, a1, tkey_same a2 ho hd sb, a3⟩
    have ld1 : w.params.followText "set-order" = true ∨ t2.led = true := by rw [z3, q5]; exact R.led
    have fl : t2.fill = n + 1 := by rw [z2, q9, ll]
    by_cases hf : t2.tooFull = true
    · first
        | (refine wpAny_bind ?_; refine wp_if_pos (by simp [hf]) ?_)
        | (refine wp_if_pos (by simp [hf]) ?_; refine wpAny_bind ?_)
      have full : (n + 1) * 5 ≥ t2.mask * 3 := by
        have h := hf
        unfold SetTable.tooFull at h
        rw [decide_eq_true_eq, fl] at h
        exact h
      rw [sz]
      have which : (t.mask = 7 ∧ n = 4) ∨ (t.mask = 31 ∧ n = 18) := by
        rcases R.tab.mok with e | e | e
        · left; rw [z1, q4, e] at full; rw [e] at room; exact ⟨e, by omega⟩
        · right; rw [z1, q4, e] at full; rw [e] at room; exact ⟨e, by omega⟩
        · exfalso; rw [z1, q4, e] at full; omega
      have lay : ∀ M, SetTable.sizeAbove (SetTable.grown (n + 1)) - 1 = M → MaskOk M → SetTable.sizeAbove (SetTable.grown (n + 1)) ≤ 128 → (n + 1) * 5 < M * 3 →
          wpAny (model P w) A (setRelay S (SetTable.grown (n + 1))) (fun _ s' => wpAny (model P w) A (pure true) Q E s') E { s with heap := h1 } := fun M a1 a2 a3 a4 => by
        refine relay_key (s := { s with heap := h1 }) (ks := (x, k) :: ks) ho1 ⟨hex.1, hex.2.1, hex.2.2⟩ rfl sz1 q3'' (by rw [sz1, z1, q4]; rcases which with ⟨e, e2⟩ | ⟨e, e2⟩ <;> omega) mem1 ld1 few a1 a2 a3 a4 ?_
        exact fun h2 es2 ep2 t3 sb2 R2 => wpAny_pure (hQ true h2 es2 ep2 t3 (sb.trans sb2) R2)
      rcases which with ⟨_, e2⟩ | ⟨_, e2⟩
      · exact lay 31 (by rw [e2, size_20]) (.inr (.inl rfl)) (by rw [e2, size_20]; decide) (by omega)
      · exact lay 127 (by rw [e2, size_76]) (.inr (.inr rfl)) (by rw [e2, size_76]; decide) (by omega)
    · first
        | refine wp_if_neg (by simp [hf]) ?_
        | (refine wpAny_bind ?_; refine wp_if_neg (by simp [hf]) ?_; refine wpAny_pure ?_)
      refine wpAny_pure (hQ true h1 es1 (ep + 1) t2 sb ⟨⟨_, ho1, ⟨hex.1, hex.2.1, hex.2.2⟩, rfl⟩, sz1, q3'', mem1, ld1, ?_, few⟩)
      have h := hf
      unfold SetTable.tooFull at h
      rw [decide_eq_true_eq, fl] at h
      omega
  by_cases hp : t1.plain = true
  · first
      | (refine wpAny_bind ?_; refine wp_if_pos hp ?_; refine hashes_key hx fun r => ?_)
      | refine wp_if_pos hp (wpAny_bind (hashes_key hx fun r => ?_))
    exact go r
  · first
      | (refine wpAny_bind ?_; refine wp_if_neg hp ?_; refine wpAny_pure ?_)
      | refine wp_if_neg hp (wpAny_bind (wpAny_pure ?_))
    exact go true
end
section
variable {P : Program} {w : World}
theorem tkey_old {h h' : Heap} {k : List Str} {b : Addr} (x : tkey P w h k b) (q : ∀ c o, h.get? c = some o → h'.get? c = some o) : tkey P w h' k b := by
  obtain ⟨o, items, m, ho, r⟩ := x
  exact ⟨o, items, m, q b o ho, r⟩
def keysIn (P : Program) (w : World) (S : Addr) (ks : List (Addr × List Str)) (i : Nat) (h : Heap) : Prop := ∃ es ep t, SetP P w h S (ks.take i).reverse i es ep t
theorem mem_front {α : Type} {l : List α} {i : Nat} {x : α} (h : x ∈ (l.take i).reverse) : x ∈ l := List.mem_of_mem_take (List.mem_reverse.mp h)
theorem keysIn_stays {h0 : Heap} {S : Addr} {ks : List (Addr × List Str)} (hk : ∀ p ∈ ks, tkey P w h0 p.2 p.1) : StaysJ h0 S (keysIn P w S ks) := fun i g h ⟨es, ep, t, R⟩ q k => by
  obtain ⟨o, ho, r⟩ := R.ob
  refine ⟨es, ep, t, ⟨o, k o ho, r⟩, R.size, R.tab, fun e he => ?_, R.led, R.room, R.few⟩
  obtain ⟨p, a1, a2, _, a4⟩ := R.mem e he
  exact ⟨p, a1, a2, tkey_old (hk p (mem_front a1)) q, a4⟩
theorem keysIn_zero {S : Addr} {ks : List (Addr × List Str)} {h : Heap} (ho : h.get? S = some (setObj P w)) : keysIn P w S ks 0 h :=
  ⟨#[], 0, .fresh 0 0 (!w.params.followText "set-order"), ⟨_, ho, ⟨rfl, rfl, rfl⟩, rfl⟩, rfl, ⟨List.Pairwise.nil, rfl, rfl, .inl rfl, fun x hx => (by cases hx), fun i h j hi => (by simp at hi)⟩, fun e he => (by cases he), by
    show _ ∨ (!w.params.followText "set-order") = true
    cases w.params.followText "set-order"
    · exact .inr rfl
    · exact .inl rfl, (show 0 * 5 < 7 * 3 by decide), by decide⟩
theorem keysIn_adds {A : Around} {E : Value → Shared → Prop} {h0 : Heap} {S : Addr} {ks : List (Addr × List Str)} {items : Array Value} (hi : items.toList = ks.map fun p => Value.ref p.1) (hk : ∀ p ∈ ks, tkey P w h0 p.2 p.1) (nd : (ks.map (·.2)).Nodup) (few : ks.length < 64) (hu : A.units < cLine) :
    AddsOne P w A E h0 S items (keysIn P w S ks) := by
  intro i v s' hv ⟨es, ep, t, R⟩ hq
  obtain ⟨p, hp, rfl⟩ : ∃ p, ks[i]? = some p ∧ v = .ref p.1 := by
    have e : items.toList[i]? = some v := by rw [Array.getElem?_toList]; exact hv
    rw [hi, List.getElem?_map] at e
    cases q : ks[i]? with
    | none => rw [q] at e; cases e
    | some p =>
      rw [q] at e
      exact ⟨p, rfl, (Option.some.inj e).symm⟩
  have lt : i < ks.length := (List.getElem?_eq_some_iff.mp hp).1
  have hx : tkey P w s'.heap p.2 p.1 := tkey_old (hk p (List.mem_of_getElem? hp)) hq
  have ta : (ks.take (i + 1)).reverse = p :: (ks.take i).reverse := by
    rw [List.take_add_one, hp, List.reverse_append]
    rfl
  have fresh : ∀ q ∈ (ks.take i).reverse, q.2 ≠ p.2 := fun q hq' z => by
    obtain ⟨j, hj, ej⟩ := List.getElem_of_mem (List.mem_reverse.mp hq')
    rw [List.length_take] at hj
    rw [List.getElem_take] at ej
    have e1 : (ks.map (·.2))[j]? = some p.2 := by rw [List.getElem?_map, List.getElem?_eq_getElem (by omega), ej, ← z]; rfl
    have e2 : (ks.map (·.2))[i]? = some p.2 := by rw [List.getElem?_map, hp]; rfl
    have := nd_ix nd e1 e2
    omega
  unfold setAdd
  refine wpAny_holding (wpAny_bind (wpAny_pyHash_tuple hu hx ?_))
  refine add_key (s := { s' with toks := s'.toks + (p.2.length + 1) }) R hx fresh hu (by omega) fun b h2 es2 ep2 t2 sb R2 => ⟨h2, _, rfl, Nat.le_add_right _ _, sb, es2, ep2, t2, ?_⟩
  rw [ta]
  exact R2
end

/-! ### len(set(xs)): texts, tuples of texts, all unlike -/
section
variable {X : Cx} {a : Expr} {ta : TE} {p p2 q pos : Pos}
def tLenSet2 (K : PySem.W.Frag) (ta : TE) : TE := fun σ H Q => ta σ H fun x H1 => ∃ l, x = V.ref l ∧
  ((∃ ws : List Str, SqL K H1 l (ws.map V.str) ∧ ws.Nodup ∧ ws.length < 1000 ∧ Q (.int ws.length) H1) ∨
   (∃ ks : List (Addr × List Str), SqL K H1 l (ks.map fun p => V.ref p.1) ∧ (∀ p ∈ ks, SqT K H1 p.1 (p.2.map V.str)) ∧ (ks.map (·.2)).Nodup ∧ ks.length < 64 ∧ Q (.int ks.length) H1))
theorem strs_items {P : Program} {w : World} : ∀ {k : List Str} {us : List Value}, Vals (k.map V.str) us → ItemsAre (PySem.strKind P w) k us
  | [], _, h => by cases h; exact .nil
  | x :: k, _, h => by
    cases h with
    | cons h1 h2 =>
      obtain ⟨t, rfl⟩ := h1
      exact .cons (strKind_is _ _ _ _) (strs_items h2)
theorem tkey_of {pins : List (Addr × Obj)} {σ : L2.St} {H : Hp} {s : Shared} {b : Addr} {k : List Str} (I : Inv X pins σ H s) (h : SqT X.K H b (k.map V.str)) : tkey X.prog X.w s.heap k b := by
  obtain ⟨its, r, ⟨o, ho, hc, n, hd⟩, _⟩ := I.tuple h
  exact ⟨o, its.toArray, n, ho, hc, hd, strs_items (by simpa using r)⟩
theorem ref_items : ∀ {ks : List (Addr × List Str)} {us : List Value}, Vals (ks.map fun p => V.ref p.1) us → us = ks.map fun p => Value.ref p.1
  | [], _, h => by cases h; rfl
  | p :: ks, _, h => by
    cases h with
    | cons h1 h2 =>
      cases h1
      rw [ref_items h2]
      rfl
theorem pe_lenSet2 (hc : X.calm = true) (hu : X.A.units + 64 < cLine) (hg : Gl X "len") (hm : X.mg "len" = none) (hg2 : Gl X "set") (hm2 : X.mg "set" = none) (ha : PE X a ta)
    (na : starEach [a] X.env = (false, eval a X.env) :: starEach [] X.env := by rfl) : PE X (.Call (.Name "len" p) [.Call (.Name "set" p2) [a] [] q] [] pos) (tLenSet2 X.K ta) := by
  refine ⟨fun pins s σ H Q I h => ?_⟩
  refine Call_ (ld_blt I hg hm PySem.boot_len ?_)
  refine PyProof.Rows.callWith_builtin1 (PyProof.Rows.args_cons ?_ rfl) rfl rfl
  refine Call_ (ld_blt I hg2 hm2 PyProof.Rows.boot_set ?_)
  refine PyProof.Rows.callWith_type1 (PyProof.Rows.args_cons (thn (ha.run pins s σ H _ I h) fun v s1 ⟨x, H1, I1, r1, q1⟩ => PyProof.Rows.args_nil ?_) na) na rfl
  obtain ⟨l, rfl, q1⟩ := q1
  cases r1
  rcases q1 with ⟨ws, hq, nd, few, q1⟩ | ⟨ks, hq, hk, nd, few, q1⟩
  · obtain ⟨its, r, pl, _⟩ := I1.list hq
    have hl : its.toArray.size = ws.length := by rw [List.size_toArray, ← r.length, List.length_map]
    refine set_of_list (J := strsIn X.prog X.w s1.heap.objs.size ws) (I1.ok.hd hc) pl.isList strsIn_stays (fun E' => strsIn_adds (by simpa using r) nd few) (fun h ho => ?_) fun h2 tk J2 q2 => ?_
    · exact SetOf_congr ((PyProof.Rows.setObjOf_fresh (knd := PySem.strKind X.prog X.w) _).setOf ho (by unfold scanBound; omega)) (fun _ => rfl) rfl
    · rw [hl] at J2
      obtain ⟨o, es, ep, t, ho, hex, hd, _, _, _, hf, hn⟩ := J2
      have I2 : Inv X pins σ H1 { s1 with heap := h2, toks := tk } := I1.kept fun b o e => q2 b o e
      refine PyProof.Rows.args_nil (call_len_set ho hex hd hf (by rw [hn]; omega) ⟨.int ws.length, H1, I2.tok _, ⟨_, by rw [hn]⟩, q1⟩)
  · obtain ⟨its, r, pl, _⟩ := I1.list hq
    have hl : its.toArray.size = ks.length := by rw [List.size_toArray, ← r.length, List.length_map]
    have keys : ∀ p ∈ ks, tkey X.prog X.w s1.heap p.2 p.1 := fun p hp => tkey_of I1 (hk p hp)
    refine set_of_list (J := keysIn X.prog X.w s1.heap.objs.size ks) (I1.ok.hd hc) pl.isList (keysIn_stays keys) (fun E' => keysIn_adds (by simpa using ref_items r) keys nd few (by show X.A.units + 3 < cLine; omega)) (fun h ho => keysIn_zero ho) fun h2 tk J2 q2 => ?_
    rw [hl] at J2
    obtain ⟨es, ep, t, R⟩ := J2
    obtain ⟨o, ho, hex, hd⟩ := R.ob
    have I2 : Inv X pins σ H1 { s1 with heap := h2, toks := tk } := I1.kept fun b o e => q2 b o e
    refine PyProof.Rows.args_nil (call_len_set ho hex hd R.fits (by rw [R.size]; omega) ⟨.int ks.length, H1, I2.tok _, ⟨_, by rw [R.size]⟩, q1⟩)
end
end Ef
namespace Ef
open PySem PySem.Spec PyProof.Rows L2
/-! ### sorted(xs) of data -/
section
variable {X : Cx}
def srtBy (bs : List (V × PyData)) : List (V × PyData) := bs.mergeSort (PySem.W.dataLe false (fun b : V × PyData => b.2))
def rSortedD (K : PySem.W.Frag) : List V → Hp → VK → Prop := fun vs H Q => ∃ (a : Addr) (bs : List (V × PyData)), vs = [V.ref a] ∧ SqL K H a (bs.map (·.1)) ∧ (∀ b ∈ bs, Dp K H b.1 b.2) ∧ PySem.W.AllAlike (bs.map (·.2)) ∧ PySem.W.Sortable (bs.map (·.2)) ∧
  bs.length ≤ 10000 ∧ (∀ b ∈ bs, b.2.depth ≤ 8) ∧ ∀ p, H p = none → Q (.ref p) (upd H p (.lst ((srtBy bs).map (·.1))))
theorem each_vals {bs : List (V × PyData)} : ∀ {us : List Value}, Vals (bs.map (·.1)) us → PySem.W.EachIs (fun u b => RelV b.1 u) us bs := by
  induction bs with
  | nil => intro us h; cases h; exact .nil
  | cons b bs ih =>
    intro us h
    cases h with
    | cons h1 h2 => exact .cons h1 (ih h2)
theorem vals_each : ∀ {us : List Value} {bs : List (V × PyData)}, PySem.W.EachIs (fun u b => RelV b.1 u) us bs → Vals (bs.map (·.1)) us
  | _, _, .nil => .nil
  | _, _, .cons h1 h2 => .cons h1 (vals_each h2)
theorem each_reads {pins : List (Addr × Obj)} {σ : L2.St} {H : Hp} {s : Shared} (I : Inv X pins σ H s) : ∀ {bs : List (V × PyData)} {us : List Value}, Vals (bs.map (·.1)) us → (∀ b ∈ bs, Dp X.K H b.1 b.2) → PySem.W.EachIs (fun u b => ∃ as, Reads s.heap u b.2 as) us bs
  | [], _, h, _ => by cases h; exact .nil
  | b :: bs, _, h, hd => by
    cases h with
    | cons h1 h2 => exact .cons (Dp.reads I b.2 b.1 _ (hd b List.mem_cons_self) h1) (each_reads I h2 fun c hc => hd c (List.mem_cons_of_mem _ hc))
theorem cr_sortedD (hu : X.A.units + 64 < cLine) : CallR X (.builtin "sorted") (rSortedD X.K) := by
  intro pins s σ H vs us Q I r h
  obtain ⟨a, bs, rfl, hs, hd, al, so, hl, hp, q⟩ := h
  obtain ⟨its, rv, pl, _⟩ := I.list hs
  rw [Vals.ref1 r]
  refine PySem.W.sorted_data (enc := fun b : V × PyData => b.2) (R := fun u (b : V × PyData) => RelV b.1 u) pl.isList (each_vals rv) (each_reads I rv hd) al so (by rw [sizeLine_eq]; omega) (fun b hb => by have := hp b hb; omega) fun out ho eo => ?_
  obtain ⟨ep, he⟩ := PyProof.Rows.sortedAll_at s.heap its out.toArray
  have sl : (srtBy bs).length = bs.length := (List.mergeSort_perm bs _).length_eq
  refine ⟨.ref _, upd H (s.heap.objs.size + 1) (.lst ((srtBy bs).map (·.1))), I.laid (t' := s.toks) (fun _ _ => PyProof.Rows.sortedAll_old) (Nat.le_succ _) ⟨?_, out, ep, vals_each eo, he⟩, rfl, q _ (I.hok.fresh (Nat.le_succ _))⟩
  rw [List.length_map, sl, sizeLine_eq]
  omega
end
/-! texts and pairs of texts in order -/
def leS (a b : Str) : Bool := PySem.W.dataLe false PyData.str a b
def leP (a b : Str × Str) : Bool := PySem.W.dataLe false dP1 a b
theorem leS_eq (a b : Str) : leS a b = decide (a.cps.toList ≤ b.cps.toList) := congrFun (congrFun (PySem.W.dataLe_str (fun x : Str => x)) a) b
theorem str_ext {a b : Str} (h : a.cps.toList = b.cps.toList) : a = b := by
  obtain ⟨x⟩ := a
  obtain ⟨y⟩ := b
  have e : x = y := by simpa using congrArg List.toArray h
  rw [e]
theorem leS_anti {a b : Str} (h : leS a b = true) (h' : leS b a = true) : a = b := by
  rw [leS_eq, decide_eq_true_eq] at h h'
  exact str_ext (List.le_antisymm h h')
def ltS (a b : Str) : Prop := a.cps.toList < b.cps.toList
theorem ltS_le {a b : Str} (h : ltS a b) : leS a b = true := by
  rw [leS_eq, decide_eq_true_eq]
  exact List.le_of_lt h
theorem ltS_ne {a b : Str} (h : ltS a b) : a ≠ b := fun e => by
  subst e
  exact List.lt_irrefl _ h
theorem ltS_of {a b : Str} (h : leS a b = true) (n : a ≠ b) : ltS a b := by
  rw [leS_eq, decide_eq_true_eq] at h
  unfold ltS
  by_cases c : a.cps.toList < b.cps.toList
  · exact c
  · exact absurd (str_ext (List.le_antisymm h (List.not_lt.mp c))) n
theorem eqv_str (a b : Str) : PyData.eqv (.str a) (.str b) = decide (a = b) := by
  by_cases e : a = b
  · subst e
    simp [PyData.eqv]
  · simp [PyData.eqv, e]
theorem alike_str (a b : Str) : PySem.W.alike (.str a) (.str b) = true := by simp [PySem.W.alike]
def ltP (p q : Str × Str) : Prop := ltS p.1 q.1 ∨ (p.1 = q.1 ∧ ltS p.2 q.2)
theorem leP_eq (p q : Str × Str) : leP p q = true ↔ ¬ ltP q p := by
  have e : leP p q = !PySem.W.dataLt (dP1 q) (dP1 p) := by
    unfold leP
    rw [PySem.W.dataLe_eq] <;> rfl
  rw [e, PySem.W.dataLt_pair (alike_str _ _) (alike_str _ _), eqv_str, eqv_str, PySem.W.dataLt_str, PySem.W.dataLt_str]
  unfold ltP ltS
  by_cases h1 : q.1 = p.1
  · have n1 : ¬ q.1.cps.toList < p.1.cps.toList := by rw [h1]; exact List.lt_irrefl _
    by_cases h2 : q.2 = p.2
    · have n2 : ¬ q.2.cps.toList < p.2.cps.toList := by rw [h2]; exact List.lt_irrefl _
      simp [h1, h2, n2, List.lt_irrefl]
    · simp [h1, h2, List.lt_irrefl]
  · simp [h1]
theorem leP_anti {p q : Str × Str} (h : leP p q = true) (h' : leP q p = true) : p = q := by
  rw [leP_eq] at h h'
  unfold ltP at h h'
  simp only [not_or, not_and] at h h'
  have e1 : p.1 = q.1 := by
    by_cases c : p.1 = q.1
    · exact c
    · exact absurd (str_ext (List.le_antisymm (List.not_lt.mp h.1) (List.not_lt.mp h'.1))) c
  have e2 : p.2 = q.2 := str_ext (List.le_antisymm (List.not_lt.mp (h.2 e1.symm)) (List.not_lt.mp (h'.2 e1)))
  exact Prod.ext e1 e2
theorem ltS_asymm {a b : Str} (h : ltS a b) (h' : ltS b a) : False := List.lt_irrefl _ (List.lt_trans h h')
theorem ltP_le {p q : Str × Str} (h : ltP p q) : leP p q = true := by
  rw [leP_eq]
  rintro (k | ⟨k1, k2⟩)
  · rcases h with h | ⟨h1, _⟩
    · exact ltS_asymm h k
    · rw [h1] at k
      exact List.lt_irrefl _ k
  · rcases h with h | ⟨_, h2⟩
    · rw [k1] at h
      exact List.lt_irrefl _ h
    · exact ltS_asymm h2 k2
theorem ltP_ne {p q : Str × Str} (h : ltP p q) : p ≠ q := fun e => by
  subst e
  rcases h with h | ⟨_, h⟩ <;> exact List.lt_irrefl _ h
theorem ltP_of {p q : Str × Str} (h : leP p q = true) (n : p ≠ q) : ltP p q := by
  by_cases c : ltP p q
  · exact c
  · exact absurd (leP_anti h ((leP_eq q p).mpr c)) n
theorem leS_total : PySem.W.TotalLe leS := by
  show PySem.W.TotalLe (PySem.W.dataLe false PyData.str)
  unfold PySem.W.dataLe
  exact PySem.W.sortLe_total _ _ _
theorem leP_total : PySem.W.TotalLe leP := by
  show PySem.W.TotalLe (PySem.W.dataLe false dP1)
  unfold PySem.W.dataLe
  exact PySem.W.sortLe_total _ _ _
/-- ascending, without doubles -/
abbrev Asc (ws : List Str) : Prop := ws.Pairwise ltS
abbrev AscP (ps : List (Str × Str)) : Prop := ps.Pairwise ltP
theorem Asc.nodup {ws : List Str} (h : Asc ws) : ws.Nodup := List.Pairwise.imp (fun h => ltS_ne h) h
theorem AscP.nodup {ps : List (Str × Str)} (h : AscP ps) : ps.Nodup := List.Pairwise.imp (fun h => ltP_ne h) h
theorem sort_asc {ws m : List Str} (p : ws.Perm m) (h : Asc m) : ws.mergeSort leS = m :=
  List.Perm.eq_of_pairwise (le := fun a b => leS a b = true) (fun a b _ _ h1 h2 => leS_anti h1 h2) (PySem.W.sort_pairwise leS_total ws) (List.Pairwise.imp (fun h => ltS_le h) h) ((List.mergeSort_perm ws leS).trans p)
theorem sort_ascP {ws m : List (Str × Str)} (p : ws.Perm m) (h : AscP m) : ws.mergeSort leP = m :=
  List.Perm.eq_of_pairwise (le := fun a b => leP a b = true) (fun a b _ _ h1 h2 => leP_anti h1 h2) (PySem.W.sort_pairwise leP_total ws) (List.Pairwise.imp (fun h => ltP_le h) h) ((List.mergeSort_perm ws leP).trans p)
theorem asc_sort {ws : List Str} (h : ws.Nodup) : Asc (ws.mergeSort leS) := by
  have h1 := PySem.W.sort_pairwise leS_total ws
  have h2 : (ws.mergeSort leS).Nodup := (List.mergeSort_perm ws leS).nodup_iff.mpr h
  exact List.Pairwise.imp (fun ⟨a, b⟩ => ltS_of a b) (h1.and h2)
theorem asc_sortP {ws : List (Str × Str)} (h : ws.Nodup) : AscP (ws.mergeSort leP) := by
  have h1 := PySem.W.sort_pairwise leP_total ws
  have h2 : (ws.mergeSort leP).Nodup := (List.mergeSort_perm ws leP).nodup_iff.mpr h
  exact List.Pairwise.imp (fun ⟨a, b⟩ => ltP_of a b) (h1.and h2)
/-- what is sorted, by what it stands for -/
theorem srt_strs (ws : List Str) : (srtBy (ws.map fun x => (V.str x, PyData.str x))).map (·.1) = (ws.mergeSort leS).map V.str := by
  unfold srtBy
  have e := PySem.W.sort_maps (r := leS) (s := PySem.W.dataLe false (fun b : V × PyData => b.2)) (fun x : Str => (V.str x, PyData.str x)) (l := ws) (fun a _ b _ => rfl)
  rw [← e, List.map_map]
  rfl
theorem srt_pairs {K : PySem.W.Frag} {S : List Addr} {H : Hp} : ∀ {qs : List (Str × Str)} {vs : List V}, P2s K S H qs vs → P2s K S H (qs.mergeSort leP) ((srtBy (vs.zip (qs.map dP1))).map (·.1)) := by
  intro qs vs h
  have e := PySem.W.sort_maps (r := PySem.W.dataLe false (fun b : V × (Str × Str) => dP1 b.2)) (s := PySem.W.dataLe false (fun b : V × PyData => b.2)) (fun b : V × (Str × Str) => (b.1, dP1 b.2)) (l := vs.zip qs) (fun a _ b _ => rfl)
  have e1 : (vs.zip qs).map (fun b : V × (Str × Str) => (b.1, dP1 b.2)) = vs.zip (qs.map dP1) := by
    rw [List.zip_map_right]
    rfl
  have e2 := PySem.W.sort_maps (r := PySem.W.dataLe false (fun b : V × (Str × Str) => dP1 b.2)) (s := leP) (fun b : V × (Str × Str) => b.2) (l := vs.zip qs) (fun a _ b _ => rfl)
  have e3 : (vs.zip qs).map (fun b : V × (Str × Str) => b.2) = qs := List.map_snd_zip (Nat.le_of_eq h.length)
  rw [e1] at e
  rw [e3] at e2
  unfold srtBy
  rw [← e, ← e2, List.map_map]
  have all : ∀ b ∈ vs.zip qs, P2 K S H b.2 b.1 := by
    clear e e1 e2 e3
    induction h with
    | nil => intro b hb; cases hb
    | cons h1 _ ih =>
      intro b hb
      rcases List.mem_cons.mp hb with z | z
      · rw [z]; exact h1
      · exact ih b z
  have all2 : ∀ b ∈ (vs.zip qs).mergeSort (PySem.W.dataLe false (fun b : V × (Str × Str) => dP1 b.2)), P2 K S H b.2 b.1 := fun b hb => all b ((List.mergeSort_perm _ _).mem_iff.mp hb)
  generalize (vs.zip qs).mergeSort (PySem.W.dataLe false (fun b : V × (Str × Str) => dP1 b.2)) = bs at all2 ⊢
  clear e e1 e2 e3 all h
  induction bs with
  | nil => exact .nil
  | cons b bs ih => exact .cons (all2 b List.mem_cons_self) (ih fun c hc => all2 c (List.mem_cons_of_mem _ hc))
theorem zip_fst {K : PySem.W.Frag} {S : List Addr} {H : Hp} {qs : List (Str × Str)} {vs : List V} (h : P2s K S H qs vs) : (vs.zip (qs.map dP1)).map (·.1) = vs := by
  rw [List.map_fst_zip]
  rw [List.length_map, h.len]
  exact Nat.le_refl _
theorem zip_snd {K : PySem.W.Frag} {S : List Addr} {H : Hp} {qs : List (Str × Str)} {vs : List V} (h : P2s K S H qs vs) : (vs.zip (qs.map dP1)).map (·.2) = qs.map dP1 := by
  rw [List.map_snd_zip]
  rw [List.length_map, h.len]
  exact Nat.le_refl _
theorem alike_dP1 (p q : Str × Str) : PySem.W.alike (dP1 p) (dP1 q) = true := by simp [PySem.W.alike, PySem.W.alikeAll]
theorem depth_dP1 (p : Str × Str) : (dP1 p).depth ≤ 8 := by simp [PyData.depth, PyData.depthAll]
/-- sorted of a list of texts -/
theorem sorted_ls {K : PySem.W.Frag} {S : List Addr} {H : Hp} {Q : VK} {a : Addr} {ws m : List Str} (h : RL K S H a (ws.map V.str)) (p : ws.Perm m) (hm : Asc m) (hl : ws.length ≤ 10000)
    (q : ∀ p, H p = none → Q (.ref p) (upd H p (.lst (m.map V.str)))) : rSortedD K [.ref a] H Q := by
  refine ⟨a, ws.map fun x => (V.str x, PyData.str x), rfl, ?_, fun b hb => ?_, ?_, ?_, by rw [List.length_map]; exact hl, fun b hb => ?_, fun r hr => ?_⟩
  · rw [List.map_map]; exact h.sq
  · obtain ⟨x, _, rfl⟩ := List.mem_map.mp hb; exact .str x
  · rw [List.map_map]; exact PySem.W.AllAlike.of (enc := PyData.str) (fun a b => alike_str a b)
  · rw [List.map_map]; exact PySem.W.Sortable.others (enc := PyData.str) (fun b => ⟨(fun e => nomatch e), (fun _ e => nomatch e)⟩)
  · obtain ⟨x, _, rfl⟩ := List.mem_map.mp hb; simp [PyData.depth]
  · rw [srt_strs, sort_asc p hm]; exact q r hr
theorem sorted_lp {K : PySem.W.Frag} {S T : List Addr} {H : Hp} {Q : VK} {a : Addr} {xs : List V} {ws m : List (Str × Str)} (h : RL K T H a xs) (hx : P2s K S H ws xs) (p : ws.Perm m) (hm : AscP m) (hl : ws.length ≤ 10000)
    (q : ∀ p ys, H p = none → P2s K S H m ys → Q (.ref p) (upd H p (.lst ys))) : rSortedD K [.ref a] H Q := by
  refine ⟨a, xs.zip (ws.map dP1), rfl, by rw [zip_fst hx]; exact h.sq, fun b hb => ?_, ?_, ?_, ?_, fun b hb => ?_, fun r hr => ?_⟩
  · have al : ∀ {qs : List (Str × Str)} {vs : List V}, P2s K S H qs vs → ∀ b ∈ vs.zip (qs.map dP1), Dp K H b.1 b.2 := by
      intro qs vs h
      induction h with
      | nil => intro b hb; cases hb
      | cons h1 _ ih =>
        intro b hb
        rcases List.mem_cons.mp hb with z | z
        · rw [z]; exact (p2_rp h1).dp
        · exact ih b z
    exact al hx b hb
  · rw [zip_snd hx]; exact PySem.W.AllAlike.of (enc := dP1) alike_dP1
  · rw [zip_snd hx]; exact PySem.W.Sortable.tuples (enc := dP1) (fun b => ⟨_, _, rfl⟩)
  · rw [List.length_zip, List.length_map]; omega
  · have : b.2 ∈ (xs.zip (ws.map dP1)).map (·.2) := List.mem_map.mpr ⟨b, hb, rfl⟩
    rw [zip_snd hx] at this
    obtain ⟨x, _, e⟩ := List.mem_map.mp this
    rw [← e]; exact depth_dP1 x
  · have z := srt_pairs hx
    rw [sort_ascP p hm] at z
    exact q r _ hr z
end Ef
namespace Ef
open PySem PySem.Spec PyProof.Rows L2
open AutoSeq1 (wpAny_loadPart')
/-! ### == and != with an own __eq__ on one side -/
section
variable {P : Program} {w : World} {A : Around} {E : Value → Shared → Prop} {s : Shared}
/-- a foreign object: an instance of the class at C, below no built-in class of interest -/
structure Foreign (P : Program) (w : World) (s : Shared) (t C dx : Addr) : Prop where
  ob : s.heap.get? t = some (PySem.W.instObj C dx)
  no : ∀ T ∈ (["list", "tuple", "dict"] : List String), PySem.W.Looks (model P w) s.heap (isInstance (.ref t) (.type T)) false
abbrev BackN (s : Shared) : Value → Shared → Prop := fun v s' => v = .notImplemented ∧ s' = s
abbrev FinN (P : Program) (w : World) (A : Around) (E : Value → Shared → Prop) (s : Shared) : Fin → Shared → Prop := fun fin s' => match fin with
  | .done f => wants (BackN s) E (.ok f) s'
  | .again c => c.quiet = true ∧ codeAny (model P w) A c (wants (BackN s) E) s'
theorem decl_of {B : Builtin} {a b : Value} {C : Value} (h : ∃ k : Bool → Sem Fin, B ⟨[a, b], []⟩ = (isInstance b C >>= k) ∧ ∀ (M : Model) (A : Around) (E : Value → Shared → Prop) (Q : Fin → Shared → Prop) (s : Shared), Q (.done (.ret .notImplemented)) s → wpAny M A (k false) Q E s)
    (l : PySem.W.Looks (model P w) s.heap (isInstance b C) false) : wpAny (model P w) A.in1 (B ⟨[a, b], []⟩) (FinN P w A E s) (fun e s' => wants (BackN s) E (.error e) s') s := by
  obtain ⟨k, e, hk⟩ := h
  rw [e]
  exact wpAny_bind (l.here (hk _ _ _ _ _ ⟨rfl, rfl⟩))
theorem ret_ni {M : Model} {A : Around} {E : Value → Shared → Prop} {Q : Fin → Shared → Prop} {s : Shared} (q : Q (.done (.ret .notImplemented)) s) : wpAny M A (ret .notImplemented) Q E s := wpAny_pure q
theorem decl_call {T : String} {name : Str} {id : String} {B : Builtin} {a b : Value} (slot : Slot T name id) (hT : s.TypeIs a T) (en : entryFor table id = some B) (ar : argsOk id ⟨[a, b], []⟩)
    (h : wpAny (model P w) A.in1 (B ⟨[a, b], []⟩) (FinN P w A E s) (fun e s' => wants (BackN s) E (.error e) s') s) {Q : Option Value → Shared → Prop} (q : Q none s) : wpAny (model P w) A (tryCompare a name b) Q E s := by
  refine wpAny_tryCompare_declines hT slot ?_
  refine wpAny_mono (wpAny_call (codeAny_call_builtin slot.plain en (slot.check _ _ _ _ _ _ _ _ hT ar h))) (fun v s' z => ?_) fun _ _ z => z
  obtain ⟨rfl, rfl⟩ := z
  exact ⟨rfl, q⟩
/-- the kinds whose own method declines -/
def Kd (v : Value) (T : String) : Prop := T = "NoneType" ∧ v = .none ∨ T = "int" ∧ (∃ i k, v = .int i k) ∨ T = "str" ∧ (∃ i k, v = .str i k) ∨ T = "list" ∨ T = "tuple" ∨ T = "dict"
theorem decl_eq {v : Value} {T : String} {t C dx : Addr} (hT : s.TypeIs v T) (hv : Kd v T) (f : Foreign P w s t C dx)
    {Q : Option Value → Shared → Prop} (q : Q none s) : wpAny (model P w) A (tryCompare v "__eq__" (.ref t)) Q E s := by
  obtain ⟨ho, fl⟩ := f
  rcases hv with ⟨rfl, rfl⟩ | ⟨rfl, i, k, rfl⟩ | ⟨rfl, i, k, rfl⟩ | rfl | rfl | rfl
  · exact decl_call F.slot_NoneType_eq hT F.entry_NoneType_eq (F.args_NoneType_eq_2 _ _) (by exact ret_ni ⟨rfl, rfl⟩) q
  · refine decl_call PySem.F.slot_int_eq hT F.entry_int_eq (F.args_int_eq_2 _ _) ?_ q
    obtain ⟨hp', g, d, tk, os⟩ := s
    wp_walk using wpAny_loadPart' ho, wpAny_load ho; exact ⟨rfl, rfl⟩
  · refine decl_call PySem.F.slot_str_eq hT F.entry_str_eq (F.args_str_eq_2 _ _) ?_ q
    obtain ⟨hp', g, d, tk, os⟩ := s
    wp_walk using wpAny_loadPart' ho, wpAny_load ho; exact ⟨rfl, rfl⟩
  · exact decl_call F.slot_list_eq hT F.entry_list_eq (F.args_list_eq_2 _ _) (decl_of ⟨_, rfl, fun _ _ _ _ _ z => ret_ni z⟩ (fl "list" (by simp))) q
  · exact decl_call F.slot_tuple_eq hT F.entry_tuple_eq (F.args_tuple_eq_2 _ _) (decl_of ⟨_, rfl, fun _ _ _ _ _ z => ret_ni z⟩ (fl "tuple" (by simp))) q
  · exact decl_call F.slot_dict_eq hT F.entry_dict_eq (F.args_dict_eq_2 _ _) (decl_of ⟨_, rfl, fun _ _ _ _ _ z => wpAny_bind (wpAny_rule (ret_ni z))⟩ (fl "dict" (by simp))) q
theorem decl_ne {v : Value} {T : String} {t C dx : Addr} (hT : s.TypeIs v T) (hv : Kd v T) (f : Foreign P w s t C dx)
    {Q : Option Value → Shared → Prop} (q : Q none s) : wpAny (model P w) A (tryCompare v "__ne__" (.ref t)) Q E s := by
  obtain ⟨ho, fl⟩ := f
  rcases hv with ⟨rfl, rfl⟩ | ⟨rfl, i, k, rfl⟩ | ⟨rfl, i, k, rfl⟩ | rfl | rfl | rfl
  · exact decl_call F.slot_NoneType_ne hT F.entry_NoneType_ne (F.args_NoneType_ne_2 _ _) (by exact ret_ni ⟨rfl, rfl⟩) q
  · refine decl_call PySem.F.slot_int_ne hT F.entry_int_ne (F.args_int_ne_2 _ _) ?_ q
    obtain ⟨hp', g, d, tk, os⟩ := s
    wp_walk using wpAny_loadPart' ho, wpAny_load ho; exact ⟨rfl, rfl⟩
  · refine decl_call PySem.F.slot_str_ne hT F.entry_str_ne (F.args_str_ne_2 _ _) ?_ q
    obtain ⟨hp', g, d, tk, os⟩ := s
    wp_walk using wpAny_loadPart' ho, wpAny_load ho; exact ⟨rfl, rfl⟩
  · exact decl_call F.slot_list_ne hT F.entry_list_ne (F.args_list_ne_2 _ _) (decl_of ⟨_, rfl, fun _ _ _ _ _ z => ret_ni z⟩ (fl "list" (by simp))) q
  · exact decl_call F.slot_tuple_ne hT F.entry_tuple_ne (F.args_tuple_ne_2 _ _) (decl_of ⟨_, rfl, fun _ _ _ _ _ z => ret_ni z⟩ (fl "tuple" (by simp))) q
  · exact decl_call F.slot_dict_ne hT F.entry_dict_ne (F.args_dict_ne_2 _ _) (decl_of ⟨_, rfl, fun _ _ _ _ _ z => wpAny_bind (wpAny_rule (ret_ni z))⟩ (fl "dict" (by simp))) q
end
/-- what == and != ask of the class at C; f: its own __eq__ -/
structure OwnE (K : PySem.W.Frag) (C f : Addr) : Prop where
  eq : PySem.W.findIn K (.ref C) "__eq__" = some (some (.ref f))
  fn : PySem.W.isFn K (.ref f) = true
  ne : PySem.W.findIn K (.ref C) "__ne__" = some (some (.builtin "object.__ne__"))
  ob : PySem.W.mroIn K C (.type "object") = some true
  off : ∀ T ∈ (["NoneType", "int", "str", "list", "tuple", "dict"] : List String), PySem.W.mroIn K C (.type T) = some false
theorem kd_mem {v : Value} {T : String} (h : Kd v T) : T ∈ (["NoneType", "int", "str", "list", "tuple", "dict"] : List String) := by
  rcases h with ⟨rfl, _⟩ | ⟨rfl, _⟩ | ⟨rfl, _⟩ | rfl | rfl | rfl <;> simp
theorem sub_T {K : PySem.W.Frag} {T : String} {C : Addr} (h : T ∈ (["NoneType", "int", "str", "list", "tuple", "dict"] : List String)) : PySem.W.subIn K (.type T) (.ref C) = some false := by
  simp only [List.mem_cons, List.not_mem_nil, or_false] at h
  rcases h with rfl | rfl | rfl | rfl | rfl | rfl <;> rfl
section
variable {P : Program} {w : World} {A : Around} {E : Value → Shared → Prop} {s : Shared} {K : PySem.W.Frag} {C f t : Addr} {od : Option Obj} {b : Value}
/-- what the own __eq__ gives when it is called: never NotImplemented -/
def EqRuns (P : Program) (w : World) (A : Around) (E : Value → Shared → Prop) (s : Shared) (f t : Addr) (b : Value) (Q : Bool → Shared → Prop) : Prop :=
  wpAny (model P w) A (call (.ref f) [.ref t, b]) (fun v s' => ∃ r, v = .bool r ∧ Q r s') E s
theorem try_eq {dx : Addr} {Q : Option Value → Shared → Prop} (X : K.In s.heap) (I : PySem.W.InstAt s.heap t (PySem.W.instObj C dx) C od) (o : OwnE K C f)
    (h : EqRuns P w A E s f t b (fun r s' => Q (some (.bool r)) s')) : wpAny (model P w) A (tryCompare (.ref t) "__eq__" b) Q E s := by
  unfold tryCompare
  refine wpAny_bind (PySem.W.ifBound_K X I o.eq o.fn (wpAny_mono h (fun v s' hv => ?_) fun _ _ e => e))
  obtain ⟨r, rfl, q⟩ := hv
  exact wpAny_pure q
theorem ifBound_ne {dx : Addr} {args : List Value} {Q : Option Value → Shared → Prop} (X : K.In s.heap) (I : PySem.W.InstAt s.heap t (PySem.W.instObj C dx) C od) (o : OwnE K C f)
    (h : wpAny (model P w) A (call (.builtin "object.__ne__") (.ref t :: args)) (fun v => Q (some v)) E s) : wpAny (model P w) A (callSpecialIfBound? (.ref t) "__ne__" args) Q E s := by
  simp only [callSpecialIfBound?, bindSpecialIfBound?]
  refine wpAny_holding (wpAny_bind (wpAny_bind (wpAny_bind (I.type.here ((PySem.W.looks_findIn X o.ne).here ?_)))))
  refine wpAny_bind (wpAny_askSetting (wpAny_ite ?_))
  have fin : wpAny (model P w) A (call (.builtin "object.__ne__") ([.ref t] ++ args) >>= fun v => pure (some v)) Q E s := wpAny_bind (wpAny_mono h (fun v s' h' => wpAny_pure h') fun _ _ h' => h')
  have hb : bindSpecial (.builtin "object.__ne__") (.ref t) = pure (.builtin "object.__ne__", [.ref t]) := F.cmp_object.ne.bind _
  split
  · exact wpAny_bind (wpAny_of_eq hb (wpAny_pure (by exact fin)))
  · exact wpAny_tryCatch (wpAny_bind (wpAny_of_eq hb (wpAny_pure (by exact fin))))
theorem try_ne {dx : Addr} {Q : Option Value → Shared → Prop} (hu : A.in1.units < cLine) (X : K.In s.heap) (I : PySem.W.InstAt s.heap t (PySem.W.instObj C dx) C od) (o : OwnE K C f)
    (h : EqRuns P w A.in1 E s f t b (fun r s' => Q (some (.bool (!r))) s')) : wpAny (model P w) A (tryCompare (.ref t) "__ne__" b) Q E s := by
  unfold tryCompare
  refine wpAny_bind (ifBound_ne X I o ?_)
  refine wpAny_call (codeAny_call_builtin F.cmp_object.ne.plain F.cmpEntry_ne (PySem.W.check_slot F.cmpKind_ne F.cmpSplit_ne (I.type.andThen (PySem.W.looks_mroIn X o.ob)) (F.cmpArgs_ne _ _) ?_))
  unfold Builtin.«object.__ne__»
  refine wpAny_bind (wpAny_pure ?_)
  refine wpAny_bind (wpAny_cRoomFor hu ?_)
  refine wpAny_bind (PySem.W.ifBound_K X I o.eq o.fn (wpAny_mono h (fun v s' hv => ?_) fun _ _ e => e))
  obtain ⟨r, rfl, q⟩ := hv
  exact wpAny_bind (wpAny_truthy_bool (wpAny_pure (by exact wpAny_pure q)))
/-- the own method first -/
theorem rc_own {dx : Addr} {tb : Value} {op : CmpOp} {Q : Value → Shared → Prop} (hop : op = .Eq ∨ op = .NotEq) (hu : A.in1.units < cLine) (hu0 : A.units < cLine) (X : K.In s.heap) (I : PySem.W.InstAt s.heap t (PySem.W.instObj C dx) C od) (o : OwnE K C f)
    (hb : PySem.W.Looks (model P w) s.heap (typeOf b) tb) (hn : PySem.W.notFirst K C tb = true)
    (h : EqRuns P w (if op = .Eq then A else A.in1) E s f t b (fun r s' => Q (.bool (if op = .Eq then r else !r)) s')) : wpAny (model P w) A (richCompare op (.ref t) b) Q E s := by
  unfold richCompare
  simp only [oneThing_ref]
  refine wpAny_holding (wpAny_bind (wpAny_cRoomFor hu0 ?_))
  refine wpAny_bind (I.type.here (wpAny_bind (hb.here ?_)))
  have one : wpAny (model P w) A (tryCompare (.ref t) (cmpInfo op).2.1 b) (fun r s' => ∃ v, r = some v ∧ Q v s') E s := by
    rcases hop with rfl | rfl
    · exact try_eq X I o (wpAny_mono h (fun v s' ⟨r, e, q⟩ => ⟨r, e, _, rfl, q⟩) fun _ _ e => e)
    · exact try_ne hu X I o (wpAny_mono h (fun v s' ⟨r, e, q⟩ => ⟨r, e, _, rfl, q⟩) fun _ _ e => e)
  split
  · rename_i q
    have e : PySem.W.subIn K tb (.ref C) = some false := by
      rcases Bool.or_eq_true_iff.mp hn with e | e
      · rw [beq_iff_eq.mp e] at q; simp at q
      · exact beq_iff_eq.mp e
    refine wpAny_bind ((PySem.W.looks_subIn X e).here ?_)
    simp only [Bool.false_eq_true, if_false]
    refine wpAny_bind (wpAny_mono one (fun r s' z => ?_) fun _ _ e => e)
    obtain ⟨v, rfl, hq⟩ := z
    exact wpAny_pure hq
  · refine wpAny_bind (wpAny_pure ?_)
    simp only [Bool.false_eq_true, if_false]
    refine wpAny_bind (wpAny_mono one (fun r s' z => ?_) fun _ _ e => e)
    obtain ⟨v, rfl, hq⟩ := z
    exact wpAny_pure hq
/-- the other one declines, then the own method -/
theorem rc_refl {dx : Addr} {T : String} {v : Value} {op : CmpOp} {Q : Value → Shared → Prop} (hop : op = .Eq ∨ op = .NotEq) (hu : A.in1.units < cLine) (hu0 : A.units < cLine) (X : K.In s.heap) (I : PySem.W.InstAt s.heap t (PySem.W.instObj C dx) C od) (o : OwnE K C f)
    (hT : s.TypeIs v T) (hv : Kd v T)
    (h : EqRuns P w (if op = .Eq then A else A.in1) E s f t v (fun r s' => Q (.bool (if op = .Eq then r else !r)) s')) : wpAny (model P w) A (richCompare op v (.ref t)) Q E s := by
  have fo : Foreign P w s t C dx := ⟨I.at_, fun T hm => I.type.andThen (PySem.W.looks_mroIn X (o.off T (by simp only [List.mem_cons, List.not_mem_nil, or_false] at hm ⊢; rcases hm with rfl | rfl | rfl <;> simp)))⟩
  unfold richCompare
  simp only [hT.oneThing_none]
  refine wpAny_holding (wpAny_bind (wpAny_cRoomFor hu0 ?_))
  refine wpAny_bind (wpAny_typeOf hT (wpAny_bind (I.type.here ?_)))
  have e1 : (Value.type T != Value.ref C) = true := by simp
  simp only [e1, if_true]
  refine wpAny_bind ((PySem.W.looks_mroIn X (o.off T (kd_mem hv))).here ?_)
  simp only [Bool.false_eq_true, if_false]
  rcases hop with rfl | rfl
  · refine wpAny_bind (decl_eq hT hv fo ?_)
    refine wpAny_bind (try_eq X I o (wpAny_mono h (fun v s' ⟨r, e, q⟩ => ⟨r, e, ?_⟩) fun _ _ e => e))
    exact wpAny_pure q
  · refine wpAny_bind (decl_ne hT hv fo ?_)
    refine wpAny_bind (try_ne hu X I o (wpAny_mono h (fun v s' ⟨r, e, q⟩ => ⟨r, e, ?_⟩) fun _ _ e => e))
    exact wpAny_pure q
end
end Ef
namespace Ef
open PySem PySem.Spec PyProof.Rows C8
open L2 hiding E0 CX0 pass0 Fun
/-! ### == and != as rules -/
/-- what kind a value is -/
def KdV (K : PySem.W.Frag) (H : Hp) (y : V) (tb : Value) : Prop :=
  (y = .non ∧ tb = .type "NoneType") ∨ ((∃ i, y = .int i) ∧ tb = .type "int") ∨ ((∃ z, y = .str z) ∧ tb = .type "str") ∨ (∃ a xs, y = .ref a ∧ SqL K H a xs ∧ tb = .type "list") ∨
    (∃ a xs, y = .ref a ∧ SqT K H a xs ∧ tb = .type "tuple") ∨ (∃ a kvs, y = .ref a ∧ H a = some (.dK kvs) ∧ tb = .type "dict") ∨ (∃ a C dx fs, y = .ref a ∧ H a = some (.ins C dx fs) ∧ tb = .ref C)
/-- a built-in thing of the type T -/
def KdB (K : PySem.W.Frag) (H : Hp) (y : V) : Prop :=
  y = .non ∨ (∃ i, y = .int i) ∨ (∃ z, y = .str z) ∨ (∃ a xs, y = .ref a ∧ SqL K H a xs) ∨ (∃ a xs, y = .ref a ∧ SqT K H a xs) ∨ (∃ a kvs, y = .ref a ∧ H a = some (.dK kvs))
section
variable {X : Cx} {pins : List (Addr × Obj)} {σ : L2.St} {H : Hp} {s : Shared} {y : V} {u tb : Value}
theorem kdB_type (I : Inv X pins σ H s) (r : RelV y u) (h : KdB X.K H y) : ∃ T, s.TypeIs u T ∧ Kd u T := by
  rcases h with rfl | ⟨i, rfl⟩ | ⟨z, rfl⟩ | ⟨a, xs, rfl, h⟩ | ⟨a, xs, rfl, h⟩ | ⟨a, kvs, rfl, h⟩
  · cases r; exact ⟨"NoneType", rfl, .inl ⟨rfl, rfl⟩⟩
  · obtain ⟨t, e⟩ := (show ∃ t, u = Value.int i t from r)
    subst e
    exact ⟨"int", rfl, .inr (.inl ⟨rfl, _, _, rfl⟩)⟩
  · obtain ⟨t, e⟩ := (show ∃ t, u = Value.str z t from r)
    subst e
    exact ⟨"str", rfl, .inr (.inr (.inl ⟨rfl, _, _, rfl⟩))⟩
  · cases r
    obtain ⟨its, r, ⟨o, n, e, e2, _⟩, z⟩ := I.list h
    exact ⟨"list", ⟨_, e, e2⟩, .inr (.inr (.inr (.inl rfl)))⟩
  · cases r
    obtain ⟨its, r, e, z⟩ := I.tuple h
    obtain ⟨o, e1, e2, _⟩ := e
    exact ⟨"tuple", ⟨o, e1, e2⟩, .inr (.inr (.inr (.inr (.inl rfl))))⟩
  · cases r
    obtain ⟨_, _, vs, _, D⟩ := (show ObjOk X.prog X.w H s.heap a (.dK kvs) from I.hok _ _ h)
    exact ⟨"dict", D.typeIs, .inr (.inr (.inr (.inr (.inr rfl))))⟩
theorem kdB_notFirst {K : PySem.W.Frag} {C : Addr} {T : String} (h : Kd u T) : PySem.W.notFirst K C (.type T) = true := by
  simp [PySem.W.notFirst, sub_T (kd_mem h)]
/-- the promise of an own __eq__ -/
abbrev EqSp (op : CmpOp) (sp : Sp) (x y : V) (H : Hp) (Q : VK) : Prop := sp [x, y] H (fun v H' => ∃ r, v = .bl r ∧ Q (.bl (if op = .Eq then r else !r)) H') E0
/-- own first: x an instance of the class at C; y anything, an instance of a class not below C -/
def rOwnL (K : PySem.W.Frag) (op : CmpOp) (C : Addr) (sp : Sp) : R2 := fun x y H Q => (∃ a dx fs, x = .ref a ∧ H a = some (.ins C dx fs)) ∧ (KdB K H y ∨ ∃ b C' dy gs, y = .ref b ∧ H b = some (.ins C' dy gs) ∧ PySem.W.notFirst K C (.ref C') = true) ∧ EqSp op sp x y H Q
/-- x a built-in thing, y the instance -/
def rOwnR (K : PySem.W.Frag) (op : CmpOp) (C : Addr) (sp : Sp) : R2 := fun x y H Q => KdB K H x ∧ (∃ a dx fs, y = .ref a ∧ H a = some (.ins C dx fs)) ∧ EqSp op sp y x H Q
variable {k : Nat} {f C : Addr} {sp : Sp}
theorem eq_runs {A : Around} {op : CmpOp} {a : Addr} {Q : VK} (F : FnR X.prog X.w X.K X.mg X.base CX0 k f sp) (hr : Room k A) (hA : A.frames = X.A.frames) (I : Inv X pins σ H s) (r : RelV y u)
    (h : EqSp op sp (.ref a) y H Q) : EqRuns X.prog X.w A X.xe s f a u (fun r s' => EP X pins σ Q (.bool (if op = .Eq then r else !r)) s') := by
  unfold EqRuns
  have e0 : Env0 X.prog X.w X.K X.mg X.base A X.stack s H := by
    have e := I.env0
    exact ⟨by rw [hA]; exact e.frames, e.mod, e.bs, e.bsz, e.funs, e.frf, e.hok, e.bare⟩
  have r2 : Vals [V.ref a, y] [Value.ref a, u] := .cons rfl (.cons r .nil)
  refine wpAny_call (codeAny_mono (F A X.stack s H [.ref a, u] [.ref a, y] _ E0 hr e0 r2 h) fun rr s' hq => ?_)
  cases rr with
  | error e => exact hq.elim
  | ok fl =>
    cases fl with
    | ret w =>
      obtain ⟨z, H', I', rz, b, ez, q⟩ := I.after hq
      subst ez
      cases rz
      exact ⟨b, rfl, V.bl (if op = CmpOp.Eq then b else !b), H', I', rfl, q⟩
    | next => exact False.elim hq
    | brk => exact False.elim hq
    | cont => exact False.elim hq
theorem room_pick {op : CmpOp} {A : Around} (hr : Room (k + 1) A) : Room k (if op = .Eq then A else A.in1) ∧ (if op = .Eq then A else A.in1).frames = A.frames := by
  split
  · exact ⟨hr.mono (Nat.le_succ _), rfl⟩
  · exact ⟨hr.in1, rfl⟩
theorem op_ownL {op : CmpOp} (hop : op = .Eq ∨ op = .NotEq) (hc : ∀ a b, compareOp op a b = richCompare op a b) (o : OwnE X.K C f) (F : FnR X.prog X.w X.K X.mg X.base CX0 k f sp) (hr : Room (k + 1) X.A) : OpR X (compareOp op) (rOwnL X.K op C sp) := by
  intro pins s σ H x y v u Q I rx ry h
  obtain ⟨⟨a, dx, fs, rfl, ha⟩, hy, q⟩ := h
  cases rx
  obtain ⟨mA, J, _⟩ := ins_get I.hok ha
  obtain ⟨od, J, _⟩ := J.look
  obtain ⟨r1, r2⟩ := room_pick (op := op) hr
  have hu : X.A.in1.units < cLine := (hr.in1).units0
  rw [hc]
  rcases hy with hy | ⟨b, C', dy, gs, rfl, hb, hn⟩
  · obtain ⟨T, hT, hk⟩ := kdB_type I ry hy
    exact rc_own hop hu hr.units0 I.kIn J o (fun A Q E s' k q => by
      have : s'.TypeIs u T := by
        cases u <;> first | exact hT | (obtain ⟨o, e, c⟩ := hT; exact ⟨o, k _ _ e, c⟩)
      exact wpAny_typeOf this q) (kdB_notFirst hk) (eq_runs F r1 r2 I ry q)
  · cases ry
    obtain ⟨mB, J', _⟩ := ins_get I.hok hb
    obtain ⟨od', J', _⟩ := J'.look
    exact rc_own hop hu hr.units0 I.kIn J o J'.type hn (eq_runs (y := .ref b) F r1 r2 I rfl q)
theorem op_ownR {op : CmpOp} (hop : op = .Eq ∨ op = .NotEq) (hc : ∀ a b, compareOp op a b = richCompare op a b) (o : OwnE X.K C f) (F : FnR X.prog X.w X.K X.mg X.base CX0 k f sp) (hr : Room (k + 1) X.A) : OpR X (compareOp op) (rOwnR X.K op C sp) := by
  intro pins s σ H x y v u Q I rx ry h
  obtain ⟨hx, ⟨a, dx, fs, rfl, ha⟩, q⟩ := h
  cases ry
  obtain ⟨mA, J, _⟩ := ins_get I.hok ha
  obtain ⟨od, J, _⟩ := J.look
  obtain ⟨r1, r2⟩ := room_pick (op := op) hr
  have hu : X.A.in1.units < cLine := (hr.in1).units0
  obtain ⟨T, hT, hk⟩ := kdB_type I rx hx
  rw [hc]
  exact rc_refl hop hu hr.units0 I.kIn J o hT hk (eq_runs F r1 r2 I rx q)
end
/-- what == and != ask of the class at C, besides its __eq__ -/
structure OwnC (K : PySem.W.Frag) (C : Addr) : Prop where
  ne : PySem.W.findIn K (.ref C) "__ne__" = some (some (.builtin "object.__ne__"))
  ob : PySem.W.mroIn K C (.type "object") = some true
  off : ∀ T ∈ (["NoneType", "int", "str", "list", "tuple", "dict"] : List String), PySem.W.mroIn K C (.type T) = some false
theorem OwnC.own {K : PySem.W.Frag} {C f : Addr} (o : OwnC K C) (m : Meth K C "__eq__" f) : OwnE K C f := ⟨m.at_, m.fn, o.ne, o.ob, o.off⟩
section
variable {X : Cx} {k j : Nat} {C : Addr} {sp : Sp} {op : CmpOp}
theorem ops_own (hop : op = .Eq ∨ op = .NotEq) (hc : ∀ a b, compareOp op a b = richCompare op a b) (o : OwnC X.K C) (c : Met X.prog X.w X.K X.mg X.base k C "__eq__" sp []) (hr : Room j X.A) (hk : k + 1 ≤ j) :
    OpR X (compareOp op) (rOwnL X.K op C sp) ∧ OpR X (compareOp op) (rOwnR X.K op C sp) := by
  obtain ⟨f, fd, ps, ds, hC, hm, F, b, d⟩ := c.ex
  have F' := F.raw b d
  have F2 : FnR X.prog X.w X.K X.mg X.base CX0 k f sp := F'.imp fun vs H Q E h => by rw [List.append_nil]; exact h
  exact ⟨op_ownL hop hc (o.own hm) F2 (hr.mono hk), op_ownR hop hc (o.own hm) F2 (hr.mono hk)⟩
end
end Ef
namespace Ef
open PySem PySem.Spec PyProof.Rows C8
open L2 hiding E0 CX0 pass0 Fun
/-! ### {key: value for target in iter}, the keys tuples of ints and texts -/
section
variable {X : Cx}
theorem dsetT {pins : List (Addr × Obj)} {σ : L2.St} {H : Hp} {s : Shared} {E : Value → Shared → Prop} {D b : Addr} {kvs : List (List L2.Key × V)} {k : List L2.Key} {v : V} {r : Value} {Q : Unit → Shared → Prop} (hu : X.A.units < cLine)
    (I : L2.Inv X pins σ H s) (hD : H D = some (.dT kvs)) (hb : H b = some (.tup (k.map kV))) (hz : kvs.length < sizeLine) (rv : L2.RelV v r)
    (h : ∀ s', L2.Inv X pins σ (upd H D (.dT (putK kvs k v))) s' → Q () s') : wpAny (model X.prog X.w) X.A (dictSet D (.ref b) r) Q E s := by
  obtain ⟨z, hd, xs, rel, dd⟩ := dt_of I.hok hD
  have hn : xs.length ≤ sizeLine := (Paired.length rel) ▸ z
  have hm : (putK kvs k v).length ≤ sizeLine := Nat.le_trans (length_putK kvs k v) hz
  unfold dictSet
  refine wpAny_holding (wpAny_bind ((tupleKind (mixKind X.prog X.w)).pyHash hu (key_of I.hok hb) ?_))
  refine wpAny_dictSetHashed_heap (hsz := hn) hu (key_of I.hok hb) dd fun h' dd' same => h _ ?_
  obtain ⟨q, es, ep, hq, c2, c3, c4, _, c5⟩ := dd'
  exact d_write (I.tok _) (by rw [hD]; exact True.intro) same ⟨q, hq⟩ ⟨hm, hd, _, (rel.put k hb rv).keeps fun c ys ec => by rw [upd_ne (ne_of ec hD (fun z => nomatch z))]; exact ec, q, es, ep, hq, c2, c3, c4, c5⟩
/-- D: the new dict; every turn puts one key, a tuple of ints and texts -/
def tDcT (wi : TI) (g : TG) (tk tv : TE) (vs : List Nat) : TE := fun σ H Q => wi σ H fun J H1 => ∀ D, H1 D = none → ∃ W : Nat → Nat → Hp → Prop, (∃ m, W 0 m (upd H1 D (.dT []))) ∧ ∀ i m H, W i m H →
  (J.stop i H ∧ Q (.ref D) H) ∨ (J.go i H ∧ ∃ N : Hp → Prop, (∀ H', N H' → ∃ m', m' < m ∧ W (i + 1) m' H') ∧ ∀ x H', J.yld i H x H' → g x (wipe σ vs) H' fun σ2 H2 => wipe σ2 vs = wipe σ vs ∧ tk σ2 H2 fun y H4 => tv σ2 H4 fun z H5 =>
    ∃ kvs k b, y = .ref b ∧ H5 b = some (.tup (k.map kV)) ∧ H5 D = some (.dT kvs) ∧ kvs.length < sizeLine ∧ N (upd H5 D (.dT (putK kvs k z))))
/-- the block's places, where it stands -/
abbrev BlkAll (X : Cx) (scope : Scope) (F : Cx → Prop) : Prop := ∀ (s : Shared) (H : Hp) (C : Addr) (cl : List (Str × Addr)) (fp : List Addr), F (X.blk s H scope (compEnvC scope cl C X.env) fp)
theorem pe_dcT {kx vx tg iter : Expr} {scope : Scope} {own : List (Str × Nat)} {pos : Pos} {wi : TI} {g : TG} {tk tv : TE} (hu : X.A.units < cLine) (hc : X.calm = true) (hN : X.N.Nodup) (hi : PI X tg iter wi) (ok : BlkOk X.N X.env.scope scope own)
    (hg : BlkAll X scope fun Y => PG Y tg g) (hk : BlkAll X scope fun Y => PE Y kx tk) (he : BlkAll X scope fun Y => PE Y vx tv) (hs : ∀ x, foldedSetIterable iter X.env x = pure x := by intro _; rfl) :
    PE X (.DictComp kx vx [⟨tg, iter, [], 0⟩] scope pos) (tDcT wi g tk tv (own.map (·.2))) := by
  refine ⟨fun pins s σ H Q I h => ?_⟩
  rw [arm_eval_DictComp]
  have cells : ∀ y ∈ scope.names, y.2 = .free → ∃ c, X.env.cells.lookup y.1 = some c := fun y hy e => I.ok.has _ ((ok.free y hy e).elim Or.inl Or.inr)
  refine wpAny_comprehension_free rfl hs (closure_ok cells) ok.kind (fun y hy e => by rw [ok.uniq y hy, e]) (thn (hi.run pins s σ H _ I h) fun xv sA hx => thn hx fun itv sB hB => ?_)
  obtain ⟨it, fp, tn, J, H2, rfl, I2, T, stB, frB, q⟩ := hB
  refine wpAny_newObj_type (newEnv_comp ?_)
  generalize eD : sB.heap.objs.size = D
  obtain ⟨W, ⟨m0, w0⟩, turn⟩ := q D (I2.hok.fresh (Nat.le_of_eq eD))
  generalize eC : ({ sB with heap := sB.heap.push { cls := .type "dict", data := .dict #[] } } : Shared) = sC
  have hpC : sC.heap = sB.heap.push { cls := .type "dict", data := .dict #[] } := by rw [← eC]
  have low : ∀ b ∈ fp, b < sB.heap.objs.size := fun b hb => (T.obj _ _ stB b hb).elim fun o e => Heap.lt_size e.1
  have I3 : L2.Inv X pins σ (upd H2 D (.dT [])) sC := by
    rw [← eC]
    exact I2.laid (t' := sB.toks) (fun b o e => Heap.get?_push_of_some _ e) (Nat.le_of_eq eD) (by rw [← eD]; exact dt_empty sB.heap I2.big)
  have frC : ∀ b ∈ fp, FpOk X pins (upd H2 D (.dT [])) b ∧ b < sC.heap.objs.size := fun b hb =>
    ⟨⟨(upd_ne (by rw [← eD]; exact Nat.ne_of_lt (low b hb))).trans (frB b hb).1, (frB b hb).2⟩, by rw [hpC, Heap.size_push]; exact Nat.lt_succ_of_lt (low b hb)⟩
  have stC : tn 0 sC.heap := T.keep _ _ _ stB fun b _ o e => by rw [hpC]; exact Heap.get?_push_of_some _ e
  have I4 := block_start I3 ok hN frC
  have pg := hg sC (upd H2 D (.dT [])) sC.heap.objs.size (cellsFrom (sC.heap.objs.size + 1) scope.names (cloFrom X.env.cells scope.names [])) fp
  have pk := hk sC (upd H2 D (.dT [])) sC.heap.objs.size (cellsFrom (sC.heap.objs.size + 1) scope.names (cloFrom X.env.cells scope.names [])) fp
  have pv := he sC (upd H2 D (.dT [])) sC.heap.objs.size (cellsFrom (sC.heap.objs.size + 1) scope.names (cloFrom X.env.cells scope.names [])) fp
  show codeAny _ _ (.compStart (.DictComp kx vx [⟨tg, iter, [], 0⟩] scope pos) 0 (.ref it) (.ref D) (compEnvC scope (cellsFrom (sC.heap.objs.size + 1) scope.names (cloFrom X.env.cells scope.names [])) sC.heap.objs.size X.env)) _ { sC with heap := pushCells (sC.heap.push { cls := .type "dict", data := .dict #[] }) scope.names }
  have none3 : ∀ b ∈ fp, (upd H2 D (.dT [])) b = none := fun b hb => (frC b hb).1.1
  generalize eE : compEnvC scope (cellsFrom (sC.heap.objs.size + 1) scope.names (cloFrom X.env.cells scope.names [])) sC.heap.objs.size X.env = ce at I4 pg pk pv ⊢
  have atL : ce.locals = sC.heap.objs.size := by rw [← eE]; rfl
  generalize eH : upd H2 D (.dT []) = H3 at I3 I4 pg pk pv w0 none3 frC
  generalize eS : ({ sC with heap := pushCells (sC.heap.push { cls := .type "dict", data := .dict #[] }) scope.names } : Shared) = sD at I4 ⊢
  have stD : tn 0 sD.heap := T.keep _ _ _ stC fun b _ o e => by rw [← eS]; exact pushCells_keeps _ _ _ _ (Heap.get?_push_of_some _ e)
  have still : ∀ {τ : L2.St} {G : Hp} {z : Shared}, L2.Inv (X.blk sC H3 scope ce fp) [] τ G z → (∀ b ∈ fp, G b = none) → ∀ b ∈ fp, FpOk (X.blk sC H3 scope ce fp) [] G b := fun J' hn b hb =>
    ⟨hn b hb, (J'.ok.exf b hb).1, J'.ok.exfs b hb, .inl hb, fun x c e => (J'.ok.exf b hb).2 x c e, fun p hp => by simp at hp⟩
  refine codeAny_compStart_dict ?_ (T.self X.A 0 _ _ _ stD ?_) <;>
  · refine compLoop_anyD (fun n z => ∃ i G, L2.Inv (X.blk sC H3 scope ce fp) [] (wipe σ (own.map (·.2))) G z ∧ tn i z.heap ∧ (∀ b ∈ fp, G b = none) ∧ W i n G) ?_ m0 ⟨0, H3, I4, stD, none3, w0⟩
    rintro n z5 ⟨i, H5, I5, st5, n5, w5⟩
    rcases turn i n H5 w5 with ⟨stop, qq⟩ | ⟨go, N, hN', step⟩
    · refine thnF (T.done (X.blk sC H3 scope ce fp) rfl rfl rfl hc i [] z5 _ H5 (fun _ _ => False) I5 (still I5 n5) st5 stop) fun r z6 ⟨hr, I6⟩ => ?_
      subst hr
      have I7 : L2.Inv X pins σ H5 z6 := I3.call' (ch := fp) I6.os I6.base I6.hok I6.bare fun b hb => ⟨(frC b hb).1.2.2.2.1, (frC b hb).1.2.1, (frC b hb).1.2.2.2.2.1, (frC b hb).1.2.2.2.2.2⟩
      have fr : H5 sC.heap.objs.size = none := by rw [← atL]; exact I6.free
      obtain ⟨m, hn, _⟩ := I6.loc
      have hn : z6.heap.Ns sC.heap.objs.size m := by rw [← atL]; exact hn
      refine ⟨m, hn, fun h'' sb => ?_⟩
      obtain ⟨f0, f1, f2, f3, f4, f5⟩ := I3.fpOk (Nat.le_refl _) fr
      exact ⟨.ref D, H5, I7.turned (t' := z6.toks) (fun b o hb e => (sb.2 b hb).trans e) f0 f1 f3 f4 f5, rfl, qq⟩
    · refine thnF (T.item (X.blk sC H3 scope ce fp) rfl rfl rfl hc i [] z5 _ H5 (fun _ _ => False) I5 (still I5 n5) st5 go) fun r z6 ⟨u, hr, h6⟩ => ?_
      subst hr
      refine thnF h6 fun _ z7 ⟨x, H7, I7, r7, y7, st7, n7⟩ => ?_
      refine thnF (pg.run _ z7 _ H7 x u _ (I7.pinned (still I7 n7) (T.obj _ _ st7)) r7 (step x H7 y7)) fun _ z8 ⟨σ8, H8, I8, hw8, q8⟩ => ?_
      refine wpAny_pure ?_
      simp only [if_true]
      refine thnF (pk.run _ z8 σ8 H8 _ I8 q8) fun z sE ⟨yk, HE, IE, rE, qE⟩ => ?_
      refine thnF (pv.run _ sE σ8 HE _ IE qE) fun z2 sF ⟨yv, HF, IF, rF, kvs, k, b, ek, eb, eDD, hz, nx⟩ => ?_
      subst ek
      cases rE
      refine dsetT (X := X.blk sC H3 scope ce fp) hu IF eDD eb hz rF fun sG IG => ?_
      obtain ⟨m', hm, w'⟩ := hN' _ nx
      have pin' : ∀ b ∈ fp, ∀ o, z7.heap.get? b = some o → sG.heap.get? b = some o ∧ (upd HF D (.dT (putK kvs k yv))) b = none := fun b hb o e =>
        have z := IG.pin (b, o) (List.mem_append_right _ (List.mem_append_right _ (mem_pinsAt hb e)))
        ⟨z.1, z.2.1⟩
      refine ⟨m', hm, i + 1, _, (IG.unpinned (pins := [])).weak (by rw [← hw8, wipe_length]) (fun j v e => (wipe_some (hw8 ▸ e)).1), T.keep _ _ _ st7 fun b hb o e => (pin' b hb o e).1, fun b hb => ?_, w'⟩
      exact (T.obj _ _ st7 b hb).elim fun o e => (pin' b hb o e.1).2
end
end Ef
namespace Ef
open PySem PySem.Spec PyProof.Rows C8
open L2 hiding E0 CX0 pass0 Fun
/-! ### list(zip(a, b)) of two lists -/
section
variable {P : Program} {w : World} {A : Around} {E : Value → Shared → Prop} {s : Shared}
theorem alive_ok {M : Model} {a : Addr} {Q : Option Obj → Shared → Prop} (h : Q (s.heap.get? a) s) : wpAny M A (loadIfAlive a) Q E s := fun Γ p _ => by
  show Sem.wp M Γ (.loadIfAlive a .pure) _ _ p s
  rw [Sem.wp_loadIfAlive]
  exact h
/-- a zip whose last tuple is at T -/
abbrev ZipB (h : Heap) (z TI TO T : Addr) (b : Bool) : Prop :=
  h.get? z = some { cls := .type "zip", dict := none, data := .fields #[rawInt T, .bool b, .bool false, .ref TI, .ref TO], slots := #[] }
theorem free_no {z TI TO T : Addr} {b : Bool} {o : Obj} {Q : Bool → Shared → Prop} (hz : ZipB s.heap z TI TO T b) (hT : s.heap.get? T = some o)
    (hQ : ∀ h', ZipB h' z TI TO T true → Heap.SameBut z s.heap h' → Q false { s with heap := h' }) : wpAny (model P w) A (Builtin.SmallTypes.ownedTupleIsFree (.ref z)) Q E s := by
  unfold Builtin.SmallTypes.ownedTupleIsFree
  refine wpAny_bind (wpAny_field hz rfl (x := rawInt T) rfl ?_)
  show wpAny _ _ (loadIfAlive ((T : Int).toNat) >>= _) _ _ _
  refine wpAny_bind (alive_ok ?_)
  rw [Int.toNat_natCast, hT]
  simp only [Option.isNone_some, Bool.false_eq_true, if_false]
  refine wpAny_bind (wpAny_field hz rfl (x := .bool b) rfl ?_)
  cases b with
  | true => exact wpAny_pure (hQ s.heap hz ⟨rfl, fun _ _ => rfl⟩)
  | false => exact wpAny_bind (wpAny_setField_rec hz (by simp) fun h' hz' hs => wpAny_pure (hQ h' hz' hs))
theorem zip_more {z TI TO T i1 i2 l1 l2 : Addr} {k : Nat} {b : Bool} {xs ys : Array Value} {x y : Value} {o : Obj} {Q : Value → Shared → Prop} (D : ZipApart z TI TO i1 i2 l1 l2)
    (hz : ZipB s.heap z TI TO T b) (hT : s.heap.get? T = some o) (hTI : IsPair s.heap TI (.ref i1) (.ref i2))
    (h1 : s.heap.IsListIter i1 l1 k) (h2 : s.heap.IsListIter i2 l2 k) (hl1 : s.heap.IsList l1 xs) (hl2 : s.heap.IsList l2 ys) (hx : xs[k]? = some x) (hy : ys[k]? = some y)
    (hQ : ∀ h', ZipB h' z TI TO T true → h'.IsListIter i1 l1 (k + 1) → h'.IsListIter i2 l2 (k + 1) → IsPair h' s.heap.objs.size x y → h'.objs.size = s.heap.objs.size + 1 →
      (∀ c o, c ≠ z → c ≠ i1 → c ≠ i2 → s.heap.get? c = some o → h'.get? c = some o) → Q (.ref s.heap.objs.size) { s with heap := h' }) :
    wpAny (model P w) A (Builtin.«zip.__next__» ⟨[.ref z], []⟩) (fun fin s' => ∃ v, fin = .done (.ret v) ∧ Q v s') E s := by
  show wpAny _ _ (field (.ref z) 2 >>= _) _ _ _
  refine wpAny_bind (wpAny_field hz rfl (x := .bool false) rfl ?_)
  show wpAny _ _ (field (.ref z) 3 >>= _) _ _ _
  refine wpAny_bind (wpAny_field hz rfl (x := .ref TI) rfl ?_)
  refine wpAny_bind (wpAny_seqItems hTI rfl ?_)
  show wpAny _ _ (Builtin.SmallTypes.ownedTupleIsFree (.ref z) >>= _) _ _ _
  refine wpAny_bind (free_no hz hT fun ha za sa => ?_)
  simp only [Bool.false_eq_true, if_false]
  refine wpAny_bind ?_
  simp only [← Array.forIn_toList, List.forIn_cons, List.forIn_nil]
  refine wpAny_bind (wpAny_bind (wpAny_holding ?_))
  show wpAny _ _ (Builtin.SmallTypes.nextOf (.ref i1) >>= _) _ _ _
  refine wpAny_bind (wpAny_nextOf_list_item (h1.extBut sa.extBut D.i1z) (hl1.extBut sa.extBut D.l1z) hx fun hb n1 sb => wpAny_pure ?_)
  refine wpAny_pure ?_
  refine wpAny_bind (wpAny_bind (wpAny_holding ?_))
  show wpAny _ _ (Builtin.SmallTypes.nextOf (.ref i2) >>= _) _ _ _
  refine wpAny_bind (wpAny_nextOf_list_item ((h2.extBut sa.extBut D.i2z).extBut sb.extBut D.i12.symm) ((hl2.extBut sa.extBut D.l2z).extBut sb.extBut D.l2i1) hy fun hc n2 sc => wpAny_pure ?_)
  refine wpAny_pure (wpAny_pure ?_)
  refine wpAny_bind (wpAny_newTuple (hsz := (by decide : 2 ≤ sizeLine)) ?_)
  have hsz : hc.objs.size = s.heap.objs.size := by rw [sc.1, sb.1, sa.1]
  have zc : ZipB hc z TI TO T true := sc.extBut _ _ D.i2z.symm (sb.extBut _ _ D.i1z.symm za)
  have n1c : hc.IsListIter i1 l1 (k + 1) := n1.extBut sc.extBut D.i12
  refine wpAny_pure ⟨_, rfl, ?_⟩
  show Q (.ref hc.objs.size) _
  have hp : IsPair (hc.push { cls := .type "tuple", data := .seq #[x, y] }) hc.objs.size x y := Heap.get?_push_size _ rfl
  have e1 := hQ (hc.push { cls := .type "tuple", data := .seq #[x, y] }) (Heap.get?_push_of_some _ zc) (n1c.at fun o e => Heap.get?_push_of_some _ e) (n2.at fun o e => Heap.get?_push_of_some _ e)
    (by rw [← hsz]; exact hp) (by rw [Heap.size_push, hsz]) fun c o c1 c2 c3 e => Heap.get?_push_of_some _ (sc.extBut _ _ c3 (sb.extBut _ _ c2 (sa.extBut _ _ c1 e)))
  rw [hsz]
  exact e1
theorem zip_stop {z TI TO T i1 i2 l1 l2 : Addr} {k : Nat} {b : Bool} {xs ys : Array Value} {o : Obj} {Q : Fin → Shared → Prop} (hh : A.handled = none) (D : ZipApart z TI TO i1 i2 l1 l2)
    (hz : ZipB s.heap z TI TO T b) (hT : s.heap.get? T = some o) (hTI : IsPair s.heap TI (.ref i1) (.ref i2))
    (h1 : s.heap.IsListIter i1 l1 k) (h2 : s.heap.IsListIter i2 l2 k) (hl1 : s.heap.IsList l1 xs) (hl2 : s.heap.IsList l2 ys) (hx : xs[k]? = none ∨ ys[k]? = none)
    (hE : ∀ h' e, (∀ c o, c ≠ z → c ≠ i1 → c ≠ i2 → s.heap.get? c = some o → h'.get? c = some o) → (∃ o, h'.get? e = some o ∧ o.cls = .type "StopIteration") → E (.ref e) { s with heap := h' }) :
    wpAny (model P w) A (Builtin.«zip.__next__» ⟨[.ref z], []⟩) Q E s := by
  show wpAny _ _ (field (.ref z) 2 >>= _) _ _ _
  refine wpAny_bind (wpAny_field hz rfl (x := .bool false) rfl ?_)
  show wpAny _ _ (field (.ref z) 3 >>= _) _ _ _
  refine wpAny_bind (wpAny_field hz rfl (x := .ref TI) rfl ?_)
  refine wpAny_bind (wpAny_seqItems hTI rfl ?_)
  show wpAny _ _ (Builtin.SmallTypes.ownedTupleIsFree (.ref z) >>= _) _ _ _
  refine wpAny_bind (free_no hz hT fun ha za sa => ?_)
  simp only [Bool.false_eq_true, if_false]
  refine wpAny_bind ?_
  simp only [← Array.forIn_toList, List.forIn_cons, List.forIn_nil]
  refine wpAny_bind (wpAny_bind (wpAny_holding ?_))
  show wpAny _ _ (Builtin.SmallTypes.nextOf (.ref i1) >>= _) _ _ _
  cases ex : xs[k]? with
  | none =>
    refine wpAny_bind (wpAny_nextOf_list_end hh (h1.extBut sa.extBut D.i1z) (hl1.extBut sa.extBut D.l1z) ex fun hb e sb he => ?_)
    exact hE hb e (fun c o c1 c2 _ x => sb _ _ c2 (sa.extBut _ _ c1 x)) he
  | some x =>
    have ey : ys[k]? = none := by rcases hx with h | h; rw [ex] at h; cases h; exact h
    refine wpAny_bind (wpAny_nextOf_list_item (h1.extBut sa.extBut D.i1z) (hl1.extBut sa.extBut D.l1z) ex fun hb n1 sb => wpAny_pure ?_)
    refine wpAny_pure ?_
    refine wpAny_bind (wpAny_bind (wpAny_holding ?_))
    show wpAny _ _ (Builtin.SmallTypes.nextOf (.ref i2) >>= _) _ _ _
    refine wpAny_bind (wpAny_nextOf_list_end hh ((h2.extBut sa.extBut D.i2z).extBut sb.extBut D.i12.symm) ((hl2.extBut sa.extBut D.l2z).extBut sb.extBut D.l2i1) ey fun hc e sc he => ?_)
    exact hE hc e (fun c o c1 c2 c3 x => sc _ _ c3 (sb.extBut _ _ c2 (sa.extBut _ _ c1 x))) he
theorem next_more {z TI TO T i1 i2 l1 l2 : Addr} {k : Nat} {b : Bool} {xs ys : Array Value} {x y : Value} {o : Obj} {Q : Option Value → Shared → Prop} (D : ZipApart z TI TO i1 i2 l1 l2)
    (hz : ZipB s.heap z TI TO T b) (hT : s.heap.get? T = some o) (hTI : IsPair s.heap TI (.ref i1) (.ref i2))
    (h1 : s.heap.IsListIter i1 l1 k) (h2 : s.heap.IsListIter i2 l2 k) (hl1 : s.heap.IsList l1 xs) (hl2 : s.heap.IsList l2 ys) (hx : xs[k]? = some x) (hy : ys[k]? = some y)
    (hQ : ∀ h', ZipB h' z TI TO T true → h'.IsListIter i1 l1 (k + 1) → h'.IsListIter i2 l2 (k + 1) → IsPair h' s.heap.objs.size x y → h'.objs.size = s.heap.objs.size + 1 →
      (∀ c o, c ≠ z → c ≠ i1 → c ≠ i2 → s.heap.get? c = some o → h'.get? c = some o) → Q (some (.ref s.heap.objs.size)) { s with heap := h' }) :
    wpAny (model P w) A (pyNext (.ref z)) Q E s := by
  have ty : s.TypeIs (.ref z) "zip" := ⟨_, hz, rfl⟩
  unfold pyNext
  refine wpAny_bind (wpAny_attempt (wpAny_callSpecial?_slot (name := Str.ofString "__next__") ty F.slot_zip_next (wpAny_call_entry F.slot_zip_next ty F.entry_zip_next ?_ (F.args_zip_next_1 _))))
  exact zip_more D hz hT hTI h1 h2 hl1 hl2 hx hy fun h' a1 a2 a3 a4 a5 a6 => wpAny_pure (hQ h' a1 a2 a3 a4 a5 a6)
theorem next_stop {z TI TO T i1 i2 l1 l2 : Addr} {k : Nat} {b : Bool} {xs ys : Array Value} {o : Obj} {Q : Option Value → Shared → Prop} (hh : A.handled = none) (D : ZipApart z TI TO i1 i2 l1 l2)
    (hz : ZipB s.heap z TI TO T b) (hT : s.heap.get? T = some o) (hTI : IsPair s.heap TI (.ref i1) (.ref i2))
    (h1 : s.heap.IsListIter i1 l1 k) (h2 : s.heap.IsListIter i2 l2 k) (hl1 : s.heap.IsList l1 xs) (hl2 : s.heap.IsList l2 ys) (hx : xs[k]? = none ∨ ys[k]? = none)
    (hQ : ∀ h', (∀ c o, c ≠ z → c ≠ i1 → c ≠ i2 → s.heap.get? c = some o → h'.get? c = some o) → Q none { s with heap := h' }) : wpAny (model P w) A (pyNext (.ref z)) Q E s := by
  have ty : s.TypeIs (.ref z) "zip" := ⟨_, hz, rfl⟩
  unfold pyNext
  refine wpAny_bind (wpAny_attempt (wpAny_callSpecial?_slot (name := Str.ofString "__next__") ty F.slot_zip_next (wpAny_call_entry F.slot_zip_next ty F.entry_zip_next ?_ (F.args_zip_next_1 _))))
  refine zip_stop hh D hz hT hTI h1 h2 hl1 hl2 hx fun h' e hk he => ?_
  obtain ⟨oe, ho, hc⟩ := he
  exact wpAny_bind (wpAny_isInstance (T := "StopIteration") (b := true) ⟨oe, ho, hc⟩ isSubtype_stop (wpAny_pure (hQ _ hk)))
theorem nlt {a b : Nat} (h : a < b) : a < b := h
theorem nle {a b : Nat} (h : a ≤ b) : a ≤ b := h
theorem nne {a b : Nat} (h : a = b → False) : ¬ a = b := h
theorem far {a b lo : Nat} (h1 : lo ≤ a) (h2 : b < lo) : a ≠ b := by omega
/-- the zip as it stands at the i-th turn of list.extend; tz: where the first tuple lies -/
structure ZAt (s : Shared) (z TI TO i1 i2 l1 l2 : Addr) (xs ys : Array Value) (tz : Option Addr) (i : Nat) : Prop where
  zip : match tz with
    | none => i = 0 ∧ IsZip s.heap z TI TO .none ∧ ∃ a b, IsPair s.heap TO a b
    | some T => (∃ b, ZipB s.heap z TI TO T b) ∧ ∃ o, s.heap.get? T = some o
  ti : IsPair s.heap TI (.ref i1) (.ref i2)
  h1 : s.heap.IsListIter i1 l1 i
  h2 : s.heap.IsListIter i2 l2 i
  l1 : s.heap.IsList l1 xs
  l2 : s.heap.IsList l2 ys
/-- the tuples made so far -/
def Made (h : Heap) (lo : Nat) (xs ys acc : Array Value) : Prop :=
  ∀ (j : Nat) (v : Value), acc[j]? = some v → ∃ T x y, v = .ref T ∧ lo ≤ T ∧ IsPair h T x y ∧ xs[j]? = some x ∧ ys[j]? = some y ∧ ∀ (j' : Nat), acc[j']? = some v → j' = j
theorem zip_loop {z TI TO i1 i2 l1 l2 S lo : Addr} {xs ys : Array Value} {res : Value} {R : Result → Shared → Prop} {s0 : Shared} (hh : A.handled = none) (D : ZipApart z TI TO i1 i2 l1 l2) {nn : Nat} (hsx : nn ≤ xs.size) (hsy : nn ≤ ys.size) (hend : xs[nn]? = none ∨ ys[nn]? = none) (hn : nn ≤ sizeLine)
    (hS : S ≠ z ∧ S ≠ TI ∧ S ≠ TO ∧ S ≠ i1 ∧ S ≠ i2 ∧ S ≠ l1 ∧ S ≠ l2) (low : lo ≤ s0.heap.objs.size)
    (hR : ∀ h' acc c, (∀ c o, c ∉ [z, TO, i1, i2, S] → s0.heap.get? c = some o → h'.get? c = some o) → h'.get? S = some { cls := .type "list", dict := none, data := .seq acc c, slots := #[] } → acc.size = nn → Made h' lo xs ys acc → R (.ok (.ret res)) { s0 with heap := h' }) :
    ∀ (k i : Nat) (h : Heap) (acc : Array Value) (c : Nat) (tz : Option Addr), nn - i = k → i ≤ nn → s0.heap.objs.size ≤ h.objs.size → ZAt { s0 with heap := h } z TI TO i1 i2 l1 l2 xs ys tz i →
      (∀ c o, c ∉ [z, TO, i1, i2, S] → s0.heap.get? c = some o → h.get? c = some o) → h.get? S = some { cls := .type "list", dict := none, data := .seq acc c, slots := #[] } → acc.size = i → Made h lo xs ys acc → S < lo →
      (∀ a ∈ [z, TI, TO, i1, i2, l1, l2], a < lo) → (∀ T, tz = some T → lo ≤ T) →
      codeAny (model P w) A (.builtin "list.extend.loop" ⟨[.ref S, .ref z, res], []⟩) R { s0 with heap := h } := by
  intro k
  induction k with
  | zero =>
    intro i h acc c tz hk hi hge Z kp eS ha hm hSl hlo hT
    have hie : i = nn := by omega
    subst hie
    refine codeAny_builtin F.entry_extend_loop ?_
    rw [Around.under_plainId F.plain_extend_loop _]
    show wpAny _ A.in1 (pyNext (.ref z) >>= _) _ _ _
    have fin : ∀ h' : Heap, (∀ c o, c ∉ [z, TO, i1, i2] → h.get? c = some o → h'.get? c = some o) → wpAny (model P w) A.in1 (ret res) (fun fin s' => match fin with
        | .done f => R (.ok f) s'
        | .again c' => c'.quiet = true ∧ codeAny (model P w) A c' R s') (fun e s' => R (.error e) s') { s0 with heap := h' } := fun h' hk' => by
      refine wpAny_pure (hR h' acc c (fun c o hc e => hk' c o (fun q => hc (by simp at q ⊢; rcases q with q | q | q | q <;> simp [q])) (kp c o hc e)) (hk' S _ (by simp [hS.1, hS.2.2.1, hS.2.2.2.1, hS.2.2.2.2.1]) eS) ha fun j v e => ?_)
      obtain ⟨T, x, y, e1, e2, e3, e4⟩ := hm j v e
      refine ⟨T, x, y, e1, e2, hk' T _ (fun q => ?_) e3, e4⟩
      exact far e2 (hlo T (by simp at q ⊢; rcases q with q | q | q | q <;> simp [q])) rfl
    obtain ⟨zp, ti, h1, h2, l1', l2'⟩ := Z
    cases tz with
    | none =>
      obtain ⟨hi0, hz, a, b, hTO⟩ := zp
      exact wpAny_bind (wpAny_pyNext_zip_end hh D hz ti hTO h1 h2 l1' l2' hend fun h' hk' => fin h' fun c o hc e => hk' c o (fun q => hc (by simp [q])) (fun q => hc (by simp [q])) (fun q => hc (by simp [q])) (fun q => hc (by simp [q])) e)
    | some T =>
      obtain ⟨⟨b, hz⟩, o, hT'⟩ := zp
      exact wpAny_bind (next_stop hh D hz hT' ti h1 h2 l1' l2' hend fun h' hk' => fin h' fun c o hc e => hk' c o (fun q => hc (by simp [q])) (fun q => hc (by simp [q])) (fun q => hc (by simp [q])) e)
  | succ k ih =>
    intro i h acc c tz hk hi hge Z kp eS ha hm hSl hlo hT
    have hlt : i < xs.size := by omega
    have hlt2 : i < ys.size := by omega
    have ex : xs[i]? = some xs[i] := Array.getElem?_eq_getElem hlt
    have ey : ys[i]? = some ys[i] := Array.getElem?_eq_getElem hlt2
    refine codeAny_builtin F.entry_extend_loop ?_
    rw [Around.under_plainId F.plain_extend_loop _]
    show wpAny _ A.in1 (pyNext (.ref z) >>= _) _ _ _
    obtain ⟨zp, ti, h1, h2, l1', l2'⟩ := Z
    have hnew : ∀ {c : Addr} {o : Obj}, h.get? c = some o → h.objs.size ≠ c := fun e => Nat.ne_of_gt (Heap.lt_size e)
    have go : ∀ (h' : Heap) (T' : Addr) (b' : Bool), ZipB h' z TI TO T' b' → (∃ o, h'.get? T' = some o) → lo ≤ T' → h'.IsListIter i1 l1 (i + 1) → h'.IsListIter i2 l2 (i + 1) → IsPair h' h.objs.size xs[i] ys[i] → h'.objs.size = h.objs.size + 1 →
        (∀ c o, c ∉ [z, TO, i1, i2] → h.get? c = some o → h'.get? c = some o) → wpAny (model P w) A.in1 (updateSeq S (·.push (.ref h.objs.size)) >>= fun _ => again (.builtin "list.extend.loop" ⟨[.ref S, .ref z, res], []⟩)) (fun fin s' => match fin with
        | .done f => R (.ok f) s'
        | .again c' => c'.quiet = true ∧ codeAny (model P w) A c' R s') (fun e s' => R (.error e) s') { s0 with heap := h' } := fun h' T' b' z' t' lT n1 n2 pr sz kp' => by
      have eS' := kp' S _ (by simp [hS.1, hS.2.2.1, hS.2.2.2.1, hS.2.2.2.2.1]) eS
      refine wpAny_bind (wpAny_updateSeq eS' rfl (wpAny_pure ⟨plainId_quiet F.plain_extend_loop _, ?_⟩) (by rw [ha]; omega) (by show (acc.push _).size ≤ sizeLine + 1; rw [Array.size_push, ha]; omega))
      have oth : ∀ c o, c ≠ S → h'.get? c = some o → (h'.update S (Obj.mapSeq (·.push (.ref h.objs.size)))).get? c = some o := fun c o hc e => (Heap.get?_update_other _ _ (Ne.symm hc)).trans e
      have hge' : lo ≤ h.objs.size := Nat.le_trans low hge
      refine ih (i + 1) (h'.update S (Obj.mapSeq (·.push (.ref h.objs.size)))) (acc.push (.ref h.objs.size)) _ (some T') (by omega) (by omega) (by rw [(Heap.SameBut.update (h := h') (a := S) (f := Obj.mapSeq (·.push (.ref h.objs.size)))).1, sz]; exact Nat.le_succ_of_le hge) ⟨⟨⟨b', oth _ _ (Ne.symm hS.1) z'⟩, ?_⟩, oth _ _ (Ne.symm hS.2.1) (kp' TI _ ?_ ti), n1.at fun o e => oth _ o (Ne.symm hS.2.2.2.1) e, n2.at fun o e => oth _ o (Ne.symm hS.2.2.2.2.1) e, ?_, ?_⟩ (fun c o hc e => ?_) (Heap.get?_update_self _ eS' rfl) (by rw [Array.size_push, ha]) ?_ hSl hlo (fun T e => by cases e; exact lT)
      · obtain ⟨o, e⟩ := t'
        exact ⟨o, oth _ _ (far lT hSl) e⟩
      · simp [D.TIz, D.TITO, D.TIi1, D.TIi2]
      · exact l1'.at fun o e => oth _ o (Ne.symm hS.2.2.2.2.2.1) (kp' l1 o (by simp [D.l1z, D.l1TO, D.l1i1, D.l1i2]) e)
      · exact l2'.at fun o e => oth _ o (Ne.symm hS.2.2.2.2.2.2) (kp' l2 o (by simp [D.l2z, D.l2TO, D.l2i1, D.l2i2]) e)
      · exact oth _ _ (fun q => hc (by simp [q])) (kp' c o (fun q => hc (by simp at q ⊢; rcases q with q | q | q | q <;> simp [q])) (kp c o hc e))
      · intro j v e
        rw [Array.getElem?_push] at e
        split at e
        · rename_i ej
          cases e
          rw [ha] at ej
          subst ej
          refine ⟨h.objs.size, xs[j], ys[j], rfl, hge', oth _ _ (far hge' hSl) pr, ex, ey, fun j' e' => ?_⟩
          rw [Array.getElem?_push] at e'
          split at e'
          · rename_i q; rw [q, ha]
          · obtain ⟨T2, x2, y2, q1, q2, q3, _⟩ := hm j' _ e'
            cases q1
            exact absurd rfl (hnew q3)
        · rename_i ej
          obtain ⟨T2, x2, y2, q1, q2, q3, q4, q5, q6⟩ := hm j v e
          have hin : T2 ∉ [z, TO, i1, i2] := fun q => by
            exact far q2 (hlo T2 (by simp at q ⊢; rcases q with q | q | q | q <;> simp [q])) rfl
          refine ⟨T2, x2, y2, q1, q2, oth _ _ (far q2 hSl) (kp' T2 _ hin q3), q4, q5, fun j' e' => ?_⟩
          rw [Array.getElem?_push] at e'
          split at e'
          · rename_i q
            cases e'
            cases q1
            exact absurd rfl (hnew q3)
          · exact q6 j' e'
    cases tz with
    | none =>
      obtain ⟨hi0, hz, a, b, hTO⟩ := zp
      refine wpAny_bind (wpAny_pyNext_zip_item D hz ti hTO h1 h2 l1' l2' ex ey fun h' a1 a2 a3 a4 a5 a6 hk' => ?_)
      exact go h' h.objs.size false a1 ⟨_, a5⟩ (Nat.le_trans low hge) a3 a4 a5 a6 fun c o hc e => hk' c o (fun q => hc (by simp [q])) (fun q => hc (by simp [q])) (fun q => hc (by simp [q])) (fun q => hc (by simp [q])) e
    | some T =>
      obtain ⟨⟨b, hz⟩, o, hT'⟩ := zp
      have lT : lo ≤ T := hT T rfl
      refine wpAny_bind (next_more D hz hT' ti h1 h2 l1' l2' ex ey fun h' a1 a3 a4 a5 a6 hk' => ?_)
      exact go h' T true a1 ⟨o, hk' T o (far lT (hlo z (by simp))) (far lT (hlo i1 (by simp))) (far lT (hlo i2 (by simp))) hT'⟩ lT a3 a4 a5 a6 fun c o hc e => hk' c o (fun q => hc (by simp [q])) (fun q => hc (by simp [q])) (fun q => hc (by simp [q])) e
theorem zip_no_len : typeLookup (.type "zip") "__len__" = pure none := by rw [typeLookup_type, builtinLookup_eq_fast]; kernel_rfl
theorem zip_no_hint : typeLookup (.type "zip") "__length_hint__" = pure none := by rw [typeLookup_type, builtinLookup_eq_fast]; kernel_rfl
theorem call_list_zip {z TI TO i1 i2 l1 l2 : Addr} {xs ys : Array Value} {Q : Value → Shared → Prop} (hh : A.handled = none) (D : ZipApart z TI TO i1 i2 l1 l2) {nn : Nat} (hsx : nn ≤ xs.size) (hsy : nn ≤ ys.size) (hend : xs[nn]? = none ∨ ys[nn]? = none) (hn : nn ≤ sizeLine)
    (Z : ZAt s z TI TO i1 i2 l1 l2 xs ys none 0) (hlt : ∀ a ∈ [z, TI, TO, i1, i2, l1, l2], a < s.heap.objs.size)
    (hQ : ∀ h' acc c, (∀ c o, c ∉ [z, TO, i1, i2] → s.heap.get? c = some o → h'.get? c = some o) → h'.get? s.heap.objs.size = some { cls := .type "list", dict := none, data := .seq acc c, slots := #[] } → acc.size = nn →
      Made h' (s.heap.objs.size + 1) xs ys acc → Q (.ref s.heap.objs.size) { s with heap := h' }) :
    wpAny (model P w) A (call (.type "list") [.ref z]) Q E s := by
  refine callType_codes (Q₁ := fun obj s₁ => obj = .ref s.heap.objs.size ∧ s₁ = { s with heap := s.heap.push { cls := .type "list", data := .seq #[] } }) F.called_list (F.typeCall_list_1 _) F.entry_list_init (code_list_new _ ⟨rfl, rfl⟩) fun obj s₁ h₁ => ?_
  obtain ⟨rfl, rfl⟩ := h₁
  generalize eN : s.heap.objs.size = N at hlt hQ ⊢
  have e0 : (s.heap.push { cls := .type "list", data := .seq #[] }).get? N = some { cls := .type "list", data := .seq #[] } := by rw [← eN]; exact Heap.get?_push_size _ rfl
  refine ⟨⟨_, e0, rfl⟩, F.args_list_init_2 _ _, ?_⟩
  have ap : ∀ a ∈ [z, TI, TO, i1, i2, l1, l2], N ≠ a := fun a ha => Nat.ne_of_gt (hlt a ha)
  show wpAny _ A.in1.in1 (do let old ← Builtin.List.listItems (.ref N); Builtin.List.listUpdate (.ref N) (fun _ => #[]); letGo old.toList.reverse; Builtin.List.listExtendWith (.ref N) (.ref z) .none) _ _ _
  refine wpAny_bind ?_
  unfold Builtin.List.listItems
  refine wpAny_bind (wpAny_seqItems e0 rfl (wpAny_pure ?_))
  show wpAny _ A.in1.in1 (updateSeq N (fun _ => #[]) >>= fun _ => letGo (#[] : Array Value).toList.reverse >>= fun _ => Builtin.List.listExtendWith (.ref N) (.ref z) .none) _ _ _
  refine wpAny_bind (wpAny_updateSeq e0 rfl ?_)
  have e1 := Heap.get?_update_self (Obj.mapSeq (fun _ => (#[] : Array Value))) e0 rfl
  refine wpAny_bind (wpAny_letGo ?_)
  generalize ea : (s.heap.push { cls := .type "list", data := .seq #[] }).update N (Obj.mapSeq fun _ => #[]) = ha at e1 ⊢
  have ka : ∀ c o, c ≠ N → s.heap.get? c = some o → ha.get? c = some o := fun c o hc e => by rw [← ea]; exact (Heap.get?_update_other _ _ (Ne.symm hc)).trans (Heap.get?_push_of_some _ e)
  have za : ha.objs.size = N + 1 := by rw [← ea, (Heap.SameBut.update _ _ _).1, Heap.size_push, eN]
  obtain ⟨⟨_, hz, a, b, hTO⟩, ti, h1, h2, l1', l2'⟩ := Z
  have hzN : IsZip ha z TI TO .none := ka _ _ (Ne.symm (ap z (by simp))) hz
  have ty : ∀ {hx : Heap}, IsZip hx z TI TO .none → Shared.TypeIs { s with heap := hx } (.ref z) "zip" := fun q => ⟨_, q, rfl⟩
  unfold Builtin.List.listExtendWith
  refine wpAny_bind (wpAny_typeOf (ty hzN) ?_)
  have c1 : Builtin.List.listSameRef (.ref N) (.ref z) = false := by simp [Builtin.List.listSameRef, ap z (by simp)]
  have c2 : (Value.type "zip" == Value.type "list") = false := by decide
  have c3 : (Value.type "zip" == Value.type "tuple") = false := by decide
  simp only [c1, c2, c3, Bool.or_false, Bool.false_eq_true, if_false]
  refine wpAny_bind (wpAny_pyIter_zip hzN ?_)
  refine wpAny_bind (wpAny_holding ?_)
  unfold Builtin.List.listLengthHint
  refine wpAny_bind (wpAny_specialOf (ty hzN) zip_no_len ?_)
  show wpAny _ A.in1.in1 (specialOf (Value.ref z) (Str.ofString "__length_hint__") >>= _) _ _ _
  refine wpAny_bind (wpAny_specialOf (ty hzN) zip_no_hint ?_)
  refine wpAny_pure ?_
  show wpAny _ A.in1.in1 (rule "list.extend.makes-room" >>= fun _ => Builtin.List.listTouch (.ref N) >>= fun _ => again (.builtin "list.extend.loop" ⟨[.ref N, .ref z, .none], []⟩)) _ _ _
  refine wpAny_bind (wpAny_rule ?_)
  refine wpAny_bind ?_
  show wpAny _ A.in1.in1 (updateSeq N (·.push .none) >>= fun _ => updateSeq N (·.pop)) _ _ _
  refine wpAny_bind (wpAny_updateSeq e1 rfl ?_)
  have e2 := Heap.get?_update_self (Obj.mapSeq (·.push Value.none)) e1 rfl
  refine wpAny_updateSeq (hz := by seq_fits) e2 rfl ?_
  have e3 := Heap.get?_update_self (Obj.mapSeq (·.pop)) e2 rfl
  have kb : ∀ c o, c ≠ N → s.heap.get? c = some o → ((ha.update N (Obj.mapSeq (·.push Value.none))).update N (Obj.mapSeq (·.pop))).get? c = some o := fun c o hc e =>
    (Heap.get?_update_other _ _ (Ne.symm hc)).trans ((Heap.get?_update_other _ _ (Ne.symm hc)).trans (ka c o hc e))
  have zb : ((ha.update N (Obj.mapSeq (·.push Value.none))).update N (Obj.mapSeq (·.pop))).objs.size = N + 1 := by rw [(Heap.SameBut.update _ _ _).1, (Heap.SameBut.update _ _ _).1, za]
  generalize eb : (ha.update N (Obj.mapSeq (·.push Value.none))).update N (Obj.mapSeq (·.pop)) = hb at e3 kb zb ⊢
  have nq : ∀ {c : Addr}, c ∈ [z, TI, TO, i1, i2, l1, l2] → c ≠ N := fun hc => Ne.symm (ap _ hc)
  refine wpAny_pure ⟨plainId_quiet F.plain_extend_loop _, ?_⟩
  refine zip_loop (A := A.in1) (s0 := { s with heap := hb }) (lo := N + 1) hh D hsx hsy hend hn
    ⟨ap z (by simp), ap TI (by simp), ap TO (by simp), ap i1 (by simp), ap i2 (by simp), ap l1 (by simp), ap l2 (by simp)⟩ (Nat.le_of_eq zb.symm) (fun h' acc c k q1 q2 q3 => ?_) _ 0 hb _ _ none rfl (Nat.zero_le _) (Nat.le_refl _)
    ⟨⟨rfl, kb _ _ (nq (by simp)) hz, a, b, kb _ _ (nq (by simp)) hTO⟩, kb _ _ (nq (by simp)) ti, h1.at fun o e => kb _ o (nq (by simp)) e, h2.at fun o e => kb _ o (nq (by simp)) e, l1'.at fun o e => kb _ o (nq (by simp)) e, l2'.at fun o e => kb _ o (nq (by simp)) e⟩
    (fun c o _ e => e) e3 rfl (fun j v e => by simp [Obj.mapSeq] at e) (Nat.lt_succ_self _) (fun a ha' => Nat.lt_succ_of_lt (hlt a ha')) (fun T e => by cases e)
  refine ⟨rfl, hQ h' acc c (fun c o hc e => ?_) q1 q2 q3⟩
  by_cases hcN : c = N
  · exact absurd (Heap.lt_size e) (by rw [hcN, eN]; exact Nat.lt_irrefl _)
  · exact k c o (by simp at hc ⊢; exact ⟨hc.1, hc.2.1, hc.2.2.1, hc.2.2.2, hcN⟩) (kb c o hcN e)
end
section
variable {X : Cx}
theorem back {xs : List V} {us : List Value} (r : Vals xs us) {i : Nat} {u : Value} (h : us[i]? = some u) : ∃ x, xs[i]? = some x ∧ L2.RelV x u := by
  have hl : i < xs.length := by rw [r.length]; exact (List.getElem?_eq_some_iff.mp h).1
  obtain ⟨u', e, q⟩ := r.get (List.getElem?_eq_getElem hl)
  rw [h] at e
  cases e
  exact ⟨_, List.getElem?_eq_getElem hl, q⟩
/-- the pairs of the items of two lists of one length, new tuples in a new list -/
def tListZip (K : PySem.W.Frag) (ta : TA) : TE := fun σ H Q => ta σ H fun vs H1 => ∃ a b xs ys, vs = [.ref a, .ref b] ∧ SqL K H1 a xs ∧ SqL K H1 b ys ∧
  ∀ p ts H2, (∀ c o, H1 c = some o → H2 c = some o) → H1 p = none → H2 p = some (.lst ts) → ts.length = min xs.length ys.length → (∀ (j : Nat) x y, xs[j]? = some x → ys[j]? = some y → ∃ T, ts[j]? = some (.ref T) ∧ H1 T = none ∧ H2 T = some (.tup [x, y])) → Q (.ref p) H2
theorem pe_listZip {e e2 : Expr} {ta : TA} {p p2 pos pos2 : Pos} (hc : X.calm = true) (hgl : Gl X "list") (hml : X.mg "list" = none) (hgz : Gl X "zip") (hmz : X.mg "zip" = none) (ha : PA X [e, e2] ta)
    (hs : starEach [e, e2] X.env = (false, eval e X.env) :: starEach [e2] X.env := by rfl) (hpl : (backTo pos2 (starEach [e2] X.env)).any (·.1) = false := by rfl)
    (hs1 : starEach [Expr.Call (.Name "zip" p2) [e, e2] [] pos2] X.env = (false, eval (.Call (.Name "zip" p2) [e, e2] [] pos2) X.env) :: starEach [] X.env := by rfl) (hpl1 : (backTo pos (starEach [] X.env)).any (·.1) = false := by rfl) :
    PE X (.Call (.Name "list" p) [.Call (.Name "zip" p2) [e, e2] [] pos2] [] pos) (tListZip X.K ta) := by
  refine ⟨fun pins s σ H Q I h => ?_⟩
  refine Call_ (ld_blt I hgl hml PyProof.Rows.boot_list (PyProof.Rows.callWith_type1 ?_ hs1 hpl1))
  rw [hs1]
  show wpAny _ _ (spliced ((false, eval (.Call (.Name "zip" p2) [e, e2] [] pos2) X.env) :: backTo pos (starEach [] X.env))) _ _ _
  refine Calls.spliced_cons ?_
  refine Call_ (ld_blt (I.tok _) hgz hmz PyProof.Rows.boot_zip (PyProof.Rows.callWith_type1 (thn (ha.run pos2 pins _ σ H _ ((I.tok _).tok _) h) fun us s1 ⟨vs, H1, I1, r1, a, b, xs, ys, ex, hqx, hqy, q⟩ => ?_) hs hpl))
  subst ex
  obtain ⟨u, v, rfl, r, r'⟩ := r1.two
  cases r
  cases r'
  obtain ⟨its, rv, p1, z1⟩ := I1.list hqx
  obtain ⟨its2, rv2, pl2, z2⟩ := I1.list hqy
  refine call_zip_2 p1.isList pl2.isList fun h' hz hTI hTO h1 h2 hsz hk => ?_
  have I2 : L2.Inv X pins σ H1 { s1 with heap := h' } := I1.kept (t' := s1.toks) hk
  refine Calls.spliced_nil ?_
  have D := PySem.W.ktu_apart s1.heap.objs.size a b p1.lt pl2.lt
  have n1 := rv.length
  have n2 := rv2.length
  have lt1 : a < s1.heap.objs.size := p1.lt
  have lt2 : b < s1.heap.objs.size := pl2.lt
  refine call_list_zip (nn := min xs.length ys.length) (I.ok.hd hc) D (by rw [List.size_toArray, ← n1]; exact Nat.min_le_left _ _) (by rw [List.size_toArray, ← n2]; exact Nat.min_le_right _ _) (by
      rcases Nat.le_total xs.length ys.length with h | h
      · exact .inl (Array.getElem?_eq_none (by rw [List.size_toArray, ← n1, Nat.min_eq_left h]; exact Nat.le_refl _))
      · exact .inr (Array.getElem?_eq_none (by rw [List.size_toArray, ← n2, Nat.min_eq_right h]; exact Nat.le_refl _))) (Nat.le_trans (Nat.min_le_left _ _) z1)
    ⟨⟨rfl, hz, _, _, hTO⟩, hTI, h1, h2, p1.isList.at fun o e => hk _ _ e, pl2.isList.at fun o e => hk _ _ e⟩ (fun c hcm => ?_) fun hF acc cc kk eS eN hm => ?_
  · rw [hsz]
    simp at hcm
    rcases hcm with q | q | q | q | q | q | q <;> rw [q]
    · exact Nat.add_lt_add_left (by decide) _
    · exact Nat.add_lt_add_left (by decide) _
    · exact Nat.add_lt_add_left (by decide) _
    · exact Nat.add_lt_add_left (by decide : 0 < 5) _
    · exact Nat.add_lt_add_left (by decide) _
    · exact Nat.lt_of_lt_of_le lt1 (Nat.le_add_right _ _)
    · exact Nat.lt_of_lt_of_le lt2 (Nat.le_add_right _ _)
  · have kF : ∀ c o, s1.heap.get? c = some o → hF.get? c = some o := fun c o e => by
      have hlt := Heap.lt_size e
      refine kk c o (fun q => ?_) (hk c o e)
      simp at q
      rcases q with q | q | q | q
      · exact absurd hlt (by rw [q]; exact Nat.not_lt.mpr (Nat.le_add_right _ _))
      · exact absurd hlt (by rw [q]; exact Nat.not_lt.mpr (Nat.le_add_right _ _))
      · exact absurd hlt (by rw [q]; exact Nat.lt_irrefl _)
      · exact absurd hlt (by rw [q]; exact Nat.not_lt.mpr (Nat.le_add_right _ _))
    have I3 : L2.Inv X pins σ H1 { s1 with heap := hF } := I1.kept (t' := s1.toks) kF
    have hw : ∀ T ∈ acc.toList.map (fun v => match v with | .ref T => T | _ => 0), s1.heap.objs.size ≤ T ∧ H1 T = none ∧ ∃ vs, (∃ (j : Nat) (x : V) (y : V), acc[j]? = some (.ref T) ∧ xs[j]? = some x ∧ ys[j]? = some y ∧ vs = [x, y]) ∧ ∀ G, ObjOk X.prog X.w G hF T (.tup vs) := fun T hT => by
      obtain ⟨v, hv, eT⟩ := List.mem_map.mp hT
      obtain ⟨j, hj⟩ := List.getElem?_of_mem hv
      have hj' : acc[j]? = some v := by rw [← Array.getElem?_toList]; exact hj
      obtain ⟨T', u, v', rfl, lo, pr, ex, ey, _⟩ := hm j v hj'
      have eT' : T' = T := eT
      subst eT'
      obtain ⟨x, hx, rx⟩ := back rv (by simpa using ex)
      obtain ⟨y, hy, ry⟩ := back rv2 (by simpa using ey)
      have lo' : s1.heap.objs.size ≤ T' := Nat.le_trans (Nat.le_add_right _ 6) (by rw [hsz] at lo; exact lo)
      exact ⟨lo', I1.hok.fresh lo', [x, y], ⟨j, x, y, hj', hx, hy, rfl⟩, fun G => ⟨(by decide : 2 ≤ sizeLine), [u, v'], .cons rx (.cons ry .nil), ⟨_, pr, rfl, _, rfl⟩⟩⟩
    have nd : (acc.toList.map (fun v => match v with | .ref T => T | _ => 0)).Nodup := by
      unfold List.Nodup
      rw [List.pairwise_iff_getElem]
      intro i j hil0 hjl0 hij e
      have hil : i < acc.size := by simpa using hil0
      have hjl : j < acc.size := by simpa using hjl0
      rw [List.getElem_map, List.getElem_map, Array.getElem_toList, Array.getElem_toList] at e
      obtain ⟨T, x, y, e1, _, _, _, _, un⟩ := hm i acc[i] (Array.getElem?_eq_getElem hil)
      obtain ⟨T2, x2, y2, e2, _⟩ := hm j acc[j] (Array.getElem?_eq_getElem hjl)
      rw [e1, e2] at e
      simp only at e
      subst e
      have := un j (by rw [Array.getElem?_eq_getElem hjl, e2, e1])
      omega
    have hSn : H1 h'.objs.size = none := I1.hok.fresh (by rw [hsz]; exact Nat.le_add_right _ _)
    have hrel : Vals (acc.toList.map fun v => match v with | .ref T => V.ref T | _ => .non) acc.toList := by
      refine L2.vals_of_at (by simp) fun j v u hv hu => ?_
      rw [List.getElem?_map, hu] at hv
      rw [Array.getElem?_toList] at hu
      obtain ⟨T, x, y, e1, _⟩ := hm j u hu
      subst e1
      cases hv
      exact rfl
    have szA : acc.size = min xs.length ys.length := eN
    have IL : L2.Inv X pins σ (upd H1 h'.objs.size (.lst (acc.toList.map fun v => match v with | .ref T => V.ref T | _ => .non))) { s1 with heap := hF } :=
      I1.laid (t' := s1.toks) kF (by rw [hsz]; exact Nat.le_add_right _ _) ⟨by rw [List.length_map, Array.length_toList, szA]; exact Nat.le_trans (Nat.min_le_left _ _) z1, acc.toList, cc, hrel, by rw [Array.toArray_toList]; exact eS⟩
    obtain ⟨H2, I4, up, all⟩ := L2.DX.takeT I1 _ _ IL nd fun T hT => by
      obtain ⟨q1, q2, q3⟩ := hw T hT
      obtain ⟨v, hv, eT⟩ := List.mem_map.mp hT
      obtain ⟨j, hj⟩ := List.getElem?_of_mem hv
      obtain ⟨T', _, _, rfl, lo, _⟩ := hm j v (by rw [← Array.getElem?_toList]; exact hj)
      have eT' : T' = T := eT
      subst eT'
      exact ⟨q1, by rw [upd_ne (Nat.ne_of_gt lo)]; exact q2, q3⟩
    refine ⟨.ref h'.objs.size, H2, I4, rfl, q h'.objs.size _ H2 (fun c o e => up c o (by rw [upd_ne (ne_of_none e hSn)]; exact e)) hSn (up _ _ upd_same) (by rw [List.length_map, Array.length_toList, szA]) fun j x y hx hy => ?_⟩
    have hj : j < acc.size := by
      rw [szA]
      exact Nat.lt_min.mpr ⟨(List.getElem?_eq_some_iff.mp hx).1, (List.getElem?_eq_some_iff.mp hy).1⟩
    obtain ⟨T, u, v, e1, lo, pr, ex, ey, un⟩ := hm j acc[j] (Array.getElem?_eq_getElem hj)
    have mT : T ∈ acc.toList.map (fun v => match v with | .ref T => T | _ => 0) := List.mem_map.mpr ⟨acc[j], by simp, by rw [e1]⟩
    obtain ⟨vs, ⟨j2, x2, y2, a1, a2, a3, a4⟩, a5⟩ := all T mT
    have e2 : j2 = j := un j2 (by rw [a1, e1])
    subst e2
    rw [hx] at a2
    rw [hy] at a3
    cases a2
    cases a3
    subst a4
    exact ⟨T, by rw [List.getElem?_map, Array.getElem?_toList, a1]; rfl, (hw T mT).2.1, a5⟩
end
end Ef
namespace Ef
open PySem PySem.Spec PyProof.Rows C8
open L2 hiding E0 CX0 pass0 Fun
/-! ### the head's hook: the kit's facts and a Bool of one's own -/
abbrev AlE : Type := He.AlD × Bool
def obsE (n : Nat) (fa : List He.Fa) (fn : List He.DefD) (ex : PySem.W.Frag → Bool) (g : Addr → Option Obj) : AlE := let K := He.frG g (He.asD g n); (He.obsD fa fn K, ex K)
def hookE (n : Nat) (fa : List He.Fa) (fn : List He.DefD) (ex : PySem.W.Frag → Bool) : PySem.W.Hook where
  α := AlE
  obs := fun s => obsE n fa fn ex s.heap.get?
  val := fun _ => (He.valD fn, true)
  says := fun _ h => ∃ K : PySem.W.Frag, K.In h ∧ He.SaysD fa fn K ∧ ex K = true
  of := fun _ s e => ⟨He.frG s.heap.get? (He.asD s.heap.get? n), He.frG_in, congrArg (fun z : AlE => z.1) e, congrArg (fun z : AlE => z.2) e⟩
  keeps := fun _ _ _ ⟨K, hK, c⟩ k => ⟨K, PySem.W.Frag.In.keeps hK k, c⟩
theorem obsE_eq {n : Nat} {fa : List He.Fa} {fn : List He.DefD} {ex : PySem.W.Frag → Bool} {g : Addr → Option Obj} {s : Shared} (h : ∀ a, g a = s.heap.get? a) : obsE n fa fn ex g = (hookE n fa fn ex).obs s := by
  have e : g = s.heap.get? := funext h
  rw [e] <;> rfl
/-- what isinstance, == and != ask of the class at C -/
def clsB (K : PySem.W.Frag) (C : Addr) : Bool :=
  decide (PySem.W.findIn K (.ref C) "__ne__" = some (some (.builtin "object.__ne__"))) && (decide (PySem.W.mroIn K C (.type "object") = some true) &&
    ((["NoneType", "int", "str", "list", "tuple", "dict"] : List String).all (fun T => decide (PySem.W.mroIn K C (.type T) = some false)) &&
    (decide (PySem.W.findIn K (.ref C) "__class__" = some (some (.builtin "object.__class__"))) && (decide (PySem.W.specialIn K (.builtin "object.__class__") "__get__" = some (some (.builtin "getset_descriptor.__get__"))) &&
    (decide (PySem.W.takesIn K (.builtin "object.__class__") = some true) && (decide (PySem.W.kitOne K (.ref C) (.ref C) = some true) &&
    (["NoneType", "int", "str", "list", "tuple", "dict"] : List String).all (fun T => decide (PySem.W.kitOne K (.type T) (.ref C) = some false))))))))
structure ClsE (K : PySem.W.Frag) (C : Addr) : Prop where
  own : OwnC K C
  ha : PySem.W.findIn K (.ref C) "__class__" = some (some (.builtin "object.__class__"))
  hn : PySem.W.specialIn K (.builtin "object.__class__") "__get__" = some (some (.builtin "getset_descriptor.__get__"))
  htk : PySem.W.takesIn K (.builtin "object.__class__") = some true
  me : PySem.W.kitOne K (.ref C) (.ref C) = some true
  no : ∀ T ∈ (["NoneType", "int", "str", "list", "tuple", "dict"] : List String), PySem.W.kitOne K (.type T) (.ref C) = some false
theorem clsB_ok {K : PySem.W.Frag} {C : Addr} (h : clsB K C = true) : ClsE K C := by
  unfold clsB at h
  simp only [Bool.and_eq_true, decide_eq_true_eq, List.all_eq_true] at h
  obtain ⟨h1, h2, h3, h4, h5, h6, h7, h8⟩ := h
  exact ⟨⟨h1, h2, h3⟩, h4, h5, h6, h7, h8⟩
/-- two classes apart -/
def apB (K : PySem.W.Frag) (C D : Addr) : Bool := decide (PySem.W.kitOne K (.ref C) (.ref D) = some false) && PySem.W.notFirst K C (.ref D)
structure ApE (K : PySem.W.Frag) (C D : Addr) : Prop where
  is : PySem.W.kitOne K (.ref C) (.ref D) = some false
  nf : PySem.W.notFirst K C (.ref D) = true
theorem apB_ok {K : PySem.W.Frag} {C D : Addr} (h : apB K C D = true) : ApE K C D := by
  unfold apB at h
  simp only [Bool.and_eq_true, decide_eq_true_eq] at h
  exact ⟨h.1, h.2⟩
/-! ### comprehensions and loops over what stays -/
section
variable {K : PySem.W.Frag} {a D : Addr} {xs : List V} {S : List Addr} {g : TG} {tt : TT} {te : TE} {vs : List Nat} {σ : L2.St} {H1 : Hp} {Qd : Hp → Prop}
/-- where a comprehension stands ahead of its i-th turn: A tells of the list made so far -/
def Pc (S : List Addr) (H1 : Hp) (D : Addr) (A : Nat → List V → Hp → Prop) (i : Nat) (H : Hp) : Prop := SB S H1 H ∧ ∃ acc, H D = some (.lst acc) ∧ acc.length ≤ i ∧ A i acc H
theorem Pc.put {A : Nat → List V → Hp → Prop} {i n : Nat} {acc : List V} {y : V} {H4 : Hp} (hD : H1 D = none) (hi : i < n) (hn : n ≤ sizeLine) (hl : acc.length ≤ i) (s : SB S H1 H4) (e : H4 D = some (.lst acc))
    (h : A (i + 1) (acc ++ [y]) (upd H4 D (.lst (acc ++ [y])))) : ∃ acc, H4 D = some (.lst acc) ∧ acc.length < sizeLine ∧ Pc S H1 D A (i + 1) (upd H4 D (.lst (acc ++ [y]))) :=
  ⟨acc, e, by omega, s.mut hD, acc ++ [y], upd_same, by rw [List.length_append]; exact Nat.succ_le_succ hl, h⟩
theorem Pc.skip {A : Nat → List V → Hp → Prop} {i : Nat} {acc : List V} {H4 : Hp} (hl : acc.length ≤ i) (s : SB S H1 H4) (e : H4 D = some (.lst acc)) (h : A (i + 1) acc H4) : Pc S H1 D A (i + 1) H4 := ⟨s, acc, e, Nat.le_succ_of_le hl, h⟩
theorem lcR (hsrc : RL K S H1 a xs) (hD : H1 D = none) (A : Nat → List V → Hp → Prop) (h0 : A 0 [] (upd H1 D (.lst [])))
    (turn : ∀ i x acc H, xs[i]? = some x → SB S H1 H → H D = some (.lst acc) → acc.length ≤ i → A i acc H → g x (wipe σ vs) H fun σ2 H2 => wipe σ2 vs = wipe σ vs ∧ tt σ2 H2 fun b H3 =>
      if b = true then te σ2 H3 fun y H4 => ∃ acc, H4 D = some (.lst acc) ∧ acc.length < sizeLine ∧ Pc S H1 D A (i + 1) (upd H4 D (.lst (acc ++ [y]))) else Pc S H1 D A (i + 1) H3)
    (hd : ∀ H acc, SB S H1 H → H D = some (.lst acc) → acc.length ≤ xs.length → A xs.length acc H → Qd H) :
    ∃ W : Nat → Nat → Hp → Prop, (∃ m, W 0 m (upd H1 D (.lst []))) ∧ ∀ i m H, W i m H →
      ((Itl K a).stop i H ∧ Qd H) ∨ ((Itl K a).go i H ∧ ∃ Nx : Hp → Prop, (∀ H', Nx H' → ∃ m', m' < m ∧ W (i + 1) m' H') ∧ ∀ x H', (Itl K a).yld i H x H' → g x (wipe σ vs) H' fun σ2 H2 => wipe σ2 vs = wipe σ vs ∧ tt σ2 H2 fun b H3 =>
        if b = true then te σ2 H3 fun y H4 => ∃ acc, H4 D = some (.lst acc) ∧ acc.length < sizeLine ∧ Nx (upd H4 D (.lst (acc ++ [y]))) else Nx H3) :=
  lc_list (K := K) (a := a) (xs := xs) (Pc S H1 D A) ⟨SB.same.mut hD, [], upd_same, Nat.le_refl _, h0⟩ (fun i H _ p => (hsrc.sb p.1).sq) (fun i x H hx p => p.2.elim fun acc q => turn i x acc H hx p.1 q.1 q.2.1 q.2.2)
    fun H p => p.2.elim fun acc q => hd H acc p.1 q.1 q.2.1 q.2.2
theorem lcN {n : Nat} (hD : H1 D = none) (A : Nat → List V → Hp → Prop) (h0 : A 0 [] (upd H1 D (.lst [])))
    (turn : ∀ (i : Nat) acc H, i < n → SB S H1 H → H D = some (.lst acc) → acc.length ≤ i → A i acc H → g (.int (0 + (i : Int))) (wipe σ vs) H fun σ2 H2 => wipe σ2 vs = wipe σ vs ∧ tt σ2 H2 fun b H3 =>
      if b = true then te σ2 H3 fun y H4 => ∃ acc, H4 D = some (.lst acc) ∧ acc.length < sizeLine ∧ Pc S H1 D A (i + 1) (upd H4 D (.lst (acc ++ [y]))) else Pc S H1 D A (i + 1) H3)
    (hd : ∀ H acc, SB S H1 H → H D = some (.lst acc) → acc.length ≤ n → A n acc H → Qd H) :
    ∃ W : Nat → Nat → Hp → Prop, (∃ m, W 0 m (upd H1 D (.lst []))) ∧ ∀ i m H, W i m H →
      ((Itr 0 n).stop i H ∧ Qd H) ∨ ((Itr 0 n).go i H ∧ ∃ Nx : Hp → Prop, (∀ H', Nx H' → ∃ m', m' < m ∧ W (i + 1) m' H') ∧ ∀ x H', (Itr 0 n).yld i H x H' → g x (wipe σ vs) H' fun σ2 H2 => wipe σ2 vs = wipe σ vs ∧ tt σ2 H2 fun b H3 =>
        if b = true then te σ2 H3 fun y H4 => ∃ acc, H4 D = some (.lst acc) ∧ acc.length < sizeLine ∧ Nx (upd H4 D (.lst (acc ++ [y]))) else Nx H3) :=
  lc_range (lo := 0) (n := n) (Pc S H1 D A) ⟨SB.same.mut hD, [], upd_same, Nat.le_refl _, h0⟩ (fun i H hi p => p.2.elim fun acc q => turn i acc H hi p.1 q.1 q.2.1 q.2.2)
    fun H p => p.2.elim fun acc q => hd H acc p.1 q.1 q.2.1 q.2.2
end
end Ef
namespace Ef
open PySem PySem.Spec PyProof.Rows C8
open L2 hiding E0 CX0 pass0 Fun
/-! ### defs and methods by name -/
section
variable {P : Program} {w : World} {K : PySem.W.Frag} {mg : Str → Option Value} {base : Heap}
/-- a def of the module's top -/
structure Fn (K : PySem.W.Frag) (mg : Str → Option Value) (x : Str) (st : Stmt) : Prop where
  ex : ∃ (f : Addr) (fd : FuncData), FunD K x x (defArgs st) (defBody st) (defScope st) [] [] f fd ∧ mg x = some (.ref f) ∧ PySem.W.keepIn K (.ref f) = true
theorem Fn.cal {x : Str} {st : Stmt} {N ps : List Str} {k : Nat} {sp : Sp} (F : Fn K mg x st) (S : FnScope N ps (defScope st))
    (b : ∀ (f : Addr) (fd : FuncData), FunD K x x (defArgs st) (defBody st) (defScope st) [] [] f fd → Binds K fd ps []) (len : ∀ vs H Q E, sp vs H Q E → vs.length = ps.length)
    (body : ∀ (f : Addr) (cdv : Value) (A : Around) (outer : List Env) (s : Shared) (H : Hp) (vs : List V) (Q : VK) (E : XK), Room k (A.deeper (envOfC x (defScope st) s.heap.objs.size f cdv)) → sp vs H Q E →
      ∃ t, PSs (cxOf C8.CX0 P w K mg base N x (defScope st) f cdv A outer s H E) (defBody st) t ∧ t { nx := fun _ H' => Q .non H', rt := Q } (start N vs) H) : Cal P w K mg base (k + 1) x sp [] := by
  obtain ⟨f, fd, D, hm, kp⟩ := F.ex
  exact ⟨f, fd, ps, [], D.ok S len (body f), hm, kp, b f fd D, .nil⟩
/-- a method of the class at C -/
structure Mn (K : PySem.W.Frag) (C : Addr) (m qual : Str) (st : Stmt) : Prop where
  ex : ∃ (f : Addr) (fd : FuncData), FunD K m qual (defArgs st) (defBody st) (defScope st) [] [] f fd ∧ Meth K C m f
theorem Mn.met {C : Addr} {m qual : Str} {st : Stmt} {N ps : List Str} {k : Nat} {sp : Sp} (F : Mn K C m qual st) (c : Cls K C) (S : FnScope N ps (defScope st))
    (b : ∀ (f : Addr) (fd : FuncData), FunD K m qual (defArgs st) (defBody st) (defScope st) [] [] f fd → Binds K fd ps []) (len : ∀ vs H Q E, sp vs H Q E → vs.length = ps.length)
    (body : ∀ (f : Addr) (cdv : Value) (A : Around) (outer : List Env) (s : Shared) (H : Hp) (vs : List V) (Q : VK) (E : XK), Room k (A.deeper (envOfC qual (defScope st) s.heap.objs.size f cdv)) → sp vs H Q E →
      ∃ t, PSs (cxOf C8.CX0 P w K mg base N qual (defScope st) f cdv A outer s H E) (defBody st) t ∧ t { nx := fun _ H' => Q .non H', rt := Q } (start N vs) H) : Met P w K mg base (k + 1) C m sp [] := by
  obtain ⟨f, fd, D, hm⟩ := F.ex
  exact ⟨f, fd, ps, [], c, hm, D.ok S len (body f), b f fd D, .nil⟩
/-- a class and its __init__ -/
structure Kn (K : PySem.W.Frag) (mg : Str → Option Value) (C : Addr) (x qual : Str) (st : Stmt) : Prop where
  ex : ∃ (f : Addr) (fd : FuncData), FunD K "__init__" qual (defArgs st) (defBody st) (defScope st) [] [] f fd ∧ Mk K C f
  mg : mg x = some (.ref C)
theorem Kn.mak {C : Addr} {x qual : Str} {st : Stmt} {N ps : List Str} {k : Nat} {sp : Sp} (F : Kn K mg C x qual st) (S : FnScope N ps (defScope st))
    (b : ∀ (f : Addr) (fd : FuncData), FunD K "__init__" qual (defArgs st) (defBody st) (defScope st) [] [] f fd → Binds K fd ps []) (len : ∀ vs H Q E, sp vs H Q E → vs.length = ps.length)
    (body : ∀ (f : Addr) (cdv : Value) (A : Around) (outer : List Env) (s : Shared) (H : Hp) (vs : List V) (Q : VK) (E : XK), Room k (A.deeper (envOfC qual (defScope st) s.heap.objs.size f cdv)) → sp vs H Q E →
      ∃ t, PSs (cxOf C8.CX0 P w K mg base N qual (defScope st) f cdv A outer s H E) (defBody st) t ∧ t { nx := fun _ H' => Q .non H', rt := Q } (start N vs) H) : Mak P w K mg base (k + 1) x C sp [] := by
  obtain ⟨f, fd, D, hM⟩ := F.ex
  exact ⟨f, fd, ps, [], hM, D.ok S len (body f), F.mg, b f fd D, .nil⟩
end
theorem ifT {b : Bool} {A B : Prop} (h : b = true) (p : A) : if b = true then A else B := by rw [if_pos h]; exact p
theorem ifN {b : Bool} {A B : Prop} (h : b = false) (p : B) : if b = true then A else B := by rw [if_neg (by rw [h]; exact Bool.false_ne_true)]; exact p
theorem ifB {b : Bool} {A B : Prop} (h1 : b = true → A) (h2 : b = false → B) : if b = true then A else B := by
  cases b with
  | true => exact ifT rfl (h1 rfl)
  | false => exact ifN rfl (h2 rfl)
theorem nilQ {σ : L2.St} {H : Hp} {Q : List V → Hp → Prop} (h : Q [] H) : tNil σ H Q := h
/-- what the text leaves of the built-in names -/
structure Bl (mg : Str → Option Value) : Prop where
  len : mg "len" = none
  sum : mg "sum" = none
  int : mg "int" = none
  max : mg "max" = none
  min : mg "min" = none
  list : mg "list" = none
  dict : mg "dict" = none
  sorted : mg "sorted" = none
  tuple : mg "tuple" = none
  isinstance : mg "isinstance" = none
  any : mg "any" = none
  all : mg "all" = none
  range : mg "range" = none
  zip : mg "zip" = none
  set : mg "set" = none
  str : mg "str" = none
  bool : mg "bool" = none
end Ef
namespace Ef
open PySem PySem.Spec PyProof.Rows C8
open L2 hiding E0 CX0 pass0 Fun
/-! ### slices -/
theorem sIx_some {n : Nat} {d : Nat} {k : Nat} : HT.sIx n d (some (k : Int)) = min k n := HT.sIx_nat n d k
theorem cutV_to (xs : List V) (k : Nat) : cutV xs none (some (k : Int)) = xs.take k := by
  unfold cutV
  rw [sIx_some]
  show List.take (min k xs.length - 0) (List.drop 0 xs) = _
  rw [List.drop_zero, Nat.sub_zero]
  rcases Nat.le_total k xs.length with h | h
  · rw [Nat.min_eq_left h]
  · rw [Nat.min_eq_right h, List.take_of_length_le h, List.take_of_length_le (Nat.le_refl _)]
theorem cutV_from (xs : List V) (k : Nat) : cutV xs (some (k : Int)) none = xs.drop k := by
  unfold cutV
  rw [sIx_some]
  show List.take (xs.length - min k xs.length) (List.drop (min k xs.length) xs) = _
  rcases Nat.le_total k xs.length with h | h
  · rw [Nat.min_eq_left h, List.take_of_length_le (by rw [List.length_drop] <;> omega)]
  · rw [Nat.min_eq_right h, List.drop_of_length_le h, List.drop_of_length_le (Nat.le_refl _)]
    simp
theorem cutV_map {α : Type} (f : α → V) (xs : List α) (lo hi : Option Int) : ∃ ys : List α, cutV (xs.map f) lo hi = ys.map f := by
  refine ⟨(xs.drop (HT.sIx (xs.map f).length 0 lo)).take (HT.sIx (xs.map f).length (xs.map f).length hi - HT.sIx (xs.map f).length 0 lo), ?_⟩
  unfold cutV
  rw [List.map_take, List.map_drop]
/-! ### the slots of a comprehension's own names -/
theorem wipe1 {σ : L2.St} {j : Nat} {v : Option V} : wipe ((wipe σ [j]).set j v) [j] = wipe σ [j] := by
  show (((σ.set j none).set j v).set j none) = σ.set j none
  rw [List.set_set, List.set_set]
theorem wipe2 {σ : L2.St} {i j : Nat} {u v : Option V} (h : i ≠ j) : wipe (((wipe σ [i, j]).set i u).set j v) [i, j] = wipe σ [i, j] := by
  show (((((σ.set j none).set i none).set i u).set j v).set j none).set i none = (σ.set j none).set i none
  rw [List.set_set, List.set_set, List.set_comm none none (Ne.symm h), List.set_set, List.set_comm none none h, List.set_set]
end Ef
namespace Ef
open PySem PySem.Spec PyProof.Rows C8
open L2 hiding E0 CX0 pass0 Fun
/-! ### what type a datum has -/
def tyD : PyData → String
  | .none => "NoneType"
  | .bool _ => "bool"
  | .int _ => "int"
  | .str _ => "str"
  | .list _ => "list"
  | .tuple _ => "tuple"
  | .dict _ => "dict"
theorem rl_ty {K : PySem.W.Frag} {S : List Addr} {H : Hp} {a : Addr} {xs : List V} (h : RL K S H a xs) : TyX K H (.ref a) (.type "list") := by
  rcases h with ⟨_, h | ⟨o, h⟩⟩ | ⟨o, its, n, h, c, _⟩
  · exact .base (.lst h)
  · exact .base (.frz h)
  · exact .kList h c
theorem rt_ty {K : PySem.W.Frag} {S : List Addr} {H : Hp} {a : Addr} {xs : List V} (h : RT K S H a xs) : TyX K H (.ref a) (.type "tuple") := by
  rcases h with ⟨_, h | ⟨o, h⟩⟩ | ⟨o, its, n, h, c, _⟩
  · exact .base (.tup h)
  · exact .fTuple h
  · exact .kTuple h c
theorem rp_ty {K : PySem.W.Frag} {S : List Addr} {H : Hp} : ∀ {d : PyData} {v : V}, Rp K S H d v → TyX K H v (.type (tyD d))
  | .none, _, h => by cases (show _ = V.non from h); exact .base .non
  | .bool b, _, h => by cases (show _ = V.bl b from h); exact .base (.bl b)
  | .int b, _, h => by cases (show _ = V.int b from h); exact .base (.int b)
  | .str b, _, h => by cases (show _ = V.str b from h); exact .base (.str b)
  | .list ds, _, ⟨a, xs, e, h, _⟩ => by subst e; exact rl_ty h
  | .tuple ds, _, ⟨a, xs, e, h, _⟩ => by subst e; exact rt_ty h
  | .dict _, _, ⟨_, a, e, h⟩ => by subst e; exact .base (.dK h.2)
def isList : PyData → Bool
  | .list _ => true
  | _ => false
def isTup : PyData → Bool
  | .tuple _ => true
  | _ => false
def isDct : PyData → Bool
  | .dict _ => true
  | _ => false
def isInt : PyData → Bool
  | .int _ => true
  | .bool _ => true
  | _ => false
def isBl : PyData → Bool
  | .bool _ => true
  | _ => false
theorem kit_list {K : PySem.W.Frag} : ∀ d : PyData, PySem.W.kitOne K (.type (tyD d)) (.type "list") = some (isList d)
  | .none => kit_ty (show kitB "NoneType" "list" = some false by decide +kernel)
  | .bool _ => kit_ty (show kitB "bool" "list" = some false by decide +kernel)
  | .int _ => kit_ty (show kitB "int" "list" = some false by decide +kernel)
  | .str _ => kit_ty (show kitB "str" "list" = some false by decide +kernel)
  | .list _ => kit_ty (show kitB "list" "list" = some true by decide +kernel)
  | .tuple _ => kit_ty (show kitB "tuple" "list" = some false by decide +kernel)
  | .dict _ => kit_ty (show kitB "dict" "list" = some false by decide +kernel)
theorem kit_tup {K : PySem.W.Frag} : ∀ d : PyData, PySem.W.kitOne K (.type (tyD d)) (.type "tuple") = some (isTup d)
  | .none => kit_ty (show kitB "NoneType" "tuple" = some false by decide +kernel)
  | .bool _ => kit_ty (show kitB "bool" "tuple" = some false by decide +kernel)
  | .int _ => kit_ty (show kitB "int" "tuple" = some false by decide +kernel)
  | .str _ => kit_ty (show kitB "str" "tuple" = some false by decide +kernel)
  | .list _ => kit_ty (show kitB "list" "tuple" = some false by decide +kernel)
  | .tuple _ => kit_ty (show kitB "tuple" "tuple" = some true by decide +kernel)
  | .dict _ => kit_ty (show kitB "dict" "tuple" = some false by decide +kernel)
theorem kit_dct {K : PySem.W.Frag} : ∀ d : PyData, PySem.W.kitOne K (.type (tyD d)) (.type "dict") = some (isDct d)
  | .none => kit_ty (show kitB "NoneType" "dict" = some false by decide +kernel)
  | .bool _ => kit_ty (show kitB "bool" "dict" = some false by decide +kernel)
  | .int _ => kit_ty (show kitB "int" "dict" = some false by decide +kernel)
  | .str _ => kit_ty (show kitB "str" "dict" = some false by decide +kernel)
  | .list _ => kit_ty (show kitB "list" "dict" = some false by decide +kernel)
  | .tuple _ => kit_ty (show kitB "tuple" "dict" = some false by decide +kernel)
  | .dict _ => kit_ty (show kitB "dict" "dict" = some true by decide +kernel)
theorem kit_int {K : PySem.W.Frag} : ∀ d : PyData, PySem.W.kitOne K (.type (tyD d)) (.type "int") = some (isInt d)
  | .none => kit_ty (show kitB "NoneType" "int" = some false by decide +kernel)
  | .bool _ => kit_ty (show kitB "bool" "int" = some true by decide +kernel)
  | .int _ => kit_ty (show kitB "int" "int" = some true by decide +kernel)
  | .str _ => kit_ty (show kitB "str" "int" = some false by decide +kernel)
  | .list _ => kit_ty (show kitB "list" "int" = some false by decide +kernel)
  | .tuple _ => kit_ty (show kitB "tuple" "int" = some false by decide +kernel)
  | .dict _ => kit_ty (show kitB "dict" "int" = some false by decide +kernel)
theorem kit_bl {K : PySem.W.Frag} : ∀ d : PyData, PySem.W.kitOne K (.type (tyD d)) (.type "bool") = some (isBl d)
  | .none => kit_ty (show kitB "NoneType" "bool" = some false by decide +kernel)
  | .bool _ => kit_ty (show kitB "bool" "bool" = some true by decide +kernel)
  | .int _ => kit_ty (show kitB "int" "bool" = some false by decide +kernel)
  | .str _ => kit_ty (show kitB "str" "bool" = some false by decide +kernel)
  | .list _ => kit_ty (show kitB "list" "bool" = some false by decide +kernel)
  | .tuple _ => kit_ty (show kitB "tuple" "bool" = some false by decide +kernel)
  | .dict _ => kit_ty (show kitB "dict" "bool" = some false by decide +kernel)
theorem kit_lt {K : PySem.W.Frag} (d : PyData) : PySem.W.kitAny K (.type (tyD d)) [.type "list", .type "tuple"] = some (isList d || isTup d) := by
  unfold PySem.W.kitAny
  rw [kit_list]
  cases h : isList d with
  | true => rfl
  | false =>
    show PySem.W.kitAny K (.type (tyD d)) [.type "tuple"] = _
    unfold PySem.W.kitAny
    rw [kit_tup]
    cases h : isTup d <;> rfl
theorem kit_str {K : PySem.W.Frag} : PySem.W.kitOne K (.type "str") (.type "str") = some true := kit_ty (by decide +kernel)
/-! ### depth -/
mutual
def Dep : Nat → PyData → Prop
  | n, .list ds => ∃ m, n = m + 1 ∧ ds.length ≤ 1000 ∧ DepL m ds
  | n, .tuple ds => ∃ m, n = m + 1 ∧ ds.length ≤ 1000 ∧ DepL m ds
  | n, .dict kvs => ∃ m, n = m + 2 ∧ kvs = []
  | _, _ => True
def DepL : Nat → List PyData → Prop
  | _, [] => True
  | n, d :: ds => Dep n d ∧ DepL n ds
end
theorem DepL.at : ∀ {n : Nat} {ds : List PyData} {i : Nat} {d : PyData}, DepL n ds → ds[i]? = some d → Dep n d
  | _, [], _, _, _, e => by simp at e
  | _, d :: ds, 0, d', h, e => by
    have e' : d = d' := by simpa using e
    exact e' ▸ h.1
  | _, d :: ds, i + 1, _, h, e => DepL.at h.2 (by simpa using e)
/-! ### a comprehension over any walk -/
theorem lcG {J : It} {n : Nat} {g : TG} {tt : TT} {te : TE} {vs : List Nat} {σ : L2.St} {H1 : Hp} {D : Addr} {Qd : Hp → Prop} {S : List Addr} (hD : H1 D = none) (A : Nat → List V → Hp → Prop) (h0 : A 0 [] (upd H1 D (.lst [])))
    (go : ∀ i H, i < n → SB S H1 H → J.go i H) (stop : ∀ H, SB S H1 H → J.stop n H)
    (turn : ∀ (i : Nat) acc H x H', i < n → SB S H1 H → H D = some (.lst acc) → acc.length ≤ i → A i acc H → J.yld i H x H' → g x (wipe σ vs) H' fun σ2 H2 => wipe σ2 vs = wipe σ vs ∧ tt σ2 H2 fun b H3 =>
      if b = true then te σ2 H3 fun y H4 => ∃ acc, H4 D = some (.lst acc) ∧ acc.length < sizeLine ∧ Pc S H1 D A (i + 1) (upd H4 D (.lst (acc ++ [y]))) else Pc S H1 D A (i + 1) H3)
    (hd : ∀ H acc, SB S H1 H → H D = some (.lst acc) → acc.length ≤ n → A n acc H → Qd H) :
    ∃ W : Nat → Nat → Hp → Prop, (∃ m, W 0 m (upd H1 D (.lst []))) ∧ ∀ i m H, W i m H →
      (J.stop i H ∧ Qd H) ∨ (J.go i H ∧ ∃ Nx : Hp → Prop, (∀ H', Nx H' → ∃ m', m' < m ∧ W (i + 1) m' H') ∧ ∀ x H', J.yld i H x H' → g x (wipe σ vs) H' fun σ2 H2 => wipe σ2 vs = wipe σ vs ∧ tt σ2 H2 fun b H3 =>
        if b = true then te σ2 H3 fun y H4 => ∃ acc, H4 D = some (.lst acc) ∧ acc.length < sizeLine ∧ Nx (upd H4 D (.lst (acc ++ [y]))) else Nx H3) := by
  refine ⟨fun i m H => m = n - i ∧ i ≤ n ∧ Pc S H1 D A i H, ⟨n, by omega, Nat.zero_le _, SB.same.mut hD, [], upd_same, Nat.le_refl _, h0⟩, ?_⟩
  rintro i m H ⟨rfl, hi, s, acc, e, hl, ha⟩
  by_cases hlt : i < n
  · exact .inr ⟨go i H hlt s, Pc S H1 D A (i + 1), fun H' p => ⟨n - (i + 1), by omega, rfl, hlt, p⟩, fun x H' y => turn i acc H x H' hlt s e hl ha y⟩
  · have en : i = n := by omega
    subst en
    exact .inl ⟨stop H s, hd H acc s e hl ha⟩
/-! ### new representations -/
mutual
def Fr (H H' : Hp) : PyData → V → Prop
  | .none, v => v = .non
  | .bool b, v => v = .bl b
  | .int i, v => v = .int i
  | .str x, v => v = .str x
  | .list ds, v => ∃ a xs, v = .ref a ∧ H a = none ∧ H' a = some (.lst xs) ∧ FrL H H' ds xs ∧ ∀ (i j : Nat) b, xs[i]? = some (.ref b) → xs[j]? = some (.ref b) → i = j
  | .tuple ds, v => ∃ a xs, v = .ref a ∧ H a = none ∧ H' a = some (.tup xs) ∧ FrL H H' ds xs
  | .dict kvs, v => kvs = [] ∧ ∃ a, v = .ref a ∧ H a = none ∧ H' a = some (.dK [])
def FrL (H H' : Hp) : List PyData → List V → Prop
  | [], xs => xs = []
  | d :: ds, xs => ∃ x ys, xs = x :: ys ∧ Fr H H' d x ∧ FrL H H' ds ys
end
section
variable {K : PySem.W.Frag} {S : List Addr} {H H' G G' : Hp}
mutual
theorem Fr.map (f : ∀ a, H a = none → G a = none) (g : ∀ a o, H a = none → H' a = some o → G' a = some o) : ∀ (d : PyData) (v : V), Fr H H' d v → Fr G G' d v
  | .none, _, h => h
  | .bool _, _, h => h
  | .int _, _, h => h
  | .str _, _, h => h
  | .list ds, _, ⟨a, xs, e, h1, h2, h3, h4⟩ => ⟨a, xs, e, f a h1, g a _ h1 h2, FrL.map f g ds xs h3, h4⟩
  | .tuple ds, _, ⟨a, xs, e, h1, h2, h3⟩ => ⟨a, xs, e, f a h1, g a _ h1 h2, FrL.map f g ds xs h3⟩
  | .dict _, _, ⟨z, a, e, h1, h2⟩ => ⟨z, a, e, f a h1, g a _ h1 h2⟩
theorem FrL.map (f : ∀ a, H a = none → G a = none) (g : ∀ a o, H a = none → H' a = some o → G' a = some o) : ∀ (ds : List PyData) (vs : List V), FrL H H' ds vs → FrL G G' ds vs
  | [], _, h => h
  | d :: ds, _, ⟨x, ys, e, h1, h2⟩ => ⟨x, ys, e, Fr.map f g d x h1, FrL.map f g ds ys h2⟩
end
mutual
theorem Fr.rp (f : ∀ a, H a = none → a ∉ S) : ∀ (d : PyData) (v : V), Fr H H' d v → Rp K S H' d v
  | .none, _, h => h
  | .bool _, _, h => h
  | .int _, _, h => h
  | .str _, _, h => h
  | .list ds, _, ⟨a, xs, e, h1, h2, h3, _⟩ => ⟨a, xs, e, RL.at h2 (f a h1), FrL.rp f ds xs h3⟩
  | .tuple ds, _, ⟨a, xs, e, h1, h2, h3⟩ => ⟨a, xs, e, RT.at h2 (f a h1), FrL.rp f ds xs h3⟩
  | .dict _, _, ⟨z, a, e, h1, h2⟩ => ⟨z, a, e, f a h1, h2⟩
theorem FrL.rp (f : ∀ a, H a = none → a ∉ S) : ∀ (ds : List PyData) (vs : List V), FrL H H' ds vs → RpL K S H' ds vs
  | [], _, h => h
  | d :: ds, _, ⟨x, ys, e, h1, h2⟩ => ⟨x, ys, e, Fr.rp f d x h1, FrL.rp f ds ys h2⟩
end
theorem FrL.snoc : ∀ {ds : List PyData} {vs : List V} {d : PyData} {v : V}, FrL H H' ds vs → Fr H H' d v → FrL H H' (ds ++ [d]) (vs ++ [v])
  | [], _, d, v, h, q => by
    have e : _ = [] := h
    subst e
    exact ⟨v, [], rfl, q, rfl⟩
  | c :: ds, _, d, v, ⟨x, ys, e, h1, h2⟩, q => by
    subst e
    exact ⟨x, ys ++ [v], rfl, h1, FrL.snoc h2 q⟩
theorem FrL.len : ∀ {ds : List PyData} {vs : List V}, FrL H H' ds vs → vs.length = ds.length
  | [], _, h => by
    have e : _ = [] := h
    subst e
    rfl
  | d :: ds, _, ⟨x, ys, e, _, h2⟩ => by
    subst e
    rw [List.length_cons, List.length_cons, FrL.len h2]
theorem FrL.get' : ∀ {ds : List PyData} {vs : List V} {i : Nat} {v : V}, FrL H H' ds vs → vs[i]? = some v → ∃ d, ds[i]? = some d ∧ Fr H H' d v
  | [], _, _, _, h, e => by
    have e' : _ = [] := h
    rw [e'] at e
    simp at e
  | d :: ds, _, 0, v, ⟨x, ys, e, h1, _⟩, q => by
    subst e
    have q' : x = v := by simpa using q
    subst q'
    exact ⟨d, rfl, h1⟩
  | d :: ds, _, i + 1, _, ⟨x, ys, e, _, h2⟩, q => by
    subst e
    obtain ⟨v, h3, h4⟩ := FrL.get' h2 (by simpa using q)
    exact ⟨v, by simpa using h3, h4⟩
/-- a new thing's own place -/
theorem Fr.fresh {d : PyData} {a : Addr} (h : Fr H H' d (.ref a)) : H a = none ∧ ∃ o, H' a = some o := by
  cases d with
  | none => exact (nomatch (show V.ref a = V.non from h))
  | bool b => exact (nomatch (show V.ref a = V.bl b from h))
  | int b => exact (nomatch (show V.ref a = V.int b from h))
  | str b => exact (nomatch (show V.ref a = V.str b from h))
  | list ds =>
    obtain ⟨b, xs, e, h1, h2, _⟩ := h
    cases e
    exact ⟨h1, _, h2⟩
  | tuple ds =>
    obtain ⟨b, xs, e, h1, h2, _⟩ := h
    cases e
    exact ⟨h1, _, h2⟩
  | dict _ =>
    obtain ⟨_, b, e, h1, h2⟩ := h
    cases e
    exact ⟨h1, _, h2⟩
end
/-- a def that is never called -/
theorem Fn.never {P : Program} {w : World} {K : PySem.W.Frag} {mg : Str → Option Value} {base : Heap} {x : Str} {st : Stmt} {ps : List Str} (F : Fn K mg x st) (b : ∀ (f : Addr) (fd : FuncData), FunD K x x (defArgs st) (defBody st) (defScope st) [] [] f fd → Binds K fd ps []) :
    Cal P w K mg base 0 x (fun _ _ _ _ => False) [] := by
  obtain ⟨f, fd, D, hm, kp⟩ := F.ex
  exact ⟨f, fd, ps, [], ⟨fun _ _ _ _ h => h.elim, fun _ _ _ _ _ _ _ _ _ _ _ _ _ h => h.elim⟩, hm, kp, b f fd D, .nil⟩
end Ef
namespace Ef
open PySem PySem.Spec PyProof.Rows C8
open L2 hiding E0 CX0 pass0 Fun
/-! ### the rules with the written part named (within a comprehension's block it must not hang on the block) -/
section
variable {X : Cx} {K : PySem.W.Frag}
theorem ixL (h : X.K = K) : IxR X (rIxL K) := h ▸ ix_list
theorem ixT (h : X.K = K) : IxR X (rIxT K) := h ▸ ix_tup
def rLenQ (K : PySem.W.Frag) : List V → Hp → VK → Prop := fun xs H Q => ∃ p ys, xs = [.ref p] ∧ (SqL K H p ys ∨ SqT K H p ys) ∧ Q (.int ys.length) H
theorem lenQ (h : X.K = K) : CallR X (.builtin "len") (rLenQ K) := h ▸ call_len_seq
theorem isiQ (h : X.K = K) : CallR X (.builtin "isinstance") (rIsi K) := h ▸ call_isi
theorem isiTQ (h : X.K = K) : CallR X (.builtin "isinstance") (rIsiT K) := h ▸ call_isiT
theorem slL (h : X.K = K) : SlR X (rSlL K) := h ▸ sl_list
theorem inQ (h : X.K = K) : OpR X (compareOp .In) (rIn K false) := h ▸ op_in_seq
theorem notInQ (h : X.K = K) : OpR X (compareOp .NotIn) (rIn K true) := h ▸ op_notIn_seq
theorem inDQ (h : X.K = K) (hu : X.A.units + 65 < cLine) : OpR X (compareOp .In) (rInD K) := h ▸ op_inD hu
theorem eqDQ (h : X.K = K) (hu : X.A.units + 64 < cLine) : OpR X (compareOp .Eq) (rEqD K) := h ▸ op_eqD hu
theorem neDQ (h : X.K = K) (hu : X.A.units + 64 < cLine) : OpR X (compareOp .NotEq) (rNeD K) := h ▸ op_neD hu
theorem sumQ (h : X.K = K) (hc : X.calm = true) : CallR X (.builtin "sum") (rSum K) := h ▸ cr_sum hc
theorem anyQ (h : X.K = K) (hc : X.calm = true) : CallR X (.builtin "any") (rAny K) := h ▸ cr_any hc
theorem allQ (h : X.K = K) (hc : X.calm = true) : CallR X (.builtin "all") (rAll K) := h ▸ cr_all hc
theorem sortedQ (h : X.K = K) (hu : X.A.units + 64 < cLine) : CallR X (.builtin "sorted") (rSortedD K) := h ▸ cr_sortedD hu
def rListQ (K : PySem.W.Frag) : List V → Hp → VK → Prop := fun xs H Q => ∃ p ys, xs = [.ref p] ∧ (SqL K H p ys ∨ SqT K H p ys) ∧ ∀ l, H l = none → Q (.ref l) (upd H l (.lst ys))
theorem listQ (h : X.K = K) : CallR X (.type "list") (rListQ K) := h ▸ call_list_of
def rTupleQ (K : PySem.W.Frag) : List V → Hp → VK → Prop := fun xs H Q => ∃ p ys, xs = [.ref p] ∧ ((SqL K H p ys ∧ ∀ l, H l = none → Q (.ref l) (upd H l (.tup ys))) ∨ (SqT K H p ys ∧ Q (.ref p) H))
theorem tupleQ (h : X.K = K) : CallR X (.type "tuple") (rTupleQ K) := h ▸ call_tuple_of
variable {e l : Expr} {ta tl : TE} {f : Str} {pos : Pos} {tg : Expr}
theorem pe_fldQ (h : X.K = K) (he : PE X e ta) (hb : attributeBase e f X.env (eval e X.env) = eval e X.env) : PE X (.Attribute e f pos) (tFld K ta f) := h ▸ pe_fld he hb
theorem pi_listQ (h : X.K = K) (hl : PE X l tl) : PI X tg l (iList K tl) := h ▸ pi_list hl
theorem pi_tupQ (h : X.K = K) (hl : PE X l tl) : PI X tg l (iTup K tl) := h ▸ pi_tup hl
theorem pi_bothQ (h : X.K = K) (hl : PE X l tl) : PI X tg l (fun σ H R => iList K tl σ H R ∨ iTup K tl σ H R) := pi_or2 (pi_listQ h hl) (pi_tupQ h hl)
theorem pg_tupQ {es : List Expr} {c : Nat} {t : TGs} {n : Nat} (hK : X.K = K) (hc : X.calm = true) (hs : PGs X es t) (hn : (assignEach es X.env).length = n := by rfl) (hst : (assignEach es X.env).findIdx? (·.1) = none := by rfl) : PG X (.Tuple es c pos) (gTup K n t) := hK ▸ pg_tup hc hs hn hst
theorem room65 {k : Nat} {A : Around} (hr : Room k A) : A.units + 65 < cLine := by have := hr.un; omega
end
theorem paired_of {α β : Type} {F : α → β → Prop} : ∀ {l : List α} {m : List β}, l.length = m.length → (∀ (i : Nat) a b, l[i]? = some a → m[i]? = some b → F a b) → Paired F l m
  | [], [], _, _ => .nil
  | [], _ :: _, h, _ => by simp at h
  | _ :: _, [], h, _ => by simp at h
  | a :: l, b :: m, h, q => .cons (q 0 a b rfl rfl) (paired_of (by simpa using h) fun i x y e1 e2 => q (i + 1) x y (by simpa using e1) (by simpa using e2))
theorem flat_cut (es : List Str) (lo hi : Option Int) : (cutV (es.map V.str) lo hi).all flatV = true := by
  unfold cutV
  rw [List.all_eq_true]
  intro x hx
  obtain ⟨y, _, rfl⟩ := List.mem_map.mp (List.mem_of_mem_drop (List.mem_of_mem_take hx))
  rfl
def PairOk (q : Str × Str) : Prop := PyData.strOk q.1 = true ∧ PyData.strOk q.2 = true
theorem lay_p {q : Str × Str} (h : PairOk q) : (dP1 q).canLay0 = true := by simp [dP1, PyData.canLay0, PyData.canLayAll0, h.1, h.2]
theorem depth_p (q : Str × Str) : (dP1 q).depth ≤ 2 := by simp [dP1, PyData.depth, PyData.depthAll]
theorem shaped_p {q : Str × Str} (h : PairOk q) : SeqAt.shaped (dP1 q) = true := by
  show ((dP1 q).canLay0 && decide ((dP1 q).depth ≤ 64)) = true
  have := depth_p q
  rw [Bool.and_eq_true]
  exact ⟨lay_p h, decide_eq_true (by omega)⟩
theorem ps_lay : ∀ qs : List (Str × Str), (∀ q ∈ qs, PairOk q) → PyData.canLayAll0 (qs.map dP1) = true
  | [], _ => by simp [PyData.canLayAll0]
  | q :: qs, h => by simp only [List.map_cons, PyData.canLayAll0, lay_p (h q (by simp)), ps_lay qs fun x hx => h x (List.mem_cons_of_mem _ hx), Bool.and_self]
theorem ps_depth : ∀ qs : List (Str × Str), PyData.depthAll (qs.map dP1) ≤ 2
  | [] => by simp [PyData.depthAll]
  | q :: qs => by
    have h := ps_depth qs
    have h2 := depth_p q
    simp only [List.map_cons, PyData.depthAll]
    omega
theorem shaped_ps {qs : List (Str × Str)} (h : ∀ q ∈ qs, PairOk q) : SeqAt.shaped (.list (qs.map dP1)) = true := by
  have h1 := ps_depth qs
  have h2 : PyData.depth (.list (qs.map dP1)) ≤ 64 := by
    simp only [PyData.depth]
    omega
  show (PyData.canLay0 (.list (qs.map dP1)) && decide (PyData.depth (.list (qs.map dP1)) ≤ 64)) = true
  rw [Bool.and_eq_true]
  exact ⟨by simpa [PyData.canLay0] using ps_lay qs h, decide_eq_true h2⟩
theorem p2_dp {K : PySem.W.Frag} {S : List Addr} {H : Hp} {q : Str × Str} {v : V} (h : P2 K S H q v) : Dp K H v (dP1 q) := Rp.dp (p2_rp h)
theorem lp_dp {K : PySem.W.Frag} {S : List Addr} {H : Hp} {a : Addr} {xs : List V} {qs : List (Str × Str)} (h : RL K S H a xs) (hx : P2s K S H qs xs) : Dp K H (.ref a) (.list (qs.map dP1)) := Rp.dp (lp_rp ⟨a, xs, rfl, h, hx⟩)
theorem p2s_out {K : PySem.W.Frag} {S : List Addr} {H : Hp} {qs : List (Str × Str)} {xs : List V} (h : P2s K [] H qs xs) (f : ∀ (i : Nat) b, xs[i]? = some (.ref b) → b ∉ S) : P2s K S H qs xs := by
  refine paired_of (Paired.length h) fun i q v e1 e2 => ?_
  obtain ⟨v', e3, a, hv, r⟩ := Paired.at2 h e1
  rw [e2] at e3
  cases e3
  subst hv
  exact ⟨a, rfl, f i a e2, r.2⟩
end Ef
namespace Ef
open PySem PySem.Spec PyProof.Rows C8
open L2 hiding E0 CX0 pass0 Fun
/-! ### words, plainly -/
def WordOk (w : Str) : Prop := 1 ≤ w.length ∧ w.length ≤ 8 ∧ ∀ c ∈ w.cps.toList, 97 ≤ c ∧ c ≤ 122
/-- the text of one sign -/
abbrev S1 (c : Nat) : Str := ⟨#[c]⟩
abbrev abc : Str := "abcdefghijklmnopqrstuvwxyz"
theorem abc_at : ∀ i : Nat, i < 26 → abc.cps.toList[i]? = some (97 + i) := by decide +kernel
theorem abc_list : abc.cps.toList = (List.range 26).map (97 + ·) := by decide +kernel
theorem join_nil (cs : List Nat) : Txt.join ("" : Str) (cs.map S1) = ⟨cs.toArray⟩ := by
  have e := SX.join_S [] (cs.map fun c => [c])
  have e1 : (cs.map fun c => [c]).map SX.S = cs.map S1 := by rw [List.map_map] <;> rfl
  rw [e1] at e
  refine e.trans ?_
  have : ∀ cs : List Nat, TL.joinL [] (cs.map fun c => [c]) = cs := by
    intro cs
    induction cs with
    | nil => rfl
    | cons c cs ih =>
      cases cs with
      | nil => rfl
      | cons d cs =>
        show [c] ++ ([] ++ TL.joinL [] (([d] : List Nat) :: cs.map fun c => [c])) = _
        have ih' : TL.joinL [] (([d] : List Nat) :: cs.map fun c => [c]) = d :: cs := ih
        rw [ih'] <;> rfl
  rw [this]
theorem word_of {cs : List Nat} (h1 : 1 ≤ cs.length) (h2 : cs.length ≤ 8) (h : ∀ c ∈ cs, 97 ≤ c ∧ c ≤ 122) : WordOk ⟨cs.toArray⟩ := ⟨by show 1 ≤ cs.toArray.size; simpa using h1, by show cs.toArray.size ≤ 8; simpa using h2, by simpa using h⟩
theorem word1 {i : Nat} (h : i < 26) : WordOk (S1 (97 + i)) := by
  refine word_of (cs := [97 + i]) (by simp) (by simp) fun c hc => ?_
  rw [List.mem_singleton.mp hc]
  omega
theorem lenCat (a b : Str) : (a ++ b).length = a.length + b.length := by
  show (a.cps ++ b.cps).size = _
  rw [Array.size_append]
  rfl
theorem tlCat (a b : Str) : (a ++ b).cps.toList = a.cps.toList ++ b.cps.toList := by
  show (a.cps ++ b.cps).toList = _
  rw [Array.toList_append]
theorem cutS_tl (z : Str) (lo hi : Option Int) : (cutS z lo hi).cps.toList = (z.cps.toList.drop (HT.sIx z.length 0 lo)).take (HT.sIx z.length z.length hi - HT.sIx z.length 0 lo) := rfl
theorem cutS_to (z : Str) (k : Nat) : (cutS z none (some (k : Int))).cps.toList = z.cps.toList.take k := by
  rw [cutS_tl, sIx_some]
  show List.take (min k z.length - 0) (List.drop 0 z.cps.toList) = _
  rw [List.drop_zero, Nat.sub_zero]
  rcases Nat.le_total k z.length with h | h
  · rw [Nat.min_eq_left h]
  · have hl : z.cps.toList.length = z.length := Array.length_toList
    rw [Nat.min_eq_right h, List.take_of_length_le (by rw [hl]; exact Nat.le_refl _), List.take_of_length_le (by rw [hl]; exact h)]
theorem cutS_from (z : Str) (k : Nat) : (cutS z (some (k : Int)) none).cps.toList = z.cps.toList.drop k := by
  rw [cutS_tl, sIx_some]
  show List.take (z.length - min k z.length) (List.drop (min k z.length) z.cps.toList) = _
  have hl : z.cps.toList.length = z.length := Array.length_toList
  rcases Nat.le_total k z.length with h | h
  · rw [Nat.min_eq_left h, List.take_of_length_le (by rw [List.length_drop, hl]; exact Nat.le_refl _)]
  · rw [Nat.min_eq_right h, List.drop_of_length_le (by rw [hl]; exact Nat.le_refl _), List.drop_of_length_le (by rw [hl]; exact h)]
    simp
theorem tl_len (z : Str) : z.cps.toList.length = z.length := Array.length_toList
/-- one letter exchanged -/
theorem word_set {w : Str} (h : WordOk w) {k i : Nat} (hk : k < w.length) (hi : i < 26) : WordOk (cutS w none (some (k : Int)) ++ S1 (97 + i) ++ cutS w (some ((k : Int) + 1)) none) := by
  obtain ⟨h1, h2, h3⟩ := h
  have e : (cutS w none (some (k : Int)) ++ S1 (97 + i) ++ cutS w (some ((k : Int) + 1)) none).cps.toList = w.cps.toList.take k ++ [97 + i] ++ w.cps.toList.drop (k + 1) := by
    have e1 : ((k : Int) + 1) = ((k + 1 : Nat) : Int) := by omega
    rw [tlCat, tlCat, cutS_to, e1, cutS_from]
  have hl := tl_len w
  refine ⟨?_, ?_, fun c hc => ?_⟩
  · rw [← tl_len, e, List.length_append, List.length_append]
    simp
    omega
  · rw [← tl_len, e, List.length_append, List.length_append, List.length_take, List.length_drop, hl]
    simp
    omega
  · rw [e] at hc
    simp only [List.mem_append, List.mem_singleton] at hc
    rcases hc with (hc | hc) | hc
    · exact h3 c (List.mem_of_mem_take hc)
    · omega
    · exact h3 c (List.mem_of_mem_drop hc)
theorem eqV_str {a b : Str} : eqV (V.str a) (V.str b) = decide (a = b) := by
  show (a == b) = _
  rw [Bool.eq_iff_iff, decide_eq_true_iff]
  exact beq_iff_eq
theorem inV_strs (w : Str) (ws : List Str) : inV (V.str w) (ws.map V.str) = decide (w ∈ ws) := by
  unfold inV
  rw [List.any_map, Bool.eq_iff_iff, decide_eq_true_iff, List.any_eq_true]
  constructor
  · rintro ⟨x, hx, e⟩
    have e : eqV (V.str x) (V.str w) = true := e
    rw [eqV_str, decide_eq_true_iff] at e
    exact e ▸ hx
  · intro h
    refine ⟨w, h, ?_⟩
    show eqV (V.str w) (V.str w) = true
    rw [eqV_str]
    simp
theorem flat_strs (ws : List Str) : (ws.map V.str).all flatV = true := by
  rw [List.all_map, List.all_eq_true]
  intro x _
  rfl
/-- more things than are barred: one is free -/
theorem pig {α : Type} [DecidableEq α] : ∀ (ws l : List α), l.Nodup → ws.length < l.length → ∃ x ∈ l, x ∉ ws
  | [], l, _, h => by
    cases l with
    | nil => simp at h
    | cons x l => exact ⟨x, by simp, by simp⟩
  | w :: ws, l, hn, h => by
    by_cases hw : w ∈ l
    · have hlen := List.length_erase_of_mem hw
      obtain ⟨x, h1, h2⟩ := pig ws (l.erase w) (hn.erase w) (by rw [hlen]; simp at h; omega)
      have h3 := (List.Nodup.mem_erase_iff hn).mp h1
      exact ⟨x, h3.2, by simp [h3.1, h2]⟩
    · obtain ⟨x, h1, h2⟩ := pig ws l hn (by simp at h; omega)
      exact ⟨x, h1, by
        simp only [List.mem_cons, not_or]
        exact ⟨fun e => hw (e ▸ h1), h2⟩⟩
theorem sum_S1 : ∀ cs : List Nat, ((cs.map S1).map (·.length)).sum = cs.length
  | [] => rfl
  | c :: cs => by
    rw [List.map_cons, List.map_cons, List.sum_cons, sum_S1 cs, List.length_cons]
    show 1 + cs.length = _
    omega
/-- the letters, one by one -/
def letters : List Str := (List.range 26).map fun i => S1 (97 + i)
theorem letters_nodup : letters.Nodup := by decide +kernel
theorem letters_len : letters.length = 26 := rfl
theorem letters_ok {x : Str} (h : x ∈ letters) : WordOk x := by
  obtain ⟨i, hi, rfl⟩ := List.mem_map.mp h
  exact word1 (List.mem_range.mp hi)
theorem signV_abc : signV abc = letters.map V.str := by
  unfold signV
  rw [abc_list]
  rfl
end Ef
namespace Ef
open PySem PySem.Spec PyProof.Rows C8
open L2 hiding E0 CX0 pass0 Fun
/-- a loop over any walk -/
theorem forG {J : It} {n : Nat} {g : TG} {tb : TS} {D : Ends} {σ : L2.St} {H : Hp} (Pv : Nat → L2.St → Hp → Prop) (h0 : Pv 0 σ H) (go : ∀ i σ H, i < n → Pv i σ H → J.go i H) (stop : ∀ σ H, Pv n σ H → J.stop n H)
    (hs : ∀ i σ H x H', i < n → Pv i σ H → J.yld i H x H' → g x σ H' fun σ2 H2 => tb { D with nx := Pv (i + 1), ct := Pv (i + 1), bk := D.nx } σ2 H2) (hd : ∀ σ H, Pv n σ H → D.nx σ H) :
    ∃ W : Nat → Nat → L2.St → Hp → Prop, (∃ m, W 0 m σ H) ∧ ∀ i m σ H, W i m σ H →
      (J.stop i H ∧ D.nx σ H) ∨ (J.go i H ∧ ∃ N : L2.St → Hp → Prop, (∀ σ' H', N σ' H' → ∃ m', m' < m ∧ W (i + 1) m' σ' H') ∧ ∀ x H', J.yld i H x H' → g x σ H' fun σ2 H2 => tb { D with nx := N, ct := N, bk := D.nx } σ2 H2) := by
  refine ⟨fun i m σ H => m = n - i ∧ i ≤ n ∧ Pv i σ H, ⟨n, by omega, Nat.zero_le _, h0⟩, ?_⟩
  rintro i m σ H ⟨rfl, hi, p⟩
  by_cases hlt : i < n
  · exact .inr ⟨go i σ H hlt p, Pv (i + 1), fun σ' H' p' => ⟨n - (i + 1), by omega, rfl, hlt, p'⟩, fun x H' y => hs i σ H x H' hlt p y⟩
  · have en : i = n := by omega
    subst en
    exact .inl ⟨stop σ H p, hd σ H p⟩
theorem ss_lay : ∀ ws : List Str, (∀ x ∈ ws, PyData.strOk x = true) → PyData.canLayAll0 (ws.map PyData.str) = true
  | [], _ => by simp [PyData.canLayAll0]
  | x :: ws, h => by simp only [List.map_cons, PyData.canLayAll0, PyData.canLay0, h x (by simp), ss_lay ws fun y hy => h y (List.mem_cons_of_mem _ hy), Bool.and_self]
theorem ss_depth : ∀ ws : List Str, PyData.depthAll (ws.map PyData.str) ≤ 1
  | [] => by simp [PyData.depthAll]
  | x :: ws => by
    have h := ss_depth ws
    simp only [List.map_cons, PyData.depthAll, PyData.depth]
    omega
theorem shaped_ss {ws : List Str} (h : ∀ x ∈ ws, PyData.strOk x = true) : SeqAt.shaped (dS ws) = true := by
  have h1 := ss_depth ws
  have h2 : PyData.depth (dS ws) ≤ 64 := by
    simp only [PyData.depth]
    omega
  show (PyData.canLay0 (dS ws) && decide (PyData.depth (dS ws) ≤ 64)) = true
  rw [Bool.and_eq_true]
  exact ⟨by simpa [PyData.canLay0] using ss_lay ws h, decide_eq_true h2⟩
theorem shaped_nil : SeqAt.shaped (.list []) = true := shaped_ss (ws := []) (by simp)
theorem ls_dp {K : PySem.W.Frag} {S : List Addr} {H : Hp} {ws : List Str} {v : V} (h : LS K S H ws v) : Dp K H v (dS ws) := Rp.dp (ls_rp.mp h)
end Ef
namespace Ef
open PySem PySem.Spec PyProof.Rows C8
open L2 hiding E0 CX0 pass0 Fun
/-! ### a dict by a comprehension over a list that stays -/
section
variable {K : PySem.W.Frag} {a D : Addr} {xs : List V} {S : List Addr} {g : TG} {tk tv : TE} {vs : List Nat} {σ : L2.St} {H1 : Hp} {Qd : Hp → Prop}
def PcT (S : List Addr) (H1 : Hp) (D : Addr) (A : Nat → List (List L2.Key × V) → Hp → Prop) (i : Nat) (H : Hp) : Prop := SB S H1 H ∧ ∃ kvs, H D = some (.dT kvs) ∧ kvs.length ≤ i ∧ A i kvs H
theorem dcR (hsrc : RL K S H1 a xs) (hD : H1 D = none) (A : Nat → List (List L2.Key × V) → Hp → Prop) (h0 : A 0 [] (upd H1 D (.dT [])))
    (turn : ∀ i x kvs H, xs[i]? = some x → SB S H1 H → H D = some (.dT kvs) → kvs.length ≤ i → A i kvs H → g x (wipe σ vs) H fun σ2 H2 => wipe σ2 vs = wipe σ vs ∧ tk σ2 H2 fun y H4 => tv σ2 H4 fun z H5 =>
      ∃ kvs k b, y = .ref b ∧ H5 b = some (.tup (k.map kV)) ∧ H5 D = some (.dT kvs) ∧ kvs.length < sizeLine ∧ PcT S H1 D A (i + 1) (upd H5 D (.dT (putK kvs k z))))
    (hd : ∀ H kvs, SB S H1 H → H D = some (.dT kvs) → kvs.length ≤ xs.length → A xs.length kvs H → Qd H) :
    ∃ W : Nat → Nat → Hp → Prop, (∃ m, W 0 m (upd H1 D (.dT []))) ∧ ∀ i m H, W i m H →
      ((Itl K a).stop i H ∧ Qd H) ∨ ((Itl K a).go i H ∧ ∃ N : Hp → Prop, (∀ H', N H' → ∃ m', m' < m ∧ W (i + 1) m' H') ∧ ∀ x H', (Itl K a).yld i H x H' → g x (wipe σ vs) H' fun σ2 H2 => wipe σ2 vs = wipe σ vs ∧ tk σ2 H2 fun y H4 => tv σ2 H4 fun z H5 =>
        ∃ kvs k b, y = .ref b ∧ H5 b = some (.tup (k.map kV)) ∧ H5 D = some (.dT kvs) ∧ kvs.length < sizeLine ∧ N (upd H5 D (.dT (putK kvs k z)))) := by
  refine ⟨fun i m H => m = xs.length - i ∧ i ≤ xs.length ∧ PcT S H1 D A i H, ⟨xs.length, by omega, Nat.zero_le _, SB.same.mut hD, [], upd_same, Nat.le_refl _, h0⟩, ?_⟩
  rintro i m H ⟨rfl, hi, s, kvs, e, hl, ha⟩
  by_cases hlt : i < xs.length
  · refine .inr ⟨⟨xs, xs[i], (hsrc.sb s).sq, List.getElem?_eq_getElem hlt⟩, PcT S H1 D A (i + 1), fun H' p => ⟨xs.length - (i + 1), by omega, rfl, hlt, p⟩, fun x H' y => ?_⟩
    obtain ⟨e1, hy⟩ := y
    subst e1
    exact turn i x kvs _ (hy xs (hsrc.sb s).sq) s e hl ha
  · have en : i = xs.length := by omega
    subst en
    exact .inl ⟨⟨xs, (hsrc.sb s).sq, Nat.le_refl _⟩, hd H kvs s e hl ha⟩
/-- .. with texts as keys, whatever is kept -/
def PcK (S : List Addr) (H1 : Hp) (D : Addr) (i : Nat) (H : Hp) : Prop := SB S H1 H ∧ ∃ kvs, H D = some (.dK kvs) ∧ kvs.length ≤ i
theorem dcK {tt : TT} (hsrc : RL K S H1 a xs) (hD : H1 D = none)
    (turn : ∀ i x kvs H, xs[i]? = some x → SB S H1 H → H D = some (.dK kvs) → kvs.length ≤ i → g x (wipe σ vs) H fun σ2 H2 => wipe σ2 vs = wipe σ vs ∧ tt σ2 H2 fun b H3 => if b = true then tk σ2 H3 fun y H4 => tv σ2 H4 fun z H5 =>
      ∃ kvs k, y = kV k ∧ H5 D = some (.dK kvs) ∧ kvs.length < sizeLine ∧ PcK S H1 D (i + 1) (upd H5 D (.dK (putK kvs k z))) else PcK S H1 D (i + 1) H3)
    (hd : ∀ H kvs, SB S H1 H → H D = some (.dK kvs) → Qd H) :
    ∃ W : Nat → Nat → Hp → Prop, (∃ m, W 0 m (upd H1 D (.dK []))) ∧ ∀ i m H, W i m H →
      ((Itl K a).stop i H ∧ Qd H) ∨ ((Itl K a).go i H ∧ ∃ N : Hp → Prop, (∀ H', N H' → ∃ m', m' < m ∧ W (i + 1) m' H') ∧ ∀ x H', (Itl K a).yld i H x H' → g x (wipe σ vs) H' fun σ2 H2 => wipe σ2 vs = wipe σ vs ∧ tt σ2 H2 fun b H3 => if b = true then tk σ2 H3 fun y H4 => tv σ2 H4 fun z H5 =>
        ∃ kvs k, y = kV k ∧ H5 D = some (.dK kvs) ∧ kvs.length < sizeLine ∧ N (upd H5 D (.dK (putK kvs k z))) else N H3) := by
  refine ⟨fun i m H => m = xs.length - i ∧ i ≤ xs.length ∧ PcK S H1 D i H, ⟨xs.length, by omega, Nat.zero_le _, SB.same.mut hD, [], upd_same, Nat.le_refl _⟩, ?_⟩
  rintro i m H ⟨rfl, hi, s, kvs, e, hl⟩
  by_cases hlt : i < xs.length
  · refine .inr ⟨⟨xs, xs[i], (hsrc.sb s).sq, List.getElem?_eq_getElem hlt⟩, PcK S H1 D (i + 1), fun H' p => ⟨xs.length - (i + 1), by omega, rfl, hlt, p⟩, fun x H' y => ?_⟩
    obtain ⟨e1, hy⟩ := y
    subst e1
    exact turn i x kvs _ (hy xs (hsrc.sb s).sq) s e hl
  · have en : i = xs.length := by omega
    subst en
    exact .inl ⟨⟨xs, (hsrc.sb s).sq, Nat.le_refl _⟩, hd H kvs s e⟩
end
/-- the key of a pair of texts -/
def kP (q : Str × Str) : List L2.Key := [Sum.inr q.1, Sum.inr q.2]
theorem kP_v (q : Str × Str) : (kP q).map kV = [V.str q.1, V.str q.2] := rfl
theorem kP_inj {q r : Str × Str} (h : kP q = kP r) : q = r := by
  obtain ⟨a, b⟩ := q
  obtain ⟨c, d⟩ := r
  simp [kP] at h
  rw [h.1, h.2]
end Ef
namespace Ef
open PySem PySem.Spec PyProof.Rows C8
open L2 hiding E0 CX0 pass0 Fun
abbrev abt : Str := "abcdefghijklmnopqrst"
/-- twenty letters, and each eight times -/
def twenty : List Str := (List.range 20).map fun i => S1 (97 + i)
def bigs : List Str := twenty.map fun x => repS x 8
theorem abt_list : abt.cps.toList = (List.range 20).map (97 + ·) := by decide +kernel
theorem signV_abt : signV abt = twenty.map V.str := by
  unfold signV
  rw [abt_list]
  rfl
theorem twenty_one : ∀ x ∈ twenty, x.length = 1 := by decide +kernel
theorem bigs_ok : ∀ x ∈ bigs, WordOk x := by
  have h : ∀ x ∈ bigs, 1 ≤ x.length ∧ x.length ≤ 8 ∧ (x.cps.toList.all fun c => decide (97 ≤ c) && decide (c ≤ 122)) = true := by decide +kernel
  intro x hx
  obtain ⟨h1, h2, h3⟩ := h x hx
  refine ⟨h1, h2, fun c hc => ?_⟩
  have := List.all_eq_true.mp h3 c hc
  simpa using this
theorem bigs_nodup : bigs.Nodup := by decide +kernel
theorem bigs_len : bigs.length = 20 := rfl
/-- those that are not in the crowd -/
def strange (ws : List Str) : List Str := bigs.filter fun x => !decide (x ∈ ws)
theorem strange_nodup {ws : List Str} : (strange ws).Nodup := bigs_nodup.filter _
theorem strange_ok {ws : List Str} {x : Str} (h : x ∈ strange ws) : WordOk x ∧ x ∉ ws := by
  obtain ⟨h1, h2⟩ := List.mem_filter.mp h
  exact ⟨bigs_ok x h1, by simpa using h2⟩
theorem strange_two {ws : List Str} (h : ws.length ≤ 18) : ∃ a b r, strange ws = a :: b :: r := by
  obtain ⟨x, h1, h2⟩ := pig ws bigs bigs_nodup (by rw [bigs_len]; omega)
  obtain ⟨y, h3, h4⟩ := pig (x :: ws) bigs bigs_nodup (by rw [bigs_len, List.length_cons]; omega)
  rw [List.mem_cons, not_or] at h4
  have mx : x ∈ strange ws := List.mem_filter.mpr ⟨h1, by simpa using h2⟩
  have my : y ∈ strange ws := List.mem_filter.mpr ⟨h3, by simpa using h4.2⟩
  match e : strange ws with
  | [] => rw [e] at mx; cases mx
  | [a] =>
    rw [e] at mx my
    rw [List.mem_singleton] at mx my
    exact absurd (my.trans mx.symm) h4.1
  | a :: b :: r => exact ⟨a, b, r, rfl⟩
end Ef
namespace Ef
open PySem PySem.Spec PyProof.Rows C8
open L2 hiding E0 CX0 pass0 Fun
/-! ### a walk of any kind, by an invariant -/
theorem walkJ {J : It} {n : Nat} {B : V → Hp → (Hp → Prop) → Prop} {G0 : Hp} {Qd : Hp → Prop} (Pv : Nat → Hp → Prop) (h0 : Pv 0 G0) (go : ∀ i H, i < n → Pv i H → J.go i H) (stop : ∀ H, Pv n H → J.stop n H)
    (turn : ∀ i H x H', i < n → Pv i H → J.yld i H x H' → B x H' (Pv (i + 1))) (hd : ∀ H, Pv n H → Qd H) :
    ∃ W : Nat → Nat → Hp → Prop, (∃ m, W 0 m G0) ∧ ∀ i m H, W i m H → (J.stop i H ∧ Qd H) ∨ (J.go i H ∧ ∃ Nx : Hp → Prop, (∀ H', Nx H' → ∃ m', m' < m ∧ W (i + 1) m' H') ∧ ∀ x H', J.yld i H x H' → B x H' Nx) := by
  refine ⟨fun i m H => m = n - i ∧ i ≤ n ∧ Pv i H, ⟨n, by omega, Nat.zero_le _, h0⟩, ?_⟩
  rintro i m H ⟨rfl, hi, p⟩
  by_cases hlt : i < n
  · exact .inr ⟨go i H hlt p, Pv (i + 1), fun H' p' => ⟨n - (i + 1), by omega, rfl, hlt, p'⟩, fun x H' y => turn i H x H' hlt p y⟩
  · have e : i = n := by omega
    subst e
    exact .inl ⟨stop H p, hd H p⟩
theorem walkN {lo : Int} {n : Nat} {B : V → Hp → (Hp → Prop) → Prop} {G0 : Hp} {Qd : Hp → Prop} (Pv : Nat → Hp → Prop) (h0 : Pv 0 G0) (turn : ∀ i H, i < n → Pv i H → B (.int (lo + (i : Int))) H (Pv (i + 1))) (hd : ∀ H, Pv n H → Qd H) :
    ∃ W : Nat → Nat → Hp → Prop, (∃ m, W 0 m G0) ∧ ∀ i m H, W i m H → ((Itr lo n).stop i H ∧ Qd H) ∨ ((Itr lo n).go i H ∧ ∃ Nx : Hp → Prop, (∀ H', Nx H' → ∃ m', m' < m ∧ W (i + 1) m' H') ∧ ∀ x H', (Itr lo n).yld i H x H' → B x H' Nx) :=
  walkJ (n := n) Pv h0 (fun _ _ h _ => h) (fun _ _ => Nat.le_refl _) (fun i H x H' hi p y => by obtain ⟨e, y⟩ := y; subst e y; exact turn i _ hi p) hd
theorem walkN0 {n : Nat} {B : V → Hp → (Hp → Prop) → Prop} {G0 : Hp} {Qd : Hp → Prop} (Pv : Nat → Hp → Prop) (h0 : Pv 0 G0) (turn : ∀ i H, i < n → Pv i H → B (.int (i : Int)) H (Pv (i + 1))) (hd : ∀ H, Pv n H → Qd H) :
    ∃ W : Nat → Nat → Hp → Prop, (∃ m, W 0 m G0) ∧ ∀ i m H, W i m H → ((Itr 0 n).stop i H ∧ Qd H) ∨ ((Itr 0 n).go i H ∧ ∃ Nx : Hp → Prop, (∀ H', Nx H' → ∃ m', m' < m ∧ W (i + 1) m' H') ∧ ∀ x H', (Itr 0 n).yld i H x H' → B x H' Nx) :=
  walkN (n := n) Pv h0 (fun i H hi p => by rw [Int.zero_add]; exact turn i H hi p) hd
theorem walkL {K : PySem.W.Frag} {a : Addr} {xs : List V} {B : V → Hp → (Hp → Prop) → Prop} {G0 : Hp} {Qd : Hp → Prop} (Pv : Nat → Hp → Prop) (hq : ∀ i H, Pv i H → SqL K H a xs) (h0 : Pv 0 G0) (turn : ∀ i x H, xs[i]? = some x → Pv i H → B x H (Pv (i + 1))) (hd : ∀ H, Pv xs.length H → Qd H) :
    ∃ W : Nat → Nat → Hp → Prop, (∃ m, W 0 m G0) ∧ ∀ i m H, W i m H → ((Itl K a).stop i H ∧ Qd H) ∨ ((Itl K a).go i H ∧ ∃ Nx : Hp → Prop, (∀ H', Nx H' → ∃ m', m' < m ∧ W (i + 1) m' H') ∧ ∀ x H', (Itl K a).yld i H x H' → B x H' Nx) :=
  walkJ (n := xs.length) Pv h0 (fun i H hi p => ⟨xs, xs[i], hq i H p, List.getElem?_eq_getElem hi⟩) (fun H p => ⟨xs, hq _ H p, Nat.le_refl _⟩) (fun i H x H' hi p y => by obtain ⟨e, y⟩ := y; subst e; exact turn i x _ (y xs (hq i _ p)) p) hd
/-- the list made so far -/
def Pd (S : List Addr) (H1 : Hp) (D : Addr) (A : List V → Hp → Prop) (H : Hp) : Prop := SB S H1 H ∧ ∃ acc, H D = some (.lst acc) ∧ A acc H
theorem Pd.put {S : List Addr} {H1 : Hp} {D : Addr} {A : List V → Hp → Prop} {acc : List V} {y : V} {H4 : Hp} (hD : H1 D = none) (hl : acc.length < sizeLine) (s : SB S H1 H4) (e : H4 D = some (.lst acc))
    (h : A (acc ++ [y]) (upd H4 D (.lst (acc ++ [y])))) : ∃ acc, H4 D = some (.lst acc) ∧ acc.length < sizeLine ∧ Pd S H1 D A (upd H4 D (.lst (acc ++ [y]))) := ⟨acc, e, hl, s.mut hD, acc ++ [y], upd_same, h⟩

theorem decV_n (a i : Nat) : decide (V.int (a : Int) = V.int (i : Int)) = decide (a = i) := decide_eq_decide.mpr ⟨fun h => by injection h with h; omega, fun h => by rw [h]⟩
theorem decV_i (a i : Int) : decide (V.int a = V.int i) = decide (a = i) := decide_eq_decide.mpr ⟨fun h => by injection h, fun h => by rw [h]⟩
theorem toNat_of {k n : Nat} (h : k = n) : ((k : Nat) : Int).toNat = n := by omega
theorem filter_snoc {α : Type} (f : α → Bool) (l : List α) (x : α) : (l ++ [x]).filter f = if f x = true then l.filter f ++ [x] else l.filter f := by
  rw [List.filter_append, List.filter_cons]
  split <;> simp
/-! ### pairs of ints -/
section
variable {K : PySem.W.Frag} {S T : List Addr} {H H' : Hp} {p : Addr}
def I2 (K : PySem.W.Frag) (S : List Addr) (H : Hp) (q : Nat × Nat) (v : V) : Prop := ∃ a, v = .ref a ∧ RT2 K S H a [.int (q.1 : Int), .int (q.2 : Int)]
theorem I2.sb {q : Nat × Nat} {v : V} (h : I2 K S H q v) (e : SB S H H') : I2 K S H' q v := let ⟨a, q, r⟩ := h; ⟨a, q, r.sb e⟩
theorem I2.less {q : Nat × Nat} {v : V} (h : I2 K S H q v) (e : ∀ b ∈ T, b ∈ S) : I2 K T H q v := let ⟨a, q, r⟩ := h; ⟨a, q, r.less e⟩
theorem I2.put {q : Nat × Nat} {v : V} {D : Addr} {zs : List V} {o : HO} (h : I2 K S H q v) (e : H D = some (.lst zs)) : I2 K S (upd H D o) q v := by
  obtain ⟨a, rfl, n, et⟩ := h
  refine ⟨a, rfl, n, ?_⟩
  rw [upd_ne (fun z => by rw [z, e] at et; cases et)]
  exact et
abbrev I2s (K : PySem.W.Frag) (S : List Addr) (H : Hp) : List (Nat × Nat) → List V → Prop := Paired (I2 K S H)
theorem I2s.sb {qs : List (Nat × Nat)} {vs : List V} (h : I2s K S H qs vs) (e : SB S H H') : I2s K S H' qs vs := Paired.mapP h fun _ _ z => z.sb e
theorem I2s.put {qs : List (Nat × Nat)} {vs : List V} {D : Addr} {zs : List V} {o : HO} (h : I2s K S H qs vs) (e : H D = some (.lst zs)) : I2s K S (upd H D o) qs vs := Paired.mapP h fun _ _ z => z.put e
theorem I2s.len {qs : List (Nat × Nat)} {vs : List V} (h : I2s K S H qs vs) : vs.length = qs.length := (Paired.length h).symm
end

/-! ### grids -/
abbrev dG (g : List (List Int)) : PyData := .list (g.map fun r => .list (r.map PyData.int))
structure Grid (g : List (List Int)) (n m : Nat) : Prop where
  ln : g.length = n
  lm : ∀ r ∈ g, r.length = m
  n1 : 1 ≤ n
  n2 : n ≤ 60
  m2 : m ≤ 60
def cell (g : List (List Int)) (a d : Nat) : Int := (g.getD a []).getD d 0
theorem Grid.at {g : List (List Int)} {n m a d : Nat} (h : Grid g n m) (ha : a < n) (hd : d < m) : ∃ r, g[a]? = some r ∧ r.length = m ∧ r[d]? = some (cell g a d) := by
  have ha' : a < g.length := by rw [h.ln]; exact ha
  have e := List.getElem?_eq_getElem ha'
  have hm := h.lm _ (List.mem_of_getElem? e)
  refine ⟨_, e, hm, ?_⟩
  unfold cell
  rw [List.getD_eq_getElem?_getD (l := g), e, Option.getD_some, List.getD_eq_getElem?_getD, List.getElem?_eq_getElem (by rw [hm]; exact hd)]
  rfl
theorem grid_rp {K : PySem.W.Frag} {S : List Addr} {H : Hp} {g : List (List Int)} {v : V} (h : Rp K S H (dG g) v) : ∃ ga xs, v = .ref ga ∧ RL K S H ga xs ∧ xs.length = g.length ∧ ∀ (a : Nat) (r : List Int), g[a]? = some r → ∃ b, xs[a]? = some (V.ref b) ∧ RL K S H b (r.map V.int) := by
  obtain ⟨ga, xs, rfl, h1, h2⟩ := h
  refine ⟨ga, xs, rfl, h1, by rw [h2.len, List.length_map], fun a r e => ?_⟩
  obtain ⟨v, e1, b, ys, rfl, h3, h4⟩ := h2.get (i := a) (d := .list (r.map PyData.int)) (by rw [List.getElem?_map, e] <;> rfl)
  rw [rpl_ints.mp h4] at h3
  exact ⟨b, e1, h3⟩
def placesL (n m : Nat) : List (Nat × Nat) := (List.range n).flatMap fun i => (List.range m).map fun j => (i, j)
def peopleL (g : List (List Int)) (n i j : Nat) : List Nat := (List.range n).filter fun a => !decide (a = i) && decide (cell g a j = 1)
def clubsL (g : List (List Int)) (m i j : Nat) : List Nat := (List.range m).filter fun d => !decide (d = j) && decide (cell g i d = 1)
def acrossL (g : List (List Int)) (n m i j : Nat) : List (Nat × Nat) := (peopleL g n i j).flatMap fun a => ((clubsL g m i j).filter fun d => decide (cell g a d = 1)).map fun d => (a, d)
end Ef
namespace Ef
open PySem PySem.Spec PyProof.Rows C8
open L2 hiding E0 CX0 pass0 Fun
/-! ### dicts whose keys are tuples of pairs of texts -/
def nkP (pl : List (Str × Str)) : NestedKey := .tup (pl.map fun q => .tup [.text q.1, .text q.2])
theorem nkP_inj {a b : List (Str × Str)} (h : nkP a = nkP b) : a = b := by
  have h : a.map (fun q => NestedKey.tup [.text q.1, .text q.2]) = b.map fun q => NestedKey.tup [.text q.1, .text q.2] := by
    unfold nkP at h
    injection h
  refine List.map_inj_right (fun x y e => ?_) |>.mp h
  injection e with e
  injection e with e1 e2
  injection e2 with e2 _
  injection e1 with e1
  injection e2 with e2
  exact Prod.ext e1 e2
theorem nkP_depth (pl : List (Str × Str)) : (nkP pl).depth ≤ 8 := by
  have h : ∀ l : List (Str × Str), NestedKey.depthAll (l.map fun q => NestedKey.tup [.text q.1, .text q.2]) ≤ 1 := by
    intro l
    induction l with
    | nil => simp [NestedKey.depthAll]
    | cons q l ih =>
      simp only [List.map_cons, NestedKey.depthAll, NestedKey.depth]
      omega
  have := h pl
  unfold nkP
  simp only [NestedKey.depth]
  omega
/-- a tuple of pairs of texts, tracked -/
def TupP (K : PySem.W.Frag) (H : Hp) (pl : List (Str × Str)) (a : Addr) : Prop := ∃ vs, H a = some (.tup vs) ∧ P2s K [] H pl vs
theorem TupP.sb {K : PySem.W.Frag} {H H' : Hp} {pl : List (Str × Str)} {a : Addr} (h : TupP K H pl a) (s : SB [] H H') : TupP K H' pl a := let ⟨vs, e, p⟩ := h; ⟨vs, s _ _ (by simp) e, P2s.sb p s⟩
/-- .. where only lists change -/
theorem TupP.lists {K : PySem.W.Frag} {S : List Addr} {H H' : Hp} {pl : List (Str × Str)} {a : Addr} (h : TupP K H pl a) (s : SB S H H') (hS : ∀ b ∈ S, ∀ xs, H b ≠ some (.tup xs)) : TupP K H' pl a := by
  obtain ⟨vs, e, p⟩ := h
  refine ⟨vs, s a _ (fun z => hS a z _ e) e, Paired.mapP p fun q v ⟨t, e1, _, e2⟩ => ⟨t, e1, by simp, s t _ (fun z => hS t z _ e2) e2⟩⟩
section
variable {X : Cx} {pins : List (Addr × Obj)} {σ : L2.St} {H : Hp} {s : Shared}
theorem tupP_is {pl : List (Str × Str)} {a : Addr} {K : PySem.W.Frag} (I : Inv X pins σ H s) (h : TupP K H pl a) : (nestedKind X.prog X.w).is s.heap (nkP pl) a := by
  obtain ⟨vs, e, p⟩ := h
  refine ⟨?_, nkP_depth pl⟩
  obtain ⟨_, us, rv, o, e1, e2, n, e3⟩ := (show ObjOk X.prog X.w H s.heap a (.tup vs) from I.hok a _ e)
  have all : ∀ {pl : List (Str × Str)} {vs : List V} {us : List Value}, P2s K [] H pl vs → Vals vs us → NestedAll s.heap (pl.map fun q => .tup [.text q.1, .text q.2]) us := by
    intro pl vs us p
    induction p generalizing us with
    | nil =>
      intro r
      cases r
      exact .nil
    | @cons q v pl vs hq _ ih =>
      intro r
      cases r with
      | @cons _ u _ us r1 r2 =>
        refine .cons ?_ (ih r2)
        obtain ⟨t, rfl, _, et⟩ := hq
        cases r1
        obtain ⟨_, ws, rw, o2, f1, f2, n2, f3⟩ := (show ObjOk X.prog X.w H s.heap t (.tup [V.str q.1, V.str q.2]) from I.hok t _ et)
        refine .tup f1 f2 f3 ?_
        obtain ⟨x, y, ew, r1, r2⟩ := rw.two
        subst ew
        obtain ⟨tx, rfl⟩ := (show ∃ t, x = Value.str q.1 t from r1)
        obtain ⟨ty, rfl⟩ := (show ∃ t, y = Value.str q.2 t from r2)
        exact .cons (.text _ _) (.cons (.text _ _) .nil)
  exact .tup e1 e2 e3 (by simpa using all p rv)
end
/-- what stands at d: the keys, where they lie, the values -/
abbrev EnN : Type := List (Str × Str) × Addr × V
def phiN (P : Program) (w : World) (d : Addr) (kvs : List EnN) (h : Heap) : Prop :=
  kvs.length ≤ sizeLine ∧ (d == sysModules) = false ∧ ∃ xs : List (NestedKey × Addr × Value), Paired (fun (p : EnN) (x : NestedKey × Addr × Value) => x.1 = nkP p.1 ∧ x.2.1 = p.2.1 ∧ RelV p.2.2 x.2.2) kvs xs ∧
    ∃ o es ep, h.get? d = some o ∧ o.ExactDict ∧ o.data = .dict es ep ∧ es.toList = xs.map (entryOfKey (nestedKind P w)) ∧ (xs.map (·.1)).Nodup
def dN (P : Program) (w : World) (d : Addr) (kvs : List EnN) : HO := .ext (phiN P w d kvs)
def KeysAt (K : PySem.W.Frag) (H : Hp) (kvs : List EnN) : Prop := ∀ e ∈ kvs, TupP K H e.1 e.2.1
theorem KeysAt.sb {K : PySem.W.Frag} {H H' : Hp} {kvs : List EnN} (h : KeysAt K H kvs) (s : SB [] H H') : KeysAt K H' kvs := fun e he => (h e he).sb s
section
variable {P : Program} {w : World} {d : Addr} {kvs : List EnN} {h h' : Heap} {H : Hp}
theorem phiN_at (x : phiN P w d kvs h) (e : ∀ o, h.get? d = some o → h'.get? d = some o) : phiN P w d kvs h' := by
  obtain ⟨a, b, xs, c, o, es, ep, e1, r⟩ := x
  exact ⟨a, b, xs, c, o, es, ep, e o e1, r⟩
theorem dN_ok (x : phiN P w d kvs h) : ObjOk P w H h d (dN P w d kvs) := by
  obtain ⟨_, _, xs, _, o, es, ep, e1, _⟩ := id x
  exact ⟨x, ⟨o, e1⟩, fun h1 h2 p e => phiN_at p e⟩
theorem phiN_new (hb : sysModules < h.objs.size) : phiN P w h.objs.size [] (h.push { cls := .type "dict", data := .dict #[] }) :=
  ⟨Nat.zero_le _, beq_eq_false_iff_ne.mpr (Nat.ne_of_gt hb), [], .nil, _, #[], 0, Heap.get?_push_size _ rfl, ⟨rfl, rfl, rfl⟩, rfl, rfl, List.nodup_nil⟩
end
section
variable {X : Cx} {K : PySem.W.Frag} {pins : List (Addr × Obj)} {σ : L2.St} {H : Hp} {s : Shared} {d b : Addr} {kvs : List EnN} {pl : List (Str × Str)} {A : Around} {E : Value → Shared → Prop}
theorem phiN_dict (I : Inv X pins σ H s) (hd : H d = some (dN X.prog X.w d kvs)) (hk : KeysAt K H kvs) : kvs.length ≤ sizeLine ∧ (d == sysModules) = false ∧ ∃ xs : List (NestedKey × Addr × Value), Paired (fun (p : EnN) (x : NestedKey × Addr × Value) => x.1 = nkP p.1 ∧ x.2.1 = p.2.1 ∧ RelV p.2.2 x.2.2) kvs xs ∧ s.heap.DictOfH (nestedKind X.prog X.w) d xs := by
  obtain ⟨⟨z, lo, xs, pr, o, es, ep, e1, e2, e3, e4, e5⟩, _⟩ := (show ObjOk X.prog X.w H s.heap d (dN X.prog X.w d kvs) from I.hok d _ hd)
  refine ⟨z, lo, xs, pr, o, es, ep, e1, e2, e3, e4, fun x hx => ?_, e5⟩
  obtain ⟨i, hi⟩ := List.getElem?_of_mem hx
  obtain ⟨p, hp, q1, q2, _⟩ := Paired.at1 pr hi
  rw [q1, q2]
  exact tupP_is I (hk p (List.mem_of_getElem? hp))
theorem any_keys {xs : List (NestedKey × Addr × Value)} (pr : Paired (fun (p : EnN) (x : NestedKey × Addr × Value) => x.1 = nkP p.1 ∧ x.2.1 = p.2.1 ∧ RelV p.2.2 x.2.2) kvs xs) : (atKey xs (nkP pl)).isSome = decide (pl ∈ kvs.map (·.1)) := by
  induction pr with
  | nil => rfl
  | @cons p x kvs xs h _ ih =>
    obtain ⟨h1, _⟩ := h
    by_cases e : pl = p.1
    · have e2 : x.1 = nkP pl := by rw [h1, e]
      simp [atKey, e2, e]
    · have e2 : ¬ x.1 = nkP pl := fun z => e (nkP_inj (z.symm.trans h1))
      have e3 : atKey (x :: xs) (nkP pl) = atKey xs (nkP pl) := by simp [atKey, e2]
      rw [e3, ih]
      simp [e]
theorem get_key {xs : List (NestedKey × Addr × Value)} {v : V} {a : Addr} (pr : Paired (fun (p : EnN) (x : NestedKey × Addr × Value) => x.1 = nkP p.1 ∧ x.2.1 = p.2.1 ∧ RelV p.2.2 x.2.2) kvs xs) (nd : (kvs.map (·.1)).Nodup) (hm : (pl, a, v) ∈ kvs) : ∃ u, atKey xs (nkP pl) = some (a, u) ∧ RelV v u := by
  induction pr with
  | nil => cases hm
  | @cons p x kvs xs h _ ih =>
    obtain ⟨h1, h2, h3⟩ := h
    rw [List.map_cons, List.nodup_cons] at nd
    rcases List.mem_cons.mp hm with e | e
    · subst e
      exact ⟨x.2.2, by simp only [atKey, List.find?_cons, h1, decide_true, Option.map_some]; exact congrArg some (Prod.ext h2 rfl), h3⟩
    · have e2 : ¬ x.1 = nkP pl := fun z => nd.1 (List.mem_map.mpr ⟨_, e, nkP_inj (z.symm.trans h1)⟩)
      obtain ⟨u, q1, q2⟩ := ih nd.2 e
      exact ⟨u, by rw [← q1]; simp [atKey, e2], q2⟩
end
/-! the rules -/
def tInN (P : Program) (w : World) (K : PySem.W.Frag) (neg : Bool) (ty td : TE) : TE := fun σ H Q => ty σ H fun y H1 => td σ H1 fun x H2 => ∃ d b kvs pl, x = .ref d ∧ y = .ref b ∧ H2 d = some (dN P w d kvs) ∧ KeysAt K H2 kvs ∧ TupP K H2 pl b ∧ Q (.bl (if neg = true then !decide (pl ∈ kvs.map (·.1)) else decide (pl ∈ kvs.map (·.1)))) H2
def tGetN (P : Program) (w : World) (K : PySem.W.Frag) (td ty : TE) : TE := fun σ H Q => td σ H fun x H1 => ty σ H1 fun y H2 => ∃ d b kvs pl a v, x = .ref d ∧ y = .ref b ∧ H2 d = some (dN P w d kvs) ∧ KeysAt K H2 kvs ∧ (kvs.map (·.1)).Nodup ∧ TupP K H2 pl b ∧ (pl, a, v) ∈ kvs ∧ Q v H2
def sPutN (P : Program) (w : World) (K : PySem.W.Frag) (td ty tv : TE) : TS := fun D σ H => tv σ H fun v H1 => td σ H1 fun x H2 => ty σ H2 fun y H3 => ∃ d b kvs pl, x = .ref d ∧ y = .ref b ∧ H3 d = some (dN P w d kvs) ∧ KeysAt K H3 kvs ∧ TupP K H3 pl b ∧ pl ∉ kvs.map (·.1) ∧ kvs.length < sizeLine ∧ D.nx σ (upd H3 d (dN P w d (kvs ++ [(pl, b, v)])))
def tNewN (P : Program) (w : World) : TE := fun _ H Q => ∀ p, H p = none → Q (.ref p) (upd H p (dN P w p []))
def tDispN (P : Program) (w : World) (K : PySem.W.Frag) (tk tv : TE) : TE := fun σ H Q => ∀ p, H p = none → tk σ (upd H p (dN P w p [])) fun y H2 => tv σ H2 fun v H3 => ∃ b pl, y = .ref b ∧ H3 p = some (dN P w p []) ∧ TupP K H3 pl b ∧ Q (.ref p) (upd H3 p (dN P w p [(pl, b, v)]))
def rListN (P : Program) (w : World) (K : PySem.W.Frag) : List V → Hp → VK → Prop := fun xs H Q => ∃ d kvs, xs = [V.ref d] ∧ H d = some (dN P w d kvs) ∧ KeysAt K H kvs ∧ ∀ p, H p = none → Q (.ref p) (upd H p (.lst (kvs.map fun e => V.ref e.2.1)))
theorem roomN {A : Around} (h : A.units + 64 < cLine) {P : Program} {w : World} : (nestedKind P w).room A.in1 := by
  show A.in1.units + 8 < cLine
  have : A.in1.units ≤ A.units + 1 := by simp [Around.in1]
  omega
section
variable {X : Cx} {K : PySem.W.Frag} {o i e k v value : Expr} {pos pos' : Pos} {td ty tv tk : TE}
theorem dictN_is {pins : List (Addr × Obj)} {σ : L2.St} {H : Hp} {s : Shared} {d : Addr} {kvs : List EnN} (I : Inv X pins σ H s) (hd : H d = some (dN X.prog X.w d kvs)) : s.TypeIs (.ref d) "dict" := by
  obtain ⟨⟨z, lo, xs, pr, o, es, ep, e1, e2, _⟩, _⟩ := (show ObjOk X.prog X.w H s.heap d (dN X.prog X.w d kvs) from I.hok d _ hd)
  exact ⟨o, e1, e2.1⟩
theorem pc_inN (hu : X.A.units + 64 < cLine) (hi : PE X i ty) (ho : PE X o td) : PC X .In i o (tInN X.prog X.w K false ty td) := by
  refine ⟨fun pins s σ H Q I h => thn (hi.run pins s σ H _ I h) fun iv s1 ⟨y, H1, I1, ry, q1⟩ => thn (ho.run pins s1 σ H1 _ I1 q1) fun u s2 ⟨x, H2, I2, rx, d, b, kvs, pl, ex, ey, hd, hk, hb, q2⟩ => ?_⟩
  subst ex ey
  cases rx
  cases ry
  obtain ⟨_, lo, xs, pr, dd⟩ := phiN_dict I2 hd hk
  refine wpAny_in_heap (roomN hu) (tupP_is I2 hb) lo dd ?_
  rw [any_keys pr]
  exact ⟨.bl (decide (pl ∈ kvs.map fun e : EnN => e.1)), H2, I2.tok _, rfl, q2⟩
theorem pc_notInN (hu : X.A.units + 64 < cLine) (hi : PE X i ty) (ho : PE X o td) : PC X .NotIn i o (tInN X.prog X.w K true ty td) := by
  refine ⟨fun pins s σ H Q I h => thn (hi.run pins s σ H _ I h) fun iv s1 ⟨y, H1, I1, ry, q1⟩ => thn (ho.run pins s1 σ H1 _ I1 q1) fun u s2 ⟨x, H2, I2, rx, d, b, kvs, pl, ex, ey, hd, hk, hb, q2⟩ => ?_⟩
  subst ex ey
  cases rx
  cases ry
  obtain ⟨_, lo, xs, pr, dd⟩ := phiN_dict I2 hd hk
  refine wpAny_notIn_heap (roomN hu) (tupP_is I2 hb) lo dd ?_
  rw [any_keys pr]
  exact ⟨.bl (!decide (pl ∈ kvs.map fun e : EnN => e.1)), H2, I2.tok _, rfl, q2⟩
theorem pe_getN (hu : X.A.units + 64 < cLine) (ho : PE X o td) (hi : PE X i ty) (hs : NoSl i) : PE X (.Subscript o i pos) (tGetN X.prog X.w K td ty) := by
  refine ⟨fun pins s σ H Q I h => subD_of PySem.F.slot_dict_getitem.lookup hs (thn (ho.run pins s σ H _ I h) fun u s1 ⟨x, H1, I1, rx, q1⟩ => thn (hi.run pins s1 σ H1 _ I1 q1) fun iv s2 ⟨y, H2, I2, ry, d, b, kvs, pl, a, v, ex, ey, hd, hk, nd, hb, hm, q2⟩ => ?_)⟩
  subst ex ey
  cases rx
  cases ry
  obtain ⟨_, lo, xs, pr, dd⟩ := phiN_dict I2 hd hk
  obtain ⟨u, h1, h2⟩ := get_key pr nd hm
  exact ⟨dictN_is I2 hd, wpAny_getItem_heap (roomN hu) (tupP_is I2 hb) dd h1 ⟨v, H2, I2.tok _, h2, q2⟩⟩
theorem paired_snoc {α β : Type} {F : α → β → Prop} {l : List α} {m : List β} {a : α} {b : β} (h : Paired F l m) (r : F a b) : Paired F (l ++ [a]) (m ++ [b]) := Paired.app h (.cons r .nil)
theorem ps_putN (hu : X.A.units + 64 < cLine) (ho : PE X o td) (hi : PE X i ty) (hv : PE X value tv) (hs : swapsWith value (some (.Subscript o i pos')) pos.line X.env = pure false) :
    PS X (.Assign [.Subscript o i pos'] value pos) (sPutN X.prog X.w K td ty tv) := by
  refine ⟨fun pins s σ H D I h => wpAny_Assign_Subscript (thn (hv.run pins s σ H _ I h) fun r s1 ⟨v, H1, I1, rv, q1⟩ => thn (ho.run pins s1 σ H1 _ I1 q1) fun u s2 ⟨x, H2, I2, rx, q2⟩ => thn (hi.run pins s2 σ H2 _ I2 q2) fun iv s3 ⟨y, H3, I3, ry, d, b, kvs, pl, ex, ey, hd, hk, hb, nm, hl, q3⟩ => ?_) hs⟩
  subst ex ey
  cases rx
  cases ry
  obtain ⟨z, lo, xs, pr, dd⟩ := phiN_dict I3 hd hk
  have lx : xs.length = kvs.length := (Paired.length pr).symm
  have none : (atKey xs (nkP pl)).isSome = false := by rw [any_keys pr]; exact decide_eq_false nm
  refine wpAny_setItem_heap (hsz := by omega) (roomN hu) (tupP_is I3 hb) dd fun h' dd' sb => ?_
  have st : storedH xs (nkP pl) b r = xs ++ [(nkP pl, b, r)] := by
    unfold storedH
    rw [if_neg (by rw [none]; decide)]
  rw [st] at dd'
  obtain ⟨q, es, ep, hq, h2, h3, h4, _, h5⟩ := dd'
  refine ⟨σ, _, d_write (ob := dN X.prog X.w d (kvs ++ [(pl, b, v)])) I3 (by rw [hd]; exact True.intro) sb ⟨q, hq⟩ (dN_ok ⟨by rw [List.length_append]; exact hl, lo, _, paired_snoc pr ⟨rfl, rfl, rv⟩, q, es, ep, hq, h2, h3, h4, h5⟩), q3⟩
theorem pe_dnewN : PE X (.Dict [] [] pos) (tNewN X.prog X.w) := ⟨fun pins s σ H Q I h =>
  wpAny_Dict_empty ⟨.ref s.heap.objs.size, _, I.laid (a := s.heap.objs.size) (o := dN X.prog X.w s.heap.objs.size []) (t' := s.toks) (fun _ _ q => Heap.get?_push_of_some _ q) (Nat.le_refl _) (dN_ok (phiN_new I.big)), rfl, h _ (I.hok.fresh (Nat.le_refl _))⟩⟩
theorem pe_dispN (hu : X.A.units + 64 < cLine) (hk : PE X k tk) (hv : PE X v tv) : PE X (.Dict [some k] [v] pos) (tDispN X.prog X.w K tk tv) := by
  refine ⟨fun pins s σ H Q I q => ?_⟩
  have hn := I.hok.fresh (Nat.le_refl s.heap.objs.size)
  have I1 : Inv X pins σ (upd H s.heap.objs.size (dN X.prog X.w s.heap.objs.size [])) { s with heap := s.heap.push { cls := .type "dict", data := .dict #[] } } := I.laid (t' := s.toks) (fun _ _ q => Heap.get?_push_of_some _ q) (Nat.le_refl _) (dN_ok (phiN_new I.big))
  have room : (nestedKind X.prog X.w).room X.A := by show X.A.units + 8 < cLine; omega
  rw [arm_eval_Dict, zip_pairTrees [some k] [v] X.env pos rfl rfl, dictDisplay_pairs _ (by simp [pairTrees]) (by simp [pairTrees])]
  refine wpAny_bind (wpAny_standAt (wpAny_bind (wpAny_subDictH (knd := nestedKind X.prog X.w) room (by simp [pairTrees]) (pairTrees_cons_walk (thn (hk.run pins _ σ _ _ I1 (q _ hn)) fun u s1 ⟨y, H1, I2, ry, q1⟩ => thn (hv.run pins s1 σ H1 _ I2 q1) fun vv s2 ⟨x, H3, I3, rx, b, pl, ey, hd, hb, q2⟩ => pairTrees_nil_walk ?_)))))
  subst ey
  cases ry
  obtain ⟨z, lo, xs, pr, dd⟩ := phiN_dict (K := K) I3 hd (fun e he => nomatch he)
  cases pr
  refine ⟨[(nkP pl, b, vv)], ⟨rfl, rfl, tupP_is I3 hb, True.intro⟩, dd, fun h' tk dd' sb => ?_⟩
  have st : storedAllH [] [(nkP pl, b, vv)] = [(nkP pl, b, vv)] := rfl
  rw [st] at dd'
  obtain ⟨q', es, ep, hq, h2, h3, h4, _, h5⟩ := dd'
  exact wpAny_pure ⟨.ref s.heap.objs.size, _, d_write (ob := dN X.prog X.w s.heap.objs.size [(pl, b, x)]) I3 (by rw [hd]; exact True.intro) sb ⟨q', hq⟩ (dN_ok ⟨(by decide : (1 : Nat) ≤ sizeLine), lo, _, .cons ⟨rfl, rfl, rx⟩ .nil, q', es, ep, hq, h2, h3, h4, h5⟩), rfl, q2⟩
theorem cr_listN (hc : X.calm = true) : CallR X (.type "list") (rListN X.prog X.w K) := by
  intro pins s σ H xs us Q I r h
  obtain ⟨d, kvs, rfl, hd, hk, q⟩ := h
  obtain ⟨u, rfl, rx⟩ := r.one
  cases rx
  obtain ⟨z, lo, ks, pr, o, es, ep, ho, hx, hdt, he, _, hn⟩ := phiN_dict I hd hk
  have l1 : es.size = ks.length := size_of_entries he
  have l2 : kvs.length = ks.length := Paired.length pr
  refine PySem.W.kdl_call (kdl_raw lo hx hdt) (I.ok.hd hc) ho (by omega) fun h' tk acc' c' kp e it => ?_
  have rv : Vals (kvs.map fun e => V.ref e.2.1) acc'.toList := by
    have el : acc'.toList.length = acc'.size := Array.length_toList
    refine L2.vals_of_at (by rw [List.length_map, el, it.1, l1, l2]) fun j x u' h1 h2 => ?_
    rw [List.getElem?_map] at h1
    obtain ⟨p, hp, rfl⟩ := Option.map_eq_some_iff.mp h1
    obtain ⟨y, hy, _, y2, _⟩ := Paired.at2 pr hp
    obtain ⟨en, hen, hv⟩ := it.2 j u' (by rw [← Array.getElem?_toList]; exact h2)
    have qe := entry_at he j
    rw [hen, hy] at qe
    have e2 : en = entryOfKey (nestedKind X.prog X.w) y := Option.some.inj qe
    rw [hv, e2]
    exact congrArg Value.ref y2
  refine ⟨.ref s.heap.objs.size, _, I.laid (t' := tk) (o := .lst (kvs.map fun e => V.ref e.2.1)) kp (Nat.le_refl _) ⟨by rw [List.length_map]; exact z, acc'.toList, c', rv, by rw [Array.toArray_toList]; exact e⟩, rfl, q _ (I.hok.fresh (Nat.le_refl _))⟩
end
end Ef
namespace Ef
open PySem PySem.Spec PyProof.Rows L2
/-! ### zip(*e), e a list of two lists, walked by one name -/
section
variable {P : Program} {w : World} {A : Around} {E : Value → Shared → Prop} {s : Shared}
/-- the tuple handed out last is gone: it is free again -/
theorem free_yes {z TI TO T : Addr} {b : Bool} {Q : Bool → Shared → Prop} (hz : ZipB s.heap z TI TO T b) (hT : s.heap.get? T = none) (hQ : Q true s) : wpAny (model P w) A (Builtin.SmallTypes.ownedTupleIsFree (.ref z)) Q E s := by
  unfold Builtin.SmallTypes.ownedTupleIsFree
  refine wpAny_bind (wpAny_field hz rfl (x := rawInt T) rfl ?_)
  show wpAny _ _ (loadIfAlive ((T : Int).toNat) >>= _) _ _ _
  refine wpAny_bind (alive_ok ?_)
  rw [Int.toNat_natCast, hT]
  simp only [Option.isNone_none, if_true]
  exact wpAny_pure hQ
abbrev ZipE (h : Heap) (z TI TO : Addr) (f : Value) (b : Bool) : Prop := h.get? z = some { cls := .type "zip", dict := none, data := .fields #[f, .bool b, .bool false, .ref TI, .ref TO], slots := #[] }
theorem dead_more {z TI TO T i1 i2 l1 l2 : Addr} {k : Nat} {b : Bool} {xs ys : Array Value} {x y u v : Value} {Q : Value → Shared → Prop} (D : ZipApart z TI TO i1 i2 l1 l2)
    (hz : ZipB s.heap z TI TO T b) (hT : s.heap.get? T = none) (hTI : IsPair s.heap TI (.ref i1) (.ref i2)) (hTO : IsPair s.heap TO u v)
    (h1 : s.heap.IsListIter i1 l1 k) (h2 : s.heap.IsListIter i2 l2 k) (hl1 : s.heap.IsList l1 xs) (hl2 : s.heap.IsList l2 ys) (hx : xs[k]? = some x) (hy : ys[k]? = some y)
    (hQ : ∀ h', ZipB h' z TI TO s.heap.objs.size false → IsPair h' TO x y → h'.IsListIter i1 l1 (k + 1) → h'.IsListIter i2 l2 (k + 1) → IsPair h' s.heap.objs.size x y →
      (∀ c o, c ≠ z → c ≠ TO → c ≠ i1 → c ≠ i2 → s.heap.get? c = some o → h'.get? c = some o) → Q (.ref s.heap.objs.size) { s with heap := h' }) :
    wpAny (model P w) A (Builtin.«zip.__next__» ⟨[.ref z], []⟩) (fun fin s' => ∃ v, fin = .done (.ret v) ∧ Q v s') E s := by
  show wpAny _ _ (field (.ref z) 2 >>= _) _ _ _
  refine wpAny_bind (wpAny_field hz rfl (x := .bool false) rfl ?_)
  show wpAny _ _ (field (.ref z) 3 >>= _) _ _ _
  refine wpAny_bind (wpAny_field hz rfl (x := .ref TI) rfl (wpAny_bind (wpAny_seqItems hTI rfl ?_)))
  show wpAny _ _ (Builtin.SmallTypes.ownedTupleIsFree (.ref z) >>= _) _ _ _
  refine wpAny_bind (free_yes hz hT ?_)
  simp only [if_true]
  refine wpAny_bind (wpAny_rule (wpAny_bind (wpAny_field hz rfl (x := .ref TO) rfl (wpAny_bind (wpAny_setField_rec hz (by simp) fun ha za sa => ?_)))))
  have za : ZipE ha z TI TO .ellipsis b := za
  refine wpAny_bind ?_
  simp only [List.zipIdx_cons, List.zipIdx_nil, List.forIn_cons, List.forIn_nil]
  refine wpAny_bind (wpAny_bind (wpAny_onRaise ?_))
  show wpAny _ _ (Builtin.SmallTypes.nextOf (.ref i1) >>= _) _ _ _
  refine wpAny_bind (wpAny_nextOf_list_item (h1.extBut sa.extBut D.i1z) (hl1.extBut sa.extBut D.l1z) hx fun hb n1 sb => wpAny_pure ?_)
  have tb : IsPair hb TO u v := sb.extBut _ _ D.TOi1 (sa.extBut _ _ D.TOz hTO)
  refine wpAny_bind (wpAny_seqItems tb rfl (wpAny_bind (wpAny_updateSeq_pair tb fun hc tc sc => ?_)))
  have tc : IsPair hc TO x v := tc
  refine wpAny_bind (wpAny_letGo (wpAny_pure (wpAny_bind (wpAny_bind (wpAny_onRaise ?_)))))
  show wpAny _ _ (Builtin.SmallTypes.nextOf (.ref i2) >>= _) _ _ _
  refine wpAny_bind (wpAny_nextOf_list_item (((h2.extBut sa.extBut D.i2z).extBut sb.extBut D.i12.symm).extBut sc.extBut D.TOi2.symm) (((hl2.extBut sa.extBut D.l2z).extBut sb.extBut D.l2i1).extBut sc.extBut D.l2TO) hy fun hd n2 sd => wpAny_pure ?_)
  have td : IsPair hd TO x v := sd.extBut _ _ D.TOi2 tc
  refine wpAny_bind (wpAny_seqItems td rfl (wpAny_bind (wpAny_updateSeq_pair td fun he te se => ?_)))
  have te : IsPair he TO x y := te
  refine wpAny_bind (wpAny_letGo (wpAny_pure (wpAny_pure (wpAny_bind (wpAny_seqItems te rfl (wpAny_bind (wpAny_newTuple ?_)))))))
  have sz : he.objs.size = s.heap.objs.size := by rw [se.1, sd.1, sc.1, sb.1, sa.1]
  have ze : ZipE he z TI TO .ellipsis b := se.extBut _ _ D.TOz.symm (sd.extBut _ _ D.i2z.symm (sc.extBut _ _ D.TOz.symm (sb.extBut _ _ D.i1z.symm za)))
  have ke : ∀ c o, c ≠ z → c ≠ TO → c ≠ i1 → c ≠ i2 → s.heap.get? c = some o → he.get? c = some o := fun c o c1 c2 c3 c4 q => se.extBut _ _ c2 (sd.extBut _ _ c4 (sc.extBut _ _ c2 (sb.extBut _ _ c3 (sa.extBut _ _ c1 q))))
  have n1e : he.IsListIter i1 l1 (k + 1) := ((n1.extBut sc.extBut D.TOi1.symm).extBut sd.extBut D.i12).extBut se.extBut D.TOi1.symm
  have n2e : he.IsListIter i2 l2 (k + 1) := n2.extBut se.extBut D.TOi2.symm
  have zl : z < he.objs.size := Heap.lt_size ze
  show wpAny _ _ (Builtin.SmallTypes.ownedTupleHandOut (.ref z) (.ref he.objs.size) >>= _) _ _ _
  refine wpAny_bind ?_
  unfold Builtin.SmallTypes.ownedTupleHandOut
  have zf : ZipE (he.push { cls := .type "tuple", data := .seq #[x, y] }) z TI TO .ellipsis b := Heap.get?_push_of_some _ ze
  refine wpAny_bind (wpAny_setField_rec zf (by simp) fun hg zg sg => ?_)
  have zg : ZipE hg z TI TO (rawInt he.objs.size) b := zg
  refine wpAny_setField_rec zg (by simp) fun hi zi si => ?_
  have zi : ZipE hi z TI TO (rawInt he.objs.size) false := zi
  have up : ∀ c o, c ≠ z → he.get? c = some o → hi.get? c = some o := fun c o c1 q => si.extBut _ _ c1 (sg.extBut _ _ c1 (Heap.get?_push_of_some _ q))
  have new : IsPair hi he.objs.size x y := si.extBut _ _ (Nat.ne_of_gt zl) (sg.extBut _ _ (Nat.ne_of_gt zl) (Heap.get?_push_size _ rfl))
  refine wpAny_pure ⟨_, rfl, ?_⟩
  show Q (.ref he.objs.size) _
  rw [sz] at zi new ⊢
  exact hQ hi zi (up _ _ D.TOz te) (n1e.at fun o q => up _ o D.i1z q) (n2e.at fun o q => up _ o D.i2z q) new fun c o c1 c2 c3 c4 q => up c o c1 (ke c o c1 c2 c3 c4 q)
theorem dead_stop {z TI TO T i1 i2 l1 l2 : Addr} {k : Nat} {b : Bool} {xs ys : Array Value} {u v : Value} {Q : Fin → Shared → Prop} (hh : A.handled = none) (D : ZipApart z TI TO i1 i2 l1 l2)
    (hz : ZipB s.heap z TI TO T b) (hT : s.heap.get? T = none) (hTI : IsPair s.heap TI (.ref i1) (.ref i2)) (hTO : IsPair s.heap TO u v)
    (h1 : s.heap.IsListIter i1 l1 k) (h2 : s.heap.IsListIter i2 l2 k) (hl1 : s.heap.IsList l1 xs) (hl2 : s.heap.IsList l2 ys) (hx : xs[k]? = none ∨ ys[k]? = none)
    (hE : ∀ h' e, (∀ c o, c ≠ z → c ≠ TO → c ≠ i1 → c ≠ i2 → s.heap.get? c = some o → h'.get? c = some o) → (∃ o, h'.get? e = some o ∧ o.cls = .type "StopIteration") → E (.ref e) { s with heap := h' }) :
    wpAny (model P w) A (Builtin.«zip.__next__» ⟨[.ref z], []⟩) Q E s := by
  show wpAny _ _ (field (.ref z) 2 >>= _) _ _ _
  refine wpAny_bind (wpAny_field hz rfl (x := .bool false) rfl ?_)
  show wpAny _ _ (field (.ref z) 3 >>= _) _ _ _
  refine wpAny_bind (wpAny_field hz rfl (x := .ref TI) rfl (wpAny_bind (wpAny_seqItems hTI rfl ?_)))
  show wpAny _ _ (Builtin.SmallTypes.ownedTupleIsFree (.ref z) >>= _) _ _ _
  refine wpAny_bind (free_yes hz hT ?_)
  simp only [if_true]
  refine wpAny_bind (wpAny_rule (wpAny_bind (wpAny_field hz rfl (x := .ref TO) rfl (wpAny_bind (wpAny_setField_rec hz (by simp) fun ha za sa => ?_)))))
  have za : ZipE ha z TI TO .ellipsis b := za
  refine wpAny_bind ?_
  simp only [List.zipIdx_cons, List.zipIdx_nil, List.forIn_cons, List.forIn_nil]
  refine wpAny_bind (wpAny_bind (wpAny_onRaise ?_))
  show wpAny _ _ (Builtin.SmallTypes.nextOf (.ref i1) >>= _) _ _ _
  cases ex : xs[k]? with
  | none =>
    refine wpAny_bind (wpAny_nextOf_list_end hh (h1.extBut sa.extBut D.i1z) (hl1.extBut sa.extBut D.l1z) ex fun hb e sb he => ?_)
    obtain ⟨oe, ho, hc⟩ := he
    have zb : ZipE hb z TI TO .ellipsis b := sb _ _ D.i1z.symm za
    have hez : e ≠ z := fun q => by subst q; rw [zb] at ho; cases ho; simp at hc
    exact wpAny_setField_rec zb (by simp) fun h₃ _ s3 => hE h₃ e (fun c o c1 _ c3 _ q => s3.extBut _ _ c1 (sb _ _ c3 (sa.extBut _ _ c1 q))) ⟨oe, s3.extBut _ _ hez ho, hc⟩
  | some x =>
    have ey : ys[k]? = none := by rcases hx with h | h; rw [ex] at h; cases h; exact h
    refine wpAny_bind (wpAny_nextOf_list_item (h1.extBut sa.extBut D.i1z) (hl1.extBut sa.extBut D.l1z) ex fun hb n1 sb => wpAny_pure ?_)
    have tb : IsPair hb TO u v := sb.extBut _ _ D.TOi1 (sa.extBut _ _ D.TOz hTO)
    refine wpAny_bind (wpAny_seqItems tb rfl (wpAny_bind (wpAny_updateSeq_pair tb fun hc tc sc => ?_)))
    refine wpAny_bind (wpAny_letGo (wpAny_pure (wpAny_bind (wpAny_bind (wpAny_onRaise ?_)))))
    show wpAny _ _ (Builtin.SmallTypes.nextOf (.ref i2) >>= _) _ _ _
    refine wpAny_bind (wpAny_nextOf_list_end hh (((h2.extBut sa.extBut D.i2z).extBut sb.extBut D.i12.symm).extBut sc.extBut D.TOi2.symm) (((hl2.extBut sa.extBut D.l2z).extBut sb.extBut D.l2i1).extBut sc.extBut D.l2TO) ey fun hd e sd he => ?_)
    obtain ⟨oe, ho, hc'⟩ := he
    have zd : ZipE hd z TI TO .ellipsis b := sd _ _ D.i2z.symm (sc.extBut _ _ D.TOz.symm (sb.extBut _ _ D.i1z.symm za))
    have hez : e ≠ z := fun q => by subst q; rw [zd] at ho; cases ho; simp at hc'
    exact wpAny_setField_rec zd (by simp) fun h₅ _ s5 => hE h₅ e (fun c o c1 c2 c3 c4 q => s5.extBut _ _ c1 (sd _ _ c4 (sc.extBut _ _ c2 (sb.extBut _ _ c3 (sa.extBut _ _ c1 q))))) ⟨oe, s5.extBut _ _ hez ho, hc'⟩
/-- the zip as it stands: no tuple handed out yet, or the last one at some place -/
def ZipS (h : Heap) (z TI TO : Addr) : Prop := IsZip h z TI TO .none ∨ ∃ T b, ZipB h z TI TO T b
theorem next_go {z TI TO i1 i2 l1 l2 : Addr} {k : Nat} {xs ys : Array Value} {x y u v : Value} {Q : Option Value → Shared → Prop} (D : ZipApart z TI TO i1 i2 l1 l2)
    (hz : ZipS s.heap z TI TO) (hTI : IsPair s.heap TI (.ref i1) (.ref i2)) (hTO : IsPair s.heap TO u v)
    (h1 : s.heap.IsListIter i1 l1 k) (h2 : s.heap.IsListIter i2 l2 k) (hl1 : s.heap.IsList l1 xs) (hl2 : s.heap.IsList l2 ys) (hx : xs[k]? = some x) (hy : ys[k]? = some y)
    (hQ : ∀ h', ZipS h' z TI TO → (∃ u v, IsPair h' TO u v) → h'.IsListIter i1 l1 (k + 1) → h'.IsListIter i2 l2 (k + 1) → IsPair h' s.heap.objs.size x y →
      (∀ c o, c ≠ z → c ≠ TO → c ≠ i1 → c ≠ i2 → s.heap.get? c = some o → h'.get? c = some o) → Q (some (.ref s.heap.objs.size)) { s with heap := h' }) : wpAny (model P w) A (pyNext (.ref z)) Q E s := by
  rcases hz with hz | ⟨T, b, hz⟩
  · exact wpAny_pyNext_zip_item D hz hTI hTO h1 h2 hl1 hl2 hx hy fun h' a1 a2 a3 a4 a5 a6 a7 => hQ h' (.inr ⟨_, false, a1⟩) ⟨_, _, a2⟩ a3 a4 a5 a7
  · cases hT : s.heap.get? T with
    | some o => exact next_more D hz hT hTI h1 h2 hl1 hl2 hx hy fun h' a1 a3 a4 a5 a6 a7 => hQ h' (.inr ⟨T, true, a1⟩) ⟨u, v, a7 _ _ D.TOz D.TOi1 D.TOi2 hTO⟩ a3 a4 a5 fun c o c1 _ c3 c4 q => a7 c o c1 c3 c4 q
    | none =>
      have ty : s.TypeIs (.ref z) "zip" := ⟨_, hz, rfl⟩
      unfold pyNext
      refine wpAny_bind (wpAny_attempt (wpAny_callSpecial?_slot (name := Str.ofString "__next__") ty F.slot_zip_next (wpAny_call_entry F.slot_zip_next ty F.entry_zip_next ?_ (F.args_zip_next_1 _))))
      exact dead_more D hz hT hTI hTO h1 h2 hl1 hl2 hx hy fun h' a1 a2 a3 a4 a5 a7 => wpAny_pure (hQ h' (.inr ⟨_, false, a1⟩) ⟨_, _, a2⟩ a3 a4 a5 a7)
theorem next_no {z TI TO i1 i2 l1 l2 : Addr} {k : Nat} {xs ys : Array Value} {u v : Value} {Q : Option Value → Shared → Prop} (hh : A.handled = none) (D : ZipApart z TI TO i1 i2 l1 l2)
    (hz : ZipS s.heap z TI TO) (hTI : IsPair s.heap TI (.ref i1) (.ref i2)) (hTO : IsPair s.heap TO u v)
    (h1 : s.heap.IsListIter i1 l1 k) (h2 : s.heap.IsListIter i2 l2 k) (hl1 : s.heap.IsList l1 xs) (hl2 : s.heap.IsList l2 ys) (hx : xs[k]? = none ∨ ys[k]? = none)
    (hQ : ∀ h', (∀ c o, c ≠ z → c ≠ TO → c ≠ i1 → c ≠ i2 → s.heap.get? c = some o → h'.get? c = some o) → Q none { s with heap := h' }) : wpAny (model P w) A (pyNext (.ref z)) Q E s := by
  rcases hz with hz | ⟨T, b, hz⟩
  · exact wpAny_pyNext_zip_end hh D hz hTI hTO h1 h2 hl1 hl2 hx hQ
  · cases hT : s.heap.get? T with
    | some o => exact next_stop hh D hz hT hTI h1 h2 hl1 hl2 hx fun h' a7 => hQ h' fun c o c1 _ c3 c4 q => a7 c o c1 c3 c4 q
    | none =>
      have ty : s.TypeIs (.ref z) "zip" := ⟨_, hz, rfl⟩
      unfold pyNext
      refine wpAny_bind (wpAny_attempt (wpAny_callSpecial?_slot (name := Str.ofString "__next__") ty F.slot_zip_next (wpAny_call_entry F.slot_zip_next ty F.entry_zip_next ?_ (F.args_zip_next_1 _))))
      refine dead_stop hh D hz hT hTI hTO h1 h2 hl1 hl2 hx fun h' e hk he => ?_
      obtain ⟨oe, ho, hc⟩ := he
      exact wpAny_bind (wpAny_isInstance (T := "StopIteration") (b := true) ⟨oe, ho, hc⟩ isSubtype_stop (wpAny_pure (hQ _ hk)))
end
theorem turn_zipS {P : Program} {w : World} {K : PySem.W.Frag} {x : Str} {tpos : Pos} {a b z TI TO i1 i2 : Addr} (D : ZipApart z TI TO i1 i2 a b) :
    Turn P w K (.Name x tpos) (Itz K a b) [z, TI, TO, i1, i2] z (fun i h => ZipS h z TI TO ∧ IsPair h TI (.ref i1) (.ref i2) ∧ (∃ x y, IsPair h TO x y) ∧ h.IsListIter i1 a i ∧ h.IsListIter i2 b i) where
  mem := by simp
  obj := fun i h st c hc => by
    obtain ⟨hz, hTI, ⟨x, y, hTO⟩, ⟨o1, e1, _, d1⟩, ⟨o2, e2, _, d2⟩⟩ := st
    simp only [List.mem_cons, List.not_mem_nil, or_false] at hc
    rcases hc with rfl | rfl | rfl | rfl | rfl
    · rcases hz with hz | ⟨T, bb, hz⟩ <;> exact ⟨_, hz, fun v q => nomatch q⟩
    · exact ⟨_, hTI, fun v q => nomatch q⟩
    · exact ⟨_, hTO, fun v q => nomatch q⟩
    · exact ⟨o1, e1, fun v q => by rw [d1] at q; cases q⟩
    · exact ⟨o2, e2, fun v q => by rw [d2] at q; cases q⟩
  keep := fun i h h' st k => by
    obtain ⟨hz, hTI, ⟨x, y, hTO⟩, h1, h2⟩ := st
    refine ⟨?_, k TI (by simp) _ hTI, ⟨x, y, k TO (by simp) _ hTO⟩, h1.at fun o q => k i1 (by simp) o q, h2.at fun o q => k i2 (by simp) o q⟩
    rcases hz with hz | ⟨T, bb, hz⟩
    · exact .inl (k z (by simp) _ hz)
    · exact .inr ⟨T, bb, k z (by simp) _ hz⟩
  item := by
    intro X hP hw hK hc i pins s σ H E I hf st hg
    subst hP hw hK
    obtain ⟨hz, hTI, ⟨x0, y0, hTO⟩, h1, h2⟩ := st
    obtain ⟨xs, ys, x, y, hqx, hqy, hx, hy⟩ := hg
    obtain ⟨its, rv, p, _⟩ := I.list hqx
    obtain ⟨its2, rv2, p2, _⟩ := I.list hqy
    obtain ⟨u, hu, ru⟩ := rv.get hx
    obtain ⟨u2, hu2, ru2⟩ := rv2.get hy
    have lt : ∀ c ∈ [z, TI, TO, i1, i2], c < s.heap.objs.size := fun c hcm => by
      simp only [List.mem_cons, List.not_mem_nil, or_false] at hcm
      rcases hcm with rfl | rfl | rfl | rfl | rfl
      · rcases hz with hz | ⟨T, bb, hz⟩ <;> exact Heap.lt_size hz
      · exact Heap.lt_size hTI
      · exact Heap.lt_size hTO
      · obtain ⟨_, e1, _⟩ := h1; exact Heap.lt_size e1
      · obtain ⟨_, e2, _⟩ := h2; exact Heap.lt_size e2
    refine next_go D hz hTI hTO h1 h2 p.isList p2.isList (x := u) (y := u2) (by simpa using hu) (by simpa using hu2) fun h' z' TO' h1' h2' hT hk => ?_
    refine ⟨_, rfl, ?_⟩
    have I1 : Inv X pins σ (upd H s.heap.objs.size (.tup [x, y])) { s with heap := h' } :=
      I.turnedNew (t' := s.toks) (ch := [z, TI, TO, i1, i2]) (fun c o hb q => hk c o (fun q' => hb (by simp [q'])) (fun q' => hb (by simp [q'])) (fun q' => hb (by simp [q'])) (fun q' => hb (by simp [q'])) q) hf (Nat.le_refl _)
        ⟨by show 2 ≤ sizeLine; decide, [u, u2], .cons ru (.cons ru2 .nil), ⟨_, hT, rfl, _, rfl⟩⟩
    refine wpAny_pure ⟨.ref s.heap.objs.size, _, I1, rfl, ⟨_, x, y, rfl, I.hok.fresh (Nat.le_refl _), rfl, fun l hl => by rw [I.list_inj hl hqx]; exact hx, fun l hl => by rw [I.list_inj hl hqy]; exact hy⟩, ⟨z', hk _ _ D.TIz D.TITO D.TIi1 D.TIi2 hTI, TO', h1', h2'⟩, fun c hcm => ?_⟩
    rw [upd_ne (Nat.ne_of_lt (lt c hcm))]
    exact (hf c hcm).1
  done := by
    intro X hP hw hK hc i pins s σ H E I hf st hg
    subst hP hw hK
    obtain ⟨hz, hTI, ⟨x0, y0, hTO⟩, h1, h2⟩ := st
    obtain ⟨xs, ys, hqx, hqy, hend⟩ := hg
    obtain ⟨its, rv, p, _⟩ := I.list hqx
    obtain ⟨its2, rv2, p2, _⟩ := I.list hqy
    have l1 := rv.length
    have l2 := rv2.length
    exact next_no (I.ok.hd hc) D hz hTI hTO h1 h2 p.isList p2.isList (hend.imp (fun q => by simp; omega) (fun q => by simp; omega)) fun h' hk => ⟨rfl, I.turnedL (t' := s.toks) (ch := [z, TI, TO, i1, i2]) (fun c o hb q =>
      hk c o (fun q' => hb (by simp [q'])) (fun q' => hb (by simp [q'])) (fun q' => hb (by simp [q'])) (fun q' => hb (by simp [q'])) q) hf⟩
  self := fun A i s Q E st h => by
    obtain ⟨hz, _⟩ := st
    rcases hz with hz | ⟨T, bb, hz⟩
    · exact wpAny_pyIter_zip hz h
    · have ty : s.TypeIs (.ref z) "zip" := ⟨_, hz, rfl⟩
      refine wpAny_pyIter_slot ty F.slot_zip_iter (wpAny_call_entry F.slot_zip_iter ty F.entry_zip_iter ?_ (F.args_zip_iter_1 _))
      show wpAny _ _ (ret (Value.ref z)) _ _ s
      exact wpAny_pure ⟨_, rfl, "zip", _, ty, F.slot_zip_next.lookup, h⟩
/-- e: a list of two lists -/
def iZipS (K : PySem.W.Frag) (te : TE) : TI := fun σ H R => te σ H fun v H1 => ∃ l a b xs ys, v = .ref l ∧ SqL K H1 l [.ref a, .ref b] ∧ SqL K H1 a xs ∧ SqL K H1 b ys ∧ R (Itz K a b) H1
theorem pi_zipS {X : Cx} {e : Expr} {te : TE} {p pos tpos sp : Pos} {x : Str} (hg : Gl X "zip") (hm : X.mg "zip" = none) (he : PE X e te) (hs : starEach [.Starred e sp] X.env = [(true, eval e X.env)] := by rfl) :
    PI X (.Name x tpos) (.Call (.Name "zip" p) [.Starred e sp] [] pos) (iZipS X.K te) := by
  refine ⟨fun pins s σ H R I h => Call_ (ld_blt I hg hm PyProof.Rows.boot_zip ?_)⟩
  rw [hs]
  refine PySem.W.ks_call (P := fun _ => True) rfl (fun h _ => ⟨.machine, .inr (.inl rfl), fun A Q E s k q => wpAny_pure q⟩) (PySem.W.ks_lone (thn (he.run pins _ σ H _ (I.tok _) h) fun u s1 ⟨v, H1, I1, rv, l, a, b, xs, ys, ev, hl, ha, hb, q⟩ => ?_))
  subst ev
  cases rv
  refine StX.star_any I1 (.inr hl) fun us s2 I2 r2 => ⟨trivial, ?_⟩
  obtain ⟨u, v, rfl, ru, rv⟩ := r2.two
  cases ru
  cases rv
  obtain ⟨its, rx, p1, _⟩ := I2.list ha
  obtain ⟨its2, ry, p2, _⟩ := I2.list hb
  have la : a < s2.heap.objs.size := p1.lt
  have lb : b < s2.heap.objs.size := p2.lt
  refine call_zip_2 p1.isList p2.isList fun h' hz hTI hTO h1 h2 hsz hk => wpAny_pyIter_zip hz ?_
  have I3 : Inv X pins σ H1 { s2 with heap := h' } := I2.kept (t' := s2.toks) hk
  refine ⟨s2.heap.objs.size + 4, [s2.heap.objs.size + 4, s2.heap.objs.size + 2, s2.heap.objs.size + 3, s2.heap.objs.size, s2.heap.objs.size + 1], _, _, H1, rfl, I3, turn_zipS (PySem.W.ktu_apart s2.heap.objs.size a b la lb), ⟨.inl hz, hTI, ⟨_, _, hTO⟩, h1, h2⟩, fun c hcm => ?_, q⟩
  have hle : s2.heap.objs.size ≤ c := by
    simp only [List.mem_cons, List.not_mem_nil, or_false] at hcm
    rcases hcm with z | z | z | z | z <;> rw [z]
    · exact Nat.le_add_right _ _
    · exact Nat.le_add_right _ _
    · exact Nat.le_add_right _ _
    · exact Nat.le_refl _
    · exact Nat.le_add_right _ _
  exact I2.fpOk hle (I2.hok.fresh hle)
end Ef
namespace Ef
open PySem PySem.Spec PyProof.Rows C8
open L2 hiding E0 CX0 pass0 Fun
/-! ### dict(xs), xs a list of tuples (key, value), the keys unlike pairs of texts -/
abbrev EnP : Type := (Str × Str) × Addr × V
def rDictP2 (K : PySem.W.Frag) : List V → Hp → VK → Prop := fun xs H Q => ∃ (a : Addr) (ps : List Addr) (es : List EnP), xs = [.ref a] ∧ SqL K H a (ps.map V.ref) ∧ Paired (fun p (e : EnP) => SqT K H p [.ref e.2.1, e.2.2] ∧ H e.2.1 = some (.tup [.str e.1.1, .str e.1.2])) ps es ∧ (es.map (·.1)).Nodup ∧
  ∀ d, H d = none → Q (.ref d) (upd H d (.dT (es.map fun e => (kP e.1, e.2.2))))
section
variable {X : Cx} {pins : List (Addr × Obj)} {σ : L2.St} {H : Hp} {s : Shared}
theorem pairs_at (I : Inv X pins σ H s) : ∀ {ps : List Addr} {es : List EnP}, Paired (fun p (e : EnP) => SqT X.K H p [.ref e.2.1, e.2.2] ∧ H e.2.1 = some (.tup [.str e.1.1, .str e.1.2])) ps es →
    ∃ us : List Value, us.length = es.length ∧ ∀ (j : Nat) p (e : EnP), ps[j]? = some p → es[j]? = some e → ∃ u, us[j]? = some u ∧ L2.RelV e.2.2 u ∧ PairAt s.heap p (.ref e.2.1) u
  | _, _, .nil => ⟨[], rfl, fun j p e h => by simp at h⟩
  | _, _, .cons (a := p) (b := e) h t => by
    obtain ⟨us, hl, hp⟩ := pairs_at I t
    obtain ⟨its, rv, ht, _⟩ := I.tuple h.1
    obtain ⟨x, y, ei, rx, ry⟩ := rv.two
    subst ei
    cases rx
    refine ⟨y :: us, by rw [List.length_cons, List.length_cons, hl], fun j q f hq hf => ?_⟩
    cases j with
    | zero =>
      cases hq
      cases hf
      obtain ⟨o, h1, h2, n, h3⟩ := ht
      exact ⟨y, rfl, ry, .inl ⟨o, h1, h2, n, h3⟩⟩
    | succ j =>
      obtain ⟨u, h1, h2⟩ := hp j q f (by simpa using hq) (by simpa using hf)
      exact ⟨u, by simpa using h1, h2⟩
theorem call_dictP2 {K : PySem.W.Frag} (hK : X.K = K) (hc : X.calm = true) (hu : X.A.units + 64 < cLine) : CallR X (.type "dict") (rDictP2 K) := by
  subst hK
  intro pins s σ H xs us Q I r q
  obtain ⟨a, ps, es, ex, hq, hp, nd, q⟩ := q
  subst ex
  obtain ⟨u, rfl, rx⟩ := r.one
  cases rx
  obtain ⟨its, rv, pl, hz⟩ := I.list hq
  have ei : its = ps.map Value.ref := refs_at rv
  subst ei
  rw [List.length_map] at hz
  obtain ⟨ws, wl, hw⟩ := pairs_at I hp
  have le : ps.length = es.length := Paired.length hp
  obtain ⟨o, n, ho, hcl, hd, hdat⟩ := pl
  have get : ∀ (j : Nat) key v, ((es.map fun e => Value.ref e.2.1).zip ws)[j]? = some (key, v) → ∃ p e, ps[j]? = some p ∧ es[j]? = some e ∧ key = .ref e.2.1 ∧ ws[j]? = some v := fun j key v h => by
    rw [List.getElem?_zip_eq_some] at h
    obtain ⟨h1, h2⟩ := h
    rw [List.getElem?_map] at h1
    obtain ⟨e, he, rfl⟩ := Option.map_eq_some_iff.mp h1
    have hj : j < ps.length := by rw [le]; exact (List.getElem?_eq_some_iff.mp he).1
    exact ⟨_, e, List.getElem?_eq_getElem hj, he, rfl, h2⟩
  have lz : ((es.map fun e => Value.ref e.2.1).zip ws).length = ps.length := by rw [List.length_zip, List.length_map, wl, Nat.min_self, le]
  -- the entries
  obtain ⟨zs, hzs⟩ : ∃ zs : List (List L2.Key × Addr × Value), zs = (es.zip ws).map fun z => (kP z.1.1, z.1.2.1, z.2) := ⟨_, rfl⟩
  have zl : zs.length = ps.length := by rw [hzs, List.length_map, List.length_zip, wl, Nat.min_self, le]
  have zget : ∀ (j : Nat) e v, es[j]? = some e → ws[j]? = some v → zs[j]? = some (kP e.1, e.2.1, v) := fun j e v h1 h2 => by
    rw [hzs, List.getElem?_map, (List.getElem?_zip_eq_some (z := (e, v))).mpr ⟨h1, h2⟩]
    rfl
  have keys : zs.map (·.1) = es.map fun e => kP e.1 := by
    refine List.ext_getElem? fun j => ?_
    rw [List.getElem?_map, List.getElem?_map]
    cases he : es[j]? with
    | none =>
      have : zs[j]? = none := List.getElem?_eq_none_iff.mpr (by rw [zl, le]; exact List.getElem?_eq_none_iff.mp he)
      rw [this]
      rfl
    | some e =>
      have hj : j < ws.length := by rw [wl]; exact (List.getElem?_eq_some_iff.mp he).1
      rw [zget j e _ he (List.getElem?_eq_getElem hj)]
      rfl
  have zn : (zs.map (·.1)).Nodup := by
    rw [keys]
    have : (es.map fun e => kP e.1) = (es.map (·.1)).map kP := by rw [List.map_map] <;> rfl
    rw [this]
    exact List.Pairwise.map _ (fun a b h z => h (kP_inj z)) nd
  have zin : ∀ x ∈ zs, ∃ e ∈ es, x.1 = kP e.1 ∧ x.2.1 = e.2.1 := fun x hx => by
    rw [hzs] at hx
    obtain ⟨z, hz, rfl⟩ := List.mem_map.mp hx
    exact ⟨z.1, (List.of_mem_zip hz).1, rfl, rfl⟩
  have tr : ∀ e ∈ es, H e.2.1 = some (.tup [.str e.1.1, .str e.1.2]) := fun e he => by
    obtain ⟨j, hj⟩ := List.getElem?_of_mem he
    obtain ⟨p, _, _, h⟩ := Paired.at1 hp hj
    exact h
  have is0 : ∀ (h' : Heap), (∀ b o, s.heap.get? b = some o → h'.get? b = some o) → ∀ x ∈ zs, (tupleKind (mixKind X.prog X.w)).is h' x.1 x.2.1 := fun h' k x hx => by
    obtain ⟨e, he, h1, h2⟩ := zin x hx
    rw [h1, h2]
    obtain ⟨o, its, n, g1, g2, g3, g4⟩ := (show IsTupleKey (mixKind X.prog X.w) s.heap (kP e.1) e.2.1 from key_of I.hok (tr e he))
    exact ⟨o, its, n, k _ _ g1, g2, g3, g4⟩
  have room : (tupleKind (mixKind X.prog X.w)).room X.A.in1.in1 := by
    show X.A.in1.in1.units < cLine
    have : X.A.in1.in1.units ≤ X.A.units + 2 := by simp [Around.in1]
    omega
  refine call_dict_pairsH (knd := tupleKind (mixKind X.prog X.w)) (ps := zs) (PairArg.list a (ps.map Value.ref).toArray (fun j => ps.getD j 0) ((es.map fun e => Value.ref e.2.1).zip ws)) (I.ok.hd hc) room ⟨⟨o, n, ho, hcl, hd, hdat⟩, ?_, fun j k v hj => ?_⟩ ⟨by rw [zl, lz], fun j k v hj => ?_⟩ (fun h' k x hx => is0 h' (fun b o e => k b o (Nat.ne_of_lt (Heap.lt_size e)) (by simp) e) x hx) (by rw [lz]; exact hz) fun h' tk hd' k => ?_
  · rw [List.size_toArray, List.length_map, lz]
  · obtain ⟨p, e, h1, h2, h3, h4⟩ := get j k v hj
    obtain ⟨u, h5, _, h6⟩ := hw j p e h1 h2
    rw [h4] at h5
    cases h5
    subst h3
    refine ⟨?_, ?_⟩
    · show (ps.map Value.ref).toArray[j]? = some (.ref (ps.getD j 0))
      rw [List.getElem?_toArray, List.getElem?_map, h1, List.getD_eq_getElem?_getD, h1] <;> rfl
    · show PairAt s.heap (ps.getD j 0) _ _
      rw [List.getD_eq_getElem?_getD, h1]
      exact h6
  · obtain ⟨p, e, h1, h2, h3, h4⟩ := get j k v hj
    exact ⟨kP e.1, e.2.1, zget j e v h2 h4, h3⟩
  · rw [storedAllH_nil_of_nodup zs zn] at hd'
    have k' : ∀ b o, s.heap.get? b = some o → h'.get? b = some o := fun b o e => k b o (by simp) e
    have hn := I.hok.fresh (Nat.le_refl s.heap.objs.size)
    obtain ⟨o', fs, ep, g1, g2, g3, g4, _, g5⟩ := hd'
    refine ⟨.ref s.heap.objs.size, _, I.laid (t' := tk) (o := .dT (es.map fun e => (kP e.1, e.2.2))) k' (Nat.le_refl _) ⟨by rw [List.length_map]; omega, beq_eq_false_iff_ne.mpr (Nat.ne_of_gt I.big), zs, ?_, o', fs, ep, g1, g2, g3, g4, g5⟩, rfl, q _ hn⟩
    refine paired_of (by rw [List.length_map, zl, le]) fun j p x h1 h2 => ?_
    rw [List.getElem?_map] at h1
    obtain ⟨e, he, rfl⟩ := Option.map_eq_some_iff.mp h1
    have hj : j < ps.length := by rw [le]; exact (List.getElem?_eq_some_iff.mp he).1
    obtain ⟨u, h5, h6, _⟩ := hw j _ e (List.getElem?_eq_getElem hj) he
    rw [zget j e u he h5] at h2
    cases h2
    have te := tr e (List.mem_of_getElem? he)
    refine ⟨rfl, ?_, h6⟩
    rw [upd_ne (ne_of_none te hn)]
    exact te
end
/-! ### the slots of a comprehension, lists within displays -/
theorem w1_a {σ : L2.St} {i : Nat} {x : V} (h : i < σ.length) : ((wipe σ [i]).set i (some x))[i]? = some (some x) := by rw [List.getElem?_set_self (by rw [wipe_length]; exact h)]
theorem w1_o {σ : L2.St} {i j : Nat} {x : V} (h : j ≠ i) : ((wipe σ [i]).set i (some x))[j]? = σ[j]? := by
  rw [List.getElem?_set_ne (Ne.symm h)]
  exact wipe_out (by simp [h])
theorem consQ {ta : TE} {t : TA} {σ : L2.St} {H : Hp} {Q : List V → Hp → Prop} (h : ta σ H fun x H1 => t σ H1 fun xs H2 => Q (x :: xs) H2) : tCons ta t σ H Q := h
theorem lstQ {t : TA} {σ : L2.St} {H : Hp} {Q : VK} (h : t σ H fun xs H1 => xs.length ≤ sizeLine ∧ ∀ p, H1 p = none → Q (.ref p) (upd H1 p (.lst xs))) : tLst t σ H Q := h
theorem paired_take {α β : Type} {F : α → β → Prop} : ∀ {l : List α} {m : List β} (k : Nat), Paired F l m → Paired F (l.take k) (m.take k)
  | _, _, 0, _ => by rw [List.take_zero, List.take_zero]; exact .nil
  | _, _, k + 1, .nil => by rw [List.take_nil, List.take_nil]; exact .nil
  | _, _, k + 1, .cons h t => by rw [List.take_succ_cons, List.take_succ_cons]; exact .cons h (paired_take k t)
theorem paired_drop {α β : Type} {F : α → β → Prop} : ∀ {l : List α} {m : List β} (k : Nat), Paired F l m → Paired F (l.drop k) (m.drop k)
  | _, _, 0, h => by rw [List.drop_zero, List.drop_zero]; exact h
  | _, _, k + 1, .nil => by rw [List.drop_nil, List.drop_nil]; exact .nil
  | _, _, k + 1, .cons h t => by rw [List.drop_succ_cons, List.drop_succ_cons]; exact paired_drop k t
end Ef
namespace Ef
open PySem PySem.Spec PyProof.Rows C8
open L2 hiding E0 CX0 pass0 Fun
/-! ### dict(zip(xs, ys)), xs a list of texts -/
section
variable {X : Cx}
def tDictZip (K : PySem.W.Frag) (ta : TA) : TE := fun σ H Q => ta σ H fun vs H1 => ∃ (a b : Addr) (ks : List Str) (ys : List V), vs = [.ref a, .ref b] ∧ SqL K H1 a (ks.map V.str) ∧ SqL K H1 b ys ∧ ys.length = ks.length ∧
  ∀ d, H1 d = none → Q (.ref d) (upd H1 d (.dK (mergeK [] ((ks.map fun x => (Sum.inr x : L2.Key)).zip ys))))
theorem pe_dictZip {e e2 : Expr} {ta : TA} {p p2 pos pos2 : Pos} (hc : X.calm = true) (hgl : Gl X "dict") (hml : X.mg "dict" = none) (hgz : Gl X "zip") (hmz : X.mg "zip" = none) (ha : PA X [e, e2] ta)
    (hs : starEach [e, e2] X.env = (false, eval e X.env) :: starEach [e2] X.env := by rfl) (hpl : (backTo pos2 (starEach [e2] X.env)).any (·.1) = false := by rfl)
    (hs1 : starEach [Expr.Call (.Name "zip" p2) [e, e2] [] pos2] X.env = (false, eval (.Call (.Name "zip" p2) [e, e2] [] pos2) X.env) :: starEach [] X.env := by rfl) (hpl1 : (backTo pos (starEach [] X.env)).any (·.1) = false := by rfl) :
    PE X (.Call (.Name "dict" p) [.Call (.Name "zip" p2) [e, e2] [] pos2] [] pos) (tDictZip X.K ta) := by
  refine ⟨fun pins s σ H Q I h => ?_⟩
  refine Call_ (ld_blt I hgl hml (show bootBuiltins "dict" = some (.type "dict") by decide +kernel) (PyProof.Rows.callWith_type1 ?_ hs1 hpl1))
  rw [hs1]
  show wpAny _ _ (spliced ((false, eval (.Call (.Name "zip" p2) [e, e2] [] pos2) X.env) :: backTo pos (starEach [] X.env))) _ _ _
  refine Calls.spliced_cons ?_
  refine Call_ (ld_blt (I.tok _) hgz hmz PyProof.Rows.boot_zip (PyProof.Rows.callWith_type1 (thn (ha.run pos2 pins _ σ H _ ((I.tok _).tok _) h) fun us s1 ⟨vs, H1, I1, r1, a, b, ks, ys, ex, hqx, hqy, ln, q⟩ => ?_) hs hpl))
  subst ex
  obtain ⟨u, v, rfl, r, r'⟩ := r1.two
  cases r
  cases r'
  obtain ⟨its, rv, p1, z1⟩ := I1.list hqx
  obtain ⟨its2, rv2, pl2, z2⟩ := I1.list hqy
  refine call_zip_2 p1.isList pl2.isList fun h' hz hTI hTO h1 h2 hsz hk => ?_
  refine Calls.spliced_nil ?_
  have D := PySem.W.ktu_apart s1.heap.objs.size a b p1.lt pl2.lt
  have n1 := rv.length
  have n2 := rv2.length
  rw [List.length_map] at n1 z1
  have lz : ((ks.map fun x => (Sum.inr x : L2.Key)).zip its2).length = its.length := by rw [List.length_zip, List.length_map]; omega
  refine call_dict_pairs (knd := mixKind X.prog X.w) (kvs := (ks.map fun x => (Sum.inr x : L2.Key)).zip its2) (PairArg.zip _ _ _ _ _ a b D its.toArray its2.toArray) (I.ok.hd hc)
    ⟨hz, hTI, ⟨_, _, hTO⟩, h1, h2, p1.isList.at fun o e => hk _ _ e, pl2.isList.at fun o e => hk _ _ e⟩ ⟨by rw [lz, List.size_toArray, List.size_toArray]; omega, fun i key v ⟨e1, e2⟩ => ?_⟩ (by rw [List.size_toArray, List.size_toArray]; omega) fun hF tk hd' kk => ?_
  · rw [List.getElem?_toArray] at e1 e2
    obtain ⟨x, hx, rx⟩ := back rv e1
    rw [List.getElem?_map] at hx
    obtain ⟨y, hy, rfl⟩ := Option.map_eq_some_iff.mp hx
    refine ⟨Sum.inr y, ?_, kV_is (k := Sum.inr y) rx⟩
    rw [List.getElem?_zip_eq_some]
    exact ⟨by rw [List.getElem?_map, hy] <;> rfl, e2⟩
  · have kF : ∀ c o, s1.heap.get? c = some o → hF.get? c = some o := fun c o e => by
      have hlt := Heap.lt_size e
      refine kk c o (fun q => ?_) (hk c o e)
      simp at q
      rcases q with q | q | q | q
      · exact absurd hlt (by rw [q]; exact Nat.not_lt.mpr (Nat.le_add_right _ _))
      · exact absurd hlt (by rw [q]; exact Nat.not_lt.mpr (Nat.le_add_right _ _))
      · exact absurd hlt (by rw [q]; exact Nat.lt_irrefl _)
      · exact absurd hlt (by rw [q]; exact Nat.not_lt.mpr (Nat.le_add_right _ _))
    have hSn : H1 h'.objs.size = none := I1.hok.fresh (by rw [hsz]; exact Nat.le_add_right _ _)
    have hm : (h'.objs.size == sysModules) = false := beq_eq_false_iff_ne.mpr (by rw [hsz]; exact Nat.ne_of_gt (Nat.lt_of_lt_of_le I1.big (Nat.le_add_right _ _)))
    have rel : KV ((ks.map fun x => (Sum.inr x : L2.Key)).zip ys) ((ks.map fun x => (Sum.inr x : L2.Key)).zip its2) := by
      refine paired_of (by rw [List.length_zip, List.length_zip, n2]) fun i x y e1 e2 => ?_
      rw [List.getElem?_zip_eq_some] at e1 e2
      obtain ⟨u, hu, ru⟩ := rv2.get e1.2
      obtain ⟨e3, e4⟩ := e2
      rw [hu] at e4
      rw [e1.1] at e3
      exact ⟨Option.some.inj e3, Option.some.inj e4 ▸ ru⟩
    have hlen : (mergeK [] ((ks.map fun x => (Sum.inr x : L2.Key)).zip ys)).length ≤ sizeLine := by
      refine Nat.le_trans (length_mergeK _ []) ?_
      rw [List.length_nil, Nat.zero_add, List.length_zip, List.length_map]
      omega
    exact ⟨.ref h'.objs.size, upd H1 h'.objs.size (.dK (mergeK [] ((ks.map fun x => (Sum.inr x : L2.Key)).zip ys))), I1.laid (t' := tk) kF (by rw [hsz]; exact Nat.le_add_right _ _) (show ObjOk X.prog X.w _ _ _ (.dK (mergeK [] ((ks.map fun x => (Sum.inr x : L2.Key)).zip ys))) from ⟨hlen, hm, _, KV.merge rel .nil, hd'⟩), rfl, q _ hSn⟩
end
/-- the keys unlike one another -/
theorem mergeK_nd : ∀ (kvs acc : List (L2.Key × V)), ((acc ++ kvs).map (·.1)).Nodup → mergeK acc kvs = acc ++ kvs
  | [], acc, _ => by rw [List.append_nil]; rfl
  | (k, v) :: kvs, acc, h => by
    have hn : valV acc k = none := by
      unfold valV
      rw [Option.map_eq_none_iff, List.find?_eq_none]
      intro x hx e
      have e := of_decide_eq_true e
      rw [List.map_append, List.nodup_append] at h
      exact h.2.2 x.1 (List.mem_map.mpr ⟨x, hx, rfl⟩) k (by simp) e
    show mergeK (putK acc k v) kvs = _
    rw [putK_new v hn, mergeK_nd kvs (acc ++ [(k, v)]) (by rw [List.append_assoc]; exact h), List.append_assoc] <;> rfl
theorem valV_mem {kvs : List (L2.Key × V)} {k : L2.Key} {v : V} (nd : (kvs.map (·.1)).Nodup) (h : (k, v) ∈ kvs) : valV kvs k = some v := by
  induction kvs with
  | nil => cases h
  | cons p kvs ih =>
    rw [List.map_cons, List.nodup_cons] at nd
    rcases List.mem_cons.mp h with e | e
    · subst e
      exact valV_pos rfl
    · rw [valV_neg (fun z => nd.1 (List.mem_map.mpr ⟨_, e, z.symm⟩))]
      exact ih nd.2 e
/-- literal pairs of ints -/
def tPairs : List (Int × Int) → TA
  | [] => tNil
  | q :: l => tCons (tTup (tCons (tC (.int q.1)) (tCons (tC (.int q.2)) tNil))) (tPairs l)
def PInt (H0 H : Hp) (q : Int × Int) (v : V) : Prop := ∃ t, v = .ref t ∧ H0 t = none ∧ H t = some (.tup [.int q.1, .int q.2])
theorem pairs_lit : ∀ (l : List (Int × Int)) (σ : L2.St) (H : Hp) (Q : List V → Hp → Prop), (∀ ts H', SB [] H H' → Paired (PInt H H') l ts → Q ts H') → tPairs l σ H Q
  | [], _, H, Q, q => q [] H SB.same .nil
  | x :: l, σ, H, Q, q => by
    refine ⟨(by decide : (2 : Nat) ≤ sizeLine), fun t ht => ?_⟩
    refine pairs_lit l σ _ _ fun ts H' s p => ?_
    have s1 : SB [] H (upd H t (.tup [.int x.1, .int x.2])) := SB.same.new ht
    refine q (.ref t :: ts) H' (s1.trans s) (.cons ⟨t, rfl, ht, s _ _ (by simp) upd_same⟩ (Paired.mapP p fun y v ⟨t', e, n, e2⟩ => ⟨t', e, SB.free s1 n (by simp), e2⟩))
end Ef
namespace Ef
open PySem PySem.Spec PyProof.Rows C8
open L2 hiding E0 CX0 pass0 Fun
/-! ### repr of a bool -/
def reprB (b : Bool) : Str := if b then "True" else "False"
theorem call_reprB {X : Cx} : CallR X (.builtin "repr") (fun xs H Q => ∃ b, xs = [.bl b] ∧ Q (.str (reprB b)) H) := by
  intro pins s σ H xs us Q I r h
  obtain ⟨b, rfl, q⟩ := h
  obtain ⟨u, rfl, rx⟩ := r.one
  cases (show u = Value.bool b from rx)
  exact PySem.P.repr_of_bool ⟨.str (reprB b), H, I.tok _, ⟨_, rfl⟩, q⟩
end Ef
namespace Ef
open PySem PySem.W PySem.Calls PyProof.Rows
/-! ### sorted(xs, key=f), the keys lists that stood before -/
/-- u reads as k; its lists stand in h0 -/
def KeyIn (h0 : Heap) (k : PyData) (h : Heap) (u : Value) : Prop := ∃ as, Reads h u k as ∧ ∀ c ∈ as, ∃ o, h0.get? c = some o
section
variable {prog : Program} {w : World} {A : Around} {E : Value → Shared → Prop} {s : Shared} {β : Type} {vs : List Value} {bs : List β} {R : Value → β → Prop}
theorem KeyIn.up {h0 h g : Heap} {k : PyData} {u : Value} (x : KeyIn h0 k h u) (q : ∀ b o, h.get? b = some o → g.get? b = some o) : KeyIn h0 k g u := by
  obtain ⟨as, r, l⟩ := x
  exact ⟨as, PyProof.Rows.Reads.keeps q r, l⟩
/-- a list that h0 does not know is written -/
theorem KeyIn.written {h0 h : Heap} {k : PyData} {u : Value} {c : Addr} {xs : Array Value} {n : Nat} {f : Array Value → Array Value} (x : KeyIn h0 k h u) (al : alike k k = true) (hc : h.get? c = some (seqObj "list" xs n)) (nc : h0.get? c = none) : KeyIn h0 k (h.update c (Obj.mapSeq f)) u := by
  obtain ⟨as, r, l⟩ := x
  have sb := Heap.SameBut.update h c (Obj.mapSeq f)
  refine ⟨as, Reads.keepBut (a := c) (fun b o hb q => (sb.2 b hb).trans q) (fun o q => ?_) k u as al r (fun z => ?_), l⟩
  · rw [hc] at q
    cases q
    rfl
  · obtain ⟨o, q⟩ := l c z
    rw [nc] at q
    cases q
theorem sorted_lists {l q : Addr} {Q : Value → Shared → Prop} (k : β → PyData) (hl : s.heap.IsList l vs.toArray) (e : EachIs R vs bs) (hal : AllAlike (bs.map k)) (hk : Sortable (bs.map k)) (hL : bs.length ≤ sizeLine) (hu : ∀ x, x ∈ bs → A.units + 2 + (k x).depth < cLine)
    (turn : ∀ (v : Value) (x : β), R v x → x ∈ bs → ∀ (h : Heap) (tk : Nat), (∀ b o, s.heap.get? b = some o → h.get? b = some o) →
      wpAny (model prog w) A.in1.in1 (call (.ref q) [v]) (fun u s2 => ∃ h' tk', s2 = { s with heap := h', toks := tk' } ∧ (∀ b o, h.get? b = some o → h'.get? b = some o) ∧ KeyIn s.heap (k x) h' u) (fun _ _ => False) { s with heap := h, toks := tk })
    (fin : ∀ (out : List Value) (c : Nat) (h' : Heap) (tk : Nat), (∀ b o, s.heap.get? b = some o → h'.get? b = some o) → h'.get? (s.heap.objs.size + 1) = some (seqObj "list" out.toArray c) → out.length = bs.length → EachIs R out (bs.mergeSort (dataLe false k)) → Q (.ref (s.heap.objs.size + 1)) { s with heap := h', toks := tk }) :
    wpAny (model prog w) A (call (.builtin "sorted") [.ref l] [(Str.ofString "key", .ref q)]) Q E s := by
  have lv : vs.length = bs.length := e.length
  refine sorted_of_sort hl (by rw [lv]; exact hL) (ksk_s1 _ _) (fun _ => ksk_l1 _ _) fun E' => ?_
  rw [ksk_t1]
  -- the copy that is sorted
  have nA : s.heap.get? (s.heap.objs.size + 1) = none := Heap.get?_none_of_le (Nat.le_succ _)
  have c0 := copyHeap_at s.heap vs
  have cK : ∀ b o, s.heap.get? b = some o → (copyHeap s.heap vs).get? b = some o := fun b o => copyHeap_old
  have ltA : s.heap.objs.size + 1 < (copyHeap s.heap vs).objs.size := Heap.lt_size c0
  generalize s.heap.objs.size + 1 = a at nA c0 ltA fin ⊢
  generalize copyHeap s.heap vs = h1 at c0 cK ltA ⊢
  unfold ksk_tree
  refine wpAny_bind (listItems_at c0 rfl ?_)
  obtain ⟨e1, c1⟩ : ∃ e1, (h1.update a (Obj.mapSeq fun _ => (#[] : Array Value))).get? a = some (seqObj "list" #[] e1) := ⟨_, get?_update_seq c0 fun _ => #[]⟩
  refine wpAny_bind (listUpdate_at c0 rfl ?_ (by rw [List.size_toArray, lv]; exact hL) (Nat.zero_le _))
  refine wpAny_bind (seqEpoch_at c1 rfl (wpAny_bind (wpAny_newTuple ?_ (by show vs.length ≤ _; rw [lv]; exact hL))))
  refine wpAny_bind (wpAny_newList (wpAny_holding ?_) (Nat.zero_le _))
  have szK : ((h1.update a (Obj.mapSeq fun _ => (#[] : Array Value))).push { cls := .type "tuple", data := .seq vs.toArray }).objs.size = h1.objs.size + 1 := by rw [size_push', Heap.size_update]
  have g0 : (((h1.update a (Obj.mapSeq fun _ => (#[] : Array Value))).push { cls := .type "tuple", data := .seq vs.toArray }).push { cls := .type "list", data := .seq (([] : List Value).toArray) }).get? ((h1.update a (Obj.mapSeq fun _ => (#[] : Array Value))).push { cls := .type "tuple", data := .seq vs.toArray }).objs.size = some (seqObj "list" #[] 0) := Heap.get?_push_size _ rfl
  have gA : (((h1.update a (Obj.mapSeq fun _ => (#[] : Array Value))).push { cls := .type "tuple", data := .seq vs.toArray }).push { cls := .type "list", data := .seq (([] : List Value).toArray) }).get? a = some (seqObj "list" #[] e1) := Heap.get?_push_of_some _ (Heap.get?_push_of_some _ c1)
  have gK : ∀ b o, b ≠ a → h1.get? b = some o → (((h1.update a (Obj.mapSeq fun _ => (#[] : Array Value))).push { cls := .type "tuple", data := .seq vs.toArray }).push { cls := .type "list", data := .seq (([] : List Value).toArray) }).get? b = some o := fun b o hb z =>
    Heap.get?_push_of_some _ (Heap.get?_push_of_some _ (((Heap.SameBut.update h1 a (Obj.mapSeq fun _ => (#[] : Array Value))).2 b hb).trans z))
  generalize hS : ((h1.update a (Obj.mapSeq fun _ => (#[] : Array Value))).push { cls := .type "tuple", data := .seq vs.toArray }).objs.size = kS at szK g0 ⊢
  generalize ((h1.update a (Obj.mapSeq fun _ => (#[] : Array Value))).push { cls := .type "tuple", data := .seq vs.toArray }).push { cls := .type "list", data := .seq (([] : List Value).toArray) } = h2 at g0 gA gK ⊢
  have nKa : kS ≠ a := by omega
  have nK1 : h1.get? kS = none := Heap.get?_none_of_le (by omega)
  have nK0 : s.heap.get? kS = none := by
    cases z : s.heap.get? kS with
    | none => rfl
    | some o => rw [cK _ _ z] at nK1; cases nK1
  have old2 : ∀ b o, s.heap.get? b = some o → h2.get? b = some o := fun b o z => gK b o (fun y => by rw [y, nA] at z; cases z) (cK b o z)
  unfold ksk_rest
  refine wpAny_bind (wpAny_rule ?_)
  rw [← Array.forIn_toList, List.toList_toArray]
  refine wpAny_bind (ksk_fold (fun i s' => ∃ g tk kA m, s' = { s with heap := g, toks := tk } ∧ (∀ b o, s.heap.get? b = some o → g.get? b = some o) ∧ KeepsBut a h1 g ∧ g.get? kS = some (seqObj "list" kA m) ∧ g.get? a = some (seqObj "list" #[] e1) ∧ EachIs (fun v d => KeyIn s.heap d g v ∧ alike d d = true) kA.toList ((bs.map k).take i)) vs 0 _
    ⟨h2, _, #[], 0, rfl, old2, gK, g0, gA, by rw [List.take_zero]; exact EachIs.nil⟩ ?_ ?_)
  · rintro j v s' hv ⟨g, tk, kA, m, rfl, oldg, kg, kS1, a1, ks⟩
    simp only [Nat.zero_add] at ks ⊢
    have hj : j < bs.length := by rw [← lv]; exact (List.getElem?_eq_some_iff.mp hv).1
    obtain ⟨x, hx⟩ : ∃ x, bs[j]? = some x := ⟨_, List.getElem?_eq_getElem hj⟩
    have mx := List.mem_of_getElem? hx
    have hz : (vs.zip bs)[j]? = some (v, x) := by
      rw [List.getElem?_zip_eq_some]
      exact ⟨hv, hx⟩
    have rv : R v x := e.zip _ (List.mem_of_getElem? hz)
    have ax : alike (k x) (k x) = true := hal _ (List.mem_map_of_mem mx) _ (List.mem_map_of_mem mx)
    have lk : kA.size ≤ bs.length := by
      have z := ks.length
      rw [Array.length_toList, List.length_take, List.length_map] at z
      omega
    refine wpAny_bind (wpAny_attempt (wpAny_mono (turn v x rv mx g tk oldg) (fun u s'' hu' => ?_) fun _ _ z => z.elim))
    obtain ⟨g2, tk2, rfl, up, ku⟩ := hu'
    try dsimp only
    have kS2 := up _ _ kS1
    have tkx : (bs.map k).take (j + 1) = (bs.map k).take j ++ [k x] := by rw [List.take_add_one, List.getElem?_map, hx] <;> rfl
    have sb := Heap.SameBut.update g2 kS (Obj.mapSeq (·.push u))
    obtain ⟨m2, kS3⟩ : ∃ m2, (g2.update kS (Obj.mapSeq (·.push u))).get? kS = some (seqObj "list" (kA.push u) m2) := ⟨_, get?_update_seq kS2 (·.push u)⟩
    refine wpAny_bind (listUpdate_at kS2 rfl ?_ (by omega) (by rw [Array.size_push]; omega))
    refine wpAny_pure ⟨rfl, _, tk2, kA.push u, m2, rfl, fun b o z => ?_, fun b o hb z => ?_, kS3, (sb.2 a (Ne.symm nKa)).trans (up _ _ a1), ?_⟩
    · exact (sb.2 b (fun y => by rw [y, nK0] at z; cases z)).trans (up _ _ (oldg b o z))
    · exact (sb.2 b (fun y => by rw [y, nK1] at z; cases z)).trans (up _ _ (kg b o hb z))
    · rw [tkx, Array.toList_push]
      refine each_snoc (R := fun (v : Value) (d : PyData) => KeyIn s.heap d (g2.update kS (Obj.mapSeq (·.push u))) v ∧ alike d d = true) ⟨ku.written ax kS2 nK0, ax⟩ ?_
      exact ks.mono fun v d z => ⟨(z.1.up up).written z.2 kS2 nK0, z.2⟩
  · rintro s' ⟨g, tk, kA, m, rfl, oldg, kg, kS1, a1, ks⟩
    rw [List.take_of_length_le (by rw [List.length_map]; omega)] at ks
    have ks' : EachIs (fun v d => ∃ as, Reads g v d as) kA.toList (bs.map k) := ks.mono fun v d z => by
      obtain ⟨⟨as, r, _⟩, _⟩ := z
      exact ⟨as, r⟩
    have lk : kA.size = vs.length := by
      have z := ks.length
      rw [Array.length_toList, List.length_map] at z
      omega
    try dsimp only
    refine wpAny_bind (listItems_at kS1 rfl ?_)
    refine keyH_end (κ := dataKind g (bs.map k)) (h₁ := h1) kg nK1 kS1 a1 nKa (SortsAt.data (s := { s with heap := g, toks := tk }) ks' hal hk fun d hd => ?_) lk (by rw [lv]; exact hL) fun h3 tk3 c k3 n3 => ⟨rfl, ?_⟩
    · obtain ⟨x, hx, rfl⟩ := List.mem_map.mp hd
      have := hu x hx
      have u2 : A.in1.in1.units ≤ A.units + 2 := by simp [Around.in1]
      omega
    · have ko : KeyedOut false (bs.map k) vs (sortVals (dataKind g (bs.map k)) false kA.toList vs) := ⟨g, kA.toList, hal, rfl, ks'⟩
      refine fin _ c h3 tk3 (fun b o z => k3 b o (fun y => by rw [y, nA] at z; cases z) (cK b o z)) n3 ((ko.length (by rw [List.length_map, lv])).trans lv) (keyedOut_each k ko e)
end
end Ef
namespace Ef
open PySem PySem.W PySem.Calls PyProof.Rows
/-! ### an own exception's __init__: super().__init__(), self.value = value -/
/-- its body -/
abbrev supBody (p0 p1 p2 p3 p4 p5 p6 p7 p8 : Pos) : List Stmt :=
  [.Expr (.Call (.Attribute (.Call (.Name "super" p0) [] [] p1) "__init__" p2) [] [] p3) p4, .Assign [.Attribute (.Name "self" p5) "value" p6] (.Name "value" p7) p8]
/-- super().__init__() as the machine takes it -/
def CallIs (p0 p1 p2 p3 : Pos) : Prop := ∀ env : Env, ∃ pl : Sem Bool, eval (.Call (.Attribute (.Call (.Name "super" p0) [] [] p1) "__init__" p2) [] [] p3) env = (do
  let ov ← attributeBase (.Call (.Name "super" p0) [] [] p1) "__init__" env (eval (.Call (.Name "super" p0) [] [] p1) env)
  standAt p2.atName
  let (f, first) ← holding [ov] (getMethod ov "__init__" pl)
  callWith p3 f first (backTo p3 (starEach [] env)) [])
/-- what the written part says of it -/
structure SupX (P : Program) (K : Frag) (C f : Addr) (fd : FuncData) : Prop where
  ex : ∃ (qual : Str) (params : Arguments) (scope : Scope) (dV kV doc pm ct oc ccl cl : Value) (an od cdd cld : Option Addr) (osl ccs csl : Array (Option Value)) (cda cc : Addr) (vs : Array Value) (file : Str) (tf : Tok) (ar : Arg) (p0 p1 p2 p3 p4 p5 p6 p7 p8 : Pos),
    fd = ksFn "__init__" qual params (supBody p0 p1 p2 p3 p4 p5 p6 p7 p8) scope dV kV doc pm an (.ref cda) ct cc ∧ K.lookup f = some ⟨oc, od, .func fd, osl⟩ ∧ codeIn K (.ref cda) qual = true ∧
    K.lookup cda = some ⟨ccl, cdd, .fields vs, ccs⟩ ∧ vs[2]? = some (.str file tf) ∧ (P.main.file == file) = true ∧ (P.main.scope.names.lookup ("super" : Str)).isSome = false ∧ K.lookup cc = some ⟨cl, cld, .cell (some (.ref C)), csl⟩ ∧
    (params.posonlyargs ++ params.args).head? = some ar ∧ ar.arg = "self" ∧ scope.names = ([("self", NameKind.local), ("value", NameKind.local), ("__class__", NameKind.free), ("super", NameKind.globalImplicit)] : List (Str × NameKind)) ∧
    scope.kind = .function ∧ scope.isCoroutine = false ∧ scope.isGenerator = false ∧ CallIs p0 p1 p2 p3
  tX : L2.OexC K C
  sup : ks_superIn K C C "__init__" = some (some (.builtin "ValueError.__init__"))
  sub : subIn K (.ref C) (.type "ValueError") = some true
  self : mroIn K C (.ref C) = some true
  op : nsIn K cStatics "thirdparty.any" = some none
  no : findIn K (.ref C) "value" = some none
  glob : nsIn K mainGlobals "super" = some none
section
variable {P : Program} {w : World} {A : Around} {K : Frag} {base : Heap} {s : Shared} {f a C t1 : Addr} {fd : FuncData} {args : Args} {u : Value} {mg : Str → Option Value} {R : Result → Shared → Prop}
theorem supx_raw (F : SupX P K C f fd) (M : L2.Mod K mg base) (kb : ∀ b o, base.get? b = some o → s.heap.get? b = some o) (hroom : A.depth < recursionLimit) (na : base.get? a = none)
    (ha : s.heap.get? a = some (PySem.HandSPX.excO C t1)) (hb : BindsTo s fd args [("self", .ref a), ("value", u)])
    (hq : ∀ s', s'.os = s.os → s'.gens = s.gens → (∀ b o, b ≠ a → s.heap.get? b = some o → s'.heap.get? b = some o) → ∀ dx t2, s.heap.objs.size ≤ dx → dx ≠ a →
      s'.heap.get? a = some ({ cls := .ref C, dict := some dx, data := .fields #[.ref t2, .none, .none, .none, .bool false, .none] } : Obj) → s'.heap.Ns1 dx (fun y => if y = "value" then some u else none) → R (.ok (.ret .none)) s') :
    codeAny (model P w) A (.call (.ref f) args) R s := by
  obtain ⟨qual, params, scope, dV, kV, doc, pm, ct, oc, ccl, cl, an, od, cdd, cld, osl, ccs, csl, cda, cc, vs, file, tf, ar, p0, p1, p2, p3, p4, p5, p6, p7, p8, rfl, lk, hcd, hcode, hvs, hfile, htop, hcell, hhead, har, hnames, hkind, hco, hgen, hcall⟩ := F.ex
  obtain ⟨sk, snm, sge, sco, smo⟩ := scope
  dsimp only at hnames hkind hco hgen
  subst hnames hkind hco hgen
  obtain ⟨nm, q, N, bs, bm, sn, sub, ab, col, dd, k0, k1, k2, k3, k5, hC, hbm⟩ := F.tX.cls
  have X : K.In s.heap := M.kin.keeps kb
  obtain ⟨mb, hmb, hbt⟩ := M.blt
  have hcl : clsIn K C = some { name := nm, bases := bs, mro := .ref C :: bm, ns := N, qualname := q, hasDict := true, slotNames := sn, subclasses := sub, abstract := ab, collection := col, hasDel := false } := by
    unfold clsIn; rw [hC] <;> rfl
  refine ks_codeAny_call_defAt (fd := ksFn "__init__" qual params (supBody p0 p1 p2 p3 p4 p5 p6 p7 p8) ⟨_, _, _, _, smo⟩ dV kV doc pm an (.ref cda) ct cc) (body := supBody p0 p1 p2 p3 p4 p5 p6 p7 p8) hroom (X _ _ lk) rfl (M.nolimit.keeps kb) (codeRec_of X hcd) rfl hb
    (fun x hx => ?_) (fun x hx => ?_) (fun h0 hns hk0 => ?_) rfl rfl rfl
  · have hx' : x ∈ ([("self", NameKind.local), ("value", NameKind.local), ("__class__", NameKind.free), ("super", NameKind.globalImplicit)] : List (Str × NameKind)) := hx
    simp only [List.mem_cons, List.not_mem_nil, or_false] at hx'
    rcases hx' with rfl | rfl | rfl | rfl <;> simp
  · simp only [List.mem_cons, List.not_mem_nil, or_false] at hx
    rcases hx with rfl | rfl
    · exact rfl
    · exact rfl
  obtain ⟨hh, g, d, t, os⟩ := s
  have K0 : ∀ b o, base.get? b = some o → h0.get? b = some o := fun b o e => hk0 b o (kb b o e)
  have X0 : K.In h0 := M.kin.keeps K0
  have hD1 := X0 _ _ hC
  have ha0 : h0.get? a = some (PySem.HandSPX.excO C t1) := hk0 _ _ ha
  have naL : a ≠ hh.objs.size := Nat.ne_of_lt (Heap.lt_size ha)
  have I0 : InstAt h0 a (PySem.HandSPX.excO C t1) C none := ⟨ha0, rfl, rfl, trivial⟩
  have hL : (⟨h0, g, d, t + 2, os⟩ : Shared).heap.Ns hh.objs.size (fun x => ([(("self" : Str), Value.ref a), ("value", u)] : List (Str × Value)).reverse.lookup x) := hns
  obtain ⟨pl, hpl⟩ := hcall (ksEnv qual _ hh.objs.size f (.ref cda) cc)
  refine ks_wpAt_execs_cons (ks_wpAt_Expr_any (ks_wpAt_MethodCall (pl := pl) ?_ hpl))
  refine ks_wpAt_super_base (env := ksEnv qual _ hh.objs.size f (.ref cda) cc) rfl rfl rfl rfl (X0 _ _ lk) rfl hhead rfl (X0 _ _ hcode) rfl hvs hfile htop ?_
  refine ks_loadName_global rfl rfl (loadGlobal_builtin (env := ksEnv qual _ hh.objs.size f (.ref cda) cc) (M.glob.keeps K0) (mg_none_of M.kin M.glob F.glob) (hmb.keeps K0) ((hbt _ (by decide)).trans Boot.«super») ⟨rfl, ?_⟩)
  refine wpAny_loadName_free rfl rfl rfl ⟨_, X0 _ _ hcell, rfl⟩ ?_
  rw [har]
  refine wpAny_loadName_local rfl rfl hL rfl ?_
  refine ks_wpAny_isType_cls hD1 rfl ⟨rfl, ?_⟩
  refine ks_wpAny_call_super hD1 rfl ha0 rfl (fun c z => by cases z) (looks_mroIn X0 F.self) (fun h1 e1 k1 => ?_)
  have X1 : K.In h1 := X0.keeps k1
  have ha1 := k1 _ _ ha0
  have I1 : InstAt h1 a (PySem.HandSPX.excO C t1) C none := ⟨ha1, rfl, rfl, trivial⟩
  have hm := F.sup
  unfold ks_superIn at hm
  rw [hcl] at hm
  refine kxs_getMethod kxs_ValueError e1 (looks_opaque X1 F.op) (l₀ := .ref C :: bm) (fun A Q E s k q => wpAny_bind ((looks_clsIn X1 hcl) A _ E s k (wpAny_pure q))) rfl X1 hm (I1.type.andThen (looks_subIn X1 F.sub)) (ks_ne X1 I1 hcl) rfl ?_
  refine kxs_callWith (i := "ValueError.__init__") (x := a) rfl (evalArgs_empty ⟨Heap.get?_push_at rfl rfl, ?_⟩)
  have k2 : ∀ b o, h1.get? b = some o → (h1.push (kxs_mw "ValueError.__init__" a)).get? b = some o := fun b o e => Heap.get?_push_of_some _ e
  have hu : (h1.push (kxs_mw "ValueError.__init__" a)).get? h1.objs.size = some (kxs_mw "ValueError.__init__" a) := Heap.get?_push_at rfl rfl
  have ha2 := k2 _ _ ha1
  have X2 : K.In (h1.push (kxs_mw "ValueError.__init__" a)) := X1.keeps k2
  show wpAny _ _ (call (.ref h1.objs.size) []) _ _ _
  refine wpAny_call (codeAny_of_tree ?_)
  show wpAny _ _ (callAny (.ref h1.objs.size) ⟨[], []⟩) _ _ _
  simp only [callAny]
  refine wpAny_bind (wpAny_load hu ?_)
  simp only [kxs_mw, show (Value.type "method-wrapper" == Value.type "method" || Value.type "method-wrapper" == Value.type "builtin_function_or_method" || Value.type "method-wrapper" == Value.type "method-wrapper") = true by decide, if_true]
  refine KFB.if_so (by decide) ?_
  refine wpAny_bind (check_bound_init PySem.F.excBase_ValueError.toExcCallFacts (X2 _ _ hC) ha2 rfl ?_)
  refine wpAny_bind (wpAny_pure (wpAny_pure ?_))
  refine ⟨plainId_quiet PySem.F.excBase_ValueError.init.plain _, codeAny_builtin PySem.F.excBase_ValueError.initEntry ?_⟩
  refine exc_init_tree (cls := .ref C) (t0 := t1) (dv := none) (c2 := .none) (c3 := .none) (b4 := .bool false) ha2 (by rw [sizeLine_eq]; decide) (fun h3 k3 ha3 _ => ?_)
  have KK : ∀ b o, b ≠ a → h0.get? b = some o → h3.get? b = some o := fun b o hb e => k3 b o hb (k2 _ _ (k1 _ _ e))
  have X3 : K.In h3 := M.kin.keeps fun b o e => KK b o (fun z => by rw [z, na] at e; cases e) (K0 b o e)
  have hL3 : h3.Ns hh.objs.size (fun x => ([(("self" : Str), Value.ref a), ("value", u)] : List (Str × Value)).reverse.lookup x) := by
    obtain ⟨oL, es, ep, e, r⟩ := hL
    exact ⟨oL, es, ep, KK _ _ naL.symm e, r⟩
  have sz : hh.objs.size < h3.objs.size := by
    obtain ⟨oL, es, ep, e, r⟩ := hL3
    exact Heap.lt_size e
  refine wpAt_of_wpAny (wpAny_execs_cons (plainObj_wpAny_Assign_Attribute (wpAny_Name (wpAny_loadName_local rfl rfl hL3 rfl (wpAny_Name (wpAny_loadName_local rfl rfl hL3 rfl ?_) (by decide))) (by decide))))
  refine set_plain X3 (od := none) ⟨ha3, rfl, rfl, trivial⟩ F.tX.sa ?_
  refine PySem.HandSPX.exc_osa X3 ha3 hcl (show PySem.HandSPX.refsVE (.ref C :: bm) = true from hbm) rfl F.no (fun h4 tk4 dx k4 dn dne hx4 hn4 => ?_)
  refine wpAny_execs_nil ?_
  exact hq _ rfl rfl (fun b o hb e => k4 b o hb (KK b o hb (hk0 _ _ e))) dx _ (Nat.le_trans (Nat.le_of_lt sz) dn) dne hx4 hn4
end
/-- its promise -/
def spSupX (C : Addr) : L2.Sp := fun vs H Q _ => ∃ (a : Addr) (y : L2.V), vs = [.ref a, y] ∧ H a = some (L2.exo a C none) ∧
  ∀ dx, H dx = none → dx ≠ a → Q .non (L2.upd (L2.upd H dx (L2.exd dx [("value", y)])) a (L2.exo a C (some dx)))
open L2 in
theorem supx_ok {P : Program} {w : World} {K : Frag} {mg : Str → Option Value} {base : Heap} {CX : CXT} {k : Nat} {f C : Addr} {fd : FuncData} (F : SupX P K C f fd) : FnOk P w K mg base CX k f fd ["self", "value"] (spSupX C) := by
  refine ⟨fun vs H Q E h => ?_, fun A outer s H args us vs Q E hr e0 hb r h => ?_⟩
  · obtain ⟨a, y, rfl, _⟩ := h
    rfl
  obtain ⟨a, y, rfl, e, h⟩ := h
  obtain ⟨t1, ho⟩ := exo_at e0.hok e
  cases r with
  | cons r1 rr =>
  cases rr with
  | cons ry rn =>
  cases rn
  cases r1
  rename_i u
  have na : base.get? a = none := by
    cases z : base.get? a with
    | none => rfl
    | some o =>
      have q := (e0.bs a o z).2
      rw [e] at q
      cases q
  refine supx_raw F e0.mod (fun b o q => (e0.bs b o q).1) hr.depth na ho hb (fun s' os gens kp dx t2 dn dne hx hn => ?_)
  have hnd : H dx = none := e0.hok.fresh dn
  have nd : ∀ {b : Addr} {o : Obj}, s.heap.get? b = some o → b ≠ dx := fun {b o} q => Nat.ne_of_lt (Nat.lt_of_lt_of_le (Heap.lt_size q) dn)
  have nha : ∀ {b : Addr}, H b = none → b ≠ a := fun {b} n z => by
    rw [z, e] at n
    cases n
  have U : Un (frs outer) [] H (upd (upd H dx (exd dx [("value", y)])) a (exo a C (some dx))) s.heap s'.heap := {
    keep := fun b o q n _ _ => kp b o (nha n) q
    slot := fun b o q n _ _ => ⟨o.slots, kp b o (nha n) q⟩
    free := fun b o q n _ => by rw [upd_ne (nha n), upd_ne (nd q)]; exact n
    there := fun b o q _ => by
      by_cases hb : b = a
      · exact ⟨_, by rw [hb]; exact hx⟩
      · exact ⟨o, kp b o hb q⟩
    tups := fun b xs q => by rw [upd_ne (at_ne e q exo_tup), upd_ne (ne_of_none q hnd)]; exact q
    frzs := fun b o v q => by rw [upd_ne (at_ne e q exo_frz), upd_ne (ne_of_none q hnd)]; exact q
    tbls := fun b ps q => ⟨#[], by rw [upd_ne (at_ne e q exo_tbl), upd_ne (ne_of_none q hnd), q]; simp⟩ }
  refine ⟨.non, _, os, by rw [gens]; exact e0.bare, U, fun b o q => ?_, rfl, h dx hnd dne⟩
  by_cases hb : b = a
  · subst hb
    rw [upd_same] at q
    cases q
    exact exo_ok hx
  · rw [upd_ne hb] at q
    by_cases hd : b = dx
    · subst hd
      rw [upd_same] at q
      cases q
      exact exd_ok hn (relO_put (fs := []) ry fun g => True.intro)
    · rw [upd_ne hd] at q
      exact (e0.hok b o q).stay (fun c v hc z => kp c v (by
          rcases hc with hc | hc
          · rw [hc]
            exact hb
          · exact at_ne e hc exo_own) z)
        (fun c hc => by rw [upd_ne (at_ne e hc exo_own), upd_ne (ne_of_none hc hnd)]; exact hc) (fun c xs hc => by rw [upd_ne (at_ne e hc exo_tup), upd_ne (ne_of_none hc hnd)]; exact hc)
end Ef
namespace Ef
open PySem PySem.Spec PyProof.Rows C8
open L2 hiding E0 CX0 pass0 Fun
/-! ### defs that raise, a caught exception that is kept -/
section
variable {P : Program} {w : World} {K : PySem.W.Frag} {mg : Str → Option Value} {base : Heap}
/-- a def that may raise, by its name -/
structure CalX (P : Program) (w : World) (K : PySem.W.Frag) (mg : Str → Option Value) (base : Heap) (k : Nat) (x : Str) (sp : Sp) : Prop where
  ex : ∃ (f : Addr) (fd : FuncData) (ps : List Str), FnOk P w K mg base (L2.CX P w) k f fd ps sp ∧ mg x = some (.ref f) ∧ PySem.W.keepIn K (.ref f) = true ∧ Binds K fd ps []
theorem Fn.calX {x : Str} {st : Stmt} {N ps : List Str} {k : Nat} {sp : Sp} (F : Fn K mg x st) (S : FnScope N ps (defScope st))
    (b : ∀ (f : Addr) (fd : FuncData), FunD K x x (defArgs st) (defBody st) (defScope st) [] [] f fd → Binds K fd ps []) (len : ∀ vs H Q E, sp vs H Q E → vs.length = ps.length)
    (body : ∀ (f : Addr) (cdv : Value) (A : Around) (outer : List Env) (s : Shared) (H : Hp) (vs : List V) (Q : VK) (E : XK), Room k (A.deeper (envOfC x (defScope st) s.heap.objs.size f cdv)) → sp vs H Q E →
      ∃ t, PSs (cxOf (L2.CX P w) P w K mg base N x (defScope st) f cdv A outer s H E) (defBody st) t ∧ t { nx := fun _ H' => Q .non H', rt := Q } (start N vs) H) : CalX P w K mg base (k + 1) x sp := by
  obtain ⟨f, fd, D, hm, kp⟩ := F.ex
  exact ⟨f, fd, ps, D.ok S len (body f), hm, kp, b f fd D⟩
/-- an own exception's class, by its name -/
structure SupAt (P : Program) (K : PySem.W.Frag) (mg : Str → Option Value) (x : Str) (C : Addr) : Prop where
  ex : ∃ (f : Addr) (fd : FuncData), SupX P K C f fd ∧ PySem.W.findIn K (.ref C) "__init__" = some (some (.ref f)) ∧ PySem.W.typeIn K (.ref f) = some (.type "function") ∧ Binds K fd ["self", "value"] []
  at_ : mg x = some (.ref C)
end
section
variable {X : Cx} {k j : Nat} {C : Addr} {x n : Str} {sp : Sp} {p pos pos' : Pos} {e : Expr} {es : List Expr} {te : TE} {t : TA} {W : WX}
/-- called where it does not raise -/
theorem pe_cN (c : CalX X.prog X.w X.K X.mg X.base k x sp) (hr : Room j X.A) (hk : k ≤ j) (hg : Gl X x) (ha : PA X (e :: es) t)
    (hdb : (x == ("__debug__" : Str)) = false := by decide) (he : starEach (e :: es) X.env = (false, eval e X.env) :: starEach es X.env := by rfl) (hpl : (backTo pos (starEach es X.env)).any (·.1) = false := by rfl) :
    PE X (.Call (.Name x p) (e :: es) [] pos) (tCall sp [] E0 t) := by
  obtain ⟨f, fd, ps, F, hm, kp, b⟩ := c.ex
  exact pe_call F (hr.mono hk) hg hm kp b .nil (fun _ _ _ _ _ _ _ h => by
    obtain ⟨_, _, _, _, _, _, _, _, _, _, _, _, z⟩ := h
    exact z.elim) ha hdb he hpl
/-- .. where it may -/
theorem pe_cX (c : CalX X.prog X.w X.K X.mg X.base k x sp) (tk : Takes X W) (hr : Room j X.A) (hk : k ≤ j) (hg : Gl X x) (ha : PA X (e :: es) t)
    (hdb : (x == ("__debug__" : Str)) = false := by decide) (he : starEach (e :: es) X.env = (false, eval e X.env) :: starEach es X.env := by rfl) (hpl : (backTo pos (starEach es X.env)).any (·.1) = false := by rfl) :
    PE X (.Call (.Name x p) (e :: es) [] pos) (tCallS sp (WE W) t) := by
  obtain ⟨f, fd, ps, F, hm, kp, b⟩ := c.ex
  exact pe_callS F (hr.mono hk) hg hm kp b (passAt tk) ha hdb he hpl
/-- a reading may be asked of more -/
theorem pe_up (h : PE X e te) : PE X e (fun σ H Q => ∃ Q1 : VK, te σ H Q1 ∧ ∀ y H1, Q1 y H1 → Q y H1) := by
  refine ⟨fun pins s σ H Q I q => ?_⟩
  obtain ⟨Q1, q1, m⟩ := q
  exact wpAny_mono (h.run pins s σ H Q1 I q1) (fun u s1 ⟨v, H1, I1, r, z⟩ => ⟨v, H1, I1, r, m v H1 z⟩) fun _ _ z => z
/-- raise C(e) -/
def tRz (C : Addr) (W : WX) (te : TE) : TS := fun _ σ H => te σ H fun y H1 => ∀ d, H1 d = none → W (.ref C) (some d) σ (upd H1 d (.xd [("value", y)]))
theorem ps_rz (F : SupAt X.prog X.K X.mg x C) (hc : X.calm = true) (tk : Takes X W) (hr : Room j X.A) (hk : 1 ≤ j) (hg : Gl X x) (he : PE X e te)
    (hdb : (x == ("__debug__" : Str)) = false := by decide) (hst : starEach [e] X.env = (false, eval e X.env) :: starEach [] X.env := by rfl) :
    PS X (.Raise (some (.Call (.Name x p) [e] [] pos)) none pos') (tRz C W te) := by
  obtain ⟨f, fd, S, iC, tI, b⟩ := F.ex
  have mk := pmk_oex (p := p) (pos := pos) S.tX iC tI (supx_ok (w := X.w) (mg := X.mg) (base := X.base) (CX := L2.CX X.prog X.w) (k := 0) S) (hr.mono hk) b .nil (fun _ _ _ _ _ _ _ h => by
    obtain ⟨_, _, _, _, _, _, _, _, _, _, _, _, z⟩ := h
    exact z.elim) hg F.at_ (pa_cons (pe_up he) pa_nil hst) hdb hst
  refine ⟨fun pins s σ H D I h => (ps_raise (pos := pos') hc tk mk).run pins s σ H D I ?_⟩
  refine ⟨_, h, fun y H1 q => ⟨by simp, fun a na => ⟨a, y, rfl, upd_same, fun dx hd ne => ?_⟩⟩⟩
  have hd1 : H1 dx = none := by rw [upd_ne ne] at hd; exact hd
  refine ⟨rfl, dx, _, upd_same, by rw [upd_ne ne, upd_same], hd1, ?_⟩
  have eH : upd (del (upd (upd (upd H1 a (exo a C none)) dx (exd dx [("value", y)])) a (exo a C (some dx))) a) dx (.xd [("value", y)]) = upd H1 dx (.xd [("value", y)]) := by
    funext b
    by_cases e1 : b = dx
    · rw [e1, upd_same, upd_same]
    · rw [upd_ne e1, upd_ne e1]
      by_cases e2 : b = a
      · rw [e2, del_same, na]
      · rw [del_ne e2, upd_ne e2, upd_ne e1, upd_ne e2]
  rw [eH]
  exact q dx hd1
/-- at a: a caught exception of the class cls, its dict at d -/
def exk (a : Addr) (cls : Value) (d : Option Addr) : HO := .ext fun h => ∃ o vs, h.get? a = some o ∧ Zc cls d o ∧ o.data = .fields vs
theorem exk_ok {P : Program} {w : World} {H : Hp} {h : Heap} {a : Addr} {cls : Value} {d : Option Addr} {o : Obj} {vs : Array Value} (e : h.get? a = some o) (z : Zc cls d o) (f : o.data = .fields vs) : ObjOk P w H h a (exk a cls d) :=
  ⟨⟨o, vs, e, z, f⟩, ⟨o, e⟩, fun h1 h2 q k => by
    obtain ⟨o1, v1, e1, z1, f1⟩ := q
    exact ⟨o1, v1, k o1 e1, z1, f1⟩⟩
theorem exk_at {P : Program} {w : World} {H : Hp} {h : Heap} {a : Addr} {cls : Value} {d : Option Addr} (hok : HOk P w H h) (e : H a = some (exk a cls d)) : ∃ o vs, h.get? a = some o ∧ Zc cls d o ∧ o.data = .fields vs := by
  have q : ObjOk P w H h a (.ext fun h => ∃ o vs, h.get? a = some o ∧ Zc cls d o ∧ o.data = .fields vs) := hok a _ e
  exact q.1
/-- x.n of a caught exception -/
def tXk (K : PySem.W.Frag) (n : Str) (te : TE) : TE := fun σ H Q => te σ H fun x H1 => ∃ (a C d : Addr) (fs : List (Str × V)) (v : V), x = .ref a ∧ H1 a = some (exk a (.ref C) (some d)) ∧ H1 d = some (.xd fs) ∧ fs.lookup n = some v ∧ XfC K C ∧
  PySem.W.findIn K (.ref C) n = some none ∧ Q v H1
theorem pe_xk (he : PE X e te) (hb : attributeBase e n X.env (eval e X.env) = eval e X.env := by rfl) : PE X (.Attribute e n pos) (tXk X.K n te) := by
  refine ⟨fun pins s σ H Q I h => attr_of hb (thn (he.run pins s σ H _ I h) fun u s1 hh => ?_)⟩
  obtain ⟨x, H1, I1, rx, a, C, d, fs, v, rfl, ea, ed, l, T, hno, q⟩ := hh
  cases rx
  obtain ⟨oe, vs, ho, hz, hf⟩ := exk_at I1.hok ea
  have hx : ObjOk X.prog X.w H1 s1.heap d (.xd fs) := I1.hok d _ ed
  obtain ⟨mA, hns, hrel⟩ := hx
  obtain ⟨od, hod, hl⟩ := lookIn_ns hns
  obtain ⟨u, hu, ru⟩ := RelO.some_of (v := v) (o := mA n) (by rw [← l]; exact hrel n)
  have inst : PySem.W.InstAt s1.heap a oe C (some od) := ⟨ho, hz.1, by unfold PySem.W.notCls; rw [hf] <;> rfl, by rw [hz.2]; exact hod⟩
  exact HandSPX.exc_get I1.kIn inst T.ga T.gg T.exC (PySem.W.findObj_own T.hdC hno rfl (by rw [hl, hu])) (handed_of ru) ⟨v, H1, I1.tok _, ru, q⟩
end
section
variable {X : Cx} {pins : List (Addr × Obj)} {σ : L2.St} {H : Hp} {sI s' : Shared} {B : Heap} {a : Addr} {cls : Value} {d : Option Addr} {oe : Obj} {vs : Array Value}
/-- back on the ground, the exception itself is tracked -/
theorem landK (J : Inv X pins σ H sI) (nb : ∀ b o, sI.heap.get? b = some o → b ∉ frs X.stack → B.get? b = some o) (st : B.StaysIn s'.heap) (up : sI.heap.UpToSlots s'.heap) (os : s'.os = sI.os) (ag : AllBare s'.gens)
    (bn : B.get? a = none) (nf : a ∉ frs X.stack) (ha : s'.heap.get? a = some oe) (hz : Zc cls d oe) (hd : oe.data = .fields vs) (na : H a = none) : Inv X pins σ (upd H a (exk a cls d)) s' := by
  have n0 : ∀ {b : Addr} {o : Obj}, sI.heap.get? b = some o → b ≠ a := fun {b o} q z => by
    have y := nb b o q (by rw [z]; exact nf)
    rw [z, bn] at y
    cases y
  have fr : ∀ {b : Addr} {o : Obj}, sI.heap.get? b = some o → b ∈ frs X.stack → ∃ sl, s'.heap.get? b = some { o with slots := sl } := fun {b o} q hb => by
    obtain ⟨_, o1, q1, hnf⟩ := J.stack.mem hb
    cases q.symm.trans q1
    exact up b o q hnf
  have og := J.inGround nb
  have nt : ∀ {b : Addr} {u : HO}, H b = some u → b ≠ a := fun {b u} q z => by
    rw [z, na] at q
    cases q
  refine J.call' (ch := []) os ⟨fun b o q _ hb _ => st b o (nb b o q hb), fun b o q _ hb _ => fr q hb, fun b o q n _ => by rw [upd_ne (n0 q)]; exact n, fun b o q _ => ?_, fun b xs q => by rw [upd_ne (nt q)]; exact q, fun b ob u q => by rw [upd_ne (nt q)]; exact q,
    fun b ps q => ⟨#[], by rw [upd_ne (nt q), q]; simp⟩⟩ (fun b u q => ?_) ag (fun _ z => nomatch z)
  · by_cases hb : b ∈ frs X.stack
    · obtain ⟨sl, z⟩ := fr q hb
      exact ⟨_, z⟩
    · exact ⟨o, st b o (nb b o q hb)⟩
  · by_cases e : b = a
    · subst e
      rw [upd_same] at q
      cases q
      exact exk_ok ha hz hd
    · rw [upd_ne e] at q
      exact (og b u q).stay (fun c v _ z => st c v z) (fun c z => by rw [upd_ne (nt z)]; exact z) fun c xs z => by rw [upd_ne (nt z)]; exact z
theorem inSuite (I : Inv X pins σ H s') (a : Addr) : Inv (X.suite a (X.pn ++ pins)) [] σ H s' :=
  ⟨I.ok.suite _ _, I.os, I.bare, I.base, I.loc, I.cell, I.free, I.freeC, fun q hq => I.pin q (by rw [List.append_nil] at hq; exact hq), I.hok, I.len⟩
theorem outSuite {a : Addr} {q : List (Addr × Obj)} (I : Inv (X.suite a (X.pn ++ pins)) q σ H s') (ok : X.Ok) : Inv X pins σ H s' :=
  ⟨ok, I.os, I.bare, I.base, I.loc, I.cell, I.free, I.freeC, fun y hy => I.pin y (List.mem_append_left _ hy), I.hok, I.len⟩
end
/-- what 'except x as n' wishes, the exception kept: slot i is n's -/
def wKeep (K : PySem.W.Frag) (c : Value) (i : Nat) (ts : TS) (W0 : WX) (D : Ends) : WX := fun cls d σ H =>
  ∃ b, PySem.W.exmOne K cls c = some b ∧ (b = true → ∀ a, H a = none → ts { nx := fun τ G => D.nx (τ.set i none) G, rt := D.rt, bk := fun τ G => D.bk (τ.set i none) G, ct := fun τ G => D.ct (τ.set i none) G } (σ.set i (some (.ref a))) (upd H a (exk a cls d))) ∧
    (b = false → W0 cls d σ H)
end Ef
namespace Ef
open PySem PySem.Spec PyProof.Rows C8
open L2 hiding E0 CX0 pass0 Fun
/-! ### try: .. except x as n: suite, where the suite keeps the exception -/
section
variable {X : Cx} {x n : Str} {c : Value} {i : Nat} {body suite : List Stmt} {b₀ : Stmt} {np pos pos' : Pos} {tb : WX → TS} {ts : TS} {W0 : WX}
/-- what an end of the suite gives behind the name's going -/
theorem keep_end {pins : List (Addr × Obj)} {D : Ends} {a : Addr} {f : Flow} {s6 : Shared} (ok : X.Ok) (hN : X.N.Nodup) (hi : X.N[i]? = some n) (hl : X.env.kindOf n = some .local)
    (h : SP (X.suite a (X.pn ++ pins)) [] { nx := fun τ G => D.nx (τ.set i none) G, rt := D.rt, bk := fun τ G => D.bk (τ.set i none) G, ct := fun τ G => D.ct (τ.set i none) G } f s6) :
    wpAny (model X.prog X.w) X.A (do bindName X.env n .none; unbindBehindTheSuite X.env n pos') (fun _ s7 => SP X pins D f s7) X.xe s6 := by
  cases f with
  | ret u =>
    obtain ⟨v, τ, G, J, r, q⟩ := h
    exact gone_ok (outSuite J ok) hN hi hl fun s7 J7 => ⟨v, _, G, J7, r, q⟩
  | next =>
    obtain ⟨τ, G, J, q⟩ := h
    exact gone_ok (outSuite J ok) hN hi hl fun s7 J7 => ⟨_, G, J7, q⟩
  | brk =>
    obtain ⟨τ, G, J, q⟩ := h
    exact gone_ok (outSuite J ok) hN hi hl fun s7 J7 => ⟨_, G, J7, q⟩
  | cont =>
    obtain ⟨τ, G, J, q⟩ := h
    exact gone_ok (outSuite J ok) hN hi hl fun s7 J7 => ⟨_, G, J7, q⟩
/-- what the body leaves behind, seen from outside -/
theorem thru_end {pins : List (Addr × Obj)} {D : Ends} {f : Flow} {s1 : Shared} {xe : Value → Shared → Prop} (ok : X.Ok) (h : SP (X.tr (X.pn ++ pins) xe) [] D f s1) :
    SP X pins D f s1 := by
  cases f with
  | ret u =>
    obtain ⟨v, τ, G, J, r, q⟩ := h
    exact ⟨v, τ, G, J.ofTry ok, r, q⟩
  | next =>
    obtain ⟨τ, G, J, q⟩ := h
    exact ⟨τ, G, J.ofTry ok, q⟩
  | brk =>
    obtain ⟨τ, G, J, q⟩ := h
    exact ⟨τ, G, J.ofTry ok, q⟩
  | cont =>
    obtain ⟨τ, G, J, q⟩ := h
    exact ⟨τ, G, J.ofTry ok, q⟩
/-- the clause, from an exception in the body's air -/
theorem keep_catch {pins : List (Addr × Obj)} {D : Ends} {u : Value} {s1 : Shared} {xe : Value → Shared → Prop} (ok : X.Ok) (hs : X.stack = X.env :: X.outer) (hf : X.env.frame = some X.env.locals) (hN : X.N.Nodup) (hi : X.N[i]? = some n) (hl : X.env.kindOf n = some .local)
    (hc : Names X x c) (tk : Takes X W0) (hsu : ∀ (a : Addr) (pn : List (Addr × Obj)), PSs (X.suite a pn) (b₀ :: suite) ts) (h : XE (X.tr (X.pn ++ pins) xe) (wKeep X.K c i ts W0 D) u s1) :
    wpAny (model X.prog X.w) X.A (noteFrame u X.env) (fun _ s2 => wpAny (model X.prog X.w) X.A (setFlight u none) (fun _ s3 =>
      wpAny (model X.prog X.w) X.A (handleBy u X.env [.ExceptHandler (some (.Name x np)) (some n) (b₀ :: suite) pos']) (SP X pins D) X.xe s3) X.xe s2) X.xe s1 := by
  obtain ⟨a, B, sI, p1, τ, G, cls, d, rfl, J0, nb, up, sky, na, os, ag, b, hb, yes, no⟩ := h
  have J : Inv X pins τ G sI := J0.ofTry ok
  have fr : X.A.frames = some (X.env :: X.outer) := by rw [ok.frames, hs]
  have nb' : ∀ b o, sI.heap.get? b = some o → b ∉ frs X.stack → B.get? b = some o := nb
  have sky1 : Sky B (X.env :: X.outer) a (Zc cls d) X.env.locals s1.heap := hs ▸ sky
  refine Sky.land Zc.steady fr hf sky1 fun g3 y3 u3 => ?_
  have J3 : Inv X pins τ G { s1 with heap := g3 } := J.landed nb' y3.1 (up.trans u3) os ag
  obtain ⟨o3, v3, e3, z3, d3⟩ := y3.there
  have out : a ∉ frs X.stack := fun hm => by
    rw [hs] at hm
    obtain ⟨_, o', e', hnf⟩ := y3.2.2.1.mem hm
    cases e3.symm.trans e'
    exact hnf _ d3
  have S3 : Inv (X.suite a (X.pn ++ pins)) [] τ G { s1 with heap := g3 } := inSuite J3 a
  have ty : PySem.W.Looks (model X.prog X.w) g3 (typeOf (.ref a)) cls := fun _ _ _ _ k q => wpAny_typeOf_ref (k _ _ e3) (by rw [z3.1]; exact q)
  have name : ∀ {Q : Value → Shared → Prop} {E : Value → Shared → Prop}, Q c { s1 with heap := g3 } → wpAny (model X.prog X.w) (X.A.mark (some (.ref a))) (eval (.Name x np) X.env) Q E { s1 with heap := g3 } := fun {Q E} q => by
    obtain ⟨hg, hdb, m | ⟨m, v, nn⟩⟩ := hc
    · exact ld_glob (X := X.suite a (X.pn ++ pins)) S3 hg m q hdb
    · exact ld_blt (X := X.suite a (X.pn ++ pins)) S3 hg m v q nn hdb
  refine wpAny_handleBy_cons (codeAny_handlers_test (name ((PySem.W.exm_one J3.kIn ty hb).here ?_))) (fun q => by cases q)
  cases b with
  | false =>
    refine wpAny_handleBy_nil ?_
    obtain ⟨_, _, _, oe, vv, T, _, _, he, _, hd, h1, _⟩ := id y3
    unfold PySem.passOn
    refine wpAny_bind (wpAny_field he hd h1 ?_)
    rw [if_neg (fun z => by cases z)]
    have rest : wpAny (model X.prog X.w) X.A (setFlight (.ref a) X.env.frame) (fun _ s4 => wpAny (model X.prog X.w) X.A (throw (.ref a) : Sem Flow) (SP X pins D) X.xe s4) X.xe { s1 with heap := g3 } := by
      rw [hf]
      exact HandSPX.setFlight_upZ y3 fun g4 y4 u4 => wpAny_throw (tk _ _ ⟨a, B, sI, pins, τ, G, cls, d, rfl, J, nb', (up.trans u3).trans u4, .inr (.inr (hs.symm ▸ y4)), na, os, ag, no rfl⟩)
    first
      | exact wpAny_bind (wpAny_pure (wpAny_bind rest))
      | exact wpAny_bind rest
  | true =>
    refine codeAny_handlers_suite_as (HandSPX.lands_againZ y3 fun g4 y4 u4 => ?_)
    obtain ⟨o4, v4, e4, z4, d4⟩ := y4.there
    have J4 : Inv X pins τ (upd G a (exk a cls d)) { s1 with heap := g4 } := landK (s' := { s1 with heap := g4 }) J nb' y4.1 ((up.trans u3).trans u4) os ag y4.2.1 out e4 z4 d4 na
    refine store_ok (X := X.suite a (X.pn ++ pins)) (v := .ref a) (inSuite J4 a) hN hi (.inl hl) rfl (fun s5 S5 => ?_) (.inr hl)
    exact wpAny_mono ((hsu a (X.pn ++ pins)).run [] s5 _ _ _ S5 (yes rfl a na)) (fun f s6 q => keep_end ok hN hi hl q) fun _ _ z => False.elim z
theorem ps_try_keep (hs : X.stack = X.env :: X.outer) (hf : X.env.frame = some X.env.locals) (hN : X.N.Nodup) (hi : X.N[i]? = some n) (hl : X.env.kindOf n = some .local) (hc : Names X x c) (tk : Takes X W0)
    (hb : ∀ (W : WX) (pn : List (Addr × Obj)) (xe : Value → Shared → Prop), Takes (X.tr pn xe) W → PSs (X.tr pn xe) body (tb W)) (hsu : ∀ (a : Addr) (pn : List (Addr × Obj)), PSs (X.suite a pn) (b₀ :: suite) ts) :
    PS X (.Try body [.ExceptHandler (some (.Name x np)) (some n) (b₀ :: suite) pos'] [] [] pos) (fun D σ H => tb (wKeep X.K c i ts W0 D) D σ H) := by
  refine ⟨fun pins s σ H D I h => wpAny_Try_except ?_⟩
  refine wpAny_mono ((hb (wKeep X.K c i ts W0 D) (X.pn ++ pins) _ fun u s1 q => keep_catch I.ok hs hf hN hi hl hc tk hsu q).run [] s σ H D (I.toTry _) h) (fun f s1 q => ?_) fun _ _ q => q
  have z := thru_end I.ok q
  cases f with
  | next => exact wpAny_execs_nil z
  | ret u => exact z
  | brk => exact z
  | cont => exact z
end
end Ef
namespace Ef
open PySem PySem.Spec PyProof.Rows C8
open L2 hiding E0 CX0 pass0 Fun
/-! ### own exceptions in the head's hook -/
/-- the class at C over ValueError's -/
def oexB (K : PySem.W.Frag) (C : Addr) : Bool := (match K.lookup C with
  | some ⟨.type "type", _, .cls cd, sl⟩ => (match cd.mro, sl.toList with
    | .ref D :: bm, [_, _, _, _, some (.builtin n), _] => D == C && (n == "ValueError.__new__" && (!cd.hasDel && (cd.hasDict && PySem.HandSPX.refsVE bm)))
    | _, _ => false)
  | _ => false) && (decide (PySem.W.findIn K (.ref C) "__setattr__" = some (some (.builtin "object.__setattr__"))) && (decide (PySem.W.subIn K (.ref C) (.type "BaseException") = some true) && (decide (PySem.W.typeIn K (.ref C) = some (.type "type")) && PySem.W.keepIn K (.ref C))))
theorem oexB_ok {K : PySem.W.Frag} {C : Addr} (h : oexB K C = true) : OexC K C := by
  unfold oexB at h
  obtain ⟨h1, h⟩ := He.ba h
  obtain ⟨h2, h⟩ := He.ba h
  obtain ⟨h3, h⟩ := He.ba h
  obtain ⟨h4, h5⟩ := He.ba h
  refine ⟨?_, of_decide_eq_true h2, of_decide_eq_true h3, of_decide_eq_true h4, h5⟩
  split at h1
  · rename_i dd cd sl ho
    split at h1
    · rename_i D bm k0 k1 k2 k3 n k5 hm hs
      obtain ⟨e1, h1⟩ := He.ba h1
      obtain ⟨e2, h1⟩ := He.ba h1
      obtain ⟨e3, h1⟩ := He.ba h1
      obtain ⟨e4, e5⟩ := He.ba h1
      obtain rfl := eq_of_beq e1
      obtain rfl := eq_of_beq e2
      obtain ⟨nm, bs, mro, ns, qn, hd, sn, sub, ab, col, del⟩ := cd
      dsimp only at hm e3 e4
      subst hm e4
      have e3' : del = false := by simpa using e3
      subst e3'
      have hsl : sl = #[k0, k1, k2, k3, some (.builtin "ValueError.__new__"), k5] := by
        obtain ⟨l⟩ := sl
        simp only at hs
        rw [hs]
      subst hsl
      exact ⟨nm, qn, ns, bs, bm, sn, sub, ab, col, dd, k0, k1, k2, k3, k5, ho, e5⟩
    · cases h1
  · cases h1
/-- the __init__ of the class named x, by its text -/
abbrev SuW : Type := Option (Str × Str × Arguments × FuncBody × Scope × Addr × Addr × Value)
def suW (K : PySem.W.Frag) (x : Str) : SuW := match K.lookup (He.ma K (He.ga K x) "__init__") with
  | some ⟨_, _, .func fd, _⟩ => some (fd.name, fd.qualname, fd.params, fd.body, fd.scope, fd.globals, fd.builtins, fd.kwdefaults)
  | _ => none
/-- its cell, its code; file: where the text stands -/
def suB (K : PySem.W.Frag) (C f : Addr) (q file : Str) : Bool := match K.lookup f with
  | some ⟨_, _, .func fd, _⟩ => (match fd.closure, fd.code with
    | [(n, cc)], .ref cda => decide (n = "__class__") && ((match K.lookup cc with
      | some (⟨_, _, .cell (some (.ref D)), _⟩ : Obj) => D == C
      | _ => false) && (PySem.W.codeIn K (.ref cda) q && (match K.lookup cda with
        | some ⟨_, _, .fields vs, _⟩ => (match (vs[2]? : Option Value) with
          | some (.str fl _) => decide (fl = file)
          | _ => false)
        | _ => false)))
    | _, _ => false)
  | _ => false
def supB (K : PySem.W.Frag) (x q file : Str) : Bool := let C := He.ga K x; let f := He.ma K C "__init__"
  suB K C f q file && (oexB K C && (decide (PySem.W.ks_superIn K C C "__init__" = some (some (.builtin "ValueError.__init__"))) && (decide (PySem.W.subIn K (.ref C) (.type "ValueError") = some true) && (decide (PySem.W.mroIn K C (.ref C) = some true) &&
    (decide (PySem.W.nsIn K cStatics "thirdparty.any" = some none) && (decide (PySem.W.findIn K (.ref C) "value" = some none) && (decide (PySem.W.nsIn K mainGlobals "super" = some none) && (decide (PySem.W.findIn K (.ref C) "__init__" = some (some (.ref f))) &&
    (decide (PySem.W.typeIn K (.ref f) = some (.type "function")) && (decide (PySem.W.nsIn K mainGlobals x = some (some (.ref C))) && (decide (PySem.W.exmOne K (.ref C) (.ref C) = some true) && xfB K C)))))))))))
/-- what is told of the exception x -/
structure SupIs (P : Program) (K : PySem.W.Frag) (mg : Str → Option Value) (x : Str) (C : Addr) : Prop where
  at_ : SupAt P K mg x C
  no : PySem.W.findIn K (.ref C) "value" = some none
  xf : XfC K C
  me : PySem.W.exmOne K (.ref C) (.ref C) = some true
theorem supB_ok {P : Program} {K : PySem.W.Frag} {h : Heap} {mg : Str → Option Value} {x q file : Str} {params : Arguments} {scope : Scope} {p0 p1 p2 p3 p4 p5 p6 p7 p8 : Pos} {ar : Arg} {kV : Value} (X : K.In h) (G : h.Ns mainGlobals mg)
    (e : suW K x = some (("__init__" : Str), q, params, FuncBody.stmts (supBody p0 p1 p2 p3 p4 p5 p6 p7 p8), scope, mainGlobals, builtinsNs, kV)) (c : supB K x q file = true) (hf : (P.main.file == file) = true) (ht : (P.main.scope.names.lookup ("super" : Str)).isSome = false)
    (hp : (params.posonlyargs ++ params.args).head? = some ar) (har : ar.arg = "self") (hn : scope.names = ([("self", NameKind.local), ("value", NameKind.local), ("__class__", NameKind.free), ("super", NameKind.globalImplicit)] : List (Str × NameKind)))
    (hk : scope.kind = .function) (hco : scope.isCoroutine = false) (hge : scope.isGenerator = false) (hcall : CallIs p0 p1 p2 p3)
    (hb : ∀ (body : List Stmt) (dV doc pm : Value) (an : Option Addr) (cdv ct : Value) (cc : Addr) (us : List Value), us.length = 2 → bindArgs (PySem.W.ksFn "__init__" q params body scope dV kV doc pm an cdv ct cc) ⟨us, []⟩ = pure ((["self", "value"] : List Str).zip us)) :
    SupIs P K mg x (He.ga K x) := by
  unfold supB at c
  obtain ⟨c1, c⟩ := He.ba c
  obtain ⟨c2, c⟩ := He.ba c
  obtain ⟨c3, c⟩ := He.ba c
  obtain ⟨c4, c⟩ := He.ba c
  obtain ⟨c5, c⟩ := He.ba c
  obtain ⟨c6, c⟩ := He.ba c
  obtain ⟨c7, c⟩ := He.ba c
  obtain ⟨c8, c⟩ := He.ba c
  obtain ⟨c9, c⟩ := He.ba c
  obtain ⟨c10, c⟩ := He.ba c
  obtain ⟨c11, c⟩ := He.ba c
  obtain ⟨c12, c13⟩ := He.ba c
  unfold suW at e
  unfold suB at c1
  split at e
  · rename_i oc od fd osl ho
    rw [ho] at c1
    dsimp only at c1
    obtain ⟨n1, n2, n3, n4, n5, n6, n7, n8, n9, n10, n11, n12, n13, n14, n15⟩ := fd
    simp only [Option.some.injEq, Prod.mk.injEq] at e
    obtain ⟨h1, h2, h3, h4, h5, h6, h7, h8⟩ := e
    subst h1 h2 h3 h4 h5 h6 h7 h8
    dsimp only at c1
    split at c1
    · rename_i n cc cda
      obtain ⟨d1, c1⟩ := He.ba c1
      obtain ⟨d2, c1⟩ := He.ba c1
      obtain ⟨d3, d4⟩ := He.ba c1
      obtain rfl := of_decide_eq_true d1
      split at d2
      · rename_i cl cld D csl hcell
        obtain rfl := eq_of_beq d2
        split at d4
        · rename_i ccl cdd vs ccs hcode
          split at d4
          · rename_i fl tf hfl
            obtain rfl := of_decide_eq_true d4
            refine ⟨⟨⟨_, _, ⟨⟨_, _, _, _, _, _, _, _, _, _, _, _, _, _, _, _, _, _, _, _, _, _, _, _, _, _, _, _, _, _, _, _, _, rfl, ho, d3, hcode, hfl, hf, ht, hcell, hp, har, hn, hk, hco, hge, hcall⟩, oexB_ok c2, of_decide_eq_true c3, of_decide_eq_true c4, of_decide_eq_true c5, of_decide_eq_true c6,
              of_decide_eq_true c7, of_decide_eq_true c8⟩, of_decide_eq_true c9, of_decide_eq_true c10, Binds.all (fun us hl => hb _ _ _ _ _ _ _ _ us hl)⟩, PySem.W.mg_of X G (of_decide_eq_true c11)⟩, of_decide_eq_true c7, xfB_ok c13, of_decide_eq_true c12⟩
          · cases d4
        · cases d4
      · cases d2
    · cases c1
  · cases e
/-- the hook with them -/
abbrev AlX : Type := AlE × List SuW
def obsX (n : Nat) (fa : List He.Fa) (fn : List He.DefD) (ex : PySem.W.Frag → Bool) (xs : List (Str × SuW)) (g : Addr → Option Obj) : AlX := let K := He.frG g (He.asD g n); ((He.obsD fa fn K, ex K), xs.map fun q => suW K q.1)
def hookX (n : Nat) (fa : List He.Fa) (fn : List He.DefD) (ex : PySem.W.Frag → Bool) (xs : List (Str × SuW)) : PySem.W.Hook where
  α := AlX
  obs := fun s => obsX n fa fn ex xs s.heap.get?
  val := fun _ => ((He.valD fn, true), xs.map fun (q : Str × SuW) => q.2)
  says := fun _ h => ∃ K : PySem.W.Frag, K.In h ∧ He.SaysD fa fn K ∧ ex K = true ∧ (xs.map fun q => suW K q.1) = xs.map fun (q : Str × SuW) => q.2
  of := fun _ s e => ⟨He.frG s.heap.get? (He.asD s.heap.get? n), He.frG_in, congrArg (fun z : AlX => z.1.1) e, congrArg (fun z : AlX => z.1.2) e, (congrArg (fun z : AlX => z.2) e : _)⟩
  keeps := fun _ _ _ ⟨K, hK, c⟩ k => ⟨K, PySem.W.Frag.In.keeps hK k, c⟩
theorem obsX_eq {n : Nat} {fa : List He.Fa} {fn : List He.DefD} {ex : PySem.W.Frag → Bool} {xs : List (Str × SuW)} {g : Addr → Option Obj} {s : Shared} (h : ∀ a, g a = s.heap.get? a) : obsX n fa fn ex xs g = (hookX n fa fn ex xs).obs s := by
  have e : g = s.heap.get? := funext h
  rw [e] <;> rfl
end Ef
namespace Ef
open PySem PySem.Spec PyProof.Rows C8 PySem.W
open L2 hiding E0 CX0 pass0 Fun
/-! ### a pair turned: t[::-1] -/
section
variable {prog : Program} {w : World} {A : Around} {E : Value → Shared → Prop} {s : Shared}
theorem getItem_pair_rev {t sl : Addr} {x y : Value} {u : Tok} {Q : Value → Shared → Prop} (ht : IsTup s.heap t #[x, y]) (hs : s.heap.IsSliceOf sl .none .none (.int (-1) u))
    (h : Q (.ref s.heap.objs.size) { s with heap := s.heap.push { cls := .type "tuple", data := .seq #[y, x] } }) : wpAny (model prog w) A (getItem (.ref t) (.ref sl)) Q E s := by
  obtain ⟨os, hos, hcs, hds⟩ := id hs
  have hTs : s.TypeIs (.ref sl) "slice" := ⟨os, hos, hcs⟩
  have hz : sizeOk (.seq (#[y, x] : Array Value)) := by
    show 2 ≤ sizeLine
    decide
  unfold getItem
  try with_reducible refine wpAny_holding ?_
  first | refine wpAny_bind (wpAny_pure ?_) | skip
  refine wpAny_bind (wpAny_sequenceKey ht.typeIs (by decide) ?_)
  refine wpAny_bind (wpAny_callSpecial?_slot (name := Str.ofString "__getitem__") ht.typeIs PyProof.Rows.slot_tuple_getitem
    (wpAny_call_entry PyProof.Rows.slot_tuple_getitem ht.typeIs entry_tuple_getitem ?_ (args_tuple_getitem _ _)))
  show wpAny _ _ (Builtin.Tuple.tupleItemsOf (.ref t) >>= _) _ _ s
  refine wpAny_bind (tupleItemsOf_ ht ?_)
  refine wpAny_bind (wpAny_typeOf hTs ?_)
  rw [if_pos (by decide)]
  refine wpAny_bind ?_
  unfold Builtin.Slice.sliceApplied Builtin.Slice.sliceFields
  refine wpAny_bind (wpAny_bind (wpAny_field hos hds (x := .none) rfl (wpAny_bind (wpAny_field hos hds (x := .none) rfl (wpAny_bind (wpAny_field hos hds (x := .int (-1) u) rfl (wpAny_pure ?_)))))))
  refine wpAny_bind (slicePart_int ?_)
  show wpAny _ _ (if ((-1 : Int) == 0) = true then _ else _) _ _ s
  rw [if_neg (by decide)]
  refine wpAny_bind (slicePart_none (wpAny_bind (slicePart_none (wpAny_bind (wpAny_pure ?_)))))
  refine wpAny_pure ?_
  have e1 : ((#[x, y] : Array Value).size : Int) = 2 := rfl
  simp only [e1, Option.getD_some]
  show wpAny _ _ (if ((1 : Int) == 0 && (-1 : Int) == 1 && (2 : Nat) == 2) = true then _ else _) _ _ s
  rw [if_neg (by decide)]
  first
    | exact wpAny_bind (m := Builtin.Tuple.tupleExact #[y, x]) (wpAny_newObj_type (wpAny_pure ⟨_, rfl, wpAny_pure h⟩) hz)
    | exact wpAny_bind (m := Builtin.Tuple.tupleExact #[y, x]) (wpAny_newObj_type (wpAny_bind (wpAny_pure (wpAny_pure ⟨_, rfl, wpAny_pure h⟩))) hz)
    | exact wpAny_bind (wpAny_bind (m := Builtin.Tuple.tupleExact #[y, x]) (wpAny_newObj_type (wpAny_pure (wpAny_pure ⟨_, rfl, wpAny_pure h⟩)) hz))
    | exact wpAny_bind (wpAny_bind (m := Builtin.Tuple.tupleExact #[y, x]) (wpAny_newObj_type (wpAny_pure ⟨_, rfl, wpAny_pure h⟩) hz))
end
end Ef
namespace Ef
open PySem PySem.Spec PyProof.Rows C8 PySem.W
open L2 hiding E0 CX0 pass0 Fun
/-! ### xs[::-1] of lists and of pairs; wrappers for tuples -/
section
variable {X : Cx} {K : PySem.W.Frag}
theorem catTQ (h : X.K = K) : OpR X (binaryOp .Add) (rCatT K) := h ▸ op_catT
theorem slTQ (h : X.K = K) : SlR X (rSlT K) := h ▸ sl_tup
def tRev (K : PySem.W.Frag) (te : TE) : TE := fun σ H Q => te σ H fun x H1 => ∃ a, x = .ref a ∧
  ((∃ xs, SqL K H1 a xs ∧ ∀ p, H1 p = none → Q (.ref p) (upd H1 p (.lst xs.reverse))) ∨ (∃ u v, SqT K H1 a [u, v] ∧ ∀ p, H1 p = none → Q (.ref p) (upd H1 p (.tup [v, u]))))
theorem pe_revQ (h : X.K = K) {e st : Expr} {te : TE} {p3 pos : Pos} (he : PE X e te) (hs : PE X st (tUn (rU fun i => V.int (-i)) (tC (.int 1)))) : PE X (.Subscript e (.Slice none none (some st) p3) pos) (tRev K te) := by
  subst h
  refine ⟨fun pins s σ H Q I h => ?_⟩
  have hq : PO X (some st) (tPart (tUn (rU fun i => V.int (-i)) (tC (.int 1)))) := po_some hs
  refine Subscript_ (thn (he.run pins s σ H _ I h) fun v s1 ⟨x, H1, I1, r1, q1⟩ => ?_)
  refine wpAny_Slice (thn (po_none.run pins s1 σ H1 (fun o H2 => o = none ∧ H2 = H1) I1 ⟨rfl, rfl⟩) fun vl s2 ⟨l, H2, I2, pl, el, e2⟩ => ?_)
  subst el e2
  refine thn (po_none.run pins s2 σ H2 (fun o H3 => o = none ∧ H3 = H2) I2 ⟨rfl, rfl⟩) fun vu s3 ⟨u, H3, I3, pu, eu, e3⟩ => ?_
  subst eu e3
  have hw : tPart (tUn (rU fun i => V.int (-i)) (tC (.int 1))) σ H3 fun o H4 => o = some (-1) ∧ H4 = H3 := ⟨1, rfl, -1, rfl, rfl, rfl⟩
  refine thn (hq.run pins s3 σ H3 _ I3 hw) fun vs s4 z => ?_
  obtain ⟨o, H4, I4, ps, eo, e4⟩ := z
  subst eo e4
  obtain ⟨a, ex, q⟩ := q1
  subst ex
  cases r1
  have I5 : Inv X pins σ H4 { s4 with heap := s4.heap.push { cls := .type "slice", data := .fields #[vl, vu, vs] } } := I4.kept (t' := s4.toks) fun b ob q => Heap.get?_push_of_some _ q
  rcases q with ⟨xs, hx, q⟩ | ⟨y, z, hx, q⟩
  · obtain ⟨its, r, ht, hz⟩ := I5.list hx
    have hlen := r.length
    show wpAny (model X.prog X.w) X.A (subscriptTail e (.Slice none none (some st) p3) (.ref a) (.ref s4.heap.objs.size)) (EP X pins σ Q) X.xe { s4 with heap := s4.heap.push { cls := .type "slice", data := .fields #[vl, vu, vs] } }
    refine tail_any (ops := [.ref a, .ref s4.heap.objs.size]) ht.isList.typeIs (PySem.slot_list_getitem.lookup) ?_ (by with_unfolding_all rfl)
    refine wpAny_getItem_list_slice ht.isList (Heap.IsSliceOf.new _ vl vu vs) pl pu ps (by decide) ?_ (by rw [List.size_toArray]; omega)
    rw [PySem.W.krv_pick]
    refine ⟨.ref _, _, I5.laid (t' := s4.toks) (o := .lst xs.reverse) (fun b ob q => Heap.get?_push_of_some _ q) (Nat.le_refl _) ?_, rfl, q _ (I5.hok.fresh (Nat.le_refl _))⟩
    exact ⟨by rw [List.length_reverse]; exact hz, _, 0, r.reverse, Heap.get?_push_size _ rfl⟩
  · obtain ⟨its, r, ht, hz⟩ := I5.tuple hx
    obtain ⟨i0, i1, rfl⟩ : ∃ i0 i1, its = [i0, i1] := by
      have hlen := r.length
      match its, hlen with
      | [a, b], _ => exact ⟨a, b, rfl⟩
    show wpAny (model X.prog X.w) X.A (subscriptTail e (.Slice none none (some st) p3) (.ref a) (.ref s4.heap.objs.size)) (EP X pins σ Q) X.xe { s4 with heap := s4.heap.push { cls := .type "slice", data := .fields #[vl, vu, vs] } }
    refine tail_any (ops := [.ref a, .ref s4.heap.objs.size]) ht.typeIs (PyProof.Rows.slot_tuple_getitem.lookup) ?_ (by with_unfolding_all rfl)
    cases pl
    cases pu
    cases ps with
    | int _ tk =>
    refine getItem_pair_rev ht (Heap.IsSliceOf.new _ .none .none (.int (-1) tk)) ?_
    cases r with
    | cons r0 rb =>
    cases rb with
    | cons r1 rc =>
    refine ⟨.ref _, _, I5.laid (t' := s4.toks) (o := .tup [z, y]) (fun b ob q => Heap.get?_push_of_some _ q) (Nat.le_refl _) ?_, rfl, q _ (I5.hok.fresh (Nat.le_refl _))⟩
    exact ⟨(by decide : (2 : Nat) ≤ sizeLine), _, .cons r1 (.cons r0 .nil), IsTup.new _ _⟩
end
end Ef
namespace Ef
open PySem PySem.Spec PyProof.Rows C8 PySem.W
open L2 hiding E0 CX0 pass0 Fun
/-! ### expressions that give a value of some kind and leave all that is known -/
section
variable {K : PySem.W.Frag} {S : List Addr} {σ : L2.St} {H0 : Hp} {te tf : TE} {ts : TA} {R R' : Hp → V → Prop} {n m : Nat}
def Gv (S : List Addr) (σ : L2.St) (H0 : Hp) (t : TE) (R : Hp → V → Prop) : Prop := ∀ H Q, SB S H0 H → Dom S H → (∀ v H', SB [] H H' → R H' v → Q v H') → t σ H Q
def GvL (S : List Addr) (σ : L2.St) (H0 : Hp) (t : TA) (R : Hp → V → Prop) (n : Nat) : Prop :=
  ∀ H (Q : List V → Hp → Prop), SB S H0 H → Dom S H → (∀ vs H', SB [] H H' → vs.length = n → (∀ v ∈ vs, R H' v) → Q vs H') → t σ H Q
def Sta (S : List Addr) (R : Hp → V → Prop) : Prop := ∀ H H' v, SB S H H' → R H v → R H' v
theorem Dom.sb0 {H H' : Hp} (d : Dom S H) (s : SB [] H H') : Dom S H' := d.same (SB.nil s)
theorem SB.nw {H H' : Hp} (s : SB S H H') {H2 : Hp} (t : SB [] H' H2) : SB S H H2 := s.trans (t.wide (by simp))
theorem Sta.nil {H H' : Hp} {v : V} (st : Sta S R) (s : SB [] H H') (h : R H v) : R H' v := st _ _ _ (s.wide (by simp)) h
theorem Gv.use {H : Hp} {Q : VK} (g : Gv S σ H0 te R) (s : SB S H0 H) (d : Dom S H) (k : ∀ v H', SB [] H H' → R H' v → Q v H') : te σ H Q := g H Q s d k
theorem Gv.wk (g : Gv S σ H0 te R) (h : ∀ H v, R H v → R' H v) : Gv S σ H0 te R' := fun H Q s d k => g H Q s d fun v H' s' r => k v H' s' (h _ _ r)
theorem Gv.later {H1 : Hp} (g : Gv S σ H0 te R) (s : SB S H0 H1) : Gv S σ H1 te R := fun H Q s2 d k => g H Q (s.trans s2) d k
theorem gv_var {i : Nat} {v : V} (e : σ[i]? = some (some v)) (st : Sta S R) (r : R H0 v) : Gv S σ H0 (tVar i) R := fun H Q s d k => ⟨v, e, k v H SB.same (st _ _ _ s r)⟩
theorem gv_c {v : V} (r : ∀ H, R H v) : Gv S σ H0 (tC v) R := fun H Q s d k => k v H SB.same (r H)
theorem gvl_nil : GvL S σ H0 tNil R 0 := fun H Q s d k => k [] H SB.same rfl (by simp)
theorem gvl_cons (st : Sta S R) (g : Gv S σ H0 te R) (gs : GvL S σ H0 ts R n) : GvL S σ H0 (tCons te ts) R (n + 1) := fun H Q s d k =>
  g H _ s d fun v H1 s1 r => gs H1 _ (s.nw s1) (d.sb0 s1) fun vs H2 s2 l rs => k (v :: vs) H2 (s1.trans s2) (by rw [List.length_cons, l]) fun x hx => by
    rcases List.mem_cons.mp hx with rfl | hx
    · exact st.nil s2 r
    · exact rs x hx
/-- a list outside S, of at most n values of a kind -/
def LstE (S : List Addr) (R : Hp → V → Prop) (n : Nat) (H : Hp) (v : V) : Prop := ∃ a xs, v = .ref a ∧ a ∉ S ∧ H a = some (.lst xs) ∧ xs.length ≤ n ∧ ∀ x ∈ xs, R H x
def TupE (S : List Addr) (R : Hp → V → Prop) (n : Nat) (H : Hp) (v : V) : Prop := ∃ a xs, v = .ref a ∧ a ∉ S ∧ H a = some (.tup xs) ∧ xs.length = n ∧ ∀ x ∈ xs, R H x
theorem sta_lst (st : Sta S R) : Sta S (LstE S R n) := fun H H' v s ⟨a, xs, e, na, ha, l, r⟩ => ⟨a, xs, e, na, s _ _ na ha, l, fun x hx => st _ _ _ s (r x hx)⟩
theorem sta_tup (st : Sta S R) : Sta S (TupE S R n) := fun H H' v s ⟨a, xs, e, na, ha, l, r⟩ => ⟨a, xs, e, na, s _ _ na ha, l, fun x hx => st _ _ _ s (r x hx)⟩
theorem LstE.le {H : Hp} {v : V} (h : LstE S R n H v) (hn : n ≤ m) : LstE S R m H v := let ⟨a, xs, e, na, ha, l, r⟩ := h; ⟨a, xs, e, na, ha, Nat.le_trans l hn, r⟩
theorem new_lst {H : Hp} {p : Addr} {xs : List V} (d : Dom S H) (hp : H p = none) (st : Sta S R) (l : xs.length ≤ n) (r : ∀ x ∈ xs, R H x) : LstE S R n (upd H p (.lst xs)) (.ref p) :=
  ⟨p, xs, rfl, d.out hp, upd_same, l, fun x hx => st.nil (SB.same.new hp) (r x hx)⟩
theorem gv_lst (st : Sta S R) (gs : GvL S σ H0 ts R n) (hn : n ≤ sizeLine) : Gv S σ H0 (tLst ts) (LstE S R n) := fun H Q s d k =>
  gs H _ s d fun vs H1 s1 l rs => ⟨by rw [l]; exact hn, fun p hp => k _ _ (s1.new hp) (new_lst (d.sb0 s1) hp st (by omega) rs)⟩
theorem gv_tup (st : Sta S R) (gs : GvL S σ H0 ts R n) (hn : n ≤ sizeLine) : Gv S σ H0 (tTup ts) (TupE S R n) := fun H Q s d k =>
  gs H _ s d fun vs H1 s1 l rs => ⟨by rw [l]; exact hn, fun p hp => k _ _ (s1.new hp) ⟨p, vs, rfl, (d.sb0 s1).out hp, upd_same, l, fun x hx => st.nil (SB.same.new hp) (rs x hx)⟩⟩
theorem gv_cat (st : Sta S R) (g : Gv S σ H0 te (LstE S R n)) (g2 : Gv S σ H0 tf (LstE S R m)) (hn : n + m ≤ sizeLine) : Gv S σ H0 (tOp rCat te tf) (LstE S R (n + m)) := fun H Q s d k =>
  g H _ s d fun v H1 s1 r => g2 H1 _ (s.nw s1) (d.sb0 s1) fun u H2 s2 r2 => by
    obtain ⟨a, xs, rfl, na, ha, l, rx⟩ := (sta_lst st).nil s2 r
    obtain ⟨b, ys, rfl, nb, hb, l2, ry⟩ := r2
    exact ⟨a, b, xs, ys, rfl, rfl, ha, hb, by omega, fun p hp => k _ _ ((s1.trans s2).new hp) (new_lst ((d.sb0 s1).sb0 s2) hp st (by rw [List.length_append]; omega) fun x hx => (List.mem_append.mp hx).elim (rx x) (ry x))⟩
theorem gv_rev (st : Sta S R) (g : Gv S σ H0 te (LstE S R n)) : Gv S σ H0 (tRev K te) (LstE S R n) := fun H Q s d k =>
  g H _ s d fun v H1 s1 r => by
    obtain ⟨a, xs, rfl, na, ha, l, rx⟩ := r
    exact ⟨a, rfl, .inl ⟨xs, SqL.of ha, fun p hp => k _ _ (s1.new hp) (new_lst (d.sb0 s1) hp st (by rw [List.length_reverse]; exact l) fun x hx => rx x (List.mem_reverse.mp hx))⟩⟩
theorem cutV_mem {xs : List V} {lo hi : Option Int} {x : V} (h : x ∈ cutV xs lo hi) : x ∈ xs := List.mem_of_mem_drop (List.mem_of_mem_take h)
/-- an end of a slice -/
def GvP (σ : L2.St) (t : TO) : Prop := ∀ H (Q : Option Int → Hp → Prop), (∀ o, Q o H) → t σ H Q
theorem gvp_no : GvP σ tNoPart := fun H Q k => k none
theorem gvp_c {i : Int} : GvP σ (tPart (tC (.int i))) := fun H Q k => ⟨i, rfl, k _⟩
theorem gvp_neg {i : Int} : GvP σ (tPart (tUn (rU fun i => V.int (-i)) (tC (.int i)))) := fun H Q k => ⟨i, rfl, -i, rfl, k _⟩
theorem gvp_var {j : Nat} {i : Int} (e : σ[j]? = some (some (.int i))) : GvP σ (tPart (tVar j)) := fun H Q k => ⟨_, e, i, rfl, k _⟩
theorem gvp_add {j : Nat} {i c : Int} (e : σ[j]? = some (some (.int i))) : GvP σ (tPart (tOp (rI0 fun i j => V.int (i + j)) (tVar j) (tC (.int c)))) := fun H Q k => ⟨_, e, i, c, rfl, rfl, _, rfl, k _⟩
theorem gv_sl {tl th : TO} (st : Sta S R) (g : Gv S σ H0 te (LstE S R n)) (hl : GvP σ tl) (hh : GvP σ th) : Gv S σ H0 (tSl (rSlL K) te tl th) (LstE S R n) := fun H Q s d k =>
  g H _ s d fun v H1 s1 r => hl H1 _ fun lo => hh H1 _ fun hi => by
    obtain ⟨a, xs, rfl, na, ha, l, rx⟩ := r
    exact ⟨a, xs, rfl, SqL.of ha, fun p hp => k _ _ (s1.new hp) (new_lst (d.sb0 s1) hp st (Nat.le_trans (cutV_length xs lo hi) l) fun x hx => rx x (cutV_mem hx))⟩
theorem gv_rep (st : Sta S R) {c : Nat} (g : Gv S σ H0 te (LstE S R n)) (hc : c ≤ 1000) (hn : n * c ≤ sizeLine) : Gv S σ H0 (tOp rRep te (tC (.int (c : Int)))) (LstE S R (n * c)) := fun H Q s d k =>
  g H _ s d fun v H1 s1 r => by
    obtain ⟨a, xs, rfl, na, ha, l, rx⟩ := r
    have le : xs.length * c ≤ n * c := Nat.mul_le_mul_right c l
    refine ⟨a, (c : Int), xs, rfl, rfl, ha, by omega, by omega, by rw [Int.toNat_natCast]; omega, fun p hp => k _ _ (s1.new hp) (new_lst (d.sb0 s1) hp st ?_ fun x hx => ?_)⟩
    · rw [Int.toNat_natCast, List.length_flatten, List.map_replicate, List.sum_replicate_nat, Nat.mul_comm]
      exact le
    · obtain ⟨l1, h1, h2⟩ := List.mem_flatten.mp hx
      rw [List.eq_of_mem_replicate h1] at h2
      exact rx x h2
/-- kinds of values by what they must not use -/
structure Fam (R : List Addr → Hp → V → Prop) : Prop where
  sta : ∀ S, Sta S (R S)
  less : ∀ (S T : List Addr) (H : Hp) (v : V), (∀ b ∈ T, b ∈ S) → R S H v → R T H v
  more : ∀ (S : List Addr) (H : Hp) (v : V) (p : Addr), R S H v → H p = none → R (p :: S) H v
theorem Fam.new {F : List Addr → Hp → V → Prop} (f : Fam F) {H : Hp} {v : V} {p : Addr} {o : HO} (r : F S H v) (hp : H p = none) : F (p :: S) (upd H p o) v := f.sta _ _ _ _ (SB.same.put (by simp)) (f.more _ _ _ _ r hp)
theorem fam_lst {F : List Addr → Hp → V → Prop} (f : Fam F) : Fam (fun S => LstE S (F S) n) := ⟨fun S => sta_lst (f.sta S), fun S T H v h ⟨a, xs, e, na, ha, l, r⟩ => ⟨a, xs, e, fun z => na (h _ z), ha, l, fun x hx => f.less _ _ _ _ h (r x hx)⟩,
  fun S H v p ⟨a, xs, e, na, ha, l, r⟩ hp => ⟨a, xs, e, fun z => (List.mem_cons.mp z).elim (ne_of_none ha hp) na, ha, l, fun x hx => f.more _ _ _ _ (r x hx) hp⟩⟩
theorem fam_tup {F : List Addr → Hp → V → Prop} (f : Fam F) : Fam (fun S => TupE S (F S) n) := ⟨fun S => sta_tup (f.sta S), fun S T H v h ⟨a, xs, e, na, ha, l, r⟩ => ⟨a, xs, e, fun z => na (h _ z), ha, l, fun x hx => f.less _ _ _ _ h (r x hx)⟩,
  fun S H v p ⟨a, xs, e, na, ha, l, r⟩ hp => ⟨a, xs, e, fun z => (List.mem_cons.mp z).elim (ne_of_none ha hp) na, ha, l, fun x hx => f.more _ _ _ _ (r x hx) hp⟩⟩
theorem fam_rp {d : PyData} : Fam (fun S H v => Rp K S H d v) := ⟨fun S H H' v s r => r.sb s, fun S T H v h r => r.less h, fun S H v p r hp => r.more hp⟩
/-- [e for x in xs], where e gives values of a kind -/
theorem lc_gv {F : List Addr → Hp → V → Prop} (f : Fam F) {a D : Addr} {i : Nat} {xs : List V} {H1 : Hp} {Qd : Hp → Prop} (e : RL K [] H1 a xs) (d : Dom S H1) (hD : H1 D = none) (hn : xs.length ≤ 1000)
    (body : ∀ x ∈ xs, Gv (D :: S) ((wipe σ [i]).set i (some x)) (upd H1 D (.lst [])) te (F (D :: S))) (hd : ∀ H, SB [] H1 H → LstE S (F S) xs.length H (.ref D) → Qd H) :
    ∃ W : Nat → Nat → Hp → Prop, (∃ m, W 0 m (upd H1 D (.lst []))) ∧ ∀ j m H, W j m H →
      ((Itl K a).stop j H ∧ Qd H) ∨ ((Itl K a).go j H ∧ ∃ Nx : Hp → Prop, (∀ H', Nx H' → ∃ m', m' < m ∧ W (j + 1) m' H') ∧ ∀ x H', (Itl K a).yld j H x H' → gName i x (wipe σ [i]) H' fun σ2 H2 => wipe σ2 [i] = wipe σ [i] ∧ tYes σ2 H2 fun b H3 =>
        if b = true then te σ2 H3 fun y H4 => ∃ acc, H4 D = some (.lst acc) ∧ acc.length < sizeLine ∧ Nx (upd H4 D (.lst (acc ++ [y]))) else Nx H3) := by
  refine lcR (S := []) e hD (fun _ acc G => SB (D :: S) (upd H1 D (.lst [])) G ∧ ∀ x ∈ acc, F (D :: S) G x) ⟨SB.same, by simp⟩ (fun j x acc H hx sb e2 hl hA => ?_) (fun H acc sb e2 hl hA => ?_)
  · obtain ⟨sA, rA⟩ := hA
    have dm : Dom (D :: S) H := Dom.cons (d.sb0 sb) e2
    refine ⟨wipe1, ?_⟩
    refine (body x (List.mem_of_getElem? hx)).use sA dm fun v H' s r => ?_
    refine Pc.put (n := 1000) hD (by have := (List.getElem?_eq_some_iff.mp hx).1; omega) (by decide) hl (sb.trans s) (s _ _ (by simp) e2) ⟨(sA.nw s).trans (SB.same.put (by simp)), fun y hy => ?_⟩
    refine f.sta _ _ _ _ (SB.same.put (by simp)) ?_
    rcases List.mem_append.mp hy with hy | hy
    · exact (f.sta _).nil s (rA y hy)
    · rw [List.mem_singleton.mp hy]
      exact r
  · obtain ⟨sA, rA⟩ := hA
    exact hd H sb ⟨D, acc, rfl, d.out hD, e2, hl, fun y hy => f.less _ _ _ _ (fun b hb => List.mem_cons_of_mem _ hb) (rA y hy)⟩
theorem gv_lc {F : List Addr → Hp → V → Prop} {R0 : Hp → V → Prop} (f : Fam F) {i : Nat} (g : Gv S σ H0 te (LstE S R0 n)) (hn : n ≤ 1000)
    (body : ∀ H D x, SB S H0 H → Dom S H → H D = none → R0 H x → Gv (D :: S) ((wipe σ [i]).set i (some x)) (upd H D (.lst [])) tf (F (D :: S))) : Gv S σ H0 (tLc (iList K te) (gName i) tYes tf [i]) (LstE S (F S) n) := fun H Q s d k =>
  g H _ s d fun v H1 s1 r => by
    obtain ⟨a, xs, rfl, na, ha, l, rx⟩ := r
    exact ⟨a, rfl, ⟨_, SqL.of ha⟩, fun D hD => lc_gv f (RL.at ha (by simp)) (d.sb0 s1) hD (by omega) (fun x hx => body H1 D x (s.nw s1) (d.sb0 s1) hD (rx x hx)) fun H2 s2 r2 => k _ _ (s1.trans s2) (r2.le l)⟩
theorem gv_ix {a : Addr} {xs : List V} {i j k : Nat} {y : V} (e1 : σ[j]? = some (some (.ref a))) (e2 : σ[k]? = some (some (.int (i : Int)))) (h : RL K S H0 a xs) (hy : xs[i]? = some y) (st : Sta S R) (r : R H0 y) : Gv S σ H0 (tOp (rIxL K) (tVar j) (tVar k)) R :=
  fun H Q s d q => ⟨_, e1, _, e2, a, xs, i, y, rfl, rfl, (h.sb s).sq, atI_nat hy, q y H SB.same (st _ _ _ s r)⟩
theorem gv_dnew : Gv S σ H0 tDNewK (fun H v => Rp K S H (.dict []) v) := fun H Q s d k p hp => k _ _ (SB.same.new hp) ⟨rfl, p, rfl, d.out hp, upd_same⟩
theorem gv_tupOf (st : Sta S R) (g : Gv S σ H0 te (LstE S R n)) : Gv S σ H0 (tCB (rTupleQ K) (tCons te tNil)) (fun H v => ∃ m, m ≤ n ∧ TupE S R m H v) := fun H Q s d k =>
  g H _ s d fun v H1 s1 r => by
    obtain ⟨a, xs, rfl, na, ha, l, rx⟩ := r
    exact ⟨a, xs, rfl, .inl ⟨SqL.of ha, fun p hp => k _ _ (s1.new hp) ⟨_, l, p, xs, rfl, (d.sb0 s1).out hp, upd_same, rfl, fun x hx => st.nil (SB.same.new hp) (rx x hx)⟩⟩⟩
/-- a tuple outside S, of texts -/
def TupS (S : List Addr) (ws : List Str) (H : Hp) (v : V) : Prop := ∃ t, v = .ref t ∧ t ∉ S ∧ H t = some (.tup (ws.map V.str))
theorem sta_tups {ws : List Str} : Sta S (TupS S ws) := fun H H' v s ⟨t, e, n, h⟩ => ⟨t, e, n, s _ _ n h⟩
theorem TupS.rp {ws : List Str} {H : Hp} {v : V} (h : TupS S ws H v) : Rp K S H (.tuple (ws.map PyData.str)) v := let ⟨t, e, n, h⟩ := h; ⟨t, _, e, RT.at h n, rpl_strs.mpr rfl⟩
theorem TupS.p2 {q : Str × Str} {H : Hp} {v : V} (h : TupS S [q.1, q.2] H v) : P2 K S H q v := let ⟨t, e, n, h⟩ := h; ⟨t, e, n, h⟩
theorem TupS.of {q : Str × Str} {H : Hp} {v : V} (h : P2 K S H q v) : TupS S [q.1, q.2] H v := let ⟨t, e, n, h⟩ := h; ⟨t, e, n, h⟩
theorem gv_listOf {ws : List Str} (g : Gv S σ H0 te (TupS S ws)) : Gv S σ H0 (tCB (rListQ K) (tCons te tNil)) (fun H v => Rp K S H (.list (ws.map PyData.str)) v) := fun H Q s d k =>
  g H _ s d fun v H1 s1 r => by
    obtain ⟨a, rfl, na, ha⟩ := r
    exact ⟨a, _, rfl, .inr (SqT.of ha), fun p hp => k _ _ (s1.new hp) ⟨p, _, rfl, RL.at upd_same ((d.sb0 s1).out hp), rpl_strs.mpr rfl⟩⟩
theorem gv_revP {u w : Str} (g : Gv S σ H0 te (TupS S [u, w])) : Gv S σ H0 (tRev K te) (TupS S [w, u]) := fun H Q s d k =>
  g H _ s d fun v H1 s1 r => by
    obtain ⟨a, rfl, na, ha⟩ := r
    exact ⟨a, rfl, .inr ⟨.str u, .str w, SqT.of ha, fun p hp => k _ _ (s1.new hp) ⟨p, rfl, (d.sb0 s1).out hp, upd_same⟩⟩⟩
theorem gv_cut1 {u w : Str} (g : Gv S σ H0 te (TupS S [u, w])) : Gv S σ H0 (tSl (rSlT K) te tNoPart (tPart (tC (.int 1)))) (TupS S [u]) := fun H Q s d k =>
  g H _ s d fun v H1 s1 r => by
    obtain ⟨a, rfl, na, ha⟩ := r
    exact ⟨1, rfl, a, _, rfl, SqT.of ha, (by show ¬ (HT.sIx 2 0 none = 0 ∧ HT.sIx 2 2 (some 1) = 2); decide), fun p hp => k _ _ (s1.new hp) ⟨p, rfl, (d.sb0 s1).out hp, upd_same⟩⟩
theorem gv_catT {ws us : List Str} (g : Gv S σ H0 te (TupS S ws)) (g2 : Gv S σ H0 tf (TupS S us)) (h1 : ws ≠ []) (h2 : us ≠ []) (hn : ws.length + us.length ≤ sizeLine) : Gv S σ H0 (tOp (rCatT K) te tf) (TupS S (ws ++ us)) := fun H Q s d k =>
  g H _ s d fun v H1 s1 r => g2 H1 _ (s.nw s1) (d.sb0 s1) fun u H2 s2 r2 => by
    obtain ⟨a, rfl, na, ha⟩ := sta_tups.nil s2 r
    obtain ⟨b, rfl, nb, hb⟩ := r2
    exact ⟨a, b, _, _, rfl, rfl, SqT.of ha, SqT.of hb, by simpa using h1, by simpa using hn, fun z => absurd z (by simpa using h2), fun _ p hp => k _ _ ((s1.trans s2).new hp) ⟨p, rfl, ((d.sb0 s1).sb0 s2).out hp, by rw [List.map_append]; exact upd_same⟩⟩
theorem gv_joinT {ws : List Str} {sep : Str} (g : Gv S σ H0 te (TupS S ws)) (hn : (ws.map (·.length)).sum + ws.length * sep.length ≤ 16777216) :
    Gv S σ H0 (tM1 (fun x xs H Q => ∃ a p, ∃ ys : List Str, x = .str a ∧ xs = [.ref p] ∧ (SqL K H p (ys.map V.str) ∨ SqT K H p (ys.map V.str)) ∧ (ys.map (·.length)).sum + ys.length * a.length ≤ 16777216 ∧ Q (.str (Txt.join a ys)) H) (tC (.str sep)) te) (fun H v => Rp K S H (.str (Txt.join sep ws)) v) := fun H Q s d k =>
  ⟨⟨_, rfl⟩, g H _ s d fun v H1 s1 r => by
    obtain ⟨a, rfl, na, ha⟩ := r
    exact ⟨sep, a, ws, rfl, rfl, .inr (SqT.of ha), hn, k _ _ s1 rfl⟩⟩
end
end Ef
namespace Ef
open PySem PySem.Spec PyProof.Rows C8 PySem.W
open L2 hiding E0 CX0 pass0 Fun
/-! ### readings opened one step at a time -/
section
variable {S : List Addr} {σ : L2.St} {H H0 : Hp} {te : TE} {R : Hp → V → Prop} {D : Ends} {i : Nat}
theorem st_name {v : V} {Q : L2.St → Hp → Prop} (h : Q (σ.set i (some v)) H) : gName i v σ H Q := h
theorem st_seq {t u : TS} (h : t { D with nx := u D } σ H) : tSeq t u D σ H := h
theorem st_asg {g : TG} (h : te σ H fun x H1 => g x σ H1 D.nx) : tAsg te g D σ H := h
theorem st_drop (h : te σ H fun _ H1 => D.nx σ H1) : tDrop te D σ H := h
theorem st_ret (h : te σ H D.rt) : tRet te D σ H := h
theorem st_if {c : TT} {t u : TS} (h : c σ H fun b H1 => if b = true then t D σ H1 else u D σ H1) : tIfS c t u D σ H := h
theorem gv_asg (g : Gv S σ H0 te R) (s : SB S H0 H) (d : Dom S H) (k : ∀ v H', SB [] H H' → R H' v → D.nx (σ.set i (some v)) H') : tAsg te (gName i) D σ H := g H _ s d k
theorem gv_ret (g : Gv S σ H0 te R) (s : SB S H0 H) (d : Dom S H) (k : ∀ v H', SB [] H H' → R H' v → D.rt v H') : tRet te D σ H := g H _ s d k
theorem op_step {r : R2} {ta tb : TE} {Q : VK} (h : ta σ H fun x H1 => tb σ H1 fun y H2 => r x y H2 Q) : tOp r ta tb σ H Q := h
end
end Ef
namespace Ef
open PySem PySem.Spec PyProof.Rows C8 PySem.W
open L2 hiding E0 CX0 pass0 Fun
/-! ### arguments and calls that give -/
section
variable {K : PySem.W.Frag} {S : List Addr} {σ : L2.St} {H0 : Hp} {te tf : TE} {ts : TA} {R R' : Hp → V → Prop} {Rs : Hp → List V → Prop} {ds : List V} {sp : Sp} {E : XK}
def GvT (S : List Addr) (σ : L2.St) (H0 : Hp) (t : TA) (Rs : Hp → List V → Prop) : Prop := ∀ H (Q : List V → Hp → Prop), SB S H0 H → Dom S H → (∀ vs H', SB [] H H' → Rs H' vs → Q vs H') → t σ H Q
theorem gvt_nil : GvT S σ H0 tNil (fun _ vs => vs = []) := fun H Q s d k => k [] H SB.same rfl
theorem gvt_cons (st : Sta S R) (g : Gv S σ H0 te R) (gs : GvT S σ H0 ts Rs) : GvT S σ H0 (tCons te ts) (fun H vs => ∃ v us, vs = v :: us ∧ R H v ∧ Rs H us) := fun H Q s d k =>
  g H _ s d fun v H1 s1 r => gs H1 _ (s.nw s1) (d.sb0 s1) fun vs H2 s2 rs => k (v :: vs) H2 (s1.trans s2) ⟨v, vs, rfl, st.nil s2 r, rs⟩
theorem gv_call (ga : GvT S σ H0 ts Rs) (h : ∀ H vs (Q : VK), SB S H0 H → Dom S H → Rs H vs → (∀ y H', SB [] H H' → R H' y → Q y H') → sp (vs ++ ds) H Q E) : Gv S σ H0 (tCall sp ds E ts) R := fun H Q s d k =>
  ga H _ s d fun vs H1 s1 rs => h H1 vs Q (s.nw s1) (d.sb0 s1) rs fun y H2 s2 r => k y H2 (s1.trans s2) r
theorem gv_callB {r : List V → Hp → VK → Prop} (ga : GvT S σ H0 ts Rs) (h : ∀ H vs (Q : VK), SB S H0 H → Dom S H → Rs H vs → (∀ y H', SB [] H H' → R H' y → Q y H') → r vs H Q) : Gv S σ H0 (tCB r ts) R := fun H Q s d k =>
  ga H _ s d fun vs H1 s1 rs => h H1 vs Q (s.nw s1) (d.sb0 s1) rs fun y H2 s2 r => k y H2 (s1.trans s2) r
theorem gv_op {r : R2} {Ra Rb : Hp → V → Prop} (sa : Sta S Ra) (ga : Gv S σ H0 te Ra) (gb : Gv S σ H0 tf Rb) (h : ∀ H x y (Q : VK), SB S H0 H → Dom S H → Ra H x → Rb H y → (∀ z H', SB [] H H' → R H' z → Q z H') → r x y H Q) : Gv S σ H0 (tOp r te tf) R := fun H Q s d k =>
  ga H _ s d fun x H1 s1 rx => gb H1 _ (s.nw s1) (d.sb0 s1) fun y H2 s2 ry => h H2 x y Q ((s.nw s1).nw s2) ((d.sb0 s1).sb0 s2) (sa.nil s2 rx) ry fun z H3 s3 r => k z H3 ((s1.trans s2).trans s3) r
/-- data -/
theorem sta_rp {d : PyData} : Sta S (fun H v => Rp K S H d v) := fun H H' v s r => r.sb s
theorem sta_eq {c : V} : Sta S (fun _ v => v = c) := fun H H' v s r => r
theorem gvt_rp {d : PyData} {dl : List PyData} (g : Gv S σ H0 te (fun H v => Rp K S H d v)) (gs : GvT S σ H0 ts (fun H vs => RpL K S H dl vs)) : GvT S σ H0 (tCons te ts) (fun H vs => RpL K S H (d :: dl) vs) := fun H Q s dm k =>
  g H _ s dm fun v H1 s1 r => gs H1 _ (s.nw s1) (dm.sb0 s1) fun vs H2 s2 rs => k (v :: vs) H2 (s1.trans s2) (.cons (r.sb (s2.wide (by simp))) rs)
theorem gvt_rp0 : GvT S σ H0 tNil (fun H vs => RpL K S H [] vs) := fun H Q s d k => k [] H SB.same rfl
theorem gv_lstD {dl : List PyData} (gs : GvT S σ H0 ts (fun H vs => RpL K S H dl vs)) (hn : dl.length ≤ sizeLine) : Gv S σ H0 (tLst ts) (fun H v => Rp K S H (.list dl) v) := fun H Q s d k =>
  gs H _ s d fun vs H1 s1 r => ⟨by rw [r.len]; exact hn, fun p hp => k _ _ (s1.new hp) ⟨p, vs, rfl, RL.at upd_same ((d.sb0 s1).out hp), r.sb (SB.same.new hp)⟩⟩
theorem gv_tupD {dl : List PyData} (gs : GvT S σ H0 ts (fun H vs => RpL K S H dl vs)) (hn : dl.length ≤ sizeLine) : Gv S σ H0 (tTup ts) (fun H v => Rp K S H (.tuple dl) v) := fun H Q s d k =>
  gs H _ s d fun vs H1 s1 r => ⟨by rw [r.len]; exact hn, fun p hp => k _ _ (s1.new hp) ⟨p, vs, rfl, RT.at upd_same ((d.sb0 s1).out hp), r.sb (SB.same.new hp)⟩⟩
theorem gv_rp_less {d : PyData} (g : Gv S σ H0 te (fun H v => Rp K S H d v)) : Gv S σ H0 te (fun H v => Rp K [] H d v) := g.wk fun H v h => h.less (by simp)
/-! tests -/
theorem st_ok {t : TS} {D : Ends} {H : Hp} (g : Gv S σ H0 te (fun _ v => v = .bl true)) (s : SB S H0 H) (d : Dom S H) (k : ∀ H', SB [] H H' → D.nx σ H') : tIfS (tNot (tB te)) t tNext D σ H :=
  g H _ s d fun v H1 s1 r => ⟨true, r, k H1 s1⟩
theorem st_okP {tt : TT} {t : TS} {D : Ends} {H : Hp} (g : tt σ H fun b H1 => b = false ∧ D.nx σ H1) (mono : ∀ (Q Q' : Bool → Hp → Prop), (∀ b H1, Q b H1 → Q' b H1) → tt σ H Q → tt σ H Q') : tIfS tt t tNext D σ H :=
  mono _ _ (fun b H1 ⟨e, k⟩ => by rw [e]; exact k) g
theorem gv_var' {i : Nat} {v : V} (e : σ[i]? = some (some v)) (r : ∀ H, SB S H0 H → R H v) : Gv S σ H0 (tVar i) R := fun H Q s d k => ⟨v, e, k v H SB.same (r H s)⟩
end
end Ef
namespace Ef
open PySem PySem.Spec PyProof.Rows C8 PySem.W
open L2 hiding E0 CX0 pass0 Fun
/-! ### tests that give, loops that only read -/
section
variable {K : PySem.W.Frag} {S : List Addr} {σ : L2.St} {H0 H : Hp} {te tf : TE} {ts : TA} {tt tu : TT} {b c : Bool} {R : Hp → V → Prop} {D : Ends}
def GvB (S : List Addr) (σ : L2.St) (H0 : Hp) (t : TT) (b : Bool) : Prop := ∀ H (Q : Bool → Hp → Prop), SB S H0 H → Dom S H → (∀ H', SB [] H H' → Q b H') → t σ H Q
theorem gvb_val (g : Gv S σ H0 te (fun _ v => v = .bl b)) : GvB S σ H0 (tB te) b := fun H Q s d k => g H _ s d fun v H' s' e => ⟨b, e, k H' s'⟩
theorem gvb_test (g : Gv S σ H0 te (fun _ v => v = .bl b)) : GvB S σ H0 (tTest te) b := fun H Q s d k => g H _ s d fun v H' s' e => ⟨b, e, k H' s'⟩
theorem gvb_not (g : GvB S σ H0 tt b) : GvB S σ H0 (tNot tt) (!b) := fun H Q s d k => g H _ s d k
theorem gvb_and (g : GvB S σ H0 tt b) (h : b = true → GvB S σ H0 tu c) : GvB S σ H0 (tAnd tt tu) (b && c) := fun H Q s d k => g H _ s d fun H' s' => by
  cases b with
  | false => exact k H' s'
  | true => exact h rfl H' _ (s.nw s') (d.sb0 s') fun H2 s2 => k H2 (s'.trans s2)
theorem gvb_or (g : GvB S σ H0 tt b) (h : b = false → GvB S σ H0 tu c) : GvB S σ H0 (tOr tt tu) (b || c) := fun H Q s d k => g H _ s d fun H' s' => by
  cases b with
  | true => exact k H' s'
  | false => exact h rfl H' _ (s.nw s') (d.sb0 s') fun H2 s2 => k H2 (s'.trans s2)
theorem st_ifF {t : TS} (g : GvB S σ H0 tt false) (s : SB S H0 H) (d : Dom S H) (k : ∀ H', SB [] H H' → D.nx σ H') : tIfS tt t tNext D σ H := g H _ s d fun H' s' => k H' s'
theorem st_ifG {t u : TS} (g : GvB S σ H0 tt b) (s : SB S H0 H) (d : Dom S H) (k : ∀ H', SB [] H H' → if b = true then t D σ H' else u D σ H') : tIfS tt t u D σ H := g H _ s d k
theorem gv_andV (g : Gv S σ H0 te (fun _ v => v = .bl b)) (h : b = true → Gv S σ H0 tf (fun _ v => v = .bl c)) : Gv S σ H0 (tAndV te tf) (fun _ v => v = .bl (b && c)) := fun H Q s d k => g H _ s d fun v H' s' e => ⟨b, e, by
  cases b with
  | false =>
    cases e
    exact k _ H' s' rfl
  | true => exact h rfl H' _ (s.nw s') (d.sb0 s') fun v2 H2 s2 e2 => k v2 H2 (s'.trans s2) e2⟩
theorem gv_if {R : Hp → V → Prop} (g : GvB S σ H0 tt b) (h1 : b = true → Gv S σ H0 te R) (h2 : b = false → Gv S σ H0 tf R) : Gv S σ H0 (tIf tt te tf) R := fun H Q s d k => g H _ s d fun H' s' => by
  cases b with
  | true => exact h1 rfl H' _ (s.nw s') (d.sb0 s') fun v2 H2 s2 e2 => k v2 H2 (s'.trans s2) e2
  | false => exact h2 rfl H' _ (s.nw s') (d.sb0 s') fun v2 H2 s2 e2 => k v2 H2 (s'.trans s2) e2
theorem st_retG {v0 : V} (g : Gv S σ H0 te (fun _ v => v = v0)) (s : SB S H0 H) (d : Dom S H) (k : ∀ H', SB [] H H' → D.rt v0 H') : tRet te D σ H := g H _ s d fun v H' s' e => e ▸ k H' s'
/-- the slots off l stay -/
def Off (l : List Nat) (σ τ : L2.St) : Prop := τ.length = σ.length ∧ ∀ j, j ∉ l → τ[j]? = σ[j]?
theorem Off.refl {l : List Nat} : Off l σ σ := ⟨rfl, fun _ _ => rfl⟩
theorem Off.set {l : List Nat} {i : Nat} {τ : L2.St} {x : Option V} (h : Off l σ τ) (hi : i ∈ l := by decide) : Off l σ (τ.set i x) := ⟨by rw [List.length_set]; exact h.1, fun j hj => by
  have n : i ≠ j := fun e => hj (by rw [← e]; exact hi)
  rw [List.getElem?_set_ne n]
  exact h.2 j hj⟩
theorem Off.to {l : List Nat} {j : Nat} {τ : L2.St} {v : V} (h : Off l σ τ) (e : σ[j]? = some (some v)) (n : j ∉ l := by decide) : τ[j]? = some (some v) := (h.2 j n).trans e
theorem Off.trans {l : List Nat} {τ υ : L2.St} (h : Off l σ τ) (k : Off l τ υ) : Off l σ υ := ⟨k.1.trans h.1, fun j hj => (k.2 j hj).trans (h.2 j hj)⟩
/-- a list whose items are of a kind -/
def LsR (K : PySem.W.Frag) (R : Hp → V → Prop) (H : Hp) (v : V) : Prop := ∃ a xs, v = .ref a ∧ RL K [] H a xs ∧ ∀ x ∈ xs, R H x
theorem st_forE (l : List Nat) {i : Nat} {tb : TS} (g : Gv S σ H0 te (LsR K R)) (s : SB S H0 H) (d : Dom S H) (st : Sta [] R) (hi : i < σ.length) (hl : i ∈ l)
    (body : ∀ H1 x τ, SB [] H H1 → R H1 x → Off l σ τ → τ[i]? = some (some x) → ∀ N : L2.St → Hp → Prop, (∀ G τ', SB [] H1 G → Off l σ τ' → N τ' G) → tb { D with nx := N, ct := N, bk := D.nx } τ H1)
    (after : ∀ H1 τ, SB [] H H1 → Off l σ τ → D.nx τ H1) : tFor (iList K te) (gName i) tb D σ H := g H _ s d fun v H1 s1 r => by
  obtain ⟨a, xs, rfl, ha, rx⟩ := r
  refine ⟨a, rfl, ⟨_, ha.sq⟩, ?_⟩
  refine for_list (xs := xs) (fun _ τ G => SB [] H1 G ∧ Off l σ τ) ⟨SB.same, Off.refl⟩ (fun _ τ G _ h => (ha.sb h.1).sq) (fun j x τ G hx h => ?_) (fun τ G h => after G τ (s1.trans h.1) h.2)
  refine body G x (τ.set i (some x)) (s1.trans h.1) (st _ _ _ h.1 (rx x (List.mem_of_getElem? hx))) (h.2.set hl) (List.getElem?_set_self (by rw [h.2.1]; exact hi)) _ fun G2 τ' s2 o2 => ⟨h.1.trans s2, o2⟩
theorem lsR_of {F : Hp → V → Prop} {v : V} (h : LsR K R H v) (f : ∀ x, R H x → F H x) : LsR K F H v := let ⟨a, xs, e, r, q⟩ := h; ⟨a, xs, e, r, fun x hx => f x (q x hx)⟩
theorem op_lst {Q : VK} (h : ts σ H fun xs H1 => xs.length ≤ sizeLine ∧ ∀ p, H1 p = none → Q (.ref p) (upd H1 p (.lst xs))) : tLst ts σ H Q := h
theorem op_mk {C : Addr} {sp : Sp} {dvs : List V} {E : XK} {Q : VK} (h : ts σ H fun vs H1 => ∀ x dx, H1 x = none → H1 dx = none → dx ≠ x → sp (.ref x :: (vs ++ dvs)) (upd (upd H1 dx (.own x)) x (.ins C dx [])) (fun v H2 => v = .non ∧ Q (.ref x) H2) E) : tMake C sp dvs E ts σ H Q := h
theorem op_call {sp : Sp} {dvs : List V} {E : XK} {Q : VK} (h : ts σ H fun vs H1 => sp (vs ++ dvs) H1 Q E) : tCall sp dvs E ts σ H Q := h
theorem op_cb {r : List V → Hp → VK → Prop} {Q : VK} (h : ts σ H fun vs H1 => r vs H1 Q) : tCB r ts σ H Q := h
theorem st_par {i j : Nat} {Rs : Hp → List V → Prop} (g : GvT S σ H0 ts Rs) (s : SB S H0 H) (d : Dom S H) (k : ∀ vs H', SB [] H H' → Rs H' vs → ∃ v w, vs = [v, w] ∧ D.nx ((σ.set i (some v)).set j (some w)) H') : tPar i j ts D σ H := g H _ s d k
theorem st_append (h : te σ H fun x H1 => ∃ l xs, x = .ref l ∧ H1 l = some (.lst xs) ∧ xs.length < sizeLine ∧ tf σ H1 fun y H2 => H2 l = some (.lst xs) ∧ D.nx σ (upd H2 l (.lst (xs ++ [y])))) (mono : ∀ (H : Hp) (Q Q' : VK), (∀ v H', Q v H' → Q' v H') → te σ H Q → te σ H Q') (mono2 : ∀ (H : Hp) (Q Q' : VK), (∀ v H', Q v H' → Q' v H') → tf σ H Q → tf σ H Q') :
    tDrop (tBM K "list" rAppend te (tCons tf tNil)) D σ H := mono _ _ _ (fun x H1 ⟨l, xs, e, el, hl, q⟩ => ⟨by rw [e]; exact .inl ⟨rfl, xs, SqL.of el⟩, mono2 _ _ _ (fun y H2 ⟨e2, q2⟩ => ⟨l, xs, y, e, rfl, e2, hl, q2⟩) q⟩) h
theorem op_bm {T : String} {r : V → List V → Hp → VK → Prop} {Q : VK} (h : te σ H fun x H1 => tyV K T x H1 ∧ ts σ H1 fun vs H2 => r x vs H2 Q) : tBM K T r te ts σ H Q := h
theorem gvb_andF (g : GvB S σ H0 tt b) (h : b = true → GvB S σ H0 tu false) : GvB S σ H0 (tAnd tt tu) false := by
  have := gvb_and (c := false) g h
  rw [Bool.and_false] at this
  exact this
end
end Ef
namespace Ef
open PySem PySem.Spec PyProof.Rows C8 PySem.W
open L2 hiding E0 CX0 pass0 Fun
section
variable {X : Cx} {K : PySem.W.Frag} {pos : Pos} {S : List Addr} {σ : L2.St} {H0 H : Hp} {te tf : TE} {tt tu : TT} {b : Bool} {D : Ends} {ts : TA}
theorem pg_unlQ {es : List Expr} {c : Nat} {t : TGs} {n : Nat} (hK : X.K = K) (hc : X.calm = true) (hs : PGs X es t) (hn : (assignEach es X.env).length = n := by rfl) (hst : (assignEach es X.env).findIdx? (·.1) = none := by rfl) : PG X (.Tuple es c pos) (gUnl K n t) := hK ▸ pg_unl hc hs hn hst
theorem gvb_orF (g : GvB S σ H0 tt false) (h : GvB S σ H0 tu false) : GvB S σ H0 (tOr tt tu) false := gvb_or (b := false) (c := false) g fun _ => h
theorem st_par3 {i j l : Nat} {Rs : Hp → List V → Prop} (g : GvT S σ H0 ts Rs) (s : SB S H0 H) (d : Dom S H) (k : ∀ vs H', SB [] H H' → Rs H' vs → ∃ u v w, vs = [u, v, w] ∧ D.nx (((σ.set i (some u)).set j (some v)).set l (some w)) H') : tPar3 i j l ts D σ H := g H _ s d k
theorem gv_mod2 {n : Nat} (g : Gv S σ H0 te (fun _ v => v = .int (n : Int))) : Gv S σ H0 (tOp (rI (fun _ j => 0 < j) fun i j => V.int (i % j)) te (tC (.int 2))) (fun _ v => v = .int ((n % 2 : Nat) : Int)) :=
  gv_op (Rb := fun _ v => v = .int 2) sta_eq g (gv_c fun _ => rfl) fun H x y Q s d hx hy k => by
    subst hx hy
    exact ⟨_, _, rfl, rfl, (show (0 : Int) < 2 by decide), k _ H SB.same (by show V.int ((n : Int) % 2) = _; rw [Int.natCast_emod] <;> rfl)⟩
theorem gv_neInt {i j : Int} (g : Gv S σ H0 te (fun _ v => v = .int i)) (h : Gv S σ H0 tf (fun _ v => v = .int j)) : Gv S σ H0 (tOp rNe te tf) (fun _ v => v = .bl (!decide (i = j))) :=
  gv_op sta_eq g h fun H x y Q s d hx hy k => by
    subst hx hy
    exact ⟨rfl, k _ H SB.same (by rw [show decide (V.int i = V.int j) = decide (i = j) from decide_eq_decide.mpr ⟨fun h => by injection h, fun h => by rw [h]⟩])⟩
theorem gv_notTrue {c : Bool} (g : Gv S σ H0 te (fun _ v => v = .bl c)) : Gv S σ H0 (tOp (fun x y H Q => ∃ a b, x = .bl a ∧ y = .bl b ∧ Q (.bl (!decide (a = b))) H) te (tC (.bl true))) (fun _ v => v = .bl (!c)) :=
  gv_op (Rb := fun _ v => v = .bl true) sta_eq g (gv_c fun _ => rfl) fun H x y Q s d hx hy k => by
    subst hx hy
    exact ⟨_, _, rfl, rfl, k _ H SB.same (by cases c <;> rfl)⟩
theorem st_gen {Q : L2.St → Hp → Prop} (P : L2.St → Prop) (h1 : P σ) (h : ∀ τ, P τ → Q τ H) : Q σ H := h σ h1
theorem gv_drop0 {R : List Addr → Hp → V → Prop} (f : Fam R) (g : Gv [] σ H0 te (R S)) : Gv [] σ H0 te (R []) := g.wk fun H v h => f.less _ _ _ _ (by simp) h
theorem cat_step {R : Hp → V → Prop} {n m : Nat} {x : V} {Q : VK} (st : Sta S R) (g : Gv S σ H0 tf (LstE S R m)) (s : SB S H0 H) (d : Dom S H) (hx : LstE S R n H x) (hn : n + m ≤ sizeLine) (k : ∀ v H', SB [] H H' → LstE S R (n + m) H' v → Q v H') : tf σ H (fun y H2 => rCat x y H2 Q) :=
  g H _ s d fun u H2 s2 r2 => by
    obtain ⟨a, xs, rfl, na, ha, l, rx⟩ := (sta_lst st).nil s2 hx
    obtain ⟨b, ys, rfl, nb, hb, l2, ry⟩ := r2
    exact ⟨a, b, xs, ys, rfl, rfl, ha, hb, by omega, fun p hp => k _ _ (s2.new hp) (new_lst (d.sb0 s2) hp st (by rw [List.length_append]; omega) fun x hx => (List.mem_append.mp hx).elim (rx x) (ry x))⟩
theorem op_sl {r : V → Option Int → Option Int → Hp → VK → Prop} {tl th : TO} {Q : VK} (h : te σ H fun x H1 => tl σ H1 fun l H2 => th σ H2 fun u H3 => r x l u H3 Q) : tSl r te tl th σ H Q := h
theorem sl_step {R : Hp → V → Prop} {n : Nat} {x : V} {lo hi : Option Int} {Q : VK} (st : Sta S R) (d : Dom S H) (hx : LstE S R n H x) (k : ∀ v H', SB [] H H' → LstE S R n H' v → Q v H') : rSlL K x lo hi H Q := by
  obtain ⟨a, xs, rfl, na, ha, l, rx⟩ := hx
  exact ⟨a, xs, rfl, SqL.of ha, fun p hp => k _ _ (SB.same.new hp) (new_lst d hp st (Nat.le_trans (cutV_length xs lo hi) l) fun x hx => rx x (cutV_mem hx))⟩
theorem st_forOpen {g : TG} {tb : TS} (h : te σ H fun x H1 => tFor (iList K (tC x)) g tb D σ H1) : tFor (iList K te) g tb D σ H := h
theorem gv_cc {R : Hp → V → Prop} {v : V} (st : Sta S R) (r : R H0 v) : Gv S σ H0 (tC v) R := fun H Q s d k => k v H SB.same (st _ _ _ s r)
theorem cat_two {R : Hp → V → Prop} {n m : Nat} {x y : V} {Q : VK} (st : Sta S R) (d : Dom S H) (hx : LstE S R n H x) (hy : LstE S R m H y) (hn : n + m ≤ sizeLine) (k : ∀ v H', SB [] H H' → LstE S R (n + m) H' v → Q v H') : rCat x y H Q := by
  obtain ⟨a, xs, rfl, na, ha, l, rx⟩ := hx
  obtain ⟨b, ys, rfl, nb, hb, l2, ry⟩ := hy
  exact ⟨a, b, xs, ys, rfl, rfl, ha, hb, by omega, fun p hp => k _ _ (SB.same.new hp) (new_lst d hp st (by rw [List.length_append]; omega) fun x hx => (List.mem_append.mp hx).elim (rx x) (ry x))⟩
end
end Ef
namespace Ef
open PySem PySem.Spec PyProof.Rows C8
open L2 hiding E0 CX0 pass0 Fun
/-! ### dict(zip(xs, ys)), xs a list of texts -/
section
variable {X : Cx}
def tDictZipL (K : PySem.W.Frag) (ta : TA) : TE := fun σ H Q => ta σ H fun vs H1 => ∃ (a b : Addr) (ks : List Str) (ys : List V), vs = [.ref a, .ref b] ∧ SqL K H1 a (ks.map V.str) ∧ SqL K H1 b ys ∧ ks.length ≤ ys.length ∧
  ∀ d, H1 d = none → Q (.ref d) (upd H1 d (.dK (mergeK [] ((ks.map fun x => (Sum.inr x : L2.Key)).zip ys))))
theorem pe_dictZipL {e e2 : Expr} {ta : TA} {p p2 pos pos2 : Pos} (hc : X.calm = true) (hgl : Gl X "dict") (hml : X.mg "dict" = none) (hgz : Gl X "zip") (hmz : X.mg "zip" = none) (ha : PA X [e, e2] ta)
    (hs : starEach [e, e2] X.env = (false, eval e X.env) :: starEach [e2] X.env := by rfl) (hpl : (backTo pos2 (starEach [e2] X.env)).any (·.1) = false := by rfl)
    (hs1 : starEach [Expr.Call (.Name "zip" p2) [e, e2] [] pos2] X.env = (false, eval (.Call (.Name "zip" p2) [e, e2] [] pos2) X.env) :: starEach [] X.env := by rfl) (hpl1 : (backTo pos (starEach [] X.env)).any (·.1) = false := by rfl) :
    PE X (.Call (.Name "dict" p) [.Call (.Name "zip" p2) [e, e2] [] pos2] [] pos) (tDictZipL X.K ta) := by
  refine ⟨fun pins s σ H Q I h => ?_⟩
  refine Call_ (ld_blt I hgl hml (show bootBuiltins "dict" = some (.type "dict") by decide +kernel) (PyProof.Rows.callWith_type1 ?_ hs1 hpl1))
  rw [hs1]
  show wpAny _ _ (spliced ((false, eval (.Call (.Name "zip" p2) [e, e2] [] pos2) X.env) :: backTo pos (starEach [] X.env))) _ _ _
  refine Calls.spliced_cons ?_
  refine Call_ (ld_blt (I.tok _) hgz hmz PyProof.Rows.boot_zip (PyProof.Rows.callWith_type1 (thn (ha.run pos2 pins _ σ H _ ((I.tok _).tok _) h) fun us s1 ⟨vs, H1, I1, r1, a, b, ks, ys, ex, hqx, hqy, ln, q⟩ => ?_) hs hpl))
  subst ex
  obtain ⟨u, v, rfl, r, r'⟩ := r1.two
  cases r
  cases r'
  obtain ⟨its, rv, p1, z1⟩ := I1.list hqx
  obtain ⟨its2, rv2, pl2, z2⟩ := I1.list hqy
  refine call_zip_2 p1.isList pl2.isList fun h' hz hTI hTO h1 h2 hsz hk => ?_
  refine Calls.spliced_nil ?_
  have D := PySem.W.ktu_apart s1.heap.objs.size a b p1.lt pl2.lt
  have n1 := rv.length
  have n2 := rv2.length
  rw [List.length_map] at n1 z1
  have lz : ((ks.map fun x => (Sum.inr x : L2.Key)).zip its2).length = its.length := by rw [List.length_zip, List.length_map]; omega
  refine call_dict_pairs (knd := mixKind X.prog X.w) (kvs := (ks.map fun x => (Sum.inr x : L2.Key)).zip its2) (PairArg.zip _ _ _ _ _ a b D its.toArray its2.toArray) (I.ok.hd hc)
    ⟨hz, hTI, ⟨_, _, hTO⟩, h1, h2, p1.isList.at fun o e => hk _ _ e, pl2.isList.at fun o e => hk _ _ e⟩ ⟨by rw [lz, List.size_toArray, List.size_toArray]; omega, fun i key v ⟨e1, e2⟩ => ?_⟩ (by rw [List.size_toArray, List.size_toArray]; omega) fun hF tk hd' kk => ?_
  · rw [List.getElem?_toArray] at e1 e2
    obtain ⟨x, hx, rx⟩ := back rv e1
    rw [List.getElem?_map] at hx
    obtain ⟨y, hy, rfl⟩ := Option.map_eq_some_iff.mp hx
    refine ⟨Sum.inr y, ?_, kV_is (k := Sum.inr y) rx⟩
    rw [List.getElem?_zip_eq_some]
    exact ⟨by rw [List.getElem?_map, hy] <;> rfl, e2⟩
  · have kF : ∀ c o, s1.heap.get? c = some o → hF.get? c = some o := fun c o e => by
      have hlt := Heap.lt_size e
      refine kk c o (fun q => ?_) (hk c o e)
      simp at q
      rcases q with q | q | q | q
      · exact absurd hlt (by rw [q]; exact Nat.not_lt.mpr (Nat.le_add_right _ _))
      · exact absurd hlt (by rw [q]; exact Nat.not_lt.mpr (Nat.le_add_right _ _))
      · exact absurd hlt (by rw [q]; exact Nat.lt_irrefl _)
      · exact absurd hlt (by rw [q]; exact Nat.not_lt.mpr (Nat.le_add_right _ _))
    have hSn : H1 h'.objs.size = none := I1.hok.fresh (by rw [hsz]; exact Nat.le_add_right _ _)
    have hm : (h'.objs.size == sysModules) = false := beq_eq_false_iff_ne.mpr (by rw [hsz]; exact Nat.ne_of_gt (Nat.lt_of_lt_of_le I1.big (Nat.le_add_right _ _)))
    have rel : KV ((ks.map fun x => (Sum.inr x : L2.Key)).zip ys) ((ks.map fun x => (Sum.inr x : L2.Key)).zip its2) := by
      refine paired_of (by rw [List.length_zip, List.length_zip, n2]) fun i x y e1 e2 => ?_
      rw [List.getElem?_zip_eq_some] at e1 e2
      obtain ⟨u, hu, ru⟩ := rv2.get e1.2
      obtain ⟨e3, e4⟩ := e2
      rw [hu] at e4
      rw [e1.1] at e3
      exact ⟨Option.some.inj e3, Option.some.inj e4 ▸ ru⟩
    have hlen : (mergeK [] ((ks.map fun x => (Sum.inr x : L2.Key)).zip ys)).length ≤ sizeLine := by
      refine Nat.le_trans (length_mergeK _ []) ?_
      rw [List.length_nil, Nat.zero_add, List.length_zip, List.length_map]
      omega
    exact ⟨.ref h'.objs.size, upd H1 h'.objs.size (.dK (mergeK [] ((ks.map fun x => (Sum.inr x : L2.Key)).zip ys))), I1.laid (t' := tk) kF (by rw [hsz]; exact Nat.le_add_right _ _) (show ObjOk X.prog X.w _ _ _ (.dK (mergeK [] ((ks.map fun x => (Sum.inr x : L2.Key)).zip ys))) from ⟨hlen, hm, _, KV.merge rel .nil, hd'⟩), rfl, q _ hSn⟩
end
end Ef
namespace Ef
open PySem PySem.Spec PyProof.Rows C8
open L2 hiding E0 CX0 pass0 Fun
/-! ### own exceptions in the head's hook: with a default, with the statics -/
/-- one default -/
def dfB (K : PySem.W.Frag) (f : Addr) : Bool := match K.lookup f with
  | some ⟨_, _, .func fd, _⟩ => (match fd.defaults with
    | .ref T => (match K.lookup T with
      | some (⟨_, _, .seq its _, _⟩ : Obj) => its.size == 1
      | _ => false)
    | _ => false)
  | _ => false
def supB2 (K : PySem.W.Frag) (x q file : Str) : Bool := let C := He.ga K x; let f := He.ma K C "__init__"
  dfB K f && (suB K C f q file && (oexB K C && (decide (PySem.W.ks_superIn K C C "__init__" = some (some (.builtin "ValueError.__init__"))) && (decide (PySem.W.subIn K (.ref C) (.type "ValueError") = some true) && (decide (PySem.W.mroIn K C (.ref C) = some true) &&
    (decide (PySem.W.nsIn K cStatics "thirdparty.any" = some none) && (decide (PySem.W.findIn K (.ref C) "value" = some none) && (decide (PySem.W.nsIn K mainGlobals "super" = some none) && (decide (PySem.W.findIn K (.ref C) "__init__" = some (some (.ref f))) &&
    (decide (PySem.W.typeIn K (.ref f) = some (.type "function")) && (decide (PySem.W.nsIn K mainGlobals x = some (some (.ref C))) && (decide (PySem.W.exmOne K (.ref C) (.ref C) = some true) && xfB K C))))))))))))
theorem supB_ok2 {P : Program} {K : PySem.W.Frag} {h : Heap} {mg : Str → Option Value} {x q file : Str} {params : Arguments} {scope : Scope} {p0 p1 p2 p3 p4 p5 p6 p7 p8 : Pos} {ar : Arg} {kV : Value} (X : K.In h) (G : h.Ns mainGlobals mg)
    (e : suW K x = some (("__init__" : Str), q, params, FuncBody.stmts (supBody p0 p1 p2 p3 p4 p5 p6 p7 p8), scope, mainGlobals, builtinsNs, kV)) (c : supB2 K x q file = true) (hf : (P.main.file == file) = true) (ht : (P.main.scope.names.lookup ("super" : Str)).isSome = false)
    (hp : (params.posonlyargs ++ params.args).head? = some ar) (har : ar.arg = "self") (hn : scope.names = ([("self", NameKind.local), ("value", NameKind.local), ("__class__", NameKind.free), ("super", NameKind.globalImplicit)] : List (Str × NameKind)))
    (hk : scope.kind = .function) (hco : scope.isCoroutine = false) (hge : scope.isGenerator = false) (hcall : CallIs p0 p1 p2 p3)
    (hb : ∀ (T : Addr) (body : List Stmt) (doc pm : Value) (an : Option Addr) (cdv ct : Value) (cc : Addr) (us its : List Value), us.length = 2 → its.length = 1 → ∃ k, bindArgs (PySem.W.ksFn "__init__" q params body scope (.ref T) kV doc pm an cdv ct cc) ⟨us, []⟩ = seqItems? (.ref T) >>= k ∧ k (some its.toArray) = pure ((["self", "value"] : List Str).zip us)) :
    SupIs P K mg x (He.ga K x) := by
  unfold supB2 at c
  obtain ⟨c0, c⟩ := He.ba c
  obtain ⟨c1, c⟩ := He.ba c
  obtain ⟨c2, c⟩ := He.ba c
  obtain ⟨c3, c⟩ := He.ba c
  obtain ⟨c4, c⟩ := He.ba c
  obtain ⟨c5, c⟩ := He.ba c
  obtain ⟨c6, c⟩ := He.ba c
  obtain ⟨c7, c⟩ := He.ba c
  obtain ⟨c8, c⟩ := He.ba c
  obtain ⟨c9, c⟩ := He.ba c
  obtain ⟨c10, c⟩ := He.ba c
  obtain ⟨c11, c⟩ := He.ba c
  obtain ⟨c12, c13⟩ := He.ba c
  unfold suW at e
  unfold suB at c1
  unfold dfB at c0
  split at e
  · rename_i oc od fd osl ho
    rw [ho] at c1 c0
    dsimp only at c1 c0
    obtain ⟨n1, n2, n3, n4, n5, n6, n7, n8, n9, n10, n11, n12, n13, n14, n15⟩ := fd
    simp only [Option.some.injEq, Prod.mk.injEq] at e
    obtain ⟨h1, h2, h3, h4, h5, h6, h7, h8⟩ := e
    subst h1 h2 h3 h4 h5 h6 h7 h8
    dsimp only at c1 c0
    split at c0
    case h_2 => cases c0
    rename_i T
    split at c0
    case h_2 => cases c0
    rename_i tc td tits tn tsl hT
    have lT : tits.size = 1 := eq_of_beq c0
    split at c1
    · rename_i n cc cda
      obtain ⟨d1, c1⟩ := He.ba c1
      obtain ⟨d2, c1⟩ := He.ba c1
      obtain ⟨d3, d4⟩ := He.ba c1
      obtain rfl := of_decide_eq_true d1
      split at d2
      · rename_i cl cld D csl hcell
        obtain rfl := eq_of_beq d2
        split at d4
        · rename_i ccl cdd vs ccs hcode
          split at d4
          · rename_i fl tf hfl
            obtain rfl := of_decide_eq_true d4
            refine ⟨⟨⟨_, _, ⟨⟨_, _, _, _, _, _, _, _, _, _, _, _, _, _, _, _, _, _, _, _, _, _, _, _, _, _, _, _, _, _, _, _, _, rfl, ho, d3, hcode, hfl, hf, ht, hcell, hp, har, hn, hk, hco, hge, hcall⟩, oexB_ok c2, of_decide_eq_true c3, of_decide_eq_true c4, of_decide_eq_true c5, of_decide_eq_true c6,
              of_decide_eq_true c7, of_decide_eq_true c8⟩, of_decide_eq_true c9, of_decide_eq_true c10, (fun s us X hl => by
              rw [List.append_nil] at hl ⊢
              obtain ⟨k, e1, e2⟩ := hb T _ _ _ _ _ _ _ us tits.toList hl (by rw [Array.length_toList]; exact lT)
              refine BindsTo.of_looks fun M => ?_
              rw [e1]
              exact looks_items X hT rfl (.of_pure (by rw [Array.toArray_toList] at e2; exact e2)))⟩, PySem.W.mg_of X G (of_decide_eq_true c11)⟩, of_decide_eq_true c7, xfB_ok c13, of_decide_eq_true c12⟩
          · cases d4
        · cases d4
      · cases d2
    · cases c1
  · cases e
/-- the hook with them -/
abbrev AlX2 : Type := AlE × List SuW
def obsX2 (n : Nat) (fa : List He.Fa) (fn : List He.DefD) (ex : PySem.W.Frag → Bool) (xs : List (Str × SuW)) (g : Addr → Option Obj) : AlX2 := let K := He.frG g (cStatics :: He.asD g n); ((He.obsD fa fn K, ex K), xs.map fun q => suW K q.1)
def hookX2 (n : Nat) (fa : List He.Fa) (fn : List He.DefD) (ex : PySem.W.Frag → Bool) (xs : List (Str × SuW)) : PySem.W.Hook where
  α := AlX2
  obs := fun s => obsX2 n fa fn ex xs s.heap.get?
  val := fun _ => ((He.valD fn, true), xs.map fun (q : Str × SuW) => q.2)
  says := fun _ h => ∃ K : PySem.W.Frag, K.In h ∧ He.SaysD fa fn K ∧ ex K = true ∧ (xs.map fun q => suW K q.1) = xs.map fun (q : Str × SuW) => q.2
  of := fun _ s e => ⟨He.frG s.heap.get? (cStatics :: He.asD s.heap.get? n), He.frG_in, congrArg (fun z : AlX2 => z.1.1) e, congrArg (fun z : AlX2 => z.1.2) e, (congrArg (fun z : AlX2 => z.2) e : _)⟩
  keeps := fun _ _ _ ⟨K, hK, c⟩ k => ⟨K, PySem.W.Frag.In.keeps hK k, c⟩
theorem obsX_eq2 {n : Nat} {fa : List He.Fa} {fn : List He.DefD} {ex : PySem.W.Frag → Bool} {xs : List (Str × SuW)} {g : Addr → Option Obj} {s : Shared} (h : ∀ a, g a = s.heap.get? a) : obsX2 n fa fn ex xs g = (hookX2 n fa fn ex xs).obs s := by
  have e : g = s.heap.get? := funext h
  rw [e] <;> rfl
end Ef
namespace Ef
open PySem PySem.Spec PyProof.Rows C8 PySem.W
open L2 hiding E0 CX0 pass0 Fun
/-! ### lambda x: x.f, called with an instance -/
section
variable {prog : Program} {w : World} {A : Around} {s : Shared} {K : PySem.W.Frag}
theorem lam_field {q c' a dx C : Addr} {qual x f : Str} {params : Arguments} {scope : Scope} {pm ctv : Value} {p1 p2 : Pos} {mA : Str → Option Value} {u : Value} {Q : Value → Shared → Prop} {E : Value → Shared → Prop}
    (hroom : A.depth < recursionLimit) (ho : s.heap.get? q = some (PySem.W.kla_obj "<lambda>" qual params (.Attribute (.Name x p1) f p2) scope [] pm c' ctv)) (hcd : s.heap.CodeRec (.ref c') qual) (nl : s.heap.NoLimit) (X : K.In s.heap)
    (hbind : bindArgs (PySem.W.kla_fn "<lambda>" qual params (.Attribute (.Name x p1) f p2) scope [] pm (.ref c') ctv) ⟨[.ref a], []⟩ = pure [(x, .ref a)]) (hsc : scope.names.lookup x = some .local) (hcell : ∀ y ∈ scope.names, y.2 ≠ .cell)
    (hk : scope.kind = .function) (hco : scope.isCoroutine = false) (hge : scope.isGenerator = false) (hdb : (x == ("__debug__" : Str)) = false) (hab : ∀ env : Env, attributeBase (.Name x p1) f env (eval (.Name x p1) env) = eval (.Name x p1) env)
    (O : ObjM s.heap a dx C mA) (c : Cls K C) (n : NoAttr K C f) (hu : mA f = some u) (hh : PySem.W.handedIn u = true)
    (h : ∀ h' tk, (∀ b o, s.heap.get? b = some o → h'.get? b = some o) → Q u { s with heap := h', toks := tk }) : wpAny (model prog w) A (call (.ref q) [.ref a]) Q E s := by
  refine wpAny_call (PySem.W.kla_callFunE hroom ho rfl hco hge rfl hcd ?_)
  rw [hbind]
  refine wpAny_pure (wpAny_newFunctionEnv hcell (fun y hy => by rw [List.mem_singleton.mp hy]; exact hsc) (fun h₁ hns hsb => ⟨nl.fresh _ hsb, ?_⟩) hk)
  have kp : ∀ b o, s.heap.get? b = some o → h₁.get? b = some o := fun b o e => hsb.extBut b o (Nat.ne_of_lt (Heap.lt_size e)) (Heap.get?_push_of_some _ e)
  refine PySem.W.kla_codeExpr (attr_of (hab _) (wpAny_Name (wpAny_loadName_local hk hsc hns (v := .ref a) (by simp) ?_) hdb))
  have O1 : ObjM h₁ a dx C mA := ⟨kp _ _ O.obj, let ⟨o, es, ep, e1, e2⟩ := O.ns; ⟨o, es, ep, kp _ _ e1, e2⟩, O.ne⟩
  refine get_map (s := { s with heap := h₁, toks := s.toks + 1 }) (fun b o e => kp _ _ (X b o e)) O1 (c.get f) c.hd n hu hh ?_
  exact h h₁ _ kp
end
end Ef
namespace K77
open PySem PySem.Spec PyProof.Rows L2
def top (i : Nat) : Stmt := PySem.Challenge.pw_evenfriends_k77_whole_squares_and_club_r.main.body.getD i (.Pass ⟨0, 0, 0, 0⟩)
abbrev s_places_of : Stmt := top 1
abbrev s_across : Stmt := top 2
abbrev s_is_let_place : Stmt := top 3
abbrev s_is_lone_grid : Stmt := top 4
abbrev s_InvalidRoad___init__ : Stmt := inClass (top 8) 0
abbrev s_is_spelt : Stmt := top 15
abbrev s_are_people : Stmt := top 17
abbrev s_check_people : Stmt := top 18
abbrev s_check_clubs : Stmt := top 20
abbrev s_is_place_of : Stmt := top 21
abbrev s_Table___init__ : Stmt := inClass (top 22) 0
abbrev s_Table_people : Stmt := inClass (top 22) 1
abbrev s_Table_clubs : Stmt := inClass (top 22) 2
abbrev s_Table_members : Stmt := inClass (top 22) 3
abbrev s_Table___eq__ : Stmt := inClass (top 22) 4
abbrev s_check_table : Stmt := top 23
abbrev s_check_tables : Stmt := top 24
abbrev s_spot_of : Stmt := top 25
abbrev s_named : Stmt := top 26
abbrev s_squares_of : Stmt := top 27
abbrev s_squares_through : Stmt := top 28
abbrev s_let_places : Stmt := top 29
abbrev s_moved_table : Stmt := top 30
abbrev s_moved : Stmt := top 31
abbrev s_behind_places : Stmt := top 32
abbrev s_table_behind : Stmt := top 33
abbrev s_is_club_road : Stmt := top 34
abbrev s_is_lone_table : Stmt := top 35
abbrev s_some_let_place : Stmt := top 36
abbrev s__law_purse : Stmt := top 38
abbrev s__law_mixed : Stmt := top 39
abbrev s__law_draw : Stmt := top 40
abbrev s__law_purses : Stmt := top 41
abbrev s__law_one_of : Stmt := top 42
abbrev s__law_shuffled : Stmt := top 43
abbrev s__law_same : Stmt := top 44
abbrev s__law_exact : Stmt := top 45
abbrev s__law_word : Stmt := top 46
abbrev s__law_words : Stmt := top 47
abbrev s__law_people : Stmt := top 48
abbrev s__law_pairs : Stmt := top 49
abbrev s__law_places : Stmt := top 50
abbrev s__law_hall : Stmt := top 51
abbrev s__law_table : Stmt := top 52
abbrev s__law_world_of_table : Stmt := top 53
abbrev s__law_through : Stmt := top 54
abbrev s__law_free_places : Stmt := top 55
abbrev s__law_shifted : Stmt := top 56
abbrev s__law_walked_table : Stmt := top 57
abbrev s__law_twos : Stmt := top 58
abbrev s__law_all_squares : Stmt := top 59
abbrev s__law_behind : Stmt := top 60
abbrev s__law_is_road : Stmt := top 61
abbrev s__law_counts_right : Stmt := top 62
abbrev s__law_bent_roads : Stmt := top 63
abbrev s__law_refused_right : Stmt := top 64
abbrev s__law_long_right : Stmt := top 65
abbrev s__law_roads_right : Stmt := top 66
abbrev s_law : Stmt := top 67
end K77
namespace K77
open PySem PySem.Spec PyProof.Rows C8 Ef
open L2 hiding E0 CX0 pass0 Fun
/-! ### the purse -/
section
variable {P : Program} {w : World} {K : PySem.W.Frag} {mg : Str → Option Value} {base : Heap}
/-- a purse at p from which n draws may be made -/
def Pu (H : Hp) (p : Addr) (n : Nat) : Prop := ∃ a b c e : Int, H p = some (.lst [.int a, .int b, .int c, .int e]) ∧ 0 ≤ b ∧ b < 2147483648 ∧ 0 ≤ c ∧ c + n ≤ 1099511627776 ∧ 0 ≤ e ∧ e ≤ 100
theorem Pu.less {H : Hp} {p : Addr} {n m : Nat} (h : Pu H p n) (hm : m ≤ n) : Pu H p m := by
  obtain ⟨a, b, c, e, h1, h2, h3, h4, h5, h6, h7⟩ := h
  exact ⟨a, b, c, e, h1, h2, h3, h4, by omega, h6, h7⟩
theorem Pu.other {H : Hp} {p q : Addr} {n : Nat} {o : HO} (h : Pu H p n) (hq : p ≠ q) : Pu (upd H q o) p n := by
  obtain ⟨a, b, c, e, h1, r⟩ := h
  exact ⟨a, b, c, e, by rw [upd_ne hq]; exact h1, r⟩
theorem Pu.new {H : Hp} {p q : Addr} {n : Nat} {o : HO} (h : Pu H p n) (hq : H q = none) : Pu (upd H q o) p n := by
  obtain ⟨a, b, c, e, h1, r⟩ := id h
  exact h.other (ne_of_none h1 hq)
theorem Pu.ne {H : Hp} {p q : Addr} {n : Nat} (h : Pu H p n) (hq : H q = none) : p ≠ q := by
  obtain ⟨a, b, c, e, h1, r⟩ := id h
  exact ne_of_none h1 hq
theorem Pu.sb {S : List Addr} {H H' : Hp} {p : Addr} {n : Nat} (h : Pu H p n) (s : SB S H H') (hp : p ∉ S) : Pu H' p n := by
  obtain ⟨a, b, c, e, h1, r⟩ := h
  exact ⟨a, b, c, e, s _ _ hp h1, r⟩
theorem Pu.dom {H : Hp} {p : Addr} {n : Nat} (h : Pu H p n) : Dom [p] H := fun b hb => by
  obtain ⟨a, _, c, e, h1, r⟩ := h
  rw [List.mem_singleton.mp hb, h1]
  exact fun z => nomatch z
theorem sc__law_purse : FnScope ["_law_script", "_law_at", "_law_seed"] ["_law_script", "_law_at"] (defScope s__law_purse) := ⟨rfl, rfl, rfl, by decide +kernel, rfl, by decide +kernel, by decide +kernel⟩
theorem sc__law_mixed : FnScope ["_law_seed", "_law_turn", "_law_at", "_law_mixed_here"] ["_law_seed", "_law_turn", "_law_at"] (defScope s__law_mixed) := ⟨rfl, rfl, rfl, by decide +kernel, rfl, by decide +kernel, by decide +kernel⟩
theorem sc__law_draw : FnScope ["_law_purse_here", "_law_many", "_law_drawn", "_law_found", "_law_piece"] ["_law_purse_here", "_law_many"] (defScope s__law_draw) := ⟨rfl, rfl, rfl, by decide +kernel, rfl, by decide +kernel, by decide +kernel⟩
def spMixed : Sp := fun vs H Q _ => ∃ s t e : Int, vs = [.int s, .int t, .int e] ∧ 0 ≤ s ∧ s < 2147483648 ∧ 0 ≤ t ∧ t ≤ 1099511627776 ∧ 0 ≤ e ∧ e ≤ 100 ∧ ∀ r : Int, 0 ≤ r → r < 2147483587 → Q (.int r) H
theorem ok_mixed (M : Bl mg) (F : Fn K mg "_law_mixed" s__law_mixed) : Cal P w K mg base 1 "_law_mixed" spMixed [] := by
  refine F.cal sc__law_mixed (fun _ _ F => FunD.bindsN F fun _ _ _ _ _ _ us hl => match us, hl with | [_, _, _], _ => rfl) (fun vs H Q E h => by obtain ⟨_, _, _, rfl, _⟩ := h; rfl) (fun f cdv A outer st H vs Q E hr h => ⟨_, PSs.nox ((pss_cons (ps_set (i := 3) sc__law_mixed.nd rfl (Or.inl rfl) (pe_op op_add (pe_op op_mul (pv 0) pe_int) (pe_op op_mul (pe_op op_mul pe_int (pv 1)) (pv 1))))
  (pss_cons (ps_set (i := 3) sc__law_mixed.nd rfl (Or.inl rfl) (pe_op op_mod (pe_callTy call_int1 (by rfl) M.int (by decide +kernel) (pa_cons (pe_op op_add (pe_op op_add (pv 3) (pe_op op_mul pe_int (pv 2))) (pv 1)) pa_nil)) pe_int))
  (pss_cons (ps_set (i := 3) sc__law_mixed.nd rfl (Or.inl rfl) (pe_op op_mod (pe_callTy call_int1 (by rfl) M.int (by decide +kernel) (pa_cons (pe_op op_add (pe_op op_mul (pv 3) (pv 3)) pe_int) pa_nil)) pe_int))
  (pss_one (ps_ret (pe_op op_mod (pe_callTy call_int1 (by rfl) M.int (by decide +kernel) (pa_cons (pe_op op_mul (pv 3) pe_int) pa_nil)) pe_int))))))), ?_⟩)
  obtain ⟨s, t, e, rfl, h1, h2, h3, h4, h5, h6, q⟩ := h
  refine ⟨_, rfl, _, _, rfl, rfl, .inl ⟨by omega, by omega⟩, ?_⟩
  refine ⟨_, rfl, _, _, rfl, rfl, .inl ⟨by omega, by omega⟩, _, rfl, _, _, rfl, rfl, .inr ⟨by omega, by omega⟩, _, _, rfl, rfl, ?_⟩
  generalize s * 69069 + 104729 * t * t = u1
  refine ⟨_, rfl, _, rfl, _, _, rfl, rfl, .inl ⟨by omega, by omega⟩, _, _, rfl, rfl, _, rfl, _, _, rfl, rfl, .inl ⟨_, rfl, ?_⟩⟩
  refine ⟨_, _, rfl, rfl, (by show (0 : Int) < 2147483647; decide), ?_⟩
  have a1 : 0 ≤ (u1 + 7919 * e + t) % 2147483647 := Int.emod_nonneg _ (by decide)
  have a2 : (u1 + 7919 * e + t) % 2147483647 < 2147483647 := Int.emod_lt_of_pos _ (by decide)
  generalize (u1 + 7919 * e + t) % 2147483647 = u2 at a1 a2
  refine ⟨_, rfl, _, rfl, _, _, rfl, rfl, .inl ⟨by omega, by omega⟩, _, _, rfl, rfl, .inl ⟨_, rfl, ?_⟩⟩
  refine ⟨_, _, rfl, rfl, (by show (0 : Int) < 2147483629; decide), ?_⟩
  have b1 : 0 ≤ (u2 * u2 + 40503) % 2147483629 := Int.emod_nonneg _ (by decide)
  have b2 : (u2 * u2 + 40503) % 2147483629 < 2147483629 := Int.emod_lt_of_pos _ (by decide)
  generalize (u2 * u2 + 40503) % 2147483629 = u3 at b1 b2
  refine ⟨_, rfl, _, _, rfl, rfl, .inl ⟨by omega, by omega⟩, .inl ⟨_, rfl, ?_⟩⟩
  refine ⟨_, _, rfl, rfl, (by show (0 : Int) < 2147483587; decide), ?_⟩
  exact q _ (Int.emod_nonneg _ (by decide)) (Int.emod_lt_of_pos _ (by decide))
theorem bits_small {m : Int} (h1 : 1 ≤ m) (h2 : m ≤ 1000) : (1 : Int) + ((Builtin.Int.intBits m : Nat) : Int) / 28 = 1 := by
  have e : Builtin.Int.intBits m ≤ 27 := by
    unfold Builtin.Int.intBits
    rw [if_neg (by simp; omega)]
    have : m.natAbs.log2 < 27 := (Nat.log2_lt (by omega)).mpr (by omega)
    omega
  omega
def spDraw : Sp := fun vs H Q _ => ∃ p n m, vs = [.ref p, .int m] ∧ Pu H p (n + 1) ∧ 1 ≤ m ∧ m ≤ 1000 ∧ ∀ (r : Int) H', 0 ≤ r → r < m → SB [p] H H' → Pu H' p n → Q (.int r) H'
theorem ok_draw (M : Bl mg) (F : Fn K mg "_law_draw" s__law_draw) (c__law_mixed : Cal P w K mg base 1 "_law_mixed" spMixed []) : Cal P w K mg base 2 "_law_draw" spDraw [] := by
  refine F.cal sc__law_draw (fun _ _ F => FunD.bindsN F fun _ _ _ _ _ _ us hl => match us, hl with | [_, _], _ => rfl) (fun vs H Q E h => by obtain ⟨_, _, _, rfl, _⟩ := h; rfl) (fun f cdv A outer st H vs Q E hr h => ⟨_, PSs.nox ((pss_cons (ps_if (pt_cmpR op_gt (pe_ix (ixL (K := K) rfl) (pv 0) pe_int (fun _ _ => rfl)) pe_int (nomark _)) (pss_cons (ps_set (i := 2) sc__law_draw.nd rfl (Or.inl rfl) (pe_op op_mod (pe_callTy call_int1 (by rfl) M.int (by decide +kernel) (pa_cons (pe_ix (ixL (K := K) rfl) (pv 0) pe_int (fun _ _ => rfl)) pa_nil)) (pv 1)))
  (pss_cons (ps_asg (pe_op op_fdiv (pe_ix (ixL (K := K) rfl) (pv 0) pe_int (fun _ _ => rfl)) (pv 1)) (pg_sub (pv 0) pe_int set_list))
  (pss_one (ps_ret (pv 2))))) pss_nil)
  (pss_cons (ps_set (i := 3) sc__law_draw.nd rfl (Or.inl rfl) pe_int)
  (pss_cons (ps_for PassesOwn.never rfl (pi_range1 (by rfl) M.range (pa_cons (pe_op op_add pe_int (pe_op op_fdiv (pe_bits (pv 1)) pe_int)) pa_nil)) (pg_name (i := 4) sc__law_draw.nd rfl (Or.inl rfl)) (pss_cons (ps_asg (pe_op op_add (pe_ix (ixL (K := K) rfl) (pv 0) pe_int (fun _ _ => rfl)) pe_int) (pg_sub (pv 0) pe_int set_list))
  (pss_one (ps_set (i := 3) sc__law_draw.nd rfl (Or.inl rfl) (pe_op op_add (pe_op op_mul (pv 3) pe_int) (pe_c c__law_mixed hr (by first | decide | omega) (by rfl) (pa_cons (pe_ix (ixL (K := K) rfl) (pv 0) pe_int (fun _ _ => rfl)) (pa_cons (pe_ix (ixL (K := K) rfl) (pv 0) pe_int (fun _ _ => rfl)) (pa_cons (pe_ix (ixL (K := K) rfl) (pv 0) pe_int (fun _ _ => rfl)) pa_nil)))))))))
  (pss_one (ps_ret (pe_op op_mod (pe_callTy call_int1 (by rfl) M.int (by decide +kernel) (pa_cons (pv 3) pa_nil)) (pv 1)))))))), ?_⟩)
  obtain ⟨p, n, m, rfl, hp, h1, h2, q⟩ := h
  obtain ⟨a, b, c, e, hH, b1, b2, c1, c2, e1, e2⟩ := hp
  have sq : ∀ {x : Int}, SqL K (upd H p (.lst [.int x, .int b, .int c, .int e])) p [.int x, .int b, .int c, .int e] := SqL.of upd_same
  refine ⟨_, rfl, _, _, _, _, rfl, rfl, SqL.of hH, rfl, _, _, rfl, rfl, _, rfl, ?_⟩
  refine ifB (fun ha => ?_) (fun ha => ?_)
  · refine ⟨_, rfl, _, _, _, _, rfl, rfl, SqL.of hH, rfl, .inl ⟨_, rfl, _, rfl, _, _, rfl, rfl, (by show 0 < m; omega), ?_⟩⟩
    refine ⟨_, rfl, _, _, _, _, rfl, rfl, SqL.of hH, rfl, _, rfl, _, _, rfl, rfl, ⟨by omega, by omega⟩, ?_⟩
    refine ⟨_, rfl, _, _, _, _, rfl, rfl, hH, rfl, ?_⟩
    refine ⟨_, rfl, ?_⟩
    refine q _ _ (Int.emod_nonneg _ (by omega)) (Int.emod_lt_of_pos _ (by omega)) (SB.same.put (by simp)) ⟨a / m, b, c, e, upd_same, b1, b2, c1, by omega, e1, e2⟩
  · refine ⟨_, rfl, _, rfl, _, _, rfl, rfl, ⟨by decide, by decide⟩, _, _, rfl, rfl, ?_⟩
    refine ⟨1, congrArg (fun z : Int => [V.int z]) (bits_small h1 h2), by decide, by decide, ?_⟩
    refine for_range (n := 1) (fun i σ H' => σ.length = 5 ∧ σ[0]? = some (some (.ref p)) ∧ σ[1]? = some (some (.int m)) ∧ (∃ x, σ[3]? = some (some (.int x)) ∧ 0 ≤ x) ∧ ∃ c', H' = upd H p (.lst [.int a, .int b, .int c', .int e]) ∧ c' = c + i) ?_ (fun i σ H' hi h => ?_) (fun σ H' h => ?_)
    · refine ⟨rfl, rfl, rfl, ⟨0, rfl, by decide⟩, c, ?_, by simp⟩
      funext z
      by_cases hz : z = p
      · subst hz; rw [upd_same]; exact hH
      · rw [upd_ne hz]
    · obtain ⟨k0, k1, k2, ⟨x, k3, k4⟩, c', rfl, k5⟩ := h
      have hi0 : i = 0 := by omega
      subst hi0
      have l0 : 0 < σ.length := by omega
      have l1 : 1 < σ.length := by omega
      have l3 : 3 < σ.length := by omega
      refine ⟨_, (by rw [List.getElem?_set_ne (by decide)]; exact k1), _, _, _, _, rfl, rfl, SqL.of upd_same, rfl, _, _, rfl, rfl, ?_⟩
      refine ⟨_, (by rw [List.getElem?_set_ne (by decide)]; exact k1), _, _, _, _, rfl, rfl, upd_same, rfl, ?_⟩
      refine ⟨_, (by rw [List.getElem?_set_ne (by decide)]; exact k3), _, _, rfl, rfl, .inr ⟨by decide, by decide⟩, ?_⟩
      refine ⟨_, (by rw [List.getElem?_set_ne (by decide)]; exact k1), _, _, _, _, rfl, rfl, SqL.of upd_same, rfl, ?_⟩
      refine ⟨_, (by rw [List.getElem?_set_ne (by decide)]; exact k1), _, _, _, _, rfl, rfl, SqL.of upd_same, rfl, ?_⟩
      refine ⟨_, (by rw [List.getElem?_set_ne (by decide)]; exact k1), _, _, _, _, rfl, rfl, SqL.of upd_same, rfl, ?_⟩
      refine ⟨_, _, _, rfl, b1, b2, by omega, by omega, e1, e2, fun r r1 r2 => ⟨_, _, rfl, rfl, ?_⟩⟩
      refine ⟨by simp [k0], by simp [k1], by simp [k2], ⟨x * 2147483587 + r, by simp [k0], by omega⟩, c' + 1, ?_, by omega⟩
      rw [upd_upd]
      rfl
    · obtain ⟨k0, k1, k2, ⟨x, k3, k4⟩, c', rfl, k5⟩ := h
      refine ⟨_, k3, .inl ⟨_, rfl, _, k2, _, _, rfl, rfl, (by show 0 < m; omega), ?_⟩⟩
      exact q _ _ (Int.emod_nonneg _ (by omega)) (Int.emod_lt_of_pos _ (by omega)) (SB.same.put (by simp)) ⟨a, b, c', e, upd_same, b1, b2, by omega, by omega, e1, e2⟩
def spPurse : Sp := fun vs H Q _ => ∃ (a : Addr) (ns : List Int) (i : Int), vs = [.ref a, .int i] ∧ SqL K H a (ns.map V.int) ∧ 0 ≤ i ∧ i ≤ 100 ∧ ∀ p H', H p = none → Same H H' → Pu H' p 1000000000 → Q (.ref p) H'
theorem ok_purse (M : Bl mg) (F : Fn K mg "_law_purse" s__law_purse) : Cal P w K mg base 1 "_law_purse" (spPurse (K := K)) [] := by
  refine F.cal sc__law_purse (fun _ _ F => FunD.bindsN F fun _ _ _ _ _ _ us hl => match us, hl with | [_, _], _ => rfl) (fun vs H Q E h => by obtain ⟨_, _, _, rfl, _⟩ := h; rfl) (fun f cdv A outer st H vs Q E hr h => ⟨_, PSs.nox ((pss_cons (ps_set (i := 2) sc__law_purse.nd rfl (Or.inl rfl) (pe_callB (sumQ (K := K) rfl rfl) (by rfl) M.sum (by decide +kernel) (pa_cons (pe_slice (slL (K := K) rfl) (pv 0) (po_some (pv 1)) (po_some (pe_op op_add (pv 1) pe_int))) pa_nil)))
  (pss_one (ps_ret (pe_lst (pa_cons (pe_op op_mod (pe_callTy call_int1 (by rfl) M.int (by decide +kernel) (pa_cons (pe_callB (call_max2 rfl) (by rfl) M.max (by decide +kernel) (pa_cons (pe_op op_sub (pv 2) (pe_op op_powW pe_int pe_int)) (pa_cons pe_int pa_nil))) pa_nil)) (pe_op op_powW (pe_op op_powW pe_int pe_int) pe_int)) (pa_cons (pe_op op_mod (pe_callTy call_int1 (by rfl) M.int (by decide +kernel) (pa_cons (pv 2) pa_nil)) pe_int) (pa_cons pe_int (pa_cons (pv 1) pa_nil))))))))), ?_⟩)
  obtain ⟨a, ns, i, rfl, hs, h1, h2, q⟩ := h
  refine ⟨_, rfl, _, rfl, _, rfl, _, rfl, _, _, rfl, rfl, _, rfl, _, _, rfl, hs, fun l hl => ?_⟩
  obtain ⟨ys, ey⟩ := cutV_map V.int ns (some i) (some (i + 1))
  rw [ey]
  refine ⟨_, ys, rfl, SqL.of upd_same, ?_⟩
  have w1 : CPowW 10 18 := ⟨by decide, by decide⟩
  have w2 : CPowW 10 60 := ⟨by decide, by decide⟩
  have w3 : CPowW (10 ^ (60 : Int).toNat) 8 := ⟨by decide, by decide⟩
  have w4 : (0 : Int) < (10 ^ (60 : Int).toNat) ^ (8 : Int).toNat := by decide
  refine ⟨_, rfl, _, _, rfl, rfl, w1, _, _, rfl, rfl, _, _, rfl, .inl ⟨_, rfl, ?_⟩⟩
  refine ⟨_, _, rfl, rfl, w2, _, _, rfl, rfl, w3, _, _, rfl, rfl, w4, ?_⟩
  generalize (10 ^ (60 : Int).toNat) ^ (8 : Int).toNat = big
  refine ⟨_, rfl, .inl ⟨_, rfl, _, _, rfl, rfl, (by show (0 : Int) < 2147483629; decide), ?_⟩⟩
  refine ⟨_, rfl, (by decide : (4 : Nat) ≤ sizeLine), fun p hp => ?_⟩
  have hpH : H p = none := by
    cases e : H p with
    | none => rfl
    | some o =>
      rw [upd_ne (ne_of_none e hl)] at hp
      rw [hp] at e
      cases e
  refine q p _ hpH (Same.new (Same.new (fun _ _ z => z) hl) hp) ⟨_, _, _, _, upd_same, Int.emod_nonneg _ (by decide), Int.lt_trans (Int.emod_lt_of_pos _ (by decide)) (by decide), by decide, by decide, h1, h2⟩
end
end K77
namespace K77
open PySem PySem.Spec PyProof.Rows C8 Ef
open L2 hiding E0 CX0 pass0 Fun
section
variable {P : Program} {w : World} {K : PySem.W.Frag} {mg : Str → Option Value} {base : Heap}
theorem sc__law_purses : FnScope ["_law_script", "_law_few", "_law_at"] ["_law_script", "_law_few"] (defScope s__law_purses) := ⟨rfl, rfl, rfl, by decide +kernel, rfl, by decide +kernel, by decide +kernel⟩
theorem sc__law_one_of : FnScope ["_law_purse_here", "_law_some"] ["_law_purse_here", "_law_some"] (defScope s__law_one_of) := ⟨rfl, rfl, rfl, by decide +kernel, rfl, by decide +kernel, by decide +kernel⟩
theorem sc__law_shuffled : FnScope ["_law_purse_here", "_law_some", "_law_found", "_law_item"] ["_law_purse_here", "_law_some"] (defScope s__law_shuffled) := ⟨rfl, rfl, rfl, by decide +kernel, rfl, by decide +kernel, by decide +kernel⟩
/-- one or two purses, each its own -/
def spPurses (K : PySem.W.Frag) : Sp := fun vs H Q _ => ∃ (a : Addr) (ns : List Int), vs = [.ref a, .int 2] ∧ SqL K H a (ns.map V.int) ∧ ns.length ≤ 63 ∧ ∀ (q : Addr) (ps : List Addr) (H' : Hp), Same H H' → H q = none → H' q = some (.lst (ps.map V.ref)) →
  ps.length ≤ 2 → (∀ p ∈ ps, Pu H' p 1000000000 ∧ H p = none) → ps.Nodup → Q (.ref q) H'
theorem ok_purses (M : Bl mg) (F : Fn K mg "_law_purses" s__law_purses) (c__law_purse : Cal P w K mg base 1 "_law_purse" (spPurse (K := K)) []) : Cal P w K mg base 2 "_law_purses" (spPurses K) [] := by
  refine F.cal sc__law_purses (fun _ _ F => FunD.bindsN F fun _ _ _ _ _ _ us hl => match us, hl with | [_, _], _ => rfl) (fun vs H Q E h => by obtain ⟨_, _, rfl, _⟩ := h; rfl) (fun f cdv A outer st H vs Q E hr h => ⟨_, PSs.nox ((pss_one (ps_ret (pe_lc rfl sc__law_purses.nd (pi_range1 (by rfl) M.range (pa_cons (pe_callB (call_max2 rfl) (by rfl) M.max (by decide +kernel) (pa_cons pe_int (pa_cons (pe_callB (call_min2 rfl) (by rfl) M.min (by decide +kernel) (pa_cons (pv 1) (pa_cons (pe_callB (lenQ (K := K) rfl) (by rfl) M.len boot_len (pa_cons (pv 0) pa_nil)) pa_nil))) pa_nil))) pa_nil)) (blkOk_by (N := ["_law_script", "_law_few", "_law_at"]) (sc := defScope s__law_purses) (own := [("_law_at", 2)]) (by decide +kernel)) (fun _ _ _ _ _ => (pg_name (i := 2) sc__law_purses.nd rfl (Or.inl rfl))) (fun _ _ _ _ _ => pts_nil) (fun _ _ _ _ _ => (pe_c c__law_purse hr (by first | decide | omega) (by rfl) (pa_cons (pv 0) (pa_cons (pv 2) pa_nil)))))))), ?_⟩)
  obtain ⟨a, ns, rfl, hs, hn, q⟩ := h
  refine ⟨_, rfl, _, rfl, _, _, rfl, .inl hs, _, _, rfl, ?_⟩
  generalize ek : (if (((ns.map V.int).length : Nat) : Int) < 2 then (((ns.map V.int).length : Nat) : Int) else 2) = k
  have hk : 0 ≤ k ∧ k ≤ 2 := by rw [← ek]; split <;> omega
  refine ⟨_, _, rfl, ?_⟩
  generalize ej : (if k > 1 then k else 1) = j
  have hj : 1 ≤ j ∧ j ≤ 2 := by rw [← ej]; split <;> omega
  refine ⟨_, rfl, by omega, by omega, fun D hD => ?_⟩
  refine lcN (S := []) hD (fun i acc H' => ∃ ps : List Addr, acc = ps.map V.ref ∧ ps.length = i ∧ (∀ p ∈ ps, Pu H' p 1000000000 ∧ H p = none ∧ p ≠ D) ∧ ps.Nodup) ⟨[], rfl, rfl, by simp, List.nodup_nil⟩ (fun i acc H1 hi sb e hl hA => ?_) (fun H1 acc sb e hl hA => ?_)
  · obtain ⟨ps, rfl, e1, e2, e3⟩ := hA
    refine ⟨rfl, _, rfl, _, rfl, _, ns, _, rfl, ((RL.of_sq hs).sb sb).sq, by omega, by omega, fun p H2 hp hs2 hpu => ?_⟩
    have hpD : p ≠ D := fun z => by rw [z, e] at hp; cases hp
    have hpH : H p = none := SB.free sb hp (by simp)
    refine Pc.put (n := j.toNat) hD hi (by have := sizeLine_eq; omega) hl (sb.trans (SB.of hs2)) (hs2 _ _ e) ⟨ps ++ [p], by simp, by simp [e1], fun x hx => ?_, ?_⟩
    · rcases List.mem_append.mp hx with hx | hx
      · obtain ⟨a1, a2, a3⟩ := e2 x hx
        exact ⟨(a1.sb (SB.of (S := []) hs2) (by simp)).other a3, a2, a3⟩
      · rw [List.mem_singleton.mp hx]
        exact ⟨hpu.other hpD, hpH, hpD⟩
    · rw [List.nodup_append]
      refine ⟨e3, by simp, fun x hx y hy => ?_⟩
      rw [List.mem_singleton.mp hy]
      rintro rfl
      obtain ⟨⟨_, _, _, _, z, _⟩, _⟩ := e2 x hx
      rw [hp] at z
      cases z
  · obtain ⟨ps, rfl, e1, e2, e3⟩ := hA
    exact q D ps H1 (SB.nil sb) hD e (by omega) (fun p hp => ⟨(e2 p hp).1, (e2 p hp).2.1⟩) e3
/-- an item, drawn -/
def spOneOf (K : PySem.W.Frag) : Sp := fun vs H Q _ => ∃ (p a : Addr) (n : Nat) (xs : List V), vs = [.ref p, .ref a] ∧ Pu H p (n + 1) ∧ RL K [p] H a xs ∧ 1 ≤ xs.length ∧ xs.length ≤ 1000 ∧ ∀ (j : Nat) v H', xs[j]? = some v → SB [p] H H' → Pu H' p n → Q v H'
theorem ok_one_of (M : Bl mg) (F : Fn K mg "_law_one_of" s__law_one_of) (c__law_draw : Cal P w K mg base 2 "_law_draw" spDraw []) : Cal P w K mg base 3 "_law_one_of" (spOneOf K) [] := by
  refine F.cal sc__law_one_of (fun _ _ F => FunD.bindsN F fun _ _ _ _ _ _ us hl => match us, hl with | [_, _], _ => rfl) (fun vs H Q E h => by obtain ⟨_, _, _, _, rfl, _⟩ := h; rfl) (fun f cdv A outer st H vs Q E hr h => ⟨_, PSs.nox ((pss_one (ps_ret (pe_ix (ixL (K := K) rfl) (pv 1) (pe_c c__law_draw hr (by first | decide | omega) (by rfl) (pa_cons (pv 0) (pa_cons (pe_callB (lenQ (K := K) rfl) (by rfl) M.len boot_len (pa_cons (pv 1) pa_nil)) pa_nil))) (fun _ _ => rfl))))), ?_⟩)
  obtain ⟨p, a, n, xs, rfl, hp, hx, h1, h2, q⟩ := h
  refine ⟨_, rfl, _, rfl, _, rfl, _, _, rfl, .inl hx.sq, _, n, _, rfl, hp, by omega, by omega, fun r H1 r1 r2 sb hpu => ?_⟩
  obtain ⟨j, rfl⟩ : ∃ j : Nat, r = (j : Int) := ⟨r.toNat, by omega⟩
  have hj : j < xs.length := by omega
  exact ⟨_, _, _, _, rfl, rfl, (hx.sb sb).sq, atI_nat (List.getElem?_eq_getElem hj), q j _ H1 (List.getElem?_eq_getElem hj) sb hpu⟩
/-- a new list of the same items -/
def spShuffled (K : PySem.W.Frag) : Sp := fun vs H Q _ => ∃ (p a : Addr) (n : Nat) (xs : List V), vs = [.ref p, .ref a] ∧ Pu H p (n + xs.length) ∧ RL K [p] H a xs ∧ xs.length ≤ 900 ∧ ∀ q ys H', H q = none → H' q = some (.lst ys) → List.Perm ys xs → SB [p] H H' → Pu H' p n → Q (.ref q) H'
theorem ok_shuffled (M : Bl mg) (F : Fn K mg "_law_shuffled" s__law_shuffled) (c__law_draw : Cal P w K mg base 2 "_law_draw" spDraw []) : Cal P w K mg base 3 "_law_shuffled" (spShuffled K) [] := by
  refine F.cal sc__law_shuffled (fun _ _ F => FunD.bindsN F fun _ _ _ _ _ _ us hl => match us, hl with | [_, _], _ => rfl) (fun vs H Q E h => by obtain ⟨_, _, _, _, rfl, _⟩ := h; rfl) (fun f cdv A outer st H vs Q E hr h => ⟨_, PSs.nox ((pss_cons (ps_set (i := 2) sc__law_shuffled.nd rfl (Or.inl rfl) (pe_lst pa_nil))
  (pss_cons (ps_for PassesOwn.never rfl (pi_listQ (K := K) rfl (pv 1)) (pg_name (i := 3) sc__law_shuffled.nd rfl (Or.inl rfl)) (pss_one (ps_expr (pe_bm PySem.F.plainAttrs_list PySem.F.slot_list_insert PySem.F.type_list_insert mt_insert (pv 2) (pa_cons (pe_c c__law_draw hr (by first | decide | omega) (by rfl) (pa_cons (pv 0) (pa_cons (pe_op op_add (pe_callB (lenQ (K := K) rfl) (by rfl) M.len boot_len (pa_cons (pv 2) pa_nil)) pe_int) pa_nil))) (pa_cons (pv 3) pa_nil))))))
  (pss_one (ps_ret (pv 2)))))), ?_⟩)
  obtain ⟨p, a, n, xs, rfl, hp, hx, h2, q⟩ := h
  refine ⟨(by decide : (0 : Nat) ≤ sizeLine), fun l hl => ?_⟩
  refine ⟨_, rfl, _, rfl, ⟨_, (hx.sb (SB.same.new hl)).sq⟩, ?_⟩
  have npl : p ≠ l := hp.ne hl
  refine for_list (xs := xs) (fun i σ H' => σ.length = 4 ∧ σ[0]? = some (some (.ref p)) ∧ σ[2]? = some (some (.ref l)) ∧ SB [p] H H' ∧ Pu H' p (n + (xs.length - i)) ∧ ∃ ys, H' l = some (.lst ys) ∧ List.Perm ys (xs.take i)) ?_ (fun i σ H' _ h => ?_) (fun i x σ H' hx' h => ?_) (fun σ H' h => ?_)
  · exact ⟨rfl, rfl, rfl, SB.same.new hl, hp.new hl, [], upd_same, by simp⟩
  · obtain ⟨_, _, _, s, _⟩ := h
    exact (hx.sb s).sq
  · obtain ⟨k0, k1, k2, s, hpu, ys, hy, pm⟩ := h
    have hi : i < xs.length := (List.getElem?_eq_some_iff.mp hx').1
    have l3 : 3 < σ.length := by omega
    have ly : ys.length = i := by rw [pm.length_eq, List.length_take]; omega
    refine ⟨.ref l, (by rw [List.getElem?_set_ne (by decide)]; exact k2), .inl ⟨rfl, _, SqL.of hy⟩, ?_⟩
    refine ⟨.ref p, (by rw [List.getElem?_set_ne (by decide)]; exact k1), .ref l, (by rw [List.getElem?_set_ne (by decide)]; exact k2), _, _, rfl, .inl (SqL.of hy), _, _, rfl, rfl, ?_⟩
    refine ⟨p, n + (xs.length - (i + 1)), _, rfl, hpu.less (by omega), by omega, by omega, fun r H1 r1 r2 sb hpu1 => ?_⟩
    obtain ⟨j, rfl⟩ : ∃ j : Nat, r = (j : Int) := ⟨r.toNat, by omega⟩
    refine ⟨x, (by simp [l3]), l, ys, _, _, rfl, rfl, sb _ _ (by simp [Ne.symm npl]) hy, by have := sizeLine_eq; omega, by omega, by omega, ?_⟩
    refine ⟨by simp [k0], by simp [k1], by simp [k2], (s.trans sb).mut hl, hpu1.other npl, _, upd_same, ?_⟩
    rw [Int.toNat_natCast]
    have e1 : xs.take (i + 1) = xs.take i ++ [x] := by
      rw [List.take_add_one, hx'] <;> rfl
    rw [e1]
    refine List.Perm.trans ?_ (List.Perm.append_right _ pm)
    have e2 : (ys.take j ++ [x] ++ ys.drop j).Perm (ys.take j ++ (ys.drop j ++ [x])) := by
      rw [List.append_assoc]
      exact List.Perm.append_left _ List.perm_append_comm
    refine e2.trans ?_
    rw [← List.append_assoc, List.take_append_drop]
  · obtain ⟨k0, k1, k2, s, hpu, ys, hy, pm⟩ := h
    refine ⟨_, k2, q l ys H' hl hy ?_ s (hpu.less (by omega))⟩
    rw [List.take_length] at pm
    exact pm
end
end K77
namespace K77
open PySem PySem.Spec PyProof.Rows C8 Ef
open L2 hiding E0 CX0 pass0 Fun
section
variable {P : Program} {w : World} {K : PySem.W.Frag} {mg : Str → Option Value} {base : Heap}
theorem sc__law_same : FnScope ["_law_thing", "_law_key", "_law_item"] ["_law_thing"] (defScope s__law_same) := ⟨rfl, rfl, rfl, by decide +kernel, rfl, by decide +kernel, by decide +kernel⟩
theorem sc__law_exact : FnScope ["_law_mine", "_law_theirs", "_law_alike", "_law_a", "_law_b", "_law_key"] ["_law_mine", "_law_theirs"] (defScope s__law_exact) := ⟨rfl, rfl, rfl, by decide +kernel, rfl, by decide +kernel, by decide +kernel⟩
def spSame (K : PySem.W.Frag) (n : Nat) : Sp := fun vs H Q _ => ∃ d v, vs = [v] ∧ Rp K [] H d v ∧ Dep n d ∧ ∀ v' H', Same H H' → Fr H H' d v' → Q v' H'
theorem lock_back {H H1 : Hp} {a : Addr} {u : HO} {o : Obj} (hx : H a = some u) (sb : SB [] (upd H a (.frz o u)) H1) : SB [] H (upd H1 a u) := fun b v n e => by
  by_cases z : b = a
  · rw [z, upd_same, ← hx, ← e, z]
  · rw [upd_ne z]
    exact sb b v n (by rw [upd_ne z]; exact e)
def SameA (H : Hp) (D : Addr) (ds : List PyData) (i : Nat) (acc : List V) (H' : Hp) : Prop := FrL (upd H D (.lst [])) H' (ds.take i) acc ∧ ∀ (i j : Nat) b, acc[i]? = some (.ref b) → acc[j]? = some (.ref b) → i = j
theorem sameA_step {H H1 H2 : Hp} {D : Addr} {ds : List PyData} {i : Nat} {acc : List V} {di : PyData} {v' : V} (hD : H D = none) (sb : SB [] H H1) (e : H1 D = some (.lst acc)) (hA : SameA H D ds i acc H1) (hdi : ds[i]? = some di) (s2 : Same H1 H2) (fr : Ef.Fr H1 H2 di v') :
    SameA H D ds (i + 1) (acc ++ [v']) (upd H2 D (.lst (acc ++ [v']))) := by
  obtain ⟨hf, inj⟩ := hA
  have kn : ∀ b, v' = .ref b → H1 b = none ∧ b ≠ D := fun b eb => by
    subst eb
    have h1 := fr.fresh.1
    exact ⟨h1, fun z => by rw [z, e] at h1; cases h1⟩
  have ac : ∀ (j : Nat) b, acc[j]? = some (.ref b) → ∃ o, H1 b = some o := fun j b ej => by
    obtain ⟨dj, _, fj⟩ := hf.get' ej
    exact fj.fresh.2
  refine ⟨?_, fun i1 j1 b e1 e2 => ?_⟩
  · have e1 : ds.take (i + 1) = ds.take i ++ [di] := by rw [List.take_add_one, hdi] <;> rfl
    rw [e1]
    refine FrL.snoc (FrL.map (fun a h => h) (fun a o h1 h2 => ?_) _ _ hf) (Fr.map (fun a h => ?_) (fun a o h1 h2 => ?_) _ _ fr)
    · have : a ≠ D := fun z => by rw [z, upd_same] at h1; cases h1
      rw [upd_ne this]
      exact s2 _ _ h2
    · have : a ≠ D := fun z => by rw [z, e] at h; cases h
      rw [upd_ne this]
      exact SB.free sb h (by simp)
    · have : a ≠ D := fun z => by rw [z, e] at h1; cases h1
      rw [upd_ne this]
      exact h2
  · rcases Nat.lt_trichotomy i1 acc.length with l1 | l1 | l1 <;> rcases Nat.lt_trichotomy j1 acc.length with l2 | l2 | l2
    · rw [List.getElem?_append_left l1] at e1
      rw [List.getElem?_append_left l2] at e2
      exact inj i1 j1 b e1 e2
    · rw [List.getElem?_append_left l1] at e1
      rw [l2] at e2
      simp at e2
      obtain ⟨o, z⟩ := ac _ _ e1
      rw [(kn b e2).1] at z
      cases z
    · rw [List.getElem?_eq_none (by simp; omega)] at e2
      cases e2
    · rw [List.getElem?_append_left l2] at e2
      rw [l1] at e1
      simp at e1
      obtain ⟨o, z⟩ := ac _ _ e2
      rw [(kn b e1).1] at z
      cases z
    · omega
    · rw [List.getElem?_eq_none (by simp; omega)] at e2
      cases e2
    · rw [List.getElem?_eq_none (by simp; omega)] at e1
      cases e1
    · rw [List.getElem?_eq_none (by simp; omega)] at e1
      cases e1
    · rw [List.getElem?_eq_none (by simp; omega)] at e1
      cases e1
theorem sameA_end {H H1 : Hp} {D : Addr} {ds : List PyData} {acc : List V} (hD : H D = none) (hA : SameA H D ds ds.length acc H1) : FrL H H1 ds acc := by
  obtain ⟨hf, _⟩ := hA
  rw [List.take_length] at hf
  refine FrL.map (fun a h => ?_) (fun a o _ h => h) _ _ hf
  by_cases z : a = D
  · rw [z]; exact hD
  · rw [upd_ne z] at h; exact h
theorem same_step (M : Bl mg) (F : Fn K mg "_law_same" s__law_same) {n : Nat} {sp : Sp} (hsp : ∀ m, m + 1 = n → sp = spSame K m) (c__law_same : Cal P w K mg base n "_law_same" sp []) : Cal P w K mg base (n + 1) "_law_same" (spSame K n) [] := by
  refine F.cal sc__law_same (fun _ _ F => FunD.bindsN F fun _ _ _ _ _ _ us hl => match us, hl with | [_], _ => rfl) (fun vs H Q E h => by obtain ⟨_, _, rfl, _⟩ := h; rfl) (fun f cdv A outer st H vs Q E hr h => ⟨_, PSs.nox ((pss_cons (ps_if (pt_val (pe_callB (isiQ (K := K) rfl) (by rfl) M.isinstance (by decide +kernel) (pa_cons (pv 0) (pa_cons (pe_bltn (v := .ty "dict") (by rfl) M.dict (by decide +kernel) rfl) pa_nil)))) (pss_one (ps_ret (pe_callTy (call_dictP rfl) (by rfl) M.dict (by decide +kernel) (pa_cons (pe_lock (pe_lc rfl sc__law_same.nd (pi_keys (pv 0)) (blkOk_by (N := ["_law_thing", "_law_key", "_law_item"]) (sc := defScope s__law_same) (own := [("_law_key", 1)]) (by decide +kernel)) (fun _ _ _ _ _ => (pg_name (i := 1) sc__law_same.nd rfl (Or.inl rfl))) (fun _ _ _ _ _ => pts_nil) (fun _ _ _ _ _ => (pe_tup (pa_cons (pv 1) (pa_cons (pe_c c__law_same hr (by first | decide | omega) (by rfl) (pa_cons (pe_ix (ixL (K := K) rfl) (pv 0) (pv 1) (fun _ _ => rfl)) pa_nil)) pa_nil)))))) pa_nil)))) pss_nil)
  (pss_cons (ps_if (pt_val (pe_callB (isiQ (K := K) rfl) (by rfl) M.isinstance (by decide +kernel) (pa_cons (pv 0) (pa_cons (pe_bltn (v := .ty "list") (by rfl) M.list (by decide +kernel) rfl) pa_nil)))) (pss_one (ps_ret (pe_lc rfl sc__law_same.nd (pi_bothQ (K := K) rfl (pv 0)) (blkOk_by (N := ["_law_thing", "_law_key", "_law_item"]) (sc := defScope s__law_same) (own := [("_law_item", 2)]) (by decide +kernel)) (fun _ _ _ _ _ => (pg_name (i := 2) sc__law_same.nd rfl (Or.inl rfl))) (fun _ _ _ _ _ => pts_nil) (fun _ _ _ _ _ => (pe_c c__law_same hr (by first | decide | omega) (by rfl) (pa_cons (pv 2) pa_nil)))))) pss_nil)
  (pss_one (ps_ret (pe_ifExp (pt_val (pe_callB (isiQ (K := K) rfl) (by rfl) M.isinstance (by decide +kernel) (pa_cons (pv 0) (pa_cons (pe_bltn (v := .ty "tuple") (by rfl) M.tuple (by decide +kernel) rfl) pa_nil)))) (pe_callTy (tupleQ (K := K) rfl) (by rfl) M.tuple (by decide +kernel) (pa_cons (pe_lc rfl sc__law_same.nd (pi_bothQ (K := K) rfl (pv 0)) (blkOk_by (N := ["_law_thing", "_law_key", "_law_item"]) (sc := defScope s__law_same) (own := [("_law_item", 2)]) (by decide +kernel)) (fun _ _ _ _ _ => (pg_name (i := 2) sc__law_same.nd rfl (Or.inl rfl))) (fun _ _ _ _ _ => pts_nil) (fun _ _ _ _ _ => (pe_c c__law_same hr (by first | decide | omega) (by rfl) (pa_cons (pv 2) pa_nil)))) pa_nil)) (pv 0))))))), ?_⟩)
  obtain ⟨d, v, rfl, hd, dep, q⟩ := h
  refine ⟨_, rfl, _, _, _, _, _, rfl, .ty _, rp_ty hd, kit_dct d, _, rfl, ifB (fun hnd => ?_) (fun hnd => ?_)⟩
  · obtain ⟨kvs, rfl⟩ : ∃ kvs, d = .dict kvs := by cases d <;> first | exact ⟨_, rfl⟩ | cases hnd
    obtain ⟨rfl, a, rfl, _, hx⟩ := hd
    refine ⟨a, _, hx, True.intro, fun od => ⟨_, rfl, a, od, rfl, .inl ⟨[], upd_same, fun D hD => ?_⟩⟩⟩
    refine lcG (S := []) (n := 0) hD (fun _ acc _ => acc = []) rfl (fun i H1 hi sb => by omega) (fun H1 sb => ⟨sb _ _ (by simp) upd_same, Nat.le_refl _⟩) (fun i acc H1 x H1' hi sb e hl hA hy => by omega) (fun H1 acc sb e hl hA => ?_)
    subst hA
    have bk : SB [] H (upd H1 a (.dK [])) := lock_back hx sb
    have nDa : D ≠ a := fun z => by rw [z, upd_same] at hD; cases hD
    refine ⟨sb _ _ (by simp) upd_same, D, [], [], rfl, SqL.of (by rw [upd_ne nDa]; exact e), .nil, fun p hp => ?_⟩
    exact q _ _ (SB.nil (bk.new hp)) ⟨rfl, p, rfl, SB.free bk hp (by simp), upd_same⟩
  refine ⟨_, rfl, _, _, _, _, _, rfl, .ty _, rp_ty hd, kit_list d, _, rfl, ?_⟩
  cases hl : isList d with
  | true =>
    obtain ⟨ds, rfl⟩ : ∃ ds, d = .list ds := by cases d <;> first | exact ⟨_, rfl⟩ | cases hl
    obtain ⟨a, xs, rfl, hx, hxs⟩ := hd
    obtain ⟨m, rfl, dw, dl⟩ := dep
    have e := hsp m rfl
    subst e
    refine ifT rfl (.inl ⟨_, rfl, a, rfl, ⟨_, hx.sq⟩, fun D hD => ?_⟩)
    have el : xs.length = ds.length := hxs.len
    refine lcR (S := []) hx hD (SameA H D ds) ⟨rfl, fun i j b e => by simp at e⟩ (fun i x acc H1 hxi sb e hl hA => ?_) (fun H1 acc sb e hl hA => ?_)
    · obtain ⟨di, hdi, rdi⟩ := hxs.get' hxi
      refine ⟨rfl, x, rfl, di, x, rfl, rdi.sb sb, dl.at hdi, fun v' H2 s2 fr => ?_⟩
      exact Pc.put (n := xs.length) hD (List.getElem?_eq_some_iff.mp hxi).1 (by have := sizeLine_eq; omega) hl (sb.trans (SB.of s2)) (s2 _ _ e) (sameA_step hD sb e hA hdi s2 fr)
    · rw [el] at hA
      exact q _ _ (SB.nil sb) ⟨D, acc, rfl, hD, e, sameA_end hD hA, hA.2⟩
  | false =>
    refine ifN rfl ⟨_, rfl, _, _, _, _, _, rfl, .ty _, rp_ty hd, kit_tup d, _, rfl, ?_⟩
    cases ht : isTup d with
    | false =>
      refine ifN rfl ⟨_, rfl, q _ _ (fun _ _ z => z) ?_⟩
      cases d <;> first | exact hd | exact Bool.noConfusion hl | exact Bool.noConfusion ht | exact Bool.noConfusion hnd
    | true =>
      obtain ⟨ds, rfl⟩ : ∃ ds, d = .tuple ds := by cases d <;> first | exact ⟨_, rfl⟩ | cases ht
      obtain ⟨a, xs, rfl, hx, hxs⟩ := hd
      obtain ⟨m, rfl, dw, dl⟩ := dep
      have e := hsp m rfl
      subst e
      have el : xs.length = ds.length := hxs.len
      refine ifT rfl (.inr ⟨_, rfl, a, rfl, ⟨_, hx.sq⟩, fun D hD => ?_⟩)
      refine lcG (S := []) (n := xs.length) hD (SameA H D ds) ⟨rfl, fun i j b e => by simp at e⟩ (fun i H1 hi sb => ⟨xs, _, (hx.sb sb).sq, List.getElem?_eq_getElem hi⟩) (fun H1 sb => ⟨xs, (hx.sb sb).sq, Nat.le_refl _⟩) (fun i acc H1 x H1' hi sb e hl hA hy => ?_) (fun H1 acc sb e hl hA => ?_)
      · obtain ⟨rfl, hy⟩ := hy
        obtain ⟨di, hdi, rdi⟩ := hxs.get' (hy xs (hx.sb sb).sq)
        refine ⟨rfl, x, rfl, di, x, rfl, rdi.sb sb, dl.at hdi, fun v' H2 s2 fr => ?_⟩
        exact Pc.put (n := xs.length) hD hi (by have := sizeLine_eq; omega) hl (sb.trans (SB.of s2)) (s2 _ _ e) (sameA_step hD sb e hA hdi s2 fr)
      · rw [el] at hA
        refine ⟨_, acc, rfl, .inl ⟨SqL.of e, fun l hl' => ?_⟩⟩
        have hlH : H l = none := SB.free sb hl' (by simp)
        refine q _ _ (Same.new (SB.nil sb) hl') ⟨l, acc, rfl, hlH, upd_same, FrL.map (fun a h => h) (fun a o _ h => ?_) _ _ (sameA_end hD hA)⟩
        rw [upd_ne (ne_of_none h hl')]
        exact h
/-- by depth -/
theorem ok_same (M : Bl mg) (F : Fn K mg "_law_same" s__law_same) : ∀ n, Cal P w K mg base (n + 1) "_law_same" (spSame K n) []
  | 0 => same_step M F (fun m e => by omega) (F.never (ps := ["_law_thing"]) (fun _ _ F => FunD.bindsN F fun _ _ _ _ _ _ us hl => match us, hl with | [_], _ => rfl))
  | n + 1 => same_step M F (fun m e => by cases e; rfl) (ok_same M F n)
/-- equal data -/
def spExact (K : PySem.W.Frag) (n : Nat) : Sp := fun vs H Q _ => ∃ d x y, vs = [x, y] ∧ Rp K [] H d x ∧ Rp K [] H d y ∧ Dep n d ∧ ∀ H', Same H H' → Q (.bl true) H'
theorem exact_step (M : Bl mg) (F : Fn K mg "_law_exact" s__law_exact) {n : Nat} {sp : Sp} (hsp : ∀ m, m + 1 = n → sp = spExact K m) (c__law_exact : Cal P w K mg base n "_law_exact" sp []) : Cal P w K mg base (n + 1) "_law_exact" (spExact K n) [] := by
  refine F.cal sc__law_exact (fun _ _ F => FunD.bindsN F fun _ _ _ _ _ _ us hl => match us, hl with | [_, _], _ => rfl) (fun vs H Q E h => by obtain ⟨_, _, _, rfl, _⟩ := h; rfl) (fun f cdv A outer st H vs Q E hr h => ⟨_, PSs.nox ((pss_cons (ps_if (pt_val (pe_callB (isiTQ (K := K) rfl) (by rfl) M.isinstance (by decide +kernel) (pa_cons (pv 0) (pa_cons (pe_tup (pa_cons (pe_bltn (v := .ty "list") (by rfl) M.list (by decide +kernel) rfl) (pa_cons (pe_bltn (v := .ty "tuple") (by rfl) M.tuple (by decide +kernel) rfl) pa_nil))) pa_nil)))) (pss_cons (ps_set (i := 2) sc__law_exact.nd rfl (Or.inl rfl) (pe_and (pe_cmpR op_eq (pe_callB (isiQ (K := K) rfl) (by rfl) M.isinstance (by decide +kernel) (pa_cons (pv 1) (pa_cons (pe_bltn (v := .ty "list") (by rfl) M.list (by decide +kernel) rfl) pa_nil))) (pe_callB (isiQ (K := K) rfl) (by rfl) M.isinstance (by decide +kernel) (pa_cons (pv 0) (pa_cons (pe_bltn (v := .ty "list") (by rfl) M.list (by decide +kernel) rfl) pa_nil))) (nomark _)) (pe_one (pe_cmpR op_eq (pe_callB (isiQ (K := K) rfl) (by rfl) M.isinstance (by decide +kernel) (pa_cons (pv 1) (pa_cons (pe_bltn (v := .ty "tuple") (by rfl) M.tuple (by decide +kernel) rfl) pa_nil))) (pe_callB (isiQ (K := K) rfl) (by rfl) M.isinstance (by decide +kernel) (pa_cons (pv 0) (pa_cons (pe_bltn (v := .ty "tuple") (by rfl) M.tuple (by decide +kernel) rfl) pa_nil))) (nomark _)))))
  (pss_one (ps_ret (pe_and (pv 2) (pe_and (pe_cmpR op_eq (pe_callB (lenQ (K := K) rfl) (by rfl) M.len boot_len (pa_cons (pv 0) pa_nil)) (pe_callB (lenQ (K := K) rfl) (by rfl) M.len boot_len (pa_cons (pv 1) pa_nil)) (nomark _)) (pe_one (pe_callB (allQ (K := K) rfl rfl) (by rfl) M.all (by decide +kernel) (pa_cons (pe_lc rfl sc__law_exact.nd (RZ.pi_zipA (by rfl) M.zip (pa_cons (pv 0) (pa_cons (pv 1) pa_nil))) (blkOk_by (N := ["_law_mine", "_law_theirs", "_law_alike", "_law_a", "_law_b", "_law_key"]) (sc := defScope s__law_exact) (own := [("_law_a", 3), ("_law_b", 4)]) (by decide +kernel)) (fun _ _ _ _ _ => (pg_tupQ (K := K) (n := 2) rfl rfl (pgs_cons (pg_name (i := 3) sc__law_exact.nd rfl (Or.inl rfl)) (pgs_cons (pg_name (i := 4) sc__law_exact.nd rfl (Or.inl rfl)) pgs_nil)))) (fun _ _ _ _ _ => pts_nil) (fun _ _ _ _ _ => (pe_c c__law_exact hr (by first | decide | omega) (by rfl) (pa_cons (pv 3) (pa_cons (pv 4) pa_nil))))) pa_nil)))))))) pss_nil)
  (pss_cons (ps_if (pt_val (pe_callB (isiQ (K := K) rfl) (by rfl) M.isinstance (by decide +kernel) (pa_cons (pv 0) (pa_cons (pe_bltn (v := .ty "dict") (by rfl) M.dict (by decide +kernel) rfl) pa_nil)))) (pss_cons (ps_set (i := 2) sc__law_exact.nd rfl (Or.inl rfl) (pe_and (pe_callB (isiQ (K := K) rfl) (by rfl) M.isinstance (by decide +kernel) (pa_cons (pv 1) (pa_cons (pe_bltn (v := .ty "dict") (by rfl) M.dict (by decide +kernel) rfl) pa_nil))) (pe_one (pe_c c__law_exact hr (by first | decide | omega) (by rfl) (pa_cons (pe_callTy (call_list_dK rfl) (by rfl) M.list (by decide +kernel) (pa_cons (pv 0) pa_nil)) (pa_cons (pe_callTy (call_list_dK rfl) (by rfl) M.list (by decide +kernel) (pa_cons (pv 1) pa_nil)) pa_nil))))))
  (pss_one (ps_ret (pe_and (pv 2) (pe_one (pe_callB (allQ (K := K) rfl rfl) (by rfl) M.all (by decide +kernel) (pa_cons (pe_lock (pe_lc rfl sc__law_exact.nd (pi_keys (pv 0)) (blkOk_by (N := ["_law_mine", "_law_theirs", "_law_alike", "_law_a", "_law_b", "_law_key"]) (sc := defScope s__law_exact) (own := [("_law_key", 5)]) (by decide +kernel)) (fun _ _ _ _ _ => (pg_name (i := 5) sc__law_exact.nd rfl (Or.inl rfl))) (fun _ _ _ _ _ => pts_nil) (fun _ _ _ _ _ => (pe_c c__law_exact hr (by first | decide | omega) (by rfl) (pa_cons (pe_ix (ixL (K := K) rfl) (pv 0) (pv 5) (fun _ _ => rfl)) (pa_cons (pe_ix (ixL (K := K) rfl) (pv 1) (pv 5) (fun _ _ => rfl)) pa_nil)))))) pa_nil))))))) pss_nil)
  (pss_cons (ps_set (i := 2) sc__law_exact.nd rfl (Or.inl rfl) (pe_cmpR op_eq (pe_callB (isiQ (K := K) rfl) (by rfl) M.isinstance (by decide +kernel) (pa_cons (pv 0) (pa_cons (pe_bltn (v := .ty "int") (by rfl) M.int (by decide +kernel) rfl) pa_nil))) (pe_callB (isiQ (K := K) rfl) (by rfl) M.isinstance (by decide +kernel) (pa_cons (pv 1) (pa_cons (pe_bltn (v := .ty "int") (by rfl) M.int (by decide +kernel) rfl) pa_nil))) (nomark _)))
  (pss_one (ps_ret (pe_and (pv 2) (pe_and (pe_cmpR op_eq (pe_callB (isiQ (K := K) rfl) (by rfl) M.isinstance (by decide +kernel) (pa_cons (pv 0) (pa_cons (pe_bltn (v := .ty "bool") (by rfl) M.bool (by decide +kernel) rfl) pa_nil))) (pe_callB (isiQ (K := K) rfl) (by rfl) M.isinstance (by decide +kernel) (pa_cons (pv 1) (pa_cons (pe_bltn (v := .ty "bool") (by rfl) M.bool (by decide +kernel) rfl) pa_nil))) (nomark _)) (pe_one (pe_cmpR op_eq (pv 0) (pv 1) (nomark _))))))))))), ?_⟩)
  obtain ⟨d, x, y, rfl, hx, hy, dep, q⟩ := h
  refine ⟨_, rfl, (by decide : (2 : Nat) ≤ sizeLine), fun tp htp => ?_⟩
  have nw : SB [] H (upd H tp (.tup [.ty "list", .ty "tuple"])) := SB.same.new htp
  generalize eH1 : upd H tp (.tup [.ty "list", .ty "tuple"]) = H1 at nw
  have hT : H1 tp = some (.tup [.ty "list", .ty "tuple"]) := by rw [← eH1]; exact upd_same
  have hx1 := hx.sb nw
  have hy1 := hy.sb nw
  refine ⟨_, tp, _, _, _, _, rfl, hT, .cons (.ty _) (.cons (.ty _) .nil), rp_ty hx1, kit_lt d, _, rfl, ?_⟩
  have eq1 : ∀ b : Bool, decide (V.bl b = V.bl b) = true := fun b => decide_eq_true rfl
  refine ifB (fun hlt => ?_) (fun hlt => ?_)
  · -- a list or a tuple
    refine ⟨_, rfl, _, _, _, _, _, rfl, .ty _, rp_ty hy1, kit_list d, _, rfl, _, _, _, _, _, rfl, .ty _, rp_ty hx1, kit_list d, rfl, _, rfl, ifT (eq1 _) ?_⟩
    refine ⟨_, rfl, _, _, _, _, _, rfl, .ty _, rp_ty hy1, kit_tup d, _, rfl, _, _, _, _, _, rfl, .ty _, rp_ty hx1, kit_tup d, rfl, ?_⟩
    rw [eq1]
    refine ⟨_, rfl, _, rfl, ifT rfl ?_⟩
    cases hl : isList d with
    | true =>
      obtain ⟨ds, rfl⟩ : ∃ ds, d = .list ds := by cases d <;> first | exact ⟨_, rfl⟩ | exact Bool.noConfusion hl
      obtain ⟨a, xs, rfl, ha, hxs⟩ := hx1
      obtain ⟨b, ys, rfl, hb, hys⟩ := hy1
      obtain ⟨m, rfl, dw, dl⟩ := dep
      have e := hsp m rfl
      subst e
      have e1 : xs.length = ds.length := hxs.len
      have e2 : ys.length = ds.length := hys.len
      refine ⟨_, rfl, _, _, rfl, .inl ha.sq, _, rfl, _, _, rfl, .inl hb.sq, rfl, _, rfl, ifT (decide_eq_true (by rw [e1, e2])) ?_⟩
      refine ⟨_, rfl, _, rfl, _, _, _, _, rfl, .inl ⟨ha.sq, hb.sq, fun D hD => ?_⟩⟩
      refine lcG (S := []) (n := ds.length) hD (fun i acc _ => acc = (List.replicate i true).map V.bl) rfl (fun i G hi sb => ⟨xs, ys, _, _, (ha.sb sb).sq, (hb.sb sb).sq, List.getElem?_eq_getElem (by omega), List.getElem?_eq_getElem (by omega)⟩) (fun G sb => ⟨xs, ys, (ha.sb sb).sq, (hb.sb sb).sq, .inl (by omega)⟩) (fun i acc G z G' hi sb e hl2 hA hyl => ?_) (fun G acc sb e hl2 hA => ?_)
      · obtain ⟨T, u, v, rfl, hT, rfl, f1, f2⟩ := hyl
        obtain ⟨di, hdi, rdi⟩ := hxs.get' (f1 xs (ha.sb sb).sq)
        obtain ⟨dj, hdj, rdj⟩ := hys.get' (f2 ys (hb.sb sb).sq)
        rw [hdi] at hdj
        cases hdj
        have sbT := sb.new (o := .tup [u, v]) hT
        have nTD : D ≠ T := ne_of_none e hT
        refine ⟨_, _, rfl, SqT.of upd_same, rfl, _, _, rfl, _, _, rfl, rfl, rfl, _, rfl, _, rfl, di, u, v, rfl, rdi.sb sbT, rdj.sb sbT, dl.at hdi, fun G2 s2 => ?_⟩
        refine Pc.put (n := ds.length) hD hi (by have := sizeLine_eq; omega) hl2 (sbT.trans (SB.of s2)) (s2 _ _ (by rw [upd_ne nTD]; exact e)) ?_
        rw [hA, List.replicate_succ', List.map_append] <;> rfl
      · refine ⟨_, List.replicate ds.length true, rfl, SqL.of (by rw [e, hA]), ?_⟩
        have : (List.replicate ds.length true).all id = true := by simp
        rw [this]
        exact q _ (SB.nil (nw.trans sb))
    | false =>
      have htt : isTup d = true := by rw [hl] at hlt; exact hlt
      obtain ⟨ds, rfl⟩ : ∃ ds, d = .tuple ds := by cases d <;> first | exact ⟨_, rfl⟩ | exact Bool.noConfusion htt
      obtain ⟨a, xs, rfl, ha, hxs⟩ := hx1
      obtain ⟨b, ys, rfl, hb, hys⟩ := hy1
      obtain ⟨m, rfl, dw, dl⟩ := dep
      have e := hsp m rfl
      subst e
      have e1 : xs.length = ds.length := hxs.len
      have e2 : ys.length = ds.length := hys.len
      refine ⟨_, rfl, _, _, rfl, .inr ha.sq, _, rfl, _, _, rfl, .inr hb.sq, rfl, _, rfl, ifT (decide_eq_true (by rw [e1, e2])) ?_⟩
      refine ⟨_, rfl, _, rfl, _, _, _, _, rfl, .inr ⟨ha.sq, hb.sq, fun D hD => ?_⟩⟩
      refine lcG (S := []) (n := ds.length) hD (fun i acc _ => acc = (List.replicate i true).map V.bl) rfl (fun i G hi sb => ⟨xs, ys, _, _, (ha.sb sb).sq, (hb.sb sb).sq, List.getElem?_eq_getElem (by omega), List.getElem?_eq_getElem (by omega)⟩) (fun G sb => ⟨xs, ys, (ha.sb sb).sq, (hb.sb sb).sq, .inl (by omega)⟩) (fun i acc G z G' hi sb e hl2 hA hyl => ?_) (fun G acc sb e hl2 hA => ?_)
      · obtain ⟨T, u, v, rfl, hT, rfl, f1, f2⟩ := hyl
        obtain ⟨di, hdi, rdi⟩ := hxs.get' (f1 xs (ha.sb sb).sq)
        obtain ⟨dj, hdj, rdj⟩ := hys.get' (f2 ys (hb.sb sb).sq)
        rw [hdi] at hdj
        cases hdj
        have sbT := sb.new (o := .tup [u, v]) hT
        have nTD : D ≠ T := ne_of_none e hT
        refine ⟨_, _, rfl, SqT.of upd_same, rfl, _, _, rfl, _, _, rfl, rfl, rfl, _, rfl, _, rfl, di, u, v, rfl, rdi.sb sbT, rdj.sb sbT, dl.at hdi, fun G2 s2 => ?_⟩
        refine Pc.put (n := ds.length) hD hi (by have := sizeLine_eq; omega) hl2 (sbT.trans (SB.of s2)) (s2 _ _ (by rw [upd_ne nTD]; exact e)) ?_
        rw [hA, List.replicate_succ', List.map_append] <;> rfl
      · refine ⟨_, List.replicate ds.length true, rfl, SqL.of (by rw [e, hA]), ?_⟩
        have : (List.replicate ds.length true).all id = true := by simp
        rw [this]
        exact q _ (SB.nil (nw.trans sb))
  · -- flat
    refine ⟨_, rfl, _, _, _, _, _, rfl, .ty _, rp_ty hx1, kit_dct d, _, rfl, ifB (fun hnd => ?_) (fun hnd => ?_)⟩
    · obtain ⟨kvs, rfl⟩ : ∃ kvs, d = .dict kvs := by cases d <;> first | exact ⟨_, rfl⟩ | cases hnd
      obtain ⟨rfl, a, rfl, _, ha⟩ := hx1
      obtain ⟨_, b, rfl, _, hb⟩ := id hy1
      obtain ⟨m, rfl, _⟩ := dep
      have e := hsp (m + 1) rfl
      subst e
      refine ⟨_, rfl, _, _, _, _, _, rfl, .ty _, rp_ty hy1, kit_dct (.dict []), _, rfl, ifT rfl ?_⟩
      refine ⟨_, rfl, a, [], rfl, ha, fun p1 h1 => ?_⟩
      have s1 := (SB.same (S := [])).new (o := .lst []) h1
      refine ⟨_, rfl, b, [], rfl, s1 _ _ (by simp) hb, fun p2 h2 => ?_⟩
      have s2 := (SB.same (S := [])).new (o := .lst []) h2
      have e1 : upd (upd H1 p1 (.lst [])) p2 (.lst []) p1 = some (.lst []) := s2 _ _ (by simp) upd_same
      refine ⟨.list [], .ref p1, .ref p2, rfl, ⟨p1, [], rfl, RL.at e1 (by simp), rfl⟩, ⟨p2, [], rfl, RL.at upd_same (by simp), rfl⟩, ⟨m, rfl, Nat.zero_le _, True.intro⟩, fun H4 s4 => ?_⟩
      have s4' := (nw.trans ((SB.same (S := [])).new (o := .lst []) h1)).trans ((SB.same (S := [])).new (o := .lst []) h2)
      have s5 := s4'.trans (SB.of s4)
      have ha4 : H4 a = some (.dK []) := s4 _ _ (s2 _ _ (by simp) (s1 _ _ (by simp) ha))
      refine ⟨_, rfl, _, rfl, ifT rfl ⟨a, _, ha4, True.intro, fun od => ⟨_, rfl, a, od, rfl, .inl ⟨[], upd_same, fun D hD => ?_⟩⟩⟩⟩
      refine lcG (S := []) (n := 0) hD (fun _ acc _ => acc = []) rfl (fun i G hi sb => by omega) (fun G sb => ⟨sb _ _ (by simp) upd_same, Nat.le_refl _⟩) (fun i acc G z G' hi sb e hl2 hA hyl => by omega) (fun G acc sb e hl2 hA => ?_)
      subst hA
      have bk : SB [] H4 (upd G a (.dK [])) := lock_back ha4 sb
      have nDa : D ≠ a := fun z => by rw [z, upd_same] at hD; cases hD
      refine ⟨sb _ _ (by simp) upd_same, _, [], rfl, SqL.of (by rw [upd_ne nDa]; exact e), ?_⟩
      exact q _ (SB.nil (s5.trans bk))
    refine ⟨_, rfl, _, _, _, _, _, rfl, .ty _, rp_ty hx1, kit_int d, _, rfl, _, _, _, _, _, rfl, .ty _, rp_ty hy1, kit_int d, rfl, ?_⟩
    rw [eq1]
    refine ⟨_, rfl, _, rfl, ifT rfl ?_⟩
    refine ⟨_, rfl, _, _, _, _, _, rfl, .ty _, rp_ty hx1, kit_bl d, _, rfl, _, _, _, _, _, rfl, .ty _, rp_ty hy1, kit_bl d, rfl, _, rfl, ifT (eq1 _) ?_⟩
    have hxy : x = y ∧ scal x x = true := by
      cases d with
      | none => cases (show x = V.non from hx); cases (show y = V.non from hy); exact ⟨rfl, rfl⟩
      | bool b => cases (show x = V.bl b from hx); cases (show y = V.bl b from hy); exact ⟨rfl, rfl⟩
      | int b => cases (show x = V.int b from hx); cases (show y = V.int b from hy); exact ⟨rfl, rfl⟩
      | str b => cases (show x = V.str b from hx); cases (show y = V.str b from hy); exact ⟨rfl, rfl⟩
      | list ds => exact Bool.noConfusion hlt
      | tuple ds => exact Bool.noConfusion hlt
      | dict ds => exact Bool.noConfusion hnd
    obtain ⟨rfl, hs⟩ := hxy
    refine ⟨_, rfl, _, rfl, hs, ?_⟩
    rw [decide_eq_true rfl]
    exact q _ (SB.nil nw)
theorem ok_exact (M : Bl mg) (F : Fn K mg "_law_exact" s__law_exact) : ∀ n, Cal P w K mg base (n + 1) "_law_exact" (spExact K n) []
  | 0 => exact_step M F (fun m e => by omega) (F.never (ps := ["_law_mine", "_law_theirs"]) (fun _ _ F => FunD.bindsN F fun _ _ _ _ _ _ us hl => match us, hl with | [_, _], _ => rfl))
  | n + 1 => exact_step M F (fun m e => by cases e; rfl) (ok_exact M F n)
end
end K77
namespace K77
open PySem PySem.Spec PyProof.Rows C8 Ef
open L2 hiding E0 CX0 pass0 Fun
section
variable {P : Program} {w : World} {K : PySem.W.Frag} {mg : Str → Option Value} {base : Heap}
theorem sc__law_word : FnScope ["_law_purse_here", "_law_size", "_law_turn"] ["_law_purse_here"] (defScope s__law_word) := ⟨rfl, rfl, rfl, by decide +kernel, rfl, by decide +kernel, by decide +kernel⟩
theorem sc__law_words : FnScope ["_law_purse_here", "_law_many", "_law_base", "_law_near", "_law_spot", "_law_found", "_law_turn", "_law_word_here", "_law_letter"] ["_law_purse_here", "_law_many"] (defScope s__law_words) := ⟨rfl, rfl, rfl, by decide +kernel, rfl, by decide +kernel, by decide +kernel⟩
def spWord : Sp := fun vs H Q _ => ∃ p n, vs = [.ref p] ∧ Pu H p (n + 12) ∧ ∀ (x : Str) H', WordOk x → SB [p] H H' → Pu H' p n → Q (.str x) H'
theorem ok_word (M : Bl mg) (F : Fn K mg "_law_word" s__law_word) (c__law_draw : Cal P w K mg base 2 "_law_draw" spDraw []) : Cal P w K mg base 3 "_law_word" spWord [] := by
  refine F.cal sc__law_word (fun _ _ F => FunD.bindsN F fun _ _ _ _ _ _ us hl => match us, hl with | [_], _ => rfl) (fun vs H Q E h => by obtain ⟨_, _, rfl, _⟩ := h; rfl) (fun f cdv A outer st H vs Q E hr h => ⟨_, PSs.nox ((pss_cons (ps_set (i := 1) sc__law_word.nd rfl (Or.inl rfl) (pe_op op_add pe_int (pe_c c__law_draw hr (by first | decide | omega) (by rfl) (pa_cons (pv 0) (pa_cons (pe_ifExp (pt_cmpR op_eq (pe_c c__law_draw hr (by first | decide | omega) (by rfl) (pa_cons (pv 0) (pa_cons pe_int pa_nil))) pe_int (nomark _)) pe_int pe_int) pa_nil)))))
  (pss_one (ps_ret (pe_join pe_str (pe_lc rfl sc__law_word.nd (pi_range1 (by rfl) M.range (pa_cons (pv 1) pa_nil)) (blkOk_by (N := ["_law_purse_here", "_law_size", "_law_turn"]) (sc := defScope s__law_word) (own := [("_law_turn", 2)]) (by decide +kernel)) (fun _ _ _ _ _ => (pg_name (i := 2) sc__law_word.nd rfl (Or.inl rfl))) (fun _ _ _ _ _ => pts_nil) (fun _ _ _ _ _ => (pe_ix ix_str pe_str (pe_c c__law_draw hr (by first | decide | omega) (by rfl) (pa_cons (pv 0) (pa_cons pe_int pa_nil))) (fun _ _ => rfl))))))))), ?_⟩)
  obtain ⟨p, n, rfl, hp, q⟩ := h
  refine ⟨_, rfl, _, rfl, p, n + 11, _, rfl, hp, by decide, by decide, fun r H1 r1 r2 sb hp1 => ⟨rfl, _, rfl, ?_⟩⟩
  refine ifB (fun _ => ?_) (fun _ => ?_)
  all_goals
    refine ⟨p, n + 10, _, rfl, hp1, by decide, by decide, fun r' H2 r1' r2' sb' hp2 => ⟨_, _, rfl, rfl, ?_⟩⟩
    have sb2 := sb.trans sb'
    obtain ⟨j, rfl⟩ : ∃ j : Nat, r' = (j : Int) := ⟨r'.toNat, by omega⟩
    refine ⟨⟨_, rfl⟩, _, rfl, _, rfl, by omega, by omega, fun D hD => ?_⟩
    have npD : p ≠ D := hp2.ne hD
    have ej : ((1 : Int) + (j : Int)).toNat = 1 + j := by omega
    rw [ej]
    refine lcN (S := [p]) hD (fun i acc H' => ∃ cs : List Nat, acc = (cs.map S1).map V.str ∧ cs.length = i ∧ (∀ c ∈ cs, 97 ≤ c ∧ c ≤ 122) ∧ Pu H' p (n + (10 - i))) ⟨[], rfl, rfl, by simp, hp2.new hD⟩ (fun i acc H3 hi sb3 e hl hA => ?_) (fun H3 acc sb3 e hl hA => ?_)
    · obtain ⟨cs, rfl, e1, e2, e3⟩ := hA
      refine ⟨rfl, _, rfl, p, n + (10 - (i + 1)), _, rfl, e3.less (by omega), by decide, by decide, fun r4 H4 r41 r42 sb4 hp4 => ?_⟩
      obtain ⟨c, rfl⟩ : ∃ c : Nat, r4 = (c : Int) := ⟨r4.toNat, by omega⟩
      refine ⟨_, _, 97 + c, rfl, rfl, (by decide +kernel : abc.length ≤ sizeLine), atI_nat (abc_at c (by omega)), ?_⟩
      refine Pc.put (n := 1 + j) hD hi (by have := sizeLine_eq; omega) hl (sb3.trans sb4) (sb4 _ _ (by simp [Ne.symm npD]) e) ⟨cs ++ [97 + c], by simp, by simp [e1], fun x hx => ?_, hp4.other npD⟩
      rcases List.mem_append.mp hx with hx | hx
      · exact e2 x hx
      · rw [List.mem_singleton.mp hx]
        omega
    · obtain ⟨cs, rfl, e1, e2, e3⟩ := hA
      refine ⟨_, _, cs.map S1, rfl, rfl, .inl (SqL.of e), ?_, ?_⟩
      · rw [sum_S1]
        show cs.length + _ * 0 ≤ _
        omega
      · rw [show Txt.join _ (cs.map S1) = ⟨cs.toArray⟩ from join_nil cs]
        exact q _ _ (word_of (by omega) (by omega) e2) (sb2.trans sb3) (e3.less (by omega))
/-- what the def's names hold while it makes words -/
def WSt (p l : Addr) (bs : Str) (near : Bool) (spot : Nat) (σ : L2.St) : Prop := σ.length = 9 ∧ σ[0]? = some (some (.ref p)) ∧ σ[2]? = some (some (.str bs)) ∧ σ[3]? = some (some (.bl near)) ∧ σ[4]? = some (some (.int spot)) ∧ σ[5]? = some (some (.ref l))
theorem WSt.set {p l : Addr} {bs : Str} {near : Bool} {spot : Nat} {σ : L2.St} {i : Nat} {v : Option V} (h : WSt p l bs near spot σ) (hi : 5 < i) : WSt p l bs near spot (σ.set i v) := by
  obtain ⟨k0, k1, k2, k3, k4, k5⟩ := h
  refine ⟨by rw [List.length_set]; exact k0, ?_, ?_, ?_, ?_, ?_⟩ <;> rw [List.getElem?_set_ne (by omega)] <;> assumption
/-- so many words, all unlike, in a new list -/
def spWords : Sp := fun vs H Q _ => ∃ (p : Addr) (n m : Nat), vs = [.ref p, .int (m : Int)] ∧ Pu H p (n + 100) ∧ 1 ≤ m ∧ m ≤ 5 ∧ ∀ (l : Addr) (ws : List Str) H', H l = none → H' l = some (.lst (ws.map V.str)) → ws.length = m → ws.Nodup → (∀ x ∈ ws, WordOk x) → SB [p] H H' → Pu H' p n → Q (.ref l) H'
theorem ok_words (M : Bl mg) (F : Fn K mg "_law_words" s__law_words) (c__law_draw : Cal P w K mg base 2 "_law_draw" spDraw []) (c__law_word : Cal P w K mg base 3 "_law_word" spWord []) : Cal P w K mg base 4 "_law_words" spWords [] := by
  refine F.cal sc__law_words (fun _ _ F => FunD.bindsN F fun _ _ _ _ _ _ us hl => match us, hl with | [_, _], _ => rfl) (fun vs H Q E h => by obtain ⟨_, _, _, rfl, _⟩ := h; rfl) (fun f cdv A outer st H vs Q E hr h => ⟨_, PSs.nox ((pss_cons (ps_par (i := 2) (j := 3) rfl sc__law_words.nd rfl rfl (by decide) rfl rfl (pa_cons (pe_c c__law_word hr (by first | decide | omega) (by rfl) (pa_cons (pv 0) pa_nil)) (pa_cons (pe_cmpR op_eq (pe_c c__law_draw hr (by first | decide | omega) (by rfl) (pa_cons (pv 0) (pa_cons pe_int pa_nil))) pe_int (nomark _)) pa_nil)) (by rfl))
  (pss_cons (ps_asg (pe_tup (pa_cons (pe_c c__law_draw hr (by first | decide | omega) (by rfl) (pa_cons (pv 0) (pa_cons (pe_callB call_len_str (by rfl) M.len boot_len (pa_cons (pv 2) pa_nil)) pa_nil))) (pa_cons (pe_lst pa_nil) pa_nil))) (pg_tupQ (K := K) (n := 2) rfl rfl (pgs_cons (pg_name (i := 4) sc__law_words.nd rfl (Or.inl rfl)) (pgs_cons (pg_name (i := 5) sc__law_words.nd rfl (Or.inr rfl)) pgs_nil))))
  (pss_cons (ps_for PassesOwn.never rfl (pi_range1 (by rfl) M.range (pa_cons (pv 1) pa_nil)) (pg_name (i := 6) sc__law_words.nd rfl (Or.inl rfl)) (pss_cons (ps_set (i := 7) sc__law_words.nd rfl (Or.inl rfl) (pe_op op_add_str (pe_op op_add_str (pe_slice sl_str (pv 2) po_none (po_some (pv 4))) (pe_ix ix_str pe_str (pe_c c__law_draw hr (by first | decide | omega) (by rfl) (pa_cons (pv 0) (pa_cons pe_int pa_nil))) (fun _ _ => rfl))) (pe_slice sl_str (pv 2) (po_some (pe_op op_add (pv 4) pe_int)) po_none)))
  (pss_cut (ps_if (pt_not (pt_val (pv 3))) (pss_one (ps_set (i := 7) sc__law_words.nd rfl (Or.inl rfl) (pe_c c__law_word hr (by first | decide | omega) (by rfl) (pa_cons (pv 0) pa_nil)))) pss_nil)
  (pss_cut (ps_if (pt_cmpR (inQ (K := K) rfl) (pv 7) (pv 5) rfl) (pss_one (ps_set (i := 7) sc__law_words.nd rfl (Or.inl rfl) (pe_ix (ixL (K := K) rfl) (pe_lc rfl sc__law_words.nd (pi_listQ (K := K) rfl (pe_callTy (cr_listStr rfl) (by rfl) M.list (by decide +kernel) (pa_cons pe_str pa_nil))) (blkOk_by (N := ["_law_purse_here", "_law_many", "_law_base", "_law_near", "_law_spot", "_law_found", "_law_turn", "_law_word_here", "_law_letter"]) (sc := defScope s__law_words) (own := [("_law_letter", 8)]) (by decide +kernel)) (fun _ _ _ _ _ => (pg_name (i := 8) sc__law_words.nd rfl (Or.inl rfl))) (fun _ _ _ _ _ => (pts_one (pt_cmpR (notInQ (K := K) rfl) (pv 8) (pv 5) rfl))) (fun _ _ _ _ _ => (pv 8))) pe_int (fun _ _ => rfl)))) pss_nil)
  (pss_one (ps_expr (pe_bm PySem.F.plainAttrs_list PySem.F.slot_list_append PySem.F.type_list_append mt_append (pv 5) (pa_cons (pv 7) pa_nil))))))))
  (pss_one (ps_ret (pv 5))))))), ?_⟩)
  obtain ⟨p, n, m, rfl, hp, m1, m2, q⟩ := h
  refine ⟨_, rfl, p, n + 88, rfl, hp, fun bs H1 hb sb1 hp1 => ?_⟩
  refine ⟨_, rfl, p, n + 87, _, rfl, hp1, by decide, by decide, fun r H2 r1 r2 sb2 hp2 => ⟨rfl, _, _, rfl, ?_⟩⟩
  generalize decide (V.int r = V.int 0) = near
  have lb : bs.length ≤ sizeLine := by have := hb.2.1; have := sizeLine_eq; omega
  refine ⟨_, rfl, _, rfl, _, rfl, lb, p, n + 86, _, rfl, hp2, by have := hb.1; omega, by have := hb.2.1; omega, fun r' H3 r1' r2' sb3 hp3 => ?_⟩
  obtain ⟨spot, rfl⟩ : ∃ j : Nat, r' = (j : Int) := ⟨r'.toNat, by omega⟩
  have sp1 : spot < bs.length := by omega
  refine ⟨(by decide : (0 : Nat) ≤ sizeLine), fun l hl => ⟨(by decide : (2 : Nat) ≤ sizeLine), fun t ht => ⟨_, _, rfl, SqT.of upd_same, rfl, _, _, rfl, _, _, rfl, rfl, ?_⟩⟩⟩
  have sbA := (sb1.trans sb2).trans sb3
  have hlH : H l = none := by
    cases e : H l with
    | none => rfl
    | some o => rw [sbA l o (by simp; exact Ne.symm (hp3.ne hl)) e] at hl; cases hl
  have npl : p ≠ l := hp3.ne hl
  have ntl : l ≠ t := ne_of_none upd_same ht
  have e0 : (upd (upd H3 l (.lst [])) t (.tup [.int spot, .ref l])) l = some (.lst []) := by rw [upd_ne ntl]; exact upd_same
  have hp4 : Pu (upd (upd H3 l (.lst [])) t (.tup [.int spot, .ref l])) p (n + 86) := (hp3.new hl).new ht
  have sb4 : SB [p] H (upd (upd H3 l (.lst [])) t (.tup [.int spot, .ref l])) := (sbA.new hl).new ht
  generalize upd (upd H3 l (.lst [])) t (.tup [.int spot, .ref l]) = H4 at e0 hp4 sb4
  refine ⟨_, rfl, _, rfl, by omega, by omega, ?_⟩
  rw [Int.toNat_natCast]
  refine for_range (lo := 0) (n := m) (fun i σ H' => WSt p l bs near spot σ ∧ SB [p] H H' ∧ Pu H' p (n + 13 * (5 - i)) ∧ ∃ ws, H' l = some (.lst (ws.map V.str)) ∧ ws.length = i ∧ ws.Nodup ∧ ∀ x ∈ ws, WordOk x) ⟨⟨rfl, rfl, rfl, rfl, rfl, rfl⟩, sb4, hp4.less (by omega), [], e0, rfl, List.nodup_nil, by simp⟩ (fun i σ H' hi h => ?_) (fun σ H' h => ?_)
  · obtain ⟨ws0, s5, pu5, ws, el, en, nd, ok⟩ := h
    have w6 := ws0.set (v := some (.int (0 + (i : Int)))) (i := 6) (by decide)
    obtain ⟨k0, k1, k2, k3, k4, k5⟩ := w6
    refine ⟨_, k2, _, k4, _, rfl, _, rfl, lb, _, k1, p, n + 13 * (5 - (i + 1)) + 12, _, rfl, pu5.less (by omega), by decide, by decide, fun r6 H6 r61 r62 sb6 hp6 => ?_⟩
    obtain ⟨c, rfl⟩ : ∃ c : Nat, r6 = (c : Int) := ⟨r6.toNat, by omega⟩
    have ls1 : (cutS bs none (some (spot : Int))).length ≤ 8 := Nat.le_trans (cutS_length _ _ _) hb.2.1
    have ls2 : (cutS bs (some ((spot : Int) + 1)) none).length ≤ 8 := Nat.le_trans (cutS_length _ _ _) hb.2.1
    have z1 : (S1 (97 + c)).length = 1 := rfl
    refine ⟨_, _, 97 + c, rfl, rfl, (by decide +kernel : abc.length ≤ sizeLine), atI_nat (abc_at c (by omega)), _, _, rfl, rfl, by rw [z1]; have := sizeLine_eq; omega, _, k2, _, k4, _, _, rfl, rfl, _, rfl, _, rfl, lb, _, _, rfl, rfl, by rw [lenCat, z1]; have := sizeLine_eq; omega, ?_⟩
    have wk := word_set hb sp1 (show c < 26 by omega)
    generalize cutS bs none (some (spot : Int)) ++ S1 (97 + c) ++ cutS bs (some ((spot : Int) + 1)) none = wd at wk
    have el6 := sb6 l _ (by simp [Ne.symm npl]) el
    have w7 := WSt.set (v := some (.str wd)) (i := 7) ⟨k0, k1, k2, k3, k4, k5⟩ (by decide)
    refine ⟨fun σ' H' => WSt p l bs near spot σ' ∧ SB [p] H H' ∧ Pu H' p (n + 13 * (5 - (i + 1))) ∧ H' l = some (.lst (ws.map V.str)) ∧ ∃ wd, WordOk wd ∧ σ'[7]? = some (some (.str wd)), ?_, fun σ7 H7 h7 => ?_⟩
    · obtain ⟨j0, j1, j2, j3, j4, j5⟩ := id w7
      refine ⟨_, j3, _, rfl, ifB (fun _ => ?_) (fun _ => ?_)⟩
      · refine ⟨_, j1, p, n + 13 * (5 - (i + 1)), rfl, hp6, fun wd2 H7 ok2 sb7 hp7 => ⟨w7.set (by decide), (s5.trans sb6).trans sb7, hp7, sb7 l _ (by simp [Ne.symm npl]) el6, wd2, ok2, ?_⟩⟩
        rw [List.getElem?_set_self (by rw [j0]; decide)]
      · refine ⟨w7, s5.trans sb6, hp6.less (by omega), el6, wd, wk, ?_⟩
        rw [List.getElem?_set_self (by rw [k0]; decide)]
    · obtain ⟨w8, s8, pu8, el8, wd8, ok8, e8⟩ := h7
      refine ⟨fun σ' H' => WSt p l bs near spot σ' ∧ SB [p] H H' ∧ Pu H' p (n + 13 * (5 - (i + 1))) ∧ H' l = some (.lst (ws.map V.str)) ∧ ∃ wd, WordOk wd ∧ wd ∉ ws ∧ σ'[7]? = some (some (.str wd)), ?_, fun σ9 H9 h9 => ?_⟩
      · obtain ⟨j0, j1, j2, j3, j4, j5⟩ := id w8
        refine ⟨_, e8, _, j5, _, _, rfl, .inl (SqL.of el8), rfl, flat_strs _, _, rfl, ?_⟩
        rw [inV_strs]
        refine ifB (fun hin => ?_) (fun hin => ?_)
        · refine ⟨abc, rfl, (by decide +kernel : abc.length ≤ sizeLine), fun l2 hl2 => ⟨l2, rfl, ⟨_, SqL.of upd_same⟩, fun D hD => ?_⟩⟩
          rw [signV_abc]
          have npl2 : p ≠ l2 := pu8.ne hl2
          have nll2 : l ≠ l2 := ne_of_none el8 hl2
          have npD : p ≠ D := (pu8.new hl2).ne hD
          have elb : (upd H7 l2 (.lst (letters.map V.str))) l = some (.lst (ws.map V.str)) := by rw [upd_ne nll2]; exact el8
          have hD' : (upd H7 l2 (.lst (letters.map V.str))) D = none := by
            by_cases z : D = l2
            · rw [z, upd_same] at hD; cases hD
            · rw [upd_ne z] at hD ⊢; exact hD
          refine lcR (S := []) (RL.at upd_same (by simp)) hD' (fun i acc H' => ∃ cs : List Str, acc = cs.map V.str ∧ (∀ x ∈ cs, x ∈ letters ∧ x ∉ ws) ∧ (cs = [] → ∀ j, j < i → ∀ x, letters[j]? = some x → x ∈ ws)) ⟨[], rfl, by simp, fun _ j hj => by omega⟩ (fun i2 x acc Ha hxi sb e hl' hA => ?_) (fun Ha acc sb e hl' hA => ?_)
          · obtain ⟨cs, rfl, a1, a2⟩ := hA
            rw [List.getElem?_map] at hxi
            obtain ⟨y, hy, rfl⟩ := Option.map_eq_some_iff.mp hxi
            have hi2 : i2 < letters.length := (List.getElem?_eq_some_iff.mp hy).1
            refine ⟨wipe1, V.str y, (by rw [List.getElem?_set_self (by simp [wipe, j0])]), V.ref l, (by rw [List.getElem?_set_ne (by decide)]; exact (wipe_out (by decide)).trans j5), _, _, rfl, .inl (SqL.of (sb _ _ (by simp) elb)), rfl, flat_strs _, _, rfl, ?_⟩
            rw [inV_strs]
            refine ifB (fun hb => ?_) (fun hb => ?_)
            · have hy' : y ∉ ws := by simpa using hb
              refine ⟨V.str y, (by rw [List.getElem?_set_self (by simp [wipe, j0])]), Pc.put (n := letters.length) hD' hi2 (by decide) hl' sb e ⟨cs ++ [y], by simp, fun x hx => ?_, fun z => by simp at z⟩⟩
              rcases List.mem_append.mp hx with hx | hx
              · exact a1 x hx
              · rw [List.mem_singleton.mp hx]
                exact ⟨List.mem_of_getElem? hy, hy'⟩
            · have hy' : y ∈ ws := by simpa using hb
              refine Pc.skip hl' sb e ⟨cs, rfl, a1, fun hc j hj x hx => ?_⟩
              rcases Nat.lt_or_ge j i2 with q1 | q1
              · exact a2 hc j q1 x hx
              · have : j = i2 := by omega
                subst this
                rw [hy] at hx
                cases hx
                exact hy'
          · obtain ⟨cs, rfl, a1, a2⟩ := hA
            obtain ⟨x, hx1, hx2⟩ := pig ws letters letters_nodup (by rw [letters_len]; omega)
            cases cs with
            | nil =>
              obtain ⟨j, hj⟩ := List.getElem?_of_mem hx1
              exact absurd (a2 rfl j (by rw [List.length_map]; exact (List.getElem?_eq_some_iff.mp hj).1) x hj) hx2
            | cons c cs =>
              obtain ⟨b1, b2⟩ := a1 c (by simp)
              refine ⟨D, _, 0, V.str c, rfl, rfl, SqL.of e, atI_nat (j := 0) rfl, ?_⟩
              refine ⟨w8.set (by decide), (s8.new hl2).trans (sb.wide (by simp)), (pu8.new hl2).sb sb (by simp), sb _ _ (by simp) elb, c, letters_ok b1, b2, ?_⟩
              rw [List.getElem?_set_self (by rw [j0]; decide)]
        · exact ⟨w8, s8, pu8, el8, wd8, ok8, of_decide_eq_false hin, e8⟩
      · obtain ⟨w9, s9, pu9, el9, wd9, ok9, ni9, e9⟩ := h9
        obtain ⟨j0, j1, j2, j3, j4, j5⟩ := id w9
        refine ⟨_, j5, .inl ⟨rfl, _, SqL.of el9⟩, _, e9, l, _, _, rfl, rfl, el9, by rw [List.length_map]; have := sizeLine_eq; omega, ?_⟩
        refine ⟨w9, s9.mut hlH, pu9.other npl, ws ++ [wd9], by rw [upd_same]; simp, by simp [en], ?_, fun x hx => ?_⟩
        · rw [List.nodup_append]
          refine ⟨nd, by simp, fun x hx y hy => ?_⟩
          rw [List.mem_singleton.mp hy]
          rintro rfl
          exact ni9 hx
        · rcases List.mem_append.mp hx with hx | hx
          · exact ok x hx
          · rw [List.mem_singleton.mp hx]; exact ok9
  · obtain ⟨⟨k0, k1, k2, k3, k4, k5⟩, s5, pu5, ws, el, en, nd, ok⟩ := h
    exact ⟨_, k5, q l ws H' hlH el en nd ok s5 (pu5.less (by omega))⟩
end
end K77
namespace K77
open PySem PySem.Spec PyProof.Rows C8 Ef
open L2 hiding E0 CX0 pass0 Fun
section
variable {P : Program} {w : World} {K : PySem.W.Frag} {mg : Str → Option Value} {base : Heap}
theorem sc__law_people : FnScope ["_law_purse_here", "_law_many", "_law_words_here", "_law_extra", "_law_mixed_here", "_law_word_here"] ["_law_purse_here", "_law_many"] (defScope s__law_people) := ⟨rfl, rfl, rfl, by decide +kernel, rfl, by decide +kernel, by decide +kernel⟩
theorem sc__law_places : FnScope ["_law_world", "_law_found", "_law_person", "_law_club"] ["_law_world"] (defScope s__law_places) := ⟨rfl, rfl, rfl, by decide +kernel, rfl, by decide +kernel, by decide +kernel⟩
/-- m unlike words -/
def Ws (m : Nat) (ws : List Str) : Prop := ws.length = m ∧ ws.Nodup ∧ ∀ x ∈ ws, WordOk x
def unS : V → Str
  | .str x => x
  | _ => Str.empty
theorem perm_strs {ys : List V} {ws : List Str} (h : ys.Perm (ws.map V.str)) : ∃ es : List Str, ys = es.map V.str ∧ es.Perm ws := by
  refine ⟨ys.map unS, ?_, ?_⟩
  · rw [List.map_map]
    have : ∀ y ∈ ys, (V.str ∘ unS) y = y := fun y hy => by
      obtain ⟨x, _, rfl⟩ := List.mem_map.mp (h.mem_iff.mp hy)
      rfl
    rw [List.map_congr_left this, List.map_id']
  · have e := h.map unS
    rw [List.map_map] at e
    have : (unS ∘ V.str) = id := rfl
    rw [this, List.map_id] at e
    exact e
def extras : List Str := ["put", "take", "deed", "wish", "leave", "come", "even", "odd", "part"]
theorem extras_ok : ∀ x ∈ extras, WordOk x := by
  have h : ∀ x ∈ extras, 1 ≤ x.length ∧ x.length ≤ 8 ∧ (x.cps.toList.all fun c => decide (97 ≤ c) && decide (c ≤ 122)) = true := by decide +kernel
  intro x hx
  obtain ⟨h1, h2, h3⟩ := h x hx
  refine ⟨h1, h2, fun c hc => ?_⟩
  have := List.all_eq_true.mp h3 c hc
  simpa using this
theorem extras_nodup : extras.Nodup := by decide +kernel
theorem mixed_ws {es ws : List Str} {m : Nat} (pe : es.Perm extras) (hw : Ws m ws) (hm : m ≤ 5) : Ws m ((es.take 2 ++ ws.filter (fun x => !decide (x ∈ extras)) ++ es.drop 2).take m) := by
  obtain ⟨h1, h2, h3⟩ := hw
  have le : es.length = 9 := pe.length_eq
  have pm : (es.take 2 ++ ws.filter (fun x => !decide (x ∈ extras)) ++ es.drop 2).Perm (es ++ ws.filter (fun x => !decide (x ∈ extras))) := by
    rw [List.append_assoc]
    refine (List.Perm.append_left _ List.perm_append_comm).trans ?_
    rw [← List.append_assoc, List.take_append_drop]
  have nd : (es ++ ws.filter (fun x => !decide (x ∈ extras))).Nodup := by
    rw [List.nodup_append]
    refine ⟨pe.nodup_iff.mpr extras_nodup, h2.filter _, fun x hx y hy => ?_⟩
    rintro rfl
    have := (List.mem_filter.mp hy).2
    simp [pe.mem_iff.mp hx] at this
  refine ⟨?_, List.Sublist.nodup (List.take_sublist _ _) (pm.nodup_iff.mpr nd), fun x hx => ?_⟩
  · rw [List.length_take, pm.length_eq, List.length_append, le]
    omega
  · have hx2 := pm.mem_iff.mp (List.mem_of_mem_take hx)
    rcases List.mem_append.mp hx2 with hx2 | hx2
    · exact extras_ok x (pe.mem_iff.mp hx2)
    · exact h3 x (List.mem_filter.mp hx2).1
def spPeople : Sp := fun vs H Q _ => ∃ (p : Addr) (n m : Nat), vs = [.ref p, .int (m : Int)] ∧ Pu H p (n + 120) ∧ 1 ≤ m ∧ m ≤ 5 ∧ ∀ (l : Addr) (ws : List Str) H', H l = none → H' l = some (.lst (ws.map V.str)) → Ws m ws → Asc ws → SB [p] H H' → Pu H' p n → Q (.ref l) H'
theorem ok_people (M : Bl mg) (F : Fn K mg "_law_people" s__law_people) (c__law_draw : Cal P w K mg base 2 "_law_draw" spDraw []) (c__law_words : Cal P w K mg base 4 "_law_words" spWords []) (c__law_shuffled : Cal P w K mg base 3 "_law_shuffled" (spShuffled K) []) : Cal P w K mg base 5 "_law_people" spPeople [] := by
  refine F.cal sc__law_people (fun _ _ F => FunD.bindsN F fun _ _ _ _ _ _ us hl => match us, hl with | [_, _], _ => rfl) (fun vs H Q E h => by obtain ⟨_, _, _, rfl, _⟩ := h; rfl) (fun f cdv A outer st H vs Q E hr h => ⟨_, PSs.nox ((pss_cons (ps_set (i := 2) sc__law_people.nd rfl (Or.inl rfl) (pe_c c__law_words hr (by first | decide | omega) (by rfl) (pa_cons (pv 0) (pa_cons (pv 1) pa_nil))))
  (pss_cut (ps_if (pt_cmpR op_eq (pe_c c__law_draw hr (by first | decide | omega) (by rfl) (pa_cons (pv 0) (pa_cons pe_int pa_nil))) pe_int (nomark _)) (pss_cons (ps_set (i := 3) sc__law_people.nd rfl (Or.inr rfl) (pe_lst (pa_cons pe_str (pa_cons pe_str (pa_cons pe_str (pa_cons pe_str (pa_cons pe_str (pa_cons pe_str (pa_cons pe_str (pa_cons pe_str (pa_cons pe_str pa_nil)))))))))))
  (pss_cons (ps_set (i := 4) sc__law_people.nd rfl (Or.inl rfl) (pe_c c__law_shuffled hr (by first | decide | omega) (by rfl) (pa_cons (pv 0) (pa_cons (pv 3) pa_nil))))
  (pss_one (ps_set (i := 2) sc__law_people.nd rfl (Or.inl rfl) (pe_slice (slL (K := K) rfl) (pe_op op_cat (pe_op op_cat (pe_slice (slL (K := K) rfl) (pv 4) po_none (po_some pe_int)) (pe_lc rfl sc__law_people.nd (pi_listQ (K := K) rfl (pv 2)) (blkOk_by (N := ["_law_purse_here", "_law_many", "_law_words_here", "_law_extra", "_law_mixed_here", "_law_word_here"]) (sc := defScope s__law_people) (own := [("_law_word_here", 5)]) (by decide +kernel)) (fun _ _ _ _ _ => (pg_name (i := 5) sc__law_people.nd rfl (Or.inl rfl))) (fun _ _ _ _ _ => (pts_one (pt_cmpR (notInQ (K := K) rfl) (pv 5) (pv 3) rfl))) (fun _ _ _ _ _ => (pv 5)))) (pe_slice (slL (K := K) rfl) (pv 4) (po_some pe_int) po_none)) po_none (po_some (pv 1))))))) pss_nil)
  (pss_one (ps_ret (pe_callB (sortedQ (K := K) rfl hr.units) (by rfl) M.sorted (by decide +kernel) (pa_cons (pv 2) pa_nil))))))), ?_⟩)
  obtain ⟨p, n, m, rfl, hp, m1, m2, q⟩ := h
  refine ⟨_, rfl, _, rfl, p, n + 20, m, rfl, hp, m1, m2, fun l ws H1 hl el len nd ok sb1 hp1 => ?_⟩
  refine ⟨fun σ' H' => ∃ l2 ws2, σ'[2]? = some (some (.ref l2)) ∧ H' l2 = some (.lst (ws2.map V.str)) ∧ Ws m ws2 ∧ SB [p] H H' ∧ Pu H' p n, ?_, fun σ' H' h' => ?_⟩
  · refine ⟨_, rfl, p, n + 19, _, rfl, hp1, by decide, by decide, fun r H2 r1 r2 sb2 hp2 => ⟨rfl, _, rfl, ifB (fun _ => ?_) (fun _ => ?_)⟩⟩
    · have npl : p ≠ l := fun z => by rw [← z] at hl; exact hp.dom p (by simp) hl
      have el2 := sb2 l _ (by simp [Ne.symm npl]) el
      refine ⟨(by decide : (9 : Nat) ≤ sizeLine), fun e he => ?_⟩
      refine ⟨_, rfl, _, rfl, p, e, n + 10, extras.map V.str, rfl, (hp2.new he).less (by show n + 10 + 9 ≤ _; omega), RL.at upd_same (by simp; exact Ne.symm (hp2.ne he)), (by decide : (9 : Nat) ≤ 900), fun x ys H3 hx ex pm sb3 hp3 => ?_⟩
      obtain ⟨es, rfl, pe⟩ := perm_strs pm
      have nle : l ≠ e := ne_of_none el2 he
      have elb : (upd H2 e (.lst (extras.map V.str))) l = some (.lst (ws.map V.str)) := by rw [upd_ne nle]; exact el2
      have el3 := sb3 l _ (by simp [Ne.symm npl]) elb
      have ee3 := sb3 e _ (by simp; exact Ne.symm (hp2.ne he)) upd_same
      have sbB : SB [p] H H3 := ((sb1.trans sb2).new he).trans sb3
      refine ⟨_, rfl, _, rfl, _, _, rfl, SqL.of ex, fun s1 hs1 => ?_⟩
      rw [show cutV (es.map V.str) none (some 2) = (es.map V.str).take 2 from cutV_to _ 2]
      have a1 : (upd H3 s1 (.lst ((es.map V.str).take 2))) l = some (.lst (ws.map V.str)) := by rw [upd_ne (ne_of_none el3 hs1)]; exact el3
      have a2 : (upd H3 s1 (.lst ((es.map V.str).take 2))) e = some (.lst (extras.map V.str)) := by rw [upd_ne (ne_of_none ee3 hs1)]; exact ee3
      have a3 : (upd H3 s1 (.lst ((es.map V.str).take 2))) x = some (.lst (es.map V.str)) := by rw [upd_ne (ne_of_none ex hs1)]; exact ex
      have a4 : (upd H3 s1 (.lst ((es.map V.str).take 2))) s1 = some (.lst ((es.map V.str).take 2)) := upd_same
      have sbC : SB [p] H (upd H3 s1 (.lst ((es.map V.str).take 2))) := sbB.new hs1
      have puC : Pu (upd H3 s1 (.lst ((es.map V.str).take 2))) p n := (hp3.new hs1).less (by omega)
      generalize upd H3 s1 (.lst ((es.map V.str).take 2)) = H4 at a1 a2 a3 a4 sbC puC
      refine ⟨_, rfl, l, rfl, ⟨_, SqL.of a1⟩, fun D hD => ?_⟩
      have npD : p ≠ D := puC.ne hD
      refine lcR (S := []) (RL.at a1 (by simp)) hD (fun i acc _ => acc = ((ws.take i).filter (fun x => !decide (x ∈ extras))).map V.str) rfl (fun i v acc Ha hxi sb ea hl' hA => ?_) (fun Ha acc sb ea hl' hA => ?_)
      · rw [List.getElem?_map] at hxi
        obtain ⟨y, hy, rfl⟩ := Option.map_eq_some_iff.mp hxi
        have hi2 : i < ws.length := (List.getElem?_eq_some_iff.mp hy).1
        have e1 : ws.take (i + 1) = ws.take i ++ [y] := by rw [List.take_add_one, hy] <;> rfl
        refine ⟨rfl, V.str y, rfl, V.ref e, rfl, _, _, rfl, .inl (SqL.of (sb _ _ (by simp) a2)), rfl, flat_strs _, _, rfl, ?_⟩
        rw [inV_strs]
        refine ifB (fun hb => ?_) (fun hb => ?_)
        · refine ⟨V.str y, rfl, Pc.put (n := ws.length) hD hi2 (by have := sizeLine_eq; omega) hl' sb ea ?_⟩
          have hb' : (!decide (y ∈ extras)) = true := hb
          rw [hA, e1, List.filter_append, List.filter_cons, if_pos hb', List.map_append] <;> rfl
        · refine Pc.skip hl' sb ea ?_
          have hb' : ¬ ((!decide (y ∈ extras)) = true) := by
            have hb2 : (!decide (y ∈ extras)) = false := hb
            rw [hb2]; exact Bool.false_ne_true
          rw [hA, e1, List.filter_append, List.filter_cons, if_neg hb', List.filter_nil, List.append_nil]
      · rw [List.length_map, List.take_length] at hA
        have b3 := sb _ _ (by simp) a3
        have b4 := sb _ _ (by simp) a4
        have lle : acc.length ≤ 5 := by rw [List.length_map] at hl'; omega
        have les : es.length = 9 := pe.length_eq
        refine ⟨s1, D, _, _, rfl, rfl, b4, ea, by rw [List.length_take, List.length_map]; have := sizeLine_eq; omega, fun c1 hc1 => ?_⟩
        have c3 : (upd Ha c1 (.lst ((es.map V.str).take 2 ++ acc))) x = some (.lst (es.map V.str)) := by rw [upd_ne (ne_of_none b3 hc1)]; exact b3
        refine ⟨_, rfl, _, rfl, _, _, rfl, SqL.of c3, fun s2 hs2 => ?_⟩
        rw [show cutV (es.map V.str) (some 2) none = (es.map V.str).drop 2 from cutV_from _ 2]
        refine ⟨c1, s2, _, _, rfl, rfl, by rw [upd_ne (ne_of_none upd_same hs2)]; exact upd_same, upd_same, by rw [List.length_append, List.length_take, List.length_drop, List.length_map]; have := sizeLine_eq; omega, fun c2 hc2 => ?_⟩
        refine ⟨_, rfl, _, rfl, _, _, rfl, SqL.of upd_same, fun s3 hs3 => ?_⟩
        have eL : cutV ((es.map V.str).take 2 ++ acc ++ (es.map V.str).drop 2) none (some (m : Int)) = ((es.take 2 ++ ws.filter (fun x => !decide (x ∈ extras)) ++ es.drop 2).take m).map V.str := by
          rw [cutV_to, hA, ← List.map_take, ← List.map_drop, ← List.map_append, ← List.map_append, ← List.map_take]
        refine ⟨s3, _, rfl, by rw [upd_same, eL], mixed_ws pe ⟨len, nd, ok⟩ m2, ((((sbC.trans (sb.wide (by simp))).new hc1).new hs2).new hc2).new hs3, ((((puC.sb sb (by simp)).new hc1).new hs2).new hc2).new hs3⟩
    · exact ⟨l, ws, rfl, sb2 l _ (by simp; rintro rfl; exact hp.dom l (by simp) hl) el, ⟨len, nd, ok⟩, sb1.trans sb2, hp2.less (by omega)⟩
  · obtain ⟨l2, ws2, e2, el2, w2, s2, pu2⟩ := h'
    refine ⟨_, e2, sorted_ls (S := []) (m := ws2.mergeSort leS) (RL.at el2 (by simp)) (List.mergeSort_perm ws2 leS).symm (asc_sort w2.2.1) (by have := w2.1; omega) fun y hy => ?_⟩
    have pm := List.mergeSort_perm ws2 leS
    refine q y _ _ ?_ upd_same ⟨by rw [pm.length_eq]; exact w2.1, pm.nodup_iff.mpr w2.2.1, fun x hx => w2.2.2 x (pm.mem_iff.mp hx)⟩ (asc_sort w2.2.1) (s2.new hy) (pu2.new hy)
    exact SB.free s2 hy (by simp; exact Ne.symm (pu2.ne hy))
/-- all places of a table of these people and clubs -/
def prod (nm wd : List Str) : List (Str × Str) := nm.flatMap fun a => wd.map fun b => (a, b)
/-- people, clubs and members, as a list of three -/
def WorldAt (K : PySem.W.Frag) (S : List Addr) (H : Hp) (nm wd : List Str) (pl : List (Str × Str)) (v : V) : Prop :=
  ∃ a v0 v1 v2, v = .ref a ∧ RL K S H a [v0, v1, v2] ∧ LS K S H nm v0 ∧ LS K S H wd v1 ∧ LP K S H pl v2
theorem rt_put {K : PySem.W.Frag} {S : List Addr} {H : Hp} {a D : Addr} {xs zs : List V} {o : HO} (h : RT2 K S H a xs) (e : H D = some (.lst zs)) : RT2 K S (upd H D o) a xs := ⟨h.1, by rw [upd_ne (fun z => by have h2 := h.2; rw [z, e] at h2; cases h2)]; exact h.2⟩
theorem p2_put {K : PySem.W.Frag} {S : List Addr} {H : Hp} {D : Addr} {zs : List V} {o : HO} {q : Str × Str} {v : V} (h : P2 K S H q v) (e : H D = some (.lst zs)) : P2 K S (upd H D o) q v := let ⟨a, h1, h2⟩ := h; ⟨a, h1, rt_put h2 e⟩
theorem p2s_put {K : PySem.W.Frag} {S : List Addr} {H : Hp} {D : Addr} {zs : List V} {o : HO} {qs : List (Str × Str)} {vs : List V} (h : P2s K S H qs vs) (e : H D = some (.lst zs)) : P2s K S (upd H D o) qs vs := Paired.mapP h fun _ _ z => p2_put z e
theorem prod_snoc {nm wd : List Str} {i : Nat} {x : Str} (h : nm[i]? = some x) : prod (nm.take (i + 1)) wd = prod (nm.take i) wd ++ wd.map fun b => (x, b) := by
  unfold prod
  rw [List.take_add_one, h]
  simp
theorem prod_len {nm wd : List Str} : (prod nm wd).length = nm.length * wd.length := by
  unfold prod
  induction nm with
  | nil => simp
  | cons a nm ih => rw [List.flatMap_cons, List.length_append, ih, List.length_map, List.length_cons, Nat.succ_mul, Nat.add_comm]
def spPlaces (K : PySem.W.Frag) : Sp := fun vs H Q _ => ∃ (a : Addr) (v0 v1 v2 : V) (nm wd : List Str), vs = [.ref a] ∧ RL K [] H a [v0, v1, v2] ∧ LS K [] H nm v0 ∧ LS K [] H wd v1 ∧ nm.length ≤ 60 ∧ wd.length ≤ 60 ∧
  ∀ (l : Addr) (xs : List V) H', Same H H' → H l = none → H' l = some (.lst xs) → P2s K [] H' (prod nm wd) xs → (∀ (i : Nat) b, xs[i]? = some (.ref b) → H b = none) → Q (.ref l) H'
theorem ok_places (M : Bl mg) (F : Fn K mg "_law_places" s__law_places) : Cal P w K mg base 1 "_law_places" (spPlaces K) [] := by
  refine F.cal sc__law_places (fun _ _ F => FunD.bindsN F fun _ _ _ _ _ _ us hl => match us, hl with | [_], _ => rfl) (fun vs H Q E h => by obtain ⟨_, _, _, _, _, _, rfl, _⟩ := h; rfl) (fun f cdv A outer st H vs Q E hr h => ⟨_, PSs.nox ((pss_cons (ps_set (i := 1) sc__law_places.nd rfl (Or.inl rfl) (pe_lst pa_nil))
  (pss_cons (ps_for PassesOwn.never rfl (pi_listQ (K := K) rfl (pe_ix (ixL (K := K) rfl) (pv 0) pe_int (fun _ _ => rfl))) (pg_name (i := 2) sc__law_places.nd rfl (Or.inr rfl)) (pss_one (ps_set (i := 1) sc__law_places.nd rfl (Or.inl rfl) (pe_op op_cat (pv 1) (pe_lc rfl sc__law_places.nd (pi_listQ (K := K) rfl (pe_ix (ixL (K := K) rfl) (pv 0) pe_int (fun _ _ => rfl))) (blkOk_by (N := ["_law_world", "_law_found", "_law_person", "_law_club"]) (sc := defScope s__law_places) (own := [("_law_club", 3)]) (by decide +kernel)) (fun _ _ _ _ _ => (pg_name (i := 3) sc__law_places.nd rfl (Or.inl rfl))) (fun _ _ _ _ _ => pts_nil) (fun _ _ _ _ _ => (pe_tup (pa_cons (pv 2) (pa_cons (pv 3) pa_nil)))))))))
  (pss_one (ps_ret (pv 1)))))), ?_⟩)
  obtain ⟨a, v0, v1, v2, nm, wd, rfl, ha, ⟨n0, rfl, hn⟩, ⟨w0, rfl, hw⟩, n1, w1, q⟩ := h
  refine ⟨(by decide : (0 : Nat) ≤ sizeLine), fun l0 hl0 => ?_⟩
  have n0' : SB [] H (upd H l0 (.lst [])) := SB.same.new hl0
  have ha0 := ha.sb n0'
  refine ⟨_, rfl, a, _, 0, _, rfl, rfl, ha0.sq, atI_nat (j := 0) rfl, n0, rfl, ⟨_, (hn.sb n0').sq⟩, ?_⟩
  refine for_list (xs := nm.map V.str) (fun i σ H' => σ.length = 4 ∧ σ[0]? = some (some (.ref a)) ∧ Same H H' ∧ ∃ l xs, σ[1]? = some (some (.ref l)) ∧ H l = none ∧ H' l = some (.lst xs) ∧ P2s K [] H' (prod (nm.take i) wd) xs ∧ ∀ (i : Nat) b, xs[i]? = some (.ref b) → H b = none) ?_ (fun i σ H' _ h => ?_) (fun i x σ H' hx h => ?_) (fun σ H' h => ?_)
  · exact ⟨rfl, rfl, SB.nil n0', l0, [], rfl, hl0, upd_same, .nil, fun i b e => by simp at e⟩
  · obtain ⟨_, _, s, _⟩ := h
    exact (hn.sb (SB.of s)).sq
  · obtain ⟨k0, k1, s, l, xs, k2, hl, el, hp2, fr⟩ := h
    rw [List.getElem?_map] at hx
    obtain ⟨y, hy, rfl⟩ := Option.map_eq_some_iff.mp hx
    have sH : SB [] H H' := SB.of s
    have j0 : (σ.set 2 (some (V.str y))).length = 4 := by rw [List.length_set]; exact k0
    have j1 : (σ.set 2 (some (V.str y)))[0]? = some (some (.ref a)) := by rw [List.getElem?_set_ne (by decide)]; exact k1
    have j2 : (σ.set 2 (some (V.str y)))[1]? = some (some (.ref l)) := by rw [List.getElem?_set_ne (by decide)]; exact k2
    have j3 : (σ.set 2 (some (V.str y)))[2]? = some (some (.str y)) := by rw [List.getElem?_set_self (by rw [k0]; decide)]
    refine ⟨_, j2, _, j1, a, _, 1, _, rfl, rfl, (ha.sb sH).sq, atI_nat (j := 1) rfl, w0, rfl, ⟨_, (hw.sb sH).sq⟩, fun D hD => ?_⟩
    refine lcR (S := []) (hw.sb sH) hD (fun i acc G => P2s K [] G ((wd.take i).map fun b => (y, b)) acc ∧ ∀ (i : Nat) b, acc[i]? = some (.ref b) → H' b = none) ⟨.nil, fun i b e => by simp at e⟩ (fun i2 x acc G hxi sb e hl' hA => ?_) (fun G acc sb e hl' hA => ?_)
    · obtain ⟨g1, g2⟩ := hA
      rw [List.getElem?_map] at hxi
      obtain ⟨z, hz, rfl⟩ := Option.map_eq_some_iff.mp hxi
      have hi2 : i2 < wd.length := (List.getElem?_eq_some_iff.mp hz).1
      refine ⟨wipe1, V.str y, (by rw [List.getElem?_set_ne (by decide)]; exact (wipe_out (by decide)).trans j3), V.str z, (by rw [List.getElem?_set_self (by rw [wipe_length, j0]; decide)]), (by decide : (2 : Nat) ≤ sizeLine), fun t ht => ?_⟩
      have nDt : D ≠ t := ne_of_none e ht
      have eD : (upd G t (.tup [V.str y, V.str z])) D = some (.lst acc) := by rw [upd_ne nDt]; exact e
      refine Pc.put (n := wd.length) hD hi2 (by have := sizeLine_eq; omega) hl' (sb.new ht) eD ⟨?_, fun j b ej => ?_⟩
      · have e1 : wd.take (i2 + 1) = wd.take i2 ++ [z] := by rw [List.take_add_one, hz] <;> rfl
        rw [e1, List.map_append]
        exact Paired.app (p2s_put (g1.sb (SB.same.new ht)) eD) (.cons ⟨t, rfl, RT2.at (by rw [upd_ne (Ne.symm nDt)]; exact upd_same) (by simp)⟩ .nil)
      · rcases Nat.lt_or_ge j acc.length with q1 | q1
        · rw [List.getElem?_append_left q1] at ej
          exact g2 j b ej
        · rw [List.getElem?_append_right q1] at ej
          have hj : j - acc.length = 0 := by
            have := (List.getElem?_eq_some_iff.mp ej).1
            simp at this
            omega
          rw [hj] at ej
          simp at ej
          rw [← ej]
          exact SB.free sb ht (by simp)
    · obtain ⟨g1, g2⟩ := hA
      rw [List.length_map, List.take_length] at g1
      have elG := sb l _ (by simp) el
      have lx : xs.length ≤ 3600 := by
        rw [hp2.len, prod_len, List.length_take]
        exact Nat.mul_le_mul (Nat.le_trans (Nat.min_le_right _ _) n1) w1
      rw [List.length_map] at hl'
      refine ⟨l, D, xs, acc, rfl, rfl, elG, e, by have := sizeLine_eq; omega, fun c hc => ?_⟩
      have sG : Same H G := fun b o hb => sb b o (by simp) (s b o hb)
      refine ⟨by rw [List.length_set]; exact j0, by rw [List.getElem?_set_ne (by decide)]; exact j1, Same.new sG hc, c, xs ++ acc, by rw [List.getElem?_set_self (by rw [j0]; decide)], SB.free (S := []) (SB.of sG) hc (by simp), upd_same, ?_, fun j b ej => ?_⟩
      · rw [prod_snoc hy]
        exact P2s.sb (Paired.app (hp2.sb sb) g1) (SB.same.new hc)
      · rcases Nat.lt_or_ge j xs.length with q1 | q1
        · rw [List.getElem?_append_left q1] at ej
          exact fr j b ej
        · rw [List.getElem?_append_right q1] at ej
          exact SB.free sH (g2 _ b ej) (by simp)
  · obtain ⟨k0, k1, s, l, xs, k2, hl, el, hp2, fr⟩ := h
    rw [List.length_map, List.take_length] at hp2
    exact ⟨_, k2, q l xs H' s hl el hp2 fr⟩
end
end K77
namespace K77
open PySem PySem.Spec PyProof.Rows C8 Ef
open L2 hiding E0 CX0 pass0 Fun
section
variable {P : Program} {w : World} {K : PySem.W.Frag} {mg : Str → Option Value} {base : Heap}
theorem sc__law_hall : FnScope ["_law_purse_here", "_law_people_here", "_law_clubs", "_law_crowd", "_law_groups", "_law_world", "_law_way", "_law_places_here", "_law_mixed_here", "_law_late", "_law_few", "_law_many", "_law_members", "_law_steps", "_law_match", "_law_place", "_law_at"] ["_law_purse_here", "_law_people_here", "_law_clubs"] (defScope s__law_hall) := ⟨rfl, rfl, rfl, by decide +kernel, rfl, by decide +kernel, by decide +kernel⟩
theorem strOk_of {x : Str} (h : WordOk x) : PyData.strOk x = true := by
  unfold PyData.strOk
  rw [← Array.all_toList, List.all_eq_true]
  intro c hc
  have := h.2.2 c hc
  exact decide_eq_true (by omega)
theorem mem_prod {nm wd : List Str} {q : Str × Str} : q ∈ prod nm wd ↔ q.1 ∈ nm ∧ q.2 ∈ wd := by
  unfold prod
  rw [List.mem_flatMap]
  constructor
  · rintro ⟨a, ha, h⟩
    obtain ⟨b, hb, rfl⟩ := List.mem_map.mp h
    exact ⟨ha, hb⟩
  · rintro ⟨h1, h2⟩
    exact ⟨q.1, h1, List.mem_map.mpr ⟨q.2, h2, rfl⟩⟩
/-- a world: people, clubs, members -/
structure WOk (a b : Nat) (nm wd : List Str) (pl : List (Str × Str)) : Prop where
  n : Ws a nm
  na : Asc nm
  d : Ws b wd
  da : Asc wd
  p : pl.Sublist (prod nm wd)
/-- its three lists, each to be changed by itself -/
def WorldT (K : PySem.W.Frag) (S : List Addr) (H : Hp) (nm wd : List Str) (pl : List (Str × Str)) (v : V) : Prop :=
  ∃ (h l0 l1 l2 : Addr) (xs : List V), v = .ref h ∧ h ∉ S ∧ H h = some (.lst [.ref l0, .ref l1, .ref l2]) ∧ l0 ∉ S ∧ H l0 = some (.lst (nm.map V.str)) ∧ l1 ∉ S ∧ H l1 = some (.lst (wd.map V.str)) ∧ l2 ∉ S ∧ H l2 = some (.lst xs) ∧ P2s K S H pl xs
/-- crowd and groups are found -/
def HSt (K : PySem.W.Frag) (H : Hp) (p : Addr) (n a b : Nat) (σ : L2.St) (G : Hp) : Prop :=
  ∃ (lc lg : Addr) (nm wd : List Str), σ.length = 17 ∧ σ[0]? = some (some (.ref p)) ∧ σ[1]? = some (some (.int (a : Int))) ∧ σ[2]? = some (some (.int (b : Int))) ∧ σ[3]? = some (some (.ref lc)) ∧ σ[4]? = some (some (.ref lg)) ∧
    G lc = some (.lst (nm.map V.str)) ∧ G lg = some (.lst (wd.map V.str)) ∧ Ws a nm ∧ Asc nm ∧ Ws b wd ∧ Asc wd ∧ SB [p] H G ∧ Pu G p n ∧ lc ≠ p ∧ lg ≠ p
/-- all that the members are drawn from -/
def HSt2 (K : PySem.W.Frag) (H : Hp) (p : Addr) (n a b : Nat) (σ : L2.St) (G : Hp) : Prop :=
  ∃ (lc lg lp lm ll : Addr) (nm wd : List Str) (xs : List V) (es1 es2 : List Str) (few many way : Int), σ.length = 17 ∧ σ[0]? = some (some (.ref p)) ∧ σ[1]? = some (some (.int (a : Int))) ∧ σ[2]? = some (some (.int (b : Int))) ∧ σ[3]? = some (some (.ref lc)) ∧ σ[4]? = some (some (.ref lg)) ∧
    σ[6]? = some (some (.int way)) ∧ σ[7]? = some (some (.ref lp)) ∧ σ[8]? = some (some (.ref lm)) ∧ σ[9]? = some (some (.ref ll)) ∧ σ[10]? = some (some (.int few)) ∧ σ[11]? = some (some (.int many)) ∧
    G lc = some (.lst (nm.map V.str)) ∧ G lg = some (.lst (wd.map V.str)) ∧ Ws a nm ∧ Asc nm ∧ Ws b wd ∧ Asc wd ∧ SB [p] H G ∧ Pu G p n ∧ lc ≠ p ∧ lg ≠ p ∧
    G lp = some (.lst xs) ∧ P2s K [p] G (prod nm wd) xs ∧ lp ≠ p ∧ G lm = some (.lst (es1.map V.str)) ∧ es1.Perm nm ∧ lm ≠ p ∧ G ll = some (.lst (es2.map V.str)) ∧ es2.Perm wd ∧ ll ≠ p
/-- members, drawn from the places -/
def HSt3 (K : PySem.W.Frag) (H : Hp) (p : Addr) (n a b : Nat) (σ : L2.St) (G : Hp) : Prop :=
  ∃ (lc lg lx : Addr) (nm wd : List Str) (xs : List V) (pl : List (Str × Str)), σ[3]? = some (some (.ref lc)) ∧ σ[4]? = some (some (.ref lg)) ∧ σ[12]? = some (some (.ref lx)) ∧ G lc = some (.lst (nm.map V.str)) ∧ G lg = some (.lst (wd.map V.str)) ∧ Ws a nm ∧ Asc nm ∧ Ws b wd ∧ Asc wd ∧ SB [p] H G ∧ Pu G p n ∧ lc ≠ p ∧ lg ≠ p ∧
    G lx = some (.lst xs) ∧ P2s K [p] G pl xs ∧ lx ≠ p ∧ pl.Sublist (prod nm wd)
/-- what is known while members are drawn -/
def PlA (K : PySem.W.Frag) (p : Addr) (n : Nat) (pls : List (Str × Str)) (i : Nat) (acc : List V) (G : Hp) : Prop := (∃ qs, P2s K [p] G qs acc ∧ qs.Sublist (pls.take i)) ∧ Pu G p (n + (25 - i))
theorem pl_turn {p D : Addr} {n i : Nat} {pls : List (Str × Str)} {xs acc : List V} {x : V} {H1 G : Hp} {k : Nat} {σ : L2.St} {b : Bool} (npD : p ≠ D) (hD : H1 D = none) (hx : xs[i]? = some x) (hn : xs.length ≤ sizeLine) (hq : P2s K [p] H1 pls xs) (hσ : σ[k]? = some (some x)) (s : SB [p] H1 G) (e : G D = some (.lst acc)) (hl : acc.length ≤ i)
    (hA : ∃ qs, P2s K [p] G qs acc ∧ qs.Sublist (pls.take i)) (pu : Pu G p (n + (25 - (i + 1)))) :
    if b = true then tVar k σ G (fun y H4 => ∃ acc, H4 D = some (.lst acc) ∧ acc.length < sizeLine ∧ Pc [p] H1 D (PlA K p n pls) (i + 1) (upd H4 D (.lst (acc ++ [y])))) else Pc [p] H1 D (PlA K p n pls) (i + 1) G := by
  obtain ⟨qs, h1, h2⟩ := hA
  obtain ⟨q, hq1, hq2⟩ := Paired.at1 hq hx
  have e1 : pls.take (i + 1) = pls.take i ++ [q] := by rw [List.take_add_one, hq1] <;> rfl
  refine ifB (fun _ => ⟨x, hσ, Pc.put (n := xs.length) hD (List.getElem?_eq_some_iff.mp hx).1 hn hl s e ⟨⟨qs ++ [q], ?_, ?_⟩, pu.other npD⟩⟩) (fun _ => Pc.skip hl s e ⟨⟨qs, h1, ?_⟩, pu⟩)
  · exact p2s_put (Paired.app h1 (.cons (hq2.sb s) .nil)) e
  · rw [e1]
    exact List.Sublist.append h2 (List.Sublist.refl _)
  · rw [e1]
    exact h2.trans (List.sublist_append_left _ _)
/-- .. where the test made new things only -/
theorem pl_quiet {p D : Addr} {n i : Nat} {pls : List (Str × Str)} {xs acc : List V} {x : V} {H1 Ha Ga : Hp} {k : Nat} {σ : L2.St} {b : Bool} (npD : p ≠ D) (hD : H1 D = none) (hx : xs[i]? = some x) (hn : xs.length ≤ 25) (hq : P2s K [p] H1 pls xs) (hσ : σ[k]? = some (some x)) (s : SB [p] H1 Ha) (e : Ha D = some (.lst acc)) (hl : acc.length ≤ i)
    (hA : PlA K p n pls i acc Ha) (s2 : SB [] Ha Ga) :
    if b = true then tVar k σ Ga (fun y H4 => ∃ acc, H4 D = some (.lst acc) ∧ acc.length < sizeLine ∧ Pc [p] H1 D (PlA K p n pls) (i + 1) (upd H4 D (.lst (acc ++ [y])))) else Pc [p] H1 D (PlA K p n pls) (i + 1) Ga := by
  obtain ⟨⟨qs, h1, h2⟩, pu⟩ := hA
  have s3 : SB [p] Ha Ga := s2.wide (by simp)
  exact pl_turn npD hD hx (by have := sizeLine_eq; omega) hq hσ (s.trans s3) (s2 _ _ (by simp) e) hl ⟨qs, h1.sb s3, h2⟩ ((pu.sb s2 (by simp)).less (by omega))
def spHall (K : PySem.W.Frag) : Sp := fun vs H Q _ => ∃ (p : Addr) (n a b : Nat), vs = [.ref p, .int (a : Int), .int (b : Int)] ∧ Pu H p (n + 1000) ∧ 1 ≤ a ∧ a ≤ 5 ∧ 1 ≤ b ∧ b ≤ 5 ∧
  ∀ (nm wd : List Str) (pl : List (Str × Str)) v H', WorldT K [p] H' nm wd pl v → WOk a b nm wd pl → SB [p] H H' → Pu H' p n → Q v H'
theorem ok_hall (M : Bl mg) (F : Fn K mg "_law_hall" s__law_hall) (c__law_draw : Cal P w K mg base 2 "_law_draw" spDraw []) (c__law_people : Cal P w K mg base 5 "_law_people" spPeople []) (c__law_words : Cal P w K mg base 4 "_law_words" spWords []) (c__law_shuffled : Cal P w K mg base 3 "_law_shuffled" (spShuffled K) []) (c__law_places : Cal P w K mg base 1 "_law_places" (spPlaces K) []) :
    Cal P w K mg base 6 "_law_hall" (spHall K) [] := by
  refine F.cal sc__law_hall (fun _ _ F => FunD.bindsN F fun _ _ _ _ _ _ us hl => match us, hl with | [_, _, _], _ => rfl) (fun vs H Q E h => by obtain ⟨_, _, _, _, rfl, _⟩ := h; rfl) (fun f cdv A outer st H vs Q E hr h => ⟨_, PSs.nox ((pss_cons (ps_set (i := 3) sc__law_hall.nd rfl (Or.inl rfl) (pe_c c__law_people hr (by first | decide | omega) (by rfl) (pa_cons (pv 0) (pa_cons (pv 1) pa_nil))))
  (pss_cut (ps_set (i := 4) sc__law_hall.nd rfl (Or.inl rfl) (pe_ifExp (pt_cmpR op_gt (pe_c c__law_draw hr (by first | decide | omega) (by rfl) (pa_cons (pv 0) (pa_cons pe_int pa_nil))) pe_int (nomark _)) (pe_callB (sortedQ (K := K) rfl hr.units) (by rfl) M.sorted (by decide +kernel) (pa_cons (pe_c c__law_words hr (by first | decide | omega) (by rfl) (pa_cons (pv 0) (pa_cons (pv 2) pa_nil))) pa_nil)) (pe_c c__law_people hr (by first | decide | omega) (by rfl) (pa_cons (pv 0) (pa_cons (pv 2) pa_nil)))))
  (pss_cut (ps_if (PW.pt (pw_and (pt_cmpR op_eq (pe_c c__law_draw hr (by first | decide | omega) (by rfl) (pa_cons (pv 0) (pa_cons pe_int pa_nil))) pe_int (nomark _)) (pw_and1 (pt_cmpR (notInQ (K := K) rfl) (pe_ix (ixL (K := K) rfl) (pv 3) pe_int (fun _ _ => rfl)) (pv 4) rfl)))) (pss_one (ps_set (i := 4) sc__law_hall.nd rfl (Or.inl rfl) (pe_callB (sortedQ (K := K) rfl hr.units) (by rfl) M.sorted (by decide +kernel) (pa_cons (pe_op op_cat (pe_lst (pa_cons (pe_ix (ixL (K := K) rfl) (pv 3) pe_int (fun _ _ => rfl)) pa_nil)) (pe_slice (slL (K := K) rfl) (pv 4) (po_some pe_int) po_none)) pa_nil)))) pss_nil)
  (pss_cons (ps_asg (pe_tup (pa_cons (pe_lst (pa_cons (pv 3) (pa_cons (pv 4) (pa_cons (pe_lst pa_nil) pa_nil)))) (pa_cons (pe_c c__law_draw hr (by first | decide | omega) (by rfl) (pa_cons (pv 0) (pa_cons pe_int pa_nil))) pa_nil))) (pg_tupQ (K := K) (n := 2) rfl rfl (pgs_cons (pg_name (i := 5) sc__law_hall.nd rfl (Or.inl rfl)) (pgs_cons (pg_name (i := 6) sc__law_hall.nd rfl (Or.inr rfl)) pgs_nil))))
  (pss_cons (ps_asg (pe_tup (pa_cons (pe_c c__law_places hr (by first | decide | omega) (by rfl) (pa_cons (pv 5) pa_nil)) (pa_cons (pe_c c__law_shuffled hr (by first | decide | omega) (by rfl) (pa_cons (pv 0) (pa_cons (pv 3) pa_nil))) (pa_cons (pe_c c__law_shuffled hr (by first | decide | omega) (by rfl) (pa_cons (pv 0) (pa_cons (pv 4) pa_nil))) pa_nil)))) (pg_tupQ (K := K) (n := 3) rfl rfl (pgs_cons (pg_name (i := 7) sc__law_hall.nd rfl (Or.inl rfl)) (pgs_cons (pg_name (i := 8) sc__law_hall.nd rfl (Or.inr rfl)) (pgs_cons (pg_name (i := 9) sc__law_hall.nd rfl (Or.inr rfl)) pgs_nil)))))
  (pss_cut (ps_asg (pe_tup (pa_cons (pe_op op_add pe_int (pe_c c__law_draw hr (by first | decide | omega) (by rfl) (pa_cons (pv 0) (pa_cons (pv 1) pa_nil)))) (pa_cons (pe_op op_add pe_int (pe_c c__law_draw hr (by first | decide | omega) (by rfl) (pa_cons (pv 0) (pa_cons (pv 2) pa_nil)))) pa_nil))) (pg_tupQ (K := K) (n := 2) rfl rfl (pgs_cons (pg_name (i := 10) sc__law_hall.nd rfl (Or.inr rfl)) (pgs_cons (pg_name (i := 11) sc__law_hall.nd rfl (Or.inr rfl)) pgs_nil))))
  (pss_cut (ps_if (pt_cmpR op_eq (pv 6) pe_int (nomark _)) (pss_one (ps_setLc (i := 12) rfl sc__law_hall.nd rfl rfl (sw_true rfl rfl rfl (by decide +kernel)) (pi_listQ (K := K) rfl (pv 7)) (blkOk_by (N := ["_law_purse_here", "_law_people_here", "_law_clubs", "_law_crowd", "_law_groups", "_law_world", "_law_way", "_law_places_here", "_law_mixed_here", "_law_late", "_law_few", "_law_many", "_law_members", "_law_steps", "_law_match", "_law_place", "_law_at"]) (sc := defScope s__law_hall) (own := [("_law_place", 15)]) (by decide +kernel)) (fun _ _ _ _ _ => (pg_name (i := 15) sc__law_hall.nd rfl (Or.inl rfl))) (fun _ _ _ _ _ => (pts_one (PW.pt (pw_and (pt_cmpR (inQ (K := K) rfl) (pe_ix (ixT (K := K) rfl) (pv 15) pe_int (fun _ _ => rfl)) (pe_slice (slL (K := K) rfl) (pv 8) po_none (po_some (pv 10))) rfl) (pw_and1 (pt_cmpR (inQ (K := K) rfl) (pe_ix (ixT (K := K) rfl) (pv 15) pe_int (fun _ _ => rfl)) (pe_slice (slL (K := K) rfl) (pv 9) po_none (po_some (pv 11))) rfl)))))) (fun _ _ _ _ _ => (pv 15)))) (pss_one (ps_if (pt_cmpR op_eq (pv 6) pe_int (nomark _)) (pss_one (ps_setLc (i := 12) rfl sc__law_hall.nd rfl rfl (sw_true rfl rfl rfl (by decide +kernel)) (pi_listQ (K := K) rfl (pv 7)) (blkOk_by (N := ["_law_purse_here", "_law_people_here", "_law_clubs", "_law_crowd", "_law_groups", "_law_world", "_law_way", "_law_places_here", "_law_mixed_here", "_law_late", "_law_few", "_law_many", "_law_members", "_law_steps", "_law_match", "_law_place", "_law_at"]) (sc := defScope s__law_hall) (own := [("_law_place", 15)]) (by decide +kernel)) (fun _ _ _ _ _ => (pg_name (i := 15) sc__law_hall.nd rfl (Or.inl rfl))) (fun _ _ _ _ _ => (pts_one (pt_cmpR op_eq (pe_cmpR (inQ (K := K) rfl) (pe_ix (ixT (K := K) rfl) (pv 15) pe_int (fun _ _ => rfl)) (pe_slice (slL (K := K) rfl) (pv 8) po_none (po_some (pv 10))) rfl) (pe_cmpR (inQ (K := K) rfl) (pe_ix (ixT (K := K) rfl) (pv 15) pe_int (fun _ _ => rfl)) (pe_slice (slL (K := K) rfl) (pv 9) po_none (po_some (pv 11))) rfl) (nomark _)))) (fun _ _ _ _ _ => (pv 15)))) (pss_one (ps_if (pt_cmpR op_eq (pv 6) pe_int (nomark _)) (pss_cons (ps_set (i := 13) sc__law_hall.nd rfl (Or.inr rfl) (pe_lc rfl sc__law_hall.nd (pi_range1 (by rfl) M.range (pa_cons (pe_op op_sub (pe_op op_mul pe_int (pe_callB (call_min2 rfl) (by rfl) M.min (by decide +kernel) (pa_cons (pv 1) (pa_cons (pv 2) pa_nil)))) pe_int) pa_nil)) (blkOk_by (N := ["_law_purse_here", "_law_people_here", "_law_clubs", "_law_crowd", "_law_groups", "_law_world", "_law_way", "_law_places_here", "_law_mixed_here", "_law_late", "_law_few", "_law_many", "_law_members", "_law_steps", "_law_match", "_law_place", "_law_at"]) (sc := defScope s__law_hall) (own := [("_law_at", 16)]) (by decide +kernel)) (fun _ _ _ _ _ => (pg_name (i := 16) sc__law_hall.nd rfl (Or.inl rfl))) (fun _ _ _ _ _ => pts_nil) (fun _ _ _ _ _ => (pe_tup (pa_cons (pe_ix (ixL (K := K) rfl) (pv 8) (pe_op op_fdiv (pv 16) pe_int) (fun _ _ => rfl)) (pa_cons (pe_ix (ixL (K := K) rfl) (pv 9) (pe_op op_fdiv (pe_op op_add (pv 16) pe_int) pe_int) (fun _ _ => rfl)) pa_nil))))))
  (pss_one (ps_setLc (i := 12) rfl sc__law_hall.nd rfl rfl (sw_true rfl rfl rfl (by decide +kernel)) (pi_listQ (K := K) rfl (pv 7)) (blkOk_by (N := ["_law_purse_here", "_law_people_here", "_law_clubs", "_law_crowd", "_law_groups", "_law_world", "_law_way", "_law_places_here", "_law_mixed_here", "_law_late", "_law_few", "_law_many", "_law_members", "_law_steps", "_law_match", "_law_place", "_law_at"]) (sc := defScope s__law_hall) (own := [("_law_place", 15)]) (by decide +kernel)) (fun _ _ _ _ _ => (pg_name (i := 15) sc__law_hall.nd rfl (Or.inl rfl))) (fun _ _ _ _ _ => (pts_one (pt_cmpR (inDQ (K := K) rfl (room65 hr)) (pv 15) (pv 13) rfl))) (fun _ _ _ _ _ => (pv 15))))) (pss_one (ps_if (pt_cmpR op_eq (pv 6) pe_int (nomark _)) (pss_cut (ps_set (i := 14) sc__law_hall.nd rfl (Or.inr rfl) (pe_ifExp (pt_cmpR op_eq (pe_c c__law_draw hr (by first | decide | omega) (by rfl) (pa_cons (pv 0) (pa_cons pe_int pa_nil))) pe_int (nomark _)) (pe_listZip rfl (by rfl) M.list (by rfl) M.zip (pa_cons (pv 8) (pa_cons (pv 9) pa_nil))) (pe_lst pa_nil)))
  (pss_one (ps_setLc (i := 12) rfl sc__law_hall.nd rfl rfl (sw_true rfl rfl rfl (by decide +kernel)) (pi_listQ (K := K) rfl (pv 7)) (blkOk_by (N := ["_law_purse_here", "_law_people_here", "_law_clubs", "_law_crowd", "_law_groups", "_law_world", "_law_way", "_law_places_here", "_law_mixed_here", "_law_late", "_law_few", "_law_many", "_law_members", "_law_steps", "_law_match", "_law_place", "_law_at"]) (sc := defScope s__law_hall) (own := [("_law_place", 15)]) (by decide +kernel)) (fun _ _ _ _ _ => (pg_name (i := 15) sc__law_hall.nd rfl (Or.inl rfl))) (fun _ _ _ _ _ => (pts_one (PW.pt (pw_or (pt_cmpR op_eq (pe_ix (ixT (K := K) rfl) (pv 15) pe_int (fun _ _ => rfl)) (pe_ix (ixL (K := K) rfl) (pv 8) pe_int (fun _ _ => rfl)) (nomark _)) (pw_or (pt_cmpR op_eq (pe_ix (ixT (K := K) rfl) (pv 15) pe_int (fun _ _ => rfl)) (pe_ix (ixL (K := K) rfl) (pv 9) pe_int (fun _ _ => rfl)) (nomark _)) (pw_or1 (pt_cmpR (inDQ (K := K) rfl (room65 hr)) (pv 15) (pv 14) rfl))))))) (fun _ _ _ _ _ => (pv 15))))) (pss_one (ps_setLc (i := 12) rfl sc__law_hall.nd rfl rfl (sw_true rfl rfl rfl (by decide +kernel)) (pi_listQ (K := K) rfl (pv 7)) (blkOk_by (N := ["_law_purse_here", "_law_people_here", "_law_clubs", "_law_crowd", "_law_groups", "_law_world", "_law_way", "_law_places_here", "_law_mixed_here", "_law_late", "_law_few", "_law_many", "_law_members", "_law_steps", "_law_match", "_law_place", "_law_at"]) (sc := defScope s__law_hall) (own := [("_law_place", 15)]) (by decide +kernel)) (fun _ _ _ _ _ => (pg_name (i := 15) sc__law_hall.nd rfl (Or.inl rfl))) (fun _ _ _ _ _ => (pts_one (pt_cmpR op_eq (pe_c c__law_draw hr (by first | decide | omega) (by rfl) (pa_cons (pv 0) (pa_cons (pe_op op_add pe_int (pe_callTy call_int1 (by rfl) M.int (by decide +kernel) (pa_cons (pe_cmpR op_eq (pv 6) pe_int (nomark _)) pa_nil))) pa_nil))) pe_int (nomark _)))) (fun _ _ _ _ _ => (pv 15)))))))))))
  (pss_one (ps_ret (pe_lst (pa_cons (pv 3) (pa_cons (pv 4) (pa_cons (pv 12) pa_nil)))))))))))))), ?_⟩)
  obtain ⟨p, n, a, b, rfl, hp, a1, a2, b1, b2, q⟩ := h
  refine ⟨_, rfl, _, rfl, p, n + 800, a, rfl, hp.less (by omega), a1, a2, fun lc nm H1 hlc elc wnm anm sb1 hp1 => ?_⟩
  have nc : lc ≠ p := fun z => hp.dom p (by simp) (z ▸ hlc)
  refine ⟨HSt K H p (n + 600) a b, ?_, fun σ1 G1 h1 => ?_⟩
  · refine ⟨_, rfl, p, n + 799, _, rfl, hp1, by decide, by decide, fun r H2 r1 r2 sb2 hp2 => ⟨_, _, rfl, rfl, _, rfl, ifB (fun _ => ?_) (fun _ => ?_)⟩⟩
    · refine ⟨_, rfl, _, rfl, p, n + 650, b, rfl, hp2.less (by omega), b1, b2, fun lg wd H3 hlg elg len nd ok sb3 hp3 => ?_⟩
      refine nilQ (sorted_ls (S := []) (m := wd.mergeSort leS) (RL.at elg (by simp)) (List.mergeSort_perm wd leS).symm (asc_sort nd) (by omega) fun y hy => ?_)
      have pm := List.mergeSort_perm wd leS
      have elc3 := (sb2.trans sb3) lc _ (by simp [nc]) elc
      exact ⟨lc, y, nm, _, rfl, rfl, rfl, rfl, rfl, rfl, by rw [upd_ne (ne_of_none elc3 hy)]; exact elc3, upd_same, wnm, anm, ⟨by rw [pm.length_eq]; exact len, pm.nodup_iff.mpr nd, fun x hx => ok x (pm.mem_iff.mp hx)⟩, asc_sort nd, ((sb1.trans sb2).trans sb3).new hy, (hp3.new hy).less (by omega), nc, Ne.symm (hp3.ne hy)⟩
    · refine ⟨_, rfl, _, rfl, p, n + 650, b, rfl, hp2.less (by omega), b1, b2, fun lg wd H3 hlg elg wwd awd sb3 hp3 => ?_⟩
      have elc3 := (sb2.trans sb3) lc _ (by simp [nc]) elc
      exact ⟨lc, lg, nm, wd, rfl, rfl, rfl, rfl, rfl, rfl, elc3, elg, wnm, anm, wwd, awd, (sb1.trans sb2).trans sb3, hp3.less (by omega), nc, fun z => hp2.dom p (by simp) (z ▸ hlg)⟩
  clear wnm anm hlc elc hp1 sb1 nc
  refine ⟨HSt K H p (n + 500) a b, ?_, fun σ2 G2 h2 => ?_⟩
  · obtain ⟨lc, lg, nm, wd, k0, k1, k2, k3, k4, k5, elc, elg, wnm, anm, wwd, awd, s1, pu1, nc, ng⟩ := h1
    refine ⟨_, k1, p, n + 599, _, rfl, pu1, by decide, by decide, fun r H2 r1 r2 sb2 hp2 => ⟨rfl, _, rfl, ?_⟩⟩
    have elc2 := sb2 lc _ (by simp [nc]) elc
    have elg2 := sb2 lg _ (by simp [ng]) elg
    have here : HSt K H p (n + 500) a b σ1 H2 := ⟨lc, lg, nm, wd, k0, k1, k2, k3, k4, k5, elc2, elg2, wnm, anm, wwd, awd, s1.trans sb2, hp2.less (by omega), nc, ng⟩
    obtain ⟨c0, nm', enm⟩ : ∃ c0 nm', nm = c0 :: nm' := by
      cases nm with
      | nil => have := wnm.1; simp at this; omega
      | cons c0 nm' => exact ⟨c0, nm', rfl⟩
    have at0 : atI (nm.map V.str) 0 = some (V.str c0) := by rw [enm]; exact atI_nat (j := 0) rfl
    refine ifB (fun _ => ?_) (fun _ => ifN rfl here)
    refine ⟨_, k4, _, _, 0, _, rfl, rfl, SqL.of elc2, at0, _, k5, _, _, rfl, .inl (SqL.of elg2), rfl, flat_strs _, _, rfl, ?_⟩
    rw [inV_strs]
    refine ifB (fun hb => ?_) (fun _ => here)
    have hb' : c0 ∉ wd := by simpa using hb
    refine ⟨_, k4, _, _, 0, _, rfl, rfl, SqL.of elc2, at0, (by decide : (1 : Nat) ≤ sizeLine), fun s1' hs1 => ?_⟩
    have elg3 : (upd H2 s1' (.lst [V.str c0])) lg = some (.lst (wd.map V.str)) := by rw [upd_ne (ne_of_none elg2 hs1)]; exact elg2
    refine ⟨_, k5, _, rfl, _, _, rfl, SqL.of elg3, fun s2' hs2 => ?_⟩
    refine ⟨s1', s2', _, _, rfl, rfl, by rw [upd_ne (ne_of_none upd_same hs2)]; exact upd_same, upd_same, ?_, fun s3' hs3 => ?_⟩
    · have e := cutV_length (wd.map V.str) (some 1) none
      rw [List.length_map] at e
      have := wwd.1
      have := sizeLine_eq
      simp only [List.length_cons, List.length_nil]
      omega
    have ecut : [V.str c0] ++ cutV (wd.map V.str) (some 1) none = (c0 :: wd.drop 1).map V.str := by
      rw [show cutV (wd.map V.str) (some 1) none = (wd.map V.str).drop 1 from cutV_from _ 1, ← List.map_drop] <;> rfl
    have nd : (c0 :: wd.drop 1).Nodup := List.nodup_cons.mpr ⟨fun z => hb' (List.mem_of_mem_drop z), (List.drop_sublist 1 wd).nodup wwd.2.1⟩
    refine nilQ (sorted_ls (S := []) (m := (c0 :: wd.drop 1).mergeSort leS) (RL.at (by rw [upd_same, ecut]) (by simp)) (List.mergeSort_perm _ leS).symm (asc_sort nd) (by have := wwd.1; simp; omega) fun y hy => ?_)
    have pm := List.mergeSort_perm (c0 :: wd.drop 1) leS
    have lwd := wwd.1
    have sbn := ((((s1.trans sb2).new hs1).new hs2).new hs3).new (o := .lst (((c0 :: wd.drop 1).mergeSort leS).map V.str)) hy
    have pun := (((hp2.new (o := .lst [V.str c0]) hs1).new (o := .lst (cutV (wd.map V.str) (some 1) none)) hs2).new (o := .lst ([V.str c0] ++ cutV (wd.map V.str) (some 1) none)) hs3).new (o := .lst (((c0 :: wd.drop 1).mergeSort leS).map V.str)) hy
    have elcn : (upd (upd (upd (upd H2 s1' (.lst [V.str c0])) s2' (.lst (cutV (wd.map V.str) (some 1) none))) s3' (.lst ([V.str c0] ++ cutV (wd.map V.str) (some 1) none))) y (.lst (((c0 :: wd.drop 1).mergeSort leS).map V.str))) lc = some (.lst (nm.map V.str)) :=
      ((((SB.same (S := []) (H := H2)).new hs1).new hs2).new hs3).new hy lc _ (by simp) elc2
    refine ⟨lc, y, nm, _, by rw [List.length_set]; exact k0, by rw [List.getElem?_set_ne (by decide)]; exact k1, by rw [List.getElem?_set_ne (by decide)]; exact k2, by rw [List.getElem?_set_ne (by decide)]; exact k3, by rw [List.getElem?_set_ne (by decide)]; exact k4, by rw [List.getElem?_set_self (by rw [k0]; decide)], elcn, upd_same, wnm, anm, ⟨?_, pm.nodup_iff.mpr nd, fun x hx => ?_⟩, asc_sort nd, sbn, pun.less (by omega), nc, ?_⟩
    · rw [pm.length_eq, List.length_cons, List.length_drop]
      omega
    · rcases List.mem_cons.mp (pm.mem_iff.mp hx) with z | z
      · exact z ▸ wnm.2.2 c0 (by rw [enm]; simp)
      · exact wwd.2.2 x (List.mem_of_mem_drop z)
    · exact Ne.symm ((((hp2.new hs1).new hs2).new hs3).ne hy)
  clear h1
  obtain ⟨lc, lg, nm, wd, k0, k1, k2, k3, k4, k5, elc, elg, wnm, anm, wwd, awd, s1, pu1, nc, ng⟩ := h2
  -- world, way
  refine ⟨_, k4, _, k5, (by decide : (0 : Nat) ≤ sizeLine), fun lz hlz => ⟨(by decide : (3 : Nat) ≤ sizeLine), fun lw hlw => ?_⟩⟩
  refine ⟨_, k1, p, n + 499, _, rfl, (pu1.new hlz).new hlw, by decide, by decide, fun way H2 w1 w2 sb2 pu2 => ⟨(by decide : (2 : Nat) ≤ sizeLine), fun t ht => ⟨_, _, rfl, SqT.of upd_same, rfl, _, _, rfl, _, _, rfl, rfl, ?_⟩⟩⟩
  have elw2 := sb2 lw _ (by simp; exact Ne.symm ((pu1.new (o := .lst []) hlz).ne hlw)) upd_same
  have elz2 := sb2 lz _ (by simp; exact Ne.symm (pu1.ne hlz)) (by rw [upd_ne (ne_of_none upd_same hlw)]; exact upd_same)
  have sAll : SB [p] G2 (upd H2 t (.tup [.ref lw, .int way])) := (((SB.same.new hlz).new hlw).trans sb2).new ht
  have elc3 := sAll lc _ (by simp [nc]) elc
  have elg3 := sAll lg _ (by simp [ng]) elg
  have elw3 : (upd H2 t (.tup [.ref lw, .int way])) lw = some (.lst [.ref lc, .ref lg, .ref lz]) := by rw [upd_ne (ne_of_none elw2 ht)]; exact elw2
  have pu3 : Pu (upd H2 t (.tup [.ref lw, .int way])) p (n + 499) := pu2.new ht
  have s3 : SB [p] H (upd H2 t (.tup [.ref lw, .int way])) := s1.trans sAll
  generalize upd H2 t (.tup [.ref lw, .int way]) = H3 at elc3 elg3 elw3 pu3 s3
  -- places, mixed, late
  refine ⟨_, (by simp [k0]), lw, _, _, _, nm, wd, rfl, RL.at elw3 (by simp), ⟨lc, rfl, RL.at elc3 (by simp)⟩, ⟨lg, rfl, RL.at elg3 (by simp)⟩, by rw [wnm.1]; omega, by rw [wwd.1]; omega, fun lp xs H4 sm4 hlp elp hpp frp => ?_⟩
  have nmc : (nm.map V.str).length = a := by rw [List.length_map]; exact wnm.1
  have wdc : (wd.map V.str).length = b := by rw [List.length_map]; exact wwd.1
  have pu4 : Pu H4 p (n + 499) := pu3.sb (SB.of (S := []) sm4) (by simp)
  refine ⟨_, (by simp [k1]), _, (by simp [k4]), p, lc, n + 450, nm.map V.str, rfl, pu4.less (by omega), RL.at (sm4 _ _ elc3) (by simp [nc]), by omega, fun lm ys1 H5 hlm elm pm1 sb5 pu5 => ?_⟩
  refine ⟨_, (by simp [k1]), _, (by simp [k5]), p, lg, n + 400, wd.map V.str, rfl, pu5.less (by omega), RL.at (sb5 _ _ (by simp [ng]) (sm4 _ _ elg3)) (by simp [ng]), by omega, fun ll ys2 H6 hll ell pm2 sb6 pu6 => ⟨(by decide : (3 : Nat) ≤ sizeLine), fun t2 ht2 => ⟨_, _, rfl, SqT.of upd_same, rfl, _, _, rfl, _, _, rfl, _, _, rfl, rfl, ?_⟩⟩⟩
  obtain ⟨es1, rfl, pe1⟩ := perm_strs pm1
  obtain ⟨es2, rfl, pe2⟩ := perm_strs pm2
  have npl : lp ≠ p := fun z => pu3.dom p (by simp) (z ▸ hlp)
  have npm : lm ≠ p := fun z => pu4.dom p (by simp) (z ▸ hlm)
  have npL : ll ≠ p := fun z => pu5.dom p (by simp) (z ▸ hll)
  have s56 : SB [p] H4 (upd H6 t2 (.tup [.ref lp, .ref lm, .ref ll])) := (sb5.trans sb6).new ht2
  have elc6 := s56 lc _ (by simp [nc]) (sm4 _ _ elc3)
  have elg6 := s56 lg _ (by simp [ng]) (sm4 _ _ elg3)
  have elp6 := s56 lp _ (by simp [npl]) elp
  have elm6 : (upd H6 t2 (.tup [.ref lp, .ref lm, .ref ll])) lm = some (.lst (es1.map V.str)) := (sb6.new ht2) lm _ (by simp [npm]) elm
  have ell6 : (upd H6 t2 (.tup [.ref lp, .ref lm, .ref ll])) ll = some (.lst (es2.map V.str)) := by rw [upd_ne (ne_of_none ell ht2)]; exact ell
  have pp6 : P2s K [p] (upd H6 t2 (.tup [.ref lp, .ref lm, .ref ll])) (prod nm wd) xs := (p2s_out hpp fun i b eb => by
    have := frp i b eb
    simp
    rintro rfl
    exact pu3.dom b (by simp) this).sb s56
  have pu7 : Pu (upd H6 t2 (.tup [.ref lp, .ref lm, .ref ll])) p (n + 400) := pu6.new ht2
  have s7 : SB [p] H (upd H6 t2 (.tup [.ref lp, .ref lm, .ref ll])) := (s3.trans (SB.of sm4)).trans s56
  generalize upd H6 t2 (.tup [.ref lp, .ref lm, .ref ll]) = H7 at elc6 elg6 elp6 elm6 ell6 pp6 pu7 s7
  clear hlp elp hpp frp hlm elm pm1 hll ell pm2 sm4 sb5 sb6 pu5 pu6 ht2 elc3 elg3 elw3 elw2 elz2 sAll pu2 ht
  refine ⟨HSt2 K H p (n + 300) a b, ?_, fun σ3 G3 h3 => ?_⟩
  · refine ⟨.ref p, (by simp [k1]), .int (a : Int), (by simp [k2]), p, n + 399, _, rfl, pu7, by omega, by omega, fun r8 H8 r81 r82 sb8 pu8 => ⟨_, _, rfl, rfl, ?_⟩⟩
    refine ⟨.ref p, (by simp [k1]), .int (b : Int), (by simp [k3]), p, n + 398, _, rfl, pu8, by omega, by omega, fun r9 H9 r91 r92 sb9 pu9 => ⟨_, _, rfl, rfl, (by decide : (2 : Nat) ≤ sizeLine), fun t3 ht3 => ⟨_, _, rfl, SqT.of upd_same, rfl, _, _, rfl, _, _, rfl, rfl, ?_⟩⟩⟩
    have s9 := (sb8.trans sb9).new (o := .tup [.int (1 + r8), .int (1 + r9)]) ht3
    exact ⟨lc, lg, lp, lm, ll, nm, wd, xs, es1, es2, 1 + r8, 1 + r9, way, by simp [k0], by simp [k1], by simp [k2], by simp [k3], by simp [k4], by simp [k5], by simp [k0], by simp [k0], by simp [k0], by simp [k0], by simp [k0], by simp [k0],
      s9 _ _ (by simp [nc]) elc6, s9 _ _ (by simp [ng]) elg6, wnm, anm, wwd, awd, s7.trans s9, (pu9.new ht3).less (by omega), nc, ng, s9 _ _ (by simp [npl]) elp6, pp6.sb s9, npl, s9 _ _ (by simp [npm]) elm6, pe1, npm, s9 _ _ (by simp [npL]) ell6, pe2, npL⟩
  clear elc6 elg6 elp6 elm6 ell6 pp6 pu7 s7 npl npm npL pe1 pe2
  clear k0 k1 k2 k3 k4 k5 elc elg wnm anm wwd awd s1 pu1 nc ng
  refine ⟨HSt3 K H p n a b, ?_, fun σ4 G4 h4 => ?_⟩
  · obtain ⟨lc, lg, lp, lm, ll, nm, wd, xs, es1, es2, few, many, way, k0, e0, e1, e2, e3, e4, e6, e7, e8, e9, e10, e11, elc, elg, wnm, anm, wwd, awd, s1, pu1, nc, ng, elp, pp, npl, elm, pe1, npm, ell, pe2, npL⟩ := h3
    have lxs : xs.length ≤ 25 := by
      rw [pp.len, prod_len, wnm.1, wwd.1]
      exact Nat.mul_le_mul a2 b2
    have fin : ∀ (σ' : L2.St) (G0 : Hp) (D : Addr) (G' : Hp) (acc : List V), σ'.length = 17 → σ'[3]? = some (some (.ref lc)) → σ'[4]? = some (some (.ref lg)) → SB [p] G3 G0 → p ≠ D → SB [p] G0 G' → G' D = some (.lst acc) → PlA K p n (prod nm wd) xs.length acc G' → HSt3 K H p n a b (σ'.set 12 (some (.ref D))) G' :=
      fun σ' G0 D G' acc j0 j3 j4 sA npD sB e hA => by
        obtain ⟨⟨qs, h1, h2⟩, pu⟩ := hA
        have sC := sA.trans sB
        exact ⟨lc, lg, D, nm, wd, acc, qs, by rw [List.getElem?_set_ne (by decide)]; exact j3, by rw [List.getElem?_set_ne (by decide)]; exact j4, by rw [List.getElem?_set_self (by rw [j0]; decide)], sC _ _ (by simp [nc]) elc, sC _ _ (by simp [ng]) elg, wnm, anm, wwd, awd, s1.trans sC, pu.less (by omega), nc, ng, e, h1, Ne.symm npD, h2.trans (List.take_sublist _ _)⟩
    have h0 : ∀ (G0 : Hp) (D : Addr), Pu G0 p (n + 200) → G0 D = none → PlA K p n (prod nm wd) 0 [] (upd G0 D (.lst [])) := fun G0 D pu hD => ⟨⟨[], .nil, List.nil_sublist _⟩, (pu.new hD).less (by omega)⟩
    have rd : ∀ (σ' : L2.St) (x : V) (j : Nat), j ≠ 15 → ((wipe σ' [15]).set 15 (some x))[j]? = σ'[j]? := fun σ' x j hj => by
      rw [List.getElem?_set_ne (Ne.symm hj)]
      exact wipe_out (by simp [hj])
    have r15 : ∀ (σ' : L2.St) (x : V), σ'.length = 17 → ((wipe σ' [15]).set 15 (some x))[15]? = some (some x) := fun σ' x hl => by rw [List.getElem?_set_self (by rw [wipe_length, hl]; decide)]
    refine ⟨_, e6, rfl, _, rfl, ifB (fun _ => ?_) (fun _ => ?_)⟩
    · -- way 0
      refine ⟨_, e7, lp, rfl, ⟨_, SqL.of elp⟩, fun D hD => ?_⟩
      have npD : p ≠ D := pu1.ne hD
      refine lcR (S := [p]) (RL.at elp (by simp [npl])) hD (PlA K p n (prod nm wd)) (h0 _ _ (pu1.less (by omega)) hD) (fun i x acc Ha hxi sb e hl hA => ?_) (fun Ha acc sb e hl hA => fin _ _ _ _ _ k0 e3 e4 SB.same npD sb e hA)
      obtain ⟨q, hq1, t, rfl, rt⟩ := Paired.at1 pp hxi
      refine ⟨wipe1, V.ref t, r15 _ _ k0, t, _, 0, _, rfl, rfl, (rt.sb sb).sq, atI_nat (j := 0) rfl, V.ref lm, (rd _ _ 8 (by decide)).trans e8, V.int few, (rd _ _ 10 (by decide)).trans e10, _, rfl, lm, _, rfl, SqL.of (sb _ _ (by simp [npm]) elm), fun l1 hl1 => ?_⟩
      refine ⟨_, _, rfl, .inl (SqL.of upd_same), rfl, flat_cut _ _ _, _, rfl, ifB (fun _ => ?_) (fun _ => ?_)⟩
      · have sb1 := sb.new (o := .lst (cutV (es1.map V.str) none (some few))) hl1
        refine ⟨V.ref t, r15 _ _ k0, t, _, 1, _, rfl, rfl, (rt.sb sb1).sq, atI_nat (j := 1) rfl, V.ref ll, (rd _ _ 9 (by decide)).trans e9, V.int many, (rd _ _ 11 (by decide)).trans e11, _, rfl, ll, _, rfl, SqL.of (sb1 _ _ (by simp [npL]) ell), fun l2 hl2 => ?_⟩
        refine ⟨_, _, rfl, .inl (SqL.of upd_same), rfl, flat_cut _ _ _, _, rfl, ?_⟩
        exact pl_quiet npD hD hxi lxs pp (r15 _ _ k0) sb e hl hA ((SB.same.new hl1).new hl2)
      · exact pl_quiet npD hD hxi lxs pp (r15 _ _ k0) sb e hl hA (SB.same.new hl1)
    refine ⟨_, e6, rfl, _, rfl, ifB (fun _ => ?_) (fun _ => ?_)⟩
    · -- way 1
      refine ⟨_, e7, lp, rfl, ⟨_, SqL.of elp⟩, fun D hD => ?_⟩
      have npD : p ≠ D := pu1.ne hD
      refine lcR (S := [p]) (RL.at elp (by simp [npl])) hD (PlA K p n (prod nm wd)) (h0 _ _ (pu1.less (by omega)) hD) (fun i x acc Ha hxi sb e hl hA => ?_) (fun Ha acc sb e hl hA => fin _ _ _ _ _ k0 e3 e4 SB.same npD sb e hA)
      obtain ⟨q, hq1, t, rfl, rt⟩ := Paired.at1 pp hxi
      refine ⟨wipe1, V.ref t, r15 _ _ k0, t, _, 0, _, rfl, rfl, (rt.sb sb).sq, atI_nat (j := 0) rfl, V.ref lm, (rd _ _ 8 (by decide)).trans e8, V.int few, (rd _ _ 10 (by decide)).trans e10, _, rfl, lm, _, rfl, SqL.of (sb _ _ (by simp [npm]) elm), fun l1 hl1 => ?_⟩
      have sb1 := sb.new (o := .lst (cutV (es1.map V.str) none (some few))) hl1
      refine ⟨_, _, rfl, .inl (SqL.of upd_same), rfl, flat_cut _ _ _, V.ref t, r15 _ _ k0, t, _, 1, _, rfl, rfl, (rt.sb sb1).sq, atI_nat (j := 1) rfl, V.ref ll, (rd _ _ 9 (by decide)).trans e9, V.int many, (rd _ _ 11 (by decide)).trans e11, _, rfl, ll, _, rfl, SqL.of (sb1 _ _ (by simp [npL]) ell), fun l2 hl2 => ?_⟩
      refine ⟨_, _, rfl, .inl (SqL.of upd_same), rfl, flat_cut _ _ _, rfl, _, rfl, ?_⟩
      exact pl_quiet npD hD hxi lxs pp (r15 _ _ k0) sb e hl hA ((SB.same.new hl1).new hl2)
    refine ⟨_, e6, rfl, _, rfl, ifB (fun _ => ?_) (fun _ => ?_)⟩
    · -- way 2
      have les1 : es1.length = a := by rw [pe1.length_eq]; exact wnm.1
      have les2 : es2.length = b := by rw [pe2.length_eq]; exact wwd.1
      refine ⟨_, e1, _, e2, _, _, rfl, _, _, rfl, rfl, .inl ⟨by decide, by decide⟩, _, _, rfl, rfl, ?_⟩
      generalize emn : (if (b : Int) < (a : Int) then (b : Int) else (a : Int)) = mn
      have hmn : 1 ≤ mn ∧ mn ≤ a ∧ mn ≤ b := by rw [← emn]; split <;> omega
      refine ⟨_, rfl, by omega, by omega, fun D hD => ?_⟩
      have npD : p ≠ D := pu1.ne hD
      refine lcN (S := []) hD (fun i acc G => ∃ qs, P2s K [p] G qs acc ∧ ∀ q ∈ qs, PairOk q) ⟨[], .nil, by simp⟩ (fun i acc Ha hi sb e hl hA => ?_) (fun Ha acc sb e hl hA => ?_)
      · obtain ⟨qs, g1, g2⟩ := hA
        have hi1 : i / 2 < es1.length := by omega
        have hi2 : (i + 1) / 2 < es2.length := by omega
        have q1 : (0 + (i : Int)) / 2 = ((i / 2 : Nat) : Int) := by omega
        have q2 : (0 + (i : Int) + 1) / 2 = (((i + 1) / 2 : Nat) : Int) := by omega
        have at1 : atI (es1.map V.str) ((0 + (i : Int)) / 2) = some (V.str es1[i / 2]) := by rw [q1]; exact atI_nat (by rw [List.getElem?_map, List.getElem?_eq_getElem hi1]; rfl)
        have at2 : atI (es2.map V.str) ((0 + (i : Int) + 1) / 2) = some (V.str es2[(i + 1) / 2]) := by rw [q2]; exact atI_nat (by rw [List.getElem?_map, List.getElem?_eq_getElem hi2]; rfl)
        have r16 : ((wipe σ3 [16]).set 16 (some (V.int (0 + (i : Int)))))[16]? = some (some (V.int (0 + (i : Int)))) := by rw [List.getElem?_set_self (by rw [wipe_length, k0]; decide)]
        have rd2 : ∀ j, j ≠ 16 → ((wipe σ3 [16]).set 16 (some (V.int (0 + (i : Int)))))[j]? = σ3[j]? := fun j hj => by
          rw [List.getElem?_set_ne (Ne.symm hj)]
          exact wipe_out (by simp [hj])
        refine ⟨wipe1, V.ref lm, (rd2 8 (by decide)).trans e8, _, r16, _, _, rfl, rfl, ⟨by decide, by decide⟩, lm, _, _, _, rfl, rfl, SqL.of (sb _ _ (by simp) elm), at1, V.ref ll, (rd2 9 (by decide)).trans e9, _, r16, _, _, rfl, rfl, _, _, rfl, rfl, ⟨by decide, by decide⟩, ll, _, _, _, rfl, rfl, SqL.of (sb _ _ (by simp) ell), at2, (by decide : (2 : Nat) ≤ sizeLine), fun t ht => ?_⟩
        have nDt : D ≠ t := ne_of_none e ht
        have eD : (upd Ha t (.tup [V.str es1[i / 2], V.str es2[(i + 1) / 2]])) D = some (.lst acc) := by rw [upd_ne nDt]; exact e
        have npt : p ≠ t := (pu1.sb sb (by simp) : Pu Ha p (n + 300)).ne ht
        refine Pc.put hD hi (by have := sizeLine_eq; omega) hl (sb.new ht) eD ⟨qs ++ [(es1[i / 2], es2[(i + 1) / 2])], p2s_put (Paired.app (g1.sb (SB.same.new ht)) (.cons ⟨t, rfl, RT2.at upd_same (by simp; exact Ne.symm npt)⟩ .nil)) eD, fun q hq => ?_⟩
        rcases List.mem_append.mp hq with hq | hq
        · exact g2 q hq
        · rw [List.mem_singleton.mp hq]
          exact ⟨strOk_of (wnm.2.2 _ (pe1.mem_iff.mp (List.getElem_mem hi1))), strOk_of (wwd.2.2 _ (pe2.mem_iff.mp (List.getElem_mem hi2)))⟩
      · obtain ⟨qm, pqm, okm⟩ := hA
        have s5 : SB [p] G3 Ha := sb.wide (by simp)
        have pu5 := pu1.sb sb (by simp)
        have f : ∀ j, j ≠ 13 → (σ3.set 13 (some (V.ref D)))[j]? = σ3[j]? := fun j hj => List.getElem?_set_ne (Ne.symm hj)
        have k5 : (σ3.set 13 (some (V.ref D))).length = 17 := by rw [List.length_set]; exact k0
        have e13 : (σ3.set 13 (some (V.ref D)))[13]? = some (some (V.ref D)) := by rw [List.getElem?_set_self (by rw [k0]; decide)]
        have elp5 := s5 _ _ (by simp [npl]) elp
        have pp5 := pp.sb s5
        have eD := e
        have nD := npD
        refine ⟨_, (f 7 (by decide)).trans e7, lp, rfl, ⟨_, SqL.of elp5⟩, fun D2 hD2 => ?_⟩
        have npD2 : p ≠ D2 := pu5.ne hD2
        refine lcR (S := [p]) (RL.at elp5 (by simp [npl])) hD2 (PlA K p n (prod nm wd)) (h0 _ _ (pu5.less (by omega)) hD2) (fun i x acc2 Hb hxi sb2 e2' hl2 hA => ?_) (fun Hb acc2 sb2 e2' hl2 hA => fin _ _ _ _ _ k5 ((f 3 (by decide)).trans e3) ((f 4 (by decide)).trans e4) s5 npD2 sb2 e2' hA)
        obtain ⟨q, hq1, t, rfl, rt⟩ := Paired.at1 pp5 hxi
        have quiet : ∀ b : Bool, _ := fun b => pl_quiet (b := b) npD2 hD2 hxi lxs pp5 (r15 _ _ k5) sb2 e2' hl2 hA (SB.same (S := []))
        have okq : PairOk q := by
          obtain ⟨m1, m2⟩ := mem_prod.mp (List.mem_of_getElem? hq1)
          exact ⟨strOk_of (wnm.2.2 _ m1), strOk_of (wwd.2.2 _ m2)⟩
        exact ⟨wipe1, V.ref t, r15 _ _ k5, V.ref D, (rd _ _ 13 (by decide)).trans e13, _, _, p2_dp (K := K) (S := [p]) ⟨t, rfl, rt.sb sb2⟩, lp_dp (RL.at (sb2 _ _ (by simp [Ne.symm nD]) eD) (by simp [Ne.symm nD])) (pqm.sb sb2), shaped_p okq, shaped_ps okm, _, rfl, quiet _⟩
    refine ⟨_, e6, rfl, _, rfl, ifB (fun _ => ?_) (fun _ => ?_)⟩
    · -- way 3
      refine ⟨fun σ' G' => ∃ (lq : Addr) (ys : List V) (qs : List (Str × Str)), σ' = σ3.set 14 (some (.ref lq)) ∧ G' lq = some (.lst ys) ∧ lq ≠ p ∧ P2s K [p] G' qs ys ∧ (∀ q ∈ qs, PairOk q) ∧ SB [p] G3 G' ∧ Pu G' p (n + 299), ?_, fun σ5 G5 h5 => ?_⟩
      · refine ⟨_, e0, p, n + 299, _, rfl, pu1, by decide, by decide, fun r H2 r1 r2 sb2 hp2 => ⟨rfl, _, rfl, ifB (fun _ => ?_) (fun _ => ?_)⟩⟩
        · refine ⟨_, e8, _, e9, lm, ll, _, _, rfl, SqL.of (sb2 _ _ (by simp [npm]) elm), SqL.of (sb2 _ _ (by simp [npL]) ell), fun lq ts H4 sm hlq elq ltq hts => ?_⟩
          refine ⟨lq, ts, es1.zip es2, rfl, elq, Ne.symm (hp2.ne hlq), ?_, fun q hq => ?_, sb2.trans (SB.of sm), hp2.sb (SB.of (S := []) sm) (by simp)⟩
          · refine paired_of (by rw [ltq, List.length_zip, List.length_map, List.length_map]) fun i q v z1 z2 => ?_
            rw [List.getElem?_zip_eq_some] at z1
            obtain ⟨T, t1, t2, t3⟩ := hts i _ _ (by rw [List.getElem?_map, z1.1]; rfl) (by rw [List.getElem?_map, z1.2]; rfl)
            rw [t1] at z2
            cases z2
            exact ⟨T, rfl, RT2.at t3 (by simp; exact Ne.symm (hp2.ne t2))⟩
          · obtain ⟨m1, m2⟩ := List.of_mem_zip hq
            exact ⟨strOk_of (wnm.2.2 _ (pe1.mem_iff.mp m1)), strOk_of (wwd.2.2 _ (pe2.mem_iff.mp m2))⟩
        · refine ⟨(by decide : (0 : Nat) ≤ sizeLine), fun lq hlq => ⟨lq, [], [], rfl, upd_same, Ne.symm (hp2.ne hlq), .nil, by simp, sb2.new hlq, hp2.new hlq⟩⟩
      · obtain ⟨lq, ys, qm, rfl, elq, nlq, pqm, okm, s5, pu5⟩ := h5
        have f : ∀ j, j ≠ 14 → (σ3.set 14 (some (V.ref lq)))[j]? = σ3[j]? := fun j hj => List.getElem?_set_ne (Ne.symm hj)
        have k5 : (σ3.set 14 (some (V.ref lq))).length = 17 := by rw [List.length_set]; exact k0
        have e14 : (σ3.set 14 (some (V.ref lq)))[14]? = some (some (V.ref lq)) := by rw [List.getElem?_set_self (by rw [k0]; decide)]
        have elp5 := s5 _ _ (by simp [npl]) elp
        have pp5 := pp.sb s5
        refine ⟨_, (f 7 (by decide)).trans e7, lp, rfl, ⟨_, SqL.of elp5⟩, fun D hD => ?_⟩
        have npD : p ≠ D := pu5.ne hD
        refine lcR (S := [p]) (RL.at elp5 (by simp [npl])) hD (PlA K p n (prod nm wd)) (h0 _ _ (pu5.less (by omega)) hD) (fun i x acc Ha hxi sb e hl hA => ?_) (fun Ha acc sb e hl hA => fin _ _ _ _ _ k5 ((f 3 (by decide)).trans e3) ((f 4 (by decide)).trans e4) s5 npD sb e hA)
        obtain ⟨q, hq1, t, rfl, rt⟩ := Paired.at1 pp5 hxi
        obtain ⟨c0, z0, ec0⟩ : ∃ c0 z0, es1 = c0 :: z0 := by
          cases es1 with
          | nil => have h1 := pe1.length_eq; have h2 := wnm.1; rw [List.length_nil] at h1; omega
          | cons c0 z0 => exact ⟨c0, z0, rfl⟩
        obtain ⟨d0, y0, ed0⟩ : ∃ d0 y0, es2 = d0 :: y0 := by
          cases es2 with
          | nil => have h1 := pe2.length_eq; have h2 := wwd.1; rw [List.length_nil] at h1; omega
          | cons d0 y0 => exact ⟨d0, y0, rfl⟩
        have quiet : ∀ b : Bool, _ := fun b => pl_quiet (b := b) npD hD hxi lxs pp5 (r15 _ _ k5) sb e hl hA (SB.same (S := []))
        refine ⟨wipe1, V.ref t, r15 _ _ k5, t, _, 0, V.str q.1, rfl, rfl, (rt.sb sb).sq, atI_nat (j := 0) rfl, V.ref lm, ((rd _ _ 8 (by decide)).trans (f 8 (by decide))).trans e8, lm, _, 0, V.str c0, rfl, rfl, SqL.of ((s5.trans sb) _ _ (by simp [npm]) elm), by rw [ec0]; exact atI_nat (j := 0) rfl, rfl, _, rfl, ifB (fun _ => quiet true) (fun _ => ?_)⟩
        refine ⟨V.ref t, r15 _ _ k5, t, _, 1, V.str q.2, rfl, rfl, (rt.sb sb).sq, atI_nat (j := 1) rfl, V.ref ll, ((rd _ _ 9 (by decide)).trans (f 9 (by decide))).trans e9, ll, _, 0, V.str d0, rfl, rfl, SqL.of ((s5.trans sb) _ _ (by simp [npL]) ell), by rw [ed0]; exact atI_nat (j := 0) rfl, rfl, _, rfl, ifB (fun _ => quiet true) (fun _ => ?_)⟩
        have okq : PairOk q := by
          obtain ⟨m1, m2⟩ := mem_prod.mp (List.mem_of_getElem? hq1)
          exact ⟨strOk_of (wnm.2.2 _ m1), strOk_of (wwd.2.2 _ m2)⟩
        exact ⟨V.ref t, r15 _ _ k5, V.ref lq, (rd _ _ 14 (by decide)).trans e14, _, _, p2_dp (K := K) (S := [p]) ⟨t, rfl, rt.sb sb⟩, lp_dp (RL.at (sb _ _ (by simp [nlq]) elq) (by simp [nlq])) (pqm.sb sb), shaped_p okq, shaped_ps okm, _, rfl, quiet _⟩
    · -- drawn
      refine ⟨_, e7, lp, rfl, ⟨_, SqL.of elp⟩, fun D hD => ?_⟩
      have npD : p ≠ D := pu1.ne hD
      refine lcR (S := [p]) (RL.at elp (by simp [npl])) hD (PlA K p n (prod nm wd)) (h0 _ _ (pu1.less (by omega)) hD) (fun i x acc Ha hxi sb e hl hA => ?_) (fun Ha acc sb e hl hA => fin _ _ _ _ _ k0 e3 e4 SB.same npD sb e hA)
      obtain ⟨⟨qs, h1, h2⟩, pu⟩ := hA
      have hi : i < 25 := Nat.lt_of_lt_of_le (List.getElem?_eq_some_iff.mp hxi).1 lxs
      refine ⟨wipe1, V.ref p, (rd _ _ 0 (by decide)).trans e0, V.int way, (rd _ _ 6 (by decide)).trans e6, rfl, .inr ⟨_, rfl, _, _, rfl, rfl, ?_⟩⟩
      refine ⟨p, n + (25 - (i + 1)), _, rfl, pu.less (by omega), by split <;> omega, by split <;> omega, fun r Hb r1 r2 sbb pub => ⟨rfl, _, rfl, ?_⟩⟩
      exact pl_turn npD hD hxi (by have := sizeLine_eq; omega) pp (r15 _ _ k0) (sb.trans sbb) (sbb _ _ (by simp; exact Ne.symm npD) e) hl ⟨qs, h1.sb sbb, h2⟩ pub
  · obtain ⟨lc, lg, lx, nm, wd, xs, pl, e3, e4, e12, elc, elg, wnm, anm, wwd, awd, s9, pu9, nc, ng, elx, ppl, nx, sub⟩ := h4
    refine ⟨_, e3, _, e4, _, e12, (by decide : (3 : Nat) ≤ sizeLine), fun h hh => ?_⟩
    have np : p ≠ h := pu9.ne hh
    refine q nm wd pl _ _ ⟨h, lc, lg, lx, xs, rfl, by simp; exact Ne.symm np, upd_same, by simp [nc], ?_, by simp [ng], ?_, by simp [nx], ?_, ppl.sb (SB.same.new hh)⟩ ⟨wnm, anm, wwd, awd, sub⟩ (s9.new hh) (pu9.new hh)
    · rw [upd_ne (ne_of_none elc hh)]; exact elc
    · rw [upd_ne (ne_of_none elg hh)]; exact elg
    · rw [upd_ne (ne_of_none elx hh)]; exact elx
end
end K77
namespace K77
open PySem PySem.Spec PyProof.Rows C8 Ef
open L2 hiding E0 CX0 pass0 Fun
/-- what the text's top leaves: the classes at cT, cC -/
structure Fx (K : PySem.W.Frag) (mg : Str → Option Value) (cT cC : Addr) : Prop extends Bl mg where
  gLETTERS : ∃ u, mg "LETTERS" = some u ∧ L2.RelV (.str abc) u
  gTable : ∃ u, mg "Table" = some u ∧ L2.RelV (.ref cT) u
  clT : Cls K cT
  eT : ClsE K cT
  noT : ∀ f ∈ (["names", "words", "places", "grid"] : List Str), NoAttr K cT f
section
variable {P : Program} {w : World} {K : PySem.W.Frag} {mg : Str → Option Value} {base : Heap} {cT cC : Addr}
theorem sc_is_spelt : FnScope ["value", "letter"] ["value"] (defScope s_is_spelt) := ⟨rfl, rfl, rfl, by decide +kernel, rfl, by decide +kernel, by decide +kernel⟩
theorem sc_are_people : FnScope ["value", "person"] ["value"] (defScope s_are_people) := ⟨rfl, rfl, rfl, by decide +kernel, rfl, by decide +kernel, by decide +kernel⟩
theorem sc_check_people : FnScope ["value"] ["value"] (defScope s_check_people) := ⟨rfl, rfl, rfl, by decide +kernel, rfl, by decide +kernel, by decide +kernel⟩
theorem sc_check_clubs : FnScope ["value"] ["value"] (defScope s_check_clubs) := ⟨rfl, rfl, rfl, by decide +kernel, rfl, by decide +kernel, by decide +kernel⟩
theorem sc_is_place_of : FnScope ["people", "clubs", "value", "part"] ["people", "clubs", "value"] (defScope s_is_place_of) := ⟨rfl, rfl, rfl, by decide +kernel, rfl, by decide +kernel, by decide +kernel⟩
def spSpelt : Sp := fun vs H Q _ => ∃ x, vs = [.str x] ∧ WordOk x ∧ Q (.bl true) H
theorem ok_spelt (M : Fx K mg cT cC) (F : Fn K mg "is_spelt" s_is_spelt) : Cal P w K mg base 1 "is_spelt" spSpelt [] := by
  refine F.cal sc_is_spelt (fun _ _ F => FunD.bindsN F fun _ _ _ _ _ _ us hl => match us, hl with | [_], _ => rfl) (fun vs H Q E h => by obtain ⟨_, rfl, _⟩ := h; rfl) (fun f cdv A outer st H vs Q E hr h => ⟨_, PSs.nox ((pss_cons (ps_if (PW.pt (pw_or (pt_not (pt_val (pe_callB (isiQ (K := K) rfl) (by rfl) M.isinstance (by decide +kernel) (pa_cons (pv 0) (pa_cons (pe_bltn (v := .ty "str") (by rfl) M.str (by decide +kernel) rfl) pa_nil))))) (pw_or1 (pt_not (pt_chain op_lt op_lt pe_int (pe_callB call_len_str (by rfl) M.len boot_len (pa_cons (pv 0) pa_nil)) pe_int))))) (pss_one (ps_ret pe_bl)) pss_nil)
  (pss_cons (ps_for PassesOwn.never rfl (pi_str (pv 0)) (pg_name (i := 1) sc_is_spelt.nd rfl (Or.inl rfl)) (pss_one (ps_if (pt_cmpR op_notIn_sign (pv 1) (pe_gc (by rfl) M.gLETTERS) rfl) (pss_one (ps_ret pe_bl)) pss_nil)))
  (pss_one (ps_ret pe_bl))))), ?_⟩)
  obtain ⟨x, rfl, hx, q⟩ := h
  obtain ⟨x1, x2, x3⟩ := hx
  refine ⟨_, rfl, _, _, _, _, _, rfl, .ty _, .base (.str _), kit_str, _, rfl, ifN rfl ?_⟩
  refine ⟨_, rfl, _, rfl, by have := sizeLine_eq; omega, _, _, rfl, rfl, _, rfl, ifT (decide_eq_true (by omega)) ⟨_, _, rfl, rfl, _, rfl, ifN ?_ ?_⟩⟩
  · rw [decide_eq_true (show (x.length : Int) < 9 by omega)] <;> rfl
  refine ⟨_, rfl, x, rfl, forG (n := x.cps.size) (fun i σ H' => σ.length = 2 ∧ H' = H) ⟨rfl, rfl⟩ (fun i σ H' hi _ => hi) (fun σ H' _ => Nat.le_refl _) (fun i σ H' v H2 hi h hy => ?_) (fun σ H' h => ?_)⟩
  · obtain ⟨k0, rfl⟩ := h
    obtain ⟨rfl, c, hc, rfl⟩ := hy
    have hc2 : c ∈ x.cps.toList := List.mem_of_getElem? (by rw [Array.getElem?_toList]; exact hc)
    have hin : c ∈ abc.cps.toList := by
      have := x3 c hc2
      rw [abc_list]
      exact List.mem_map.mpr ⟨c - 97, List.mem_range.mpr (by omega), by omega⟩
    refine ⟨_, (by rw [List.getElem?_set_self (by rw [k0]; decide)]), c, abc, rfl, rfl, _, rfl, ifN ?_ ⟨by rw [List.length_set]; exact k0, rfl⟩⟩
    rw [decide_eq_true hin] <;> rfl
  · obtain ⟨k0, rfl⟩ := h
    exact q
/-- a list of words, all unlike -/
def spPeopleOk (K : PySem.W.Frag) (r : V) : Sp := fun vs H Q _ => ∃ (v : V) (ws : List Str), vs = [v] ∧ LS K [] H ws v ∧ ws ≠ [] ∧ ws.length ≤ 100 ∧ ws.Nodup ∧ (∀ x ∈ ws, WordOk x) ∧ ∀ H', Same H H' → Q r H'
theorem ok_are_people (M : Fx K mg cT cC) (F : Fn K mg "are_people" s_are_people) (c_is_spelt : Cal P w K mg base 1 "is_spelt" spSpelt []) : Cal P w K mg base 2 "are_people" (spPeopleOk K (.bl true)) [] := by
  refine F.cal sc_are_people (fun _ _ F => FunD.bindsN F fun _ _ _ _ _ _ us hl => match us, hl with | [_], _ => rfl) (fun vs H Q E h => by obtain ⟨_, _, rfl, _⟩ := h; rfl) (fun f cdv A outer st H vs Q E hr h => ⟨_, PSs.nox ((pss_cons (ps_if (PW.pt (pw_or (pt_not (pt_val (pe_callB (isiQ (K := K) rfl) (by rfl) M.isinstance (by decide +kernel) (pa_cons (pv 0) (pa_cons (pe_bltn (v := .ty "list") (by rfl) M.list (by decide +kernel) rfl) pa_nil))))) (pw_or (pt_cmpR (eqDQ (K := K) rfl hr.units) (pv 0) (pe_lst pa_nil) (nomark _)) (pw_or1 (pt_not (pt_val (pe_callB (allQ (K := K) rfl rfl) (by rfl) M.all (by decide +kernel) (pa_cons (pe_lc rfl sc_are_people.nd (pi_listQ (K := K) rfl (pv 0)) (blkOk_by (N := ["value", "person"]) (sc := defScope s_are_people) (own := [("person", 1)]) (by decide +kernel)) (fun _ _ _ _ _ => (pg_name (i := 1) sc_are_people.nd rfl (Or.inl rfl))) (fun _ _ _ _ _ => pts_nil) (fun _ _ _ _ _ => (pe_c c_is_spelt hr (by first | decide | omega) (by rfl) (pa_cons (pv 1) pa_nil)))) pa_nil)))))))) (pss_one (ps_ret pe_bl)) pss_nil)
  (pss_one (ps_ret (pe_cmpR op_eq (pe_lenSet2 rfl (hr.units) (by rfl) M.len (by rfl) M.set (pv 0)) (pe_callB (lenQ (K := K) rfl) (by rfl) M.len boot_len (pa_cons (pv 0) pa_nil)) (nomark _)))))), ?_⟩)
  obtain ⟨v, ws, rfl, ⟨a, rfl, ha⟩, h1, h2, h3, h4, q⟩ := h
  refine ⟨_, rfl, _, _, _, _, _, rfl, .ty _, rl_ty ha, kit_list (.list []), _, rfl, ifN rfl ?_⟩
  refine ⟨_, rfl, (by decide : (0 : Nat) ≤ sizeLine), fun l hl => ?_⟩
  have s0 : SB [] H (upd H l (.lst [])) := SB.same.new hl
  have ha1 := ha.sb s0
  refine ⟨dS ws, .list [], ls_dp ⟨a, rfl, ha1⟩, .lst (SqL.of upd_same) .nil, shaped_ss fun x hx => strOk_of (h4 x hx), shaped_nil, _, rfl, ifN ?_ ?_⟩
  · show PyData.eqvAll (ws.map PyData.str) [] = false
    cases ws with
    | nil => exact absurd rfl h1
    | cons _ _ => rfl
  refine ⟨_, rfl, a, rfl, ⟨_, ha1.sq⟩, fun D hD => ?_⟩
  refine lcR (S := []) ha1 hD (fun i acc _ => acc = (List.replicate i true).map V.bl) rfl (fun i x acc G hxi sb e hl' hA => ?_) (fun G acc sb e hl' hA => ?_)
  · rw [List.getElem?_map] at hxi
    obtain ⟨y, hy, rfl⟩ := Option.map_eq_some_iff.mp hxi
    have hi : i < ws.length := (List.getElem?_eq_some_iff.mp hy).1
    refine ⟨rfl, V.str y, rfl, y, rfl, h4 y (List.mem_of_getElem? hy), Pc.put (n := ws.length) hD hi (by have := sizeLine_eq; omega) hl' sb e ?_⟩
    rw [hA, List.replicate_succ', List.map_append] <;> rfl
  · refine ⟨_, List.replicate (ws.map V.str).length true, rfl, SqL.of (by rw [e, hA]), _, rfl, ifN ?_ ?_⟩
    · have : (List.replicate (ws.map V.str).length true).all id = true := by simp
      rw [this] <;> rfl
    have ha2 := ha1.sb sb
    refine ⟨_, rfl, a, rfl, .inl ⟨ws, ha2.sq, h3, by omega, _, rfl, _, _, rfl, .inl ha2.sq, rfl, ?_⟩⟩
    rw [List.length_map, decide_eq_true rfl]
    exact q G (SB.nil (s0.trans sb))
theorem ok_check_people (M : Fx K mg cT cC) (F : Fn K mg "check_people" s_check_people) (c_are_people : Cal P w K mg base 2 "are_people" (spPeopleOk K (.bl true)) []) : Cal P w K mg base 3 "check_people" (spPeopleOk K .non) [] := by
  refine F.cal sc_check_people (fun _ _ F => FunD.bindsN F fun _ _ _ _ _ _ us hl => match us, hl with | [_], _ => rfl) (fun vs H Q E h => by obtain ⟨_, _, rfl, _⟩ := h; rfl) (fun f cdv A outer st H vs Q E hr h => ⟨_, PSs.nox ((pss_one (ps_if (pt_not (pt_val (pe_c c_are_people hr (by first | decide | omega) (by rfl) (pa_cons (pv 0) pa_nil)))) (pss_one (ps_never)) pss_nil))), ?_⟩)
  obtain ⟨v, ws, rfl, ha, h1, h2, h3, h4, q⟩ := h
  exact ⟨_, rfl, v, ws, rfl, ha, h1, h2, h3, h4, fun H' s => ⟨_, rfl, ifN rfl (q H' s)⟩⟩
theorem ok_check_clubs (M : Fx K mg cT cC) (F : Fn K mg "check_clubs" s_check_clubs) (c_are_people : Cal P w K mg base 2 "are_people" (spPeopleOk K (.bl true)) []) : Cal P w K mg base 3 "check_clubs" (spPeopleOk K .non) [] := by
  refine F.cal sc_check_clubs (fun _ _ F => FunD.bindsN F fun _ _ _ _ _ _ us hl => match us, hl with | [_], _ => rfl) (fun vs H Q E h => by obtain ⟨_, _, rfl, _⟩ := h; rfl) (fun f cdv A outer st H vs Q E hr h => ⟨_, PSs.nox ((pss_one (ps_if (pt_not (pt_val (pe_c c_are_people hr (by first | decide | omega) (by rfl) (pa_cons (pv 0) pa_nil)))) (pss_one (ps_never)) pss_nil))), ?_⟩)
  obtain ⟨v, ws, rfl, ha, h1, h2, h3, h4, q⟩ := h
  exact ⟨_, rfl, v, ws, rfl, ha, h1, h2, h3, h4, fun H' s => ⟨_, rfl, ifN rfl (q H' s)⟩⟩
/-- a place of these people and clubs -/
def spPlaceOf (K : PySem.W.Frag) : Sp := fun vs H Q _ => ∃ (v0 v1 v : V) (nm wd : List Str) (q : Str × Str), vs = [v0, v1, v] ∧ LS K [] H nm v0 ∧ LS K [] H wd v1 ∧ P2 K [] H q v ∧ q.1 ∈ nm ∧ q.2 ∈ wd ∧ WordOk q.1 ∧ WordOk q.2 ∧ ∀ H', Same H H' → Q (.bl true) H'
theorem ok_place_of (M : Fx K mg cT cC) (F : Fn K mg "is_place_of" s_is_place_of) (c_is_spelt : Cal P w K mg base 1 "is_spelt" spSpelt []) : Cal P w K mg base 2 "is_place_of" (spPlaceOf K) [] := by
  refine F.cal sc_is_place_of (fun _ _ F => FunD.bindsN F fun _ _ _ _ _ _ us hl => match us, hl with | [_, _, _], _ => rfl) (fun vs H Q E h => by obtain ⟨_, _, _, _, _, _, rfl, _⟩ := h; rfl) (fun f cdv A outer st H vs Q E hr h => ⟨_, PSs.nox ((pss_cons (ps_if (PW.pt (pw_or (pt_not (pt_val (pe_callB (isiQ (K := K) rfl) (by rfl) M.isinstance (by decide +kernel) (pa_cons (pv 2) (pa_cons (pe_bltn (v := .ty "tuple") (by rfl) M.tuple (by decide +kernel) rfl) pa_nil))))) (pw_or (pt_cmpR op_ne (pe_callB (lenQ (K := K) rfl) (by rfl) M.len boot_len (pa_cons (pv 2) pa_nil)) pe_int (nomark _)) (pw_or1 (pt_not (pt_val (pe_callB (allQ (K := K) rfl rfl) (by rfl) M.all (by decide +kernel) (pa_cons (pe_lc rfl sc_is_place_of.nd (pi_tupQ (K := K) rfl (pv 2)) (blkOk_by (N := ["people", "clubs", "value", "part"]) (sc := defScope s_is_place_of) (own := [("part", 3)]) (by decide +kernel)) (fun _ _ _ _ _ => (pg_name (i := 3) sc_is_place_of.nd rfl (Or.inl rfl))) (fun _ _ _ _ _ => pts_nil) (fun _ _ _ _ _ => (pe_c c_is_spelt hr (by first | decide | omega) (by rfl) (pa_cons (pv 3) pa_nil)))) pa_nil)))))))) (pss_one (ps_ret pe_bl)) pss_nil)
  (pss_one (ps_ret (pe_and (pe_cmpR (inQ (K := K) rfl) (pe_ix (ixT (K := K) rfl) (pv 2) pe_int (fun _ _ => rfl)) (pv 0) rfl) (pe_one (pe_cmpR (inQ (K := K) rfl) (pe_ix (ixT (K := K) rfl) (pv 2) pe_int (fun _ _ => rfl)) (pv 1) rfl))))))), ?_⟩)
  obtain ⟨v0, v1, v, nm, wd, q, rfl, ⟨n0, rfl, hn⟩, ⟨w0, rfl, hw⟩, ⟨t, rfl, ht⟩, m1, m2, o1, o2, k⟩ := h
  refine ⟨_, rfl, _, _, _, _, _, rfl, .ty _, rt_ty ht.rt, kit_tup (.tuple []), _, rfl, ifN rfl ?_⟩
  refine ⟨_, rfl, _, _, rfl, .inr ht.sq, rfl, _, rfl, ifN (by show (!decide (V.int 2 = V.int 2)) = false; rw [decide_eq_true rfl]; rfl) ?_⟩
  refine ⟨_, rfl, t, rfl, ⟨_, ht.sq⟩, fun D hD => ?_⟩
  refine lcG (S := []) (n := 2) hD (fun i acc _ => acc = (List.replicate i true).map V.bl) rfl (fun i G hi sb => ⟨[.str q.1, .str q.2], _, (ht.sb sb).sq, List.getElem?_eq_getElem (by simpa using hi)⟩) (fun G sb => ⟨_, (ht.sb sb).sq, Nat.le_refl _⟩) (fun i acc G x G' hi sb e hl2 hA hyl => ?_) (fun G acc sb e hl2 hA => ?_)
  · obtain ⟨rfl, hy⟩ := hyl
    have hx := hy _ (ht.sb sb).sq
    have : ∃ y, x = .str y ∧ WordOk y := by
      rcases (by omega : i = 0 ∨ i = 1) with z | z <;> subst z <;> simp at hx <;> subst hx
      · exact ⟨_, rfl, o1⟩
      · exact ⟨_, rfl, o2⟩
    obtain ⟨y, rfl, oy⟩ := this
    refine ⟨rfl, V.str y, rfl, y, rfl, oy, Pc.put (n := 2) hD hi (by decide) hl2 sb e ?_⟩
    rw [hA, List.replicate_succ', List.map_append] <;> rfl
  · refine ⟨_, List.replicate 2 true, rfl, SqL.of (by rw [e, hA]), _, rfl, ifN rfl ?_⟩
    refine ⟨_, rfl, t, _, 0, _, rfl, rfl, (ht.sb sb).sq, atI_nat (j := 0) rfl, _, rfl, _, _, rfl, .inl (hn.sb sb).sq, rfl, flat_strs _, ?_⟩
    rw [inV_strs]
    refine ⟨_, rfl, ifT (decide_eq_true m1) ?_⟩
    refine ⟨_, rfl, t, _, 1, _, rfl, rfl, (ht.sb sb).sq, atI_nat (j := 1) rfl, _, rfl, _, _, rfl, .inl (hw.sb sb).sq, rfl, flat_strs _, ?_⟩
    rw [inV_strs]
    have : (if false = true then !decide (q.2 ∈ wd) else decide (q.2 ∈ wd)) = true := decide_eq_true m2
    rw [this]
    exact k G (SB.nil sb)
end
end K77
namespace K77
open PySem PySem.Spec PyProof.Rows C8 Ef
open L2 hiding E0 CX0 pass0 Fun
section
variable {P : Program} {w : World} {K : PySem.W.Frag} {mg : Str → Option Value} {base : Heap} {cT cC : Addr}
theorem sc_Table___init__ : FnScope ["self", "people", "clubs", "members", "held", "place", "club", "person"] ["self", "people", "clubs", "members"] (defScope s_Table___init__) := ⟨rfl, rfl, rfl, by decide +kernel, rfl, by decide +kernel, by decide +kernel⟩
def gridOf (nm wd : List Str) (pl : List (Str × Str)) : List (List Int) := nm.map fun a => wd.map fun b => if (a, b) ∈ pl then 1 else 0
def TableAt (K : PySem.W.Frag) (cT : Addr) (S : List Addr) (H : Hp) (nm wd : List Str) (pl : List (Str × Str)) (v : V) : Prop :=
  ∃ (x dx : Addr) (l1 l2 l3 g : V), v = .ref x ∧ x ∉ S ∧ H x = some (.ins cT dx [("names", l1), ("words", l2), ("places", l3), ("grid", g)]) ∧ LS K S H nm l1 ∧ LS K S H wd l2 ∧ LP K S H pl l3 ∧ Rp K S H (dG (gridOf nm wd pl)) g
theorem TableAt.sb {S : List Addr} {H H' : Hp} {nm wd : List Str} {pl : List (Str × Str)} {v : V} (h : TableAt K cT S H nm wd pl v) (s : SB S H H') : TableAt K cT S H' nm wd pl v := by
  obtain ⟨x, dx, l1, l2, l3, g, e, n, hx, a, b, c, d⟩ := h
  exact ⟨x, dx, l1, l2, l3, g, e, n, s _ _ n hx, a.sb s, b.sb s, c.sb s, d.sb s⟩
theorem TableAt.less {S T : List Addr} {H : Hp} {nm wd : List Str} {pl : List (Str × Str)} {v : V} (h : TableAt K cT S H nm wd pl v) (s : ∀ b ∈ T, b ∈ S) : TableAt K cT T H nm wd pl v := by
  obtain ⟨x, dx, l1, l2, l3, g, e, n, hx, a, b, c, d⟩ := h
  exact ⟨x, dx, l1, l2, l3, g, e, fun z => n (s _ z), hx, a.less s, b.less s, c.less s, d.less s⟩
theorem RL.off {S : List Addr} {H : Hp} {a x C dx : Addr} {xs : List V} {fs : List (Str × V)} (h : RL K S H a xs) (hx : H x = some (.ins C dx fs)) : RL K (x :: S) H a xs := by
  rcases h with ⟨n, h⟩ | h
  · refine .inl ⟨fun z => ?_, h⟩
    rcases List.mem_cons.mp z with z | z
    · subst z
      rcases h with h | ⟨o, h⟩ <;> rw [hx] at h <;> cases h
    · exact n z
  · exact .inr h
theorem P2s.off {S : List Addr} {H : Hp} {x C dx : Addr} {xs : List V} {qs : List (Str × Str)} {fs : List (Str × V)} (h : P2s K S H qs xs) (hx : H x = some (.ins C dx fs)) : P2s K (x :: S) H qs xs := Paired.mapP h fun q v z => by
  obtain ⟨t, rfl, n, e⟩ := z
  refine ⟨t, rfl, fun z => ?_, e⟩
  rcases List.mem_cons.mp z with z | z
  · subst z
    rw [hx] at e
    cases e
  · exact n z
theorem Dom.sb {S : List Addr} {H H' : Hp} {x : Addr} (d : Dom S H) (s : SB [x] H H') (hx : x ∉ S) : Dom S H' := fun b hb => by
  have h := d b hb
  cases q : H b with
  | none => exact absurd q h
  | some o =>
    rw [s b o (by simp; rintro rfl; exact hx hb) q]
    exact fun e => nomatch e
/-- the keys of pairs, as len(set(..)) wants them -/
theorem p2s_keys {S : List Addr} {H : Hp} : ∀ {qs : List (Str × Str)} {xs : List V}, P2s K S H qs xs → ∃ ks : List (Addr × List Str), xs = ks.map (fun p => V.ref p.1) ∧ (∀ p ∈ ks, SqT K H p.1 (p.2.map V.str)) ∧ ks.map (·.2) = qs.map fun q => [q.1, q.2]
  | [], _, h => by
    cases h
    exact ⟨[], rfl, by simp, rfl⟩
  | q :: qs, xs, h => by
    cases h with
    | cons h1 h2 =>
      obtain ⟨ks, e1, e2, e3⟩ := p2s_keys h2
      obtain ⟨t, rfl, r⟩ := h1
      refine ⟨(t, [q.1, q.2]) :: ks, by rw [e1] <;> rfl, fun p hp => ?_, by rw [List.map_cons, List.map_cons, e3]⟩
      rcases List.mem_cons.mp hp with z | z
      · subst z
        exact r.sq
      · exact e2 p z
theorem rpl_ints' {S : List Addr} {H : Hp} (ns : List Int) : RpL K S H (ns.map PyData.int) (ns.map V.int) := rpl_ints.mpr rfl
structure TOk (nm0 nm wd0 wd : List Str) (pl0 pl : List (Str × Str)) : Prop where
  n : nm0.Perm nm
  na : Asc nm
  nk : ∀ x ∈ nm, WordOk x
  n1 : nm ≠ []
  n2 : nm.length ≤ 8
  d : wd0.Perm wd
  da : Asc wd
  dk : ∀ x ∈ wd, WordOk x
  d1 : wd ≠ []
  d2 : wd.length ≤ 8
  p : pl0.Perm pl
  pa : AscP pl
  pm : ∀ q ∈ pl, q.1 ∈ nm ∧ q.2 ∈ wd
  p2 : pl.length < 64
theorem asc_nodup {ws : List Str} (h : Asc ws) : ws.Nodup := List.Pairwise.imp (fun h => ltS_ne h) h
theorem ascP_nodup {ws : List (Str × Str)} (h : AscP ws) : ws.Nodup := by
  have : ∀ {p q : Str × Str}, ltP p q → p ≠ q := fun {p q} h e => by
    subst e
    rcases h with h | h
    · exact ltS_ne h rfl
    · exact ltS_ne h.2 rfl
  exact List.Pairwise.imp this h
def spInit (K : PySem.W.Frag) (cT : Addr) : Sp := fun vs H Q _ => ∃ (S : List Addr) (x dx : Addr) (vp vc vm : V) (nm0 nm wd0 wd : List Str) (pl0 pl : List (Str × Str)), vs = [.ref x, vp, vc, vm] ∧ Dom S H ∧ x ∉ S ∧ H x = some (.ins cT dx []) ∧
  LS K [] H nm0 vp ∧ LS K [] H wd0 vc ∧ (∃ am xs, vm = .ref am ∧ RL K [] H am xs ∧ P2s K S H pl0 xs) ∧ TOk nm0 nm wd0 wd pl0 pl ∧ ∀ H', SB [x] H H' → TableAt K cT S H' nm wd pl (.ref x) → Q .non H'
theorem ok_init (M : Fx K mg cT cC) (F : Kn K mg cT "Table" "Table.__init__" s_Table___init__) (c_check_people : Cal P w K mg base 3 "check_people" (spPeopleOk K .non) []) (c_check_clubs : Cal P w K mg base 3 "check_clubs" (spPeopleOk K .non) []) (c_is_place_of : Cal P w K mg base 2 "is_place_of" (spPlaceOf K) []) :
    Mak P w K mg base 4 "Table" cT (spInit K cT) [] := by
  refine F.mak sc_Table___init__ (fun _ _ F => FunD.bindsN F fun _ _ _ _ _ _ us hl => match us, hl with | [_, _, _, _], _ => rfl) (fun vs H Q E h => by obtain ⟨_, _, _, _, _, _, _, _, _, _, _, _, rfl, _⟩ := h; rfl) (fun f cdv A outer st H vs Q E hr h => ⟨_, PSs.nox ((pss_cons (ps_expr (pe_c c_check_people hr (by first | decide | omega) (by rfl) (pa_cons (pv 1) pa_nil)))
  (pss_cons (ps_expr (pe_c c_check_clubs hr (by first | decide | omega) (by rfl) (pa_cons (pv 2) pa_nil)))
  (pss_cons (ps_if (PW.pt (pw_or (pt_not (pt_val (pe_callB (isiQ (K := K) rfl) (by rfl) M.isinstance (by decide +kernel) (pa_cons (pv 3) (pa_cons (pe_bltn (v := .ty "list") (by rfl) M.list (by decide +kernel) rfl) pa_nil))))) (pw_or1 (pt_not (pt_val (pe_callB (allQ (K := K) rfl rfl) (by rfl) M.all (by decide +kernel) (pa_cons (pe_lc rfl sc_Table___init__.nd (pi_listQ (K := K) rfl (pv 3)) (blkOk_by (N := ["self", "people", "clubs", "members", "held", "place", "club", "person"]) (sc := defScope s_Table___init__) (own := [("place", 5)]) (by decide +kernel)) (fun _ _ _ _ _ => (pg_name (i := 5) sc_Table___init__.nd rfl (Or.inl rfl))) (fun _ _ _ _ _ => pts_nil) (fun _ _ _ _ _ => (pe_c c_is_place_of hr (by first | decide | omega) (by rfl) (pa_cons (pv 1) (pa_cons (pv 2) (pa_cons (pv 5) pa_nil)))))) pa_nil))))))) (pss_one (ps_never)) pss_nil)
  (pss_cons (ps_if (pt_cmpR op_lt (pe_lenSet2 rfl (hr.units) (by rfl) M.len (by rfl) M.set (pv 3)) (pe_callB (lenQ (K := K) rfl) (by rfl) M.len boot_len (pa_cons (pv 3) pa_nil)) (nomark _)) (pss_one (ps_never)) pss_nil)
  (pss_cons (ps_fld (pv 0) (pe_callB (sortedQ (K := K) rfl hr.units) (by rfl) M.sorted (by decide +kernel) (pa_cons (pv 1) pa_nil)) rfl)
  (pss_cons (ps_fld (pv 0) (pe_callB (sortedQ (K := K) rfl hr.units) (by rfl) M.sorted (by decide +kernel) (pa_cons (pv 2) pa_nil)) rfl)
  (pss_cons (ps_fld (pv 0) (pe_callB (sortedQ (K := K) rfl hr.units) (by rfl) M.sorted (by decide +kernel) (pa_cons (pv 3) pa_nil)) rfl)
  (pss_cons (ps_set (i := 4) sc_Table___init__.nd rfl (Or.inr rfl) (pe_dcT hr.units0 rfl sc_Table___init__.nd (pi_listQ (K := K) rfl (pv 3)) (blkOk_by (N := ["self", "people", "clubs", "members", "held", "place", "club", "person"]) (sc := defScope s_Table___init__) (own := [("place", 5)]) (by decide +kernel)) (fun _ _ _ _ _ => (pg_name (i := 5) sc_Table___init__.nd rfl (Or.inl rfl))) (fun _ _ _ _ _ => (pv 5)) (fun _ _ _ _ _ => pe_bl)))
  (pss_one (ps_fld (pv 0) (pe_lc rfl sc_Table___init__.nd (pi_listQ (K := K) rfl (pe_fldQ (K := K) rfl (pv 0) (by rfl))) (blkOk_by (N := ["self", "people", "clubs", "members", "held", "place", "club", "person"]) (sc := defScope s_Table___init__) (own := [("person", 7)]) (by decide +kernel)) (fun _ _ _ _ _ => (pg_name (i := 7) sc_Table___init__.nd rfl (Or.inr rfl))) (fun _ _ _ _ _ => pts_nil) (fun _ _ _ _ _ => (pe_lc rfl sc_Table___init__.nd (pi_listQ (K := K) rfl (pe_fldQ (K := K) rfl (pv 0) (by rfl))) (blkOk_by (N := ["self", "people", "clubs", "members", "held", "place", "club", "person"]) (sc := ⟨.function, [(".0", .local), ("person", .cell), ("held", .cell), ("self", .cell)], false, false, []⟩) (own := [("club", 6)]) (by decide +kernel)) (fun _ _ _ _ _ => (pg_name (i := 6) sc_Table___init__.nd rfl (Or.inl rfl))) (fun _ _ _ _ _ => pts_nil) (fun _ _ _ _ _ => (pe_callTy call_int1 (by rfl) M.int (by decide +kernel) (pa_cons (pe_cmp (pc_din (hu_of hr) (pe_tup (pa_cons (pv 7) (pa_cons (pv 6) pa_nil))) (pv 4))) pa_nil)))))) rfl))))))))))), ?_⟩)
  obtain ⟨S, x, dx, vp, vc, vm, nm0, nm, wd0, wd, pl0, pl, rfl, dom, hxS, hx0, ⟨ap, rfl, hp⟩, ⟨ac, rfl, hc⟩, ⟨am, xs, rfl, hm, hq⟩, ok, k⟩ := h
  have xp : RL K [x] H ap (nm0.map V.str) := RL.off hp hx0
  have xc : RL K [x] H ac (wd0.map V.str) := RL.off hc hx0
  have xm : RL K [x] H am xs := RL.off hm hx0
  have xq : P2s K (x :: S) H pl0 xs := P2s.off hq hx0
  have up : ∀ {G G' : Hp}, SB [x] G G' → SB (x :: S) G G' := fun s => s.wide (by simp)
  have lnm : nm0.length = nm.length := ok.n.length_eq
  have lwd : wd0.length = wd.length := ok.d.length_eq
  have lpl : pl0.length = pl.length := ok.p.length_eq
  have lxs : xs.length = pl0.length := hq.len
  have n2 := ok.n2
  have d2 := ok.d2
  have p2 := ok.p2
  refine ⟨_, rfl, .ref ap, nm0, rfl, ⟨ap, rfl, hp⟩, (fun z => ok.n1 (by rw [z] at lnm; exact List.eq_nil_of_length_eq_zero lnm.symm)), by omega, ok.n.nodup_iff.mpr (asc_nodup ok.na), fun y hy => ok.nk y (ok.n.mem_iff.mp hy), fun H1 s1 => ?_⟩
  have a1 : SB [x] H H1 := SB.of s1
  refine ⟨_, rfl, .ref ac, wd0, rfl, ⟨ac, rfl, hc.sb (SB.of s1)⟩, (fun z => ok.d1 (by rw [z] at lwd; exact List.eq_nil_of_length_eq_zero lwd.symm)), by omega, ok.d.nodup_iff.mpr (asc_nodup ok.da), fun y hy => ok.dk y (ok.d.mem_iff.mp hy), fun H2 s2 => ?_⟩
  have a2 : SB [x] H H2 := a1.trans (SB.of s2)
  refine ⟨_, rfl, _, _, _, _, _, rfl, .ty _, rl_ty (xm.sb a2), kit_list (.list []), _, rfl, ifN rfl ?_⟩
  refine ⟨_, rfl, am, rfl, ⟨_, (xm.sb a2).sq⟩, fun D hD => ?_⟩
  have hD0 : H D = none := by
    cases z : H D with
    | none => rfl
    | some o => rw [s2 _ _ (s1 _ _ z)] at hD; cases hD
  refine lcR (S := []) ((xm.sb a2).less (by simp)) hD (fun i acc _ => acc = (List.replicate i true).map V.bl) rfl (fun i y acc G hyi sb e hl hA => ?_) (fun H3 acc sb e hl hA => ?_)
  · have hi : i < xs.length := (List.getElem?_eq_some_iff.mp hyi).1
    obtain ⟨q, hq1, hq2⟩ := Paired.at1 xq hyi
    have a3 : SB [x] H G := a2.trans (sb.wide (by simp))
    have mq := ok.pm q (ok.p.mem_iff.mp (List.mem_of_getElem? hq1))
    refine ⟨rfl, .ref ap, rfl, .ref ac, rfl, y, rfl, .ref ap, .ref ac, y, nm0, wd0, q, rfl, ⟨ap, rfl, (xp.sb a3).less (by simp)⟩, ⟨ac, rfl, (xc.sb a3).less (by simp)⟩, (hq2.sb (up a3)).less (by simp), ok.n.mem_iff.mpr mq.1, ok.d.mem_iff.mpr mq.2, ok.nk _ mq.1, ok.dk _ mq.2, fun G2 s3 => ?_⟩
    refine Pc.put (n := xs.length) hD hi (by have := sizeLine_eq; omega) hl (sb.trans (SB.of s3)) (s3 _ _ e) ?_
    rw [hA, List.replicate_succ', List.map_append] <;> rfl
  refine ⟨_, List.replicate xs.length true, rfl, SqL.of (by rw [e, hA]), _, rfl, ifN ?_ ?_⟩
  · have : (List.replicate xs.length true).all id = true := by simp
    rw [this] <;> rfl
  have a3 : SB [x] H H3 := a2.trans (sb.wide (by simp))
  obtain ⟨ks, ek, eks, ek2⟩ := p2s_keys (xq.sb (up a3))
  have lks : ks.length = xs.length := by rw [ek, List.length_map]
  refine ⟨_, rfl, am, rfl, .inr ⟨ks, by rw [← ek]; exact (xm.sb a3).sq, eks, ?_, by omega, _, rfl, _, _, rfl, .inl (xm.sb a3).sq, _, _, rfl, rfl, _, rfl, ifN ?_ ?_⟩⟩
  · rw [ek2]
    have nd := ok.p.nodup_iff.mpr (ascP_nodup ok.pa)
    refine List.Pairwise.map _ (fun a b hab z => hab ?_) nd
    simp at z
    exact Prod.ext z.1 z.2
  · rw [lks]
    simp
  have e3 : H3 x = some (.ins cT dx []) := by
    rw [sb _ _ (by simp) (s2 _ _ (s1 _ _ hx0))]
  clear e hA hl
  -- names
  refine ⟨_, rfl, nilQ (sorted_ls (S := []) (m := nm) ((xp.sb a3).less (by simp)) ok.n ok.na (by omega) fun l1 h1 => ?_)⟩
  have x1 : x ≠ l1 := ne_of_none e3 h1
  refine ⟨_, rfl, x, cT, dx, [], rfl, by rw [upd_ne x1]; exact e3, M.clT, M.noT _ (by simp), by simp, ?_⟩
  have e4 : (upd (upd H3 l1 (.lst (nm.map V.str))) x (.ins cT dx (putF "names" (.ref l1) []))) x = some (.ins cT dx [("names", .ref l1)]) := upd_same
  have a4 : SB [x] H (upd (upd H3 l1 (.lst (nm.map V.str))) x (.ins cT dx (putF "names" (.ref l1) []))) := (a3.new h1).put (by simp)
  have dm3 : Dom S H3 := Dom.sb dom a3 hxS
  have r1 : RL K (x :: S) (upd (upd H3 l1 (.lst (nm.map V.str))) x (.ins cT dx (putF "names" (.ref l1) []))) l1 (nm.map V.str) := RL.at (by rw [upd_ne (Ne.symm x1)]; exact upd_same) (by simp [Ne.symm x1, dm3.out h1])
  generalize upd (upd H3 l1 (.lst (nm.map V.str))) x (.ins cT dx (putF "names" (.ref l1) [])) = H4 at e4 a4 r1
  -- words
  refine ⟨_, rfl, nilQ (sorted_ls (S := []) (m := wd) ((xc.sb a4).less (by simp)) ok.d ok.da (by omega) fun l2 h2 => ?_)⟩
  have x2 : x ≠ l2 := ne_of_none e4 h2
  refine ⟨_, rfl, x, cT, dx, _, rfl, by rw [upd_ne x2]; exact e4, M.clT, M.noT _ (by simp), by simp, ?_⟩
  have e5 : (upd (upd H4 l2 (.lst (wd.map V.str))) x (.ins cT dx (putF "words" (.ref l2) [("names", .ref l1)]))) x = some (.ins cT dx [("names", .ref l1), ("words", .ref l2)]) := upd_same
  have b5 : SB [x] H4 (upd (upd H4 l2 (.lst (wd.map V.str))) x (.ins cT dx (putF "words" (.ref l2) [("names", .ref l1)]))) := (SB.same.new h2).put (by simp)
  have a5 := a4.trans b5
  have r1 := r1.sb (up b5)
  have dm4 : Dom S H4 := Dom.sb dom a4 hxS
  have r2 : RL K (x :: S) (upd (upd H4 l2 (.lst (wd.map V.str))) x (.ins cT dx (putF "words" (.ref l2) [("names", .ref l1)]))) l2 (wd.map V.str) := RL.at (by rw [upd_ne (Ne.symm x2)]; exact upd_same) (by simp [Ne.symm x2, dm4.out h2])
  generalize upd (upd H4 l2 (.lst (wd.map V.str))) x (.ins cT dx (putF "words" (.ref l2) [("names", .ref l1)])) = H5 at e5 a5 r1 r2 b5
  -- places
  refine ⟨_, rfl, nilQ (sorted_lp (S := x :: S) (m := pl) (xm.sb a5) (xq.sb (up a5)) ok.p ok.pa (by omega) fun l3 ys h3 hys => ?_)⟩
  have x3 : x ≠ l3 := ne_of_none e5 h3
  refine ⟨_, rfl, x, cT, dx, _, rfl, by rw [upd_ne x3]; exact e5, M.clT, M.noT _ (by simp), by simp, ?_⟩
  have e6 : (upd (upd H5 l3 (.lst ys)) x (.ins cT dx (putF "places" (.ref l3) [("names", .ref l1), ("words", .ref l2)]))) x = some (.ins cT dx [("names", .ref l1), ("words", .ref l2), ("places", .ref l3)]) := upd_same
  have b6 : SB [x] H5 (upd (upd H5 l3 (.lst ys)) x (.ins cT dx (putF "places" (.ref l3) [("names", .ref l1), ("words", .ref l2)]))) := (SB.same.new h3).put (by simp)
  have a6 := a5.trans b6
  have r1 := r1.sb (up b6)
  have r2 := r2.sb (up b6)
  have dm5 : Dom S H5 := Dom.sb dom a5 hxS
  have r3 : RL K (x :: S) (upd (upd H5 l3 (.lst ys)) x (.ins cT dx (putF "places" (.ref l3) [("names", .ref l1), ("words", .ref l2)]))) l3 ys := RL.at (by rw [upd_ne (Ne.symm x3)]; exact upd_same) (by simp [Ne.symm x3, dm5.out h3])
  have q3 := hys.sb (up b6)
  generalize upd (upd H5 l3 (.lst ys)) x (.ins cT dx (putF "places" (.ref l3) [("names", .ref l1), ("words", .ref l2)])) = H6 at e6 a6 r1 r2 r3 q3 b6
  -- held
  refine ⟨_, rfl, am, rfl, ⟨_, (xm.sb a6).sq⟩, fun D2 hD2 => ?_⟩
  refine dcR (S := []) ((xm.sb a6).less (by simp)) hD2 (fun i kvs _ => ∀ q : Str × Str, (valV kvs (kP q)).isSome = decide (q ∈ pl0.take i)) (fun q => rfl) (fun i y kvs G hyi sb e hl hA => ?_) (fun H7 kvs sb e hl hA => ?_)
  · obtain ⟨q, hq1, t, rfl, rt⟩ := Paired.at1 (xq.sb (up a6)) hyi
    have hi : i < xs.length := (List.getElem?_eq_some_iff.mp hyi).1
    refine ⟨rfl, _, rfl, kvs, kP q, t, rfl, sb _ _ (by simp) rt.2, e, by have := sizeLine_eq; omega, sb.mut hD2, _, upd_same, Nat.le_trans (length_putK _ _ _) (Nat.succ_le_succ hl), fun r => ?_⟩
    rw [valV_put]
    have e1 : pl0.take (i + 1) = pl0.take i ++ [q] := by rw [List.take_add_one, hq1] <;> rfl
    rw [e1]
    by_cases hr : r = q
    · subst hr
      simp
    · rw [if_neg (fun z => hr (kP_inj z)), hA r]
      simp [hr]
  rw [show xs.length = pl0.length from lxs, List.take_length] at hA
  have b7 : SB [x] H6 H7 := sb.wide (by simp)
  have a7 := a6.trans b7
  have e7 : H7 x = some (.ins cT dx [("names", .ref l1), ("words", .ref l2), ("places", .ref l3)]) := sb _ _ (by simp) e6
  have r1 := r1.sb (up b7)
  have r2 := r2.sb (up b7)
  have r3 := r3.sb (up b7)
  have q3 := q3.sb (up b7)
  -- grid
  have dm7 : Dom S H7 := Dom.sb dom a7 hxS
  have eD2 := e
  have cell : ∀ a b : Str, (valV kvs (kP (a, b))).isSome = decide ((a, b) ∈ pl) := fun a b => by
    rw [hA (a, b)]
    exact decide_eq_decide.mpr ok.p.mem_iff
  refine ⟨_, rfl, x, cT, dx, _, .ref l1, rfl, e7, M.clT, M.noT _ (by simp), rfl, l1, rfl, ⟨_, r1.sq⟩, fun Dg hDg => ?_⟩
  have xDg : x ≠ Dg := ne_of_none e7 hDg
  refine lcR (S := []) (r1.less (by simp)) hDg (fun i acc G => RpL K (Dg :: x :: S) G ((nm.take i).map fun a => .list ((wd.map fun b => if (a, b) ∈ pl then (1 : Int) else 0).map PyData.int)) acc) rfl (fun i y acc G hyi sg eg hlg hAg => ?_) (fun H8 acc sg eg hlg hAg => ?_)
  · rw [List.getElem?_map] at hyi
    obtain ⟨a, ha, rfl⟩ := Option.map_eq_some_iff.mp hyi
    have hi : i < nm.length := (List.getElem?_eq_some_iff.mp ha).1
    refine ⟨wipe1, _, rfl, x, cT, dx, _, .ref l2, rfl, sg _ _ (by simp) e7, M.clT, M.noT _ (by simp), rfl, l2, rfl, ⟨_, (r2.sb (sg.wide (by simp))).sq⟩, fun Dr hDr => ?_⟩
    refine lcR (S := []) ((r2.sb (sg.wide (by simp))).less (by simp)) hDr (fun j acc2 _ => acc2 = ((wd.take j).map fun b => if (a, b) ∈ pl then (1 : Int) else 0).map V.int) rfl (fun j y2 acc2 G2 hyj sr er hlr hAr => ?_) (fun G3 acc2 sr er hlr hAr => ?_)
    · rw [List.getElem?_map] at hyj
      obtain ⟨b, hb, rfl⟩ := Option.map_eq_some_iff.mp hyj
      have hj : j < wd.length := (List.getElem?_eq_some_iff.mp hb).1
      refine ⟨wipe1, V.str a, rfl, V.str b, rfl, (by decide : (2 : Nat) ≤ sizeLine), fun t ht => ?_⟩
      have eD : (upd G2 t (.tup [V.str a, V.str b])) D2 = some (.dT kvs) := by
        rw [upd_ne (ne_of_none (sr _ _ (by simp) (sg _ _ (by simp) eD2)) ht)]
        exact sr _ _ (by simp) (sg _ _ (by simp) eD2)
      refine ⟨V.ref D2, rfl, D2, valV kvs (kP (a, b)), rfl, DGet.t (kvs := kvs) (k := kP (a, b)) eD upd_same, .inr ⟨_, rfl, ?_⟩⟩
      · refine Pc.put (n := wd.length) hDr hj (by have := sizeLine_eq; omega) hlr (sr.new ht) (by rw [upd_ne (ne_of_none er ht)]; exact er) ?_
        rw [hAr, cell]
        have e1 : wd.take (j + 1) = wd.take j ++ [b] := by rw [List.take_add_one, hb] <;> rfl
        rw [e1, List.map_append, List.map_append]
        congr 1
        show [V.int (if decide ((a, b) ∈ pl) = true then 1 else 0)] = [V.int (if (a, b) ∈ pl then 1 else 0)]
        by_cases hm : (a, b) ∈ pl
        · rw [if_pos hm, if_pos (decide_eq_true hm)]
        · rw [if_neg hm, if_neg (by simp [hm])]
    · rw [List.length_map, List.take_length] at hAr
      have s8 : SB [] H7 G3 := sg.trans sr
      have out : Dr ∉ Dg :: x :: S := by
        have h1 : Dr ≠ Dg := fun z => by rw [z, eg] at hDr; cases hDr
        have h2 : Dr ≠ x := fun z => by rw [z, sg _ _ (by simp) e7] at hDr; cases hDr
        have h3 : Dr ∉ S := fun z => by
          cases q : H7 Dr with
          | none => exact dm7 Dr z q
          | some o => rw [sg _ _ (by simp) q] at hDr; cases hDr
        simp [h1, h2, h3]
      refine Pc.put (n := nm.length) hDg hi (by have := sizeLine_eq; omega) hlg s8 (sr _ _ (by simp) eg) ?_
      have e1 : nm.take (i + 1) = nm.take i ++ [a] := by rw [List.take_add_one, ha] <;> rfl
      rw [e1, List.map_append]
      have nDg : Dr ≠ Dg := fun z => out (by rw [z]; simp)
      refine RpL.snoc ((hAg.sb (sr.wide (by simp))).sb (SB.same.put (by simp))) ⟨Dr, _, rfl, RL.at (by rw [upd_ne nDg]; exact er) out, ?_⟩
      rw [hAr]
      exact rpl_ints' _
  · rw [List.length_map, List.take_length] at hAg
    have b8 : SB [x] H7 H8 := sg.wide (by simp)
    have a8 := a7.trans b8
    have e8 : H8 x = some (.ins cT dx [("names", .ref l1), ("words", .ref l2), ("places", .ref l3)]) := sg _ _ (by simp) e7
    refine ⟨_, rfl, x, cT, dx, _, rfl, e8, M.clT, M.noT _ (by simp), by simp, ?_⟩
    have b9 : SB [x] H8 (upd H8 x (.ins cT dx (putF "grid" (.ref Dg) [("names", .ref l1), ("words", .ref l2), ("places", .ref l3)]))) := SB.same.put (by simp)
    have b79 := b8.trans b9
    have sT : ∀ b ∈ S, b ∈ x :: S := fun b hb => List.mem_cons_of_mem _ hb
    refine k _ (a8.trans b9) ⟨x, dx, .ref l1, .ref l2, .ref l3, .ref Dg, rfl, hxS, upd_same, ⟨l1, rfl, (r1.sb (up b79)).less sT⟩, ⟨l2, rfl, (r2.sb (up b79)).less sT⟩, ⟨l3, ys, rfl, (r3.sb (up b79)).less sT, (q3.sb (up b79)).less sT⟩, Dg, acc, rfl, RL.at (by rw [upd_ne (Ne.symm xDg)]; exact eg) (dm7.out hDg), ?_⟩
    have hg : (gridOf nm wd pl).map (fun r => PyData.list (r.map PyData.int)) = nm.map fun a => PyData.list ((wd.map fun b => if (a, b) ∈ pl then (1 : Int) else 0).map PyData.int) := by
      unfold gridOf
      rw [List.map_map] <;> rfl
    rw [hg]
    exact (hAg.sb (b9.wide (by simp))).less (by simp [sT]; intro b hb; exact .inr (.inr hb))
end
end K77
namespace K77
open PySem PySem.Spec PyProof.Rows C8 Ef
open L2 hiding E0 CX0 pass0 Fun
section
variable {P : Program} {w : World} {K : PySem.W.Frag} {mg : Str → Option Value} {base : Heap} {cT cC : Addr}
theorem sc_Table_people : FnScope ["self"] ["self"] (defScope s_Table_people) := ⟨rfl, rfl, rfl, by decide +kernel, rfl, by decide +kernel, by decide +kernel⟩
theorem sc_Table_clubs : FnScope ["self"] ["self"] (defScope s_Table_clubs) := ⟨rfl, rfl, rfl, by decide +kernel, rfl, by decide +kernel, by decide +kernel⟩
theorem sc_Table_members : FnScope ["self"] ["self"] (defScope s_Table_members) := ⟨rfl, rfl, rfl, by decide +kernel, rfl, by decide +kernel, by decide +kernel⟩
theorem sc_Table___eq__ : FnScope ["self", "other"] ["self", "other"] (defScope s_Table___eq__) := ⟨rfl, rfl, rfl, by decide +kernel, rfl, by decide +kernel, by decide +kernel⟩
theorem sc_check_table : FnScope ["value"] ["value"] (defScope s_check_table) := ⟨rfl, rfl, rfl, by decide +kernel, rfl, by decide +kernel, by decide +kernel⟩
/-- what a method of a table is asked of -/
abbrev TabIn (K : PySem.W.Frag) (cT : Addr) (S : List Addr) (H : Hp) (nm wd : List Str) (pl : List (Str × Str)) (v : V) : Prop := TableAt K cT S H nm wd pl v
def spTellN (K : PySem.W.Frag) (cT : Addr) : Sp := fun vs H Q _ => ∃ (S : List Addr) (v : V) (nm wd : List Str) (pl : List (Str × Str)), vs = [v] ∧ TableAt K cT S H nm wd pl v ∧ ∀ l, H l = none → Q (.ref l) (upd H l (.lst (nm.map V.str)))
def spTellD (K : PySem.W.Frag) (cT : Addr) : Sp := fun vs H Q _ => ∃ (S : List Addr) (v : V) (nm wd : List Str) (pl : List (Str × Str)), vs = [v] ∧ TableAt K cT S H nm wd pl v ∧ ∀ l, H l = none → Q (.ref l) (upd H l (.lst (wd.map V.str)))
def spTellP (K : PySem.W.Frag) (cT : Addr) : Sp := fun vs H Q _ => ∃ (S : List Addr) (v : V) (nm wd : List Str) (pl : List (Str × Str)), vs = [v] ∧ TableAt K cT S H nm wd pl v ∧ ∀ l xs, H l = none → P2s K S H pl xs → Q (.ref l) (upd H l (.lst xs))
theorem ok_people_m (M : Fx K mg cT cC) (F : Mn K cT "people" "Table.people" s_Table_people) : Met P w K mg base 1 cT "people" (spTellN K cT) [] := by
  refine F.met M.clT sc_Table_people (fun _ _ F => FunD.bindsN F fun _ _ _ _ _ _ us hl => match us, hl with | [_], _ => rfl) (fun vs H Q E h => by obtain ⟨_, _, _, _, _, rfl, _⟩ := h; rfl) (fun f cdv A outer st H vs Q E hr h => ⟨_, PSs.nox ((pss_one (ps_ret (pe_callTy (listQ (K := K) rfl) (by rfl) M.list (by decide +kernel) (pa_cons (pe_fldQ (K := K) rfl (pv 0) (by rfl)) pa_nil))))), ?_⟩)
  obtain ⟨S, v, nm, wd, pl, rfl, ⟨x, dx, l1, l2, l3, g, rfl, hx, ex, ⟨a, rfl, ha⟩, h2, h3, h4⟩, k⟩ := h
  exact ⟨_, rfl, x, cT, dx, _, _, rfl, ex, M.clT, M.noT _ (by simp), rfl, a, _, rfl, .inl ha.sq, k⟩
theorem ok_clubs_m (M : Fx K mg cT cC) (F : Mn K cT "clubs" "Table.clubs" s_Table_clubs) : Met P w K mg base 1 cT "clubs" (spTellD K cT) [] := by
  refine F.met M.clT sc_Table_clubs (fun _ _ F => FunD.bindsN F fun _ _ _ _ _ _ us hl => match us, hl with | [_], _ => rfl) (fun vs H Q E h => by obtain ⟨_, _, _, _, _, rfl, _⟩ := h; rfl) (fun f cdv A outer st H vs Q E hr h => ⟨_, PSs.nox ((pss_one (ps_ret (pe_callTy (listQ (K := K) rfl) (by rfl) M.list (by decide +kernel) (pa_cons (pe_fldQ (K := K) rfl (pv 0) (by rfl)) pa_nil))))), ?_⟩)
  obtain ⟨S, v, nm, wd, pl, rfl, ⟨x, dx, l1, l2, l3, g, rfl, hx, ex, h1, ⟨a, rfl, ha⟩, h3, h4⟩, k⟩ := h
  exact ⟨_, rfl, x, cT, dx, _, _, rfl, ex, M.clT, M.noT _ (by simp), rfl, a, _, rfl, .inl ha.sq, k⟩
theorem ok_members_m (M : Fx K mg cT cC) (F : Mn K cT "members" "Table.members" s_Table_members) : Met P w K mg base 1 cT "members" (spTellP K cT) [] := by
  refine F.met M.clT sc_Table_members (fun _ _ F => FunD.bindsN F fun _ _ _ _ _ _ us hl => match us, hl with | [_], _ => rfl) (fun vs H Q E h => by obtain ⟨_, _, _, _, _, rfl, _⟩ := h; rfl) (fun f cdv A outer st H vs Q E hr h => ⟨_, PSs.nox ((pss_one (ps_ret (pe_callTy (listQ (K := K) rfl) (by rfl) M.list (by decide +kernel) (pa_cons (pe_fldQ (K := K) rfl (pv 0) (by rfl)) pa_nil))))), ?_⟩)
  obtain ⟨S, v, nm, wd, pl, rfl, ⟨x, dx, l1, l2, l3, g, rfl, hx, ex, h1, h2, ⟨a, xs, rfl, ha, hxs⟩, h4⟩, k⟩ := h
  exact ⟨_, rfl, x, cT, dx, _, _, rfl, ex, M.clT, M.noT _ (by simp), rfl, a, _, rfl, .inl ha.sq, fun l hl => k l xs hl hxs⟩
theorem eqv_strs : ∀ a b : List Str, PyData.eqvAll (a.map PyData.str) (b.map PyData.str) = decide (a = b)
  | [], [] => rfl
  | [], _ :: _ => rfl
  | _ :: _, [] => rfl
  | x :: a, y :: b => by
    show ((x == y) && PyData.eqvAll (a.map PyData.str) (b.map PyData.str)) = _
    rw [eqv_strs a b, Bool.eq_iff_iff]
    simp
theorem eqv_pairs : ∀ a b : List (Str × Str), PyData.eqvAll (a.map dP1) (b.map dP1) = decide (a = b)
  | [], [] => rfl
  | [], _ :: _ => rfl
  | _ :: _, [] => rfl
  | x :: a, y :: b => by
    show (PyData.eqvAll [.str x.1, .str x.2] [.str y.1, .str y.2] && PyData.eqvAll (a.map dP1) (b.map dP1)) = _
    have e : PyData.eqvAll [.str x.1, .str x.2] [.str y.1, .str y.2] = ((x.1 == y.1) && ((x.2 == y.2) && true)) := rfl
    rw [eqv_pairs a b, e, Bool.eq_iff_iff]
    simp [Prod.ext_iff]
/-- texts that may be laid -/
def TW (nm wd : List Str) (pl : List (Str × Str)) : Prop := (∀ x ∈ nm, PyData.strOk x = true) ∧ (∀ x ∈ wd, PyData.strOk x = true) ∧ ∀ q ∈ pl, PairOk q
def spEqT (K : PySem.W.Frag) (cT : Addr) : Sp := fun vs H Q _ => ∃ (v y : V) (nm wd : List Str) (pl : List (Str × Str)), vs = [v, y] ∧ TableAt K cT [] H nm wd pl v ∧ TW nm wd pl ∧
  ((∃ nm' wd' pl', TableAt K cT [] H nm' wd' pl' y ∧ TW nm' wd' pl' ∧ Q (.bl (decide (nm = nm' ∧ wd = wd' ∧ pl = pl'))) H) ∨ (∃ t, TyX K H y t ∧ PySem.W.kitOne K t (.ref cT) = some false ∧ Q (.bl false) H))
theorem tyT (M : Fx K mg cT cC) {H : Hp} {x dx : Addr} {fs : List (Str × V)} (h : H x = some (.ins cT dx fs)) : TyX K H (.ref x) (.ref cT) := .base (.ins h M.clT M.eT.ha M.eT.hn M.eT.htk M.eT.own.ob)
theorem ok_eqT (M : Fx K mg cT cC) (F : Mn K cT "__eq__" "Table.__eq__" s_Table___eq__) : Met P w K mg base 1 cT "__eq__" (spEqT K cT) [] := by
  refine F.met M.clT sc_Table___eq__ (fun _ _ F => FunD.bindsN F fun _ _ _ _ _ _ us hl => match us, hl with | [_, _], _ => rfl) (fun vs H Q E h => by obtain ⟨_, _, _, _, _, rfl, _⟩ := h; rfl) (fun f cdv A outer st H vs Q E hr h => ⟨_, PSs.nox ((pss_cons (ps_if (pt_not (pt_val (pe_callB (isiQ (K := K) rfl) (by rfl) M.isinstance (by decide +kernel) (pa_cons (pv 1) (pa_cons (pe_gc (by rfl) M.gTable) pa_nil))))) (pss_one (ps_ret pe_bl)) pss_nil)
  (pss_one (ps_ret (pe_and (pe_cmpR (eqDQ (K := K) rfl hr.units) (pe_fldQ (K := K) rfl (pv 0) (by rfl)) (pe_fldQ (K := K) rfl (pv 1) (by rfl)) (nomark _)) (pe_and (pe_cmpR (eqDQ (K := K) rfl hr.units) (pe_fldQ (K := K) rfl (pv 0) (by rfl)) (pe_fldQ (K := K) rfl (pv 1) (by rfl)) (nomark _)) (pe_one (pe_cmpR (eqDQ (K := K) rfl hr.units) (pe_fldQ (K := K) rfl (pv 0) (by rfl)) (pe_fldQ (K := K) rfl (pv 1) (by rfl)) (nomark _))))))))), ?_⟩)
  obtain ⟨v, y, nm, wd, pl, rfl, ⟨x, dx, l1, l2, l3, g, rfl, hx, ex, a1, a2, a3, a4⟩, tw, h⟩ := h
  rcases h with ⟨nm', wd', pl', ⟨x', dx', m1, m2, m3, g', rfl, hx', ex', b1, b2, b3, b4⟩, tw', q⟩ | ⟨t, ty, kt, q⟩
  · refine ⟨_, rfl, _, _, _, _, _, rfl, .own _, tyT M ex', M.eT.me, _, rfl, ifN rfl ?_⟩
    refine ⟨_, rfl, x, cT, dx, _, _, rfl, ex, M.clT, M.noT _ (by simp), rfl, _, rfl, x', cT, dx', _, _, rfl, ex', M.clT, M.noT _ (by simp), rfl, _, _, ls_dp a1, ls_dp b1, shaped_ss tw.1, shaped_ss tw'.1, _, rfl, ?_⟩
    have e1 : PyData.eqv (dS nm) (dS nm') = decide (nm = nm') := eqv_strs _ _
    rw [e1]
    refine ifB (fun h1 => ?_) (fun h1 => ?_)
    · refine ⟨_, rfl, x, cT, dx, _, _, rfl, ex, M.clT, M.noT _ (by simp), rfl, _, rfl, x', cT, dx', _, _, rfl, ex', M.clT, M.noT _ (by simp), rfl, _, _, ls_dp a2, ls_dp b2, shaped_ss tw.2.1, shaped_ss tw'.2.1, _, rfl, ?_⟩
      have e2 : PyData.eqv (dS wd) (dS wd') = decide (wd = wd') := eqv_strs _ _
      rw [e2]
      refine ifB (fun h2 => ?_) (fun h2 => ?_)
      · refine ⟨_, rfl, x, cT, dx, _, _, rfl, ex, M.clT, M.noT _ (by simp), rfl, _, rfl, x', cT, dx', _, _, rfl, ex', M.clT, M.noT _ (by simp), rfl, _, _, Rp.dp (lp_rp a3), Rp.dp (lp_rp b3), shaped_ps tw.2.2, shaped_ps tw'.2.2, ?_⟩
        have e3 : PyData.eqv (dP pl) (dP pl') = decide (pl = pl') := eqv_pairs _ _
        rw [e3]
        have : decide (pl = pl') = decide (nm = nm' ∧ wd = wd' ∧ pl = pl') := decide_eq_decide.mpr ⟨fun z => ⟨of_decide_eq_true h1, of_decide_eq_true h2, z⟩, fun z => z.2.2⟩
        rw [this]
        exact q
      · have : decide (nm = nm' ∧ wd = wd' ∧ pl = pl') = false := decide_eq_false fun z => of_decide_eq_false h2 z.2.1
        rw [this] at q
        exact q
    · have : decide (nm = nm' ∧ wd = wd' ∧ pl = pl') = false := decide_eq_false fun z => of_decide_eq_false h1 z.1
      rw [this] at q
      exact q
  · exact ⟨_, rfl, _, _, _, _, _, rfl, .own _, ty, kt, _, rfl, ifT rfl q⟩
def spEqC (K : PySem.W.Frag) (cC : Addr) : Sp := fun vs H Q _ => ∃ (v y : V) (t : Value), vs = [v, y] ∧ TyX K H y t ∧ PySem.W.kitOne K t (.ref cC) = some false ∧ Q (.bl false) H
def spCheckT (K : PySem.W.Frag) (cT : Addr) : Sp := fun vs H Q _ => ∃ (S : List Addr) (v : V) (nm wd : List Str) (pl : List (Str × Str)), vs = [v] ∧ TableAt K cT S H nm wd pl v ∧ Q .non H
theorem ok_check_table (M : Fx K mg cT cC) (F : Fn K mg "check_table" s_check_table) : Cal P w K mg base 1 "check_table" (spCheckT K cT) [] := by
  refine F.cal sc_check_table (fun _ _ F => FunD.bindsN F fun _ _ _ _ _ _ us hl => match us, hl with | [_], _ => rfl) (fun vs H Q E h => by obtain ⟨_, _, _, _, _, rfl, _⟩ := h; rfl) (fun f cdv A outer st H vs Q E hr h => ⟨_, PSs.nox ((pss_one (ps_if (pt_not (pt_val (pe_callB (isiQ (K := K) rfl) (by rfl) M.isinstance (by decide +kernel) (pa_cons (pv 0) (pa_cons (pe_gc (by rfl) M.gTable) pa_nil))))) (pss_one (ps_never)) pss_nil))), ?_⟩)
  obtain ⟨S, v, nm, wd, pl, rfl, ⟨x, dx, l1, l2, l3, g, rfl, hx, ex, a1, a2, a3, a4⟩, q⟩ := h
  exact ⟨_, rfl, _, _, _, _, _, rfl, .own _, tyT M ex, M.eT.me, _, rfl, ifN rfl q⟩
end
end K77
namespace K77
open PySem PySem.Spec PyProof.Rows C8 Ef
open L2 hiding E0 CX0 pass0 Fun
section
variable {P : Program} {w : World} {K : PySem.W.Frag} {mg : Str → Option Value} {base : Heap} {cT cC : Addr}
theorem sc__law_table : FnScope ["_law_world", "_law_step"] ["_law_world"] (defScope s__law_table) := ⟨rfl, rfl, rfl, by decide +kernel, rfl, by decide +kernel, by decide +kernel⟩
theorem mono_var {i : Nat} (σ : L2.St) (H : Hp) (Q Q' : VK) (h : ∀ v H', Q v H' → Q' v H') (q : tVar i σ H Q) : tVar i σ H Q' := let ⟨v, e, q⟩ := q; ⟨v, e, h _ _ q⟩
/-- people, clubs and members as three lists in one, read only -/
def WorldL (K : PySem.W.Frag) (S : List Addr) (H : Hp) (nm wd : List Str) (pl : List (Str × Str)) (v : V) : Prop :=
  ∃ (h l0 l1 l2 : Addr) (xs : List V), v = .ref h ∧ RL K [] H h [.ref l0, .ref l1, .ref l2] ∧ RL K [] H l0 (nm.map V.str) ∧ RL K [] H l1 (wd.map V.str) ∧ RL K [] H l2 xs ∧ P2s K S H pl xs
def spTable (K : PySem.W.Frag) (cT : Addr) : Sp := fun vs H Q _ => ∃ (S : List Addr) (v : V) (nm0 nm wd0 wd : List Str) (pl0 pl : List (Str × Str)), vs = [v] ∧ Dom S H ∧ WorldL K S H nm0 wd0 pl0 v ∧ TOk nm0 nm wd0 wd pl0 pl ∧
  ∀ x H', Same H H' → H x = none → TableAt K cT S H' nm wd pl (.ref x) → Q (.ref x) H'
theorem TOk.rev {nm0 nm wd0 wd : List Str} {pl0 pl : List (Str × Str)} (h : TOk nm0 nm wd0 wd pl0 pl) : TOk nm0.reverse nm wd0.reverse wd pl0.reverse pl :=
  { h with n := (List.reverse_perm nm0).trans h.n, d := (List.reverse_perm wd0).trans h.d, p := (List.reverse_perm pl0).trans h.p }
theorem paired_rev {α β : Type} {F : α → β → Prop} {l : List α} {m : List β} (h : Paired F l m) : Paired F l.reverse m.reverse := by
  induction h with
  | nil => exact .nil
  | cons r _ ih =>
    rw [List.reverse_cons, List.reverse_cons]
    exact Paired.app ih (.cons r .nil)
/-- a table made of three lists -/
theorem make_table {S : List Addr} {H : Hp} {Q : VK} {l0 l1 l2 : Addr} {xs : List V} {nm0 nm wd0 wd : List Str} {pl0 pl : List (Str × Str)} (dom : Dom S H) (h0 : RL K [] H l0 (nm0.map V.str)) (h1 : RL K [] H l1 (wd0.map V.str)) (h2 : RL K [] H l2 xs) (hx : P2s K S H pl0 xs) (ok : TOk nm0 nm wd0 wd pl0 pl)
    (q : ∀ x H', Same H H' → H x = none → TableAt K cT S H' nm wd pl (.ref x) → Q (.ref x) H') :
    ∀ x dx, H x = none → H dx = none → dx ≠ x → spInit K cT (.ref x :: ([.ref l0, .ref l1, .ref l2] ++ [])) (upd (upd H dx (.own x)) x (.ins cT dx [])) (fun v H2 => v = .non ∧ Q (.ref x) H2) E0 := by
  intro x dx nx ndx ne
  have s : SB S H (upd (upd H dx (.own x)) x (.ins cT dx [])) := (SB.same.new ndx).mut nx
  have s0 : SB [] H (upd (upd H dx (.own x)) x (.ins cT dx [])) := (SB.same.new ndx).mut nx
  have hd : Dom S (upd (upd H dx (.own x)) x (.ins cT dx [])) := dom.upd.upd
  refine ⟨S, x, dx, _, _, _, nm0, nm, wd0, wd, pl0, pl, rfl, hd, dom.out nx, upd_same, ⟨l0, rfl, h0.sb s0⟩, ⟨l1, rfl, h1.sb s0⟩, ⟨l2, xs, rfl, h2.sb s0, hx.sb s⟩, ok, fun H' sx t => ⟨rfl, q x H' (fun b o hb => ?_) nx t⟩⟩
  exact sx b o (by simp; rintro rfl; rw [nx] at hb; cases hb) (s0 b o (by simp) hb)
theorem ok_table (M : Fx K mg cT cC) (F : Fn K mg "_law_table" s__law_table) (c_Table : Mak P w K mg base 4 "Table" cT (spInit K cT) []) : Cal P w K mg base 6 "_law_table" (spTable K cT) [] := by
  refine F.cal sc__law_table (fun _ _ F => FunD.bindsN F fun _ _ _ _ _ _ us hl => match us, hl with | [_], _ => rfl) (fun vs H Q E h => by obtain ⟨_, _, _, _, _, _, _, _, rfl, _⟩ := h; rfl) (fun f cdv A outer st H vs Q E hr h => ⟨_, PSs.nox ((pss_cons (ps_set (i := 1) sc__law_table.nd rfl (Or.inl rfl) (pe_op op_sub pe_int (pe_op op_mul pe_int (pe_op op_mod (pe_callTy call_int1 (by rfl) M.int (by decide +kernel) (pa_cons (pe_callB (lenQ (K := K) rfl) (by rfl) M.len boot_len (pa_cons (pe_ix (ixL (K := K) rfl) (pv 0) pe_int (fun _ _ => rfl)) pa_nil)) pa_nil)) pe_int))))
  (pss_one (ps_ret (pe_mk c_Table hr (by decide) (by rfl) (pa_cons (pe_step (pe_ix (ixL (K := K) rfl) (pv 0) pe_int (fun _ _ => rfl)) (pv 1) mono_var) (pa_cons (pe_step (pe_ix (ixL (K := K) rfl) (pv 0) pe_int (fun _ _ => rfl)) (pv 1) mono_var) (pa_cons (pe_step (pe_ix (ixL (K := K) rfl) (pv 0) pe_int (fun _ _ => rfl)) (pv 1) mono_var) pa_nil)))))))), ?_⟩)
  obtain ⟨S, v, nm0, nm, wd0, wd, pl0, pl, rfl, dom, ⟨h, l0, l1, l2, xs, rfl, hh, h0, h1, h2, hq⟩, ok, q⟩ := h
  refine ⟨_, rfl, h, _, 2, _, rfl, rfl, hh.sq, atI_nat (j := 2) rfl, _, _, rfl, .inl h2.sq, .inl ⟨_, rfl, _, _, rfl, rfl, (by show (0 : Int) < 2; decide), _, _, rfl, rfl, .inl ⟨by decide, by decide⟩, _, _, rfl, rfl, ?_⟩⟩
  have par : (1 : Int) - 2 * ((xs.length : Int) % 2) = 1 ∨ (1 : Int) - 2 * ((xs.length : Int) % 2) = -1 := by omega
  rcases par with pe | pe
  · refine ⟨_, rfl, h, _, 0, _, rfl, rfl, hh.sq, atI_nat (j := 0) rfl, _, rfl, l0, _, _, rfl, rfl, h0.sq, .inl ⟨pe, fun m0 n0 => ?_⟩⟩
    have s1 : SB [] H (upd H m0 (.lst (nm0.map V.str))) := SB.same.new n0
    refine ⟨_, rfl, h, _, 1, _, rfl, rfl, (hh.sb s1).sq, atI_nat (j := 1) rfl, _, rfl, l1, _, _, rfl, rfl, (h1.sb s1).sq, .inl ⟨pe, fun m1 n1 => ?_⟩⟩
    have s2 := s1.new (o := .lst (wd0.map V.str)) n1
    refine ⟨_, rfl, h, _, 2, _, rfl, rfl, (hh.sb s2).sq, atI_nat (j := 2) rfl, _, rfl, l2, _, _, rfl, rfl, (h2.sb s2).sq, .inl ⟨pe, fun m2 n2 => ?_⟩⟩
    have s3 := s2.new (o := .lst xs) n2
    have e0 : (upd (upd (upd H m0 (.lst (nm0.map V.str))) m1 (.lst (wd0.map V.str))) m2 (.lst xs)) m0 = some (.lst ((nm0).map V.str)) := by
      rw [upd_ne (ne_of_none (by rw [upd_ne (ne_of_none upd_same n1)]; exact upd_same) n2), upd_ne (ne_of_none upd_same n1), upd_same]
    have e1 : (upd (upd (upd H m0 (.lst (nm0.map V.str))) m1 (.lst (wd0.map V.str))) m2 (.lst xs)) m1 = some (.lst ((wd0).map V.str)) := by
      rw [upd_ne (ne_of_none upd_same n2), upd_same]
    have dm : Dom S (upd (upd (upd H m0 (.lst (nm0.map V.str))) m1 (.lst (wd0.map V.str))) m2 (.lst xs)) := dom.upd.upd.upd
    exact make_table dm (RL.at e0 (by simp)) (RL.at e1 (by simp)) (RL.at upd_same (by simp)) (id (hq.sb (s3.wide (by simp)))) ok fun x H' s nx t => q x H' (fun b o hb => s b o (s3 b o (by simp) hb)) (SB.free s3 nx (by simp)) t
  · refine ⟨_, rfl, h, _, 0, _, rfl, rfl, hh.sq, atI_nat (j := 0) rfl, _, rfl, l0, _, _, rfl, rfl, h0.sq, .inr ⟨pe, fun m0 n0 => ?_⟩⟩
    have s1 : SB [] H (upd H m0 (.lst (nm0.map V.str).reverse)) := SB.same.new n0
    refine ⟨_, rfl, h, _, 1, _, rfl, rfl, (hh.sb s1).sq, atI_nat (j := 1) rfl, _, rfl, l1, _, _, rfl, rfl, (h1.sb s1).sq, .inr ⟨pe, fun m1 n1 => ?_⟩⟩
    have s2 := s1.new (o := .lst (wd0.map V.str).reverse) n1
    refine ⟨_, rfl, h, _, 2, _, rfl, rfl, (hh.sb s2).sq, atI_nat (j := 2) rfl, _, rfl, l2, _, _, rfl, rfl, (h2.sb s2).sq, .inr ⟨pe, fun m2 n2 => ?_⟩⟩
    have s3 := s2.new (o := .lst xs.reverse) n2
    have e0 : (upd (upd (upd H m0 (.lst (nm0.map V.str).reverse)) m1 (.lst (wd0.map V.str).reverse)) m2 (.lst xs.reverse)) m0 = some (.lst ((nm0.reverse).map V.str)) := by
      rw [upd_ne (ne_of_none (by rw [upd_ne (ne_of_none upd_same n1)]; exact upd_same) n2), upd_ne (ne_of_none upd_same n1), upd_same]
      rw [← List.map_reverse]
    have e1 : (upd (upd (upd H m0 (.lst (nm0.map V.str).reverse)) m1 (.lst (wd0.map V.str).reverse)) m2 (.lst xs.reverse)) m1 = some (.lst ((wd0.reverse).map V.str)) := by
      rw [upd_ne (ne_of_none upd_same n2), upd_same]
      rw [← List.map_reverse]
    have dm : Dom S (upd (upd (upd H m0 (.lst (nm0.map V.str).reverse)) m1 (.lst (wd0.map V.str).reverse)) m2 (.lst xs.reverse)) := dom.upd.upd.upd
    exact make_table dm (RL.at e0 (by simp)) (RL.at e1 (by simp)) (RL.at upd_same (by simp)) (paired_rev (hq.sb (s3.wide (by simp)))) ok.rev fun x H' s nx t => q x H' (fun b o hb => s b o (s3 b o (by simp) hb)) (SB.free s3 nx (by simp)) t
end
end K77
namespace K77
open PySem PySem.Spec PyProof.Rows C8 Ef
open L2 hiding E0 CX0 pass0 Fun
section
variable {P : Program} {w : World} {K : PySem.W.Frag} {mg : Str → Option Value} {base : Heap} {cT cC : Addr}
abbrev dWorld (nm wd : List Str) (pl : List (Str × Str)) : PyData := .list [dS nm, dS wd, dP pl]
theorem depL_strs (n : Nat) : ∀ ws : List Str, DepL n (ws.map PyData.str)
  | [] => trivial
  | _ :: ws => ⟨trivial, depL_strs n ws⟩
theorem depL_pairs (n : Nat) : ∀ ps : List (Str × Str), DepL (n + 1) (ps.map dP1)
  | [] => trivial
  | q :: ps => ⟨⟨n, rfl, (by decide : (2 : Nat) ≤ 1000), trivial, trivial, trivial⟩, depL_pairs n ps⟩
theorem dep_world {nm wd : List Str} {pl : List (Str × Str)} (h1 : nm.length ≤ 100) (h2 : wd.length ≤ 100) (h3 : pl.length ≤ 100) : Dep 3 (dWorld nm wd pl) :=
  ⟨2, rfl, (by decide : (3 : Nat) ≤ 1000), ⟨1, rfl, by rw [List.length_map]; omega, depL_strs _ _⟩, ⟨1, rfl, by rw [List.length_map]; omega, depL_strs _ _⟩, ⟨1, rfl, by rw [List.length_map]; omega, depL_pairs _ _⟩, trivial⟩
theorem rp_world {S : List Addr} {H : Hp} {nm wd : List Str} {pl : List (Str × Str)} {a l0 l1 l2 : Addr} {xs : List V} (h : RL K S H a [.ref l0, .ref l1, .ref l2]) (h0 : RL K S H l0 (nm.map V.str)) (h1 : RL K S H l1 (wd.map V.str)) (h2 : RL K S H l2 xs) (hx : P2s K S H pl xs) : Rp K S H (dWorld nm wd pl) (.ref a) :=
  ⟨a, _, rfl, h, _, _, rfl, ls_rp.mp ⟨l0, rfl, h0⟩, _, _, rfl, ls_rp.mp ⟨l1, rfl, h1⟩, _, _, rfl, lp_rp ⟨l2, xs, rfl, h2, hx⟩, rfl⟩
/-- a club more -/
def spWithClub (K : PySem.W.Frag) (cT : Addr) : Sp := fun vs H Q _ => ∃ (S : List Addr) (v : V) (c : Str) (nm wd wd' : List Str) (pl : List (Str × Str)), vs = [v, .str c] ∧ Dom S H ∧ TableAt K cT S H nm wd pl v ∧ WordOk c ∧ c ∉ wd ∧ TOk nm nm (wd ++ [c]) wd' pl pl ∧
  ∀ x H', Same H H' → H x = none → TableAt K cT S H' nm wd' pl (.ref x) → Q (.ref x) H'
/-- a person more -/
def spWithPerson (K : PySem.W.Frag) (cT : Addr) : Sp := fun vs H Q _ => ∃ (S : List Addr) (v : V) (c : Str) (nm nm' wd : List Str) (pl : List (Str × Str)), vs = [v, .str c] ∧ Dom S H ∧ TableAt K cT S H nm wd pl v ∧ WordOk c ∧ c ∉ nm ∧ TOk (nm ++ [c]) nm' wd wd pl pl ∧
  ∀ x H', Same H H' → H x = none → TableAt K cT S H' nm' wd pl (.ref x) → Q (.ref x) H'
end
end K77
namespace K77
open PySem PySem.Spec PyProof.Rows C8 Ef
open L2 hiding E0 CX0 pass0 Fun
section
variable {P : Program} {w : World} {K : PySem.W.Frag} {mg : Str → Option Value} {base : Heap} {cT cC : Addr}
theorem sc__law_shifted : FnScope ["_law_world", "_law_place", "_law_rest", "_law_kept"] ["_law_world", "_law_place"] (defScope s__law_shifted) := ⟨rfl, rfl, rfl, by decide +kernel, rfl, by decide +kernel, by decide +kernel⟩
def spStrange (K : PySem.W.Frag) : Sp := fun vs H Q _ => ∃ (v : V) (ws : List Str), vs = [v] ∧ LS K [] H ws v ∧ ws.length ≤ 18 ∧ ∀ l H', Same H H' → H l = none → H' l = some (.lst ((strange ws).map V.str)) → Q (.ref l) H'
theorem eqv_p (a b : Str × Str) : PyData.eqv (dP1 a) (dP1 b) = decide (a = b) := by
  have e : PyData.eqv (dP1 a) (dP1 b) = ((a.1 == b.1) && ((a.2 == b.2) && true)) := rfl
  rw [e, Bool.eq_iff_iff]
  simp [Prod.ext_iff]
theorem WorldT.sb {S : List Addr} {H H' : Hp} {nm wd : List Str} {pl : List (Str × Str)} {v : V} (h : WorldT K S H nm wd pl v) (s : SB S H H') : WorldT K S H' nm wd pl v := by
  obtain ⟨h, l0, l1, l2, xs, e, n, e1, n0, e2, n1, e3, n2, e4, hx⟩ := h
  exact ⟨h, l0, l1, l2, xs, e, n, s _ _ n e1, n0, s _ _ n0 e2, n1, s _ _ n1 e3, n2, s _ _ n2 e4, hx.sb s⟩
theorem WorldT.l {S : List Addr} {H : Hp} {nm wd : List Str} {pl : List (Str × Str)} {v : V} (h : WorldT K S H nm wd pl v) : WorldL K S H nm wd pl v := by
  obtain ⟨h, l0, l1, l2, xs, e, n, e1, n0, e2, n1, e3, n2, e4, hx⟩ := h
  exact ⟨h, l0, l1, l2, xs, e, RL.at e1 (by simp), RL.at e2 (by simp), RL.at e3 (by simp), RL.at e4 (by simp), hx⟩
/-- a world with a place more or less -/
def spShifted (K : PySem.W.Frag) : Sp := fun vs H Q _ => ∃ (S : List Addr) (v pv : V) (nm wd : List Str) (pl : List (Str × Str)) (q : Str × Str), vs = [v, pv] ∧ Dom S H ∧ WorldT K S H nm wd pl v ∧ P2 K S H q pv ∧ pl.length ≤ 25 ∧ pl.Nodup ∧ (∀ x ∈ pl, PairOk x) ∧ PairOk q ∧
  ∀ h pl' H', Same H H' → H h = none → WorldT K S H' nm wd pl' (.ref h) → pl'.length ≠ pl.length → pl'.length ≤ 26 → pl'.Nodup → (∀ x ∈ pl', x ∈ pl ∨ x = q) → Q (.ref h) H'
theorem filt_len {α : Type} {f : α → Bool} {l : List α} (h : ¬ (l.filter f).length < l.length) : ∀ x ∈ l, f x = true := by
  have e : (l.filter f).length = l.length := by have := List.length_filter_le f l; omega
  rwa [List.length_filter_eq_length_iff] at e
theorem ok_shifted (M : Fx K mg cT cC) (F : Fn K mg "_law_shifted" s__law_shifted) : Cal P w K mg base 1 "_law_shifted" (spShifted K) [] := by
  refine F.cal sc__law_shifted (fun _ _ F => FunD.bindsN F fun _ _ _ _ _ _ us hl => match us, hl with | [_, _], _ => rfl) (fun vs H Q E h => by obtain ⟨_, _, _, _, _, _, _, rfl, _⟩ := h; rfl) (fun f cdv A outer st H vs Q E hr h => ⟨_, PSs.nox ((pss_cons (ps_setLc (i := 2) rfl sc__law_shifted.nd rfl rfl (sw_true rfl rfl rfl (by decide +kernel)) (pi_listQ (K := K) rfl (pe_ix (ixL (K := K) rfl) (pv 0) pe_int (fun _ _ => rfl))) (blkOk_by (N := ["_law_world", "_law_place", "_law_rest", "_law_kept"]) (sc := defScope s__law_shifted) (own := [("_law_kept", 3)]) (by decide +kernel)) (fun _ _ _ _ _ => (pg_name (i := 3) sc__law_shifted.nd rfl (Or.inl rfl))) (fun _ _ _ _ _ => (pts_one (pt_cmpR (neDQ (K := K) rfl hr.units) (pv 3) (pv 1) (nomark _)))) (fun _ _ _ _ _ => (pv 3)))
  (pss_one (ps_ret (pe_lst (pa_cons (pe_ix (ixL (K := K) rfl) (pv 0) pe_int (fun _ _ => rfl)) (pa_cons (pe_ix (ixL (K := K) rfl) (pv 0) pe_int (fun _ _ => rfl)) (pa_cons (pe_ifExp (pt_cmpR op_lt (pe_callB (lenQ (K := K) rfl) (by rfl) M.len boot_len (pa_cons (pv 2) pa_nil)) (pe_callB (lenQ (K := K) rfl) (by rfl) M.len boot_len (pa_cons (pe_ix (ixL (K := K) rfl) (pv 0) pe_int (fun _ _ => rfl)) pa_nil)) (nomark _)) (pv 2) (pe_callB (sortedQ (K := K) rfl hr.units) (by rfl) M.sorted (by decide +kernel) (pa_cons (pe_op op_cat (pe_ix (ixL (K := K) rfl) (pv 0) pe_int (fun _ _ => rfl)) (pe_lst (pa_cons (pv 1) pa_nil))) pa_nil))) pa_nil)))))))), ?_⟩)
  obtain ⟨S, v, pv, nm, wd, pl, q0, rfl, dom, ⟨h, l0, l1, l2, xs, rfl, n, e1, n0, e2, n1, e3, n2, e4, hx⟩, hq, l25, nd, pok, qok, q⟩ := h
  have lx : xs.length = pl.length := hx.len
  refine ⟨_, rfl, h, _, 2, _, rfl, rfl, SqL.of e1, atI_nat (j := 2) rfl, l2, rfl, ⟨_, SqL.of e4⟩, fun D hD => ?_⟩
  refine lcR (S := []) (RL.at e4 (by simp)) hD (fun i acc G => P2s K S G ((pl.take i).filter fun x => !decide (x = q0)) acc) .nil (fun i x acc G hxi sb e hl' hA => ?_) (fun G acc sb e hl' hA => ?_)
  · obtain ⟨y, hy, py⟩ := Paired.at1 hx hxi
    have sS : SB S H G := sb.wide (by simp)
    have y1 : pl.take (i + 1) = pl.take i ++ [y] := by rw [List.take_add_one, hy] <;> rfl
    refine ⟨wipe1, x, rfl, pv, rfl, dP1 y, dP1 q0, p2_dp (py.sb sS), p2_dp (hq.sb sS), shaped_p (pok y (List.mem_of_getElem? hy)), shaped_p qok, _, rfl, ?_⟩
    rw [eqv_p]
    refine ifB (fun hb => ?_) (fun hb => ?_)
    · refine ⟨x, rfl, Pc.put (n := 25) hD (by have := (List.getElem?_eq_some_iff.mp hy).1; omega) (by have := sizeLine_eq; omega) hl' sb e ?_⟩
      rw [y1, List.filter_append, List.filter_cons, if_pos hb]
      exact p2s_put (Paired.app hA (.cons (py.sb sS) .nil)) e
    · refine Pc.skip hl' sb e ?_
      rw [y1, List.filter_append, List.filter_cons, if_neg (by rw [hb]; decide)]
      simpa using hA
  · rw [lx, List.take_length] at hA
    have lf := List.length_filter_le (fun x => !decide (x = q0)) pl
    have la := hA.len
    have sS : SB S H G := sb.wide (by simp)
    have w0 := sb _ _ (by simp) e1
    have nDS : D ∉ S := dom.out hD
    refine ⟨_, rfl, h, _, 0, _, rfl, rfl, SqL.of w0, atI_nat (j := 0) rfl, _, rfl, h, _, 1, _, rfl, rfl, SqL.of w0, atI_nat (j := 1) rfl, ?_⟩
    refine ⟨_, rfl, _, _, rfl, .inl (SqL.of e), _, rfl, h, _, 2, _, rfl, rfl, SqL.of w0, atI_nat (j := 2) rfl, _, _, rfl, .inl (SqL.of (sb _ _ (by simp) e4)), _, _, rfl, rfl, _, rfl, ifB (fun hb => ?_) (fun hb => ?_)⟩
    · refine ⟨_, rfl, (by decide : (3 : Nat) ≤ sizeLine), fun l hl => ?_⟩
      have hb := of_decide_eq_true hb
      have s1 := sb.new (o := .lst [.ref l0, .ref l1, .ref D]) hl
      have s2 : SB [] G (upd G l (.lst [.ref l0, .ref l1, .ref D])) := SB.same.new hl
      refine q l _ _ (SB.nil s1) (SB.free sb hl (by simp)) ⟨l, l0, l1, D, acc, rfl, dom.out (SB.free sb hl (by simp)), upd_same, n0, s1 _ _ (by simp) e2, n1, s1 _ _ (by simp) e3, nDS, s2 _ _ (by simp) e, hA.sb (s2.wide (by simp))⟩ ?_ (by omega) (nd.filter _) (fun x hx => .inl (List.mem_filter.mp hx).1)
      omega
    · have hb := of_decide_eq_false hb
      have all := filt_len (f := fun x => !decide (x = q0)) (l := pl) (by omega)
      have qn : q0 ∉ pl := fun z => by have := all _ z; simp at this
      have nd2 : (pl ++ [q0]).Nodup := by
        rw [List.nodup_append]
        refine ⟨nd, by simp, fun x hx y hy => ?_⟩
        rw [List.mem_singleton.mp hy]
        rintro rfl
        exact qn hx
      refine ⟨_, rfl, h, _, 2, _, rfl, rfl, SqL.of w0, atI_nat (j := 2) rfl, _, rfl, (by decide : (1 : Nat) ≤ sizeLine), fun c1 hc1 => ?_⟩
      have s1 := sb.new (o := .lst [pv]) hc1
      refine ⟨l2, c1, _, _, rfl, rfl, s1 _ _ (by simp) e4, upd_same, by have := sizeLine_eq; simp; omega, fun c2 hc2 => ?_⟩
      have s2 := s1.new (o := .lst (xs ++ [pv])) hc2
      have pq : P2s K S (upd (upd G c1 (.lst [pv])) c2 (.lst (xs ++ [pv]))) (pl ++ [q0]) (xs ++ [pv]) := P2s.sb (Paired.app hx (.cons hq .nil)) (s2.wide (by simp))
      have pm := List.mergeSort_perm (pl ++ [q0]) leP
      refine nilQ (sorted_lp (T := []) (RL.at upd_same (by simp)) pq pm.symm (asc_sortP nd2) (by simp; omega) fun y ys hy hys => ⟨(by decide : (3 : Nat) ≤ sizeLine), fun l hl => ?_⟩)
      have s3 := s2.new (o := .lst ys) hy
      have s4 := s3.new (o := .lst [.ref l0, .ref l1, .ref y]) hl
      have pl' : ((pl ++ [q0]).mergeSort leP).length = pl.length + 1 := by rw [pm.length_eq, List.length_append] <;> rfl
      refine q l _ _ (SB.nil s4) (SB.free s3 hl (by simp)) ⟨l, l0, l1, y, ys, rfl, dom.out (SB.free s3 hl (by simp)), upd_same, n0, s4 _ _ (by simp) e2, n1, s4 _ _ (by simp) e3, dom.out (SB.free s2 hy (by simp)), by rw [upd_ne (ne_of_none upd_same hl)]; exact upd_same, P2s.sb hys ((SB.same.new hy).new hl)⟩ (by omega) (by omega) (pm.nodup_iff.mpr nd2) fun x hx => ?_
      rcases List.mem_append.mp (pm.mem_iff.mp hx) with z | z
      · exact .inl z
      · exact .inr (List.mem_singleton.mp z)
end
end K77
namespace K77
open PySem PySem.Spec PyProof.Rows C8 Ef
open L2 hiding E0 CX0 pass0 Fun
section
variable {P : Program} {w : World} {K : PySem.W.Frag} {mg : Str → Option Value} {base : Heap} {cT cC : Addr}
theorem paired_perm {α β : Type} {F : α → β → Prop} {m m' : List β} (p : m'.Perm m) : ∀ {l : List α}, Paired F l m → ∃ l', l'.Perm l ∧ Paired F l' m' := by
  induction p with
  | nil => intro l h; exact ⟨l, .refl _, h⟩
  | cons x _ ih =>
    intro l h
    cases h with
    | cons h1 h2 =>
      obtain ⟨l', q, r⟩ := ih h2
      exact ⟨_ :: l', q.cons _, .cons h1 r⟩
  | swap x y t =>
    intro l h
    cases h with
    | cons h1 h2 =>
      cases h2 with
      | cons h2 h3 => exact ⟨_, List.Perm.swap _ _ _, .cons h2 (.cons h1 h3)⟩
  | trans _ _ ih1 ih2 =>
    intro l h
    obtain ⟨l1, q1, r1⟩ := ih2 h
    obtain ⟨l2, q2, r2⟩ := ih1 r1
    exact ⟨l2, q2.trans q1, r2⟩
theorem paired3 {α β : Type} {F : α → β → Prop} {a b c : α} {m : List β} (h : Paired F [a, b, c] m) : ∃ x y z, m = [x, y, z] ∧ F a x ∧ F b y ∧ F c z := by
  cases h with
  | cons h1 h =>
    cases h with
    | cons h2 h =>
      cases h with
      | cons h3 h =>
        cases h
        exact ⟨_, _, _, rfl, h1, h2, h3⟩
theorem frl_strs {H H' : Hp} : ∀ {ws : List Str} {xs : List V}, FrL H H' (ws.map PyData.str) xs → xs = ws.map V.str
  | [], _, h => h
  | x :: ws, _, ⟨v, ys, e, h1, h2⟩ => by
    have h1 : v = V.str x := h1
    rw [e, h1, frl_strs h2] <;> rfl
theorem frl_pairs {S : List Addr} {H H' : Hp} (f : ∀ a, H a = none → a ∉ S) : ∀ {qs : List (Str × Str)} {xs : List V}, FrL H H' (qs.map dP1) xs → P2s K S H' qs xs
  | [], _, h => by
    have e : _ = [] := h
    subst e
    exact .nil
  | q :: qs, _, ⟨v, ys, e, ⟨a, zs, e1, h1, h2, h3⟩, h4⟩ => by
    subst e
    subst e1
    refine .cons ⟨a, rfl, f a h1, ?_⟩ (frl_pairs f h4)
    obtain ⟨x1, z1, rfl, g1, x2, z2, rfl, g2, g3⟩ := h3
    have g1 : x1 = V.str q.1 := g1
    have g2 : x2 = V.str q.2 := g2
    have g3 : z2 = [] := g3
    subst g1
    subst g2
    subst g3
    exact h2
theorem WOk.tok {a b : Nat} {nm wd nm0 wd0 : List Str} {pl pl0 : List (Str × Str)} (h : WOk a b nm wd pl) (a1 : 1 ≤ a) (a2 : a ≤ 5) (b1 : 1 ≤ b) (b2 : b ≤ 5) (p : AscP pl) (p1 : nm0.Perm nm) (p2 : wd0.Perm wd) (p3 : pl0.Perm pl) : TOk nm0 nm wd0 wd pl0 pl := by
  have ln := h.n.1
  have ld := h.d.1
  have lp := h.p.length_le
  rw [prod_len, ln, ld] at lp
  have : a * b ≤ 5 * 5 := Nat.mul_le_mul a2 b2
  exact { n := p1, na := h.na, nk := h.n.2.2, n1 := fun z => by rw [z] at ln; simp at ln; omega, n2 := by omega, d := p2, da := h.da, dk := h.d.2.2, d1 := fun z => by rw [z] at ld; simp at ld; omega, d2 := by omega, p := p3, pa := p, pm := fun q hq => mem_prod.mp (h.p.subset hq), p2 := by omega }
theorem prod_asc {nm wd : List Str} (h1 : Asc nm) (h2 : Asc wd) : AscP (prod nm wd) := by
  unfold prod
  induction nm with
  | nil => exact List.Pairwise.nil
  | cons x nm ih =>
    rw [List.flatMap_cons]
    obtain ⟨g1, g2⟩ := List.pairwise_cons.mp h1
    refine List.pairwise_append.mpr ⟨?_, ih g2, ?_⟩
    · exact List.pairwise_map.mpr (List.Pairwise.imp (fun h => .inr ⟨rfl, h⟩) h2)
    · intro q hq r hr
      obtain ⟨b, hb, rfl⟩ := List.mem_map.mp hq
      obtain ⟨c, hc, hr⟩ := List.mem_flatMap.mp hr
      obtain ⟨d, hd, rfl⟩ := List.mem_map.mp hr
      exact .inl (g1 c hc)
theorem WOk.asc {a b : Nat} {nm wd : List Str} {pl : List (Str × Str)} (h : WOk a b nm wd pl) : AscP pl := List.Pairwise.sublist h.p (prod_asc h.na h.da)
theorem WOk.tw {a b : Nat} {nm wd : List Str} {pl : List (Str × Str)} (h : WOk a b nm wd pl) : TW nm wd pl := ⟨fun x hx => strOk_of (h.n.2.2 x hx), fun x hx => strOk_of (h.d.2.2 x hx), fun q hq => ⟨strOk_of (h.n.2.2 _ (mem_prod.mp (h.p.subset hq)).1), strOk_of (h.d.2.2 _ (mem_prod.mp (h.p.subset hq)).2)⟩⟩
/-- a table made of three lists, whatever comes next -/
theorem make_at {S : List Addr} {H : Hp} {R : VK} {l0 l1 l2 : Addr} {xs : List V} {nm0 nm wd0 wd : List Str} {pl0 pl : List (Str × Str)} (dom : Dom S H) (h0 : RL K [] H l0 (nm0.map V.str)) (h1 : RL K [] H l1 (wd0.map V.str)) (h2 : RL K [] H l2 xs) (hx : P2s K S H pl0 xs) (ok : TOk nm0 nm wd0 wd pl0 pl)
    {x dx : Addr} (nx : H x = none) (ndx : H dx = none) (q : ∀ H', Same H H' → TableAt K cT S H' nm wd pl (.ref x) → R .non H') : spInit K cT (.ref x :: ([.ref l0, .ref l1, .ref l2] ++ [])) (upd (upd H dx (.own x)) x (.ins cT dx [])) R E0 := by
  have s : SB S H (upd (upd H dx (.own x)) x (.ins cT dx [])) := (SB.same.new ndx).mut nx
  have s0 : SB [] H (upd (upd H dx (.own x)) x (.ins cT dx [])) := (SB.same.new ndx).mut nx
  have hd : Dom S (upd (upd H dx (.own x)) x (.ins cT dx [])) := dom.upd.upd
  refine ⟨S, x, dx, _, _, _, nm0, nm, wd0, wd, pl0, pl, rfl, hd, dom.out nx, upd_same, ⟨l0, rfl, h0.sb s0⟩, ⟨l1, rfl, h1.sb s0⟩, ⟨l2, xs, rfl, h2.sb s0, hx.sb s⟩, ok, fun H' sx t => q H' (fun b o hb => ?_) t⟩
  exact sx b o (by simp; rintro rfl; rw [nx] at hb; cases hb) (s0 b o (by simp) hb)
/-- a world's three lists, shuffled -/
def Shf (p D : Addr) (G : Hp) (s : List V) (v : V) : Prop := ∃ a zs, v = .ref a ∧ a ≠ p ∧ a ≠ D ∧ G a = some (.lst zs) ∧ zs.Perm s
theorem Shf.sb {p D : Addr} {G G' : Hp} {s : List V} {v : V} (h : Shf p D G s v) (q : SB [p, D] G G') : Shf p D G' s v := by
  obtain ⟨a, zs, e, n1, n2, h, pm⟩ := h
  exact ⟨a, zs, e, n1, n2, q _ _ (by simp [n1, n2]) h, pm⟩
theorem WOk.l25 {a b : Nat} {nm wd : List Str} {pl : List (Str × Str)} (h : WOk a b nm wd pl) (a2 : a ≤ 5) (b2 : b ≤ 5) : pl.length ≤ 25 := by
  have lp := h.p.length_le
  rw [prod_len, h.n.1, h.d.1] at lp
  exact Nat.le_trans lp (Nat.mul_le_mul a2 b2)
theorem WorldT.rp {S : List Addr} {H : Hp} {nm wd : List Str} {pl : List (Str × Str)} {v : V} (h : WorldT K S H nm wd pl v) : Rp K S H (dWorld nm wd pl) v := by
  obtain ⟨h, l0, l1, l2, xs, rfl, n, e1, n0, e2, n1, e3, n2, e4, hx⟩ := h
  exact rp_world (RL.at e1 n) (RL.at e2 n0) (RL.at e3 n1) (RL.at e4 n2) hx
theorem p2s_offl {S : List Addr} {H : Hp} {xs : List V} {qs : List (Str × Str)} (h : P2s K [] H qs xs) (hS : ∀ b ∈ S, ∃ zs, H b = some (.lst zs)) : P2s K S H qs xs := Paired.mapP h fun q v z => by
  obtain ⟨t, rfl, _, e⟩ := z
  refine ⟨t, rfl, fun z => ?_, e⟩
  obtain ⟨zs, e2⟩ := hS t z
  rw [e2] at e
  cases e
end
end K77
namespace K77
open PySem PySem.Spec PyProof.Rows C8 Ef
open L2 hiding E0 CX0 pass0 Fun
section
variable {P : Program} {w : World} {K : PySem.W.Frag} {mg : Str → Option Value} {base : Heap} {cT cC : Addr}
theorem sc_places_of : FnScope ["grid", "i", "j"] ["grid"] (defScope s_places_of) := ⟨rfl, rfl, rfl, by decide +kernel, rfl, by decide +kernel, by decide +kernel⟩
theorem sc_across : FnScope ["grid", "i", "j", "people", "clubs", "a", "d"] ["grid", "i", "j"] (defScope s_across) := ⟨rfl, rfl, rfl, by decide +kernel, rfl, by decide +kernel, by decide +kernel⟩
theorem sc_is_let_place : FnScope ["grid", "i", "j"] ["grid", "i", "j"] (defScope s_is_let_place) := ⟨rfl, rfl, rfl, by decide +kernel, rfl, by decide +kernel, by decide +kernel⟩
def spPlacesOf (K : PySem.W.Frag) : Sp := fun vs H Q _ => ∃ (v : V) (g : List (List Int)) (n m : Nat), vs = [v] ∧ Rp K [] H (dG g) v ∧ Grid g n m ∧ ∀ l xs H', Same H H' → H l = none → H' l = some (.lst xs) → I2s K [] H' (placesL n m) xs → Q (.ref l) H'
theorem ok_places_of (M : Fx K mg cT cC) (F : Fn K mg "places_of" s_places_of) : Cal P w K mg base 1 "places_of" (spPlacesOf K) [] := by
  refine F.cal sc_places_of (fun _ _ F => FunD.bindsN F fun _ _ _ _ _ _ us hl => match us, hl with | [_], _ => rfl) (fun vs H Q E h => by obtain ⟨_, _, _, _, rfl, _⟩ := h; rfl) (fun f cdv A outer st H vs Q E hr h => ⟨_, PSs.nox ((pss_one (ps_ret (pe_lc2 (vs1 := [2]) rfl sc_places_of.nd (pi_range1 (by rfl) M.range (pa_cons (pe_callB (lenQ (K := K) rfl) (by rfl) M.len boot_len (pa_cons (pv 0) pa_nil)) pa_nil)) (blkOk_by (N := ["grid", "i", "j"]) (sc := defScope s_places_of) (own := [("i", 1), ("j", 2)]) (by decide +kernel)) (by decide) (fun _ _ _ _ _ => (pg_name (i := 1) sc_places_of.nd rfl (Or.inl rfl))) (fun _ _ _ _ _ => pts_nil) (fun _ _ _ _ _ => (pi_range1 (by rfl) M.range (pa_cons (pe_callB (lenQ (K := K) rfl) (by rfl) M.len boot_len (pa_cons (pe_ix (ixL (K := K) rfl) (pv 0) pe_int (fun _ _ => rfl)) pa_nil)) pa_nil))) (fun _ _ _ _ _ => (pg_name (i := 2) sc_places_of.nd rfl (Or.inl rfl))) (fun _ _ _ _ _ => pts_nil) (fun _ _ _ _ _ => (pe_tup (pa_cons (pv 1) (pa_cons (pv 2) pa_nil)))))))), ?_⟩)
  obtain ⟨v, g, n, m, rfl, hg, gr, q⟩ := h
  obtain ⟨ga, xs, rfl, h1, lx, at1⟩ := grid_rp hg
  have ln := gr.ln
  have n1 := gr.n1
  have n2 := gr.n2
  have m2 := gr.m2
  obtain ⟨r0, e0⟩ : ∃ r, g[0]? = some r := ⟨_, List.getElem?_eq_getElem (by omega)⟩
  have lr0 := gr.lm _ (List.mem_of_getElem? e0)
  obtain ⟨b0, x0, rb0⟩ := at1 _ _ e0
  refine ⟨_, rfl, _, _, rfl, .inl h1.sq, _, rfl, by omega, by omega, ?_⟩
  rw [toNat_of (show xs.length = n by omega)]
  refine fun D hD => ?_
  refine walkN0 (fun i G => Pd [] H D (fun acc G => acc.length ≤ 60 * i ∧ I2s K [] G ((List.range i).flatMap fun a => (List.range m).map fun b => (a, b)) acc) G) ⟨SB.same.mut hD, [], upd_same, Nat.le_refl _, .nil⟩ (fun i G hi p => ?_) (fun G p => ?_)
  · obtain ⟨s, acc, e, la, hA⟩ := p
    refine ⟨rfl, _, rfl, ga, _, 0, _, rfl, rfl, (h1.sb s).sq, atI_nat (j := 0) x0, _, _, rfl, .inl (rb0.sb s).sq, _, rfl, by omega, by rw [List.length_map]; omega, ?_⟩
    rw [toNat_of (show (r0.map V.int).length = m by rw [List.length_map]; exact lr0)]
    refine walkN0 (fun j G => Pd [] H D (fun acc G => acc.length ≤ 60 * i + j ∧ I2s K [] G (((List.range i).flatMap fun a => (List.range m).map fun b => (a, b)) ++ (List.range j).map fun b => (i, b)) acc) G) ⟨s, acc, e, la, by simpa using hA⟩ (fun j G2 hj p => ?_) (fun G2 p => ?_)
    · obtain ⟨s2, acc2, e2, la2, hA2⟩ := p
      refine ⟨rfl, _, rfl, _, rfl, (by decide : (2 : Nat) ≤ sizeLine), fun t ht => ?_⟩
      have e2' : (upd G2 t (.tup [.int (i : Int), .int (j : Int)])) D = some (.lst acc2) := by rw [upd_ne (ne_of_none e2 ht)]; exact e2
      refine Pd.put hD (by have := sizeLine_eq; omega) (s2.new ht) e2' ⟨by simp; omega, ?_⟩
      rw [List.range_succ, List.map_append, ← List.append_assoc]
      exact I2s.put (Paired.app (hA2.sb (SB.same.new ht)) (.cons ⟨t, rfl, RT2.at upd_same (by simp)⟩ .nil)) e2'
    · obtain ⟨s2, acc2, e2, la2, hA2⟩ := p
      refine ⟨s2, acc2, e2, by omega, ?_⟩
      rw [List.range_succ, List.flatMap_append]
      simpa using hA2
  · obtain ⟨s, acc, e, la, hA⟩ := p
    exact q D acc G (SB.nil s) hD e hA
def spAcross (K : PySem.W.Frag) : Sp := fun vs H Q _ => ∃ (v : V) (g : List (List Int)) (n m i j : Nat), vs = [v, .int (i : Int), .int (j : Int)] ∧ Rp K [] H (dG g) v ∧ Grid g n m ∧ i < n ∧ j < m ∧ ∀ l xs H', Same H H' → H l = none → H' l = some (.lst xs) → I2s K [] H' (acrossL g n m i j) xs → Q (.ref l) H'
theorem ok_across (M : Fx K mg cT cC) (F : Fn K mg "across" s_across) : Cal P w K mg base 1 "across" (spAcross K) [] := by
  refine F.cal sc_across (fun _ _ F => FunD.bindsN F fun _ _ _ _ _ _ us hl => match us, hl with | [_, _, _], _ => rfl) (fun vs H Q E h => by obtain ⟨_, _, _, _, _, _, rfl, _⟩ := h; rfl) (fun f cdv A outer st H vs Q E hr h => ⟨_, PSs.nox ((pss_cons (ps_setLc (i := 3) rfl sc_across.nd rfl rfl (sw_true rfl rfl rfl (by decide +kernel)) (pi_range1 (by rfl) M.range (pa_cons (pe_callB (lenQ (K := K) rfl) (by rfl) M.len boot_len (pa_cons (pv 0) pa_nil)) pa_nil)) (blkOk_by (N := ["grid", "i", "j", "people", "clubs", "a", "d"]) (sc := defScope s_across) (own := [("a", 5)]) (by decide +kernel)) (fun _ _ _ _ _ => (pg_name (i := 5) sc_across.nd rfl (Or.inl rfl))) (fun _ _ _ _ _ => (pts_one (PW.pt (pw_and (pt_cmpR op_ne (pv 5) (pv 1) (nomark _)) (pw_and1 (pt_cmpR op_eq (pe_ix (ixL (K := K) rfl) (pe_ix (ixL (K := K) rfl) (pv 0) (pv 5) (fun _ _ => rfl)) (pv 2) (fun _ _ => rfl)) pe_int (nomark _))))))) (fun _ _ _ _ _ => (pv 5)))
  (pss_cons (ps_set (i := 4) sc_across.nd rfl (Or.inr rfl) (pe_lc rfl sc_across.nd (pi_range1 (by rfl) M.range (pa_cons (pe_callB (lenQ (K := K) rfl) (by rfl) M.len boot_len (pa_cons (pe_ix (ixL (K := K) rfl) (pv 0) pe_int (fun _ _ => rfl)) pa_nil)) pa_nil)) (blkOk_by (N := ["grid", "i", "j", "people", "clubs", "a", "d"]) (sc := defScope s_across) (own := [("d", 6)]) (by decide +kernel)) (fun _ _ _ _ _ => (pg_name (i := 6) sc_across.nd rfl (Or.inl rfl))) (fun _ _ _ _ _ => (pts_one (PW.pt (pw_and (pt_cmpR op_ne (pv 6) (pv 2) (nomark _)) (pw_and1 (pt_cmpR op_eq (pe_ix (ixL (K := K) rfl) (pe_ix (ixL (K := K) rfl) (pv 0) (pv 1) (fun _ _ => rfl)) (pv 6) (fun _ _ => rfl)) pe_int (nomark _))))))) (fun _ _ _ _ _ => (pv 6))))
  (pss_one (ps_ret (pe_lc2 (vs1 := [6]) rfl sc_across.nd (pi_listQ (K := K) rfl (pv 3)) (blkOk_by (N := ["grid", "i", "j", "people", "clubs", "a", "d"]) (sc := defScope s_across) (own := [("a", 5), ("d", 6)]) (by decide +kernel)) (by decide) (fun _ _ _ _ _ => (pg_name (i := 5) sc_across.nd rfl (Or.inl rfl))) (fun _ _ _ _ _ => pts_nil) (fun _ _ _ _ _ => (pi_listQ (K := K) rfl (pv 4))) (fun _ _ _ _ _ => (pg_name (i := 6) sc_across.nd rfl (Or.inl rfl))) (fun _ _ _ _ _ => (pts_one (pt_cmpR op_eq (pe_ix (ixL (K := K) rfl) (pe_ix (ixL (K := K) rfl) (pv 0) (pv 5) (fun _ _ => rfl)) (pv 6) (fun _ _ => rfl)) pe_int (nomark _)))) (fun _ _ _ _ _ => (pe_tup (pa_cons (pv 5) (pa_cons (pv 6) pa_nil)))))))))), ?_⟩)
  obtain ⟨v, g, n, m, i, j, rfl, hg, gr, hi, hj, q⟩ := h
  obtain ⟨ga, xs, rfl, h1, lx, at1⟩ := grid_rp hg
  have ln := gr.ln
  have n1 := gr.n1
  have n2 := gr.n2
  have m2 := gr.m2
  obtain ⟨r0, e0⟩ : ∃ r, g[0]? = some r := ⟨_, List.getElem?_eq_getElem (by omega)⟩
  have lr0 := gr.lm _ (List.mem_of_getElem? e0)
  obtain ⟨b0, x0, rb0⟩ := at1 _ _ e0
  -- a cell read
  have rd : ∀ a d, a < n → d < m → ∃ b r, xs[a]? = some (.ref b) ∧ RL K [] H b r ∧ r[d]? = some (.int (cell g a d)) := fun a d ha hd => by
    obtain ⟨r, f1, f2, f3⟩ := gr.at ha hd
    obtain ⟨b, f4, f5⟩ := at1 a r f1
    exact ⟨b, _, f4, f5, by rw [List.getElem?_map, f3] <;> rfl⟩
  -- people
  refine ⟨_, rfl, _, _, rfl, .inl h1.sq, _, rfl, by omega, by omega, ?_⟩
  rw [toNat_of (show xs.length = n by omega)]
  refine fun D hD => ?_
  refine walkN0 (fun a G => Pd [] H D (fun acc _ => acc.length ≤ a ∧ acc = (peopleL g a i j).map fun (x : Nat) => V.int (x : Int)) G) ⟨SB.same.mut hD, [], upd_same, Nat.le_refl _, rfl⟩ (fun a G ha p => ?_) (fun G p => ?_)
  · obtain ⟨s, acc, e, la, hA⟩ := p
    obtain ⟨b, r, f1, f2, f3⟩ := rd a j ha hj
    have st : peopleL g (a + 1) i j = if (!decide (a = i) && decide (cell g a j = 1)) = true then peopleL g a i j ++ [a] else peopleL g a i j := by
      unfold peopleL
      rw [List.range_succ, filter_snoc]
    refine ⟨rfl, _, rfl, _, rfl, rfl, _, rfl, ?_⟩
    rw [decV_n]
    refine ifB (fun hb => ?_) (fun hb => ifN rfl ?_)
    · refine ⟨_, rfl, _, rfl, ga, _, a, _, rfl, rfl, (h1.sb s).sq, atI_nat f1, _, rfl, b, _, j, _, rfl, rfl, (f2.sb s).sq, atI_nat f3, rfl, _, rfl, ?_⟩
      rw [decV_i]
      refine ifB (fun hc => ?_) (fun hc => ?_)
      · refine ⟨_, rfl, Pd.put hD (by have := sizeLine_eq; omega) s e ⟨by simp; omega, ?_⟩⟩
        rw [st, if_pos (by rw [hb, hc]; rfl), hA, List.map_append] <;> rfl
      · exact ⟨s, acc, e, by omega, by rw [st, if_neg (by rw [hb, hc]; decide)]; exact hA⟩
    · exact ⟨s, acc, e, by omega, by rw [st, if_neg (by rw [hb]; simp)]; exact hA⟩
  obtain ⟨s1, acc1, eA, lA, rfl⟩ := p
  -- clubs
  refine ⟨_, rfl, ga, _, 0, _, rfl, rfl, (h1.sb s1).sq, atI_nat (j := 0) x0, _, _, rfl, .inl (rb0.sb s1).sq, _, rfl, by omega, by rw [List.length_map]; omega, ?_⟩
  rw [toNat_of (show (r0.map V.int).length = m by rw [List.length_map]; exact lr0)]
  refine fun D2 hD2 => ?_
  refine walkN0 (fun d G' => Pd [] G D2 (fun acc _ => acc.length ≤ d ∧ acc = (clubsL g d i j).map fun (x : Nat) => V.int (x : Int)) G') ⟨SB.same.mut hD2, [], upd_same, Nat.le_refl _, rfl⟩ (fun d G2 hd p => ?_) (fun G2 p => ?_)
  · obtain ⟨s, acc, e, la, hA⟩ := p
    obtain ⟨b, r, f1, f2, f3⟩ := rd i d hi hd
    have st : clubsL g (d + 1) i j = if (!decide (d = j) && decide (cell g i d = 1)) = true then clubsL g d i j ++ [d] else clubsL g d i j := by
      unfold clubsL
      rw [List.range_succ, filter_snoc]
    refine ⟨rfl, _, rfl, _, rfl, rfl, _, rfl, ?_⟩
    rw [decV_n]
    refine ifB (fun hb => ?_) (fun hb => ifN rfl ?_)
    · refine ⟨_, rfl, _, rfl, ga, _, i, _, rfl, rfl, (h1.sb (s1.trans s)).sq, atI_nat f1, _, rfl, b, _, d, _, rfl, rfl, (f2.sb (s1.trans s)).sq, atI_nat f3, rfl, _, rfl, ?_⟩
      rw [decV_i]
      refine ifB (fun hc => ?_) (fun hc => ?_)
      · refine ⟨_, rfl, Pd.put hD2 (by have := sizeLine_eq; omega) s e ⟨by simp; omega, ?_⟩⟩
        rw [st, if_pos (by rw [hb, hc]; rfl), hA, List.map_append] <;> rfl
      · exact ⟨s, acc, e, by omega, by rw [st, if_neg (by rw [hb, hc]; decide)]; exact hA⟩
    · exact ⟨s, acc, e, by omega, by rw [st, if_neg (by rw [hb]; simp)]; exact hA⟩
  obtain ⟨s2, acc2, eB, lB, rfl⟩ := p
  -- both
  have s12 := s1.trans s2
  have eA2 := s2 _ _ (by simp) eA
  have pl : (peopleL g n i j).length ≤ 60 := by rw [List.length_map] at lA; omega
  have cl : (clubsL g m i j).length ≤ 60 := by rw [List.length_map] at lB; omega
  refine ⟨_, rfl, D, rfl, ⟨_, SqL.of eA2⟩, fun D3 hD3 => ?_⟩
  refine walkL (xs := (peopleL g n i j).map fun (x : Nat) => V.int (x : Int)) (fun k G' => Pd [] G2 D3 (fun acc G' => acc.length ≤ 60 * k ∧ I2s K [] G' (((peopleL g n i j).take k).flatMap fun a => ((clubsL g m i j).filter fun d => decide (cell g a d = 1)).map fun d => (a, d)) acc) G') (fun k G' p => SqL.of (p.1 _ _ (by simp) eA2)) ⟨SB.same.mut hD3, [], upd_same, Nat.le_refl _, .nil⟩ (fun k x G3 hk p => ?_) (fun G3 p => ?_)
  · obtain ⟨s, acc, e, la, hA⟩ := p
    rw [List.getElem?_map] at hk
    obtain ⟨a, ha, rfl⟩ := Option.map_eq_some_iff.mp hk
    have kl := (List.getElem?_eq_some_iff.mp ha).1
    have an : a < n := List.mem_range.mp (List.mem_filter.mp (List.mem_of_getElem? ha)).1
    refine ⟨rfl, _, rfl, D2, rfl, ⟨_, SqL.of (s _ _ (by simp) eB)⟩, ?_⟩
    refine walkL (xs := (clubsL g m i j).map fun (x : Nat) => V.int (x : Int)) (fun k2 G' => Pd [] G2 D3 (fun acc G' => acc.length ≤ 60 * k + k2 ∧ I2s K [] G' ((((peopleL g n i j).take k).flatMap fun a => ((clubsL g m i j).filter fun d => decide (cell g a d = 1)).map fun d => (a, d)) ++ (((clubsL g m i j).take k2).filter fun d => decide (cell g a d = 1)).map fun d => (a, d)) acc) G') (fun k2 G' p => SqL.of (p.1 _ _ (by simp) eB)) ⟨s, acc, e, la, by simpa using hA⟩ (fun k2 x G4 hk2 p => ?_) (fun G4 p => ?_)
    · obtain ⟨s4, acc4, e4, la4, hA4⟩ := p
      rw [List.getElem?_map] at hk2
      obtain ⟨d, hd, rfl⟩ := Option.map_eq_some_iff.mp hk2
      have kl2 := (List.getElem?_eq_some_iff.mp hd).1
      have dm : d < m := List.mem_range.mp (List.mem_filter.mp (List.mem_of_getElem? hd)).1
      obtain ⟨b, r, f1, f2, f3⟩ := rd a d an dm
      have s14 := s12.trans s4
      refine ⟨rfl, _, rfl, _, rfl, ga, _, a, _, rfl, rfl, (h1.sb s14).sq, atI_nat f1, _, rfl, b, _, d, _, rfl, rfl, (f2.sb s14).sq, atI_nat f3, rfl, _, rfl, ?_⟩
      rw [decV_i]
      have st : ((clubsL g m i j).take (k2 + 1)).filter (fun d => decide (cell g a d = 1)) = if decide (cell g a d = 1) = true then ((clubsL g m i j).take k2).filter (fun d => decide (cell g a d = 1)) ++ [d] else ((clubsL g m i j).take k2).filter (fun d => decide (cell g a d = 1)) := by
        rw [List.take_add_one, hd]
        exact filter_snoc _ _ _
      refine ifB (fun hc => ?_) (fun hc => ?_)
      · refine ⟨_, rfl, _, rfl, (by decide : (2 : Nat) ≤ sizeLine), fun t ht => ?_⟩
        have e4' : (upd G4 t (.tup [.int (a : Int), .int (d : Int)])) D3 = some (.lst acc4) := by rw [upd_ne (ne_of_none e4 ht)]; exact e4
        refine Pd.put hD3 (by have := sizeLine_eq; omega) (s4.new ht) e4' ⟨by simp; omega, ?_⟩
        rw [st, if_pos hc, List.map_append, ← List.append_assoc]
        exact I2s.put (Paired.app (hA4.sb (SB.same.new ht)) (.cons ⟨t, rfl, RT2.at upd_same (by simp)⟩ .nil)) e4'
      · exact ⟨s4, acc4, e4, by omega, by rw [st, if_neg (by rw [hc]; decide)]; exact hA4⟩
    · obtain ⟨s4, acc4, e4, la4, hA4⟩ := p
      rw [List.length_map] at la4 hA4
      rw [List.take_length] at hA4
      refine ⟨s4, acc4, e4, by omega, ?_⟩
      rw [List.take_add_one, ha, List.flatMap_append]
      simpa using hA4
  · obtain ⟨s, acc, e, la, hA⟩ := p
    rw [List.length_map, List.take_length] at hA
    have hD3' := SB.free s12 hD3 (by simp)
    exact q D3 acc G3 (SB.nil (s12.trans s)) hD3' e hA
def spLet (K : PySem.W.Frag) : Sp := fun vs H Q _ => ∃ (v : V) (g : List (List Int)) (n m i j : Nat), vs = [v, .int (i : Int), .int (j : Int)] ∧ Rp K [] H (dG g) v ∧ Grid g n m ∧ i < n ∧ j < m ∧ ∀ H', Same H H' → Q (.bl (decide ((acrossL g n m i j).length % 2 = 0))) H'
theorem ok_let (M : Fx K mg cT cC) (F : Fn K mg "is_let_place" s_is_let_place) (c_across : Cal P w K mg base 1 "across" (spAcross K) []) : Cal P w K mg base 2 "is_let_place" (spLet K) [] := by
  refine F.cal sc_is_let_place (fun _ _ F => FunD.bindsN F fun _ _ _ _ _ _ us hl => match us, hl with | [_, _, _], _ => rfl) (fun vs H Q E h => by obtain ⟨_, _, _, _, _, _, rfl, _⟩ := h; rfl) (fun f cdv A outer st H vs Q E hr h => ⟨_, PSs.nox ((pss_one (ps_ret (pe_cmpR op_eq (pe_op op_mod (pe_callB (lenQ (K := K) rfl) (by rfl) M.len boot_len (pa_cons (pe_c c_across hr (by first | decide | omega) (by rfl) (pa_cons (pv 0) (pa_cons (pv 1) (pa_cons (pv 2) pa_nil)))) pa_nil)) pe_int) pe_int (nomark _))))), ?_⟩)
  obtain ⟨v, g, n, m, i, j, rfl, hg, gr, hi, hj, q⟩ := h
  refine ⟨_, rfl, _, rfl, _, rfl, v, g, n, m, i, j, rfl, hg, gr, hi, hj, fun l xs H' s nl e hx => ?_⟩
  refine ⟨_, _, rfl, .inl (SqL.of e), _, _, rfl, rfl, (by show (0 : Int) < 2; decide), rfl, ?_⟩
  rw [decV_i, hx.len]
  have : decide (((acrossL g n m i j).length : Int) % 2 = 0) = decide ((acrossL g n m i j).length % 2 = 0) := decide_eq_decide.mpr (by omega)
  rw [this]
  exact q H' s
end
end K77
namespace K77
open PySem PySem.Spec PyProof.Rows C8 Ef
open L2 hiding E0 CX0 pass0 Fun
section
variable {P : Program} {w : World} {K : PySem.W.Frag} {mg : Str → Option Value} {base : Heap} {cT cC : Addr}
theorem sc_named : FnScope ["table", "row", "i", "j"] ["table", "row"] (defScope s_named) := ⟨rfl, rfl, rfl, by decide +kernel, rfl, by decide +kernel, by decide +kernel⟩
theorem sc_squares_of : FnScope ["table", "i", "j"] ["table"] (defScope s_squares_of) := ⟨rfl, rfl, rfl, by decide +kernel, rfl, by decide +kernel, by decide +kernel⟩
theorem sc_let_places : FnScope ["table", "i", "j"] ["table"] (defScope s_let_places) := ⟨rfl, rfl, rfl, by decide +kernel, rfl, by decide +kernel, by decide +kernel⟩
theorem grid_of {nm wd : List Str} {pl : List (Str × Str)} (n1 : nm ≠ []) (n2 : nm.length ≤ 60) (d2 : wd.length ≤ 60) : Grid (gridOf nm wd pl) nm.length wd.length := by
  refine ⟨by unfold gridOf; rw [List.length_map], fun r hr => ?_, List.length_pos_iff.mpr n1, n2, d2⟩
  unfold gridOf at hr
  obtain ⟨a, _, rfl⟩ := List.mem_map.mp hr
  rw [List.length_map]
def nameAt (nm wd : List Str) (q : Nat × Nat) : Str × Str := (nm.getD q.1 ⟨#[]⟩, wd.getD q.2 ⟨#[]⟩)
theorem at_map {ws : List Str} {i : Nat} (h : i < ws.length) : (ws.map V.str)[i]? = some (.str (ws.getD i ⟨#[]⟩)) := by
  rw [List.getElem?_map, List.getElem?_eq_getElem h, List.getD_eq_getElem?_getD, List.getElem?_eq_getElem h] <;> rfl
theorem mem_places {n m : Nat} {q : Nat × Nat} : q ∈ placesL n m ↔ q.1 < n ∧ q.2 < m := by
  unfold placesL
  rw [List.mem_flatMap]
  constructor
  · rintro ⟨a, ha, h⟩
    obtain ⟨b, hb, rfl⟩ := List.mem_map.mp h
    exact ⟨List.mem_range.mp ha, List.mem_range.mp hb⟩
  · rintro ⟨h1, h2⟩
    exact ⟨q.1, List.mem_range.mpr h1, List.mem_map.mpr ⟨q.2, List.mem_range.mpr h2, rfl⟩⟩
theorem places_len {n m : Nat} : (placesL n m).length = n * m := by
  unfold placesL
  induction n with
  | zero => simp
  | succ n ih =>
    rw [List.range_succ, List.flatMap_append, List.length_append, ih, Nat.succ_mul]
    simp
theorem places_le {n m : Nat} (h1 : n ≤ 60) (h2 : m ≤ 60) : (placesL n m).length ≤ 3600 := by
  rw [places_len]
  exact Nat.mul_le_mul h1 h2
def spNamed (K : PySem.W.Frag) (cT : Addr) : Sp := fun vs H Q _ => ∃ (v : V) (l : Addr) (xs : List V) (nm wd : List Str) (pl : List (Str × Str)) (qs : List (Nat × Nat)), vs = [v, .ref l] ∧ TableAt K cT [] H nm wd pl v ∧ RL K [] H l xs ∧ I2s K [] H qs xs ∧ (∀ q ∈ qs, q.1 < nm.length ∧ q.2 < wd.length) ∧ qs.length ≤ 4000 ∧
  ∀ l ys H', Same H H' → H l = none → H' l = some (.lst ys) → P2s K [] H' (qs.map (nameAt nm wd)) ys → Q (.ref l) H'
theorem ok_named (M : Fx K mg cT cC) (F : Fn K mg "named" s_named) : Cal P w K mg base 1 "named" (spNamed K cT) [] := by
  refine F.cal sc_named (fun _ _ F => FunD.bindsN F fun _ _ _ _ _ _ us hl => match us, hl with | [_, _], _ => rfl) (fun vs H Q E h => by obtain ⟨_, _, _, _, _, _, _, rfl, _⟩ := h; rfl) (fun f cdv A outer st H vs Q E hr h => ⟨_, PSs.nox ((pss_one (ps_ret (pe_lc rfl sc_named.nd (pi_listQ (K := K) rfl (pv 1)) (blkOk_by (N := ["table", "row", "i", "j"]) (sc := defScope s_named) (own := [("i", 2), ("j", 3)]) (by decide +kernel)) (fun _ _ _ _ _ => (pg_tupQ (K := K) (n := 2) rfl rfl (pgs_cons (pg_name (i := 2) sc_named.nd rfl (Or.inl rfl)) (pgs_cons (pg_name (i := 3) sc_named.nd rfl (Or.inl rfl)) pgs_nil)))) (fun _ _ _ _ _ => pts_nil) (fun _ _ _ _ _ => (pe_tup (pa_cons (pe_ix (ixL (K := K) rfl) (pe_fldQ (K := K) rfl (pv 0) (by rfl)) (pv 2) (fun _ _ => rfl)) (pa_cons (pe_ix (ixL (K := K) rfl) (pe_fldQ (K := K) rfl (pv 0) (by rfl)) (pv 3) (fun _ _ => rfl)) pa_nil)))))))), ?_⟩)
  obtain ⟨v, l, xs, nm, wd, pl, qs, rfl, ht, hl, hx, hq, h4, q⟩ := h
  obtain ⟨x, dx, f1, f2, f3, g, rfl, _, ex, ⟨a1, rfl, h1⟩, ⟨a2, rfl, h2⟩, _, _⟩ := id ht
  refine ⟨_, rfl, l, rfl, ⟨_, hl.sq⟩, fun D hD => ?_⟩
  refine lcR (S := []) hl hD (fun i acc G => P2s K [] G ((qs.take i).map (nameAt nm wd)) acc) .nil (fun i z acc G hzi s e hl' hA => ?_) (fun G acc s e hl' hA => ?_)
  · obtain ⟨y, hy, t, rfl, _, et⟩ := Paired.at1 hx hzi
    have hi := (List.getElem?_eq_some_iff.mp hy).1
    obtain ⟨b1, b2⟩ := hq y (List.mem_of_getElem? hy)
    refine ⟨t, _, rfl, SqT.of (s _ _ (by simp) et), rfl, _, _, rfl, _, _, rfl, rfl, rfl, ?_⟩
    refine ⟨_, rfl, x, cT, dx, _, _, rfl, s _ _ (by simp) ex, M.clT, M.noT _ (by simp), rfl, _, rfl, a1, _, y.1, _, rfl, rfl, (h1.sb s).sq, atI_nat (at_map b1), ?_⟩
    refine ⟨_, rfl, x, cT, dx, _, _, rfl, s _ _ (by simp) ex, M.clT, M.noT _ (by simp), rfl, _, rfl, a2, _, y.2, _, rfl, rfl, (h2.sb s).sq, atI_nat (at_map b2), (by decide : (2 : Nat) ≤ sizeLine), fun t2 ht2 => ?_⟩
    have e' : (upd G t2 (.tup [V.str (nameAt nm wd y).1, V.str (nameAt nm wd y).2])) D = some (.lst acc) := by rw [upd_ne (ne_of_none e ht2)]; exact e
    refine Pc.put (n := qs.length) hD hi (by have := sizeLine_eq; omega) hl' (s.new ht2) e' ?_
    rw [List.take_add_one, hy, List.map_append]
    exact p2s_put (Paired.app (hA.sb (SB.same.new ht2)) (.cons ⟨t2, rfl, RT2.at upd_same (by simp)⟩ .nil)) e'
  · rw [hx.len, List.take_length] at hA
    exact q D acc G (SB.nil s) hD e hA
def squaresN (g : List (List Int)) (n m : Nat) : Nat := (((placesL n m).filter fun q => decide (cell g q.1 q.2 = 1)).map fun q => (acrossL g n m q.1 q.2).length).sum
def letL (g : List (List Int)) (n m : Nat) : List (Nat × Nat) := (placesL n m).filter fun q => decide ((acrossL g n m q.1 q.2).length % 2 = 0)
theorem sum_cast : ∀ l : List Nat, (l.map fun (x : Nat) => (x : Int)).sum = (l.sum : Int)
  | [] => rfl
  | x :: l => by rw [List.map_cons, List.sum_cons, List.sum_cons, sum_cast l]; omega
def spSquares (K : PySem.W.Frag) (cT : Addr) : Sp := fun vs H Q _ => ∃ (v : V) (nm wd : List Str) (pl : List (Str × Str)), vs = [v] ∧ TableAt K cT [] H nm wd pl v ∧ nm ≠ [] ∧ nm.length ≤ 60 ∧ wd.length ≤ 60 ∧
  ∀ H', Same H H' → Q (.int ((squaresN (gridOf nm wd pl) nm.length wd.length / 4 : Nat) : Int)) H'
theorem ok_squares (M : Fx K mg cT cC) (F : Fn K mg "squares_of" s_squares_of) (c_check_table : Cal P w K mg base 1 "check_table" (spCheckT K cT) []) (c_places_of : Cal P w K mg base 1 "places_of" (spPlacesOf K) []) (c_across : Cal P w K mg base 1 "across" (spAcross K) []) : Cal P w K mg base 2 "squares_of" (spSquares K cT) [] := by
  refine F.cal sc_squares_of (fun _ _ F => FunD.bindsN F fun _ _ _ _ _ _ us hl => match us, hl with | [_], _ => rfl) (fun vs H Q E h => by obtain ⟨_, _, _, _, rfl, _⟩ := h; rfl) (fun f cdv A outer st H vs Q E hr h => ⟨_, PSs.nox ((pss_cons (ps_expr (pe_c c_check_table hr (by first | decide | omega) (by rfl) (pa_cons (pv 0) pa_nil)))
  (pss_one (ps_ret (pe_op op_fdiv (pe_callB (sumQ (K := K) rfl rfl) (by rfl) M.sum (by decide +kernel) (pa_cons (pe_lc rfl sc_squares_of.nd (pi_listQ (K := K) rfl (pe_c c_places_of hr (by first | decide | omega) (by rfl) (pa_cons (pe_fldQ (K := K) rfl (pv 0) (by rfl)) pa_nil))) (blkOk_by (N := ["table", "i", "j"]) (sc := defScope s_squares_of) (own := [("i", 1), ("j", 2)]) (by decide +kernel)) (fun _ _ _ _ _ => (pg_tupQ (K := K) (n := 2) rfl rfl (pgs_cons (pg_name (i := 1) sc_squares_of.nd rfl (Or.inl rfl)) (pgs_cons (pg_name (i := 2) sc_squares_of.nd rfl (Or.inl rfl)) pgs_nil)))) (fun _ _ _ _ _ => (pts_one (pt_cmpR op_eq (pe_ix (ixL (K := K) rfl) (pe_ix (ixL (K := K) rfl) (pe_fldQ (K := K) rfl (pv 0) (by rfl)) (pv 1) (fun _ _ => rfl)) (pv 2) (fun _ _ => rfl)) pe_int (nomark _)))) (fun _ _ _ _ _ => (pe_callB (lenQ (K := K) rfl) (by rfl) M.len boot_len (pa_cons (pe_c c_across hr (by first | decide | omega) (by rfl) (pa_cons (pe_fldQ (K := K) rfl (pv 0) (by rfl)) (pa_cons (pv 1) (pa_cons (pv 2) pa_nil)))) pa_nil)))) pa_nil)) pe_int))))), ?_⟩)
  obtain ⟨v, nm, wd, pl, rfl, ht, n1, n2, d2, q⟩ := h
  obtain ⟨x, dx, f1, f2, f3, gv, rfl, _, ex, _, _, _, hg⟩ := id ht
  have gr := grid_of (pl := pl) n1 n2 d2
  generalize gridOf nm wd pl = g at hg gr q
  obtain ⟨ga, xs, rfl, h1, lx, at1⟩ := grid_rp hg
  have rd : ∀ a d, a < nm.length → d < wd.length → ∃ b r, xs[a]? = some (.ref b) ∧ RL K [] H b r ∧ r[d]? = some (.int (cell g a d)) := fun a d ha hd => by
    obtain ⟨r, f1, f2, f3⟩ := gr.at ha hd
    obtain ⟨b, f4, f5⟩ := at1 a r f1
    exact ⟨b, _, f4, f5, by rw [List.getElem?_map, f3] <;> rfl⟩
  have le := places_le n2 d2
  refine ⟨_, rfl, [], _, nm, wd, pl, rfl, ht, ?_⟩
  refine ⟨_, rfl, x, cT, dx, _, _, rfl, ex, M.clT, M.noT _ (by simp), rfl, _, g, _, _, rfl, hg, gr, fun l ps H1 s1 nl el hps => ?_⟩
  refine ⟨l, rfl, ⟨_, SqL.of el⟩, fun D hD => ?_⟩
  have u1 : SB [] H H1 := SB.of s1
  have lps : ps.length = (placesL nm.length wd.length).length := hps.len
  refine lcR (S := []) (RL.at el (by simp)) hD (fun i acc G => acc = (((placesL nm.length wd.length).take i).filter fun q => decide (cell g q.1 q.2 = 1)).map fun q => V.int ((acrossL g nm.length wd.length q.1 q.2).length : Int)) rfl (fun i z acc G hzi s e hl' hA => ?_) (fun G acc s e hl' hA => ?_)
  · obtain ⟨y, hy, t, rfl, _, et⟩ := Paired.at1 hps hzi
    have hi := (List.getElem?_eq_some_iff.mp hy).1
    obtain ⟨b1, b2⟩ := mem_places.mp (List.mem_of_getElem? hy)
    obtain ⟨b, r, g1, g2, g3⟩ := rd _ _ b1 b2
    have u2 := u1.trans s
    have st : ((placesL nm.length wd.length).take (i + 1)).filter (fun q => decide (cell g q.1 q.2 = 1)) = if decide (cell g y.1 y.2 = 1) = true then ((placesL nm.length wd.length).take i).filter (fun q => decide (cell g q.1 q.2 = 1)) ++ [y] else ((placesL nm.length wd.length).take i).filter (fun q => decide (cell g q.1 q.2 = 1)) := by
      rw [List.take_add_one, hy]
      exact filter_snoc _ _ _
    refine ⟨t, _, rfl, SqT.of (s _ _ (by simp) et), rfl, _, _, rfl, _, _, rfl, rfl, rfl, ?_⟩
    refine ⟨_, rfl, x, cT, dx, _, _, rfl, u2 _ _ (by simp) ex, M.clT, M.noT _ (by simp), rfl, _, rfl, ga, _, y.1, _, rfl, rfl, (h1.sb u2).sq, atI_nat g1, _, rfl, b, _, y.2, _, rfl, rfl, (g2.sb u2).sq, atI_nat g3, rfl, _, rfl, ?_⟩
    rw [decV_i]
    refine ifB (fun hb => ?_) (fun hb => ?_)
    · refine ⟨_, rfl, x, cT, dx, _, _, rfl, u2 _ _ (by simp) ex, M.clT, M.noT _ (by simp), rfl, _, rfl, _, rfl, _, g, _, _, y.1, y.2, rfl, hg.sb u2, gr, b1, b2, fun l2 zs G2 s2 nl2 el2 hzs => ?_⟩
      refine ⟨_, _, rfl, .inl (SqL.of el2), Pc.put (n := 3600) hD (by omega) (by have := sizeLine_eq; omega) hl' (s.trans (SB.of s2)) (s2 _ _ e) ?_⟩
      rw [st, if_pos hb, hA, List.map_append, hzs.len] <;> rfl
    · refine Pc.skip hl' s e ?_
      rw [st, if_neg (by rw [hb]; decide)]
      exact hA
  · rw [lps, List.take_length] at hA
    have ha2 : acc = ((((placesL nm.length wd.length).filter fun q => decide (cell g q.1 q.2 = 1)).map fun q => (acrossL g nm.length wd.length q.1 q.2).length).map fun (x : Nat) => (x : Int)).map V.int := by
      rw [hA, List.map_map, List.map_map] <;> rfl
    refine ⟨D, _, rfl, SqL.of (by rw [e, ha2]), _, _, rfl, rfl, ⟨by decide, by decide⟩, ?_⟩
    rw [sum_cast]
    have := q G (SB.nil (u1.trans s))
    unfold squaresN at this
    rw [Int.natCast_ediv] at this
    exact this
def spLetPlaces (K : PySem.W.Frag) (cT : Addr) : Sp := fun vs H Q _ => ∃ (v : V) (nm wd : List Str) (pl : List (Str × Str)), vs = [v] ∧ TableAt K cT [] H nm wd pl v ∧ nm ≠ [] ∧ nm.length ≤ 60 ∧ wd.length ≤ 60 ∧
  ∀ l ys H', Same H H' → H l = none → H' l = some (.lst ys) → P2s K [] H' ((letL (gridOf nm wd pl) nm.length wd.length).map (nameAt nm wd)) ys → Q (.ref l) H'
theorem ok_let_places (M : Fx K mg cT cC) (F : Fn K mg "let_places" s_let_places) (c_check_table : Cal P w K mg base 1 "check_table" (spCheckT K cT) []) (c_places_of : Cal P w K mg base 1 "places_of" (spPlacesOf K) []) (c_is_let_place : Cal P w K mg base 2 "is_let_place" (spLet K) []) (c_named : Cal P w K mg base 1 "named" (spNamed K cT) []) : Cal P w K mg base 3 "let_places" (spLetPlaces K cT) [] := by
  refine F.cal sc_let_places (fun _ _ F => FunD.bindsN F fun _ _ _ _ _ _ us hl => match us, hl with | [_], _ => rfl) (fun vs H Q E h => by obtain ⟨_, _, _, _, rfl, _⟩ := h; rfl) (fun f cdv A outer st H vs Q E hr h => ⟨_, PSs.nox ((pss_cons (ps_expr (pe_c c_check_table hr (by first | decide | omega) (by rfl) (pa_cons (pv 0) pa_nil)))
  (pss_one (ps_ret (pe_c c_named hr (by first | decide | omega) (by rfl) (pa_cons (pv 0) (pa_cons (pe_lc rfl sc_let_places.nd (pi_listQ (K := K) rfl (pe_c c_places_of hr (by first | decide | omega) (by rfl) (pa_cons (pe_fldQ (K := K) rfl (pv 0) (by rfl)) pa_nil))) (blkOk_by (N := ["table", "i", "j"]) (sc := defScope s_let_places) (own := [("i", 1), ("j", 2)]) (by decide +kernel)) (fun _ _ _ _ _ => (pg_tupQ (K := K) (n := 2) rfl rfl (pgs_cons (pg_name (i := 1) sc_let_places.nd rfl (Or.inl rfl)) (pgs_cons (pg_name (i := 2) sc_let_places.nd rfl (Or.inl rfl)) pgs_nil)))) (fun _ _ _ _ _ => (pts_one (pt_val (pe_c c_is_let_place hr (by first | decide | omega) (by rfl) (pa_cons (pe_fldQ (K := K) rfl (pv 0) (by rfl)) (pa_cons (pv 1) (pa_cons (pv 2) pa_nil))))))) (fun _ _ _ _ _ => (pe_tup (pa_cons (pv 1) (pa_cons (pv 2) pa_nil))))) pa_nil))))))), ?_⟩)
  obtain ⟨v, nm, wd, pl, rfl, ht, n1, n2, d2, q⟩ := h
  obtain ⟨x, dx, f1, f2, f3, gv, rfl, _, ex, _, _, _, hg⟩ := id ht
  have gr := grid_of (pl := pl) n1 n2 d2
  generalize gridOf nm wd pl = g at hg gr q
  have le := places_le n2 d2
  refine ⟨_, rfl, [], _, nm, wd, pl, rfl, ht, ?_⟩
  refine ⟨_, rfl, _, rfl, x, cT, dx, _, _, rfl, ex, M.clT, M.noT _ (by simp), rfl, _, g, _, _, rfl, hg, gr, fun l ps H1 s1 nl el hps => ?_⟩
  refine ⟨l, rfl, ⟨_, SqL.of el⟩, fun D hD => ?_⟩
  have u1 : SB [] H H1 := SB.of s1
  have lps : ps.length = (placesL nm.length wd.length).length := hps.len
  refine lcR (S := []) (RL.at el (by simp)) hD (fun i acc G => I2s K [] G (((placesL nm.length wd.length).take i).filter fun q => decide ((acrossL g nm.length wd.length q.1 q.2).length % 2 = 0)) acc) .nil (fun i z acc G hzi s e hl' hA => ?_) (fun G acc s e hl' hA => ?_)
  · obtain ⟨y, hy, t, rfl, _, et⟩ := Paired.at1 hps hzi
    have hi := (List.getElem?_eq_some_iff.mp hy).1
    obtain ⟨b1, b2⟩ := mem_places.mp (List.mem_of_getElem? hy)
    have u2 := u1.trans s
    have st : ((placesL nm.length wd.length).take (i + 1)).filter (fun q => decide ((acrossL g nm.length wd.length q.1 q.2).length % 2 = 0)) = if decide ((acrossL g nm.length wd.length y.1 y.2).length % 2 = 0) = true then ((placesL nm.length wd.length).take i).filter (fun q => decide ((acrossL g nm.length wd.length q.1 q.2).length % 2 = 0)) ++ [y] else ((placesL nm.length wd.length).take i).filter (fun q => decide ((acrossL g nm.length wd.length q.1 q.2).length % 2 = 0)) := by
      rw [List.take_add_one, hy]
      exact filter_snoc _ _ _
    refine ⟨t, _, rfl, SqT.of (s _ _ (by simp) et), rfl, _, _, rfl, _, _, rfl, rfl, rfl, ?_⟩
    refine ⟨_, rfl, x, cT, dx, _, _, rfl, u2 _ _ (by simp) ex, M.clT, M.noT _ (by simp), rfl, _, rfl, _, rfl, _, g, _, _, y.1, y.2, rfl, hg.sb u2, gr, b1, b2, fun G2 s2 => ⟨_, rfl, ?_⟩⟩
    have s3 := s.trans (SB.of s2)
    have e3 := s2 _ _ e
    refine ifB (fun hb => ?_) (fun hb => ?_)
    · refine ⟨_, rfl, _, rfl, (by decide : (2 : Nat) ≤ sizeLine), fun t2 ht2 => ?_⟩
      have e' : (upd G2 t2 (.tup [.int (y.1 : Int), .int (y.2 : Int)])) D = some (.lst acc) := by rw [upd_ne (ne_of_none e3 ht2)]; exact e3
      refine Pc.put (n := 3600) hD (by omega) (by have := sizeLine_eq; omega) hl' (s3.new ht2) e' ?_
      rw [st, if_pos hb]
      exact I2s.put (Paired.app ((hA.sb (SB.of s2)).sb (SB.same.new ht2)) (.cons ⟨t2, rfl, RT2.at upd_same (by simp)⟩ .nil)) e'
    · refine Pc.skip hl' s3 e3 ?_
      rw [st, if_neg (by rw [hb]; decide)]
      exact hA.sb (SB.of s2)
  · rw [lps, List.take_length] at hA
    have u2 := u1.trans s
    refine ⟨_, D, _, nm, wd, pl, _, rfl, ht.sb u2, RL.at e (by simp), hA, fun q hq => mem_places.mp (List.mem_filter.mp hq).1, Nat.le_trans (List.length_filter_le _ _) (by omega), fun l2 ys G2 s2 nl2 el2 hys => ?_⟩
    exact q l2 ys G2 (SB.nil (u2.trans (SB.of s2))) (SB.free u2 nl2 (by simp)) el2 hys
end
end K77
namespace K77
open PySem PySem.Spec PyProof.Rows C8 Ef
open L2 hiding E0 CX0 pass0 Fun
section
variable {P : Program} {w : World} {K : PySem.W.Frag} {mg : Str → Option Value} {base : Heap} {cT cC : Addr}
theorem sc_is_lone_grid : FnScope ["grid", "i", "j"] ["grid"] (defScope s_is_lone_grid) := ⟨rfl, rfl, rfl, by decide +kernel, rfl, by decide +kernel, by decide +kernel⟩
theorem sc_is_lone_table : FnScope ["table"] ["table"] (defScope s_is_lone_table) := ⟨rfl, rfl, rfl, by decide +kernel, rfl, by decide +kernel, by decide +kernel⟩
def spLone (K : PySem.W.Frag) : Sp := fun vs H Q _ => ∃ (v : V) (g : List (List Int)) (n m : Nat), vs = [v] ∧ Rp K [] H (dG g) v ∧ Grid g n m ∧ ∀ H', Same H H' → Q (.bl (decide (letL g n m = []))) H'
theorem ok_lone (M : Fx K mg cT cC) (F : Fn K mg "is_lone_grid" s_is_lone_grid) (c_places_of : Cal P w K mg base 1 "places_of" (spPlacesOf K) []) (c_is_let_place : Cal P w K mg base 2 "is_let_place" (spLet K) []) : Cal P w K mg base 3 "is_lone_grid" (spLone K) [] := by
  refine F.cal sc_is_lone_grid (fun _ _ F => FunD.bindsN F fun _ _ _ _ _ _ us hl => match us, hl with | [_], _ => rfl) (fun vs H Q E h => by obtain ⟨_, _, _, _, rfl, _⟩ := h; rfl) (fun f cdv A outer st H vs Q E hr h => ⟨_, PSs.nox ((pss_one (ps_ret (pe_not (pe_callB (anyQ (K := K) rfl rfl) (by rfl) M.any (by decide +kernel) (pa_cons (pe_lc rfl sc_is_lone_grid.nd (pi_listQ (K := K) rfl (pe_c c_places_of hr (by first | decide | omega) (by rfl) (pa_cons (pv 0) pa_nil))) (blkOk_by (N := ["grid", "i", "j"]) (sc := defScope s_is_lone_grid) (own := [("i", 1), ("j", 2)]) (by decide +kernel)) (fun _ _ _ _ _ => (pg_tupQ (K := K) (n := 2) rfl rfl (pgs_cons (pg_name (i := 1) sc_is_lone_grid.nd rfl (Or.inl rfl)) (pgs_cons (pg_name (i := 2) sc_is_lone_grid.nd rfl (Or.inl rfl)) pgs_nil)))) (fun _ _ _ _ _ => pts_nil) (fun _ _ _ _ _ => (pe_c c_is_let_place hr (by first | decide | omega) (by rfl) (pa_cons (pv 0) (pa_cons (pv 1) (pa_cons (pv 2) pa_nil)))))) pa_nil)))))), ?_⟩)
  obtain ⟨v, g, n, m, rfl, hg, gr, q⟩ := h
  have le := places_le gr.n2 gr.m2
  refine ⟨_, rfl, _, g, _, _, rfl, hg, gr, fun l ps H1 s1 nl el hps => ⟨l, rfl, ⟨_, SqL.of el⟩, fun D hD => ?_⟩⟩
  have u1 : SB [] H H1 := SB.of s1
  have lps : ps.length = (placesL n m).length := hps.len
  refine lcR (S := []) (RL.at el (by simp)) hD (fun i acc _ => acc = (((placesL n m).take i).map fun q => decide ((acrossL g n m q.1 q.2).length % 2 = 0)).map V.bl) rfl (fun i z acc G hzi s e hl' hA => ?_) (fun G acc s e hl' hA => ?_)
  · obtain ⟨y, hy, t, rfl, _, et⟩ := Paired.at1 hps hzi
    have hi := (List.getElem?_eq_some_iff.mp hy).1
    obtain ⟨b1, b2⟩ := mem_places.mp (List.mem_of_getElem? hy)
    refine ⟨t, _, rfl, SqT.of (s _ _ (by simp) et), rfl, _, _, rfl, _, _, rfl, rfl, rfl, ?_⟩
    refine ⟨_, rfl, _, rfl, _, rfl, _, g, _, _, y.1, y.2, rfl, hg.sb (u1.trans s), gr, b1, b2, fun G2 s2 => ?_⟩
    refine Pc.put (n := 3600) hD (by omega) (by have := sizeLine_eq; omega) hl' (s.trans (SB.of s2)) (s2 _ _ e) ?_
    rw [hA, List.take_add_one, hy, List.map_append, List.map_append] <;> rfl
  · rw [lps, List.take_length] at hA
    refine ⟨D, _, rfl, SqL.of (by rw [e, hA]), _, rfl, ?_⟩
    have ev : (!(((placesL n m).map fun q => decide ((acrossL g n m q.1 q.2).length % 2 = 0)).any id)) = decide (letL g n m = []) := by
      unfold letL
      rw [Bool.eq_iff_iff]
      simp [List.any_eq_false, List.filter_eq_nil_iff]
    rw [ev]
    exact q G (SB.nil (u1.trans s))
def spLoneT (K : PySem.W.Frag) (cT : Addr) : Sp := fun vs H Q _ => ∃ (v : V) (nm wd : List Str) (pl : List (Str × Str)), vs = [v] ∧ TableAt K cT [] H nm wd pl v ∧ nm ≠ [] ∧ nm.length ≤ 60 ∧ wd.length ≤ 60 ∧ ∀ H', Same H H' → Q (.bl (decide (letL (gridOf nm wd pl) nm.length wd.length = []))) H'
theorem ok_lone_table (M : Fx K mg cT cC) (F : Fn K mg "is_lone_table" s_is_lone_table) (c_check_table : Cal P w K mg base 1 "check_table" (spCheckT K cT) []) (c_is_lone_grid : Cal P w K mg base 3 "is_lone_grid" (spLone K) []) : Cal P w K mg base 4 "is_lone_table" (spLoneT K cT) [] := by
  refine F.cal sc_is_lone_table (fun _ _ F => FunD.bindsN F fun _ _ _ _ _ _ us hl => match us, hl with | [_], _ => rfl) (fun vs H Q E h => by obtain ⟨_, _, _, _, rfl, _⟩ := h; rfl) (fun f cdv A outer st H vs Q E hr h => ⟨_, PSs.nox ((pss_cons (ps_expr (pe_c c_check_table hr (by first | decide | omega) (by rfl) (pa_cons (pv 0) pa_nil)))
  (pss_one (ps_ret (pe_c c_is_lone_grid hr (by first | decide | omega) (by rfl) (pa_cons (pe_fldQ (K := K) rfl (pv 0) (by rfl)) pa_nil)))))), ?_⟩)
  obtain ⟨v, nm, wd, pl, rfl, ht, n1, n2, d2, q⟩ := h
  obtain ⟨x, dx, f1, f2, f3, gv, rfl, _, ex, _, _, _, hg⟩ := id ht
  refine ⟨_, rfl, [], _, nm, wd, pl, rfl, ht, ?_⟩
  exact ⟨_, rfl, x, cT, dx, _, _, rfl, ex, M.clT, M.noT _ (by simp), rfl, _, _, _, _, rfl, hg, grid_of n1 n2 d2, q⟩
/-- a grid of two rows, turned -/
def turnedL (g : List (List Int)) (m : Nat) : List (List Int) := (List.range m).map fun d => [cell g 0 d, cell g 1 d]
def spTurned (K : PySem.W.Frag) : Sp := fun vs H Q _ => ∃ (v : V) (g : List (List Int)) (m : Nat), vs = [v] ∧ Rp K [] H (dG g) v ∧ Grid g 2 m ∧ ∀ l H', Same H H' → Rp K [] H' (dG (turnedL g m)) (.ref l) → Q (.ref l) H'
end
end K77
namespace K77
open PySem PySem.Spec PyProof.Rows C8 Ef
open L2 hiding E0 CX0 pass0 Fun
section
variable {P : Program} {w : World} {K : PySem.W.Frag} {mg : Str → Option Value} {base : Heap} {cT cC : Addr}
theorem sc__law_world_of_table : FnScope ["_law_table_here"] ["_law_table_here"] (defScope s__law_world_of_table) := ⟨rfl, rfl, rfl, by decide +kernel, rfl, by decide +kernel, by decide +kernel⟩
theorem sc__law_through : FnScope ["_law_world", "_law_place", "_law_net", "_law_found", "_law_person", "_law_member", "_law_late", "_law_club"] ["_law_world", "_law_place"] (defScope s__law_through) := ⟨rfl, rfl, rfl, by decide +kernel, rfl, by decide +kernel, by decide +kernel⟩
theorem sc__law_free_places : FnScope ["_law_world", "_law_place"] ["_law_world"] (defScope s__law_free_places) := ⟨rfl, rfl, rfl, by decide +kernel, rfl, by decide +kernel, by decide +kernel⟩
/-- a list that is tracked outside S -/
def RL2 (_K : PySem.W.Frag) (S : List Addr) (H : Hp) (a : Addr) (xs : List V) : Prop := a ∉ S ∧ H a = some (.lst xs)
section
variable {S T : List Addr} {H H' : Hp} {a : Addr} {xs : List V}
theorem RL2.rl (h : RL2 K S H a xs) : RL K S H a xs := RL.at h.2 h.1
theorem RL2.sb (h : RL2 K S H a xs) (e : SB S H H') : RL2 K S H' a xs := ⟨h.1, e _ _ h.1 h.2⟩
theorem RL2.less (h : RL2 K S H a xs) (e : ∀ b ∈ T, b ∈ S) : RL2 K T H a xs := ⟨fun z => h.1 (e _ z), h.2⟩
end
/-- a world as a list of three lists -/
def W3 (K : PySem.W.Frag) (S : List Addr) (H : Hp) (nm wd : List Str) (pl : List (Str × Str)) (v : V) : Prop :=
  ∃ (h l0 l1 l2 : Addr) (xs : List V), v = .ref h ∧ RL K S H h [.ref l0, .ref l1, .ref l2] ∧ RL K S H l0 (nm.map V.str) ∧ RL K S H l1 (wd.map V.str) ∧ RL2 K S H l2 xs ∧ P2s K S H pl xs
section
variable {S T : List Addr} {H H' : Hp} {nm wd : List Str} {pl : List (Str × Str)} {v : V}
theorem W3.sb (h : W3 K S H nm wd pl v) (s : SB S H H') : W3 K S H' nm wd pl v := by
  obtain ⟨h, l0, l1, l2, xs, e, e1, e2, e3, e4, hx⟩ := h
  exact ⟨h, l0, l1, l2, xs, e, e1.sb s, e2.sb s, e3.sb s, e4.sb s, hx.sb s⟩
theorem W3.less (h : W3 K S H nm wd pl v) (s : ∀ b ∈ T, b ∈ S) : W3 K T H nm wd pl v := by
  obtain ⟨h, l0, l1, l2, xs, e, e1, e2, e3, e4, hx⟩ := h
  exact ⟨h, l0, l1, l2, xs, e, e1.less s, e2.less s, e3.less s, e4.less s, P2s.less hx s⟩
theorem WorldT.w3 (h : WorldT K S H nm wd pl v) : W3 K S H nm wd pl v := by
  obtain ⟨h, l0, l1, l2, xs, e, n, e1, n0, e2, n1, e3, n2, e4, hx⟩ := h
  exact ⟨h, l0, l1, l2, xs, e, RL.at e1 n, RL.at e2 n0, RL.at e3 n1, ⟨n2, e4⟩, hx⟩
theorem W3.rp (h : W3 K S H nm wd pl v) : Rp K S H (dWorld nm wd pl) v := by
  obtain ⟨h, l0, l1, l2, xs, rfl, e1, e2, e3, e4, hx⟩ := h
  exact rp_world e1 e2 e3 e4.rl hx
theorem W3.l (h : W3 K S H nm wd pl v) : WorldL K S H nm wd pl v := by
  obtain ⟨h, l0, l1, l2, xs, e, e1, e2, e3, e4, hx⟩ := h
  exact ⟨h, l0, l1, l2, xs, e, e1.less (by simp), e2.less (by simp), e3.less (by simp), (e4.less (T := []) (by simp)).rl, hx⟩
end
/-- people, clubs and members of a table -/
def spWorldOf (K : PySem.W.Frag) (cT : Addr) : Sp := fun vs H Q _ => ∃ (v : V) (nm wd : List Str) (pl : List (Str × Str)), vs = [v] ∧ TableAt K cT [] H nm wd pl v ∧ ∀ v' H', Same H H' → W3 K [] H' nm wd pl v' → Q v' H'
theorem ok_world_of (M : Fx K mg cT cC) (F : Fn K mg "_law_world_of_table" s__law_world_of_table) (m_Table_people : Met P w K mg base 1 cT "people" (spTellN K cT) []) (m_Table_clubs : Met P w K mg base 1 cT "clubs" (spTellD K cT) []) (m_Table_members : Met P w K mg base 1 cT "members" (spTellP K cT) []) : Cal P w K mg base 2 "_law_world_of_table" (spWorldOf K cT) [] := by
  refine F.cal sc__law_world_of_table (fun _ _ F => FunD.bindsN F fun _ _ _ _ _ _ us hl => match us, hl with | [_], _ => rfl) (fun vs H Q E h => by obtain ⟨_, _, _, _, rfl, _⟩ := h; rfl) (fun f cdv A outer st H vs Q E hr h => ⟨_, PSs.nox ((pss_one (ps_ret (pe_lst (pa_cons (pe_mt0 m_Table_people hr (by decide) (pv 0)) (pa_cons (pe_mt0 m_Table_clubs hr (by decide) (pv 0)) (pa_cons (pe_mt0 m_Table_members hr (by decide) (pv 0)) pa_nil))))))), ?_⟩)
  obtain ⟨v, nm, wd, pl, rfl, ht, q⟩ := h
  obtain ⟨x, dx, f1, f2, f3, g, rfl, _, ex, _⟩ := id ht
  refine ⟨_, rfl, x, dx, _, rfl, ex, rfl, [], _, nm, wd, pl, rfl, ht, fun p1 q1 => ?_⟩
  have s1 := (SB.same (S := [])).new (o := .lst (nm.map V.str)) q1
  refine ⟨_, rfl, x, dx, _, rfl, s1 _ _ (by simp) ex, rfl, [], _, nm, wd, pl, rfl, ht.sb s1, fun p2 q2 => ?_⟩
  have s2 := s1.new (o := .lst (wd.map V.str)) q2
  refine ⟨_, rfl, x, dx, _, rfl, s2 _ _ (by simp) ex, rfl, [], _, nm, wd, pl, rfl, ht.sb s2, fun p3 xs q3 hxs => ⟨(by decide : (3 : Nat) ≤ sizeLine), fun p4 q4 => ?_⟩⟩
  have s3 := s2.new (o := .lst xs) q3
  have s4 := s3.new (o := .lst [.ref p1, .ref p2, .ref p3]) q4
  have t1 : SB [] (upd H p1 (.lst (nm.map V.str))) _ := ((SB.same.new q2).new (o := .lst xs) q3).new (o := .lst [.ref p1, .ref p2, .ref p3]) q4
  have t2 : SB [] (upd (upd H p1 (.lst (nm.map V.str))) p2 (.lst (wd.map V.str))) _ := (SB.same.new (o := .lst xs) q3).new (o := .lst [.ref p1, .ref p2, .ref p3]) q4
  have t3 : SB [] (upd (upd (upd H p1 (.lst (nm.map V.str))) p2 (.lst (wd.map V.str))) p3 (.lst xs)) _ := SB.same.new (o := .lst [.ref p1, .ref p2, .ref p3]) q4
  exact q _ _ (SB.nil s4) ⟨p4, p1, p2, p3, xs, rfl, RL.at upd_same (by simp), RL.at (t1 _ _ (by simp) upd_same) (by simp), RL.at (t2 _ _ (by simp) upd_same) (by simp), ⟨by simp, t3 _ _ (by simp) upd_same⟩, hxs.sb ((SB.same.new q3).new q4)⟩
/-- squares through a place, by names -/
def thrA (wd : List Str) (pl : List (Str × Str)) (q : Str × Str) (a : Str) : Nat := (wd.filter fun d => !decide (d = q.2) && (decide ((q.1, d) ∈ pl) && decide ((a, d) ∈ pl))).length
def thrN (nm : List Str) (pl : List (Str × Str)) (q : Str × Str) : List Str := nm.filter fun a => !decide (a = q.1) && decide ((a, q.2) ∈ pl)
def thr (nm wd : List Str) (pl : List (Str × Str)) (q : Str × Str) : Nat := ((thrN nm pl q).map (thrA wd pl q)).sum
theorem decV_s (a b : Str) : decide (V.str a = V.str b) = decide (a = b) := decide_eq_decide.mpr ⟨fun h => by injection h, fun h => by rw [h]⟩
theorem val_pairs (q : Str × Str) : ∀ pl : List (Str × Str), (valV (pl.map fun q => (kP q, V.bl true)) (kP q)).isSome = decide (q ∈ pl)
  | [] => rfl
  | p :: pl => by
    by_cases e : p = q
    · subst e
      rw [List.map_cons, valV_pos rfl]
      simp
    · rw [List.map_cons, valV_neg (fun z => e (kP_inj z)), val_pairs q pl]
      simp [Ne.symm e]
/-- dict([(x, True) for x in world[2]]) -/
theorem net_read {σ : L2.St} {s : Nat} {H : Hp} {Q : VK} {h l2 : Addr} {zs xs : List V} {pl : List (Str × Str)} (hs : s < σ.length) (e0 : σ[0]? = some (some (.ref h))) (r : RL K [] H h zs) (ez : zs[2]? = some (.ref l2)) (r2 : RL K [] H l2 xs) (hx : P2s K [] H pl xs) (nd : pl.Nodup) (p2 : pl.length ≤ 3600)
    (q : ∀ d H', SB [] H H' → H' d = some (.dT (pl.map fun q => (kP q, V.bl true))) → Q (.ref d) H') : tCB (rDictP2 K) (tCons (tLc (iList K (tOp (rIxL K) (tVar 0) (tC (.int 2)))) (gName s) tYes (tTup (tCons (tVar s) (tCons (tC (.bl true)) tNil))) [s]) tNil) σ H Q := by
  have lx : xs.length = pl.length := hx.len
  refine ⟨_, e0, h, _, 2, _, rfl, rfl, r.sq, atI_nat (j := 2) ez, l2, rfl, ⟨_, r2.sq⟩, fun D hD => ?_⟩
  refine lcR (S := []) r2 hD (fun i acc G => ∃ (ts : List Addr) (es : List EnP), acc = ts.map V.ref ∧ Paired (fun t (e : EnP) => G t = some (.tup [.ref e.2.1, e.2.2]) ∧ G e.2.1 = some (.tup [.str e.1.1, .str e.1.2])) ts es ∧ es.map (·.1) = pl.take i ∧ ∀ e ∈ es, e.2.2 = .bl true) ⟨[], [], rfl, .nil, by rw [List.take_zero] <;> rfl, by simp⟩ (fun i z acc G hzi sb e hl' hA => ?_) (fun G acc sb e hl' hA => ?_)
  · obtain ⟨ts, es, rfl, pr, ek, ev⟩ := hA
    obtain ⟨y, hy, b, rfl, _, eb⟩ := Paired.at1 hx hzi
    have hi := (List.getElem?_eq_some_iff.mp hy).1
    refine ⟨wipe1, _, w1_a hs, (by decide : (2 : Nat) ≤ sizeLine), fun t ht => ?_⟩
    have t1 := (SB.same (S := [])).new (o := .tup [.ref b, .bl true]) ht
    have e' := t1 _ _ (by simp) e
    have keep : ∀ c xs', G c = some (.tup xs') → (upd (upd G t (.tup [.ref b, .bl true])) D (.lst (ts.map V.ref ++ [.ref t]))) c = some (.tup xs') := fun c xs' h => by
      rw [upd_ne (fun z => by rw [z, e] at h; cases h)]
      exact t1 _ _ (by simp) h
    refine Pc.put (n := 3600) hD (by omega) (by have := sizeLine_eq; omega) hl' (sb.new ht) e' ⟨ts ++ [t], es ++ [(y, b, .bl true)], by rw [List.map_append] <;> rfl, ?_, by rw [List.map_append, ek, List.take_add_one, hy] <;> rfl, fun f hf => ?_⟩
    · refine Paired.app (Paired.mapP pr fun c f ⟨h1, h2⟩ => ⟨keep _ _ h1, keep _ _ h2⟩) (.cons ⟨?_, keep _ _ (sb _ _ (by simp) eb)⟩ .nil)
      rw [upd_ne (fun z => by rw [z] at ht; rw [e] at ht; cases ht)]
      exact upd_same
    · rcases List.mem_append.mp hf with hf | hf
      · exact ev f hf
      · rw [List.mem_singleton.mp hf]
  · obtain ⟨ts, es, rfl, pr, ek, ev⟩ := hA
    rw [lx, List.take_length] at ek
    refine ⟨D, ts, es, rfl, SqL.of e, Paired.mapP pr fun t f ⟨h1, h2⟩ => ⟨SqT.of h1, h2⟩, by rw [ek]; exact nd, fun d hd => ?_⟩
    refine q d _ (sb.new hd) ?_
    rw [upd_same]
    have : (es.map fun e => (kP e.1, e.2.2)) = pl.map fun q => (kP q, V.bl true) := by
      rw [← ek, List.map_map]
      exact List.map_congr_left fun f hf => Prod.ext rfl (ev f hf)
    rw [this]
def spThrough (K : PySem.W.Frag) : Sp := fun vs H Q _ => ∃ (v pv : V) (nm wd : List Str) (pl : List (Str × Str)) (q : Str × Str), vs = [v, pv] ∧ W3 K [] H nm wd pl v ∧ P2 K [] H q pv ∧ pl.Nodup ∧ nm.length ≤ 60 ∧ wd.length ≤ 60 ∧ pl.length ≤ 3600 ∧ ∀ H', Same H H' → Q (.int (thr nm wd pl q : Nat)) H'
theorem ok_through (M : Fx K mg cT cC) (F : Fn K mg "_law_through" s__law_through) : Cal P w K mg base 1 "_law_through" (spThrough K) [] := by
  refine F.cal sc__law_through (fun _ _ F => FunD.bindsN F fun _ _ _ _ _ _ us hl => match us, hl with | [_, _], _ => rfl) (fun vs H Q E h => by obtain ⟨_, _, _, _, _, _, rfl, _⟩ := h; rfl) (fun f cdv A outer st H vs Q E hr h => ⟨_, PSs.nox ((pss_cons (ps_set (i := 2) sc__law_through.nd rfl (Or.inr rfl) (pe_callTy (call_dictP2 (K := K) rfl rfl hr.units) (by rfl) M.dict (by decide +kernel) (pa_cons (pe_lc rfl sc__law_through.nd (pi_listQ (K := K) rfl (pe_ix (ixL (K := K) rfl) (pv 0) pe_int (fun _ _ => rfl))) (blkOk_by (N := ["_law_world", "_law_place", "_law_net", "_law_found", "_law_person", "_law_member", "_law_late", "_law_club"]) (sc := defScope s__law_through) (own := [("_law_member", 5)]) (by decide +kernel)) (fun _ _ _ _ _ => (pg_name (i := 5) sc__law_through.nd rfl (Or.inl rfl))) (fun _ _ _ _ _ => pts_nil) (fun _ _ _ _ _ => (pe_tup (pa_cons (pv 5) (pa_cons pe_bl pa_nil))))) pa_nil)))
  (pss_cons (ps_set (i := 3) sc__law_through.nd rfl (Or.inl rfl) pe_int)
  (pss_cons (ps_for PassesOwn.never rfl (pi_listQ (K := K) rfl (pe_lc rfl sc__law_through.nd (pi_listQ (K := K) rfl (pe_ix (ixL (K := K) rfl) (pv 0) pe_int (fun _ _ => rfl))) (blkOk_by (N := ["_law_world", "_law_place", "_law_net", "_law_found", "_law_person", "_law_member", "_law_late", "_law_club"]) (sc := defScope s__law_through) (own := [("_law_late", 6)]) (by decide +kernel)) (fun _ _ _ _ _ => (pg_name (i := 6) sc__law_through.nd rfl (Or.inl rfl))) (fun _ _ _ _ _ => (pts_one (PW.pt (pw_and (pt_cmpR op_ne (pv 6) (pe_ix (ixT (K := K) rfl) (pv 1) pe_int (fun _ _ => rfl)) (nomark _)) (pw_and1 (pt_cmp (pc_din (hu_of hr) (pe_tup (pa_cons (pv 6) (pa_cons (pe_ix (ixT (K := K) rfl) (pv 1) pe_int (fun _ _ => rfl)) pa_nil))) (pv 2)))))))) (fun _ _ _ _ _ => (pv 6)))) (pg_name (i := 4) sc__law_through.nd rfl (Or.inr rfl)) (pss_one (ps_set (i := 3) sc__law_through.nd rfl (Or.inl rfl) (pe_op op_add (pv 3) (pe_callB (lenQ (K := K) rfl) (by rfl) M.len boot_len (pa_cons (pe_lc rfl sc__law_through.nd (pi_listQ (K := K) rfl (pe_ix (ixL (K := K) rfl) (pv 0) pe_int (fun _ _ => rfl))) (blkOk_by (N := ["_law_world", "_law_place", "_law_net", "_law_found", "_law_person", "_law_member", "_law_late", "_law_club"]) (sc := defScope s__law_through) (own := [("_law_club", 7)]) (by decide +kernel)) (fun _ _ _ _ _ => (pg_name (i := 7) sc__law_through.nd rfl (Or.inl rfl))) (fun _ _ _ _ _ => (pts_one (PW.pt (pw_and (pt_cmpR op_ne (pv 7) (pe_ix (ixT (K := K) rfl) (pv 1) pe_int (fun _ _ => rfl)) (nomark _)) (pw_and (pt_cmp (pc_din (hu_of hr) (pe_tup (pa_cons (pe_ix (ixT (K := K) rfl) (pv 1) pe_int (fun _ _ => rfl)) (pa_cons (pv 7) pa_nil))) (pv 2))) (pw_and1 (pt_cmp (pc_din (hu_of hr) (pe_tup (pa_cons (pv 4) (pa_cons (pv 7) pa_nil))) (pv 2))))))))) (fun _ _ _ _ _ => (pv 7))) pa_nil))))))
  (pss_one (ps_ret (pv 3))))))), ?_⟩)
  obtain ⟨v, pv, nm, wd, pl, q0, rfl, hw, ⟨t0, rfl, _, et0⟩, nd, n2, d2, p2, q⟩ := h
  obtain ⟨h, l0, l1, l2, xs, rfl, r, r0, r1, r2, hx⟩ := id hw
  have r2 := r2.rl
  refine net_read (s := 5) (by show (5 : Nat) < 8; decide) rfl r rfl r2 hx nd p2 fun d H1 s1 ed => ?_
  have et1 := s1 _ _ (by simp) et0
  refine ⟨_, rfl, h, _, 0, _, rfl, rfl, (r.sb s1).sq, atI_nat (j := 0) rfl, l0, rfl, ⟨_, (r0.sb s1).sq⟩, fun D hD => ?_⟩
  refine lcR (S := []) (r0.sb s1) hD (fun i acc _ => acc = (thrN (nm.take i) pl q0).map V.str) rfl (fun i z acc G hzi s e hl' hA => ?_) (fun G acc s e hl' hA => ?_)
  · rw [List.getElem?_map] at hzi
    obtain ⟨a, ha, rfl⟩ := Option.map_eq_some_iff.mp hzi
    have hi := (List.getElem?_eq_some_iff.mp ha).1
    have st : thrN (nm.take (i + 1)) pl q0 = if (!decide (a = q0.1) && decide ((a, q0.2) ∈ pl)) = true then thrN (nm.take i) pl q0 ++ [a] else thrN (nm.take i) pl q0 := by
      unfold thrN
      rw [List.take_add_one, ha]
      exact filter_snoc _ _ _
    refine ⟨rfl, _, rfl, _, rfl, t0, _, 0, _, rfl, rfl, SqT.of (s _ _ (by simp) et1), atI_nat (j := 0) rfl, rfl, _, rfl, ?_⟩
    rw [decV_s]
    refine ifB (fun hb => ?_) (fun hb => ifN rfl ?_)
    · refine ⟨_, rfl, _, rfl, t0, _, 1, _, rfl, rfl, SqT.of (s _ _ (by simp) et1), atI_nat (j := 1) rfl, (by decide : (2 : Nat) ≤ sizeLine), fun t ht => ?_⟩
      have s2 := s.new (o := .tup [.str a, .str q0.2]) ht
      have e2 := (SB.same (S := [])).new (o := .tup [.str a, .str q0.2]) ht _ _ (by simp) e
      refine ⟨_, rfl, d, valV (pl.map fun q => (kP q, V.bl true)) (kP (a, q0.2)), rfl, DGet.t (k := kP (a, q0.2)) (s2 _ _ (by simp) ed) upd_same, _, rfl, ?_⟩
      rw [val_pairs]
      refine ifB (fun hc => ?_) (fun hc => ?_)
      · refine ⟨_, rfl, Pc.put (n := 60) hD (by omega) (by decide) hl' s2 e2 ?_⟩
        rw [hA, st, if_pos (by rw [hb, hc]; rfl), List.map_append] <;> rfl
      · exact Pc.skip hl' s2 e2 (by rw [st, if_neg (by rw [hb, hc]; decide)]; exact hA)
    · exact Pc.skip hl' s e (by rw [st, if_neg (by rw [hb]; simp)]; exact hA)
  rw [List.length_map, List.take_length] at hA
  have u1 := s1.trans s
  have lt : (thrN nm pl q0).length ≤ 60 := Nat.le_trans (List.length_filter_le _ _) n2
  refine ⟨D, rfl, ⟨_, SqL.of e⟩, ?_⟩
  refine for_list (xs := (thrN nm pl q0).map V.str) (fun i σ G' => σ.length = 8 ∧ σ[0]? = some (some (.ref h)) ∧ σ[1]? = some (some (.ref t0)) ∧ σ[2]? = some (some (.ref d)) ∧ SB [] G G' ∧ σ[3]? = some (some (.int ((((thrN nm pl q0).take i).map (thrA wd pl q0)).sum : Nat)))) ⟨rfl, rfl, rfl, rfl, SB.same, rfl⟩ (fun i σ G' _ h => SqL.of (h.2.2.2.2.1 _ _ (by simp) (by rw [e, hA]))) (fun i z σ G' hz h => ?_) (fun σ G' h => ?_)
  · obtain ⟨k0, k1, k2, k3, sg, k4⟩ := h
    rw [List.getElem?_map] at hz
    obtain ⟨a, ha, rfl⟩ := Option.map_eq_some_iff.mp hz
    have j0 : (σ.set 4 (some (V.str a))).length = 8 := by rw [List.length_set]; exact k0
    have j1 : (σ.set 4 (some (V.str a)))[0]? = some (some (.ref h)) := by rw [List.getElem?_set_ne (by decide)]; exact k1
    have j2 : (σ.set 4 (some (V.str a)))[1]? = some (some (.ref t0)) := by rw [List.getElem?_set_ne (by decide)]; exact k2
    have j3 : (σ.set 4 (some (V.str a)))[2]? = some (some (.ref d)) := by rw [List.getElem?_set_ne (by decide)]; exact k3
    have j4 := (show (σ.set 4 (some (V.str a)))[3]? = σ[3]? from by rw [List.getElem?_set_ne (by decide)]).trans k4
    have j5 : (σ.set 4 (some (V.str a)))[4]? = some (some (.str a)) := by rw [List.getElem?_set_self (by omega)]
    have u2 := u1.trans sg
    refine ⟨_, j4, _, j1, h, _, 1, _, rfl, rfl, (r.sb u2).sq, atI_nat (j := 1) rfl, l1, rfl, ⟨_, (r1.sb u2).sq⟩, fun D2 hD2 => ?_⟩
    refine lcR (S := []) (r1.sb u2) hD2 (fun k acc2 _ => acc2.length = thrA (wd.take k) pl q0 a) rfl (fun k z acc2 G2 hzi s2 e2 hl2 hA2 => ?_) (fun G2 acc2 s2 e2 hl2 hA2 => ?_)
    · rw [List.getElem?_map] at hzi
      obtain ⟨c, hc, rfl⟩ := Option.map_eq_some_iff.mp hzi
      have hi := (List.getElem?_eq_some_iff.mp hc).1
      have st : thrA (wd.take (k + 1)) pl q0 a = if (!decide (c = q0.2) && (decide ((q0.1, c) ∈ pl) && decide ((a, c) ∈ pl))) = true then thrA (wd.take k) pl q0 a + 1 else thrA (wd.take k) pl q0 a := by
        unfold thrA
        rw [List.take_add_one, hc]
        show ((wd.take k ++ [c]).filter _).length = _
        rw [filter_snoc]
        split <;> simp
      have u3 := u2.trans s2
      have et3 := u3 _ _ (by simp) et0
      refine ⟨wipe1, _, w1_a (i := 7) (by omega), _, (w1_o (by decide)).trans j2, t0, _, 1, _, rfl, rfl, SqT.of et3, atI_nat (j := 1) rfl, rfl, _, rfl, ?_⟩
      rw [decV_s]
      refine ifB (fun hb => ?_) (fun hb => ifN rfl (Pc.skip hl2 s2 e2 (by rw [st, if_neg (by rw [hb]; simp)]; exact hA2)))
      have ed3 := (s.trans (sg.trans s2)) _ _ (by simp) ed
      refine ⟨_, (w1_o (by decide)).trans j2, t0, _, 0, _, rfl, rfl, SqT.of et3, atI_nat (j := 0) rfl, _, w1_a (i := 7) (by omega), (by decide : (2 : Nat) ≤ sizeLine), fun t ht => ?_⟩
      have s3 := s2.new (o := .tup [.str q0.1, .str c]) ht
      have y3 := (SB.same (S := [])).new (o := .tup [.str q0.1, .str c]) ht
      refine ⟨_, (w1_o (by decide)).trans j3, d, valV (pl.map fun q => (kP q, V.bl true)) (kP (q0.1, c)), rfl, DGet.t (k := kP (q0.1, c)) (y3 _ _ (by simp) ed3) upd_same, _, rfl, ?_⟩
      rw [val_pairs]
      have e3 := y3 _ _ (by simp) e2
      refine ifB (fun hd1 => ?_) (fun hd1 => ifN rfl (Pc.skip hl2 s3 e3 (by rw [st, if_neg (by rw [hd1]; simp)]; exact hA2)))
      refine ⟨_, (w1_o (by decide)).trans j5, _, w1_a (i := 7) (by omega), (by decide : (2 : Nat) ≤ sizeLine), fun t' ht' => ?_⟩
      have s4 := s3.new (o := .tup [.str a, .str c]) ht'
      have y4 := y3.new (o := .tup [.str a, .str c]) ht'
      refine ⟨_, (w1_o (by decide)).trans j3, d, valV (pl.map fun q => (kP q, V.bl true)) (kP (a, c)), rfl, DGet.t (k := kP (a, c)) (y4 _ _ (by simp) ed3) upd_same, _, rfl, ?_⟩
      rw [val_pairs]
      have e4 := y4 _ _ (by simp) e2
      refine ifB (fun hd2 => ?_) (fun hd2 => Pc.skip hl2 s4 e4 (by rw [st, if_neg (by rw [hd2]; simp)]; exact hA2))
      exact ⟨_, w1_a (i := 7) (by omega), Pc.put (n := 60) hD2 (by omega) (by decide) hl2 s4 e4 (by rw [st, if_pos (by rw [hb, hd1, hd2]; rfl), List.length_append, hA2] <;> rfl)⟩
    · rw [List.length_map, List.take_length] at hA2
      refine ⟨D2, _, rfl, .inl (SqL.of e2), _, _, rfl, rfl, ?_⟩
      refine ⟨by rw [List.length_set]; exact j0, by rw [List.getElem?_set_ne (by decide)]; exact j1, by rw [List.getElem?_set_ne (by decide)]; exact j2, by rw [List.getElem?_set_ne (by decide)]; exact j3, sg.trans s2, ?_⟩
      rw [List.getElem?_set_self (by rw [j0]; decide), hA2, List.take_add_one, ha, List.map_append, List.sum_append]
      simp
  · obtain ⟨k0, k1, k2, k3, sg, k4⟩ := h
    rw [List.length_map, List.take_length] at k4
    exact ⟨_, k4, q G' (SB.nil (u1.trans sg))⟩
end
end K77
namespace K77
open PySem PySem.Spec PyProof.Rows C8 Ef
open L2 hiding E0 CX0 pass0 Fun
section
variable {P : Program} {w : World} {K : PySem.W.Frag} {mg : Str → Option Value} {base : Heap} {cT cC : Addr}
/-- the law's squares -/
def sqW (nm wd : List Str) (pl : List (Str × Str)) : Nat := (pl.map (thr nm wd pl)).sum / 4
def spSq (K : PySem.W.Frag) : Sp := fun vs H Q _ => ∃ (v : V) (nm wd : List Str) (pl : List (Str × Str)), vs = [v] ∧ W3 K [] H nm wd pl v ∧ pl.Nodup ∧ nm.length ≤ 60 ∧ wd.length ≤ 60 ∧ pl.length ≤ 3600 ∧ ∀ H', Same H H' → Q (.int (sqW nm wd pl : Nat)) H'
theorem sum_nat : ∀ ns : List Nat, (ns.map fun (n : Nat) => (n : Int)).sum = ((ns.sum : Nat) : Int)
  | [] => rfl
  | n :: ns => by rw [List.map_cons, List.sum_cons, List.sum_cons, sum_nat ns, Int.natCast_add]
/-- the law's let places -/
def freeP (nm wd : List Str) (pl : List (Str × Str)) : List (Str × Str) := (prod nm wd).filter fun q => decide (thr nm wd pl q % 2 = 0)
def spFree (K : PySem.W.Frag) : Sp := fun vs H Q _ => ∃ (v : V) (nm wd : List Str) (pl : List (Str × Str)), vs = [v] ∧ W3 K [] H nm wd pl v ∧ pl.Nodup ∧ nm.length ≤ 60 ∧ wd.length ≤ 60 ∧ pl.length ≤ 3600 ∧
  ∀ l xs H', Same H H' → H l = none → H' l = some (.lst xs) → P2s K [] H' (freeP nm wd pl) xs → Q (.ref l) H'
theorem ok_free (M : Fx K mg cT cC) (F : Fn K mg "_law_free_places" s__law_free_places) (c__law_places : Cal P w K mg base 1 "_law_places" (spPlaces K) []) (c__law_through : Cal P w K mg base 1 "_law_through" (spThrough K) []) : Cal P w K mg base 2 "_law_free_places" (spFree K) [] := by
  refine F.cal sc__law_free_places (fun _ _ F => FunD.bindsN F fun _ _ _ _ _ _ us hl => match us, hl with | [_], _ => rfl) (fun vs H Q E h => by obtain ⟨_, _, _, _, rfl, _⟩ := h; rfl) (fun f cdv A outer st H vs Q E hr h => ⟨_, PSs.nox ((pss_one (ps_ret (pe_lc rfl sc__law_free_places.nd (pi_listQ (K := K) rfl (pe_c c__law_places hr (by first | decide | omega) (by rfl) (pa_cons (pv 0) pa_nil))) (blkOk_by (N := ["_law_world", "_law_place"]) (sc := defScope s__law_free_places) (own := [("_law_place", 1)]) (by decide +kernel)) (fun _ _ _ _ _ => (pg_name (i := 1) sc__law_free_places.nd rfl (Or.inl rfl))) (fun _ _ _ _ _ => (pts_one (pt_cmpR op_eq (pe_op op_mod (pe_callTy call_int1 (by rfl) M.int (by decide +kernel) (pa_cons (pe_c c__law_through hr (by first | decide | omega) (by rfl) (pa_cons (pv 0) (pa_cons (pv 1) pa_nil))) pa_nil)) pe_int) pe_int (nomark _)))) (fun _ _ _ _ _ => (pv 1)))))), ?_⟩)
  obtain ⟨v, nm, wd, pl, rfl, hw, nd, n2, d2, p2, q⟩ := h
  obtain ⟨h, l0, l1, l2, xs, rfl, r, r0, r1, r2, hx⟩ := id hw
  refine ⟨_, rfl, h, _, _, _, nm, wd, rfl, r, ⟨l0, rfl, r0⟩, ⟨l1, rfl, r1⟩, n2, d2, fun lp ps H1 s1 nlp elp hps _ => ⟨lp, rfl, ⟨_, SqL.of elp⟩, fun D hD => ?_⟩⟩
  have u1 : SB [] H H1 := SB.of s1
  have lps := hps.len
  have lp6 : (prod nm wd).length ≤ 3600 := by rw [prod_len]; exact Nat.mul_le_mul n2 d2
  refine lcR (S := []) (RL.at elp (by simp)) hD (fun i acc G => P2s K [] G (((prod nm wd).take i).filter fun q => decide (thr nm wd pl q % 2 = 0)) acc) .nil (fun i z acc G hzi s e hl' hA => ?_) (fun G acc s e hl' hA => ?_)
  · obtain ⟨y, hy, hp⟩ := Paired.at1 hps hzi
    have hi := (List.getElem?_eq_some_iff.mp hy).1
    refine ⟨wipe1, _, rfl, _, rfl, _, _, nm, wd, pl, y, rfl, hw.sb (u1.trans s), hp.sb s, nd, n2, d2, p2, fun G2 s2 => ?_⟩
    have e2 := s2 _ _ e
    have st : ((prod nm wd).take (i + 1)).filter (fun q => decide (thr nm wd pl q % 2 = 0)) = if decide (thr nm wd pl y % 2 = 0) = true then ((prod nm wd).take i).filter (fun q => decide (thr nm wd pl q % 2 = 0)) ++ [y] else ((prod nm wd).take i).filter (fun q => decide (thr nm wd pl q % 2 = 0)) := by
      rw [List.take_add_one, hy]
      exact filter_snoc _ _ _
    refine .inl ⟨_, rfl, _, _, rfl, rfl, (by show (0 : Int) < 2; decide), rfl, _, rfl, ?_⟩
    rw [decV_i]
    have ev : decide (((thr nm wd pl y : Nat) : Int) % 2 = 0) = decide (thr nm wd pl y % 2 = 0) := decide_eq_decide.mpr (by omega)
    rw [ev]
    refine ifB (fun hb => ?_) (fun hb => ?_)
    · refine ⟨_, rfl, Pc.put (n := 3600) hD (by omega) (by have := sizeLine_eq; omega) hl' (s.trans (SB.of s2)) e2 ?_⟩
      rw [st, if_pos hb]
      exact p2s_put (Paired.app (hA.sb (SB.of s2)) (.cons ((hp.sb s).sb (SB.of s2)) .nil)) e2
    · refine Pc.skip hl' (s.trans (SB.of s2)) e2 ?_
      rw [st, if_neg (by rw [hb]; decide)]
      exact hA.sb (SB.of s2)
  · rw [lps, List.take_length] at hA
    exact q D acc G (SB.nil (u1.trans s)) (SB.free u1 hD (by simp)) e hA
/-- a place more or less -/
def shiftP (pl : List (Str × Str)) (q : Str × Str) : List (Str × Str) := if (pl.filter fun x => !decide (x = q)).length < pl.length then pl.filter (fun x => !decide (x = q)) else (pl ++ [q]).mergeSort leP
def spShift (K : PySem.W.Frag) : Sp := fun vs H Q _ => ∃ (S : List Addr) (v pv : V) (nm wd : List Str) (pl : List (Str × Str)) (q : Str × Str), vs = [v, pv] ∧ Dom S H ∧ W3 K S H nm wd pl v ∧ P2 K S H q pv ∧ pl.length ≤ 3600 ∧ pl.Nodup ∧ (∀ x ∈ pl, PairOk x) ∧ PairOk q ∧
  ∀ h H', Same H H' → H h = none → W3 K S H' nm wd (shiftP pl q) (.ref h) → Q (.ref h) H'
theorem ok_shift (M : Fx K mg cT cC) (F : Fn K mg "_law_shifted" s__law_shifted) : Cal P w K mg base 1 "_law_shifted" (spShift K) [] := by
  refine F.cal sc__law_shifted (fun _ _ F => FunD.bindsN F fun _ _ _ _ _ _ us hl => match us, hl with | [_, _], _ => rfl) (fun vs H Q E h => by obtain ⟨_, _, _, _, _, _, _, rfl, _⟩ := h; rfl) (fun f cdv A outer st H vs Q E hr h => ⟨_, PSs.nox ((pss_cons (ps_setLc (i := 2) rfl sc__law_shifted.nd rfl rfl (sw_true rfl rfl rfl (by decide +kernel)) (pi_listQ (K := K) rfl (pe_ix (ixL (K := K) rfl) (pv 0) pe_int (fun _ _ => rfl))) (blkOk_by (N := ["_law_world", "_law_place", "_law_rest", "_law_kept"]) (sc := defScope s__law_shifted) (own := [("_law_kept", 3)]) (by decide +kernel)) (fun _ _ _ _ _ => (pg_name (i := 3) sc__law_shifted.nd rfl (Or.inl rfl))) (fun _ _ _ _ _ => (pts_one (pt_cmpR (neDQ (K := K) rfl hr.units) (pv 3) (pv 1) (nomark _)))) (fun _ _ _ _ _ => (pv 3)))
  (pss_one (ps_ret (pe_lst (pa_cons (pe_ix (ixL (K := K) rfl) (pv 0) pe_int (fun _ _ => rfl)) (pa_cons (pe_ix (ixL (K := K) rfl) (pv 0) pe_int (fun _ _ => rfl)) (pa_cons (pe_ifExp (pt_cmpR op_lt (pe_callB (lenQ (K := K) rfl) (by rfl) M.len boot_len (pa_cons (pv 2) pa_nil)) (pe_callB (lenQ (K := K) rfl) (by rfl) M.len boot_len (pa_cons (pe_ix (ixL (K := K) rfl) (pv 0) pe_int (fun _ _ => rfl)) pa_nil)) (nomark _)) (pv 2) (pe_callB (sortedQ (K := K) rfl hr.units) (by rfl) M.sorted (by decide +kernel) (pa_cons (pe_op op_cat (pe_ix (ixL (K := K) rfl) (pv 0) pe_int (fun _ _ => rfl)) (pe_lst (pa_cons (pv 1) pa_nil))) pa_nil))) pa_nil)))))))), ?_⟩)
  obtain ⟨S, v, pv, nm, wd, pl, q0, rfl, dom, hw, hq, l25, nd, pok, qok, q⟩ := h
  obtain ⟨h, l0, l1, l2, xs, rfl, r, r0, r1, r2, hx⟩ := id hw
  have lx : xs.length = pl.length := hx.len
  have r2t := r2
  have r2 := r2.rl
  refine ⟨_, rfl, h, _, 2, _, rfl, rfl, r.sq, atI_nat (j := 2) rfl, l2, rfl, ⟨_, r2.sq⟩, fun D hD => ?_⟩
  refine lcR (S := []) (r2.less (by simp)) hD (fun i acc G => P2s K S G ((pl.take i).filter fun x => !decide (x = q0)) acc) .nil (fun i x acc G hxi sb e hl' hA => ?_) (fun G acc sb e hl' hA => ?_)
  · obtain ⟨y, hy, py⟩ := Paired.at1 hx hxi
    have sS : SB S H G := sb.wide (by simp)
    have y1 : pl.take (i + 1) = pl.take i ++ [y] := by rw [List.take_add_one, hy] <;> rfl
    refine ⟨wipe1, x, rfl, pv, rfl, dP1 y, dP1 q0, p2_dp (py.sb sS), p2_dp (hq.sb sS), shaped_p (pok y (List.mem_of_getElem? hy)), shaped_p qok, _, rfl, ?_⟩
    rw [eqv_p]
    refine ifB (fun hb => ?_) (fun hb => ?_)
    · refine ⟨x, rfl, Pc.put (n := 3600) hD (by have := (List.getElem?_eq_some_iff.mp hy).1; omega) (by have := sizeLine_eq; omega) hl' sb e ?_⟩
      rw [y1, List.filter_append, List.filter_cons, if_pos hb]
      exact p2s_put (Paired.app hA (.cons (py.sb sS) .nil)) e
    · refine Pc.skip hl' sb e ?_
      rw [y1, List.filter_append, List.filter_cons, if_neg (by rw [hb]; decide)]
      simpa using hA
  · rw [lx, List.take_length] at hA
    have lf := List.length_filter_le (fun x => !decide (x = q0)) pl
    have la := hA.len
    have sS : SB S H G := sb.wide (by simp)
    have rG := r.sb sS
    have nDS : D ∉ S := dom.out hD
    refine ⟨_, rfl, h, _, 0, _, rfl, rfl, rG.sq, atI_nat (j := 0) rfl, _, rfl, h, _, 1, _, rfl, rfl, rG.sq, atI_nat (j := 1) rfl, ?_⟩
    refine ⟨_, rfl, _, _, rfl, .inl (SqL.of e), _, rfl, h, _, 2, _, rfl, rfl, rG.sq, atI_nat (j := 2) rfl, _, _, rfl, .inl (r2.sb sS).sq, _, _, rfl, rfl, _, rfl, ifB (fun hb => ?_) (fun hb => ?_)⟩
    · refine ⟨_, rfl, (by decide : (3 : Nat) ≤ sizeLine), fun l hl => ?_⟩
      have hb := of_decide_eq_true hb
      have e1 : shiftP pl q0 = pl.filter fun x => !decide (x = q0) := by
        unfold shiftP
        exact if_pos (by omega)
      have s1 := sS.new (o := .lst [.ref l0, .ref l1, .ref D]) hl
      have s2 : SB S G (upd G l (.lst [.ref l0, .ref l1, .ref D])) := SB.same.new hl
      refine q l _ (SB.nil (sb.new hl)) (SB.free sb hl (by simp)) ?_
      rw [e1]
      exact ⟨l, l0, l1, D, acc, rfl, RL.at upd_same (dom.out (SB.free sb hl (by simp))), r0.sb s1, r1.sb s1, ⟨nDS, s2 _ _ nDS e⟩, hA.sb s2⟩
    · have hb := of_decide_eq_false hb
      have e1 : shiftP pl q0 = (pl ++ [q0]).mergeSort leP := by
        unfold shiftP
        exact if_neg (by omega)
      have all := filt_len (f := fun x => !decide (x = q0)) (l := pl) (by omega)
      have qn : q0 ∉ pl := fun z => by have := all _ z; simp at this
      have nd2 : (pl ++ [q0]).Nodup := by
        rw [List.nodup_append]
        refine ⟨nd, by simp, fun x hx y hy => ?_⟩
        rw [List.mem_singleton.mp hy]
        rintro rfl
        exact qn hx
      refine ⟨_, rfl, h, _, 2, _, rfl, rfl, rG.sq, atI_nat (j := 2) rfl, _, rfl, (by decide : (1 : Nat) ≤ sizeLine), fun c1 hc1 => ?_⟩
      have s1 := sb.new (o := .lst [pv]) hc1
      refine ⟨l2, c1, _, _, rfl, rfl, s1 _ _ (by simp) r2t.2, upd_same, by have := sizeLine_eq; simp; omega, fun c2 hc2 => ?_⟩
      have s2 := s1.new (o := .lst (xs ++ [pv])) hc2
      have pq : P2s K S (upd (upd G c1 (.lst [pv])) c2 (.lst (xs ++ [pv]))) (pl ++ [q0]) (xs ++ [pv]) := P2s.sb (Paired.app hx (.cons hq .nil)) (s2.wide (by simp))
      have pm := List.mergeSort_perm (pl ++ [q0]) leP
      refine nilQ (sorted_lp (T := []) (RL.at upd_same (by simp)) pq pm.symm (asc_sortP nd2) (by simp; omega) fun y ys hy hys => ⟨(by decide : (3 : Nat) ≤ sizeLine), fun l hl => ?_⟩)
      have s3 := s2.new (o := .lst ys) hy
      have s4 := s3.new (o := .lst [.ref l0, .ref l1, .ref y]) hl
      have s4S : SB S H _ := s4.wide (by simp)
      refine q l _ (SB.nil s4) (SB.free s3 hl (by simp)) ?_
      rw [e1]
      exact ⟨l, l0, l1, y, ys, rfl, RL.at upd_same (dom.out (SB.free s3 hl (by simp))), r0.sb s4S, r1.sb s4S, ⟨dom.out (SB.free s2 hy (by simp)), by rw [upd_ne (ne_of_none upd_same hl)]; exact upd_same⟩, P2s.sb hys ((SB.same.new hy).new hl)⟩
end
end K77
namespace K77
open PySem PySem.Spec PyProof.Rows C8 Ef
open L2 hiding E0 CX0 pass0 Fun
section
variable {P : Program} {w : World} {K : PySem.W.Frag} {mg : Str → Option Value} {base : Heap} {cT cC : Addr}
theorem sc__law_walked_table : FnScope ["_law_purse_here", "_law_world", "_law_most", "_law_road", "_law_turn", "_law_places_here"] ["_law_purse_here", "_law_world", "_law_most"] (defScope s__law_walked_table) := ⟨rfl, rfl, rfl, by decide +kernel, rfl, by decide +kernel, by decide +kernel⟩
/-- a world, sound -/
structure WO (nm wd : List Str) (pl : List (Str × Str)) : Prop where
  n : Asc nm
  nk : ∀ x ∈ nm, WordOk x
  n1 : 1 ≤ nm.length
  n2 : nm.length ≤ 5
  d : Asc wd
  dk : ∀ x ∈ wd, WordOk x
  d1 : 1 ≤ wd.length
  d2 : wd.length ≤ 5
  pa : AscP pl
  pm : ∀ q ∈ pl, q ∈ prod nm wd
theorem WOk.wo {a b : Nat} {nm wd : List Str} {pl : List (Str × Str)} (h : WOk a b nm wd pl) (a1 : 1 ≤ a) (a2 : a ≤ 5) (b1 : 1 ≤ b) (b2 : b ≤ 5) : WO nm wd pl :=
  { n := h.na, nk := h.n.2.2, n1 := by rw [h.n.1]; exact a1, n2 := by rw [h.n.1]; exact a2, d := h.da, dk := h.d.2.2, d1 := by rw [h.d.1]; exact b1, d2 := by rw [h.d.1]; exact b2, pa := h.asc, pm := fun q hq => h.p.subset hq }
section
variable {nm wd : List Str} {pl : List (Str × Str)} {q : Str × Str}
theorem WO.nd (h : WO nm wd pl) : pl.Nodup := ascP_nodup h.pa
theorem WO.l25 (h : WO nm wd pl) : pl.length ≤ 25 := by
  have := List.Nodup.length_le_of_subset h.nd (fun q hq => h.pm q hq)
  rw [prod_len] at this
  exact Nat.le_trans this (Nat.mul_le_mul h.n2 h.d2)
theorem WO.tw (h : WO nm wd pl) : TW nm wd pl := ⟨fun x hx => strOk_of (h.nk x hx), fun x hx => strOk_of (h.dk x hx), fun q hq => ⟨strOk_of (h.nk _ (mem_prod.mp (h.pm q hq)).1), strOk_of (h.dk _ (mem_prod.mp (h.pm q hq)).2)⟩⟩
theorem WO.pok (h : WO nm wd pl) (hq : q ∈ prod nm wd) : PairOk q := ⟨strOk_of (h.nk _ (mem_prod.mp hq).1), strOk_of (h.dk _ (mem_prod.mp hq).2)⟩
theorem WO.tok {nm0 wd0 : List Str} {pl0 : List (Str × Str)} (h : WO nm wd pl) (p1 : nm0.Perm nm) (p2 : wd0.Perm wd) (p3 : pl0.Perm pl) : TOk nm0 nm wd0 wd pl0 pl := by
  have l := h.l25
  have l1 := h.n1
  have l2 := h.n2
  have l3 := h.d1
  have l4 := h.d2
  exact { n := p1, na := h.n, nk := h.nk, n1 := fun z => by rw [z] at l1; simp at l1, n2 := by omega, d := p2, da := h.d, dk := h.dk, d1 := fun z => by rw [z] at l3; simp at l3, d2 := by omega, p := p3, pa := h.pa, pm := fun q hq => mem_prod.mp (h.pm q hq), p2 := by omega }
theorem WO.with (h : WO nm wd pl) {pl' : List (Str × Str)} (a : AscP pl') (m : ∀ q ∈ pl', q ∈ prod nm wd) : WO nm wd pl' := { h with pa := a, pm := m }
theorem shift_in (hq : q ∈ pl) : shiftP pl q = pl.filter fun x => !decide (x = q) := by
  unfold shiftP
  refine if_pos ?_
  rcases Nat.lt_or_ge (pl.filter fun x => !decide (x = q)).length pl.length with c | c
  · exact c
  · have := filt_len (f := fun x => !decide (x = q)) (l := pl) (by omega) q hq
    simp at this
theorem shift_out (hq : q ∉ pl) : shiftP pl q = (pl ++ [q]).mergeSort leP := by
  unfold shiftP
  refine if_neg ?_
  have : (pl.filter fun x => !decide (x = q)) = pl := List.filter_eq_self.mpr fun x hx => by
    have : x ≠ q := fun z => hq (z ▸ hx)
    simp [this]
  rw [this]
  omega
theorem mem_shift {x : Str × Str} : x ∈ shiftP pl q ↔ if x = q then q ∉ pl else x ∈ pl := by
  by_cases hq : q ∈ pl
  · rw [shift_in hq, List.mem_filter]
    split
    · next e => simp [e, hq]
    · next e => simp [e]
  · rw [shift_out hq, (List.mergeSort_perm _ _).mem_iff, List.mem_append, List.mem_singleton]
    split
    · next e => simp [e, hq]
    · next e => simp [e]
theorem shift_asc (h : AscP pl) : AscP (shiftP pl q) := by
  by_cases hq : q ∈ pl
  · rw [shift_in hq]
    exact List.Pairwise.filter _ h
  · rw [shift_out hq]
    refine asc_sortP ?_
    rw [List.nodup_append]
    refine ⟨ascP_nodup h, by simp, fun x hx y hy => ?_⟩
    rw [List.mem_singleton.mp hy]
    rintro rfl
    exact hq hx
theorem WO.shift (h : WO nm wd pl) (hq : q ∈ prod nm wd) : WO nm wd (shiftP pl q) := h.with (shift_asc h.pa) fun x hx => by
  have := mem_shift.mp hx
  split at this
  · next e => rw [e]; exact hq
  · exact h.pm x this
end
/-- tables that let moves lead to -/
inductive Rch (nm wd : List Str) : List (Str × Str) → List (Str × Str) → Prop
  | refl {pl : List (Str × Str)} : Rch nm wd pl pl
  | step {pl pl' : List (Str × Str)} {q : Str × Str} : Rch nm wd pl pl' → q ∈ freeP nm wd pl' → Rch nm wd pl (shiftP pl' q)
theorem free_prod {nm wd : List Str} {pl : List (Str × Str)} {q : Str × Str} (h : q ∈ freeP nm wd pl) : q ∈ prod nm wd := (List.mem_filter.mp h).1
theorem Rch.wo {nm wd : List Str} {pl pl' : List (Str × Str)} (r : Rch nm wd pl pl') (h : WO nm wd pl) : WO nm wd pl' := by
  induction r with
  | refl => exact h
  | step _ hq ih => exact ih.shift (free_prod hq)
theorem RL2.more {S : List Addr} {H : Hp} {a p : Addr} {xs : List V} (h : RL2 K S H a xs) (n : H p = none) : RL2 K (p :: S) H a xs := ⟨fun z => (List.mem_cons.mp z).elim (fun z => by have h2 := h.2; rw [z, n] at h2; cases h2) h.1, h.2⟩
theorem P2s.more' {S : List Addr} {H : Hp} {p : Addr} {qs : List (Str × Str)} {xs : List V} (h : P2s K S H qs xs) (n : H p = none) : P2s K (p :: S) H qs xs := Paired.mapP h fun _ _ z => z.more n
theorem W3.more {S : List Addr} {H : Hp} {p : Addr} {nm wd : List Str} {pl : List (Str × Str)} {v : V} (h : W3 K S H nm wd pl v) (n : H p = none) : W3 K (p :: S) H nm wd pl v := by
  obtain ⟨h, l0, l1, l2, xs, e, r, r0, r1, r2, hx⟩ := h
  exact ⟨h, l0, l1, l2, xs, e, r.more n, r0.more n, r1.more n, r2.more n, P2s.more' hx n⟩
/-- a small world -/
def smallS : List (Int × Int) := [(1, 1), (1, 4), (5, 1), (2, 2), (2, 3), (3, 2), (2, 4), (4, 2), (3, 3), (3, 3), (3, 3)]
def spSmallHall (K : PySem.W.Frag) : Sp := fun vs H Q _ => ∃ (p : Addr) (n : Nat), vs = [.ref p] ∧ Pu H p (n + 1001) ∧
  ∀ (nm wd : List Str) (pl : List (Str × Str)) v H', WorldT K [p] H' nm wd pl v → WO nm wd pl → ((nm.length : Int), (wd.length : Int)) ∈ smallS → SB [p] H H' → Pu H' p n → Q v H'
end
end K77
namespace K77
open PySem PySem.Spec PyProof.Rows C8 Ef
open L2 hiding E0 CX0 pass0 Fun
section
variable {P : Program} {w : World} {K : PySem.W.Frag} {mg : Str → Option Value} {base : Heap} {cT cC : Addr}
theorem any_eqv_p (q : Str × Str) : ∀ pl : List (Str × Str), ((pl.map dP1).any fun z => PyData.eqv z (dP1 q)) = decide (q ∈ pl)
  | [] => rfl
  | p :: pl => by
    rw [List.map_cons, List.any_cons, any_eqv_p q pl, eqv_p, Bool.eq_iff_iff]
    simp only [Bool.or_eq_true, decide_eq_true_eq, List.mem_cons]
    exact or_congr ⟨Eq.symm, Eq.symm⟩ Iff.rfl
/-- what two people, or two clubs, share -/
def sharedW (nm wd : List Str) (pl : List (Str × Str)) : Nat :=
  if nm.length = 2 then (wd.filter fun c => decide ((nm.getD 0 ⟨#[]⟩, c) ∈ pl) && decide ((nm.getD 1 ⟨#[]⟩, c) ∈ pl)).length
  else (nm.filter fun a => decide ((a, wd.getD 0 ⟨#[]⟩) ∈ pl) && decide ((a, wd.getD 1 ⟨#[]⟩) ∈ pl)).length
theorem ifY {b : Bool} {A B : Prop} (h : b = true) (q : A) : if b = true then A else B := by rw [if_pos h]; exact q
theorem decV_lt (a : Nat) : decide ((a : Int) > 2) = decide (2 < a) := decide_eq_decide.mpr (by omega)
/-- a len test of one of a world's lists -/
theorem eqv_nil (pl : List (Str × Str)) : PyData.eqv (dP pl) (.list []) = decide (pl = []) := eqv_pairs pl []
theorem free_tw {nm wd : List Str} {pl : List (Str × Str)} (tw : TW nm wd pl) : ∀ q ∈ freeP nm wd pl, PairOk q := fun q hq => by
  have := mem_prod.mp (List.mem_filter.mp hq).1
  exact ⟨tw.1 _ this.1, tw.2.1 _ this.2⟩
end
end K77
namespace K77
open PySem PySem.Spec PyProof.Rows C8 Ef
open L2 hiding E0 CX0 pass0 Fun
section
variable {P : Program} {w : World} {K : PySem.W.Frag} {mg : Str → Option Value} {base : Heap} {cT cC : Addr}
/-- clubs exchanged -/
def ren (wd es : List Str) (c : Str) : Str := es.getD (wd.idxOf c) c
theorem nodup_on {α β : Type} {f : α → β} : ∀ {l : List α}, l.Nodup → (∀ x ∈ l, ∀ y ∈ l, f x = f y → x = y) → (l.map f).Nodup
  | [], _, _ => List.nodup_nil
  | a :: l, h, inj => by
    rw [List.nodup_cons] at h
    rw [List.map_cons, List.nodup_cons]
    refine ⟨fun z => ?_, nodup_on h.2 fun x hx y hy => inj x (List.mem_cons_of_mem _ hx) y (List.mem_cons_of_mem _ hy)⟩
    obtain ⟨b, hb, e⟩ := List.mem_map.mp z
    exact h.1 (inj b (List.mem_cons_of_mem _ hb) a (by simp) e ▸ hb)
theorem nodup_at {α : Type} {l : List α} (h : l.Nodup) {i j : Nat} {x : α} (hi : l[i]? = some x) (hj : l[j]? = some x) : i = j := by
  unfold List.Nodup at h
  rw [List.pairwise_iff_getElem] at h
  obtain ⟨i1, i2⟩ := List.getElem?_eq_some_iff.mp hi
  obtain ⟨j1, j2⟩ := List.getElem?_eq_some_iff.mp hj
  rcases Nat.lt_trichotomy i j with c | c | c
  · exact absurd (i2.trans j2.symm) (h i j i1 j1 c)
  · exact c
  · exact absurd (j2.trans i2.symm) (h j i j1 i1 c)
section
variable {wd es : List Str}
theorem ren_at (le : es.length = wd.length) {c : Str} (hc : c ∈ wd) : ∃ i : Nat, wd[i]? = some c ∧ es[i]? = some (ren wd es c) := by
  have hi : wd.idxOf c < wd.length := List.idxOf_lt_length_of_mem hc
  refine ⟨wd.idxOf c, by rw [List.getElem?_eq_getElem hi, List.getElem_idxOf], ?_⟩
  unfold ren
  rw [List.getD_eq_getElem?_getD, List.getElem?_eq_getElem (by omega)]
  rfl
theorem ren_inj (le : es.length = wd.length) (nd : es.Nodup) {c c' : Str} (hc : c ∈ wd) (hc' : c' ∈ wd) (e : ren wd es c = ren wd es c') : c = c' := by
  obtain ⟨i, h1, h2⟩ := ren_at le hc
  obtain ⟨j, h3, h4⟩ := ren_at le hc'
  rw [← e] at h4
  have := nodup_at nd h2 h4
  subst this
  rw [h1] at h3
  cases h3
  rfl
theorem ren_mem (pe : es.Perm wd) {c : Str} (hc : c ∈ wd) : ren wd es c ∈ wd := by
  obtain ⟨i, h1, h2⟩ := ren_at pe.length_eq hc
  exact pe.mem_iff.mp (List.mem_of_getElem? h2)
theorem ren_val (le : es.length = wd.length) (nd : wd.Nodup) {c : Str} (hc : c ∈ wd) : valV (mergeK [] ((wd.map fun x => (Sum.inr x : L2.Key)).zip (es.map V.str))) (Sum.inr c) = some (.str (ren wd es c)) := by
  obtain ⟨i, h1, h2⟩ := ren_at le hc
  have fst : ((wd.map fun x => (Sum.inr x : L2.Key)).zip (es.map V.str)).map (·.1) = wd.map fun x => (Sum.inr x : L2.Key) := List.map_fst_zip (by rw [List.length_map, List.length_map]; omega)
  have nd' : (((wd.map fun x => (Sum.inr x : L2.Key)).zip (es.map V.str)).map (·.1)).Nodup := by
    rw [fst]
    exact nodup_on nd fun x _ y _ e => by injection e
  rw [mergeK_nd _ _ (by rw [List.nil_append]; exact nd'), List.nil_append]
  refine valV_mem nd' (List.mem_of_getElem? (i := i) ?_)
  rw [List.getElem?_zip_eq_some]
  exact ⟨by rw [List.getElem?_map, h1] <;> rfl, by rw [List.getElem?_map, h2] <;> rfl⟩
end
theorem sub_asc {nm wd : List Str} {pl : List (Str × Str)} {qs : List (Str × Str)} (h : WO nm wd pl) (s : qs.Sublist (prod nm wd)) : WO nm wd qs := h.with (List.Pairwise.sublist s (prod_asc h.n h.d)) fun q hq => s.subset hq
def spOther (K : PySem.W.Frag) : Sp := fun vs H Q _ => ∃ (p : Addr) (S : List Addr) (n : Nat) (v : V) (nm wd : List Str) (pl : List (Str × Str)), vs = [.ref p, v] ∧ Pu H p (n + 40) ∧ p ∈ S ∧ (∀ b ∈ S, ∃ zs, H b = some (.lst zs)) ∧ W3 K S H nm wd pl v ∧ WO nm wd pl ∧
  ∀ (v' : V) (pl' : List (Str × Str)) H', W3 K S H' nm wd pl' v' → WO nm wd pl' → SB [p] H H' → Pu H' p n → Q v' H'
end
end K77
namespace K77
open PySem PySem.Spec PyProof.Rows C8 Ef
open L2 hiding E0 CX0 pass0 Fun
section
variable {P : Program} {w : World} {K : PySem.W.Frag} {mg : Str → Option Value} {base : Heap} {cT cC : Addr}
/-- all parts of a list -/
def parts {α : Type} : List α → List (List α)
  | [] => [[]]
  | a :: l => parts l ++ (parts l).map (a :: ·)
theorem parts_len {α : Type} : ∀ l : List α, (parts l).length = 2 ^ l.length
  | [] => rfl
  | a :: l => by
    unfold parts
    rw [List.length_append, List.length_map, parts_len l, List.length_cons, Nat.pow_succ]
    omega
theorem parts_mem {α : Type} {l m : List α} (h : l.Sublist m) : l ∈ parts m := by
  induction h with
  | slnil => simp [parts]
  | cons a _ ih => exact List.mem_append_left _ ih
  | cons_cons a _ ih => exact List.mem_append_right _ (List.mem_map.mpr ⟨_, ih, rfl⟩)
theorem norm {nm wd : List Str} {pl : List (Str × Str)} (h : WO nm wd pl) : (prod nm wd).filter (fun q => decide (q ∈ pl)) = pl := by
  have a1 : AscP ((prod nm wd).filter fun q => decide (q ∈ pl)) := List.Pairwise.filter _ (prod_asc h.n h.d)
  have pm : ((prod nm wd).filter fun q => decide (q ∈ pl)).Perm pl := (List.perm_ext_iff_of_nodup (ascP_nodup a1) h.nd).mpr fun q => by
    rw [List.mem_filter]
    exact ⟨fun z => of_decide_eq_true z.2, fun z => ⟨h.pm q z, decide_eq_true z⟩⟩
  exact (sort_ascP (List.Perm.refl _) a1).symm.trans (sort_ascP pm h.pa)
theorem keys_le {nm wd : List Str} {pl : List (Str × Str)} (h : WO nm wd pl) {ks : List (List (Str × Str))} (nd : ks.Nodup) (r : ∀ x ∈ ks, Rch nm wd pl x) (sm : nm.length * wd.length ≤ 9) : ks.length ≤ 512 := by
  have := List.Nodup.length_le_of_subset (l₂ := parts (prod nm wd)) nd (fun x hx => parts_mem (by
    have := norm ((r x hx).wo h)
    rw [← this]
    exact List.filter_sublist))
  rw [parts_len, prod_len] at this
  exact Nat.le_trans this (Nat.pow_le_pow_right (by decide) sm : 2 ^ (nm.length * wd.length) ≤ 2 ^ 9)
theorem lay_ss : ∀ ws : List Str, (∀ x ∈ ws, PyData.strOk x = true) → PyData.canLayAll0 (ws.map PyData.str) = true
  | [], _ => by simp [PyData.canLayAll0]
  | x :: ws, h => by
    have h1 : (PyData.str x).canLay0 = true := by simp [PyData.canLay0, h x (by simp)]
    simp only [List.map_cons, PyData.canLayAll0, h1, lay_ss ws fun x hx => h x (List.mem_cons_of_mem _ hx), Bool.and_self]
theorem depth_ss : ∀ ws : List Str, PyData.depthAll (ws.map PyData.str) ≤ 1
  | [] => by simp [PyData.depthAll]
  | x :: ws => by
    have := depth_ss ws
    simp only [List.map_cons, PyData.depthAll, PyData.depth]
    omega
theorem lay_world {nm wd : List Str} {pl : List (Str × Str)} (tw : TW nm wd pl) : (dWorld nm wd pl).canLay0 = true := by
  simp only [dWorld, PyData.canLay0, PyData.canLayAll0, lay_ss nm tw.1, lay_ss wd tw.2.1, ps_lay pl tw.2.2, Bool.and_self]
theorem depth_world (nm wd : List Str) (pl : List (Str × Str)) : (dWorld nm wd pl).depth ≤ 4 := by
  have h1 := depth_ss nm
  have h2 := depth_ss wd
  have h3 := ps_depth pl
  simp only [dWorld, PyData.depth, PyData.depthAll]
  omega
theorem lay_worlds {nm wd : List Str} : ∀ pls : List (List (Str × Str)), (∀ pl ∈ pls, TW nm wd pl) → PyData.canLayAll0 (pls.map (dWorld nm wd)) = true
  | [], _ => by simp [PyData.canLayAll0]
  | pl :: pls, h => by simp only [List.map_cons, PyData.canLayAll0, lay_world (h pl (by simp)), lay_worlds pls fun x hx => h x (List.mem_cons_of_mem _ hx), Bool.and_self]
theorem depth_worlds {nm wd : List Str} : ∀ pls : List (List (Str × Str)), PyData.depthAll (pls.map (dWorld nm wd)) ≤ 4
  | [] => by simp [PyData.depthAll]
  | pl :: pls => by
    have h1 := depth_worlds (nm := nm) (wd := wd) pls
    have h2 := depth_world nm wd pl
    simp only [List.map_cons, PyData.depthAll]
    omega
theorem shaped_worlds {nm wd : List Str} {pls : List (List (Str × Str))} (h : ∀ pl ∈ pls, TW nm wd pl) : SeqAt.shaped (.list (pls.map (dWorld nm wd))) = true := by
  have h1 := depth_worlds (nm := nm) (wd := wd) pls
  have h2 : PyData.depth (.list (pls.map (dWorld nm wd))) ≤ 64 := by
    simp only [PyData.depth]
    omega
  show (PyData.canLay0 (.list (pls.map (dWorld nm wd))) && decide (PyData.depth (.list (pls.map (dWorld nm wd))) ≤ 64)) = true
  rw [Bool.and_eq_true]
  exact ⟨by simpa [PyData.canLay0] using lay_worlds pls h, decide_eq_true h2⟩
/-- worlds of the same people and clubs -/
abbrev W3s (K : PySem.W.Frag) (S : List Addr) (H : Hp) (nm wd : List Str) : List (List (Str × Str)) → List V → Prop := Paired fun pl v => W3 K S H nm wd pl v
theorem w3s_rpl {S : List Addr} {H : Hp} {nm wd : List Str} {pls : List (List (Str × Str))} {vs : List V} (h : W3s K S H nm wd pls vs) : RpL K S H (pls.map (dWorld nm wd)) vs := by
  induction h with
  | nil => exact rfl
  | cons h _ ih => exact ⟨_, _, rfl, h.rp, ih⟩
theorem w3s_sb {S : List Addr} {H H' : Hp} {nm wd : List Str} {pls : List (List (Str × Str))} {vs : List V} (h : W3s K S H nm wd pls vs) (s : SB S H H') : W3s K S H' nm wd pls vs := Paired.mapP h fun _ _ z => z.sb s
theorem w3s_less {S T : List Addr} {H : Hp} {nm wd : List Str} {pls : List (List (Str × Str))} {vs : List V} (h : W3s K S H nm wd pls vs) (s : ∀ b ∈ T, b ∈ S) : W3s K T H nm wd pls vs := Paired.mapP h fun _ _ z => z.less s
theorem w3s_more {S : List Addr} {H : Hp} {p : Addr} {nm wd : List Str} {pls : List (List (Str × Str))} {vs : List V} (h : W3s K S H nm wd pls vs) (n : H p = none) : W3s K (p :: S) H nm wd pls vs := Paired.mapP h fun _ _ z => z.more n
theorem eqv_worlds {nm wd : List Str} : ∀ pls : List (List (Str × Str)), PyData.eqv (.list (pls.map (dWorld nm wd))) (.list []) = decide (pls = [])
  | [] => rfl
  | _ :: _ => rfl
/-- what is known of the far tables and of the later layer -/
structure LC (P : Program) (w : World) (K : PySem.W.Frag) (nm wd : List Str) (pl : List (Str × Str)) (H : Hp) (d lt : Addr) (k0 : Nat) (kvs : List EnN) (lats : List (List (Str × Str))) (G : Hp) : Prop where
  hd : G d = some (dN P w d kvs)
  hk : KeysAt K G kvs
  nd : (kvs.map (·.1)).Nodup
  hr : ∀ x ∈ kvs.map (·.1), Rch nm wd pl x
  hi : ∀ e ∈ kvs, ∃ i : Int, e.2.2 = .int i
  hl : ∃ ws, G lt = some (.lst ws) ∧ W3s K [lt, d] G nm wd lats ws
  li : ∀ x ∈ lats, x ∈ kvs.map (·.1)
  hp : pl ∈ kvs.map (·.1)
  hn : lats.length + k0 ≤ kvs.length
  hs : SB [] H G
theorem LC.sb {nm wd : List Str} {pl : List (Str × Str)} {H : Hp} {d lt : Addr} {k0 : Nat} {kvs : List EnN} {lats : List (List (Str × Str))} {G G' : Hp} (h : LC P w K nm wd pl H d lt k0 kvs lats G) (s : SB [] G G') : LC P w K nm wd pl H d lt k0 kvs lats G' := by
  obtain ⟨ws, e, hw⟩ := h.hl
  exact { h with hd := s _ _ (by simp) h.hd, hk := h.hk.sb s, hl := ⟨ws, s _ _ (by simp) e, w3s_sb hw (s.wide (by simp))⟩, hs := h.hs.trans s }
theorem LC.dom {nm wd : List Str} {pl : List (Str × Str)} {H : Hp} {d lt : Addr} {k0 : Nat} {kvs : List EnN} {lats : List (List (Str × Str))} {G : Hp} (h : LC P w K nm wd pl H d lt k0 kvs lats G) : Dom [lt, d] G := fun b hb => by
  obtain ⟨ws, e, _⟩ := h.hl
  simp only [List.mem_cons, List.not_mem_nil, or_false] at hb
  rcases hb with rfl | rfl
  · rw [e]; exact fun z => nomatch z
  · rw [h.hd]; exact fun z => nomatch z
/-- closed under moves -/
def Shut (nm wd : List Str) (ks : List (List (Str × Str))) (x : List (Str × Str)) : Prop := ∀ q ∈ freeP nm wd x, shiftP x q ∈ ks
/-- a new table goes in -/
theorem LC.put {nm wd : List Str} {pl : List (Str × Str)} {H : Hp} {d lt b : Addr} {k0 : Nat} {kvs : List EnN} {lats : List (List (Str × Str))} {G : Hp} {x : List (Str × Str)} {i : Int} {v : V} (h : LC P w K nm wd pl H d lt k0 kvs lats G) (hd : H d = none) (hl : H lt = none) (hb : TupP K G x b) (hn : x ∉ kvs.map (·.1)) (hr : Rch nm wd pl x) (hv : W3 K [lt, d] G nm wd x v) {ws : List V} (hw : G lt = some (.lst ws)) (ndl : lt ≠ d) :
    LC P w K nm wd pl H d lt k0 (kvs ++ [(x, b, .int i)]) (lats ++ [x]) (upd (upd G d (dN P w d (kvs ++ [(x, b, .int i)]))) lt (.lst (ws ++ [v]))) := by
  have s1 : SB [d] G (upd G d (dN P w d (kvs ++ [(x, b, .int i)]))) := SB.same.put (by simp)
  have s2 : SB [lt, d] G (upd (upd G d (dN P w d (kvs ++ [(x, b, .int i)]))) lt (.lst (ws ++ [v]))) := (s1.wide (by simp)).put (by simp)
  have nt : ∀ c ∈ [lt, d], ∀ xs, G c ≠ some (.tup xs) := fun c hc xs z => by
    simp only [List.mem_cons, List.not_mem_nil, or_false] at hc
    rcases hc with rfl | rfl
    · rw [hw] at z; cases z
    · rw [h.hd] at z; cases z
  obtain ⟨ws', e', hws⟩ := h.hl
  rw [hw] at e'
  cases e'
  have km : (kvs ++ [(x, b, V.int i)]).map (fun e : EnN => e.1) = kvs.map (fun e : EnN => e.1) ++ [x] := by rw [List.map_append] <;> rfl
  refine ⟨?_, fun e he => ?_, ?_, fun y hy => ?_, fun e he => ?_, ⟨_, upd_same, Paired.app (w3s_sb hws s2) (.cons (hv.sb s2) .nil)⟩, fun y hy => ?_, ?_, ?_, (h.hs.mut hd).mut hl⟩
  · rw [upd_ne (Ne.symm ndl)]; exact upd_same
  · rcases List.mem_append.mp he with he | he
    · exact (h.hk e he).lists s2 nt
    · rw [List.mem_singleton.mp he]
      exact hb.lists s2 nt
  · rw [km, List.nodup_append]
    refine ⟨h.nd, by simp, fun y hy z hz => ?_⟩
    rw [List.mem_singleton.mp hz]
    rintro rfl
    exact hn hy
  · rw [km] at hy
    rcases List.mem_append.mp hy with hy | hy
    · exact h.hr y hy
    · rw [List.mem_singleton.mp hy]; exact hr
  · rcases List.mem_append.mp he with he | he
    · exact h.hi e he
    · rw [List.mem_singleton.mp he]; exact ⟨i, rfl⟩
  · rw [km]
    rcases List.mem_append.mp hy with hy | hy
    · exact List.mem_append_left _ (h.li y hy)
    · exact List.mem_append_right _ hy
  · rw [km]; exact List.mem_append_left _ h.hp
  · have := h.hn
    rw [List.length_append, List.length_append]
    show lats.length + 1 + k0 ≤ kvs.length + 1
    omega
end
end K77
namespace K77
open PySem PySem.Spec PyProof.Rows C8 Ef
open L2 hiding E0 CX0 pass0 Fun
/-! ### the plain law, by indices -/
def sumR (n : Nat) (f : Nat → Nat) : Nat := ((List.range n).map f).sum
theorem sum_congr {α : Type} {l : List α} {f g : α → Nat} (h : ∀ x ∈ l, f x = g x) : (l.map f).sum = (l.map g).sum := by rw [List.map_congr_left h]
theorem sumR_congr {n : Nat} {f g : Nat → Nat} (h : ∀ x, x < n → f x = g x) : sumR n f = sumR n g := sum_congr fun x hx => h x (List.mem_range.mp hx)
theorem sumR_succ (n : Nat) (f : Nat → Nat) : sumR (n + 1) f = sumR n f + f n := by
  unfold sumR
  rw [List.range_succ, List.map_append, List.sum_append]
  simp
theorem sumR_add (f g : Nat → Nat) : ∀ n, sumR n (fun x => f x + g x) = sumR n f + sumR n g
  | 0 => rfl
  | n + 1 => by rw [sumR_succ, sumR_succ, sumR_succ, sumR_add f g n]; omega
theorem sumR_zero : ∀ n, sumR n (fun _ => 0) = 0
  | 0 => rfl
  | n + 1 => by rw [sumR_succ, sumR_zero n]
theorem sumR_swap (f : Nat → Nat → Nat) (m : Nat) : ∀ n, sumR n (fun x => sumR m fun y => f x y) = sumR m fun y => sumR n fun x => f x y
  | 0 => (sumR_zero m).symm
  | n + 1 => by
    rw [sumR_succ, sumR_swap f m n, ← sumR_add]
    exact sumR_congr fun y _ => (sumR_succ n fun x => f x y).symm
theorem sumR_swap3 (f : Nat → Nat → Nat → Nat) (p q r : Nat) : (sumR p fun x => sumR q fun y => sumR r fun z => f x y z) = sumR r fun z => sumR q fun y => sumR p fun x => f x y z := by
  have e1 : (sumR p fun x => sumR q fun y => sumR r fun z => f x y z) = sumR p fun x => sumR r fun z => sumR q fun y => f x y z := sumR_congr fun x _ => sumR_swap _ _ _
  rw [e1, sumR_swap (fun x z => sumR q fun y => f x y z)]
  exact sumR_congr fun z _ => sumR_swap _ _ _
theorem sumR_one {n k : Nat} (h : k < n) (f : Nat → Nat) : (sumR n fun x => if x = k then f x else 0) = f k := by
  induction n with
  | zero => omega
  | succ n ih =>
    rw [sumR_succ]
    by_cases e : n = k
    · subst e
      rw [if_pos rfl]
      have : (sumR n fun x => if x = n then f x else 0) = 0 := Eq.trans (sumR_congr fun x hx => if_neg (show ¬ x = n by omega)) (sumR_zero n)
      omega
    · rw [if_neg e, ih (by omega), Nat.add_zero]
theorem sumR_split {n k : Nat} (h : k < n) (f : Nat → Nat) : sumR n f = (sumR n fun x => if x = k then 0 else f x) + f k := by
  have e := sumR_one h f
  rw [← e, ← sumR_add]
  exact sumR_congr fun x _ => by split <;> simp
theorem sum_filter {α : Type} (p : α → Bool) (g : α → Nat) : ∀ l : List α, ((l.filter p).map g).sum = (l.map fun x => if p x = true then g x else 0).sum
  | [] => rfl
  | x :: l => by
    rw [List.filter_cons, List.map_cons, List.sum_cons, ← sum_filter p g l]
    split <;> simp
theorem len_filter {α : Type} (p : α → Bool) : ∀ l : List α, (l.filter p).length = (l.map fun x => (p x).toNat).sum
  | [] => rfl
  | x :: l => by
    rw [List.filter_cons, List.map_cons, List.sum_cons, ← len_filter p l]
    cases p x
    · simp
    · simp; omega
/-- pairs that cross a place -/
def thrI (n m : Nat) (f : Nat → Nat → Bool) (i j : Nat) : Nat := sumR n fun a => sumR m fun d => (!decide (a = i) && (!decide (d = j) && (f a j && (f i d && f a d)))).toNat
def SI (n m : Nat) (f : Nat → Nat → Bool) : Nat := sumR n fun i => sumR m fun j => if f i j = true then thrI n m f i j else 0
def sharedI (n m : Nat) (f : Nat → Nat → Bool) : Nat := if n = 2 then sumR m fun d => (f 0 d && f 1 d).toNat else sumR n fun a => (f a 0 && f a 1).toNat
/-- nothing let: none; else the kind of mark and its number -/
def mI (n m : Nat) (f : Nat → Nat → Bool) : Option (Nat × Nat) :=
  if ((placesL n m).filter fun q => decide (thrI n m f q.1 q.2 % 2 = 0)) = [] then none else if min n m = 1 then some (0, 0) else if min n m = 2 then some (1, sharedI n m f / 2) else some (2, SI n m f / 4 % 2)
/-- one place more or less -/
def flp (f : Nat → Nat → Bool) (i0 j0 : Nat) : Nat → Nat → Bool := fun i j => if i = i0 ∧ j = j0 then !f i j else f i j
theorem flp_flp (f : Nat → Nat → Bool) (i0 j0 : Nat) : flp (flp f i0 j0) i0 j0 = f := by
  funext i j
  unfold flp
  split
  · simp
  · rfl
theorem thr_flp (n m : Nat) (f : Nat → Nat → Bool) (i0 j0 : Nat) : thrI n m (flp f i0 j0) i0 j0 = thrI n m f i0 j0 := by
  unfold thrI
  refine sumR_congr fun a _ => sumR_congr fun d _ => ?_
  by_cases h1 : a = i0
  · simp [h1]
  · by_cases h2 : d = j0
    · simp [h2]
    · simp [flp, h1, h2]
/-- .. and the sum over four corners -/
def S4 (n m : Nat) (F : Nat → Nat → Nat → Nat → Nat) : Nat := sumR n fun i => sumR m fun j => sumR n fun a => sumR m fun d => F i j a d
theorem S4_congr {n m : Nat} {F G : Nat → Nat → Nat → Nat → Nat} (h : ∀ i j a d, F i j a d = G i j a d) : S4 n m F = S4 n m G := sumR_congr fun i _ => sumR_congr fun j _ => sumR_congr fun a _ => sumR_congr fun d _ => h i j a d
theorem S4_add (n m : Nat) (F G : Nat → Nat → Nat → Nat → Nat) : S4 n m (fun i j a d => F i j a d + G i j a d) = S4 n m F + S4 n m G := by
  unfold S4
  rw [← sumR_add]
  refine sumR_congr fun i _ => ?_
  rw [← sumR_add]
  refine sumR_congr fun j _ => ?_
  rw [← sumR_add]
  refine sumR_congr fun a _ => ?_
  rw [← sumR_add]
theorem S4_13 (n m : Nat) (F : Nat → Nat → Nat → Nat → Nat) : S4 n m (fun i j a d => F a j i d) = S4 n m F := sumR_swap3 (fun i j a => sumR m fun d => F a j i d) n m n
theorem S4_24 (n m : Nat) (F : Nat → Nat → Nat → Nat → Nat) : S4 n m (fun i j a d => F i d a j) = S4 n m F := sumR_congr fun i _ => sumR_swap3 (fun j a d => F i d a j) m n m
def F4 (f : Nat → Nat → Bool) (i j a d : Nat) : Nat := (f i j && (!decide (a = i) && (!decide (d = j) && (f a j && (f i d && f a d))))).toNat
theorem SI_4 (n m : Nat) (f : Nat → Nat → Bool) : SI n m f = S4 n m (F4 f) := by
  refine sumR_congr fun i _ => sumR_congr fun j _ => ?_
  cases h : f i j with
  | true =>
    rw [if_pos rfl]
    unfold thrI F4
    rw [h]
    simp only [Bool.true_and]
  | false =>
    rw [if_neg (by decide)]
    unfold F4
    rw [h]
    simp only [Bool.false_and, Bool.toNat_false, sumR_zero]
def A4 (f : Nat → Nat → Bool) (i0 j0 i j a d : Nat) : Nat := if i = i0 then (if j = j0 then (!decide (a = i0) && (!decide (d = j0) && (f a j0 && (f i0 d && f a d)))).toNat else 0) else 0
theorem S4_A (n m : Nat) (f : Nat → Nat → Bool) {i0 j0 : Nat} (hi : i0 < n) (hj : j0 < m) : S4 n m (A4 f i0 j0) = thrI n m f i0 j0 := by
  have e1 : S4 n m (A4 f i0 j0) = sumR n fun i => if i = i0 then (sumR m fun j => if j = j0 then thrI n m f i0 j0 else 0) else 0 := by
    refine sumR_congr fun i _ => ?_
    unfold A4
    by_cases h1 : i = i0
    · rw [if_pos h1]
      refine sumR_congr fun j _ => ?_
      by_cases h2 : j = j0
      · simp only [h1, h2, if_true]
        rfl
      · simp only [h1, h2, if_true, if_false, sumR_zero]
    · simp only [h1, if_false, sumR_zero]
  rw [e1, sumR_one hi (fun _ => sumR m fun j => if j = j0 then thrI n m f i0 j0 else 0), sumR_one hj (fun _ => thrI n m f i0 j0)]
theorem F4_flp (f : Nat → Nat → Bool) {i0 j0 : Nat} (h0 : f i0 j0 = false) (i j a d : Nat) : F4 (flp f i0 j0) i j a d = F4 f i j a d + (A4 f i0 j0 i j a d + (A4 f i0 j0 a j i d + (A4 f i0 j0 i d a j + A4 f i0 j0 a d i j))) := by
  unfold F4 A4 flp
  by_cases e1 : a = i
  · subst e1
    by_cases e2 : a = i0
    · simp [e2]
    · simp [e2]
  · by_cases e2 : d = j
    · subst e2
      by_cases e3 : d = j0
      · simp [e3]
      · simp [e3]
    · have e1' : ¬ i = a := fun z => e1 z.symm
      have e2' : ¬ j = d := fun z => e2 z.symm
      by_cases c1 : i = i0
      · subst c1
        by_cases c3 : j = j0
        · subst c3
          simp [e1, e2, e1', e2', h0]
        · by_cases c4 : d = j0
          · subst c4
            simp [e1, e2, e1', e2', h0, c3]
            cases f a d <;> cases f i j <;> cases f a j <;> rfl
          · simp [e1, e2, e1', e2', c3, c4]
      · by_cases c2 : a = i0
        · subst c2
          by_cases c3 : j = j0
          · subst c3
            simp [e1, e2, e1', e2', h0, c1]
            cases f i j <;> cases f i d <;> cases f a d <;> rfl
          · by_cases c4 : d = j0
            · subst c4
              simp [e1, e2, e1', e2', h0, c1, c3]
              cases f i j <;> cases f i d <;> cases f a j <;> rfl
            · simp [e1, e2, e1', e2', c1, c3, c4]
        · simp [e1, e2, e1', e2', c1, c2]
theorem SI_flp0 (n m : Nat) (f : Nat → Nat → Bool) {i0 j0 : Nat} (hi : i0 < n) (hj : j0 < m) (h0 : f i0 j0 = false) : SI n m (flp f i0 j0) = SI n m f + 4 * thrI n m f i0 j0 := by
  rw [SI_4, SI_4, S4_congr (F4_flp f h0), S4_add, S4_add, S4_add, S4_add, S4_13 n m (A4 f i0 j0), S4_24 n m (A4 f i0 j0), S4_A n m f hi hj]
  have : S4 n m (fun i j a d => A4 f i0 j0 a d i j) = thrI n m f i0 j0 := by
    have e := S4_13 n m (fun i j a d => A4 f i0 j0 i d a j)
    have e2 : S4 n m (fun i j a d => A4 f i0 j0 a d i j) = S4 n m (fun i j a d => A4 f i0 j0 i d a j) := e
    rw [e2, S4_24 n m (A4 f i0 j0), S4_A n m f hi hj]
  rw [this]
  omega
theorem SI_par (n m : Nat) (f : Nat → Nat → Bool) {i0 j0 : Nat} (hi : i0 < n) (hj : j0 < m) (ev : thrI n m f i0 j0 % 2 = 0) : SI n m (flp f i0 j0) / 4 % 2 = SI n m f / 4 % 2 := by
  cases h0 : f i0 j0 with
  | false => rw [SI_flp0 n m f hi hj h0]; omega
  | true =>
    have h1 : (flp f i0 j0) i0 j0 = false := by simp [flp, h0]
    have e := SI_flp0 n m (flp f i0 j0) hi hj h1
    rw [flp_flp, thr_flp] at e
    rw [e]
    omega
/-- two rows: half of what they share -/
theorem half_flip (m j0 : Nat) (g h : Nat → Bool) (hj : j0 < m) (ev : (sumR m fun d => (!decide (d = j0) && (h j0 && (g d && h d))).toNat) % 2 = 0) :
    (sumR m fun d => ((if d = j0 then !g d else g d) && h d).toNat) / 2 = (sumR m fun d => (g d && h d).toNat) / 2 := by
  rw [sumR_split hj (fun d => ((if d = j0 then !g d else g d) && h d).toNat), sumR_split hj (fun d => (g d && h d).toNat)]
  have e : (sumR m fun x => if x = j0 then 0 else ((if x = j0 then !g x else g x) && h x).toNat) = sumR m fun x => if x = j0 then 0 else (g x && h x).toNat := sumR_congr fun x _ => by
    by_cases c : x = j0
    · simp [c]
    · simp [c]
  rw [e, if_pos rfl]
  cases hh : h j0 with
  | false => simp
  | true =>
    have e2 : (sumR m fun d => (!decide (d = j0) && (h j0 && (g d && h d))).toNat) = sumR m fun x => if x = j0 then 0 else (g x && h x).toNat := sumR_congr fun x _ => by
      rw [hh]
      by_cases c : x = j0
      · simp [c]
      · simp [c]
    rw [e2] at ev
    cases g j0 <;> simp <;> omega
theorem sumR_two (f : Nat → Nat) : sumR 2 f = f 0 + f 1 := by
  rw [sumR_succ, sumR_succ]
  show 0 + f 0 + f 1 = _
  omega
theorem shared_flp {n m : Nat} (f : Nat → Nat → Bool) {i0 j0 : Nat} (hi : i0 < n) (hj : j0 < m) (hm : n = 2 ∨ m = 2) (ev : thrI n m f i0 j0 % 2 = 0) : sharedI n m (flp f i0 j0) / 2 = sharedI n m f / 2 := by
  unfold sharedI
  by_cases c : n = 2
  · subst c
    rw [if_pos rfl, if_pos rfl]
    unfold thrI at ev
    rw [sumR_two] at ev
    have ii : i0 = 0 ∨ i0 = 1 := by omega
    rcases ii with rfl | rfl
    · have h := half_flip m j0 (f 0) (f 1) hj (by simpa [sumR_zero] using ev)
      rw [← h]
      exact congrArg (· / 2) (sumR_congr fun d _ => by by_cases c : d = j0 <;> simp [flp, c])
    · have h := half_flip m j0 (f 1) (f 0) hj (by simpa [sumR_zero] using ev)
      have e1 : (sumR m fun d => (f 0 d && f 1 d).toNat) = sumR m fun d => (f 1 d && f 0 d).toNat := sumR_congr fun d _ => by rw [Bool.and_comm]
      rw [e1, ← h]
      exact congrArg (· / 2) (sumR_congr fun d _ => by
        rw [Bool.and_comm]
        by_cases c : d = j0 <;> simp [flp, c])
  · rw [if_neg c, if_neg c]
    have m2 : m = 2 := by omega
    subst m2
    unfold thrI at ev
    have jj : j0 = 0 ∨ j0 = 1 := by omega
    rcases jj with rfl | rfl
    · have h := half_flip n i0 (fun a => f a 0) (fun a => f a 1) hi (by
        refine Eq.trans (congrArg (· % 2) (sumR_congr fun a _ => ?_)) ev
        rw [sumR_two]
        simp
        cases decide (a = i0) <;> cases f a 0 <;> cases f i0 1 <;> cases f a 1 <;> rfl)
      rw [← h]
      exact congrArg (· / 2) (sumR_congr fun a _ => by by_cases c : a = i0 <;> simp [flp, c])
    · have h := half_flip n i0 (fun a => f a 1) (fun a => f a 0) hi (by
        refine Eq.trans (congrArg (· % 2) (sumR_congr fun a _ => ?_)) ev
        rw [sumR_two]
        simp
        cases decide (a = i0) <;> cases f a 0 <;> cases f i0 0 <;> cases f a 1 <;> rfl)
      have e1 : (sumR n fun a => (f a 0 && f a 1).toNat) = sumR n fun a => (f a 1 && f a 0).toNat := sumR_congr fun d _ => by rw [Bool.and_comm]
      rw [e1, ← h]
      exact congrArg (· / 2) (sumR_congr fun a _ => by
        rw [Bool.and_comm]
        by_cases c : a = i0 <;> simp [flp, c])
theorem mI_flp {n m : Nat} (f : Nat → Nat → Bool) {i0 j0 : Nat} (hi : i0 < n) (hj : j0 < m) (ev : thrI n m f i0 j0 % 2 = 0) : mI n m (flp f i0 j0) = mI n m f := by
  have ne : ∀ {g : Nat → Nat → Bool}, thrI n m g i0 j0 % 2 = 0 → ¬ ((placesL n m).filter fun q => decide (thrI n m g q.1 q.2 % 2 = 0)) = [] := fun h z => by
    have : (i0, j0) ∈ ((placesL n m).filter fun q => decide (thrI n m _ q.1 q.2 % 2 = 0)) := List.mem_filter.mpr ⟨mem_places.mpr ⟨hi, hj⟩, decide_eq_true h⟩
    rw [z] at this
    cases this
  unfold mI
  rw [if_neg (ne ev), if_neg (ne (by rw [thr_flp]; exact ev))]
  by_cases c1 : min n m = 1
  · rw [if_pos c1, if_pos c1]
  · rw [if_neg c1, if_neg c1]
    by_cases c2 : min n m = 2
    · rw [if_pos c2, if_pos c2, shared_flp f hi hj (by omega) ev]
    · rw [if_neg c2, if_neg c2, SI_par n m f hi hj ev]
end K77
namespace K77
open PySem PySem.Spec PyProof.Rows C8 Ef
open L2 hiding E0 CX0 pass0 Fun
/-! ### names and indices -/
theorem range_map {α : Type} (l : List α) (e : α) : l = (List.range l.length).map fun i => l.getD i e := by
  refine List.ext_getElem? fun i => ?_
  rw [List.getElem?_map]
  by_cases h : i < l.length
  · rw [List.getElem?_range h, List.getElem?_eq_getElem h, Option.map_some, List.getD_eq_getElem?_getD, List.getElem?_eq_getElem h] <;> rfl
  · rw [List.getElem?_eq_none_iff.mpr (by omega), List.getElem?_eq_none_iff.mpr (by rw [List.length_range]; omega)] <;> rfl
theorem getD_inj {l : List Str} {e : Str} (nd : l.Nodup) {i j : Nat} (hi : i < l.length) (hj : j < l.length) : l.getD i e = l.getD j e ↔ i = j := by
  constructor
  · intro h
    rw [List.getD_eq_getElem?_getD, List.getD_eq_getElem?_getD, List.getElem?_eq_getElem hi, List.getElem?_eq_getElem hj] at h
    refine nodup_at nd (x := l[i]) (List.getElem?_eq_getElem hi) ?_
    rw [List.getElem?_eq_getElem hj]
    exact congrArg some h.symm
  · rintro rfl; rfl
theorem getD_mem {l : List Str} {e : Str} {i : Nat} (hi : i < l.length) : l.getD i e ∈ l := by
  rw [List.getD_eq_getElem?_getD, List.getElem?_eq_getElem hi]
  exact List.getElem_mem hi
theorem prod_places (nm wd : List Str) : prod nm wd = (placesL nm.length wd.length).map (nameAt nm wd) := by
  unfold prod placesL
  rw [List.map_flatMap]
  conv => lhs; rw [range_map nm ⟨#[]⟩, List.flatMap_map]
  refine congrArg (fun f => (List.range nm.length).flatMap f) (funext fun i => ?_)
  conv => lhs; rw [range_map wd ⟨#[]⟩]
  rw [List.map_map, List.map_map]
  rfl
/-- the members by indices -/
def fI (nm wd : List Str) (pl : List (Str × Str)) (i j : Nat) : Bool := decide (nameAt nm wd (i, j) ∈ pl)
section
variable {nm wd : List Str} {pl : List (Str × Str)}
theorem WO.name_in (h : WO nm wd pl) {i j : Nat} : nameAt nm wd (i, j) ∈ prod nm wd ↔ i < nm.length ∧ j < wd.length := by
  rw [mem_prod]
  have out : ∀ {l : List Str} {k : Nat}, (∀ x ∈ l, WordOk x) → (l.getD k ⟨#[]⟩ ∈ l ↔ k < l.length) := fun {l k} ok => by
    constructor
    · intro z
      rcases Nat.lt_or_ge k l.length with c | c
      · exact c
      · have := ok _ z
        rw [List.getD_eq_getElem?_getD, List.getElem?_eq_none_iff.mpr c] at this
        have h1 : 1 ≤ (0 : Nat) := this.1
        omega
    · exact getD_mem
  exact and_congr (out h.nk) (out h.dk)
theorem WO.name_inj (h : WO nm wd pl) {i j a d : Nat} (hi : i < nm.length) (hj : j < wd.length) : nameAt nm wd (a, d) = nameAt nm wd (i, j) ↔ a = i ∧ d = j := by
  constructor
  · intro e
    have p := (h.name_in (i := a) (j := d)).mp (e ▸ (h.name_in).mpr ⟨hi, hj⟩)
    injection e with e1 e2
    exact ⟨(getD_inj (asc_nodup h.n) p.1 hi).mp e1, (getD_inj (asc_nodup h.d) p.2 hj).mp e2⟩
  · rintro ⟨rfl, rfl⟩; rfl
theorem WO.fI_out (h : WO nm wd pl) {i j : Nat} (o : ¬ (i < nm.length ∧ j < wd.length)) : fI nm wd pl i j = false := decide_eq_false fun z => o (h.name_in.mp (h.pm _ z))
theorem fI_shift (h : WO nm wd pl) {i j : Nat} (hi : i < nm.length) (hj : j < wd.length) : fI nm wd (shiftP pl (nameAt nm wd (i, j))) = flp (fI nm wd pl) i j := by
  funext a d
  unfold fI flp
  rw [Bool.eq_iff_iff, decide_eq_true_eq, mem_shift]
  by_cases c : a = i ∧ d = j
  · rw [if_pos c, if_pos ((h.name_inj hi hj).mpr c)]
    obtain ⟨rfl, rfl⟩ := c
    simp
  · rw [if_neg c, if_neg (fun z => c ((h.name_inj hi hj).mp z)), decide_eq_true_eq]
/-- equal by indices -/
theorem fI_eq {pl' : List (Str × Str)} (h : WO nm wd pl) (h' : WO nm wd pl') (e : ∀ i j, i < nm.length → j < wd.length → fI nm wd pl i j = fI nm wd pl' i j) : pl = pl' := by
  rw [← norm h, ← norm h']
  refine List.filter_congr fun q hq => ?_
  rw [prod_places] at hq
  obtain ⟨⟨i, j⟩, hij, rfl⟩ := List.mem_map.mp hq
  have := mem_places.mp hij
  exact e i j this.1 this.2
theorem decide_congr {p q : Prop} [Decidable p] [Decidable q] (h : p ↔ q) : decide p = decide q := by
  rw [Bool.eq_iff_iff, decide_eq_true_eq, decide_eq_true_eq]
  exact h
theorem thr_I (h : WO nm wd pl) {i j : Nat} (hi : i < nm.length) (hj : j < wd.length) : thr nm wd pl (nameAt nm wd (i, j)) = thrI nm.length wd.length (fI nm wd pl) i j := by
  unfold thr thrN thrI sumR
  rw [sum_filter]
  conv => lhs; arg 1; arg 2; rw [range_map nm ⟨#[]⟩]
  rw [List.map_map]
  refine sum_congr fun a ha => ?_
  have ha := List.mem_range.mp ha
  show (if (!decide (nm.getD a ⟨#[]⟩ = nm.getD i ⟨#[]⟩) && decide ((nm.getD a ⟨#[]⟩, wd.getD j ⟨#[]⟩) ∈ pl)) = true then thrA wd pl (nameAt nm wd (i, j)) (nm.getD a ⟨#[]⟩) else 0) = _
  rw [decide_congr (getD_inj (asc_nodup h.n) ha hi)]
  have e1 : decide ((nm.getD a ⟨#[]⟩, wd.getD j ⟨#[]⟩) ∈ pl) = fI nm wd pl a j := rfl
  rw [e1]
  by_cases c : (!decide (a = i) && fI nm wd pl a j) = true
  · rw [if_pos c]
    unfold thrA
    rw [len_filter]
    conv => lhs; arg 1; arg 2; rw [range_map wd ⟨#[]⟩]
    rw [List.map_map]
    refine sum_congr fun d hd => ?_
    have hd := List.mem_range.mp hd
    show (!decide (wd.getD d ⟨#[]⟩ = wd.getD j ⟨#[]⟩) && (fI nm wd pl i d && fI nm wd pl a d)).toNat = _
    rw [decide_congr (getD_inj (asc_nodup h.d) hd hj)]
    rw [Bool.and_eq_true] at c
    rw [c.1, c.2]
    cases decide (d = j) <;> rfl
  · rw [if_neg c]
    symm
    refine Eq.trans (sum_congr (g := fun _ => 0) fun d _ => ?_) (sumR_zero _)
    revert c
    cases decide (a = i) <;> cases fI nm wd pl a j <;> simp
theorem cell_I {i j : Nat} (hi : i < nm.length) (hj : j < wd.length) : cell (gridOf nm wd pl) i j = if nameAt nm wd (i, j) ∈ pl then 1 else 0 := by
  unfold cell gridOf nameAt
  rw [List.getD_eq_getElem?_getD (l := nm.map _), List.getElem?_map, List.getElem?_eq_getElem hi, Option.map_some, Option.getD_some, List.getD_eq_getElem?_getD, List.getElem?_map, List.getElem?_eq_getElem hj, Option.map_some, Option.getD_some, List.getD_eq_getElem?_getD, List.getElem?_eq_getElem hi, List.getD_eq_getElem?_getD, List.getElem?_eq_getElem hj]
  rfl
theorem cell_f {i j : Nat} (hi : i < nm.length) (hj : j < wd.length) : decide (cell (gridOf nm wd pl) i j = 1) = fI nm wd pl i j := by
  rw [cell_I hi hj]
  unfold fI
  by_cases c : nameAt nm wd (i, j) ∈ pl <;> simp [c]
theorem cell_0 {i j : Nat} (hi : i < nm.length) (hj : j < wd.length) : decide ((0 : Int) = cell (gridOf nm wd pl) i j) = !fI nm wd pl i j := by
  rw [cell_I hi hj]
  unfold fI
  by_cases c : nameAt nm wd (i, j) ∈ pl <;> simp [c]
theorem across_I {i j : Nat} (hi : i < nm.length) (hj : j < wd.length) : (acrossL (gridOf nm wd pl) nm.length wd.length i j).length = thrI nm.length wd.length (fI nm wd pl) i j := by
  unfold acrossL peopleL clubsL thrI sumR
  rw [List.length_flatMap, sum_filter]
  refine sum_congr fun a ha => ?_
  have ha := List.mem_range.mp ha
  rw [cell_f ha hj]
  by_cases c : (!decide (a = i) && fI nm wd pl a j) = true
  · rw [if_pos c, List.length_map, List.filter_filter, len_filter]
    refine sum_congr fun d hd => ?_
    have hd := List.mem_range.mp hd
    rw [cell_f hi hd, cell_f ha hd]
    rw [Bool.and_eq_true] at c
    rw [c.1, c.2]
    cases decide (d = j) <;> cases fI nm wd pl i d <;> cases fI nm wd pl a d <;> rfl
  · rw [if_neg c]
    symm
    refine Eq.trans (sum_congr (g := fun _ => 0) fun d _ => ?_) (sumR_zero _)
    revert c
    cases decide (a = i) <;> cases fI nm wd pl a j <;> simp
/-- the sum over the members -/
theorem sum_places (n m : Nat) (f : Nat → Nat → Bool) (g : Nat → Nat → Nat) : (((placesL n m).filter fun q => f q.1 q.2).map fun q => g q.1 q.2).sum = sumR n fun i => sumR m fun j => if f i j = true then g i j else 0 := by
  rw [sum_filter]
  unfold placesL sumR
  have : ∀ l : List Nat, (((l.flatMap fun i => (List.range m).map fun j => (i, j)).map fun q : Nat × Nat => if f q.1 q.2 = true then g q.1 q.2 else 0)).sum = (l.map fun i => ((List.range m).map fun j => if f i j = true then g i j else 0).sum).sum := by
    intro l
    induction l with
    | nil => rfl
    | cons i l ih => rw [List.flatMap_cons, List.map_append, List.sum_append, ih, List.map_cons, List.sum_cons, List.map_map] <;> rfl
  exact this _
theorem free_I (h : WO nm wd pl) : freeP nm wd pl = ((placesL nm.length wd.length).filter fun q => decide (thrI nm.length wd.length (fI nm wd pl) q.1 q.2 % 2 = 0)).map (nameAt nm wd) := by
  unfold freeP
  rw [prod_places, List.filter_map]
  refine congrArg _ (List.filter_congr fun q hq => ?_)
  have := mem_places.mp hq
  show decide (thr nm wd pl (nameAt nm wd (q.1, q.2)) % 2 = 0) = _
  rw [thr_I h this.1 this.2]
theorem let_I : letL (gridOf nm wd pl) nm.length wd.length = (placesL nm.length wd.length).filter fun q => decide (thrI nm.length wd.length (fI nm wd pl) q.1 q.2 % 2 = 0) := by
  unfold letL
  refine List.filter_congr fun q hq => ?_
  have := mem_places.mp hq
  rw [across_I this.1 this.2]
theorem sq_I (h : WO nm wd pl) : sqW nm wd pl = SI nm.length wd.length (fI nm wd pl) / 4 := by
  unfold sqW
  have e : (pl.map (thr nm wd pl)).sum = (((placesL nm.length wd.length).filter fun q => fI nm wd pl q.1 q.2).map fun q => thrI nm.length wd.length (fI nm wd pl) q.1 q.2).sum := by
    have e1 : pl.map (thr nm wd pl) = ((prod nm wd).filter fun q => decide (q ∈ pl)).map (thr nm wd pl) := by rw [norm h]
    rw [e1, prod_places, List.filter_map, List.map_map]
    refine sum_congr fun q hq => ?_
    have := mem_places.mp (List.mem_filter.mp hq).1
    exact thr_I h this.1 this.2
  rw [e, sum_places]
  rfl
theorem sqN_I : squaresN (gridOf nm wd pl) nm.length wd.length = SI nm.length wd.length (fI nm wd pl) := by
  unfold squaresN SI
  rw [← sum_places]
  have e1 : ((placesL nm.length wd.length).filter fun q => decide (cell (gridOf nm wd pl) q.1 q.2 = 1)) = (placesL nm.length wd.length).filter fun q => fI nm wd pl q.1 q.2 := List.filter_congr fun q hq => by
    have := mem_places.mp hq
    exact cell_f this.1 this.2
  rw [e1]
  refine sum_congr fun q hq => ?_
  have := mem_places.mp (List.mem_filter.mp hq).1
  exact across_I this.1 this.2
theorem shared_I (h : nm.length = 2 ∨ wd.length = 2) : sharedW nm wd pl = sharedI nm.length wd.length (fI nm wd pl) := by
  unfold sharedW sharedI
  by_cases c : nm.length = 2
  · rw [if_pos c, if_pos c, len_filter]
    conv => lhs; arg 1; arg 2; rw [range_map wd ⟨#[]⟩]
    rw [List.map_map]
    exact sum_congr fun d hd => rfl
  · rw [if_neg c, if_neg c, len_filter]
    conv => lhs; arg 1; arg 2; rw [range_map nm ⟨#[]⟩]
    rw [List.map_map]
    exact sum_congr fun d hd => rfl
theorem free_mem (h : WO nm wd pl) {q : Str × Str} (hq : q ∈ freeP nm wd pl) : ∃ i j, q = nameAt nm wd (i, j) ∧ i < nm.length ∧ j < wd.length ∧ thrI nm.length wd.length (fI nm wd pl) i j % 2 = 0 := by
  rw [free_I h] at hq
  obtain ⟨⟨i, j⟩, hij, rfl⟩ := List.mem_map.mp hq
  have h2 := List.mem_filter.mp hij
  have h3 := mem_places.mp h2.1
  exact ⟨i, j, rfl, h3.1, h3.2, of_decide_eq_true h2.2⟩
theorem mem_free (h : WO nm wd pl) {i j : Nat} (hi : i < nm.length) (hj : j < wd.length) (e : thrI nm.length wd.length (fI nm wd pl) i j % 2 = 0) : nameAt nm wd (i, j) ∈ freeP nm wd pl := by
  rw [free_I h]
  exact List.mem_map.mpr ⟨(i, j), List.mem_filter.mpr ⟨mem_places.mpr ⟨hi, hj⟩, decide_eq_true e⟩, rfl⟩
theorem shift_back (h : WO nm wd pl) {q : Str × Str} (hq : q ∈ freeP nm wd pl) : q ∈ freeP nm wd (shiftP pl q) ∧ shiftP (shiftP pl q) q = pl := by
  have hs := h.shift (free_prod hq)
  obtain ⟨i, j, rfl, hi, hj, ev⟩ := free_mem h hq
  refine ⟨mem_free hs hi hj (by rw [fI_shift h hi hj, thr_flp]; exact ev), ?_⟩
  refine fI_eq (hs.shift (h.name_in.mpr ⟨hi, hj⟩)) h fun a d _ _ => ?_
  rw [fI_shift hs hi hj, fI_shift h hi hj, flp_flp]
theorem Rch.trans {a b c : List (Str × Str)} (h1 : Rch nm wd a b) (h2 : Rch nm wd b c) : Rch nm wd a c := by
  induction h2 with
  | refl => exact h1
  | step _ hq ih => exact .step ih hq
theorem Rch.symm {pl' : List (Str × Str)} (h : WO nm wd pl) (r : Rch nm wd pl pl') : Rch nm wd pl' pl := by
  induction r with
  | refl => exact .refl
  | @step pl' q r hq ih =>
    obtain ⟨h1, h2⟩ := shift_back (r.wo h) hq
    have : Rch nm wd (shiftP pl' q) pl' := by
      have := Rch.step (pl := shiftP pl' q) .refl h1
      rwa [h2] at this
    exact this.trans ih
end
end K77
namespace K77
open PySem PySem.Spec PyProof.Rows C8 Ef
open L2 hiding E0 CX0 pass0 Fun
section
variable {P : Program} {w : World} {K : PySem.W.Frag} {mg : Str → Option Value} {base : Heap} {cT cC : Addr}
theorem sc_spot_of : FnScope ["table", "place"] ["table", "place"] (defScope s_spot_of) := ⟨rfl, rfl, rfl, by decide +kernel, rfl, by decide +kernel, by decide +kernel⟩
theorem sc_squares_through : FnScope ["table", "place", "i", "j"] ["table", "place"] (defScope s_squares_through) := ⟨rfl, rfl, rfl, by decide +kernel, rfl, by decide +kernel, by decide +kernel⟩
theorem sc_moved_table : FnScope ["table", "place", "rest", "other"] ["table", "place"] (defScope s_moved_table) := ⟨rfl, rfl, rfl, by decide +kernel, rfl, by decide +kernel, by decide +kernel⟩
theorem sc_moved : FnScope ["table", "place", "i", "j"] ["table", "place"] (defScope s_moved) := ⟨rfl, rfl, rfl, by decide +kernel, rfl, by decide +kernel, by decide +kernel⟩
/-- no tuple of two -/
def oddD : PyData → Bool
  | .tuple ds => !decide (ds.length = 2)
  | _ => true
/-- any object, asked whether it is a place -/
def spPlaceD (K : PySem.W.Frag) : Sp := fun vs H Q _ => ∃ (v0 v1 v : V) (nm wd : List Str), vs = [v0, v1, v] ∧ LS K [] H nm v0 ∧ LS K [] H wd v1 ∧
  ((∃ q : Str × Str, P2 K [] H q v ∧ WordOk q.1 ∧ WordOk q.2 ∧ ∀ H', Same H H' → Q (.bl (decide (q.1 ∈ nm ∧ q.2 ∈ wd))) H') ∨ (∃ d, Rp K [] H d v ∧ oddD d = true ∧ Q (.bl false) H))
theorem ok_place_of_any (M : Fx K mg cT cC) (F : Fn K mg "is_place_of" s_is_place_of) (c_is_spelt : Cal P w K mg base 1 "is_spelt" spSpelt []) : Cal P w K mg base 2 "is_place_of" (spPlaceD K) [] := by
  refine F.cal sc_is_place_of (fun _ _ F => FunD.bindsN F fun _ _ _ _ _ _ us hl => match us, hl with | [_, _, _], _ => rfl) (fun vs H Q E h => by obtain ⟨_, _, _, _, _, rfl, _⟩ := h; rfl) (fun f cdv A outer st H vs Q E hr h => ⟨_, PSs.nox ((pss_cons (ps_if (PW.pt (pw_or (pt_not (pt_val (pe_callB (isiQ (K := K) rfl) (by rfl) M.isinstance (by decide +kernel) (pa_cons (pv 2) (pa_cons (pe_bltn (v := .ty "tuple") (by rfl) M.tuple (by decide +kernel) rfl) pa_nil))))) (pw_or (pt_cmpR op_ne (pe_callB (lenQ (K := K) rfl) (by rfl) M.len boot_len (pa_cons (pv 2) pa_nil)) pe_int (nomark _)) (pw_or1 (pt_not (pt_val (pe_callB (allQ (K := K) rfl rfl) (by rfl) M.all (by decide +kernel) (pa_cons (pe_lc rfl sc_is_place_of.nd (pi_tupQ (K := K) rfl (pv 2)) (blkOk_by (N := ["people", "clubs", "value", "part"]) (sc := defScope s_is_place_of) (own := [("part", 3)]) (by decide +kernel)) (fun _ _ _ _ _ => (pg_name (i := 3) sc_is_place_of.nd rfl (Or.inl rfl))) (fun _ _ _ _ _ => pts_nil) (fun _ _ _ _ _ => (pe_c c_is_spelt hr (by first | decide | omega) (by rfl) (pa_cons (pv 3) pa_nil)))) pa_nil)))))))) (pss_one (ps_ret pe_bl)) pss_nil)
  (pss_one (ps_ret (pe_and (pe_cmpR (inQ (K := K) rfl) (pe_ix (ixT (K := K) rfl) (pv 2) pe_int (fun _ _ => rfl)) (pv 0) rfl) (pe_one (pe_cmpR (inQ (K := K) rfl) (pe_ix (ixT (K := K) rfl) (pv 2) pe_int (fun _ _ => rfl)) (pv 1) rfl))))))), ?_⟩)
  obtain ⟨v0, v1, v, nm, wd, rfl, ⟨n0, rfl, hn⟩, ⟨w0, rfl, hw⟩, h⟩ := h
  rcases h with ⟨q, ⟨t, rfl, ht⟩, o1, o2, k⟩ | ⟨d, hd, od, k⟩
  · refine ⟨_, rfl, _, _, _, _, _, rfl, .ty _, rt_ty ht.rt, kit_tup (.tuple []), _, rfl, ifN rfl ?_⟩
    refine ⟨_, rfl, _, _, rfl, .inr ht.sq, rfl, _, rfl, ifN (by show (!decide (V.int 2 = V.int 2)) = false; rw [decide_eq_true rfl]; rfl) ?_⟩
    refine ⟨_, rfl, t, rfl, ⟨_, ht.sq⟩, fun D hD => ?_⟩
    refine lcG (S := []) (n := 2) hD (fun i acc _ => acc = (List.replicate i true).map V.bl) rfl (fun i G hi sb => ⟨[.str q.1, .str q.2], _, (ht.sb sb).sq, List.getElem?_eq_getElem (by simpa using hi)⟩) (fun G sb => ⟨_, (ht.sb sb).sq, Nat.le_refl _⟩) (fun i acc G x G' hi sb e hl2 hA hyl => ?_) (fun G acc sb e hl2 hA => ?_)
    · obtain ⟨rfl, hy⟩ := hyl
      have hx := hy _ (ht.sb sb).sq
      have : ∃ y, x = .str y ∧ WordOk y := by
        rcases (by omega : i = 0 ∨ i = 1) with z | z <;> subst z <;> simp at hx <;> subst hx
        · exact ⟨_, rfl, o1⟩
        · exact ⟨_, rfl, o2⟩
      obtain ⟨y, rfl, oy⟩ := this
      refine ⟨rfl, V.str y, rfl, y, rfl, oy, Pc.put (n := 2) hD hi (by decide) hl2 sb e ?_⟩
      rw [hA, List.replicate_succ', List.map_append] <;> rfl
    · refine ⟨_, List.replicate 2 true, rfl, SqL.of (by rw [e, hA]), _, rfl, ifN rfl ?_⟩
      refine ⟨_, rfl, t, _, 0, _, rfl, rfl, (ht.sb sb).sq, atI_nat (j := 0) rfl, _, rfl, _, _, rfl, .inl (hn.sb sb).sq, rfl, flat_strs _, ?_⟩
      rw [inV_strs]
      have k1 := k G (SB.nil sb)
      refine ⟨_, rfl, ifB (fun m1 => ?_) (fun m1 => ?_)⟩
      · have m1 : q.1 ∈ nm := of_decide_eq_true m1
        refine ⟨_, rfl, t, _, 1, _, rfl, rfl, (ht.sb sb).sq, atI_nat (j := 1) rfl, _, rfl, _, _, rfl, .inl (hw.sb sb).sq, rfl, flat_strs _, ?_⟩
        rw [inV_strs]
        have e2 : decide (q.1 ∈ nm ∧ q.2 ∈ wd) = decide (q.2 ∈ wd) := by simp [m1]
        rw [e2] at k1
        exact k1
      · have m1 : decide (q.1 ∈ nm) = false := m1
        have e2 : decide (q.1 ∈ nm ∧ q.2 ∈ wd) = decide (q.1 ∈ nm) := by
          have := of_decide_eq_false m1
          simp [this]
        rw [e2, m1] at k1
        exact k1
  · refine ⟨_, rfl, _, _, _, _, _, rfl, .ty _, rp_ty hd, kit_tup d, _, rfl, ifB (fun h1 => k) (fun h1 => ?_)⟩
    have h1 : isTup d = true := by simpa using h1
    obtain ⟨ds, rfl⟩ : ∃ ds, d = .tuple ds := by cases d <;> first | exact ⟨_, rfl⟩ | cases h1
    obtain ⟨a, xs, rfl, ha, hxs⟩ := hd
    have lx := hxs.len
    have hne : ¬ ds.length = 2 := by simpa [oddD] using od
    refine ⟨_, rfl, _, _, rfl, .inr ha.sq, rfl, _, rfl, ifT ?_ k⟩
    show (!decide (V.int (xs.length : Int) = V.int 2)) = true
    rw [decide_eq_false (fun z => by injection z with z; omega)]
    rfl
/-- row and column -/
def spSpot (K : PySem.W.Frag) (cT : Addr) : Sp := fun vs H Q _ => ∃ (v pv : V) (nm wd : List Str) (pl : List (Str × Str)) (q : Str × Str) (i j : Nat), vs = [v, pv] ∧ TableAt K cT [] H nm wd pl v ∧ P2 K [] H q pv ∧ nm[i]? = some q.1 ∧ wd[j]? = some q.2 ∧ nm.Nodup ∧ wd.Nodup ∧ WordOk q.1 ∧ WordOk q.2 ∧
  ∀ t H', Same H H' → H t = none → H' t = some (.tup [.int (i : Int), .int (j : Int)]) → Q (.ref t) H'
theorem idx_first {ws : List Str} {i m : Nat} {x : Str} {z : V} (h : ws[i]? = some x) (nd : ws.Nodup) (hm : m < i) (hz : (ws.map V.str)[m]? = some z) : eqV z (.str x) = false := by
  rw [List.getElem?_map] at hz
  obtain ⟨y, hy, rfl⟩ := Option.map_eq_some_iff.mp hz
  have ne : y ≠ x := fun e => by
    subst e
    obtain ⟨l1, e1⟩ := List.getElem?_eq_some_iff.mp h
    obtain ⟨l2, e2⟩ := List.getElem?_eq_some_iff.mp hy
    exact absurd ((List.getElem_inj nd).mp (e2.trans e1.symm)) (by omega)
  simp [eqV, ne]
theorem ok_spot_of (M : Fx K mg cT cC) (F : Fn K mg "spot_of" s_spot_of) (c_check_table : Cal P w K mg base 1 "check_table" (spCheckT K cT) []) (c_is_place_of : Cal P w K mg base 2 "is_place_of" (spPlaceD K) []) : Cal P w K mg base 3 "spot_of" (spSpot K cT) [] := by
  refine F.cal sc_spot_of (fun _ _ F => FunD.bindsN F fun _ _ _ _ _ _ us hl => match us, hl with | [_, _], _ => rfl) (fun vs H Q E h => by obtain ⟨_, _, _, _, _, _, _, _, rfl, _⟩ := h; rfl) (fun f cdv A outer st H vs Q E hr h => ⟨_, PSs.nox ((pss_cons (ps_expr (pe_c c_check_table hr (by first | decide | omega) (by rfl) (pa_cons (pv 0) pa_nil)))
  (pss_cons (ps_if (pt_not (pt_val (pe_c c_is_place_of hr (by first | decide | omega) (by rfl) (pa_cons (pe_fldQ (K := K) rfl (pv 0) (by rfl)) (pa_cons (pe_fldQ (K := K) rfl (pv 0) (by rfl)) (pa_cons (pv 1) pa_nil)))))) (pss_one (ps_never)) pss_nil)
  (pss_one (ps_ret (pe_tup (pa_cons (pe_bm PySem.F.plainAttrs_list PySem.F.slot_list_index PySem.F.type_list_index mt_index (pe_fldQ (K := K) rfl (pv 0) (by rfl)) (pa_cons (pe_ix (ixT (K := K) rfl) (pv 1) pe_int (fun _ _ => rfl)) pa_nil)) (pa_cons (pe_bm PySem.F.plainAttrs_list PySem.F.slot_list_index PySem.F.type_list_index mt_index (pe_fldQ (K := K) rfl (pv 0) (by rfl)) (pa_cons (pe_ix (ixT (K := K) rfl) (pv 1) pe_int (fun _ _ => rfl)) pa_nil)) pa_nil)))))))), ?_⟩)
  obtain ⟨v, pv, nm, wd, pl, q, i, j, rfl, ht, hp, hi, hj, n1, n2, o1, o2, k⟩ := h
  obtain ⟨x, dx, f1, f2, f3, g, rfl, _, ex, ⟨a1, rfl, h1⟩, ⟨a2, rfl, h2⟩, _, _⟩ := id ht
  obtain ⟨t, rfl, hq⟩ := id hp
  refine ⟨_, rfl, [], _, nm, wd, pl, rfl, ht, ?_⟩
  refine ⟨_, rfl, x, cT, dx, _, _, rfl, ex, M.clT, M.noT _ (by simp), rfl, _, rfl, x, cT, dx, _, _, rfl, ex, M.clT, M.noT _ (by simp), rfl, _, rfl, _, _, _, nm, wd, rfl, ⟨a1, rfl, h1⟩, ⟨a2, rfl, h2⟩, .inl ⟨q, hp, o1, o2, fun H1 s1 => ?_⟩⟩
  have u1 : SB [] H H1 := SB.of s1
  have e : decide (q.1 ∈ nm ∧ q.2 ∈ wd) = true := decide_eq_true ⟨List.mem_of_getElem? hi, List.mem_of_getElem? hj⟩
  rw [e]
  refine ⟨_, rfl, ifN rfl ?_⟩
  have ex1 := u1 _ _ (by simp) ex
  have f1 : ∀ ws : List Str, (ws.map V.str).all flatV = true := fun ws => flat_strs ws
  refine ⟨_, rfl, x, cT, dx, _, _, rfl, ex1, M.clT, M.noT _ (by simp), rfl, .inl ⟨rfl, _, (h1.sb u1).sq⟩, _, rfl, t, _, 0, _, rfl, rfl, (hq.sb u1).sq, atI_nat (j := 0) rfl, a1, _, _, i, .str q.1, rfl, rfl, (h1.sb u1).sq, rfl, f1 _, by rw [List.getElem?_map, hi] <;> rfl, by simp [eqV], fun m z hm hz => idx_first hi n1 hm hz, ?_⟩
  refine ⟨_, rfl, x, cT, dx, _, _, rfl, ex1, M.clT, M.noT _ (by simp), rfl, .inl ⟨rfl, _, (h2.sb u1).sq⟩, _, rfl, t, _, 1, _, rfl, rfl, (hq.sb u1).sq, atI_nat (j := 1) rfl, a2, _, _, j, .str q.2, rfl, rfl, (h2.sb u1).sq, rfl, f1 _, by rw [List.getElem?_map, hj] <;> rfl, by simp [eqV], fun m z hm hz => idx_first hj n2 hm hz, ?_⟩
  refine ⟨(by decide : (2 : Nat) ≤ sizeLine), fun p hp1 => ?_⟩
  exact k p _ (SB.nil (u1.new hp1)) (SB.free u1 hp1 (by simp)) upd_same
end
end K77
namespace K77
open PySem PySem.Spec PyProof.Rows C8 Ef
open L2 hiding E0 CX0 pass0 Fun
section
variable {P : Program} {w : World} {K : PySem.W.Frag} {mg : Str → Option Value} {base : Heap} {cT cC : Addr}
/-- the place q stands in row i, column j -/
structure At (nm wd : List Str) (q : Str × Str) (i j : Nat) : Prop where
  n : nm[i]? = some q.1
  d : wd[j]? = some q.2
theorem At.lt {nm wd : List Str} {q : Str × Str} {i j : Nat} (h : At nm wd q i j) : i < nm.length ∧ j < wd.length := ⟨(List.getElem?_eq_some_iff.mp h.n).1, (List.getElem?_eq_some_iff.mp h.d).1⟩
theorem At.mem {nm wd : List Str} {q : Str × Str} {i j : Nat} (h : At nm wd q i j) : q ∈ prod nm wd := mem_prod.mpr ⟨List.mem_of_getElem? h.n, List.mem_of_getElem? h.d⟩
theorem at_of {nm wd : List Str} {q : Str × Str} (h : q ∈ prod nm wd) : ∃ i j, At nm wd q i j := by
  obtain ⟨h1, h2⟩ := mem_prod.mp h
  obtain ⟨i, hi⟩ := List.getElem?_of_mem h1
  obtain ⟨j, hj⟩ := List.getElem?_of_mem h2
  exact ⟨i, j, hi, hj⟩
/-- squares through a place, by rows and columns -/
def acr (nm wd : List Str) (pl : List (Str × Str)) (i j : Nat) : Nat := (acrossL (gridOf nm wd pl) nm.length wd.length i j).length
def spThroughT (K : PySem.W.Frag) (cT : Addr) : Sp := fun vs H Q _ => ∃ (v pv : V) (nm wd : List Str) (pl : List (Str × Str)) (q : Str × Str) (i j : Nat), vs = [v, pv] ∧ TableAt K cT [] H nm wd pl v ∧ WO nm wd pl ∧ P2 K [] H q pv ∧ At nm wd q i j ∧ ∀ H', Same H H' → Q (.int (acr nm wd pl i j : Int)) H'
theorem ok_squares_through (M : Fx K mg cT cC) (F : Fn K mg "squares_through" s_squares_through) (c_spot_of : Cal P w K mg base 3 "spot_of" (spSpot K cT) []) (c_across : Cal P w K mg base 1 "across" (spAcross K) []) : Cal P w K mg base 4 "squares_through" (spThroughT K cT) [] := by
  refine F.cal sc_squares_through (fun _ _ F => FunD.bindsN F fun _ _ _ _ _ _ us hl => match us, hl with | [_, _], _ => rfl) (fun vs H Q E h => by obtain ⟨_, _, _, _, _, _, _, _, rfl, _⟩ := h; rfl) (fun f cdv A outer st H vs Q E hr h => ⟨_, PSs.nox ((pss_cons (ps_asg (pe_c c_spot_of hr (by first | decide | omega) (by rfl) (pa_cons (pv 0) (pa_cons (pv 1) pa_nil))) (pg_tupQ (K := K) (n := 2) rfl rfl (pgs_cons (pg_name (i := 2) sc_squares_through.nd rfl (Or.inl rfl)) (pgs_cons (pg_name (i := 3) sc_squares_through.nd rfl (Or.inl rfl)) pgs_nil))))
  (pss_one (ps_ret (pe_callB (lenQ (K := K) rfl) (by rfl) M.len boot_len (pa_cons (pe_c c_across hr (by first | decide | omega) (by rfl) (pa_cons (pe_fldQ (K := K) rfl (pv 0) (by rfl)) (pa_cons (pv 2) (pa_cons (pv 3) pa_nil)))) pa_nil)))))), ?_⟩)
  obtain ⟨v, pv, nm, wd, pl, q, i, j, rfl, ht, wo, hp, hat, k⟩ := h
  obtain ⟨x, dx, f1, f2, f3, g, rfl, _, ex, _, _, _, hg⟩ := id ht
  have mq := mem_prod.mp hat.mem
  refine ⟨_, rfl, _, rfl, _, _, nm, wd, pl, q, i, j, rfl, ht, hp, hat.n, hat.d, asc_nodup wo.n, asc_nodup wo.d, wo.nk _ mq.1, wo.dk _ mq.2, fun t H1 s1 nt et => ?_⟩
  have u1 : SB [] H H1 := SB.of s1
  refine ⟨t, _, rfl, SqT.of et, rfl, _, _, rfl, _, _, rfl, rfl, ?_⟩
  refine ⟨_, rfl, x, cT, dx, _, _, rfl, u1 _ _ (by simp) ex, M.clT, M.noT _ (by simp), rfl, _, rfl, _, rfl, _, _, _, _, i, j, rfl, hg.sb u1, grid_of (fun z => by have := wo.n1; rw [z] at this; simp at this) (by have := wo.n2; omega) (by have := wo.d2; omega), hat.lt.1, hat.lt.2, fun l xs H2 s2 nl el hxs => ?_⟩
  refine ⟨_, _, rfl, .inl (SqL.of el), ?_⟩
  rw [hxs.len]
  exact k H2 (fun b o hb => s2 b o (s1 b o hb))
/-- a table with a place more or less -/
def spMovedT (K : PySem.W.Frag) (cT : Addr) : Sp := fun vs H Q _ => ∃ (v pv : V) (nm wd : List Str) (pl : List (Str × Str)) (q : Str × Str), vs = [v, pv] ∧ TableAt K cT [] H nm wd pl v ∧ WO nm wd pl ∧ P2 K [] H q pv ∧ q ∈ prod nm wd ∧
  ∀ x H', Same H H' → H x = none → TableAt K cT [] H' nm wd (shiftP pl q) (.ref x) → Q (.ref x) H'
theorem ok_moved_table (M : Fx K mg cT cC) (F : Fn K mg "moved_table" s_moved_table) (c_Table : Mak P w K mg base 4 "Table" cT (spInit K cT) []) : Cal P w K mg base 6 "moved_table" (spMovedT K cT) [] := by
  refine F.cal sc_moved_table (fun _ _ F => FunD.bindsN F fun _ _ _ _ _ _ us hl => match us, hl with | [_, _], _ => rfl) (fun vs H Q E h => by obtain ⟨_, _, _, _, _, _, rfl, _⟩ := h; rfl) (fun f cdv A outer st H vs Q E hr h => ⟨_, PSs.nox ((pss_cons (ps_setLc (i := 2) rfl sc_moved_table.nd rfl rfl (sw_true rfl rfl rfl (by decide +kernel)) (pi_listQ (K := K) rfl (pe_fldQ (K := K) rfl (pv 0) (by rfl))) (blkOk_by (N := ["table", "place", "rest", "other"]) (sc := defScope s_moved_table) (own := [("other", 3)]) (by decide +kernel)) (fun _ _ _ _ _ => (pg_name (i := 3) sc_moved_table.nd rfl (Or.inl rfl))) (fun _ _ _ _ _ => (pts_one (pt_cmpR (neDQ (K := K) rfl hr.units) (pv 3) (pv 1) (nomark _)))) (fun _ _ _ _ _ => (pv 3)))
  (pss_one (ps_ret (pe_mk c_Table hr (by decide) (by rfl) (pa_cons (pe_fldQ (K := K) rfl (pv 0) (by rfl)) (pa_cons (pe_fldQ (K := K) rfl (pv 0) (by rfl)) (pa_cons (pe_ifExp (pt_cmpR (inDQ (K := K) rfl (room65 hr)) (pv 1) (pe_fldQ (K := K) rfl (pv 0) (by rfl)) rfl) (pv 2) (pe_lst (StX.pa_star (pv 2) (pa_cons (pv 1) pa_nil)))) pa_nil)))))))), ?_⟩)
  obtain ⟨v, pv, nm, wd, pl, q0, rfl, ht, wo, hq, mq, k⟩ := h
  obtain ⟨x, dx, f1, f2, f3, g, rfl, _, ex, ⟨a1, rfl, h1⟩, ⟨a2, rfl, h2⟩, ⟨a3, xs, rfl, h3, hx⟩, hg⟩ := id ht
  have lx : xs.length = pl.length := hx.len
  have l25 := wo.l25
  have pok := wo.tw.2.2
  have qok := wo.pok mq
  refine ⟨_, rfl, x, cT, dx, _, _, rfl, ex, M.clT, M.noT _ (by simp), rfl, a3, rfl, ⟨_, h3.sq⟩, fun D hD => ?_⟩
  refine lcR (S := []) h3 hD (fun i acc G => P2s K [] G ((pl.take i).filter fun x => !decide (x = q0)) acc) .nil (fun i z acc G hxi sb e hl' hA => ?_) (fun G acc sb e hl' hA => ?_)
  · obtain ⟨y, hy, py⟩ := Paired.at1 hx hxi
    have y1 : pl.take (i + 1) = pl.take i ++ [y] := by rw [List.take_add_one, hy] <;> rfl
    refine ⟨wipe1, z, rfl, pv, rfl, dP1 y, dP1 q0, p2_dp (py.sb sb), p2_dp (hq.sb sb), shaped_p (pok y (List.mem_of_getElem? hy)), shaped_p qok, _, rfl, ?_⟩
    rw [eqv_p]
    refine ifB (fun hb => ?_) (fun hb => ?_)
    · refine ⟨z, rfl, Pc.put (n := 25) hD (by have := (List.getElem?_eq_some_iff.mp hy).1; omega) (by decide) hl' sb e ?_⟩
      rw [y1, List.filter_append, List.filter_cons, if_pos hb]
      exact p2s_put (Paired.app hA (.cons (py.sb sb) .nil)) e
    · refine Pc.skip hl' sb e ?_
      rw [y1, List.filter_append, List.filter_cons, if_neg (by rw [hb]; decide)]
      simpa using hA
  · rw [lx, List.take_length] at hA
    have s := sb
    refine ⟨_, rfl, x, cT, dx, _, _, rfl, s _ _ (by simp) ex, M.clT, M.noT _ (by simp), rfl, _, rfl, x, cT, dx, _, _, rfl, s _ _ (by simp) ex, M.clT, M.noT _ (by simp), rfl, ?_⟩
    refine ⟨_, rfl, _, rfl, x, cT, dx, _, _, rfl, s _ _ (by simp) ex, M.clT, M.noT _ (by simp), rfl, dP1 q0, pl.map dP1, p2_dp (hq.sb s), lp_dp (h3.sb s) (hx.sb s), shaped_p qok, shaped_ps pok, _, rfl, ?_⟩
    rw [any_eqv_p]
    have fin : ∀ (l2 : Addr) (ys : List V) (G2 : Hp) (pl0 : List (Str × Str)), SB [] H G2 → RL K [] G2 l2 ys → P2s K [] G2 pl0 ys → pl0.Perm (shiftP pl q0) → ∀ x dx, G2 x = none → G2 dx = none → dx ≠ x →
        spInit K cT (.ref x :: ([.ref a1, .ref a2, .ref l2] ++ [])) (upd (upd G2 dx (.own x)) x (.ins cT dx [])) (fun v H2 => v = .non ∧ Q (.ref x) H2) E0 := fun l2 ys G2 pl0 s2 r2 p2 pm =>
      make_table Dom.nil (h1.sb s2) (h2.sb s2) r2 p2 ((wo.shift mq).tok (List.Perm.refl _) (List.Perm.refl _) pm) fun y H' s3 ny ty => k y H' (fun b o hb => s3 b o (s2 b o (by simp) hb)) (SB.free s2 ny (by simp)) ty
    refine ifB (fun hb => ?_) (fun hb => ?_)
    · have hb : q0 ∈ pl := of_decide_eq_true hb
      refine ⟨_, rfl, fin D acc G _ s (RL.at e (by simp)) hA (by rw [shift_in hb])⟩
    · have hb : q0 ∉ pl := of_decide_eq_false hb
      have lf := List.length_filter_le (fun x => !decide (x = q0)) pl
      have la := hA.len
      refine ⟨_, rfl, D, acc, rfl, .inr (SqL.of e), _, rfl, by have := sizeLine_eq; simp; omega, fun p hp => ?_⟩
      have s2 := (SB.same (S := [])).new (o := .lst (acc ++ [pv])) hp
      have e1 : (pl.filter fun x => !decide (x = q0)) = pl := List.filter_eq_self.mpr fun x hx => by
        have : x ≠ q0 := fun z => hb (z ▸ hx)
        simp [this]
      rw [e1] at hA
      refine fin p (acc ++ [pv]) _ (pl ++ [q0]) (s.trans s2) (RL.at upd_same (by simp)) (P2s.sb (Paired.app hA (.cons (hq.sb s) .nil)) s2) ?_
      rw [shift_out hb]
      exact (List.mergeSort_perm _ _).symm
end
end K77
namespace K77
open PySem PySem.Spec PyProof.Rows C8 Ef
open L2 hiding E0 CX0 pass0 Fun
section
variable {P : Program} {w : World} {K : PySem.W.Frag} {mg : Str → Option Value} {base : Heap} {cT cC : Addr}
theorem sc_behind_places : FnScope ["table", "value", "place", "i", "j"] ["table", "value"] (defScope s_behind_places) := ⟨rfl, rfl, rfl, by decide +kernel, rfl, by decide +kernel, by decide +kernel⟩
section
variable {nm wd : List Str} {pl : List (Str × Str)} {q : Str × Str} {i j : Nat}
theorem At.name (h : At nm wd q i j) : nameAt nm wd (i, j) = q := by
  unfold nameAt
  rw [List.getD_eq_getElem?_getD, List.getD_eq_getElem?_getD, h.n, h.d] <;> rfl
theorem acr_thr (wo : WO nm wd pl) (h : At nm wd q i j) : acr nm wd pl i j = thr nm wd pl q := by
  unfold acr
  rw [across_I h.lt.1 h.lt.2, ← thr_I wo h.lt.1 h.lt.2, h.name]
theorem free_iff : q ∈ freeP nm wd pl ↔ q ∈ prod nm wd ∧ thr nm wd pl q % 2 = 0 := by
  unfold freeP
  rw [List.mem_filter, decide_eq_true_eq]
end
theorem grid_wo {nm wd : List Str} {pl pl' : List (Str × Str)} (wo : WO nm wd pl) : Grid (gridOf nm wd pl') nm.length wd.length :=
  grid_of (fun z => by have := wo.n1; rw [z] at this; simp at this) (by have := wo.n2; omega) (by have := wo.d2; omega)
/-- a let place is changed -/
def spMovedF (K : PySem.W.Frag) (cT : Addr) : Sp := fun vs H Q _ => ∃ (v pv : V) (nm wd : List Str) (pl : List (Str × Str)) (q : Str × Str), vs = [v, pv] ∧ TableAt K cT [] H nm wd pl v ∧ WO nm wd pl ∧ P2 K [] H q pv ∧ q ∈ freeP nm wd pl ∧
  ∀ x H', Same H H' → H x = none → TableAt K cT [] H' nm wd (shiftP pl q) (.ref x) → Q (.ref x) H'
theorem ok_moved (M : Fx K mg cT cC) (F : Fn K mg "moved" s_moved) (c_spot_of : Cal P w K mg base 3 "spot_of" (spSpot K cT) []) (c_is_let_place : Cal P w K mg base 2 "is_let_place" (spLet K) []) (c_moved_table : Cal P w K mg base 6 "moved_table" (spMovedT K cT) []) : Cal P w K mg base 7 "moved" (spMovedF K cT) [] := by
  refine F.cal sc_moved (fun _ _ F => FunD.bindsN F fun _ _ _ _ _ _ us hl => match us, hl with | [_, _], _ => rfl) (fun vs H Q E h => by obtain ⟨_, _, _, _, _, _, rfl, _⟩ := h; rfl) (fun f cdv A outer st H vs Q E hr h => ⟨_, PSs.nox ((pss_cons (ps_asg (pe_c c_spot_of hr (by first | decide | omega) (by rfl) (pa_cons (pv 0) (pa_cons (pv 1) pa_nil))) (pg_tupQ (K := K) (n := 2) rfl rfl (pgs_cons (pg_name (i := 2) sc_moved.nd rfl (Or.inl rfl)) (pgs_cons (pg_name (i := 3) sc_moved.nd rfl (Or.inl rfl)) pgs_nil))))
  (pss_cons (ps_if (pt_not (pt_val (pe_c c_is_let_place hr (by first | decide | omega) (by rfl) (pa_cons (pe_fldQ (K := K) rfl (pv 0) (by rfl)) (pa_cons (pv 2) (pa_cons (pv 3) pa_nil)))))) (pss_one (ps_never)) pss_nil)
  (pss_one (ps_ret (pe_c c_moved_table hr (by first | decide | omega) (by rfl) (pa_cons (pv 0) (pa_cons (pv 1) pa_nil)))))))), ?_⟩)
  obtain ⟨v, pv, nm, wd, pl, q, rfl, ht, wo, hp, fq, k⟩ := h
  obtain ⟨x, dx, f1, f2, f3, g, rfl, _, ex, _, _, _, hg⟩ := id ht
  obtain ⟨mq, ev⟩ := free_iff.mp fq
  obtain ⟨i, j, hat⟩ := at_of mq
  have m2 := mem_prod.mp mq
  refine ⟨_, rfl, _, rfl, _, _, nm, wd, pl, q, i, j, rfl, ht, hp, hat.n, hat.d, asc_nodup wo.n, asc_nodup wo.d, wo.nk _ m2.1, wo.dk _ m2.2, fun t H1 s1 nt et => ?_⟩
  have u1 : SB [] H H1 := SB.of s1
  refine ⟨t, _, rfl, SqT.of et, rfl, _, _, rfl, _, _, rfl, rfl, ?_⟩
  refine ⟨_, rfl, x, cT, dx, _, _, rfl, u1 _ _ (by simp) ex, M.clT, M.noT _ (by simp), rfl, _, rfl, _, rfl, _, _, _, _, i, j, rfl, hg.sb u1, grid_wo wo, hat.lt.1, hat.lt.2, fun H2 s2 => ?_⟩
  have u2 := u1.trans (SB.of s2)
  have e : decide ((acrossL (gridOf nm wd pl) nm.length wd.length i j).length % 2 = 0) = true := decide_eq_true (by have := acr_thr wo hat; unfold acr at this; rw [this]; exact ev)
  rw [e]
  refine ⟨_, rfl, ifN rfl ?_⟩
  exact ⟨_, rfl, _, rfl, _, _, nm, wd, pl, q, rfl, ht.sb u2, wo, hp.sb u2, mq, fun y H3 s3 ny ty => k y H3 (fun b o hb => s3 b o (u2 b o (by simp) hb)) (SB.free u2 ny (by simp)) ty⟩
/-- what stands in a list that may be a road -/
abbrev It : Type := (Str × Str) ⊕ PyData
def itD : It → PyData
  | .inl q => dP1 q
  | .inr d => d
def ItAt (K : PySem.W.Frag) (H : Hp) : It → V → Prop
  | .inl q, v => P2 K [] H q v ∧ WordOk q.1 ∧ WordOk q.2
  | .inr d, v => Rp K [] H d v ∧ oddD d = true ∧ (isTup d = true → SeqAt.shaped d = true ∧ plainD d = true)
/-- an object that may be a road -/
inductive Vd
  | its (l : List It)
  | oth (d : PyData)
def vdD : Vd → PyData
  | .its l => .list (l.map itD)
  | .oth d => d
def VAt (K : PySem.W.Frag) (H : Hp) : Vd → V → Prop
  | .its l, v => ∃ a xs, v = .ref a ∧ H a = some (.lst xs) ∧ Paired (ItAt K H) l xs
  | .oth d, v => Rp K [] H d v ∧ isList d = false
section
variable {H H' : Hp}
theorem ItAt.sb {it : It} {v : V} (h : ItAt K H it v) (s : SB [] H H') : ItAt K H' it v := by
  cases it with
  | inl q => exact ⟨h.1.sb s, h.2⟩
  | inr d => exact ⟨h.1.sb s, h.2⟩
theorem VAt.sb {u : Vd} {v : V} (h : VAt K H u v) (s : SB [] H H') : VAt K H' u v := by
  cases u with
  | its l =>
    obtain ⟨a, xs, e, ea, hx⟩ := h
    exact ⟨a, xs, e, s _ _ (by simp) ea, Paired.mapP hx fun _ _ z => z.sb s⟩
  | oth d => exact ⟨h.1.sb s, h.2⟩
theorem ItAt.rp {it : It} {v : V} (h : ItAt K H it v) : Rp K [] H (itD it) v := by
  cases it with
  | inl q => exact p2_rp h.1
  | inr d => exact h.1
theorem its_rpl : ∀ {l : List It} {xs : List V}, Paired (ItAt K H) l xs → RpL K [] H (l.map itD) xs
  | _, _, .nil => rfl
  | _, _, .cons h r => ⟨_, _, rfl, h.rp, its_rpl r⟩
theorem VAt.rp {u : Vd} {v : V} (h : VAt K H u v) : Rp K [] H (vdD u) v := by
  cases u with
  | its l =>
    obtain ⟨a, xs, e, ea, hx⟩ := h
    exact ⟨a, xs, e, RL.at ea (by simp), its_rpl hx⟩
  | oth d => exact h.1
end
/-- where such a list leads -/
def behW (nm wd : List Str) : List (Str × Str) → List It → Option (List (Str × Str))
  | pl, [] => some pl
  | pl, .inl q :: l => if q ∈ freeP nm wd pl then behW nm wd (shiftP pl q) l else none
  | _, .inr _ :: _ => none
def behV (nm wd : List Str) (pl : List (Str × Str)) : Vd → Option (List (Str × Str))
  | .its l => behW nm wd pl l
  | .oth _ => none
def spBehind (K : PySem.W.Frag) (cT : Addr) : Sp := fun vs H Q _ => ∃ (v u : V) (nm wd : List Str) (pl : List (Str × Str)) (d : Vd), vs = [v, u] ∧ TableAt K cT [] H nm wd pl v ∧ WO nm wd pl ∧ VAt K H d u ∧
  (behV nm wd pl d = none → ∀ H', Same H H' → Q .non H') ∧ (∀ pl', behV nm wd pl d = some pl' → ∀ x H', Same H H' → TableAt K cT [] H' nm wd pl' x → WO nm wd pl' → Q x H')
theorem ok_behind (M : Fx K mg cT cC) (F : Fn K mg "behind_places" s_behind_places) (c_is_place_of : Cal P w K mg base 2 "is_place_of" (spPlaceD K) []) (c_spot_of : Cal P w K mg base 3 "spot_of" (spSpot K cT) []) (c_is_let_place : Cal P w K mg base 2 "is_let_place" (spLet K) [])
    (c_moved_table : Cal P w K mg base 6 "moved_table" (spMovedT K cT) []) : Cal P w K mg base 7 "behind_places" (spBehind K cT) [] := by
  refine F.cal sc_behind_places (fun _ _ F => FunD.bindsN F fun _ _ _ _ _ _ us hl => match us, hl with | [_, _], _ => rfl) (fun vs H Q E h => by obtain ⟨_, _, _, _, _, _, rfl, _⟩ := h; rfl) (fun f cdv A outer st H vs Q E hr h => ⟨_, PSs.nox ((pss_cons (ps_if (pt_not (pt_val (pe_callB (isiQ (K := K) rfl) (by rfl) M.isinstance (by decide +kernel) (pa_cons (pv 1) (pa_cons (pe_bltn (v := .ty "list") (by rfl) M.list (by decide +kernel) rfl) pa_nil))))) (pss_one (ps_ret pe_non)) pss_nil)
  (pss_cons (ps_for PassesOwn.never rfl (pi_listQ (K := K) rfl (pv 1)) (pg_name (i := 2) sc_behind_places.nd rfl (Or.inl rfl)) (pss_cons (ps_if (pt_not (pt_val (pe_c c_is_place_of hr (by first | decide | omega) (by rfl) (pa_cons (pe_fldQ (K := K) rfl (pv 0) (by rfl)) (pa_cons (pe_fldQ (K := K) rfl (pv 0) (by rfl)) (pa_cons (pv 2) pa_nil)))))) (pss_one (ps_ret pe_non)) pss_nil)
  (pss_cons (ps_asg (pe_c c_spot_of hr (by first | decide | omega) (by rfl) (pa_cons (pv 0) (pa_cons (pv 2) pa_nil))) (pg_tupQ (K := K) (n := 2) rfl rfl (pgs_cons (pg_name (i := 3) sc_behind_places.nd rfl (Or.inl rfl)) (pgs_cons (pg_name (i := 4) sc_behind_places.nd rfl (Or.inl rfl)) pgs_nil))))
  (pss_cons (ps_if (pt_not (pt_val (pe_c c_is_let_place hr (by first | decide | omega) (by rfl) (pa_cons (pe_fldQ (K := K) rfl (pv 0) (by rfl)) (pa_cons (pv 3) (pa_cons (pv 4) pa_nil)))))) (pss_one (ps_ret pe_non)) pss_nil)
  (pss_one (ps_set (i := 0) sc_behind_places.nd rfl (Or.inl rfl) (pe_c c_moved_table hr (by first | decide | omega) (by rfl) (pa_cons (pv 0) (pa_cons (pv 2) pa_nil)))))))))
  (pss_one (ps_ret (pv 0)))))), ?_⟩)
  obtain ⟨v, u, nm, wd, pl, d, rfl, ht, wo, hv, k0, k1⟩ := h
  refine ⟨_, rfl, _, _, _, _, _, rfl, .ty _, rp_ty hv.rp, kit_list _, _, rfl, ?_⟩
  cases d with
  | oth d =>
    refine ifT ?_ (k0 rfl H fun _ _ z => z)
    show (!isList d) = true
    rw [hv.2] <;> rfl
  | its l =>
    obtain ⟨a, xs, rfl, ea, hx⟩ := hv
    refine ifN rfl ⟨_, rfl, a, rfl, ⟨_, SqL.of ea⟩, ?_⟩
    refine for_list (xs := xs) (fun i σ G => σ.length = 5 ∧ SB [] H G ∧ ∃ x pl', σ[0]? = some (some x) ∧ TableAt K cT [] G nm wd pl' x ∧ WO nm wd pl' ∧ behW nm wd pl l = behW nm wd pl' (l.drop i)) ⟨rfl, SB.same, v, pl, rfl, ht, wo, rfl⟩ (fun i σ G _ h => SqL.of (h.2.1 _ _ (by simp) ea)) (fun i y σ G hy h => ?_) (fun σ G h => ?_)
    · obtain ⟨n0, s, x, pl', g0, ht, wo, hb⟩ := h
      obtain ⟨it, hit, iy⟩ := Paired.at1 hx hy
      have iy := iy.sb s
      have dr : l.drop i = it :: l.drop (i + 1) := by
        obtain ⟨l1, l2⟩ := List.getElem?_eq_some_iff.mp hit
        rw [List.drop_eq_getElem_cons l1, l2]
      rw [dr] at hb
      obtain ⟨x, dx, f1, f2, f3, g, rfl, _, ex, ⟨a1, rfl, h1⟩, ⟨a2, rfl, h2⟩, _, hg⟩ := id ht
      have j0 : (σ.set 2 (some y)).length = 5 := by rw [List.length_set]; exact n0
      have j1 : (σ.set 2 (some y))[0]? = some (some (.ref x)) := by rw [List.getElem?_set_ne (by decide)]; exact g0
      have j2 : (σ.set 2 (some y))[2]? = some (some y) := List.getElem?_set_self (by omega)
      refine ⟨_, j1, x, cT, dx, _, _, rfl, ex, M.clT, M.noT _ (by simp), rfl, _, j1, x, cT, dx, _, _, rfl, ex, M.clT, M.noT _ (by simp), rfl, _, j2, _, _, _, nm, wd, rfl, ⟨a1, rfl, h1⟩, ⟨a2, rfl, h2⟩, ?_⟩
      cases it with
      | inr d => exact .inr ⟨d, iy.1, iy.2.1, _, rfl, ifT rfl (k0 hb G (SB.nil s))⟩
      | inl q =>
        refine .inl ⟨q, iy.1, iy.2.1, iy.2.2, fun H1 s1 => ?_⟩
        have u1 := SB.of (S := []) s1
        by_cases mq : q ∈ prod nm wd
        · have m2 := mem_prod.mp mq
          obtain ⟨a, b, hat⟩ := at_of mq
          rw [decide_eq_true m2]
          refine ⟨_, rfl, ifN rfl ?_⟩
          refine ⟨_, j1, _, j2, _, _, nm, wd, pl', q, a, b, rfl, ht.sb u1, iy.1.sb u1, hat.n, hat.d, asc_nodup wo.n, asc_nodup wo.d, iy.2.1, iy.2.2, fun t H2 s2 nt et => ?_⟩
          have u2 := u1.trans (SB.of s2)
          refine ⟨t, _, rfl, SqT.of et, rfl, _, _, rfl, _, _, rfl, rfl, ?_⟩
          generalize eσ : ((σ.set 2 (some y)).set 3 (some (V.int (a : Int)))).set 4 (some (V.int (b : Int))) = τ
          have t0 : τ.length = 5 := by rw [← eσ, List.length_set, List.length_set]; exact j0
          have t1 : τ[0]? = some (some (.ref x)) := by rw [← eσ, List.getElem?_set_ne (by decide), List.getElem?_set_ne (by decide)]; exact j1
          have t2 : τ[2]? = some (some y) := by rw [← eσ, List.getElem?_set_ne (by decide), List.getElem?_set_ne (by decide)]; exact j2
          have t3 : τ[3]? = some (some (V.int (a : Int))) := by rw [← eσ, List.getElem?_set_ne (by decide), List.getElem?_set_self (by rw [j0]; decide)]
          have t4 : τ[4]? = some (some (V.int (b : Int))) := by rw [← eσ, List.getElem?_set_self (by rw [List.length_set, j0]; decide)]
          refine ⟨_, t1, x, cT, dx, _, _, rfl, u2 _ _ (by simp) ex, M.clT, M.noT _ (by simp), rfl, _, t3, _, t4, _, _, _, _, a, b, rfl, hg.sb u2, grid_wo wo, hat.lt.1, hat.lt.2, fun H3 s3 => ?_⟩
          have u3 := u2.trans (SB.of s3)
          have ev : decide ((acrossL (gridOf nm wd pl') nm.length wd.length a b).length % 2 = 0) = decide (q ∈ freeP nm wd pl') := by
            have := acr_thr wo hat
            unfold acr at this
            rw [this]
            exact decide_eq_decide.mpr ⟨fun z => free_iff.mpr ⟨mq, z⟩, fun z => (free_iff.mp z).2⟩
          rw [ev]
          refine ⟨_, rfl, ifB (fun hf => ?_) (fun hf => ?_)⟩
          · have hf : q ∉ freeP nm wd pl' := by simpa using hf
            have hb : behW nm wd pl l = none := hb.trans (if_neg hf)
            exact k0 hb H3 (SB.nil (s.trans u3))
          · have hf : q ∈ freeP nm wd pl' := by simpa using hf
            have hb := hb.trans (if_pos hf)
            refine ⟨_, t1, _, t2, _, _, nm, wd, pl', q, rfl, ht.sb u3, wo, iy.1.sb u3, mq, fun z H4 s4 nz tz => ?_⟩
            exact ⟨by rw [List.length_set]; exact t0, (s.trans u3).trans (SB.of s4), .ref z, shiftP pl' q, List.getElem?_set_self (by omega), tz, wo.shift mq, hb⟩
        · have e : decide (q.1 ∈ nm ∧ q.2 ∈ wd) = false := decide_eq_false fun z => mq (mem_prod.mpr z)
          rw [e]
          have hb : behW nm wd pl l = none := hb.trans (if_neg fun z => mq (free_iff.mp z).1)
          exact ⟨_, rfl, ifT rfl (k0 hb H1 (SB.nil (s.trans u1)))⟩
    · obtain ⟨n0, s, x, pl', g0, ht, wo, hb⟩ := h
      have ll := Paired.length hx
      rw [List.drop_eq_nil_of_le (by omega)] at hb
      exact ⟨_, g0, k1 pl' hb x G (SB.nil s) ht wo⟩
end
end K77
namespace K77
open PySem PySem.Spec PyProof.Rows C8 Ef
open L2 hiding E0 CX0 pass0 Fun
section
variable {P : Program} {w : World} {K : PySem.W.Frag} {mg : Str → Option Value} {base : Heap} {cT cC : Addr}
theorem sc_check_tables : FnScope ["one", "other"] ["one", "other"] (defScope s_check_tables) := ⟨rfl, rfl, rfl, by decide +kernel, rfl, by decide +kernel, by decide +kernel⟩
theorem sc_table_behind : FnScope ["table", "places", "behind"] ["table", "places"] (defScope s_table_behind) := ⟨rfl, rfl, rfl, by decide +kernel, rfl, by decide +kernel, by decide +kernel⟩
theorem sc_is_club_road : FnScope ["one", "other", "value"] ["one", "other", "value"] (defScope s_is_club_road) := ⟨rfl, rfl, rfl, by decide +kernel, rfl, by decide +kernel, by decide +kernel⟩
def spCheckTs (K : PySem.W.Frag) (cT : Addr) : Sp := fun vs H Q _ => ∃ (v y : V) (nm wd : List Str) (pl pl' : List (Str × Str)), vs = [v, y] ∧ TableAt K cT [] H nm wd pl v ∧ TableAt K cT [] H nm wd pl' y ∧ TW nm wd pl ∧ Q .non H
theorem ok_check_tables (M : Fx K mg cT cC) (F : Fn K mg "check_tables" s_check_tables) (c_check_table : Cal P w K mg base 1 "check_table" (spCheckT K cT) []) : Cal P w K mg base 2 "check_tables" (spCheckTs K cT) [] := by
  refine F.cal sc_check_tables (fun _ _ F => FunD.bindsN F fun _ _ _ _ _ _ us hl => match us, hl with | [_, _], _ => rfl) (fun vs H Q E h => by obtain ⟨_, _, _, _, _, _, rfl, _⟩ := h; rfl) (fun f cdv A outer st H vs Q E hr h => ⟨_, PSs.nox ((pss_cons (ps_expr (pe_c c_check_table hr (by first | decide | omega) (by rfl) (pa_cons (pv 0) pa_nil)))
  (pss_cons (ps_expr (pe_c c_check_table hr (by first | decide | omega) (by rfl) (pa_cons (pv 1) pa_nil)))
  (pss_one (ps_if (PW.pt (pw_or (pt_cmpR (neDQ (K := K) rfl hr.units) (pe_fldQ (K := K) rfl (pv 0) (by rfl)) (pe_fldQ (K := K) rfl (pv 1) (by rfl)) (nomark _)) (pw_or1 (pt_cmpR (neDQ (K := K) rfl hr.units) (pe_fldQ (K := K) rfl (pv 0) (by rfl)) (pe_fldQ (K := K) rfl (pv 1) (by rfl)) (nomark _))))) (pss_one (ps_never)) pss_nil))))), ?_⟩)
  obtain ⟨v, y, nm, wd, pl, pl', rfl, ht, ht', tw, q⟩ := h
  obtain ⟨x, dx, f1, f2, f3, gv, rfl, _, ex, h1, h2, _, _⟩ := id ht
  obtain ⟨x', dx', f1', f2', f3', gv', rfl, _, ex', h1', h2', _, _⟩ := id ht'
  have se : ∀ ws : List Str, PyData.eqv (dS ws) (dS ws) = true := fun ws => (eqv_strs ws ws).trans (decide_eq_true rfl)
  refine ⟨_, rfl, [], _, nm, wd, pl, rfl, ht, _, rfl, [], _, nm, wd, pl', rfl, ht', ?_⟩
  refine ⟨_, rfl, x, cT, dx, _, _, rfl, ex, M.clT, M.noT _ (by simp), rfl, _, rfl, x', cT, dx', _, _, rfl, ex', M.clT, M.noT _ (by simp), rfl, _, _, ls_dp h1, ls_dp h1', shaped_ss tw.1, shaped_ss tw.1, _, rfl, ?_⟩
  rw [se]
  refine ifN rfl ?_
  refine ⟨_, rfl, x, cT, dx, _, _, rfl, ex, M.clT, M.noT _ (by simp), rfl, _, rfl, x', cT, dx', _, _, rfl, ex', M.clT, M.noT _ (by simp), rfl, _, _, ls_dp h2, ls_dp h2', shaped_ss tw.2.1, shaped_ss tw.2.1, _, rfl, ?_⟩
  rw [se]
  exact ifN rfl q
/-- the table behind a road, or the error -/
def spTableBehind (K : PySem.W.Frag) (cT cR : Addr) : Sp := fun vs H Q E => ∃ (v u : V) (nm wd : List Str) (pl : List (Str × Str)) (d : Vd), vs = [v, u] ∧ TableAt K cT [] H nm wd pl v ∧ WO nm wd pl ∧ VAt K H d u ∧
  (behV nm wd pl d = none → ∀ G x, Same H G → G x = none → E (.ref cR) (some x) (upd G x (.xd [("value", u)]))) ∧ (∀ pl', behV nm wd pl d = some pl' → ∀ x H', Same H H' → TableAt K cT [] H' nm wd pl' x → WO nm wd pl' → Q x H')
theorem ok_table_behind {cR : Addr} (M : Fx K mg cT cC) (F : Fn K mg "table_behind" s_table_behind) (x_InvalidRoad : SupIs P K mg "InvalidRoad" cR) (c_check_table : Cal P w K mg base 1 "check_table" (spCheckT K cT) []) (c_behind_places : Cal P w K mg base 7 "behind_places" (spBehind K cT) []) :
    CalX P w K mg base 8 "table_behind" (spTableBehind K cT cR) := by
  refine F.calX sc_table_behind (fun _ _ F => FunD.bindsN F fun _ _ _ _ _ _ us hl => match us, hl with | [_, _], _ => rfl) (fun vs H Q E h => by obtain ⟨_, _, _, _, _, _, rfl, _⟩ := h; rfl) (fun f cdv A outer st H vs Q E hr h => ⟨_, ((pss_cons (ps_expr (pe_c c_check_table hr (by first | decide | omega) (by rfl) (pa_cons (pv 0) pa_nil)))
  (pss_cons (ps_set (i := 2) sc_table_behind.nd rfl (Or.inl rfl) (pe_c c_behind_places hr (by first | decide | omega) (by rfl) (pa_cons (pv 0) (pa_cons (pv 1) pa_nil))))
  (pss_cons (ps_if (pt_cmpR op_isN (pv 2) pe_non (nomark _)) (pss_one (ps_rz x_InvalidRoad.at_ rfl (takes_of rfl rfl rfl rfl) hr (by first | decide | omega) (by rfl) (pv 1))) pss_nil)
  (pss_one (ps_ret (pv 2))))))), ?_⟩)
  obtain ⟨v, u, nm, wd, pl, d, rfl, ht, wo, hv, k0, k1⟩ := h
  refine ⟨_, rfl, [], _, nm, wd, pl, rfl, ht, ?_⟩
  refine ⟨_, rfl, _, rfl, v, u, nm, wd, pl, d, rfl, ht, wo, hv, fun hb H1 s1 => ?_, fun pl' hb x H1 s1 hx wo' => ?_⟩
  · refine ⟨_, rfl, rfl, _, rfl, ifT rfl ?_⟩
    exact ⟨_, rfl, fun z hz => k0 hb H1 z s1 hz⟩
  · obtain ⟨y, dy, f1, f2, f3, gv, rfl, _⟩ := id hx
    refine ⟨_, rfl, rfl, _, rfl, ifN rfl ?_⟩
    exact ⟨_, rfl, k1 pl' hb _ H1 s1 hx wo'⟩
/-- whether an object is a road from one table to another -/
def spRoadT (K : PySem.W.Frag) (cT : Addr) : Sp := fun vs H Q _ => ∃ (v y u : V) (nm wd : List Str) (pl pg : List (Str × Str)) (d : Vd), vs = [v, y, u] ∧ TableAt K cT [] H nm wd pl v ∧ TableAt K cT [] H nm wd pg y ∧ WO nm wd pl ∧ WO nm wd pg ∧ VAt K H d u ∧
  ∀ H', Same H H' → Q (.bl (decide (behV nm wd pl d = some pg))) H'
theorem ok_club_road (M : Fx K mg cT cC) (F : Fn K mg "is_club_road" s_is_club_road) (c_check_tables : Cal P w K mg base 2 "check_tables" (spCheckTs K cT) []) (c_behind_places : Cal P w K mg base 7 "behind_places" (spBehind K cT) []) (m_Table___eq__ : Met P w K mg base 1 cT "__eq__" (spEqT K cT) []) :
    Cal P w K mg base 8 "is_club_road" (spRoadT K cT) [] := by
  refine F.cal sc_is_club_road (fun _ _ F => FunD.bindsN F fun _ _ _ _ _ _ us hl => match us, hl with | [_, _, _], _ => rfl) (fun vs H Q E h => by obtain ⟨_, _, _, _, _, _, _, _, rfl, _⟩ := h; rfl) (fun f cdv A outer st H vs Q E hr h => ⟨_, PSs.nox ((pss_cons (ps_expr (pe_c c_check_tables hr (by first | decide | omega) (by rfl) (pa_cons (pv 0) (pa_cons (pv 1) pa_nil))))
  (pss_one (ps_ret (pe_cmpR (op_or2 (ops_own (.inl rfl) (fun _ _ => rfl) M.eT.own m_Table___eq__ hr (by omega)).1 (ops_own (.inl rfl) (fun _ _ => rfl) M.eT.own m_Table___eq__ hr (by omega)).2) (pe_c c_behind_places hr (by first | decide | omega) (by rfl) (pa_cons (pv 0) (pa_cons (pv 2) pa_nil))) (pv 1) (nomark _)))))), ?_⟩)
  obtain ⟨v, y, u, nm, wd, pl, pg, d, rfl, ht, hy, wo, wg, hv, k⟩ := h
  refine ⟨_, rfl, _, rfl, v, y, nm, wd, pl, pg, rfl, ht, hy, wo.tw, ?_⟩
  obtain ⟨x', dx', g1, g2, g3, gv', rfl, _, ex', _⟩ := id hy
  refine ⟨_, rfl, _, rfl, v, u, nm, wd, pl, d, rfl, ht, wo, hv, fun hb H1 s1 => ?_, fun pl' hb x H1 s1 hx wo' => ?_⟩
  · have k := k H1 s1
    rw [hb] at k
    refine ⟨_, rfl, .inr ⟨.inl rfl, ⟨_, _, _, rfl, s1 _ _ ex'⟩, _, _, nm, wd, pg, rfl, hy.sb (SB.of s1), wg.tw, .inr ⟨_, .base .non, M.eT.no "NoneType" (by simp), _, rfl, ?_⟩⟩⟩
    simpa using k
  · have k := k H1 s1
    rw [hb] at k
    obtain ⟨x1, dx1, f1, f2, f3, gv, rfl, _, ex1, _⟩ := id hx
    have ex2 := s1 _ _ ex'
    refine ⟨_, rfl, .inl ⟨⟨_, _, _, rfl, ex1⟩, .inr ⟨_, _, _, _, rfl, ex2, by simp [PySem.W.notFirst]⟩, _, _, nm, wd, pl', rfl, hx, wo'.tw, .inl ⟨nm, wd, pg, hy.sb (SB.of s1), wg.tw, _, rfl, ?_⟩⟩⟩
    simpa using k
end
end K77
namespace K77
open PySem PySem.Spec PyProof.Rows C8 Ef
open L2 hiding E0 CX0 pass0 Fun
section
variable {P : Program} {w : World} {K : PySem.W.Frag} {mg : Str → Option Value} {base : Heap} {cT cC : Addr}
theorem sc_some_let_place : FnScope ["table", "some"] ["table"] (defScope s_some_let_place) := ⟨rfl, rfl, rfl, by decide +kernel, rfl, by decide +kernel, by decide +kernel⟩
theorem sc__law_behind : FnScope ["_law_world", "_law_value", "_law_place"] ["_law_world", "_law_value"] (defScope s__law_behind) := ⟨rfl, rfl, rfl, by decide +kernel, rfl, by decide +kernel, by decide +kernel⟩
theorem sc__law_is_road : FnScope ["_law_world", "_law_goal", "_law_value", "_law_behind_here"] ["_law_world", "_law_goal", "_law_value"] (defScope s__law_is_road) := ⟨rfl, rfl, rfl, by decide +kernel, rfl, by decide +kernel, by decide +kernel⟩
theorem notInDQ {X : Cx} (h : X.K = K) (hu : X.A.units + 65 < cLine) : OpR X (compareOp .NotIn) (rNotInD K) := h ▸ op_notInD hu
theorem any_odd {d : PyData} (t : isTup d = true) (o : oddD d = true) : ∀ pl : List (Str × Str), ((pl.map dP1).any fun z => PyData.eqv z d) = false
  | [] => rfl
  | p :: pl => by
    rw [List.map_cons, List.any_cons, any_odd t o pl]
    obtain ⟨ds, rfl⟩ : ∃ ds, d = .tuple ds := by cases d <;> first | exact ⟨_, rfl⟩ | cases t
    have hne : ¬ ds.length = 2 := by simpa [oddD] using o
    have e : PyData.eqv (dP1 p) (.tuple ds) = PyData.eqvAll [.str p.1, .str p.2] ds := rfl
    rw [e, SeqAt.eqvAll_other_length (by simp; omega)] <;> rfl
def dOpt : Option (Str × Str) → PyData
  | none => .none
  | some q => dP1 q
theorem let_free {nm wd : List Str} {pl : List (Str × Str)} (wo : WO nm wd pl) : (letL (gridOf nm wd pl) nm.length wd.length).map (nameAt nm wd) = freeP nm wd pl := by rw [let_I, free_I wo]
theorem WO.ne {nm wd : List Str} {pl : List (Str × Str)} (wo : WO nm wd pl) : nm ≠ [] := fun z => by have := wo.n1; rw [z] at this; simp at this
theorem WO.n60 {nm wd : List Str} {pl : List (Str × Str)} (wo : WO nm wd pl) : nm.length ≤ 60 := by have := wo.n2; omega
theorem WO.d60 {nm wd : List Str} {pl : List (Str × Str)} (wo : WO nm wd pl) : wd.length ≤ 60 := by have := wo.d2; omega
/-- the first place that is let -/
def spSomeLet (K : PySem.W.Frag) (cT : Addr) : Sp := fun vs H Q _ => ∃ (v : V) (nm wd : List Str) (pl : List (Str × Str)), vs = [v] ∧ TableAt K cT [] H nm wd pl v ∧ WO nm wd pl ∧ ∀ y H', Same H H' → Rp K [] H' (dOpt (freeP nm wd pl).head?) y → Q y H'
theorem ok_some_let (M : Fx K mg cT cC) (F : Fn K mg "some_let_place" s_some_let_place) (c_let_places : Cal P w K mg base 3 "let_places" (spLetPlaces K cT) []) : Cal P w K mg base 4 "some_let_place" (spSomeLet K cT) [] := by
  refine F.cal sc_some_let_place (fun _ _ F => FunD.bindsN F fun _ _ _ _ _ _ us hl => match us, hl with | [_], _ => rfl) (fun vs H Q E h => by obtain ⟨_, _, _, _, rfl, _⟩ := h; rfl) (fun f cdv A outer st H vs Q E hr h => ⟨_, PSs.nox ((pss_cons (ps_set (i := 1) sc_some_let_place.nd rfl (Or.inl rfl) (pe_c c_let_places hr (by first | decide | omega) (by rfl) (pa_cons (pv 0) pa_nil)))
  (pss_one (ps_ret (pe_ifExp (pt_cmpR (neDQ (K := K) rfl hr.units) (pv 1) (pe_lst pa_nil) (nomark _)) (pe_ix (ixL (K := K) rfl) (pv 1) pe_int (fun _ _ => rfl)) pe_non))))), ?_⟩)
  obtain ⟨v, nm, wd, pl, rfl, ht, wo, k⟩ := h
  refine ⟨_, rfl, _, nm, wd, pl, rfl, ht, wo.ne, wo.n60, wo.d60, fun l ys H1 s1 nl el hys => ?_⟩
  rw [let_free wo] at hys
  refine ⟨_, rfl, (by decide : (0 : Nat) ≤ sizeLine), fun le hle => ?_⟩
  have s2 := (SB.same (S := [])).new (o := .lst []) hle
  have el2 := s2 _ _ (by simp) el
  have u2 := (SB.of (S := []) s1).trans s2
  refine ⟨dP (freeP nm wd pl), .list [], lp_dp (RL.at (S := []) el2 (by simp)) (hys.sb s2), Rp.dp (S := []) ⟨le, [], rfl, RL.at upd_same (by simp), rfl⟩, shaped_ps (free_tw wo.tw), shaped_ps (qs := []) (by simp), _, rfl, ?_⟩
  rw [eqv_nil]
  refine ifB (fun hb => ?_) (fun hb => ?_)
  · have hb : (!decide (freeP nm wd pl = [])) = true := hb
    have fne : freeP nm wd pl ≠ [] := by simpa using hb
    obtain ⟨q, r, e⟩ := List.exists_cons_of_ne_nil fne
    rw [e] at hys k
    cases hys with
    | @cons _ y _ zs h1 h2 =>
      refine ⟨_, rfl, l, _, 0, _, rfl, rfl, SqL.of el2, atI_nat (j := 0) rfl, ?_⟩
      exact k y _ (SB.nil u2) (p2_rp (h1.sb s2))
  · have hb : (!decide (freeP nm wd pl = [])) = false := hb
    have fe : freeP nm wd pl = [] := by simpa using hb
    rw [fe] at k
    exact k _ _ (SB.nil u2) rfl
/-- where an object leads, by the law's own deeds -/
def spLawBehind (K : PySem.W.Frag) : Sp := fun vs H Q _ => ∃ (v u : V) (nm wd : List Str) (pl : List (Str × Str)) (d : Vd), vs = [v, u] ∧ W3 K [] H nm wd pl v ∧ WO nm wd pl ∧ VAt K H d u ∧
  (behV nm wd pl d = none → ∀ H', Same H H' → Q .non H') ∧ (∀ pl', behV nm wd pl d = some pl' → ∀ x H', Same H H' → W3 K [] H' nm wd pl' x → WO nm wd pl' → Q x H')
theorem ok_law_behind (M : Fx K mg cT cC) (F : Fn K mg "_law_behind" s__law_behind) (c__law_free_places : Cal P w K mg base 2 "_law_free_places" (spFree K) []) (c__law_shifted : Cal P w K mg base 1 "_law_shifted" (spShift K) []) : Cal P w K mg base 3 "_law_behind" (spLawBehind K) [] := by
  refine F.cal sc__law_behind (fun _ _ F => FunD.bindsN F fun _ _ _ _ _ _ us hl => match us, hl with | [_, _], _ => rfl) (fun vs H Q E h => by obtain ⟨_, _, _, _, _, _, rfl, _⟩ := h; rfl) (fun f cdv A outer st H vs Q E hr h => ⟨_, PSs.nox ((pss_cons (ps_if (pt_not (pt_val (pe_callB (isiQ (K := K) rfl) (by rfl) M.isinstance (by decide +kernel) (pa_cons (pv 1) (pa_cons (pe_bltn (v := .ty "list") (by rfl) M.list (by decide +kernel) rfl) pa_nil))))) (pss_one (ps_ret pe_non)) pss_nil)
  (pss_cons (ps_for PassesOwn.never rfl (pi_listQ (K := K) rfl (pv 1)) (pg_name (i := 2) sc__law_behind.nd rfl (Or.inl rfl)) (pss_cons (ps_if (PW.pt (pw_or (pt_not (pt_val (pe_callB (isiQ (K := K) rfl) (by rfl) M.isinstance (by decide +kernel) (pa_cons (pv 2) (pa_cons (pe_bltn (v := .ty "tuple") (by rfl) M.tuple (by decide +kernel) rfl) pa_nil))))) (pw_or1 (pt_cmpR (notInDQ (K := K) rfl (room65 hr)) (pv 2) (pe_c c__law_free_places hr (by first | decide | omega) (by rfl) (pa_cons (pv 0) pa_nil)) rfl)))) (pss_one (ps_ret pe_non)) pss_nil)
  (pss_one (ps_set (i := 0) sc__law_behind.nd rfl (Or.inl rfl) (pe_c c__law_shifted hr (by first | decide | omega) (by rfl) (pa_cons (pv 0) (pa_cons (pv 2) pa_nil)))))))
  (pss_one (ps_ret (pv 0)))))), ?_⟩)
  obtain ⟨v, u, nm, wd, pl, d, rfl, hw, wo, hv, k0, k1⟩ := h
  refine ⟨_, rfl, _, _, _, _, _, rfl, .ty _, rp_ty hv.rp, kit_list _, _, rfl, ?_⟩
  cases d with
  | oth d =>
    refine ifT ?_ (k0 rfl H fun _ _ z => z)
    show (!isList d) = true
    rw [hv.2] <;> rfl
  | its l =>
    obtain ⟨a, xs, rfl, ea, hx⟩ := hv
    refine ifN rfl ⟨_, rfl, a, rfl, ⟨_, SqL.of ea⟩, ?_⟩
    refine for_list (xs := xs) (fun i σ G => σ.length = 3 ∧ SB [] H G ∧ ∃ x pl', σ[0]? = some (some x) ∧ W3 K [] G nm wd pl' x ∧ WO nm wd pl' ∧ behW nm wd pl l = behW nm wd pl' (l.drop i)) ⟨rfl, SB.same, v, pl, rfl, hw, wo, rfl⟩ (fun i σ G _ h => SqL.of (h.2.1 _ _ (by simp) ea)) (fun i y σ G hy h => ?_) (fun σ G h => ?_)
    · obtain ⟨n0, s, x, pl', g0, hw, wo, hb⟩ := h
      obtain ⟨it, hit, iy⟩ := Paired.at1 hx hy
      have iy := iy.sb s
      have dr : l.drop i = it :: l.drop (i + 1) := by
        obtain ⟨l1, l2⟩ := List.getElem?_eq_some_iff.mp hit
        rw [List.drop_eq_getElem_cons l1, l2]
      rw [dr] at hb
      have j0 : (σ.set 2 (some y)).length = 3 := by rw [List.length_set]; exact n0
      have j1 : (σ.set 2 (some y))[0]? = some (some x) := by rw [List.getElem?_set_ne (by decide)]; exact g0
      have j2 : (σ.set 2 (some y))[2]? = some (some y) := List.getElem?_set_self (by omega)
      refine ⟨_, j2, _, _, _, _, _, rfl, .ty _, rp_ty iy.rp, kit_tup _, _, rfl, ?_⟩
      have fr := free_tw (pl := pl') wo.tw
      have n2 := wo.n60
      have d2 := wo.d60
      have l25 := wo.l25
      cases it with
      | inr d =>
        have hb : behW nm wd pl l = none := hb
        refine ifB (fun h1 => k0 hb G (SB.nil s)) (fun h1 => ?_)
        have h1 : isTup d = true := by simpa [itD] using h1
        obtain ⟨sh, pd⟩ := iy.2.2 h1
        refine ⟨_, j2, _, j1, _, nm, wd, pl', rfl, hw, wo.nd, by omega, by omega, by omega, fun lf fs H1 s1 nl el hfs => ?_⟩
        have u1 := SB.of (S := []) s1
        refine ⟨d, _, Rp.dp' pd (iy.1.sb u1), lp_dp (RL.at (S := []) el (by simp)) hfs, sh, shaped_ps fr, _, rfl, ?_⟩
        rw [any_odd h1 iy.2.1]
        exact ifT rfl (k0 hb H1 (SB.nil (s.trans u1)))
      | inl q =>
        refine ifN rfl ?_
        refine ⟨_, j2, _, j1, _, nm, wd, pl', rfl, hw, wo.nd, by omega, by omega, by omega, fun lf fs H1 s1 nl el hfs => ?_⟩
        have u1 := SB.of (S := []) s1
        have qok : PairOk q := ⟨strOk_of iy.2.1, strOk_of iy.2.2⟩
        refine ⟨dP1 q, _, p2_dp (iy.1.sb u1), lp_dp (RL.at (S := []) el (by simp)) hfs, shaped_p qok, shaped_ps fr, _, rfl, ?_⟩
        rw [any_eqv_p]
        refine ifB (fun hf => ?_) (fun hf => ?_)
        · have hf : q ∉ freeP nm wd pl' := by simpa using hf
          have hb : behW nm wd pl l = none := hb.trans (if_neg hf)
          exact k0 hb H1 (SB.nil (s.trans u1))
        · have hf : q ∈ freeP nm wd pl' := by simpa using hf
          have hb := hb.trans (if_pos hf)
          refine ⟨_, j1, _, j2, [], _, _, nm, wd, pl', q, rfl, Dom.nil, hw.sb u1, iy.1.sb u1, by omega, wo.nd, wo.tw.2.2, qok, fun h' H2 s2 nh w2 => ?_⟩
          exact ⟨by rw [List.length_set]; exact j0, (s.trans u1).trans (SB.of s2), .ref h', shiftP pl' q, List.getElem?_set_self (by omega), w2, wo.shift (free_iff.mp hf).1, hb⟩
    · obtain ⟨n0, s, x, pl', g0, hw, wo, hb⟩ := h
      have ll := Paired.length hx
      rw [List.drop_eq_nil_of_le (by omega)] at hb
      exact ⟨_, g0, k1 pl' hb x G (SB.nil s) hw wo⟩
end
end K77
namespace K77
open PySem PySem.Spec PyProof.Rows C8 Ef
open L2 hiding E0 CX0 pass0 Fun
section
variable {P : Program} {w : World} {K : PySem.W.Frag} {mg : Str → Option Value} {base : Heap} {cT cC : Addr}
theorem sc__law_pairs : FnScope ["_law_crowd", "_law_found", "_law_at", "_law_late"] ["_law_crowd"] (defScope s__law_pairs) := ⟨rfl, rfl, rfl, by decide +kernel, rfl, by decide +kernel, by decide +kernel⟩
theorem sc__law_twos : FnScope ["_law_things"] ["_law_things"] (defScope s__law_twos) := ⟨rfl, rfl, rfl, by decide +kernel, rfl, by decide +kernel, by decide +kernel⟩
theorem sc__law_all_squares : FnScope ["_law_world", "_law_net", "_law_found", "_law_one", "_law_late", "_law_both", "_law_place", "_law_club"] ["_law_world"] (defScope s__law_all_squares) := ⟨rfl, rfl, rfl, by decide +kernel, rfl, by decide +kernel, by decide +kernel⟩
/-- whether an object is a road, by the law -/
def spLawRoad (K : PySem.W.Frag) : Sp := fun vs H Q _ => ∃ (v y u : V) (nm wd : List Str) (pl pg : List (Str × Str)) (d : Vd), vs = [v, y, u] ∧ W3 K [] H nm wd pl v ∧ W3 K [] H nm wd pg y ∧ WO nm wd pl ∧ WO nm wd pg ∧ VAt K H d u ∧
  ∀ H', Same H H' → Q (.bl (decide (behV nm wd pl d = some pg))) H'
theorem ok_law_road (M : Fx K mg cT cC) (F : Fn K mg "_law_is_road" s__law_is_road) (c__law_behind : Cal P w K mg base 3 "_law_behind" (spLawBehind K) []) : Cal P w K mg base 4 "_law_is_road" (spLawRoad K) [] := by
  refine F.cal sc__law_is_road (fun _ _ F => FunD.bindsN F fun _ _ _ _ _ _ us hl => match us, hl with | [_, _, _], _ => rfl) (fun vs H Q E h => by obtain ⟨_, _, _, _, _, _, _, _, rfl, _⟩ := h; rfl) (fun f cdv A outer st H vs Q E hr h => ⟨_, PSs.nox ((pss_cons (ps_set (i := 3) sc__law_is_road.nd rfl (Or.inl rfl) (pe_c c__law_behind hr (by first | decide | omega) (by rfl) (pa_cons (pv 0) (pa_cons (pv 2) pa_nil))))
  (pss_one (ps_ret (pe_and (pe_cmpR op_notN (pv 3) pe_non (nomark _)) (pe_one (pe_cmpR (eqDQ (K := K) rfl hr.units) (pe_ix (ixL (K := K) rfl) (pv 3) pe_int (fun _ _ => rfl)) (pe_ix (ixL (K := K) rfl) (pv 1) pe_int (fun _ _ => rfl)) (nomark _)))))))), ?_⟩)
  obtain ⟨v, y, u, nm, wd, pl, pg, d, rfl, hw, hg, wo, wg, hv, k⟩ := h
  refine ⟨_, rfl, _, rfl, v, u, nm, wd, pl, d, rfl, hw, wo, hv, fun hb H1 s1 => ?_, fun pl' hb x H1 s1 hx wo' => ?_⟩
  · have k := k H1 s1
    rw [hb] at k
    refine ⟨_, rfl, rfl, _, rfl, ifN rfl ?_⟩
    simpa using k
  · have k := k H1 s1
    rw [hb] at k
    have u1 := SB.of (S := []) s1
    obtain ⟨h, l0, l1, l2, xs, rfl, r, r0, r1, r2, hp⟩ := id hx
    obtain ⟨h', m0, m1, m2, ys, rfl, t, t0, t1, t2, hq⟩ := hg.sb u1
    refine ⟨_, rfl, rfl, _, rfl, ifT rfl ?_⟩
    refine ⟨_, rfl, h, _, 2, _, rfl, rfl, r.sq, atI_nat (j := 2) rfl, _, rfl, h', _, 2, _, rfl, rfl, t.sq, atI_nat (j := 2) rfl, dP pl', dP pg, lp_dp r2.rl hp, lp_dp t2.rl hq, shaped_ps wo'.tw.2.2, shaped_ps wg.tw.2.2, ?_⟩
    have e : PyData.eqv (dP pl') (dP pg) = decide (pl' = pg) := eqv_pairs pl' pg
    rw [e]
    simpa using k
/-- all twos of a list -/
def twosW (nm : List Str) (n : Nat) : List (Str × Str) := (List.range n).flatMap fun i => (nm.drop (i + 1)).map fun b => (nm.getD i ⟨#[]⟩, b)
theorem twosW_len (nm : List Str) (h : nm.length ≤ 60) : ∀ n, n ≤ 60 → (twosW nm n).length ≤ n * 60
  | 0, _ => Nat.le_refl _
  | n + 1, hn => by
    have ih := twosW_len nm h n (by omega)
    unfold twosW at ih ⊢
    rw [List.range_succ, List.flatMap_append, List.length_append]
    simp only [List.flatMap_cons, List.flatMap_nil, List.append_nil, List.length_map, List.length_drop]
    omega
def spPairs (K : PySem.W.Frag) : Sp := fun vs H Q _ => ∃ (v : V) (nm : List Str), vs = [v] ∧ LS K [] H nm v ∧ nm.length ≤ 60 ∧ ∀ l xs H', Same H H' → H l = none → H' l = some (.lst xs) → P2s K [] H' (twosW nm nm.length) xs → Q (.ref l) H'
theorem ok_pairs (M : Fx K mg cT cC) (F : Fn K mg "_law_pairs" s__law_pairs) : Cal P w K mg base 1 "_law_pairs" (spPairs K) [] := by
  refine F.cal sc__law_pairs (fun _ _ F => FunD.bindsN F fun _ _ _ _ _ _ us hl => match us, hl with | [_], _ => rfl) (fun vs H Q E h => by obtain ⟨_, _, rfl, _⟩ := h; rfl) (fun f cdv A outer st H vs Q E hr h => ⟨_, PSs.nox ((pss_cons (ps_set (i := 1) sc__law_pairs.nd rfl (Or.inl rfl) (pe_lst pa_nil))
  (pss_cons (ps_for PassesOwn.never rfl (pi_range1 (by rfl) M.range (pa_cons (pe_callB (lenQ (K := K) rfl) (by rfl) M.len boot_len (pa_cons (pv 0) pa_nil)) pa_nil)) (pg_name (i := 2) sc__law_pairs.nd rfl (Or.inr rfl)) (pss_one (ps_set (i := 1) sc__law_pairs.nd rfl (Or.inl rfl) (pe_op op_cat (pv 1) (pe_lc rfl sc__law_pairs.nd (pi_listQ (K := K) rfl (pe_slice (slL (K := K) rfl) (pv 0) (po_some (pe_op op_add (pv 2) pe_int)) po_none)) (blkOk_by (N := ["_law_crowd", "_law_found", "_law_at", "_law_late"]) (sc := defScope s__law_pairs) (own := [("_law_late", 3)]) (by decide +kernel)) (fun _ _ _ _ _ => (pg_name (i := 3) sc__law_pairs.nd rfl (Or.inl rfl))) (fun _ _ _ _ _ => pts_nil) (fun _ _ _ _ _ => (pe_tup (pa_cons (pe_ix (ixL (K := K) rfl) (pv 0) (pv 2) (fun _ _ => rfl)) (pa_cons (pv 3) pa_nil)))))))))
  (pss_one (ps_ret (pv 1)))))), ?_⟩)
  obtain ⟨v, nm, rfl, ⟨a, rfl, ha⟩, n60, q⟩ := h
  refine ⟨(by decide : (0 : Nat) ≤ sizeLine), fun l0 hl0 => ?_⟩
  have n0' : SB [] H (upd H l0 (.lst [])) := SB.same.new hl0
  refine ⟨_, rfl, _, _, rfl, .inl (ha.sb n0').sq, _, rfl, by omega, by simp; omega, ?_⟩
  rw [List.length_map, Int.toNat_natCast]
  refine for_range (lo := 0) (n := nm.length) (fun i σ G => σ.length = 4 ∧ σ[0]? = some (some (.ref a)) ∧ SB [] H G ∧ ∃ l xs, σ[1]? = some (some (.ref l)) ∧ H l = none ∧ G l = some (.lst xs) ∧ P2s K [] G (twosW nm i) xs) ⟨rfl, rfl, n0', l0, [], rfl, hl0, upd_same, .nil⟩ (fun i σ G hi h => ?_) (fun σ G h => ?_)
  · obtain ⟨k0, k1, s, l, xs, k2, hl, el, hp2⟩ := h
    have j0 : (σ.set 2 (some (V.int (0 + (i : Int))))).length = 4 := by rw [List.length_set]; exact k0
    have j1 : (σ.set 2 (some (V.int (0 + (i : Int)))))[0]? = some (some (.ref a)) := by rw [List.getElem?_set_ne (by decide)]; exact k1
    have j2 : (σ.set 2 (some (V.int (0 + (i : Int)))))[1]? = some (some (.ref l)) := by rw [List.getElem?_set_ne (by decide)]; exact k2
    have j3 : (σ.set 2 (some (V.int (0 + (i : Int)))))[2]? = some (some (V.int (0 + (i : Int)))) := List.getElem?_set_self (by omega)
    refine ⟨_, j2, _, j1, _, j3, _, _, rfl, rfl, _, rfl, a, _, rfl, (ha.sb s).sq, fun c hc => ⟨_, rfl, ⟨_, SqL.of upd_same⟩, fun D hD => ?_⟩⟩
    have cut : cutV (nm.map V.str) (some (0 + (i : Int) + 1)) none = (nm.drop (i + 1)).map V.str := by
      rw [show (0 + (i : Int) + 1) = ((i + 1 : Nat) : Int) by omega, List.map_drop]
      exact cutV_from _ _
    rw [cut] at hD ⊢
    have s1 := (SB.same (S := [])).new (o := .lst ((nm.drop (i + 1)).map V.str)) hc
    have lnm : (nm.drop (i + 1)).length ≤ 60 := by rw [List.length_drop]; omega
    have ai : (nm.map V.str)[i]? = some (.str (nm.getD i ⟨#[]⟩)) := at_map hi
    have m1 : ∀ k (x : V), ((wipe (σ.set 2 (some (V.int (0 + (i : Int))))) [3]).set 3 (some x))[k]? = if k = 3 then some (some x) else (σ.set 2 (some (V.int (0 + (i : Int)))))[k]? := fun k x => by
      by_cases e : k = 3
      · subst e
        rw [if_pos rfl]
        exact w1_a (by rw [j0]; decide)
      · rw [if_neg e]
        exact w1_o e
    refine lcR (S := []) (RL.at upd_same (by simp)) hD (fun k acc G => P2s K [] G (((nm.drop (i + 1)).take k).map fun b => (nm.getD i ⟨#[]⟩, b)) acc) .nil (fun k x acc G1 hxi sb e hl' hA => ?_) (fun G1 acc sb e hl' hA => ?_)
    · rw [List.getElem?_map] at hxi
      obtain ⟨z, hz, rfl⟩ := Option.map_eq_some_iff.mp hxi
      have hk := (List.getElem?_eq_some_iff.mp hz).1
      have sG := (s.trans s1).trans sb
      refine ⟨wipe1, _, (m1 0 _).trans j1, _, (m1 2 _).trans j3, a, _, i, _, rfl, by rw [Int.zero_add], (ha.sb sG).sq, atI_nat ai, _, m1 3 _, (by decide : (2 : Nat) ≤ sizeLine), fun t ht => ?_⟩
      have eD := (SB.same (S := [])).new (o := .tup [V.str (nm.getD i ⟨#[]⟩), V.str z]) ht _ _ (by simp) e
      refine Pc.put (n := 60) hD (by omega) (by decide) hl' (sb.new ht) eD ?_
      rw [List.take_add_one, hz, List.map_append]
      exact p2s_put (Paired.app (hA.sb (SB.same.new ht)) (.cons ⟨t, rfl, RT2.at upd_same (by simp)⟩ .nil)) eD
    · rw [List.length_map, List.take_length] at hA
      have el2 := (s1.trans sb) _ _ (by simp) el
      have la := hA.len
      have lx := hp2.len
      rw [List.length_map] at la
      have lt := twosW_len nm n60 i (by omega)
      refine ⟨l, D, xs, acc, rfl, rfl, el2, e, by have := sizeLine_eq; omega, fun c2 hc2 => ?_⟩
      have sG := ((s.trans s1).trans sb).new (o := .lst (xs ++ acc)) hc2
      refine ⟨by rw [List.length_set]; exact j0, by rw [List.getElem?_set_ne (by decide)]; exact j1, sG, c2, xs ++ acc, List.getElem?_set_self (by omega), SB.free ((s.trans s1).trans sb) hc2 (by simp), upd_same, ?_⟩
      have e1 : twosW nm (i + 1) = twosW nm i ++ (nm.drop (i + 1)).map fun b => (nm.getD i ⟨#[]⟩, b) := by
        unfold twosW
        rw [List.range_succ, List.flatMap_append]
        simp
      rw [e1]
      exact Paired.app ((hp2.sb (s1.trans sb)).sb (SB.same.new hc2)) (hA.sb (SB.same.new hc2))
  · obtain ⟨k0, k1, s, l, xs, k2, hl, el, hp2⟩ := h
    exact ⟨_, k2, q l xs G (SB.nil s) hl el hp2⟩
end
end K77
namespace K77
open PySem PySem.Spec PyProof.Rows C8 Ef
open L2 hiding E0 CX0 pass0 Fun
section
variable {P : Program} {w : World} {K : PySem.W.Frag} {mg : Str → Option Value} {base : Heap} {cT cC : Addr}
theorem ok_twos (M : Fx K mg cT cC) (F : Fn K mg "_law_twos" s__law_twos) (c__law_pairs : Cal P w K mg base 1 "_law_pairs" (spPairs K) []) : Cal P w K mg base 2 "_law_twos" (spPairs K) [] := by
  refine F.cal sc__law_twos (fun _ _ F => FunD.bindsN F fun _ _ _ _ _ _ us hl => match us, hl with | [_], _ => rfl) (fun vs H Q E h => by obtain ⟨_, _, rfl, _⟩ := h; rfl) (fun f cdv A outer st H vs Q E hr h => ⟨_, PSs.nox ((pss_one (ps_ret (pe_c c__law_pairs hr (by first | decide | omega) (by rfl) (pa_cons (pv 0) pa_nil))))), ?_⟩)
  obtain ⟨v, nm, rfl, ha, n60, q⟩ := h
  exact ⟨_, rfl, v, nm, rfl, ha, n60, q⟩
theorem half_cast (b : Nat) : ((b : Int) * ((b : Int) - 1)) / 2 = ((b * (b - 1) / 2 : Nat) : Int) := by
  cases b with
  | zero => rfl
  | succ n =>
    have e : ((n + 1 : Nat) : Int) - 1 = (n : Int) := by omega
    rw [e, Nat.add_sub_cancel, ← Int.natCast_mul]
    exact (Int.natCast_ediv _ _).symm
/-- the clubs of two people -/
def bothN (wd : List Str) (pl : List (Str × Str)) (a b : Str) : Nat := (wd.filter fun c => decide ((a, c) ∈ pl) && decide ((b, c) ∈ pl)).length
def allSq (nm wd : List Str) (pl : List (Str × Str)) : Nat := ((twosW nm nm.length).map fun q => bothN wd pl q.1 q.2 * (bothN wd pl q.1 q.2 - 1) / 2).sum
def spAllSq (K : PySem.W.Frag) : Sp := fun vs H Q _ => ∃ (v : V) (nm wd : List Str) (pl : List (Str × Str)), vs = [v] ∧ W3 K [] H nm wd pl v ∧ WO nm wd pl ∧ ∀ H', Same H H' → Q (.int (allSq nm wd pl : Int)) H'
theorem ok_all_squares (M : Fx K mg cT cC) (F : Fn K mg "_law_all_squares" s__law_all_squares) (c__law_twos : Cal P w K mg base 2 "_law_twos" (spPairs K) []) : Cal P w K mg base 3 "_law_all_squares" (spAllSq K) [] := by
  refine F.cal sc__law_all_squares (fun _ _ F => FunD.bindsN F fun _ _ _ _ _ _ us hl => match us, hl with | [_], _ => rfl) (fun vs H Q E h => by obtain ⟨_, _, _, _, rfl, _⟩ := h; rfl) (fun f cdv A outer st H vs Q E hr h => ⟨_, PSs.nox ((pss_cons (ps_asg (pe_tup (pa_cons (pe_callTy (call_dictP2 (K := K) rfl rfl hr.units) (by rfl) M.dict (by decide +kernel) (pa_cons (pe_lc rfl sc__law_all_squares.nd (pi_listQ (K := K) rfl (pe_ix (ixL (K := K) rfl) (pv 0) pe_int (fun _ _ => rfl))) (blkOk_by (N := ["_law_world", "_law_net", "_law_found", "_law_one", "_law_late", "_law_both", "_law_place", "_law_club"]) (sc := defScope s__law_all_squares) (own := [("_law_place", 6)]) (by decide +kernel)) (fun _ _ _ _ _ => (pg_name (i := 6) sc__law_all_squares.nd rfl (Or.inl rfl))) (fun _ _ _ _ _ => pts_nil) (fun _ _ _ _ _ => (pe_tup (pa_cons (pv 6) (pa_cons pe_bl pa_nil))))) pa_nil)) (pa_cons pe_int pa_nil))) (pg_tupQ (K := K) (n := 2) rfl rfl (pgs_cons (pg_name (i := 1) sc__law_all_squares.nd rfl (Or.inr rfl)) (pgs_cons (pg_name (i := 2) sc__law_all_squares.nd rfl (Or.inl rfl)) pgs_nil))))
  (pss_cons (ps_for PassesOwn.never rfl (pi_listQ (K := K) rfl (pe_c c__law_twos hr (by first | decide | omega) (by rfl) (pa_cons (pe_ix (ixL (K := K) rfl) (pv 0) pe_int (fun _ _ => rfl)) pa_nil))) (pg_tupQ (K := K) (n := 2) rfl rfl (pgs_cons (pg_name (i := 3) sc__law_all_squares.nd rfl (Or.inr rfl)) (pgs_cons (pg_name (i := 4) sc__law_all_squares.nd rfl (Or.inr rfl)) pgs_nil))) (pss_cons (ps_setLc (i := 5) rfl sc__law_all_squares.nd rfl rfl (sw_true rfl rfl rfl (by decide +kernel)) (pi_listQ (K := K) rfl (pe_ix (ixL (K := K) rfl) (pv 0) pe_int (fun _ _ => rfl))) (blkOk_by (N := ["_law_world", "_law_net", "_law_found", "_law_one", "_law_late", "_law_both", "_law_place", "_law_club"]) (sc := defScope s__law_all_squares) (own := [("_law_club", 7)]) (by decide +kernel)) (fun _ _ _ _ _ => (pg_name (i := 7) sc__law_all_squares.nd rfl (Or.inl rfl))) (fun _ _ _ _ _ => (pts_one (PW.pt (pw_and (pt_cmp (pc_din (hu_of hr) (pe_tup (pa_cons (pv 3) (pa_cons (pv 7) pa_nil))) (pv 1))) (pw_and1 (pt_cmp (pc_din (hu_of hr) (pe_tup (pa_cons (pv 4) (pa_cons (pv 7) pa_nil))) (pv 1)))))))) (fun _ _ _ _ _ => (pv 7)))
  (pss_one (ps_set (i := 2) sc__law_all_squares.nd rfl (Or.inl rfl) (pe_op op_add (pv 2) (pe_op op_fdiv (pe_op op_mul (pe_callB (lenQ (K := K) rfl) (by rfl) M.len boot_len (pa_cons (pv 5) pa_nil)) (pe_op op_sub (pe_callB (lenQ (K := K) rfl) (by rfl) M.len boot_len (pa_cons (pv 5) pa_nil)) pe_int)) pe_int))))))
  (pss_one (ps_ret (pv 2)))))), ?_⟩)
  obtain ⟨v, nm, wd, pl, rfl, hw, wo, q⟩ := h
  obtain ⟨h, l0, l1, l2, xs, rfl, r, r0, r1, r2, hx⟩ := id hw
  have r2 := r2.rl
  have l25 := wo.l25
  refine net_read (s := 6) (by show (6 : Nat) < 8; decide) rfl r rfl r2 hx wo.nd (by omega) fun d H1 s1 ed => ?_
  refine ⟨(by decide : (2 : Nat) ≤ sizeLine), fun t ht => ?_⟩
  have s2 := s1.new (o := .tup [.ref d, .int 0]) ht
  have ed2 := (SB.same (S := [])).new (o := .tup [.ref d, .int 0]) ht _ _ (by simp) ed
  refine ⟨t, _, rfl, SqT.of upd_same, rfl, _, _, rfl, _, _, rfl, rfl, ?_⟩
  refine ⟨_, rfl, h, _, 0, _, rfl, rfl, (r.sb s2).sq, atI_nat (j := 0) rfl, _, nm, rfl, ⟨l0, rfl, r0.sb s2⟩, by have := wo.n2; omega, fun lt ts H3 s3 nl el hts => ?_⟩
  have u3 := s2.trans (SB.of s3)
  have ed3 := s3 _ _ ed2
  refine ⟨lt, rfl, ⟨_, SqL.of el⟩, ?_⟩
  refine for_list (xs := ts) (fun i σ G => σ.length = 8 ∧ σ[0]? = some (some (.ref h)) ∧ σ[1]? = some (some (.ref d)) ∧ SB [] H3 G ∧ σ[2]? = some (some (.int ((((twosW nm nm.length).take i).map fun q => bothN wd pl q.1 q.2 * (bothN wd pl q.1 q.2 - 1) / 2).sum : Nat)))) ⟨rfl, rfl, rfl, SB.same, rfl⟩ (fun i σ G _ h => SqL.of (h.2.2.2.1 _ _ (by simp) el)) (fun i y σ G hy h => ?_) (fun σ G h => ?_)
  · obtain ⟨k0, k1, k2, s, k3⟩ := h
    obtain ⟨q0, hq0, t', rfl, _, et⟩ := Paired.at1 hts hy
    have u4 := u3.trans s
    refine ⟨t', _, rfl, SqT.of (s _ _ (by simp) et), rfl, _, _, rfl, _, _, rfl, rfl, ?_⟩
    generalize eσ : (σ.set 3 (some (V.str q0.1))).set 4 (some (V.str q0.2)) = τ
    have t0 : τ.length = 8 := by rw [← eσ, List.length_set, List.length_set]; exact k0
    have t1 : τ[0]? = some (some (.ref h)) := by rw [← eσ, List.getElem?_set_ne (by decide), List.getElem?_set_ne (by decide)]; exact k1
    have t2 : τ[1]? = some (some (.ref d)) := by rw [← eσ, List.getElem?_set_ne (by decide), List.getElem?_set_ne (by decide)]; exact k2
    have t3 := (show τ[2]? = σ[2]? from by rw [← eσ, List.getElem?_set_ne (by decide), List.getElem?_set_ne (by decide)]).trans k3
    have t4 : τ[3]? = some (some (.str q0.1)) := by rw [← eσ, List.getElem?_set_ne (by decide), List.getElem?_set_self (by omega)]
    have t5 : τ[4]? = some (some (.str q0.2)) := by rw [← eσ, List.getElem?_set_self (by rw [List.length_set]; omega)]
    have ed4 := s _ _ (by simp) ed3
    refine ⟨_, t1, h, _, 1, _, rfl, rfl, (r.sb u4).sq, atI_nat (j := 1) rfl, l1, rfl, ⟨_, (r1.sb u4).sq⟩, fun D hD => ?_⟩
    refine lcR (S := []) (r1.sb u4) hD (fun k acc _ => acc.length = bothN (wd.take k) pl q0.1 q0.2) rfl (fun k z acc G2 hzi s2 e2 hl2 hA2 => ?_) (fun G2 acc s2 e2 hl2 hA2 => ?_)
    · rw [List.getElem?_map] at hzi
      obtain ⟨c, hc, rfl⟩ := Option.map_eq_some_iff.mp hzi
      have hi := (List.getElem?_eq_some_iff.mp hc).1
      have d2 := wo.d2
      have st : bothN (wd.take (k + 1)) pl q0.1 q0.2 = if (decide ((q0.1, c) ∈ pl) && decide ((q0.2, c) ∈ pl)) = true then bothN (wd.take k) pl q0.1 q0.2 + 1 else bothN (wd.take k) pl q0.1 q0.2 := by
        unfold bothN
        rw [List.take_add_one, hc]
        show ((wd.take k ++ [c]).filter _).length = _
        rw [filter_snoc]
        split <;> simp
      have ed5 := s2 _ _ (by simp) ed4
      refine ⟨wipe1, _, (w1_o (by decide)).trans t4, _, w1_a (i := 7) (by omega), (by decide : (2 : Nat) ≤ sizeLine), fun ta hta => ?_⟩
      have s3 := s2.new (o := .tup [.str q0.1, .str c]) hta
      have y3 := (SB.same (S := [])).new (o := .tup [.str q0.1, .str c]) hta
      refine ⟨_, (w1_o (by decide)).trans t2, d, valV (pl.map fun q => (kP q, V.bl true)) (kP (q0.1, c)), rfl, DGet.t (k := kP (q0.1, c)) (y3 _ _ (by simp) ed5) upd_same, _, rfl, ?_⟩
      rw [val_pairs]
      have e3 := y3 _ _ (by simp) e2
      refine ifB (fun hd1 => ?_) (fun hd1 => ifN rfl (Pc.skip hl2 s3 e3 (by rw [st, if_neg (by rw [hd1]; simp)]; exact hA2)))
      refine ⟨_, (w1_o (by decide)).trans t5, _, w1_a (i := 7) (by omega), (by decide : (2 : Nat) ≤ sizeLine), fun tb htb => ?_⟩
      have s4 := s3.new (o := .tup [.str q0.2, .str c]) htb
      have y4 := y3.new (o := .tup [.str q0.2, .str c]) htb
      refine ⟨_, (w1_o (by decide)).trans t2, d, valV (pl.map fun q => (kP q, V.bl true)) (kP (q0.2, c)), rfl, DGet.t (k := kP (q0.2, c)) (y4 _ _ (by simp) ed5) upd_same, _, rfl, ?_⟩
      rw [val_pairs]
      have e4 := y4 _ _ (by simp) e2
      refine ifB (fun hd2 => ?_) (fun hd2 => Pc.skip hl2 s4 e4 (by rw [st, if_neg (by rw [hd2]; simp)]; exact hA2))
      exact ⟨_, w1_a (i := 7) (by omega), Pc.put (n := 60) hD (by omega) (by decide) hl2 s4 e4 (by rw [st, if_pos (by rw [hd1, hd2]; rfl), List.length_append, hA2] <;> rfl)⟩
    · rw [List.length_map, List.take_length] at hA2
      have d2 := wo.d2
      rw [List.length_map] at hl2
      have m2 : (τ.set 5 (some (V.ref D)))[2]? = τ[2]? := List.getElem?_set_ne (by decide)
      have m5 : (τ.set 5 (some (V.ref D)))[5]? = some (some (V.ref D)) := List.getElem?_set_self (by omega)
      refine ⟨_, m2.trans t3, _, m5, _, _, rfl, .inl (SqL.of e2), _, m5, _, _, rfl, .inl (SqL.of e2), _, _, rfl, rfl, _, _, rfl, rfl, .inl ⟨by omega, by omega⟩, _, _, rfl, rfl, ⟨by decide, by decide⟩, _, _, rfl, rfl, ?_⟩
      refine ⟨by rw [List.length_set, List.length_set]; exact t0, by rw [List.getElem?_set_ne (by decide), List.getElem?_set_ne (by decide)]; exact t1, by rw [List.getElem?_set_ne (by decide), List.getElem?_set_ne (by decide)]; exact t2, s.trans s2, ?_⟩
      rw [List.getElem?_set_self (by rw [List.length_set]; omega), hA2, half_cast, List.take_add_one, hq0, List.map_append, List.sum_append]
      simp
  · obtain ⟨k0, k1, k2, s, k3⟩ := h
    rw [hts.len, List.take_length] at k3
    exact ⟨_, k3, q G (SB.nil (u3.trans s))⟩
end
end K77
namespace K77
open PySem PySem.Spec PyProof.Rows C8 Ef
open L2 hiding E0 CX0 pass0 Fun
/-! ### squares by twos of people -/
section
theorem sumR_mul (c : Nat) (f : Nat → Nat) : ∀ n, sumR n (fun x => c * f x) = c * sumR n f
  | 0 => rfl
  | n + 1 => by rw [sumR_succ, sumR_succ, sumR_mul c f n, Nat.mul_add]
/-- the twos of a set of places -/
theorem twos_sum (m : Nat) (g : Nat → Bool) : (sumR m fun j => sumR m fun d => (!decide (d = j) && (g j && g d)).toNat) = (sumR m fun j => (g j).toNat) * ((sumR m fun j => (g j).toNat) - 1) := by
  have one : ∀ j, j < m → (sumR m fun d => (!decide (d = j) && (g j && g d)).toNat) = (g j).toNat * ((sumR m fun j => (g j).toNat) - 1) := fun j hj => by
    have sp := sumR_split hj (fun d => (g d).toNat)
    cases hg : g j with
    | false =>
      rw [sumR_congr (g := fun _ => 0) (fun d _ => by simp), sumR_zero]
      simp
    | true =>
      rw [hg] at sp
      have e : (sumR m fun d => (!decide (d = j) && (true && g d)).toNat) = sumR m fun x => if x = j then 0 else (g x).toNat := sumR_congr fun d _ => by
        by_cases z : d = j
        · simp [z]
        · simp [z]
      rw [e, sp]
      simp
  rw [sumR_congr (g := fun j => ((sumR m fun j => (g j).toNat) - 1) * (g j).toNat) (fun j hj => by rw [one j hj, Nat.mul_comm]), sumR_mul, Nat.mul_comm]
/-- unlike twos, each told twice -/
theorem sym_sum (n : Nat) (T : Nat → Nat → Nat) (sy : ∀ i a, T i a = T a i) : (sumR n fun i => sumR n fun a => if a = i then 0 else T i a) = 2 * sumR n fun i => sumR n fun a => if i < a then T i a else 0 := by
  have e : (sumR n fun i => sumR n fun a => if a = i then 0 else T i a) = (sumR n fun i => sumR n fun a => if i < a then T i a else 0) + sumR n fun i => sumR n fun a => if a < i then T i a else 0 := by
    rw [← sumR_add]
    refine sumR_congr fun i _ => ?_
    rw [← sumR_add]
    refine sumR_congr fun a _ => ?_
    rcases Nat.lt_trichotomy i a with c | c | c
    · rw [if_neg (by omega), if_pos c, if_neg (by omega)] <;> rfl
    · rw [if_pos c.symm, if_neg (by omega), if_neg (by omega)]
    · rw [if_neg (by omega), if_neg (by omega), if_pos c, Nat.zero_add]
  have e2 : (sumR n fun i => sumR n fun a => if a < i then T i a else 0) = sumR n fun i => sumR n fun a => if i < a then T i a else 0 := by
    rw [sumR_swap]
    exact sumR_congr fun i _ => sumR_congr fun a _ => by rw [sy]
  rw [e, e2]
  omega
/-- the clubs of two people, by indices -/
def bothI (m : Nat) (f : Nat → Nat → Bool) (i a : Nat) : Nat := sumR m fun j => (f i j && f a j).toNat
theorem SI_twos (n m : Nat) (f : Nat → Nat → Bool) : SI n m f = 2 * sumR n fun i => sumR n fun a => if i < a then bothI m f i a * (bothI m f i a - 1) else 0 := by
  rw [← sym_sum n (fun i a => bothI m f i a * (bothI m f i a - 1)) (fun i a => by
    have : bothI m f i a = bothI m f a i := sumR_congr fun j _ => by rw [Bool.and_comm]
    rw [this])]
  unfold SI
  refine sumR_congr fun i _ => ?_
  have e : (sumR m fun j => if f i j = true then thrI n m f i j else 0) = sumR n fun a => sumR m fun j => if f i j = true then (sumR m fun d => (!decide (a = i) && (!decide (d = j) && (f a j && (f i d && f a d)))).toNat) else 0 := by
    rw [← sumR_swap]
    refine sumR_congr fun j _ => ?_
    unfold thrI
    by_cases c : f i j = true
    · rw [if_pos c]
      exact sumR_congr fun a _ => (if_pos c).symm
    · rw [if_neg c, sumR_congr (g := fun _ => 0) (fun a _ => if_neg c), sumR_zero]
  rw [e]
  refine sumR_congr fun a _ => ?_
  by_cases c : a = i
  · rw [if_pos c, sumR_congr (g := fun _ => 0) (fun j _ => ?_), sumR_zero]
    split
    · rw [sumR_congr (g := fun _ => 0) (fun d _ => by simp [c]), sumR_zero]
    · rfl
  · rw [if_neg c]
    have t := twos_sum m (fun j => f i j && f a j)
    unfold bothI
    rw [← t]
    refine sumR_congr fun j _ => ?_
    by_cases h : f i j = true
    · rw [if_pos h]
      refine sumR_congr fun d _ => ?_
      simp only [h, c, decide_false, Bool.not_false, Bool.true_and]
    · rw [if_neg h]
      have h : f i j = false := by simpa using h
      rw [sumR_congr (g := fun _ => 0) (fun d _ => by simp [h]), sumR_zero]
theorem sum_flat {α : Type} (f : α → List Nat) : ∀ l : List α, (l.flatMap f).sum = (l.map fun x => (f x).sum).sum
  | [] => rfl
  | x :: l => by rw [List.flatMap_cons, List.sum_append, sum_flat f l, List.map_cons, List.sum_cons]
theorem sum_drop (nm : List Str) (g : Str → Nat) {i : Nat} (hi : i < nm.length) : (((nm.drop (i + 1)).map g).sum) = sumR nm.length fun a => if i < a then g (nm.getD a ⟨#[]⟩) else 0 := by
  have key : ∀ (l : List Str) (k : Nat), ((l.drop k).map g).sum = sumR l.length fun a => if k ≤ a then g (l.getD a ⟨#[]⟩) else 0 := by
    intro l
    induction l with
    | nil => intro k; simp [sumR]
    | cons x l ih =>
      intro k
      have sh : ∀ h : Nat → Nat, sumR (l.length + 1) h = h 0 + sumR l.length fun a => h (a + 1) := fun h => by
        unfold sumR
        rw [List.range_succ_eq_map, List.map_cons, List.sum_cons, List.map_map]
        rfl
      rw [List.length_cons, sh]
      cases k with
      | zero =>
        rw [List.drop_zero, List.map_cons, List.sum_cons]
        have := ih 0
        rw [List.drop_zero] at this
        rw [this]
        simp
      | succ k =>
        rw [List.drop_succ_cons, ih k]
        simp
  rw [key nm (i + 1)]
  exact sumR_congr fun a _ => by simp [Nat.succ_le_iff]
theorem both_I {nm wd : List Str} {pl : List (Str × Str)} (i a : Nat) : bothN wd pl (nm.getD i ⟨#[]⟩) (nm.getD a ⟨#[]⟩) = bothI wd.length (fI nm wd pl) i a := by
  unfold bothN bothI
  rw [len_filter]
  conv => lhs; rw [range_map wd ⟨#[]⟩, List.map_map]
  rfl
theorem allSq_I {nm wd : List Str} {pl : List (Str × Str)} : SI nm.length wd.length (fI nm wd pl) = 4 * allSq nm wd pl := by
  rw [SI_twos]
  have e : allSq nm wd pl = sumR nm.length fun i => sumR nm.length fun a => if i < a then bothI wd.length (fI nm wd pl) i a * (bothI wd.length (fI nm wd pl) i a - 1) / 2 else 0 := by
    unfold allSq twosW
    rw [List.map_flatMap, sum_flat]
    refine sumR_congr fun i hi => ?_
    rw [List.map_map, show ((fun q : Str × Str => bothN wd pl q.1 q.2 * (bothN wd pl q.1 q.2 - 1) / 2) ∘ fun b => (nm.getD i ⟨#[]⟩, b)) = fun b => bothN wd pl (nm.getD i ⟨#[]⟩) b * (bothN wd pl (nm.getD i ⟨#[]⟩) b - 1) / 2 from rfl, sum_drop nm _ hi]
    refine sumR_congr fun a _ => ?_
    rw [both_I]
  have half : ∀ b : Nat, b * (b - 1) = 2 * (b * (b - 1) / 2) := fun b => by
    cases b with
    | zero => rfl
    | succ n =>
      have : (n + 1) * n % 2 = 0 := by
        rcases Nat.mod_two_eq_zero_or_one n with h | h <;> simp [Nat.mul_mod, Nat.add_mod, h]
      rw [Nat.add_sub_cancel]
      omega
  rw [e, show (4 : Nat) = 2 * 2 from rfl, Nat.mul_assoc]
  refine congrArg (2 * ·) ?_
  rw [← sumR_mul]
  refine sumR_congr fun i _ => ?_
  rw [← sumR_mul]
  refine sumR_congr fun a _ => ?_
  split
  · exact half _
  · rfl
/-- the package's squares are the law's -/
theorem squares_all {nm wd : List Str} {pl : List (Str × Str)} : squaresN (gridOf nm wd pl) nm.length wd.length / 4 = allSq nm wd pl := by
  rw [sqN_I, allSq_I]
  omega
theorem allSq_shift {nm wd : List Str} {pl : List (Str × Str)} {q : Str × Str} (h : WO nm wd pl) (hq : q ∈ freeP nm wd pl) : allSq nm wd (shiftP pl q) % 2 = allSq nm wd pl % 2 := by
  obtain ⟨i, j, rfl, hi, hj, ev⟩ := free_mem h hq
  have := SI_par nm.length wd.length (fI nm wd pl) hi hj ev
  rw [← fI_shift h hi hj, allSq_I, allSq_I] at this
  omega
end
end K77
namespace K77
open PySem PySem.Spec PyProof.Rows C8 Ef
open L2 hiding E0 CX0 pass0 Fun
section
variable {P : Program} {w : World} {K : PySem.W.Frag} {mg : Str → Option Value} {base : Heap} {cT cC : Addr}
theorem beh_wo {nm wd : List Str} : ∀ {l : List It} {pl pl' : List (Str × Str)}, WO nm wd pl → behW nm wd pl l = some pl' → WO nm wd pl'
  | [], pl, pl', h, e => by cases e; exact h
  | .inl q :: l, pl, pl', h, e => by
    by_cases hq : q ∈ freeP nm wd pl
    · exact beh_wo (h.shift (free_prod hq)) ((if_pos hq).symm.trans e)
    · exact nomatch (if_neg hq).symm.trans e
  | .inr d :: l, pl, pl', h, e => nomatch e
theorem beh_app {nm wd : List Str} {m : List It} : ∀ {l : List It} {pl pl1 : List (Str × Str)}, behW nm wd pl l = some pl1 → behW nm wd pl (l ++ m) = behW nm wd pl1 m
  | [], pl, pl1, e => by cases e; rfl
  | .inl q :: l, pl, pl1, e => by
    by_cases hq : q ∈ freeP nm wd pl
    · have e := (if_pos hq).symm.trans e
      exact (if_pos hq).trans (beh_app e)
    · exact nomatch (if_neg hq).symm.trans e
  | .inr d :: l, pl, pl1, e => nomatch e
theorem beh_snoc {nm wd : List Str} {l : List It} {pl pl1 : List (Str × Str)} {q : Str × Str} (h : behW nm wd pl l = some pl1) (hq : q ∈ freeP nm wd pl1) : behW nm wd pl (l ++ [.inl q]) = some (shiftP pl1 q) := by
  rw [beh_app h]
  exact if_pos hq
def spWalkR (K : PySem.W.Frag) : Sp := fun vs H Q _ => ∃ (p : Addr) (n : Nat) (v : V) (nm wd : List Str) (pl : List (Str × Str)), vs = [.ref p, v, .int 12] ∧ Pu H p (n + 20) ∧ W3 K [p] H nm wd pl v ∧ WO nm wd pl ∧
  ∀ (l rd : Addr) (v' : V) (pl' qs : List (Str × Str)) (ys : List V) H', H l = none → H' l = some (.lst [v', .ref rd]) → W3 K [p] H' nm wd pl' v' → behW nm wd pl (qs.map Sum.inl) = some pl' → H rd = none → H' rd = some (.lst ys) → P2s K [p] H' qs ys → qs.length ≤ 12 → SB [p] H H' → Pu H' p n → Q (.ref l) H'
theorem ok_walkR (M : Fx K mg cT cC) (F : Fn K mg "_law_walked_table" s__law_walked_table) (c__law_draw : Cal P w K mg base 2 "_law_draw" spDraw []) (c__law_one_of : Cal P w K mg base 3 "_law_one_of" (spOneOf K) []) (c__law_free_places : Cal P w K mg base 2 "_law_free_places" (spFree K) []) (c__law_shifted : Cal P w K mg base 1 "_law_shifted" (spShift K) []) :
    Cal P w K mg base 4 "_law_walked_table" (spWalkR K) [] := by
  refine F.cal sc__law_walked_table (fun _ _ F => FunD.bindsN F fun _ _ _ _ _ _ us hl => match us, hl with | [_, _, _], _ => rfl) (fun vs H Q E h => by obtain ⟨_, _, _, _, _, _, rfl, _⟩ := h; rfl) (fun f cdv A outer st H vs Q E hr h => ⟨_, PSs.nox ((pss_cons (ps_set (i := 3) sc__law_walked_table.nd rfl (Or.inl rfl) (pe_lst pa_nil))
  (pss_cons (ps_for PassesOwn.never rfl (pi_range1 (by rfl) M.range (pa_cons (pe_c c__law_draw hr (by first | decide | omega) (by rfl) (pa_cons (pv 0) (pa_cons (pe_op op_add (pv 2) pe_int) pa_nil))) pa_nil)) (pg_name (i := 4) sc__law_walked_table.nd rfl (Or.inl rfl)) (pss_cons (ps_set (i := 5) sc__law_walked_table.nd rfl (Or.inl rfl) (pe_c c__law_free_places hr (by first | decide | omega) (by rfl) (pa_cons (pv 1) pa_nil)))
  (pss_one (ps_if (pt_cmpR (neDQ (K := K) rfl hr.units) (pv 5) (pe_lst pa_nil) (nomark _)) (pss_cons (ps_expr (pe_bm PySem.F.plainAttrs_list PySem.F.slot_list_append PySem.F.type_list_append mt_append (pv 3) (pa_cons (pe_c c__law_one_of hr (by first | decide | omega) (by rfl) (pa_cons (pv 0) (pa_cons (pv 5) pa_nil))) pa_nil)))
  (pss_one (ps_set (i := 1) sc__law_walked_table.nd rfl (Or.inl rfl) (pe_c c__law_shifted hr (by first | decide | omega) (by rfl) (pa_cons (pv 1) (pa_cons (pe_ix (ixL (K := K) rfl) (pv 3) (pe_un un_neg pe_int) (fun _ _ => rfl)) pa_nil)))))) pss_nil))))
  (pss_one (ps_ret (pe_lst (pa_cons (pv 1) (pa_cons (pv 3) pa_nil)))))))), ?_⟩)
  obtain ⟨p, n, v, nm, wd, pl, rfl, hp, hw, wo, q⟩ := h
  refine ⟨(by decide : (0 : Nat) ≤ sizeLine), fun rd hrd => ?_⟩
  have npr : p ≠ rd := hp.ne hrd
  have u0 : SB [p] H (upd H rd (.lst [])) := SB.same.new hrd
  have u0' : SB [rd, p] H (upd H rd (.lst [])) := SB.same.new hrd
  refine ⟨_, rfl, _, rfl, _, _, rfl, rfl, p, n + 19, 13, rfl, (hp.new hrd).less (by omega), by decide, by decide, fun r H1 r1 r2 sb1 pu1 => ?_⟩
  obtain ⟨k, rfl⟩ : ∃ j : Nat, r = (j : Int) := ⟨r.toNat, by omega⟩
  refine ⟨_, rfl, by omega, by omega, ?_⟩
  rw [Int.toNat_natCast]
  refine for_range (lo := 0) (n := k) (fun i σ G => σ.length = 6 ∧ σ[0]? = some (some (.ref p)) ∧ (∃ v' pl' qs ys, σ[1]? = some (some v') ∧ W3 K [rd, p] G nm wd pl' v' ∧ behW nm wd pl (qs.map Sum.inl) = some pl' ∧ G rd = some (.lst ys) ∧ P2s K [rd, p] G qs ys ∧ qs.length ≤ i) ∧ σ[3]? = some (some (.ref rd)) ∧ SB [p] H G ∧ Pu G p (n + (18 - i))) ?_ (fun i σ G hi h => ?_) (fun σ G h => ?_)
  · exact ⟨rfl, rfl, ⟨v, pl, [], [], rfl, ((hw.more hrd).sb u0').sb (sb1.wide (by simp)), rfl, sb1 _ _ (by simp [Ne.symm npr]) upd_same, .nil, Nat.zero_le _⟩, rfl, u0.trans sb1, pu1.less (by omega)⟩
  · obtain ⟨k0, k1, ⟨v', pl', qs, ys, k2, w', rch, ey, hqs, lq⟩, k3, s, pu⟩ := h
    have wo' := beh_wo wo rch
    have ly : ys.length ≤ i := by rw [hqs.len]; exact lq
    have n2 := wo'.n2
    have d2 := wo'.d2
    have l25 := wo'.l25
    have j0 : (σ.set 4 (some (V.int (0 + (i : Int))))).length = 6 := by rw [List.length_set]; exact k0
    have j1 : (σ.set 4 (some (V.int (0 + (i : Int)))))[0]? = some (some (.ref p)) := by rw [List.getElem?_set_ne (by decide)]; exact k1
    have j2 : (σ.set 4 (some (V.int (0 + (i : Int)))))[1]? = some (some v') := by rw [List.getElem?_set_ne (by decide)]; exact k2
    have j3 : (σ.set 4 (some (V.int (0 + (i : Int)))))[3]? = some (some (.ref rd)) := by rw [List.getElem?_set_ne (by decide)]; exact k3
    refine ⟨_, j2, _, nm, wd, pl', rfl, w'.less (by simp), wo'.nd, by omega, by omega, by omega, fun lf fs G1 s1 nlf elf hfs => ?_⟩
    have y1 : SB [] G G1 := SB.of s1
    refine ⟨_, by rw [List.getElem?_set_self (by rw [j0]; decide)], (by decide : (0 : Nat) ≤ sizeLine), fun le hle => ?_⟩
    have y2 : SB [] G1 (upd G1 le (.lst [])) := SB.same.new hle
    have y12 := y1.trans y2
    have elf2 := y2 _ _ (by simp) elf
    refine ⟨dP (freeP nm wd pl'), .list [], lp_dp (RL.at (S := []) elf2 (by simp)) (hfs.sb y2), Rp.dp (S := []) ⟨le, [], rfl, RL.at upd_same (by simp), rfl⟩, shaped_ps (free_tw wo'.tw), shaped_ps (qs := []) (by simp), _, rfl, ?_⟩
    rw [eqv_nil]
    have w2 := w'.sb (y12.wide (T := [rd, p]) (by simp))
    have pu2 := pu.sb y12 (by simp)
    have ey2 := y12 _ _ (by simp) ey
    have s2 := s.trans (y12.wide (T := [p]) (by simp))
    refine ifB (fun hb => ?_) (fun hb => ?_)
    · have hb : (!decide (freeP nm wd pl' = [])) = true := hb
      have fne : freeP nm wd pl' ≠ [] := by simpa using hb
      have lfp : lf ≠ p := fun z => pu.dom p (by simp) (z ▸ nlf)
      have l1 : 1 ≤ fs.length := by rw [hfs.len]; exact List.length_pos_iff.mpr fne
      have l2 : fs.length ≤ 25 := by
        rw [hfs.len]
        refine Nat.le_trans (List.length_filter_le _ _) ?_
        rw [prod_len]
        exact Nat.mul_le_mul n2 d2
      have m0 : ((σ.set 4 (some (V.int (0 + (i : Int))))).set 5 (some (.ref lf))).length = 6 := by rw [List.length_set]; exact j0
      have m1 : ((σ.set 4 (some (V.int (0 + (i : Int))))).set 5 (some (.ref lf)))[0]? = some (some (.ref p)) := by rw [List.getElem?_set_ne (by decide)]; exact j1
      have m2 : ((σ.set 4 (some (V.int (0 + (i : Int))))).set 5 (some (.ref lf)))[1]? = some (some v') := by rw [List.getElem?_set_ne (by decide)]; exact j2
      have m3 : ((σ.set 4 (some (V.int (0 + (i : Int))))).set 5 (some (.ref lf)))[3]? = some (some (.ref rd)) := by rw [List.getElem?_set_ne (by decide)]; exact j3
      have m5 : ((σ.set 4 (some (V.int (0 + (i : Int))))).set 5 (some (.ref lf)))[5]? = some (some (.ref lf)) := by rw [List.getElem?_set_self (by rw [j0]; decide)]
      refine ⟨_, m3, .inl ⟨rfl, _, SqL.of ey2⟩, ?_⟩
      refine ⟨_, m1, _, m5, p, lf, n + (18 - (i + 1)), fs, rfl, pu2.less (by omega), RL.at elf2 (by simp [lfp]), l1, by omega, fun j y G3 hj sb3 pu3 => ?_⟩
      obtain ⟨qy, hqy, py⟩ := Paired.at1 hfs hj
      have qin : qy ∈ freeP nm wd pl' := List.mem_of_getElem? hqy
      have ey3 := sb3 _ _ (by simp [Ne.symm npr]) ey2
      have sb3' : SB [rd, p] _ G3 := sb3.wide (by simp)
      refine ⟨rd, ys, _, rfl, rfl, ey3, by have := sizeLine_eq; omega, ?_⟩
      have put3 : SB [rd, p] G3 (upd G3 rd (.lst (ys ++ [y]))) := SB.same.put (by simp)
      have w4 := (w2.sb sb3').sb put3
      have lists : ∀ b ∈ [rd, p], ∃ zs, G1 b = some (.lst zs) := fun b hb => by
        simp only [List.mem_cons, List.not_mem_nil, or_false] at hb
        rcases hb with rfl | rfl
        · exact ⟨_, y1 _ _ (by simp) ey⟩
        · obtain ⟨_, _, _, _, e, _⟩ := pu.sb y1 (by simp)
          exact ⟨_, e⟩
      have py1 : P2 K [rd, p] G1 qy y := by
        obtain ⟨q', hq', hp'⟩ := Paired.at1 (p2s_offl hfs lists) hj
        rw [hqy] at hq'
        cases hq'
        exact hp'
      have py4 := ((py1.sb (y2.wide (T := [rd, p]) (by simp))).sb sb3').sb put3
      have s4 : SB [p] H (upd G3 rd (.lst (ys ++ [y]))) := (s2.trans sb3).mut hrd
      have pu4 : Pu (upd G3 rd (.lst (ys ++ [y]))) p (n + (18 - (i + 1))) := pu3.other npr
      have dom4 : Dom [rd, p] (upd G3 rd (.lst (ys ++ [y]))) := fun b hb => by
        simp only [List.mem_cons, List.not_mem_nil, or_false] at hb
        rcases hb with rfl | rfl
        · rw [upd_same]; exact fun z => nomatch z
        · exact pu4.dom _ (by simp)
      refine ⟨_, m2, _, m3, _, rfl, rd, _, _, y, rfl, rfl, SqL.of upd_same, atI_last _ _, [rd, p], _, _, nm, wd, pl', qy, rfl, dom4, w4, py4, by omega, wo'.nd, wo'.tw.2.2, wo'.pok (free_prod qin), fun h' G5 s5 nh5 w5 => ?_⟩
      have y5 : ∀ {T : List Addr}, SB T _ G5 := fun {T} => SB.of s5
      refine ⟨by rw [List.length_set]; exact m0, by rw [List.getElem?_set_ne (by decide)]; exact m1, ⟨_, shiftP pl' qy, qs ++ [qy], _, by rw [List.getElem?_set_self (by rw [m0]; decide)], w5, by rw [List.map_append]; exact beh_snoc rch qin, s5 _ _ upd_same, Paired.app ((((hqs.sb (y12.wide (by simp))).sb sb3').sb put3).sb y5) (.cons (py4.sb y5) .nil), by rw [List.length_append]; exact Nat.succ_le_succ lq⟩, by rw [List.getElem?_set_ne (by decide)]; exact m3, s4.trans y5, pu4.sb (y5 (T := [])) (by simp)⟩
    · refine ⟨by rw [List.length_set]; exact j0, by rw [List.getElem?_set_ne (by decide)]; exact j1, ⟨v', pl', qs, ys, by rw [List.getElem?_set_ne (by decide)]; exact j2, w2, rch, ey2, hqs.sb (y12.wide (by simp)), by omega⟩, by rw [List.getElem?_set_ne (by decide)]; exact j3, s2, pu2.less (by omega)⟩
  · obtain ⟨k0, k1, ⟨v', pl', qs, ys, k2, w', rch, ey, hqs, lq⟩, k3, s, pu⟩ := h
    refine ⟨_, k2, _, k3, (by decide : (2 : Nat) ≤ sizeLine), fun l hl => ?_⟩
    exact q l rd v' pl' qs ys _ (SB.free s hl (by simp; exact Ne.symm (pu.ne hl))) upd_same ((w'.less (T := [p]) (by simp)).sb (SB.same.new hl)) rch hrd (by rw [upd_ne (ne_of_none ey hl)]; exact ey) ((P2s.less hqs (by simp)).sb (SB.same.new hl)) (by omega) (s.new hl) ((pu.new hl).less (by omega))
end
end K77
namespace K77
open PySem PySem.Spec PyProof.Rows C8 Ef
open L2 hiding E0 CX0 pass0 Fun
/-! ### people and clubs exchanged -/
section
variable {nm wd : List Str} {pl : List (Str × Str)}
def swapP (q : Str × Str) : Str × Str := (q.2, q.1)
def turnP (pl : List (Str × Str)) : List (Str × Str) := (pl.map swapP).mergeSort leP
theorem mem_turn {q : Str × Str} : q ∈ turnP pl ↔ swapP q ∈ pl := by
  unfold turnP
  rw [(List.mergeSort_perm _ _).mem_iff, List.mem_map]
  constructor
  · rintro ⟨x, hx, rfl⟩
    exact hx
  · intro h
    exact ⟨swapP q, h, rfl⟩
theorem swap_nodup (h : pl.Nodup) : (pl.map swapP).Nodup := by
  unfold List.Nodup at h ⊢
  rw [List.pairwise_map]
  refine List.Pairwise.imp (fun {a b} ne e => ne ?_) h
  have e1 : a.2 = b.2 := congrArg Prod.fst e
  have e2 : a.1 = b.1 := congrArg Prod.snd e
  exact Prod.ext e2 e1
theorem turn_asc (h : AscP pl) : AscP (turnP pl) := asc_sortP (swap_nodup (ascP_nodup h))
theorem WO.turn (h : WO nm wd pl) : WO wd nm (turnP pl) :=
  { n := h.d, nk := h.dk, n1 := h.d1, n2 := h.d2, d := h.n, dk := h.nk, d1 := h.n1, d2 := h.n2, pa := turn_asc h.pa, pm := fun q hq => by
      have := mem_prod.mp (h.pm _ (mem_turn.mp hq))
      exact mem_prod.mpr ⟨this.2, this.1⟩ }
theorem thrI_turn (n m : Nat) (f : Nat → Nat → Bool) (i j : Nat) : thrI m n (fun a d => f d a) j i = thrI n m f i j := by
  unfold thrI
  rw [sumR_swap]
  refine sumR_congr fun a _ => sumR_congr fun d _ => ?_
  show (!decide (d = j) && (!decide (a = i) && (f i d && (f a j && f a d)))).toNat = (!decide (a = i) && (!decide (d = j) && (f a j && (f i d && f a d)))).toNat
  generalize f a j = x
  generalize f i d = y
  generalize f a d = z
  generalize decide (a = i) = u
  generalize decide (d = j) = v
  revert x y z u v
  decide
theorem SI_turn (n m : Nat) (f : Nat → Nat → Bool) : SI m n (fun a d => f d a) = SI n m f := by
  unfold SI
  rw [sumR_swap]
  exact sumR_congr fun i _ => sumR_congr fun j _ => by rw [thrI_turn]
theorem fI_turn (i j : Nat) : fI wd nm (turnP pl) j i = fI nm wd pl i j := by
  unfold fI
  exact decide_eq_decide.mpr mem_turn
theorem allSq_turn : allSq wd nm (turnP pl) = allSq nm wd pl := by
  have e := allSq_I (nm := wd) (wd := nm) (pl := turnP pl)
  have e2 := allSq_I (nm := nm) (wd := wd) (pl := pl)
  rw [show fI wd nm (turnP pl) = fun a d => fI nm wd pl d a from funext fun a => funext fun d => fI_turn d a, SI_turn, e2] at e
  omega
theorem asc_free (h : WO nm wd pl) : AscP (freeP nm wd pl) := List.Pairwise.filter _ (prod_asc h.n h.d)
theorem asc_eq {a b : List (Str × Str)} (ha : AscP a) (hb : AscP b) (e : ∀ q, q ∈ a ↔ q ∈ b) : a = b :=
  (sort_ascP (List.Perm.refl a) ha).symm.trans (sort_ascP ((List.perm_ext_iff_of_nodup (ascP_nodup ha) (ascP_nodup hb)).mpr e) hb)
theorem free_turn (h : WO nm wd pl) : freeP wd nm (turnP pl) = turnP (freeP nm wd pl) := by
  have ht := h.turn
  refine asc_eq (asc_free ht) (turn_asc (asc_free h)) fun q => ?_
  rw [mem_turn]
  constructor
  · intro hq
    obtain ⟨j, i, rfl, hj, hi, ev⟩ := free_mem ht hq
    have := mem_free h hi hj (by rw [← thrI_turn, ← show fI wd nm (turnP pl) = fun a d => fI nm wd pl d a from funext fun a => funext fun d => fI_turn d a]; exact ev)
    exact this
  · intro hq
    obtain ⟨i, j, e, hi, hj, ev⟩ := free_mem h hq
    have := mem_free ht hj hi (by rw [show fI wd nm (turnP pl) = fun a d => fI nm wd pl d a from funext fun a => funext fun d => fI_turn d a, thrI_turn]; exact ev)
    have e2 : q = nameAt wd nm (j, i) := by
      have := congrArg swapP e
      exact this
    rw [e2]
    exact this
end
end K77
namespace K77
open PySem PySem.Spec PyProof.Rows C8 Ef
open L2 hiding E0 CX0 pass0 Fun
section
variable {P : Program} {w : World} {K : PySem.W.Frag} {mg : Str → Option Value} {base : Heap} {cT cC : Addr}
theorem sc__law_refused_right : FnScope ["_law_table_here", "_law_world", "_law_value", "_law_caught", "error"] ["_law_table_here", "_law_world", "_law_value"] (defScope s__law_refused_right) := ⟨rfl, rfl, rfl, by decide +kernel, rfl, by decide +kernel, by decide +kernel⟩
/-- an object that is no road is refused with it -/
def spRefused (K : PySem.W.Frag) (cT : Addr) : Sp := fun vs H Q _ => ∃ (v y u : V) (nm wd : List Str) (pl : List (Str × Str)) (d : Vd), vs = [v, y, u] ∧ TableAt K cT [] H nm wd pl v ∧ W3 K [] H nm wd pl y ∧ WO nm wd pl ∧ VAt K H d u ∧ Dep 4 (vdD d) ∧ ∀ H', Same H H' → Q (.bl true) H'
theorem ok_refused {cR : Addr} (M : Fx K mg cT cC) (F : Fn K mg "_law_refused_right" s__law_refused_right) (x_InvalidRoad : SupIs P K mg "InvalidRoad" cR) (c_table_behind : CalX P w K mg base 8 "table_behind" (spTableBehind K cT cR)) (c__law_behind : Cal P w K mg base 3 "_law_behind" (spLawBehind K) [])
    (c__law_exact : Cal P w K mg base 5 "_law_exact" (spExact K 4) []) : Cal P w K mg base 9 "_law_refused_right" (spRefused K cT) [] := by
  refine F.cal sc__law_refused_right (fun _ _ F => FunD.bindsN F fun _ _ _ _ _ _ us hl => match us, hl with | [_, _, _], _ => rfl) (fun vs H Q E h => by obtain ⟨_, _, _, _, _, _, _, rfl, _⟩ := h; rfl) (fun f cdv A outer st H vs Q E hr h => ⟨_, PSs.nox ((pss_cons (ps_set (i := 3) sc__law_refused_right.nd rfl (Or.inl rfl) pe_non)
  (pss_cons (ps_try_keep (i := 4) rfl rfl sc__law_refused_right.nd rfl rfl ⟨by rfl, by decide, .inl x_InvalidRoad.at_.at_⟩ takes0 (fun W pn xe tk => (pss_one (ps_expr (pe_cX c_table_behind tk hr (by first | decide | omega) (by rfl) (pa_cons (pv 0) (pa_cons (pv 2) pa_nil)))))) (fun a pn => (pss_one (ps_set (i := 3) sc__law_refused_right.nd rfl (Or.inl rfl) (pv 4)))))
  (pss_cons (ps_if (pt_cmpR op_notN (pe_c c__law_behind hr (by first | decide | omega) (by rfl) (pa_cons (pv 1) (pa_cons (pv 2) pa_nil))) pe_non (nomark _)) (pss_one (ps_ret (pe_cmpR op_isN (pv 3) pe_non (nomark _)))) pss_nil)
  (pss_one (ps_ret (pe_and (pe_cmpR op_notN (pv 3) pe_non (nomark _)) (pe_one (pe_c c__law_exact hr (by first | decide | omega) (by rfl) (pa_cons (pe_xk (pv 3)) (pa_cons (pv 2) pa_nil))))))))))), ?_⟩)
  obtain ⟨v, y, u, nm, wd, pl, d, rfl, ht, hw, wo, hv, dep, k⟩ := h
  refine ⟨_, rfl, _, rfl, v, u, nm, wd, pl, d, rfl, ht, wo, hv, fun hb G x s nx => ?_, fun pl' hb x H1 s1 hx wo' => ?_⟩
  · refine ⟨true, x_InvalidRoad.me, fun _ a na => ?_, fun z => nomatch z⟩
    have u1 := (SB.of (S := []) s).new (o := .xd [("value", u)]) nx
    have u2 := u1.new (o := exk a (.ref cR) (some x)) na
    refine ⟨_, rfl, ?_⟩
    refine ⟨_, rfl, _, rfl, y, u, nm, wd, pl, d, rfl, hw.sb u2, wo, hv.sb u2, fun _ H2 s2 => ?_, fun pl' hb2 => absurd (hb.symm.trans hb2) (by simp)⟩
    have u3 := u2.trans (SB.of s2)
    refine ⟨rfl, _, rfl, ifN rfl ?_⟩
    refine ⟨_, rfl, rfl, _, rfl, ifT rfl ?_⟩
    have e1 := s2 _ _ (upd_same (H := upd G x (.xd [("value", u)])) (a := a) (o := exk a (.ref cR) (some x)))
    have e2 : H2 x = some (.xd [("value", u)]) := s2 _ _ (by rw [upd_ne (ne_of_none upd_same na)]; exact upd_same)
    refine ⟨_, rfl, a, cR, x, _, u, rfl, e1, e2, rfl, x_InvalidRoad.xf, x_InvalidRoad.no, ?_⟩
    exact ⟨_, rfl, vdD d, u, u, rfl, (hv.sb u3).rp, (hv.sb u3).rp, dep, fun H3 s3 => k H3 (SB.nil (u3.trans (SB.of s3)))⟩
  · have u1 := SB.of (S := []) s1
    refine ⟨_, rfl, _, rfl, y, u, nm, wd, pl, d, rfl, hw.sb u1, wo, hv.sb u1, fun hb2 => absurd (hb2.symm.trans hb) (by simp), fun pl2 _ z H2 s2 hz _ => ?_⟩
    obtain ⟨h, l0, l1, l2, xs, rfl, _⟩ := id hz
    refine ⟨rfl, _, rfl, ifT rfl ?_⟩
    refine ⟨_, rfl, rfl, ?_⟩
    exact k H2 (SB.nil (u1.trans (SB.of s2)))
end
end K77
namespace K77
open PySem PySem.Spec PyProof.Rows C8 Ef
open L2 hiding E0 CX0 pass0 Fun
section
variable {P : Program} {w : World} {K : PySem.W.Frag} {mg : Str → Option Value} {base : Heap} {cT cC : Addr}
theorem sc__law_long_right : FnScope ["_law_world", "_law_table_here", "_law_place", "_law_late", "_law_told"] ["_law_world", "_law_table_here"] (defScope s__law_long_right) := ⟨rfl, rfl, rfl, by decide +kernel, rfl, by decide +kernel, by decide +kernel⟩
/-- one let place, again and again -/
theorem beh_rep {nm wd : List Str} {pl : List (Str × Str)} {q : Str × Str} (h : WO nm wd pl) (hq : q ∈ freeP nm wd pl) : ∀ n, behW nm wd pl (List.replicate (2 * n) (Sum.inl q)) = some pl
  | 0 => rfl
  | n + 1 => by
    obtain ⟨h1, h2⟩ := shift_back h hq
    show behW nm wd pl (Sum.inl q :: Sum.inl q :: List.replicate (2 * n) (Sum.inl q)) = some pl
    refine (if_pos hq).trans ((if_pos h1).trans ?_)
    rw [h2]
    exact beh_rep h hq n
theorem beh_rep1 {nm wd : List Str} {pl : List (Str × Str)} {q : Str × Str} (h : WO nm wd pl) (hq : q ∈ freeP nm wd pl) (n : Nat) : behW nm wd pl (List.replicate (2 * n + 1) (Sum.inl q)) = some (shiftP pl q) := by
  rw [List.replicate_succ', beh_app (beh_rep h hq n)]
  exact if_pos hq
theorem shift_ne {pl : List (Str × Str)} {q : Str × Str} : shiftP pl q ≠ pl := fun e => by
  have : q ∈ shiftP pl q ↔ q ∉ pl := by rw [mem_shift, if_pos rfl]
  rw [e] at this
  by_cases h : q ∈ pl
  · exact this.mp h h
  · exact h (this.mpr h)
theorem rep_paired {H : Hp} {q : Str × Str} {y : V} (h : ItAt K H (.inl q) y) : ∀ n, Paired (ItAt K H) (List.replicate n (Sum.inl q)) (List.replicate n y)
  | 0 => .nil
  | n + 1 => .cons h (rep_paired h n)
theorem rep_flat (y : V) : ∀ n, (List.replicate n [y]).flatten = List.replicate n y
  | 0 => rfl
  | n + 1 => by rw [List.replicate_succ, List.flatten_cons, rep_flat y n] <;> rfl
/-- [place] * n -/
theorem rep_read {σ : L2.St} {H : Hp} {Q : VK} {i n : Nat} {q : Str × Str} {y : V} (e : σ[i]? = some (some y)) (h : ItAt K H (.inl q) y) (hn : n ≤ 1000)
    (k : ∀ l H', SB [] H H' → VAt K H' (.its (List.replicate n (Sum.inl q))) (.ref l) → Q (.ref l) H') : tOp rRep (tLst (tCons (tVar i) tNil)) (tC (.int (n : Int))) σ H Q := by
  refine ⟨_, e, (by decide : (1 : Nat) ≤ sizeLine), fun p hp => ?_⟩
  refine ⟨p, _, _, rfl, rfl, upd_same, by omega, by omega, by have := sizeLine_eq; simp; omega, fun l hl => ?_⟩
  have s := ((SB.same (S := [])).new (o := .lst [y]) hp).new (o := .lst (List.replicate (n : Int).toNat [y]).flatten) hl
  rw [rep_flat, Int.toNat_natCast] at s ⊢
  exact k l _ s ⟨l, _, rfl, upd_same, rep_paired (h.sb s) n⟩
def spLong (K : PySem.W.Frag) (cT : Addr) : Sp := fun vs H Q _ => ∃ (v y : V) (nm wd : List Str) (pl : List (Str × Str)), vs = [y, v] ∧ TableAt K cT [] H nm wd pl v ∧ W3 K [] H nm wd pl y ∧ WO nm wd pl ∧ ∀ H', Same H H' → Q (.bl true) H'
theorem ok_long {cR : Addr} (M : Fx K mg cT cC) (F : Fn K mg "_law_long_right" s__law_long_right) (c__law_free_places : Cal P w K mg base 2 "_law_free_places" (spFree K) []) (c__law_shifted : Cal P w K mg base 1 "_law_shifted" (spShift K) []) (c__law_table : Cal P w K mg base 6 "_law_table" (spTable K cT) [])
    (c_is_club_road : Cal P w K mg base 8 "is_club_road" (spRoadT K cT) []) (c_table_behind : CalX P w K mg base 8 "table_behind" (spTableBehind K cT cR)) (c__law_exact : Cal P w K mg base 5 "_law_exact" (spExact K 4) []) (m_Table___eq__ : Met P w K mg base 1 cT "__eq__" (spEqT K cT) []) :
    Cal P w K mg base 9 "_law_long_right" (spLong K cT) [] := by
  refine F.cal sc__law_long_right (fun _ _ F => FunD.bindsN F fun _ _ _ _ _ _ us hl => match us, hl with | [_, _], _ => rfl) (fun vs H Q E h => by obtain ⟨_, _, _, _, _, rfl, _⟩ := h; rfl) (fun f cdv A outer st H vs Q E hr h => ⟨_, PSs.nox ((pss_cons (ps_for PassesOwn.never rfl (pi_listQ (K := K) rfl (pe_slice (slL (K := K) rfl) (pe_c c__law_free_places hr (by first | decide | omega) (by rfl) (pa_cons (pv 0) pa_nil)) po_none (po_some pe_int))) (pg_name (i := 2) sc__law_long_right.nd rfl (Or.inl rfl)) (pss_cons (ps_set (i := 3) sc__law_long_right.nd rfl (Or.inl rfl) (pe_c c__law_table hr (by first | decide | omega) (by rfl) (pa_cons (pe_c c__law_shifted hr (by first | decide | omega) (by rfl) (pa_cons (pv 0) (pa_cons (pv 2) pa_nil))) pa_nil)))
  (pss_cons (ps_set (i := 4) sc__law_long_right.nd rfl (Or.inl rfl) (pe_lst (pa_cons (pe_c c_is_club_road hr (by first | decide | omega) (by rfl) (pa_cons (pv 1) (pa_cons (pv 1) (pa_cons (pe_op op_rep (pe_lst (pa_cons (pv 2) pa_nil)) pe_int) pa_nil)))) (pa_cons (pe_c c_is_club_road hr (by first | decide | omega) (by rfl) (pa_cons (pv 1) (pa_cons (pv 3) (pa_cons (pe_op op_rep (pe_lst (pa_cons (pv 2) pa_nil)) pe_int) pa_nil)))) (pa_cons (pe_c c_is_club_road hr (by first | decide | omega) (by rfl) (pa_cons (pv 1) (pa_cons (pv 3) (pa_cons (pe_op op_rep (pe_lst (pa_cons (pv 2) pa_nil)) pe_int) pa_nil)))) pa_nil)))))
  (pss_cons (ps_if (pt_not (pt_val (pe_c c__law_exact hr (by first | decide | omega) (by rfl) (pa_cons (pv 4) (pa_cons (pe_lst (pa_cons pe_bl (pa_cons pe_bl (pa_cons pe_bl pa_nil)))) pa_nil))))) (pss_one (ps_ret pe_bl)) pss_nil)
  (pss_one (ps_if (PW.pt (pw_or (pt_cmpR (ops_own (.inr rfl) (fun _ _ => rfl) M.eT.own m_Table___eq__ hr (by omega)).1 (pe_cN c_table_behind hr (by first | decide | omega) (by rfl) (pa_cons (pv 1) (pa_cons (pe_op op_rep (pe_lst (pa_cons (pv 2) pa_nil)) pe_int) pa_nil))) (pv 3) (nomark _)) (pw_or1 (pt_cmpR (ops_own (.inr rfl) (fun _ _ => rfl) M.eT.own m_Table___eq__ hr (by omega)).1 (pe_cN c_table_behind hr (by first | decide | omega) (by rfl) (pa_cons (pv 1) (pa_cons (pe_op op_rep (pe_lst (pa_cons (pv 2) pa_nil)) pe_int) pa_nil))) (pv 1) (nomark _))))) (pss_one (ps_ret pe_bl)) pss_nil))))))
  (pss_one (ps_ret pe_bl)))), ?_⟩)
  obtain ⟨v, y, nm, wd, pl, rfl, ht, hw, wo, k⟩ := h
  have n2 := wo.n60
  have d2 := wo.d60
  have l25 := wo.l25
  refine ⟨_, rfl, _, nm, wd, pl, rfl, hw, wo.nd, by omega, by omega, by omega, fun lf fs H1 s1 nlf elf hfs => ?_⟩
  have u1 := SB.of (S := []) s1
  refine ⟨_, rfl, lf, _, rfl, SqL.of elf, fun c hc => ⟨c, rfl, ⟨_, SqL.of upd_same⟩, ?_⟩⟩
  have cut : cutV fs none (some (1 : Int)) = fs.take 1 := cutV_to fs 1
  rw [cut]
  have u2 := u1.new (o := .lst (fs.take 1)) hc
  have hf2 := hfs.sb ((SB.same (S := [])).new (o := .lst (fs.take 1)) hc)
  generalize eG : upd H1 c (.lst (fs.take 1)) = G at u2 hf2 ⊢
  have ec : G c = some (.lst (fs.take 1)) := by rw [← eG]; exact upd_same
  refine for_list (xs := fs.take 1) (fun i σ G' => σ.length = 5 ∧ σ[0]? = some (some y) ∧ σ[1]? = some (some v) ∧ SB [] G G') ⟨rfl, rfl, rfl, SB.same⟩ (fun i σ G' _ h => SqL.of (h.2.2.2 _ _ (by simp) ec)) (fun i z σ G' hz h => ?_) (fun σ G' h => ?_)
  · obtain ⟨k0, k1, k2, s⟩ := h
    have hz2 : fs[i]? = some z := by
      rw [List.getElem?_take] at hz
      split at hz
      · exact hz
      · cases hz
    obtain ⟨q, hq, pq⟩ := Paired.at1 hf2 hz2
    have fq : q ∈ freeP nm wd pl := List.mem_of_getElem? hq
    have mq := free_prod fq
    have m2 := mem_prod.mp mq
    have j0 : (σ.set 2 (some z)).length = 5 := by rw [List.length_set]; exact k0
    have j1 : (σ.set 2 (some z))[0]? = some (some y) := by rw [List.getElem?_set_ne (by decide)]; exact k1
    have j2 : (σ.set 2 (some z))[1]? = some (some v) := by rw [List.getElem?_set_ne (by decide)]; exact k2
    have j3 : (σ.set 2 (some z))[2]? = some (some z) := List.getElem?_set_self (by omega)
    have u3 := u2.trans s
    refine ⟨_, j1, _, j3, [], _, _, nm, wd, pl, q, rfl, Dom.nil, hw.sb u3, pq.sb s, by omega, wo.nd, wo.tw.2.2, wo.pok mq, fun h' G2 s2 nh w2 => ?_⟩
    have wq := wo.shift mq
    refine ⟨[], _, nm, nm, wd, wd, _, _, rfl, Dom.nil, w2.l, wq.tok (List.Perm.refl _) (List.Perm.refl _) (List.Perm.refl _), fun x G3 s3 nx tx => ?_⟩
    have u4 := (SB.of (S := []) s2).trans (SB.of s3)
    have t0 : ((σ.set 2 (some z)).set 3 (some (V.ref x))).length = 5 := by rw [List.length_set]; exact j0
    have t1 : ((σ.set 2 (some z)).set 3 (some (V.ref x)))[1]? = some (some v) := by rw [List.getElem?_set_ne (by decide)]; exact j2
    have t2 : ((σ.set 2 (some z)).set 3 (some (V.ref x)))[2]? = some (some z) := by rw [List.getElem?_set_ne (by decide)]; exact j3
    have t3 : ((σ.set 2 (some z)).set 3 (some (V.ref x)))[3]? = some (some (.ref x)) := by rw [List.getElem?_set_self (by omega)]
    have t4 : ((σ.set 2 (some z)).set 3 (some (V.ref x)))[0]? = some (some y) := by rw [List.getElem?_set_ne (by decide)]; exact j1
    have b400 : behV nm wd pl (.its (List.replicate 400 (Sum.inl q))) = some pl := beh_rep wo fq 200
    have b399 : behV nm wd pl (.its (List.replicate 399 (Sum.inl q))) = some (shiftP pl q) := beh_rep1 wo fq 199
    have w4 := u3.trans u4
    have pz : ItAt K G3 (.inl q) z := ItAt.sb (it := .inl q) ⟨pq.sb s, wo.nk _ m2.1, wo.dk _ m2.2⟩ u4
    refine ⟨_, t1, _, t1, rep_read (n := 400) t2 pz (by omega) fun l4 G4 s4 v4 => ?_⟩
    refine ⟨_, _, _, nm, wd, pl, pl, _, rfl, ht.sb (w4.trans s4), ht.sb (w4.trans s4), wo, wo, v4, fun G5 s5 => ?_⟩
    rw [b400, decide_eq_true rfl]
    have x5 := s4.trans (SB.of s5)
    refine ⟨_, t1, _, t3, rep_read (n := 399) t2 (pz.sb x5) (by omega) fun l6 G6 s6 v6 => ?_⟩
    have x6 := x5.trans s6
    refine ⟨_, _, _, nm, wd, pl, _, _, rfl, ht.sb (w4.trans x6), tx.sb x6, wo, wq, v6, fun G7 s7 => ?_⟩
    rw [b399, decide_eq_true rfl]
    have x7 := x6.trans (SB.of s7)
    refine ⟨_, t1, _, t3, rep_read (n := 400) t2 (pz.sb x7) (by omega) fun l8 G8 s8 v8 => ?_⟩
    have x8 := x7.trans s8
    refine ⟨_, _, _, nm, wd, pl, _, _, rfl, ht.sb (w4.trans x8), tx.sb x8, wo, wq, v8, fun G9 s9 => ?_⟩
    rw [b400, decide_eq_false (fun z => shift_ne (Option.some.inj z).symm)]
    have x9 := x8.trans (SB.of s9)
    refine ⟨(by decide : (3 : Nat) ≤ sizeLine), fun pt hpt => ?_⟩
    have x10 := x9.new (o := .lst [.bl true, .bl true, .bl false]) hpt
    have v1 : (((σ.set 2 (some z)).set 3 (some (V.ref x))).set 4 (some (V.ref pt)))[1]? = some (some v) := by rw [List.getElem?_set_ne (by decide)]; exact t1
    have v2 : (((σ.set 2 (some z)).set 3 (some (V.ref x))).set 4 (some (V.ref pt)))[2]? = some (some z) := by rw [List.getElem?_set_ne (by decide)]; exact t2
    have v3 : (((σ.set 2 (some z)).set 3 (some (V.ref x))).set 4 (some (V.ref pt)))[3]? = some (some (.ref x)) := by rw [List.getElem?_set_ne (by decide)]; exact t3
    have v5 : (((σ.set 2 (some z)).set 3 (some (V.ref x))).set 4 (some (V.ref pt)))[4]? = some (some (.ref pt)) := List.getElem?_set_self (by omega)
    refine ⟨_, v5, (by decide : (3 : Nat) ≤ sizeLine), fun pd hpd => ?_⟩
    have x11 := x10.new (o := .lst [.bl true, .bl true, .bl false]) hpd
    refine ⟨.list [.bool true, .bool true, .bool false], _, _, rfl, ⟨pt, _, rfl, RL.at (by rw [upd_ne (ne_of_none upd_same hpd)]; exact upd_same) (by simp), ⟨_, _, rfl, rfl, _, _, rfl, rfl, _, _, rfl, rfl, rfl⟩⟩, ⟨pd, _, rfl, RL.at upd_same (by simp), ⟨_, _, rfl, rfl, _, _, rfl, rfl, _, _, rfl, rfl, rfl⟩⟩, ⟨3, rfl, by decide, True.intro, True.intro, True.intro, True.intro⟩, fun G12 s12 => ⟨_, rfl, ifN rfl ?_⟩⟩
    have x12 := x11.trans (SB.of s12)
    refine ⟨_, v1, rep_read (n := 399) v2 (pz.sb x12) (by omega) fun l13 G13 s13 v13 => ?_⟩
    have x13 := x12.trans s13
    refine ⟨_, _, nm, wd, pl, _, rfl, ht.sb (w4.trans x13), wo, v13, fun hb => absurd (hb.symm.trans b399) (by simp), fun pl1 hb1 y1 G14 s14 hy1 _ => ?_⟩
    have x14 := x13.trans (SB.of s14)
    cases b399.symm.trans hb1
    obtain ⟨a1, da1, _, _, _, _, rfl, _, ea1, _⟩ := id hy1
    obtain ⟨a2, da2, _, _, _, _, e2, _, ea2, _⟩ := id (tx.sb x14)
    cases e2
    refine ⟨_, v3, ⟨_, _, _, rfl, ea1⟩, .inr ⟨_, _, _, _, rfl, ea2, by simp [PySem.W.notFirst]⟩, _, _, nm, wd, _, rfl, hy1, wq.tw, .inl ⟨nm, wd, _, tx.sb x14, wq.tw, _, rfl, ?_⟩⟩
    refine ⟨_, rfl, ifN (by simp) ?_⟩
    refine ⟨_, v1, rep_read (n := 400) v2 (pz.sb x14) (by omega) fun l15 G15 s15 v15 => ?_⟩
    have x15 := x14.trans s15
    refine ⟨_, _, nm, wd, pl, _, rfl, ht.sb (w4.trans x15), wo, v15, fun hb => absurd (hb.symm.trans b400) (by simp), fun pl1 hb1 y1 G16 s16 hy1 _ => ?_⟩
    have x16 := x15.trans (SB.of s16)
    cases b400.symm.trans hb1
    obtain ⟨a3, da3, _, _, _, _, rfl, _, ea3, _⟩ := id hy1
    obtain ⟨a4, da4, _, _, _, _, rfl, _, ea4, _⟩ := id (ht.sb (w4.trans x16))
    refine ⟨_, v1, ⟨_, _, _, rfl, ea3⟩, .inr ⟨_, _, _, _, rfl, ea4, by simp [PySem.W.notFirst]⟩, _, _, nm, wd, _, rfl, hy1, wo.tw, .inl ⟨nm, wd, _, ht.sb (w4.trans x16), wo.tw, _, rfl, ?_⟩⟩
    refine ⟨_, rfl, ifN (by simp) ?_⟩
    exact ⟨by rw [List.length_set, List.length_set]; exact j0, by rw [List.getElem?_set_ne (by decide)]; exact t4, v1, (s.trans u4).trans x16⟩
  · obtain ⟨k0, k1, k2, s⟩ := h
    exact k G' (SB.nil (u2.trans s))
end
end K77
namespace K77
open PySem PySem.Spec PyProof.Rows C8 Ef
open L2 hiding E0 CX0 pass0 Fun
section
variable {P : Program} {w : World} {K : PySem.W.Frag} {mg : Str → Option Value} {base : Heap} {cT cC : Addr}
theorem sc__law_bent_roads : FnScope ["_law_purse_here", "_law_world", "_law_road", "_law_places_here", "_law_found", "_law_at", "_law_odd", "_law_turn", "_law_one", "_law_place"] ["_law_purse_here", "_law_world", "_law_road"] (defScope s__law_bent_roads) := ⟨rfl, rfl, rfl, by decide +kernel, rfl, by decide +kernel, by decide +kernel⟩
mutual
theorem Dep.up : ∀ {n : Nat} (d : PyData), Dep n d → Dep (n + 1) d
  | n, .list ds, ⟨m, e, l, h⟩ => ⟨m + 1, by omega, l, DepL.up ds h⟩
  | n, .tuple ds, ⟨m, e, l, h⟩ => ⟨m + 1, by omega, l, DepL.up ds h⟩
  | n, .dict _, ⟨m, e, l⟩ => ⟨m + 1, by omega, l⟩
  | _, .none, _ => trivial
  | _, .bool _, _ => trivial
  | _, .int _, _ => trivial
  | _, .str _, _ => trivial
theorem DepL.up : ∀ {n : Nat} (ds : List PyData), DepL n ds → DepL (n + 1) ds
  | _, [], _ => trivial
  | _, d :: ds, ⟨h, k⟩ => ⟨Dep.up d h, DepL.up ds k⟩
end
/-- what may stand in a road, outside S -/
def ItE (K : PySem.W.Frag) (S : List Addr) (H : Hp) (v : V) : Prop := (∃ q : Str × Str, P2 K S H q v ∧ WordOk q.1 ∧ WordOk q.2) ∨ (∃ d, Rp K S H d v ∧ oddD d = true ∧ (isTup d = true → SeqAt.shaped d = true ∧ plainD d = true) ∧ Dep 2 d)
/-- an object that may be a road, outside S -/
def VdE (K : PySem.W.Frag) (S : List Addr) (H : Hp) (v : V) : Prop := LstE S (ItE K S) 100 H v ∨ (∃ d, Rp K S H d v ∧ isList d = false ∧ Dep 3 d)
section
variable {S T : List Addr} {H H' : Hp} {v : V}
theorem sta_it : Sta S (ItE K S) := fun H H' v s h => h.elim (fun ⟨q, a, b⟩ => .inl ⟨q, a.sb s, b⟩) fun ⟨d, a, b⟩ => .inr ⟨d, a.sb s, b⟩
theorem sta_vd : Sta S (VdE K S) := fun H H' v s h => h.elim (fun h => .inl (sta_lst sta_it H H' v s h)) fun ⟨d, a, b⟩ => .inr ⟨d, a.sb s, b⟩
theorem ItE.at (h : ItE K S H v) : ∃ it, ItAt K H it v ∧ Dep 2 (itD it) := by
  rcases h with ⟨q, a, b⟩ | ⟨d, a, b, c, e⟩
  · exact ⟨.inl q, ⟨a.less (by simp), b⟩, ⟨1, rfl, (by decide : (2 : Nat) ≤ 1000), trivial, trivial, trivial⟩⟩
  · exact ⟨.inr d, ⟨a.less (by simp), b, c⟩, e⟩
theorem its_of : ∀ {xs : List V}, (∀ x ∈ xs, ItE K S H x) → ∃ l, Paired (ItAt K H) l xs ∧ DepL 2 (l.map itD)
  | [], _ => ⟨[], .nil, trivial⟩
  | x :: xs, h => by
    obtain ⟨it, a, b⟩ := (h x (List.mem_cons_self ..)).at
    obtain ⟨l, c, d⟩ := its_of (xs := xs) fun y hy => h y (List.mem_cons_of_mem _ hy)
    exact ⟨it :: l, .cons a c, b, d⟩
theorem VdE.at (h : VdE K S H v) : ∃ d, VAt K H d v ∧ Dep 3 (vdD d) := by
  rcases h with ⟨a, xs, rfl, na, ha, l, r⟩ | ⟨d, a, b, c⟩
  · obtain ⟨m, h1, h2⟩ := its_of r
    have := Paired.length h1
    exact ⟨.its m, ⟨a, xs, rfl, ha, h1⟩, 2, rfl, by rw [List.length_map]; omega, h2⟩
  · exact ⟨.oth d, ⟨a.less (by simp), b⟩, c⟩
end
section
variable {S : List Addr} {H : Hp} {a : Addr} {qs : List (Str × Str)} {ys : List V} {nm wd : List Str}
theorem road_it (h : P2s K S H qs ys) (w : ∀ q ∈ qs, WordOk q.1 ∧ WordOk q.2) : ∀ x ∈ ys, ItE K S H x := fun x hx => by
  obtain ⟨i, hi⟩ := List.getElem?_of_mem hx
  obtain ⟨q, hq, pq⟩ := Paired.at1 h hi
  exact .inl ⟨q, pq, w q (List.mem_of_getElem? hq)⟩
end
/-- all kinds of objects -/
def spBent (K : PySem.W.Frag) : Sp := fun vs H Q _ => ∃ (p a rd : Addr) (n : Nat) (v0 v1 v2 : V) (nm wd : List Str) (qs : List (Str × Str)) (ys : List V), vs = [.ref p, .ref a, .ref rd] ∧ Pu H p (n + 100) ∧ RL K [] H a [v0, v1, v2] ∧ LS K [] H nm v0 ∧ LS K [] H wd v1 ∧
  (∀ x ∈ nm, WordOk x) ∧ (∀ x ∈ wd, WordOk x) ∧ 1 ≤ nm.length ∧ nm.length ≤ 5 ∧ 1 ≤ wd.length ∧ wd.length ≤ 5 ∧ rd ≠ p ∧ H rd = some (.lst ys) ∧ P2s K [p] H qs ys ∧ qs.length ≤ 12 ∧ (∀ q ∈ qs, WordOk q.1 ∧ WordOk q.2) ∧
  ∀ l H', H l = none → LstE [p] (VdE K [p]) 60 H' (.ref l) → SB [p] H H' → Pu H' p n → Q (.ref l) H'
section
variable {S : List Addr} {H : Hp} {v : V} {n : Nat}
theorem fam_it : Fam (fun S => ItE K S) := ⟨fun S => sta_it, fun S T H v h r => r.elim (fun ⟨q, a, b⟩ => .inl ⟨q, a.less h, b⟩) fun ⟨d, a, b⟩ => .inr ⟨d, a.less h, b⟩, fun S H v p r hp => r.elim (fun ⟨q, a, b⟩ => .inl ⟨q, a.more hp, b⟩) fun ⟨d, a, b⟩ => .inr ⟨d, a.more hp, b⟩⟩
theorem fam_vd : Fam (fun S => VdE K S) := ⟨fun S => sta_vd, fun S T H v h r => r.elim (fun r => .inl ((fam_lst fam_it).less S T H v h r)) fun ⟨d, a, b⟩ => .inr ⟨d, a.less h, b⟩, fun S H v p r hp => r.elim (fun r => .inl ((fam_lst fam_it).more S H v p r hp)) fun ⟨d, a, b⟩ => .inr ⟨d, a.more hp, b⟩⟩
theorem lst_vd (h : LstE S (ItE K S) n H v) (hn : n ≤ 100) : VdE K S H v := .inl (h.le hn)
theorem ItE.dep {x : V} (h : ItE K S H x) : ∃ d, Rp K S H d x ∧ Dep 2 d := by
  rcases h with ⟨q, a, b⟩ | ⟨d, a, b, c, e⟩
  · exact ⟨dP1 q, p2_rp a, 1, rfl, (by decide : (2 : Nat) ≤ 1000), trivial, trivial, trivial⟩
  · exact ⟨d, a, e⟩
theorem its_rps : ∀ {xs : List V}, (∀ x ∈ xs, ItE K S H x) → ∃ ds, RpL K S H ds xs ∧ DepL 2 ds
  | [], _ => ⟨[], rfl, trivial⟩
  | x :: xs, h => by
    obtain ⟨d, a, b⟩ := (h x (List.mem_cons_self ..)).dep
    obtain ⟨l, c, e⟩ := its_rps (xs := xs) fun y hy => h y (List.mem_cons_of_mem _ hy)
    exact ⟨d :: l, .cons a c, b, e⟩
theorem tup_vd (h : TupE S (ItE K S) n H v) (hn : n ≤ 100) : VdE K S H v := by
  obtain ⟨a, xs, rfl, na, ha, l, r⟩ := h
  obtain ⟨ds, h1, h2⟩ := its_rps r
  have := h1.len
  exact .inr ⟨.tuple ds, ⟨a, xs, rfl, RT.at ha na, h1⟩, rfl, 2, rfl, by omega, h2⟩
theorem lst0_it (h : LstE S (ItE K S) 0 H v) : ItE K S H v := by
  obtain ⟨a, xs, rfl, na, ha, l, r⟩ := h
  have e : xs = [] := List.length_eq_zero_iff.mp (by omega)
  subst e
  exact .inr ⟨.list [], ⟨a, [], rfl, RL.at ha na, rfl⟩, rfl, (fun z => nomatch z), 1, rfl, by decide, trivial⟩
theorem tup0_it (h : TupE S (ItE K S) 0 H v) : ItE K S H v := by
  obtain ⟨a, xs, rfl, na, ha, l, r⟩ := h
  have e : xs = [] := List.length_eq_zero_iff.mp l
  subst e
  exact .inr ⟨.tuple [], ⟨a, [], rfl, RT.at ha na, rfl⟩, rfl, fun _ => ⟨by decide, rfl⟩, 1, rfl, by decide, trivial⟩
theorem non_it : ItE K S H .non := .inr ⟨.none, rfl, rfl, (fun z => nomatch z), trivial⟩
theorem shaped_t1 {q : Str × Str} (h : PairOk q) : SeqAt.shaped (.tuple [dP1 q]) = true := by
  show ((PyData.tuple [dP1 q]).canLay0 && decide ((PyData.tuple [dP1 q]).depth ≤ 64)) = true
  have h2 := depth_p q
  have e : (PyData.tuple [dP1 q]).depth ≤ 64 := by simp only [PyData.depth, PyData.depthAll] at h2 ⊢; omega
  have e1 : (PyData.tuple [dP1 q]).canLay0 = true := by simp [PyData.canLay0, PyData.canLayAll0, h.1, h.2]
  rw [Bool.and_eq_true]
  exact ⟨e1, decide_eq_true e⟩
theorem emp_len : (Str.ofString "").length = 0 := rfl
theorem tups_it {ws : List Str} (h : TupS S ws H v) (o : ∀ x ∈ ws, WordOk x) (hn : ws.length ≤ 100) (h2 : ws.length ≠ 2) : ItE K S H v := by
  refine .inr ⟨_, h.rp, ?_, fun _ => ⟨?_, ?_⟩, ?_⟩
  · simp [oddD, h2]
  · have := shaped_ss (ws := ws) fun x hx => strOk_of (o x hx)
    exact this
  · show plainL _ = true
    exact plainL_strs ws
  · exact ⟨1, rfl, by rw [List.length_map]; omega, depL_strs _ _⟩
end
theorem ok_bent (M : Fx K mg cT cC) (F : Fn K mg "_law_bent_roads" s__law_bent_roads) (c__law_places : Cal P w K mg base 1 "_law_places" (spPlaces K) []) (c__law_one_of : Cal P w K mg base 3 "_law_one_of" (spOneOf K) []) (c__law_shuffled : Cal P w K mg base 3 "_law_shuffled" (spShuffled K) []) :
    Cal P w K mg base 4 "_law_bent_roads" (spBent K) [] := by
  refine F.cal sc__law_bent_roads (fun _ _ F => FunD.bindsN F fun _ _ _ _ _ _ us hl => match us, hl with | [_, _, _], _ => rfl) (fun vs H Q E h => by obtain ⟨_, _, _, _, _, _, _, _, _, _, _, rfl, _⟩ := h; rfl) (fun f cdv A outer st H vs Q E hr h => ⟨_, PSs.nox ((pss_cons (ps_set (i := 3) sc__law_bent_roads.nd rfl (Or.inr rfl) (pe_c c__law_places hr (by first | decide | omega) (by rfl) (pa_cons (pv 1) pa_nil)))
  (pss_cons (ps_set (i := 4) sc__law_bent_roads.nd rfl (Or.inl rfl) (pe_lst (pa_cons pe_non (pa_cons pe_int (pa_cons pe_bl (pa_cons pe_str (pa_cons pe_dnewK (pa_cons (pe_tup pa_nil) (pa_cons (pe_callTy (tupleQ (K := K) rfl) (by rfl) M.tuple (by decide +kernel) (pa_cons (pv 2) pa_nil)) (pa_cons (pe_lst (pa_cons pe_non pa_nil)) (pa_cons (pe_lst (pa_cons (pe_lst pa_nil) pa_nil)) (pa_cons (pe_lst (pa_cons (pe_tup pa_nil) pa_nil)) (pa_cons (pe_op op_cat (pv 2) (pe_lst (pa_cons pe_non pa_nil))) (pa_cons (pe_op op_cat (pe_lst (pa_cons pe_non pa_nil)) (pv 2)) (pa_cons (pe_op op_cat (pv 2) (pe_lst (pa_cons (pe_lst pa_nil) pa_nil))) (pa_cons (pe_revQ (K := K) rfl (pv 2) (pe_un un_neg pe_int)) (pa_cons (pe_slice (slL (K := K) rfl) (pv 2) (po_some pe_int) po_none) (pa_cons (pe_slice (slL (K := K) rfl) (pv 2) po_none (po_some (pe_un un_neg pe_int))) pa_nil))))))))))))))))))
  (pss_cons (ps_for PassesOwn.never rfl (pi_range1 (by rfl) M.range (pa_cons (pe_callB (call_min2 rfl) (by rfl) M.min (by decide +kernel) (pa_cons pe_int (pa_cons (pe_callB (lenQ (K := K) rfl) (by rfl) M.len boot_len (pa_cons (pv 2) pa_nil)) pa_nil))) pa_nil)) (pg_name (i := 5) sc__law_bent_roads.nd rfl (Or.inr rfl)) (pss_cons (ps_set (i := 6) sc__law_bent_roads.nd rfl (Or.inl rfl) (pe_lst (pa_cons pe_non (pa_cons (pe_callTy (listQ (K := K) rfl) (by rfl) M.list (by decide +kernel) (pa_cons (pe_ix (ixL (K := K) rfl) (pv 2) (pv 5) (fun _ _ => rfl)) pa_nil)) (pa_cons (pe_revQ (K := K) rfl (pe_ix (ixL (K := K) rfl) (pv 2) (pv 5) (fun _ _ => rfl)) (pe_un un_neg pe_int)) (pa_cons (pe_slice (slTQ (K := K) rfl) (pe_ix (ixL (K := K) rfl) (pv 2) (pv 5) (fun _ _ => rfl)) po_none (po_some pe_int)) (pa_cons (pe_op (catTQ (K := K) rfl) (pe_ix (ixL (K := K) rfl) (pv 2) (pv 5) (fun _ _ => rfl)) (pe_slice (slTQ (K := K) rfl) (pe_ix (ixL (K := K) rfl) (pv 2) (pv 5) (fun _ _ => rfl)) po_none (po_some pe_int))) (pa_cons (pe_join pe_str (pe_ix (ixL (K := K) rfl) (pv 2) (pv 5) (fun _ _ => rfl))) (pa_cons (pe_tup (pa_cons (pe_ix (ixL (K := K) rfl) (pv 2) (pv 5) (fun _ _ => rfl)) pa_nil)) pa_nil)))))))))
  (pss_cons (ps_set (i := 6) sc__law_bent_roads.nd rfl (Or.inl rfl) (pe_op op_cat (pv 6) (pe_lc rfl sc__law_bent_roads.nd (pi_range1 (by rfl) M.range (pa_cons pe_int pa_nil)) (blkOk_by (N := ["_law_purse_here", "_law_world", "_law_road", "_law_places_here", "_law_found", "_law_at", "_law_odd", "_law_turn", "_law_one", "_law_place"]) (sc := defScope s__law_bent_roads) (own := [("_law_turn", 7)]) (by decide +kernel)) (fun _ _ _ _ _ => (pg_name (i := 7) sc__law_bent_roads.nd rfl (Or.inl rfl))) (fun _ _ _ _ _ => pts_nil) (fun _ _ _ _ _ => (pe_c c__law_one_of hr (by first | decide | omega) (by rfl) (pa_cons (pv 0) (pa_cons (pv 3) pa_nil)))))))
  (pss_one (ps_set (i := 4) sc__law_bent_roads.nd rfl (Or.inl rfl) (pe_op op_cat (pe_op op_cat (pv 4) (pe_lc rfl sc__law_bent_roads.nd (pi_listQ (K := K) rfl (pv 6)) (blkOk_by (N := ["_law_purse_here", "_law_world", "_law_road", "_law_places_here", "_law_found", "_law_at", "_law_odd", "_law_turn", "_law_one", "_law_place"]) (sc := defScope s__law_bent_roads) (own := [("_law_one", 8)]) (by decide +kernel)) (fun _ _ _ _ _ => (pg_name (i := 8) sc__law_bent_roads.nd rfl (Or.inl rfl))) (fun _ _ _ _ _ => pts_nil) (fun _ _ _ _ _ => (pe_op op_cat (pe_op op_cat (pe_slice (slL (K := K) rfl) (pv 2) po_none (po_some (pv 5))) (pe_lst (pa_cons (pv 8) pa_nil))) (pe_slice (slL (K := K) rfl) (pv 2) (po_some (pe_op op_add (pv 5) pe_int)) po_none))))) (pe_lst (pa_cons (pe_op op_cat (pe_op op_cat (pe_slice (slL (K := K) rfl) (pv 2) po_none (po_some (pv 5))) (pe_op op_rep (pe_slice (slL (K := K) rfl) (pv 2) (po_some (pv 5)) (po_some (pe_op op_add (pv 5) pe_int))) pe_int)) (pe_slice (slL (K := K) rfl) (pv 2) (po_some (pv 5)) po_none)) pa_nil))))))))
  (pss_one (ps_ret (pe_op op_cat (pe_op op_cat (pv 4) (pe_lc rfl sc__law_bent_roads.nd (pi_listQ (K := K) rfl (pe_slice (slL (K := K) rfl) (pe_c c__law_shuffled hr (by first | decide | omega) (by rfl) (pa_cons (pv 0) (pa_cons (pv 3) pa_nil))) po_none (po_some pe_int))) (blkOk_by (N := ["_law_purse_here", "_law_world", "_law_road", "_law_places_here", "_law_found", "_law_at", "_law_odd", "_law_turn", "_law_one", "_law_place"]) (sc := defScope s__law_bent_roads) (own := [("_law_place", 9)]) (by decide +kernel)) (fun _ _ _ _ _ => (pg_name (i := 9) sc__law_bent_roads.nd rfl (Or.inl rfl))) (fun _ _ _ _ _ => pts_nil) (fun _ _ _ _ _ => (pe_lst (pa_cons (pv 9) pa_nil))))) (pe_lst (pa_cons (pe_op op_cat (pv 2) (pe_revQ (K := K) rfl (pv 2) (pe_un un_neg pe_int))) pa_nil))))))))), ?_⟩)
  obtain ⟨p, a, rd, n, v0, v1, v2, nm, wd, qs, ys, rfl, pu, ha, h0, h1, nk, dk, n1, n2, d1, d2, nrd, er, hqs, lq, qk, k⟩ := h
  refine ⟨_, rfl, a, v0, v1, v2, nm, wd, rfl, ha, h0, h1, by omega, by omega, fun l xs H1 s1 nl el hxs hnew => ?_⟩
  have hpr : ∀ q ∈ prod nm wd, WordOk q.1 ∧ WordOk q.2 := fun q hq => ⟨nk _ (mem_prod.mp hq).1, dk _ (mem_prod.mp hq).2⟩
  have npl : l ≠ p := fun z => pu.dom p (by simp) (z ▸ nl)
  have u1 := SB.of (S := []) s1
  have pu1 := pu.sb u1 (by simp)
  have dm1 : Dom [p] H1 := pu1.dom
  have er1 : H1 rd = some (.lst ys) := u1 _ _ (by simp) er
  have hq1 : P2s K [p] H1 qs ys := hqs.sb (u1.wide (by simp))
  have hx1 : P2s K [p] H1 (prod nm wd) xs := p2s_offl hxs fun b hb => by
    rw [List.mem_singleton.mp hb]
    obtain ⟨_, _, _, _, e, _⟩ := pu1
    exact ⟨_, e⟩
  have lys : ys.length ≤ 12 := by rw [hqs.len]; exact lq
  have lxs : xs.length ≤ 25 := by rw [hxs.len, prod_len]; exact Nat.mul_le_mul n2 d2
  have rdI : LstE [p] (ItE K [p]) 12 H1 (.ref rd) := ⟨rd, ys, rfl, by simpa using nrd, er1, lys, road_it hq1 qk⟩
  have sI : Sta [p] (ItE K [p]) := sta_it
  have sV : Sta [p] (VdE K [p]) := sta_vd
  have non1 : ∀ σ (G : Hp), Gv [p] σ G (tC .non) (ItE K [p]) := fun σ G => gv_c fun H => non_it
  have grd : Gv [p] [some (V.ref p), some (V.ref a), some (V.ref rd), some (V.ref l), none, none, none, none, none, none] H1 (tVar 2) (LstE [p] (ItE K [p]) 12) := gv_var rfl (sta_lst sI) rdI
  have nl1 : ∀ σ (G : Hp), Gv [p] σ G (tLst (tCons (tC .non) tNil)) (LstE [p] (ItE K [p]) 1) := fun σ G => gv_lst sI (gvl_cons sI (non1 σ G) gvl_nil) (by decide)
  generalize eσ : ([some (V.ref p), some (V.ref a), some (V.ref rd), some (V.ref l), none, none, none, none, none, none] : L2.St) = σ1 at grd
  have gl0 : Gv [p] σ1 H1 (tLst tNil) (ItE K [p]) := (gv_lst sI gvl_nil (by decide)).wk fun H v h => lst0_it h
  have gt0 : Gv [p] σ1 H1 (tTup tNil) (ItE K [p]) := (gv_tup sI gvl_nil (by decide)).wk fun H v h => tup0_it h
  have e1 : Gv [p] σ1 H1 (tC .non) (VdE K [p]) := gv_c fun H => .inr ⟨.none, rfl, rfl, trivial⟩
  have e2 : Gv [p] σ1 H1 (tC (.int 0)) (VdE K [p]) := gv_c fun H => .inr ⟨.int 0, rfl, rfl, trivial⟩
  have e3 : Gv [p] σ1 H1 (tC (.bl true)) (VdE K [p]) := gv_c fun H => .inr ⟨.bool true, rfl, rfl, trivial⟩
  have e4 : Gv [p] σ1 H1 (tC (.str "")) (VdE K [p]) := gv_c fun H => .inr ⟨.str "", rfl, rfl, trivial⟩
  have e5 : Gv [p] σ1 H1 tDNewK (VdE K [p]) := (gv_dnew (K := K)).wk fun H v h => .inr ⟨.dict [], h, rfl, 1, rfl, rfl⟩
  have e6 : Gv [p] σ1 H1 (tTup tNil) (VdE K [p]) := (gv_tup sI gvl_nil (by decide)).wk fun H v h => tup_vd h (by decide)
  have e7 : Gv [p] σ1 H1 (tCB (rTupleQ K) (tCons (tVar 2) tNil)) (VdE K [p]) := (gv_tupOf (K := K) sI grd).wk fun H v ⟨m, hm, h⟩ => tup_vd h (by omega)
  have e8 : Gv [p] σ1 H1 (tLst (tCons (tC .non) tNil)) (VdE K [p]) := (nl1 _ _).wk fun H v h => lst_vd h (by decide)
  have n9 : Gv [p] σ1 H1 (tLst (tCons (tLst tNil) tNil)) (LstE [p] (ItE K [p]) 1) := gv_lst sI (gvl_cons sI gl0 gvl_nil) (by decide)
  have e9 : Gv [p] σ1 H1 (tLst (tCons (tLst tNil) tNil)) (VdE K [p]) := n9.wk fun H v h => lst_vd h (by decide)
  have e10 : Gv [p] σ1 H1 (tLst (tCons (tTup tNil) tNil)) (VdE K [p]) := (gv_lst sI (gvl_cons sI gt0 gvl_nil) (by decide)).wk fun H v h => lst_vd h (by decide)
  have e11 : Gv [p] σ1 H1 (tOp rCat (tVar 2) (tLst (tCons (tC .non) tNil))) (VdE K [p]) := (gv_cat sI grd (nl1 _ _) (by decide)).wk fun H v h => lst_vd h (by decide)
  have e12 : Gv [p] σ1 H1 (tOp rCat (tLst (tCons (tC .non) tNil)) (tVar 2)) (VdE K [p]) := (gv_cat sI (nl1 _ _) grd (by decide)).wk fun H v h => lst_vd h (by decide)
  have e13 : Gv [p] σ1 H1 (tOp rCat (tVar 2) (tLst (tCons (tLst tNil) tNil))) (VdE K [p]) := (gv_cat sI grd n9 (by decide)).wk fun H v h => lst_vd h (by decide)
  have e14 : Gv [p] σ1 H1 (tRev K (tVar 2)) (VdE K [p]) := (gv_rev sI grd).wk fun H v h => lst_vd h (by decide)
  have e15 : Gv [p] σ1 H1 (tSl (rSlL K) (tVar 2) (tPart (tC (.int 1))) tNoPart) (VdE K [p]) := (gv_sl sI grd gvp_c gvp_no).wk fun H v h => lst_vd h (by decide)
  have e16 : Gv [p] σ1 H1 (tSl (rSlL K) (tVar 2) tNoPart (tPart (tUn (rU fun i => V.int (-i)) (tC (.int 1))))) (VdE K [p]) := (gv_sl sI grd gvp_no gvp_neg).wk fun H v h => lst_vd h (by decide)
  have g1 := gv_lst (n := 16) sV (gvl_cons sV e1 (gvl_cons sV e2 (gvl_cons sV e3 (gvl_cons sV e4 (gvl_cons sV e5 (gvl_cons sV e6 (gvl_cons sV e7 (gvl_cons sV e8 (gvl_cons sV e9 (gvl_cons sV e10 (gvl_cons sV e11 (gvl_cons sV e12 (gvl_cons sV e13 (gvl_cons sV e14 (gvl_cons sV e15 (gvl_cons sV e16 gvl_nil)))))))))))))))) (by decide)
  subst eσ
  refine st_name (st_seq (gv_asg g1 SB.same dm1 fun v2 H2 s2 r2 => ?_))
  have nrp : rd ≠ p := nrd
  have fp : H rd = some (.lst ys) := er
  refine st_seq ?_
  refine ⟨_, rfl, _, _, rfl, .inl (SqL.of (s2 _ _ (by simp) er1)), _, _, rfl, ?_⟩
  generalize ek : (if ((ys.length : Nat) : Int) < 3 then ((ys.length : Nat) : Int) else 3) = k3
  have hk : 0 ≤ k3 ∧ k3 ≤ 3 ∧ k3 ≤ ys.length := by rw [← ek]; split <;> omega
  obtain ⟨j3, rfl⟩ : ∃ j : Nat, k3 = (j : Int) := ⟨k3.toNat, by omega⟩
  refine ⟨_, rfl, by omega, by omega, ?_⟩
  rw [Int.toNat_natCast]
  refine for_range (lo := 0) (n := j3) (fun i σ G => σ.length = 10 ∧ σ[0]? = some (some (.ref p)) ∧ σ[2]? = some (some (.ref rd)) ∧ σ[3]? = some (some (.ref l)) ∧ SB [p] H1 G ∧ (∃ v, σ[4]? = some (some v) ∧ LstE [p] (VdE K [p]) (16 + 11 * i) G v) ∧ Pu G p (n + 60 + (3 - i) * 10)) ?_ (fun i σ G hi h => ?_) (fun σ G h => ?_)
  · exact ⟨rfl, rfl, rfl, rfl, s2.wide (by simp), ⟨v2, rfl, r2⟩, (pu1.sb s2 (by simp)).less (by omega)⟩
  · obtain ⟨k0, kp, kr, kl, s, ⟨vf, kf, rf⟩, pu2⟩ := h
    have dm : Dom [p] G := pu2.dom
    have erG : G rd = some (.lst ys) := s _ _ (by simpa using nrp) er1
    have elG : G l = some (.lst xs) := s _ _ (by simpa using npl) el
    have hqG : P2s K [p] G qs ys := hq1.sb s
    have hxG : P2s K [p] G (prod nm wd) xs := hx1.sb s
    have rdG : LstE [p] (ItE K [p]) 12 G (.ref rd) := ⟨rd, ys, rfl, by simpa using nrp, erG, lys, road_it hqG qk⟩
    have li : i < ys.length := by omega
    obtain ⟨q, hq, pq⟩ := Paired.at1 hqG (List.getElem?_eq_getElem li)
    have wq := qk q (List.mem_of_getElem? hq)
    refine st_name ?_
    generalize eτ : σ.set 5 (some (V.int (0 + (i : Int)))) = τ
    have t0 : τ.length = 10 := by rw [← eτ, List.length_set]; exact k0
    have tp : τ[0]? = some (some (.ref p)) := by rw [← eτ, List.getElem?_set_ne (by decide)]; exact kp
    have tr : τ[2]? = some (some (.ref rd)) := by rw [← eτ, List.getElem?_set_ne (by decide)]; exact kr
    have tl : τ[3]? = some (some (.ref l)) := by rw [← eτ, List.getElem?_set_ne (by decide)]; exact kl
    have tf : τ[4]? = some (some vf) := by rw [← eτ, List.getElem?_set_ne (by decide)]; exact kf
    have ta : τ[5]? = some (some (.int (i : Int))) := by rw [← eτ, List.getElem?_set_self (by omega), Int.zero_add]
    have gq : Gv [p] τ G (tOp (rIxL K) (tVar 2) (tVar 5)) (TupS [p] [q.1, q.2]) := gv_ix tr ta (RL.at erG (by simpa using nrp)) (List.getElem?_eq_getElem li) sta_tups (TupS.of pq)
    have w2 : ∀ x ∈ [q.1, q.2], WordOk x := fun x hx => by
      rcases List.mem_cons.mp hx with rfl | hx
      · exact wq.1
      · rw [List.mem_singleton.mp hx]; exact wq.2
    have o2 : Gv [p] τ G (tCB (rListQ K) (tCons (tOp (rIxL K) (tVar 2) (tVar 5)) tNil)) (ItE K [p]) := (gv_listOf gq).wk fun H v h => .inr ⟨_, h, rfl, (fun z => nomatch z), 1, rfl, (show (2 : Nat) ≤ 1000 by decide), depL_strs _ _⟩
    have o3 : Gv [p] τ G (tRev K (tOp (rIxL K) (tVar 2) (tVar 5))) (ItE K [p]) := (gv_revP gq).wk fun H v h => .inl ⟨(q.2, q.1), TupS.p2 (q := (q.2, q.1)) h, wq.2, wq.1⟩
    have o4 : Gv [p] τ G (tSl (rSlT K) (tOp (rIxL K) (tVar 2) (tVar 5)) tNoPart (tPart (tC (.int 1)))) (ItE K [p]) := (gv_cut1 gq).wk fun H v h => tups_it h (fun x hx => by rw [List.mem_singleton.mp hx]; exact wq.1) (show (1 : Nat) ≤ 100 by decide) (show (1 : Nat) ≠ 2 by decide)
    have o5 : Gv [p] τ G (tOp (rCatT K) (tOp (rIxL K) (tVar 2) (tVar 5)) (tSl (rSlT K) (tOp (rIxL K) (tVar 2) (tVar 5)) tNoPart (tPart (tC (.int 1))))) (ItE K [p]) := (gv_catT gq (gv_cut1 gq) (by simp) (by simp) (show (3 : Nat) ≤ sizeLine by decide)).wk fun H v h => tups_it h (fun x hx => (List.mem_append.mp hx).elim (w2 x) fun hx => by rw [List.mem_singleton.mp hx]; exact wq.1) (show (3 : Nat) ≤ 100 by decide) (show (3 : Nat) ≠ 2 by decide)
    have o6 := (gv_joinT (sep := "") gq (by have h1 := wq.1.2.1; have h2 := wq.2.2.1; have h3 := emp_len; simp only [List.map_cons, List.map_nil, List.sum_cons, List.sum_nil, h3]; omega)).wk (R' := ItE K [p]) fun H v h => .inr ⟨_, h, rfl, (fun z => nomatch z), trivial⟩
    have o7 : Gv [p] τ G (tTup (tCons (tOp (rIxL K) (tVar 2) (tVar 5)) tNil)) (ItE K [p]) := (gv_tup (R := TupS [p] [q.1, q.2]) sta_tups (gvl_cons sta_tups gq gvl_nil) (by decide)).wk fun H v h => by
      obtain ⟨a, xs, rfl, na, ha, l, r⟩ := h
      match xs, l with
      | [x], _ =>
        exact .inr ⟨.tuple [dP1 q], ⟨a, _, rfl, RT.at ha na, _, _, rfl, p2_rp (TupS.p2 (r x (by simp))), rfl⟩, rfl, fun _ => ⟨shaped_t1 ⟨strOk_of wq.1, strOk_of wq.2⟩, rfl⟩, 1, rfl, (show (1 : Nat) ≤ 1000 by decide), ⟨0, rfl, (show (2 : Nat) ≤ 1000 by decide), trivial, trivial, trivial⟩, trivial⟩
    refine st_seq (gv_asg (gv_lst (n := 7) sI (gvl_cons sI (non1 τ G) (gvl_cons sI o2 (gvl_cons sI o3 (gvl_cons sI o4 (gvl_cons sI o5 (gvl_cons sI o6 (gvl_cons sI o7 gvl_nil))))))) (by decide)) SB.same dm fun vo H3 s3 ro => ?_)
    obtain ⟨ao, os, rfl, nao, eao, lo, ro⟩ := ro
    have v0' : (τ.set 6 (some (V.ref ao))).length = 10 := by rw [List.length_set]; exact t0
    have vp : (τ.set 6 (some (V.ref ao)))[0]? = some (some (.ref p)) := by rw [List.getElem?_set_ne (by decide)]; exact tp
    have vr : (τ.set 6 (some (V.ref ao)))[2]? = some (some (.ref rd)) := by rw [List.getElem?_set_ne (by decide)]; exact tr
    have vl : (τ.set 6 (some (V.ref ao)))[3]? = some (some (.ref l)) := by rw [List.getElem?_set_ne (by decide)]; exact tl
    have vff : (τ.set 6 (some (V.ref ao)))[4]? = some (some vf) := by rw [List.getElem?_set_ne (by decide)]; exact tf
    have va : (τ.set 6 (some (V.ref ao)))[5]? = some (some (.int (i : Int))) := by rw [List.getElem?_set_ne (by decide)]; exact ta
    have vo : (τ.set 6 (some (V.ref ao)))[6]? = some (some (.ref ao)) := List.getElem?_set_self (by omega)
    generalize τ.set 6 (some (V.ref ao)) = υ at *
    have s3p : SB [p] G H3 := s3.wide (by simp)
    have pu3 := pu2.sb s3 (by simp)
    dsimp only
    refine st_seq (st_asg (op_step ⟨_, vo, 3, rfl, by decide, by decide, fun D hD => ?_⟩))
    have elD := s3 _ _ (by simp) elG
    have lx1 : 1 ≤ xs.length := by rw [hxs.len, prod_len]; exact Nat.mul_pos n1 d1
    refine lcN (S := [p]) (n := 3) hD (fun j acc G' => (∃ qs', P2s K [p] G' qs' acc ∧ ∀ q ∈ qs', q ∈ prod nm wd) ∧ Pu G' p (n + 60 + (3 - (i + 1)) * 10 + (3 - j))) ⟨⟨[], .nil, by simp⟩, (pu3.new hD).less (by omega)⟩ (fun j acc G1 hj sb e hl hA => ?_) (fun G1 acc sb e hl hA => ?_)
    · obtain ⟨⟨qs', hqs', mem'⟩, pu4⟩ := hA
      have nlp : l ∉ [p] := by simpa using npl
      have npD : p ≠ D := pu3.ne hD
      refine ⟨wipe1, _, (w1_o (by decide)).trans vp, _, (w1_o (by decide)).trans vl, p, l, n + 60 + (3 - (i + 1)) * 10 + (3 - (j + 1)), xs, rfl, pu4.less (by omega), RL.at (sb _ _ nlp elD) nlp, lx1, by omega, fun jj y G2 hjj sb2 pu5 => ?_⟩
      obtain ⟨qy, hqy, pqy⟩ := Paired.at1 hxG hjj
      have eD2 := sb2 _ _ (by simpa using Ne.symm npD) e
      refine Pc.put (n := 3) hD hj (by decide) hl (sb.trans sb2) eD2 ⟨⟨qs' ++ [qy], p2s_put (Paired.app (hqs'.sb sb2) (.cons (((pqy.sb s3p).sb sb).sb sb2) .nil)) eD2, fun q hq => ?_⟩, pu5.other npD⟩
      rcases List.mem_append.mp hq with hq | hq
      · exact mem' q hq
      · rw [List.mem_singleton.mp hq]
        exact List.mem_of_getElem? hqy
    · obtain ⟨⟨qs', hqs', mem'⟩, pu4⟩ := hA
      have npD : p ≠ D := pu3.ne hD
      refine ⟨ao, D, os, acc, rfl, rfl, sb _ _ nao eao, e, by have := sizeLine_eq; omega, fun p6 hp6 => ?_⟩
      have sG1 : SB [p] G G1 := s3p.trans sb
      have x6 : SB [] G1 (upd G1 p6 (.lst (os ++ acc))) := SB.same.new hp6
      have pu6 : Pu (upd G1 p6 (.lst (os ++ acc))) p (n + 60 + (3 - (i + 1)) * 10) := (pu4.sb x6 (by simp)).less (by omega)
      have dm6 := pu6.dom
      have sG6 : SB [p] G (upd G1 p6 (.lst (os ++ acc))) := sG1.nw x6
      have ro6 : LstE [p] (ItE K [p]) 10 (upd G1 p6 (.lst (os ++ acc))) (.ref p6) := new_lst (n := 10) pu4.dom hp6 sI (by rw [List.length_append]; omega) fun x hx => by
        rcases List.mem_append.mp hx with hx | hx
        · exact sI _ _ _ sb (ro x hx)
        · exact road_it hqs' (fun q hq => hpr q (mem' q hq)) x hx
      generalize upd G1 p6 (.lst (os ++ acc)) = G6 at *
      have y0 : (υ.set 6 (some (V.ref p6))).length = 10 := by rw [List.length_set]; exact v0'
      have yp : (υ.set 6 (some (V.ref p6)))[0]? = some (some (.ref p)) := by rw [List.getElem?_set_ne (by decide)]; exact vp
      have yr : (υ.set 6 (some (V.ref p6)))[2]? = some (some (.ref rd)) := by rw [List.getElem?_set_ne (by decide)]; exact vr
      have yl : (υ.set 6 (some (V.ref p6)))[3]? = some (some (.ref l)) := by rw [List.getElem?_set_ne (by decide)]; exact vl
      have yf : (υ.set 6 (some (V.ref p6)))[4]? = some (some vf) := by rw [List.getElem?_set_ne (by decide)]; exact vff
      have ya : (υ.set 6 (some (V.ref p6)))[5]? = some (some (.int (i : Int))) := by rw [List.getElem?_set_ne (by decide)]; exact va
      have yo : (υ.set 6 (some (V.ref p6)))[6]? = some (some (.ref p6)) := List.getElem?_set_self (by omega)
      refine st_name ?_
      generalize υ.set 6 (some (V.ref p6)) = ω at *
      have rd6 := sta_lst (n := 12) sI _ _ _ sG6 rdG
      have gr : Gv [p] ω G6 (tVar 2) (LstE [p] (ItE K [p]) 12) := gv_var yr (sta_lst sI) rd6
      have gf : Gv [p] ω G6 (tVar 4) (LstE [p] (VdE K [p]) (16 + 11 * i)) := gv_var yf (sta_lst sV) (sta_lst sV _ _ _ sG6 rf)
      have go : Gv [p] ω G6 (tVar 6) (LstE [p] (ItE K [p]) 10) := gv_var yo (sta_lst sI) ro6
      have gl := gv_lc (K := K) (tf := tOp rCat (tOp rCat (tSl (rSlL K) (tVar 2) tNoPart (tPart (tVar 5))) (tLst (tCons (tVar 8) tNil))) (tSl (rSlL K) (tVar 2) (tPart (tOp (rI0 fun i j => V.int (i + j)) (tVar 5) (tC (.int 1)))) tNoPart)) fam_vd (i := 8) go (by decide) (fun H D x s d hD rx => by
        have sI' : Sta [D, p] (ItE K [D, p]) := sta_it
        have rdH : LstE [D, p] (ItE K [D, p]) 12 (upd H D (.lst [])) (.ref rd) := (fam_lst fam_it).new (sta_lst sI _ _ _ s rd6) hD
        have rxH : ItE K [D, p] (upd H D (.lst [])) x := fam_it.new rx hD
        have gr' : Gv [D, p] ((wipe ω [8]).set 8 (some x)) (upd H D (.lst [])) (tVar 2) (LstE [D, p] (ItE K [D, p]) 12) := gv_var ((w1_o (by decide)).trans yr) (sta_lst sI') rdH
        have ge := (w1_o (σ := ω) (i := 8) (x := x) (j := 5) (by decide)).trans ya
        exact (gv_cat sI' (gv_cat sI' (gv_sl sI' gr' gvp_no (gvp_var ge)) (gv_lst sI' (gvl_cons sI' (gv_var (w1_a (by omega)) sI' rxH) gvl_nil) (by decide)) (by decide)) (gv_sl sI' gr' (gvp_add ge) gvp_no) (by decide)).wk fun H v h => lst_vd h (by decide))
      have gd := gv_cat sI (gv_cat sI (gv_sl (K := K) sI gr gvp_no (gvp_var ya)) (gv_rep (c := 2) sI (gv_sl (K := K) sI gr (gvp_var ya) (gvp_add (c := 1) ya)) (by decide) (by decide)) (by decide)) (gv_sl (K := K) sI gr (gvp_var ya) gvp_no) (by decide)
      have ge := gv_lst (n := 1) sV (gvl_cons sV (gd.wk (R' := VdE K [p]) fun H v h => lst_vd h (by decide)) gvl_nil) (by decide)
      dsimp only
      refine gv_asg (gv_cat sV (gv_cat sV gf gl (by have := sizeLine_eq; omega)) ge (by have := sizeLine_eq; omega)) SB.same dm6 fun v7 H7 s7 r7 => ?_
      refine ⟨by rw [List.length_set]; exact y0, by rw [List.getElem?_set_ne (by decide)]; exact yp, by rw [List.getElem?_set_ne (by decide)]; exact yr, by rw [List.getElem?_set_ne (by decide)]; exact yl, (s.trans sG6).nw s7, ⟨v7, List.getElem?_set_self (by omega), r7.le (by omega)⟩, (pu6.sb s7 (by simp))⟩
  · obtain ⟨k0, kp, kr, kl, s, ⟨vf, kf, rf⟩, pu2⟩ := h
    have dm : Dom [p] G := pu2.dom
    have nlp : l ∉ [p] := by simpa using npl
    have erG : G rd = some (.lst ys) := s _ _ (by simpa using nrp) er1
    have elG : G l = some (.lst xs) := s _ _ nlp el
    have hxG : P2s K [p] G (prod nm wd) xs := hx1.sb s
    dsimp only
    refine st_ret (op_step (op_step ⟨vf, kf, _, kp, _, kl, p, l, n + 35, xs, rfl, pu2.less (by omega), RL.at elG nlp, by omega, fun q5 zs G1 nq5 eq5 perm sb1 pu3 => ?_⟩))
    refine ⟨4, rfl, q5, zs, rfl, SqL.of eq5, fun c hc => ⟨c, rfl, ⟨_, SqL.of upd_same⟩, fun D hD => ?_⟩⟩
    have cut : cutV zs none (some (4 : Int)) = zs.take 4 := cutV_to zs 4
    rw [cut] at hD ⊢
    have x2 : SB [] G1 (upd G1 c (.lst (zs.take 4))) := SB.same.new hc
    have pu4 := pu3.sb x2 (by simp)
    have sG2 : SB [p] G (upd G1 c (.lst (zs.take 4))) := sb1.nw x2
    have rz : ∀ x ∈ zs, ItE K [p] G x := fun x hx => road_it hxG hpr x (perm.mem_iff.mp hx)
    have ec : upd G1 c (.lst (zs.take 4)) c = some (.lst (zs.take 4)) := upd_same
    have lz : (zs.take 4).length ≤ 4 := by rw [List.length_take]; omega
    generalize upd G1 c (.lst (zs.take 4)) = G2 at *
    refine lc_gv (fam_vd (K := K)) (S := [p]) (RL.at ec (by simp)) pu4.dom hD (by omega) (fun x hx => ?_) fun H3 s3 r3 => ?_
    · have rx : ItE K [D, p] (upd G2 D (.lst [])) x := fam_it.new (sI _ _ _ sG2 (rz x (List.mem_of_mem_take hx))) hD
      exact (gv_lst (n := 1) sta_it (gvl_cons sta_it (gv_var (w1_a (by omega)) sta_it rx) gvl_nil) (by decide)).wk fun H v h => lst_vd h (by decide)
    · obtain ⟨D', ds, eD', nD, eD, ld, rd3⟩ := r3
      cases eD'
      have sG3 : SB [p] G H3 := sG2.nw s3
      obtain ⟨af, fs, rfl, naf, eaf, lf, rff⟩ := sta_lst sV _ _ _ sG3 rf
      refine ⟨af, D, fs, ds, rfl, rfl, eaf, eD, by have := sizeLine_eq; omega, fun p7 hp7 => ?_⟩
      have x7 : SB [] H3 (upd H3 p7 (.lst (fs ++ ds))) := SB.same.new hp7
      have pu5 := pu4.sb s3 (by simp)
      have r7 : LstE [p] (VdE K [p]) 53 (upd H3 p7 (.lst (fs ++ ds))) (.ref p7) := new_lst pu5.dom hp7 sV (by rw [List.length_append]; omega) fun x hx => (List.mem_append.mp hx).elim (rff x) (rd3 x)
      have pu6 := pu5.sb x7 (by simp)
      have sG7 : SB [p] G (upd H3 p7 (.lst (fs ++ ds))) := sG3.nw x7
      generalize upd H3 p7 (.lst (fs ++ ds)) = G7 at *
      have gr : Gv [p] σ G7 (tVar 2) (LstE [p] (ItE K [p]) 12) := gv_var kr (sta_lst sI) (sta_lst sI _ _ _ (s.trans sG7) rdI)
      have gd := gv_cat sI gr (gv_rev (K := K) sI gr) (by decide)
      refine (gv_lst (n := 1) sV (gvl_cons sV (gd.wk (R' := VdE K [p]) fun H v h => lst_vd h (by decide)) gvl_nil) (by decide)).use SB.same pu6.dom fun v8 H8 s8 r8 => ?_
      obtain ⟨a7, f7, e7, n7, ea7, l7, g7⟩ := sta_lst sV _ _ _ (s8.wide (by simp)) r7
      cases e7
      obtain ⟨a8, f8, rfl, n8, ea8, l8, g8⟩ := r8
      refine ⟨p7, a8, f7, f8, rfl, rfl, ea7, ea8, by have := sizeLine_eq; omega, fun p9 hp9 => ?_⟩
      have pu8 := pu6.sb s8 (by simp)
      have x9 : SB [] H8 (upd H8 p9 (.lst (f7 ++ f8))) := SB.same.new hp9
      have sH : SB [p] H H8 := ((u1.wide (by simp)).trans (s.trans sG7)).nw s8
      refine k p9 _ (SB.free sH hp9 (pu8.dom.out hp9)) (new_lst pu8.dom hp9 sV (by rw [List.length_append]; omega) fun x hx => (List.mem_append.mp hx).elim (g7 x) (g8 x)) (sH.nw x9) ((pu8.sb x9 (by simp)).less (by omega))
end
end K77
namespace K77
open PySem PySem.Spec PyProof.Rows C8 Ef
open L2 hiding E0 CX0 pass0 Fun
section
variable {P : Program} {w : World} {K : PySem.W.Frag} {mg : Str → Option Value} {base : Heap} {cT cC : Addr}
theorem sc__law_counts_right : FnScope ["_law_world", "_law_table_here", "_law_free", "_law_place", "_law_told", "_law_late", "_law_about", "_law_turned", "_law_person", "_law_club"] ["_law_world"] (defScope s__law_counts_right) := ⟨rfl, rfl, rfl, by decide +kernel, rfl, by decide +kernel, by decide +kernel⟩
/-! calls that give -/
section
variable {σ : L2.St} {H0 : Hp} {te tf tg : TE} {ts : TA} {nm wd nm0 wd0 : List Str} {pl pl0 pg : List (Str × Str)} {q : Str × Str} {d : PyData}
theorem sta_tab : Sta [] (fun H v => TableAt K cT [] H nm wd pl v) := fun H H' v s h => h.sb s
theorem sta_w3 : Sta [] (fun H v => W3 K [] H nm wd pl v) := fun H H' v s h => h.sb s
theorem sta_wl : Sta [] (fun H v => WorldL K [] H nm wd pl v) := fun H H' v s ⟨h, l0, l1, l2, xs, e, r, r0, r1, r2, hx⟩ => ⟨h, l0, l1, l2, xs, e, r.sb s, r0.sb s, r1.sb s, r2.sb s, hx.sb s⟩
theorem sta_p2 : Sta [] (fun H v => P2 K [] H q v) := fun H H' v s h => h.sb s
theorem sta_lp : Sta [] (fun H v => LP K [] H pl v) := fun H H' v s h => h.sb s
theorem sta_ls {ws : List Str} : Sta [] (fun H v => LS K [] H ws v) := fun H H' v s h => h.sb s
abbrev GT (K : PySem.W.Frag) (cT : Addr) (σ : L2.St) (H0 : Hp) (te : TE) (nm wd : List Str) (pl : List (Str × Str)) : Prop := Gv [] σ H0 te (fun H v => TableAt K cT [] H nm wd pl v)
abbrev GW (K : PySem.W.Frag) (σ : L2.St) (H0 : Hp) (te : TE) (nm wd : List Str) (pl : List (Str × Str)) : Prop := Gv [] σ H0 te (fun H v => W3 K [] H nm wd pl v)
abbrev GD (K : PySem.W.Frag) (σ : L2.St) (H0 : Hp) (te : TE) (d : PyData) : Prop := Gv [] σ H0 te (fun H v => Rp K [] H d v)
abbrev GP (K : PySem.W.Frag) (σ : L2.St) (H0 : Hp) (te : TE) (q : Str × Str) : Prop := Gv [] σ H0 te (fun H v => P2 K [] H q v)
abbrev a1 (te : TE) : TA := tCons te tNil
abbrev a2 (te tf : TE) : TA := tCons te (tCons tf tNil)
abbrev a3 (te tf tg : TE) : TA := tCons te (tCons tf (tCons tg tNil))
theorem gv_tableL (g : Gv [] σ H0 te (fun H v => WorldL K [] H nm0 wd0 pl0 v)) (ok : TOk nm0 nm wd0 wd pl0 pl) : GT K cT σ H0 (tCall (spTable K cT) [] E0 (a1 te)) nm wd pl :=
  gv_call (gvt_cons sta_wl g gvt_nil) fun H vs Q s d ⟨v, us, e, hv, eu⟩ k => by
    subst e eu
    exact ⟨[], v, nm0, nm, wd0, wd, pl0, pl, rfl, Dom.nil, hv, ok, fun x H' s' _ t => k _ _ (SB.of s') t⟩
theorem gv_table (g : GW K σ H0 te nm wd pl) (wo : WO nm wd pl) : GT K cT σ H0 (tCall (spTable K cT) [] E0 (a1 te)) nm wd pl :=
  gv_tableL (g.wk fun H v h => h.l) (wo.tok (List.Perm.refl _) (List.Perm.refl _) (List.Perm.refl _))
theorem gv_squares (g : GT K cT σ H0 te nm wd pl) (wo : WO nm wd pl) : GD K σ H0 (tCall (spSquares K cT) [] E0 (a1 te)) (.int (allSq nm wd pl : Int)) :=
  gv_call (gvt_cons sta_tab g gvt_nil) fun H vs Q s d ⟨v, us, e, hv, eu⟩ k => by
    subst e eu
    exact ⟨v, nm, wd, pl, rfl, hv, wo.ne, wo.n60, wo.d60, fun H' s' => k _ _ (SB.of s') (by rw [squares_all] <;> rfl)⟩
theorem gv_lets (g : GT K cT σ H0 te nm wd pl) (wo : WO nm wd pl) : Gv [] σ H0 (tCall (spLetPlaces K cT) [] E0 (a1 te)) (fun H v => LP K [] H (freeP nm wd pl) v) :=
  gv_call (gvt_cons sta_tab g gvt_nil) fun H vs Q s d ⟨v, us, e, hv, eu⟩ k => by
    subst e eu
    exact ⟨v, nm, wd, pl, rfl, hv, wo.ne, wo.n60, wo.d60, fun l ys H' s' _ el hys => k _ _ (SB.of s') ⟨l, ys, rfl, RL.at el (by simp), let_free wo ▸ hys⟩⟩
theorem gv_loneT (g : GT K cT σ H0 te nm wd pl) (wo : WO nm wd pl) : GD K σ H0 (tCall (spLoneT K cT) [] E0 (a1 te)) (.bool (decide (freeP nm wd pl = []))) :=
  gv_call (gvt_cons sta_tab g gvt_nil) fun H vs Q s d ⟨v, us, e, hv, eu⟩ k => by
    subst e eu
    refine ⟨v, nm, wd, pl, rfl, hv, wo.ne, wo.n60, wo.d60, fun H' s' => k _ _ (SB.of s') ?_⟩
    show V.bl _ = V.bl _
    rw [← let_free wo]
    exact congrArg V.bl (decide_eq_decide.mpr (by rw [List.map_eq_nil_iff]))
theorem gv_someLet (g : GT K cT σ H0 te nm wd pl) (wo : WO nm wd pl) : GD K σ H0 (tCall (spSomeLet K cT) [] E0 (a1 te)) (dOpt (freeP nm wd pl).head?) :=
  gv_call (gvt_cons sta_tab g gvt_nil) fun H vs Q s d ⟨v, us, e, hv, eu⟩ k => by
    subst e eu
    exact ⟨v, nm, wd, pl, rfl, hv, wo, fun y H' s' r => k _ _ (SB.of s') r⟩
theorem gv_allSq (g : GW K σ H0 te nm wd pl) (wo : WO nm wd pl) : GD K σ H0 (tCall (spAllSq K) [] E0 (a1 te)) (.int (allSq nm wd pl : Int)) :=
  gv_call (gvt_cons sta_w3 g gvt_nil) fun H vs Q s d ⟨v, us, e, hv, eu⟩ k => by
    subst e eu
    exact ⟨v, nm, wd, pl, rfl, hv, wo, fun H' s' => k _ _ (SB.of s') rfl⟩
theorem gv_throughT (g : GT K cT σ H0 te nm wd pl) (h : GP K σ H0 tf q) (wo : WO nm wd pl) (mq : q ∈ prod nm wd) : GD K σ H0 (tCall (spThroughT K cT) [] E0 (a2 te tf)) (.int (thr nm wd pl q : Nat)) :=
  gv_call (gvt_cons sta_tab g (gvt_cons sta_p2 h gvt_nil)) fun H vs Q s d ⟨v, us, e, hv, u, us', e2, hu, eu⟩ k => by
    subst e2 e eu
    obtain ⟨i, j, hat⟩ := at_of mq
    exact ⟨v, u, nm, wd, pl, q, i, j, rfl, hv, wo, hu, hat, fun H' s' => k _ _ (SB.of s') (by rw [acr_thr wo hat] <;> rfl)⟩
theorem gv_through (g : GW K σ H0 te nm wd pl) (h : GP K σ H0 tf q) (wo : WO nm wd pl) : GD K σ H0 (tCall (spThrough K) [] E0 (a2 te tf)) (.int (thr nm wd pl q : Nat)) :=
  gv_call (gvt_cons sta_w3 g (gvt_cons sta_p2 h gvt_nil)) fun H vs Q s d ⟨v, us, e, hv, u, us', e2, hu, eu⟩ k => by
    subst e2 e eu
    have l25 := wo.l25
    exact ⟨v, u, nm, wd, pl, q, rfl, hv, hu, wo.nd, wo.n60, wo.d60, by omega, fun H' s' => k _ _ (SB.of s') rfl⟩
theorem gv_moved (g : GT K cT σ H0 te nm wd pl) (h : GP K σ H0 tf q) (wo : WO nm wd pl) (fq : q ∈ freeP nm wd pl) : GT K cT σ H0 (tCall (spMovedF K cT) [] E0 (a2 te tf)) nm wd (shiftP pl q) :=
  gv_call (gvt_cons sta_tab g (gvt_cons sta_p2 h gvt_nil)) fun H vs Q s d ⟨v, us, e, hv, u, us', e2, hu, eu⟩ k => by
    subst e2 e eu
    exact ⟨v, u, nm, wd, pl, q, rfl, hv, wo, hu, fq, fun x H' s' _ t => k _ _ (SB.of s') t⟩
theorem gv_shifted (g : GW K σ H0 te nm wd pl) (h : GP K σ H0 tf q) (wo : WO nm wd pl) (mq : q ∈ prod nm wd) : GW K σ H0 (tCall (spShift K) [] E0 (a2 te tf)) nm wd (shiftP pl q) :=
  gv_call (gvt_cons sta_w3 g (gvt_cons sta_p2 h gvt_nil)) fun H vs Q s d ⟨v, us, e, hv, u, us', e2, hu, eu⟩ k => by
    subst e2 e eu
    have l25 := wo.l25
    exact ⟨[], v, u, nm, wd, pl, q, rfl, Dom.nil, hv, hu, by omega, wo.nd, wo.tw.2.2, wo.pok mq, fun x H' s' _ t => k _ _ (SB.of s') t⟩
theorem gv_worldOf (g : GT K cT σ H0 te nm wd pl) : GW K σ H0 (tCall (spWorldOf K cT) [] E0 (a1 te)) nm wd pl :=
  gv_call (gvt_cons sta_tab g gvt_nil) fun H vs Q s d ⟨v, us, e, hv, eu⟩ k => by
    subst e eu
    exact ⟨v, nm, wd, pl, rfl, hv, fun v' H' s' h => k _ _ (SB.of s') h⟩
theorem gv_wD (g : GW K σ H0 te nm wd pl) : GD K σ H0 te (dWorld nm wd pl) := g.wk fun H v h => h.rp
theorem gv_lpD (g : Gv [] σ H0 te (fun H v => LP K [] H pl v)) : GD K σ H0 te (dP pl) := g.wk fun H v h => lp_rp h
theorem gv_exact {n : Nat} (g : GD K σ H0 te d) (h : GD K σ H0 tf d) (dep : Dep n d) : Gv [] σ H0 (tCall (spExact K n) [] E0 (a2 te tf)) (fun _ v => v = .bl true) :=
  gv_call (gvt_cons sta_rp g (gvt_cons sta_rp h gvt_nil)) fun H vs Q s dm ⟨v, us, e, hv, u, us', e2, hu, eu⟩ k => by
    subst e2 e eu
    exact ⟨d, v, u, rfl, hv, hu, dep, fun H' s' => k _ _ (SB.of s') rfl⟩
theorem gv_ls2 {d1 d2 : PyData} (g : GD K σ H0 te d1) (h : GD K σ H0 tf d2) : GD K σ H0 (tLst (a2 te tf)) (.list [d1, d2]) := gv_lstD (gvt_rp g (gvt_rp h gvt_rp0)) (show (2 : Nat) ≤ sizeLine by decide)
theorem gv_ls3 {d1 d2 d3 : PyData} (g : GD K σ H0 te d1) (h : GD K σ H0 tf d2) (i : GD K σ H0 tg d3) : GD K σ H0 (tLst (a3 te tf tg)) (.list [d1, d2, d3]) := gv_lstD (gvt_rp g (gvt_rp h (gvt_rp i gvt_rp0))) (show (3 : Nat) ≤ sizeLine by decide)
theorem dep_int (n : Nat) (i : Int) : Dep n (.int i) := trivial
theorem dep_lp {n : Nat} (h : pl.length ≤ 1000) : Dep (n + 2) (dP pl) := ⟨n + 1, rfl, by rw [List.length_map]; exact h, depL_pairs _ _⟩
theorem dep2 {n : Nat} {d1 d2 : PyData} (h1 : Dep n d1) (h2 : Dep n d2) : Dep (n + 1) (.list [d1, d2]) := ⟨n, rfl, (show (2 : Nat) ≤ 1000 by decide), h1, h2, trivial⟩
theorem dep3 {n : Nat} {d1 d2 d3 : PyData} (h1 : Dep n d1) (h2 : Dep n d2) (h3 : Dep n d3) : Dep (n + 1) (.list [d1, d2, d3]) := ⟨n, rfl, (show (3 : Nat) ≤ 1000 by decide), h1, h2, h3, trivial⟩
theorem gv_free (g : GW K σ H0 te nm wd pl) (wo : WO nm wd pl) : Gv [] σ H0 (tCall (spFree K) [] E0 (a1 te)) (fun H v => LP K [] H (freeP nm wd pl) v) :=
  gv_call (gvt_cons sta_w3 g gvt_nil) fun H vs Q s d ⟨v, us, e, hv, eu⟩ k => by
    subst e eu
    have l25 := wo.l25
    exact ⟨v, nm, wd, pl, rfl, hv, wo.nd, wo.n60, wo.d60, by omega, fun l ys H' s' _ el hys => k _ _ (SB.of s') ⟨l, ys, rfl, RL.at el (by simp), hys⟩⟩
theorem gv_places (g : GW K σ H0 te nm wd pl) (wo : WO nm wd pl) : Gv [] σ H0 (tCall (spPlaces K) [] E0 (a1 te)) (fun H v => LP K [] H (prod nm wd) v) :=
  gv_call (gvt_cons sta_w3 g gvt_nil) fun H vs Q s d ⟨v, us, e, hv, eu⟩ k => by
    subst e eu
    obtain ⟨h, l0, l1, l2, xs, rfl, r, r0, r1, r2, hx⟩ := id hv
    exact ⟨h, _, _, _, nm, wd, rfl, r, ⟨l0, rfl, r0⟩, ⟨l1, rfl, r1⟩, wo.n60, wo.d60, fun l ys H' s' _ el hys _ => k _ _ (SB.of s') ⟨l, ys, rfl, RL.at el (by simp), hys⟩⟩
/-- any place of a list of places -/
def PlE (K : PySem.W.Frag) (ps : List (Str × Str)) (H : Hp) (v : V) : Prop := ∃ q, q ∈ ps ∧ P2 K [] H q v
theorem sta_ple {ps : List (Str × Str)} : Sta [] (PlE K ps) := fun H H' v s ⟨q, m, h⟩ => ⟨q, m, h.sb s⟩
theorem lp_ls {H : Hp} {v : V} {ps : List (Str × Str)} (h : LP K [] H ps v) : LsR K (PlE K ps) H v := by
  obtain ⟨a, xs, e, r, hx⟩ := h
  refine ⟨a, xs, e, r, fun x hx' => ?_⟩
  obtain ⟨i, hi⟩ := List.getElem?_of_mem hx'
  obtain ⟨q, hq, pq⟩ := Paired.at1 hx hi
  exact ⟨q, List.mem_of_getElem? hq, pq⟩
theorem lp_dp' {H : Hp} {v : V} {ps : List (Str × Str)} (h : LP K [] H ps v) : Dp K H v (dP ps) := by
  obtain ⟨a, xs, rfl, r, hx⟩ := h
  exact lp_dp r hx
theorem nil_dp {H : Hp} {v : V} (h : LstE [] (fun _ _ => True) 0 H v) : Dp K H v (.list []) := by
  obtain ⟨a, xs, rfl, na, ha, l, _⟩ := h
  have e : xs = [] := List.length_eq_zero_iff.mp (by omega)
  subst e
  exact Rp.dp (S := []) ⟨a, [], rfl, RL.at ha na, rfl⟩
theorem sta_true : Sta [] (fun _ _ => True) := fun _ _ _ _ _ => trivial
theorem gv_nilL : Gv [] σ H0 (tLst tNil) (LstE [] (fun _ _ => True) 0) := gv_lst sta_true gvl_nil (by decide)
theorem gv_eqNil {ps : List (Str × Str)} (g : Gv [] σ H0 te (fun H v => LP K [] H ps v)) (ok : ∀ q ∈ ps, PairOk q) : Gv [] σ H0 (tOp (rEqD K) te (tLst tNil)) (fun _ v => v = .bl (decide (ps = []))) :=
  gv_op sta_lp g gv_nilL fun H x y Q s d hx hy k => ⟨dP ps, .list [], lp_dp' hx, nil_dp hy, shaped_ps ok, shaped_nil, k _ H SB.same (by rw [eqv_nil])⟩
theorem gv_neNil {ps : List (Str × Str)} (g : Gv [] σ H0 te (fun H v => LP K [] H ps v)) (ok : ∀ q ∈ ps, PairOk q) : Gv [] σ H0 (tOp (rNeD K) te (tLst tNil)) (fun _ v => v = .bl (!decide (ps = []))) :=
  gv_op sta_lp g gv_nilL fun H x y Q s d hx hy k => ⟨dP ps, .list [], lp_dp' hx, nil_dp hy, shaped_ps ok, shaped_nil, k _ H SB.same (by rw [eqv_nil])⟩
theorem gv_head {ps : List (Str × Str)} {q : Str × Str} {r : List (Str × Str)} (g : Gv [] σ H0 te (fun H v => LP K [] H ps v)) (e : ps = q :: r) : GP K σ H0 (tOp (rIxL K) te (tC (.int 0))) q :=
  gv_op (Rb := fun _ v => v = .int 0) sta_lp g (gv_c fun _ => rfl) fun H x y Q s d hx hy k => by
    subst hy
    obtain ⟨a, xs, rfl, ha, hp⟩ := hx
    subst e
    cases hp with
    | @cons _ z _ zs h1 h2 => exact ⟨a, z :: zs, 0, z, rfl, rfl, ha.sq, atI_nat (j := 0) rfl, k _ H SB.same h1⟩
theorem gv_inP {ps : List (Str × Str)} {q : Str × Str} (g : GP K σ H0 te q) (h : Gv [] σ H0 tf (fun H v => LP K [] H ps v)) (ok : ∀ q ∈ ps, PairOk q) (qk : PairOk q) : Gv [] σ H0 (tOp (rInD K) te tf) (fun _ v => v = .bl (decide (q ∈ ps))) :=
  gv_op sta_p2 g h fun H x y Q s d hx hy k => ⟨dP1 q, ps.map dP1, p2_dp hx, lp_dp' hy, shaped_p qk, shaped_ps ok, k _ H SB.same (by rw [any_eqv_p])⟩
/-! the parts of a world -/
theorem gv_w0 (g : GW K σ H0 te nm wd pl) : Gv [] σ H0 (tOp (rIxL K) te (tC (.int 0))) (fun H v => LS K [] H nm v) :=
  gv_op (Rb := fun _ v => v = .int 0) sta_w3 g (gv_c fun _ => rfl) fun H x y Q s d hx hy k => by
    subst hy
    obtain ⟨h, l0, l1, l2, xs, rfl, r, r0, r1, r2, hp⟩ := hx
    exact ⟨h, _, 0, _, rfl, rfl, r.sq, atI_nat (j := 0) rfl, k _ H SB.same ⟨l0, rfl, r0⟩⟩
theorem gv_w1 (g : GW K σ H0 te nm wd pl) : Gv [] σ H0 (tOp (rIxL K) te (tC (.int 1))) (fun H v => LS K [] H wd v) :=
  gv_op (Rb := fun _ v => v = .int 1) sta_w3 g (gv_c fun _ => rfl) fun H x y Q s d hx hy k => by
    subst hy
    obtain ⟨h, l0, l1, l2, xs, rfl, r, r0, r1, r2, hp⟩ := hx
    exact ⟨h, _, 1, _, rfl, rfl, r.sq, atI_nat (j := 1) rfl, k _ H SB.same ⟨l1, rfl, r1⟩⟩
theorem gv_w2 (g : GW K σ H0 te nm wd pl) : Gv [] σ H0 (tOp (rIxL K) te (tC (.int 2))) (fun H v => LP K [] H pl v) :=
  gv_op (Rb := fun _ v => v = .int 2) sta_w3 g (gv_c fun _ => rfl) fun H x y Q s d hx hy k => by
    subst hy
    obtain ⟨h, l0, l1, l2, xs, rfl, r, r0, r1, r2, hp⟩ := hx
    exact ⟨h, _, 2, _, rfl, rfl, r.sq, atI_nat (j := 2) rfl, k _ H SB.same ⟨l2, xs, rfl, r2.rl, hp⟩⟩
theorem gv_revLS {ws : List Str} (g : Gv [] σ H0 te (fun H v => LS K [] H ws v)) : Gv [] σ H0 (tRev K te) (fun H v => LS K [] H ws.reverse v) := fun H Q s d k =>
  g H _ s d fun v H1 s1 ⟨a, e, h⟩ => ⟨a, e, .inl ⟨_, h.sq, fun p hp => k _ _ (s1.new hp) ⟨p, rfl, RL.at (by rw [List.map_reverse]; exact upd_same) (by simp)⟩⟩⟩
theorem gv_revLP (g : Gv [] σ H0 te (fun H v => LP K [] H pl v)) : Gv [] σ H0 (tRev K te) (fun H v => LP K [] H pl.reverse v) := fun H Q s d k =>
  g H _ s d fun v H1 s1 ⟨a, xs, e, h, hx⟩ => ⟨a, e, .inl ⟨_, h.sq, fun p hp => k _ _ (s1.new hp) ⟨p, _, rfl, RL.at upd_same (by simp), P2s.sb (paired_rev hx) (SB.same.new hp)⟩⟩⟩
theorem gv_world {ws us : List Str} (g : Gv [] σ H0 te (fun H v => LS K [] H ws v)) (h : Gv [] σ H0 tf (fun H v => LS K [] H us v)) (i : Gv [] σ H0 tg (fun H v => LP K [] H pl v)) : Gv [] σ H0 (tLst (a3 te tf tg)) (fun H v => WorldL K [] H ws us pl v) := fun H Q s d k =>
  op_lst <| (gvt_cons sta_ls g (gvt_cons sta_ls h (gvt_cons sta_lp i gvt_nil))) H _ s d fun vs H1 s1 ⟨v, _, e, hv, u, _, e2, hu, x, _, e3, hx, e4⟩ => by
    subst e4 e3 e2 e
    refine ⟨(show (3 : Nat) ≤ sizeLine by decide), fun p hp => k _ _ (s1.new hp) ?_⟩
    have s2 := (SB.same (S := [])).new (o := .lst [v, u, x]) hp
    obtain ⟨b0, rfl, r0⟩ := hv
    obtain ⟨b1, rfl, r1⟩ := hu
    obtain ⟨b2, zs, rfl, r2, hz⟩ := hx
    exact ⟨p, b0, b1, b2, zs, rfl, RL.at upd_same (by simp), r0.sb s2, r1.sb s2, r2.sb s2, hz.sb s2⟩
theorem gv_make (g : Gv [] σ H0 te (fun H v => LS K [] H nm0 v)) (h : Gv [] σ H0 tf (fun H v => LS K [] H wd0 v)) (i : Gv [] σ H0 tg (fun H v => LP K [] H pl0 v)) (ok : TOk nm0 nm wd0 wd pl0 pl) : GT K cT σ H0 (tMake cT (spInit K cT) [] E0 (a3 te tf tg)) nm wd pl := fun H Q s d k =>
  op_mk <| (gvt_cons sta_ls g (gvt_cons sta_ls h (gvt_cons sta_lp i gvt_nil))) H _ s d fun vs H1 s1 ⟨v, _, e, hv, u, _, e2, hu, x, _, e3, hx, e4⟩ => by
    subst e4 e3 e2 e
    obtain ⟨b0, rfl, r0⟩ := hv
    obtain ⟨b1, rfl, r1⟩ := hu
    obtain ⟨b2, zs, rfl, r2, hz⟩ := hx
    exact make_table Dom.nil r0 r1 r2 hz ok fun y H' s' _ t => k _ _ (s1.trans (SB.of s')) t
theorem gv_swap {i j : Nat} (hij : i ≠ j) (hi : i < σ.length) (hj : j < σ.length) (g : Gv [] σ H0 te (fun H v => LP K [] H pl v)) (hn : pl.length ≤ 1000) : Gv [] σ H0 (tLc (iList K te) (gTup K 2 (gCons (gName i) (gCons (gName j) gNil))) tYes (tTup (a2 (tVar j) (tVar i))) [i, j]) (fun H v => LP K [] H (pl.map swapP) v) := fun H Q s d k =>
  g H _ s d fun v H1 s1 ⟨a, xs, e, h, hx⟩ => by
    subst e
    have lx := hx.len
    refine ⟨a, rfl, ⟨_, h.sq⟩, fun D hD => ?_⟩
    refine lcR (S := []) h hD (fun n acc G => P2s K [] G ((pl.take n).map swapP) acc) .nil (fun n x acc G hxn sb e hl hA => ?_) (fun G acc sb e hl hA => ?_)
    · obtain ⟨q, hq, t, rfl, nt, et⟩ := Paired.at1 hx hxn
      refine ⟨t, _, rfl, SqT.of (sb _ _ nt et), rfl, _, _, rfl, _, _, rfl, rfl, wipe2 hij, ?_⟩
      refine ⟨_, List.getElem?_set_self (by rw [List.length_set, wipe_length]; exact hj), _, by rw [List.getElem?_set_ne (Ne.symm hij)]; exact List.getElem?_set_self (by rw [wipe_length]; exact hi), (show (2 : Nat) ≤ sizeLine by decide), fun p hp => ?_⟩
      have s2 := (SB.same (S := [])).new (o := .tup [.str q.2, .str q.1]) hp
      have e2 := s2 _ _ (by simp) e
      refine Pc.put (n := 1000) hD (by have := (List.getElem?_eq_some_iff.mp hxn).1; omega) (by decide) hl (sb.trans s2) e2 ?_
      rw [List.take_add_one, hq, List.map_append]
      exact p2s_put (Paired.app (P2s.sb hA s2) (.cons ⟨p, rfl, RT2.at upd_same (by simp)⟩ .nil)) e2
    · rw [lx, List.take_length] at hA
      exact k _ _ (s1.trans sb) ⟨D, acc, rfl, RL.at e (by simp), hA⟩
theorem gv_sortP {ws m : List (Str × Str)} (g : Gv [] σ H0 te (fun H v => LP K [] H ws v)) (p : ws.Perm m) (hm : AscP m) (hl : ws.length ≤ 10000) : Gv [] σ H0 (tCB (rSortedD K) (a1 te)) (fun H v => LP K [] H m v) :=
  gv_callB (gvt_cons sta_lp g gvt_nil) fun H vs Q s d ⟨v, us, e, hv, eu⟩ k => by
    subst e eu
    obtain ⟨a, xs, rfl, h, hx⟩ := hv
    exact sorted_lp h hx p hm hl fun r ys hr hys => k _ _ (SB.same.new hr) ⟨r, ys, rfl, RL.at upd_same (by simp), hys.sb (SB.same.new hr)⟩
end
end
end K77
namespace K77
open PySem PySem.Spec PyProof.Rows C8 Ef
open L2 hiding E0 CX0 pass0 Fun
section
variable {P : Program} {w : World} {K : PySem.W.Frag} {mg : Str → Option Value} {base : Heap} {cT cC : Addr}
theorem gv_headOr {σ : L2.St} {H0 : Hp} {te : TE} {ps : List (Str × Str)} (g : Gv [] σ H0 te (fun H v => LP K [] H ps v)) (ok : ∀ q ∈ ps, PairOk q) : GD K σ H0 (tIf (tTest (tOp (rNeD K) te (tLst tNil))) (tOp (rIxL K) te (tC (.int 0))) (tC .non)) (dOpt ps.head?) :=
  gv_if (gvb_test (gv_neNil g ok)) (fun h => by
    have h : ps ≠ [] := by simpa using h
    obtain ⟨q, r, e⟩ := List.exists_cons_of_ne_nil h
    rw [show dOpt ps.head? = dP1 q by rw [e] <;> rfl]
    exact (gv_head g e).wk fun H v h => p2_rp h) (fun h => by
    have h : ps = [] := by simpa using h
    rw [h]
    exact gv_c fun _ => rfl)
theorem dep_worldN {n : Nat} {nm wd : List Str} {pl : List (Str × Str)} (h : WO nm wd pl) : Dep (n + 3) (dWorld nm wd pl) := by
  have l25 := h.l25
  have n2 := h.n2
  have d2 := h.d2
  exact ⟨n + 2, rfl, (show (3 : Nat) ≤ 1000 by decide), ⟨n + 1, rfl, by rw [List.length_map]; omega, depL_strs _ _⟩, ⟨n + 1, rfl, by rw [List.length_map]; omega, depL_strs _ _⟩, ⟨n + 1, rfl, by rw [List.length_map]; omega, depL_pairs _ _⟩, trivial⟩
theorem gv_nilLP {σ : L2.St} {H0 : Hp} : Gv [] σ H0 (tLst tNil) (fun H v => LP K [] H [] v) := gv_nilL.wk fun H v ⟨a, xs, e, na, ha, l, _⟩ => by
  have ex : xs = [] := List.length_eq_zero_iff.mp (by omega)
  subst ex e
  exact ⟨a, [], rfl, RL.at ha na, .nil⟩
theorem free_len {nm wd : List Str} {pl : List (Str × Str)} (wo : WO nm wd pl) : (freeP nm wd pl).length ≤ 25 := by
  refine Nat.le_trans (List.length_filter_le _ _) ?_
  rw [prod_len]
  exact Nat.mul_le_mul wo.n2 wo.d2
/-- a list of let places that nothing else knows -/
theorem gv_letsN {σ : L2.St} {H0 : Hp} {te : TE} {nm wd : List Str} {pl : List (Str × Str)} (g : GT K cT σ H0 te nm wd pl) (wo : WO nm wd pl) : Gv [] σ H0 (tCall (spLetPlaces K cT) [] E0 (a1 te)) (fun H v => ∃ l ys, v = .ref l ∧ H l = some (.lst ys) ∧ ys.length ≤ 25 ∧ H0 l = none ∧ P2s K [] H (freeP nm wd pl) ys) :=
  gv_call (gvt_cons sta_tab g gvt_nil) fun H vs Q s d ⟨v, us, e, hv, eu⟩ k => by
    subst e eu
    exact ⟨v, nm, wd, pl, rfl, hv, wo.ne, wo.n60, wo.d60, fun l ys H' s' n el hys => k _ _ (SB.of s') ⟨l, ys, rfl, el, by
      have := (let_free wo ▸ hys : P2s K [] H' (freeP nm wd pl) ys).len
      rw [this]
      exact free_len wo, SB.free s n (by simp), let_free wo ▸ hys⟩⟩
def spCounts (K : PySem.W.Frag) : Sp := fun vs H Q _ => ∃ (v : V) (nm wd : List Str) (pl : List (Str × Str)), vs = [v] ∧ W3 K [] H nm wd pl v ∧ WO nm wd pl ∧ ∀ H', Same H H' → Q (.bl true) H'
theorem ok_counts (M : Fx K mg cT cC) (F : Fn K mg "_law_counts_right" s__law_counts_right) (c__law_table : Cal P w K mg base 6 "_law_table" (spTable K cT) []) (c__law_free_places : Cal P w K mg base 2 "_law_free_places" (spFree K) []) (c_squares_of : Cal P w K mg base 2 "squares_of" (spSquares K cT) [])
    (c_let_places : Cal P w K mg base 3 "let_places" (spLetPlaces K cT) []) (c__law_all_squares : Cal P w K mg base 3 "_law_all_squares" (spAllSq K) []) (c_is_lone_table : Cal P w K mg base 4 "is_lone_table" (spLoneT K cT) []) (c_some_let_place : Cal P w K mg base 4 "some_let_place" (spSomeLet K cT) [])
    (c__law_places : Cal P w K mg base 1 "_law_places" (spPlaces K) []) (c_squares_through : Cal P w K mg base 4 "squares_through" (spThroughT K cT) []) (c__law_through : Cal P w K mg base 1 "_law_through" (spThrough K) []) (c__law_world_of_table : Cal P w K mg base 2 "_law_world_of_table" (spWorldOf K cT) [])
    (c_moved : Cal P w K mg base 7 "moved" (spMovedF K cT) []) (c__law_shifted : Cal P w K mg base 1 "_law_shifted" (spShift K) []) (c__law_exact : Cal P w K mg base 5 "_law_exact" (spExact K 4) []) (c_Table : Mak P w K mg base 4 "Table" cT (spInit K cT) []) : Cal P w K mg base 8 "_law_counts_right" (spCounts K) [] := by
  refine F.cal sc__law_counts_right (fun _ _ F => FunD.bindsN F fun _ _ _ _ _ _ us hl => match us, hl with | [_], _ => rfl) (fun vs H Q E h => by obtain ⟨_, _, _, _, rfl, _⟩ := h; rfl) (fun f cdv A outer st H vs Q E hr h => ⟨_, PSs.nox ((pss_cons (ps_par (i := 1) (j := 2) rfl sc__law_counts_right.nd rfl rfl (by decide) rfl rfl (pa_cons (pe_c c__law_table hr (by first | decide | omega) (by rfl) (pa_cons (pv 0) pa_nil)) (pa_cons (pe_c c__law_free_places hr (by first | decide | omega) (by rfl) (pa_cons (pv 0) pa_nil)) pa_nil)) (by rfl))
  (pss_cons (ps_if (pt_not (pt_val (pe_c c__law_exact hr (by first | decide | omega) (by rfl) (pa_cons (pe_lst (pa_cons (pe_c c_squares_of hr (by first | decide | omega) (by rfl) (pa_cons (pv 1) pa_nil)) (pa_cons (pe_c c_let_places hr (by first | decide | omega) (by rfl) (pa_cons (pv 1) pa_nil)) pa_nil))) (pa_cons (pe_lst (pa_cons (pe_c c__law_all_squares hr (by first | decide | omega) (by rfl) (pa_cons (pv 0) pa_nil)) (pa_cons (pv 2) pa_nil))) pa_nil))))) (pss_one (ps_ret pe_bl)) pss_nil)
  (pss_cons (ps_if (pt_not (pt_val (pe_c c__law_exact hr (by first | decide | omega) (by rfl) (pa_cons (pe_lst (pa_cons (pe_c c_is_lone_table hr (by first | decide | omega) (by rfl) (pa_cons (pv 1) pa_nil)) (pa_cons (pe_c c_some_let_place hr (by first | decide | omega) (by rfl) (pa_cons (pv 1) pa_nil)) pa_nil))) (pa_cons (pe_lst (pa_cons (pe_cmpR (eqDQ (K := K) rfl hr.units) (pv 2) (pe_lst pa_nil) (nomark _)) (pa_cons (pe_ifExp (pt_cmpR (neDQ (K := K) rfl hr.units) (pv 2) (pe_lst pa_nil) (nomark _)) (pe_ix (ixL (K := K) rfl) (pv 2) pe_int (fun _ _ => rfl)) pe_non) pa_nil))) pa_nil))))) (pss_one (ps_ret pe_bl)) pss_nil)
  (pss_cons (ps_for PassesOwn.never rfl (pi_listQ (K := K) rfl (pe_c c__law_places hr (by first | decide | omega) (by rfl) (pa_cons (pv 0) pa_nil))) (pg_name (i := 3) sc__law_counts_right.nd rfl (Or.inl rfl)) (pss_cons (ps_if (pt_not (pt_val (pe_c c__law_exact hr (by first | decide | omega) (by rfl) (pa_cons (pe_c c_squares_through hr (by first | decide | omega) (by rfl) (pa_cons (pv 1) (pa_cons (pv 3) pa_nil))) (pa_cons (pe_c c__law_through hr (by first | decide | omega) (by rfl) (pa_cons (pv 0) (pa_cons (pv 3) pa_nil))) pa_nil))))) (pss_one (ps_ret pe_bl)) pss_nil)
  (pss_one (ps_if (PW.pt (pw_and (pt_cmpR (inDQ (K := K) rfl (room65 hr)) (pv 3) (pv 2) rfl) (pw_and1 (pt_not (pt_val (pe_c c__law_exact hr (by first | decide | omega) (by rfl) (pa_cons (pe_c c__law_world_of_table hr (by first | decide | omega) (by rfl) (pa_cons (pe_c c_moved hr (by first | decide | omega) (by rfl) (pa_cons (pv 1) (pa_cons (pv 3) pa_nil))) pa_nil)) (pa_cons (pe_c c__law_shifted hr (by first | decide | omega) (by rfl) (pa_cons (pv 0) (pa_cons (pv 3) pa_nil))) pa_nil)))))))) (pss_one (ps_ret pe_bl)) pss_nil))))
  (pss_cons (ps_set (i := 4) sc__law_counts_right.nd rfl (Or.inl rfl) (pe_c c_let_places hr (by first | decide | omega) (by rfl) (pa_cons (pv 1) pa_nil)))
  (pss_cons (ps_expr (pe_bm PySem.F.plainAttrs_list PySem.F.slot_list_append PySem.F.type_list_append mt_append (pe_c c_let_places hr (by first | decide | omega) (by rfl) (pa_cons (pe_mk c_Table hr (by decide) (by rfl) (pa_cons (pe_ix (ixL (K := K) rfl) (pv 0) pe_int (fun _ _ => rfl)) (pa_cons (pe_ix (ixL (K := K) rfl) (pv 0) pe_int (fun _ _ => rfl)) (pa_cons (pe_lst pa_nil) pa_nil)))) pa_nil)) (pa_cons pe_non pa_nil)))
  (pss_cons (ps_if (pt_not (pt_val (pe_c c__law_exact hr (by first | decide | omega) (by rfl) (pa_cons (pv 4) (pa_cons (pv 2) pa_nil))))) (pss_one (ps_ret pe_bl)) pss_nil)
  (pss_cons (ps_expr (pe_bm PySem.F.plainAttrs_list PySem.F.slot_list_append PySem.F.type_list_append mt_append (pv 4) (pa_cons pe_non pa_nil)))
  (pss_cons (ps_set (i := 5) sc__law_counts_right.nd rfl (Or.inl rfl) (pe_c c__law_table hr (by first | decide | omega) (by rfl) (pa_cons (pe_lst (pa_cons (pe_revQ (K := K) rfl (pe_ix (ixL (K := K) rfl) (pv 0) pe_int (fun _ _ => rfl)) (pe_un un_neg pe_int)) (pa_cons (pe_revQ (K := K) rfl (pe_ix (ixL (K := K) rfl) (pv 0) pe_int (fun _ _ => rfl)) (pe_un un_neg pe_int)) (pa_cons (pe_revQ (K := K) rfl (pe_ix (ixL (K := K) rfl) (pv 0) pe_int (fun _ _ => rfl)) (pe_un un_neg pe_int)) pa_nil)))) pa_nil)))
  (pss_cons (ps_if (pt_not (pt_val (pe_c c__law_exact hr (by first | decide | omega) (by rfl) (pa_cons (pe_lst (pa_cons (pe_c c_let_places hr (by first | decide | omega) (by rfl) (pa_cons (pv 1) pa_nil)) (pa_cons (pe_c c_let_places hr (by first | decide | omega) (by rfl) (pa_cons (pv 5) pa_nil)) (pa_cons (pe_c c_squares_of hr (by first | decide | omega) (by rfl) (pa_cons (pv 5) pa_nil)) pa_nil)))) (pa_cons (pe_lst (pa_cons (pv 2) (pa_cons (pv 2) (pa_cons (pe_c c__law_all_squares hr (by first | decide | omega) (by rfl) (pa_cons (pv 0) pa_nil)) pa_nil)))) pa_nil))))) (pss_one (ps_ret pe_bl)) pss_nil)
  (pss_cons (ps_set (i := 6) sc__law_counts_right.nd rfl (Or.inl rfl) (pe_mk c_Table hr (by decide) (by rfl) (pa_cons (pe_ix (ixL (K := K) rfl) (pv 0) pe_int (fun _ _ => rfl)) (pa_cons (pe_ix (ixL (K := K) rfl) (pv 0) pe_int (fun _ _ => rfl)) (pa_cons (pe_lc rfl sc__law_counts_right.nd (pi_listQ (K := K) rfl (pe_ix (ixL (K := K) rfl) (pv 0) pe_int (fun _ _ => rfl))) (blkOk_by (N := ["_law_world", "_law_table_here", "_law_free", "_law_place", "_law_told", "_law_late", "_law_about", "_law_turned", "_law_person", "_law_club"]) (sc := defScope s__law_counts_right) (own := [("_law_person", 8), ("_law_club", 9)]) (by decide +kernel)) (fun _ _ _ _ _ => (pg_tupQ (K := K) (n := 2) rfl rfl (pgs_cons (pg_name (i := 8) sc__law_counts_right.nd rfl (Or.inl rfl)) (pgs_cons (pg_name (i := 9) sc__law_counts_right.nd rfl (Or.inl rfl)) pgs_nil)))) (fun _ _ _ _ _ => pts_nil) (fun _ _ _ _ _ => (pe_tup (pa_cons (pv 9) (pa_cons (pv 8) pa_nil))))) pa_nil)))))
  (pss_cons (ps_set (i := 7) sc__law_counts_right.nd rfl (Or.inl rfl) (pe_callB (sortedQ (K := K) rfl hr.units) (by rfl) M.sorted (by decide +kernel) (pa_cons (pe_lc rfl sc__law_counts_right.nd (pi_listQ (K := K) rfl (pv 2)) (blkOk_by (N := ["_law_world", "_law_table_here", "_law_free", "_law_place", "_law_told", "_law_late", "_law_about", "_law_turned", "_law_person", "_law_club"]) (sc := defScope s__law_counts_right) (own := [("_law_person", 8), ("_law_club", 9)]) (by decide +kernel)) (fun _ _ _ _ _ => (pg_tupQ (K := K) (n := 2) rfl rfl (pgs_cons (pg_name (i := 8) sc__law_counts_right.nd rfl (Or.inl rfl)) (pgs_cons (pg_name (i := 9) sc__law_counts_right.nd rfl (Or.inl rfl)) pgs_nil)))) (fun _ _ _ _ _ => pts_nil) (fun _ _ _ _ _ => (pe_tup (pa_cons (pv 9) (pa_cons (pv 8) pa_nil))))) pa_nil)))
  (pss_one (ps_ret (pe_and (pe_c c__law_exact hr (by first | decide | omega) (by rfl) (pa_cons (pe_lst (pa_cons (pe_c c_squares_of hr (by first | decide | omega) (by rfl) (pa_cons (pv 6) pa_nil)) (pa_cons (pe_c c_let_places hr (by first | decide | omega) (by rfl) (pa_cons (pv 6) pa_nil)) pa_nil))) (pa_cons (pe_lst (pa_cons (pe_c c__law_all_squares hr (by first | decide | omega) (by rfl) (pa_cons (pv 0) pa_nil)) (pa_cons (pv 7) pa_nil))) pa_nil))) (pe_one (pe_c c__law_exact hr (by first | decide | omega) (by rfl) (pa_cons (pe_c c__law_world_of_table hr (by first | decide | omega) (by rfl) (pa_cons (pv 1) pa_nil)) (pa_cons (pv 0) pa_nil)))))))))))))))))))), ?_⟩)
  obtain ⟨v, nm, wd, pl, rfl, hw, wo, k⟩ := h
  have l25 := wo.l25
  have fok : ∀ q ∈ freeP nm wd pl, PairOk q := free_tw wo.tw
  have lf : (freeP nm wd pl).length ≤ 1000 := by
    refine Nat.le_trans (List.length_filter_le _ _) ?_
    rw [prod_len]
    have := Nat.mul_le_mul wo.n2 wo.d2
    omega
  have gw : ∀ (σ : L2.St) (G : Hp), SB [] H G → σ[0]? = some (some v) → GW K σ G (tVar 0) nm wd pl := fun σ G s e => gv_var e sta_w3 (hw.sb s)
  refine st_seq (st_par (gvt_cons sta_tab (gv_table (gw _ _ SB.same rfl) wo) (gvt_cons sta_lp (gv_free (gw _ _ SB.same rfl) wo) gvt_nil)) SB.same Dom.nil fun vs H1 s1 ⟨t, _, e, ht, f, _, e2, hf, e3⟩ => ?_)
  subst e3 e2 e
  refine ⟨t, f, rfl, ?_⟩
  have gt : ∀ (σ : L2.St) (G : Hp), SB [] H1 G → σ[1]? = some (some t) → GT K cT σ G (tVar 1) nm wd pl := fun σ G s e => gv_var e sta_tab (ht.sb s)
  have gf : ∀ (σ : L2.St) (G : Hp), SB [] H1 G → σ[2]? = some (some f) → Gv [] σ G (tVar 2) (fun H v => LP K [] H (freeP nm wd pl) v) := fun σ G s e => gv_var e sta_lp (hf.sb s)
  dsimp only
  refine st_seq (st_ifF (gvb_not (gvb_val (gv_exact (n := 4) (gv_ls2 (gv_squares (gt _ _ SB.same rfl) wo) (gv_lpD (gv_lets (gt _ _ SB.same rfl) wo))) (gv_ls2 (gv_allSq (gw _ _ s1 rfl) wo) (gv_lpD (gf _ _ SB.same rfl))) (dep2 (dep_int _ _) (dep_lp lf))))) SB.same Dom.nil fun H2 s2 => ?_)
  refine st_seq (st_ifF (gvb_not (gvb_val (gv_exact (n := 4) (gv_ls2 (gv_loneT (gt _ _ SB.same rfl) wo) (gv_someLet (gt _ _ SB.same rfl) wo)) (gv_ls2 ((gv_eqNil (gf _ _ SB.same rfl) fok).wk fun H v e => e) (gv_headOr (gf _ _ SB.same rfl) fok)) (dep2 (n := 3) trivial (by
    cases (freeP nm wd pl).head? with
    | none => trivial
    | some q => exact ⟨2, rfl, (show (2 : Nat) ≤ 1000 by decide), trivial, trivial, trivial⟩))))) s2 Dom.nil fun H3 s3 => ?_)
  have x3 := (s2.trans s3)
  dsimp only
  refine st_seq (st_forE [3] ((gv_places (gw _ _ (s1.trans x3) rfl) wo).wk fun H v h => lp_ls h) SB.same Dom.nil sta_ple (show (3 : Nat) < 10 by decide) (by decide) (fun H4 x τ s4 ⟨q, mq, pq⟩ o ex N hN => ?_) fun H4 τ s4 o => ?_)
  · have x4 := x3.trans s4
    have e0 := o.to (j := 0) rfl
    have e1 := o.to (j := 1) rfl
    have e2 := o.to (j := 2) rfl
    have gq : ∀ G, SB [] H4 G → GP K τ G (tVar 3) q := fun G s => gv_var ex sta_p2 (pq.sb s)
    refine st_seq (st_ifF (gvb_not (gvb_val (gv_exact (n := 4) (gv_throughT (gt _ _ x4 e1) (gq _ SB.same) wo mq) (gv_through (gw _ _ (s1.trans x4) e0) (gq _ SB.same) wo) (dep_int _ _)))) SB.same Dom.nil fun H5 s5 => ?_)
    dsimp only
    refine st_ifF (gvb_andF (gvb_test (gv_inP (gq _ SB.same) (gf _ _ x4 e2) fok (wo.pok mq))) fun hq => gvb_not (gvb_val (gv_exact (n := 4) (gv_wD (gv_worldOf (gv_moved (gt _ _ x4 e1) (gq _ SB.same) wo (of_decide_eq_true hq)))) (gv_wD (gv_shifted (gw _ _ (s1.trans x4) e0) (gq _ SB.same) wo mq)) (dep_worldN (wo.shift mq))))) s5 Dom.nil fun H6 s6 => hN _ _ (s5.trans s6) o
  · have x4 := x3.trans s4
    have e0 := o.to (j := 0) rfl
    have e1 := o.to (j := 1) rfl
    have e2 := o.to (j := 2) rfl
    have n0 : τ.length = 10 := o.1
    dsimp only
    refine st_seq (gv_asg (gv_letsN (gt _ _ x4 e1) wo) SB.same Dom.nil fun y5 H5 s5 ⟨l5, ys5, ey5, el5, ly5, n5, hys5⟩ => ?_)
    subst ey5
    have x5 := x4.trans s5
    have u0 : (τ.set 4 (some (V.ref l5)))[0]? = some (some v) := by rw [List.getElem?_set_ne (by decide)]; exact e0
    have u1 : (τ.set 4 (some (V.ref l5)))[1]? = some (some t) := by rw [List.getElem?_set_ne (by decide)]; exact e1
    have u2 : (τ.set 4 (some (V.ref l5)))[2]? = some (some f) := by rw [List.getElem?_set_ne (by decide)]; exact e2
    have u4 : (τ.set 4 (some (V.ref l5)))[4]? = some (some (.ref l5)) := List.getElem?_set_self (by omega)
    have nu : (τ.set 4 (some (V.ref l5))).length = 10 := by rw [List.length_set]; exact n0
    generalize τ.set 4 (some (V.ref l5)) = υ at *
    dsimp only
    have wo0 : WO wd nm [] := wo.turn.with .nil (by simp)
    refine st_seq (st_drop (op_bm ((gv_letsN (gv_make (gv_w1 (gw _ _ (s1.trans x5) u0)) (gv_w0 (gw _ _ (s1.trans x5) u0)) gv_nilLP (wo0.tok (List.Perm.refl _) (List.Perm.refl _) (List.Perm.refl _))) wo0).use SB.same Dom.nil fun y6 H6 s6 ⟨l6, ys6, ey6, el6, ly6, n6, _⟩ => ?_)))
    subst ey6
    refine ⟨.inl ⟨rfl, _, SqL.of el6⟩, l6, ys6, .non, rfl, rfl, el6, by have := sizeLine_eq; omega, ?_⟩
    have s6' : SB [] H5 (upd H6 l6 (.lst (ys6 ++ [.non]))) := s6.mut n6
    generalize upd H6 l6 (.lst (ys6 ++ [.non])) = G6 at *
    have x6 := x5.trans s6'
    dsimp only
    have g4 : GD K υ G6 (tVar 4) (dP (freeP nm wd pl)) := gv_var u4 sta_rp (lp_rp ⟨l5, ys5, rfl, RL.at (s6' _ _ (by simp) el5) (by simp), hys5.sb s6'⟩)
    refine st_seq (st_ifF (gvb_not (gvb_val (gv_exact (n := 4) g4 (gv_lpD (gf _ _ x6 u2)) (dep_lp lf)))) SB.same Dom.nil fun H7 s7 => ?_)
    have el7 := (s6'.trans s7) _ _ (by simp) el5
    dsimp only
    refine st_seq (st_drop (op_bm ?_))
    refine ⟨_, u4, .inl ⟨rfl, _, SqL.of el7⟩, l5, ys5, .non, rfl, rfl, el7, by have := sizeLine_eq; omega, ?_⟩
    have x8 : SB [] H1 (upd H7 l5 (.lst (ys5 ++ [.non]))) := (x6.trans s7).mut (SB.free x4 n5 (by simp))
    generalize upd H7 l5 (.lst (ys5 ++ [.non])) = G8 at *
    dsimp only
    refine st_seq (gv_asg (gv_tableL (gv_world (gv_revLS (gv_w0 (gw _ _ (s1.trans x8) u0))) (gv_revLS (gv_w1 (gw _ _ (s1.trans x8) u0))) (gv_revLP (gv_w2 (gw _ _ (s1.trans x8) u0)))) ((wo.tok (List.Perm.refl _) (List.Perm.refl _) (List.Perm.refl _)).rev)) SB.same Dom.nil fun t9 H9 s9 ht9 => ?_)
    have x9 := x8.trans s9
    have z0 : (υ.set 5 (some t9))[0]? = some (some v) := by rw [List.getElem?_set_ne (by decide)]; exact u0
    have z1 : (υ.set 5 (some t9))[1]? = some (some t) := by rw [List.getElem?_set_ne (by decide)]; exact u1
    have z2 : (υ.set 5 (some t9))[2]? = some (some f) := by rw [List.getElem?_set_ne (by decide)]; exact u2
    have z5 : (υ.set 5 (some t9))[5]? = some (some t9) := List.getElem?_set_self (by omega)
    have nz : (υ.set 5 (some t9)).length = 10 := by rw [List.length_set]; exact nu
    generalize υ.set 5 (some t9) = ζ at *
    have g9 : GT K cT ζ H9 (tVar 5) nm wd pl := gv_var z5 sta_tab ht9
    dsimp only
    refine st_seq (st_ifF (gvb_not (gvb_val (gv_exact (n := 4) (gv_ls3 (gv_lpD (gv_lets (gt _ _ x9 z1) wo)) (gv_lpD (gv_lets g9 wo)) (gv_squares g9 wo)) (gv_ls3 (gv_lpD (gf _ _ x9 z2)) (gv_lpD (gf _ _ x9 z2)) (gv_allSq (gw _ _ (s1.trans x9) z0) wo)) (dep3 (dep_lp lf) (dep_lp lf) (dep_int _ _))))) SB.same Dom.nil fun H10 s10 => ?_)
    have x10 := x9.trans s10
    have okT : TOk wd wd nm nm (pl.map swapP) (turnP pl) := wo.turn.tok (List.Perm.refl _) (List.Perm.refl _) (List.mergeSort_perm _ _).symm
    dsimp only
    refine st_seq (gv_asg (gv_make (gv_w1 (gw _ _ (s1.trans x10) z0)) (gv_w0 (gw _ _ (s1.trans x10) z0)) (gv_swap (i := 8) (j := 9) (by decide) (by omega) (by omega) (gv_w2 (gw _ _ (s1.trans x10) z0)) (by omega)) okT) SB.same Dom.nil fun t11 H11 s11 ht11 => ?_)
    have x11 := x10.trans s11
    have y0 : (ζ.set 6 (some t11))[0]? = some (some v) := by rw [List.getElem?_set_ne (by decide)]; exact z0
    have y1 : (ζ.set 6 (some t11))[1]? = some (some t) := by rw [List.getElem?_set_ne (by decide)]; exact z1
    have y2 : (ζ.set 6 (some t11))[2]? = some (some f) := by rw [List.getElem?_set_ne (by decide)]; exact z2
    have y6 : (ζ.set 6 (some t11))[6]? = some (some t11) := List.getElem?_set_self (by omega)
    have ny : (ζ.set 6 (some t11)).length = 10 := by rw [List.length_set]; exact nz
    generalize ζ.set 6 (some t11) = ξ at *
    dsimp only
    refine st_seq (gv_asg (gv_sortP (gv_swap (i := 8) (j := 9) (by decide) (by omega) (by omega) (gf _ _ x11 y2) lf) (List.mergeSort_perm _ _).symm (turn_asc (asc_free wo)) (by rw [List.length_map]; omega)) SB.same Dom.nil fun t12 H12 s12 ht12 => ?_)
    have x12 := x11.trans s12
    have w0 : (ξ.set 7 (some t12))[0]? = some (some v) := by rw [List.getElem?_set_ne (by decide)]; exact y0
    have w1 : (ξ.set 7 (some t12))[1]? = some (some t) := by rw [List.getElem?_set_ne (by decide)]; exact y1
    have w6 : (ξ.set 7 (some t12))[6]? = some (some t11) := by rw [List.getElem?_set_ne (by decide)]; exact y6
    have w7 : (ξ.set 7 (some t12))[7]? = some (some t12) := List.getElem?_set_self (by omega)
    generalize ξ.set 7 (some t12) = χ at *
    have g11 : GT K cT χ H12 (tVar 6) wd nm (turnP pl) := gv_var w6 sta_tab (ht11.sb s12)
    have g12 : GD K χ H12 (tVar 7) (dP (freeP wd nm (turnP pl))) := gv_lpD (gv_var w7 sta_lp (by rw [free_turn wo]; exact ht12))
    have gsq : GD K χ H12 (tCall (spAllSq K) [] E0 (a1 (tVar 0))) (.int (allSq wd nm (turnP pl) : Int)) := by rw [allSq_turn]; exact gv_allSq (gw _ _ (s1.trans x12) w0) wo
    dsimp only
    exact st_retG (gv_andV (gv_exact (n := 4) (gv_ls2 (gv_squares g11 wo.turn) (gv_lpD (gv_lets g11 wo.turn))) (gv_ls2 gsq g12) (dep2 (dep_int _ _) (dep_lp (by have := free_len wo.turn; omega)))) fun _ => gv_exact (n := 4) (gv_wD (gv_worldOf (gt _ _ x12 w1))) (gv_wD (gw _ _ (s1.trans x12) w0)) (dep_worldN wo)) SB.same Dom.nil fun H13 s13 => k H13 (SB.nil (s1.trans (x12.trans s13)))
end
end K77
namespace K77
open PySem PySem.Spec PyProof.Rows C8 Ef
open L2 hiding E0 CX0 pass0 Fun
section
variable {P : Program} {w : World} {K : PySem.W.Frag} {mg : Str → Option Value} {base : Heap} {cT cC cR : Addr}
/-! plain: a road leads back, and keeps the parity -/
section
variable {nm wd : List Str} {pl pg : List (Str × Str)}
theorem beh_back : ∀ {qs : List (Str × Str)} {pl pg : List (Str × Str)}, WO nm wd pl → behW nm wd pl (qs.map Sum.inl) = some pg → behW nm wd pg (qs.reverse.map Sum.inl) = some pl
  | [], pl, pg, h, e => by cases e; rfl
  | q :: qs, pl, pg, h, e => by
    by_cases hq : q ∈ freeP nm wd pl
    · have e := (if_pos hq).symm.trans e
      have ih := beh_back (h.shift (free_prod hq)) e
      obtain ⟨h1, h2⟩ := shift_back h hq
      rw [List.reverse_cons, List.map_append, beh_app ih]
      refine (if_pos h1).trans ?_
      rw [h2]
      rfl
    · exact nomatch (if_neg hq).symm.trans e
theorem beh_par : ∀ {qs : List (Str × Str)} {pl pg : List (Str × Str)}, WO nm wd pl → behW nm wd pl (qs.map Sum.inl) = some pg → allSq nm wd pg % 2 = allSq nm wd pl % 2
  | [], pl, pg, h, e => by cases e; rfl
  | q :: qs, pl, pg, h, e => by
    by_cases hq : q ∈ freeP nm wd pl
    · have e := (if_pos hq).symm.trans e
      rw [beh_par (h.shift (free_prod hq)) e, allSq_shift h hq]
    · exact nomatch (if_neg hq).symm.trans e
theorem beh_mem : ∀ {qs : List (Str × Str)} {pl pg : List (Str × Str)}, behW nm wd pl (qs.map Sum.inl) = some pg → ∀ q ∈ qs, q ∈ prod nm wd
  | [], pl, pg, e, q, hq => nomatch hq
  | x :: qs, pl, pg, e, q, hq => by
    by_cases hx : x ∈ freeP nm wd pl
    · have e := (if_pos hx).symm.trans e
      rcases List.mem_cons.mp hq with rfl | hq
      · exact free_prod hx
      · exact beh_mem e q hq
    · exact nomatch (if_neg hx).symm.trans e
end
/-- a list of places, tracked outside S -/
def LQ (K : PySem.W.Frag) (S : List Addr) (qs : List (Str × Str)) (H : Hp) (v : V) : Prop := ∃ a xs, v = .ref a ∧ a ∉ S ∧ H a = some (.lst xs) ∧ P2s K S H qs xs
section
variable {σ : L2.St} {H0 H H' : Hp} {S T : List Addr} {te tf tg : TE} {nm wd : List Str} {pl pg qs : List (Str × Str)} {q : Str × Str} {d : PyData} {v : V} {u : Vd}
theorem sta_lq : Sta S (LQ K S qs) := fun H H' v s ⟨a, xs, e, na, ha, hx⟩ => ⟨a, xs, e, na, s _ _ na ha, hx.sb s⟩
theorem LQ.less (h : LQ K S qs H v) (t : ∀ b ∈ T, b ∈ S) : LQ K T qs H v := let ⟨a, xs, e, na, ha, hx⟩ := h; ⟨a, xs, e, fun z => na (t _ z), ha, P2s.less hx t⟩
theorem LQ.lp (h : LQ K S qs H v) : LP K S H qs v := let ⟨a, xs, e, na, ha, hx⟩ := h; ⟨a, xs, e, RL.at ha na, hx⟩
theorem LQ.it {n : Nat} (h : LQ K S qs H v) (ok : ∀ q ∈ qs, WordOk q.1 ∧ WordOk q.2) (hn : qs.length ≤ n) : LstE S (ItE K S) n H v := let ⟨a, xs, e, na, ha, hx⟩ := h; ⟨a, xs, e, na, ha, by rw [hx.len]; exact hn, road_it hx ok⟩
theorem its_inl (ok : ∀ q ∈ qs, WordOk q.1 ∧ WordOk q.2) {xs : List V} (h : P2s K [] H qs xs) : Paired (ItAt K H) (qs.map Sum.inl) xs := by
  induction h with
  | nil => exact .nil
  | cons h1 _ ih => exact .cons ⟨h1, ok _ (List.mem_cons_self ..)⟩ (ih fun q hq => ok q (List.mem_cons_of_mem _ hq))
theorem LQ.va (h : LQ K S qs H v) (ok : ∀ q ∈ qs, WordOk q.1 ∧ WordOk q.2) : VAt K H (.its (qs.map Sum.inl)) v := let ⟨a, xs, e, na, ha, hx⟩ := h; ⟨a, xs, e, ha, its_inl ok (P2s.less hx (by simp))⟩
theorem sta_v : Sta [] (fun H v => VAt K H u v) := fun H H' v s h => h.sb s
abbrev GV (K : PySem.W.Frag) (σ : L2.St) (H0 : Hp) (te : TE) (u : Vd) : Prop := Gv [] σ H0 te (fun H v => VAt K H u v)
theorem gv_behindT (g : GT K cT σ H0 te nm wd pl) (h : GV K σ H0 tf u) (wo : WO nm wd pl) (e : behV nm wd pl u = some pg) : GT K cT σ H0 (tCall (spTableBehind K cT cR) [] E0 (a2 te tf)) nm wd pg :=
  gv_call (gvt_cons sta_tab g (gvt_cons sta_v h gvt_nil)) fun H vs Q s d ⟨v, us, e1, hv, x, us', e2, hx, eu⟩ k => by
    subst e2 e1 eu
    refine ⟨v, x, nm, wd, pl, u, rfl, hv, wo, hx, fun z => absurd (e.symm.trans z) (by simp), fun pl' e' y H' s' ty _ => ?_⟩
    cases e.symm.trans e'
    exact k y _ (SB.of s') ty
theorem gv_road (g : GT K cT σ H0 te nm wd pl) (g2 : GT K cT σ H0 tf nm wd pg) (h : GV K σ H0 tg u) (wo : WO nm wd pl) (wg : WO nm wd pg) : Gv [] σ H0 (tCall (spRoadT K cT) [] E0 (a3 te tf tg)) (fun _ v => v = .bl (decide (behV nm wd pl u = some pg))) :=
  gv_call (gvt_cons sta_tab g (gvt_cons sta_tab g2 (gvt_cons sta_v h gvt_nil))) fun H vs Q s d ⟨v, us, e1, hv, y, us2, e2, hy, x, us', e3, hx, eu⟩ k => by
    subst e3 e2 e1 eu
    exact ⟨v, y, x, nm, wd, pl, pg, u, rfl, hv, hy, wo, wg, hx, fun H' s' => k _ _ (SB.of s') rfl⟩
theorem gv_lroad (g : GW K σ H0 te nm wd pl) (g2 : GW K σ H0 tf nm wd pg) (h : GV K σ H0 tg u) (wo : WO nm wd pl) (wg : WO nm wd pg) : Gv [] σ H0 (tCall (spLawRoad K) [] E0 (a3 te tf tg)) (fun _ v => v = .bl (decide (behV nm wd pl u = some pg))) :=
  gv_call (gvt_cons sta_w3 g (gvt_cons sta_w3 g2 (gvt_cons sta_v h gvt_nil))) fun H vs Q s d ⟨v, us, e1, hv, y, us2, e2, hy, x, us', e3, hx, eu⟩ k => by
    subst e3 e2 e1 eu
    exact ⟨v, y, x, nm, wd, pl, pg, u, rfl, hv, hy, wo, wg, hx, fun H' s' => k _ _ (SB.of s') rfl⟩
theorem gv_refused (g : GT K cT σ H0 te nm wd pl) (g2 : GW K σ H0 tf nm wd pl) (h : GV K σ H0 tg u) (wo : WO nm wd pl) (dep : Dep 4 (vdD u)) : Gv [] σ H0 (tCall (spRefused K cT) [] E0 (a3 te tf tg)) (fun _ v => v = .bl true) :=
  gv_call (gvt_cons sta_tab g (gvt_cons sta_w3 g2 (gvt_cons sta_v h gvt_nil))) fun H vs Q s d ⟨v, us, e1, hv, y, us2, e2, hy, x, us', e3, hx, eu⟩ k => by
    subst e3 e2 e1 eu
    exact ⟨v, y, x, nm, wd, pl, u, rfl, hv, hy, wo, hx, dep, fun H' s' => k _ _ (SB.of s') rfl⟩
theorem gv_long (g2 : GW K σ H0 te nm wd pl) (g : GT K cT σ H0 tf nm wd pl) (wo : WO nm wd pl) : Gv [] σ H0 (tCall (spLong K cT) [] E0 (a2 te tf)) (fun _ v => v = .bl true) :=
  gv_call (gvt_cons sta_w3 g2 (gvt_cons sta_tab g gvt_nil)) fun H vs Q s d ⟨v, us, e1, hv, y, us2, e2, hy, eu⟩ k => by
    subst e2 e1 eu
    exact ⟨y, v, nm, wd, pl, rfl, hy, hv, wo, fun H' s' => k _ _ (SB.of s') rfl⟩
theorem gv_same {n : Nat} (g : GD K σ H0 te d) (dep : Dep n d) : GD K σ H0 (tCall (spSame K n) [] E0 (a1 te)) d :=
  gv_call (gvt_cons sta_rp g gvt_nil) fun H vs Q s dm ⟨v, us, e1, hv, eu⟩ k => by
    subst e1 eu
    exact ⟨d, v, rfl, hv, dep, fun v' H' s' fr => k _ _ (SB.of s') (Fr.rp (by simp) d v' fr)⟩
/-- a table made with a purse about -/
theorem gv_tableS (g : Gv S σ H0 te (fun H v => W3 K S H nm wd pl v)) (wo : WO nm wd pl) : Gv S σ H0 (tCall (spTable K cT) [] E0 (a1 te)) (fun H v => TableAt K cT S H nm wd pl v) :=
  gv_call (gvt_cons (fun H H' v s h => h.sb s) g gvt_nil) fun H vs Q s d ⟨v, us, e1, hv, eu⟩ k => by
    subst e1 eu
    exact ⟨S, v, nm, nm, wd, wd, pl, pl, rfl, d, hv.l, wo.tok (List.Perm.refl _) (List.Perm.refl _) (List.Perm.refl _), fun x H' s' _ t => k _ _ (SB.of s') t⟩
theorem gv_listQ (g : Gv S σ H0 te (LQ K S qs)) : Gv S σ H0 (tCB (rListQ K) (a1 te)) (LQ K S qs) :=
  gv_callB (gvt_cons sta_lq g gvt_nil) fun H vs Q s d ⟨v, us, e1, hv, eu⟩ k => by
    subst e1 eu
    obtain ⟨a, xs, rfl, na, ha, hx⟩ := hv
    exact ⟨a, xs, rfl, .inl (SqL.of ha), fun p hp => k _ _ (SB.same.new hp) ⟨p, xs, rfl, d.out hp, upd_same, hx.sb (SB.same.new hp)⟩⟩
theorem gv_revQ (g : Gv S σ H0 te (LQ K S qs)) : Gv S σ H0 (tRev K te) (LQ K S qs.reverse) := fun H Q s d k =>
  g H _ s d fun v H1 s1 ⟨a, xs, e, na, ha, hx⟩ => ⟨a, e, .inl ⟨xs, SqL.of ha, fun p hp => k _ _ (s1.new hp) ⟨p, _, rfl, (d.sb0 s1).out hp, upd_same, P2s.sb (paired_rev hx) (SB.same.new hp)⟩⟩⟩
theorem gv_neLP {ps : List (Str × Str)} (g : Gv [] σ H0 te (fun H v => LP K [] H qs v)) (h : Gv [] σ H0 tf (fun H v => LP K [] H ps v)) (o1 : ∀ q ∈ qs, PairOk q) (o2 : ∀ q ∈ ps, PairOk q) : Gv [] σ H0 (tOp (rNeD K) te tf) (fun _ v => v = .bl (!decide (qs = ps))) :=
  gv_op sta_lp g h fun H x y Q s d hx hy k => ⟨dP qs, dP ps, lp_dp' hx, lp_dp' hy, shaped_ps o1, shaped_ps o2, k _ H SB.same (by rw [show PyData.eqv (dP qs) (dP ps) = decide (qs = ps) from eqv_pairs qs ps])⟩
end
end
end K77
namespace K77
open PySem PySem.Spec PyProof.Rows C8 Ef
open L2 hiding E0 CX0 pass0 Fun
section
variable {P : Program} {w : World} {K : PySem.W.Frag} {mg : Str → Option Value} {base : Heap} {cT cC cR : Addr}
theorem sc__law_roads_right : FnScope ["_law_purse_here", "_law_world", "_law_third", "_law_goal", "_law_road", "_law_table_here", "_law_aim", "_law_handed", "_law_shut", "_law_lists", "_law_value", "_law_kept", "_law_due", "_law_behind_here", "_law_grown", "_law_place"] ["_law_purse_here", "_law_world", "_law_third"] (defScope s__law_roads_right) := ⟨rfl, rfl, rfl, by decide +kernel, rfl, by decide +kernel, by decide +kernel⟩
section
variable {σ : L2.St} {H0 H H' : Hp} {S T : List Addr} {te tf tg : TE} {nm wd : List Str} {pl pg pt qs : List (Str × Str)} {q : Str × Str} {d : PyData} {v : V} {u : Vd}
theorem gv_notInP {ps : List (Str × Str)} (g : GP K σ H0 te q) (h : Gv [] σ H0 tf (fun H v => LP K [] H ps v)) (ok : ∀ q ∈ ps, PairOk q) (qk : PairOk q) : Gv [] σ H0 (tOp (rNotInD K) te tf) (fun _ v => v = .bl (!decide (q ∈ ps))) :=
  gv_op sta_p2 g h fun H x y Q s d hx hy k => ⟨dP1 q, ps.map dP1, p2_dp hx, lp_dp' hy, shaped_p qk, shaped_ps ok, k _ H SB.same (by rw [any_eqv_p])⟩
/-- the places that are not let -/
theorem gv_shut {i j : Nat} (hi : i < σ.length) (hij : j ≠ i) (ej : σ[j]? = some (some v)) (hw : W3 K [] H0 nm wd pl v) (wo : WO nm wd pl) :
    Gv [] σ H0 (tLc (iList K (tCall (spPlaces K) [] E0 (a1 (tVar j)))) (gName i) (tTest (tOp (rNotInD K) (tVar i) (tCall (spFree K) [] E0 (a1 (tVar j))))) (tVar i) [i]) (fun H v => ∃ ps, LQ K [] ps H v ∧ (∀ a, v = .ref a → H0 a = none) ∧ (∀ q ∈ ps, q ∈ prod nm wd) ∧ ps.length ≤ 25) := fun H Q s d k =>
  (gv_places (gv_var ej sta_w3 hw) wo) H _ s d fun y H1 s1 ⟨a, xs, e, h, hx⟩ => by
    subst e
    have lx : xs.length ≤ 25 := by rw [hx.len, prod_len]; exact Nat.mul_le_mul wo.n2 wo.d2
    refine ⟨a, rfl, ⟨_, h.sq⟩, fun D hD => ?_⟩
    refine lcR (S := []) h hD (fun n acc G => ∃ ps, P2s K [] G ps acc ∧ (∀ q ∈ ps, q ∈ prod nm wd) ∧ ps.length ≤ n) ⟨[], .nil, by simp, Nat.zero_le _⟩ (fun n x acc G hxn sb e hl hA => ?_) (fun G acc sb e hl hA => ?_)
    · obtain ⟨q, hq, pq⟩ := Paired.at1 hx hxn
      have mq : q ∈ prod nm wd := List.mem_of_getElem? hq
      have pq := pq.sb sb
      obtain ⟨ps, h1, h2, h3⟩ := hA
      have sG := (s.trans s1).trans sb
      have ei : ((wipe σ [i]).set i (some x))[i]? = some (some x) := w1_a hi
      have ej' : ((wipe σ [i]).set i (some x))[j]? = some (some v) := (w1_o hij).trans ej
      refine ⟨wipe1, (gvb_test (gv_notInP (gv_var ei sta_p2 pq) (gv_free (gv_var ej' sta_w3 (hw.sb sG)) wo) (free_tw wo.tw) (wo.pok mq))) G _ SB.same Dom.nil fun G2 s2 => ?_⟩
      have e2 := s2 _ _ (by simp) e
      refine ifB (fun _ => ⟨x, ei, ?_⟩) (fun _ => ?_)
      · refine Pc.put (n := 25) hD (by have := (List.getElem?_eq_some_iff.mp hxn).1; omega) (by decide) hl (sb.trans s2) e2 ⟨ps ++ [q], p2s_put (Paired.app (P2s.sb h1 s2) (.cons (pq.sb s2) .nil)) e2, fun z hz => ?_, by rw [List.length_append]; exact Nat.succ_le_succ h3⟩
        rcases List.mem_append.mp hz with hz | hz
        · exact h2 z hz
        · rw [List.mem_singleton.mp hz]; exact mq
      · exact Pc.skip hl (sb.trans s2) e2 ⟨ps, P2s.sb h1 s2, h2, by omega⟩
    · obtain ⟨ps, h1, h2, h3⟩ := hA
      exact k _ _ (s1.trans sb) ⟨ps, ⟨D, acc, rfl, by simp, e, h1⟩, fun a z => by injection z with z; rw [← z]; exact SB.free (s.trans s1) hD (by simp), h2, by omega⟩
/-- what stands throughout -/
structure RF (K : PySem.W.Frag) (cT p : Addr) (nm wd : List Str) (pl pg pt qs : List (Str × Str)) (v g t3 rd ta aim : V) (H : Hp) : Prop where
  w : W3 K [p] H nm wd pl v
  g : W3 K [p] H nm wd pg g
  w3 : W3 K [p] H nm wd pt t3
  r : LQ K [p] qs H rd
  t : TableAt K cT [p] H nm wd pl ta
  a : TableAt K cT [p] H nm wd pg aim
structure SF (p : Addr) (v g t3 rd ta aim : V) (σ : L2.St) : Prop where
  n : σ.length = 16
  e0 : σ[0]? = some (some (.ref p))
  e1 : σ[1]? = some (some v)
  e2 : σ[2]? = some (some t3)
  e3 : σ[3]? = some (some g)
  e4 : σ[4]? = some (some rd)
  e5 : σ[5]? = some (some ta)
  e6 : σ[6]? = some (some aim)
section
variable {p : Addr} {g t3 rd ta aim : V}
theorem RF.sb (h : RF K cT p nm wd pl pg pt qs v g t3 rd ta aim H) (s : SB [p] H H') : RF K cT p nm wd pl pg pt qs v g t3 rd ta aim H' := ⟨h.w.sb s, h.g.sb s, h.w3.sb s, sta_lq _ _ _ s h.r, h.t.sb s, h.a.sb s⟩
theorem RF.nil (h : RF K cT p nm wd pl pg pt qs v g t3 rd ta aim H) (s : SB [] H H') : RF K cT p nm wd pl pg pt qs v g t3 rd ta aim H' := h.sb (s.wide (by simp))
theorem SF.set (h : SF p v g t3 rd ta aim σ) {i : Nat} {x : Option V} (hi : 6 < i) : SF p v g t3 rd ta aim (σ.set i x) := by
  refine ⟨by rw [List.length_set]; exact h.n, ?_, ?_, ?_, ?_, ?_, ?_, ?_⟩ <;> rw [List.getElem?_set_ne (by omega)]
  · exact h.e0
  · exact h.e1
  · exact h.e2
  · exact h.e3
  · exact h.e4
  · exact h.e5
  · exact h.e6
theorem SF.off (h : SF p v g t3 rd ta aim σ) {l : List Nat} {τ : L2.St} (o : Off l σ τ) (hl : ∀ j, j ≤ 6 → j ∉ l) : SF p v g t3 rd ta aim τ :=
  ⟨o.1.trans h.n, o.to h.e0 (hl _ (by omega)), o.to h.e1 (hl _ (by omega)), o.to h.e2 (hl _ (by omega)), o.to h.e3 (hl _ (by omega)), o.to h.e4 (hl _ (by omega)), o.to h.e5 (hl _ (by omega)), o.to h.e6 (hl _ (by omega))⟩
variable (f : RF K cT p nm wd pl pg pt qs v g t3 rd ta aim H0) (s : SF p v g t3 rd ta aim σ)
include f s
theorem RF.gw : GW K σ H0 (tVar 1) nm wd pl := gv_var s.e1 sta_w3 (f.w.less (by simp))
theorem RF.g3 : GW K σ H0 (tVar 2) nm wd pt := gv_var s.e2 sta_w3 (f.w3.less (by simp))
theorem RF.gg : GW K σ H0 (tVar 3) nm wd pg := gv_var s.e3 sta_w3 (f.g.less (by simp))
theorem RF.gr : Gv [p] σ H0 (tVar 4) (LQ K [p] qs) := gv_var s.e4 sta_lq f.r
theorem RF.gr0 : Gv [] σ H0 (tVar 4) (LQ K [] qs) := gv_var s.e4 sta_lq (f.r.less (by simp))
theorem RF.gt : GT K cT σ H0 (tVar 5) nm wd pl := gv_var s.e5 sta_tab (f.t.less (by simp))
theorem RF.ga : GT K cT σ H0 (tVar 6) nm wd pg := gv_var s.e6 sta_tab (f.a.less (by simp))
end
end
theorem shuf_use {p : Addr} {m n : Nat} {H : Hp} {x : V} {R : Hp → V → Prop} {Q : VK} {E : XK} (st : Sta [p] R) (hx : LstE [p] R m H x) (pu : Pu H p (n + m)) (hm : m ≤ 900) (k : ∀ y H', SB [p] H H' → LstE [p] R m H' y → Pu H' p n → Q y H') : spShuffled K ([.ref p, x] ++ []) H Q E := by
  obtain ⟨a, xs, rfl, na, ha, l, rx⟩ := hx
  exact ⟨p, a, n, xs, rfl, pu.less (by omega), RL.at ha na, by omega, fun q ys H' nq eq pm sb pu' => k _ _ sb ⟨q, ys, rfl, pu.dom.out nq, eq, by rw [pm.length_eq]; exact l, fun y hy => st _ _ _ sb (rx y (pm.mem_iff.mp hy))⟩ pu'⟩
theorem st_if_draw {p : Addr} {n : Nat} {H : Hp} {σ : L2.St} {tt tu : TT} {t : TS} {D : Ends} (ht : ∀ Q : Bool → Hp → Prop, (∀ b H', SB [p] H H' → Pu H' p n → Q b H') → tt σ H Q) (hu : ∀ H', SB [p] H H' → GvB [] σ H' tu false) (k : ∀ H', SB [p] H H' → Pu H' p n → D.nx σ H') : tIfS (tAnd tt tu) t tNext D σ H :=
  ht _ fun b H' s pu => by
    cases b with
    | false => exact k H' s pu
    | true => exact hu H' s H' _ SB.same Dom.nil fun H2 s2 => k H2 (s.nw s2) (pu.sb s2 (by simp))
theorem gv_catQ {σ : L2.St} {H0 : Hp} {S : List Addr} {te tf : TE} {qs ps : List (Str × Str)} (g : Gv S σ H0 te (LQ K S qs)) (h : Gv S σ H0 tf (LQ K S ps)) (hn : qs.length + ps.length ≤ sizeLine) : Gv S σ H0 (tOp rCat te tf) (LQ K S (qs ++ ps)) :=
  gv_op sta_lq g h fun H x y Q s d ⟨a, xs, e, na, ha, hx⟩ ⟨b, ys, e2, nb, hb, hy⟩ k => ⟨a, b, xs, ys, e, e2, ha, hb, by rw [hx.len, hy.len]; exact hn, fun p hp => k _ _ (SB.same.new hp) ⟨p, _, rfl, d.out hp, upd_same, P2s.sb (Paired.app hx hy) (SB.same.new hp)⟩⟩
theorem paired_take {α β : Type} {F : α → β → Prop} : ∀ {l : List α} {m : List β} (n : Nat), Paired F l m → Paired F (l.take n) (m.take n)
  | _, _, _, .nil => by simpa using Paired.nil
  | _, _, 0, .cons _ _ => .nil
  | _, _, n + 1, .cons h t => .cons h (paired_take n t)
theorem gv_takeQ {σ : L2.St} {H0 : Hp} {S : List Addr} {te : TE} {qs : List (Str × Str)} {c : Nat} (g : Gv S σ H0 te (LQ K S qs)) : Gv S σ H0 (tSl (rSlL K) te tNoPart (tPart (tC (.int (c : Int))))) (LQ K S (qs.take c)) := fun H Q s d k =>
  op_sl <| g H _ s d fun v H1 s1 ⟨a, xs, e, na, ha, hx⟩ => ⟨c, rfl, a, xs, e, SqL.of ha, fun p hp => k _ _ (s1.new hp) ⟨p, _, rfl, (d.sb0 s1).out hp, upd_same, by rw [cutV_to]; exact P2s.sb (paired_take c hx) (SB.same.new hp)⟩⟩
theorem LQ.more {S : List Addr} {H : Hp} {p : Addr} {qs : List (Str × Str)} {v : V} (h : LQ K S qs H v) (n : H p = none) : LQ K (p :: S) qs H v := by
  obtain ⟨a, xs, e, na, ha, hx⟩ := h
  exact ⟨a, xs, e, fun z => (List.mem_cons.mp z).elim (ne_of_none ha n) na, ha, P2s.more' hx n⟩
end
end K77
namespace K77
open PySem PySem.Spec PyProof.Rows C8 Ef
open L2 hiding E0 CX0 pass0 Fun
section
variable {P : Program} {w : World} {K : PySem.W.Frag} {mg : Str → Option Value} {base : Heap} {cT cC cR : Addr}
def spRoads (K : PySem.W.Frag) : Sp := fun vs H Q _ => ∃ (p : Addr) (n : Nat) (v t3 : V) (nm wd : List Str) (pl pt : List (Str × Str)), vs = [.ref p, v, t3] ∧ Pu H p (n + 500) ∧ W3 K [p] H nm wd pl v ∧ W3 K [p] H nm wd pt t3 ∧ WO nm wd pl ∧ WO nm wd pt ∧ ∀ H', SB [p] H H' → Pu H' p n → Q (.bl true) H'
theorem ok_roads (M : Fx K mg cT cC) (F : Fn K mg "_law_roads_right" s__law_roads_right) (c__law_walked_table : Cal P w K mg base 4 "_law_walked_table" (spWalkR K) []) (c__law_table : Cal P w K mg base 6 "_law_table" (spTable K cT) []) (c__law_exact : Cal P w K mg base 5 "_law_exact" (spExact K 4) [])
    (c__law_world_of_table : Cal P w K mg base 2 "_law_world_of_table" (spWorldOf K cT) []) (c_table_behind : CalX P w K mg base 8 "table_behind" (spTableBehind K cT cR)) (c_is_club_road : Cal P w K mg base 8 "is_club_road" (spRoadT K cT) []) (c_squares_of : Cal P w K mg base 2 "squares_of" (spSquares K cT) [])
    (c__law_places : Cal P w K mg base 1 "_law_places" (spPlaces K) []) (c__law_free_places : Cal P w K mg base 2 "_law_free_places" (spFree K) []) (c__law_bent_roads : Cal P w K mg base 4 "_law_bent_roads" (spBent K) []) (c__law_shuffled : Cal P w K mg base 3 "_law_shuffled" (spShuffled K) [])
    (c__law_refused_right : Cal P w K mg base 9 "_law_refused_right" (spRefused K cT) []) (c__law_draw : Cal P w K mg base 2 "_law_draw" spDraw []) (c__law_long_right : Cal P w K mg base 9 "_law_long_right" (spLong K cT) []) (c__law_same : Cal P w K mg base 5 "_law_same" (spSame K 4) [])
    (c__law_is_road : Cal P w K mg base 4 "_law_is_road" (spLawRoad K) []) (c__law_behind : Cal P w K mg base 3 "_law_behind" (spLawBehind K) []) : Cal P w K mg base 10 "_law_roads_right" (spRoads K) [] := by
  refine F.cal sc__law_roads_right (fun _ _ F => FunD.bindsN F fun _ _ _ _ _ _ us hl => match us, hl with | [_, _, _], _ => rfl) (fun vs H Q E h => by obtain ⟨_, _, _, _, _, _, _, _, rfl, _⟩ := h; rfl) (fun f cdv A outer st H vs Q E hr h => ⟨_, PSs.nox ((pss_cons (ps_asg (pe_c c__law_walked_table hr (by first | decide | omega) (by rfl) (pa_cons (pv 0) (pa_cons (pv 1) (pa_cons pe_int pa_nil)))) (pg_unlQ (K := K) (n := 2) rfl rfl (pgs_cons (pg_name (i := 3) sc__law_roads_right.nd rfl (Or.inr rfl)) (pgs_cons (pg_name (i := 4) sc__law_roads_right.nd rfl (Or.inr rfl)) pgs_nil))))
  (pss_cons (ps_par3 (i := 5) (j := 6) (l := 7) rfl sc__law_roads_right.nd rfl rfl rfl (by decide) (by decide) (by decide) rfl rfl rfl (pa_cons (pe_c c__law_table hr (by first | decide | omega) (by rfl) (pa_cons (pv 1) pa_nil)) (pa_cons (pe_c c__law_table hr (by first | decide | omega) (by rfl) (pa_cons (pv 3) pa_nil)) (pa_cons (pe_callTy (listQ (K := K) rfl) (by rfl) M.list (by decide +kernel) (pa_cons (pv 4) pa_nil)) pa_nil))) (by rfl))
  (pss_cons (ps_if (PW.pt (pw_or (pt_not (pt_val (pe_c c__law_exact hr (by first | decide | omega) (by rfl) (pa_cons (pe_c c__law_world_of_table hr (by first | decide | omega) (by rfl) (pa_cons (pe_cN c_table_behind hr (by first | decide | omega) (by rfl) (pa_cons (pv 5) (pa_cons (pv 7) pa_nil))) pa_nil)) (pa_cons (pv 3) pa_nil))))) (pw_or (pt_cmpR (neDQ (K := K) rfl hr.units) (pv 7) (pv 4) (nomark _)) (pw_or1 (pt_cmpR op_isnot_bl (pe_c c_is_club_road hr (by first | decide | omega) (by rfl) (pa_cons (pv 5) (pa_cons (pv 6) (pa_cons (pv 7) pa_nil)))) pe_bl (nomark _)))))) (pss_one (ps_ret pe_bl)) pss_nil)
  (pss_cons (ps_if (PW.pt (pw_or (pt_cmpR op_ne (pe_op op_mod (pe_c c_squares_of hr (by first | decide | omega) (by rfl) (pa_cons (pv 6) pa_nil)) pe_int) (pe_op op_mod (pe_c c_squares_of hr (by first | decide | omega) (by rfl) (pa_cons (pv 5) pa_nil)) pe_int) (nomark _)) (pw_or1 (pt_cmpR op_isnot_bl (pe_c c_is_club_road hr (by first | decide | omega) (by rfl) (pa_cons (pv 6) (pa_cons (pv 5) (pa_cons (pe_revQ (K := K) rfl (pv 4) (pe_un un_neg pe_int)) pa_nil)))) pe_bl (nomark _))))) (pss_one (ps_ret pe_bl)) pss_nil)
  (pss_cons (ps_setLc (i := 8) rfl sc__law_roads_right.nd rfl rfl (sw_true rfl rfl rfl (by decide +kernel)) (pi_listQ (K := K) rfl (pe_c c__law_places hr (by first | decide | omega) (by rfl) (pa_cons (pv 3) pa_nil))) (blkOk_by (N := ["_law_purse_here", "_law_world", "_law_third", "_law_goal", "_law_road", "_law_table_here", "_law_aim", "_law_handed", "_law_shut", "_law_lists", "_law_value", "_law_kept", "_law_due", "_law_behind_here", "_law_grown", "_law_place"]) (sc := defScope s__law_roads_right) (own := [("_law_place", 15)]) (by decide +kernel)) (fun _ _ _ _ _ => (pg_name (i := 15) sc__law_roads_right.nd rfl (Or.inl rfl))) (fun _ _ _ _ _ => (pts_one (pt_cmpR (notInDQ (K := K) rfl (room65 hr)) (pv 15) (pe_c c__law_free_places hr (by first | decide | omega) (by rfl) (pa_cons (pv 3) pa_nil)) rfl))) (fun _ _ _ _ _ => (pv 15)))
  (pss_cons (ps_set (i := 9) sc__law_roads_right.nd rfl (Or.inl rfl) (pe_op op_cat (pe_op op_cat (pe_c c__law_bent_roads hr (by first | decide | omega) (by rfl) (pa_cons (pv 0) (pa_cons (pv 1) (pa_cons (pv 4) pa_nil)))) (pe_lc rfl sc__law_roads_right.nd (pi_listQ (K := K) rfl (pe_slice (slL (K := K) rfl) (pv 8) po_none (po_some pe_int))) (blkOk_by (N := ["_law_purse_here", "_law_world", "_law_third", "_law_goal", "_law_road", "_law_table_here", "_law_aim", "_law_handed", "_law_shut", "_law_lists", "_law_value", "_law_kept", "_law_due", "_law_behind_here", "_law_grown", "_law_place"]) (sc := defScope s__law_roads_right) (own := [("_law_place", 15)]) (by decide +kernel)) (fun _ _ _ _ _ => (pg_name (i := 15) sc__law_roads_right.nd rfl (Or.inl rfl))) (fun _ _ _ _ _ => pts_nil) (fun _ _ _ _ _ => (pe_op op_cat (pv 4) (pe_lst (pa_cons (pv 15) pa_nil)))))) (pe_lc rfl sc__law_roads_right.nd (pi_listQ (K := K) rfl (pe_slice (slL (K := K) rfl) (pv 8) po_none (po_some pe_int))) (blkOk_by (N := ["_law_purse_here", "_law_world", "_law_third", "_law_goal", "_law_road", "_law_table_here", "_law_aim", "_law_handed", "_law_shut", "_law_lists", "_law_value", "_law_kept", "_law_due", "_law_behind_here", "_law_grown", "_law_place"]) (sc := defScope s__law_roads_right) (own := [("_law_place", 15)]) (by decide +kernel)) (fun _ _ _ _ _ => (pg_name (i := 15) sc__law_roads_right.nd rfl (Or.inl rfl))) (fun _ _ _ _ _ => pts_nil) (fun _ _ _ _ _ => (pe_op op_cat (pe_op op_cat (pv 4) (pe_lst (pa_cons (pv 15) pa_nil))) (pe_revQ (K := K) rfl (pv 4) (pe_un un_neg pe_int)))))))
  (pss_cons (ps_set (i := 9) sc__law_roads_right.nd rfl (Or.inl rfl) (pe_op op_cat (pe_op op_cat (pe_slice (slL (K := K) rfl) (pe_c c__law_shuffled hr (by first | decide | omega) (by rfl) (pa_cons (pv 0) (pa_cons (pv 9) pa_nil))) po_none (po_some pe_int)) (pe_lc rfl sc__law_roads_right.nd (pi_listQ (K := K) rfl (pe_slice (slL (K := K) rfl) (pv 8) po_none (po_some pe_int))) (blkOk_by (N := ["_law_purse_here", "_law_world", "_law_third", "_law_goal", "_law_road", "_law_table_here", "_law_aim", "_law_handed", "_law_shut", "_law_lists", "_law_value", "_law_kept", "_law_due", "_law_behind_here", "_law_grown", "_law_place"]) (sc := defScope s__law_roads_right) (own := [("_law_place", 15)]) (by decide +kernel)) (fun _ _ _ _ _ => (pg_name (i := 15) sc__law_roads_right.nd rfl (Or.inl rfl))) (fun _ _ _ _ _ => pts_nil) (fun _ _ _ _ _ => (pe_op op_cat (pv 4) (pe_lst (pa_cons (pv 15) pa_nil)))))) (pe_lst (pa_cons (pv 4) pa_nil))))
  (pss_cons (ps_for PassesOwn.never rfl (pi_listQ (K := K) rfl (pv 9)) (pg_name (i := 10) sc__law_roads_right.nd rfl (Or.inl rfl)) (pss_one (ps_if (pt_not (pt_val (pe_c c__law_refused_right hr (by first | decide | omega) (by rfl) (pa_cons (pv 5) (pa_cons (pv 1) (pa_cons (pv 10) pa_nil)))))) (pss_one (ps_ret pe_bl)) pss_nil)))
  (pss_cons (ps_if (PW.pt (pw_and (pt_cmpR op_eq (pe_c c__law_draw hr (by first | decide | omega) (by rfl) (pa_cons (pv 0) (pa_cons pe_int pa_nil))) pe_int (nomark _)) (pw_and1 (pt_not (pt_val (pe_c c__law_long_right hr (by first | decide | omega) (by rfl) (pa_cons (pv 1) (pa_cons (pv 5) pa_nil)))))))) (pss_one (ps_ret pe_bl)) pss_nil)
  (pss_cons (ps_for PassesOwn.never rfl (pi_listQ (K := K) rfl (pv 9)) (pg_name (i := 10) sc__law_roads_right.nd rfl (Or.inl rfl)) (pss_cons (ps_par (i := 11) (j := 12) rfl sc__law_roads_right.nd rfl rfl (by decide) rfl rfl (pa_cons (pe_c c__law_same hr (by first | decide | omega) (by rfl) (pa_cons (pv 10) pa_nil)) (pa_cons (pe_c c__law_is_road hr (by first | decide | omega) (by rfl) (pa_cons (pv 1) (pa_cons (pv 3) (pa_cons (pv 10) pa_nil)))) pa_nil)) (by rfl))
  (pss_cons (ps_if (pt_not (pt_val (pe_c c__law_exact hr (by first | decide | omega) (by rfl) (pa_cons (pe_lst (pa_cons (pe_c c_is_club_road hr (by first | decide | omega) (by rfl) (pa_cons (pv 5) (pa_cons (pv 6) (pa_cons (pv 10) pa_nil)))) (pa_cons (pv 10) pa_nil))) (pa_cons (pe_lst (pa_cons (pv 12) (pa_cons (pv 11) pa_nil))) pa_nil))))) (pss_one (ps_ret pe_bl)) pss_nil)
  (pss_cons (ps_if (pt_not (pt_val (pe_c c__law_exact hr (by first | decide | omega) (by rfl) (pa_cons (pe_c c_is_club_road hr (by first | decide | omega) (by rfl) (pa_cons (pv 5) (pa_cons (pe_c c__law_table hr (by first | decide | omega) (by rfl) (pa_cons (pv 2) pa_nil)) (pa_cons (pv 10) pa_nil)))) (pa_cons (pe_c c__law_is_road hr (by first | decide | omega) (by rfl) (pa_cons (pv 1) (pa_cons (pv 2) (pa_cons (pv 10) pa_nil)))) pa_nil))))) (pss_one (ps_ret pe_bl)) pss_nil)
  (pss_cons (ps_set (i := 13) sc__law_roads_right.nd rfl (Or.inl rfl) (pe_c c__law_behind hr (by first | decide | omega) (by rfl) (pa_cons (pv 1) (pa_cons (pv 10) pa_nil))))
  (pss_one (ps_if (PW.pt (pw_and (pt_cmpR op_notN (pv 13) pe_non (nomark _)) (pw_and1 (pt_not (pt_val (pe_c c__law_exact hr (by first | decide | omega) (by rfl) (pa_cons (pe_c c__law_world_of_table hr (by first | decide | omega) (by rfl) (pa_cons (pe_cN c_table_behind hr (by first | decide | omega) (by rfl) (pa_cons (pv 5) (pa_cons (pv 10) pa_nil))) pa_nil)) (pa_cons (pv 13) pa_nil)))))))) (pss_one (ps_ret pe_bl)) pss_nil)))))))
  (pss_cons (ps_for PassesOwn.never rfl (pi_listQ (K := K) rfl (pe_op op_cat (pe_lst (pa_cons (pv 4) pa_nil)) (pe_slice (slL (K := K) rfl) (pe_c c__law_shuffled hr (by first | decide | omega) (by rfl) (pa_cons (pv 0) (pa_cons (pv 9) pa_nil))) po_none (po_some pe_int)))) (pg_name (i := 10) sc__law_roads_right.nd rfl (Or.inl rfl)) (pss_one (ps_if (pt_not (pt_val (pe_c c__law_exact hr (by first | decide | omega) (by rfl) (pa_cons (pe_c c_is_club_road hr (by first | decide | omega) (by rfl) (pa_cons (pe_c c__law_table hr (by first | decide | omega) (by rfl) (pa_cons (pv 1) pa_nil)) (pa_cons (pe_c c__law_table hr (by first | decide | omega) (by rfl) (pa_cons (pv 3) pa_nil)) (pa_cons (pv 10) pa_nil)))) (pa_cons (pe_c c__law_is_road hr (by first | decide | omega) (by rfl) (pa_cons (pv 1) (pa_cons (pv 3) (pa_cons (pv 10) pa_nil)))) pa_nil))))) (pss_one (ps_ret pe_bl)) pss_nil)))
  (pss_cons (ps_set (i := 14) sc__law_roads_right.nd rfl (Or.inl rfl) (pe_lst pa_nil))
  (pss_cons (ps_for PassesOwn.never rfl (pi_listQ (K := K) rfl (pe_op op_cat (pv 4) (pe_slice (slL (K := K) rfl) (pv 4) po_none (po_some pe_int)))) (pg_name (i := 15) sc__law_roads_right.nd rfl (Or.inl rfl)) (pss_cons (ps_if (pt_not (pt_val (pe_c c__law_exact hr (by first | decide | omega) (by rfl) (pa_cons (pe_c c_is_club_road hr (by first | decide | omega) (by rfl) (pa_cons (pv 5) (pa_cons (pv 6) (pa_cons (pv 14) pa_nil)))) (pa_cons (pe_c c__law_is_road hr (by first | decide | omega) (by rfl) (pa_cons (pv 1) (pa_cons (pv 3) (pa_cons (pv 14) pa_nil)))) pa_nil))))) (pss_one (ps_ret pe_bl)) pss_nil)
  (pss_one (ps_expr (pe_bm PySem.F.plainAttrs_list PySem.F.slot_list_append PySem.F.type_list_append mt_append (pv 14) (pa_cons (pv 15) pa_nil))))))
  (pss_one (ps_ret (pe_c c__law_exact hr (by first | decide | omega) (by rfl) (pa_cons (pe_lst (pa_cons (pe_c c__law_world_of_table hr (by first | decide | omega) (by rfl) (pa_cons (pv 5) pa_nil)) (pa_cons (pe_c c__law_world_of_table hr (by first | decide | omega) (by rfl) (pa_cons (pv 6) pa_nil)) pa_nil))) (pa_cons (pe_lst (pa_cons (pv 1) (pa_cons (pv 3) pa_nil))) pa_nil))))))))))))))))))), ?_⟩)
  obtain ⟨p, n, v, t3, nm, wd, pl, pt, rfl, pu, hw, hw3, wo, wt, k⟩ := h
  refine st_seq (st_asg (op_call ⟨_, rfl, _, rfl, p, n + 480, v, nm, wd, pl, rfl, pu.less (by omega), hw, wo, fun l rd g pg qs ys H1 nl el hg hb nrd erd hqs lq sb1 pu1 => ?_⟩))
  refine ⟨l, _, rfl, SqL.of el, rfl, _, _, rfl, _, _, rfl, rfl, ?_⟩
  have wg : WO nm wd pg := beh_wo wo hb
  have okq : ∀ q ∈ qs, WordOk q.1 ∧ WordOk q.2 := fun q hq => by
    have := mem_prod.mp (beh_mem hb q hq)
    exact ⟨wo.nk _ this.1, wo.dk _ this.2⟩
  have pokq : ∀ q ∈ qs, PairOk q := fun q hq => wo.pok (beh_mem hb q hq)
  have hr1 : LQ K [p] qs H1 (.ref rd) := ⟨rd, ys, rfl, fun z => pu.dom p (by simp) ((List.mem_singleton.mp z) ▸ nrd), erd, hqs⟩
  have hw1 := hw.sb sb1
  have h31 := hw3.sb sb1
  have dm1 := pu1.dom
  dsimp only
  refine st_seq (st_par3 (S := [p]) (gvt_cons (fun H H' v s h => h.sb s) (gv_tableS (nm := nm) (wd := wd) (pl := pl) (gv_var rfl (fun H H' v s h => h.sb s) hw1) wo) (gvt_cons (fun H H' v s h => h.sb s) (gv_tableS (nm := nm) (wd := wd) (pl := pg) (gv_var rfl (fun H H' v s h => h.sb s) hg) wg) (gvt_cons sta_lq (gv_listQ (gv_var rfl sta_lq hr1)) gvt_nil))) SB.same dm1 fun vs H2 s2 ⟨ta, _, e1, ht, aim, _, e2, ha, hd, _, e3, hh, e4⟩ => ?_)
  subst e4 e3 e2 e1
  refine ⟨ta, aim, hd, rfl, ?_⟩
  have rf2 : RF K cT p nm wd pl pg pt qs v g t3 (.ref rd) ta aim H2 := ⟨hw1.sb (s2.wide (by simp)), hg.sb (s2.wide (by simp)), h31.sb (s2.wide (by simp)), sta_lq _ _ _ (s2.wide (by simp)) hr1, ht, ha⟩
  have pu2 := pu1.sb s2 (by simp)
  refine st_gen (fun τ => SF p v g t3 (.ref rd) ta aim τ ∧ τ[7]? = some (some hd)) ⟨⟨rfl, rfl, rfl, rfl, rfl, rfl, rfl, rfl⟩, rfl⟩ fun σ ⟨sf, e7⟩ => ?_
  have hh0 : LQ K [] qs H2 hd := hh.less (by simp)
  have gh : Gv [] σ H2 (tVar 7) (LQ K [] qs) := gv_var e7 sta_lq hh0
  have gvh : GV K σ H2 (tVar 7) (.its (qs.map Sum.inl)) := gh.wk fun H v h => h.va okq
  have bT : decide (behV nm wd pl (.its (qs.map Sum.inl)) = some pg) = true := decide_eq_true hb
  dsimp only
  have gr1 := gv_road (cT := cT) (rf2.gt sf) (rf2.ga sf) gvh wo wg
  rw [bT] at gr1
  have gne := gv_neLP (gh.wk fun H v h => h.lp) ((rf2.gr0 sf).wk fun H v h => h.lp) pokq pokq
  rw [decide_eq_true rfl] at gne
  refine st_seq (st_ifF (gvb_orF (gvb_not (gvb_val (gv_exact (n := 4) (gv_wD (gv_worldOf (gv_behindT (cR := cR) (rf2.gt sf) gvh wo hb))) (gv_wD (rf2.gg sf)) (dep_worldN wg)))) (gvb_orF (gvb_test gne) (gvb_test (gv_notTrue gr1)))) SB.same Dom.nil fun H3 s3 => ?_)
  have gsq1 := gv_mod2 ((gv_squares (rf2.ga sf) wg).wk (R' := fun _ v => v = .int (allSq nm wd pg : Int)) fun H v h => h)
  have gsq2 := gv_mod2 ((gv_squares (rf2.gt sf) wo).wk (R' := fun _ v => v = .int (allSq nm wd pl : Int)) fun H v h => h)
  have gpar := gv_neInt gsq1 gsq2
  rw [beh_par wo hb, decide_eq_true rfl] at gpar
  have okr : ∀ q ∈ qs.reverse, WordOk q.1 ∧ WordOk q.2 := fun q hq => okq q (List.mem_reverse.mp hq)
  have gr2 := gv_road (cT := cT) (rf2.ga sf) (rf2.gt sf) ((gv_revQ (K := K) (rf2.gr0 sf)).wk fun H v h => h.va okr) wg wo
  rw [show decide (behV nm wd pg (.its (qs.reverse.map Sum.inl)) = some pl) = true from decide_eq_true (beh_back wo hb)] at gr2
  dsimp only
  refine st_seq (st_ifF (gvb_orF (gvb_test gpar) (gvb_test (gv_notTrue gr2))) s3 Dom.nil fun H4 s4 => ?_)
  have x4 := s3.trans s4
  have rf4 := rf2.nil x4
  have pu4 := pu2.sb x4 (by simp)
  dsimp only
  refine st_seq (gv_asg (gv_shut (i := 15) (j := 3) (by rw [sf.n]; decide) (by decide) sf.e3 (rf4.g.less (by simp)) wg) SB.same Dom.nil fun y5 H5 s5 ⟨ps, hps, fps, mps, lps⟩ => ?_)
  have rf5 := rf4.nil s5
  have pu5 := pu4.sb s5 (by simp)
  have dm5 := pu5.dom
  have okp : ∀ q ∈ ps, WordOk q.1 ∧ WordOk q.2 := fun q hq => ⟨wo.nk _ (mem_prod.mp (mps q hq)).1, wo.dk _ (mem_prod.mp (mps q hq)).2⟩
  have sI : Sta [p] (ItE K [p]) := sta_it
  have sV : Sta [p] (VdE K [p]) := sta_vd
  have hps5 : LstE [p] (ItE K [p]) 25 H5 y5 := by
    obtain ⟨a, xs, e, na, ha, hx⟩ := hps
    refine LQ.it (qs := ps) ⟨a, xs, e, fun z => ?_, ha, p2s_offl hx fun b hb => ?_⟩ okp lps
    · exact pu4.dom p (by simp) (List.mem_singleton.mp z ▸ fps a e)
    · rw [List.mem_singleton.mp hb]
      obtain ⟨_, _, _, _, e, _⟩ := pu5
      exact ⟨_, e⟩
  refine st_gen (fun τ => SF p v g t3 (.ref rd) ta aim τ ∧ τ[8]? = some (some y5)) ⟨sf.set (by decide), List.getElem?_set_self (by rw [sf.n]; decide)⟩ fun σ ⟨sf, e8⟩ => ?_
  obtain ⟨h0, l0, l1, l2, wxs, ewv, r0, r1, r2, r3, r4⟩ := id rf5.w
  obtain ⟨rd', rys, erd5, nrd5, hrd5, hq5⟩ := id rf5.r
  cases erd5
  subst ewv
  have grI : ∀ (σ : L2.St) (sf : SF p (.ref h0) g t3 (.ref rd) ta aim σ) G, SB [p] H5 G → Gv [p] σ G (tVar 4) (LstE [p] (ItE K [p]) 12) := fun σ sf G s => ((rf5.sb s).gr sf).wk fun H v h => h.it okq lq
  have gsh : ∀ (σ : L2.St) (e8 : σ[8]? = some (some y5)) G, SB [p] H5 G → Gv [p] σ G (tVar 8) (LstE [p] (ItE K [p]) 25) := fun σ e8 G s => gv_var e8 (sta_lst sI) (sta_lst sI _ _ _ s hps5)
  have glc1 : ∀ (σ : L2.St) (sf : SF p (.ref h0) g t3 (.ref rd) ta aim σ) (e8 : σ[8]? = some (some y5)) (G : Hp) (c : Int), SB [p] H5 G → Gv [p] σ G (tLc (iList K (tSl (rSlL K) (tVar 8) tNoPart (tPart (tC (.int c))))) (gName 15) tYes (tOp rCat (tVar 4) (tLst (tCons (tVar 15) tNil))) [15]) (LstE [p] (VdE K [p]) 25) := fun σ sf e8 G c s =>
    gv_lc (K := K) fam_vd (i := 15) (gv_sl sI (gsh σ e8 G s) gvp_no gvp_c) (by decide) (fun H D x s' d hD rx => by
      have sI' : Sta [D, p] (ItE K [D, p]) := sta_it
      have rdH : LstE [D, p] (ItE K [D, p]) 12 (upd H D (.lst [])) (.ref rd) := (fam_lst fam_it).new (LQ.it (sta_lq _ _ _ (s.trans s') rf5.r) okq lq) hD
      have rxH : ItE K [D, p] (upd H D (.lst [])) x := fam_it.new rx hD
      exact (gv_cat sI' (gv_var ((w1_o (by decide)).trans sf.e4) (sta_lst sI') rdH) (gv_lst (n := 1) sI' (gvl_cons sI' (gv_var (w1_a (by rw [sf.n]; decide)) sI' rxH) gvl_nil) (by decide)) (by decide)).wk fun H v h => lst_vd h (by decide))
  have glc2 : ∀ (σ : L2.St) (sf : SF p (.ref h0) g t3 (.ref rd) ta aim σ) (e8 : σ[8]? = some (some y5)) (G : Hp) (c : Int), SB [p] H5 G → Gv [p] σ G (tLc (iList K (tSl (rSlL K) (tVar 8) tNoPart (tPart (tC (.int c))))) (gName 15) tYes (tOp rCat (tOp rCat (tVar 4) (tLst (tCons (tVar 15) tNil))) (tRev K (tVar 4))) [15]) (LstE [p] (VdE K [p]) 25) := fun σ sf e8 G c s =>
    gv_lc (K := K) fam_vd (i := 15) (gv_sl sI (gsh σ e8 G s) gvp_no gvp_c) (by decide) (fun H D x s' d hD rx => by
      have sI' : Sta [D, p] (ItE K [D, p]) := sta_it
      have rdH : LstE [D, p] (ItE K [D, p]) 12 (upd H D (.lst [])) (.ref rd) := (fam_lst fam_it).new (LQ.it (sta_lq _ _ _ (s.trans s') rf5.r) okq lq) hD
      have rxH : ItE K [D, p] (upd H D (.lst [])) x := fam_it.new rx hD
      have gd := gv_var ((w1_o (σ := σ) (i := 15) (x := x) (by decide)).trans sf.e4) (sta_lst sI') rdH
      exact (gv_cat sI' (gv_cat sI' gd (gv_lst (n := 1) sI' (gvl_cons sI' (gv_var (w1_a (by rw [sf.n]; decide)) sI' rxH) gvl_nil) (by decide)) (by decide)) (gv_rev sI' gd) (by decide)).wk fun H v h => lst_vd h (by decide))
  dsimp only
  refine st_seq (st_asg (op_step (op_step (op_call ⟨_, sf.e0, _, sf.e1, _, sf.e4, p, h0, rd, n + 380, _, _, _, nm, wd, qs, rys, rfl, pu5.less (by omega), r0.less (by simp), ⟨l0, rfl, r1.less (by simp)⟩, ⟨l1, rfl, r2.less (by simp)⟩, wo.nk, wo.dk, wo.n1, wo.n2, wo.d1, wo.d2, by simpa using nrd5, hrd5, hq5, lq, okq, fun l6 H6 n6 r6 sb6 pu6 => ?_⟩))))
  have sV7 := sta_lst (n := 60) sV
  refine cat_step sV (glc1 _ sf e8 H6 2 sb6) SB.same pu6.dom r6 (by decide) fun v7 H7 s7 r7 => ?_
  have pu7 := pu6.sb s7 (by simp)
  refine cat_step sV (glc2 _ sf e8 H7 1 (sb6.nw s7)) SB.same pu7.dom r7 (by decide) fun v8 H8 s8 r8 => ?_
  have pu8 := pu7.sb s8 (by simp)
  have x8 := (sb6.nw s7).nw s8
  refine st_name ?_
  refine st_gen (fun τ => SF p (.ref h0) g t3 (.ref rd) ta aim τ ∧ τ[8]? = some (some y5) ∧ τ[9]? = some (some v8)) ⟨sf.set (by decide), by rw [List.getElem?_set_ne (by decide)]; exact e8, List.getElem?_set_self (by rw [sf.n]; decide)⟩ fun σ2 ⟨sf2, e82, e92⟩ => ?_
  dsimp only
  refine st_seq (st_asg (op_step (op_step (op_sl (op_call ⟨_, sf2.e0, _, e92, nilQ (shuf_use (n := n + 200) sV r8 (pu8.less (by omega)) (by omega) fun v10 H10 s10 r10 pu10 => ?_)⟩)))))
  refine ⟨16, rfl, sl_step sV pu10.dom r10 fun v11 H11 s11 r11 => ?_⟩
  have x11 := (x8.trans s10).nw s11
  have pu11 := pu10.sb s11 (by simp)
  refine cat_step sV (glc1 _ sf2 e82 H11 1 x11) SB.same pu11.dom r11 (by decide) fun v12 H12 s12 r12 => ?_
  have x12 := x11.nw s12
  have pu12 := pu11.sb s12 (by simp)
  refine cat_step sV (gv_lst (n := 1) sV (gvl_cons sV ((grI _ sf2 H12 x12).wk fun H v h => lst_vd h (by decide)) gvl_nil) (by decide)) SB.same pu12.dom r12 (by decide) fun v13 H13 s13 r13 => ?_
  have x13 := x12.nw s13
  have pu13 := pu12.sb s13 (by simp)
  have xH13 : SB [p] H H13 := (((sb1.nw s2).nw x4).nw s5).trans x13
  have rf13 := rf5.sb x13
  refine st_name ?_
  refine st_gen (fun τ => SF p (.ref h0) g t3 (.ref rd) ta aim τ ∧ τ[9]? = some (some v13)) ⟨sf2.set (by decide), List.getElem?_set_self (by rw [sf2.n]; decide)⟩ fun σ3 ⟨sf3, e93⟩ => ?_
  clear glc1 glc2 grI gsh
  have lsV : ∀ {m : Nat} {H : Hp} {v : V}, LstE [p] (VdE K [p]) m H v → LsR K (VdE K [p]) H v := fun ⟨a, xs, e, na, ha, l, rx⟩ => ⟨a, xs, e, RL.at ha (by simp), rx⟩
  have sV0 : Sta [] (VdE K [p]) := fun H H' v s h => sV.nil s h
  dsimp only
  have glst : ∀ (σ : L2.St) (G : Hp), SB [p] H13 G → σ[9]? = some (some v13) → Gv [] σ G (tVar 9) (LsR K (VdE K [p])) := fun σ G s e => (gv_var (R := LstE [p] (VdE K [p]) _) e (fun H H' v s h => (sta_lst sV).nil s h) (sta_lst sV _ _ _ s r13)).wk fun H v h => lsV h
  refine st_seq (st_forE [10] (glst _ _ SB.same e93) SB.same Dom.nil sV0 (by rw [sf3.n]; decide) (by decide) (fun H14 x τ s14 hx o ex N hN => ?_) fun H14 σ4 s14 o4 => ?_)
  · obtain ⟨u, hu, du⟩ := hx.at
    have sfτ := sf3.off o (by intro j hj; simp; omega)
    have rf14 := rf13.nil s14
    dsimp only
    exact st_ifF (gvb_not (gvb_val (gv_refused (rf14.gt sfτ) (rf14.gw sfτ) (gv_var ex sta_v hu) wo (Dep.up _ du)))) SB.same Dom.nil fun G sG => hN _ _ sG o
  have sf4 := sf3.off o4 (by intro j hj; simp; omega)
  have e94 := o4.to e93
  have pu14 := pu13.sb s14 (by simp)
  have rf14 := rf13.nil s14
  dsimp only
  refine st_seq (st_if_draw (p := p) (n := n + 199) (fun Q q => ⟨_, sf4.e0, p, n + 199, 5, rfl, pu14.less (by omega), by decide, by decide, fun r15 H15 _ _ sb15 pu15 => ⟨rfl, _, rfl, q _ _ sb15 pu15⟩⟩) (fun H' s => gvb_not (gvb_val (gv_long ((rf14.sb s).gw sf4) ((rf14.sb s).gt sf4) wo))) fun H15 s15 pu15 => ?_)
  have x15 : SB [p] H13 H15 := (s14.wide (by simp)).trans s15
  dsimp only
  refine st_seq (st_forE [10, 11, 12, 13] (glst _ _ x15 e94) SB.same Dom.nil sV0 (by rw [sf4.n]; decide) (by decide) (fun H16 x τ s16 hx o ex N hN => ?_) fun H16 τ s16 o => ?_)
  · obtain ⟨u, hu, du⟩ := hx.at
    have sfτ := sf4.off o (by intro j hj; simp; omega)
    have rf16 := rf13.sb (x15.nw s16)
    have gvx : ∀ (σ : L2.St) (G : Hp), SB [] H16 G → σ[10]? = some (some x) → GV K σ G (tVar 10) u := fun σ G s e => gv_var e sta_v (hu.sb s)
    dsimp only
    refine st_seq (st_par (gvt_cons sta_rp (gv_same (n := 4) ((gvx _ _ SB.same ex).wk fun H v h => h.rp) (Dep.up _ du)) (gvt_cons sta_eq (gv_lroad (rf16.gw sfτ) (rf16.gg sfτ) (gvx _ _ SB.same ex) wo wg) gvt_nil)) SB.same Dom.nil fun vs H17 s17 ⟨kp, _, e1, hkp, du', _, e2, hdu, e3⟩ => ?_)
    subst e3 e2 e1
    refine ⟨kp, du', rfl, ?_⟩
    have sfυ : SF p (.ref h0) g t3 (.ref rd) ta aim ((τ.set 11 (some kp)).set 12 (some du')) := (sfτ.set (by decide)).set (by decide)
    have oυ : Off [10, 11, 12, 13] σ4 ((τ.set 11 (some kp)).set 12 (some du')) := o.set.set
    have e10 : ((τ.set 11 (some kp)).set 12 (some du'))[10]? = some (some x) := by rw [List.getElem?_set_ne (by decide), List.getElem?_set_ne (by decide)]; exact ex
    have e11 : ((τ.set 11 (some kp)).set 12 (some du'))[11]? = some (some kp) := by rw [List.getElem?_set_ne (by decide)]; exact List.getElem?_set_self (by rw [sfτ.n]; decide)
    have e12 : ((τ.set 11 (some kp)).set 12 (some du'))[12]? = some (some du') := List.getElem?_set_self (by rw [List.length_set, sfτ.n]; decide)
    generalize (τ.set 11 (some kp)).set 12 (some du') = υ at *
    have rf17 := rf16.nil s17
    dsimp only
    refine st_seq (st_ifF (gvb_not (gvb_val (gv_exact (n := 4) (gv_ls2 ((gv_road (rf17.gt sfυ) (rf17.ga sfυ) (gvx _ _ s17 e10) wo wg).wk (R' := fun H v => Rp K [] H (.bool (decide (behV nm wd pl u = some pg))) v) fun H v h => h) ((gvx _ _ s17 e10).wk fun H v h => h.rp)) (gv_ls2 (gv_var e12 sta_rp hdu) (gv_var e11 sta_rp hkp)) (dep2 (n := 3) trivial du)))) SB.same Dom.nil fun H18 s18 => ?_)
    have rf18 := rf17.nil s18
    have g18 := (gv_road (cT := cT) (rf18.gt sfυ) (gv_table (rf18.g3 sfυ) wt) (gvx _ _ (s17.trans s18) e10) wo wt).wk (R' := fun H v => Rp K [] H (.bool (decide (behV nm wd pl u = some pt))) v) fun H v h => h
    have g19 := (gv_lroad (rf18.gw sfυ) (rf18.g3 sfυ) (gvx _ _ (s17.trans s18) e10) wo wt).wk (R' := fun H v => Rp K [] H (.bool (decide (behV nm wd pl u = some pt))) v) fun H v h => h
    dsimp only
    refine st_seq (st_ifF (gvb_not (gvb_val (gv_exact (n := 4) g18 g19 trivial))) SB.same Dom.nil fun H19 s19 => ?_)
    have rf19 := rf18.nil s19
    have s1619 := (s17.trans s18).trans s19
    dsimp only
    refine st_seq (st_asg (op_call ⟨_, sfυ.e1, _, e10, .ref h0, x, nm, wd, pl, u, rfl, rf19.w.less (by simp), wo, hu.sb s1619, fun hn H20 s20 => ?_, fun pb hb' y H20 s20 hy wb => ?_⟩))
    · refine st_name ?_
      refine st_gen (fun τ' => SF p (.ref h0) g t3 (.ref rd) ta aim τ' ∧ Off [10, 11, 12, 13] σ4 τ' ∧ τ'[13]? = some (some .non)) ⟨sfυ.set (by decide), oυ.set, List.getElem?_set_self (by rw [sfυ.n]; decide)⟩ fun ω ⟨sfω, oω, e13⟩ => ?_
      dsimp only
      refine ⟨_, e13, rfl, _, rfl, ifN rfl ?_⟩
      exact hN _ _ (s1619.trans (SB.of s20)) oω
    · obtain ⟨hy0, _, _, _, _, rfl, _⟩ := id hy
      refine st_name ?_
      refine st_gen (fun τ' => SF p (.ref h0) g t3 (.ref rd) ta aim τ' ∧ Off [10, 11, 12, 13] σ4 τ' ∧ τ'[13]? = some (some (.ref hy0)) ∧ τ'[10]? = some (some x)) ⟨sfυ.set (by decide), oυ.set, List.getElem?_set_self (by rw [sfυ.n]; decide), by rw [List.getElem?_set_ne (by decide)]; exact e10⟩ fun ω ⟨sfω, oω, e13, e10'⟩ => ?_
      have s1620 := s1619.trans (SB.of (S := []) s20)
      have rf20 := rf19.nil (SB.of s20)
      dsimp only
      refine st_ifF (gvb_andF (b := true) (fun H' Q s d q => ⟨_, e13, rfl, _, rfl, q H' SB.same⟩) fun _ => gvb_not (gvb_val (gv_exact (n := 4) (gv_wD (gv_worldOf (gv_behindT (cR := cR) (rf20.gt sfω) (gvx _ _ s1620 e10') wo hb'))) (gv_wD (gv_var e13 sta_w3 hy)) (dep_worldN wb)))) SB.same Dom.nil fun G sG => hN _ _ (s1620.trans sG) oω
  have sf5 := sf4.off o (by intro j hj; simp; omega)
  have e95 := o.to e94
  have x16 := x15.nw s16
  have pu16 := pu15.sb s16 (by simp)
  dsimp only
  refine st_seq (st_forOpen (op_step ((gv_lst (n := 1) sV (gvl_cons sV (((rf13.sb x16).gr sf5).wk fun H v h => lst_vd (h.it okq lq) (by decide)) gvl_nil) (by decide)).use SB.same pu16.dom fun v17 H17 s17 r17 => op_sl (op_call ⟨_, sf5.e0, _, e95, nilQ (shuf_use (n := n + 10) sV (sta_lst sV _ _ _ (x16.nw s17) r13) ((pu16.sb s17 (by simp)).less (by omega)) (by omega) fun v18 H18 s18 r18 pu18 => ⟨2, rfl, sl_step sV pu18.dom r18 fun v19 H19 s19 r19 => ?_⟩)⟩))))
  refine cat_two sV (pu18.dom.sb0 s19) (sta_lst sV _ _ _ (s18.nw s19) r17) r19 (by decide) fun v20 H20 s20 r20 => ?_
  have x20 : SB [p] H13 H20 := (((x16.nw s17).trans s18).nw s19).nw s20
  have pu20 := (pu18.sb s19 (by simp)).sb s20 (by simp)
  refine st_forE [10] (gv_cc (fun H H' v s ⟨a, xs, e, r, q⟩ => ⟨a, xs, e, r.sb s, fun x hx => sV0 _ _ _ s (q x hx)⟩) (lsV r20)) SB.same Dom.nil sV0 (by rw [sf5.n]; decide) (by decide) (fun H21 x τ s21 hx o ex N hN => ?_) fun H21 σ6 s21 o6 => ?_
  · obtain ⟨u, hu, du⟩ := hx.at
    have sfτ := sf5.off o (by intro j hj; simp; omega)
    have rf21 := rf13.sb (x20.nw s21)
    have gvx : GV K τ H21 (tVar 10) u := gv_var ex sta_v hu
    have g1 := (gv_road (cT := cT) (gv_table (rf21.gw sfτ) wo) (gv_table (rf21.gg sfτ) wg) gvx wo wg).wk (R' := fun H v => Rp K [] H (.bool (decide (behV nm wd pl u = some pg))) v) fun H v h => h
    have g2 := (gv_lroad (rf21.gw sfτ) (rf21.gg sfτ) gvx wo wg).wk (R' := fun H v => Rp K [] H (.bool (decide (behV nm wd pl u = some pg))) v) fun H v h => h
    dsimp only
    exact st_ifF (gvb_not (gvb_val (gv_exact (n := 4) g1 g2 trivial))) SB.same Dom.nil fun G sG => hN _ _ sG o
  have sf6 := sf5.off o6 (by intro j hj; simp; omega)
  have x21 := x20.nw s21
  have pu21 := pu20.sb s21 (by simp)
  have rf21 := rf13.sb x21
  dsimp only
  refine st_seq (st_asg (op_lst ⟨(by decide : (0 : Nat) ≤ sizeLine), fun gl hgl => st_name ?_⟩))
  have s22 : SB [] H21 (upd H21 gl (.lst [])) := SB.same.new hgl
  have egl : upd H21 gl (.lst []) gl = some (.lst []) := upd_same
  generalize upd H21 gl (.lst []) = H22 at *
  refine st_gen (fun τ' => SF p (.ref h0) g t3 (.ref rd) ta aim τ' ∧ τ'[14]? = some (some (.ref gl))) ⟨sf6.set (by decide), List.getElem?_set_self (by rw [sf6.n]; decide)⟩ fun σ7 ⟨sf7, e14⟩ => ?_
  have rf22 := rf21.nil s22
  dsimp only
  have hr22 : LQ K [gl] qs H22 (.ref rd) := sta_lq _ _ _ (s22.wide (by simp)) ((rf21.r.more hgl).less (by simp))
  have dg : Dom [gl] H22 := Dom.cons Dom.nil egl
  have gr22 : Gv [gl] σ7 H22 (tVar 4) (LQ K [gl] qs) := gv_var sf7.e4 sta_lq hr22
  refine st_seq (st_forOpen ((gv_catQ (K := K) gr22 (gv_takeQ (c := 1) gr22) (by rw [List.length_take]; have := sizeLine_eq; omega)).use SB.same dg fun v23 H23 s23 ⟨a23, xs23, e23, na23, ha23, hx23⟩ => ?_))
  subst e23
  refine ⟨a23, rfl, ⟨_, SqL.of ha23⟩, ?_⟩
  have gl23 := s23 _ _ (by simp) egl
  have lx23 : xs23.length ≤ 13 := by rw [hx23.len, List.length_append, List.length_take]; omega
  have okt : ∀ i, ∀ q ∈ (qs ++ qs.take 1).take i, WordOk q.1 ∧ WordOk q.2 := fun i q hq => by
    rcases List.mem_append.mp (List.mem_of_mem_take hq) with hq | hq
    · exact okq q hq
    · exact okq q (List.mem_of_mem_take hq)
  have sG21 : ∀ G, SB [gl] H23 G → SB [] H21 G := fun G s => SB.drop (S := []) (((s22.trans s23).wide (by simp)).trans s) hgl
  have toG : ∀ G, SB [gl] H23 G → RF K cT p nm wd pl pg pt qs (.ref h0) g t3 (.ref rd) ta aim G := fun G s => rf21.nil (sG21 G s)
  refine for_list (xs := xs23) (fun i τ G => Off [15] σ7 τ ∧ SB [gl] H23 G ∧ G gl = some (.lst (xs23.take i))) ⟨Off.refl, SB.same, gl23⟩ (fun i τ G _ h => SqL.of (h.2.1 _ _ na23 ha23)) (fun i y τ G hy ⟨o, s, eg⟩ => ?_) (fun τ G ⟨o, s, eg⟩ => ?_)
  · refine st_name ?_
    have sfτ := sf7.off (o.set (i := 15) (x := some y)) (by intro j hj; simp; omega)
    have e14τ := (o.set (i := 15) (x := some y)).to e14
    have e15τ : (τ.set 15 (some y))[15]? = some (some y) := List.getElem?_set_self (by rw [o.1, sf7.n]; decide)
    have oτ := o.set (i := 15) (x := some y)
    generalize τ.set 15 (some y) = υ at *
    have rfG := toG G s
    have hv : VAt K G (.its (((qs ++ qs.take 1).take i).map Sum.inl)) (.ref gl) := ⟨gl, _, rfl, eg, its_inl (okt i) (P2s.less (paired_take i (P2s.sb hx23 s)) (by simp))⟩
    have gvx : GV K υ G (tVar 14) (.its (((qs ++ qs.take 1).take i).map Sum.inl)) := gv_var e14τ sta_v hv
    have g1 := (gv_road (cT := cT) (rfG.gt sfτ) (rfG.ga sfτ) gvx wo wg).wk (R' := fun H v => Rp K [] H (.bool (decide (behV nm wd pl (.its (((qs ++ qs.take 1).take i).map Sum.inl)) = some pg))) v) fun H v h => h
    have g2 := (gv_lroad (rfG.gw sfτ) (rfG.gg sfτ) gvx wo wg).wk (R' := fun H v => Rp K [] H (.bool (decide (behV nm wd pl (.its (((qs ++ qs.take 1).take i).map Sum.inl)) = some pg))) v) fun H v h => h
    dsimp only
    refine st_seq (st_ifF (gvb_not (gvb_val (gv_exact (n := 4) g1 g2 trivial))) SB.same Dom.nil fun G2 s2 => ?_)
    have eg2 := s2 _ _ (by simp) eg
    dsimp only
    refine st_drop (op_bm ⟨_, e14τ, .inl ⟨rfl, _, SqL.of eg2⟩, _, e15τ, gl, xs23.take i, y, rfl, rfl, eg2, by rw [List.length_take]; have := sizeLine_eq; omega, ?_⟩)
    refine ⟨oτ, (s.nw s2).put (by simp), ?_⟩
    rw [upd_same, List.take_add_one, hy]
    rfl
  · have sfτ := sf7.off o (by intro j hj; simp; omega)
    have rfG := toG G s
    dsimp only
    refine st_retG (gv_exact (n := 4) (gv_ls2 (gv_wD (gv_worldOf (rfG.gt sfτ))) (gv_wD (gv_worldOf (rfG.ga sfτ)))) (gv_ls2 (gv_wD (rfG.gw sfτ)) (gv_wD (rfG.gg sfτ))) (dep2 (dep_worldN (n := 0) wo) (dep_worldN (n := 0) wg))) SB.same Dom.nil fun G2 s2 => ?_
    exact k G2 (((xH13.trans x21).nw (sG21 G s)).nw s2) ((((pu21.sb (sG21 G s) (by simp)).sb s2 (by simp))).less (by omega))
end
end K77
namespace K77
open PySem PySem.Spec PyProof.Rows C8 Ef
open L2 hiding E0 CX0 pass0 Fun
section
variable {P : Program} {w : World} {K : PySem.W.Frag} {mg : Str → Option Value} {base : Heap} {cT cC cR : Addr}
theorem sc_law : FnScope ["_law_script", "_law_purse_here", "_law_turn", "_law_world", "_law_late", "_law_names", "_law_words_here", "_law_members", "_law_third", "_law_person", "_law_club"] ["_law_script"] (defScope s_law) := ⟨rfl, rfl, rfl, by decide +kernel, rfl, by decide +kernel, by decide +kernel⟩
/-! names told anew -/
def rnm (nm late : List Str) (x : Str) : Str := late.getD (nm.idxOf x) ⟨#[]⟩
section
variable {nm wd late : List Str} {x y : Str} {pl : List (Str × Str)}
theorem idx_get (hx : x ∈ nm) : nm[nm.idxOf x]? = some x := by
  have h := List.idxOf_lt_length_of_mem hx
  rw [List.getElem?_eq_getElem h, List.getElem_idxOf]
theorem rnm_at (hl : nm.length ≤ late.length) (hx : x ∈ nm) : late[nm.idxOf x]? = some (rnm nm late x) := by
  have h := List.idxOf_lt_length_of_mem hx
  unfold rnm
  rw [List.getD_eq_getElem?_getD, List.getElem?_eq_getElem (by omega)] <;> rfl
theorem rnm_mem (hl : nm.length ≤ late.length) (hx : x ∈ nm) : rnm nm late x ∈ late.take nm.length := by
  have h := List.idxOf_lt_length_of_mem hx
  refine List.mem_of_getElem? (i := nm.idxOf x) ?_
  rw [List.getElem?_take, if_pos h]
  exact rnm_at hl hx
theorem rnm_inj (hl : nm.length ≤ late.length) (nd : late.Nodup) (hx : x ∈ nm) (hy : y ∈ nm) (e : rnm nm late x = rnm nm late y) : x = y := by
  have h1 := rnm_at hl hx
  have h2 := rnm_at hl hy
  rw [e] at h1
  have := (List.getElem?_inj (by have := List.idxOf_lt_length_of_mem hx; omega) nd).mp (h1.trans h2.symm)
  have i1 := idx_get hx
  have i2 := idx_get hy
  rw [this, i2] at i1
  exact (Option.some.inj i1).symm
theorem dict_at (nd : nm.Nodup) (hl : nm.length ≤ late.length) (hx : x ∈ nm) : valV (mergeK [] ((nm.map fun x => (Sum.inr x : L2.Key)).zip (late.map V.str))) (Sum.inr x) = some (.str (rnm nm late x)) := by
  have nk : (((nm.map fun x => (Sum.inr x : L2.Key)).zip (late.map V.str)).map (·.1)).Nodup := by
    rw [List.map_fst_zip (by rw [List.length_map, List.length_map]; exact hl)]
    unfold List.Nodup at nd ⊢
    rw [List.pairwise_map]
    exact List.Pairwise.imp (fun {a b} ne e => ne (by injection e)) nd
  rw [mergeK_nd _ [] (by simpa using nk), List.nil_append]
  refine valV_mem nk (List.mem_of_getElem? (i := nm.idxOf x) ?_)
  rw [List.getElem?_zip_eq_some]
  exact ⟨by rw [List.getElem?_map, idx_get hx] <;> rfl, by rw [List.getElem?_map, rnm_at hl hx] <;> rfl⟩
def rnmP (nm wd late : List Str) (q : Str × Str) : Str × Str := (rnm nm late q.1, rnm wd late q.2)
theorem rnmP_nodup (h : WO nm wd pl) (h1 : nm.length ≤ late.length) (h2 : wd.length ≤ late.length) (nd : late.Nodup) : (pl.map (rnmP nm wd late)).Nodup := by
  have hp := h.nd
  have hm := h.pm
  unfold List.Nodup at hp ⊢
  rw [List.pairwise_map]
  refine List.Pairwise.imp_of_mem (fun {a b} ha hb ne e => ne ?_) hp
  have ma := mem_prod.mp (hm a ha)
  have mb := mem_prod.mp (hm b hb)
  exact Prod.ext (rnm_inj h1 nd ma.1 mb.1 (congrArg Prod.fst e)) (rnm_inj h2 nd ma.2 mb.2 (congrArg Prod.snd e))
theorem WO.rnm (h : WO nm wd pl) (h1 : nm.length ≤ late.length) (h2 : wd.length ≤ late.length) (asc : Asc late) (ok : ∀ x ∈ late, WordOk x) : WO (late.take nm.length) (late.take wd.length) ((pl.map (rnmP nm wd late)).mergeSort leP) :=
  { n := List.Pairwise.sublist (List.take_sublist _ _) asc
    nk := fun x hx => ok x (List.mem_of_mem_take hx)
    n1 := by have := h.n1; rw [List.length_take]; omega
    n2 := by have := h.n2; rw [List.length_take]; omega
    d := List.Pairwise.sublist (List.take_sublist _ _) asc
    dk := fun x hx => ok x (List.mem_of_mem_take hx)
    d1 := by have := h.d1; rw [List.length_take]; omega
    d2 := by have := h.d2; rw [List.length_take]; omega
    pa := asc_sortP (rnmP_nodup h h1 h2 (asc_nodup asc))
    pm := fun q hq => by
      rw [(List.mergeSort_perm _ _).mem_iff] at hq
      obtain ⟨z, hz, rfl⟩ := List.mem_map.mp hq
      have := mem_prod.mp (h.pm z hz)
      exact mem_prod.mpr ⟨rnm_mem h1 this.1, rnm_mem h2 this.2⟩ }
end
section
variable {σ : L2.St} {H0 : Hp} {te tf : TE} {nm wd late ws : List Str} {pl : List (Str × Str)}
theorem gv_len (g : Gv [] σ H0 te (fun H v => LS K [] H ws v)) : Gv [] σ H0 (tCB (rLenQ K) (a1 te)) (fun _ v => v = .int (ws.length : Int)) :=
  gv_callB (gvt_cons sta_ls g gvt_nil) fun H vs Q s d ⟨v, us, e, ⟨a, e2, h⟩, eu⟩ k => by
    subst e eu e2
    exact ⟨a, _, rfl, .inl h.sq, k _ H SB.same (by rw [List.length_map])⟩
theorem gv_max {i j : Nat} (g : Gv [] σ H0 te (fun _ v => v = .int (i : Int))) (h : Gv [] σ H0 tf (fun _ v => v = .int (j : Int))) : Gv [] σ H0 (tCB (fun xs H Q => ∃ i j, xs = [V.int i, V.int j] ∧ Q (V.int (if j > i then j else i)) H) (a2 te tf)) (fun _ v => v = .int ((max i j : Nat) : Int)) :=
  gv_callB (gvt_cons sta_eq g (gvt_cons sta_eq h gvt_nil)) fun H vs Q s d ⟨v, us, e, hv, u, us2, e2, hu, eu⟩ k => by
    subst eu e2 e hv hu
    refine ⟨_, _, rfl, k _ H SB.same ?_⟩
    have : (if (j : Int) > i then (j : Int) else i) = ((max i j : Nat) : Int) := by split <;> omega
    rw [this]
def DkE (kvs : List (L2.Key × V)) (H : Hp) (v : V) : Prop := ∃ d, v = .ref d ∧ H d = some (.dK kvs)
theorem sta_dk {kvs : List (L2.Key × V)} : Sta [] (DkE kvs) := fun H H' v s ⟨d, e, h⟩ => ⟨d, e, s _ _ (by simp) h⟩
theorem op_dz {ts : TA} {H : Hp} {Q : VK} (h : ts σ H fun vs H1 => ∃ (a b : Addr) (ks : List Str) (ys : List V), vs = [.ref a, .ref b] ∧ SqL K H1 a (ks.map V.str) ∧ SqL K H1 b ys ∧ ks.length ≤ ys.length ∧ ∀ d, H1 d = none → Q (.ref d) (upd H1 d (.dK (mergeK [] ((ks.map fun x => (Sum.inr x : L2.Key)).zip ys))))) : tDictZipL K ts σ H Q := h
theorem gv_dictZip (g : Gv [] σ H0 te (fun H v => LS K [] H nm v)) (h : Gv [] σ H0 tf (fun H v => LS K [] H late v)) (hl : nm.length ≤ late.length) : Gv [] σ H0 (tDictZipL K (a2 te tf)) (DkE (mergeK [] ((nm.map fun x => (Sum.inr x : L2.Key)).zip (late.map V.str)))) := fun H Q s d k =>
  op_dz <| (gvt_cons sta_ls g (gvt_cons sta_ls h gvt_nil)) H _ s d fun vs H1 s1 ⟨v, us, e, hv, u, us2, e2, hu, eu⟩ => by
    subst eu e2 e
    obtain ⟨a, rfl, ra⟩ := hv
    obtain ⟨b, rfl, rb⟩ := hu
    exact ⟨a, b, nm, _, rfl, ra.sq, rb.sq, by rw [List.length_map]; exact hl, fun d hd => k _ _ (s1.new hd) ⟨d, rfl, upd_same⟩⟩
theorem gv_ren {i j c e : Nat} {d1 d2 : V} (hij : i ≠ j) (hi : i < σ.length) (hj : j < σ.length) (hc : c ≠ i ∧ c ≠ j) (he : e ≠ i ∧ e ≠ j) (ec : σ[c]? = some (some d1)) (ee : σ[e]? = some (some d2))
    (h1 : DkE (mergeK [] ((nm.map fun x => (Sum.inr x : L2.Key)).zip (late.map V.str))) H0 d1) (h2 : DkE (mergeK [] ((wd.map fun x => (Sum.inr x : L2.Key)).zip (late.map V.str))) H0 d2) (wo : WO nm wd pl) (l1 : nm.length ≤ late.length) (l2 : wd.length ≤ late.length)
    (g : Gv [] σ H0 te (fun H v => LP K [] H pl v)) : Gv [] σ H0 (tLc (iList K te) (gTup K 2 (gCons (gName i) (gCons (gName j) gNil))) tYes (tTup (a2 (tDGet (tVar c) (tVar i)) (tDGet (tVar e) (tVar j)))) [i, j]) (fun H v => LP K [] H (pl.map (rnmP nm wd late)) v) := fun H Q s d k =>
  g H _ s d fun v H1 s1 ⟨a, xs, ev, h, hx⟩ => by
    subst ev
    have lx := hx.len
    have l25 := wo.l25
    refine ⟨a, rfl, ⟨_, h.sq⟩, fun D hD => ?_⟩
    refine lcR (S := []) h hD (fun n acc G => P2s K [] G ((pl.take n).map (rnmP nm wd late)) acc) .nil (fun n x acc G hxn sb e0 hl hA => ?_) (fun G acc sb e0 hl hA => ?_)
    · obtain ⟨q, hq, t, rfl, nt, et⟩ := Paired.at1 hx hxn
      have mq := mem_prod.mp (wo.pm q (List.mem_of_getElem? hq))
      obtain ⟨b1, rfl, r1⟩ := sta_dk _ _ _ ((s.trans s1).trans sb) h1
      obtain ⟨b2, rfl, r2⟩ := sta_dk _ _ _ ((s.trans s1).trans sb) h2
      refine ⟨t, _, rfl, SqT.of (sb _ _ nt et), rfl, _, _, rfl, _, _, rfl, rfl, wipe2 hij, ?_⟩
      have z : ∀ {m : Nat} {u : V} {x y : Option V}, m ≠ i ∧ m ≠ j → σ[m]? = some (some u) → (((wipe σ [i, j]).set i x).set j y)[m]? = some (some u) := fun hm e => by
        rw [List.getElem?_set_ne (Ne.symm hm.2), List.getElem?_set_ne (Ne.symm hm.1), wipe_out (by simpa using hm)]
        exact e
      have q1 : DGet G b1 (.str q.1) (some (.str (rnm nm late q.1))) := by
        rw [← dict_at (asc_nodup wo.n) l1 mq.1]
        exact DGet.k (k := Sum.inr q.1) r1
      have q2 : DGet G b2 (.str q.2) (some (.str (rnm wd late q.2))) := by
        rw [← dict_at (asc_nodup wo.d) l2 mq.2]
        exact DGet.k (k := Sum.inr q.2) r2
      refine ⟨_, z hc ec, _, by rw [List.getElem?_set_ne (Ne.symm hij)]; exact List.getElem?_set_self (by rw [wipe_length]; exact hi), b1, _, rfl, q1, _, z he ee, _, List.getElem?_set_self (by rw [List.length_set, wipe_length]; exact hj), b2, _, rfl, q2, (show (2 : Nat) ≤ sizeLine by decide), fun p hp => ?_⟩
      have s2 := (SB.same (S := [])).new (o := .tup [.str (rnm nm late q.1), .str (rnm wd late q.2)]) hp
      have e2 := s2 _ _ (by simp) e0
      refine Pc.put (n := 25) hD (by have := (List.getElem?_eq_some_iff.mp hxn).1; omega) (by decide) hl (sb.trans s2) e2 ?_
      rw [List.take_add_one, hq, List.map_append]
      exact p2s_put (Paired.app (P2s.sb hA s2) (.cons ⟨p, rfl, RT2.at upd_same (by simp)⟩ .nil)) e2
    · rw [lx, List.take_length] at hA
      exact k _ _ (s1.trans sb) ⟨D, acc, rfl, RL.at e0 (by simp), hA⟩
end
end
end K77
namespace K77
open PySem PySem.Spec PyProof.Rows C8 Ef
open L2 hiding E0 CX0 pass0 Fun
section
variable {P : Program} {w : World} {K : PySem.W.Frag} {mg : Str → Option Value} {base : Heap} {cT cC cR : Addr}
theorem op_tup {σ : L2.St} {H : Hp} {ts : TA} {Q : VK} (h : ts σ H fun xs H1 => xs.length ≤ sizeLine ∧ ∀ p, H1 p = none → Q (.ref p) (upd H1 p (.tup xs))) : tTup ts σ H Q := h
theorem gv_takeLS {σ : L2.St} {H0 : Hp} {te tf : TE} {ws : List Str} {c : Nat} (g : Gv [] σ H0 te (fun H v => LS K [] H ws v)) (h : Gv [] σ H0 tf (fun _ v => v = .int (c : Int))) : Gv [] σ H0 (tSl (rSlL K) te tNoPart (tPart tf)) (fun H v => LS K [] H (ws.take c) v) := fun H Q s d k =>
  op_sl <| g H _ s d fun v H1 s1 hv => h H1 _ (s.trans s1) Dom.nil fun u H2 s2 eu => ⟨c, eu, by
    obtain ⟨a, rfl, ha⟩ := hv
    refine ⟨a, _, rfl, (ha.sb s2).sq, fun p hp => k _ _ ((s1.trans s2).new hp) ⟨p, rfl, RL.at ?_ (by simp)⟩⟩
    rw [cutV_to, List.map_take]
    exact upd_same⟩
theorem gv_sortQ {σ : L2.St} {H0 : Hp} {te : TE} {ws m : List (Str × Str)} (g : Gv [] σ H0 te (fun H v => LP K [] H ws v)) (p : ws.Perm m) (hm : AscP m) (hl : ws.length ≤ 10000) : Gv [] σ H0 (tCB (rSortedD K) (a1 te)) (LQ K [] m) :=
  gv_callB (gvt_cons sta_lp g gvt_nil) fun H vs Q s d ⟨v, us, e, hv, eu⟩ k => by
    subst e eu
    obtain ⟨a, xs, rfl, h, hx⟩ := hv
    exact sorted_lp h hx p hm hl fun r ys hr hys => k _ _ (SB.same.new hr) ⟨r, ys, rfl, by simp, upd_same, hys.sb (SB.same.new hr)⟩
theorem LS.offp {H : Hp} {ws : List Str} {v : V} {p : Addr} {n : Nat} (h : LS K [] H ws v) (hw : ws ≠ []) (pu : Pu H p n) : LS K [p] H ws v := by
  obtain ⟨a, e, h⟩ := h
  refine ⟨a, e, h.elim (fun h => .inl ⟨fun z => ?_, h.2⟩) .inr⟩
  have z := List.mem_singleton.mp z
  subst z
  obtain ⟨_, _, _, _, e, _⟩ := pu
  rcases h.2 with h | ⟨o, h⟩
  · rw [e] at h
    cases ws with
    | nil => exact hw rfl
    | cons x ws => cases h
  · rw [e] at h
    cases h
theorem LQ.offp {H : Hp} {qs : List (Str × Str)} {v : V} {p : Addr} {n : Nat} (h : LQ K [] qs H v) (pu : Pu H p n) : LQ K [p] qs H v := by
  obtain ⟨a, xs, e, na, ha, hx⟩ := h
  refine ⟨a, xs, e, fun z => ?_, ha, p2s_offl hx fun b hb => ?_⟩
  · have z := List.mem_singleton.mp z
    subst z
    obtain ⟨_, _, _, _, e2, _⟩ := pu
    rw [e2] at ha
    injection ha with ha
    injection ha with ha
    subst ha
    cases hx with
    | cons h1 _ =>
      obtain ⟨t, e3, _⟩ := h1
      cases e3
  · rw [List.mem_singleton.mp hb]
    obtain ⟨_, _, _, _, e, _⟩ := pu
    exact ⟨_, e⟩
def spLaw (K : PySem.W.Frag) : Sp := fun vs H Q _ => ∃ (a : Addr) (ns : List Int), vs = [.ref a] ∧ SqL K H a (ns.map V.int) ∧ ns.length ≤ 63 ∧ ∀ H', Q (.bl true) H'
theorem ok_law (M : Fx K mg cT cC) {f : Addr} {fd : FuncData} (F : FunD K "law" "law" (defArgs s_law) (defBody s_law) (defScope s_law) [] [] f fd) (c__law_purses : Cal P w K mg base 2 "_law_purses" (spPurses K) []) (c__law_draw : Cal P w K mg base 2 "_law_draw" spDraw []) (c__law_hall : Cal P w K mg base 6 "_law_hall" (spHall K) [])
    (c__law_people : Cal P w K mg base 5 "_law_people" spPeople []) (c__law_shifted : Cal P w K mg base 1 "_law_shifted" (spShift K) []) (c__law_one_of : Cal P w K mg base 3 "_law_one_of" (spOneOf K) []) (c__law_places : Cal P w K mg base 1 "_law_places" (spPlaces K) [])
    (c__law_counts_right : Cal P w K mg base 8 "_law_counts_right" (spCounts K) []) (c__law_roads_right : Cal P w K mg base 10 "_law_roads_right" (spRoads K) []) : FnOk P w K mg base C8.CX0 11 f fd ["_law_script"] (spLaw K) := by
  refine F.ok sc_law (fun vs H Q E h => by obtain ⟨_, _, rfl, _⟩ := h; rfl) (fun cdv A outer st H vs Q E hr h => ⟨_, PSs.nox ((pss_cons (ps_for PassesOwn.never rfl (pi_listQ (K := K) rfl (pe_c c__law_purses hr (by first | decide | omega) (by rfl) (pa_cons (pv 0) (pa_cons pe_int pa_nil)))) (pg_name (i := 1) sc_law.nd rfl (Or.inl rfl)) (pss_one (ps_for PassesOwn.never rfl (pi_range1 (by rfl) M.range (pa_cons pe_int pa_nil)) (pg_name (i := 2) sc_law.nd rfl (Or.inl rfl)) (pss_cons (ps_set (i := 3) sc_law.nd rfl (Or.inl rfl) (pe_c c__law_hall hr (by first | decide | omega) (by rfl) (pa_cons (pv 1) (pa_cons (pe_op op_add pe_int (pe_c c__law_draw hr (by first | decide | omega) (by rfl) (pa_cons (pv 1) (pa_cons pe_int pa_nil)))) (pa_cons (pe_op op_add pe_int (pe_c c__law_draw hr (by first | decide | omega) (by rfl) (pa_cons (pv 1) (pa_cons pe_int pa_nil)))) pa_nil)))))
  (pss_cut (ps_if (pt_cmpR op_eq (pv 2) pe_int (nomark _)) (pss_cons (ps_set (i := 4) sc_law.nd rfl (Or.inl rfl) (pe_c c__law_people hr (by first | decide | omega) (by rfl) (pa_cons (pv 1) (pa_cons (pe_callB (call_max2 rfl) (by rfl) M.max (by decide +kernel) (pa_cons (pe_callB (lenQ (K := K) rfl) (by rfl) M.len boot_len (pa_cons (pe_ix (ixL (K := K) rfl) (pv 3) pe_int (fun _ _ => rfl)) pa_nil)) (pa_cons (pe_callB (lenQ (K := K) rfl) (by rfl) M.len boot_len (pa_cons (pe_ix (ixL (K := K) rfl) (pv 3) pe_int (fun _ _ => rfl)) pa_nil)) pa_nil))) pa_nil))))
  (pss_cons (ps_asg (pe_tup (pa_cons (pe_dictZipL rfl (by rfl) M.dict (by rfl) M.zip (pa_cons (pe_ix (ixL (K := K) rfl) (pv 3) pe_int (fun _ _ => rfl)) (pa_cons (pv 4) pa_nil))) (pa_cons (pe_dictZipL rfl (by rfl) M.dict (by rfl) M.zip (pa_cons (pe_ix (ixL (K := K) rfl) (pv 3) pe_int (fun _ _ => rfl)) (pa_cons (pv 4) pa_nil))) pa_nil))) (pg_tupQ (K := K) (n := 2) rfl rfl (pgs_cons (pg_name (i := 5) sc_law.nd rfl (Or.inr rfl)) (pgs_cons (pg_name (i := 6) sc_law.nd rfl (Or.inr rfl)) pgs_nil))))
  (pss_cons (ps_set (i := 7) sc_law.nd rfl (Or.inl rfl) (pe_callB (sortedQ (K := K) rfl hr.units) (by rfl) M.sorted (by decide +kernel) (pa_cons (pe_lc rfl sc_law.nd (pi_listQ (K := K) rfl (pe_ix (ixL (K := K) rfl) (pv 3) pe_int (fun _ _ => rfl))) (blkOk_by (N := ["_law_script", "_law_purse_here", "_law_turn", "_law_world", "_law_late", "_law_names", "_law_words_here", "_law_members", "_law_third", "_law_person", "_law_club"]) (sc := defScope s_law) (own := [("_law_person", 9), ("_law_club", 10)]) (by decide +kernel)) (fun _ _ _ _ _ => (pg_tupQ (K := K) (n := 2) rfl rfl (pgs_cons (pg_name (i := 9) sc_law.nd rfl (Or.inl rfl)) (pgs_cons (pg_name (i := 10) sc_law.nd rfl (Or.inl rfl)) pgs_nil)))) (fun _ _ _ _ _ => pts_nil) (fun _ _ _ _ _ => (pe_tup (pa_cons (pe_dget (hu_of hr) (pv 5) (pv 9) (fun _ _ => rfl)) (pa_cons (pe_dget (hu_of hr) (pv 6) (pv 10) (fun _ _ => rfl)) pa_nil))))) pa_nil)))
  (pss_one (ps_set (i := 3) sc_law.nd rfl (Or.inl rfl) (pe_lst (pa_cons (pe_slice (slL (K := K) rfl) (pv 4) po_none (po_some (pe_callB (lenQ (K := K) rfl) (by rfl) M.len boot_len (pa_cons (pe_ix (ixL (K := K) rfl) (pv 3) pe_int (fun _ _ => rfl)) pa_nil)))) (pa_cons (pe_slice (slL (K := K) rfl) (pv 4) po_none (po_some (pe_callB (lenQ (K := K) rfl) (by rfl) M.len boot_len (pa_cons (pe_ix (ixL (K := K) rfl) (pv 3) pe_int (fun _ _ => rfl)) pa_nil)))) (pa_cons (pv 7) pa_nil))))))))) pss_nil)
  (pss_cons (ps_set (i := 8) sc_law.nd rfl (Or.inl rfl) (pe_c c__law_shifted hr (by first | decide | omega) (by rfl) (pa_cons (pv 3) (pa_cons (pe_c c__law_one_of hr (by first | decide | omega) (by rfl) (pa_cons (pv 1) (pa_cons (pe_c c__law_places hr (by first | decide | omega) (by rfl) (pa_cons (pv 3) pa_nil)) pa_nil))) pa_nil))))
  (pss_one (ps_if (PW.pt (pw_or (pt_not (pt_val (pe_c c__law_counts_right hr (by first | decide | omega) (by rfl) (pa_cons (pv 3) pa_nil)))) (pw_or1 (pt_not (pt_val (pe_c c__law_roads_right hr (by first | decide | omega) (by rfl) (pa_cons (pv 1) (pa_cons (pv 3) (pa_cons (pv 8) pa_nil))))))))) (pss_one (ps_ret pe_bl)) pss_nil))))))))
  (pss_one (ps_ret pe_bl)))), ?_⟩)
  obtain ⟨a, ns, rfl, hs, hn, q⟩ := h
  refine ⟨_, rfl, a, ns, rfl, hs, hn, fun l ps H1 s1 nl el lps hps nd => ⟨l, rfl, ⟨_, SqL.of el⟩, ?_⟩⟩
  have nlp : ∀ p ∈ ps, l ≠ p := fun p hp z => by
    obtain ⟨⟨_, _, _, _, e, _⟩, _⟩ := hps p hp
    rw [← z, el] at e
    cases ps with
    | nil => cases hp
    | cons x ps => cases e
  refine for_list (xs := ps.map V.ref) (fun i σ G => σ.length = 11 ∧ G l = some (.lst (ps.map V.ref)) ∧ ∀ (j : Nat) p, ps[j]? = some p → i ≤ j → Pu G p 1000000000) ⟨rfl, el, fun j p hp _ => (hps p (List.mem_of_getElem? hp)).1⟩ (fun i σ G _ h => SqL.of h.2.1) (fun i x σ G hx h => ?_) (fun σ G h => q G)
  obtain ⟨k0, el2, hpu⟩ := h
  rw [List.getElem?_map] at hx
  obtain ⟨p, hp, rfl⟩ := Option.map_eq_some_iff.mp hx
  have pu0 := hpu i p hp (Nat.le_refl _)
  have nl1 := nlp p (List.mem_of_getElem? hp)
  have k1 : (σ.set 1 (some (.ref p)))[1]? = some (some (.ref p)) := by rw [List.getElem?_set_self (by omega)]
  have j0 : (σ.set 1 (some (.ref p))).length = 11 := by rw [List.length_set]; exact k0
  refine ⟨_, rfl, by decide, by decide, for_range (lo := 0) (n := 2) (fun i σ G' => σ.length = 11 ∧ σ[1]? = some (some (.ref p)) ∧ SB [p] G G' ∧ Pu G' p (10000 * (5 - i))) ⟨j0, k1, SB.same, pu0.less (by omega)⟩ (fun i2 σ2 G2 hi2 h => ?_) (fun σ2 G2 h => ?_)⟩
  · obtain ⟨m0, m1, sb2, pu2⟩ := h
    refine st_name ?_
    have n0 : (σ2.set 2 (some (.int (0 + (i2 : Int))))).length = 11 := by rw [List.length_set]; exact m0
    have n1 : (σ2.set 2 (some (.int (0 + (i2 : Int)))))[1]? = some (some (.ref p)) := by rw [List.getElem?_set_ne (by decide)]; exact m1
    have n2 : (σ2.set 2 (some (.int (0 + (i2 : Int)))))[2]? = some (some (.int (0 + (i2 : Int)))) := List.getElem?_set_self (by omega)
    generalize σ2.set 2 (some (.int (0 + (i2 : Int)))) = σ3 at *
    refine ⟨_, n1, _, n1, p, 10000 * (5 - i2) - 1, 5, rfl, pu2.less (by omega), by decide, by decide, fun r G3 r1 r2 sb3 pu3 => ⟨_, _, rfl, rfl, ?_⟩⟩
    refine ⟨_, n1, p, 10000 * (5 - i2) - 2, 5, rfl, pu3.less (by omega), by decide, by decide, fun r' G4 r1' r2' sb4 pu4 => ⟨_, _, rfl, rfl, ?_⟩⟩
    obtain ⟨a, ha⟩ : ∃ a : Nat, 1 + r = (a : Int) := ⟨(1 + r).toNat, by omega⟩
    obtain ⟨b, hb⟩ : ∃ b : Nat, 1 + r' = (b : Int) := ⟨(1 + r').toNat, by omega⟩
    refine ⟨p, 10000 * (5 - i2) - 1002, a, b, congrArg (fun z : Int × Int => [V.ref p, V.int z.1, V.int z.2]) (Prod.ext ha hb : ((1 + r, 1 + r') : Int × Int) = ((a : Int), (b : Int))), pu4.less (by omega), by omega, by omega, by omega, by omega, fun nm wd pl v G5 hw ok sb5 pu5 => ?_⟩
    have wo : WO nm wd pl := ok.wo (by omega) (by omega) (by omega) (by omega)
    have w5 : W3 K [p] G5 nm wd pl v := hw.w3
    have x5 : SB [p] G G5 := ((sb2.trans sb3).trans sb4).trans sb5
    refine st_name ?_
    have o0 : (σ3.set 3 (some v)).length = 11 := by rw [List.length_set]; exact n0
    have o1 : (σ3.set 3 (some v))[1]? = some (some (.ref p)) := by rw [List.getElem?_set_ne (by decide)]; exact n1
    have o2 : (σ3.set 3 (some v))[2]? = some (some (.int (0 + (i2 : Int)))) := by rw [List.getElem?_set_ne (by decide)]; exact n2
    have o3 : (σ3.set 3 (some v))[3]? = some (some v) := by rw [List.getElem?_set_self (by omega)]
    generalize σ3.set 3 (some v) = σ4 at *
    refine ⟨fun σ' G' => ∃ v nm wd pl, σ'.length = 11 ∧ σ'[1]? = some (some (.ref p)) ∧ σ'[3]? = some (some v) ∧ W3 K [p] G' nm wd pl v ∧ WO nm wd pl ∧ SB [p] G G' ∧ Pu G' p (10000 * (5 - i2) - 2000), ?_, fun σ5 G6 h6 => ?_⟩
    · refine ⟨_, o2, rfl, _, rfl, ifB (fun _ => ?_) (fun _ => ⟨v, nm, wd, pl, o0, o1, o3, w5, wo, x5, pu5.less (by omega)⟩)⟩
      have w50 : W3 K [] G5 nm wd pl v := w5.less (by simp)
      have nn2 := wo.n2
      have nd2 := wo.d2
      have nn1 := wo.n1
      have nd1 := wo.d1
      refine st_seq (st_asg (op_call ⟨_, o1, (gv_max (gv_len (gv_w0 (gv_var o3 sta_w3 w50))) (gv_len (gv_w1 (gv_var o3 sta_w3 w50)))).use SB.same Dom.nil fun mv G6 s6 em => nilQ ?_⟩))
      subst em
      refine ⟨p, 10000 * (5 - i2) - 1500, max nm.length wd.length, rfl, (pu5.sb s6 (by simp)).less (by omega), by omega, by omega, fun l7 late G7 n7 el7 wsl asc sb7 pu7 => st_name ?_⟩
      have x7 : SB [p] G5 G7 := (s6.wide (by simp)).trans sb7
      have w70 : W3 K [] G7 nm wd pl v := (w5.sb x7).less (by simp)
      have h1 : nm.length ≤ late.length := by rw [wsl.1]; omega
      have h2 : wd.length ≤ late.length := by rw [wsl.1]; omega
      have u0 : (σ4.set 4 (some (V.ref l7))).length = 11 := by rw [List.length_set]; exact o0
      have u1 : (σ4.set 4 (some (V.ref l7)))[1]? = some (some (.ref p)) := by rw [List.getElem?_set_ne (by decide)]; exact o1
      have u3 : (σ4.set 4 (some (V.ref l7)))[3]? = some (some v) := by rw [List.getElem?_set_ne (by decide)]; exact o3
      have u4 : (σ4.set 4 (some (V.ref l7)))[4]? = some (some (.ref l7)) := List.getElem?_set_self (by omega)
      generalize σ4.set 4 (some (V.ref l7)) = σ5 at *
      have gl : ∀ (σ : L2.St) (G : Hp), SB [] G7 G → σ[4]? = some (some (.ref l7)) → Gv [] σ G (tVar 4) (fun H v => LS K [] H late v) := fun σ G s e => gv_var e sta_ls ⟨l7, rfl, RL.at (s _ _ (by simp) el7) (by simp)⟩
      have gw : ∀ (σ : L2.St) (G : Hp), SB [] G7 G → σ[3]? = some (some v) → GW K σ G (tVar 3) nm wd pl := fun σ G s e => gv_var e sta_w3 (w70.sb s)
      dsimp only
      refine st_seq (st_asg (op_tup ((gvt_cons sta_dk (gv_dictZip (gv_w0 (gw _ _ SB.same u3)) (gl _ _ SB.same u4) h1) (gvt_cons sta_dk (gv_dictZip (gv_w1 (gw _ _ SB.same u3)) (gl _ _ SB.same u4) h2) gvt_nil)) G7 _ SB.same Dom.nil fun vs G8 s8 ⟨d1, _, e1, hd1, d2, _, e2, hd2, e3⟩ => ?_)))
      subst e3 e2 e1
      refine ⟨(show (2 : Nat) ≤ sizeLine by decide), fun t ht => ⟨t, _, rfl, SqT.of upd_same, rfl, _, _, rfl, _, _, rfl, rfl, ?_⟩⟩
      have s9 : SB [] G7 (upd G8 t (.tup [d1, d2])) := s8.new ht
      have hd1 := sta_dk _ _ _ ((SB.same (S := [])).new (o := .tup [d1, d2]) ht) hd1
      have hd2 := sta_dk _ _ _ ((SB.same (S := [])).new (o := .tup [d1, d2]) ht) hd2
      generalize upd G8 t (.tup [d1, d2]) = G9 at *
      have t0 : ((σ5.set 5 (some d1)).set 6 (some d2)).length = 11 := by rw [List.length_set, List.length_set]; exact u0
      have t1 : ((σ5.set 5 (some d1)).set 6 (some d2))[1]? = some (some (.ref p)) := by rw [List.getElem?_set_ne (by decide), List.getElem?_set_ne (by decide)]; exact u1
      have t3 : ((σ5.set 5 (some d1)).set 6 (some d2))[3]? = some (some v) := by rw [List.getElem?_set_ne (by decide), List.getElem?_set_ne (by decide)]; exact u3
      have t4 : ((σ5.set 5 (some d1)).set 6 (some d2))[4]? = some (some (.ref l7)) := by rw [List.getElem?_set_ne (by decide), List.getElem?_set_ne (by decide)]; exact u4
      have t5 : ((σ5.set 5 (some d1)).set 6 (some d2))[5]? = some (some d1) := by rw [List.getElem?_set_ne (by decide)]; exact List.getElem?_set_self (by omega)
      have t6 : ((σ5.set 5 (some d1)).set 6 (some d2))[6]? = some (some d2) := List.getElem?_set_self (by rw [List.length_set]; omega)
      generalize (σ5.set 5 (some d1)).set 6 (some d2) = σ6 at *
      have nrm := rnmP_nodup wo h1 h2 (asc_nodup asc)
      have l25 := wo.l25
      dsimp only
      refine st_seq (gv_asg (gv_sortQ (gv_ren (i := 9) (j := 10) (c := 5) (e := 6) (by decide) (by omega) (by omega) (by decide) (by decide) t5 t6 hd1 hd2 wo h1 h2 (gv_w2 (gw _ _ s9 t3))) (List.mergeSort_perm _ leP).symm (asc_sortP nrm) (by rw [List.length_map]; omega)) SB.same Dom.nil fun v10 G10 s10 hv10 => ?_)
      have r1 : (σ6.set 7 (some v10))[1]? = some (some (.ref p)) := by rw [List.getElem?_set_ne (by decide)]; exact t1
      have r3 : (σ6.set 7 (some v10))[3]? = some (some v) := by rw [List.getElem?_set_ne (by decide)]; exact t3
      have r4 : (σ6.set 7 (some v10))[4]? = some (some (.ref l7)) := by rw [List.getElem?_set_ne (by decide)]; exact t4
      have r7 : (σ6.set 7 (some v10))[7]? = some (some v10) := List.getElem?_set_self (by omega)
      have r0 : (σ6.set 7 (some v10)).length = 11 := by rw [List.length_set]; exact t0
      generalize σ6.set 7 (some v10) = σ7 at *
      have s10' := s9.trans s10
      dsimp only
      refine st_asg (op_lst ((gvt_cons sta_ls (gv_takeLS (gl _ _ s10' r4) (gv_len (gv_w0 (gw _ _ s10' r3)))) (gvt_cons sta_ls (gv_takeLS (gl _ _ s10' r4) (gv_len (gv_w1 (gw _ _ s10' r3)))) (gvt_cons sta_lq (gv_var r7 sta_lq hv10) gvt_nil))) G10 _ SB.same Dom.nil fun vs G11 s11 ⟨y1, _, e1, hy1, y2, _, e2, hy2, y3, _, e3, hy3, e4⟩ => ?_))
      subst e4 e3 e2 e1
      refine ⟨(show (3 : Nat) ≤ sizeLine by decide), fun h hh => st_name ?_⟩
      have pu11 := (pu7.sb s10' (by simp)).sb s11 (by simp)
      have n1 : late.take nm.length ≠ [] := fun z => by have := congrArg List.length z; rw [List.length_take, List.length_nil] at this; omega
      have n2 : late.take wd.length ≠ [] := fun z => by have := congrArg List.length z; rw [List.length_take, List.length_nil] at this; omega
      obtain ⟨b1, rfl, hb1⟩ := LS.offp hy1 n1 pu11
      obtain ⟨b2, rfl, hb2⟩ := LS.offp hy2 n2 pu11
      obtain ⟨b3, xs3, rfl, nb3, hb3, hx3⟩ := LQ.offp hy3 pu11
      have sn : SB [p] G11 (upd G11 h (.lst [.ref b1, .ref b2, .ref b3])) := SB.same.new hh
      refine ⟨.ref h, _, _, _, by rw [List.length_set]; exact r0, by rw [List.getElem?_set_ne (by decide)]; exact r1, List.getElem?_set_self (by omega), ⟨h, b1, b2, b3, xs3, rfl, RL.at upd_same (pu11.dom.out hh), hb1.sb sn, hb2.sb sn, RL2.sb ⟨nb3, hb3⟩ sn, hx3.sb sn⟩, wo.rnm h1 h2 asc wsl.2.2, (((x5.trans x7).nw s10').nw s11).trans sn, (pu11.new hh).less (by omega)⟩
    · obtain ⟨v, nm, wd, pl, q0, q1, q3, hw, wo, x6, pu6⟩ := h6
      obtain ⟨h0, l0, l1, l2, wxs, rfl, r0, r1, r2, r3, r4⟩ := id hw
      refine st_seq (st_asg (op_call ⟨_, q3, _, q1, _, q3, h0, _, _, _, nm, wd, rfl, r0.less (by simp), ⟨l0, rfl, r1.less (by simp)⟩, ⟨l1, rfl, r2.less (by simp)⟩, wo.n60, wo.d60, fun l7 xs7 G7 s7 n7 e7 hx7 _ => ?_⟩))
      have u7 : SB [p] G6 G7 := SB.of s7
      have pu7 := pu6.sb (SB.of (S := []) s7) (by simp)
      have nl7 : l7 ∉ [p] := fun z => pu6.dom p (by simp) (List.mem_singleton.mp z ▸ n7)
      have lx1 : 1 ≤ xs7.length := by rw [hx7.len, prod_len]; exact Nat.mul_pos wo.n1 wo.d1
      have lx2 : xs7.length ≤ 25 := by rw [hx7.len, prod_len]; exact Nat.mul_le_mul wo.n2 wo.d2
      have hx7p : P2s K [p] G7 (prod nm wd) xs7 := p2s_offl hx7 fun b hb => by
        rw [List.mem_singleton.mp hb]
        obtain ⟨_, _, _, _, e, _⟩ := pu7
        exact ⟨_, e⟩
      refine ⟨p, l7, 10000 * (5 - i2) - 2001, xs7, rfl, pu7.less (by omega), RL.at e7 nl7, lx1, by omega, fun j y G8 hj sb8 pu8 => ?_⟩
      obtain ⟨q, hq, pq⟩ := Paired.at1 hx7p hj
      have mq : q ∈ prod nm wd := List.mem_of_getElem? hq
      have l25 := wo.l25
      refine ⟨[p], .ref h0, y, nm, wd, pl, q, rfl, pu8.dom, (hw.sb u7).sb sb8, pq.sb sb8, by omega, wo.nd, wo.tw.2.2, wo.pok mq, fun h' G9 s9 nh w9 => st_name ?_⟩
      have x9 : SB [p] G6 G9 := (u7.trans sb8).trans (SB.of s9)
      have pu9 := pu8.sb (SB.of (S := []) s9) (by simp)
      have t0 : (σ5.set 8 (some (V.ref h'))).length = 11 := by rw [List.length_set]; exact q0
      have t1 : (σ5.set 8 (some (V.ref h')))[1]? = some (some (.ref p)) := by rw [List.getElem?_set_ne (by decide)]; exact q1
      have t3 : (σ5.set 8 (some (V.ref h')))[3]? = some (some (.ref h0)) := by rw [List.getElem?_set_ne (by decide)]; exact q3
      have t8 : (σ5.set 8 (some (V.ref h')))[8]? = some (some (.ref h')) := List.getElem?_set_self (by omega)
      generalize σ5.set 8 (some (V.ref h')) = σ6 at *
      dsimp only
      refine ⟨_, t3, .ref h0, nm, wd, pl, rfl, (hw.sb x9).less (by simp), wo, fun G10 s10 => ⟨_, rfl, ifN rfl ?_⟩⟩
      have x10 : SB [p] G6 G10 := x9.trans (SB.of s10)
      refine ⟨_, t1, _, t3, _, t8, p, 10000 * (5 - i2) - 2600, .ref h0, .ref h', nm, wd, pl, _, rfl, (pu9.sb (SB.of (S := []) s10) (by simp)).less (by omega), hw.sb x10, w9.sb (SB.of s10), wo, wo.shift mq, fun G11 sb11 pu11 => ⟨_, rfl, ifN rfl ?_⟩⟩
      exact ⟨t0, t1, (x6.trans x10).trans sb11, pu11.less (by omega)⟩
  · obtain ⟨m0, m1, sb2, pu2⟩ := h
    refine ⟨m0, sb2 _ _ (by simp [nl1]) el2, fun j p' hp' hj => ?_⟩
    refine (hpu j p' hp' (by omega)).sb sb2 (by
      simp
      rintro rfl
      have hl : i < ps.length := (List.getElem?_eq_some_iff.mp hp).1
      have := (List.getElem?_inj hl nd).mp (hp.trans hp'.symm)
      omega)
end
end K77
namespace K77
open PySem PySem.Spec PyProof.Rows C8 Ef
open L2 hiding E0 CX0 pass0 Fun
def d_places_of : He.DefD := ⟨("places_of", none), "places_of", "places_of", defArgs s_places_of, defBody s_places_of, defScope s_places_of, [], []⟩
def d_across : He.DefD := ⟨("across", none), "across", "across", defArgs s_across, defBody s_across, defScope s_across, [], []⟩
def d_is_let_place : He.DefD := ⟨("is_let_place", none), "is_let_place", "is_let_place", defArgs s_is_let_place, defBody s_is_let_place, defScope s_is_let_place, [], []⟩
def d_is_lone_grid : He.DefD := ⟨("is_lone_grid", none), "is_lone_grid", "is_lone_grid", defArgs s_is_lone_grid, defBody s_is_lone_grid, defScope s_is_lone_grid, [], []⟩
def d_is_spelt : He.DefD := ⟨("is_spelt", none), "is_spelt", "is_spelt", defArgs s_is_spelt, defBody s_is_spelt, defScope s_is_spelt, [], []⟩
def d_are_people : He.DefD := ⟨("are_people", none), "are_people", "are_people", defArgs s_are_people, defBody s_are_people, defScope s_are_people, [], []⟩
def d_check_people : He.DefD := ⟨("check_people", none), "check_people", "check_people", defArgs s_check_people, defBody s_check_people, defScope s_check_people, [], []⟩
def d_check_clubs : He.DefD := ⟨("check_clubs", none), "check_clubs", "check_clubs", defArgs s_check_clubs, defBody s_check_clubs, defScope s_check_clubs, [], []⟩
def d_is_place_of : He.DefD := ⟨("is_place_of", none), "is_place_of", "is_place_of", defArgs s_is_place_of, defBody s_is_place_of, defScope s_is_place_of, [], []⟩
def d_Table___init__ : He.DefD := ⟨("Table", some "__init__"), "__init__", "Table.__init__", defArgs s_Table___init__, defBody s_Table___init__, defScope s_Table___init__, [], []⟩
def d_Table_people : He.DefD := ⟨("Table", some "people"), "people", "Table.people", defArgs s_Table_people, defBody s_Table_people, defScope s_Table_people, [], []⟩
def d_Table_clubs : He.DefD := ⟨("Table", some "clubs"), "clubs", "Table.clubs", defArgs s_Table_clubs, defBody s_Table_clubs, defScope s_Table_clubs, [], []⟩
def d_Table_members : He.DefD := ⟨("Table", some "members"), "members", "Table.members", defArgs s_Table_members, defBody s_Table_members, defScope s_Table_members, [], []⟩
def d_Table___eq__ : He.DefD := ⟨("Table", some "__eq__"), "__eq__", "Table.__eq__", defArgs s_Table___eq__, defBody s_Table___eq__, defScope s_Table___eq__, [], []⟩
def d_check_table : He.DefD := ⟨("check_table", none), "check_table", "check_table", defArgs s_check_table, defBody s_check_table, defScope s_check_table, [], []⟩
def d_check_tables : He.DefD := ⟨("check_tables", none), "check_tables", "check_tables", defArgs s_check_tables, defBody s_check_tables, defScope s_check_tables, [], []⟩
def d_spot_of : He.DefD := ⟨("spot_of", none), "spot_of", "spot_of", defArgs s_spot_of, defBody s_spot_of, defScope s_spot_of, [], []⟩
def d_named : He.DefD := ⟨("named", none), "named", "named", defArgs s_named, defBody s_named, defScope s_named, [], []⟩
def d_squares_of : He.DefD := ⟨("squares_of", none), "squares_of", "squares_of", defArgs s_squares_of, defBody s_squares_of, defScope s_squares_of, [], []⟩
def d_squares_through : He.DefD := ⟨("squares_through", none), "squares_through", "squares_through", defArgs s_squares_through, defBody s_squares_through, defScope s_squares_through, [], []⟩
def d_let_places : He.DefD := ⟨("let_places", none), "let_places", "let_places", defArgs s_let_places, defBody s_let_places, defScope s_let_places, [], []⟩
def d_moved_table : He.DefD := ⟨("moved_table", none), "moved_table", "moved_table", defArgs s_moved_table, defBody s_moved_table, defScope s_moved_table, [], []⟩
def d_moved : He.DefD := ⟨("moved", none), "moved", "moved", defArgs s_moved, defBody s_moved, defScope s_moved, [], []⟩
def d_behind_places : He.DefD := ⟨("behind_places", none), "behind_places", "behind_places", defArgs s_behind_places, defBody s_behind_places, defScope s_behind_places, [], []⟩
def d_table_behind : He.DefD := ⟨("table_behind", none), "table_behind", "table_behind", defArgs s_table_behind, defBody s_table_behind, defScope s_table_behind, [], []⟩
def d_is_club_road : He.DefD := ⟨("is_club_road", none), "is_club_road", "is_club_road", defArgs s_is_club_road, defBody s_is_club_road, defScope s_is_club_road, [], []⟩
def d_is_lone_table : He.DefD := ⟨("is_lone_table", none), "is_lone_table", "is_lone_table", defArgs s_is_lone_table, defBody s_is_lone_table, defScope s_is_lone_table, [], []⟩
def d_some_let_place : He.DefD := ⟨("some_let_place", none), "some_let_place", "some_let_place", defArgs s_some_let_place, defBody s_some_let_place, defScope s_some_let_place, [], []⟩
def d__law_purse : He.DefD := ⟨("_law_purse", none), "_law_purse", "_law_purse", defArgs s__law_purse, defBody s__law_purse, defScope s__law_purse, [], []⟩
def d__law_mixed : He.DefD := ⟨("_law_mixed", none), "_law_mixed", "_law_mixed", defArgs s__law_mixed, defBody s__law_mixed, defScope s__law_mixed, [], []⟩
def d__law_draw : He.DefD := ⟨("_law_draw", none), "_law_draw", "_law_draw", defArgs s__law_draw, defBody s__law_draw, defScope s__law_draw, [], []⟩
def d__law_purses : He.DefD := ⟨("_law_purses", none), "_law_purses", "_law_purses", defArgs s__law_purses, defBody s__law_purses, defScope s__law_purses, [], []⟩
def d__law_one_of : He.DefD := ⟨("_law_one_of", none), "_law_one_of", "_law_one_of", defArgs s__law_one_of, defBody s__law_one_of, defScope s__law_one_of, [], []⟩
def d__law_shuffled : He.DefD := ⟨("_law_shuffled", none), "_law_shuffled", "_law_shuffled", defArgs s__law_shuffled, defBody s__law_shuffled, defScope s__law_shuffled, [], []⟩
def d__law_same : He.DefD := ⟨("_law_same", none), "_law_same", "_law_same", defArgs s__law_same, defBody s__law_same, defScope s__law_same, [], []⟩
def d__law_exact : He.DefD := ⟨("_law_exact", none), "_law_exact", "_law_exact", defArgs s__law_exact, defBody s__law_exact, defScope s__law_exact, [], []⟩
def d__law_word : He.DefD := ⟨("_law_word", none), "_law_word", "_law_word", defArgs s__law_word, defBody s__law_word, defScope s__law_word, [], []⟩
def d__law_words : He.DefD := ⟨("_law_words", none), "_law_words", "_law_words", defArgs s__law_words, defBody s__law_words, defScope s__law_words, [], []⟩
def d__law_people : He.DefD := ⟨("_law_people", none), "_law_people", "_law_people", defArgs s__law_people, defBody s__law_people, defScope s__law_people, [], []⟩
def d__law_pairs : He.DefD := ⟨("_law_pairs", none), "_law_pairs", "_law_pairs", defArgs s__law_pairs, defBody s__law_pairs, defScope s__law_pairs, [], []⟩
def d__law_places : He.DefD := ⟨("_law_places", none), "_law_places", "_law_places", defArgs s__law_places, defBody s__law_places, defScope s__law_places, [], []⟩
def d__law_hall : He.DefD := ⟨("_law_hall", none), "_law_hall", "_law_hall", defArgs s__law_hall, defBody s__law_hall, defScope s__law_hall, [], []⟩
def d__law_table : He.DefD := ⟨("_law_table", none), "_law_table", "_law_table", defArgs s__law_table, defBody s__law_table, defScope s__law_table, [], []⟩
def d__law_world_of_table : He.DefD := ⟨("_law_world_of_table", none), "_law_world_of_table", "_law_world_of_table", defArgs s__law_world_of_table, defBody s__law_world_of_table, defScope s__law_world_of_table, [], []⟩
def d__law_through : He.DefD := ⟨("_law_through", none), "_law_through", "_law_through", defArgs s__law_through, defBody s__law_through, defScope s__law_through, [], []⟩
def d__law_free_places : He.DefD := ⟨("_law_free_places", none), "_law_free_places", "_law_free_places", defArgs s__law_free_places, defBody s__law_free_places, defScope s__law_free_places, [], []⟩
def d__law_shifted : He.DefD := ⟨("_law_shifted", none), "_law_shifted", "_law_shifted", defArgs s__law_shifted, defBody s__law_shifted, defScope s__law_shifted, [], []⟩
def d__law_walked_table : He.DefD := ⟨("_law_walked_table", none), "_law_walked_table", "_law_walked_table", defArgs s__law_walked_table, defBody s__law_walked_table, defScope s__law_walked_table, [], []⟩
def d__law_twos : He.DefD := ⟨("_law_twos", none), "_law_twos", "_law_twos", defArgs s__law_twos, defBody s__law_twos, defScope s__law_twos, [], []⟩
def d__law_all_squares : He.DefD := ⟨("_law_all_squares", none), "_law_all_squares", "_law_all_squares", defArgs s__law_all_squares, defBody s__law_all_squares, defScope s__law_all_squares, [], []⟩
def d__law_behind : He.DefD := ⟨("_law_behind", none), "_law_behind", "_law_behind", defArgs s__law_behind, defBody s__law_behind, defScope s__law_behind, [], []⟩
def d__law_is_road : He.DefD := ⟨("_law_is_road", none), "_law_is_road", "_law_is_road", defArgs s__law_is_road, defBody s__law_is_road, defScope s__law_is_road, [], []⟩
def d__law_counts_right : He.DefD := ⟨("_law_counts_right", none), "_law_counts_right", "_law_counts_right", defArgs s__law_counts_right, defBody s__law_counts_right, defScope s__law_counts_right, [], []⟩
def d__law_bent_roads : He.DefD := ⟨("_law_bent_roads", none), "_law_bent_roads", "_law_bent_roads", defArgs s__law_bent_roads, defBody s__law_bent_roads, defScope s__law_bent_roads, [], []⟩
def d__law_refused_right : He.DefD := ⟨("_law_refused_right", none), "_law_refused_right", "_law_refused_right", defArgs s__law_refused_right, defBody s__law_refused_right, defScope s__law_refused_right, [], []⟩
def d__law_long_right : He.DefD := ⟨("_law_long_right", none), "_law_long_right", "_law_long_right", defArgs s__law_long_right, defBody s__law_long_right, defScope s__law_long_right, [], []⟩
def d__law_roads_right : He.DefD := ⟨("_law_roads_right", none), "_law_roads_right", "_law_roads_right", defArgs s__law_roads_right, defBody s__law_roads_right, defScope s__law_roads_right, [], []⟩
def d_law : He.DefD := ⟨("law", none), "law", "law", defArgs s_law, defBody s_law, defScope s_law, [], []⟩
def fn : List He.DefD := [d_places_of, d_across, d_is_let_place, d_is_lone_grid, d_is_spelt, d_are_people, d_check_people, d_check_clubs, d_is_place_of, d_Table___init__, d_Table_people, d_Table_clubs, d_Table_members, d_Table___eq__, d_check_table, d_check_tables, d_spot_of, d_named, d_squares_of, d_squares_through, d_let_places, d_moved_table, d_moved, d_behind_places, d_table_behind, d_is_club_road, d_is_lone_table, d_some_let_place, d__law_purse, d__law_mixed, d__law_draw, d__law_purses, d__law_one_of, d__law_shuffled, d__law_same, d__law_exact, d__law_word, d__law_words, d__law_people, d__law_pairs, d__law_places, d__law_hall, d__law_table, d__law_world_of_table, d__law_through, d__law_free_places, d__law_shifted, d__law_walked_table, d__law_twos, d__law_all_squares, d__law_behind, d__law_is_road, d__law_counts_right, d__law_bent_roads, d__law_refused_right, d__law_long_right, d__law_roads_right, d_law]
def fa : List He.Fa := ([.glo "places_of", .glo "across", .glo "is_let_place", .glo "is_lone_grid", .glo "is_spelt", .glo "are_people", .glo "check_people", .glo "check_clubs", .glo "is_place_of", .glo "check_table", .glo "check_tables", .glo "spot_of", .glo "named", .glo "squares_of", .glo "squares_through"] : List He.Fa) ++ ([.glo "let_places", .glo "moved_table", .glo "moved", .glo "behind_places", .glo "table_behind", .glo "is_club_road", .glo "is_lone_table", .glo "some_let_place", .glo "_law_purse", .glo "_law_mixed", .glo "_law_draw", .glo "_law_purses", .glo "_law_one_of", .glo "_law_shuffled", .glo "_law_same"] : List He.Fa) ++ ([.glo "_law_exact", .glo "_law_word", .glo "_law_words", .glo "_law_people", .glo "_law_pairs", .glo "_law_places", .glo "_law_hall", .glo "_law_table", .glo "_law_world_of_table", .glo "_law_through", .glo "_law_free_places", .glo "_law_shifted", .glo "_law_walked_table", .glo "_law_twos", .glo "_law_all_squares"] : List He.Fa) ++ ([.glo "_law_behind", .glo "_law_is_road", .glo "_law_counts_right", .glo "_law_bent_roads", .glo "_law_refused_right", .glo "_law_long_right", .glo "_law_roads_right", .glo "law", .free "len", .free "sum", .free "int", .free "max", .free "min", .free "list", .free "dict"] : List He.Fa) ++ ([.free "sorted", .free "tuple", .free "isinstance", .free "any", .free "all", .free "range", .free "zip", .free "set", .free "str", .free "bool", .str "LETTERS" "abcdefghijklmnopqrstuvwxyz", .glo "Table", .cls "Table", .mkr "Table", .noat "Table" "names"] : List He.Fa) ++ ([.noat "Table" "words", .noat "Table" "places", .noat "Table" "grid", .meth "Table" "people", .meth "Table" "clubs", .meth "Table" "members", .meth "Table" "__eq__"] : List He.Fa)
def loose : List PySem.Str := (["places_of", "across", "is_let_place", "is_lone_grid", "FriendError", "InvalidPeople", "InvalidRoad", "InvalidTable", "InvalidClub", "InvalidPlace", "Unlike", "LETTERS", "is_spelt", "are_people", "check_people"] : List PySem.Str) ++ (["check_clubs", "is_place_of", "Table", "check_table", "check_tables", "spot_of", "named", "squares_of", "squares_through", "let_places", "moved_table", "moved", "behind_places", "table_behind", "is_club_road"] : List PySem.Str) ++ (["is_lone_table", "some_let_place", "_law_purse", "_law_mixed", "_law_draw", "_law_purses", "_law_one_of", "_law_shuffled", "_law_same", "_law_exact", "_law_word", "_law_words", "_law_people", "_law_pairs", "_law_places"] : List PySem.Str) ++ (["_law_hall", "_law_table", "_law_world_of_table", "_law_through", "_law_free_places", "_law_shifted", "_law_walked_table", "_law_twos", "_law_all_squares", "_law_behind", "_law_is_road", "_law_counts_right", "_law_bent_roads", "_law_refused_right", "_law_long_right"] : List PySem.Str) ++ (["_law_roads_right"] : List PySem.Str)
abbrev R : PySem.W.OpenRow := PySem.W.OpenLaw.row PySem.Challenge.rw_evenfriends_k77_whole_squares_and_club_r
def exB (K : PySem.W.Frag) : Bool := clsB K (He.ga K "Table") && (supB2 K "InvalidRoad" "InvalidRoad.__init__" R.prog.main.file)
def xs : List (Str × SuW) := [("InvalidRoad", some (("__init__" : Str), ("InvalidRoad.__init__" : Str), defArgs s_InvalidRoad___init__, FuncBody.stmts (defBody s_InvalidRoad___init__), defScope s_InvalidRoad___init__, mainGlobals, builtinsNs, Value.none))]
abbrev hk : PySem.W.Hook := hookX2 5 fa fn exB xs
def ob (s : PySem.W.SharedT) : AlX2 := obsX2 5 fa fn exB xs (HandSHeadRun.getT s)
theorem ob_eq (s : PySem.W.SharedT) : ob s = hk.obs s.abs := obsX_eq2 (HandSHeadRun.getT_eq s)
set_option maxHeartbeats 0 in
theorem run (w : World) : HandSHeadRun.RunEq R (PySem.W.view R.prog [67]) hk ob 6000 loose w := by
  intro os
  kernel_rfl
theorem facts {w : World} {K : PySem.W.Frag} {h : Heap} {mg : Str → Option Value} {f : Addr} (X : K.In h) (G : h.Ns mainGlobals mg) (hfa : mg ("law" : Str) = some (.ref f)) (c : He.SaysD fa fn K) (ex : exB K = true) (exx : (xs.map fun q => suW K q.1) = xs.map fun (q : Str × SuW) => q.2) :
    ∃ fd : FuncData, (∀ (s : Shared) (v : Value), BindsTo s fd ⟨[v], []⟩ [("_law_script", v)]) ∧ ∀ base : Heap, K.In base → base.Ns mainGlobals mg → FnOk R.prog w K mg base C8.CX0 11 f fd ["_law_script"] (spLaw K) := by
  simp only [exB, Bool.and_eq_true] at ex
  have M : Fx K mg (He.ga K "Table") 0 := {
    len := He.free_ok X G (c.fact 53 (f := .free "len") rfl)
    sum := He.free_ok X G (c.fact 54 (f := .free "sum") rfl)
    int := He.free_ok X G (c.fact 55 (f := .free "int") rfl)
    max := He.free_ok X G (c.fact 56 (f := .free "max") rfl)
    min := He.free_ok X G (c.fact 57 (f := .free "min") rfl)
    list := He.free_ok X G (c.fact 58 (f := .free "list") rfl)
    dict := He.free_ok X G (c.fact 59 (f := .free "dict") rfl)
    sorted := He.free_ok X G (c.fact 60 (f := .free "sorted") rfl)
    tuple := He.free_ok X G (c.fact 61 (f := .free "tuple") rfl)
    isinstance := He.free_ok X G (c.fact 62 (f := .free "isinstance") rfl)
    any := He.free_ok X G (c.fact 63 (f := .free "any") rfl)
    all := He.free_ok X G (c.fact 64 (f := .free "all") rfl)
    range := He.free_ok X G (c.fact 65 (f := .free "range") rfl)
    zip := He.free_ok X G (c.fact 66 (f := .free "zip") rfl)
    set := He.free_ok X G (c.fact 67 (f := .free "set") rfl)
    str := He.free_ok X G (c.fact 68 (f := .free "str") rfl)
    bool := He.free_ok X G (c.fact 69 (f := .free "bool") rfl)
    gLETTERS := by obtain ⟨t, e⟩ := He.str_ok X G (c.fact 70 (f := .str "LETTERS" "abcdefghijklmnopqrstuvwxyz") rfl); exact ⟨_, e, t, rfl⟩
    gTable := ⟨_, He.glo_ok X G (c.fact 71 (f := .glo "Table") rfl), rfl⟩
    clT := He.cls_ok (c.fact 72 (f := .cls "Table") rfl)
    noT := by
      intro f hf
      simp only [List.mem_cons, List.not_mem_nil, or_false] at hf
      rcases hf with rfl | rfl | rfl | rfl
      · exact He.noat_ok (c.fact 74 (f := .noat "Table" "names") rfl)
      · exact He.noat_ok (c.fact 75 (f := .noat "Table" "words") rfl)
      · exact He.noat_ok (c.fact 76 (f := .noat "Table" "places") rfl)
      · exact He.noat_ok (c.fact 77 (f := .noat "Table" "grid") rfl)
    eT := clsB_ok ex.1
  }
  have e_InvalidRoad := List.head_eq_of_cons_eq (exx)
  have x_InvalidRoad : SupIs R.prog K mg "InvalidRoad" (He.ga K "InvalidRoad") := supB_ok2 X G e_InvalidRoad ex.2 (by first | rfl | decide +kernel) (by first | rfl | decide +kernel) rfl rfl rfl rfl rfl rfl (fun env => ⟨_, rfl⟩) (fun _ _ _ _ _ _ _ _ us its hl l1 => match us, its, hl, l1 with | [_, _], [_], _, _ => ⟨_, rfl, rfl⟩)
  have F_places_of : Fn K mg "places_of" s_places_of := by obtain ⟨fd, D⟩ := c.def_ 0 (d := d_places_of) rfl; exact ⟨⟨_, fd, D, He.glo_ok X G (c.fact 0 (f := .glo "places_of") rfl), D.kp⟩⟩
  have F_across : Fn K mg "across" s_across := by obtain ⟨fd, D⟩ := c.def_ 1 (d := d_across) rfl; exact ⟨⟨_, fd, D, He.glo_ok X G (c.fact 1 (f := .glo "across") rfl), D.kp⟩⟩
  have F_is_let_place : Fn K mg "is_let_place" s_is_let_place := by obtain ⟨fd, D⟩ := c.def_ 2 (d := d_is_let_place) rfl; exact ⟨⟨_, fd, D, He.glo_ok X G (c.fact 2 (f := .glo "is_let_place") rfl), D.kp⟩⟩
  have F_is_lone_grid : Fn K mg "is_lone_grid" s_is_lone_grid := by obtain ⟨fd, D⟩ := c.def_ 3 (d := d_is_lone_grid) rfl; exact ⟨⟨_, fd, D, He.glo_ok X G (c.fact 3 (f := .glo "is_lone_grid") rfl), D.kp⟩⟩
  have F_is_spelt : Fn K mg "is_spelt" s_is_spelt := by obtain ⟨fd, D⟩ := c.def_ 4 (d := d_is_spelt) rfl; exact ⟨⟨_, fd, D, He.glo_ok X G (c.fact 4 (f := .glo "is_spelt") rfl), D.kp⟩⟩
  have F_are_people : Fn K mg "are_people" s_are_people := by obtain ⟨fd, D⟩ := c.def_ 5 (d := d_are_people) rfl; exact ⟨⟨_, fd, D, He.glo_ok X G (c.fact 5 (f := .glo "are_people") rfl), D.kp⟩⟩
  have F_check_people : Fn K mg "check_people" s_check_people := by obtain ⟨fd, D⟩ := c.def_ 6 (d := d_check_people) rfl; exact ⟨⟨_, fd, D, He.glo_ok X G (c.fact 6 (f := .glo "check_people") rfl), D.kp⟩⟩
  have F_check_clubs : Fn K mg "check_clubs" s_check_clubs := by obtain ⟨fd, D⟩ := c.def_ 7 (d := d_check_clubs) rfl; exact ⟨⟨_, fd, D, He.glo_ok X G (c.fact 7 (f := .glo "check_clubs") rfl), D.kp⟩⟩
  have F_is_place_of : Fn K mg "is_place_of" s_is_place_of := by obtain ⟨fd, D⟩ := c.def_ 8 (d := d_is_place_of) rfl; exact ⟨⟨_, fd, D, He.glo_ok X G (c.fact 8 (f := .glo "is_place_of") rfl), D.kp⟩⟩
  have F_Table___init__ : Kn K mg (He.ga K "Table") "Table" "Table.__init__" s_Table___init__ := by obtain ⟨fd, D⟩ := c.def_ 9 (d := d_Table___init__) rfl; exact ⟨⟨_, fd, D, He.mkr_ok (c.fact 73 (f := .mkr "Table") rfl)⟩, He.glo_ok X G (c.fact 71 (f := .glo "Table") rfl)⟩
  have F_Table_people : Mn K (He.ga K "Table") "people" "Table.people" s_Table_people := by obtain ⟨fd, D⟩ := c.def_ 10 (d := d_Table_people) rfl; exact ⟨⟨_, fd, D, He.meth_ok (c.fact 78 (f := .meth "Table" "people") rfl)⟩⟩
  have F_Table_clubs : Mn K (He.ga K "Table") "clubs" "Table.clubs" s_Table_clubs := by obtain ⟨fd, D⟩ := c.def_ 11 (d := d_Table_clubs) rfl; exact ⟨⟨_, fd, D, He.meth_ok (c.fact 79 (f := .meth "Table" "clubs") rfl)⟩⟩
  have F_Table_members : Mn K (He.ga K "Table") "members" "Table.members" s_Table_members := by obtain ⟨fd, D⟩ := c.def_ 12 (d := d_Table_members) rfl; exact ⟨⟨_, fd, D, He.meth_ok (c.fact 80 (f := .meth "Table" "members") rfl)⟩⟩
  have F_Table___eq__ : Mn K (He.ga K "Table") "__eq__" "Table.__eq__" s_Table___eq__ := by obtain ⟨fd, D⟩ := c.def_ 13 (d := d_Table___eq__) rfl; exact ⟨⟨_, fd, D, He.meth_ok (c.fact 81 (f := .meth "Table" "__eq__") rfl)⟩⟩
  have F_check_table : Fn K mg "check_table" s_check_table := by obtain ⟨fd, D⟩ := c.def_ 14 (d := d_check_table) rfl; exact ⟨⟨_, fd, D, He.glo_ok X G (c.fact 9 (f := .glo "check_table") rfl), D.kp⟩⟩
  have F_check_tables : Fn K mg "check_tables" s_check_tables := by obtain ⟨fd, D⟩ := c.def_ 15 (d := d_check_tables) rfl; exact ⟨⟨_, fd, D, He.glo_ok X G (c.fact 10 (f := .glo "check_tables") rfl), D.kp⟩⟩
  have F_spot_of : Fn K mg "spot_of" s_spot_of := by obtain ⟨fd, D⟩ := c.def_ 16 (d := d_spot_of) rfl; exact ⟨⟨_, fd, D, He.glo_ok X G (c.fact 11 (f := .glo "spot_of") rfl), D.kp⟩⟩
  have F_named : Fn K mg "named" s_named := by obtain ⟨fd, D⟩ := c.def_ 17 (d := d_named) rfl; exact ⟨⟨_, fd, D, He.glo_ok X G (c.fact 12 (f := .glo "named") rfl), D.kp⟩⟩
  have F_squares_of : Fn K mg "squares_of" s_squares_of := by obtain ⟨fd, D⟩ := c.def_ 18 (d := d_squares_of) rfl; exact ⟨⟨_, fd, D, He.glo_ok X G (c.fact 13 (f := .glo "squares_of") rfl), D.kp⟩⟩
  have F_squares_through : Fn K mg "squares_through" s_squares_through := by obtain ⟨fd, D⟩ := c.def_ 19 (d := d_squares_through) rfl; exact ⟨⟨_, fd, D, He.glo_ok X G (c.fact 14 (f := .glo "squares_through") rfl), D.kp⟩⟩
  have F_let_places : Fn K mg "let_places" s_let_places := by obtain ⟨fd, D⟩ := c.def_ 20 (d := d_let_places) rfl; exact ⟨⟨_, fd, D, He.glo_ok X G (c.fact 15 (f := .glo "let_places") rfl), D.kp⟩⟩
  have F_moved_table : Fn K mg "moved_table" s_moved_table := by obtain ⟨fd, D⟩ := c.def_ 21 (d := d_moved_table) rfl; exact ⟨⟨_, fd, D, He.glo_ok X G (c.fact 16 (f := .glo "moved_table") rfl), D.kp⟩⟩
  have F_moved : Fn K mg "moved" s_moved := by obtain ⟨fd, D⟩ := c.def_ 22 (d := d_moved) rfl; exact ⟨⟨_, fd, D, He.glo_ok X G (c.fact 17 (f := .glo "moved") rfl), D.kp⟩⟩
  have F_behind_places : Fn K mg "behind_places" s_behind_places := by obtain ⟨fd, D⟩ := c.def_ 23 (d := d_behind_places) rfl; exact ⟨⟨_, fd, D, He.glo_ok X G (c.fact 18 (f := .glo "behind_places") rfl), D.kp⟩⟩
  have F_table_behind : Fn K mg "table_behind" s_table_behind := by obtain ⟨fd, D⟩ := c.def_ 24 (d := d_table_behind) rfl; exact ⟨⟨_, fd, D, He.glo_ok X G (c.fact 19 (f := .glo "table_behind") rfl), D.kp⟩⟩
  have F_is_club_road : Fn K mg "is_club_road" s_is_club_road := by obtain ⟨fd, D⟩ := c.def_ 25 (d := d_is_club_road) rfl; exact ⟨⟨_, fd, D, He.glo_ok X G (c.fact 20 (f := .glo "is_club_road") rfl), D.kp⟩⟩
  have F_is_lone_table : Fn K mg "is_lone_table" s_is_lone_table := by obtain ⟨fd, D⟩ := c.def_ 26 (d := d_is_lone_table) rfl; exact ⟨⟨_, fd, D, He.glo_ok X G (c.fact 21 (f := .glo "is_lone_table") rfl), D.kp⟩⟩
  have F_some_let_place : Fn K mg "some_let_place" s_some_let_place := by obtain ⟨fd, D⟩ := c.def_ 27 (d := d_some_let_place) rfl; exact ⟨⟨_, fd, D, He.glo_ok X G (c.fact 22 (f := .glo "some_let_place") rfl), D.kp⟩⟩
  have F__law_purse : Fn K mg "_law_purse" s__law_purse := by obtain ⟨fd, D⟩ := c.def_ 28 (d := d__law_purse) rfl; exact ⟨⟨_, fd, D, He.glo_ok X G (c.fact 23 (f := .glo "_law_purse") rfl), D.kp⟩⟩
  have F__law_mixed : Fn K mg "_law_mixed" s__law_mixed := by obtain ⟨fd, D⟩ := c.def_ 29 (d := d__law_mixed) rfl; exact ⟨⟨_, fd, D, He.glo_ok X G (c.fact 24 (f := .glo "_law_mixed") rfl), D.kp⟩⟩
  have F__law_draw : Fn K mg "_law_draw" s__law_draw := by obtain ⟨fd, D⟩ := c.def_ 30 (d := d__law_draw) rfl; exact ⟨⟨_, fd, D, He.glo_ok X G (c.fact 25 (f := .glo "_law_draw") rfl), D.kp⟩⟩
  have F__law_purses : Fn K mg "_law_purses" s__law_purses := by obtain ⟨fd, D⟩ := c.def_ 31 (d := d__law_purses) rfl; exact ⟨⟨_, fd, D, He.glo_ok X G (c.fact 26 (f := .glo "_law_purses") rfl), D.kp⟩⟩
  have F__law_one_of : Fn K mg "_law_one_of" s__law_one_of := by obtain ⟨fd, D⟩ := c.def_ 32 (d := d__law_one_of) rfl; exact ⟨⟨_, fd, D, He.glo_ok X G (c.fact 27 (f := .glo "_law_one_of") rfl), D.kp⟩⟩
  have F__law_shuffled : Fn K mg "_law_shuffled" s__law_shuffled := by obtain ⟨fd, D⟩ := c.def_ 33 (d := d__law_shuffled) rfl; exact ⟨⟨_, fd, D, He.glo_ok X G (c.fact 28 (f := .glo "_law_shuffled") rfl), D.kp⟩⟩
  have F__law_same : Fn K mg "_law_same" s__law_same := by obtain ⟨fd, D⟩ := c.def_ 34 (d := d__law_same) rfl; exact ⟨⟨_, fd, D, He.glo_ok X G (c.fact 29 (f := .glo "_law_same") rfl), D.kp⟩⟩
  have F__law_exact : Fn K mg "_law_exact" s__law_exact := by obtain ⟨fd, D⟩ := c.def_ 35 (d := d__law_exact) rfl; exact ⟨⟨_, fd, D, He.glo_ok X G (c.fact 30 (f := .glo "_law_exact") rfl), D.kp⟩⟩
  have F__law_word : Fn K mg "_law_word" s__law_word := by obtain ⟨fd, D⟩ := c.def_ 36 (d := d__law_word) rfl; exact ⟨⟨_, fd, D, He.glo_ok X G (c.fact 31 (f := .glo "_law_word") rfl), D.kp⟩⟩
  have F__law_words : Fn K mg "_law_words" s__law_words := by obtain ⟨fd, D⟩ := c.def_ 37 (d := d__law_words) rfl; exact ⟨⟨_, fd, D, He.glo_ok X G (c.fact 32 (f := .glo "_law_words") rfl), D.kp⟩⟩
  have F__law_people : Fn K mg "_law_people" s__law_people := by obtain ⟨fd, D⟩ := c.def_ 38 (d := d__law_people) rfl; exact ⟨⟨_, fd, D, He.glo_ok X G (c.fact 33 (f := .glo "_law_people") rfl), D.kp⟩⟩
  have F__law_pairs : Fn K mg "_law_pairs" s__law_pairs := by obtain ⟨fd, D⟩ := c.def_ 39 (d := d__law_pairs) rfl; exact ⟨⟨_, fd, D, He.glo_ok X G (c.fact 34 (f := .glo "_law_pairs") rfl), D.kp⟩⟩
  have F__law_places : Fn K mg "_law_places" s__law_places := by obtain ⟨fd, D⟩ := c.def_ 40 (d := d__law_places) rfl; exact ⟨⟨_, fd, D, He.glo_ok X G (c.fact 35 (f := .glo "_law_places") rfl), D.kp⟩⟩
  have F__law_hall : Fn K mg "_law_hall" s__law_hall := by obtain ⟨fd, D⟩ := c.def_ 41 (d := d__law_hall) rfl; exact ⟨⟨_, fd, D, He.glo_ok X G (c.fact 36 (f := .glo "_law_hall") rfl), D.kp⟩⟩
  have F__law_table : Fn K mg "_law_table" s__law_table := by obtain ⟨fd, D⟩ := c.def_ 42 (d := d__law_table) rfl; exact ⟨⟨_, fd, D, He.glo_ok X G (c.fact 37 (f := .glo "_law_table") rfl), D.kp⟩⟩
  have F__law_world_of_table : Fn K mg "_law_world_of_table" s__law_world_of_table := by obtain ⟨fd, D⟩ := c.def_ 43 (d := d__law_world_of_table) rfl; exact ⟨⟨_, fd, D, He.glo_ok X G (c.fact 38 (f := .glo "_law_world_of_table") rfl), D.kp⟩⟩
  have F__law_through : Fn K mg "_law_through" s__law_through := by obtain ⟨fd, D⟩ := c.def_ 44 (d := d__law_through) rfl; exact ⟨⟨_, fd, D, He.glo_ok X G (c.fact 39 (f := .glo "_law_through") rfl), D.kp⟩⟩
  have F__law_free_places : Fn K mg "_law_free_places" s__law_free_places := by obtain ⟨fd, D⟩ := c.def_ 45 (d := d__law_free_places) rfl; exact ⟨⟨_, fd, D, He.glo_ok X G (c.fact 40 (f := .glo "_law_free_places") rfl), D.kp⟩⟩
  have F__law_shifted : Fn K mg "_law_shifted" s__law_shifted := by obtain ⟨fd, D⟩ := c.def_ 46 (d := d__law_shifted) rfl; exact ⟨⟨_, fd, D, He.glo_ok X G (c.fact 41 (f := .glo "_law_shifted") rfl), D.kp⟩⟩
  have F__law_walked_table : Fn K mg "_law_walked_table" s__law_walked_table := by obtain ⟨fd, D⟩ := c.def_ 47 (d := d__law_walked_table) rfl; exact ⟨⟨_, fd, D, He.glo_ok X G (c.fact 42 (f := .glo "_law_walked_table") rfl), D.kp⟩⟩
  have F__law_twos : Fn K mg "_law_twos" s__law_twos := by obtain ⟨fd, D⟩ := c.def_ 48 (d := d__law_twos) rfl; exact ⟨⟨_, fd, D, He.glo_ok X G (c.fact 43 (f := .glo "_law_twos") rfl), D.kp⟩⟩
  have F__law_all_squares : Fn K mg "_law_all_squares" s__law_all_squares := by obtain ⟨fd, D⟩ := c.def_ 49 (d := d__law_all_squares) rfl; exact ⟨⟨_, fd, D, He.glo_ok X G (c.fact 44 (f := .glo "_law_all_squares") rfl), D.kp⟩⟩
  have F__law_behind : Fn K mg "_law_behind" s__law_behind := by obtain ⟨fd, D⟩ := c.def_ 50 (d := d__law_behind) rfl; exact ⟨⟨_, fd, D, He.glo_ok X G (c.fact 45 (f := .glo "_law_behind") rfl), D.kp⟩⟩
  have F__law_is_road : Fn K mg "_law_is_road" s__law_is_road := by obtain ⟨fd, D⟩ := c.def_ 51 (d := d__law_is_road) rfl; exact ⟨⟨_, fd, D, He.glo_ok X G (c.fact 46 (f := .glo "_law_is_road") rfl), D.kp⟩⟩
  have F__law_counts_right : Fn K mg "_law_counts_right" s__law_counts_right := by obtain ⟨fd, D⟩ := c.def_ 52 (d := d__law_counts_right) rfl; exact ⟨⟨_, fd, D, He.glo_ok X G (c.fact 47 (f := .glo "_law_counts_right") rfl), D.kp⟩⟩
  have F__law_bent_roads : Fn K mg "_law_bent_roads" s__law_bent_roads := by obtain ⟨fd, D⟩ := c.def_ 53 (d := d__law_bent_roads) rfl; exact ⟨⟨_, fd, D, He.glo_ok X G (c.fact 48 (f := .glo "_law_bent_roads") rfl), D.kp⟩⟩
  have F__law_refused_right : Fn K mg "_law_refused_right" s__law_refused_right := by obtain ⟨fd, D⟩ := c.def_ 54 (d := d__law_refused_right) rfl; exact ⟨⟨_, fd, D, He.glo_ok X G (c.fact 49 (f := .glo "_law_refused_right") rfl), D.kp⟩⟩
  have F__law_long_right : Fn K mg "_law_long_right" s__law_long_right := by obtain ⟨fd, D⟩ := c.def_ 55 (d := d__law_long_right) rfl; exact ⟨⟨_, fd, D, He.glo_ok X G (c.fact 50 (f := .glo "_law_long_right") rfl), D.kp⟩⟩
  have F__law_roads_right : Fn K mg "_law_roads_right" s__law_roads_right := by obtain ⟨fd, D⟩ := c.def_ 56 (d := d__law_roads_right) rfl; exact ⟨⟨_, fd, D, He.glo_ok X G (c.fact 51 (f := .glo "_law_roads_right") rfl), D.kp⟩⟩
  obtain ⟨fd, F⟩ := c.def_ 57 (d := d_law) rfl
  have e := hfa.symm.trans (He.glo_ok X G (c.fact 52 (f := .glo "law") rfl))
  cases e
  have b := FunD.bindsA (ps := ["_law_script"]) F fun _ _ _ _ _ _ us hl => match us, hl with | [_], _ => rfl
  refine ⟨fd, fun s v => b s [v] rfl, fun base _ _ => ?_⟩
  have c__law_mixed := ok_mixed (P := R.prog) (w := w) (base := base) M.toBl F__law_mixed 
  have c__law_draw := ok_draw (P := R.prog) (w := w) (base := base) M.toBl F__law_draw c__law_mixed
  have c__law_purse := ok_purse (P := R.prog) (w := w) (base := base) M.toBl F__law_purse 
  have c__law_purses := ok_purses (P := R.prog) (w := w) (base := base) M.toBl F__law_purses c__law_purse
  have c__law_one_of := ok_one_of (P := R.prog) (w := w) (base := base) M.toBl F__law_one_of c__law_draw
  have c__law_shuffled := ok_shuffled (P := R.prog) (w := w) (base := base) M.toBl F__law_shuffled c__law_draw
  have c__law_same := ok_same (P := R.prog) (w := w) (base := base) M.toBl F__law_same  4
  have c__law_exact := ok_exact (P := R.prog) (w := w) (base := base) M.toBl F__law_exact  4
  have c__law_word := ok_word (P := R.prog) (w := w) (base := base) M.toBl F__law_word c__law_draw
  have c__law_words := ok_words (P := R.prog) (w := w) (base := base) M.toBl F__law_words c__law_draw c__law_word
  have c__law_people := ok_people (P := R.prog) (w := w) (base := base) M.toBl F__law_people c__law_draw c__law_words c__law_shuffled
  have c__law_places := ok_places (P := R.prog) (w := w) (base := base) M.toBl F__law_places 
  have c__law_hall := ok_hall (P := R.prog) (w := w) (base := base) M.toBl F__law_hall c__law_draw c__law_people c__law_words c__law_shuffled c__law_places
  have c_is_spelt := ok_spelt (P := R.prog) (w := w) (base := base) M F_is_spelt 
  have c_are_people := ok_are_people (P := R.prog) (w := w) (base := base) M F_are_people c_is_spelt
  have c_check_people := ok_check_people (P := R.prog) (w := w) (base := base) M F_check_people c_are_people
  have c_check_clubs := ok_check_clubs (P := R.prog) (w := w) (base := base) M F_check_clubs c_are_people
  have c_is_place_of := ok_place_of (P := R.prog) (w := w) (base := base) M F_is_place_of c_is_spelt
  have c_Table := ok_init (P := R.prog) (w := w) (base := base) M F_Table___init__ c_check_people c_check_clubs c_is_place_of
  have m_Table_people := ok_people_m (P := R.prog) (w := w) (base := base) M F_Table_people 
  have m_Table_clubs := ok_clubs_m (P := R.prog) (w := w) (base := base) M F_Table_clubs 
  have m_Table_members := ok_members_m (P := R.prog) (w := w) (base := base) M F_Table_members 
  have m_Table___eq__ := ok_eqT (P := R.prog) (w := w) (base := base) M F_Table___eq__ 
  have c_check_table := ok_check_table (P := R.prog) (w := w) (base := base) M F_check_table 
  have c__law_table := ok_table (P := R.prog) (w := w) (base := base) M F__law_table c_Table
  have c__law_shifted := ok_shifted (P := R.prog) (w := w) (base := base) M F__law_shifted 
  have c_places_of := ok_places_of (P := R.prog) (w := w) (base := base) M F_places_of 
  have c_across := ok_across (P := R.prog) (w := w) (base := base) M F_across 
  have c_is_let_place := ok_let (P := R.prog) (w := w) (base := base) M F_is_let_place c_across
  have c_named := ok_named (P := R.prog) (w := w) (base := base) M F_named 
  have c_squares_of := ok_squares (P := R.prog) (w := w) (base := base) M F_squares_of c_check_table c_places_of c_across
  have c_let_places := ok_let_places (P := R.prog) (w := w) (base := base) M F_let_places c_check_table c_places_of c_is_let_place c_named
  have c_is_lone_grid := ok_lone (P := R.prog) (w := w) (base := base) M F_is_lone_grid c_places_of c_is_let_place
  have c_is_lone_table := ok_lone_table (P := R.prog) (w := w) (base := base) M F_is_lone_table c_check_table c_is_lone_grid
  have c__law_world_of_table := ok_world_of (P := R.prog) (w := w) (base := base) M F__law_world_of_table m_Table_people m_Table_clubs m_Table_members
  have c__law_through := ok_through (P := R.prog) (w := w) (base := base) M F__law_through 
  have c__law_free_places := ok_free (P := R.prog) (w := w) (base := base) M F__law_free_places c__law_places c__law_through
  have c__law_shifted := ok_shift (P := R.prog) (w := w) (base := base) M F__law_shifted 
  have c_is_place_of := ok_place_of_any (P := R.prog) (w := w) (base := base) M F_is_place_of c_is_spelt
  have c_spot_of := ok_spot_of (P := R.prog) (w := w) (base := base) M F_spot_of c_check_table c_is_place_of
  have c_squares_through := ok_squares_through (P := R.prog) (w := w) (base := base) M F_squares_through c_spot_of c_across
  have c_moved_table := ok_moved_table (P := R.prog) (w := w) (base := base) M F_moved_table c_Table
  have c_moved := ok_moved (P := R.prog) (w := w) (base := base) M F_moved c_spot_of c_is_let_place c_moved_table
  have c_behind_places := ok_behind (P := R.prog) (w := w) (base := base) M F_behind_places c_is_place_of c_spot_of c_is_let_place c_moved_table
  have c_check_tables := ok_check_tables (P := R.prog) (w := w) (base := base) M F_check_tables c_check_table
  have c_table_behind := ok_table_behind (P := R.prog) (w := w) (base := base) M F_table_behind x_InvalidRoad c_check_table c_behind_places
  have c_is_club_road := ok_club_road (P := R.prog) (w := w) (base := base) M F_is_club_road c_check_tables c_behind_places m_Table___eq__
  have c_some_let_place := ok_some_let (P := R.prog) (w := w) (base := base) M F_some_let_place c_let_places
  have c__law_behind := ok_law_behind (P := R.prog) (w := w) (base := base) M F__law_behind c__law_free_places c__law_shifted
  have c__law_is_road := ok_law_road (P := R.prog) (w := w) (base := base) M F__law_is_road c__law_behind
  have c__law_pairs := ok_pairs (P := R.prog) (w := w) (base := base) M F__law_pairs 
  have c__law_twos := ok_twos (P := R.prog) (w := w) (base := base) M F__law_twos c__law_pairs
  have c__law_all_squares := ok_all_squares (P := R.prog) (w := w) (base := base) M F__law_all_squares c__law_twos
  have c__law_walked_table := ok_walkR (P := R.prog) (w := w) (base := base) M F__law_walked_table c__law_draw c__law_one_of c__law_free_places c__law_shifted
  have c__law_refused_right := ok_refused (P := R.prog) (w := w) (base := base) M F__law_refused_right x_InvalidRoad c_table_behind c__law_behind c__law_exact
  have c__law_long_right := ok_long (P := R.prog) (w := w) (base := base) M F__law_long_right c__law_free_places c__law_shifted c__law_table c_is_club_road c_table_behind c__law_exact m_Table___eq__
  have c__law_bent_roads := ok_bent (P := R.prog) (w := w) (base := base) M F__law_bent_roads c__law_places c__law_one_of c__law_shuffled
  have c__law_counts_right := ok_counts (P := R.prog) (w := w) (base := base) M F__law_counts_right c__law_table c__law_free_places c_squares_of c_let_places c__law_all_squares c_is_lone_table c_some_let_place c__law_places c_squares_through c__law_through c__law_world_of_table c_moved c__law_shifted c__law_exact c_Table
  have c__law_roads_right := ok_roads (P := R.prog) (w := w) (base := base) M F__law_roads_right c__law_walked_table c__law_table c__law_exact c__law_world_of_table c_table_behind c_is_club_road c_squares_of c__law_places c__law_free_places c__law_bent_roads c__law_shuffled c__law_refused_right c__law_draw c__law_long_right c__law_same c__law_is_road c__law_behind
  exact ok_law M F c__law_purses c__law_draw c__law_hall c__law_people c__law_shifted c__law_one_of c__law_places c__law_counts_right c__law_roads_right
end K77
open PySem PySem.W PySem.Calls PyProof.Rows
set_option maxHeartbeats 0 in
theorem PySem.Challenge.cw_evenfriends_k77_whole_squares_and_club_r_holds : PySem.Challenge.rw_evenfriends_k77_whole_squares_and_club_r.Holds := by
  w_on; o_law
  refine HandSHeadRun.head_any (r := OpenLaw.row PySem.Challenge.rw_evenfriends_k77_whole_squares_and_club_r) (q := view (OpenLaw.row PySem.Challenge.rw_evenfriends_k77_whole_squares_and_club_r).prog [67]) (H := K77.hk) (ob := K77.ob) (M := 6000) (loose := K77.loose) (d := HandSHeadRun.topDef (OpenLaw.row PySem.Challenge.rw_evenfriends_k77_whole_squares_and_club_r).prog 67) (kwd := []) K77.ob_eq
    (by kernel_rfl) (fun s => by kernel_rfl) K77.run (by kernel_rfl) (by kernel_rfl) (by kernel_rfl) (by rfl) (by first | assumption | decide +kernel) (by decide +kernel) ⟨rfl, rfl, rfl, rfl, rfl, by decide +kernel⟩ ?hw ?hc
  case hw => w_witness2
  case hc =>
    refine L2.walk_ofE (l := PySem.Challenge.rw_evenfriends_k77_whole_squares_and_club_r) (n := 63) (k := 11) (x := "_law_script") (CX := C8.CX0) rfl (by decide) (by kernel_rfl) ⟨rfl, by decide, by decide⟩ ?F (fun _ _ _ _ z => z)
    intro w mg fa h Y G hmg0
    obtain ⟨K, KX, c, ex, exx⟩ := Y
    have hmg : mg ("law" : PySem.Str) = some (.ref fa) := by
      have e : (HandSHeadRun.topDef (OpenLaw.row PySem.Challenge.rw_evenfriends_k77_whole_squares_and_club_r).prog 67).name = ("law" : PySem.Str) := by kernel_rfl
      rw [← e]
      exact hmg0
    obtain ⟨fd, hb, hF⟩ := K77.facts (w := w) KX G hmg c ex exx
    exact ⟨K, fd, K77.spLaw K, KX, hb, fun H a ns hl _ hS => ⟨a, ns, rfl, hS, hl, fun _ => rfl⟩, hF⟩
