import PyProof.Rows.All
import Wide.All
import OpenK.AllK
import Wide.FinOn
import HandS.ForMost
import HandS.Defaults
import HandS.IsInst
import HandS.TupAny
import HandS.Style
import HandS.Conv
import HandS.SetKeys
import HandS.Zip
import KE.KDictKeyed
import KE.KDictDisplayH
import HandS.TupLen
import KE.GoesEnumKw
import KE.KTurns
import KE.KItemsList
import HandS.SortKw
import HandS.SetBool
import HandS.TupSets
import HandS.SetFor
import HandS.DictComp
import HandS.Iter
import HandS.Text
import HandS.Strs
import HandS.ClsMeth
import HandS.OwnEq
import KE.GoesMore
import HandS.Star
import PySem.Challenge.RW_sharedlets_k50_whole_parts_of_alike_grap
import HandS.AnyAll
import HandS.GenList
import KE.KDictIter
import KE.KDictZip
import HandS.FStrTup
import PyProof.ReprHeadsTuple
import PyProof.StrHeap
import HandS.Deep
import HandS.HeadHook4
import HandS.HeadNt
import HandS.Head2
import HandS.EndTab
import KE.KStateDown
import KE.KNestM
set_option Elab.async false
set_option linter.all false
set_option maxRecDepth 100000
set_option maxRecDepth 100000
set_option maxHeartbeats 4000000
/-! DL1: data in place of addresses: what a value is seen as, the state as data. -/
namespace DL
open PySem PySem.Spec PyProof.Rows L2
/-- data: what a value stands for; ref a: an object by its address -/
inductive D where
  | non | bl (b : Bool) | int (i : Int) | str (x : Str)
  | tup (l : List D) | lst (l : List D) | dct (ks : List Int) (l : List D) | ins (C : Addr) (ns : List Str) (l : List D)
  | ref (a : Addr) | ty (n : String)
  /-- a dict that is known for good (read, walked, never written) -/
  | kdc (ks : List Int) (l : List D)
  /-- any other object: how it stands at an address, by the values in it; what they are -/
  | raw (mk : Addr → List V → HO) (l : List D)
/-- objects of the kind raw -/
def RawO : HO → Prop
  | .ext _ => True
  | .set _ _ => True
  | .tbl _ => True
  | .frz _ _ => True
  | _ => False
/-- a dict's pairs: int keys -/
def dkv (ks : List Int) (xs : List V) : List (Key × V) := (ks.map Sum.inl).zip xs
mutual
inductive Ob (K : PySem.W.Frag) (B : Hp) : V → D → Prop
  | non : Ob K B .non .non
  | bl (b : Bool) : Ob K B (.bl b) (.bl b)
  | int (i : Int) : Ob K B (.int i) (.int i)
  | str (x : Str) : Ob K B (.str x) (.str x)
  | ref (a : Addr) : Ob K B (.ref a) (.ref a)
  | ty (n : String) : Ob K B (.ty n) (.ty n)
  | tup {a : Addr} {xs : List V} {ds : List D} : SqT K B a xs → ObL K B xs ds → Ob K B (.ref a) (.tup ds)
  | lst {a : Addr} {xs : List V} {ds : List D} : SqL K B a xs → ObL K B xs ds → Ob K B (.ref a) (.lst ds)
  | dct {a : Addr} {ks : List Int} {xs : List V} {ds : List D} : Rd B a (.dK (dkv ks xs)) → ks.length = xs.length → ObL K B xs ds → Ob K B (.ref a) (.dct ks ds)
  | ins {a C dx : Addr} {ns : List Str} {xs : List V} {ds : List D} : B a = some (.ins C dx (ns.zip xs)) → ns.length = xs.length → ObL K B xs ds → Ob K B (.ref a) (.ins C ns ds)
  | kdc {a : Addr} {o : Obj} {ks : List Int} {xs : List V} {ds : List D} : B a = some (.frz o (.dK (dkv ks xs))) → ks.length = xs.length → ObL K B xs ds → Ob K B (.ref a) (.kdc ks ds)
  | raw {a : Addr} {mk : Addr → List V → HO} {xs : List V} {ds : List D} : B a = some (mk a xs) → RawO (mk a xs) → ObL K B xs ds → Ob K B (.ref a) (.raw mk ds)
inductive ObL (K : PySem.W.Frag) (B : Hp) : List V → List D → Prop
  | nil : ObL K B [] []
  | cons {v : V} {vs : List V} {d : D} {ds : List D} : Ob K B v d → ObL K B vs ds → ObL K B (v :: vs) (d :: ds)
end
/-- what is read in B is read in B' -/
structure Le (B B' : Hp) : Prop where
  rd : ∀ a u, Rd B a u → Rd B' a u
  ins : ∀ a C dx fs, B a = some (.ins C dx fs) → B' a = some (.ins C dx fs)
  raw : ∀ a o, RawO o → B a = some o → B' a = some o
  frz : ∀ a o u, B a = some (.frz o u) → B' a = some (.frz o u)
theorem Le.refl (B : Hp) : Le B B := ⟨fun _ _ h => h, fun _ _ _ _ h => h, fun _ _ _ h => h, fun _ _ _ h => h⟩
theorem Le.trans {A B C : Hp} (h : Le A B) (k : Le B C) : Le A C := ⟨fun a u r => k.rd a u (h.rd a u r), fun a C dx fs r => k.ins _ _ _ _ (h.ins _ _ _ _ r), fun a o z r => k.raw _ _ z (h.raw _ _ z r), fun a o u r => k.frz _ _ _ (h.frz _ _ _ r)⟩
theorem Le.of {B B' : Hp} (h : ∀ a o, B a = some o → B' a = some o) : Le B B' :=
  ⟨fun a u r => by
    rcases r with r | ⟨o, r⟩
    · exact .inl (h _ _ r)
    · exact .inr ⟨o, h _ _ r⟩, fun a C dx fs r => h _ _ r, fun a o _ r => h _ _ r, fun a o u r => h _ _ r⟩
theorem Le.sqT {K : PySem.W.Frag} {B B' : Hp} {a : Addr} {xs : List V} (h : Le B B') (s : SqT K B a xs) : SqT K B' a xs := by
  rcases s with s | s
  · exact .inl (h.rd _ _ s)
  · exact .inr s
theorem Le.sqL {K : PySem.W.Frag} {B B' : Hp} {a : Addr} {xs : List V} (h : Le B B') (s : SqL K B a xs) : SqL K B' a xs := by
  rcases s with s | s
  · exact .inl (h.rd _ _ s)
  · exact .inr s
mutual
theorem Ob.mono {K : PySem.W.Frag} {B B' : Hp} (h : Le B B') : ∀ (d : D) (v : V), Ob K B v d → Ob K B' v d
  | .non, _, o => by cases o; exact .non
  | .bl b, _, o => by cases o; exact .bl b
  | .int i, _, o => by cases o; exact .int i
  | .str x, _, o => by cases o; exact .str x
  | .ref a, _, o => by cases o; exact .ref a
  | .ty n, _, o => by cases o; exact .ty n
  | .tup l, _, o => by
    cases o with
    | tup s r => exact .tup (h.sqT s) (ObL.mono h l _ r)
  | .lst l, _, o => by
    cases o with
    | lst s r => exact .lst (h.sqL s) (ObL.mono h l _ r)
  | .dct ks l, _, o => by
    cases o with
    | dct s e r => exact .dct (h.rd _ _ s) e (ObL.mono h l _ r)
  | .ins C ns l, _, o => by
    cases o with
    | ins s e r => exact .ins (h.ins _ _ _ _ s) e (ObL.mono h l _ r)
  | .kdc ks l, _, o => by
    cases o with
    | kdc s e r => exact .kdc (h.frz _ _ _ s) e (ObL.mono h l _ r)
  | .raw mk l, _, o => by
    cases o with
    | raw s e r => exact .raw (h.raw _ _ e s) e (ObL.mono h l _ r)
theorem ObL.mono {K : PySem.W.Frag} {B B' : Hp} (h : Le B B') : ∀ (ds : List D) (vs : List V), ObL K B vs ds → ObL K B' vs ds
  | [], _, o => by cases o; exact .nil
  | d :: ds, _, o => by
    cases o with
    | cons r s => exact .cons (Ob.mono h d _ r) (ObL.mono h ds _ s)
end
theorem ObL.length {K : PySem.W.Frag} {B : Hp} : ∀ {vs : List V} {ds : List D}, ObL K B vs ds → vs.length = ds.length
  | _, _, .nil => rfl
  | _, _, .cons _ r => congrArg Nat.succ (ObL.length r)
theorem ObL.get {K : PySem.W.Frag} {B : Hp} : ∀ {vs : List V} {ds : List D} {i : Nat} {d : D}, ObL K B vs ds → ds[i]? = some d → ∃ v, vs[i]? = some v ∧ Ob K B v d
  | _, _, _, _, .nil, e => by simp at e
  | _, _, 0, _, .cons r _, e => by simp at e; subst e; exact ⟨_, rfl, r⟩
  | _, _, i + 1, d, .cons _ t, e => by
    obtain ⟨u, h1, h2⟩ := ObL.get (i := i) (d := d) t (by simpa using e)
    exact ⟨u, by simpa using h1, h2⟩
theorem ObL.get' {K : PySem.W.Frag} {B : Hp} : ∀ {vs : List V} {ds : List D} {i : Nat} {v : V}, ObL K B vs ds → vs[i]? = some v → ∃ d, ds[i]? = some d ∧ Ob K B v d
  | _, _, _, _, .nil, e => by simp at e
  | _, _, 0, _, .cons r _, e => by simp at e; subst e; exact ⟨_, rfl, r⟩
  | _, _, i + 1, v, .cons _ t, e => by
    obtain ⟨u, h1, h2⟩ := ObL.get' (i := i) (v := v) t (by simpa using e)
    exact ⟨u, by simpa using h1, h2⟩
theorem ObL.append {K : PySem.W.Frag} {B : Hp} : ∀ {vs ws : List V} {ds es : List D}, ObL K B vs ds → ObL K B ws es → ObL K B (vs ++ ws) (ds ++ es)
  | _, _, _, _, .nil, s => s
  | _, _, _, _, .cons r t, s => .cons r (ObL.append t s)
theorem ObL.set {K : PySem.W.Frag} {B : Hp} {v : V} {d : D} (r : Ob K B v d) : ∀ {vs : List V} {ds : List D} (i : Nat), ObL K B vs ds → ObL K B (vs.set i v) (ds.set i d)
  | _, _, _, .nil => .nil
  | _, _, 0, .cons _ t => .cons r t
  | _, _, i + 1, .cons q t => .cons q (ObL.set r i t)
theorem ObL.take {K : PySem.W.Frag} {B : Hp} : ∀ {vs : List V} {ds : List D} (n : Nat), ObL K B vs ds → ObL K B (vs.take n) (ds.take n)
  | _, _, 0, _ => .nil
  | _, _, _ + 1, .nil => .nil
  | _, _, n + 1, .cons r t => .cons r (ObL.take n t)
theorem ObL.drop {K : PySem.W.Frag} {B : Hp} : ∀ {vs : List V} {ds : List D} (n : Nat), ObL K B vs ds → ObL K B (vs.drop n) (ds.drop n)
  | _, _, 0, r => r
  | _, _, _ + 1, .nil => .nil
  | _, _, n + 1, .cons _ t => ObL.drop n t
theorem ObL.reverse {K : PySem.W.Frag} {B : Hp} : ∀ {vs : List V} {ds : List D}, ObL K B vs ds → ObL K B vs.reverse ds.reverse
  | _, _, .nil => .nil
  | _, _, .cons r t => by rw [List.reverse_cons, List.reverse_cons]; exact (ObL.reverse t).append (.cons r .nil)
theorem ObL.dropLast {K : PySem.W.Frag} {B : Hp} {vs : List V} {ds : List D} (h : ObL K B vs ds) : ObL K B vs.dropLast ds.dropLast := by
  rw [List.dropLast_eq_take, List.dropLast_eq_take, h.length]
  exact h.take _
theorem ObL.last {K : PySem.W.Frag} {B : Hp} {vs : List V} {ds : List D} {d : D} (h : ObL K B vs (ds ++ [d])) : ∃ v, vs[vs.length - 1]? = some v ∧ Ob K B v d := by
  have e := h.length
  rw [List.length_append] at e
  have : vs.length - 1 = ds.length := by simp at e; omega
  rw [this]
  exact h.get (by simp)
/-- ints -/
def dints (l : List Int) : List D := l.map D.int
def dnats (l : List Nat) : List D := l.map fun (n : Nat) => D.int (n : Int)
theorem ObL.toInts {K : PySem.W.Frag} {B : Hp} : ∀ {l : List Int} {vs : List V}, ObL K B vs (dints l) → vs = l.map V.int
  | [], _, h => by cases h; rfl
  | i :: l, _, h => by
    cases h with
    | cons r t => cases r; rw [ObL.toInts t]; rfl
theorem obL_ints {K : PySem.W.Frag} {B : Hp} : ∀ (l : List Int), ObL K B (l.map V.int) (DL.dints l)
  | [] => .nil
  | i :: l => .cons (.int i) (obL_ints l)
theorem dnats_dints (l : List Nat) : dnats l = dints (l.map fun (n : Nat) => (n : Int)) := by simp [dnats, dints]
/-! ### the state -/
/-- the heap without some addresses -/
def vis (H : Hp) (F : List Addr) : Hp := fun b => if b ∈ F then none else H b
theorem vis_some {H : Hp} {F : List Addr} {a : Addr} {o : HO} : vis H F a = some o ↔ a ∉ F ∧ H a = some o := by
  unfold vis
  by_cases h : a ∈ F
  · simp [h]
  · simp [h]
theorem vis_of {H : Hp} {F : List Addr} {a : Addr} {o : HO} (h : a ∉ F) (e : H a = some o) : vis H F a = some o := vis_some.mpr ⟨h, e⟩
theorem vis_le {H : Hp} {F : List Addr} : Le (vis H F) H := .of fun _ _ h => (vis_some.mp h).2
theorem vis_nil {H : Hp} : vis H [] = H := by funext b; simp [vis]
theorem vis_congr {H : Hp} {F G : List Addr} (h : ∀ a, a ∈ F ↔ a ∈ G) : vis H F = vis H G := by
  funext b
  unfold vis
  by_cases hb : b ∈ F
  · rw [if_pos hb, if_pos ((h b).mp hb)]
  · rw [if_neg hb, if_neg fun q => hb ((h b).mpr q)]
abbrev Cells := List (Addr × D)
abbrev adr (L : Cells) : List Addr := L.map (·.1)
/-- an object of one's own at a -/
def CellAt (K : PySem.W.Frag) (B H : Hp) (a : Addr) : D → Prop
  | .lst ds => ∃ xs, H a = some (.lst xs) ∧ ObL K B xs ds
  | .dct ks ds => ∃ xs, H a = some (.dK (dkv ks xs)) ∧ ks.length = xs.length ∧ ObL K B xs ds
  | .ins C ns ds => ∃ dx xs, H a = some (.ins C dx (ns.zip xs)) ∧ ns.length = xs.length ∧ ObL K B xs ds
  | .raw mk ds => ∃ xs, H a = some (mk a xs) ∧ RawO (mk a xs) ∧ ObL K B xs ds
  | _ => False
theorem CellAt.mono {K : PySem.W.Frag} {B B' H H' : Hp} {a : Addr} (h : Le B B') (e : H' a = H a) : ∀ {d : D}, CellAt K B H a d → CellAt K B' H' a d
  | .lst ds, ⟨xs, h1, r⟩ => ⟨xs, e.trans h1, r.mono h⟩
  | .dct ks ds, ⟨xs, h1, h2, r⟩ => ⟨xs, e.trans h1, h2, r.mono h⟩
  | .ins C ns ds, ⟨dx, xs, h1, h2, r⟩ => ⟨dx, xs, e.trans h1, h2, r.mono h⟩
  | .raw mk ds, ⟨xs, h1, h2, r⟩ => ⟨xs, e.trans h1, h2, r.mono h⟩
  | .non, c => c.elim
  | .bl _, c => c.elim
  | .int _, c => c.elim
  | .str _, c => c.elim
  | .tup _, c => c.elim
  | .ref _, c => c.elim
  | .ty _, c => c.elim
  | .kdc _ _, c => c.elim
theorem CellAt.there {K : PySem.W.Frag} {B H : Hp} {a : Addr} : ∀ {d : D}, CellAt K B H a d → ∃ o, H a = some o ∧ True
  | .lst ds, ⟨xs, h1, r⟩ => ⟨_, h1, trivial⟩
  | .dct ks ds, ⟨xs, h1, h2, r⟩ => ⟨_, h1, trivial⟩
  | .ins C ns ds, ⟨dx, xs, h1, h2, r⟩ => ⟨_, h1, trivial⟩
  | .raw mk ds, ⟨xs, h1, h2, r⟩ => ⟨_, h1, trivial⟩
  | .non, c => c.elim
  | .bl _, c => c.elim
  | .int _, c => c.elim
  | .str _, c => c.elim
  | .tup _, c => c.elim
  | .ref _, c => c.elim
  | .ty _, c => c.elim
  | .kdc _ _, c => c.elim
/-- the state: B0 is kept, F others' own objects, σ the frame's slots seen as Γ, ts what is held amid an expression seen as τ, L the own objects -/
structure Sat (K : PySem.W.Frag) (B0 : Hp) (F : List Addr) (H : Hp) (σ : L2.St) (Γ : List (Option D)) (ts : List V) (τ : List D) (L : Cells) : Prop where
  base : ∀ a o, B0 a = some o → H a = some o ∧ a ∉ adr L
  fo : ∀ a ∈ F, ∃ o, B0 a = some o
  nd : (adr L).Nodup
  cells : ∀ p ∈ L, CellAt K (vis H (F ++ adr L)) H p.1 p.2
  len : σ.length = Γ.length
  slots : ∀ (i : Nat) (d : D), Γ[i]? = some (some d) → ∃ v, σ[i]? = some (some v) ∧ Ob K (vis H (F ++ adr L)) v d
  temps : ObL K (vis H (F ++ adr L)) ts τ
section
variable {K : PySem.W.Frag} {B0 : Hp} {F : List Addr} {H H' : Hp} {σ : L2.St} {Γ : List (Option D)} {ts : List V} {τ : List D} {L : Cells} {v : V} {d : D}
/-- what is kept -/
abbrev Sat.B (S : Sat K B0 F H σ Γ ts τ L) : Hp := vis H (F ++ adr L)
theorem Sat.push (S : Sat K B0 F H σ Γ ts τ L) (o : Ob K (vis H (F ++ adr L)) v d) : Sat K B0 F H σ Γ (v :: ts) (d :: τ) L :=
  ⟨S.base, S.fo, S.nd, S.cells, S.len, S.slots, .cons o S.temps⟩
theorem Sat.top (S : Sat K B0 F H σ Γ (v :: ts) (d :: τ) L) : Ob K (vis H (F ++ adr L)) v d := by
  cases S.temps with
  | cons r _ => exact r
theorem Sat.pop (S : Sat K B0 F H σ Γ (v :: ts) (d :: τ) L) : Sat K B0 F H σ Γ ts τ L := by
  cases S.temps with
  | cons _ t => exact ⟨S.base, S.fo, S.nd, S.cells, S.len, S.slots, t⟩
theorem Sat.setSlot (S : Sat K B0 F H σ Γ (v :: ts) (d :: τ) L) (i : Nat) : Sat K B0 F H (σ.set i (some v)) (Γ.set i (some d)) ts τ L := by
  refine ⟨S.base, S.fo, S.nd, S.cells, by simp [S.len], fun j e he => ?_, S.pop.temps⟩
  by_cases hj : j = i
  · subst hj
    have hl : j < Γ.length := by
      have := (List.getElem?_eq_some_iff.mp he).1
      simpa using this
    rw [List.getElem?_set_self hl] at he
    cases he
    exact ⟨v, List.getElem?_set_self (by rw [S.len]; exact hl), S.top⟩
  · rw [List.getElem?_set_ne (Ne.symm hj)] at he
    rw [List.getElem?_set_ne (Ne.symm hj)]
    exact S.slots j e he
theorem Sat.there (S : Sat K B0 F H σ Γ ts τ L) {a : Addr} (h : a ∈ adr L) : ∃ o, H a = some o ∧ True := by
  obtain ⟨p, hp, rfl⟩ := List.mem_map.mp h
  exact (S.cells p hp).there
theorem Sat.fresh (S : Sat K B0 F H σ Γ ts τ L) {p : Addr} (h : H p = none) : p ∉ F ∧ p ∉ adr L ∧ B0 p = none := by
  have h0 : B0 p = none := by
    cases e : B0 p with
    | none => rfl
    | some o => rw [(S.base p o e).1] at h; cases h
  refine ⟨fun q => ?_, fun q => ?_, h0⟩
  · obtain ⟨o, e⟩ := S.fo p q
    rw [h0] at e; cases e
  · obtain ⟨o, e, _⟩ := S.there q
    rw [h] at e; cases e
/-- a new object that is not one's own: a tuple .. -/
theorem Sat.newB (S : Sat K B0 F H σ Γ ts τ L) {p : Addr} {o : HO} (h : H p = none) : Sat K B0 F (upd H p o) σ Γ ts τ L ∧ Le (vis H (F ++ adr L)) (vis (upd H p o) (F ++ adr L)) ∧ vis (upd H p o) (F ++ adr L) p = some o := by
  obtain ⟨hF, hL, h0⟩ := S.fresh h
  have le : Le (vis H (F ++ adr L)) (vis (upd H p o) (F ++ adr L)) := .of fun a u e => by
    obtain ⟨e1, e2⟩ := vis_some.mp e
    exact vis_of e1 (by rw [upd_ne (ne_of_none e2 h)]; exact e2)
  refine ⟨⟨fun a u e => ?_, S.fo, S.nd, fun q hq => ?_, S.len, fun i d e => ?_, S.temps.mono le⟩, le, vis_of ?_ upd_same⟩
  · obtain ⟨e1, e2⟩ := S.base a u e
    exact ⟨by rw [upd_ne (ne_of_none e1 h)]; exact e1, e2⟩
  · have hne : q.1 ≠ p := fun e => hL (by rw [← e]; exact List.mem_map_of_mem hq)
    exact (S.cells q hq).mono le (upd_ne hne)
  · obtain ⟨v, e1, e2⟩ := S.slots i d e
    exact ⟨v, e1, e2.mono le⟩
  · rw [List.mem_append]
    rintro (q | q)
    · exact hF q
    · exact hL q
/-- .. and one of one's own -/
theorem Sat.newC (S : Sat K B0 F H σ Γ ts τ L) {p : Addr} {o : HO} {d : D} (h : H p = none) (c : ∀ B, Le (vis H (F ++ adr L)) B → CellAt K B (upd H p o) p d) : Sat K B0 F (upd H p o) σ Γ ts τ (L ++ [(p, d)]) := by
  obtain ⟨hF, hL, h0⟩ := S.fresh h
  have le : Le (vis H (F ++ adr L)) (vis (upd H p o) (F ++ adr (L ++ [(p, d)]))) := .of fun a u e => by
    obtain ⟨e1, e2⟩ := vis_some.mp e
    have hne := ne_of_none e2 h
    refine vis_of ?_ (by rw [upd_ne hne]; exact e2)
    simp only [adr, List.map_append, List.map_cons, List.map_nil, ← List.append_assoc]
    rw [List.mem_append]
    rintro (q | q)
    · exact e1 q
    · simp at q; exact hne q
  refine ⟨fun a u e => ?_, S.fo, ?_, fun q hq => ?_, S.len, fun i d e => ?_, S.temps.mono le⟩
  · obtain ⟨e1, e2⟩ := S.base a u e
    have hne := ne_of_none e1 h
    refine ⟨by rw [upd_ne hne]; exact e1, ?_⟩
    simp only [adr, List.map_append, List.mem_append, List.map_cons, List.map_nil, List.mem_singleton]
    rintro (q | q)
    · exact e2 q
    · exact hne q
  · simp only [adr, List.map_append, List.map_cons, List.map_nil]
    rw [List.nodup_append]
    refine ⟨S.nd, by simp, fun a ha b hb e => ?_⟩
    simp at hb
    subst hb
    subst e
    exact hL ha
  · rcases List.mem_append.mp hq with q1 | q1
    · have hne : q.1 ≠ p := fun e => hL (by rw [← e]; exact List.mem_map_of_mem q1)
      exact (S.cells q q1).mono le (upd_ne hne)
    · simp at q1
      subst q1
      exact c _ le
  · obtain ⟨v, e1, e2⟩ := S.slots i d e
    exact ⟨v, e1, e2.mono le⟩
theorem adr_set {L : Cells} {k : Nat} {a : Addr} {d d' : D} (h : L[k]? = some (a, d)) : adr (L.set k (a, d')) = adr L := by
  unfold adr
  rw [List.map_set]
  refine List.ext_getElem? fun i => ?_
  by_cases hi : k = i
  · subst hi
    rw [List.getElem?_set_self (by simpa using (List.getElem?_eq_some_iff.mp h).1), List.getElem?_map, h]
    rfl
  · rw [List.getElem?_set_ne hi]
theorem nodup_adr {L : Cells} (nd : (adr L).Nodup) {i j : Nat} {a : Addr} {d d' : D} (h : L[i]? = some (a, d)) (h' : L[j]? = some (a, d')) : i = j := by
  have e1 : (adr L)[i]? = some a := by unfold adr; rw [List.getElem?_map, h]; rfl
  have e2 : (adr L)[j]? = some a := by unfold adr; rw [List.getElem?_map, h']; rfl
  obtain ⟨h1, e1⟩ := List.getElem?_eq_some_iff.mp e1
  obtain ⟨h2, e2⟩ := List.getElem?_eq_some_iff.mp e2
  exact (List.getElem_inj nd).mp (e1.trans e2.symm)
/-- an own object changes -/
theorem Sat.write (S : Sat K B0 F H σ Γ ts τ L) {k : Nat} {a : Addr} {o : HO} {d d' : D} (h : L[k]? = some (a, d)) (c : CellAt K (vis H (F ++ adr L)) (upd H a o) a d') : Sat K B0 F (upd H a o) σ Γ ts τ (L.set k (a, d')) := by
  have ha : a ∈ adr L := List.mem_map.mpr ⟨(a, d), List.mem_of_getElem? h, rfl⟩
  have le : vis (upd H a o) (F ++ adr L) = vis H (F ++ adr L) := by
    funext b
    unfold vis
    by_cases hb : b ∈ F ++ adr L
    · rw [if_pos hb, if_pos hb]
    · rw [if_neg hb, if_neg hb]
      exact upd_ne fun e => hb (by rw [e]; exact List.mem_append_right _ ha)
  have ea := adr_set (d' := d') h
  refine ⟨fun b u e => ?_, S.fo, by rw [ea]; exact S.nd, fun q hq => ?_, S.len, fun i d e => ?_, ?_⟩
  · obtain ⟨e1, e2⟩ := S.base b u e
    rw [ea]
    exact ⟨by rw [upd_ne fun z => e2 (by rw [z]; exact ha)]; exact e1, e2⟩
  · rw [ea, le]
    obtain ⟨i, hi, e⟩ := List.getElem_of_mem hq
    have e' : (L.set k (a, d'))[i]? = some q := by rw [List.getElem?_eq_getElem hi, e]
    by_cases hk : k = i
    · subst hk
      rw [List.getElem?_set_self (by simpa using hi)] at e'
      cases e'
      exact c
    · rw [List.getElem?_set_ne hk] at e'
      have hne : q.1 ≠ a := fun z => hk (nodup_adr S.nd (d' := q.2) h (by rw [e', ← z]))
      exact (S.cells q (List.mem_of_getElem? e')).mono (Le.refl _) (upd_ne hne)
  · rw [ea, le]
    exact S.slots i d e
  · rw [ea, le]
    exact S.temps
theorem Sat.cell (S : Sat K B0 F H σ Γ ts τ L) {k : Nat} {a : Addr} {d : D} (h : L[k]? = some (a, d)) : CellAt K (vis H (F ++ adr L)) H a d := S.cells _ (List.mem_of_getElem? h)
/-- an own object is given up: from now on it is read -/
theorem ob_cell {B B' : Hp} {a : Addr} {d : D} (c : CellAt K B H a d) (le : Le B B') (e : ∀ o, H a = some o → B' a = some o) : Ob K B' (.ref a) d := by
  cases d with
  | lst ds => obtain ⟨xs, h1, r⟩ := c; exact .lst (SqL.of (e _ h1)) (r.mono le)
  | dct ks ds => obtain ⟨xs, h1, h2, r⟩ := c; exact .dct (.inl (e _ h1)) h2 (r.mono le)
  | ins C ns ds => obtain ⟨dx, xs, h1, h2, r⟩ := c; exact .ins (e _ h1) h2 (r.mono le)
  | raw mk ds => obtain ⟨xs, h1, h2, r⟩ := c; exact .raw (e _ h1) h2 (r.mono le)
  | _ => exact c.elim
theorem mem_erase {L : Cells} {k : Nat} {a : Addr} {d : D} (nd : (adr L).Nodup) (h : L[k]? = some (a, d)) (b : Addr) : b ∈ adr (L.eraseIdx k) ↔ b ∈ adr L ∧ b ≠ a := by
  constructor
  · intro hb
    obtain ⟨p, hp, rfl⟩ := List.mem_map.mp hb
    obtain ⟨i, hi, e⟩ := List.getElem_of_mem hp
    have e' : (L.eraseIdx k)[i]? = some p := by rw [List.getElem?_eq_getElem hi, e]
    rw [List.getElem?_eraseIdx] at e'
    split at e'
    · rename_i hik
      refine ⟨List.mem_map_of_mem (List.mem_of_getElem? e'), fun z => ?_⟩
      have := nodup_adr nd (d' := p.2) h (by rw [e', ← z])
      omega
    · rename_i hik
      refine ⟨List.mem_map_of_mem (List.mem_of_getElem? e'), fun z => ?_⟩
      have := nodup_adr nd (d' := p.2) h (by rw [e', ← z])
      omega
  · rintro ⟨hb, hne⟩
    obtain ⟨p, hp, rfl⟩ := List.mem_map.mp hb
    obtain ⟨i, hi, e⟩ := List.getElem_of_mem hp
    have e' : L[i]? = some p := by rw [List.getElem?_eq_getElem hi, e]
    have hik : i ≠ k := fun z => by
      subst z
      rw [h] at e'
      cases e'
      exact hne rfl
    refine List.mem_map_of_mem (List.mem_of_getElem? (i := if i < k then i else i - 1) ?_)
    rw [List.getElem?_eraseIdx]
    by_cases hlt : i < k
    · rw [if_pos hlt, if_pos hlt]; exact e'
    · rw [if_neg hlt, if_neg (by omega), Nat.sub_add_cancel (by omega)]; exact e'
theorem Sat.freeze (S : Sat K B0 F H σ Γ ts τ L) {k : Nat} {a : Addr} {d : D} (h : L[k]? = some (a, d)) : Sat K B0 F H σ Γ ts τ (L.eraseIdx k) ∧ Le (vis H (F ++ adr L)) (vis H (F ++ adr (L.eraseIdx k))) ∧ Ob K (vis H (F ++ adr (L.eraseIdx k))) (.ref a) d := by
  have mm := mem_erase S.nd h
  have le : Le (vis H (F ++ adr L)) (vis H (F ++ adr (L.eraseIdx k))) := .of fun b o e => by
    obtain ⟨e1, e2⟩ := vis_some.mp e
    refine vis_of (fun q => e1 ?_) e2
    rcases List.mem_append.mp q with q | q
    · exact List.mem_append_left _ q
    · exact List.mem_append_right _ ((mm b).mp q).1
  have ha : a ∈ adr L := List.mem_map.mpr ⟨(a, d), List.mem_of_getElem? h, rfl⟩
  refine ⟨⟨fun b o e => ?_, S.fo, ?_, fun q hq => ?_, S.len, fun i d e => ?_, S.temps.mono le⟩, le, ob_cell (S.cell h) le fun o e => vis_of (fun q => ?_) e⟩
  · obtain ⟨e1, e2⟩ := S.base b o e
    exact ⟨e1, fun q => e2 ((mm b).mp q).1⟩
  · exact S.nd.sublist ((List.eraseIdx_sublist L k).map _)
  · exact (S.cells q (List.mem_of_mem_eraseIdx hq)).mono le rfl
  · obtain ⟨v, e1, e2⟩ := S.slots i d e
    exact ⟨v, e1, e2.mono le⟩
  · rcases List.mem_append.mp q with q | q
    · obtain ⟨o', e'⟩ := S.fo a q
      exact (S.base a o' e').2 ha
    · exact ((mm a).mp q).2 rfl
/-- the top temporary, the slot i given up -/
theorem Sat.freezeTop {a : Addr} (S : Sat K B0 F H σ Γ (v :: ts) (.ref a :: τ) L) {k : Nat} (h : L[k]? = some (a, d)) : Sat K B0 F H σ Γ (v :: ts) (d :: τ) (L.eraseIdx k) := by
  have hv : v = .ref a := by cases S.top; rfl
  obtain ⟨S1, _, o⟩ := S.pop.freeze h
  subst hv
  exact S1.push o
theorem Sat.freezeSlot (S : Sat K B0 F H σ Γ ts τ L) {k i : Nat} {a : Addr} (h : L[k]? = some (a, d)) (hi : Γ[i]? = some (some (.ref a))) : Sat K B0 F H σ (Γ.set i (some d)) ts τ (L.eraseIdx k) := by
  obtain ⟨v, e1, e2⟩ := S.slots i _ hi
  have hv : v = .ref a := by cases e2; rfl
  subst hv
  obtain ⟨S1, _, o⟩ := S.freeze h
  refine ⟨S1.base, S1.fo, S1.nd, S1.cells, by simp [S1.len], fun j e he => ?_, S1.temps⟩
  by_cases hj : j = i
  · subst hj
    rw [List.getElem?_set_self (List.getElem?_eq_some_iff.mp hi).1] at he
    cases he
    exact ⟨_, e1, o⟩
  · rw [List.getElem?_set_ne (Ne.symm hj)] at he
    exact S1.slots j e he
/-- forgetting a slot, all temporaries -/
theorem Sat.weak {Γ' : List (Option D)} (S : Sat K B0 F H σ Γ ts τ L) (hl : Γ'.length = Γ.length) (w : ∀ (i : Nat) d, Γ'[i]? = some (some d) → Γ[i]? = some (some d)) : Sat K B0 F H σ Γ' ts τ L :=
  ⟨S.base, S.fo, S.nd, S.cells, S.len.trans hl.symm, fun i d e => S.slots i d (w i d e), S.temps⟩
/-- other base, if what it says stands and is not one's own -/
theorem Sat.rebase {B1 : Hp} (S : Sat K B0 F H σ Γ ts τ L) (h : ∀ a o, B1 a = some o → H a = some o ∧ a ∉ adr L) (hf : ∀ a ∈ F, ∃ o, B1 a = some o) : Sat K B1 F H σ Γ ts τ L := ⟨h, hf, S.nd, S.cells, S.len, S.slots, S.temps⟩
end
end DL
set_option maxRecDepth 100000
set_option maxHeartbeats 4000000
/-! DL2: the judgements over data: expressions, tests, arguments, statements. -/
namespace DL
open PySem PySem.Spec PyProof.Rows L2
section
variable {X : Cx}
/-- the weakest readings -/
def WE (X : Cx) (e : Expr) : TE := fun σ H Q => ∀ (pins : List (Addr × Obj)) (s : Shared), Inv X pins σ H s → wpAny (model X.prog X.w) X.A (eval e X.env) (EP X pins σ Q) X.xe s
def WT (X : Cx) (e : Expr) : TT := fun σ H Q => ∀ (pins : List (Addr × Obj)) (s : Shared), Inv X pins σ H s → wpAny (model X.prog X.w) X.A (isTrue e X.env (eval e X.env)) (TP X pins σ Q) X.xe s
def WA (X : Cx) (es : List Expr) : TA := fun σ H Q => ∀ (pos : Pos) (pins : List (Addr × Obj)) (s : Shared), Inv X pins σ H s → wpAny (model X.prog X.w) X.A (spliced (backTo pos (starEach es X.env))) (AP X pins σ Q) X.xe s
def WS (X : Cx) (st : Stmt) : TS := fun D σ H => ∀ (pins : List (Addr × Obj)) (s : Shared), Inv X pins σ H s → wpAny (model X.prog X.w) X.A (exec st X.env) (SP X pins D) X.xe s
def WSs (X : Cx) (sts : List Stmt) : TS := fun D σ H => ∀ (pins : List (Addr × Obj)) (s : Shared), Inv X pins σ H s → wpAny (model X.prog X.w) X.A (execs sts X.env) (SP X pins D) X.xe s
theorem pe_w {e : Expr} : PE X e (WE X e) := ⟨fun pins s σ H Q I h => h pins s I⟩
theorem pt_w {e : Expr} : PT X e (WT X e) := ⟨fun pins s σ H Q I h => h pins s I⟩
theorem pa_w {es : List Expr} : PA X es (WA X es) := ⟨fun pos pins s σ H Q I h => h pos pins s I⟩
theorem ps_w {st : Stmt} : PS X st (WS X st) := ⟨fun pins s σ H D I h => h pins s I⟩
theorem pss_w {sts : List Stmt} : PSs X sts (WSs X sts) := ⟨fun pins s σ H D I h => h pins s I⟩
theorem we_of {e : Expr} {t : TE} {σ : L2.St} {H : Hp} {Q : VK} (p : PE X e t) (h : t σ H Q) : WE X e σ H Q := fun pins s I => p.run pins s σ H Q I h
theorem wt_of {e : Expr} {t : TT} {σ : L2.St} {H : Hp} {Q : Bool → Hp → Prop} (p : PT X e t) (h : t σ H Q) : WT X e σ H Q := fun pins s I => p.run pins s σ H Q I h
theorem wa_of {es : List Expr} {t : TA} {σ : L2.St} {H : Hp} {Q : List V → Hp → Prop} (p : PA X es t) (h : t σ H Q) : WA X es σ H Q := fun pos pins s I => p.run pos pins s σ H Q I h
theorem ws_of {st : Stmt} {t : TS} {σ : L2.St} {H : Hp} {D : Ends} (p : PS X st t) (h : t D σ H) : WS X st D σ H := fun pins s I => p.run pins s σ H D I h
theorem wss_of {sts : List Stmt} {t : TS} {σ : L2.St} {H : Hp} {D : Ends} (p : PSs X sts t) (h : t D σ H) : WSs X sts D σ H := fun pins s I => p.run pins s σ H D I h
end
abbrev Gam := List (Option D)
abbrev RD := D → Cells → Prop
/-- e, in the state Γ, L, comes to a value that is seen as R wants it -/
structure EvX (X : Cx) (e : Expr) (Γ : Gam) (L : Cells) (R : RD) : Prop where
  run : ∀ {B0 : Hp} {F : List Addr} {H : Hp} {σ : L2.St} {ts : List V} {τ : List D} {Q : VK}, Sat X.K B0 F H σ Γ ts τ L →
    (∀ v d H' L', R d L' → Sat X.K B0 F H' σ Γ (v :: ts) (d :: τ) L' → Q v H') → WE X e σ H Q
structure TeX (X : Cx) (e : Expr) (Γ : Gam) (L : Cells) (R : Bool → Cells → Prop) : Prop where
  run : ∀ {B0 : Hp} {F : List Addr} {H : Hp} {σ : L2.St} {ts : List V} {τ : List D} {Q : Bool → Hp → Prop}, Sat X.K B0 F H σ Γ ts τ L →
    (∀ b H' L', R b L' → Sat X.K B0 F H' σ Γ ts τ L' → Q b H') → WT X e σ H Q
structure AgX (X : Cx) (es : List Expr) (Γ : Gam) (L : Cells) (R : List D → Cells → Prop) : Prop where
  run : ∀ {B0 : Hp} {F : List Addr} {H : Hp} {σ : L2.St} {ts : List V} {τ : List D} {Q : List V → Hp → Prop}, Sat X.K B0 F H σ Γ ts τ L →
    (∀ vs ds H' L', R ds L' → vs.length = ds.length → Sat X.K B0 F H' σ Γ (vs ++ ts) (ds ++ τ) L' → Q vs H') → WA X es σ H Q
/-- what is wanted behind a statement, over data -/
structure En where
  nx : Gam → Cells → Prop
  rt : RD
  bk : Gam → Cells → Prop := fun _ _ => False
  ct : Gam → Cells → Prop := fun _ _ => False
structure EnOk (K : PySem.W.Frag) (B0 : Hp) (F : List Addr) (ts : List V) (τ : List D) (E : En) (D : Ends) : Prop where
  nx : ∀ Γ L σ H, E.nx Γ L → Sat K B0 F H σ Γ ts τ L → D.nx σ H
  rt : ∀ d L v σ Γ H, E.rt d L → Sat K B0 F H σ Γ (v :: ts) (d :: τ) L → D.rt v H
  bk : ∀ Γ L σ H, E.bk Γ L → Sat K B0 F H σ Γ ts τ L → D.bk σ H
  ct : ∀ Γ L σ H, E.ct Γ L → Sat K B0 F H σ Γ ts τ L → D.ct σ H
structure StX (X : Cx) (st : Stmt) (Γ : Gam) (L : Cells) (E : En) : Prop where
  run : ∀ {B0 : Hp} {F : List Addr} {H : Hp} {σ : L2.St} {ts : List V} {τ : List D} {D : Ends}, Sat X.K B0 F H σ Γ ts τ L → EnOk X.K B0 F ts τ E D → WS X st D σ H
structure BlX (X : Cx) (sts : List Stmt) (Γ : Gam) (L : Cells) (E : En) : Prop where
  run : ∀ {B0 : Hp} {F : List Addr} {H : Hp} {σ : L2.St} {ts : List V} {τ : List D} {D : Ends}, Sat X.K B0 F H σ Γ ts τ L → EnOk X.K B0 F ts τ E D → WSs X sts D σ H
section
variable {X : Cx} {Γ : Gam} {L : Cells} {R R' : RD} {e a b : Expr} {pos : Pos}
theorem EvX.imp (h : EvX X e Γ L R) (k : ∀ d L', R d L' → R' d L') : EvX X e Γ L R' := .mk fun S q => h.run S fun v d H' L' r S' => q v d H' L' (k d L' r) S'
theorem TeX.imp {R R' : Bool → Cells → Prop} (h : TeX X e Γ L R) (k : ∀ d L', R d L' → R' d L') : TeX X e Γ L R' := .mk fun S q => h.run S fun v d H' r S' => q v d H' (k v H' r) S'
/-! ### names and constants -/
theorem ev_v (i : Nat) {x : Str} {d : D} (hg : Γ[i]? = some (some d)) (r : R d L) (hN : X.N[i]? = some x := by rfl)
    (hv : Vis X.env.scope x := by first | exact Or.inl rfl | exact Or.inr (Or.inl rfl) | exact Or.inr (Or.inr rfl)) (hd : (x == ("__debug__" : Str)) = false := by decide)
    (hcd : (x == ("__classdict__" : Str)) = false := by decide) : EvX X (.Name x pos) Γ L R := .mk fun S q => by
  obtain ⟨v, e1, o⟩ := S.slots i d hg
  exact we_of (pe_var hN hv hd hcd) ⟨v, e1, q v d _ _ r (S.push o)⟩
theorem ev_int {i : Int} {j : Nat} (r : R (.int i) L) : EvX X (.Constant (.int i) j pos) Γ L R := .mk fun S q => we_of pe_int (q _ _ _ _ r (S.push (.int i)))
theorem ev_bl {i : Bool} {j : Nat} (r : R (.bl i) L) : EvX X (.Constant (.bool i) j pos) Γ L R := .mk fun S q => we_of pe_bl (q _ _ _ _ r (S.push (.bl i)))
theorem ev_non {j : Nat} (r : R .non L) : EvX X (.Constant .none j pos) Γ L R := .mk fun S q => we_of pe_non (q _ _ _ _ r (S.push .non))
theorem ev_str {i : Str} {j : Nat} (r : R (.str i) L) : EvX X (.Constant (.str i) j pos) Γ L R := .mk fun S q => we_of pe_str (q _ _ _ _ r (S.push (.str i)))
/-- a module's int, text -/
theorem ev_gint {x : Str} {i : Int} {t : Tok} (hm : X.mg x = some (.int i t)) (r : R (.int i) L) (hg : Gl X x := by rfl) (hd : (x == ("__debug__" : Str)) = false := by decide) : EvX X (.Name x pos) Γ L R := .mk fun S q => we_of (pe_glob (v := .int i) hg hm ⟨t, rfl⟩ hd) (q _ _ _ _ r (S.push (.int i)))
theorem ev_gstr {x i : Str} {t : Tok} (hm : X.mg x = some (.str i t)) (r : R (.str i) L) (hg : Gl X x := by rfl) (hd : (x == ("__debug__" : Str)) = false := by decide) : EvX X (.Name x pos) Γ L R := .mk fun S q => we_of (pe_glob (v := .str i) hg hm ⟨t, rfl⟩ hd) (q _ _ _ _ r (S.push (.str i)))
/-! ### two values, an operator -/
structure Op2 (K : PySem.W.Frag) (r : R2) (d1 d2 : D) (L : Cells) (R : RD) : Prop where
  run : ∀ {B0 : Hp} {F : List Addr} {H : Hp} {σ : L2.St} {Γ : Gam} {ts : List V} {τ : List D} {x y : V} {Q : VK}, Sat K B0 F H σ Γ (y :: x :: ts) (d2 :: d1 :: τ) L →
    (∀ v d H' L', R d L' → Sat K B0 F H' σ Γ (v :: ts) (d :: τ) L' → Q v H') → r x y H Q
theorem ev_op {op : Operator} {r : R2} (ho : OpR X (binaryOp op) r) (h : EvX X a Γ L fun d1 L1 => EvX X b Γ L1 fun d2 L2 => Op2 X.K r d1 d2 L2 R) : EvX X (.BinOp a op b pos) Γ L R := .mk fun S q =>
  we_of (pe_op ho pe_w pe_w) (h.run S fun v1 d1 H1 L1 h1 S1 => h1.run S1 fun v2 d2 H2 L2 h2 S2 => h2.run S2 q)
theorem ev_cmp {op : CmpOp} {r : R2} (ho : OpR X (compareOp op) r) (h : EvX X a Γ L fun d1 L1 => EvX X b Γ L1 fun d2 L2 => Op2 X.K r d1 d2 L2 R) (hm : behindInMarks op b = false := by first | exact nomark _ | rfl) : EvX X (.Compare a [op] [b] pos) Γ L R := .mk fun S q =>
  we_of (pe_cmpR ho pe_w pe_w hm) (h.run S fun v1 d1 H1 L1 h1 S1 => h1.run S1 fun v2 d2 H2 L2 h2 S2 => h2.run S2 q)
theorem te_cmp {op : CmpOp} {r : R2} {R : Bool → Cells → Prop} (ho : OpR X (compareOp op) r) (h : EvX X a Γ L fun d1 L1 => EvX X b Γ L1 fun d2 L2 => Op2 X.K r d1 d2 L2 fun d L' => ∃ k, d = .bl k ∧ R k L') (hm : behindInMarks op b = false := by first | exact nomark _ | rfl) :
    TeX X (.Compare a [op] [b] pos) Γ L R := .mk fun S q =>
  wt_of (pt_cmpR ho pe_w pe_w hm) (h.run S fun v1 d1 H1 L1 h1 S1 => h1.run S1 fun v2 d2 H2 L2 h2 S2 => h2.run S2 fun v d H' L' ⟨k, e, r⟩ S' => by
    subst e
    cases S'.top
    exact ⟨k, rfl, q k H' L' r S'.pop⟩)
/-- a subscript -/
theorem ev_ix {r : R2} (ho : IxR X r) (h : EvX X a Γ L fun d1 L1 => EvX X b Γ L1 fun d2 L2 => Op2 X.K r d1 d2 L2 R) (hs : PlainIx b := by exact fun _ _ => rfl) : EvX X (.Subscript a b pos) Γ L R := .mk fun S q =>
  we_of (pe_ix ho pe_w pe_w hs) (h.run S fun v1 d1 H1 L1 h1 S1 => h1.run S1 fun v2 d2 H2 L2 h2 S2 => h2.run S2 q)
theorem Sat.two {K : PySem.W.Frag} {B0 : Hp} {F : List Addr} {H : Hp} {σ : L2.St} {ts : List V} {τ : List D} {x y : V} {d1 d2 : D} (S : Sat K B0 F H σ Γ (y :: x :: ts) (d2 :: d1 :: τ) L) :
    Ob K (vis H (F ++ adr L)) x d1 ∧ Ob K (vis H (F ++ adr L)) y d2 ∧ Sat K B0 F H σ Γ ts τ L := ⟨S.pop.top, S.top, S.pop.pop⟩
section
variable {K : PySem.W.Frag} {i j : Int}
theorem o2_I0 {g : Int → Int → V} {g' : Int → Int → D} (hg : ∀ B i j, Ob K B (g i j) (g' i j)) (r : R (g' i j) L) : Op2 K (rI0 g) (.int i) (.int j) L R := .mk fun {B0 F H σ Γ ts τ x y Q} S q => by
  obtain ⟨o1, o2, S2⟩ := S.two
  cases o1
  cases o2
  exact ⟨i, j, rfl, rfl, q _ _ _ _ r (S2.push (hg _ i j))⟩
theorem o2_I {C : Int → Int → Prop} {g : Int → Int → V} {g' : Int → Int → D} (hg : ∀ B i j, Ob K B (g i j) (g' i j)) (c : C i j) (r : R (g' i j) L) : Op2 K (rI C g) (.int i) (.int j) L R := .mk fun {B0 F H σ Γ ts τ x y Q} S q => by
  obtain ⟨o1, o2, S2⟩ := S.two
  cases o1
  cases o2
  exact ⟨i, j, rfl, rfl, c, q _ _ _ _ r (S2.push (hg _ i j))⟩
theorem o2_add (r : R (.int (i + j)) L) : Op2 K (rI0 fun i j => .int (i + j)) (.int i) (.int j) L R := o2_I0 (g' := fun i j => .int (i + j)) (fun _ _ _ => .int _) r
theorem o2_sub (r : R (.int (i - j)) L) : Op2 K (rI0 fun i j => .int (i - j)) (.int i) (.int j) L R := o2_I0 (g' := fun i j => .int (i - j)) (fun _ _ _ => .int _) r
theorem o2_mul (c : CMul i j) (r : R (.int (i * j)) L) : Op2 K (rI CMul fun i j => .int (i * j)) (.int i) (.int j) L R := o2_I (g' := fun i j => .int (i * j)) (fun _ _ _ => .int _) c r
theorem o2_mod (c : 0 < j) (r : R (.int (i % j)) L) : Op2 K (rI (fun _ j => 0 < j) fun i j => .int (i % j)) (.int i) (.int j) L R := o2_I (C := fun _ j => 0 < j) (g' := fun i j => .int (i % j)) (fun _ _ _ => .int _) c r
theorem o2_fdiv (c : CDiv i j) (r : R (.int (i / j)) L) : Op2 K (rI CDiv fun i j => .int (i / j)) (.int i) (.int j) L R := o2_I (g' := fun i j => .int (i / j)) (fun _ _ _ => .int _) c r
theorem o2_pow (c : CPow i j) (r : R (.int (i ^ j.toNat)) L) : Op2 K (rI CPow fun i j => .int (i ^ j.toNat)) (.int i) (.int j) L R := o2_I (g' := fun i j => .int (i ^ j.toNat)) (fun _ _ _ => .int _) c r
theorem o2_lt (r : R (.bl (decide (i < j))) L) : Op2 K (rI0 fun i j => .bl (decide (i < j))) (.int i) (.int j) L R := o2_I0 (g' := fun i j => .bl (decide (i < j))) (fun _ _ _ => .bl _) r
theorem o2_le (r : R (.bl (decide (i ≤ j))) L) : Op2 K (rI0 fun i j => .bl (decide (i ≤ j))) (.int i) (.int j) L R := o2_I0 (g' := fun i j => .bl (decide (i ≤ j))) (fun _ _ _ => .bl _) r
theorem o2_gt (r : R (.bl (decide (j < i))) L) : Op2 K (rI0 fun i j => .bl (decide (j < i))) (.int i) (.int j) L R := o2_I0 (g' := fun i j => .bl (decide (j < i))) (fun _ _ _ => .bl _) r
theorem o2_ge (r : R (.bl (decide (j ≤ i))) L) : Op2 K (rI0 fun i j => .bl (decide (j ≤ i))) (.int i) (.int j) L R := o2_I0 (g' := fun i j => .bl (decide (j ≤ i))) (fun _ _ _ => .bl _) r
end
/-! ### == of data -/
mutual
/-- plain data -/
def D.py : D → PyData
  | .non => .none
  | .bl b => .bool b
  | .int i => .int i
  | .str x => .str x
  | .tup l => .tuple (D.pys l)
  | .lst l => .list (D.pys l)
  | _ => .none
def D.pys : List D → List PyData
  | [] => []
  | d :: ds => d.py :: D.pys ds
end
mutual
/-- no reference, no dict, no instance in it -/
def D.pure : D → Bool
  | .tup l => D.pures l
  | .lst l => D.pures l
  | .dct _ _ => false
  | .ins _ _ _ => false
  | .ref _ => false
  | .ty _ => false
  | .raw _ _ => false
  | .kdc _ _ => false
  | _ => true
def D.pures : List D → Bool
  | [] => true
  | d :: ds => d.pure && D.pures ds
end
mutual
theorem Ob.dp {K : PySem.W.Frag} {B H : Hp} (h : Le B H) : ∀ (d : D) (v : V), d.pure = true → Ob K B v d → Dp K H v d.py
  | .non, _, _, o => by cases o; exact .non
  | .bl b, _, _, o => by cases o; exact .bl b
  | .int i, _, _, o => by cases o; exact .int i
  | .str x, _, _, o => by cases o; exact .str x
  | .ref a, _, p, o => by cases p
  | .ty a, _, p, o => by cases p
  | .raw mk l, _, p, o => by cases p
  | .kdc ks l, _, p, o => by cases p
  | .tup l, _, p, o => by
    cases o with
    | tup s r => exact .tup (h.sqT s) (ObL.dps h l _ p r)
  | .lst l, _, p, o => by
    cases o with
    | lst s r => exact .lst (h.sqL s) (ObL.dps h l _ p r)
  | .dct ks l, _, p, o => by cases p
  | .ins C ns l, _, p, o => by cases p
theorem ObL.dps {K : PySem.W.Frag} {B H : Hp} (h : Le B H) : ∀ (ds : List D) (vs : List V), D.pures ds = true → ObL K B vs ds → DpAll K H vs (D.pys ds)
  | [], _, _, o => by cases o; exact .nil
  | d :: ds, _, p, o => by
    cases o with
    | cons r s =>
      have p' : (d.pure && D.pures ds) = true := p
      rw [Bool.and_eq_true] at p'
      exact .cons (Ob.dp h d _ p'.1 r) (ObL.dps h ds _ p'.2 s)
end
theorem o2_eqD {K : PySem.W.Frag} {d1 d2 : D} {k : Bool} (p1 : d1.pure = true) (p2 : d2.pure = true) (s1 : SeqAt.shaped d1.py = true) (s2 : SeqAt.shaped d2.py = true) (e : PyData.eqv d1.py d2.py = k) (r : R (.bl k) L) : Op2 K (rEqD K) d1 d2 L R := .mk fun {B0 F H σ Γ ts τ x y Q} S q => by
  obtain ⟨o1, o2, S2⟩ := S.two
  exact ⟨d1.py, d2.py, Ob.dp vis_le _ _ p1 o1, Ob.dp vis_le _ _ p2 o2, s1, s2, by rw [e]; exact q _ _ _ _ r (S2.push (.bl k))⟩
theorem o2_neD {K : PySem.W.Frag} {d1 d2 : D} {k : Bool} (p1 : d1.pure = true) (p2 : d2.pure = true) (s1 : SeqAt.shaped d1.py = true) (s2 : SeqAt.shaped d2.py = true) (e : PyData.eqv d1.py d2.py = k) (r : R (.bl (!k)) L) : Op2 K (rNeD K) d1 d2 L R := .mk fun {B0 F H σ Γ ts τ x y Q} S q => by
  obtain ⟨o1, o2, S2⟩ := S.two
  exact ⟨d1.py, d2.py, Ob.dp vis_le _ _ p1 o1, Ob.dp vis_le _ _ p2 o2, s1, s2, by rw [e]; exact q _ _ _ _ r (S2.push (.bl _))⟩
/-- scalars -/
def D.v : D → V
  | .non => .non
  | .bl b => .bl b
  | .int i => .int i
  | .str x => .str x
  | _ => .ref 0
def D.sc : D → Bool
  | .non => true
  | .bl _ => true
  | .int _ => true
  | .str _ => true
  | _ => false
theorem Ob.sc {K : PySem.W.Frag} {B : Hp} {d : D} {v : V} (o : Ob K B v d) (h : d.sc = true) : v = d.v := by
  cases o <;> first | rfl | cases h
theorem o2_eq {K : PySem.W.Frag} {d1 d2 : D} {k : Bool} (p1 : d1.sc = true) (p2 : d2.sc = true) (s : scal d1.v d2.v = true) (e : decide (d1.v = d2.v) = k) (r : R (.bl k) L) : Op2 K rEq d1 d2 L R := .mk fun {B0 F H σ Γ ts τ x y Q} S q => by
  obtain ⟨o1, o2, S2⟩ := S.two
  rw [o1.sc p1, o2.sc p2]
  exact ⟨s, by rw [e]; exact q _ _ _ _ r (S2.push (.bl k))⟩
theorem o2_ne {K : PySem.W.Frag} {d1 d2 : D} {k : Bool} (p1 : d1.sc = true) (p2 : d2.sc = true) (s : scal d1.v d2.v = true) (e : decide (d1.v = d2.v) = k) (r : R (.bl (!k)) L) : Op2 K rNe d1 d2 L R := .mk fun {B0 F H σ Γ ts τ x y Q} S q => by
  obtain ⟨o1, o2, S2⟩ := S.two
  rw [o1.sc p1, o2.sc p2]
  exact ⟨s, by rw [e]; exact q _ _ _ _ r (S2.push (.bl _))⟩
/-- is None -/
def D.isN : D → Bool
  | .non => true
  | _ => false
theorem Ob.isN {K : PySem.W.Frag} {B : Hp} {d : D} {v : V} (o : Ob K B v d) : decide (v = .non) = d.isN := by
  cases o <;> first | rfl | exact decide_eq_false (fun e => by cases e)
theorem o2_isN {K : PySem.W.Frag} {d : D} (r : R (.bl d.isN) L) : Op2 K (fun x y H Q => y = .non ∧ Q (.bl (decide (x = .non))) H) d .non L R := .mk fun {B0 F H σ Γ ts τ x y Q} S q => by
  obtain ⟨o1, o2, S2⟩ := S.two
  cases o2
  exact ⟨rfl, by rw [o1.isN]; exact q _ _ _ _ r (S2.push (.bl _))⟩
theorem o2_notN {K : PySem.W.Frag} {d : D} (r : R (.bl (!d.isN)) L) : Op2 K (fun x y H Q => y = .non ∧ Q (.bl (!decide (x = .non))) H) d .non L R := .mk fun {B0 F H σ Γ ts τ x y Q} S q => by
  obtain ⟨o1, o2, S2⟩ := S.two
  cases o2
  exact ⟨rfl, by rw [o1.isN]; exact q _ _ _ _ r (S2.push (.bl _))⟩
/-- in a flat list, tuple -/
def D.flat : D → Bool
  | .non => true
  | .bl _ => true
  | .int _ => true
  | .str _ => true
  | _ => false
theorem sc_flatV {d : D} (h : d.sc = true) : flatV d.v = true := by cases d <;> first | rfl | cases h
theorem ObL.sc {K : PySem.W.Frag} {B : Hp} : ∀ {ds : List D} {vs : List V}, ObL K B vs ds → ds.all D.sc = true → vs = ds.map D.v
  | [], _, .nil, _ => rfl
  | d :: ds, _, .cons r t, h => by
    rw [List.all_cons, Bool.and_eq_true] at h
    rw [r.sc h.1, ObL.sc t h.2]; rfl
theorem all_flat : ∀ {ds : List D}, ds.all D.sc = true → (ds.map D.v).all flatV = true := fun {ds} h => by
  rw [List.all_eq_true] at h ⊢
  intro v hv
  obtain ⟨d, hd, rfl⟩ := List.mem_map.mp hv
  exact sc_flatV (h d hd)
theorem o2_in {K : PySem.W.Frag} {neg : Bool} {d d2 : D} {ds : List D} {k : Bool} (h2 : d2 = .tup ds ∨ d2 = .lst ds) (p : d.sc = true) (ps : ds.all D.sc = true) (e : inV d.v (ds.map D.v) = k) (r : R (.bl (if neg then !k else k)) L) : Op2 K (rIn K neg) d d2 L R := .mk fun {B0 F H σ Γ ts τ x y Q} S q => by
  obtain ⟨o1, o2, S2⟩ := S.two
  have hx := o1.sc p
  subst hx
  have fin : (b : Addr) → (xs : List V) → y = .ref b → (SqL K H b xs ∨ SqT K H b xs) → ObL K (vis H (F ++ adr L)) xs ds → rIn K neg d.v y H Q := fun b xs hy hs hr => by
    have := hr.sc ps
    subst this
    exact ⟨b, _, hy, hs, sc_flatV p, all_flat ps, by rw [e]; exact q _ _ _ _ r (S2.push (.bl _))⟩
  rcases h2 with rfl | rfl
  · cases o2 with
    | tup s t => exact fin _ _ rfl (.inr (vis_le.sqT s)) t
  · cases o2 with
    | lst s t => exact fin _ _ rfl (.inl (vis_le.sqL s)) t
/-- items -/
theorem o2_ixT {K : PySem.W.Frag} {ds : List D} {n : Nat} {d : D} (h : ds[n]? = some d) (r : R d L) : Op2 K (rIxT K) (.tup ds) (.int n) L R := .mk fun {B0 F H σ Γ ts τ x y Q} S q => by
  obtain ⟨o1, o2, S2⟩ := S.two
  cases o2
  cases o1 with
  | tup s t =>
    obtain ⟨v, e, o⟩ := t.get h
    exact ⟨_, _, _, v, rfl, rfl, vis_le.sqT s, atI_nat e, q _ _ _ _ r (S2.push o)⟩
theorem o2_ixL {K : PySem.W.Frag} {ds : List D} {n : Nat} {d : D} (h : ds[n]? = some d) (r : R d L) : Op2 K (rIxL K) (.lst ds) (.int n) L R := .mk fun {B0 F H σ Γ ts τ x y Q} S q => by
  obtain ⟨o1, o2, S2⟩ := S.two
  cases o2
  cases o1 with
  | lst s t =>
    obtain ⟨v, e, o⟩ := t.get h
    exact ⟨_, _, _, v, rfl, rfl, vis_le.sqL s, atI_nat e, q _ _ _ _ r (S2.push o)⟩
/-- .. of an own list -/
theorem o2_ixC {K : PySem.W.Frag} {ds : List D} {n k : Nat} {a : Addr} {d : D} (hk : L[k]? = some (a, .lst ds)) (h : ds[n]? = some d) (r : R d L) : Op2 K (rIxL K) (.ref a) (.int n) L R := .mk fun {B0 F H σ Γ ts τ x y Q} S q => by
  obtain ⟨o1, o2, S2⟩ := S.two
  cases o1
  cases o2
  obtain ⟨xs, hx, t⟩ := S.cell hk
  obtain ⟨v, e, o⟩ := t.get h
  exact ⟨_, _, _, v, rfl, rfl, SqL.of hx, atI_nat e, q _ _ _ _ r (S2.push o)⟩
/-! ### tests -/
theorem te_val {R : Bool → Cells → Prop} (h : EvX X e Γ L fun d L' => ∃ k, d = .bl k ∧ R k L') (he : ∀ whole, isTrue e X.env whole = (do let v ← whole; standAt e.pos; holding [v] (truthy v)) := by intro _; rfl) : TeX X e Γ L R := .mk fun S q =>
  wt_of (pt_val pe_w he) (h.run S fun v d H' L' ⟨k, e, r⟩ S' => by
    subst e
    cases S'.top
    exact ⟨k, rfl, q k H' L' r S'.pop⟩)
theorem te_not {R : Bool → Cells → Prop} (h : TeX X a Γ L fun k L' => R (!k) L') : TeX X (.UnaryOp .Not a pos) Γ L R := .mk fun S q =>
  wt_of (pt_not pt_w) (h.run S fun k H' L' r S' => q (!k) H' L' r S')
theorem te_and1 {R : Bool → Cells → Prop} (h : TeX X a Γ L R) : TeX X (.BoolOp .And [a] pos) Γ L R := .mk fun S q => wt_of (pw_and1 pt_w).pt (h.run S q)
theorem te_or1 {R : Bool → Cells → Prop} (h : TeX X a Γ L R) : TeX X (.BoolOp .Or [a] pos) Γ L R := .mk fun S q => wt_of (pw_or1 pt_w).pt (h.run S q)
/-- and, or: the rest's whole does not matter -/
def WW (X : Cx) (e : Expr) : TT := fun σ H Q => ∀ (whole : Sem Value) (pins : List (Addr × Obj)) (s : Shared), Inv X pins σ H s → wpAny (model X.prog X.w) X.A (isTrue e X.env whole) (TP X pins σ Q) X.xe s
theorem pw_w {e : Expr} : PW X e (WW X e) := ⟨fun wh pins s σ H Q I h => h wh pins s I⟩
structure TwX (X : Cx) (e : Expr) (Γ : Gam) (L : Cells) (R : Bool → Cells → Prop) : Prop where
  run : ∀ {B0 : Hp} {F : List Addr} {H : Hp} {σ : L2.St} {ts : List V} {τ : List D} {Q : Bool → Hp → Prop}, Sat X.K B0 F H σ Γ ts τ L →
    (∀ b H' L', R b L' → Sat X.K B0 F H' σ Γ ts τ L' → Q b H') → WW X e σ H Q
theorem tw_and1 {R : Bool → Cells → Prop} (h : TeX X a Γ L R) : TwX X (.BoolOp .And [a] pos) Γ L R := .mk fun S q wh pins s I => (pw_and1 (X := X) (pt_w)).run wh pins s _ _ _ I (h.run S q)
theorem tw_or1 {R : Bool → Cells → Prop} (h : TeX X a Γ L R) : TwX X (.BoolOp .Or [a] pos) Γ L R := .mk fun S q wh pins s I => (pw_or1 (X := X) (pt_w)).run wh pins s _ _ _ I (h.run S q)
theorem tw_and {rest : List Expr} {R : Bool → Cells → Prop} (h : TeX X a Γ L fun k L1 => if k = true then TwX X (.BoolOp .And (b :: rest) pos) Γ L1 R else R false L1) : TwX X (.BoolOp .And (a :: b :: rest) pos) Γ L R := .mk fun S q wh pins s I =>
  (pw_and (X := X) pt_w pw_w).run wh pins s _ _ _ I (h.run S fun k H' L' r S' => by
    cases k with
    | true => exact (show WW X _ _ H' _ from (show TwX X _ Γ L' R from r).run S' q)
    | false => exact q false H' L' r S')
theorem tw_or {rest : List Expr} {R : Bool → Cells → Prop} (h : TeX X a Γ L fun k L1 => if k = true then R true L1 else TwX X (.BoolOp .Or (b :: rest) pos) Γ L1 R) : TwX X (.BoolOp .Or (a :: b :: rest) pos) Γ L R := .mk fun S q wh pins s I =>
  (pw_or (X := X) pt_w pw_w).run wh pins s _ _ _ I (h.run S fun k H' L' r S' => by
    cases k with
    | false => exact (show WW X _ _ H' _ from (show TwX X _ Γ L' R from r).run S' q)
    | true => exact q true H' L' r S')
theorem te_tw {R : Bool → Cells → Prop} (h : TwX X e Γ L R) : TeX X e Γ L R := .mk fun S q pins s I => h.run S q _ pins s I
/-- .. as values -/
theorem ev_one {op : BoolOp} (h : EvX X a Γ L R) : EvX X (.BoolOp op [a] pos) Γ L R := .mk fun S q => we_of (pe_one pe_w) (h.run S q)
theorem ev_and {rest : List Expr} (h : EvX X a Γ L fun d L1 => ∃ k, d = .bl k ∧ if k = true then EvX X (.BoolOp .And (b :: rest) pos) Γ L1 R else R (.bl false) L1) : EvX X (.BoolOp .And (a :: b :: rest) pos) Γ L R := .mk fun S q =>
  we_of (pe_and pe_w pe_w) (h.run S fun v d H' L' ⟨k, e, r⟩ S' => by
    subst e
    cases S'.top
    refine ⟨k, rfl, ?_⟩
    cases k with
    | true => exact (show EvX X _ Γ L' R from r).run S'.pop q
    | false => exact q _ _ H' L' r S')
theorem ev_or {rest : List Expr} (h : EvX X a Γ L fun d L1 => ∃ k, d = .bl k ∧ if k = true then R (.bl true) L1 else EvX X (.BoolOp .Or (b :: rest) pos) Γ L1 R) : EvX X (.BoolOp .Or (a :: b :: rest) pos) Γ L R := .mk fun S q =>
  we_of (pe_or pe_w pe_w) (h.run S fun v d H' L' ⟨k, e, r⟩ S' => by
    subst e
    cases S'.top
    refine ⟨k, rfl, ?_⟩
    cases k with
    | false => exact (show EvX X _ Γ L' R from r).run S'.pop q
    | true => exact q _ _ H' L' r S')
theorem ev_not (h : EvX X a Γ L fun d L1 => ∃ k, d = .bl k ∧ R (.bl (!k)) L1) : EvX X (.UnaryOp .Not a pos) Γ L R := .mk fun S q =>
  we_of (pe_not pe_w) (h.run S fun v d H' L' ⟨k, e, r⟩ S' => by
    subst e
    cases S'.top
    exact ⟨k, rfl, q _ _ H' L' r (S'.pop.push (.bl _))⟩)
theorem ev_if {c : Expr} (h : TeX X c Γ L fun k L1 => if k = true then EvX X a Γ L1 R else EvX X b Γ L1 R) : EvX X (.IfExp c a b pos) Γ L R := .mk fun S q =>
  we_of (pe_ifExp pt_w pe_w pe_w) (h.run S fun k H' L' r S' => by
    cases k with
    | true => exact (show EvX X a Γ L' R from r).run S' q
    | false => exact (show EvX X b Γ L' R from r).run S' q)
/-! ### arguments, displays -/
theorem ObL.swap {K : PySem.W.Frag} {B : Hp} {v : V} {d : D} : ∀ {vs ts : List V} {ds τ : List D}, vs.length = ds.length → ObL K B (vs ++ v :: ts) (ds ++ d :: τ) → ObL K B (v :: vs ++ ts) (d :: ds ++ τ)
  | [], _, [], _, _, h => h
  | u :: vs, ts, e :: ds, τ, l, h => by
    cases h with
    | cons r t =>
      have h2 := ObL.swap (vs := vs) (ds := ds) (by simpa using l) t
      cases h2 with
      | cons r2 t2 => exact .cons r2 (.cons r t2)
theorem ag_nil {R : List D → Cells → Prop} (r : R [] L) : AgX X [] Γ L R := .mk fun S q => wa_of pa_nil (q [] [] _ _ r rfl S)
theorem ag_cons {es : List Expr} {R : List D → Cells → Prop} (h : EvX X e Γ L fun d L1 => AgX X es Γ L1 fun ds L2 => R (d :: ds) L2)
    (hs : starEach (e :: es) X.env = (false, eval e X.env) :: starEach es X.env := by rfl) : AgX X (e :: es) Γ L R := .mk fun S q =>
  wa_of (pa_cons pe_w pa_w hs) (h.run S fun v d H1 L1 h1 S1 => h1.run S1 fun vs ds H2 L2 r hl S2 => q (v :: vs) (d :: ds) H2 L2 r (by simp [hl]) ⟨S2.base, S2.fo, S2.nd, S2.cells, S2.len, S2.slots, ObL.swap hl S2.temps⟩)
theorem ObL.split {K : PySem.W.Frag} {B : Hp} : ∀ {vs ts : List V} {ds τ : List D}, vs.length = ds.length → ObL K B (vs ++ ts) (ds ++ τ) → ObL K B vs ds ∧ ObL K B ts τ
  | [], _, [], _, _, h => ⟨.nil, h⟩
  | u :: vs, ts, e :: ds, τ, l, h => by
    cases h with
    | cons r t =>
      obtain ⟨h1, h2⟩ := ObL.split (vs := vs) (ds := ds) (by simpa using l) t
      exact ⟨.cons r h1, h2⟩
theorem Sat.args {K : PySem.W.Frag} {B0 : Hp} {F : List Addr} {H : Hp} {σ : L2.St} {vs ts : List V} {ds τ : List D} (S : Sat K B0 F H σ Γ (vs ++ ts) (ds ++ τ) L) (hl : vs.length = ds.length) :
    ObL K (vis H (F ++ adr L)) vs ds ∧ Sat K B0 F H σ Γ ts τ L := by
  obtain ⟨h1, h2⟩ := ObL.split hl S.temps
  exact ⟨h1, S.base, S.fo, S.nd, S.cells, S.len, S.slots, h2⟩
theorem ev_tup {es : List Expr} {x1 : Nat} (h : AgX X es Γ L fun ds L1 => ds.length ≤ sizeLine ∧ R (.tup ds) L1) : EvX X (.Tuple es x1 pos) Γ L R := .mk fun S q =>
  we_of (pe_tup pa_w) (h.run S fun vs ds H1 L1 ⟨z, r⟩ hl S1 => by
    obtain ⟨o, S2⟩ := S1.args hl
    refine ⟨by rw [hl]; exact z, fun p hp => ?_⟩
    obtain ⟨S3, le, hn⟩ := S2.newB (o := .tup vs) hp
    exact q _ _ _ _ r (S3.push (.tup (SqT.of hn) (o.mono le))))
/-- a new list of one's own -/
theorem ev_lst {es : List Expr} (h : AgX X es Γ L fun ds L1 => ds.length ≤ sizeLine ∧ ∀ p, R (.ref p) (L1 ++ [(p, .lst ds)])) : EvX X (.List es pos) Γ L R := .mk fun S q =>
  we_of (pe_lst pa_w) (h.run S fun vs ds H1 L1 ⟨z, r⟩ hl S1 => by
    obtain ⟨o, S2⟩ := S1.args hl
    refine ⟨by rw [hl]; exact z, fun p hp => ?_⟩
    have S3 := S2.newC (o := .lst vs) (d := .lst ds) hp fun B le => ⟨vs, upd_same, o.mono le⟩
    exact q _ _ _ _ (r p) (S3.push (.ref p)))
/-- the value is given up: read from now on -/
theorem ev_fz (h : EvX X e Γ L fun d L1 => ∃ k a d', d = .ref a ∧ L1[k]? = some (a, d') ∧ R d' (L1.eraseIdx k)) : EvX X e Γ L R := .mk fun S q => h.run S fun v d H' L' ⟨k, a, d', e, hk, r⟩ S' => by
  subst e
  exact q _ _ _ _ r (S'.freezeTop hk)
/-! ### statements -/
variable {E : En} {st : Stmt} {rest : List Stmt}
theorem bl_nil (h : E.nx Γ L) : BlX X [] Γ L E := .mk fun S ok => wss_of pss_nil (ok.nx _ _ _ _ h S)
theorem bl_cons (h : StX X st Γ L { E with nx := fun Γ' L' => BlX X rest Γ' L' E }) : BlX X (st :: rest) Γ L E := .mk fun S ok =>
  wss_of (pss_cons ps_w pss_w) (h.run S ⟨fun Γ' L' σ' H' r S' => r.run S' ok, ok.rt, ok.bk, ok.ct⟩)
theorem st_ret (h : EvX X e Γ L E.rt) : StX X (.Return (some e) pos) Γ L E := .mk fun S ok => ws_of (ps_ret pe_w) (h.run S fun v d H' L' r S' => ok.rt _ _ _ _ _ _ r S')
theorem st_retN (h : E.rt .non L) : StX X (.Return none pos) Γ L E := .mk fun S ok => ws_of ps_retN (ok.rt _ _ _ _ _ _ h (S.push .non))
theorem st_pass (h : E.nx Γ L) : StX X (.Pass pos) Γ L E := .mk fun S ok => ws_of ps_pass (ok.nx _ _ _ _ h S)
theorem st_brk (h : E.bk Γ L) : StX X (.Break pos) Γ L E := .mk fun S ok => ws_of ps_break (ok.bk _ _ _ _ h S)
theorem st_cnt (h : E.ct Γ L) : StX X (.Continue pos) Γ L E := .mk fun S ok => ws_of ps_continue (ok.ct _ _ _ _ h S)
theorem st_expr (h : EvX X e Γ L fun _ L' => E.nx Γ L') (hs : swapsWith e none pos.line X.env = pure false := by rfl) : StX X (.Expr e pos) Γ L E := .mk fun S ok =>
  ws_of (ps_expr pe_w hs) (h.run S fun v d H' L' r S' => ok.nx _ _ _ _ r S'.pop)
theorem st_if {c : Expr} {ba bb : List Stmt} (h : TeX X c Γ L fun k L1 => if k = true then BlX X ba Γ L1 E else BlX X bb Γ L1 E) : StX X (.If c ba bb pos) Γ L E := .mk fun S ok =>
  ws_of (ps_if pt_w pss_w pss_w) (h.run S fun k H' L' r S' => by
    cases k with
    | true => exact (show BlX X ba Γ L' E from r).run S' ok
    | false => exact (show BlX X bb Γ L' E from r).run S' ok)
theorem st_set (i : Nat) {x : Str} {pos' : Pos} (hN : X.N.Nodup) (h : EvX X e Γ L fun d L' => E.nx (Γ.set i (some d)) L') (hi : X.N[i]? = some x := by rfl) (hx : Loc X.env.scope x := by first | exact .inl rfl | exact .inr rfl)
    (hs : swapsWith e (some (.Name x pos')) pos.line X.env = pure false := by rfl) (hf : X.fn x = true ∨ X.env.scope.names.lookup x = some .local := by first | exact .inl rfl | exact .inr rfl) : StX X (.Assign [.Name x pos'] e pos) Γ L E := .mk fun S ok =>
  ws_of (ps_set hN hi hx pe_w hs hf) (h.run S fun v d H' L' r S' => ok.nx _ _ _ _ r (S'.setSlot i))
/-- an own object under a slot is given up -/
theorem bl_fz {sts : List Stmt} (k i : Nat) {a : Addr} {d : D} (hk : L[k]? = some (a, d)) (hi : Γ[i]? = some (some (.ref a))) (h : BlX X sts (Γ.set i (some d)) (L.eraseIdx k) E) : BlX X sts Γ L E := .mk fun S ok => h.run (S.freezeSlot hk hi) ok
theorem bl_weak {sts : List Stmt} (Γ' : Gam) (hl : Γ'.length = Γ.length) (w : ∀ (i : Nat) d, Γ'[i]? = some (some d) → Γ[i]? = some (some d)) (h : BlX X sts Γ' L E) : BlX X sts Γ L E := .mk fun S ok => h.run (S.weak hl w) ok
end
end DL
set_option maxRecDepth 100000
set_option maxHeartbeats 4000000
/-! DL3: calls: of defs, of built-ins, methods; instances; what a def promises over data. -/
namespace DL
open PySem PySem.Spec PyProof.Rows L2
theorem ObL.append' {K : PySem.W.Frag} {B : Hp} {vs ts : List V} {ds τ : List D} (h : ObL K B vs ds) (k : ObL K B ts τ) : ObL K B (vs ++ ts) (ds ++ τ) := h.append k
/-- the order of the own objects does not matter -/
theorem Sat.perm {K : PySem.W.Frag} {B0 : Hp} {F : List Addr} {H : Hp} {σ : L2.St} {Γ : Gam} {ts : List V} {τ : List D} {L L' : Cells} (S : Sat K B0 F H σ Γ ts τ L) (h : L.Perm L') : Sat K B0 F H σ Γ ts τ L' := by
  have ha : (adr L).Perm (adr L') := h.map _
  have hv : vis H (F ++ adr L) = vis H (F ++ adr L') := vis_congr fun a => by
    rw [List.mem_append, List.mem_append, ha.mem_iff]
  refine ⟨fun a o e => ?_, S.fo, ha.nodup_iff.mp S.nd, fun p hp => ?_, S.len, fun i d e => ?_, ?_⟩
  · obtain ⟨e1, e2⟩ := S.base a o e
    exact ⟨e1, fun q => e2 (ha.mem_iff.mpr q)⟩
  · rw [← hv]; exact S.cells p (h.mem_iff.mpr hp)
  · rw [← hv]; exact S.slots i d e
  · rw [← hv]; exact S.temps
/-- what a def promises: the arguments as data, the own objects that are handed in; what comes back, and the own objects then -/
def spD (K : PySem.W.Frag) {α : Type} (args : α → List D) (cells : α → Cells) (post : α → RD) : Sp := fun vs H Q _ => ∃ (x : α) (B0 : Hp) (F : List Addr), vs.length = (args x).length ∧ Sat K B0 F H [] [] vs (args x) (cells x) ∧
  ∀ d L' v H' σ Γ, post x d L' → Sat K B0 F H' σ Γ [v] [d] L' → Q v H'
section
variable {K : PySem.W.Frag} {B0 : Hp} {F : List Addr} {H H' : Hp} {σ : L2.St} {Γ : Gam} {ts vs : List V} {τ ds : List D} {L L0 Lk L' : Cells} {v : V} {d : D}
/-- into a callee .. -/
theorem Sat.into (S : Sat K B0 F H σ Γ (vs ++ ts) (ds ++ τ) L) (hl : vs.length = ds.length) (h : L.Perm (L0 ++ Lk)) : Sat K (vis H (adr L0)) (F ++ adr Lk) H [] [] vs ds L0 := by
  obtain ⟨o, S1⟩ := (S.perm h).args hl
  have hv : vis H (F ++ adr (L0 ++ Lk)) = vis H (F ++ adr Lk ++ adr L0) := vis_congr fun a => by
    simp only [adr, List.map_append, List.mem_append]
    constructor
    · rintro (q | q | q)
      · exact .inl (.inl q)
      · exact .inr q
      · exact .inl (.inr q)
    · rintro ((q | q) | q)
      · exact .inl q
      · exact .inr (.inr q)
      · exact .inr (.inl q)
  have hn := S1.nd
  simp only [adr, List.map_append] at hn
  rw [List.nodup_append] at hn
  obtain ⟨n1, n2, n3⟩ := hn
  refine ⟨fun a u e => ?_, fun a ha => ?_, n1, fun p hp => ?_, rfl, fun i d e => ?_, by rw [← hv]; exact o⟩
  · obtain ⟨e1, e2⟩ := vis_some.mp e
    exact ⟨e2, e1⟩
  · rcases List.mem_append.mp ha with q | q
    · obtain ⟨u, e⟩ := S1.fo a q
      obtain ⟨e1, e2⟩ := S1.base a u e
      exact ⟨u, vis_of (fun z => e2 (by simp only [adr, List.map_append]; exact List.mem_append_left _ z)) e1⟩
    · obtain ⟨u, e, _⟩ := S1.there (a := a) (by simp only [adr, List.map_append]; exact List.mem_append_right _ q)
      exact ⟨u, vis_of (fun z => n3 a z a q rfl) e⟩
  · rw [← hv]
    exact S1.cells p (List.mem_append_left _ hp)
  · simp at e
/-- .. and back -/
theorem Sat.back {σ' : L2.St} {Γ' : Gam} (S : Sat K B0 F H σ Γ ts τ L) (h : L.Perm (L0 ++ Lk)) (S' : Sat K (vis H (adr L0)) (F ++ adr Lk) H' σ' Γ' [v] [d] L') : Sat K B0 F H' σ Γ (v :: ts) (d :: τ) (L' ++ Lk) := by
  have S1 := S.perm h
  have hn := S1.nd
  simp only [adr, List.map_append] at hn
  rw [List.nodup_append] at hn
  obtain ⟨n1, n2, n3⟩ := hn
  have hv : vis H' (F ++ adr Lk ++ adr L') = vis H' (F ++ adr (L' ++ Lk)) := vis_congr fun a => by
    simp only [adr, List.map_append, List.mem_append]
    constructor
    · rintro ((q | q) | q)
      · exact .inl q
      · exact .inr (.inr q)
      · exact .inr (.inl q)
    · rintro (q | q | q)
      · exact .inl (.inl q)
      · exact .inr q
      · exact .inl (.inr q)
  -- what is visible stays
  have kk : ∀ a u, a ∉ adr L0 → H a = some u → H' a = some u ∧ a ∉ adr L' := fun a u h1 e => S'.base a u (vis_of h1 e)
  have le : Le (vis H (F ++ adr (L0 ++ Lk))) (vis H' (F ++ adr (L' ++ Lk))) := .of fun a u e => by
    obtain ⟨e1, e2⟩ := vis_some.mp e
    simp only [adr, List.map_append, List.mem_append, not_or] at e1
    obtain ⟨q1, q2⟩ := kk a u e1.2.1 e2
    refine vis_of ?_ q1
    simp only [adr, List.map_append, List.mem_append, not_or]
    exact ⟨e1.1, q2, e1.2.2⟩
  have hk : ∀ a, a ∈ adr Lk → a ∉ adr L' := fun a ha => by
    obtain ⟨u, e, _⟩ := S1.there (a := a) (by simp only [adr, List.map_append]; exact List.mem_append_right _ ha)
    exact (kk a u (fun z => n3 a z a ha rfl) e).2
  refine ⟨fun a u e => ?_, S1.fo, ?_, fun p hp => ?_, S1.len, fun i d e => ?_, .cons (by rw [← hv]; exact S'.top) (S1.temps.mono le)⟩
  · obtain ⟨e1, e2⟩ := S1.base a u e
    simp only [adr, List.map_append, List.mem_append, not_or] at e2
    obtain ⟨q1, q2⟩ := kk a u e2.1 e1
    refine ⟨q1, ?_⟩
    simp only [adr, List.map_append, List.mem_append, not_or]
    exact ⟨q2, e2.2⟩
  · simp only [adr, List.map_append]
    rw [List.nodup_append]
    exact ⟨S'.nd, n2, fun a ha b hb e => hk b hb (by rw [← e]; exact ha)⟩
  · rcases List.mem_append.mp hp with q | q
    · rw [← hv]
      exact S'.cells p q
    · have c := S1.cells p (List.mem_append_right _ q)
      obtain ⟨u, e, _⟩ := c.there
      have hne : p.1 ∉ adr L0 := fun z => n3 p.1 z p.1 (List.mem_map_of_mem q) rfl
      exact c.mono le ((kk p.1 u hne e).1.trans e.symm)
  · obtain ⟨v, e1, e2⟩ := S1.slots i d e
    exact ⟨v, e1, e2.mono le⟩
end
section
variable {X : Cx} {Γ : Gam} {L : Cells} {R : RD} {e o : Expr} {es : List Expr} {pos : Pos}
/-- a call of one's own def -/
theorem ev_call {α : Type} {args : α → List D} {cells : α → Cells} {post : α → RD} {k : Nat} {f : Addr} {fd : FuncData} {ps : List Str} {x : Str} {p : Pos} (G : FnOk X.prog X.w X.K X.mg X.base CX0 k f fd ps (spD X.K args cells post)) (hr : Room k X.A)
    (hm : X.mg x = some (.ref f)) (hk : PySem.W.keepIn X.K (.ref f) = true) (hb : Binds X.K fd ps [])
    (h : AgX X (e :: es) Γ L fun ds L1 => ∃ x Lk, ds = args x ∧ L1.Perm (cells x ++ Lk) ∧ ∀ d L', post x d L' → R d (L' ++ Lk)) (hg : Gl X x := by rfl)
    (hdb : (x == ("__debug__" : Str)) = false := by decide) (he : starEach (e :: es) X.env = (false, eval e X.env) :: starEach es X.env := by rfl) (hpl : (backTo pos (starEach es X.env)).any (·.1) = false := by rfl) :
    EvX X (.Call (.Name x p) (e :: es) [] pos) Γ L R := .mk fun S q =>
  we_of (pe_call (E := E0) G hr hg hm hk hb .nil pass0 pa_w hdb he hpl) (h.run S fun vs ds H1 L1 ⟨y, Lk, e1, e2, r⟩ hl S1 => by
    subst e1
    refine ⟨y, _, _, by simp [hl], by rw [List.append_nil]; exact S1.into hl e2, fun d L' v H' σ Γ' hp S2 => ?_⟩
    exact q v d H' _ (r d L' hp) ((S1.args hl).2.back e2 S2))
/-- .. that is handed no own object -/
theorem ev_call0 {α : Type} {args : α → List D} {cells : α → Cells} {post : α → RD} {k : Nat} {f : Addr} {fd : FuncData} {ps : List Str} {x : Str} {p : Pos} (G : FnOk X.prog X.w X.K X.mg X.base CX0 k f fd ps (spD X.K args cells post)) (hr : Room k X.A)
    (hm : X.mg x = some (.ref f)) (hk : PySem.W.keepIn X.K (.ref f) = true) (hb : Binds X.K fd ps [])
    (h : AgX X (e :: es) Γ L fun ds L1 => ∃ x, ds = args x ∧ cells x = [] ∧ ∀ d L', post x d L' → R d (L' ++ L1)) (hg : Gl X x := by rfl)
    (hdb : (x == ("__debug__" : Str)) = false := by decide) (he : starEach (e :: es) X.env = (false, eval e X.env) :: starEach es X.env := by rfl) (hpl : (backTo pos (starEach es X.env)).any (·.1) = false := by rfl) :
    EvX X (.Call (.Name x p) (e :: es) [] pos) Γ L R :=
  ev_call G hr hm hk hb (.mk fun S q => h.run S fun vs ds H1 L1 ⟨y, e1, e2, r⟩ => q vs ds H1 L1 ⟨y, L1, e1, by rw [e2]; exact .refl _, r⟩) hg hdb he hpl
/-- a built-in function, a built-in type called -/
structure OpA (K : PySem.W.Frag) (r : List V → Hp → VK → Prop) (ds : List D) (L : Cells) (R : RD) : Prop where
  run : ∀ {B0 : Hp} {F : List Addr} {H : Hp} {σ : L2.St} {Γ : Gam} {ts vs : List V} {τ : List D} {Q : VK}, Sat K B0 F H σ Γ (vs ++ ts) (ds ++ τ) L → vs.length = ds.length →
    (∀ v d H' L', R d L' → Sat K B0 F H' σ Γ (v :: ts) (d :: τ) L' → Q v H') → r vs H Q
theorem ev_callB {id : String} {r : List V → Hp → VK → Prop} {x : Str} {p : Pos} (hc : CallR X (.builtin id) r) (hm : X.mg x = none) (hv : bootBuiltins x = some (.builtin id)) (h : AgX X (e :: es) Γ L fun ds L1 => OpA X.K r ds L1 R)
    (hg : Gl X x := by rfl) (hn : x ≠ "__name__" := by decide) (hdb : (x == ("__debug__" : Str)) = false := by decide)
    (he : starEach (e :: es) X.env = (false, eval e X.env) :: starEach es X.env := by rfl) (hpl : (backTo pos (starEach es X.env)).any (·.1) = false := by rfl) : EvX X (.Call (.Name x p) (e :: es) [] pos) Γ L R := .mk fun S q =>
  we_of (pe_callB hc hg hm hv pa_w hn hdb he hpl) (h.run S fun vs ds H1 L1 r hl S1 => r.run S1 hl q)
theorem ev_callTy {T : String} {r : List V → Hp → VK → Prop} {x : Str} {p : Pos} (hc : CallR X (.type T) r) (hm : X.mg x = none) (hv : bootBuiltins x = some (.type T)) (h : AgX X (e :: es) Γ L fun ds L1 => OpA X.K r ds L1 R)
    (hg : Gl X x := by rfl) (hn : x ≠ "__name__" := by decide) (hdb : (x == ("__debug__" : Str)) = false := by decide)
    (he : starEach (e :: es) X.env = (false, eval e X.env) :: starEach es X.env := by rfl) (hpl : (backTo pos (starEach es X.env)).any (·.1) = false := by rfl) : EvX X (.Call (.Name x p) (e :: es) [] pos) Γ L R := .mk fun S q =>
  we_of (pe_callTy hc hg hm hv pa_w hn hdb he hpl) (h.run S fun vs ds H1 L1 r hl S1 => r.run S1 hl q)
section
variable {K : PySem.W.Frag}
theorem ObL.one {B : Hp} {vs : List V} {d : D} (o : ObL K B vs [d]) : ∃ v, vs = [v] ∧ Ob K B v d := by
  cases o with
  | cons r t => cases t; exact ⟨_, rfl, r⟩
theorem ObL.two {B : Hp} {vs : List V} {d e : D} (o : ObL K B vs [d, e]) : ∃ v w, vs = [v, w] ∧ Ob K B v d ∧ Ob K B w e := by
  cases o with
  | cons r t =>
    obtain ⟨w, rfl, r2⟩ := t.one
    exact ⟨_, _, rfl, r, r2⟩
/-- len -/
theorem oa_lenS {d : D} {ds : List D} (h : d = .tup ds ∨ d = .lst ds) (r : R (.int ds.length) L) : OpA K (fun xs H Q => ∃ p ys, xs = [V.ref p] ∧ (SqL K H p ys ∨ SqT K H p ys) ∧ Q (.int ys.length) H) [d] L R := .mk fun {B0 F H σ Γ ts vs τ Q} S hl q => by
  obtain ⟨o, S2⟩ := S.args hl
  obtain ⟨v, rfl, o1⟩ := o.one
  rcases h with rfl | rfl
  · cases o1 with
    | tup s t => exact ⟨_, _, rfl, .inr (vis_le.sqT s), by rw [t.length]; exact q _ _ _ _ r (S2.push (.int _))⟩
  · cases o1 with
    | lst s t => exact ⟨_, _, rfl, .inl (vis_le.sqL s), by rw [t.length]; exact q _ _ _ _ r (S2.push (.int _))⟩
theorem oa_lenC {k : Nat} {a : Addr} {ds : List D} (hk : L[k]? = some (a, .lst ds)) (r : R (.int ds.length) L) : OpA K (fun xs H Q => ∃ p ys, xs = [V.ref p] ∧ (SqL K H p ys ∨ SqT K H p ys) ∧ Q (.int ys.length) H) [.ref a] L R := .mk fun {B0 F H σ Γ ts vs τ Q} S hl q => by
  obtain ⟨o, S2⟩ := S.args hl
  obtain ⟨v, rfl, o1⟩ := o.one
  cases o1
  obtain ⟨xs, hx, t⟩ := S2.cell hk
  exact ⟨_, _, rfl, .inl (SqL.of hx), by rw [t.length]; exact q _ _ _ _ r (S2.push (.int _))⟩
/-- tuple(list), tuple(tuple); list(..) -/
theorem oa_tuple {d : D} {ds : List D} (h : d = .tup ds ∨ d = .lst ds) (r : R (.tup ds) L) : OpA K (fun xs H Q => ∃ p ys, xs = [V.ref p] ∧ ((SqL K H p ys ∧ ∀ l, H l = none → Q (.ref l) (upd H l (.tup ys))) ∨ (SqT K H p ys ∧ Q (.ref p) H))) [d] L R := .mk fun {B0 F H σ Γ ts vs τ Q} S hl q => by
  obtain ⟨o, S2⟩ := S.args hl
  obtain ⟨v, rfl, o1⟩ := o.one
  rcases h with rfl | rfl
  · cases o1 with
    | tup s t => exact ⟨_, _, rfl, .inr ⟨vis_le.sqT s, q _ _ _ _ r (S2.push (.tup s t))⟩⟩
  · cases o1 with
    | lst s t =>
      refine ⟨_, _, rfl, .inl ⟨vis_le.sqL s, fun l hl => ?_⟩⟩
      obtain ⟨S3, le, hn⟩ := S2.newB hl
      exact q _ _ _ _ r (S3.push (.tup (SqT.of hn) (t.mono le)))
theorem oa_list {d : D} {ds : List D} (h : d = .tup ds ∨ d = .lst ds) (r : ∀ p, R (.ref p) (L ++ [(p, .lst ds)])) : OpA K (fun xs H Q => ∃ p ys, xs = [V.ref p] ∧ (SqL K H p ys ∨ SqT K H p ys) ∧ ∀ l, H l = none → Q (.ref l) (upd H l (.lst ys))) [d] L R := .mk fun {B0 F H σ Γ ts vs τ Q} S hl q => by
  obtain ⟨o, S2⟩ := S.args hl
  obtain ⟨v, rfl, o1⟩ := o.one
  have fin : ∀ (xs : List V), ObL K (vis H (F ++ adr L)) xs ds → ∀ l, H l = none → Q (.ref l) (upd H l (.lst xs)) := fun xs t l hl =>
    q _ _ _ _ (r l) ((S2.newC hl (o := .lst xs) (d := .lst ds) fun B le => ⟨xs, upd_same, t.mono le⟩).push (.ref l))
  rcases h with rfl | rfl
  · cases o1 with
    | tup s t => exact ⟨_, _, rfl, .inr (vis_le.sqT s), fin _ t⟩
  · cases o1 with
    | lst s t => exact ⟨_, _, rfl, .inl (vis_le.sqL s), fin _ t⟩
theorem all_bls {B : Hp} : ∀ {bs : List Bool} {vs : List V}, ObL K B vs (bs.map D.bl) → vs = bs.map V.bl
  | [], _, .nil => rfl
  | b :: bs, _, .cons r t => by
    cases r
    rw [all_bls t]; rfl
theorem oa_all {d : D} {bs : List Bool} (h : d = .lst (bs.map D.bl)) (r : R (.bl (bs.all id)) L) : OpA K (rAll K) [d] L R := .mk fun {B0 F H σ Γ ts vs τ Q} S hl q => by
  obtain ⟨o, S2⟩ := S.args hl
  obtain ⟨v, rfl, o1⟩ := o.one
  subst h
  cases o1 with
  | lst s t =>
    have e := all_bls t
    subst e
    exact ⟨_, bs, rfl, vis_le.sqL s, q _ _ _ _ r (S2.push (.bl _))⟩
theorem oa_int {i : Int} (r : R (.int i) L) : OpA K (fun xs H Q => (∃ i, xs = [V.int i] ∧ Q (.int i) H) ∨ ∃ k, xs = [V.bl k] ∧ Q (.int (if k then 1 else 0)) H) [.int i] L R := .mk fun {B0 F H σ Γ ts vs τ Q} S hl q => by
  obtain ⟨o, S2⟩ := S.args hl
  obtain ⟨v, rfl, o1⟩ := o.one
  cases o1
  exact .inl ⟨i, rfl, q _ _ _ _ r (S2.push (.int i))⟩
theorem oa_intB {b : Bool} (r : R (.int (if b then 1 else 0)) L) : OpA K (fun xs H Q => (∃ i, xs = [V.int i] ∧ Q (.int i) H) ∨ ∃ k, xs = [V.bl k] ∧ Q (.int (if k then 1 else 0)) H) [.bl b] L R := .mk fun {B0 F H σ Γ ts vs τ Q} S hl q => by
  obtain ⟨o, S2⟩ := S.args hl
  obtain ⟨v, rfl, o1⟩ := o.one
  cases o1
  exact .inr ⟨b, rfl, q _ _ _ _ r (S2.push (.int _))⟩
theorem oa_abs {i : Int} (r : R (.int (if i < 0 then -i else i)) L) : OpA K (fun xs H Q => ∃ i, xs = [V.int i] ∧ Q (.int (if i < 0 then -i else i)) H) [.int i] L R := .mk fun {B0 F H σ Γ ts vs τ Q} S hl q => by
  obtain ⟨o, S2⟩ := S.args hl
  obtain ⟨v, rfl, o1⟩ := o.one
  cases o1
  exact ⟨i, rfl, q _ _ _ _ r (S2.push (.int _))⟩
theorem oa_max {i j : Int} (r : R (.int (if j > i then j else i)) L) : OpA K (fun xs H Q => ∃ i j, xs = [V.int i, V.int j] ∧ Q (.int (if j > i then j else i)) H) [.int i, .int j] L R := .mk fun {B0 F H σ Γ ts vs τ Q} S hl q => by
  obtain ⟨o, S2⟩ := S.args hl
  obtain ⟨v, w, rfl, o1, o2⟩ := o.two
  cases o1
  cases o2
  exact ⟨i, j, rfl, q _ _ _ _ r (S2.push (.int _))⟩
theorem oa_min {i j : Int} (r : R (.int (if j < i then j else i)) L) : OpA K (fun xs H Q => ∃ i j, xs = [V.int i, V.int j] ∧ Q (.int (if j < i then j else i)) H) [.int i, .int j] L R := .mk fun {B0 F H σ Γ ts vs τ Q} S hl q => by
  obtain ⟨o, S2⟩ := S.args hl
  obtain ⟨v, w, rfl, o1, o2⟩ := o.two
  cases o1
  cases o2
  exact ⟨i, j, rfl, q _ _ _ _ r (S2.push (.int _))⟩
end
/-! ### a def keeps its promise -/
/-- the context of a def's body -/
abbrev CxF (P : Program) (w : World) (K : PySem.W.Frag) (mg : Str → Option Value) (base : Heap) (N : List Str) (qual : Str) (scope : Scope) (f : Addr) (cd : Value) (A : Around) (outer : List Env) (s : Shared) (H : Hp) (E : XK) : Cx := (cxOf CX0 P w K mg base N qual scope f cd A outer s H E).nox
theorem fn_ok {P : Program} {w : World} {K : PySem.W.Frag} {mg : Str → Option Value} {base : Heap} {α : Type} {args : α → List D} {cells : α → Cells} {post : α → RD} {x qual : Str} {params : Arguments} {body : List Stmt} {scope : Scope} {f : Addr} {fd : FuncData} {N ps : List Str} {k : Nat} {kws : List (Str × V)}
    (G : FunD K x qual params body scope [] kws f fd) (S : FnScope N ps scope) (len : ∀ x, (args x).length = ps.length) (hN : ps.length ≤ N.length)
    (hbody : ∀ (cdv : Value) (A : Around) (outer : List Env) (s : Shared) (H : Hp) (E : XK), Room k (CxF P w K mg base N qual scope f cdv A outer s H E).A → ∀ x : α,
      BlX (CxF P w K mg base N qual scope f cdv A outer s H E) body ((args x).map some ++ List.replicate (N.length - ps.length) none) (cells x) { nx := fun _ L => post x .non L, rt := post x }) :
    FnOk P w K mg base CX0 (k + 1) f fd ps (spD K args cells post) := by
  refine G.ok S (fun vs H Q E h => ?_) (fun cdv A outer s H vs Q E hr h => ?_)
  · obtain ⟨x, B0, F, e, _⟩ := h
    exact e.trans (len x)
  · obtain ⟨x, B0, F, e, S1, k1⟩ := h
    refine ⟨WSs (CxF P w K mg base N qual scope f cdv A outer s H E) body, PSs.nox pss_w, ?_⟩
    have hl := S1.temps.length
    have S2 : Sat K B0 F H (L2.start N vs) ((args x).map some ++ List.replicate (N.length - ps.length) none) [] [] (cells x) := by
      refine ⟨S1.base, S1.fo, S1.nd, S1.cells, by simp [L2.start, e, len x], fun i d hd => ?_, .nil⟩
      by_cases hi : i < (args x).length
      · rw [List.getElem?_append_left (by simpa using hi), List.getElem?_map] at hd
        cases hq : (args x)[i]? with
        | none => rw [hq] at hd; cases hd
        | some d' =>
          rw [hq] at hd
          cases hd
          obtain ⟨v, e1, o⟩ := S1.temps.get hq
          refine ⟨v, ?_, o⟩
          unfold L2.start
          rw [List.getElem?_append_left (by simpa [e] using hi), List.getElem?_map, e1]
          rfl
      · rw [List.getElem?_append_right (by simp; omega)] at hd
        have := List.mem_of_getElem? hd
        simp at this
    refine (hbody cdv A outer s H E hr x).run S2 ⟨fun Γ L σ H' q S3 => k1 _ _ _ _ _ _ q (S3.push .non), fun d L v σ Γ H' q S3 => k1 _ _ _ _ _ _ q S3, fun _ _ _ _ q _ => q.elim, fun _ _ _ _ q _ => q.elim⟩
end
end DL
set_option maxRecDepth 100000
set_option maxHeartbeats 4000000
/-! DL4: isinstance, slices, attributes, methods, instances, dicts, lists. -/
namespace DL
open PySem PySem.Spec PyProof.Rows L2
section
variable {X : Cx} {Γ : Gam} {L : Cells} {R : RD} {e o a b : Expr} {es : List Expr} {pos : Pos} {E : En}
theorem ev_bltn {x : Str} {T : String} (hm : X.mg x = none) (hv : bootBuiltins x = some (.type T)) (r : R (.ty T) L) (hg : Gl X x := by rfl) (hn : x ≠ "__name__" := by decide) (hd : (x == ("__debug__" : Str)) = false := by decide) :
    EvX X (.Name x pos) Γ L R := .mk fun S q => we_of (pe_bltn (v := .ty T) hg hm hv rfl hn hd) (q _ _ _ _ r (S.push (.ty T)))
/-- a class, a def of the module as a value -/
theorem ev_gref {x : Str} {c : Addr} (hm : X.mg x = some (.ref c)) (r : R (.ref c) L) (hg : Gl X x := by rfl) (hd : (x == ("__debug__" : Str)) = false := by decide) : EvX X (.Name x pos) Γ L R := .mk fun S q =>
  we_of (pe_glob (v := .ref c) hg hm rfl hd) (q _ _ _ _ r (S.push (.ref c)))
/-- a module's tuple -/
theorem ev_gtup {x : Str} {c : Addr} {ds : List D} (hm : X.mg x = some (.ref c)) (ht : ∀ B, Ob X.K B (.ref c) (.tup ds)) (r : R (.tup ds) L) (hg : Gl X x := by rfl) (hd : (x == ("__debug__" : Str)) = false := by decide) : EvX X (.Name x pos) Γ L R := .mk fun S q =>
  we_of (pe_glob (v := .ref c) hg hm rfl hd) (q _ _ _ _ r (S.push (ht _)))
/-! ### isinstance -/
/-- the built-in type of data -/
def D.typ : D → Option String
  | .non => some "NoneType"
  | .bl _ => some "bool"
  | .int _ => some "int"
  | .str _ => some "str"
  | .tup _ => some "tuple"
  | .lst _ => some "list"
  | .dct _ _ => some "dict"
  | _ => none
theorem Ob.tyX {K : PySem.W.Frag} {B H : Hp} (le : Le B H) {v : V} {d : D} {T : String} (o : Ob K B v d) (h : d.typ = some T) : TyX K H v (.type T) := by
  cases o with
  | non => cases h; exact .base .non
  | bl b => cases h; exact .base (.bl b)
  | int i => cases h; exact .base (.int i)
  | str x => cases h; exact .base (.str x)
  | ref a => cases h
  | ty n => cases h
  | tup s t =>
    cases h
    rcases le.sqT s with (s | ⟨o, s⟩) | ⟨o, its, n, h1, h2, _⟩
    · exact .base (.tup s)
    · exact .fTuple s
    · exact .kTuple h1 h2
  | lst s t =>
    cases h
    rcases le.sqL s with (s | ⟨o, s⟩) | ⟨o, its, n, h1, h2, _⟩
    · exact .base (.lst s)
    · exact .base (.frz s)
    · exact .kList h1 h2
  | dct s e t =>
    cases h
    rcases le.rd _ _ s with s | ⟨o, s⟩
    · exact .base (.dK s)
    · exact .fDict s
  | ins s e t => cases h
  | raw s e t => cases h
  | kdc s e t => cases h
/-- what an own class must have for isinstance of its instances -/
structure Isi (K : PySem.W.Frag) (C : Addr) : Prop where
  cl : Cls K C
  ha : PySem.W.findIn K (.ref C) "__class__" = some (some (.builtin "object.__class__"))
  hn : PySem.W.specialIn K (.builtin "object.__class__") "__get__" = some (some (.builtin "getset_descriptor.__get__"))
  htk : PySem.W.takesIn K (.builtin "object.__class__") = some true
  hm : PySem.W.mroIn K C (.type "object") = some true
theorem oa_isi {K : PySem.W.Frag} {d : D} {T T2 : String} {k : Bool} (h : d.typ = some T) (hk : kitB T T2 = some k) (r : R (.bl k) L) : OpA K (rIsi K) [d, .ty T2] L R := .mk fun {B0 F H σ Γ ts vs τ Q} S hl q => by
  obtain ⟨o, S2⟩ := S.args hl
  obtain ⟨v, w, rfl, o1, o2⟩ := o.two
  cases o2
  exact ⟨v, _, _, _, k, rfl, .ty T2, o1.tyX vis_le h, kit_ty hk, q _ _ _ _ r (S2.push (.bl k))⟩
/-- of an instance, an own class -/
theorem oa_isiI {K : PySem.W.Frag} {C C2 : Addr} {ns : List Str} {ds : List D} {k : Bool} (c : Isi K C) (hk : PySem.W.kitOne K (.ref C) (.ref C2) = some k) (r : R (.bl k) L) : OpA K (rIsi K) [.ins C ns ds, .ref C2] L R := .mk fun {B0 F H σ Γ ts vs τ Q} S hl q => by
  obtain ⟨o, S2⟩ := S.args hl
  obtain ⟨v, w, rfl, o1, o2⟩ := o.two
  cases o2
  cases o1 with
  | ins s e t => exact ⟨_, _, _, _, k, rfl, .own C2, .base (.ins (vis_le.ins _ _ _ _ s) c.cl c.ha c.hn c.htk c.hm), hk, q _ _ _ _ r (S2.push (.bl k))⟩
/-- of built-in data, an own class -/
theorem oa_isiO {K : PySem.W.Frag} {C2 : Addr} {d : D} {T : String} {k : Bool} (h : d.typ = some T) (hk : PySem.W.kitOne K (.type T) (.ref C2) = some k) (r : R (.bl k) L) : OpA K (rIsi K) [d, .ref C2] L R := .mk fun {B0 F H σ Γ ts vs τ Q} S hl q => by
  obtain ⟨o, S2⟩ := S.args hl
  obtain ⟨v, w, rfl, o1, o2⟩ := o.two
  cases o2
  exact ⟨_, _, _, _, k, rfl, .own C2, o1.tyX vis_le h, hk, q _ _ _ _ r (S2.push (.bl k))⟩
/-! ### slices -/
def WO (X : Cx) (e : Option Expr) : TO := fun σ H Q => ∀ (pins : List (Addr × Obj)) (s : Shared), Inv X pins σ H s → wpAny (model X.prog X.w) X.A (evalPart e X.env) (fun u s' => ∃ o H', Inv X pins σ H' s' ∧ IsPart u o ∧ Q o H') X.xe s
theorem po_w {e : Option Expr} : PO X e (WO X e) := ⟨fun pins s σ H Q I h => h pins s I⟩
structure PoX (X : Cx) (e : Option Expr) (Γ : Gam) (L : Cells) (R : Option Int → Cells → Prop) : Prop where
  run : ∀ {B0 : Hp} {F : List Addr} {H : Hp} {σ : L2.St} {ts : List V} {τ : List D} {Q : Option Int → Hp → Prop}, Sat X.K B0 F H σ Γ ts τ L →
    (∀ o H' L', R o L' → Sat X.K B0 F H' σ Γ ts τ L' → Q o H') → WO X e σ H Q
theorem po_no {R : Option Int → Cells → Prop} (r : R none L) : PoX X none Γ L R := .mk fun S q pins s I => po_none.run pins s _ _ _ I (q _ _ _ r S)
theorem po_so {R : Option Int → Cells → Prop} (h : EvX X e Γ L fun d L1 => ∃ i, d = .int i ∧ R (some i) L1) : PoX X (some e) Γ L R := .mk fun S q pins s I => (po_some pe_w).run pins s _ _ _ I (h.run S fun v d H' L' ⟨i, ed, r⟩ S' => by
  subst ed
  cases S'.top
  exact ⟨i, rfl, q _ _ _ r S'.pop⟩)
structure Sl1 (K : PySem.W.Frag) (r : V → Option Int → Option Int → Hp → VK → Prop) (d : D) (lo hi : Option Int) (L : Cells) (R : RD) : Prop where
  run : ∀ {B0 : Hp} {F : List Addr} {H : Hp} {σ : L2.St} {Γ : Gam} {ts : List V} {τ : List D} {x : V} {Q : VK}, Sat K B0 F H σ Γ (x :: ts) (d :: τ) L →
    (∀ v d H' L', R d L' → Sat K B0 F H' σ Γ (v :: ts) (d :: τ) L' → Q v H') → r x lo hi H Q
theorem ev_sl {r : V → Option Int → Option Int → Hp → VK → Prop} {lo hi : Option Expr} {p2 : Pos} (hr : SlR X r) (h : EvX X e Γ L fun d L1 => PoX X lo Γ L1 fun l L2 => PoX X hi Γ L2 fun u L3 => Sl1 X.K r d l u L3 R) : EvX X (.Subscript e (.Slice lo hi none p2) pos) Γ L R := .mk fun S q =>
  we_of (pe_slice hr pe_w po_w po_w) (h.run S fun v d H1 L1 h1 S1 => h1.run S1 fun l H2 L2 h2 S2 => h2.run S2 fun u H3 L3 h3 S3 => h3.run S3 q)
def cutD (ds : List D) (lo hi : Option Int) : List D := (ds.drop (HT.sIx ds.length 0 lo)).take (HT.sIx ds.length ds.length hi - HT.sIx ds.length 0 lo)
theorem cutD_from (ds : List D) (k : Nat) : cutD ds (some (k : Int)) none = ds.drop k := by
  unfold cutD
  rw [HT.sIx_nat, HT.sIx_none]
  by_cases h : k ≤ ds.length
  · rw [Nat.min_eq_left h, List.take_of_length_le]; simp
  · rw [Nat.min_eq_right (by omega), List.drop_of_length_le (l := ds) (i := ds.length) (Nat.le_refl _), List.drop_of_length_le (l := ds) (i := k) (by omega)]; simp
theorem cutD_to (ds : List D) (k : Nat) : cutD ds none (some (k : Int)) = ds.take k := by
  unfold cutD
  rw [HT.sIx_nat, HT.sIx_none, List.drop_zero, Nat.sub_zero]
  by_cases h : k ≤ ds.length
  · rw [Nat.min_eq_left h]
  · rw [Nat.min_eq_right (by omega), List.take_of_length_le (Nat.le_refl _), List.take_of_length_le (by omega)]
theorem ObL.cut {K : PySem.W.Frag} {B : Hp} {vs : List V} {ds : List D} (h : ObL K B vs ds) (lo hi : Option Int) : ObL K B (cutV vs lo hi) (cutD ds lo hi) := by
  unfold cutV cutD
  rw [h.length]
  exact (h.drop _).take _
theorem s1_tup {K : PySem.W.Frag} {ds : List D} {lo hi : Option Int} (r : R (.tup (cutD ds lo hi)) L) : Sl1 K (rSlA K) (.tup ds) lo hi L R := .mk fun {B0 F H σ Γ ts τ x Q} S q => by
  cases S.top with
  | tup s t =>
    refine ⟨_, _, rfl, vis_le.sqT s, fun hw => ?_, fun hw p hp => ?_⟩
    · have e : cutD ds lo hi = ds := by
        unfold cutD
        rw [t.length] at hw
        rw [hw.1, hw.2]
        simp
      rw [e] at r
      exact q _ _ _ _ r S
    · obtain ⟨S3, le, hn⟩ := S.pop.newB hp
      exact q _ _ _ _ r (S3.push (.tup (SqT.of hn) ((t.cut lo hi).mono le)))
/-- xs[::-1], a list: a new list of one's own -/
theorem ev_rev {k : Nat} {p1 p2 p3 : Pos} (h : EvX X e Γ L fun d L1 => ∃ ds, d = .lst ds ∧ ∀ p, R (.ref p) (L1 ++ [(p, .lst ds.reverse)])) : EvX X (.Subscript e (.Slice none none (some (.UnaryOp .USub (.Constant (.int 1) k p1) p2)) p3) pos) Γ L R := .mk fun S q =>
  we_of (pe_revL pe_w) (h.run S fun v d H1 L1 ⟨ds, ed, r⟩ S1 => by
    subst ed
    cases S1.top with
    | lst s t => exact ⟨_, _, rfl, vis_le.sqL s, fun p hp => q _ _ _ _ (r p) ((S1.pop.newC hp (o := .lst _) (d := .lst ds.reverse) fun B le => ⟨_, upd_same, (t.mono le).reverse⟩).push (.ref p))⟩)
/-- t + u, tuples -/
theorem o2_catT {K : PySem.W.Frag} {ds es : List D} (z : ds.length + es.length ≤ sizeLine) (r : R (.tup (ds ++ es)) L) : Op2 K (rCatA K) (.tup ds) (.tup es) L R := .mk fun {B0 F H σ Γ ts τ x y Q} S q => by
  obtain ⟨o1, o2, S2⟩ := S.two
  cases o1 with
  | tup s1 t1 =>
    cases o2 with
    | tup s2 t2 =>
      refine ⟨_, _, _, _, rfl, rfl, vis_le.sqT s1, vis_le.sqT s2, by rw [t1.length, t2.length]; exact z, fun e => ?_, fun _ e => ?_, fun _ _ p hp => ?_⟩
      · subst e
        cases t1
        exact q _ _ _ _ r (S2.push (.tup s2 t2))
      · subst e
        cases t2
        rw [List.append_nil] at r
        exact q _ _ _ _ r (S2.push (.tup s1 t1))
      · obtain ⟨S3, le, hn⟩ := S2.newB hp
        exact q _ _ _ _ r (S3.push (.tup (SqT.of hn) ((t1.append t2).mono le)))
/-- list + list: both frozen (tracked), a new own list -/
theorem o2_catL {K : PySem.W.Frag} {ds es : List D} {k1 k2 : Nat} {a1 a2 : Addr} (h1 : L[k1]? = some (a1, .lst ds)) (h2 : L[k2]? = some (a2, .lst es)) (z : ds.length + es.length ≤ sizeLine) (r : ∀ p, R (.ref p) (L ++ [(p, .lst (ds ++ es))])) : Op2 K rCat (.ref a1) (.ref a2) L R := .mk fun {B0 F H σ Γ ts τ x y Q} S q => by
  obtain ⟨o1, o2, S2⟩ := S.two
  cases o1
  cases o2
  obtain ⟨xs, hx, t1⟩ := S2.cell h1
  obtain ⟨ys, hy, t2⟩ := S2.cell h2
  exact ⟨_, _, _, _, rfl, rfl, hx, hy, by rw [t1.length, t2.length]; exact z, fun p hp => q _ _ _ _ (r p) ((S2.newC hp (o := .lst _) (d := .lst (ds ++ es)) fun B le => ⟨_, upd_same, (t1.append t2).mono le⟩).push (.ref p))⟩
/-! ### attributes -/
theorem ObL.look {K : PySem.W.Frag} {B : Hp} {f : Str} {d : D} : ∀ {ns : List Str} {xs : List V} {ds : List D}, ns.length = xs.length → ObL K B xs ds → (ns.zip ds).lookup f = some d → ∃ v, (ns.zip xs).lookup f = some v ∧ Ob K B v d
  | [], [], _, _, .nil, h => by cases h
  | n :: ns, x :: xs, _, l, .cons r t, h => by
    rw [List.zip_cons_cons, List.lookup_cons] at h ⊢
    cases e : (f == n) with
    | true =>
      rw [e] at h
      cases h
      exact ⟨x, rfl, r⟩
    | false =>
      rw [e] at h
      exact ObL.look (by simpa using l) t h
theorem ev_fld {f : Str} (h : EvX X e Γ L fun d L1 => ∃ (C : Addr) (ns : List Str) (ds : List D) (d' : D), d = .ins C ns ds ∧ Cls X.K C ∧ NoAttr X.K C f ∧ (ns.zip ds).lookup f = some d' ∧ R d' L1) (hb : attributeBase e f X.env (eval e X.env) = eval e X.env := by rfl) : EvX X (.Attribute e f pos) Γ L R := .mk fun S q =>
  we_of (pe_fld pe_w hb) (h.run S fun v d H1 L1 ⟨C, ns, ds, d', ed, c, n, l, r⟩ S1 => by
    subst ed
    cases S1.top with
    | ins s e t =>
      obtain ⟨u, hu, o⟩ := t.look e l
      exact ⟨_, C, _, _, u, rfl, vis_le.ins _ _ _ _ s, c, n, hu, q _ _ _ _ r (S1.pop.push o)⟩)
/-- of an own instance -/
theorem ev_fldC {f : Str} (h : EvX X e Γ L fun d L1 => ∃ (k : Nat) (a C : Addr) (ns : List Str) (ds : List D) (d' : D), d = .ref a ∧ L1[k]? = some (a, .ins C ns ds) ∧ Cls X.K C ∧ NoAttr X.K C f ∧ (ns.zip ds).lookup f = some d' ∧ R d' L1) (hb : attributeBase e f X.env (eval e X.env) = eval e X.env := by rfl) : EvX X (.Attribute e f pos) Γ L R := .mk fun S q =>
  we_of (pe_fld pe_w hb) (h.run S fun v d H1 L1 ⟨k, a, C, ns, ds, d', ed, hk, c, n, l, r⟩ S1 => by
    subst ed
    cases S1.top
    obtain ⟨dx, xs, hx, hl, t⟩ := S1.cell hk
    obtain ⟨u, hu, o⟩ := t.look hl l
    exact ⟨_, C, _, _, u, rfl, hx, c, n, hu, q _ _ _ _ r (S1.pop.push o)⟩)
/-- names, values behind a store -/
def putN (f : Str) : List Str → List Str
  | [] => [f]
  | n :: ns => if n = f then n :: ns else n :: putN f ns
def putD (f : Str) (d : D) : List Str → List D → List D
  | n :: ns, e :: ds => if n = f then d :: ds else e :: putD f d ns ds
  | _, _ => [d]
theorem putF_zip {K : PySem.W.Frag} {B : Hp} {f : Str} {v : V} {d : D} (o : Ob K B v d) : ∀ {ns : List Str} {xs : List V} {ds : List D}, ns.length = xs.length → ObL K B xs ds →
    ∃ ys, putF f v (ns.zip xs) = (putN f ns).zip ys ∧ (putN f ns).length = ys.length ∧ ObL K B ys (putD f d ns ds)
  | [], [], _, _, .nil => ⟨[v], rfl, rfl, .cons o .nil⟩
  | n :: ns, x :: xs, e :: ds, l, .cons r t => by
    unfold putN putD
    by_cases h : n = f
    · refine ⟨v :: xs, ?_, ?_, ?_⟩
      · rw [List.zip_cons_cons, if_pos h, List.zip_cons_cons]
        show (if n = f then _ else _) = _
        rw [if_pos h, h]
      · rw [if_pos h]; simpa using l
      · rw [if_pos h]; exact .cons o t
    · obtain ⟨ys, e1, e2, e3⟩ := putF_zip (f := f) (v := v) o (ns := ns) (xs := xs) (ds := ds) (by simpa using l) t
      refine ⟨x :: ys, ?_, ?_, ?_⟩
      · rw [List.zip_cons_cons, if_neg h, List.zip_cons_cons]
        show (if n = f then _ else _) = _
        rw [if_neg h, e1]
      · rw [if_neg h]; simpa using e2
      · rw [if_neg h]; exact .cons r e3
theorem st_fld {f : Str} {pos' : Pos} (h : EvX X e Γ L fun d L1 => EvX X o Γ L1 fun d2 L2 => ∃ (k : Nat) (a C : Addr) (ns : List Str) (ds : List D), d2 = .ref a ∧ L2[k]? = some (a, .ins C ns ds) ∧ Cls X.K C ∧ NoAttr X.K C f ∧ ns.length < 1000 ∧ E.nx Γ (L2.set k (a, .ins C (putN f ns) (putD f d ns ds))))
    (hs : swapsWith e (some (.Attribute o f pos')) pos.line X.env = pure false := by rfl) : StX X (.Assign [.Attribute o f pos'] e pos) Γ L E := .mk fun S ok =>
  ws_of (ps_fld pe_w pe_w hs) (h.run S fun v d H1 L1 h1 S1 => h1.run S1 fun v2 d2 H2 L2 ⟨k, a, C, ns, ds, ed, hk, c, n, hl, r⟩ S2 => by
    subst ed
    obtain ⟨o1, o2, S3⟩ := S2.two
    cases o2
    obtain ⟨dx, xs, hx, hlen, t⟩ := S3.cell hk
    obtain ⟨ys, e1, e2, e3⟩ := putF_zip (f := f) o1 hlen t
    refine ⟨_, C, dx, _, rfl, hx, c, n, by simp [hlen] at hl ⊢; omega, ok.nx _ _ _ _ r ?_⟩
    refine S3.write hk ⟨dx, ys, ?_, e2, e3⟩
    rw [e1]
    exact upd_same)
/-! ### own methods, own classes -/
theorem lookup_none_zip {f : Str} : ∀ {ns : List Str} {xs : List V}, f ∉ ns → (ns.zip xs).lookup f = none
  | [], _, _ => rfl
  | _ :: _, [], _ => rfl
  | n :: ns, x :: xs, h => by
    rw [List.zip_cons_cons, List.lookup_cons]
    have h1 : (f == n) = false := by
      rw [beq_eq_false_iff_ne]
      exact fun e => h (by rw [e]; exact List.mem_cons_self)
    rw [h1]
    exact lookup_none_zip fun q => h (List.mem_cons_of_mem _ q)
/-- o.m(e, ..), o a frozen instance -/
theorem ev_meth {α : Type} {args : α → List D} {cells : α → Cells} {post : α → RD} {k : Nat} {f C : Addr} {fd : FuncData} {ps : List Str} {m : Str} {apos : Pos} {pl : Sem Bool} (c : Cls X.K C) (hm : Meth X.K C m f)
    (G : FnOk X.prog X.w X.K X.mg X.base CX0 k f fd ps (spD X.K args cells post)) (hr : Room k X.A) (hb : Binds X.K fd ps [])
    (h : EvX X o Γ L fun d0 L0 => ∃ ns ds0, d0 = .ins C ns ds0 ∧ m ∉ ns ∧ AgX X (e :: es) Γ L0 fun ds L1 => ∃ x, d0 :: ds = args x ∧ cells x = [] ∧ ∀ d L', post x d L' → R d (L' ++ L1))
    (hst : starEach (e :: es) X.env = (false, eval e X.env) :: starEach es X.env := by rfl) (hpl : (backTo pos (starEach es X.env)).any (·.1) = false := by rfl)
    (ht : eval (.Call (.Attribute o m apos) (e :: es) [] pos) X.env = (do
      let ov ← eval o X.env
      standAt apos.atName
      let (f, first) ← holding [ov] (getMethod ov m pl)
      callWith pos f first (backTo pos (starEach (e :: es) X.env)) (backToKw pos (keywordEach [] X.env))) := by rfl) :
    EvX X (.Call (.Attribute o m apos) (e :: es) [] pos) Γ L R := .mk fun S q =>
  we_of (pe_meth (E := E0) (pl := pl) pe_w c hm G hr hb .nil pass0 pa_w hst hpl ht) (h.run S fun v0 d0 H0 L0 ⟨ns, ds0, ed, hn, h1⟩ S0 => by
    subst ed
    have o0 := S0.top
    cases o0 with
    | @ins a0 _ dx0 _ xs0 _ s hl t =>
      refine ⟨a0, dx0, _, rfl, vis_le.ins _ _ _ _ s, lookup_none_zip hn, h1.run S0 fun vs ds H1 L1 ⟨x, e1, e2, r⟩ hl1 S1 => ?_⟩
      have S1' : Sat X.K _ _ H1 _ Γ ((V.ref a0 :: vs) ++ _) ((D.ins C ns ds0 :: ds) ++ _) L1 := ⟨S1.base, S1.fo, S1.nd, S1.cells, S1.len, S1.slots, ObL.swap hl1 S1.temps⟩
      have hl2 : (V.ref a0 :: vs).length = (D.ins C ns ds0 :: ds).length := by simp [hl1]
      have hp : L1.Perm (cells x ++ L1) := by rw [e2]; exact .refl _
      rw [e1] at S1' hl2
      refine ⟨x, _, _, by simp only [List.append_nil]; exact hl2, by rw [List.append_nil]; exact S1'.into hl2 hp, fun d L' v H' σ Γ' hq S2 => ?_⟩
      exact q v d H' _ (r d L' hq) ((S1'.args hl2).2.back hp S2))
/-- C(e, ..): a new instance, its __init__; it is given up (frozen) -/
theorem ev_make {α : Type} {args : α → List D} {cells : α → Cells} {post : α → RD} {k : Nat} {f C : Addr} {fd : FuncData} {ps : List Str} {x : Str} {p : Pos} (M : Mk X.K C f)
    (G : FnOk X.prog X.w X.K X.mg X.base CX0 k f fd ps (spD X.K args cells post)) (hr : Room (k + 1) X.A) (hm : X.mg x = some (.ref C)) (hb : Binds X.K fd ps [])
    (h : AgX X (e :: es) Γ L fun ds L1 => ∀ a, ∃ x, .ref a :: ds = args x ∧ cells x = [(a, .ins C [] [])] ∧ ∀ d L', post x d L' → d = .non ∧ ∃ d1, L' = [(a, d1)] ∧ R d1 L1) (hg : Gl X x := by rfl)
    (hdb : (x == ("__debug__" : Str)) = false := by decide) (he : starEach (e :: es) X.env = (false, eval e X.env) :: starEach es X.env := by rfl) (hpl : (backTo pos (starEach es X.env)).any (·.1) = false := by rfl) :
    EvX X (.Call (.Name x p) (e :: es) [] pos) Γ L R := .mk fun S q =>
  we_of (pe_make (E := E0) M G hr hg hm hb .nil pass0 pa_w hdb he hpl) (h.run S fun vs ds H1 L1 h1 hl S1 => by
    intro a dx ha hdx hne
    obtain ⟨y, e1, e2, r⟩ := h1 a
    have hdx' : upd H1 dx (HO.own a) a = none := by rw [upd_ne (Ne.symm hne)]; exact ha
    obtain ⟨S2, _, _⟩ := S1.newB (o := .own a) hdx
    have S3 := S2.newC (o := .ins C dx []) (d := .ins C [] []) hdx' fun B le => ⟨dx, [], upd_same, rfl, .nil⟩
    have S4 : Sat X.K _ _ _ _ Γ ((.ref a :: vs) ++ _) ((.ref a :: ds) ++ _) (L1 ++ [(a, .ins C [] [])]) := S3.push (.ref a)
    have hl2 : (V.ref a :: vs).length = (D.ref a :: ds).length := by simp [hl]
    have hp : (L1 ++ [(a, D.ins C [] [])]).Perm (cells y ++ L1) := by rw [e2]; exact List.perm_append_comm
    rw [e1] at S4 hl2
    refine ⟨y, _, _, by simp only [List.append_nil]; exact hl2, by rw [List.append_nil]; exact S4.into hl2 hp, fun d L' v H' σ Γ' hq S5 => ?_⟩
    obtain ⟨ed, d1, eL, r1⟩ := r d L' hq
    subst ed eL
    have S6 := (S3.args hl).2.back (v := v) (d := .non) hp S5
    refine ⟨by cases S6.top; rfl, ?_⟩
    have S7 := (S6.pop.push (.ref a)).freezeTop (k := 0) rfl
    exact q _ _ _ _ r1 S7)
end
end DL
set_option maxRecDepth 100000
set_option maxHeartbeats 4000000
/-! DL5: methods of lists; dicts. -/
namespace DL
open PySem PySem.Spec PyProof.Rows L2
section
variable {X : Cx} {Γ : Gam} {L : Cells} {R : RD} {e o a b f : Expr} {es : List Expr} {pos apos : Pos} {E : En}
/-! ### methods of built-in types -/
structure TyD (K : PySem.W.Frag) (T : String) (d : D) (L : Cells) : Prop where
  run : ∀ {B0 : Hp} {F : List Addr} {H : Hp} {σ : L2.St} {Γ : Gam} {ts : List V} {τ : List D} {x : V}, Sat K B0 F H σ Γ (x :: ts) (d :: τ) L → tyV K T x H
structure OpM (K : PySem.W.Frag) (r : V → List V → Hp → VK → Prop) (d : D) (ds : List D) (L : Cells) (R : RD) : Prop where
  run : ∀ {B0 : Hp} {F : List Addr} {H : Hp} {σ : L2.St} {Γ : Gam} {ts vs : List V} {τ : List D} {x : V} {Q : VK}, Sat K B0 F H σ Γ (vs ++ x :: ts) (ds ++ d :: τ) L → vs.length = ds.length →
    (∀ v d H' L', R d L' → Sat K B0 F H' σ Γ (v :: ts) (d :: τ) L' → Q v H') → r x vs H Q
theorem ev_bm {T id : String} {name : Str} {r : V → List V → Hp → VK → Prop} (pa : PlainAttrs T) (slot : Slot T name id) (hty : typeOf (.builtin id) = pure (.type "method_descriptor")) (hm : MtR X id r)
    (h : EvX X o Γ L fun d L1 => TyD X.K T d L1 ∧ AgX X (e :: es) Γ L1 fun ds L2 => OpM X.K r d ds L2 R)
    (hbase : attributeBase o name X.env (eval o X.env) = eval o X.env := by rfl)
    (hfew : ((backTo pos (starEach (e :: es) X.env)).all (fun x => !x.1) && (backToKw pos (keywordEach [] X.env)).all (fun x => x.1.isSome)
      && decide ((e :: es).length + ([] : List Keyword).length + (if ([] : List Keyword).isEmpty then 0 else 1) < 30)) = true := by rfl)
    (hline : (apos.endLine == pos.line) = true := by rfl) (hs : starEach (e :: es) X.env = (false, eval e X.env) :: starEach es X.env := by rfl) (hplain : (backTo pos (starEach es X.env)).any (·.1) = false := by rfl) :
    EvX X (.Call (.Attribute o name apos) (e :: es) [] pos) Γ L R := .mk fun S q =>
  we_of (pe_bm pa slot hty hm pe_w pa_w hbase hfew hline hs hplain) (h.run S fun v d H1 L1 ⟨ty, h1⟩ S1 => ⟨ty.run S1, h1.run S1 fun vs ds H2 L2 h2 hl S2 => h2.run S2 hl q⟩)
theorem ev_bm0 {T id : String} {name : Str} {r : V → List V → Hp → VK → Prop} (pa : PlainAttrs T) (slot : Slot T name id) (hty : typeOf (.builtin id) = pure (.type "method_descriptor")) (hm : MtR X id r)
    (h : EvX X o Γ L fun d L1 => TyD X.K T d L1 ∧ OpM X.K r d [] L1 R)
    (hbase : attributeBase o name X.env (eval o X.env) = eval o X.env := by rfl) (hline : (apos.endLine == pos.line) = true := by rfl) : EvX X (.Call (.Attribute o name apos) [] [] pos) Γ L R := .mk fun S q =>
  we_of (pe_bm0 pa slot hty hm pe_w hbase hline) (h.run S fun v d H1 L1 ⟨ty, h1⟩ S1 => ⟨ty.run S1, h1.run (vs := []) S1 rfl q⟩)
theorem tyd_lst {K : PySem.W.Frag} {ds : List D} : TyD K "list" (.lst ds) L := .mk fun S => by
  cases S.top with
  | lst s t => exact .inl ⟨rfl, _, vis_le.sqL s⟩
theorem tyd_lstC {K : PySem.W.Frag} {k : Nat} {a : Addr} {ds : List D} (hk : L[k]? = some (a, .lst ds)) : TyD K "list" (.ref a) L := .mk fun S => by
  cases S.top
  obtain ⟨xs, hx, _⟩ := S.cell hk
  exact .inl ⟨rfl, _, SqL.of hx⟩
theorem tyd_dctC {K : PySem.W.Frag} {k : Nat} {a : Addr} {ks : List Int} {ds : List D} (hk : L[k]? = some (a, .dct ks ds)) : TyD K "dict" (.ref a) L := .mk fun S => by
  cases S.top
  obtain ⟨xs, hx, _⟩ := S.cell hk
  exact .inr (.inr (.inl ⟨rfl, .inl ⟨_, hx⟩⟩))
section
variable {K : PySem.W.Frag}
theorem Sat.argsM {B0 : Hp} {F : List Addr} {H : Hp} {σ : L2.St} {vs ts : List V} {x : V} {d : D} {ds τ : List D} (S : Sat K B0 F H σ Γ (vs ++ x :: ts) (ds ++ d :: τ) L) (hl : vs.length = ds.length) :
    ObL K (vis H (F ++ adr L)) vs ds ∧ Ob K (vis H (F ++ adr L)) x d ∧ Sat K B0 F H σ Γ ts τ L := by
  obtain ⟨o, S1⟩ := S.args hl
  exact ⟨o, S1.top, S1.pop⟩
/-- xs.append(x) -/
theorem om_append {k : Nat} {a : Addr} {ds : List D} {d : D} (hk : L[k]? = some (a, .lst ds)) (z : ds.length < sizeLine) (r : R .non (L.set k (a, .lst (ds ++ [d])))) : OpM K rAppend (.ref a) [d] L R := .mk fun {B0 F H σ Γ ts vs τ x Q} S hl q => by
  obtain ⟨o, ox, S2⟩ := S.argsM hl
  obtain ⟨v, rfl, o1⟩ := o.one
  cases ox
  obtain ⟨xs, hx, t⟩ := S2.cell hk
  exact ⟨_, xs, v, rfl, rfl, hx, by rw [t.length]; exact z, q _ _ _ _ r ((S2.write (o := .lst (xs ++ [v])) (d' := .lst (ds ++ [d])) hk ⟨_, upd_same, t.append (.cons o1 .nil)⟩).push .non)⟩
/-- xs.extend(ys), ys an own list, which is dropped -/
theorem om_extend {k k2 : Nat} {a a2 : Addr} {ds es : List D} (hk : L[k]? = some (a, .lst ds)) (hk2 : L[k2]? = some (a2, .lst es)) (hne : k2 ≠ k) (z : ds.length + es.length ≤ sizeLine) (r : R .non ((L.set k (a, .lst (ds ++ es))).eraseIdx k2)) : OpM K rExtend (.ref a) [.ref a2] L R := .mk fun {B0 F H σ Γ ts vs τ x Q} S hl q => by
  obtain ⟨o, ox, S2⟩ := S.argsM hl
  obtain ⟨v, rfl, o1⟩ := o.one
  cases ox
  cases o1
  obtain ⟨xs, hx, t⟩ := S2.cell hk
  obtain ⟨ys, hy, t2⟩ := S2.cell hk2
  refine ⟨_, _, xs, ys, rfl, rfl, hx, hy, by rw [t.length, t2.length]; exact z, q _ _ _ _ r (Sat.push ?_ .non)⟩
  have S3 := S2.write (o := .lst (xs ++ ys)) (d' := .lst (ds ++ es)) hk ⟨_, upd_same, t.append t2⟩
  exact (S3.freeze (k := k2) (a := a2) (d := .lst es) (by rw [List.getElem?_set_ne (Ne.symm hne)]; exact hk2)).1
/-- xs.pop() -/
theorem om_pop {k : Nat} {a : Addr} {ds : List D} {d : D} (hk : L[k]? = some (a, .lst (ds ++ [d]))) (r : R d (L.set k (a, .lst ds))) : OpM K rPop (.ref a) [] L R := .mk fun {B0 F H σ Γ ts vs τ x Q} S hl q => by
  obtain ⟨o, ox, S2⟩ := S.argsM hl
  cases o
  cases ox
  obtain ⟨xs, hx, t⟩ := S2.cell hk
  obtain ⟨v, hv, o1⟩ := t.last
  refine ⟨_, xs, v, rfl, rfl, hx, hv, ?_⟩
  have S3 := S2.write (o := .lst xs.dropLast) (d' := .lst ds) hk ⟨_, upd_same, by have := t.dropLast; rw [List.dropLast_concat] at this; exact this⟩
  have e : vis (upd H a (.lst xs.dropLast)) (F ++ adr (L.set k (a, .lst ds))) = vis H (F ++ adr L) := by
    rw [adr_set hk]
    funext c
    unfold vis
    by_cases hc : c ∈ F ++ adr L
    · rw [if_pos hc, if_pos hc]
    · rw [if_neg hc, if_neg hc]
      exact upd_ne fun z => hc (List.mem_append_right _ (by rw [z]; exact List.mem_map.mpr ⟨_, List.mem_of_getElem? hk, rfl⟩))
  exact q _ _ _ _ r (S3.push (by rw [e]; exact o1))
/-- xs.index(i), ints -/
theorem eqV_int (i j : Int) : eqV (.int i) (.int j) = decide (i = j) := by
  by_cases h : i = j
  · subst h; simp [eqV]
  · simp [eqV, h]
theorem om_index {is : List Int} {i : Int} {j : Nat} {k : Nat} {a : Addr} (hk : L[k]? = some (a, .lst (dints is))) (hj : is[j]? = some i) (hf : ∀ m, m < j → is[m]? ≠ some i) (r : R (.int j) L) : OpM K (rIndex K) (.ref a) [.int i] L R := .mk fun {B0 F H σ Γ ts vs τ x Q} S hl q => by
  obtain ⟨o, ox, S2⟩ := S.argsM hl
  obtain ⟨v, rfl, o1⟩ := o.one
  cases ox
  cases o1
  obtain ⟨xs, hx, t⟩ := S2.cell hk
  have e := t.toInts
  subst e
  refine ⟨_, _, .int i, j, .int i, rfl, rfl, SqL.of hx, rfl, List.all_eq_true.mpr fun y hy => ?_, by rw [List.getElem?_map, hj]; rfl, by rw [eqV_int]; simp, fun m z' hm hz => ?_, q _ _ _ _ r (S2.push (.int _))⟩
  · obtain ⟨n, _, rfl⟩ := List.mem_map.mp hy
    rfl
  · rw [List.getElem?_map] at hz
    cases e : is[m]? with
    | none => rw [e] at hz; cases hz
    | some n =>
      rw [e] at hz
      cases hz
      rw [eqV_int, decide_eq_false_iff_not]
      rintro rfl
      exact hf m hm e
theorem om_indexF {is : List Int} {i : Int} {j : Nat} (hj : is[j]? = some i) (hf : ∀ m, m < j → is[m]? ≠ some i) (r : R (.int j) L) : OpM K (rIndex K) (.lst (dints is)) [.int i] L R := .mk fun {B0 F H σ Γ ts vs τ x Q} S hl q => by
  obtain ⟨o, ox, S2⟩ := S.argsM hl
  obtain ⟨v, rfl, o1⟩ := o.one
  cases o1
  cases ox with
  | lst s t =>
    have e := t.toInts
    subst e
    refine ⟨_, _, .int i, j, .int i, rfl, rfl, vis_le.sqL s, rfl, List.all_eq_true.mpr fun y hy => ?_, by rw [List.getElem?_map, hj]; rfl, by rw [eqV_int]; simp, fun m z' hm hz => ?_, q _ _ _ _ r (S2.push (.int _))⟩
    · obtain ⟨n, _, rfl⟩ := List.mem_map.mp hy
      rfl
    · rw [List.getElem?_map] at hz
      cases e : is[m]? with
      | none => rw [e] at hz; cases hz
      | some n =>
        rw [e] at hz
        cases hz
        rw [eqV_int, decide_eq_false_iff_not]
        rintro rfl
        exact hf m hm e
end
/-! ### dicts with int keys -/
def dlook (k : Int) : List Int → List D → Option D
  | j :: ks, d :: ds => if j = k then some d else dlook k ks ds
  | _, _ => none
theorem dlook_none {k : Int} : ∀ {ks : List Int} {ds : List D}, k ∉ ks → dlook k ks ds = none
  | [], _, _ => by unfold dlook; rfl
  | _ :: _, [], _ => by unfold dlook; rfl
  | j :: ks, d :: ds, h => by
    unfold dlook
    rw [if_neg fun e => h (by rw [e]; exact List.mem_cons_self)]
    exact dlook_none fun q => h (List.mem_cons_of_mem _ q)
theorem dlook_at {k : Int} {d : D} : ∀ {ks : List Int} {ds : List D} {i : Nat}, ks.Nodup → ks[i]? = some k → ds[i]? = some d → dlook k ks ds = some d
  | [], _, _, _, h, _ => by simp at h
  | _ :: _, [], _, _, _, h => by simp at h
  | j :: ks, e :: ds, 0, _, h1, h2 => by
    simp at h1 h2
    unfold dlook
    rw [if_pos h1, h2]
  | j :: ks, e :: ds, i + 1, nd, h1, h2 => by
    simp at h1 h2
    rw [List.nodup_cons] at nd
    unfold dlook
    rw [if_neg fun q => nd.1 (by rw [q]; exact List.mem_of_getElem? h1)]
    exact dlook_at nd.2 h1 h2
theorem valV_dkv {K : PySem.W.Frag} {B : Hp} {k : Int} : ∀ {ks : List Int} {xs : List V} {ds : List D}, ks.length = xs.length → ObL K B xs ds →
    (∀ d, dlook k ks ds = some d → ∃ v, valV (dkv ks xs) (.inl k) = some v ∧ Ob K B v d) ∧ (dlook k ks ds = none → valV (dkv ks xs) (.inl k) = none)
  | [], [], _, _, .nil => ⟨fun d h => by simp [dlook] at h, fun _ => rfl⟩
  | j :: ks, x :: xs, e :: ds, l, .cons r t => by
    obtain ⟨h1, h2⟩ := valV_dkv (k := k) (ks := ks) (xs := xs) (ds := ds) (by simpa using l) t
    have ed : dkv (j :: ks) (x :: xs) = (.inl j, x) :: dkv ks xs := rfl
    by_cases h : j = k
    · refine ⟨fun d hd => ?_, fun hd => ?_⟩
      · unfold dlook at hd
        rw [if_pos h] at hd
        cases hd
        exact ⟨x, by rw [ed, valV_pos (by rw [h])], r⟩
      · unfold dlook at hd
        rw [if_pos h] at hd
        cases hd
    · have hn : ¬ (Sum.inl j : Key) = .inl k := fun q => h (Sum.inl.inj q)
      refine ⟨fun d hd => ?_, fun hd => ?_⟩
      · unfold dlook at hd
        rw [if_neg h] at hd
        rw [ed, valV_neg hn]
        exact h1 d hd
      · unfold dlook at hd
        rw [if_neg h] at hd
        rw [ed, valV_neg hn]
        exact h2 hd
theorem valV_mem {k : Int} : ∀ {ks : List Int} {xs : List V}, ks.length = xs.length → (valV (dkv ks xs) (.inl k)).isSome = decide (k ∈ ks)
  | [], [], _ => rfl
  | j :: ks, x :: xs, l => by
    have ed : dkv (j :: ks) (x :: xs) = (.inl j, x) :: dkv ks xs := rfl
    by_cases h : j = k
    · rw [ed, valV_pos (by rw [h]), h]; simp
    · rw [ed, valV_neg (fun q => h (Sum.inl.inj q)), valV_mem (by simpa using l)]
      have : k ≠ j := fun q => h q.symm
      simp [this]
theorem dkv_snoc {ks : List Int} {xs : List V} {k : Int} {v : V} (l : ks.length = xs.length) : dkv ks xs ++ [(.inl k, v)] = dkv (ks ++ [k]) (xs ++ [v]) := by
  unfold dkv
  rw [List.map_append, List.zip_append (by simpa using l)]
  rfl
theorem dkv_length {ks : List Int} {xs : List V} (l : ks.length = xs.length) : (dkv ks xs).length = ks.length := by
  unfold dkv; simp [l]
/-- {} -/
theorem ev_dnew (r : ∀ p, R (.ref p) (L ++ [(p, .dct [] [])])) : EvX X (.Dict [] [] pos) Γ L R := .mk fun S q =>
  we_of pe_dnewK fun p hp => q _ _ _ _ (r p) ((S.newC (o := .dK []) (d := .dct [] []) hp fun B le => ⟨[], upd_same, rfl, .nil⟩).push (.ref p))
/-- a dict that may be read: frozen, or one's own -/
def IsDct (d : D) (L : Cells) (ks : List Int) (ds : List D) : Prop := d = .dct ks ds ∨ (∃ (k : Nat) (a : Addr), d = .ref a ∧ L[k]? = some (a, .dct ks ds)) ∨ d = .kdc ks ds
theorem IsDct.at {K : PySem.W.Frag} {B0 : Hp} {F : List Addr} {H : Hp} {σ : L2.St} {ts : List V} {τ : List D} {v : V} {d : D} {ks : List Int} {ds : List D} (h : IsDct d L ks ds) (S : Sat K B0 F H σ Γ ts τ L) (o : Ob K (vis H (F ++ adr L)) v d) :
    ∃ a xs, v = .ref a ∧ Rd H a (.dK (dkv ks xs)) ∧ ks.length = xs.length ∧ ObL K (vis H (F ++ adr L)) xs ds := by
  rcases h with rfl | ⟨k, a, rfl, hk⟩ | rfl
  · cases o with
    | dct s e t => exact ⟨_, _, rfl, vis_le.rd _ _ s, e, t⟩
  · cases o
    obtain ⟨xs, hx, hl, t⟩ := S.cell hk
    exact ⟨a, xs, rfl, .inl hx, hl, t⟩
  · cases o with
    | kdc s e t => exact ⟨_, _, rfl, .inr ⟨_, vis_le.frz _ _ _ s⟩, e, t⟩
theorem dget_k {H : Hp} {a : Addr} {kvs : List (Key × V)} {k : Key} (e : Rd H a (.dK kvs)) : DGet H a (kV k) (valV kvs k) := .inl ⟨kvs, k, e, rfl, rfl⟩
/-- k in d, k not in d -/
theorem ev_din (hu : X.A.units + 1 < cLine) (h : EvX X a Γ L fun d1 L1 => EvX X b Γ L1 fun d2 L2 => ∃ (k : Int) (ks : List Int) (ds : List D), d1 = .int k ∧ IsDct d2 L2 ks ds ∧ R (.bl (decide (k ∈ ks))) L2) (hm : behindInMarks .In b = false := by rfl) : EvX X (.Compare a [.In] [b] pos) Γ L R := .mk fun S q =>
  we_of (pe_cmp (pc_din hu pe_w pe_w) hm) (h.run S fun v1 d1 H1 L1 h1 S1 => h1.run S1 fun v2 d2 H2 L2 ⟨k, ks, ds, e1, e2, r⟩ S2 => by
    subst e1
    obtain ⟨o1, o2, S3⟩ := S2.two
    cases o1
    obtain ⟨c, xs, rfl, hx, hl, t⟩ := e2.at S3 o2
    exact ⟨c, _, rfl, dget_k (k := .inl k) hx, by rw [valV_mem hl]; exact q _ _ _ _ r (S3.push (.bl _))⟩)
theorem ev_dnotin (hu : X.A.units + 1 < cLine) (h : EvX X a Γ L fun d1 L1 => EvX X b Γ L1 fun d2 L2 => ∃ (k : Int) (ks : List Int) (ds : List D), d1 = .int k ∧ IsDct d2 L2 ks ds ∧ R (.bl (!decide (k ∈ ks))) L2) (hm : behindInMarks .NotIn b = false := by rfl) : EvX X (.Compare a [.NotIn] [b] pos) Γ L R := .mk fun S q =>
  we_of (pe_cmp (pc_dnotin hu pe_w pe_w) hm) (h.run S fun v1 d1 H1 L1 h1 S1 => h1.run S1 fun v2 d2 H2 L2 ⟨k, ks, ds, e1, e2, r⟩ S2 => by
    subst e1
    obtain ⟨o1, o2, S3⟩ := S2.two
    cases o1
    obtain ⟨c, xs, rfl, hx, hl, t⟩ := e2.at S3 o2
    exact ⟨c, _, rfl, dget_k (k := .inl k) hx, by rw [valV_mem hl]; exact q _ _ _ _ r (S3.push (.bl _))⟩)
theorem te_dnotin {R : Bool → Cells → Prop} (hu : X.A.units + 1 < cLine) (h : EvX X a Γ L fun d1 L1 => EvX X b Γ L1 fun d2 L2 => ∃ (k : Int) (ks : List Int) (ds : List D), d1 = .int k ∧ IsDct d2 L2 ks ds ∧ R (!decide (k ∈ ks)) L2) (hm : behindInMarks .NotIn b = false := by rfl) : TeX X (.Compare a [.NotIn] [b] pos) Γ L R := .mk fun S q =>
  wt_of (pt_cmp (pc_dnotin hu pe_w pe_w) hm) (h.run S fun v1 d1 H1 L1 h1 S1 => h1.run S1 fun v2 d2 H2 L2 ⟨k, ks, ds, e1, e2, r⟩ S2 => by
    subst e1
    obtain ⟨o1, o2, S3⟩ := S2.two
    cases o1
    obtain ⟨c, xs, rfl, hx, hl, t⟩ := e2.at S3 o2
    exact ⟨c, _, rfl, dget_k (k := .inl k) hx, _, rfl, by rw [valV_mem hl]; exact q _ _ _ r S3⟩)
theorem te_din {R : Bool → Cells → Prop} (hu : X.A.units + 1 < cLine) (h : EvX X a Γ L fun d1 L1 => EvX X b Γ L1 fun d2 L2 => ∃ (k : Int) (ks : List Int) (ds : List D), d1 = .int k ∧ IsDct d2 L2 ks ds ∧ R (decide (k ∈ ks)) L2) (hm : behindInMarks .In b = false := by rfl) : TeX X (.Compare a [.In] [b] pos) Γ L R := .mk fun S q =>
  wt_of (pt_cmp (pc_din hu pe_w pe_w) hm) (h.run S fun v1 d1 H1 L1 h1 S1 => h1.run S1 fun v2 d2 H2 L2 ⟨k, ks, ds, e1, e2, r⟩ S2 => by
    subst e1
    obtain ⟨o1, o2, S3⟩ := S2.two
    cases o1
    obtain ⟨c, xs, rfl, hx, hl, t⟩ := e2.at S3 o2
    exact ⟨c, _, rfl, dget_k (k := .inl k) hx, _, rfl, by rw [valV_mem hl]; exact q _ _ _ r S3⟩)
/-- d[k] -/
theorem ev_dget (hu : X.A.units + 1 < cLine) (h : EvX X a Γ L fun d1 L1 => EvX X b Γ L1 fun d2 L2 => ∃ (k : Int) (ks : List Int) (ds : List D) (d : D), d2 = .int k ∧ IsDct d1 L2 ks ds ∧ dlook k ks ds = some d ∧ R d L2) (hs : NoSl b := by exact fun _ _ => rfl) : EvX X (.Subscript a b pos) Γ L R := .mk fun S q =>
  we_of (pe_dget hu pe_w pe_w hs) (h.run S fun v1 d1 H1 L1 h1 S1 => h1.run S1 fun v2 d2 H2 L2 ⟨k, ks, ds, d, e1, e2, hd, r⟩ S2 => by
    subst e1
    obtain ⟨o1, o2, S3⟩ := S2.two
    cases o2
    obtain ⟨c, xs, rfl, hx, hl, t⟩ := e2.at S3 o1
    obtain ⟨v, hv, o⟩ := (valV_dkv (k := k) hl t).1 d hd
    exact ⟨c, v, rfl, by rw [← hv]; exact dget_k (k := .inl k) hx, q _ _ _ _ r (S3.push o)⟩)
/-- d[k] = v, k new -/
theorem st_dput {oe ie : Expr} {pos' : Pos} (hu : X.A.units + 1 < cLine) (h : EvX X e Γ L fun d L1 => EvX X oe Γ L1 fun d1 L2 => EvX X ie Γ L2 fun d2 L3 => ∃ (j : Nat) (c : Addr) (k : Int) (ks : List Int) (ds : List D), d1 = .ref c ∧ d2 = .int k ∧ L3[j]? = some (c, .dct ks ds) ∧ k ∉ ks ∧ ks.length < sizeLine ∧ E.nx Γ (L3.set j (c, .dct (ks ++ [k]) (ds ++ [d]))))
    (hs : swapsWith e (some (.Subscript oe ie pos')) pos.line X.env = pure false := by rfl) : StX X (.Assign [.Subscript oe ie pos'] e pos) Γ L E := .mk fun S ok =>
  ws_of (ps_dput hu pe_w pe_w pe_w hs) (h.run S fun v d H1 L1 h1 S1 => h1.run S1 fun v1 d1 H2 L2 h2 S2 => h2.run S2 fun v2 d2 H3 L3 ⟨j, c, k, ks, ds, e1, e2, hj, hk, z, r⟩ S3 => by
    subst e1 e2
    obtain ⟨o1, o2, S4⟩ := S3.two
    cases o1
    cases o2
    obtain ⟨xs, hx, hl, t⟩ := S4.pop.cell hj
    have hn : valV (dkv ks xs) (.inl k) = none := by
      have := valV_mem (k := k) hl
      rw [decide_eq_false hk] at this
      exact Option.isSome_eq_false_iff.mp this |> Option.isNone_iff_eq_none.mp
    refine ⟨c, _, rfl, DPut.k (k := .inl k) hx (by rw [dkv_length hl]; exact z), ok.nx _ _ _ _ r ?_⟩
    refine S4.pop.write hj ⟨xs ++ [v], ?_, by simp [hl], t.append (.cons S4.top .nil)⟩
    rw [putK_new v hn, dkv_snoc hl]
    exact upd_same)
end
end DL
set_option maxRecDepth 100000
set_option maxHeartbeats 4000000
/-! DL6: targets, while, for, what is walked, list comprehensions. -/
namespace DL
open PySem PySem.Spec PyProof.Rows L2
/-! ### targets -/
def WG (X : Cx) (tg : Expr) : TG := fun v σ H Q => ∀ (pins : List (Addr × Obj)) (s : Shared) (u : Value), Inv X pins σ H s → RelV v u → wpAny (model X.prog X.w) X.A (assign tg X.env u) (fun _ s' => ∃ σ' H', Inv X pins σ' H' s' ∧ Q σ' H') X.xe s
theorem pg_w {X : Cx} {tg : Expr} : PG X tg (WG X tg) := ⟨fun pins s σ H v u Q I r h => h pins s u I r⟩
theorem wg_of {X : Cx} {tg : Expr} {g : TG} {v : V} {σ : L2.St} {H : Hp} {Q : L2.St → Hp → Prop} (p : PG X tg g) (h : g v σ H Q) : WG X tg v σ H Q := fun pins s u I r => p.run pins s σ H v u Q I r h
/-- the same but at js -/
def Off (js : List Nat) (σ σ' : L2.St) : Prop := σ'.length = σ.length ∧ ∀ i, i ∉ js → σ'[i]? = σ[i]?
structure TgX (X : Cx) (tg : Expr) (js : List Nat) (d : D) (Γ : Gam) (L : Cells) (R : Gam → Cells → Prop) : Prop where
  run : ∀ {B0 : Hp} {F : List Addr} {H : Hp} {σ : L2.St} {ts : List V} {τ : List D} {v : V} {Q : L2.St → Hp → Prop}, Sat X.K B0 F H σ Γ (v :: ts) (d :: τ) L →
    (∀ Γ' L' σ' H', Off js σ σ' → R Γ' L' → Sat X.K B0 F H' σ' Γ' ts τ L' → Q σ' H') → WG X tg v σ H Q
section
variable {X : Cx} {Γ : Gam} {L : Cells} {pos : Pos} {E : En} {e : Expr}
theorem off_set {σ : L2.St} {j : Nat} {x : Option V} {js : List Nat} (h : j ∈ js) : Off js σ (σ.set j x) := ⟨by simp, fun i hi => by rw [List.getElem?_set_ne fun e => hi (by rw [← e]; exact h)]⟩
theorem Off.trans {js : List Nat} {a b c : L2.St} (h : Off js a b) (k : Off js b c) : Off js a c := ⟨k.1.trans h.1, fun i hi => (k.2 i hi).trans (h.2 i hi)⟩
theorem tg_v (i : Nat) {x : Str} {d : D} {R : Gam → Cells → Prop} (hN : X.N.Nodup) (r : R (Γ.set i (some d)) L) (hi : X.N[i]? = some x := by rfl) (hx : Loc X.env.scope x := by first | exact .inl rfl | exact .inr rfl)
    (hf : X.fn x = true ∨ X.env.scope.names.lookup x = some .local := by first | exact .inl rfl | exact .inr rfl) : TgX X (.Name x pos) [i] d Γ L R := .mk fun S q =>
  wg_of (pg_name hN hi hx hf) (q _ _ _ _ (off_set (by simp)) r (S.setSlot i))
theorem tg_2 (i j : Nat) {x y : Str} {p1 p2 : Pos} {k : Nat} {d1 d2 : D} {R : Gam → Cells → Prop} (hc : X.calm = true) (hN : X.N.Nodup) (r : R ((Γ.set i (some d1)).set j (some d2)) L) (hi : X.N[i]? = some x := by rfl) (hj : X.N[j]? = some y := by rfl)
    (hx : Loc X.env.scope x := by first | exact .inl rfl | exact .inr rfl) (hy : Loc X.env.scope y := by first | exact .inl rfl | exact .inr rfl)
    (hf : X.fn x = true ∨ X.env.scope.names.lookup x = some .local := by first | exact .inl rfl | exact .inr rfl) (hg : X.fn y = true ∨ X.env.scope.names.lookup y = some .local := by first | exact .inl rfl | exact .inr rfl)
    (hs : (assignEach [.Name x p1, .Name y p2] X.env).map (·.2) = assign (.Name x p1) X.env :: (assignEach [.Name y p2] X.env).map (·.2) := by rfl) (hs2 : (assignEach [.Name y p2] X.env).map (·.2) = assign (.Name y p2) X.env :: (assignEach [] X.env).map (·.2) := by rfl)
    (hn : (assignEach [.Name x p1, .Name y p2] X.env).length = 2 := by rfl) (hst : (assignEach [.Name x p1, .Name y p2] X.env).findIdx? (·.1) = none := by rfl) : TgX X (.Tuple [.Name x p1, .Name y p2] k pos) [i, j] (.tup [d1, d2]) Γ L R := .mk fun {B0 F H σ ts τ v Q} S q => by
  cases S.top with
  | @tup a xs _ s t =>
    obtain ⟨u1, u2, rfl, o1, o2⟩ := t.two
    refine wg_of (pg_tup hc (pgs_cons (pg_name hN hi hx hf) (pgs_cons (pg_name hN hj hy hg) pgs_nil hs2) hs) hn hst) ⟨a, _, rfl, vis_le.sqT s, rfl, u1, _, rfl, u2, _, rfl, rfl, ?_⟩
    exact q _ _ _ _ ((off_set (by simp)).trans (off_set (by simp))) r (((S.pop.push o2).push o1).setSlot i |>.setSlot j)
theorem tg_3 (i j l : Nat) {x y z : Str} {p1 p2 p3 : Pos} {k : Nat} {d1 d2 d3 : D} {R : Gam → Cells → Prop} (hc : X.calm = true) (hN : X.N.Nodup) (r : R (((Γ.set i (some d1)).set j (some d2)).set l (some d3)) L) (hi : X.N[i]? = some x := by rfl) (hj : X.N[j]? = some y := by rfl) (hl : X.N[l]? = some z := by rfl)
    (hx : Loc X.env.scope x := by first | exact .inl rfl | exact .inr rfl) (hy : Loc X.env.scope y := by first | exact .inl rfl | exact .inr rfl) (hz : Loc X.env.scope z := by first | exact .inl rfl | exact .inr rfl)
    (hf : X.fn x = true ∨ X.env.scope.names.lookup x = some .local := by first | exact .inl rfl | exact .inr rfl) (hg : X.fn y = true ∨ X.env.scope.names.lookup y = some .local := by first | exact .inl rfl | exact .inr rfl) (hh : X.fn z = true ∨ X.env.scope.names.lookup z = some .local := by first | exact .inl rfl | exact .inr rfl)
    (hs : (assignEach [.Name x p1, .Name y p2, .Name z p3] X.env).map (·.2) = assign (.Name x p1) X.env :: (assignEach [.Name y p2, .Name z p3] X.env).map (·.2) := by rfl) (hs2 : (assignEach [.Name y p2, .Name z p3] X.env).map (·.2) = assign (.Name y p2) X.env :: (assignEach [.Name z p3] X.env).map (·.2) := by rfl) (hs3 : (assignEach [.Name z p3] X.env).map (·.2) = assign (.Name z p3) X.env :: (assignEach [] X.env).map (·.2) := by rfl)
    (hn : (assignEach [.Name x p1, .Name y p2, .Name z p3] X.env).length = 3 := by rfl) (hst : (assignEach [.Name x p1, .Name y p2, .Name z p3] X.env).findIdx? (·.1) = none := by rfl) : TgX X (.Tuple [.Name x p1, .Name y p2, .Name z p3] k pos) [i, j, l] (.tup [d1, d2, d3]) Γ L R := .mk fun {B0 F H σ ts τ v Q} S q => by
  cases S.top with
  | @tup a xs _ s t =>
    cases t with
    | cons o1 t1 =>
      obtain ⟨u2, u3, rfl, o2, o3⟩ := t1.two
      refine wg_of (pg_tup hc (pgs_cons (pg_name hN hi hx hf) (pgs_cons (pg_name hN hj hy hg) (pgs_cons (pg_name hN hl hz hh) pgs_nil hs3) hs2) hs) hn hst) ⟨a, _, rfl, vis_le.sqT s, rfl, _, _, rfl, u2, _, rfl, u3, _, rfl, rfl, ?_⟩
      exact q _ _ _ _ (((off_set (by simp)).trans (off_set (by simp))).trans (off_set (by simp))) r ((((S.pop.push o3).push o2).push o1).setSlot i |>.setSlot j |>.setSlot l)
/-- target = value -/
theorem st_asg {tg : Expr} {js : List Nat} (h : EvX X e Γ L fun d L1 => TgX X tg js d Γ L1 E.nx) (hs : swapsWithSole [tg] e pos.line X.env = pure false := by rfl) (hw : swappedStores [tg] e X.env = pure none := by rfl)
    (h1 : (assignEach [tg] X.env).map (·.2) = [assign tg X.env] := by rfl) : StX X (.Assign [tg] e pos) Γ L E := .mk fun S ok =>
  ws_of (ps_asg pe_w pg_w hs hw h1) (h.run S fun v d H1 L1 h1 S1 => h1.run S1 fun Γ' L' σ' H' _ r S' => ok.nx _ _ _ _ r S')
/-- xs[i] = v, an own list -/
theorem st_lput {oe ie : Expr} {pos' : Pos} (h : EvX X e Γ L fun d L1 => EvX X oe Γ L1 fun d1 L2 => EvX X ie Γ L2 fun d2 L3 => ∃ (k : Nat) (c : Addr) (j : Nat) (ds : List D), d1 = .ref c ∧ d2 = .int j ∧ L3[k]? = some (c, .lst ds) ∧ j < ds.length ∧ E.nx Γ (L3.set k (c, .lst (ds.set j d))))
    (hs : swapsWithSole [.Subscript oe ie pos'] e pos.line X.env = pure false := by rfl) (hw : swappedStores [.Subscript oe ie pos'] e X.env = pure none := by rfl)
    (h1 : (assignEach [.Subscript oe ie pos'] X.env).map (·.2) = [assign (.Subscript oe ie pos') X.env] := by rfl)
    (ha : ∀ v, assign (.Subscript oe ie pos') X.env v = (do
      let ov ← holding [v] (eval oe X.env)
      let iv ← holding [v, ov] (eval ie X.env)
      standAt pos'
      holding [v, ov, iv] (setItem ov iv v)
      release [v, ov, iv] []) := by intro _; rfl) : StX X (.Assign [.Subscript oe ie pos'] e pos) Γ L E := .mk fun S ok =>
  ws_of (ps_asg pe_w (pg_sub pe_w pe_w set_list ha) hs hw h1) (h.run S fun v d H1 L1 h1 S1 => h1.run S1 fun v1 d1 H2 L2 h2 S2 => h2.run S2 fun v2 d2 H3 L3 ⟨k, c, j, ds, e1, e2, hk, hj, r⟩ S3 => by
    subst e1 e2
    obtain ⟨o1, o2, S4⟩ := S3.two
    cases o1
    cases o2
    obtain ⟨xs, hx, t⟩ := S4.pop.cell hk
    have hj' : j < xs.length := by rw [t.length]; exact hj
    refine ⟨c, xs, j, j, rfl, rfl, hx, by unfold ixN; rw [if_pos (by omega), if_pos (by omega)]; simp, ok.nx _ _ _ _ r ?_⟩
    exact S4.pop.write hk ⟨_, upd_same, t.set S4.top j⟩)
/-! ### while -/
theorem st_while {c : Expr} {body : List Stmt} (W : Nat → Gam → Cells → Prop) (m0 : Nat) (h0 : W m0 Γ L)
    (hs : ∀ m Γ L, W m Γ L → TeX X c Γ L fun k L1 => if k = true then BlX X body Γ L1 { nx := fun Γ' L' => ∃ m', m' < m ∧ W m' Γ' L', ct := fun Γ' L' => ∃ m', m' < m ∧ W m' Γ' L', bk := E.nx, rt := E.rt } else E.nx Γ L1)
    (hp : PassesOwn (model X.prog X.w) X.A X.env X.xe := by exact PassesOwn.never) : StX X (.While c body [] pos) Γ L E := .mk fun {B0 F H σ ts τ D} S ok =>
  ws_of (ps_while hp pt_w pss_w) ⟨fun m σ H => ∃ Γ L, W m Γ L ∧ Sat X.K B0 F H σ Γ ts τ L, ⟨m0, Γ, L, h0, S⟩, fun m σ H ⟨Γ, L, w, S⟩ => (hs m Γ L w).run S fun k H' L' r S' => by
    cases k with
    | true =>
      rw [if_pos rfl]
      refine ⟨fun σ' H' => ∃ m', m' < m ∧ ∃ Γ L, W m' Γ L ∧ Sat X.K B0 F H' σ' Γ ts τ L, fun σ' H' ⟨m', hm, q⟩ => ⟨m', hm, q⟩, ?_⟩
      exact (show BlX X body Γ L' _ from r).run S' ⟨fun Γ' L' σ' H' ⟨m', hm, w'⟩ S'' => ⟨m', hm, Γ', L', w', S''⟩, ok.rt, ok.nx, fun Γ' L' σ' H' ⟨m', hm, w'⟩ S'' => ⟨m', hm, Γ', L', w', S''⟩⟩
    | false =>
      rw [if_neg Bool.false_ne_true]
      exact ok.nx _ _ _ _ r S'⟩
/-! ### what is walked -/
structure ItD (K : PySem.W.Frag) (F : List Addr) (Bb : Hp) (J : It) (ds : List D) : Prop where
  go : ∀ {H : Hp} {σ : L2.St} {Γ : Gam} {ts : List V} {τ : List D} {L : Cells} (i : Nat), Sat K Bb F H σ Γ ts τ L → i < ds.length → J.go i H
  stop : ∀ {H : Hp} {σ : L2.St} {Γ : Gam} {ts : List V} {τ : List D} {L : Cells}, Sat K Bb F H σ Γ ts τ L → J.stop ds.length H
  yld : ∀ {H : Hp} {σ : L2.St} {Γ : Gam} {ts : List V} {τ : List D} {L : Cells} (i : Nat) (x : V) (H' : Hp), i < ds.length → Sat K Bb F H σ Γ ts τ L → J.yld i H x H' → ∃ d, ds[i]? = some d ∧ Sat K Bb F H' σ Γ (x :: ts) (d :: τ) L
def WI (X : Cx) (tg iter : Expr) : TI := fun σ H R => ∀ (pins : List (Addr × Obj)) (s : Shared), Inv X pins σ H s → wpAny (model X.prog X.w) X.A (eval iter X.env) (fun v s1 => wpAny (model X.prog X.w) X.A (pyIter v) (PIE X pins σ tg R) X.xe s1) X.xe s
theorem pi_w {tg iter : Expr} : PI X tg iter (WI X tg iter) := ⟨fun pins s σ H R I h => h pins s I⟩
theorem wi_of {tg iter : Expr} {wi : TI} {σ : L2.St} {H : Hp} {R : It → Hp → Prop} (p : PI X tg iter wi) (h : wi σ H R) : WI X tg iter σ H R := fun pins s I => p.run pins s σ H R I h
structure IterX (X : Cx) (tg iter : Expr) (Γ : Gam) (L : Cells) (R : List D → Cells → Prop) : Prop where
  run : ∀ {B0 : Hp} {F : List Addr} {H : Hp} {σ : L2.St} {ts : List V} {τ : List D} {Q : It → Hp → Prop}, Sat X.K B0 F H σ Γ ts τ L →
    (∀ J ds H1 L1, R ds L1 → Sat X.K B0 F H1 σ Γ ts τ L1 → ItD X.K F (vis H1 (adr L1)) J ds → Q J H1) → WI X tg iter σ H Q
section
variable {K : PySem.W.Frag} {B0 : Hp} {F : List Addr} {H H' : Hp} {σ : L2.St} {ts : List V} {τ : List D}
theorem Sat.over (S : Sat K B0 F H σ Γ ts τ L) : Sat K (vis H (adr L)) F H σ Γ ts τ L := S.rebase (fun a o e => ⟨(vis_some.mp e).2, (vis_some.mp e).1⟩) fun a ha => by
  obtain ⟨o, e⟩ := S.fo a ha
  obtain ⟨e1, e2⟩ := S.base a o e
  exact ⟨o, vis_of e2 e1⟩
theorem Sat.under {σ' : L2.St} {Γ' : Gam} {ts' : List V} {τ' : List D} {L' : Cells} (S : Sat K B0 F H σ Γ ts τ L) (S' : Sat K (vis H (adr L)) F H' σ' Γ' ts' τ' L') : Sat K B0 F H' σ' Γ' ts' τ' L' := S'.rebase (fun a o e => by
  obtain ⟨e1, e2⟩ := S.base a o e
  exact S'.base a o (vis_of e2 e1)) S.fo
/-- what was visible is visible -/
theorem sat_le {L1 L' : Cells} {H1 H2 : Hp} (S : Sat K (vis H1 (adr L1)) F H2 σ Γ ts τ L') : Le (vis H1 (F ++ adr L1)) (vis H2 (F ++ adr L')) := .of fun a o e => by
  obtain ⟨e1, e2⟩ := vis_some.mp e
  rw [List.mem_append, not_or] at e1
  obtain ⟨q1, q2⟩ := S.base a o (vis_of e1.2 e2)
  refine vis_of ?_ q1
  rw [List.mem_append, not_or]
  exact ⟨e1.1, q2⟩
end
theorem itd_list {K : PySem.W.Frag} {F : List Addr} {H1 : Hp} {L1 : Cells} {a : Addr} {xs : List V} {ds : List D} (s : SqL K (vis H1 (F ++ adr L1)) a xs) (t : ObL K (vis H1 (F ++ adr L1)) xs ds) : ItD K F (vis H1 (adr L1)) (Itl K a) ds where
  go := fun {H σ Γ ts τ L} i S hi => ⟨xs, xs[i]'(by rw [t.length]; exact hi), vis_le.sqL ((sat_le S).sqL s), by rw [List.getElem?_eq_getElem]⟩
  stop := fun {H σ Γ ts τ L} S => ⟨xs, vis_le.sqL ((sat_le S).sqL s), by rw [t.length]; exact Nat.le_refl _⟩
  yld := fun {H σ Γ ts τ L} i x H' _ S ⟨e, y⟩ => by
    subst e
    obtain ⟨d, hd, o⟩ := t.get' (y xs (vis_le.sqL ((sat_le S).sqL s)))
    exact ⟨d, hd, S.push (o.mono (sat_le S))⟩
theorem itd_tup {K : PySem.W.Frag} {F : List Addr} {H1 : Hp} {L1 : Cells} {a : Addr} {xs : List V} {ds : List D} (s : SqT K (vis H1 (F ++ adr L1)) a xs) (t : ObL K (vis H1 (F ++ adr L1)) xs ds) : ItD K F (vis H1 (adr L1)) (Itt K a) ds where
  go := fun {H σ Γ ts τ L} i S hi => ⟨xs, xs[i]'(by rw [t.length]; exact hi), vis_le.sqT ((sat_le S).sqT s), by rw [List.getElem?_eq_getElem]⟩
  stop := fun {H σ Γ ts τ L} S => ⟨xs, vis_le.sqT ((sat_le S).sqT s), by rw [t.length]; exact Nat.le_refl _⟩
  yld := fun {H σ Γ ts τ L} i x H' _ S ⟨e, y⟩ => by
    subst e
    obtain ⟨d, hd, o⟩ := t.get' (y xs (vis_le.sqT ((sat_le S).sqT s)))
    exact ⟨d, hd, S.push (o.mono (sat_le S))⟩
/-- lo, lo + 1, .. -/
def rangeD (lo : Int) (n : Nat) : List D := (List.range n).map fun (i : Nat) => D.int (lo + i)
theorem rangeD_length (lo : Int) (n : Nat) : (rangeD lo n).length = n := by simp [rangeD]
theorem rangeD_get {lo : Int} {n i : Nat} (h : i < n) : (rangeD lo n)[i]? = some (.int (lo + i)) := by simp [rangeD, h]
theorem itd_range {K : PySem.W.Frag} {F : List Addr} {B : Hp} {lo : Int} {n : Nat} : ItD K F B (Itr lo n) (rangeD lo n) where
  go := fun {H σ Γ ts τ L} i S hi => by rw [rangeD_length] at hi; exact hi
  stop := fun {H σ Γ ts τ L} S => by rw [rangeD_length]; exact Nat.le_refl n
  yld := fun {H σ Γ ts τ L} i x H' hi S ⟨e, y⟩ => by
    subst e y
    rw [rangeD_length] at hi
    exact ⟨_, rangeD_get hi, S.push (.int _)⟩
theorem itx_list {tg : Expr} {R : List D → Cells → Prop} (h : EvX X e Γ L fun d L1 => ∃ ds, d = .lst ds ∧ R ds L1) : IterX X tg e Γ L R := .mk fun S q =>
  wi_of (pi_list pe_w) (h.run S fun v d H1 L1 ⟨ds, ed, r⟩ S1 => by
    subst ed
    cases S1.top with
    | lst s t => exact ⟨_, rfl, ⟨_, vis_le.sqL s⟩, q _ _ _ _ r S1.pop (itd_list s t)⟩)
theorem itx_tup {tg : Expr} {R : List D → Cells → Prop} (h : EvX X e Γ L fun d L1 => ∃ ds, d = .tup ds ∧ R ds L1) : IterX X tg e Γ L R := .mk fun S q =>
  wi_of (pi_tup pe_w) (h.run S fun v d H1 L1 ⟨ds, ed, r⟩ S1 => by
    subst ed
    cases S1.top with
    | tup s t => exact ⟨_, rfl, ⟨_, vis_le.sqT s⟩, q _ _ _ _ r S1.pop (itd_tup s t)⟩)
end
end DL
set_option maxRecDepth 100000
set_option maxHeartbeats 4000000
/-! DL7: for, list comprehensions, ranges, enumerate, zip. -/
namespace DL
open PySem PySem.Spec PyProof.Rows L2
section
variable {X : Cx} {Γ : Gam} {L : Cells} {pos : Pos} {E : En} {e : Expr}
/-- for tg in iter: W holds ahead of turn i -/
theorem st_for {tg iter : Expr} {body : List Stmt} {js : List Nat} (hc : X.calm = true) (h : IterX X tg iter Γ L fun ds L1 => ∃ W : Nat → Gam → Cells → Prop, W 0 Γ L1 ∧
      (∀ i d Γ' L', ds[i]? = some d → W i Γ' L' → TgX X tg js d Γ' L' fun Γ2 L2 => BlX X body Γ2 L2 { nx := W (i + 1), ct := W (i + 1), bk := E.nx, rt := E.rt }) ∧ ∀ Γ' L', W ds.length Γ' L' → E.nx Γ' L')
    (hp : PassesOwn (model X.prog X.w) X.A X.env X.xe := by exact PassesOwn.never) (hs : ∀ x, foldedSetIterable iter X.env x = pure x := by intro _; rfl) : StX X (.For tg iter body [] pos) Γ L E := .mk fun {B0 F H σ ts τ D} S ok =>
  ws_of (ps_for hp hc pi_w pg_w pss_w hs) (h.run S fun J ds H1 L1 ⟨W, w0, turn, done⟩ S1 it => by
    refine ⟨fun i m σ H => m = ds.length - i ∧ i ≤ ds.length ∧ ∃ Γ L, W i Γ L ∧ Sat X.K (vis H1 (adr L1)) F H σ Γ ts τ L, ⟨_, rfl, Nat.zero_le _, Γ, L1, w0, S1.over⟩, fun i m σ H ⟨hm, hi, Γ2, L2, w2, S2⟩ => ?_⟩
    by_cases hlt : i < ds.length
    · refine .inr ⟨it.go i S2 hlt, fun σ' H' => ∃ Γ L, W (i + 1) Γ L ∧ Sat X.K (vis H1 (adr L1)) F H' σ' Γ ts τ L, fun σ' H' q => ⟨ds.length - (i + 1), by omega, rfl, hlt, q⟩, fun x H' y => ?_⟩
      obtain ⟨d, hd, S3⟩ := it.yld i x H' hlt S2 y
      refine (turn i d Γ2 L2 hd w2).run S3 fun Γ3 L3 σ3 H3 _ b3 S4 => ?_
      exact b3.run S4 ⟨fun Γ' L' σ' H' w' S' => ⟨Γ', L', w', S'⟩, fun d' L' v' σ' Γ' H' r' S' => ok.rt _ _ _ _ _ _ r' (S1.under S'), fun Γ' L' σ' H' r' S' => ok.nx _ _ _ _ r' (S1.under S'), fun Γ' L' σ' H' w' S' => ⟨Γ', L', w', S'⟩⟩
    · have e : i = ds.length := by omega
      subst e
      exact .inl ⟨it.stop S2, ok.nx _ _ _ _ (done Γ2 L2 w2) (S1.under S2)⟩)
/-! ### list comprehensions -/
abbrev BX (X : Cx) (scope : Scope) (s : Shared) (H : Hp) (C : Addr) (cl : List (Str × Addr)) (fp : List Addr) : Cx := X.blk s H scope (compEnvC scope cl C X.env) fp
/-- a test's reading over data -/
structure TtX (K : PySem.W.Frag) (tt : TT) (Γ : Gam) (L : Cells) (R : Bool → Cells → Prop) : Prop where
  run : ∀ {B0 : Hp} {F : List Addr} {H : Hp} {σ : L2.St} {ts : List V} {τ : List D} {Q : Bool → Hp → Prop}, Sat K B0 F H σ Γ ts τ L →
    (∀ b H' L', R b L' → Sat K B0 F H' σ Γ ts τ L' → Q b H') → tt σ H Q
section
variable {K : PySem.W.Frag} {B0 : Hp} {F : List Addr} {H H' : Hp} {σ σ' : L2.St} {Γ' : Gam} {ts xs : List V} {τ acc : List D} {p : Addr}
/-- an own list is hidden: foreign, its items held -/
theorem Sat.hide (S : Sat K B0 F H σ Γ ts τ (L ++ [(p, .lst acc)])) : ∃ xs, H p = some (.lst xs) ∧ B0 p = none ∧ (∀ a ∈ F, ∃ o, B0 a = some o) ∧ xs.length = acc.length ∧ Sat K (upd B0 p (.lst xs)) (F ++ [p]) H σ Γ (xs ++ ts) (acc ++ τ) L := by
  have hp : (L ++ [(p, D.lst acc)])[L.length]? = some (p, .lst acc) := by simp
  obtain ⟨xs, hx, t⟩ := S.cell hp
  have hv : vis H (F ++ adr (L ++ [(p, D.lst acc)])) = vis H (F ++ [p] ++ adr L) := vis_congr fun a => by
    simp only [adr, List.map_append, List.mem_append, List.map_cons, List.map_nil, List.mem_singleton]
    constructor
    · rintro (q | q | q)
      · exact .inl (.inl q)
      · exact .inr q
      · exact .inl (.inr q)
    · rintro ((q | q) | q)
      · exact .inl q
      · exact .inr (.inr q)
      · exact .inr (.inl q)
  have nd := S.nd
  simp only [adr, List.map_append, List.map_cons, List.map_nil] at nd
  rw [List.nodup_append] at nd
  have hpL : p ∉ adr L := fun q => nd.2.2 p q p (by simp) rfl
  have h0 : B0 p = none := by
    cases e : B0 p with
    | none => rfl
    | some o => exact absurd (by simp [adr]) (S.base p o e).2
  refine ⟨xs, hx, h0, S.fo, t.length, fun a o e => ?_, fun a ha => ?_, nd.1, fun q hq => ?_, S.len, fun i d e => ?_, ?_⟩
  · by_cases h : a = p
    · subst h
      rw [upd_same] at e
      cases e
      exact ⟨hx, hpL⟩
    · rw [upd_ne h] at e
      obtain ⟨e1, e2⟩ := S.base a o e
      exact ⟨e1, fun q => e2 (by simp only [adr, List.map_append]; exact List.mem_append_left _ q)⟩
  · by_cases h : a = p
    · subst h
      exact ⟨_, upd_same⟩
    · rcases List.mem_append.mp ha with q | q
      · obtain ⟨o, e⟩ := S.fo a q
        exact ⟨o, by rw [upd_ne h]; exact e⟩
      · simp at q
        exact absurd q h
  · rw [← hv]
    exact S.cells q (List.mem_append_left _ hq)
  · rw [← hv]
    exact S.slots i d e
  · rw [← hv]
    exact t.append S.temps
/-- .. and comes back, perhaps longer -/
theorem Sat.unhide {more : List V} {moreD : List D} (h0 : B0 p = none) (hf : ∀ a ∈ F, ∃ o, B0 a = some o) (hl : xs.length = acc.length) (hm : more.length = moreD.length) (S : Sat K (upd B0 p (.lst xs)) (F ++ [p]) H σ Γ (more ++ (xs ++ ts)) (moreD ++ (acc ++ τ)) L) :
    H p = some (.lst xs) ∧ Sat K B0 F (upd H p (.lst (xs ++ more))) σ Γ ts τ (L ++ [(p, .lst (acc ++ moreD))]) := by
  obtain ⟨hx, hpL⟩ := S.base p _ upd_same
  obtain ⟨om, S1⟩ := S.args hm
  obtain ⟨ox, S2⟩ := S1.args hl
  have le : vis (upd H p (.lst (xs ++ more))) (F ++ adr (L ++ [(p, D.lst (acc ++ moreD))])) = vis H (F ++ [p] ++ adr L) := by
    funext a
    unfold vis
    have hmem : a ∈ F ++ adr (L ++ [(p, D.lst (acc ++ moreD))]) ↔ a ∈ F ++ [p] ++ adr L := by
      simp only [adr, List.map_append, List.mem_append, List.map_cons, List.map_nil, List.mem_singleton]
      constructor
      · rintro (q | q | q)
        · exact .inl (.inl q)
        · exact .inr q
        · exact .inl (.inr q)
      · rintro ((q | q) | q)
        · exact .inl q
        · exact .inr (.inr q)
        · exact .inr (.inl q)
    by_cases h : a ∈ F ++ [p] ++ adr L
    · rw [if_pos h, if_pos (hmem.mpr h)]
    · rw [if_neg h, if_neg fun q => h (hmem.mp q)]
      refine upd_ne fun e => h ?_
      rw [e]
      simp
  refine ⟨hx, fun a o e => ?_, hf, ?_, fun q hq => ?_, S2.len, fun i d e => ?_, by rw [le]; exact S2.temps⟩
  · have h : a ≠ p := fun z => by rw [z, h0] at e; cases e
    obtain ⟨e1, e2⟩ := S.base a o (by rw [upd_ne h]; exact e)
    refine ⟨by rw [upd_ne h]; exact e1, ?_⟩
    simp only [adr, List.map_append, List.mem_append, List.map_cons, List.map_nil, List.mem_singleton, not_or]
    exact ⟨e2, h⟩
  · simp only [adr, List.map_append, List.map_cons, List.map_nil]
    rw [List.nodup_append]
    refine ⟨S2.nd, by simp, fun a ha b hb e => ?_⟩
    simp at hb
    subst hb
    subst e
    exact hpL ha
  · rcases List.mem_append.mp hq with q1 | q1
    · have hne : q.1 ≠ p := fun z => hpL (by rw [← z]; exact List.mem_map_of_mem q1)
      rw [le]
      exact (S2.cells q q1).mono (Le.refl _) (upd_ne hne)
    · simp at q1
      subst q1
      rw [le]
      exact ⟨_, upd_same, ox.append om⟩
  · rw [le]
    exact S2.slots i d e
/-- the slots' values held -/
def pick : Gam → L2.St → List V × List D
  | some d :: Γ, some v :: σ => (v :: (pick Γ σ).1, d :: (pick Γ σ).2)
  | _ :: Γ, _ :: σ => pick Γ σ
  | _, _ => ([], [])
theorem pick_ok {B : Hp} : ∀ {Γ : Gam} {σ : L2.St}, (∀ (i : Nat) d, Γ[i]? = some (some d) → ∃ v, σ[i]? = some (some v) ∧ Ob K B v d) → (pick Γ σ).1.length = (pick Γ σ).2.length ∧ ObL K B (pick Γ σ).1 (pick Γ σ).2
  | [], σ, _ => by cases σ <;> exact ⟨rfl, .nil⟩
  | none :: Γ, [], h => ⟨rfl, .nil⟩
  | some d :: Γ, [], h => ⟨rfl, .nil⟩
  | none :: Γ, x :: σ, h => by
    have := pick_ok (Γ := Γ) (σ := σ) fun i d e => by simpa using h (i + 1) d (by simpa using e)
    cases x <;> exact this
  | some d :: Γ, none :: σ, h => by
    obtain ⟨v, e, _⟩ := h 0 d rfl
    cases e
  | some d :: Γ, some v :: σ, h => by
    obtain ⟨h1, h2⟩ := pick_ok (Γ := Γ) (σ := σ) fun i d e => by simpa using h (i + 1) d (by simpa using e)
    obtain ⟨u, e, o⟩ := h 0 d rfl
    cases e
    exact ⟨by simp [pick, h1], .cons o h2⟩
theorem pick_back {B B' : Hp} : ∀ {Γ : Gam} {σ : L2.St}, (∀ (i : Nat) d, Γ[i]? = some (some d) → ∃ v, σ[i]? = some (some v) ∧ Ob K B v d) → ObL K B' (pick Γ σ).1 (pick Γ σ).2 → ∀ (i : Nat) d, Γ[i]? = some (some d) → ∃ v, σ[i]? = some (some v) ∧ Ob K B' v d
  | [], σ, _, _, i, d, e => by simp at e
  | none :: Γ, [], h, _, i, d, e => by
    obtain ⟨v, q, _⟩ := h i d e
    simp at q
  | some d :: Γ, [], h, _, i, _, e => by
    obtain ⟨v, q, _⟩ := h i _ e
    simp at q
  | none :: Γ, x :: σ, h, o, i, d, e => by
    have o' : ObL K B' (pick Γ σ).1 (pick Γ σ).2 := by cases x <;> exact o
    cases i with
    | zero => simp at e
    | succ i => simpa using pick_back (Γ := Γ) (σ := σ) (fun i d e => by simpa using h (i + 1) d (by simpa using e)) o' i d (by simpa using e)
  | some d0 :: Γ, none :: σ, h, o, i, d, e => by
    obtain ⟨v, q, _⟩ := h 0 d0 rfl
    cases q
  | some d0 :: Γ, some v0 :: σ, h, o, i, d, e => by
    cases o with
    | cons o1 o2 =>
      cases i with
      | zero =>
        simp at e
        subst e
        exact ⟨v0, rfl, o1⟩
      | succ i => simpa using pick_back (Γ := Γ) (σ := σ) (fun i d e => by simpa using h (i + 1) d (by simpa using e)) o2 i d (by simpa using e)
def wipeG (Γ : Gam) : List Nat → Gam
  | [] => Γ
  | v :: vs => (wipeG Γ vs).set v none
theorem wipe_get (σ : L2.St) (vs : List Nat) (i : Nat) (h : i ∉ vs) : (wipe σ vs)[i]? = σ[i]? := by
  induction vs with
  | nil => rfl
  | cons v vs ih =>
    simp only [List.mem_cons, not_or] at h
    unfold wipe
    rw [List.getElem?_set_ne (Ne.symm h.1)]
    exact ih h.2
theorem wipe_in (σ : L2.St) (vs : List Nat) (i : Nat) (h : i ∈ vs) (hl : i < σ.length) : (wipe σ vs)[i]? = some none := by
  induction vs with
  | nil => cases h
  | cons v vs ih =>
    unfold wipe
    by_cases e : v = i
    · subst e
      rw [List.getElem?_set_self (by rw [wipe_length]; exact hl)]
    · rw [List.getElem?_set_ne e]
      exact ih ((List.mem_cons.mp h).resolve_left fun z => e z.symm)
theorem wipe_off {σ σ2 : L2.St} {js vs : List Nat} (h : Off js (wipe σ vs) σ2) (hs : ∀ j ∈ js, j ∈ vs) : wipe σ2 vs = wipe σ vs := by
  have hlen : σ2.length = σ.length := h.1.trans (wipe_length _ _)
  refine List.ext_getElem? fun i => ?_
  by_cases hi : i ∈ vs
  · by_cases hl : i < σ.length
    · rw [wipe_in σ2 vs i hi (by omega), wipe_in σ vs i hi hl]
    · rw [List.getElem?_eq_none (by rw [wipe_length]; omega), List.getElem?_eq_none (by rw [wipe_length]; omega)]
  · rw [wipe_get σ2 vs i hi, h.2 i fun q => hi (hs i q)]
theorem wipeG_length (Γ : Gam) (vs : List Nat) : (wipeG Γ vs).length = Γ.length := by
  induction vs with
  | nil => rfl
  | cons v vs ih => unfold wipeG; rw [List.length_set, ih]
theorem wipeG_some {Γ : Gam} {vs : List Nat} {i : Nat} {d : D} (h : (wipeG Γ vs)[i]? = some (some d)) : Γ[i]? = some (some d) ∧ i ∉ vs := by
  induction vs with
  | nil => exact ⟨h, by simp⟩
  | cons v vs ih =>
    unfold wipeG at h
    by_cases e : v = i
    · subst e
      by_cases hl : v < (wipeG Γ vs).length
      · rw [List.getElem?_set_self hl] at h; cases h
      · rw [List.getElem?_eq_none (by simpa using hl)] at h; cases h
    · rw [List.getElem?_set_ne e] at h
      obtain ⟨h1, h2⟩ := ih h
      exact ⟨h1, by simp only [List.mem_cons, not_or]; exact ⟨fun z => e z.symm, h2⟩⟩
theorem Sat.wiped (S : Sat K B0 F H σ Γ ts τ L) (vs : List Nat) : Sat K B0 F H (wipe σ vs) (wipeG Γ vs) ((pick Γ σ).1 ++ ts) ((pick Γ σ).2 ++ τ) L := by
  refine ⟨S.base, S.fo, S.nd, S.cells, by rw [wipe_length, wipeG_length]; exact S.len, fun i d e => ?_, (pick_ok S.slots).2.append S.temps⟩
  obtain ⟨e1, e2⟩ := wipeG_some e
  obtain ⟨v, q, o⟩ := S.slots i d e1
  exact ⟨v, by rw [wipe_get _ _ _ e2]; exact q, o⟩
theorem Sat.unwiped {B1 : Hp} {F1 : List Addr} {H1 : Hp} {L1 : Cells} {τ1 : List D} {ts1 : List V} (S : Sat K B1 F1 H1 σ Γ ts1 τ1 L1) (S' : Sat K B0 F H σ' Γ' ((pick Γ σ).1 ++ ts) ((pick Γ σ).2 ++ τ) L) : Sat K B0 F H σ Γ ts τ L := by
  obtain ⟨o, S2⟩ := S'.args (pick_ok S.slots).1
  exact ⟨S2.base, S2.fo, S2.nd, S2.cells, S.len, pick_back S.slots o, S2.temps⟩
end
variable {tg iter elt : Expr} {ifs : List Expr} {scope : Scope} {R : RD}
/-- [elt for tg in iter if ..]: W by the turn, what is made, the own objects: the reading -/
def LcH (X : Cx) (tg iter elt : Expr) (scope : Scope) (js vs : List Nat) (tts : Shared → Hp → Addr → List (Str × Addr) → List Addr → TT) (Γ : Gam) (L : Cells) (R : RD) : Prop :=
  IterX X tg iter Γ L fun ds L1 => ∃ W : Nat → List D → Cells → Prop, W 0 [] L1 ∧
      (∀ i d acc L', ds[i]? = some d → W i acc L' → ∀ s H C cl fp, TgX (BX X scope s H C cl fp) tg js d (wipeG Γ vs) L' fun Γ2 L2 => ∀ s H C cl fp, TtX X.K (tts s H C cl fp) Γ2 L2 fun b L3 =>
        if b = true then ∀ s H C cl fp, EvX (BX X scope s H C cl fp) elt Γ2 L3 fun d' L4 => acc.length < sizeLine ∧ W (i + 1) (acc ++ [d']) L4 else W (i + 1) acc L3) ∧
      ∀ acc L', W ds.length acc L' → ∀ p, R (.ref p) (L' ++ [(p, .lst acc)])
theorem lcG_read {js vs : List Nat} {tts : Shared → Hp → Addr → List (Str × Addr) → List Addr → TT} (hjs : ∀ j ∈ js, j ∈ vs) (h : LcH X tg iter elt scope js vs tts Γ L R)
    {B0 : Hp} {F : List Addr} {H : Hp} {σ : L2.St} {ts : List V} {τ : List D} {Q : VK} (S : Sat X.K B0 F H σ Γ ts τ L) (q : ∀ v d H' L', R d L' → Sat X.K B0 F H' σ Γ (v :: ts) (d :: τ) L' → Q v H') :
    tLc (WI X tg iter) (fun v σ H Q => ∀ s H0 C cl fp, WG (BX X scope s H0 C cl fp) tg v σ H Q) (fun σ H Q => ∀ s H0 C cl fp, tts s H0 C cl fp σ H Q) (fun σ H Q => ∀ s H0 C cl fp, WE (BX X scope s H0 C cl fp) elt σ H Q) vs σ H Q := by
  refine h.run S fun J ds H1 L1 ⟨W, w0, turn, done⟩ S1 it => fun p hp => ?_
  have S2 := (S1.over.wiped vs).newC (o := .lst []) (d := .lst []) hp fun B le => ⟨[], upd_same, .nil⟩
  refine ⟨fun i m H => m = ds.length - i ∧ i ≤ ds.length ∧ ∃ acc L', W i acc L' ∧ Sat X.K (vis H1 (adr L1)) F H (wipe σ vs) (wipeG Γ vs) ((pick Γ σ).1 ++ ts) ((pick Γ σ).2 ++ τ) (L' ++ [(p, .lst acc)]),
    ⟨_, rfl, Nat.zero_le _, [], L1, w0, S2⟩, fun i m H3 ⟨hm, hi, acc, L', w', S3⟩ => ?_⟩
  by_cases hlt : i < ds.length
  · refine .inr ⟨it.go i S3 hlt, fun H' => ∃ acc L', W (i + 1) acc L' ∧ Sat X.K (vis H1 (adr L1)) F H' (wipe σ vs) (wipeG Γ vs) ((pick Γ σ).1 ++ ts) ((pick Γ σ).2 ++ τ) (L' ++ [(p, .lst acc)]), fun H' z => ⟨ds.length - (i + 1), by omega, rfl, hlt, z⟩, fun x H' y => ?_⟩
    obtain ⟨d, hd, S4⟩ := it.yld i x H' hlt S3 y
    obtain ⟨xs, hx, h0, hf, hl, S5⟩ := S4.hide
    have S6 : Sat X.K _ _ H' (wipe σ vs) (wipeG Γ vs) (x :: (xs ++ ((pick Γ σ).1 ++ ts))) (d :: (acc ++ ((pick Γ σ).2 ++ τ))) L' := ⟨S5.base, S5.fo, S5.nd, S5.cells, S5.len, S5.slots, ObL.swap hl S5.temps⟩
    intro s H0 C cl fp
    refine (turn i d acc L' hd w' s _ C cl fp).run S6 fun Γ2 L2 σ2 H2 off t2 S7 => ⟨wipe_off off hjs, ?_⟩
    intro s H0 C cl fp
    refine (t2 s H0 C cl fp).run S7 fun b H4 L4 b4 S8 => ?_
    cases b with
    | true =>
      rw [if_pos rfl]
      intro s H0 C cl fp
      refine ((show ∀ s H C cl fp, EvX (BX X scope s H C cl fp) elt Γ2 L4 _ from b4) s H0 C cl fp).run S8 fun v d' H5 L5 ⟨z, w5⟩ S9 => ?_
      obtain ⟨hx9, S10⟩ := Sat.unhide (more := [v]) (moreD := [d']) h0 hf hl rfl S9
      exact ⟨xs, hx9, by rw [hl]; exact z, acc ++ [d'], L5, w5, (Sat.unwiped S1 S10).wiped _⟩
    | false =>
      rw [if_neg Bool.false_ne_true]
      obtain ⟨hx9, S10⟩ := Sat.unhide (more := []) (moreD := []) h0 hf hl rfl S8
      rw [List.append_nil, List.append_nil] at S10
      have eH : upd H4 p (.lst xs) = H4 := by
        funext a
        by_cases z : a = p
        · rw [z, upd_same, hx9]
        · exact upd_ne z
      rw [eH] at S10
      exact ⟨acc, L4, b4, (Sat.unwiped S1 S10).wiped _⟩
  · have e : i = ds.length := by omega
    subst e
    refine .inl ⟨it.stop S3, q _ _ _ _ (done acc L' w' p) ((S1.under (Sat.unwiped S1 S3)).push (.ref p))⟩
section
variable {own : List (Str × Nat)} {js : List Nat} {tts : Shared → Hp → Addr → List (Str × Addr) → List Addr → TT}
theorem ev_lcG (hc : X.calm = true) (hN : X.N.Nodup) (ok : BlkOk X.N X.env.scope scope own) (hjs : ∀ j ∈ js, j ∈ own.map (·.2)) (hts : ∀ s H C cl fp, PTs (BX X scope s H C cl fp) ifs (tts s H C cl fp))
    (h : LcH X tg iter elt scope js (own.map (·.2)) tts Γ L R) (hs : ∀ x, foldedSetIterable iter X.env x = pure x := by intro _; rfl) :
    EvX X (.ListComp elt [⟨tg, iter, ifs, 0⟩] scope pos) Γ L R := .mk fun {B0 F H σ ts τ Q} S q =>
  we_of (pe_lc (g := fun v σ H Q => ∀ s H0 C cl fp, WG (BX X scope s H0 C cl fp) tg v σ H Q) (tt := fun σ H Q => ∀ s H0 C cl fp, tts s H0 C cl fp σ H Q) (te := fun σ H Q => ∀ s H0 C cl fp, WE (BX X scope s H0 C cl fp) elt σ H Q) hc hN pi_w ok
    (fun s H C cl fp => ⟨fun pins s1 σ H v u Q I r z => pg_w.run pins s1 σ H v u Q I r (z s _ C cl fp)⟩) (fun s H C cl fp => ⟨fun pins s1 σ H Q I z => (hts s _ C cl fp).run pins s1 σ H Q I (z s _ C cl fp)⟩)
    (fun s H C cl fp => ⟨fun pins s1 σ H Q I z => pe_w.run pins s1 σ H Q I (z s _ C cl fp)⟩) hs) (lcG_read hjs h S q)
/-- y = [..], on one line -/
theorem st_lcG (i : Nat) {y : Str} {py spos : Pos} (hc : X.calm = true) (hN : X.N.Nodup) (ok : BlkOk X.N X.env.scope scope own) (hjs : ∀ j ∈ js, j ∈ own.map (·.2)) (hts : ∀ s H C cl fp, PTs (BX X scope s H C cl fp) ifs (tts s H C cl fp))
    (hsw : swapsWith (.ListComp elt [⟨tg, iter, ifs, 0⟩] scope pos) (some (.Name y py)) spos.line X.env = pure true)
    (h : LcH X tg iter elt scope js (own.map (·.2)) tts Γ L fun d L' => E.nx (Γ.set i (some d)) L') (hs : ∀ x, foldedSetIterable iter X.env x = pure x := by intro _; rfl) (hy : X.N[i]? = some y := by rfl) (hyl : X.env.scope.names.lookup y = some .local := by rfl) :
    StX X (.Assign [.Name y py] (.ListComp elt [⟨tg, iter, ifs, 0⟩] scope pos) spos) Γ L E := .mk fun {B0 F H σ ts τ D} S ok' =>
  ws_of (ps_setLc (g := fun v σ H Q => ∀ s H0 C cl fp, WG (BX X scope s H0 C cl fp) tg v σ H Q) (tt := fun σ H Q => ∀ s H0 C cl fp, tts s H0 C cl fp σ H Q) (te := fun σ H Q => ∀ s H0 C cl fp, WE (BX X scope s H0 C cl fp) elt σ H Q) hc hN hy hyl hsw pi_w ok
    (fun s H C cl fp => ⟨fun pins s1 σ H v u Q I r z => pg_w.run pins s1 σ H v u Q I r (z s _ C cl fp)⟩) (fun s H C cl fp => ⟨fun pins s1 σ H Q I z => (hts s _ C cl fp).run pins s1 σ H Q I (z s _ C cl fp)⟩)
    (fun s H C cl fp => ⟨fun pins s1 σ H Q I z => pe_w.run pins s1 σ H Q I (z s _ C cl fp)⟩) hs) (lcG_read hjs h S fun v d H' L' r S' => ok'.nx _ _ _ _ r (S'.setSlot i))
end
def tYesT : Shared → Hp → Addr → List (Str × Addr) → List Addr → TT := fun _ _ _ _ _ => tYes
theorem ttx_yes {K : PySem.W.Frag} {R : Bool → Cells → Prop} (r : R true L) : TtX K tYes Γ L R := .mk fun S q => q _ _ _ r S
/-- no test, one name as target: the elements are f -/
theorem lc_map {j : Nat} {vs : List Nat} {x : Str} {p1 : Pos} (f : Nat → D → D) (hN : X.N.Nodup)
    (h : IterX X (.Name x p1) iter Γ L fun ds L1 => ds.length ≤ sizeLine ∧ (∀ i d, ds[i]? = some d → ∀ s H C cl fp, EvX (BX X scope s H C cl fp) elt ((wipeG Γ vs).set j (some d)) L1 fun d' L' => d' = f i d ∧ L' = L1) ∧ ∀ p, R (.ref p) (L1 ++ [(p, .lst (ds.mapIdx f))]))
    (hg : ∀ s H C cl fp, (BX X scope s H C cl fp).N[j]? = some x ∧ Loc (BX X scope s H C cl fp).env.scope x ∧ ((BX X scope s H C cl fp).fn x = true ∨ (BX X scope s H C cl fp).env.scope.names.lookup x = some .local)) : LcH X (.Name x p1) iter elt scope [j] vs tYesT Γ L R := .mk fun S q =>
  h.run S fun J ds H1 L1 ⟨z, he, r⟩ S1 it => q J ds H1 L1 ⟨fun i acc L' => acc = (ds.take i).mapIdx f ∧ L' = L1, ⟨by simp, rfl⟩, fun i d acc L' hd ⟨ea, eL⟩ s H C cl fp => by
    subst ea eL
    obtain ⟨h1, h2, h3⟩ := hg s H C cl fp
    refine tg_v j (X := BX X scope s H C cl fp) hN ?_ h1 h2 h3
    intro s H C cl fp
    refine ttx_yes ?_
    rw [if_pos rfl]
    intro s H C cl fp
    refine EvX.imp (he i d hd s H C cl fp) fun d' L4 ⟨e1, e2⟩ => ?_
    subst e1 e2
    have hi := (List.getElem?_eq_some_iff.mp hd).1
    refine ⟨by simp; omega, ?_, rfl⟩
    have e3 : ds.take (i + 1) = ds.take i ++ [d] := by rw [List.take_add_one, hd]; rfl
    have e4 : (ds.take i).length = i := by rw [List.length_take]; omega
    rw [e3, List.mapIdx_append]
    simp [e4], fun acc L' ⟨ea, eL⟩ p => by
    subst ea eL
    rw [List.take_length]
    exact r p⟩ S1 it
end
end DL
set_option maxRecDepth 100000
set_option maxHeartbeats 4000000
/-! DL8: chains of comparisons, several targets, ranges, pairs. -/
namespace DL
open PySem PySem.Spec PyProof.Rows L2
section
variable {X : Cx} {Γ : Gam} {L : Cells} {pos : Pos} {E : En} {e a b c : Expr} {R : RD}
/-- a op b op' c -/
theorem ev_chain {op op' : CmpOp} {r r' : R2} (ho : OpR X (compareOp op) r) (ho' : OpR X (compareOp op') r')
    (h : EvX X a Γ L fun d1 L1 => EvX X b Γ L1 fun d2 L2 => Op2 X.K r d1 d2 L2 fun d L3 => ∃ k, d = .bl k ∧ if k = true then EvX X c Γ L3 fun d3 L4 => Op2 X.K r' d2 d3 L4 R else R (.bl false) L3)
    (hm : lastMarks [op, op'] [b, c] = false := by with_unfolding_all rfl) : EvX X (.Compare a [op, op'] [b, c] pos) Γ L R := .mk fun S q =>
  we_of (pe_chain ho ho' pe_w pe_w pe_w hm) (h.run S fun v1 d1 H1 L1 h1 S1 => h1.run S1 fun v2 d2 H2 L2 h2 S2 => by
    obtain ⟨o1, o2, S3⟩ := S2.two
    refine h2.run (((S3.push o2).push o1).push o2) fun v d H3 L3 ⟨k, e, r3⟩ S4 => ?_
    subst e
    cases S4.top
    refine ⟨k, rfl, ?_⟩
    cases k with
    | true => exact (show EvX X c Γ L3 _ from r3).run S4.pop fun v3 d3 H4 L4 h4 S5 => h4.run S5 q
    | false => exact q _ _ _ _ r3 (S4.pop.pop.push (.bl false)))
theorem te_chain {op op' : CmpOp} {r r' : R2} {R : Bool → Cells → Prop} (ho : OpR X (compareOp op) r) (ho' : OpR X (compareOp op') r')
    (h : EvX X a Γ L fun d1 L1 => EvX X b Γ L1 fun d2 L2 => Op2 X.K r d1 d2 L2 fun d L3 => ∃ k, d = .bl k ∧ if k = true then EvX X c Γ L3 fun d3 L4 => Op2 X.K r' d2 d3 L4 fun d5 L5 => ∃ k, d5 = .bl k ∧ R k L5 else R false L3)
    (hm : lastMarks [op, op'] [b, c] = false := by with_unfolding_all rfl) : TeX X (.Compare a [op, op'] [b, c] pos) Γ L R := .mk fun S q =>
  wt_of (pt_chain ho ho' pe_w pe_w pe_w hm) (h.run S fun v1 d1 H1 L1 h1 S1 => h1.run S1 fun v2 d2 H2 L2 h2 S2 => by
    obtain ⟨o1, o2, S3⟩ := S2.two
    refine h2.run (((S3.push o2).push o1).push o2) fun v d H3 L3 ⟨k, e, r3⟩ S4 => ?_
    subst e
    cases S4.top
    refine ⟨k, rfl, ?_⟩
    cases k with
    | true =>
      refine (show EvX X c Γ L3 _ from r3).run S4.pop fun v3 d3 H4 L4 h4 S5 => h4.run S5 fun v d H' L' ⟨k, e, r⟩ S' => ?_
      subst e
      cases S'.top
      exact ⟨k, rfl, q k H' L' r S'.pop⟩
    | false => exact ⟨false, rfl, q _ _ _ r3 S4.pop.pop⟩)
/-! ### a, b = x, y with plain locals -/
theorem st_par (i j : Nat) {x y : Str} {px py pt : Pos} {kt k2 pt2} (hc : X.calm = true) (hN : X.N.Nodup) (hij : i ≠ j) (h : AgX X [a, b] Γ L fun ds L1 => ∃ d1 d2, ds = [d1, d2] ∧ E.nx ((Γ.set i (some d1)).set j (some d2)) L1)
    (hi : X.N[i]? = some x := by rfl) (hj : X.N[j]? = some y := by rfl) (hx : X.env.scope.names.lookup x = some .local := by rfl) (hy : X.env.scope.names.lookup y = some .local := by rfl)
    (hw : swappedStores [.Tuple [.Name x px, .Name y py] kt pt] (.Tuple [a, b] k2 pt2) X.env = pure (some [x, y]) := by rfl)
    (hs : swapsWithSole [.Tuple [.Name x px, .Name y py] kt pt] (.Tuple [a, b] k2 pt2) pos.line X.env = pure false := by rfl) : StX X (.Assign [.Tuple [.Name x px, .Name y py] kt pt] (.Tuple [a, b] k2 pt2) pos) Γ L E := .mk fun S ok =>
  ws_of (ps_par hc hN hi hj hij hx hy pa_w hw hs) (h.run S fun vs ds H1 L1 ⟨d1, d2, e, r⟩ hl S1 => by
    subst e
    obtain ⟨o, S2⟩ := S1.args hl
    obtain ⟨v, w, rfl, o1, o2⟩ := o.two
    exact ⟨v, w, rfl, ok.nx _ _ _ _ r ((((S2.push o2).push o1).setSlot i).setSlot j)⟩)
theorem st_par3 (i j l : Nat) {x y z : Str} {px py pz pt : Pos} {kt k2 pt2} (hc : X.calm = true) (hN : X.N.Nodup) (hij : i ≠ j) (hil : i ≠ l) (hjl : j ≠ l) (h : AgX X [a, b, c] Γ L fun ds L1 => ∃ d1 d2 d3, ds = [d1, d2, d3] ∧ E.nx (((Γ.set i (some d1)).set j (some d2)).set l (some d3)) L1)
    (hi : X.N[i]? = some x := by rfl) (hj : X.N[j]? = some y := by rfl) (hl : X.N[l]? = some z := by rfl) (hx : X.env.scope.names.lookup x = some .local := by rfl) (hy : X.env.scope.names.lookup y = some .local := by rfl) (hz : X.env.scope.names.lookup z = some .local := by rfl)
    (hw : swappedStores [.Tuple [.Name x px, .Name y py, .Name z pz] kt pt] (.Tuple [a, b, c] k2 pt2) X.env = pure (some [x, y, z]) := by rfl)
    (hs : swapsWithSole [.Tuple [.Name x px, .Name y py, .Name z pz] kt pt] (.Tuple [a, b, c] k2 pt2) pos.line X.env = pure false := by rfl) : StX X (.Assign [.Tuple [.Name x px, .Name y py, .Name z pz] kt pt] (.Tuple [a, b, c] k2 pt2) pos) Γ L E := .mk fun S ok =>
  ws_of (ps_par3 hc hN hi hj hl hij hil hjl hx hy hz pa_w hw hs) (h.run S fun vs ds H1 L1 ⟨d1, d2, d3, e, r⟩ hl S1 => by
    subst e
    obtain ⟨o, S2⟩ := S1.args hl
    cases o with
    | cons o1 t =>
      obtain ⟨v, w, rfl, o2, o3⟩ := t.two
      exact ⟨_, v, w, rfl, ok.nx _ _ _ _ r ((((((S2.push o3).push o2).push o1).setSlot i).setSlot j).setSlot l)⟩)
/-! ### ranges -/
theorem itx_range1 {tg : Expr} {p : Pos} {R : List D → Cells → Prop} (hm : X.mg "range" = none) (h : AgX X [a] Γ L fun ds L1 => ∃ n : Nat, ds = [.int n] ∧ n < 2 ^ 62 ∧ R (rangeD 0 n) L1) (hg : Gl X "range" := by rfl) (hs : starEach [a] X.env = [(false, eval a X.env)] := by rfl) :
    IterX X tg (.Call (.Name "range" p) [a] [] pos) Γ L R := .mk fun S q =>
  wi_of (pi_range1 hg hm pa_w hs) (h.run S fun vs ds H1 L1 ⟨n, e, z, r⟩ hl S1 => by
    subst e
    obtain ⟨o, S2⟩ := S1.args hl
    obtain ⟨v, rfl, o1⟩ := o.one
    cases o1
    exact ⟨n, rfl, by omega, by omega, q _ _ _ _ r S2 itd_range⟩)
/-- n - 1, n - 2, .., 0 -/
def downD (n : Nat) : List D := (List.range n).map fun (i : Nat) => D.int ((n : Int) - 1 - i)
theorem downD_length (n : Nat) : (downD n).length = n := by simp [downD]
theorem downD_get {n i : Nat} (h : i < n) : (downD n)[i]? = some (.int ((n : Int) - 1 - i)) := by simp [downD, h]
theorem itd_down {K : PySem.W.Frag} {F : List Addr} {B : Hp} {n : Nat} : ItD K F B (Itc ((n : Int) - 1) (-1) n) (downD n) where
  go := fun {H σ Γ ts τ L} i S hi => by rw [downD_length] at hi; exact hi
  stop := fun {H σ Γ ts τ L} S => by rw [downD_length]; exact Nat.le_refl n
  yld := fun {H σ Γ ts τ L} i x H' hi S ⟨e, y⟩ => by
    subst e y
    rw [downD_length] at hi
    have e : (n : Int) - 1 + (i : Nat) * (-1) = (n : Int) - 1 - i := by omega
    rw [e]
    exact ⟨_, downD_get hi, S.push (.int _)⟩
theorem itx_down {tg : Expr} {p : Pos} {R : List D → Cells → Prop} (hm : X.mg "range" = none) (h : AgX X [a, b, c] Γ L fun ds L1 => ∃ n : Nat, ds = [.int ((n : Int) - 1), .int (-1), .int (-1)] ∧ n < 2 ^ 61 ∧ R (downD n) L1) (hg : Gl X "range" := by rfl)
    (hs : starEach [a, b, c] X.env = (false, eval a X.env) :: starEach [b, c] X.env := by rfl) (hs2 : (backTo pos (starEach [b, c] X.env)).any (·.1) = false := by rfl) :
    IterX X tg (.Call (.Name "range" p) [a, b, c] [] pos) Γ L R := .mk fun S q =>
  wi_of (pi_range3 hg hm pa_w hs hs2) (h.run S fun vs ds H1 L1 ⟨n, e, z, r⟩ hl S1 => by
    subst e
    obtain ⟨o, S2⟩ := S1.args hl
    cases o with
    | cons o1 t =>
      obtain ⟨v, w, rfl, o2, o3⟩ := t.two
      cases o1
      cases o2
      cases o3
      refine ⟨_, _, _, n, rfl, ?_, q _ _ _ _ r S2 itd_down⟩
      have := RgC.neg (i := (n : Int) - 1) (j := -1) (by omega) (by omega) (by omega) (by omega)
      have e : ((n : Int) - 1 - -1).toNat = n := by omega
      rw [e] at this
      exact this)
/-! ### pairs -/
/-- (0, x), (1, y), .. -/
def enumD (ds : List D) : List D := ds.mapIdx fun (i : Nat) d => D.tup [.int i, d]
theorem enumD_length (ds : List D) : (enumD ds).length = ds.length := by simp [enumD]
theorem enumD_get {ds : List D} {i : Nat} {d : D} (h : ds[i]? = some d) : (enumD ds)[i]? = some (.tup [.int i, d]) := by simp [enumD, h]
theorem itd_enum {K : PySem.W.Frag} {F : List Addr} {H1 : Hp} {L1 : Cells} {a : Addr} {xs : List V} {ds : List D} (s : SqL K (vis H1 (F ++ adr L1)) a xs) (t : ObL K (vis H1 (F ++ adr L1)) xs ds) : ItD K F (vis H1 (adr L1)) (Ite K a) (enumD ds) where
  go := fun {H σ Γ ts τ L} i S hi => by
    rw [enumD_length] at hi
    exact ⟨xs, xs[i]'(by rw [t.length]; exact hi), vis_le.sqL ((sat_le S).sqL s), by rw [List.getElem?_eq_getElem]⟩
  stop := fun {H σ Γ ts τ L} S => ⟨xs, vis_le.sqL ((sat_le S).sqL s), by rw [t.length, enumD_length]; exact Nat.le_refl _⟩
  yld := fun {H σ Γ ts τ L} i x H' hi S ⟨T, y, ex, hT, eH, hy⟩ => by
    subst ex eH
    obtain ⟨d, hd, o⟩ := t.get' (hy xs (vis_le.sqL ((sat_le S).sqL s)))
    obtain ⟨S2, le, hn⟩ := S.newB (o := .tup [.int i, y]) hT
    exact ⟨_, enumD_get hd, S2.push (.tup (SqT.of hn) (.cons (.int i) (.cons ((o.mono (sat_le S)).mono le) .nil)))⟩
theorem itx_enum {elts : List Expr} {kk : Nat} {tpos p : Pos} {R : List D → Cells → Prop} (hm : X.mg "enumerate" = none) (h : AgX X [e] Γ L fun ds L1 => ∃ es, ds = [.lst es] ∧ R (enumD es) L1) (hg : Gl X "enumerate" := by rfl) (hs : starEach [e] X.env = [(false, eval e X.env)] := by rfl) :
    IterX X (.Tuple elts kk tpos) (.Call (.Name "enumerate" p) [e] [] pos) Γ L R := .mk fun S q =>
  wi_of (pi_enum hg hm pa_w hs) (h.run S fun vs ds H1 L1 ⟨es, ed, r⟩ hl S1 => by
    subst ed
    obtain ⟨o, S2⟩ := S1.args hl
    obtain ⟨v, rfl, o1⟩ := o.one
    cases o1 with
    | lst s t => exact ⟨_, _, rfl, vis_le.sqL s, q _ _ _ _ r S2 (itd_enum s t)⟩)
/-- .. of a tuple -/
def IteT (K : PySem.W.Frag) (a : Addr) : It :=
  ⟨fun i H => ∃ (xs : List V) (x : V), SqT K H a xs ∧ xs[i]? = some x, fun i H v H' => ∃ T x, v = .ref T ∧ H T = none ∧ H' = upd H T (.tup [.int (i : Nat), x]) ∧ ∀ xs, SqT K H a xs → xs[i]? = some x, fun i H => ∃ xs : List V, SqT K H a xs ∧ xs.length ≤ i⟩
theorem itd_enumT {K : PySem.W.Frag} {F : List Addr} {H1 : Hp} {L1 : Cells} {a : Addr} {xs : List V} {ds : List D} (s : SqT K (vis H1 (F ++ adr L1)) a xs) (t : ObL K (vis H1 (F ++ adr L1)) xs ds) : ItD K F (vis H1 (adr L1)) (IteT K a) (enumD ds) where
  go := fun {H σ Γ ts τ L} i S hi => by
    rw [enumD_length] at hi
    exact ⟨xs, xs[i]'(by rw [t.length]; exact hi), vis_le.sqT ((sat_le S).sqT s), by rw [List.getElem?_eq_getElem]⟩
  stop := fun {H σ Γ ts τ L} S => ⟨xs, vis_le.sqT ((sat_le S).sqT s), by rw [t.length, enumD_length]; exact Nat.le_refl _⟩
  yld := fun {H σ Γ ts τ L} i x H' hi S ⟨T, y, ex, hT, eH, hy⟩ => by
    subst ex eH
    obtain ⟨d, hd, o⟩ := t.get' (hy xs (vis_le.sqT ((sat_le S).sqT s)))
    obtain ⟨S2, le, hn⟩ := S.newB (o := .tup [.int i, y]) hT
    exact ⟨_, enumD_get hd, S2.push (.tup (SqT.of hn) (.cons (.int i) (.cons ((o.mono (sat_le S)).mono le) .nil)))⟩
/-- pairs of two -/
def zipD (ds es : List D) : List D := (ds.zip es).map fun p => D.tup [p.1, p.2]
theorem zipD_length (ds es : List D) : (zipD ds es).length = min ds.length es.length := by simp [zipD]
/-! ### == of texts, ints -/
section
variable {K : PySem.W.Frag} {x y : Str} {i j : Int}
theorem o2_seqT (r : R (.bl true) L) : Op2 K rEq (.str x) (.str x) L R := o2_eq (k := true) rfl rfl rfl (decide_eq_true rfl) r
theorem o2_seqF (r : R (.bl false) L) (h : x ≠ y := by decide +kernel) : Op2 K rEq (.str x) (.str y) L R := o2_eq (k := false) rfl rfl rfl (decide_eq_false fun e => h (V.str.inj e)) r
theorem o2_sneT (r : R (.bl true) L) (h : x ≠ y := by decide +kernel) : Op2 K rNe (.str x) (.str y) L R := o2_ne (k := false) rfl rfl rfl (decide_eq_false fun e => h (V.str.inj e)) r
theorem o2_sneF (r : R (.bl false) L) : Op2 K rNe (.str x) (.str x) L R := o2_ne (k := true) rfl rfl rfl (decide_eq_true rfl) r
theorem o2_ieq (r : R (.bl (decide (i = j))) L) : Op2 K rEq (.int i) (.int j) L R := o2_eq rfl rfl rfl (by by_cases h : i = j <;> simp [D.v, h]) r
theorem o2_ine (r : R (.bl (!decide (i = j))) L) : Op2 K rNe (.int i) (.int j) L R := o2_ne rfl rfl rfl (by by_cases h : i = j <;> simp [D.v, h]) r
theorem o2_beq {p q : Bool} (r : R (.bl (decide (p = q))) L) : Op2 K rEq (.bl p) (.bl q) L R := o2_eq rfl rfl rfl (by by_cases h : p = q <;> simp [D.v, h]) r
theorem o2_bne {p q : Bool} (r : R (.bl (!decide (p = q))) L) : Op2 K rNe (.bl p) (.bl q) L R := o2_ne rfl rfl rfl (by by_cases h : p = q <;> simp [D.v, h]) r
end
end
end DL
set_option maxRecDepth 100000
set_option maxHeartbeats 4000000
/-! DL9: comprehensions in short, min. -/
namespace DL
open PySem PySem.Spec PyProof.Rows L2
section
variable {X : Cx} {Γ : Gam} {L : Cells} {pos : Pos} {E : En} {e a b c elt tg iter : Expr} {R : RD} {scope : Scope} {js vs : List Nat}
theorem sz {n : Nat} (h : Nat.ble n 1000 = true := by rfl) : n ≤ sizeLine := Nat.le_trans (Nat.le_of_ble_eq_true h) (by decide)
theorem szlt {n : Nat} (h : n ≤ 1000000) : n < sizeLine := Nat.lt_of_le_of_lt h (by decide)
theorem szle {n : Nat} (h : n ≤ 1000000) : n ≤ sizeLine := Nat.le_of_lt (szlt h)
theorem eraseIdx_snoc {α : Type} (l : List α) (x : α) : (l ++ [x]).eraseIdx l.length = l := by
  rw [List.eraseIdx_append_of_length_le (Nat.le_refl _)]; simp
theorem fz_last {p : Addr} {d : D} (r : R d L) : ∃ k a d', D.ref p = .ref a ∧ (L ++ [(p, d)])[k]? = some (a, d') ∧ R d' ((L ++ [(p, d)]).eraseIdx k) := ⟨L.length, p, d, rfl, by simp, by rw [eraseIdx_snoc]; exact r⟩
/-- what a comprehension makes: c tells whether, f what -/
def selD (c : Nat → D → Bool) (f : Nat → D → D) (ds : List D) : List D := ((ds.mapIdx fun i d => if c i d = true then some (f i d) else none)).filterMap id
theorem selD_take {c : Nat → D → Bool} {f : Nat → D → D} {ds : List D} {i : Nat} {d : D} (h : ds[i]? = some d) : selD c f (ds.take (i + 1)) = selD c f (ds.take i) ++ (if c i d = true then [f i d] else []) := by
  have hi := (List.getElem?_eq_some_iff.mp h).1
  have e3 : ds.take (i + 1) = ds.take i ++ [d] := by rw [List.take_add_one, h]; rfl
  have e4 : (ds.take i).length = i := by rw [List.length_take]; omega
  unfold selD
  rw [e3, List.mapIdx_append, List.filterMap_append]
  congr 1
  simp only [List.mapIdx_cons, List.mapIdx_nil, e4, Nat.zero_add]
  by_cases hc : c i d = true
  · simp [hc]
  · simp [hc]
theorem selD_le (c : Nat → D → Bool) (f : Nat → D → D) (ds : List D) : (selD c f ds).length ≤ ds.length := by
  unfold selD
  refine Nat.le_trans (List.length_filterMap_le _ _) ?_
  simp
theorem selD_all {f : Nat → D → D} {ds : List D} : selD (fun _ _ => true) f ds = ds.mapIdx f := by
  unfold selD
  simp only [if_true]
  have : (ds.mapIdx fun i d => some (f i d)) = (ds.mapIdx f).map some := by
    refine List.ext_getElem? fun i => ?_
    simp only [List.getElem?_mapIdx, List.getElem?_map, Option.map_map]
    rfl
  rw [this, List.filterMap_map]
  simp
/-- no test: the elements are f -/
theorem lc_mapG (f : Nat → D → D) (h : IterX X tg iter Γ L fun ds L1 => ds.length ≤ sizeLine ∧ (∀ i d, ds[i]? = some d → ∀ s H C cl fp, TgX (BX X scope s H C cl fp) tg js d (wipeG Γ vs) L1 fun Γ2 L2 => L2 = L1 ∧ ∀ s H C cl fp, EvX (BX X scope s H C cl fp) elt Γ2 L1 fun d' L' => d' = f i d ∧ L' = L1) ∧ ∀ p, R (.ref p) (L1 ++ [(p, .lst (ds.mapIdx f))])) :
    LcH X tg iter elt scope js vs tYesT Γ L R := .mk fun S q =>
  h.run S fun J ds H1 L1 ⟨z, he, r⟩ S1 it => q J ds H1 L1 ⟨fun i acc L' => acc = selD (fun _ _ => true) f (ds.take i) ∧ L' = L1, ⟨by simp [selD], rfl⟩, fun i d acc L' hd ⟨ea, eL⟩ s H C cl fp => by
    subst ea eL
    refine .mk fun S2 q2 => (he i d hd s H C cl fp).run S2 fun Γ2 L2 σ2 H2 off ⟨e2, t2⟩ S3 => q2 Γ2 L2 σ2 H2 off (fun s H C cl fp => ttx_yes ?_) S3
    subst e2
    rw [if_pos rfl]
    intro s H C cl fp
    refine EvX.imp (t2 s H C cl fp) fun d' L4 ⟨e1, e2⟩ => ?_
    subst e1 e2
    have hi := (List.getElem?_eq_some_iff.mp hd).1
    refine ⟨Nat.lt_of_le_of_lt (selD_le _ _ _) (by rw [List.length_take]; omega), ?_, rfl⟩
    rw [selD_take hd, if_pos rfl], fun acc L' ⟨ea, eL⟩ p => by
    subst ea eL
    rw [List.take_length, selD_all]
    exact r p⟩ S1 it
/-- one test -/
abbrev tOneT (X : Cx) (scope : Scope) (c : Expr) : Shared → Hp → Addr → List (Str × Addr) → List Addr → TT := fun s H C cl fp => WT (BX X scope s H C cl fp) c
theorem lc_selG (cc : Nat → D → Bool) (f : Nat → D → D) (h : IterX X tg iter Γ L fun ds L1 => ds.length ≤ sizeLine ∧ (∀ i d, ds[i]? = some d → ∀ s H C cl fp, TgX (BX X scope s H C cl fp) tg js d (wipeG Γ vs) L1 fun Γ2 L2 => L2 = L1 ∧ ∀ s H C cl fp, TeX (BX X scope s H C cl fp) c Γ2 L1 fun k L' => k = cc i d ∧ L' = L1 ∧ (k = true → ∀ s H C cl fp, EvX (BX X scope s H C cl fp) elt Γ2 L1 fun d' L' => d' = f i d ∧ L' = L1)) ∧ ∀ p, R (.ref p) (L1 ++ [(p, .lst (selD cc f ds))])) :
    LcH X tg iter elt scope js vs (tOneT X scope c) Γ L R := .mk fun S q =>
  h.run S fun J ds H1 L1 ⟨z, he, r⟩ S1 it => q J ds H1 L1 ⟨fun i acc L' => acc = selD cc f (ds.take i) ∧ L' = L1, ⟨by simp [selD], rfl⟩, fun i d acc L' hd ⟨ea, eL⟩ s H C cl fp => by
    subst ea eL
    refine .mk fun S2 q2 => (he i d hd s H C cl fp).run S2 fun Γ2 L2 σ2 H2 off ⟨e2, t2⟩ S3 => q2 Γ2 L2 σ2 H2 off (fun s H C cl fp => ?_) S3
    subst e2
    refine .mk fun S4 q4 => (t2 s H C cl fp).run S4 fun k H5 L5 ⟨ek, eL5, e5⟩ S5 => q4 k H5 L5 ?_ S5
    subst ek eL5
    have hi := (List.getElem?_eq_some_iff.mp hd).1
    by_cases hk : cc i d = true
    · rw [if_pos hk]
      intro s H C cl fp
      refine EvX.imp (e5 hk s H C cl fp) fun d' L4 ⟨e1, e2⟩ => ?_
      subst e1 e2
      refine ⟨Nat.lt_of_le_of_lt (selD_le _ _ _) (by rw [List.length_take]; omega), ?_, rfl⟩
      rw [selD_take hd, if_pos hk]
    · rw [if_neg hk]
      refine ⟨?_, rfl⟩
      rw [selD_take hd, if_neg hk, List.append_nil], fun acc L' ⟨ea, eL⟩ p => by
    subst ea eL
    rw [List.take_length]
    exact r p⟩ S1 it
section
variable {own : List (Str × Nat)}
/-- .. frozen at once -/
theorem ev_map (own : List (Str × Nat)) (f : Nat → D → D) (hc : X.calm = true) (hN : X.N.Nodup) (ok : blkC X.N X.env.scope scope own = true) (hjs : ∀ j ∈ js, j ∈ own.map (·.2))
    (h : IterX X tg iter Γ L fun ds L1 => ds.length ≤ sizeLine ∧ (∀ i d, ds[i]? = some d → ∀ s H C cl fp, TgX (BX X scope s H C cl fp) tg js d (wipeG Γ (own.map (·.2))) L1 fun Γ2 L2 => L2 = L1 ∧ ∀ s H C cl fp, EvX (BX X scope s H C cl fp) elt Γ2 L1 fun d' L' => d' = f i d ∧ L' = L1) ∧ R (.lst (ds.mapIdx f)) L1)
    (hs : ∀ x, foldedSetIterable iter X.env x = pure x := by intro _; rfl) : EvX X (.ListComp elt [⟨tg, iter, [], 0⟩] scope pos) Γ L R :=
  ev_fz (ev_lcG hc hN (blkOk_by ok) hjs (fun _ _ _ _ _ => pts_nil) (lc_mapG f (.mk fun S q => h.run S fun J ds H1 L1 ⟨z, he, r⟩ S1 it => q J ds H1 L1 ⟨z, he, fun p => fz_last r⟩ S1 it)) hs)
theorem ev_sel (own : List (Str × Nat)) (cc : Nat → D → Bool) (f : Nat → D → D) (hc : X.calm = true) (hN : X.N.Nodup) (ok : blkC X.N X.env.scope scope own = true) (hjs : ∀ j ∈ js, j ∈ own.map (·.2))
    (h : IterX X tg iter Γ L fun ds L1 => ds.length ≤ sizeLine ∧ (∀ i d, ds[i]? = some d → ∀ s H C cl fp, TgX (BX X scope s H C cl fp) tg js d (wipeG Γ (own.map (·.2))) L1 fun Γ2 L2 => L2 = L1 ∧ ∀ s H C cl fp, TeX (BX X scope s H C cl fp) c Γ2 L1 fun k L' => k = cc i d ∧ L' = L1 ∧ (k = true → ∀ s H C cl fp, EvX (BX X scope s H C cl fp) elt Γ2 L1 fun d' L' => d' = f i d ∧ L' = L1)) ∧ R (.lst (selD cc f ds)) L1)
    (hs : ∀ x, foldedSetIterable iter X.env x = pure x := by intro _; rfl) : EvX X (.ListComp elt [⟨tg, iter, [c], 0⟩] scope pos) Γ L R :=
  ev_fz (ev_lcG hc hN (blkOk_by ok) hjs (fun _ _ _ _ _ => pts_one pt_w) (lc_selG cc f (.mk fun S q => h.run S fun J ds H1 L1 ⟨z, he, r⟩ S1 it => q J ds H1 L1 ⟨z, he, fun p => fz_last r⟩ S1 it)) hs)
end
/-- min([i, j]) -/
theorem oa_minL {K : PySem.W.Frag} {is : List Int} (h0 : 0 < is.length) (r : ∀ m, m ∈ is → (∀ y, y ∈ is → m ≤ y) → R (.int m) L) : OpA K (rMin K) [.lst (dints is)] L R := .mk fun {B0 F H σ Γ ts vs τ Q} S hl q => by
  obtain ⟨o, S2⟩ := S.args hl
  obtain ⟨v, rfl, o1⟩ := o.one
  cases o1 with
  | lst s t =>
    have e := t.toInts
    subst e
    exact ⟨_, is, rfl, vis_le.sqL s, h0, fun m hm hy => q _ _ _ _ (r m hm hy) (S2.push (.int m))⟩
/-- [a, b, ..] frozen at once -/
theorem ev_lstF {es : List Expr} (h : AgX X es Γ L fun ds L1 => ds.length ≤ sizeLine ∧ R (.lst ds) L1) : EvX X (.List es pos) Γ L R :=
  ev_fz (ev_lst (.mk fun S q => h.run S fun vs ds H1 L1 ⟨z, r⟩ hl S1 => q vs ds H1 L1 ⟨z, fun p => fz_last r⟩ hl S1))
end
end DL
set_option maxRecDepth 100000
set_option maxHeartbeats 4000000
/-! DLA: comprehensions over a list of items of any type. -/
namespace DL
open PySem PySem.Spec PyProof.Rows L2
section
variable {X : Cx} {Γ : Gam} {L : Cells} {R : RD} {tg iter elt c e : Expr} {scope : Scope} {js vs : List Nat} {pos : Pos}
theorem map_get {α β : Type} {φ : α → β} {l : List α} {i : Nat} {d : β} (h : (l.map φ)[i]? = some d) : ∃ a, l[i]? = some a ∧ d = φ a := by
  rw [List.getElem?_map] at h
  cases e : l[i]? with
  | none => rw [e] at h; cases h
  | some a => rw [e] at h; cases h; exact ⟨a, rfl, rfl⟩
theorem take_next {α : Type} {l : List α} {i : Nat} {a : α} (h : l[i]? = some a) : l.take (i + 1) = l.take i ++ [a] := by
  rw [List.take_add_one, h]; rfl
theorem lt_of_get {α : Type} {l : List α} {i : Nat} {a : α} (h : l[i]? = some a) : i < l.length := (List.getElem?_eq_some_iff.mp h).1
/-- what a comprehension's items are made of: an item's data φ, its result g -/
structure Itm (X : Cx) (tg elt : Expr) (scope : Scope) (js vs : List Nat) (Γ : Gam) (L : Cells) (d e : D) : Prop where
  run : ∀ s H C cl fp, TgX (BX X scope s H C cl fp) tg js d (wipeG Γ vs) L fun Γ2 L2 => L2 = L ∧ ∀ s H C cl fp, EvX (BX X scope s H C cl fp) elt Γ2 L fun d' L' => d' = e ∧ L' = L
structure ItmS (X : Cx) (tg elt c : Expr) (scope : Scope) (js vs : List Nat) (Γ : Gam) (L : Cells) (d : D) (k : Bool) (e : D) : Prop where
  run : ∀ s H C cl fp, TgX (BX X scope s H C cl fp) tg js d (wipeG Γ vs) L fun Γ2 L2 => L2 = L ∧ ∀ s H C cl fp, TeX (BX X scope s H C cl fp) c Γ2 L fun k' L' => k' = k ∧ L' = L ∧ (k = true → ∀ s H C cl fp, EvX (BX X scope s H C cl fp) elt Γ2 L fun d' L' => d' = e ∧ L' = L)
theorem lc_mapT {α : Type} (φ g : α → D) (h : IterX X tg iter Γ L fun ds L1 => ∃ l : List α, ds = l.map φ ∧ l.length ≤ sizeLine ∧ (∀ a ∈ l, Itm X tg elt scope js vs Γ L1 (φ a) (g a)) ∧ ∀ p, R (.ref p) (L1 ++ [(p, .lst (l.map g))])) :
    LcH X tg iter elt scope js vs tYesT Γ L R := .mk fun S q => h.run S fun J ds H1 L1 ⟨l, ed, z, he, r⟩ S1 it => by
  refine q J ds H1 L1 ⟨fun i acc L' => acc = (l.take i).map g ∧ L' = L1, ⟨by simp, rfl⟩, fun i d acc L' hd ⟨ea, eL⟩ s H C cl fp => ?_, fun acc L' ⟨ea, eL⟩ p => ?_⟩ S1 it
  · subst ea eL ed
    obtain ⟨a, ha, rfl⟩ := map_get hd
    refine .mk fun S2 q2 => ((he a (List.mem_of_getElem? ha)).run s H C cl fp).run S2 fun Γ2 L2 σ2 H2 off ⟨e2, t2⟩ S3 => q2 Γ2 L2 σ2 H2 off (fun s H C cl fp => ttx_yes ?_) S3
    subst e2
    rw [if_pos rfl]
    intro s H C cl fp
    refine EvX.imp (t2 s H C cl fp) fun d' L4 ⟨e1, e2⟩ => ?_
    subst e1 e2
    have hi := lt_of_get ha
    refine ⟨by rw [List.length_map, List.length_take]; omega, ?_, rfl⟩
    rw [take_next ha, List.map_append]; rfl
  · subst ea eL ed
    rw [List.length_map, List.take_length]
    exact r p
theorem lc_selT {α : Type} (φ g : α → D) (cc : α → Bool) (h : IterX X tg iter Γ L fun ds L1 => ∃ l : List α, ds = l.map φ ∧ l.length ≤ sizeLine ∧ (∀ a ∈ l, ItmS X tg elt c scope js vs Γ L1 (φ a) (cc a) (g a)) ∧ ∀ p, R (.ref p) (L1 ++ [(p, .lst ((l.filter cc).map g))])) :
    LcH X tg iter elt scope js vs (tOneT X scope c) Γ L R := .mk fun S q => h.run S fun J ds H1 L1 ⟨l, ed, z, he, r⟩ S1 it => by
  refine q J ds H1 L1 ⟨fun i acc L' => acc = ((l.take i).filter cc).map g ∧ L' = L1, ⟨by simp, rfl⟩, fun i d acc L' hd ⟨ea, eL⟩ s H C cl fp => ?_, fun acc L' ⟨ea, eL⟩ p => ?_⟩ S1 it
  · subst ea eL ed
    obtain ⟨a, ha, rfl⟩ := map_get hd
    refine .mk fun S2 q2 => ((he a (List.mem_of_getElem? ha)).run s H C cl fp).run S2 fun Γ2 L2 σ2 H2 off ⟨e2, t2⟩ S3 => q2 Γ2 L2 σ2 H2 off (fun s H C cl fp => ?_) S3
    subst e2
    refine .mk fun S4 q4 => (t2 s H C cl fp).run S4 fun k H5 L5 ⟨ek, eL5, e5⟩ S5 => q4 k H5 L5 ?_ S5
    subst ek eL5
    have hi := lt_of_get ha
    have hle : ((l.take i).filter cc).length ≤ i := Nat.le_trans (List.length_filter_le _ _) (by rw [List.length_take]; omega)
    by_cases hk : cc a = true
    · rw [if_pos hk]
      intro s H C cl fp
      refine EvX.imp (e5 hk s H C cl fp) fun d' L4 ⟨e1, e2⟩ => ?_
      subst e1 e2
      refine ⟨by rw [List.length_map]; omega, ?_, rfl⟩
      rw [take_next ha, List.filter_append, List.map_append, List.filter_cons_of_pos hk]; rfl
    · rw [if_neg hk]
      refine ⟨?_, rfl⟩
      rw [take_next ha, List.filter_append, List.filter_cons_of_neg (by simpa using hk), List.filter_nil, List.append_nil]
  · subst ea eL ed
    rw [List.length_map, List.take_length]
    exact r p
section
variable {Γ1 : Gam}
theorem ev_mapO {α : Type} (own : List (Str × Nat)) (φ g : α → D) (hc : X.calm = true) (hN : X.N.Nodup) (ok : blkC X.N X.env.scope scope own = true) (hjs : ∀ j ∈ js, j ∈ own.map (·.2))
    (h : IterX X tg iter Γ L fun ds L1 => ∃ l : List α, ds = l.map φ ∧ l.length ≤ sizeLine ∧ (∀ a ∈ l, Itm X tg elt scope js (own.map (·.2)) Γ L1 (φ a) (g a)) ∧ ∀ p, R (.ref p) (L1 ++ [(p, .lst (l.map g))]))
    (hs : ∀ x, foldedSetIterable iter X.env x = pure x := by intro _; rfl) : EvX X (.ListComp elt [⟨tg, iter, [], 0⟩] scope pos) Γ L R :=
  ev_lcG hc hN (blkOk_by ok) hjs (fun _ _ _ _ _ => pts_nil) (lc_mapT φ g h) hs
theorem ev_selO {α : Type} (own : List (Str × Nat)) (φ g : α → D) (cc : α → Bool) (hc : X.calm = true) (hN : X.N.Nodup) (ok : blkC X.N X.env.scope scope own = true) (hjs : ∀ j ∈ js, j ∈ own.map (·.2))
    (h : IterX X tg iter Γ L fun ds L1 => ∃ l : List α, ds = l.map φ ∧ l.length ≤ sizeLine ∧ (∀ a ∈ l, ItmS X tg elt c scope js (own.map (·.2)) Γ L1 (φ a) (cc a) (g a)) ∧ ∀ p, R (.ref p) (L1 ++ [(p, .lst ((l.filter cc).map g))]))
    (hs : ∀ x, foldedSetIterable iter X.env x = pure x := by intro _; rfl) : EvX X (.ListComp elt [⟨tg, iter, [c], 0⟩] scope pos) Γ L R :=
  ev_lcG hc hN (blkOk_by ok) hjs (fun _ _ _ _ _ => pts_one pt_w) (lc_selT φ g cc h) hs
/-- .. frozen at once -/
theorem ev_mapT {α : Type} (own : List (Str × Nat)) (φ g : α → D) (hc : X.calm = true) (hN : X.N.Nodup) (ok : blkC X.N X.env.scope scope own = true) (hjs : ∀ j ∈ js, j ∈ own.map (·.2))
    (h : IterX X tg iter Γ L fun ds L1 => ∃ l : List α, ds = l.map φ ∧ l.length ≤ sizeLine ∧ (∀ a ∈ l, Itm X tg elt scope js (own.map (·.2)) Γ L1 (φ a) (g a)) ∧ R (.lst (l.map g)) L1)
    (hs : ∀ x, foldedSetIterable iter X.env x = pure x := by intro _; rfl) : EvX X (.ListComp elt [⟨tg, iter, [], 0⟩] scope pos) Γ L R :=
  ev_fz (ev_mapO own φ g hc hN ok hjs (.mk fun S q => h.run S fun J ds H1 L1 ⟨l, ed, z, he, r⟩ S1 it => q J ds H1 L1 ⟨l, ed, z, he, fun p => fz_last r⟩ S1 it) hs)
theorem ev_selT {α : Type} (own : List (Str × Nat)) (φ g : α → D) (cc : α → Bool) (hc : X.calm = true) (hN : X.N.Nodup) (ok : blkC X.N X.env.scope scope own = true) (hjs : ∀ j ∈ js, j ∈ own.map (·.2))
    (h : IterX X tg iter Γ L fun ds L1 => ∃ l : List α, ds = l.map φ ∧ l.length ≤ sizeLine ∧ (∀ a ∈ l, ItmS X tg elt c scope js (own.map (·.2)) Γ L1 (φ a) (cc a) (g a)) ∧ R (.lst ((l.filter cc).map g)) L1)
    (hs : ∀ x, foldedSetIterable iter X.env x = pure x := by intro _; rfl) : EvX X (.ListComp elt [⟨tg, iter, [c], 0⟩] scope pos) Γ L R :=
  ev_fz (ev_selO own φ g cc hc hN ok hjs (.mk fun S q => h.run S fun J ds H1 L1 ⟨l, ed, z, he, r⟩ S1 it => q J ds H1 L1 ⟨l, ed, z, he, fun p => fz_last r⟩ S1 it) hs)
/-- a list that stands in slot i is frozen behind the statement -/
theorem st_frz {E : En} {st : Stmt} (i : Nat) (h : StX X st Γ L { E with nx := fun Γ' L' => ∃ k a d, L'[k]? = some (a, d) ∧ Γ'[i]? = some (some (.ref a)) ∧ E.nx (Γ'.set i (some d)) (L'.eraseIdx k) }) : StX X st Γ L E := .mk fun S ok =>
  h.run S ⟨fun Γ' L' σ' H' ⟨k, a, d, hk, hi, r⟩ S' => ok.nx _ _ _ _ r (S'.freezeSlot hk hi), ok.rt, ok.bk, ok.ct⟩
theorem set_set {α : Type} (l : List α) (i : Nat) (a b : α) : (l.set i a).set i b = l.set i b := by simp
theorem set_at {Γ : Gam} {i : Nat} {x : Option D} (h : i < Γ.length) : (Γ.set i x)[i]? = some x := by simp [h]
/-- y = [elt for tg in iter (if c)], frozen -/
theorem st_mapT {α : Type} {E : En} {y : Str} {py spos : Pos} (i : Nat) (own : List (Str × Nat)) (φ g : α → D) (hc : X.calm = true) (hN : X.N.Nodup) (ok : blkC X.N X.env.scope scope own = true) (hjs : ∀ j ∈ js, j ∈ own.map (·.2))
    (h : IterX X tg iter Γ L fun ds L1 => ∃ l : List α, ds = l.map φ ∧ l.length ≤ sizeLine ∧ (∀ a ∈ l, Itm X tg elt scope js (own.map (·.2)) Γ L1 (φ a) (g a)) ∧ E.nx (Γ.set i (some (.lst (l.map g)))) L1)
    (hs : ∀ x, foldedSetIterable iter X.env x = pure x := by intro _; rfl) (hsw : swapsWith (.ListComp elt [⟨tg, iter, [], 0⟩] scope pos) (some (.Name y py)) spos.line X.env = pure true := by exact sw_true rfl rfl rfl rfl) (hl : Nat.ble (i + 1) Γ.length = true := by rfl) (hy : X.N[i]? = some y := by rfl) (hyl : X.env.scope.names.lookup y = some .local := by rfl) : StX X (.Assign [.Name y py] (.ListComp elt [⟨tg, iter, [], 0⟩] scope pos) spos) Γ L E :=
  st_frz i (st_lcG i hc hN (blkOk_by ok) hjs (fun _ _ _ _ _ => pts_nil) hsw (lc_mapT φ g (.mk fun S q => h.run S fun J ds H1 L1 ⟨l, ed, z, he, r⟩ S1 it => q J ds H1 L1 ⟨l, ed, z, he, fun p => ⟨L1.length, p, .lst (l.map g), by simp, set_at (Nat.le_of_ble_eq_true hl), by rw [eraseIdx_snoc, set_set]; exact r⟩⟩ S1 it)) hs hy hyl)
theorem st_selT {α : Type} {E : En} {y : Str} {py spos : Pos} (i : Nat) (own : List (Str × Nat)) (φ g : α → D) (cc : α → Bool) (hc : X.calm = true) (hN : X.N.Nodup) (ok : blkC X.N X.env.scope scope own = true) (hjs : ∀ j ∈ js, j ∈ own.map (·.2))
    (h : IterX X tg iter Γ L fun ds L1 => ∃ l : List α, ds = l.map φ ∧ l.length ≤ sizeLine ∧ (∀ a ∈ l, ItmS X tg elt c scope js (own.map (·.2)) Γ L1 (φ a) (cc a) (g a)) ∧ E.nx (Γ.set i (some (.lst ((l.filter cc).map g)))) L1)
    (hs : ∀ x, foldedSetIterable iter X.env x = pure x := by intro _; rfl) (hsw : swapsWith (.ListComp elt [⟨tg, iter, [c], 0⟩] scope pos) (some (.Name y py)) spos.line X.env = pure true := by exact sw_true rfl rfl rfl rfl) (hl : Nat.ble (i + 1) Γ.length = true := by rfl) (hy : X.N[i]? = some y := by rfl) (hyl : X.env.scope.names.lookup y = some .local := by rfl) : StX X (.Assign [.Name y py] (.ListComp elt [⟨tg, iter, [c], 0⟩] scope pos) spos) Γ L E :=
  st_frz i (st_lcG i hc hN (blkOk_by ok) hjs (fun _ _ _ _ _ => pts_one pt_w) hsw (lc_selT φ g cc (.mk fun S q => h.run S fun J ds H1 L1 ⟨l, ed, z, he, r⟩ S1 it => q J ds H1 L1 ⟨l, ed, z, he, fun p => ⟨L1.length, p, .lst ((l.filter cc).map g), by simp, set_at (Nat.le_of_ble_eq_true hl), by rw [eraseIdx_snoc, set_set]; exact r⟩⟩ S1 it)) hs hy hyl)
end
end
end DL
set_option maxRecDepth 100000
set_option maxHeartbeats 4000000
/-! DLB: dicts whose keys are nested tuples. -/
namespace DL
open PySem PySem.Spec PyProof.Rows L2
mutual
/-- plain data as a key -/
def pkey : PyData → NestedKey
  | .none => .none
  | .bool b => .num (if b = true then 1 else 0)
  | .int i => .num i
  | .str x => .text x
  | .tuple l => .tup (pkeys l)
  | _ => .none
def pkeys : List PyData → List NestedKey
  | [] => []
  | d :: ds => pkey d :: pkeys ds
end
mutual
def pok : PyData → Bool
  | .list _ => false
  | .dict _ => false
  | .tuple l => poks l
  | _ => true
def poks : List PyData → Bool
  | [] => true
  | d :: ds => pok d && poks ds
end
mutual
theorem nest_of {h : Heap} : ∀ (d : PyData) (u : Value) (as : List Addr), pok d = true → Reads h u d as → NestedIs h (pkey d) u
  | .none, _, _, _, r => by cases r; exact .none
  | .bool b, _, _, _, r => by cases r; exact .bool rfl
  | .int i, _, _, _, r => by cases r; exact .int _ _
  | .str x, _, _, _, r => by cases r; exact .text _ _
  | .tuple l, _, _, p, r => by
    cases r with
    | tuple h1 h2 h3 t => exact .tup h1 h2 h3 (nests_of l _ _ p t)
  | .list l, _, _, p, _ => by cases p
  | .dict l, _, _, p, _ => by cases p
theorem nests_of {h : Heap} : ∀ (ds : List PyData) (us : List Value) (as : List Addr), poks ds = true → ReadsAll h us ds as → NestedAll h (pkeys ds) us
  | [], _, _, _, r => by cases r; exact .nil
  | d :: ds, _, _, p, r => by
    have p' : (pok d && poks ds) = true := p
    rw [Bool.and_eq_true] at p'
    cases r with
    | cons r1 r2 => exact .cons (nest_of d _ _ p'.1 r1) (nests_of ds _ _ p'.2 r2)
end
/-- data as a key -/
def D.key (d : D) : NestedKey := pkey d.py
def D.isTup : D → Bool
  | .tup _ => true
  | _ => false
def D.keyOk (d : D) : Bool := d.isTup && d.pure && pok d.py && Nat.ble d.key.depth 8
/-- a value that is a key -/
structure NkO (K : PySem.W.Frag) (H : Hp) (y : V) (k : NestedKey) : Prop where
  dat : ∃ p, Dp K H y p ∧ pok p = true ∧ k = pkey p
  rf : ∃ b, y = .ref b
  dep : k.depth ≤ 8
theorem Ob.nk {K : PySem.W.Frag} {B H : Hp} (le : Le B H) {d : D} {v : V} (o : Ob K B v d) (h : d.keyOk = true) : NkO K H v d.key := by
  unfold D.keyOk at h
  rw [Bool.and_eq_true, Bool.and_eq_true, Bool.and_eq_true] at h
  obtain ⟨⟨⟨h1, h2⟩, h3⟩, h4⟩ := h
  refine ⟨⟨d.py, Ob.dp le _ _ h2 o, h3, rfl⟩, ?_, Nat.le_of_ble_eq_true h4⟩
  cases o <;> first | exact ⟨_, rfl⟩ | cases h1
section
variable {X : Cx} {pins : List (Addr × Obj)} {σ : L2.St} {H : Hp} {s : Shared} {a : Addr} {y v : V} {u r : Value} {k : NestedKey} {A : Around} {E : Value → Shared → Prop}
abbrev nKd (X : Cx) := nestedKind X.prog X.w
theorem NkO.is (h : NkO X.K H y k) (I : Inv X pins σ H s) (ry : RelV y u) : ∃ b, y = .ref b ∧ u = .ref b ∧ (nKd X).is s.heap k b := by
  obtain ⟨⟨p, h1, h2, h3⟩, ⟨b, rfl⟩, h4⟩ := h
  obtain rfl : u = Value.ref b := ry
  obtain ⟨as, hr⟩ := Dp.reads I _ _ _ h1 (show RelV (V.ref b) (Value.ref b) from rfl)
  subst h3
  exact ⟨b, rfl, rfl, nest_of _ _ _ h2 hr, h4⟩
/-- an entry: key, its value, what it holds -/
abbrev NE := NestedKey × V × V
abbrev NP (p : NE) (q : NestedKey × Addr × Value) : Prop := p.1 = q.1 ∧ p.2.1 = .ref q.2.1 ∧ RelV p.2.2 q.2.2
/-- a dict whose keys are nested tuples -/
def nO (P : Program) (w : World) (es : List NE) (a : Addr) : HO := .ext fun h => es.length ≤ sizeLine ∧ (a == sysModules) = false ∧ ∃ xs : List (NestedKey × Addr × Value), Paired NP es xs ∧
  ∃ o ds ep, h.get? a = some o ∧ o.ExactDict ∧ o.data = .dict ds ep ∧ ds.toList = xs.map (entryOfKey (nestedKind P w)) ∧ (xs.map (·.1)).Nodup
theorem nO_ok {P : Program} {w : World} {es : List NE} {h : Heap} {xs : List (NestedKey × Addr × Value)} (z : es.length ≤ sizeLine) (hs : (a == sysModules) = false) (pr : Paired NP es xs) (d : h.DictOfH (nestedKind P w) a xs) : ObjOk P w H h a (nO P w es a) := by
  obtain ⟨o, ds, ep, ho, hx, hd, he, _, hn⟩ := d
  exact ⟨⟨z, hs, xs, pr, o, ds, ep, ho, hx, hd, he, hn⟩, ⟨o, ho⟩, fun h1 h2 ⟨z, hs, xs, pr, o, ds, ep, ho, r⟩ k => ⟨z, hs, xs, pr, o, ds, ep, k _ ho, r⟩⟩
theorem nO_rd {es : List NE} (I : Inv X pins σ H s) (e : H a = some (nO X.prog X.w es a)) (hk : ∀ p ∈ es, NkO X.K H p.2.1 p.1) : es.length ≤ sizeLine ∧ (a == sysModules) = false ∧ ∃ xs, Paired NP es xs ∧ s.heap.DictOfH (nKd X) a xs := by
  obtain ⟨⟨z, hs, xs, pr, o, ds, ep, ho, hx, hd, he, hn⟩, _⟩ := (show ObjOk X.prog X.w H s.heap a (nO X.prog X.w es a) from I.hok _ _ e)
  refine ⟨z, hs, xs, pr, o, ds, ep, ho, hx, hd, he, ?_, hn⟩
  have go : ∀ {es : List NE} {xs : List (NestedKey × Addr × Value)}, Paired NP es xs → (∀ p ∈ es, NkO X.K H p.2.1 p.1) → ∀ x ∈ xs, (nKd X).is s.heap x.1 x.2.1 := by
    intro es xs pr
    induction pr with
    | nil => intro _ x hx; cases hx
    | @cons p q ps qs h t ih =>
      intro hk x hx
      rcases List.mem_cons.mp hx with rfl | hx
      · obtain ⟨h1, h2, h3⟩ := h
        obtain ⟨b, e1, e2, i⟩ := (hk p (by simp)).is I (u := Value.ref x.2.1) (by rw [h2]; rfl)
        cases e2
        rw [← h1]
        exact i
      · exact ih (fun p hp => hk p (by simp [hp])) x hx
  exact go pr hk
/-- what stands at a key -/
def nAt (es : List NE) (k : NestedKey) : Option V := (es.find? fun e => decide (e.1 = k)).map (·.2.2)
theorem nAt_rel {es : List NE} {xs : List (NestedKey × Addr × Value)} (pr : Paired NP es xs) (k : NestedKey) : RelO (nAt es k) ((atKey xs k).map (·.2)) := by
  induction pr with
  | nil => exact trivial
  | @cons p q ps qs h t ih =>
    obtain ⟨h1, h2, h3⟩ := h
    by_cases e : p.1 = k
    · have e' : q.1 = k := h1.symm.trans e
      simp only [nAt, atKey, List.find?_cons, e, e', decide_true, Option.map_some]
      exact h3
    · have e' : ¬ q.1 = k := fun z => e (h1.trans z)
      simp only [nAt, atKey, List.find?_cons, e, e', decide_false] at ih ⊢
      exact ih
theorem nAt_some {es : List NE} {xs : List (NestedKey × Addr × Value)} (pr : Paired NP es xs) (k : NestedKey) : (nAt es k).isSome = (atKey xs k).isSome := by
  have h := nAt_rel pr k
  cases e1 : nAt es k <;> cases e2 : atKey xs k <;> rw [e1, e2] at h <;> first | rfl | exact h.elim
theorem n_in {es : List NE} {Q : Value → Shared → Prop} (hu : A.units + 16 < cLine) (I : Inv X pins σ H s) (e : H a = some (nO X.prog X.w es a)) (hk : ∀ p ∈ es, NkO X.K H p.2.1 p.1) (hy : NkO X.K H y k) (ry : RelV y u)
    (h : ∀ s', Inv X pins σ H s' → Q (.bool (nAt es k).isSome) s') : wpAny (model X.prog X.w) A (compareOp .In u (.ref a)) Q E s := by
  obtain ⟨z, hs, xs, pr, d⟩ := nO_rd I e hk
  obtain ⟨b, rfl, rfl, i⟩ := hy.is I ry
  refine wpAny_in_heap (show A.in1.units + 8 < cLine by show A.units + 1 + 8 < cLine; omega) i hs d ?_
  rw [← nAt_some pr]
  exact h _ (I.tok _)
theorem n_notIn {es : List NE} {Q : Value → Shared → Prop} (hu : A.units + 16 < cLine) (I : Inv X pins σ H s) (e : H a = some (nO X.prog X.w es a)) (hk : ∀ p ∈ es, NkO X.K H p.2.1 p.1) (hy : NkO X.K H y k) (ry : RelV y u)
    (h : ∀ s', Inv X pins σ H s' → Q (.bool (!(nAt es k).isSome)) s') : wpAny (model X.prog X.w) A (compareOp .NotIn u (.ref a)) Q E s := by
  obtain ⟨z, hs, xs, pr, d⟩ := nO_rd I e hk
  obtain ⟨b, rfl, rfl, i⟩ := hy.is I ry
  refine wpAny_notIn_heap (show A.in1.units + 8 < cLine by show A.units + 1 + 8 < cLine; omega) i hs d ?_
  rw [← nAt_some pr]
  exact h _ (I.tok _)
theorem n_get {es : List NE} {Q : Value → Shared → Prop} (hu : A.units + 16 < cLine) (I : Inv X pins σ H s) (e : H a = some (nO X.prog X.w es a)) (hk : ∀ p ∈ es, NkO X.K H p.2.1 p.1) (hy : NkO X.K H y k) (ry : RelV y u) (hv : nAt es k = some v)
    (h : ∀ w' s', Inv X pins σ H s' → RelV v w' → Q w' s') : wpAny (model X.prog X.w) A (getItem (.ref a) u) Q E s := by
  obtain ⟨z, hs, xs, pr, d⟩ := nO_rd I e hk
  obtain ⟨b, rfl, rfl, i⟩ := hy.is I ry
  have hr := nAt_rel pr k
  rw [hv] at hr
  cases e2 : atKey xs k with
  | none => rw [e2] at hr; exact hr.elim
  | some p =>
    rw [e2] at hr
    exact wpAny_getItem_heap (show A.in1.units + 8 < cLine by show A.units + 1 + 8 < cLine; omega) i d e2 (h _ _ (I.tok _) hr)
theorem np_snoc {es : List NE} {xs : List (NestedKey × Addr × Value)} {b : Addr} (pr : Paired NP es xs) (rv : RelV v r) : Paired NP (es ++ [(k, .ref b, v)]) (xs ++ [(k, b, r)]) := Paired.snoc pr ⟨rfl, rfl, rv⟩
theorem nAt_none {es : List NE} {xs : List (NestedKey × Addr × Value)} (pr : Paired NP es xs) (hn : nAt es k = none) : atKey xs k = none := by
  have := nAt_some pr k
  rw [hn] at this
  cases e : atKey xs k with
  | none => rfl
  | some p => rw [e] at this; cases this
/-- d[y] = v, a new key -/
theorem n_put {es : List NE} {Q : Unit → Shared → Prop} (hu : A.units + 16 < cLine) (I : Inv X pins σ H s) (e : H a = some (nO X.prog X.w es a)) (hk : ∀ p ∈ es, NkO X.K H p.2.1 p.1) (hy : NkO X.K H y k) (ry : RelV y u) (rv : RelV v r) (hn : nAt es k = none) (z1 : es.length < sizeLine)
    (h : ∀ s', Inv X pins σ (upd H a (nO X.prog X.w (es ++ [(k, y, v)]) a)) s' → Q () s') : wpAny (model X.prog X.w) A (setItem (.ref a) u r) Q E s := by
  obtain ⟨z, hs, xs, pr, d⟩ := nO_rd I e hk
  obtain ⟨b, rfl, rfl, i⟩ := hy.is I ry
  refine wpAny_setItem_heap (hsz := by rw [← pr.length]; exact z) (show A.in1.units + 8 < cLine by show A.units + 1 + 8 < cLine; omega) i d fun h' d' hsb => h _ ?_
  rw [storedH_new (nAt_none pr hn)] at d'
  obtain ⟨q, _, _, hq, _⟩ := id d'
  refine d_write I (by rw [e]; exact True.intro) hsb ⟨q, hq⟩ ?_
  exact nO_ok (by rw [List.length_append]; exact z1) hs (np_snoc pr rv) d'
/-- d.setdefault(y, v) -/
theorem n_setd {es : List NE} {Q : Value → Shared → Prop} (hu : A.units + 16 < cLine) (I : Inv X pins σ H s) (e : H a = some (nO X.prog X.w es a)) (hk : ∀ p ∈ es, NkO X.K H p.2.1 p.1) (hy : NkO X.K H y k) (ry : RelV y u) (rv : RelV v r) (z1 : es.length < sizeLine)
    (h1 : ∀ v', nAt es k = some v' → ∀ w' s', Inv X pins σ H s' → RelV v' w' → Q w' s') (h2 : nAt es k = none → ∀ s', Inv X pins σ (upd H a (nO X.prog X.w (es ++ [(k, y, v)]) a)) s' → Q r s') :
    wpAny (model X.prog X.w) A (call (.builtin "dict.setdefault") [.ref a, u, r]) Q E s := by
  obtain ⟨z, hs, xs, pr, d⟩ := nO_rd I e hk
  obtain ⟨b, rfl, rfl, i⟩ := hy.is I ry
  refine call_setdefault_heap (hsz := by rw [← pr.length]; exact z) (show A.in1.units + 8 < cLine by show A.units + 1 + 8 < cLine; omega) i hs d (fun p hp => ?_) fun hn h' d' hsb => ?_
  · have hr := nAt_rel pr k
    rw [hp] at hr
    cases e1 : nAt es k with
    | none => rw [e1] at hr; exact hr.elim
    | some v' => rw [e1] at hr; exact h1 v' e1 _ _ (I.tok _) hr
  · have hn' : nAt es k = none := by
      have := nAt_some pr k
      rw [hn] at this
      cases e1 : nAt es k with
      | none => rfl
      | some v' => rw [e1] at this; cases this
    rw [storedH_new hn] at d'
    obtain ⟨q, _, _, hq, _⟩ := id d'
    refine h2 hn' _ (d_write I (by rw [e]; exact True.intro) hsb ⟨q, hq⟩ ?_)
    exact nO_ok (by rw [List.length_append]; exact z1) hs (np_snoc pr rv) d'
theorem n_empty {P : Program} {w : World} (h : Heap) (hb : sysModules < h.objs.size) : ObjOk P w H (h.push { cls := .type "dict", data := .dict #[] }) h.objs.size (nO P w [] h.objs.size) :=
  nO_ok (Nat.zero_le _) (beq_eq_false_iff_ne.mpr (Ne.symm (Nat.ne_of_lt hb))) .nil (Heap.DictOfH.new h)
theorem np_keys {es : List NE} {ks : List (NestedKey × Addr × Value)} (pr : Paired NP es ks) : es.map (·.2.1) = (ks.map fun x => x.2.1).map V.ref := by
  induction pr with
  | nil => rfl
  | cons h t ih => rw [List.map_cons, List.map_cons, List.map_cons, ih, h.2.1]
/-- list(d) -/
theorem n_list (hc : X.calm = true) : CallR X (.type "list") (fun xs H Q => ∃ d es, xs = [V.ref d] ∧ H d = some (nO X.prog X.w es d) ∧ ∀ p, H p = none → Q (.ref p) (upd H p (.lst (es.map (·.2.1))))) := by
  intro pins s σ H xs us Q I r h
  obtain ⟨d, es, rfl, hd, q⟩ := h
  obtain ⟨u, rfl, rx⟩ := r.one
  cases rx
  obtain ⟨⟨z, hs, ks, pr, o, ds, ep, ho, hx, hdt, he, hn⟩, _⟩ := (show ObjOk X.prog X.w H s.heap d (nO X.prog X.w es d) from I.hok _ _ hd)
  have l1 : ds.size = ks.length := size_of_entries he
  have l2 : es.length = ks.length := Paired.length pr
  refine PySem.W.kdl_call (kdl_raw hs hx hdt) (I.ok.hd hc) ho (by omega) fun h' tk acc' c' kp e it => ?_
  have ea : acc'.toList = ks.map fun x => Value.ref x.2.1 := by
    have hl : acc'.toList.length = ks.length := by rw [Array.length_toList, it.1]; exact l1
    apply List.ext_getElem?
    intro j
    rw [List.getElem?_map]
    cases hj : acc'.toList[j]? with
    | none =>
      have h1 := List.getElem?_eq_none_iff.mp hj
      rw [List.getElem?_eq_none (by omega)]
      all_goals rfl
    | some v =>
      obtain ⟨en, hen, hv⟩ := it.2 j v (by rw [← Array.getElem?_toList]; exact hj)
      have qe := entry_at he j
      rw [hen] at qe
      cases hb : ks[j]? with
      | none =>
        rw [hb] at qe
        exact nomatch (show some en = none from qe)
      | some b =>
        rw [hb] at qe
        have e2 : en = entryOfKey (nKd X) b := Option.some.inj qe
        rw [hv, e2]
        all_goals rfl
  have eb : acc'.toList = (ks.map fun x => x.2.1).map Value.ref := by rw [ea, List.map_map]; all_goals rfl
  have ek : es.map (·.2.1) = (ks.map fun x => x.2.1).map V.ref := np_keys pr
  have rv : Vals (es.map (·.2.1)) acc'.toList := by rw [eb, ek]; exact vals_refs _
  refine ⟨.ref s.heap.objs.size, _, I.laid (t' := tk) (o := .lst (es.map (·.2.1))) kp (Nat.le_refl _) ?_, rfl, q _ (I.hok.fresh (Nat.le_refl _))⟩
  exact ⟨by rw [List.length_map]; exact z, acc'.toList, c', rv, by rw [Array.toArray_toList]; exact e⟩
end
end DL
set_option maxRecDepth 100000
set_option maxHeartbeats 4000000
/-! DLC: dicts with nested keys over data. -/
namespace DL
open PySem PySem.Spec PyProof.Rows L2
section
variable {X : Cx}
def KsOk (K : PySem.W.Frag) (H : Hp) (es : List NE) : Prop := ∀ p ∈ es, NkO K H p.2.1 p.1
def rNIn (X : Cx) (neg : Bool) : R2 := fun y x H Q => ∃ a es k, x = .ref a ∧ H a = some (nO X.prog X.w es a) ∧ KsOk X.K H es ∧ NkO X.K H y k ∧ Q (.bl (if neg then !(nAt es k).isSome else (nAt es k).isSome)) H
theorem op_Nin (hu : X.A.units + 16 < cLine) : OpR X (compareOp .In) (rNIn X false) := by
  intro pins s σ H y x u v Q I ry rx h
  obtain ⟨a, es, k, rfl, e, hk, hy, q⟩ := h
  cases rx
  exact n_in hu I e hk hy ry fun s' I' => ⟨.bl (nAt es k).isSome, H, I', rfl, by simpa using q⟩
theorem op_Nnot (hu : X.A.units + 16 < cLine) : OpR X (compareOp .NotIn) (rNIn X true) := by
  intro pins s σ H y x u v Q I ry rx h
  obtain ⟨a, es, k, rfl, e, hk, hy, q⟩ := h
  cases rx
  exact n_notIn hu I e hk hy ry fun s' I' => ⟨.bl (!(nAt es k).isSome), H, I', rfl, by simpa using q⟩
def tNGet (X : Cx) (td ty : TE) : TE := fun σ H Q => td σ H fun x H1 => ty σ H1 fun y H2 => ∃ a es k v, x = .ref a ∧ H2 a = some (nO X.prog X.w es a) ∧ KsOk X.K H2 es ∧ NkO X.K H2 y k ∧ nAt es k = some v ∧ Q v H2
theorem nd_type {es : List NE} {pins : List (Addr × Obj)} {σ : L2.St} {H : Hp} {s : Shared} {a : Addr} (I : Inv X pins σ H s) (e : H a = some (nO X.prog X.w es a)) : s.TypeIs (.ref a) "dict" ∧ ∀ b, Value.ref a = .ref b → ∃ ob, s.heap.get? b = some ob ∧ ob.dict = none := by
  obtain ⟨⟨_, _, _, _, o, _, _, ho, hx, _⟩, _⟩ := (show ObjOk X.prog X.w H s.heap a (nO X.prog X.w es a) from I.hok _ _ e)
  refine ⟨⟨o, ho, hx.1⟩, fun b q => ?_⟩
  cases q
  exact ⟨o, ho, hx.2.1⟩
section
variable {o i e f value : Expr} {pos pos' apos cpos : Pos} {td ty tv tx : TE}
theorem pe_Nget (hu : X.A.units + 16 < cLine) (ho : PE X o td) (hi : PE X i ty) (hs : NoSl i) : PE X (.Subscript o i pos) (tNGet X td ty) := by
  refine ⟨fun pins s σ H Q I h => ?_⟩
  refine subD_of PySem.F.slot_dict_getitem.lookup hs (thn (ho.run pins s σ H _ I h) fun u s1 ⟨x, H1, I1, rx, q1⟩ => thn (hi.run pins s1 σ H1 _ I1 q1) fun iv s2 ⟨y, H2, I2, ry, a, es, k, v, ex, ea, hk, hy, hv, q2⟩ => ?_)
  subst ex
  obtain rfl : u = Value.ref a := rx
  exact ⟨(nd_type I2 ea).1, n_get hu I2 ea hk hy ry hv fun w' s3 I3 rw' => ⟨v, H2, I3, rw', q2⟩⟩
def sNPut (X : Cx) (td ty tv : TE) : TS := fun D σ H => tv σ H fun v H1 => td σ H1 fun x H2 => ty σ H2 fun y H3 => ∃ a es k, x = .ref a ∧ H3 a = some (nO X.prog X.w es a) ∧ KsOk X.K H3 es ∧ NkO X.K H3 y k ∧ nAt es k = none ∧ es.length < sizeLine ∧ D.nx σ (upd H3 a (nO X.prog X.w (es ++ [(k, y, v)]) a))
theorem ps_Nput (hu : X.A.units + 16 < cLine) (ho : PE X o td) (hi : PE X i ty) (hv : PE X value tv) (hs : swapsWith value (some (.Subscript o i pos')) pos.line X.env = pure false) : PS X (.Assign [.Subscript o i pos'] value pos) (sNPut X td ty tv) := by
  refine ⟨fun pins s σ H D I h => ?_⟩
  refine wpAny_Assign_Subscript (thn (hv.run pins s σ H _ I h) fun r s1 ⟨v, H1, I1, rv, q1⟩ => thn (ho.run pins s1 σ H1 _ I1 q1) fun u s2 ⟨x, H2, I2, rx, q2⟩ => thn (hi.run pins s2 σ H2 _ I2 q2) fun iv s3 ⟨y, H3, I3, ry, a, es, k, ex, ea, hk, hy, hn, z, q3⟩ => ?_) hs
  subst ex
  obtain rfl : u = Value.ref a := rx
  exact n_put hu I3 ea hk hy ry rv hn z fun s4 I4 => ⟨σ, _, I4, q3⟩
def tNSetd (X : Cx) (td ty tx : TE) : TE := fun σ H Q => td σ H fun x H1 => ∃ a es1, x = .ref a ∧ H1 a = some (nO X.prog X.w es1 a) ∧ ty σ H1 fun y H2 => tx σ H2 fun z H3 => ∃ es k, H3 a = some (nO X.prog X.w es a) ∧ KsOk X.K H3 es ∧ NkO X.K H3 y k ∧ es.length < sizeLine ∧
  (∀ v, nAt es k = some v → Q v H3) ∧ (nAt es k = none → Q z (upd H3 a (nO X.prog X.w (es ++ [(k, y, z)]) a)))
theorem pe_Nsetd (hu : X.A.units + 16 < cLine) (ho : PE X o td) (he : PE X e ty) (hf : PE X f tx) (m : M2 X o "setdefault" apos e f cpos) : PE X (.Call (.Attribute o "setdefault" apos) [e, f] [] cpos) (tNSetd X td ty tx) := by
  refine ⟨fun pins s σ H Q I h => ?_⟩
  refine wpAny_Call_method m.base m.few m.line PySem.F.plainAttrs_dict PySem.F.slot_dict_setdefault PySem.F.type_dict_setdefault (thn (ho.run pins s σ H _ I h) fun u s1 ⟨x, H1, I1, rx, a, es1, ex, d, q1⟩ => ?_)
  subst ex
  obtain rfl : u = Value.ref a := rx
  obtain ⟨t1, t2⟩ := nd_type I1 d
  refine ⟨t1, t2, ?_⟩
  rw [m.trees]
  refine Calls.callWith_builtin rfl (Calls.evalArgs_plain (Calls.spliced_cons (thn (he.run pins s1 σ H1 _ I1 q1) fun iv s2 ⟨y, H2, I2, ry, q2⟩ =>
    Calls.spliced_cons (thn (hf.run pins s2 σ H2 _ I2 q2) fun fv s3 ⟨z, H3, I3, rz, es, k, ea, hk, hy, hl, q3, q4⟩ => Calls.spliced_nil ?_))))
  exact n_setd hu I3 ea hk hy ry rz hl (fun v hv w' s4 I4 rw' => ⟨v, _, I4, rw', q3 v hv⟩) fun hn s4 I4 => ⟨z, _, I4, rz, q4 hn⟩
theorem call_lenN : CallR X (.builtin "len") (fun xs H Q => ∃ a es, xs = [V.ref a] ∧ H a = some (nO X.prog X.w es a) ∧ KsOk X.K H es ∧ Q (.int es.length) H) := by
  intro pins s σ H xs us Q I r h
  obtain ⟨a, es, rfl, e, hk, q⟩ := h
  obtain ⟨u, rfl, rx⟩ := r.one
  cases rx
  obtain ⟨z, hs, ys, pr, d⟩ := nO_rd I e hk
  refine call_len_dictH hs d (by rw [← pr.length]; rw [sizeLine_eq] at z; omega) ?_
  rw [← pr.length]
  exact ⟨.int es.length, H, I.tok _, ⟨_, rfl⟩, q⟩
def tNNew : Cx → TE := fun X _ H Q => ∀ p, H p = none → Q (.ref p) (upd H p (nO X.prog X.w [] p))
theorem pe_Nnew : PE X (.Dict [] [] pos) (tNNew X) := ⟨fun pins s σ H Q I h =>
  wpAny_Dict_empty ⟨.ref s.heap.objs.size, _, I.laid (a := s.heap.objs.size) (o := nO X.prog X.w [] s.heap.objs.size) (t' := s.toks) (fun _ _ q => Heap.get?_push_of_some _ q) (Nat.le_refl _) (n_empty s.heap I.big), rfl, h _ (I.hok.fresh (Nat.le_refl _))⟩⟩
/-- {e: f} -/
def tNOne (X : Cx) (ty tv : TE) : TE := fun σ H Q => ∀ p, H p = none → ty σ (upd H p (nO X.prog X.w [] p)) fun y H1 => tv σ H1 fun v H2 => H2 p = some (nO X.prog X.w [] p) ∧ ∃ k, NkO X.K H2 y k ∧ Q (.ref p) (upd H2 p (nO X.prog X.w [(k, y, v)] p))
theorem pe_None (hu : X.A.units + 16 < cLine) (he : PE X e ty) (hf : PE X f tv) : PE X (.Dict [some e] [f] pos) (tNOne X ty tv) := by
  refine ⟨fun pins s σ H Q I q => ?_⟩
  have hn := I.hok.fresh (Nat.le_refl s.heap.objs.size)
  have I1 := I.laid (a := s.heap.objs.size) (o := nO X.prog X.w [] s.heap.objs.size) (h' := s.heap.push { cls := .type "dict", data := .dict #[] }) (t' := s.toks) (fun _ _ q => Heap.get?_push_of_some _ q) (Nat.le_refl _) (n_empty s.heap I.big)
  rw [arm_eval_Dict, zip_pairTrees [some e] [f] X.env pos rfl rfl, dictDisplay_pairs (pairTrees [some e] [f] X.env pos) (by simp [pairTrees]) (by simp [pairTrees])]
  refine wpAny_bind (wpAny_standAt (wpAny_bind (wpAny_subDictH (knd := nKd X) (Q := fun d s' => wpAny (model X.prog X.w) X.A (pure (Value.ref d)) (EP X pins σ Q) X.xe s') (show X.A.units + 8 < cLine by omega) (by simp [pairTrees]) ?_)))
  refine pairTrees_cons_walk (thn (he.run pins _ σ _ _ I1 (q _ hn)) fun u s1 ⟨y, H1, J1, r1, q1⟩ => thn (hf.run pins s1 σ H1 _ J1 q1) fun w2 s2 ⟨v, H2, I2, r2, e2, k, hy, q2⟩ => pairTrees_nil_walk ?_)
  obtain ⟨z, hs, xs, pr, d⟩ := nO_rd I2 e2 (fun p hp => by cases hp)
  cases pr
  obtain ⟨b, rfl, rfl, i⟩ := hy.is I2 r1
  refine ⟨[(k, b, w2)], ⟨rfl, rfl, i, trivial⟩, d, fun h' tk d' hsb => wpAny_pure ⟨.ref s.heap.objs.size, _, ?_, rfl, q2⟩⟩
  obtain ⟨q, _, _, hq, _⟩ := id d'
  exact d_write I2 (by rw [e2]; exact True.intro) hsb ⟨q, hq⟩ (nO_ok (show 1 ≤ sizeLine by decide) hs (.cons ⟨rfl, rfl, r2⟩ .nil) d')
end
end
/-! ### over data -/
def nZip (ks : List NestedKey) (xs : List V) : List NE := ks.zip ((xs.take ks.length).zip (xs.drop ks.length))
def mkN (P : Program) (w : World) (ks : List NestedKey) : Addr → List V → HO := fun a xs => nO P w (nZip ks xs) a
/-- a dict with keys ks, what it holds ds -/
def dNP (P : Program) (w : World) (ks ds : List D) : D := .raw (mkN P w (ks.map D.key)) (ks ++ ds)
abbrev dN (X : Cx) (ks ds : List D) : D := dNP X.prog X.w ks ds
section
variable {K : PySem.W.Frag} {B : Hp}
theorem nZip_split {ks : List NestedKey} {us vs : List V} (h : ks.length = us.length) : nZip ks (us ++ vs) = ks.zip (us.zip vs) := by
  unfold nZip
  rw [h, List.take_left, List.drop_left]
theorem ObL.parts : ∀ {ds es : List D} {xs : List V}, ObL K B xs (ds ++ es) → ∃ us vs, xs = us ++ vs ∧ ObL K B us ds ∧ ObL K B vs es
  | [], _, _, o => ⟨[], _, rfl, .nil, o⟩
  | d :: ds, es, _, o => by
    cases o with
    | cons r t =>
      obtain ⟨us, vs, e, o1, o2⟩ := ObL.parts (ds := ds) t
      exact ⟨_ :: us, vs, by rw [e]; rfl, .cons r o1, o2⟩
theorem zip_snoc {α β : Type} {a : List α} {b : List β} {x : α} {y : β} (h : a.length = b.length) : a.zip b ++ [(x, y)] = (a ++ [x]).zip (b ++ [y]) := by
  rw [List.zip_append h]; rfl
/-- a dict of one's own -/
structure NSt (X : Cx) (H B : Hp) (a : Addr) (ks ds : List D) (us vs : List V) : Prop where
  at_ : H a = some (nO X.prog X.w ((ks.map D.key).zip (us.zip vs)) a)
  ok : KsOk X.K H ((ks.map D.key).zip (us.zip vs))
  ou : ObL X.K B us ks
  ov : ObL X.K B vs ds
theorem nst_of {X : Cx} {B0 : Hp} {F : List Addr} {H : Hp} {σ : L2.St} {Γ : Gam} {ts : List V} {τ : List D} {L : Cells} {j : Nat} {a : Addr} {ks ds : List D} (S : Sat X.K B0 F H σ Γ ts τ L) (hj : L[j]? = some (a, dN X ks ds)) (hk : ∀ k ∈ ks, k.keyOk = true) :
    ∃ us vs, NSt X H (vis H (F ++ adr L)) a ks ds us vs := by
  obtain ⟨xs, hx, _, t⟩ := S.cell hj
  obtain ⟨us, vs, rfl, o1, o2⟩ := t.parts
  have hl : (ks.map D.key).length = us.length := by rw [List.length_map, o1.length]
  refine ⟨us, vs, ?_, ?_, o1, o2⟩
  · rw [hx]; unfold mkN; rw [nZip_split hl]
  · intro p hp
    obtain ⟨i, hi⟩ := List.mem_iff_getElem?.mp hp
    rw [List.getElem?_zip_eq_some] at hi
    obtain ⟨h1, h2⟩ := hi
    rw [List.getElem?_zip_eq_some] at h2
    obtain ⟨h2, _⟩ := h2
    obtain ⟨d, hd, e⟩ := map_get h1
    obtain ⟨v, hv, o⟩ := o1.get hd
    rw [h2] at hv
    cases hv
    rw [e]
    exact o.nk vis_le (hk d (List.mem_of_getElem? hd))
theorem nAt_isSome : ∀ {ks : List NestedKey} {us vs : List V} {k : NestedKey}, ks.length = us.length → ks.length = vs.length → (nAt (ks.zip (us.zip vs)) k).isSome = decide (k ∈ ks)
  | [], _, _, _, _, _ => rfl
  | x :: ks, u :: us, v :: vs, k, h1, h2 => by
    have ih := nAt_isSome (ks := ks) (us := us) (vs := vs) (k := k) (by simpa using h1) (by simpa using h2)
    by_cases e : x = k
    · subst e; simp [nAt]
    · have e' : ¬ k = x := fun z => e z.symm
      have : nAt ((x :: ks).zip ((u :: us).zip (v :: vs))) k = nAt (ks.zip (us.zip vs)) k := by simp [nAt, e]
      rw [this, ih]
      simp [e']
  | _ :: _, [], _, _, h, _ => by simp at h
  | _ :: _, _ :: _, [], _, _, h => by simp at h
theorem nAt_at : ∀ {ks : List NestedKey} {us vs : List V} {k : NestedKey} {i : Nat} {v : V}, ks.length = us.length → ks.length = vs.length → ks[i]? = some k → (∀ m, m < i → ks[m]? ≠ some k) → vs[i]? = some v → nAt (ks.zip (us.zip vs)) k = some v
  | [], _, _, _, _, _, _, _, h, _, _ => by simp at h
  | x :: ks, u :: us, v0 :: vs, k, i, v, h1, h2, hk, hf, hv => by
    cases i with
    | zero => simp at hk hv; subst hk hv; simp [nAt]
    | succ i =>
      have e : x ≠ k := fun z => hf 0 (Nat.succ_pos _) (by simp [z])
      have ih := nAt_at (ks := ks) (us := us) (vs := vs) (k := k) (i := i) (v := v) (by simpa using h1) (by simpa using h2) (by simpa using hk) (fun m hm hh => hf (m + 1) (Nat.succ_lt_succ hm) (by simpa using hh)) (by simpa using hv)
      rw [← ih]
      simp [nAt, e]
  | _ :: _, [], _, _, _, _, h, _, _, _, _ => by simp at h
  | _ :: _, _ :: _, [], _, _, _, _, h, _, _, _ => by simp at h
end
section
variable {X : Cx} {Γ : Gam} {L : Cells} {R : RD} {e a b f o : Expr} {pos apos cpos : Pos} {E : En}
/-- k in d, k not in d -/
theorem o2_N {neg : Bool} {j : Nat} {c : Addr} {k : D} {ks ds : List D} {q : Bool} (hj : L[j]? = some (c, dN X ks ds)) (hk : ∀ k ∈ ks, k.keyOk = true) (hl : ks.length = ds.length) (h1 : k.keyOk = true) (hq : decide (k.key ∈ ks.map D.key) = q) (r : R (.bl (if neg then !q else q)) L) :
    Op2 X.K (rNIn X neg) k (.ref c) L R := .mk fun {B0 F H σ Γ ts τ x y Q} S qq => by
  obtain ⟨o1, o2, S2⟩ := S.two
  cases o2
  obtain ⟨us, vs, N⟩ := nst_of S hj hk
  have e : (nAt ((ks.map D.key).zip (us.zip vs)) k.key).isSome = q := by
    rw [nAt_isSome (by rw [List.length_map, N.ou.length]) (by rw [List.length_map, N.ov.length, hl]), hq]
  exact ⟨c, _, k.key, rfl, N.at_, N.ok, o1.nk vis_le h1, by rw [e]; exact qq _ _ _ _ r (S2.push (.bl _))⟩
/-- d[k] -/
theorem ev_Nget (hu : X.A.units + 16 < cLine) (h : EvX X a Γ L fun d1 L1 => EvX X b Γ L1 fun k L2 => ∃ (j : Nat) (c : Addr) (ks ds : List D) (i : Nat) (d : D), d1 = .ref c ∧ L2[j]? = some (c, dN X ks ds) ∧ (∀ k ∈ ks, k.keyOk = true) ∧ ks.length = ds.length ∧ k.keyOk = true ∧
      (ks.map D.key)[i]? = some k.key ∧ (∀ m, m < i → (ks.map D.key)[m]? ≠ some k.key) ∧ ds[i]? = some d ∧ R d L2) (hs : NoSl b := by exact fun _ _ => rfl) : EvX X (.Subscript a b pos) Γ L R := .mk fun S q =>
  we_of (pe_Nget hu pe_w pe_w hs) (h.run S fun v1 d1 H1 L1 h1 S1 => h1.run S1 fun v2 k H2 L2 ⟨j, c, ks, ds, i, d, e1, hj, hk, hl, hok, hi, hf, hd, r⟩ S2 => by
    subst e1
    obtain ⟨o1, o2, S3⟩ := S2.two
    cases o1
    obtain ⟨us, vs, N⟩ := nst_of S2 hj hk
    obtain ⟨v, hv, ov⟩ := N.ov.get hd
    exact ⟨c, _, k.key, v, rfl, N.at_, N.ok, o2.nk vis_le hok, nAt_at (by rw [List.length_map, N.ou.length]) (by rw [List.length_map, N.ov.length, hl]) hi hf hv, q _ _ _ _ r (S3.push ov)⟩)
theorem raw_dN {X : Cx} {ks ds : List D} {us vs : List V} {a : Addr} {B H : Hp} (hl : (ks.map D.key).length = us.length) (h : H a = some (nO X.prog X.w ((ks.map D.key).zip (us.zip vs)) a)) (ou : ObL X.K B us ks) (ov : ObL X.K B vs ds) : CellAt X.K B H a (dN X ks ds) :=
  ⟨us ++ vs, by rw [h]; unfold mkN; rw [nZip_split hl], trivial, ou.append ov⟩
theorem zip3_snoc {ks : List NestedKey} {us vs : List V} {k : NestedKey} {u v : V} (h1 : ks.length = us.length) (h2 : ks.length = vs.length) : ks.zip (us.zip vs) ++ [(k, u, v)] = (ks ++ [k]).zip ((us ++ [u]).zip (vs ++ [v])) := by
  rw [← zip_snoc (h1.symm.trans h2), ← zip_snoc (by rw [List.length_zip, ← h1, ← h2, Nat.min_self])]
/-- d[k] = v, a new key -/
theorem st_Nput {oe ie : Expr} {pos' : Pos} (hu : X.A.units + 16 < cLine) (h : EvX X e Γ L fun d L1 => EvX X oe Γ L1 fun d1 L2 => EvX X ie Γ L2 fun k L3 => ∃ (j : Nat) (c : Addr) (ks ds : List D), d1 = .ref c ∧ L3[j]? = some (c, dN X ks ds) ∧ (∀ k ∈ ks, k.keyOk = true) ∧ ks.length = ds.length ∧ k.keyOk = true ∧ k.key ∉ ks.map D.key ∧ ks.length < sizeLine ∧
      E.nx Γ (L3.set j (c, dN X (ks ++ [k]) (ds ++ [d])))) (hs : swapsWith e (some (.Subscript oe ie pos')) pos.line X.env = pure false := by rfl) : StX X (.Assign [.Subscript oe ie pos'] e pos) Γ L E := .mk fun S ok =>
  ws_of (ps_Nput hu pe_w pe_w pe_w hs) (h.run S fun v d H1 L1 h1 S1 => h1.run S1 fun v1 d1 H2 L2 h2 S2 => h2.run S2 fun v2 k H3 L3 ⟨j, c, ks, ds, e1, hj, hk, hl, hok, hn, z, r⟩ S3 => by
    subst e1
    obtain ⟨o1, o2, S4⟩ := S3.two
    cases o1
    obtain ⟨us, vs, N⟩ := nst_of S3 hj hk
    have l1 : (ks.map D.key).length = us.length := by rw [List.length_map, N.ou.length]
    have l2 : (ks.map D.key).length = vs.length := by rw [List.length_map, N.ov.length, hl]
    have l3 : ((ks.map D.key).zip (us.zip vs)).length = ks.length := by rw [List.length_zip, List.length_zip, ← l1, ← l2, Nat.min_self, Nat.min_self, List.length_map]
    refine ⟨c, _, k.key, rfl, N.at_, N.ok, o2.nk vis_le hok, ?_, by rw [l3]; exact z, ok.nx _ _ _ _ r ?_⟩
    · have := nAt_isSome (k := k.key) l1 l2
      rw [decide_eq_false hn] at this
      exact Option.isNone_iff_eq_none.mp (Option.isSome_eq_false_iff.mp this)
    · refine S4.pop.write hj (raw_dN (us := us ++ [v2]) (vs := vs ++ [v]) (by rw [List.length_map, List.length_append, List.length_append, ← N.ou.length]; rfl) ?_ (N.ou.append (.cons o2 .nil)) (N.ov.append (.cons S4.top .nil)))
      rw [upd_same, zip3_snoc l1 l2, List.map_append]
      rfl)
/-- d.setdefault(k, v) -/
theorem ev_Nsetd (hu : X.A.units + 16 < cLine) (h : EvX X o Γ L fun d1 L1 => ∃ (j1 : Nat) (c : Addr) (ks1 ds1 : List D), d1 = .ref c ∧ L1[j1]? = some (c, dN X ks1 ds1) ∧ (∀ k ∈ ks1, k.keyOk = true) ∧ EvX X e Γ L1 fun k L2 => EvX X f Γ L2 fun d L3 => ∃ (j : Nat) (ks ds : List D), L3[j]? = some (c, dN X ks ds) ∧ (∀ k ∈ ks, k.keyOk = true) ∧ ks.length = ds.length ∧ k.keyOk = true ∧ ks.length < sizeLine ∧
      (k.key ∈ ks.map D.key → ∀ d', d' ∈ ds → R d' L3) ∧ (k.key ∉ ks.map D.key → R d (L3.set j (c, dN X (ks ++ [k]) (ds ++ [d]))))) (m : M2 X o "setdefault" apos e f cpos := by exact ⟨rfl, rfl, rfl, rfl⟩) :
    EvX X (.Call (.Attribute o "setdefault" apos) [e, f] [] cpos) Γ L R := .mk fun S q =>
  we_of (pe_Nsetd hu pe_w pe_w pe_w m) (h.run S fun v1 d1 H1 L1 ⟨j1, c, ks1, ds1, e1, hj1, hk1, h1⟩ S1 => by
    subst e1
    cases S1.top
    obtain ⟨us1, vs1, N1⟩ := nst_of S1 hj1 hk1
    refine ⟨c, _, rfl, N1.at_, h1.run S1 fun v2 k H2 L2 h2 S2 => h2.run S2 fun v d H3 L3 ⟨j, ks, ds, hj, hk, hl, hok, z, r1, r2⟩ S3 => ?_⟩
    obtain ⟨us, vs, N⟩ := nst_of S3 hj hk
    have l1 : (ks.map D.key).length = us.length := by rw [List.length_map, N.ou.length]
    have l2 : (ks.map D.key).length = vs.length := by rw [List.length_map, N.ov.length, hl]
    have l3 : ((ks.map D.key).zip (us.zip vs)).length = ks.length := by rw [List.length_zip, List.length_zip, ← l1, ← l2, Nat.min_self, Nat.min_self, List.length_map]
    have hi := nAt_isSome (k := k.key) l1 l2
    refine ⟨_, k.key, N.at_, N.ok, S3.pop.top.nk vis_le hok, by rw [l3]; exact z, fun v' hv' => ?_, fun hn => ?_⟩
    · rw [hv'] at hi
      have hm : k.key ∈ ks.map D.key := of_decide_eq_true hi.symm
      have hv2 : v' ∈ vs := by
        unfold nAt at hv'
        obtain ⟨p, hp, rfl⟩ := Option.map_eq_some_iff.mp hv'
        have := List.mem_of_find?_eq_some hp
        exact (List.of_mem_zip (List.of_mem_zip this).2).2
      obtain ⟨i, hi2⟩ := List.mem_iff_getElem?.mp hv2
      obtain ⟨d', hd', ob⟩ := N.ov.get' hi2
      exact q _ _ _ _ (r1 hm d' (List.mem_of_getElem? hd')) (S3.pop.pop.pop.push ob)
    · rw [hn] at hi
      have hm : k.key ∉ ks.map D.key := of_decide_eq_false hi.symm
      refine q _ _ _ _ (r2 hm) ?_
      have S4 := S3.write hj (raw_dN (us := us ++ [v2]) (vs := vs ++ [v]) (by rw [List.length_map, List.length_append, List.length_append, ← N.ou.length]; rfl) (H := upd H3 c (nO X.prog X.w ((ks.map D.key).zip (us.zip vs) ++ [(k.key, v2, v)]) c)) ?_ (N.ou.append (.cons S3.pop.top .nil)) (N.ov.append (.cons S3.top .nil)))
      · exact S4.pop.pop.pop.push S4.top
      · rw [upd_same, zip3_snoc l1 l2, List.map_append]
        rfl)
theorem oa_lenN {j : Nat} {c : Addr} {ks ds : List D} (hj : L[j]? = some (c, dN X ks ds)) (hk : ∀ k ∈ ks, k.keyOk = true) (hl : ks.length = ds.length) (r : R (.int ks.length) L) : OpA X.K (fun xs H Q => ∃ a es, xs = [V.ref a] ∧ H a = some (nO X.prog X.w es a) ∧ KsOk X.K H es ∧ Q (.int es.length) H) [.ref c] L R := .mk fun {B0 F H σ Γ ts vs τ Q} S hn q => by
  obtain ⟨o, S2⟩ := S.args hn
  obtain ⟨v, rfl, o1⟩ := o.one
  cases o1
  obtain ⟨us, ws, N⟩ := nst_of S hj hk
  have l3 : ((ks.map D.key).zip (us.zip ws)).length = ks.length := by rw [List.length_zip, List.length_zip, N.ou.length, N.ov.length, ← hl, List.length_map, Nat.min_self, Nat.min_self]
  exact ⟨c, _, rfl, N.at_, N.ok, by rw [l3]; exact q _ _ _ _ r (S2.push (.int _))⟩
theorem oa_listN {j : Nat} {c : Addr} {ks ds : List D} (hj : L[j]? = some (c, dN X ks ds)) (hk : ∀ k ∈ ks, k.keyOk = true) (hl : ks.length = ds.length) (r : ∀ p, R (.ref p) (L ++ [(p, .lst ks)])) :
    OpA X.K (fun xs H Q => ∃ d es, xs = [V.ref d] ∧ H d = some (nO X.prog X.w es d) ∧ ∀ p, H p = none → Q (.ref p) (upd H p (.lst (es.map (·.2.1))))) [.ref c] L R := .mk fun {B0 F H σ Γ ts vs τ Q} S hn q => by
  obtain ⟨o, S2⟩ := S.args hn
  obtain ⟨v, rfl, o1⟩ := o.one
  cases o1
  obtain ⟨us, ws, N⟩ := nst_of S hj hk
  have e : ((ks.map D.key).zip (us.zip ws)).map (·.2.1) = us := by
    have h1 : ks.length = us.length := N.ou.length.symm
    have h2 : us.length = ws.length := by rw [← h1, hl, N.ov.length]
    have : ((ks.map D.key).zip (us.zip ws)).map (·.2.1) = (((ks.map D.key).zip (us.zip ws)).map (·.2)).map (·.1) := by rw [List.map_map]; rfl
    rw [this, ← List.unzip_snd, List.unzip_zip_right (by rw [List.length_map, List.length_zip, ← h2, Nat.min_self, h1]; exact Nat.le_refl _), ← List.unzip_fst, List.unzip_zip_left (by rw [h2]; exact Nat.le_refl _)]
  refine ⟨c, _, rfl, N.at_, fun p hp => ?_⟩
  rw [e]
  exact q _ _ _ _ (r p) ((S2.newC (o := .lst us) (d := .lst ks) hp fun B le => ⟨us, upd_same, N.ou.mono le⟩).push (.ref p))
/-- {}, with nested keys -/
theorem ev_Nnew (r : ∀ p, R (.ref p) (L ++ [(p, dN X [] [])])) : EvX X (.Dict [] [] pos) Γ L R := .mk fun S q =>
  we_of pe_Nnew fun p hp => q _ _ _ _ (r p) ((S.newC (o := nO X.prog X.w [] p) (d := dN X [] []) hp fun B le => ⟨[], by rw [upd_same]; rfl, trivial, .nil⟩).push (.ref p))
/-- {k: v} -/
theorem ev_None (hu : X.A.units + 16 < cLine) (h : ∀ p, EvX X e Γ (L ++ [(p, dN X [] [])]) fun k L1 => EvX X f Γ L1 fun d L2 => ∃ j, L2[j]? = some (p, dN X [] []) ∧ k.keyOk = true ∧ R (.ref p) (L2.set j (p, dN X [k] [d]))) : EvX X (.Dict [some e] [f] pos) Γ L R := .mk fun S q =>
  we_of (pe_None hu pe_w pe_w) fun p hp => by
    have S0 := (S.newC (o := nO X.prog X.w [] p) (d := dN X [] []) hp fun B le => ⟨[], by rw [upd_same]; rfl, trivial, .nil⟩)
    refine (h p).run S0 fun v k H1 L1 h1 S1 => h1.run S1 fun u d H2 L2 ⟨j, hj, hok, r⟩ S2 => ?_
    obtain ⟨us, vs, N⟩ := nst_of S2 hj (fun k hk => by cases hk)
    refine ⟨N.at_, k.key, S2.pop.top.nk vis_le hok, ?_⟩
    refine q _ _ _ _ r ?_
    have S4 := S2.write (o := nO X.prog X.w [(k.key, v, u)] p) hj (raw_dN (X := X) (ks := [k]) (ds := [d]) (us := [v]) (vs := [u]) rfl (by rw [upd_same]; rfl) (.cons S2.pop.top .nil) (.cons S2.top .nil))
    exact S4.pop.pop.push (.ref p)
end
end DL
set_option maxRecDepth 100000
set_option maxHeartbeats 4000000
/-! DLD: zip(xs, ys, strict=True) of two lists, walked with one name as target. -/
namespace DL
open PySem PySem.Spec PyProof.Rows L2
section
variable {prog : Program} {w : World} {A : Around} {E : Value → Shared → Prop} {s : Shared}
/-- a strict zip -/
abbrev ZS (g : Heap) (q ti tc : Addr) (a b : Value) : Prop := g.get? q = some { cls := .type "zip", dict := none, data := .fields #[a, b, .bool true, .ref ti, .ref tc], slots := #[] }
/-- what is known of the tuple that was given out -/
def Gone (a : Value) : Prop := a = .none ∨ ∃ T : Addr, a = rawInt T
theorem drw_item {u la : Addr} {i : Nat} {its : Array Value} {x : Value} {Q : Option Value → Shared → Prop} (hu : s.heap.IsListIter u la i) (hl : s.heap.IsList la its) (hx : its[i]? = some x)
    (hQ : ∀ g, g.IsListIter u la (i + 1) → Heap.SameBut u s.heap g → Q (some x) { s with heap := g }) : wpAny (model prog w) A (Builtin.SmallTypes.nextOrEnd (.ref u)) Q E s := by
  unfold Builtin.SmallTypes.nextOrEnd
  exact wpAny_bind (wpAny_attempt (wpAny_nextOf_list_item hu hl hx fun g a b => wpAny_pure (hQ g a b)))
theorem drw_end {u la : Addr} {i : Nat} {its : Array Value} {Q : Option Value → Shared → Prop} (hh : A.handled = none) (hu : s.heap.IsListIter u la i) (hl : s.heap.IsList la its) (hx : its[i]? = none)
    (hQ : ∀ g, Heap.ExtBut u s.heap g → Q none { s with heap := g }) : wpAny (model prog w) A (Builtin.SmallTypes.nextOrEnd (.ref u)) Q E s := by
  unfold Builtin.SmallTypes.nextOrEnd
  refine wpAny_bind (wpAny_attempt (wpAny_nextOf_list_end hh hu hl hx fun g e b ⟨o, ho, hc⟩ => ?_))
  refine wpAny_bind (wpAny_isInstance (T := "StopIteration") (b := true) ⟨o, ho, hc⟩ isSubtype_stop ?_)
  exact wpAny_pure (hQ g b)
/-- the kept tuple may be used again, or not -/
theorem zs_free {q ti tc : Addr} {a b : Value} {Q : Bool → Shared → Prop} (hz : ZS s.heap q ti tc a b) (ha : Gone a) (h1 : Q true s) (h2 : ∀ g b', ZS g q ti tc a b' → Heap.SameBut q s.heap g → Q false { s with heap := g }) :
    wpAny (model prog w) A (Builtin.SmallTypes.ownedTupleIsFree (.ref q)) Q E s := by
  unfold Builtin.SmallTypes.ownedTupleIsFree
  refine wpAny_bind (wpAny_field hz rfl (x := a) rfl ?_)
  rcases ha with rfl | ⟨T, rfl⟩
  · exact wpAny_pure h1
  · show wpAny _ _ (loadIfAlive ((T : Int).toNat) >>= _) _ _ _
    rw [Int.toNat_natCast]
    cases hT : s.heap.get? T with
    | none =>
      have k : ∀ {Q' : Option Obj → Shared → Prop}, Q' none s → wpAny (model prog w) A (loadIfAlive T) Q' E s := fun h => by
        have h' := h
        rw [← hT] at h'
        exact fun _ _ _ => h'
      refine wpAny_bind (k ?_)
      simp only [Option.isNone_none, if_true]
      exact wpAny_pure h1
    | some o =>
      refine wpAny_bind (PySem.W.kdx_alive hT ?_)
      simp only [Option.isNone_some, Bool.false_eq_true, if_false]
      refine wpAny_bind (wpAny_field hz rfl (x := b) rfl ?_)
      by_cases hb : (b != Value.bool true) = true
      · rw [if_pos hb]
        exact wpAny_bind (wpAny_setField_rec hz (by simp) fun g hz' hs => wpAny_pure (h2 g _ hz' hs))
      · rw [if_neg hb]
        exact wpAny_pure (h2 s.heap b hz (Heap.SameBut.refl _ _))
theorem zs_item {q ti tc u v la lb : Addr} {i j : Nat} {xs ys : Array Value} {x y a b c d : Value} {Q : Value → Shared → Prop} (Z : ZipApart q ti tc u v la lb) (hz : ZS s.heap q ti tc a b) (ha : Gone a) (hti : IsPair s.heap ti (.ref u) (.ref v)) (htc : IsPair s.heap tc c d)
    (hu : s.heap.IsListIter u la i) (hv : s.heap.IsListIter v lb j) (hxs : s.heap.IsList la xs) (hys : s.heap.IsList lb ys) (hx : xs[i]? = some x) (hy : ys[j]? = some y)
    (hQ : ∀ g a' b' c' d', ZS g q ti tc a' b' → Gone a' → IsPair g tc c' d' → g.IsListIter u la (i + 1) → g.IsListIter v lb (j + 1) → IsPair g s.heap.objs.size x y → g.objs.size = s.heap.objs.size + 1 →
      (∀ e o, e ≠ q → e ≠ tc → e ≠ u → e ≠ v → s.heap.get? e = some o → g.get? e = some o) → Q (.ref s.heap.objs.size) { s with heap := g }) :
    wpAny (model prog w) A (Builtin.«zip.__next__» ⟨[.ref q], []⟩) (fun fin s' => ∃ r, fin = .done (.ret r) ∧ Q r s') E s := by
  show wpAny _ _ (field (.ref q) 2 >>= _) _ _ _
  refine wpAny_bind (wpAny_field hz rfl (x := .bool true) rfl ?_)
  show wpAny _ _ (field (.ref q) 3 >>= _) _ _ _
  refine wpAny_bind (wpAny_field hz rfl (x := .ref ti) rfl ?_)
  refine wpAny_bind (wpAny_seqItems hti rfl ?_)
  show wpAny _ _ (Builtin.SmallTypes.ownedTupleIsFree (.ref q) >>= _) _ _ _
  refine wpAny_bind (zs_free hz ha ?_ fun g1 b1 hz1 k1 => ?_)
  · simp only [if_true]
    refine wpAny_bind (wpAny_rule ?_)
    refine wpAny_bind (wpAny_field hz rfl (x := .ref tc) rfl ?_)
    refine wpAny_bind (wpAny_setField_rec hz (by simp) fun g1 hz1 k1 => ?_)
    replace hz1 : ZS g1 q ti tc .ellipsis b := hz1
    refine wpAny_bind ?_
    simp only [List.zipIdx_cons, List.zipIdx_nil, List.forIn_cons, List.forIn_nil]
    refine wpAny_bind (wpAny_bind (wpAny_onRaise ?_))
    show wpAny _ _ (Builtin.SmallTypes.nextOrEnd (.ref u)) _ _ _
    refine drw_item (hu.extBut k1.extBut Z.i1z) (hxs.extBut k1.extBut Z.l1z) hx fun g2 hu2 k2 => ?_
    have t2 : IsPair g2 tc c d := k2.extBut _ _ Z.TOi1 (k1.extBut _ _ Z.TOz htc)
    refine wpAny_bind (wpAny_seqItems t2 rfl ?_)
    refine wpAny_bind (wpAny_updateSeq_pair t2 fun g3 t3 k3 => ?_)
    replace t3 : IsPair g3 tc x d := t3
    refine wpAny_bind (wpAny_letGo (wpAny_pure ?_))
    refine wpAny_bind (wpAny_bind (wpAny_onRaise ?_))
    show wpAny _ _ (Builtin.SmallTypes.nextOrEnd (.ref v)) _ _ _
    have hv3 : g3.IsListIter v lb j := ((hv.extBut k1.extBut Z.i2z).extBut k2.extBut Z.i12.symm).extBut k3.extBut Z.TOi2.symm
    have hy3 : g3.IsList lb ys := ((hys.extBut k1.extBut Z.l2z).extBut k2.extBut Z.l2i1).extBut k3.extBut Z.l2TO
    refine drw_item hv3 hy3 hy fun g4 hv4 k4 => ?_
    have t4 : IsPair g4 tc x d := k4.extBut _ _ Z.TOi2 t3
    refine wpAny_bind (wpAny_seqItems t4 rfl ?_)
    refine wpAny_bind (wpAny_updateSeq_pair t4 fun g5 t5 k5 => ?_)
    replace t5 : IsPair g5 tc x y := t5
    refine wpAny_bind (wpAny_letGo (wpAny_pure (wpAny_pure ?_)))
    refine wpAny_bind (wpAny_seqItems t5 rfl ?_)
    refine wpAny_bind (wpAny_newTuple ?_)
    have hsz : g5.objs.size = s.heap.objs.size := by rw [k5.1, k4.1, k3.1, k2.1, k1.1]
    have hz5 : ZS g5 q ti tc .ellipsis b := by
      have e2 := k2.extBut _ _ Z.i1z.symm hz1
      have e3 := k3.extBut _ _ Z.TOz.symm e2
      have e4 := k4.extBut _ _ Z.i2z.symm e3
      exact k5.extBut _ _ Z.TOz.symm e4
    have kk : ∀ e o, e ≠ q → e ≠ tc → e ≠ u → e ≠ v → s.heap.get? e = some o → g5.get? e = some o := fun e o n1 n2 n3 n4 h => by
      have e2 := k2.extBut _ _ n3 (k1.extBut _ _ n1 h)
      have e4 := k4.extBut _ _ n4 (k3.extBut _ _ n2 e2)
      exact k5.extBut _ _ n2 e4
    have hu5 : g5.IsListIter u la (i + 1) := ((hu2.extBut k3.extBut Z.TOi1.symm).extBut k4.extBut Z.i12).extBut k5.extBut Z.TOi1.symm
    have hv5 : g5.IsListIter v lb (j + 1) := hv4.extBut k5.extBut Z.TOi2.symm
    have lq : q < g5.objs.size := Heap.lt_size hz5
    show wpAny _ _ (Builtin.SmallTypes.ownedTupleHandOut (.ref q) (.ref g5.objs.size) >>= _) _ _ _
    refine wpAny_bind ?_
    unfold Builtin.SmallTypes.ownedTupleHandOut
    have hz6 : ZS (g5.push { cls := .type "tuple", data := .seq #[x, y] }) q ti tc .ellipsis b := Heap.get?_push_of_some _ hz5
    refine wpAny_bind (wpAny_setField_rec hz6 (by simp) fun g7 hz7 k7 => ?_)
    replace hz7 : ZS g7 q ti tc (rawInt g5.objs.size) b := hz7
    refine wpAny_setField_rec hz7 (by simp) fun g8 hz8 k8 => ?_
    replace hz8 : ZS g8 q ti tc (rawInt g5.objs.size) (.bool false) := hz8
    have up : ∀ e o, e ≠ q → g5.get? e = some o → g8.get? e = some o := fun e o n1 h => k8.extBut _ _ n1 (k7.extBut _ _ n1 (Heap.get?_push_of_some _ h))
    have t8 : IsPair g8 g5.objs.size x y := k8.extBut _ _ (Nat.ne_of_gt lq) (k7.extBut _ _ (Nat.ne_of_gt lq) (Heap.get?_push_size _ rfl))
    have s8 : g8.objs.size = g5.objs.size + 1 := by rw [k8.1, k7.1, Heap.size_push]
    rw [hsz] at hz8 t8 s8
    refine wpAny_pure ⟨_, rfl, ?_⟩
    show Q (.ref g5.objs.size) _
    rw [hsz]
    exact hQ g8 _ _ _ _ hz8 (.inr ⟨_, rfl⟩) (up _ _ Z.TOz t5) (hu5.at fun o e => up _ o Z.i1z e) (hv5.at fun o e => up _ o Z.i2z e) t8 s8 fun e o n1 n2 n3 n4 h => up e o n1 (kk e o n1 n2 n3 n4 h)
  · simp only [Bool.false_eq_true, if_false]
    refine wpAny_bind ?_
    rw [← Array.forIn_toList]
    simp only [List.forIn_cons, List.forIn_nil]
    refine wpAny_bind (wpAny_bind (wpAny_holding ?_))
    show wpAny _ _ (Builtin.SmallTypes.nextOrEnd (.ref u)) _ _ _
    refine drw_item (s := { s with heap := g1 }) (hu.extBut k1.extBut Z.i1z) (hxs.extBut k1.extBut Z.l1z) hx fun g2 hu2 k2 => ?_
    refine wpAny_pure ?_
    refine wpAny_bind (wpAny_bind (wpAny_holding ?_))
    show wpAny _ _ (Builtin.SmallTypes.nextOrEnd (.ref v)) _ _ _
    have hv2 : g2.IsListIter v lb j := (hv.extBut k1.extBut Z.i2z).extBut k2.extBut Z.i12.symm
    have hy2 : g2.IsList lb ys := (hys.extBut k1.extBut Z.l2z).extBut k2.extBut Z.l2i1
    refine drw_item (s := { s with heap := g2 }) hv2 hy2 hy fun g3 hv3 k3 => ?_
    refine wpAny_pure (wpAny_pure ?_)
    show wpAny _ _ (newTuple [x, y] >>= _) _ _ _
    refine wpAny_bind (wpAny_newTuple ?_)
    have hsz : g3.objs.size = s.heap.objs.size := by rw [k3.1, k2.1, k1.1]
    have hz3 : ZS g3 q ti tc a b1 := k3.extBut _ _ Z.i2z.symm (k2.extBut _ _ Z.i1z.symm hz1)
    have kk : ∀ e o, e ≠ q → e ≠ u → e ≠ v → s.heap.get? e = some o → g3.get? e = some o := fun e o n1 n2 n3 h => k3.extBut _ _ n3 (k2.extBut _ _ n2 (k1.extBut _ _ n1 h))
    have hu3 : g3.IsListIter u la (i + 1) := hu2.extBut k3.extBut Z.i12
    refine wpAny_pure ⟨_, rfl, ?_⟩
    show Q (.ref g3.objs.size) _
    have t4 : IsPair (g3.push { cls := .type "tuple", data := .seq #[x, y] }) g3.objs.size x y := Heap.get?_push_size _ rfl
    have s4 : (g3.push { cls := .type "tuple", data := .seq #[x, y] }).objs.size = g3.objs.size + 1 := Heap.size_push ..
    rw [hsz] at t4 s4 ⊢
    exact hQ _ a b1 c d (Heap.get?_push_of_some _ hz3) ha (Heap.get?_push_of_some _ (kk _ _ Z.TOz Z.TOi1 Z.TOi2 htc)) (hu3.at fun o e => Heap.get?_push_of_some _ e) (hv3.at fun o e => Heap.get?_push_of_some _ e) t4 s4 fun e o n1 n2 n3 n4 h => Heap.get?_push_of_some _ (kk e o n1 n3 n4 h)
/-- both at their ends -/
theorem zs_end {q ti tc u v la lb : Addr} {i j : Nat} {xs ys : Array Value} {a b c d : Value} {Q : Fin → Shared → Prop} (hh : A.handled = none) (Z : ZipApart q ti tc u v la lb) (hz : ZS s.heap q ti tc a b) (ha : Gone a) (hti : IsPair s.heap ti (.ref u) (.ref v)) (htc : IsPair s.heap tc c d)
    (hu : s.heap.IsListIter u la i) (hv : s.heap.IsListIter v lb j) (hxs : s.heap.IsList la xs) (hys : s.heap.IsList lb ys) (hx : xs[i]? = none) (hy : ys[j]? = none)
    (hE : ∀ g e, (∀ e o, e ≠ q → e ≠ tc → e ≠ u → e ≠ v → s.heap.get? e = some o → g.get? e = some o) → (∃ o, g.get? e = some o ∧ o.cls = .type "StopIteration") → E (.ref e) { s with heap := g }) :
    wpAny (model prog w) A (Builtin.«zip.__next__» ⟨[.ref q], []⟩) Q E s := by
  show wpAny _ _ (field (.ref q) 2 >>= _) _ _ _
  refine wpAny_bind (wpAny_field hz rfl (x := .bool true) rfl ?_)
  show wpAny _ _ (field (.ref q) 3 >>= _) _ _ _
  refine wpAny_bind (wpAny_field hz rfl (x := .ref ti) rfl ?_)
  refine wpAny_bind (wpAny_seqItems hti rfl ?_)
  show wpAny _ _ (Builtin.SmallTypes.ownedTupleIsFree (.ref q) >>= _) _ _ _
  have stop : ∀ {α : Type} {Q' : α → Shared → Prop} {g : Heap}, (∀ e o, e ≠ q → e ≠ tc → e ≠ u → e ≠ v → s.heap.get? e = some o → g.get? e = some o) → wpAny (model prog w) A (Builtin.SmallTypes.stopIteration : Sem α) Q' E { s with heap := g } := fun {α Q' g} kk => by
    show wpAny _ _ (newExc (.type "StopIteration") [] >>= _) _ _ _
    refine wpAny_bind ?_
    simp only [newExc, newTuple]
    refine wpAny_bind (wpAny_newObj_type ?_ (by size_fits))
    refine wpAny_bind (m := firstArgMember _ _) (wpAny_of_eq (a := Value.none) (by first | rfl | (simp only [firstArgMember]; rfl)) ?_)
    refine wpAny_newObj_type ?_ (by size_fits)
    simp only [raiseNew]
    refine wpAny_bind (wpAny_handled ?_)
    rw [hh]
    refine wpAny_bind (wpAny_pure (wpAny_throw ?_))
    exact hE _ _ (fun e o n1 n2 n3 n4 h => Heap.get?_push_of_some _ (Heap.get?_push_of_some _ (kk e o n1 n2 n3 n4 h))) ⟨_, Heap.get?_push_size _ rfl, rfl⟩
  refine wpAny_bind (zs_free hz ha ?_ fun g1 b1 hz1 k1 => ?_)
  · simp only [if_true]
    refine wpAny_bind (wpAny_rule ?_)
    refine wpAny_bind (wpAny_field hz rfl (x := .ref tc) rfl ?_)
    refine wpAny_bind (wpAny_setField_rec hz (by simp) fun g1 hz1 k1 => ?_)
    replace hz1 : ZS g1 q ti tc .ellipsis b := hz1
    refine wpAny_bind ?_
    simp only [List.zipIdx_cons, List.zipIdx_nil, List.forIn_cons, List.forIn_nil]
    refine wpAny_bind (wpAny_bind (wpAny_onRaise ?_))
    show wpAny _ _ (Builtin.SmallTypes.nextOrEnd (.ref u)) _ _ _
    refine drw_end hh (hu.extBut k1.extBut Z.i1z) (hxs.extBut k1.extBut Z.l1z) hx fun g2 k2 => ?_
    have hz2 : ZS g2 q ti tc .ellipsis b := k2 _ _ Z.i1z.symm hz1
    refine wpAny_bind (wpAny_setField_rec hz2 (by simp) fun g3 hz3 k3 => wpAny_bind ?_)
    show wpAny _ _ (forIn ([(Value.ref v, 1)] : List (Value × Nat)) PUnit.unit _ >>= _) _ _ _
    rw [List.forIn_cons]
    refine wpAny_bind (wpAny_bind ?_)
    have hv3 : g3.IsListIter v lb j := ((hv.extBut k1.extBut Z.i2z).extBut k2 Z.i12.symm).extBut k3.extBut Z.i2z
    have hy3 : g3.IsList lb ys := ((hys.extBut k1.extBut Z.l2z).extBut k2 Z.l2i1).extBut k3.extBut Z.l2z
    refine wpAny_bind (drw_end (s := { s with heap := g3 }) hh hv3 hy3 hy fun g4 k4 => ?_)
    simp only [Option.isSome_none, Bool.false_eq_true, if_false]
    refine wpAny_pure ?_
    simp only [List.forIn_nil]
    refine wpAny_pure ?_
    refine wpAny_bind (wpAny_rule (stop fun e o n1 n2 n3 n4 h => ?_))
    have e2 := k2 _ _ n3 (k1.extBut _ _ n1 h)
    exact k4 _ _ n4 (k3.extBut _ _ n1 e2)
  · simp only [Bool.false_eq_true, if_false]
    refine wpAny_bind ?_
    rw [← Array.forIn_toList]
    simp only [List.forIn_cons, List.forIn_nil]
    refine wpAny_bind (wpAny_bind (wpAny_holding ?_))
    show wpAny _ _ (Builtin.SmallTypes.nextOrEnd (.ref u)) _ _ _
    refine drw_end (s := { s with heap := g1 }) hh (hu.extBut k1.extBut Z.i1z) (hxs.extBut k1.extBut Z.l1z) hx fun g2 k2 => wpAny_bind ?_
    show wpAny _ _ (forIn ([(Value.ref v, 1)] : List (Value × Nat)) PUnit.unit _ >>= _) _ _ _
    rw [List.forIn_cons]
    refine wpAny_bind (wpAny_bind ?_)
    have hv3 : g2.IsListIter v lb j := (hv.extBut k1.extBut Z.i2z).extBut k2 Z.i12.symm
    have hy3 : g2.IsList lb ys := (hys.extBut k1.extBut Z.l2z).extBut k2 Z.l2i1
    refine wpAny_bind (drw_end (s := { s with heap := g2 }) hh hv3 hy3 hy fun g4 k4 => ?_)
    simp only [Option.isSome_none, Bool.false_eq_true, if_false]
    refine wpAny_pure ?_
    simp only [List.forIn_nil]
    refine wpAny_pure ?_
    refine wpAny_bind (wpAny_rule (stop fun e o n1 n2 n3 n4 h => ?_))
    exact k4 _ _ n4 (k2 _ _ n3 (k1.extBut _ _ n1 h))
end
section
variable {prog : Program} {w : World} {A : Around} {E : Value → Shared → Prop} {s : Shared}
theorem tc_zipS (a b c : Value) : checkTypeCall "zip" ⟨[a, b], [(Str.ofString "strict", c)]⟩ = pure () := by kernel_rfl
theorem nc_zipS (a b c : Value) : checkBuiltinCall "zip.__new__" ⟨[.type "zip", a, b], [(Str.ofString "strict", c)]⟩ = pure () := by kernel_rfl
theorem ai_zipS (x a b c : Value) : argsOk "object.__init__" ⟨[x, a, b], [(Str.ofString "strict", c)]⟩ := by unfold argsOk; kernel_rfl
abbrev zsLast (g : Heap) (la lb : Addr) : Heap := (zipH4 g la lb).push { cls := .type "zip", data := .fields #[.none, .bool false, .bool true, .ref (zipH2 g la lb).objs.size, .ref (zipH3 g la lb).objs.size] }
theorem meets_zipS (la lb : Addr) (xs ys : Array Value) :
    Meets (Builtin.«zip.__new__» ⟨[.type "zip", .ref la, .ref lb], [(Str.ofString "strict", .bool true)]⟩) (fun _ R s => s.heap.IsList la xs ∧ s.heap.IsList lb ys ∧
      R (.ok (.ret (.ref (zipH4 s.heap la lb).objs.size))) { s with heap := zsLast s.heap la lb }) :=
  .of_wp fun prog w A R s h => by
    obtain ⟨hp, g, d, tk, os⟩ := s; obtain ⟨k1, k2, h⟩ := h
    have hsub := sub_zip
    have j1 : Heap.IsList (Shared.heap ⟨hp, g, d, tk, os⟩) la xs := k1
    have j2 : Heap.IsList (Shared.heap ⟨hp.push { cls := .type "list_iterator", data := .fields #[.ref la, .int 0 0] }, g, d, tk, os⟩) lb ys := Heap.IsList.push k2 _
    have e2 : (Str.ofString "strict" != ("strict" : Str)) = false := by decide +kernel
    wp_walk using wpAny_pyIter_list j1, wpAny_pyIter_list j2
    exact ⟨_, rfl, h⟩
theorem call_zipS {la lb : Addr} {xs ys : Array Value} {Q : Value → Shared → Prop} (k1 : s.heap.IsList la xs) (k2 : s.heap.IsList lb ys)
    (h : ∀ g, ZS g (s.heap.objs.size + 4) (s.heap.objs.size + 2) (s.heap.objs.size + 3) .none (.bool false) → IsPair g (s.heap.objs.size + 2) (.ref s.heap.objs.size) (.ref (s.heap.objs.size + 1)) →
      IsPair g (s.heap.objs.size + 3) .none .none → g.IsListIter s.heap.objs.size la 0 → g.IsListIter (s.heap.objs.size + 1) lb 0 → g.objs.size = s.heap.objs.size + 5 →
      (∀ c o, s.heap.get? c = some o → g.get? c = some o) → Q (.ref (s.heap.objs.size + 4)) { s with heap := g }) :
    wpAny (model prog w) A (call (.type "zip") [.ref la, .ref lb] [(Str.ofString "strict", .bool true)]) Q E s := by
  refine callType_newKw F.called_zip (by decide) (tc_zipS _ _ _) (nc_zipS _ _ _) (fun x => ai_zipS x _ _ _) F.entry_zip_new (meets_zipS la lb xs ys) ⟨k1, k2, ?_⟩
  have n1 : (zipH1 s.heap la).objs.size = s.heap.objs.size + 1 := Heap.size_push ..
  have n2 : (zipH2 s.heap la lb).objs.size = s.heap.objs.size + 2 := by rw [Heap.size_push, n1]
  have n3 : (zipH3 s.heap la lb).objs.size = s.heap.objs.size + 3 := by rw [Heap.size_push, n2]
  have n4 : (zipH4 s.heap la lb).objs.size = s.heap.objs.size + 4 := by rw [Heap.size_push, n3]
  have n5 : (zsLast s.heap la lb).objs.size = s.heap.objs.size + 5 := by rw [Heap.size_push, n4]
  have up : ∀ (g : Heap) (ob : Obj) c o, g.get? c = some o → (g.push ob).get? c = some o := fun g ob c o e => Heap.get?_push_of_some _ e
  have a5 : (zsLast s.heap la lb).get? (zipH4 s.heap la lb).objs.size = some _ := Heap.get?_push_size _ rfl
  have a4 : (zsLast s.heap la lb).get? (zipH3 s.heap la lb).objs.size = some _ := up _ _ _ _ (Heap.get?_push_size _ rfl)
  have a3 : (zsLast s.heap la lb).get? (zipH2 s.heap la lb).objs.size = some _ := up _ _ _ _ (up _ _ _ _ (Heap.get?_push_size _ rfl))
  have a2 : (zsLast s.heap la lb).get? (zipH1 s.heap la).objs.size = some _ := up _ _ _ _ (up _ _ _ _ (up _ _ _ _ (Heap.get?_push_size _ rfl)))
  have a1 : (zsLast s.heap la lb).get? s.heap.objs.size = some _ := up _ _ _ _ (up _ _ _ _ (up _ _ _ _ (up _ _ _ _ (Heap.get?_push_size _ rfl))))
  show _ ∧ _
  rw [n2, n3, n4] at a5
  rw [n1, n2] at a3
  rw [n3] at a4
  rw [n1] at a2
  rw [n4]
  exact ⟨⟨_, a5, rfl⟩, h _ a5 a3 a4 ⟨_, a1, rfl, rfl⟩ ⟨_, a2, rfl, rfl⟩ n5 fun c o x => up _ _ _ _ (up _ _ _ _ (up _ _ _ _ (up _ _ _ _ (up _ _ _ _ x))))⟩
theorem pyNext_zs_item {q ti tc u v la lb : Addr} {i j : Nat} {xs ys : Array Value} {x y a b c d : Value} {Q : Option Value → Shared → Prop} (Z : ZipApart q ti tc u v la lb) (hz : ZS s.heap q ti tc a b) (ha : Gone a) (hti : IsPair s.heap ti (.ref u) (.ref v)) (htc : IsPair s.heap tc c d)
    (hu : s.heap.IsListIter u la i) (hv : s.heap.IsListIter v lb j) (hxs : s.heap.IsList la xs) (hys : s.heap.IsList lb ys) (hx : xs[i]? = some x) (hy : ys[j]? = some y)
    (hQ : ∀ g a' b' c' d', ZS g q ti tc a' b' → Gone a' → IsPair g tc c' d' → g.IsListIter u la (i + 1) → g.IsListIter v lb (j + 1) → IsPair g s.heap.objs.size x y → g.objs.size = s.heap.objs.size + 1 →
      (∀ e o, e ≠ q → e ≠ tc → e ≠ u → e ≠ v → s.heap.get? e = some o → g.get? e = some o) → Q (some (.ref s.heap.objs.size)) { s with heap := g }) :
    wpAny (model prog w) A (pyNext (.ref q)) Q E s := by
  have ty : s.TypeIs (.ref q) "zip" := ⟨_, hz, rfl⟩
  unfold pyNext
  refine wpAny_bind (wpAny_attempt (wpAny_callSpecial?_slot (name := Str.ofString "__next__") ty F.slot_zip_next (wpAny_call_entry F.slot_zip_next ty F.entry_zip_next ?_ (F.args_zip_next_1 _))))
  exact zs_item Z hz ha hti htc hu hv hxs hys hx hy fun g a' b' c' d' m1 m2 m3 m4 m5 m6 m7 m8 => wpAny_pure (hQ g a' b' c' d' m1 m2 m3 m4 m5 m6 m7 m8)
theorem pyNext_zs_end {q ti tc u v la lb : Addr} {i j : Nat} {xs ys : Array Value} {a b c d : Value} {Q : Option Value → Shared → Prop} (hh : A.handled = none) (Z : ZipApart q ti tc u v la lb) (hz : ZS s.heap q ti tc a b) (ha : Gone a) (hti : IsPair s.heap ti (.ref u) (.ref v)) (htc : IsPair s.heap tc c d)
    (hu : s.heap.IsListIter u la i) (hv : s.heap.IsListIter v lb j) (hxs : s.heap.IsList la xs) (hys : s.heap.IsList lb ys) (hx : xs[i]? = none) (hy : ys[j]? = none)
    (hQ : ∀ g, (∀ e o, e ≠ q → e ≠ tc → e ≠ u → e ≠ v → s.heap.get? e = some o → g.get? e = some o) → Q none { s with heap := g }) : wpAny (model prog w) A (pyNext (.ref q)) Q E s := by
  have ty : s.TypeIs (.ref q) "zip" := ⟨_, hz, rfl⟩
  unfold pyNext
  refine wpAny_bind (wpAny_attempt (wpAny_callSpecial?_slot (name := Str.ofString "__next__") ty F.slot_zip_next (wpAny_call_entry F.slot_zip_next ty F.entry_zip_next ?_ (F.args_zip_next_1 _))))
  refine zs_end hh Z hz ha hti htc hu hv hxs hys hx hy fun g e k ⟨o, ho, hc⟩ => ?_
  refine wpAny_bind (wpAny_isInstance (T := "StopIteration") (b := true) ⟨o, ho, hc⟩ isSubtype_stop ?_)
  exact wpAny_pure (hQ _ k)
theorem pyIter_zs {q ti tc : Addr} {a b : Value} {Q : Value → Shared → Prop} (hz : ZS s.heap q ti tc a b) (h : Q (.ref q) s) : wpAny (model prog w) A (pyIter (.ref q)) Q E s := by
  have ty : s.TypeIs (.ref q) "zip" := ⟨_, hz, rfl⟩
  refine wpAny_pyIter_slot ty F.slot_zip_iter (wpAny_call_entry F.slot_zip_iter ty F.entry_zip_iter ?_ (F.args_zip_iter_1 _))
  show wpAny _ _ (ret (.ref q)) _ _ s
  exact wpAny_pure ⟨_, rfl, "zip", _, ty, F.slot_zip_next.lookup, h⟩
end
/-- the state of a strict zip at its turn i -/
def zsAt (la lb q ti tc u v : Addr) (i : Nat) (g : Heap) : Prop := (∃ a b, ZS g q ti tc a b ∧ Gone a) ∧ IsPair g ti (.ref u) (.ref v) ∧ (∃ c d, IsPair g tc c d) ∧ g.IsListIter u la i ∧ g.IsListIter v lb i
/-- two lists of one length, walked together -/
def Itzs (K : PySem.W.Frag) (a b : Addr) : It :=
  ⟨fun i H => ∃ (xs ys : List V) (x y : V), SqL K H a xs ∧ SqL K H b ys ∧ xs[i]? = some x ∧ ys[i]? = some y,
    fun i H v H' => ∃ T x y, v = .ref T ∧ H T = none ∧ H' = upd H T (.tup [x, y]) ∧ (∀ xs, SqL K H a xs → xs[i]? = some x) ∧ ∀ ys, SqL K H b ys → ys[i]? = some y,
    fun i H => ∃ xs ys : List V, SqL K H a xs ∧ SqL K H b ys ∧ xs.length ≤ i ∧ ys.length ≤ i⟩
theorem mem5 {α : Type} {P : α → Prop} {a b c d e : α} (ha : P a) (hb : P b) (hc : P c) (hd : P d) (he : P e) : ∀ x ∈ [a, b, c, d, e], P x := by
  intro x hx
  simp only [List.mem_cons, List.not_mem_nil, or_false] at hx
  rcases hx with rfl | rfl | rfl | rfl | rfl <;> assumption
theorem turn_zs {P : Program} {w : World} {K : PySem.W.Frag} {x : Str} {tpos : Pos} {la lb q ti tc u v : Addr} (Z : ZipApart q ti tc u v la lb) : Turn P w K (.Name x tpos) (Itzs K la lb) [q, ti, tc, u, v] q (zsAt la lb q ti tc u v) where
  mem := by simp
  obj := fun i h st => by
    obtain ⟨⟨a, b, hz, _⟩, hti, ⟨c, d, htc⟩, ⟨o1, e1, _, d1⟩, ⟨o2, e2, _, d2⟩⟩ := st
    refine mem5 ⟨_, hz, fun v q => nomatch q⟩ ⟨_, hti, fun v q => nomatch q⟩ ⟨_, htc, fun v q => nomatch q⟩ ⟨o1, e1, fun v q => ?_⟩ ⟨o2, e2, fun v q => ?_⟩
    · rw [d1] at q; cases q
    · rw [d2] at q; cases q
  keep := fun i h h' st k => by
    obtain ⟨⟨a, b, hz, ha⟩, hti, ⟨c, d, htc⟩, h1, h2⟩ := st
    exact ⟨⟨a, b, k q (by simp) _ hz, ha⟩, k ti (by simp) _ hti, ⟨c, d, k tc (by simp) _ htc⟩, h1.at fun o e => k u (by simp) o e, h2.at fun o e => k v (by simp) o e⟩
  item := by
    intro X hP hw hK hc i pins s σ H E I hf st hg
    subst hP hw hK
    obtain ⟨⟨a, b, hz, ha⟩, hti, ⟨c, d, htc⟩, h1, h2⟩ := st
    obtain ⟨xs, ys, x, y, sx, sy, hx, hy⟩ := hg
    obtain ⟨i1, r1, p1, _⟩ := I.list sx
    obtain ⟨i2, r2, p2, _⟩ := I.list sy
    obtain ⟨m1, g1, rx⟩ := r1.get hx
    obtain ⟨m2, g2, ry⟩ := r2.get hy
    refine pyNext_zs_item Z hz ha hti htc h1 h2 p1.isList p2.isList (x := m1) (y := m2) (by simpa using g1) (by simpa using g2) fun g a' b' c' d' z1 z2 z3 z4 z5 z6 z7 k => ?_
    refine ⟨_, rfl, wpAny_pure ?_⟩
    have new : ObjOk X.prog X.w (upd H s.heap.objs.size (.tup [x, y])) g s.heap.objs.size (.tup [x, y]) := ⟨by show 2 ≤ sizeLine; decide, [m1, m2], .cons rx (.cons ry .nil), ⟨_, z6, rfl, _, rfl⟩⟩
    have kk : ∀ e o, e ∉ [q, ti, tc, u, v] → s.heap.get? e = some o → g.get? e = some o := fun e o n => by
      simp only [List.mem_cons, List.not_mem_nil, or_false, not_or] at n
      exact k e o n.1 n.2.2.1 n.2.2.2.1 n.2.2.2.2
    have I1 := I.turnedNew (t' := s.toks) (ch := [q, ti, tc, u, v]) kk hf (Nat.le_refl _) new
    refine ⟨.ref s.heap.objs.size, _, I1, rfl, ⟨_, x, y, rfl, I.hok.fresh (Nat.le_refl _), rfl, fun l hl => by rw [I.list_inj hl sx]; exact hx, fun l hl => by rw [I.list_inj hl sy]; exact hy⟩, ⟨⟨a', b', z1, z2⟩, k _ _ Z.TIz Z.TITO Z.TIi1 Z.TIi2 hti, ⟨_, _, z3⟩, z4, z5⟩, ?_⟩
    have lt : ∀ c ∈ [q, ti, tc, u, v], c < s.heap.objs.size := by
      obtain ⟨_, e1, _⟩ := h1
      obtain ⟨_, e2, _⟩ := h2
      exact mem5 (Heap.lt_size hz) (Heap.lt_size hti) (Heap.lt_size htc) (Heap.lt_size e1) (Heap.lt_size e2)
    intro c hcm
    rw [upd_ne (Nat.ne_of_lt (lt c hcm))]
    exact (hf c hcm).1
  done := by
    intro X hP hw hK hc i pins s σ H E I hf st hg
    subst hP hw hK
    obtain ⟨⟨a, b, hz, ha⟩, hti, ⟨c, d, htc⟩, h1, h2⟩ := st
    obtain ⟨xs, ys, sx, sy, n1, n2⟩ := hg
    obtain ⟨i1, r1, p1, _⟩ := I.list sx
    obtain ⟨i2, r2, p2, _⟩ := I.list sy
    have l1 := r1.length
    have l2 := r2.length
    refine pyNext_zs_end (I.ok.hd hc) Z hz ha hti htc h1 h2 p1.isList p2.isList (by simp; omega) (by simp; omega) fun g k => ⟨rfl, I.turnedL (t' := s.toks) (ch := [q, ti, tc, u, v]) (fun e o n => ?_) hf⟩
    simp only [List.mem_cons, List.not_mem_nil, or_false, not_or] at n
    exact k e o n.1 n.2.2.1 n.2.2.2.1 n.2.2.2.2
  self := fun A i s Q E st h => by
    obtain ⟨⟨a, b, hz, ha⟩, _⟩ := st
    exact pyIter_zs hz h
end DL
set_option maxRecDepth 100000
set_option maxHeartbeats 4000000
/-! DLE: strict zip over data. -/
namespace DL
open PySem PySem.Spec PyProof.Rows L2
/-- a call of a built-in class with keywords -/
theorem callWith_tyKw {M : Model} {A : Around} {E : Value → Shared → Prop} {s : Shared} {env : Env} {pos : Pos} {T : String} {e : Expr} {rest : List Expr} {kws : List Keyword} {Q : Value → Shared → Prop}
    (h : wpAny M A (spliced (backTo pos (starEach (e :: rest) env))) (fun vs s1 => wpAny M A (evalAll ((backToKw pos (keywordEach kws env)).map (·.2)))
      (fun ws s2 => wpAny M A (call (.type T) vs (((backToKw pos (keywordEach kws env)).filterMap (·.1)).zip ws)) Q E s2) E s1) E s)
    (h1 : backTo pos (starEach (e :: rest) env) = (false, eval e env) :: backTo pos (starEach rest env)) (h2 : (backTo pos (starEach (e :: rest) env)).any (·.1) = false)
    (h3 : (backToKw pos (keywordEach kws env)).all (·.1.isSome) = true) (h4 : (backToKw pos (keywordEach kws env)).any (·.1.isNone) = false) :
    wpAny M A (callWith pos (.type T) [] (backTo pos (starEach (e :: rest) env)) (backToKw pos (keywordEach kws env))) Q E s := by
  unfold callWith
  have q : wpAny M A (evalArgs (.type T) true (backTo pos (starEach (e :: rest) env)) (backToKw pos (keywordEach kws env))) (fun a s1 => wpAny M A (call (.type T) ([] ++ a.pos) a.kw) Q E s1) E s := by
    rw [h1] at h ⊢
    exact evalArgs_kwB h3 h
  refine wpAny_bind (wpAny_holding (wpAny_mono q (fun a s1 k => wpAny_bind (wpAny_standAt ?_)) fun _ _ x => x))
  simp only [h2, h4, Bool.or_false]
  refine wpAny_bind (wpAny_pure ?_)
  exact wpAny_bind (wpAny_mono k (fun r s2 hr => wpAny_bind (wpAny_holding (wpAny_point (wpAny_pure hr)))) fun _ _ x => x)
def iZipS (K : PySem.W.Frag) (ta tk : TA) : TI := fun σ H R => ta σ H fun vs H1 => tk σ H1 fun ws H2 => ∃ a b xs ys, vs = [.ref a, .ref b] ∧ ws = [.bl true] ∧ SqL K H2 a xs ∧ SqL K H2 b ys ∧ R (Itzs K a b) H2
section
variable {X : Cx} {a b c e : Expr} {ta tk : TA} {p pos tpos kp : Pos} {x : Str} {Γ : Gam} {L : Cells}
theorem pi_zipS (hg : Gl X "zip") (hm : X.mg "zip" = none) (ha : PA X [a, b] ta) (hk : PK X [⟨some (Str.ofString "strict"), c, kp⟩] tk)
    (h1 : backTo pos (starEach [a, b] X.env) = (false, eval a X.env) :: backTo pos (starEach [b] X.env)) (h2 : (backTo pos (starEach [a, b] X.env)).any (·.1) = false) :
    PI X (.Name x tpos) (.Call (.Name "zip" p) [a, b] [⟨some (Str.ofString "strict"), c, kp⟩] pos) (iZipS X.K ta tk) := by
  refine ⟨fun pins s σ H R I h => ?_⟩
  refine wpAny_Call_Name_kw (ld_blt I hg hm PyProof.Rows.boot_zip (callWith_tyKw (thn (ha.run pos pins s σ H _ I h) fun us s1 ⟨vs, H1, I1, r1, q1⟩ => thn (hk.run pos pins s1 σ H1 _ I1 q1) fun ws s2 ⟨zs, H2, I2, r2, l1, l2, xs, ys, ev, ew, sx, sy, q2⟩ => ?_) h1 h2 rfl rfl))
  subst ev ew
  cases r1 with
  | cons r rr =>
  cases rr with
  | cons r' rr =>
  cases rr
  cases r
  cases r'
  cases r2 with
  | cons t tt =>
  cases tt
  cases t
  obtain ⟨i1, rv1, p1, _⟩ := I2.list sx
  obtain ⟨i2, rv2, p2, _⟩ := I2.list sy
  refine call_zipS p1.isList p2.isList fun g hz hti htc hu hv hsz hkk => pyIter_zs hz ?_
  have I3 : Inv X pins σ H2 { s2 with heap := g } := I2.kept (t' := s2.toks) hkk
  refine ⟨s2.heap.objs.size + 4, [s2.heap.objs.size + 4, s2.heap.objs.size + 2, s2.heap.objs.size + 3, s2.heap.objs.size, s2.heap.objs.size + 1], _, _, H2, rfl, I3, turn_zs (PySem.W.ktu_apart s2.heap.objs.size l1 l2 p1.lt p2.lt), ⟨⟨_, _, hz, .inl rfl⟩, hti, ⟨_, _, htc⟩, hu, hv⟩, ?_, q2⟩
  have fr : ∀ n, FpOk X pins H2 (s2.heap.objs.size + n) := fun n => I2.fpOk (Nat.le_add_right _ _) (I2.hok.fresh (Nat.le_add_right _ _))
  exact mem5 (fr 4) (fr 2) (fr 3) (fr 0) (fr 1)
theorem itd_zs {K : PySem.W.Frag} {F : List Addr} {H1 : Hp} {L1 : Cells} {a b : Addr} {xs ys : List V} {ds es : List D} (s : SqL K (vis H1 (F ++ adr L1)) a xs) (t : ObL K (vis H1 (F ++ adr L1)) xs ds) (s' : SqL K (vis H1 (F ++ adr L1)) b ys) (t' : ObL K (vis H1 (F ++ adr L1)) ys es) (hl : ds.length = es.length) :
    ItD K F (vis H1 (adr L1)) (Itzs K a b) (zipD ds es) where
  go i S hi := by
    have n1 : i < ds.length := by rw [zipD_length] at hi; omega
    have n2 : i < es.length := by omega
    obtain ⟨v, hv, _⟩ := t.get (List.getElem?_eq_getElem n1)
    obtain ⟨w, hw, _⟩ := t'.get (List.getElem?_eq_getElem n2)
    exact ⟨xs, ys, v, w, vis_le.sqL ((sat_le S).sqL s), vis_le.sqL ((sat_le S).sqL s'), hv, hw⟩
  yld i x H' hi S y := by
    have n1 : i < ds.length := by rw [zipD_length] at hi; omega
    have n2 : i < es.length := by omega
    obtain ⟨v, hv, o1⟩ := t.get (List.getElem?_eq_getElem n1)
    obtain ⟨w, hw, o2⟩ := t'.get (List.getElem?_eq_getElem n2)
    obtain ⟨T, v', w', rfl, hT, rfl, f1, f2⟩ := y
    have e1 := f1 xs (vis_le.sqL ((sat_le S).sqL s))
    have e2 := f2 ys (vis_le.sqL ((sat_le S).sqL s'))
    rw [hv] at e1
    rw [hw] at e2
    cases e1
    cases e2
    obtain ⟨S3, le, hn⟩ := S.newB (o := .tup [v, w]) hT
    refine ⟨.tup [ds[i], es[i]], ?_, S3.push (.tup (SqT.of hn) (.cons (o1.mono ((sat_le S).trans le)) (.cons (o2.mono ((sat_le S).trans le)) .nil)))⟩
    unfold zipD
    rw [List.getElem?_map, List.getElem?_eq_getElem (by rw [List.length_zip]; omega), List.getElem_zip]
    rfl
  stop S := by
    have n : (zipD ds es).length = ds.length := by rw [zipD_length]; omega
    rw [n] at *
    exact ⟨xs, ys, vis_le.sqL ((sat_le S).sqL s), vis_le.sqL ((sat_le S).sqL s'), by rw [t.length]; exact Nat.le_refl _, by rw [t'.length, hl]; exact Nat.le_refl _⟩
theorem itx_zipS {R : List D → Cells → Prop} (hm : X.mg "zip" = none) (h : AgX X [a, b] Γ L fun ds L1 => EvX X c Γ L1 fun d L2 => ∃ es fs, ds = [.lst es, .lst fs] ∧ d = .bl true ∧ es.length = fs.length ∧ R (zipD es fs) L2) (hg : Gl X "zip" := by rfl)
    (h1 : backTo pos (starEach [a, b] X.env) = (false, eval a X.env) :: backTo pos (starEach [b] X.env) := by rfl) (h2 : (backTo pos (starEach [a, b] X.env)).any (·.1) = false := by rfl) :
    IterX X (.Name x tpos) (.Call (.Name "zip" p) [a, b] [⟨some (Str.ofString "strict"), c, kp⟩] pos) Γ L R := .mk fun S q =>
  wi_of (pi_zipS hg hm pa_w (pk_cons pe_w pk_nil) h1 h2) (h.run S fun vs ds H1 L1 h' hl S1 => h'.run S1 fun v d H2 L2 ⟨es, fs, ed, ed2, n, r⟩ S2 => by
    subst ed ed2
    cases S2.top
    obtain ⟨o, S3⟩ := S2.pop.args hl
    obtain ⟨v1, v2, rfl, o1, o2⟩ := o.two
    cases o1 with
    | lst s t =>
    cases o2 with
    | lst s' t' => exact ⟨_, _, _, _, rfl, rfl, vis_le.sqL s, vis_le.sqL s', q _ _ _ _ r S3 (itd_zs s t s' t' n)⟩)
theorem AgX.imp {es : List Expr} {R R' : List D → Cells → Prop} (h : AgX X es Γ L R) (k : ∀ ds L', R ds L' → R' ds L') : AgX X es Γ L R' := .mk fun S q => h.run S fun vs ds H1 L1 r hl S1 => q vs ds H1 L1 (k ds L1 r) hl S1
/-- a call of one's own def that is a function of its arguments -/
theorem ev_own {α : Type} {args : α → List D} {f : α → D} {R : RD} {k : Nat} {g : Addr} {fd : FuncData} {ps : List Str} {y : Str} {q : Pos} {es : List Expr} (G : FnOk X.prog X.w X.K X.mg X.base CX0 k g fd ps (spD X.K args (fun _ => []) (fun x d L => d = f x ∧ L = []))) (hr : Room k X.A)
    (hm : X.mg y = some (.ref g)) (hk : PySem.W.keepIn X.K (.ref g) = true) (hb : Binds X.K fd ps [])
    (h : AgX X (e :: es) Γ L fun ds L1 => ∃ x, ds = args x ∧ R (f x) L1) (hg : Gl X y := by rfl)
    (hdb : (y == ("__debug__" : Str)) = false := by decide) (he : starEach (e :: es) X.env = (false, eval e X.env) :: starEach es X.env := by rfl) (hpl : (backTo pos (starEach es X.env)).any (·.1) = false := by rfl) :
    EvX X (.Call (.Name y q) (e :: es) [] pos) Γ L R :=
  ev_call0 G hr hm hk hb (h.imp fun ds L1 ⟨x, e1, r⟩ => ⟨x, e1, rfl, fun d L hp => by
    obtain ⟨rfl, rfl⟩ := hp
    exact r⟩) hg hdb he hpl
/-- .. that leaves no own object -/
theorem ev_ownP {α : Type} {args : α → List D} {P : α → D → Prop} {R : RD} {k : Nat} {g : Addr} {fd : FuncData} {ps : List Str} {y : Str} {q : Pos} {es : List Expr} (G : FnOk X.prog X.w X.K X.mg X.base CX0 k g fd ps (spD X.K args (fun _ => []) (fun x d L => P x d ∧ L = []))) (hr : Room k X.A)
    (hm : X.mg y = some (.ref g)) (hk : PySem.W.keepIn X.K (.ref g) = true) (hb : Binds X.K fd ps [])
    (h : AgX X (e :: es) Γ L fun ds L1 => ∃ x, ds = args x ∧ ∀ d, P x d → R d L1) (hg : Gl X y := by rfl)
    (hdb : (y == ("__debug__" : Str)) = false := by decide) (he : starEach (e :: es) X.env = (false, eval e X.env) :: starEach es X.env := by rfl) (hpl : (backTo pos (starEach es X.env)).any (·.1) = false := by rfl) :
    EvX X (.Call (.Name y q) (e :: es) [] pos) Γ L R :=
  ev_call0 G hr hm hk hb (h.imp fun ds L1 ⟨x, e1, r⟩ => ⟨x, e1, rfl, fun d L hp => by
    obtain ⟨hp, rfl⟩ := hp
    exact r d hp⟩) hg hdb he hpl
end
/-! ### a list of one's own beside [] -/
/-- plain data that can be laid, of small depth -/
structure Plain (d : D) : Prop where
  pure : d.pure = true
  lay : d.py.canLay0 = true
  dep : d.py.depth ≤ 32
theorem plain_int (i : Int) : Plain (.int i) := ⟨rfl, by simp [D.py, PyData.canLay0], by simp [D.py, PyData.depth]⟩
theorem pures_of : ∀ {ds : List D}, (∀ d ∈ ds, Plain d) → D.pures ds = true
  | [], _ => rfl
  | d :: ds, h => by
    show (d.pure && D.pures ds) = true
    rw [(h d (by simp)).pure, pures_of fun x hx => h x (by simp [hx])]
    rfl
theorem lays_of : ∀ {ds : List D}, (∀ d ∈ ds, Plain d) → PyData.canLayAll0 (D.pys ds) = true
  | [], _ => by simp [D.pys, PyData.canLayAll0]
  | d :: ds, h => by
    show PyData.canLayAll0 (d.py :: D.pys ds) = true
    rw [PyData.canLayAll0, (h d (by simp)).lay, lays_of fun x hx => h x (by simp [hx])]
    rfl
theorem deps_of : ∀ {ds : List D}, (∀ d ∈ ds, Plain d) → PyData.depthAll (D.pys ds) ≤ 32
  | [], _ => by simp [D.pys, PyData.depthAll]
  | d :: ds, h => by
    show PyData.depthAll (d.py :: D.pys ds) ≤ 32
    rw [PyData.depthAll]
    have h1 := (h d (by simp)).dep
    have h2 := deps_of fun x hx => h x (List.mem_cons_of_mem d hx)
    omega
theorem shaped_lst {ds : List D} (h : ∀ d ∈ ds, Plain d) : SeqAt.shaped (D.lst ds).py = true := by
  have h1 := lays_of h
  have h2 := deps_of h
  simp [SeqAt.shaped, D.py, PyData.canLay0, PyData.depth, h1]
  omega
section
variable {K : PySem.W.Frag} {L : Cells} {R : RD}
theorem eqv_nil (ds : List D) : PyData.eqv (D.lst ds).py (D.lst []).py = ds.isEmpty := by
  cases ds <;> simp [D.py, D.pys, PyData.eqv, PyData.eqvAll]
/-- xs != [], xs one's own -/
theorem o2_neNil {k : Nat} {a : Addr} {ds : List D} (hk : L[k]? = some (a, .lst ds)) (hp : ∀ d ∈ ds, Plain d) (r : R (.bl (!ds.isEmpty)) L) : Op2 K (rNeD K) (.ref a) (.lst []) L R := .mk fun {B0 F H σ Γ ts τ x y Q} S q => by
  obtain ⟨o1, o2, S2⟩ := S.two
  cases o1
  obtain ⟨xs, hx, t⟩ := S.cell hk
  refine ⟨(D.lst ds).py, (D.lst []).py, .lst (SqL.of hx) (ObL.dps vis_le _ _ (pures_of hp) t), Ob.dp vis_le _ _ rfl o2, shaped_lst hp, shaped_lst (by simp), ?_⟩
  rw [eqv_nil]
  exact q _ _ _ _ r (S2.push (.bl _))
end
/-! ### methods of lists; own objects given up -/
theorem Sat.gone {K : PySem.W.Frag} {B0 : Hp} {F : List Addr} {H : Hp} {σ : L2.St} {Γ : Gam} {ts : List V} {τ : List D} : ∀ {L : Cells}, Sat K B0 F H σ Γ ts τ L → Sat K B0 F H σ Γ ts τ []
  | [], S => S
  | (a, d) :: L, S => Sat.gone (L := L) (S.freeze (k := 0) rfl).1
section
variable {X : Cx} {Γ : Gam} {L : Cells} {R : RD} {e o : Expr} {pos apos : Pos} {E : En}
/-- return e; the own objects are given up -/
theorem st_retD (h : EvX X e Γ L fun d _ => E.rt d []) : StX X (.Return (some e) pos) Γ L E := st_ret (.mk fun S q => h.run S fun v d H' L' r S' => q v d H' [] r S'.gone)
theorem st_append (h : EvX X o Γ L fun d L1 => ∃ (k0 : Nat) (a : Addr) (ds0 : List D), d = .ref a ∧ L1[k0]? = some (a, .lst ds0) ∧ EvX X e Γ L1 fun d2 L2 => ∃ (k : Nat) (ds : List D), L2[k]? = some (a, .lst ds) ∧ ds.length < sizeLine ∧ E.nx Γ (L2.set k (a, .lst (ds ++ [d2]))))
    (hbase : attributeBase o "append" X.env (eval o X.env) = eval o X.env := by rfl)
    (hfew : ((backTo pos (starEach [e] X.env)).all (fun x => !x.1) && (backToKw pos (keywordEach [] X.env)).all (fun x => x.1.isSome) && decide (([e] : List Expr).length + ([] : List Keyword).length + (if ([] : List Keyword).isEmpty then 0 else 1) < 30)) = true := by rfl)
    (hline : (apos.endLine == pos.line) = true := by rfl) (hs : starEach [e] X.env = (false, eval e X.env) :: starEach [] X.env := by rfl) (hplain : (backTo pos (starEach [] X.env)).any (·.1) = false := by rfl)
    (hsw : swapsWith (.Call (.Attribute o "append" apos) [e] [] pos) none pos.line X.env = pure false := by rfl) : StX X (.Expr (.Call (.Attribute o "append" apos) [e] [] pos) pos) Γ L E :=
  st_expr (ev_bm F.plainAttrs_list F.slot_list_append F.type_list_append mt_append (.mk fun S q => h.run S fun v d H1 L1 ⟨k0, a, ds0, ed, hk0, h2⟩ S1 => q v d H1 L1 (by
    subst ed
    exact ⟨tyd_lstC hk0, ag_cons (.mk fun S' q' => h2.run S' fun v2 d2 H2 L2 ⟨k, ds, hk, z, r⟩ S2 => q' v2 d2 H2 L2 (ag_nil (om_append hk z r)) S2) hs⟩) S1) hbase hfew hline hs hplain) hsw
theorem ev_pop (h : EvX X o Γ L fun d L1 => ∃ (k : Nat) (a : Addr) (ds : List D) (d' : D), d = .ref a ∧ L1[k]? = some (a, .lst (ds ++ [d'])) ∧ R d' (L1.set k (a, .lst ds)))
    (hbase : attributeBase o "pop" X.env (eval o X.env) = eval o X.env := by rfl) (hline : (apos.endLine == pos.line) = true := by rfl) : EvX X (.Call (.Attribute o "pop" apos) [] [] pos) Γ L R :=
  ev_bm0 F.plainAttrs_list F.slot_list_pop F.type_list_pop mt_pop (.mk fun S q => h.run S fun v d H1 L1 ⟨k, a, ds, d', ed, hk, r⟩ S1 => q v d H1 L1 (by
    subst ed
    exact ⟨tyd_lstC hk, om_pop hk r⟩) S1) hbase hline
theorem zipD_map {α β : Type} (f : α → D) (g : β → D) : ∀ (l : List α) (m : List β), zipD (l.map f) (m.map g) = (l.zip m).map fun p => D.tup [f p.1, g p.2]
  | [], _ => rfl
  | _ :: _, [] => rfl
  | a :: l, b :: m => by
    have := zipD_map f g l m
    simp only [zipD, List.map_cons, List.zip_cons_cons, List.cons.injEq, true_and] at this ⊢
    exact this
end
end DL
set_option maxRecDepth 100000
set_option maxHeartbeats 4000000
/-! DLF: set comprehensions, whatever the members. -/
namespace DL
open PySem PySem.Spec PyProof.Rows L2
/-- a kind of sets: how one with content c stands at an address, and what adding does -/
structure SKd (P : Program) (w : World) (K : PySem.W.Frag) (C κ : Type) where
  ob : Addr → C → HO
  c0 : C
  pre : Hp → V → C → κ → Prop
  post : V → C → κ → C → Prop
  new : ∀ {H : Hp} {h : Heap}, ObjOk P w H (h.push { cls := .type "set", dict := none, data := .set #[] 0 (.fresh 0 0 (!w.params.followText "set-order")) }) h.objs.size (ob h.objs.size c0)
  add : ∀ {Y : Cx}, Y.prog = P → Y.w = w → Y.K = K → Y.A.units + 64 < cLine → ∀ {pins : List (Addr × Obj)} {σ : L2.St} {H : Hp} {s : Shared} {E : Value → Shared → Prop} {a : Addr} {c : C} {k : κ} {y : V} {u : Value} {Q : Value → Shared → Prop}, Inv Y pins σ H s → H a = some (ob a c) → RelV y u → pre H y c k →
    (∀ c' s', post y c k c' → Inv Y pins σ (upd H a (ob a c')) s' → Q .none s') → wpAny (model P w) Y.A (call (.builtin "set.add") [.ref a, u]) Q E s
def tScK {P : Program} {w : World} {K : PySem.W.Frag} {C κ : Type} (S : SKd P w K C κ) (wi : TI) (g : TG) (tt : TT) (te : TE) (vs : List Nat) : TE := fun σ H Q => wi σ H fun J H1 => ∀ a, H1 a = none → ∃ W : Nat → Nat → Hp → Prop, (∃ m, W 0 m (upd H1 a (S.ob a S.c0))) ∧ ∀ i m H, W i m H →
  (J.stop i H ∧ Q (.ref a) H) ∨ (J.go i H ∧ ∃ Nx : Hp → Prop, (∀ H', Nx H' → ∃ m', m' < m ∧ W (i + 1) m' H') ∧ ∀ x H', J.yld i H x H' → g x (wipe σ vs) H' fun σ2 H2 => wipe σ2 vs = wipe σ vs ∧ tt σ2 H2 fun b H3 =>
    if b = true then te σ2 H3 fun y H4 => ∃ c k, H4 a = some (S.ob a c) ∧ S.pre H4 y c k ∧ ∀ c', S.post y c k c' → Nx (upd H4 a (S.ob a c')) else Nx H3)
section
variable {X : Cx}
abbrev freshSet (w : World) : Obj := { cls := .type "set", dict := none, data := .set #[] 0 (.fresh 0 0 (!w.params.followText "set-order")) }
/-- a free address stays free, in the block that starts at it -/
theorem pe_scK {C κ : Type} (S : SKd X.prog X.w X.K C κ) {elt tg iter : Expr} {ifs : List Expr} {scope : Scope} {own : List (PySem.Str × Nat)} {pos : Pos} {wi : TI} {g : TG} {tt : TT} {te : TE} (hc : X.calm = true) (hu : X.A.units + 64 < cLine) (hN : X.N.Nodup) (hi : PI X tg iter wi) (ok : BlkOk X.N X.env.scope scope own)
    (hg : ∀ s H c cl fp, PG (X.blk s H scope (compEnvC scope cl c X.env) fp) tg g) (ht : ∀ s H c cl fp, PTs (X.blk s H scope (compEnvC scope cl c X.env) fp) ifs tt)
    (he : ∀ s H c cl fp, PE (X.blk s H scope (compEnvC scope cl c X.env) fp) elt te) (hs : ∀ x, foldedSetIterable iter X.env x = pure x) : PE X (.SetComp elt [⟨tg, iter, ifs, 0⟩] scope pos) (tScK S wi g tt te (own.map (·.2))) := by
  refine ⟨fun pins s σ H Q I h => ?_⟩
  rw [PpSet.eval_SetComp]
  have cells : ∀ y ∈ scope.names, y.2 = .free → ∃ c, X.env.cells.lookup y.1 = some c := fun y hy e => (ok.free y hy e).elim (fun k => I.ok.has _ (.inl k)) fun k => I.ok.has _ (.inr k)
  refine wpAny_comprehension_free (use := none) rfl hs (closure_ok cells) ok.kind (fun y hy e => by rw [ok.uniq y hy, e]) (thn (hi.run pins s σ H _ I h) fun xv t1 hx => thn hx fun itv t2 h2 => ?_)
  obtain ⟨it, fp, tn, J, K2, rfl, I2, T, n2, f2, q⟩ := h2
  refine PpSet.newSet_ok (newEnv_comp ?_)
  generalize ha : t2.heap.objs.size = a
  have an : K2 a = none := I2.hok.fresh (Nat.le_of_eq ha)
  obtain ⟨W, ⟨m0, w0⟩, turn⟩ := q a an
  generalize ht3 : ({ t2 with heap := t2.heap.push (freshSet X.w) } : Shared) = t3
  have g3 : t3.heap = t2.heap.push (freshSet X.w) := by rw [← ht3]
  generalize hK3 : upd K2 a (S.ob a S.c0) = K3
  have I3 : Inv X pins σ K3 t3 := by
    rw [← ht3, ← hK3]
    refine I2.laid (t' := t2.toks) (fun b o e => Heap.get?_push_of_some _ e) (Nat.le_of_eq ha) ?_
    rw [← ha]
    exact S.new
  have low : ∀ b ∈ fp, b < t2.heap.objs.size := fun b hb => by
    obtain ⟨o, e, _⟩ := T.obj _ _ n2 b hb
    exact Heap.lt_size e
  have f3 : ∀ b ∈ fp, FpOk X pins K3 b ∧ b < t3.heap.objs.size := fun b hb => by
    have hlt := low b hb
    refine ⟨⟨?_, (f2 b hb).2⟩, by rw [g3, Heap.size_push]; exact Nat.lt_succ_of_lt hlt⟩
    rw [← hK3, upd_ne (by rw [← ha]; exact Nat.ne_of_lt hlt)]
    exact (f2 b hb).1
  have n3 : tn 0 t3.heap := T.keep _ _ _ n2 fun b _ o e => by rw [g3]; exact Heap.get?_push_of_some _ e
  have I4 := block_start I3 ok hN f3
  rw [hK3] at w0
  generalize hcl : cellsFrom (t3.heap.objs.size + 1) scope.names (cloFrom X.env.cells scope.names []) = cl at I4
  have pg := hg t3 K3 t3.heap.objs.size cl fp
  have pt := ht t3 K3 t3.heap.objs.size cl fp
  have pe := he t3 K3 t3.heap.objs.size cl fp
  have goal : codeAny (model X.prog X.w) X.A (.compStart (.SetComp elt [⟨tg, iter, ifs, 0⟩] scope pos) 0 (.ref it) (.ref a) (compEnvC scope cl t3.heap.objs.size X.env)) (compPost (model X.prog X.w) X.A X.xe none (EP X pins σ Q) (.ref a) t3.heap.objs.size) { t3 with heap := pushCells (t3.heap.push { cls := .type "dict", data := .dict #[] }) scope.names } := by
    have nfp : ∀ b ∈ fp, K3 b = none := fun b hb => (f3 b hb).1.1
    generalize hce : compEnvC scope cl t3.heap.objs.size X.env = ce at I4 pg pt pe ⊢
    have cL : ce.locals = t3.heap.objs.size := by rw [← hce]; rfl
    generalize ht4 : ({ t3 with heap := pushCells (t3.heap.push { cls := .type "dict", data := .dict #[] }) scope.names } : Shared) = t4 at I4 ⊢
    have n4 : tn 0 t4.heap := T.keep _ _ _ n3 fun b _ o e => by rw [← ht4]; exact pushCells_keeps _ _ _ _ (Heap.get?_push_of_some _ e)
    have foot : ∀ {σ' : L2.St} {H' : Hp} {s' : Shared}, Inv (X.blk t3 K3 scope ce fp) [] σ' H' s' → (∀ b ∈ fp, H' b = none) → ∀ b ∈ fp, FpOk (X.blk t3 K3 scope ce fp) [] H' b := fun {σ' H' s'} I' hn b hb =>
      ⟨hn b hb, (I'.ok.exf b hb).1, I'.ok.exfs b hb, .inl hb, fun x c e => (I'.ok.exf b hb).2 x c e, fun p hp => absurd (show p ∈ ([] : List (Addr × Obj)) ++ [] from hp) (by simp)⟩
    have loop : codeAny (model X.prog X.w) X.A (.compLoop (.SetComp elt [⟨tg, iter, ifs, 0⟩] scope pos) 0 (.ref it) (.ref a) ce) (compPost (model X.prog X.w) X.A X.xe none (EP X pins σ Q) (.ref a) t3.heap.objs.size) t4 := by
      refine PpSet.compLoopS_any (fun n s' => ∃ i H', Inv (X.blk t3 K3 scope ce fp) [] (wipe σ (own.map (·.2))) H' s' ∧ tn i s'.heap ∧ (∀ b ∈ fp, H' b = none) ∧ W i n H') ?_ m0 ⟨0, K3, I4, n4, nfp, w0⟩
      rintro n t5 ⟨i, K5, I5, n5, z5, w5⟩
      rcases turn i n K5 w5 with ⟨stop, qq⟩ | ⟨go, Nx, hNx, step⟩
      · have td := T.done (X.blk t3 K3 scope ce fp) rfl rfl rfl hc i [] t5 _ K5 (fun _ _ => False) I5 (foot I5 z5) n5 stop
        refine thnF td fun r t6 ⟨hr, I6⟩ => ?_
        subst hr
        have I7 : Inv X pins σ K5 t6 := I3.call' (ch := fp) I6.os I6.base I6.hok I6.bare fun b hb => ⟨(f3 b hb).1.2.2.2.1, (f3 b hb).1.2.1, (f3 b hb).1.2.2.2.2.1, (f3 b hb).1.2.2.2.2.2⟩
        have nC : K5 t3.heap.objs.size = none := by
          have z : K5 ce.locals = none := I6.free
          rw [cL] at z
          exact z
        obtain ⟨m, hn, _⟩ := I6.loc
        have hn : t6.heap.Ns ce.locals m := hn
        rw [cL] at hn
        obtain ⟨v0, v1, v2, v3, v4, v5⟩ := I3.fpOk (b := t3.heap.objs.size) (Nat.le_refl _) nC
        exact ⟨m, hn, fun h'' sb => ⟨.ref a, K5, I7.turned (t' := t6.toks) (fun b o hb e => (sb.2 b hb).trans e) v0 v1 v3 v4 v5, rfl, qq⟩⟩
      · have ti := T.item (X.blk t3 K3 scope ce fp) rfl rfl rfl hc i [] t5 _ K5 (fun _ _ => False) I5 (foot I5 z5) n5 go
        refine thnF ti fun r t6 ⟨u, hr, h6⟩ => ?_
        subst hr
        refine thnF h6 fun _ t7 ⟨x, K7, I7, r7, y7, n7, z7⟩ => ?_
        have J7 := I7.pinned (foot I7 z7) (T.obj _ _ n7)
        refine thnF (pg.run _ t7 _ K7 x u _ J7 r7 (step x K7 y7)) fun _ t8 ⟨σ8, K8, I8, hw8, q8⟩ => ?_
        refine thnF (pt.run _ t8 σ8 K8 _ I8 q8) fun b t9 ⟨K9, I9, q9⟩ => ?_
        have fin : ∀ {s' : Shared} {H' : Hp}, Inv (X.blk t3 K3 scope ce fp) ([] ++ pinsAt fp t7.heap) σ8 H' s' → Nx H' → ∃ m, m < n ∧ ∃ i H', Inv (X.blk t3 K3 scope ce fp) [] (wipe σ (own.map (·.2))) H' s' ∧ tn i s'.heap ∧ (∀ b ∈ fp, H' b = none) ∧ W i m H' := fun {s' H'} I' nx => by
          obtain ⟨m', hm, w'⟩ := hNx H' nx
          have pin' : ∀ b ∈ fp, ∀ o, t7.heap.get? b = some o → s'.heap.get? b = some o ∧ H' b = none := fun b hb o e =>
            let z := I'.pin (b, o) (List.mem_append_right _ (List.mem_append_right _ (mem_pinsAt hb e)))
            ⟨z.1, z.2.1⟩
          have hl : (wipe σ (own.map (·.2))).length = σ8.length := by rw [← hw8, wipe_length]
          refine ⟨m', hm, i + 1, H', (I'.unpinned (pins := [])).weak hl (fun j v e => ?_), T.keep _ _ _ n7 fun b hb o e => (pin' b hb o e).1, fun b hb => ?_, w'⟩
          · rw [← hw8] at e
            exact (wipe_some e).1
          · obtain ⟨o, e, _⟩ := T.obj _ _ n7 b hb
            exact (pin' b hb o e).2
        cases b with
        | false =>
          simp only [Bool.false_eq_true, if_false] at q9 ⊢
          exact fin I9 q9
        | true =>
          simp only [if_true] at q9 ⊢
          refine thnF (pe.run _ t9 σ8 K9 _ I9 q9) fun z t10 ⟨yv, K10, I10, r10, c, k, hD, hp, nx⟩ => ?_
          exact S.add (Y := X.blk t3 K3 scope ce fp) rfl rfl rfl hu I10 hD r10 hp fun c' t11 po I11 => fin I11 (nx c' po)
    exact PpSet.codeAny_compStart_set loop (T.self X.A 0 _ _ _ n4 loop)
  subst ht3
  exact goal
end
end DL
set_option maxRecDepth 100000
set_option maxHeartbeats 4000000
/-! DLG: sets of ints, sets of tuples of ints, over data. -/
namespace DL
open PySem PySem.Spec PyProof.Rows L2
/-- a set of ints -/
def siO (w : World) (a : Addr) (S : Int → Bool) (n : Nat) : HO := .ext fun h => SetR w h a S n
theorem siO_ok {P : Program} {w : World} {H : Hp} {h : Heap} {a : Addr} {S : Int → Bool} {n : Nat} (r : SetR w h a S n) : ObjOk P w H h a (siO w a S n) := by
  have ⟨o, _, _, _, ho, _⟩ := r
  exact ⟨r, ⟨o, ho⟩, fun h1 h2 p k => SetR.at p k⟩
theorem siO_get {X : Cx} {pins : List (Addr × Obj)} {σ : L2.St} {H : Hp} {s : Shared} {a : Addr} {S : Int → Bool} {n : Nat} (I : Inv X pins σ H s) (e : H a = some (siO X.w a S n)) : SetR X.w s.heap a S n := (I.hok _ _ e).1
def siK (P : Program) (w : World) (K : PySem.W.Frag) : SKd P w K ((Int → Bool) × Nat) Int where
  ob a c := siO w a c.1 c.2
  c0 := (fun _ => false, 0)
  pre _ y c k := y = .int k ∧ c.2 + 1 < scanBound
  post _ c k c' := c' = (fun j => c.1 j || decide (j = k), if c.1 k = true then c.2 else c.2 + 1)
  new := siO_ok (setR_fresh w)
  add := by
    intro Y hP hw hK hu pins σ H s E a c k y u Q I e ry hp hq
    subst hP hw
    obtain ⟨rfl, hl⟩ := hp
    obtain ⟨t, rfl⟩ := ry
    refine setR_add (siO_get I e) hl fun h' sb new => ?_
    obtain ⟨o, _, _, _, ho, _⟩ := id new
    exact hq _ _ rfl (I.write (e := a) (t' := s.toks + 1) (by rw [e]; trivial) (.inl rfl) (fun b u hb hu => (sb.2 b hb).trans hu) ⟨o, ho⟩ (siO_ok new))
def stK (P : Program) (w : World) (K : PySem.W.Frag) : SKd P w K (List (Addr × List Int)) (Addr × List Int) where
  ob a c := SetTO P w a c
  c0 := []
  pre H y c k := y = .ref k.1 ∧ SqT K H k.1 (k.2.map V.int) ∧ c.length + 1 < 64 ∧ ∀ p ∈ c, SqT K H p.1 (p.2.map V.int)
  post _ c k c' := (k.2 ∈ c.map (·.2) → c' = c) ∧ (k.2 ∉ c.map (·.2) → c'.Perm (k :: c))
  new := fun {H h} => setTO_new (setTR_fresh (Heap.get?_push_size _ rfl)).t0
  add := by
    intro Y hP hw hK hu pins σ H s E a c k y u Q I e ry hp hq
    subst hP hw hK
    obtain ⟨rfl, hk, hl, hall⟩ := hp
    obtain rfl : u = Value.ref k.1 := ry
    have R0 : SetT0 Y.prog Y.w s.heap a c := (I.hok a _ e).1
    obtain ⟨es, ep, t, R⟩ := R0.full fun p hp => Inv.isT I (hall p hp)
    have hS := R.ob
    obtain ⟨o, ho, hx, hd⟩ := hS
    have ty : s.TypeIs (.ref a) "set" := ⟨o, ho, hx.1⟩
    refine wpAny_call_entry F.slot_set_add ty F.entry_set_add ?_ (F.args_set_add_2 _ _)
    unfold Builtin.«set.add» Builtin.Frozenset.oneOther
    simp only [List.isEmpty_nil, bind_assoc]
    unfold Builtin.Frozenset.addrOf setAdd
    refine wpAny_bind (wpAny_pure ?_)
    try dsimp only
    refine wpAny_bind (wpAny_pure ?_)
    try dsimp only
    refine wpAny_bind ?_
    refine wpAny_holding ?_
    refine wpAny_bind (wpAny_pyHash_tuple (by first | exact (show Y.A.units < cLine by omega) | exact (show Y.A.units + 1 < cLine by omega)) (Inv.isT I hk) ?_)
    refine add_at (s := { s with toks := s.toks + (k.2.length + 1) }) R (Inv.isT (I.tok _) hk) (by first | exact (show Y.A.units < cLine by omega) | exact (show Y.A.units + 1 < cLine by omega)) hl fun b h' c' es' ep' t' sb R' k1 k2 => ?_
    show wpAny _ _ (ret Value.none) _ _ _
    refine wpAny_pure ⟨_, rfl, hq c' _ ⟨k1, k2⟩ ?_⟩
    obtain ⟨o', ho', _⟩ := R'.ob
    exact I.write (e := a) (t' := s.toks + (k.2.length + 1)) (by rw [e]; trivial) (.inl rfl) (fun b u hb hu => (sb.2 b hb).trans hu) ⟨o', ho'⟩ (setTO_new R'.t0)
/-! ### own objects of any kind hidden -/
section
variable {K : PySem.W.Frag} {B0 : Hp} {F : List Addr} {H : Hp} {σ : L2.St} {Γ : Gam} {ts : List V} {τ acc : List D} {L : Cells} {p : Addr}
theorem vis_swap (L : Cells) (d : D) : vis H (F ++ adr (L ++ [(p, d)])) = vis H (F ++ [p] ++ adr L) := vis_congr fun a => by
  simp only [adr, List.map_append, List.mem_append, List.map_cons, List.map_nil, List.mem_singleton]
  constructor
  · rintro (q | q | q) <;> simp [q]
  · rintro ((q | q) | q) <;> simp [q]
theorem Sat.hideR {mk : Addr → List V → HO} (S : Sat K B0 F H σ Γ ts τ (L ++ [(p, .raw mk acc)])) : ∃ xs, H p = some (mk p xs) ∧ B0 p = none ∧ (∀ a ∈ F, ∃ o, B0 a = some o) ∧ xs.length = acc.length ∧ Sat K (upd B0 p (mk p xs)) (F ++ [p]) H σ Γ (xs ++ ts) (acc ++ τ) L := by
  have hp : (L ++ [(p, D.raw mk acc)])[L.length]? = some (p, .raw mk acc) := by simp
  obtain ⟨xs, hx, _, t⟩ := S.cell hp
  have hv := vis_swap (H := H) (F := F) (p := p) L (D.raw mk acc)
  have nd := S.nd
  simp only [adr, List.map_append, List.map_cons, List.map_nil] at nd
  rw [List.nodup_append] at nd
  have hpL : p ∉ adr L := fun q => nd.2.2 p q p (by simp) rfl
  have h0 : B0 p = none := by
    cases e : B0 p with
    | none => rfl
    | some o => exact absurd (by simp [adr]) (S.base p o e).2
  refine ⟨xs, hx, h0, S.fo, t.length, fun a o e => ?_, fun a ha => ?_, nd.1, fun q hq => ?_, S.len, fun i d e => ?_, ?_⟩
  · by_cases h : a = p
    · rw [h, upd_same] at e
      rw [h, ← e]
      exact ⟨hx, hpL⟩
    · rw [upd_ne h] at e
      have z := S.base a o e
      exact ⟨z.1, fun q => z.2 (by simp only [adr, List.map_append]; exact List.mem_append_left _ q)⟩
  · by_cases h : a = p
    · rw [h]; exact ⟨_, upd_same⟩
    · have q : a ∈ F := by simpa [h] using ha
      obtain ⟨o, e⟩ := S.fo a q
      exact ⟨o, by rw [upd_ne h]; exact e⟩
  · rw [← hv]; exact S.cells q (List.mem_append_left _ hq)
  · rw [← hv]; exact S.slots i d e
  · rw [← hv]; exact t.append S.temps
theorem Sat.unhideG {o o' : HO} {held : List V} {heldD : List D} {d' : D} (h0 : B0 p = none) (hf : ∀ a ∈ F, ∃ o, B0 a = some o) (hl : held.length = heldD.length) (S : Sat K (upd B0 p o) (F ++ [p]) H σ Γ (held ++ ts) (heldD ++ τ) L)
    (c : CellAt K (vis H (F ++ [p] ++ adr L)) (upd H p o') p d') : Sat K B0 F (upd H p o') σ Γ ts τ (L ++ [(p, d')]) := by
  have b0 := S.base p _ upd_same
  obtain ⟨_, S2⟩ := S.args hl
  have le : vis (upd H p o') (F ++ adr (L ++ [(p, d')])) = vis H (F ++ [p] ++ adr L) := by
    rw [vis_swap]
    funext a
    unfold vis
    by_cases h : a ∈ F ++ [p] ++ adr L
    · rw [if_pos h, if_pos h]
    · rw [if_neg h, if_neg h]
      exact upd_ne fun e => h (by rw [e]; simp)
  refine ⟨fun a u e => ?_, hf, ?_, fun q hq => ?_, S2.len, fun i d e => by rw [le]; exact S2.slots i d e, by rw [le]; exact S2.temps⟩
  · have h : a ≠ p := fun z => by rw [z, h0] at e; cases e
    have z := S.base a u (by rw [upd_ne h]; exact e)
    refine ⟨by rw [upd_ne h]; exact z.1, ?_⟩
    simp only [adr, List.map_append, List.mem_append, List.map_cons, List.map_nil, List.mem_singleton, not_or]
    exact ⟨z.2, h⟩
  · simp only [adr, List.map_append, List.map_cons, List.map_nil]
    rw [List.nodup_append]
    refine ⟨S2.nd, by simp, fun a ha b hb e => ?_⟩
    rw [List.mem_singleton.mp hb] at e
    rw [e] at ha
    exact b0.2 ha
  · rw [le]
    rcases List.mem_append.mp hq with q1 | q1
    · exact (S2.cells q q1).mono (Le.refl _) (upd_ne fun z => b0.2 (by rw [← z]; exact List.mem_map_of_mem q1))
    · rw [List.mem_singleton.mp q1]
      exact c
end
theorem nodup_sub_le {α : Type} [DecidableEq α] : ∀ {l m : List α}, l.Nodup → (∀ x ∈ l, x ∈ m) → l.length ≤ m.length
  | [], _, _, _ => Nat.zero_le _
  | a :: l, m, nd, h => by
    rw [List.nodup_cons] at nd
    have h1 := nodup_sub_le (m := m.erase a) nd.2 fun x hx => (List.mem_erase_of_ne fun e => nd.1 (by rw [← e]; exact hx)).mpr (h x (by simp [hx]))
    have h2 := List.length_pos_of_mem (h a (by simp))
    rw [List.length_erase_of_mem (h a (by simp))] at h1
    rw [List.length_cons]
    omega
/-- a set of ints over data -/
def siD (w : World) (S : Int → Bool) (n : Nat) : D := .raw (fun a _ => siO w a S n) []
/-- it has the members of a list -/
structure SetIs (l : List Int) (S : Int → Bool) (n : Nat) : Prop where
  ex : ∃ acc : List Int, acc.Nodup ∧ n = acc.length ∧ (∀ j, S j = decide (j ∈ acc)) ∧ ∀ j, j ∈ acc ↔ j ∈ l
theorem SetIs.le {l : List Int} {S : Int → Bool} {n : Nat} (h : SetIs l S n) : n ≤ l.length := by
  obtain ⟨acc, nd, rfl, _, hm⟩ := h.ex
  exact nodup_sub_le nd fun x hx => (hm x).mp hx
theorem SetIs.add {l : List Int} {S : Int → Bool} {n : Nat} {k : Int} (h : SetIs l S n) : SetIs (l ++ [k]) (fun j => S j || decide (j = k)) (if S k = true then n else n + 1) := by
  obtain ⟨acc, nd, rfl, hS, hm⟩ := h.ex
  by_cases hk : k ∈ acc
  · refine ⟨acc, nd, ?_, fun j => ?_, fun j => ?_⟩
    · rw [if_pos (by rw [hS]; simpa using hk)]
    · rw [hS, Bool.eq_iff_iff]
      simp only [Bool.or_eq_true, decide_eq_true_eq]
      exact ⟨fun z => z.elim id fun e => e ▸ hk, .inl⟩
    · simp only [List.mem_append, List.mem_singleton, hm]
      exact ⟨.inl, fun z => z.elim id fun e => e ▸ (hm k).mp hk⟩
  · refine ⟨acc ++ [k], ?_, ?_, fun j => ?_, fun j => ?_⟩
    · rw [List.nodup_append]
      exact ⟨nd, by simp, fun a ha b hb e => hk (by rw [List.mem_singleton.mp hb] at e; exact e ▸ ha)⟩
    · rw [if_neg (by rw [hS]; simpa using hk), List.length_append]; rfl
    · rw [hS, Bool.eq_iff_iff]
      simp only [Bool.or_eq_true, decide_eq_true_eq, List.mem_append, List.mem_singleton]
    · simp only [List.mem_append, List.mem_singleton, hm]
section
variable {X : Cx} {Γ : Gam} {L : Cells} {R : RD} {tg iter elt : Expr} {scope : Scope} {js : List Nat} {pos : Pos}
/-- {elt for tg in iter}, ints -/
theorem ev_scI {α : Type} (own : List (Str × Nat)) (φ : α → D) (g : α → Int) (hc : X.calm = true) (hu : X.A.units + 64 < cLine) (hN : X.N.Nodup) (ok : blkC X.N X.env.scope scope own = true) (hjs : ∀ j ∈ js, j ∈ own.map (·.2))
    (h : IterX X tg iter Γ L fun ds L1 => ∃ l : List α, ds = l.map φ ∧ l.length < 4000 ∧ (∀ a ∈ l, Itm X tg elt scope js (own.map (·.2)) Γ L1 (φ a) (.int (g a))) ∧ ∀ p S n, SetIs (l.map g) S n → R (.ref p) (L1 ++ [(p, siD X.w S n)]))
    (hs : ∀ x, foldedSetIterable iter X.env x = pure x := by intro _; rfl) : EvX X (.SetComp elt [⟨tg, iter, [], 0⟩] scope pos) Γ L R := .mk fun {B0 F H σ ts τ Q} S q => by
  refine we_of (pe_scK (siK X.prog X.w X.K) (g := fun v σ H Q => ∀ s H0 C cl fp, WG (BX X scope s H0 C cl fp) tg v σ H Q) (tt := tYes) (te := fun σ H Q => ∀ s H0 C cl fp, WE (BX X scope s H0 C cl fp) elt σ H Q) hc hu hN pi_w (blkOk_by ok)
    (fun s H C cl fp => ⟨fun pins s1 σ H v u Q I r z => pg_w.run pins s1 σ H v u Q I r (z s _ C cl fp)⟩) (fun s H C cl fp => pts_nil) (fun s H C cl fp => ⟨fun pins s1 σ H Q I z => pe_w.run pins s1 σ H Q I (z s _ C cl fp)⟩) hs) ?_
  refine h.run S fun J ds H1 L1 ⟨l, ed, hz, items, done⟩ S1 it => fun p hp => ?_
  subst ed
  have S2 := (S1.over.wiped (own.map (·.2))).newC (o := siO X.w p (fun _ => false) 0) (d := siD X.w (fun _ => false) 0) hp fun B le => ⟨[], by rw [upd_same], trivial, .nil⟩
  refine ⟨fun i m H => m = l.length - i ∧ i ≤ l.length ∧ ∃ T n, SetIs ((l.take i).map g) T n ∧ Sat X.K (vis H1 (adr L1)) F H (wipe σ (own.map (·.2))) (wipeG Γ (own.map (·.2))) ((pick Γ σ).1 ++ ts) ((pick Γ σ).2 ++ τ) (L1 ++ [(p, siD X.w T n)]),
    ⟨_, rfl, Nat.zero_le _, fun _ => false, 0, ⟨[], by simp, rfl, by simp, by simp⟩, S2⟩, fun i m H3 ⟨hm, hi, T, n, w', S3⟩ => ?_⟩
  by_cases hlt : i < l.length
  · refine .inr ⟨it.go i S3 (by rw [List.length_map]; exact hlt), fun H' => ∃ T n, SetIs ((l.take (i + 1)).map g) T n ∧ Sat X.K (vis H1 (adr L1)) F H' (wipe σ (own.map (·.2))) (wipeG Γ (own.map (·.2))) ((pick Γ σ).1 ++ ts) ((pick Γ σ).2 ++ τ) (L1 ++ [(p, siD X.w T n)]), fun H' z => ⟨l.length - (i + 1), by omega, rfl, hlt, z⟩, fun x H' y => ?_⟩
    obtain ⟨d, hd, S4⟩ := it.yld i x H' (by rw [List.length_map]; exact hlt) S3 y
    obtain ⟨a, ha, rfl⟩ := map_get hd
    obtain ⟨xs, hx, h0, hf, hl, S5⟩ := S4.hideR
    have S6 : Sat X.K _ _ H' (wipe σ (own.map (·.2))) (wipeG Γ (own.map (·.2))) (x :: (xs ++ ((pick Γ σ).1 ++ ts))) (φ a :: ([] ++ ((pick Γ σ).2 ++ τ))) L1 := ⟨S5.base, S5.fo, S5.nd, S5.cells, S5.len, S5.slots, ObL.swap hl S5.temps⟩
    have itm := items a (List.mem_of_getElem? ha)
    intro s H0 C cl fp
    refine (itm.run s _ C cl fp).run S6 fun Γ2 L2 σ2 H2 off ⟨e2, t2⟩ S7 => ⟨wipe_off off hjs, ?_⟩
    subst e2
    refine (show ∀ {P : Bool → Hp → Prop}, P true H2 → tYes σ2 H2 P from fun h => h) ?_
    rw [if_pos rfl]
    intro s H0 C cl fp
    refine (t2 s H0 C cl fp).run S7 fun v d' H5 L5 ⟨e5, e6⟩ S9 => ?_
    subst e5 e6
    cases S9.top
    have hn := w'.le
    rw [List.length_map, List.length_take] at hn
    refine ⟨(T, n), g a, (S9.base p _ upd_same).1, ⟨rfl, show n + 1 < 4096 by omega⟩, fun c' hc' => ?_⟩
    subst hc'
    have S10 := Sat.unhideG (o' := siO X.w p (fun j => T j || decide (j = g a)) (if T (g a) = true then n else n + 1)) (d' := siD X.w (fun j => T j || decide (j = g a)) (if T (g a) = true then n else n + 1)) h0 hf hl S9.pop ⟨[], by rw [upd_same], trivial, .nil⟩
    refine ⟨_, _, ?_, (Sat.unwiped S1 S10).wiped _⟩
    rw [take_next ha, List.map_append]
    exact w'.add
  · have e : i = l.length := by omega
    subst e
    have st := it.stop S3
    rw [List.length_map] at st
    refine .inl ⟨st, q _ _ _ _ (done p T n (by rw [List.take_length] at w'; exact w')) ((S1.under (Sat.unwiped S1 S3)).push (.ref p))⟩
end
/-! ### sets of tuples of ints -/
def adV : V → Addr
  | .ref a => a
  | _ => 0
def mkST (P : Program) (w : World) (kss : List (List Int)) : Addr → List V → HO := fun a xs => SetTO P w a ((xs.map adV).zip kss)
def tI (k : List Int) : D := .tup (dints k)
def stD (P : Program) (w : World) (kss : List (List Int)) : D := .raw (mkST P w kss) (kss.map tI)
section
variable {K : PySem.W.Frag} {B H : Hp}
theorem obL_of {α : Type} (f : α → V) (g : α → D) : ∀ {l : List α}, (∀ a ∈ l, Ob K B (f a) (g a)) → ObL K B (l.map f) (l.map g)
  | [], _ => .nil
  | a :: l, h => .cons (h a (by simp)) (obL_of f g fun x hx => h x (by simp [hx]))
theorem ob_tI {v : V} {k : List Int} (o : Ob K B v (tI k)) : ∃ a, v = .ref a ∧ SqT K B a (k.map V.int) := by
  cases o with
  | tup s t =>
    have e := t.toInts
    subst e
    exact ⟨_, rfl, s⟩
theorem tI_ob {a : Addr} {k : List Int} (s : SqT K B a (k.map V.int)) : Ob K B (.ref a) (tI k) := .tup s (obL_ints k)
/-- the content of such a set -/
theorem st_cont : ∀ {kss : List (List Int)} {xs : List V}, ObL K B xs (kss.map tI) → ∃ c : List (Addr × List Int), (xs.map adV).zip kss = c ∧ xs = c.map (fun p => V.ref p.1) ∧ kss = c.map (·.2) ∧ ∀ p ∈ c, SqT K B p.1 (p.2.map V.int)
  | [], _, .nil => ⟨[], rfl, rfl, rfl, by simp⟩
  | k :: kss, _, .cons o t => by
    obtain ⟨a, rfl, s⟩ := ob_tI o
    obtain ⟨c, e1, e2, e3, hc⟩ := st_cont t
    refine ⟨(a, k) :: c, ?_, ?_, ?_, ?_⟩
    · rw [← e1]; rfl
    · rw [List.map_cons, ← e2]
    · rw [List.map_cons, ← e3]
    · intro p hp
      rcases List.mem_cons.mp hp with rfl | hp
      · exact s
      · exact hc p hp
theorem zip_cont (c : List (Addr × List Int)) : ((c.map fun p => V.ref p.1).map adV).zip (c.map (·.2)) = c := by
  induction c with
  | nil => rfl
  | cons p c ih => rw [List.map_cons, List.map_cons, List.map_cons, List.zip_cons_cons, ih]; rfl
theorem cell_st {P : Program} {w : World} {a : Addr} {c : List (Addr × List Int)} (e : H a = some (SetTO P w a c)) (h : ∀ p ∈ c, SqT K B p.1 (p.2.map V.int)) : CellAt K B H a (stD P w (c.map (·.2))) := by
  refine ⟨c.map fun p => V.ref p.1, ?_, trivial, ?_⟩
  · rw [e]
    unfold mkST
    rw [zip_cont]
  · rw [List.map_map]
    exact obL_of _ _ fun p hp => tI_ob (h p hp)
end
section
variable {X : Cx} {Γ : Gam} {L : Cells} {R : RD} {tg iter elt : Expr} {scope : Scope} {js : List Nat} {pos : Pos}
/-- {elt for tg in iter}, tuples of ints -/
theorem ev_scT {α : Type} (own : List (Str × Nat)) (φ : α → D) (g : α → List Int) (hc : X.calm = true) (hu : X.A.units + 64 < cLine) (hN : X.N.Nodup) (ok : blkC X.N X.env.scope scope own = true) (hjs : ∀ j ∈ js, j ∈ own.map (·.2))
    (h : IterX X tg iter Γ L fun ds L1 => ∃ l : List α, ds = l.map φ ∧ (∀ kss : List (List Int), kss.Nodup → (∀ k ∈ kss, k ∈ l.map g) → kss.length + 1 < 64) ∧ (∀ a ∈ l, Itm X tg elt scope js (own.map (·.2)) Γ L1 (φ a) (tI (g a))) ∧ ∀ p kss, kss.Nodup → (∀ k, k ∈ kss ↔ k ∈ l.map g) → R (.ref p) (L1 ++ [(p, stD X.prog X.w kss)]))
    (hs : ∀ x, foldedSetIterable iter X.env x = pure x := by intro _; rfl) : EvX X (.SetComp elt [⟨tg, iter, [], 0⟩] scope pos) Γ L R := .mk fun {B0 F H σ ts τ Q} S q => by
  refine we_of (pe_scK (stK X.prog X.w X.K) (g := fun v σ H Q => ∀ s H0 C cl fp, WG (BX X scope s H0 C cl fp) tg v σ H Q) (tt := tYes) (te := fun σ H Q => ∀ s H0 C cl fp, WE (BX X scope s H0 C cl fp) elt σ H Q) hc hu hN pi_w (blkOk_by ok)
    (fun s H C cl fp => ⟨fun pins s1 σ H v u Q I r z => pg_w.run pins s1 σ H v u Q I r (z s _ C cl fp)⟩) (fun s H C cl fp => pts_nil) (fun s H C cl fp => ⟨fun pins s1 σ H Q I z => pe_w.run pins s1 σ H Q I (z s _ C cl fp)⟩) hs) ?_
  refine h.run S fun J ds H1 L1 ⟨l, ed, few, items, done⟩ S1 it => fun p hp => ?_
  subst ed
  have S2 := (S1.over.wiped (own.map (·.2))).newC (o := SetTO X.prog X.w p []) (d := stD X.prog X.w []) hp fun B le => cell_st (c := []) upd_same (by simp)
  refine ⟨fun i m H => m = l.length - i ∧ i ≤ l.length ∧ ∃ kss, kss.Nodup ∧ (∀ k, k ∈ kss ↔ k ∈ (l.take i).map g) ∧ Sat X.K (vis H1 (adr L1)) F H (wipe σ (own.map (·.2))) (wipeG Γ (own.map (·.2))) ((pick Γ σ).1 ++ ts) ((pick Γ σ).2 ++ τ) (L1 ++ [(p, stD X.prog X.w kss)]),
    ⟨_, rfl, Nat.zero_le _, [], by simp, by simp, S2⟩, fun i m H3 ⟨hm, hi, kss, nd, hmem, S3⟩ => ?_⟩
  by_cases hlt : i < l.length
  · refine .inr ⟨it.go i S3 (by rw [List.length_map]; exact hlt), fun H' => ∃ kss, kss.Nodup ∧ (∀ k, k ∈ kss ↔ k ∈ (l.take (i + 1)).map g) ∧ Sat X.K (vis H1 (adr L1)) F H' (wipe σ (own.map (·.2))) (wipeG Γ (own.map (·.2))) ((pick Γ σ).1 ++ ts) ((pick Γ σ).2 ++ τ) (L1 ++ [(p, stD X.prog X.w kss)]), fun H' z => ⟨l.length - (i + 1), by omega, rfl, hlt, z⟩, fun x H' y => ?_⟩
    obtain ⟨d, hd, S4⟩ := it.yld i x H' (by rw [List.length_map]; exact hlt) S3 y
    obtain ⟨a, ha, rfl⟩ := map_get hd
    obtain ⟨xs, hx, h0, hf, hl, S5⟩ := S4.hideR
    have S6 : Sat X.K _ _ H' (wipe σ (own.map (·.2))) (wipeG Γ (own.map (·.2))) (x :: (xs ++ ((pick Γ σ).1 ++ ts))) (φ a :: (kss.map tI ++ ((pick Γ σ).2 ++ τ))) L1 := ⟨S5.base, S5.fo, S5.nd, S5.cells, S5.len, S5.slots, ObL.swap hl S5.temps⟩
    have itm := items a (List.mem_of_getElem? ha)
    intro s H0 C cl fp
    refine (itm.run s _ C cl fp).run S6 fun Γ2 L2 σ2 H2 off ⟨e2, t2⟩ S7 => ⟨wipe_off off hjs, ?_⟩
    subst e2
    refine (show ∀ {P : Bool → Hp → Prop}, P true H2 → tYes σ2 H2 P from fun h => h) ?_
    rw [if_pos rfl]
    intro s H0 C cl fp
    refine (t2 s H0 C cl fp).run S7 fun v d' H5 L5 ⟨e5, e6⟩ S9 => ?_
    subst e5 e6
    obtain ⟨oxs, S9b⟩ := S9.pop.args hl
    obtain ⟨b, rfl, sb⟩ := ob_tI S9.top
    obtain ⟨c, ec, e1, ek, hc'⟩ := st_cont oxs
    have hat := (S9.base p _ upd_same).1
    have hat2 : H5 p = some (SetTO X.prog X.w p c) := by rw [hat]; unfold mkST; rw [ec]
    have hsub : ∀ k ∈ kss, k ∈ l.map g := fun k hk => by
      obtain ⟨z, hz, e⟩ := List.mem_map.mp ((hmem k).mp hk)
      exact List.mem_map.mpr ⟨z, List.mem_of_mem_take hz, e⟩
    have hlen : c.length = kss.length := by rw [ek, List.length_map]
    refine ⟨c, (b, g a), hat2, ⟨rfl, vis_le.sqT sb, by rw [hlen]; exact few kss nd hsub, fun q hq => vis_le.sqT (hc' q hq)⟩, fun c' ⟨k1, k2⟩ => ?_⟩
    have hall : ∀ q ∈ c', SqT X.K (vis H5 (F ++ [p] ++ adr L5)) q.1 (q.2.map V.int) := fun q hq => by
      by_cases hm2 : g a ∈ c.map (·.2)
      · rw [k1 hm2] at hq; exact hc' q hq
      · rcases List.mem_cons.mp ((k2 hm2).mem_iff.mp hq) with rfl | hq
        · exact sb
        · exact hc' q hq
    have S10 := Sat.unhideG (o' := SetTO X.prog X.w p c') (d' := stD X.prog X.w (c'.map (·.2))) h0 hf hl S9.pop (cell_st upd_same hall)
    refine ⟨List.map (fun p : Addr × List Int => p.2) c', ?_, fun k => ?_, (Sat.unwiped S1 S10).wiped _⟩
    · by_cases hm2 : g a ∈ c.map (·.2)
      · rw [k1 hm2, ← ek]; exact nd
      · rw [((k2 hm2).map (·.2)).nodup_iff, List.map_cons, List.nodup_cons, ← ek]
        exact ⟨by rw [ek]; exact hm2, nd⟩
    · rw [take_next ha, List.map_append, List.mem_append, List.map_cons, List.map_nil, List.mem_singleton, ← hmem k, ek]
      by_cases hm2 : g a ∈ c.map (·.2)
      · rw [k1 hm2]
        exact ⟨.inl, fun z => z.elim id fun e => e ▸ hm2⟩
      · rw [((k2 hm2).map (·.2)).mem_iff, List.map_cons, List.mem_cons]
        exact ⟨fun z => z.symm, fun z => z.symm⟩
  · have e : i = l.length := by omega
    subst e
    have st := it.stop S3
    rw [List.length_map] at st
    refine .inl ⟨st, q _ _ _ _ (done p kss nd (by rw [List.take_length] at hmem; exact hmem)) ((S1.under (Sat.unwiped S1 S3)).push (.ref p))⟩
/-- len of a set of ints -/
theorem call_lenI : CallR X (.builtin "len") (fun xs H Q => ∃ a S n, xs = [V.ref a] ∧ H a = some (siO X.w a S n) ∧ Q (.int n) H) := by
  intro pins s σ H xs us Q I r h
  obtain ⟨a, S, n, rfl, e, q⟩ := h
  obtain ⟨u, rfl, rx⟩ := r.one
  cases rx
  obtain ⟨o, es, ep, t, ho, hex, hd, _, _, _, hb, hf, hn, _⟩ := siO_get I e
  have hb' : es.size < 4096 := hb
  exact call_len_set ho hex hd hf (by omega) ⟨.int n, H, I.tok _, ⟨_, by rw [hn]⟩, q⟩
theorem oa_lenI {k : Nat} {a : Addr} {S : Int → Bool} {n : Nat} (hk : L[k]? = some (a, siD X.w S n)) (r : R (.int n) L) : OpA X.K (fun xs H Q => ∃ a S n, xs = [V.ref a] ∧ H a = some (siO X.w a S n) ∧ Q (.int n) H) [.ref a] L R := .mk fun {B0 F H σ Γ ts vs τ Q} T hl q => by
  obtain ⟨o, S2⟩ := T.args hl
  obtain ⟨v, rfl, o1⟩ := o.one
  cases o1
  obtain ⟨xs, hx, _, _⟩ := T.cell hk
  exact ⟨a, S, n, rfl, hx, q _ _ _ _ r (S2.push (.int _))⟩
/-- sorted of a set of tuples of d ints in [0, B) -/
theorem oa_sortedT {k : Nat} {a : Addr} {kss : List (List Int)} (d : Nat) (B : Int) (hd : 1 ≤ d) (hk : L[k]? = some (a, stD X.prog X.w kss)) (hb : ∀ q ∈ kss, q.length = d ∧ TS.Bd B q) (r : ∀ (p : Addr) (kss' : List (List Int)), kss'.Perm kss → kss'.Pairwise (fun x y => TS.code B x ≤ TS.code B y) → R (.ref p) (L ++ [(p, .lst (kss'.map tI))])) :
    OpA X.K (rSortedT X.K X.prog X.w) [.ref a] L R := .mk fun {B0 F H σ Γ ts vs τ Q} T hl q => by
  obtain ⟨o, S2⟩ := T.args hl
  obtain ⟨v, rfl, o1⟩ := o.one
  cases o1
  obtain ⟨xs, hx, _, t⟩ := T.cell hk
  obtain ⟨c, ec, e1, ek, hc'⟩ := st_cont t
  refine ⟨a, c, d, B, rfl, by rw [hx]; unfold mkST; rw [ec], fun p hp => vis_le.sqT (hc' p hp), hd, fun p hp => hb _ (by rw [ek]; exact List.mem_map_of_mem hp), fun c' p pm _ _ pw hp => ?_⟩
  have S3 := S2.newC (o := .lst (c'.map fun q => V.ref q.1)) (d := .lst ((c'.map (·.2)).map tI)) hp fun B le => ⟨_, upd_same, by
    rw [List.map_map]
    exact obL_of _ _ fun q hq => (tI_ob (hc' q (pm.mem_iff.mp hq))).mono le⟩
  exact q _ _ _ _ (r p (c'.map (·.2)) (by rw [ek]; exact pm.map _) (List.pairwise_map.mpr pw)) (S3.push (.ref p))
end
theorem snoc_at {α : Type} {l : List α} {x : α} : (l ++ [x])[l.length]? = some x := by simp
end DL
set_option maxRecDepth 100000
set_option maxHeartbeats 4000000
/-! DLH: dict comprehensions; more of dicts with int keys. -/
namespace DL
open PySem PySem.Spec PyProof.Rows L2
section
variable {K : PySem.W.Frag} {B0 : Hp} {F : List Addr} {H : Hp} {σ : L2.St} {Γ : Gam} {ts : List V} {τ acc : List D} {L : Cells} {p : Addr}
/-- an own object is hidden, the values in it held -/
theorem Sat.hideG {d : D} (S : Sat K B0 F H σ Γ ts τ (L ++ [(p, d)])) {o : HO} {xs : List V} (hx : H p = some o) (t : ObL K (vis H (F ++ adr (L ++ [(p, d)]))) xs acc) : B0 p = none ∧ (∀ a ∈ F, ∃ o, B0 a = some o) ∧ Sat K (upd B0 p o) (F ++ [p]) H σ Γ (xs ++ ts) (acc ++ τ) L := by
  have hp : (L ++ [(p, d)])[L.length]? = some (p, d) := by simp
  have hv := vis_swap (H := H) (F := F) (p := p) L d
  have nd := S.nd
  simp only [adr, List.map_append, List.map_cons, List.map_nil] at nd
  rw [List.nodup_append] at nd
  have hpL : p ∉ adr L := fun q => nd.2.2 p q p (by simp) rfl
  have h0 : B0 p = none := by
    cases e : B0 p with
    | none => rfl
    | some o => exact absurd (by simp [adr]) (S.base p o e).2
  refine ⟨h0, S.fo, fun a o e => ?_, fun a ha => ?_, nd.1, fun q hq => ?_, S.len, fun i d e => ?_, ?_⟩
  · by_cases h : a = p
    · rw [h, upd_same] at e
      rw [h, ← e]
      exact ⟨hx, hpL⟩
    · rw [upd_ne h] at e
      have z := S.base a o e
      exact ⟨z.1, fun q => z.2 (by simp only [adr, List.map_append]; exact List.mem_append_left _ q)⟩
  · by_cases h : a = p
    · rw [h]; exact ⟨_, upd_same⟩
    · have q : a ∈ F := by simpa [h] using ha
      obtain ⟨o, e⟩ := S.fo a q
      exact ⟨o, by rw [upd_ne h]; exact e⟩
  · rw [← hv]; exact S.cells q (List.mem_append_left _ hq)
  · rw [← hv]; exact S.slots i d e
  · rw [← hv]; exact t.append S.temps
end
section
variable {X : Cx} {Γ : Gam} {L : Cells} {R : RD} {tg iter kx vx : Expr} {scope : Scope} {js : List Nat} {pos : Pos}
structure ItmD (X : Cx) (tg kx vx : Expr) (scope : Scope) (js vs : List Nat) (Γ : Gam) (L : Cells) (d : D) (k : Int) (e : D) : Prop where
  run : ∀ s H C cl fp, TgX (BX X scope s H C cl fp) tg js d (wipeG Γ vs) L fun Γ2 L2 => L2 = L ∧ (∀ s H C cl fp, EvX (BX X scope s H C cl fp) kx Γ2 L fun d' L' => d' = .int k ∧ L' = L) ∧ ∀ s H C cl fp, EvX (BX X scope s H C cl fp) vx Γ2 L fun d' L' => d' = e ∧ L' = L
/-- {k: v for tg in iter}, the keys ints, no two equal; frozen -/
theorem ev_dcT {α : Type} (own : List (Str × Nat)) (φ : α → D) (κ : α → Int) (g : α → D) (hc : X.calm = true) (hN : X.N.Nodup) (ok : blkC X.N X.env.scope scope own = true) (hjs : ∀ j ∈ js, j ∈ own.map (·.2))
    (h : IterX X tg iter Γ L fun ds L1 => ∃ l : List α, ds = l.map φ ∧ l.length ≤ sizeLine ∧ (l.map κ).Nodup ∧ (∀ a ∈ l, ItmD X tg kx vx scope js (own.map (·.2)) Γ L1 (φ a) (κ a) (g a)) ∧ R (.dct (l.map κ) (l.map g)) L1)
    (hs : ∀ x, foldedSetIterable iter X.env x = pure x := by intro _; rfl) : EvX X (.DictComp kx vx [⟨tg, iter, [], 0⟩] scope pos) Γ L R := .mk fun {B0 F H σ ts τ Q} S q => by
  refine we_of (pe_dc (g := fun v σ H Q => ∀ s H0 C cl fp, WG (BX X scope s H0 C cl fp) tg v σ H Q) (tt := tYes) (tk := fun σ H Q => ∀ s H0 C cl fp, WE (BX X scope s H0 C cl fp) kx σ H Q) (tv := fun σ H Q => ∀ s H0 C cl fp, WE (BX X scope s H0 C cl fp) vx σ H Q) hc hN pi_w (blkOk_by ok)
    (fun s H C cl fp => ⟨fun pins s1 σ H v u Q I r z => pg_w.run pins s1 σ H v u Q I r (z s _ C cl fp)⟩) (fun s H C cl fp => pts_nil) (fun s H C cl fp => ⟨fun pins s1 σ H Q I z => pe_w.run pins s1 σ H Q I (z s _ C cl fp)⟩) (fun s H C cl fp => ⟨fun pins s1 σ H Q I z => pe_w.run pins s1 σ H Q I (z s _ C cl fp)⟩) hs) ?_
  refine h.run S fun J ds H1 L1 ⟨l, ed, hz, hnd, items, done⟩ S1 it => fun p hp => ?_
  subst ed
  have S2 := (S1.over.wiped (own.map (·.2))).newC (o := .dK []) (d := .dct [] []) hp fun B le => ⟨[], upd_same, rfl, .nil⟩
  refine ⟨fun i m H => m = l.length - i ∧ i ≤ l.length ∧ Sat X.K (vis H1 (adr L1)) F H (wipe σ (own.map (·.2))) (wipeG Γ (own.map (·.2))) ((pick Γ σ).1 ++ ts) ((pick Γ σ).2 ++ τ) (L1 ++ [(p, .dct ((l.take i).map κ) ((l.take i).map g))]),
    ⟨_, rfl, Nat.zero_le _, S2⟩, fun i m H3 ⟨hm, hi, S3⟩ => ?_⟩
  by_cases hlt : i < l.length
  · refine .inr ⟨it.go i S3 (by rw [List.length_map]; exact hlt), fun H' => Sat X.K (vis H1 (adr L1)) F H' (wipe σ (own.map (·.2))) (wipeG Γ (own.map (·.2))) ((pick Γ σ).1 ++ ts) ((pick Γ σ).2 ++ τ) (L1 ++ [(p, .dct ((l.take (i + 1)).map κ) ((l.take (i + 1)).map g))]), fun H' z => ⟨l.length - (i + 1), by omega, rfl, hlt, z⟩, fun x H' y => ?_⟩
    obtain ⟨d, hd, S4⟩ := it.yld i x H' (by rw [List.length_map]; exact hlt) S3 y
    obtain ⟨a, ha, rfl⟩ := map_get hd
    obtain ⟨xs, hx, hl, t⟩ := S4.cell (snoc_at (x := (p, D.dct ((l.take i).map κ) ((l.take i).map g))))
    obtain ⟨h0, hf, S5⟩ := S4.hideG hx t
    have hl2 := t.length
    have S6 : Sat X.K _ _ H' (wipe σ (own.map (·.2))) (wipeG Γ (own.map (·.2))) (x :: (xs ++ ((pick Γ σ).1 ++ ts))) (φ a :: ((l.take i).map g ++ ((pick Γ σ).2 ++ τ))) L1 := ⟨S5.base, S5.fo, S5.nd, S5.cells, S5.len, S5.slots, ObL.swap hl2 S5.temps⟩
    have itm := items a (List.mem_of_getElem? ha)
    intro s H0 C cl fp
    refine (itm.run s _ C cl fp).run S6 fun Γ2 L2 σ2 H2 off ⟨e2, tk, tv⟩ S7 => ⟨wipe_off off hjs, ?_⟩
    subst e2
    refine (show ∀ {P : Bool → Hp → Prop}, P true H2 → tYes σ2 H2 P from fun h => h) ?_
    rw [if_pos rfl]
    intro s H0 C cl fp
    refine (tk s H0 C cl fp).run S7 fun v d' H5 L5 ⟨e5, e6⟩ S9 => ?_
    subst e5 e6
    intro s H0 C cl fp
    refine (tv s H0 C cl fp).run S9 fun v2 d2 H6 L6 ⟨e7, e8⟩ S10 => ?_
    subst e7 e8
    cases S10.pop.top
    have hat := (S10.base p _ upd_same).1
    have hn : valV (dkv ((l.take i).map κ) xs) (.inl (κ a)) = none := by
      have h1 := valV_mem (k := κ a) hl
      have h2 : κ a ∉ (l.take i).map κ := fun z => by
        have h3 : ((l.take (i + 1)).map κ).Nodup := (List.take_sublist _ _).map κ |>.nodup hnd
        rw [take_next ha, List.map_append, List.nodup_append] at h3
        exact h3.2.2 _ z _ (by simp) rfl
      rw [decide_eq_false h2] at h1
      exact Option.isNone_iff_eq_none.mp (Option.isSome_eq_false_iff.mp h1)
    have hlen : (dkv ((l.take i).map κ) xs).length = i := by rw [dkv_length hl, List.length_map, List.length_take]; omega
    refine ⟨_, .inl (κ a), rfl, hat, by rw [hlen]; omega, ?_⟩
    rw [putK_new _ hn, dkv_snoc hl]
    obtain ⟨oh, _⟩ := S10.pop.pop.args hl2
    have S11 := Sat.unhideG (held := v2 :: .int (κ a) :: xs) (heldD := g a :: .int (κ a) :: (l.take i).map g) (o' := .dK (dkv ((l.take i).map κ ++ [κ a]) (xs ++ [v2]))) (d' := .dct ((l.take i).map κ ++ [κ a]) ((l.take i).map g ++ [g a])) h0 hf (by simp [hl2]) S10
      ⟨xs ++ [v2], upd_same, by simpa using hl, oh.append (.cons S10.top .nil)⟩
    have S12 := (Sat.unwiped S1 S11).wiped (own.map (·.2))
    rw [take_next ha, List.map_append, List.map_append]
    exact S12
  · have e : i = l.length := by omega
    subst e
    have st := it.stop S3
    rw [List.length_map] at st
    rw [List.take_length] at S3
    have S13 := S1.under (Sat.unwiped S1 S3)
    have S14 := (S13.push (.ref p)).freezeTop (k := L1.length) snoc_at
    rw [eraseIdx_snoc] at S14
    exact .inl ⟨st, q _ _ _ _ done S14⟩
end
section
variable {X : Cx} {Γ : Gam} {L : Cells} {R : RD} {e o : Expr} {pos apos : Pos} {E : En}
theorem st_extend (h : EvX X o Γ L fun d L1 => ∃ (k0 : Nat) (a : Addr) (ds0 : List D), d = .ref a ∧ L1[k0]? = some (a, .lst ds0) ∧ EvX X e Γ L1 fun d2 L2 => ∃ (k k2 : Nat) (a2 : Addr) (ds es : List D), d2 = .ref a2 ∧ L2[k]? = some (a, .lst ds) ∧ L2[k2]? = some (a2, .lst es) ∧ k2 ≠ k ∧ ds.length + es.length ≤ sizeLine ∧ E.nx Γ ((L2.set k (a, .lst (ds ++ es))).eraseIdx k2))
    (hbase : attributeBase o "extend" X.env (eval o X.env) = eval o X.env := by rfl)
    (hfew : ((backTo pos (starEach [e] X.env)).all (fun x => !x.1) && (backToKw pos (keywordEach [] X.env)).all (fun x => x.1.isSome) && decide (([e] : List Expr).length + ([] : List Keyword).length + (if ([] : List Keyword).isEmpty then 0 else 1) < 30)) = true := by rfl)
    (hline : (apos.endLine == pos.line) = true := by rfl) (hs : starEach [e] X.env = (false, eval e X.env) :: starEach [] X.env := by rfl) (hplain : (backTo pos (starEach [] X.env)).any (·.1) = false := by rfl)
    (hsw : swapsWith (.Call (.Attribute o "extend" apos) [e] [] pos) none pos.line X.env = pure false := by rfl) : StX X (.Expr (.Call (.Attribute o "extend" apos) [e] [] pos) pos) Γ L E :=
  st_expr (ev_bm F.plainAttrs_list F.slot_list_extend F.type_list_extend mt_extend (.mk fun S q => h.run S fun v d H1 L1 ⟨k0, a, ds0, ed, hk0, h2⟩ S1 => q v d H1 L1 (by
    subst ed
    exact ⟨tyd_lstC hk0, ag_cons (.mk fun S' q' => h2.run S' fun v2 d2 H2 L2 ⟨k, k2, a2, ds, es, e2, hk, hk2, ne, z, r⟩ S2 => q' v2 d2 H2 L2 (by subst e2; exact ag_nil (om_extend hk hk2 ne z r)) S2) hs⟩) S1) hbase hfew hline hs hplain) hsw
end
end DL
set_option maxRecDepth 100000
set_option maxHeartbeats 4000000
/-! DLI: dicts known for good; sets as dicts. -/
namespace DL
open PySem PySem.Spec PyProof.Rows L2
section
variable {K : PySem.W.Frag} {B0 : Hp} {F : List Addr} {H : Hp} {σ : L2.St} {Γ : Gam} {ts : List V} {τ : List D} {L : Cells}
theorem Sat.known (S : Sat K B0 F H σ Γ ts τ L) {k : Nat} {a : Addr} {ks : List Int} {ds : List D} (hk : L[k]? = some (a, .dct ks ds)) : ∃ xs, H a = some (.dK (dkv ks xs)) ∧ ∀ od, Sat K B0 F (upd H a (.frz od (.dK (dkv ks xs)))) σ Γ ts τ (L.eraseIdx k) ∧
    Ob K (vis (upd H a (.frz od (.dK (dkv ks xs)))) (F ++ adr (L.eraseIdx k))) (.ref a) (.kdc ks ds) := by
  obtain ⟨xs, hx, hl, t⟩ := S.cell hk
  refine ⟨xs, hx, fun od => ?_⟩
  have me := mem_erase S.nd hk
  have ha : a ∈ adr L := List.mem_map_of_mem (List.mem_of_getElem? hk)
  have haF : a ∉ F := fun h => by
    obtain ⟨o, e⟩ := S.fo a h
    exact (S.base a o e).2 ha
  have le : Le (vis H (F ++ adr L)) (vis (upd H a (.frz od (.dK (dkv ks xs)))) (F ++ adr (L.eraseIdx k))) := .of fun b o e => by
    obtain ⟨n, e⟩ := vis_some.mp e
    rw [List.mem_append, not_or] at n
    have hb : b ≠ a := fun z => n.2 (z ▸ ha)
    refine vis_of ?_ (by rw [upd_ne hb]; exact e)
    rw [List.mem_append, not_or]
    exact ⟨n.1, fun z => n.2 ((me b).mp z).1⟩
  refine ⟨⟨fun b o e => ?_, S.fo, ?_, fun p hp => ?_, S.len, fun i d e => ?_, S.temps.mono le⟩, ?_⟩
  · obtain ⟨e1, e2⟩ := S.base b o e
    exact ⟨by rw [upd_ne fun z => e2 (by rw [z]; exact ha)]; exact e1, fun z => e2 ((me b).mp z).1⟩
  · exact (S.freeze hk).1.nd
  · have hp' : p.1 ≠ a := ((me p.1).mp (List.mem_map_of_mem hp)).2
    exact (S.cells p ((List.eraseIdx_sublist _ _).subset hp)).mono le (upd_ne hp')
  · obtain ⟨v, e1, o⟩ := S.slots i d e
    exact ⟨v, e1, o.mono le⟩
  · refine .kdc (vis_of ?_ upd_same) hl (t.mono le)
    rw [List.mem_append, not_or]
    exact ⟨haF, fun z => ((me a).mp z).2 rfl⟩
end
section
variable {X : Cx} {Γ : Gam} {L : Cells} {R : RD} {e f o : Expr} {pos apos cpos : Pos} {E : En}
/-- a dict that e makes is known for good from now on -/
theorem ev_kn (h : EvX X e Γ L fun d L1 => ∃ (k : Nat) (a : Addr) (ks : List Int) (ds : List D), d = .ref a ∧ L1[k]? = some (a, .dct ks ds) ∧ R (.kdc ks ds) (L1.eraseIdx k)) : EvX X e Γ L R := .mk fun {B0 F H σ ts τ Q} S q pins s I => by
  refine thn (h.run S (Q := fun v H' => ∃ a kvs, v = .ref a ∧ H' a = some (.dK kvs) ∧ ∀ od, Q v (upd H' a (.frz od (.dK kvs)))) (fun v d H' L' ⟨k, a, ks, ds, ed, hk, r⟩ S' => ?_) pins s I) fun u s1 ⟨v, H1, I1, r1, a, kvs, ev, ha, qq⟩ => ?_
  · subst ed
    cases S'.top
    obtain ⟨xs, hx, kn⟩ := S'.known hk
    exact ⟨a, _, rfl, hx, fun od => q _ _ _ _ r ((kn od).1.pop.push (kn od).2)⟩
  · obtain ⟨od, I2⟩ := I1.lock ha trivial
    exact ⟨v, _, I2, r1, qq od⟩
theorem itd_kdc {K : PySem.W.Frag} {F : List Addr} {H1 : Hp} {L1 : Cells} {a : Addr} {o : Obj} {ks : List Int} {xs : List V} (s : vis H1 (F ++ adr L1) a = some (.frz o (.dK (dkv ks xs)))) (hl : ks.length = xs.length) : ItD K F (vis H1 (adr L1)) (Itk a o (dkv ks xs)) (ks.map D.int) where
  go i S hi := ⟨vis_le.frz _ _ _ ((sat_le S).frz _ _ _ s), by rw [dkv_length hl]; simpa using hi⟩
  stop S := ⟨vis_le.frz _ _ _ ((sat_le S).frz _ _ _ s), by rw [dkv_length hl]; simp⟩
  yld i x H' hi S y := by
    obtain ⟨rfl, k, v, hkv, rfl⟩ := y
    unfold dkv at hkv
    rw [List.getElem?_zip_eq_some] at hkv
    obtain ⟨n, hn, e⟩ := map_get hkv.1
    subst e
    exact ⟨.int n, by rw [List.getElem?_map, hn]; rfl, S.push (.int n)⟩
/-- for k in d -/
theorem itx_kdc {tg : Expr} {R : List D → Cells → Prop} (h : EvX X e Γ L fun d L1 => ∃ ks ds, d = .kdc ks ds ∧ R (ks.map D.int) L1) : IterX X tg e Γ L R := .mk fun S q =>
  wi_of (pi_keys pe_w) (h.run S fun v d H1 L1 ⟨ks, ds, ed, r⟩ S1 => by
    subst ed
    cases S1.top with
    | kdc s e t => exact ⟨_, _, rfl, .inl ⟨_, vis_le.frz _ _ _ s, q _ _ _ _ r S1.pop (itd_kdc s e)⟩⟩)
/-- {e: f}, an int key -/
theorem ev_done (h : ∀ p, EvX X e Γ (L ++ [(p, .dct [] [])]) fun k L1 => EvX X f Γ L1 fun d L2 => ∃ (j : Nat) (n : Int), k = .int n ∧ L2[j]? = some (p, .dct [] []) ∧ R (.ref p) (L2.set j (p, .dct [n] [d]))) : EvX X (.Dict [some e] [f] pos) Γ L R := .mk fun S q =>
  we_of (pe_disp (pps_cons pe_w pe_w pps_nil) rfl rfl (by simp) (Nat.le_of_ble_eq_true rfl)) fun p hp => by
    have S0 := S.newC (o := .dK []) (d := .dct [] []) hp fun B le => ⟨[], upd_same, rfl, .nil⟩
    refine (h p).run S0 fun v k H1 L1 h1 S1 => h1.run S1 fun u d H2 L2 ⟨j, n, ek, hj, r⟩ S2 => ?_
    subst ek
    cases S2.pop.top
    obtain ⟨xs, hx, hl, t⟩ := S2.cell hj
    have hxs : xs = [] := List.length_eq_zero_iff.mp hl.symm
    subst hxs
    refine ⟨hx, [(.inl n, u)], rfl, Nat.le_of_ble_eq_true rfl, q _ _ _ _ r ?_⟩
    have S3 := S2.write (o := .dK (mergeK [] [(.inl n, u)])) (d' := .dct [n] [d]) hj ⟨[u], by rw [upd_same]; rfl, rfl, .cons S2.top .nil⟩
    exact S3.pop.pop.push (.ref p)
/-! ### dicts as sets -/
/-- as many truths as keys -/
def tru (ks : List Int) : List D := ks.map fun _ => D.bl true
theorem tru_obs {K : PySem.W.Frag} {B : Hp} : ∀ {ks : List Int} {xs : List V}, ObL K B xs (tru ks) → xs = ks.map fun _ => V.bl true
  | [], _, o => by cases o; rfl
  | k :: ks, _, o => by
    cases o with
    | cons r t =>
      cases r
      rw [tru_obs t]
      rfl
theorem obs_tru {K : PySem.W.Frag} {B : Hp} (ks : List Int) : ObL K B (ks.map fun _ => V.bl true) (tru ks) := obL_of _ _ fun _ _ => .bl true
def tkv (ks : List Int) : List (Key × V) := ks.map fun k => (.inl k, .bl true)
theorem dkv_tkv : ∀ (ks : List Int), dkv ks (ks.map fun _ => V.bl true) = tkv ks
  | [] => rfl
  | k :: ks => by
    show (Sum.inl k, V.bl true) :: dkv ks (ks.map fun _ => V.bl true) = _
    rw [dkv_tkv ks]
    rfl
def addI (ks : List Int) (k : Int) : List Int := if k ∈ ks then ks else ks ++ [k]
def uniI (ks ls : List Int) : List Int := ls.foldl addI ks
theorem valV_tkv {ks : List Int} {k : Int} : (valV (tkv ks) (.inl k)).isSome = decide (k ∈ ks) := by
  rw [← dkv_tkv]
  exact valV_mem (by simp)
theorem putK_tkv (ks : List Int) (k : Int) : putK (tkv ks) (.inl k) (.bl true) = tkv (addI ks k) := by
  unfold addI
  by_cases h : k ∈ ks
  · rw [if_pos h]
    unfold putK
    have : ((tkv ks).any fun kv => decide (kv.1 = Sum.inl k)) = true := by
      rw [List.any_eq_true]
      exact ⟨(.inl k, .bl true), List.mem_map.mpr ⟨k, h, rfl⟩, by simp⟩
    rw [this, if_pos rfl]
    unfold tkv
    rw [List.map_map]
    refine List.map_congr_left fun x _ => ?_
    simp only [Function.comp_apply]
    split <;> rfl
  · rw [if_neg h, putK_new]
    · unfold tkv; rw [List.map_append]; rfl
    · have := valV_tkv (ks := ks) (k := k)
      rw [decide_eq_false h] at this
      exact Option.isNone_iff_eq_none.mp (Option.isSome_eq_false_iff.mp this)
theorem mergeK_tkv : ∀ (ls ks : List Int), mergeK (tkv ks) (tkv ls) = tkv (uniI ks ls)
  | [], _ => rfl
  | l :: ls, ks => by
    show mergeK (putK (tkv ks) (.inl l) (.bl true)) (tkv ls) = _
    rw [putK_tkv, mergeK_tkv ls]
    rfl
theorem dropK_tkv (ks : List Int) (k : Int) : dropK (tkv ks) (.inl k) = tkv (ks.filter fun x => decide (x ≠ k)) := by
  unfold dropK tkv
  rw [List.filter_map]
  congr 1
  refine List.filter_congr fun x _ => ?_
  simp
theorem addI_len (ks : List Int) (k : Int) : (addI ks k).length ≤ ks.length + 1 := by
  unfold addI
  split
  · omega
  · simp
theorem uniI_mem : ∀ (ls ks : List Int) (x : Int), x ∈ uniI ks ls ↔ x ∈ ks ∨ x ∈ ls
  | [], ks, x => by simp [uniI]
  | l :: ls, ks, x => by
    show x ∈ uniI (addI ks l) ls ↔ _
    rw [uniI_mem ls]
    unfold addI
    by_cases h : l ∈ ks
    · rw [if_pos h, List.mem_cons]
      exact ⟨fun z => z.elim .inl fun y => .inr (.inr y), fun z => z.elim .inl fun y => y.elim (fun e => .inl (e ▸ h)) .inr⟩
    · rw [if_neg h, List.mem_append, List.mem_singleton, List.mem_cons, or_assoc]
theorem uniI_nodup : ∀ (ls ks : List Int), ks.Nodup → (uniI ks ls).Nodup
  | [], ks, h => h
  | l :: ls, ks, h => by
    refine uniI_nodup ls (addI ks l) ?_
    unfold addI
    by_cases m : l ∈ ks
    · rw [if_pos m]; exact h
    · rw [if_neg m, List.nodup_append]
      exact ⟨h, by simp, fun a ha b hb e => m (by rw [List.mem_singleton.mp hb] at e; exact e ▸ ha)⟩
def rUpd : V → List V → Hp → VK → Prop := fun x xs H Q => ∃ a b kvs more, x = .ref a ∧ xs = [.ref b] ∧ H a = some (.dK kvs) ∧ Rd H b (.dK more) ∧ a ≠ b ∧ kvs.length + more.length ≤ sizeLine ∧ Q .non (upd H a (.dK (mergeK kvs more)))
theorem mt_update : MtR X "dict.update" rUpd := by
  intro pins s σ H x xs v us Q I rx r h
  obtain ⟨a, b, kvs, more, rfl, rfl, ha, hb, hab, hz, q⟩ := h
  obtain rfl : v = Value.ref a := rx
  obtain ⟨u, rfl, ru⟩ := r.one
  obtain rfl : u = Value.ref b := ru
  obtain ⟨z, hd, vs, rel, dd⟩ := dk_of I.hok ha
  obtain ⟨z2, hd2, ws, rel2, dd2⟩ := dk_rd I.hok hb
  have l1 : kvs.length = vs.length := rel.length
  have l2 : more.length = ws.length := rel2.length
  refine call_meetsIn PySem.F.slot_dict_update dd.typeIs PySem.F.entry_dict_update (PySem.F.args_dict_update_2 _ _) (meets_dict_update (mixKind X.prog X.w) a b hab hd2) ⟨vs, ws, dd, dd2, by omega, fun h' d1 d2 sb => ?_⟩
  have hl : (mergeK kvs more).length ≤ sizeLine := Nat.le_trans (length_mergeK more kvs) hz
  obtain ⟨o, _, _, ho, _⟩ := id d1
  exact ⟨.non, _, d_write (t' := s.toks) I (by rw [ha]; exact True.intro) sb ⟨o, ho⟩ (dk_new hl hd (rel2.merge rel) d1), rfl, q⟩
/-- xs.update(ys): sets -/
theorem st_update (h : EvX X o Γ L fun d L1 => ∃ (k0 : Nat) (a : Addr) (ks0 : List Int), d = .ref a ∧ L1[k0]? = some (a, .dct ks0 (tru ks0)) ∧ EvX X e Γ L1 fun d2 L2 => ∃ (k : Nat) (ks ls : List Int), d2 = .kdc ls (tru ls) ∧ L2[k]? = some (a, .dct ks (tru ks)) ∧ ks.length + ls.length ≤ sizeLine ∧ E.nx Γ (L2.set k (a, .dct (uniI ks ls) (tru (uniI ks ls)))))
    (hbase : attributeBase o "update" X.env (eval o X.env) = eval o X.env := by rfl)
    (hfew : ((backTo pos (starEach [e] X.env)).all (fun x => !x.1) && (backToKw pos (keywordEach [] X.env)).all (fun x => x.1.isSome) && decide (([e] : List Expr).length + ([] : List Keyword).length + (if ([] : List Keyword).isEmpty then 0 else 1) < 30)) = true := by rfl)
    (hline : (apos.endLine == pos.line) = true := by rfl) (hs : starEach [e] X.env = (false, eval e X.env) :: starEach [] X.env := by rfl) (hplain : (backTo pos (starEach [] X.env)).any (·.1) = false := by rfl)
    (hsw : swapsWith (.Call (.Attribute o "update" apos) [e] [] pos) none pos.line X.env = pure false := by rfl) : StX X (.Expr (.Call (.Attribute o "update" apos) [e] [] pos) pos) Γ L E :=
  st_expr (ev_bm F.plainAttrs_dict F.slot_dict_update F.type_dict_update mt_update (.mk fun S q => h.run S fun v d H1 L1 ⟨k0, a, ks0, ed, hk0, h2⟩ S1 => q v d H1 L1 (by
    subst ed
    refine ⟨tyd_dctC hk0, ag_cons (.mk fun S' q' => h2.run S' fun v2 d2 H2 L2 ⟨k, ks, ls, e2, hk, z, r⟩ S2 => q' v2 d2 H2 L2 ?_ S2) hs⟩
    subst e2
    refine ag_nil (.mk fun {B0 F H σ Γ ts vs τ x Q} S5 hl q5 => ?_)
    obtain ⟨o1, o2, S6⟩ := S5.argsM hl
    cases o2
    obtain ⟨v1, rfl, o3⟩ := o1.one
    cases o3 with
    | kdc s es t =>
      have et := tru_obs t
      subst et
      obtain ⟨xs, hx, hxl, tx⟩ := S6.cell hk
      have ex := tru_obs tx
      subst ex
      rw [dkv_tkv] at hx s
      have hs := vis_le.frz _ _ _ s
      refine ⟨a, _, _, _, rfl, rfl, hx, .inr ⟨_, hs⟩, fun z => ?_, by simp [tkv]; exact z, ?_⟩
      · rw [← z, hx] at hs; cases hs
      · rw [mergeK_tkv]
        exact q5 _ _ _ _ r ((S6.write (o := .dK (tkv (uniI ks ls))) (d' := .dct (uniI ks ls) (tru (uniI ks ls))) hk ⟨_, by rw [upd_same, dkv_tkv], by simp, obs_tru _⟩).push .non)) S1) hbase hfew hline hs hplain) hsw
/-- xs.pop(k, None): a set -/
theorem st_dropS (h : EvX X o Γ L fun d L1 => ∃ (k0 : Nat) (a : Addr) (ks0 : List Int), d = .ref a ∧ L1[k0]? = some (a, .dct ks0 (tru ks0)) ∧ EvX X e Γ L1 fun d2 L2 => EvX X f Γ L2 fun d3 L3 => ∃ (k : Nat) (ks : List Int) (n : Int), d2 = .int n ∧ L3[k]? = some (a, .dct ks (tru ks)) ∧ E.nx Γ (L3.set k (a, .dct (ks.filter fun x => decide (x ≠ n)) (tru (ks.filter fun x => decide (x ≠ n))))))
    (m : M2 X o "pop" apos e f pos := by exact ⟨rfl, rfl, rfl, rfl⟩) (hsw : swapsWith (.Call (.Attribute o "pop" apos) [e, f] [] pos) none pos.line X.env = pure false := by rfl) : StX X (.Expr (.Call (.Attribute o "pop" apos) [e, f] [] pos) pos) Γ L E :=
  st_expr (.mk fun {B0 F H σ ts τ Q} S q => we_of (pe_dpop2 pe_w pe_w pe_w m) (h.run S fun v d H1 L1 ⟨k0, a, ks0, ed, hk0, h2⟩ S1 => by
    subst ed
    cases S1.top
    obtain ⟨x0, hx0, _, _⟩ := S1.cell hk0
    refine ⟨a, rfl, .inl ⟨_, .inl hx0⟩, h2.run S1 fun v2 d2 H2 L2 h3 S2 => h3.run S2 fun v3 d3 H3 L3 ⟨k, ks, n, e2, hk, r⟩ S3 => ?_⟩
    subst e2
    cases S3.pop.top
    obtain ⟨xs, hx, hxl, tx⟩ := S3.cell hk
    have ex := tru_obs tx
    subst ex
    rw [dkv_tkv] at hx
    refine ⟨tkv ks, .inl n, hx, rfl, fun w hw => ?_, fun hn => ?_⟩
    · rw [dropK_tkv]
      have hb : w = .bl true := by
        unfold valV at hw
        obtain ⟨p, hp, rfl⟩ := Option.map_eq_some_iff.mp hw
        obtain ⟨k', _, rfl⟩ := List.mem_map.mp (List.mem_of_find?_eq_some hp)
        rfl
      subst hb
      exact q _ _ _ _ r ((S3.write (o := .dK (tkv (ks.filter fun x => decide (x ≠ n)))) (d' := .dct (ks.filter fun x => decide (x ≠ n)) (tru (ks.filter fun x => decide (x ≠ n)))) hk ⟨_, by rw [upd_same, dkv_tkv], by simp, obs_tru _⟩).pop.pop.pop.push (.bl true))
    · have hnm : n ∉ ks := fun z => by
        have := valV_tkv (ks := ks) (k := n)
        rw [hn, decide_eq_true z] at this
        cases this
      have ef : (ks.filter fun x => decide (x ≠ n)) = ks := List.filter_eq_self.mpr fun x hx => decide_eq_true fun e => hnm (e ▸ hx)
      rw [ef] at r
      have el : L3.set k (a, .dct ks (tru ks)) = L3 := by
        refine List.ext_getElem? fun i => ?_
        by_cases hi : k = i
        · subst hi
          rw [List.getElem?_set_self (List.getElem?_eq_some_iff.mp hk).1, hk]
        · rw [List.getElem?_set_ne hi]
      rw [el] at r
      exact q _ _ _ _ r (S3.pop.pop.pop.push S3.top))) hsw
/-- len of a dict -/
theorem call_lenDk : CallR X (.builtin "len") (fun xs H Q => ∃ a kvs, xs = [V.ref a] ∧ Rd H a (.dK kvs) ∧ Q (.int kvs.length) H) := by
  intro pins s σ H xs us Q I r h
  obtain ⟨a, kvs, rfl, e, q⟩ := h
  obtain ⟨u, rfl, rx⟩ := r.one
  cases rx
  exact d_len I e fun t s' I' => ⟨.int kvs.length, H, I', ⟨t, rfl⟩, q⟩
theorem oa_lenD {d : D} {ks : List Int} {ds : List D} (h : IsDct d L ks ds) (r : R (.int ks.length) L) : OpA X.K (fun xs H Q => ∃ a kvs, xs = [V.ref a] ∧ Rd H a (.dK kvs) ∧ Q (.int kvs.length) H) [d] L R := .mk fun {B0 F H σ Γ ts vs τ Q} S hl q => by
  obtain ⟨o, S2⟩ := S.args hl
  obtain ⟨v, rfl, o1⟩ := o.one
  obtain ⟨a, xs, rfl, hx, hl2, _⟩ := h.at S o1
  exact ⟨a, _, rfl, hx, by rw [dkv_length hl2]; exact q _ _ _ _ r (S2.push (.int _))⟩
/-- list of a dict that is known -/
theorem call_list_kn (hc : X.calm = true) : CallR X (.type "list") (fun xs H Q => ∃ p o kvs, xs = [.ref p] ∧ H p = some (.frz o (.dK kvs)) ∧ ∀ q, H q = none → Q (.ref q) (upd H q (.lst (kvs.map fun kv => kV kv.1)))) := by
  intro pins s σ H xs us Q I r h
  obtain ⟨p, o, kvs, rfl, hk, q⟩ := h
  obtain ⟨u, rfl, rx⟩ := r.one
  obtain rfl : u = Value.ref p := rx
  obtain ⟨lo, _, _, _, ep, vs, _, _, rk, hat⟩ := I.frzK hk
  obtain ⟨z, _⟩ := dk_rd I.hok (.inr ⟨o, hk⟩)
  have hl : kvs.length = vs.length := Paired.length rk
  refine PySem.W.kdl_call (PySem.W.kdl_dict (knd := mixKind X.prog X.w) (kvs := vs) (ep := ep) lo) (I.ok.hd hc) hat (by rw [← hl]; exact z) fun h' tk acc c' keep hS hacc => ?_
  have e0 : (kvs.map fun kv => kV kv.1) = (kvs.map (·.1)).map kV := by rw [List.map_map]; rfl
  refine ⟨.ref s.heap.objs.size, _, I.laid (t' := tk) (o := .lst (kvs.map fun kv => kV kv.1)) keep (Nat.le_refl _) ⟨by rw [List.length_map]; exact z, acc.toList, c', ?_, by rw [Array.toArray_toList]; exact hS⟩, rfl, q _ (I.hok.fresh (Nat.le_refl _))⟩
  refine vals_of_at (by rw [List.length_map, Array.length_toList (xs := acc), hacc.1, hl]) fun j x w h1 h2 => ?_
  obtain ⟨k, y, hky, hi⟩ := hacc.2 j w (by rw [← Array.getElem?_toList]; exact h2)
  have e1 : (kvs.map (·.1))[j]? = some k := by
    rw [KV.keys rk, List.getElem?_map, hky]
    rfl
  rw [e0, List.getElem?_map, e1] at h1
  cases h1
  exact keyIs_rel hi
theorem oa_listK {ks : List Int} {ds : List D} (r : ∀ p, R (.ref p) (L ++ [(p, .lst (dints ks))])) : OpA X.K (fun xs H Q => ∃ p o kvs, xs = [.ref p] ∧ H p = some (.frz o (.dK kvs)) ∧ ∀ q, H q = none → Q (.ref q) (upd H q (.lst (kvs.map fun kv => kV kv.1)))) [.kdc ks ds] L R := .mk fun {B0 F H σ Γ ts vs τ Q} S hl q => by
  obtain ⟨o, S2⟩ := S.args hl
  obtain ⟨v, rfl, o1⟩ := o.one
  cases o1 with
  | @kdc a ob _ xs _ s e t =>
    refine ⟨a, ob, _, rfl, vis_le.frz _ _ _ s, fun p hp => ?_⟩
    have ek : ((dkv ks xs).map fun kv => kV kv.1) = ks.map V.int := by
      unfold dkv
      have : ((ks.map Sum.inl).zip xs).map (fun kv : Key × V => kV kv.1) = (((ks.map (Sum.inl : Int → Key)).zip xs).map (·.1)).map kV := by rw [List.map_map]; rfl
      rw [this, List.map_fst_zip (by simp [e]), List.map_map]
      rfl
    rw [ek]
    exact q _ _ _ _ (r p) ((S2.newC (o := .lst (ks.map V.int)) (d := .lst (dints ks)) hp fun B le => ⟨_, upd_same, obL_ints ks⟩).push (.ref p))
theorem ev_neg (h : EvX X e Γ L fun d L1 => ∃ i, d = .int i ∧ R (.int (-i)) L1) : EvX X (.UnaryOp .USub e pos) Γ L R := .mk fun S q =>
  we_of (pe_un un_neg pe_w) (h.run S fun v d H1 L1 ⟨i, ed, r⟩ S1 => by
    subst ed
    cases S1.top
    exact ⟨i, rfl, q _ _ _ _ r (S1.pop.push (.int _))⟩)
end
end DL
set_option maxRecDepth 100000
set_option maxHeartbeats 4000000
/-! DLJ: letters. -/
namespace DL
open PySem PySem.Spec PyProof.Rows L2
section
variable {X : Cx} {Γ : Gam} {L : Cells} {R : RD} {e f o : Expr} {pos apos cpos : Pos} {E : En} {K : PySem.W.Frag}
/-- the letters of a text -/
def lets (x : Str) : List D := x.cps.toList.map fun c => .str ⟨#[c]⟩
theorem lets_length (x : Str) : (lets x).length = x.cps.size := by simp [lets]
theorem itd_str {K : PySem.W.Frag} {F : List Addr} {B : Hp} {x : Str} : ItD K F B (Its x) (lets x) where
  go := fun {H σ Γ ts τ L} i S hi => by rw [lets_length] at hi; exact hi
  stop := fun {H σ Γ ts τ L} S => by rw [lets_length]; exact Nat.le_refl _
  yld := fun {H σ Γ ts τ L} i v H' hi S y => by
    obtain ⟨rfl, c, hc, rfl⟩ := y
    refine ⟨.str ⟨#[c]⟩, ?_, S.push (.str _)⟩
    have : x.cps.toList[i]? = some c := by simpa using hc
    rw [lets, List.getElem?_map, this]
    rfl
/-- for c in text -/
theorem itx_str {tg : Expr} {R : List D → Cells → Prop} (h : EvX X e Γ L fun d L1 => ∃ x, d = .str x ∧ R (lets x) L1) : IterX X tg e Γ L R := .mk fun S q =>
  wi_of (pi_str pe_w) (h.run S fun v d H1 L1 ⟨x, ed, r⟩ S1 => by
    subst ed
    cases S1.top
    exact ⟨x, rfl, q _ _ _ _ r S1.pop itd_str⟩)
theorem oa_lenStr {z : Str} (hz : z.length ≤ sizeLine) (r : R (.int z.length) L) : OpA K (fun xs H Q => ∃ z, xs = [V.str z] ∧ z.length ≤ sizeLine ∧ Q (.int z.length) H) [.str z] L R := .mk fun {B0 F H σ Γ ts vs τ Q} S hl q => by
  match vs, hl with
  | [v], _ =>
    have S' : Sat K B0 F H σ Γ (v :: ts) (.str z :: τ) L := S
    cases S'.top
    exact ⟨z, rfl, hz, q _ _ _ _ r (S'.pop.push (.int _))⟩
theorem o2_leStr {x y : Str} (r : R (.bl (!decide (y.cps.toList < x.cps.toList))) L) : Op2 K (fun x y H Q => ∃ i j, x = .str i ∧ y = .str j ∧ Q (.bl (!decide (j.cps.toList < i.cps.toList))) H) (.str x) (.str y) L R := .mk fun {B0 F H σ Γ ts τ u v Q} S q => by
  obtain ⟨o1, o2, S2⟩ := S.two
  cases o1
  cases o2
  exact ⟨x, y, rfl, rfl, q _ _ _ _ r (S2.push (.bl _))⟩
end
end DL
set_option maxRecDepth 100000
set_option maxHeartbeats 4000000
/-! DLK: set of a list of ints. -/
namespace DL
open PySem PySem.Spec PyProof.Rows L2
section
variable {P : Program} {w : World} {A : Around} {E : Value → Shared → Prop} {s : Shared}
/-- a set that was just made -/
abbrev fset (w : World) : Obj := { cls := .type "set", dict := none, data := .set #[] 0 (.fresh 0 0 (!w.params.followText "set-order")) }
abbrev wfs (w : World) (s : Shared) : Shared := { s with heap := s.heap.push (fset w) }
/-- what set.__init__ does -/
def SIni (w : World) (s : Shared) (ns : List Int) (s2 : Shared) : Prop := ∃ h2 tk c, s2 = { s with heap := h2, toks := tk } ∧ SetR w h2 s.heap.objs.size (fun j => decide (j ∈ ns)) c ∧ c ≤ ns.length ∧ ∀ b o, s.heap.get? b = some o → h2.get? b = some o
theorem fs_at : (s.heap.push (fset w)).get? s.heap.objs.size = some (fset w) := Heap.get?_push_size _ rfl
theorem fs_ty : Shared.TypeIs (wfs w s) (.ref s.heap.objs.size) "set" := ⟨_, fs_at, rfl⟩
set_option maxHeartbeats 8000000 in
theorem set_of_list {l : Addr} {its : Array Value} {ns : List Int} {Q : Value → Shared → Prop} (hh : A.handled = none) (hl : s.heap.IsList l its) (hi : IntsAre its.toList ns) (hb : ns.length + 1 < scanBound)
    (q : ∀ s2, SIni w s ns s2 → Q (.ref s.heap.objs.size) s2) : wpAny (model P w) A (call (.type "set") [.ref l]) Q E s := by
  have hz : its.size = ns.length := by have := IntsAre.length hi; rwa [Array.length_toList] at this
  obtain ⟨c0, tl0, m0⟩ := PySem.F.called_set.mro
  have m1 := PySem.F.called_set.made
  have m2 := PySem.F.called_set.sub
  refine wpAny_call (codeAny_of_tree ?_)
  show wpAny _ _ (callAny (.type "set") _) _ _ _
  refine wpAny_pure ⟨Code.quiet_builtin _ (by decide +kernel), codeAny_builtin PySem.F.entry_type_call ?_⟩
  rw [Around.under_plain (weight_type_call_type "set" [.ref l] []) rfl]
  have m3 := PySem.F.called_set.notType
  have m4 := PySem.F.called_set.canCreate
  have m5 := PySem.F.typeCall_set_1 (.ref l)
  repeat (any_goals (first | assumption | wp_step))
  refine codeAny_mono (code_set_led1 (.ref l) (E := E) (Q₁ := fun u s1 => u = .ref s.heap.objs.size ∧ s1 = wfs w s) ⟨rfl, rfl⟩) fun r s1 hr => ?_
  match r, hr with
  | .error e, hr => exact hr
  | .ok (.ret u), hr =>
    obtain ⟨rfl, rfl⟩ := hr
    have k1 := fs_at (w := w) (s := s)
    have k2 := fs_ty (w := w) (s := s)
    have k3 := PySem.F.called_set.init.lookup
    have k4 := PySem.F.called_set.init.bind (.ref s.heap.objs.size)
    repeat (any_goals (first | assumption | wp_step))
    refine codeAny_mono (codeAny_call_builtin (R := wants (fun r s2 => r = .none ∧ SIni w s ns s2) E) PySem.F.called_set.init.plain PySem.F.entry_set_init (check_set_init_1 k2 ?_)) fun r2 s2 hr2 => ?_
    · obtain ⟨⟨oc, od, dd, os0⟩, ho, e1, n1, e2⟩ := hl
      simp only at e1 e2
      subst e1
      subst e2
      have g1 : (s.heap.push (fset w)).get? l = some { cls := .type "list", dict := od, data := .seq its n1, slots := os0 } := Heap.get?_push_of_some _ ho
      have g2 : (s.heap.push (fset w)).IsList l its := ⟨_, g1, rfl, n1, rfl⟩
      have j1 := PySem.F.sub_list_set
      have j2 := PySem.F.sub_list_frozenset
      have j3 : (Value.type "list" == Value.type "dict") = false := by decide
      unfold Builtin.«set.__init__» noKeywords Builtin.Frozenset.updateFrom
      generalize hG : pyIter = G
      wp_walk
      subst hG
      refine wpAny_pyIter_list g2 (wpAny_bind (wpAny_runValue ?_))
      have lt1 : l < s.heap.objs.size := Heap.lt_size ho
      have ne1 : l ≠ (s.heap.push (fset w)).objs.size := by rw [Heap.size_push]; exact Nat.ne_of_lt (Nat.lt_succ_of_lt lt1)
      have ne2 : s.heap.objs.size ∉ [(s.heap.push (fset w)).objs.size, l] := by
        rw [Heap.size_push]
        simp only [List.mem_cons, List.not_mem_nil, or_false, not_or]
        exact ⟨Nat.ne_of_lt (Nat.lt_succ_self _), Nat.ne_of_gt lt1⟩
      refine set_update_ints ((Walks.list (by simp [hh]) _ l ne1 its).toS) s.heap.objs.size ne2 ns hz hb (fun i v hv => ?_) (its.size - 0) 0 _ (by omega) (Nat.zero_le _) ⟨⟨_, Heap.get?_push_size _ rfl, rfl, rfl⟩, g2.push _⟩ ⟨0, Nat.le_refl 0, setR_new_at (Heap.get?_push_of_some _ k1)⟩ fun s' c mv hc hS => ?_
      · have hlt := (Array.getElem?_eq_some_iff.mp hv).1
        rw [hz] at hlt
        obtain ⟨t, e⟩ := PyProof.Rows.IntsAre.int_at hi i v (by rw [Array.getElem?_toList]; exact hv)
        refine ⟨ns[i], t, List.getElem?_eq_getElem hlt, ?_⟩
        rw [e, List.getD_eq_getElem?_getD, List.getElem?_eq_getElem hlt] <;> rfl
      · obtain ⟨h2, gg, dr, tk, os⟩ := s'
        have q1 : gg = s.gens := mv.gens
        have q2 : dr = s.drawn := mv.drawn
        have q3 : os = s.os := mv.os
        subst q1 q2 q3
        show wpAny _ _ _ _ _ _
        refine wpAny_pure ?_
        show wpAny _ _ (ret Value.none) _ _ _
        rw [hz] at hc
        refine wpAny_pure ⟨rfl, h2, tk, c, rfl, hS, hc, fun b o e => ?_⟩
        have lt2 : b < s.heap.objs.size := Heap.lt_size e
        refine mv.heap b o ?_ (Heap.get?_push_of_some _ (Heap.get?_push_of_some _ e))
        rw [Heap.size_push]
        simp only [List.mem_cons, List.not_mem_nil, or_false, not_or]
        exact ⟨Nat.ne_of_lt lt2, Nat.ne_of_lt (Nat.lt_succ_of_lt lt2)⟩
    · match r2, hr2 with
      | .error e, hr2 => exact hr2
      | .ok (.ret u), hr2 =>
        obtain ⟨rfl, hq⟩ := hr2
        repeat (any_goals (first | assumption | wp_step))
        exact q _ hq
end
theorem setR_is {w : World} {h : Heap} {a : Addr} {ns : List Int} {c : Nat} (R : SetR w h a (fun j => decide (j ∈ ns)) c) : SetIs ns (fun j => decide (j ∈ ns)) c := by
  obtain ⟨o, es, ep, t, _, _, _, _, nd, hk, _, _, hs, _⟩ := R
  refine ⟨es.toList.map keyOf, nd, ?_, fun j => ?_, fun j => ?_⟩
  · rw [List.length_map, Array.length_toList, hs]
  · exact decide_eq_decide.mpr (by rw [← hk j, decide_eq_true_eq])
  · rw [← hk j, decide_eq_true_eq]
section
variable {X : Cx} {Γ : Gam} {L : Cells} {R : RD} {e f o : Expr} {pos apos cpos : Pos} {E : En}
/-- set(list of ints) -/
theorem call_setI (hc : X.calm = true) : CallR X (.type "set") (fun xs H Q => ∃ (p : Addr) (ns : List Int), xs = [.ref p] ∧ SqL X.K H p (ns.map V.int) ∧ ns.length + 1 < scanBound ∧
    ∀ (a : Addr) (S : Int → Bool) (n : Nat), H a = none → SetIs ns S n → Q (.ref a) (upd H a (siO X.w a S n))) := by
  intro pins s σ H vs us Q I r h
  obtain ⟨p, ns, rfl, hs, hb, q⟩ := h
  rw [Vals.ref1 r]
  obtain ⟨its, rv, ⟨⟨cls, dd, data, sl⟩, n, ho, hc1, hdn, hd⟩, hlen⟩ := I.list hs
  simp only at hc1 hd
  subst hc1 hd
  have hi := ints_of_vals rv
  refine set_of_list (I.ok.hd hc) ⟨_, ho, rfl, n, rfl⟩ (by simpa using hi) hb fun s2 ⟨h2, tk, c, e, hS, hcl, k⟩ => ?_
  subst e
  have hn := I.hok.fresh (Nat.le_refl s.heap.objs.size)
  refine ⟨.ref _, upd H s.heap.objs.size (siO X.w s.heap.objs.size (fun j => decide (j ∈ ns)) c), I.laid (t' := tk) (fun b u e => k b u e) (Nat.le_refl _) (siO_ok hS), rfl, q _ _ _ hn (setR_is hS)⟩
theorem oa_setI {d : D} {l : List Int} (h : d = .lst (dints l)) (hb : l.length + 1 < scanBound) (r : ∀ p S n, SetIs l S n → R (.ref p) (L ++ [(p, siD X.w S n)])) : OpA X.K (fun xs H Q => ∃ (p : Addr) (ns : List Int), xs = [.ref p] ∧ SqL X.K H p (ns.map V.int) ∧ ns.length + 1 < scanBound ∧
    ∀ (a : Addr) (S : Int → Bool) (n : Nat), H a = none → SetIs ns S n → Q (.ref a) (upd H a (siO X.w a S n))) [d] L R := .mk fun {B0 F H σ Γ ts vs τ Q} S hl q => by
  subst h
  match vs, hl with
  | [v], _ =>
    have S' : Sat X.K B0 F H σ Γ (v :: ts) (.lst (dints l) :: τ) L := S
    obtain ⟨p, rfl, xs, s, t⟩ : ∃ p, v = .ref p ∧ ∃ xs, SqL X.K (vis H (F ++ adr L)) p xs ∧ ObL X.K (vis H (F ++ adr L)) xs (dints l) := by
      cases S'.top with
      | lst s t => exact ⟨_, rfl, _, s, t⟩
    have := t.toInts
    subst this
    refine ⟨p, l, rfl, vis_le.sqL s, hb, fun a S0 n hn hS => ?_⟩
    exact q _ _ _ _ (r a S0 n hS) (((S'.pop.newC hn (o := siO X.w a S0 n) (d := siD X.w S0 n) fun B le => ⟨[], upd_same, trivial, .nil⟩)).push (.ref a))
/-- sorted(set of ints) -/
theorem oa_sortI {k : Nat} {a : Addr} {S : Int → Bool} {n : Nat} {l : List Int} (hk : L[k]? = some (a, siD X.w S n)) (hs : SetIs l S n) (hn : n < 64) (r : ∀ (p : Addr) (ns : List Int), ns.Pairwise (· < ·) → (∀ j, j ∈ ns ↔ j ∈ l) → R (.ref p) (L ++ [(p, .lst (dints ns))])) :
    OpA X.K (rSortedSet X.w) [.ref a] L R := .mk fun {B0 F H σ Γ ts vs τ Q} T hl q => by
  obtain ⟨o, S2⟩ := T.args hl
  obtain ⟨v, rfl, o1⟩ := o.one
  cases o1
  obtain ⟨xs, hx, _, _⟩ := T.cell hk
  refine ⟨a, S, n, rfl, hx, hn, fun ns p hp hm hln hno => ?_⟩
  have hm2 : ∀ j, j ∈ ns ↔ j ∈ l := fun j => by
    obtain ⟨acc, _, _, hS, ha⟩ := hs.ex
    rw [hm, hS, decide_eq_true_eq, ha]
  exact q _ _ _ _ (r p ns hp hm2) ((S2.newC hno (o := .lst _) (d := .lst (dints ns)) fun B le => ⟨_, upd_same, obL_ints ns⟩).push (.ref p))
end
end DL
set_option maxRecDepth 100000
set_option maxHeartbeats 4000000
/-! DLL: methods of own objects, classmethods, len of an instance, empty dicts. -/
namespace DL
open PySem PySem.Spec PyProof.Rows L2
section
variable {X : Cx} {Γ : Gam} {L : Cells} {R : RD} {e f o : Expr} {es : List Expr} {pos apos cpos : Pos} {E : En}
/-- a method of an object of one's own -/
theorem ev_methC {α : Type} {args : α → List D} {cells : α → Cells} {post : α → RD} {k : Nat} {f C : Addr} {fd : FuncData} {ps : List Str} {m : Str} {apos : Pos} {pl : Sem Bool} (c : Cls X.K C) (hm : Meth X.K C m f)
    (G : FnOk X.prog X.w X.K X.mg X.base CX0 k f fd ps (spD X.K args cells post)) (hr : Room k X.A) (hb : Binds X.K fd ps [])
    (h : EvX X o Γ L fun d0 L0 => ∃ (j : Nat) (a : Addr) (ns : List Str) (ds0 : List D), d0 = .ref a ∧ L0[j]? = some (a, .ins C ns ds0) ∧ m ∉ ns ∧ AgX X (e :: es) Γ L0 fun ds L1 => ∃ x Lk, d0 :: ds = args x ∧ L1.Perm (cells x ++ Lk) ∧ ∀ d L', post x d L' → R d (L' ++ Lk))
    (hst : starEach (e :: es) X.env = (false, eval e X.env) :: starEach es X.env := by rfl) (hpl : (backTo pos (starEach es X.env)).any (·.1) = false := by rfl)
    (ht : eval (.Call (.Attribute o m apos) (e :: es) [] pos) X.env = (do
      let ov ← eval o X.env
      standAt apos.atName
      let (f, first) ← holding [ov] (getMethod ov m pl)
      callWith pos f first (backTo pos (starEach (e :: es) X.env)) (backToKw pos (keywordEach [] X.env))) := by rfl) :
    EvX X (.Call (.Attribute o m apos) (e :: es) [] pos) Γ L R := .mk fun S q =>
  we_of (pe_meth (E := E0) (pl := pl) pe_w c hm G hr hb .nil pass0 pa_w hst hpl ht) (h.run S fun v0 d0 H0 L0 ⟨j, a0, ns, ds0, ed, hj, hn, h1⟩ S0 => by
    subst ed
    cases S0.top
    obtain ⟨dx0, xs0, hx, hl0, t0⟩ := S0.cell hj
    refine ⟨a0, dx0, _, rfl, hx, lookup_none_zip hn, h1.run S0 fun vs ds H1 L1 ⟨x, Lk, e1, e2, r⟩ hl1 S1 => ?_⟩
    have S2 : Sat X.K _ _ H1 _ Γ ((V.ref a0 :: vs) ++ _) ((D.ref a0 :: ds) ++ _) L1 := ⟨S1.base, S1.fo, S1.nd, S1.cells, S1.len, S1.slots, ObL.swap hl1 S1.temps⟩
    have hl2 : (V.ref a0 :: vs).length = (D.ref a0 :: ds).length := by simp [hl1]
    rw [e1] at S2 hl2
    refine ⟨x, _, _, by simp only [List.append_nil]; exact hl2, by rw [List.append_nil]; exact S2.into hl2 e2, fun d L' v H' σ Γ' hq S3 => ?_⟩
    exact q v d H' _ (r d L' hq) ((S2.args hl2).2.back e2 S3))
/-- a classmethod -/
theorem ev_cmeth {α : Type} {args : α → List D} {post : α → RD} {k : Nat} {g C p : Addr} {mc : Value} {fd : FuncData} {ps : List Str} {m : Str} {apos : Pos} {pl : Sem Bool} (c : ClX.CRead X.K C mc) (hm : ClX.CMet X.K C mc m p g)
    (G : FnOk X.prog X.w X.K X.mg X.base CX0 k g fd ps (spD X.K args (fun _ => []) post)) (hr : Room k X.A) (hb : Binds X.K fd ps [])
    (h : EvX X o Γ L fun d0 L0 => d0 = .ref C ∧ AgX X (e :: es) Γ L0 fun ds L1 => ∃ x, D.ref C :: ds = args x ∧ ∀ d L', post x d L' → R d (L' ++ L1))
    (hst : starEach (e :: es) X.env = (false, eval e X.env) :: starEach es X.env := by rfl) (hpl : (backTo pos (starEach es X.env)).any (·.1) = false := by rfl)
    (ht : eval (.Call (.Attribute o m apos) (e :: es) [] pos) X.env = (do
      let ov ← eval o X.env
      standAt apos.atName
      let (f, first) ← holding [ov] (getMethod ov m pl)
      callWith pos f first (backTo pos (starEach (e :: es) X.env)) (backToKw pos (keywordEach [] X.env))) := by rfl) :
    EvX X (.Call (.Attribute o m apos) (e :: es) [] pos) Γ L R := .mk fun S q =>
  we_of (ClX.pe_cmeth (E := E0) (pl := pl) pe_w c hm (FnOk.raw G hb .nil) hr pass0 pa_w hst hpl ht) (h.run S fun v0 d0 H0 L0 ⟨ed, h1⟩ S0 => by
    subst ed
    cases S0.top
    refine ⟨rfl, h1.run S0 fun vs ds H1 L1 ⟨x, e1, r⟩ hl1 S1 => ?_⟩
    have S2 : Sat X.K _ _ H1 _ Γ ((V.ref C :: vs) ++ _) ((D.ref C :: ds) ++ _) L1 := ⟨S1.base, S1.fo, S1.nd, S1.cells, S1.len, S1.slots, ObL.swap hl1 S1.temps⟩
    have hl2 : (V.ref C :: vs).length = (D.ref C :: ds).length := by simp [hl1]
    rw [e1] at S2 hl2
    have e2 : L1.Perm ([] ++ L1) := .refl _
    refine ⟨x, _, _, by simp only [List.append_nil]; exact hl2, by rw [List.append_nil]; exact S2.into hl2 e2, fun d L' v H' σ Γ' hq S3 => ?_⟩
    exact q v d H' _ (r d L' hq) ((S2.args hl2).2.back e2 S3))
/-- len of an instance -/
def rLenO (C : Addr) (sp : Sp) : List V → Hp → VK → Prop := fun xs H Q => ∃ (a dx : Addr) (fs : List (Str × V)), xs = [V.ref a] ∧ H a = some (.ins C dx fs) ∧ sp [.ref a] H (fun v H' => ∃ n : Nat, v = .int n ∧ n < 2 ^ 62 ∧ Q (.int n) H') E0
theorem call_lenO {sp : Sp} {k : Nat} {g C : Addr} {fd : FuncData} {ps : List Str} (G : FnOk X.prog X.w X.K X.mg X.base CX0 k g fd ps sp) (hr : Room (k + 1) X.A) (hb : Binds X.K fd ps [])
    (hs : PySem.W.findIn X.K (.ref C) "__len__" = some (some (.ref g))) (hf : PySem.W.isFn X.K (.ref g) = true) : CallR X (.builtin "len") (rLenO C sp) := by
  intro pins s σ H xs us Q I r h
  obtain ⟨a, dx, fs, rfl, ha, hsp⟩ := h
  rw [Vals.ref1 r]
  obtain ⟨mA, J, _⟩ := ins_get I.hok ha
  obtain ⟨od, J, _⟩ := J.look
  refine Calls.call_function_entry kind_len plain_len entry_len (args_len1 _) ?_
  unfold Builtin.«len»
  refine wpAny_bind (m := oneArg "len" _) (wpAny_pure ?_)
  have e0 : Env0 X.prog X.w X.K X.mg X.base X.A.in1 X.stack s H := by
    have e := I.env0
    exact ⟨e.frames, e.mod, e.bs, e.bsz, e.funs, e.frf, e.hok, e.bare⟩
  have hl := G.len _ _ _ _ hsp
  have r2 : Vals [V.ref a] [Value.ref a] := .cons rfl .nil
  refine wpAny_bind (m := callSpecial? (.ref a) (Str.ofString "__len__")) (PySem.W.special_fn I.kIn J hs (beq_iff_eq.mp hf) ?_)
  refine wpAny_call (codeAny_mono (G.run X.A.in1 X.stack s H ⟨[.ref a], []⟩ [.ref a] [.ref a] _ E0 hr.in1 e0 (by
    have := hb s [.ref a] I.kIn (by simpa using hl)
    simpa using this) r2 hsp) fun r s' hq => ?_)
  cases r with
  | error e => exact pass0 pins σ H s e s' I hq
  | ok fl =>
    cases fl with
    | ret u =>
      obtain ⟨z, H', I', rz, n, ez, hn, q⟩ := I.after hq
      subst ez
      obtain ⟨t, rfl⟩ := rz
      show wpAny _ _ _ _ _ _
      refine wpAny_bind (wpAny_holding (wpAny_pure ?_))
      refine wpAny_bind (wpAny_letGo ?_)
      show wpAny _ _ (if (n : Int) < 0 then _ else _) _ _ _
      rw [if_neg (by omega)]
      show wpAny _ _ (if (n : Int) ≥ 2 ^ 63 then _ else _) _ _ _
      rw [if_neg (by omega)]
      exact wpAny_bind (wpAny_mkInt (wpAny_pure ⟨_, rfl, .int n, H', I'.tok _, ⟨_, rfl⟩, q⟩))
    | next => exact False.elim hq
    | brk => exact False.elim hq
    | cont => exact False.elim hq
/-- e == {}, both empty; e != {} -/
def rNeE : R2 := fun x y H Q => ∃ a b, x = V.ref a ∧ y = V.ref b ∧ Rd H a (.dK []) ∧ Rd H b (.dK []) ∧ Q (.bl false) H
theorem op_neE (hu : X.A.units < cLine) : OpR X (compareOp .NotEq) rNeE := by
  intro pins s σ H x y v u Q I rx ry h
  obtain ⟨a, b, rfl, rfl, ea, eb, q⟩ := h
  obtain rfl : v = Value.ref a := rx
  obtain rfl : u = Value.ref b := ry
  obtain ⟨_, ya, va, ra, da⟩ := dk_rd I.hok ea
  obtain ⟨_, yb, vb, rb, db⟩ := dk_rd I.hok eb
  cases ra
  cases rb
  exact PySem.W.keq_ne (knd := mixKind X.prog X.w) (r := true) ya yb da db hu (fun _ => .nil) (fin_bl I q (by simp))
theorem o2_neE {d1 d2 : D} (h1 : IsDct d1 L [] []) (h2 : IsDct d2 L [] []) (r : R (.bl false) L) : Op2 X.K rNeE d1 d2 L R := .mk fun {B0 F H σ Γ ts τ x y Q} S q => by
  obtain ⟨o1, o2, S2⟩ := S.two
  obtain ⟨a, xs, rfl, hx, hl, _⟩ := h1.at S2 o1
  obtain ⟨b, ys, rfl, hy, hl2, _⟩ := h2.at S2 o2
  exact ⟨a, b, rfl, rfl, hx, hy, q _ _ _ _ r (S2.push (.bl false))⟩
end
end DL
set_option maxRecDepth 100000
set_option maxHeartbeats 4000000
/-! DLM: sorted ints, tests with in, enumerate of a tuple. -/
namespace DL
open PySem PySem.Spec PyProof.Rows L2
section
variable {X : Cx} {Γ : Gam} {L : Cells} {R : RD} {e f o : Expr} {es : List Expr} {pos apos cpos : Pos} {E : En} {K : PySem.W.Frag}
theorem oa_sorted {d : D} {l : List Int} (h : d = .lst (dints l)) (hn : l.length < 64) (r : ∀ (p : Addr) (l' : List Int), l'.Perm l → l'.Pairwise (· ≤ ·) → R (.ref p) (L ++ [(p, .lst (dints l'))])) : OpA K (rSorted K) [d] L R := .mk fun {B0 F H σ Γ ts vs τ Q} S hl q => by
  subst h
  match vs, hl with
  | [v], _ =>
    have S' : Sat K B0 F H σ Γ (v :: ts) (.lst (dints l) :: τ) L := S
    obtain ⟨p, rfl, xs, s, t⟩ : ∃ p, v = .ref p ∧ ∃ xs, SqL K (vis H (F ++ adr L)) p xs ∧ ObL K (vis H (F ++ adr L)) xs (dints l) := by
      cases S'.top with
      | lst s t => exact ⟨_, rfl, _, s, t⟩
    have := t.toInts
    subst this
    refine ⟨p, l, rfl, vis_le.sqL s, hn, fun l' a hp hs hno => ?_⟩
    exact q _ _ _ _ (r a l' hp hs) ((S'.pop.newC hno (o := .lst _) (d := .lst (dints l')) fun B le => ⟨_, upd_same, obL_ints l'⟩).push (.ref a))
end
end DL
set_option maxRecDepth 100000
set_option maxHeartbeats 4000000
/-! DLN: enumerate of a tuple. -/
namespace DL
open PySem PySem.Spec PyProof.Rows L2
/-- enumerate.__new__ over a tuple -/
theorem enum_newT (l : Addr) (its : Array Value) (n : Nat) (od : Option Addr) (sl : Array (Option Value)) :
    Meets (Builtin.«enumerate.__new__» ⟨[.type "enumerate", .ref l], []⟩) fun _ R s => s.heap.get? l = some { cls := .type "tuple", dict := od, data := .seq its n, slots := sl } ∧
      R (.ok (.ret (.ref (s.heap.objs.size + 1)))) { s with heap := (s.heap.push { cls := .type "tuple_iterator", data := .fields #[.ref l, .int 0 0] }).push { cls := .type "enumerate", data := .fields #[.none, .bool false, .ref s.heap.objs.size, rawInt 0, .none, .none] } } :=
  .of_wp fun P w A R s h => by
    obtain ⟨hp, g, d, tk, os⟩ := s
    obtain ⟨hl, h⟩ := h
    have k1 := sub_enumerate
    have k2 : Heap.IsTuple (Shared.heap ⟨hp, g, d, tk, os⟩) l its := ⟨_, hl, rfl, n, rfl⟩
    have h : R (.ok (.ret (.ref (hp.push { cls := .type "tuple_iterator", data := .fields #[.ref l, .int 0 0] }).objs.size))) ⟨(hp.push { cls := .type "tuple_iterator", data := .fields #[.ref l, .int 0 0] }).push { cls := .type "enumerate", data := .fields #[.none, .bool false, .ref hp.objs.size, rawInt 0, .none, .none] }, g, d, tk, os⟩ := by
      rw [show (hp.push { cls := .type "tuple_iterator", data := .fields #[.ref l, .int 0 0] }).objs.size = hp.objs.size + 1 from Heap.size_push ..]
      exact h
    wp_walk using AutoSeq1.wpAny_loadPart' hl
    refine wpAny_stack_any fun st => wpAny_pure ?_
    split
    · rename_i c _ _ _ _ _
      cases (c == Value.type "enumerate") <;> (wp_walk using AutoSeq1.wpAny_loadPart' hl, wpAny_pyIter_tuple k2; exact ⟨_, rfl, h⟩)
    · wp_walk using AutoSeq1.wpAny_loadPart' hl, wpAny_pyIter_tuple k2
      exact ⟨_, rfl, h⟩
section
variable {P : Program} {w : World} {A : Around} {E : Value → Shared → Prop} {s : Shared}
theorem enum_tup {l : Addr} {its : Array Value} {Q : Value → Shared → Prop} (hL : s.heap.IsTuple l its)
    (q : ∀ h', IsEnum h' (s.heap.objs.size + 1) s.heap.objs.size 0 .none → h'.IsTupleIter s.heap.objs.size l 0 → (∀ b o, s.heap.get? b = some o → h'.get? b = some o) → Q (.ref (s.heap.objs.size + 1)) { s with heap := h' }) :
    wpAny (model P w) A (call (.type "enumerate") [.ref l]) Q E s := by
  obtain ⟨⟨oc, od, dd, sl⟩, ho, e1, n, e2⟩ := hL
  simp only at e1 e2
  subst e1 e2
  refine callType_new F.called_enumerate (by decide) (F.typeCall_enumerate_1 _) (F.newCall_enumerate_1 _) (fun obj => F.args_object_init_2 obj _) F.entry_enumerate_new (enum_newT l its n od sl) ⟨ho, ?_⟩
  have z : (s.heap.push { cls := .type "tuple_iterator", data := .fields #[.ref l, .int 0 0] }).objs.size = s.heap.objs.size + 1 := Heap.size_push ..
  have he : IsEnum ((s.heap.push { cls := .type "tuple_iterator", data := .fields #[.ref l, .int 0 0] }).push { cls := .type "enumerate", data := .fields #[.none, .bool false, .ref s.heap.objs.size, rawInt 0, .none, .none] }) (s.heap.objs.size + 1) s.heap.objs.size 0 .none := by
    have e := Heap.get?_push_size (s.heap.push { cls := .type "tuple_iterator", data := .fields #[.ref l, .int 0 0] }) (o := { cls := .type "enumerate", data := .fields #[.none, .bool false, .ref s.heap.objs.size, rawInt 0, .none, .none] }) rfl
    rwa [z] at e
  exact ⟨⟨_, he, rfl⟩, q _ he ⟨_, Heap.get?_push_of_some _ (Heap.get?_push_size _ rfl), rfl, rfl⟩ fun b o x => Heap.get?_push_of_some _ (Heap.get?_push_of_some _ x)⟩
theorem enum_endT {e it l : Addr} {i : Nat} {k : Int} {its : Array Value} {old : Value} {Q : Option Value → Shared → Prop} (hh : A.handled = none) (he : IsEnum s.heap e it k old) (hit : s.heap.IsTupleIter it l i) (hl : s.heap.IsTuple l its) (hx : its[i]? = none)
    (q : ∀ h', Heap.ExtBut it s.heap h' → Q none { s with heap := h' }) : wpAny (model P w) A (pyNext (.ref e)) Q E s := by
  have ty : s.TypeIs (.ref e) "enumerate" := ⟨_, he, rfl⟩
  unfold pyNext
  refine wpAny_bind (wpAny_attempt (wpAny_callSpecial?_slot (name := Str.ofString "__next__") ty F.slot_enumerate_next (wpAny_call_entry F.slot_enumerate_next ty F.entry_enumerate_next ?_ (F.args_enumerate_next_1 _))))
  show wpAny _ _ (field (.ref e) 2 >>= _) _ _ _
  refine wpAny_bind (wpAny_field he rfl (x := .ref it) rfl (wpAny_bind (wpAny_nextOf_tuple_end (A := A.in1) hh hit hl hx fun h' x eb ⟨o, ho, hc⟩ => ?_)))
  exact wpAny_bind (wpAny_isInstance (T := "StopIteration") (b := true) ⟨o, ho, hc⟩ isSubtype_stop (wpAny_pure (q _ eb)))
end
theorem turn_tupE {P : Program} {w : World} {K : PySem.W.Frag} {elts : List Expr} {kk : Nat} {tpos : Pos} (a e it : Addr) :
    Turn P w K (.Tuple elts kk tpos) (IteT K a) [e, it] e (fun i h => (∃ old, IsEnum h e it ((i : Nat) : Int) old) ∧ h.IsTupleIter it a i ∧ e ≠ it ∧ a ≠ it ∧ e ≠ a) where
  mem := by simp
  obj := by
    rintro i h ⟨⟨old, he⟩, ⟨o, ho, hc, hd⟩, _⟩ b hb
    simp only [List.mem_cons, List.not_mem_nil, or_false] at hb
    rcases hb with rfl | rfl
    · exact ⟨_, he, fun v q => nomatch q⟩
    · exact ⟨o, ho, fun v q => by rw [hd] at q; cases q⟩
  keep := by
    rintro i h h' ⟨⟨old, he⟩, hi, n⟩ k
    exact ⟨⟨old, k e (by simp) _ he⟩, hi.at fun o q => k it (by simp) o q, n⟩
  item := by
    intro X hP hw hK hc i pins s σ H E I hf st hg
    subst hP hw hK
    obtain ⟨⟨old, he⟩, hit, n1, n2, n3⟩ := st
    obtain ⟨xs, x, hq, hx⟩ := hg
    obtain ⟨its, rv, p, hz⟩ := I.tuple hq
    obtain ⟨u, hu, ru⟩ := rv.get hx
    have hlt := (List.getElem?_eq_some_iff.mp hu).1
    have l1 : e < s.heap.objs.size := Heap.lt_size he
    have l2 : it < s.heap.objs.size := by obtain ⟨_, q, _⟩ := hit; exact Heap.lt_size q
    refine wpAny_pyNext_enum_itemD (Draws.tuple (prog := X.prog) (w := X.w) (A := X.A.in1) (I.ok.hd hc) it a n2 its.toArray) he ⟨hit, p⟩ (by simpa using hlt) n1 (by simp [n1, n3]) fun y h' tk hy ho st' hT hsz hk => ?_
    have ey : y = u := by
      have hy2 : its[i]? = some y := by simpa using hy
      rw [hu] at hy2
      exact (Option.some.inj hy2).symm
    subst ey
    refine ⟨_, rfl, wpAny_letOwnedTupleGo_enum (s := { s with heap := h', toks := tk + 1 }) ho fun h2 he2 sb => ?_⟩
    have hT2 : h2.get? s.heap.objs.size = some { cls := .type "tuple", data := .seq #[.int i tk, y] } := (sb.2 _ (Nat.ne_of_gt l1)).trans hT
    have new : ObjOk X.prog X.w (upd H s.heap.objs.size (.tup [.int (i : Nat), x])) h2 s.heap.objs.size (.tup [.int (i : Nat), x]) :=
      ⟨by show 2 ≤ sizeLine; decide, [.int i tk, y], .cons ⟨_, rfl⟩ (.cons ru .nil), ⟨_, hT2, rfl, _, rfl⟩⟩
    have I1 : Inv X pins σ (upd H s.heap.objs.size (.tup [.int (i : Nat), x])) { s with heap := h2, toks := tk + 1 } :=
      I.turnedNew (ch := [e, it]) (fun b ob hb q => (sb.2 b (fun z => hb (by simp [z]))).trans (hk b ob (fun z => hb (by simp [z])) (fun z => hb (by simp [z])) q)) hf (Nat.le_refl _) new
    refine ⟨.ref s.heap.objs.size, _, I1, rfl, ⟨_, x, rfl, I.hok.fresh (Nat.le_refl _), rfl, fun ys hy => by rw [I.tuple_inj hy hq]; exact hx⟩, ⟨⟨y, ?_⟩, st'.1.at fun o q => (sb.2 it (Ne.symm n1)).trans q, n1, n2, n3⟩, fun b hb => ?_⟩
    · rw [show ((i + 1 : Nat) : Int) = (i : Int) + 1 by omega]
      exact he2
    · have hb' : b < s.heap.objs.size := by
        simp only [List.mem_cons, List.not_mem_nil, or_false] at hb
        rcases hb with rfl | rfl
        · exact l1
        · exact l2
      rw [upd_ne (Nat.ne_of_lt hb')]
      exact (hf b hb).1
  done := by
    intro X hP hw hK hc i pins s σ H E I hf st hg
    subst hP hw hK
    obtain ⟨⟨old, he⟩, hit, n1, n2, n3⟩ := st
    obtain ⟨xs, hq, hx⟩ := hg
    obtain ⟨its, rv, p, hz⟩ := I.tuple hq
    obtain ⟨f0, f1, f2, f3, f4, f5⟩ := hf it (by simp)
    have hl := rv.length
    exact enum_endT (I.ok.hd hc) he hit p (by simp; omega) fun h' eb => ⟨rfl, I.turned (t' := s.toks) (fun b o hb q => eb b o hb q) f0 f1 f3 f4 f5⟩
  self := fun A i s Q E st h => let ⟨⟨_, he⟩, _⟩ := st; wpAny_pyIter_enum he h
section
variable {X : Cx} {Γ : Gam} {L : Cells} {R : RD} {e f o : Expr} {es : List Expr} {pos apos cpos : Pos} {E : En} {K : PySem.W.Frag}
def iEnumT (K : PySem.W.Frag) (ta : TA) : TI := fun σ H R => ta σ H fun vs H1 => ∃ a xs, vs = [V.ref a] ∧ SqT K H1 a xs ∧ R (IteT K a) H1
theorem pi_enumT {ta : TA} {p tpos : Pos} {elts : List Expr} {kk : Nat} (hg : Gl X "enumerate") (hm : X.mg "enumerate" = none) (ha : PA X [e] ta) (hs : starEach [e] X.env = [(false, eval e X.env)] := by rfl) :
    PI X (.Tuple elts kk tpos) (.Call (.Name "enumerate" p) [e] [] pos) (iEnumT X.K ta) := by
  refine ⟨fun pins s σ H R I h => ?_⟩
  refine Call_ (ld_blt I hg hm boot_enumerate (PyProof.Rows.callWith_type1 (thn (ha.run pos pins s σ H _ I h) fun us s1 ⟨vs, H1, I1, r1, a, xs, ex, hq, q⟩ => ?_) hs rfl))
  subst ex
  rw [Vals.ref1 r1]
  obtain ⟨its, rv, p', hz⟩ := I1.tuple hq
  have la : a < s1.heap.objs.size := by obtain ⟨_, q, _⟩ := id p'; exact Heap.lt_size q
  refine enum_tup p' fun h' he hit k => wpAny_pyIter_enum he ?_
  have I2 : Inv X pins σ H1 { s1 with heap := h' } := I1.kept (t' := s1.toks) k
  refine ⟨s1.heap.objs.size + 1, [s1.heap.objs.size + 1, s1.heap.objs.size], _, _, H1, rfl, I2, turn_tupE a (s1.heap.objs.size + 1) s1.heap.objs.size, ⟨⟨.none, he⟩, hit, Nat.succ_ne_self _, Nat.ne_of_lt la, Nat.ne_of_gt (Nat.lt_succ_of_lt la)⟩, fun b hb => ?_, q⟩
  have le : s1.heap.objs.size ≤ b := by
    simp only [List.mem_cons, List.not_mem_nil, or_false] at hb
    rcases hb with rfl | rfl
    · exact Nat.le_add_right _ _
    · exact Nat.le_refl _
  exact I1.fpOk le (I1.hok.fresh le)
theorem itx_enumT {elts : List Expr} {kk : Nat} {tpos p : Pos} {R : List D → Cells → Prop} (hm : X.mg "enumerate" = none) (h : AgX X [e] Γ L fun ds L1 => ∃ es, ds = [.tup es] ∧ R (enumD es) L1) (hg : Gl X "enumerate" := by rfl) (hs : starEach [e] X.env = [(false, eval e X.env)] := by rfl) :
    IterX X (.Tuple elts kk tpos) (.Call (.Name "enumerate" p) [e] [] pos) Γ L R := .mk fun S q =>
  wi_of (pi_enumT hg hm pa_w hs) (h.run S fun vs ds H1 L1 ⟨es, ed, r⟩ hl S1 => by
    subst ed
    obtain ⟨o, S2⟩ := S1.args hl
    obtain ⟨v, rfl, o1⟩ := o.one
    cases o1 with
    | tup s t => exact ⟨_, _, rfl, vis_le.sqT s, q _ _ _ _ r S2 (itd_enumT s t)⟩)
/-- addresses of one's own differ -/
theorem bl_nd {sts : List Stmt} (h : (adr L).Nodup → BlX X sts Γ L E) : BlX X sts Γ L E := .mk fun S ok => (h S.nd).run S ok
theorem st_nd {st : Stmt} (h : (adr L).Nodup → StX X st Γ L E) : StX X st Γ L E := .mk fun S ok => (h S.nd).run S ok
theorem ev_nd (h : (adr L).Nodup → EvX X e Γ L R) : EvX X e Γ L R := .mk fun S q => (h S.nd).run S q
/-- tuple(list of one's own) -/
theorem oa_tupC {k : Nat} {a : Addr} {ds : List D} (hk : L[k]? = some (a, .lst ds)) (r : R (.tup ds) L) : OpA K (fun xs H Q => ∃ p ys, xs = [V.ref p] ∧ ((SqL K H p ys ∧ ∀ l, H l = none → Q (.ref l) (upd H l (.tup ys))) ∨ (SqT K H p ys ∧ Q (.ref p) H))) [.ref a] L R := .mk fun {B0 F H σ Γ ts vs τ Q} S hl q => by
  obtain ⟨o, S2⟩ := S.args hl
  obtain ⟨v, rfl, o1⟩ := o.one
  cases o1
  obtain ⟨xs, hx, t⟩ := S2.cell hk
  refine ⟨a, xs, rfl, .inl ⟨SqL.of hx, fun l hl => ?_⟩⟩
  obtain ⟨S3, le, hn⟩ := S2.newB hl
  exact q _ _ _ _ r (S3.push (.tup (SqT.of hn) (t.mono le)))
/-- d.setdefault(n, v), int keys -/
theorem ev_dsetd (h : EvX X o Γ L fun d1 L1 => ∃ (j1 : Nat) (c : Addr) (ks1 : List Int) (ds1 : List D), d1 = .ref c ∧ L1[j1]? = some (c, .dct ks1 ds1) ∧ EvX X e Γ L1 fun k L2 => EvX X f Γ L2 fun d L3 => ∃ (j : Nat) (n : Int) (ks : List Int) (ds : List D), k = .int n ∧ L3[j]? = some (c, .dct ks ds) ∧ ks.length < sizeLine ∧
      (∀ d', dlook n ks ds = some d' → R d' L3) ∧ (dlook n ks ds = none → R d (L3.set j (c, .dct (ks ++ [n]) (ds ++ [d]))))) (m : M2 X o "setdefault" apos e f cpos := by exact ⟨rfl, rfl, rfl, rfl⟩) :
    EvX X (.Call (.Attribute o "setdefault" apos) [e, f] [] cpos) Γ L R := .mk fun S q =>
  we_of (pe_dsetd pe_w pe_w pe_w m) (h.run S fun v1 d1 H1 L1 ⟨j1, c, ks1, ds1, e1, hj1, h1⟩ S1 => by
    subst e1
    cases S1.top
    obtain ⟨xs1, hx1, _, _⟩ := S1.cell hj1
    refine ⟨c, rfl, .inl ⟨_, .inl hx1⟩, h1.run S1 fun v2 k H2 L2 h2 S2 => h2.run S2 fun v d H3 L3 ⟨j, n, ks, ds, ek, hj, z, r1, r2⟩ S3 => ?_⟩
    subst ek
    obtain ⟨o1, o2, S4⟩ := S3.two
    cases o1
    obtain ⟨xs, hx, hl, t⟩ := S4.cell hj
    refine ⟨_, .inl n, hx, rfl, by rw [dkv_length hl]; exact z, fun v' hv' => ?_, fun hn => ?_⟩
    · cases e : dlook n ks ds with
      | none =>
        rw [(valV_dkv (k := n) hl t).2 e] at hv'
        cases hv'
      | some d' =>
        obtain ⟨u, e1, ob⟩ := (valV_dkv (k := n) hl t).1 d' e
        rw [e1] at hv'
        cases hv'
        exact q _ _ _ _ (r1 d' e) (S4.pop.push ob)
    · have e : dlook n ks ds = none := by
        cases e : dlook n ks ds with
        | none => rfl
        | some d' =>
          obtain ⟨u, e1, _⟩ := (valV_dkv (k := n) hl t).1 d' e
          rw [e1] at hn
          cases hn
      have S5 := S3.write hj (o := .dK (putK (dkv ks xs) (.inl n) v)) (d' := .dct (ks ++ [n]) (ds ++ [d])) ⟨xs ++ [v], by rw [upd_same, putK_new v hn, dkv_snoc hl], by simp [hl], t.append (.cons S3.top .nil)⟩
      exact q _ _ _ _ (r2 e) (S5.pop.pop.pop.push S5.top))
/-- the values of a dict that is known -/
theorem itd_vals {K : PySem.W.Frag} {F : List Addr} {H1 : Hp} {L1 : Cells} {a : Addr} {o : Obj} {ks : List Int} {xs : List V} {ds : List D} (s : vis H1 (F ++ adr L1) a = some (.frz o (.dK (dkv ks xs)))) (hl : ks.length = xs.length) (t : ObL K (vis H1 (F ++ adr L1)) xs ds) : ItD K F (vis H1 (adr L1)) (Itd a o (dkv ks xs)) ds where
  go := fun {H σ Γ ts τ L} i S hi => ⟨vis_le.frz _ _ _ ((sat_le S).frz _ _ _ s), by rw [dkv_length hl, hl, t.length]; exact hi⟩
  stop := fun {H σ Γ ts τ L} S => ⟨vis_le.frz _ _ _ ((sat_le S).frz _ _ _ s), by rw [dkv_length hl, hl, t.length]; exact Nat.le_refl _⟩
  yld := fun {H σ Γ ts τ L} i x H' hi S y => by
    obtain ⟨rfl, k, hkv⟩ := y
    unfold dkv at hkv
    rw [List.getElem?_zip_eq_some] at hkv
    obtain ⟨d, hd, ob⟩ := t.get' hkv.2
    exact ⟨d, hd, S.push (ob.mono (sat_le S))⟩
theorem itx_vals {tg : Expr} {R : List D → Cells → Prop} (h : EvX X e Γ L fun d L1 => ∃ ks ds, d = .kdc ks ds ∧ R ds L1) (hb : attributeBase e "values" X.env (eval e X.env) = eval e X.env := by rfl) (hline : (apos.endLine == cpos.line) = true := by rfl) :
    IterX X tg (.Call (.Attribute e "values" apos) [] [] cpos) Γ L R := .mk fun S q =>
  wi_of (pi_values pe_w hb hline) (h.run S fun v d H1 L1 ⟨ks, ds, ed, r⟩ S1 => by
    subst ed
    cases S1.top with
    | kdc s e t => exact ⟨_, _, _, rfl, vis_le.frz _ _ _ s, q _ _ _ _ r S1.pop (itd_vals s e t)⟩)
end
end DL
set_option maxRecDepth 100000
set_option maxHeartbeats 4000000
/-! DLO: stars in displays; own objects dropped. -/
namespace DL
open PySem PySem.Spec PyProof.Rows L2
section
variable {X : Cx} {Γ : Gam} {L : Cells} {R : RD} {e f o : Expr} {es : List Expr} {pos apos cpos p : Pos} {E : En} {K : PySem.W.Frag}
theorem ag_star {R : List D → Cells → Prop} (h : EvX X e Γ L fun d L1 => ∃ ds0, (d = .tup ds0 ∨ d = .lst ds0) ∧ AgX X es Γ L1 fun ds L2 => R (ds0 ++ ds) L2) (hs : starEach (.Starred e p :: es) X.env = (true, eval e X.env) :: starEach es X.env := by rfl) : AgX X (.Starred e p :: es) Γ L R := .mk fun S q =>
  wa_of (StX.pa_star pe_w pa_w hs) (h.run S fun v d H1 L1 ⟨ds0, ed, h1⟩ S1 => by
    obtain ⟨a, xs, rfl, hx, t⟩ : ∃ a xs, v = .ref a ∧ (SqT X.K H1 a xs ∨ SqL X.K H1 a xs) ∧ ObL X.K _ xs ds0 := by
      rcases ed with rfl | rfl
      · cases S1.top with
        | tup s t => exact ⟨_, _, rfl, .inl (vis_le.sqT s), t⟩
      · cases S1.top with
        | lst s t => exact ⟨_, _, rfl, .inr (vis_le.sqL s), t⟩
    have S2 : Sat X.K _ _ H1 _ Γ (xs ++ _) (ds0 ++ _) L1 := ⟨S1.base, S1.fo, S1.nd, S1.cells, S1.len, S1.slots, t.append S1.pop.temps⟩
    refine ⟨a, xs, rfl, hx, h1.run S2 fun vs ds H2 L2 r hl S3 => ?_⟩
    obtain ⟨o1, S4⟩ := S3.args hl
    obtain ⟨o2, S5⟩ := S4.args t.length
    refine q (xs ++ vs) (ds0 ++ ds) H2 L2 r (by rw [List.length_append, List.length_append, hl, t.length]) ?_
    exact ⟨S5.base, S5.fo, S5.nd, S5.cells, S5.len, S5.slots, (o2.append o1).append S5.temps⟩)
theorem te_gone {R : Bool → Cells → Prop} (h : TeX X e Γ L fun k _ => R k []) : TeX X e Γ L R := .mk fun S q => h.run S fun k H' L' r S' => q k H' [] r S'.gone
theorem ev_gone (h : EvX X e Γ L fun d _ => R d []) : EvX X e Γ L R := .mk fun S q => h.run S fun v d H' L' r S' => q v d H' [] r S'.gone
theorem bl_gone {sts : List Stmt} (h : BlX X sts Γ [] E) : BlX X sts Γ L E := .mk fun S ok => h.run S.gone ok
end
end DL
set_option maxRecDepth 100000
set_option maxHeartbeats 4000000
/-! K0: the text by places, the slots of each def, what the top leaves. (Printed by gen0.py.) -/
namespace K50
open PySem PySem.Spec PyProof.Rows L2 DL
def top (i : Nat) : Stmt := PySem.Challenge.pw_sharedlets_k50_whole_parts_of_alike_grap.main.body.getD i (.Pass ⟨0, 0, 0, 0⟩)
/-- a def as it stands: its name, qualified name, statement -/
structure Dg (K : PySem.W.Frag) (x qual : Str) (st : Stmt) where
  f : Addr
  fd : FuncData
  F : FunD K x qual (defArgs st) (defBody st) (defScope st) [] [] f fd
/-- a def of the top -/
structure Df (K : PySem.W.Frag) (mg : Str → Option Value) (x : Str) (st : Stmt) extends Dg K x x st where
  g : mg x = some (.ref f)
abbrev s_is_integer : Stmt := top 10
abbrev N_is_integer : List Str := ["value"]
abbrev P_is_integer : List Str := ["value"]
theorem sc_is_integer : FnScope N_is_integer P_is_integer (defScope s_is_integer) := ⟨rfl, rfl, rfl, by decide +kernel, rfl, by decide +kernel, by decide +kernel⟩
abbrev s_is_between : Stmt := top 11
abbrev N_is_between : List Str := ["value", "low", "high"]
abbrev P_is_between : List Str := ["value", "low", "high"]
theorem sc_is_between : FnScope N_is_between P_is_between (defScope s_is_between) := ⟨rfl, rfl, rfl, by decide +kernel, rfl, by decide +kernel, by decide +kernel⟩
abbrev s_is_name : Stmt := top 12
abbrev N_is_name : List Str := ["value", "letter"]
abbrev P_is_name : List Str := ["value"]
theorem sc_is_name : FnScope N_is_name P_is_name (defScope s_is_name) := ⟨rfl, rfl, rfl, by decide +kernel, rfl, by decide +kernel, by decide +kernel⟩
abbrev s_is_node_form : Stmt := top 19
abbrev N_is_node_form : List Str := ["value", "total", "child"]
abbrev P_is_node_form : List Str := ["value", "total"]
theorem sc_is_node_form : FnScope N_is_node_form P_is_node_form (defScope s_is_node_form) := ⟨rfl, rfl, rfl, by decide +kernel, rfl, by decide +kernel, by decide +kernel⟩
abbrev s_are_nodes : Stmt := top 20
abbrev N_are_nodes : List Str := ["value", "owners", "node", "owner"]
abbrev P_are_nodes : List Str := ["value"]
theorem sc_are_nodes : FnScope N_are_nodes P_are_nodes (defScope s_are_nodes) := ⟨rfl, rfl, rfl, by decide +kernel, rfl, by decide +kernel, by decide +kernel⟩
abbrev s_children_of : Stmt := top 21
abbrev N_children_of : List Str := ["node"]
abbrev P_children_of : List Str := ["node"]
theorem sc_children_of : FnScope N_children_of P_children_of (defScope s_children_of) := ⟨rfl, rfl, rfl, by decide +kernel, rfl, by decide +kernel, by decide +kernel⟩
abbrev s_first_walk : Stmt := top 22
abbrev N_first_walk : List Str := ["nodes", "starts", "found", "known", "waiting", "node"]
abbrev P_first_walk : List Str := ["nodes", "starts"]
theorem sc_first_walk : FnScope N_first_walk P_first_walk (defScope s_first_walk) := ⟨rfl, rfl, rfl, by decide +kernel, rfl, by decide +kernel, by decide +kernel⟩
abbrev s_renumbered : Stmt := top 23
abbrev N_renumbered : List Str := ["nodes", "order", "node", "numbers", "found", "old", "number", "child"]
abbrev P_renumbered : List Str := ["nodes", "order"]
theorem sc_renumbered : FnScope N_renumbered P_renumbered (defScope s_renumbered) := ⟨rfl, rfl, rfl, by decide +kernel, rfl, by decide +kernel, by decide +kernel⟩
abbrev s_needs_now : Stmt := top 24
abbrev N_needs_now : List Str := ["nodes", "found", "number", "node", "needed", "child"]
abbrev P_needs_now : List Str := ["nodes", "found", "number"]
theorem sc_needs_now : FnScope N_needs_now P_needs_now (defScope s_needs_now) := ⟨rfl, rfl, rfl, by decide +kernel, rfl, by decide +kernel, by decide +kernel⟩
abbrev s_needs_of_nodes : Stmt := top 25
abbrev N_needs_of_nodes : List Str := ["nodes", "found", "changes", "number", "needed", "node"]
abbrev P_needs_of_nodes : List Str := ["nodes"]
theorem sc_needs_of_nodes : FnScope N_needs_of_nodes P_needs_of_nodes (defScope s_needs_of_nodes) := ⟨rfl, rfl, rfl, by decide +kernel, rfl, by decide +kernel, by decide +kernel⟩
abbrev s_innermost_in : Stmt := top 26
abbrev N_innermost_in : List Str := ["needs", "node", "one", "other"]
abbrev P_innermost_in : List Str := ["needs", "node"]
theorem sc_innermost_in : FnScope N_innermost_in P_innermost_in (defScope s_innermost_in) := ⟨rfl, rfl, rfl, by decide +kernel, rfl, by decide +kernel, by decide +kernel⟩
abbrev s_scope_in : Stmt := top 27
abbrev N_scope_in : List Str := ["needs", "node", "found", "one"]
abbrev P_scope_in : List Str := ["needs", "node"]
theorem sc_scope_in : FnScope N_scope_in P_scope_in (defScope s_scope_in) := ⟨rfl, rfl, rfl, by decide +kernel, rfl, by decide +kernel, by decide +kernel⟩
abbrev s_require_node : Stmt := top 28
abbrev N_require_node : List Str := ["graph", "node"]
abbrev P_require_node : List Str := ["graph", "node"]
theorem sc_require_node : FnScope N_require_node P_require_node (defScope s_require_node) := ⟨rfl, rfl, rfl, by decide +kernel, rfl, by decide +kernel, by decide +kernel⟩
abbrev s_checked_nodes : Stmt := top 30
abbrev N_checked_nodes : List Str := ["nodes", "found", "order"]
abbrev P_checked_nodes : List Str := ["nodes"]
theorem sc_checked_nodes : FnScope N_checked_nodes P_checked_nodes (defScope s_checked_nodes) := ⟨rfl, rfl, rfl, by decide +kernel, rfl, by decide +kernel, by decide +kernel⟩
abbrev s_graph_in : Stmt := top 33
abbrev N_graph_in : List Str := ["nodes"]
abbrev P_graph_in : List Str := ["nodes"]
theorem sc_graph_in : FnScope N_graph_in P_graph_in (defScope s_graph_in) := ⟨rfl, rfl, rfl, by decide +kernel, rfl, by decide +kernel, by decide +kernel⟩
abbrev s_require_graph : Stmt := top 34
abbrev N_require_graph : List Str := ["graph"]
abbrev P_require_graph : List Str := ["graph"]
theorem sc_require_graph : FnScope N_require_graph P_require_graph (defScope s_require_graph) := ⟨rfl, rfl, rfl, by decide +kernel, rfl, by decide +kernel, by decide +kernel⟩
abbrev s_numbered : Stmt := top 36
abbrev N_numbered : List Str := ["rows", "known", "row"]
abbrev P_numbered : List Str := ["rows"]
theorem sc_numbered : FnScope N_numbered P_numbered (defScope s_numbered) := ⟨rfl, rfl, rfl, by decide +kernel, rfl, by decide +kernel, by decide +kernel⟩
abbrev s_look_of : Stmt := top 37
abbrev N_look_of : List Str := ["node"]
abbrev P_look_of : List Str := ["node"]
theorem sc_look_of : FnScope N_look_of P_look_of (defScope s_look_of) := ⟨rfl, rfl, rfl, by decide +kernel, rfl, by decide +kernel, by decide +kernel⟩
abbrev s_classes_of : Stmt := top 38
abbrev N_classes_of : List Str := ["nodes", "scopes", "node", "marks", "total", "rows", "number", "others", "other"]
abbrev P_classes_of : List Str := ["nodes", "scopes"]
theorem sc_classes_of : FnScope N_classes_of P_classes_of (defScope s_classes_of) := ⟨rfl, rfl, rfl, by decide +kernel, rfl, by decide +kernel, by decide +kernel⟩
abbrev s_groups_of : Stmt := top 39
abbrev N_groups_of : List Str := ["marks", "found", "number", "mark", "group"]
abbrev P_groups_of : List Str := ["marks"]
theorem sc_groups_of : FnScope N_groups_of P_groups_of (defScope s_groups_of) := ⟨rfl, rfl, rfl, by decide +kernel, rfl, by decide +kernel, by decide +kernel⟩
abbrev s_merged_nodes : Stmt := top 40
abbrev N_merged_nodes : List Str := ["nodes", "marks", "found", "mark", "group", "node", "child"]
abbrev P_merged_nodes : List Str := ["nodes", "marks"]
theorem sc_merged_nodes : FnScope N_merged_nodes P_merged_nodes (defScope s_merged_nodes) := ⟨rfl, rfl, rfl, by decide +kernel, rfl, by decide +kernel, by decide +kernel⟩
abbrev s_quotient_in : Stmt := top 41
abbrev N_quotient_in : List Str := ["graph", "marks"]
abbrev P_quotient_in : List Str := ["graph", "marks"]
theorem sc_quotient_in : FnScope N_quotient_in P_quotient_in (defScope s_quotient_in) := ⟨rfl, rfl, rfl, by decide +kernel, rfl, by decide +kernel, by decide +kernel⟩
abbrev s_spot_of : Stmt := top 43
abbrev N_spot_of : List Str := ["graph", "node"]
abbrev P_spot_of : List Str := ["graph", "node"]
theorem sc_spot_of : FnScope N_spot_of P_spot_of (defScope s_spot_of) := ⟨rfl, rfl, rfl, by decide +kernel, rfl, by decide +kernel, by decide +kernel⟩
abbrev s_below_spot : Stmt := top 44
abbrev N_below_spot : List Str := ["graph", "spot", "node", "held", "child"]
abbrev P_below_spot : List Str := ["graph", "spot"]
theorem sc_below_spot : FnScope N_below_spot P_below_spot (defScope s_below_spot) := ⟨rfl, rfl, rfl, by decide +kernel, rfl, by decide +kernel, by decide +kernel⟩
abbrev s_inner_scope : Stmt := top 45
abbrev N_inner_scope : List Str := ["graph", "spot", "node", "held", "function"]
abbrev P_inner_scope : List Str := ["graph", "spot"]
theorem sc_inner_scope : FnScope N_inner_scope P_inner_scope (defScope s_inner_scope) := ⟨rfl, rfl, rfl, by decide +kernel, rfl, by decide +kernel, by decide +kernel⟩
abbrev s_is_open : Stmt := top 46
abbrev N_is_open : List Str := ["graph", "spot", "node", "held"]
abbrev P_is_open : List Str := ["graph", "spot"]
theorem sc_is_open : FnScope N_is_open P_is_open (defScope s_is_open) := ⟨rfl, rfl, rfl, by decide +kernel, rfl, by decide +kernel, by decide +kernel⟩
abbrev s_look_of_spot : Stmt := top 47
abbrev N_look_of_spot : List Str := ["graph", "spot"]
abbrev P_look_of_spot : List Str := ["graph", "spot"]
theorem sc_look_of_spot : FnScope N_look_of_spot P_look_of_spot (defScope s_look_of_spot) := ⟨rfl, rfl, rfl, by decide +kernel, rfl, by decide +kernel, by decide +kernel⟩
abbrev s_met_spots : Stmt := top 48
abbrev N_met_spots : List Str := ["graph", "node", "other", "root", "start", "found", "waiting", "one", "two", "pair"]
abbrev P_met_spots : List Str := ["graph", "node", "other", "root"]
theorem sc_met_spots : FnScope N_met_spots P_met_spots (defScope s_met_spots) := ⟨rfl, rfl, rfl, by decide +kernel, rfl, by decide +kernel, by decide +kernel⟩
abbrev s_open_pairs : Stmt := top 49
abbrev N_open_pairs : List Str := ["graph", "other", "pairs", "met", "one", "two"]
abbrev P_open_pairs : List Str := ["graph", "other", "pairs"]
theorem sc_open_pairs : FnScope N_open_pairs P_open_pairs (defScope s_open_pairs) := ⟨rfl, rfl, rfl, by decide +kernel, rfl, by decide +kernel, by decide +kernel⟩
abbrev s_change_between : Stmt := top 50
abbrev N_change_between : List Str := ["graph", "node", "other", "root", "pairs", "found", "place", "pair"]
abbrev P_change_between : List Str := ["graph", "node", "other", "root"]
theorem sc_change_between : FnScope N_change_between P_change_between (defScope s_change_between) := ⟨rfl, rfl, rfl, by decide +kernel, rfl, by decide +kernel, by decide +kernel⟩
abbrev s_same_part : Stmt := top 51
abbrev N_same_part : List Str := ["graph", "node", "other", "found"]
abbrev P_same_part : List Str := ["graph", "node", "other"]
theorem sc_same_part : FnScope N_same_part P_same_part (defScope s_same_part) := ⟨rfl, rfl, rfl, by decide +kernel, rfl, by decide +kernel, by decide +kernel⟩
abbrev s_part_classes : Stmt := top 52
abbrev N_part_classes : List Str := ["graph", "found", "group", "node", "one"]
abbrev P_part_classes : List Str := ["graph"]
theorem sc_part_classes : FnScope N_part_classes P_part_classes (defScope s_part_classes) := ⟨rfl, rfl, rfl, by decide +kernel, rfl, by decide +kernel, by decide +kernel⟩
abbrev s_places_of : Stmt := top 53
abbrev N_places_of : List Str := ["graph", "other", "closed", "node"]
abbrev P_places_of : List Str := ["graph", "other"]
theorem sc_places_of : FnScope N_places_of P_places_of (defScope s_places_of) := ⟨rfl, rfl, rfl, by decide +kernel, rfl, by decide +kernel, by decide +kernel⟩
abbrev s_classes_in : Stmt := top 55
abbrev N_classes_in : List Str := ["graph"]
abbrev P_classes_in : List Str := ["graph"]
theorem sc_classes_in : FnScope N_classes_in P_classes_in (defScope s_classes_in) := ⟨rfl, rfl, rfl, by decide +kernel, rfl, by decide +kernel, by decide +kernel⟩
abbrev s_least_in : Stmt := top 56
abbrev N_least_in : List Str := ["graph"]
abbrev P_least_in : List Str := ["graph"]
theorem sc_least_in : FnScope N_least_in P_least_in (defScope s_least_in) := ⟨rfl, rfl, rfl, by decide +kernel, rfl, by decide +kernel, by decide +kernel⟩
abbrev s_classes : Stmt := top 57
abbrev N_classes : List Str := ["graph"]
abbrev P_classes : List Str := ["graph"]
theorem sc_classes : FnScope N_classes P_classes (defScope s_classes) := ⟨rfl, rfl, rfl, by decide +kernel, rfl, by decide +kernel, by decide +kernel⟩
abbrev s_least : Stmt := top 58
abbrev N_least : List Str := ["graph"]
abbrev P_least : List Str := ["graph"]
theorem sc_least : FnScope N_least P_least (defScope s_least) := ⟨rfl, rfl, rfl, by decide +kernel, rfl, by decide +kernel, by decide +kernel⟩
abbrev s_law_stream : Stmt := top 60
abbrev N_law_stream : List Str := ["_law_script", "_law_at", "_law_cell", "_law_great", "_law_mixed"]
abbrev P_law_stream : List Str := ["_law_script", "_law_at"]
theorem sc_law_stream : FnScope N_law_stream P_law_stream (defScope s_law_stream) := ⟨rfl, rfl, rfl, by decide +kernel, rfl, by decide +kernel, by decide +kernel⟩
abbrev s_law_draw : Stmt := top 61
abbrev N_law_draw : List Str := ["_law_stream_here", "_law_high", "_law_found", "_law_one", "_law_two"]
abbrev P_law_draw : List Str := ["_law_stream_here", "_law_high"]
theorem sc_law_draw : FnScope N_law_draw P_law_draw (defScope s_law_draw) := ⟨rfl, rfl, rfl, by decide +kernel, rfl, by decide +kernel, by decide +kernel⟩
abbrev s_law_pick : Stmt := top 62
abbrev N_law_pick : List Str := ["_law_stream_here", "_law_items"]
abbrev P_law_pick : List Str := ["_law_stream_here", "_law_items"]
theorem sc_law_pick : FnScope N_law_pick P_law_pick (defScope s_law_pick) := ⟨rfl, rfl, rfl, by decide +kernel, rfl, by decide +kernel, by decide +kernel⟩
abbrev s_law_below : Stmt := top 63
abbrev N_law_below : List Str := ["_law_node"]
abbrev P_law_below : List Str := ["_law_node"]
theorem sc_law_below : FnScope N_law_below P_law_below (defScope s_law_below) := ⟨rfl, rfl, rfl, by decide +kernel, rfl, by decide +kernel, by decide +kernel⟩
abbrev s_law_walked : Stmt := top 64
abbrev N_law_walked : List Str := ["_law_nodes", "_law_order", "_law_waits", "_law_at", "_law_found", "_law_node", "_law_one"]
abbrev P_law_walked : List Str := ["_law_nodes"]
theorem sc_law_walked : FnScope N_law_walked P_law_walked (defScope s_law_walked) := ⟨rfl, rfl, rfl, by decide +kernel, rfl, by decide +kernel, by decide +kernel⟩
abbrev s_law_needs : Stmt := top 65
abbrev N_law_needs : List Str := ["_law_nodes", "_law_node", "_law_found", "_law_before", "_law_at", "_law_some", "_law_one", "_law_row", "_law_other"]
abbrev P_law_needs : List Str := ["_law_nodes"]
theorem sc_law_needs : FnScope N_law_needs P_law_needs (defScope s_law_needs) := ⟨rfl, rfl, rfl, by decide +kernel, rfl, by decide +kernel, by decide +kernel⟩
abbrev s_law_scopes : Stmt := top 66
abbrev N_law_scopes : List Str := ["_law_nodes", "_law_needs_here", "_law_at"]
abbrev P_law_scopes : List Str := ["_law_nodes"]
theorem sc_law_scopes : FnScope N_law_scopes P_law_scopes (defScope s_law_scopes) := ⟨rfl, rfl, rfl, by decide +kernel, rfl, by decide +kernel, by decide +kernel⟩
abbrev s_law_scope : Stmt := top 67
abbrev N_law_scope : List Str := ["_law_needs_here", "_law_at", "_law_found", "_law_tops", "_law_one", "_law_other"]
abbrev P_law_scope : List Str := ["_law_needs_here", "_law_at"]
theorem sc_law_scope : FnScope N_law_scope P_law_scope (defScope s_law_scope) := ⟨rfl, rfl, rfl, by decide +kernel, rfl, by decide +kernel, by decide +kernel⟩
abbrev s_law_variable : Stmt := top 68
abbrev N_law_variable : List Str := ["_law_nodes", "_law_function", "_law_stack", "_law_at", "_law_row"]
abbrev P_law_variable : List Str := ["_law_nodes", "_law_function", "_law_stack"]
theorem sc_law_variable : FnScope N_law_variable P_law_variable (defScope s_law_variable) := ⟨rfl, rfl, rfl, by decide +kernel, rfl, by decide +kernel, by decide +kernel⟩
abbrev s_law_grown : Stmt := top 69
abbrev N_law_grown : List Str := ["_law_stream_here", "_law_nodes", "_law_stack", "_law_deep", "_law_way", "_law_near", "_law_spot", "_law_sign", "_law_size", "_law_at", "_law_row", "_law_turn"]
abbrev P_law_grown : List Str := ["_law_stream_here", "_law_nodes", "_law_stack", "_law_deep"]
theorem sc_law_grown : FnScope N_law_grown P_law_grown (defScope s_law_grown) := ⟨rfl, rfl, rfl, by decide +kernel, rfl, by decide +kernel, by decide +kernel⟩
abbrev s_law_web : Stmt := top 70
abbrev N_law_web : List Str := ["_law_stream_here", "_law_nodes", "_law_row"]
abbrev P_law_web : List Str := ["_law_stream_here"]
theorem sc_law_web : FnScope N_law_web P_law_web (defScope s_law_web) := ⟨rfl, rfl, rfl, by decide +kernel, rfl, by decide +kernel, by decide +kernel⟩
abbrev s_law_renamed_node : Stmt := top 71
abbrev N_law_renamed_node : List Str := ["_law_node", "_law_fresh", "_law_one"]
abbrev P_law_renamed_node : List Str := ["_law_node", "_law_fresh"]
theorem sc_law_renamed_node : FnScope N_law_renamed_node P_law_renamed_node (defScope s_law_renamed_node) := ⟨rfl, rfl, rfl, by decide +kernel, rfl, by decide +kernel, by decide +kernel⟩
abbrev s_law_parted : Stmt := top 72
abbrev N_law_parted : List Str := ["_law_stream_here", "_law_nodes", "_law_bounds", "_law_uses", "_law_at", "_law_node", "_law_spot", "_law_one", "_law_own", "_law_fresh", "_law_found", "_law_other", "_law_turn"]
abbrev P_law_parted : List Str := ["_law_stream_here", "_law_nodes"]
theorem sc_law_parted : FnScope N_law_parted P_law_parted (defScope s_law_parted) := ⟨rfl, rfl, rfl, by decide +kernel, rfl, by decide +kernel, by decide +kernel⟩
abbrev s_law_often : Stmt := top 73
abbrev N_law_often : List Str := ["_law_stream_here", "_law_nodes", "_law_turn"]
abbrev P_law_often : List Str := ["_law_stream_here"]
theorem sc_law_often : FnScope N_law_often P_law_often (defScope s_law_often) := ⟨rfl, rfl, rfl, by decide +kernel, rfl, by decide +kernel, by decide +kernel⟩
abbrev s_law_pairs_right : Stmt := top 74
abbrev N_law_pairs_right : List Str := ["_law_stream_here", "_law_thing", "_law_size", "_law_groups", "_law_whole", "_law_turn", "_law_one", "_law_two", "_law_three", "_law_group", "_law_first", "_law_second", "_law_bounds", "_law_later", "_law_some", "_law_pair", "_law_low", "_law_high"]
abbrev P_law_pairs_right : List Str := ["_law_stream_here", "_law_thing"]
theorem sc_law_pairs_right : FnScope N_law_pairs_right P_law_pairs_right (defScope s_law_pairs_right) := ⟨rfl, rfl, rfl, by decide +kernel, rfl, by decide +kernel, by decide +kernel⟩
abbrev s_law_closed_right : Stmt := top 75
abbrev N_law_closed_right : List Str := ["_law_thing", "_law_groups", "_law_at", "_law_due", "_law_some"]
abbrev P_law_closed_right : List Str := ["_law_thing"]
theorem sc_law_closed_right : FnScope N_law_closed_right P_law_closed_right (defScope s_law_closed_right) := ⟨rfl, rfl, rfl, by decide +kernel, rfl, by decide +kernel, by decide +kernel⟩
abbrev s_law_right : Stmt := top 76
abbrev N_law_right : List Str := ["_law_stream_here", "_law_nodes", "_law_thing", "_law_low", "_law_far"]
abbrev P_law_right : List Str := ["_law_stream_here"]
theorem sc_law_right : FnScope N_law_right P_law_right (defScope s_law_right) := ⟨rfl, rfl, rfl, by decide +kernel, rfl, by decide +kernel, by decide +kernel⟩
abbrev s_law : Stmt := top 77
abbrev N_law : List Str := ["_law_script", "_law_at", "_law_stream_here", "_law_turn"]
abbrev P_law : List Str := ["_law_script"]
theorem sc_law : FnScope N_law P_law (defScope s_law) := ⟨rfl, rfl, rfl, by decide +kernel, rfl, by decide +kernel, by decide +kernel⟩
abbrev s_Checked_init : Stmt := inClass (top 29) 0
abbrev N_Checked_init : List Str := ["self", "nodes"]
abbrev P_Checked_init : List Str := ["self", "nodes"]
theorem sc_Checked_init : FnScope N_Checked_init P_Checked_init (defScope s_Checked_init) := ⟨rfl, rfl, rfl, by decide +kernel, rfl, by decide +kernel, by decide +kernel⟩
abbrev s_MadeGraph_init : Stmt := inClass (top 32) 0
abbrev N_MadeGraph_init : List Str := ["self", "nodes"]
abbrev P_MadeGraph_init : List Str := ["self", "nodes"]
theorem sc_MadeGraph_init : FnScope N_MadeGraph_init P_MadeGraph_init (defScope s_MadeGraph_init) := ⟨rfl, rfl, rfl, by decide +kernel, rfl, by decide +kernel, by decide +kernel⟩
abbrev s_Graph_of : Stmt := inClass (top 31) 1
abbrev N_Graph_of : List Str := ["cls", "nodes"]
abbrev P_Graph_of : List Str := ["cls", "nodes"]
theorem sc_Graph_of : FnScope N_Graph_of P_Graph_of (defScope s_Graph_of) := ⟨rfl, rfl, rfl, by decide +kernel, rfl, by decide +kernel, by decide +kernel⟩
abbrev s_Graph_set_up : Stmt := inClass (top 31) 2
abbrev N_Graph_set_up : List Str := ["self", "nodes", "needs", "needed", "node"]
abbrev P_Graph_set_up : List Str := ["self", "nodes"]
theorem sc_Graph_set_up : FnScope N_Graph_set_up P_Graph_set_up (defScope s_Graph_set_up) := ⟨rfl, rfl, rfl, by decide +kernel, rfl, by decide +kernel, by decide +kernel⟩
abbrev s_Graph_needs : Stmt := inClass (top 31) 5
abbrev N_Graph_needs : List Str := ["self", "node"]
abbrev P_Graph_needs : List Str := ["self", "node"]
theorem sc_Graph_needs : FnScope N_Graph_needs P_Graph_needs (defScope s_Graph_needs) := ⟨rfl, rfl, rfl, by decide +kernel, rfl, by decide +kernel, by decide +kernel⟩
abbrev s_Graph_scope : Stmt := inClass (top 31) 7
abbrev N_Graph_scope : List Str := ["self", "node"]
abbrev P_Graph_scope : List Str := ["self", "node"]
theorem sc_Graph_scope : FnScope N_Graph_scope P_Graph_scope (defScope s_Graph_scope) := ⟨rfl, rfl, rfl, by decide +kernel, rfl, by decide +kernel, by decide +kernel⟩
abbrev s_Graph_closed_part : Stmt := inClass (top 31) 11
abbrev N_Graph_closed_part : List Str := ["self", "node"]
abbrev P_Graph_closed_part : List Str := ["self", "node"]
theorem sc_Graph_closed_part : FnScope N_Graph_closed_part P_Graph_closed_part (defScope s_Graph_closed_part) := ⟨rfl, rfl, rfl, by decide +kernel, rfl, by decide +kernel, by decide +kernel⟩
abbrev s_Graph_len : Stmt := inClass (top 31) 14
abbrev N_Graph_len : List Str := ["self"]
abbrev P_Graph_len : List Str := ["self"]
theorem sc_Graph_len : FnScope N_Graph_len P_Graph_len (defScope s_Graph_len) := ⟨rfl, rfl, rfl, by decide +kernel, rfl, by decide +kernel, by decide +kernel⟩
/-- what the top leaves -/
structure Pg (K : PySem.W.Frag) (mg : Str → Option Value) where
  b_len : mg "len" = none
  b_isinstance : mg "isinstance" = none
  b_int : mg "int" = none
  b_bool : mg "bool" = none
  b_str : mg "str" = none
  b_tuple : mg "tuple" = none
  b_all : mg "all" = none
  b_list : mg "list" = none
  b_set : mg "set" = none
  b_sorted : mg "sorted" = none
  b_range : mg "range" = none
  b_enumerate : mg "enumerate" = none
  b_zip : mg "zip" = none
  b_min : mg "min" = none
  b_max : mg "max" = none
  b_abs : mg "abs" = none
  b_next : mg "next" = none
  b_dict : mg "dict" = none
  b_repr : mg "repr" = none
  WORD : ∃ t, mg "WORD" = some (.str "word" t)
  FUN : ∃ t, mg "FUN" = some (.str "fun" t)
  VAR : ∃ t, mg "VAR" = some (.str "var" t)
  MAX_NODES : ∃ t, mg "MAX_NODES" = some (.int 100 t)
  MOST_CHILDREN : ∃ t, mg "MOST_CHILDREN" = some (.int 3 t)
  MOST_LETTERS : ∃ t, mg "MOST_LETTERS" = some (.int 8 t)
  RESERVED : ∃ c, mg "RESERVED" = some (.ref c) ∧ ∀ B, Ob K B (.ref c) (.tup [.str "fun", .str "let", .str "in"])
  is_integer : Df K mg "is_integer" s_is_integer
  is_between : Df K mg "is_between" s_is_between
  is_name : Df K mg "is_name" s_is_name
  is_node_form : Df K mg "is_node_form" s_is_node_form
  are_nodes : Df K mg "are_nodes" s_are_nodes
  children_of : Df K mg "children_of" s_children_of
  first_walk : Df K mg "first_walk" s_first_walk
  renumbered : Df K mg "renumbered" s_renumbered
  needs_now : Df K mg "needs_now" s_needs_now
  needs_of_nodes : Df K mg "needs_of_nodes" s_needs_of_nodes
  innermost_in : Df K mg "innermost_in" s_innermost_in
  scope_in : Df K mg "scope_in" s_scope_in
  require_node : Df K mg "require_node" s_require_node
  checked_nodes : Df K mg "checked_nodes" s_checked_nodes
  graph_in : Df K mg "graph_in" s_graph_in
  require_graph : Df K mg "require_graph" s_require_graph
  numbered : Df K mg "numbered" s_numbered
  look_of : Df K mg "look_of" s_look_of
  classes_of : Df K mg "classes_of" s_classes_of
  groups_of : Df K mg "groups_of" s_groups_of
  merged_nodes : Df K mg "merged_nodes" s_merged_nodes
  quotient_in : Df K mg "quotient_in" s_quotient_in
  spot_of : Df K mg "spot_of" s_spot_of
  below_spot : Df K mg "below_spot" s_below_spot
  inner_scope : Df K mg "inner_scope" s_inner_scope
  is_open : Df K mg "is_open" s_is_open
  look_of_spot : Df K mg "look_of_spot" s_look_of_spot
  met_spots : Df K mg "met_spots" s_met_spots
  open_pairs : Df K mg "open_pairs" s_open_pairs
  change_between : Df K mg "change_between" s_change_between
  same_part : Df K mg "same_part" s_same_part
  part_classes : Df K mg "part_classes" s_part_classes
  places_of : Df K mg "places_of" s_places_of
  classes_in : Df K mg "classes_in" s_classes_in
  least_in : Df K mg "least_in" s_least_in
  classes : Df K mg "classes" s_classes
  least : Df K mg "least" s_least
  law_stream : Df K mg "_law_stream" s_law_stream
  law_draw : Df K mg "_law_draw" s_law_draw
  law_pick : Df K mg "_law_pick" s_law_pick
  law_below : Df K mg "_law_below" s_law_below
  law_walked : Df K mg "_law_walked" s_law_walked
  law_needs : Df K mg "_law_needs" s_law_needs
  law_scopes : Df K mg "_law_scopes" s_law_scopes
  law_scope : Df K mg "_law_scope" s_law_scope
  law_variable : Df K mg "_law_variable" s_law_variable
  law_grown : Df K mg "_law_grown" s_law_grown
  law_web : Df K mg "_law_web" s_law_web
  law_renamed_node : Df K mg "_law_renamed_node" s_law_renamed_node
  law_parted : Df K mg "_law_parted" s_law_parted
  law_often : Df K mg "_law_often" s_law_often
  law_pairs_right : Df K mg "_law_pairs_right" s_law_pairs_right
  law_closed_right : Df K mg "_law_closed_right" s_law_closed_right
  law_right : Df K mg "_law_right" s_law_right
  law : Df K mg "law" s_law
  Checked_init : Dg K "__init__" "Checked.__init__" s_Checked_init
  MadeGraph_init : Dg K "__init__" "MadeGraph.__init__" s_MadeGraph_init
  Graph_of : Dg K "of" "Graph.of" s_Graph_of
  Graph_set_up : Dg K "set_up" "Graph.set_up" s_Graph_set_up
  Graph_needs : Dg K "needs" "Graph.needs" s_Graph_needs
  Graph_scope : Dg K "scope" "Graph.scope" s_Graph_scope
  Graph_closed_part : Dg K "closed_part" "Graph.closed_part" s_Graph_closed_part
  Graph_len : Dg K "__len__" "Graph.__len__" s_Graph_len
  CM : Addr
  CC : Addr
  CG : Addr
  gM : mg "MadeGraph" = some (.ref CM)
  gC : mg "Checked" = some (.ref CC)
  gG : mg "Graph" = some (.ref CG)
  clM : Cls K CM
  clC : Cls K CC
  n1 : NoAttr K CM "own_nodes"
  n2 : NoAttr K CM "own_needs"
  n3 : NoAttr K CM "own_scopes"
  n4 : NoAttr K CC "own_nodes"
  mkM : Mk K CM MadeGraph_init.f
  mkC : Mk K CC Checked_init.f
  isM : Isi K CM
  isC : Isi K CC
  kMG : PySem.W.kitOne K (.ref CM) (.ref CG) = some true
  kTC : PySem.W.kitOne K (.type "tuple") (.ref CC) = some false
  kCC : PySem.W.kitOne K (.ref CC) (.ref CC) = some true
  m_set_up : Meth K CM "set_up" Graph_set_up.f
  m_needs : Meth K CM "needs" Graph_needs.f
  m_scope : Meth K CM "scope" Graph_scope.f
  m_closed_part : Meth K CM "closed_part" Graph_closed_part.f
  c_of : ∃ mc p, ClX.CRead K CG mc ∧ ClX.CMet K CG mc "of" p Graph_of.f
  l_len : PySem.W.findIn K (.ref CM) "__len__" = some (some (.ref Graph_len.f))
  l_fn : PySem.W.isFn K (.ref Graph_len.f) = true
section
variable {K : PySem.W.Frag} {mg : Str → Option Value}
theorem bi_is_integer (Γ : Pg K mg) : L2.Binds K Γ.is_integer.fd P_is_integer [] := Γ.is_integer.F.bindsN fun _ _ _ _ _ _ us hl => match us, hl with | [_], _ => rfl
theorem bi_is_between (Γ : Pg K mg) : L2.Binds K Γ.is_between.fd P_is_between [] := Γ.is_between.F.bindsN fun _ _ _ _ _ _ us hl => match us, hl with | [_, _, _], _ => rfl
theorem bi_is_name (Γ : Pg K mg) : L2.Binds K Γ.is_name.fd P_is_name [] := Γ.is_name.F.bindsN fun _ _ _ _ _ _ us hl => match us, hl with | [_], _ => rfl
theorem bi_is_node_form (Γ : Pg K mg) : L2.Binds K Γ.is_node_form.fd P_is_node_form [] := Γ.is_node_form.F.bindsN fun _ _ _ _ _ _ us hl => match us, hl with | [_, _], _ => rfl
theorem bi_are_nodes (Γ : Pg K mg) : L2.Binds K Γ.are_nodes.fd P_are_nodes [] := Γ.are_nodes.F.bindsN fun _ _ _ _ _ _ us hl => match us, hl with | [_], _ => rfl
theorem bi_children_of (Γ : Pg K mg) : L2.Binds K Γ.children_of.fd P_children_of [] := Γ.children_of.F.bindsN fun _ _ _ _ _ _ us hl => match us, hl with | [_], _ => rfl
theorem bi_first_walk (Γ : Pg K mg) : L2.Binds K Γ.first_walk.fd P_first_walk [] := Γ.first_walk.F.bindsN fun _ _ _ _ _ _ us hl => match us, hl with | [_, _], _ => rfl
theorem bi_renumbered (Γ : Pg K mg) : L2.Binds K Γ.renumbered.fd P_renumbered [] := Γ.renumbered.F.bindsN fun _ _ _ _ _ _ us hl => match us, hl with | [_, _], _ => rfl
theorem bi_needs_now (Γ : Pg K mg) : L2.Binds K Γ.needs_now.fd P_needs_now [] := Γ.needs_now.F.bindsN fun _ _ _ _ _ _ us hl => match us, hl with | [_, _, _], _ => rfl
theorem bi_needs_of_nodes (Γ : Pg K mg) : L2.Binds K Γ.needs_of_nodes.fd P_needs_of_nodes [] := Γ.needs_of_nodes.F.bindsN fun _ _ _ _ _ _ us hl => match us, hl with | [_], _ => rfl
theorem bi_innermost_in (Γ : Pg K mg) : L2.Binds K Γ.innermost_in.fd P_innermost_in [] := Γ.innermost_in.F.bindsN fun _ _ _ _ _ _ us hl => match us, hl with | [_, _], _ => rfl
theorem bi_scope_in (Γ : Pg K mg) : L2.Binds K Γ.scope_in.fd P_scope_in [] := Γ.scope_in.F.bindsN fun _ _ _ _ _ _ us hl => match us, hl with | [_, _], _ => rfl
theorem bi_require_node (Γ : Pg K mg) : L2.Binds K Γ.require_node.fd P_require_node [] := Γ.require_node.F.bindsN fun _ _ _ _ _ _ us hl => match us, hl with | [_, _], _ => rfl
theorem bi_checked_nodes (Γ : Pg K mg) : L2.Binds K Γ.checked_nodes.fd P_checked_nodes [] := Γ.checked_nodes.F.bindsN fun _ _ _ _ _ _ us hl => match us, hl with | [_], _ => rfl
theorem bi_graph_in (Γ : Pg K mg) : L2.Binds K Γ.graph_in.fd P_graph_in [] := Γ.graph_in.F.bindsN fun _ _ _ _ _ _ us hl => match us, hl with | [_], _ => rfl
theorem bi_require_graph (Γ : Pg K mg) : L2.Binds K Γ.require_graph.fd P_require_graph [] := Γ.require_graph.F.bindsN fun _ _ _ _ _ _ us hl => match us, hl with | [_], _ => rfl
theorem bi_numbered (Γ : Pg K mg) : L2.Binds K Γ.numbered.fd P_numbered [] := Γ.numbered.F.bindsN fun _ _ _ _ _ _ us hl => match us, hl with | [_], _ => rfl
theorem bi_look_of (Γ : Pg K mg) : L2.Binds K Γ.look_of.fd P_look_of [] := Γ.look_of.F.bindsN fun _ _ _ _ _ _ us hl => match us, hl with | [_], _ => rfl
theorem bi_classes_of (Γ : Pg K mg) : L2.Binds K Γ.classes_of.fd P_classes_of [] := Γ.classes_of.F.bindsN fun _ _ _ _ _ _ us hl => match us, hl with | [_, _], _ => rfl
theorem bi_groups_of (Γ : Pg K mg) : L2.Binds K Γ.groups_of.fd P_groups_of [] := Γ.groups_of.F.bindsN fun _ _ _ _ _ _ us hl => match us, hl with | [_], _ => rfl
theorem bi_merged_nodes (Γ : Pg K mg) : L2.Binds K Γ.merged_nodes.fd P_merged_nodes [] := Γ.merged_nodes.F.bindsN fun _ _ _ _ _ _ us hl => match us, hl with | [_, _], _ => rfl
theorem bi_quotient_in (Γ : Pg K mg) : L2.Binds K Γ.quotient_in.fd P_quotient_in [] := Γ.quotient_in.F.bindsN fun _ _ _ _ _ _ us hl => match us, hl with | [_, _], _ => rfl
theorem bi_spot_of (Γ : Pg K mg) : L2.Binds K Γ.spot_of.fd P_spot_of [] := Γ.spot_of.F.bindsN fun _ _ _ _ _ _ us hl => match us, hl with | [_, _], _ => rfl
theorem bi_below_spot (Γ : Pg K mg) : L2.Binds K Γ.below_spot.fd P_below_spot [] := Γ.below_spot.F.bindsN fun _ _ _ _ _ _ us hl => match us, hl with | [_, _], _ => rfl
theorem bi_inner_scope (Γ : Pg K mg) : L2.Binds K Γ.inner_scope.fd P_inner_scope [] := Γ.inner_scope.F.bindsN fun _ _ _ _ _ _ us hl => match us, hl with | [_, _], _ => rfl
theorem bi_is_open (Γ : Pg K mg) : L2.Binds K Γ.is_open.fd P_is_open [] := Γ.is_open.F.bindsN fun _ _ _ _ _ _ us hl => match us, hl with | [_, _], _ => rfl
theorem bi_look_of_spot (Γ : Pg K mg) : L2.Binds K Γ.look_of_spot.fd P_look_of_spot [] := Γ.look_of_spot.F.bindsN fun _ _ _ _ _ _ us hl => match us, hl with | [_, _], _ => rfl
theorem bi_met_spots (Γ : Pg K mg) : L2.Binds K Γ.met_spots.fd P_met_spots [] := Γ.met_spots.F.bindsN fun _ _ _ _ _ _ us hl => match us, hl with | [_, _, _, _], _ => rfl
theorem bi_open_pairs (Γ : Pg K mg) : L2.Binds K Γ.open_pairs.fd P_open_pairs [] := Γ.open_pairs.F.bindsN fun _ _ _ _ _ _ us hl => match us, hl with | [_, _, _], _ => rfl
theorem bi_change_between (Γ : Pg K mg) : L2.Binds K Γ.change_between.fd P_change_between [] := Γ.change_between.F.bindsN fun _ _ _ _ _ _ us hl => match us, hl with | [_, _, _, _], _ => rfl
theorem bi_same_part (Γ : Pg K mg) : L2.Binds K Γ.same_part.fd P_same_part [] := Γ.same_part.F.bindsN fun _ _ _ _ _ _ us hl => match us, hl with | [_, _, _], _ => rfl
theorem bi_part_classes (Γ : Pg K mg) : L2.Binds K Γ.part_classes.fd P_part_classes [] := Γ.part_classes.F.bindsN fun _ _ _ _ _ _ us hl => match us, hl with | [_], _ => rfl
theorem bi_places_of (Γ : Pg K mg) : L2.Binds K Γ.places_of.fd P_places_of [] := Γ.places_of.F.bindsN fun _ _ _ _ _ _ us hl => match us, hl with | [_, _], _ => rfl
theorem bi_classes_in (Γ : Pg K mg) : L2.Binds K Γ.classes_in.fd P_classes_in [] := Γ.classes_in.F.bindsN fun _ _ _ _ _ _ us hl => match us, hl with | [_], _ => rfl
theorem bi_least_in (Γ : Pg K mg) : L2.Binds K Γ.least_in.fd P_least_in [] := Γ.least_in.F.bindsN fun _ _ _ _ _ _ us hl => match us, hl with | [_], _ => rfl
theorem bi_classes (Γ : Pg K mg) : L2.Binds K Γ.classes.fd P_classes [] := Γ.classes.F.bindsN fun _ _ _ _ _ _ us hl => match us, hl with | [_], _ => rfl
theorem bi_least (Γ : Pg K mg) : L2.Binds K Γ.least.fd P_least [] := Γ.least.F.bindsN fun _ _ _ _ _ _ us hl => match us, hl with | [_], _ => rfl
theorem bi_law_stream (Γ : Pg K mg) : L2.Binds K Γ.law_stream.fd P_law_stream [] := Γ.law_stream.F.bindsN fun _ _ _ _ _ _ us hl => match us, hl with | [_, _], _ => rfl
theorem bi_law_draw (Γ : Pg K mg) : L2.Binds K Γ.law_draw.fd P_law_draw [] := Γ.law_draw.F.bindsN fun _ _ _ _ _ _ us hl => match us, hl with | [_, _], _ => rfl
theorem bi_law_pick (Γ : Pg K mg) : L2.Binds K Γ.law_pick.fd P_law_pick [] := Γ.law_pick.F.bindsN fun _ _ _ _ _ _ us hl => match us, hl with | [_, _], _ => rfl
theorem bi_law_below (Γ : Pg K mg) : L2.Binds K Γ.law_below.fd P_law_below [] := Γ.law_below.F.bindsN fun _ _ _ _ _ _ us hl => match us, hl with | [_], _ => rfl
theorem bi_law_walked (Γ : Pg K mg) : L2.Binds K Γ.law_walked.fd P_law_walked [] := Γ.law_walked.F.bindsN fun _ _ _ _ _ _ us hl => match us, hl with | [_], _ => rfl
theorem bi_law_needs (Γ : Pg K mg) : L2.Binds K Γ.law_needs.fd P_law_needs [] := Γ.law_needs.F.bindsN fun _ _ _ _ _ _ us hl => match us, hl with | [_], _ => rfl
theorem bi_law_scopes (Γ : Pg K mg) : L2.Binds K Γ.law_scopes.fd P_law_scopes [] := Γ.law_scopes.F.bindsN fun _ _ _ _ _ _ us hl => match us, hl with | [_], _ => rfl
theorem bi_law_scope (Γ : Pg K mg) : L2.Binds K Γ.law_scope.fd P_law_scope [] := Γ.law_scope.F.bindsN fun _ _ _ _ _ _ us hl => match us, hl with | [_, _], _ => rfl
theorem bi_law_variable (Γ : Pg K mg) : L2.Binds K Γ.law_variable.fd P_law_variable [] := Γ.law_variable.F.bindsN fun _ _ _ _ _ _ us hl => match us, hl with | [_, _, _], _ => rfl
theorem bi_law_grown (Γ : Pg K mg) : L2.Binds K Γ.law_grown.fd P_law_grown [] := Γ.law_grown.F.bindsN fun _ _ _ _ _ _ us hl => match us, hl with | [_, _, _, _], _ => rfl
theorem bi_law_web (Γ : Pg K mg) : L2.Binds K Γ.law_web.fd P_law_web [] := Γ.law_web.F.bindsN fun _ _ _ _ _ _ us hl => match us, hl with | [_], _ => rfl
theorem bi_law_renamed_node (Γ : Pg K mg) : L2.Binds K Γ.law_renamed_node.fd P_law_renamed_node [] := Γ.law_renamed_node.F.bindsN fun _ _ _ _ _ _ us hl => match us, hl with | [_, _], _ => rfl
theorem bi_law_parted (Γ : Pg K mg) : L2.Binds K Γ.law_parted.fd P_law_parted [] := Γ.law_parted.F.bindsN fun _ _ _ _ _ _ us hl => match us, hl with | [_, _], _ => rfl
theorem bi_law_often (Γ : Pg K mg) : L2.Binds K Γ.law_often.fd P_law_often [] := Γ.law_often.F.bindsN fun _ _ _ _ _ _ us hl => match us, hl with | [_], _ => rfl
theorem bi_law_pairs_right (Γ : Pg K mg) : L2.Binds K Γ.law_pairs_right.fd P_law_pairs_right [] := Γ.law_pairs_right.F.bindsN fun _ _ _ _ _ _ us hl => match us, hl with | [_, _], _ => rfl
theorem bi_law_closed_right (Γ : Pg K mg) : L2.Binds K Γ.law_closed_right.fd P_law_closed_right [] := Γ.law_closed_right.F.bindsN fun _ _ _ _ _ _ us hl => match us, hl with | [_], _ => rfl
theorem bi_law_right (Γ : Pg K mg) : L2.Binds K Γ.law_right.fd P_law_right [] := Γ.law_right.F.bindsN fun _ _ _ _ _ _ us hl => match us, hl with | [_], _ => rfl
theorem bi_law (Γ : Pg K mg) : L2.Binds K Γ.law.fd P_law [] := Γ.law.F.bindsN fun _ _ _ _ _ _ us hl => match us, hl with | [_], _ => rfl
theorem bi_Checked_init (Γ : Pg K mg) : L2.Binds K Γ.Checked_init.fd P_Checked_init [] := Γ.Checked_init.F.bindsN fun _ _ _ _ _ _ us hl => match us, hl with | [_, _], _ => rfl
theorem bi_MadeGraph_init (Γ : Pg K mg) : L2.Binds K Γ.MadeGraph_init.fd P_MadeGraph_init [] := Γ.MadeGraph_init.F.bindsN fun _ _ _ _ _ _ us hl => match us, hl with | [_, _], _ => rfl
theorem bi_Graph_of (Γ : Pg K mg) : L2.Binds K Γ.Graph_of.fd P_Graph_of [] := Γ.Graph_of.F.bindsN fun _ _ _ _ _ _ us hl => match us, hl with | [_, _], _ => rfl
theorem bi_Graph_set_up (Γ : Pg K mg) : L2.Binds K Γ.Graph_set_up.fd P_Graph_set_up [] := Γ.Graph_set_up.F.bindsN fun _ _ _ _ _ _ us hl => match us, hl with | [_, _], _ => rfl
theorem bi_Graph_needs (Γ : Pg K mg) : L2.Binds K Γ.Graph_needs.fd P_Graph_needs [] := Γ.Graph_needs.F.bindsN fun _ _ _ _ _ _ us hl => match us, hl with | [_, _], _ => rfl
theorem bi_Graph_scope (Γ : Pg K mg) : L2.Binds K Γ.Graph_scope.fd P_Graph_scope [] := Γ.Graph_scope.F.bindsN fun _ _ _ _ _ _ us hl => match us, hl with | [_, _], _ => rfl
theorem bi_Graph_closed_part (Γ : Pg K mg) : L2.Binds K Γ.Graph_closed_part.fd P_Graph_closed_part [] := Γ.Graph_closed_part.F.bindsN fun _ _ _ _ _ _ us hl => match us, hl with | [_, _], _ => rfl
theorem bi_Graph_len (Γ : Pg K mg) : L2.Binds K Γ.Graph_len.fd P_Graph_len [] := Γ.Graph_len.F.bindsN fun _ _ _ _ _ _ us hl => match us, hl with | [_], _ => rfl
end
theorem bt_len : bootBuiltins "len" = some (.builtin "len") := by decide +kernel
theorem bt_isinstance : bootBuiltins "isinstance" = some (.builtin "isinstance") := by decide +kernel
theorem bt_int : bootBuiltins "int" = some (.type "int") := by decide +kernel
theorem bt_bool : bootBuiltins "bool" = some (.type "bool") := by decide +kernel
theorem bt_str : bootBuiltins "str" = some (.type "str") := by decide +kernel
theorem bt_tuple : bootBuiltins "tuple" = some (.type "tuple") := by decide +kernel
theorem bt_all : bootBuiltins "all" = some (.builtin "all") := by decide +kernel
theorem bt_list : bootBuiltins "list" = some (.type "list") := by decide +kernel
theorem bt_set : bootBuiltins "set" = some (.type "set") := by decide +kernel
theorem bt_sorted : bootBuiltins "sorted" = some (.builtin "sorted") := by decide +kernel
theorem bt_range : bootBuiltins "range" = some (.type "range") := by decide +kernel
theorem bt_enumerate : bootBuiltins "enumerate" = some (.type "enumerate") := by decide +kernel
theorem bt_zip : bootBuiltins "zip" = some (.type "zip") := by decide +kernel
theorem bt_min : bootBuiltins "min" = some (.builtin "min") := by decide +kernel
theorem bt_max : bootBuiltins "max" = some (.builtin "max") := by decide +kernel
theorem bt_abs : bootBuiltins "abs" = some (.builtin "abs") := by decide +kernel
theorem bt_next : bootBuiltins "next" = some (.builtin "next") := by decide +kernel
theorem bt_dict : bootBuiltins "dict" = some (.type "dict") := by decide +kernel
theorem bt_repr : bootBuiltins "repr" = some (.builtin "repr") := by decide +kernel
/-- no own objects are handed in -/
abbrev NoC {α : Type} : α → Cells := fun _ => []
/-- what comes back is f; no own object is left -/
abbrev Ret {α : Type} (f : α → D) : α → RD := fun x d L => d = f x ∧ L = []
end K50
set_option maxRecDepth 100000
set_option maxHeartbeats 4000000
/-! K1: small defs: nodes, spots. -/
namespace K50
open PySem PySem.Spec PyProof.Rows L2 DL
/-- nodes -/
inductive Nd where
  | word (w : Str) (cs : List Nat) | fn (c : Nat) | var (f : Nat)
  deriving DecidableEq
def Nd.ch : Nd → List Nat
  | .word _ cs => cs
  | .fn c => [c]
  | .var _ => []
def Nd.d : Nd → D
  | .word w cs => .tup [.str "word", .str w, .tup (dnats cs)]
  | .fn c => .tup [.str "fun", .int c]
  | .var f => .tup [.str "var", .int f]
def Nd.kind : Nd → Str
  | .word _ _ => "word"
  | .fn _ => "fun"
  | .var _ => "var"
def Nd.wd : Nd → Str
  | .word w _ => w
  | _ => ""
def Nd.isVar : Nd → Bool
  | .var _ => true
  | _ => false
/-- a graph's data: nodes, needs, scopes -/
structure Gr where
  nodes : List Nd
  needs : List (List Nat)
  scopes : List (List Nat)
def tnats (l : List Nat) : D := .tup (dnats l)
abbrev grNs : List Str := ["own_nodes", "own_needs", "own_scopes"]
abbrev grDs (G : Gr) : List D := [.tup (G.nodes.map Nd.d), .tup (G.needs.map tnats), .tup (G.scopes.map tnats)]
def Gr.d (C : Addr) (G : Gr) : D := .ins C grNs (grDs G)
theorem dnats_get {l : List Nat} {i n : Nat} (h : l[i]? = some n) : (dnats l)[i]? = some (.int n) := by simp [dnats, h]
theorem dnats_length (l : List Nat) : (dnats l).length = l.length := by simp [dnats]
theorem dnats_drop (l : List Nat) (k : Nat) : (dnats l).drop k = dnats (l.drop k) := by simp [dnats]
theorem dnats_take (l : List Nat) (k : Nat) : (dnats l).take k = dnats (l.take k) := by simp [dnats]
section
variable {C : Addr} {G : Gr}
theorem gr_nodes : (grNs.zip (grDs G)).lookup ("own_nodes" : Str) = some (.tup (G.nodes.map Nd.d)) := rfl
theorem gr_needs : (grNs.zip (grDs G)).lookup ("own_needs" : Str) = some (.tup (G.needs.map tnats)) := rfl
theorem gr_scopes : (grNs.zip (grDs G)).lookup ("own_scopes" : Str) = some (.tup (G.scopes.map tnats)) := rfl
end
section
variable {X : Cx} {Γ : Gam} {L : Cells} {R : RD} {e : Expr} {pos : Pos} {K : PySem.W.Frag} {mg : Str → Option Value}
theorem ev_nodes (P : Pg X.K mg) (h : EvX X e Γ L fun d L1 => ∃ G : Gr, d = G.d P.CM ∧ R (.tup (G.nodes.map Nd.d)) L1) (hb : attributeBase e "own_nodes" X.env (eval e X.env) = eval e X.env := by rfl) : EvX X (.Attribute e "own_nodes" pos) Γ L R :=
  ev_fld (h.imp fun d L1 ⟨G, e, r⟩ => ⟨P.CM, _, _, _, e, P.clM, P.n1, gr_nodes, r⟩) hb
theorem ev_needs (P : Pg X.K mg) (h : EvX X e Γ L fun d L1 => ∃ G : Gr, d = G.d P.CM ∧ R (.tup (G.needs.map tnats)) L1) (hb : attributeBase e "own_needs" X.env (eval e X.env) = eval e X.env := by rfl) : EvX X (.Attribute e "own_needs" pos) Γ L R :=
  ev_fld (h.imp fun d L1 ⟨G, e, r⟩ => ⟨P.CM, _, _, _, e, P.clM, P.n2, gr_needs, r⟩) hb
theorem ev_scopes (P : Pg X.K mg) (h : EvX X e Γ L fun d L1 => ∃ G : Gr, d = G.d P.CM ∧ R (.tup (G.scopes.map tnats)) L1) (hb : attributeBase e "own_scopes" X.env (eval e X.env) = eval e X.env := by rfl) : EvX X (.Attribute e "own_scopes" pos) Γ L R :=
  ev_fld (h.imp fun d L1 ⟨G, e, r⟩ => ⟨P.CM, _, _, _, e, P.clM, P.n3, gr_scopes, r⟩) hb
end
section
variable {P : Program} {w : World} {K : PySem.W.Frag} {mg : Str → Option Value} {base : Heap}
theorem ok_is_integer (Γ : Pg K mg) : FnOk P w K mg base CX0 1 Γ.is_integer.f Γ.is_integer.fd P_is_integer (spD K (fun i : Int => [.int i]) NoC (Ret fun _ => .bl true)) := by
  refine fn_ok Γ.is_integer.F sc_is_integer (fun _ => rfl) (by decide) (fun cdv A outer s H E hr i => ?_)
  refine bl_cons (st_ret (ev_and (ev_callB call_isi Γ.b_isinstance bt_isinstance (ag_cons (ev_v 0 rfl (ag_cons (ev_bltn Γ.b_int bt_int (ag_nil (oa_isi rfl (by decide +kernel) ⟨true, rfl, iteT ?_⟩)))))))))
  refine ev_one (ev_not (ev_callB call_isi Γ.b_isinstance bt_isinstance (ag_cons (ev_v 0 rfl (ag_cons (ev_bltn Γ.b_bool bt_bool (ag_nil (oa_isi rfl (by decide +kernel) ⟨false, rfl, rfl, rfl⟩))))))))
theorem ok_is_between (Γ : Pg K mg) : FnOk P w K mg base CX0 2 Γ.is_between.f Γ.is_between.fd P_is_between (spD K (fun x : Int × Int × Int => [.int x.1, .int x.2.1, .int x.2.2]) NoC (Ret fun x => .bl (decide (x.2.1 ≤ x.1) && decide (x.1 ≤ x.2.2)))) := by
  refine fn_ok Γ.is_between.F sc_is_between (fun _ => rfl) (by decide) (fun cdv A outer s H E hr ⟨v, lo, hi⟩ => ?_)
  refine bl_cons (st_ret (ev_and (ev_call0 (ok_is_integer Γ) hr Γ.is_integer.g Γ.is_integer.F.kp (bi_is_integer Γ) (ag_cons (ev_v 0 rfl (ag_nil ⟨v, rfl, rfl, fun d L hp => ⟨true, hp.1, iteT ?_⟩⟩))))))
  obtain ⟨rfl, rfl⟩ := hp
  refine ev_one (ev_chain op_le op_le (ev_v 1 rfl (ev_v 0 rfl (o2_le ⟨_, rfl, ?_⟩))))
  by_cases h : lo ≤ v
  · rw [if_pos (decide_eq_true h)]
    refine ev_v 2 rfl (o2_le ⟨?_, rfl⟩)
    show D.bl (decide (v ≤ hi)) = D.bl (decide (lo ≤ v) && decide (v ≤ hi))
    rw [decide_eq_true h, Bool.true_and]
  · rw [if_neg (by simpa using h)]
    refine ⟨?_, rfl⟩
    show D.bl false = D.bl (decide (lo ≤ v) && decide (v ≤ hi))
    rw [decide_eq_false h, Bool.false_and]
theorem ok_children_of (Γ : Pg K mg) : FnOk P w K mg base CX0 1 Γ.children_of.f Γ.children_of.fd P_children_of (spD K (fun n : Nd => [n.d]) NoC (Ret fun n => .tup (dnats n.ch))) := by
  obtain ⟨tW, hW⟩ := Γ.WORD
  obtain ⟨tF, hF⟩ := Γ.FUN
  refine fn_ok Γ.children_of.F sc_children_of (fun _ => rfl) (by decide) (fun cdv A outer s H E hr n => ?_)
  cases n with
  | word x cs =>
    refine bl_cons (st_if (te_cmp op_eq (ev_ix ix_tup (ev_v 0 rfl (ev_int (o2_ixT (n := 0) rfl (ev_gstr hW (o2_seqT ⟨true, rfl, iteT ?_⟩))))))))
    exact bl_cons (st_ret (ev_ix ix_tup (ev_v 0 rfl (ev_int (o2_ixT (n := 2) rfl ⟨rfl, rfl⟩)))))
  | fn c =>
    refine bl_cons (st_if (te_cmp op_eq (ev_ix ix_tup (ev_v 0 rfl (ev_int (o2_ixT (n := 0) rfl (ev_gstr hW (o2_seqF ⟨false, rfl, iteF ?_⟩))))))))
    refine bl_nil (bl_cons (st_ret (ev_if (te_cmp op_eq (ev_ix ix_tup (ev_v 0 rfl (ev_int (o2_ixT (n := 0) rfl (ev_gstr hF (o2_seqT ⟨true, rfl, iteT ?_⟩))))))))))
    refine ev_sl sl_tupA (ev_v 0 rfl (po_so (ev_int ⟨1, rfl, po_no (s1_tup ⟨?_, rfl⟩)⟩)))
    rfl
  | var g =>
    refine bl_cons (st_if (te_cmp op_eq (ev_ix ix_tup (ev_v 0 rfl (ev_int (o2_ixT (n := 0) rfl (ev_gstr hW (o2_seqF ⟨false, rfl, iteF ?_⟩))))))))
    refine bl_nil (bl_cons (st_ret (ev_if (te_cmp op_eq (ev_ix ix_tup (ev_v 0 rfl (ev_int (o2_ixT (n := 0) rfl (ev_gstr hF (o2_seqF ⟨false, rfl, iteF ?_⟩))))))))))
    exact ev_tup (ag_nil ⟨sz, rfl, rfl⟩)
theorem ev_children {X : Cx} {Γ : Gam} {L : Cells} {R : RD} {e : Expr} {p pos : Pos} (P : Pg X.K X.mg) (hr : Room 1 X.A) (h : EvX X e Γ L fun d L1 => ∃ n : Nd, d = n.d ∧ R (.tup (dnats n.ch)) L1) (hg : Gl X "children_of" := by rfl)
    (he : starEach [e] X.env = (false, eval e X.env) :: starEach [] X.env := by rfl) : EvX X (.Call (.Name "children_of" p) [e] [] pos) Γ L R :=
  ev_call0 (ok_children_of P) hr P.children_of.g P.children_of.F.kp (bi_children_of P) (ag_cons (h.imp fun d L1 ⟨n, e, r⟩ => ag_nil ⟨n, by rw [e], rfl, fun d L hp => by
    obtain ⟨rfl, rfl⟩ := hp
    exact r⟩) he) hg rfl he rfl
def Nd.look (n : Nd) : D := .tup [.str n.kind, .str n.wd, .int n.ch.length]
theorem ok_look_of (Γ : Pg K mg) : FnOk P w K mg base CX0 2 Γ.look_of.f Γ.look_of.fd P_look_of (spD K (fun n : Nd => [n.d]) NoC (Ret Nd.look)) := by
  obtain ⟨tW, hW⟩ := Γ.WORD
  refine fn_ok Γ.look_of.F sc_look_of (fun _ => rfl) (by decide) (fun cdv A outer s H E hr n => ?_)
  cases n with
  | word x cs =>
    refine bl_cons (st_ret (ev_tup (ag_cons (ev_ix ix_tup (ev_v 0 rfl (ev_int (o2_ixT (n := 0) rfl (ag_cons (ev_if (te_cmp op_eq (ev_ix ix_tup (ev_v 0 rfl (ev_int (o2_ixT (n := 0) rfl (ev_gstr hW (o2_seqT ⟨true, rfl, iteT ?_⟩))))))))))))))))
    refine ev_ix ix_tup (ev_v 0 rfl (ev_int (o2_ixT (n := 1) rfl ?_)))
    refine ag_cons (ev_callB call_len_seq Γ.b_len bt_len (ag_cons (ev_children Γ hr (ev_v 0 rfl ⟨_, rfl, ag_nil (oa_lenS (.inl rfl) ?_)⟩))))
    rw [dnats_length]
    exact ag_nil ⟨sz, rfl, rfl⟩
  | fn c =>
    refine bl_cons (st_ret (ev_tup (ag_cons (ev_ix ix_tup (ev_v 0 rfl (ev_int (o2_ixT (n := 0) rfl (ag_cons (ev_if (te_cmp op_eq (ev_ix ix_tup (ev_v 0 rfl (ev_int (o2_ixT (n := 0) rfl (ev_gstr hW (o2_seqF ⟨false, rfl, iteF ?_⟩))))))))))))))))
    refine ev_str (ag_cons (ev_callB call_len_seq Γ.b_len bt_len (ag_cons (ev_children Γ hr (ev_v 0 rfl ⟨_, rfl, ag_nil (oa_lenS (.inl rfl) ?_)⟩)))))
    exact ag_nil ⟨sz, rfl, rfl⟩
  | var g =>
    refine bl_cons (st_ret (ev_tup (ag_cons (ev_ix ix_tup (ev_v 0 rfl (ev_int (o2_ixT (n := 0) rfl (ag_cons (ev_if (te_cmp op_eq (ev_ix ix_tup (ev_v 0 rfl (ev_int (o2_ixT (n := 0) rfl (ev_gstr hW (o2_seqF ⟨false, rfl, iteF ?_⟩))))))))))))))))
    refine ev_str (ag_cons (ev_callB call_len_seq Γ.b_len bt_len (ag_cons (ev_children Γ hr (ev_v 0 rfl ⟨_, rfl, ag_nil (oa_lenS (.inl rfl) ?_)⟩)))))
    exact ag_nil ⟨sz, rfl, rfl⟩
/-! ### spots -/
def spotD (s : Nat × Nat) : D := .tup [.int s.1, .int s.2]
/-- a graph and a node of it: the node, its scope -/
structure ANode where
  G : Gr
  u : Nat
  n : Nd
  s : List Nat
  hn : G.nodes[u]? = some n
  hs : G.scopes[u]? = some s
theorem gr_node {G : Gr} {u : Nat} {n : Nd} (h : G.nodes[u]? = some n) : (G.nodes.map Nd.d)[u]? = some n.d := by simp [h]
theorem gr_scope {G : Gr} {u : Nat} {s : List Nat} (h : G.scopes[u]? = some s) : (G.scopes.map tnats)[u]? = some (tnats s) := by simp [h]
theorem gr_need {G : Gr} {u : Nat} {s : List Nat} (h : G.needs[u]? = some s) : (G.needs.map tnats)[u]? = some (tnats s) := by simp [h]
theorem ok_spot_of (Γ : Pg K mg) : FnOk P w K mg base CX0 1 Γ.spot_of.f Γ.spot_of.fd P_spot_of (spD K (fun x : ANode => [x.G.d Γ.CM, .int x.u]) NoC (Ret fun x => spotD (x.u, x.s.length))) := by
  refine fn_ok Γ.spot_of.F sc_spot_of (fun _ => rfl) (by decide) (fun cdv A outer s H E hr x => ?_)
  refine bl_cons (st_ret (ev_tup (ag_cons (ev_v 1 rfl (ag_cons (ev_callB call_len_seq Γ.b_len bt_len (ag_cons (ev_ix ix_tup (ev_scopes Γ (ev_v 0 rfl ⟨x.G, rfl, ev_v 1 rfl (o2_ixT (gr_scope x.hs) (ag_nil (oa_lenS (.inl rfl) (ag_nil ⟨sz, ?_, rfl⟩))))⟩))))))))))
  rw [dnats_length]
  rfl
end
end K50
/-! M0: plain lists. -/
namespace K50
theorem nodup_lt : ∀ (N : Nat) (l : List Nat), l.Nodup → (∀ x ∈ l, x < N) → l.length ≤ N
  | 0, l, _, h => by
    cases l with
    | nil => exact Nat.le_refl _
    | cons a l => exact absurd (h a (by simp)) (Nat.not_lt_zero _)
  | N + 1, l, nd, h => by
    by_cases hm : N ∈ l
    · have h2 : (l.erase N).length ≤ N := nodup_lt N (l.erase N) (nd.erase N) fun x hx => by
        have h3 := (List.Nodup.mem_erase_iff nd).mp hx
        have := h x h3.2
        have := h3.1
        omega
      rw [List.length_erase_of_mem hm] at h2
      omega
    · have h2 := nodup_lt N l nd fun x hx => by
        have := h x hx
        have : x ≠ N := fun e => hm (e ▸ hx)
        omega
      omega
theorem nodup_code {α : Type} (f : α → Nat) (N : Nat) {l : List α} (nd : l.Nodup) (hi : ∀ x ∈ l, ∀ y ∈ l, f x = f y → x = y) (hb : ∀ x ∈ l, f x < N) : l.length ≤ N := by
  have h : (l.map f).Nodup := by
    clear hb
    induction l with
    | nil => simp
    | cons a l ih =>
      rw [List.nodup_cons] at nd
      rw [List.map_cons, List.nodup_cons]
      refine ⟨fun hm => ?_, ih nd.2 fun x hx y hy => hi x (by simp [hx]) y (by simp [hy])⟩
      obtain ⟨b, hb, e⟩ := List.mem_map.mp hm
      have := hi b (by simp [hb]) a (by simp) e
      exact nd.1 (this ▸ hb)
  have := nodup_lt N (l.map f) h fun x hx => by
    obtain ⟨b, hm, rfl⟩ := List.mem_map.mp hx
    exact hb b hm
  simpa using this
theorem nodup_snoc {α : Type} {l : List α} {a : α} (h : l.Nodup) (n : a ∉ l) : (l ++ [a]).Nodup := by
  rw [List.nodup_append]
  exact ⟨h, by simp, fun x hx y hy e => by
    simp only [List.mem_singleton] at hy
    subst hy
    subst e
    exact n hx⟩
end K50
set_option maxRecDepth 100000
set_option maxHeartbeats 4000000
/-! K2: spots and what is met. -/
namespace K50
open PySem PySem.Spec PyProof.Rows L2 DL
/-- the sizes of a graph's data fit -/
structure GrS (G : Gr) : Prop where
  ls : G.scopes.length = G.nodes.length
  ln : G.needs.length = G.nodes.length
  few : G.nodes.length ≤ 100
  ch : ∀ n ∈ G.nodes, n.ch.length ≤ 3 ∧ ∀ c ∈ n.ch, c < G.nodes.length
  vt : ∀ f, Nd.var f ∈ G.nodes → f < G.nodes.length
  sl : ∀ s ∈ G.scopes, s.length ≤ 8
  wd : ∀ n ∈ G.nodes, PyData.strOk n.wd = true
def Gr.n (G : Gr) : Nat := G.nodes.length
def Gr.nd (G : Gr) (u : Nat) : Nd := G.nodes.getD u (.var 0)
def Gr.sc (G : Gr) (u : Nat) : List Nat := G.scopes.getD u []
def Gr.need (G : Gr) (u : Nat) : List Nat := G.needs.getD u []
def Gr.below (G : Gr) (s : Nat × Nat) : List (Nat × Nat) := (G.nd s.1).ch.map fun c => (c, min s.2 (G.sc c).length)
section
variable {G : Gr} {u : Nat}
theorem GrS.nd (S : GrS G) (h : u < G.n) : (G.nodes.map Nd.d)[u]? = some (G.nd u).d := by
  have h' : u < G.nodes.length := h
  simp [Gr.nd, h', List.getD]
theorem GrS.sc (S : GrS G) (h : u < G.n) : (G.scopes.map tnats)[u]? = some (tnats (G.sc u)) := by
  have h' : u < G.scopes.length := by rw [S.ls]; exact h
  simp [Gr.sc, h', List.getD]
theorem GrS.need (S : GrS G) (h : u < G.n) : (G.needs.map tnats)[u]? = some (tnats (G.need u)) := by
  have h' : u < G.needs.length := by rw [S.ln]; exact h
  simp [Gr.need, h', List.getD]
theorem GrS.nd0 (S : GrS G) (h : u < G.n) : G.nodes[u]? = some (G.nd u) := by
  have h' : u < G.nodes.length := h
  simp [Gr.nd, h', List.getD]
theorem GrS.sc0 (S : GrS G) (h : u < G.n) : G.scopes[u]? = some (G.sc u) := by
  have h' : u < G.scopes.length := by rw [S.ls]; exact h
  simp [Gr.sc, h', List.getD]
theorem GrS.ndm (S : GrS G) (h : u < G.n) : G.nd u ∈ G.nodes := by
  have h' : u < G.nodes.length := h
  simp [Gr.nd, h', List.getD]
theorem GrS.chl (S : GrS G) (h : u < G.n) : (G.nd u).ch.length ≤ 3 := (S.ch _ (S.ndm h)).1
theorem GrS.chn (S : GrS G) (h : u < G.n) {c : Nat} (hc : c ∈ (G.nd u).ch) : c < G.n := (S.ch _ (S.ndm h)).2 c hc
theorem GrS.scl (S : GrS G) (u : Nat) : (G.sc u).length ≤ 8 := by
  by_cases h : u < G.scopes.length
  · have : G.sc u ∈ G.scopes := by simp [Gr.sc, h, List.getD]
    exact S.sl _ this
  · simp [Gr.sc, List.getD, h]
end
/-- a graph and a spot of it -/
structure SpotIn where
  G : Gr
  s : Nat × Nat
  S : GrS G
  h : s.1 < G.n
section
variable {P : Program} {w : World} {K : PySem.W.Frag} {mg : Str → Option Value} {base : Heap}
theorem ok_below_spot (Γ : Pg K mg) : FnOk P w K mg base CX0 2 Γ.below_spot.f Γ.below_spot.fd P_below_spot (spD K (fun x : SpotIn => [x.G.d Γ.CM, spotD x.s]) NoC (Ret fun x => .lst ((x.G.below x.s).map spotD))) := by
  refine fn_ok Γ.below_spot.F sc_below_spot (fun _ => rfl) (by decide) (fun cdv A outer s H E hr ⟨G, ⟨u, hd⟩, S, hu⟩ => ?_)
  refine bl_cons (st_asg (ev_v 1 rfl (tg_2 2 3 rfl sc_below_spot.nd (bl_cons (st_ret ?_)))))
  refine ev_mapT [("child", 4)] (fun c : Nat => .int c) (fun c => spotD (c, min hd (G.sc c).length)) rfl sc_below_spot.nd rfl (js := [4]) (by decide) ?_
  refine itx_tup (ev_children Γ hr (ev_ix ix_tup (ev_nodes Γ (ev_v 0 rfl ⟨G, rfl, ev_v 2 rfl (o2_ixT (S.nd hu) ⟨_, rfl, _, rfl, _, rfl, szle (Nat.le_trans (S.chl hu) (by decide)), fun c hc => ⟨fun s H C cl fp => ?_⟩, ?_, rfl⟩)⟩))))
  · have hcn := S.chn hu hc
    refine tg_v 4 sc_below_spot.nd ⟨rfl, fun s H C cl fp => ?_⟩
    refine ev_tup (ag_cons (ev_v 4 rfl (ag_cons (ev_callB (cr_min rfl) Γ.b_min bt_min (ag_cons (ev_lstF (ag_cons (ev_v 3 rfl (ag_cons (ev_callB call_len_seq Γ.b_len bt_len (ag_cons (ev_ix ix_tup (ev_scopes Γ (ev_v 0 rfl ⟨G, rfl, ev_v 4 rfl (o2_ixT (S.sc hcn) (ag_nil (oa_lenS (.inl rfl) (ag_nil ⟨sz, ?_⟩))))⟩))))))))))))))
    refine ag_nil (oa_minL (is := [(hd : Int), ((dnats (G.sc c)).length : Int)]) (Nat.succ_pos _) (fun m hm hy => ?_))
    refine ag_nil ⟨sz, ?_, rfl⟩
    rw [dnats_length] at hm hy
    have h1 := hy hd (by simp)
    have h2 := hy (G.sc c).length (by simp)
    have : m = ((min hd (G.sc c).length : Nat) : Int) := by
      simp only [List.mem_cons, List.not_mem_nil, or_false] at hm
      omega
    rw [this]
    rfl
  · show D.lst _ = D.lst _
    simp only [Gr.below, List.map_map]
    rfl
theorem ok_inner_scope (Γ : Pg K mg) : FnOk P w K mg base CX0 1 Γ.inner_scope.f Γ.inner_scope.fd P_inner_scope (spD K (fun x : SpotIn => [x.G.d Γ.CM, spotD x.s]) NoC (Ret fun x => .lst (((x.G.sc x.s.1).drop x.s.2).map fun f => spotD (f, x.s.2)))) := by
  refine fn_ok Γ.inner_scope.F sc_inner_scope (fun _ => rfl) (by decide) (fun cdv A outer s H E hr ⟨G, ⟨u, hd⟩, S, hu⟩ => ?_)
  refine bl_cons (st_asg (ev_v 1 rfl (tg_2 2 3 rfl sc_inner_scope.nd (bl_cons (st_ret ?_)))))
  refine ev_mapT [("function", 4)] (fun c : Nat => .int c) (fun c => spotD (c, hd)) rfl sc_inner_scope.nd rfl (js := [4]) (by decide) ?_
  refine itx_tup (ev_sl sl_tupA (ev_ix ix_tup (ev_scopes Γ (ev_v 0 rfl ⟨G, rfl, ev_v 2 rfl (o2_ixT (S.sc hu) (po_so (ev_v 3 rfl ⟨_, rfl, po_no (s1_tup ?_)⟩)))⟩))))
  refine ⟨_, rfl, (G.sc u).drop hd, ?_, szle (Nat.le_trans (by rw [List.length_drop]; omega) (Nat.le_trans (S.scl u) (by decide))), fun c _ => ⟨fun s H C cl fp => ?_⟩, rfl, rfl⟩
  · rw [cutD_from, dnats_drop]
    rfl
  · exact tg_v 4 sc_inner_scope.nd ⟨rfl, fun s H C cl fp => ev_tup (ag_cons (ev_v 4 rfl (ag_cons (ev_v 3 rfl (ag_nil ⟨sz, rfl, rfl⟩)))))⟩
def Gr.openAt (G : Gr) (s : Nat × Nat) : Bool := (G.nd s.1).isVar && decide (s.2 = (G.sc s.1).length)
theorem ok_is_open (Γ : Pg K mg) : FnOk P w K mg base CX0 1 Γ.is_open.f Γ.is_open.fd P_is_open (spD K (fun x : SpotIn => [x.G.d Γ.CM, spotD x.s]) NoC (Ret fun x => .bl (x.G.openAt x.s))) := by
  obtain ⟨tV, hV⟩ := Γ.VAR
  refine fn_ok Γ.is_open.F sc_is_open (fun _ => rfl) (by decide) (fun cdv A outer s H E hr ⟨G, ⟨u, hd⟩, S, hu⟩ => ?_)
  refine bl_cons (st_asg (ev_v 1 rfl (tg_2 2 3 rfl sc_is_open.nd (bl_cons (st_ret ?_)))))
  refine ev_and (ev_cmp op_eq (ev_ix ix_tup (ev_ix ix_tup (ev_nodes Γ (ev_v 0 rfl ⟨G, rfl, ev_v 2 rfl (o2_ixT (S.nd hu) ?_)⟩)))))
  cases hn : G.nd u with
  | word x cs =>
    refine ev_int (o2_ixT (n := 0) rfl (ev_gstr hV (o2_seqF ⟨false, rfl, iteF ⟨?_, rfl⟩⟩)))
    simp [Gr.openAt, hn, Nd.isVar]
  | fn c =>
    refine ev_int (o2_ixT (n := 0) rfl (ev_gstr hV (o2_seqF ⟨false, rfl, iteF ⟨?_, rfl⟩⟩)))
    simp [Gr.openAt, hn, Nd.isVar]
  | var g =>
    refine ev_int (o2_ixT (n := 0) rfl (ev_gstr hV (o2_seqT ⟨true, rfl, iteT ?_⟩)))
    refine ev_one (ev_cmp op_eq (ev_v 3 rfl (ev_callB call_len_seq Γ.b_len bt_len (ag_cons (ev_ix ix_tup (ev_scopes Γ (ev_v 0 rfl ⟨G, rfl, ev_v 2 rfl (o2_ixT (S.sc hu) (ag_nil (oa_lenS (.inl rfl) (o2_ieq ⟨?_, rfl⟩))))⟩)))))))
    rw [dnats_length]
    simp only [Gr.openAt, hn, Nd.isVar, Bool.true_and]
    congr 1
    exact decide_eq_decide.mpr (by omega)
/-- what is compared of a spot -/
abbrev Lk := Str × Str × Nat × Bool × Nat
def lkD (x : Lk) : D := .tup [.tup [.str x.1, .str x.2.1, .int x.2.2.1], .bl x.2.2.2.1, .int x.2.2.2.2]
def Gr.lk (G : Gr) (s : Nat × Nat) : Lk := ((G.nd s.1).kind, (G.nd s.1).wd, (G.nd s.1).ch.length, G.openAt s, (G.sc s.1).length - s.2)
theorem ok_look_of_spot (Γ : Pg K mg) : FnOk P w K mg base CX0 3 Γ.look_of_spot.f Γ.look_of_spot.fd P_look_of_spot (spD K (fun x : SpotIn => [x.G.d Γ.CM, spotD x.s]) NoC (Ret fun x => lkD (x.G.lk x.s))) := by
  refine fn_ok Γ.look_of_spot.F sc_look_of_spot (fun _ => rfl) (by decide) (fun cdv A outer s H E hr x => ?_)
  refine bl_cons (st_ret (ev_tup (ag_cons (ev_own (ok_look_of Γ) (hr.mono (by decide)) Γ.look_of.g Γ.look_of.F.kp (bi_look_of Γ) (ag_cons (ev_ix ix_tup (ev_nodes Γ (ev_v 0 rfl ⟨x.G, rfl, ev_ix ix_tup (ev_v 1 rfl (ev_int (o2_ixT (n := 0) rfl (o2_ixT (x.S.nd x.h) (ag_nil ⟨_, rfl, ?_⟩)))))⟩))))))))
  refine ag_cons (ev_own (ok_is_open Γ) (hr.mono (by decide)) Γ.is_open.g Γ.is_open.F.kp (bi_is_open Γ) (ag_cons (ev_v 0 rfl (ag_cons (ev_v 1 rfl (ag_nil ⟨x, rfl, ?_⟩))))))
  refine ag_cons (ev_callB call_len_seq Γ.b_len bt_len (ag_cons (ev_own (ok_inner_scope Γ) (hr.mono (by decide)) Γ.inner_scope.g Γ.inner_scope.F.kp (bi_inner_scope Γ) (ag_cons (ev_v 0 rfl (ag_cons (ev_v 1 rfl (ag_nil ⟨x, rfl, ag_nil (oa_lenS (.inr rfl) (ag_nil ⟨sz, ?_, rfl⟩))⟩))))))))
  simp [lkD, Gr.lk, Nd.look]
theorem beq_str (x y : Str) : (x == y) = decide (x = y) := by
  by_cases h : x = y
  · subst h; simp
  · simp [h]
theorem lk_eqv (x y : Lk) : PyData.eqv (lkD x).py (lkD y).py = decide (x = y) := by
  obtain ⟨x1, x2, x3, x4, x5⟩ := x
  obtain ⟨y1, y2, y3, y4, y5⟩ := y
  simp only [lkD, D.py, D.pys, PyData.eqv, PyData.eqvAll, beq_str, Bool.and_true, Prod.mk.injEq]
  rw [Bool.eq_iff_iff]
  simp only [Bool.and_eq_true, decide_eq_true_eq, beq_iff_eq, Int.ofNat_inj]
  constructor
  · rintro ⟨⟨h1, h2, h3⟩, h4, h5⟩; exact ⟨h1, h2, h3, h4, h5⟩
  · rintro ⟨h1, h2, h3, h4, h5⟩; exact ⟨⟨h1, h2, h3⟩, h4, h5⟩
theorem lk_shaped (x : Lk) (h1 : PyData.strOk x.1 = true) (h2 : PyData.strOk x.2.1 = true) : SeqAt.shaped (lkD x).py = true := by
  obtain ⟨x1, x2, x3, x4, x5⟩ := x
  simp only at h1 h2
  simp [SeqAt.shaped, lkD, D.py, D.pys, PyData.canLay0, PyData.canLayAll0, h1, h2, PyData.depth, PyData.depthAll]
theorem kind_ok (n : Nd) : PyData.strOk n.kind = true := by
  cases n with
  | word _ _ => exact (show PyData.strOk ("word" : Str) = true by decide +kernel)
  | fn _ => exact (show PyData.strOk ("fun" : Str) = true by decide +kernel)
  | var _ => exact (show PyData.strOk ("var" : Str) = true by decide +kernel)
end
end K50
set_option maxRecDepth 100000
set_option maxHeartbeats 4000000
/-! K3: what is met of two parts. -/
namespace K50
open PySem PySem.Spec PyProof.Rows L2 DL
abbrev Spot := Nat × Nat
abbrev SP := Spot × Spot
def pairD (p : SP) : D := .tup [spotD p.1, spotD p.2]
/-- the pairs that are met right below a pair -/
def nextP (G H : Gr) (p : SP) : List SP := (G.below p.1).zip (H.below p.2)
def lkEq (G H : Gr) (p : SP) : Prop := G.lk p.1 = H.lk p.2
instance (G H : Gr) (p : SP) : Decidable (lkEq G H p) := inferInstanceAs (Decidable (_ = _))
/-- the pairs that are met from a start on, below pairs that look alike -/
inductive Met (G H : Gr) (st : SP) : SP → Prop
  | start : Met G H st st
  | step {p q : SP} : Met G H st p → lkEq G H p → q ∈ nextP G H p → Met G H st q
def Gr.spotOf (G : Gr) (u : Nat) : Spot := (u, (G.sc u).length)
/-- two graphs, a node of each -/
structure TwoIn where
  G : Gr
  u : Nat
  H : Gr
  v : Nat
  SG : GrS G
  SH : GrS H
  hu : u < G.n
  hv : v < H.n
def TwoIn.st (x : TwoIn) : SP := (x.G.spotOf x.u, x.H.spotOf x.v)
/-- the bounds of a pair -/
structure PB (G H : Gr) (p : SP) : Prop where
  a : p.1.1 < G.n
  b : p.2.1 < H.n
  c : p.1.2 ≤ 8
  d : p.2.2 ≤ 8
theorem below_pb {G H : Gr} (SG : GrS G) (SH : GrS H) {p q : SP} (B : PB G H p) (h : q ∈ nextP G H p) : PB G H q := by
  obtain ⟨h1, h2⟩ := List.of_mem_zip h
  obtain ⟨c, hc, e1⟩ := List.mem_map.mp h1
  obtain ⟨d, hd, e2⟩ := List.mem_map.mp h2
  refine ⟨?_, ?_, ?_, ?_⟩
  · rw [← e1]; exact SG.chn B.a hc
  · rw [← e2]; exact SH.chn B.b hd
  · rw [← e1]; exact Nat.le_trans (Nat.min_le_left _ _) B.c
  · rw [← e2]; exact Nat.le_trans (Nat.min_le_left _ _) B.d
theorem TwoIn.pb (x : TwoIn) : PB x.G x.H x.st := ⟨x.hu, x.hv, x.SG.scl _, x.SH.scl _⟩
theorem met_pb {x : TwoIn} {p : SP} (h : Met x.G x.H x.st p) : PB x.G x.H p := by
  induction h with
  | start => exact x.pb
  | step _ _ hq ih => exact below_pb x.SG x.SH ih hq
def spCode (p : SP) : Nat := ((p.1.1 * 9 + p.1.2) * 100 + p.2.1) * 9 + p.2.2
theorem sp_few {G H : Gr} (SG : GrS G) (SH : GrS H) {l : List SP} (nd : l.Nodup) (hb : ∀ p ∈ l, PB G H p) : l.length ≤ 810000 := by
  have f1 : G.n ≤ 100 := SG.few
  have f2 : H.n ≤ 100 := SH.few
  refine nodup_code spCode 810000 nd (fun p hp q hq e => ?_) fun p hp => ?_
  · have b1 := hb p hp
    have b2 := hb q hq
    obtain ⟨⟨p1, p2⟩, p3, p4⟩ := p
    obtain ⟨⟨q1, q2⟩, q3, q4⟩ := q
    have := b1.a; have := b1.b; have := b1.c; have := b1.d
    have := b2.a; have := b2.b; have := b2.c; have := b2.d
    simp only [spCode] at *
    have : p4 = q4 := by omega
    have : p3 = q3 := by omega
    have : p2 = q2 := by omega
    have : p1 = q1 := by omega
    simp [*]
  · have b1 := hb p hp
    obtain ⟨⟨p1, p2⟩, p3, p4⟩ := p
    have := b1.a; have := b1.b; have := b1.c; have := b1.d
    simp only [spCode] at *
    omega
theorem pair_ok (p : SP) : (pairD p).keyOk = true := rfl
theorem spot_plain (s : Spot) : Plain (spotD s) := ⟨rfl, by simp [spotD, D.py, D.pys, PyData.canLay0, PyData.canLayAll0], by simp [spotD, D.py, D.pys, PyData.depth, PyData.depthAll]⟩
theorem pair_plain (p : SP) : Plain (pairD p) := ⟨rfl, by simp [pairD, spotD, D.py, D.pys, PyData.canLay0, PyData.canLayAll0], by simp [pairD, spotD, D.py, D.pys, PyData.depth, PyData.depthAll]⟩
theorem keyOk_map {α : Type} {f : α → D} (h : ∀ x, (f x).keyOk = true) {l : List α} {k : D} (hk : k ∈ l.map f) : k.keyOk = true := by
  obtain ⟨x, _, rfl⟩ := List.mem_map.mp hk
  exact h x
theorem iteT' {b : Bool} {p q : Prop} (h : b = true) (k : p) : if b = true then p else q := by rw [if_pos h]; exact k
theorem iteF' {b : Bool} {p q : Prop} (h : b = false) (k : q) : if b = true then p else q := by rw [if_neg (by simp [h])]; exact k
theorem pair_inj {p q : SP} (h : (pairD p).key = (pairD q).key) : p = q := by
  obtain ⟨⟨p1, p2⟩, p3, p4⟩ := p
  obtain ⟨⟨q1, q2⟩, q3, q4⟩ := q
  simp only [D.key, pairD, spotD, D.py, D.pys, pkey, pkeys, NestedKey.tup.injEq, List.cons.injEq, NestedKey.num.injEq, Int.ofNat_inj, and_true] at h
  simp [h]
theorem pair_mem {p : SP} {l : List SP} : (pairD p).key ∈ (l.map pairD).map D.key ↔ p ∈ l := by
  rw [List.map_map, List.mem_map]
  constructor
  · rintro ⟨q, hq, e⟩
    rw [← pair_inj e]; exact hq
  · exact fun h => ⟨p, h, rfl⟩
theorem pair_dec {p : SP} {l : List SP} : decide ((pairD p).key ∈ (l.map pairD).map D.key) = decide (p ∈ l) := decide_eq_decide.mpr pair_mem
/-- what is known ahead of each draw -/
structure MInv (G H : Gr) (st : SP) (fd wt : List SP) : Prop where
  nd : fd.Nodup
  h0 : st ∈ fd
  met : ∀ p ∈ fd, Met G H st p
  sub : ∀ p ∈ wt, p ∈ fd
  ln : wt.length ≤ fd.length
  done : ∀ p ∈ fd, p ∉ wt → lkEq G H p ∧ ∀ q ∈ nextP G H p, q ∈ fd
/-- .. amid the pairs below p -/
structure MMid (G H : Gr) (st p : SP) (qs : List SP) (fd wt : List SP) : Prop where
  nd : fd.Nodup
  h0 : st ∈ fd
  met : ∀ p ∈ fd, Met G H st p
  sub : ∀ p ∈ wt, p ∈ fd
  ln : wt.length ≤ fd.length
  pin : p ∈ fd
  lk : lkEq G H p
  done : ∀ r ∈ fd, r ∉ wt → r ≠ p → lkEq G H r ∧ ∀ q ∈ nextP G H r, q ∈ fd
  qs : ∀ q ∈ qs, q ∈ fd
theorem MInv.pop {G H : Gr} {st p : SP} {fd wt : List SP} (h : MInv G H st fd (wt ++ [p])) (e : lkEq G H p) : MMid G H st p [] fd wt :=
  ⟨h.nd, h.h0, h.met, fun q hq => h.sub q (by simp [hq]), by have := h.ln; simp at this; omega, h.sub p (by simp), e, fun r hr hn hp => h.done r hr (by simp [hn, hp]), by simp⟩
theorem MMid.old {G H : Gr} {st p q : SP} {qs fd wt : List SP} (h : MMid G H st p qs fd wt) (hq : q ∈ fd) : MMid G H st p (qs ++ [q]) fd wt :=
  ⟨h.nd, h.h0, h.met, h.sub, h.ln, h.pin, h.lk, h.done, fun r hr => by
    rcases List.mem_append.mp hr with hr | hr
    · exact h.qs r hr
    · simp only [List.mem_singleton] at hr; subst hr; exact hq⟩
theorem MMid.new {G H : Gr} {st p q : SP} {qs fd wt : List SP} (h : MMid G H st p qs fd wt) (hq : q ∈ nextP G H p) (hn : q ∉ fd) : MMid G H st p (qs ++ [q]) (fd ++ [q]) (wt ++ [q]) where
  nd := nodup_snoc h.nd hn
  h0 := by simp [h.h0]
  met := fun r hr => by
    rcases List.mem_append.mp hr with hr | hr
    · exact h.met r hr
    · simp only [List.mem_singleton] at hr; subst hr; exact .step (h.met p h.pin) h.lk hq
  sub := fun r hr => by
    rcases List.mem_append.mp hr with hr | hr
    · simp [h.sub r hr]
    · simp only [List.mem_singleton] at hr; subst hr; simp
  ln := by have := h.ln; simp; exact this
  pin := by simp [h.pin]
  lk := h.lk
  done := fun r hr hw hp => by
    rcases List.mem_append.mp hr with hr | hr
    · have := h.done r hr (fun z => hw (by simp [z])) hp
      exact ⟨this.1, fun x hx => by simp [this.2 x hx]⟩
    · exact absurd (by simp only [List.mem_singleton] at hr; subst hr; simp) hw
  qs := fun r hr => by
    rcases List.mem_append.mp hr with hr | hr
    · simp [h.qs r hr]
    · simp only [List.mem_singleton] at hr; subst hr; simp
theorem MMid.all {G H : Gr} {st p : SP} {fd wt : List SP} (h : MMid G H st p (nextP G H p) fd wt) : MInv G H st fd wt where
  nd := h.nd
  h0 := h.h0
  met := h.met
  sub := h.sub
  ln := h.ln
  done := fun r hr hw => by
    by_cases e : r = p
    · subst e; exact ⟨h.lk, h.qs⟩
    · exact h.done r hr hw e
theorem MInv.whole {G H : Gr} {st : SP} {fd : List SP} (h : MInv G H st fd []) : (∀ p, p ∈ fd ↔ Met G H st p) ∧ ∀ p ∈ fd, lkEq G H p := by
  refine ⟨fun p => ⟨h.met p, fun m => ?_⟩, fun p hp => (h.done p hp (by simp)).1⟩
  induction m with
  | start => exact h.h0
  | step _ _ hq ih => exact (h.done _ ih (by simp)).2 _ hq
/-- what met_spots gives -/
def MetPost (x : TwoIn) (d : D) : Prop := (d = .non ∧ ∃ p, Met x.G x.H x.st p ∧ ¬ lkEq x.G x.H p) ∨ ∃ fd : List SP, d = .lst (fd.map pairD) ∧ fd.Nodup ∧ (∀ p, p ∈ fd ↔ Met x.G x.H x.st p) ∧ ∀ p ∈ fd, lkEq x.G x.H p
section
variable {P : Program} {w : World} {K : PySem.W.Frag} {mg : Str → Option Value} {base : Heap}
def metGam (CM : Addr) (x : TwoIn) (a b : Addr) (o1 o2 o3 : Option D) : Gam := [some (x.G.d CM), some (.int x.u), some (x.H.d CM), some (.int x.v), some (pairD x.st), some (.ref a), some (.ref b), o1, o2, o3]
def metL (P : Program) (w : World) (a b : Addr) (fd wt : List SP) : Cells := [(a, dNP P w (fd.map pairD) (fd.map fun _ => .bl true)), (b, .lst (wt.map pairD))]
theorem lk_ok {G : Gr} (S : GrS G) {s : Spot} (h : s.1 < G.n) : SeqAt.shaped (lkD (G.lk s)).py = true := lk_shaped _ (kind_ok _) (S.wd _ (S.ndm h))
theorem ok_met_spots (Γ : Pg K mg) : FnOk P w K mg base CX0 4 Γ.met_spots.f Γ.met_spots.fd P_met_spots (spD K (fun x : TwoIn => [x.G.d Γ.CM, .int x.u, x.H.d Γ.CM, .int x.v]) NoC (fun x d L => MetPost x d ∧ L = [])) := by
  refine fn_ok Γ.met_spots.F sc_met_spots (fun _ => rfl) (by decide) (fun cdv A outer s H E hr x => ?_)
  have nd := sc_met_spots.nd
  refine bl_cons (st_set 4 nd (ev_tup (ag_cons (ev_own (ok_spot_of Γ) (hr.mono (by decide)) Γ.spot_of.g Γ.spot_of.F.kp (bi_spot_of Γ) (ag_cons (ev_v 0 rfl (ag_cons (ev_v 1 rfl (ag_nil ⟨⟨x.G, x.u, x.G.nd x.u, x.G.sc x.u, ?_, ?_⟩, rfl, ?_⟩)))))))))
  · exact x.SG.nd0 x.hu
  · exact x.SG.sc0 x.hu
  refine ag_cons (ev_own (ok_spot_of Γ) (hr.mono (by decide)) Γ.spot_of.g Γ.spot_of.F.kp (bi_spot_of Γ) (ag_cons (ev_v 2 rfl (ag_cons (ev_v 3 rfl (ag_nil ⟨⟨x.H, x.v, x.H.nd x.v, x.H.sc x.v, ?_, ?_⟩, rfl, ?_⟩))))))
  · exact x.SH.nd0 x.hv
  · exact x.SH.sc0 x.hv
  refine ag_nil ⟨sz, ?_⟩
  refine bl_cons (st_par 5 6 rfl nd (by decide) (ag_cons (ev_None (by have := hr.units; omega) (fun a => ev_v 4 rfl (ev_bl ⟨0, rfl, pair_ok x.st, ag_cons (ev_lst (ag_cons (ev_v 4 rfl (ag_nil ⟨sz, fun b => ag_nil ⟨_, _, rfl, ?_⟩⟩))))⟩)))))
  refine bl_cons (st_while (fun m Γ' L' => ∃ o1 o2 o3 fd wt, Γ' = metGam Γ.CM x a b o1 o2 o3 ∧ L' = metL P w a b fd wt ∧ MInv x.G x.H x.st fd wt ∧ m = 2 * (810000 - fd.length) + wt.length) _ ⟨none, none, none, [x.st], [x.st], rfl, rfl, ⟨by simp, by simp, by simpa using .start, by simp, by simp, by simp⟩, rfl⟩ fun m Γ' L' hW => ?_)
  obtain ⟨o1, o2, o3, fd, wt, rfl, rfl, I, rfl⟩ := hW
  have hfw : ∀ {fd : List SP}, fd.Nodup → (∀ p ∈ fd, Met x.G x.H x.st p) → fd.length ≤ 810000 := fun nd h => sp_few x.SG x.SH nd fun p hp => met_pb (h p hp)
  refine te_cmp (op_neD hr.units) (ev_v 6 rfl (ev_lstF (ag_nil ⟨sz, o2_neNil (k := 1) rfl (fun d hd => ?_) ⟨_, rfl, ?_⟩⟩)))
  · obtain ⟨p, _, rfl⟩ := List.mem_map.mp hd
    exact pair_plain p
  rcases List.eq_nil_or_concat wt with rfl | ⟨wt, p, rfl⟩
  · refine iteF (bl_cons (st_retD (ev_fz (ev_callTy (n_list rfl) Γ.b_list bt_list (ag_cons (ev_v 5 rfl (ag_nil (oa_listN (j := 0) rfl ?_ ?_ fun p => ?_))))))))
    · exact fun k hk => keyOk_map pair_ok hk
    · simp
    · exact ⟨2, p, .lst (fd.map pairD), rfl, rfl, .inr ⟨fd, rfl, I.nd, I.whole.1, I.whole.2⟩, rfl⟩
  · rw [List.concat_eq_append] at I ⊢
    have hp : p ∈ fd := I.sub p (by simp)
    have pb := met_pb (I.met p hp)
    have hfd := hfw I.nd I.met
    refine iteT' (by simp) (bl_cons (st_asg (ev_pop (ev_v 6 rfl ⟨1, b, wt.map pairD, pairD p, rfl, ?_, tg_2 7 8 rfl nd ?_⟩))))
    · simp [metL]
    refine bl_cons (st_if (te_cmp (op_neD hr.units) (ev_own (ok_look_of_spot Γ) hr Γ.look_of_spot.g Γ.look_of_spot.F.kp (bi_look_of_spot Γ) (ag_cons (ev_v 0 rfl (ag_cons (ev_v 7 rfl (ag_nil ⟨⟨x.G, p.1, x.SG, pb.a⟩, rfl, ?_⟩))))))))
    refine ev_own (ok_look_of_spot Γ) hr Γ.look_of_spot.g Γ.look_of_spot.F.kp (bi_look_of_spot Γ) (ag_cons (ev_v 2 rfl (ag_cons (ev_v 8 rfl (ag_nil ⟨⟨x.H, p.2, x.SH, pb.b⟩, rfl, o2_neD rfl rfl (lk_ok x.SG pb.a) (lk_ok x.SH pb.b) (lk_eqv _ _) ⟨_, rfl, ?_⟩⟩)))))
    by_cases hlk : x.G.lk p.1 = x.H.lk p.2
    · refine iteF' (by simp [hlk]) (bl_nil ?_)
      have hl : (x.G.below p.1).length = (x.H.below p.2).length := by
        have : x.G.lk p.1 = x.H.lk p.2 := hlk
        simp only [Gr.lk, Prod.mk.injEq] at this
        simpa [Gr.below] using this.2.2.1
      refine bl_cons (st_for (js := [9]) rfl (itx_zipS Γ.b_zip (ag_cons (ev_own (ok_below_spot Γ) (hr.mono (by decide)) Γ.below_spot.g Γ.below_spot.F.kp (bi_below_spot Γ) (ag_cons (ev_v 0 rfl (ag_cons (ev_v 7 rfl (ag_nil ⟨⟨x.G, p.1, x.SG, pb.a⟩, rfl, ?_⟩)))))))))
      refine ag_cons (ev_own (ok_below_spot Γ) (hr.mono (by decide)) Γ.below_spot.g Γ.below_spot.F.kp (bi_below_spot Γ) (ag_cons (ev_v 2 rfl (ag_cons (ev_v 8 rfl (ag_nil ⟨⟨x.H, p.2, x.SH, pb.b⟩, rfl, ?_⟩))))))
      refine ag_nil (ev_bl ⟨_, _, rfl, rfl, by simpa using hl, fun i Γ' L' => ∃ o3 fd' wt', Γ' = metGam Γ.CM x a b (some (spotD p.1)) (some (spotD p.2)) o3 ∧ L' = metL P w a b fd' wt' ∧ MMid x.G x.H x.st p ((nextP x.G x.H p).take i) fd' wt' ∧ 2 * (810000 - fd'.length) + wt'.length ≤ 2 * (810000 - fd.length) + wt.length, ⟨o3, fd, wt, rfl, ?_, I.pop hlk, Nat.le_refl _⟩, ?_, ?_⟩)
      · simp [metL]
      · rintro i d Γ' L' hd ⟨o3, fd', wt', rfl, rfl, M, hm⟩
        rw [zipD_map] at hd
        obtain ⟨q, hq, rfl⟩ := map_get hd
        have hq' : (nextP x.G x.H p)[i]? = some q := hq
        have hqm : q ∈ nextP x.G x.H p := List.mem_of_getElem? hq'
        have hfd' := hfw M.nd M.met
        refine tg_v 9 nd (bl_cons (st_if (te_cmp (op_Nnot (by have := hr.units; omega)) (ev_v 9 rfl (ev_v 5 rfl (o2_N (neg := true) (k := pairD q) (j := 0) rfl ?_ ?_ (pair_ok q) pair_dec ⟨_, rfl, ?_⟩))))))
        · exact fun k hk => keyOk_map pair_ok hk
        · simp
        by_cases hm2 : q ∈ fd'
        · refine iteF' (by simp [hm2]) (bl_nil (bl_nil ⟨some (pairD q), fd', wt', rfl, rfl, ?_, hm⟩))
          rw [L2.take_next hq']
          exact M.old hm2
        · have hnew := M.new hqm hm2
          have hlen := hfw hnew.nd hnew.met
          rw [List.length_append] at hlen
          simp only [List.length_cons, List.length_nil] at hlen
          refine iteT' (by simp [hm2]) (bl_cons (st_Nput (by have := hr.units; omega) (ev_bl (ev_v 5 rfl (ev_v 9 rfl ⟨0, a, _, _, rfl, rfl, fun k hk => keyOk_map pair_ok hk, by simp, pair_ok q, fun z => hm2 (pair_mem.mp z), by rw [List.length_map]; exact szlt (by omega), ?_⟩)))))
          refine bl_cons (st_append (ev_v 6 rfl ⟨1, b, wt'.map pairD, rfl, rfl, ev_v 9 rfl ⟨1, wt'.map pairD, rfl, ?_, bl_nil (bl_nil ⟨some (pairD q), fd' ++ [q], wt' ++ [q], rfl, ?_, ?_, ?_⟩)⟩⟩))
          · rw [List.length_map]
            exact szlt (Nat.le_trans M.ln (Nat.le_trans hfd' (by decide)))
          · simp only [metL, List.map_append, List.map_cons, List.map_nil]
            rfl
          · rw [L2.take_next hq']
            exact hnew
          · simp only [List.length_append, List.length_cons, List.length_nil]
            omega
      · rintro Γ' L' ⟨o3, fd', wt', rfl, rfl, M, hm⟩
        rw [zipD_map] at M
        have e : (nextP x.G x.H p).take ((x.G.below p.1).zip (x.H.below p.2)).length = nextP x.G x.H p := List.take_length
        rw [List.length_map, e] at M
        refine bl_nil ⟨_, ?_, _, _, _, fd', wt', rfl, rfl, M.all, rfl⟩
        simp only [List.length_append, List.length_cons, List.length_nil]
        omega
    · refine iteT' (by simp [hlk]) (bl_cons (st_retD (ev_non ⟨.inl ⟨rfl, p, I.met p hp, hlk⟩, rfl⟩)))
end
end K50
set_option maxRecDepth 100000
set_option maxHeartbeats 4000000
/-! K4: the change between two parts. -/
namespace K50
open PySem PySem.Spec PyProof.Rows L2 DL
def Gr.tg (G : Gr) (u : Nat) : Nat := match G.nd u with
  | .var f => f
  | _ => 0
theorem GrS.tgl {G : Gr} (S : GrS G) {u : Nat} (h : u < G.n) (hv : (G.nd u).isVar = true) : G.tg u < 100 := by
  unfold Gr.tg
  have hm := S.ndm h
  cases e : G.nd u with
  | var f =>
    rw [e] at hm
    exact Nat.lt_of_lt_of_le (S.vt f hm) S.few
  | word _ _ => rw [e] at hv; cases hv
  | fn _ => rw [e] at hv; cases hv
theorem tg_var {G : Gr} {u : Nat} (hv : (G.nd u).isVar = true) : G.nd u = .var (G.tg u) := by
  unfold Gr.tg
  cases e : G.nd u with
  | var f => rfl
  | word _ _ => rw [e] at hv; cases hv
  | fn _ => rw [e] at hv; cases hv
/-- the functions to which a pair of open variables belongs -/
def opPr (G H : Gr) (p : SP) : Nat × Nat := (G.tg p.1.1, H.tg p.2.1)
/-- ascending -/
def Srt (ps : List (Nat × Nat)) : Prop := ps.Pairwise fun a b => a.1 * 128 + a.2 < b.1 * 128 + b.2
/-- pairs of functions are few -/
def FewOp (G H : Gr) (P : SP → Prop) : Prop := ∀ l : List (Nat × Nat), l.Nodup → (∀ q ∈ l, ∃ p, P p ∧ G.openAt p.1 = true ∧ q = opPr G H p) → l.length + 1 < 64
structure OpIn where
  G : Gr
  H : Gr
  SG : GrS G
  SH : GrS H
  fd : List SP
  pb : ∀ p ∈ fd, PB G H p
  lk : ∀ p ∈ fd, lkEq G H p
  ln : fd.length ≤ 1000000
  few : FewOp G H (· ∈ fd)
def OpPost (x : OpIn) (d : D) : Prop := ∃ ps : List (Nat × Nat), d = .lst (ps.map spotD) ∧ Srt ps ∧ ∀ q, q ∈ ps ↔ ∃ p ∈ x.fd, x.G.openAt p.1 = true ∧ q = opPr x.G x.H p
theorem lk_open {G H : Gr} {p : SP} (h : lkEq G H p) : H.openAt p.2 = G.openAt p.1 := by
  have h' : G.lk p.1 = H.lk p.2 := h
  simp only [Gr.lk, Prod.mk.injEq] at h'
  exact h'.2.2.2.1.symm
theorem open_var {G : Gr} {s : Spot} (h : G.openAt s = true) : (G.nd s.1).isVar = true := by
  simp only [Gr.openAt, Bool.and_eq_true] at h
  exact h.1
/-- two numbers as a list of ints -/
def pI (q : Nat × Nat) : List Int := [(q.1 : Int), (q.2 : Int)]
theorem pI_inj {a b : Nat × Nat} (h : pI a = pI b) : a = b := by
  simp only [pI, List.cons.injEq, Int.ofNat_inj, and_true] at h
  exact Prod.ext h.1 h.2
theorem pI_code (q : Nat × Nat) : TS.code 128 (pI q) = ((q.1 * 128 + q.2 : Nat) : Int) := by
  simp [pI, TS.code]
/-- sorted rows of such lists come from sorted pairs -/
theorem pairs_of {l : List (Nat × Nat)} {kss : List (List Int)} (nd : kss.Nodup) (hm : ∀ k, k ∈ kss ↔ k ∈ l.map pI) {kss' : List (List Int)} (pm : kss'.Perm kss) (pw : kss'.Pairwise fun x y => TS.code 128 x ≤ TS.code 128 y) (hb : ∀ q ∈ l, q.2 < 128) :
    ∃ ps : List (Nat × Nat), kss' = ps.map pI ∧ Srt ps ∧ ∀ q, q ∈ ps ↔ q ∈ l := by
  have nd' : kss'.Nodup := pm.nodup_iff.mpr nd
  have hm' : ∀ k, k ∈ kss' ↔ k ∈ l.map pI := fun k => by rw [pm.mem_iff, hm]
  have key : ∀ ks : List (List Int), (∀ k ∈ ks, k ∈ l.map pI) → ∃ ps : List (Nat × Nat), ks = ps.map pI ∧ ∀ q ∈ ps, q ∈ l := by
    intro ks
    induction ks with
    | nil => exact fun _ => ⟨[], rfl, by simp⟩
    | cons k ks ih =>
      intro h
      obtain ⟨ps, e, hp⟩ := ih fun x hx => h x (by simp [hx])
      obtain ⟨q, hq, rfl⟩ := List.mem_map.mp (h k (by simp))
      refine ⟨q :: ps, by rw [List.map_cons, ← e], fun x hx => ?_⟩
      rcases List.mem_cons.mp hx with rfl | hx
      · exact hq
      · exact hp x hx
  obtain ⟨ps, e, hp⟩ := key kss' fun k hk => (hm' k).mp hk
  refine ⟨ps, e, ?_, fun q => ⟨hp q, fun hq => ?_⟩⟩
  · subst e
    rw [List.pairwise_map] at pw
    have nd2 := List.Pairwise.of_map (R := fun a b : Nat × Nat => a ≠ b) pI (fun a b hne z => hne (congrArg pI z)) nd'
    refine (List.Pairwise.and_mem.mp (pw.and nd2)).imp ?_
    rintro a b ⟨ha, hb', h1, h2⟩
    rw [pI_code, pI_code] at h1
    have h3 := Int.ofNat_le.mp h1
    have b1 := hb a (hp a ha)
    have b2 := hb b (hp b hb')
    rcases Nat.lt_or_eq_of_le h3 with h4 | h4
    · exact h4
    · exact absurd (Prod.ext (by omega) (by omega)) h2
  · have : pI q ∈ kss' := (hm' _).mpr (List.mem_map_of_mem hq)
    rw [e] at this
    obtain ⟨r, hr, e2⟩ := List.mem_map.mp this
    rw [← pI_inj e2]
    exact hr
section
variable {P : Program} {w : World} {K : PySem.W.Frag} {mg : Str → Option Value} {base : Heap}
theorem ok_open_pairs (Γ : Pg K mg) : FnOk P w K mg base CX0 2 Γ.open_pairs.f Γ.open_pairs.fd P_open_pairs (spD K (fun x : OpIn => [x.G.d Γ.CM, x.H.d Γ.CM, .lst (x.fd.map pairD)]) NoC (fun x d L => OpPost x d ∧ L = [])) := by
  refine fn_ok Γ.open_pairs.F sc_open_pairs (fun _ => rfl) (by decide) (fun cdv A outer s H E hr x => ?_)
  have nd := sc_open_pairs.nd
  refine bl_cons (st_selT 3 [("one", 4), ("two", 5)] pairD (fun p => .tup [.int p.1.1, .int p.2.1]) (fun p => x.G.openAt p.1) rfl nd rfl (js := [4, 5]) (by decide) (itx_list (ev_v 2 rfl ⟨_, rfl, x.fd, rfl, szle x.ln, fun p hp => ⟨fun s H C cl fp => ?_⟩, ?_⟩)))
  · refine tg_2 4 5 rfl nd ⟨rfl, fun s H C cl fp => ?_⟩
    refine te_val (ev_own (ok_is_open Γ) hr Γ.is_open.g Γ.is_open.F.kp (bi_is_open Γ) (ag_cons (ev_v 0 rfl (ag_cons (ev_v 4 rfl (ag_nil ⟨⟨x.G, p.1, x.SG, (x.pb p hp).a⟩, rfl, _, rfl, rfl, rfl, fun _ s H C cl fp => ?_⟩))))))
    refine ev_tup (ag_cons (ev_ix ix_tup (ev_v 4 rfl (ev_int (o2_ixT (n := 0) rfl (ag_cons (ev_ix ix_tup (ev_v 5 rfl (ev_int (o2_ixT (n := 0) rfl (ag_nil ⟨sz, rfl, rfl⟩)))))))))))
  · have hmem : ∀ p ∈ x.fd.filter fun p => x.G.openAt p.1, p ∈ x.fd ∧ x.G.openAt p.1 = true := fun p hp => List.mem_filter.mp hp
    have hvar : ∀ p ∈ x.fd.filter fun p => x.G.openAt p.1, (x.G.nd p.1.1).isVar = true ∧ (x.H.nd p.2.1).isVar = true := fun p hp => by
      obtain ⟨h1, h2⟩ := hmem p hp
      exact ⟨open_var h2, open_var (by rw [lk_open (x.lk p h1)]; exact h2)⟩
    refine bl_cons (st_retD (ev_fz (ev_callB (cr_sortedT rfl) Γ.b_sorted bt_sorted (ag_cons (ev_scT [("one", 4), ("two", 5)] (fun p : SP => .tup [.int p.1.1, .int p.2.1]) (fun p => pI (opPr x.G x.H p)) rfl hr.units nd rfl (js := [4, 5]) (by decide) (itx_list (ev_v 3 rfl ⟨_, rfl, x.fd.filter fun p => x.G.openAt p.1, rfl, ?_, fun p hp => ⟨fun s H C cl fp => ?_⟩, fun a kss nk hk => ?_⟩)))))))
    · intro kss nk hk
      have key : ∀ ks : List (List Int), (∀ k ∈ ks, k ∈ (x.fd.filter fun p => x.G.openAt p.1).map fun p => pI (opPr x.G x.H p)) → ∃ qs : List (Nat × Nat), ks = qs.map pI ∧ ∀ q ∈ qs, ∃ p, p ∈ x.fd ∧ x.G.openAt p.1 = true ∧ q = opPr x.G x.H p := by
        intro ks
        induction ks with
        | nil => exact fun _ => ⟨[], rfl, by simp⟩
        | cons k ks ih =>
          intro h
          obtain ⟨qs, e, hq⟩ := ih fun y hy => h y (by simp [hy])
          obtain ⟨p, hp, rfl⟩ := List.mem_map.mp (h k (by simp))
          refine ⟨opPr x.G x.H p :: qs, by rw [List.map_cons, ← e], fun y hy => ?_⟩
          rcases List.mem_cons.mp hy with rfl | hy
          · exact ⟨p, (hmem p hp).1, (hmem p hp).2, rfl⟩
          · exact hq y hy
      obtain ⟨qs, e, hq⟩ := key kss hk
      subst e
      rw [List.length_map]
      exact x.few qs (List.Pairwise.of_map (R := fun a b : Nat × Nat => a ≠ b) pI (fun a b hne z => hne (congrArg pI z)) nk) hq
    · have h1 := (hmem p hp).1
      obtain ⟨v1, v2⟩ := hvar p hp
      refine tg_2 4 5 rfl nd ⟨rfl, fun s H C cl fp => ?_⟩
      refine ev_tup (ag_cons (ev_ix ix_tup (ev_ix ix_tup (ev_nodes Γ (ev_v 0 rfl ⟨x.G, rfl, ev_v 4 rfl (o2_ixT (x.SG.nd (x.pb p h1).a) ?_)⟩)))))
      rw [tg_var v1]
      refine ev_int (o2_ixT (n := 1) rfl (ag_cons (ev_ix ix_tup (ev_ix ix_tup (ev_nodes Γ (ev_v 1 rfl ⟨x.H, rfl, ev_v 5 rfl (o2_ixT (x.SH.nd (x.pb p h1).b) ?_)⟩))))))
      rw [tg_var v2]
      exact ev_int (o2_ixT (n := 1) rfl (ag_nil ⟨sz, rfl, rfl⟩))
    · have hb : ∀ q ∈ kss, q.length = 2 ∧ TS.Bd 128 q := fun q hq => by
        obtain ⟨p, hp, rfl⟩ := List.mem_map.mp ((hk q).mp hq)
        obtain ⟨v1, v2⟩ := hvar p hp
        have h1 := (hmem p hp).1
        have t1 := x.SG.tgl (x.pb p h1).a v1
        have t2 := x.SH.tgl (x.pb p h1).b v2
        refine ⟨rfl, fun m hm => ?_⟩
        simp only [pI, opPr, List.mem_cons, List.not_mem_nil, or_false] at hm
        rcases hm with rfl | rfl
        · exact ⟨by omega, by omega⟩
        · exact ⟨by omega, by omega⟩
      refine ag_nil (oa_sortedT (k := 0) 2 128 (by decide) rfl hb fun p kss' pm pw => ?_)
      have hk' : ∀ k, k ∈ kss ↔ k ∈ ((x.fd.filter fun p => x.G.openAt p.1).map (opPr x.G x.H)).map pI := fun k => by rw [hk, List.map_map]; rfl
      obtain ⟨ps, e, hs, hmm⟩ := pairs_of nk hk' pm pw fun q hq => by
        obtain ⟨p, hp, rfl⟩ := List.mem_map.mp hq
        exact Nat.lt_trans (x.SH.tgl (x.pb p (hmem p hp).1).b (hvar p hp).2) (by decide)
      refine ⟨1, p, .lst (kss'.map tI), rfl, rfl, ⟨ps, ?_, hs, fun q => ?_⟩, rfl⟩
      · rw [e, List.map_map]
        rfl
      · rw [hmm, List.mem_map]
        constructor
        · rintro ⟨p, hp, rfl⟩
          exact ⟨p, (hmem p hp).1, (hmem p hp).2, rfl⟩
        · rintro ⟨p, hp, ho, rfl⟩
          exact ⟨p, List.mem_filter.mpr ⟨hp, ho⟩, rfl⟩
end
end K50
set_option maxRecDepth 100000
set_option maxHeartbeats 4000000
/-! K5: change_between. -/
namespace K50
open PySem PySem.Spec PyProof.Rows L2 DL
/-- open pairs that are met -/
def OpMg (G H : Gr) (u v : Nat) (q : Nat × Nat) : Prop := ∃ p, Met G H (G.spotOf u, H.spotOf v) p ∧ G.openAt p.1 = true ∧ q = opPr G H p
abbrev OpM (x : TwoIn) : Nat × Nat → Prop := OpMg x.G x.H x.u x.v
/-- the parts are the same: what is met looks alike, open variables are met one to one -/
structure SPg (G H : Gr) (u v : Nat) : Prop where
  lk : ∀ p, Met G H (G.spotOf u, H.spotOf v) p → lkEq G H p
  one : ∀ q r, OpMg G H u v q → OpMg G H u v r → (q.1 = r.1 ↔ q.2 = r.2)
abbrev SPr (x : TwoIn) : Prop := SPg x.G x.H x.u x.v
structure ChIn extends TwoIn where
  few : (∀ p, Met G H toTwoIn.st p → lkEq G H p) → FewOp G H (Met G H toTwoIn.st)
def ChPost (x : TwoIn) (d : D) : Prop := (d = .non ∧ ¬ SPr x) ∨ ∃ ps : List (Nat × Nat), d = .lst (ps.map spotD) ∧ Srt ps ∧ (∀ q, q ∈ ps ↔ OpM x q) ∧ SPr x
theorem setIs_nodup {l : List Int} {S : Int → Bool} {n : Nat} (h : SetIs l S n) : n < l.length ↔ ¬ l.Nodup := by
  obtain ⟨acc, nd, rfl, _, hm⟩ := h.ex
  constructor
  · intro hl hn
    have := nodup_sub_le hn fun x hx => (hm x).mpr hx
    omega
  · intro hn
    have h1 := nodup_sub_le nd fun x hx => (hm x).mp hx
    rcases Nat.lt_or_eq_of_le h1 with h2 | h2
    · exact h2
    · refine absurd ?_ hn
      have : ∀ (l : List Int) (a : List Int), a.Nodup → (∀ x, x ∈ a ↔ x ∈ l) → a.length = l.length → l.Nodup := by
        intro l
        induction l with
        | nil => intro _ _ _ _; simp
        | cons y l ih =>
          intro a na hma hla
          by_cases hy : y ∈ l
          · have h3 := nodup_sub_le (m := l) na fun x hx => by
              rcases List.mem_cons.mp ((hma x).mp hx) with rfl | h
              · exact hy
              · exact h
            rw [List.length_cons] at hla
            omega
          · rw [List.nodup_cons]
            refine ⟨hy, ih (a.erase y) (na.erase y) (fun x => ?_) ?_⟩
            · rw [List.Nodup.mem_erase_iff na, hma, List.mem_cons]
              exact ⟨fun z => z.2.resolve_left z.1, fun z => ⟨fun e => hy (e ▸ z), .inr z⟩⟩
            · rw [List.length_erase_of_mem ((hma y).mpr (by simp)), hla]
              rfl
      exact this l acc nd hm h2
theorem nodup_inj {α β : Type} (f : α → β) : ∀ {l : List α}, (l.map f).Nodup → ∀ x ∈ l, ∀ y ∈ l, f x = f y → x = y
  | [], _, x, hx, _, _, _ => by cases hx
  | a :: l, h, x, hx, y, hy, e => by
    rw [List.map_cons, List.nodup_cons] at h
    rcases List.mem_cons.mp hx with h1 | h1
    · rcases List.mem_cons.mp hy with h2 | h2
      · rw [h1, h2]
      · exact absurd (List.mem_map.mpr ⟨y, h2, by rw [← e, h1]⟩) h.1
    · rcases List.mem_cons.mp hy with h2 | h2
      · exact absurd (List.mem_map.mpr ⟨x, h1, by rw [e, h2]⟩) h.1
      · exact nodup_inj f h.2 x h1 y h2 e
theorem srt_nodup {ps : List (Nat × Nat)} (h : Srt ps) : ps.Nodup := List.Pairwise.imp (fun {a b} hab (e : a = b) => by rw [e] at hab; exact Nat.lt_irrefl _ hab) h
/-- one of the two -/
def prj (i : Nat) (q : Nat × Nat) : Nat := if i = 0 then q.1 else q.2
theorem inj_nodup {α β : Type} (f : α → β) : ∀ {l : List α}, l.Nodup → (∀ x ∈ l, ∀ y ∈ l, f x = f y → x = y) → (l.map f).Nodup
  | [], _, _ => by simp
  | a :: l, nd, h => by
    rw [List.nodup_cons] at nd
    rw [List.map_cons, List.nodup_cons]
    refine ⟨fun hm => ?_, inj_nodup f nd.2 fun x hx y hy => h x (by simp [hx]) y (by simp [hy])⟩
    obtain ⟨b, hb, e⟩ := List.mem_map.mp hm
    exact nd.1 (h b (by simp [hb]) a (by simp) e ▸ hb)
section
variable {P : Program} {w : World} {K : PySem.W.Frag} {mg : Str → Option Value} {base : Heap}
theorem ok_change_between (Γ : Pg K mg) : FnOk P w K mg base CX0 5 Γ.change_between.f Γ.change_between.fd P_change_between (spD K (fun x : ChIn => [x.G.d Γ.CM, .int x.u, x.H.d Γ.CM, .int x.v]) NoC (fun x d L => ChPost x.toTwoIn d ∧ L = [])) := by
  refine fn_ok Γ.change_between.F sc_change_between (fun _ => rfl) (by decide) (fun cdv A outer s H E hr x => ?_)
  have nd := sc_change_between.nd
  refine bl_cons (st_set 4 nd (ev_ownP (ok_met_spots Γ) hr Γ.met_spots.g Γ.met_spots.F.kp (bi_met_spots Γ) (ag_cons (ev_v 0 rfl (ag_cons (ev_v 1 rfl (ag_cons (ev_v 2 rfl (ag_cons (ev_v 3 rfl (ag_nil ⟨x.toTwoIn, rfl, fun d hd => ?_⟩)))))))))))
  rcases hd with ⟨rfl, p, hp, hne⟩ | ⟨fd, rfl, nfd, hm, hlk⟩
  · exact bl_cons (st_if (te_cmp op_isN (ev_v 4 rfl (ev_non (o2_isN ⟨true, rfl, iteT (bl_cons (st_retD (ev_non ⟨.inl ⟨rfl, fun s => hne (s.lk p hp)⟩, rfl⟩)))⟩)))))
  refine bl_cons (st_if (te_cmp op_isN (ev_v 4 rfl (ev_non (o2_isN ⟨false, rfl, iteF (bl_nil ?_)⟩)))))
  have fw := x.few fun p hp => hlk p ((hm p).mpr hp)
  have pbs : ∀ p ∈ fd, PB x.G x.H p := fun p hp => met_pb (x := x.toTwoIn) ((hm p).mp hp)
  refine bl_cons (st_set 5 nd (ev_ownP (ok_open_pairs Γ) (hr.mono (by decide)) Γ.open_pairs.g Γ.open_pairs.F.kp (bi_open_pairs Γ) (ag_cons (ev_v 0 rfl (ag_cons (ev_v 2 rfl (ag_cons (ev_v 4 rfl (ag_nil ⟨⟨x.G, x.H, x.SG, x.SH, fd, pbs, hlk, Nat.le_trans (sp_few x.SG x.SH nfd pbs) (by decide), fun l nl hl => fw l nl fun q hq => ?_⟩, rfl, fun d hd => ?_⟩)))))))))
  · obtain ⟨p, hp, r⟩ := hl q hq
    exact ⟨p, (hm p).mp hp, r⟩
  obtain ⟨ps, rfl, hs, hq⟩ := hd
  have hq' : ∀ q, q ∈ ps ↔ OpM x.toTwoIn q := fun q => by
    rw [hq]
    exact ⟨fun ⟨p, hp, r⟩ => ⟨p, (hm p).mp hp, r⟩, fun ⟨p, hp, r⟩ => ⟨p, (hm p).mpr hp, r⟩⟩
  have nps := srt_nodup hs
  have lps : ps.length + 1 < 64 := fw ps nps fun q hq2 => (hq' q).mp hq2
  have sp : (ps.map (prj 0)).Nodup → (ps.map (prj 1)).Nodup → SPr x.toTwoIn := fun n0 n1 =>
    ⟨fun p hp => hlk p ((hm p).mpr hp), fun q r hq2 hr2 => ⟨fun e => by rw [nodup_inj _ n0 q ((hq' q).mpr hq2) r ((hq' r).mpr hr2) e], fun e => by rw [nodup_inj _ n1 q ((hq' q).mpr hq2) r ((hq' r).mpr hr2) e]⟩⟩
  have nsp : SPr x.toTwoIn → ∀ i, (ps.map (prj i)).Nodup := fun s i => inj_nodup _ nps fun q hq2 r hr2 e => by
    have := s.one q r ((hq' q).mp hq2) ((hq' r).mp hr2)
    unfold prj at e
    by_cases h0 : i = 0
    · rw [if_pos h0, if_pos h0] at e
      exact Prod.ext e (this.mp e)
    · rw [if_neg h0, if_neg h0] at e
      exact Prod.ext (this.mpr e) e
  refine bl_cons (st_for (js := [6]) rfl (itx_tup (ev_tup (ag_cons (ev_int (ag_cons (ev_int (ag_nil ⟨sz, [.int 0, .int 1], rfl, fun i Γ' L' => ∃ o6, Γ' = [some (x.G.d Γ.CM), some (.int x.u), some (x.H.d Γ.CM), some (.int x.v), some (.lst (fd.map pairD)), some (.lst (ps.map spotD)), o6, none] ∧ ∀ k, k < i → (ps.map (prj k)).Nodup, ?_, ?_, ?_⟩))))))))
  · exact ⟨none, rfl, fun k hk => absurd hk (Nat.not_lt_zero _)⟩
  · rintro i d Γ' L' hd ⟨o6, rfl, hk⟩
    have hi : (i = 0 ∨ i = 1) ∧ d = .int i := by
      match i, hd with
      | 0, hd => cases hd; exact ⟨.inl rfl, rfl⟩
      | 1, hd => cases hd; exact ⟨.inr rfl, rfl⟩
    obtain ⟨hi, rfl⟩ := hi
    refine tg_v 6 nd (bl_cons (st_if (te_cmp op_lt (ev_callB call_lenI Γ.b_len bt_len (ag_cons (ev_scI [("pair", 7)] spotD (fun q => (prj i q : Int)) rfl hr.units nd rfl (js := [7]) (by decide) (itx_list (ev_v 5 rfl ⟨_, rfl, ps, rfl, by omega, fun q _ => ⟨fun s H C cl fp => tg_v 7 nd ⟨rfl, fun s H C cl fp => ?_⟩⟩, fun p S n hS => ?_⟩))))))))
    · refine ev_ix ix_tup (ev_v 7 rfl (ev_v 6 rfl (o2_ixT (n := i) (d := .int (prj i q)) ?_ ⟨rfl, rfl⟩)))
      rcases hi with rfl | rfl <;> rfl
    · refine ag_nil (oa_lenI (k := L'.length) snoc_at (ev_callB call_len_seq Γ.b_len bt_len (ag_cons (ev_v 5 rfl (ag_nil (oa_lenS (.inr rfl) (o2_lt ⟨_, rfl, ?_⟩)))))))
      have hn := setIs_nodup hS
      rw [List.length_map] at hn
      have hmap : (ps.map fun q => (prj i q : Int)).Nodup ↔ (ps.map (prj i)).Nodup := by
        have e : (ps.map fun q => (prj i q : Int)) = (ps.map (prj i)).map fun n : Nat => (n : Int) := by rw [List.map_map]; rfl
        rw [e]
        exact ⟨fun h => List.Pairwise.of_map (R := fun a b : Nat => a ≠ b) (fun n : Nat => (n : Int)) (fun a b hne z => hne (by rw [z])) h, fun h => inj_nodup _ h fun a _ b _ e => Int.ofNat.inj e⟩
      by_cases hnd : (ps.map (prj i)).Nodup
      · refine iteF' ?_ (bl_nil (bl_nil ⟨_, rfl, fun k hk2 => ?_⟩))
        · have : ¬ n < ps.length := fun z => hn.mp z (hmap.mpr hnd)
          simp
          omega
        · rcases Nat.lt_or_eq_of_le (Nat.le_of_lt_succ hk2) with h | h
          · exact hk k h
          · rw [h]; exact hnd
      · refine iteT' ?_ (bl_cons (st_retD (ev_non ⟨.inl ⟨rfl, fun s => hnd (nsp s i)⟩, rfl⟩)))
        have : n < ps.length := hn.mpr fun z => hnd (hmap.mp z)
        simp
        omega
  · rintro Γ' L' ⟨o6, rfl, hk⟩
    exact bl_cons (st_retD (ev_v 5 rfl ⟨.inr ⟨ps, rfl, hs, hq', sp (hk 0 (by decide)) (hk 1 (by decide))⟩, rfl⟩))
end
end K50
set_option maxRecDepth 100000
set_option maxHeartbeats 4000000
/-! K6: parts asked of graphs. -/
namespace K50
open PySem PySem.Spec PyProof.Rows L2 DL
/-- a graph, a node of it -/
structure GN where
  G : Gr
  u : Nat
  S : GrS G
  hu : u < G.n
/-- open pairs are few wherever two parts are compared -/
def GrF (G H : Gr) : Prop := ∀ u v, u < G.n → v < H.n → (∀ p, Met G H (G.spotOf u, H.spotOf v) p → lkEq G H p) → FewOp G H (Met G H (G.spotOf u, H.spotOf v))
structure SameIn where
  G : Gr
  H : Gr
  SG : GrS G
  SH : GrS H
  few : GrF G H
  u : Nat
  v : Nat
  hu : u < G.n
  hv : v < H.n
def SameIn.ch (x : SameIn) : ChIn := ⟨⟨x.G, x.u, x.H, x.v, x.SG, x.SH, x.hu, x.hv⟩, x.few _ _ x.hu x.hv⟩
theorem shaped_tup {ds : List D} (h : ∀ d ∈ ds, Plain d) : SeqAt.shaped (D.tup ds).py = true := by
  have h1 := lays_of h
  have h2 := deps_of h
  simp [SeqAt.shaped, D.py, PyData.canLay0, PyData.depth, h1]
  omega
theorem eqv_nilT (ds : List D) : PyData.eqv (D.tup ds).py (D.tup []).py = ds.isEmpty := by
  cases ds <;> simp [D.py, D.pys, PyData.eqv, PyData.eqvAll]
theorem plain_nats (l : List Nat) : ∀ d ∈ dnats l, Plain d := fun d hd => by
  obtain ⟨n, _, rfl⟩ := List.mem_map.mp hd
  exact plain_int _
theorem pure_nats (l : List Nat) : (tnats l).pure = true := pures_of (plain_nats l)
section
variable {P : Program} {w : World} {K : PySem.W.Frag} {mg : Str → Option Value} {base : Heap}
theorem ok_require_node (Γ : Pg K mg) : FnOk P w K mg base CX0 3 Γ.require_node.f Γ.require_node.fd P_require_node (spD K (fun x : GN => [x.G.d Γ.CM, .int x.u]) NoC (Ret fun _ => .non)) := by
  refine fn_ok Γ.require_node.F sc_require_node (fun _ => rfl) (by decide) (fun cdv A outer s H E hr x => ?_)
  refine bl_cons (st_if (te_not (te_val (ev_own (ok_is_between Γ) hr Γ.is_between.g Γ.is_between.F.kp (bi_is_between Γ) (ag_cons (ev_v 1 rfl (ag_cons (ev_int (ag_cons (ev_op op_sub (ev_callB call_len_seq Γ.b_len bt_len (ag_cons (ev_nodes Γ (ev_v 0 rfl ⟨x.G, rfl, ag_nil (oa_lenS (.inl rfl) (ev_int (o2_sub (ag_nil ⟨⟨_, _, _⟩, rfl, _, rfl, ?_⟩))))⟩))))))))))))))
  have h : x.u < x.G.nodes.length := x.hu
  refine iteF' ?_ (bl_nil (bl_nil ⟨rfl, rfl⟩))
  show (!(decide ((0 : Int) ≤ (x.u : Int)) && decide ((x.u : Int) ≤ ((x.G.nodes.map Nd.d).length : Int) - 1))) = false
  rw [List.length_map, decide_eq_true (by omega), decide_eq_true (by omega)]
  rfl
theorem ok_require_graph (Γ : Pg K mg) : FnOk P w K mg base CX0 1 Γ.require_graph.f Γ.require_graph.fd P_require_graph (spD K (fun G : Gr => [G.d Γ.CM]) NoC (Ret fun _ => .non)) := by
  refine fn_ok Γ.require_graph.F sc_require_graph (fun _ => rfl) (by decide) (fun cdv A outer s H E hr G => ?_)
  refine bl_cons (st_if (te_not (te_val (ev_callB call_isi Γ.b_isinstance bt_isinstance (ag_cons (ev_v 0 rfl (ag_cons (ev_gref Γ.gG (ag_nil (oa_isiI Γ.isM Γ.kMG ⟨true, rfl, iteF' rfl (bl_nil (bl_nil ⟨rfl, rfl⟩))⟩))))))))))
theorem st_reqG {X : Cx} {Γ' : Gam} {L : Cells} {E : En} {e : Expr} {p pos pos2 : Pos} (Γ : Pg X.K X.mg) (hr : Room 1 X.A) (h : EvX X e Γ' L fun d L1 => ∃ G : Gr, d = G.d Γ.CM ∧ E.nx Γ' L1) (hg : Gl X "require_graph" := by rfl)
    (he : starEach [e] X.env = (false, eval e X.env) :: starEach [] X.env := by rfl) (hs : swapsWith (.Call (.Name "require_graph" p) [e] [] pos) none pos2.line X.env = pure false := by rfl) : StX X (.Expr (.Call (.Name "require_graph" p) [e] [] pos) pos2) Γ' L E :=
  st_expr (ev_own (ok_require_graph Γ) hr Γ.require_graph.g Γ.require_graph.F.kp (bi_require_graph Γ) (ag_cons (h.imp fun d L1 ⟨G, e, r⟩ => ag_nil ⟨G, by rw [e], r⟩) he) hg rfl he rfl) hs
theorem st_reqN {X : Cx} {Γ' : Gam} {L : Cells} {E : En} {a b : Expr} {p pos pos2 : Pos} (Γ : Pg X.K X.mg) (hr : Room 3 X.A) (h : AgX X [a, b] Γ' L fun ds L1 => ∃ x : GN, ds = [x.G.d Γ.CM, .int x.u] ∧ E.nx Γ' L1) (hg : Gl X "require_node" := by rfl)
    (he : starEach [a, b] X.env = (false, eval a X.env) :: starEach [b] X.env := by rfl) (hp : (backTo pos (starEach [b] X.env)).any (·.1) = false := by rfl) (hs : swapsWith (.Call (.Name "require_node" p) [a, b] [] pos) none pos2.line X.env = pure false := by rfl) : StX X (.Expr (.Call (.Name "require_node" p) [a, b] [] pos) pos2) Γ' L E :=
  st_expr (ev_own (ok_require_node Γ) hr Γ.require_node.g Γ.require_node.F.kp (bi_require_node Γ) (h.imp fun ds L1 ⟨x, e, r⟩ => ⟨x, e, r⟩) hg rfl he hp) hs
/-- a change as a tuple -/
def SmPost (x : SameIn) (d : D) : Prop := (d = .non ∧ ¬ SPg x.G x.H x.u x.v) ∨ ∃ ps : List (Nat × Nat), d = .tup (ps.map spotD) ∧ Srt ps ∧ (∀ q, q ∈ ps ↔ OpMg x.G x.H x.u x.v q) ∧ SPg x.G x.H x.u x.v
structure SmIn extends SameIn where
  eq : H = G
theorem ok_same_part (Γ : Pg K mg) : FnOk P w K mg base CX0 6 Γ.same_part.f Γ.same_part.fd P_same_part (spD K (fun x : SmIn => [x.G.d Γ.CM, .int x.u, .int x.v]) NoC (fun x d L => SmPost x.toSameIn d ∧ L = [])) := by
  refine fn_ok Γ.same_part.F sc_same_part (fun _ => rfl) (by decide) (fun cdv A outer s H E hr ⟨x, e⟩ => ?_)
  have nd := sc_same_part.nd
  refine bl_cons (st_reqG Γ (hr.mono (by decide)) (ev_v 0 rfl ⟨x.G, rfl, bl_cons (st_reqN Γ (hr.mono (by decide)) (ag_cons (ev_v 0 rfl (ag_cons (ev_v 1 rfl (ag_nil ⟨⟨x.G, x.u, x.SG, x.hu⟩, rfl, ?_⟩))))))⟩))
  refine bl_cons (st_reqN Γ (hr.mono (by decide)) (ag_cons (ev_v 0 rfl (ag_cons (ev_v 2 rfl (ag_nil ⟨⟨x.G, x.v, x.SG, e ▸ x.hv⟩, rfl, ?_⟩))))))
  refine bl_cons (st_set 3 nd (ev_ownP (ok_change_between Γ) hr Γ.change_between.g Γ.change_between.F.kp (bi_change_between Γ) (ag_cons (ev_v 0 rfl (ag_cons (ev_v 1 rfl (ag_cons (ev_v 0 rfl (ag_cons (ev_v 2 rfl (ag_nil ⟨x.ch, by rw [show x.ch.H = x.G from e]; rfl, fun d hd => ?_⟩)))))))))))
  rcases hd with ⟨rfl, hn⟩ | ⟨ps, rfl, hs, hq, sp⟩
  · exact bl_cons (st_ret (ev_if (te_cmp op_isN (ev_v 3 rfl (ev_non (o2_isN ⟨true, rfl, iteT (ev_non ⟨.inl ⟨rfl, hn⟩, rfl⟩)⟩))))))
  · exact bl_cons (st_ret (ev_if (te_cmp op_isN (ev_v 3 rfl (ev_non (o2_isN ⟨false, rfl, iteF (ev_callTy call_tuple_of Γ.b_tuple bt_tuple (ag_cons (ev_v 3 rfl (ag_nil (oa_tuple (.inr rfl) ⟨.inr ⟨ps, rfl, hs, hq, sp⟩, rfl⟩)))))⟩))))))
theorem ok_needs (Γ : Pg K mg) : FnOk P w K mg base CX0 4 Γ.Graph_needs.f Γ.Graph_needs.fd P_Graph_needs (spD K (fun x : GN => [x.G.d Γ.CM, .int x.u]) NoC (Ret fun x => tnats (x.G.need x.u))) := by
  refine fn_ok Γ.Graph_needs.F sc_Graph_needs (fun _ => rfl) (by decide) (fun cdv A outer s H E hr x => ?_)
  exact bl_cons (st_reqN Γ hr (ag_cons (ev_v 0 rfl (ag_cons (ev_v 1 rfl (ag_nil ⟨x, rfl, bl_cons (st_ret (ev_ix ix_tup (ev_needs Γ (ev_v 0 rfl ⟨x.G, rfl, ev_v 1 rfl (o2_ixT (x.S.need x.hu) ⟨rfl, rfl⟩)⟩))))⟩))))))
theorem ok_scope (Γ : Pg K mg) : FnOk P w K mg base CX0 4 Γ.Graph_scope.f Γ.Graph_scope.fd P_Graph_scope (spD K (fun x : GN => [x.G.d Γ.CM, .int x.u]) NoC (Ret fun x => tnats (x.G.sc x.u))) := by
  refine fn_ok Γ.Graph_scope.F sc_Graph_scope (fun _ => rfl) (by decide) (fun cdv A outer s H E hr x => ?_)
  exact bl_cons (st_reqN Γ hr (ag_cons (ev_v 0 rfl (ag_cons (ev_v 1 rfl (ag_nil ⟨x, rfl, bl_cons (st_ret (ev_ix ix_tup (ev_scopes Γ (ev_v 0 rfl ⟨x.G, rfl, ev_v 1 rfl (o2_ixT (x.S.sc x.hu) ⟨rfl, rfl⟩)⟩))))⟩))))))
theorem ok_glen (Γ : Pg K mg) : FnOk P w K mg base CX0 1 Γ.Graph_len.f Γ.Graph_len.fd P_Graph_len (spD K (fun G : Gr => [G.d Γ.CM]) NoC (Ret fun G => .int G.n)) := by
  refine fn_ok Γ.Graph_len.F sc_Graph_len (fun _ => rfl) (by decide) (fun cdv A outer s H E hr G => ?_)
  refine bl_cons (st_ret (ev_callB call_len_seq Γ.b_len bt_len (ag_cons (ev_nodes Γ (ev_v 0 rfl ⟨G, rfl, ag_nil (oa_lenS (.inl rfl) ⟨?_, rfl⟩)⟩)))))
  rw [List.length_map]
  rfl
/-- two graphs -/
structure PlIn where
  G : Gr
  H : Gr
  SG : GrS G
  SH : GrS H
  few : GrF G H
  h0 : 0 < H.n
open Classical in
/-- the nodes of G whose part is that of H's root -/
noncomputable def plc (G H : Gr) : List Nat := ((List.range G.n).filter fun u => (G.need u).isEmpty).filter fun u => decide (SPg G H u 0)
theorem ok_places_of (Γ : Pg K mg) : FnOk P w K mg base CX0 6 Γ.places_of.f Γ.places_of.fd P_places_of (spD K (fun x : PlIn => [x.G.d Γ.CM, x.H.d Γ.CM]) NoC (Ret fun x => tnats (plc x.G x.H))) := by
  refine fn_ok Γ.places_of.F sc_places_of (fun _ => rfl) (by decide) (fun cdv A outer s H E hr x => ?_)
  have nd := sc_places_of.nd
  have few : x.G.n ≤ 100 := x.SG.few
  refine bl_cons (st_reqG Γ (hr.mono (by decide)) (ev_v 0 rfl ⟨x.G, rfl, bl_cons (st_reqG Γ (hr.mono (by decide)) (ev_v 1 rfl ⟨x.H, rfl, ?_⟩))⟩))
  refine bl_cons (st_selT 2 [("node", 3)] (fun u : Nat => .int u) (fun u => .int u) (fun u => (x.G.need u).isEmpty) rfl nd rfl (js := [3]) (by decide) (itx_range1 Γ.b_range (ag_cons (ev_callB call_len_seq Γ.b_len bt_len (ag_cons (ev_nodes Γ (ev_v 0 rfl ⟨x.G, rfl, ag_nil (oa_lenS (.inl rfl) (ag_nil ⟨x.G.n, ?_, by omega, List.range x.G.n, ?_, szle (by simp; omega), fun u hu => ⟨fun s H C cl fp => tg_v 3 nd ⟨rfl, fun s H C cl fp => ?_⟩⟩, ?_⟩))⟩)))))))
  · rw [List.length_map]; rfl
  · simp [rangeD]
  · have hu' := List.mem_range.mp hu
    refine te_cmp (op_eqD hr.units) (ev_ix ix_tup (ev_needs Γ (ev_v 0 rfl ⟨x.G, rfl, ev_v 3 rfl (o2_ixT (x.SG.need hu') (ev_tup (ag_nil ⟨sz, o2_eqD (pure_nats _) rfl (shaped_tup (plain_nats _)) (shaped_tup (by simp)) (eqv_nilT _) ⟨_, rfl, ?_, rfl, fun _ s H C cl fp => ev_v 3 rfl ⟨rfl, rfl⟩⟩⟩)))⟩)))
    cases x.G.need u <;> rfl
  · refine bl_cons (st_ret (ev_callTy call_tuple_of Γ.b_tuple bt_tuple (ag_cons (ev_selT [("node", 3)] (fun u : Nat => .int u) (fun u => .int u) (fun u => Classical.propDecidable (SPg x.G x.H u 0) |>.decide) rfl nd rfl (js := [3]) (by decide) (itx_list (ev_v 2 rfl ⟨_, rfl, _, rfl, ?_, fun u hu => ⟨fun s H C cl fp => tg_v 3 nd ⟨rfl, fun s H C cl fp => ?_⟩⟩, ?_⟩))))))
    · refine szle (Nat.le_trans (List.length_filter_le _ _) ?_)
      rw [List.length_range]
      omega
    · have hu' := List.mem_range.mp (List.mem_filter.mp hu).1
      refine te_cmp op_notN (ev_ownP (ok_change_between Γ) hr Γ.change_between.g Γ.change_between.F.kp (bi_change_between Γ) (ag_cons (ev_v 0 rfl (ag_cons (ev_v 3 rfl (ag_cons (ev_v 1 rfl (ag_cons (ev_int (ag_nil ⟨(⟨x.G, x.H, x.SG, x.SH, x.few, u, 0, hu', x.h0⟩ : SameIn).ch, rfl, fun d hd => ?_⟩))))))))))
      rcases hd with ⟨rfl, hn⟩ | ⟨ps, rfl, hs, hq, sp⟩
      · refine ev_non (o2_notN ⟨false, rfl, ?_, rfl, fun _ s H C cl fp => ev_v 3 rfl ⟨rfl, rfl⟩⟩)
        exact (@decide_eq_false _ (Classical.propDecidable _) hn).symm
      · refine ev_non (o2_notN ⟨true, rfl, ?_, rfl, fun _ s H C cl fp => ev_v 3 rfl ⟨rfl, rfl⟩⟩)
        exact (@decide_eq_true _ (Classical.propDecidable _) sp).symm
    · refine ag_nil (oa_tuple (.inr rfl) ⟨?_, rfl⟩)
      rfl
end
end K50
set_option maxRecDepth 100000
set_option maxHeartbeats 4000000
/-! K7: the walk, the numbering. -/
namespace K50
open PySem PySem.Spec PyProof.Rows L2 DL
/-- nodes whose numbers fit -/
structure NsOk (ns : List Nd) : Prop where
  few : ns.length ≤ 100
  ch : ∀ n ∈ ns, n.ch.length ≤ 3 ∧ ∀ c ∈ n.ch, c < ns.length
  vt : ∀ f, Nd.var f ∈ ns → f < ns.length
  wd : ∀ n ∈ ns, PyData.strOk n.wd = true
def nat (ns : List Nd) (u : Nat) : Nd := ns.getD u (.var 0)
theorem nat_at {ns : List Nd} {u : Nat} (h : u < ns.length) : ns[u]? = some (nat ns u) := by simp [nat, List.getD, h]
theorem nat_d {ns : List Nd} {u : Nat} (h : u < ns.length) : (ns.map Nd.d)[u]? = some (nat ns u).d := by simp [nat_at h]
theorem nat_mem {ns : List Nd} {u : Nat} (h : u < ns.length) : nat ns u ∈ ns := List.mem_of_getElem? (nat_at h)
/-- what is reached by children -/
inductive Rch (ns : List Nd) (s : Nat) : Nat → Prop
  | refl : Rch ns s s
  | step {u c : Nat} : Rch ns s u → c ∈ (nat ns u).ch → Rch ns s c
structure WkIn where
  ns : List Nd
  ok : NsOk ns
  s : Nat
  hs : s < ns.length
theorem rch_lt (x : WkIn) {u : Nat} (h : Rch x.ns x.s u) : u < x.ns.length := by
  induction h with
  | refl => exact x.hs
  | step _ hc ih => exact (x.ok.ch _ (nat_mem ih)).2 _ hc
/-- the order of a walk -/
structure WkPost (ns : List Nd) (s : Nat) (od : List Nat) : Prop where
  nd : od.Nodup
  h0 : od[0]? = some s
  mem : ∀ u, u ∈ od ↔ Rch ns s u
structure WInv (ns : List Nd) (s : Nat) (fd wt : List Nat) : Prop where
  nd : fd.Nodup
  h0 : (fd = [] ∧ wt = [s]) ∨ fd[0]? = some s
  rf : ∀ u ∈ fd, Rch ns s u
  rw : ∀ u ∈ wt, Rch ns s u
  cl : ∀ u ∈ fd, ∀ c ∈ (nat ns u).ch, c ∈ fd ∨ c ∈ wt
theorem WInv.start (ns : List Nd) (s : Nat) : WInv ns s [] [s] := ⟨by simp, .inl ⟨rfl, rfl⟩, by simp, by simpa using .refl, by simp⟩
theorem WInv.done {ns : List Nd} {s : Nat} {fd : List Nat} (h : WInv ns s fd []) : WkPost ns s fd := by
  have h0 : fd[0]? = some s := by
    rcases h.h0 with ⟨_, e⟩ | e
    · cases e
    · exact e
  refine ⟨h.nd, h0, fun u => ⟨h.rf u, fun r => ?_⟩⟩
  induction r with
  | refl => exact List.mem_of_getElem? h0
  | step _ hc ih => exact (h.cl _ ih _ hc).resolve_right (by simp)
theorem WInv.old {ns : List Nd} {s u : Nat} {fd wt : List Nat} (h : WInv ns s fd (wt ++ [u])) (hu : u ∈ fd) : WInv ns s fd wt := by
  refine ⟨h.nd, ?_, h.rf, fun v hv => h.rw v (by simp [hv]), fun v hv c hc => ?_⟩
  · rcases h.h0 with ⟨e, _⟩ | e
    · rw [e] at hu; cases hu
    · exact .inr e
  · rcases h.cl v hv c hc with z | z
    · exact .inl z
    · rcases List.mem_append.mp z with z | z
      · exact .inr z
      · rw [List.mem_singleton.mp z]; exact .inl hu
theorem WInv.new {ns : List Nd} {s u : Nat} {fd wt : List Nat} (h : WInv ns s fd (wt ++ [u])) (hu : u ∉ fd) : WInv ns s (fd ++ [u]) (wt ++ (nat ns u).ch.reverse) := by
  have hr := h.rw u (by simp)
  refine ⟨nodup_snoc h.nd hu, .inr ?_, fun v hv => ?_, fun v hv => ?_, fun v hv c hc => ?_⟩
  · rcases h.h0 with ⟨e, e2⟩ | e
    · subst e
      have : u = s := by
        have := congrArg List.getLast? e2
        simpa using this
      rw [this]; rfl
    · rw [List.getElem?_append_left (List.getElem?_eq_some_iff.mp e).1]; exact e
  · rcases List.mem_append.mp hv with z | z
    · exact h.rf v z
    · rw [List.mem_singleton.mp z]; exact hr
  · rcases List.mem_append.mp hv with z | z
    · exact h.rw v (by simp [z])
    · exact .step hr (List.mem_reverse.mp z)
  · rcases List.mem_append.mp hv with z | z
    · rcases h.cl v z c hc with y | y
      · exact .inl (by simp [y])
      · rcases List.mem_append.mp y with y | y
        · exact .inr (by simp [y])
        · rw [List.mem_singleton.mp y]; exact .inl (by simp)
    · rw [List.mem_singleton.mp z] at hc
      exact .inr (by simp [hc])
section
variable {P : Program} {w : World} {K : PySem.W.Frag} {mg : Str → Option Value} {base : Heap}
def keysI (l : List Nat) : List Int := l.map fun (n : Nat) => (n : Int)
theorem mem_keysI {l : List Nat} {n : Nat} : (n : Int) ∈ keysI l ↔ n ∈ l := by
  unfold keysI
  rw [List.mem_map]
  exact ⟨fun ⟨a, h, e⟩ => Int.ofNat.inj e ▸ h, fun h => ⟨n, h, rfl⟩⟩
theorem plain_dn {l : List Nat} : ∀ d ∈ dnats l, Plain d := plain_nats l
def wkGam (x : WkIn) (a b c : Addr) (o : Option D) : Gam := [some (.tup (x.ns.map Nd.d)), some (tnats [x.s]), some (.ref a), some (.ref b), some (.ref c), o]
theorem ok_first_walk (Γ : Pg K mg) : FnOk P w K mg base CX0 2 Γ.first_walk.f Γ.first_walk.fd P_first_walk (spD K (fun x : WkIn => [.tup (x.ns.map Nd.d), tnats [x.s]]) NoC (fun x d L => (∃ od, d = .lst (dnats od) ∧ WkPost x.ns x.s od) ∧ L = [])) := by
  refine fn_ok Γ.first_walk.F sc_first_walk (fun _ => rfl) (by decide) (fun cdv A outer s H E hr x => ?_)
  have nd := sc_first_walk.nd
  refine bl_cons (st_par3 2 3 4 rfl nd (by decide) (by decide) (by decide) (ag_cons (ev_lst (ag_nil ⟨sz, fun a => ag_cons (ev_dnew fun b => ag_cons (ev_rev (ev_fz (ev_callTy call_list_of Γ.b_list bt_list (ag_cons (ev_v 1 rfl (ag_nil (oa_list (.inl rfl) fun p => ⟨2, p, .lst (dnats [x.s]), rfl, rfl, dnats [x.s], rfl, fun c => ag_nil ⟨_, _, _, rfl, ?_⟩⟩))))))))⟩))))
  refine bl_cons (st_while (fun m Γ' L' => ∃ o fd wt, Γ' = wkGam x a b c o ∧ L' = [(a, .lst (dnats fd)), (b, .dct (keysI fd) (dnats (List.range fd.length))), (c, .lst (dnats wt))] ∧ WInv x.ns x.s fd wt ∧ m = 4 * (100 - fd.length) + wt.length ∧ m ≤ 401) _ ⟨none, [], [x.s], rfl, rfl, .start _ _, rfl, by simp⟩ fun m Γ' L' hW => ?_)
  obtain ⟨o, fd, wt, rfl, rfl, I, rfl, hm401⟩ := hW
  have hlen : ∀ {fd : List Nat}, fd.Nodup → (∀ u ∈ fd, Rch x.ns x.s u) → fd.length ≤ 100 := fun nd h => nodup_lt 100 _ nd fun u hu => Nat.lt_of_lt_of_le (rch_lt x (h u hu)) x.ok.few
  have hfd := hlen I.nd I.rf
  refine te_cmp (op_neD hr.units) (ev_v 4 rfl (ev_lstF (ag_nil ⟨sz, o2_neNil (k := 2) rfl plain_dn ⟨_, rfl, ?_⟩⟩)))
  rcases List.eq_nil_or_concat wt with rfl | ⟨wt, u, rfl⟩
  · exact iteF (bl_cons (st_retD (ev_fz (ev_v 2 rfl ⟨0, a, _, rfl, rfl, ⟨fd, rfl, I.done⟩, rfl⟩))))
  · rw [List.concat_eq_append] at I ⊢
    have hu := rch_lt x (I.rw u (by simp))
    refine iteT' (by simp [dnats]) (bl_cons (st_set 5 nd (ev_pop (ev_v 4 rfl ⟨2, c, dnats wt, .int u, rfl, by simp [dnats], ?_⟩))))
    refine bl_cons (st_if (te_dnotin (by have := hr.units; omega) (ev_v 5 rfl (ev_v 3 rfl ⟨u, keysI fd, _, rfl, .inr (.inl ⟨1, b, rfl, rfl⟩), ?_⟩))))
    by_cases hm : u ∈ fd
    · refine iteF' (by simp [mem_keysI, hm]) (bl_nil (bl_nil ⟨_, ?_, _, fd, wt, rfl, rfl, I.old hm, rfl, ?_⟩))
      · simp
      · simp at hm401; omega
    · have hnew := I.new hm
      have hlen2 := hlen hnew.nd hnew.rf
      have hch := (x.ok.ch _ (nat_mem hu)).1
      simp only [List.length_append, List.length_cons, List.length_nil] at hlen2
      refine iteT' (by simp [mem_keysI, hm]) (bl_cons (st_dput (by have := hr.units; omega) (ev_callB call_len_seq Γ.b_len bt_len (ag_cons (ev_v 2 rfl (ag_nil (oa_lenC (k := 0) rfl (ev_v 3 rfl (ev_v 5 rfl ⟨1, b, u, keysI fd, _, rfl, rfl, rfl, fun z => hm (mem_keysI.mp z), by rw [keysI, List.length_map]; exact szlt (by omega), ?_⟩)))))))))
      refine bl_cons (st_append (ev_v 2 rfl ⟨0, a, dnats fd, rfl, rfl, ev_v 5 rfl ⟨0, dnats fd, rfl, by rw [dnats_length]; exact szlt (by omega), ?_⟩⟩))
      refine bl_cons (st_extend (ev_v 4 rfl ⟨2, c, dnats wt, rfl, rfl, ev_rev (ev_fz (ev_callTy call_list_of Γ.b_list bt_list (ag_cons (ev_children Γ (hr.mono (by decide)) (ev_ix ix_tup (ev_v 0 rfl (ev_v 5 rfl (o2_ixT (nat_d hu) ⟨_, rfl, ag_nil (oa_list (.inl rfl) fun p => ⟨3, p, _, rfl, rfl, _, rfl, fun q => ⟨2, 3, q, dnats wt, _, rfl, rfl, rfl, by decide, ?_, bl_nil (bl_nil ⟨_, ?_, _, fd ++ [u], wt ++ (nat x.ns u).ch.reverse, rfl, ?_, hnew, rfl, ?_⟩)⟩⟩)⟩))))))))⟩))
      · rw [List.length_reverse, dnats_length, dnats_length]
        simp at hm401
        exact szle (by omega)
      · simp
        omega
      · simp [dnats, keysI, List.range_succ]
      · simp at hm401 ⊢
        omega
end
end K50
set_option maxRecDepth 100000
set_option maxHeartbeats 4000000
/-! K8: renumbered. -/
namespace K50
open PySem PySem.Spec PyProof.Rows L2 DL
/-- a node with other numbers -/
def Nd.rn (f : Nat → Nat) : Nd → Nd
  | .word w cs => .word w (cs.map f)
  | .fn c => .fn (f c)
  | .var g => .var (f g)
structure RnIn where
  ns : List Nd
  ok : NsOk ns
  od : List Nat
  nd : od.Nodup
  lt : ∀ u ∈ od, u < ns.length
  ch : ∀ u ∈ od, ∀ c ∈ (nat ns u).ch, c ∈ od
  vt : ∀ u ∈ od, ∀ f, nat ns u = .var f → f ∈ od
def RnIn.out (x : RnIn) : List Nd := x.od.map fun u => (nat x.ns u).rn (x.od.idxOf ·)
theorem enumD_map {α : Type} (f : α → D) (l : List α) : enumD (l.map f) = l.zipIdx.map fun p => D.tup [.int p.2, f p.1] := by
  refine List.ext_getElem? fun i => ?_
  simp only [enumD, List.getElem?_mapIdx, List.getElem?_map, List.getElem?_zipIdx, Nat.zero_add]
  cases l[i]? <;> simp
theorem zipIdx_fst {α β : Type} (f : α → β) (l : List α) : (l.zipIdx.map fun p => f p.1) = l.map f := by
  refine List.ext_getElem? fun i => ?_
  simp only [List.getElem?_map, List.getElem?_zipIdx]
  cases l[i]? <;> simp
theorem zipIdx_snd {α β : Type} (f : Nat → β) (l : List α) : (l.zipIdx.map fun p => f p.2) = (List.range l.length).map f := by
  refine List.ext_getElem? fun i => ?_
  simp only [List.getElem?_map, List.getElem?_zipIdx, Nat.zero_add]
  by_cases h : i < l.length
  · simp [h]
  · simp [h]
theorem keys_nodup {l : List Nat} (h : l.Nodup) : (keysI l).Nodup := by
  unfold keysI
  induction l with
  | nil => simp
  | cons a l ih =>
    rw [List.nodup_cons] at h
    rw [List.map_cons, List.nodup_cons]
    refine ⟨fun hm => h.1 ?_, ih h.2⟩
    obtain ⟨b, hb, e⟩ := List.mem_map.mp hm
    exact Int.ofNat.inj e ▸ hb
theorem numbers_at {l : List Nat} (h : l.Nodup) {u : Nat} (hu : u ∈ l) : dlook (u : Int) (keysI l) (dnats (List.range l.length)) = some (.int (l.idxOf u : Nat)) := by
  have hi := List.idxOf_lt_length_of_mem hu
  refine dlook_at (i := l.idxOf u) (keys_nodup h) ?_ ?_
  · rw [keysI, List.getElem?_map, List.getElem?_eq_getElem hi, List.getElem_idxOf hi]; rfl
  · exact dnats_get (by simp [hi])
section
variable {P : Program} {w : World} {K : PySem.W.Frag} {mg : Str → Option Value} {base : Heap}
def rnGam (x : RnIn) (a : Addr) (o2 o5 : Option D) : Gam := [some (.tup (x.ns.map Nd.d)), some (.lst (dnats x.od)), o2, some (.dct (keysI x.od) (dnats (List.range x.od.length))), some (.ref a), o5, none, none]
theorem ok_renumbered (Γ : Pg K mg) : FnOk P w K mg base CX0 1 Γ.renumbered.f Γ.renumbered.fd P_renumbered (spD K (fun x : RnIn => [.tup (x.ns.map Nd.d), .lst (dnats x.od)]) NoC (Ret fun x => .tup (x.out.map Nd.d))) := by
  obtain ⟨tW, hW⟩ := Γ.WORD
  refine fn_ok Γ.renumbered.F sc_renumbered (fun _ => rfl) (by decide) (fun cdv A outer s H E hr x => ?_)
  have nd := sc_renumbered.nd
  have hu1 := Nat.lt_of_le_of_lt (Nat.add_le_add_left (show 1 ≤ 64 by decide) _) hr.units
  have hod : x.od.length ≤ 100 := nodup_lt 100 _ x.nd fun u hu => Nat.lt_of_lt_of_le (x.lt u hu) x.ok.few
  refine bl_cons (st_set 3 nd (ev_dcT [("number", 6), ("node", 2)] (fun p : Nat × Nat => .tup [.int p.2, .int p.1]) (fun p => (p.1 : Int)) (fun p => .int p.2) rfl nd rfl (js := [6, 2]) (by decide) (itx_enum Γ.b_enumerate (ag_cons (ev_v 1 rfl (ag_nil ⟨_, rfl, x.od.zipIdx, enumD_map _ _, szle (by simp; omega), ?_, fun p hp => ⟨fun s H C cl fp => tg_2 6 2 rfl nd ⟨rfl, fun s H C cl fp => ev_v 2 rfl ⟨rfl, rfl⟩, fun s H C cl fp => ev_v 6 rfl ⟨rfl, rfl⟩⟩⟩, ?_⟩))))))
  · rw [zipIdx_fst fun n : Nat => (n : Int)]
    exact keys_nodup x.nd
  rw [zipIdx_fst fun n : Nat => (n : Int), zipIdx_snd fun n : Nat => D.int (n : Int)]
  refine bl_cons (st_set 4 nd (ev_lst (ag_nil ⟨sz, fun a => ?_⟩)))
  refine bl_cons (st_for (js := [5]) rfl (itx_list (ev_v 1 rfl ⟨_, rfl, fun i Γ' L' => ∃ o2 o5, Γ' = rnGam x a o2 o5 ∧ L' = [(a, .lst ((x.od.take i).map fun u => ((nat x.ns u).rn (x.od.idxOf ·)).d))], ⟨none, none, rfl, rfl⟩, ?_, ?_⟩)))
  · rintro i d Γ' L' hd ⟨o2, o5, rfl, rfl⟩
    obtain ⟨u, hu, rfl⟩ := map_get hd
    have hum := List.mem_of_getElem? hu
    have hul := x.lt u hum
    have hlen : ((x.od.take i).map fun u => ((nat x.ns u).rn (x.od.idxOf ·)).d).length < sizeLine := by
      rw [List.length_map, List.length_take]
      exact szlt (by omega)
    have fin : ∀ {o2 : Option D} {e : D}, e = ((nat x.ns u).rn (x.od.idxOf ·)).d → ∃ p q, (rnGam x a o2 (some (.int u))) = rnGam x a p q ∧ ([(a, D.lst (((x.od.take i).map fun u => ((nat x.ns u).rn (x.od.idxOf ·)).d) ++ [e]))] : Cells) = [(a, .lst ((x.od.take (i + 1)).map fun u => ((nat x.ns u).rn (x.od.idxOf ·)).d))] := fun {o2 e} he => by
      refine ⟨o2, some (.int u), rfl, ?_⟩
      rw [DL.take_next hu, List.map_append, he]
      rfl
    refine tg_v 5 nd (bl_cons (st_set 2 nd (ev_ix ix_tup (ev_v 0 rfl (ev_v 5 rfl (o2_ixT (nat_d hul) ?_))))))
    have hch := x.ch u hum
    have hvt := x.vt u hum
    cases hn : nat x.ns u with
    | word y cs =>
      rw [hn] at hch
      have hcs : cs.length ≤ 3 := by have := (x.ok.ch _ (nat_mem hul)).1; rw [hn] at this; exact this
      refine bl_cons (st_if (te_cmp op_eq (ev_ix ix_tup (ev_v 2 rfl (ev_int (o2_ixT (n := 0) rfl (ev_gstr hW (o2_seqT ⟨true, rfl, iteT ?_⟩))))))))
      refine bl_cons (st_append (ev_v 4 rfl ⟨0, a, _, rfl, rfl, ev_tup (ag_cons (ev_gstr hW (ag_cons (ev_ix ix_tup (ev_v 2 rfl (ev_int (o2_ixT (n := 1) rfl (ag_cons (ev_callTy call_tuple_of Γ.b_tuple bt_tuple (ag_cons ?_))))))))))⟩))
      refine ev_mapT [("child", 7)] (fun c : Nat => .int c) (fun c => .int (x.od.idxOf c : Nat)) rfl nd rfl (js := [7]) (by decide) (itx_tup (ev_ix ix_tup (ev_v 2 rfl (ev_int (o2_ixT (n := 2) rfl ⟨_, rfl, cs, rfl, szle (by omega), fun c hc => ⟨fun s H C cl fp => tg_v 7 nd ⟨rfl, fun s H C cl fp => ?_⟩⟩, ag_nil (oa_tuple (.inr rfl) (ag_nil ⟨sz, 0, _, rfl, hlen, bl_nil (bl_nil (fin ?_))⟩))⟩)))))
      · exact ev_dget hu1 (ev_v 3 rfl (ev_v 7 rfl ⟨c, _, _, _, rfl, .inl rfl, numbers_at x.nd (hch c hc), rfl, rfl⟩))
      · rw [hn]
        simp only [Nd.rn, Nd.d, dnats, List.map_map]
        rfl
    | fn c =>
      rw [hn] at hch
      refine bl_cons (st_if (te_cmp op_eq (ev_ix ix_tup (ev_v 2 rfl (ev_int (o2_ixT (n := 0) rfl (ev_gstr hW (o2_seqF ⟨false, rfl, iteF ?_⟩))))))))
      refine bl_cons (st_append (ev_v 4 rfl ⟨0, a, _, rfl, rfl, ev_tup (ag_cons (ev_ix ix_tup (ev_v 2 rfl (ev_int (o2_ixT (n := 0) rfl (ag_cons (ev_dget hu1 (ev_v 3 rfl (ev_ix ix_tup (ev_v 2 rfl (ev_int (o2_ixT (n := 1) rfl ⟨c, _, _, _, rfl, .inl rfl, numbers_at x.nd (hch c (by simp [Nd.ch])), ag_nil ⟨sz, 0, _, rfl, hlen, bl_nil (bl_nil (fin ?_))⟩⟩))))))))))))⟩))
      rw [hn]; rfl
    | var f =>
      refine bl_cons (st_if (te_cmp op_eq (ev_ix ix_tup (ev_v 2 rfl (ev_int (o2_ixT (n := 0) rfl (ev_gstr hW (o2_seqF ⟨false, rfl, iteF ?_⟩))))))))
      refine bl_cons (st_append (ev_v 4 rfl ⟨0, a, _, rfl, rfl, ev_tup (ag_cons (ev_ix ix_tup (ev_v 2 rfl (ev_int (o2_ixT (n := 0) rfl (ag_cons (ev_dget hu1 (ev_v 3 rfl (ev_ix ix_tup (ev_v 2 rfl (ev_int (o2_ixT (n := 1) rfl ⟨f, _, _, _, rfl, .inl rfl, numbers_at x.nd (hvt f hn), ag_nil ⟨sz, 0, _, rfl, hlen, bl_nil (bl_nil (fin ?_))⟩⟩))))))))))))⟩))
      rw [hn]; rfl
  · rintro Γ' L' ⟨o2, o5, rfl, rfl⟩
    refine bl_cons (st_retD (ev_callTy call_tuple_of Γ.b_tuple bt_tuple (ag_cons (ev_fz (ev_v 4 rfl ⟨0, a, _, rfl, rfl, ag_nil (oa_tuple (.inr rfl) ⟨?_, rfl⟩)⟩)))))
    rw [dnats_length, List.take_length]
    show D.tup _ = D.tup (List.map Nd.d (List.map _ x.od))
    rw [List.map_map]
    rfl
end
end K50
set_option maxRecDepth 100000
set_option maxHeartbeats 4000000
/-! K9: what nodes need. -/
namespace K50
open PySem PySem.Spec PyProof.Rows L2 DL
def setD (l : List Nat) : D := .kdc (keysI l) (tru (keysI l))
def Nd.isFn : Nd → Bool
  | .fn _ => true
  | _ => false
/-- one step of needs: what node u needs by what the others are known to need -/
def stepN (ns : List Nd) (sets : List (List Nat)) (u f : Nat) : Prop := nat ns u = .var f ∨ (∃ c ∈ (nat ns u).ch, f ∈ sets.getD c []) ∧ ¬ ((nat ns u).isFn = true ∧ f = u)
theorem nat_keys {ks : List Int} (h : ∀ k ∈ ks, ∃ n : Nat, k = n) : ∃ l : List Nat, ks = keysI l := by
  induction ks with
  | nil => exact ⟨[], rfl⟩
  | cons k ks ih =>
    obtain ⟨n, e⟩ := h k (by simp)
    obtain ⟨l, e2⟩ := ih fun x hx => h x (by simp [hx])
    exact ⟨n :: l, by rw [e, e2]; rfl⟩
theorem keys_nd {l : List Nat} (h : (keysI l).Nodup) : l.Nodup := List.Pairwise.of_map (R := fun a b : Nat => a ≠ b) (fun n : Nat => (n : Int)) (fun a b hne z => hne (by rw [z])) h
structure NwIn where
  ns : List Nd
  ok : NsOk ns
  sets : List (List Nat)
  ln : sets.length = ns.length
  snd : ∀ s ∈ sets, s.Nodup
  slt : ∀ s ∈ sets, ∀ f ∈ s, f < 100
  u : Nat
  hu : u < ns.length
theorem NwIn.at (x : NwIn) {c : Nat} (h : c < x.ns.length) : x.sets[c]? = some (x.sets.getD c []) ∧ x.sets.getD c [] ∈ x.sets := by
  have h' : c < x.sets.length := by rw [x.ln]; exact h
  refine ⟨by simp [List.getD, h'], ?_⟩
  have : x.sets.getD c [] = x.sets[c] := by simp [List.getD, h']
  rw [this]
  exact List.getElem_mem h'
def NwPost (x : NwIn) (d : D) : Prop := ∃ l : List Nat, d = setD l ∧ l.Nodup ∧ (∀ f ∈ l, f < 100) ∧ ∀ f, f ∈ l ↔ stepN x.ns x.sets x.u f
section
variable {P : Program} {w : World} {K : PySem.W.Frag} {mg : Str → Option Value} {base : Heap}
theorem tru_one (n : Int) : ([D.bl true] : List D) = tru [n] := rfl
theorem keys_len {ks : List Int} (nd : ks.Nodup) (h : ∀ k ∈ ks, ∃ n : Nat, k = n ∧ n < 100) : ks.length ≤ 100 := by
  obtain ⟨l, rfl⟩ := nat_keys fun k hk => ⟨(h k hk).choose, (h k hk).choose_spec.1⟩
  rw [keysI, List.length_map]
  refine nodup_lt 100 l (keys_nd nd) fun u hu => ?_
  obtain ⟨n, e, hn⟩ := h u (mem_keysI.mpr hu)
  rw [Int.ofNat.inj e]
  exact hn
theorem ok_needs_now (Γ : Pg K mg) : FnOk P w K mg base CX0 2 Γ.needs_now.f Γ.needs_now.fd P_needs_now (spD K (fun x : NwIn × Addr => [.tup (x.1.ns.map Nd.d), .ref x.2, .int x.1.u]) (fun x => [(x.2, .lst (x.1.sets.map setD))]) (fun x d L => NwPost x.1 d ∧ L = [(x.2, .lst (x.1.sets.map setD))])) := by
  obtain ⟨tV, hV⟩ := Γ.VAR
  obtain ⟨tF, hF⟩ := Γ.FUN
  refine fn_ok Γ.needs_now.F sc_needs_now (fun _ => rfl) (by decide) (fun cdv A outer s H E hr ⟨x, q⟩ => ?_)
  have nd := sc_needs_now.nd
  have hu1 := Nat.lt_of_le_of_lt (Nat.add_le_add_left (show 1 ≤ 64 by decide) _) hr.units
  refine bl_cons (st_set 3 nd (ev_ix ix_tup (ev_v 0 rfl (ev_v 2 rfl (o2_ixT (nat_d x.hu) ?_)))))
  have hch := x.ok.ch _ (nat_mem x.hu)
  have hvt := x.ok.vt
  by_cases hv : ∃ f, nat x.ns x.u = .var f
  · obtain ⟨f, hf⟩ := hv
    rw [hf]
    have hf100 : f < 100 := Nat.lt_of_lt_of_le (hvt f (hf ▸ nat_mem x.hu)) x.ok.few
    refine bl_cons (st_if (te_cmp op_eq (ev_ix ix_tup (ev_v 3 rfl (ev_int (o2_ixT (n := 0) rfl (ev_gstr hV (o2_seqT ⟨true, rfl, iteT ?_⟩))))))))
    refine bl_cons (st_ret (ev_kn (ev_done fun p => ev_ix ix_tup (ev_v 3 rfl (ev_int (o2_ixT (n := 1) rfl (ev_bl ⟨1, f, rfl, rfl, 1, p, [(f : Int)], [.bl true], rfl, rfl, ⟨[f], rfl, by simp, by simpa using hf100, fun g => ?_⟩, rfl⟩)))))))
    unfold stepN
    rw [hf]
    rw [List.mem_singleton]
    exact ⟨fun e => .inl (by rw [e]), fun z => z.elim (fun e => (Nd.var.inj e).symm) fun ⟨⟨c, hc, _⟩, _⟩ => by cases hc⟩
  · have hnv : ∀ f, nat x.ns x.u ≠ .var f := fun f e => hv ⟨f, e⟩
    have e0 : ∃ k, (nat x.ns x.u).d = .tup (.str (nat x.ns x.u).kind :: k) := by cases nat x.ns x.u <;> exact ⟨_, rfl⟩
    obtain ⟨k0, e0⟩ := e0
    have he0 := congrArg (fun z => some (some z)) e0
    have hkv : (nat x.ns x.u).kind ≠ ("var" : Str) := by
      cases e : nat x.ns x.u with
      | word _ _ => exact (show ("word" : Str) ≠ "var" by decide +kernel)
      | fn _ => exact (show ("fun" : Str) ≠ "var" by decide +kernel)
      | var f => exact absurd e (hnv f)
    refine bl_cons (st_if (te_cmp op_eq (ev_ix ix_tup (ev_v 3 he0 (ev_int (o2_ixT (n := 0) rfl (ev_gstr hV (o2_seqF (h := hkv) ⟨false, rfl, iteF ?_⟩))))))))
    refine bl_nil (bl_cons (st_set 4 nd (ev_dnew fun b => ?_)))
    refine bl_cons (st_for (js := [5]) rfl (itx_tup (ev_children Γ (hr.mono (by decide)) (ev_v 3 rfl ⟨nat x.ns x.u, rfl, _, rfl, fun i Γ' L' => ∃ o5 ks, Γ' = [some (.tup (x.ns.map Nd.d)), some (.ref q), some (.int x.u), some (nat x.ns x.u).d, some (.ref b), o5] ∧ L' = [(q, .lst (x.sets.map setD)), (b, .dct ks (tru ks))] ∧ ks.Nodup ∧ (∀ k, k ∈ ks ↔ ∃ f : Nat, k = f ∧ ∃ c ∈ (nat x.ns x.u).ch.take i, f ∈ x.sets.getD c []), ⟨none, [], rfl, rfl, by simp, by simp⟩, ?_, ?_⟩))))
    · rintro i d Γ' L' hd ⟨o5, ks, rfl, rfl, hnd, hk⟩
      obtain ⟨c, hc, rfl⟩ := map_get hd
      have hcm := List.mem_of_getElem? hc
      have hcl := hch.2 c hcm
      obtain ⟨e1, hm⟩ := x.at hcl
      have hk100 : ∀ k ∈ ks, ∃ n : Nat, k = n ∧ n < 100 := fun k hk2 => by
        obtain ⟨f, e, c', hc', hf⟩ := (hk k).mp hk2
        exact ⟨f, e, x.slt _ (x.at (hch.2 c' (List.mem_of_mem_take hc'))).2 f hf⟩
      have l1 := keys_len hnd hk100
      have l2 : (keysI (x.sets.getD c [])).length ≤ 100 := keys_len (keys_nodup (x.snd _ hm)) fun k hk2 => by
        obtain ⟨f, hf, rfl⟩ := List.mem_map.mp hk2
        exact ⟨f, rfl, x.slt _ hm f hf⟩
      refine tg_v 5 nd (bl_cons (st_update (ev_v 4 rfl ⟨1, b, ks, rfl, rfl, ev_ix ix_list (ev_v 1 rfl (ev_v 5 rfl (o2_ixC (k := 0) rfl (n := c) (d := setD (x.sets.getD c [])) (by rw [List.getElem?_map, e1]; rfl) ⟨1, ks, _, rfl, rfl, szle (by omega), bl_nil ⟨some (.int c), _, rfl, rfl, uniI_nodup _ _ hnd, fun k => ?_⟩⟩)))⟩)))
      rw [uniI_mem, hk, DL.take_next hc]
      constructor
      · rintro (⟨f, e, c', hc', hf⟩ | h)
        · exact ⟨f, e, c', by simp [hc'], hf⟩
        · obtain ⟨f, hf, rfl⟩ := List.mem_map.mp h
          exact ⟨f, rfl, c, by simp, hf⟩
      · rintro ⟨f, e, c', hc', hf⟩
        rcases List.mem_append.mp hc' with h | h
        · exact .inl ⟨f, e, c', h, hf⟩
        · rw [List.mem_singleton.mp h] at hf
          exact .inr (e ▸ mem_keysI.mpr hf)
    · rintro Γ' L' ⟨o5, ks, rfl, rfl, hnd, hk⟩
      have hln : (dnats (nat x.ns x.u).ch).length = (nat x.ns x.u).ch.length := dnats_length _
      rw [hln, List.take_length] at hk
      have hk100 : ∀ k ∈ ks, ∃ n : Nat, k = n ∧ n < 100 := fun k hk2 => by
        obtain ⟨f, e, c', hc', hf⟩ := (hk k).mp hk2
        exact ⟨f, e, x.slt _ (x.at (hch.2 c' hc')).2 f hf⟩
      have fin : ∀ {ks2 : List Int}, ks2.Nodup → (∀ k, k ∈ ks2 ↔ k ∈ ks ∧ ¬ ((nat x.ns x.u).isFn = true ∧ k = x.u)) → NwPost x (.kdc ks2 (tru ks2)) := fun {ks2} n2 h2 => by
        obtain ⟨l, rfl⟩ := nat_keys fun k hk2 => by
          obtain ⟨n, e, _⟩ := hk100 k ((h2 k).mp hk2).1
          exact ⟨n, e⟩
        refine ⟨l, rfl, keys_nd n2, fun f hf => ?_, fun f => ?_⟩
        · obtain ⟨n, e, hn⟩ := hk100 f ((h2 f).mp (mem_keysI.mpr hf)).1
          rw [Int.ofNat.inj e]; exact hn
        · rw [← mem_keysI, h2, hk]
          unfold stepN
          constructor
          · rintro ⟨⟨g, e, hg⟩, hn⟩
            have : f = g := Int.ofNat.inj e
            subst this
            exact .inr ⟨hg, fun z => hn ⟨z.1, by rw [z.2]⟩⟩
          · rintro (h | ⟨hg, hn⟩)
            · exact absurd h (hnv f)
            · exact ⟨⟨f, rfl, hg⟩, fun z => hn ⟨z.1, Int.ofNat.inj z.2⟩⟩
      by_cases hf : (nat x.ns x.u).isFn = true
      · have hkf : (nat x.ns x.u).kind = ("fun" : Str) := by
          cases e : nat x.ns x.u with
          | fn _ => rfl
          | word _ _ => rw [e] at hf; cases hf
          | var _ => rw [e] at hf; cases hf
        rw [hkf] at he0
        refine bl_cons (st_if (te_cmp op_eq (ev_ix ix_tup (ev_v 3 he0 (ev_int (o2_ixT (n := 0) rfl (ev_gstr hF (o2_seqT ⟨true, rfl, iteT ?_⟩))))))))
        refine bl_cons (st_dropS (ev_v 4 rfl ⟨1, b, ks, rfl, rfl, ev_v 2 rfl (ev_non ⟨1, ks, x.u, rfl, rfl, bl_nil (bl_cons (st_ret (ev_kn (ev_v 4 rfl ⟨1, b, _, _, rfl, rfl, fin (hnd.filter _) ?_, rfl⟩))))⟩)⟩))
        intro k
        rw [List.mem_filter, decide_eq_true_eq]
        exact ⟨fun z => ⟨z.1, fun y => z.2 y.2⟩, fun z => ⟨z.1, fun y => z.2 ⟨hf, y⟩⟩⟩
      · have hkf : (nat x.ns x.u).kind ≠ ("fun" : Str) := by
          cases e : nat x.ns x.u with
          | fn _ => rw [e] at hf; exact absurd rfl hf
          | word _ _ => exact (show ("word" : Str) ≠ "fun" by decide +kernel)
          | var f => exact absurd e (hnv f)
        refine bl_cons (st_if (te_cmp op_eq (ev_ix ix_tup (ev_v 3 he0 (ev_int (o2_ixT (n := 0) rfl (ev_gstr hF (o2_seqF (h := hkf) ⟨false, rfl, iteF ?_⟩))))))))
        refine bl_nil (bl_cons (st_ret (ev_kn (ev_v 4 rfl ⟨1, b, _, _, rfl, rfl, fin hnd ?_, rfl⟩))))
        exact fun k => ⟨fun z => ⟨z, fun y => hf y.1⟩, fun z => z.1⟩
end
end K50
set_option maxRecDepth 100000
set_option maxHeartbeats 4000000
/-! K10: the needs of all nodes. -/
namespace K50
open PySem PySem.Spec PyProof.Rows L2 DL
/-- node u needs function f -/
inductive Need (ns : List Nd) : Nat → Nat → Prop
  | var {u f : Nat} : nat ns u = .var f → Need ns u f
  | up {u c f : Nat} : c ∈ (nat ns u).ch → Need ns c f → ¬ ((nat ns u).isFn = true ∧ f = u) → Need ns u f
abbrev gs (sets : List (List Nat)) (u : Nat) : List Nat := sets.getD u []
structure NInv (ns : List Nd) (sets : List (List Nat)) : Prop where
  ln : sets.length = ns.length
  snd : ∀ s ∈ sets, s.Nodup
  slt : ∀ s ∈ sets, ∀ f ∈ s, f < 100
  sound : ∀ u f, u < ns.length → f ∈ gs sets u → Need ns u f
  infl : ∀ u f, u < ns.length → f ∈ gs sets u → stepN ns sets u f
def tot (sets : List (List Nat)) : Nat := (sets.map List.length).sum
theorem gs_set {sets : List (List Nat)} {u v : Nat} {l : List Nat} (h : u < sets.length) : gs (sets.set u l) v = if v = u then l else gs sets v := by
  unfold gs
  by_cases e : v = u
  · subst e; simp [List.getD, h]
  · rw [if_neg e]
    simp [List.getD, List.getElem?_set_ne (Ne.symm e)]
theorem gs_mem {sets : List (List Nat)} {u : Nat} (h : u < sets.length) : gs sets u ∈ sets := by
  have : gs sets u = sets[u] := by simp [gs, List.getD, h]
  rw [this]; exact List.getElem_mem h
theorem gs_at {sets : List (List Nat)} {u : Nat} (h : u < sets.length) : sets[u]? = some (gs sets u) := by simp [gs, List.getD, h]
theorem tot_set : ∀ {sets : List (List Nat)} {u : Nat} {l : List Nat}, u < sets.length → tot (sets.set u l) + (gs sets u).length = tot sets + l.length
  | [], _, _, h => absurd h (Nat.not_lt_zero _)
  | s :: sets, 0, l, _ => by simp [tot, gs]; omega
  | s :: sets, u + 1, l, h => by
    have := tot_set (sets := sets) (u := u) (l := l) (by simpa using h)
    simp [tot, gs] at this ⊢
    omega
theorem tot_le : ∀ {sets : List (List Nat)} {B : Nat}, (∀ s ∈ sets, s.length ≤ B) → tot sets ≤ sets.length * B
  | [], _, _ => by simp [tot]
  | s :: sets, B, h => by
    have h1 := tot_le (sets := sets) (B := B) fun x hx => h x (by simp [hx])
    have h2 := h s (by simp)
    simp only [tot, List.map_cons, List.sum_cons, List.length_cons, Nat.succ_mul] at h1 ⊢
    omega
theorem stepN_mono {ns : List Nd} {a b : List (List Nat)} (h : ∀ v f, f ∈ gs a v → f ∈ gs b v) {u f : Nat} (k : stepN ns a u f) : stepN ns b u f := by
  rcases k with k | ⟨⟨c, hc, hf⟩, hn⟩
  · exact .inl k
  · exact .inr ⟨⟨c, hc, h c f hf⟩, hn⟩
theorem stepN_need {ns : List Nd} {sets : List (List Nat)} (ok : NsOk ns) (I : NInv ns sets) {u f : Nat} (hu : u < ns.length) (k : stepN ns sets u f) : Need ns u f := by
  rcases k with k | ⟨⟨c, hc, hf⟩, hn⟩
  · exact .var k
  · exact .up hc (I.sound c f ((ok.ch _ (nat_mem hu)).2 c hc) hf) hn
theorem sub_back {a b : List Nat} (na : a.Nodup) (h : ∀ x ∈ a, x ∈ b) (hl : b.length ≤ a.length) : ∀ x ∈ b, x ∈ a := by
  intro x hx
  apply Classical.byContradiction
  intro hn
  have := nodup_sub_le (l := x :: a) (m := b) (List.nodup_cons.mpr ⟨hn, na⟩) fun y hy => by
    rcases List.mem_cons.mp hy with rfl | hy
    · exact hx
    · exact h y hy
  simp at this
  omega
/-- a greater set is put -/
theorem NInv.put {ns : List Nd} {sets : List (List Nat)} (ok : NsOk ns) (I : NInv ns sets) {u : Nat} (hu : u < ns.length) {l : List Nat} (nd : l.Nodup) (lt : ∀ f ∈ l, f < 100) (hl : ∀ f, f ∈ l ↔ stepN ns sets u f) : NInv ns (sets.set u l) ∧ ∀ v f, f ∈ gs sets v → f ∈ gs (sets.set u l) v := by
  have hu' : u < sets.length := by rw [I.ln]; exact hu
  have mono : ∀ v f, f ∈ gs sets v → f ∈ gs (sets.set u l) v := fun v f hf => by
    rw [gs_set hu']
    by_cases e : v = u
    · rw [if_pos e, hl]
      subst e
      exact I.infl v f hu hf
    · rw [if_neg e]; exact hf
  refine ⟨⟨by rw [List.length_set]; exact I.ln, fun s hs => ?_, fun s hs => ?_, fun v f hv hf => ?_, fun v f hv hf => ?_⟩, mono⟩
  · rcases List.mem_or_eq_of_mem_set hs with h | rfl
    · exact I.snd s h
    · exact nd
  · rcases List.mem_or_eq_of_mem_set hs with h | rfl
    · exact I.slt s h
    · exact lt
  · rw [gs_set hu'] at hf
    by_cases e : v = u
    · rw [if_pos e] at hf
      subst e
      exact stepN_need ok I hv ((hl f).mp hf)
    · rw [if_neg e] at hf
      exact I.sound v f hv hf
  · rw [gs_set hu'] at hf
    refine stepN_mono mono ?_
    by_cases e : v = u
    · rw [if_pos e] at hf
      subst e
      exact (hl f).mp hf
    · rw [if_neg e] at hf
      exact I.infl v f hv hf
theorem gs_rep {n v : Nat} : gs (List.replicate n []) v = [] := by
  simp only [gs, List.getD, List.getElem?_replicate]
  split <;> rfl
theorem NInv.zero (ns : List Nd) : NInv ns (List.replicate ns.length []) :=
  ⟨by simp, fun s hs => by rw [List.eq_of_mem_replicate hs]; simp, fun s hs => by rw [List.eq_of_mem_replicate hs]; simp, fun u f _ hf => (by rw [gs_rep] at hf; cases hf), fun u f _ hf => (by rw [gs_rep] at hf; cases hf)⟩
theorem NInv.tot {ns : List Nd} {sets : List (List Nat)} (ok : NsOk ns) (I : NInv ns sets) : K50.tot sets ≤ 10000 := by
  have h := tot_le (sets := sets) (B := 100) fun s hs => nodup_lt 100 s (I.snd s hs) (I.slt s hs)
  have h2 := ok.few
  rw [I.ln] at h
  have : ns.length * 100 ≤ 100 * 100 := Nat.mul_le_mul_right _ h2
  omega
/-- what the nodes need, as sets -/
structure NdSets (ns : List Nd) (sets : List (List Nat)) : Prop where
  ln : sets.length = ns.length
  snd : ∀ s ∈ sets, s.Nodup
  slt : ∀ s ∈ sets, ∀ f ∈ s, f < 100
  mem : ∀ u f, u < ns.length → (f ∈ gs sets u ↔ Need ns u f)
theorem NInv.done {ns : List Nd} {sets : List (List Nat)} (ok : NsOk ns) (I : NInv ns sets) (cl : ∀ u f, u < ns.length → stepN ns sets u f → f ∈ gs sets u) : NdSets ns sets := by
  refine ⟨I.ln, I.snd, I.slt, fun u f hu => ⟨I.sound u f hu, fun h => ?_⟩⟩
  induction h with
  | var e => exact cl _ _ hu (.inl e)
  | up hc _ hn ih => exact cl _ _ hu (.inr ⟨⟨_, hc, ih ((ok.ch _ (nat_mem hu)).2 _ hc)⟩, hn⟩)
section
variable {P : Program} {w : World} {K : PySem.W.Frag} {mg : Str → Option Value} {base : Heap}
def nnGam (ns : List Nd) (a : Addr) (ch : Bool) (o3 o4 : Option D) : Gam := [some (.tup (ns.map Nd.d)), some (.ref a), some (.bl ch), o3, o4, none]
def NnIn := { ns : List Nd // NsOk ns }
theorem ok_needs_of_nodes (Γ : Pg K mg) : FnOk P w K mg base CX0 3 Γ.needs_of_nodes.f Γ.needs_of_nodes.fd P_needs_of_nodes (spD K (fun x : NnIn => [.tup (x.1.map Nd.d)]) NoC (fun x d L => (∃ sets, d = .lst (sets.map setD) ∧ NdSets x.1 sets) ∧ L = [])) := by
  refine fn_ok Γ.needs_of_nodes.F sc_needs_of_nodes (fun _ => rfl) (by decide) (fun cdv A outer s H E hr ⟨ns, ok⟩ => ?_)
  have nd := sc_needs_of_nodes.nd
  have few := ok.few
  refine bl_cons (st_par 1 2 rfl nd (by decide) (ag_cons (ev_mapO [("node", 5)] Nd.d (fun _ => setD []) rfl nd rfl (js := [5]) (by decide) (itx_tup (ev_v 0 rfl ⟨_, rfl, ns, rfl, szle (by omega), fun n _ => ⟨fun s H C cl fp => tg_v 5 nd ⟨rfl, fun s H C cl fp => ev_kn (ev_dnew fun p => ⟨0, p, [], [], rfl, rfl, rfl, rfl⟩)⟩⟩, fun a => ag_cons (ev_bl (ag_nil ⟨_, _, rfl, ?_⟩))⟩)))))
  refine bl_cons (st_while (fun m Γ' L' => ∃ sets ch o3 o4, Γ' = nnGam ns a ch o3 o4 ∧ L' = [(a, .lst (sets.map setD))] ∧ NInv ns sets ∧ m = 2 * (10000 - tot sets) + (if ch = true then 1 else 0) ∧ (ch = false → ∀ u f, u < ns.length → stepN ns sets u f → f ∈ gs sets u)) _ ⟨List.replicate ns.length [], true, none, none, rfl, by rw [List.map_replicate, List.map_const']; rfl, .zero ns, rfl, fun h => by cases h⟩ fun m Γ' L' hW => ?_)
  obtain ⟨sets, ch, o3, o4, rfl, rfl, I, rfl, hcl⟩ := hW
  refine te_val (ev_v 2 rfl ⟨ch, rfl, ?_⟩)
  cases ch with
  | false => exact iteF (bl_cons (st_ret (ev_fz (ev_v 1 rfl ⟨0, a, _, rfl, rfl, ⟨sets, rfl, I.done ok (hcl rfl)⟩, rfl⟩))))
  | true =>
    refine iteT (bl_cons (st_set 2 nd (ev_bl ?_)))
    refine bl_cons (st_for (js := [3]) rfl (itx_down Γ.b_range (ag_cons (ev_op op_sub (ev_callB call_len_seq Γ.b_len bt_len (ag_cons (ev_v 0 rfl (ag_nil (oa_lenS (.inl rfl) (ev_int (o2_sub (ag_cons (ev_neg (ev_int ⟨1, rfl, ag_cons (ev_neg (ev_int ⟨1, rfl, ag_nil ⟨ns.length, ?_, by omega, fun i Γ' L' => ∃ s2 ch o3 o4, Γ' = nnGam ns a ch o3 o4 ∧ L' = [(a, .lst (s2.map setD))] ∧ NInv ns s2 ∧ (ch = true → tot sets < tot s2) ∧ (ch = false → tot s2 = tot sets ∧ ∀ v f, ns.length - i ≤ v → v < ns.length → stepN ns s2 v f → f ∈ gs s2 v), ⟨sets, false, o3, o4, rfl, rfl, I, ?_, ?_⟩, ?_, ?_⟩⟩))⟩))))))))))))))
    · rw [List.length_map]
    · intro h; cases h
    · exact fun _ => ⟨rfl, fun v f h1 h2 => by omega⟩
    · rintro i d Γ' L' hd ⟨s2, ch, o3, o4, rfl, rfl, I2, h1, h2⟩
      have hi : i < ns.length := by
        have := lt_of_get hd
        rwa [downD_length] at this
      rw [downD_get hi] at hd
      cases hd
      have hu : ns.length - 1 - i < ns.length := by omega
      have eu : ((ns.length : Int) - 1 - i) = ((ns.length - 1 - i : Nat) : Int) := by omega
      rw [eu]
      generalize hgu : ns.length - 1 - i = u at hu
      have hu' : u < s2.length := by rw [I2.ln]; exact hu
      refine tg_v 3 nd (bl_cons (st_set 4 nd (ev_call (ok_needs_now Γ) hr Γ.needs_now.g Γ.needs_now.F.kp (bi_needs_now Γ) (ag_cons (ev_v 0 rfl (ag_cons (ev_v 1 rfl (ag_cons (ev_v 3 rfl (ag_nil ⟨(⟨ns, ok, s2, I2.ln, I2.snd, I2.slt, u, hu⟩, a), [], rfl, .refl _, fun d L' hp => ?_⟩))))))))))
      obtain ⟨⟨l, rfl, ln, llt, hl⟩, rfl⟩ := hp
      have hl : ∀ f, f ∈ l ↔ stepN ns s2 u f := hl
      refine bl_cons (st_if (te_cmp op_gt (ev_callB call_lenDk Γ.b_len bt_len (ag_cons (ev_v 4 rfl (ag_nil (oa_lenD (.inr (.inr rfl)) (ev_callB call_lenDk Γ.b_len bt_len (ag_cons (ev_ix ix_list (ev_v 1 rfl (ev_v 3 rfl (o2_ixC (k := 0) rfl (n := u) (d := setD (gs s2 u)) (by rw [List.getElem?_map, gs_at hu']; rfl) (ag_nil (oa_lenD (.inr (.inr rfl)) (o2_gt ⟨_, rfl, ?_⟩))))))))))))))))
      have e1 : (keysI l).length = l.length := by simp [keysI]
      have e2 : (keysI (gs s2 u)).length = (gs s2 u).length := by simp [keysI]
      rw [e1, e2]
      by_cases hgt : (gs s2 u).length < l.length
      · obtain ⟨I3, mono⟩ := I2.put ok hu ln llt hl
        have ht := tot_set (sets := s2) (u := u) (l := l) hu'
        have hge : tot sets ≤ tot s2 := by
          cases ch with
          | true => exact Nat.le_of_lt (h1 rfl)
          | false => exact Nat.le_of_eq (h2 rfl).1.symm
        refine iteT' (by simpa using hgt) (bl_cons (st_lput (ev_v 4 rfl (ev_v 1 rfl (ev_v 3 rfl ⟨0, a, u, s2.map setD, rfl, rfl, rfl, by rw [List.length_map]; exact hu', bl_cons (st_set 2 nd (ev_bl (bl_nil (bl_nil ⟨s2.set u l, true, _, _, rfl, ?_, I3, fun _ => by omega, fun h => by cases h⟩))))⟩)))))
        simp [List.map_set]
      · refine iteF' (by simpa using hgt) (bl_nil (bl_nil ⟨s2, ch, _, _, rfl, rfl, I2, h1, fun hc => ⟨(h2 hc).1, fun v f hv hv2 hs => ?_⟩⟩))
        by_cases e : v = u
        · subst e
          exact sub_back (I2.snd _ (gs_mem hu')) (fun x hx => (hl x).mpr (I2.infl v x hu hx)) (by omega) f ((hl f).mpr hs)
        · exact (h2 hc).2 v f (by omega) hv2 hs
    · rintro Γ' L' ⟨s2, ch, o3, o4, rfl, rfl, I2, h1, h2⟩
      rw [downD_length] at h2
      have t2 := I2.tot ok
      refine bl_nil ⟨_, ?_, s2, ch, o3, o4, rfl, rfl, I2, rfl, fun hc u f hu => (h2 hc).2 u f (by omega) hu⟩
      cases ch with
      | true =>
        have := h1 rfl
        simp only [if_true]
        omega
      | false =>
        have := (h2 rfl).1
        simp only [if_true, Bool.false_eq_true, if_false]
        omega
end
end K50
set_option maxRecDepth 100000
set_option maxHeartbeats 4000000
/-! K11: scopes. -/
namespace K50
open PySem PySem.Spec PyProof.Rows L2 DL
/-- f is the innermost function that u needs -/
def Inn (sets : List (List Nat)) (u f : Nat) : Prop := f ∈ gs sets u ∧ ∀ g ∈ gs sets u, g = f ∨ g ∈ gs sets f
/-- the scope of a node by what nodes need -/
inductive ScOf (sets : List (List Nat)) : Nat → List Nat → Prop
  | nil {u : Nat} : (∀ f, ¬ Inn sets u f) → ScOf sets u []
  | cons {u f : Nat} {s : List Nat} : Inn sets u f → ScOf sets f s → ScOf sets u (s ++ [f])
structure IcIn where
  sets : List (List Nat)
  ln : sets.length ≤ 100
  snd : ∀ s ∈ sets, s.Nodup
  slt : ∀ s ∈ sets, ∀ f ∈ s, f < sets.length
  u : Nat
  hu : u < sets.length
def oD : Option Nat → D
  | none => .non
  | some f => .int f
def IcPost (x : IcIn) (o : Option Nat) : Prop := (∀ f, o = some f → Inn x.sets x.u f) ∧ (o = none → ∀ f, ¬ Inn x.sets x.u f)
section
variable {P : Program} {w : World} {K : PySem.W.Frag} {mg : Str → Option Value} {base : Heap}
theorem keys_map (l : List Nat) : (keysI l).map D.int = l.map fun (n : Nat) => D.int n := by unfold keysI; rw [List.map_map]; rfl
theorem ok_innermost_in (Γ : Pg K mg) : FnOk P w K mg base CX0 1 Γ.innermost_in.f Γ.innermost_in.fd P_innermost_in (spD K (fun x : IcIn => [.lst (x.sets.map setD), .int x.u]) NoC (fun x d L => (∃ o, d = oD o ∧ IcPost x o) ∧ L = [])) := by
  refine fn_ok Γ.innermost_in.F sc_innermost_in (fun _ => rfl) (by decide) (fun cdv A outer s H E hr x => ?_)
  have nd := sc_innermost_in.nd
  have hu1 := Nat.lt_of_le_of_lt (Nat.add_le_add_left (show 1 ≤ 64 by decide) _) hr.units
  have at_ : ∀ {v : Nat}, v < x.sets.length → (x.sets.map setD)[v]? = some (setD (gs x.sets v)) := fun h => by rw [List.getElem?_map, gs_at h]; rfl
  have len : ∀ {v : Nat}, v < x.sets.length → (gs x.sets v).length ≤ 100 := fun h => nodup_lt 100 _ (x.snd _ (gs_mem h)) fun f hf => Nat.lt_of_lt_of_le (x.slt _ (gs_mem h) f hf) x.ln
  refine bl_cons (st_for (js := [2]) rfl (itx_kdc (ev_ix ix_list (ev_v 0 rfl (ev_v 1 rfl (o2_ixL (at_ x.hu) ⟨_, _, rfl, fun i Γ' L' => ∃ o2, Γ' = [some (.lst (x.sets.map setD)), some (.int x.u), o2, none] ∧ L' = [] ∧ ∀ f ∈ (gs x.sets x.u).take i, ¬ Inn x.sets x.u f, ⟨none, rfl, rfl, by simp⟩, ?_, ?_⟩))))))
  · rintro i d Γ' L' hd ⟨o2, rfl, rfl, hno⟩
    rw [keys_map] at hd
    obtain ⟨f, hf, rfl⟩ := map_get hd
    have hfm := List.mem_of_getElem? hf
    have hfl := x.slt _ (gs_mem x.hu) f hfm
    refine tg_v 2 nd (bl_cons (st_if (te_val (ev_callB (cr_all rfl) Γ.b_all bt_all (ag_cons (ev_mapT [("other", 3)] (fun g : Nat => .int g) (fun g => .bl (decide (g = f) || decide (g ∈ gs x.sets f))) rfl nd rfl (js := [3]) (by decide) (itx_kdc (ev_ix ix_list (ev_v 0 rfl (ev_v 1 rfl (o2_ixL (at_ x.hu) ⟨_, _, rfl, gs x.sets x.u, keys_map _, szle (Nat.le_trans (len x.hu) (by decide)), fun g hg => ⟨fun s H C cl fp => tg_v 3 nd ⟨rfl, fun s H C cl fp => ?_⟩⟩, ag_nil (oa_all (bs := (gs x.sets x.u).map fun g => decide (g = f) || decide (g ∈ gs x.sets f)) ?_ ⟨_, rfl, ?_⟩)⟩)))))))))))
    · refine ev_or (ev_cmp op_eq (ev_v 3 rfl (ev_v 2 rfl (o2_ieq ⟨_, rfl, ?_⟩))))
      by_cases e : g = f
      · refine iteT' (by simp [e]) ⟨by simp [e], rfl⟩
      · refine iteF' (by simpa using fun z => e (Int.ofNat.inj z)) (ev_one (ev_din hu1 (ev_v 3 rfl (ev_ix ix_list (ev_v 0 rfl (ev_v 2 rfl (o2_ixL (at_ hfl) ⟨g, _, _, rfl, .inr (.inr rfl), ?_, rfl⟩)))))))
        rw [decide_eq_false e, Bool.false_or]
        exact congrArg D.bl (decide_eq_decide.mpr mem_keysI)
    · rw [List.map_map]; rfl
    · have hall : ((gs x.sets x.u).map fun g => decide (g = f) || decide (g ∈ gs x.sets f)).all id = true ↔ Inn x.sets x.u f := by
        rw [List.all_eq_true]
        constructor
        · intro h
          refine ⟨hfm, fun g hg => ?_⟩
          have := h _ (List.mem_map_of_mem hg)
          simpa using this
        · rintro ⟨_, h⟩ b hb
          obtain ⟨g, hg, rfl⟩ := List.mem_map.mp hb
          simpa using h g hg
      by_cases hi : Inn x.sets x.u f
      · exact iteT' (hall.mpr hi) (bl_cons (st_ret (ev_v 2 rfl ⟨⟨some f, rfl, fun g e => by cases e; exact hi, fun e => by cases e⟩, rfl⟩)))
      · refine iteF' (Bool.eq_false_iff.mpr fun z => hi (hall.mp z)) (bl_nil (bl_nil ⟨_, rfl, rfl, fun g hg => ?_⟩))
        rw [DL.take_next hf] at hg
        rcases List.mem_append.mp hg with h | h
        · exact hno g h
        · rw [List.mem_singleton.mp h]; exact hi
  · rintro Γ' L' ⟨o2, rfl, rfl, hno⟩
    refine bl_cons (st_ret (ev_non ⟨⟨none, rfl, fun f e => (by cases e), fun _ f hi => hno f ?_ hi⟩, rfl⟩))
    have e : ((keysI (gs x.sets x.u)).map D.int).length = (gs x.sets x.u).length := by simp [keysI]
    rw [e, List.take_length]
    exact hi.1
structure ScIn extends IcIn where
  rk : Nat → Nat
  hrk : ∀ v f, v < sets.length → f ∈ gs sets v → rk f < rk v
  hb : ∀ v, rk v ≤ 100
/-- what may come ahead -/
def Tl (sets : List (List Nat)) : Option Nat → List Nat → Prop
  | none, s => s = []
  | some f, s => ∃ s', ScOf sets f s' ∧ s = s' ++ [f]
theorem tl_sc {x : IcIn} {o : Option Nat} (h : IcPost x o) {s : List Nat} (t : Tl x.sets o s) : ScOf x.sets x.u s := by
  cases o with
  | none => rw [show s = [] from t]; exact .nil (h.2 rfl)
  | some f =>
    obtain ⟨s', h1, rfl⟩ := t
    exact .cons (h.1 f rfl) h1
def scM (x : ScIn) : Option Nat → Nat
  | none => 0
  | some f => x.rk f + 1
theorem ok_scope_in (Γ : Pg K mg) : FnOk P w K mg base CX0 2 Γ.scope_in.f Γ.scope_in.fd P_scope_in (spD K (fun x : ScIn => [.lst (x.sets.map setD), .int x.u]) NoC (fun x d L => (∃ s, d = tnats s ∧ ScOf x.sets x.u s) ∧ L = [])) := by
  refine fn_ok Γ.scope_in.F sc_scope_in (fun _ => rfl) (by decide) (fun cdv A outer s H E hr x => ?_)
  have nd := sc_scope_in.nd
  refine bl_cons (st_par 2 3 rfl nd (by decide) (ag_cons (ev_lst (ag_nil ⟨sz, fun a => ag_cons (ev_ownP (ok_innermost_in Γ) hr Γ.innermost_in.g Γ.innermost_in.F.kp (bi_innermost_in Γ) (ag_cons (ev_v 0 rfl (ag_cons (ev_v 1 rfl (ag_nil ⟨x.toIcIn, rfl, fun d hd => ag_nil ⟨_, _, rfl, ?_⟩⟩))))))⟩))))
  obtain ⟨o, rfl, ho⟩ := hd
  have mlt : ∀ {v : Nat} {o : Option Nat}, v < x.sets.length → (∀ f, o = some f → Inn x.sets v f) → scM x o ≤ x.rk v := fun {v o} hv h => by
    cases o with
    | none => exact Nat.zero_le _
    | some f => exact x.hrk v f hv (h f rfl).1
  refine bl_cons (st_while (fun m Γ' L' => ∃ fd o, Γ' = [some (.lst (x.sets.map setD)), some (.int x.u), some (.ref a), some (oD o)] ∧ L' = [(a, .lst (dnats fd))] ∧ m = scM x o ∧ (∀ s, Tl x.sets o s → ScOf x.sets x.u (s ++ fd.reverse)) ∧ (∀ f, o = some f → f < x.sets.length) ∧ fd.length + m ≤ 101) _ ⟨[], o, rfl, rfl, rfl, fun s t => by simpa using tl_sc ho t, fun f e => x.slt _ (gs_mem x.hu) f (ho.1 f e).1, ?_⟩ fun m Γ' L' hW => ?_)
  · have h1 := mlt x.hu ho.1
    have h2 := x.hb x.u
    simp only [List.length_nil]
    omega
  obtain ⟨fd, o, rfl, rfl, rfl, ht, hl, hz⟩ := hW
  cases o with
  | none =>
    refine te_cmp op_notN (ev_v 3 rfl (ev_non (o2_notN ⟨false, rfl, iteF ?_⟩)))
    refine bl_cons (st_ret (ev_callTy call_tuple_of Γ.b_tuple bt_tuple (ag_cons (ev_fz (ev_rev (ev_fz (ev_v 2 rfl ⟨0, a, _, rfl, rfl, _, rfl, fun p => ⟨0, p, _, rfl, rfl, ag_nil (oa_tuple (.inr rfl) ⟨⟨fd.reverse, ?_, ?_⟩, rfl⟩)⟩⟩)))))))
    · simp [dnats, tnats]
    · simpa using ht [] rfl
  | some f =>
    have hf := hl f rfl
    refine te_cmp op_notN (ev_v 3 rfl (ev_non (o2_notN ⟨true, rfl, iteT ?_⟩)))
    refine bl_cons (st_append (ev_v 2 rfl ⟨0, a, dnats fd, rfl, rfl, ev_v 3 rfl ⟨0, dnats fd, rfl, ?_, ?_⟩⟩))
    · rw [dnats_length]
      exact szlt (by omega)
    refine bl_cons (st_set 3 nd (ev_ownP (ok_innermost_in Γ) hr Γ.innermost_in.g Γ.innermost_in.F.kp (bi_innermost_in Γ) (ag_cons (ev_v 0 rfl (ag_cons (ev_v 3 rfl (ag_nil ⟨⟨x.sets, x.ln, x.snd, x.slt, f, hf⟩, rfl, fun d hd => ?_⟩)))))))
    obtain ⟨o, rfl, ho⟩ := hd
    have hm := mlt hf ho.1
    refine bl_nil ⟨_, ?_, fd ++ [f], o, rfl, ?_, rfl, fun s t => ?_, fun g e => x.slt _ (gs_mem hf) g (ho.1 g e).1, ?_⟩
    · exact Nat.lt_succ_of_le hm
    · simp [dnats, oD]
    · have := ht (s ++ [f]) ⟨s, tl_sc ho t, rfl⟩
      simpa using this
    · simp only [scM, List.length_append, List.length_cons, List.length_nil] at hz hm ⊢
      omega
end
end K50
set_option maxRecDepth 100000
set_option maxHeartbeats 4000000
/-! K12: names, forms of nodes. -/
namespace K50
open PySem PySem.Spec PyProof.Rows L2 DL
/-- the words that may stand -/
structure NmOk (x : Str) : Prop where
  lo : 1 ≤ x.length
  hi : x.length ≤ 8
  rs : x ≠ "fun" ∧ x ≠ "let" ∧ x ≠ "in"
  lt : ∀ c ∈ x.cps.toList, 97 ≤ c ∧ c ≤ 122
def NmIn := { x : Str // NmOk x }
theorem lst1_lt {a b : Nat} : (([a] : List Nat) < [b]) ↔ a < b := by
  rw [List.cons_lt_cons_iff]
  simp
section
variable {P : Program} {w : World} {K : PySem.W.Frag} {mg : Str → Option Value} {base : Heap}
theorem ok_is_name (Γ : Pg K mg) : FnOk P w K mg base CX0 1 Γ.is_name.f Γ.is_name.fd P_is_name (spD K (fun x : NmIn => [.str x.1]) NoC (Ret fun _ => .bl true)) := by
  obtain ⟨tM, hM⟩ := Γ.MOST_LETTERS
  obtain ⟨cR, hR, tR⟩ := Γ.RESERVED
  refine fn_ok Γ.is_name.F sc_is_name (fun _ => rfl) (by decide) (fun cdv A outer s H E hr ⟨x, hx⟩ => ?_)
  have nd := sc_is_name.nd
  have h1 : (x.length : Int) ≤ 8 := by have := hx.hi; omega
  have h0 : (1 : Int) ≤ x.length := by have := hx.lo; omega
  refine bl_cons (st_if (te_tw (tw_or (te_not (te_val (ev_callB call_isi Γ.b_isinstance bt_isinstance (ag_cons (ev_v 0 rfl (ag_cons (ev_bltn Γ.b_str bt_str (ag_nil (oa_isi rfl (by decide +kernel) ⟨true, rfl, iteF' rfl ?_⟩))))))))))))
  refine tw_or (te_not (te_chain op_le op_le (ev_int (ev_callB call_len_str Γ.b_len bt_len (ag_cons (ev_v 0 rfl (ag_nil (oa_lenStr (Nat.le_trans hx.hi (by decide)) (o2_le ⟨true, by rw [decide_eq_true h0], iteT (ev_gint hM (o2_le ⟨true, by rw [decide_eq_true h1], iteF' rfl ?_⟩))⟩)))))))))
  refine tw_or1 (te_cmp op_in_seq (ev_v 0 rfl (ev_gtup hR tR (o2_in (neg := false) (k := false) (.inl rfl) rfl rfl ?_ ⟨false, rfl, iteF (bl_nil ?_)⟩))))
  · have e1 : x ≠ "fun" := hx.rs.1
    have e2 : x ≠ "let" := hx.rs.2.1
    have e3 : x ≠ "in" := hx.rs.2.2
    simp [inV, D.v, eqV, e1.symm, e2.symm, e3.symm]
  · refine bl_cons (st_ret (ev_callB (cr_all rfl) Γ.b_all bt_all (ag_cons (ev_mapT [("letter", 1)] (fun c : Nat => .str ⟨#[c]⟩) (fun _ => .bl true) rfl nd rfl (js := [1]) (by decide) (itx_str (ev_v 0 rfl ⟨x, rfl, x.cps.toList, rfl, ?_, fun c hc => ⟨fun s H C cl fp => tg_v 1 nd ⟨rfl, fun s H C cl fp => ?_⟩⟩, ag_nil (oa_all (bs := x.cps.toList.map fun _ => true) ?_ ⟨?_, rfl⟩)⟩))))))
    · exact szle (Nat.le_trans hx.hi (by decide))
    · have hc' := hx.lt c hc
      refine ev_chain op_le_str op_le_str (ev_str (ev_v 1 rfl (o2_leStr ⟨true, ?_, iteT (ev_str (o2_leStr ⟨?_, rfl⟩))⟩)))
      · have : ¬ (([c] : List Nat) < ("a" : Str).cps.toList) := by
          rw [show ("a" : Str).cps.toList = [97] from by decide +kernel, lst1_lt]
          omega
        show D.bl (!decide _) = _
        rw [decide_eq_false this]; rfl
      · have : ¬ (("z" : Str).cps.toList < ([c] : List Nat)) := by
          rw [show ("z" : Str).cps.toList = [122] from by decide +kernel, lst1_lt]
          omega
        show D.bl (!decide _) = _
        rw [decide_eq_false this]; rfl
    · rw [List.map_map]; rfl
    · show D.bl _ = D.bl true
      congr 1
      rw [List.all_eq_true]
      intro b hb
      obtain ⟨_, _, rfl⟩ := List.mem_map.mp hb
      rfl
/-- a node's form -/
structure NfIn where
  n : Nd
  t : Nat
  ht : t ≤ 100
  ch : n.ch.length ≤ 3 ∧ ∀ c ∈ n.ch, c < t
  vt : ∀ f, n = .var f → f < t
  nm : ∀ w cs, n = .word w cs → NmOk w
theorem all_true {α : Type} (l : List α) : ((l.map fun _ => true).all id) = true := by
  rw [List.all_eq_true]
  intro b hb
  obtain ⟨_, _, rfl⟩ := List.mem_map.mp hb
  rfl
theorem plain_str {x : Str} (h : PyData.strOk x = true) : Plain (.str x) := ⟨rfl, by simp [D.py, PyData.canLay0, h], by simp [D.py, PyData.depth]⟩
theorem dep_nats : ∀ cs : List Nat, PyData.depthAll (D.pys (dnats cs)) ≤ 1
  | [] => by simp [dnats, D.pys, PyData.depthAll]
  | c :: cs => by
    have := dep_nats cs
    simp only [dnats, List.map_cons, D.pys, D.py, PyData.depthAll, PyData.depth] at this ⊢
    omega
theorem nd_plain {n : Nd} (h : PyData.strOk n.wd = true) : Plain n.d := by
  have hk := kind_ok n
  cases n with
  | word x cs =>
    have h1 := lays_of (plain_nats cs)
    have h2 := pures_of (plain_nats cs)
    have hk : PyData.strOk (Nd.word x cs).kind = true := hk
    simp only [Nd.kind] at hk
    simp only [Nd.wd] at h
    refine ⟨by simp [Nd.d, D.pure, D.pures, h2], by simp [Nd.d, D.py, D.pys, PyData.canLay0, PyData.canLayAll0, h1, hk, h], ?_⟩
    have h3 := dep_nats cs
    simp only [Nd.d, D.py, D.pys, PyData.depth, PyData.depthAll]
    omega
  | fn c =>
    simp only [Nd.kind] at hk
    exact ⟨rfl, by simp [Nd.d, D.py, D.pys, PyData.canLay0, PyData.canLayAll0, hk], by simp [Nd.d, D.py, D.pys, PyData.depth, PyData.depthAll]⟩
  | var c =>
    simp only [Nd.kind] at hk
    exact ⟨rfl, by simp [Nd.d, D.py, D.pys, PyData.canLay0, PyData.canLayAll0, hk], by simp [Nd.d, D.py, D.pys, PyData.depth, PyData.depthAll]⟩
theorem plain_shaped {d : D} (h : Plain d) : SeqAt.shaped d.py = true := by
  have h1 := h.lay
  have h2 := h.dep
  simp [SeqAt.shaped, h1]
  omega
theorem nm_strOk {x : Str} (h : NmOk x) : PyData.strOk x = true := by
  unfold PyData.strOk
  rw [← Array.all_toList, List.all_eq_true]
  intro c hc
  have := (h.lt c hc).2
  simp
  omega
theorem bet {c t : Nat} (h : c < t) : (decide ((0 : Int) ≤ (c : Int)) && decide ((c : Int) ≤ (t : Int) - 1)) = true := by
  simp only [Bool.and_eq_true, decide_eq_true_eq]
  omega
theorem ok_is_node_form (Γ : Pg K mg) : FnOk P w K mg base CX0 4 Γ.is_node_form.f Γ.is_node_form.fd P_is_node_form (spD K (fun x : NfIn => [x.n.d, .int x.t]) NoC (Ret fun _ => .bl true)) := by
  obtain ⟨tW, hW⟩ := Γ.WORD
  obtain ⟨tF, hF⟩ := Γ.FUN
  obtain ⟨tV, hV⟩ := Γ.VAR
  obtain ⟨tC, hC⟩ := Γ.MOST_CHILDREN
  refine fn_ok Γ.is_node_form.F sc_is_node_form (fun _ => rfl) (by decide) (fun cdv A outer s H E hr ⟨n, t, ht, ch, vt, nm⟩ => ?_)
  have nd := sc_is_node_form.nd
  have hwd : PyData.strOk n.wd = true := by
    cases n with
    | word x cs => exact nm_strOk (nm x cs rfl)
    | fn _ => exact (show PyData.strOk ("" : Str) = true by decide +kernel)
    | var _ => exact (show PyData.strOk ("" : Str) = true by decide +kernel)
  have hp := nd_plain hwd
  have hty : n.d.typ = some "tuple" := by cases n <;> rfl
  have hne : PyData.eqv n.d.py (D.tup []).py = false := by cases n <;> rfl
  refine bl_cons (st_if (te_tw (tw_or (te_not (te_val (ev_callB call_isi Γ.b_isinstance bt_isinstance (ag_cons (ev_v 0 rfl (ag_cons (ev_bltn Γ.b_tuple bt_tuple (ag_nil (oa_isi hty (by decide +kernel) ⟨true, rfl, iteF' rfl ?_⟩))))))))))))
  refine tw_or (te_cmp (op_eqD hr.units) (ev_v 0 rfl (ev_tup (ag_nil ⟨sz, o2_eqD hp.pure rfl (plain_shaped hp) (by decide +kernel) hne ⟨false, rfl, iteF ?_⟩⟩))))
  have hk := kind_ok n
  cases n with
  | word x cs =>
    refine tw_or1 (te_not (te_val (ev_callB call_isi Γ.b_isinstance bt_isinstance (ag_cons (ev_ix ix_tup (ev_v 0 rfl (ev_int (o2_ixT (n := 0) rfl (ag_cons (ev_bltn Γ.b_str bt_str (ag_nil (oa_isi rfl (by decide +kernel) ⟨true, rfl, iteF' rfl (bl_nil ?_)⟩))))))))))))
    refine bl_cons (st_if (te_cmp op_eq (ev_ix ix_tup (ev_v 0 rfl (ev_int (o2_ixT (n := 0) rfl (ev_gstr hW (o2_seqT ⟨true, rfl, iteT ?_⟩))))))))
    refine bl_cons (st_if (te_tw (tw_or (te_cmp op_ne (ev_callB call_len_seq Γ.b_len bt_len (ag_cons (ev_v 0 rfl (ag_nil (oa_lenS (.inl rfl) (ev_int (o2_ine ⟨false, rfl, iteF ?_⟩)))))))))))
    refine tw_or (te_not (te_val (ev_own (ok_is_name Γ) (hr.mono (by decide)) Γ.is_name.g Γ.is_name.F.kp (bi_is_name Γ) (ag_cons (ev_ix ix_tup (ev_v 0 rfl (ev_int (o2_ixT (n := 1) rfl (ag_nil ⟨⟨x, nm x cs rfl⟩, rfl, true, rfl, iteF' rfl ?_⟩)))))))))
    refine tw_or1 (te_not (te_val (ev_callB call_isi Γ.b_isinstance bt_isinstance (ag_cons (ev_ix ix_tup (ev_v 0 rfl (ev_int (o2_ixT (n := 2) rfl (ag_cons (ev_bltn Γ.b_tuple bt_tuple (ag_nil (oa_isi rfl (by decide +kernel) ⟨true, rfl, iteF' rfl (bl_nil ?_)⟩))))))))))))
    have h3 : ((dnats cs).length : Int) ≤ 3 := by have := ch.1; simp only [Nd.ch] at this; rw [dnats_length]; omega
    refine bl_cons (st_ret (ev_and (ev_cmp op_le (ev_callB call_len_seq Γ.b_len bt_len (ag_cons (ev_ix ix_tup (ev_v 0 rfl (ev_int (o2_ixT (n := 2) rfl (ag_nil (oa_lenS (.inl rfl) (ev_gint hC (o2_le ⟨true, by rw [decide_eq_true h3], iteT (ev_one ?_)⟩)))))))))))))
    refine ev_callB (cr_all rfl) Γ.b_all bt_all (ag_cons (ev_mapT [("child", 2)] (fun c : Nat => .int c) (fun _ => .bl true) rfl nd rfl (js := [2]) (by decide) (itx_tup (ev_ix ix_tup (ev_v 0 rfl (ev_int (o2_ixT (n := 2) rfl ⟨_, rfl, cs, rfl, szle (Nat.le_trans ch.1 (by decide)), fun c hc => ⟨fun s H C cl fp => tg_v 2 nd ⟨rfl, fun s H C cl fp => ?_⟩⟩, ag_nil (oa_all (bs := cs.map fun _ => true) ?_ ⟨?_, rfl⟩)⟩)))))))
    · refine ev_own (ok_is_between Γ) (hr.mono (by decide)) Γ.is_between.g Γ.is_between.F.kp (bi_is_between Γ) (ag_cons (ev_v 2 rfl (ag_cons (ev_int (ag_cons (ev_op op_sub (ev_v 1 rfl (ev_int (o2_sub (ag_nil ⟨⟨c, 0, (t : Int) - 1⟩, rfl, ?_⟩))))))))))
      exact ⟨congrArg D.bl (bet (ch.2 c hc)), rfl⟩
    · rw [List.map_map]; rfl
    · exact congrArg D.bl (all_true cs)
  | fn c =>
    refine tw_or1 (te_not (te_val (ev_callB call_isi Γ.b_isinstance bt_isinstance (ag_cons (ev_ix ix_tup (ev_v 0 rfl (ev_int (o2_ixT (n := 0) rfl (ag_cons (ev_bltn Γ.b_str bt_str (ag_nil (oa_isi rfl (by decide +kernel) ⟨true, rfl, iteF' rfl (bl_nil ?_)⟩))))))))))))
    refine bl_cons (st_if (te_cmp op_eq (ev_ix ix_tup (ev_v 0 rfl (ev_int (o2_ixT (n := 0) rfl (ev_gstr hW (o2_seqF ⟨false, rfl, iteF (bl_nil ?_)⟩))))))))
    refine bl_cons (st_ret (ev_and (ev_cmp op_in_seq (ev_ix ix_tup (ev_v 0 rfl (ev_int (o2_ixT (n := 0) rfl (ev_tup (ag_cons (ev_gstr hF (ag_cons (ev_gstr hV (ag_nil ⟨sz, o2_in (neg := false) (k := true) (.inl rfl) rfl rfl (by decide +kernel) ⟨true, rfl, iteT ?_⟩⟩)))))))))))))
    refine ev_and (ev_cmp op_eq (ev_callB call_len_seq Γ.b_len bt_len (ag_cons (ev_v 0 rfl (ag_nil (oa_lenS (.inl rfl) (ev_int (o2_ieq ⟨true, rfl, iteT (ev_one ?_)⟩))))))))
    refine ev_own (ok_is_between Γ) (hr.mono (by decide)) Γ.is_between.g Γ.is_between.F.kp (bi_is_between Γ) (ag_cons (ev_ix ix_tup (ev_v 0 rfl (ev_int (o2_ixT (n := 1) rfl (ag_cons (ev_int (ag_cons (ev_op op_sub (ev_v 1 rfl (ev_int (o2_sub (ag_nil ⟨⟨c, 0, (t : Int) - 1⟩, rfl, ?_⟩)))))))))))))
    exact ⟨congrArg D.bl (bet (ch.2 c (by simp [Nd.ch]))), rfl⟩
  | var c =>
    refine tw_or1 (te_not (te_val (ev_callB call_isi Γ.b_isinstance bt_isinstance (ag_cons (ev_ix ix_tup (ev_v 0 rfl (ev_int (o2_ixT (n := 0) rfl (ag_cons (ev_bltn Γ.b_str bt_str (ag_nil (oa_isi rfl (by decide +kernel) ⟨true, rfl, iteF' rfl (bl_nil ?_)⟩))))))))))))
    refine bl_cons (st_if (te_cmp op_eq (ev_ix ix_tup (ev_v 0 rfl (ev_int (o2_ixT (n := 0) rfl (ev_gstr hW (o2_seqF ⟨false, rfl, iteF (bl_nil ?_)⟩))))))))
    refine bl_cons (st_ret (ev_and (ev_cmp op_in_seq (ev_ix ix_tup (ev_v 0 rfl (ev_int (o2_ixT (n := 0) rfl (ev_tup (ag_cons (ev_gstr hF (ag_cons (ev_gstr hV (ag_nil ⟨sz, o2_in (neg := false) (k := true) (.inl rfl) rfl rfl (by decide +kernel) ⟨true, rfl, iteT ?_⟩⟩)))))))))))))
    refine ev_and (ev_cmp op_eq (ev_callB call_len_seq Γ.b_len bt_len (ag_cons (ev_v 0 rfl (ag_nil (oa_lenS (.inl rfl) (ev_int (o2_ieq ⟨true, rfl, iteT (ev_one ?_)⟩))))))))
    refine ev_own (ok_is_between Γ) (hr.mono (by decide)) Γ.is_between.g Γ.is_between.F.kp (bi_is_between Γ) (ag_cons (ev_ix ix_tup (ev_v 0 rfl (ev_int (o2_ixT (n := 1) rfl (ag_cons (ev_int (ag_cons (ev_op op_sub (ev_v 1 rfl (ev_int (o2_sub (ag_nil ⟨⟨c, 0, (t : Int) - 1⟩, rfl, ?_⟩)))))))))))))
    exact ⟨congrArg D.bl (bet (vt c rfl)), rfl⟩
end
end K50
set_option maxRecDepth 100000
set_option maxHeartbeats 4000000
/-! K13: nodes that make a graph. -/
namespace K50
open PySem PySem.Spec PyProof.Rows L2 DL
def Nd.ow : Nd → Nat
  | .var f => f
  | _ => 0
def owners (ns : List Nd) : List Nat := (ns.filter Nd.isVar).map Nd.ow
structure NsFm (ns : List Nd) : Prop where
  ok : NsOk ns
  ne : ns ≠ []
  nm : ∀ w cs, Nd.word w cs ∈ ns → NmOk w
  vf : ∀ f, Nd.var f ∈ ns → (nat ns f).isFn = true
  one : (owners ns).Nodup
  r0 : (nat ns 0).isVar = false
theorem NsFm.nf {ns : List Nd} (h : NsFm ns) {n : Nd} (hn : n ∈ ns) : (n.ch.length ≤ 3 ∧ ∀ c ∈ n.ch, c < ns.length) ∧ (∀ f, n = .var f → f < ns.length) ∧ ∀ w cs, n = .word w cs → NmOk w :=
  ⟨h.ok.ch n hn, fun f e => h.ok.vt f (e ▸ hn), fun w cs e => h.nm w cs (e ▸ hn)⟩
theorem isVar_of {n : Nd} (h : n.isVar = true) : n = .var n.ow := by cases n <;> first | rfl | cases h
theorem isFn_of {n : Nd} (h : n.isFn = true) : ∃ c, n = .fn c := by cases n <;> first | exact ⟨_, rfl⟩ | cases h
theorem plain_nds {ns : List Nd} (h : ∀ n ∈ ns, PyData.strOk n.wd = true) : ∀ d ∈ ns.map Nd.d, Plain d := fun d hd => by
  obtain ⟨n, hn, rfl⟩ := List.mem_map.mp hd
  exact nd_plain (h n hn)
theorem keysI_d (l : List Nat) : dnats l = dints (keysI l) := dnats_dints l
section
variable {P : Program} {w : World} {K : PySem.W.Frag} {mg : Str → Option Value} {base : Heap}
def FmIn := { ns : List Nd // NsFm ns }
theorem head_d (n : Nd) : ∃ r, n.d = .tup (.str n.kind :: r) := by cases n <;> exact ⟨_, rfl⟩
theorem kind_var (n : Nd) : decide (n.kind = ("var" : Str)) = n.isVar := by
  cases n with
  | word _ _ => exact decide_eq_false (show ("word" : Str) ≠ "var" by decide +kernel)
  | fn _ => exact decide_eq_false (show ("fun" : Str) ≠ "var" by decide +kernel)
  | var _ => exact decide_eq_true rfl
theorem ok_are_nodes (Γ : Pg K mg) : FnOk P w K mg base CX0 5 Γ.are_nodes.f Γ.are_nodes.fd P_are_nodes (spD K (fun x : FmIn => [.tup (x.1.map Nd.d)]) NoC (fun _ d L => d = .bl true ∧ L = [])) := by
  obtain ⟨tF, hF⟩ := Γ.FUN
  obtain ⟨tV, hV⟩ := Γ.VAR
  refine fn_ok Γ.are_nodes.F sc_are_nodes (fun _ => rfl) (by decide) (fun cdv A outer s H E hr ⟨ns, h⟩ => ?_)
  have nd := sc_are_nodes.nd
  have few := h.ok.few
  have pl := plain_nds h.ok.wd
  have hlen : (ns.map Nd.d).length = ns.length := List.length_map ..
  refine bl_cons (st_if (te_tw (tw_or (te_not (te_val (ev_callB call_isi Γ.b_isinstance bt_isinstance (ag_cons (ev_v 0 rfl (ag_cons (ev_bltn Γ.b_tuple bt_tuple (ag_nil (oa_isi rfl (by decide +kernel) ⟨true, rfl, iteF' rfl ?_⟩))))))))))))
  refine tw_or (te_cmp (op_eqD hr.units) (ev_v 0 rfl (ev_tup (ag_nil ⟨sz, o2_eqD (pures_of pl) rfl (shaped_tup pl) (by decide +kernel) (eqv_nilT _) ⟨false, ?_, iteF ?_⟩⟩))))
  · have := h.ne
    cases ns with
    | nil => exact absurd rfl this
    | cons a l => rfl
  refine tw_or1 (te_not (te_val (ev_callB (cr_all rfl) Γ.b_all bt_all (ag_cons (ev_mapT [("node", 2)] Nd.d (fun _ => .bl true) rfl nd rfl (js := [2]) (by decide) (itx_tup (ev_v 0 rfl ⟨_, rfl, ns, rfl, szle (by omega), fun n hn => ⟨fun s H C cl fp => tg_v 2 nd ⟨rfl, fun s H C cl fp => ?_⟩⟩, ag_nil (oa_all (bs := ns.map fun _ => true) ?_ ⟨true, congrArg D.bl (all_true _), iteF' rfl (bl_nil ?_)⟩)⟩)))))))
  · have hf := h.nf hn
    refine ev_own (ok_is_node_form Γ) (hr.mono (by decide)) Γ.is_node_form.g Γ.is_node_form.F.kp (bi_is_node_form Γ) (ag_cons (ev_v 2 rfl (ag_cons (ev_callB call_len_seq Γ.b_len bt_len (ag_cons (ev_v 0 rfl (ag_nil (oa_lenS (.inl rfl) (ag_nil ⟨(⟨n, ns.length, few, hf.1, hf.2.1, hf.2.2⟩ : NfIn), ?_, rfl, rfl⟩)))))))))
    rw [hlen]
  · rw [List.map_map]; rfl
  refine bl_cons (st_selT 1 [("node", 2)] Nd.d (fun n => .int n.ow) Nd.isVar rfl nd rfl (js := [2]) (by decide) (itx_tup (ev_v 0 rfl ⟨_, rfl, ns, rfl, szle (by omega), fun n hn => ⟨fun s H C cl fp => tg_v 2 nd ⟨rfl, fun s H C cl fp => ?_⟩⟩, ?_⟩)))
  · cases n with
    | word x cs => exact te_cmp op_eq (ev_ix ix_tup (ev_v 2 rfl (ev_int (o2_ixT (n := 0) rfl (ev_gstr hV (o2_seqF ⟨false, rfl, rfl, rfl, fun e => by cases e⟩))))))
    | fn c => exact te_cmp op_eq (ev_ix ix_tup (ev_v 2 rfl (ev_int (o2_ixT (n := 0) rfl (ev_gstr hV (o2_seqF ⟨false, rfl, rfl, rfl, fun e => by cases e⟩))))))
    | var f => exact te_cmp op_eq (ev_ix ix_tup (ev_v 2 rfl (ev_int (o2_ixT (n := 0) rfl (ev_gstr hV (o2_seqT ⟨true, rfl, rfl, rfl, fun _ s H C cl fp => ev_ix ix_tup (ev_v 2 rfl (ev_int (o2_ixT (n := 1) rfl ⟨rfl, rfl⟩)))⟩))))))
  have eo : (D.lst ((ns.filter Nd.isVar).map fun n => D.int n.ow)) = .lst (dnats (owners ns)) := by simp [owners, dnats]
  rw [eo]
  have ol : (owners ns).length ≤ 100 := by
    refine Nat.le_trans ?_ few
    rw [owners, List.length_map]
    exact List.length_filter_le _ _
  have hfn : ∀ f ∈ owners ns, f < ns.length ∧ (nat ns f).isFn = true := fun f hf => by
    obtain ⟨n, hn, rfl⟩ := List.mem_map.mp hf
    have hn' := List.mem_filter.mp hn
    have e := isVar_of hn'.2
    exact ⟨h.ok.vt _ (e ▸ hn'.1), h.vf _ (e ▸ hn'.1)⟩
  refine bl_cons (st_if (te_not (te_val (ev_callB (cr_all rfl) Γ.b_all bt_all (ag_cons (ev_mapT [("owner", 3)] (fun f : Nat => .int f) (fun _ => .bl true) rfl nd rfl (js := [3]) (by decide) (itx_list (ev_v 1 rfl ⟨_, rfl, owners ns, rfl, szle (by omega), fun f hf => ⟨fun s H C cl fp => tg_v 3 nd ⟨rfl, fun s H C cl fp => ?_⟩⟩, ag_nil (oa_all (bs := (owners ns).map fun _ => true) ?_ ⟨true, congrArg D.bl (all_true _), iteF' rfl (bl_nil ?_)⟩)⟩))))))))
  · obtain ⟨hl, hff⟩ := hfn f hf
    obtain ⟨c, ec⟩ := isFn_of hff
    refine ev_cmp op_eq (ev_ix ix_tup (ev_ix ix_tup (ev_v 0 rfl (ev_v 3 rfl (o2_ixT (by rw [nat_d hl, ec]; rfl) (ev_int (o2_ixT (n := 0) rfl (ev_gstr hF (o2_seqT ⟨rfl, rfl⟩)))))))))
  · rw [List.map_map]; rfl
  have h0 : 0 < ns.length := List.length_pos_iff.mpr h.ne
  refine bl_cons (st_retD (ev_and (ev_cmp op_eq (ev_callB call_lenI Γ.b_len bt_len (ag_cons (ev_callTy (call_setI rfl) Γ.b_set bt_set (ag_cons (ev_v 1 rfl (ag_nil (oa_setI (by rw [keysI_d]) (by simp only [keysI, List.length_map]; unfold scanBound; omega) fun p S n hS => ag_nil (oa_lenI (k := 0) rfl (ev_callB call_len_seq Γ.b_len bt_len (ag_cons (ev_v 1 rfl (ag_nil (oa_lenS (.inr rfl) (o2_ieq ⟨true, ?_, iteT (ev_one ?_)⟩)))))))))))))))))
  · congr 1
    rw [decide_eq_true_eq]
    have h2 := hS.le
    have h3 : ¬ n < (keysI (owners ns)).length := fun z => (setIs_nodup hS).mp z (keys_nodup h.one)
    rw [dnats_length]
    simp only [keysI, List.length_map] at h2 h3
    omega
  · have h00 := nat_d h0
    have hr0 := h.r0
    cases e0 : nat ns 0 with
    | word x cs => exact ev_cmp op_ne (ev_ix ix_tup (ev_ix ix_tup (ev_v 0 rfl (ev_int (o2_ixT (n := 0) (by rw [h00, e0]; rfl) (ev_int (o2_ixT (n := 0) rfl (ev_gstr hV (o2_sneT ⟨rfl, rfl⟩)))))))))
    | fn c => exact ev_cmp op_ne (ev_ix ix_tup (ev_ix ix_tup (ev_v 0 rfl (ev_int (o2_ixT (n := 0) (by rw [h00, e0]; rfl) (ev_int (o2_ixT (n := 0) rfl (ev_gstr hV (o2_sneT ⟨rfl, rfl⟩)))))))))
    | var f => rw [e0] at hr0; cases hr0
end
end K50
/-! M1: well scoped nodes. -/
namespace K50
open List
/-- sigma tells the functions around each node -/
structure WS (ns : List Nd) (s : Nat) (σ : Nat → List Nat) : Prop where
  root : σ s = []
  ch : ∀ u, Rch ns s u → ∀ c ∈ (nat ns u).ch, σ c <+: (σ u ++ if (nat ns u).isFn = true then [u] else [])
  vt : ∀ u f, Rch ns s u → nat ns u = .var f → σ u = σ f ++ [f]
section
variable {ns : List Nd} {s : Nat} {σ : Nat → List Nat}
theorem WS.pos (W : WS ns s σ) {u : Nat} (h : Rch ns s u) : ∀ i f, (σ u)[i]? = some f → Rch ns s f ∧ (nat ns f).isFn = true ∧ σ f = (σ u).take i := by
  induction h with
  | refl => intro i f e; rw [W.root] at e; cases e
  | @step u c hu hc ih =>
    intro i f e
    have hp := W.ch u hu c hc
    generalize hE : (if (nat ns u).isFn = true then [u] else []) = E at hp
    obtain ⟨t, ht⟩ := hp
    have hi : i < (σ c).length := (List.getElem?_eq_some_iff.mp e).1
    have e2 : (σ u ++ E)[i]? = some f := by rw [← ht, List.getElem?_append_left hi]; exact e
    have e3 : (σ c).take i = (σ u ++ E).take i := by rw [← ht, List.take_append_of_le_length (Nat.le_of_lt hi)]
    rw [e3]
    by_cases hl : i < (σ u).length
    · rw [List.getElem?_append_left hl] at e2
      rw [List.take_append_of_le_length (Nat.le_of_lt hl)]
      exact ih i f e2
    · rw [List.getElem?_append_right (by omega)] at e2
      by_cases hf : (nat ns u).isFn = true
      · rw [if_pos hf] at hE
        subst hE
        have h0 : i - (σ u).length = 0 := by
          have := (List.getElem?_eq_some_iff.mp e2).1
          simp at this
          omega
        rw [h0] at e2
        simp at e2
        subst e2
        have : i = (σ u).length := by omega
        subst this
        exact ⟨hu, hf, by simp⟩
      · rw [if_neg hf] at hE
        subst hE
        simp at e2
theorem WS.mem (W : WS ns s σ) {u f : Nat} (h : Rch ns s u) (hf : f ∈ σ u) : Rch ns s f ∧ (nat ns f).isFn = true ∧ (σ f).length < (σ u).length ∧ ∃ t, σ u = σ f ++ f :: t := by
  obtain ⟨i, hi⟩ := List.mem_iff_getElem?.mp hf
  obtain ⟨h1, h2, h3⟩ := W.pos h i f hi
  have hl := (List.getElem?_eq_some_iff.mp hi).1
  refine ⟨h1, h2, by rw [h3, List.length_take]; omega, (σ u).drop (i + 1), ?_⟩
  rw [h3]
  have : (σ u).drop i = f :: (σ u).drop (i + 1) := by
    rw [List.drop_eq_getElem_cons hl, (List.getElem?_eq_some_iff.mp hi).2]
  rw [← this, List.take_append_drop]
theorem WS.rank (W : WS ns s σ) {u f : Nat} (h : Rch ns s u) (hf : f ∈ σ u) : (σ f).length < (σ u).length := (W.mem h hf).2.2.1
theorem WS.sub (W : WS ns s σ) {u f g : Nat} (h : Rch ns s u) (hf : f ∈ σ u) (hg : g ∈ σ f) : g ∈ σ u := by
  obtain ⟨_, _, _, t, e⟩ := W.mem h hf
  rw [e]; simp [hg]
theorem WS.nodup (W : WS ns s σ) {u : Nat} (h : Rch ns s u) : (σ u).Nodup := by
  rw [List.Nodup, List.pairwise_iff_getElem]
  intro i j hi hj hij e
  have e1 := (W.pos h i (σ u)[i] (List.getElem?_eq_getElem hi)).2.2
  have e2 := (W.pos h j (σ u)[j] (List.getElem?_eq_getElem hj)).2.2
  rw [e, e2] at e1
  have := congrArg List.length e1
  rw [List.length_take, List.length_take] at this
  omega
/-- what is needed stands around -/
theorem WS.need (W : WS ns s σ) {u f : Nat} (h : Rch ns s u) (n : Need ns u f) : f ∈ σ u := by
  induction n with
  | var e => rw [W.vt _ _ h e]; simp
  | @up u c f hc _ hn ih =>
    have h1 := ih (.step h hc)
    have h2 := (W.ch u h c hc).subset h1
    rcases List.mem_append.mp h2 with h3 | h3
    · exact h3
    · by_cases hf : (nat ns u).isFn = true
      · rw [if_pos hf] at h3
        exact absurd ⟨hf, List.mem_singleton.mp h3⟩ hn
      · rw [if_neg hf] at h3; cases h3
/-- what a node within g needs of what stands around g, g needs -/
theorem WS.through (W : WS ns s σ) {f g : Nat} (hf : f ∈ σ g) {i : Nat} (h : Rch ns s i) (hg : g ∈ σ i) (n : Need ns i f) : Need ns g f := by
  induction h with
  | refl => rw [W.root] at hg; cases hg
  | @step u c hu hc ih =>
    have h2 := (W.ch u hu c hc).subset hg
    rcases List.mem_append.mp h2 with h3 | h3
    · refine ih h3 (.up hc n fun z => ?_)
      have r1 := W.rank (W.mem hu h3).1 hf
      have r2 := W.rank hu h3
      rw [z.2] at r1
      omega
    · by_cases hfn : (nat ns u).isFn = true
      · rw [if_pos hfn] at h3
        rw [List.mem_singleton.mp h3] at hf ⊢
        refine .up hc n fun z => ?_
        have r1 := W.rank hu hf
        rw [z.2] at r1
        omega
      · rw [if_neg hfn] at h3; cases h3
/-- the innermost function that a node needs -/
def InnN (ns : List Nd) (u f : Nat) : Prop := Need ns u f ∧ ∀ g, Need ns u g → g = f ∨ Need ns f g
theorem last_such {α : Type} (P : α → Prop) : ∀ {l : List α}, (∃ x ∈ l, P x) → ∃ l1 x l2, l = l1 ++ x :: l2 ∧ P x ∧ ∀ y ∈ l2, ¬ P y
  | [], ⟨x, hx, _⟩ => by cases hx
  | a :: l, ⟨x, hx, hp⟩ => by
    by_cases h : ∃ y ∈ l, P y
    · obtain ⟨l1, y, l2, e, h1, h2⟩ := last_such P h
      exact ⟨a :: l1, y, l2, by rw [e]; rfl, h1, h2⟩
    · refine ⟨[], a, l, rfl, ?_, fun y hy hp => h ⟨y, hy, hp⟩⟩
      rcases List.mem_cons.mp hx with rfl | hx
      · exact hp
      · exact absurd ⟨x, hx, hp⟩ h
theorem WS.inn_ex (W : WS ns s σ) {u : Nat} (h : Rch ns s u) (n : ∃ f, Need ns u f) : ∃ f, InnN ns u f := by
  obtain ⟨f0, n0⟩ := n
  obtain ⟨l1, f, l2, e, hf, hl⟩ := last_such (Need ns u) ⟨f0, W.need h n0, n0⟩
  refine ⟨f, hf, fun g hg => ?_⟩
  have hg' := W.need h hg
  have hfs : σ f = l1 := by
    have := (W.pos h l1.length f (by rw [e]; simp)).2.2
    rw [this, e]; simp
  rw [e] at hg'
  rcases List.mem_append.mp hg' with h1 | h1
  · rw [← hfs] at h1
    exact .inr (W.through h1 h (by rw [e]; simp) hg)
  · rcases List.mem_cons.mp h1 with h1 | h1
    · exact .inl h1
    · exact absurd hg (hl g h1)
theorem WS.inn_uniq (W : WS ns s σ) {u f g : Nat} (h : Rch ns s u) (hf : InnN ns u f) (hg : InnN ns u g) : f = g := by
  rcases hf.2 g hg.1 with e | e
  · exact e.symm
  · rcases hg.2 f hf.1 with e2 | e2
    · exact e2
    · have rf := (W.mem h (W.need h hf.1)).1
      have rg := (W.mem h (W.need h hg.1)).1
      have r1 := W.rank rf (W.need rf e)
      have r2 := W.rank rg (W.need rg e2)
      omega
/-- the scope of a node -/
inductive Sc (ns : List Nd) : Nat → List Nat → Prop
  | nil {u : Nat} : (∀ f, ¬ Need ns u f) → Sc ns u []
  | cons {u f : Nat} {t : List Nat} : InnN ns u f → Sc ns f t → Sc ns u (t ++ [f])
theorem WS.sc_uniq (W : WS ns s σ) {u : Nat} {t : List Nat} (h : Rch ns s u) (a : Sc ns u t) : ∀ {t' : List Nat}, Sc ns u t' → t = t' := by
  induction a with
  | nil hn =>
    intro t' b
    cases b with
    | nil _ => rfl
    | cons hi _ => exact absurd hi.1 (hn _)
  | cons hi _ ih =>
    intro t' b
    cases b with
    | nil hn => exact absurd hi.1 (hn _)
    | cons hi' b' =>
      have e := W.inn_uniq h hi hi'
      subst e
      rw [ih (W.mem h (W.need h hi.1)).1 b']
theorem WS.sc_ex (W : WS ns s σ) {u : Nat} (h : Rch ns s u) : ∃ t, Sc ns u t := by
  have key : ∀ n u, Rch ns s u → (σ u).length ≤ n → ∃ t, Sc ns u t := by
    intro n
    induction n with
    | zero =>
      intro u h hl
      refine ⟨[], .nil fun f hf => ?_⟩
      have := W.need h hf
      rw [List.length_eq_zero_iff.mp (Nat.le_zero.mp hl)] at this
      cases this
    | succ n ih =>
      intro u h hl
      by_cases hn : ∃ f, Need ns u f
      · obtain ⟨f, hf⟩ := W.inn_ex h hn
        have hm := W.mem h (W.need h hf.1)
        obtain ⟨t, ht⟩ := ih f hm.1 (by have := hm.2.2.1; omega)
        exact ⟨_, .cons hf ht⟩
      · exact ⟨[], .nil fun f hf => hn ⟨f, hf⟩⟩
  exact key _ u h (Nat.le_refl _)
theorem WS.sc_sub (W : WS ns s σ) {u : Nat} {t : List Nat} (h : Rch ns s u) (a : Sc ns u t) : (∀ f ∈ t, f ∈ σ u) ∧ t.length ≤ (σ u).length := by
  induction a with
  | nil _ => exact ⟨by simp, Nat.zero_le _⟩
  | @cons u f t hi _ ih =>
    have hm := W.mem h (W.need h hi.1)
    obtain ⟨h1, h2⟩ := ih hm.1
    refine ⟨fun g hg => ?_, ?_⟩
    · rcases List.mem_append.mp hg with z | z
      · exact W.sub h (W.need h hi.1) (h1 g z)
      · rw [List.mem_singleton.mp z]; exact W.need h hi.1
    · have := hm.2.2.1
      simp
      omega
theorem Sc.cov {u : Nat} {t : List Nat} (a : Sc ns u t) {f : Nat} (n : Need ns u f) : f ∈ t := by
  induction a with
  | nil hn => exact absurd n (hn f)
  | cons hi _ ih =>
    rcases hi.2 f n with e | e
    · simp [e]
    · simp [ih e]
theorem Sc.cut {u : Nat} {t : List Nat} (a : Sc ns u t) {f : Nat} (hf : f ∈ t) : ∃ t1 t2, t = t1 ++ f :: t2 ∧ Sc ns f t1 := by
  induction a with
  | nil _ => cases hf
  | @cons u g t hi b ih =>
    rcases List.mem_append.mp hf with h | h
    · obtain ⟨t1, t2, e, k⟩ := ih h
      exact ⟨t1, t2 ++ [g], by rw [e]; simp, k⟩
    · rw [List.mem_singleton.mp h]
      exact ⟨t, [], rfl, b⟩
/-- the scopes tell the functions around each node too -/
theorem WS.scopes (W : WS ns s σ) {sc : Nat → List Nat} (h : ∀ u, Rch ns s u → Sc ns u (sc u)) : WS ns s sc := by
  refine ⟨?_, fun u hu c hc => ?_, fun u f hu e => ?_⟩
  · have := h s .refl
    cases e : sc s with
    | nil => rfl
    | cons a t =>
      have := (W.sc_sub .refl (h s .refl)).1 a (by rw [e]; simp)
      rw [W.root] at this
      cases this
  · have hc' : Rch ns s c := .step hu hc
    have a := h c hc'
    cases ha : sc c with
    | nil => exact List.nil_prefix
    | cons x t =>
      rw [← ha]
      rw [ha] at a
      generalize hxt : x :: t = l at a
      rw [ha, hxt]
      cases a with
      | nil _ => exact List.nil_prefix
      | @cons _ f t' hi b =>
        have hm := W.mem hc' (W.need hc' hi.1)
        have eb := W.sc_uniq hm.1 b (h f hm.1)
        subst eb
        by_cases hf : (nat ns u).isFn = true ∧ f = u
        · rw [if_pos hf.1, hf.2]
          exact List.prefix_refl _
        · have nu : Need ns u f := .up hc hi.1 hf
          obtain ⟨t1, t2, e, k⟩ := (h u hu).cut ((h u hu).cov nu)
          have := W.sc_uniq hm.1 k (h f hm.1)
          subst this
          rw [e]
          exact ⟨t2 ++ (if (nat ns u).isFn = true then [u] else []), by simp⟩
  · have hv : ∀ g, Need ns u g → g = f := fun g hg => by
      cases hg with
      | var e2 => rw [e] at e2; cases e2; rfl
      | up hc _ _ => rw [e] at hc; cases hc
    have rf : Rch ns s f := (W.mem hu (W.need hu (.var e))).1
    exact W.sc_uniq hu (h u hu) (.cons ⟨.var e, fun g hg => .inl (hv g hg)⟩ (h f rf))
end
end K50
/-! M2: maps between graphs. -/
namespace K50
open List
/-- a map of nodes that keeps what stands at them -/
structure Hom (ns : List Nd) (s : Nat) (ms : List Nd) (t : Nat) (c : Nat → Nat) : Prop where
  root : c s = t
  nd : ∀ u, Rch ns s u → nat ms (c u) = (nat ns u).rn c
section
variable {ns ms ks : List Nd} {s t r : Nat} {c d : Nat → Nat} {σ τ : Nat → List Nat}
theorem rn_ch (f : Nat → Nat) (n : Nd) : (n.rn f).ch = n.ch.map f := by cases n <;> simp [Nd.rn, Nd.ch]
theorem rn_isFn (f : Nat → Nat) (n : Nd) : (n.rn f).isFn = n.isFn := by cases n <;> rfl
theorem rn_isVar (f : Nat → Nat) (n : Nd) : (n.rn f).isVar = n.isVar := by cases n <;> rfl
theorem rn_kind (f : Nat → Nat) (n : Nd) : (n.rn f).kind = n.kind := by cases n <;> rfl
theorem rn_wd (f : Nat → Nat) (n : Nd) : (n.rn f).wd = n.wd := by cases n <;> rfl
theorem rn_rn (f g : Nat → Nat) (n : Nd) : (n.rn f).rn g = n.rn fun x => g (f x) := by cases n <;> simp [Nd.rn]
theorem rn_var {f : Nat → Nat} {n : Nd} {g : Nat} (h : n.rn f = .var g) : ∃ x, n = .var x ∧ f x = g := by
  cases n with
  | var x => exact ⟨x, rfl, Nd.var.inj h⟩
  | word _ _ => cases h
  | fn _ => cases h
theorem Hom.ch (h : Hom ns s ms t c) {u : Nat} (hu : Rch ns s u) : (nat ms (c u)).ch = (nat ns u).ch.map c := by rw [h.nd u hu, rn_ch]
theorem Hom.fwd (h : Hom ns s ms t c) {u : Nat} (hu : Rch ns s u) : Rch ms t (c u) := by
  induction hu with
  | refl => rw [h.root]; exact .refl
  | step hu hc ih => exact .step ih (by rw [h.ch hu]; exact List.mem_map_of_mem hc)
theorem Hom.onto (h : Hom ns s ms t c) {v : Nat} (hv : Rch ms t v) : ∃ u, Rch ns s u ∧ c u = v := by
  induction hv with
  | refl => exact ⟨s, .refl, h.root⟩
  | step _ hc ih =>
    obtain ⟨u, hu, rfl⟩ := ih
    rw [h.ch hu] at hc
    obtain ⟨x, hx, rfl⟩ := List.mem_map.mp hc
    exact ⟨x, .step hu hx, rfl⟩
theorem Hom.isFn (h : Hom ns s ms t c) {u : Nat} (hu : Rch ns s u) : (nat ms (c u)).isFn = (nat ns u).isFn := by rw [h.nd u hu, rn_isFn]
theorem Rch.trans {u v : Nat} (h : Rch ns s u) (k : Rch ns u v) : Rch ns s v := by
  induction k with
  | refl => exact h
  | step _ hc ih => exact .step ih hc
theorem Hom.from (h : Hom ns s ms t c) {u : Nat} (hu : Rch ns s u) : Hom ns u ms (c u) c := ⟨rfl, fun v hv => h.nd v (hu.trans hv)⟩
theorem Hom.comp (h : Hom ns s ms t c) (k : Hom ms t ks r d) : Hom ns s ks r fun x => d (c x) := ⟨by rw [h.root, k.root], fun u hu => by rw [k.nd _ (h.fwd hu), h.nd u hu, rn_rn]⟩
/-- .. that carries the functions around too -/
structure HomS (ns : List Nd) (s : Nat) (σ : Nat → List Nat) (ms : List Nd) (t : Nat) (τ : Nat → List Nat) (c : Nat → Nat) extends Hom ns s ms t c : Prop where
  sc : ∀ u, Rch ns s u → τ (c u) = (σ u).map c
theorem HomS.push (h : HomS ns s σ ms t τ c) (W : WS ns s σ) : WS ms t τ := by
  refine ⟨?_, fun v hv x hx => ?_, fun v g hv e => ?_⟩
  · rw [← h.root, h.sc s .refl, W.root]; rfl
  · obtain ⟨u, hu, rfl⟩ := h.toHom.onto hv
    rw [h.ch hu] at hx
    obtain ⟨y, hy, rfl⟩ := List.mem_map.mp hx
    rw [h.sc _ (.step hu hy), h.sc u hu, h.isFn hu]
    have := (W.ch u hu y hy).map c
    rw [List.map_append] at this
    by_cases hf : (nat ns u).isFn = true
    · rw [if_pos hf] at this ⊢; exact this
    · rw [if_neg hf] at this ⊢; exact this
  · obtain ⟨u, hu, rfl⟩ := h.toHom.onto hv
    rw [h.nd u hu] at e
    obtain ⟨f, e1, rfl⟩ := rn_var e
    have hf : f ∈ σ u := by rw [W.vt u f hu e1]; simp
    rw [h.sc u hu, h.sc f (W.mem hu hf).1, W.vt u f hu e1, List.map_append]
    rfl
theorem HomS.inj (h : HomS ns s σ ms t τ c) (W : WS ns s σ) {u f g : Nat} (hu : Rch ns s u) (hf : f ∈ σ u) (hg : g ∈ σ u) (e : c f = c g) : f = g := by
  have nd := (h.push W).nodup (h.toHom.fwd hu)
  rw [h.sc u hu] at nd
  exact nodup_inj c nd f hf g hg e
theorem HomS.ne_self (h : HomS ns s σ ms t τ c) (W : WS ns s σ) {u f : Nat} (hu : Rch ns s u) (hf : f ∈ σ u) : c f ≠ c u := fun e => by
  have h1 : c f ∈ τ (c u) := by rw [h.sc u hu]; exact List.mem_map_of_mem hf
  have := (h.push W).rank (h.toHom.fwd hu) h1
  rw [e] at this
  omega
theorem HomS.need (h : HomS ns s σ ms t τ c) (W : WS ns s σ) {u f : Nat} (hu : Rch ns s u) (n : Need ns u f) : Need ms (c u) (c f) := by
  induction n with
  | var e => exact .var (by rw [h.nd _ hu, e]; rfl)
  | @up u x f hx k hn ih =>
    refine .up (by rw [h.ch hu]; exact List.mem_map_of_mem hx) (ih (.step hu hx)) fun z => ?_
    exact h.ne_self W hu (W.need hu (.up hx k hn)) z.2
theorem HomS.needB (h : HomS ns s σ ms t τ c) (W : WS ns s σ) {v g : Nat} (n : Need ms v g) : ∀ u, Rch ns s u → c u = v → ∃ f, Need ns u f ∧ c f = g := by
  induction n with
  | var e =>
    rintro u hu rfl
    rw [h.nd u hu] at e
    obtain ⟨f, e1, e2⟩ := rn_var e
    exact ⟨f, .var e1, e2⟩
  | @up v x g hx k hn ih =>
    rintro u hu rfl
    rw [h.ch hu] at hx
    obtain ⟨y, hy, rfl⟩ := List.mem_map.mp hx
    obtain ⟨f, h1, h2⟩ := ih y (.step hu hy) rfl
    refine ⟨f, .up hy h1 fun z => hn ⟨by rw [h.isFn hu]; exact z.1, by rw [← h2, z.2]⟩, h2⟩
theorem HomS.inn (h : HomS ns s σ ms t τ c) (W : WS ns s σ) {u f : Nat} (hu : Rch ns s u) (n : InnN ns u f) : InnN ms (c u) (c f) := by
  refine ⟨h.need W hu n.1, fun g hg => ?_⟩
  obtain ⟨f', h1, rfl⟩ := h.needB W hg u hu rfl
  rcases n.2 f' h1 with rfl | h2
  · exact .inl rfl
  · exact .inr (h.need W (W.mem hu (W.need hu n.1)).1 h2)
theorem HomS.scs (h : HomS ns s σ ms t τ c) (W : WS ns s σ) {u : Nat} {l : List Nat} (hu : Rch ns s u) (a : Sc ns u l) : Sc ms (c u) (l.map c) := by
  induction a with
  | nil hn =>
    refine .nil fun g hg => ?_
    obtain ⟨f, hf, _⟩ := h.needB W hg _ hu rfl
    exact hn f hf
  | cons hi _ ih =>
    rw [List.map_append]
    exact .cons (h.inn W hu hi) (ih (W.mem hu (W.need hu hi.1)).1)
/-- scopes are carried over -/
theorem HomS.scope (h : HomS ns s σ ms t τ c) (W : WS ns s σ) {u : Nat} {l m : List Nat} (hu : Rch ns s u) (a : Sc ns u l) (b : Sc ms (c u) m) : m = l.map c :=
  (h.push W).sc_uniq (h.toHom.fwd hu) b (h.scs W hu a)
/-- an injective map carries whatever stands around -/
theorem Hom.homS (h : Hom ns s ms t c) (inj : ∀ u v, Rch ns s u → Rch ns s v → c u = c v → u = v) : ∃ τ, HomS ns s σ ms t τ c := by
  classical
  refine ⟨fun v => if hv : ∃ u, Rch ns s u ∧ c u = v then (σ hv.choose).map c else [], h, fun u hu => ?_⟩
  have hv : ∃ x, Rch ns s x ∧ c x = c u := ⟨u, hu, rfl⟩
  rw [dif_pos hv]
  rw [inj _ u hv.choose_spec.1 hu hv.choose_spec.2]
theorem WS.from (W : WS ns s σ) {u : Nat} (hu : Rch ns s u) (e : σ u = []) : WS ns u σ := ⟨e, fun v hv => W.ch v (hu.trans hv), fun v f hv => W.vt v f (hu.trans hv)⟩
end
end K50
set_option maxRecDepth 100000
set_option maxHeartbeats 4000000
/-! K14: graphs are made. -/
namespace K50
open PySem PySem.Spec PyProof.Rows L2 DL
/-- nodes with the functions around them -/
structure GIn where
  ns : List Nd
  ok : NsOk ns
  h0 : 0 < ns.length
  σ : Nat → List Nat
  ws : WS ns 0 σ
  sl : ∀ u, Rch ns 0 u → (σ u).length ≤ 4
def ckD (C : Addr) (ns : List Nd) : D := .ins C ["own_nodes"] [.tup (ns.map Nd.d)]
/-- renumbered by a walk -/
def rnl (ns : List Nd) (od : List Nat) : List Nd := od.map fun u => (nat ns u).rn (od.idxOf ·)
section
variable {P : Program} {w : World} {K : PySem.W.Frag} {mg : Str → Option Value} {base : Heap}
theorem ok_Checked_init (Γ : Pg K mg) : FnOk P w K mg base CX0 1 Γ.Checked_init.f Γ.Checked_init.fd P_Checked_init (spD K (fun x : Addr × List Nd => [.ref x.1, .tup (x.2.map Nd.d)]) (fun x => [(x.1, .ins Γ.CC [] [])]) (fun x d L => d = .non ∧ L = [(x.1, ckD Γ.CC x.2)])) := by
  refine fn_ok Γ.Checked_init.F sc_Checked_init (fun _ => rfl) (by decide) (fun cdv A outer s H E hr ⟨a, ns⟩ => ?_)
  refine bl_cons (st_fld (ev_v 1 rfl (ev_v 0 rfl ⟨0, a, Γ.CC, [], [], rfl, rfl, Γ.clC, Γ.n4, by decide, bl_nil ⟨rfl, rfl⟩⟩)))
def WalkP (ns : List Nd) (d : D) : Prop := ∃ od, d = .tup ((rnl ns od).map Nd.d) ∧ WkPost ns 0 od
theorem GIn.rn (x : GIn) {od : List Nat} (h : WkPost x.ns 0 od) : ∃ y : RnIn, y.ns = x.ns ∧ y.od = od ∧ y.out = rnl x.ns od := by
  have lt : ∀ u ∈ od, u < x.ns.length := fun u hu => rch_lt ⟨x.ns, x.ok, 0, x.h0⟩ ((h.mem u).mp hu)
  refine ⟨⟨x.ns, x.ok, od, h.nd, lt, fun u hu c hc => (h.mem c).mpr (.step ((h.mem u).mp hu) hc), fun u hu f e => ?_⟩, rfl, rfl, rfl⟩
  have hr := (h.mem u).mp hu
  have hf : f ∈ x.σ u := by rw [x.ws.vt u f hr e]; simp
  exact (h.mem f).mpr (x.ws.mem hr hf).1
/-- nodes as they are handed in: a tuple, or checked ones -/
structure SIn extends GIn where
  raw : Bool
  fm : raw = true → NsFm ns
def SIn.d (C : Addr) (x : SIn) : D := if x.raw = true then .tup (x.ns.map Nd.d) else ckD C x.ns
theorem ok_checked_nodes (Γ : Pg K mg) : FnOk P w K mg base CX0 7 Γ.checked_nodes.f Γ.checked_nodes.fd P_checked_nodes (spD K (fun x : SIn => [x.d Γ.CC]) NoC (fun x d L => WalkP x.ns d ∧ L = [])) := by
  obtain ⟨tM, hM⟩ := Γ.MAX_NODES
  refine fn_ok Γ.checked_nodes.F sc_checked_nodes (fun _ => rfl) (by decide) (fun cdv A outer s H E hr ⟨x, raw, fm⟩ => ?_)
  have nd := sc_checked_nodes.nd
  have few := x.ok.few
  have rest : ∀ {L : Cells}, BlX (CxF P w K mg base N_checked_nodes (Str.ofString "checked_nodes") (defScope s_checked_nodes) Γ.checked_nodes.f cdv A outer s H E) ((defBody s_checked_nodes).drop 1) [some (SIn.d Γ.CC ⟨x, raw, fm⟩), some (.tup (x.ns.map Nd.d)), none] L { nx := fun _ L => WalkP x.ns .non ∧ L = [], rt := fun d L => WalkP x.ns d ∧ L = [] } := fun {L} => by
    refine bl_cons (st_set 2 nd (ev_ownP (ok_first_walk Γ) (hr.mono (by decide)) Γ.first_walk.g Γ.first_walk.F.kp (bi_first_walk Γ) (ag_cons (ev_v 1 rfl (ag_cons (ev_tup (ag_cons (ev_int (ag_nil ⟨sz, ag_nil ⟨⟨x.ns, x.ok, 0, x.h0⟩, rfl, fun d hd => ?_⟩⟩)))))))))
    obtain ⟨od, rfl, hod⟩ := hd
    have ol : od.length ≤ 100 := nodup_lt 100 _ hod.nd fun u hu => Nat.lt_of_lt_of_le (rch_lt ⟨x.ns, x.ok, 0, x.h0⟩ ((hod.mem u).mp hu)) few
    refine bl_cons (st_if (te_cmp op_gt (ev_callB call_len_seq Γ.b_len bt_len (ag_cons (ev_v 2 rfl (ag_nil (oa_lenS (.inr rfl) (ev_gint hM (o2_gt ⟨_, rfl, ?_⟩)))))))))
    obtain ⟨y, e1, e2, e3⟩ := x.rn hod
    refine iteF' (by rw [dnats_length]; simp; omega) (bl_nil (bl_cons (st_retD (ev_own (ok_renumbered Γ) (hr.mono (by decide)) Γ.renumbered.g Γ.renumbered.F.kp (bi_renumbered Γ) (ag_cons (ev_v 1 rfl (ag_cons (ev_v 2 rfl (ag_nil ⟨y, ?_, ?_⟩)))))))))
    · rw [e1, e2]
    · exact ⟨⟨od, by rw [e3], hod⟩, rfl⟩
  cases raw with
  | false =>
    refine bl_cons (st_if (te_val (ev_callB call_isi Γ.b_isinstance bt_isinstance (ag_cons (ev_v 0 rfl (ag_cons (ev_gref Γ.gC (ag_nil (oa_isiI Γ.isC Γ.kCC ⟨true, rfl, iteT ?_⟩)))))))))
    exact bl_cons (st_set 1 nd (ev_fld (ev_v 0 rfl ⟨Γ.CC, _, _, _, rfl, Γ.clC, Γ.n4, rfl, bl_nil rest⟩)))
  | true =>
    have fm := fm rfl
    refine bl_cons (st_if (te_val (ev_callB call_isi Γ.b_isinstance bt_isinstance (ag_cons (ev_v 0 rfl (ag_cons (ev_gref Γ.gC (ag_nil (oa_isiO rfl Γ.kTC ⟨false, rfl, iteF ?_⟩)))))))))
    refine bl_cons (st_if (te_not (te_val (ev_ownP (ok_are_nodes Γ) (hr.mono (by decide)) Γ.are_nodes.g Γ.are_nodes.F.kp (bi_are_nodes Γ) (ag_cons (ev_v 0 rfl (ag_nil ⟨⟨x.ns, fm⟩, rfl, fun d hd => ⟨true, hd, iteF' rfl (bl_nil ?_)⟩⟩)))))))
    refine bl_cons (st_if (te_cmp (op_neE (by have := hr.units; omega)) (ev_ix ix_list (ev_ownP (ok_needs_of_nodes Γ) (hr.mono (by decide)) Γ.needs_of_nodes.g Γ.needs_of_nodes.F.kp (bi_needs_of_nodes Γ) (ag_cons (ev_v 0 rfl (ag_nil ⟨⟨x.ns, x.ok⟩, rfl, fun d hd => ?_⟩)))))))
    obtain ⟨sets, rfl, hs⟩ := hd
    have h0 : 0 < sets.length := by rw [hs.ln]; exact x.h0
    have e0 : gs sets 0 = [] := by
      cases e : gs sets 0 with
      | nil => rfl
      | cons f l =>
        have := (hs.mem 0 f x.h0).mp (by rw [e]; simp)
        have := x.ws.need .refl this
        rw [x.ws.root] at this
        cases this
    refine ev_int (o2_ixL (n := 0) (d := setD []) (by rw [List.getElem?_map, gs_at h0, e0]; rfl) (ev_dnew fun p => o2_neE (.inr (.inr rfl)) (.inr (.inl ⟨0, p, rfl, rfl⟩)) ⟨false, rfl, iteF (bl_nil (bl_cons (st_set 1 nd (ev_v 0 rfl (bl_nil rest)))))⟩))
end
end K50
/-! M3: graphs that are made: plain facts. -/
namespace K50
open List
section
variable {ns : List Nd} {s : Nat} {od : List Nat} {σ : Nat → List Nat}
theorem idx_inj {α : Type} [BEq α] [LawfulBEq α] {l : List α} {u v : α} (hu : u ∈ l) (h : l.idxOf u = l.idxOf v) : u = v := by
  have h1 := List.idxOf_lt_length_of_mem hu
  have h2 : l.idxOf v < l.length := by rw [← h]; exact h1
  have e1 := List.getElem_idxOf h1
  have e2 := List.getElem_idxOf h2
  rw [← e1, ← e2]
  congr 1
theorem idx_get {α : Type} [BEq α] [LawfulBEq α] {l : List α} (nd : l.Nodup) {i : Nat} (h : i < l.length) : l.idxOf l[i] = i := by
  have h1 := List.idxOf_lt_length_of_mem (List.getElem_mem h)
  have e1 := List.getElem_idxOf h1
  exact (List.getElem_inj nd).mp e1
theorem rnl_nat (h : WkPost ns s od) {u : Nat} (hu : Rch ns s u) : nat (rnl ns od) (od.idxOf u) = (nat ns u).rn (od.idxOf ·) := by
  have h1 := List.idxOf_lt_length_of_mem ((h.mem u).mpr hu)
  have e1 := List.getElem_idxOf h1
  unfold nat rnl
  rw [List.getD_eq_getElem?_getD, List.getElem?_map, List.getElem?_eq_getElem h1, e1]
  rfl
theorem rnl_root (h : WkPost ns s od) : od.idxOf s = 0 := by
  have h1 := h.h0
  cases od with
  | nil => cases h1
  | cons a l =>
    simp at h1
    subst h1
    simp
theorem rnl_hom (h : WkPost ns s od) : Hom ns s (rnl ns od) 0 (od.idxOf ·) := ⟨rnl_root h, fun u hu => rnl_nat h hu⟩
theorem rnl_inj (h : WkPost ns s od) : ∀ u v, Rch ns s u → Rch ns s v → od.idxOf u = od.idxOf v → u = v := fun u v hu _ e => idx_inj ((h.mem u).mpr hu) e
theorem rnl_len (ns : List Nd) (od : List Nat) : (rnl ns od).length = od.length := by simp [rnl]
theorem rnl_all (h : WkPost ns s od) {i : Nat} (hi : i < od.length) : Rch (rnl ns od) 0 i := by
  have := (rnl_hom h).fwd ((h.mem od[i]).mp (List.getElem_mem hi))
  rwa [idx_get h.nd hi] at this
theorem rnl_ok (ok : NsOk ns) (hs : s < ns.length) (W : WS ns s σ) (h : WkPost ns s od) : NsOk (rnl ns od) := by
  have lt : ∀ u ∈ od, u < ns.length := fun u hu => rch_lt ⟨ns, ok, s, hs⟩ ((h.mem u).mp hu)
  have ol : od.length ≤ 100 := nodup_lt 100 _ h.nd fun u hu => Nat.lt_of_lt_of_le (lt u hu) ok.few
  refine ⟨by rw [rnl_len]; exact ol, fun n hn => ?_, fun f hf => ?_, fun n hn => ?_⟩
  · obtain ⟨u, hu, rfl⟩ := List.mem_map.mp hn
    have hr := (h.mem u).mp hu
    have h1 := ok.ch _ (nat_mem (lt u hu))
    rw [rn_ch]
    refine ⟨by rw [List.length_map]; exact h1.1, fun c hc => ?_⟩
    obtain ⟨x, hx, rfl⟩ := List.mem_map.mp hc
    rw [rnl_len]
    exact List.idxOf_lt_length_of_mem ((h.mem x).mpr (.step hr hx))
  · obtain ⟨u, hu, e⟩ := List.mem_map.mp hf
    have hr := (h.mem u).mp hu
    obtain ⟨x, e1, rfl⟩ := rn_var e
    rw [rnl_len]
    refine List.idxOf_lt_length_of_mem ((h.mem x).mpr (W.mem hr ?_).1)
    rw [W.vt u x hr e1]
    simp
  · obtain ⟨u, hu, rfl⟩ := List.mem_map.mp hn
    rw [rn_wd]
    exact ok.wd _ (nat_mem (lt u hu))
/-- the renumbered nodes make a graph again -/
theorem mkIn (ok : NsOk ns) (hs : s < ns.length) (W : WS ns s σ) (sl : ∀ u, Rch ns s u → (σ u).length ≤ 4) (h : WkPost ns s od) : ∃ y : GIn, y.ns = rnl ns od ∧ HomS ns s σ y.ns 0 y.σ (od.idxOf ·) := by
  obtain ⟨τ, hτ⟩ := (rnl_hom h).homS (σ := σ) (rnl_inj h)
  refine ⟨⟨rnl ns od, rnl_ok ok hs W h, ?_, τ, hτ.push W, fun v hv => ?_⟩, rfl, hτ⟩
  · rw [rnl_len]
    exact List.length_pos_of_mem ((h.mem s).mpr .refl)
  · obtain ⟨u, hu, rfl⟩ := hτ.toHom.onto hv
    rw [hτ.sc u hu, List.length_map]
    exact sl u hu
/-- what a graph promises -/
structure GrP (G : Gr) : Prop where
  ok : NsOk G.nodes
  pos : 0 < G.n
  ls : G.scopes.length = G.nodes.length
  ln : G.needs.length = G.nodes.length
  all : ∀ u, u < G.n → Rch G.nodes 0 u
  need : ∀ u f, u < G.n → (f ∈ G.need u ↔ Need G.nodes u f)
  sc : ∀ u, u < G.n → Sc G.nodes u (G.sc u)
  ws : WS G.nodes 0 G.sc
  sl : ∀ u, u < G.n → (G.sc u).length ≤ 4
theorem GrP.lt {G : Gr} (g : GrP G) {u : Nat} (h : Rch G.nodes 0 u) : u < G.n := rch_lt ⟨G.nodes, g.ok, 0, g.pos⟩ h
theorem GrP.S {G : Gr} (g : GrP G) : GrS G := by
  refine ⟨g.ls, g.ln, g.ok.few, g.ok.ch, g.ok.vt, fun s hs => ?_, g.ok.wd⟩
  obtain ⟨i, hi, rfl⟩ := List.getElem_of_mem hs
  have h1 : i < G.n := by rw [g.ls] at hi; exact hi
  have := g.sl i h1
  have e : G.sc i = G.scopes[i] := by simp [Gr.sc, List.getD, hi]
  rw [e] at this
  omega
theorem nd_nat (G : Gr) (u : Nat) : G.nd u = nat G.nodes u := rfl
/-- sets and what is needed -/
theorem inn_of {x : GIn} {sets : List (List Nat)} (hs : NdSets x.ns sets) (all : ∀ u, u < x.ns.length → Rch x.ns 0 u) {u f : Nat} (hu : u < x.ns.length) : Inn sets u f ↔ InnN x.ns u f := by
  unfold Inn InnN
  constructor
  · rintro ⟨h1, h2⟩
    have n1 := (hs.mem u f hu).mp h1
    have hf := rch_lt ⟨x.ns, x.ok, 0, x.h0⟩ (x.ws.mem (all u hu) (x.ws.need (all u hu) n1)).1
    exact ⟨n1, fun g hg => (h2 g ((hs.mem u g hu).mpr hg)).imp id fun z => (hs.mem f g hf).mp z⟩
  · rintro ⟨n1, h2⟩
    have hf := rch_lt ⟨x.ns, x.ok, 0, x.h0⟩ (x.ws.mem (all u hu) (x.ws.need (all u hu) n1)).1
    exact ⟨(hs.mem u f hu).mpr n1, fun g hg => (h2 g ((hs.mem u g hu).mp hg)).imp id fun z => (hs.mem f g hf).mpr z⟩
theorem sc_of {x : GIn} {sets : List (List Nat)} (hs : NdSets x.ns sets) (all : ∀ u, u < x.ns.length → Rch x.ns 0 u) {u : Nat} {t : List Nat} (a : ScOf sets u t) : u < x.ns.length → Sc x.ns u t := by
  induction a with
  | nil hn =>
    intro hu
    refine .nil fun f hf => ?_
    obtain ⟨g, hg⟩ := x.ws.inn_ex (all _ hu) ⟨f, hf⟩
    exact hn g ((inn_of hs all hu).mpr hg)
  | cons hi _ ih =>
    intro hu
    have h1 := (inn_of hs all hu).mp hi
    exact .cons h1 (ih (rch_lt ⟨x.ns, x.ok, 0, x.h0⟩ (x.ws.mem (all _ hu) (x.ws.need (all _ hu) h1.1)).1))
end
end K50
/-! M4: what a list has, in order of first appearance. -/
namespace K50
open List
theorem snoc_ind {α : Type} {P : List α → Prop} (h0 : P []) (h1 : ∀ l a, P l → P (l ++ [a])) (l : List α) : P l := by
  have key : ∀ n (l : List α), l.length = n → P l := by
    intro n
    induction n with
    | zero => intro l e; rw [List.length_eq_zero_iff.mp e]; exact h0
    | succ n ih =>
      intro l e
      rcases List.eq_nil_or_concat l with rfl | ⟨l', a, rfl⟩
      · cases e
      · rw [List.concat_eq_append] at e ⊢
        refine h1 l' a (ih l' ?_)
        simpa using e
  exact key _ l rfl
section
variable {α : Type} [DecidableEq α]
def ddl (l : List α) : List α := l.foldl (fun acc k => if k ∈ acc then acc else acc ++ [k]) []
theorem ddl_snoc (l : List α) (a : α) : ddl (l ++ [a]) = if a ∈ ddl l then ddl l else ddl l ++ [a] := by unfold ddl; rw [List.foldl_append]; rfl
theorem ddl_mem : ∀ {l : List α} {a : α}, a ∈ ddl l ↔ a ∈ l := by
  intro l
  refine snoc_ind (P := fun l => ∀ {a : α}, a ∈ ddl l ↔ a ∈ l) (by intro a; simp [ddl]) (fun l x ih => ?_) l
  · intro a
    rw [ddl_snoc]
    by_cases h : x ∈ ddl l
    · rw [if_pos h, ih]
      simp only [List.mem_append, List.mem_singleton]
      exact ⟨.inl, fun z => z.elim id fun e => e ▸ ih.mp h⟩
    · rw [if_neg h, List.mem_append, ih]
      simp
theorem ddl_nodup (l : List α) : (ddl l).Nodup := by
  refine snoc_ind (P := fun l => (ddl l).Nodup) (by simp [ddl]) (fun l x ih => ?_) l
  · rw [ddl_snoc]
    by_cases h : x ∈ ddl l
    · rw [if_pos h]; exact ih
    · rw [if_neg h]; exact nodup_snoc ih h
theorem ddl_len (l : List α) : (ddl l).length ≤ l.length := by
  refine snoc_ind (P := fun l => (ddl l).length ≤ l.length) (by simp [ddl]) (fun l x ih => ?_) l
  · rw [ddl_snoc]
    split
    · simp; omega
    · simp; omega
/-- the numbers of what a list has -/
def numb (l : List α) : List Nat := l.map fun a => (ddl l).idxOf a
theorem numb_len (l : List α) : (numb l).length = l.length := by simp [numb]
theorem numb_at {l : List α} {i : Nat} {a : α} (h : l[i]? = some a) : (numb l)[i]? = some ((ddl l).idxOf a) := by simp [numb, h]
theorem numb_eq {l : List α} {i j : Nat} {a b : α} (ha : l[i]? = some a) (hb : l[j]? = some b) : (numb l)[i]? = (numb l)[j]? ↔ a = b := by
  rw [numb_at ha, numb_at hb]
  constructor
  · intro e
    exact idx_inj (l := ddl l) (ddl_mem.mpr (List.mem_of_getElem? ha)) (Option.some.inj e)
  · rintro rfl; rfl
end
end K50
set_option maxRecDepth 100000
set_option maxHeartbeats 4000000
/-! K15: graphs are made. -/
namespace K50
open PySem PySem.Spec PyProof.Rows L2 DL
def srtN (l : List Nat) : List Nat := l.mergeSort (fun a b => decide (a ≤ b))
theorem srtN_perm (l : List Nat) : (srtN l).Perm l := List.mergeSort_perm _ _
theorem srtN_pw (l : List Nat) : (srtN l).Pairwise (· ≤ ·) := by
  have := List.pairwise_mergeSort (le := fun a b : Nat => decide (a ≤ b)) (fun a b c h1 h2 => by simp at h1 h2 ⊢; omega) (fun a b => by simp; omega) l
  exact this.imp fun h => by simpa using h
theorem srt_uniq {l : List Nat} {l' : List Int} (h : l'.Perm (keysI l)) (p : l'.Pairwise (· ≤ ·)) : l' = keysI (srtN l) := by
  refine List.Perm.eq_of_pairwise (le := (· ≤ ·)) (fun a b _ _ h1 h2 => Int.le_antisymm h1 h2) p ?_ (h.trans ?_)
  · unfold keysI
    rw [List.pairwise_map]
    exact (srtN_pw l).imp fun h => Int.ofNat_le.mpr h
  · exact ((srtN_perm l).map _).symm
open Classical in
noncomputable def scT (ns : List Nd) (u : Nat) : List Nat := if h : ∃ t, Sc ns u t then h.choose else []
theorem scT_sc {ns : List Nd} {u : Nat} {t : List Nat} (h : Sc ns u t) : Sc ns u (scT ns u) := by
  have e : ∃ t, Sc ns u t := ⟨t, h⟩
  unfold scT
  rw [dif_pos e]
  exact e.choose_spec
noncomputable def mkG (ns : List Nd) (sets : List (List Nat)) : Gr := ⟨ns, sets.map srtN, (List.range ns.length).map (scT ns)⟩
theorem mkG_p {y : GIn} {sets : List (List Nat)} (all : ∀ u, u < y.ns.length → Rch y.ns 0 u) (hs : NdSets y.ns sets) : GrP (mkG y.ns sets) := by
  have hsc : ∀ u, u < y.ns.length → (mkG y.ns sets).sc u = scT y.ns u := fun u hu => by simp [Gr.sc, mkG, List.getD, hu]
  have h1 : ∀ u, u < y.ns.length → Sc y.ns u ((mkG y.ns sets).sc u) := fun u hu => by
    obtain ⟨t, ht⟩ := y.ws.sc_ex (all u hu)
    rw [hsc u hu]
    exact scT_sc ht
  refine ⟨y.ok, y.h0, by simp [mkG], by simp [mkG, hs.ln], all, fun u f hu => ?_, h1, y.ws.scopes fun u hu => h1 u (rch_lt ⟨y.ns, y.ok, 0, y.h0⟩ hu), fun u hu => ?_⟩
  · have hu' : u < sets.length := by rw [hs.ln]; exact hu
    show _ ↔ Need y.ns u f
    rw [← hs.mem u f hu]
    have : (mkG y.ns sets).need u = srtN (gs sets u) := by simp [Gr.need, mkG, List.getD, gs, hu']
    rw [this]
    exact (srtN_perm _).mem_iff
  · have := (y.ws.sc_sub (all u hu) (h1 u hu)).2
    have := y.sl u (all u hu)
    omega
/-- what scope_in is handed -/
def scIn {y : GIn} {sets : List (List Nat)} (hs : NdSets y.ns sets) (all : ∀ u, u < y.ns.length → Rch y.ns 0 u) (u : Nat) (hu : u < sets.length) : ScIn where
  sets := sets
  ln := by rw [hs.ln]; exact y.ok.few
  snd := hs.snd
  slt := fun l hl f hf => by
    obtain ⟨i, hi, rfl⟩ := List.getElem_of_mem hl
    have hi' : i < y.ns.length := by rw [← hs.ln]; exact hi
    have h1 := y.ws.need (all i hi') ((hs.mem i f hi').mp (by simpa [gs, List.getD, hi] using hf))
    rw [hs.ln]
    exact rch_lt ⟨y.ns, y.ok, 0, y.h0⟩ (y.ws.mem (all i hi') h1).1
  u := u
  hu := hu
  rk := fun v => if v < y.ns.length then (y.σ v).length else 0
  hrk := fun v f hv hf => by
    have hv' : v < y.ns.length := by rw [← hs.ln]; exact hv
    have h1 := y.ws.need (all v hv') ((hs.mem v f hv').mp hf)
    have h2 := y.ws.mem (all v hv') h1
    rw [if_pos hv', if_pos (rch_lt ⟨y.ns, y.ok, 0, y.h0⟩ h2.1)]
    exact h2.2.2.1
  hb := fun v => by
    by_cases hv : v < y.ns.length
    · rw [if_pos hv]
      have := y.sl v (all v hv)
      omega
    · rw [if_neg hv]; omega
/-- a graph made of nodes -/
structure MadeOf (ns : List Nd) (G : Gr) : Prop where
  p : GrP G
  by_ : ∃ od, WkPost ns 0 od ∧ G.nodes = rnl ns od
section
variable {P : Program} {w : World} {K : PySem.W.Frag} {mg : Str → Option Value} {base : Heap}
theorem ok_set_up (Γ : Pg K mg) : FnOk P w K mg base CX0 8 Γ.Graph_set_up.f Γ.Graph_set_up.fd P_Graph_set_up (spD K (fun x : Addr × SIn => [.ref x.1, x.2.d Γ.CC]) (fun x => [(x.1, .ins Γ.CM [] [])]) (fun x d L => d = .non ∧ ∃ G, L = [(x.1, G.d Γ.CM)] ∧ MadeOf x.2.ns G)) := by
  refine fn_ok Γ.Graph_set_up.F sc_Graph_set_up (fun _ => rfl) (by decide) (fun cdv A outer s H E hr ⟨a, x⟩ => ?_)
  have nd := sc_Graph_set_up.nd
  refine bl_cons (st_fld (ev_ownP (ok_checked_nodes Γ) hr Γ.checked_nodes.g Γ.checked_nodes.F.kp (bi_checked_nodes Γ) (ag_cons (ev_v 1 rfl (ag_nil ⟨x, rfl, fun d hd => ev_v 0 rfl ⟨0, a, Γ.CM, [], [], rfl, rfl, Γ.clM, Γ.n1, by decide, ?_⟩⟩)))))
  obtain ⟨od, rfl, hod⟩ := hd
  obtain ⟨y, ey, hτ⟩ := mkIn x.ok x.h0 x.ws x.sl hod
  have all : ∀ u, u < y.ns.length → Rch y.ns 0 u := fun u hu => by
    rw [ey] at hu ⊢
    rw [rnl_len] at hu
    exact rnl_all hod hu
  rw [← ey]
  refine bl_cons (st_set 2 nd (ev_ownP (ok_needs_of_nodes Γ) (hr.mono (by decide)) Γ.needs_of_nodes.g Γ.needs_of_nodes.F.kp (bi_needs_of_nodes Γ) (ag_cons (ev_fldC (ev_v 0 rfl ⟨0, a, Γ.CM, _, _, _, rfl, rfl, Γ.clM, Γ.n1, rfl, ag_nil ⟨⟨y.ns, y.ok⟩, rfl, fun d hd => ?_⟩⟩)))))
  obtain ⟨sets, rfl, hs⟩ := hd
  have few := y.ok.few
  have hsl : sets.length = y.ns.length := hs.ln
  have hs' : ∀ l ∈ sets, l.length < 64 := fun l hl => by
    obtain ⟨i, hi, rfl⟩ := List.getElem_of_mem hl
    have hi' : i < y.ns.length := by rw [← hs.ln]; exact hi
    have h1 := nodup_sub_le (hs.snd _ hl) (m := y.σ i) fun f hf => y.ws.need (all i hi') ((hs.mem i f hi').mp (by simpa [gs, List.getD, hi] using hf))
    have := y.sl i (all i hi')
    omega
  refine bl_cons (st_fld (ev_callTy call_tuple_of Γ.b_tuple bt_tuple (ag_cons (ev_mapT [("needed", 3)] setD (fun l => tnats (srtN l)) rfl nd rfl (js := [3]) (by decide) (itx_list (ev_v 2 rfl ⟨_, rfl, sets, rfl, szle (by omega), fun l hl => ⟨fun s H C cl fp => tg_v 3 nd ⟨rfl, fun s H C cl fp => ?_⟩⟩, ag_nil (oa_tuple (.inr rfl) (ev_v 0 rfl ⟨0, a, Γ.CM, _, _, rfl, rfl, Γ.clM, Γ.n2, by decide, ?_⟩))⟩))))))
  · have h64 := hs' l hl
    have hk : (keysI l).length < 64 := by rw [keysI, List.length_map]; exact h64
    refine ev_callTy call_tuple_of Γ.b_tuple bt_tuple (ag_cons (ev_fz (ev_callB cr_sorted Γ.b_sorted bt_sorted (ag_cons (ev_fz (ev_callTy (call_list_kn rfl) Γ.b_list bt_list (ag_cons (ev_v 3 rfl (ag_nil (oa_listK fun p => ⟨1, p, _, rfl, rfl, ag_nil (oa_sorted rfl hk fun q l' hp hw => ⟨1, q, _, rfl, rfl, ag_nil (oa_tuple (.inr rfl) ⟨?_, rfl⟩)⟩)⟩))))))))))
    rw [srt_uniq hp hw, ← keysI_d]
    rfl
  refine bl_cons (st_fld (ev_callTy call_tuple_of Γ.b_tuple bt_tuple (ag_cons (ev_mapT [("node", 4)] (fun u : Nat => .int u) (fun u => tnats (scT y.ns u)) rfl nd rfl (js := [4]) (by decide) (itx_range1 Γ.b_range (ag_cons (ev_callB call_len_seq Γ.b_len bt_len (ag_cons (ev_v 2 rfl (ag_nil (oa_lenS (.inr rfl) (ag_nil ⟨y.ns.length, ?_, by omega, List.range y.ns.length, ?_, szle (by simp; omega), fun u hu => ⟨fun s H C cl fp => tg_v 4 nd ⟨rfl, fun s H C cl fp => ?_⟩⟩, ag_nil (oa_tuple (.inr rfl) (ev_v 0 rfl ⟨0, a, Γ.CM, _, _, rfl, rfl, Γ.clM, Γ.n3, by decide, bl_nil ⟨rfl, mkG y.ns sets, ?_, mkG_p all hs, od, hod, ey⟩⟩))⟩))))))))))))
  · rw [List.length_map, hs.ln]
  · simp [rangeD]
  · have hu' := List.mem_range.mp hu
    refine ev_ownP (ok_scope_in Γ) (hr.mono (by decide)) Γ.scope_in.g Γ.scope_in.F.kp (bi_scope_in Γ) (ag_cons (ev_v 2 rfl (ag_cons (ev_v 4 rfl (ag_nil ⟨scIn hs all u (by omega), rfl, fun d hd => ?_⟩)))))
    obtain ⟨t, rfl, ht⟩ := hd
    have h1 := sc_of hs all ht hu'
    refine ⟨?_, rfl⟩
    rw [y.ws.sc_uniq (all u hu') h1 (scT_sc h1)]
  · have e1 : (mkG y.ns sets).d Γ.CM = .ins Γ.CM grNs [.tup (y.ns.map Nd.d), .tup (sets.map fun l => tnats (srtN l)), .tup ((List.range y.ns.length).map fun u => tnats (scT y.ns u))] := by simp [Gr.d, grDs, mkG, Function.comp_def]
    rw [e1]
    rfl
end
end K50
set_option maxRecDepth 100000
set_option maxHeartbeats 4000000
/-! K16: graphs are made, closed parts. -/
namespace K50
open PySem PySem.Spec PyProof.Rows L2 DL
/-- the same but for numbers -/
structure Iso (ns : List Nd) (s : Nat) (ms : List Nd) (t : Nat) (c : Nat → Nat) : Prop extends Hom ns s ms t c where
  inj : ∀ u v, Rch ns s u → Rch ns s v → c u = c v → u = v
theorem rnl_iso {ns : List Nd} {s : Nat} {od : List Nat} (h : WkPost ns s od) : Iso ns s (rnl ns od) 0 (od.idxOf ·) := ⟨rnl_hom h, rnl_inj h⟩
theorem Iso.comp {ns ms ks : List Nd} {s t r : Nat} {c d : Nat → Nat} (h : Iso ns s ms t c) (k : Iso ms t ks r d) : Iso ns s ks r fun x => d (c x) :=
  ⟨h.toHom.comp k.toHom, fun u v hu hv e => h.inj u v hu hv (k.inj _ _ (h.toHom.fwd hu) (h.toHom.fwd hv) e)⟩
theorem MadeOf.iso {ns : List Nd} {G : Gr} (m : MadeOf ns G) : ∃ c, Iso ns 0 G.nodes 0 c := by
  obtain ⟨od, h, e⟩ := m.by_
  exact ⟨_, e ▸ rnl_iso h⟩
theorem GrP.closed {G : Gr} (g : GrP G) {u : Nat} (hu : u < G.n) (h : G.need u = []) : G.sc u = [] := by
  have hn : ∀ f, ¬ Need G.nodes u f := fun f hf => by
    have := (g.need u f hu).mpr hf
    rw [h] at this
    cases this
  exact (g.ws.sc_uniq (g.all u hu) (g.sc u hu) (.nil hn))
section
variable {P : Program} {w : World} {K : PySem.W.Frag} {mg : Str → Option Value} {base : Heap}
theorem ok_MadeGraph_init (Γ : Pg K mg) : FnOk P w K mg base CX0 9 Γ.MadeGraph_init.f Γ.MadeGraph_init.fd P_MadeGraph_init (spD K (fun x : Addr × SIn => [.ref x.1, x.2.d Γ.CC]) (fun x => [(x.1, .ins Γ.CM [] [])]) (fun x d L => d = .non ∧ ∃ G, L = [(x.1, G.d Γ.CM)] ∧ MadeOf x.2.ns G)) := by
  refine fn_ok Γ.MadeGraph_init.F sc_MadeGraph_init (fun _ => rfl) (by decide) (fun cdv A outer s H E hr ⟨a, x⟩ => ?_)
  refine bl_cons (st_expr (ev_methC Γ.clM Γ.m_set_up (ok_set_up Γ) hr (bi_Graph_set_up Γ) (ev_v 0 rfl ⟨0, a, [], [], rfl, rfl, by simp, ag_cons (ev_v 1 rfl (ag_nil ⟨(a, x), [], rfl, .refl _, ?_⟩))⟩)))
  rintro d L' ⟨rfl, G, rfl, m⟩
  exact bl_nil ⟨rfl, G, rfl, m⟩
/-- a graph came out -/
def GrAt (C : Addr) (R : Gr → Prop) : D → Cells → Prop := fun d L => (∃ G, d = G.d C ∧ R G) ∧ L = []
theorem ok_graph_in (Γ : Pg K mg) : FnOk P w K mg base CX0 11 Γ.graph_in.f Γ.graph_in.fd P_graph_in (spD K (fun x : GIn => [.tup (x.ns.map Nd.d)]) NoC (fun x => GrAt Γ.CM (MadeOf x.ns))) := by
  refine fn_ok Γ.graph_in.F sc_graph_in (fun _ => rfl) (by decide) (fun cdv A outer s H E hr x => ?_)
  refine bl_cons (st_ret (ev_make Γ.mkM (ok_MadeGraph_init Γ) hr Γ.gM (bi_MadeGraph_init Γ) (ag_cons (ev_make Γ.mkC (ok_Checked_init Γ) (hr.mono (by decide)) Γ.gC (bi_Checked_init Γ) (ag_cons (ev_v 0 rfl (ag_nil fun a => ⟨(a, x.ns), rfl, rfl, ?_⟩)))))))
  rintro d L' ⟨rfl, rfl⟩
  refine ⟨rfl, _, rfl, ag_nil fun b => ⟨(b, ⟨x, false, by intro h; cases h⟩), rfl, rfl, ?_⟩⟩
  rintro d L' ⟨rfl, G, rfl, m⟩
  exact ⟨rfl, _, rfl, ⟨G, rfl, m⟩, rfl⟩
structure OfIn extends GIn where
  fm : NsFm ns
theorem ok_Graph_of (Γ : Pg K mg) : FnOk P w K mg base CX0 11 Γ.Graph_of.f Γ.Graph_of.fd P_Graph_of (spD K (fun x : OfIn => [.ref Γ.CG, .tup (x.ns.map Nd.d)]) NoC (fun x => GrAt Γ.CM (MadeOf x.ns))) := by
  refine fn_ok Γ.Graph_of.F sc_Graph_of (fun _ => rfl) (by decide) (fun cdv A outer s H E hr x => ?_)
  refine bl_cons (st_ret (ev_make Γ.mkM (ok_MadeGraph_init Γ) hr Γ.gM (bi_MadeGraph_init Γ) (ag_cons (ev_v 1 rfl (ag_nil fun b => ⟨(b, ⟨x.toGIn, true, fun _ => x.fm⟩), rfl, rfl, ?_⟩)))))
  rintro d L' ⟨rfl, G, rfl, m⟩
  exact ⟨rfl, _, rfl, ⟨G, rfl, m⟩, rfl⟩
/-- a node that needs nothing -/
structure CpIn where
  G : Gr
  g : GrP G
  u : Nat
  hu : u < G.n
  hn : G.need u = []
def CpPost (x : CpIn) (H : Gr) : Prop := GrP H ∧ ∃ c, Iso x.G.nodes x.u H.nodes 0 c
theorem ok_closed_part (Γ : Pg K mg) : FnOk P w K mg base CX0 12 Γ.Graph_closed_part.f Γ.Graph_closed_part.fd P_Graph_closed_part (spD K (fun x : CpIn => [x.G.d Γ.CM, .int x.u]) NoC (fun x => GrAt Γ.CM (CpPost x))) := by
  refine fn_ok Γ.Graph_closed_part.F sc_Graph_closed_part (fun _ => rfl) (by decide) (fun cdv A outer s H E hr x => ?_)
  have S := x.g.S
  refine bl_cons (st_reqN Γ (hr.mono (by decide)) (ag_cons (ev_v 0 rfl (ag_cons (ev_v 1 rfl (ag_nil ⟨⟨x.G, x.u, S, x.hu⟩, rfl, ?_⟩))))))
  refine bl_cons (st_if (te_cmp (op_neD hr.units) (ev_ix ix_tup (ev_needs Γ (ev_v 0 rfl ⟨x.G, rfl, ev_v 1 rfl (o2_ixT (S.need x.hu) (ev_tup (ag_nil ⟨sz, o2_neD (pure_nats _) rfl (shaped_tup (plain_nats _)) (by decide +kernel) (eqv_nilT _) ⟨false, ?_, iteF (bl_nil ?_)⟩⟩)))⟩)))))
  · rw [x.hn]; rfl
  have W : WS x.G.nodes x.u x.G.sc := x.g.ws.from (x.g.all x.u x.hu) (x.g.closed x.hu x.hn)
  have rl : ∀ v, Rch x.G.nodes x.u v → v < x.G.n := fun v hv => rch_lt ⟨x.G.nodes, x.g.ok, x.u, x.hu⟩ hv
  refine bl_cons (st_ret (ev_ownP (ok_graph_in Γ) hr Γ.graph_in.g Γ.graph_in.F.kp (bi_graph_in Γ) (ag_cons (ev_own (ok_renumbered Γ) (hr.mono (by decide)) Γ.renumbered.g Γ.renumbered.F.kp (bi_renumbered Γ) (ag_cons (ev_nodes Γ (ev_v 0 rfl ⟨x.G, rfl, ag_cons (ev_ownP (ok_first_walk Γ) (hr.mono (by decide)) Γ.first_walk.g Γ.first_walk.F.kp (bi_first_walk Γ) (ag_cons (ev_nodes Γ (ev_v 0 rfl ⟨x.G, rfl, ag_cons (ev_tup (ag_cons (ev_v 1 rfl (ag_nil ⟨sz, ag_nil ⟨⟨x.G.nodes, x.g.ok, x.u, x.hu⟩, rfl, fun d hd => ?_⟩⟩))))⟩))))⟩)))))))
  obtain ⟨od, rfl, hod⟩ := hd
  obtain ⟨y, ey, hτ⟩ := mkIn x.g.ok x.hu W (fun v hv => x.g.sl v (rl v hv)) hod
  refine ag_nil ⟨⟨x.G.nodes, x.g.ok, od, hod.nd, fun v hv => rl v ((hod.mem v).mp hv), fun v hv c hc => (hod.mem c).mpr (.step ((hod.mem v).mp hv) hc), fun v hv f e => ?_⟩, rfl, ?_⟩
  · have hr := (hod.mem v).mp hv
    refine (hod.mem f).mpr (W.mem hr ?_).1
    rw [W.vt v f hr e]
    simp
  · refine ag_nil ⟨y, by rw [ey]; rfl, ?_⟩
    rintro d ⟨H2, rfl, m⟩
    obtain ⟨c, hc⟩ := m.iso
    rw [ey] at hc
    exact ⟨⟨H2, rfl, m.p, _, (rnl_iso hod).comp hc⟩, rfl⟩
/-- len of a graph -/
theorem call_glen (Γ : Pg K mg) {X : Cx} (hK : X.K = K) (hm : X.mg = mg) : True := trivial
end
end K50
set_option maxRecDepth 100000
set_option maxHeartbeats 4000000
/-! K17: numbered. -/
namespace K50
open PySem PySem.Spec PyProof.Rows L2 DL
structure NbIn where
  rows : List D
  ok : ∀ r ∈ rows, r.keyOk = true
  few : rows.length ≤ 100
def NbIn.keys (x : NbIn) : List NestedKey := x.rows.map D.key
section
variable {P : Program} {w : World} {K : PySem.W.Frag} {mg : Str → Option Value} {base : Heap}
theorem ok_numbered (Γ : Pg K mg) : FnOk P w K mg base CX0 1 Γ.numbered.f Γ.numbered.fd P_numbered (spD K (fun x : NbIn => [.lst x.rows]) NoC (Ret fun x => .lst (dnats (numb x.keys)))) := by
  refine fn_ok Γ.numbered.F sc_numbered (fun _ => rfl) (by decide) (fun cdv A outer s H E hr x => ?_)
  have nd := sc_numbered.nd
  have few := x.few
  have hu16 := Nat.lt_of_le_of_lt (Nat.add_le_add_left (show 16 ≤ 64 by decide) _) hr.units
  refine bl_cons (st_set 1 nd (ev_Nnew fun p => ?_))
  refine bl_cons (st_for (js := [2]) rfl (itx_list (ev_v 0 rfl ⟨_, rfl, fun i Γ' L' => ∃ o ks, Γ' = [some (.lst x.rows), some (.ref p), o] ∧ L' = [(p, dN _ ks (dnats (List.range ks.length)))] ∧ ks.map D.key = ddl ((x.rows.take i).map D.key) ∧ (∀ k ∈ ks, k ∈ x.rows), ⟨none, [], rfl, rfl, rfl, by simp⟩, ?_, ?_⟩)))
  · rintro i d Γ' L' hd ⟨o, ks, rfl, rfl, hk, hm⟩
    have hdm := List.mem_of_getElem? hd
    have okk : ∀ k ∈ ks, k.keyOk = true := fun k h => x.ok k (hm k h)
    have hl : ks.length = (dnats (List.range ks.length)).length := by simp [dnats]
    have kl : ks.length ≤ 100 := by
      have h1 := congrArg List.length hk
      have h2 := ddl_len ((x.rows.take i).map D.key)
      simp only [List.length_map, List.length_take] at h1 h2
      omega
    refine tg_v 2 nd (bl_cons (st_expr (ev_Nsetd hu16 (ev_v 1 rfl ⟨0, p, ks, _, rfl, rfl, okk, ev_v 2 rfl (ev_callB call_lenN Γ.b_len bt_len (ag_cons (ev_v 1 rfl (ag_nil (oa_lenN (j := 0) rfl okk hl ⟨0, ks, _, rfl, okk, hl, x.ok d hdm, szlt (by omega), ?_, ?_⟩)))))⟩))))
    · intro hin d' _
      refine bl_nil ⟨_, ks, rfl, rfl, ?_, hm⟩
      rw [DL.take_next hd, List.map_append, hk, List.map_singleton, ddl_snoc, if_pos (hk ▸ hin)]
    · intro hin
      refine bl_nil ⟨_, ks ++ [d], rfl, ?_, ?_, fun k h => ?_⟩
      · simp [dnats, List.range_succ]
      · rw [DL.take_next hd, List.map_append, List.map_append, hk, List.map_singleton, ddl_snoc, if_neg (hk ▸ hin)]
      · rcases List.mem_append.mp h with z | z
        · exact hm k z
        · rw [List.mem_singleton.mp z]; exact hdm
  · rintro Γ' L' ⟨o, ks, rfl, rfl, hk, hm⟩
    rw [List.take_length] at hk
    have okk : ∀ k ∈ ks, k.keyOk = true := fun k h => x.ok k (hm k h)
    have hl : ks.length = (dnats (List.range ks.length)).length := by simp [dnats]
    refine bl_cons (st_retD (ev_mapT [("row", 2)] (fun d : D => d) (fun d => .int ((ddl x.keys).idxOf d.key : Nat)) rfl nd rfl (js := [2]) (by decide) (itx_list (ev_v 0 rfl ⟨_, rfl, x.rows, by simp, szle (by omega), fun d hd => ⟨fun s H C cl fp => tg_v 2 nd ⟨rfl, fun s H C cl fp => ?_⟩⟩, ?_, rfl⟩))))
    · have hin : d.key ∈ ddl x.keys := ddl_mem.mpr (List.mem_map_of_mem hd)
      have hi := List.idxOf_lt_length_of_mem hin
      refine ev_Nget hu16 (ev_v 1 rfl (ev_v 2 rfl ⟨0, p, ks, _, (ddl x.keys).idxOf d.key, _, rfl, rfl, okk, hl, x.ok d hd, ?_, ?_, ?_, rfl, rfl⟩))
      · rw [hk]
        show (ddl x.keys)[_]? = _
        rw [List.getElem?_eq_getElem hi, List.getElem_idxOf hi]
      · intro m hmlt e
        rw [hk] at e
        have e : (ddl x.keys)[m]? = some d.key := e
        obtain ⟨hm1, e1⟩ := List.getElem?_eq_some_iff.mp e
        have := idx_get (ddl_nodup x.keys) hm1
        rw [e1] at this
        omega
      · refine dnats_get ?_
        have h1 := congrArg List.length hk
        rw [List.length_map] at h1
        have : (ddl x.keys).idxOf d.key < ks.length := by rw [h1]; exact hi
        simp [this]
    · simp [numb, NbIn.keys, dnats, List.map_map, Function.comp_def]
end
end K50
set_option maxRecDepth 100000
set_option maxHeartbeats 4000000
/-! K18: groups. -/
namespace K50
open PySem PySem.Spec PyProof.Rows L2 DL
/-- where m stands -/
def grp (ms : List Nat) (m : Nat) : List Nat := (List.range ms.length).filter fun i => decide (ms[i]? = some m)
theorem grp_mem {ms : List Nat} {m i : Nat} : i ∈ grp ms m ↔ ms[i]? = some m := by
  unfold grp
  rw [List.mem_filter, List.mem_range, decide_eq_true_eq]
  exact ⟨fun h => h.2, fun h => ⟨(List.getElem?_eq_some_iff.mp h).1, h⟩⟩
theorem grp_snoc (ms : List Nat) (a m : Nat) : grp (ms ++ [a]) m = grp ms m ++ if m = a then [ms.length] else [] := by
  unfold grp
  rw [List.length_append, List.length_singleton, List.range_succ, List.filter_append]
  congr 1
  · refine List.filter_congr fun i hi => ?_
    rw [List.getElem?_append_left (List.mem_range.mp hi)]
  · by_cases h : m = a
    · subst h; simp
    · have : a ≠ m := fun e => h e.symm
      simp [h, this]
theorem grp_len (ms : List Nat) (m : Nat) : (grp ms m).length ≤ ms.length := by
  unfold grp
  refine Nat.le_trans (List.length_filter_le _ _) ?_
  rw [List.length_range]
  exact Nat.le_refl _
structure MkIn where
  ms : List Nat
  few : ms.length ≤ 100
/-- the groups of some of the marks -/
structure GInv (ms : List Nat) (as : List Addr) (cs : Cells) : Prop where
  nd : as.Nodup
  ln : as.length = (ddl ms).length
  at_ : ∀ (j m : Nat) (a : Addr), (ddl ms)[j]? = some m → as[j]? = some a → ∃ k : Nat, cs[k]? = some (a, D.lst (dnats (grp ms m)))
theorem adr_at {L : Cells} {k : Nat} {p : Addr × D} (h : L[k]? = some p) : p.1 ∈ adr L := List.mem_map_of_mem (List.mem_of_getElem? h)
theorem set_ne {L : Cells} {k k' : Nat} {a a' : Addr} {d d' e : D} (h : L[k]? = some (a, d)) (h' : L[k']? = some (a', d')) (n : a' ≠ a) : (L.set k (a, e))[k']? = some (a', d') := by
  have : k ≠ k' := fun z => by
    subst z
    rw [h] at h'
    exact n (congrArg Prod.fst (Option.some.inj h')).symm
  rw [List.getElem?_set_ne this]
  exact h'
section
variable {P : Program} {w : World} {K : PySem.W.Frag} {mg : Str → Option Value} {base : Heap}
theorem dlook_refs {ks : List Nat} {as : List Addr} (nd : ks.Nodup) (hl : as.length = ks.length) {m : Nat} (h : m ∈ ks) : ∃ (j : Nat) (a : Addr), ks[j]? = some m ∧ as[j]? = some a ∧ dlook (m : Int) (keysI ks) (as.map D.ref) = some (.ref a) := by
  obtain ⟨j, hj⟩ := List.mem_iff_getElem?.mp h
  have hlt := (List.getElem?_eq_some_iff.mp hj).1
  have ha : as[j]? = some as[j] := List.getElem?_eq_getElem (by omega)
  exact ⟨j, _, hj, ha, dlook_at (keys_nodup nd) (by rw [keysI, List.getElem?_map, hj]; rfl) (by rw [List.getElem?_map, ha]; rfl)⟩
theorem ok_groups_of (Γ : Pg K mg) : FnOk P w K mg base CX0 1 Γ.groups_of.f Γ.groups_of.fd P_groups_of (spD K (fun x : MkIn => [tnats x.ms]) NoC (Ret fun x => .tup ((ddl x.ms).map fun m => tnats (grp x.ms m)))) := by
  refine fn_ok Γ.groups_of.F sc_groups_of (fun _ => rfl) (by decide) (fun cdv A outer s H E hr x => ?_)
  have nd := sc_groups_of.nd
  have few := x.few
  refine bl_cons (st_set 1 nd (ev_dnew fun p => ?_))
  refine bl_cons (st_for (js := [2, 3]) rfl (itx_enumT Γ.b_enumerate (ag_cons (ev_v 0 rfl (ag_nil ⟨_, rfl, fun i Γ' L' => ∃ o2 o3 as cs, Γ' = [some (tnats x.ms), some (.ref p), o2, o3, none] ∧ L' = (p, .dct (keysI (ddl (x.ms.take i))) (as.map D.ref)) :: cs ∧ GInv (x.ms.take i) as cs, ⟨none, none, [], [], rfl, rfl, by simp, rfl, by intro j m a h; simp [ddl] at h⟩, ?_, ?_⟩)))))
  · rintro i d Γ' L' hd ⟨o2, o3, as, cs, rfl, rfl, I⟩
    obtain ⟨m, hm, rfl⟩ : ∃ m, x.ms[i]? = some m ∧ d = .tup [.int i, .int m] := by
      have hi := lt_of_get hd
      rw [enumD_length, dnats_length] at hi
      have h1 : x.ms[i]? = some x.ms[i] := List.getElem?_eq_getElem hi
      refine ⟨_, h1, ?_⟩
      rw [enumD_get (dnats_get h1)] at hd
      exact (Option.some.inj hd).symm
    have hi := (List.getElem?_eq_some_iff.mp hm).1
    have dl : (ddl (x.ms.take i)).length ≤ 100 := by
      have := ddl_len (x.ms.take i)
      rw [List.length_take] at this
      omega
    have gl : ∀ m, (grp (x.ms.take i) m).length ≤ 100 := fun m => by
      have := grp_len (x.ms.take i) m
      rw [List.length_take] at this
      omega
    have tl : (x.ms.take i).length = i := by rw [List.length_take]; omega
    refine tg_2 2 3 rfl nd (bl_cons (st_append (ev_dsetd (ev_v 1 rfl ⟨0, p, _, _, rfl, rfl, ev_v 3 rfl (ev_lst (ag_nil ⟨sz, fun q => ⟨0, m, _, _, rfl, rfl, by rw [keysI, List.length_map]; exact szlt (by omega), ?_, ?_⟩⟩))⟩))))
    · intro d' hd'
      by_cases hin : m ∈ ddl (x.ms.take i)
      · obtain ⟨j, a, hj, ha, hl⟩ := dlook_refs (ddl_nodup _) I.ln hin
        rw [hl] at hd'
        cases hd'
        obtain ⟨k, hk⟩ := I.at_ j m a hj ha
        have hk2 : ((p, D.dct (keysI (ddl (x.ms.take i))) (as.map D.ref)) :: cs ++ [(q, D.lst [])])[k + 1]? = some (a, .lst (dnats (grp (x.ms.take i) m))) := by
          rw [List.cons_append, List.getElem?_cons_succ, List.getElem?_append_left (List.getElem?_eq_some_iff.mp hk).1]
          exact hk
        refine ⟨k + 1, a, _, rfl, hk2, ev_v 2 rfl ⟨k + 1, _, hk2, by rw [dnats_length]; exact szlt (by have := gl m; omega), bl_nil ⟨some (.int i), some (.int m), as, (cs ++ [(q, D.lst [])]).set k (a, .lst (dnats (grp (x.ms.take i) m) ++ [.int i])), rfl, ?_, I.nd, ?_, ?_⟩⟩⟩
        · rw [DL.take_next hm, ddl_snoc, if_pos hin]
          rfl
        · rw [DL.take_next hm, ddl_snoc, if_pos hin]
          exact I.ln
        · intro j2 m2 a2 hj2 ha2
          rw [DL.take_next hm, ddl_snoc, if_pos hin] at hj2
          have hk3 : (cs ++ [(q, D.lst [])])[k]? = some (a, .lst (dnats (grp (x.ms.take i) m))) := by
            rw [List.getElem?_append_left (List.getElem?_eq_some_iff.mp hk).1]; exact hk
          rw [DL.take_next hm]
          by_cases e : m2 = m
          · subst e
            have ej : j2 = j := (List.getElem?_inj (List.getElem?_eq_some_iff.mp hj2).1 (ddl_nodup _)).mp (hj2.trans hj.symm)
            subst ej
            rw [ha] at ha2
            cases ha2
            refine ⟨k, ?_⟩
            rw [List.getElem?_set_self (List.getElem?_eq_some_iff.mp hk3).1, grp_snoc, if_pos rfl, tl]
            simp [dnats]
          · have na : a2 ≠ a := fun z => by
              subst z
              have ej : j2 = j := (List.getElem?_inj (List.getElem?_eq_some_iff.mp ha2).1 I.nd).mp (ha2.trans ha.symm)
              subst ej
              rw [hj] at hj2
              exact e (Option.some.inj hj2).symm
            obtain ⟨k2, hk4⟩ := I.at_ j2 m2 a2 hj2 ha2
            refine ⟨k2, ?_⟩
            rw [grp_snoc, if_neg e, List.append_nil]
            refine set_ne hk3 ?_ na
            rw [List.getElem?_append_left (List.getElem?_eq_some_iff.mp hk4).1]; exact hk4
      · rw [dlook_none (fun z => hin (mem_keysI.mp z))] at hd'
        cases hd'
    · intro hn
      have hin : m ∉ ddl (x.ms.take i) := fun z => by
        obtain ⟨j, a, _, _, hl⟩ := dlook_refs (ddl_nodup _) I.ln z
        rw [hl] at hn
        cases hn
      have g0 : grp (x.ms.take i) m = [] := by
        cases e : grp (x.ms.take i) m with
        | nil => rfl
        | cons y l =>
          have : y ∈ grp (x.ms.take i) m := by rw [e]; simp
          exact absurd (ddl_mem.mpr (List.mem_of_getElem? (grp_mem.mp this))) hin
      have hq : ((p, D.dct (keysI (ddl (x.ms.take i)) ++ [(m : Int)]) (as.map D.ref ++ [D.ref q])) :: (cs ++ [(q, D.lst [])]))[cs.length + 1]? = some (q, .lst []) := by simp
      refine ⟨cs.length + 1, q, [], rfl, hq, ev_nd fun hnd => ev_v 2 rfl ⟨cs.length + 1, [], hq, by simp [sizeLine_eq], bl_nil ⟨some (.int i), some (.int m), as ++ [q], cs ++ [(q, .lst [.int i])], rfl, ?_, ?_, ?_, ?_⟩⟩⟩
      · rw [DL.take_next hm, ddl_snoc, if_neg hin]
        simp [keysI]
      · have hqn : q ∉ as := fun z => by
          obtain ⟨j, hj⟩ := List.mem_iff_getElem?.mp z
          have hlt := (List.getElem?_eq_some_iff.mp hj).1
          have hlt2 : j < (ddl (x.ms.take i)).length := by rw [← I.ln]; exact hlt
          obtain ⟨k, hk⟩ := I.at_ j _ q (List.getElem?_eq_getElem hlt2) hj
          have h1 := adr_at hk
          have hnd2 : (p :: (adr cs ++ [q])).Nodup := by simpa [adr] using hnd
          rw [List.nodup_cons, List.nodup_append] at hnd2
          exact hnd2.2.2.2 q h1 q (by simp) rfl
        exact nodup_snoc I.nd hqn
      · rw [DL.take_next hm, ddl_snoc, if_neg hin]
        simp [I.ln]
      · intro j2 m2 a2 hj2 ha2
        rw [DL.take_next hm, ddl_snoc, if_neg hin] at hj2
        rw [DL.take_next hm]
        by_cases hlt : j2 < as.length
        · have hlt2 : j2 < (ddl (x.ms.take i)).length := by rw [← I.ln]; exact hlt
          rw [List.getElem?_append_left hlt2] at hj2
          rw [List.getElem?_append_left hlt] at ha2
          have e : m2 ≠ m := fun z => hin (z ▸ List.mem_of_getElem? hj2)
          obtain ⟨k, hk⟩ := I.at_ j2 m2 a2 hj2 ha2
          refine ⟨k, ?_⟩
          rw [grp_snoc, if_neg e, List.append_nil, List.getElem?_append_left (List.getElem?_eq_some_iff.mp hk).1]
          exact hk
        · have e1 := (List.getElem?_eq_some_iff.mp ha2).1
          rw [List.length_append, List.length_singleton] at e1
          have ej : j2 = as.length := by omega
          subst ej
          rw [List.getElem?_append_right (Nat.le_refl _), Nat.sub_self] at ha2
          have hj3 := hj2
          rw [I.ln, List.getElem?_append_right (Nat.le_refl _), Nat.sub_self] at hj3
          have ea : a2 = q := by simpa using ha2.symm
          have em : m2 = m := by simpa using hj3.symm
          subst ea em
          refine ⟨cs.length, ?_⟩
          rw [grp_snoc, if_pos rfl, tl, g0]
          simp [dnats]
  · rintro Γ' L' ⟨o2, o3, as, cs, rfl, rfl, I⟩
    have el : (enumD (dnats x.ms)).length = x.ms.length := by rw [enumD_length, dnats_length]
    rw [el, List.take_length] at I ⊢
    have dl : (ddl x.ms).length ≤ 100 := by
      have := ddl_len x.ms
      omega
    refine bl_cons (st_retD (ev_callTy call_tuple_of Γ.b_tuple bt_tuple (ag_cons (ev_mapT [("group", 4)] (fun q : Addr × Nat => .ref q.1) (fun q => tnats (grp x.ms q.2)) rfl nd rfl (js := [4]) (by decide) (itx_vals (ev_kn (ev_v 1 rfl ⟨0, p, _, _, rfl, rfl, _, _, rfl, as.zip (ddl x.ms), ?_, ?_, fun q hq => ⟨fun s H C cl fp => tg_v 4 nd ⟨rfl, fun s H C cl fp => ?_⟩⟩, ag_nil (oa_tuple (.inr rfl) ⟨?_, rfl⟩)⟩)))))))
    · rw [show (List.map (fun q : Addr × Nat => D.ref q.1) (as.zip (ddl x.ms))) = ((as.zip (ddl x.ms)).map Prod.fst).map D.ref by rw [List.map_map]; rfl, List.map_fst_zip (by rw [I.ln]; exact Nat.le_refl _)]
    · rw [List.length_zip]
      exact szle (by omega)
    · obtain ⟨j, hj⟩ := List.mem_iff_getElem?.mp hq
      rw [List.getElem?_zip_eq_some] at hj
      obtain ⟨k, hk⟩ := I.at_ j q.2 q.1 hj.2 hj.1
      exact ev_callTy call_tuple_of Γ.b_tuple bt_tuple (ag_cons (ev_v 4 rfl (ag_nil (oa_tupC hk ⟨rfl, rfl⟩))))
    · rw [show (List.map (fun q : Addr × Nat => tnats (grp x.ms q.2)) (as.zip (ddl x.ms))) = ((as.zip (ddl x.ms)).map Prod.snd).map (fun m => tnats (grp x.ms m)) by rw [List.map_map]; rfl, List.map_snd_zip (by rw [I.ln]; exact Nat.le_refl _)]
end
end K50
set_option maxRecDepth 100000
set_option maxHeartbeats 4000000
/-! K19: merged nodes. -/
namespace K50
open PySem PySem.Spec PyProof.Rows L2 DL
structure MgIn where
  ns : List Nd
  ok : NsOk ns
  ms : List Nat
  ln : ms.length = ns.length
abbrev mrk (ms : List Nat) (u : Nat) : Nat := ms.getD u 0
def hd (ms : List Nat) (m : Nat) : Nat := (grp ms m).headD 0
def mrg (ns : List Nd) (ms : List Nat) : List Nd := (ddl ms).map fun m => (nat ns (hd ms m)).rn (mrk ms)
theorem mrk_at {ms : List Nat} {u : Nat} (h : u < ms.length) : ms[u]? = some (mrk ms u) := by simp [mrk, List.getD, h]
theorem hd_at {ms : List Nat} {m : Nat} (h : m ∈ ms) : (grp ms m)[0]? = some (hd ms m) ∧ ms[hd ms m]? = some m := by
  obtain ⟨i, hi⟩ := List.mem_iff_getElem?.mp h
  have h1 := grp_mem.mpr hi
  cases e : grp ms m with
  | nil => rw [e] at h1; cases h1
  | cons y l =>
    have h2 : y ∈ grp ms m := by rw [e]; simp
    have h3 : hd ms m = y := by simp [hd, e]
    rw [h3]
    exact ⟨rfl, grp_mem.mp h2⟩
section
variable {P : Program} {w : World} {K : PySem.W.Frag} {mg : Str → Option Value} {base : Heap}
theorem ok_merged_nodes (Γ : Pg K mg) : FnOk P w K mg base CX0 2 Γ.merged_nodes.f Γ.merged_nodes.fd P_merged_nodes (spD K (fun x : MgIn => [.tup (x.ns.map Nd.d), tnats x.ms]) NoC (Ret fun x => .tup ((mrg x.ns x.ms).map Nd.d))) := by
  obtain ⟨tW, hW⟩ := Γ.WORD
  refine fn_ok Γ.merged_nodes.F sc_merged_nodes (fun _ => rfl) (by decide) (fun cdv A outer s H E hr x => ?_)
  have nd := sc_merged_nodes.nd
  have few : x.ms.length ≤ 100 := by rw [x.ln]; exact x.ok.few
  have dl : (ddl x.ms).length ≤ 100 := Nat.le_trans (ddl_len _) few
  let mD : Nat → D := fun m => ((nat x.ns (hd x.ms m)).rn (mrk x.ms)).d
  refine bl_cons (st_set 2 nd (ev_lst (ag_nil ⟨sz, fun a => ?_⟩)))
  refine bl_cons (st_for (js := [3, 4]) rfl (itx_enumT Γ.b_enumerate (ag_cons (ev_own (ok_groups_of Γ) hr Γ.groups_of.g Γ.groups_of.F.kp (bi_groups_of Γ) (ag_cons (ev_v 1 rfl (ag_nil ⟨⟨x.ms, few⟩, rfl, ag_nil ⟨_, rfl, fun i Γ' L' => ∃ o3 o4 o5, Γ' = [some (.tup (x.ns.map Nd.d)), some (tnats x.ms), some (.ref a), o3, o4, o5, none] ∧ L' = [(a, .lst (((ddl x.ms).take i).map mD))], ⟨none, none, none, rfl, rfl⟩, ?_, ?_⟩⟩)))))))
  · rintro i d Γ' L' hd0 ⟨o3, o4, o5, rfl, rfl⟩
    obtain ⟨m, hm, rfl⟩ : ∃ m, (ddl x.ms)[i]? = some m ∧ d = .tup [.int i, tnats (grp x.ms m)] := by
      have hi := lt_of_get hd0
      rw [enumD_length, List.length_map] at hi
      have h1 : (ddl x.ms)[i]? = some (ddl x.ms)[i] := List.getElem?_eq_getElem hi
      refine ⟨_, h1, ?_⟩
      rw [enumD_get (d := tnats (grp x.ms (ddl x.ms)[i])) (by rw [List.getElem?_map, h1]; rfl)] at hd0
      exact (Option.some.inj hd0).symm
    have hmm : m ∈ x.ms := ddl_mem.mp (List.mem_of_getElem? hm)
    obtain ⟨h0, h1⟩ := hd_at hmm
    have hlt : hd x.ms m < x.ns.length := by rw [← x.ln]; exact (List.getElem?_eq_some_iff.mp h1).1
    have hlen : (((ddl x.ms).take i).map mD).length < sizeLine := by
      rw [List.length_map, List.length_take]
      exact szlt (by omega)
    have fin : ∀ {o5 : Option D} {e : D}, e = mD m → ∃ p q r, ([some (.tup (x.ns.map Nd.d)), some (tnats x.ms), some (.ref a), some (.int i), some (tnats (grp x.ms m)), o5, none] : Gam) = [some (.tup (x.ns.map Nd.d)), some (tnats x.ms), some (.ref a), p, q, r, none] ∧ ([(a, D.lst ((((ddl x.ms).take i).map mD) ++ [e]))] : Cells) = [(a, .lst (((ddl x.ms).take (i + 1)).map mD))] := fun {o5 e} he => by
      refine ⟨_, _, _, rfl, ?_⟩
      rw [DL.take_next hm, List.map_append, he]
      rfl
    refine tg_2 3 4 rfl nd (bl_cons (st_set 5 nd (ev_ix ix_tup (ev_v 0 rfl (ev_ix ix_tup (ev_v 4 rfl (ev_int (o2_ixT (n := 0) (dnats_get h0) (o2_ixT (nat_d hlt) ?_)))))))))
    have hch := x.ok.ch _ (nat_mem hlt)
    have mlt : ∀ {c}, c < x.ns.length → (dnats x.ms)[c]? = some (.int (mrk x.ms c)) := fun {c} h => dnats_get (mrk_at (by rw [x.ln]; exact h))
    cases hn : nat x.ns (hd x.ms m) with
    | word y cs =>
      rw [hn] at hch
      refine bl_cons (st_if (te_cmp op_eq (ev_ix ix_tup (ev_v 5 rfl (ev_int (o2_ixT (n := 0) rfl (ev_gstr hW (o2_seqT ⟨true, rfl, iteT ?_⟩))))))))
      refine bl_cons (st_append (ev_v 2 rfl ⟨0, a, _, rfl, rfl, ev_tup (ag_cons (ev_gstr hW (ag_cons (ev_ix ix_tup (ev_v 5 rfl (ev_int (o2_ixT (n := 1) rfl (ag_cons (ev_callTy call_tuple_of Γ.b_tuple bt_tuple (ag_cons ?_))))))))))⟩))
      refine ev_mapT [("child", 6)] (fun c : Nat => .int c) (fun c => .int (mrk x.ms c)) rfl nd rfl (js := [6]) (by decide) (itx_tup (ev_ix ix_tup (ev_v 5 rfl (ev_int (o2_ixT (n := 2) rfl ⟨_, rfl, cs, rfl, szle (Nat.le_trans hch.1 (by decide)), fun c hc => ⟨fun s H C cl fp => tg_v 6 nd ⟨rfl, fun s H C cl fp => ?_⟩⟩, ag_nil (oa_tuple (.inr rfl) (ag_nil ⟨sz, 0, _, rfl, hlen, bl_nil (bl_nil (fin ?_))⟩))⟩)))))
      · exact ev_ix ix_tup (ev_v 1 rfl (ev_v 6 rfl (o2_ixT (mlt (hch.2 c hc)) ⟨rfl, rfl⟩)))
      · show _ = ((nat x.ns (hd x.ms m)).rn (mrk x.ms)).d
        rw [hn]
        simp only [Nd.rn, Nd.d, dnats, List.map_map]
        rfl
    | fn c =>
      rw [hn] at hch
      refine bl_cons (st_if (te_cmp op_eq (ev_ix ix_tup (ev_v 5 rfl (ev_int (o2_ixT (n := 0) rfl (ev_gstr hW (o2_seqF ⟨false, rfl, iteF ?_⟩))))))))
      refine bl_cons (st_append (ev_v 2 rfl ⟨0, a, _, rfl, rfl, ev_tup (ag_cons (ev_ix ix_tup (ev_v 5 rfl (ev_int (o2_ixT (n := 0) rfl (ag_cons (ev_ix ix_tup (ev_v 1 rfl (ev_ix ix_tup (ev_v 5 rfl (ev_int (o2_ixT (n := 1) rfl (o2_ixT (mlt (hch.2 c (by simp [Nd.ch]))) (ag_nil ⟨sz, 0, _, rfl, hlen, bl_nil (bl_nil (fin ?_))⟩))))))))))))))⟩))
      show _ = ((nat x.ns (hd x.ms m)).rn (mrk x.ms)).d
      rw [hn]; rfl
    | var f =>
      have hf := x.ok.vt f (hn ▸ nat_mem hlt)
      refine bl_cons (st_if (te_cmp op_eq (ev_ix ix_tup (ev_v 5 rfl (ev_int (o2_ixT (n := 0) rfl (ev_gstr hW (o2_seqF ⟨false, rfl, iteF ?_⟩))))))))
      refine bl_cons (st_append (ev_v 2 rfl ⟨0, a, _, rfl, rfl, ev_tup (ag_cons (ev_ix ix_tup (ev_v 5 rfl (ev_int (o2_ixT (n := 0) rfl (ag_cons (ev_ix ix_tup (ev_v 1 rfl (ev_ix ix_tup (ev_v 5 rfl (ev_int (o2_ixT (n := 1) rfl (o2_ixT (mlt hf) (ag_nil ⟨sz, 0, _, rfl, hlen, bl_nil (bl_nil (fin ?_))⟩))))))))))))))⟩))
      show _ = ((nat x.ns (hd x.ms m)).rn (mrk x.ms)).d
      rw [hn]; rfl
  · rintro Γ' L' ⟨o3, o4, o5, rfl, rfl⟩
    refine bl_cons (st_retD (ev_callTy call_tuple_of Γ.b_tuple bt_tuple (ag_cons (ev_fz (ev_v 2 rfl ⟨0, a, _, rfl, rfl, ag_nil (oa_tuple (.inr rfl) ⟨?_, rfl⟩)⟩)))))
    rw [enumD_length, List.length_map, List.take_length]
    show D.tup _ = D.tup (List.map Nd.d (List.map _ (ddl x.ms)))
    rw [List.map_map]
    rfl
end
end K50
set_option maxRecDepth 100000
set_option maxHeartbeats 4000000
/-! K20: classes. -/
namespace K50
open PySem PySem.Spec PyProof.Rows L2 DL
/-- what is told of a node by marks -/
def rowL (G : Gr) (ms : List Nat) (u : Nat) : List D := [.str (G.nd u).kind, .str (G.nd u).wd, .int (G.nd u).ch.length, .int (G.sc u).length, .int (mrk ms u)] ++ ((G.nd u).ch ++ G.sc u).map fun o => .int (mrk ms o)
def rowD (G : Gr) (ms : List Nat) (u : Nat) : D := .tup (rowL G ms u)
def nxt (G : Gr) (ms : List Nat) : List Nat := numb ((List.range G.n).map fun u => (rowD G ms u).key)
def cnt (ms : List Nat) : Nat := (ddl (keysI ms)).length
/-- nodes that match -/
structure Mt (G : Gr) (R : Nat → Nat → Prop) : Prop where
  lt : ∀ u v, R u v → u < G.n ∧ v < G.n
  lk : ∀ u v, R u v → (G.nd u).kind = (G.nd v).kind ∧ (G.nd u).wd = (G.nd v).wd ∧ (G.nd u).ch.length = (G.nd v).ch.length ∧ (G.sc u).length = (G.sc v).length
  ch : ∀ u v, R u v → ∀ (i a b : Nat), (G.nd u).ch[i]? = some a → (G.nd v).ch[i]? = some b → R a b
  sc : ∀ u v, R u v → ∀ (i a b : Nat), (G.sc u)[i]? = some a → (G.sc v)[i]? = some b → R a b
structure ClIn where
  G : Gr
  S : GrS G
  scn : ∀ u, u < G.n → ∀ f ∈ G.sc u, f < G.n
  pos : 0 < G.n
/-- as coarse as can be -/
def Crs (G : Gr) (ms : List Nat) : Prop := ∀ R : Nat → Nat → Prop, Mt G R → ∀ u v, R u v → mrk ms u = mrk ms v
structure ClI (G : Gr) (ms : List Nat) (t : Nat) : Prop where
  ln : ms.length = G.n
  by_ : t = 0 ∨ ∃ old, old.length = G.n ∧ ms = nxt G old ∧ t = cnt old
  crs : Crs G ms
theorem setIs_cnt {l : List Int} {S : Int → Bool} {n : Nat} (h : SetIs l S n) : n = (ddl l).length := by
  obtain ⟨acc, nd, rfl, _, hm⟩ := h.ex
  have h1 := nodup_sub_le nd (m := ddl l) fun x hx => ddl_mem.mpr ((hm x).mp hx)
  have h2 := nodup_sub_le (ddl_nodup l) (m := acc) fun x hx => (hm x).mpr (ddl_mem.mp hx)
  omega
theorem nxt_len (G : Gr) (ms : List Nat) : (nxt G ms).length = G.n := by simp [nxt, numb_len]
/-- texts and ints only -/
def Flt (d : D) : Prop := (∃ z, d = .str z) ∨ ∃ i, d = .int i
theorem flt_all : ∀ {l : List D}, (∀ d ∈ l, Flt d) → D.pures l = true ∧ poks (D.pys l) = true ∧ NestedKey.depthAll (pkeys (D.pys l)) = 0
  | [], _ => ⟨rfl, rfl, rfl⟩
  | d :: l, h => by
    obtain ⟨h1, h2, h3⟩ := flt_all (l := l) fun x hx => h x (by simp [hx])
    rcases h d (by simp) with ⟨z, rfl⟩ | ⟨i, rfl⟩
    · exact ⟨by simp [D.pures, D.pure, h1], by simp [D.pys, poks, pok, D.py, h2], by simp [D.pys, pkeys, pkey, D.py, NestedKey.depthAll, NestedKey.depth, h3]⟩
    · exact ⟨by simp [D.pures, D.pure, h1], by simp [D.pys, poks, pok, D.py, h2], by simp [D.pys, pkeys, pkey, D.py, NestedKey.depthAll, NestedKey.depth, h3]⟩
theorem flt_key {l : List D} (h : ∀ d ∈ l, Flt d) : (D.tup l).keyOk = true := by
  obtain ⟨h1, h2, h3⟩ := flt_all h
  simp [D.keyOk, D.isTup, D.pure, h1, D.py, pok, h2, D.key, pkey, NestedKey.depth, h3]
theorem flt_inj : ∀ {l m : List D}, (∀ d ∈ l, Flt d) → (∀ d ∈ m, Flt d) → pkeys (D.pys l) = pkeys (D.pys m) → l = m
  | [], [], _, _, _ => rfl
  | [], _ :: _, _, _, e => by simp [D.pys, pkeys] at e
  | _ :: _, [], _, _, e => by simp [D.pys, pkeys] at e
  | a :: l, b :: m, hl, hm, e => by
    simp only [D.pys, pkeys, List.cons.injEq] at e
    have h1 := flt_inj (l := l) (m := m) (fun x hx => hl x (by simp [hx])) (fun x hx => hm x (by simp [hx])) e.2
    have h2 : a = b := by
      rcases hl a (by simp) with ⟨z, rfl⟩ | ⟨i, rfl⟩
      · rcases hm b (by simp) with ⟨y, rfl⟩ | ⟨j, rfl⟩
        · have := e.1
          simp only [D.py, pkey] at this
          cases this; rfl
        · have := e.1
          simp only [D.py, pkey] at this
          cases this
      · rcases hm b (by simp) with ⟨y, rfl⟩ | ⟨j, rfl⟩
        · have := e.1
          simp only [D.py, pkey] at this
          cases this
        · have := e.1
          simp only [D.py, pkey] at this
          cases this; rfl
    rw [h1, h2]
theorem rowL_flt (G : Gr) (ms : List Nat) (u : Nat) : ∀ d ∈ rowL G ms u, Flt d := fun d hd => by
  rcases List.mem_append.mp hd with h | h
  · simp only [List.mem_cons, List.not_mem_nil, or_false] at h
    rcases h with rfl | rfl | rfl | rfl | rfl
    · exact .inl ⟨_, rfl⟩
    · exact .inl ⟨_, rfl⟩
    · exact .inr ⟨_, rfl⟩
    · exact .inr ⟨_, rfl⟩
    · exact .inr ⟨_, rfl⟩
  · obtain ⟨o, _, rfl⟩ := List.mem_map.mp h
    exact .inr ⟨_, rfl⟩
theorem rowD_ok {G : Gr} {ms : List Nat} {u : Nat} : (rowD G ms u).keyOk = true := flt_key (rowL_flt G ms u)
theorem row_inj {G : Gr} {ms : List Nat} {u v : Nat} (h : (rowD G ms u).key = (rowD G ms v).key) : rowL G ms u = rowL G ms v := by
  refine flt_inj (rowL_flt G ms u) (rowL_flt G ms v) ?_
  simp only [rowD, D.key, D.py, pkey] at h
  exact NestedKey.tup.inj h
theorem nxt_eq {G : Gr} {ms : List Nat} {u v : Nat} (hu : u < G.n) (hv : v < G.n) : mrk (nxt G ms) u = mrk (nxt G ms) v ↔ rowL G ms u = rowL G ms v := by
  have e1 : ((List.range G.n).map fun u => (rowD G ms u).key)[u]? = some (rowD G ms u).key := by simp [hu]
  have e2 : ((List.range G.n).map fun u => (rowD G ms u).key)[v]? = some (rowD G ms v).key := by simp [hv]
  have h1 := numb_eq e1 e2
  have e3 : (nxt G ms)[u]? = some (mrk (nxt G ms) u) := mrk_at (by rw [nxt_len]; exact hu)
  have e4 : (nxt G ms)[v]? = some (mrk (nxt G ms) v) := mrk_at (by rw [nxt_len]; exact hv)
  unfold nxt at e3 e4
  rw [e3, e4] at h1
  constructor
  · intro e
    exact row_inj (h1.mp (congrArg some e))
  · intro e
    exact Option.some.inj (h1.mpr (by simp [rowD, e]))
theorem crs_nxt {G : Gr} {ms : List Nat} (h : Crs G ms) : Crs G (nxt G ms) := by
  intro R hR u v huv
  obtain ⟨hu, hv⟩ := hR.lt u v huv
  rw [nxt_eq hu hv]
  obtain ⟨l1, l2, l3, l4⟩ := hR.lk u v huv
  unfold rowL
  rw [l1, l2, l3, l4, h R hR u v huv, List.map_append, List.map_append]
  congr 1
  congr 1
  · refine List.ext_getElem? fun i => ?_
    rw [List.getElem?_map, List.getElem?_map]
    by_cases hi : i < (G.nd u).ch.length
    · have a1 := List.getElem?_eq_getElem hi
      have a2 := List.getElem?_eq_getElem (l := (G.nd v).ch) (i := i) (by omega)
      rw [a1, a2]
      exact congrArg (fun z : Nat => some (D.int z)) (h R hR _ _ (hR.ch u v huv i _ _ a1 a2))
    · rw [List.getElem?_eq_none (by omega), List.getElem?_eq_none (by omega)]
  · refine List.ext_getElem? fun i => ?_
    rw [List.getElem?_map, List.getElem?_map]
    by_cases hi : i < (G.sc u).length
    · have a1 := List.getElem?_eq_getElem hi
      have a2 := List.getElem?_eq_getElem (l := G.sc v) (i := i) (by omega)
      rw [a1, a2]
      exact congrArg (fun z : Nat => some (D.int z)) (h R hR _ _ (hR.sc u v huv i _ _ a1 a2))
    · rw [List.getElem?_eq_none (by omega), List.getElem?_eq_none (by omega)]
section
variable {P : Program} {w : World} {K : PySem.W.Frag} {mg : Str → Option Value} {base : Heap}
def ClPost (G : Gr) (ms : List Nat) : Prop := ms.length = G.n ∧ Crs G ms ∧ ∃ old, old.length = G.n ∧ ms = nxt G old ∧ cnt ms ≤ cnt old
theorem ok_classes_of (Γ : Pg K mg) : FnOk P w K mg base CX0 4 Γ.classes_of.f Γ.classes_of.fd P_classes_of (spD K (fun x : ClIn => [.tup (x.G.nodes.map Nd.d), .tup (x.G.scopes.map tnats)]) NoC (fun x d L => (∃ ms, d = tnats ms ∧ ClPost x.G ms) ∧ L = [])) := by
  refine fn_ok Γ.classes_of.F sc_classes_of (fun _ => rfl) (by decide) (fun cdv A outer s H E hr x => ?_)
  have nd := sc_classes_of.nd
  have few : x.G.n ≤ 100 := x.S.few
  have len0 : (x.G.nodes.map Nd.d).length = x.G.n := List.length_map ..
  refine bl_cons (st_asg (ev_tup (ag_cons (ev_mapT [("node", 2)] Nd.d (fun _ => .int 0) rfl nd rfl (js := [2]) (by decide) (itx_tup (ev_v 0 rfl ⟨_, rfl, x.G.nodes, rfl, szle (by have := x.S.few; omega), fun n _ => ⟨fun s H C cl fp => tg_v 2 nd ⟨rfl, fun s H C cl fp => ev_int ⟨rfl, rfl⟩⟩⟩, ag_cons (ev_int (ag_nil ⟨sz, tg_2 3 4 rfl nd ?_⟩))⟩))))))
  refine bl_cons (st_while (fun m Γ' L' => ∃ ms t o2 o5 o6 o7, Γ' = [some (.tup (x.G.nodes.map Nd.d)), some (.tup (x.G.scopes.map tnats)), o2, some (.lst (dnats ms)), some (.int (t : Nat)), o5, o6, o7, none] ∧ ClI x.G ms t ∧ t ≤ 100 ∧ m = 101 - t) _ ⟨List.replicate x.G.n 0, 0, none, none, none, none, ?_, ?_, by omega, rfl⟩ fun m Γ' L' hW => ?_)
  · have : (x.G.nodes.map fun _ => D.int 0) = dnats (List.replicate x.G.n 0) := by
      rw [List.map_const']
      simp [dnats, Gr.n]
    rw [this]
    rfl
  · refine ⟨by simp, .inl rfl, fun R hR u v huv => ?_⟩
    have h1 := hR.lt u v huv
    simp [mrk, List.getD, List.getElem?_replicate, h1.1, h1.2]
  obtain ⟨ms, t, o2, o5, o6, o7, rfl, I, ht, rfl⟩ := hW
  have ml := I.ln
  have kl : (keysI ms).length + 1 < scanBound := by
    unfold scanBound
    simp only [keysI, List.length_map]
    omega
  refine te_gone (te_cmp op_gt (ev_callB call_lenI Γ.b_len bt_len (ag_cons (ev_callTy (call_setI rfl) Γ.b_set bt_set (ag_cons (ev_v 3 rfl (ag_nil (oa_setI (by rw [keysI_d]) kl fun p S n hS => ag_nil (oa_lenI (k := L'.length) (S := S) (n := n) (by simp) (ev_v 4 rfl (o2_gt ⟨_, rfl, ?_⟩)))))))))))
  have hn := setIs_cnt hS
  by_cases hgt : t < cnt ms
  · refine iteT' (by rw [hn]; simpa [cnt] using hgt) ?_
    have cl : cnt ms ≤ 100 := by
      have := ddl_len (keysI ms)
      simp only [keysI, List.length_map] at this
      unfold cnt keysI
      omega
    refine bl_cons (st_par 4 5 rfl nd (by decide) (ag_cons (ev_callB call_lenI Γ.b_len bt_len (ag_cons (ev_callTy (call_setI rfl) Γ.b_set bt_set (ag_cons (ev_v 3 rfl (ag_nil (oa_setI (by rw [keysI_d]) kl fun p2 S2 n2 hS2 => ag_nil (oa_lenI (k := 0) rfl (ag_cons (ev_lst (ag_nil ⟨sz, fun r => ag_nil ⟨_, _, rfl, ?_⟩⟩)))))))))))))
    have hn2 : n2 = cnt ms := setIs_cnt hS2
    subst hn2
    have rl : ∀ u, u < x.G.n → (rowL x.G ms u).length ≤ 16 := fun u hu => by
      have h1 := x.S.chl hu
      have h2 := x.S.scl u
      simp only [rowL, List.length_append, List.length_map, List.length_cons, List.length_nil]
      omega
    refine bl_cons (st_for (js := [6, 2]) rfl (itx_enumT Γ.b_enumerate (ag_cons (ev_v 0 rfl (ag_nil ⟨_, rfl, fun i Γ' L' => ∃ o2 o6 o7, Γ' = [some (.tup (x.G.nodes.map Nd.d)), some (.tup (x.G.scopes.map tnats)), o2, some (.lst (dnats ms)), some (.int (cnt ms : Nat)), some (.ref r), o6, o7, none] ∧ L' = [(p2, siD w S2 (cnt ms)), (r, .lst ((List.range i).map (rowD x.G ms)))], ⟨o2, o6, o7, rfl, rfl⟩, ?_, ?_⟩)))))
    · rintro i d Γ' L' hd0 ⟨o2, o6, o7, rfl, rfl⟩
      have hi := lt_of_get hd0
      rw [enumD_length, len0] at hi
      rw [enumD_get (x.S.nd hi)] at hd0
      cases hd0
      have hch : ∀ c ∈ (x.G.nd i).ch, c < x.G.n := fun c hc => x.S.chn hi hc
      have mlt : ∀ {c}, c < x.G.n → (dnats ms)[c]? = some (.int (mrk ms c)) := fun {c} h => dnats_get (mrk_at (by rw [ml]; exact h))
      have h1 := x.S.chl hi
      have h2 := x.S.scl i
      refine tg_2 6 2 rfl nd (bl_cons (st_set 7 nd (ev_tup (ag_star (ev_children Γ (hr.mono (by decide)) (ev_v 2 rfl ⟨x.G.nd i, rfl, _, .inl rfl, ag_star (ev_ix ix_tup (ev_v 1 rfl (ev_v 6 rfl (o2_ixT (x.S.sc hi) ⟨_, .inl rfl, ag_nil ⟨?_, ?_⟩⟩))))⟩))))))
      · simp only [List.length_append, dnats_length, List.length_nil]
        exact szle (by omega)
      refine bl_cons (st_append (ev_v 5 rfl ⟨1, r, _, rfl, rfl, ev_tup (ag_star (ev_own (ok_look_of Γ) (hr.mono (by decide)) Γ.look_of.g Γ.look_of.F.kp (bi_look_of Γ) (ag_cons (ev_v 2 rfl (ag_nil ⟨x.G.nd i, rfl, _, .inl rfl, ag_cons (ev_callB call_len_seq Γ.b_len bt_len (ag_cons (ev_ix ix_tup (ev_v 1 rfl (ev_v 6 rfl (o2_ixT (x.S.sc hi) (ag_nil (oa_lenS (.inl rfl) (ag_cons (ev_ix ix_list (ev_v 3 rfl (ev_v 6 rfl (o2_ixL (mlt hi) (ag_star ?_))))))))))))))⟩)))))⟩))
      refine ev_mapT [("other", 8)] (fun o : Nat => .int o) (fun o => .int (mrk ms o)) rfl nd rfl (js := [8]) (by decide) (itx_tup (ev_v 7 rfl ⟨_, rfl, (x.G.nd i).ch ++ x.G.sc i, ?_, ?_, fun o ho => ⟨fun s H C cl fp => tg_v 8 nd ⟨rfl, fun s H C cl fp => ?_⟩⟩, _, .inr rfl, ag_nil ⟨?_, 1, _, rfl, ?_, bl_nil ⟨_, _, _, rfl, ?_⟩⟩⟩))
      · simp [dnats]
      · simp only [List.length_append]
        exact szle (by omega)
      · have hol : o < x.G.n := by
          rcases List.mem_append.mp ho with z | z
          · exact hch o z
          · exact x.scn i hi o z
        exact ev_ix ix_list (ev_v 3 rfl (ev_v 8 rfl (o2_ixL (mlt hol) ⟨rfl, rfl⟩)))
      · have := rl i hi
        simp only [rowL, List.length_append, List.length_map, List.length_cons, List.length_nil] at this ⊢
        exact szle (by omega)
      · rw [List.length_map, List.length_range]
        exact szlt (by omega)
      · simp [rowD, rowL, List.range_succ, dnats_length]
    · rintro Γ' L' ⟨o2, o6, o7, rfl, rfl⟩
      have hok : ∀ q ∈ (List.range x.G.n).map (rowD x.G ms), q.keyOk = true := fun q hq => by
        obtain ⟨u, hu, rfl⟩ := List.mem_map.mp hq
        exact rowD_ok
      refine bl_cons (st_set 3 nd (ev_own (ok_numbered Γ) (hr.mono (by decide)) Γ.numbered.g Γ.numbered.F.kp (bi_numbered Γ) (ag_cons (ev_fz (ev_v 5 rfl ⟨1, r, _, rfl, rfl, ag_nil ⟨⟨(List.range x.G.n).map (rowD x.G ms), hok, by simp; omega⟩, ?_, bl_nil ⟨101 - cnt ms, ?_, nxt x.G ms, cnt ms, o2, some (.ref r), o6, o7, ?_, ⟨nxt_len _ _, .inr ⟨ms, ml, rfl, rfl⟩, crs_nxt I.crs⟩, cl, rfl⟩⟩⟩)))))
      · rw [enumD_length, len0]
      · omega
      · have : numb (NbIn.keys ⟨(List.range x.G.n).map (rowD x.G ms), hok, by simp; omega⟩) = nxt x.G ms := by
          simp [NbIn.keys, nxt, List.map_map, Function.comp_def]
        rw [this]
        rfl
  · refine iteF' (by rw [hn]; simpa [cnt] using hgt) ?_
    refine bl_cons (st_ret (ev_callTy call_tuple_of Γ.b_tuple bt_tuple (ag_cons (ev_v 3 rfl (ag_nil (oa_tuple (.inr rfl) ⟨⟨ms, rfl, ml, I.crs, ?_⟩, rfl⟩))))))
    rcases I.by_ with h | ⟨old, h1, h2, h3⟩
    · exfalso
      have : (0 : Nat) < cnt ms := by
        unfold cnt
        refine List.length_pos_of_mem (a := ((mrk ms 0 : Nat) : Int)) (ddl_mem.mpr (mem_keysI.mpr (List.mem_of_getElem? (mrk_at (by rw [ml]; exact x.pos)))))
      omega
    · exact ⟨old, h1, h2, by omega⟩
end
end K50
/-! M5: classes: plain facts. -/
namespace K50
open List
theorem ddl_full {α : Type} [DecidableEq α] (l : List α) : (ddl l).length = l.length → l.Nodup := by
  refine snoc_ind (P := fun l => (ddl l).length = l.length → l.Nodup) (fun _ => by simp) (fun l a ih h => ?_) l
  rw [ddl_snoc] at h
  have h1 := ddl_len l
  by_cases hm : a ∈ ddl l
  · rw [if_pos hm] at h
    simp at h
    omega
  · rw [if_neg hm] at h
    exact nodup_snoc (ih (by simpa using h)) fun z => hm (ddl_mem.mpr z)
theorem nodup_cover {α : Type} [DecidableEq α] {l m : List α} (nm : m.Nodup) (h : ∀ x ∈ m, x ∈ l) (hl : l.length ≤ m.length) : l.Nodup := by
  have h1 := DL.nodup_sub_le nm (m := ddl l) fun x hx => ddl_mem.mpr (h x hx)
  have h2 := ddl_len l
  exact ddl_full l (by omega)
theorem cnt_eq (ms : List Nat) : cnt ms = (ddl ms).length := by
  have h1 := DL.nodup_sub_le (ddl_nodup (keysI ms)) (m := keysI (ddl ms)) fun x hx => by
    have := ddl_mem.mp hx
    obtain ⟨n, hn, rfl⟩ := List.mem_map.mp this
    exact mem_keysI.mpr (ddl_mem.mpr hn)
  have h2 := DL.nodup_sub_le (keys_nodup (ddl_nodup ms)) (m := ddl (keysI ms)) fun x hx => by
    obtain ⟨n, hn, rfl⟩ := List.mem_map.mp hx
    exact ddl_mem.mpr (mem_keysI.mpr (ddl_mem.mp hn))
  simp only [keysI, List.length_map] at h1 h2
  unfold cnt keysI
  omega
/-- a refinement with no more classes is the same -/
theorem same_part_of {ms os : List Nat} (hl : os.length = ms.length) (href : ∀ u v, u < ms.length → v < ms.length → mrk ms u = mrk ms v → mrk os u = mrk os v) (hc : cnt ms ≤ cnt os) {u v : Nat} (hu : u < ms.length) (hv : v < ms.length) (e : mrk os u = mrk os v) : mrk ms u = mrk ms v := by
  rw [cnt_eq, cnt_eq] at hc
  have hhd : ∀ u, u < ms.length → mrk os (hd ms (mrk ms u)) = mrk os u := fun u hu => by
    have h1 := hd_at (List.mem_of_getElem? (mrk_at hu))
    have hlt := (List.getElem?_eq_some_iff.mp h1.2).1
    have h2 := mrk_at hlt
    rw [h2] at h1
    exact href _ _ hlt hu (Option.some.inj h1.2)
  have hnd : ((ddl ms).map fun m => mrk os (hd ms m)).Nodup := by
    refine nodup_cover (ddl_nodup os) (fun x hx => ?_) (by rw [List.length_map]; exact hc)
    obtain ⟨i, hi⟩ := List.mem_iff_getElem?.mp (ddl_mem.mp hx)
    have hlt := (List.getElem?_eq_some_iff.mp hi).1
    rw [hl] at hlt
    have h3 := mrk_at (ms := os) (u := i) (by omega)
    rw [h3] at hi
    refine List.mem_map.mpr ⟨mrk ms i, ddl_mem.mpr (List.mem_of_getElem? (mrk_at hlt)), ?_⟩
    rw [hhd i hlt]
    exact Option.some.inj hi
  refine nodup_inj (fun m => mrk os (hd ms m)) hnd _ (ddl_mem.mpr (List.mem_of_getElem? (mrk_at hu))) _ (ddl_mem.mpr (List.mem_of_getElem? (mrk_at hv))) ?_
  show mrk os (hd ms (mrk ms u)) = mrk os (hd ms (mrk ms v))
  rw [hhd u hu, hhd v hv, e]
/-- equal rows -/
theorem row_parts {G : Gr} {ms : List Nat} {u v : Nat} (h : rowL G ms u = rowL G ms v) :
    (G.nd u).kind = (G.nd v).kind ∧ (G.nd u).wd = (G.nd v).wd ∧ (G.nd u).ch.length = (G.nd v).ch.length ∧ (G.sc u).length = (G.sc v).length ∧ mrk ms u = mrk ms v ∧ (G.nd u).ch.map (mrk ms) = (G.nd v).ch.map (mrk ms) ∧ (G.sc u).map (mrk ms) = (G.sc v).map (mrk ms) := by
  simp only [rowL, List.cons_append, List.nil_append, List.cons.injEq, DL.D.str.injEq, DL.D.int.injEq, Int.ofNat_inj] at h
  obtain ⟨h1, h2, h3, h4, h5, h6⟩ := h
  have h7 : ((G.nd u).ch ++ G.sc u).map (mrk ms) = ((G.nd v).ch ++ G.sc v).map (mrk ms) := by
    have inj : ∀ {l m : List Nat}, (l.map fun o => DL.D.int (mrk ms o : Nat)) = (m.map fun o => DL.D.int (mrk ms o : Nat)) → l.map (mrk ms) = m.map (mrk ms) := by
      intro l
      induction l with
      | nil => intro m e; cases m <;> first | rfl | cases e
      | cons a l ih =>
        intro m e
        cases m with
        | nil => cases e
        | cons b m =>
          simp only [List.map_cons, List.cons.injEq, DL.D.int.injEq, Int.ofNat_inj] at e ⊢
          exact ⟨e.1, ih e.2⟩
    exact inj h6
  rw [List.map_append, List.map_append] at h7
  have h8 := List.append_inj h7 (by simp [h3])
  exact ⟨h1, h2, h3, h4, h5, h8.1, h8.2⟩
/-- what is known of the classes -/
structure Clz (G : Gr) (ms : List Nat) : Prop where
  ln : ms.length = G.n
  crs : Crs G ms
  row : ∀ u v, u < G.n → v < G.n → mrk ms u = mrk ms v → rowL G ms u = rowL G ms v
  num : ∃ l : List PySem.NestedKey, ms = numb l
theorem cls_of {G : Gr} {ms : List Nat} (S : GrS G) (scn : ∀ u, u < G.n → ∀ f ∈ G.sc u, f < G.n) (h : ClPost G ms) : Clz G ms := by
  obtain ⟨ln, crs, os, lo, rfl, hc⟩ := h
  refine ⟨ln, crs, fun u v hu hv e => ?_, _, rfl⟩
  have back : ∀ {u v}, u < G.n → v < G.n → mrk os u = mrk os v → mrk (nxt G os) u = mrk (nxt G os) v := fun {u v} hu hv e =>
    same_part_of (ms := nxt G os) (os := os) (by rw [lo, ln]) (fun u v hu hv e => (row_parts ((nxt_eq (by rw [← ln]; exact hu) (by rw [← ln]; exact hv)).mp e)).2.2.2.2.1) hc (by rw [ln]; exact hu) (by rw [ln]; exact hv) e
  obtain ⟨h1, h2, h3, h4, h5, h6, h7⟩ := row_parts ((nxt_eq hu hv).mp e)
  have lift : ∀ {l m : List Nat}, (∀ x ∈ l, x < G.n) → (∀ x ∈ m, x < G.n) → l.map (mrk os) = m.map (mrk os) → l.map (mrk (nxt G os)) = m.map (mrk (nxt G os)) := by
    intro l
    induction l with
    | nil => intro m _ _ e; cases m <;> first | rfl | cases e
    | cons a l ih =>
      intro m ha hb e
      cases m with
      | nil => cases e
      | cons b m =>
        simp only [List.map_cons, List.cons.injEq] at e ⊢
        exact ⟨back (ha a (by simp)) (hb b (by simp)) e.1, ih (fun x hx => ha x (by simp [hx])) (fun x hx => hb x (by simp [hx])) e.2⟩
  have e1 := lift (fun x hx => S.chn hu hx) (fun x hx => S.chn hv hx) h6
  have e2 := lift (scn u hu) (scn v hv) h7
  have e3 : ((G.nd u).ch ++ G.sc u).map (mrk (nxt G os)) = ((G.nd v).ch ++ G.sc v).map (mrk (nxt G os)) := by rw [List.map_append, List.map_append, e1, e2]
  have e4 := congrArg (List.map fun m : Nat => DL.D.int m) e3
  rw [List.map_map, List.map_map] at e4
  unfold rowL
  rw [h1, h2, h3, h4, e]
  congr 1
end K50
/-! M6: the quotient. -/
namespace K50
open List
theorem numb_snoc {α : Type} [DecidableEq α] (l : List α) (a : α) : numb (l ++ [a]) = numb l ++ [if a ∈ ddl l then (ddl l).idxOf a else (ddl l).length] := by
  unfold numb
  rw [List.map_append, List.map_singleton, ddl_snoc]
  by_cases h : a ∈ ddl l
  · rw [if_pos h, if_pos h]
  · rw [if_neg h, if_neg h]
    congr 1
    · refine List.map_congr_left fun x hx => ?_
      rw [List.idxOf_append, if_pos (ddl_mem.mpr hx)]
    · rw [List.idxOf_append, if_neg h]
      simp
theorem ddl_numb {α : Type} [DecidableEq α] (l : List α) : ddl (numb l) = List.range (ddl l).length := by
  refine snoc_ind (P := fun l => ddl (numb l) = List.range (ddl l).length) (by simp [ddl, numb]) (fun l a ih => ?_) l
  rw [numb_snoc, ddl_snoc, ih, ddl_snoc]
  by_cases h : a ∈ ddl l
  · have h1 := List.idxOf_lt_length_of_mem h
    rw [if_pos h, if_pos h, if_pos (List.mem_range.mpr h1)]
  · rw [if_neg h, if_neg h, if_neg (fun z => Nat.lt_irrefl _ (List.mem_range.mp z)), List.length_append, List.length_singleton, List.range_succ]
theorem ddl_head {α : Type} [DecidableEq α] (a : α) (l : List α) : (ddl (a :: l))[0]? = some a := by
  have key : ∀ (l acc : List α) (b : α), acc[0]? = some b → (l.foldl (fun acc k => if k ∈ acc then acc else acc ++ [k]) acc)[0]? = some b := by
    intro l
    induction l with
    | nil => intro acc b h; exact h
    | cons c l ih =>
      intro acc b h
      refine ih _ b ?_
      show (if c ∈ acc then acc else acc ++ [c])[0]? = some b
      split
      · exact h
      · rw [List.getElem?_append_left (List.getElem?_eq_some_iff.mp h).1]; exact h
  exact key l _ a (by simp)
theorem numb_zero {α : Type} [DecidableEq α] (l : List α) : mrk (numb l) 0 = 0 := by
  cases l with
  | nil => rfl
  | cons a l =>
    have h := ddl_head a l
    have : (numb (a :: l))[0]? = some ((ddl (a :: l)).idxOf a) := numb_at (by simp)
    have h2 : (ddl (a :: l)).idxOf a = 0 := by
      have hl := (List.getElem?_eq_some_iff.mp h).1
      have e := (List.getElem?_eq_some_iff.mp h).2
      have := idx_get (ddl_nodup (a :: l)) hl
      rw [e] at this
      exact this
    rw [h2] at this
    simp [mrk, List.getD, this]
section
variable {G : Gr} {ms : List Nat}
theorem Clz.at_ (c : Clz G ms) {u : Nat} (hu : u < G.n) : (ddl ms)[mrk ms u]? = some (mrk ms u) := by
  obtain ⟨l, rfl⟩ := c.num
  have h1 : mrk (numb l) u ∈ ddl (numb l) := ddl_mem.mpr (List.mem_of_getElem? (mrk_at (by rw [c.ln]; exact hu)))
  rw [ddl_numb] at h1 ⊢
  exact List.getElem?_range (List.mem_range.mp h1)
theorem Clz.hd (c : Clz G ms) {u : Nat} (hu : u < G.n) : K50.hd ms (mrk ms u) < G.n ∧ mrk ms (K50.hd ms (mrk ms u)) = mrk ms u := by
  have h1 := hd_at (List.mem_of_getElem? (mrk_at (ms := ms) (u := u) (by rw [c.ln]; exact hu)))
  have hlt := (List.getElem?_eq_some_iff.mp h1.2).1
  have h2 := mrk_at hlt
  rw [h2] at h1
  exact ⟨by rw [← c.ln]; exact hlt, Option.some.inj h1.2⟩
/-- equal marks: the same node but for marks -/
theorem Clz.same (c : Clz G ms) (g : GrP G) {u v : Nat} (hu : u < G.n) (hv : v < G.n) (e : mrk ms u = mrk ms v) : (G.nd u).rn (mrk ms) = (G.nd v).rn (mrk ms) := by
  obtain ⟨h1, h2, h3, h4, h5, h6, h7⟩ := row_parts (c.row u v hu hv e)
  have kv : (Nd.var 0).kind ≠ (Nd.fn 0).kind := (show ("var" : PySem.Str) ≠ "fun" by decide +kernel)
  have kw : (Nd.var 0).kind ≠ (Nd.word "" []).kind := (show ("var" : PySem.Str) ≠ "word" by decide +kernel)
  have kf : (Nd.fn 0).kind ≠ (Nd.word "" []).kind := (show ("fun" : PySem.Str) ≠ "word" by decide +kernel)
  have vu := g.ws.vt u
  have vv := g.ws.vt v
  cases eu : G.nd u with
  | word x cs =>
    rw [eu] at h1 h2 h6
    cases ev : G.nd v with
    | word y ds =>
      rw [ev] at h2 h6
      simp only [Nd.wd, Nd.ch] at h2 h6
      simp [Nd.rn, h2, h6]
    | fn _ => rw [ev] at h1; exact absurd h1.symm kf
    | var _ => rw [ev] at h1; exact absurd h1.symm kw
  | fn x =>
    rw [eu] at h1 h6
    cases ev : G.nd v with
    | word _ _ => rw [ev] at h1; exact absurd h1 kf
    | fn y =>
      rw [ev] at h6
      exact congrArg Nd.fn (List.cons.inj h6).1
    | var _ => rw [ev] at h1; exact absurd h1.symm kv
  | var x =>
    rw [eu] at h1
    cases ev : G.nd v with
    | word _ _ => rw [ev] at h1; exact absurd h1 kw
    | fn _ => rw [ev] at h1; exact absurd h1 kv
    | var y =>
      have e1 := vu x (g.all u hu) eu
      have e2 := vv y (g.all v hv) ev
      rw [e1, e2, List.map_append, List.map_append] at h7
      have := List.append_inj' h7 rfl
      exact congrArg Nd.var (List.cons.inj this.2).1
theorem Clz.hom (c : Clz G ms) (g : GrP G) : Hom G.nodes 0 (mrg G.nodes ms) 0 (mrk ms) := by
  refine ⟨?_, fun u hu => ?_⟩
  · obtain ⟨l, e⟩ := c.num
    rw [e]; exact numb_zero l
  · have hu' := g.lt hu
    have h1 := c.at_ hu'
    obtain ⟨h2, h3⟩ := c.hd hu'
    have : nat (mrg G.nodes ms) (mrk ms u) = (nat G.nodes (K50.hd ms (mrk ms u))).rn (mrk ms) := by
      unfold nat mrg
      rw [List.getD_eq_getElem?_getD, List.getElem?_map, h1]
      rfl
    rw [this]
    exact c.same g h2 hu' h3
theorem Clz.sc (c : Clz G ms) {u v : Nat} (hu : u < G.n) (hv : v < G.n) (e : mrk ms u = mrk ms v) : (G.sc u).map (mrk ms) = (G.sc v).map (mrk ms) := (row_parts (c.row u v hu hv e)).2.2.2.2.2.2
theorem Clz.homS (c : Clz G ms) (g : GrP G) : HomS G.nodes 0 G.sc (mrg G.nodes ms) 0 (fun m => (G.sc (K50.hd ms m)).map (mrk ms)) (mrk ms) := by
  refine ⟨c.hom g, fun u hu => ?_⟩
  have hu' := g.lt hu
  obtain ⟨h2, h3⟩ := c.hd hu'
  exact c.sc h2 hu' h3
end
end K50
/-! M7: same parts: put one behind the other, turned round. -/
namespace K50
open List
/-- where a way leads (its last step stands ahead) -/
def go (G : Gr) (s : Spot) : List Nat → Option Spot
  | [] => some s
  | i :: p => (go G s p).bind fun t => (G.below t)[i]?
def AllLk (G H : Gr) (s t : Spot) : Prop := ∀ q, Met G H (s, t) q → lkEq G H q
section
variable {G H K : Gr} {s t r : Spot}
theorem below_len (G : Gr) (s : Spot) : (G.below s).length = (G.nd s.1).ch.length := by simp [Gr.below]
theorem lk_len {q : SP} (h : lkEq G H q) : (G.below q.1).length = (H.below q.2).length := by
  rw [below_len, below_len]
  have h : G.lk q.1 = H.lk q.2 := h
  simp only [Gr.lk, Prod.mk.injEq] at h
  exact h.2.2.1
theorem open_eq {a b : Spot} (h : lkEq G H (a, b)) : G.openAt a = H.openAt b := by
  have h : G.lk a = H.lk b := h
  simp only [Gr.lk, Prod.mk.injEq] at h
  exact h.2.2.2.1
theorem met_way {q : SP} (h : Met G H (s, t) q) : ∃ p, go G s p = some q.1 ∧ go H t p = some q.2 := by
  induction h with
  | start => exact ⟨[], rfl, rfl⟩
  | step _ _ hm ih =>
    obtain ⟨p, h1, h2⟩ := ih
    obtain ⟨i, hi⟩ := List.mem_iff_getElem?.mp hm
    unfold nextP at hi
    rw [List.getElem?_zip_eq_some] at hi
    exact ⟨i :: p, by simp [go, h1, hi.1], by simp [go, h2, hi.2]⟩
theorem way_met (A : AllLk G H s t) : ∀ {p : List Nat} {a : Spot}, go G s p = some a → ∃ b, go H t p = some b ∧ Met G H (s, t) (a, b)
  | [], a, h => by
    cases h
    exact ⟨t, rfl, .start⟩
  | i :: p, a, h => by
    simp only [go, Option.bind_eq_some_iff] at h
    obtain ⟨a0, h0, h1⟩ := h
    obtain ⟨b0, h2, m⟩ := way_met A h0
    have l := A _ m
    have hi := (List.getElem?_eq_some_iff.mp h1).1
    have hi2 : i < (H.below b0).length := by rw [← lk_len l]; exact hi
    have h3 := List.getElem?_eq_getElem hi2
    refine ⟨(H.below b0)[i], by simp [go, h2, h3], .step m l ?_⟩
    refine List.mem_of_getElem? (i := i) ?_
    unfold nextP
    rw [List.getElem?_zip_eq_some]
    exact ⟨h1, h3⟩
theorem AllLk.sym (A : AllLk G H s t) {q : SP} (h : Met H G (t, s) q) : Met G H (s, t) (q.2, q.1) := by
  obtain ⟨p, h1, h2⟩ := met_way h
  obtain ⟨b, h3, m⟩ := way_met A h2
  rw [h1] at h3
  cases h3
  exact m
theorem AllLk.symm (A : AllLk G H s t) : AllLk H G t s := fun q h => (show G.lk q.2 = H.lk q.1 from A _ (A.sym h)).symm
theorem AllLk.mid (A : AllLk G H s t) (B : AllLk H K t r) {q : SP} (h : Met G K (s, r) q) : ∃ b, Met G H (s, t) (q.1, b) ∧ Met H K (t, r) (b, q.2) := by
  obtain ⟨p, h1, h2⟩ := met_way h
  obtain ⟨b, h3, m⟩ := way_met A h1
  obtain ⟨c, h4, m2⟩ := way_met B h3
  rw [h2] at h4
  cases h4
  exact ⟨b, m, m2⟩
theorem AllLk.trans (A : AllLk G H s t) (B : AllLk H K t r) : AllLk G K s r := fun q h => by
  obtain ⟨b, m1, m2⟩ := A.mid B h
  exact (show G.lk q.1 = H.lk b from A _ m1).trans (B _ m2)
end
section
variable {G H K : Gr} {u v x : Nat}
theorem SPg.all (S : SPg G H u v) : AllLk G H (G.spotOf u) (H.spotOf v) := S.lk
theorem SPg.opS (S : SPg G H u v) {q : Nat × Nat} (h : OpMg H G v u q) : OpMg G H u v (q.2, q.1) := by
  obtain ⟨p, m, o, rfl⟩ := h
  have m2 := S.all.sym m
  exact ⟨_, m2, (open_eq (S.all _ m2)).trans o, rfl⟩
theorem SPg.symm (S : SPg G H u v) : SPg H G v u := ⟨S.all.symm, fun q r hq hr => (S.one _ _ (S.opS hq) (S.opS hr)).symm⟩
theorem SPg.mid (S : SPg G H u v) (T : SPg H K v x) {q : Nat × Nat} (h : OpMg G K u x q) : ∃ b, OpMg G H u v (q.1, b) ∧ OpMg H K v x (b, q.2) := by
  obtain ⟨p, m, o, rfl⟩ := h
  obtain ⟨b, m1, m2⟩ := S.all.mid T.all m
  exact ⟨H.tg b.1, ⟨_, m1, o, rfl⟩, ⟨_, m2, (open_eq (S.all _ m1)).symm.trans o, rfl⟩⟩
theorem SPg.put (S : SPg G H u v) (T : SPg H K v x) {a b c : Nat} (h1 : OpMg G H u v (a, b)) (h2 : OpMg H K v x (b, c)) : OpMg G K u x (a, c) := by
  obtain ⟨p, m, o, e⟩ := h1
  obtain ⟨w, hw, _⟩ := met_way m
  obtain ⟨d, hd, m2⟩ := way_met (S.all.trans T.all) hw
  obtain ⟨y, m3, m4⟩ := S.all.mid T.all m2
  have hy : OpMg G H u v (a, H.tg y.1) := ⟨_, m3, o, by rw [show a = (opPr G H p).1 from congrArg Prod.fst e]; rfl⟩
  have ey : H.tg y.1 = b := (S.one _ _ hy ⟨p, m, o, e⟩).mp rfl
  have hz : OpMg H K v x (H.tg y.1, K.tg d.1) := ⟨_, m4, (open_eq (S.all _ m3)).symm.trans o, rfl⟩
  rw [ey] at hz
  have ez : K.tg d.1 = c := (T.one _ _ hz h2).mp rfl
  exact ⟨(p.1, d), m2, o, by rw [← ez, show a = (opPr G H p).1 from congrArg Prod.fst e]; rfl⟩
theorem SPg.trans (S : SPg G H u v) (T : SPg H K v x) : SPg G K u x := by
  refine ⟨S.all.trans T.all, fun q r hq hr => ?_⟩
  obtain ⟨b, h1, h2⟩ := S.mid T hq
  obtain ⟨c, h3, h4⟩ := S.mid T hr
  exact (S.one _ _ h1 h3).trans (T.one _ _ h2 h4)
end
end K50
/-! M8: matching nodes have the same part. -/
namespace K50
open List
structure MtX (G H : Gr) (R : Nat → Nat → Prop) : Prop where
  lt : ∀ u v, R u v → u < G.n ∧ v < H.n
  lk : ∀ u v, R u v → (G.nd u).kind = (H.nd v).kind ∧ (G.nd u).wd = (H.nd v).wd ∧ (G.nd u).ch.length = (H.nd v).ch.length ∧ (G.sc u).length = (H.sc v).length
  ch : ∀ u v, R u v → ∀ (i a b : Nat), (G.nd u).ch[i]? = some a → (H.nd v).ch[i]? = some b → R a b
theorem var_kind (n : Nd) : n.isVar = decide (n.kind = ("var" : PySem.Str)) := (kind_var n).symm
structure MtI (G H : Gr) (R : Nat → Nat → Prop) (u v : Nat) (q : SP) : Prop where
  r : R q.1.1 q.2.1
  h : q.1.2 = q.2.2
  hl : q.1.2 ≤ (G.sc q.1.1).length
  p1 : (G.sc q.1.1).take q.1.2 = (G.sc u).take q.1.2
  p2 : (H.sc q.2.1).take q.1.2 = (H.sc v).take q.1.2
theorem take_pre {l m n : List Nat} {k : Nat} (h : l <+: m ++ n) (k1 : k ≤ l.length) (k2 : k ≤ m.length) : l.take k = m.take k := by
  obtain ⟨t, e⟩ := h
  have h1 : (l ++ t).take k = l.take k := List.take_append_of_le_length k1
  have h2 : (m ++ n).take k = m.take k := List.take_append_of_le_length k2
  rw [← h1, e, h2]
section
variable {G H : Gr} {R : Nat → Nat → Prop} {u v : Nat}
theorem MtX.inv (M : MtX G H R) (g : GrP G) (k : GrP H) (r : R u v) {q : SP} (h : Met G H (G.spotOf u, H.spotOf v) q) : MtI G H R u v q := by
  induction h with
  | start =>
    refine ⟨r, (M.lk u v r).2.2.2, Nat.le_refl _, rfl, ?_⟩
    rfl
  | @step p q _ _ hm ih =>
    obtain ⟨⟨a, h⟩, ⟨b, h'⟩⟩ := p
    obtain ⟨r1, e1, l1, p1, p2⟩ := ih
    simp only at r1 e1 l1 p1 p2
    subst e1
    obtain ⟨i, hi⟩ := List.mem_iff_getElem?.mp hm
    unfold nextP at hi
    rw [List.getElem?_zip_eq_some] at hi
    obtain ⟨h1, h2⟩ := hi
    simp only [Gr.below, List.getElem?_map, Option.map_eq_some_iff] at h1 h2
    obtain ⟨c, hc, e1⟩ := h1
    obtain ⟨d, hd, e2⟩ := h2
    have hr := M.ch a b r1 i c d hc hd
    have hl := (M.lk c d hr).2.2.2
    have la := (M.lk a b r1).2.2.2
    obtain ⟨⟨q1, q2⟩, ⟨q3, q4⟩⟩ := q
    simp only [Prod.mk.injEq] at e1 e2
    obtain ⟨rfl, rfl⟩ := e1
    obtain ⟨rfl, rfl⟩ := e2
    have ha := g.all a (M.lt a b r1).1
    have hb := k.all b (M.lt a b r1).2
    have t1 := take_pre (g.ws.ch a ha c (List.mem_of_getElem? hc)) (k := min h (G.sc c).length) (Nat.min_le_right _ _) (Nat.le_trans (Nat.min_le_left _ _) l1)
    have t2 := take_pre (k.ws.ch b hb d (List.mem_of_getElem? hd)) (k := min h (G.sc c).length) (by rw [hl]; exact Nat.min_le_right _ _) (by rw [← la]; exact Nat.le_trans (Nat.min_le_left _ _) l1)
    have cut : ∀ {x y : List Nat}, x.take h = y.take h → x.take (min h (G.sc c).length) = y.take (min h (G.sc c).length) := fun {x y} e => by
      have := congrArg (List.take (min h (G.sc c).length)) e
      rwa [List.take_take, List.take_take, Nat.min_eq_left (Nat.min_le_left _ _)] at this
    refine ⟨hr, by show min h _ = min h _; rw [hl], Nat.min_le_right _ _, ?_, ?_⟩
    · show (G.sc c).take _ = _
      rw [t1]; exact cut p1
    · show (H.sc d).take _ = _
      rw [t2]; exact cut p2
theorem GrP.tg_sc (g : GrP G) {a : Nat} (ha : a < G.n) (hv : (G.nd a).isVar = true) : (G.sc a)[(G.sc a).length - 1]? = some (G.tg a) ∧ 0 < (G.sc a).length := by
  have e := isVar_of hv
  have h := g.ws.vt a _ (g.all a ha) e
  have et : G.tg a = (G.nd a).ow := by unfold Gr.tg; rw [e]; rfl
  rw [h, et]
  simp
theorem MtX.op (M : MtX G H R) (g : GrP G) (k : GrP H) (r : R u v) {q : Nat × Nat} (h : OpMg G H u v q) : ∃ i : Nat, (G.sc u)[i]? = some q.1 ∧ (H.sc v)[i]? = some q.2 := by
  obtain ⟨⟨⟨a, h⟩, ⟨b, h'⟩⟩, m, o, rfl⟩ := h
  obtain ⟨r1, e1, l1, p1, p2⟩ := M.inv g k r m
  simp only at r1 e1 l1 p1 p2
  subst e1
  simp only [Gr.openAt, Bool.and_eq_true, decide_eq_true_eq] at o
  have kk := M.lk a b r1
  have hv : (H.nd b).isVar = true := by rw [var_kind, ← kk.1, ← var_kind]; exact o.1
  obtain ⟨t1, z1⟩ := g.tg_sc (M.lt a b r1).1 o.1
  obtain ⟨t2, z2⟩ := k.tg_sc (M.lt a b r1).2 hv
  rw [← kk.2.2.2, ← o.2] at t2
  rw [← o.2] at t1 z1
  have s1 := congrArg (fun l : List Nat => l[h - 1]?) p1
  have s2 := congrArg (fun l : List Nat => l[h - 1]?) p2
  simp only [List.getElem?_take] at s1 s2
  rw [if_pos (by omega), if_pos (by omega)] at s1 s2
  exact ⟨h - 1, by rw [← s1]; exact t1, by rw [← s2]; exact t2⟩
theorem MtX.spg (M : MtX G H R) (g : GrP G) (k : GrP H) (r : R u v) : SPg G H u v := by
  refine ⟨fun q hq => ?_, fun q q2 h1 h2 => ?_⟩
  · obtain ⟨r1, e1, l1, p1, p2⟩ := M.inv g k r hq
    obtain ⟨⟨a, h⟩, ⟨b, h'⟩⟩ := q
    simp only at r1 e1 l1
    subst e1
    obtain ⟨k1, k2, k3, k4⟩ := M.lk a b r1
    show G.lk _ = H.lk _
    simp only [Gr.lk, k1, k2, k3, k4, Gr.openAt, var_kind]
  · obtain ⟨i, a1, b1⟩ := M.op g k r h1
    obtain ⟨j, a2, b2⟩ := M.op g k r h2
    have ij : ∀ {l : List Nat} {x y : Nat}, l.Nodup → l[i]? = some x → l[j]? = some y → (x = y ↔ i = j) := fun {l x y} nd ha hb => by
      constructor
      · rintro rfl
        exact (List.getElem?_inj (List.getElem?_eq_some_iff.mp ha).1 nd).mp (ha.trans hb.symm)
      · rintro rfl
        rw [ha] at hb
        exact Option.some.inj hb
    rw [ij (g.ws.nodup (g.all u (M.lt u v r).1)) a1 a2, ij (k.ws.nodup (k.all v (M.lt u v r).2)) b1 b2]
end
end K50
/-! M9: open targets lie in the scope; they are few. -/
namespace K50
open List
theorem way_inv {G : Gr} (g : GrP G) {u : Nat} (hu : u < G.n) : ∀ {p : List Nat} {a h : Nat}, go G (G.spotOf u) p = some (a, h) → a < G.n ∧ h ≤ (G.sc a).length ∧ (G.sc a).take h = (G.sc u).take h
  | [], a, h, e => by
    have e := Option.some.inj e
    simp only [Gr.spotOf, Prod.mk.injEq] at e
    obtain ⟨rfl, rfl⟩ := e
    exact ⟨hu, Nat.le_refl _, rfl⟩
  | i :: p, c, h, e => by
    simp only [go, Option.bind_eq_some_iff] at e
    obtain ⟨⟨a, k⟩, e1, e2⟩ := e
    obtain ⟨la, lk, pk⟩ := way_inv g hu e1
    simp only [Gr.below, List.getElem?_map, Option.map_eq_some_iff, Prod.mk.injEq] at e2
    obtain ⟨d, hd, rfl, rfl⟩ := e2
    have hc := List.mem_of_getElem? hd
    refine ⟨g.S.chn la hc, Nat.min_le_right _ _, ?_⟩
    rw [take_pre (g.ws.ch a (g.all a la) d hc) (k := min k (G.sc d).length) (Nat.min_le_right _ _) (Nat.le_trans (Nat.min_le_left _ _) lk)]
    have := congrArg (List.take (min k (G.sc d).length)) pk
    rwa [List.take_take, List.take_take, Nat.min_eq_left (Nat.min_le_left _ _)] at this
theorem way_open {G : Gr} (g : GrP G) {u : Nat} (hu : u < G.n) {p : List Nat} {s : Spot} (e : go G (G.spotOf u) p = some s) (o : G.openAt s = true) : G.tg s.1 ∈ G.sc u := by
  obtain ⟨a, h⟩ := s
  obtain ⟨la, lh, ph⟩ := way_inv g hu e
  simp only [Gr.openAt, Bool.and_eq_true, decide_eq_true_eq] at o
  obtain ⟨t1, z1⟩ := g.tg_sc la o.1
  have s1 := congrArg (fun l : List Nat => l[h - 1]?) ph
  simp only [List.getElem?_take] at s1
  rw [← o.2] at t1 z1
  rw [if_pos (by omega), if_pos (by omega), t1] at s1
  exact List.mem_of_getElem? s1.symm
theorem op_in {G H : Gr} (g : GrP G) (k : GrP H) {u v : Nat} (hu : u < G.n) (hv : v < H.n) (A : AllLk G H (G.spotOf u) (H.spotOf v)) {q : Nat × Nat} (h : OpMg G H u v q) : q.1 ∈ G.sc u ∧ q.2 ∈ H.sc v := by
  obtain ⟨⟨s, t⟩, m, o, rfl⟩ := h
  obtain ⟨p, h1, h2⟩ := met_way m
  exact ⟨way_open g hu h1 o, way_open k hv h2 ((open_eq (A _ m)).symm.trans o)⟩
theorem prod_len (l m : List Nat) : (l.flatMap fun a => m.map fun b => (a, b)).length = l.length * m.length := by
  induction l with
  | nil => simp
  | cons a l ih =>
    rw [List.flatMap_cons, List.length_append, ih, List.length_map, List.length_cons, Nat.succ_mul]
    omega
theorem grf {G H : Gr} (g : GrP G) (k : GrP H) : GrF G H := by
  intro u v hu hv A l nl hl
  have h1 := DL.nodup_sub_le nl (m := (G.sc u).flatMap fun a => (H.sc v).map fun b => (a, b)) fun q hq => by
    obtain ⟨a, b⟩ := q
    have := op_in g k hu hv A (hl (a, b) hq)
    exact List.mem_flatMap.mpr ⟨a, this.1, List.mem_map.mpr ⟨b, this.2, rfl⟩⟩
  rw [prod_len] at h1
  have h2 := g.sl u hu
  have h3 := k.sl v hv
  have h4 : (G.sc u).length * (H.sc v).length ≤ 4 * 4 := Nat.mul_le_mul h2 h3
  omega
end K50
/-! MA: maps and classes are matchings; closed nodes of the same part match. -/
namespace K50
open List
theorem map_at {l : List Nat} {c : Nat → Nat} {i a b : Nat} (h1 : l[i]? = some a) (h2 : (l.map c)[i]? = some b) : b = c a := by
  rw [List.getElem?_map, h1] at h2
  exact (Option.some.inj h2).symm
theorem homS_mtx {G H : Gr} (g : GrP G) {c : Nat → Nat} (h : HomS G.nodes 0 G.sc H.nodes 0 H.sc c) (k : GrP H) : MtX G H fun u v => u < G.n ∧ v = c u := by
  refine ⟨?_, ?_, ?_⟩
  · rintro u v ⟨hu, rfl⟩
    exact ⟨hu, k.lt (h.toHom.fwd (g.all u hu))⟩
  · rintro u v ⟨hu, rfl⟩
    have e : H.nd (c u) = (G.nd u).rn c := h.nd u (g.all u hu)
    rw [e, rn_kind, rn_wd, rn_ch, List.length_map, h.sc u (g.all u hu), List.length_map]
    exact ⟨rfl, rfl, rfl, rfl⟩
  · rintro u v ⟨hu, rfl⟩ i a b h1 h2
    have e : H.nd (c u) = (G.nd u).rn c := h.nd u (g.all u hu)
    rw [e, rn_ch] at h2
    exact ⟨g.S.chn hu (List.mem_of_getElem? h1), map_at h1 h2⟩
theorem clz_mtx {G : Gr} {ms : List Nat} (c : Clz G ms) (g : GrP G) : MtX G G fun u v => u < G.n ∧ v < G.n ∧ mrk ms u = mrk ms v := by
  refine ⟨fun u v h => ⟨h.1, h.2.1⟩, fun u v h => ?_, fun u v h i a b h1 h2 => ?_⟩
  · obtain ⟨r1, r2, r3, r4, _⟩ := row_parts (c.row u v h.1 h.2.1 h.2.2)
    exact ⟨r1, r2, r3, r4⟩
  · obtain ⟨_, _, _, _, _, r6, _⟩ := row_parts (c.row u v h.1 h.2.1 h.2.2)
    refine ⟨g.S.chn h.1 (List.mem_of_getElem? h1), g.S.chn h.2.1 (List.mem_of_getElem? h2), ?_⟩
    have := congrArg (fun l : List Nat => l[i]?) r6
    simp only [List.getElem?_map, h1, h2, Option.map_some] at this
    exact Option.some.inj this
end K50
/-! MB: closed nodes of the same part match. -/
namespace K50
open List
theorem go_trans {G : Gr} {s t : Spot} {p : List Nat} (h : go G s p = some t) : ∀ {q : List Nat} {r : Spot}, go G t q = some r → ∃ w, go G s w = some r
  | [], r, e => by
    cases e
    exact ⟨p, h⟩
  | i :: q, r, e => by
    simp only [go, Option.bind_eq_some_iff] at e
    obtain ⟨t2, h1, h2⟩ := e
    obtain ⟨w, hw⟩ := go_trans h h1
    exact ⟨i :: w, by simp [go, hw, h2]⟩
/-- what is needed is met openly -/
theorem need_way {G : Gr} (g : GrP G) {a f : Nat} (n : Need G.nodes a f) : ∀ h i : Nat, a < G.n → h ≤ (G.sc a).length → i < h → (G.sc a)[i]? = some f → ∃ p s, go G (a, h) p = some s ∧ G.openAt s = true ∧ G.tg s.1 = f := by
  induction n with
  | @var a f e =>
    intro h i ha hh hi hf
    have e : G.nd a = .var f := e
    have es := g.ws.vt a f (g.all a ha) e
    have nd := g.ws.nodup (g.all a ha)
    have hl : (G.sc a)[(G.sc a).length - 1]? = some f := by rw [es]; simp
    have ei : i = (G.sc a).length - 1 := (List.getElem?_inj (List.getElem?_eq_some_iff.mp hf).1 nd).mp (hf.trans hl.symm)
    refine ⟨[], (a, h), rfl, ?_, ?_⟩
    · simp only [Gr.openAt, e, Nd.isVar, Bool.true_and, decide_eq_true_eq]
      omega
    · simp [Gr.tg, e]
  | @up a c f hc k hn ih =>
    intro h i ha hh hi hf
    have hr := g.all a ha
    have hc' : c < G.n := g.S.chn ha hc
    have hfc := g.ws.need (.step hr hc) k
    obtain ⟨j, hj⟩ := List.mem_iff_getElem?.mp hfc
    have hjl := (List.getElem?_eq_some_iff.mp hj).1
    obtain ⟨t, et⟩ := g.ws.ch a hr c hc
    have fa : f ∈ G.sc a := List.mem_of_getElem? hf
    have il := (List.getElem?_eq_some_iff.mp hf).1
    have ej : (G.sc a ++ if (nat G.nodes a).isFn = true then [a] else [])[j]? = some f := by
      rw [← et, List.getElem?_append_left hjl]; exact hj
    have ei : (G.sc a ++ if (nat G.nodes a).isFn = true then [a] else [])[i]? = some f := by
      rw [List.getElem?_append_left il]; exact hf
    have nd : (G.sc a ++ if (nat G.nodes a).isFn = true then [a] else []).Nodup := by
      by_cases hfn : (nat G.nodes a).isFn = true
      · rw [if_pos hfn]
        exact nodup_snoc (g.ws.nodup hr) fun z => Nat.lt_irrefl _ (g.ws.rank hr z)
      · rw [if_neg hfn, List.append_nil]; exact g.ws.nodup hr
    have ij : j = i := (List.getElem?_inj (List.getElem?_eq_some_iff.mp ej).1 nd).mp (ej.trans ei.symm)
    subst ij
    obtain ⟨p, s, h1, h2, h3⟩ := ih (min h (G.sc c).length) j hc' (Nat.min_le_right _ _) (by omega) hj
    obtain ⟨m, hm⟩ := List.mem_iff_getElem?.mp hc
    have hm : (G.nd a).ch[m]? = some c := hm
    have st : go G (a, h) [m] = some (c, min h (G.sc c).length) := by simp [go, Gr.below, hm]
    obtain ⟨w, hw⟩ := go_trans st h1
    exact ⟨w, s, hw, h2, h3⟩
end K50
/-! MC: closed nodes of the same part match. -/
namespace K50
open List
theorem closed_sc {G H : Gr} (g : GrP G) (k : GrP H) {u v : Nat} (hu : u < G.n) (hv : v < H.n) (S : SPg G H u v) (e : G.sc u = []) : H.sc v = [] := by
  have hn : ∀ f, ¬ Need H.nodes v f := fun f n => by
    have hf := k.ws.need (k.all v hv) n
    obtain ⟨i, hi⟩ := List.mem_iff_getElem?.mp hf
    obtain ⟨p, s, h1, h2, h3⟩ := need_way k n (H.sc v).length i hv (Nat.le_refl _) (List.getElem?_eq_some_iff.mp hi).1 hi
    obtain ⟨b, hb, m⟩ := way_met S.symm.all h1
    have hs := way_open g hu hb ((open_eq (S.symm.all _ m)).symm.trans h2)
    rw [e] at hs
    cases hs
  exact (k.ws.sc_uniq (k.all v hv) (k.sc v hv) (.nil hn))
/-- what is met of two closed nodes -/
structure ClM (G H : Gr) (u v : Nat) (a b : Nat) : Prop where
  m : Met G H ((u, 0), (v, 0)) ((a, 0), (b, 0))
  la : a < G.n
  lb : b < H.n
  sl : (G.sc a).length = (H.sc b).length
  sc : ∀ (i x y : Nat), (G.sc a)[i]? = some x → (H.sc b)[i]? = some y → Met G H ((u, 0), (v, 0)) ((x, 0), (y, 0))
theorem lk_parts {G H : Gr} {s t : Spot} (h : lkEq G H (s, t)) : (G.nd s.1).kind = (H.nd t.1).kind ∧ (G.nd s.1).wd = (H.nd t.1).wd ∧ (G.nd s.1).ch.length = (H.nd t.1).ch.length ∧ (G.sc s.1).length - s.2 = (H.sc t.1).length - t.2 := by
  have h : G.lk s = H.lk t := h
  simp only [Gr.lk, Prod.mk.injEq] at h
  exact ⟨h.1, h.2.1, h.2.2.1, h.2.2.2.2⟩
theorem fn_kind (n m : Nd) (h : n.kind = m.kind) : n.isFn = m.isFn := by
  have h1 : ("word" : PySem.Str) ≠ "fun" := by decide +kernel
  have h2 : ("var" : PySem.Str) ≠ "fun" := by decide +kernel
  cases n <;> cases m <;> first | rfl | exact absurd h h1 | exact absurd h.symm h1 | exact absurd h h2 | exact absurd h.symm h2
theorem clM {G H : Gr} (g : GrP G) (k : GrP H) {u v : Nat} (hu : u < G.n) (hv : v < H.n) (e1 : G.sc u = []) (e2 : H.sc v = []) (A : AllLk G H (u, 0) (v, 0)) {q : SP} (h : Met G H ((u, 0), (v, 0)) q) : q.1.2 = 0 ∧ q.2.2 = 0 ∧ ClM G H u v q.1.1 q.2.1 := by
  induction h with
  | start => exact ⟨rfl, rfl, .start, hu, hv, by rw [e1, e2], fun i x y hx _ => by rw [e1] at hx; cases hx⟩
  | @step p q hp hl hm ih =>
    obtain ⟨⟨a, h⟩, ⟨b, h'⟩⟩ := p
    obtain ⟨z1, z2, I⟩ := ih
    simp only at z1 z2
    subst z1 z2
    have hq : Met G H ((u, 0), (v, 0)) q := .step hp hl hm
    have hlq := A _ hq
    obtain ⟨i, hi⟩ := List.mem_iff_getElem?.mp hm
    unfold nextP at hi
    rw [List.getElem?_zip_eq_some] at hi
    obtain ⟨h1, h2⟩ := hi
    simp only [Gr.below, List.getElem?_map, Option.map_eq_some_iff] at h1 h2
    obtain ⟨c, hc, f1⟩ := h1
    obtain ⟨d, hd, f2⟩ := h2
    obtain ⟨⟨q1, q2⟩, ⟨q3, q4⟩⟩ := q
    simp only [Prod.mk.injEq, Nat.zero_min] at f1 f2
    obtain ⟨rfl, rfl⟩ := f1
    obtain ⟨rfl, rfl⟩ := f2
    obtain ⟨k1, k2, k3, k4⟩ := lk_parts hlq
    obtain ⟨m1, m2, m3, m4⟩ := lk_parts hl
    simp only [Nat.sub_zero] at k4
    have hc' := List.mem_of_getElem? hc
    have hd' := List.mem_of_getElem? hd
    refine ⟨rfl, rfl, hq, g.S.chn I.la hc', k.S.chn I.lb hd', k4, fun j x y hx hy => ?_⟩
    obtain ⟨t1, et1⟩ := g.ws.ch a (g.all a I.la) c hc'
    obtain ⟨t2, et2⟩ := k.ws.ch b (k.all b I.lb) d hd'
    have hfn : (nat G.nodes a).isFn = (nat H.nodes b).isFn := fn_kind _ _ m1
    have Isl : (G.sc a).length = (H.sc b).length := I.sl
    have x1 : (G.sc a ++ if (nat G.nodes a).isFn = true then [a] else [])[j]? = some x := by
      rw [← et1, List.getElem?_append_left (List.getElem?_eq_some_iff.mp hx).1]; exact hx
    have y1 : (H.sc b ++ if (nat H.nodes b).isFn = true then [b] else [])[j]? = some y := by
      rw [← et2, List.getElem?_append_left (List.getElem?_eq_some_iff.mp hy).1]; exact hy
    by_cases hj : j < (G.sc a).length
    · rw [List.getElem?_append_left hj] at x1
      rw [List.getElem?_append_left (by omega)] at y1
      exact I.sc j x y x1 y1
    · rw [List.getElem?_append_right (by omega)] at x1
      rw [List.getElem?_append_right (by omega), ← hfn, ← Isl] at y1
      by_cases hf : (nat G.nodes a).isFn = true
      · rw [if_pos hf] at x1 y1
        have j0 : j - (G.sc a).length = 0 := by
          have := (List.getElem?_eq_some_iff.mp x1).1
          simp at this
          omega
        rw [j0] at x1 y1
        simp at x1 y1
        subst x1 y1
        exact I.m
      · rw [if_neg hf] at x1; cases x1
/-- closed nodes with the same part are in one class -/
theorem closed_class {G : Gr} {ms : List Nat} (c : Clz G ms) (g : GrP G) {u v : Nat} (hu : u < G.n) (hv : v < G.n) (e : G.sc u = []) (S : SPg G G u v) : mrk ms u = mrk ms v := by
  have e2 := closed_sc g g hu hv S e
  have A : AllLk G G (u, 0) (v, 0) := by
    have := S.all
    unfold Gr.spotOf at this
    rw [e, e2] at this
    exact this
  have key : ∀ {a b : Nat}, Met G G ((u, 0), (v, 0)) ((a, 0), (b, 0)) → ClM G G u v a b := fun m => (clM g g hu hv e e2 A m).2.2
  refine c.crs (fun a b => Met G G ((u, 0), (v, 0)) ((a, 0), (b, 0))) ⟨fun a b m => ⟨(key m).la, (key m).lb⟩, fun a b m => ?_, fun a b m i x y hx hy => ?_, fun a b m i x y hx hy => (key m).sc i x y hx hy⟩ u v .start
  · obtain ⟨k1, k2, k3, _⟩ := lk_parts (A _ m)
    exact ⟨k1, k2, k3, (key m).sl⟩
  · refine .step m (A _ m) (List.mem_of_getElem? (i := i) ?_)
    unfold nextP
    rw [List.getElem?_zip_eq_some]
    simp [Gr.below, hx, hy]
end K50
/-! MD: as many classes of parts. -/
namespace K50
open List
/-- one node of each class of parts -/
structure Hds (G : Gr) (l : List Nat) : Prop where
  lt : ∀ u ∈ l, u < G.n
  nd : l.Nodup
  ap : ∀ u ∈ l, ∀ v ∈ l, SPg G G u v → u = v
  all : ∀ v, v < G.n → ∃ u ∈ l, SPg G G u v
theorem hds_le {G H : Gr} {l m : List Nat} (a : Hds G l) (b : Hds H m) (h : ∀ u, u < G.n → ∃ v, v < H.n ∧ SPg G H u v) : l.length ≤ m.length := by
  classical
  have key : ∀ u, u ∈ l → ∃ v ∈ m, SPg G H u v := fun u hu => by
    obtain ⟨v, hv, s⟩ := h u (a.lt u hu)
    obtain ⟨k, hk, t⟩ := b.all v hv
    exact ⟨k, hk, s.trans t.symm⟩
  let f : Nat → Nat := fun u => if hu : u ∈ l then (key u hu).choose else 0
  have hf : ∀ u (hu : u ∈ l), f u ∈ m ∧ SPg G H u (f u) := fun u hu => by
    have : f u = (key u hu).choose := dif_pos hu
    rw [this]
    exact (key u hu).choose_spec
  have nd : (l.map f).Nodup := inj_nodup f a.nd fun x hx y hy e => by
    have s1 := (hf x hx).2
    have s2 := (hf y hy).2
    rw [← e] at s2
    exact a.ap x hx y hy (s1.trans s2.symm)
  have := DL.nodup_sub_le nd (m := m) fun z hz => by
    obtain ⟨u, hu, rfl⟩ := List.mem_map.mp hz
    exact (hf u hu).1
  rwa [List.length_map] at this
theorem hds_len {G H : Gr} {l m : List Nat} (g : GrP G) (k : GrP H) (a : Hds G l) (b : Hds H m) {c : Nat → Nat} (h : HomS G.nodes 0 G.sc H.nodes 0 H.sc c) : l.length = m.length := by
  have M := homS_mtx g h k
  refine Nat.le_antisymm (hds_le a b fun u hu => ⟨c u, (M.lt u _ ⟨hu, rfl⟩).2, M.spg g k ⟨hu, rfl⟩⟩) (hds_le b a fun v hv => ?_)
  obtain ⟨u, hu, rfl⟩ := h.toHom.onto (k.all v hv)
  exact ⟨u, g.lt hu, (M.spg g k ⟨g.lt hu, rfl⟩).symm⟩
end K50
set_option maxRecDepth 100000
set_option maxHeartbeats 4000000
/-! K22: draws. -/
namespace K50
open PySem PySem.Spec PyProof.Rows L2 DL
/-- a stream of draws -/
def stmD (x : Int × Int × Int) : D := .lst [.int x.1, .int x.2.1, .int x.2.2]
structure DrIn where
  a : Addr
  x : Int × Int × Int
  hi : Nat
  h0 : 0 < hi
  h1 : hi < 1000
section
variable {P : Program} {w : World} {K : PySem.W.Frag} {mg : Str → Option Value} {base : Heap}
theorem ok_law_draw (Γ : Pg K mg) : FnOk P w K mg base CX0 1 Γ.law_draw.f Γ.law_draw.fd P_law_draw (spD K (fun x : DrIn => [.ref x.a, .int x.hi]) (fun x => [(x.a, stmD x.x)]) (fun x d L => ∃ (r : Nat) (y : Int × Int × Int), r < x.hi ∧ d = .int r ∧ L = [(x.a, stmD y)])) := by
  refine fn_ok Γ.law_draw.F sc_law_draw (fun _ => rfl) (by decide) (fun cdv A outer s H E hr ⟨a, ⟨x0, x1, x2⟩, hi, h0, h1⟩ => ?_)
  have nd := sc_law_draw.nd
  have hh0 : (0 : Int) < (hi : Nat) := by omega
  have hh1 : ((hi : Nat) : Int) < 1073741824 := by omega
  have fin : ∀ z : Int, ∃ r : Nat, r < hi ∧ z % (hi : Int) = r := fun z => by
    have e1 := Int.emod_nonneg z (b := (hi : Int)) (by omega)
    have e2 := Int.emod_lt_of_pos z (b := (hi : Int)) (by omega)
    exact ⟨(z % (hi : Int)).toNat, by omega, by omega⟩
  refine bl_cons (st_if (te_cmp op_gt (ev_ix ix_list (ev_v 0 rfl (ev_int (o2_ixC (k := 0) rfl (n := 0) rfl (ev_int (o2_gt ⟨_, rfl, ?_⟩))))))))
  by_cases hx : 0 < x0
  · refine iteT' (by simpa using hx) ?_
    obtain ⟨r, hr1, hr2⟩ := fin x0
    refine bl_cons (st_set 2 nd (ev_op op_mod (ev_callTy call_int1 Γ.b_int bt_int (ag_cons (ev_ix ix_list (ev_v 0 rfl (ev_int (o2_ixC (k := 0) rfl (n := 0) rfl (ag_nil (oa_int (ev_v 1 rfl (o2_mod hh0 ?_))))))))))))
    refine bl_cons (st_lput (ev_op op_fdiv (ev_ix ix_list (ev_v 0 rfl (ev_int (o2_ixC (k := 0) rfl (n := 0) rfl (ev_v 1 rfl (o2_fdiv ⟨hh0, hh1⟩ (ev_v 0 rfl (ev_int ⟨0, a, 0, _, rfl, rfl, rfl, by simp, ?_⟩))))))))))
    exact bl_cons (st_ret (ev_v 2 rfl ⟨r, (x0 / hi, x1, x2), hr1, by rw [hr2], rfl⟩))
  · refine iteF' (by simpa using hx) (bl_nil ?_)
    have p1 : ∀ z : Int, 0 < (2305843009213693951 : Int) := fun _ => by decide
    refine bl_cons (st_lput (ev_op op_add (ev_ix ix_list (ev_v 0 rfl (ev_int (o2_ixC (k := 0) rfl (n := 2) rfl (ev_int (o2_add (ev_v 0 rfl (ev_int ⟨0, a, 2, _, rfl, rfl, rfl, by simp, ?_⟩))))))))))
    refine bl_cons (st_set 3 nd (ev_op op_mod (ev_callTy call_int1 Γ.b_int bt_int (ag_cons (ev_op op_add (ev_ix ix_list (ev_v 0 rfl (ev_int (o2_ixC (k := 0) rfl (n := 1) rfl (ev_op op_mul (ev_int (ev_ix ix_list (ev_v 0 rfl (ev_int (o2_ixC (k := 0) rfl (n := 2) rfl (o2_mul (.inl (by decide)) (o2_add (ag_nil (oa_int (ev_int (o2_mod (by decide) ?_)))))))))))))))))))))
    generalize ho : (x1 + 1000303 * (x2 + 1)) % 2305843009213693951 = one
    have one0 : 0 ≤ one := by rw [← ho]; exact Int.emod_nonneg _ (by decide)
    have one1 : one < 2305843009213693951 := by rw [← ho]; exact Int.emod_lt_of_pos _ (by decide)
    have cm : CMul one one := .inl ⟨by omega, by omega⟩
    have cm2 : ∀ z : Int, CMul z one := fun z => .inr ⟨by omega, by omega⟩
    refine bl_cons (st_set 4 nd (ev_op op_add (ev_op op_mul (ev_op op_mod (ev_callTy call_int1 Γ.b_int bt_int (ag_cons (ev_op op_mul (ev_v 3 rfl (ev_v 3 rfl (o2_mul cm (ag_nil (oa_int (ev_int (o2_mod (by decide) (ev_v 3 rfl (o2_mul (cm2 _) (ev_op op_mul (ev_int (ev_ix ix_list (ev_v 0 rfl (ev_int (o2_ixC (k := 0) rfl (n := 2) rfl (o2_mul (.inl (by decide)) (o2_add ?_))))))))))))))))))))))))
    generalize (one * one % 2305843009213693921 * one + 6911 * (x2 + 1)) = two
    refine bl_cons (st_set 4 nd (ev_op op_mod (ev_callTy call_int1 Γ.b_int bt_int (ag_cons (ev_v 4 rfl (ag_nil (oa_int (ev_int (o2_mod (by decide) ?_)))))))))
    obtain ⟨r, hr1, hr2⟩ := fin (two % 2305843009213693907 / 8192)
    refine bl_cons (st_ret (ev_op op_mod (ev_callTy call_int1 Γ.b_int bt_int (ag_cons (ev_op op_fdiv (ev_v 4 rfl (ev_int (o2_fdiv ⟨by decide, by decide⟩ (ag_nil (oa_int (ev_v 1 rfl (o2_mod hh0 ⟨r, (x0, x1, x2 + 1), hr1, by rw [← hr2], rfl⟩))))))))))))
end
end K50
set_option maxRecDepth 100000
set_option maxHeartbeats 4000000
/-! K32: a stream of draws. -/
namespace DL
open PySem PySem.Spec PyProof.Rows L2
def CPowB (i j : Int) : Prop := 0 ≤ j ∧ (Builtin.Int.intBits i : Int) * j ≤ 2 ^ 27
theorem op_powB {X : Cx} : OpR X (binaryOp .Pow) (rI CPowB fun i j => .int (i ^ j.toNat)) := opI fun _ _ _ _ _ _ _ hc q => pow_int hc.1 hc.2 q
theorem o2_powB {K : PySem.W.Frag} {L : Cells} {R : RD} {i j : Int} (c : CPowB i j) (r : R (.int (i ^ j.toNat)) L) : Op2 K (rI CPowB fun i j => .int (i ^ j.toNat)) (.int i) (.int j) L R := o2_I (g' := fun i j => .int (i ^ j.toNat)) (fun _ _ _ => .int _) c r
end DL
namespace K50
open PySem PySem.Spec PyProof.Rows L2 DL
structure StrIn where
  l : List Int
  i : Nat
  hi : i < 5
section
variable {P : Program} {w : World} {K : PySem.W.Frag} {mg : Str → Option Value} {base : Heap}
theorem ok_law_stream (Γ : Pg K mg) : FnOk P w K mg base CX0 1 Γ.law_stream.f Γ.law_stream.fd P_law_stream (spD K (fun x : StrIn => [.lst (dints x.l), .int x.i]) NoC (fun x d L => ∃ p y, d = .ref p ∧ L = [(p, stmD y)])) := by
  refine fn_ok Γ.law_stream.F sc_law_stream (fun _ => rfl) (by decide) (fun cdv A outer s H E hr x => ?_)
  have nd := sc_law_stream.nd
  have hx := x.hi
  have m1 : ∀ c : Int, -100 < c → c < 3000 → CMul c (x.i : Int) := fun c h1 h2 => .inl ⟨by omega, by omega⟩
  have cont : ∀ c0 : Int, BlX (CxF P w K mg base N_law_stream "_law_stream" (defScope s_law_stream) Γ.law_stream.f cdv A outer s H E) ((defBody s_law_stream).drop 2) [some (.lst (dints x.l)), some (.int x.i), some (.int c0), none, none] [] { nx := fun _ L => ∃ p y, D.non = .ref p ∧ L = [(p, stmD y)], rt := fun d L => ∃ p y, d = .ref p ∧ L = [(p, stmD y)] } := fun c0 => by
    refine bl_cons (st_set 3 nd (ev_op op_mod (ev_callTy call_int1 Γ.b_int bt_int (ag_cons (ev_callB call_abs Γ.b_abs bt_abs (ag_cons (ev_v 2 rfl (ag_nil (oa_abs (ag_nil (oa_int (ev_op op_powB (ev_op op_pow (ev_int (ev_int (o2_pow ⟨by decide, by decide, by decide⟩ (ev_int (o2_powB ⟨by decide, by decide +kernel⟩ (o2_mod (by decide +kernel) ?_)))))))))))))))))))
    generalize ((if c0 < 0 then -c0 else c0) % ((10 : Int) ^ Int.toNat 60) ^ Int.toNat 10) = gr
    refine bl_cons (st_set 4 nd (ev_op op_add (ev_op op_add (ev_op op_add (ev_op op_mul (ev_op op_mod (ev_callTy call_int1 Γ.b_int bt_int (ag_cons (ev_v 3 rfl (ag_nil (oa_int (ev_int (o2_mod (by decide) (ev_int (o2_mul (.inr ⟨by decide, by decide⟩) (ev_op op_mul (ev_int (ev_v 1 rfl (o2_mul (m1 _ (by decide) (by decide)) (o2_add (ev_op op_mul (ev_int (ev_callTy call_int1 Γ.b_int bt_int (ag_cons (ev_cmp op_lt (ev_v 2 rfl (ev_int (o2_lt (ag_nil (oa_intB (o2_mul (.inl (by decide)) (o2_add (ev_int (o2_add ?_))))))))))))))))))))))))))))))))))
    exact bl_cons (st_ret (ev_lst (ag_cons (ev_callB (call_max2 rfl) Γ.b_max bt_max (ag_cons (ev_int (ag_cons (ev_op op_sub (ev_v 3 rfl (ev_op op_pow (ev_int (ev_int (o2_pow ⟨by decide, by decide, by decide⟩ (o2_sub (ag_nil (oa_max (ag_cons (ev_op op_mod (ev_callTy call_int1 Γ.b_int bt_int (ag_cons (ev_v 4 rfl (ag_nil (oa_int (ev_int (o2_mod (by decide) (ag_cons (ev_int (ag_nil ⟨sz, fun p => ⟨p, (_, _, _), rfl, rfl⟩⟩))))))))))))))))))))))))))))
  refine bl_cons (st_set 2 nd (ev_op op_add (ev_op op_mul (ev_int (ev_v 1 rfl (o2_mul (m1 _ (by decide) (by decide)) (ev_int (o2_add ?_))))))))
  refine bl_cons (st_if (te_cmp op_lt (ev_v 1 rfl (ev_callB call_len_seq Γ.b_len bt_len (ag_cons (ev_v 0 rfl (ag_nil (oa_lenS (.inr rfl) (o2_lt ⟨_, rfl, ?_⟩)))))))))
  by_cases h : x.i < x.l.length
  · refine iteT' (by simp [dints, h]) (bl_cons (st_set 2 nd (ev_ix ix_list (ev_v 0 rfl (ev_v 1 rfl (o2_ixL (d := .int (x.l.getD x.i 0)) ?_ ?_))))))
    · simp [dints, h]
    · exact bl_nil (cont _)
  · exact iteF' (by simp [dints]; omega) (bl_nil (cont _))
end
end K50
set_option maxRecDepth 100000
set_option maxHeartbeats 4000000
/-! K23: picks, small defs of the law. -/
namespace K50
open PySem PySem.Spec PyProof.Rows L2 DL
structure PkIn where
  a : Addr
  x : Int × Int × Int
  ds : List D
  tup : Bool
  h0 : ds ≠ []
  h1 : ds.length < 1000
def PkIn.d (x : PkIn) : D := if x.tup = true then .tup x.ds else .lst x.ds
section
variable {P : Program} {w : World} {K : PySem.W.Frag} {mg : Str → Option Value} {base : Heap}
theorem ok_law_pick (Γ : Pg K mg) : FnOk P w K mg base CX0 2 Γ.law_pick.f Γ.law_pick.fd P_law_pick (spD K (fun x : PkIn => [.ref x.a, x.d]) (fun x => [(x.a, stmD x.x)]) (fun x d L => ∃ y : Int × Int × Int, d ∈ x.ds ∧ L = [(x.a, stmD y)])) := by
  refine fn_ok Γ.law_pick.F sc_law_pick (fun _ => rfl) (by decide) (fun cdv A outer s H E hr ⟨a, x, ds, tup, h0, h1⟩ => ?_)
  have hp : 0 < ds.length := List.length_pos_iff.mpr h0
  cases tup with
  | true =>
    refine bl_cons (st_ret (ev_ix ix_tup (ev_v 1 rfl (ev_call (ok_law_draw Γ) hr Γ.law_draw.g Γ.law_draw.F.kp (bi_law_draw Γ) (ag_cons (ev_v 0 rfl (ag_cons (ev_callB call_len_seq Γ.b_len bt_len (ag_cons (ev_v 1 rfl (ag_nil (oa_lenS (.inl rfl) (ag_nil ⟨⟨a, x, ds.length, hp, h1⟩, [], rfl, .refl _, ?_⟩)))))))))))))
    rintro d L' ⟨r, y, hr2, rfl, rfl⟩
    exact o2_ixT (List.getElem?_eq_getElem hr2) ⟨y, List.getElem_mem hr2, rfl⟩
  | false =>
    refine bl_cons (st_ret (ev_ix ix_list (ev_v 1 rfl (ev_call (ok_law_draw Γ) hr Γ.law_draw.g Γ.law_draw.F.kp (bi_law_draw Γ) (ag_cons (ev_v 0 rfl (ag_cons (ev_callB call_len_seq Γ.b_len bt_len (ag_cons (ev_v 1 rfl (ag_nil (oa_lenS (.inr rfl) (ag_nil ⟨⟨a, x, ds.length, hp, h1⟩, [], rfl, .refl _, ?_⟩)))))))))))))
    rintro d L' ⟨r, y, hr2, rfl, rfl⟩
    exact o2_ixL (List.getElem?_eq_getElem hr2) ⟨y, List.getElem_mem hr2, rfl⟩
theorem ok_law_below (Γ : Pg K mg) : FnOk P w K mg base CX0 1 Γ.law_below.f Γ.law_below.fd P_law_below (spD K (fun n : Nd => [n.d]) NoC (Ret fun n => .lst (dnats n.ch))) := by
  refine fn_ok Γ.law_below.F sc_law_below (fun _ => rfl) (by decide) (fun cdv A outer s H E hr n => ?_)
  cases n with
  | word x cs =>
    refine bl_cons (st_if (te_cmp op_eq (ev_ix ix_tup (ev_v 0 rfl (ev_int (o2_ixT (n := 0) rfl (ev_str (o2_seqT ⟨true, rfl, iteT ?_⟩))))))))
    exact bl_cons (st_ret (ev_fz (ev_callTy call_list_of Γ.b_list bt_list (ag_cons (ev_ix ix_tup (ev_v 0 rfl (ev_int (o2_ixT (n := 2) rfl (ag_nil (oa_list (.inl rfl) fun p => ⟨0, p, _, rfl, rfl, rfl, rfl⟩))))))))))
  | fn c =>
    refine bl_cons (st_if (te_cmp op_eq (ev_ix ix_tup (ev_v 0 rfl (ev_int (o2_ixT (n := 0) rfl (ev_str (o2_seqF ⟨false, rfl, iteF (bl_nil ?_)⟩))))))))
    exact bl_cons (st_ret (ev_if (te_cmp op_eq (ev_ix ix_tup (ev_v 0 rfl (ev_int (o2_ixT (n := 0) rfl (ev_str (o2_seqT ⟨true, rfl, iteT (ev_lstF (ag_cons (ev_ix ix_tup (ev_v 0 rfl (ev_int (o2_ixT (n := 1) rfl (ag_nil ⟨sz, rfl, rfl⟩)))))))⟩)))))))))
  | var g =>
    refine bl_cons (st_if (te_cmp op_eq (ev_ix ix_tup (ev_v 0 rfl (ev_int (o2_ixT (n := 0) rfl (ev_str (o2_seqF ⟨false, rfl, iteF (bl_nil ?_)⟩))))))))
    exact bl_cons (st_ret (ev_if (te_cmp op_eq (ev_ix ix_tup (ev_v 0 rfl (ev_int (o2_ixT (n := 0) rfl (ev_str (o2_seqF ⟨false, rfl, iteF (ev_lstF (ag_nil ⟨sz, rfl, rfl⟩))⟩)))))))))
end
end K50
set_option maxRecDepth 100000
set_option maxHeartbeats 4000000
/-! DLP: walks over lists of one's own. -/
namespace DL
open PySem PySem.Spec PyProof.Rows L2
/-- what is walked: the own list at a, which holds cs at each turn -/
structure ItW (K : PySem.W.Frag) (F : List Addr) (Bb : Hp) (J : It) (a : Addr) (cs ds : List D) : Prop where
  go : ∀ {H : Hp} {σ : L2.St} {Γ : Gam} {ts : List V} {τ : List D} {L : Cells} (i : Nat), Sat K Bb F H σ Γ ts τ L → (a, D.lst cs) ∈ L → i < ds.length → J.go i H
  stop : ∀ {H : Hp} {σ : L2.St} {Γ : Gam} {ts : List V} {τ : List D} {L : Cells}, Sat K Bb F H σ Γ ts τ L → (a, D.lst cs) ∈ L → J.stop ds.length H
  yld : ∀ {H : Hp} {σ : L2.St} {Γ : Gam} {ts : List V} {τ : List D} {L : Cells} (i : Nat) (x : V) (H' : Hp), i < ds.length → Sat K Bb F H σ Γ ts τ L → (a, D.lst cs) ∈ L → J.yld i H x H' → ∃ d, ds[i]? = some d ∧ Sat K Bb F H' σ Γ (x :: ts) (d :: τ) L
structure IterW (X : Cx) (tg iter : Expr) (Γ : Gam) (L : Cells) (R : Addr → List D → List D → Cells → Prop) : Prop where
  run : ∀ {B0 : Hp} {F : List Addr} {H : Hp} {σ : L2.St} {ts : List V} {τ : List D} {Q : It → Hp → Prop}, Sat X.K B0 F H σ Γ ts τ L →
    (∀ J a cs ds H1 L1, R a cs ds L1 → Sat X.K B0 F H1 σ Γ ts τ L1 → ItW X.K F (vis H1 (adr L1)) J a cs ds → Q J H1) → WI X tg iter σ H Q
section
variable {X : Cx} {Γ : Gam} {L : Cells} {pos : Pos} {E : En} {e c : Expr} {R : RD}
theorem itw_own {K : PySem.W.Frag} {F : List Addr} {B : Hp} {a : Addr} {cs : List D} : ItW K F B (Itl K a) a cs cs where
  go := fun {H σ Γ ts τ L} i S m hi => by
    obtain ⟨xs, hx, t⟩ := S.cells _ m
    exact ⟨xs, xs[i]'(by rw [t.length]; exact hi), SqL.of hx, by rw [List.getElem?_eq_getElem]⟩
  stop := fun {H σ Γ ts τ L} S m => by
    obtain ⟨xs, hx, t⟩ := S.cells _ m
    exact ⟨xs, SqL.of hx, by rw [t.length]; exact Nat.le_refl _⟩
  yld := fun {H σ Γ ts τ L} i x H' _ S m ⟨e, y⟩ => by
    subst e
    obtain ⟨xs, hx, t⟩ := S.cells _ m
    obtain ⟨d, hd, o⟩ := t.get' (y xs (SqL.of hx))
    exact ⟨d, hd, S.push o⟩
theorem itw_enum {K : PySem.W.Frag} {F : List Addr} {B : Hp} {a : Addr} {cs : List D} : ItW K F B (Ite K a) a cs (enumD cs) where
  go := fun {H σ Γ ts τ L} i S m hi => by
    obtain ⟨xs, hx, t⟩ := S.cells _ m
    rw [enumD_length] at hi
    exact ⟨xs, xs[i]'(by rw [t.length]; exact hi), SqL.of hx, by rw [List.getElem?_eq_getElem]⟩
  stop := fun {H σ Γ ts τ L} S m => by
    obtain ⟨xs, hx, t⟩ := S.cells _ m
    exact ⟨xs, SqL.of hx, by rw [t.length, enumD_length]; exact Nat.le_refl _⟩
  yld := fun {H σ Γ ts τ L} i x H' hi S m ⟨T, y, ex, hT, eH, hy⟩ => by
    subst ex eH
    obtain ⟨xs, hx, t⟩ := S.cells _ m
    obtain ⟨d, hd, o⟩ := t.get' (hy xs (SqL.of hx))
    obtain ⟨S2, le, hn⟩ := S.newB (o := .tup [.int i, y]) hT
    exact ⟨_, enumD_get hd, S2.push (.tup (SqT.of hn) (.cons (.int i) (.cons (o.mono le) .nil)))⟩
theorem mem_of_at {α : Type} {l : List α} {k : Nat} {x : α} (h : l[k]? = some x) : x ∈ l := List.mem_of_getElem? h
theorem itx_listW {tg : Expr} {R : Addr → List D → List D → Cells → Prop} (h : EvX X e Γ L fun d L1 => ∃ a cs, d = .ref a ∧ (a, D.lst cs) ∈ L1 ∧ R a cs cs L1) : IterW X tg e Γ L R := .mk fun S q =>
  wi_of (pi_list pe_w) (h.run S fun v d H1 L1 ⟨a, cs, ed, m, r⟩ S1 => by
    subst ed
    have hv : v = .ref a := by cases S1.top; rfl
    subst hv
    obtain ⟨xs, hx, t⟩ := S1.cells _ m
    exact ⟨_, rfl, ⟨xs, SqL.of hx⟩, q _ _ _ _ _ _ r S1.pop itw_own⟩)
theorem itx_enumW {elts : List Expr} {kk : Nat} {tpos p : Pos} {R : Addr → List D → List D → Cells → Prop} (hm : X.mg "enumerate" = none) (h : AgX X [e] Γ L fun ds L1 => ∃ a cs, ds = [.ref a] ∧ (a, D.lst cs) ∈ L1 ∧ R a cs (enumD cs) L1) (hg : Gl X "enumerate" := by rfl) (hs : starEach [e] X.env = [(false, eval e X.env)] := by rfl) :
    IterW X (.Tuple elts kk tpos) (.Call (.Name "enumerate" p) [e] [] pos) Γ L R := .mk fun S q =>
  wi_of (pi_enum hg hm pa_w hs) (h.run S fun vs ds H1 L1 ⟨a, cs, ed, m, r⟩ hl S1 => by
    subst ed
    obtain ⟨o, S2⟩ := S1.args hl
    obtain ⟨v, rfl, o1⟩ := o.one
    cases o1
    obtain ⟨xs, hx, t⟩ := S2.cells _ m
    exact ⟨_, _, rfl, SqL.of hx, q _ _ _ _ _ _ r S2 itw_enum⟩)
/-- for tg in an own list: W holds ahead of turn i, the list as it was -/
theorem st_forW {tg iter : Expr} {body : List Stmt} {js : List Nat} (hc : X.calm = true) (h : IterW X tg iter Γ L fun a cs ds L1 => ∃ W : Nat → Gam → Cells → Prop, W 0 Γ L1 ∧
      (∀ i Γ' L', W i Γ' L' → (a, D.lst cs) ∈ L') ∧
      (∀ i d Γ' L', ds[i]? = some d → W i Γ' L' → TgX X tg js d Γ' L' fun Γ2 L2 => BlX X body Γ2 L2 { nx := W (i + 1), ct := W (i + 1), bk := E.nx, rt := E.rt }) ∧ ∀ Γ' L', W ds.length Γ' L' → E.nx Γ' L')
    (hp : PassesOwn (model X.prog X.w) X.A X.env X.xe := by exact PassesOwn.never) (hs : ∀ x, foldedSetIterable iter X.env x = pure x := by intro _; rfl) : StX X (.For tg iter body [] pos) Γ L E := .mk fun {B0 F H σ ts τ D} S ok =>
  ws_of (ps_for hp hc pi_w pg_w pss_w hs) (h.run S fun J a cs ds H1 L1 ⟨W, w0, keep, turn, done⟩ S1 it => by
    refine ⟨fun i m σ H => m = ds.length - i ∧ i ≤ ds.length ∧ ∃ Γ L, W i Γ L ∧ Sat X.K (vis H1 (adr L1)) F H σ Γ ts τ L, ⟨_, rfl, Nat.zero_le _, Γ, L1, w0, S1.over⟩, fun i m σ H ⟨hm, hi, Γ2, L2, w2, S2⟩ => ?_⟩
    by_cases hlt : i < ds.length
    · refine .inr ⟨it.go i S2 (keep _ _ _ w2) hlt, fun σ' H' => ∃ Γ L, W (i + 1) Γ L ∧ Sat X.K (vis H1 (adr L1)) F H' σ' Γ ts τ L, fun σ' H' q => ⟨ds.length - (i + 1), by omega, rfl, hlt, q⟩, fun x H' y => ?_⟩
      obtain ⟨d, hd, S3⟩ := it.yld i x H' hlt S2 (keep _ _ _ w2) y
      refine (turn i d Γ2 L2 hd w2).run S3 fun Γ3 L3 σ3 H3 _ b3 S4 => ?_
      exact b3.run S4 ⟨fun Γ' L' σ' H' w' S' => ⟨Γ', L', w', S'⟩, fun d' L' v' σ' Γ' H' r' S' => ok.rt _ _ _ _ _ _ r' (S1.under S'), fun Γ' L' σ' H' r' S' => ok.nx _ _ _ _ r' (S1.under S'), fun Γ' L' σ' H' w' S' => ⟨Γ', L', w', S'⟩⟩
    · have e : i = ds.length := by omega
      subst e
      exact .inl ⟨it.stop S2 (keep _ _ _ w2), ok.nx _ _ _ _ (done Γ2 L2 w2) (S1.under S2)⟩)
variable {tg iter elt : Expr} {ifs : List Expr} {scope : Scope}
def LcHW (X : Cx) (tg iter elt : Expr) (scope : Scope) (js vs : List Nat) (tts : Shared → Hp → Addr → List (Str × Addr) → List Addr → TT) (Γ : Gam) (L : Cells) (R : RD) : Prop :=
  IterW X tg iter Γ L fun a cs ds L1 => ∃ W : Nat → List D → Cells → Prop, W 0 [] L1 ∧ (∀ i acc L', W i acc L' → (a, D.lst cs) ∈ L') ∧
      (∀ i d acc L', ds[i]? = some d → W i acc L' → ∀ s H C cl fp, TgX (BX X scope s H C cl fp) tg js d (wipeG Γ vs) L' fun Γ2 L2 => ∀ s H C cl fp, TtX X.K (tts s H C cl fp) Γ2 L2 fun b L3 =>
        if b = true then ∀ s H C cl fp, EvX (BX X scope s H C cl fp) elt Γ2 L3 fun d' L4 => acc.length < sizeLine ∧ W (i + 1) (acc ++ [d']) L4 else W (i + 1) acc L3) ∧
      ∀ acc L', W ds.length acc L' → ∀ p, R (.ref p) (L' ++ [(p, .lst acc)])
theorem lcW_read {js vs : List Nat} {tts : Shared → Hp → Addr → List (Str × Addr) → List Addr → TT} (hjs : ∀ j ∈ js, j ∈ vs) (h : LcHW X tg iter elt scope js vs tts Γ L R)
    {B0 : Hp} {F : List Addr} {H : Hp} {σ : L2.St} {ts : List V} {τ : List D} {Q : VK} (S : Sat X.K B0 F H σ Γ ts τ L) (q : ∀ v d H' L', R d L' → Sat X.K B0 F H' σ Γ (v :: ts) (d :: τ) L' → Q v H') :
    tLc (WI X tg iter) (fun v σ H Q => ∀ s H0 C cl fp, WG (BX X scope s H0 C cl fp) tg v σ H Q) (fun σ H Q => ∀ s H0 C cl fp, tts s H0 C cl fp σ H Q) (fun σ H Q => ∀ s H0 C cl fp, WE (BX X scope s H0 C cl fp) elt σ H Q) vs σ H Q := by
  refine h.run S fun J a cs ds H1 L1 ⟨W, w0, keep, turn, done⟩ S1 it => fun p hp => ?_
  have S2 := (S1.over.wiped vs).newC (o := .lst []) (d := .lst []) hp fun B le => ⟨[], upd_same, .nil⟩
  refine ⟨fun i m H => m = ds.length - i ∧ i ≤ ds.length ∧ ∃ acc L', W i acc L' ∧ Sat X.K (vis H1 (adr L1)) F H (wipe σ vs) (wipeG Γ vs) ((pick Γ σ).1 ++ ts) ((pick Γ σ).2 ++ τ) (L' ++ [(p, .lst acc)]),
    ⟨_, rfl, Nat.zero_le _, [], L1, w0, S2⟩, fun i m H3 ⟨hm, hi, acc, L', w', S3⟩ => ?_⟩
  have mm : (a, D.lst cs) ∈ L' ++ [(p, D.lst acc)] := List.mem_append_left _ (keep _ _ _ w')
  by_cases hlt : i < ds.length
  · refine .inr ⟨it.go i S3 mm hlt, fun H' => ∃ acc L', W (i + 1) acc L' ∧ Sat X.K (vis H1 (adr L1)) F H' (wipe σ vs) (wipeG Γ vs) ((pick Γ σ).1 ++ ts) ((pick Γ σ).2 ++ τ) (L' ++ [(p, .lst acc)]), fun H' z => ⟨ds.length - (i + 1), by omega, rfl, hlt, z⟩, fun x H' y => ?_⟩
    obtain ⟨d, hd, S4⟩ := it.yld i x H' hlt S3 mm y
    obtain ⟨xs, hx, h0, hf, hl, S5⟩ := S4.hide
    have S6 : Sat X.K _ _ H' (wipe σ vs) (wipeG Γ vs) (x :: (xs ++ ((pick Γ σ).1 ++ ts))) (d :: (acc ++ ((pick Γ σ).2 ++ τ))) L' := ⟨S5.base, S5.fo, S5.nd, S5.cells, S5.len, S5.slots, ObL.swap hl S5.temps⟩
    intro s H0 C cl fp
    refine (turn i d acc L' hd w' s _ C cl fp).run S6 fun Γ2 L2 σ2 H2 off t2 S7 => ⟨wipe_off off hjs, ?_⟩
    intro s H0 C cl fp
    refine (t2 s H0 C cl fp).run S7 fun b H4 L4 b4 S8 => ?_
    cases b with
    | true =>
      rw [if_pos rfl]
      intro s H0 C cl fp
      refine ((show ∀ s H C cl fp, EvX (BX X scope s H C cl fp) elt Γ2 L4 _ from b4) s H0 C cl fp).run S8 fun v d' H5 L5 ⟨z, w5⟩ S9 => ?_
      obtain ⟨hx9, S10⟩ := Sat.unhide (more := [v]) (moreD := [d']) h0 hf hl rfl S9
      exact ⟨xs, hx9, by rw [hl]; exact z, acc ++ [d'], L5, w5, (Sat.unwiped S1 S10).wiped _⟩
    | false =>
      rw [if_neg Bool.false_ne_true]
      obtain ⟨hx9, S10⟩ := Sat.unhide (more := []) (moreD := []) h0 hf hl rfl S8
      rw [List.append_nil, List.append_nil] at S10
      have eH : upd H4 p (.lst xs) = H4 := by
        funext a
        by_cases z : a = p
        · rw [z, upd_same, hx9]
        · exact upd_ne z
      rw [eH] at S10
      exact ⟨acc, L4, b4, (Sat.unwiped S1 S10).wiped _⟩
  · have e : i = ds.length := by omega
    subst e
    refine .inl ⟨it.stop S3 mm, q _ _ _ _ (done acc L' w' p) ((S1.under (Sat.unwiped S1 S3)).push (.ref p))⟩
section
variable {own : List (Str × Nat)} {js : List Nat} {tts : Shared → Hp → Addr → List (Str × Addr) → List Addr → TT}
theorem ev_lcW (hc : X.calm = true) (hN : X.N.Nodup) (ok : BlkOk X.N X.env.scope scope own) (hjs : ∀ j ∈ js, j ∈ own.map (·.2)) (hts : ∀ s H C cl fp, PTs (BX X scope s H C cl fp) ifs (tts s H C cl fp))
    (h : LcHW X tg iter elt scope js (own.map (·.2)) tts Γ L R) (hs : ∀ x, foldedSetIterable iter X.env x = pure x := by intro _; rfl) :
    EvX X (.ListComp elt [⟨tg, iter, ifs, 0⟩] scope pos) Γ L R := .mk fun {B0 F H σ ts τ Q} S q =>
  we_of (pe_lc (g := fun v σ H Q => ∀ s H0 C cl fp, WG (BX X scope s H0 C cl fp) tg v σ H Q) (tt := fun σ H Q => ∀ s H0 C cl fp, tts s H0 C cl fp σ H Q) (te := fun σ H Q => ∀ s H0 C cl fp, WE (BX X scope s H0 C cl fp) elt σ H Q) hc hN pi_w ok
    (fun s H C cl fp => ⟨fun pins s1 σ H v u Q I r z => pg_w.run pins s1 σ H v u Q I r (z s _ C cl fp)⟩) (fun s H C cl fp => ⟨fun pins s1 σ H Q I z => (hts s _ C cl fp).run pins s1 σ H Q I (z s _ C cl fp)⟩)
    (fun s H C cl fp => ⟨fun pins s1 σ H Q I z => pe_w.run pins s1 σ H Q I (z s _ C cl fp)⟩) hs) (lcW_read hjs h S q)
/-- y = [..], on one line -/
theorem st_lcW (i : Nat) {y : Str} {py spos : Pos} (hc : X.calm = true) (hN : X.N.Nodup) (ok : BlkOk X.N X.env.scope scope own) (hjs : ∀ j ∈ js, j ∈ own.map (·.2)) (hts : ∀ s H C cl fp, PTs (BX X scope s H C cl fp) ifs (tts s H C cl fp))
    (hsw : swapsWith (.ListComp elt [⟨tg, iter, ifs, 0⟩] scope pos) (some (.Name y py)) spos.line X.env = pure true)
    (h : LcHW X tg iter elt scope js (own.map (·.2)) tts Γ L fun d L' => E.nx (Γ.set i (some d)) L') (hs : ∀ x, foldedSetIterable iter X.env x = pure x := by intro _; rfl) (hy : X.N[i]? = some y := by rfl) (hyl : X.env.scope.names.lookup y = some .local := by rfl) :
    StX X (.Assign [.Name y py] (.ListComp elt [⟨tg, iter, ifs, 0⟩] scope pos) spos) Γ L E := .mk fun {B0 F H σ ts τ D} S ok' =>
  ws_of (ps_setLc (g := fun v σ H Q => ∀ s H0 C cl fp, WG (BX X scope s H0 C cl fp) tg v σ H Q) (tt := fun σ H Q => ∀ s H0 C cl fp, tts s H0 C cl fp σ H Q) (te := fun σ H Q => ∀ s H0 C cl fp, WE (BX X scope s H0 C cl fp) elt σ H Q) hc hN hy hyl hsw pi_w ok
    (fun s H C cl fp => ⟨fun pins s1 σ H v u Q I r z => pg_w.run pins s1 σ H v u Q I r (z s _ C cl fp)⟩) (fun s H C cl fp => ⟨fun pins s1 σ H Q I z => (hts s _ C cl fp).run pins s1 σ H Q I (z s _ C cl fp)⟩)
    (fun s H C cl fp => ⟨fun pins s1 σ H Q I z => pe_w.run pins s1 σ H Q I (z s _ C cl fp)⟩) hs) (lcW_read hjs h S fun v d H' L' r S' => ok'.nx _ _ _ _ r (S'.setSlot i))
end
theorem lc_mapW {js vs : List Nat} {α : Type} (φ g : α → D) (h : IterW X tg iter Γ L fun a cs ds L1 => ∃ l : List α, ds = l.map φ ∧ l.length ≤ sizeLine ∧ (a, D.lst cs) ∈ L1 ∧ (∀ a ∈ l, Itm X tg elt scope js vs Γ L1 (φ a) (g a)) ∧ ∀ p, R (.ref p) (L1 ++ [(p, .lst (l.map g))])) :
    LcHW X tg iter elt scope js vs tYesT Γ L R := .mk fun S q => h.run S fun J a0 cs ds H1 L1 ⟨l, ed, z, mm, he, r⟩ S1 it => by
  refine q J a0 cs ds H1 L1 ⟨fun i acc L' => acc = (l.take i).map g ∧ L' = L1, ⟨by simp, rfl⟩, fun i acc L' w => by rw [w.2]; exact mm, fun i d acc L' hd ⟨ea, eL⟩ s H C cl fp => ?_, fun acc L' ⟨ea, eL⟩ p => ?_⟩ S1 it
  · subst ea eL ed
    obtain ⟨a, ha, rfl⟩ := map_get hd
    refine .mk fun S2 q2 => ((he a (List.mem_of_getElem? ha)).run s H C cl fp).run S2 fun Γ2 L2 σ2 H2 off ⟨e2, t2⟩ S3 => q2 Γ2 L2 σ2 H2 off (fun s H C cl fp => ttx_yes ?_) S3
    subst e2
    rw [if_pos rfl]
    intro s H C cl fp
    refine EvX.imp (t2 s H C cl fp) fun d' L4 ⟨e1, e2⟩ => ?_
    subst e1 e2
    have hi := lt_of_get ha
    refine ⟨by rw [List.length_map, List.length_take]; omega, ?_, rfl⟩
    rw [take_next ha, List.map_append]; rfl
  · subst ea eL ed
    rw [List.length_map, List.take_length]
    exact r p
theorem lc_selW {js vs : List Nat} {α : Type} (φ g : α → D) (cc : α → Bool) (h : IterW X tg iter Γ L fun a cs ds L1 => ∃ l : List α, ds = l.map φ ∧ l.length ≤ sizeLine ∧ (a, D.lst cs) ∈ L1 ∧ (∀ a ∈ l, ItmS X tg elt c scope js vs Γ L1 (φ a) (cc a) (g a)) ∧ ∀ p, R (.ref p) (L1 ++ [(p, .lst ((l.filter cc).map g))])) :
    LcHW X tg iter elt scope js vs (tOneT X scope c) Γ L R := .mk fun S q => h.run S fun J a0 cs ds H1 L1 ⟨l, ed, z, mm, he, r⟩ S1 it => by
  refine q J a0 cs ds H1 L1 ⟨fun i acc L' => acc = ((l.take i).filter cc).map g ∧ L' = L1, ⟨by simp, rfl⟩, fun i acc L' w => by rw [w.2]; exact mm, fun i d acc L' hd ⟨ea, eL⟩ s H C cl fp => ?_, fun acc L' ⟨ea, eL⟩ p => ?_⟩ S1 it
  · subst ea eL ed
    obtain ⟨a, ha, rfl⟩ := map_get hd
    refine .mk fun S2 q2 => ((he a (List.mem_of_getElem? ha)).run s H C cl fp).run S2 fun Γ2 L2 σ2 H2 off ⟨e2, t2⟩ S3 => q2 Γ2 L2 σ2 H2 off (fun s H C cl fp => ?_) S3
    subst e2
    refine .mk fun S4 q4 => (t2 s H C cl fp).run S4 fun k H5 L5 ⟨ek, eL5, e5⟩ S5 => q4 k H5 L5 ?_ S5
    subst ek eL5
    have hi := lt_of_get ha
    have hle : ((l.take i).filter cc).length ≤ i := Nat.le_trans (List.length_filter_le _ _) (by rw [List.length_take]; omega)
    by_cases hk : cc a = true
    · rw [if_pos hk]
      intro s H C cl fp
      refine EvX.imp (e5 hk s H C cl fp) fun d' L4 ⟨e1, e2⟩ => ?_
      subst e1 e2
      refine ⟨by rw [List.length_map]; omega, ?_, rfl⟩
      rw [take_next ha, List.filter_append, List.map_append, List.filter_cons_of_pos hk]; rfl
    · rw [if_neg hk]
      refine ⟨?_, rfl⟩
      rw [take_next ha, List.filter_append, List.filter_cons_of_neg (by simpa using hk), List.filter_nil, List.append_nil]
  · subst ea eL ed
    rw [List.length_map, List.take_length]
    exact r p
/-- [elt for tg in own list], frozen at once -/
theorem ev_mapW {js : List Nat} {α : Type} (own : List (Str × Nat)) (φ g : α → D) (hc : X.calm = true) (hN : X.N.Nodup) (ok : blkC X.N X.env.scope scope own = true) (hjs : ∀ j ∈ js, j ∈ own.map (·.2))
    (h : IterW X tg iter Γ L fun a cs ds L1 => ∃ l : List α, ds = l.map φ ∧ l.length ≤ sizeLine ∧ (a, D.lst cs) ∈ L1 ∧ (∀ a ∈ l, Itm X tg elt scope js (own.map (·.2)) Γ L1 (φ a) (g a)) ∧ R (.lst (l.map g)) L1)
    (hs : ∀ x, foldedSetIterable iter X.env x = pure x := by intro _; rfl) : EvX X (.ListComp elt [⟨tg, iter, [], 0⟩] scope pos) Γ L R :=
  ev_fz (ev_lcW hc hN (blkOk_by ok) hjs (fun _ _ _ _ _ => pts_nil) (lc_mapW φ g (.mk fun S q => h.run S fun J a cs ds H1 L1 ⟨l, ed, z, mm, he, r⟩ S1 it => q J a cs ds H1 L1 ⟨l, ed, z, mm, he, fun p => fz_last r⟩ S1 it)) hs)
theorem ev_selW {js : List Nat} {α : Type} (own : List (Str × Nat)) (φ g : α → D) (cc : α → Bool) (hc : X.calm = true) (hN : X.N.Nodup) (ok : blkC X.N X.env.scope scope own = true) (hjs : ∀ j ∈ js, j ∈ own.map (·.2))
    (h : IterW X tg iter Γ L fun a cs ds L1 => ∃ l : List α, ds = l.map φ ∧ l.length ≤ sizeLine ∧ (a, D.lst cs) ∈ L1 ∧ (∀ a ∈ l, ItmS X tg elt c scope js (own.map (·.2)) Γ L1 (φ a) (cc a) (g a)) ∧ R (.lst ((l.filter cc).map g)) L1)
    (hs : ∀ x, foldedSetIterable iter X.env x = pure x := by intro _; rfl) : EvX X (.ListComp elt [⟨tg, iter, [c], 0⟩] scope pos) Γ L R :=
  ev_fz (ev_lcW hc hN (blkOk_by ok) hjs (fun _ _ _ _ _ => pts_one pt_w) (lc_selW φ g cc (.mk fun S q => h.run S fun J a cs ds H1 L1 ⟨l, ed, z, mm, he, r⟩ S1 it => q J a cs ds H1 L1 ⟨l, ed, z, mm, he, fun p => fz_last r⟩ S1 it)) hs)
/-- y = [elt for tg in an own list (if c)], frozen -/
theorem st_mapW {js : List Nat} {α : Type} {y : Str} {py spos : Pos} (i : Nat) (own : List (Str × Nat)) (φ g : α → D) (hc : X.calm = true) (hN : X.N.Nodup) (ok : blkC X.N X.env.scope scope own = true) (hjs : ∀ j ∈ js, j ∈ own.map (·.2))
    (h : IterW X tg iter Γ L fun a cs ds L1 => ∃ l : List α, ds = l.map φ ∧ l.length ≤ sizeLine ∧ (a, D.lst cs) ∈ L1 ∧ (∀ a ∈ l, Itm X tg elt scope js (own.map (·.2)) Γ L1 (φ a) (g a)) ∧ E.nx (Γ.set i (some (.lst (l.map g)))) L1)
    (hs : ∀ x, foldedSetIterable iter X.env x = pure x := by intro _; rfl) (hsw : swapsWith (.ListComp elt [⟨tg, iter, [], 0⟩] scope pos) (some (.Name y py)) spos.line X.env = pure true := by exact sw_true rfl rfl rfl rfl) (hl : Nat.ble (i + 1) Γ.length = true := by rfl) (hy : X.N[i]? = some y := by rfl) (hyl : X.env.scope.names.lookup y = some .local := by rfl) : StX X (.Assign [.Name y py] (.ListComp elt [⟨tg, iter, [], 0⟩] scope pos) spos) Γ L E :=
  st_frz i (st_lcW i hc hN (blkOk_by ok) hjs (fun _ _ _ _ _ => pts_nil) hsw (lc_mapW φ g (.mk fun S q => h.run S fun J a cs ds H1 L1 ⟨l, ed, z, mm, he, r⟩ S1 it => q J a cs ds H1 L1 ⟨l, ed, z, mm, he, fun p => ⟨L1.length, p, .lst (l.map g), by simp, set_at (Nat.le_of_ble_eq_true hl), by rw [eraseIdx_snoc, set_set]; exact r⟩⟩ S1 it)) hs hy hyl)
end
end DL
set_option maxRecDepth 100000
set_option maxHeartbeats 4000000
/-! DLQ: in an own list, places in lists and tuples, lists of lists compared. -/
namespace DL
open PySem PySem.Spec PyProof.Rows L2
section
variable {X : Cx} {Γ : Gam} {L : Cells} {R : RD} {e f o : Expr} {pos apos cpos : Pos} {E : En} {K : PySem.W.Frag}
theorem o2_inC {neg : Bool} {d : D} {ds : List D} {k : Bool} {a : Addr} (hm : (a, D.lst ds) ∈ L) (p : d.sc = true) (ps : ds.all D.sc = true) (e : inV d.v (ds.map D.v) = k) (r : R (.bl (if neg then !k else k)) L) : Op2 K (rIn K neg) d (.ref a) L R := .mk fun {B0 F H σ Γ ts τ x y Q} S q => by
  obtain ⟨o1, o2, S2⟩ := S.two
  have hx := o1.sc p
  subst hx
  cases o2
  obtain ⟨xs, hx, t⟩ := S2.cells _ hm
  have := t.sc ps
  subst this
  exact ⟨a, _, rfl, .inl (SqL.of hx), sc_flatV p, all_flat ps, by rw [e]; exact q _ _ _ _ r (S2.push (.bl _))⟩
theorem inV_ints (i : Int) : ∀ l : List Int, inV (.int i) (l.map V.int) = decide (i ∈ l)
  | [] => by simp [inV]
  | j :: l => by
    have ih := inV_ints i l
    simp only [inV] at ih ⊢
    simp only [List.map_cons, List.any_cons, ih, eqV_int]
    by_cases h : i = j
    · subst h; simp
    · have h' : ¬ j = i := fun z => h z.symm
      simp [h, h']
theorem sc_dints : ∀ l : List Int, (dints l).all D.sc = true
  | [] => rfl
  | i :: l => by
    show (true && (dints l).all D.sc) = true
    rw [sc_dints l]; rfl
theorem dints_v (l : List Int) : (dints l).map D.v = l.map V.int := by unfold dints; rw [List.map_map]; rfl
/-- i in an own list of ints -/
theorem o2_inCI {neg : Bool} {i : Int} {l : List Int} {a : Addr} (hm : (a, D.lst (dints l)) ∈ L) (r : R (.bl (if neg then !decide (i ∈ l) else decide (i ∈ l))) L) : Op2 K (rIn K neg) (.int i) (.ref a) L R :=
  o2_inC hm rfl (sc_dints l) (by rw [dints_v]; exact inV_ints i l) r
/-- .. in a frozen list, a tuple of ints -/
theorem o2_inI {neg : Bool} {i : Int} {l : List Int} {d2 : D} (h2 : d2 = .tup (dints l) ∨ d2 = .lst (dints l)) (r : R (.bl (if neg then !decide (i ∈ l) else decide (i ∈ l))) L) : Op2 K (rIn K neg) (.int i) d2 L R :=
  o2_in h2 rfl (sc_dints l) (by rw [dints_v]; exact inV_ints i l) r
theorem idx_at {l : List Nat} {u : Nat} (h : u ∈ l) : (l.map fun (n : Nat) => (n : Int))[l.idxOf u]? = some (u : Int) ∧ ∀ m, m < l.idxOf u → (l.map fun (n : Nat) => (n : Int))[m]? ≠ some (u : Int) := by
  have hl := List.idxOf_lt_length_of_mem h
  refine ⟨?_, fun m hm e => ?_⟩
  · rw [List.getElem?_map, List.getElem?_eq_getElem hl, List.getElem_idxOf hl]; rfl
  · rw [List.getElem?_map, Option.map_eq_some_iff] at e
    obtain ⟨n, hn, e⟩ := e
    have e : n = u := Int.ofNat_inj.mp e
    subst e
    obtain ⟨h1, h2⟩ := List.getElem?_eq_some_iff.mp hn
    have h3 : m < l.findIdx (· == n) := hm
    have := List.not_of_lt_findIdx h3
    rw [h2] at this
    simp at this
/-- l.index(i), a frozen list of numbers -/
theorem ev_index (h : EvX X o Γ L fun d L1 => ∃ l : List Nat, d = .lst (dnats l) ∧ EvX X e Γ L1 fun d2 L2 => ∃ u : Nat, d2 = .int u ∧ u ∈ l ∧ R (.int (l.idxOf u : Nat)) L2)
    (hbase : attributeBase o "index" X.env (eval o X.env) = eval o X.env := by rfl)
    (hfew : ((backTo cpos (starEach [e] X.env)).all (fun x => !x.1) && (backToKw cpos (keywordEach [] X.env)).all (fun x => x.1.isSome)
      && decide ([e].length + ([] : List Keyword).length + (if ([] : List Keyword).isEmpty then 0 else 1) < 30)) = true := by rfl)
    (hline : (apos.endLine == cpos.line) = true := by rfl) (hs : starEach [e] X.env = (false, eval e X.env) :: starEach [] X.env := by rfl) (hplain : (backTo cpos (starEach [] X.env)).any (·.1) = false := by rfl) :
    EvX X (.Call (.Attribute o "index" apos) [e] [] cpos) Γ L R :=
  ev_bm PySem.F.plainAttrs_list PySem.F.slot_list_index PySem.F.type_list_index mt_index (h.imp fun d L1 ⟨l, ed, h1⟩ => by
    subst ed
    refine ⟨tyd_lst, ag_cons (h1.imp fun d2 L2 ⟨u, e2, hu, r⟩ => ?_) hs⟩
    subst e2
    obtain ⟨i1, i2⟩ := idx_at hu
    rw [dnats_dints]
    exact ag_nil (om_indexF i1 i2 r)) hbase hfew hline hs hplain
/-- an own list against data -/
theorem o2_neC {a : Addr} {ds : List D} {d2 : D} {k : Bool} (hm : (a, D.lst ds) ∈ L) (hp : ∀ d ∈ ds, Plain d) (p2 : d2.pure = true) (s2 : SeqAt.shaped d2.py = true) (e : PyData.eqv (D.lst ds).py d2.py = k) (r : R (.bl (!k)) L) : Op2 K (rNeD K) (.ref a) d2 L R := .mk fun {B0 F H σ Γ ts τ x y Q} S q => by
  obtain ⟨o1, o2, S2⟩ := S.two
  cases o1
  obtain ⟨xs, hx, t⟩ := S2.cells _ hm
  refine ⟨(D.lst ds).py, d2.py, .lst (SqL.of hx) (ObL.dps vis_le _ _ (pures_of hp) t), Ob.dp vis_le _ _ p2 o2, shaped_lst hp, s2, ?_⟩
  rw [e]
  exact q _ _ _ _ r (S2.push (.bl _))
theorem o2_eqC {a : Addr} {ds : List D} {d2 : D} {k : Bool} (hm : (a, D.lst ds) ∈ L) (hp : ∀ d ∈ ds, Plain d) (p2 : d2.pure = true) (s2 : SeqAt.shaped d2.py = true) (e : PyData.eqv (D.lst ds).py d2.py = k) (r : R (.bl k) L) : Op2 K (rEqD K) (.ref a) d2 L R := .mk fun {B0 F H σ Γ ts τ x y Q} S q => by
  obtain ⟨o1, o2, S2⟩ := S.two
  cases o1
  obtain ⟨xs, hx, t⟩ := S2.cells _ hm
  refine ⟨(D.lst ds).py, d2.py, .lst (SqL.of hx) (ObL.dps vis_le _ _ (pures_of hp) t), Ob.dp vis_le _ _ p2 o2, shaped_lst hp, s2, ?_⟩
  rw [e]
  exact q _ _ _ _ r (S2.push (.bl _))
/-! ### own objects that are no longer needed -/
theorem ev_dr (h : EvX X e Γ L fun d L1 => ∃ k a d', L1[k]? = some (a, d') ∧ R d (L1.eraseIdx k)) : EvX X e Γ L R := .mk fun {B0 F H σ ts τ Q} S q => h.run S fun v d H' L' ⟨k, a, d', hk, r⟩ S' => by
  obtain ⟨S1, _, _⟩ := S'.freeze hk
  exact q _ _ _ _ r S1
theorem bl_dr {sts : List Stmt} (k : Nat) {a : Addr} {d : D} (hk : L[k]? = some (a, d)) (h : BlX X sts Γ (L.eraseIdx k) E) : BlX X sts Γ L E := .mk fun S ok => h.run (S.freeze hk).1 ok
theorem te_dr {R : Bool → Cells → Prop} (h : TeX X e Γ L fun d L1 => ∃ k a d', L1[k]? = some (a, d') ∧ R d (L1.eraseIdx k)) : TeX X e Γ L R := .mk fun {B0 F H σ ts τ Q} S q => h.run S fun v H' L' ⟨k, a, d', hk, r⟩ S' => by
  obtain ⟨S1, _, _⟩ := S'.freeze hk
  exact q _ _ _ r S1
/-! ### rows of numbers -/
theorem eqv_natsL : ∀ l m : List Nat, PyData.eqvAll (D.pys (dnats l)) (D.pys (dnats m)) = decide (l = m)
  | [], [] => by simp [dnats, D.pys, PyData.eqvAll]
  | [], b :: m => by simp [dnats, D.pys, PyData.eqvAll]
  | a :: l, [] => by simp [dnats, D.pys, PyData.eqvAll]
  | a :: l, b :: m => by
    have ih := eqv_natsL l m
    simp only [dnats] at ih
    simp only [dnats, List.map_cons, D.pys, D.py, PyData.eqvAll, PyData.eqv, ih]
    rw [Bool.eq_iff_iff]
    simp only [Bool.and_eq_true, decide_eq_true_eq, beq_iff_eq, Int.ofNat_inj, List.cons.injEq]
def natsL (l : List Nat) : D := .lst (dnats l)
def rowsL (s : List (List Nat)) : D := .lst (s.map natsL)
theorem eqv_rowsL : ∀ l m : List (List Nat), PyData.eqvAll (D.pys (l.map natsL)) (D.pys (m.map natsL)) = decide (l = m)
  | [], [] => by simp [D.pys, PyData.eqvAll]
  | [], b :: m => by simp [D.pys, PyData.eqvAll]
  | a :: l, [] => by simp [D.pys, PyData.eqvAll]
  | a :: l, b :: m => by
    have ih := eqv_rowsL l m
    simp only [List.map_cons, D.pys, natsL, D.py, PyData.eqvAll, PyData.eqv, eqv_natsL] at ih ⊢
    rw [ih, Bool.eq_iff_iff]
    simp only [Bool.and_eq_true, decide_eq_true_eq, List.cons.injEq]
theorem eqv_rows (l m : List (List Nat)) : PyData.eqv (rowsL l).py (rowsL m).py = decide (l = m) := by
  simp only [rowsL, D.py, PyData.eqv]
  exact eqv_rowsL l m
theorem eqv_rowsN (l : List (List Nat)) : PyData.eqv (rowsL l).py D.non.py = false := by simp [rowsL, D.py, PyData.eqv]
theorem lay_nats : ∀ l : List Nat, PyData.canLayAll0 (D.pys (dnats l)) = true
  | [] => by simp [dnats, D.pys, PyData.canLayAll0]
  | a :: l => by
    have ih := lay_nats l
    simp only [dnats] at ih
    simp [dnats, D.pys, D.py, PyData.canLayAll0, PyData.canLay0, ih]
theorem dep_nats' : ∀ cs : List Nat, PyData.depthAll (D.pys (dnats cs)) ≤ 1
  | [] => by simp [dnats, D.pys, PyData.depthAll]
  | c :: cs => by
    have ih := dep_nats' cs
    simp only [dnats] at ih
    simp only [dnats, List.map_cons, D.pys, D.py, PyData.depthAll, PyData.depth]
    omega
theorem pure_dn (l : List Nat) : D.pures (dnats l) = true := pures_of fun d hd => by
  obtain ⟨n, _, rfl⟩ := List.mem_map.mp hd
  exact plain_int _
theorem plain_natsL (l : List Nat) : Plain (natsL l) := ⟨pure_dn l, by simp [natsL, D.py, PyData.canLay0, lay_nats], by have := dep_nats' l; simp [natsL, D.py, PyData.depth]; omega⟩
theorem plain_rows {s : List (List Nat)} : ∀ d ∈ s.map natsL, Plain d := fun d hd => by
  obtain ⟨l, _, rfl⟩ := List.mem_map.mp hd
  exact plain_natsL l
end
end DL
/-! ME: what the law asks of parts, plain. -/
namespace K50
open List
/-- two maps from one thing pair what they meet -/
def TwoR (ms : List Nd) (s : Nat) (f h : Nat → Nat) (u v : Nat) : Prop := ∃ x, Rch ms s x ∧ u = f x ∧ v = h x
theorem two_mtx {ms : List Nd} {s t r : Nat} {σ : Nat → List Nat} {G H : Gr} {f h : Nat → Nat} (F : HomS ms s σ G.nodes t G.sc f) (D : HomS ms s σ H.nodes r H.sc h)
    (fl : ∀ x, Rch ms s x → f x < G.n) (hl : ∀ x, Rch ms s x → h x < H.n) : MtX G H (TwoR ms s f h) := by
  have e1 : ∀ x, Rch ms s x → G.nd (f x) = (nat ms x).rn f := fun x hx => F.nd x hx
  have e2 : ∀ x, Rch ms s x → H.nd (h x) = (nat ms x).rn h := fun x hx => D.nd x hx
  refine ⟨?_, ?_, ?_⟩
  · rintro u v ⟨x, hx, rfl, rfl⟩
    exact ⟨fl x hx, hl x hx⟩
  · rintro u v ⟨x, hx, rfl, rfl⟩
    rw [e1 x hx, e2 x hx, rn_kind, rn_wd, rn_ch, rn_kind, rn_wd, rn_ch, List.length_map, List.length_map, F.sc x hx, D.sc x hx, List.length_map, List.length_map]
    exact ⟨rfl, rfl, rfl, rfl⟩
  · rintro u v ⟨x, hx, rfl, rfl⟩ i a b h1 h2
    rw [e1 x hx, rn_ch, List.getElem?_map, Option.map_eq_some_iff] at h1
    rw [e2 x hx, rn_ch, List.getElem?_map, Option.map_eq_some_iff] at h2
    obtain ⟨y, hy, rfl⟩ := h1
    obtain ⟨z, hz, rfl⟩ := h2
    rw [hy] at hz
    cases hz
    exact ⟨y, .step hx (List.mem_of_getElem? hy), rfl, rfl⟩
theorem hds_len2 {G H : Gr} {R : Nat → Nat → Prop} {l m : List Nat} (g : GrP G) (k : GrP H) (a : Hds G l) (b : Hds H m) (M : MtX G H R) (tot : ∀ u, u < G.n → ∃ v, R u v) (sur : ∀ v, v < H.n → ∃ u, R u v) : l.length = m.length := by
  refine Nat.le_antisymm (hds_le a b fun u hu => ?_) (hds_le b a fun v hv => ?_)
  · obtain ⟨v, r⟩ := tot u hu
    exact ⟨v, (M.lt u v r).2, M.spg g k r⟩
  · obtain ⟨u, r⟩ := sur v hv
    exact ⟨u, (M.lt u v r).1, (M.spg g k r).symm⟩
/-- an injective map's own functions around -/
theorem HomS.id (ns : List Nd) (s : Nat) (σ : Nat → List Nat) : HomS ns s σ ns s σ fun x => x :=
  ⟨⟨rfl, fun u _ => by cases nat ns u <;> simp [Nd.rn]⟩, fun u _ => by simp⟩
theorem HomS.comp {ns ms ks : List Nd} {s t r : Nat} {σ τ ρ : Nat → List Nat} {c d : Nat → Nat} (h : HomS ns s σ ms t τ c) (k : HomS ms t τ ks r ρ d) : HomS ns s σ ks r ρ fun x => d (c x) :=
  ⟨h.toHom.comp k.toHom, fun u hu => by rw [k.sc _ (h.toHom.fwd hu), h.sc u hu, List.map_map]; rfl⟩
/-- scopes are carried by an injective map -/
theorem Iso.homS {ns ms : List Nd} {s t : Nat} {c : Nat → Nat} {σ τ : Nat → List Nat} (h : Iso ns s ms t c) (W : WS ns s σ) (hσ : ∀ u, Rch ns s u → Sc ns u (σ u)) (hτ : ∀ v, Rch ms t v → Sc ms v (τ v)) : HomS ns s σ ms t τ c := by
  obtain ⟨ρ, hρ⟩ := h.toHom.homS (σ := σ) h.inj
  exact ⟨h.toHom, fun u hu => hρ.scope W hu (hσ u hu) (hτ _ (h.toHom.fwd hu))⟩
theorem GrP.scs {G : Gr} (g : GrP G) : ∀ u, Rch G.nodes 0 u → Sc G.nodes u (G.sc u) := fun u hu => g.sc u (g.lt hu)
/-! ### changes -/
section
variable {G H K : Gr} {u v x : Nat}
theorem SPg.next (S : SPg G H u v) (T : SPg H K v x) {a b : Nat} (h1 : OpMg G H u v (a, b)) : ∃ c, OpMg H K v x (b, c) ∧ OpMg G K u x (a, c) := by
  obtain ⟨p, m, o, e⟩ := h1
  obtain ⟨w, hw1, hw2⟩ := met_way m
  obtain ⟨d, hd, m2⟩ := way_met T.all hw2
  have hb : OpMg H K v x (b, K.tg d.1) := ⟨(p.2, d), m2, (open_eq (S.all _ m)).symm.trans o, by rw [show b = H.tg p.2.1 from congrArg Prod.snd e]; rfl⟩
  exact ⟨K.tg d.1, hb, S.put T ⟨p, m, o, e⟩ hb⟩
end
theorem srt_eq {l m : List (Nat × Nat)} (hl : Srt l) (hm : Srt m) (h : ∀ q, q ∈ l ↔ q ∈ m) : l = m := by
  have hp : l.Perm m := (List.perm_ext_iff_of_nodup (srt_nodup hl) (srt_nodup hm)).mpr h
  exact List.Perm.eq_of_pairwise (le := fun a b : Nat × Nat => a.1 * 128 + a.2 < b.1 * 128 + b.2) (fun a b _ _ h1 h2 => absurd h1 (by omega)) hl hm hp
/-- what is put for b -/
def later (qs : List (Nat × Nat)) (b : Nat) : Nat := (qs.lookup b).getD 0
theorem later_at {qs : List (Nat × Nat)} (one : ∀ q ∈ qs, ∀ r ∈ qs, q.1 = r.1 → q.2 = r.2) {b c : Nat} (h : (b, c) ∈ qs) : qs.lookup b = some c := by
  induction qs with
  | nil => cases h
  | cons q qs ih =>
    obtain ⟨a, d⟩ := q
    by_cases e : b = a
    · subst e
      rw [List.lookup_cons_self]
      exact congrArg some (one (b, d) (by simp) (b, c) h rfl)
    · have hb : (b == a) = false := by simpa using e
      rw [List.lookup_cons, hb]
      refine ih (fun q hq r hr => one q (by simp [hq]) r (by simp [hr])) ?_
      rcases List.mem_cons.mp h with h | h
      · cases h; exact absurd rfl e
      · exact h
/-- one change behind the other -/
theorem put_eq {G : Gr} (g : GrP G) {u v x : Nat} (hu : u < G.n) (hv : v < G.n) (hx : x < G.n) (S : SPg G G u v) (T : SPg G G v x) {ps qs rs : List (Nat × Nat)}
    (sp : Srt ps) (mp : ∀ q, q ∈ ps ↔ OpMg G G u v q) (mq : ∀ q, q ∈ qs ↔ OpMg G G v x q) (sr : Srt rs) (mr : ∀ q, q ∈ rs ↔ OpMg G G u x q) :
    (∀ p ∈ ps, ∃ c, (p.2, c) ∈ qs ∧ qs.lookup p.2 = some c) ∧ rs = ps.map fun p => (p.1, later qs p.2) := by
  have one : ∀ q ∈ qs, ∀ r ∈ qs, q.1 = r.1 → q.2 = r.2 := fun q hq r hr e => (T.one q r ((mq q).mp hq) ((mq r).mp hr)).mp e
  have key : ∀ p ∈ ps, ∃ c, (p.2, c) ∈ qs ∧ qs.lookup p.2 = some c ∧ OpMg G G u x (p.1, c) := fun p hp => by
    obtain ⟨c, h1, h2⟩ := S.next T ((mp p).mp hp)
    have h3 := (mq _).mpr h1
    exact ⟨c, h3, later_at one h3, h2⟩
  have lt : ∀ {a b : Nat} {y z : Nat}, a < G.n → b < G.n → SPg G G a b → OpMg G G a b (y, z) → y < 100 ∧ z < 100 := fun {a b y z} ha hb s h => by
    have h1 := op_in g g ha hb s.all h
    have f1 := g.lt (g.ws.mem (g.all a ha) h1.1).1
    have f2 := g.lt (g.ws.mem (g.all b hb) h1.2).1
    have := g.ok.few
    exact ⟨Nat.lt_of_lt_of_le f1 this, Nat.lt_of_lt_of_le f2 this⟩
  refine ⟨fun p hp => ?_, srt_eq sr ?_ fun q => ?_⟩
  · obtain ⟨c, h1, h2, _⟩ := key p hp
    exact ⟨c, h1, h2⟩
  · unfold Srt
    rw [List.pairwise_map]
    refine List.Pairwise.imp_of_mem ?_ sp
    intro p q hp hq hlt
    obtain ⟨c, _, h2, h3⟩ := key p hp
    obtain ⟨d, _, k2, k3⟩ := key q hq
    have b1 := lt hu hv S ((mp p).mp hp)
    have b2 := lt hu hv S ((mp q).mp hq)
    have b3 := lt hu hx (S.trans T) h3
    have b4 := lt hu hx (S.trans T) k3
    have ne : p.1 ≠ q.1 := fun e => by
      have e2 := (S.one p q ((mp p).mp hp) ((mp q).mp hq)).mp e
      rw [e, e2] at hlt
      exact Nat.lt_irrefl _ hlt
    simp only [later, h2, k2, Option.getD_some]
    omega
  · rw [mr]
    constructor
    · intro h
      obtain ⟨b, h1, h2⟩ := S.mid T h
      have hp := (mp _).mpr h1
      obtain ⟨c, k1, k2, k3⟩ := key _ hp
      refine List.mem_map.mpr ⟨_, hp, ?_⟩
      have e : c = q.2 := (T.one (b, c) (b, q.2) ((mq _).mp k1) h2).mp rfl
      simp only [later, k2, Option.getD_some, e]
    · intro h
      obtain ⟨p, hp, rfl⟩ := List.mem_map.mp h
      obtain ⟨c, k1, k2, k3⟩ := key p hp
      simp only [later, k2, Option.getD_some]
      exact k3
/-! ### classes -/
theorem filter_one {α : Type} [DecidableEq α] {l : List α} (nd : l.Nodup) {a : α} (ha : a ∈ l) {p : α → Bool} (hp : ∀ x ∈ l, p x = decide (x = a)) : l.filter p = [a] := by
  induction l with
  | nil => cases ha
  | cons b l ih =>
    rw [List.nodup_cons] at nd
    have hb := hp b (by simp)
    by_cases e : b = a
    · subst e
      rw [List.filter_cons_of_pos (by rw [hb]; simp)]
      congr 1
      refine List.filter_eq_nil_iff.mpr fun x hx => ?_
      rw [hp x (by simp [hx])]
      simp only [decide_eq_true_eq]
      rintro rfl
      exact nd.1 hx
    · rw [List.filter_cons_of_neg (by rw [hb]; simpa using e)]
      refine ih nd.2 ?_ fun x hx => hp x (by simp [hx])
      rcases List.mem_cons.mp ha with h | h
      · exact absurd h.symm e
      · exact h
theorem Clz.grp {G : Gr} {ms : List Nat} (c : Clz G ms) {u : Nat} (hu : u < G.n) : (ddl ms).filter (fun m => decide (u ∈ grp ms m)) = [mrk ms u] := by
  have hm := mrk_at (ms := ms) (u := u) (by rw [c.ln]; exact hu)
  refine filter_one (ddl_nodup ms) (ddl_mem.mpr (List.mem_of_getElem? hm)) fun x hx => decide_eq_decide.mpr ?_
  rw [grp_mem, hm]
  exact ⟨fun e => (Option.some.inj e).symm, fun e => by rw [e]⟩
theorem Clz.mem_grp {G : Gr} {ms : List Nat} (c : Clz G ms) {u v : Nat} : v ∈ K50.grp ms (mrk ms u) ↔ v < G.n ∧ mrk ms v = mrk ms u := by
  rw [grp_mem]
  constructor
  · intro e
    have hl := (List.getElem?_eq_some_iff.mp e).1
    rw [mrk_at hl] at e
    exact ⟨by rw [← c.ln]; exact hl, Option.some.inj e⟩
  · rintro ⟨h1, h2⟩
    rw [mrk_at (by rw [c.ln]; exact h1), h2]
/-- classes of parts -/
structure Pcl (G : Gr) (gs : List (List Nat)) : Prop where
  hds : Hds G (gs.map fun g => g.headD 0)
  ne : ∀ g ∈ gs, g ≠ []
  mem : ∀ g ∈ gs, ∀ v, v ∈ g ↔ v < G.n ∧ SPg G G (g.headD 0) v
/-- .. of the nodes below i -/
structure PclI (G : Gr) (i : Nat) (gs : List (List Nat)) : Prop where
  nd : (gs.map fun g => g.headD 0).Nodup
  ap : ∀ g ∈ gs, ∀ h ∈ gs, SPg G G (g.headD 0) (h.headD 0) → g.headD 0 = h.headD 0
  ne : ∀ g ∈ gs, g ≠ []
  mem : ∀ g ∈ gs, ∀ v, v ∈ g → v < i ∧ SPg G G (g.headD 0) v
  all : ∀ v, v < i → ∃ g ∈ gs, v ∈ g
theorem spg_refl {G : Gr} (g : GrP G) {u : Nat} (hu : u < G.n) : SPg G G u u := by
  have M := homS_mtx g (HomS.id G.nodes 0 G.sc) g
  exact M.spg g g ⟨hu, rfl⟩
theorem headD_mem {l : List Nat} (h : l ≠ []) : l.headD 0 ∈ l := by
  cases l with
  | nil => exact absurd rfl h
  | cons a l => simp
theorem map_inj {α β : Type} {f : α → β} {l : List α} (nd : (l.map f).Nodup) {a b : α} (ha : a ∈ l) (hb : b ∈ l) (e : f a = f b) : a = b := by
  induction l with
  | nil => cases ha
  | cons c l ih =>
    rw [List.map_cons, List.nodup_cons] at nd
    rcases List.mem_cons.mp ha with e1 | ha'
    · rcases List.mem_cons.mp hb with e2 | hb'
      · rw [e1, e2]
      · exact absurd (by rw [← e1, e]; exact List.mem_map_of_mem hb') nd.1
    · rcases List.mem_cons.mp hb with e2 | hb'
      · exact absurd (by rw [← e2, ← e]; exact List.mem_map_of_mem ha') nd.1
      · exact ih nd.2 ha' hb'
theorem PclI.done {G : Gr} (g : GrP G) {gs : List (List Nat)} (I : PclI G G.n gs) : Pcl G gs := by
  have mem : ∀ g ∈ gs, ∀ v, v ∈ g ↔ v < G.n ∧ SPg G G (g.headD 0) v := fun a ha v => by
    refine ⟨I.mem a ha v, fun ⟨hv, s⟩ => ?_⟩
    obtain ⟨b, hb, hvb⟩ := I.all v hv
    have s2 := (I.mem b hb v hvb).2
    have e := I.ap a ha b hb (s.trans s2.symm)
    rw [map_inj (f := fun g : List Nat => g.headD 0) I.nd ha hb e]
    exact hvb
  refine ⟨⟨fun u hu => ?_, I.nd, fun u hu v hv s => ?_, fun v hv => ?_⟩, I.ne, mem⟩
  · obtain ⟨a, ha, rfl⟩ := List.mem_map.mp hu
    exact (I.mem a ha _ (headD_mem (I.ne a ha))).1
  · obtain ⟨a, ha, rfl⟩ := List.mem_map.mp hu
    obtain ⟨b, hb, rfl⟩ := List.mem_map.mp hv
    exact I.ap a ha b hb s
  · obtain ⟨b, hb, hvb⟩ := I.all v hv
    exact ⟨_, List.mem_map_of_mem hb, (I.mem b hb v hvb).2⟩
theorem PclI.zero (G : Gr) : PclI G 0 [] := ⟨by simp, by simp, by simp, by simp, fun v hv => absurd hv (Nat.not_lt_zero v)⟩
theorem PclI.new {G : Gr} (g : GrP G) {i : Nat} {gs : List (List Nat)} (I : PclI G i gs) (hi : i < G.n) (h : ∀ a ∈ gs, ¬ SPg G G (a.headD 0) i) : PclI G (i + 1) (gs ++ [[i]]) := by
  have lt : ∀ a ∈ gs, a.headD 0 < i := fun a ha => (I.mem a ha _ (headD_mem (I.ne a ha))).1
  refine ⟨?_, fun a ha b hb s => ?_, fun a ha => ?_, fun a ha v hv => ?_, fun v hv => ?_⟩
  · rw [List.map_append]
    refine nodup_snoc I.nd fun z => ?_
    obtain ⟨a, ha, e⟩ := List.mem_map.mp z
    have := lt a ha
    have e : a.headD 0 = i := e
    omega
  · rcases List.mem_append.mp ha with ha | ha <;> rcases List.mem_append.mp hb with hb | hb
    · exact I.ap a ha b hb s
    · rw [List.mem_singleton.mp hb] at s
      exact absurd s (h a ha)
    · rw [List.mem_singleton.mp ha] at s
      exact absurd s.symm (h b hb)
    · rw [List.mem_singleton.mp ha, List.mem_singleton.mp hb]
  · rcases List.mem_append.mp ha with ha | ha
    · exact I.ne a ha
    · rw [List.mem_singleton.mp ha]; simp
  · rcases List.mem_append.mp ha with ha | ha
    · have := I.mem a ha v hv
      exact ⟨by omega, this.2⟩
    · rw [List.mem_singleton.mp ha] at hv ⊢
      rw [List.mem_singleton.mp hv]
      exact ⟨by omega, spg_refl g hi⟩
  · by_cases e : v = i
    · exact ⟨[i], by simp, by simp [e]⟩
    · obtain ⟨a, ha, hva⟩ := I.all v (by omega)
      exact ⟨a, by simp [ha], hva⟩
theorem headD_snoc {l : List Nat} (h : l ≠ []) (i : Nat) : (l ++ [i]).headD 0 = l.headD 0 := by
  cases l with
  | nil => exact absurd rfl h
  | cons a l => rfl
theorem PclI.old {G : Gr} {i j : Nat} {gs : List (List Nat)} {a : List Nat} (I : PclI G i gs) (hj : gs[j]? = some a) (h : SPg G G (a.headD 0) i) : PclI G (i + 1) (gs.set j (a ++ [i])) := by
  have ha := List.mem_of_getElem? hj
  have jl := (List.getElem?_eq_some_iff.mp hj).1
  have em : (gs.set j (a ++ [i])).map (fun g => g.headD 0) = gs.map fun g => g.headD 0 := by
    rw [List.map_set, headD_snoc (I.ne a ha)]
    refine List.ext_getElem? fun k => ?_
    by_cases hk : j = k
    · subst hk
      rw [List.getElem?_set_self (by simpa using jl), List.getElem?_map, hj]; rfl
    · rw [List.getElem?_set_ne hk]
  have back : ∀ b ∈ gs.set j (a ++ [i]), ∃ b0 ∈ gs, b.headD 0 = b0.headD 0 ∧ b ≠ [] ∧ ∀ v ∈ b, v ∈ b0 ∨ (v = i ∧ b0 = a) := fun b hb => by
    rcases List.mem_or_eq_of_mem_set hb with hb | rfl
    · exact ⟨b, hb, rfl, I.ne b hb, fun v hv => .inl hv⟩
    · exact ⟨a, ha, headD_snoc (I.ne a ha) i, by simp, fun v hv => (List.mem_append.mp hv).imp id fun z => ⟨List.mem_singleton.mp z, rfl⟩⟩
  refine ⟨by rw [em]; exact I.nd, fun b hb c hc s => ?_, fun b hb => ?_, fun b hb v hv => ?_, fun v hv => ?_⟩
  · obtain ⟨b0, h1, e1, _⟩ := back b hb
    obtain ⟨c0, h2, e2, _⟩ := back c hc
    rw [e1, e2] at s ⊢
    exact I.ap b0 h1 c0 h2 s
  · obtain ⟨_, _, _, h1, _⟩ := back b hb
    exact h1
  · obtain ⟨b0, h1, e1, _, h2⟩ := back b hb
    rw [e1]
    rcases h2 v hv with h3 | ⟨rfl, rfl⟩
    · have := I.mem b0 h1 v h3
      exact ⟨by omega, this.2⟩
    · exact ⟨by omega, h⟩
  · by_cases e : v = i
    · refine ⟨a ++ [i], ?_, by simp [e]⟩
      exact List.mem_of_getElem? (i := j) (List.getElem?_set_self jl)
    · obtain ⟨b, hb, hvb⟩ := I.all v (by omega)
      obtain ⟨k, hk⟩ := List.mem_iff_getElem?.mp hb
      by_cases hkj : j = k
      · subst hkj
        rw [hj] at hk
        cases hk
        exact ⟨a ++ [i], List.mem_of_getElem? (i := j) (List.getElem?_set_self jl), by simp [hvb]⟩
      · exact ⟨b, List.mem_of_getElem? (i := k) (by rw [List.getElem?_set_ne hkj]; exact hk), hvb⟩
theorem Pcl.one {G : Gr} {gs : List (List Nat)} (P : Pcl G gs) {u : Nat} (hu : u < G.n) : ∃ a ∈ gs, u ∈ a ∧ gs.filter (fun b => decide (u ∈ b)) = [a] ∧ ∀ v, v < G.n → (v ∈ a ↔ SPg G G u v) := by
  obtain ⟨h, hh, s⟩ := P.hds.all u hu
  obtain ⟨a, ha, rfl⟩ := List.mem_map.mp hh
  have ua : u ∈ a := (P.mem a ha u).mpr ⟨hu, s⟩
  have nd : gs.Nodup := by
    have := P.hds.nd
    exact List.Pairwise.of_map (R := fun x y => x ≠ y) (fun g : List Nat => g.headD 0) (fun x y h z => h (by rw [z])) this
  refine ⟨a, ha, ua, filter_one nd ha fun b hb => decide_eq_decide.mpr ⟨fun ub => ?_, fun e => e ▸ ua⟩, fun v hv => ?_⟩
  · have s2 := ((P.mem b hb u).mp ub).2
    have := P.hds.ap _ (List.mem_map_of_mem hb) _ (List.mem_map_of_mem ha) (s2.trans s.symm)
    exact map_inj (f := fun g : List Nat => g.headD 0) P.hds.nd hb ha this
  · rw [P.mem a ha v]
    exact ⟨fun z => s.symm.trans z.2, fun z => ⟨hv, s.trans z⟩⟩
theorem Pcl.len {G H : Gr} {R : Nat → Nat → Prop} {gs hs : List (List Nat)} (g : GrP G) (k : GrP H) (P : Pcl G gs) (Q : Pcl H hs) (M : MtX G H R) (tot : ∀ u, u < G.n → ∃ v, R u v) (sur : ∀ v, v < H.n → ∃ u, R u v) : gs.length = hs.length := by
  have := hds_len2 g k P.hds Q.hds M tot sur
  simpa using this
theorem Pcl.le {G : Gr} {gs : List (List Nat)} (P : Pcl G gs) : gs.length ≤ G.n := by
  have := nodup_lt G.n _ P.hds.nd P.hds.lt
  simpa using this
end K50
set_option maxRecDepth 100000
set_option maxHeartbeats 4000000
/-! K24: the law's walk. -/
namespace K50
open PySem PySem.Spec PyProof.Rows L2 DL
/-- nodes in a list -/
def nsL (ns : List Nd) : D := .lst (ns.map Nd.d)
def lwGam (ns : List Nd) (a c : Addr) (o : Option D) : Gam := [some (nsL ns), some (.ref a), some (.ref c), o, none, none, none]
def lwGam2 (ns : List Nd) (od : List Nat) (o2 o3 o5 : Option D) (p : Addr) : Gam := [some (nsL ns), some (.lst (dnats od)), o2, o3, some (.ref p), o5, none]
section
variable {P : Program} {w : World} {K : PySem.W.Frag} {mg : Str → Option Value} {base : Heap}
theorem ok_law_walked (Γ : Pg K mg) : FnOk P w K mg base CX0 2 Γ.law_walked.f Γ.law_walked.fd P_law_walked (spD K (fun x : GIn => [nsL x.ns]) NoC (fun x d L => (∃ od, d = nsL (rnl x.ns od) ∧ WkPost x.ns 0 od) ∧ L = [])) := by
  refine fn_ok Γ.law_walked.F sc_law_walked (fun _ => rfl) (by decide) (fun cdv A outer s H E hr x => ?_)
  have nd := sc_law_walked.nd
  have wk : ∀ {u : Nat}, Rch x.ns 0 u → u < x.ns.length := fun h => rch_lt ⟨x.ns, x.ok, 0, x.h0⟩ h
  refine bl_cons (st_asg (js := [1, 2]) (ev_tup (ag_cons (ev_lst (ag_nil ⟨sz, fun a => ag_cons (ev_lst (ag_cons (ev_int (ag_nil ⟨sz, fun c => ag_nil ⟨sz, tg_2 1 2 rfl nd ?_⟩⟩))))⟩)))))
  refine bl_cons (st_while (fun m Γ' L' => ∃ o fd wt, Γ' = lwGam x.ns a c o ∧ L' = [(a, .lst (dnats fd)), (c, .lst (dnats wt))] ∧ WInv x.ns 0 fd wt ∧ m = 4 * (100 - fd.length) + wt.length ∧ m ≤ 401) _ ⟨none, [], [0], rfl, rfl, .start _ _, rfl, by simp⟩ fun m Γ' L' hW => ?_)
  obtain ⟨o, fd, wt, rfl, rfl, I, rfl, hm401⟩ := hW
  have hlen : ∀ {fd : List Nat}, fd.Nodup → (∀ u ∈ fd, Rch x.ns 0 u) → fd.length ≤ 100 := fun nd h => nodup_lt 100 _ nd fun u hu => Nat.lt_of_lt_of_le (wk (h u hu)) x.ok.few
  have hfd := hlen I.nd I.rf
  refine te_cmp (op_neD hr.units) (ev_v 2 rfl (ev_lstF (ag_nil ⟨sz, o2_neNil (k := 1) rfl plain_dn ⟨_, rfl, ?_⟩⟩)))
  rcases List.eq_nil_or_concat wt with rfl | ⟨wt, u, rfl⟩
  · have W := I.done
    refine iteF (bl_fz 0 1 rfl rfl (bl_cons (st_set 4 nd (ev_lst (ag_nil ⟨sz, fun p => ?_⟩)))))
    have od : ∀ u ∈ fd, u < x.ns.length := fun u hu => wk ((W.mem u).mp hu)
    refine bl_cons (st_for (js := [3]) rfl (itx_list (ev_v 1 rfl ⟨_, rfl, fun i Γ' L' => ∃ o3 o5, Γ' = lwGam2 x.ns fd (some (.ref c)) o3 o5 p ∧ L' = [(c, .lst (dnats [])), (p, .lst ((fd.take i).map fun u => ((nat x.ns u).rn (fd.idxOf ·)).d))], ⟨o, none, rfl, rfl⟩, ?_, ?_⟩)))
    · rintro i d Γ' L' hd ⟨o3, o5, rfl, rfl⟩
      obtain ⟨u, hu, rfl⟩ := map_get hd
      have hum := List.mem_of_getElem? hu
      have hul := od u hum
      have hru := (W.mem u).mp hum
      have hl : ((fd.take i).map fun u => ((nat x.ns u).rn (fd.idxOf ·)).d).length < sizeLine := by
        rw [List.length_map, List.length_take]
        exact szlt (by omega)
      have fin : ∀ {o5 : Option D} {e : D}, e = ((nat x.ns u).rn (fd.idxOf ·)).d → ∃ p3 p5, (lwGam2 x.ns fd (some (.ref c)) (some (.int u)) o5 p) = lwGam2 x.ns fd (some (.ref c)) p3 p5 p ∧ ([(c, .lst (dnats [])), (p, D.lst (((fd.take i).map fun u => ((nat x.ns u).rn (fd.idxOf ·)).d) ++ [e]))] : Cells) = [(c, .lst (dnats [])), (p, .lst ((fd.take (i + 1)).map fun u => ((nat x.ns u).rn (fd.idxOf ·)).d))] := fun {o5 e} he => by
        refine ⟨some (.int u), o5, rfl, ?_⟩
        rw [DL.take_next hu, List.map_append, he]
        rfl
      refine tg_v 3 nd (bl_cons (st_set 5 nd (ev_ix ix_list (ev_v 0 rfl (ev_v 3 rfl (o2_ixL (nat_d hul) ?_))))))
      have hch : ∀ v ∈ (nat x.ns u).ch, v ∈ fd := fun v hv => (W.mem v).mpr (.step hru hv)
      have hvt : ∀ f, nat x.ns u = .var f → f ∈ fd := fun f e => (W.mem f).mpr (x.ws.mem hru (by rw [x.ws.vt u f hru e]; simp)).1
      cases hn : nat x.ns u with
      | word y cs =>
        rw [hn] at hch
        have hcs : cs.length ≤ 3 := by have := (x.ok.ch _ (nat_mem hul)).1; rw [hn] at this; exact this
        refine bl_cons (st_if (te_cmp op_eq (ev_ix ix_tup (ev_v 5 rfl (ev_int (o2_ixT (n := 0) rfl (ev_str (o2_seqT ⟨true, rfl, iteT ?_⟩))))))))
        refine bl_cons (st_append (ev_v 4 rfl ⟨1, p, _, rfl, rfl, ev_tup (ag_cons (ev_str (ag_cons (ev_ix ix_tup (ev_v 5 rfl (ev_int (o2_ixT (n := 1) rfl (ag_cons (ev_callTy call_tuple_of Γ.b_tuple bt_tuple (ag_cons ?_))))))))))⟩))
        refine ev_mapT [("_law_one", 6)] (fun c : Nat => .int c) (fun c => .int (fd.idxOf c : Nat)) rfl nd rfl (js := [6]) (by decide) (itx_tup (ev_ix ix_tup (ev_v 5 rfl (ev_int (o2_ixT (n := 2) rfl ⟨_, rfl, cs, rfl, szle (by omega), fun c hc => ⟨fun s H C cl fp => tg_v 6 nd ⟨rfl, fun s H C cl fp => ?_⟩⟩, ag_nil (oa_tuple (.inr rfl) (ag_nil ⟨sz, 1, _, rfl, hl, bl_nil (bl_nil (fin ?_))⟩))⟩)))))
        · exact ev_index (ev_v 1 rfl ⟨fd, rfl, ev_v 6 rfl ⟨c, rfl, hch c hc, rfl, rfl⟩⟩)
        · rw [hn]
          simp only [Nd.rn, Nd.d, dnats, List.map_map]
          rfl
      | fn c2 =>
        rw [hn] at hch
        refine bl_cons (st_if (te_cmp op_eq (ev_ix ix_tup (ev_v 5 rfl (ev_int (o2_ixT (n := 0) rfl (ev_str (o2_seqF ⟨false, rfl, iteF ?_⟩))))))))
        refine bl_cons (st_append (ev_v 4 rfl ⟨1, p, _, rfl, rfl, ev_tup (ag_cons (ev_ix ix_tup (ev_v 5 rfl (ev_int (o2_ixT (n := 0) rfl (ag_cons (ev_index (ev_v 1 rfl ⟨fd, rfl, ev_ix ix_tup (ev_v 5 rfl (ev_int (o2_ixT (n := 1) rfl ⟨c2, rfl, hch c2 (by simp [Nd.ch]), ag_nil ⟨sz, 1, _, rfl, hl, bl_nil (bl_nil (fin ?_))⟩⟩)))⟩))))))))⟩))
        rw [hn]; rfl
      | var f =>
        refine bl_cons (st_if (te_cmp op_eq (ev_ix ix_tup (ev_v 5 rfl (ev_int (o2_ixT (n := 0) rfl (ev_str (o2_seqF ⟨false, rfl, iteF ?_⟩))))))))
        refine bl_cons (st_append (ev_v 4 rfl ⟨1, p, _, rfl, rfl, ev_tup (ag_cons (ev_ix ix_tup (ev_v 5 rfl (ev_int (o2_ixT (n := 0) rfl (ag_cons (ev_index (ev_v 1 rfl ⟨fd, rfl, ev_ix ix_tup (ev_v 5 rfl (ev_int (o2_ixT (n := 1) rfl ⟨f, rfl, hvt f hn, ag_nil ⟨sz, 1, _, rfl, hl, bl_nil (bl_nil (fin ?_))⟩⟩)))⟩))))))))⟩))
        rw [hn]; rfl
    · rintro Γ' L' ⟨o3, o5, rfl, rfl⟩
      refine bl_cons (st_retD (ev_fz (ev_v 4 rfl ⟨1, p, _, rfl, rfl, ⟨fd, ?_, W⟩, rfl⟩)))
      rw [dnats_length, List.take_length]
      show D.lst _ = D.lst (List.map Nd.d (List.map _ fd))
      rw [List.map_map]
      rfl
  · rw [List.concat_eq_append] at I ⊢
    have hu := wk (I.rw u (by simp))
    refine iteT' (by simp [dnats]) (bl_cons (st_set 3 nd (ev_pop (ev_v 2 rfl ⟨1, c, dnats wt, .int u, rfl, by simp [dnats], ?_⟩))))
    refine bl_cons (st_if (te_cmp op_notIn_seq (ev_v 3 rfl (ev_v 1 rfl (o2_inCI (neg := true) (l := keysI fd) (a := a) ?_ ⟨_, rfl, ?_⟩)))))
    · rw [← keysI_d]; simp
    by_cases hm : u ∈ fd
    · refine iteF' (by simp [mem_keysI, hm]) (bl_nil (bl_nil ⟨_, ?_, _, fd, wt, rfl, rfl, I.old hm, rfl, ?_⟩))
      · simp
      · simp at hm401; omega
    · have hnew := I.new hm
      have hlen2 := hlen hnew.nd hnew.rf
      have hch := (x.ok.ch _ (nat_mem hu)).1
      simp only [List.length_append, List.length_cons, List.length_nil] at hlen2
      refine iteT' (by simp [mem_keysI, hm]) (bl_cons (st_append (ev_v 1 rfl ⟨0, a, dnats fd, rfl, rfl, ev_v 3 rfl ⟨0, dnats fd, rfl, by rw [dnats_length]; exact szlt (by omega), ?_⟩⟩)))
      refine bl_cons (st_extend (ev_v 2 rfl ⟨1, c, dnats wt, rfl, rfl, ev_rev (ev_own (ok_law_below Γ) (hr.mono (by decide)) Γ.law_below.g Γ.law_below.F.kp (bi_law_below Γ) (ag_cons (ev_ix ix_list (ev_v 0 rfl (ev_v 3 rfl (o2_ixL (nat_d hu) (ag_nil ⟨_, rfl, _, rfl, fun q => ⟨1, 2, q, dnats wt, _, rfl, rfl, rfl, by decide, ?_, bl_nil (bl_nil ⟨_, ?_, _, fd ++ [u], wt ++ (nat x.ns u).ch.reverse, rfl, ?_, hnew, rfl, ?_⟩)⟩⟩)))))))⟩))
      · rw [List.length_reverse, dnats_length, dnats_length]
        simp at hm401
        exact szle (by omega)
      · simp
        omega
      · simp [dnats]
      · simp at hm401 ⊢
        omega
end
end K50
/-! MF: rows of needs, plain. -/
namespace K50
open List
def Asc (l : List Nat) : Prop := l.Pairwise (· < ·)
theorem asc_nodup {l : List Nat} (h : Asc l) : l.Nodup := List.Pairwise.imp (fun {a b} hab (e : a = b) => by rw [e] at hab; exact Nat.lt_irrefl _ hab) h
theorem asc_ext {l m : List Nat} (hl : Asc l) (hm : Asc m) (h : ∀ x, x ∈ l ↔ x ∈ m) : l = m := by
  have hp : l.Perm m := (List.perm_ext_iff_of_nodup (asc_nodup hl) (asc_nodup hm)).mpr h
  exact List.Perm.eq_of_pairwise (le := fun a b : Nat => a < b) (fun a b _ _ h1 h2 => absurd h1 (by omega)) hl hm hp
theorem need_lt {ns : List Nd} (ok : NsOk ns) {u f : Nat} (n : Need ns u f) : u < ns.length → f < ns.length := by
  induction n with
  | var e => exact fun hu => ok.vt _ (e ▸ nat_mem hu)
  | up hc _ _ ih => exact fun hu => ih ((ok.ch _ (nat_mem hu)).2 _ hc)
theorem gs_zero (s : List Nat) (a : List (List Nat)) : gs (s :: a) 0 = s := rfl
theorem gs_succ (s : List Nat) (a : List (List Nat)) (v : Nat) : gs (s :: a) (v + 1) = gs a v := by simp [gs]
/-- rows that only grow -/
theorem tot_grow : ∀ (a b : List (List Nat)), a.length = b.length → (∀ v f, f ∈ gs a v → f ∈ gs b v) → (∀ s ∈ a, Asc s) → (∀ s ∈ b, Asc s) → tot a ≤ tot b ∧ (tot b ≤ tot a → a = b)
  | [], [], _, _, _, _ => ⟨Nat.le_refl _, fun _ => rfl⟩
  | s :: a, t :: b, hl, h, ha, hb => by
    obtain ⟨h1, h2⟩ := tot_grow a b (by simpa using hl) (fun v f hf => by
      have := h (v + 1) f (by rw [gs_succ]; exact hf)
      rwa [gs_succ] at this) (fun x hx => ha x (by simp [hx])) (fun x hx => hb x (by simp [hx]))
    have hs : ∀ x ∈ s, x ∈ t := fun x hx => h 0 x hx
    have as := ha s (by simp)
    have at' := hb t (by simp)
    have h3 := DL.nodup_sub_le (asc_nodup as) (m := t) hs
    have e1 : tot (s :: a) = s.length + tot a := by simp [tot]
    have e2 : tot (t :: b) = t.length + tot b := by simp [tot]
    rw [e1, e2]
    refine ⟨by omega, fun h4 => ?_⟩
    have h5 := h2 (by omega)
    have h6 := sub_back (asc_nodup as) hs (by omega)
    rw [h5, asc_ext as at' fun x => ⟨hs x, h6 x⟩]
  | [], _ :: _, hl, _, _, _ => by simp at hl
  | _ :: _, [], hl, _, _, _ => by simp at hl
/-- a pass over the rows: at node i -/
structure PInv (ns : List Nd) (old : List (List Nat)) (i : Nat) (cur : List (List Nat)) : Prop where
  I : NInv ns cur
  asc : ∀ s ∈ cur, Asc s
  gr : ∀ v f, f ∈ gs old v → f ∈ gs cur v
  cl : cur = old → ∀ u f, u < i → u < ns.length → stepN ns cur u f → f ∈ gs cur u
theorem PInv.start {ns : List Nd} {old : List (List Nat)} (I : NInv ns old) (h : ∀ s ∈ old, Asc s) : PInv ns old 0 old := ⟨I, h, fun _ _ h => h, fun _ u f hu => absurd hu (Nat.not_lt_zero u)⟩
theorem PInv.put {ns : List Nd} {old : List (List Nat)} {i : Nat} {cur : List (List Nat)} (ok : NsOk ns) (h : PInv ns old i cur) (lo : old.length = ns.length) (ao : ∀ s ∈ old, Asc s) (hi : i < ns.length) {l : List Nat} (al : Asc l) (hl : ∀ f, f ∈ l ↔ stepN ns cur i f) : PInv ns old (i + 1) (cur.set i l) := by
  have lt : ∀ f ∈ l, f < 100 := fun f hf => Nat.lt_of_lt_of_le (need_lt ok (stepN_need ok h.I hi ((hl f).mp hf)) hi) ok.few
  obtain ⟨I2, g2⟩ := h.I.put ok hi (asc_nodup al) lt hl
  have hil : i < cur.length := by rw [h.I.ln]; exact hi
  refine ⟨I2, fun s hs => ?_, fun v f hf => g2 v f (h.gr v f hf), fun e u f hu hun k => ?_⟩
  · rcases List.mem_or_eq_of_mem_set hs with h1 | h1
    · exact h.asc s h1
    · rw [h1]; exact al
  · have ec : cur = old := by
      refine Eq.symm ((tot_grow old cur (by rw [lo, h.I.ln]) h.gr ao h.asc).2 ?_)
      have := (tot_grow cur (cur.set i l) (by simp) g2 h.asc (by rw [e]; exact ao)).1
      rw [e] at this
      exact this
    rw [e, ← ec] at k ⊢
    by_cases hui : u = i
    · subst hui
      have h1 := (hl f).mpr k
      have e3 : gs (cur.set u l) u = l := by rw [gs_set hil, if_pos rfl]
      rw [e, ← ec] at e3
      rw [e3]; exact h1
    · exact h.cl ec u f (by omega) hun k
theorem PInv.done {ns : List Nd} {old cur : List (List Nat)} (ok : NsOk ns) (h : PInv ns old ns.length cur) (e : cur = old) : NdSets ns cur := h.I.done ok fun u f hu k => h.cl e u f hu hu k
theorem PInv.more {ns : List Nd} {old cur : List (List Nat)} {i : Nat} (h : PInv ns old i cur) (lo : old.length = ns.length) (ao : ∀ s ∈ old, Asc s) (ne : cur ≠ old) : tot old < tot cur := by
  obtain ⟨h1, h2⟩ := tot_grow old cur (by rw [lo, h.I.ln]) h.gr ao h.asc
  refine Nat.lt_of_not_le fun z => ne (h2 z).symm
end K50
set_option maxRecDepth 100000
set_option maxHeartbeats 4000000
/-! K25: the law's needs. -/
namespace K50
open PySem PySem.Spec PyProof.Rows L2 DL
def NnS := { ns : List Nd // NsOk ns ∧ ns.length ≤ 48 }
def lnGam (ns : List Nd) (o1 : Option D) (a : Addr) (b : D) (o4 o5 o6 : Option D) : Gam := [some (nsL ns), o1, some (.ref a), some b, o4, o5, o6, none, none]
/-- what stands in one's row of a child's row -/
def lnf (n : Nd) (u f : Nat) : Bool := !n.isFn || decide (f ≠ u)
theorem lnf_fn (g i f : Nat) : (!decide ((f : Int) = (i : Int))) = lnf (.fn g) i f := by
  unfold lnf
  by_cases h : f = i
  · subst h; simp [Nd.isFn]
  · have h' : ¬ (f : Int) = (i : Int) := fun e => h (Int.ofNat_inj.mp e)
    rw [decide_eq_false h']
    simp [Nd.isFn, h]
def lnAcc (cur : List (List Nat)) (n : Nd) (u : Nat) (cs : List Nat) : List Nat := cs.flatMap fun c => (gs cur c).filter (lnf n u)
theorem lnAcc_snoc (cur : List (List Nat)) (n : Nd) (u : Nat) (cs : List Nat) (c : Nat) : lnAcc cur n u (cs ++ [c]) = lnAcc cur n u cs ++ (gs cur c).filter (lnf n u) := by simp [lnAcc]
theorem lnAcc_len {cur : List (List Nat)} (h : ∀ s ∈ cur, s.length ≤ 100) (n : Nd) (u : Nat) (cs : List Nat) : (lnAcc cur n u cs).length ≤ cs.length * 100 := by
  induction cs with
  | nil => simp [lnAcc]
  | cons c cs ih =>
    have h1 : (gs cur c).length ≤ 100 := by
      by_cases hc : c < cur.length
      · exact h _ (gs_mem hc)
      · have : gs cur c = [] := by simp only [gs, List.getD]; rw [List.getElem?_eq_none (by omega)]; rfl
        rw [this]; simp
    have h2 := List.length_filter_le (lnf n u) (gs cur c)
    have : lnAcc cur n u (c :: cs) = (gs cur c).filter (lnf n u) ++ lnAcc cur n u cs := by simp [lnAcc]
    rw [this, List.length_append, List.length_cons, Nat.succ_mul]
    omega
theorem lnAcc_mem {ns : List Nd} {cur : List (List Nat)} {u f : Nat} (hv : ∀ g, nat ns u ≠ .var g) : f ∈ lnAcc cur (nat ns u) u (nat ns u).ch ↔ stepN ns cur u f := by
  unfold lnAcc stepN lnf
  simp only [List.mem_flatMap, List.mem_filter, Bool.or_eq_true, Bool.not_eq_true', decide_eq_true_eq]
  constructor
  · rintro ⟨c, hc, h1, h2⟩
    refine .inr ⟨⟨c, hc, h1⟩, fun z => ?_⟩
    rcases h2 with h2 | h2
    · rw [z.1] at h2; cases h2
    · exact h2 z.2
  · rintro (h | ⟨⟨c, hc, h1⟩, h2⟩)
    · exact absurd h (hv f)
    · refine ⟨c, hc, h1, ?_⟩
      by_cases hf : (nat ns u).isFn = true
      · exact .inr fun e => h2 ⟨hf, e⟩
      · exact .inl (by simpa using hf)
section
variable {P : Program} {w : World} {K : PySem.W.Frag} {mg : Str → Option Value} {base : Heap}
theorem ok_law_needs (Γ : Pg K mg) : FnOk P w K mg base CX0 2 Γ.law_needs.f Γ.law_needs.fd P_law_needs (spD K (fun x : NnS => [nsL x.1]) NoC (fun x d L => (∃ sets, d = rowsL sets ∧ NdSets x.1 sets ∧ ∀ s ∈ sets, Asc s) ∧ L = [])) := by
  refine fn_ok Γ.law_needs.F sc_law_needs (fun _ => rfl) (by decide) (fun cdv A outer s H E hr ⟨ns, ok, few⟩ => ?_)
  have nd := sc_law_needs.nd
  have e0 : (ns.map fun _ => natsL []) = (List.replicate ns.length ([] : List Nat)).map natsL := by simp [List.map_const']
  refine bl_cons (st_par 2 3 rfl nd (by decide) (ag_cons (ev_mapO [("_law_node", 1)] Nd.d (fun _ => natsL []) rfl nd rfl (js := [1]) (by decide) (itx_list (ev_v 0 rfl ⟨_, rfl, ns, rfl, szle (by omega), fun n hn => ⟨fun s H C cl fp => tg_v 1 nd ⟨rfl, fun s H C cl fp => ev_lstF (ag_nil ⟨sz, rfl, rfl⟩)⟩⟩, fun a => ag_cons (ev_non (ag_nil ⟨_, _, rfl, ?_⟩))⟩)))))
  rw [e0]
  refine bl_cons (st_while (fun m Γ' L' => ∃ o1 b o4 o5 o6 cur, Γ' = lnGam ns o1 a b o4 o5 o6 ∧ L' = [(a, rowsL cur)] ∧ NInv ns cur ∧ (∀ s ∈ cur, Asc s) ∧ ((b = .non ∧ m = 10002) ∨ ∃ old, b = rowsL old ∧ (∀ s ∈ old, Asc s) ∧ m = 10001 - tot old ∧ (cur = old → NdSets ns cur) ∧ (cur ≠ old → tot old < tot cur))) 10002 ⟨none, .non, none, none, none, List.replicate ns.length [], rfl, rfl, .zero ns, ?_, .inl ⟨rfl, rfl⟩⟩ fun m Γ' L' hW => ?_)
  · intro s hs
    rw [(List.mem_replicate.mp hs).2]
    exact List.Pairwise.nil
  obtain ⟨o1, b, o4, o5, o6, cur, rfl, rfl, I, asc, hb⟩ := hW
  have hcl : cur.length ≤ 48 := by rw [I.ln]; exact few
  have htot := I.tot ok
  have hk : b.pure = true ∧ SeqAt.shaped b.py = true ∧ ∃ k, PyData.eqv (rowsL cur).py b.py = k ∧ (k = true → NdSets ns cur) ∧ (k = false → 10001 - tot cur < m) := by
    rcases hb with ⟨rfl, rfl⟩ | ⟨old, rfl, ao, rfl, h1, h2⟩
    · exact ⟨rfl, rfl, false, eqv_rowsN cur, by simp, fun _ => by omega⟩
    · refine ⟨pures_of plain_rows, shaped_lst plain_rows, decide (cur = old), eqv_rows cur old, fun e => h1 (by simpa using e), fun e => ?_⟩
      have := h2 (by simpa using e)
      omega
  obtain ⟨hp, hs, k, ek, k1, k2⟩ := hk
  refine te_cmp (op_neD hr.units) (ev_v 2 rfl (ev_v 3 rfl (o2_neC (a := a) (by simp [rowsL]) plain_rows hp hs ek ⟨_, rfl, ?_⟩)))
  cases k with
  | true => exact iteF (bl_cons (st_retD (ev_fz (ev_v 2 rfl ⟨0, a, _, rfl, rfl, ⟨cur, rfl, k1 rfl, asc⟩, rfl⟩))))
  | false =>
  refine iteT ?_
  have hm := k2 rfl
  -- the pass
  refine bl_cons (st_mapW 3 [("_law_row", 7)] natsL natsL rfl nd rfl (js := [7]) (by decide) (itx_listW (ev_v 2 rfl ⟨a, _, rfl, by simp [rowsL], cur, rfl, szle (by omega), by simp [rowsL], fun l hl => ⟨fun s H C cl fp => tg_v 7 nd ⟨rfl, fun s H C cl fp => ?_⟩⟩, ?_⟩)))
  · exact ev_fz (ev_callTy call_list_of Γ.b_list bt_list (ag_cons (ev_v 7 rfl (ag_nil (oa_list (.inr rfl) fun p => ⟨1, p, _, rfl, rfl, rfl, rfl⟩)))))
  refine bl_cons (st_for (js := [4, 1]) rfl (itx_enum Γ.b_enumerate (ag_cons (ev_v 0 rfl (ag_nil ⟨_, rfl, fun i Γ' L' => ∃ o1 o4 o5 o6 now, Γ' = lnGam ns o1 a (rowsL cur) o4 o5 o6 ∧ L' = [(a, rowsL now)] ∧ PInv ns cur i now, ⟨o1, o4, o5, o6, cur, rfl, rfl, .start I asc⟩, ?_, ?_⟩)))))
  · rintro i d Γ' L' hd ⟨o1, o4, o5, o6, now, rfl, rfl, J⟩
    have hi : i < ns.length := by
      have := (List.getElem?_eq_some_iff.mp hd).1
      rw [enumD_length, List.length_map] at this
      exact this
    rw [enumD_get (nat_d hi)] at hd
    cases hd
    have hnl : now.length = ns.length := J.I.ln
    have hsl : ∀ s ∈ now, s.length ≤ 100 := fun s hs => nodup_lt 100 _ (J.I.snd s hs) fun f hf => J.I.slt s hs f hf
    refine tg_2 4 1 rfl nd ?_
    have fin : ∀ {o5 o6 : Option D} {l : List Nat}, Asc l → (∀ f, f ∈ l ↔ stepN ns now i f) → ∃ p1 p4 p5 p6 now2, lnGam ns (some (nat ns i).d) a (rowsL cur) (some (.int i)) o5 o6 = lnGam ns p1 a (rowsL cur) p4 p5 p6 ∧ ([(a, D.lst ((now.map natsL).set i (natsL l)))] : Cells) = [(a, rowsL now2)] ∧ PInv ns cur (i + 1) now2 := fun {o5 o6 l} al hl =>
      ⟨_, _, o5, o6, now.set i l, rfl, by rw [rowsL, List.map_set], J.put ok I.ln asc hi al hl⟩
    have hil : i < (now.map natsL).length := by rw [List.length_map, hnl]; exact hi
    by_cases hv : ∃ g, nat ns i = .var g
    · obtain ⟨g, hn⟩ := hv
      rw [hn]
      refine bl_cons (st_if (te_cmp op_eq (ev_ix ix_tup (ev_v 1 rfl (ev_int (o2_ixT (n := 0) rfl (ev_str (o2_seqT ⟨true, rfl, iteT ?_⟩))))))))
      refine bl_cons (st_lput (ev_lstF (ag_cons (ev_ix ix_tup (ev_v 1 rfl (ev_int (o2_ixT (n := 1) rfl (ag_nil ⟨sz, ev_v 2 rfl (ev_v 4 rfl ⟨0, a, i, _, rfl, rfl, rfl, hil, bl_nil (bl_nil ?_)⟩)⟩))))))))
      refine hn ▸ fin (l := [g]) (List.pairwise_singleton _ _) fun f => ?_
      unfold stepN
      rw [hn]
      simp only [Nd.ch, Nd.var.injEq, List.not_mem_nil, false_and, exists_false, or_false, List.mem_singleton]
      exact eq_comm
    · have hv' : ∀ g, nat ns i ≠ .var g := fun g e => hv ⟨g, e⟩
      generalize hn : nat ns i = n at *
      have hst : ∀ f, f ∈ lnAcc now n i n.ch ↔ stepN ns now i f := fun f => hn ▸ lnAcc_mem (by rw [hn]; exact hv')
      have hch := ok.ch _ (nat_mem hi)
      rw [hn] at hch
      have kv : n.kind ≠ ("var" : Str) := fun e => by
        have h1 := kind_var n
        rw [decide_eq_true e] at h1
        exact hv' _ (isVar_of h1.symm)
      obtain ⟨r, er⟩ := head_d n
      refine bl_cons (st_if (te_cmp op_eq (ev_ix ix_tup (ev_v 1 rfl (ev_int ?_)))))
      rw [er]
      refine o2_ixT (n := 0) rfl (ev_str (o2_seqF ⟨false, rfl, iteF ?_⟩ kv))
      rw [← er]
      refine bl_cons (st_set 5 nd (ev_lst (ag_nil ⟨sz, fun b => ?_⟩)))
      refine bl_cons (st_for (js := [6]) rfl (itx_list (ev_own (ok_law_below Γ) hr Γ.law_below.g Γ.law_below.F.kp (bi_law_below Γ) (ag_cons (ev_v 1 rfl (ag_nil ⟨n, rfl, _, rfl, fun j Γ' L' => ∃ o6, Γ' = lnGam ns (some n.d) a (rowsL cur) (some (.int i)) (some (.ref b)) o6 ∧ L' = [(a, rowsL now), (b, .lst (dnats (lnAcc now n i (n.ch.take j))))], ⟨o6, rfl, rfl⟩, ?_, ?_⟩))))))
      · rintro j d Γ' L' hd ⟨o6, rfl, rfl⟩
        obtain ⟨c, hc, rfl⟩ := map_get hd
        have hcl2 := hch.2 c (List.mem_of_getElem? hc)
        have hgs : (now.map natsL)[c]? = some (natsL (gs now c)) := by rw [List.getElem?_map, gs_at (by rw [hnl]; exact hcl2)]; rfl
        have hgl := hsl _ (gs_mem (by rw [hnl]; exact hcl2))
        have hal := lnAcc_len hsl n i (n.ch.take j)
        have hjl : (n.ch.take j).length ≤ 3 := by rw [List.length_take]; have := hch.1; omega
        refine tg_v 6 nd (bl_cons (st_extend (ev_v 5 rfl ⟨1, b, _, rfl, rfl, ev_selO [("_law_other", 8)] (fun f : Nat => .int f) (fun f => .int f) (lnf n i) rfl nd rfl (js := [8]) (by decide) (itx_list (ev_ix ix_list (ev_v 2 rfl (ev_v 6 rfl (o2_ixC (k := 0) rfl hgs ⟨_, rfl, gs now c, rfl, szle (by omega), fun f hf => ⟨fun s H C cl fp => tg_v 8 nd ⟨rfl, fun s H C cl fp => ?_⟩⟩, fun q => ⟨1, 2, q, _, _, rfl, rfl, rfl, by decide, ?_, bl_nil ⟨_, rfl, ?_⟩⟩⟩)))))⟩)))
        · cases n with
          | var g => exact absurd rfl (hv' g)
          | fn g => exact te_tw (tw_or (te_cmp op_ne (ev_ix ix_tup (ev_v 1 rfl (ev_int (o2_ixT (n := 0) rfl (ev_str (o2_sneF ⟨false, rfl, iteF' rfl (tw_or1 (te_cmp op_ne (ev_v 8 rfl (ev_v 4 rfl (o2_ine ⟨_, rfl, lnf_fn g i f, rfl, fun _ s H C cl fp => ev_v 8 rfl ⟨rfl, rfl⟩⟩)))))⟩))))))))
          | word y cs => exact te_tw (tw_or (te_cmp op_ne (ev_ix ix_tup (ev_v 1 rfl (ev_int (o2_ixT (n := 0) rfl (ev_str (o2_sneT ⟨true, rfl, iteT ⟨rfl, rfl, fun _ s H C cl fp => ev_v 8 rfl ⟨rfl, rfl⟩⟩⟩))))))))
        · rw [List.length_map, dnats_length]
          have := List.length_filter_le (lnf n i) (gs now c)
          exact szle (by omega)
        · rw [DL.take_next hc, lnAcc_snoc]
          simp [dnats]
      · rintro Γ' L' ⟨o6, rfl, rfl⟩
        rw [dnats_length, List.take_length]
        generalize hacc : lnAcc now n i n.ch = acc at *
        have hal : acc.length ≤ 300 := by
          have := lnAcc_len hsl n i n.ch
          rw [hacc] at this
          omega
        have hlt : ∀ f ∈ acc, f < 48 := fun f hf => Nat.lt_of_lt_of_le (need_lt ok (stepN_need ok J.I hi ((hst f).mp hf)) hi) few
        refine bl_fz 1 5 rfl rfl (bl_cons (st_lput (ev_dr (ev_fz (ev_callB (cr_sortedSet rfl) Γ.b_sorted bt_sorted (ag_cons (ev_callTy (call_setI rfl) Γ.b_set bt_set (ag_cons (ev_v 5 rfl (ag_nil (oa_setI (l := keysI acc) (by rw [keysI_d]) (by simp only [keysI, List.length_map]; unfold scanBound; omega) fun p S n2 hS => ag_nil (oa_sortI (k := 1) rfl hS ?_ fun q l' hp hm => ?_))))))))))))
        · rw [setIs_cnt hS]
          have := nodup_code Int.toNat 48 (ddl_nodup (keysI acc)) (fun x hx y hy e => ?_) fun x hx => ?_
          · omega
          · obtain ⟨a1, _, rfl⟩ := List.mem_map.mp (ddl_mem.mp hx)
            obtain ⟨a2, _, rfl⟩ := List.mem_map.mp (ddl_mem.mp hy)
            have e : a1 = a2 := by simpa using e
            rw [e]
          · obtain ⟨a1, h1, rfl⟩ := List.mem_map.mp (ddl_mem.mp hx)
            simpa using hlt a1 h1
        · obtain ⟨l, rfl⟩ := nat_keys (ks := l') fun k hk => by
            obtain ⟨n3, _, rfl⟩ := List.mem_map.mp ((hm k).mp hk)
            exact ⟨n3, rfl⟩
          refine ⟨2, q, _, rfl, rfl, 1, p, _, rfl, ev_v 2 rfl (ev_v 4 rfl ⟨0, a, i, _, rfl, rfl, rfl, hil, bl_nil (bl_nil ?_)⟩)⟩
          rw [← keysI_d]
          refine fin (l := l) ?_ fun f => ?_
          · unfold keysI at hp
            rw [List.pairwise_map] at hp
            exact hp.imp fun h => Int.ofNat_lt.mp h
          · rw [← hst f, ← mem_keysI, hm, mem_keysI]
  · rintro Γ' L' ⟨o1, o4, o5, o6, now, rfl, rfl, J⟩
    rw [enumD_length, List.length_map] at J
    refine bl_nil ⟨10001 - tot cur, hm, o1, rowsL cur, o4, o5, o6, now, rfl, rfl, J.I, J.asc, .inr ⟨cur, rfl, asc, rfl, fun e => J.done ok e, fun e => J.more I.ln asc e⟩⟩
end
end K50
set_option maxRecDepth 100000
set_option maxHeartbeats 4000000
/-! K26: the law's scopes. -/
namespace K50
open PySem PySem.Spec PyProof.Rows L2 DL
/-- what the law's scopes are handed -/
structure LsIn where
  ns : List Nd
  ok : NsOk ns
  few : ns.length ≤ 48
  σ : Nat → List Nat
  ws : WS ns 0 σ
  all : ∀ u, u < ns.length → Rch ns 0 u
structure LscIn extends LsIn where
  sets : List (List Nat)
  hs : NdSets ns sets
  u : Nat
  hu : u < ns.length
def lsGam (sets : List (List Nat)) (v : Nat) (t : List Nat) (o3 o4 : Option D) : Gam := [some (rowsL sets), some (.int v), some (tnats t), o3, o4, none]
/-- what keeps a node from being the innermost -/
def kpB (sets : List (List Nat)) (f o : Nat) : Bool := decide (o ≠ f) && !decide (o ∈ gs sets f)
def innB (sets : List (List Nat)) (v f : Nat) : Bool := ((gs sets v).filter (kpB sets f)).isEmpty
theorem innB_iff {x : LscIn} {v f : Nat} (hv : v < x.ns.length) (hf : f ∈ gs x.sets v) (hfl : f < x.ns.length) : innB x.sets v f = true ↔ InnN x.ns v f := by
  unfold innB InnN
  rw [List.isEmpty_iff, List.filter_eq_nil_iff]
  simp only [kpB, Bool.and_eq_true, decide_eq_true_eq, Bool.not_eq_true', decide_eq_false_iff_not, not_and, Classical.not_not]
  constructor
  · intro h
    refine ⟨(x.hs.mem v f hv).mp hf, fun g hg => ?_⟩
    have h1 := h g ((x.hs.mem v g hv).mpr hg)
    by_cases e : g = f
    · exact .inl e
    · exact .inr ((x.hs.mem f g hfl).mp (h1 e))
  · rintro ⟨_, h⟩ g hg ne
    rcases h g ((x.hs.mem v g hv).mp hg) with e | e
    · exact absurd e ne
    · exact (x.hs.mem f g hfl).mpr e
section
variable {P : Program} {w : World} {K : PySem.W.Frag} {mg : Str → Option Value} {base : Heap}
theorem ok_law_scope (Γ : Pg K mg) : FnOk P w K mg base CX0 1 Γ.law_scope.f Γ.law_scope.fd P_law_scope (spD K (fun x : LscIn => [rowsL x.sets, .int x.u]) NoC (fun x d L => (∃ t, d = tnats t ∧ Sc x.ns x.u t) ∧ L = [])) := by
  refine fn_ok Γ.law_scope.F sc_law_scope (fun _ => rfl) (by decide) (fun cdv A outer s H E hr x => ?_)
  have nd := sc_law_scope.nd
  have rowAt : ∀ {v : Nat}, v < x.ns.length → (x.sets.map natsL)[v]? = some (natsL (gs x.sets v)) := fun {v} hv => by rw [List.getElem?_map, gs_at (by rw [x.hs.ln]; exact hv)]; rfl
  have gl : ∀ {v : Nat}, v < x.ns.length → (gs x.sets v).length ≤ 100 := fun {v} hv => nodup_lt 100 _ (x.hs.snd _ (gs_mem (by rw [x.hs.ln]; exact hv))) fun f hf => x.hs.slt _ (gs_mem (by rw [x.hs.ln]; exact hv)) f hf
  have lt : ∀ {v f : Nat}, v < x.ns.length → f ∈ gs x.sets v → f < x.ns.length := fun hv hf => need_lt x.ok ((x.hs.mem _ _ hv).mp hf) hv
  refine bl_cons (st_set 2 nd (ev_tup (ag_nil ⟨sz, ?_⟩)))
  refine bl_cons (st_while (fun m Γ' L' => ∃ v t o3 o4, Γ' = lsGam x.sets v t o3 o4 ∧ L' = [] ∧ v < x.ns.length ∧ t.length + (x.σ v).length ≤ 100 ∧ m = (x.σ v).length ∧ ∀ l, Sc x.ns v l → Sc x.ns x.u (l ++ t)) _ ⟨x.u, [], none, none, rfl, rfl, x.hu, ?_, rfl, fun l h => by rw [List.append_nil]; exact h⟩ fun m Γ' L' hW => ?_)
  · have := nodup_lt x.ns.length _ (x.ws.nodup (x.all _ x.hu)) fun f hf => rch_lt ⟨x.ns, x.ok, 0, Nat.lt_of_le_of_lt (Nat.zero_le _) x.hu⟩ (x.ws.mem (x.all _ x.hu) hf).1
    have := x.few
    simp
    omega
  obtain ⟨v, t, o3, o4, rfl, rfl, hv, hm100, rfl, hsc⟩ := hW
  refine te_cmp (op_neD hr.units) (ev_ix ix_list (ev_v 0 rfl (ev_v 1 rfl (o2_ixL (rowAt hv) (ev_lstF (ag_nil ⟨sz, o2_neD (k := decide (gs x.sets v = [])) (plain_natsL _).pure rfl (plain_shaped (plain_natsL _)) (shaped_lst (by simp)) ?_ ⟨_, rfl, ?_⟩⟩))))))
  · have := eqv_natsL (gs x.sets v) []
    simp only [natsL, D.py, PyData.eqv]
    exact this
  by_cases he : gs x.sets v = []
  · refine iteF' (by rw [decide_eq_true he]; rfl) (bl_cons (st_retD (ev_v 2 rfl ⟨⟨t, rfl, ?_⟩, rfl⟩)))
    exact hsc [] (.nil fun f hf => by
      have := (x.hs.mem v f hv).mpr hf
      rw [he] at this
      cases this)
  · refine iteT' (by rw [decide_eq_false he]; rfl) (bl_cons (st_set 3 nd (ev_lst (ag_nil ⟨sz, fun p => ?_⟩))))
    refine bl_cons (st_for (js := [4]) rfl (itx_list (ev_ix ix_list (ev_v 0 rfl (ev_v 1 rfl (o2_ixL (rowAt hv) ⟨_, rfl, fun i Γ' L' => ∃ o4, Γ' = lsGam x.sets v t (some (.ref p)) o4 ∧ L' = [(p, .lst (dnats (((gs x.sets v).take i).filter (innB x.sets v))))], ⟨o4, rfl, rfl⟩, ?_, ?_⟩))))))
    · rintro i d Γ' L' hd ⟨o4, rfl, rfl⟩
      obtain ⟨f, hf, rfl⟩ := map_get hd
      have hfm := List.mem_of_getElem? hf
      have hfl := lt hv hfm
      refine tg_v 4 nd (bl_cons (st_if (te_cmp (op_eqD hr.units) (ev_selT [("_law_other", 5)] (fun o : Nat => .int o) (fun _ => .int 1) (kpB x.sets f) rfl nd rfl (js := [5]) (by decide) (itx_list (ev_ix ix_list (ev_v 0 rfl (ev_v 1 rfl (o2_ixL (rowAt hv) ⟨_, rfl, gs x.sets v, rfl, szle (by have := gl hv; omega), fun o ho => ⟨fun s H C cl fp => tg_v 5 nd ⟨rfl, fun s H C cl fp => ?_⟩⟩, ev_lstF (ag_nil ⟨sz, o2_eqD (k := innB x.sets v f) (pures_of ?_) rfl (shaped_lst ?_) (shaped_lst (by simp)) ?_ ⟨_, rfl, ?_⟩⟩)⟩)))))))))
      · refine te_tw (tw_and (te_cmp op_ne (ev_v 5 rfl (ev_v 4 rfl (o2_ine ⟨_, rfl, ?_⟩)))))
        by_cases e : o = f
        · have kf : kpB x.sets f o = false := by unfold kpB; rw [decide_eq_false (not_not_intro e)]; rfl
          exact iteF' (by simp [e]) ⟨kf.symm, rfl, fun z => absurd z (by rw [kf]; decide)⟩
        · refine iteT' (by simpa using fun z : (o : Int) = f => e (Int.ofNat_inj.mp z)) (tw_and1 (te_cmp op_notIn_seq (ev_v 5 rfl (ev_ix ix_list (ev_v 0 rfl (ev_v 4 rfl (o2_ixL (rowAt hfl) (o2_inI (neg := true) (l := keysI (gs x.sets f)) (.inr (by rw [natsL, keysI_d])) ⟨_, rfl, ?_, rfl, fun _ s H C cl fp => ev_int ⟨rfl, rfl⟩⟩))))))))
          simp only [if_true, kpB, mem_keysI]
          simp [e]
      · intro d hd
        obtain ⟨_, _, rfl⟩ := List.mem_map.mp hd
        exact plain_int 1
      · intro d hd
        obtain ⟨_, _, rfl⟩ := List.mem_map.mp hd
        exact plain_int 1
      · rw [eqv_nil]
        simp [innB]
      · cases hb : innB x.sets v f with
        | true =>
          refine iteT (bl_cons (st_append (ev_v 3 rfl ⟨0, p, _, rfl, rfl, ev_v 4 rfl ⟨0, _, rfl, ?_, bl_nil (bl_nil ⟨_, rfl, ?_⟩)⟩⟩)))
          · rw [dnats_length]
            have := List.length_filter_le (innB x.sets v) ((gs x.sets v).take i)
            rw [List.length_take] at this
            have := gl hv
            exact szlt (by omega)
          · rw [DL.take_next hf, List.filter_append, List.filter_cons_of_pos hb]
            simp [dnats]
        | false =>
          refine iteF (bl_nil (bl_nil ⟨_, rfl, ?_⟩))
          rw [DL.take_next hf, List.filter_append, List.filter_cons_of_neg (by simp [hb])]
          simp
    · rintro Γ' L' ⟨o4, rfl, rfl⟩
      rw [dnats_length, List.take_length]
      obtain ⟨g0, hg0⟩ := x.ws.inn_ex (x.all v hv) (by
        cases e : gs x.sets v with
        | nil => exact absurd e he
        | cons a l => exact ⟨a, (x.hs.mem v a hv).mp (by rw [e]; simp)⟩)
      have hg1 := (x.hs.mem v g0 hv).mpr hg0.1
      have hg2 : g0 ∈ (gs x.sets v).filter (innB x.sets v) := List.mem_filter.mpr ⟨hg1, (innB_iff hv hg1 (lt hv hg1)).mpr hg0⟩
      cases e : (gs x.sets v).filter (innB x.sets v) with
      | nil => rw [e] at hg2; cases hg2
      | cons f l =>
        have hf : f ∈ (gs x.sets v).filter (innB x.sets v) := by rw [e]; simp
        obtain ⟨hf1, hf2⟩ := List.mem_filter.mp hf
        have hfl := lt hv hf1
        have hfi := (innB_iff hv hf1 hfl).mp hf2
        have rk := x.ws.rank (x.all v hv) (x.ws.need (x.all v hv) hfi.1)
        refine bl_cons (st_set 2 nd (ev_op op_catA (ev_tup (ag_cons (ev_ix ix_list (ev_v 3 rfl (ev_int (o2_ixC (k := 0) (n := 0) rfl rfl (ag_nil ⟨sz, ev_v 2 rfl (o2_catT ?_ ?_)⟩)))))))))
        · simp only [List.length_cons, List.length_nil, dnats_length]
          exact szle (by omega)
        refine bl_cons (st_set 1 nd (ev_ix ix_list (ev_v 3 rfl (ev_int (o2_ixC (k := 0) (n := 0) rfl rfl ?_)))))
        refine bl_dr 0 rfl (bl_nil ⟨_, rk, f, f :: t, _, _, rfl, rfl, hfl, ?_, rfl, fun l h => ?_⟩)
        · simp
          omega
        · have := hsc (l ++ [f]) (.cons hfi h)
          simpa using this
theorem ok_law_scopes (Γ : Pg K mg) : FnOk P w K mg base CX0 3 Γ.law_scopes.f Γ.law_scopes.fd P_law_scopes (spD K (fun x : LsIn => [nsL x.ns]) NoC (fun x d L => d = .lst ((List.range x.ns.length).map fun u => tnats (scT x.ns u)) ∧ L = [])) := by
  refine fn_ok Γ.law_scopes.F sc_law_scopes (fun _ => rfl) (by decide) (fun cdv A outer s H E hr x => ?_)
  have nd := sc_law_scopes.nd
  have few := x.few
  refine bl_cons (st_set 1 nd (ev_ownP (ok_law_needs Γ) hr Γ.law_needs.g Γ.law_needs.F.kp (bi_law_needs Γ) (ag_cons (ev_v 0 rfl (ag_nil ⟨⟨x.ns, x.ok, x.few⟩, rfl, fun d hd => ?_⟩)))))
  obtain ⟨sets, rfl, hs, _⟩ := hd
  refine bl_cons (st_retD (ev_mapT [("_law_at", 2)] (fun u : Nat => .int u) (fun u => tnats (scT x.ns u)) rfl nd rfl (js := [2]) (by decide) (itx_range1 Γ.b_range (ag_cons (ev_callB call_len_seq Γ.b_len bt_len (ag_cons (ev_v 0 rfl (ag_nil (oa_lenS (.inr rfl) (ag_nil ⟨x.ns.length, ?_, by omega, List.range x.ns.length, ?_, szle (by simp; omega), fun u hu => ⟨fun s H C cl fp => tg_v 2 nd ⟨rfl, fun s H C cl fp => ?_⟩⟩, rfl, rfl⟩))))))))))
  · rw [List.length_map]
  · simp [rangeD]
  · have hu' := List.mem_range.mp hu
    refine ev_ownP (ok_law_scope Γ) (hr.mono (by decide)) Γ.law_scope.g Γ.law_scope.F.kp (bi_law_scope Γ) (ag_cons (ev_v 1 rfl (ag_cons (ev_v 2 rfl (ag_nil ⟨⟨x, sets, hs, u, hu'⟩, rfl, fun d hd => ?_⟩)))))
    obtain ⟨t, rfl, ht⟩ := hd
    refine ⟨?_, rfl⟩
    rw [x.ws.sc_uniq (x.all u hu') ht (scT_sc ht)]
end
end K50
/-! MG: the law's graphs, plain. -/
namespace K50
open List
/-- a graph of the law: numbered by the walk, its scopes -/
structure LG where
  ns : List Nd
  fm : NsFm ns
  few : ns.length ≤ 48
  σ : Nat → List Nat
  ws : WS ns 0 σ
  sl : ∀ u, Rch ns 0 u → (σ u).length ≤ 4
  sc : ∀ u, Rch ns 0 u → Sc ns u (σ u)
  all : ∀ u, u < ns.length → Rch ns 0 u
theorem LG.pos (x : LG) : 0 < x.ns.length := List.length_pos_iff.mpr x.fm.ne
def LG.gin (x : LG) : GIn := ⟨x.ns, x.fm.ok, x.pos, x.σ, x.ws, x.sl⟩
def LG.lsin (x : LG) : LsIn := ⟨x.ns, x.fm.ok, x.few, x.σ, x.ws, x.all⟩
theorem LG.lt (x : LG) {u : Nat} (h : Rch x.ns 0 u) : u < x.ns.length := rch_lt ⟨x.ns, x.fm.ok, 0, x.pos⟩ h
theorem LG.σlt (x : LG) {u f : Nat} (hu : u < x.ns.length) (hf : f ∈ x.σ u) : f < x.ns.length := x.lt (x.ws.mem (x.all u hu) hf).1
theorem LG.scT (x : LG) {u : Nat} (hu : u < x.ns.length) : K50.scT x.ns u = x.σ u := x.ws.sc_uniq (x.all u hu) (scT_sc (x.sc u (x.all u hu))) (x.sc u (x.all u hu))
/-- nodes of which those that are reached make a graph -/
structure Raw (F : List Nd) (τ : Nat → List Nat) : Prop where
  ok : NsOk F
  pos : 0 < F.length
  few : F.length ≤ 48
  ws : WS F 0 τ
  sl : ∀ u, Rch F 0 u → (τ u).length ≤ 4
  nm : ∀ u w cs, Rch F 0 u → nat F u = .word w cs → NmOk w
  vf : ∀ u f, Rch F 0 u → nat F u = .var f → (nat F f).isFn = true
  one : ∀ u v f, Rch F 0 u → Rch F 0 v → nat F u = .var f → nat F v = .var f → u = v
  r0 : (nat F 0).isVar = false
theorem owners_nodup : ∀ {ns : List Nd}, (∀ (i j f : Nat), ns[i]? = some (Nd.var f) → ns[j]? = some (Nd.var f) → i = j) → (owners ns).Nodup
  | [], _ => by simp [owners]
  | n :: ns, h => by
    have ih := owners_nodup (ns := ns) fun i j f h1 h2 => by
      have := h (i + 1) (j + 1) f (by simpa using h1) (by simpa using h2)
      omega
    unfold owners at ih ⊢
    by_cases hn : n.isVar = true
    · rw [List.filter_cons_of_pos hn, List.map_cons, List.nodup_cons]
      refine ⟨fun hm => ?_, ih⟩
      obtain ⟨m, hm1, hm2⟩ := List.mem_map.mp hm
      obtain ⟨hm3, hm4⟩ := List.mem_filter.mp hm1
      obtain ⟨i, hi⟩ := List.mem_iff_getElem?.mp hm3
      have e1 := isVar_of hn
      have e2 := isVar_of hm4
      rw [hm2] at e2
      have := h 0 (i + 1) n.ow (by simp [← e1]) (by simp [hi, ← e2])
      omega
    · rw [List.filter_cons_of_neg hn]
      exact ih
theorem rn_id {f : Nat → Nat} {n : Nd} (h : ∀ x ∈ n.ch, f x = x) (hv : ∀ g, n = .var g → f g = g) : n.rn f = n := by
  cases n with
  | word w cs =>
    have : cs.map f = cs := by
      conv => rhs; rw [← List.map_id cs]
      exact List.map_congr_left fun x hx => h x hx
    simp [Nd.rn, this]
  | fn c => simp [Nd.rn, h c (by simp [Nd.ch])]
  | var g => simp [Nd.rn, hv g rfl]
theorem rn_back {f g : Nat → Nat} {n : Nd} (h : ∀ x ∈ n.ch, g (f x) = x) (hv : ∀ y, n = .var y → g (f y) = y) : (n.rn f).rn g = n := by rw [rn_rn]; exact rn_id h hv
section
variable {F : List Nd} {τ : Nat → List Nat} {od : List Nat}
theorem Raw.varM (R : Raw F τ) {u f : Nat} (hu : Rch F 0 u) (e : nat F u = .var f) : Rch F 0 f := (R.ws.mem hu (by rw [R.ws.vt u f hu e]; simp)).1
theorem od_getD {i : Nat} (h : i < od.length) : od.getD i 0 = od[i] := by simp [List.getD, h]
theorem Raw.back (R : Raw F τ) (W : WkPost F 0 od) : Hom (rnl F od) 0 F 0 fun i => od.getD i 0 := by
  have iso := rnl_iso W
  have reach : ∀ i, Rch (rnl F od) 0 i → i < od.length := fun i hi => by
    obtain ⟨u, hu, rfl⟩ := iso.toHom.onto hi
    exact List.idxOf_lt_length_of_mem ((W.mem u).mpr hu)
  refine ⟨?_, fun i hi => ?_⟩
  · have h0 := W.h0
    simp [List.getD, h0]
  · have hl := reach i hi
    have hr : Rch F 0 od[i] := (W.mem _).mp (List.getElem_mem hl)
    show nat F (od.getD i 0) = (nat (rnl F od) i).rn fun i => od.getD i 0
    have e1 : nat (rnl F od) i = (nat F od[i]).rn (od.idxOf ·) := by
      have := rnl_nat W hr
      rwa [idx_get W.nd hl] at this
    have bk : ∀ v, Rch F 0 v → od.getD (od.idxOf v) 0 = v := fun v hv => by
      have h1 := List.idxOf_lt_length_of_mem ((W.mem v).mpr hv)
      rw [od_getD h1]
      exact List.getElem_idxOf h1
    rw [od_getD hl, e1, rn_back (fun x hx => bk x (.step hr hx)) fun y e => bk y (R.varM hr e)]
theorem Raw.lg (R : Raw F τ) (W : WkPost F 0 od) : ∃ y : LG, y.ns = rnl F od ∧ ∃ ρ, WS y.ns 0 ρ ∧ HomS y.ns 0 ρ F 0 τ fun i => od.getD i 0 := by
  have iso := rnl_iso W
  obtain ⟨ρ, hρ⟩ := iso.toHom.homS (σ := τ) iso.inj
  have hb := R.back W
  have wsρ := hρ.push R.ws
  have reach : ∀ i, i < od.length → Rch (rnl F od) 0 i := fun i hi => rnl_all W hi
  have lt : ∀ i, Rch (rnl F od) 0 i → i < od.length := fun i hi => by
    obtain ⟨u, hu, rfl⟩ := iso.toHom.onto hi
    exact List.idxOf_lt_length_of_mem ((W.mem u).mpr hu)
  have at' : ∀ i (hi : i < od.length), nat (rnl F od) i = (nat F od[i]).rn (od.idxOf ·) := fun i hi => by
    have := rnl_nat W ((W.mem _).mp (List.getElem_mem hi))
    rwa [idx_get W.nd hi] at this
  have rch : ∀ i (hi : i < od.length), Rch F 0 od[i] := fun i hi => (W.mem _).mp (List.getElem_mem hi)
  have ol : od.length ≤ 48 := nodup_lt 48 _ W.nd fun u hu => Nat.lt_of_lt_of_le (rch_lt ⟨F, R.ok, 0, R.pos⟩ ((W.mem u).mp hu)) R.few
  have op : 0 < od.length := (List.getElem?_eq_some_iff.mp W.h0).1
  have sl2 : ∀ v, Rch (rnl F od) 0 v → (ρ v).length ≤ 4 := fun v hv => by
    obtain ⟨u, hu, rfl⟩ := iso.toHom.onto hv
    rw [hρ.sc u hu, List.length_map]
    exact R.sl u hu
  have getN : ∀ {i n}, (rnl F od)[i]? = some n → i < od.length ∧ nat (rnl F od) i = n := fun {i n} e => by
    have h1 := (List.getElem?_eq_some_iff.mp e).1
    rw [nat_at h1] at e
    rw [rnl_len] at h1
    exact ⟨h1, Option.some.inj e⟩
  have fm : NsFm (rnl F od) := by
    refine ⟨rnl_ok R.ok R.pos R.ws W, ?_, fun w cs hm => ?_, fun f hm => ?_, owners_nodup fun i j f h1 h2 => ?_, ?_⟩
    · intro e
      have := congrArg List.length e
      rw [rnl_len] at this
      simp at this
      rw [this] at op
      exact Nat.lt_irrefl _ op
    · obtain ⟨u, hu, e⟩ := List.mem_map.mp hm
      cases hn : nat F u with
      | word x ds =>
        rw [hn] at e
        cases e
        exact R.nm u _ ds ((W.mem u).mp hu) hn
      | fn _ => rw [hn] at e; cases e
      | var _ => rw [hn] at e; cases e
    · obtain ⟨u, hu, e⟩ := List.mem_map.mp hm
      obtain ⟨g, e1, rfl⟩ := rn_var e
      have hu' := (W.mem u).mp hu
      show (nat (rnl F od) (od.idxOf g)).isFn = true
      rw [rnl_nat W (R.varM hu' e1), rn_isFn]
      exact R.vf u g hu' e1
    · obtain ⟨hi, e1⟩ := getN h1
      obtain ⟨hj, e2⟩ := getN h2
      rw [at' i hi] at e1
      rw [at' j hj] at e2
      obtain ⟨g, g1, g2⟩ := rn_var e1
      obtain ⟨h, k1, k2⟩ := rn_var e2
      have hg := (W.mem g).mpr (R.varM (rch i hi) g1)
      have : g = h := idx_inj hg (g2.trans k2.symm)
      subst this
      have := R.one _ _ _ (rch i hi) (rch j hj) g1 k1
      exact (List.getElem_inj W.nd).mp this
    · have h0 : od[0] = 0 := (List.getElem?_eq_some_iff.mp W.h0).2
      rw [at' 0 op, rn_isVar, h0]
      exact R.r0
  have hsc : ∀ u, Rch (rnl F od) 0 u → Sc (rnl F od) u (scT (rnl F od) u) := fun u hu => by
    obtain ⟨t, ht⟩ := wsρ.sc_ex hu
    exact scT_sc ht
  refine ⟨⟨rnl F od, fm, by rw [rnl_len]; exact ol, scT (rnl F od), wsρ.scopes hsc, fun u hu => ?_, hsc, fun u hu => reach u (by rw [rnl_len] at hu; exact hu)⟩, rfl, ρ, wsρ, hb, fun i hi => ?_⟩
  · have h1 := (wsρ.sc_sub hu (hsc u hu)).2
    have := sl2 u hu
    omega
  · obtain ⟨u, hu, rfl⟩ := iso.toHom.onto hi
    have bk : ∀ v, Rch F 0 v → od.getD (od.idxOf v) 0 = v := fun v hv => by
      have h1 := List.idxOf_lt_length_of_mem ((W.mem v).mpr hv)
      rw [od_getD h1]
      exact List.getElem_idxOf h1
    show τ (od.getD (od.idxOf u) 0) = (ρ (od.idxOf u)).map fun i => od.getD i 0
    rw [bk u hu, hρ.sc u hu, List.map_map]
    conv => lhs; rw [← List.map_id (τ u)]
    exact List.map_congr_left fun f hf => (bk f (R.ws.mem hu hf).1).symm
/-- the graph that comes out is mapped onto what the nodes are mapped onto -/
theorem Raw.lgTo (R : Raw F τ) (W : WkPost F 0 od) (x : LG) {c : Nat → Nat} (h : HomS F 0 τ x.ns 0 x.σ c) : ∃ y : LG, y.ns = rnl F od ∧ ∃ d, HomS y.ns 0 y.σ x.ns 0 x.σ d := by
  obtain ⟨y, ey, ρ, wρ, hρ⟩ := R.lg W
  have hc := hρ.comp h
  exact ⟨y, ey, _, hc.toHom, fun u hu => hc.scope wρ hu (y.sc u hu) (x.sc _ (hc.toHom.fwd hu))⟩
end
end K50
/-! MI: graphs that grow, plain. -/
namespace K50
open List
/-- a row: its node, if it is there, and the functions around -/
abbrev Row := Option Nd × List Nat
structure GI (rs : List Row) (stack : List Nat) : Prop where
  len4 : ∀ r ∈ rs, r.2.length ≤ 4
  ar : ∀ (i : Nat) (n : Nd) (st : List Nat), rs[i]? = some (some n, st) → n.ch.length ≤ 3
  ch : ∀ (i : Nat) (n : Nd) (st : List Nat), rs[i]? = some (some n, st) → ∀ c ∈ n.ch, ∃ (o : Option Nd) (t : List Nat), rs[c]? = some (o, t) ∧ t <+: st ++ if n.isFn = true then [i] else []
  vr : ∀ (i f : Nat) (st : List Nat), rs[i]? = some (some (.var f), st) → ∃ (o : Option Nd) (t : List Nat), rs[f]? = some (o, t) ∧ st = t ++ [f] ∧ (f ∈ stack ∨ ∃ c, o = some (.fn c))
  one : ∀ (i j f : Nat) (st st' : List Nat), rs[i]? = some (some (.var f), st) → rs[j]? = some (some (.var f), st') → i = j
  nm : ∀ (i : Nat) (w : PySem.Str) (cs st : List Nat), rs[i]? = some (some (.word w cs), st) → NmOk w
  stk : ∀ (j f : Nat), stack[j]? = some f → rs[f]? = some (none, stack.take j)
  s4 : stack.length ≤ 4
/-- rows are kept, new ones are whole -/
structure Ext (rs rs' : List Row) : Prop where
  old : ∀ i, i < rs.length → rs'[i]? = rs[i]?
  le : rs.length ≤ rs'.length
  new : ∀ i, rs.length ≤ i → i < rs'.length → ∃ n st, rs'[i]? = some (some n, st)
/-- what comes back -/
def Res (rs : List Row) (stack : List Nat) (r : Nat) : Prop := ∃ (o : Option Nd) (st : List Nat), rs[r]? = some (o, st) ∧ st <+: stack
theorem Ext.refl (rs : List Row) : Ext rs rs := ⟨fun _ _ => rfl, Nat.le_refl _, fun i h1 h2 => absurd h2 (by omega)⟩
theorem Ext.trans {a b c : List Row} (h : Ext a b) (k : Ext b c) : Ext a c := by
  refine ⟨fun i hi => by rw [k.old i (by have := h.le; omega), h.old i hi], Nat.le_trans h.le k.le, fun i h1 h2 => ?_⟩
  by_cases hb : i < b.length
  · rw [k.old i hb]; exact h.new i h1 hb
  · exact k.new i (by omega) h2
theorem Ext.at {a b : List Row} (h : Ext a b) {i : Nat} {r : Row} (e : a[i]? = some r) : b[i]? = some r := by rw [h.old i (List.getElem?_eq_some_iff.mp e).1]; exact e
theorem Ext.res {a b : List Row} (h : Ext a b) {stack : List Nat} {r : Nat} (k : Res a stack r) : Res b stack r := by
  obtain ⟨o, st, e, p⟩ := k
  exact ⟨o, st, h.at e, p⟩
section
variable {rs : List Row} {stack : List Nat}
theorem GI.zero : GI [] [] := ⟨by simp, by simp, by simp, by simp, by simp, by simp, by simp, by simp⟩
/-- a known variable is within reach -/
theorem GI.varRes (g : GI rs stack) {i f : Nat} {st : List Nat} (hf : f ∈ stack) (e : rs[i]? = some (some (.var f), st)) : Res rs stack i := by
  obtain ⟨o, t, h1, rfl, _⟩ := g.vr i f st e
  obtain ⟨j, hj⟩ := List.mem_iff_getElem?.mp hf
  have h2 := g.stk j f hj
  rw [h1] at h2
  cases h2
  refine ⟨_, _, e, ?_⟩
  have : stack.take j ++ [f] = stack.take (j + 1) := by rw [List.take_add_one, hj]; rfl
  rw [this]
  exact List.take_prefix _ _
theorem snoc_at {rs : List Row} {r x : Row} {i : Nat} (h : (rs ++ [r])[i]? = some x) : rs[i]? = some x ∨ (i = rs.length ∧ x = r) := by
  by_cases hi : i < rs.length
  · rw [List.getElem?_append_left hi] at h; exact .inl h
  · rw [List.getElem?_append_right (by omega)] at h
    have : i - rs.length = 0 := by
      have := (List.getElem?_eq_some_iff.mp h).1
      simp at this
      omega
    rw [this] at h
    simp at h
    exact .inr ⟨by omega, h.symm⟩
theorem old_at {rs : List Row} {r x : Row} {i : Nat} (h : rs[i]? = some x) : (rs ++ [r])[i]? = some x := by rw [List.getElem?_append_left (List.getElem?_eq_some_iff.mp h).1]; exact h
/-- a new variable -/
theorem GI.newVar (g : GI rs stack) {f : Nat} (hf : f ∈ stack) (no : ∀ r ∈ rs, r.1 ≠ some (.var f)) :
    GI (rs ++ [(some (.var f), stack.take (stack.idxOf f + 1))]) stack ∧ Ext rs (rs ++ [(some (.var f), stack.take (stack.idxOf f + 1))]) ∧ Res (rs ++ [(some (.var f), stack.take (stack.idxOf f + 1))]) stack rs.length := by
  have hl := List.idxOf_lt_length_of_mem hf
  have hj : stack[stack.idxOf f]? = some f := by rw [List.getElem?_eq_getElem hl, List.getElem_idxOf hl]
  have hs := g.stk _ f hj
  refine ⟨⟨fun r hr => ?_, fun i n st e => ?_, fun i n st e c hc => ?_, fun i f' st e => ?_, fun i j f' st st' e1 e2 => ?_, fun i w cs st e => ?_, fun j f' e => old_at (g.stk j f' e), g.s4⟩, ⟨fun i hi => List.getElem?_append_left hi, by simp, fun i h1 h2 => ?_⟩, ⟨some (.var f), stack.take (stack.idxOf f + 1), by rw [List.getElem?_append_right (Nat.le_refl _), Nat.sub_self]; rfl, List.take_prefix _ _⟩⟩
  · rcases List.mem_append.mp hr with h | h
    · exact g.len4 r h
    · rw [List.mem_singleton.mp h]
      have := g.s4
      simp
      omega
  · rcases snoc_at e with h | ⟨_, h⟩
    · exact g.ar i n st h
    · cases h; simp [Nd.ch]
  · rcases snoc_at e with h | ⟨_, h⟩
    · obtain ⟨o, t, h1, h2⟩ := g.ch i n st h c hc
      exact ⟨o, t, old_at h1, h2⟩
    · cases h; simp [Nd.ch] at hc
  · rcases snoc_at e with h | ⟨_, h⟩
    · obtain ⟨o, t, h1, h2⟩ := g.vr i f' st h
      exact ⟨o, t, old_at h1, h2⟩
    · cases h
      refine ⟨_, _, old_at hs, ?_, .inl hf⟩
      rw [List.take_add_one, hj]; rfl
  · rcases snoc_at e1 with h | ⟨h0, h⟩ <;> rcases snoc_at e2 with k | ⟨k0, k⟩
    · exact g.one i j f' st st' h k
    · cases k; exact absurd rfl (no _ (List.mem_of_getElem? h))
    · cases h; exact absurd rfl (no _ (List.mem_of_getElem? k))
    · rw [h0, k0]
  · rcases snoc_at e with h | ⟨_, h⟩
    · exact g.nm i w cs st h
    · cases h
  · have : i = rs.length := by simp at h2; omega
    subst this
    exact ⟨.var f, stack.take (stack.idxOf f + 1), by rw [List.getElem?_append_right (Nat.le_refl _), Nat.sub_self]; rfl⟩
/-- a row is begun -/
theorem GI.push (g : GI rs stack) : GI (rs ++ [(none, stack)]) stack := by
  refine ⟨fun r hr => ?_, fun i n st e => ?_, fun i n st e c hc => ?_, fun i f' st e => ?_, fun i j f' st st' e1 e2 => ?_, fun i w cs st e => ?_, fun j f' e => old_at (g.stk j f' e), g.s4⟩
  · rcases List.mem_append.mp hr with h | h
    · exact g.len4 r h
    · rw [List.mem_singleton.mp h]
      exact g.s4
  · rcases snoc_at e with h | ⟨_, h⟩
    · exact g.ar i n st h
    · cases h
  · rcases snoc_at e with h | ⟨_, h⟩
    · obtain ⟨o, t, h1, h2⟩ := g.ch i n st h c hc
      exact ⟨o, t, old_at h1, h2⟩
    · cases h
  · rcases snoc_at e with h | ⟨_, h⟩
    · obtain ⟨o, t, h1, h2⟩ := g.vr i f' st h
      exact ⟨o, t, old_at h1, h2⟩
    · cases h
  · rcases snoc_at e1 with h | ⟨h0, h⟩
    · rcases snoc_at e2 with k | ⟨k0, k⟩
      · exact g.one i j f' st st' h k
      · cases k
    · cases h
  · rcases snoc_at e with h | ⟨_, h⟩
    · exact g.nm i w cs st h
    · cases h
/-- .. of a function: what grows below it -/
theorem GI.enter (g : GI rs stack) (h4 : stack.length < 4) : GI (rs ++ [(none, stack)]) (stack ++ [rs.length]) := by
  have k := g.push
  refine ⟨k.len4, k.ar, k.ch, fun i f st e => ?_, k.one, k.nm, fun j f e => ?_, by simp; omega⟩
  · obtain ⟨o, t, h1, h2, h3⟩ := k.vr i f st e
    exact ⟨o, t, h1, h2, h3.imp (fun h => by simp [h]) id⟩
  · by_cases hj : j < stack.length
    · rw [List.getElem?_append_left hj] at e
      rw [List.take_append_of_le_length (by omega)]
      exact k.stk j f e
    · rw [List.getElem?_append_right (by omega)] at e
      have : j - stack.length = 0 := by
        have := (List.getElem?_eq_some_iff.mp e).1
        simp at this
        omega
      rw [this] at e
      simp at e
      subst e
      have : j = stack.length := by omega
      subst this
      simp
/-- .. is whole -/
theorem GI.put {now : List Row} {st2 : List Nat} (g : GI rs stack) (k : GI now st2) (E : Ext (rs ++ [(none, stack)]) now) {n : Nd} (hv : n.isVar = false) (h3 : n.ch.length ≤ 3)
    (hch : ∀ c ∈ n.ch, Res now (stack ++ if n.isFn = true then [rs.length] else []) c) (hnm : ∀ w cs, n = .word w cs → NmOk w)
    (hst : ∀ f, f ∈ st2 → f ∈ stack ∨ (f = rs.length ∧ n.isFn = true)) :
    GI (now.set rs.length (some n, stack)) stack ∧ Ext rs (now.set rs.length (some n, stack)) ∧ Res (now.set rs.length (some n, stack)) stack rs.length := by
  have hl : rs.length < now.length := by have := E.le; simp at this; omega
  have self : (now.set rs.length (some n, stack))[rs.length]? = some (some n, stack) := List.getElem?_set_self hl
  have ne : ∀ {i : Nat}, i ≠ rs.length → (now.set rs.length (some n, stack))[i]? = now[i]? := fun {i} h => List.getElem?_set_ne (Ne.symm h)
  have was : now[rs.length]? = some (none, stack) := E.at (by simp)
  -- the functions around stay
  have any : ∀ {i : Nat} {o : Option Nd} {t : List Nat}, now[i]? = some (o, t) → ∃ o', (now.set rs.length (some n, stack))[i]? = some (o', t) ∧ (i ≠ rs.length → o' = o) := fun {i o t} e => by
    by_cases hi : i = rs.length
    · subst hi
      rw [was] at e
      cases e
      exact ⟨_, self, fun h => absurd rfl h⟩
    · exact ⟨o, by rw [ne hi]; exact e, fun _ => rfl⟩
  have sp : ∀ {i : Nat} {x : Row}, (now.set rs.length (some n, stack))[i]? = some x → (i = rs.length ∧ x = (some n, stack)) ∨ (i ≠ rs.length ∧ now[i]? = some x) := fun {i x} e => by
    by_cases hi : i = rs.length
    · subst hi
      rw [self] at e
      exact .inl ⟨rfl, (Option.some.inj e).symm⟩
    · rw [ne hi] at e
      exact .inr ⟨hi, e⟩
  refine ⟨⟨fun r hr => ?_, fun i m st e => ?_, fun i m st e c hc => ?_, fun i f st e => ?_, fun i j f st st' e1 e2 => ?_, fun i w cs st e => ?_, fun j f e => ?_, g.s4⟩, ⟨fun i hi => ?_, by simp; omega, fun i h1 h2 => ?_⟩, ⟨_, _, self, List.prefix_refl _⟩⟩
  · rcases List.mem_or_eq_of_mem_set hr with h | h
    · exact k.len4 r h
    · rw [h]; exact g.s4
  · rcases sp e with ⟨_, h⟩ | ⟨_, h⟩
    · cases h; exact h3
    · exact k.ar i m st h
  · rcases sp e with ⟨hi, h⟩ | ⟨_, h⟩
    · cases h
      obtain ⟨o, t, h1, h2⟩ := hch c hc
      obtain ⟨o', h3, _⟩ := any h1
      exact ⟨o', t, h3, by rw [hi]; exact h2⟩
    · obtain ⟨o, t, h1, h2⟩ := k.ch i m st h c hc
      obtain ⟨o', h3, _⟩ := any h1
      exact ⟨o', t, h3, h2⟩
  · rcases sp e with ⟨_, h⟩ | ⟨_, h⟩
    · cases h; cases hv
    · obtain ⟨o, t, h1, h2, h3⟩ := k.vr i f st h
      obtain ⟨o', h4, h5⟩ := any h1
      refine ⟨o', t, h4, h2, ?_⟩
      by_cases hf : f = rs.length
      · subst hf
        rw [self] at h4
        have eo : o' = some n := by cases h4; rfl
        rcases h3 with h3 | ⟨c, h3⟩
        · rcases hst _ h3 with h6 | ⟨_, h6⟩
          · exact .inl h6
          · obtain ⟨c, hc⟩ := isFn_of h6
            exact .inr ⟨c, by rw [eo, hc]⟩
        · rw [was] at h1
          cases h1
          cases h3
      · rcases h3 with h3 | ⟨c, h3⟩
        · rcases hst _ h3 with h6 | ⟨h6, _⟩
          · exact .inl h6
          · exact absurd h6 hf
        · exact .inr ⟨c, by rw [h5 hf, h3]⟩
  · rcases sp e1 with ⟨_, h⟩ | ⟨_, h⟩
    · cases h; cases hv
    · rcases sp e2 with ⟨_, h'⟩ | ⟨_, h'⟩
      · cases h'; cases hv
      · exact k.one i j f st st' h h'
  · rcases sp e with ⟨_, h⟩ | ⟨_, h⟩
    · cases h; exact hnm w cs rfl
    · exact k.nm i w cs st h
  · have h1 := g.stk j f e
    have hf : f ≠ rs.length := fun z => by
      have := (List.getElem?_eq_some_iff.mp h1).1
      omega
    rw [ne hf]
    exact E.at (old_at h1)
  · have hi' : i ≠ rs.length := by omega
    rw [ne hi', E.old i (by simp; omega), List.getElem?_append_left hi]
  · by_cases hi : i = rs.length
    · subst hi
      exact ⟨n, stack, self⟩
    · rw [List.length_set] at h2
      obtain ⟨m, st, h3⟩ := E.new i (by simp; omega) h2
      exact ⟨m, st, by rw [ne hi]; exact h3⟩
end
/-- how many rows there may be -/
def roomG (n d : Nat) : Nat := max (n + 1) (24 + 3 * d)
/-- the nodes of whole rows -/
def nodesOf (rs : List Row) : List Nd := rs.map fun r => r.1.getD (.var 0)
def around (rs : List Row) (i : Nat) : List Nat := ((rs[i]?).map (·.2)).getD []
theorem GI.raw {rs : List Row} (g : GI rs []) (E : Ext [] rs) (few : rs.length ≤ 48) {n : Nd} (h0 : rs[0]? = some (some n, [])) (hv : n.isVar = false) : Raw (nodesOf rs) (around rs) := by
  have nl : (nodesOf rs).length = rs.length := by simp [nodesOf]
  have at' : ∀ i, i < rs.length → ∃ n st, rs[i]? = some (some n, st) ∧ nat (nodesOf rs) i = n ∧ around rs i = st := fun i hi => by
    obtain ⟨n, st, e⟩ := E.new i (Nat.zero_le _) hi
    refine ⟨n, st, e, ?_, ?_⟩
    · simp only [nat, nodesOf, List.getD_eq_getElem?_getD, List.getElem?_map, e]
      rfl
    · simp only [around, e]
      rfl
  have pos : 0 < rs.length := (List.getElem?_eq_some_iff.mp h0).1
  have lt : ∀ {i : Nat} {r : Row}, rs[i]? = some r → i < rs.length := fun e => (List.getElem?_eq_some_iff.mp e).1
  have ok : NsOk (nodesOf rs) := by
    have each : ∀ m ∈ nodesOf rs, ∃ i st, rs[i]? = some (some m, st) := fun m hm => by
      obtain ⟨i, hi, e⟩ := List.getElem_of_mem hm
      obtain ⟨n, st, e1, e2, _⟩ := at' i (by rw [nl] at hi; exact hi)
      refine ⟨i, st, ?_⟩
      have : nat (nodesOf rs) i = m := by simp [nat, List.getD, hi, e]
      rw [← this, e2]
      exact e1
    refine ⟨by rw [nl]; omega, fun m hm => ?_, fun f hf => ?_, fun m hm => ?_⟩
    · obtain ⟨i, st, e⟩ := each m hm
      refine ⟨g.ar i m st e, fun c hc => ?_⟩
      obtain ⟨o, t, h1, _⟩ := g.ch i m st e c hc
      rw [nl]; exact lt h1
    · obtain ⟨i, st, e⟩ := each _ hf
      obtain ⟨o, t, h1, _⟩ := g.vr i f st e
      rw [nl]; exact lt h1
    · obtain ⟨i, st, e⟩ := each m hm
      cases m with
      | word w cs => exact nm_strOk (g.nm i w cs st e)
      | fn c => exact (show PySem.PyData.strOk ("" : PySem.Str) = true by decide +kernel)
      | var f => exact (show PySem.PyData.strOk ("" : PySem.Str) = true by decide +kernel)
  have rl : ∀ {u : Nat}, Rch (nodesOf rs) 0 u → u < rs.length := fun h => by
    have := rch_lt ⟨nodesOf rs, ok, 0, by rw [nl]; exact pos⟩ h
    rw [← nl]; exact this
  have ar : ∀ {i : Nat} {o : Option Nd} {t : List Nat}, rs[i]? = some (o, t) → around rs i = t := fun e => by simp [around, e]
  refine ⟨ok, by rw [nl]; exact pos, by rw [nl]; exact few, ⟨ar h0, fun u hu c hc => ?_, fun u f hu e => ?_⟩, fun u hu => ?_, fun u w cs hu e => ?_, fun u f hu e => ?_, fun u v f hu hv e1 e2 => ?_, ?_⟩
  · obtain ⟨n, st, e1, e2, e3⟩ := at' u (rl hu)
    rw [e2] at hc ⊢
    obtain ⟨o, t, h1, h2⟩ := g.ch u n st e1 c hc
    rw [ar h1, e3]
    exact h2
  · obtain ⟨n, st, e1, e2, e3⟩ := at' u (rl hu)
    rw [e2] at e
    subst e
    obtain ⟨o, t, h1, h2, _⟩ := g.vr u f st e1
    rw [e3, ar h1, h2]
  · obtain ⟨n, st, e1, e2, e3⟩ := at' u (rl hu)
    rw [e3]
    exact g.len4 _ (List.mem_of_getElem? e1)
  · obtain ⟨n, st, e1, e2, e3⟩ := at' u (rl hu)
    rw [e2] at e
    subst e
    exact g.nm u w cs st e1
  · obtain ⟨n, st, e1, e2, e3⟩ := at' u (rl hu)
    rw [e2] at e
    subst e
    obtain ⟨o, t, h1, h2, h3⟩ := g.vr u f st e1
    rcases h3 with h3 | ⟨c, h3⟩
    · cases h3
    · subst h3
      obtain ⟨m, s2, k1, k2, _⟩ := at' f (lt h1)
      rw [h1] at k1
      cases k1
      rw [k2]; rfl
  · obtain ⟨n, st, h1, h2, _⟩ := at' u (rl hu)
    obtain ⟨m, st', k1, k2, _⟩ := at' v (rl hv)
    rw [h2] at e1
    rw [k2] at e2
    subst e1 e2
    exact g.one u v f st st' h1 k1
  · obtain ⟨m, st, k1, k2, _⟩ := at' 0 pos
    rw [h0] at k1
    cases k1
    rw [k2]
    exact hv
end K50
set_option maxRecDepth 100000
set_option maxHeartbeats 4000000
/-! DLR: d.get(k, x), dict of a list of pairs. -/
namespace DL
open PySem PySem.Spec PyProof.Rows L2
section
variable {X : Cx} {Γ : Gam} {L : Cells} {R : RD} {e f o : Expr} {pos apos cpos : Pos} {E : En} {K : PySem.W.Frag}
theorem IsDct.isD {B0 : Hp} {F : List Addr} {H : Hp} {σ : L2.St} {ts : List V} {τ : List D} {v : V} {d : D} {ks : List Int} {ds : List D} (h : IsDct d L ks ds) (S : Sat K B0 F H σ Γ ts τ L) (o : Ob K (vis H (F ++ adr L)) v d) : ∃ a, v = .ref a ∧ IsD H a := by
  obtain ⟨c, xs, e, hx, _, _⟩ := h.at S o
  exact ⟨c, e, .inl ⟨_, hx⟩⟩
/-- d.get(k, x), int keys -/
theorem ev_dget2 (hu : X.A.units + 1 < cLine) (h : EvX X o Γ L fun d1 L1 => (∃ ks ds, IsDct d1 L1 ks ds) ∧ EvX X e Γ L1 fun d2 L2 => EvX X f Γ L2 fun d3 L3 => ∃ (k : Int) (ks : List Int) (ds : List D), d2 = .int k ∧ IsDct d1 L3 ks ds ∧ R ((dlook k ks ds).getD d3) L3)
    (m : M2 X o "get" apos e f cpos := by exact ⟨rfl, rfl, rfl, rfl⟩) : EvX X (.Call (.Attribute o "get" apos) [e, f] [] cpos) Γ L R := .mk fun S q =>
  we_of (pe_dget2 hu pe_w pe_w pe_w m) (h.run S fun v1 d1 H1 L1 ⟨⟨ks1, ds1, h0⟩, h1⟩ S1 => by
    obtain ⟨a, rfl, isd⟩ := h0.isD S1 S1.top
    refine ⟨a, rfl, isd, h1.run S1 fun v2 d2 H2 L2 h2 S2 => h2.run S2 fun v3 d3 H3 L3 ⟨k, ks, ds, e2, id3, r⟩ S3 => ?_⟩
    subst e2
    obtain ⟨o2, o3, S4⟩ := S3.two
    cases o2
    obtain ⟨c, xs, ec, hx, hl, t⟩ := id3.at S4 S4.top
    cases ec
    refine ⟨_, dget_k (k := .inl k) hx, ?_⟩
    cases hd : dlook k ks ds with
    | some d =>
      obtain ⟨v, hv, o⟩ := (valV_dkv (k := k) hl t).1 d hd
      rw [hv]
      refine q _ _ _ _ (by rw [hd] at r; exact r) (S4.pop.push o)
    | none =>
      have hn := (valV_dkv (k := k) hl t).2 hd
      rw [hn]
      exact q _ _ _ _ (by rw [hd] at r; exact r) (S4.pop.push o3))
/-- pairs as data -/
def kvD (ks : List Int) (ds : List D) : List D := (ks.zip ds).map fun p => D.tup [.int p.1, p.2]
theorem kv_split {B : Hp} : ∀ {ks : List Int} {ds : List D} {xs : List V}, ks.length = ds.length → ObL K B xs (kvD ks ds) → ∃ (ps : List Addr) (vs : List V), xs = ps.map V.ref ∧ ks.length = vs.length ∧ ObL K B vs ds ∧ Paired (fun p (kv : Key × V) => SqT K B p [kV kv.1, kv.2]) ps (dkv ks vs)
  | [], [], xs, _, h => by
    cases h
    exact ⟨[], [], rfl, rfl, .nil, .nil⟩
  | k :: ks, d :: ds, xs, hl, h => by
    cases h with
    | cons o t =>
      obtain ⟨ps, vs, e1, e2, e3, e4⟩ := kv_split (ks := ks) (ds := ds) (by simpa using hl) t
      cases o with
      | @tup a ys _ s t2 =>
        obtain ⟨u1, u2, rfl, o1, o2⟩ := t2.two
        cases o1
        exact ⟨a :: ps, u2 :: vs, by rw [e1]; rfl, by simp [e2], .cons o2 e3, .cons s e4⟩
  | [], _ :: _, _, hl, _ => by simp at hl
  | _ :: _, [], _, hl, _ => by simp at hl
theorem mergeK_new : ∀ {ls : List Int} {ys : List V} {ks : List Int} {xs : List V}, ks.length = xs.length → ls.length = ys.length → (ks ++ ls).Nodup → mergeK (dkv ks xs) (dkv ls ys) = dkv (ks ++ ls) (xs ++ ys)
  | [], [], ks, xs, _, _, _ => by simp [mergeK, dkv]
  | l :: ls, y :: ys, ks, xs, h1, h2, nd => by
    have hn : valV (dkv ks xs) (.inl l) = none := by
      have := valV_mem (k := l) h1
      rw [decide_eq_false (fun z => by
        rw [List.nodup_append] at nd
        exact nd.2.2 l z l (by simp) rfl)] at this
      exact Option.isSome_eq_false_iff.mp this |> Option.isNone_iff_eq_none.mp
    have e : mergeK (dkv ks xs) (dkv (l :: ls) (y :: ys)) = mergeK (putK (dkv ks xs) (.inl l) y) (dkv ls ys) := rfl
    rw [e, putK_new y hn, dkv_snoc h1, mergeK_new (by simp [h1]) (by simpa using h2) (by simpa using nd)]
    simp
  | [], _ :: _, _, _, _, h2, _ => by simp at h2
  | _ :: _, [], _, _, _, h2, _ => by simp at h2
/-- dict(list of pairs), the keys ints, no two equal -/
theorem oa_dictP {d : D} {ks : List Int} {ds : List D} (h : d = .lst (kvD ks ds)) (hl : ks.length = ds.length) (nd : ks.Nodup) (r : ∀ p, R (.ref p) (L ++ [(p, .dct ks ds)])) : OpA K (fun xs H Q => ∃ (a : Addr) (ps : List Addr) (kvs : List (Key × V)), xs = [.ref a] ∧ SqL K H a (ps.map V.ref) ∧ Paired (fun p kv => SqT K H p [kV kv.1, kv.2]) ps kvs ∧
    ∀ p, H p = none → Q (.ref p) (upd H p (.dK (mergeK [] kvs)))) [d] L R := .mk fun {B0 F H σ Γ ts vs τ Q} S hn q => by
  subst h
  obtain ⟨o, S2⟩ := S.args hn
  obtain ⟨v, rfl, o1⟩ := o.one
  cases o1 with
  | lst s t =>
    obtain ⟨ps, ys, e1, e2, e3, e4⟩ := kv_split hl t
    subst e1
    have e5 : mergeK [] (dkv ks ys) = dkv ks ys := by
      have := mergeK_new (ks := []) (xs := []) rfl e2 (by simpa using nd)
      simpa [dkv] using this
    have lift : ∀ {ps : List Addr} {kvs : List (Key × V)}, Paired (fun p (kv : Key × V) => SqT K (vis H (F ++ adr L)) p [kV kv.1, kv.2]) ps kvs → Paired (fun p (kv : Key × V) => SqT K H p [kV kv.1, kv.2]) ps kvs := fun h => by
      induction h with
      | nil => exact .nil
      | cons a _ ih => exact .cons (vis_le.sqT a) ih
    refine ⟨_, ps, _, rfl, vis_le.sqL s, lift e4, fun p hp => ?_⟩
    rw [e5]
    exact q _ _ _ _ (r p) ((S2.newC hp (o := .dK (dkv ks ys)) (d := .dct ks ds) fun B le => ⟨ys, upd_same, e2, e3.mono le⟩).push (.ref p))
end
end DL
set_option maxRecDepth 100000
set_option maxHeartbeats 4000000
/-! DLS: tuples that are known for good: t.index(x). -/
namespace DL
open PySem PySem.Spec PyProof.Rows L2
/-- a plain tuple's object -/
def Kt (o : Obj) : Prop := o.cls = .type "tuple" ∧ o.dict = none
/-- a tuple whose object is known -/
def ktD (o : Obj) (ds : List D) : D := .raw (fun _ xs => .frz o (.tup xs)) ds
section
variable {X : Cx} {Γ : Gam} {L : Cells} {R : RD} {e f o : Expr} {es : List Expr} {pos apos cpos : Pos} {E : En} {K : PySem.W.Frag}
theorem ob_kt {B : Hp} {v : V} {ob : Obj} {ds : List D} (h : Ob K B v (ktD ob ds)) : ∃ a xs, v = .ref a ∧ B a = some (.frz ob (.tup xs)) ∧ ObL K B xs ds := by
  cases h with
  | raw e _ t => exact ⟨_, _, rfl, e, t⟩
theorem kt_ob {B : Hp} {a : Addr} {ob : Obj} {xs : List V} {ds : List D} (e : B a = some (.frz ob (.tup xs))) (t : ObL K B xs ds) : Ob K B (.ref a) (ktD ob ds) := .raw (mk := fun _ xs => .frz ob (.tup xs)) e trivial t
theorem Ob.kt {B : Hp} {v : V} {ob : Obj} {ds : List D} (h : Ob K B v (ktD ob ds)) : Ob K B v (.tup ds) := by
  obtain ⟨a, xs, rfl, e, t⟩ := ob_kt h
  exact .tup (.inl (.inr ⟨ob, e⟩)) t
/-- seen as any tuple -/
theorem ev_kt (h : EvX X e Γ L fun d L1 => ∃ ob ds, d = ktD ob ds ∧ R (.tup ds) L1) : EvX X e Γ L R := .mk fun S q => h.run S fun v d H' L' ⟨ob, ds, ed, r⟩ S' => by
  subst ed
  exact q _ _ _ _ r (S'.pop.push S'.top.kt)
/-- (a, b, ..) -/
theorem ev_tupK {x1 : Nat} (h : AgX X es Γ L fun ds L1 => ds.length ≤ sizeLine ∧ ∀ ob, Kt ob → R (ktD ob ds) L1) : EvX X (.Tuple es x1 pos) Γ L R := .mk fun {B0 F H σ ts τ Q} S q pins s I => by
  refine wpAny_Tuple_spliced (thn (h.run S (Q := fun vs H1 => vs.length ≤ sizeLine ∧ ∀ p ob, H1 p = none → Kt ob → Q (.ref p) (upd H1 p (.frz ob (.tup vs)))) (fun vs ds H1 L1 ⟨z, r⟩ hl S1 => ?_) pos pins s I) fun us s1 ⟨vs, H1, I1, rv, z, qq⟩ => ⟨by rw [← rv.length]; exact z, ?_⟩)
  · obtain ⟨o, S2⟩ := S1.args hl
    refine ⟨by rw [hl]; exact z, fun p ob hp hk => ?_⟩
    obtain ⟨S3, le, hn⟩ := S2.newB (o := .frz ob (.tup vs)) hp
    exact q _ _ _ _ (r ob hk) (S3.push (kt_ob hn (o.mono le)))
  · have hf : H1 s1.heap.objs.size = none := I1.hok.fresh (Nat.le_refl _)
    refine ⟨.ref s1.heap.objs.size, _, I1.laid (t' := s1.toks) (o := .frz { cls := .type "tuple", data := .seq us.toArray } (.tup vs)) (fun b u e => Heap.get?_push_of_some _ e) (Nat.le_refl _) ?_, rfl, qq _ _ hf ⟨rfl, rfl⟩⟩
    exact ⟨Heap.get?_push_size _ rfl, z, us, rv, ⟨_, Heap.get?_push_size _ rfl, rfl, _, rfl⟩⟩
/-- t + u -/
def rCatK : R2 := fun x y H Q => ∃ a b o1 o2 xs ys, x = .ref a ∧ y = .ref b ∧ H a = some (.frz o1 (.tup xs)) ∧ H b = some (.frz o2 (.tup ys)) ∧ ys ≠ [] ∧ xs.length + ys.length ≤ sizeLine ∧
  (xs = [] → Q (.ref b) H) ∧ (xs ≠ [] → ∀ p ob, H p = none → Kt ob → Q (.ref p) (upd H p (.frz ob (.tup (xs ++ ys)))))
theorem op_catK : OpR X (binaryOp .Add) rCatK := by
  intro pins s σ H x y v u Q I rx ry h
  obtain ⟨a, b, o1, o2, xs, ys, rfl, rfl, ha, hb, hy, hz, q1, q2⟩ := h
  cases rx
  cases ry
  have ha' : SqT X.K H a xs := .inl (.inr ⟨o1, ha⟩)
  have hb' : SqT X.K H b ys := .inl (.inr ⟨o2, hb⟩)
  obtain ⟨its, r1, p1, _⟩ := I.tuple ha'
  obtain ⟨its2, r2, p2, _⟩ := I.tuple hb'
  by_cases hx : xs = []
  · subst hx
    cases r1
    exact cat_tup0 p1 p2 ⟨.ref b, H, I, rfl, q1 rfl⟩
  · refine HT.cat_tup p1 p2 (fun z => hx (r1.nil_iff.mp z)) (fun z => absurd (r2.nil_iff.mp z) hy) (fun z => ?_) (by rw [← r1.length, ← r2.length]; exact hz)
    refine ⟨.ref s.heap.objs.size, _, I.laid (t' := s.toks) (o := .frz { cls := .type "tuple", data := .seq (its ++ its2).toArray } (.tup (xs ++ ys))) (fun b ob q => Heap.get?_push_of_some _ q) (Nat.le_refl _) ?_, rfl, q2 hx _ _ (I.hok.fresh (Nat.le_refl _)) ⟨rfl, rfl⟩⟩
    exact ⟨Heap.get?_push_size _ rfl, by rw [List.length_append]; exact hz, _, r1.append r2, IsTup.new _ _⟩
theorem o2_catK {o1 o2 : Obj} {ds es : List D} (he : es ≠ []) (z : ds.length + es.length ≤ sizeLine) (k2 : Kt o2) (r : ∀ ob, Kt ob → R (ktD ob (ds ++ es)) L) : Op2 K rCatK (ktD o1 ds) (ktD o2 es) L R := .mk fun {B0 F H σ Γ ts τ x y Q} S q => by
  obtain ⟨ox, oy, S2⟩ := S.two
  obtain ⟨a, xs, rfl, ea, ta⟩ := ob_kt ox
  obtain ⟨b, ys, rfl, eb, tb⟩ := ob_kt oy
  refine ⟨a, b, o1, o2, xs, ys, rfl, rfl, (vis_some.mp ea).2, (vis_some.mp eb).2, fun e => he ?_, by rw [ta.length, tb.length]; exact z, fun e => ?_, fun e p ob hp hk => ?_⟩
  · subst e
    cases tb
    rfl
  · subst e
    cases ta
    exact q _ _ _ _ (r o2 k2) (S2.push (kt_ob eb tb))
  · obtain ⟨S3, le, hn⟩ := S2.newB (o := .frz ob (.tup (xs ++ ys))) hp
    exact q _ _ _ _ (r ob hk) (S3.push (kt_ob hn ((ta.mono le).append (tb.mono le))))
def rIndexT (K : PySem.W.Frag) : V → List V → Hp → VK → Prop := fun x xs H Q => ∃ (a : Addr) (ys : List V) (y : V) (j : Nat) (z : V), x = V.ref a ∧ xs = [y] ∧ SqT K H a ys ∧ flatV y = true ∧ ys.all flatV = true ∧ ys[j]? = some z ∧ eqV z y = true ∧ (∀ (m : Nat) (z' : V), m < j → ys[m]? = some z' → eqV z' y = false) ∧ Q (.int (j : Nat)) H
theorem mt_indexT : MtR X "tuple.index" (rIndexT X.K) := by
  intro pins s σ H x xs v us Q I rx rxs h
  obtain ⟨a, ys, y, j, z, rfl, rfl, hs, fy, fys, hz, hzj, hno, q⟩ := h
  cases rx
  cases rxs with
  | cons ry rt =>
    rename_i uy ut
    cases rt
    obtain ⟨its, rv, ⟨⟨cls, dd, data, sl⟩, ho, hc, n, hd⟩, hlen⟩ := I.tuple hs
    simp only at hc hd
    subst hc hd
    obtain ⟨u, hu, ru⟩ := rv.get hz
    obtain ⟨hjl, hje⟩ := List.getElem?_eq_some_iff.mp hu
    have hvl := rv.length
    have hj : j < its.toArray.size := by simpa using hjl
    have hsl := sizeLine_eq
    refine call_meets PySem.F.slot_tuple_index ⟨_, ho, rfl⟩ PySem.F.entry_tuple_index (PySem.F.args_tuple_index_2 _ _)
      (TI.tuple_indexAt a its.toArray n dd sl uy (eqU y) j hj ?_ ?_) ⟨ho, fun u' hu' => mem_eqAt ry fy rv fys u' (by simpa using hu'), ?_⟩
    · have e1 : its.toArray[j] = u := by simpa using hje
      rw [e1, eqU_of ru (flat_at fys hz)]
      exact hzj
    · intro m hm hmj
      have hml : m < its.length := by simpa using hm
      have hmy : m < ys.length := by omega
      have hy' : ys[m]? = some ys[m] := List.getElem?_eq_getElem hmy
      obtain ⟨u2, hu2, ru2⟩ := rv.get hy'
      obtain ⟨_, hme⟩ := List.getElem?_eq_some_iff.mp hu2
      have e1 : its.toArray[m] = u2 := by simpa using hme
      rw [e1, eqU_of ru2 (flat_at fys hy')]
      exact hno m _ hmj hy'
    · exact ⟨.int (j : Nat), H, I.tok _, ⟨_, rfl⟩, q⟩
/-- o.m(e, ..), o a known tuple -/
def tBMK (r : V → List V → Hp → VK → Prop) (to : TE) (t : TA) : TE := fun σ H Q => to σ H fun x H1 => (∃ a ob xs, x = .ref a ∧ H1 a = some (.frz ob (.tup xs)) ∧ Kt ob) ∧ t σ H1 fun xs H2 => r x xs H2 Q
theorem pe_bmK {to : TE} {t : TA} {name : Str} {id : String} {r : V → List V → Hp → VK → Prop} (slot : Slot "tuple" name id) (hty : typeOf (.builtin id) = pure (.type "method_descriptor")) (hm : MtR X id r) (ho : PE X o to) (ha : PA X (e :: es) t)
    (hbase : attributeBase o name X.env (eval o X.env) = eval o X.env := by rfl)
    (hfew : ((backTo cpos (starEach (e :: es) X.env)).all (fun x => !x.1) && (backToKw cpos (keywordEach [] X.env)).all (fun x => x.1.isSome)
      && decide ((e :: es).length + ([] : List Keyword).length + (if ([] : List Keyword).isEmpty then 0 else 1) < 30)) = true := by rfl)
    (hline : (apos.endLine == cpos.line) = true := by rfl) (hs : starEach (e :: es) X.env = (false, eval e X.env) :: starEach es X.env := by rfl) (hplain : (backTo cpos (starEach es X.env)).any (·.1) = false := by rfl) :
    PE X (.Call (.Attribute o name apos) (e :: es) [] cpos) (tBMK r to t) := by
  refine ⟨fun pins s σ H Q I h => ?_⟩
  refine wpAny_Call_method_late hbase hfew hline rfl (thn (ho.run pins s σ H _ I h) fun v s1 ⟨x, H1, I1, r1, ⟨a, ob, xs, ex, ha1, hk⟩, q1⟩ => ?_)
  subst ex
  cases r1
  have hg := (I1.hok a _ ha1).1
  refine ⟨"tuple", id, PySem.F.plainAttrs_tuple, slot, hty, ⟨ob, hg, hk.1⟩, fun b e => ?_, ?_⟩
  · cases e
    exact ⟨ob, hg, hk.2⟩
  have hA := ha.run cpos pins s1 σ H1 _ I1 q1
  rw [hs] at hA ⊢
  refine Calls.callWith_builtin (by show (false || (backTo cpos (starEach es X.env)).any (·.1)) = false; rw [hplain] <;> rfl) (Calls.evalArgs_plain ?_)
  exact thn hA fun us s2 ⟨vs, H2, I2, r2, q2⟩ => hm pins s2 σ H2 (.ref a) vs (.ref a) us Q I2 rfl r2 q2
theorem om_indexT {is : List Int} {i : Int} {j : Nat} {ob : Obj} (hj : is[j]? = some i) (hf : ∀ m, m < j → is[m]? ≠ some i) (r : R (.int j) L) : OpM K (rIndexT K) (ktD ob (dints is)) [.int i] L R := .mk fun {B0 F H σ Γ ts vs τ x Q} S hl q => by
  obtain ⟨o, ox, S2⟩ := S.argsM hl
  obtain ⟨v, rfl, o1⟩ := o.one
  cases o1
  obtain ⟨a, xs, rfl, ea, t⟩ := ob_kt ox
  have e := t.toInts
  subst e
  refine ⟨_, _, .int i, j, .int i, rfl, rfl, .inl (.inr ⟨ob, (vis_some.mp ea).2⟩), rfl, List.all_eq_true.mpr fun y hy => ?_, by rw [List.getElem?_map, hj]; rfl, by rw [eqV_int]; simp, fun m z' hm hz => ?_, q _ _ _ _ r (S2.push (.int _))⟩
  · obtain ⟨n, _, rfl⟩ := List.mem_map.mp hy
    rfl
  · rw [List.getElem?_map] at hz
    cases e : is[m]? with
    | none => rw [e] at hz; cases hz
    | some n =>
      rw [e] at hz
      cases hz
      rw [eqV_int, decide_eq_false_iff_not]
      rintro rfl
      exact hf m hm e
/-- t.index(i), a tuple of numbers -/
theorem ev_indexK (h : EvX X o Γ L fun d L1 => ∃ (ob : Obj) (l : List Nat), Kt ob ∧ d = ktD ob (dnats l) ∧ EvX X e Γ L1 fun d2 L2 => ∃ u : Nat, d2 = .int u ∧ u ∈ l ∧ R (.int (l.idxOf u : Nat)) L2)
    (hbase : attributeBase o "index" X.env (eval o X.env) = eval o X.env := by rfl)
    (hfew : ((backTo cpos (starEach [e] X.env)).all (fun x => !x.1) && (backToKw cpos (keywordEach [] X.env)).all (fun x => x.1.isSome)
      && decide ([e].length + ([] : List Keyword).length + (if ([] : List Keyword).isEmpty then 0 else 1) < 30)) = true := by rfl)
    (hline : (apos.endLine == cpos.line) = true := by rfl) (hs : starEach [e] X.env = (false, eval e X.env) :: starEach [] X.env := by rfl) (hplain : (backTo cpos (starEach [] X.env)).any (·.1) = false := by rfl) :
    EvX X (.Call (.Attribute o "index" apos) [e] [] cpos) Γ L R := .mk fun S q =>
  we_of (pe_bmK PySem.F.slot_tuple_index PySem.F.type_tuple_index mt_indexT pe_w pa_w hbase hfew hline hs hplain) (h.run S fun v d H1 L1 ⟨ob, l, hk, ed, h1⟩ S1 => by
    subst ed
    obtain ⟨a, xs, rfl, ea, _⟩ := ob_kt S1.top
    refine ⟨⟨a, ob, xs, rfl, (vis_some.mp ea).2, hk⟩, (ag_cons (h1.imp fun d2 L2 ⟨u, e2, hu, r⟩ => ag_nil ⟨d2, [], rfl, u, e2, rfl, hu, r⟩) hs : AgX X [e] Γ L1 fun ds L' => ∃ d2 ds2, ds = d2 :: ds2 ∧ ∃ u : Nat, d2 = .int u ∧ ds2 = [] ∧ u ∈ l ∧ R (.int (l.idxOf u : Nat)) L').run S1 fun vs ds H2 L2 ⟨d2, ds2, eds, u, e2, e3, hu, r⟩ hl S2 => ?_⟩
    subst e3 e2 eds
    obtain ⟨i1, i2⟩ := idx_at hu
    have S2' := S2
    rw [dnats_dints] at S2'
    exact (om_indexT i1 i2 r).run S2' hl q)
end
end DL
set_option maxRecDepth 100000
set_option maxHeartbeats 4000000
/-! K28: variables of growing graphs. -/
namespace K50
open PySem PySem.Spec PyProof.Rows L2 DL
def oND : Option Nd → D
  | none => .non
  | some n => n.d
def grD (r : Row) : D := .lst [oND r.1, tnats r.2]
abbrev GRow := Addr × Row
def gRefs (rs : List GRow) : List D := rs.map fun r => .ref r.1
def gRows (rs : List GRow) : Cells := rs.map fun r => (r.1, grD r.2)
def gCells (b : Addr) (rs : List GRow) : Cells := (b, .lst (gRefs rs)) :: gRows rs
/-- the names in the rows can be laid -/
def RwOk (rs : List GRow) : Prop := ∀ r ∈ rs, ∀ n, r.2.1 = some n → PyData.strOk n.wd = true
theorem oND_plain {o : Option Nd} (h : ∀ n, o = some n → PyData.strOk n.wd = true) : Plain (oND o) := by
  cases o with
  | none => exact ⟨rfl, by simp [oND, D.py, PyData.canLay0], by simp [oND, D.py, PyData.depth]⟩
  | some n => exact nd_plain (h n rfl)
theorem var_plain (f : Nat) : Plain (Nd.var f).d := nd_plain (show PyData.strOk ("" : Str) = true by decide +kernel)
theorem eqv_var (o : Option Nd) (f : Nat) : PyData.eqv (oND o).py (Nd.var f).d.py = decide (o = some (.var f)) := by
  have h1 : ("word" : Str) ≠ "var" := by decide +kernel
  have h2 : ("fun" : Str) ≠ "var" := by decide +kernel
  cases o with
  | none => simp [oND, Nd.d, D.py, D.pys, PyData.eqv]
  | some n =>
    cases n with
    | word w cs => simp [oND, Nd.d, D.py, D.pys, PyData.eqv, PyData.eqvAll, beq_str, h1]
    | fn c => simp [oND, Nd.d, D.py, D.pys, PyData.eqv, PyData.eqvAll, beq_str, h2]
    | var g =>
      simp only [oND, Nd.d, D.py, D.pys, PyData.eqv, PyData.eqvAll, beq_str, Bool.and_true, Option.some.injEq, Nd.var.injEq]
      rw [Bool.eq_iff_iff]
      simp [Int.ofNat_inj]
theorem gRow_at {b : Addr} {rs : List GRow} {i : Nat} {r : GRow} (h : rs[i]? = some r) : (gCells b rs)[i + 1]? = some (r.1, grD r.2) := by
  simp [gCells, gRows, h]
theorem gRef_at {rs : List GRow} {i : Nat} {r : GRow} (h : rs[i]? = some r) : (gRefs rs)[i]? = some (.ref r.1) := by
  simp [gRefs, h]
theorem gCells_snoc (b : Addr) (rs : List GRow) (r : GRow) : (gCells b rs ++ [(r.1, grD r.2)]).set 0 (b, .lst (gRefs rs ++ [.ref r.1])) = gCells b (rs ++ [r]) := by
  simp [gCells, gRows, gRefs]
structure VrIn where
  b : Addr
  rs : List GRow
  f : Nat
  ob : Obj
  st : List Nat
  hk : Kt ob
  hf : f ∈ st
  few : rs.length ≤ 40
  ok : RwOk rs
structure VrPost (x : VrIn) (d : D) (L : Cells) : Prop where
  or : (∃ (i : Nat) (r : GRow), d = .int i ∧ x.rs[i]? = some r ∧ r.2.1 = some (.var x.f) ∧ L = gCells x.b x.rs) ∨
    ((∀ r ∈ x.rs, r.2.1 ≠ some (.var x.f)) ∧ d = .int x.rs.length ∧ ∃ p, L = gCells x.b (x.rs ++ [(p, some (.var x.f), x.st.take (x.st.idxOf x.f + 1))]))
def vrGam (x : VrIn) (o3 o4 : Option D) : Gam := [some (.ref x.b), some (.int x.f), some (ktD x.ob (dnats x.st)), o3, o4]
section
variable {P : Program} {w : World} {K : PySem.W.Frag} {mg : Str → Option Value} {base : Heap}
theorem ok_law_variable (Γ : Pg K mg) : FnOk P w K mg base CX0 1 Γ.law_variable.f Γ.law_variable.fd P_law_variable (spD K (fun x : VrIn => [.ref x.b, .int x.f, ktD x.ob (dnats x.st)]) (fun x => gCells x.b x.rs) VrPost) := by
  refine fn_ok Γ.law_variable.F sc_law_variable (fun _ => rfl) (by decide) (fun cdv A outer s H E hr x => ?_)
  have nd := sc_law_variable.nd
  have few := x.few
  refine bl_cons (st_forW (js := [3, 4]) rfl (itx_enumW Γ.b_enumerate (ag_cons (ev_v 0 rfl (ag_nil ⟨x.b, gRefs x.rs, rfl, by simp [gCells], fun i Γ' L' => ∃ o3 o4, Γ' = vrGam x o3 o4 ∧ L' = gCells x.b x.rs ∧ ∀ j r, j < i → x.rs[j]? = some r → r.2.1 ≠ some (.var x.f), ⟨none, none, rfl, rfl, fun j r h => absurd h (Nat.not_lt_zero j)⟩, ?_, ?_, ?_⟩)))))
  · rintro i Γ' L' ⟨o3, o4, rfl, rfl, _⟩
    simp [gCells]
  · rintro i d Γ' L' hd ⟨o3, o4, rfl, rfl, hno⟩
    have hi : i < x.rs.length := by
      have := (List.getElem?_eq_some_iff.mp hd).1
      rw [enumD_length, gRefs, List.length_map] at this
      exact this
    obtain ⟨r, hr1⟩ : ∃ r, x.rs[i]? = some r := ⟨_, List.getElem?_eq_getElem hi⟩
    rw [enumD_get (gRef_at hr1)] at hd
    cases hd
    have pl := oND_plain (x.ok r (List.mem_of_getElem? hr1))
    refine tg_2 3 4 rfl nd (bl_cons (st_if (te_cmp (op_eqD hr.units) (ev_ix ix_list (ev_v 4 rfl (ev_int (o2_ixC (k := i + 1) (n := 0) (gRow_at hr1) rfl (ev_tup (ag_cons (ev_str (ag_cons (ev_v 1 rfl (ag_nil ⟨sz, o2_eqD (k := decide (r.2.1 = some (.var x.f))) pl.pure (var_plain x.f).pure (plain_shaped pl) (plain_shaped (var_plain x.f)) (eqv_var r.2.1 x.f) ⟨_, rfl, ?_⟩⟩)))))))))))))
    by_cases hv : r.2.1 = some (.var x.f)
    · exact iteT' (by simp [hv]) (bl_cons (st_ret (ev_v 3 rfl ⟨.inl ⟨i, r, rfl, hr1, hv, rfl⟩⟩)))
    · refine iteF' (by simp [hv]) (bl_nil (bl_nil ⟨_, _, rfl, rfl, fun j r2 hj e => ?_⟩))
      by_cases e2 : j = i
      · subst e2
        rw [hr1] at e
        cases e
        exact hv
      · exact hno j r2 (by omega) e
  · rintro Γ' L' ⟨o3, o4, rfl, rfl, hno⟩
    rw [enumD_length, gRefs, List.length_map] at hno
    have no : ∀ r ∈ x.rs, r.2.1 ≠ some (.var x.f) := fun r hr2 => by
      obtain ⟨j, hj⟩ := List.mem_iff_getElem?.mp hr2
      exact hno j r (List.getElem?_eq_some_iff.mp hj).1 hj
    refine bl_cons (st_append (ev_v 0 rfl ⟨0, x.b, gRefs x.rs, rfl, rfl, ev_lst (ag_cons (ev_tup (ag_cons (ev_str (ag_cons (ev_v 1 rfl (ag_nil ⟨sz, ag_cons (ev_sl sl_tupA (ev_kt (ev_v 2 rfl ⟨x.ob, _, rfl, po_no (po_so (ev_op op_add (ev_indexK (ev_v 2 rfl ⟨x.ob, x.st, x.hk, rfl, ev_v 1 rfl ⟨x.f, rfl, x.hf, ev_int (o2_add ⟨_, rfl, s1_tup ?_⟩)⟩⟩))))⟩)))⟩)))))))⟩))
    have e1 : ((x.st.idxOf x.f : Nat) : Int) + 1 = ((x.st.idxOf x.f + 1 : Nat) : Int) := rfl
    rw [e1, cutD_to, dnats_take]
    refine ag_nil ⟨sz, fun p => ⟨0, gRefs x.rs, rfl, by rw [gRefs, List.length_map]; exact szlt (by omega), ?_⟩⟩
    have e2 := gCells_snoc x.b x.rs (p, some (.var x.f), x.st.take (x.st.idxOf x.f + 1))
    refine bl_cons (st_ret (ev_op op_sub (ev_callB call_len_seq Γ.b_len bt_len (ag_cons (ev_v 0 rfl (ag_nil (oa_lenC (k := 0) (a := x.b) (ds := gRefs x.rs ++ [.ref p]) rfl (ev_int (o2_sub ⟨.inr ⟨no, ?_, p, e2⟩⟩)))))))))
    simp [gRefs]
end
end K50
set_option maxRecDepth 100000
set_option maxHeartbeats 4000000
/-! K29: growing graphs. -/
namespace K50
open PySem PySem.Spec PyProof.Rows L2 DL
theorem ev_pm {X : Cx} {Γ : Gam} {L : Cells} {R : RD} {e : Expr} (h : EvX X e Γ L fun d L1 => ∃ L2, L1.Perm L2 ∧ R d L2) : EvX X e Γ L R := .mk fun S q => h.run S fun v d H' L' ⟨L2, p, r⟩ S' => q v d H' L2 r (S'.perm p)
def rws (rs : List GRow) : List Row := rs.map (·.2)
theorem rws_at {rs : List GRow} {i : Nat} {r : Row} (h : (rws rs)[i]? = some r) : ∃ p, rs[i]? = some (p, r) := by
  unfold rws at h
  rw [List.getElem?_map, Option.map_eq_some_iff] at h
  obtain ⟨⟨p, q⟩, h1, rfl⟩ := h
  exact ⟨p, h1⟩
theorem rws_of {rs : List GRow} {i : Nat} {r : GRow} (h : rs[i]? = some r) : (rws rs)[i]? = some r.2 := by simp [rws, h]
theorem rws_len (rs : List GRow) : (rws rs).length = rs.length := by simp [rws]
theorem rws_snoc (rs : List GRow) (r : GRow) : rws (rs ++ [r]) = rws rs ++ [r.2] := by simp [rws]
theorem GI.rwok {rs : List GRow} {stack : List Nat} (g : GI (rws rs) stack) : RwOk rs := fun r hr n e => by
  obtain ⟨i, hi⟩ := List.mem_iff_getElem?.mp hr
  have h1 := rws_of hi
  obtain ⟨p, o, st⟩ := r
  simp only at e h1
  subst e
  cases n with
  | word w cs => exact nm_strOk (g.nm i w cs st h1)
  | fn c => exact (show PyData.strOk ("" : Str) = true by decide +kernel)
  | var f => exact (show PyData.strOk ("" : Str) = true by decide +kernel)
def gL (a : Addr) (s : Int × Int × Int) (b : Addr) (rs : List GRow) : Cells := (a, stmD s) :: gCells b rs
theorem gL_row {a b : Addr} {s : Int × Int × Int} {rs : List GRow} {i : Nat} {r : GRow} (h : rs[i]? = some r) : (gL a s b rs)[i + 2]? = some (r.1, grD r.2) := by
  show (gCells b rs)[i + 1]? = _
  exact gRow_at h
theorem gL_snoc {a b : Addr} {s : Int × Int × Int} {rs : List GRow} (r : GRow) : (gL a s b rs ++ [(r.1, grD r.2)]).set 1 (b, .lst (gRefs rs ++ [.ref r.1])) = gL a s b (rs ++ [r]) := by
  simp [gL, gCells, gRows, gRefs]
theorem gL_set {a b : Addr} {s : Int × Int × Int} {rs : List GRow} {i : Nat} {p : Addr} {r r' : Row} (h : rs[i]? = some (p, r)) : (gL a s b rs).set (i + 2) (p, grD r') = gL a s b (rs.set i (p, r')) := by
  have e1 : gRefs (rs.set i (p, r')) = gRefs rs := by
    unfold gRefs
    rw [List.map_set]
    refine List.ext_getElem? fun j => ?_
    by_cases hj : i = j
    · subst hj
      rw [List.getElem?_set_self (by simpa using (List.getElem?_eq_some_iff.mp h).1), List.getElem?_map, h]; rfl
    · rw [List.getElem?_set_ne hj]
  simp only [gL, gCells, e1, gRows, List.map_set, List.set_cons_succ]
theorem eqv_natsT (l m : List Nat) : PyData.eqv (tnats l).py (tnats m).py = decide (l = m) := by
  have := eqv_natsL l m
  simp only [tnats, D.py, PyData.eqv]
  exact this
theorem plain_tn (l : List Nat) : Plain (tnats l) := ⟨pure_dn l, by simp [tnats, D.py, PyData.canLay0, lay_nats], by have := dep_nats' l; simp [tnats, D.py, PyData.depth]; omega⟩
theorem nm_k : NmOk "k" := ⟨by decide +kernel, by decide +kernel, ⟨by decide +kernel, by decide +kernel, by decide +kernel⟩, by decide +kernel⟩
theorem nm_m : NmOk "m" := ⟨by decide +kernel, by decide +kernel, ⟨by decide +kernel, by decide +kernel, by decide +kernel⟩, by decide +kernel⟩
theorem nm_f : NmOk "f" := ⟨by decide +kernel, by decide +kernel, ⟨by decide +kernel, by decide +kernel, by decide +kernel⟩, by decide +kernel⟩
theorem nm_g : NmOk "g" := ⟨by decide +kernel, by decide +kernel, ⟨by decide +kernel, by decide +kernel, by decide +kernel⟩, by decide +kernel⟩
theorem nm_at : NmOk "at" := ⟨by decide +kernel, by decide +kernel, ⟨by decide +kernel, by decide +kernel, by decide +kernel⟩, by decide +kernel⟩
theorem nm_t : NmOk "t" := ⟨by decide +kernel, by decide +kernel, ⟨by decide +kernel, by decide +kernel, by decide +kernel⟩, by decide +kernel⟩
def sgD (y : Str) (k : Nat) : D := .tup [.str y, .int k]
structure GwIn where
  a : Addr
  s : Int × Int × Int
  b : Addr
  rs : List GRow
  ob : Obj
  st : List Nat
  dp : Nat
  hk : Kt ob
  g : GI (rws rs) st
  hd : st.length + dp ≤ 4
  few : rs.length ≤ 39
structure GwPost (x : GwIn) (d : D) (L : Cells) : Prop where
  ex : ∃ (r : Nat) (s' : Int × Int × Int) (rs' : List GRow), d = .int r ∧ L = gL x.a s' x.b rs' ∧ GI (rws rs') x.st ∧ Ext (rws x.rs) (rws rs') ∧ Res (rws rs') x.st r ∧ rs'.length ≤ max (x.rs.length + 1) (24 + 3 * x.dp) ∧
    (x.rs = [] → x.st = [] → ∃ n, (rws rs')[0]? = some (some n, []) ∧ n.isVar = false)
def GwD (D : Nat) := { x : GwIn // x.dp ≤ D }
def gwGam (x : GwIn) (d : Nat) (o4 o5 o6 o7 o8 : Option D) : Gam := [some (.ref x.a), some (.ref x.b), some (ktD x.ob (dnats x.st)), some (.int d), o4, o5, o6, o7, o8, none, none, none]
section
variable {P : Program} {w : World} {K : PySem.W.Frag} {mg : Str → Option Value} {base : Heap}
abbrev spGw (K : PySem.W.Frag) (D : Nat) : Sp := spD K (fun x : GwD D => [.ref x.1.a, .ref x.1.b, ktD x.1.ob (dnats x.1.st), .int x.1.dp]) (fun x => gL x.1.a x.1.s x.1.b x.1.rs) (fun x => GwPost x.1)
theorem grown_step (Γ : Pg K mg) (dm : Nat) (ih : ∀ E, E < dm → FnOk P w K mg base CX0 (3 + E) Γ.law_grown.f Γ.law_grown.fd P_law_grown (spGw K E)) : FnOk P w K mg base CX0 (3 + dm) Γ.law_grown.f Γ.law_grown.fd P_law_grown (spGw K dm) := by
  rw [show 3 + dm = (2 + dm) + 1 by omega]
  refine fn_ok Γ.law_grown.F sc_law_grown (fun _ => rfl) (by decide) (fun cdv A outer s H E hr ⟨x, hxD⟩ => ?_)
  have nd := sc_law_grown.nd
  have few := x.few
  have hd4 := x.hd
  have hr2 := hr.mono (show 2 ≤ 2 + dm by omega)
  have hr1 := hr.mono (show 1 ≤ 2 + dm by omega)
  have hun := (hr.mono (show 0 ≤ 2 + dm by omega)).units
  have sl4 := x.g.s4
  -- how deep
  refine bl_cons (st_set 3 nd (EvX.imp (R := fun d L' => ∃ d' : Nat, d = .int d' ∧ d' ≤ x.dp ∧ (24 ≤ x.rs.length → d' = 0) ∧ L' = gL x.a x.s x.b x.rs) ?_ ?_))
  · refine ev_if (te_cmp op_lt (ev_callB call_len_seq Γ.b_len bt_len (ag_cons (ev_v 1 rfl (ag_nil (oa_lenC (k := 1) (a := x.b) (ds := gRefs x.rs) rfl (ev_int (o2_lt ⟨_, rfl, ?_⟩))))))))
    by_cases h : x.rs.length < 24
    · exact iteT' (by rw [gRefs, List.length_map]; exact decide_eq_true (by omega)) (ev_v 3 rfl ⟨x.dp, rfl, Nat.le_refl _, fun z => absurd z (by omega), rfl⟩)
    · exact iteF' (by rw [gRefs, List.length_map]; exact decide_eq_false (by omega)) (ev_int ⟨0, rfl, Nat.zero_le _, fun _ => rfl, rfl⟩)
  rintro _ _ ⟨d', rfl, hdd, h24, rfl⟩
  -- the way; what is near
  let near : List (GRow × Nat) := x.rs.zipIdx.filter fun p => decide (p.1.2.2 = x.st.take p.1.2.2.length)
  have nearRes : ∀ p ∈ near, Res (rws x.rs) x.st p.2 := fun p hp => by
    obtain ⟨h1, h2⟩ := List.mem_filter.mp hp
    rw [List.mem_zipIdx_iff_getElem?] at h1
    rw [decide_eq_true_eq] at h2
    exact ⟨p.1.2.1, p.1.2.2, rws_of h1, by rw [h2]; exact List.take_prefix _ _⟩
  have nearLen : near.length ≤ 39 := Nat.le_trans (List.length_filter_le _ _) (by rw [List.length_zipIdx]; exact few)
  refine bl_cons (st_par 4 5 rfl nd (by decide) (ag_cons (ev_call (ok_law_draw Γ) hr1 Γ.law_draw.g Γ.law_draw.F.kp (bi_law_draw Γ) (ag_cons (ev_v 0 rfl (ag_cons (ev_int (ag_nil ⟨⟨x.a, x.s, 12, by decide, by decide⟩, gCells x.b x.rs, rfl, .refl _, ?_⟩))))))))
  rintro d L' ⟨way, s1, hway, rfl, rfl⟩
  refine ag_cons (ev_selW [("_law_at", 9), ("_law_row", 10)] (fun p : GRow × Nat => .tup [.int p.2, .ref p.1.1]) (fun p => .int p.2) (fun p => decide (p.1.2.2 = x.st.take p.1.2.2.length)) rfl nd rfl (js := [9, 10]) (by decide) (itx_enumW Γ.b_enumerate (ag_cons (ev_v 1 rfl (ag_nil ⟨x.b, gRefs x.rs, rfl, by simp [gCells], x.rs.zipIdx, enumD_map _ _, szle (by rw [List.length_zipIdx]; omega), by simp [gCells], fun p hp => ⟨fun s H C cl fp => tg_2 9 10 rfl nd ⟨rfl, fun s H C cl fp => ?_⟩⟩, ag_nil ⟨_, _, rfl, ?_⟩⟩)))))
  · rw [List.mem_zipIdx_iff_getElem?] at hp
    have hrow := gL_row (a := x.a) (b := x.b) (s := s1) hp
    refine te_cmp (op_eqD hun) (ev_ix ix_list (ev_v 10 rfl (ev_int (o2_ixC (k := p.2 + 2) (n := 1) hrow rfl (ev_sl sl_tupA (ev_kt (ev_v 2 rfl ⟨x.ob, _, rfl, po_no (po_so (ev_callB call_len_seq Γ.b_len bt_len (ag_cons (ev_ix ix_list (ev_v 10 rfl (ev_int (o2_ixC (k := p.2 + 2) (n := 1) hrow rfl (ag_nil (oa_lenS (.inl rfl) ⟨_, rfl, s1_tup ?_⟩)))))))))⟩)))))))
    rw [dnats_length, cutD_to, dnats_take]
    exact o2_eqD (k := decide (p.1.2.2 = x.st.take p.1.2.2.length)) (plain_tn _).pure (plain_tn _).pure (plain_shaped (plain_tn _)) (plain_shaped (plain_tn _)) (eqv_natsT _ _) ⟨_, rfl, rfl, rfl, fun _ s H C cl fp => ev_v 9 rfl ⟨rfl, rfl⟩⟩
  have eL : ([(x.a, stmD s1)] ++ gCells x.b x.rs : Cells) = gL x.a s1 x.b x.rs := rfl
  rw [eL]
  have nearPl : ∀ d ∈ near.map (fun p => D.int p.2), Plain d := fun d hd => by
    obtain ⟨p, _, rfl⟩ := List.mem_map.mp hd
    exact plain_int _
  -- near
  refine bl_cons (st_if (TeX.imp (R := fun k L' => (k = true → near ≠ []) ∧ L' = gL x.a s1 x.b x.rs) ?_ ?_))
  · refine te_tw (tw_and (te_cmp (op_neD hun) (ev_v 5 rfl (ev_lstF (ag_nil ⟨sz, o2_neD (k := (near.map fun p => D.int p.2).isEmpty) (pures_of nearPl) rfl (shaped_lst nearPl) (shaped_lst (by simp)) (eqv_nil _) ⟨_, rfl, ?_⟩⟩)))))
    cases hem : (near.map fun p => D.int p.2).isEmpty with
    | true => exact iteF ⟨fun z => (by cases z), rfl⟩
    | false =>
      have hne : near ≠ [] := fun e => by rw [e] at hem; cases hem
      refine iteT (tw_and1 (te_tw (tw_or (te_cmp op_lt (ev_v 4 rfl (ev_int (o2_lt ⟨_, rfl, ?_⟩)))))))
      by_cases c1 : (way : Int) < 2
      · exact iteT' (decide_eq_true c1) ⟨fun _ => hne, rfl⟩
      refine iteF' (decide_eq_false c1) (tw_or1 (te_tw (tw_and (te_cmp op_lt (ev_v 3 rfl (ev_int (o2_lt ⟨_, rfl, ?_⟩)))))))
      by_cases c2 : (d' : Int) < 1
      · exact iteT' (decide_eq_true c2) (tw_and1 (te_cmp op_lt (ev_v 4 rfl (ev_int (o2_lt ⟨_, rfl, fun _ => hne, rfl⟩)))))
      · exact iteF' (decide_eq_false c2) ⟨fun _ => hne, rfl⟩
  rintro k L' ⟨hk, rfl⟩
  have same : ∀ {d : D} {r : Nat} {s' : Int × Int × Int}, d = .int r → Res (rws x.rs) x.st r → (x.rs ≠ [] ∨ x.st ≠ []) → GwPost x d (gL x.a s' x.b x.rs) := fun {d r s'} e hr3 hne => ⟨r, s', x.rs, e, rfl, x.g, Ext.refl _, hr3, by omega, fun e1 e2 => (hne.elim (fun z => z e1) fun z => z e2).elim⟩
  cases k with
  | true =>
    have hne := hk rfl
    refine iteT (bl_cons (st_ret (ev_call (ok_law_pick Γ) hr2 Γ.law_pick.g Γ.law_pick.F.kp (bi_law_pick Γ) (ag_cons (ev_v 0 rfl (ag_cons (ev_v 5 rfl (ag_nil ⟨⟨x.a, s1, _, false, (fun z => hne (List.map_eq_nil_iff.mp z) : near.map (fun p => D.int p.2) ≠ []), by rw [List.length_map]; omega⟩, gCells x.b x.rs, rfl, .refl _, ?_⟩))))))))
    rintro d L' ⟨s2, hd, rfl⟩
    obtain ⟨p, hp, rfl⟩ := List.mem_map.mp hd
    refine same rfl (nearRes p hp) (.inl fun e => ?_)
    have := (List.mem_filter.mp hp).1
    rw [e] at this
    cases this
  | false =>
  refine iteF (bl_nil ?_)
  -- variables
  refine bl_cons (st_if (TeX.imp (R := fun k L' => (k = true → x.st ≠ []) ∧ L' = gL x.a s1 x.b x.rs) ?_ ?_))
  · refine te_tw (tw_and (te_cmp (op_neD hun) (ev_kt (ev_v 2 rfl ⟨x.ob, _, rfl, ev_tup (ag_nil ⟨sz, o2_neD (k := decide (x.st = [])) (plain_tn _).pure (plain_tn []).pure (plain_shaped (plain_tn _)) (plain_shaped (plain_tn [])) (eqv_natsT _ []) ⟨_, rfl, ?_⟩⟩)⟩))))
    by_cases he : x.st = []
    · exact iteF' (by simp [he]) ⟨fun z => (by simp [he] at z), rfl⟩
    · refine iteT' (by simp [he]) (tw_and1 (te_tw (tw_or (te_cmp op_lt (ev_v 4 rfl (ev_int (o2_lt ⟨_, rfl, ?_⟩)))))))
      by_cases c1 : (way : Int) < 5
      · exact iteT' (decide_eq_true c1) ⟨fun _ => he, rfl⟩
      refine iteF' (decide_eq_false c1) (tw_or1 (te_tw (tw_and (te_cmp op_lt (ev_v 3 rfl (ev_int (o2_lt ⟨_, rfl, ?_⟩)))))))
      by_cases c2 : (d' : Int) < 1
      · exact iteT' (decide_eq_true c2) (tw_and1 (te_cmp op_lt (ev_v 4 rfl (ev_int (o2_lt ⟨_, rfl, fun _ => he, rfl⟩)))))
      · exact iteF' (decide_eq_false c2) ⟨fun _ => he, rfl⟩
  rintro k L' ⟨hk, rfl⟩
  cases k with
  | true =>
    have hne := hk rfl
    refine iteT (bl_cons (st_ret (ev_pm (ev_call (ok_law_variable Γ) hr1 Γ.law_variable.g Γ.law_variable.F.kp (bi_law_variable Γ) (ag_cons (ev_v 1 rfl (ag_cons (ev_call (ok_law_pick Γ) hr2 Γ.law_pick.g Γ.law_pick.F.kp (bi_law_pick Γ) (ag_cons (ev_v 0 rfl (ag_cons (ev_kt (ev_v 2 rfl ⟨x.ob, _, rfl, ag_nil ⟨⟨x.a, s1, dnats x.st, true, fun z => hne (List.map_eq_nil_iff.mp z), by rw [dnats_length]; omega⟩, gCells x.b x.rs, rfl, .refl _, ?_⟩⟩)))))))))))))
    rintro d L' ⟨s2, hd, rfl⟩
    obtain ⟨f, hf, rfl⟩ := List.mem_map.mp hd
    refine ag_cons (ev_v 2 rfl (ag_nil ⟨⟨x.b, x.rs, f, x.ob, x.st, x.hk, hf, by omega, x.g.rwok⟩, [(x.a, stmD s2)], rfl, List.perm_append_comm, ?_⟩))
    rintro d L' ⟨hvp⟩
    refine ⟨[(x.a, stmD s2)] ++ L', List.perm_append_comm, ?_⟩
    rcases hvp with ⟨i, r, rfl, hi, hv, rfl⟩ | ⟨no, rfl, p, rfl⟩
    · have h1 := rws_of hi
      obtain ⟨pp, o, st⟩ := r
      simp only at hv h1
      subst hv
      exact same rfl (x.g.varRes hf h1) (.inr hne)
    · obtain ⟨g2, E2, r2⟩ := x.g.newVar hf (fun r hr3 => by
        obtain ⟨q, hq, rfl⟩ := List.mem_map.mp hr3
        exact no q hq)
      have e2 : rws (x.rs ++ [(p, (some (.var f), x.st.take (x.st.idxOf f + 1)))]) = rws x.rs ++ [(some (.var f), x.st.take (x.st.idxOf f + 1))] := rws_snoc _ _
      refine ⟨x.rs.length, s2, _, rfl, rfl, by rw [e2]; exact g2, by rw [e2]; exact E2, by rw [e2, ← rws_len x.rs]; exact r2, by simp; omega, fun _ e => absurd e hne⟩
  | false =>
  refine iteF (bl_nil ?_)
  -- a row is begun
  refine bl_cons (st_set 6 nd (ev_callB call_len_seq Γ.b_len bt_len (ag_cons (ev_v 1 rfl (ag_nil (oa_lenC (k := 1) (a := x.b) (ds := gRefs x.rs) rfl ?_))))))
  rw [show (gRefs x.rs).length = x.rs.length by simp [gRefs]]
  refine bl_cons (st_append (ev_v 1 rfl ⟨1, x.b, gRefs x.rs, rfl, rfl, ev_lst (ag_cons (ev_non (ag_cons (ev_kt (ev_v 2 rfl ⟨x.ob, _, rfl, ag_nil ⟨sz, fun p => ⟨1, gRefs x.rs, rfl, by rw [gRefs, List.length_map]; exact szlt (by omega), ?_⟩⟩⟩)))))⟩))
  have e0 : (gL x.a s1 x.b x.rs ++ [(p, D.lst [.non, .tup (dnats x.st)])]).set 1 (x.b, .lst (gRefs x.rs ++ [.ref p])) = gL x.a s1 x.b (x.rs ++ [(p, (none, x.st))]) := gL_snoc (p, (none, x.st))
  rw [e0]
  have er : rws (x.rs ++ [(p, ((none : Option Nd), x.st))]) = rws x.rs ++ [(none, x.st)] := rws_snoc _ _
  have g1 : GI (rws (x.rs ++ [(p, ((none : Option Nd), x.st))])) x.st := by rw [er]; exact x.g.push
  have l1 : (x.rs ++ [(p, ((none : Option Nd), x.st))]).length = x.rs.length + 1 := by simp
  -- the end
  have fin : ∀ {s' : Int × Int × Int} {now : List GRow} {st2 : List Nat} {n : Nd}, GI (rws now) st2 → Ext (rws (x.rs ++ [(p, ((none : Option Nd), x.st))])) (rws now) → n.isVar = false → n.ch.length ≤ 3 →
      (∀ c ∈ n.ch, Res (rws now) (x.st ++ if n.isFn = true then [x.rs.length] else []) c) → (∀ w cs, n = .word w cs → NmOk w) → (∀ f, f ∈ st2 → f ∈ x.st ∨ (f = x.rs.length ∧ n.isFn = true)) → now.length ≤ max (x.rs.length + 1) (24 + 3 * x.dp) →
      ∃ q, now[x.rs.length]? = some (q, (none, x.st)) ∧ GwPost x (.int x.rs.length) (gL x.a s' x.b (now.set x.rs.length (q, (some n, x.st)))) := fun {s' now st2 n} k E hv h3 hch hnm hst hlen => by
    have was : (rws now)[x.rs.length]? = some (none, x.st) := E.at (by rw [er, ← rws_len x.rs]; simp)
    obtain ⟨q, hq⟩ := rws_at was
    rw [er] at E
    have es : rws (now.set x.rs.length (q, (some n, x.st))) = (rws now).set (rws x.rs).length (some n, x.st) := by rw [rws_len]; simp [rws, List.map_set]
    obtain ⟨a1, a2, a3⟩ := x.g.put k E hv h3 (by rw [rws_len]; exact hch) hnm (by rw [rws_len]; exact hst)
    refine ⟨q, hq, x.rs.length, s', _, rfl, rfl, by rw [es]; exact a1, by rw [es]; exact a2, by rw [es, ← rws_len x.rs]; exact a3, by rw [List.length_set]; exact hlen, fun e1 e2 => ⟨n, ?_, hv⟩⟩
    rw [es, e1, e2]
    have : 0 < (rws now).length := by
      have := (List.getElem?_eq_some_iff.mp was).1
      omega
    exact List.getElem?_set_self this
  refine bl_cons (st_if (te_cmp op_lt (ev_v 3 rfl (ev_int (o2_lt ⟨_, rfl, ?_⟩)))))
  by_cases c1 : (d' : Int) < 1
  · -- a leaf
    refine iteT' (decide_eq_true c1) ?_
    refine bl_cons (st_lput (ev_tup (ag_cons (ev_str (ag_cons (ev_call (ok_law_pick Γ) hr2 Γ.law_pick.g Γ.law_pick.F.kp (bi_law_pick Γ) (ag_cons (ev_v 0 rfl (ag_cons (ev_lstF (ag_cons (ev_str (ag_cons (ev_str (ag_nil ⟨sz, ag_nil ⟨⟨x.a, s1, [.str "k", .str "m"], false, by simp, by decide⟩, gCells x.b (x.rs ++ [(p, (none, x.st))]), rfl, .refl _, ?_⟩⟩)))))))))))))))
    rintro d L' ⟨s2, hd, rfl⟩
    obtain ⟨y, hy, rfl⟩ : ∃ y : Str, NmOk y ∧ d = .str y := by
      rcases List.mem_cons.mp hd with rfl | hd
      · exact ⟨"k", nm_k, rfl⟩
      · rw [List.mem_singleton.mp hd]
        exact ⟨"m", nm_m, rfl⟩
    obtain ⟨q, hq, hpost⟩ := fin (s' := s2) (n := .word y []) g1 (Ext.refl _) rfl (by simp [Nd.ch]) (by simp [Nd.ch]) (fun w cs e => by cases e; exact hy) (fun f hf => .inl hf) (by rw [l1]; omega)
    refine ag_cons (ev_tup (ag_nil ⟨sz, ag_nil ⟨sz, ev_ix ix_list (ev_v 1 rfl (ev_v 6 rfl (o2_ixC (k := 1) rfl (gRef_at hq) (ev_int ⟨x.rs.length + 2, q, 0, _, rfl, rfl, gL_row hq, by simp, bl_nil ?_⟩))))⟩⟩))
    have eS := gL_set (a := x.a) (b := x.b) (s := s2) (r' := (some (.word y []), x.st)) hq
    have eS' : (gL x.a s2 x.b (x.rs ++ [(p, ((none : Option Nd), x.st))])).set (x.rs.length + 2) (q, D.lst ([oND none, tnats x.st].set 0 (.tup [.str "word", .str y, .tup []]))) = _ := eS
    refine bl_cons (st_ret (ev_v 6 rfl ?_))
    show GwPost x _ ((gL x.a s2 x.b (x.rs ++ [(p, ((none : Option Nd), x.st))])).set (x.rs.length + 2) (q, D.lst ([oND none, tnats x.st].set 0 (.tup [.str "word", .str y, .tup []]))))
    rw [eS']
    exact hpost
  refine iteF' (decide_eq_false c1) ?_
  have hd1 : 1 ≤ d' := by omega
  have hn24 : x.rs.length < 24 := Nat.lt_of_not_le fun z => by have := h24 z; omega
  have e3 : ((d' : Int) - 1) = ((d' - 1 : Nat) : Int) := by omega
  have hrE : Room (3 + (d' - 1)) (CxF P w K mg base N_law_grown (Str.ofString "_law_grown") (defScope s_law_grown) Γ.law_grown.f cdv A outer s H E).A := hr.mono (by omega)
  refine bl_cons (st_if (te_cmp op_lt (ev_v 4 rfl (ev_int (o2_lt ⟨_, rfl, ?_⟩)))))
  by_cases c2 : (way : Int) < 8
  · -- a function
    refine iteT' (decide_eq_true c2) ?_
    refine bl_cons (st_lput (ev_tup (ag_cons (ev_str (ag_cons (ev_call (ih (d' - 1) (by omega)) hrE Γ.law_grown.g Γ.law_grown.F.kp (bi_law_grown Γ) (ag_cons (ev_v 0 rfl (ag_cons (ev_v 1 rfl (ag_cons (ev_op op_catK (ev_v 2 rfl (ev_tupK (ag_cons (ev_v 6 rfl (ag_nil ⟨sz, fun ob2 hk2 => o2_catK (by simp) ?_ hk2 fun ob3 hk3 => ag_cons (ev_op op_sub (ev_v 3 rfl (ev_int (o2_sub ?_))))⟩)))))))))))))))))
    · simp only [dnats_length, List.length_cons, List.length_nil]
      exact szle (by omega)
    rw [e3]
    have gE : GI (rws (x.rs ++ [(p, ((none : Option Nd), x.st))])) (x.st ++ [x.rs.length]) := by
      rw [er, ← rws_len x.rs]
      exact x.g.enter (by omega)
    have e4 : dnats (x.st ++ [x.rs.length]) = dnats x.st ++ [.int x.rs.length] := by simp [dnats]
    refine ag_nil ⟨⟨⟨x.a, s1, x.b, x.rs ++ [(p, (none, x.st))], ob3, x.st ++ [x.rs.length], d' - 1, hk3, gE, by simp; omega, by rw [l1]; omega⟩, Nat.le_refl _⟩, [], by rw [← e4], by rw [List.append_nil], ?_⟩
    rintro d L' ⟨r, s2, rs2, rfl, rfl, kG, kE, hres, hlen, _⟩
    simp only at kG kE hres hlen
    rw [l1] at hlen
    rw [List.append_nil]
    obtain ⟨q, hq, hpost⟩ := fin (s' := s2) (n := .fn r) kG kE rfl (by simp [Nd.ch]) (fun c hc => by rw [show c = r by simpa [Nd.ch] using hc]; exact hres) (fun w cs e => by cases e) (fun f hf => by
      rcases List.mem_append.mp hf with h | h
      · exact .inl h
      · exact .inr ⟨List.mem_singleton.mp h, rfl⟩) (by omega)
    refine ag_nil ⟨sz, ev_ix ix_list (ev_v 1 rfl (ev_v 6 rfl (o2_ixC (k := 1) rfl (gRef_at hq) (ev_int ⟨x.rs.length + 2, q, 0, _, rfl, rfl, gL_row hq, by simp, bl_nil ?_⟩))))⟩
    have eS := gL_set (a := x.a) (b := x.b) (s := s2) (r' := (some (.fn r), x.st)) hq
    refine bl_nil (bl_cons (st_ret (ev_v 6 rfl ?_)))
    show GwPost x _ ((gL x.a s2 x.b rs2).set (x.rs.length + 2) (q, D.lst ([oND none, tnats x.st].set 0 (.tup [.str "fun", .int r]))))
    have eS' : (gL x.a s2 x.b rs2).set (x.rs.length + 2) (q, D.lst ([oND none, tnats x.st].set 0 (.tup [.str "fun", .int r]))) = _ := eS
    rw [eS']
    exact hpost
  · refine iteF' (decide_eq_false c2) ?_
    -- a word
    have sig : ∀ d ∈ [sgD "f" 1, sgD "g" 1, sgD "at" 2, sgD "at" 2, sgD "f" 2, sgD "t" 3], ∃ (y : Str) (k : Nat), NmOk y ∧ k ≤ 3 ∧ d = .tup [.str y, .int k] := fun d hd => by
      simp only [List.mem_cons, List.not_mem_nil, or_false] at hd
      rcases hd with rfl | rfl | rfl | rfl | rfl | rfl
      · exact ⟨_, 1, nm_f, by omega, rfl⟩
      · exact ⟨_, 1, nm_g, by omega, rfl⟩
      · exact ⟨_, 2, nm_at, by omega, rfl⟩
      · exact ⟨_, 2, nm_at, by omega, rfl⟩
      · exact ⟨_, 2, nm_f, by omega, rfl⟩
      · exact ⟨_, 3, nm_t, by omega, rfl⟩
    refine bl_cons (st_asg (js := [7, 8]) (ev_call (ok_law_pick Γ) hr2 Γ.law_pick.g Γ.law_pick.F.kp (bi_law_pick Γ) (ag_cons (ev_v 0 rfl (ag_cons (ev_lstF (ag_cons (ev_tup (ag_cons (ev_str (ag_cons (ev_int (ag_nil ⟨sz, ag_cons (ev_tup (ag_cons (ev_str (ag_cons (ev_int (ag_nil ⟨sz, ag_cons (ev_tup (ag_cons (ev_str (ag_cons (ev_int (ag_nil ⟨sz, ag_cons (ev_tup (ag_cons (ev_str (ag_cons (ev_int (ag_nil ⟨sz, ag_cons (ev_tup (ag_cons (ev_str (ag_cons (ev_int (ag_nil ⟨sz, ag_cons (ev_tup (ag_cons (ev_str (ag_cons (ev_int (ag_nil ⟨sz, ag_nil ⟨sz, ag_nil ⟨⟨x.a, s1, [sgD "f" 1, sgD "g" 1, sgD "at" 2, sgD "at" 2, sgD "f" 2, sgD "t" 3], false, by simp, by decide⟩, gCells x.b (x.rs ++ [(p, (none, x.st))]), rfl, .refl _, ?_⟩⟩⟩))))))⟩))))))⟩))))))⟩))))))⟩))))))⟩)))))))))))))
    rintro d L' ⟨s2, hd, rfl⟩
    obtain ⟨y, k, hy, hk3, rfl⟩ := sig d hd
    refine tg_2 7 8 rfl nd ?_
    refine bl_cons (st_lput (ev_tup (ag_cons (ev_str (ag_cons (ev_v 7 rfl (ag_cons (ev_callTy call_tuple_of Γ.b_tuple bt_tuple (ag_cons (ev_fz (ev_lcG (js := [11]) (own := [("_law_turn", 11)]) (tts := tYesT) rfl nd (blkOk_by rfl) (by decide) (fun _ _ _ _ _ => pts_nil) (itx_range1 Γ.b_range (ag_cons (ev_v 8 rfl (ag_nil ⟨k, rfl, by omega, fun i acc L' => ∃ s' now cs, acc = dnats cs ∧ cs.length = i ∧ L' = gL x.a s' x.b now ∧ GI (rws now) x.st ∧ Ext (rws (x.rs ++ [(p, ((none : Option Nd), x.st))])) (rws now) ∧ (∀ c ∈ cs, Res (rws now) x.st c) ∧ now.length ≤ 21 + 3 * d' + i, ⟨s2, _, [], rfl, rfl, rfl, g1, Ext.refl _, by simp, by rw [l1]; omega⟩, ?_, ?_⟩)))))))))))))))
    · rintro i d acc L' hd ⟨s3, now, cs, rfl, rfl, rfl, kG, kE, hcs, hlen⟩ s H C cl fp
      have hi : cs.length < k := by
        have := (List.getElem?_eq_some_iff.mp hd).1
        rw [rangeD_length] at this
        exact this
      refine tg_v 11 nd fun s H C cl fp => ttx_yes ?_
      rw [if_pos rfl]
      intro s H C cl fp
      refine ev_call (ih (d' - 1) (by omega)) hrE Γ.law_grown.g Γ.law_grown.F.kp (bi_law_grown Γ) (ag_cons (ev_v 0 rfl (ag_cons (ev_v 1 rfl (ag_cons (ev_v 2 rfl (ag_cons (ev_op op_sub (ev_v 3 rfl (ev_int (o2_sub ?_)))))))))))
      rw [e3]
      refine ag_nil ⟨⟨⟨x.a, s3, x.b, now, x.ob, x.st, d' - 1, x.hk, kG, by omega, by omega⟩, Nat.le_refl _⟩, [], rfl, by rw [List.append_nil], ?_⟩
      rintro d L' ⟨r, s4, rs4, rfl, rfl, kG4, kE4, hres4, hlen4, _⟩
      simp only at kG4 kE4 hres4 hlen4
      rw [List.append_nil]
      refine ⟨by rw [dnats_length]; exact szlt (by omega), s4, rs4, cs ++ [r], by simp [dnats], by simp, rfl, kG4, kE.trans kE4, fun c hc => ?_, by omega⟩
      rcases List.mem_append.mp hc with h | h
      · exact kE4.res (hcs c h)
      · rw [List.mem_singleton.mp h]; exact hres4
    · rintro acc L' ⟨s3, now, cs, rfl, hcl, rfl, kG, kE, hcs, hlen⟩ p2
      rw [rangeD_length] at hcl hlen
      refine ⟨(gL x.a s3 x.b now).length, p2, .lst (dnats cs), rfl, by simp, ?_⟩
      rw [eraseIdx_snoc]
      refine ag_nil (oa_tuple (.inr rfl) (ag_nil ⟨sz, ?_⟩))
      obtain ⟨q, hq, hpost⟩ := fin (s' := s3) (n := .word y cs) kG kE rfl (by show cs.length ≤ 3; omega) (fun c hc => by simpa [Nd.isFn] using hcs c hc) (fun w cs e => by cases e; exact hy) (fun f hf => .inl hf) (by omega)
      refine ev_ix ix_list (ev_v 1 rfl (ev_v 6 rfl (o2_ixC (k := 1) rfl (gRef_at hq) (ev_int ⟨x.rs.length + 2, q, 0, _, rfl, rfl, gL_row hq, by simp, bl_nil ?_⟩))))
      have eS := gL_set (a := x.a) (b := x.b) (s := s3) (r' := (some (.word y cs), x.st)) hq
      refine bl_nil (bl_cons (st_ret (ev_v 6 rfl ?_)))
      show GwPost x _ ((gL x.a s3 x.b now).set (x.rs.length + 2) (q, D.lst ([oND none, tnats x.st].set 0 (.tup [.str "word", .str y, .tup (dnats cs)]))))
      have eS' : (gL x.a s3 x.b now).set (x.rs.length + 2) (q, D.lst ([oND none, tnats x.st].set 0 (.tup [.str "word", .str y, .tup (dnats cs)]))) = _ := eS
      rw [eS']
      exact hpost
theorem ok_law_grown (Γ : Pg K mg) (dm : Nat) : FnOk P w K mg base CX0 (3 + dm) Γ.law_grown.f Γ.law_grown.fd P_law_grown (spGw K dm) := by
  induction dm using Nat.strongRecOn with
  | ind dm ih => exact grown_step Γ dm ih
end
end K50
/-! MH: a copy of a node and of all that belongs to it, plain. -/
namespace K50
open List
def ownL (N : Nat) (sc : Nat → List Nat) (one : Nat) : List Nat := one :: (List.range N).filter fun o => decide (one ∈ sc o)
def fresh (own : List Nat) (N u : Nat) : Nat := if u ∈ own then N + own.idxOf u else u
def replN (n : Nd) (spot r : Nat) : Nd := match n with
  | .word w cs => .word w (cs.set spot r)
  | .fn _ => .fn r
  | .var f => .var f
def copies (ns : List Nd) (own : List Nat) : List Nd := own.map fun u => (nat ns u).rn (fresh own ns.length)
def prt (ns : List Nd) (own : List Nat) (a spot one : Nat) : List Nd := (ns ++ copies ns own).set a (replN (nat ns a) spot (fresh own ns.length one))
section
variable {x : LG} {a spot one : Nat}
abbrev LG.own (x : LG) (one : Nat) : List Nat := ownL x.ns.length x.σ one
/-- where a node of the parted graph comes from -/
def LG.frm (x : LG) (one i : Nat) : Nat := if i < x.ns.length then i else (x.own one).getD (i - x.ns.length) 0
def LG.tau (x : LG) (one i : Nat) : List Nat := if i < x.ns.length then x.σ i else (x.σ (x.frm one i)).map (fresh (x.own one) x.ns.length)
theorem own_mem (ho : one < x.ns.length) {u : Nat} : u ∈ x.own one ↔ u = one ∨ (u < x.ns.length ∧ one ∈ x.σ u) := by
  unfold LG.own ownL
  rw [List.mem_cons, List.mem_filter, List.mem_range, decide_eq_true_eq]
theorem own_lt (ho : one < x.ns.length) {u : Nat} (h : u ∈ x.own one) : u < x.ns.length := by
  rcases (own_mem ho).mp h with rfl | h
  · exact ho
  · exact h.1
theorem own_nd (ho : one < x.ns.length) : (x.own one).Nodup := by
  unfold LG.own ownL
  rw [List.nodup_cons]
  refine ⟨fun h => ?_, List.nodup_range.filter _⟩
  have h1 := (List.mem_filter.mp h).2
  rw [decide_eq_true_eq] at h1
  exact Nat.lt_irrefl _ (x.ws.rank (x.all one ho) h1)
theorem own_len (ho : one < x.ns.length) : (x.own one).length ≤ x.ns.length := nodup_lt _ _ (own_nd ho) fun u hu => own_lt ho hu
theorem fresh_in {own : List Nat} {N u : Nat} (h : u ∈ own) : fresh own N u = N + own.idxOf u := if_pos h
theorem fresh_out {own : List Nat} {N u : Nat} (h : u ∉ own) : fresh own N u = u := if_neg h
theorem fresh_lt (ho : one < x.ns.length) {u : Nat} (h : u < x.ns.length) : fresh (x.own one) x.ns.length u < x.ns.length + (x.own one).length := by
  by_cases hm : u ∈ x.own one
  · rw [fresh_in hm]
    have := List.idxOf_lt_length_of_mem hm
    omega
  · rw [fresh_out hm]; omega
theorem frm_fresh (ho : one < x.ns.length) {u : Nat} (h : u < x.ns.length) : x.frm one (fresh (x.own one) x.ns.length u) = u := by
  unfold LG.frm
  by_cases hm : u ∈ x.own one
  · rw [fresh_in hm, if_neg (by omega)]
    have e : x.ns.length + (x.own one).idxOf u - x.ns.length = (x.own one).idxOf u := by omega
    rw [e]
    have h1 := List.idxOf_lt_length_of_mem hm
    simp only [List.getD_eq_getElem?_getD, List.getElem?_eq_getElem h1, Option.getD_some]
    exact List.getElem_idxOf h1
  · rw [fresh_out hm, if_pos h]
theorem frm_lo {i : Nat} (h : i < x.ns.length) : x.frm one i = i := if_pos h
theorem tau_lo {i : Nat} (h : i < x.ns.length) : x.tau one i = x.σ i := if_pos h
theorem tau_hi {i : Nat} (h : x.ns.length ≤ i) : x.tau one i = (x.σ (x.frm one i)).map (fresh (x.own one) x.ns.length) := if_neg (by omega)
theorem frm_own (ho : one < x.ns.length) {i : Nat} (h1 : x.ns.length ≤ i) (h2 : i < x.ns.length + (x.own one).length) : x.frm one i ∈ x.own one ∧ fresh (x.own one) x.ns.length (x.frm one i) = i := by
  have hl : i - x.ns.length < (x.own one).length := by omega
  have e : x.frm one i = (x.own one)[i - x.ns.length] := by
    unfold LG.frm
    rw [if_neg (by omega)]
    simp [List.getD, hl]
  have hm : x.frm one i ∈ x.own one := by rw [e]; exact List.getElem_mem hl
  refine ⟨hm, ?_⟩
  rw [fresh_in hm, e, idx_get (own_nd ho) hl]
  omega
/-- none of the functions around an outer node is copied -/
theorem out_map (ho : one < x.ns.length) {u : Nat} (hu : u < x.ns.length) (h : u ∉ x.own one) : (x.σ u).map (fresh (x.own one) x.ns.length) = x.σ u := by
  conv => rhs; rw [← List.map_id (x.σ u)]
  refine List.map_congr_left fun f hf => fresh_out fun hm => h ((own_mem ho).mpr (.inr ⟨hu, ?_⟩))
  rcases (own_mem ho).mp hm with rfl | h1
  · exact hf
  · exact x.ws.sub (x.all u hu) hf h1.2
theorem one_map (ho : one < x.ns.length) : (x.σ one).map (fresh (x.own one) x.ns.length) = x.σ one := by
  conv => rhs; rw [← List.map_id (x.σ one)]
  refine List.map_congr_left fun f hf => fresh_out fun hm => ?_
  have rk := x.ws.rank (x.all one ho) hf
  rcases (own_mem ho).mp hm with rfl | h1
  · exact Nat.lt_irrefl _ rk
  · have := x.ws.rank (x.all f h1.1) h1.2
    omega
/-- scopes at the new numbers -/
theorem tau_fresh (ho : one < x.ns.length) {u : Nat} (hu : u < x.ns.length) : x.tau one (fresh (x.own one) x.ns.length u) = (x.σ u).map (fresh (x.own one) x.ns.length) := by
  by_cases hm : u ∈ x.own one
  · rw [tau_hi (by rw [fresh_in hm]; omega), frm_fresh ho hu]
  · rw [fresh_out hm, tau_lo hu, out_map ho hu hm]
/-- what stands at the nodes -/
structure Prt (x : LG) (a spot one : Nat) : Prop where
  ha : a < x.ns.length
  hs : (nat x.ns a).ch[spot]? = some one
  hv : (nat x.ns one).isVar = false
theorem Prt.ho (p : Prt x a spot one) : one < x.ns.length := (x.fm.ok.ch _ (nat_mem p.ha)).2 _ (List.mem_of_getElem? p.hs)
abbrev LG.prt (x : LG) (a spot one : Nat) : List Nd := K50.prt x.ns (x.own one) a spot one
theorem prt_len : (x.prt a spot one).length = x.ns.length + (x.own one).length := by simp [LG.prt, K50.prt, copies]
theorem prt_lo {i : Nat} (hi : i < x.ns.length) (ne : i ≠ a) : nat (x.prt a spot one) i = nat x.ns i := by
  unfold nat LG.prt K50.prt
  rw [List.getD_eq_getElem?_getD, List.getElem?_set_ne (Ne.symm ne), List.getElem?_append_left hi, ← List.getD_eq_getElem?_getD]
theorem prt_at (p : Prt x a spot one) : nat (x.prt a spot one) a = replN (nat x.ns a) spot (fresh (x.own one) x.ns.length one) := by
  unfold LG.prt K50.prt
  conv => lhs; unfold nat
  have := p.ha
  rw [List.getD_eq_getElem?_getD, List.getElem?_set_self (by simp [copies]; omega)]
  rfl
theorem prt_hi (p : Prt x a spot one) {i : Nat} (h1 : x.ns.length ≤ i) (h2 : i < x.ns.length + (x.own one).length) : nat (x.prt a spot one) i = (nat x.ns (x.frm one i)).rn (fresh (x.own one) x.ns.length) := by
  have hl : i - x.ns.length < (x.own one).length := by omega
  have e : x.frm one i = (x.own one)[i - x.ns.length] := by
    unfold LG.frm
    rw [if_neg (by omega)]
    simp [List.getD, hl]
  have := p.ha
  unfold LG.prt K50.prt
  conv => lhs; unfold nat
  rw [List.getD_eq_getElem?_getD, List.getElem?_set_ne (by omega), List.getElem?_append_right h1, copies, List.getElem?_map, List.getElem?_eq_getElem hl, e]
  rfl
theorem repl_ch {n : Nd} {r : Nat} (h : n.ch[spot]? = some one) : (replN n spot r).ch = n.ch.set spot r ∧ (replN n spot r).isFn = n.isFn ∧ (replN n spot r).wd = n.wd := by
  cases n with
  | word w cs => exact ⟨rfl, rfl, rfl⟩
  | fn c =>
    simp only [Nd.ch] at h
    have : spot = 0 := by
      have := (List.getElem?_eq_some_iff.mp h).1
      simpa using this
    subst this
    exact ⟨rfl, rfl, rfl⟩
  | var f => simp [Nd.ch] at h
theorem repl_var {n : Nd} {r f : Nat} (h : n.ch[spot]? = some one) : replN n spot r ≠ .var f := by
  cases n with
  | word w cs => intro e; cases e
  | fn c => intro e; cases e
  | var f => simp [Nd.ch] at h
theorem mem_set_or {l : List Nat} {i r y : Nat} (h : y ∈ l.set i r) : y ∈ l ∨ y = r := List.mem_or_eq_of_mem_set h
theorem NsFm.ltc {ns : List Nd} (h : NsFm ns) {u c : Nat} (hu : u < ns.length) (hc : c ∈ (nat ns u).ch) : c < ns.length := (h.ok.ch _ (nat_mem hu)).2 _ hc
theorem NsFm.ltv {ns : List Nd} (h : NsFm ns) {u f : Nat} (hu : u < ns.length) (e : nat ns u = .var f) : f < ns.length := h.ok.vt f (e ▸ nat_mem hu)
theorem prt_ok (p : Prt x a spot one) (few : x.ns.length ≤ 24) : NsOk (x.prt a spot one) := by
  have ol := own_len p.ho
  have each : ∀ n ∈ x.prt a spot one, ∃ i, i < x.ns.length + (x.own one).length ∧ nat (x.prt a spot one) i = n := fun n hn => by
    obtain ⟨i, hi, e⟩ := List.getElem_of_mem hn
    refine ⟨i, by rw [← prt_len (a := a) (spot := spot)]; exact hi, ?_⟩
    rw [← e]
    simp [nat, List.getD, hi]
  have three : ∀ i, i < x.ns.length + (x.own one).length → (nat (x.prt a spot one) i).ch.length ≤ 3 ∧ (∀ c ∈ (nat (x.prt a spot one) i).ch, c < x.ns.length + (x.own one).length) ∧ (∀ f, nat (x.prt a spot one) i = .var f → f < x.ns.length + (x.own one).length) ∧ PySem.PyData.strOk (nat (x.prt a spot one) i).wd = true := fun i hi => by
    by_cases h1 : i < x.ns.length
    · have k1 := x.fm.ok.ch _ (nat_mem h1)
      by_cases e : i = a
      · subst e
        obtain ⟨r1, r2, r3⟩ := repl_ch (r := fresh (x.own one) x.ns.length one) p.hs
        rw [prt_at p, r1, r3]
        refine ⟨by rw [List.length_set]; exact k1.1, fun c hc => ?_, fun f e => absurd e (repl_var p.hs), x.fm.ok.wd _ (nat_mem h1)⟩
        rcases mem_set_or hc with h | rfl
        · have := k1.2 c h; omega
        · exact fresh_lt p.ho p.ho
      · rw [prt_lo h1 e]
        exact ⟨k1.1, fun c hc => by have := k1.2 c hc; omega, fun f e => by have := x.fm.ltv h1 e; omega, x.fm.ok.wd _ (nat_mem h1)⟩
    · have h2 := own_lt p.ho (frm_own p.ho (by omega) hi).1
      have k1 := x.fm.ok.ch _ (nat_mem h2)
      rw [prt_hi p (by omega) hi, rn_ch, rn_wd]
      refine ⟨by rw [List.length_map]; exact k1.1, fun c hc => ?_, fun f e => ?_, x.fm.ok.wd _ (nat_mem h2)⟩
      · obtain ⟨y, hy, rfl⟩ := List.mem_map.mp hc
        exact fresh_lt p.ho (k1.2 y hy)
      · obtain ⟨y, e1, rfl⟩ := rn_var e
        exact fresh_lt p.ho (x.fm.ltv h2 e1)
  refine ⟨by rw [prt_len]; omega, fun n hn => ?_, fun f hf => ?_, fun n hn => ?_⟩
  · obtain ⟨i, hi, rfl⟩ := each n hn
    obtain ⟨t1, t2, _⟩ := three i hi
    exact ⟨t1, fun c hc => by rw [prt_len]; exact t2 c hc⟩
  · obtain ⟨i, hi, e⟩ := each _ hf
    rw [prt_len]
    exact (three i hi).2.2.1 f e
  · obtain ⟨i, hi, rfl⟩ := each n hn
    exact (three i hi).2.2.2
theorem frm_lt (ho : one < x.ns.length) {i : Nat} (h : i < x.ns.length + (x.own one).length) : x.frm one i < x.ns.length := by
  by_cases h1 : i < x.ns.length
  · rw [frm_lo h1]; exact h1
  · exact own_lt ho (frm_own ho (by omega) h).1
/-- the nodes, mapped back -/
theorem prt_nd (p : Prt x a spot one) {i : Nat} (h : i < x.ns.length + (x.own one).length) : nat x.ns (x.frm one i) = (nat (x.prt a spot one) i).rn (x.frm one) := by
  by_cases h1 : i < x.ns.length
  · rw [frm_lo h1]
    by_cases e : i = a
    · subst e
      rw [prt_at p]
      have hc : ∀ c ∈ (nat x.ns i).ch, c < x.ns.length := fun c hc => x.fm.ltc h1 hc
      have hs := p.hs
      cases hn : nat x.ns i with
      | word w cs =>
        rw [hn] at hc hs
        simp only [Nd.ch] at hc hs
        show _ = Nd.word w ((cs.set spot _).map _)
        congr 1
        refine List.ext_getElem? fun j => ?_
        rw [List.getElem?_map]
        by_cases hj : spot = j
        · subst hj
          rw [List.getElem?_set_self (List.getElem?_eq_some_iff.mp hs).1, hs, Option.map_some, frm_fresh p.ho p.ho]
        · rw [List.getElem?_set_ne hj]
          cases e : cs[j]? with
          | none => rfl
          | some y => rw [Option.map_some, frm_lo (hc y (List.mem_of_getElem? e))]
      | fn c =>
        rw [hn] at hs
        have : spot = 0 := by
          have := (List.getElem?_eq_some_iff.mp hs).1
          simpa [Nd.ch] using this
        subst this
        have : c = one := by simpa [Nd.ch] using hs
        subst this
        show _ = Nd.fn _
        rw [frm_fresh p.ho p.ho]
      | var f =>
        rw [hn] at hs
        simp [Nd.ch] at hs
    · rw [prt_lo h1 e]
      exact (rn_id (fun c hc => frm_lo (x.fm.ltc h1 hc)) fun f e => frm_lo (x.fm.ltv h1 e)).symm
  · have h2 := own_lt p.ho (frm_own p.ho (by omega) h).1
    rw [prt_hi p (by omega) h]
    exact (rn_back (fun c hc => frm_fresh p.ho (x.fm.ltc h2 hc)) fun f e => frm_fresh p.ho (x.fm.ltv h2 e)).symm
theorem prt_sc (p : Prt x a spot one) {i : Nat} (h : i < x.ns.length + (x.own one).length) : x.σ (x.frm one i) = (x.tau one i).map (x.frm one) := by
  by_cases h1 : i < x.ns.length
  · rw [frm_lo h1, tau_lo h1]
    conv => lhs; rw [← List.map_id (x.σ i)]
    exact List.map_congr_left fun f hf => (frm_lo (x.σlt h1 hf)).symm
  · have h2 := own_lt p.ho (frm_own p.ho (by omega) h).1
    rw [tau_hi (by omega), List.map_map]
    conv => lhs; rw [← List.map_id (x.σ (x.frm one i))]
    exact List.map_congr_left fun f hf => (frm_fresh p.ho (x.σlt h2 hf)).symm
theorem prt_rch (p : Prt x a spot one) (few : x.ns.length ≤ 24) {i : Nat} (h : Rch (x.prt a spot one) 0 i) : i < x.ns.length + (x.own one).length := by
  rw [← prt_len (a := a) (spot := spot)]
  exact rch_lt ⟨_, prt_ok p few, 0, by rw [prt_len]; have := x.pos; omega⟩ h
theorem prt_homS (p : Prt x a spot one) (few : x.ns.length ≤ 24) : HomS (x.prt a spot one) 0 (x.tau one) x.ns 0 x.σ (x.frm one) :=
  ⟨⟨frm_lo x.pos, fun u hu => prt_nd p (prt_rch p few hu)⟩, fun u hu => prt_sc p (prt_rch p few hu)⟩
theorem pre_map {l m : List Nat} (f : Nat → Nat) (h : l <+: m) : l.map f <+: m.map f := by
  obtain ⟨t, rfl⟩ := h
  exact ⟨t.map f, by simp⟩
theorem prt_ws (p : Prt x a spot one) (few : x.ns.length ≤ 24) : WS (x.prt a spot one) 0 (x.tau one) := by
  refine ⟨by rw [tau_lo x.pos]; exact x.ws.root, fun u hu c hc => ?_, fun u f hu e => ?_⟩
  · have hul := prt_rch p few hu
    by_cases h1 : u < x.ns.length
    · rw [tau_lo h1]
      have org : ∀ c, c ∈ (nat x.ns u).ch → x.σ c <+: x.σ u ++ if (nat x.ns u).isFn = true then [u] else [] := fun c hc => x.ws.ch u (x.all u h1) c hc
      by_cases e : u = a
      · subst e
        obtain ⟨r1, r2, _⟩ := repl_ch (r := fresh (x.own one) x.ns.length one) p.hs
        rw [prt_at p] at hc ⊢
        rw [r1] at hc
        rw [r2]
        rcases mem_set_or hc with h | rfl
        · rw [tau_lo (x.fm.ltc h1 h)]
          exact org c h
        · rw [tau_fresh p.ho p.ho, one_map p.ho]
          exact org one (List.mem_of_getElem? p.hs)
      · rw [prt_lo h1 e] at hc ⊢
        rw [tau_lo (x.fm.ltc h1 hc)]
        exact org c hc
    · obtain ⟨m1, m2⟩ := frm_own p.ho (by omega) hul
      have h2 := own_lt p.ho m1
      rw [prt_hi p (by omega) hul, rn_ch] at hc
      rw [prt_hi p (by omega) hul, rn_isFn, tau_hi (i := u) (by omega)]
      obtain ⟨y, hy, rfl⟩ := List.mem_map.mp hc
      rw [tau_fresh p.ho (x.fm.ltc h2 hy)]
      have := pre_map (fresh (x.own one) x.ns.length) (x.ws.ch _ (x.all _ h2) y hy)
      rw [List.map_append] at this
      by_cases hf : (nat x.ns (x.frm one u)).isFn = true
      · rw [if_pos hf] at this ⊢
        rw [List.map_singleton, m2] at this
        exact this
      · rw [if_neg hf] at this ⊢
        simpa using this
  · have hul := prt_rch p few hu
    by_cases h1 : u < x.ns.length
    · by_cases ea : u = a
      · subst ea
        rw [prt_at p] at e
        exact absurd e (repl_var p.hs)
      · rw [prt_lo h1 ea] at e
        rw [tau_lo h1, tau_lo (x.fm.ltv h1 e)]
        exact x.ws.vt u f (x.all u h1) e
    · obtain ⟨m1, m2⟩ := frm_own p.ho (by omega) hul
      have h2 := own_lt p.ho m1
      rw [prt_hi p (by omega) hul] at e
      obtain ⟨y, e1, rfl⟩ := rn_var e
      rw [tau_hi (i := u) (by omega), tau_fresh p.ho (x.fm.ltv h2 e1), x.ws.vt _ y (x.all _ h2) e1, List.map_append]
      rfl
theorem prt_raw (p : Prt x a spot one) (few : x.ns.length ≤ 24) : Raw (x.prt a spot one) (x.tau one) := by
  have ol := own_len p.ho
  have H := prt_homS p few
  have vr : ∀ u f, Rch (x.prt a spot one) 0 u → nat (x.prt a spot one) u = .var f → nat x.ns (x.frm one u) = .var (x.frm one f) := fun u f hu e => by
    rw [prt_nd p (prt_rch p few hu), e]; rfl
  have own1 : ∀ u v f, u < x.ns.length → v < x.ns.length → nat x.ns u = .var f → nat x.ns v = .var f → u = v := fun u v f hu hv e1 e2 => by
    have key : ∀ {ns : List Nd}, (owners ns).Nodup → ∀ {i j f : Nat}, ns[i]? = some (Nd.var f) → ns[j]? = some (Nd.var f) → i = j := by
      intro ns
      induction ns with
      | nil => intro _ i j f h; simp at h
      | cons n ns ih =>
        intro nd i j f hi hj
        have mem : ∀ {j : Nat}, ns[j]? = some (Nd.var f) → f ∈ owners ns := fun {j} hj => by
          unfold owners
          exact List.mem_map.mpr ⟨Nd.var f, List.mem_filter.mpr ⟨List.mem_of_getElem? hj, rfl⟩, rfl⟩
        have hd : n = Nd.var f → f ∉ owners ns := fun e => by
          subst e
          unfold owners at nd ⊢
          rw [List.filter_cons_of_pos rfl, List.map_cons, List.nodup_cons] at nd
          exact nd.1
        have nd2 : (owners ns).Nodup := by
          unfold owners at nd ⊢
          by_cases hn : n.isVar = true
          · rw [List.filter_cons_of_pos hn, List.map_cons, List.nodup_cons] at nd
            exact nd.2
          · rw [List.filter_cons_of_neg hn] at nd
            exact nd
        match i, j with
        | 0, 0 => rfl
        | 0, j + 1 => exact absurd (mem (by simpa using hj)) (hd (by simpa using hi))
        | i + 1, 0 => exact absurd (mem (by simpa using hi)) (hd (by simpa using hj))
        | i + 1, j + 1 => exact congrArg Nat.succ (ih nd2 (i := i) (j := j) (f := f) (by simpa using hi) (by simpa using hj))
    exact key x.fm.one (i := u) (j := v) (f := f) (by rw [nat_at hu, e1]) (by rw [nat_at hv, e2])
  refine ⟨prt_ok p few, by rw [prt_len]; have := x.pos; omega, by rw [prt_len]; omega, prt_ws p few, fun u hu => ?_, fun u w cs hu e => ?_, fun u f hu e => ?_, fun u v f hu hv e1 e2 => ?_, ?_⟩
  · have h1 := prt_rch p few hu
    have := x.sl _ (x.all _ (frm_lt p.ho h1))
    rw [prt_sc p h1, List.length_map] at this
    exact this
  · have h1 := prt_rch p few hu
    have h2 := prt_nd p h1
    rw [e] at h2
    exact x.fm.nm w _ (h2 ▸ nat_mem (frm_lt p.ho h1))
  · have h1 := prt_rch p few hu
    have h2 := vr u f hu e
    have hf : Rch (x.prt a spot one) 0 f := ((prt_ws p few).mem hu (by rw [(prt_ws p few).vt u f hu e]; simp)).1
    have h3 := x.fm.vf _ (h2 ▸ nat_mem (frm_lt p.ho h1))
    rw [prt_nd p (prt_rch p few hf), rn_isFn] at h3
    exact h3
  · have hu1 := prt_rch p few hu
    have hv1 := prt_rch p few hv
    have k1 := vr u f hu e1
    have k2 := vr v f hv e2
    have k3 := own1 _ _ _ (frm_lt p.ho hu1) (frm_lt p.ho hv1) k1 k2
    -- the same node below: both old, or both new
    have side : ∀ w, Rch (x.prt a spot one) 0 w → nat (x.prt a spot one) w = .var f → (x.ns.length ≤ w ↔ x.frm one w ∈ x.own one ∧ f = fresh (x.own one) x.ns.length (x.frm one f) ∧ x.ns.length ≤ f) ∨ True := fun _ _ _ => .inr trivial
    have low : ∀ w, Rch (x.prt a spot one) 0 w → nat (x.prt a spot one) w = .var f → w < x.ns.length → f < x.ns.length := fun w hw e h => by
      by_cases ea : w = a
      · subst ea
        rw [prt_at p] at e
        exact absurd e (repl_var p.hs)
      · rw [prt_lo h ea] at e
        exact x.fm.ltv h e
    have high : ∀ w, Rch (x.prt a spot one) 0 w → nat (x.prt a spot one) w = .var f → x.ns.length ≤ w → x.ns.length ≤ f := fun w hw e h => by
      have hl := prt_rch p few hw
      obtain ⟨m1, m2⟩ := frm_own p.ho h hl
      have h2 := own_lt p.ho m1
      rw [prt_hi p h hl] at e
      obtain ⟨y, y1, rfl⟩ := rn_var e
      have hy := x.fm.ltv h2 y1
      have hym : y ∈ x.own one := by
        have vs := x.ws.vt _ y (x.all _ h2) y1
        rcases (own_mem p.ho).mp m1 with e | e
        · rw [e] at y1
          have := p.hv
          rw [y1] at this
          cases this
        · have h3 := e.2
          rw [vs] at h3
          rcases List.mem_append.mp h3 with h3 | h3
          · exact (own_mem p.ho).mpr (.inr ⟨hy, h3⟩)
          · exact (own_mem p.ho).mpr (.inl (List.mem_singleton.mp h3).symm)
      rw [fresh_in hym]
      omega
    by_cases hul : u < x.ns.length
    · have f1 := low u hu e1 hul
      by_cases hvl : v < x.ns.length
      · rw [frm_lo hul, frm_lo hvl] at k3
        exact k3
      · have := high v hv e2 (by omega)
        omega
    · have f1 := high u hu e1 (by omega)
      by_cases hvl : v < x.ns.length
      · have := low v hv e2 hvl
        omega
      · have a1 := (frm_own p.ho (by omega) hu1).2
        have a2 := (frm_own p.ho (by omega) hv1).2
        rw [← a1, ← a2, k3]
  · have h0 := x.fm.r0
    have h1 := prt_nd p (i := 0) (by have := x.pos; omega)
    rw [frm_lo x.pos] at h1
    rw [h1, rn_isVar] at h0
    exact h0
end
end K50
set_option maxRecDepth 100000
set_option maxHeartbeats 4000000
/-! K27: the law's copies. -/
namespace K50
open PySem PySem.Spec PyProof.Rows L2 DL
/-- the numbers of what is copied, as a dict -/
def frD (own : List Nat) (N : Nat) : D := .dct (keysI own) (dnats ((List.range own.length).map (N + ·)))
theorem fr_look {own : List Nat} {N : Nat} (nd : own.Nodup) (u : Nat) : (dlook (u : Int) (keysI own) (dnats ((List.range own.length).map (N + ·)))).getD (.int u) = .int (fresh own N u : Nat) := by
  by_cases h : u ∈ own
  · have h1 := List.idxOf_lt_length_of_mem h
    rw [fresh_in h, dlook_at (i := own.idxOf u) (d := .int (N + own.idxOf u : Nat)) (keys_nodup nd) (by rw [keysI, List.getElem?_map, List.getElem?_eq_getElem h1, List.getElem_idxOf h1]; rfl) (by simp [dnats, h1])]
    rfl
  · rw [fresh_out h, dlook_none (fun z => h (mem_keysI.mp z))]
    rfl
theorem fr_at {own : List Nat} {N u : Nat} (nd : own.Nodup) (h : u ∈ own) : dlook (u : Int) (keysI own) (dnats ((List.range own.length).map (N + ·))) = some (.int (fresh own N u : Nat)) := by
  have h1 := List.idxOf_lt_length_of_mem h
  rw [fresh_in h, dlook_at (i := own.idxOf u) (d := .int (N + own.idxOf u : Nat)) (keys_nodup nd) (by rw [keysI, List.getElem?_map, List.getElem?_eq_getElem h1, List.getElem_idxOf h1]; rfl) (by simp [dnats, h1])]
structure RdIn where
  n : Nd
  own : List Nat
  N : Nat
  nd : own.Nodup
  ch : n.ch.length ≤ 3
section
variable {P : Program} {w : World} {K : PySem.W.Frag} {mg : Str → Option Value} {base : Heap}
theorem ok_law_renamed_node (Γ : Pg K mg) : FnOk P w K mg base CX0 1 Γ.law_renamed_node.f Γ.law_renamed_node.fd P_law_renamed_node (spD K (fun x : RdIn => [x.n.d, frD x.own x.N]) NoC (Ret fun x => (x.n.rn (fresh x.own x.N)).d)) := by
  refine fn_ok Γ.law_renamed_node.F sc_law_renamed_node (fun _ => rfl) (by decide) (fun cdv A outer s H E hr ⟨n, own, N, hnd, hch⟩ => ?_)
  have nd := sc_law_renamed_node.nd
  have hu1 := Nat.lt_of_le_of_lt (Nat.add_le_add_left (show 1 ≤ 64 by decide) _) hr.units
  cases n with
  | word y cs =>
    have hcs : cs.length ≤ 3 := hch
    refine bl_cons (st_if (te_cmp op_eq (ev_ix ix_tup (ev_v 0 rfl (ev_int (o2_ixT (n := 0) rfl (ev_str (o2_seqT ⟨true, rfl, iteT ?_⟩))))))))
    refine bl_cons (st_retD (ev_tup (ag_cons (ev_str (ag_cons (ev_ix ix_tup (ev_v 0 rfl (ev_int (o2_ixT (n := 1) rfl (ag_cons (ev_callTy call_tuple_of Γ.b_tuple bt_tuple (ag_cons (ev_mapT [("_law_one", 2)] (fun c : Nat => .int c) (fun c => .int (fresh own N c : Nat)) rfl nd rfl (js := [2]) (by decide) (itx_tup (ev_ix ix_tup (ev_v 0 rfl (ev_int (o2_ixT (n := 2) rfl ⟨_, rfl, cs, rfl, szle (by omega), fun c hc => ⟨fun s H C cl fp => tg_v 2 nd ⟨rfl, fun s H C cl fp => ?_⟩⟩, ag_nil (oa_tuple (.inr rfl) (ag_nil ⟨sz, ?_, rfl⟩))⟩))))))))))))))))))
    · exact ev_dget2 hu1 (ev_v 1 rfl ⟨⟨_, _, .inl rfl⟩, ev_v 2 rfl (ev_v 2 rfl ⟨c, _, _, rfl, .inl rfl, fr_look hnd c, rfl⟩)⟩)
    · simp only [Nd.rn, Nd.d, dnats, List.map_map]
      rfl
  | fn c =>
    refine bl_cons (st_if (te_cmp op_eq (ev_ix ix_tup (ev_v 0 rfl (ev_int (o2_ixT (n := 0) rfl (ev_str (o2_seqF ⟨false, rfl, iteF (bl_nil ?_)⟩))))))))
    exact bl_cons (st_retD (ev_tup (ag_cons (ev_ix ix_tup (ev_v 0 rfl (ev_int (o2_ixT (n := 0) rfl (ag_cons (ev_dget2 hu1 (ev_v 1 rfl ⟨⟨_, _, .inl rfl⟩, ev_ix ix_tup (ev_v 0 rfl (ev_int (o2_ixT (n := 1) rfl (ev_ix ix_tup (ev_v 0 rfl (ev_int (o2_ixT (n := 1) rfl ⟨c, _, _, rfl, .inl rfl, ag_nil ⟨sz, by rw [fr_look hnd c]; rfl, rfl⟩⟩)))))))⟩))))))))))
  | var c =>
    refine bl_cons (st_if (te_cmp op_eq (ev_ix ix_tup (ev_v 0 rfl (ev_int (o2_ixT (n := 0) rfl (ev_str (o2_seqF ⟨false, rfl, iteF (bl_nil ?_)⟩))))))))
    exact bl_cons (st_retD (ev_tup (ag_cons (ev_ix ix_tup (ev_v 0 rfl (ev_int (o2_ixT (n := 0) rfl (ag_cons (ev_dget2 hu1 (ev_v 1 rfl ⟨⟨_, _, .inl rfl⟩, ev_ix ix_tup (ev_v 0 rfl (ev_int (o2_ixT (n := 1) rfl (ev_ix ix_tup (ev_v 0 rfl (ev_int (o2_ixT (n := 1) rfl ⟨c, _, _, rfl, .inl rfl, ag_nil ⟨sz, by rw [fr_look hnd c]; rfl, rfl⟩⟩)))))))⟩))))))))))
end
/-! ### uses of words and functions -/
def usR (ns : List Nd) (i : Nat) : List (Nat × Nat × Nat) := ((nat ns i).ch.zipIdx.filter fun p => !(nat ns p.1).isVar).map fun p => (i, p.2, p.1)
def usL (ns : List Nd) (k : Nat) : List (Nat × Nat × Nat) := (List.range k).flatMap (usR ns)
def usD (t : Nat × Nat × Nat) : D := .tup [.int t.1, .int t.2.1, .int t.2.2]
theorem usL_succ (ns : List Nd) (k : Nat) : usL ns (k + 1) = usL ns k ++ usR ns k := by simp [usL, List.range_succ]
theorem usL_mem {x : LG} {t : Nat × Nat × Nat} (h : t ∈ usL x.ns x.ns.length) : Prt x t.1 t.2.1 t.2.2 := by
  obtain ⟨i, hi, h⟩ := List.mem_flatMap.mp h
  obtain ⟨⟨c, j⟩, hp, rfl⟩ := List.mem_map.mp h
  obtain ⟨h1, h2⟩ := List.mem_filter.mp hp
  rw [List.mem_zipIdx_iff_getElem?] at h1
  exact ⟨List.mem_range.mp hi, h1, by simpa using h2⟩
theorem usR_len {x : LG} {i : Nat} (hi : i < x.ns.length) : (usR x.ns i).length ≤ 3 := by
  have h1 := (x.fm.ok.ch _ (nat_mem hi)).1
  have h2 := List.length_filter_le (fun p : Nat × Nat => !(nat x.ns p.1).isVar) (nat x.ns i).ch.zipIdx
  rw [List.length_zipIdx] at h2
  unfold usR
  rw [List.length_map]
  omega
theorem usL_len {x : LG} : ∀ {k : Nat}, k ≤ x.ns.length → (usL x.ns k).length ≤ 3 * k
  | 0, _ => by simp [usL]
  | k + 1, h => by
    rw [usL_succ, List.length_append]
    have := usL_len (x := x) (k := k) (by omega)
    have := usR_len (x := x) (i := k) (by omega)
    omega
theorem us_plain {l : List (Nat × Nat × Nat)} : ∀ d ∈ l.map usD, Plain d := fun d hd => by
  obtain ⟨t, _, rfl⟩ := List.mem_map.mp hd
  exact ⟨rfl, by simp [usD, D.py, D.pys, PyData.canLay0, PyData.canLayAll0], by simp [usD, D.py, D.pys, PyData.depth, PyData.depthAll]⟩
theorem kv_zip (own : List Nat) (N : Nat) : (own.zipIdx.map fun p => D.tup [.int p.1, .int (N + p.2 : Nat)]) = kvD (keysI own) (dnats ((List.range own.length).map (N + ·))) := by
  refine List.ext_getElem? fun i => ?_
  unfold kvD
  rw [List.getElem?_map, List.getElem?_map]
  by_cases h : i < own.length
  · have e1 : own.zipIdx[i]? = some (own[i], i) := by simp [h]
    have e2 : ((keysI own).zip (dnats ((List.range own.length).map (N + ·))))[i]? = some ((own[i] : Int), .int (N + i : Nat)) := by
      rw [List.getElem?_zip_eq_some]
      exact ⟨by simp [keysI, h], by simp [dnats, h]⟩
    rw [e1, e2]
    rfl
  · have e1 : own.zipIdx[i]? = none := by simp; omega
    have e2 : ((keysI own).zip (dnats ((List.range own.length).map (N + ·))))[i]? = none := by
      rw [List.getElem?_eq_none_iff, List.length_zip]
      simp [keysI, dnats]
      omega
    rw [e1, e2]
    rfl
structure PtIn where
  a : Addr
  s : Int × Int × Int
  x : LG
def PtPost (x : LG) (d : D) : Prop := ∃ y : LG, d = nsL y.ns ∧ ∃ c, HomS y.ns 0 y.σ x.ns 0 x.σ c
noncomputable def scL (x : LG) : D := .lst ((List.range x.ns.length).map fun u => tnats (scT x.ns u))
noncomputable def ptGam (x : LG) (a : Addr) (b : Addr) (o4 o5 : Option D) : Gam := [some (.ref a), some (nsL x.ns), some (scL x), some (.ref b), o4, o5, none, none, none, none, none, none, none]
section
variable {P : Program} {w : World} {K : PySem.W.Frag} {mg : Str → Option Value} {base : Heap}
theorem ok_law_parted (Γ : Pg K mg) : FnOk P w K mg base CX0 4 Γ.law_parted.f Γ.law_parted.fd P_law_parted (spD K (fun x : PtIn => [.ref x.a, nsL x.x.ns]) (fun x => [(x.a, stmD x.s)]) (fun x d L => PtPost x.x d ∧ ∃ s', L = [(x.a, stmD s')])) := by
  refine fn_ok Γ.law_parted.F sc_law_parted (fun _ => rfl) (by decide) (fun cdv A outer s H E hr ⟨a, sm, x⟩ => ?_)
  have nd := sc_law_parted.nd
  have hu1 := Nat.lt_of_le_of_lt (Nat.add_le_add_left (show 1 ≤ 64 by decide) _) hr.units
  have few := x.few
  refine bl_cons (st_asg (js := [2, 3]) (ev_tup (ag_cons (ev_ownP (ok_law_scopes Γ) hr Γ.law_scopes.g Γ.law_scopes.F.kp (bi_law_scopes Γ) (ag_cons (ev_v 1 rfl (ag_nil ⟨x.lsin, rfl, fun d hd => ?_⟩)))))))
  subst hd
  refine ag_cons (ev_lst (ag_nil ⟨sz, fun b => ag_nil ⟨sz, tg_2 2 3 rfl nd ?_⟩⟩))
  refine bl_cons (st_for (js := [4, 5]) rfl (itx_enum Γ.b_enumerate (ag_cons (ev_v 1 rfl (ag_nil ⟨_, rfl, fun i Γ' L' => ∃ o4 o5, Γ' = ptGam x a b o4 o5 ∧ L' = [(a, stmD sm), (b, .lst ((usL x.ns i).map usD))] ∧ i ≤ x.ns.length, ⟨none, none, rfl, rfl, Nat.zero_le _⟩, ?_, ?_⟩)))))
  · rintro i d Γ' L' hd ⟨o4, o5, rfl, rfl, _⟩
    have hi : i < x.ns.length := by
      have := (List.getElem?_eq_some_iff.mp hd).1
      rw [enumD_length, List.length_map] at this
      exact this
    rw [enumD_get (nat_d hi)] at hd
    cases hd
    have hch := x.fm.ok.ch _ (nat_mem hi)
    refine tg_2 4 5 rfl nd (bl_cons (st_extend (ev_v 3 rfl ⟨1, b, _, rfl, rfl, ev_selO [("_law_spot", 6), ("_law_one", 7)] (fun p : Nat × Nat => .tup [.int p.2, .int p.1]) (fun p => usD (i, p.2, p.1)) (fun p => !(nat x.ns p.1).isVar) rfl nd rfl (js := [6, 7]) (by decide) (itx_enum Γ.b_enumerate (ag_cons (ev_own (ok_law_below Γ) (hr.mono (by decide)) Γ.law_below.g Γ.law_below.F.kp (bi_law_below Γ) (ag_cons (ev_v 5 rfl (ag_nil ⟨nat x.ns i, rfl, ag_nil ⟨_, rfl, (nat x.ns i).ch.zipIdx, enumD_map _ _, szle (by simp; omega), fun p hp => ⟨fun s H C cl fp => tg_2 6 7 rfl nd ⟨rfl, fun s H C cl fp => ?_⟩⟩, fun q => ⟨1, 2, q, _, _, rfl, rfl, rfl, by decide, ?_, bl_nil ⟨_, _, rfl, ?_, hi⟩⟩⟩⟩))))))⟩)))
    · rw [List.mem_zipIdx_iff_getElem?] at hp
      have hc := hch.2 _ (List.mem_of_getElem? hp)
      obtain ⟨r, er⟩ := head_d (nat x.ns p.1)
      refine te_cmp op_ne (ev_ix ix_tup (ev_ix ix_list (ev_v 1 rfl (ev_v 7 rfl (o2_ixL (nat_d hc) (ev_int ?_))))))
      rw [er]
      refine o2_ixT (n := 0) rfl (ev_str (o2_ne (k := (nat x.ns p.1).isVar) rfl rfl rfl ?_ ⟨_, rfl, rfl, rfl, fun _ s H C cl fp => ev_tup (ag_cons (ev_v 4 rfl (ag_cons (ev_v 6 rfl (ag_cons (ev_v 7 rfl (ag_nil ⟨sz, rfl, rfl⟩)))))))⟩))
      rw [← kind_var]
      exact decide_eq_decide.mpr ⟨fun e => V.str.inj e, fun e => congrArg V.str e⟩
    · have h1 := usL_len (x := x) (k := i) (by omega)
      have h2 := usR_len hi
      unfold usR at h2
      rw [List.length_map] at h2
      rw [List.length_map, List.length_map]
      exact szle (by omega)
    · rw [usL_succ, List.map_append, usR, List.map_map]
      rfl
  · rintro Γ' L' ⟨o4, o5, rfl, rfl, _⟩
    rw [enumD_length, List.length_map]
    refine bl_fz 1 3 rfl rfl ?_
    have ul := usL_len (x := x) (Nat.le_refl _)
    have whole : PtPost x (nsL x.ns) := ⟨x, rfl, _, HomS.id x.ns 0 x.σ⟩
    refine bl_cons (st_if (te_tw (tw_or (te_cmp (op_eqD hr.units) (ev_v 3 rfl (ev_lstF (ag_nil ⟨sz, o2_eqD (k := ((usL x.ns x.ns.length).map usD).isEmpty) (pures_of us_plain) rfl (shaped_lst us_plain) (shaped_lst (by simp)) (eqv_nil _) ⟨_, rfl, ?_⟩⟩)))))))
    cases hem : ((usL x.ns x.ns.length).map usD).isEmpty with
    | true => exact iteT (iteT (bl_cons (st_ret (ev_v 1 rfl ⟨whole, sm, rfl⟩))))
    | false =>
    refine iteF (tw_or1 (te_cmp op_gt (ev_callB call_len_seq Γ.b_len bt_len (ag_cons (ev_v 1 rfl (ag_nil (oa_lenS (.inr rfl) (ev_int (o2_gt ⟨_, rfl, ?_⟩)))))))))
    rcases Nat.lt_or_ge 24 x.ns.length with h24 | h24
    · exact iteT' (by rw [List.length_map]; exact decide_eq_true (by omega)) (bl_cons (st_ret (ev_v 1 rfl ⟨whole, sm, rfl⟩)))
    refine iteF' (by rw [List.length_map]; exact decide_eq_false (by omega)) (bl_nil ?_)
    have une : (usL x.ns x.ns.length).map usD ≠ [] := fun e => by rw [e] at hem; cases hem
    refine bl_cons (st_asg (js := [4, 6, 7]) (ev_call (ok_law_pick Γ) (hr.mono (by decide)) Γ.law_pick.g Γ.law_pick.F.kp (bi_law_pick Γ) (ag_cons (ev_v 0 rfl (ag_cons (ev_v 3 rfl (ag_nil ⟨⟨a, sm, _, false, une, by rw [List.length_map]; omega⟩, [], rfl, .refl _, ?_⟩)))))))
    rintro d L' ⟨sm2, hd, rfl⟩
    obtain ⟨⟨i, spot, one⟩, ht, rfl⟩ := List.mem_map.mp hd
    have p := usL_mem ht
    simp only at p
    have ho := p.ho
    have ol := own_len ho
    refine tg_3 4 6 7 rfl nd ?_
    have scAt : ∀ {u : Nat}, u < x.ns.length → ((List.range x.ns.length).map fun u => tnats (scT x.ns u))[u]? = some (tnats (x.σ u)) := fun {u} hu => by
      rw [List.getElem?_map, List.getElem?_range hu, Option.map_some, x.scT hu]
    -- what is copied
    refine bl_cons (st_set 8 nd (ev_dr (ev_dr (ev_fz (ev_op op_cat (ev_lst (ag_cons (ev_v 7 rfl (ag_nil ⟨sz, fun p1 => ev_selO [("_law_other", 11)] (fun u : Nat => .int u) (fun u => .int u) (fun o => decide (one ∈ x.σ o)) rfl nd rfl (js := [11]) (by decide) (itx_range1 Γ.b_range (ag_cons (ev_callB call_len_seq Γ.b_len bt_len (ag_cons (ev_v 1 rfl (ag_nil (oa_lenS (.inr rfl) (ag_nil ⟨x.ns.length, by rw [List.length_map], by omega, List.range x.ns.length, by simp [rangeD], szle (by simp; omega), fun o hm => ⟨fun s H C cl fp => tg_v 11 nd ⟨rfl, fun s H C cl fp => ?_⟩⟩, fun q1 => o2_catL (k1 := 1) (k2 := 2) rfl rfl ?_ fun r1 => ⟨3, r1, _, rfl, rfl, 1, p1, _, rfl, 1, q1, _, rfl, ?_⟩⟩))))))))⟩)))))))))
    · have hol := List.mem_range.mp hm
      refine te_cmp op_in_seq (ev_v 7 rfl (ev_ix ix_list (ev_v 2 rfl (ev_v 11 rfl (o2_ixL (scAt hol) (o2_inI (neg := false) (l := keysI (x.σ o)) (.inl (by rw [tnats, keysI_d])) ⟨_, rfl, ?_, rfl, fun _ s H C cl fp => ev_v 11 rfl ⟨rfl, rfl⟩⟩))))))
      simp [mem_keysI]
    · have h1 := List.length_filter_le (fun o => decide (one ∈ x.σ o)) (List.range x.ns.length)
      simp only [List.length_range] at h1
      simp only [List.length_cons, List.length_nil, List.length_map]
      exact szle (by omega)
    have eown : (D.lst ([.int one] ++ ((List.range x.ns.length).filter fun o => decide (one ∈ x.σ o)).map fun (u : Nat) => D.int u) : D) = .lst (dnats (x.own one)) := rfl
    rw [eown]
    have ond := own_nd ho
    generalize hown : x.own one = own at *
    -- the new numbers
    refine bl_cons (st_set 9 nd (ev_fz (ev_callTy (call_dictP rfl) Γ.b_dict bt_dict (ag_cons (ev_mapT [("_law_turn", 12), ("_law_other", 11)] (fun p : Nat × Nat => .tup [.int p.2, .int p.1]) (fun p => .tup [.int p.1, .int (x.ns.length + p.2 : Nat)]) rfl nd rfl (js := [12, 11]) (by decide) (itx_enum Γ.b_enumerate (ag_cons (ev_v 8 rfl (ag_nil ⟨_, rfl, own.zipIdx, enumD_map _ _, szle (by simp; omega), fun p hp => ⟨fun s H C cl fp => tg_2 12 11 rfl nd ⟨rfl, fun s H C cl fp => ?_⟩⟩, ag_nil (oa_dictP (ks := keysI own) (ds := dnats ((List.range own.length).map (x.ns.length + ·))) ?_ ?_ (keys_nodup ond) fun p2 => ⟨1, p2, _, rfl, rfl, ?_⟩)⟩)))))))))
    · refine ev_tup (ag_cons (ev_v 11 rfl (ag_cons (ev_op op_add (ev_callB call_len_seq Γ.b_len bt_len (ag_cons (ev_v 1 rfl (ag_nil (oa_lenS (.inr rfl) (ev_v 12 rfl (o2_add (ag_nil ⟨sz, ?_, rfl⟩))))))))))))
      rw [List.length_map]
      rfl
    · rw [kv_zip]
    · simp [keysI, dnats]
    -- the copies
    refine bl_cons (st_set 10 nd (ev_dr (ev_dr (ev_op op_cat (ev_callTy call_list_of Γ.b_list bt_list (ag_cons (ev_v 1 rfl (ag_nil (oa_list (.inr rfl) fun p1 => ev_mapO [("_law_other", 11)] (fun u : Nat => .int u) (fun u => ((nat x.ns u).rn (fresh own x.ns.length)).d) rfl nd rfl (js := [11]) (by decide) (itx_list (ev_v 8 rfl ⟨_, rfl, own, rfl, szle (by omega), fun u hm => ⟨fun s H C cl fp => tg_v 11 nd ⟨rfl, fun s H C cl fp => ?_⟩⟩, fun q1 => o2_catL (k1 := 1) (k2 := 2) rfl rfl ?_ fun r1 => ⟨1, p1, _, rfl, 1, q1, _, rfl, ?_⟩⟩)))))))))))
    · have hul := own_lt ho (hown ▸ hm)
      exact ev_own (ok_law_renamed_node Γ) (hr.mono (by decide)) Γ.law_renamed_node.g Γ.law_renamed_node.F.kp (bi_law_renamed_node Γ) (ag_cons (ev_ix ix_list (ev_v 1 rfl (ev_v 11 rfl (o2_ixL (nat_d hul) (ag_cons (ev_v 9 rfl (ag_nil ⟨⟨nat x.ns u, own, x.ns.length, ond, (x.fm.ok.ch _ (nat_mem hul)).1⟩, rfl, rfl, rfl⟩))))))))
    · rw [List.length_map, List.length_map]
      exact szle (by omega)
    have eall : (x.ns.map Nd.d ++ own.map fun u => ((nat x.ns u).rn (fresh own x.ns.length)).d) = (x.ns ++ copies x.ns own).map Nd.d := by
      rw [List.map_append, copies, List.map_map]
      rfl
    have hia : (x.ns.map Nd.d ++ own.map fun u => ((nat x.ns u).rn (fresh own x.ns.length)).d)[i]? = some (nat x.ns i).d := by
      rw [List.getElem?_append_left (by rw [List.length_map]; exact p.ha)]
      exact nat_d p.ha
    have hil : i < (x.ns.map Nd.d ++ own.map fun u => ((nat x.ns u).rn (fresh own x.ns.length)).d).length := (List.getElem?_eq_some_iff.mp hia).1
    have onem : one ∈ own := by rw [← hown]; simp [LG.own, ownL]
    have fr := fr_at (N := x.ns.length) ond onem
    have R := prt_raw p h24
    have hR := prt_homS p h24
    have eg : (D.lst ((x.ns.map Nd.d ++ own.map fun u => ((nat x.ns u).rn (fresh own x.ns.length)).d).set i (replN (nat x.ns i) spot (fresh own x.ns.length one)).d) : D) = nsL (x.prt i spot one) := by
      rw [eall, ← List.map_set, ← hown]
      rfl
    refine bl_cons (st_if (te_cmp op_eq (ev_ix ix_tup (ev_ix ix_list (ev_v 10 rfl (ev_v 4 rfl (o2_ixC (k := 1) rfl hia (ev_int ?_))))))))
    have hch := (x.fm.ok.ch _ (nat_mem p.ha)).1
    have hs := p.hs
    have last : ∀ d : D, (∃ od, d = nsL (rnl (x.prt i spot one) od) ∧ WkPost (x.prt i spot one) 0 od) → PtPost x d := fun d ⟨od, ed, W⟩ => by
      obtain ⟨y, ey, c, hc⟩ := R.lgTo W x hR
      exact ⟨y, by rw [ed, ey], c, hc⟩
    cases hn : nat x.ns i with
    | var f => rw [hn] at hs; simp [Nd.ch] at hs
    | fn c =>
      rw [hn] at hs eg hia
      have : spot = 0 := by
        have := (List.getElem?_eq_some_iff.mp hs).1
        simpa [Nd.ch] using this
      subst this
      refine o2_ixT (n := 0) rfl (ev_str (o2_seqT ⟨true, rfl, iteT ?_⟩))
      refine bl_cons (st_lput (ev_tup (ag_cons (ev_str (ag_cons (ev_dget hu1 (ev_v 9 rfl (ev_v 7 rfl ⟨one, _, _, _, rfl, .inl rfl, fr, ag_nil ⟨sz, ev_v 10 rfl (ev_v 4 rfl ⟨1, r1, i, _, rfl, rfl, rfl, hil, bl_nil ?_⟩)⟩⟩))))))))
      refine bl_fz 1 10 rfl rfl (bl_cons (st_ret (ev_ownP (ok_law_walked Γ) (hr.mono (by decide)) Γ.law_walked.g Γ.law_walked.F.kp (bi_law_walked Γ) (ag_cons (ev_v 10 rfl (ag_nil ⟨⟨x.prt i 0 one, R.ok, R.pos, x.tau one, R.ws, R.sl⟩, ?_, fun d hd => ⟨last d hd, sm2, rfl⟩⟩))))))
      rw [← eg]
      rfl
    | word y cs =>
      rw [hn] at hs eg hia hch
      have hcs : cs.length ≤ 3 := hch
      have hsl : spot < cs.length := (List.getElem?_eq_some_iff.mp hs).1
      refine o2_ixT (n := 0) rfl (ev_str (o2_seqF ⟨false, rfl, iteF ?_⟩))
      refine bl_cons (st_lput (ev_tup (ag_cons (ev_str (ag_cons (ev_ix ix_tup (ev_ix ix_list (ev_v 10 rfl (ev_v 4 rfl (o2_ixC (k := 1) rfl hia (ev_int (o2_ixT (n := 1) rfl (ag_cons (ev_op op_catA (ev_op op_catA (ev_sl sl_tupA (ev_ix ix_tup (ev_ix ix_list (ev_v 10 rfl (ev_v 4 rfl (o2_ixC (k := 1) rfl hia (ev_int (o2_ixT (n := 2) rfl (po_no (po_so (ev_v 6 rfl ⟨_, rfl, s1_tup ?_⟩))))))))))))))))))))))))))
      rw [cutD_to]
      refine ev_tup (ag_cons (ev_dget hu1 (ev_v 9 rfl (ev_v 7 rfl ⟨one, _, _, _, rfl, .inl rfl, fr, ag_nil ⟨sz, o2_catT ?_ ?_⟩⟩))))
      · rw [List.length_take, dnats_length]
        exact szle (by simp; omega)
      refine ev_sl sl_tupA (ev_ix ix_tup (ev_ix ix_list (ev_v 10 rfl (ev_v 4 rfl (o2_ixC (k := 1) rfl hia (ev_int (o2_ixT (n := 2) rfl (po_so (ev_op op_add (ev_v 6 rfl (ev_int (o2_add ⟨_, rfl, po_no (s1_tup ?_)⟩))))))))))))
      have e1 : ((spot : Int) + 1) = ((spot + 1 : Nat) : Int) := rfl
      rw [e1, cutD_from]
      refine o2_catT ?_ (ag_nil ⟨sz, ev_v 10 rfl (ev_v 4 rfl ⟨1, r1, i, _, rfl, rfl, rfl, hil, bl_nil ?_⟩)⟩)
      · rw [List.length_append, List.length_take, List.length_drop, dnats_length]
        exact szle (by simp; omega)
      refine bl_fz 1 10 rfl rfl (bl_cons (st_ret (ev_ownP (ok_law_walked Γ) (hr.mono (by decide)) Γ.law_walked.g Γ.law_walked.F.kp (bi_law_walked Γ) (ag_cons (ev_v 10 rfl (ag_nil ⟨⟨x.prt i spot one, R.ok, R.pos, x.tau one, R.ws, R.sl⟩, ?_, fun d hd => ⟨last d hd, sm2, rfl⟩⟩))))))
      rw [← eg]
      have e2 : dnats (cs.set spot (fresh own x.ns.length one)) = (dnats cs).take spot ++ [.int (fresh own x.ns.length one : Nat)] ++ (dnats cs).drop (spot + 1) := by
        rw [List.set_eq_take_append_cons_drop, if_pos hsl, dnats_take, dnats_drop]
        simp [dnats]
      show [D.lst (List.set _ i (.tup [.str "word", .str y, .tup _]))] = [D.lst (List.set _ i (.tup [.str "word", .str y, .tup (dnats (cs.set spot (fresh own x.ns.length one)))]))]
      rw [e2]
end
end K50
set_option maxRecDepth 100000
set_option maxHeartbeats 4000000
/-! K30: drawn graphs. -/
namespace K50
open PySem PySem.Spec PyProof.Rows L2 DL
theorem Sat.keep1 {K : PySem.W.Frag} {B0 : Hp} {F : List Addr} {H : Hp} {σ : L2.St} {Γ : Gam} {ts : List V} {τ : List D} {c : Addr × D} : ∀ {L : Cells}, Sat K B0 F H σ Γ ts τ (c :: L) → Sat K B0 F H σ Γ ts τ [c]
  | [], S => S
  | (a, d) :: L, S => Sat.keep1 (L := L) (S.freeze (k := 1) rfl).1
theorem ev_keep1 {X : Cx} {Γ : Gam} {L : Cells} {R : RD} {e : Expr} (h : EvX X e Γ L fun d L1 => ∃ c L2, L1 = c :: L2 ∧ R d [c]) : EvX X e Γ L R := .mk fun S q => h.run S fun v d H' L' ⟨c, L2, e, r⟩ S' => by
  subst e
  exact q v d H' [c] r (Sat.keep1 S')
structure StIn where
  a : Addr
  s : Int × Int × Int
/-- a graph of the law came out; the stream is there -/
def LgPost (x : StIn) (d : D) (L : Cells) : Prop := ∃ (y : LG) (s' : Int × Int × Int), d = nsL y.ns ∧ L = [(x.a, stmD s')]
section
variable {P : Program} {w : World} {K : PySem.W.Frag} {mg : Str → Option Value} {base : Heap}
theorem ok_law_web (Γ : Pg K mg) : FnOk P w K mg base CX0 8 Γ.law_web.f Γ.law_web.fd P_law_web (spD K (fun x : StIn => [.ref x.a]) (fun x => [(x.a, stmD x.s)]) LgPost) := by
  refine fn_ok Γ.law_web.F sc_law_web (fun _ => rfl) (by decide) (fun cdv A outer s H E hr ⟨a, s0⟩ => ?_)
  have nd := sc_law_web.nd
  refine bl_cons (st_set 1 nd (ev_lst (ag_nil ⟨sz, fun b => ?_⟩)))
  refine bl_cons (st_expr (ev_call (ok_law_grown Γ 4) hr Γ.law_grown.g Γ.law_grown.F.kp (bi_law_grown Γ) (ag_cons (ev_v 0 rfl (ag_cons (ev_v 1 rfl (ag_cons (ev_tupK (ag_nil ⟨sz, fun ob hk => ag_cons (ev_op op_add (ev_int (ev_call (ok_law_draw Γ) (hr.mono (by decide)) Γ.law_draw.g Γ.law_draw.F.kp (bi_law_draw Γ) (ag_cons (ev_v 0 rfl (ag_cons (ev_int (ag_nil ⟨⟨a, s0, 4, by decide, by decide⟩, [(b, .lst [])], rfl, .refl _, ?_⟩))))))))⟩)))))))))
  rintro d L' ⟨r, s1, hr4, rfl, rfl⟩
  have hr4 : r < 4 := hr4
  refine o2_add (ag_nil ⟨⟨⟨a, s1, b, [], ob, [], 1 + r, hk, .zero, by simp only [List.length_nil]; omega, by simp⟩, by show 1 + r ≤ 4; omega⟩, [], ?_, .refl _, ?_⟩)
  · have e1 : (1 : Int) + (r : Int) = ((1 + r : Nat) : Int) := by omega
    rw [e1]
    rfl
  rintro d L' ⟨r2, s2, rs, rfl, rfl, g, E0, _, hlen, h0⟩
  obtain ⟨n, hn, hv⟩ := h0 rfl rfl
  have hlen : rs.length ≤ max (0 + 1) (24 + 3 * (1 + r)) := hlen
  have g : GI (rws rs) [] := g
  have E0 : Ext [] (rws rs) := E0
  have hl48 : rs.length ≤ 48 := by omega
  have R := g.raw E0 (by rw [rws_len]; exact hl48) hn hv
  rw [List.append_nil]
  refine bl_cons (st_ret (ev_keep1 (ev_ownP (ok_law_walked Γ) (hr.mono (by decide)) Γ.law_walked.g Γ.law_walked.F.kp (bi_law_walked Γ) (ag_cons (ev_mapW [("_law_row", 2)] (fun r : GRow => .ref r.1) (fun r => (r.2.1.getD (.var 0)).d) rfl nd rfl (js := [2]) (by decide) (itx_listW (ev_v 1 rfl ⟨b, gRefs rs, rfl, by simp [gL, gCells], rs, rfl, szle (by omega), by simp [gL, gCells], fun r hr3 => ⟨fun s H C cl fp => tg_v 2 nd ⟨rfl, fun s H C cl fp => ?_⟩⟩, ag_nil ⟨⟨nodesOf (rws rs), R.ok, R.pos, around (rws rs), R.ws, R.sl⟩, ?_, fun d hd => ?_⟩⟩)))))))
  · obtain ⟨i, hi⟩ := List.mem_iff_getElem?.mp hr3
    have h1 := rws_of hi
    obtain ⟨m, st, h2⟩ := E0.new i (Nat.zero_le _) (List.getElem?_eq_some_iff.mp h1).1
    rw [h1] at h2
    refine ev_ix ix_list (ev_v 2 rfl (ev_int (o2_ixC (k := i + 2) (n := 0) (gL_row hi) rfl ⟨?_, rfl⟩)))
    rw [Option.some.inj h2]
    rfl
  · simp only [nsL, nodesOf, rws, List.map_map]
    rfl
  · obtain ⟨od, rfl, W⟩ := hd
    obtain ⟨y, ey, _⟩ := R.lg W
    exact ⟨(a, stmD s2), gCells b rs, rfl, y, s2, by rw [ey], rfl⟩
theorem ok_law_often (Γ : Pg K mg) : FnOk P w K mg base CX0 9 Γ.law_often.f Γ.law_often.fd P_law_often (spD K (fun x : StIn => [.ref x.a]) (fun x => [(x.a, stmD x.s)]) LgPost) := by
  refine fn_ok Γ.law_often.F sc_law_often (fun _ => rfl) (by decide) (fun cdv A outer s H E hr ⟨a, s0⟩ => ?_)
  have nd := sc_law_often.nd
  refine bl_cons (st_set 1 nd (ev_call (ok_law_web Γ) hr Γ.law_web.g Γ.law_web.F.kp (bi_law_web Γ) (ag_cons (ev_v 0 rfl (ag_nil ⟨⟨a, s0⟩, [], rfl, .refl _, ?_⟩)))))
  rintro d L' ⟨y, s1, rfl, rfl⟩
  refine bl_cons (st_for (js := [2]) rfl (itx_range1 Γ.b_range (ag_cons (ev_call (ok_law_pick Γ) (hr.mono (by decide)) Γ.law_pick.g Γ.law_pick.F.kp (bi_law_pick Γ) (ag_cons (ev_v 0 rfl (ag_cons (ev_lstF (ag_cons (ev_int (ag_cons (ev_int (ag_cons (ev_int (ag_cons (ev_int (ag_cons (ev_int (ag_nil ⟨sz, ag_nil ⟨⟨a, s1, [.int 0, .int 1, .int 2, .int 3, .int 4], false, by simp, by decide⟩, [], rfl, .refl _, ?_⟩⟩)))))))))))))))))))
  rintro d L' ⟨s2, hd, rfl⟩
  obtain ⟨k, hk, rfl⟩ : ∃ k : Nat, k ≤ 4 ∧ d = .int k := by
    simp only [List.mem_cons, List.not_mem_nil, or_false] at hd
    rcases hd with rfl | rfl | rfl | rfl | rfl
    · exact ⟨0, by omega, rfl⟩
    · exact ⟨1, by omega, rfl⟩
    · exact ⟨2, by omega, rfl⟩
    · exact ⟨3, by omega, rfl⟩
    · exact ⟨4, by omega, rfl⟩
  refine ag_nil ⟨k, rfl, by omega, fun i Γ' L' => ∃ (y : LG) (s' : Int × Int × Int) (o2 : Option D), Γ' = [some (.ref a), some (nsL y.ns), o2] ∧ L' = [(a, stmD s')], ⟨y, s2, none, rfl, rfl⟩, ?_, ?_⟩
  · rintro i d Γ' L' hd ⟨y, s3, o2, rfl, rfl⟩
    refine tg_v 2 nd (bl_cons (st_set 1 nd (ev_call (ok_law_parted Γ) (hr.mono (by decide)) Γ.law_parted.g Γ.law_parted.F.kp (bi_law_parted Γ) (ag_cons (ev_v 0 rfl (ag_cons (ev_v 1 rfl (ag_nil ⟨⟨a, s3, y⟩, [], rfl, .refl _, ?_⟩))))))))
    rintro d L' ⟨⟨z, rfl, _⟩, s4, rfl⟩
    exact bl_nil ⟨z, s4, some _, rfl, rfl⟩
  · rintro Γ' L' ⟨y, s3, o2, rfl, rfl⟩
    exact bl_cons (st_ret (ev_v 1 rfl ⟨y, s3, rfl, rfl⟩))
end
end K50
set_option maxRecDepth 100000
set_option maxHeartbeats 4000000
/-! DLT: next over a generator expression. -/
namespace DL
open PySem PySem.Spec PyProof.Rows L2
/-- the context of a generator's body -/
abbrev GB (X : Cx) (scope : Scope) (s : Shared) (H : Hp) (C : Addr) (code : Value) (A : Around) (fp : List Addr) : Cx :=
  { X with A := A, s_0 := s, H_0 := H, env := genEnv scope (cloFrom X.env.cells scope.names []) C code builtinsNs X.env, outer := X.stack, stack := genEnv scope (cloFrom X.env.cells scope.names []) C code builtinsNs X.env :: X.stack,
           ex := fp, fn := fun _ => false, pn := [], xe := fun _ _ => False }
/-- a generator expression's scope -/
structure GenK (scope : Scope) : Prop where
  kind : scope.kind = .function
  co : scope.isCoroutine = false
  cell : (scope.names.all fun y => y.2 != .cell) = true
  dot : scope.names.lookup (".0" : Str) = some NameKind.local
theorem GenK.cells {scope : Scope} (G : GenK scope) : ∀ y ∈ scope.names, y.2 ≠ .cell := fun y hy e => by
  have := List.all_eq_true.mp G.cell y hy
  rw [e] at this
  cases this
section
variable {X : Cx} {pins : List (Addr × Obj)} {σ : L2.St} {H : Hp} {s : Shared}
theorem gen_free {scope : Scope} {own : List (Str × Nat)} (I : Inv X pins σ H s) (ok : BlkOk X.N X.env.scope scope own) : ∀ y ∈ scope.names, y.2 = .free → ∃ c, X.env.cells.lookup y.1 = some c := fun y hy e => by
  rcases ok.free y hy e with k | k
  · exact I.ok.has _ (.inl k)
  · exact I.ok.has _ (.inr k)
theorem gen_start {scope : Scope} {own : List (Str × Nat)} {fp : List Addr} {code : Value} {A : Around} {s' : Shared} {m : Str → Option Value} (I : Inv X pins σ H s) (ok : BlkOk X.N X.env.scope scope own) (G : GenK scope) (hN : X.N.Nodup) (hfp : ∀ b ∈ fp, FpOk X pins H b ∧ b < s.heap.objs.size)
    (hc : X.calm = true) (hd : A.handled = none) (hfr : A.frames = some (genEnv scope (cloFrom X.env.cells scope.names []) s.heap.objs.size code builtinsNs X.env :: X.stack)) (kp : ∀ b o, s.heap.get? b = some o → s'.heap.get? b = some o) (ho : s'.os = s.os) (hb : AllBare s'.gens) (hn : s'.heap.Ns s.heap.objs.size m) :
    Inv (GB X scope s H s.heap.objs.size code A fp) [] (wipe σ (own.map (·.2))) H s' := by
  have cm : ∀ {y c}, (cloFrom X.env.cells scope.names []).lookup y = some c → X.env.cells.lookup y = some c ∧ c < s.heap.objs.size ∧ scope.names.lookup y = some .free := fun {y c} hm => by
    rcases cloFrom_mem (PySem.mem_of_lookup hm) with hm | ⟨h1, rfl⟩
    · cases hm
    · obtain ⟨c, hc⟩ := gen_free I ok _ h1 rfl
      rw [hc]
      obtain ⟨w, z⟩ := I.cell _ _ hc
      exact ⟨rfl, z.lt, ok.uniq _ h1⟩
  have look : ∀ {y}, scope.names.lookup y = some .free → ∃ c, (cloFrom X.env.cells scope.names []).lookup y = some c ∧ X.env.cells.lookup y = some c := fun {y} hl => by
    have hy : (y, NameKind.free) ∈ scope.names := PySem.mem_of_lookup hl
    obtain ⟨c', e'⟩ := mem_lookup (cloFrom_has (cells := X.env.cells) (acc := []) hy)
    exact ⟨c', e', (cm e').1⟩
  have okB : (GB X scope s H s.heap.objs.size code A fp).Ok := by
    refine ⟨I.ok.mod, ok.kind, I.ok.glob, rfl, Nat.le_refl _, fun y z c e1 e2 => I.ok.inj y z c (cm e1).1 (cm e2).1, fun y hy => ?_, fun y c z e => ?_, fun _ => hd, hfr, .inr ⟨rfl, rfl⟩, fun b hb => ⟨Nat.ne_of_lt (hfp b hb).2, fun y c e z => ?_⟩,
      I.bs, Nat.le_trans I.ok.bsz I.sz, fun b o e hb => ?_, fun b hb z => ?_, I.stack, I.stkFree⟩
    · rcases hy with hy | hy
      · have hy : scope.names.lookup y = some .cell := hy
        exact absurd rfl (G.cells _ (PySem.mem_of_lookup hy))
      · obtain ⟨c, h1, _⟩ := look (show scope.names.lookup y = some .free from hy)
        exact ⟨c, h1⟩
    · cases z
    · exact (hfp b hb).1.2.2.2.2.1 y c (cm e).1 z
    · rcases (hfp b hb).1.2.2.2.1 with z | z
      · exact I.ok.noex b o e z
      · exact absurd (Nat.lt_of_lt_of_le (Heap.lt_size e) (Nat.le_trans I.ok.bsz z)) (Nat.lt_irrefl _)
    · rcases List.mem_cons.mp (I.stkSub b z) with z | z
      · exact (hfp b hb).1.2.1 z
      · exact (hfp b hb).1.2.2.1 z
  refine ⟨okB, ho, hb, Un.kept kp, ⟨m, hn, fun i y av e1 e2 e3 => ?_⟩, fun y c e => ?_, I.hok.fresh (Nat.le_refl _), fun y c e => I.freeC y c (cm e).1, fun p hp => ?_, I.hok.kept kp, by rw [wipe_length]; exact I.len⟩
  · obtain ⟨e2, hne⟩ := wipe_some e2
    have no : ∀ k, scope.names.lookup y = some k → ¬ (k = .local ∨ k = .cell) := fun k hk hh => by
      rcases ok.own _ (PySem.mem_of_lookup hk) hh with e' | e'
      · obtain ⟨p, hp, hpy⟩ := List.mem_map.mp e'
        have e3 := ok.ix p hp
        have : p.1 = y := hpy
        rw [this] at e3
        exact hne (List.mem_map.mpr ⟨p, hp, nodup_ix hN e3 e1⟩)
      · exact e' (List.mem_of_getElem? e1)
    have hfr : scope.names.lookup y = some .free := by
      have e3 : Vis scope y := e3
      rcases e3 with e3 | e3 | e3
      · exact absurd (.inl rfl) (no _ e3)
      · exact absurd (.inr rfl) (no _ e3)
      · exact e3
    obtain ⟨m0, hn0, hl⟩ := I.loc
    have hvis : Vis X.env.scope y := (ok.free _ (PySem.mem_of_lookup hfr) rfl).elim (fun k => .inr (.inl k)) (fun k => .inr (.inr k))
    obtain ⟨w, r, q⟩ := hl i y av e1 e2 hvis
    refine ⟨w, r, .inr ⟨.inr hfr, ?_⟩⟩
    obtain ⟨c, h1, h2⟩ := look hfr
    rcases q with ⟨k, _⟩ | ⟨_, c', e', z⟩
    · have k : X.env.scope.names.lookup y = some .local := k
      rcases ok.free _ (PySem.mem_of_lookup hfr) rfl with k' | k' <;> rw [show X.env.scope.names.lookup y = _ from k'] at k <;> cases k
    · rw [h2] at e'; cases e'
      exact ⟨c, h1, z.keeps kp⟩
  · obtain ⟨w, z⟩ := I.cell y c (cm e).1
    exact ⟨w, z.keeps kp⟩
  · exact absurd (show p ∈ ([] : List (Addr × Obj)) ++ [] from hp) (by simp)
end
section
variable {Xg : Cx} {A : Around} {R : GenEnd} {Y : Protocol} {s₀ : Shared} {elt tg iter : Expr} {ifs : List Expr} {scope : Scope} {gpos : Pos} {it : Addr} {fp : List Addr} {tn : Nat → Heap → Prop} {J : It} {g : TG} {tt : TT} {te : TE} {vs : List Nat} {σ0 : L2.St} {W : Nat → Nat → Hp → Prop} {Q : VK}
/-- the generator's loop, up to its first item -/
theorem seg_nx (hA : Xg.A = A.over (.compLoop (.GeneratorExp elt [⟨tg, iter, ifs, 0⟩] scope gpos) 0 (.ref it) .none Xg.env) []) (hc : Xg.calm = true) (hxe : Xg.xe = fun _ _ => False) (hex : ∀ b ∈ fp, b ∈ Xg.ex) (hpn : Xg.pn = []) (hco : Xg.env.scope.isCoroutine = false)
    (T : Turn Xg.prog Xg.w Xg.K tg J fp it tn) (pg : PG Xg tg g) (pt : PTs Xg ifs tt) (pe : PE Xg elt te)
    (turn : ∀ i m H, W i m H → (J.stop i H ∧ Q .non H) ∨ (J.go i H ∧ ∀ x H', J.yld i H x H' → g x σ0 H' fun σ2 H2 => wipe σ2 vs = σ0 ∧ tt σ2 H2 fun b H3 => if b = true then te σ2 H3 Q else ∃ m', m' < m ∧ W (i + 1) m' H3))
    (hR : ∀ σ' H' s', Inv Xg [] σ' H' s' → Q .non H' → R 1 s₀ (.ok .next) s') (hY : ∀ pl σ' H' s' y v kap, Inv Xg pl σ' H' s' → RelV y v → Q y H' → Y 0 s₀ v s' kap) :
    ∀ (m i : Nat) (H : Hp) (s : Shared), Inv Xg [] σ0 H s → tn i s.heap → (∀ b ∈ fp, H b = none) → W i m H →
      Seg (model Xg.prog Xg.w) A R Y 1 s₀ (.compLoop (.GeneratorExp elt [⟨tg, iter, ifs, 0⟩] scope gpos) 0 (.ref it) .none Xg.env) ((model Xg.prog Xg.w).den (.compLoop (.GeneratorExp elt [⟨tg, iter, ifs, 0⟩] scope gpos) 0 (.ref it) .none Xg.env)) [] s := by
  have stat : ∀ {σ' : L2.St} {H' : Hp} {s' : Shared}, Inv Xg [] σ' H' s' → (∀ b ∈ fp, H' b = none) → ∀ b ∈ fp, FpOk Xg [] H' b := fun {σ' H' s'} I' hn b hb =>
    ⟨hn b hb, (I'.ok.exf b (hex b hb)).1, I'.ok.exfs b (hex b hb), .inl (hex b hb), fun x c e => (I'.ok.exf b (hex b hb)).2 x c e, fun p hp => by rw [hpn] at hp; cases hp⟩
  intro m
  induction m using Nat.strongRecOn with
  | ind m ih =>
    intro i H s I st hn w
    show Seg _ A _ _ _ s₀ _ ((compTurn (.GeneratorExp elt [⟨tg, iter, ifs, 0⟩] scope gpos) 0 (.ref it) .none Xg.env).onRaise (leaving Xg.env)) [] s
    rw [compTurn_gen, Sem.onRaise_eq_wrap]
    refine seg_bind_wrap (wpAny_standAt ?_)
    rcases turn i m H w with ⟨stop, qq⟩ | ⟨go, step⟩
    · refine seg_bind_wrap ?_
      rw [← hA]
      refine wpAny_mono (T.done Xg rfl rfl rfl hc i [] s _ H (fun _ _ => False) I (stat I hn) st stop) (fun r s1 ⟨hr, I1⟩ => ?_) fun _ _ z => False.elim z
      subst hr
      exact seg_end (.ok .next) (hR _ _ _ I1 qq)
    · refine seg_bind_wrap ?_
      rw [← hA]
      refine wpAny_mono (T.item Xg rfl rfl rfl hc i [] s _ H (fun _ _ => False) I (stat I hn) st go) (fun r s1 ⟨u, hr, h1⟩ => ?_) fun _ _ z => False.elim z
      subst hr
      refine seg_bind_wrap ?_
      rw [← hA]
      refine wpAny_mono h1 (fun _ s2 ⟨x, H2, I2, r2, y2, st2, n2⟩ => ?_) fun _ _ z => False.elim z
      have I2' := I2.pinned (stat I2 n2) (T.obj _ _ st2)
      have xe : ∀ {α : Type} {t : Sem α} {Q1 : α → Shared → Prop} {E : Value → Shared → Prop} {s : Shared}, wpAny (model Xg.prog Xg.w) Xg.A t Q1 Xg.xe s → wpAny (model Xg.prog Xg.w) Xg.A t Q1 E s := fun h => wpAny_mono h (fun _ _ z => z) fun _ _ z => by rw [hxe] at z; exact False.elim z
      refine seg_bind_wrap ?_
      rw [← hA]
      refine xe (thn (pg.run _ s2 _ H2 x u _ I2' r2 (step x H2 y2)) fun _ s3 ⟨σ3, H3, I3, hw3, q3⟩ => ?_)
      refine seg_bind_wrap ?_
      rw [← hA]
      refine xe (thn (pt.run _ s3 σ3 H3 _ I3 q3) fun b s4 ⟨H4, I4, q4⟩ => ?_)
      cases b with
      | false =>
        simp only [Bool.false_eq_true, if_false] at q4 ⊢
        obtain ⟨m', hm, w'⟩ := q4
        have pin' : ∀ b ∈ fp, ∀ o, s2.heap.get? b = some o → s4.heap.get? b = some o ∧ H4 b = none := fun b hb o e =>
          let z := I4.pin (b, o) (List.mem_append_right _ (List.mem_append_right _ (mem_pinsAt hb e)))
          ⟨z.1, z.2.1⟩
        have hl : σ0.length = σ3.length := by rw [← hw3, wipe_length]
        refine seg_again rfl (ih m' hm (i + 1) H4 s4 ((I4.unpinned (pins := [])).weak hl fun j v e => ?_) (T.keep _ _ _ st2 fun b hb o e => (pin' b hb o e).1) (fun b hb => ?_) w')
        · rw [← hw3] at e
          exact (wipe_some e).1
        · obtain ⟨o, e, _⟩ := T.obj _ _ st2 b hb
          exact (pin' b hb o e).2
      | true =>
        simp only [if_true] at q4 ⊢
        have hy : ∀ v, yieldOut Xg.env v = yieldValue v := fun v => by simp only [yieldOut, hco, Bool.false_eq_true, if_false]
        simp only [hy]
        rw [Sem.bind_eq_wrap', Sem.bind_eq_wrap', Sem.wrap_wrap, Sem.wrap_wrap]
        refine seg_wrap ?_
        rw [← hA]
        refine xe (thn (pe.run _ s4 σ3 H4 _ I4 q4) fun z s5 ⟨yv, H5, I5, r5, q5⟩ => ?_)
        exact seg_at (seg_yield rfl rfl rfl (hY _ _ _ _ _ _ _ I5 r5 q5))
theorem seg_nx0 (hA : Xg.A = A.over (.compLoop (.GeneratorExp elt [⟨tg, iter, ifs, 0⟩] scope gpos) 0 (.ref it) .none Xg.env) []) (hc : Xg.calm = true) (hxe : Xg.xe = fun _ _ => False) (hex : ∀ b ∈ fp, b ∈ Xg.ex) (hpn : Xg.pn = []) (hco : Xg.env.scope.isCoroutine = false)
    (T : Turn Xg.prog Xg.w Xg.K tg J fp it tn) (pg : PG Xg tg g) (pt : PTs Xg ifs tt) (pe : PE Xg elt te)
    (turn : ∀ i m H, W i m H → (J.stop i H ∧ Q .non H) ∨ (J.go i H ∧ ∀ x H', J.yld i H x H' → g x σ0 H' fun σ2 H2 => wipe σ2 vs = σ0 ∧ tt σ2 H2 fun b H3 => if b = true then te σ2 H3 Q else ∃ m', m' < m ∧ W (i + 1) m' H3))
    (hR : ∀ σ' H' s', Inv Xg [] σ' H' s' → Q .non H' → R 1 s₀ (.ok .next) s') (hY : ∀ pl σ' H' s' y v kap, Inv Xg pl σ' H' s' → RelV y v → Q y H' → Y 0 s₀ v s' kap)
    {m : Nat} {H : Hp} {s : Shared} (I : Inv Xg [] σ0 H s) (st : tn 0 s.heap) (hn : ∀ b ∈ fp, H b = none) (w : W 0 m H) :
      Seg (model Xg.prog Xg.w) A R Y 1 s₀ (.compStart (.GeneratorExp elt [⟨tg, iter, ifs, 0⟩] scope gpos) 0 (.ref it) .none Xg.env) ((model Xg.prog Xg.w).den (.compStart (.GeneratorExp elt [⟨tg, iter, ifs, 0⟩] scope gpos) 0 (.ref it) .none Xg.env)) [] s := by
  have loop := seg_nx hA hc hxe hex hpn hco T pg pt pe turn hR hY m 0 H s I st hn w
  show Seg _ A _ _ _ s₀ _ ((compStart (.GeneratorExp elt [⟨tg, iter, ifs, 0⟩] scope gpos) 0 (.ref it) .none Xg.env).onRaise (leaving Xg.env)) [] s
  unfold compStart
  rw [Sem.onRaise_eq_wrap]
  show Seg _ A _ _ _ s₀ _ ((ask >>= _).wrap _ _ _ _) [] s
  refine seg_bind_wrap (wpAny_askSetting ?_)
  split
  · exact seg_again rfl loop
  · first
      | exact seg_bind_wrap (wpAny_rule (seg_bind_wrap (wpAny_standAt (seg_bind_wrap (T.self _ 0 s _ _ st (seg_again rfl loop))))))
      | (refine seg_bind_wrap (wpAny_rule ?_); show Seg _ A _ _ _ s₀ _ ((standAt iter.pos >>= _).wrap _ _ _ _) [] s; exact seg_bind_wrap (wpAny_standAt (seg_bind_wrap (T.self _ 0 s _ _ st (seg_again rfl loop)))))
end
/-- next((elt for tg in iter if ..), None); the table at P may grow -/
def tNxt (P : Addr) (wi : TI) (g : TG) (tt : TT) (te : TE) (vs : List Nat) : TE := fun σ H Q =>
  wi σ H fun J H1 => ∃ ps : Array Value, H1 P = some (.tbl ps) ∧ TriplesOk ps.toList ∧ ∀ ps' : Array Value, TriplesOk ps'.toList → ∃ W : Nat → Nat → Hp → Prop, (∃ m, W 0 m (upd H1 P (.tbl ps'))) ∧ ∀ i m H, W i m H →
    (J.stop i H ∧ Q .non H) ∨ (J.go i H ∧ ∀ x H', J.yld i H x H' → g x (wipe σ vs) H' fun σ2 H2 => wipe σ2 vs = wipe σ vs ∧ tt σ2 H2 fun b H3 => if b = true then te σ2 H3 Q else ∃ m', m' < m ∧ W (i + 1) m' H3)
section
variable {X : Cx}
theorem room_over {k : Nat} {A : Around} {c : Code} (r : Room (k + 1) A) (h0 : c.envs.length ≤ 1) (hw : c.weight ≤ 1) (hu : c.cUnits ≤ 3) : Room k (A.in1.in1.over c []) := by
  refine ⟨r.hd, ?_, ?_⟩
  · have := r.dp
    show A.depth + frameCount [] + c.weight + 3 * k + 5 < _
    have e : frameCount [] = 0 := rfl
    omega
  · have := r.un
    show A.units + 1 + 1 + unitsOf [] + c.cUnits + 16 * k + 200 < _
    have e : unitsOf [] = 0 := rfl
    omega
theorem pe_next2 {c P : Addr} {elt tg iter : Expr} {ifs : List Expr} {p pos gpos cpos : Pos} {scope : Scope} {own : List (Str × Nat)} {j k : Nat} {wi : TI} {g : TG} {tt : TT} {te : TE}
    (hc : X.calm = true) (hN : X.N.Nodup) (hr : Room (k + 1) X.A) (hgl : Gl X "next") (hm : X.mg "next" = none) (TB : GxR.TabB X.base X.mg c P) (hcode : X.env.code = .ref c) (G : GenK scope) (ok : BlkOk X.N X.env.scope scope own) (hi : PI X tg iter wi)
    (hg : ∀ s H C code A fp, Room k A → PG (GB X scope s H C code A fp) tg g) (ht : ∀ s H C code A fp, Room k A → PTs (GB X scope s H C code A fp) ifs tt) (he : ∀ s H C code A fp, Room k A → PE (GB X scope s H C code A fp) elt te)
    (hs : ∀ v, genFold iter X.env v = pure v)
    (hst : starEach [.GeneratorExp elt [⟨tg, iter, ifs, 0⟩] scope gpos, .Constant .none j cpos] X.env = (false, eval (.GeneratorExp elt [⟨tg, iter, ifs, 0⟩] scope gpos) X.env) :: starEach [.Constant .none j cpos] X.env := by rfl)
    (hst2 : backTo pos (starEach [.Constant .none j cpos] X.env) = [(false, eval (.Constant .none j cpos) X.env)] := by rfl) :
    PE X (.Call (.Name "next" p) [.GeneratorExp elt [⟨tg, iter, ifs, 0⟩] scope gpos, .Constant .none j cpos] [] pos) (tNxt P wi g tt te (own.map (·.2))) := by
  refine ⟨fun pins s σ H Q I h => ?_⟩
  refine wpAny_Call_Name_kw (ld_blt I hgl hm boot_next ?_)
  refine PyProof.Rows.callWith_builtin1 ?_ hst (by rw [hst2]; rfl)
  rw [hst]
  show wpAny _ _ (spliced ((false, eval (.GeneratorExp elt [⟨tg, iter, ifs, 0⟩] scope gpos) X.env) :: backTo pos (starEach [.Constant .none j cpos] X.env))) _ _ s
  rw [hst2]
  refine Calls.spliced_cons ?_
  refine wpAny_GeneratorExp_make G.co (closure_ok (gen_free I ok)) G.cells G.dot G.kind (by have := hr.dp; omega) ?_ hs
  refine thn (hi.run pins s σ H _ I h) fun xv s1 hx => thn hx fun itv s2 h2 => ?_
  obtain ⟨it, fp, tn, J, H2, e, I2, T, st2, f2, ps, hP, htr, q⟩ := h2
  subst e
  refine ⟨I2.nolimit, ?_⟩
  have hPs : s2.heap.get? P = some { cls := .none, data := .fields ps } := I2.hok P _ hP
  have cd : PySem.W.CodeHd s2.heap c P := TB.code.keeps fun b u e => I2.bk b u e
  have cont : ∀ (code : Value) (h3 : Heap) (tk : Nat) (ps' : Array Value), Heap.ExtBut P s2.heap h3 → s2.heap.objs.size ≤ h3.objs.size → h3.get? P = some { cls := .none, data := .fields ps' } → (∃ more, ps' = ps ++ more) → TriplesOk ps'.toList →
      wpAny (model X.prog X.w) X.A (builtinsFor X.env.globals X.env.builtins) (fun bi s₄ =>
        ∀ h', h'.Ns s₄.heap.objs.size (fun y => if y = ".0" then some (.ref it) else none) → Heap.SameBut s₄.heap.objs.size (s₄.heap.push { cls := .type "frame", data := .dict #[] }) h' →
          wpAny (model X.prog X.w) X.A (spliced [(false, eval (.Constant .none j cpos) X.env)]) (fun vs s5 => wpAny (model X.prog X.w) X.A (call (.builtin "next") (.ref h'.objs.size :: vs)) (EP X pins σ Q) X.xe s5) X.xe { s₄ with
            gens := s₄.gens.push (.fresh (.compStart (.GeneratorExp elt [⟨tg, iter, ifs, 0⟩] scope gpos) 0 (.ref it) .none (genEnv scope (cloFrom X.env.cells scope.names []) s₄.heap.objs.size code bi X.env))),
            toks := s₄.toks + 1 + 1 + 1,
            heap := h'.push { cls := .type "generator", data := .fields #[.int s₄.gens.size 0, .str "<genexpr>" (s₄.toks + 1), .str (X.env.qual ++ "<genexpr>") (s₄.toks + 1 + 1)] } }) X.xe { s2 with heap := h3, toks := tk } := by
    intro code h3 tk ps' hx hsz hP3 hmore ht3
    obtain ⟨bm, ob, e1, e2, e3, e4, e5, e6, e7, e8⟩ := TB.bm
    obtain ⟨more, em⟩ := hmore
    have keep3 : ∀ b u, b ≠ P → s2.heap.get? b = some u → h3.get? b = some u := fun b u hb e => hx b u hb e
    refine wpAny_builtinsFor (m := X.mg) (by rw [I2.ok.glob]; exact (I2.mod.glob.keeps I2.bk).extBut hx TB.gP) e1 e2 (keep3 _ _ e4 (I2.bk _ _ e5)) e6 e7 e8 ?_
    have I3 : Inv X pins σ (upd H2 P (.tbl ps')) { s2 with heap := h3, toks := tk } := by
      rw [em]
      exact GxR.inv_tab (more := more) (g' := s2.gens) (d' := s2.drawn) I2 hP (fun b u hb e => keep3 b u hb e) (by rw [← em]; exact hP3) I2.bare
    intro h' hn' hs'
    generalize hs3 : ({ s2 with heap := h3, toks := tk } : Shared) = s3 at I3 ⊢
    have h3e : s3.heap = h3 := by rw [← hs3]
    rw [← h3e] at hn' hs'
    have fpP : ∀ b ∈ fp, b ≠ P := fun b hb z => by
      have z1 := (f2 b hb).1
      rw [z, hP] at z1; cases z1
    have st3 : tn 0 s3.heap := T.keep _ _ _ st2 fun b hb o e => by rw [h3e]; exact keep3 b o (fpP b hb) e
    have f3 : ∀ b ∈ fp, FpOk X pins (upd H2 P (.tbl ps')) b ∧ b < s3.heap.objs.size := fun b hb => by
      refine ⟨⟨?_, (f2 b hb).2⟩, ?_⟩
      · rw [upd_ne (fpP b hb)]; exact (f2 b hb).1
      · obtain ⟨o, e, _⟩ := T.obj _ _ st3 b hb
        exact Heap.lt_size e
    obtain ⟨W, ⟨m0, w0⟩, turn⟩ := q ps' ht3
    generalize hH3 : upd H2 P (.tbl ps') = H3 at I3 f3 w0
    have szh : h'.objs.size = s3.heap.objs.size + 1 := by rw [hs'.1, Heap.size_push]
    have keep' : ∀ b o, s3.heap.get? b = some o → h'.get? b = some o := fun b o e => hs'.extBut b o (Nat.ne_of_lt (Heap.lt_size e)) (Heap.get?_push_of_some _ e)
    generalize hcode9 : genEnv scope (cloFrom X.env.cells scope.names []) s3.heap.objs.size code builtinsNs X.env = cenv
    generalize hs5 : ({ s3 with
            gens := s3.gens.push (.fresh (.compStart (.GeneratorExp elt [⟨tg, iter, ifs, 0⟩] scope gpos) 0 (.ref it) .none cenv)),
            toks := s3.toks + 1 + 1 + 1,
            heap := h'.push { cls := .type "generator", data := .fields #[.int s3.gens.size 0, .str "<genexpr>" (s3.toks + 1), .str (X.env.qual ++ "<genexpr>") (s3.toks + 1 + 1)] } } : Shared) = s5
    have keep5 : ∀ b o, s3.heap.get? b = some o → s5.heap.get? b = some o := fun b o e => by rw [← hs5]; exact Heap.get?_push_of_some _ (keep' b o e)
    have hgen : s5.heap.IsGen h'.objs.size s3.gens.size := by rw [← hs5]; exact ⟨_, _, _, Heap.get?_push_size _ rfl, rfl, rfl, rfl⟩
    have hgs : s5.gens[s3.gens.size]? = some (.fresh (.compStart (.GeneratorExp elt [⟨tg, iter, ifs, 0⟩] scope gpos) 0 (.ref it) .none cenv)) := by rw [← hs5]; exact Array.getElem?_push_size ..
    have hb5 : AllBare s5.gens := by rw [← hs5]; exact I3.bare.push rfl
    have ho5 : s5.os = s3.os := by rw [← hs5]
    have hn5 : s5.heap.Ns s3.heap.objs.size (fun y => if y = ".0" then some (.ref it) else none) := by rw [← hs5]; exact hn'.push _
    refine Calls.spliced_cons (PyProof.Rows.Constant_none (Calls.spliced_nil ?_))
    refine Calls.call_function_entry (by decide +kernel) (by decide +kernel) PySem.W.kdk_entry_next (PySem.W.kdk_args_next2 _ _) ?_
    unfold Builtin.«next»
    refine wpAny_bind (m := someArgs "next" 1 2 _) (wpAny_of_eq (a := [Value.ref h'.objs.size, .none]) (by first | rfl | kernel_rfl!) ?_)
    dsimp only
    refine wpAny_bind (wpAny_specialOf (name := Str.ofString "__next__") hgen.typeIs slot_gen_next.lookup ?_)
    refine wpAny_ite_split (fun hab => absurd hab (by decide)) (fun _ => ?_)
    have roomL : Room k (X.A.in1.in1.over (.compLoop (.GeneratorExp elt [⟨tg, iter, ifs, 0⟩] scope gpos) 0 (.ref it) .none cenv) []) := room_over hr (by first | exact Nat.le_refl _ | decide) (by first | exact Nat.le_refl _ | decide) (by first | exact Nat.le_refl _ | decide)
    have hcL : cenv.locals = s3.heap.objs.size := by rw [← hcode9]; rfl
    have IG : Inv (GB X scope s3 H3 s3.heap.objs.size code (X.A.in1.in1.over (.compLoop (.GeneratorExp elt [⟨tg, iter, ifs, 0⟩] scope gpos) 0 (.ref it) .none cenv) []) fp) [] (wipe σ (own.map (·.2))) H3 (s5.setGen s3.gens.size .running) := by
      refine gen_start I3 ok G hN f3 hc roomL.hd ?_ keep5 ho5 (allBare_setGen hb5 rfl) hn5
      rw [hcode9]
      show pushEnvs [cenv] (pushEnvs (envsOf []) X.A.frames) = _
      rw [I3.ok.frames]
      rfl
    have back : ∀ {pl : List (Addr × Obj)} {σ' : L2.St} {H' : Hp} {s6 : Shared}, Inv (GB X scope s3 H3 s3.heap.objs.size code (X.A.in1.in1.over (.compLoop (.GeneratorExp elt [⟨tg, iter, ifs, 0⟩] scope gpos) 0 (.ref it) .none cenv) []) fp) pl σ' H' s6 →
        ∀ s7 : Shared, s7.heap = s6.heap → s7.os = s6.os → AllBare s7.gens → Inv X pins σ H' s7 := fun {pl σ' H' s6} I6 s7 eh eo eb =>
      I3.call' (ch := fp) (eo.trans I6.os) (by rw [eh]; exact I6.base) (by rw [eh]; exact I6.hok) eb fun b hb => ⟨(f3 b hb).1.2.2.2.1, (f3 b hb).1.2.1, (f3 b hb).1.2.2.2.2.1, (f3 b hb).1.2.2.2.2.2⟩
    refine wpAny_bind (wpAny_pyNext_genexpQ (n := 1) (gs := .fresh (.compStart (.GeneratorExp elt [⟨tg, iter, ifs, 0⟩] scope gpos) 0 (.ref it) .none cenv))
      (P := fun _ _ s1 => ∃ σ' H', Inv (GB X scope s3 H3 s3.heap.objs.size code (X.A.in1.in1.over (.compLoop (.GeneratorExp elt [⟨tg, iter, ifs, 0⟩] scope gpos) 0 (.ref it) .none cenv) []) fp) [] σ' H' s1 ∧ Q .non H')
      (Y := fun _ _ v s1 _ => ∃ pl σ' H' y, Inv (GB X scope s3 H3 s3.heap.objs.size code (X.A.in1.in1.over (.compLoop (.GeneratorExp elt [⟨tg, iter, ifs, 0⟩] scope gpos) 0 (.ref it) .none cenv) []) fp) pl σ' H' s1 ∧ RelV y v ∧ Q y H')
      hr.hd ?_ (by have := hr.dp; show X.A.depth < _; omega) hgen hgs ⟨rfl, ?_⟩ (fun v s6 gs' hbr hv => ?_) (fun s6 hp h6 hk6 => ?_))
    · exact I3.nolimit.keeps keep5
    · have sg := seg_nx0 (Xg := GB X scope s3 H3 s3.heap.objs.size code (X.A.in1.in1.over (.compLoop (.GeneratorExp elt [⟨tg, iter, ifs, 0⟩] scope gpos) 0 (.ref it) .none cenv) []) fp) (A := X.A.in1.in1) (s₀ := s5.setGen s3.gens.size .running)
        (R := fun n s₀ r s₁ => r = .ok .next ∧ ∃ σ' H', Inv (GB X scope s3 H3 s3.heap.objs.size code (X.A.in1.in1.over (.compLoop (.GeneratorExp elt [⟨tg, iter, ifs, 0⟩] scope gpos) 0 (.ref it) .none cenv) []) fp) [] σ' H' s₁ ∧ Q .non H')
        (Y := fun _ _ v s1 _ => ∃ pl σ' H' y, Inv (GB X scope s3 H3 s3.heap.objs.size code (X.A.in1.in1.over (.compLoop (.GeneratorExp elt [⟨tg, iter, ifs, 0⟩] scope gpos) 0 (.ref it) .none cenv) []) fp) pl σ' H' s1 ∧ RelV y v ∧ Q y H')
        (by subst hcode9; rfl) hc rfl (fun b hb => hb) rfl G.co T (hg _ _ _ _ _ _ roomL) (ht _ _ _ _ _ _ roomL) (he _ _ _ _ _ _ roomL) turn (fun σ' H' s' I' q' => ⟨rfl, σ', H', I', q'⟩) (fun pl σ' H' s' y v kap I' r' q' => ⟨pl, σ', H', y, I', r', q'⟩)
        IG (T.keep _ _ _ st3 fun b _ o e => keep5 b o e) (fun b hb => (f3 b hb).1.1) w0
      subst hcode9
      exact sg
    · obtain ⟨pl, σ', H', y, I6, r6, q6⟩ := hv
      refine wpAny_pure ⟨v, rfl, y, H', back I6 _ rfl rfl (allBare_setGen I6.bare hbr), r6, q6⟩
    · obtain ⟨σ', H', I6, q6⟩ := hp
      refine wpAny_pure ⟨.none, rfl, .non, H', ?_, rfl, q6⟩
      exact (back I6 (s6.setGen s3.gens.size .finished) rfl rfl (allBare_setGen I6.bare rfl)).kept (t' := (s6.setGen s3.gens.size .finished).toks) hk6
  cases hf : codeAmong gpos ps.toList with
  | none =>
    refine wpAny_genexprCodeX hcode (cd.code hPs htr) (cd.tab hPs) hf fun c' h' tk hx hge hlt hco' _ htab' _ => ?_
    obtain ⟨o1, vs, f1, tf, fl, tg, inF, tx, tt, op, _, _, _, _, _, _, _, _, _, htr', _⟩ := hco'
    exact cont _ h' tk _ hx (Nat.le_trans hge (Nat.le_of_lt hlt)) htab'.2 ⟨_, rfl⟩ htr'
  | some cv =>
    refine wpAny_genexprCode_hit hcode (cd.code hPs htr) hf ?_
    exact cont cv s2.heap s2.toks ps (Heap.ExtBut.refl _ _) (Nat.le_refl _) hPs ⟨#[], by simp⟩ htr
end
/-- a code table -/
def tbD (ps : Array Value) : D := .raw (fun _ _ => .tbl ps) []
section
variable {X : Cx} {Γ : Gam} {L : Cells} {R : RD}
/-- an item's turn -/
def ItmN (X : Cx) (tg elt t : Expr) (scope : Scope) (js vs : List Nat) (Γ : Gam) (L : Cells) (k : Nat) (d : D) (cc : Bool) : Prop :=
  ∀ s H C code A fp, Room k A → TgX (GB X scope s H C code A fp) tg js d (wipeG Γ vs) L fun Γ2 L2 => L2 = L ∧ ∀ s H C code A fp, Room k A → TeX (GB X scope s H C code A fp) t Γ2 L fun b L' => b = cc ∧ L' = L ∧ (b = true → ∀ s H C code A fp, Room k A → EvX (GB X scope s H C code A fp) elt Γ2 L fun d' L' => d' = d ∧ L' = L)
theorem ev_next2 {α : Type} {c P : Addr} {elt tg iter t : Expr} {p pos gpos cpos : Pos} {scope : Scope} {js : List Nat} {j k kP : Nat} (own : List (Str × Nat)) (φ : α → D) (cc : α → Bool)
    (hc : X.calm = true) (hN : X.N.Nodup) (hr : Room (k + 1) X.A) (hm : X.mg "next" = none) (TB : GxR.TabB X.base X.mg c P) (hcode : X.env.code = .ref c) (G : GenK scope) (ok : blkC X.N X.env.scope scope own = true) (hjs : ∀ j ∈ js, j ∈ own.map (·.2))
    (h : IterW X tg iter Γ L fun a cs ds L1 => ∃ l : List α, ds = l.map φ ∧ (a, D.lst cs) ∈ L1 ∧ ∃ ps : Array Value, L1[kP]? = some (P, tbD ps) ∧ TriplesOk ps.toList ∧ ∀ ps' : Array Value, TriplesOk ps'.toList →
      (∀ x ∈ l, ItmN X tg elt t scope js (own.map (·.2)) Γ (L1.set kP (P, tbD ps')) k (φ x) (cc x)) ∧ R ((l.find? cc).elim .non φ) (L1.set kP (P, tbD ps')))
    (hgl : Gl X "next" := by rfl) (hs : ∀ v, genFold iter X.env v = pure v := by intro _; rfl)
    (hst : starEach [.GeneratorExp elt [⟨tg, iter, [t], 0⟩] scope gpos, .Constant .none j cpos] X.env = (false, eval (.GeneratorExp elt [⟨tg, iter, [t], 0⟩] scope gpos) X.env) :: starEach [.Constant .none j cpos] X.env := by rfl)
    (hst2 : backTo pos (starEach [.Constant .none j cpos] X.env) = [(false, eval (.Constant .none j cpos) X.env)] := by rfl) :
    EvX X (.Call (.Name "next" p) [.GeneratorExp elt [⟨tg, iter, [t], 0⟩] scope gpos, .Constant .none j cpos] [] pos) Γ L R := .mk fun {B0 F H σ ts τ Q} S q =>
  we_of (pe_next2 (g := fun v σ H Q => ∀ s H0 C code A fp, Room k A → WG (GB X scope s H0 C code A fp) tg v σ H Q) (tt := fun σ H Q => ∀ s H0 C code A fp, Room k A → WT (GB X scope s H0 C code A fp) t σ H Q) (te := fun σ H Q => ∀ s H0 C code A fp, Room k A → WE (GB X scope s H0 C code A fp) elt σ H Q)
    hc hN hr hgl hm TB hcode G (blkOk_by ok) pi_w
    (fun s H C code A fp hA => ⟨fun pins s1 σ H v u Q I r z => pg_w.run pins s1 σ H v u Q I r (z s _ C code A fp hA)⟩) (fun s H C code A fp hA => ⟨fun pins s1 σ H Q I z => (pts_one pt_w).run pins s1 σ H Q I (z s _ C code A fp hA)⟩)
    (fun s H C code A fp hA => ⟨fun pins s1 σ H Q I z => pe_w.run pins s1 σ H Q I (z s _ C code A fp hA)⟩) hs hst hst2) (h.run S fun J a0 cs ds H1 L1 ⟨l, ed, mm, ps, hk, hps, hh⟩ S1 it => by
    obtain ⟨xs, hx, _, _⟩ := S1.cell hk
    refine ⟨ps, hx, hps, fun ps' hps' => ?_⟩
    obtain ⟨turn, done⟩ := hh ps' hps'
    have m2 : (a0, D.lst cs) ∈ L1.set kP (P, tbD ps') := by
      obtain ⟨i, hi⟩ := List.getElem?_of_mem mm
      have hne : kP ≠ i := fun e => by
        rw [e, hi] at hk
        cases hk
      exact List.mem_of_getElem? (i := i) (by rw [List.getElem?_set_ne hne]; exact hi)
    have S2 := (S1.over.wiped (own.map (·.2))).write hk (o := .tbl ps') (d' := tbD ps') ⟨[], upd_same, trivial, .nil⟩
    refine ⟨fun i m H => m = ds.length - i ∧ i ≤ ds.length ∧ (∀ x ∈ l.take i, cc x = false) ∧ Sat X.K (vis H1 (adr L1)) F H (wipe σ (own.map (·.2))) (wipeG Γ (own.map (·.2))) ((pick Γ σ).1 ++ ts) ((pick Γ σ).2 ++ τ) (L1.set kP (P, tbD ps')), ⟨_, rfl, Nat.zero_le _, by simp, S2⟩, fun i m H3 ⟨hm, hi, hn, S3⟩ => ?_⟩
    by_cases hlt : i < ds.length
    · refine .inr ⟨it.go i S3 m2 hlt, fun x H' y => ?_⟩
      obtain ⟨d, hd, S4⟩ := it.yld i x H' hlt S3 m2 y
      subst ed
      obtain ⟨b, hb, rfl⟩ := map_get hd
      have hbm := List.mem_of_getElem? hb
      intro s H0 C code A fp hA
      refine (turn b hbm s _ C code A fp hA).run S4 fun Γ2 L2 σ2 H2 off ⟨eL, t2⟩ S5 => ⟨wipe_off off hjs, ?_⟩
      subst eL
      intro s H0 C code A fp hA
      refine (t2 s H0 C code A fp hA).run S5 fun k1 H4 L4 ⟨ek, eL4, e4⟩ S6 => ?_
      subst eL4
      cases k1 with
      | true =>
        rw [if_pos rfl]
        intro s H0 C code A fp hA
        refine (e4 rfl s H0 C code A fp hA).run S6 fun v d' H5 L5 ⟨ed', eL5⟩ S7 => ?_
        subst eL5
        have fnd : l.find? cc = some b := by
          have hsp : l = l.take i ++ b :: l.drop (i + 1) := by
            obtain ⟨hi2, e2⟩ := List.getElem?_eq_some_iff.mp hb
            rw [← e2, ← List.drop_eq_getElem_cons hi2, List.take_append_drop]
          rw [hsp, List.find?_append, List.find?_cons_of_pos ek.symm]
          have : (l.take i).find? cc = none := List.find?_eq_none.mpr fun x hx => by rw [hn x hx]; simp
          rw [this]
          rfl
        rw [fnd] at done
        exact q _ _ _ _ (ed' ▸ done) (S1.under ((Sat.unwiped S1 S7.pop).push S7.top))
      | false =>
        rw [if_neg Bool.false_ne_true]
        refine ⟨(l.map φ).length - (i + 1), by omega, rfl, hlt, fun x hx => ?_, (Sat.unwiped S1 S6).wiped _⟩
        rw [List.take_add_one, hb] at hx
        rcases List.mem_append.mp hx with hx | hx
        · exact hn x hx
        · have e : x = b := by simpa using hx
          rw [e]; exact ek.symm
    · have e : i = ds.length := by omega
      subst e
      refine .inl ⟨it.stop S3 m2, ?_⟩
      have fnd : l.find? cc = none := List.find?_eq_none.mpr fun x hx => by
        have := hn x (by rw [ed, List.length_map, List.take_length]; exact hx)
        rw [this]; simp
      rw [fnd] at done
      exact q _ _ _ _ done ((S1.under (Sat.unwiped S1 S3)).push .non))
end
/-- a def whose code object is known -/
theorem fn_okC {P : Program} {w : World} {K : PySem.W.Frag} {mg : Str → Option Value} {base : Heap} {α : Type} {args : α → List D} {cells : α → Cells} {post : α → RD} {x qual : Str} {params : Arguments} {body : List Stmt} {scope : Scope} {f : Addr} {fd : FuncData} {N ps : List Str} {k : Nat} {kws : List (Str × V)} {cd : Value}
    (G : FunD K x qual params body scope [] kws f fd) (hcd : fd.code = cd) (S : FnScope N ps scope) (len : ∀ x, (args x).length = ps.length) (hN : ps.length ≤ N.length)
    (hbody : ∀ (A : Around) (outer : List Env) (s : Shared) (H : Hp) (E : XK), Room k (CxF P w K mg base N qual scope f cd A outer s H E).A → ∀ x : α,
      BlX (CxF P w K mg base N qual scope f cd A outer s H E) body ((args x).map some ++ List.replicate (N.length - ps.length) none) (cells x) { nx := fun _ L => post x .non L, rt := post x }) :
    FnOk P w K mg base CX0 (k + 1) f fd ps (spD K args cells post) := by
  obtain ⟨oc, od, dV, kV, doc, pm, an, cdv, ct, osl, rfl, lk, hcdi, _, _⟩ := G.ex
  have hcd : cdv = cd := hcd
  subst hcd
  refine fn_of lk hcdi S (fun vs H Q E h => ?_) (fun A outer s H vs Q E hr h => ?_)
  · obtain ⟨x, B0, F, e, _⟩ := h
    exact e.trans (len x)
  · obtain ⟨x, B0, F, e, S1, k1⟩ := h
    refine ⟨WSs (CxF P w K mg base N qual scope f cdv A outer s H E) body, PSs.nox pss_w, ?_⟩
    have hl := S1.temps.length
    have S2 : Sat K B0 F H (L2.start N vs) ((args x).map some ++ List.replicate (N.length - ps.length) none) [] [] (cells x) := by
      refine ⟨S1.base, S1.fo, S1.nd, S1.cells, by simp [L2.start, e, len x], fun i d hd => ?_, .nil⟩
      by_cases hi : i < (args x).length
      · rw [List.getElem?_append_left (by simpa using hi), List.getElem?_map] at hd
        cases hq : (args x)[i]? with
        | none => rw [hq] at hd; cases hd
        | some d' =>
          rw [hq] at hd
          cases hd
          obtain ⟨v, e1, o⟩ := S1.temps.get hq
          refine ⟨v, ?_, o⟩
          unfold L2.start
          rw [List.getElem?_append_left (by simpa [e] using hi), List.getElem?_map, e1]
          rfl
      · rw [List.getElem?_append_right (by simp; omega)] at hd
        have := List.mem_of_getElem? hd
        simp at this
    refine (hbody A outer s H E hr x).run S2 ⟨fun Γ L σ H' q S3 => k1 _ _ _ _ _ _ q (S3.push .non), fun d L v σ Γ H' q S3 => k1 _ _ _ _ _ _ q S3, fun _ _ _ _ q _ => q.elim, fun _ _ _ _ q _ => q.elim⟩
end DL
set_option maxRecDepth 100000
set_option maxHeartbeats 4000000
/-! K31: the classes of parts. -/
namespace K50
open PySem PySem.Spec PyProof.Rows L2 DL
structure PcIn where
  G : Gr
  g : GrP G
  ps : Array Value
  ok : TriplesOk ps.toList
def PcPost (Pt : Addr) (x : PcIn) (d : D) (L : Cells) : Prop := ∃ (gs : List (List Nat)) (ps : Array Value), Pcl x.G gs ∧ TriplesOk ps.toList ∧ d = .tup (gs.map tnats) ∧ L = [(Pt, tbD ps)]
def pcRefs (gs : List (Addr × List Nat)) : List D := gs.map fun g => .ref g.1
def pcCells (Pt : Addr) (ps : Array Value) (r : Addr) (gs : List (Addr × List Nat)) : Cells := (Pt, tbD ps) :: (r, .lst (pcRefs gs)) :: gs.map fun g => (g.1, .lst (dnats g.2))
theorem pc_at {Pt : Addr} {ps : Array Value} {r : Addr} {gs : List (Addr × List Nat)} {j : Nat} {g : Addr × List Nat} (h : gs[j]? = some g) : (pcCells Pt ps r gs)[j + 2]? = some (g.1, .lst (dnats g.2)) := by
  show (gs.map fun g => (g.1, D.lst (dnats g.2)))[j]? = _
  rw [List.getElem?_map, h]; rfl
theorem pc_old {Pt : Addr} {ps : Array Value} {r : Addr} {gs : List (Addr × List Nat)} {j : Nat} {g : Addr × List Nat} {i : Nat} (h : gs[j]? = some g) : (pcCells Pt ps r gs).set (j + 2) (g.1, .lst (dnats g.2 ++ [.int i])) = pcCells Pt ps r (gs.set j (g.1, g.2 ++ [i])) := by
  have e1 : pcRefs (gs.set j (g.1, g.2 ++ [i])) = pcRefs gs := by
    unfold pcRefs
    refine List.ext_getElem? fun k => ?_
    rw [List.getElem?_map, List.getElem?_map]
    by_cases hk : j = k
    · subst hk
      rw [List.getElem?_set_self (List.getElem?_eq_some_iff.mp h).1, h]; rfl
    · rw [List.getElem?_set_ne hk]
  show (Pt, tbD ps) :: (r, D.lst (pcRefs gs)) :: (gs.map fun g => (g.1, D.lst (dnats g.2))).set j _ = (Pt, tbD ps) :: (r, D.lst (pcRefs (gs.set j (g.1, g.2 ++ [i])))) :: (gs.set j (g.1, g.2 ++ [i])).map fun g => (g.1, D.lst (dnats g.2))
  rw [e1, List.map_set]
  simp [dnats]
theorem pc_new {Pt : Addr} {ps : Array Value} {r : Addr} {gs : List (Addr × List Nat)} {p : Addr} {i : Nat} : (pcCells Pt ps r gs ++ [(p, D.lst [.int i])]).set 1 (r, D.lst (pcRefs gs ++ [D.ref p])) = pcCells Pt ps r (gs ++ [(p, [i])]) := by
  simp [pcCells, pcRefs, dnats]
section
variable {P : Program} {w : World} {K : PySem.W.Frag} {mg : Str → Option Value} {base : Heap}
theorem ok_part_classes (Γ : Pg K mg) {c Pt : Addr} (hcode : Γ.part_classes.fd.code = .ref c) (TB : GxR.TabB base mg c Pt) : FnOk P w K mg base CX0 7 Γ.part_classes.f Γ.part_classes.fd P_part_classes (spD K (fun x : PcIn => [x.G.d Γ.CM]) (fun x => [(Pt, tbD x.ps)]) (PcPost Pt)) := by
  refine fn_okC Γ.part_classes.F hcode sc_part_classes (fun _ => rfl) (by decide) (fun A outer s H E hr x => ?_)
  have nd := sc_part_classes.nd
  have few : x.G.n ≤ 100 := x.g.S.few
  refine bl_cons (st_reqG Γ (hr.mono (by decide)) (ev_v 0 rfl ⟨x.G, rfl, bl_cons (st_set 1 nd (ev_lst (ag_nil ⟨sz, fun r => ?_⟩)))⟩))
  refine bl_cons (st_for (js := [3]) rfl (itx_range1 Γ.b_range (ag_cons (ev_callB call_len_seq Γ.b_len bt_len (ag_cons (ev_nodes Γ (ev_v 0 rfl ⟨x.G, rfl, ag_nil (oa_lenS (.inl rfl) (ag_nil ⟨x.G.n, ?_, by omega, fun i Γ' L' => ∃ ps gs o2 o3 o4, TriplesOk (Array.toList ps) ∧ Γ' = [some (x.G.d Γ.CM), some (.ref r), o2, o3, o4] ∧ L' = pcCells Pt ps r gs ∧ PclI x.G i (gs.map (·.2)) ∧ ∀ g ∈ gs, g.2.length ≤ i, ?_, ?_, ?_⟩))⟩)))))))
  · rw [List.length_map]; rfl
  · exact ⟨x.ps, [], none, none, none, x.ok, rfl, rfl, PclI.zero _, by simp⟩
  · rintro i d Γ' L' hd ⟨ps, gs, o2, o3, o4, ht, rfl, rfl, I, le⟩
    have hi : i < x.G.n := by
      have := (List.getElem?_eq_some_iff.mp hd).1
      rw [rangeD_length] at this
      exact this
    rw [rangeD_get hi] at hd
    cases hd
    rw [Int.zero_add]
    have hb : ∀ g ∈ gs, g.2 ≠ [] ∧ g.2.headD 0 < x.G.n := fun g hg => by
      have hm : g.2 ∈ gs.map (·.2) := List.mem_map_of_mem hg
      exact ⟨I.ne _ hm, Nat.lt_trans (I.mem _ hm _ (headD_mem (I.ne _ hm))).1 hi⟩
    refine tg_v 3 nd ?_
    refine bl_cons (st_set 2 nd (ev_next2 (k := 5) (kP := 0) (α := Addr × List Nat) (js := [4]) [("one", 4)] (fun g => .ref g.1) (fun g => @decide (SPg x.G x.G (g.2.headD 0) i) (Classical.propDecidable _)) rfl nd hr Γ.b_next TB rfl ⟨rfl, rfl, rfl, rfl⟩ rfl (by decide)
      (itx_listW (ev_v 1 rfl ⟨r, pcRefs gs, rfl, by simp [pcCells], gs, rfl, by simp [pcCells], ps, rfl, ht, fun ps' ht' => ⟨fun g hg s H C code A fp hA => ?_, ?_⟩⟩))))
    · obtain ⟨j, hj⟩ := List.mem_iff_getElem?.mp hg
      refine tg_v 4 nd ⟨rfl, fun s H C code A fp hA => ?_⟩
      have hgb := hb g hg
      have h0 : g.2[0]? = some (g.2.headD 0) := by
        cases h : g.2 with
        | nil => exact absurd h hgb.1
        | cons a l => rfl
      refine te_cmp op_notN (ev_ownP (ok_change_between Γ) hA Γ.change_between.g Γ.change_between.F.kp (bi_change_between Γ) (ag_cons (ev_v 0 rfl (ag_cons (ev_ix ix_list (ev_v 4 rfl (ev_int (o2_ixC (k := j + 2) (n := 0) (pc_at hj) (d := .int (g.2.headD 0 : Nat)) (by simp [dnats, h0]) (ag_cons (ev_v 0 rfl (ag_cons (ev_v 3 rfl (ag_nil ⟨(⟨x.G, x.G, x.g.S, x.g.S, grf x.g x.g, g.2.headD 0, i, hgb.2, hi⟩ : SameIn).ch, rfl, fun d hd => ?_⟩)))))))))))))
      rcases hd with ⟨rfl, hn⟩ | ⟨l, rfl, hs, hq, sp⟩
      · refine ev_non (o2_notN ⟨false, rfl, ?_, rfl, fun h => by cases h⟩)
        exact (@decide_eq_false _ (Classical.propDecidable _) hn).symm
      · refine ev_non (o2_notN ⟨true, rfl, ?_, rfl, fun _ s H C code A fp hA => ev_v 4 rfl ⟨rfl, rfl⟩⟩)
        exact (@decide_eq_true _ (Classical.propDecidable _) sp).symm
    · have e0 : (pcCells Pt ps r gs).set 0 (Pt, tbD ps') = pcCells Pt ps' r gs := rfl
      rw [e0]
      cases hf : gs.find? (fun g => @decide (SPg x.G x.G (g.2.headD 0) i) (Classical.propDecidable _)) with
      | none =>
        have hno : ∀ a ∈ gs.map (·.2), ¬ SPg x.G x.G (a.headD 0) i := fun a ha sp => by
          obtain ⟨g, hg, rfl⟩ := List.mem_map.mp ha
          have := List.find?_eq_none.mp hf g hg
          rw [@decide_eq_true _ (Classical.propDecidable _) sp] at this
          exact this rfl
        have I2 := PclI.new x.g I hi hno
        have hlen : gs.length < sizeLine := by
          have h1 := nodup_lt x.G.n _ I.nd fun y hy => by
            obtain ⟨a, ha, rfl⟩ := List.mem_map.mp hy
            obtain ⟨g, hg, rfl⟩ := List.mem_map.mp ha
            exact (hb g hg).2
          rw [List.length_map, List.length_map] at h1
          exact szlt (by omega)
        refine bl_cons (st_if (te_cmp op_isN (ev_v 2 rfl (ev_non (o2_isN ⟨true, rfl, iteT (bl_cons (st_append (ev_v 1 rfl ⟨1, r, pcRefs gs, rfl, rfl, ev_lst (ag_cons (ev_v 3 rfl (ag_nil ⟨sz, fun p => ⟨1, pcRefs gs, rfl, by rw [pcRefs, List.length_map]; exact hlen, ?_⟩⟩)))⟩)))⟩)))))
        rw [pc_new]
        refine bl_nil (bl_nil ⟨ps', _, _, _, _, ht', rfl, rfl, ?_, fun g hg => ?_⟩)
        · rw [List.map_append]
          exact I2
        · rcases List.mem_append.mp hg with hg | hg
          · have := le g hg
            omega
          · rw [List.mem_singleton.mp hg]
            simp
      | some g =>
        have hg := List.mem_of_find?_eq_some hf
        have sp : SPg x.G x.G (g.2.headD 0) i := by
          have := List.find?_some hf
          exact @of_decide_eq_true _ (Classical.propDecidable _) this
        obtain ⟨j, hj⟩ := List.mem_iff_getElem?.mp hg
        have hj2 : (gs.map (·.2))[j]? = some g.2 := by rw [List.getElem?_map, hj]; rfl
        have I2 := PclI.old I hj2 sp
        have hlen : g.2.length < sizeLine := by
          have := le g hg
          exact szlt (by omega)
        refine bl_cons (st_if (te_cmp op_isN (ev_v 2 rfl (ev_non (o2_isN ⟨false, rfl, iteF (bl_cons (st_append (ev_v 2 rfl ⟨j + 2, g.1, dnats g.2, rfl, pc_at hj, ev_v 3 rfl ⟨j + 2, dnats g.2, pc_at hj, by rw [dnats_length]; exact hlen, ?_⟩⟩)))⟩)))))
        rw [pc_old hj]
        refine bl_nil (bl_nil ⟨ps', _, _, _, _, ht', rfl, rfl, ?_, fun b hb2 => ?_⟩)
        · rw [List.map_set]
          exact I2
        · rcases List.mem_or_eq_of_mem_set hb2 with hb2 | rfl
          · have := le b hb2
            omega
          · have := le g hg
            simp
            omega
  · rintro Γ' L' ⟨ps, gs, o2, o3, o4, ht, rfl, rfl, I, _⟩
    rw [rangeD_length] at I
    have PC := I.done x.g
    have hl2 : gs.length ≤ 100 := by
      have := PC.le
      rw [List.length_map] at this
      omega
    refine bl_cons (st_ret (ev_keep1 (ev_callTy call_tuple_of Γ.b_tuple bt_tuple (ag_cons (ev_mapW [("group", 2)] (fun g : Addr × List Nat => .ref g.1) (fun g => tnats g.2) rfl nd rfl (js := [2]) (by decide) (itx_listW (ev_v 1 rfl ⟨r, pcRefs gs, rfl, by simp [pcCells], gs, rfl, szle (by omega), by simp [pcCells], fun g hg => ⟨fun s H C cl fp => tg_v 2 nd ⟨rfl, fun s H C cl fp => ?_⟩⟩, ag_nil (oa_tuple (.inr rfl) ⟨(Pt, tbD ps), _, rfl, gs.map (·.2), ps, PC, ht, by rw [List.map_map]; rfl, rfl⟩)⟩)))))))
    obtain ⟨j, hj⟩ := List.mem_iff_getElem?.mp hg
    exact ev_callTy call_tuple_of Γ.b_tuple bt_tuple (ag_cons (ev_v 2 rfl (ag_nil (oa_tupC (pc_at hj) ⟨rfl, rfl⟩))))
end
end K50
set_option maxRecDepth 100000
set_option maxHeartbeats 4000000
/-! K21: least graphs, classes. -/
namespace K50
open PySem PySem.Spec PyProof.Rows L2 DL
theorem mrg_len (ns : List Nd) (ms : List Nat) : (mrg ns ms).length = (ddl ms).length := by simp [mrg]
theorem GrP.scn {G : Gr} (g : GrP G) : ∀ u, u < G.n → ∀ f ∈ G.sc u, f < G.n := fun u hu f hf => g.lt (g.ws.mem (g.all u hu) hf).1
theorem Clz.lt {G : Gr} {ms : List Nat} (c : Clz G ms) {u : Nat} (hu : u < G.n) : mrk ms u < (mrg G.nodes ms).length := by
  rw [mrg_len]
  exact (List.getElem?_eq_some_iff.mp (c.at_ hu)).1
theorem Clz.mem {G : Gr} {ms : List Nat} (c : Clz G ms) {m : Nat} (h : m ∈ ddl ms) : ∃ u, u < G.n ∧ mrk ms u = m := by
  obtain ⟨i, hi⟩ := List.mem_iff_getElem?.mp (ddl_mem.mp h)
  have hlt := (List.getElem?_eq_some_iff.mp hi).1
  have h2 := mrk_at hlt
  rw [h2] at hi
  exact ⟨i, by rw [← c.ln]; exact hlt, Option.some.inj hi⟩
theorem Clz.gin {G : Gr} {ms : List Nat} (c : Clz G ms) (g : GrP G) : ∃ y : GIn, y.ns = mrg G.nodes ms := by
  have hS := c.homS g
  have few : (mrg G.nodes ms).length ≤ 100 := by
    rw [mrg_len]
    have := ddl_len ms
    rw [c.ln] at this
    exact Nat.le_trans this g.ok.few
  have el : ∀ n ∈ mrg G.nodes ms, ∃ u, u < G.n ∧ n = (G.nd u).rn (mrk ms) := fun n hn => by
    obtain ⟨m, hm, rfl⟩ := List.mem_map.mp hn
    obtain ⟨u, hu, rfl⟩ := c.mem hm
    obtain ⟨h2, h3⟩ := c.hd hu
    exact ⟨_, h2, rfl⟩
  have S := g.S
  refine ⟨⟨mrg G.nodes ms, ⟨few, fun n hn => ?_, fun f hf => ?_, fun n hn => ?_⟩, Nat.lt_of_le_of_lt (Nat.zero_le _) (c.lt g.pos), _, hS.push g.ws, fun v hv => ?_⟩, rfl⟩
  · obtain ⟨u, hu, rfl⟩ := el n hn
    rw [rn_ch]
    refine ⟨by rw [List.length_map]; exact S.chl hu, fun x hx => ?_⟩
    obtain ⟨y, hy, rfl⟩ := List.mem_map.mp hx
    exact c.lt (S.chn hu hy)
  · obtain ⟨u, hu, e⟩ := el _ hf
    obtain ⟨x, e1, rfl⟩ := rn_var e.symm
    exact c.lt (S.vt x (e1 ▸ S.ndm hu))
  · obtain ⟨u, hu, rfl⟩ := el n hn
    rw [rn_wd]
    exact S.wd _ (S.ndm hu)
  · obtain ⟨u, hu, rfl⟩ := hS.toHom.onto hv
    rw [hS.sc u hu, List.length_map]
    exact g.sl u (g.lt hu)
structure QuIn where
  G : Gr
  g : GrP G
  ms : List Nat
  c : Clz G ms
def GpIn := { G : Gr // GrP G }
section
variable {P : Program} {w : World} {K : PySem.W.Frag} {mg : Str → Option Value} {base : Heap}
theorem ok_quotient_in (Γ : Pg K mg) : FnOk P w K mg base CX0 12 Γ.quotient_in.f Γ.quotient_in.fd P_quotient_in (spD K (fun x : QuIn => [x.G.d Γ.CM, tnats x.ms]) NoC (fun x => GrAt Γ.CM (MadeOf (mrg x.G.nodes x.ms)))) := by
  refine fn_ok Γ.quotient_in.F sc_quotient_in (fun _ => rfl) (by decide) (fun cdv A outer s H E hr x => ?_)
  obtain ⟨y, ey⟩ := x.c.gin x.g
  refine bl_cons (st_ret (ev_ownP (ok_graph_in Γ) hr Γ.graph_in.g Γ.graph_in.F.kp (bi_graph_in Γ) (ag_cons (ev_own (ok_merged_nodes Γ) (hr.mono (by decide)) Γ.merged_nodes.g Γ.merged_nodes.F.kp (bi_merged_nodes Γ) (ag_cons (ev_nodes Γ (ev_v 0 rfl ⟨x.G, rfl, ag_cons (ev_v 1 rfl (ag_nil ⟨⟨x.G.nodes, x.g.ok, x.ms, x.c.ln⟩, rfl, ag_nil ⟨y, by rw [ey], fun d hd => ?_⟩⟩))⟩)))))))
  rw [ey] at hd
  exact ⟨hd, rfl⟩
def ClRes (G : Gr) (d : D) : Prop := ∃ ms, d = tnats ms ∧ Clz G ms
theorem ok_classes_in (Γ : Pg K mg) : FnOk P w K mg base CX0 5 Γ.classes_in.f Γ.classes_in.fd P_classes_in (spD K (fun x : GpIn => [x.1.d Γ.CM]) NoC (fun x d L => ClRes x.1 d ∧ L = [])) := by
  refine fn_ok Γ.classes_in.F sc_classes_in (fun _ => rfl) (by decide) (fun cdv A outer s H E hr ⟨G, g⟩ => ?_)
  refine bl_cons (st_ret (ev_ownP (ok_classes_of Γ) hr Γ.classes_of.g Γ.classes_of.F.kp (bi_classes_of Γ) (ag_cons (ev_nodes Γ (ev_v 0 rfl ⟨G, rfl, ag_cons (ev_scopes Γ (ev_v 0 rfl ⟨G, rfl, ag_nil ⟨⟨G, g.S, g.scn, g.pos⟩, rfl, fun d hd => ?_⟩⟩))⟩)))))
  obtain ⟨ms, rfl, h⟩ := hd
  exact ⟨⟨ms, rfl, cls_of g.S g.scn h⟩, rfl⟩
/-- a least graph -/
def LePost (G H : Gr) : Prop := ∃ ms, Clz G ms ∧ MadeOf (mrg G.nodes ms) H
theorem ok_least_in (Γ : Pg K mg) : FnOk P w K mg base CX0 13 Γ.least_in.f Γ.least_in.fd P_least_in (spD K (fun x : GpIn => [x.1.d Γ.CM]) NoC (fun x => GrAt Γ.CM (LePost x.1))) := by
  refine fn_ok Γ.least_in.F sc_least_in (fun _ => rfl) (by decide) (fun cdv A outer s H E hr ⟨G, g⟩ => ?_)
  refine bl_cons (st_ret (ev_ownP (ok_quotient_in Γ) hr Γ.quotient_in.g Γ.quotient_in.F.kp (bi_quotient_in Γ) (ag_cons (ev_v 0 rfl (ag_cons (ev_ownP (ok_classes_in Γ) (hr.mono (by decide)) Γ.classes_in.g Γ.classes_in.F.kp (bi_classes_in Γ) (ag_cons (ev_v 0 rfl (ag_nil ⟨⟨G, g⟩, rfl, fun d hd => ?_⟩)))))))))
  obtain ⟨ms, rfl, c⟩ := hd
  refine ag_nil ⟨⟨G, g, ms, c⟩, rfl, fun d hd => ?_⟩
  obtain ⟨H2, rfl, m⟩ := hd
  exact ⟨⟨H2, rfl, ms, c, m⟩, rfl⟩
theorem ok_least (Γ : Pg K mg) : FnOk P w K mg base CX0 14 Γ.least.f Γ.least.fd P_least (spD K (fun x : GpIn => [x.1.d Γ.CM]) NoC (fun x => GrAt Γ.CM (LePost x.1))) := by
  refine fn_ok Γ.least.F sc_least (fun _ => rfl) (by decide) (fun cdv A outer s H E hr ⟨G, g⟩ => ?_)
  refine bl_cons (st_reqG Γ (hr.mono (by decide)) (ev_v 0 rfl ⟨G, rfl, bl_cons (st_ret (ev_ownP (ok_least_in Γ) hr Γ.least_in.g Γ.least_in.F.kp (bi_least_in Γ) (ag_cons (ev_v 0 rfl (ag_nil ⟨⟨G, g⟩, rfl, fun d hd => ⟨hd, rfl⟩⟩)))))⟩))
def grpsD (ms : List Nat) : D := .tup ((ddl ms).map fun m => tnats (grp ms m))
theorem ok_classes (Γ : Pg K mg) : FnOk P w K mg base CX0 6 Γ.classes.f Γ.classes.fd P_classes (spD K (fun x : GpIn => [x.1.d Γ.CM]) NoC (fun x d L => (∃ ms, d = grpsD ms ∧ Clz x.1 ms) ∧ L = [])) := by
  refine fn_ok Γ.classes.F sc_classes (fun _ => rfl) (by decide) (fun cdv A outer s H E hr ⟨G, g⟩ => ?_)
  refine bl_cons (st_reqG Γ (hr.mono (by decide)) (ev_v 0 rfl ⟨G, rfl, bl_cons (st_ret (ev_own (ok_groups_of Γ) (hr.mono (by decide)) Γ.groups_of.g Γ.groups_of.F.kp (bi_groups_of Γ) (ag_cons (ev_ownP (ok_classes_in Γ) hr Γ.classes_in.g Γ.classes_in.F.kp (bi_classes_in Γ) (ag_cons (ev_v 0 rfl (ag_nil ⟨⟨G, g⟩, rfl, fun d hd => ?_⟩)))))))⟩))
  obtain ⟨ms, rfl, c⟩ := hd
  exact ag_nil ⟨⟨ms, by rw [c.ln]; exact g.ok.few⟩, rfl, ⟨ms, rfl, c⟩, rfl⟩
end
end K50
/-! MJ: closed parts, plain. -/
namespace K50
open List
theorem GrP.open_ {G : Gr} (g : GrP G) {u : Nat} (hu : u < G.n) (h : G.sc u = []) : G.need u = [] := by
  cases e : G.need u with
  | nil => rfl
  | cons f l =>
    have : f ∈ G.sc u := (g.sc u hu).cov ((g.need u f hu).mp (by rw [e]; simp))
    rw [h] at this
    cases this
theorem iso_spg {G H : Gr} (g : GrP G) (k : GrP H) {u : Nat} (hu : u < G.n) (hn : G.need u = []) {d : Nat → Nat} (I : Iso G.nodes u H.nodes 0 d) : SPg G H u 0 := by
  have ru := g.all u hu
  have W : WS G.nodes u G.sc := g.ws.from ru (g.closed hu hn)
  have D := I.homS W (fun v hv => g.scs v (ru.trans hv)) k.scs
  have M := two_mtx (HomS.id G.nodes u G.sc) D (fun x hx => g.lt (ru.trans hx)) fun x hx => k.lt (I.toHom.fwd hx)
  exact M.spg g k ⟨u, .refl, rfl, I.root.symm⟩
open Classical in
theorem closed_places {G H : Gr} {ms : List Nat} (g : GrP G) (k : GrP H) (c : Clz G ms) {u : Nat} (hu : u < G.n) (hn : G.need u = []) (S : SPg G H u 0) : plc G H = grp ms (mrk ms u) := by
  unfold plc grp
  rw [List.filter_filter, c.ln]
  refine List.filter_congr fun v hv => ?_
  have hv' := List.mem_range.mp hv
  have hm := mrk_at (ms := ms) (u := v) (by rw [c.ln]; exact hv')
  rw [hm, Bool.eq_iff_iff, Bool.and_eq_true, decide_eq_true_eq, List.isEmpty_iff, decide_eq_true_eq]
  constructor
  · rintro ⟨s, _⟩
    rw [closed_class c g hu hv' (g.closed hu hn) (S.trans s.symm)]
  · intro e
    have e : mrk ms v = mrk ms u := Option.some.inj e
    have M := clz_mtx c g
    have r : v < G.n ∧ u < G.n ∧ mrk ms v = mrk ms u := ⟨hv', hu, e⟩
    refine ⟨(M.spg g g r).trans S, g.open_ hv' ?_⟩
    have hl := (M.lk v u r).2.2.2
    rw [g.closed hu hn] at hl
    exact List.length_eq_zero_iff.mp hl
end K50
set_option maxRecDepth 100000
set_option maxHeartbeats 4000000
/-! DLU: list(zip(..)) of two tuples. -/
namespace DL
open PySem PySem.Spec PyProof.Rows L2
/-- a zip of two tuples at turn i; Ts: what it gave out -/
structure ZT (h : Heap) (z TI TO i1 i2 l1 l2 : Addr) (i : Nat) (Ts : List Addr) : Prop where
  ti : IsPair h TI (.ref i1) (.ref i2)
  it1 : h.IsTupleIter i1 l1 i
  it2 : h.IsTupleIter i2 l2 i
  to : ∃ o, h.get? TO = some o
  out : ∀ T ∈ Ts, T ∉ [z, TI, TO, i1, i2]
  st : (Ts = [] ∧ IsZip h z TI TO .none ∧ ∃ a b, IsPair h TO a b) ∨ ∃ (T : Addr) (f : Bool) (o : Obj), T ∈ Ts ∧ h.get? T = some o ∧ IsZipHeld h z TI TO T f
theorem pair_lt {h : Heap} {T : Addr} {x y : Value} (e : IsPair h T x y) : T < h.objs.size := Heap.lt_size e
theorem ZT.zlt {h : Heap} {z TI TO i1 i2 l1 l2 : Addr} {i : Nat} {Ts : List Addr} (Z : ZT h z TI TO i1 i2 l1 l2 i Ts) : z < h.objs.size := by
  rcases Z.st with ⟨_, e, _⟩ | ⟨_, _, _, _, _, e⟩
  · exact Heap.lt_size e
  · exact Heap.lt_size e
section
variable {prog : Program} {w : World} {A : Around} {E : Value → Shared → Prop} {s : Shared}
theorem zipT_item_held {z TI TO T i1 i2 l1 l2 : Addr} {f : Bool} {oT : Obj} {k : Nat} {xs ys : Array Value} {x y : Value} {Q : Option Value → Shared → Prop} (D : ZipApart z TI TO i1 i2 l1 l2)
    (hz : IsZipHeld s.heap z TI TO T f) (hT : s.heap.get? T = some oT) (hTI : IsPair s.heap TI (.ref i1) (.ref i2)) (h1 : s.heap.IsTupleIter i1 l1 k) (h2 : s.heap.IsTupleIter i2 l2 k) (p1 : s.heap.IsTuple l1 xs) (p2 : s.heap.IsTuple l2 ys) (hx : xs[k]? = some x) (hy : ys[k]? = some y)
    (hQ : ∀ h', IsZipHeld h' z TI TO T true → h'.IsTupleIter i1 l1 (k + 1) → h'.IsTupleIter i2 l2 (k + 1) → IsPair h' s.heap.objs.size x y →
      (∀ c o, c ≠ z → c ≠ i1 → c ≠ i2 → s.heap.get? c = some o → h'.get? c = some o) → Q (some (.ref s.heap.objs.size)) { s with heap := h' }) : wpAny (model prog w) A (pyNext (.ref z)) Q E s := by
  have ty : s.TypeIs (.ref z) "zip" := ⟨_, hz, rfl⟩
  unfold pyNext
  refine wpAny_bind (wpAny_attempt (wpAny_callSpecial?_slot (name := Str.ofString "__next__") ty F.slot_zip_next (wpAny_call_entry F.slot_zip_next ty F.entry_zip_next ?_ (F.args_zip_next_1 _))))
  show wpAny _ _ (field (.ref z) 2 >>= _) _ _ _
  refine wpAny_bind (wpAny_field hz rfl (x := .bool false) rfl ?_)
  show wpAny _ _ (field (.ref z) 3 >>= _) _ _ _
  refine wpAny_bind (wpAny_field hz rfl (x := .ref TI) rfl (wpAny_bind (wpAny_seqItems hTI rfl ?_)))
  show wpAny _ _ (Builtin.SmallTypes.ownedTupleIsFree (.ref z) >>= _) _ _ _
  refine wpAny_bind (wpAny_tupleHeld_zip hz hT fun ha za sa => ?_)
  simp only [Bool.false_eq_true, if_false]
  refine wpAny_bind ?_
  rw [← Array.forIn_toList]
  simp only [List.forIn_cons, List.forIn_nil]
  refine wpAny_bind (wpAny_bind (wpAny_holding ?_))
  show wpAny _ _ (Builtin.SmallTypes.nextOf (.ref i1) >>= _) _ _ _
  refine wpAny_bind (RZ.nextOf_tuple_item (s := { s with heap := ha }) (h1.extBut sa.extBut D.i1z) (p1.extBut sa.extBut D.l1z) hx fun hb b1 sb => wpAny_pure (wpAny_pure ?_))
  refine wpAny_bind (wpAny_bind (wpAny_holding ?_))
  show wpAny _ _ (Builtin.SmallTypes.nextOf (.ref i2) >>= _) _ _ _
  refine wpAny_bind (RZ.nextOf_tuple_item (s := { s with heap := hb }) ((h2.extBut sa.extBut D.i2z).extBut sb.extBut D.i12.symm) ((p2.extBut sa.extBut D.l2z).extBut sb.extBut D.l2i1) hy fun hd d2 sd => wpAny_pure (wpAny_pure (wpAny_pure ?_)))
  show wpAny _ _ (newTuple [x, y] >>= _) _ _ _
  refine wpAny_bind (wpAny_newTuple (wpAny_pure ⟨_, rfl, ?_⟩))
  have sz : hd.objs.size = s.heap.objs.size := by rw [sd.1, sb.1, sa.1]
  have zd : IsZipHeld hd z TI TO T true := sd.extBut _ _ D.i2z.symm (sb.extBut _ _ D.i1z.symm za)
  have kp : ∀ c o, c ≠ z → c ≠ i1 → c ≠ i2 → s.heap.get? c = some o → hd.get? c = some o := fun c o c1 c2 c3 e => sd.extBut _ _ c3 (sb.extBut _ _ c2 (sa.extBut _ _ c1 e))
  have d1 : hd.IsTupleIter i1 l1 (k + 1) := b1.extBut sd.extBut D.i12
  have np : IsPair (hd.push { cls := .type "tuple", data := .seq #[x, y] }) hd.objs.size x y := Heap.get?_push_size _ rfl
  show wpAny _ _ (pure _) _ _ _
  refine wpAny_pure ?_
  show Q (some (.ref hd.objs.size)) _
  rw [sz] at np ⊢
  exact hQ _ (Heap.get?_push_of_some _ zd) (d1.at fun o e => Heap.get?_push_of_some _ e) (d2.at fun o e => Heap.get?_push_of_some _ e) np fun c o c1 c2 c3 e => Heap.get?_push_of_some _ (kp c o c1 c2 c3 e)
theorem zipT_end_held {z TI TO T i1 i2 l1 l2 : Addr} {f : Bool} {oT : Obj} {k : Nat} {xs ys : Array Value} {Q : Option Value → Shared → Prop} (hh : A.handled = none) (D : ZipApart z TI TO i1 i2 l1 l2)
    (hz : IsZipHeld s.heap z TI TO T f) (hT : s.heap.get? T = some oT) (hTI : IsPair s.heap TI (.ref i1) (.ref i2)) (h1 : s.heap.IsTupleIter i1 l1 k) (h2 : s.heap.IsTupleIter i2 l2 k) (p1 : s.heap.IsTuple l1 xs) (p2 : s.heap.IsTuple l2 ys) (he : xs[k]? = none ∨ ys[k]? = none)
    (hQ : ∀ h', (∀ c o, c ≠ z → c ≠ i1 → c ≠ i2 → s.heap.get? c = some o → h'.get? c = some o) → Q none { s with heap := h' }) : wpAny (model prog w) A (pyNext (.ref z)) Q E s := by
  have ty : s.TypeIs (.ref z) "zip" := ⟨_, hz, rfl⟩
  have stop : ∀ h' e, (∀ c o, c ≠ z → c ≠ i1 → c ≠ i2 → s.heap.get? c = some o → h'.get? c = some o) → (∃ o, h'.get? e = some o ∧ o.cls = .type "StopIteration") →
      wpAny (model prog w) A (isInstance (.ref e) (.type "StopIteration") >>= fun b => if b = true then pure none else throw (.ref e)) Q E { s with heap := h' } := fun h' e kp ⟨o, ho, hc⟩ => by
    refine wpAny_bind (wpAny_isInstance (T := "StopIteration") (b := true) ⟨o, ho, hc⟩ isSubtype_stop ?_)
    exact wpAny_pure (hQ _ kp)
  unfold pyNext
  refine wpAny_bind (wpAny_attempt (wpAny_callSpecial?_slot (name := Str.ofString "__next__") ty F.slot_zip_next (wpAny_call_entry F.slot_zip_next ty F.entry_zip_next ?_ (F.args_zip_next_1 _))))
  show wpAny _ _ (field (.ref z) 2 >>= _) _ _ _
  refine wpAny_bind (wpAny_field hz rfl (x := .bool false) rfl ?_)
  show wpAny _ _ (field (.ref z) 3 >>= _) _ _ _
  refine wpAny_bind (wpAny_field hz rfl (x := .ref TI) rfl (wpAny_bind (wpAny_seqItems hTI rfl ?_)))
  show wpAny _ _ (Builtin.SmallTypes.ownedTupleIsFree (.ref z) >>= _) _ _ _
  refine wpAny_bind (wpAny_tupleHeld_zip hz hT fun ha za sa => ?_)
  simp only [Bool.false_eq_true, if_false]
  refine wpAny_bind ?_
  rw [← Array.forIn_toList]
  simp only [List.forIn_cons, List.forIn_nil]
  refine wpAny_bind (wpAny_bind (wpAny_holding ?_))
  show wpAny _ _ (Builtin.SmallTypes.nextOf (.ref i1) >>= _) _ _ _
  cases hx : xs[k]? with
  | none =>
    refine wpAny_bind (RZ.nextOf_tuple_end (s := { s with heap := ha }) hh (h1.extBut sa.extBut D.i1z) (p1.extBut sa.extBut D.l1z) hx fun hb e sb hs => ?_)
    exact stop hb e (fun c o c1 c2 _ q => sb _ _ c2 (sa.extBut _ _ c1 q)) hs
  | some x =>
    have hy : ys[k]? = none := he.resolve_left fun q => by rw [hx] at q; cases q
    refine wpAny_bind (RZ.nextOf_tuple_item (s := { s with heap := ha }) (h1.extBut sa.extBut D.i1z) (p1.extBut sa.extBut D.l1z) hx fun hb b1 sb => wpAny_pure (wpAny_pure ?_))
    refine wpAny_bind (wpAny_bind (wpAny_holding ?_))
    show wpAny _ _ (Builtin.SmallTypes.nextOf (.ref i2) >>= _) _ _ _
    refine wpAny_bind (RZ.nextOf_tuple_end (s := { s with heap := hb }) hh ((h2.extBut sa.extBut D.i2z).extBut sb.extBut D.i12.symm) ((p2.extBut sa.extBut D.l2z).extBut sb.extBut D.l2i1) hy fun hd e sd hs => ?_)
    exact stop hd e (fun c o c1 c2 c3 q => sd _ _ c3 (sb.extBut _ _ c2 (sa.extBut _ _ c1 q))) hs
end
section
variable {prog : Program} {w : World} {A : Around} {E : Value → Shared → Prop} {s : Shared}
theorem ZT.item {z TI TO i1 i2 l1 l2 : Addr} {k : Nat} {Ts : List Addr} {xs ys : Array Value} {x y : Value} {Q : Option Value → Shared → Prop} (Z : ZT s.heap z TI TO i1 i2 l1 l2 k Ts) (D : ZipApart z TI TO i1 i2 l1 l2)
    (p1 : s.heap.IsTuple l1 xs) (p2 : s.heap.IsTuple l2 ys) (hx : xs[k]? = some x) (hy : ys[k]? = some y)
    (hQ : ∀ h', ZT h' z TI TO i1 i2 l1 l2 (k + 1) (Ts ++ [s.heap.objs.size]) → IsPair h' s.heap.objs.size x y → (∀ c o, c ∉ [z, TI, TO, i1, i2] → s.heap.get? c = some o → h'.get? c = some o) → Q (some (.ref s.heap.objs.size)) { s with heap := h' }) :
    wpAny (model prog w) A (pyNext (.ref z)) Q E s := by
  have lz := Z.zlt
  have lTI := pair_lt Z.ti
  obtain ⟨o1, e1, _⟩ := id Z.it1
  obtain ⟨o2, e2, _⟩ := id Z.it2
  have l3 := Heap.lt_size e1
  have l4 := Heap.lt_size e2
  obtain ⟨oTO, eTO⟩ := Z.to
  have lTO : TO ≠ s.heap.objs.size := Nat.ne_of_lt (Heap.lt_size eTO)
  have fin : ∀ h', IsPair h' TI (.ref i1) (.ref i2) → h'.IsTupleIter i1 l1 (k + 1) → h'.IsTupleIter i2 l2 (k + 1) → (∃ o, h'.get? TO = some o) → (∃ (T : Addr) (f : Bool) (o : Obj), T ∈ Ts ++ [s.heap.objs.size] ∧ h'.get? T = some o ∧ IsZipHeld h' z TI TO T f) → ZT h' z TI TO i1 i2 l1 l2 (k + 1) (Ts ++ [s.heap.objs.size]) := fun h' a b c t d => by
    refine ⟨a, b, c, t, fun T hT => ?_, .inr d⟩
    rcases List.mem_append.mp hT with hT | hT
    · exact Z.out T hT
    · rw [List.mem_singleton.mp hT]
      simp only [List.mem_cons, List.mem_nil_iff, or_false, not_or]
      exact ⟨Nat.ne_of_gt lz, Nat.ne_of_gt lTI, fun e => lTO e.symm, Nat.ne_of_gt l3, Nat.ne_of_gt l4⟩
  rcases Z.st with ⟨e, hz, a, b, hTO⟩ | ⟨T, f, o, hT, ho, hz⟩
  · subst e
    refine RZ.pyNext_zipT_item D hz Z.ti hTO Z.it1 Z.it2 p1 p2 hx hy fun h' z' TO' b1 b2 np _ kp => ?_
    refine hQ h' (fin h' (kp _ _ D.TIz D.TITO D.TIi1 D.TIi2 Z.ti) b1 b2 ⟨_, TO'⟩ ⟨s.heap.objs.size, false, _, by simp, np, z'⟩) np fun c o hc e => ?_
    simp only [List.mem_cons, List.mem_nil_iff, or_false, not_or] at hc
    exact kp c o hc.1 hc.2.2.1 hc.2.2.2.1 hc.2.2.2.2 e
  · have oT := Z.out T hT
    simp only [List.mem_cons, List.mem_nil_iff, or_false, not_or] at oT
    refine zipT_item_held D hz ho Z.ti Z.it1 Z.it2 p1 p2 hx hy fun h' z' b1 b2 np kp => ?_
    refine hQ h' (fin h' (kp _ _ D.TIz D.TIi1 D.TIi2 Z.ti) b1 b2 ⟨_, kp _ _ D.TOz D.TOi1 D.TOi2 eTO⟩ ⟨T, true, o, by simp [hT], kp _ _ oT.1 oT.2.2.2.1 oT.2.2.2.2 ho, z'⟩) np fun c o hc e => ?_
    simp only [List.mem_cons, List.mem_nil_iff, or_false, not_or] at hc
    exact kp c o hc.1 hc.2.2.2.1 hc.2.2.2.2 e
theorem ZT.stop {z TI TO i1 i2 l1 l2 : Addr} {k : Nat} {Ts : List Addr} {xs ys : Array Value} {Q : Option Value → Shared → Prop} (hh : A.handled = none) (Z : ZT s.heap z TI TO i1 i2 l1 l2 k Ts) (D : ZipApart z TI TO i1 i2 l1 l2)
    (p1 : s.heap.IsTuple l1 xs) (p2 : s.heap.IsTuple l2 ys) (he : xs[k]? = none ∨ ys[k]? = none)
    (hQ : ∀ h', (∀ c o, c ∉ [z, TI, TO, i1, i2] → s.heap.get? c = some o → h'.get? c = some o) → Q none { s with heap := h' }) :
    wpAny (model prog w) A (pyNext (.ref z)) Q E s := by
  rcases Z.st with ⟨e, hz, a, b, hTO⟩ | ⟨T, f, o, hT, ho, hz⟩
  · refine RZ.pyNext_zipT_end hh D hz Z.ti hTO Z.it1 Z.it2 p1 p2 he fun h' kp => hQ h' fun c o hc e => ?_
    simp only [List.mem_cons, List.mem_nil_iff, or_false, not_or] at hc
    exact kp c o hc.1 hc.2.2.1 hc.2.2.2.1 hc.2.2.2.2 e
  · refine zipT_end_held hh D hz ho Z.ti Z.it1 Z.it2 p1 p2 he fun h' kp => hQ h' fun c o hc e => ?_
    simp only [List.mem_cons, List.mem_nil_iff, or_false, not_or] at hc
    exact kp c o hc.1 hc.2.2.2.1 hc.2.2.2.2 e
end
/-- pairs laid as tuples -/
inductive Laid (H : Hp) : List Addr → List (V × V) → Hp → Prop
  | nil : Laid H [] [] H
  | snoc {Ts : List Addr} {ps : List (V × V)} {H' : Hp} {T : Addr} {x y : V} : Laid H Ts ps H' → H' T = none → Laid H (Ts ++ [T]) (ps ++ [(x, y)]) (upd H' T (.tup [x, y]))
theorem Laid.keep {H : Hp} {Ts : List Addr} {ps : List (V × V)} {H' : Hp} (l : Laid H Ts ps H') : ∀ a o, H a = some o → H' a = some o := by
  induction l with
  | nil => exact fun _ _ h => h
  | snoc l hn ih => exact fun a o h => by rw [upd_ne (ne_of_none (ih a o h) hn)]; exact ih a o h
theorem Laid.len {H : Hp} {Ts : List Addr} {ps : List (V × V)} {H' : Hp} (l : Laid H Ts ps H') : Ts.length = ps.length := by
  induction l with
  | nil => rfl
  | snoc l hn ih => simp [ih]
section
variable {X : Cx} {pins : List (Addr × Obj)} {σ : L2.St} {H : Hp} {s : Shared}
/-- a list of ours is tracked from now on -/
theorem Inv.adopt {S : Addr} {out : List V} {acc : Array Value} {c : Nat} (I : Inv X pins σ H s) (hf : FpOk X pins H S) (hl : out.length ≤ sizeLine) (e : s.heap.get? S = some (lstObj acc c)) (r : Vals out acc.toList) : Inv X pins σ (upd H S (.lst out)) s := by
  have nS : ∀ b u, H b = some u → b ≠ S := fun b u q => ne_of_none q hf.1
  have J := I.step (h' := s.heap) (H' := upd H S (.lst out)) (g' := s.gens) (t' := s.toks) (d' := s.drawn) (ch := [S]) (fun b hb => ?_) (fun b o _ _ _ e _ => e) (fun b o _ _ _ e _ => ⟨o.slots, e⟩) (fun b o hc e n => ?_) (fun b o _ e => ⟨o, e⟩)
    (fun b xs q => by rw [upd_ne (nS _ _ q)]; exact q) (fun b o u q => by rw [upd_ne (nS _ _ q)]; exact q) (fun b ps q => ⟨#[], by rw [upd_ne (nS _ _ q), q]; simp⟩) (fun m h => h) (fun b u q => ?_) I.bare
  · exact J
  · rw [List.mem_singleton.mp hb]
    exact ⟨hf.2.2.2.1, hf.2.1, hf.2.2.2.2.1, hf.2.2.2.2.2⟩
  · rw [upd_ne (fun z => hc (by rw [z]; simp))]
    exact n
  · by_cases hb : b = S
    · subst hb
      rw [upd_same] at q
      cases q
      exact ⟨hl, acc.toList, c, r, by rw [e]⟩
    · rw [upd_ne hb] at q
      exact (I.hok b u q).stay (fun _ _ _ z => z) (fun d z => by rw [upd_ne (ne_of_none z hf.1)]; exact z) fun d xs z => by rw [upd_ne (ne_of_none z hf.1)]; exact z
theorem drain_zipT {A : Around} {R : Result → Shared → Prop} {S z TI TO i1 i2 l1 l2 : Addr} {res : Value} {xs ys : List V} {H1 : Hp} (hh : A.handled = none) (D : ZipApart z TI TO i1 i2 l1 l2) (hS : S ∉ [z, TI, TO, i1, i2]) (q1 : SqT X.K H1 l1 xs) (q2 : SqT X.K H1 l2 ys) (hz : xs.length ≤ sizeLine)
    (hR : ∀ s' Hn Ts acc c, Laid H1 Ts (xs.zip ys) Hn → Inv X pins σ Hn s' → FpOk X pins Hn S → s'.heap.get? S = some (lstObj acc c) → acc.toList = Ts.map .ref → R (.ok (.ret res)) s') :
    ∀ (m i : Nat) (s : Shared) (Hi : Hp) (Ts : List Addr) (acc : Array Value) (c : Nat), xs.length - i = m → i ≤ xs.length → i ≤ ys.length → Inv X pins σ Hi s → (∀ b ∈ [z, TI, TO, i1, i2], FpOk X pins Hi b) → FpOk X pins Hi S → Laid H1 Ts ((xs.zip ys).take i) Hi → ZT s.heap z TI TO i1 i2 l1 l2 i Ts →
      s.heap.get? S = some (lstObj acc c) → acc.toList = Ts.map .ref → codeAny (model X.prog X.w) A (.builtin "list.extend.loop" ⟨[.ref S, .ref z, res], []⟩) R s := by
  intro m
  induction m using Nat.strongRecOn with
  | ind m ih =>
    intro i s Hi Ts acc c hm hi1 hi2 I hf hfS LA Z hl ha
    have le : Le H1 Hi := .of LA.keep
    obtain ⟨its, rv, p1, _⟩ := I.tuple (le.sqT q1)
    obtain ⟨its2, rv2, p2, _⟩ := I.tuple (le.sqT q2)
    refine codeAny_builtin F.entry_extend_loop ?_
    rw [Around.under_plainId F.plain_extend_loop _]
    show wpAny _ A.in1 (pyNext (.ref z) >>= _) _ _ s
    by_cases hlt : i < xs.length ∧ i < ys.length
    · obtain ⟨u, hu, ru⟩ := rv.get (List.getElem?_eq_getElem hlt.1)
      obtain ⟨u2, hu2, ru2⟩ := rv2.get (List.getElem?_eq_getElem hlt.2)
      refine wpAny_bind (Z.item D p1 p2 (x := u) (y := u2) (by simpa using hu) (by simpa using hu2) fun h' Z' np kp => ?_)
      have szT : FpOk X pins Hi s.heap.objs.size := I.fpOk (Nat.le_refl _) (I.hok.fresh (Nat.le_refl _))
      have new : ObjOk X.prog X.w (upd Hi s.heap.objs.size (.tup [xs[i], ys[i]])) h' s.heap.objs.size (.tup [xs[i], ys[i]]) := ⟨by show 2 ≤ sizeLine; decide, [u, u2], .cons ru (.cons ru2 .nil), ⟨_, np, rfl, _, rfl⟩⟩
      have I1 : Inv X pins σ (upd Hi s.heap.objs.size (.tup [xs[i], ys[i]])) { s with heap := h' } := I.turnedNew (t' := s.toks) (ch := [z, TI, TO, i1, i2]) kp hf (Nat.le_refl _) new
      have nT : ∀ b, b < s.heap.objs.size → b ≠ s.heap.objs.size := fun b hb => Nat.ne_of_lt hb
      have hlS := Heap.lt_size hl
      have lz := Z.zlt
      have lTI := pair_lt Z.ti
      obtain ⟨o1, e1, _⟩ := id Z.it1
      obtain ⟨o2, e2, _⟩ := id Z.it2
      obtain ⟨o3, e3⟩ := Z.to
      have chlt : ∀ b ∈ [z, TI, TO, i1, i2], b < s.heap.objs.size := fun b hb => by
        simp only [List.mem_cons, List.mem_nil_iff, or_false] at hb
        rcases hb with rfl | rfl | rfl | rfl | rfl
        · exact lz
        · exact lTI
        · exact Heap.lt_size e3
        · exact Heap.lt_size e1
        · exact Heap.lt_size e2
      have up : ∀ b, b < s.heap.objs.size → FpOk X pins Hi b → FpOk X pins (upd Hi s.heap.objs.size (.tup [xs[i], ys[i]])) b := fun b hb f => ⟨by rw [upd_ne (nT b hb)]; exact f.1, f.2⟩
      have hS' := kp S _ hS hl
      show wpAny _ A.in1 (updateSeq S (·.push (.ref s.heap.objs.size)) >>= _) _ _ _
      have hTs : Ts.length = i := by
        rw [LA.len, List.length_take, List.length_zip]
        omega
      have hacc : acc.size = i := by
        have : acc.toList.length = i := by rw [ha, List.length_map, hTs]
        simpa using this
      refine wpAny_bind (wpAny_updateSeq hS' rfl (wpAny_pure ⟨plainId_quiet F.plain_extend_loop _, ?_⟩) (by rw [hacc]; omega) (by show (acc.push _).size ≤ sizeLine + 1; rw [Array.size_push, hacc]; omega))
      have k3 : ∀ b o, b ≠ S → h'.get? b = some o → (h'.update S (Obj.mapSeq (·.push (.ref s.heap.objs.size)))).get? b = some o := fun b o hb e => (Heap.get?_update_other _ _ (Ne.symm hb)).trans e
      obtain ⟨f0, f1, f2, f3, f4, f5⟩ := up S hlS hfS
      have I2 : Inv X pins σ (upd Hi s.heap.objs.size (.tup [xs[i], ys[i]])) { s with heap := h'.update S (Obj.mapSeq (·.push (.ref s.heap.objs.size))) } := I1.turned (t' := s.toks) k3 f0 f1 f3 f4 f5
      refine ih (xs.length - (i + 1)) (by omega) (i + 1) _ _ (Ts ++ [s.heap.objs.size]) (acc.push (.ref s.heap.objs.size)) _ rfl hlt.1 hlt.2 I2 (fun b hb => up b (chlt b hb) (hf b hb)) ⟨f0, f1, f2, f3, f4, f5⟩ ?_ ?_ (Heap.get?_update_self _ hS' rfl) ?_
      · have e : (xs.zip ys).take (i + 1) = (xs.zip ys).take i ++ [(xs[i], ys[i])] := by
          rw [List.take_add_one, List.getElem?_eq_getElem (by rw [List.length_zip]; omega), List.getElem_zip]
          rfl
        rw [e]
        exact .snoc LA szT.1
      · have nS : ∀ b ∈ [z, TI, TO, i1, i2], b ≠ S := fun b hb e => hS (e ▸ hb)
        refine ⟨k3 _ _ (nS _ (by simp)) Z'.ti, Z'.it1.at fun o q => k3 _ _ (nS _ (by simp)) q, Z'.it2.at fun o q => k3 _ _ (nS _ (by simp)) q, let ⟨o, q⟩ := Z'.to; ⟨o, k3 _ _ (nS _ (by simp)) q⟩, Z'.out, ?_⟩
        rcases Z'.st with ⟨e, _⟩ | ⟨T, f, o, hT, ho, hz⟩
        · simp at e
        · by_cases hTS : T = S
          · subst hTS
            exact .inr ⟨T, f, _, hT, Heap.get?_update_self _ hS' rfl, k3 _ _ (nS _ (by simp)) hz⟩
          · exact .inr ⟨T, f, o, hT, k3 _ _ hTS ho, k3 _ _ (nS _ (by simp)) hz⟩
      · rw [Array.toList_push, ha, List.map_append]
        rfl
    · have l1 := rv.length
      have l2 := rv2.length
      have he : its.toArray[i]? = none ∨ its2.toArray[i]? = none := by
        by_cases h : i < xs.length
        · exact .inr (by simp; omega)
        · exact .inl (by simp; omega)
      refine wpAny_bind (Z.stop hh D p1 p2 he fun h' kp => wpAny_pure ?_)
      have I1 : Inv X pins σ Hi { s with heap := h' } := I.turnedL (t' := s.toks) (ch := [z, TI, TO, i1, i2]) kp hf
      have e : (xs.zip ys).take i = xs.zip ys := List.take_of_length_le (by rw [List.length_zip]; omega)
      rw [e] at LA
      exact hR _ Hi Ts acc c LA I1 hfS (kp S _ hS hl) ha
end
theorem zip_no_len : typeLookup (.type "zip") "__len__" = pure none := am_miss_of_fast (by decide +kernel)
theorem zip_no_hint : typeLookup (.type "zip") "__length_hint__" = pure none := am_miss_of_fast (by decide +kernel)
def tListZip (K : PySem.W.Frag) (ta : TA) : TE := fun σ H Q => ta σ H fun vs H1 => ∃ a b xs ys, vs = [V.ref a, V.ref b] ∧ SqT K H1 a xs ∧ SqT K H1 b ys ∧ ∀ Hn Ts p, Laid H1 Ts (xs.zip ys) Hn → Hn p = none → Q (.ref p) (upd Hn p (.lst (Ts.map V.ref)))
theorem vals_refs : ∀ Ts : List Addr, Vals (Ts.map V.ref) (Ts.map Value.ref)
  | [] => .nil
  | T :: Ts => .cons rfl (vals_refs Ts)
section
variable {X : Cx}
theorem pe_listZip {e e2 : Expr} {ta : TA} {p q pos pos2 : Pos} (hc : X.calm = true) (hg : Gl X "zip") (hm : X.mg "zip" = none) (hg2 : Gl X "list") (hm2 : X.mg "list" = none) (ha : PA X [e, e2] ta)
    (hs : starEach [e, e2] X.env = (false, eval e X.env) :: starEach [e2] X.env := by rfl) (hpl : (backTo pos (starEach [e2] X.env)).any (·.1) = false := by rfl)
    (hs2 : starEach [.Call (.Name "zip" p) [e, e2] [] pos] X.env = (false, eval (.Call (.Name "zip" p) [e, e2] [] pos) X.env) :: starEach [] X.env := by rfl) :
    PE X (.Call (.Name "list" q) [.Call (.Name "zip" p) [e, e2] [] pos] [] pos2) (tListZip X.K ta) := by
  refine ⟨fun pins s0 σ H Q I0 h => ?_⟩
  refine wpAny_Call_Name_kw (ld_blt I0 hg2 hm2 PyProof.Rows.boot_list ?_)
  refine PyProof.Rows.callWith_type1 ?_ hs2 rfl
  rw [hs2]
  show wpAny _ _ (spliced ((false, eval (.Call (.Name "zip" p) [e, e2] [] pos) X.env) :: backTo pos2 (starEach [] X.env))) _ _ s0
  refine Calls.spliced_cons (Call_ (ld_blt I0 hg hm PyProof.Rows.boot_zip (PyProof.Rows.callWith_type1 (thn (ha.run pos pins s0 σ H _ I0 h) fun us s1 ⟨vs, H1, I1, r1, q1⟩ => ?_) hs hpl)))
  obtain ⟨a, b, xs, ys, ex, hqx, hqy, q⟩ := q1
  subst ex
  cases r1 with
  | cons r rr =>
  cases rr with
  | cons r' rr =>
  cases rr
  cases r
  cases r'
  obtain ⟨its, rv, p1, hz1⟩ := I1.tuple hqx
  obtain ⟨its2, rv2, p2, _⟩ := I1.tuple hqy
  obtain ⟨o1, ho1, _⟩ := id p1
  obtain ⟨o2, ho2, _⟩ := id p2
  refine RZ.call_zipT (show s1.heap.IsTuple a its.toArray from p1) (show s1.heap.IsTuple b its2.toArray from p2) fun h' hz hTI hTO h1 h2 hsz hk => Calls.spliced_nil ?_
  have D := PySem.W.ktu_apart s1.heap.objs.size a b (Heap.lt_size ho1) (Heap.lt_size ho2)
  have I2 : Inv X pins σ H1 { s1 with heap := h' } := I1.kept (t' := s1.toks) hk
  have fresh5 : ∀ c, c ∈ [s1.heap.objs.size + 4, s1.heap.objs.size + 2, s1.heap.objs.size + 3, s1.heap.objs.size, s1.heap.objs.size + 1] → FpOk X pins H1 c ∧ c < h'.objs.size := fun c hcm => by
    have e' : c = s1.heap.objs.size + 4 ∨ c = s1.heap.objs.size + 2 ∨ c = s1.heap.objs.size + 3 ∨ c = s1.heap.objs.size ∨ c = s1.heap.objs.size + 1 := by simpa using hcm
    have hle : s1.heap.objs.size ≤ c ∧ c < s1.heap.objs.size + 5 := by
      rcases e' with z | z | z | z | z
      · rw [z]; exact ⟨Nat.le_add_right _ _, Nat.add_lt_add_left (by decide) _⟩
      · rw [z]; exact ⟨Nat.le_add_right _ _, Nat.add_lt_add_left (by decide) _⟩
      · rw [z]; exact ⟨Nat.le_add_right _ _, Nat.add_lt_add_left (by decide) _⟩
      · rw [z]; exact ⟨Nat.le_refl _, Nat.lt_add_of_pos_right (by decide)⟩
      · rw [z]; exact ⟨Nat.le_add_right _ _, Nat.add_lt_add_left (by decide) _⟩
    exact ⟨I1.fpOk hle.1 (I1.hok.fresh hle.1), by rw [hsz]; exact hle.2⟩
  generalize hs2' : ({ s1 with heap := h' } : Shared) = s2 at I2
  have h2e : s2.heap = h' := by rw [← hs2']
  rw [← h2e] at hz hTI hTO h1 h2 fresh5
  generalize s1.heap.objs.size + 4 = z at *
  generalize s1.heap.objs.size + 2 = TI at *
  generalize s1.heap.objs.size + 3 = TO at *
  generalize s1.heap.objs.size + 1 = i2 at *
  generalize s1.heap.objs.size = i1 at *
  have Z0 : ZT s2.heap z TI TO i1 i2 a b 0 [] := ⟨hTI, h1, h2, ⟨_, hTO⟩, by simp, .inl ⟨rfl, hz, _, _, hTO⟩⟩
  have kS : ∀ b o, s2.heap.get? b = some o → (s2.heap.push { cls := .type "list", data := .seq #[] }).get? b = some o := fun b o e => Heap.get?_push_of_some _ e
  refine callType_codes (Q₁ := fun obj s₁ => obj = .ref s2.heap.objs.size ∧ s₁ = { s2 with heap := s2.heap.push { cls := .type "list", data := .seq #[] } }) F.called_list (F.typeCall_list_1 _) F.entry_list_init
    (code_list_new _ ⟨rfl, rfl⟩) fun obj s₁ hobj => ?_
  obtain ⟨rfl, rfl⟩ := hobj
  have hS : (s2.heap.push { cls := .type "list", data := .seq #[] }).get? s2.heap.objs.size = some { cls := .type "list", data := .seq #[] } := Heap.get?_push_size _ rfl
  refine ⟨⟨_, hS, rfl⟩, F.args_list_init_2 _ _, ?_⟩
  have hSch : s2.heap.objs.size ∉ [z, TI, TO, i1, i2] := fun hm => Nat.lt_irrefl _ (fresh5 _ hm).2
  have hSz : s2.heap.objs.size ≠ z := fun e => hSch (by rw [e]; simp)
  show wpAny _ X.A.in1.in1 (do let old ← Builtin.List.listItems (.ref s2.heap.objs.size); Builtin.List.listUpdate (.ref s2.heap.objs.size) (fun _ => #[]); letGo old.toList.reverse; Builtin.List.listExtendWith (.ref s2.heap.objs.size) (.ref z) .none) _ _ _
  refine wpAny_bind ?_
  unfold Builtin.List.listItems
  refine wpAny_bind (wpAny_seqItems hS rfl (wpAny_pure ?_))
  show wpAny _ X.A.in1.in1 (updateSeq s2.heap.objs.size (fun _ => #[]) >>= fun _ => letGo (#[] : Array Value).toList.reverse >>= fun _ => Builtin.List.listExtendWith (.ref s2.heap.objs.size) (.ref z) .none) _ _ _
  refine wpAny_bind (wpAny_updateSeq hS rfl ?_)
  have hS2 := Heap.get?_update_self (Obj.mapSeq (fun _ => (#[] : Array Value))) hS rfl
  refine wpAny_bind (wpAny_letGo ?_)
  unfold Builtin.List.listExtendWith
  have upk : ∀ (h : Heap) (f : Obj → Obj), (∀ b o, s2.heap.get? b = some o → h.get? b = some o) → ∀ b o, s2.heap.get? b = some o → (h.update s2.heap.objs.size f).get? b = some o := fun h f q b o e =>
    (Heap.get?_update_other _ _ (Ne.symm (Nat.ne_of_lt (Heap.lt_size e)))).trans (q b o e)
  have k2 := upk _ (Obj.mapSeq (fun _ => (#[] : Array Value))) kS
  have tz : ∀ {h : Heap}, (∀ b o, s2.heap.get? b = some o → h.get? b = some o) → ∀ s' : Shared, s'.heap = h → s'.TypeIs (.ref z) "zip" := fun {h} q s' e => ⟨_, by rw [e]; exact q _ _ hz, rfl⟩
  refine wpAny_bind (wpAny_typeOf (tz k2 _ rfl) ?_)
  have n1 : Builtin.List.listSameRef (.ref s2.heap.objs.size) (.ref z) = false := by simp [Builtin.List.listSameRef, hSz]
  have n2 : (Value.type "zip" == Value.type "list") = false := by decide
  have n3 : (Value.type "zip" == Value.type "tuple") = false := by decide
  simp only [n1, n2, n3, Bool.or_false, Bool.false_eq_true, if_false]
  refine wpAny_bind (wpAny_pyIter_zip (s := { s2 with heap := _ }) (k2 _ _ hz) ?_)
  refine wpAny_bind (wpAny_holding ?_)
  unfold Builtin.List.listLengthHint
  refine wpAny_bind (wpAny_specialOf (tz k2 _ rfl) zip_no_len ?_)
  show wpAny _ X.A.in1.in1 (specialOf (Value.ref z) (Str.ofString "__length_hint__") >>= _) _ _ _
  refine wpAny_bind (wpAny_specialOf (tz k2 _ rfl) zip_no_hint ?_)
  refine wpAny_pure ?_
  show wpAny _ X.A.in1.in1 (rule "list.extend.makes-room" >>= fun _ => Builtin.List.listTouch (.ref s2.heap.objs.size) >>= fun _ => again (.builtin "list.extend.loop" ⟨[.ref s2.heap.objs.size, .ref z, .none], []⟩)) _ _ _
  refine wpAny_bind (wpAny_rule ?_)
  refine wpAny_bind ?_
  show wpAny _ X.A.in1.in1 (updateSeq s2.heap.objs.size (·.push .none) >>= fun _ => updateSeq s2.heap.objs.size (·.pop)) _ _ _
  refine wpAny_bind (wpAny_updateSeq hS2 rfl ?_)
  have hS3 := Heap.get?_update_self (Obj.mapSeq (·.push Value.none)) hS2 rfl
  refine wpAny_updateSeq (hz := by seq_fits) hS3 rfl ?_
  have hS4 := Heap.get?_update_self (Obj.mapSeq (·.pop)) hS3 rfl
  have k4 := upk _ (Obj.mapSeq (·.pop)) (upk _ (Obj.mapSeq (·.push Value.none)) k2)
  refine wpAny_pure ⟨plainId_quiet F.plain_extend_loop _, ?_⟩
  have J : Inv X pins σ H1 { s2 with heap := (((s2.heap.push { cls := .type "list", data := .seq #[] }).update s2.heap.objs.size (Obj.mapSeq (fun _ => (#[] : Array Value)))).update s2.heap.objs.size (Obj.mapSeq (·.push Value.none))).update s2.heap.objs.size (Obj.mapSeq (·.pop)) } := I2.kept (t' := s2.toks) k4
  have fS : FpOk X pins H1 s2.heap.objs.size := I2.fpOk (Nat.le_refl _) (I2.hok.fresh (Nat.le_refl _))
  refine drain_zipT (X := X) (pins := pins) (σ := σ) (A := X.A.in1) (I0.ok.hd hc) D hSch hqx hqy hz1 (fun s' Hn Ts acc c LA I9 f9 e9 a9 => ?_) _ 0 _ H1 [] #[] _ rfl (Nat.zero_le _) (Nat.zero_le _) J (fun b hb => (fresh5 b hb).1) fS (by rw [List.take_zero]; exact .nil)
    ⟨k4 _ _ Z0.ti, Z0.it1.at fun o e => k4 _ _ e, Z0.it2.at fun o e => k4 _ _ e, let ⟨o, e⟩ := Z0.to; ⟨o, k4 _ _ e⟩, by simp, .inl ⟨rfl, k4 _ _ hz, _, _, k4 _ _ hTO⟩⟩ hS4 rfl
  have hlen : (Ts.map V.ref).length ≤ sizeLine := by
    rw [List.length_map, LA.len, List.length_zip]
    exact Nat.le_trans (Nat.min_le_left _ _) hz1
  exact ⟨rfl, .ref s2.heap.objs.size, _, DL.Inv.adopt I9 f9 hlen e9 (by rw [a9]; exact vals_refs Ts), rfl, q Hn Ts _ LA f9.1⟩
end
def pairN (p : Nat × Nat) : D := .tup [.int p.1, .int p.2]
theorem Laid.sat {K : PySem.W.Frag} {B0 : Hp} {F : List Addr} {H Hn : Hp} {σ : L2.St} {Γ : Gam} {ts : List V} {τ : List D} {L : Cells} {Ts : List Addr} {ps : List (V × V)} (S : Sat K B0 F H σ Γ ts τ L) (LA : Laid H Ts ps Hn) :
    ∀ l : List (Nat × Nat), ps = l.map (fun p => (V.int p.1, V.int p.2)) → Sat K B0 F Hn σ Γ ts τ L ∧ ObL K (vis Hn (F ++ adr L)) (Ts.map V.ref) (l.map pairN) := by
  induction LA with
  | nil =>
    intro l e
    have : l = [] := by cases l <;> first | rfl | simp at e
    subst this
    exact ⟨S, .nil⟩
  | @snoc Ts ps H' T x y LA hn ih =>
    intro l e
    obtain ⟨l1, l2, rfl, e1, e2⟩ := List.map_eq_append_iff.mp e.symm
    obtain ⟨a, rfl, e3⟩ := List.map_eq_singleton_iff.mp e2
    cases e3
    obtain ⟨S1, o1⟩ := ih l1 e1.symm
    obtain ⟨S2, le, h2⟩ := S1.newB (o := .tup [V.int a.1, V.int a.2]) hn
    refine ⟨S2, ?_⟩
    rw [List.map_append, List.map_append]
    exact (o1.mono le).append (.cons (.tup (SqT.of h2) (.cons (.int _) (.cons (.int _) .nil))) .nil)
theorem zip_ints (l1 l2 : List Nat) : ((l1.map fun (n : Nat) => V.int (n : Int)).zip (l2.map fun (n : Nat) => V.int (n : Int))) = (l1.zip l2).map fun p => (V.int p.1, V.int p.2) := by
  rw [List.zip_map]
  rfl
theorem ev_listZip {X : Cx} {Γ : Gam} {L : Cells} {R : RD} {e e2 : Expr} {p q pos pos2 : Pos} (hc : X.calm = true) (hm : X.mg "zip" = none) (hm2 : X.mg "list" = none)
    (h : AgX X [e, e2] Γ L fun ds L1 => ∃ l1 l2 : List Nat, ds = [.tup (dnats l1), .tup (dnats l2)] ∧ ∀ p, R (.ref p) (L1 ++ [(p, .lst ((l1.zip l2).map pairN))])) (hg : Gl X "zip" := by rfl) (hg2 : Gl X "list" := by rfl)
    (hs : starEach [e, e2] X.env = (false, eval e X.env) :: starEach [e2] X.env := by rfl) (hpl : (backTo pos (starEach [e2] X.env)).any (·.1) = false := by rfl)
    (hs2 : starEach [.Call (.Name "zip" p) [e, e2] [] pos] X.env = (false, eval (.Call (.Name "zip" p) [e, e2] [] pos) X.env) :: starEach [] X.env := by rfl) :
    EvX X (.Call (.Name "list" q) [.Call (.Name "zip" p) [e, e2] [] pos] [] pos2) Γ L R := .mk fun S k =>
  we_of (pe_listZip hc hg hm hg2 hm2 pa_w hs hpl hs2) (h.run S fun vs ds H1 L1 ⟨l1, l2, ed, r⟩ hl S1 => by
    subst ed
    obtain ⟨o, S2⟩ := S1.args hl
    obtain ⟨v, w, rfl, o1, o2⟩ := o.two
    cases o1 with
    | tup s1 t1 =>
    cases o2 with
    | tup s2 t2 =>
    rw [dnats_dints] at t1 t2
    have e1 := t1.toInts
    have e2 := t2.toInts
    rw [List.map_map] at e1 e2
    refine ⟨_, _, _, _, rfl, vis_le.sqT s1, vis_le.sqT s2, fun Hn Ts p LA hp => ?_⟩
    obtain ⟨S3, o3⟩ := Laid.sat S2 LA (l1.zip l2) (by rw [e1, e2]; exact zip_ints l1 l2)
    have S4 := S3.newC (o := .lst (Ts.map V.ref)) (d := .lst ((l1.zip l2).map pairN)) hp fun B le => ⟨_, upd_same, o3.mono le⟩
    exact k _ _ _ _ (r p) (S4.push (.ref p)))
end DL
set_option maxRecDepth 100000
set_option maxHeartbeats 4000000
/-! DLV: repr of tuples of ints where no repr is under way; defs that ask for that. -/
namespace DL
open PySem PySem.Spec PyProof.Rows L2
/-- the text of a tuple of small ints -/
def natsText (l : List Nat) : Str := tupleText (l.map fun (n : Nat) => (toString (n : Int) : Str))
theorem small_text : ∀ n : Nat, n < 100 → (toString (n : Int) : Str).length ≤ 3 := by decide +kernel
theorem piled_small : ∀ l : List Nat, (∀ n ∈ l, n < 100) → piled (l.map fun (n : Nat) => (toString (n : Int) : Str)) ≤ l.length * 5
  | [], _ => Nat.le_refl _
  | n :: l, h => by
    have h1 := small_text n (h n List.mem_cons_self)
    have h2 := piled_small l fun m hm => h m (List.mem_cons_of_mem _ hm)
    rw [List.map_cons, piled_cons, List.length_cons]
    omega
theorem repr_small {prog : Program} {w : World} : ∀ {l : List Nat} {its : List Value}, Vals (l.map fun (n : Nat) => V.int (n : Int)) its → (∀ n ∈ l, n < 100) → ReprAll prog w its (l.map fun (n : Nat) => (toString (n : Int) : Str))
  | [], _, r, _ => by
    cases r
    exact .nil
  | n :: l, _, r, h => by
    cases r with
    | cons r1 r2 =>
      obtain ⟨t, rfl⟩ := r1
      refine .cons (ReprIs.int t ?_) (repr_small r2 fun m hm => h m (List.mem_cons_of_mem _ hm))
      have := h n List.mem_cons_self
      have : Nat.log2 n < 7 := by
        rcases Nat.eq_zero_or_pos n with z | z
        · subst z; decide
        · exact (Nat.log2_lt (by omega)).mpr (by omega)
      show Nat.log2 (Int.natAbs (n : Int)) < 1920
      rw [Int.natAbs_natCast]
      omega
section
variable {X : Cx}
theorem call_repr_nats {k : Nat} (hr : Room k X.A) (hg : X.A.guards = some []) : CallR X (.builtin "repr") (fun xs H Q => ∃ (a : Addr) (l : List Nat), xs = [.ref a] ∧ SqT X.K H a (l.map fun (n : Nat) => V.int (n : Int)) ∧ (∀ n ∈ l, n < 100) ∧ l.length ≤ 1000 ∧ Q (.str (natsText l)) H) := by
  intro pins s σ H xs us Q I r h
  obtain ⟨a, l, rfl, ht, hs, hl, q⟩ := h
  obtain ⟨u, rfl, ru⟩ := vals1 r
  cases ru
  obtain ⟨its, rv, ⟨o, ho, hcl, n, hd⟩, _⟩ := I.tuple ht
  have hu := hr.un
  have htx := fmt_text (l.map fun (n : Nat) => (toString (n : Int) : Str))
  have hp := piled_small l hs
  have hz : (tupleText (l.map fun (n : Nat) => (toString (n : Int) : Str))).length ≤ sizeLine := by
    have : 5002 ≤ sizeLine := by decide
    omega
  refine call_repr_slot (T := "tuple") (idr := "tuple.__repr__") (by omega) ⟨o, ho, hcl⟩ F.slot_tuple_repr (call_tuple_repr (g := []) ⟨o, ho, hcl⟩ hg (fun c hc => by cases hc) ho hd (repr_small rv hs) (fun u tk => ⟨_, _, rfl, .str _, H, I.tok _, ⟨u, rfl⟩, q⟩) hz)
theorem oa_repr {K : PySem.W.Frag} {L : Cells} {R : RD} {l : List Nat} (hs : ∀ n ∈ l, n < 100) (hl : l.length ≤ 1000) (r : R (.str (natsText l)) L) :
    OpA K (fun xs H Q => ∃ (a : Addr) (l : List Nat), xs = [V.ref a] ∧ SqT K H a (l.map fun (n : Nat) => V.int (n : Int)) ∧ (∀ n ∈ l, n < 100) ∧ l.length ≤ 1000 ∧ Q (.str (natsText l)) H) [.tup (dnats l)] L R := .mk fun {B0 F H σ Γ ts vs τ Q} S hl2 q => by
  obtain ⟨o, S2⟩ := S.args hl2
  obtain ⟨v, rfl, o1⟩ := o.one
  cases o1 with
  | tup s t =>
    rw [dnats_dints] at t
    have e := t.toInts
    rw [List.map_map] at e
    exact ⟨_, l, rfl, by rw [e] at s; exact vis_le.sqT s, hs, hl, q _ _ _ _ r (S2.push (.str _))⟩
end
/-! ### defs that run where no repr is under way -/
structure FnOkG (P : Program) (w : World) (K : PySem.W.Frag) (mg : Str → Option Value) (base : Heap) (CX : CXT) (k : Nat) (f : Addr) (fd : FuncData) (ps : List Str) (sp : Sp) : Prop where
  len : ∀ vs H Q E, sp vs H Q E → vs.length = ps.length
  run : ∀ (A : Around) (outer : List Env) (s : Shared) (H : Hp) (args : Args) (us : List Value) (vs : List V) (Q : VK) (E : XK), A.guards = some [] → Room k A → Env0 P w K mg base A outer s H → BindsTo s fd args (ps.zip us) → Vals vs us → sp vs H Q E →
    codeAny (model P w) A (.call (.ref f) args) (CR CX outer P w H s Q E) s
theorem deeper_guards {A : Around} {env : Env} (h : A.guards = some []) : (A.deeper env).guards = some [] := h
section
variable {X : Cx} {CX : CXT} {k : Nat} {f : Addr} {fd : FuncData} {ps : List Str} {sp : Sp} {E : XK} {x : Str} {p pos : Pos} {e : Expr} {es : List Expr} {t : TA}
theorem pe_callG (F : FnOkG X.prog X.w X.K X.mg X.base CX k f fd ps sp) (hA : X.A.guards = some []) (hr : Room k X.A) (hg : Gl X x) (hm : X.mg x = some (.ref f)) (hk : PySem.W.keepIn X.K (.ref f) = true) (hb : Binds X.K fd ps []) (hx : Passes CX X E)
    (ha : PA X (e :: es) t) (hdb : (x == ("__debug__" : Str)) = false := by decide) (he : starEach (e :: es) X.env = (false, eval e X.env) :: starEach es X.env := by rfl) (hpl : (backTo pos (starEach es X.env)).any (·.1) = false := by rfl) :
    PE X (.Call (.Name x p) (e :: es) [] pos) (tCall sp [] E t) := by
  refine ⟨fun pins s σ H Q I h => ?_⟩
  refine wpAny_Call_Name_kw (ld_glob I hg hm ?_ hdb)
  refine PySem.W.callWith_K (h₀ := X.base) I.ok.mod.kin hk (thn (ha.run pos pins s σ H _ I h) fun us s1 ⟨vs, H1, I1, r, q⟩ => ⟨I1.kIn, ?_⟩) he hpl
  have q : sp vs H1 Q E := by rw [← List.append_nil vs]; exact q
  have hl : us.length = ps.length := by rw [← r.length]; exact F.len _ _ _ _ q
  have bt : BindsTo s1 fd ⟨us, []⟩ (ps.zip us) := by
    have := hb s1 us I1.kIn (by rw [List.append_nil]; exact hl)
    rwa [List.append_nil] at this
  refine wpAny_call (codeAny_mono (F.run X.A X.stack s1 H1 ⟨us, []⟩ us vs Q E hA hr I1.env0 bt r q) fun r s' hq => ?_)
  cases r with
  | error e => exact hx pins σ H1 s1 e s' I1 hq
  | ok fl =>
    cases fl with
    | ret u => exact I1.after hq
    | next => exact False.elim hq
    | brk => exact False.elim hq
    | cont => exact False.elim hq
end
theorem FnOkG.of {P : Program} {w : World} {K : PySem.W.Frag} {mg : Str → Option Value} {base : Heap} {CX : CXT} {k : Nat} {f : Addr} {fd : FuncData} {ps : List Str} {sp : Sp} (F : FnOk P w K mg base CX k f fd ps sp) : FnOkG P w K mg base CX k f fd ps sp := ⟨F.len, fun A outer s H args us vs Q E _ => F.run A outer s H args us vs Q E⟩
section
variable {X : Cx} {Γ : Gam} {L : Cells} {R : RD} {e o : Expr} {es : List Expr} {pos : Pos}
theorem ev_callG {α : Type} {args : α → List D} {cells : α → Cells} {post : α → RD} {k : Nat} {f : Addr} {fd : FuncData} {ps : List Str} {x : Str} {p : Pos} (G : FnOkG X.prog X.w X.K X.mg X.base CX0 k f fd ps (spD X.K args cells post)) (hA : X.A.guards = some []) (hr : Room k X.A)
    (hm : X.mg x = some (.ref f)) (hk : PySem.W.keepIn X.K (.ref f) = true) (hb : Binds X.K fd ps [])
    (h : AgX X (e :: es) Γ L fun ds L1 => ∃ x Lk, ds = args x ∧ L1.Perm (cells x ++ Lk) ∧ ∀ d L', post x d L' → R d (L' ++ Lk)) (hg : Gl X x := by rfl)
    (hdb : (x == ("__debug__" : Str)) = false := by decide) (he : starEach (e :: es) X.env = (false, eval e X.env) :: starEach es X.env := by rfl) (hpl : (backTo pos (starEach es X.env)).any (·.1) = false := by rfl) :
    EvX X (.Call (.Name x p) (e :: es) [] pos) Γ L R := .mk fun S q =>
  we_of (pe_callG (E := E0) G hA hr hg hm hk hb pass0 pa_w hdb he hpl) (h.run S fun vs ds H1 L1 ⟨y, Lk, e1, e2, r⟩ hl S1 => by
    subst e1
    refine ⟨y, _, _, by simp [hl], by rw [List.append_nil]; exact S1.into hl e2, fun d L' v H' σ Γ' hp S2 => ?_⟩
    exact q v d H' _ (r d L' hp) ((S1.args hl).2.back e2 S2))
end
/-- a def keeps its promise where no repr is under way -/
theorem fn_okG {P : Program} {w : World} {K : PySem.W.Frag} {mg : Str → Option Value} {base : Heap} {α : Type} {args : α → List D} {cells : α → Cells} {post : α → RD} {x qual : Str} {params : Arguments} {body : List Stmt} {scope : Scope} {f : Addr} {fd : FuncData} {N ps : List Str} {k : Nat} {kws : List (Str × V)}
    (G : FunD K x qual params body scope [] kws f fd) (S : FnScope N ps scope) (len : ∀ x, (args x).length = ps.length) (hN : ps.length ≤ N.length)
    (hbody : ∀ (cdv : Value) (A : Around) (outer : List Env) (s : Shared) (H : Hp) (E : XK), (CxF P w K mg base N qual scope f cdv A outer s H E).A.guards = some [] → Room k (CxF P w K mg base N qual scope f cdv A outer s H E).A → ∀ x : α,
      BlX (CxF P w K mg base N qual scope f cdv A outer s H E) body ((args x).map some ++ List.replicate (N.length - ps.length) none) (cells x) { nx := fun _ L => post x .non L, rt := post x }) :
    FnOkG P w K mg base CX0 (k + 1) f fd ps (spD K args cells post) := by
  obtain ⟨oc, od, dV, kV, doc, pm, an, cdv, ct, osl, rfl, lk, hcd, _, _⟩ := G.ex
  have ln : ∀ vs H Q E, spD K args cells post vs H Q E → vs.length = ps.length := fun vs H Q E h => by
    obtain ⟨x, B0, F, e, _⟩ := h
    exact e.trans (len x)
  refine ⟨ln, fun A outer s H as us vs Q E hgA hr e0 hb r hsp => ?_⟩
  have hl := ln _ _ _ _ hsp
  have kp := fun b o e => (e0.bs b o e).1
  have KX : K.In s.heap := e0.mod.kin.keeps kp
  have lim : s.heap.NoLimit := e0.mod.nolimit.keeps kp
  refine codeAny_call_function hr.depth (KX _ _ lk) rfl S.co S.gen rfl (PySem.W.codeRec_of KX hcd) (hb _ _ _ _ ?_)
  refine wpAny_newFunctionEnv_cells S.kind (fun y hy => (S.par y.1 (List.of_mem_zip hy).1).imp id fun q => ⟨q, PySem.W.cellsFrom_some _ _ _ (.inl q)⟩) fun env he s1 x => ?_
  subst he
  refine ⟨lim.keeps x.toInCall.keep, codeAny_func ?_⟩
  obtain ⟨y, B0, F, e, S1, k1⟩ := hsp
  have hl1 := S1.temps.length
  have S2 : Sat K B0 F H (L2.start N vs) ((args y).map some ++ List.replicate (N.length - ps.length) none) [] [] (cells y) := by
    refine ⟨S1.base, S1.fo, S1.nd, S1.cells, by simp [L2.start, e, len y], fun i d hd => ?_, .nil⟩
    by_cases hi : i < (args y).length
    · rw [List.getElem?_append_left (by simpa using hi), List.getElem?_map] at hd
      cases hq : (args y)[i]? with
      | none => rw [hq] at hd; cases hd
      | some d' =>
        rw [hq] at hd
        cases hd
        obtain ⟨v, e1, o⟩ := S1.temps.get hq
        refine ⟨v, ?_, o⟩
        unfold L2.start
        rw [List.getElem?_append_left (by simpa [e] using hi), List.getElem?_map, e1]
        rfl
    · rw [List.getElem?_append_right (by simp; omega)] at hd
      have := List.mem_of_getElem? hd
      simp at this
  have hbd := (hbody cdv A outer s H E (deeper_guards hgA) (hr.deeper _) y).run (D := { nx := fun _ H' => Q .non H', rt := Q }) S2 ⟨fun Γ L σ H' q S3 => k1 _ _ _ _ _ _ q (S3.push .non), fun d L v σ Γ H' q S3 => k1 _ _ _ _ _ _ q S3, fun _ _ _ _ q _ => q.elim, fun _ _ _ _ q _ => q.elim⟩
  have pss : PSs (cxOf CX0 P w K mg base N qual scope f cdv A outer s H E) body (WSs (CxF P w K mg base N qual scope f cdv A outer s H E) body) := PSs.nox pss_w
  have I : Inv (cxOf CX0 P w K mg base N qual scope f cdv A outer s H E) [] (L2.start N vs) H s1 := inv_start S hr.hd e0 hl r x
  refine wpAny_mono (pss.run [] s1 (L2.start N vs) H { nx := fun _ H' => Q .non H', rt := Q } I hbd) (fun fl s' hs => ?_) fun e s' hs => hs
  cases fl with
  | ret u =>
    obtain ⟨v, σ', H', J, rv, q⟩ := hs
    exact ⟨v, H', J.os, J.bare, J.base, J.hok, rv, q⟩
  | next =>
    obtain ⟨σ', H', J, q⟩ := hs
    exact ⟨.non, H', J.os, J.bare, J.base, J.hok, rfl, q⟩
  | brk =>
    obtain ⟨_, _, _, q⟩ := hs
    exact q.elim
  | cont =>
    obtain ⟨_, _, _, q⟩ := hs
    exact q.elim
/-- len of a frozen instance -/
theorem oa_lenO {K : PySem.W.Frag} {L : Cells} {R : RD} {α : Type} {args : α → List D} {f : α → Nat} {C : Addr} {ns : List Str} {ds : List D} (x : α) (e : args x = [.ins C ns ds]) (hn : f x < 2 ^ 62) (r : R (.int (f x)) L) :
    OpA K (rLenO C (spD K args (fun _ => []) (fun x d L => d = .int (f x) ∧ L = []))) [.ins C ns ds] L R := .mk fun {B0 F H σ Γ ts vs τ Q} S hl q => by
  have o := (S.args hl).1
  obtain ⟨v, rfl, o1⟩ := o.one
  cases o1 with
  | ins s hl2 t =>
    have pm : L.Perm ([] ++ L) := .refl _
    refine ⟨_, _, _, rfl, vis_le.ins _ _ _ _ s, x, _, _, by rw [e]; rfl, by rw [e]; exact S.into hl pm, fun d L' v H' σ Γ' hp S2 => ?_⟩
    obtain ⟨rfl, rfl⟩ := hp
    have hv : v = .int (f x) := by cases S2.top; rfl
    subst hv
    exact ⟨f x, rfl, hn, q _ _ _ _ r ((S.args hl).2.back pm S2)⟩
end DL
set_option maxRecDepth 100000
set_option maxHeartbeats 4000000
/-! K33: closed parts. -/
namespace K50
open PySem PySem.Spec PyProof.Rows L2 DL
/-- the class of a node, out of the classes -/
theorem due_filter {G : Gr} {ms : List Nat} (c : Clz G ms) {u : Nat} (hu : u < G.n) : (((ddl ms).filter fun m => decide (u ∈ grp ms m)).map fun m => tnats (grp ms m))[0]? = some (tnats (grp ms (mrk ms u))) := by
  rw [c.grp hu]; rfl
theorem grp_lt {G : Gr} {ms : List Nat} (c : Clz G ms) {m : Nat} : ∀ n ∈ grp ms m, n < G.n := fun n hn => by
  rw [grp_mem] at hn
  rw [← c.ln]
  exact (List.getElem?_eq_some_iff.mp hn).1
theorem grpc_len {G : Gr} {ms : List Nat} (c : Clz G ms) (m : Nat) : (grp ms m).length ≤ G.n := by
  unfold grp
  refine Nat.le_trans (List.length_filter_le _ _) ?_
  rw [List.length_range, c.ln]
  exact Nat.le_refl _
theorem ddl_few {G : Gr} {ms : List Nat} (c : Clz G ms) : (ddl ms).length ≤ G.n := by
  have := ddl_len ms
  rw [c.ln] at this
  exact this
section
variable {P : Program} {w : World} {K : PySem.W.Frag} {mg : Str → Option Value} {base : Heap}
theorem ok_law_closed_right (Γ : Pg K mg) : FnOkG P w K mg base CX0 13 Γ.law_closed_right.f Γ.law_closed_right.fd P_law_closed_right (spD K (fun x : GpIn => [x.1.d Γ.CM]) NoC (fun x d L => d = .bl true ∧ L = [])) := by
  refine fn_okG Γ.law_closed_right.F sc_law_closed_right (fun _ => rfl) (by decide) (fun cdv A outer s H E hgA hr ⟨G, g⟩ => ?_)
  have nd := sc_law_closed_right.nd
  have few : G.n ≤ 100 := g.S.few
  refine bl_cons (st_set 1 nd (ev_ownP (ok_classes Γ) (hr.mono (by decide)) Γ.classes.g Γ.classes.F.kp (bi_classes Γ) (ag_cons (ev_v 0 rfl (ag_nil ⟨⟨G, g⟩, rfl, fun d hd => ?_⟩)))))
  obtain ⟨ms, rfl, c⟩ := hd
  have c : Clz G ms := c
  have fewD := ddl_few c
  refine bl_cons (st_for (js := [2]) rfl (itx_range1 Γ.b_range (ag_cons (ev_callB (call_lenO (ok_glen Γ) (hr.mono (by decide)) (bi_Graph_len Γ) Γ.l_len Γ.l_fn) Γ.b_len bt_len (ag_cons (ev_v 0 rfl (ag_nil (oa_lenO G rfl (by show G.n < _; omega) (ag_nil ⟨G.n, rfl, by omega, fun i Γ' L' => ∃ o2 o3 o4, Γ' = [some (G.d Γ.CM), some (grpsD ms), o2, o3, o4] ∧ L' = [], ?_, ?_, ?_⟩)))))))))
  · exact ⟨none, none, none, rfl, rfl⟩
  · rintro i d Γ' L' hd ⟨o2, o3, o4, rfl, rfl⟩
    have hi : i < G.n := by
      have := (List.getElem?_eq_some_iff.mp hd).1
      rw [rangeD_length] at this
      exact this
    rw [rangeD_get hi] at hd
    cases hd
    rw [Int.zero_add]
    refine tg_v 2 nd ?_
    refine bl_cons (st_if (te_cmp (op_eqD hr.units) (ev_meth Γ.clM Γ.m_needs (ok_needs Γ) (hr.mono (by decide)) (bi_Graph_needs Γ) (ev_v 0 rfl ⟨_, _, rfl, by decide, ag_cons (ev_v 2 rfl (ag_nil ⟨⟨G, i, g.S, hi⟩, rfl, rfl, fun d L' hd => ?_⟩))⟩))))
    obtain ⟨rfl, rfl⟩ := hd
    refine ev_tup (ag_nil ⟨sz, o2_eqD (pure_nats _) rfl (shaped_tup (plain_nats _)) (shaped_tup (by simp)) (eqv_nilT _) ⟨_, rfl, ?_⟩⟩)
    by_cases hn : G.need i = []
    · refine iteT' (by show (dnats (G.need i)).isEmpty = true; rw [hn]; rfl) ?_
      refine bl_cons (st_set 3 nd (ev_ix ix_list (ev_selT [("_law_some", 4)] (fun m : Nat => tnats (grp ms m)) (fun m => tnats (grp ms m)) (fun m => decide (i ∈ grp ms m)) rfl nd rfl (js := [4]) (by decide) (itx_tup (ev_v 1 rfl ⟨_, rfl, ddl ms, rfl, szle (by omega), fun m hm => ⟨fun s H C cl fp => tg_v 4 nd ⟨rfl, fun s H C cl fp => ?_⟩⟩, ev_int (o2_ixL (n := 0) (due_filter c hi) ?_)⟩)))))
      · refine te_cmp op_in_seq (ev_v 2 rfl (ev_v 4 rfl (o2_inI (neg := false) (l := keysI (grp ms m)) (.inl (by rw [tnats, keysI_d])) ⟨_, rfl, ?_, rfl, fun _ s H C cl fp => ev_v 4 rfl ⟨rfl, rfl⟩⟩)))
        simp [mem_keysI]
      refine bl_cons (st_if (te_cmp op_ne (ev_callB (call_repr_nats hr hgA) Γ.b_repr bt_repr (ag_cons (ev_ownP (ok_places_of Γ) (hr.mono (by decide)) Γ.places_of.g Γ.places_of.F.kp (bi_places_of Γ) (ag_cons (ev_v 0 rfl (ag_cons (ev_meth Γ.clM Γ.m_closed_part (ok_closed_part Γ) hr (bi_Graph_closed_part Γ) (ev_v 0 rfl ⟨_, _, rfl, by decide, ag_cons (ev_v 2 rfl (ag_nil ⟨⟨G, g, i, hi, hn⟩, rfl, rfl, fun d L' hd => ?_⟩))⟩))))))))))
      obtain ⟨⟨Hc, rfl, k, d, I⟩, rfl⟩ := hd
      have S := iso_spg g k hi hn I
      have e := closed_places g k c hi hn S
      refine ag_nil ⟨⟨G, Hc, g.S, k.S, grf g k, k.pos⟩, rfl, fun d2 hd2 => ?_⟩
      have hd2 : d2 = tnats (plc G Hc) := hd2
      rw [e] at hd2
      subst hd2
      have h1 : ∀ n ∈ grp ms (mrk ms i), n < 100 := fun n hn => Nat.lt_of_lt_of_le (grp_lt c n hn) few
      have h2 : (grp ms (mrk ms i)).length ≤ 1000 := Nat.le_trans (grpc_len c _) (by omega)
      exact ag_nil (oa_repr h1 h2 (ev_callB (call_repr_nats hr hgA) Γ.b_repr bt_repr (ag_cons (ev_v 3 rfl (ag_nil (oa_repr h1 h2 (o2_ne rfl rfl rfl (decide_eq_true rfl) ⟨false, rfl, iteF (bl_nil (bl_nil (bl_nil ⟨_, _, _, rfl, rfl⟩)))⟩)))))))
    · exact iteF' (by show (dnats (G.need i)).isEmpty = false; cases h : G.need i <;> first | exact absurd h hn | rfl) (bl_nil (bl_nil ⟨_, _, _, rfl, rfl⟩))
  · rintro Γ' L' ⟨o2, o3, o4, rfl, rfl⟩
    exact bl_cons (st_ret (ev_bl ⟨rfl, rfl⟩))
end
end K50
set_option maxRecDepth 100000
set_option maxHeartbeats 4000000
/-! K34: pairs of nodes. -/
namespace DL
open PySem PySem.Spec PyProof.Rows L2
/-- not in a frozen list -/
theorem o2_notInD {K : PySem.W.Frag} {L : Cells} {R : RD} {d1 : D} {ds : List D} {k : Bool} (p1 : d1.pure = true) (p2 : (D.lst ds).pure = true) (s1 : SeqAt.shaped d1.py = true) (s2 : SeqAt.shaped (D.lst ds).py = true) (e : ((D.pys ds).any fun z => PyData.eqv z d1.py) = k) (r : R (.bl (!k)) L) :
    Op2 K (rNotInD K) d1 (.lst ds) L R := .mk fun {B0 F H σ Γ ts τ x y Q} S q => by
  obtain ⟨o1, o2, S2⟩ := S.two
  exact ⟨d1.py, D.pys ds, Ob.dp vis_le _ _ p1 o1, Ob.dp vis_le _ _ p2 o2, s1, s2, by rw [e]; exact q _ _ _ _ r (S2.push (.bl _))⟩
theorem room65 {k : Nat} {A : Around} (hr : Room k A) : A.units + 65 < cLine := by
  have := hr.un
  omega
theorem room1 {k : Nat} {A : Around} (hr : Room k A) : A.units + 1 < cLine := by
  have := hr.un
  omega
/-- a statement, what holds behind it -/
theorem st_mid {X : Cx} {Γ : Gam} {L : Cells} {E : En} {st : Stmt} (P : Gam → Cells → Prop) (h : StX X st Γ L { E with nx := P }) (k : ∀ Γ' L', P Γ' L' → E.nx Γ' L') : StX X st Γ L E := .mk fun S ok =>
  h.run S ⟨fun Γ' L' σ' H' r S' => ok.nx _ _ _ _ (k _ _ r) S', ok.rt, ok.bk, ok.ct⟩
end DL
namespace K50
open PySem PySem.Spec PyProof.Rows L2 DL
theorem pairN_spot (q : Nat × Nat) : pairN q = spotD q := rfl
theorem spot_tn (q : Nat × Nat) : spotD q = tnats [q.1, q.2] := rfl
theorem plain_spot (q : Nat × Nat) : Plain (spotD q) := plain_tn [q.1, q.2]
theorem eqv_spot (q r : Nat × Nat) : PyData.eqv (spotD q).py (spotD r).py = decide (q = r) := by
  rw [spot_tn, spot_tn, eqv_natsT]
  refine decide_eq_decide.mpr ⟨fun e => ?_, fun e => by rw [e]⟩
  simp at e
  exact Prod.ext e.1 e.2
theorem any_spots (l : List (Nat × Nat)) (q : Nat × Nat) : ((D.pys (l.map spotD)).any fun z => PyData.eqv z (spotD q).py) = decide (q ∈ l) := by
  induction l with
  | nil => rfl
  | cons a l ih =>
    show (PyData.eqv (spotD a).py (spotD q).py || (D.pys (l.map spotD)).any fun z => PyData.eqv z (spotD q).py) = _
    rw [ih, eqv_spot, Bool.eq_iff_iff, Bool.or_eq_true, decide_eq_true_eq, decide_eq_true_eq, decide_eq_true_eq, List.mem_cons]
    exact or_congr ⟨fun e => e.symm, fun e => e.symm⟩ Iff.rfl
theorem plain_spots (l : List (Nat × Nat)) : ∀ d ∈ l.map spotD, Plain d := fun d hd => by
  obtain ⟨q, _, rfl⟩ := List.mem_map.mp hd
  exact plain_spot q
theorem kv_spots : ∀ qs : List (Nat × Nat), kvD (qs.map fun q => (q.1 : Int)) (qs.map fun q => D.int q.2) = qs.map spotD
  | [] => rfl
  | q :: qs => by
    have := kv_spots qs
    simp only [kvD, List.map_cons, List.zip_cons_cons, spotD] at this ⊢
    rw [this]
theorem dlook_spots {b c : Nat} : ∀ {qs : List (Nat × Nat)}, qs.lookup b = some c → dlook (b : Int) (qs.map fun q => (q.1 : Int)) (qs.map fun q => D.int q.2) = some (.int c)
  | [], h => by cases h
  | (x, y) :: qs, h => by
    rw [List.lookup_cons] at h
    show (if (x : Int) = (b : Int) then some (D.int y) else dlook (b : Int) (qs.map fun q => (q.1 : Int)) (qs.map fun q => D.int q.2)) = _
    by_cases e : b = x
    · subst e
      simp at h
      rw [if_pos rfl, h]
    · have e1 : (b == x) = false := by simpa using e
      rw [e1] at h
      rw [if_neg (fun z => e (Int.ofNat_inj.mp z).symm)]
      exact dlook_spots h
theorem eqv_spots (l : List (Nat × Nat)) : PyData.eqv (D.tup (l.map spotD)).py (D.tup (l.map spotD)).py = true := by
  show PyData.eqvAll (D.pys (l.map spotD)) (D.pys (l.map spotD)) = true
  induction l with
  | nil => rfl
  | cons a l ih =>
    show PyData.eqvAll ((spotD a).py :: D.pys (l.map spotD)) ((spotD a).py :: D.pys (l.map spotD)) = true
    rw [PyData.eqvAll, ih, eqv_spot]
    simp
structure PrIn where
  a : Addr
  s : Int × Int × Int
  G : Gr
  g : GrP G
  ps : Array Value
  ok : TriplesOk ps.toList
def PrPost (Pt : Addr) (a : Addr) (d : D) (L : Cells) : Prop := d = .bl true ∧ ∃ (s : Int × Int × Int) (ps : Array Value), TriplesOk ps.toList ∧ L = [(a, stmD s), (Pt, tbD ps)]
def smIn {G : Gr} (g : GrP G) {u v : Nat} (hu : u < G.n) (hv : v < G.n) : SmIn := ⟨⟨G, G, g.S, g.S, grf g g, u, v, hu, hv⟩, rfl⟩
section
variable {P : Program} {w : World} {K : PySem.W.Frag} {mg : Str → Option Value} {base : Heap}
theorem ok_law_pairs_right (Γ : Pg K mg) {c Pt : Addr} (hcode : Γ.part_classes.fd.code = .ref c) (TB : GxR.TabB base mg c Pt) : FnOk P w K mg base CX0 8 Γ.law_pairs_right.f Γ.law_pairs_right.fd P_law_pairs_right (spD K (fun x : PrIn => [.ref x.a, x.G.d Γ.CM]) (fun x => [(x.a, stmD x.s), (Pt, tbD x.ps)]) (fun x => PrPost Pt x.a)) := by
  refine fn_ok Γ.law_pairs_right.F sc_law_pairs_right (fun _ => rfl) (by decide) (fun cdv A outer s H E hr ⟨a, x0, G, g, ps0, hok⟩ => ?_)
  have nd := sc_law_pairs_right.nd
  have few : G.n ≤ 100 := g.S.few
  refine bl_cons (st_par3 2 3 4 rfl nd (by decide) (by decide) (by decide) (ag_cons (ev_callB (call_lenO (ok_glen Γ) (hr.mono (by decide)) (bi_Graph_len Γ) Γ.l_len Γ.l_fn) Γ.b_len bt_len (ag_cons (ev_v 1 rfl (ag_nil (oa_lenO G rfl (by show G.n < _; omega) (ag_cons (ev_ownP (ok_classes Γ) (hr.mono (by decide)) Γ.classes.g Γ.classes.F.kp (bi_classes Γ) (ag_cons (ev_v 1 rfl (ag_nil ⟨⟨G, g⟩, rfl, fun d hd => ?_⟩))))))))))))
  obtain ⟨ms, rfl, c⟩ := hd
  have c : Clz G ms := c
  have fewD := ddl_few c
  refine ag_cons (ev_pm (ev_call (ok_part_classes Γ hcode TB) hr Γ.part_classes.g Γ.part_classes.F.kp (bi_part_classes Γ) (ag_cons (ev_v 1 rfl (ag_nil ⟨⟨G, g, ps0, hok⟩, [(a, stmD x0)], rfl, .swap _ _ _, fun d L' hd => ?_⟩)))))
  obtain ⟨gs, ps, PC, hok2, rfl, rfl⟩ := hd
  have PC : Pcl G gs := PC
  refine ⟨[(a, stmD x0), (Pt, tbD ps)], .swap _ _ _, ag_nil ⟨_, _, _, rfl, ?_⟩⟩
  refine bl_cons (st_for (js := [5]) rfl (itx_range1 Γ.b_range (ag_cons (ev_int (ag_nil ⟨10, rfl, by decide, fun i Γ' L' => ∃ s o5 o6 o7 o8 o9 o10 o11 o12 o13 o14 o15 o16 o17, Γ' = [some (.ref a), some (G.d Γ.CM), some (.int G.n), some (grpsD ms), some (.tup (gs.map tnats)), o5, o6, o7, o8, o9, o10, o11, o12, o13, o14, o15, o16, o17] ∧ L' = [(a, stmD s), (Pt, tbD ps)], ?_, ?_, ?_⟩)))))
  · exact ⟨x0, none, none, none, none, none, none, none, none, none, none, none, none, none, rfl, rfl⟩
  · rintro i d Γ' L' hd ⟨s0, o5, o6, o7, o8, o9, o10, o11, o12, o13, o14, o15, o16, o17, rfl, rfl⟩
    refine tg_v 5 nd ?_
    have dr : ∀ {Γ2 : Gam} {s1 : Int × Int × Int} {R : RD} (hi : Nat), 0 < hi → hi < 1000 → (∀ (r : Nat) (y : Int × Int × Int), r < hi → R (.int r) [(a, stmD y), (Pt, tbD ps)]) → ∀ d L', (∃ (r : Nat) (y : Int × Int × Int), r < hi ∧ d = .int r ∧ L' = [(a, stmD y)]) → R d (L' ++ [(Pt, tbD ps)]) := fun hi _ _ h d L' ⟨r, y, hr, e1, e2⟩ => by
      rw [e1, e2]; exact h r y hr
    refine bl_cons (st_asg (js := [6, 7, 8]) (ev_tup (ag_cons (ev_call (ok_law_draw Γ) (hr.mono (by decide)) Γ.law_draw.g Γ.law_draw.F.kp (bi_law_draw Γ) (ag_cons (ev_v 0 rfl (ag_cons (ev_v 2 rfl (ag_nil ⟨⟨a, s0, G.n, g.pos, by omega⟩, [(Pt, tbD ps)], rfl, .refl _, ?_⟩)))))))))
    rintro d L' ⟨u, s1, hu, rfl, rfl⟩
    refine ag_cons (ev_call (ok_law_draw Γ) (hr.mono (by decide)) Γ.law_draw.g Γ.law_draw.F.kp (bi_law_draw Γ) (ag_cons (ev_v 0 rfl (ag_cons (ev_v 2 rfl (ag_nil ⟨⟨a, s1, G.n, g.pos, by omega⟩, [(Pt, tbD ps)], rfl, .refl _, ?_⟩))))))
    rintro d L' ⟨v0, s2, hv0, rfl, rfl⟩
    refine ag_cons (ev_call (ok_law_draw Γ) (hr.mono (by decide)) Γ.law_draw.g Γ.law_draw.F.kp (bi_law_draw Γ) (ag_cons (ev_v 0 rfl (ag_cons (ev_v 2 rfl (ag_nil ⟨⟨a, s2, G.n, g.pos, by omega⟩, [(Pt, tbD ps)], rfl, .refl _, ?_⟩))))))
    rintro d L' ⟨z, s3, hz, rfl, rfl⟩
    refine ag_nil ⟨sz, tg_3 6 7 8 rfl nd ?_⟩
    have hu : u < G.n := hu
    have hv0 : v0 < G.n := hv0
    have hz : z < G.n := hz
    -- the class of one
    have lg := grpc_len c (mrk ms u)
    refine bl_cons (st_set 9 nd (ev_ix ix_list (ev_selT [("_law_some", 14)] (fun m : Nat => tnats (grp ms m)) (fun m => tnats (grp ms m)) (fun m => decide (u ∈ grp ms m)) rfl nd rfl (js := [14]) (by decide) (itx_tup (ev_v 3 rfl ⟨_, rfl, ddl ms, rfl, szle (by omega), fun m hm => ⟨fun s H C cl fp => tg_v 14 nd ⟨rfl, fun s H C cl fp => ?_⟩⟩, ev_int (o2_ixL (n := 0) (due_filter c hu) ?_)⟩)))))
    · refine te_cmp op_in_seq (ev_v 6 rfl (ev_v 14 rfl (o2_inI (neg := false) (l := keysI (grp ms m)) (.inl (by rw [tnats, keysI_d])) ⟨_, rfl, ?_, rfl, fun _ s H C cl fp => ev_v 14 rfl ⟨rfl, rfl⟩⟩)))
      simp [mem_keysI]
    -- another two, perhaps
    refine bl_cons (st_mid (fun Γ' L' => ∃ (v : Nat) (s4 : Int × Int × Int), v < G.n ∧ Γ' = [some (.ref a), some (G.d Γ.CM), some (.int G.n), some (grpsD ms), some (.tup (gs.map tnats)), some d, some (.int u), some (.int v), some (.int z), some (tnats (grp ms (mrk ms u))), o10, o11, o12, o13, o14, o15, o16, o17] ∧ L' = [(a, stmD s4), (Pt, tbD ps)]) ?_ ?_)
    · refine st_if (te_cmp op_eq (ev_call (ok_law_draw Γ) (hr.mono (by decide)) Γ.law_draw.g Γ.law_draw.F.kp (bi_law_draw Γ) (ag_cons (ev_v 0 rfl (ag_cons (ev_int (ag_nil ⟨⟨a, s3, 2, by decide, by decide⟩, [(Pt, tbD ps)], rfl, .refl _, ?_⟩)))))))
      rintro d2 L' ⟨r, s4, hr4, rfl, rfl⟩
      refine ev_int (o2_eq rfl rfl rfl rfl ⟨_, rfl, ?_⟩)
      by_cases h0 : V.int (r : Int) = V.int 0
      · refine iteT' (decide_eq_true h0) ?_
        have ug : u ∈ grp ms (mrk ms u) := (c.mem_grp (u := u) (v := u)).mpr ⟨hu, rfl⟩
        refine bl_cons (st_set 7 nd (ev_call (ok_law_pick Γ) (hr.mono (by decide)) Γ.law_pick.g Γ.law_pick.F.kp (bi_law_pick Γ) (ag_cons (ev_v 0 rfl (ag_cons (ev_v 9 rfl (ag_nil ⟨⟨a, s4, dnats (grp ms (mrk ms u)), true, fun e => ?_, by rw [dnats_length]; omega⟩, [(Pt, tbD ps)], rfl, .refl _, ?_⟩)))))))
        · have : u ∈ ([] : List Nat) := by
            rw [← List.map_eq_nil_iff.mp e]; exact ug
          cases this
        rintro d3 L' ⟨s5, hm, rfl⟩
        obtain ⟨v, hv, rfl⟩ := List.mem_map.mp hm
        exact bl_nil ⟨v, s5, grp_lt c v hv, rfl, rfl⟩
      · exact iteF' (decide_eq_false h0) (bl_nil ⟨v0, s4, hv0, rfl, rfl⟩)
    rintro Γ' L' ⟨v, s4, hv, rfl, rfl⟩
    refine bl_cons (st_par 10 11 rfl nd (by decide) (ag_cons (ev_ownP (ok_same_part Γ) (hr.mono (by decide)) Γ.same_part.g Γ.same_part.F.kp (bi_same_part Γ) (ag_cons (ev_v 1 rfl (ag_cons (ev_v 6 rfl (ag_cons (ev_v 7 rfl (ag_nil ⟨smIn g hu hv, rfl, fun d1 F1 => ?_⟩))))))))))
    refine ag_cons (ev_ownP (ok_same_part Γ) (hr.mono (by decide)) Γ.same_part.g Γ.same_part.F.kp (bi_same_part Γ) (ag_cons (ev_v 1 rfl (ag_cons (ev_v 7 rfl (ag_cons (ev_v 8 rfl (ag_nil ⟨smIn g hv hz, rfl, fun d2 F2 => ag_nil ⟨_, _, rfl, ?_⟩⟩))))))))
    have F1 : (d1 = .non ∧ ¬ SPg G G u v) ∨ ∃ l : List (Nat × Nat), d1 = .tup (l.map spotD) ∧ Srt l ∧ (∀ q, q ∈ l ↔ OpMg G G u v q) ∧ SPg G G u v := F1
    have F2 : (d2 = .non ∧ ¬ SPg G G v z) ∨ ∃ l : List (Nat × Nat), d2 = .tup (l.map spotD) ∧ Srt l ∧ (∀ q, q ∈ l ↔ OpMg G G v z q) ∧ SPg G G v z := F2
    -- the class and the part
    refine bl_cons (st_mid (fun Γ' L' => ∃ o12, Γ' = [some (.ref a), some (G.d Γ.CM), some (.int G.n), some (grpsD ms), some (.tup (gs.map tnats)), some d, some (.int u), some (.int v), some (.int z), some (tnats (grp ms (mrk ms u))), some d1, some d2, o12, o13, o14, o15, o16, o17] ∧ L' = [(a, stmD s4), (Pt, tbD ps)]) ?_ ?_)
    · refine st_if (te_cmp op_in_seq (ev_v 7 rfl (ev_v 9 rfl (o2_inI (neg := false) (l := keysI (grp ms (mrk ms u))) (.inl (by rw [tnats, keysI_d])) ⟨_, rfl, ?_⟩))))
      by_cases hm : v ∈ grp ms (mrk ms u)
      · refine iteT' (decide_eq_true (mem_keysI.mpr hm)) ?_
        have e := (c.mem_grp.mp hm).2
        have M := clz_mtx c g
        have r : u < G.n ∧ v < G.n ∧ mrk ms u = mrk ms v := ⟨hu, hv, e.symm⟩
        rcases F1 with ⟨_, hn⟩ | ⟨l, rfl, hs1, hq1, sp1⟩
        · exact absurd (M.spg g g r) hn
        have lin : ∀ q ∈ l, q ∈ (G.sc u).zip (G.sc v) := fun q hq => by
          obtain ⟨i, h1, h2⟩ := M.op g g r ((hq1 q).mp hq)
          exact List.mem_of_getElem? (i := i) (List.getElem?_zip_eq_some.mpr ⟨h1, h2⟩)
        have lnil : l.filter (fun q => !decide (q ∈ (G.sc u).zip (G.sc v))) = [] := List.filter_eq_nil_iff.mpr fun q hq => by
          rw [decide_eq_true (lin q hq)]
          simp
        have lfew : l.length ≤ 1000 := by
          have h1 := DL.nodup_sub_le (srt_nodup hs1) lin
          have h2 := g.sl u hu
          rw [List.length_zip] at h1
          omega
        refine bl_cons (st_set 12 nd (ev_fz (ev_listZip rfl Γ.b_zip Γ.b_list (ag_cons (ev_meth Γ.clM Γ.m_scope (ok_scope Γ) (hr.mono (by decide)) (bi_Graph_scope Γ) (ev_v 1 rfl ⟨_, _, rfl, by decide, ag_cons (ev_v 6 rfl (ag_nil ⟨⟨G, u, g.S, hu⟩, rfl, rfl, ?_⟩))⟩))))))
        rintro d3 L' ⟨rfl, rfl⟩
        refine ag_cons (ev_meth Γ.clM Γ.m_scope (ok_scope Γ) (hr.mono (by decide)) (bi_Graph_scope Γ) (ev_v 1 rfl ⟨_, _, rfl, by decide, ag_cons (ev_v 7 rfl (ag_nil ⟨⟨G, v, g.S, hv⟩, rfl, rfl, ?_⟩))⟩))
        rintro d3 L' ⟨rfl, rfl⟩
        refine ag_nil ⟨G.sc u, G.sc v, rfl, fun p => ⟨2, p, _, rfl, rfl, ?_⟩⟩
        refine bl_cons (st_if (te_tw (tw_or (te_cmp op_isN (ev_v 10 rfl (ev_non (o2_isN ⟨false, rfl, iteF (tw_or1 (te_cmp (op_neD hr.units) (ev_selT [("_law_pair", 15)] spotD spotD (fun q => !decide (q ∈ (G.sc u).zip (G.sc v))) rfl nd rfl (js := [15]) (by decide) (itx_tup (ev_v 10 rfl ⟨_, rfl, l, rfl, szle (by omega), fun q hq => ⟨fun s H C cl fp => tg_v 15 nd ⟨rfl, fun s H C cl fp => ?_⟩⟩, ?_⟩)))))⟩)))))))
        · refine te_cmp (op_notInD (room65 hr)) (ev_v 15 rfl (ev_v 12 rfl (o2_notInD (plain_spot q).pure (pures_of (plain_spots _)) (plain_shaped (plain_spot q)) (shaped_lst (plain_spots _)) (any_spots _ q) ⟨_, rfl, rfl, rfl, fun _ s H C cl fp => ev_v 15 rfl ⟨rfl, rfl⟩⟩)))
        · rw [lnil]
          refine ev_lstF (ag_nil ⟨sz, o2_neD (pures_of (by simp)) rfl (shaped_lst (by simp)) (shaped_lst (by simp)) (eqv_nil _) ⟨_, rfl, ?_⟩⟩)
          exact iteF (bl_nil (bl_nil ⟨_, rfl, rfl⟩))
      · refine iteF' (decide_eq_false fun z => hm (mem_keysI.mp z)) ?_
        rcases F1 with ⟨rfl, hn⟩ | ⟨l, rfl, hs1, hq1, sp1⟩
        · exact bl_cons (st_if (te_tw (tw_and (te_cmp op_notN (ev_v 10 rfl (ev_non (o2_notN ⟨false, rfl, iteF (iteF (bl_nil (bl_nil ⟨_, rfl, rfl⟩)))⟩)))))))
        refine bl_cons (st_if (te_tw (tw_and (te_cmp op_notN (ev_v 10 rfl (ev_non (o2_notN ⟨true, rfl, iteT (tw_and1 (te_cmp (op_eqD hr.units) (ev_meth Γ.clM Γ.m_needs (ok_needs Γ) (hr.mono (by decide)) (bi_Graph_needs Γ) (ev_v 1 rfl ⟨_, _, rfl, by decide, ag_cons (ev_v 6 rfl (ag_nil ⟨⟨G, u, g.S, hu⟩, rfl, rfl, fun d3 L' hd3 => ?_⟩))⟩))))⟩)))))))
        obtain ⟨rfl, rfl⟩ := hd3
        refine ev_tup (ag_nil ⟨sz, o2_eqD (pure_nats _) rfl (shaped_tup (plain_nats _)) (shaped_tup (by simp)) (eqv_nilT _) ⟨_, rfl, ?_⟩⟩)
        refine iteF' ?_ (bl_nil (bl_nil ⟨_, rfl, rfl⟩))
        show (dnats (G.need u)).isEmpty = false
        cases h : G.need u with
        | cons => rfl
        | nil =>
          exfalso
          exact hm (c.mem_grp.mpr ⟨hv, (closed_class c g hu hv (g.closed hu h) sp1).symm⟩)
    rintro Γ' L' ⟨o12', rfl, rfl⟩
    -- one behind the other
    refine bl_cons (st_mid (fun Γ' L' => ∃ o13, Γ' = [some (.ref a), some (G.d Γ.CM), some (.int G.n), some (grpsD ms), some (.tup (gs.map tnats)), some d, some (.int u), some (.int v), some (.int z), some (tnats (grp ms (mrk ms u))), some d1, some d2, o12', o13, o14, o15, o16, o17] ∧ L' = [(a, stmD s4), (Pt, tbD ps)]) ?_ ?_)
    · rcases F1 with ⟨rfl, hn⟩ | ⟨l, rfl, hs1, hq1, sp1⟩
      · exact st_if (te_tw (tw_and (te_cmp op_notN (ev_v 10 rfl (ev_non (o2_notN ⟨false, rfl, iteF (iteF (bl_nil ⟨_, rfl, rfl⟩))⟩))))))
      rcases F2 with ⟨rfl, hn⟩ | ⟨l2, rfl, hs2, hq2, sp2⟩
      · exact st_if (te_tw (tw_and (te_cmp op_notN (ev_v 10 rfl (ev_non (o2_notN ⟨true, rfl, iteT (tw_and1 (te_cmp op_notN (ev_v 11 rfl (ev_non (o2_notN ⟨false, rfl, iteF (bl_nil ⟨_, rfl, rfl⟩)⟩)))))⟩))))))
      have nodl : ∀ {x y : Nat} {l : List (Nat × Nat)}, x < G.n → y < G.n → Srt l → (∀ q, q ∈ l ↔ OpMg G G x y q) → SPg G G x y → l.length ≤ 1000 := fun {x y l} hx hy hs hq sp => by
        have h1 := grf g g x y hx hy sp.all l (srt_nodup hs) fun q hq2 => (hq q).mp hq2
        omega
      have lf := nodl hu hv hs1 hq1 sp1
      have keys2 : (l2.map fun q => (q.1 : Int)).Nodup := inj_nodup _ (srt_nodup hs2) fun q hq r hr e => by
        have e1 : q.1 = r.1 := Int.ofNat_inj.mp e
        exact Prod.ext e1 ((sp2.one q r ((hq2 q).mp hq) ((hq2 r).mp hr)).mp e1)
      refine st_if (te_tw (tw_and (te_cmp op_notN (ev_v 10 rfl (ev_non (o2_notN ⟨true, rfl, iteT (tw_and1 (te_cmp op_notN (ev_v 11 rfl (ev_non (o2_notN ⟨true, rfl, iteT ?_⟩)))))⟩))))))
      refine bl_cons (st_set 13 nd (ev_fz (ev_callTy (call_dictP rfl) Γ.b_dict bt_dict (ag_cons (ev_fz (ev_callTy call_list_of Γ.b_list bt_list (ag_cons (ev_v 11 rfl (ag_nil (oa_list (.inl rfl) fun p1 => ⟨2, p1, _, rfl, rfl, ag_nil (oa_dictP (ks := l2.map fun q => (q.1 : Int)) (ds := l2.map fun q => D.int q.2) (by rw [kv_spots]) (by simp) keys2 fun p2 => ⟨2, p2, _, rfl, rfl, ?_⟩)⟩))))))))))
      refine bl_cons (st_if (te_cmp (op_neD hr.units) (ev_ownP (ok_same_part Γ) (hr.mono (by decide)) Γ.same_part.g Γ.same_part.F.kp (bi_same_part Γ) (ag_cons (ev_v 1 rfl (ag_cons (ev_v 6 rfl (ag_cons (ev_v 8 rfl (ag_nil ⟨smIn g hu hz, rfl, fun d3 F3 => ?_⟩))))))))))
      have F3 : (d3 = .non ∧ ¬ SPg G G u z) ∨ ∃ l : List (Nat × Nat), d3 = .tup (l.map spotD) ∧ Srt l ∧ (∀ q, q ∈ l ↔ OpMg G G u z q) ∧ SPg G G u z := F3
      rcases F3 with ⟨_, hn⟩ | ⟨l3, rfl, hs3, hq3, sp3⟩
      · exact absurd (sp1.trans sp2) hn
      obtain ⟨look, el3⟩ := put_eq g hu hv hz sp1 sp2 hs1 hq1 hq2 hs3 hq3
      refine ev_callTy call_tuple_of Γ.b_tuple bt_tuple (ag_cons (ev_mapT [("_law_low", 16), ("_law_high", 17)] spotD (fun p => spotD (p.1, later l2 p.2)) rfl nd rfl (js := [16, 17]) (by decide) (itx_tup (ev_v 10 rfl ⟨_, rfl, l, rfl, szle (by omega), fun q hq => ⟨fun s H C cl fp => tg_2 16 17 rfl nd ⟨rfl, fun s H C cl fp => ?_⟩⟩, ag_nil (oa_tuple (.inr rfl) ?_)⟩))))
      · obtain ⟨b, _, hb⟩ := look q hq
        refine ev_tup (ag_cons (ev_v 16 rfl (ag_cons (ev_dget (room1 hr) (ev_v 13 rfl (ev_v 17 rfl ⟨_, _, _, .int b, rfl, .inl rfl, dlook_spots hb, ag_nil ⟨sz, ?_, rfl⟩⟩))))))
        rw [later, hb]
        rfl
      · have e4 : (l.map fun p => spotD (p.1, later l2 p.2)) = l3.map spotD := by rw [el3, List.map_map]; rfl
        rw [e4]
        refine o2_neD (pures_of (plain_spots _)) (pures_of (plain_spots _)) (shaped_tup (plain_spots _)) (shaped_tup (plain_spots _)) (eqv_spots l3) ⟨false, rfl, iteF (bl_nil (bl_nil ⟨_, rfl, rfl⟩))⟩
    rintro Γ' L' ⟨o13', rfl, rfl⟩
    -- none, some
    refine bl_cons (st_mid (fun Γ' L' => Γ' = [some (.ref a), some (G.d Γ.CM), some (.int G.n), some (grpsD ms), some (.tup (gs.map tnats)), some d, some (.int u), some (.int v), some (.int z), some (tnats (grp ms (mrk ms u))), some d1, some d2, o12', o13', o14, o15, o16, o17] ∧ L' = [(a, stmD s4), (Pt, tbD ps)]) ?_ ?_)
    · rcases F1 with ⟨rfl, hn⟩ | ⟨l, rfl, hs1, hq1, sp1⟩
      · rcases F2 with ⟨rfl, hn2⟩ | ⟨l2, rfl, hs2, hq2, sp2⟩
        · exact st_if (te_tw (tw_and (te_cmp op_isN (ev_v 10 rfl (ev_non (o2_isN ⟨true, rfl, iteT (tw_and (te_cmp op_notN (ev_v 11 rfl (ev_non (o2_notN ⟨false, rfl, iteF (iteF (bl_nil ⟨rfl, rfl⟩))⟩)))))⟩))))))
        · refine st_if (te_tw (tw_and (te_cmp op_isN (ev_v 10 rfl (ev_non (o2_isN ⟨true, rfl, iteT (tw_and (te_cmp op_notN (ev_v 11 rfl (ev_non (o2_notN ⟨true, rfl, iteT (tw_and1 (te_cmp op_notN (ev_ownP (ok_same_part Γ) (hr.mono (by decide)) Γ.same_part.g Γ.same_part.F.kp (bi_same_part Γ) (ag_cons (ev_v 1 rfl (ag_cons (ev_v 6 rfl (ag_cons (ev_v 8 rfl (ag_nil ⟨smIn g hu hz, rfl, fun d3 F3 => ?_⟩))))))))))⟩)))))⟩))))))
          have F3 : (d3 = .non ∧ ¬ SPg G G u z) ∨ ∃ l : List (Nat × Nat), d3 = .tup (l.map spotD) ∧ Srt l ∧ (∀ q, q ∈ l ↔ OpMg G G u z q) ∧ SPg G G u z := F3
          rcases F3 with ⟨rfl, _⟩ | ⟨_, _, _, _, sp3⟩
          · exact ev_non (o2_notN ⟨false, rfl, iteF (bl_nil ⟨rfl, rfl⟩)⟩)
          · exact absurd (sp3.trans sp2.symm) hn
      · exact st_if (te_tw (tw_and (te_cmp op_isN (ev_v 10 rfl (ev_non (o2_isN ⟨false, rfl, iteF (iteF (bl_nil ⟨rfl, rfl⟩))⟩))))))
    rintro Γ' L' ⟨rfl, rfl⟩
    -- the classes of parts
    obtain ⟨b, hb, ub, hf, hiff⟩ := PC.one hu
    have lgs := PC.le
    have lb : ∀ n ∈ b, n < G.n := fun n hn => ((PC.mem b hb n).mp hn).1
    have first : ∃ k : Bool, d1.isN = !k ∧ k = decide (v ∈ b) := by
      rcases F1 with ⟨rfl, hn⟩ | ⟨l, rfl, hs1, hq1, sp1⟩
      · exact ⟨false, rfl, (decide_eq_false fun hm => hn ((hiff v hv).mp hm)).symm⟩
      · exact ⟨true, rfl, (decide_eq_true ((hiff v hv).mpr sp1)).symm⟩
    obtain ⟨k, hk1, hk2⟩ := first
    refine bl_cons (st_if (te_cmp op_ne (ev_cmp op_notN (ev_v 10 rfl (ev_non (o2_notN (ev_cmp op_in_seq (ev_v 7 rfl (ev_ix ix_list (ev_selT [("_law_some", 14)] tnats tnats (fun h : List Nat => decide (u ∈ h)) rfl nd rfl (js := [14]) (by decide) (itx_tup (ev_v 4 rfl ⟨_, rfl, gs, rfl, szle (by omega), fun h hh => ⟨fun s H C cl fp => tg_v 14 nd ⟨rfl, fun s H C cl fp => ?_⟩⟩, ev_int (o2_ixL (n := 0) (d := tnats b) ?_ (o2_inI (neg := false) (l := keysI b) (.inl (by rw [tnats, keysI_d])) (o2_ne rfl rfl rfl rfl ⟨_, rfl, ?_⟩)))⟩))))))))))))
    · refine te_cmp op_in_seq (ev_v 6 rfl (ev_v 14 rfl (o2_inI (neg := false) (l := keysI h) (.inl (by rw [tnats, keysI_d])) ⟨_, rfl, ?_, rfl, fun _ s H C cl fp => ev_v 14 rfl ⟨rfl, rfl⟩⟩)))
      exact decide_eq_decide.mpr mem_keysI
    · rw [hf]; rfl
    · refine iteF' ?_ (bl_nil (bl_nil ⟨s4, _, _, _, _, _, _, _, _, _, _, _, _, _, rfl, rfl⟩))
      have e1 : decide ((v : Int) ∈ keysI b) = decide (v ∈ b) := decide_eq_decide.mpr mem_keysI
      show (!decide (V.bl (!d1.isN) = V.bl (decide ((v : Int) ∈ keysI b)))) = false
      rw [hk1, hk2, e1, Bool.not_not, decide_eq_true rfl]
      rfl
  · rintro Γ' L' ⟨s0, o5, o6, o7, o8, o9, o10, o11, o12, o13, o14, o15, o16, o17, rfl, rfl⟩
    exact bl_cons (st_ret (ev_bl ⟨rfl, s0, ps, hok2, rfl⟩))
end
end K50
/-! MK: alike graphs, plain. -/
namespace K50
open List
theorem low_hom {G H : Gr} (g : GrP G) (h : LePost G H) : ∃ c, HomS G.nodes 0 G.sc H.nodes 0 H.sc c := by
  obtain ⟨ms, c, m⟩ := h
  have Q := c.homS g
  obtain ⟨d, I⟩ := m.iso
  refine ⟨_, Q.comp (I.homS (Q.push g.ws) (fun v hv => ?_) m.p.scs)⟩
  obtain ⟨u, hu, rfl⟩ := Q.toHom.onto hv
  rw [Q.sc u hu]
  exact Q.scs g.ws hu (g.scs u hu)
theorem hom_len {G H : Gr} {c : Nat → Nat} {gs hs : List (List Nat)} (g : GrP G) (k : GrP H) (h : HomS G.nodes 0 G.sc H.nodes 0 H.sc c) (P : Pcl G gs) (Q : Pcl H hs) : gs.length = hs.length :=
  Pcl.len g k P Q (homS_mtx g h k) (fun u hu => ⟨c u, hu, rfl⟩) fun v hv => let ⟨u, hu, e⟩ := h.toHom.onto (k.all v hv); ⟨u, g.lt hu, e.symm⟩
theorem made_hom {x : LG} {G : Gr} (m : MadeOf x.ns G) : ∃ c, HomS x.ns 0 x.σ G.nodes 0 G.sc c := by
  obtain ⟨d, I⟩ := m.iso
  exact ⟨d, I.homS x.ws x.sc m.p.scs⟩
theorem two_len {x y : LG} {G H : Gr} {c : Nat → Nat} {gs hs : List (List Nat)} (m : MadeOf x.ns G) (k : MadeOf y.ns H) (h : HomS y.ns 0 y.σ x.ns 0 x.σ c) (P : Pcl G gs) (Q : Pcl H hs) : hs.length = gs.length := by
  obtain ⟨d, D⟩ := made_hom m
  obtain ⟨e, E⟩ := made_hom k
  have D2 := h.comp D
  refine Pcl.len k.p m.p Q P (two_mtx E D2 (fun u hu => k.p.lt (E.toHom.fwd hu)) fun u hu => m.p.lt (D2.toHom.fwd hu)) (fun v hv => ?_) fun v hv => ?_
  · obtain ⟨u, hu, rfl⟩ := E.toHom.onto (k.p.all v hv)
    exact ⟨_, u, hu, rfl, rfl⟩
  · obtain ⟨u, hu, rfl⟩ := D2.toHom.onto (m.p.all v hv)
    exact ⟨_, u, hu, rfl, rfl⟩
open Classical in
theorem places_zero {G H : Gr} {c : Nat → Nat} (g : GrP G) (k : GrP H) (h : HomS G.nodes 0 G.sc H.nodes 0 H.sc c) : (plc G H)[0]? = some 0 := by
  have S : SPg G H 0 0 := (homS_mtx g h k).spg g k ⟨g.pos, h.toHom.root.symm⟩
  have n0 : (G.need 0).isEmpty = true := by
    rw [g.open_ g.pos g.ws.root]; rfl
  obtain ⟨n, hn⟩ : ∃ n, G.n = n + 1 := ⟨G.n - 1, by have := g.pos; omega⟩
  unfold plc
  rw [hn, List.range_succ_eq_map, List.filter_cons, if_pos n0, List.filter_cons, if_pos (decide_eq_true S)]
  rfl
theorem plc_lt {G H : Gr} : ∀ u ∈ plc G H, u < G.n := fun u hu => by
  unfold plc at hu
  exact List.mem_range.mp (List.mem_filter.mp (List.mem_filter.mp hu).1).1
end K50
set_option maxRecDepth 100000
set_option maxHeartbeats 4000000
/-! K35: a drawn graph. -/
namespace K50
open PySem PySem.Spec PyProof.Rows L2 DL
structure RtIn where
  a : Addr
  s : Int × Int × Int
  ps : Array Value
  ok : TriplesOk ps.toList
section
variable {P : Program} {w : World} {K : PySem.W.Frag} {mg : Str → Option Value} {base : Heap}
theorem ok_law_right (Γ : Pg K mg) {c Pt : Addr} (hcode : Γ.part_classes.fd.code = .ref c) (TB : GxR.TabB base mg c Pt) : FnOkG P w K mg base CX0 15 Γ.law_right.f Γ.law_right.fd P_law_right (spD K (fun x : RtIn => [.ref x.a]) (fun x => [(x.a, stmD x.s), (Pt, tbD x.ps)]) (fun x => PrPost Pt x.a)) := by
  refine fn_okG Γ.law_right.F sc_law_right (fun _ => rfl) (by decide) (fun cdv A outer s H E hgA hr ⟨a, s0, ps, hok⟩ => ?_)
  have nd := sc_law_right.nd
  obtain ⟨mc, pa, cr, cm⟩ := Γ.c_of
  refine bl_cons (st_set 1 nd (ev_call (ok_law_often Γ) (hr.mono (by decide)) Γ.law_often.g Γ.law_often.F.kp (bi_law_often Γ) (ag_cons (ev_v 0 rfl (ag_nil ⟨⟨a, s0⟩, [(Pt, tbD ps)], rfl, .refl _, ?_⟩)))))
  rintro d L' ⟨x, s1, rfl, rfl⟩
  refine bl_cons (st_set 2 nd (ev_cmeth cr cm (ok_Graph_of Γ) (hr.mono (by decide)) (bi_Graph_of Γ) (ev_gref Γ.gG ⟨rfl, ag_cons (ev_callTy call_tuple_of Γ.b_tuple bt_tuple (ag_cons (ev_v 1 rfl (ag_nil (oa_tuple (.inr rfl) (ag_nil ⟨⟨x.gin, x.fm⟩, rfl, ?_⟩))))))⟩)))
  rintro d L' ⟨⟨G, rfl, m⟩, rfl⟩
  have m : MadeOf x.ns G := m
  refine bl_cons (st_par 3 4 rfl nd (by decide) (ag_cons (ev_ownP (ok_least Γ) hr Γ.least.g Γ.least.F.kp (bi_least Γ) (ag_cons (ev_v 2 rfl (ag_nil ⟨⟨G, m.p⟩, rfl, fun d hd => ?_⟩))))))
  obtain ⟨low, rfl, le⟩ := hd
  have le : LePost G low := le
  refine ag_cons (ev_cmeth cr cm (ok_Graph_of Γ) (hr.mono (by decide)) (bi_Graph_of Γ) (ev_gref Γ.gG ⟨rfl, ag_cons (ev_callTy call_tuple_of Γ.b_tuple bt_tuple (ag_cons (ev_call (ok_law_parted Γ) (hr.mono (by decide)) Γ.law_parted.g Γ.law_parted.F.kp (bi_law_parted Γ) (ag_cons (ev_v 0 rfl (ag_cons (ev_v 1 rfl (ag_nil ⟨⟨a, s1, x⟩, [(Pt, tbD ps)], rfl, .refl _, ?_⟩))))))))⟩))
  rintro d L' ⟨⟨y, rfl, cc, hc⟩, s2, rfl⟩
  refine ag_nil (oa_tuple (.inr rfl) (ag_nil ⟨⟨y.gin, y.fm⟩, rfl, ?_⟩))
  rintro d L' ⟨⟨far, rfl, mf⟩, rfl⟩
  have mf : MadeOf y.ns far := mf
  refine ag_nil ⟨_, _, rfl, ?_⟩
  have kl : GrP low := let ⟨_, _, k⟩ := le; k.p
  obtain ⟨ch, hh⟩ := low_hom m.p le
  -- pairs, closed parts
  refine bl_cons (st_if (te_tw (tw_or (te_not (te_val (ev_call (ok_law_pairs_right Γ hcode TB) (hr.mono (by decide)) Γ.law_pairs_right.g Γ.law_pairs_right.F.kp (bi_law_pairs_right Γ) (ag_cons (ev_v 0 rfl (ag_cons (ev_v 2 rfl (ag_nil ⟨⟨a, s2, G, m.p, ps, hok⟩, [], rfl, .refl _, ?_⟩)))))))))))
  rintro d L' ⟨rfl, s3, ps2, ok2, rfl⟩
  refine ⟨true, rfl, iteF (tw_or1 (te_not (te_val (ev_callG (ok_law_closed_right Γ) hgA (hr.mono (by decide)) Γ.law_closed_right.g Γ.law_closed_right.F.kp (bi_law_closed_right Γ) (ag_cons (ev_v 2 rfl (ag_nil ⟨⟨G, m.p⟩, _, rfl, .refl _, ?_⟩)))))))⟩
  rintro d L' ⟨rfl, rfl⟩
  refine ⟨true, rfl, iteF (bl_nil ?_)⟩
  -- as many classes
  refine bl_cons (st_if (te_tw (tw_or (te_cmp op_ne (ev_callB call_len_seq Γ.b_len bt_len (ag_cons (ev_call (ok_part_classes Γ hcode TB) (hr.mono (by decide)) Γ.part_classes.g Γ.part_classes.F.kp (bi_part_classes Γ) (ag_cons (ev_v 3 rfl (ag_nil ⟨⟨low, kl, ps2, ok2⟩, [(a, stmD s3)], rfl, .swap _ _ _, ?_⟩))))))))))
  rintro d L' ⟨gl, ps3, Pl, ok3, rfl, rfl⟩
  have Pl : Pcl low gl := Pl
  refine ag_nil (oa_lenS (.inl rfl) (ev_callB call_len_seq Γ.b_len bt_len (ag_cons (ev_call (ok_part_classes Γ hcode TB) (hr.mono (by decide)) Γ.part_classes.g Γ.part_classes.F.kp (bi_part_classes Γ) (ag_cons (ev_v 2 rfl (ag_nil ⟨⟨G, m.p, ps3, ok3⟩, [(a, stmD s3)], rfl, .refl _, ?_⟩)))))))
  rintro d L' ⟨gt, ps4, Pg1, ok4, rfl, rfl⟩
  have Pg1 : Pcl G gt := Pg1
  have e1 := hom_len m.p kl hh Pg1 Pl
  refine ag_nil (oa_lenS (.inl rfl) (o2_ne rfl rfl rfl rfl ⟨_, rfl, iteF' ?_ ?_⟩))
  · show (!decide (V.int ((gl.map tnats).length : Int) = V.int ((gt.map tnats).length : Int))) = false
    rw [List.length_map, List.length_map, e1, decide_eq_true rfl]
    rfl
  refine tw_or1 (te_cmp op_ne (ev_callB call_len_seq Γ.b_len bt_len (ag_cons (ev_call (ok_part_classes Γ hcode TB) (hr.mono (by decide)) Γ.part_classes.g Γ.part_classes.F.kp (bi_part_classes Γ) (ag_cons (ev_v 4 rfl (ag_nil ⟨⟨far, mf.p, ps4, ok4⟩, [(a, stmD s3)], rfl, .refl _, ?_⟩)))))))
  rintro d L' ⟨gf, ps5, Pf, ok5, rfl, rfl⟩
  have Pf : Pcl far gf := Pf
  refine ag_nil (oa_lenS (.inl rfl) (ev_callB call_len_seq Γ.b_len bt_len (ag_cons (ev_call (ok_part_classes Γ hcode TB) (hr.mono (by decide)) Γ.part_classes.g Γ.part_classes.F.kp (bi_part_classes Γ) (ag_cons (ev_v 2 rfl (ag_nil ⟨⟨G, m.p, ps5, ok5⟩, [(a, stmD s3)], rfl, .refl _, ?_⟩)))))))
  rintro d L' ⟨gt2, ps6, Pg2, ok6, rfl, rfl⟩
  have Pg2 : Pcl G gt2 := Pg2
  have e2 := two_len m mf hc Pg2 Pf
  refine ag_nil (oa_lenS (.inl rfl) (o2_ne rfl rfl rfl rfl ⟨_, rfl, iteF' ?_ ?_⟩))
  · show (!decide (V.int ((gf.map tnats).length : Int) = V.int ((gt2.map tnats).length : Int))) = false
    rw [List.length_map, List.length_map, e2, decide_eq_true rfl]
    rfl
  refine bl_nil ?_
  -- the least graph
  refine bl_cons (st_ret (ev_pm (ev_and (ev_cmp op_le (ev_callB call_len_seq Γ.b_len bt_len (ag_cons (ev_call (ok_part_classes Γ hcode TB) (hr.mono (by decide)) Γ.part_classes.g Γ.part_classes.F.kp (bi_part_classes Γ) (ag_cons (ev_v 3 rfl (ag_nil ⟨⟨low, kl, ps6, ok6⟩, [(a, stmD s3)], rfl, .refl _, ?_⟩))))))))))
  rintro d L' ⟨gl2, ps7, Pl2, ok7, rfl, rfl⟩
  have Pl2 : Pcl low gl2 := Pl2
  have few : low.n ≤ 100 := kl.S.few
  have le2 := Pl2.le
  refine ag_nil (oa_lenS (.inl rfl) (ev_callB (call_lenO (ok_glen Γ) (hr.mono (by decide)) (bi_Graph_len Γ) Γ.l_len Γ.l_fn) Γ.b_len bt_len (ag_cons (ev_v 3 rfl (ag_nil (oa_lenO low rfl (by show low.n < _; omega) (o2_le ⟨_, rfl, iteT' ?_ ?_⟩)))))))
  · show decide (((gl2.map tnats).length : Int) ≤ (low.n : Int)) = true
    rw [List.length_map]
    exact decide_eq_true (Int.ofNat_le.mpr le2)
  refine ev_one (ev_cmp op_eq (ev_ix ix_tup (ev_ownP (ok_places_of Γ) (hr.mono (by decide)) Γ.places_of.g Γ.places_of.F.kp (bi_places_of Γ) (ag_cons (ev_v 2 rfl (ag_cons (ev_v 3 rfl (ag_nil ⟨⟨G, low, m.p.S, kl.S, grf m.p kl, kl.pos⟩, rfl, fun d hd => ?_⟩))))))))
  have hd : d = tnats (plc G low) := hd
  subst hd
  refine ev_int (o2_ixT (n := 0) (d := .int (0 : Nat)) ?_ (ev_int (o2_eq rfl rfl rfl (decide_eq_true rfl) ⟨_, .swap _ _ _, rfl, s3, ps7, ok7, rfl⟩)))
  rw [dnats, List.getElem?_map, places_zero m.p kl hh]
  rfl
end
end K50
set_option maxRecDepth 100000
set_option maxHeartbeats 4000000
/-! K36: the law. -/
namespace K50
open PySem PySem.Spec PyProof.Rows L2 DL
section
variable {P : Program} {w : World} {K : PySem.W.Frag} {mg : Str → Option Value} {base : Heap}
theorem ok_law (Γ : Pg K mg) {c Pt : Addr} (hcode : Γ.part_classes.fd.code = .ref c) (TB : GxR.TabB base mg c Pt) : FnOkG P w K mg base CX0 16 Γ.law.f Γ.law.fd P_law (spD K (fun l : { l : List Int // l.length ≤ 1000 } => [.lst (dints l.1)]) (fun _ => [(Pt, tbD #[])]) (fun _ d _ => d = .bl true)) := by
  refine fn_okG Γ.law.F sc_law (fun _ => rfl) (by decide) (fun cdv A outer s H E hgA hr ⟨l, hl⟩ => ?_)
  have nd := sc_law.nd
  refine bl_cons (st_for (js := [1]) rfl (itx_range1 Γ.b_range (ag_cons (ev_callB (call_max2 rfl) Γ.b_max bt_max (ag_cons (ev_int (ag_cons (ev_callB (call_min2 rfl) Γ.b_min bt_min (ag_cons (ev_int (ag_cons (ev_callB call_len_seq Γ.b_len bt_len (ag_cons (ev_v 0 rfl (ag_nil (oa_lenS (.inr rfl) (ag_nil (oa_min (ag_nil (oa_max (ag_nil ⟨max 1 (min 5 l.length), ?_, by omega, fun i Γ' L' => ∃ ps o1 o2 o3, TriplesOk (Array.toList ps) ∧ Γ' = [some (.lst (dints l)), o1, o2, o3] ∧ L' = [(Pt, tbD ps)], ?_, ?_, ?_⟩)))))))))))))))))))))
  · show [D.int (if (if ((dints l).length : Int) < 5 then ((dints l).length : Int) else 5) > 1 then (if ((dints l).length : Int) < 5 then ((dints l).length : Int) else 5) else 1)] = _
    have e : (dints l).length = l.length := by simp [dints]
    rw [e]
    congr 2
    split <;> split <;> omega
  · exact ⟨#[], none, none, none, trivial, rfl, rfl⟩
  · rintro i d Γ' L' hd ⟨ps, o1, o2, o3, hok, rfl, rfl⟩
    have hi : i < 5 := by
      have := (List.getElem?_eq_some_iff.mp hd).1
      rw [rangeD_length] at this
      omega
    rw [rangeD_get (by have := (List.getElem?_eq_some_iff.mp hd).1; rw [rangeD_length] at this; exact this)] at hd
    cases hd
    rw [Int.zero_add]
    refine tg_v 1 nd ?_
    refine bl_cons (st_set 2 nd (ev_call (ok_law_stream Γ) (hr.mono (by decide)) Γ.law_stream.g Γ.law_stream.F.kp (bi_law_stream Γ) (ag_cons (ev_v 0 rfl (ag_cons (ev_v 1 rfl (ag_nil ⟨⟨l, i, hi⟩, [(Pt, tbD ps)], rfl, .refl _, ?_⟩)))))))
    rintro d L' ⟨p, s0, rfl, rfl⟩
    refine bl_cons (st_for (js := [3]) rfl (itx_range1 Γ.b_range (ag_cons (ev_int (ag_nil ⟨2, rfl, by decide, fun j Γ' L' => ∃ s ps o3, TriplesOk (Array.toList ps) ∧ Γ' = [some (.lst (dints l)), some (.int i), some (.ref p), o3] ∧ L' = [(p, stmD s), (Pt, tbD ps)], ?_, ?_, ?_⟩)))))
    · exact ⟨s0, ps, _, hok, rfl, rfl⟩
    · rintro j d Γ' L' hd ⟨s1, ps1, o3, ok1, rfl, rfl⟩
      refine tg_v 3 nd ?_
      refine bl_cons (st_if (te_not (te_val (ev_callG (ok_law_right Γ hcode TB) hgA hr Γ.law_right.g Γ.law_right.F.kp (bi_law_right Γ) (ag_cons (ev_v 2 rfl (ag_nil ⟨⟨p, s1, ps1, ok1⟩, [], rfl, .refl _, ?_⟩)))))))
      rintro d2 L' ⟨rfl, s2, ps2, ok2, rfl⟩
      exact ⟨true, rfl, iteF (bl_nil (bl_nil ⟨s2, ps2, _, ok2, rfl, rfl⟩))⟩
    · rintro Γ' L' ⟨s1, ps1, o3, ok1, rfl, rfl⟩
      exact bl_fz 0 2 rfl rfl (bl_nil ⟨ps1, _, _, _, ok1, rfl, rfl⟩)
  · rintro Γ' L' ⟨ps, o1, o2, o3, hok, rfl, rfl⟩
    exact bl_cons (st_ret (ev_bl rfl))
end
end K50
set_option maxRecDepth 100000
set_option maxHeartbeats 0
/-! HA: what the top leaves, read off the heap. (Printed by gen_head.py.) -/
namespace K50
open PySem PySem.Spec PyProof.Rows L2 DL
abbrev cM (K : PySem.W.Frag) : Addr := He.ga K "MadeGraph"
abbrev cC (K : PySem.W.Frag) : Addr := He.ga K "Checked"
abbrev cG (K : PySem.W.Frag) : Addr := He.ga K "Graph"
def isiB (K : PySem.W.Frag) (C : Addr) : Bool := He.eqO (PySem.W.findIn K (.ref C) "__class__") (some (some (.builtin "object.__class__"))) && (He.eqO (PySem.W.specialIn K (.builtin "object.__class__") "__get__") (some (some (.builtin "getset_descriptor.__get__"))) &&
  (decide (PySem.W.takesIn K (.builtin "object.__class__") = some true) && decide (PySem.W.mroIn K C (.type "object") = some true)))
theorem isiB_ok {K : PySem.W.Frag} {C : Addr} (c : Cls K C) (h : isiB K C = true) : Isi K C := by
  obtain ⟨h1, h⟩ := He.ba h
  obtain ⟨h2, h⟩ := He.ba h
  obtain ⟨h3, h4⟩ := He.ba h
  exact ⟨c, He.eqO_ok h1, He.eqO_ok h2, of_decide_eq_true h3, of_decide_eq_true h4⟩
/-! ### the defs -/
def hd0 : He5.DefA := ⟨fun K => He.ga K "is_integer", "is_integer", "is_integer", defArgs s_is_integer, defBody s_is_integer, defScope s_is_integer, [], []⟩
def hd1 : He5.DefA := ⟨fun K => He.ga K "is_between", "is_between", "is_between", defArgs s_is_between, defBody s_is_between, defScope s_is_between, [], []⟩
def hd2 : He5.DefA := ⟨fun K => He.ga K "is_name", "is_name", "is_name", defArgs s_is_name, defBody s_is_name, defScope s_is_name, [], []⟩
def hd3 : He5.DefA := ⟨fun K => He.ga K "is_node_form", "is_node_form", "is_node_form", defArgs s_is_node_form, defBody s_is_node_form, defScope s_is_node_form, [], []⟩
def hd4 : He5.DefA := ⟨fun K => He.ga K "are_nodes", "are_nodes", "are_nodes", defArgs s_are_nodes, defBody s_are_nodes, defScope s_are_nodes, [], []⟩
def hd5 : He5.DefA := ⟨fun K => He.ga K "children_of", "children_of", "children_of", defArgs s_children_of, defBody s_children_of, defScope s_children_of, [], []⟩
def hd6 : He5.DefA := ⟨fun K => He.ga K "first_walk", "first_walk", "first_walk", defArgs s_first_walk, defBody s_first_walk, defScope s_first_walk, [], []⟩
def hd7 : He5.DefA := ⟨fun K => He.ga K "renumbered", "renumbered", "renumbered", defArgs s_renumbered, defBody s_renumbered, defScope s_renumbered, [], []⟩
def hd8 : He5.DefA := ⟨fun K => He.ga K "needs_now", "needs_now", "needs_now", defArgs s_needs_now, defBody s_needs_now, defScope s_needs_now, [], []⟩
def hd9 : He5.DefA := ⟨fun K => He.ga K "needs_of_nodes", "needs_of_nodes", "needs_of_nodes", defArgs s_needs_of_nodes, defBody s_needs_of_nodes, defScope s_needs_of_nodes, [], []⟩
def hd10 : He5.DefA := ⟨fun K => He.ga K "innermost_in", "innermost_in", "innermost_in", defArgs s_innermost_in, defBody s_innermost_in, defScope s_innermost_in, [], []⟩
def hd11 : He5.DefA := ⟨fun K => He.ga K "scope_in", "scope_in", "scope_in", defArgs s_scope_in, defBody s_scope_in, defScope s_scope_in, [], []⟩
def hd12 : He5.DefA := ⟨fun K => He.ga K "require_node", "require_node", "require_node", defArgs s_require_node, defBody s_require_node, defScope s_require_node, [], []⟩
def hd13 : He5.DefA := ⟨fun K => He.ga K "checked_nodes", "checked_nodes", "checked_nodes", defArgs s_checked_nodes, defBody s_checked_nodes, defScope s_checked_nodes, [], []⟩
def hd14 : He5.DefA := ⟨fun K => He.ga K "graph_in", "graph_in", "graph_in", defArgs s_graph_in, defBody s_graph_in, defScope s_graph_in, [], []⟩
def hd15 : He5.DefA := ⟨fun K => He.ga K "require_graph", "require_graph", "require_graph", defArgs s_require_graph, defBody s_require_graph, defScope s_require_graph, [], []⟩
def hd16 : He5.DefA := ⟨fun K => He.ga K "numbered", "numbered", "numbered", defArgs s_numbered, defBody s_numbered, defScope s_numbered, [], []⟩
def hd17 : He5.DefA := ⟨fun K => He.ga K "look_of", "look_of", "look_of", defArgs s_look_of, defBody s_look_of, defScope s_look_of, [], []⟩
def hd18 : He5.DefA := ⟨fun K => He.ga K "classes_of", "classes_of", "classes_of", defArgs s_classes_of, defBody s_classes_of, defScope s_classes_of, [], []⟩
def hd19 : He5.DefA := ⟨fun K => He.ga K "groups_of", "groups_of", "groups_of", defArgs s_groups_of, defBody s_groups_of, defScope s_groups_of, [], []⟩
def hd20 : He5.DefA := ⟨fun K => He.ga K "merged_nodes", "merged_nodes", "merged_nodes", defArgs s_merged_nodes, defBody s_merged_nodes, defScope s_merged_nodes, [], []⟩
def hd21 : He5.DefA := ⟨fun K => He.ga K "quotient_in", "quotient_in", "quotient_in", defArgs s_quotient_in, defBody s_quotient_in, defScope s_quotient_in, [], []⟩
def hd22 : He5.DefA := ⟨fun K => He.ga K "spot_of", "spot_of", "spot_of", defArgs s_spot_of, defBody s_spot_of, defScope s_spot_of, [], []⟩
def hd23 : He5.DefA := ⟨fun K => He.ga K "below_spot", "below_spot", "below_spot", defArgs s_below_spot, defBody s_below_spot, defScope s_below_spot, [], []⟩
def hd24 : He5.DefA := ⟨fun K => He.ga K "inner_scope", "inner_scope", "inner_scope", defArgs s_inner_scope, defBody s_inner_scope, defScope s_inner_scope, [], []⟩
def hd25 : He5.DefA := ⟨fun K => He.ga K "is_open", "is_open", "is_open", defArgs s_is_open, defBody s_is_open, defScope s_is_open, [], []⟩
def hd26 : He5.DefA := ⟨fun K => He.ga K "look_of_spot", "look_of_spot", "look_of_spot", defArgs s_look_of_spot, defBody s_look_of_spot, defScope s_look_of_spot, [], []⟩
def hd27 : He5.DefA := ⟨fun K => He.ga K "met_spots", "met_spots", "met_spots", defArgs s_met_spots, defBody s_met_spots, defScope s_met_spots, [], []⟩
def hd28 : He5.DefA := ⟨fun K => He.ga K "open_pairs", "open_pairs", "open_pairs", defArgs s_open_pairs, defBody s_open_pairs, defScope s_open_pairs, [], []⟩
def hd29 : He5.DefA := ⟨fun K => He.ga K "change_between", "change_between", "change_between", defArgs s_change_between, defBody s_change_between, defScope s_change_between, [], []⟩
def hd30 : He5.DefA := ⟨fun K => He.ga K "same_part", "same_part", "same_part", defArgs s_same_part, defBody s_same_part, defScope s_same_part, [], []⟩
def hd31 : He5.DefA := ⟨fun K => He.ga K "part_classes", "part_classes", "part_classes", defArgs s_part_classes, defBody s_part_classes, defScope s_part_classes, [], []⟩
def hd32 : He5.DefA := ⟨fun K => He.ga K "places_of", "places_of", "places_of", defArgs s_places_of, defBody s_places_of, defScope s_places_of, [], []⟩
def hd33 : He5.DefA := ⟨fun K => He.ga K "classes_in", "classes_in", "classes_in", defArgs s_classes_in, defBody s_classes_in, defScope s_classes_in, [], []⟩
def hd34 : He5.DefA := ⟨fun K => He.ga K "least_in", "least_in", "least_in", defArgs s_least_in, defBody s_least_in, defScope s_least_in, [], []⟩
def hd35 : He5.DefA := ⟨fun K => He.ga K "classes", "classes", "classes", defArgs s_classes, defBody s_classes, defScope s_classes, [], []⟩
def hd36 : He5.DefA := ⟨fun K => He.ga K "least", "least", "least", defArgs s_least, defBody s_least, defScope s_least, [], []⟩
def hd37 : He5.DefA := ⟨fun K => He.ga K "_law_stream", "_law_stream", "_law_stream", defArgs s_law_stream, defBody s_law_stream, defScope s_law_stream, [], []⟩
def hd38 : He5.DefA := ⟨fun K => He.ga K "_law_draw", "_law_draw", "_law_draw", defArgs s_law_draw, defBody s_law_draw, defScope s_law_draw, [], []⟩
def hd39 : He5.DefA := ⟨fun K => He.ga K "_law_pick", "_law_pick", "_law_pick", defArgs s_law_pick, defBody s_law_pick, defScope s_law_pick, [], []⟩
def hd40 : He5.DefA := ⟨fun K => He.ga K "_law_below", "_law_below", "_law_below", defArgs s_law_below, defBody s_law_below, defScope s_law_below, [], []⟩
def hd41 : He5.DefA := ⟨fun K => He.ga K "_law_walked", "_law_walked", "_law_walked", defArgs s_law_walked, defBody s_law_walked, defScope s_law_walked, [], []⟩
def hd42 : He5.DefA := ⟨fun K => He.ga K "_law_needs", "_law_needs", "_law_needs", defArgs s_law_needs, defBody s_law_needs, defScope s_law_needs, [], []⟩
def hd43 : He5.DefA := ⟨fun K => He.ga K "_law_scopes", "_law_scopes", "_law_scopes", defArgs s_law_scopes, defBody s_law_scopes, defScope s_law_scopes, [], []⟩
def hd44 : He5.DefA := ⟨fun K => He.ga K "_law_scope", "_law_scope", "_law_scope", defArgs s_law_scope, defBody s_law_scope, defScope s_law_scope, [], []⟩
def hd45 : He5.DefA := ⟨fun K => He.ga K "_law_variable", "_law_variable", "_law_variable", defArgs s_law_variable, defBody s_law_variable, defScope s_law_variable, [], []⟩
def hd46 : He5.DefA := ⟨fun K => He.ga K "_law_grown", "_law_grown", "_law_grown", defArgs s_law_grown, defBody s_law_grown, defScope s_law_grown, [], []⟩
def hd47 : He5.DefA := ⟨fun K => He.ga K "_law_web", "_law_web", "_law_web", defArgs s_law_web, defBody s_law_web, defScope s_law_web, [], []⟩
def hd48 : He5.DefA := ⟨fun K => He.ga K "_law_renamed_node", "_law_renamed_node", "_law_renamed_node", defArgs s_law_renamed_node, defBody s_law_renamed_node, defScope s_law_renamed_node, [], []⟩
def hd49 : He5.DefA := ⟨fun K => He.ga K "_law_parted", "_law_parted", "_law_parted", defArgs s_law_parted, defBody s_law_parted, defScope s_law_parted, [], []⟩
def hd50 : He5.DefA := ⟨fun K => He.ga K "_law_often", "_law_often", "_law_often", defArgs s_law_often, defBody s_law_often, defScope s_law_often, [], []⟩
def hd51 : He5.DefA := ⟨fun K => He.ga K "_law_pairs_right", "_law_pairs_right", "_law_pairs_right", defArgs s_law_pairs_right, defBody s_law_pairs_right, defScope s_law_pairs_right, [], []⟩
def hd52 : He5.DefA := ⟨fun K => He.ga K "_law_closed_right", "_law_closed_right", "_law_closed_right", defArgs s_law_closed_right, defBody s_law_closed_right, defScope s_law_closed_right, [], []⟩
def hd53 : He5.DefA := ⟨fun K => He.ga K "_law_right", "_law_right", "_law_right", defArgs s_law_right, defBody s_law_right, defScope s_law_right, [], []⟩
def hd54 : He5.DefA := ⟨fun K => He.ga K "law", "law", "law", defArgs s_law, defBody s_law, defScope s_law, [], []⟩
def hd55 : He5.DefA := ⟨fun K => He.ma K (cC K) "__init__", "__init__", "Checked.__init__", defArgs s_Checked_init, defBody s_Checked_init, defScope s_Checked_init, [], []⟩
def hd56 : He5.DefA := ⟨fun K => He.ma K (cM K) "__init__", "__init__", "MadeGraph.__init__", defArgs s_MadeGraph_init, defBody s_MadeGraph_init, defScope s_MadeGraph_init, [], []⟩
def hd57 : He5.DefA := ⟨fun K => He5.wf K (cG K) "classmethod" "of", "of", "Graph.of", defArgs s_Graph_of, defBody s_Graph_of, defScope s_Graph_of, [], []⟩
def hd58 : He5.DefA := ⟨fun K => He.ma K (cM K) "set_up", "set_up", "Graph.set_up", defArgs s_Graph_set_up, defBody s_Graph_set_up, defScope s_Graph_set_up, [], []⟩
def hd59 : He5.DefA := ⟨fun K => He.ma K (cM K) "needs", "needs", "Graph.needs", defArgs s_Graph_needs, defBody s_Graph_needs, defScope s_Graph_needs, [], []⟩
def hd60 : He5.DefA := ⟨fun K => He.ma K (cM K) "scope", "scope", "Graph.scope", defArgs s_Graph_scope, defBody s_Graph_scope, defScope s_Graph_scope, [], []⟩
def hd61 : He5.DefA := ⟨fun K => He.ma K (cM K) "closed_part", "closed_part", "Graph.closed_part", defArgs s_Graph_closed_part, defBody s_Graph_closed_part, defScope s_Graph_closed_part, [], []⟩
def hd62 : He5.DefA := ⟨fun K => He.ma K (cM K) "__len__", "__len__", "Graph.__len__", defArgs s_Graph_len, defBody s_Graph_len, defScope s_Graph_len, [], []⟩
def hfn0 : List He5.DefA := [hd0, hd1, hd2, hd3, hd4, hd5, hd6, hd7, hd8, hd9, hd10, hd11, hd12, hd13, hd14, hd15, hd16, hd17, hd18, hd19, hd20, hd21, hd22, hd23, hd24, hd25, hd26, hd27, hd28, hd29]
def hfn1 : List He5.DefA := [hd30, hd31, hd32, hd33, hd34, hd35, hd36, hd37, hd38, hd39, hd40, hd41, hd42, hd43, hd44, hd45, hd46, hd47, hd48, hd49, hd50, hd51, hd52, hd53, hd54, hd55, hd56, hd57, hd58, hd59]
def hfn2 : List He5.DefA := [hd60, hd61, hd62]
def hfn : List He5.DefA := hfn0 ++ (hfn1 ++ (hfn2))
/-! ### the names -/
def hfa0 : List He.Fa := [.glo "is_integer", .glo "is_between", .glo "is_name", .glo "is_node_form", .glo "are_nodes", .glo "children_of", .glo "first_walk", .glo "renumbered", .glo "needs_now", .glo "needs_of_nodes", .glo "innermost_in", .glo "scope_in", .glo "require_node", .glo "checked_nodes", .glo "graph_in", .glo "require_graph", .glo "numbered", .glo "look_of", .glo "classes_of", .glo "groups_of", .glo "merged_nodes", .glo "quotient_in", .glo "spot_of", .glo "below_spot", .glo "inner_scope", .glo "is_open", .glo "look_of_spot", .glo "met_spots", .glo "open_pairs", .glo "change_between"]
def hfa1 : List He.Fa := [.glo "same_part", .glo "part_classes", .glo "places_of", .glo "classes_in", .glo "least_in", .glo "classes", .glo "least", .glo "_law_stream", .glo "_law_draw", .glo "_law_pick", .glo "_law_below", .glo "_law_walked", .glo "_law_needs", .glo "_law_scopes", .glo "_law_scope", .glo "_law_variable", .glo "_law_grown", .glo "_law_web", .glo "_law_renamed_node", .glo "_law_parted", .glo "_law_often", .glo "_law_pairs_right", .glo "_law_closed_right", .glo "_law_right", .glo "law", .glo "MadeGraph", .glo "Checked", .glo "Graph", .free "len", .free "isinstance"]
def hfa2 : List He.Fa := [.free "int", .free "bool", .free "str", .free "tuple", .free "all", .free "list", .free "set", .free "sorted", .free "range", .free "enumerate", .free "zip", .free "min", .free "max", .free "abs", .free "next", .free "dict", .free "repr", .str "WORD" "word", .str "FUN" "fun", .str "VAR" "var", .int "MAX_NODES" 100, .int "MOST_CHILDREN" 3, .int "MOST_LETTERS" 8, .glo "RESERVED", .cls "MadeGraph", .cls "Checked", .noat "MadeGraph" "own_nodes", .noat "MadeGraph" "own_needs", .noat "MadeGraph" "own_scopes", .noat "Checked" "own_nodes"]
def hfa3 : List He.Fa := [.mkr "MadeGraph", .mkr "Checked", .meth "MadeGraph" "set_up", .meth "MadeGraph" "needs", .meth "MadeGraph" "scope", .meth "MadeGraph" "closed_part", .meth "MadeGraph" "__len__"]
def hfa : List He.Fa := hfa0 ++ (hfa1 ++ (hfa2 ++ (hfa3)))
def hex_ (K : PySem.W.Frag) : Bool := He.tupB K "RESERVED" [.str "fun", .str "let", .str "in"] && (isiB K (cM K) && (isiB K (cC K) && (decide (PySem.W.kitOne K (.ref (cM K)) (.ref (cG K)) = some true) && (decide (PySem.W.kitOne K (.type "tuple") (.ref (cC K)) = some false) && (decide (PySem.W.kitOne K (.ref (cC K)) (.ref (cC K)) = some true) &&
  (He5.wrapB K (cG K) "classmethod" "classmethod.__get__" "of" && (PySem.W.fnIn K (He5.wf K (cG K) "classmethod" "of") && (PySem.W.readsIn K (cG K) (.type "type") && He.eqO (PySem.W.specialIn K (.ref (cG K)) "__getattribute__") (some (some (.builtin "type.__getattribute__")))))))))))
abbrev htf : List He.Defn := [("part_classes", none)]
/-! ### the Hook -/
/-- what an object names, as far as it is wanted -/
def refsZ (o : Obj) : List Addr := match o.data with
  | .dict es _ => es.toList.flatMap fun e => He.refV e.val
  | .func fd => He.refV fd.code
  | .cls cd => cd.ns :: cd.mro.flatMap He.refV
  | .fields vs => (match o.cls with
    | .type c => (match decide (c = "classmethod") with
      | true => vs.toList.flatMap He.refV
      | false => [])
    | _ => [])
  | _ => []
def nextZ (g : Addr → Option Obj) (as : List Addr) : List Addr := (as.flatMap fun a => match g a with
  | some o => refsZ o
  | none => []).eraseDups
def asZ (g : Addr → Option Obj) : Nat → List Addr → List Addr
  | 0, as => as
  | n + 1, as => as ++ asZ g n (nextZ g as)
abbrev hK (n : Nat) (g : Addr → Option Obj) : PySem.W.Frag := He.frT g (cStatics :: asZ g n [mainGlobals])
abbrev AlZ : Type := He.AlD × Bool
def obsZ (n : Nat) (g : Addr → Option Obj) : AlZ := (He5.obsA hfa hfn (hK n g), hex_ (hK n g) && He.tabsB g htf (hK n g))
def valZ : AlZ := (He5.valA hfn, true)
structure SaysZ (h : Heap) (K : PySem.W.Frag) : Prop where
  t : He5.SaysA hfa hfn K
  more : hex_ K = true
  hd : PySem.W.codeHdIn K (He.cT K ("part_classes", none)).1 (He.cT K ("part_classes", none)).2 = true
  out : K.lookup (He.cT K ("part_classes", none)).2 = none
  empty : h.get? (He.cT K ("part_classes", none)).2 = some { cls := .none, data := .fields #[] }
theorem saysZ_of {n : Nat} {h : Heap} (e : obsZ n h.get? = valZ) : SaysZ h (hK n h.get?) := by
  have e1 : He5.obsA hfa hfn (hK n h.get?) = He5.valA hfn := congrArg (fun z : AlZ => z.1) e
  have e2 : (hex_ (hK n h.get?) && He.tabsB h.get? htf (hK n h.get?)) = true := congrArg (fun z : AlZ => z.2) e
  obtain ⟨h1, h2⟩ := He.ba e2
  obtain ⟨h3, h4⟩ := He.ba (List.all_eq_true.mp h2 ("part_classes", none) (by simp))
  cases q : h.get? (He.cT (hK n h.get?) ("part_classes", none)).2 with
  | none => rw [q] at h4; cases h4
  | some o =>
    rw [q] at h4
    have h5 : He.emptyTab o = true := h4
    exact ⟨e1, h1, h3, He.frT_none q h5, by rw [q, He.emptyTab_eq h5]⟩
def hookZ (n : Nat) : PySem.W.Hook where
  α := AlZ
  obs := fun s => obsZ n s.heap.get?
  val := fun _ => valZ
  says := fun _ h => ∃ K : PySem.W.Frag, K.In h ∧ SaysZ h K
  of := fun _ _ e => ⟨_, He.frT_in, saysZ_of e⟩
  keeps := fun _ _ _ ⟨K, hK, c⟩ k => ⟨K, PySem.W.Frag.In.keeps hK k, ⟨c.t, c.more, c.hd, c.out, k _ _ c.empty⟩⟩
theorem obsZ_eq {n : Nat} {g : Addr → Option Obj} {s : Shared} (h : ∀ a, g a = s.heap.get? a) : obsZ n g = (hookZ n).obs s := by
  have e : g = s.heap.get? := funext h
  rw [e]
  rfl
def obZ (s : PySem.W.SharedT) : AlZ := obsZ 5 (HandSHeadRun.getT s)
theorem obZ_eq (s : PySem.W.SharedT) : obZ s = (hookZ 5).obs s.abs := obsZ_eq (HandSHeadRun.getT_eq s)
/-! ### what the facts say -/
section
variable {K : PySem.W.Frag} {h : Heap} {mg : Str → Option Value}
theorem pg_of (X : K.In h) (G : h.Ns mainGlobals mg) (z : SaysZ h K) : ∃ Γ : Pg K mg, Γ.law.f = He.ga K "law" ∧ Γ.part_classes.f = He.ga K "part_classes" := by
  have c := z.t
  obtain ⟨fd0, F0⟩ := c.def_ 0 (d := hd0) rfl
  obtain ⟨fd1, F1⟩ := c.def_ 1 (d := hd1) rfl
  obtain ⟨fd2, F2⟩ := c.def_ 2 (d := hd2) rfl
  obtain ⟨fd3, F3⟩ := c.def_ 3 (d := hd3) rfl
  obtain ⟨fd4, F4⟩ := c.def_ 4 (d := hd4) rfl
  obtain ⟨fd5, F5⟩ := c.def_ 5 (d := hd5) rfl
  obtain ⟨fd6, F6⟩ := c.def_ 6 (d := hd6) rfl
  obtain ⟨fd7, F7⟩ := c.def_ 7 (d := hd7) rfl
  obtain ⟨fd8, F8⟩ := c.def_ 8 (d := hd8) rfl
  obtain ⟨fd9, F9⟩ := c.def_ 9 (d := hd9) rfl
  obtain ⟨fd10, F10⟩ := c.def_ 10 (d := hd10) rfl
  obtain ⟨fd11, F11⟩ := c.def_ 11 (d := hd11) rfl
  obtain ⟨fd12, F12⟩ := c.def_ 12 (d := hd12) rfl
  obtain ⟨fd13, F13⟩ := c.def_ 13 (d := hd13) rfl
  obtain ⟨fd14, F14⟩ := c.def_ 14 (d := hd14) rfl
  obtain ⟨fd15, F15⟩ := c.def_ 15 (d := hd15) rfl
  obtain ⟨fd16, F16⟩ := c.def_ 16 (d := hd16) rfl
  obtain ⟨fd17, F17⟩ := c.def_ 17 (d := hd17) rfl
  obtain ⟨fd18, F18⟩ := c.def_ 18 (d := hd18) rfl
  obtain ⟨fd19, F19⟩ := c.def_ 19 (d := hd19) rfl
  obtain ⟨fd20, F20⟩ := c.def_ 20 (d := hd20) rfl
  obtain ⟨fd21, F21⟩ := c.def_ 21 (d := hd21) rfl
  obtain ⟨fd22, F22⟩ := c.def_ 22 (d := hd22) rfl
  obtain ⟨fd23, F23⟩ := c.def_ 23 (d := hd23) rfl
  obtain ⟨fd24, F24⟩ := c.def_ 24 (d := hd24) rfl
  obtain ⟨fd25, F25⟩ := c.def_ 25 (d := hd25) rfl
  obtain ⟨fd26, F26⟩ := c.def_ 26 (d := hd26) rfl
  obtain ⟨fd27, F27⟩ := c.def_ 27 (d := hd27) rfl
  obtain ⟨fd28, F28⟩ := c.def_ 28 (d := hd28) rfl
  obtain ⟨fd29, F29⟩ := c.def_ 29 (d := hd29) rfl
  obtain ⟨fd30, F30⟩ := c.def_ 30 (d := hd30) rfl
  obtain ⟨fd31, F31⟩ := c.def_ 31 (d := hd31) rfl
  obtain ⟨fd32, F32⟩ := c.def_ 32 (d := hd32) rfl
  obtain ⟨fd33, F33⟩ := c.def_ 33 (d := hd33) rfl
  obtain ⟨fd34, F34⟩ := c.def_ 34 (d := hd34) rfl
  obtain ⟨fd35, F35⟩ := c.def_ 35 (d := hd35) rfl
  obtain ⟨fd36, F36⟩ := c.def_ 36 (d := hd36) rfl
  obtain ⟨fd37, F37⟩ := c.def_ 37 (d := hd37) rfl
  obtain ⟨fd38, F38⟩ := c.def_ 38 (d := hd38) rfl
  obtain ⟨fd39, F39⟩ := c.def_ 39 (d := hd39) rfl
  obtain ⟨fd40, F40⟩ := c.def_ 40 (d := hd40) rfl
  obtain ⟨fd41, F41⟩ := c.def_ 41 (d := hd41) rfl
  obtain ⟨fd42, F42⟩ := c.def_ 42 (d := hd42) rfl
  obtain ⟨fd43, F43⟩ := c.def_ 43 (d := hd43) rfl
  obtain ⟨fd44, F44⟩ := c.def_ 44 (d := hd44) rfl
  obtain ⟨fd45, F45⟩ := c.def_ 45 (d := hd45) rfl
  obtain ⟨fd46, F46⟩ := c.def_ 46 (d := hd46) rfl
  obtain ⟨fd47, F47⟩ := c.def_ 47 (d := hd47) rfl
  obtain ⟨fd48, F48⟩ := c.def_ 48 (d := hd48) rfl
  obtain ⟨fd49, F49⟩ := c.def_ 49 (d := hd49) rfl
  obtain ⟨fd50, F50⟩ := c.def_ 50 (d := hd50) rfl
  obtain ⟨fd51, F51⟩ := c.def_ 51 (d := hd51) rfl
  obtain ⟨fd52, F52⟩ := c.def_ 52 (d := hd52) rfl
  obtain ⟨fd53, F53⟩ := c.def_ 53 (d := hd53) rfl
  obtain ⟨fd54, F54⟩ := c.def_ 54 (d := hd54) rfl
  obtain ⟨fd55, F55⟩ := c.def_ 55 (d := hd55) rfl
  obtain ⟨fd56, F56⟩ := c.def_ 56 (d := hd56) rfl
  obtain ⟨fd57, F57⟩ := c.def_ 57 (d := hd57) rfl
  obtain ⟨fd58, F58⟩ := c.def_ 58 (d := hd58) rfl
  obtain ⟨fd59, F59⟩ := c.def_ 59 (d := hd59) rfl
  obtain ⟨fd60, F60⟩ := c.def_ 60 (d := hd60) rfl
  obtain ⟨fd61, F61⟩ := c.def_ 61 (d := hd61) rfl
  obtain ⟨fd62, F62⟩ := c.def_ 62 (d := hd62) rfl
  obtain ⟨x1, x⟩ := He.ba z.more
  obtain ⟨x2, x⟩ := He.ba x
  obtain ⟨x3, x⟩ := He.ba x
  obtain ⟨x4, x⟩ := He.ba x
  obtain ⟨x5, x⟩ := He.ba x
  obtain ⟨x6, x⟩ := He.ba x
  obtain ⟨x7, x⟩ := He.ba x
  obtain ⟨x8, x⟩ := He.ba x
  obtain ⟨x9, x10⟩ := He.ba x
  have gM := He.glo_ok X G (c.fact 55 (f := (He.Fa.glo "MadeGraph")) rfl)
  have gC := He.glo_ok X G (c.fact 56 (f := (He.Fa.glo "Checked")) rfl)
  have gG := He.glo_ok X G (c.fact 57 (f := (He.Fa.glo "Graph")) rfl)
  have clM := He.cls_ok (c.fact 84 (f := (He.Fa.cls "MadeGraph")) rfl)
  have clC := He.cls_ok (c.fact 85 (f := (He.Fa.cls "Checked")) rfl)
  have ml := He.meth_ok (c.fact 96 (f := (He.Fa.meth "MadeGraph" "__len__")) rfl)
  have rs := He.glo_ok X G (c.fact 83 (f := (He.Fa.glo "RESERVED")) rfl)
  exact ⟨⟨He.free_ok X G (c.fact 58 (f := (He.Fa.free "len")) rfl),
    He.free_ok X G (c.fact 59 (f := (He.Fa.free "isinstance")) rfl),
    He.free_ok X G (c.fact 60 (f := (He.Fa.free "int")) rfl),
    He.free_ok X G (c.fact 61 (f := (He.Fa.free "bool")) rfl),
    He.free_ok X G (c.fact 62 (f := (He.Fa.free "str")) rfl),
    He.free_ok X G (c.fact 63 (f := (He.Fa.free "tuple")) rfl),
    He.free_ok X G (c.fact 64 (f := (He.Fa.free "all")) rfl),
    He.free_ok X G (c.fact 65 (f := (He.Fa.free "list")) rfl),
    He.free_ok X G (c.fact 66 (f := (He.Fa.free "set")) rfl),
    He.free_ok X G (c.fact 67 (f := (He.Fa.free "sorted")) rfl),
    He.free_ok X G (c.fact 68 (f := (He.Fa.free "range")) rfl),
    He.free_ok X G (c.fact 69 (f := (He.Fa.free "enumerate")) rfl),
    He.free_ok X G (c.fact 70 (f := (He.Fa.free "zip")) rfl),
    He.free_ok X G (c.fact 71 (f := (He.Fa.free "min")) rfl),
    He.free_ok X G (c.fact 72 (f := (He.Fa.free "max")) rfl),
    He.free_ok X G (c.fact 73 (f := (He.Fa.free "abs")) rfl),
    He.free_ok X G (c.fact 74 (f := (He.Fa.free "next")) rfl),
    He.free_ok X G (c.fact 75 (f := (He.Fa.free "dict")) rfl),
    He.free_ok X G (c.fact 76 (f := (He.Fa.free "repr")) rfl),
    He.str_ok X G (c.fact 77 (f := (He.Fa.str "WORD" "word")) rfl),
    He.str_ok X G (c.fact 78 (f := (He.Fa.str "FUN" "fun")) rfl),
    He.str_ok X G (c.fact 79 (f := (He.Fa.str "VAR" "var")) rfl),
    He.int_ok X G (c.fact 80 (f := (He.Fa.int "MAX_NODES" 100)) rfl),
    He.int_ok X G (c.fact 81 (f := (He.Fa.int "MOST_CHILDREN" 3)) rfl),
    He.int_ok X G (c.fact 82 (f := (He.Fa.int "MOST_LETTERS" 8)) rfl),
    ⟨_, rs, fun B => .tup (He.tupB_ok x1 B) (.cons (.str _) (.cons (.str _) (.cons (.str _) .nil)))⟩,
    ⟨⟨_, fd0, F0⟩, He.glo_ok X G (c.fact 0 (f := (He.Fa.glo "is_integer")) rfl)⟩,
    ⟨⟨_, fd1, F1⟩, He.glo_ok X G (c.fact 1 (f := (He.Fa.glo "is_between")) rfl)⟩,
    ⟨⟨_, fd2, F2⟩, He.glo_ok X G (c.fact 2 (f := (He.Fa.glo "is_name")) rfl)⟩,
    ⟨⟨_, fd3, F3⟩, He.glo_ok X G (c.fact 3 (f := (He.Fa.glo "is_node_form")) rfl)⟩,
    ⟨⟨_, fd4, F4⟩, He.glo_ok X G (c.fact 4 (f := (He.Fa.glo "are_nodes")) rfl)⟩,
    ⟨⟨_, fd5, F5⟩, He.glo_ok X G (c.fact 5 (f := (He.Fa.glo "children_of")) rfl)⟩,
    ⟨⟨_, fd6, F6⟩, He.glo_ok X G (c.fact 6 (f := (He.Fa.glo "first_walk")) rfl)⟩,
    ⟨⟨_, fd7, F7⟩, He.glo_ok X G (c.fact 7 (f := (He.Fa.glo "renumbered")) rfl)⟩,
    ⟨⟨_, fd8, F8⟩, He.glo_ok X G (c.fact 8 (f := (He.Fa.glo "needs_now")) rfl)⟩,
    ⟨⟨_, fd9, F9⟩, He.glo_ok X G (c.fact 9 (f := (He.Fa.glo "needs_of_nodes")) rfl)⟩,
    ⟨⟨_, fd10, F10⟩, He.glo_ok X G (c.fact 10 (f := (He.Fa.glo "innermost_in")) rfl)⟩,
    ⟨⟨_, fd11, F11⟩, He.glo_ok X G (c.fact 11 (f := (He.Fa.glo "scope_in")) rfl)⟩,
    ⟨⟨_, fd12, F12⟩, He.glo_ok X G (c.fact 12 (f := (He.Fa.glo "require_node")) rfl)⟩,
    ⟨⟨_, fd13, F13⟩, He.glo_ok X G (c.fact 13 (f := (He.Fa.glo "checked_nodes")) rfl)⟩,
    ⟨⟨_, fd14, F14⟩, He.glo_ok X G (c.fact 14 (f := (He.Fa.glo "graph_in")) rfl)⟩,
    ⟨⟨_, fd15, F15⟩, He.glo_ok X G (c.fact 15 (f := (He.Fa.glo "require_graph")) rfl)⟩,
    ⟨⟨_, fd16, F16⟩, He.glo_ok X G (c.fact 16 (f := (He.Fa.glo "numbered")) rfl)⟩,
    ⟨⟨_, fd17, F17⟩, He.glo_ok X G (c.fact 17 (f := (He.Fa.glo "look_of")) rfl)⟩,
    ⟨⟨_, fd18, F18⟩, He.glo_ok X G (c.fact 18 (f := (He.Fa.glo "classes_of")) rfl)⟩,
    ⟨⟨_, fd19, F19⟩, He.glo_ok X G (c.fact 19 (f := (He.Fa.glo "groups_of")) rfl)⟩,
    ⟨⟨_, fd20, F20⟩, He.glo_ok X G (c.fact 20 (f := (He.Fa.glo "merged_nodes")) rfl)⟩,
    ⟨⟨_, fd21, F21⟩, He.glo_ok X G (c.fact 21 (f := (He.Fa.glo "quotient_in")) rfl)⟩,
    ⟨⟨_, fd22, F22⟩, He.glo_ok X G (c.fact 22 (f := (He.Fa.glo "spot_of")) rfl)⟩,
    ⟨⟨_, fd23, F23⟩, He.glo_ok X G (c.fact 23 (f := (He.Fa.glo "below_spot")) rfl)⟩,
    ⟨⟨_, fd24, F24⟩, He.glo_ok X G (c.fact 24 (f := (He.Fa.glo "inner_scope")) rfl)⟩,
    ⟨⟨_, fd25, F25⟩, He.glo_ok X G (c.fact 25 (f := (He.Fa.glo "is_open")) rfl)⟩,
    ⟨⟨_, fd26, F26⟩, He.glo_ok X G (c.fact 26 (f := (He.Fa.glo "look_of_spot")) rfl)⟩,
    ⟨⟨_, fd27, F27⟩, He.glo_ok X G (c.fact 27 (f := (He.Fa.glo "met_spots")) rfl)⟩,
    ⟨⟨_, fd28, F28⟩, He.glo_ok X G (c.fact 28 (f := (He.Fa.glo "open_pairs")) rfl)⟩,
    ⟨⟨_, fd29, F29⟩, He.glo_ok X G (c.fact 29 (f := (He.Fa.glo "change_between")) rfl)⟩,
    ⟨⟨_, fd30, F30⟩, He.glo_ok X G (c.fact 30 (f := (He.Fa.glo "same_part")) rfl)⟩,
    ⟨⟨_, fd31, F31⟩, He.glo_ok X G (c.fact 31 (f := (He.Fa.glo "part_classes")) rfl)⟩,
    ⟨⟨_, fd32, F32⟩, He.glo_ok X G (c.fact 32 (f := (He.Fa.glo "places_of")) rfl)⟩,
    ⟨⟨_, fd33, F33⟩, He.glo_ok X G (c.fact 33 (f := (He.Fa.glo "classes_in")) rfl)⟩,
    ⟨⟨_, fd34, F34⟩, He.glo_ok X G (c.fact 34 (f := (He.Fa.glo "least_in")) rfl)⟩,
    ⟨⟨_, fd35, F35⟩, He.glo_ok X G (c.fact 35 (f := (He.Fa.glo "classes")) rfl)⟩,
    ⟨⟨_, fd36, F36⟩, He.glo_ok X G (c.fact 36 (f := (He.Fa.glo "least")) rfl)⟩,
    ⟨⟨_, fd37, F37⟩, He.glo_ok X G (c.fact 37 (f := (He.Fa.glo "_law_stream")) rfl)⟩,
    ⟨⟨_, fd38, F38⟩, He.glo_ok X G (c.fact 38 (f := (He.Fa.glo "_law_draw")) rfl)⟩,
    ⟨⟨_, fd39, F39⟩, He.glo_ok X G (c.fact 39 (f := (He.Fa.glo "_law_pick")) rfl)⟩,
    ⟨⟨_, fd40, F40⟩, He.glo_ok X G (c.fact 40 (f := (He.Fa.glo "_law_below")) rfl)⟩,
    ⟨⟨_, fd41, F41⟩, He.glo_ok X G (c.fact 41 (f := (He.Fa.glo "_law_walked")) rfl)⟩,
    ⟨⟨_, fd42, F42⟩, He.glo_ok X G (c.fact 42 (f := (He.Fa.glo "_law_needs")) rfl)⟩,
    ⟨⟨_, fd43, F43⟩, He.glo_ok X G (c.fact 43 (f := (He.Fa.glo "_law_scopes")) rfl)⟩,
    ⟨⟨_, fd44, F44⟩, He.glo_ok X G (c.fact 44 (f := (He.Fa.glo "_law_scope")) rfl)⟩,
    ⟨⟨_, fd45, F45⟩, He.glo_ok X G (c.fact 45 (f := (He.Fa.glo "_law_variable")) rfl)⟩,
    ⟨⟨_, fd46, F46⟩, He.glo_ok X G (c.fact 46 (f := (He.Fa.glo "_law_grown")) rfl)⟩,
    ⟨⟨_, fd47, F47⟩, He.glo_ok X G (c.fact 47 (f := (He.Fa.glo "_law_web")) rfl)⟩,
    ⟨⟨_, fd48, F48⟩, He.glo_ok X G (c.fact 48 (f := (He.Fa.glo "_law_renamed_node")) rfl)⟩,
    ⟨⟨_, fd49, F49⟩, He.glo_ok X G (c.fact 49 (f := (He.Fa.glo "_law_parted")) rfl)⟩,
    ⟨⟨_, fd50, F50⟩, He.glo_ok X G (c.fact 50 (f := (He.Fa.glo "_law_often")) rfl)⟩,
    ⟨⟨_, fd51, F51⟩, He.glo_ok X G (c.fact 51 (f := (He.Fa.glo "_law_pairs_right")) rfl)⟩,
    ⟨⟨_, fd52, F52⟩, He.glo_ok X G (c.fact 52 (f := (He.Fa.glo "_law_closed_right")) rfl)⟩,
    ⟨⟨_, fd53, F53⟩, He.glo_ok X G (c.fact 53 (f := (He.Fa.glo "_law_right")) rfl)⟩,
    ⟨⟨_, fd54, F54⟩, He.glo_ok X G (c.fact 54 (f := (He.Fa.glo "law")) rfl)⟩,
    ⟨_, fd55, F55⟩,
    ⟨_, fd56, F56⟩,
    ⟨_, fd57, F57⟩,
    ⟨_, fd58, F58⟩,
    ⟨_, fd59, F59⟩,
    ⟨_, fd60, F60⟩,
    ⟨_, fd61, F61⟩,
    ⟨_, fd62, F62⟩,
    cM K,
    cC K,
    cG K,
    gM,
    gC,
    gG,
    clM,
    clC,
    He.noat_ok (c.fact 86 (f := (He.Fa.noat "MadeGraph" "own_nodes")) rfl),
    He.noat_ok (c.fact 87 (f := (He.Fa.noat "MadeGraph" "own_needs")) rfl),
    He.noat_ok (c.fact 88 (f := (He.Fa.noat "MadeGraph" "own_scopes")) rfl),
    He.noat_ok (c.fact 89 (f := (He.Fa.noat "Checked" "own_nodes")) rfl),
    He.mkr_ok (c.fact 90 (f := (He.Fa.mkr "MadeGraph")) rfl),
    He.mkr_ok (c.fact 91 (f := (He.Fa.mkr "Checked")) rfl),
    isiB_ok clM x2,
    isiB_ok clC x3,
    of_decide_eq_true x4,
    of_decide_eq_true x5,
    of_decide_eq_true x6,
    He.meth_ok (c.fact 92 (f := (He.Fa.meth "MadeGraph" "set_up")) rfl),
    He.meth_ok (c.fact 93 (f := (He.Fa.meth "MadeGraph" "needs")) rfl),
    He.meth_ok (c.fact 94 (f := (He.Fa.meth "MadeGraph" "scope")) rfl),
    He.meth_ok (c.fact 95 (f := (He.Fa.meth "MadeGraph" "closed_part")) rfl),
    ⟨.type "type", _, ⟨x9, He.eqO_ok x10⟩, He5.cmet_of x7 x8⟩,
    ml.at_,
    ml.fn⟩, rfl, rfl⟩
end
end K50
set_option maxRecDepth 100000
set_option maxHeartbeats 0
/-! HB: the top's run. -/
namespace K50
open PySem PySem.W PySem.Calls PyProof.Rows
abbrev HR : OpenRow := OpenLaw.row PySem.Challenge.rw_sharedlets_k50_whole_parts_of_alike_grap
def hn0 : List PySem.Str := ["_wall", "LetError", "InvalidGraph", "InvalidOperation", "InvalidNumber", "TooMany", "MOST_LETTERS", "RESERVED", "is_integer", "is_between", "is_name", "MAX_NODES", "MOST_CHILDREN", "WORD", "FUN", "VAR", "is_node_form", "are_nodes", "children_of", "first_walk", "renumbered", "needs_now", "needs_of_nodes", "innermost_in", "scope_in", "require_node", "Checked", "checked_nodes", "Graph", "MadeGraph"]
def hn1 : List PySem.Str := ["graph_in", "require_graph", "numbered", "look_of", "classes_of", "groups_of", "merged_nodes", "quotient_in", "spot_of", "below_spot", "inner_scope", "is_open", "look_of_spot", "met_spots", "open_pairs", "change_between", "same_part", "part_classes", "places_of", "classes_in", "least_in", "classes", "least"]
def hn2 : List PySem.Str := ["_law_stream", "_law_draw", "_law_pick", "_law_below", "_law_walked", "_law_needs", "_law_scopes", "_law_scope", "_law_variable", "_law_grown", "_law_web", "_law_renamed_node", "_law_parted", "_law_often", "_law_pairs_right", "_law_closed_right", "_law_right"]
def hnames : List PySem.Str := hn0 ++ (hn1 ++ hn2)
theorem hrun (w : World) : HandSHeadRun.RunEq HR (view HR.prog [77]) (hookZ 5) obZ 8000 hnames w := by
  intro os
  kernel_rfl
end K50
set_option maxRecDepth 100000
set_option maxHeartbeats 4000000
/-! HC: the law's call, one table, no repr under way. -/
namespace K50
open PySem PySem.Spec PyProof.Rows L2 DL
section
variable {P : Program} {w : World} {K : PySem.W.Frag} {mg mb : Str → Option Value} {k : Nat} {fa a c Pt : Addr} {fd : FuncData} {x : Str} {sp : Sp} {s : Shared} {lo : Obj} {H : Hp}
theorem end_core (KX : K.In s.heap) (hns : s.heap.Ns mainGlobals mg) (hb : s.heap.Ns builtinsNs mb) (hbb : ∀ x : Str, x ≠ "__name__" → mb x = bootBuiltins x) (hlim : s.heap.NoLimit) (hg : s.gens = #[])
    (hT : s.heap.get? Pt = some { cls := .none, data := .fields #[] }) (nT : K.lookup Pt = none) (hC : PySem.W.CodeHd s.heap c Pt)
    (hbm : ∃ (bm : Addr) (ob : Obj), mg "__builtins__" = some (.ref bm) ∧ bm ≠ builtinsNs ∧ s.heap.get? bm = some ob ∧ ob.cls = .type "module" ∧ ob.dict = some builtinsNs ∧ ob.data = .plain)
    (hl : ∀ o, s.heap.get? a = some o → ∃ v n, o.data = .seq v n) (hP : H Pt = some (.tbl #[])) (hO : ∀ b u, H b = some u → b = Pt ∨ (b = a ∧ K.lookup a = none ∧ ∃ v, u = .frz lo v)) (hok : HOk P w H s.heap)
    (F : ∀ base : Heap, K.In base → base.Ns mainGlobals mg → GxR.TabB base mg c Pt → FnOkG P w K mg base CX0 16 fa fd [x] sp) (hbind : BindsTo s fd ⟨[.ref a], []⟩ [(x, .ref a)]) (hsp : sp [.ref a] H (fun v _ => v = .bl true) fun _ _ _ => False) :
    codeAny (model P w) callerA (.call (.ref fa) ⟨[.ref a], []⟩) (fun r s' => r = .ok (.ret (.bool true)) ∧ OldK s.heap s'.heap ∧ s'.os = s.os ∧ AllBare s'.gens) s := by
  -- what is tracked
  have off : ∀ {b : Addr} {o : Obj}, s.heap.get? b = some o → (∀ v n, o.data ≠ .seq v n) → o.data ≠ .fields #[] → H b = none := fun {b o} e n1 n2 => by
    cases q : H b with
    | none => rfl
    | some u =>
      rcases hO b u q with rfl | ⟨rfl, _⟩
      · rw [hT] at e
        cases e
        exact absurd rfl n2
      · obtain ⟨v, n, e2⟩ := hl o e
        exact absurd e2 (n1 v n)
  have offD : ∀ {b : Addr} {o : Obj} {es : Array DictEntry} {ep : Nat}, s.heap.get? b = some o → o.data = .dict es ep → H b = none := fun {b o es ep} e d => off e (fun v n z => by rw [d] at z; cases z) fun z => by rw [d] at z; cases z
  have nsB : ∀ {b : Addr} {m : Str → Option Value}, s.heap.Ns b m → (hidT s.heap H).Ns b m := fun {b m} ⟨o, es, ep, e, d, r⟩ => ⟨o, es, ep, hidT_get e (offD e d), d, r⟩
  have inB : K.In (hidT s.heap H) := fun b o e => hidT_get (KX b o e) (by
    cases q : H b with
    | none => rfl
    | some u =>
      rcases hO b u q with rfl | ⟨rfl, e2, _⟩
      · rw [nT] at e; cases e
      · rw [e2] at e; cases e)
  have M : L2.Mod K mg (hidT s.heap H) := ⟨inB, nsB hns, ⟨mb, nsB hb, hbb⟩, let ⟨mc, h1, h2⟩ := hlim; ⟨mc, nsB h1, h2⟩⟩
  have ne : mainGlobals ≠ Pt := fun z => by
    obtain ⟨o, es, ep, e, d, _⟩ := hns
    rw [z, hT] at e
    cases e
    cases d
  have TB : GxR.TabB (hidT s.heap H) mg c Pt := by
    refine ⟨?_, ?_, ne⟩
    · obtain ⟨o, us, g1, g2, g3, g4, g5, g6, g7, e1, r1, r2, r3, r⟩ := hC
      refine ⟨o, us, g1, g2, g3, g4, g5, g6, g7, hidT_get e1 (off e1 (fun v n z => by rw [r2] at z; cases z) fun z => ?_), r1, r2, r3, r⟩
      rw [r2] at z
      cases z
      simp at r3
    · obtain ⟨bm, ob, b1, b2, b3, b4, b5, b6⟩ := hbm
      refine ⟨bm, ob, b1, b2, fun z => ?_, fun z => ?_, hidT_get b3 (off b3 (fun v n z => by rw [b6] at z; cases z) fun z => by rw [b6] at z; cases z), b4, b5, b6⟩
      · obtain ⟨o, es, ep, e, d, _⟩ := hns
        rw [z, e] at b3
        cases b3
        rw [d] at b6
        cases b6
      · rw [z, hT] at b3
        cases b3
        cases b6
  have e0 : Env0 P w K mg (hidT s.heap H) callerA [] s H := ⟨rfl, M, fun b o e => of_hidT e, Nat.le_of_eq (hidT_size _ _), trivial, fun b hb => absurd (show b ∈ ([] : List Addr) from hb) (by simp), hok, .of_eq hg⟩
  refine codeAny_mono ((F _ inB (nsB hns) TB).run callerA [] s H ⟨[.ref a], []⟩ [.ref a] [.ref a] _ _ rfl ⟨rfl, by decide, by decide⟩ e0 hbind (.cons rfl .nil) hsp) fun r s' h => ?_
  cases r with
  | error e => exact False.elim h
  | ok fl =>
    cases fl with
    | next => exact False.elim h
    | brk => exact False.elim h
    | cont => exact False.elim h
    | ret u =>
      obtain ⟨v, H', os, bare, un, hok', rv, q⟩ := h
      have q : v = .bl true := q
      subst q
      have eu : u = Value.bool true := rv
      subst eu
      have kept : ∀ b o, b ≠ Pt → s.heap.get? b = some o → s'.heap.get? b = some o := fun b o nb e => by
        cases z : H b with
        | none => exact un.keep b o e z (by intro y; exact absurd (show b ∈ ([] : List Addr) from y) (by simp)) (by simp)
        | some u =>
          rcases hO b u z with y | ⟨_, _, v, y⟩
          · exact absurd y nb
          · subst y
            obtain ⟨f1, _⟩ := hok b _ z
            obtain ⟨f2, _⟩ := hok' b _ (un.frzs b lo _ z)
            rw [e] at f1
            cases f1
            exact f2
      obtain ⟨more, tb⟩ := un.tbls Pt #[] hP
      have grown : s'.heap.get? Pt = some { cls := .none, data := .fields (#[] ++ more) } := hok' Pt _ tb
      refine ⟨rfl, ⟨fun b o e => ?_, fun b o e => ?_⟩, os, bare⟩
      · by_cases hbP : b = Pt
        · subst hbP
          rw [hT] at e
          cases e
          exact .inr (.inl ⟨(hC.tab hT).isCodeTable, rfl, #[], more, rfl, grown⟩)
        · exact .inl (kept b o hbP e)
      · by_cases hbP : b = Pt
        · subst hbP
          exact ⟨_, grown⟩
        · exact ⟨o, kept b o hbP e⟩
end
/-- the law's reading, from what the entry lays -/
theorem law_sp {K : PySem.W.Frag} {H : Hp} {a Pt : Addr} {ns : List Int} (hP : H Pt = some (.tbl #[])) (hl : ns.length ≤ 1000) (hS : SqL K H a (ns.map V.int)) :
    spD K (fun l : { l : List Int // l.length ≤ 1000 } => [.lst (dints l.1)]) (fun _ => [(Pt, tbD #[])]) (fun _ d _ => d = .bl true) [.ref a] H (fun v _ => v = .bl true) fun _ _ _ => False := by
  refine ⟨⟨ns, hl⟩, vis H [Pt], [], rfl, ⟨fun b o e => ?_, fun b hb => (nomatch hb), (show [Pt].Nodup by simp), fun p hp => ?_, rfl, fun i d e => (by simp at e), .cons (.lst ?_ (obL_ints ns)) .nil⟩, fun d L' v H' σ Γ e S => ?_⟩
  · obtain ⟨e1, e2⟩ := vis_some.mp e
    exact ⟨e2, e1⟩
  · rw [List.mem_singleton.mp hp]
    exact ⟨[], hP, trivial, .nil⟩
  · have ne : ∀ o, H a = some o → (∀ ps, o ≠ .tbl ps) → a ∉ [Pt] := fun o e n z => by
      rw [List.mem_singleton.mp z, hP] at e
      cases e
      exact n _ rfl
    rcases hS with (e | ⟨o, e⟩) | e
    · exact .inl (.inl (vis_of (ne _ e fun ps z => by cases z) e))
    · exact .inl (.inr ⟨o, vis_of (ne _ e fun ps z => by cases z) e⟩)
    · exact .inr e
  · subst e
    have o := S.top
    cases o
    rfl
section
variable {P : Program} {w : World} {K : PySem.W.Frag} {mg mb : Str → Option Value} {fa a c Pt : Addr} {fd : FuncData} {x : Str} {s : Shared} {vs : List Value} {ns : List Int}
theorem end_law (KX : K.In s.heap) (hns : s.heap.Ns mainGlobals mg) (hb : s.heap.Ns builtinsNs mb) (hbb : ∀ x : Str, x ≠ "__name__" → mb x = bootBuiltins x) (hlim : s.heap.NoLimit) (hg : s.gens = #[])
    (hT : s.heap.get? Pt = some { cls := .none, data := .fields #[] }) (nT : K.lookup Pt = none) (hC : PySem.W.CodeHd s.heap c Pt)
    (hbm : ∃ (bm : Addr) (ob : Obj), mg "__builtins__" = some (.ref bm) ∧ bm ≠ builtinsNs ∧ s.heap.get? bm = some ob ∧ ob.cls = .type "module" ∧ ob.dict = some builtinsNs ∧ ob.data = .plain)
    (ha : s.heap.get? a = some { cls := .type "list", data := .seq vs.toArray }) (hi : IntsAre vs ns) (hl : ns.length ≤ 1000)
    (F : ∀ base : Heap, K.In base → base.Ns mainGlobals mg → GxR.TabB base mg c Pt → FnOkG P w K mg base CX0 16 fa fd [x] (spD K (fun l : { l : List Int // l.length ≤ 1000 } => [.lst (dints l.1)]) (fun _ => [(Pt, tbD #[])]) (fun _ d _ => d = .bl true)))
    (hbind : BindsTo s fd ⟨[.ref a], []⟩ [(x, .ref a)]) :
    codeAny (model P w) callerA (.call (.ref fa) ⟨[.ref a], []⟩) (fun r s' => r = .ok (.ret (.bool true)) ∧ OldK s.heap s'.heap ∧ s'.os = s.os ∧ AllBare s'.gens) s := by
  have rv := vals_ints hi
  have lenV := hi.length
  have le : 1000 ≤ sizeLine := by decide
  have aP : a ≠ Pt := fun z => by
    rw [z, hT] at ha
    cases ha
  have seq : ∀ o, s.heap.get? a = some o → ∃ v n, o.data = .seq v n := fun o e => by
    rw [ha] at e
    cases e
    exact ⟨_, _, rfl⟩
  have tb : ObjOk P w (upd (fun _ => none) Pt (.tbl #[])) s.heap Pt (.tbl #[]) := hT
  cases hk : K.lookup a with
  | some o =>
    have e := KX a o hk
    rw [ha] at e
    cases e
    have hP : upd (fun _ => (none : Option HO)) Pt (.tbl #[]) Pt = some (.tbl #[]) := upd_same
    refine end_core (lo := default) (H := upd (fun _ => none) Pt (.tbl #[])) KX hns hb hbb hlim hg hT nT hC hbm seq hP (fun b u q => ?_) (fun b u q => ?_) F hbind (law_sp hP hl (.inr ⟨_, vs.toArray, _, hk, rfl, rfl, rfl, by rw [List.size_toArray, lenV]; omega, by simpa using rv⟩))
    · by_cases hbP : b = Pt
      · exact .inl hbP
      · rw [upd_ne hbP] at q; cases q
    · by_cases hbP : b = Pt
      · subst hbP
        rw [upd_same] at q
        cases q
        exact hT
      · rw [upd_ne hbP] at q; cases q
  | none =>
    have hP : upd (upd (fun _ => (none : Option HO)) a (.frz { cls := .type "list", data := .seq vs.toArray } (.lst (ns.map V.int)))) Pt (.tbl #[]) Pt = some (.tbl #[]) := upd_same
    have hA : upd (upd (fun _ => (none : Option HO)) a (.frz { cls := .type "list", data := .seq vs.toArray } (.lst (ns.map V.int)))) Pt (.tbl #[]) a = some (.frz { cls := .type "list", data := .seq vs.toArray } (.lst (ns.map V.int))) := by
      rw [upd_ne aP, upd_same]
    refine end_core (lo := { cls := .type "list", data := .seq vs.toArray }) (H := upd (upd (fun _ => none) a (.frz { cls := .type "list", data := .seq vs.toArray } (.lst (ns.map V.int)))) Pt (.tbl #[])) KX hns hb hbb hlim hg hT nT hC hbm seq hP (fun b u q => ?_) (fun b u q => ?_) F hbind (law_sp hP hl (.inl (.inr ⟨_, hA⟩)))
    · by_cases hbP : b = Pt
      · exact .inl hbP
      · rw [upd_ne hbP] at q
        by_cases hba : b = a
        · subst hba
          rw [upd_same] at q
          cases q
          exact .inr ⟨rfl, hk, _, rfl⟩
        · rw [upd_ne hba] at q; cases q
    · by_cases hbP : b = Pt
      · subst hbP
        rw [upd_same] at q
        cases q
        exact hT
      · rw [upd_ne hbP] at q
        by_cases hba : b = a
        · subst hba
          rw [upd_same] at q
          cases q
          exact ⟨ha, by rw [List.length_map]; omega, vs, _, rv, ha⟩
        · rw [upd_ne hba] at q; cases q
end
end K50
set_option maxRecDepth 100000
set_option maxHeartbeats 0
/-! HD: the law behind the top. -/
namespace K50
open PySem PySem.Spec PyProof.Rows L2 DL
theorem hd_name : (HandSHeadRun.topDef HR.prog 77).name = ("law" : PySem.Str) := by kernel_rfl
theorem hd_law {w : World} {h : Heap} {mg mb : Str → Option Value} {fa a : Addr} {s : Shared} {vs : List Value} {ns : List Int} (Y : (hookZ 5).says w s.heap) (hns : s.heap.Ns mainGlobals mg) (hb : s.heap.Ns builtinsNs mb) (hbb : ∀ x : Str, x ≠ "__name__" → mb x = bootBuiltins x) (hlim : s.heap.NoLimit) (hg : s.gens = #[])
    (hbm : ∃ (bm : Addr) (ob : Obj), mg "__builtins__" = some (.ref bm) ∧ bm ≠ builtinsNs ∧ s.heap.get? bm = some ob ∧ ob.cls = .type "module" ∧ ob.dict = some builtinsNs ∧ ob.data = .plain)
    (hm : mg "law" = some (.ref fa)) (ha : s.heap.get? a = some { cls := .type "list", data := .seq vs.toArray }) (hi : IntsAre vs ns) (hl : ns.length ≤ 1000) :
    codeAny (model HR.prog w) callerA (.call (.ref fa) ⟨[.ref a], []⟩) (fun r s' => r = .ok (.ret (.bool true)) ∧ OldK s.heap s'.heap ∧ s'.os = s.os ∧ AllBare s'.gens) s := by
  obtain ⟨K, KX, z⟩ := Y
  obtain ⟨Γ, e1, e2⟩ := pg_of KX hns z
  have ef : fa = Γ.law.f := by
    have := hm.symm.trans Γ.law.g
    cases this
    rfl
  subst ef
  obtain ⟨oc, od, dV, kV, doc, pm, an, cdv, ct, osl, efd, lk, hcd, _, _⟩ := Γ.part_classes.F.ex
  obtain ⟨c, ec⟩ := He.codeIn_ref hcd
  have hcode : Γ.part_classes.fd.code = .ref c := by rw [efd]; exact ec
  have hco : He.codeOf K ("part_classes", none) = c := He.codeOf_eq (p := ("part_classes", none)) (by show List.lookup (He.ga K "part_classes") K = _; rw [← e2]; exact lk) hcode
  have hC := PySem.W.codeHd_of_K KX z.hd
  have eC : (He.cT K ("part_classes", none)).1 = c := hco
  rw [eC] at hC
  refine end_law KX hns hb hbb hlim hg z.empty z.out hC hbm ha hi hl (fun base _ _ TB => ok_law Γ hcode TB) ?_
  have := bi_law Γ s [.ref a] KX rfl
  exact this
end K50
set_option maxRecDepth 100000
set_option maxHeartbeats 0
/-! HE: the row. -/
open PySem PySem.W PySem.Calls PyProof.Rows
theorem PySem.Challenge.cw_sharedlets_k50_whole_parts_of_alike_grap_holds : PySem.Challenge.rw_sharedlets_k50_whole_parts_of_alike_grap.Holds := by
  w_on; o_law
  refine HandSHeadRun.head_any (r := OpenLaw.row PySem.Challenge.rw_sharedlets_k50_whole_parts_of_alike_grap) (q := view (OpenLaw.row PySem.Challenge.rw_sharedlets_k50_whole_parts_of_alike_grap).prog [77]) (H := K50.hookZ 5) (ob := K50.obZ) (M := 8000) (loose := K50.hnames) (d := HandSHeadRun.topDef (OpenLaw.row PySem.Challenge.rw_sharedlets_k50_whole_parts_of_alike_grap).prog 77) (kwd := []) K50.obZ_eq
    (by kernel_rfl) (fun s => by kernel_rfl) K50.hrun (by kernel_rfl) (by kernel_rfl) (by kernel_rfl) (by rfl) (by first | assumption | decide +kernel) (by decide +kernel) ⟨rfl, rfl, rfl, rfl, rfl, by decide +kernel⟩ ?hw ?hc
  case hw => w_witness2
  case hc =>
    refine Att.attach_callB (l := PySem.Challenge.rw_sharedlets_k50_whole_parts_of_alike_grap) (n := 63) rfl (by kernel_rfl) fun w s₀ s₁ mg mb fa o pm cd doc a vs ns G Y ho hd hcd hmg hobj hints hlen hbits hg => ?_
    rw [K50.hd_name] at hmg
    exact K50.hd_law (h := s₁.heap) Y G.T.g G.T.b G.T.builtins G.T.nolimit hg G.T.bmain hmg hobj hints (Nat.le_trans hlen (by decide))
