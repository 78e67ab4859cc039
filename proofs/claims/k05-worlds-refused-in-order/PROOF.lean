import PyProof.Rows.All
import Wide.All
import OpenK.AllK
import Wide.FinOn
import HandS.ForExc
import HandS.Comp
import HandS.IsInst
import HandS.Flow
import HandS.Wide
import HandS.Iter
import HandS.More
import HandS.TupSets
import HandS.SetBool
import HandS.Sort
import HandS.SortOrd
import KE.DataEq
import KE.Datum
import HandS.Defaults
import HandS.MakeKwOnly
import HandS.OwnEq
import KE.KSuper
import KE.KExcSuper
import HandS.Base
import HandS.Call
import HandS.Exc
import HandS.ExcInit
import HandS.WordsExc
import HandS.ExcField
import KE.GoesMore
import KE.GoesZip
import KE.GoesEnum
import PyProof.EnumMake
import HandS.Zip
import HandS.Style
import HandS.Dict
import KE.KDictKeyed
import KE.KDictWalk
import KE.KDictLaw
import KE.KDictList
import KE.KDictCopyH
import HandS.Star
import HandS.TupMul
import HandS.NoneIn
import HandS.SetFor
import HandS.CallSlots
import HandS.Strs
import HandS.SortInts
import HandS.TupLe
import PyProof.ListIndex
import HandS.Spec
import HandS.TupAny
import PyProof.SeqIndex
import HandS.DictComp
import HandS.Text
import PyProof.ListStr
import PyProof.StrOps2
import PySem.Challenge.RW_justthese_k05_worlds_refused_in_order
set_option Elab.async false
set_option linter.all false
set_option maxRecDepth 100000
section
set_option Elab.async false
set_option linter.all false
set_option maxRecDepth 100000
set_option maxHeartbeats 2000000
namespace D2
open PySem PySem.Spec PyProof.Rows L2

/-! ### data: what a value is, all the way in -/
inductive D where
  | sc (v : V)
  | lst (ds : List D)
  | fro (ds : List D)
  | tup (ds : List D)
  | tuq (ds : List D)
  | ins (C : Addr) (fs : List (Str × D))
  | exc (a dd C : Addr) (fs : List (Str × D))
abbrev D.int (i : Int) : D := .sc (.int i)
abbrev D.bl (b : Bool) : D := .sc (.bl b)
abbrev D.str (x : Str) : D := .sc (.str x)
abbrev D.non : D := .sc .non
abbrev D.ref (a : Addr) : D := .sc (.ref a)

mutual
/-- the value v is the data d, by what F knows -/
inductive Is (K : PySem.W.Frag) (F : Hp) : V → D → Prop
  | sc (v : V) : Is K F v (.sc v)
  | lst {a : Addr} {xs : List V} {ds : List D} : F a = some (.lst xs) → IsL K F xs ds → Is K F (.ref a) (.lst ds)
  | fro {a : Addr} {xs : List V} {ds : List D} : SqL K F a xs → IsL K F xs ds → Is K F (.ref a) (.fro ds)
  | tup {a : Addr} {xs : List V} {ds : List D} : SqT K F a xs → IsL K F xs ds → Is K F (.ref a) (.tup ds)
  | tuq {a : Addr} {xs : List V} {ds : List D} {o : Obj} : F a = some (.frz o (.tup xs)) → o.dict = none → IsL K F xs ds → Is K F (.ref a) (.tuq ds)
  | ins {a C dx : Addr} {gs : List (Str × V)} {fs : List (Str × D)} : F a = some (.ins C dx gs) → IsF K F gs fs → Is K F (.ref a) (.ins C fs)
  | exc {a dd C : Addr} {gs : List (Str × V)} {fs : List (Str × D)} : F dd = some (.xd gs) → IsF K F gs fs → Is K F (.ref a) (.exc a dd C fs)
inductive IsL (K : PySem.W.Frag) (F : Hp) : List V → List D → Prop
  | nil : IsL K F [] []
  | cons {v : V} {vs : List V} {d : D} {ds : List D} : Is K F v d → IsL K F vs ds → IsL K F (v :: vs) (d :: ds)
inductive IsF (K : PySem.W.Frag) (F : Hp) : List (Str × V) → List (Str × D) → Prop
  | nil : IsF K F [] []
  | cons {f : Str} {v : V} {vs : List (Str × V)} {d : D} {ds : List (Str × D)} : Is K F v d → IsF K F vs ds → IsF K F ((f, v) :: vs) ((f, d) :: ds)
end

theorem same_rd {H H' : Hp} {a : Addr} {u : HO} (e : Same H H') (h : Rd H a u) : Rd H' a u := by
  rcases h with h | ⟨o, h⟩
  · exact Or.inl (e a _ h)
  · exact Or.inr ⟨o, e a _ h⟩
theorem same_l {K : PySem.W.Frag} {H H' : Hp} {a : Addr} {xs : List V} (e : Same H H') (h : SqL K H a xs) : SqL K H' a xs := by
  rcases h with h | h
  · exact Or.inl (same_rd e h)
  · exact Or.inr h
theorem same_t {K : PySem.W.Frag} {H H' : Hp} {a : Addr} {xs : List V} (e : Same H H') (h : SqT K H a xs) : SqT K H' a xs := by
  rcases h with h | h
  · exact Or.inl (same_rd e h)
  · exact Or.inr h
section
variable {K : PySem.W.Frag} {F F' : Hp}
mutual
theorem Is.mono (e : Same F F') : ∀ {v : V} {d : D}, Is K F v d → Is K F' v d
  | _, _, .sc v => .sc v
  | _, _, .lst h a => .lst (e _ _ h) (IsL.mono e a)
  | _, _, .fro h a => .fro (same_l e h) (IsL.mono e a)
  | _, _, .tup h a => .tup (same_t e h) (IsL.mono e a)
  | _, _, .tuq h n a => .tuq (e _ _ h) n (IsL.mono e a)
  | _, _, .ins h a => .ins (e _ _ h) (IsF.mono e a)
  | _, _, .exc h a => .exc (e _ _ h) (IsF.mono e a)
theorem IsL.mono (e : Same F F') : ∀ {v : List V} {d : List D}, IsL K F v d → IsL K F' v d
  | _, _, .nil => .nil
  | _, _, .cons a b => .cons (Is.mono e a) (IsL.mono e b)
theorem IsF.mono (e : Same F F') : ∀ {v : List (Str × V)} {d : List (Str × D)}, IsF K F v d → IsF K F' v d
  | _, _, .nil => .nil
  | _, _, .cons a b => .cons (Is.mono e a) (IsF.mono e b)
end
theorem IsL.length : ∀ {vs : List V} {ds : List D}, IsL K F vs ds → vs.length = ds.length
  | _, _, .nil => rfl
  | _, _, .cons _ b => by rw [List.length_cons, List.length_cons, IsL.length b]
theorem IsL.append : ∀ {vs ws : List V} {ds es : List D}, IsL K F vs ds → IsL K F ws es → IsL K F (vs ++ ws) (ds ++ es)
  | _, _, _, _, .nil, h => h
  | _, _, _, _, .cons a b, h => .cons a (IsL.append b h)
theorem IsL.get : ∀ {vs : List V} {ds : List D} {i : Nat} {d : D}, IsL K F vs ds → ds[i]? = some d → ∃ v, vs[i]? = some v ∧ Is K F v d
  | _, _, _, _, .nil, h => by simp at h
  | _, _, 0, _, .cons a b, h => by
    simp only [List.getElem?_cons_zero, Option.some.injEq] at h
    subst h
    exact ⟨_, by simp, a⟩
  | _, _, i + 1, _, .cons a b, h => by
    obtain ⟨v, h1, h2⟩ := IsL.get (i := i) b (by simpa using h)
    exact ⟨v, by simpa using h1, h2⟩
theorem IsL.getV : ∀ {vs : List V} {ds : List D} {i : Nat} {v : V}, IsL K F vs ds → vs[i]? = some v → ∃ d, ds[i]? = some d ∧ Is K F v d
  | _, _, _, _, .nil, h => by simp at h
  | _, _, 0, _, .cons a b, h => by
    simp only [List.getElem?_cons_zero, Option.some.injEq] at h
    subst h
    exact ⟨_, by simp, a⟩
  | _, _, i + 1, _, .cons a b, h => by
    obtain ⟨v, h1, h2⟩ := IsL.getV (i := i) b (by simpa using h)
    exact ⟨v, by simpa using h1, h2⟩
theorem IsL.take : ∀ {vs : List V} {ds : List D} (n : Nat), IsL K F vs ds → IsL K F (vs.take n) (ds.take n)
  | _, _, 0, _ => .nil
  | _, _, _ + 1, .nil => .nil
  | _, _, n + 1, .cons a b => .cons a (IsL.take n b)
theorem IsL.drop : ∀ {vs : List V} {ds : List D} (n : Nat), IsL K F vs ds → IsL K F (vs.drop n) (ds.drop n)
  | _, _, 0, h => h
  | _, _, _ + 1, .nil => .nil
  | _, _, n + 1, .cons a b => IsL.drop n b
theorem IsL.set {v : V} {d : D} (r : Is K F v d) : ∀ {vs : List V} {ds : List D} (i : Nat), IsL K F vs ds → IsL K F (vs.set i v) (ds.set i d)
  | _, _, _, .nil => .nil
  | _, _, 0, .cons a b => .cons r b
  | _, _, i + 1, .cons a b => .cons a (IsL.set r i b)
theorem IsL.rev : ∀ {vs : List V} {ds : List D}, IsL K F vs ds → IsL K F vs.reverse ds.reverse
  | _, _, .nil => .nil
  | _, _, .cons a b => by
    rw [List.reverse_cons, List.reverse_cons]
    exact IsL.append (IsL.rev b) (.cons a .nil)
theorem IsL.sc : ∀ (vs : List V), IsL K F vs (vs.map .sc)
  | [] => .nil
  | v :: r => .cons (.sc v) (IsL.sc r)
theorem IsL.sc_inv : ∀ {vs ws : List V}, IsL K F vs (ws.map D.sc) → vs = ws
  | [], [], _ => rfl
  | _, [], h => by cases h; rfl
  | _, w :: r, h => by
    cases h with
    | cons a b =>
      cases a
      rw [IsL.sc_inv b]
theorem IsL.ints : ∀ (ns : List Int), IsL K F (ns.map V.int) (ns.map D.int)
  | [] => .nil
  | v :: r => .cons (.sc _) (IsL.ints r)
theorem IsL.ints_inv : ∀ {vs : List V} {ns : List Int}, IsL K F vs (ns.map D.int) → vs = ns.map V.int
  | _, [], h => by cases h; rfl
  | _, w :: r, h => by
    cases h with
    | cons a b =>
      cases a
      rw [IsL.ints_inv b]
      rfl
end

/-! ### the ledger: what is owned and may change -/
inductive OD where
  | lst (ds : List D)
  | raw (o : HO)
  | mp (P : Hp → HO → Prop) (m : ∀ F F' o, Same F F' → P F o → P F' o)
def OD.Ok (K : PySem.W.Frag) (F : Hp) : OD → HO → Prop
  | .lst ds, o => ∃ xs, o = .lst xs ∧ IsL K F xs ds
  | .raw u, o => o = u
  | .mp P _, o => P F o
theorem OD.Ok.mono {K : PySem.W.Frag} {F F' : Hp} {x : OD} {o : HO} (h : x.Ok K F o) (e : Same F F') : x.Ok K F' o := by
  cases x with
  | lst ds => obtain ⟨xs, h1, h2⟩ := h; exact ⟨xs, h1, h2.mono e⟩
  | raw u => exact h
  | mp P m => exact m _ _ _ e h
abbrev Led := List (Addr × OD)
structure Own (K : PySem.W.Frag) (H F : Hp) (L : Led) : Prop where
  sub : Same F H
  cell : ∀ e ∈ L, F e.1 = none ∧ ∃ o, H e.1 = some o ∧ e.2.Ok K F o
  nd : (L.map (·.1)).Nodup
theorem Same.upd_new {H : Hp} {p : Addr} {o : HO} (h : H p = none) : Same H (upd H p o) := fun a u e => by
  rw [upd_ne (ne_of_none e h)]
  exact e
section
variable {K : PySem.W.Frag} {H F F' : Hp} {L L' : Led} {p : Addr} {o : HO}
theorem Own.fresh (w : Own K H F L) (h : H p = none) : F p = none := w.sub.free h
theorem Own.notin (w : Own K H F L) (h : H p = none) : ∀ e ∈ L, e.1 ≠ p := fun e he z => by
  obtain ⟨_, o, h1, _⟩ := w.cell e he
  rw [z, h] at h1
  cases h1
/-- a new object that will not change -/
theorem Own.froze (w : Own K H F L) (h : H p = none) : Same F (upd F p o) ∧ Own K (upd H p o) (upd F p o) L := by
  have s := Same.upd_new (o := o) (w.fresh h)
  refine ⟨s, ⟨fun a u e => ?_, fun e he => ?_, w.nd⟩⟩
  · by_cases ha : a = p
    · subst ha
      rw [upd_same] at e ⊢
      exact e
    · rw [upd_ne ha] at e ⊢
      exact w.sub a u e
  · obtain ⟨h1, u, h2, h3⟩ := w.cell e he
    have ne := w.notin h e he
    exact ⟨by rw [upd_ne ne]; exact h1, u, by rw [upd_ne ne]; exact h2, h3.mono s⟩
/-- a new object that may change -/
theorem Own.push {x : OD} (w : Own K H F L) (h : H p = none) (ok : x.Ok K F o) : Own K (upd H p o) F ((p, x) :: L) := by
  refine ⟨fun a u e => ?_, fun e he => ?_, ?_⟩
  · rw [upd_ne (ne_of_none e (w.fresh h))]
    exact w.sub a u e
  · rcases List.mem_cons.mp he with rfl | he
    · exact ⟨w.fresh h, o, upd_same, ok⟩
    · obtain ⟨h1, u, h2, h3⟩ := w.cell e he
      exact ⟨h1, u, by rw [upd_ne (w.notin h e he)]; exact h2, h3⟩
  · rw [List.map_cons, List.nodup_cons]
    refine ⟨fun hm => ?_, w.nd⟩
    obtain ⟨e, he, z⟩ := List.mem_map.mp hm
    exact w.notin h e he z
/-- the entry of p, and the ledger with another one there -/
inductive Foc (p : Addr) (x y : OD) : Led → Led → Prop
  | here {L : Led} : Foc p x y ((p, x) :: L) ((p, y) :: L)
  | there {e : Addr × OD} {L L' : Led} : Foc p x y L L' → Foc p x y (e :: L) (e :: L')
theorem Foc.mem {x y : OD} : ∀ {L L' : Led}, Foc p x y L L' → (p, x) ∈ L
  | _, _, .here => List.mem_cons_self ..
  | _, _, .there h => List.mem_cons_of_mem _ h.mem
theorem Foc.keys {x y : OD} : ∀ {L L' : Led}, Foc p x y L L' → L'.map (·.1) = L.map (·.1)
  | _, _, .here => rfl
  | _, _, .there h => by rw [List.map_cons, List.map_cons, h.keys]
theorem Foc.back {x y : OD} : ∀ {L L' : Led}, Foc p x y L L' → ∀ e ∈ L', (e = (p, y)) ∨ e ∈ L
  | _, _, .here, e, he => by
    rcases List.mem_cons.mp he with r | r
    · exact .inl r
    · exact .inr (List.mem_cons_of_mem _ r)
  | _, _, .there h, e, he => by
    rcases List.mem_cons.mp he with r | r
    · exact .inr (by rw [r]; exact List.mem_cons_self ..)
    · rcases h.back e r with q | q
      · exact .inl q
      · exact .inr (List.mem_cons_of_mem _ q)
theorem Own.write {x y : OD} {o' : HO} (w : Own K H F L) (f : Foc p x y L L') (ok : y.Ok K F o') : Own K (upd H p o') F L' := by
  have hp := (w.cell _ f.mem).1
  refine ⟨fun a u e => ?_, fun e he => ?_, by rw [f.keys]; exact w.nd⟩
  · rw [upd_ne (ne_of_none e hp)]
    exact w.sub a u e
  · by_cases z : e.1 = p
    · have : e = (p, y) := by
        rcases f.back e he with r | r
        · exact r
        · -- e in L' with key p: keys are nodup, so it is the focus itself
          have nd' : (L'.map (·.1)).Nodup := by rw [f.keys]; exact w.nd
          have key : ∀ {M M' : Led}, Foc p x y M M' → (M'.map (·.1)).Nodup → e ∈ M' → e = (p, y) := by
            intro M M' g
            induction g with
            | here =>
              intro n m
              rcases List.mem_cons.mp m with q | q
              · exact q
              · rw [List.map_cons, List.nodup_cons] at n
                exact absurd (List.mem_map.mpr ⟨e, q, z⟩) n.1
            | there g' ih =>
              intro n m
              rw [List.map_cons, List.nodup_cons] at n
              rcases List.mem_cons.mp m with q | q
              · exfalso
                rw [← q, z, g'.keys] at n
                exact n.1 (List.mem_map.mpr ⟨_, g'.mem, rfl⟩)
              · exact ih n.2 q
          exact key f nd' he
      rw [this]
      exact ⟨hp, o', upd_same, ok⟩
    · rcases f.back e he with r | r
      · rw [r] at z
        exact absurd rfl z
      · obtain ⟨h1, u, h2, h3⟩ := w.cell e r
        exact ⟨h1, u, by rw [upd_ne z]; exact h2, h3⟩
/-- a ledger that says no more -/
structure Lw (L L' : Led) : Prop where
  sub : ∀ e ∈ L', e ∈ L
  nd : (L.map (·.1)).Nodup → (L'.map (·.1)).Nodup
theorem Lw.own {K : PySem.W.Frag} {H F : Hp} {L L' : Led} (h : Lw L L') (w : Own K H F L) : Own K H F L' := ⟨w.sub, fun e he => w.cell e (h.sub e he), h.nd w.nd⟩
theorem Lw.refl (L : Led) : Lw L L := ⟨fun _ h => h, id⟩
theorem Lw.trans {L L1 L2 : Led} (a : Lw L L1) (b : Lw L1 L2) : Lw L L2 := ⟨fun e h => a.sub e (b.sub e h), fun n => b.nd (a.nd n)⟩
theorem Lw.perm {L L' : Led} (p : L.Perm L') : Lw L L' := ⟨fun e he => p.mem_iff.mpr he, fun n => (p.map (·.1)).nodup_iff.mp n⟩
theorem Lw.swap {a b : Addr × OD} {L : Led} : Lw (a :: b :: L) (b :: a :: L) := .perm (.swap _ _ _)
theorem Lw.tail {a : Addr × OD} {L : Led} : Lw (a :: L) L := ⟨fun e he => List.mem_cons_of_mem _ he, fun n => (List.nodup_cons.mp n).2⟩
theorem Lw.cons {a : Addr × OD} {L L' : Led} (h : Lw L L') : Lw (a :: L) (a :: L') := ⟨fun e he => by
    rcases List.mem_cons.mp he with r | r
    · rw [r]; exact List.mem_cons_self ..
    · exact List.mem_cons_of_mem _ (h.sub e r), fun n => by
    rw [List.map_cons, List.nodup_cons] at n ⊢
    refine ⟨fun z => n.1 ?_, h.nd n.2⟩
    obtain ⟨e, he, q⟩ := List.mem_map.mp z
    exact List.mem_map.mpr ⟨e, h.sub e he, q⟩⟩
theorem Lw.nil {L : Led} : Lw L [] := ⟨(fun e h => nomatch h), fun _ => List.nodup_nil⟩
theorem Lw.app {M L : Led} : Lw (M ++ L) L := ⟨fun e h => List.mem_append_right _ h, fun n => by
  rw [List.map_append] at n
  exact (List.nodup_append.mp n).2.1⟩
theorem Lw.past {a : Addr × OD} {M L : Led} : Lw (M ++ a :: L) (a :: (M ++ L)) := .perm List.perm_middle
theorem Lw.back {a : Addr × OD} {M L : Led} : Lw (a :: (M ++ L)) (M ++ a :: L) := .perm List.perm_middle.symm
/-- what must stay in a ledger while something is walked -/
def SubL (G L : Led) : Prop := ∀ e ∈ G, e ∈ L
theorem SubL.nil {L : Led} : SubL [] L := fun _ h => nomatch h
theorem SubL.refl {L : Led} : SubL L L := fun _ h => h
theorem SubL.one {e : Addr × OD} {L : Led} (h : e ∈ L) : SubL [e] L := fun x hx => by rw [List.mem_singleton.mp hx]; exact h
theorem SubL.cons {e : Addr × OD} {G L : Led} (h : SubL G L) : SubL G (e :: L) := fun x hx => List.mem_cons_of_mem _ (h x hx)
theorem SubL.app {M G L : Led} (h : SubL G L) : SubL G (M ++ L) := fun x hx => List.mem_append_right _ (h x hx)
/-- an entry taken out -/
inductive Take (p : Addr) (x : OD) : Led → Led → Prop
  | here {L : Led} : Take p x ((p, x) :: L) L
  | there {e : Addr × OD} {L L' : Led} : Take p x L L' → Take p x (e :: L) (e :: L')
theorem Take.mem {x : OD} : ∀ {L L' : Led}, Take p x L L' → (p, x) ∈ L
  | _, _, .here => List.mem_cons_self ..
  | _, _, .there h => List.mem_cons_of_mem _ h.mem
theorem Take.back {x : OD} : ∀ {L L' : Led}, Take p x L L' → ∀ e ∈ L', e ∈ L
  | _, _, .here, e, he => List.mem_cons_of_mem _ he
  | _, _, .there h, e, he => by
    rcases List.mem_cons.mp he with r | r
    · rw [r]; exact List.mem_cons_self ..
    · exact List.mem_cons_of_mem _ (h.back e r)
theorem Take.ne {x : OD} : ∀ {L L' : Led}, Take p x L L' → (L.map (·.1)).Nodup → (L'.map (·.1)).Nodup ∧ ∀ e ∈ L', e.1 ≠ p
  | _, _, .here, n => by
    rw [List.map_cons, List.nodup_cons] at n
    exact ⟨n.2, fun e he z => n.1 (List.mem_map.mpr ⟨e, he, z⟩)⟩
  | _, _, .there h, n => by
    rw [List.map_cons, List.nodup_cons] at n
    obtain ⟨a, b⟩ := h.ne n.2
    refine ⟨?_, fun e he z => ?_⟩
    · rw [List.map_cons, List.nodup_cons]
      refine ⟨fun hm => ?_, a⟩
      obtain ⟨e', he', z⟩ := List.mem_map.mp hm
      exact n.1 (List.mem_map.mpr ⟨e', h.back e' he', z⟩)
    · rcases List.mem_cons.mp he with r | r
      · rw [r] at z
        exact n.1 (by rw [z]; exact List.mem_map.mpr ⟨_, h.mem, rfl⟩)
      · exact b e r z
/-- an owned list that will not change any more -/
theorem Own.freeze {ds : List D} (w : Own K H F L) (t : Take p (.lst ds) L L') : ∃ F', Same F F' ∧ Own K H F' L' ∧ Is K F' (.ref p) (.lst ds) := by
  obtain ⟨hn, o, ho, xs, rfl, hx⟩ := w.cell _ t.mem
  obtain ⟨nd, ne⟩ := t.ne w.nd
  have s : Same F (upd F p (.lst xs)) := Same.upd_new hn
  refine ⟨_, s, ⟨fun a u e => ?_, fun e he => ?_, nd⟩, .lst upd_same (hx.mono s)⟩
  · by_cases ha : a = p
    · subst ha
      rw [upd_same] at e
      rw [← e]
      exact ho
    · rw [upd_ne ha] at e
      exact w.sub a u e
  · obtain ⟨h1, u, h2, h3⟩ := w.cell e (t.back e he)
    exact ⟨by rw [upd_ne (ne e he)]; exact h1, u, h2, h3.mono s⟩
end
end D2
end
section
set_option Elab.async false
set_option linter.all false
set_option maxRecDepth 100000
set_option maxHeartbeats 2000000
namespace D2
open PySem PySem.Spec L2
abbrev St := L2.St

/-! ### slots by their data -/
abbrev Rho := List (Option D)
def EnvOk (K : PySem.W.Frag) (F : Hp) (σ : St) (ρ : Rho) : Prop := σ.length = ρ.length ∧ ∀ (i : Nat) (d : D), ρ[i]? = some (some d) → ∃ v, σ[i]? = some (some v) ∧ Is K F v d
section
variable {K : PySem.W.Frag} {F F' H : Hp} {σ : St} {ρ : Rho} {v : V} {d : D}
theorem EnvOk.mono (h : EnvOk K F σ ρ) (e : Same F F') : EnvOk K F' σ ρ := ⟨h.1, fun i d q => by
  obtain ⟨v, h1, h2⟩ := h.2 i d q
  exact ⟨v, h1, h2.mono e⟩⟩
theorem EnvOk.set (h : EnvOk K F σ ρ) (r : Is K F v d) (i : Nat) : EnvOk K F (σ.set i (some v)) (ρ.set i (some d)) := ⟨by rw [List.length_set, List.length_set]; exact h.1, fun j e q => by
  by_cases hj : i = j
  · subst hj
    rw [List.getElem?_set] at q ⊢
    by_cases hl : i < ρ.length
    · have hl' : i < σ.length := by rw [h.1]; exact hl
      simp only [hl, hl', if_true, if_pos rfl, Option.some.injEq] at q ⊢
      subst q
      exact ⟨v, rfl, r⟩
    · simp only [if_pos rfl, if_neg hl] at q
      cases q
  · rw [List.getElem?_set_ne hj] at q ⊢
    exact h.2 j e q⟩
theorem EnvOk.unset (h : EnvOk K F σ ρ) (i : Nat) : EnvOk K F (σ.set i none) (ρ.set i none) := ⟨by rw [List.length_set, List.length_set]; exact h.1, fun j e q => by
  by_cases hj : i = j
  · subst hj
    rw [List.getElem?_set] at q
    by_cases hl : i < ρ.length
    · simp only [hl, if_true, if_pos rfl, Option.some.injEq] at q
      cases q
    · simp only [if_pos rfl, if_neg hl] at q
      cases q
  · rw [List.getElem?_set_ne hj] at q ⊢
    exact h.2 j e q⟩
/-- forgetting -/
def Forgets (ρ ρ' : Rho) : Prop := ρ'.length = ρ.length ∧ ∀ (i : Nat) (d : D), ρ'[i]? = some (some d) → ρ[i]? = some (some d)
theorem EnvOk.weak {ρ' : Rho} (h : EnvOk K F σ ρ) (w : Forgets ρ ρ') : EnvOk K F σ ρ' := ⟨h.1.trans w.1.symm, fun i d q => h.2 i d (w.2 i d q)⟩
end

/-! ### ends at data -/
abbrev PK1 := D → Led → Prop
abbrev RK1 := Addr → List (Str × D) → Led → Prop
def noR : RK1 := fun _ _ _ => False
def upV (K : PySem.W.Frag) (F0 : Hp) (P : PK1) : VK := fun v H => ∃ F d L, Same F0 F ∧ Own K H F L ∧ Is K F v d ∧ P d L
def upA (K : PySem.W.Frag) (F0 : Hp) (P : List D → Led → Prop) : List V → Hp → Prop := fun vs H => ∃ F ds L, Same F0 F ∧ Own K H F L ∧ IsL K F vs ds ∧ P ds L
def upB (K : PySem.W.Frag) (F0 : Hp) (P : Bool → Led → Prop) : Bool → Hp → Prop := fun b H => ∃ F L, Same F0 F ∧ Own K H F L ∧ P b L
def upS (K : PySem.W.Frag) (F0 : Hp) (N : Rho → Led → Prop) : St → Hp → Prop := fun σ H => ∃ F ρ L, Same F0 F ∧ Own K H F L ∧ EnvOk K F σ ρ ∧ N ρ L
def upX (K : PySem.W.Frag) (F0 : Hp) (R : RK1) : XK := fun cls dd H => ∃ F C fs L a gs, Same F0 F ∧ Own K H F L ∧ cls = .ref C ∧ dd = some a ∧ F a = some (.xd gs) ∧ IsF K F gs fs ∧ R C fs L
def upXS (K : PySem.W.Frag) (F0 : Hp) (R : Rho → RK1) : WX := fun cls dd σ H => ∃ F ρ C fs L a gs, Same F0 F ∧ Own K H F L ∧ EnvOk K F σ ρ ∧ cls = .ref C ∧ dd = some a ∧ F a = some (.xd gs) ∧ IsF K F gs fs ∧ R ρ C fs L
section
variable {K : PySem.W.Frag} {F F0 F1 H : Hp}
theorem upV.mono {P P' : PK1} {v : V} (h : upV K F1 P v H) (e : Same F0 F1) (hp : ∀ d L, P d L → P' d L) : upV K F0 P' v H := by
  obtain ⟨F, d, L, s, o, i, p⟩ := h
  exact ⟨F, d, L, e.trans s, o, i, hp _ _ p⟩
theorem upA.mono {P P' : List D → Led → Prop} {v : List V} (h : upA K F1 P v H) (e : Same F0 F1) (hp : ∀ d L, P d L → P' d L) : upA K F0 P' v H := by
  obtain ⟨F, d, L, s, o, i, p⟩ := h
  exact ⟨F, d, L, e.trans s, o, i, hp _ _ p⟩
theorem upB.mono {P P' : Bool → Led → Prop} {v : Bool} (h : upB K F1 P v H) (e : Same F0 F1) (hp : ∀ d L, P d L → P' d L) : upB K F0 P' v H := by
  obtain ⟨F, L, s, o, p⟩ := h
  exact ⟨F, L, e.trans s, o, hp _ _ p⟩
theorem upS.mono {N N' : Rho → Led → Prop} {σ : St} (h : upS K F1 N σ H) (e : Same F0 F1) (hp : ∀ d L, N d L → N' d L) : upS K F0 N' σ H := by
  obtain ⟨F, d, L, s, o, i, p⟩ := h
  exact ⟨F, d, L, e.trans s, o, i, hp _ _ p⟩
theorem upX.mono {R R' : RK1} {c : Value} {dd : Option Addr} (h : upX K F1 R c dd H) (e : Same F0 F1) (hp : ∀ C fs L, R C fs L → R' C fs L) : upX K F0 R' c dd H := by
  obtain ⟨F, C, fs, L, a, gs, s, o, h1, h2, h3, h4, p⟩ := h
  exact ⟨F, C, fs, L, a, gs, e.trans s, o, h1, h2, h3, h4, hp _ _ _ p⟩
theorem upXS.mono {R R' : Rho → RK1} {c : Value} {dd : Option Addr} {σ : St} (h : upXS K F1 R c dd σ H) (e : Same F0 F1) (hp : ∀ ρ C fs L, R ρ C fs L → R' ρ C fs L) : upXS K F0 R' c dd σ H := by
  obtain ⟨F, ρ, C, fs, L, a, gs, s, o, ev, h1, h2, h3, h4, p⟩ := h
  exact ⟨F, ρ, C, fs, L, a, gs, e.trans s, o, ev, h1, h2, h3, h4, hp _ _ _ _ p⟩
end

/-! ### the weakest readings -/
def wE (X : Cx) (e : Expr) : TE := fun σ H Q => ∀ (pins : List (Addr × Obj)) (s : Shared), Inv X pins σ H s → wpAny (model X.prog X.w) X.A (eval e X.env) (EP X pins σ Q) X.xe s
def wT (X : Cx) (e : Expr) : TT := fun σ H Q => ∀ (pins : List (Addr × Obj)) (s : Shared), Inv X pins σ H s → wpAny (model X.prog X.w) X.A (isTrue e X.env (eval e X.env)) (TP X pins σ Q) X.xe s
def wA (X : Cx) (es : List Expr) : TA := fun σ H Q => ∀ (pos : Pos) (pins : List (Addr × Obj)) (s : Shared), Inv X pins σ H s → wpAny (model X.prog X.w) X.A (spliced (backTo pos (starEach es X.env))) (AP X pins σ Q) X.xe s
def wS (X : Cx) (st : Stmt) : TS := fun D σ H => ∀ (pins : List (Addr × Obj)) (s : Shared), Inv X pins σ H s → wpAny (model X.prog X.w) X.A (exec st X.env) (SP X pins D) X.xe s
def wSs (X : Cx) (st : List Stmt) : TS := fun D σ H => ∀ (pins : List (Addr × Obj)) (s : Shared), Inv X pins σ H s → wpAny (model X.prog X.w) X.A (execs st X.env) (SP X pins D) X.xe s
section
variable {X : Cx} {e : Expr} {es : List Expr} {st : Stmt} {sts : List Stmt} {σ : St} {H : Hp}
theorem pe_w : PE X e (wE X e) := ⟨fun pins s σ H Q I h => h pins s I⟩
theorem pt_w : PT X e (wT X e) := ⟨fun pins s σ H Q I h => h pins s I⟩
theorem pa_w : PA X es (wA X es) := ⟨fun pos pins s σ H Q I h => h pos pins s I⟩
theorem ps_w : PS X st (wS X st) := ⟨fun pins s σ H D I h => h pins s I⟩
theorem pss_w : PSs X sts (wSs X sts) := ⟨fun pins s σ H D I h => h pins s I⟩
theorem wE.mono {Q Q' : VK} (h : wE X e σ H Q) (q : ∀ v H', Q v H' → Q' v H') : wE X e σ H Q' := fun pins s I => thn (h pins s I) fun u s' ⟨v, H', I', r, p⟩ => ⟨v, H', I', r, q _ _ p⟩
theorem wT.mono {Q Q' : Bool → Hp → Prop} (h : wT X e σ H Q) (q : ∀ v H', Q v H' → Q' v H') : wT X e σ H Q' := fun pins s I => thn (h pins s I) fun u s' ⟨H', I', p⟩ => ⟨H', I', q _ _ p⟩
theorem wA.mono {Q Q' : List V → Hp → Prop} (h : wA X es σ H Q) (q : ∀ v H', Q v H' → Q' v H') : wA X es σ H Q' := fun pos pins s I => thn (h pos pins s I) fun u s' ⟨v, H', I', r, p⟩ => ⟨v, H', I', r, q _ _ p⟩
structure EndsLe (D D' : Ends) : Prop where
  nx : ∀ σ H, D.nx σ H → D'.nx σ H
  rt : ∀ v H, D.rt v H → D'.rt v H
  bk : ∀ σ H, D.bk σ H → D'.bk σ H
  ct : ∀ σ H, D.ct σ H → D'.ct σ H
theorem sp_mono {D D' : Ends} {pins : List (Addr × Obj)} {f : Flow} {s : Shared} (q : EndsLe D D') (h : SP X pins D f s) : SP X pins D' f s := by
  cases f with
  | next => obtain ⟨σ', H', I', p⟩ := h; exact ⟨σ', H', I', q.nx _ _ p⟩
  | brk => obtain ⟨σ', H', I', p⟩ := h; exact ⟨σ', H', I', q.bk _ _ p⟩
  | cont => obtain ⟨σ', H', I', p⟩ := h; exact ⟨σ', H', I', q.ct _ _ p⟩
  | ret u => obtain ⟨v, σ', H', I', r, p⟩ := h; exact ⟨v, σ', H', I', r, q.rt _ _ p⟩
theorem wS.mono {D D' : Ends} (h : wS X st D σ H) (q : EndsLe D D') : wS X st D' σ H := fun pins s I => thn (h pins s I) fun u s' p => sp_mono q p
theorem wSs.mono {D D' : Ends} (h : wSs X sts D σ H) (q : EndsLe D D') : wSs X sts D' σ H := fun pins s I => thn (h pins s I) fun u s' p => sp_mono q p
end

/-! ### the judgements at data -/
/-- where one stands: what the slots and the ledger are, what is wished of an exception -/
structure At (X : Cx) (ρ : Rho) (L : Led) (R : RK1) (σ : St) (H F : Hp) (W : WX) : Prop where
  env : EnvOk X.K F σ ρ
  own : Own X.K H F L
  tk : Takes X W
  ex : ∀ cls dd H', upX X.K F R cls dd H' → W cls dd σ H'
theorem At.go {X : Cx} {ρ : Rho} {L L' : Led} {R : RK1} {σ : St} {H F H' F' : Hp} {W : WX} (a : At X ρ L R σ H F W) (s : Same F F') (o : Own X.K H' F' L') : At X ρ L' R σ H' F' W :=
  ⟨a.env.mono s, o, a.tk, fun c d h q => a.ex c d h (q.mono s fun _ _ _ p => p)⟩
structure PD (X : Cx) (e : Expr) (ρ : Rho) (L : Led) (P : PK1) (R : RK1) : Prop where
  go : ∀ σ H F W, At X ρ L R σ H F W → wE X e σ H (upV X.K F P)
structure PDT (X : Cx) (e : Expr) (ρ : Rho) (L : Led) (P : Bool → Led → Prop) (R : RK1) : Prop where
  go : ∀ σ H F W, At X ρ L R σ H F W → wT X e σ H (upB X.K F P)
structure PDA (X : Cx) (es : List Expr) (ρ : Rho) (L : Led) (P : List D → Led → Prop) (R : RK1) : Prop where
  go : ∀ σ H F W, At X ρ L R σ H F W → wA X es σ H (upA X.K F P)
/-- what is wanted behind a statement -/
structure DE where
  nx : Rho → Led → Prop
  rt : PK1
  bk : Rho → Led → Prop
  ct : Rho → Led → Prop
  ex : Rho → RK1
def DE.up (K : PySem.W.Frag) (F : Hp) (E : DE) : Ends := { nx := upS K F E.nx, rt := upV K F E.rt, bk := upS K F E.bk, ct := upS K F E.ct }
structure AtS (X : Cx) (ρ : Rho) (L : Led) (E : DE) (σ : St) (H F : Hp) (W : WX) : Prop where
  env : EnvOk X.K F σ ρ
  own : Own X.K H F L
  tk : Takes X W
  ex : ∀ cls dd σ' H', upXS X.K F E.ex cls dd σ' H' → W cls dd σ' H'
theorem AtS.at {X : Cx} {ρ : Rho} {L : Led} {E : DE} {σ : St} {H F : Hp} {W : WX} (a : AtS X ρ L E σ H F W) : At X ρ L (E.ex ρ) σ H F W :=
  ⟨a.env, a.own, a.tk, fun c d H' ⟨F', C, fs, L', x, gs, s, o, h1, h2, h3, h4, p⟩ => a.ex c d σ H' ⟨F', ρ, C, fs, L', x, gs, s, o, a.env.mono s, h1, h2, h3, h4, p⟩⟩
theorem AtS.go {X : Cx} {ρ ρ' : Rho} {L L' : Led} {E E' : DE} {σ σ' : St} {H F H' F' : Hp} {W : WX} (a : AtS X ρ L E σ H F W) (s : Same F F') (v : EnvOk X.K F' σ' ρ') (o : Own X.K H' F' L') (he : E'.ex = E.ex) : AtS X ρ' L' E' σ' H' F' W :=
  ⟨v, o, a.tk, fun c d σ2 h q => a.ex c d σ2 h (by rw [he] at q; exact q.mono s fun _ _ _ _ p => p)⟩
structure PDS (X : Cx) (st : Stmt) (E : DE) (ρ : Rho) (L : Led) : Prop where
  go : ∀ σ H F W, AtS X ρ L E σ H F W → wS X st (E.up X.K F) σ H
structure PDB (X : Cx) (sts : List Stmt) (E : DE) (ρ : Rho) (L : Led) : Prop where
  go : ∀ σ H F W, AtS X ρ L E σ H F W → wSs X sts (E.up X.K F) σ H

section
variable {X : Cx} {e a b : Expr} {es : List Expr} {st : Stmt} {sts rest : List Stmt} {ρ : Rho} {L : Led} {P : PK1} {R : RK1} {E : DE} {pos : Pos}
theorem PD.mono {P' : PK1} (h : PD X e ρ L P R) (q : ∀ d L, P d L → P' d L) : PD X e ρ L P' R := .mk fun σ H F W A => (h.go σ H F W A).mono fun v H' p => p.mono (Same.refl _) q
theorem PDT.mono {P P' : Bool → Led → Prop} (h : PDT X e ρ L P R) (q : ∀ d L, P d L → P' d L) : PDT X e ρ L P' R := .mk fun σ H F W A => (h.go σ H F W A).mono fun v H' p => p.mono (Same.refl _) q
theorem pd_of {t : TE} (h : PE X e t) (q : ∀ σ H F W, At X ρ L R σ H F W → t σ H (upV X.K F P)) : PD X e ρ L P R := .mk fun σ H F W A pins s I => h.run pins s σ H _ I (q σ H F W A)
theorem pdt_of {P : Bool → Led → Prop} {t : TT} (h : PT X e t) (q : ∀ σ H F W, At X ρ L R σ H F W → t σ H (upB X.K F P)) : PDT X e ρ L P R := .mk fun σ H F W A pins s I => h.run pins s σ H _ I (q σ H F W A)
theorem pds_of {t : TS} (h : PS X st t) (q : ∀ σ H F W, AtS X ρ L E σ H F W → t (E.up X.K F) σ H) : PDS X st E ρ L := .mk fun σ H F W A pins s I => h.run pins s σ H _ I (q σ H F W A)
/-- one expression, then what follows -/
theorem PD.step {Q : VK} {σ : St} {H F : Hp} {W : WX} (h : PD X e ρ L P R) (A : At X ρ L R σ H F W) (q : ∀ v H' F' d L', Same F F' → At X ρ L' R σ H' F' W → Is X.K F' v d → P d L' → Q v H') : wE X e σ H Q :=
  (h.go σ H F W A).mono fun v H' ⟨F', d, L', s, o, i, p⟩ => q v H' F' d L' s (A.go s o) i p
theorem PDA.step {P : List D → Led → Prop} {Q : List V → Hp → Prop} {σ : St} {H F : Hp} {W : WX} (h : PDA X es ρ L P R) (A : At X ρ L R σ H F W) (q : ∀ v H' F' d L', Same F F' → At X ρ L' R σ H' F' W → IsL X.K F' v d → P d L' → Q v H') : wA X es σ H Q :=
  (h.go σ H F W A).mono fun v H' ⟨F', d, L', s, o, i, p⟩ => q v H' F' d L' s (A.go s o) i p
theorem PDT.step {P : Bool → Led → Prop} {Q : Bool → Hp → Prop} {σ : St} {H F : Hp} {W : WX} (h : PDT X e ρ L P R) (A : At X ρ L R σ H F W) (q : ∀ b H' F' L', Same F F' → At X ρ L' R σ H' F' W → P b L' → Q b H') : wT X e σ H Q :=
  (h.go σ H F W A).mono fun v H' ⟨F', L', s, o, p⟩ => q v H' F' L' s (A.go s o) p

/-! ### names, constants -/
theorem pd_name {i : Nat} {x : Str} {d : D} (hN : X.N[i]? = some x) (hd : ρ[i]? = some (some d)) (h : P d L)
    (hv : Vis X.env.scope x := by first | exact Or.inl rfl | exact Or.inr (Or.inl rfl) | exact Or.inr (Or.inr rfl)) (hdb : (x == ("__debug__" : Str)) = false := by decide) (hcd : (x == ("__classdict__" : Str)) = false := by decide) : PD X (.Name x pos) ρ L P R :=
  pd_of (pe_var hN hv hdb hcd) fun σ H F W A => by
    obtain ⟨v, h1, h2⟩ := A.env.2 i d hd
    exact ⟨v, h1, F, d, L, Same.refl _, A.own, h2, h⟩
theorem upV.here {F H : Hp} {L : Led} {v : V} {d : D} (o : Own X.K H F L) (i : Is X.K F v d) (p : P d L) : upV X.K F P v H := ⟨F, d, L, Same.refl _, o, i, p⟩
theorem pd_int {i : Int} {j : Nat} (h : P (.int i) L) : PD X (.Constant (.int i) j pos) ρ L P R := pd_of pe_int fun σ H F W A => upV.here A.own (.sc _) h
theorem pd_bl {i : Bool} {j : Nat} (h : P (.bl i) L) : PD X (.Constant (.bool i) j pos) ρ L P R := pd_of pe_bl fun σ H F W A => upV.here A.own (.sc _) h
theorem pd_non {j : Nat} (h : P .non L) : PD X (.Constant .none j pos) ρ L P R := pd_of pe_non fun σ H F W A => upV.here A.own (.sc _) h
theorem pd_str {i : Str} {j : Nat} (h : P (.str i) L) : PD X (.Constant (.str i) j pos) ρ L P R := pd_of pe_str fun σ H F W A => upV.here A.own (.sc _) h
theorem pd_glob {x : Str} {v : V} {u : Value} (hm : X.mg x = some u) (r : RelV v u) (h : P (.sc v) L) (hg : Gl X x := by rfl) (hd : (x == ("__debug__" : Str)) = false := by decide) : PD X (.Name x pos) ρ L P R :=
  pd_of (pe_glob hg hm r hd) fun σ H F W A => upV.here A.own (.sc _) h

/-! ### operators -/
/-- an operation on two data -/
def OpD (X : Cx) (f : Value → Value → Sem Value) (da db : D) (L : Led) (P : PK1) : Prop := ∀ (pins : List (Addr × Obj)) (s : Shared) (σ : St) (H F : Hp) (x y : V) (v u : Value), Own X.K H F L → Is X.K F x da → Is X.K F y db → Inv X pins σ H s → RelV x v → RelV y u →
  wpAny (model X.prog X.w) X.A (f v u) (EP X pins σ (upV X.K F P)) X.xe s
theorem opd_of {f : Value → Value → Sem Value} {r : R2} {da db : D} (ho : OpR X f r) (h : ∀ H F x y, Own X.K H F L → Is X.K F x da → Is X.K F y db → r x y H (upV X.K F P)) : OpD X f da db L P :=
  fun pins s σ H F x y v u o ix iy I rx ry => ho pins s σ H x y v u _ I rx ry (h H F x y o ix iy)
theorem pd_bin {op : Operator} (h : PD X a ρ L (fun da L1 => PD X b ρ L1 (fun db L2 => OpD X (binaryOp op) da db L2 P) R) R) : PD X (.BinOp a op b pos) ρ L P R := .mk fun σ H F W A pins s I => by
  refine wpAny_BinOp (binT (R := fun x y H2 => ∀ (pins : List (Addr × Obj)) s2 v u, Inv X pins σ H2 s2 → RelV x v → RelV y u → wpAny (model X.prog X.w) X.A (binaryOp op v u) (EP X pins σ (upV X.K F P)) X.xe s2) pe_w pe_w I ?_ fun v u s2 x y H2 I2 rx ry q => q pins s2 v u I2 rx ry)
  refine h.step A fun x H1 F1 da L1 s1 A1 ix q1 => q1.step A1 fun y H2 F2 db L2 s2 A2 iy q2 => fun pins s v u I rx ry => ?_
  exact thn (q2 pins s σ H2 F2 x y v u A2.own (ix.mono s2) iy I rx ry) fun z s' ⟨v', H', I', r', p'⟩ => ⟨v', H', I', r', p'.mono (s1.trans s2) fun _ _ p => p⟩
theorem pd_cmp {op : CmpOp} (h : PD X a ρ L (fun da L1 => PD X b ρ L1 (fun db L2 => OpD X (compareOp op) da db L2 P) R) R) (hm : behindInMarks op b = false := by first | exact nobehind _ (by decide) (by decide) | rfl) : PD X (.Compare a [op] [b] pos) ρ L P R := .mk fun σ H F W A pins s I => by
  refine wpAny_Compare1 ?_ hm
  refine binT (R := fun x y H2 => ∀ (pins : List (Addr × Obj)) s2 v u, Inv X pins σ H2 s2 → RelV x v → RelV y u → wpAny (model X.prog X.w) X.A (compareOp op v u) (EP X pins σ (upV X.K F P)) X.xe s2) pe_w pe_w I ?_ fun v u s2 x y H2 I2 rx ry q => q pins s2 v u I2 rx ry
  refine h.step A fun x H1 F1 da L1 s1 A1 ix q1 => q1.step A1 fun y H2 F2 db L2 s2 A2 iy q2 => fun pins s v u I rx ry => ?_
  exact thn (q2 pins s σ H2 F2 x y v u A2.own (ix.mono s2) iy I rx ry) fun z s' ⟨v', H', I', r', p'⟩ => ⟨v', H', I', r', p'.mono (s1.trans s2) fun _ _ p => p⟩
theorem pdt_cmp {op : CmpOp} {P : Bool → Led → Prop} (h : PD X a ρ L (fun da L1 => PD X b ρ L1 (fun db L2 => OpD X (compareOp op) da db L2 (fun d L => ∃ c, d = .bl c ∧ P c L)) R) R) (hm : behindInMarks op b = false := by first | exact nobehind _ (by decide) (by decide) | rfl) :
    PDT X (.Compare a [op] [b] pos) ρ L P R := .mk fun σ H F W A pins s I => by
  refine wpAny_isTrue_Compare1 ?_ hm
  refine binT (R := fun x y H2 => ∀ (pins : List (Addr × Obj)) s2 v u, Inv X pins σ H2 s2 → RelV x v → RelV y u → wpAny (model X.prog X.w) X.A (compareOp op v u) (fun c s3 => wpAny (model X.prog X.w) X.A (truthy c) (TP X pins σ (upB X.K F P)) X.xe s3) X.xe s2) pe_w pe_w I ?_ fun v u s2 x y H2 I2 rx ry q => q pins s2 v u I2 rx ry
  refine h.step A fun x H1 F1 da L1 s1 A1 ix q1 => q1.step A1 fun y H2 F2 db L2 s2 A2 iy q2 => fun pins s v u I rx ry => ?_
  refine thn (q2 pins s σ H2 F2 x y v u A2.own (ix.mono s2) iy I rx ry) fun z s' ⟨v', H', I', r', F', d', L', s3, o', i', c, e, p⟩ => ?_
  subst e
  cases i'
  cases r'
  exact wpAny_truthy_bool ⟨H', I', F', L', (s1.trans s2).trans s3, o', p⟩
def UnD (X : Cx) (f : Value → Sem Value) (da : D) (L : Led) (P : PK1) : Prop := ∀ (pins : List (Addr × Obj)) (s : Shared) (σ : St) (H F : Hp) (x : V) (v : Value), Own X.K H F L → Is X.K F x da → Inv X pins σ H s → RelV x v →
  wpAny (model X.prog X.w) X.A (f v) (EP X pins σ (upV X.K F P)) X.xe s
theorem pd_un {op : UnaryOp} (h : PD X a ρ L (fun da L1 => UnD X (unaryOp op) da L1 P) R) : PD X (.UnaryOp op a pos) ρ L P R := .mk fun σ H F W A pins s I => by
  refine PyProof.Rows.UnaryOp_ (thn (h.step (Q := fun x H1 => ∀ (pins : List (Addr × Obj)) s1 v, Inv X pins σ H1 s1 → RelV x v → wpAny (model X.prog X.w) X.A (unaryOp op v) (EP X pins σ (upV X.K F P)) X.xe s1) A (fun x H1 F1 da L1 s1 A1 ix q1 => fun pins s1' v I1 rx => ?_) pins s I) fun v s1 ⟨x, H1, I1, r1, q1⟩ => q1 pins s1 v I1 r1)
  exact thn (q1 pins s1' σ H1 F1 x v A1.own ix I1 rx) fun z s' ⟨v', H', I', r', p'⟩ => ⟨v', H', I', r', p'.mono s1 fun _ _ p => p⟩
section
variable {i j : Int} {x y : Str}
theorem opd_I {f : Value → Value → Sem Value} {C : Int → Int → Prop} {g : Int → Int → V} (ho : OpR X f (rI C g)) (hc : C i j) (h : P (.sc (g i j)) L) : OpD X f (.int i) (.int j) L P := opd_of ho fun H F x y o ix iy => by
  cases ix
  cases iy
  exact ⟨i, j, rfl, rfl, hc, upV.here o (.sc _) h⟩
theorem opd_I0 {f : Value → Value → Sem Value} {g : Int → Int → V} (ho : OpR X f (rI0 g)) (h : P (.sc (g i j)) L) : OpD X f (.int i) (.int j) L P := opd_of ho fun H F x y o ix iy => by
  cases ix
  cases iy
  exact ⟨i, j, rfl, rfl, upV.here o (.sc _) h⟩
theorem od_addI (h : P (.int (i + j)) L) : OpD X (binaryOp .Add) (.int i) (.int j) L P := opd_I0 op_add h
theorem od_subI (h : P (.int (i - j)) L) : OpD X (binaryOp .Sub) (.int i) (.int j) L P := opd_I0 op_sub h
theorem od_mulI (hc : CMul i j) (h : P (.int (i * j)) L) : OpD X (binaryOp .Mult) (.int i) (.int j) L P := opd_I op_mul hc h
theorem od_modI (hc : 0 < j) (h : P (.int (i % j)) L) : OpD X (binaryOp .Mod) (.int i) (.int j) L P := opd_I op_mod hc h
theorem od_fdivI (hc : CDiv i j) (h : P (.int (i / j)) L) : OpD X (binaryOp .FloorDiv) (.int i) (.int j) L P := opd_I op_fdiv hc h
theorem od_powI (hc : CPow i j) (h : P (.int (i ^ j.toNat)) L) : OpD X (binaryOp .Pow) (.int i) (.int j) L P := opd_I op_pow hc h
theorem od_ltI (h : P (.bl (decide (i < j))) L) : OpD X (compareOp .Lt) (.int i) (.int j) L P := opd_I0 op_lt h
theorem od_leI (h : P (.bl (decide (i ≤ j))) L) : OpD X (compareOp .LtE) (.int i) (.int j) L P := opd_I0 op_le h
theorem od_gtI (h : P (.bl (decide (j < i))) L) : OpD X (compareOp .Gt) (.int i) (.int j) L P := opd_I0 op_gt h
theorem od_geI (h : P (.bl (decide (j ≤ i))) L) : OpD X (compareOp .GtE) (.int i) (.int j) L P := opd_I0 op_ge h
/-- == of scalars -/
theorem od_eqS {x y : V} (hs : scal x y = true) (h : P (.bl (decide (x = y))) L) : OpD X (compareOp .Eq) (.sc x) (.sc y) L P := opd_of op_eq fun H F x y o ix iy => by
  cases ix
  cases iy
  exact ⟨hs, upV.here o (.sc _) h⟩
theorem od_neS {x y : V} (hs : scal x y = true) (h : P (.bl (!decide (x = y))) L) : OpD X (compareOp .NotEq) (.sc x) (.sc y) L P := opd_of op_ne fun H F x y o ix iy => by
  cases ix
  cases iy
  exact ⟨hs, upV.here o (.sc _) h⟩
theorem od_addS (hl : x.length + y.length ≤ sizeLine) (h : P (.str (x ++ y)) L) : OpD X (binaryOp .Add) (.str x) (.str y) L P := opd_of op_add_str fun H F x y o ix iy => by
  cases ix
  cases iy
  exact ⟨_, _, rfl, rfl, hl, upV.here o (.sc _) h⟩
def D.isNon : D → Bool
  | .sc .non => true
  | _ => false
theorem is_none_iff {K : PySem.W.Frag} {F : Hp} {v : V} {d : D} (h : Is K F v d) : decide (v = .non) = d.isNon := by
  cases h with
  | sc v => cases v <;> rfl
  | lst _ _ => rfl
  | fro _ _ => rfl
  | tup _ _ => rfl
  | tuq _ _ _ => rfl
  | ins _ _ => rfl
  | exc _ _ => rfl
theorem od_isN {d : D} (h : P (.bl d.isNon) L) : OpD X (compareOp .Is) d .non L P := opd_of op_isN fun H F x y o ix iy => by
  cases iy
  refine ⟨rfl, ?_⟩
  rw [is_none_iff ix]
  exact upV.here o (.sc _) h
theorem od_notN {d : D} (h : P (.bl (!d.isNon)) L) : OpD X (compareOp .IsNot) d .non L P := opd_of op_notN fun H F x y o ix iy => by
  cases iy
  refine ⟨rfl, ?_⟩
  rw [is_none_iff ix]
  exact upV.here o (.sc _) h
theorem ud_neg (h : P (.int (-i)) L) : UnD X (unaryOp .USub) (.int i) L P := fun pins s σ H F x v o ix I r => by
  cases ix
  exact un_neg pins s σ H _ v _ I r ⟨i, rfl, upV.here o (.sc _) h⟩
end
/-! ### arguments -/
theorem pda_nil {P : List D → Led → Prop} (h : P [] L) : PDA X [] ρ L P R := .mk fun σ H F W A pos pins s I => pa_nil.run pos pins s σ H _ I ⟨F, [], L, Same.refl _, A.own, .nil, h⟩
theorem pda_cons {P : List D → Led → Prop} (h : PD X e ρ L (fun d L1 => PDA X es ρ L1 (fun ds L2 => P (d :: ds) L2) R) R) (hs : starEach (e :: es) X.env = (false, eval e X.env) :: starEach es X.env := by rfl) : PDA X (e :: es) ρ L P R := .mk fun σ H F W A pos pins s I =>
  (pa_cons (te := wE X e) (t := wA X es) pe_w pa_w hs).run pos pins s σ H _ I (h.step A fun x H1 F1 da L1 s1 A1 ix q1 => q1.step A1 fun y H2 F2 db L2 s2 A2 iy q2 => ⟨F2, da :: db, L2, s1.trans s2, A2.own, .cons (ix.mono s2) iy, q2⟩)
theorem pd_tup {x1 : Nat} (h : PDA X es ρ L (fun ds L1 => ds.length ≤ sizeLine ∧ P (.tup ds) L1) R) : PD X (.Tuple es x1 pos) ρ L P R := pd_of (pe_tup pa_w) fun σ H F W A => h.step A fun vs H1 F1 ds L1 s1 A1 ix ⟨hl, p⟩ =>
  ⟨by rw [ix.length]; exact hl, fun t ht => by
    obtain ⟨s2, o2⟩ := A1.own.froze (o := .tup vs) ht
    exact ⟨_, .tup ds, L1, s1.trans s2, o2, .tup (SqT.of upd_same) (ix.mono s2), p⟩⟩
/-- a list's display: it is owned -/
theorem pd_lst (h : PDA X es ρ L (fun ds L1 => ds.length ≤ sizeLine ∧ ∀ p, P (.ref p) ((p, .lst ds) :: L1)) R) : PD X (.List es pos) ρ L P R := pd_of (pe_lst pa_w) fun σ H F W A => h.step A fun vs H1 F1 ds L1 s1 A1 ix ⟨hl, p⟩ =>
  ⟨by rw [ix.length]; exact hl, fun t ht => ⟨F1, .ref t, _, s1, A1.own.push ht (x := .lst ds) ⟨vs, rfl, ix⟩, .sc _, p t⟩⟩
/-- .. it will not change -/
theorem pd_lstF (h : PDA X es ρ L (fun ds L1 => ds.length ≤ sizeLine ∧ P (.lst ds) L1) R) : PD X (.List es pos) ρ L P R := pd_of (pe_lst pa_w) fun σ H F W A => h.step A fun vs H1 F1 ds L1 s1 A1 ix ⟨hl, p⟩ =>
  ⟨by rw [ix.length]; exact hl, fun t ht => by
    obtain ⟨s2, o2⟩ := A1.own.froze (o := .lst vs) ht
    exact ⟨_, .lst ds, L1, s1.trans s2, o2, .lst upd_same (ix.mono s2), p⟩⟩

/-! ### tests -/
theorem pdt_and {P : Bool → Led → Prop} {r : List Expr} (h : PDT X a ρ L (fun c L1 => if c = true then PDT X (.BoolOp .And (b :: r) pos) ρ L1 P R else P false L1) R) : PDT X (.BoolOp .And (a :: b :: r) pos) ρ L P R := by
  refine .mk ?_
  intro σ H F W A pins s I
  refine PyProof.Rows.isTrue_and (thn (h.go σ H F W A pins s I) fun c s1 ⟨H1, I1, F1, L1, s1', o1, q1⟩ => ?_)
  cases c with
  | true =>
    have q1 : PDT X (.BoolOp .And (b :: r) pos) ρ L1 P R := q1
    exact thn (q1.go σ H1 F1 W (A.go s1' o1) pins s1 I1) fun u s' ⟨H', I', p⟩ => ⟨H', I', p.mono s1' fun _ _ p => p⟩
  | false => exact ⟨H1, I1, F1, L1, s1', o1, q1⟩
end
end D2
end
section
set_option Elab.async false
set_option linter.all false
set_option maxRecDepth 100000
set_option maxHeartbeats 2000000
namespace D2
open PySem PySem.Spec L2
section
variable {X : Cx} {e a b c : Expr} {es : List Expr} {st : Stmt} {sts rest : List Stmt} {ρ : Rho} {L : Led} {P : PK1} {R : RK1} {E : DE} {pos : Pos}

/-! ### tests -/
theorem pdt_or {P : Bool → Led → Prop} {r : List Expr} (h : PDT X a ρ L (fun c L1 => if c = true then P true L1 else PDT X (.BoolOp .Or (b :: r) pos) ρ L1 P R) R) : PDT X (.BoolOp .Or (a :: b :: r) pos) ρ L P R := by
  refine .mk ?_
  intro σ H F W A pins s I
  refine PyProof.Rows.isTrue_or (thn (h.go σ H F W A pins s I) fun c s1 ⟨H1, I1, F1, L1, s1', o1, q1⟩ => ?_)
  cases c with
  | false =>
    have q1 : PDT X (.BoolOp .Or (b :: r) pos) ρ L1 P R := q1
    exact thn (q1.go σ H1 F1 W (A.go s1' o1) pins s1 I1) fun u s' ⟨H', I', p⟩ => ⟨H', I', p.mono s1' fun _ _ p => p⟩
  | true => exact ⟨H1, I1, F1, L1, s1', o1, q1⟩
theorem pdt_and1 {P : Bool → Led → Prop} (h : PDT X a ρ L P R) : PDT X (.BoolOp .And [a] pos) ρ L P R := by
  refine .mk ?_
  intro σ H F W A pins s I
  refine PyProof.Rows.isTrue_and (thn (h.go σ H F W A pins s I) fun c s1 e => ?_)
  cases c with
  | true => exact PyProof.Rows.isTrue_and_nil e
  | false => exact e
theorem pdt_or1 {P : Bool → Led → Prop} (h : PDT X a ρ L P R) : PDT X (.BoolOp .Or [a] pos) ρ L P R := by
  refine .mk ?_
  intro σ H F W A pins s I
  refine PyProof.Rows.isTrue_or (thn (h.go σ H F W A pins s I) fun c s1 e => ?_)
  cases c with
  | false => exact PyProof.Rows.isTrue_or_nil e
  | true => exact e
theorem pdt_not {P : Bool → Led → Prop} (h : PDT X a ρ L (fun c L1 => P (!c) L1) R) : PDT X (.UnaryOp .Not a pos) ρ L P R := by
  refine .mk ?_
  intro σ H F W A pins s I
  exact PyProof.Rows.isTrue_not (thn (h.go σ H F W A pins s I) fun c s1 ⟨H1, I1, F1, L1, s1', o1, q1⟩ => ⟨H1, I1, F1, L1, s1', o1, q1⟩)
/-- the truth of a datum -/
def TruD (d : D) (P : Bool → Prop) : Prop := match d with
  | .sc (.bl b) => P b
  | .sc .non => P false
  | .sc (.int i) => P (i != 0)
  | .sc (.str x) => x.length ≤ sizeLine ∧ P ((x.length : Int) != 0)
  | .lst ds => P (!ds.isEmpty)
  | .fro ds => P (!ds.isEmpty)
  | .tup ds => P (!ds.isEmpty)
  | _ => False
theorem isEmpty_is {K : PySem.W.Frag} {F : Hp} {xs : List V} {ds : List D} (h : IsL K F xs ds) : xs.isEmpty = ds.isEmpty := by
  cases h <;> rfl
theorem truthy_of {P : Bool → Led → Prop} {pins : List (Addr × Obj)} {s : Shared} {σ : St} {H F : Hp} {x : V} {v : Value} {d : D} (o : Own X.K H F L) (ix : Is X.K F x d) (I : Inv X pins σ H s) (rx : RelV x v) (h : TruD d (fun b => P b L)) :
    wpAny (model X.prog X.w) X.A (truthy v) (TP X pins σ (upB X.K F P)) X.xe s := by
  have fin : ∀ {b : Bool}, P b L → upB X.K F P b H := fun p => ⟨F, L, Same.refl _, o, p⟩
  cases ix with
  | sc x =>
    cases x with
    | non => exact tru_ok pins s σ H .non v _ I rx ⟨false, rfl, fin h⟩
    | bl b => cases rx; exact wpAny_truthy_bool ⟨H, I, fin h⟩
    | int i => exact tru_ok pins s σ H (.int i) v _ I rx ⟨_, rfl, fin h⟩
    | str y => exact tru_ok pins s σ H (.str y) v _ I rx ⟨_, ⟨h.1, rfl⟩, fin h.2⟩
    | byt _ => exact h.elim
    | flt _ => exact h.elim
    | ref _ => exact h.elim
    | ty _ => exact h.elim
  | @lst q xs ds hq hx =>
    have e : (!xs.isEmpty) = !ds.isEmpty := by rw [isEmpty_is hx]
    have h' : P (!ds.isEmpty) L := h
    exact tru_ok pins s σ H (.ref q) v _ I rx ⟨_, Or.inl ⟨xs, SqL.of (o.sub _ _ hq), rfl⟩, by rw [e]; exact fin h'⟩
  | @fro q xs ds hq hx =>
    have e : (!xs.isEmpty) = !ds.isEmpty := by rw [isEmpty_is hx]
    have h' : P (!ds.isEmpty) L := h
    exact tru_ok pins s σ H (.ref q) v _ I rx ⟨_, Or.inl ⟨xs, same_l o.sub hq, rfl⟩, by rw [e]; exact fin h'⟩
  | @tup q xs ds hq hx =>
    have e : (!xs.isEmpty) = !ds.isEmpty := by rw [isEmpty_is hx]
    have h' : P (!ds.isEmpty) L := h
    exact tru_ok pins s σ H (.ref q) v _ I rx ⟨_, Or.inr (Or.inl ⟨xs, same_t o.sub hq, rfl⟩), by rw [e]; exact fin h'⟩
  | tuq _ _ _ => exact h.elim
  | ins _ _ => exact h.elim
  | exc _ _ => exact h.elim
/-- any expression but and, or, not, a comparison, as a test -/
theorem pdt_val {P : Bool → Led → Prop} (h : PD X e ρ L (fun d L1 => TruD d (fun b => P b L1)) R) (he : ∀ whole, isTrue e X.env whole = (do let v ← whole; standAt e.pos; holding [v] (truthy v)) := by intro _; rfl) : PDT X e ρ L P R := .mk fun σ H F W A pins s I => by
  refine PyProof.Rows.isTrue_plain (thn (h.go σ H F W A pins s I) fun v s1 ⟨x, H1, I1, r1, F1, d, L1, s1', o1, i1, q1⟩ => ?_) (he _)
  exact thn (truthy_of o1 i1 I1 r1 q1) fun b s2 ⟨H2, I2, q2⟩ => ⟨H2, I2, q2.mono s1' fun _ _ p => p⟩

/-! ### and, or, not, if as values -/
theorem pd_one {op : BoolOp} (h : PD X a ρ L P R) : PD X (.BoolOp op [a] pos) ρ L P R := .mk fun σ H F W A pins s I => PyProof.Rows.BoolOp_one (h.go σ H F W A pins s I)
theorem pd_and {r : List Expr} (h : PD X a ρ L (fun d L1 => TruD d (fun t => if t = true then PD X (.BoolOp .And (b :: r) pos) ρ L1 P R else P d L1)) R) : PD X (.BoolOp .And (a :: b :: r) pos) ρ L P R := .mk fun σ H F W A pins s I => by
  refine PyProof.Rows.BoolOp_and (thn (h.go σ H F W A pins s I) fun v s1 ⟨x, H1, I1, r1, F1, d, L1, s1', o1, i1, q1⟩ => ?_)
  refine thn (truthy_of (P := fun t L1 => if t = true then PD X (.BoolOp .And (b :: r) pos) ρ L1 P R else P d L1) o1 i1 I1 r1 q1) fun t s2 ⟨H2, I2, F2, L2, s2', o2, q2⟩ => ?_
  cases t with
  | true =>
    have q2 : PD X (.BoolOp .And (b :: r) pos) ρ L2 P R := q2
    exact thn (q2.go σ H2 F2 W (A.go (s1'.trans s2') o2) pins s2 I2) fun u s' ⟨v', H', I', r', p⟩ => ⟨v', H', I', r', p.mono (s1'.trans s2') fun _ _ p => p⟩
  | false => exact ⟨x, H2, I2, r1, F2, d, L2, s1'.trans s2', o2, i1.mono s2', q2⟩
theorem pd_or {r : List Expr} (h : PD X a ρ L (fun d L1 => TruD d (fun t => if t = true then P d L1 else PD X (.BoolOp .Or (b :: r) pos) ρ L1 P R)) R) : PD X (.BoolOp .Or (a :: b :: r) pos) ρ L P R := .mk fun σ H F W A pins s I => by
  refine PyProof.Rows.BoolOp_or (thn (h.go σ H F W A pins s I) fun v s1 ⟨x, H1, I1, r1, F1, d, L1, s1', o1, i1, q1⟩ => ?_)
  refine thn (truthy_of (P := fun t L1 => if t = true then P d L1 else PD X (.BoolOp .Or (b :: r) pos) ρ L1 P R) o1 i1 I1 r1 q1) fun t s2 ⟨H2, I2, F2, L2, s2', o2, q2⟩ => ?_
  cases t with
  | false =>
    have q2 : PD X (.BoolOp .Or (b :: r) pos) ρ L2 P R := q2
    exact thn (q2.go σ H2 F2 W (A.go (s1'.trans s2') o2) pins s2 I2) fun u s' ⟨v', H', I', r', p⟩ => ⟨v', H', I', r', p.mono (s1'.trans s2') fun _ _ p => p⟩
  | true => exact ⟨x, H2, I2, r1, F2, d, L2, s1'.trans s2', o2, i1.mono s2', q2⟩
theorem pd_not (h : PD X a ρ L (fun d L1 => TruD d (fun t => P (.bl (!t)) L1)) R) : PD X (.UnaryOp .Not a pos) ρ L P R := .mk fun σ H F W A pins s I => by
  refine PyProof.Rows.UnaryOp_ (thn (h.go σ H F W A pins s I) fun v s1 ⟨x, H1, I1, r1, F1, d, L1, s1', o1, i1, q1⟩ => ?_)
  refine PyProof.Rows.not_of (thn (truthy_of (P := fun t L1 => P (.bl (!t)) L1) o1 i1 I1 r1 q1) fun t s2 ⟨H2, I2, F2, L2, s2', o2, q2⟩ => ?_)
  exact ⟨.bl (!t), H2, I2, rfl, F2, .bl (!t), L2, s1'.trans s2', o2, .sc _, q2⟩
theorem pd_if (h : PDT X c ρ L (fun t L1 => if t = true then PD X a ρ L1 P R else PD X b ρ L1 P R) R) : PD X (.IfExp c a b pos) ρ L P R := .mk fun σ H F W A pins s I => by
  refine wpAny_IfExp (thn (h.go σ H F W A pins s I) fun t s1 ⟨H1, I1, F1, L1, s1', o1, q1⟩ => ?_)
  cases t with
  | true =>
    have q1 : PD X a ρ L1 P R := q1
    exact thn (q1.go σ H1 F1 W (A.go s1' o1) pins s1 I1) fun u s' ⟨v', H', I', r', p⟩ => ⟨v', H', I', r', p.mono s1' fun _ _ p => p⟩
  | false =>
    have q1 : PD X b ρ L1 P R := q1
    exact thn (q1.go σ H1 F1 W (A.go s1' o1) pins s1 I1) fun u s' ⟨v', H', I', r', p⟩ => ⟨v', H', I', r', p.mono s1' fun _ _ p => p⟩

/-! ### lists and tuples that are read: known ones, owned ones -/
inductive Vw (L : Led) : D → List D → Prop
  | lst (ds : List D) : Vw L (.lst ds) ds
  | fro (ds : List D) : Vw L (.fro ds) ds
  | own {p : Addr} {ds : List D} (h : (p, OD.lst ds) ∈ L) : Vw L (.ref p) ds
inductive Sq (L : Led) : D → List D → Prop
  | lst (ds : List D) : Sq L (.lst ds) ds
  | fro (ds : List D) : Sq L (.fro ds) ds
  | tup (ds : List D) : Sq L (.tup ds) ds
  | own {p : Addr} {ds : List D} (h : (p, OD.lst ds) ∈ L) : Sq L (.ref p) ds
theorem Vw.get {K : PySem.W.Frag} {H F : Hp} {v : V} {d : D} {ds : List D} (o : Own K H F L) (i : Is K F v d) (w : Vw L d ds) : ∃ a xs, v = .ref a ∧ SqL K H a xs ∧ IsL K F xs ds := by
  cases w with
  | lst ds =>
    cases i with
    | lst h1 h2 => exact ⟨_, _, rfl, SqL.of (o.sub _ _ h1), h2⟩
  | fro ds =>
    cases i with
    | fro h1 h2 => exact ⟨_, _, rfl, same_l o.sub h1, h2⟩
  | own h =>
    cases i
    obtain ⟨_, u, h1, xs, rfl, h2⟩ := o.cell _ h
    exact ⟨_, xs, rfl, SqL.of h1, h2⟩
theorem Sq.get {K : PySem.W.Frag} {H F : Hp} {v : V} {d : D} {ds : List D} (o : Own K H F L) (i : Is K F v d) (w : Sq L d ds) : ∃ a xs, v = .ref a ∧ (SqL K H a xs ∨ SqT K H a xs) ∧ IsL K F xs ds := by
  cases w with
  | lst ds =>
    cases i with
    | lst h1 h2 => exact ⟨_, _, rfl, .inl (SqL.of (o.sub _ _ h1)), h2⟩
  | fro ds =>
    cases i with
    | fro h1 h2 => exact ⟨_, _, rfl, .inl (same_l o.sub h1), h2⟩
  | tup ds =>
    cases i with
    | tup h1 h2 => exact ⟨_, _, rfl, .inr (same_t o.sub h1), h2⟩
  | own h =>
    cases i
    obtain ⟨_, u, h1, xs, rfl, h2⟩ := o.cell _ h
    exact ⟨_, xs, rfl, .inl (SqL.of h1), h2⟩

/-! ### subscripts -/
def IxD (X : Cx) (da db : D) (L : Led) (P : PK1) : Prop := ∀ (value slice : Expr) (pins : List (Addr × Obj)) (s : Shared) (σ : St) (H F : Hp) (x y : V) (v u : Value), Own X.K H F L → Is X.K F x da → Is X.K F y db → Inv X pins σ H s → RelV x v → RelV y u →
  subscripted slice false v u = operate [v, u] (getItem v u) → wpAny (model X.prog X.w) X.A (PyProof.Rows.subscriptTail value slice v u) (EP X pins σ (upV X.K F P)) X.xe s
theorem ixd_of {r : R2} {da db : D} (ho : IxR X r) (h : ∀ H F x y, Own X.K H F L → Is X.K F x da → Is X.K F y db → r x y H (upV X.K F P)) : IxD X da db L P :=
  fun value slice pins s σ H F x y v u o ix iy I rx ry hs => ho value slice pins s σ H x y v u _ I rx ry (h H F x y o ix iy) hs
theorem pd_ix (h : PD X a ρ L (fun da L1 => PD X b ρ L1 (fun db L2 => IxD X da db L2 P) R) R) (hs : PlainIx b := by exact fun _ _ => rfl) : PD X (.Subscript a b pos) ρ L P R := .mk fun σ H F W A pins s I => by
  refine PyProof.Rows.Subscript_ (binT (R := fun x y H2 => ∀ (pins : List (Addr × Obj)) s2 v u, Inv X pins σ H2 s2 → RelV x v → RelV y u → wpAny (model X.prog X.w) X.A (PyProof.Rows.subscriptTail a b v u) (EP X pins σ (upV X.K F P)) X.xe s2) pe_w pe_w I ?_ fun v u s2 x y H2 I2 rx ry q => q pins s2 v u I2 rx ry)
  refine h.step A fun x H1 F1 da L1 s1 A1 ix q1 => q1.step A1 fun y H2 F2 db L2 s2 A2 iy q2 => fun pins s v u I rx ry => ?_
  exact thn (q2 a b pins s σ H2 F2 x y v u A2.own (ix.mono s2) iy I rx ry (hs _ _)) fun z s' ⟨v', H', I', r', p'⟩ => ⟨v', H', I', r', p'.mono (s1.trans s2) fun _ _ p => p⟩
theorem is_atI {K : PySem.W.Frag} {F : Hp} {xs : List V} {ds : List D} {i : Int} {d : D} (h : IsL K F xs ds) (hd : atI ds i = some d) : ∃ v, atI xs i = some v ∧ Is K F v d := by
  unfold atI at hd ⊢
  rw [h.length]
  cases e : ixN ds.length i with
  | none => rw [e] at hd; cases hd
  | some j =>
    rw [e] at hd
    obtain ⟨v, h1, h2⟩ := h.get hd
    exact ⟨v, h1, h2⟩
theorem ixd_seq {da : D} {ds : List D} {i : Int} {d : D} (hv : Sq L da ds) (hi : atI ds i = some d) (h : P d L) : IxD X da (.int i) L P := ixd_of (ix_list.or ix_tup) fun H F x y o ix iy => by
  cases iy
  obtain ⟨a, xs, rfl, hq, hx⟩ := hv.get o ix
  obtain ⟨v, h1, h2⟩ := is_atI hx hi
  rcases hq with hq | hq
  · exact .inl ⟨a, xs, i, v, rfl, rfl, hq, h1, upV.here o h2 h⟩
  · exact .inr ⟨a, xs, i, v, rfl, rfl, hq, h1, upV.here o h2 h⟩
theorem ixd_str {z : Str} {i : Int} {c : Nat} (hl : z.length ≤ sizeLine) (hi : atI z.cps.toList i = some c) (h : P (.str ⟨#[c]⟩) L) : IxD X (.str z) (.int i) L P := ixd_of ix_str fun H F x y o ix iy => by
  cases iy
  cases ix
  exact ⟨z, i, c, rfl, rfl, hl, hi, upV.here o (.sc _) h⟩

/-! ### slices -/
def PDO (X : Cx) (e : Option Expr) (ρ : Rho) (L : Led) (P : Option Int → Led → Prop) (R : RK1) : Prop := match e with
  | none => P none L
  | some e => PD X e ρ L (fun d L1 => ∃ i, d = .int i ∧ P (some i) L1) R
def wO (X : Cx) (e : Option Expr) : TO := fun σ H Q => ∀ (pins : List (Addr × Obj)) (s : Shared), Inv X pins σ H s → wpAny (model X.prog X.w) X.A (evalPart e X.env) (fun u s' => ∃ o H', Inv X pins σ H' s' ∧ IsPart u o ∧ Q o H') X.xe s
theorem po_w {e : Option Expr} : PO X e (wO X e) := ⟨fun pins s σ H Q I h => h pins s I⟩
theorem PDO.step {e : Option Expr} {P : Option Int → Led → Prop} {Q : Option Int → Hp → Prop} {σ : St} {H F : Hp} {W : WX} (h : PDO X e ρ L P R) (A : At X ρ L R σ H F W) (q : ∀ o H' F' L', Same F F' → At X ρ L' R σ H' F' W → P o L' → Q o H') : wO X e σ H Q := by
  cases e with
  | none => exact fun pins s I => po_none.run pins s σ H _ I (q none H F L (Same.refl _) A h)
  | some e =>
    have h : PD X e ρ L (fun d L1 => ∃ i, d = .int i ∧ P (some i) L1) R := h
    refine fun pins s I => (po_some pe_w).run pins s σ H _ I (h.step A fun v H' F' d L' s' A' i ⟨j, ed, p⟩ => ?_)
    subst ed
    cases i
    exact ⟨j, rfl, q _ _ _ _ s' A' p⟩
def SlD (X : Cx) (da : D) (lo hi : Option Int) (L : Led) (P : PK1) : Prop := ∃ r, SlR X r ∧ ∀ H F x, Own X.K H F L → Is X.K F x da → r x lo hi H (upV X.K F P)
theorem pd_slice {lo hi : Option Expr} {p2 : Pos} (h : PD X e ρ L (fun d L1 => PDO X lo ρ L1 (fun l L2 => PDO X hi ρ L2 (fun u L3 => SlD X d l u L3 P) R) R) R) : PD X (.Subscript e (.Slice lo hi none p2) pos) ρ L P R := .mk fun σ H F W A pins s I => by
  have key : ∀ (x : V) (l u : Option Int) (H3 : Hp), (∃ r, SlR X r ∧ r x l u H3 (upV X.K F P)) → True := fun _ _ _ _ _ => trivial
  -- one rule for all slices: the reading asks for some rule
  have hr : SlR X (fun x l u H3 Q => ∃ r, SlR X r ∧ r x l u H3 Q) := fun pins s σ H x v vl vu lo hi sl Q I rx hs pl pu ⟨r, hr, q⟩ => hr pins s σ H x v vl vu lo hi sl Q I rx hs pl pu q
  refine (L2.pe_slice (p2 := p2) (pos := pos) hr pe_w po_w po_w).run pins s σ H _ I ?_
  refine h.step A fun x H1 F1 d L1 s1 A1 ix q1 => q1.step A1 fun l H2 F2 L2 s2 A2 q2 => q2.step A2 fun u H3 F3 L3 s3 A3 q3 => ?_
  obtain ⟨r, hr, q⟩ := q3
  have q := q H3 F3 x A3.own ((ix.mono s2).mono s3)
  refine ⟨fun x l u H3 Q => ∃ Q', r x l u H3 Q' ∧ ∀ v H', Q' v H' → Q v H', ?_, _, q, fun v H' p => p.mono ((s1.trans s2).trans s3) fun _ _ p => p⟩
  intro pins s σ H x v vl vu lo hi sl Q I rx hs pl pu ⟨Q', hq, hm⟩
  obtain ⟨T, id, h1, h2, h3⟩ := hr pins s σ H x v vl vu lo hi sl Q' I rx hs pl pu hq
  exact ⟨T, id, h1, h2, thn h3 fun z s' ⟨v', H', I', r', p'⟩ => ⟨v', H', I', r', hm _ _ p'⟩⟩
def cutD (ds : List D) (lo hi : Option Int) : List D := (ds.drop (HT.sIx ds.length 0 lo)).take (HT.sIx ds.length ds.length hi - HT.sIx ds.length 0 lo)
theorem is_cut {K : PySem.W.Frag} {F : Hp} {xs : List V} {ds : List D} (h : IsL K F xs ds) (lo hi : Option Int) : IsL K F (cutV xs lo hi) (cutD ds lo hi) := by
  unfold cutV cutD
  rw [h.length]
  exact (h.drop _).take _
theorem sld_list {da : D} {ds : List D} {lo hi : Option Int} (hv : Vw L da ds) (h : P (.lst (cutD ds lo hi)) L) : SlD X da lo hi L P := ⟨_, sl_list, fun H F x o ix => by
  obtain ⟨a, xs, rfl, hq, hx⟩ := hv.get o ix
  refine ⟨a, xs, rfl, hq, fun p hp => ?_⟩
  obtain ⟨s2, o2⟩ := o.froze (o := .lst (cutV xs lo hi)) hp
  exact ⟨_, _, L, s2, o2, .lst upd_same ((is_cut hx lo hi).mono s2), h⟩⟩

/-! ### calls of built-ins by name -/
def CallD (X : Cx) (f : Value) (ds : List D) (L : Led) (P : PK1) : Prop := ∀ (pins : List (Addr × Obj)) (s : Shared) (σ : St) (H F : Hp) (xs : List V) (us : List Value), Own X.K H F L → IsL X.K F xs ds → Inv X pins σ H s → Vals xs us →
  wpAny (model X.prog X.w) X.A (call f us) (EP X pins σ (upV X.K F P)) X.xe s
theorem cd_of {f : Value} {r : List V → Hp → VK → Prop} {ds : List D} (ho : CallR X f r) (h : ∀ H F xs, Own X.K H F L → IsL X.K F xs ds → r xs H (upV X.K F P)) : CallD X f ds L P :=
  fun pins s σ H F xs us o ix I r => ho pins s σ H xs us _ I r (h H F xs o ix)
/-- the weakest reading of a call -/
def wC (X : Cx) (f : Value) : List V → Hp → VK → Prop := fun xs H Q => ∀ (pins : List (Addr × Obj)) (s : Shared) (σ : St) (us : List Value), Inv X pins σ H s → Vals xs us → wpAny (model X.prog X.w) X.A (call f us) (EP X pins σ Q) X.xe s
theorem callR_w {f : Value} : CallR X f (wC X f) := fun pins s σ H xs us Q I r h => h pins s σ us I r
theorem CallD.w {f : Value} {ds : List D} {Q : VK} {H F : Hp} {xs : List V} (h : CallD X f ds L P) (o : Own X.K H F L) (ix : IsL X.K F xs ds) (q : ∀ v H', upV X.K F P v H' → Q v H') : wC X f xs H Q := fun pins s σ us I r =>
  thn (h pins s σ H F xs us o ix I r) fun z s' ⟨v', H', I', r', p'⟩ => ⟨v', H', I', r', q _ _ p'⟩
theorem pd_callB {x : Str} {id : String} {p : Pos} (hm : X.mg x = none) (hv : bootBuiltins x = some (.builtin id)) (h : PDA X (e :: es) ρ L (fun ds L1 => CallD X (.builtin id) ds L1 P) R) (hg : Gl X x := by rfl) (hn : x ≠ "__name__" := by decide) (hdb : (x == ("__debug__" : Str)) = false := by decide)
    (he : starEach (e :: es) X.env = (false, eval e X.env) :: starEach es X.env := by rfl) (hpl : (backTo pos (starEach es X.env)).any (·.1) = false := by rfl) : PD X (.Call (.Name x p) (e :: es) [] pos) ρ L P R :=
  pd_of (pe_callB callR_w hg hm hv pa_w hn hdb he hpl) fun σ H F W A => h.step A fun xs H1 F1 ds L1 s1 A1 ix q => q.w A1.own ix fun v H' p => p.mono s1 fun _ _ p => p
theorem pd_callTy {x : Str} {T : String} {p : Pos} (hm : X.mg x = none) (hv : bootBuiltins x = some (.type T)) (h : PDA X (e :: es) ρ L (fun ds L1 => CallD X (.type T) ds L1 P) R) (hg : Gl X x := by rfl) (hn : x ≠ "__name__" := by decide) (hdb : (x == ("__debug__" : Str)) = false := by decide)
    (he : starEach (e :: es) X.env = (false, eval e X.env) :: starEach es X.env := by rfl) (hpl : (backTo pos (starEach es X.env)).any (·.1) = false := by rfl) : PD X (.Call (.Name x p) (e :: es) [] pos) ρ L P R :=
  pd_of (pe_callTy callR_w hg hm hv pa_w hn hdb he hpl) fun σ H F W A => h.step A fun xs H1 F1 ds L1 s1 A1 ix q => q.w A1.own ix fun v H' p => p.mono s1 fun _ _ p => p

theorem isl1 {K : PySem.W.Frag} {F : Hp} {xs : List V} {d : D} (h : IsL K F xs [d]) : ∃ v, xs = [v] ∧ Is K F v d := by
  cases h with
  | cons a b => cases b; exact ⟨_, rfl, a⟩
theorem isl2 {K : PySem.W.Frag} {F : Hp} {xs : List V} {d d' : D} (h : IsL K F xs [d, d']) : ∃ v v', xs = [v, v'] ∧ Is K F v d ∧ Is K F v' d' := by
  cases h with
  | cons a b => obtain ⟨w, rfl, r⟩ := isl1 b; exact ⟨_, _, rfl, a, r⟩
/-- len -/
theorem cd_len {d : D} {ds : List D} (hv : Sq L d ds) (h : P (.int ds.length) L) : CallD X (.builtin "len") [d] L P := cd_of call_len fun H F xs o ix => by
  obtain ⟨v, rfl, i⟩ := isl1 ix
  obtain ⟨a, ys, rfl, hq, hx⟩ := hv.get o i
  refine ⟨.ref a, ys.length, rfl, ?_, by rw [hx.length]; exact upV.here o (.sc _) h⟩
  rcases hq with hq | hq
  · exact .inl ⟨ys, hq, rfl⟩
  · exact .inr ⟨ys, hq, rfl⟩
theorem cd_lenS {x : Str} (hl : x.length ≤ sizeLine) (h : P (.int x.length) L) : CallD X (.builtin "len") [.str x] L P := cd_of call_len fun H F xs o ix => by
  obtain ⟨v, rfl, i⟩ := isl1 ix
  cases i
  exact ⟨.str x, x.length, rfl, ⟨hl, rfl⟩, upV.here o (.sc _) h⟩
/-- tuple(x) -/
theorem cd_tuple {d : D} {ds : List D} (hv : Sq L d ds) (h : P (.tup ds) L) : CallD X (.type "tuple") [d] L P := cd_of call_tuple_of fun H F xs o ix => by
  obtain ⟨v, rfl, i⟩ := isl1 ix
  have nl : ∀ {a ys}, SqL X.K H a ys → IsL X.K F ys ds → ∀ l, H l = none → upV X.K F P (.ref l) (upd H l (.tup ys)) := fun {a ys} hq hx l hl => by
    obtain ⟨s2, o2⟩ := o.froze (o := .tup ys) hl
    exact ⟨_, _, L, s2, o2, .tup (SqT.of upd_same) (hx.mono s2), h⟩
  cases hv with
  | lst ds =>
    cases i with
    | lst h1 h2 => exact ⟨_, _, rfl, .inl ⟨SqL.of (o.sub _ _ h1), nl (SqL.of (o.sub _ _ h1)) h2⟩⟩
  | fro ds =>
    cases i with
    | fro h1 h2 => exact ⟨_, _, rfl, .inl ⟨same_l o.sub h1, nl (same_l o.sub h1) h2⟩⟩
  | tup ds =>
    cases i with
    | tup h1 h2 => exact ⟨_, _, rfl, .inr ⟨same_t o.sub h1, upV.here o (.tup h1 h2) h⟩⟩
  | own hm =>
    cases i
    obtain ⟨_, u, h1, ys, rfl, h2⟩ := o.cell _ hm
    exact ⟨_, ys, rfl, .inl ⟨SqL.of h1, nl (SqL.of h1) h2⟩⟩
/-- list(x): owned -/
theorem cd_list {d : D} {ds : List D} (hv : Sq L d ds) (h : ∀ p, P (.ref p) ((p, .lst ds) :: L)) : CallD X (.type "list") [d] L P := cd_of call_list_of fun H F xs o ix => by
  obtain ⟨v, rfl, i⟩ := isl1 ix
  obtain ⟨a, ys, rfl, hq, hx⟩ := hv.get o i
  exact ⟨a, ys, rfl, hq, fun l hl => ⟨F, _, _, Same.refl _, o.push hl (x := .lst ds) ⟨ys, rfl, hx⟩, .sc _, h l⟩⟩
theorem cd_listF {d : D} {ds : List D} (hv : Sq L d ds) (h : P (.lst ds) L) : CallD X (.type "list") [d] L P := cd_of call_list_of fun H F xs o ix => by
  obtain ⟨v, rfl, i⟩ := isl1 ix
  obtain ⟨a, ys, rfl, hq, hx⟩ := hv.get o i
  refine ⟨a, ys, rfl, hq, fun l hl => ?_⟩
  obtain ⟨s2, o2⟩ := o.froze (o := .lst ys) hl
  exact ⟨_, _, L, s2, o2, .lst upd_same (hx.mono s2), h⟩
theorem cd_int {i : Int} (h : P (.int i) L) : CallD X (.type "int") [.int i] L P := cd_of call_int1 fun H F xs o ix => by
  obtain ⟨v, rfl, j⟩ := isl1 ix
  cases j
  exact .inl ⟨i, rfl, upV.here o (.sc _) h⟩
theorem cd_intB {b : Bool} (h : P (.int (if b then 1 else 0)) L) : CallD X (.type "int") [.bl b] L P := cd_of call_int1 fun H F xs o ix => by
  obtain ⟨v, rfl, j⟩ := isl1 ix
  cases j
  exact .inr ⟨b, rfl, upV.here o (.sc _) h⟩
theorem cd_boolB {b : Bool} (h : P (.bl b) L) : CallD X (.type "bool") [.bl b] L P := cd_of call_bool1 fun H F xs o ix => by
  obtain ⟨v, rfl, j⟩ := isl1 ix
  cases j
  exact .inr ⟨b, rfl, upV.here o (.sc _) h⟩
theorem cd_abs {i : Int} (h : P (.int (if i < 0 then -i else i)) L) : CallD X (.builtin "abs") [.int i] L P := cd_of call_abs fun H F xs o ix => by
  obtain ⟨v, rfl, j⟩ := isl1 ix
  cases j
  exact ⟨i, rfl, upV.here o (.sc _) h⟩
theorem cd_max2 (hc : X.calm = true) {i j : Int} (h : P (.int (if j > i then j else i)) L) : CallD X (.builtin "max") [.int i, .int j] L P := cd_of (call_max2 hc) fun H F xs o ix => by
  obtain ⟨v, w, rfl, a, b⟩ := isl2 ix
  cases a
  cases b
  exact ⟨i, j, rfl, upV.here o (.sc _) h⟩
theorem cd_min2 (hc : X.calm = true) {i j : Int} (h : P (.int (if j < i then j else i)) L) : CallD X (.builtin "min") [.int i, .int j] L P := cd_of (call_min2 hc) fun H F xs o ix => by
  obtain ⟨v, w, rfl, a, b⟩ := isl2 ix
  cases a
  cases b
  exact ⟨i, j, rfl, upV.here o (.sc _) h⟩
/-- sum of ints -/
theorem cd_sum (hc : X.calm = true) {d : D} {ns : List Int} (hv : Vw L d (ns.map D.int)) (h : P (.int ns.sum) L) : CallD X (.builtin "sum") [d] L P := cd_of (cr_sum hc) fun H F xs o ix => by
  obtain ⟨v, rfl, i⟩ := isl1 ix
  obtain ⟨a, ys, rfl, hq, hx⟩ := hv.get o i
  cases hx.ints_inv
  exact ⟨a, ns, rfl, hq, upV.here o (.sc _) h⟩
theorem IsL.bls_inv {K : PySem.W.Frag} {F : Hp} : ∀ {vs : List V} {ns : List Bool}, IsL K F vs (ns.map D.bl) → vs = ns.map V.bl
  | _, [], h => by cases h; rfl
  | _, w :: r, h => by
    cases h with
    | cons a b =>
      cases a
      rw [IsL.bls_inv b]
      rfl
theorem cd_all (hc : X.calm = true) {d : D} {bs : List Bool} (hv : Vw L d (bs.map D.bl)) (h : P (.bl (bs.all id)) L) : CallD X (.builtin "all") [d] L P := cd_of (cr_all hc) fun H F xs o ix => by
  obtain ⟨v, rfl, i⟩ := isl1 ix
  obtain ⟨a, ys, rfl, hq, hx⟩ := hv.get o i
  cases hx.bls_inv
  exact ⟨a, bs, rfl, hq, upV.here o (.sc _) h⟩
theorem cd_any (hc : X.calm = true) {d : D} {bs : List Bool} (hv : Vw L d (bs.map D.bl)) (h : P (.bl (bs.any id)) L) : CallD X (.builtin "any") [d] L P := cd_of (cr_any hc) fun H F xs o ix => by
  obtain ⟨v, rfl, i⟩ := isl1 ix
  obtain ⟨a, ys, rfl, hq, hx⟩ := hv.get o i
  cases hx.bls_inv
  exact ⟨a, bs, rfl, hq, upV.here o (.sc _) h⟩

/-! ### isinstance -/
/-- the built-in type of a datum -/
def D.tag : D → Option String
  | .sc .non => some "NoneType"
  | .sc (.bl _) => some "bool"
  | .sc (.int _) => some "int"
  | .sc (.str _) => some "str"
  | .lst _ => some "list"
  | .fro _ => some "list"
  | .tup _ => some "tuple"
  | _ => none
theorem tyx_of {K : PySem.W.Frag} {H F : Hp} {v : V} {d : D} {n : String} (o : Own K H F L) (i : Is K F v d) (h : d.tag = some n) : TyX K H v (.type n) := by
  cases i with
  | sc v =>
    cases v with
    | non => cases h; exact .base .non
    | bl b => cases h; exact .base (.bl b)
    | int b => cases h; exact .base (.int b)
    | str b => cases h; exact .base (.str b)
    | _ => cases h
  | lst hq hx =>
    cases h
    exact .base (.lst (o.sub _ _ hq))
  | fro hq hx =>
    cases h
    rcases same_l o.sub hq with (h | ⟨ob, h⟩) | ⟨ob, its, m, hk, hc, _⟩
    · exact .base (.lst h)
    · exact .base (.frz h)
    · exact .kList hk hc
  | tup hq hx =>
    cases h
    rcases same_t o.sub hq with (h | ⟨ob, h⟩) | ⟨ob, its, m, hk, hc, _⟩
    · exact .base (.tup h)
    · exact .fTuple h
    · exact .kTuple hk hc
  | tuq _ _ _ => cases h
  | ins _ _ => cases h
  | exc _ _ => cases h
theorem cd_isi {d : D} {n m : String} {b : Bool} (h1 : d.tag = some n) (h2 : kitB n m = some b) (h : P (.bl b) L) : CallD X (.builtin "isinstance") [d, .sc (.ty m)] L P := cd_of call_isi fun H F xs o ix => by
  obtain ⟨v, w, rfl, i, j⟩ := isl2 ix
  cases j
  exact ⟨v, .ty m, _, _, b, rfl, .ty m, tyx_of o i h1, kit_ty h2, upV.here o (.sc _) h⟩
end
end D2
end
section
set_option Elab.async false
set_option linter.all false
set_option maxRecDepth 100000
set_option maxHeartbeats 2000000
namespace D2
open PySem PySem.Spec L2
section
variable {X : Cx} {e a b c o : Expr} {es : List Expr} {st : Stmt} {sts rest : List Stmt} {ρ : Rho} {L : Led} {P : PK1} {R : RK1} {E : DE} {pos : Pos}

/-! ### methods of built-in types -/
def MthD (X : Cx) (id : String) (d : D) (ds : List D) (L : Led) (P : PK1) : Prop := ∀ (pins : List (Addr × Obj)) (s : Shared) (σ : St) (H F : Hp) (x : V) (xs : List V) (v : Value) (us : List Value), Own X.K H F L → Is X.K F x d → IsL X.K F xs ds → Inv X pins σ H s → RelV x v → Vals xs us →
  wpAny (model X.prog X.w) X.A (call (.builtin id) (v :: us)) (EP X pins σ (upV X.K F P)) X.xe s
theorem md_of {id : String} {r : V → List V → Hp → VK → Prop} {d : D} {ds : List D} (ho : MtR X id r) (h : ∀ H F x xs, Own X.K H F L → Is X.K F x d → IsL X.K F xs ds → r x xs H (upV X.K F P)) : MthD X id d ds L P :=
  fun pins s σ H F x xs v us o ix ixs I rx r => ho pins s σ H x xs v us _ I rx r (h H F x xs o ix ixs)
def wM (X : Cx) (id : String) : V → List V → Hp → VK → Prop := fun x xs H Q => ∀ (pins : List (Addr × Obj)) (s : Shared) (σ : St) (v : Value) (us : List Value), Inv X pins σ H s → RelV x v → Vals xs us → wpAny (model X.prog X.w) X.A (call (.builtin id) (v :: us)) (EP X pins σ Q) X.xe s
theorem mtR_w {id : String} : MtR X id (wM X id) := fun pins s σ H x xs v us Q I rx r h => h pins s σ v us I rx r
/-- whose methods a datum has -/
def TyM (L : Led) (T : String) : D → Prop
  | .sc (.str _) => T = "str"
  | .lst _ => T = "list"
  | .fro _ => T = "list"
  | .sc (.ref p) => T = "list" ∧ ∃ ds, (p, OD.lst ds) ∈ L
  | _ => False
theorem tyV_of {K : PySem.W.Frag} {H F : Hp} {v : V} {d : D} {T : String} (o : Own K H F L) (i : Is K F v d) (h : TyM L T d) : tyV K T v H := by
  cases i with
  | sc v =>
    cases v with
    | str x => exact h
    | ref p =>
      obtain ⟨h1, ds, h2⟩ := h
      obtain ⟨_, u, h3, xs, rfl, h4⟩ := o.cell _ h2
      exact .inl ⟨h1, xs, SqL.of h3⟩
    | _ => exact h.elim
  | lst h1 h2 => exact .inl ⟨h, _, SqL.of (o.sub _ _ h1)⟩
  | fro h1 h2 => exact .inl ⟨h, _, same_l o.sub h1⟩
  | tup _ _ => exact h.elim
  | tuq _ _ _ => exact h.elim
  | ins _ _ => exact h.elim
  | exc _ _ => exact h.elim
theorem pd_bm {name : Str} {apos cpos : Pos} {T id : String} (pa : PlainAttrs T) (slot : Slot T name id) (hty : typeOf (.builtin id) = pure (.type "method_descriptor")) (h : PD X o ρ L (fun d L1 => TyM L1 T d ∧ PDA X (e :: es) ρ L1 (fun ds L2 => MthD X id d ds L2 P) R) R)
    (hbase : attributeBase o name X.env (eval o X.env) = eval o X.env := by rfl)
    (hfew : ((backTo cpos (starEach (e :: es) X.env)).all (fun x => !x.1) && (backToKw cpos (keywordEach [] X.env)).all (fun x => x.1.isSome)
      && decide ((e :: es).length + ([] : List Keyword).length + (if ([] : List Keyword).isEmpty then 0 else 1) < 30)) = true := by rfl)
    (hline : (apos.endLine == cpos.line) = true := by rfl) (hs : starEach (e :: es) X.env = (false, eval e X.env) :: starEach es X.env := by rfl) (hplain : (backTo cpos (starEach es X.env)).any (·.1) = false := by rfl) :
    PD X (.Call (.Attribute o name apos) (e :: es) [] cpos) ρ L P R :=
  pd_of (pe_bm pa slot hty mtR_w pe_w pa_w hbase hfew hline hs hplain) fun σ H F W A => h.step A fun v H1 F1 d L1 s1 A1 i1 ⟨ty, q1⟩ => ⟨tyV_of A1.own i1 ty, q1.step A1 fun vs H2 F2 ds L2 s2 A2 i2 q2 => fun pins s σ' u us I rx r =>
    thn (q2 pins s σ' H2 F2 v vs u us A2.own (i1.mono s2) i2 I rx r) fun z s' ⟨v', H', I', r', p'⟩ => ⟨v', H', I', r', p'.mono (s1.trans s2) fun _ _ p => p⟩⟩
theorem pd_bm0 {name : Str} {apos cpos : Pos} {T id : String} (pa : PlainAttrs T) (slot : Slot T name id) (hty : typeOf (.builtin id) = pure (.type "method_descriptor")) (h : PD X o ρ L (fun d L1 => TyM L1 T d ∧ MthD X id d [] L1 P) R)
    (hbase : attributeBase o name X.env (eval o X.env) = eval o X.env := by rfl) (hline : (apos.endLine == cpos.line) = true := by rfl) : PD X (.Call (.Attribute o name apos) [] [] cpos) ρ L P R :=
  pd_of (pe_bm0 pa slot hty mtR_w pe_w hbase hline) fun σ H F W A => h.step A fun v H1 F1 d L1 s1 A1 i1 ⟨ty, q1⟩ => ⟨tyV_of A1.own i1 ty, fun pins s σ' u us I rx r =>
    thn (q1 pins s σ' H1 F1 v [] u us A1.own i1 .nil I rx r) fun z s' ⟨v', H', I', r', p'⟩ => ⟨v', H', I', r', p'.mono s1 fun _ _ p => p⟩⟩
theorem md_append {p : Addr} {ds : List D} {d : D} {L' : Led} (f : Foc p (.lst ds) (.lst (ds ++ [d])) L L') (hl : ds.length < sizeLine) (h : P .non L') : MthD X "list.append" (.ref p) [d] L P := md_of mt_append fun H F x xs o ix ixs => by
  cases ix
  obtain ⟨v, rfl, iv⟩ := isl1 ixs
  obtain ⟨_, u, h1, ys, rfl, h2⟩ := o.cell _ f.mem
  exact ⟨p, ys, v, rfl, rfl, h1, by rw [h2.length]; exact hl, F, .non, L', Same.refl _, o.write f ⟨_, rfl, h2.append (.cons iv .nil)⟩, .sc _, h⟩
theorem md_extend {p : Addr} {ds es : List D} {L' : Led} (f : Foc p (.lst ds) (.lst (ds ++ es)) L L') (hl : ds.length + es.length ≤ sizeLine) (h : P .non L') : MthD X "list.extend" (.ref p) [.lst es] L P := md_of mt_extend fun H F x xs o ix ixs => by
  cases ix
  obtain ⟨v, rfl, iv⟩ := isl1 ixs
  obtain ⟨_, u, h1, ys, rfl, h2⟩ := o.cell _ f.mem
  cases iv with
  | lst g1 g2 => exact ⟨p, _, ys, _, rfl, rfl, h1, o.sub _ _ g1, by rw [h2.length, g2.length]; exact hl, F, .non, L', Same.refl _, o.write f ⟨_, rfl, h2.append g2⟩, .sc _, h⟩
theorem md_insert {p : Addr} {ds : List D} {i : Int} {d : D} {L' : Led} (f : Foc p (.lst ds) (.lst (ds.take i.toNat ++ [d] ++ ds.drop i.toNat)) L L') (hl : ds.length < sizeLine) (h0 : 0 ≤ i) (h1 : i < 2 ^ 63) (h : P .non L') : MthD X "list.insert" (.ref p) [.int i, d] L P := md_of mt_insert fun H F x xs o ix ixs => by
  cases ix
  obtain ⟨v, w, rfl, iv, iw⟩ := isl2 ixs
  cases iv
  obtain ⟨_, u, g1, ys, rfl, h2⟩ := o.cell _ f.mem
  exact ⟨p, ys, i, w, rfl, rfl, g1, by rw [h2.length]; exact hl, h0, h1, F, .non, L', Same.refl _, o.write f ⟨_, rfl, ((h2.take _).append (.cons iw .nil)).append (h2.drop _)⟩, .sc _, h⟩

/-! ### targets -/
def wG (X : Cx) (tg : Expr) : TG := fun v σ H Q => ∀ (pins : List (Addr × Obj)) (s : Shared) (u : Value), Inv X pins σ H s → RelV v u → wpAny (model X.prog X.w) X.A (assign tg X.env u) (fun _ s' => ∃ σ' H', Inv X pins σ' H' s' ∧ Q σ' H') X.xe s
def wGs (X : Cx) (ts : List Expr) : TGs := fun vs σ H Q => ∀ (pins : List (Addr × Obj)) (s : Shared) (us : List Value), Inv X pins σ H s → Vals vs us → wpAny (model X.prog X.w) X.A (assignInOrder ((assignEach ts X.env).map (·.2)) us) (fun _ s' => ∃ σ' H', Inv X pins σ' H' s' ∧ Q σ' H') X.xe s
theorem pg_w {tg : Expr} : PG X tg (wG X tg) := ⟨fun pins s σ H v u Q I r h => h pins s u I r⟩
theorem pgs_w {ts : List Expr} : PGs X ts (wGs X ts) := ⟨fun pins s σ H v u Q I r h => h pins s u I r⟩
def PGD (X : Cx) (tg : Expr) (d : D) (ρ : Rho) (L : Led) (N : Rho → Led → Prop) : Prop := ∀ σ H F v, EnvOk X.K F σ ρ → Own X.K H F L → Is X.K F v d → wG X tg v σ H (upS X.K F N)
def PGDs (X : Cx) (ts : List Expr) (ds : List D) (ρ : Rho) (L : Led) (N : Rho → Led → Prop) : Prop := ∀ σ H F vs, EnvOk X.K F σ ρ → Own X.K H F L → IsL X.K F vs ds → wGs X ts vs σ H (upS X.K F N)
theorem pgd_name {i : Nat} {x : Str} {d : D} {N : Rho → Led → Prop} (hN : X.N.Nodup) (hi : X.N[i]? = some x) (h : N (ρ.set i (some d)) L) (hx : Loc X.env.scope x := by first | exact Or.inl rfl | exact Or.inr rfl) (hf : X.fn x = true ∨ X.env.scope.names.lookup x = some .local := by first | exact .inl rfl | exact .inr rfl) : PGD X (.Name x pos) d ρ L N :=
  fun σ H F v ev ow iv pins s u I r => (pg_name (pos := pos) hN hi hx hf).run pins s σ H v u _ I r ⟨F, _, L, Same.refl _, ow, ev.set iv i, h⟩
theorem pgds_nil {N : Rho → Led → Prop} (h : N ρ L) : PGDs X [] [] ρ L N := fun σ H F vs ev ow iv pins s us I r => by
  cases iv
  exact pgs_nil.run pins s σ H [] us _ I r ⟨rfl, F, ρ, L, Same.refl _, ow, ev, h⟩
theorem pgds_cons {t : Expr} {ts : List Expr} {d : D} {ds : List D} {N : Rho → Led → Prop} (h : PGD X t d ρ L (fun ρ1 L1 => PGDs X ts ds ρ1 L1 N))
    (hs : (assignEach (t :: ts) X.env).map (·.2) = assign t X.env :: (assignEach ts X.env).map (·.2) := by rfl) : PGDs X (t :: ts) (d :: ds) ρ L N := fun σ H F vs ev ow iv pins s us I r => by
  cases iv with
  | @cons v vr _ _ a b =>
    refine (pgs_cons (t := wG X t) (u := wGs X ts) pg_w pgs_w hs).run pins s σ H _ us _ I r ⟨v, vr, rfl, fun pins s u I r => ?_⟩
    exact thn (h σ H F v ev ow a pins s u I r) fun _ s' ⟨σ', H', I', F', ρ', L', s1, o1, e1, q⟩ => ⟨σ', H', I', fun pins s us I r => thn (q σ' H' F' vr e1 o1 (b.mono s1) pins s us I r) fun _ s'' ⟨σ'', H'', I'', p⟩ => ⟨σ'', H'', I'', p.mono s1 fun _ _ p => p⟩⟩
theorem pgd_tup {ts : List Expr} {k : Nat} {ds : List D} {N : Rho → Led → Prop} (hc : X.calm = true) (h : PGDs X ts ds ρ L N) (hl : ds.length = (assignEach ts X.env).length := by rfl) (hst : (assignEach ts X.env).findIdx? (·.1) = none := by rfl) : PGD X (.Tuple ts k pos) (.tup ds) ρ L N := fun σ H F v ev ow iv pins s u I r => by
  cases iv with
  | tup hq hx => exact (pg_tup (n := (assignEach ts X.env).length) (k := k) (pos := pos) hc pgs_w rfl hst).run pins s σ H _ u _ I r ⟨_, _, rfl, same_t ow.sub hq, by rw [hx.length]; exact hl, fun pins s us I r => h σ H F _ ev ow hx pins s us I r⟩

/-! ### statements -/
theorem pdb_nil (h : E.nx ρ L) : PDB X [] E ρ L := .mk fun σ H F W A pins s I => pss_nil.run pins s σ H _ I ⟨F, ρ, L, Same.refl _, A.own, A.env, h⟩
theorem up_le {K : PySem.W.Frag} {F F' : Hp} {E E' : DE} (s : Same F F') (h1 : ∀ ρ L, E.nx ρ L → E'.nx ρ L) (h2 : ∀ d L, E.rt d L → E'.rt d L) (h3 : ∀ ρ L, E.bk ρ L → E'.bk ρ L) (h4 : ∀ ρ L, E.ct ρ L → E'.ct ρ L) : EndsLe (E.up K F') (E'.up K F) :=
  ⟨fun _ _ p => p.mono s h1, fun _ _ p => p.mono s h2, fun _ _ p => p.mono s h3, fun _ _ p => p.mono s h4⟩
theorem pdb_cons (h : PDS X st { E with nx := fun ρ1 L1 => PDB X rest E ρ1 L1 } ρ L) : PDB X (st :: rest) E ρ L := .mk fun σ H F W A pins s I => by
  refine (pss_cons (t := wS X st) (u := wSs X rest) ps_w pss_w).run pins s σ H _ I ?_
  have A' : AtS X ρ L { E with nx := fun ρ1 L1 => PDB X rest E ρ1 L1 } σ H F W := ⟨A.env, A.own, A.tk, A.ex⟩
  refine (h.go σ H F W A').mono ⟨fun σ1 H1 ⟨F1, ρ1, L1, s1, o1, e1, q⟩ => ?_, fun _ _ p => p, fun _ _ p => p, fun _ _ p => p⟩
  exact (q.go σ1 H1 F1 W (A.go s1 e1 o1 rfl)).mono (up_le s1 (fun _ _ p => p) (fun _ _ p => p) (fun _ _ p => p) fun _ _ p => p)
theorem pds_asg {tg : Expr} (h : PD X e ρ L (fun d L1 => PGD X tg d ρ L1 E.nx) (E.ex ρ)) (hs : swapsWithSole [tg] e pos.line X.env = pure false := by rfl) (hw : swappedStores [tg] e X.env = pure none := by rfl) (h1 : (assignEach [tg] X.env).map (·.2) = [assign tg X.env] := by rfl) : PDS X (.Assign [tg] e pos) E ρ L :=
  pds_of (ps_asg pe_w pg_w hs hw h1) fun σ H F W A => h.step A.at fun v H1 F1 d L1 s1 A1 i1 q => fun pins s u I r => thn (q σ H1 F1 v A1.env A1.own i1 pins s u I r) fun _ s' ⟨σ', H', I', p⟩ => ⟨σ', H', I', p.mono s1 fun _ _ p => p⟩
theorem pds_expr (h : PD X e ρ L (fun _ L1 => E.nx ρ L1) (E.ex ρ)) (hs : swapsWith e none pos.line X.env = pure false := by rfl) : PDS X (.Expr e pos) E ρ L :=
  pds_of (ps_expr pe_w hs) fun σ H F W A => h.step A.at fun v H1 F1 d L1 s1 A1 i1 q => ⟨F1, ρ, L1, s1, A1.own, A1.env, q⟩
theorem pds_ret (h : PD X e ρ L E.rt (E.ex ρ)) : PDS X (.Return (some e) pos) E ρ L :=
  pds_of (ps_ret pe_w) fun σ H F W A => h.go σ H F W A.at
theorem pds_retN (h : E.rt .non L) : PDS X (.Return none pos) E ρ L := pds_of ps_retN fun σ H F W A => upV.here A.own (.sc _) h
theorem pds_pass (h : E.nx ρ L) : PDS X (.Pass pos) E ρ L := pds_of ps_pass fun σ H F W A => ⟨F, ρ, L, Same.refl _, A.own, A.env, h⟩
theorem pds_break (h : E.bk ρ L) : PDS X (.Break pos) E ρ L := pds_of ps_break fun σ H F W A => ⟨F, ρ, L, Same.refl _, A.own, A.env, h⟩
theorem pds_continue (h : E.ct ρ L) : PDS X (.Continue pos) E ρ L := pds_of ps_continue fun σ H F W A => ⟨F, ρ, L, Same.refl _, A.own, A.env, h⟩
theorem pds_if {c : Expr} {a b : List Stmt} (h : PDT X c ρ L (fun t L1 => if t = true then PDB X a E ρ L1 else PDB X b E ρ L1) (E.ex ρ)) : PDS X (.If c a b pos) E ρ L :=
  pds_of (ps_if pt_w pss_w pss_w) fun σ H F W A => h.step A.at fun t H1 F1 L1 s1 A1 q => by
    have A2 : AtS X ρ L1 E σ H1 F1 W := A.go s1 A1.env A1.own rfl
    have le := up_le (K := X.K) (E := E) (E' := E) s1 (fun _ _ p => p) (fun _ _ p => p) (fun _ _ p => p) fun _ _ p => p
    cases t with
    | true =>
      have q : PDB X a E ρ L1 := q
      exact (q.go σ H1 F1 W A2).mono le
    | false =>
      have q : PDB X b E ρ L1 := q
      exact (q.go σ H1 F1 W A2).mono le
/-- x op= e, by values -/
theorem pds_aug {i : Nat} {x : Str} {op : Operator} {d : D} {pos' : Pos} (hN : X.N.Nodup) (hi : X.N[i]? = some x) (hd : ρ[i]? = some (some d)) (h : PD X e ρ L (fun d2 L1 => OpD X (inplaceOp op) d d2 L1 (fun z L2 => E.nx (ρ.set i (some z)) L2)) (E.ex ρ))
    (hx : Loc X.env.scope x := by first | exact Or.inl rfl | exact Or.inr rfl) (hf : X.fn x = true ∨ X.env.scope.names.lookup x = some .local := by first | exact .inl rfl | exact .inr rfl) : PDS X (.AugAssign (.Name x pos') op e pos) E ρ L := by
  have ho : PIp X op (fun x y H Q => ∀ (pins : List (Addr × Obj)) (s : Shared) (σ : St) (v u : Value), Inv X pins σ H s → RelV x v → RelV y u → wpAny (model X.prog X.w) X.A (inplaceOp op v u) (EP X pins σ Q) X.xe s) := fun pins s σ H x y v u Q I rx ry h => h pins s σ v u I rx ry
  refine pds_of (ps_aug (i := i) hN hi hx pe_w ho hf) fun σ H F W A => ?_
  obtain ⟨v, h1, h2⟩ := A.env.2 i d hd
  refine ⟨v, h1, h.step A.at fun y H1 F1 d2 L1 s1 A1 iy q => fun pins s σ' vv u I rx ry => ?_⟩
  exact thn (q pins s σ' H1 F1 v y vv u A1.own (h2.mono s1) iy I rx ry) fun z s' ⟨v', H', I', r', F', dz, L2, s2, o2, iz, p'⟩ => ⟨v', H', I', r', F', _, L2, s1.trans s2, o2, (A1.env.mono s2).set iz i, p'⟩
theorem od_iaddI {i j : Int} (h : P (.int (i + j)) L) : OpD X (inplaceOp .Add) (.int i) (.int j) L P := opd_I0 iop_add h
theorem od_isubI {i j : Int} (h : P (.int (i - j)) L) : OpD X (inplaceOp .Sub) (.int i) (.int j) L P := opd_I0 iop_sub h
/-- o[i] = e, o an owned list -/
theorem pds_setIx {o i : Expr} {tpos : Pos} (h : PD X e ρ L (fun de L1 => PD X o ρ L1 (fun do_ L2 => PD X i ρ L2 (fun di L3 => ∃ (p : Addr) (ds : List D) (k : Int) (j : Nat) (L4 : Led), do_ = .ref p ∧ di = .int k ∧ ixN ds.length k = some j ∧ Foc p (.lst ds) (.lst (ds.set j de)) L3 L4 ∧ E.nx ρ L4) (E.ex ρ)) (E.ex ρ)) (E.ex ρ))
    (hs : swapsWithSole [.Subscript o i tpos] e pos.line X.env = pure false := by rfl) (hw : swappedStores [.Subscript o i tpos] e X.env = pure none := by rfl) (ha : ∀ v, assign (.Subscript o i tpos) X.env v = (do
      let ov ← holding [v] (eval o X.env)
      let iv ← holding [v, ov] (eval i X.env)
      standAt tpos
      holding [v, ov, iv] (setItem ov iv v)
      release [v, ov, iv] []) := by intro _; rfl) (h1 : (assignEach [.Subscript o i tpos] X.env).map (·.2) = [assign (.Subscript o i tpos) X.env] := by rfl) : PDS X (.Assign [.Subscript o i tpos] e pos) E ρ L :=
  pds_of (ps_asg pe_w (pg_sub (pos := tpos) pe_w pe_w set_list ha) hs hw h1) fun σ H F W A => h.step A.at fun v H1 F1 d L1 s1 A1 i1 q => q.step A1 fun v2 H2 F2 d2 L2 s2 A2 i2 q2 => q2.step A2 fun v3 H3 F3 d3 L3 s3 A3 i3 q3 => by
    obtain ⟨p, ds, k, j, L4, rfl, rfl, hj, f, q4⟩ := q3
    cases i2
    cases i3
    obtain ⟨_, u, g1, ys, rfl, h2⟩ := A3.own.cell _ f.mem
    exact ⟨p, ys, k, j, rfl, rfl, g1, by rw [h2.length]; exact hj, F3, ρ, L4, (s1.trans s2).trans s3, A3.own.write f ⟨_, rfl, h2.set ((i1.mono s2).mono s3) j⟩, A3.env, q4⟩
/-- never reached -/
theorem pds_never (h : False) : PDS X st E ρ L := h.elim

/-! ### ghost steps -/
/-- an owned list will not change any more -/
theorem pdb_freeze (i : Nat) {p : Addr} {ds : List D} {L' : Led} (hi : ρ[i]? = some (some (.ref p))) (t : Take p (.lst ds) L L') (h : PDB X sts E (ρ.set i (some (.lst ds))) L') : PDB X sts E ρ L := .mk fun σ H F W A => by
  obtain ⟨F', s, o', ip⟩ := A.own.freeze t
  obtain ⟨v, hv, iv⟩ := A.env.2 i _ hi
  cases iv
  have hl : i < σ.length := (List.getElem?_eq_some_iff.mp hv).1
  have ev : EnvOk X.K F' σ (ρ.set i (some (.lst ds))) := by
    have z := (A.env.mono s).set ip i
    have e : σ.set i (some (V.ref p)) = σ := by
      apply List.ext_getElem?
      intro j
      by_cases hj : i = j
      · subst hj
        rw [List.getElem?_set, if_pos rfl, if_pos hl, hv]
      · rw [List.getElem?_set_ne hj]
    rw [e] at z
    exact z
  exact (h.go σ H F' W (A.go s ev o' rfl)).mono (up_le s (fun _ _ p => p) (fun _ _ p => p) (fun _ _ p => p) fun _ _ p => p)
theorem pdb_weak {ρ' : Rho} (w : Forgets ρ ρ') (h : PDB X sts E ρ' L) : PDB X sts E ρ L := .mk fun σ H F W A => h.go σ H F W ⟨A.env.weak w, A.own, A.tk, A.ex⟩
/-- what comes is an owned list that will not change any more -/
theorem pd_frz (h : PD X e ρ L (fun d L1 => ∃ p ds L2, d = .ref p ∧ Take p (.lst ds) L1 L2 ∧ P (.lst ds) L2) R) : PD X e ρ L P R := .mk fun σ H F W A => h.step A fun v H1 F1 d L1 s1 A1 i1 ⟨p, ds, L2, e1, t, q⟩ => by
  subst e1
  cases i1
  obtain ⟨F', s, o', ip⟩ := A1.own.freeze t
  exact ⟨F', _, L2, s1.trans s, o', ip, q⟩

/-! ### what is walked -/
/-- in every heap over F the iterator J gives the data ds, one after another -/
def ItIs (K : PySem.W.Frag) (F : Hp) (J : It) (ds : List D) (G : Led) : Prop := ∀ H F' L, Same F F' → Own K H F' L → SubL G L → ∀ i : Nat,
  (ds.length ≤ i → J.stop i H) ∧ ∀ d, ds[i]? = some d → J.go i H ∧ ∀ x H', J.yld i H x H' → ∃ F'', Same F' F'' ∧ Own K H' F'' L ∧ Is K F'' x d
def wI (X : Cx) (tg iter : Expr) : TI := fun σ H R => ∀ (pins : List (Addr × Obj)) (s : Shared), Inv X pins σ H s → wpAny (model X.prog X.w) X.A (eval iter X.env) (fun v s1 => wpAny (model X.prog X.w) X.A (pyIter v) (PIE X pins σ tg R) X.xe s1) X.xe s
theorem pi_w {tg iter : Expr} : PI X tg iter (wI X tg iter) := ⟨fun pins s σ H R I h => h pins s I⟩
def upI (K : PySem.W.Frag) (F0 : Hp) (P : List D → Led → Led → Prop) : It → Hp → Prop := fun J H => ∃ F ds G L, Same F0 F ∧ Own K H F L ∧ ItIs K F J ds G ∧ P ds G L
structure PDI (X : Cx) (tg iter : Expr) (ρ : Rho) (L : Led) (P : List D → Led → Led → Prop) (R : RK1) : Prop where
  go : ∀ σ H F W, At X ρ L R σ H F W → wI X tg iter σ H (upI X.K F P)
theorem pdi_of {tg iter : Expr} {P : List D → Led → Led → Prop} {wi : TI} (h : PI X tg iter wi) (q : ∀ σ H F W, At X ρ L R σ H F W → wi σ H (upI X.K F P)) : PDI X tg iter ρ L P R := .mk fun σ H F W A pins s I => h.run pins s σ H _ I (q σ H F W A)
theorem itis_l {K : PySem.W.Frag} {F : Hp} {a : Addr} {xs : List V} {ds : List D} (h : SqL K F a xs) (hx : IsL K F xs ds) : ItIs K F (Itl K a) ds [] := fun H F' L s o _ i => by
  have hH : SqL K H a xs := same_l o.sub (same_l s h)
  refine ⟨fun hl => ⟨xs, hH, by rw [hx.length]; exact hl⟩, fun d hd => ?_⟩
  obtain ⟨v, h1, h2⟩ := hx.get hd
  refine ⟨⟨xs, v, hH, h1⟩, fun x H' ⟨e, y⟩ => ?_⟩
  subst e
  have := y xs hH
  rw [h1] at this
  cases this
  exact ⟨F', Same.refl _, o, h2.mono s⟩
theorem itis_t {K : PySem.W.Frag} {F : Hp} {a : Addr} {xs : List V} {ds : List D} (h : SqT K F a xs) (hx : IsL K F xs ds) : ItIs K F (Itt K a) ds [] := fun H F' L s o _ i => by
  have hH : SqT K H a xs := same_t o.sub (same_t s h)
  refine ⟨fun hl => ⟨xs, hH, by rw [hx.length]; exact hl⟩, fun d hd => ?_⟩
  obtain ⟨v, h1, h2⟩ := hx.get hd
  refine ⟨⟨xs, v, hH, h1⟩, fun x H' ⟨e, y⟩ => ?_⟩
  subst e
  have := y xs hH
  rw [h1] at this
  cases this
  exact ⟨F', Same.refl _, o, h2.mono s⟩
theorem pdi_list {tg : Expr} {P : List D → Led → Led → Prop} (h : PD X e ρ L (fun d L1 => ∃ ds, (d = .lst ds ∨ d = .fro ds) ∧ P ds [] L1) R) : PDI X tg e ρ L P R := pdi_of (pi_list pe_w) fun σ H F W A => h.step A fun v H1 F1 d L1 s1 A1 i1 ⟨ds, hd, q⟩ => by
  rcases hd with rfl | rfl
  · cases i1 with
    | lst h1 h2 => exact ⟨_, rfl, ⟨_, SqL.of (A1.own.sub _ _ h1)⟩, F1, ds, [], L1, s1, A1.own, itis_l (SqL.of h1) h2, q⟩
  · cases i1 with
    | fro h1 h2 => exact ⟨_, rfl, ⟨_, same_l A1.own.sub h1⟩, F1, ds, [], L1, s1, A1.own, itis_l h1 h2, q⟩
theorem pdi_tup {tg : Expr} {P : List D → Led → Led → Prop} (h : PD X e ρ L (fun d L1 => ∃ ds, d = .tup ds ∧ P ds [] L1) R) : PDI X tg e ρ L P R := pdi_of (pi_tup pe_w) fun σ H F W A => h.step A fun v H1 F1 d L1 s1 A1 i1 ⟨ds, hd, q⟩ => by
  subst hd
  cases i1 with
  | tup h1 h2 => exact ⟨_, rfl, ⟨_, same_t A1.own.sub h1⟩, F1, ds, [], L1, s1, A1.own, itis_t h1 h2, q⟩
/-- an owned list, as long as it stays as it is -/
theorem itis_own {K : PySem.W.Frag} {F : Hp} {a : Addr} {ds : List D} : ItIs K F (Itl K a) ds [(a, .lst ds)] := fun H F' L s o g i => by
  obtain ⟨_, u, h1, xs, rfl, hx⟩ := o.cell (a, OD.lst ds) (g _ (List.mem_singleton.mpr rfl))
  refine ⟨fun hl => ⟨xs, SqL.of h1, by rw [hx.length]; exact hl⟩, fun d hd => ?_⟩
  obtain ⟨v, h3, h4⟩ := hx.get hd
  refine ⟨⟨xs, v, SqL.of h1, h3⟩, fun x H' ⟨e, y⟩ => ?_⟩
  subst e
  have := y xs (SqL.of h1)
  rw [h3] at this
  cases this
  exact ⟨F', Same.refl _, o, h4⟩
theorem pdi_own {tg : Expr} {P : List D → Led → Led → Prop} (h : PD X e ρ L (fun d L1 => ∃ p ds, d = .ref p ∧ (p, OD.lst ds) ∈ L1 ∧ P ds [(p, .lst ds)] L1) R) : PDI X tg e ρ L P R := pdi_of (pi_list pe_w) fun σ H F W A => h.step A fun v H1 F1 d L1 s1 A1 i1 ⟨p, ds, hd, hm, q⟩ => by
  subst hd
  cases i1
  obtain ⟨_, u, h1, xs, rfl, hx⟩ := A1.own.cell _ hm
  exact ⟨_, rfl, ⟨_, SqL.of h1⟩, F1, ds, _, L1, s1, A1.own, itis_own, q⟩
/-- what of the ledger a view leans on -/
inductive Gd (L : Led) : D → List D → Led → Prop
  | lst (ds : List D) : Gd L (.lst ds) ds []
  | fro (ds : List D) : Gd L (.fro ds) ds []
  | tup (ds : List D) : Gd L (.tup ds) ds []
  | own {p : Addr} {ds : List D} (h : (p, OD.lst ds) ∈ L) : Gd L (.ref p) ds [(p, .lst ds)]
theorem Sq.gd {L : Led} {d : D} {ds : List D} (h : Sq L d ds) : ∃ G, Gd L d ds G := by
  cases h with
  | lst ds => exact ⟨_, .lst ds⟩
  | fro ds => exact ⟨_, .fro ds⟩
  | tup ds => exact ⟨_, .tup ds⟩
  | own h => exact ⟨_, .own h⟩
theorem Gd.sub {L G : Led} {d : D} {ds : List D} (h : Gd L d ds G) : SubL G L := by
  cases h with
  | own h => exact SubL.one h
  | _ => exact SubL.nil
theorem Gd.mono {L L' G : Led} {d : D} {ds : List D} (h : Gd L d ds G) (s : SubL G L') : Sq L' d ds := by
  cases h with
  | lst ds => exact .lst ds
  | fro ds => exact .fro ds
  | tup ds => exact .tup ds
  | own h => exact .own (s _ (List.mem_singleton.mpr rfl))
/-- any of these, the answer of e known ahead -/
theorem pdi_seq {tg : Expr} {P : List D → Led → Led → Prop} {d : D} {ds : List D} {G : Led} (g : Gd L d ds G) (h : PD X e ρ L (fun d' L1 => d' = d ∧ L1 = L) R) (q : P ds G L) : PDI X tg e ρ L P R := by
  cases g with
  | lst ds => exact pdi_list (h.mono fun d' L1 z => by obtain ⟨rfl, rfl⟩ := z; exact ⟨_, .inl rfl, q⟩)
  | fro ds => exact pdi_list (h.mono fun d' L1 z => by obtain ⟨rfl, rfl⟩ := z; exact ⟨_, .inr rfl, q⟩)
  | tup ds => exact pdi_tup (h.mono fun d' L1 z => by obtain ⟨rfl, rfl⟩ := z; exact ⟨_, rfl, q⟩)
  | own g => exact pdi_own (h.mono fun d' L1 z => by obtain ⟨rfl, rfl⟩ := z; exact ⟨_, _, rfl, g, q⟩)
/-- the ints from lo on -/
def rngD (lo : Int) (n : Nat) : List D := (List.range n).map fun (i : Nat) => D.int (lo + (i : Int))
theorem rngD_length (lo : Int) (n : Nat) : (rngD lo n).length = n := by unfold rngD; rw [List.length_map, List.length_range]
theorem itis_r {K : PySem.W.Frag} {F : Hp} (lo : Int) (n : Nat) : ItIs K F (Itr lo n) (rngD lo n) [] := fun H F' L s o _ i => by
  refine ⟨fun hl => by rw [rngD_length] at hl; exact hl, fun d hd => ?_⟩
  have hi : i < n := by
    have := (List.getElem?_eq_some_iff.mp hd).1
    rw [rngD_length] at this
    exact this
  unfold rngD at hd
  rw [List.getElem?_map, List.getElem?_range hi] at hd
  simp only [Option.map_some, Option.some.injEq] at hd
  subst hd
  refine ⟨hi, fun x H' ⟨e, y⟩ => ?_⟩
  subst e y
  exact ⟨F', Same.refl _, o, .sc _⟩
theorem pdi_range1 {tg : Expr} {p : Pos} {P : List D → Led → Led → Prop} (hm : X.mg "range" = none) (h : PD X a ρ L (fun d L1 => ∃ j : Int, d = .int j ∧ -(2 ^ 62) ≤ j ∧ j < 2 ^ 62 ∧ P (rngD 0 j.toNat) [] L1) R) (hg : Gl X "range" := by rfl) (hs : starEach [a] X.env = [(false, eval a X.env)] := by rfl) (hpl : starEach [a] X.env = (false, eval a X.env) :: starEach [] X.env := by rfl) :
    PDI X tg (.Call (.Name "range" p) [a] [] pos) ρ L P R := pdi_of (pi_range1 hg hm (pa_cons pe_w pa_nil hpl) hs) fun σ H F W A => h.step A fun v H1 F1 d L1 s1 A1 i1 ⟨j, hd, h1, h2, q⟩ => by
  subst hd
  cases i1
  exact ⟨j, rfl, h1, h2, F1, _, [], L1, s1, A1.own, itis_r 0 _, q⟩

/-! ### for -/
theorem pds_for {tg iter : Expr} {body : List Stmt} (hc : X.calm = true) (hp : PassesOwn (model X.prog X.w) X.A X.env X.xe)
    (h : PDI X tg iter ρ L (fun ds G L1 => ∃ I : Nat → Rho → Led → Prop, I 0 ρ L1 ∧ (∀ i ρ1 L2, I i ρ1 L2 → SubL G L2) ∧ (∀ i d ρ1 L2, ds[i]? = some d → I i ρ1 L2 → PGD X tg d ρ1 L2 (fun ρ2 L3 => PDB X body { E with nx := I (i + 1), ct := I (i + 1), bk := E.nx } ρ2 L3)) ∧ ∀ ρ1 L2, I ds.length ρ1 L2 → E.nx ρ1 L2) (E.ex ρ))
    (hs : ∀ x, foldedSetIterable iter X.env x = pure x := by intro _; rfl) : PDS X (.For tg iter body [] pos) E ρ L := by
  refine pds_of (ps_for hp hc pi_w pg_w pss_w hs) fun σ H F W A => ?_
  intro pins s I
  refine thn (h.go σ H F W A.at pins s I) fun v s1 h1 => thn h1 fun itv s2 h2 => ?_
  obtain ⟨it, fp, tn, J, H1, e1, I1, T, st1, f1, F1, ds, G, L1, s1', o1, ii, Iv, h0, hG, hstep, hend⟩ := h2
  refine ⟨it, fp, tn, J, H1, e1, I1, T, st1, f1, fun i m σ1 H2 => m = ds.length - i ∧ i ≤ ds.length ∧ ∃ F2 ρ1 L2, Same F1 F2 ∧ Own X.K H2 F2 L2 ∧ EnvOk X.K F2 σ1 ρ1 ∧ Iv i ρ1 L2, ⟨ds.length, by simp, Nat.zero_le _, F1, ρ, L1, Same.refl _, o1, A.env.mono s1', h0⟩, ?_⟩
  rintro i m σ1 H2 ⟨rfl, hi, F2, ρ1, L2, s2', o2, e2, q⟩
  obtain ⟨k1, k2⟩ := ii H2 F2 L2 s2' o2 (hG i ρ1 L2 q) i
  by_cases hlt : i < ds.length
  · obtain ⟨g1, g2⟩ := k2 ds[i] (by simp [hlt])
    refine .inr ⟨g1, fun σ3 H3 => ∃ F2 ρ1 L2, Same F1 F2 ∧ Own X.K H3 F2 L2 ∧ EnvOk X.K F2 σ3 ρ1 ∧ Iv (i + 1) ρ1 L2, fun σ' H' p => ⟨ds.length - (i + 1), by omega, rfl, hlt, p⟩, fun x H' y => ?_⟩
    obtain ⟨F3, s3, o3, ix⟩ := g2 x H' y
    intro pins s u I r
    refine thn (hstep i _ ρ1 L2 (by simp [hlt]) q σ1 H' F3 x (e2.mono s3) o3 ix pins s u I r) fun _ s' ⟨σ', H'', I', F4, ρ4, L4, s4, o4, e4, q4⟩ => ⟨σ', H'', I', ?_⟩
    have sAll : Same F F4 := ((s1'.trans s2').trans s3).trans s4
    have A4 : AtS X ρ4 L4 { E with nx := Iv (i + 1), ct := Iv (i + 1), bk := E.nx } σ' H'' F4 W := A.go sAll e4 o4 rfl
    refine (q4.go σ' H'' F4 W A4).mono ⟨fun σ5 H5 ⟨F5, ρ5, L5, s5, o5, e5, q5⟩ => ⟨F5, ρ5, L5, ((s2'.trans s3).trans s4).trans s5, o5, e5, q5⟩, fun _ _ p => p.mono sAll fun _ _ p => p, fun _ _ p => p.mono sAll fun _ _ p => p, fun σ5 H5 ⟨F5, ρ5, L5, s5, o5, e5, q5⟩ => ⟨F5, ρ5, L5, ((s2'.trans s3).trans s4).trans s5, o5, e5, q5⟩⟩
  · have e : i = ds.length := by omega
    subst e
    exact .inl ⟨k1 (Nat.le_refl _), F2, ρ1, L2, s1'.trans s2', o2, e2, hend ρ1 L2 q⟩
/-! ### while -/
theorem pds_while {c : Expr} {body : List Stmt} (hp : PassesOwn (model X.prog X.w) X.A X.env X.xe) (I : Nat → Rho → Led → Prop) (m0 : Nat) (h0 : I m0 ρ L)
    (h : ∀ m ρ1 L1, I m ρ1 L1 → PDT X c ρ1 L1 (fun t L2 => if t = true then PDB X body { E with nx := fun ρ2 L3 => ∃ k, k < m ∧ I k ρ2 L3, ct := fun ρ2 L3 => ∃ k, k < m ∧ I k ρ2 L3, bk := E.nx } ρ1 L2 else E.nx ρ1 L2) (E.ex ρ1)) : PDS X (.While c body [] pos) E ρ L := by
  refine pds_of (ps_while hp pt_w pss_w) fun σ H F W A => ?_
  refine ⟨fun m σ1 H1 => ∃ F1 ρ1 L1, Same F F1 ∧ Own X.K H1 F1 L1 ∧ EnvOk X.K F1 σ1 ρ1 ∧ I m ρ1 L1, ⟨m0, F, ρ, L, Same.refl _, A.own, A.env, h0⟩, ?_⟩
  rintro m σ1 H1 ⟨F1, ρ1, L1, s1, o1, e1, q⟩
  have A1 : AtS X ρ1 L1 E σ1 H1 F1 W := A.go s1 e1 o1 rfl
  refine (h m ρ1 L1 q).step A1.at fun t H2 F2 L2 s2 A2 q2 => ?_
  cases t with
  | true =>
    refine ⟨fun σ3 H3 => ∃ k, k < m ∧ ∃ F1 ρ1 L1, Same F F1 ∧ Own X.K H3 F1 L1 ∧ EnvOk X.K F1 σ3 ρ1 ∧ I k ρ1 L1, fun σ' H' ⟨k, hk, p⟩ => ⟨k, hk, p⟩, ?_⟩
    have q2 : PDB X body { E with nx := fun ρ2 L3 => ∃ k, k < m ∧ I k ρ2 L3, ct := fun ρ2 L3 => ∃ k, k < m ∧ I k ρ2 L3, bk := E.nx } ρ1 L2 := q2
    have A3 : AtS X ρ1 L2 { E with nx := fun ρ2 L3 => ∃ k, k < m ∧ I k ρ2 L3, ct := fun ρ2 L3 => ∃ k, k < m ∧ I k ρ2 L3, bk := E.nx } σ1 H2 F2 W := A.go (s1.trans s2) A2.env A2.own rfl
    exact (q2.go σ1 H2 F2 W A3).mono ⟨fun σ5 H5 ⟨F5, ρ5, L5, s5, o5, e5, k, hk, q5⟩ => ⟨k, hk, F5, ρ5, L5, (s1.trans s2).trans s5, o5, e5, q5⟩, fun _ _ p => p.mono (s1.trans s2) fun _ _ p => p, fun _ _ p => p.mono (s1.trans s2) fun _ _ p => p, fun σ5 H5 ⟨F5, ρ5, L5, s5, o5, e5, k, hk, q5⟩ => ⟨k, hk, F5, ρ5, L5, (s1.trans s2).trans s5, o5, e5, q5⟩⟩
  | false => exact ⟨F2, ρ1, L2, s1.trans s2, A2.own, A2.env, q2⟩

/-! ### contracts of defs -/
/-- a contract at data: the arguments, the ledger, what is wanted, what is wanted of an exception -/
abbrev Ct := List D → Led → PK1 → RK1 → Prop
def spD (K : PySem.W.Frag) (T : Ct) : Sp := fun vs H Q E => ∃ F L ds P R, IsL K F vs ds ∧ Own K H F L ∧ T ds L P R ∧ (∀ v H', upV K F P v H' → Q v H') ∧ ∀ c d H', upX K F R c d H' → E c d H'
theorem pd_call {x : Str} {k : Nat} {f : Addr} {fd : FuncData} {ps : List Str} {T : Ct} {p : Pos} (G : FnOk X.prog X.w X.K X.mg X.base (L2.CX X.prog X.w) k f fd ps (spD X.K T)) (hr : Room k X.A) (hm : X.mg x = some (.ref f)) (hk : PySem.W.keepIn X.K (.ref f) = true) (hb : Binds X.K fd ps [])
    (h : PDA X (e :: es) ρ L (fun ds L1 => T ds L1 P R) R) (hg : Gl X x := by rfl) (hdb : (x == ("__debug__" : Str)) = false := by decide) (he : starEach (e :: es) X.env = (false, eval e X.env) :: starEach es X.env := by rfl) (hpl : (backTo pos (starEach es X.env)).any (·.1) = false := by rfl) :
    PD X (.Call (.Name x p) (e :: es) [] pos) ρ L P R := .mk fun σ H F W A pins s I => by
  refine (pe_callS G hr hg hm hk hb (fun σ => passAt A.tk σ) pa_w hdb he hpl).run pins s σ H _ I ?_
  exact h.step A fun vs H1 F1 ds L1 s1 A1 i1 q => ⟨F1, L1, ds, P, R, i1, A1.own, q, fun v H' p => p.mono s1 fun _ _ p => p, fun c d H' p => A1.ex c d H' p⟩
def startD (N : List Str) (ds : List D) : Rho := ds.map some ++ List.replicate (N.length - ds.length) none
theorem start_ok {K : PySem.W.Frag} {F : Hp} {N : List Str} {vs : List V} {ds : List D} (h : IsL K F vs ds) : EnvOk K F (L2.start N vs) (startD N ds) := by
  refine ⟨?_, fun i d q => ?_⟩
  · unfold L2.start startD
    rw [List.length_append, List.length_append, List.length_map, List.length_map, List.length_replicate, List.length_replicate, h.length]
  · unfold startD at q
    unfold L2.start
    by_cases hi : i < ds.length
    · rw [List.getElem?_append_left (by rw [List.length_map]; exact hi), List.getElem?_map] at q
      rw [List.getElem?_append_left (by rw [List.length_map, h.length]; exact hi), List.getElem?_map]
      cases e : ds[i]? with
      | none => rw [e] at q; cases q
      | some d' =>
        rw [e] at q
        simp only [Option.map_some, Option.some.injEq] at q
        subst q
        obtain ⟨v, h1, h2⟩ := h.get e
        exact ⟨v, by rw [h1]; rfl, h2⟩
    · rw [List.getElem?_append_right (by rw [List.length_map]; omega), List.getElem?_replicate] at q
      split at q <;> cases q
end
section
variable {P : Program} {w : World} {K : PySem.W.Frag} {mg : Str → Option Value} {base : Heap}
/-- a def keeps its contract: its body does -/
theorem fn_okD {x qual : Str} {st : Stmt} {f : Addr} {fd : FuncData} {N ps : List Str} {k : Nat} {T : Ct} (Fu : Fun K x qual st f fd) (S : FnScope N ps (defScope st)) (len : ∀ ds L P R, T ds L P R → ds.length = ps.length)
    (hbody : ∀ (cdv : Value) (A : Around) (outer : List Env) (s : Shared) (H : Hp) (E : XK) (ds : List D) (L : Led) (P1 : PK1) (R : RK1), Room k (A.deeper (PyProof.Rows.envOfC qual (defScope st) s.heap.objs.size f cdv)) → T ds L P1 R →
      PDB (cxOf (L2.CX P w) P w K mg base N qual (defScope st) f cdv A outer s H E) (defBody st) { nx := fun _ L' => P1 .non L', rt := P1, bk := fun _ _ => False, ct := fun _ _ => False, ex := fun _ => R } (startD N ds) L) :
    FnOk P w K mg base (L2.CX P w) (k + 1) f fd ps (spD K T) := by
  refine Fu.okX S (fun vs H Q E ⟨F, L, ds, P1, R, h1, h2, h3, _⟩ => by rw [h1.length]; exact len _ _ _ _ h3) fun cdv A outer s H vs Q E hr h => ?_
  obtain ⟨F, L, ds, P1, R, h1, h2, h3, h4, h5⟩ := h
  refine ⟨_, pss_w, ?_⟩
  refine ((hbody cdv A outer s H E ds L P1 R hr h3).go (L2.start N vs) H F (fun cls d _ H => E cls d H) ⟨start_ok h1, h2, takes_of rfl rfl rfl rfl, fun cls dd σ' H' ⟨F', ρ', C, fs, L', a, gs, s1, o1, e1, q1, q2, q3, q4, q5⟩ => h5 _ _ _ ⟨F', C, fs, L', a, gs, s1, o1, q1, q2, q3, q4, q5⟩⟩).mono ⟨fun σ1 H1 ⟨F1, ρ1, L1, s1, o1, e1, q⟩ => h4 _ _ ⟨F1, .non, L1, s1, o1, .sc _, q⟩, fun v H1 p => h4 _ _ p, fun _ _ ⟨_, _, _, _, _, _, q⟩ => q.elim, fun _ _ ⟨_, _, _, _, _, _, q⟩ => q.elim⟩
end
end D2
end
section
set_option Elab.async false
set_option linter.all false
set_option maxRecDepth 100000
set_option maxHeartbeats 2000000
namespace D2
open PySem PySem.Spec L2

/-! ### targets of comprehensions: which slots are set -/
def setsV (σ : St) (ws : List (Nat × V)) : St := ws.foldl (fun σ w => σ.set w.1 (some w.2)) σ
def setsD (ρ : Rho) (us : List (Nat × D)) : Rho := us.foldl (fun ρ w => ρ.set w.1 (some w.2)) ρ
def wipeD (ρ : Rho) : List Nat → Rho
  | [] => ρ
  | v :: vs => (wipeD ρ vs).set v none
def SetOk (K : PySem.W.Frag) (F : Hp) : List (Nat × V) → List (Nat × D) → Prop := Paired fun w u => w.1 = u.1 ∧ Is K F w.2 u.2
theorem env_sets {K : PySem.W.Frag} {F : Hp} : ∀ {ws : List (Nat × V)} {us : List (Nat × D)} {σ : St} {ρ : Rho}, EnvOk K F σ ρ → SetOk K F ws us → EnvOk K F (setsV σ ws) (setsD ρ us)
  | _, _, _, _, h, .nil => h
  | w :: ws, u :: us, _, _, h, .cons r t => by
    show EnvOk K F (setsV (List.set _ w.1 (some w.2)) _) (setsD (List.set _ u.1 (some u.2)) _)
    rw [r.1]
    exact env_sets (h.set r.2 _) t
theorem env_wipe {K : PySem.W.Frag} {F : Hp} {σ : St} {ρ : Rho} (h : EnvOk K F σ ρ) : ∀ vs : List Nat, EnvOk K F (wipe σ vs) (wipeD ρ vs)
  | [] => h
  | v :: vs => by
    show EnvOk K F ((wipe σ vs).set v none) ((wipeD ρ vs).set v none)
    exact (env_wipe h vs).unset v
theorem wipe_get {σ : St} : ∀ {vs : List Nat} {i : Nat}, i ∈ vs → i < σ.length → (wipe σ vs)[i]? = some none
  | v :: vs, i, hi, hl => by
    show ((wipe σ vs).set v none)[i]? = some none
    by_cases e : v = i
    · subst e
      rw [List.getElem?_set, if_pos rfl, if_pos (by rw [wipe_length]; exact hl)]
    · rw [List.getElem?_set_ne e]
      rcases List.mem_cons.mp hi with z | z
      · exact absurd z.symm e
      · exact wipe_get z hl
theorem wipe_other {σ : St} : ∀ {vs : List Nat} {i : Nat}, i ∉ vs → (wipe σ vs)[i]? = σ[i]?
  | [], _, _ => rfl
  | v :: vs, i, h => by
    show ((wipe σ vs).set v none)[i]? = σ[i]?
    rw [List.getElem?_set_ne (fun e => h (by rw [e]; exact List.mem_cons_self ..))]
    exact wipe_other fun z => h (List.mem_cons_of_mem _ z)
theorem wipe_set {σ : St} {vs : List Nat} {i : Nat} {x : Option V} (h : i ∈ vs) : wipe (σ.set i x) vs = wipe σ vs := by
  apply List.ext_getElem?
  intro j
  by_cases hj : j ∈ vs
  · by_cases hl : j < σ.length
    · rw [wipe_get hj (by rw [List.length_set]; exact hl), wipe_get hj hl]
    · rw [List.getElem?_eq_none (by rw [wipe_length, List.length_set]; omega), List.getElem?_eq_none (by rw [wipe_length]; omega)]
  · rw [wipe_other hj, wipe_other hj, List.getElem?_set_ne (fun e => hj (by rw [← e]; exact h))]
theorem wipe_wipe {σ : St} {vs : List Nat} : wipe (wipe σ vs) vs = wipe σ vs := by
  apply List.ext_getElem?
  intro j
  by_cases hj : j ∈ vs
  · by_cases hl : j < σ.length
    · rw [wipe_get hj (by rw [wipe_length]; exact hl), wipe_get hj hl]
    · rw [List.getElem?_eq_none (by rw [wipe_length, wipe_length]; omega), List.getElem?_eq_none (by rw [wipe_length]; omega)]
  · rw [wipe_other hj]
theorem wipe_sets {vs : List Nat} : ∀ {ws : List (Nat × V)} {σ : St}, (∀ w ∈ ws, w.1 ∈ vs) → wipe (setsV σ ws) vs = wipe σ vs
  | [], _, _ => rfl
  | w :: r, σ, h => by
    show wipe (setsV (σ.set w.1 (some w.2)) r) vs = wipe σ vs
    rw [wipe_sets fun x hx => h x (List.mem_cons_of_mem _ hx), wipe_set (h w (List.mem_cons_self ..))]
/-- the target g, given d, sets the slots us -/
def GD (K : PySem.W.Frag) (g : TG) (d : D) (us : List (Nat × D)) : Prop := ∀ (F H : Hp) (L : Led) (σ : St) (v : V) (Q : St → Hp → Prop), Own K H F L → Is K F v d → (∀ ws, SetOk K F ws us → Q (setsV σ ws) H) → g v σ H Q
def GDs (K : PySem.W.Frag) (g : TGs) (ds : List D) (us : List (Nat × D)) : Prop := ∀ (F H : Hp) (L : Led) (σ : St) (vs : List V) (Q : St → Hp → Prop), Own K H F L → IsL K F vs ds → (∀ ws, SetOk K F ws us → Q (setsV σ ws) H) → g vs σ H Q
theorem gd_name {K : PySem.W.Frag} {i : Nat} {d : D} : GD K (gName i) d [(i, d)] := fun F H L σ v Q o iv q => q [(i, v)] (.cons ⟨rfl, iv⟩ .nil)
theorem gds_nil {K : PySem.W.Frag} : GDs K gNil [] [] := fun F H L σ vs Q o iv q => by
  cases iv
  exact ⟨rfl, q [] .nil⟩
theorem paired_app {α β : Type} {R : α → β → Prop} : ∀ {a c : List α} {b d : List β}, Paired R a b → Paired R c d → Paired R (a ++ c) (b ++ d)
  | _, _, _, _, .nil, h => h
  | _, _, _, _, .cons r t, h => .cons r (paired_app t h)
theorem setsV_app (σ : St) (a b : List (Nat × V)) : setsV σ (a ++ b) = setsV (setsV σ a) b := by unfold setsV; rw [List.foldl_append]
theorem gds_cons {K : PySem.W.Frag} {g : TG} {gs : TGs} {d : D} {ds : List D} {us vs : List (Nat × D)} (h : GD K g d us) (hs : GDs K gs ds vs) : GDs K (gCons g gs) (d :: ds) (us ++ vs) := fun F H L σ xs Q o iv q => by
  cases iv with
  | cons a b => exact ⟨_, _, rfl, h F H L σ _ _ o a fun ws hw => hs F H L _ _ _ o b fun ws' hw' => by
      rw [← setsV_app]
      exact q _ (paired_app hw hw')⟩
theorem gd_tup {K : PySem.W.Frag} {gs : TGs} {ds : List D} {us : List (Nat × D)} {n : Nat} (h : GDs K gs ds us) (hn : ds.length = n) : GD K (gTup K n gs) (.tup ds) us := fun F H L σ v Q o iv q => by
  cases iv with
  | tup h1 h2 => exact ⟨_, _, rfl, same_t o.sub h1, by rw [h2.length]; exact hn, h F H L σ _ Q o h2 q⟩

section
variable {X : Cx} {e a b c o : Expr} {es : List Expr} {st : Stmt} {sts rest : List Stmt} {ρ : Rho} {L : Led} {P : PK1} {R : RK1} {E : DE} {pos : Pos}
/-- the tests of a comprehension -/
def PDTs (X : Cx) (ifs : List Expr) (ρ : Rho) (L : Led) (P : Bool → Led → Prop) : Prop := match ifs with
  | [] => P true L
  | [c] => PDT X c ρ L P noR
  | _ => False
/-- the blocks of a comprehension -/
abbrev Blk (X : Cx) (scope : Scope) (Y : Cx) : Prop := ∃ s H C cl fp, Y = X.blk s H scope (compEnvC scope cl C X.env) fp
def wB (X : Cx) (scope : Scope) (elt : Expr) : TE := fun σ H Q => ∀ s0 H0 C cl fp, wE (X.blk s0 H0 scope (compEnvC scope cl C X.env) fp) elt σ H Q
def wBT (X : Cx) (scope : Scope) (ifs : List Expr) : TT := fun σ H Q => ∀ s0 H0 C cl fp (pins : List (Addr × Obj)) (s : Shared), Inv (X.blk s0 H0 scope (compEnvC scope cl C X.env) fp) pins σ H s → match ifs with
  | [] => Q true H
  | [c] => wpAny (model X.prog X.w) X.A (isTrue c (compEnvC scope cl C X.env) (eval c (compEnvC scope cl C X.env))) (TP (X.blk s0 H0 scope (compEnvC scope cl C X.env) fp) pins σ Q) (fun _ _ => False) s
  | _ => False
theorem pe_wB {scope : Scope} {elt : Expr} (s0 : Shared) (H0 : Hp) (C : Addr) (cl : List (Str × Addr)) (fp : List Addr) : PE (X.blk s0 H0 scope (compEnvC scope cl C X.env) fp) elt (wB X scope elt) := ⟨fun pins s σ H Q I h => h s0 H0 C cl fp pins s I⟩
theorem pts_wB {scope : Scope} {ifs : List Expr} (s0 : Shared) (H0 : Hp) (C : Addr) (cl : List (Str × Addr)) (fp : List Addr) : PTs (X.blk s0 H0 scope (compEnvC scope cl C X.env) fp) ifs (wBT X scope ifs) := ⟨fun pins s σ H Q I h => by
  match ifs, h with
  | [], h => exact pts_nil.run pins s σ H Q I (h s0 H0 C cl fp pins s I)
  | [c], h => exact (pts_one (t := fun σ H Q => ∀ pins s, Inv (X.blk s0 H0 scope (compEnvC scope cl C X.env) fp) pins σ H s → wpAny (model X.prog X.w) X.A (isTrue c (compEnvC scope cl C X.env) (eval c (compEnvC scope cl C X.env))) (TP (X.blk s0 H0 scope (compEnvC scope cl C X.env) fp) pins σ Q) (fun _ _ => False) s) ⟨fun pins s σ H Q I h => h pins s I⟩).run pins s σ H Q I fun pins s I => h s0 H0 C cl fp pins s I
  | _ :: _ :: _, h => exact (h s0 H0 C cl fp pins s I).elim⟩
/-- what a comprehension asks at data: an invariant over what it has made -/
def LcD (X : Cx) (g : TG) (elt : Expr) (ifs : List Expr) (scope : Scope) (vs : List Nat) (ρ : Rho) (ds : List D) (G L1 : Led) (P : PK1) : Prop :=
  ∃ I : Nat → List D → Led → Prop, I 0 [] L1 ∧ (∀ i acc L2, I i acc L2 → SubL G L2) ∧
    (∀ i d acc L2, ds[i]? = some d → I i acc L2 → ∃ us b, GD X.K g d us ∧ (∀ u ∈ us, u.1 ∈ vs) ∧
      (∀ Y p, Blk X scope Y → PDTs Y ifs (setsD (wipeD ρ vs) us) ((p, .lst acc) :: L2) (fun t L4 => t = b ∧ L4 = (p, .lst acc) :: L2)) ∧
      (if b = true then ∀ Y p, Blk X scope Y → PD Y elt (setsD (wipeD ρ vs) us) ((p, .lst acc) :: L2) (fun y L6 => ∃ L7, Lw L6 ((p, .lst acc) :: L7) ∧ acc.length < sizeLine ∧ I (i + 1) (acc ++ [y]) L7) noR else I (i + 1) acc L2)) ∧
    ∀ acc L2, I ds.length acc L2 → ∀ p, P (.ref p) ((p, .lst acc) :: L2)
theorem noX {K : PySem.W.Frag} {F : Hp} {W : WX} {σ : St} : ∀ cls dd H', upX K F noR cls dd H' → W cls dd σ H' := fun _ _ _ ⟨_, _, _, _, _, _, _, _, _, _, _, _, z⟩ => z.elim
theorem lc_read {tg iter elt : Expr} {ifs : List Expr} {scope : Scope} {vs : List Nat} {g : TG} (h : PDI X tg iter ρ L (fun ds G L1 => LcD X g elt ifs scope vs ρ ds G L1 P) R) {σ : St} {H F : Hp} {W : WX} (A : At X ρ L R σ H F W) :
    tLc (wI X tg iter) g (wBT X scope ifs) (wB X scope elt) vs σ H (upV X.K F P) := by
  intro pins s I
  refine thn (h.go σ H F W A pins s I) fun v s1 h1 => thn h1 fun itv s2 h2 => ?_
  obtain ⟨it, fp, tn, J, H1, e1, I1, T, st1, f1, F1, ds, G, L1, s1', o1, ii, Iv, h0, hG, hstep, hend⟩ := h2
  refine ⟨it, fp, tn, J, H1, e1, I1, T, st1, f1, fun Dl hD => ?_⟩
  -- the word: the ledger with the new list ahead
  refine ⟨fun i m H2 => m = ds.length - i ∧ i ≤ ds.length ∧ ∃ F2 acc L2, Same F1 F2 ∧ Own X.K H2 F2 ((Dl, .lst acc) :: L2) ∧ Iv i acc L2, ⟨ds.length, by simp, Nat.zero_le _, F1, [], L1, Same.refl _, o1.push hD (x := .lst []) ⟨[], rfl, .nil⟩, h0⟩, ?_⟩
  rintro i m H2 ⟨rfl, hi, F2, acc, L2, s2', o2, q⟩
  obtain ⟨k1, k2⟩ := ii H2 F2 _ s2' o2 (hG i acc L2 q).cons i
  by_cases hlt : i < ds.length
  · obtain ⟨g1, g2⟩ := k2 (ds[i]) (by simp [hlt])
    refine .inr ⟨g1, fun H3 => ∃ F2 acc L2, Same F1 F2 ∧ Own X.K H3 F2 ((Dl, .lst acc) :: L2) ∧ Iv (i + 1) acc L2, fun H' p => ⟨ds.length - (i + 1), by omega, rfl, hlt, p⟩, fun x H' y => ?_⟩
    obtain ⟨F3, s3, o3, ix⟩ := g2 x H' y
    obtain ⟨us, b, hgd, hus, htest, helt⟩ := hstep i (ds[i]) acc L2 (by simp [hlt]) q
    refine hgd F3 H' _ (wipe σ vs) x _ o3 ix fun ws hw => ?_
    have hin : ∀ w ∈ ws, w.1 ∈ vs := by
      clear hgd htest helt
      induction hw with
      | nil => intro w z; cases z
      | cons r t ih =>
        intro w z
        rcases List.mem_cons.mp z with z | z
        · rw [z, r.1]
          exact hus _ (List.mem_cons_self ..)
        · exact ih (fun u hu => hus u (List.mem_cons_of_mem _ hu)) w z
    have sAll : Same F F3 := (s1'.trans s2').trans s3
    have ev : EnvOk X.K F3 (setsV (wipe σ vs) ws) (setsD (wipeD ρ vs) us) := env_sets (env_wipe (A.env.mono sAll) vs) hw
    have at3 : ∀ {Y : Cx} {H3 F4 : Hp} {L4 : Led}, Y.K = X.K → Same F3 F4 → Own X.K H3 F4 L4 → At Y (setsD (wipeD ρ vs) us) L4 noR (setsV (wipe σ vs) ws) H3 F4 (fun _ _ _ _ => False) := fun {Y H3 F4 L4} ek s4 o4 => ⟨by rw [ek]; exact ev.mono s4, by rw [ek]; exact o4, takes0, fun _ _ _ ⟨_, _, _, _, _, _, _, _, _, _, _, _, z⟩ => z⟩
    -- behind the test
    have fin : ∀ {t : Bool} {H3 : Hp}, upB X.K F3 (fun t L4 => t = b ∧ L4 = (Dl, OD.lst acc) :: L2) t H3 →
        if t = true then wB X scope elt (setsV (wipe σ vs) ws) H3 fun y H4 => ∃ acc, H4 Dl = some (.lst acc) ∧ acc.length < sizeLine ∧ ∃ F2 acc' L2, Same F1 F2 ∧ Own X.K (upd H4 Dl (.lst (acc ++ [y]))) F2 ((Dl, .lst acc') :: L2) ∧ Iv (i + 1) acc' L2
        else ∃ F2 acc L2, Same F1 F2 ∧ Own X.K H3 F2 ((Dl, .lst acc) :: L2) ∧ Iv (i + 1) acc L2 := by
      rintro t H3 ⟨F4, L4, s4, o4, rfl, rfl⟩
      cases t with
      | false => exact ⟨F4, acc, L2, (s2'.trans s3).trans s4, o4, helt⟩
      | true =>
        have helt : ∀ Y p, Blk X scope Y → PD Y elt (setsD (wipeD ρ vs) us) ((p, .lst acc) :: L2) (fun y L6 => ∃ L7, Lw L6 ((p, .lst acc) :: L7) ∧ acc.length < sizeLine ∧ Iv (i + 1) (acc ++ [y]) L7) noR := helt
        intro s0 H0 C cl fp
        refine ((helt _ Dl ⟨s0, H0, C, cl, fp, rfl⟩).go _ _ _ _ (at3 rfl s4 o4)).mono fun y H4 ⟨F5, d5, L6, s5, o5, i5, L7, e7, hl7, q7⟩ => ?_
        have o5 := e7.own o5
        obtain ⟨_, u, g1, ys, rfl, h2⟩ := o5.cell _ (List.mem_cons_self ..)
        exact ⟨ys, g1, by rw [h2.length]; exact hl7, F5, acc ++ [d5], L7, ((s2'.trans s3).trans s4).trans s5, o5.write (Foc.here : Foc Dl (.lst acc) (.lst (acc ++ [d5])) ((Dl, .lst acc) :: L7) ((Dl, .lst (acc ++ [d5])) :: L7)) ⟨_, rfl, h2.append (.cons i5 .nil)⟩, q7⟩
    refine ⟨by rw [wipe_sets hin, wipe_wipe], fun s0 H0 C cl fp' pins' s' I' => ?_⟩
    match ifs, htest with
    | [], htest => exact fin ⟨F3, _, Same.refl _, o3, htest (X.blk s0 H0 scope (compEnvC scope cl C X.env) fp') Dl ⟨s0, H0, C, cl, fp', rfl⟩⟩
    | [c], htest =>
      have ht : PDT (X.blk s0 H0 scope (compEnvC scope cl C X.env) fp') c (setsD (wipeD ρ vs) us) ((Dl, .lst acc) :: L2) (fun t L4 => t = b ∧ L4 = (Dl, .lst acc) :: L2) noR := htest _ Dl ⟨s0, H0, C, cl, fp', rfl⟩
      exact thn (ht.go _ _ _ _ (at3 rfl (Same.refl _) o3) pins' s' I') fun t s5 ⟨H5, I5, q5⟩ => ⟨H5, I5, fin q5⟩
    | _ :: _ :: _, htest => exact (htest _ Dl ⟨s0, H0, C, cl, fp', rfl⟩ : False).elim
  · have e : i = ds.length := by omega
    subst e
    exact .inl ⟨k1 (Nat.le_refl _), F2, _, _, s1'.trans s2', o2, .sc _, hend acc L2 q Dl⟩
theorem wLc_mono {wi : TI} {g : TG} {tt : TT} {te : TE} {vs : List Nat} {σ : St} {H : Hp} {Q Q' : VK} (h : tLc wi g tt te vs σ H Q) (q : ∀ v H', Q v H' → Q' v H') (hw : ∀ σ H R R', (∀ J H', R J H' → R' J H') → wi σ H R → wi σ H R') : tLc wi g tt te vs σ H Q' := by
  refine hw _ _ _ _ (fun J H1 h1 => ?_) h
  intro D hD
  obtain ⟨W, w0, hW⟩ := h1 D hD
  refine ⟨W, w0, fun i m H w => ?_⟩
  rcases hW i m H w with ⟨a, b⟩ | r
  · exact .inl ⟨a, q _ _ b⟩
  · exact .inr r
theorem wI_mono {tg iter : Expr} {σ : St} {H : Hp} {R R' : It → Hp → Prop} (q : ∀ J H', R J H' → R' J H') (h : wI X tg iter σ H R) : wI X tg iter σ H R' := fun pins s I =>
  thn (h pins s I) fun v s1 h1 => thn h1 fun itv s2 ⟨it, fp, tn, J, H1, e1, I1, T, st1, f1, r⟩ => ⟨it, fp, tn, J, H1, e1, I1, T, st1, f1, q _ _ r⟩
theorem pd_lc {tg iter elt : Expr} {ifs : List Expr} {scope : Scope} {own : List (Str × Nat)} {g : TG} (hc : X.calm = true) (hN : X.N.Nodup) (ok : BlkOk X.N X.env.scope scope own)
    (hg : ∀ (s : Shared) (H : Hp) (C : Addr) (cl : List (Str × Addr)) (fp : List Addr), PG (X.blk s H scope (compEnvC scope cl C X.env) fp) tg g)
    (h : PDI X tg iter ρ L (fun ds G L1 => LcD X g elt ifs scope (own.map (·.2)) ρ ds G L1 P) R) (hs : ∀ x, foldedSetIterable iter X.env x = pure x := by intro _; rfl) : PD X (.ListComp elt [⟨tg, iter, ifs, 0⟩] scope pos) ρ L P R :=
  pd_of (pe_lc hc hN pi_w ok hg (fun s0 H0 C cl fp => pts_wB s0 H0 C cl fp) (fun s0 H0 C cl fp => pe_wB s0 H0 C cl fp) hs) fun σ H F W A => lc_read h A
theorem pds_setLc {i : Nat} {y : Str} {py spos : Pos} {tg iter elt : Expr} {ifs : List Expr} {scope : Scope} {own : List (Str × Nat)} {g : TG} (hc : X.calm = true) (hN : X.N.Nodup) (hy : X.N[i]? = some y) (hyl : X.env.scope.names.lookup y = some .local)
    (hsw : swapsWith (.ListComp elt [⟨tg, iter, ifs, 0⟩] scope pos) (some (.Name y py)) spos.line X.env = pure true) (ok : BlkOk X.N X.env.scope scope own)
    (hg : ∀ (s : Shared) (H : Hp) (C : Addr) (cl : List (Str × Addr)) (fp : List Addr), PG (X.blk s H scope (compEnvC scope cl C X.env) fp) tg g)
    (h : PDI X tg iter ρ L (fun ds G L1 => LcD X g elt ifs scope (own.map (·.2)) ρ ds G L1 (fun d L2 => E.nx (ρ.set i (some d)) L2)) (E.ex ρ)) (hs : ∀ x, foldedSetIterable iter X.env x = pure x := by intro _; rfl) :
    PDS X (.Assign [.Name y py] (.ListComp elt [⟨tg, iter, ifs, 0⟩] scope pos) spos) E ρ L :=
  pds_of (ps_setLc hc hN hy hyl hsw pi_w ok hg (fun s0 H0 C cl fp => pts_wB s0 H0 C cl fp) (fun s0 H0 C cl fp => pe_wB s0 H0 C cl fp) hs) fun σ H F W A => by
    exact wLc_mono (lc_read h A.at) (fun v H1 ⟨F1, d, L1, s1, o1, i1, q⟩ => ⟨F1, _, L1, s1, o1, (A.env.mono s1).set i1 i, q⟩) fun σ H R R' q => wI_mono q
end
end D2
end
section
set_option Elab.async false
set_option linter.all false
set_option maxRecDepth 100000
set_option maxHeartbeats 2000000
/-! Tables of tuples of any of five sizes: the round of x -> 5 x + 1 by the powers of two. -/
namespace BigT
open PySem L2

/-- 1 + 5 + .. + 5^(n-1) -/
def geo : Nat → Nat
  | 0 => 0
  | n + 1 => 5 * geo n + 1
theorem geo_split (a : Nat) : ∀ d, geo (d + a) = 5 ^ d * geo a + geo d
  | 0 => by
    rw [Nat.zero_add, Nat.pow_zero, Nat.one_mul]
    exact (Nat.add_zero _).symm
  | d + 1 => by
    have e : d + 1 + a = (d + a) + 1 := by omega
    rw [e]
    show 5 * geo (d + a) + 1 = 5 ^ (d + 1) * geo a + (5 * geo d + 1)
    rw [geo_split a d, Nat.pow_succ, Nat.mul_add, ← Nat.mul_assoc, Nat.mul_comm 5 (5 ^ d)]
    omega
theorem pow5_mod4 : ∀ n, 5 ^ n % 4 = 1
  | 0 => rfl
  | n + 1 => by
    rw [Nat.pow_succ, Nat.mul_mod, pow5_mod4 n]
theorem pow5_geo : ∀ n, 5 ^ n = 4 * geo n + 1
  | 0 => rfl
  | n + 1 => by
    rw [Nat.pow_succ, pow5_geo n]
    show (4 * geo n + 1) * 5 = 4 * (5 * geo n + 1) + 1
    omega
theorem geo_parity : ∀ n, geo n % 2 = n % 2
  | 0 => rfl
  | n + 1 => by
    have := geo_parity n
    show (5 * geo n + 1) % 2 = (n + 1) % 2
    omega
theorem odd_cancel {k x y : Nat} (hy : y % 2 = 1) (h : 2 ^ k ∣ y * x) : 2 ^ k ∣ x := by
  have c : Nat.Coprime 2 y := by
    have h1 := Nat.gcd_dvd_left 2 y
    have h2 := Nat.le_of_dvd (by decide) h1
    have h3 : 0 < Nat.gcd 2 y := Nat.gcd_pos_of_pos_left _ (by decide)
    have h4 : Nat.gcd 2 y ≠ 2 := fun e => by
      have h5 := Nat.gcd_dvd_right 2 y
      rw [e] at h5
      omega
    show Nat.gcd 2 y = 1
    omega
  exact Nat.Coprime.dvd_of_dvd_mul_left (Nat.Coprime.pow_left k c) h
/-- 2^k divides geo d only if it divides d -/
theorem geo_dvd : ∀ (k d : Nat), 2 ^ k ∣ geo d → 2 ^ k ∣ d
  | 0, d, _ => by rw [Nat.pow_zero]; exact Nat.one_dvd d
  | k + 1, d, h => by
    have h2 : 2 ∣ geo d := Nat.dvd_trans ⟨2 ^ k, by rw [Nat.pow_succ, Nat.mul_comm]⟩ h
    have hp := geo_parity d
    obtain ⟨e, rfl⟩ : ∃ e, d = e + e := ⟨d / 2, by omega⟩
    have hs : geo (e + e) = (5 ^ e + 1) * geo e := by
      rw [geo_split, Nat.add_mul, Nat.one_mul]
    have h5 := pow5_mod4 e
    obtain ⟨q, hq⟩ : ∃ q, 5 ^ e + 1 = 2 * (2 * q + 1) := ⟨(5 ^ e + 1) / 4, by omega⟩
    rw [hs, hq, Nat.pow_succ, Nat.mul_comm (2 ^ k) 2, Nat.mul_assoc] at h
    have h' : 2 ^ k ∣ (2 * q + 1) * geo e := Nat.dvd_of_mul_dvd_mul_left (by decide) h
    obtain ⟨z, hz⟩ := geo_dvd k e (odd_cancel (by omega) h')
    refine ⟨z, ?_⟩
    rw [Nat.pow_succ, hz]
    have : 2 ^ k * 2 * z = 2 ^ k * z + 2 ^ k * z := by
      rw [Nat.mul_assoc, Nat.mul_comm 2 z, ← Nat.mul_assoc, Nat.mul_two]
    omega
/-- from any start: the n-th number of the round -/
theorem lcg_closed (m i : Nat) (hi : i ≤ m) : ∀ n, lcgI m i n = (5 ^ n * i + geo n) % (m + 1)
  | 0 => by
    show i = (5 ^ 0 * i + 0) % (m + 1)
    rw [Nat.pow_zero, Nat.one_mul, Nat.add_zero, Nat.mod_eq_of_lt (by omega)]
  | n + 1 => by
    show (lcgI m i n * 5 + 1) % (m + 1) = (5 ^ (n + 1) * i + (5 * geo n + 1)) % (m + 1)
    rw [lcg_closed m i hi n, Nat.add_mod, Nat.mul_mod, Nat.mod_mod, ← Nat.mul_mod, ← Nat.add_mod, Nat.pow_succ]
    congr 1
    rw [Nat.add_mul, Nat.mul_assoc, Nat.mul_comm i 5, ← Nat.mul_assoc]
    omega
theorem lcg_inj {k i a d : Nat} (hi : i ≤ 2 ^ k - 1) (hd : 0 < d) (hl : d < 2 ^ k) : lcgI (2 ^ k - 1) i a ≠ lcgI (2 ^ k - 1) i (a + d) := by
  intro e
  have hpos : 0 < 2 ^ k := Nat.pow_pos (by decide)
  have em : 2 ^ k - 1 + 1 = 2 ^ k := by omega
  rw [lcg_closed _ _ hi, lcg_closed _ _ hi, em] at e
  have g1 : 5 ^ (a + d) * i + geo (a + d) = 5 ^ a * ((4 * i + 1) * geo d) + (5 ^ a * i + geo a) := by
    rw [geo_split, Nat.pow_add]
    have h5 := pow5_geo d
    rw [h5]
    have x1 : 5 ^ a * (4 * geo d + 1) * i = 5 ^ a * (4 * geo d * i) + 5 ^ a * i := by
      rw [Nat.mul_assoc, Nat.add_mul, Nat.one_mul, Nat.mul_add]
    have x2 : 5 ^ a * ((4 * i + 1) * geo d) = 5 ^ a * (4 * geo d * i) + 5 ^ a * geo d := by
      rw [Nat.add_mul, Nat.one_mul, Nat.mul_add]
      congr 2
      rw [Nat.mul_assoc, Nat.mul_assoc, Nat.mul_comm i]
    rw [x1, x2]
    omega
  rw [g1] at e
  have hdv : 2 ^ k ∣ 5 ^ a * ((4 * i + 1) * geo d) := by
    have := Nat.sub_mod_eq_zero_of_mod_eq e.symm
    rw [Nat.add_sub_cancel] at this
    exact Nat.dvd_of_mod_eq_zero this
  have h1 := odd_cancel (by have := pow5_mod4 a; omega) hdv
  have h2 := geo_dvd k d (odd_cancel (by omega) h1)
  exact absurd (Nat.le_of_dvd hd h2) (by omega)
theorem lcgI_le (m i : Nat) (hi : i ≤ m) : ∀ n, lcgI m i n ≤ m
  | 0 => hi
  | n + 1 => Nat.le_of_lt_succ (Nat.mod_lt _ (Nat.succ_pos m))
/-- each number is met -/
theorem lcg_meets {k i j : Nat} (hi : i ≤ 2 ^ k - 1) (hj : j ≤ 2 ^ k - 1) : ∃ n, n ≤ 2 ^ k - 1 ∧ lcgI (2 ^ k - 1) i n = j := by
  have hpos : 0 < 2 ^ k := Nat.pow_pos (by decide)
  rcases Classical.em (∃ n, n ≤ 2 ^ k - 1 ∧ lcgI (2 ^ k - 1) i n = j) with c | c
  · exact c
  · exfalso
    have nd : ((List.range (2 ^ k)).map (lcgI (2 ^ k - 1) i)).Nodup := by
      rw [List.Nodup, List.pairwise_map]
      refine List.Pairwise.imp_of_mem (fun {x y} hx hy hlt => ?_) List.pairwise_lt_range
      have h1 := List.mem_range.mp hx
      have h2 := List.mem_range.mp hy
      have e : y = x + (y - x) := by omega
      rw [e]
      exact lcg_inj hi (by omega) (by omega)
    have nj : j ∉ (List.range (2 ^ k)).map (lcgI (2 ^ k - 1) i) := fun hm => by
      obtain ⟨n, hn, e⟩ := List.mem_map.mp hm
      have := List.mem_range.mp hn
      exact c ⟨n, by omega, e⟩
    have q := nat_nodup_len (j :: (List.range (2 ^ k)).map (lcgI (2 ^ k - 1) i)) (List.range (2 ^ k)) (List.nodup_cons.mpr ⟨nj, nd⟩) fun x hx => by
      rcases List.mem_cons.mp hx with e | hx
      · rw [e]; exact List.mem_range.mpr (by omega)
      · obtain ⟨n, _, e⟩ := List.mem_map.mp hx
        have := lcgI_le (2 ^ k - 1) i hi n
        rw [← e]
        exact List.mem_range.mpr (by omega)
    rw [List.length_cons, List.length_map, List.length_range] at q
    omega
/-- the masks that come with at most 1,228 members -/
def Msk (m : Nat) : Prop := ∃ k, (k = 3 ∨ k = 5 ∨ k = 7 ∨ k = 9 ∨ k = 11) ∧ m = 2 ^ k - 1
theorem Msk.cases {m : Nat} (h : Msk m) : m = 7 ∨ m = 31 ∨ m = 127 ∨ m = 511 ∨ m = 2047 := by
  obtain ⟨k, h, rfl⟩ := h
  rcases h with rfl | rfl | rfl | rfl | rfl <;> decide
theorem msk_round {m i j : Nat} (h : Msk m) (hi : i ≤ m) (hj : j ≤ m) : ∃ n, n ≤ m ∧ lcgI m i n = j := by
  obtain ⟨k, _, rfl⟩ := h
  exact lcg_meets hi hj
theorem msk_odd {m : Nat} (h : Msk m) : m % 2 = 1 := by
  rcases h.cases with rfl | rfl | rfl | rfl | rfl <;> rfl
theorem msk_le {m : Nat} (h : Msk m) : m ≤ 2047 := by
  rcases h.cases with rfl | rfl | rfl | rfl | rfl <;> decide
theorem start_meets {m : Nat} (hm : Msk m) (h : Int) {j : Nat} (hj : j ≤ m) : ∃ n, n ≤ m + 12 ∧ runI m (SetTable.bits h) n = j := by
  obtain ⟨n, hn, e⟩ := msk_round hm (runI_le m (SetTable.bits h) 12) hj
  refine ⟨12 + n, by omega, ?_⟩
  rw [runI_tail (bits_lt h), e]
theorem way_meets {m : Nat} (hm : Msk m) (h : Int) {j : Nat} (hj : j ≤ m) : ∃ n, n < 10 * SetTable.turns m ∧ way m h n = j := by
  obtain ⟨r, hr, e⟩ := start_meets hm h hj
  obtain ⟨n, hn, e2⟩ := run_nth m (SetTable.bits h) r
  refine ⟨n, ?_, ?_⟩
  · show n < 10 * (m + 15)
    omega
  · unfold way
    rw [e2]
    exact e
theorem way_in (m : Nat) (h : Int) (n : Nat) : way m h n ≤ m := by
  have hi : SetTable.bits h % (m + 1) ≤ m := Nat.le_of_lt_succ (Nat.mod_lt _ (Nat.succ_pos _))
  have r := runEnd_bd hi
  have q := nth_in n (runAt m (SetTable.bits h % (m + 1)) (SetTable.bits h)) (m := m) (by unfold runAt; dsimp only; omega)
  unfold way
  omega

/-! ### a table whose members are found again -/
structure Tab (t : SetTable) (hs : List Int) : Prop where
  up : Ris t.place.toList
  nodm : t.dummies = #[]
  size : t.place.size = hs.length
  msk : Msk t.mask
  low : ∀ x ∈ t.place.toList, x ≤ t.mask
  way : ∀ (i : Nat) (h : Int) (j : Nat), hs[i]? = some h → t.place.toList[i]? = some j → ∃ n, L2.way t.mask h n = j ∧ ∀ n', n' < n → L2.way t.mask h n' ∈ t.place.toList
theorem Tab.empty_on {t : SetTable} {hs : List Int} (T : Tab t hs) (hl : hs.length ≤ t.mask) (h : Int) :
    ∃ n, n < 10 * SetTable.turns t.mask ∧ L2.way t.mask h n ∉ t.place.toList ∧ ∀ n', n' < n → L2.way t.mask h n' ∈ t.place.toList := by
  have short : t.place.toList.length < t.mask + 1 := by
    have := T.size
    simp only [Array.length_toList]
    omega
  obtain ⟨j, hj, out⟩ := st_missing _ _ short
  obtain ⟨n, hn, rfl⟩ := way_meets T.msk h (Nat.le_of_lt_succ hj)
  obtain ⟨n0, a, b, c⟩ := st_least (p := fun n => L2.way t.mask h n ∉ t.place.toList) n out
  exact ⟨n0, by omega, b, fun n' hn' => Classical.not_not.mp (c n' hn')⟩
theorem Tab.ahead {t : SetTable} {hs : List Int} (T : Tab t hs) {h : Int} {n i j : Nat} (out : L2.way t.mask h n ∉ t.place.toList) (hi : hs[i]? = some h) (hj : t.place.toList[i]? = some j) : ∃ c, c < n ∧ L2.way t.mask h c = j := by
  obtain ⟨c, rfl, before⟩ := T.way i h j hi hj
  have inn : L2.way t.mask h c ∈ t.place.toList := List.mem_of_getElem? hj
  rcases Nat.lt_trichotomy c n with z | z | z
  · exact ⟨c, z, rfl⟩
  · subst z; exact absurd inn out
  · exact absurd (before n z) out
theorem Tab.put {t : SetTable} {hs : List Int} (T : Tab t hs) {h : Int} {n p : Nat} (out : L2.way t.mask h n ∉ t.place.toList) (before : ∀ c, c < n → L2.way t.mask h c ∈ t.place.toList) (hp : p = SetTable.below t.place (L2.way t.mask h n)) :
    (t.put (L2.way t.mask h n)).2 = p ∧ p ≤ hs.length ∧ Tab (t.put (L2.way t.mask h n)).1 (hs.take p ++ h :: hs.drop p) ∧ (t.put (L2.way t.mask h n)).1.mask = t.mask ∧ (t.put (L2.way t.mask h n)).1.led = t.led ∧
      (t.put (L2.way t.mask h n)).1.plain = t.plain ∧ (t.put (L2.way t.mask h n)).1.fill = hs.length + 1 := by
  have jm := way_in t.mask h n
  generalize hj : L2.way t.mask h n = j at out jm hp ⊢
  have same : t.place.toList.length = hs.length := by rw [Array.length_toList, T.size]
  have bound : p ≤ t.place.size := by rw [hp]; exact (below_cut T.up j).1
  have bound' : p ≤ hs.length := by rw [← T.size]; exact bound
  have bl : p ≤ t.place.toList.length := by rw [same]; exact bound'
  have places : (t.put j).1.place.toList = t.place.toList.take p ++ j :: t.place.toList.drop p := by rw [hp]; exact put_place t j
  have count : (t.put j).1.place.size = hs.length + 1 := by rw [← Array.length_toList, places, len_ins _ bl, same]
  have stays : ∀ {x : Nat}, x ∈ t.place.toList → x ∈ (t.put j).1.place.toList := fun hx => by rw [places]; exact mem_ins.mpr (.inr hx)
  have dm := put_dm T.nodm j
  refine ⟨hp.symm, bound', ⟨?_, dm, by rw [len_ins _ bound', count], T.msk, fun x hx => ?_, fun i h' j' h1 h2 => ?_⟩, rfl, rfl, rfl, ?_⟩
  · refine ris_insert T.up fun e => out ?_
    exact List.mem_of_getElem? (by rw [Array.getElem?_toList]; exact e)
  · rw [places] at hx
    rcases mem_ins.mp hx with rfl | hx
    · exact jm
    · exact T.low x hx
  · rw [places, tins_get _ bl] at h2
    rw [tins_get _ bound'] at h1
    rcases Nat.lt_trichotomy i p with z | z | z
    · rw [if_pos z] at h1 h2
      obtain ⟨c, e, b⟩ := T.way i h' j' h1 h2
      exact ⟨c, e, fun c' hc => stays (b c' hc)⟩
    · subst z
      simp only [Nat.lt_irrefl, if_false, if_true, Option.some.injEq] at h1 h2
      subst h1 h2
      exact ⟨n, hj, fun c hc => stays (before c hc)⟩
    · rw [if_neg (by omega), if_neg (by omega)] at h1 h2
      obtain ⟨c, e, b⟩ := T.way (i - 1) h' j' h1 h2
      exact ⟨c, e, fun c' hc => stays (b c' hc)⟩
  · unfold SetTable.fill
    rw [count, dm]
    rfl

/-! ### laid anew -/
theorem free_at {m : Nat} (hm : Msk m) (owner : Array (Option Nat)) (h : Int) {j : Nat} (hj : j ≤ m) (hf : oAt owner j = none) :
    ∃ n, SetTable.layClean.free m owner (SetTable.turns m) (SetTable.bits h % (m + 1)) (SetTable.bits h) = some (L2.way m h n) ∧ oAt owner (L2.way m h n) = none ∧ ∀ c, c < n → oAt owner (L2.way m h c) ≠ none := by
  obtain ⟨r, hr, er⟩ := start_meets hm h hj
  have there : L2.way m h (off m (SetTable.bits h % (m + 1)) (SetTable.bits h) r) = j := by
    unfold L2.way
    rw [nth_off, itL_run]
    exact er
  obtain ⟨n, a, b, c⟩ := st_least (p := fun c => oAt owner (L2.way m h c) = none) _ (show oAt owner (L2.way m h (off m (SetTable.bits h % (m + 1)) (SetTable.bits h) r)) = none by rw [there]; exact hf)
  refine ⟨n, free_spec m owner _ r _ _ n ?_ a (fun c' hc' => ?_) ?_, b, c⟩
  · show r < m + 15
    omega
  · have := c c' hc'
    exact Option.isNone_eq_false_iff.mpr (Option.isSome_iff_ne_none.mpr this)
  · exact Option.isNone_iff_eq_none.mpr b
structure Seats (m : Nat) (done : List Int) (owner : Array (Option Nat)) : Prop where
  size : owner.size = m + 1
  who : ∀ j c, j ≤ m → oAt owner j = some c → ∃ h n, done[c]? = some h ∧ L2.way m h n = j ∧ ∀ n', n' < n → oAt owner (L2.way m h n') ≠ none
  each : ∀ c, c < done.length → ∃ j, j ≤ m ∧ oAt owner j = some c
  taken : ∃ ps : List Nat, ps.length = done.length ∧ ∀ j, j ≤ m → oAt owner j ≠ none → j ∈ ps
theorem seats_none (m : Nat) : Seats m [] (Array.replicate (m + 1) none) :=
  ⟨by simp, fun j c hj e => (by rw [oAt_init hj] at e; cases e), fun c hc => absurd hc (Nat.not_lt_zero c), [], rfl, fun j hj e => absurd (oAt_init hj) e⟩
theorem Seats.more {m : Nat} (hm : Msk m) {done : List Int} {owner : Array (Option Nat)} (S : Seats m done owner) (room : done.length ≤ m) (h : Int) :
    ∃ j, SetTable.layClean.free m owner (SetTable.turns m) (SetTable.bits h % (m + 1)) (SetTable.bits h) = some j ∧ Seats m (done ++ [h]) (owner.setIfInBounds j (some done.length)) := by
  obtain ⟨ps, lps, inps⟩ := S.taken
  obtain ⟨j0, lt0, out0⟩ := st_missing ps (m + 1) (by omega)
  have free0 : oAt owner j0 = none := Classical.not_not.mp fun z => out0 (inps j0 (by omega) z)
  obtain ⟨n, f1, f2, f3⟩ := free_at hm owner h (Nat.le_of_lt_succ lt0) free0
  have jm := way_in m h n
  generalize hj : L2.way m h n = j at f1 f2 jm
  have self : oAt (owner.setIfInBounds j (some done.length)) j = some done.length := oAt_set_self _ (by rw [S.size]; omega)
  have other : ∀ {i}, i ≠ j → oAt (owner.setIfInBounds j (some done.length)) i = oAt owner i := fun c => oAt_set_ne _ c
  have keeps : ∀ {i}, oAt owner i ≠ none → oAt (owner.setIfInBounds j (some done.length)) i ≠ none := fun {i} z => by
    rcases Classical.em (i = j) with c | c
    · rw [c, self]; exact fun e => nomatch e
    · rw [other c]; exact z
  refine ⟨j, f1, ⟨by rw [Array.size_setIfInBounds, S.size], fun i c hi e => ?_, fun c hc => ?_, j :: ps, by rw [List.length_cons, List.length_append, lps]; rfl, fun i hi e => ?_⟩⟩
  · rcases Classical.em (i = j) with z | z
    · subst z
      rw [self] at e
      cases e
      exact ⟨h, n, by simp, hj, fun n' hn' => keeps (f3 n' hn')⟩
    · rw [other z] at e
      obtain ⟨h', n', a, b, d⟩ := S.who i c hi e
      exact ⟨h', n', by rw [List.getElem?_append_left (List.getElem?_eq_some_iff.mp a).1]; exact a, b, fun n'' hn => keeps (d n'' hn)⟩
  · rw [List.length_append, List.length_singleton] at hc
    rcases Nat.lt_or_ge c done.length with z | z
    · obtain ⟨i, hi, e⟩ := S.each c z
      exact ⟨i, hi, by rw [other (fun y => by rw [y, f2] at e; cases e)]; exact e⟩
    · obtain rfl : c = done.length := by omega
      exact ⟨j, jm, self⟩
  · rcases Classical.em (i = j) with z | z
    · rw [z]; exact List.mem_cons_self ..
    · rw [other z] at e
      exact List.mem_cons_of_mem _ (inps i hi e)
theorem seats_fold {m : Nat} (hm : Msk m) : ∀ (more done : List Int) (owner : Array (Option Nat)), Seats m done owner → done.length + more.length ≤ m →
    ∃ o', more.foldl (stepF m) (some (owner, done.length)) = some (o', (done ++ more).length) ∧ Seats m (done ++ more) o'
  | [], done, owner, S, _ => ⟨owner, by simp, by simpa using S⟩
  | h :: more, done, owner, S, l => by
    simp only [List.length_cons] at l
    obtain ⟨j, e, S'⟩ := S.more hm (by omega) h
    have l1 : (done ++ [h]).length = done.length + 1 := by simp
    obtain ⟨o', f, S2⟩ := seats_fold hm more (done ++ [h]) _ S' (by rw [l1]; omega)
    refine ⟨o', ?_, by simpa using S2⟩
    rw [List.foldl_cons, stepF_some e, ← l1, f]
    simp
theorem laid_ok {m : Nat} (hm : Msk m) {hs : Array Int} (hn : hs.size ≤ m) : ∃ owner, SetTable.layClean m hs = some owner ∧ Seats m hs.toList owner := by
  obtain ⟨o', f, S⟩ := seats_fold hm hs.toList [] _ (seats_none m) (by simpa using hn)
  refine ⟨o', ?_, by simpa using S⟩
  rw [layClean_eq]
  have f' : hs.toList.foldl (stepF m) (some (Array.replicate (m + 1) none, 0)) = some (o', ([] ++ hs.toList).length) := f
  rw [f']
  rfl
theorem relay_tab (t : SetTable) {hs : Array Int} {wanted M : Nat} (hw : SetTable.sizeAbove wanted = M + 1) (hM : Msk M) (hn : hs.size ≤ M) :
    ∃ t' order, t.relaid hs wanted = some (t', order) ∧ order.toList.Perm (List.range hs.size) ∧ Tab t' (order.toList.map fun i => hs.getD i 0) ∧ t'.mask = M ∧ t'.led = t.led ∧ t'.plain = t.plain := by
  obtain ⟨owner, e, S⟩ := laid_ok hM hn
  have hw' : SetTable.sizeAbove wanted - 1 = M := by omega
  have came : t.relaid hs wanted = some (tabOf t M owner, ((liveOf M owner).map (·.2)).toArray) := by
    rw [relaid_eq, hw', e]
    rfl
  obtain ⟨r1, r2⟩ := ris_live (fun j => owner.getD j none) (List.range (M + 1)) List.pairwise_lt_range
  have r1 : Ris ((liveOf M owner).map (·.1)) := r1
  have r2 : ∀ x ∈ (liveOf M owner).map (·.1), x ∈ List.range (M + 1) := r2
  have mem := fun {j k : Nat} => mem_live (j := j) (k := k) S.size
  have ndl : ((liveOf M owner).map (·.1)).Nodup := List.Pairwise.imp (fun h => Nat.ne_of_lt h) r1
  have le1 : (liveOf M owner).length ≤ hs.size := by
    obtain ⟨ps, p1, p2⟩ := S.taken
    have q := nat_nodup_len ((liveOf M owner).map (·.1)) ps ndl fun x hx => by
      obtain ⟨⟨y, c⟩, hy, rfl⟩ := List.mem_map.mp hx
      obtain ⟨a, b⟩ := mem.mp hy
      exact p2 _ a (by show oAt owner y ≠ none; rw [b]; exact fun z => nomatch z)
    rw [List.length_map, p1] at q
    simpa using q
  have all2 : ∀ c, c < hs.size → c ∈ (liveOf M owner).map (·.2) := fun c hc => by
    obtain ⟨j, a, b⟩ := S.each c (by simpa using hc)
    exact List.mem_map.mpr ⟨(j, c), mem.mpr ⟨a, b⟩, rfl⟩
  have ge1 : hs.size ≤ (liveOf M owner).length := by
    have q := nat_nodup_len (List.range hs.size) ((liveOf M owner).map (·.2)) List.nodup_range fun c hc => all2 c (List.mem_range.mp hc)
    simpa using q
  have len : (liveOf M owner).length = hs.size := Nat.le_antisymm le1 ge1
  refine ⟨_, _, came, perm_range _ _ (by simpa using len) all2, ⟨r1, rfl, by simp [tabOf], hM, fun x hx => ?_, fun i h j h1 h2 => ?_⟩, rfl, rfl, rfl⟩
  · have := List.mem_range.mp (r2 x hx)
    show x ≤ M
    omega
  · have h2 : ((liveOf M owner).map (·.1))[i]? = some j := h2
    have h1 : (((liveOf M owner).map (·.2)).map fun i => hs.getD i 0)[i]? = some h := h1
    cases hq : (liveOf M owner)[i]? with
    | none => rw [List.getElem?_map, hq] at h2; cases h2
    | some q =>
      obtain ⟨y, c⟩ := q
      rw [List.getElem?_map, hq] at h2
      rw [List.getElem?_map, List.getElem?_map, hq] at h1
      obtain rfl : y = j := Option.some.inj h2
      have h1 : hs.getD c 0 = h := Option.some.inj h1
      obtain ⟨a, b⟩ := mem.mp (List.mem_of_getElem? hq)
      obtain ⟨h0, n, s1, s2, s3⟩ := S.who y c a b
      have e0 : hs[c]? = some h0 := by rw [← Array.getElem?_toList]; exact s1
      rw [Array.getD_eq_getD_getElem?, e0] at h1
      obtain rfl : h0 = h := h1
      refine ⟨n, s2, fun n' hn' => ?_⟩
      obtain ⟨c', hc'⟩ := Option.ne_none_iff_exists'.mp (s3 n' hn')
      exact List.mem_map.mpr ⟨(_, c'), mem.mpr ⟨way_in M h0 n', hc'⟩, rfl⟩
end BigT
end
section
set_option Elab.async false
set_option linter.all false
set_option maxRecDepth 100000
set_option maxHeartbeats 4000000
/-! Sets of tuples of ints with at most 1,228 members: searched, added to. -/
namespace BigT
open PySem PySem.Spec PyProof.Rows L2

/-- at a: the set of the tuples L, each at its address -/
structure Full (P : Program) (w : World) (h : Heap) (a : Addr) (L : List (Addr × List Int)) (es : Array (Int × Value)) (ep : Nat) (t : SetTable) : Prop where
  obj : ∃ o, h.get? a = some o ∧ o.ExactSet ∧ o.data = .set es ep t
  rows : es.toList = rowsOf P w L
  tab : Tab t (L.map fun p => thash P w p.2)
  unlike : (L.map (·.2)).Nodup
  tups : ∀ p ∈ L, IsT P w h p.2 p.1
  plain : t.plain = true
  order : w.params.followText "set-order" = true ∨ t.led = true
  room : L.length * 5 < t.mask * 3
  few : L.length ≤ 1228
section
variable {P : Program} {w : World} {A : Around} {E : Value → Shared → Prop} {s : Shared} {a : Addr} {L : List (Addr × List Int)} {es : Array (Int × Value)} {ep : Nat} {t : SetTable}
theorem rows_len (h : es.toList = rowsOf P w L) : es.size = L.length := by
  rw [← Array.length_toList, h]
  exact List.length_map _
theorem fits_of {n : Nat} (hs : t.place.size = n) (hd : t.dummies = #[]) (hl : n ≤ t.mask) : t.fits n = true := by
  unfold SetTable.fits SetTable.fill
  rw [hs, hd]
  simp [hl]
theorem Full.fit (S : Full P w s.heap a L es ep t) : t.fits es.size = true := by
  have h1 := S.tab.size
  have h2 := S.room
  rw [List.length_map] at h1
  rw [rows_len S.rows]
  exact fits_of h1 S.tab.nodm (by omega)
theorem Full.at_ (S : Full P w s.heap a L es ep t) {i : Nat} {p : Addr × List Int} (h : L[i]? = some p) : es[i]? = some (thash P w p.2, Value.ref p.1) := by
  have e : (rowsOf P w L)[i]? = some (thash P w p.2, Value.ref p.1) := by unfold rowsOf; rw [List.getElem?_map, h]; rfl
  rw [← S.rows, Array.getElem?_toList] at e
  exact e
theorem Full.sits (S : Full P w s.heap a L es ep t) {i j : Nat} (h : t.place.toList[i]? = some j) : ∃ p, L[i]? = some p := by
  have h1 := (List.getElem?_eq_some_iff.mp h).1
  have h2 := S.tab.size
  rw [List.length_map] at h2
  rw [Array.length_toList] at h1
  exact ⟨L[i]'(by omega), List.getElem?_eq_getElem (by omega)⟩
theorem nodummy (m : Nat) : ∀ (n : Nat) (p : SetTable.Probe), p.dummy = none → (nth m p n).dummy = none
  | 0, _, h => h
  | n + 1, p, h => nodummy m n (adv m p) (by unfold adv; split <;> exact h)

/-- the first probe of a hash -/
abbrev p0 (m : Nat) (h : Int) : SetTable.Probe := runAt m (SetTable.bits h % (m + 1)) (SetTable.bits h)
/-- the search goes on from step c of the way; K: where the way is empty first -/
theorem look_from (S : Full P w s.heap a L es ep t) {x : Addr} {k : List Int} (hx : IsT P w s.heap k x) (hu : A.units < cLine) {K : Nat} (near : K < 10 * SetTable.turns t.mask)
    (out : way t.mask (thash P w k) K ∉ t.place.toList) (before : ∀ c, c < K → way t.mask (thash P w k) c ∈ t.place.toList) {Q : SetFound → Shared → Prop}
    (yes : k ∈ L.map (·.2) → Q (.there none) s) (no : k ∉ L.map (·.2) → Q (.free (way t.mask (thash P w k) K) false) s) (fuel : Nat) :
    ∀ (c : Nat) (stand : Option SetTable.Probe), stand.getD (t.probeStart (thash P w k)) = nth t.mask (p0 t.mask (thash P w k)) c → c ≤ K → K < c + fuel →
      (∀ (i : Nat) p, L[i]? = some p → p.2 = k → ∃ c', c ≤ c' ∧ c' < K ∧ t.place.toList[i]? = some (way t.mask (thash P w k) c')) → wpAny (model P w) A (setSearchFrom a (.ref x) (thash P w k) true fuel stand) Q E s := by
  obtain ⟨o, ho, hex, hd⟩ := S.obj
  generalize hh : thash P w k = h at *
  have gives : ¬ t.gaveWay = true := by
    unfold SetTable.gaveWay
    rw [msk_odd S.tab.msk]
    decide
  induction fuel with
  | zero => intro c _ _ h1 h2; omega
  | succ fuel again =>
    intro c stand hst hc hf ahead
    have walk : ∀ q, nth t.mask (nth t.mask (p0 t.mask h) c) q = nth t.mask (p0 t.mask h) (c + q) := fun q => (nth_add t.mask c _ q).symm
    have walkj : ∀ q, (nth t.mask (nth t.mask (p0 t.mask h) c) q).j = way t.mask h (c + q) := fun q => by rw [walk]
    have toK : c + (K - c) = K := by omega
    have known : ∀ (i : Nat) p, L[i]? = some p → (es[i]?.map (·.1)).getD 0 = thash P w p.2 := fun i p e => by rw [S.at_ e]; rfl
    have met := go_spec t S.tab.up S.tab.nodm (fun i => (es[i]?.map (·.1)).getD 0) h (10 * SetTable.turns t.mask) (K - c) (nth t.mask (p0 t.mask h) c) (nodummy _ _ _ rfl) (by omega) (fun q hq => by rw [walkj]; exact before _ (by omega)) (by rw [walkj, toK]; exact out)
    rw [setSearchFrom_succ]
    refine wpAny_bind (wpAny_setState_of ho hd S.fit ?_)
    dsimp only
    refine wp_if_neg gives ?_
    try refine wpAny_bind (wpAny_pure ?_)
    rcases met with ⟨q, i, q1, q2, q3, q4, q5⟩ | ⟨q4, q5⟩
    · have found : t.probe (fun i => (es[i]?.map (·.1)).getD 0) h (stand.getD (t.probeStart h)) = some (.candidate (way t.mask h (c + q)) i (nth t.mask (p0 t.mask h) (c + (q + 1)))) := by
        rw [hst, ← walkj, ← walk]
        exact q5
      rw [found]
      dsimp only
      rw [walkj] at q2
      obtain ⟨p, hp⟩ := S.sits q2
      have pin : p ∈ L := List.mem_of_getElem? hp
      have live : t.slot (way t.mask h (c + q)) = .live i := slot_live S.tab.up q2
      have main : wpAny (model P w) A (searchRest a (.ref x) h true fuel es t (way t.mask h (c + q)) i (nth t.mask (p0 t.mask h) (c + (q + 1)))) Q E s := by
        unfold searchRest
        rw [S.at_ hp]
        dsimp only
        refine wpAny_bind (wpAny_holding (wpAny_eqBool_tuple hu (S.tups p pin) hx (wpAny_bind (wpAny_setState_of ho hd S.fit ?_))))
        dsimp only
        rcases Classical.em (p.2 = k) with same | other
        · refine wp_if_pos (by simp [same]) (wpAny_pure (yes ?_))
          rw [← same]
          exact List.mem_map_of_mem pin
        · refine wp_if_neg (by simp [other]) ?_
          try refine wpAny_bind (wpAny_pure ?_)
          rw [sameMem]
          dsimp only
          simp only [if_true, live, S.at_ hp]
          refine wpAny_bind (wpAny_isSame_ref_self (wpAny_bind (wpAny_pure ?_)))
          simp only [if_true]
          refine wp_if_neg (by simp [other]) (again (c + (q + 1)) _ rfl (by omega) (by omega) fun i' p' h1 h2 => ?_)
          obtain ⟨c', l1, l2, l3⟩ := ahead i' p' h1 h2
          refine ⟨c', ?_, l2, l3⟩
          rcases Nat.lt_trichotomy c' (c + q) with z | z | z
          · exact absurd (by rw [← hh, ← h2]; exact known i' p' h1) (q4 (c' - c) i' (by omega) (by rw [walkj, Nat.add_sub_cancel' l1]; exact l3))
          · subst z
            have live' := slot_live S.tab.up l3
            rw [live] at live'
            cases live'
            rw [hp] at h1
            cases h1
            exact absurd h2 other
          · omega
      by_cases led : t.led = true
      · refine wp_if_neg (by simp [led]) ?_
        try refine wpAny_bind (wpAny_pure ?_)
        exact main
      · refine wp_if_pos (by simp [led]) (wpAny_bind (seen_tup hx (fun y hy => ?_) (wp_if_neg (by decide) ?_)))
        · obtain ⟨e, he, rfl⟩ := List.mem_map.mp hy
          have he2 : e ∈ es.toList := by
            have : e ∈ es ∧ e.1 = h := by simpa using he
            simpa using this.1
          rw [S.rows] at he2
          obtain ⟨p2, hp2, rfl⟩ := List.mem_map.mp he2
          exact ⟨p2.2, p2.1, rfl, S.tups p2 hp2⟩
        · try refine wpAny_bind (wpAny_pure ?_)
          exact main
    · have found : t.probe (fun i => (es[i]?.map (·.1)).getD 0) h (stand.getD (t.probeStart h)) = some (.empty (way t.mask h K) none) := by
        have e : (nth t.mask (nth t.mask (p0 t.mask h) c) (K - c)).j = way t.mask h K := by rw [walkj, toK]
        rw [hst, ← e]
        exact q5
      rw [found]
      dsimp only
      refine wpAny_pure (no fun hm => ?_)
      obtain ⟨p, hp, rfl⟩ := List.mem_map.mp hm
      obtain ⟨i, hi, e⟩ := List.getElem_of_mem hp
      have hi' : L[i]? = some p := by rw [List.getElem?_eq_getElem hi, e]
      obtain ⟨c', l1, l2, l3⟩ := ahead i p hi' rfl
      exact absurd (by rw [← hh]; exact known i p hi') (q4 (c' - c) i (by omega) (by rw [walkj, Nat.add_sub_cancel' l1]; exact l3))
theorem look (S : Full P w s.heap a L es ep t) {x : Addr} {k : List Int} (hx : IsT P w s.heap k x) (hu : A.units < cLine) {Q : SetFound → Shared → Prop} (yes : k ∈ L.map (·.2) → Q (.there none) s)
    (no : ∀ K, k ∉ L.map (·.2) → way t.mask (thash P w k) K ∉ t.place.toList → (∀ c, c < K → way t.mask (thash P w k) c ∈ t.place.toList) → Q (.free (way t.mask (thash P w k) K) false) s) :
    wpAny (model P w) A (setSearch a (.ref x) (thash P w k) true) Q E s := by
  obtain ⟨K, near, out, before⟩ := S.tab.empty_on (h := thash P w k) (by have := S.room; rw [List.length_map]; omega)
  have small : 10 * SetTable.turns t.mask ≤ 20620 := by
    have := msk_le S.tab.msk
    unfold SetTable.turns
    omega
  refine look_from S hx hu near out before yes (fun z => no K z out before) 100000 0 none rfl (Nat.zero_le K) (by omega) fun i p hp hk => ?_
  have hi : (L.map fun p => thash P w p.2)[i]? = some (thash P w k) := by rw [List.getElem?_map, hp, ← hk]; rfl
  have hl : i < t.place.toList.length := by
    have h1 := (List.getElem?_eq_some_iff.mp hp).1
    have h2 := S.tab.size
    rw [List.length_map] at h2
    rw [Array.length_toList]
    omega
  obtain ⟨c, c1, c2⟩ := S.tab.ahead out hi (List.getElem?_eq_getElem hl)
  exact ⟨c, Nat.zero_le c, c1, by rw [c2]; exact List.getElem?_eq_getElem hl⟩

theorem grow_facts : SetTable.sizeAbove (SetTable.grown 5) = 31 + 1 ∧ SetTable.sizeAbove (SetTable.grown 19) = 127 + 1 ∧ SetTable.sizeAbove (SetTable.grown 77) = 511 + 1 ∧ SetTable.sizeAbove (SetTable.grown 307) = 2047 + 1 := by decide +kernel
theorem msk31 : Msk 31 := ⟨5, by decide, by decide⟩
theorem msk127 : Msk 127 := ⟨7, by decide, by decide⟩
theorem msk511 : Msk 511 := ⟨9, by decide, by decide⟩
theorem msk2047 : Msk 2047 := ⟨11, by decide, by decide⟩
/-- laid anew in a larger table -/
theorem relay {o : Obj} (ho : s.heap.get? a = some o) (hex : o.ExactSet) (hd : o.data = .set es ep t) (rows : es.toList = rowsOf P w L) (size : t.place.size = L.length) (nodm : t.dummies = #[]) (fill : L.length ≤ t.mask)
    (unlike : (L.map (·.2)).Nodup) (tups : ∀ p ∈ L, IsT P w s.heap p.2 p.1) (plain : t.plain = true) (order : w.params.followText "set-order" = true ∨ t.led = true) (few : L.length ≤ 1228) {wanted M : Nat} (hw : SetTable.sizeAbove wanted = M + 1) (hM : Msk M) (room : L.length * 5 < M * 3) {Q : Unit → Shared → Prop}
    (q : ∀ h' L' es' ep' t', Heap.SameBut a s.heap h' → Full P w h' a L' es' ep' t' → L'.Perm L → Q () { s with heap := h' }) : wpAny (model P w) A (setRelay a wanted) Q E s := by
  have esz := rows_len rows
  have hM2 := msk_le hM
  obtain ⟨t', ord, r1, r2, r3, r4, r5, r6⟩ := relay_tab t (hs := es.map (·.1)) hw hM (by rw [Array.size_map, esz]; omega)
  rw [Array.size_map, esz] at r2
  obtain ⟨L', l1, l2, l3⟩ := order_rows L es ord rows r2
  rw [← l3] at r3
  have sz2 : (ord.filterMap (es[·]?)).size = L.length := by
    rw [← Array.length_toList, l1]
    unfold rowsOf
    rw [List.length_map, l2.length_eq]
  rw [setRelay_eq]
  refine wpAny_bind (wpAny_setState_of ho hd (by rw [esz]; exact fits_of size nodm fill) ?_)
  dsimp only
  refine wp_if_neg (by rw [hw, sizeLine_eq]; omega) ?_
  try refine wpAny_bind (wpAny_pure ?_)
  rw [r1]
  dsimp only
  refine wpAny_bind (wp_if_neg (by rw [sz2, esz]; simp) ?_)
  try refine wpAny_bind (wpAny_pure ?_)
  refine wpAny_pure ?_
  dsimp only
  refine wpAny_storeSet_of ho hd ?_ (by rw [sz2, sizeLine_eq]; omega)
  have but : Heap.SameBut a s.heap (s.heap.update a (Obj.putSet (ord.filterMap (es[·]?)) t')) := Heap.SameBut.update ..
  exact q _ L' _ (ep + 1) t' but ⟨⟨_, store_at ho hd, ⟨hex.1, hex.2.1, hex.2.2⟩, rfl⟩, l1, r3, (l2.map (·.2)).nodup_iff.mpr unlike, fun p hp => isT_same (tups p (l2.mem_iff.mp hp)) ho hd but, r6 ▸ plain, r5 ▸ order, by rw [l2.length_eq, r4]; exact room, by rw [l2.length_eq]; exact few⟩ l2
/-- a tuple is added -/
theorem add_one (S : Full P w s.heap a L es ep t) {x : Addr} {k : List Int} (hx : IsT P w s.heap k x) (hu : A.units < cLine) (few : L.length + 1 ≤ 1228) {Q : Bool → Shared → Prop}
    (q : ∀ b h' L' es' ep' t', Heap.SameBut a s.heap h' → Full P w h' a L' es' ep' t' → (k ∈ L.map (·.2) → L' = L) → (k ∉ L.map (·.2) → L'.Perm ((x, k) :: L)) → Q b { s with heap := h' }) :
    wpAny (model P w) A (setAddHashed a (.ref x) (thash P w k)) Q E s := by
  obtain ⟨o, ho, hex, hd⟩ := S.obj
  have room := S.room
  have byHand : ¬ byScan (.ref x) es = true := by simp [byScan, Value.scannable]
  unfold setAddHashed
  rw [show (100000 : Nat) = 99999 + 1 from rfl, setAddHashedIn_succ]
  refine wpAny_holding (wpAny_bind (wpAny_setState_of ho hd S.fit ?_))
  dsimp only
  refine wp_if_neg byHand ?_
  try refine wpAny_bind (wpAny_pure ?_)
  refine wpAny_bind (look S hx hu (fun hm => ?_) fun K hm out before => ?_)
  · dsimp only
    exact wpAny_pure (q false s.heap L es ep t (Heap.SameBut.refl a s.heap) S (fun _ => rfl) fun z => absurd hm z)
  dsimp only
  refine wpAny_bind (wpAny_setState_of ho hd S.fit ?_)
  dsimp only
  obtain ⟨p, hp⟩ : ∃ p, p = SetTable.below t.place (way t.mask (thash P w k) K) := ⟨_, rfl⟩
  obtain ⟨e1, e2, T1, e4, e5, e6, e7⟩ := S.tab.put out before hp
  rw [List.length_map] at e2 e7
  generalize hput : t.put (way t.mask (thash P w k) K) = pt at e1 T1 e4 e5 e6 e7 ⊢
  obtain ⟨t1, p'⟩ := pt
  dsimp only at e1 T1 e4 e5 e6 e7 ⊢
  subst e1
  have plain1 : t1.plain = true := e6.trans S.plain
  have order1 : w.params.followText "set-order" = true ∨ t1.led = true := e5 ▸ S.order
  first
    | (refine wpAny_bind ?_; refine wp_if_pos plain1 ?_; refine hashBy_tup hx ?_)
    | refine wp_if_pos plain1 (wpAny_bind (hashBy_tup hx ?_))
  simp only [if_true]
  have rows1 : (SetTable.insertAt es p' (thash P w k, Value.ref x)).toList = rowsOf P w (L.take p' ++ (x, k) :: L.drop p') := by rw [SetTable.toList_insertAt, S.rows, rows_put]
  have perm1 := put_perm L p' (x, k)
  rw [show (L.map fun p => thash P w p.2).take p' ++ thash P w k :: (L.map fun p => thash P w p.2).drop p' = (L.take p' ++ (x, k) :: L.drop p').map (fun p => thash P w p.2) by simp [List.map_take, List.map_drop]] at T1
  have esz := rows_len S.rows
  have esz1 := rows_len rows1
  have len1 : (L.take p' ++ (x, k) :: L.drop p').length = L.length + 1 := perm1.length_eq
  generalize SetTable.insertAt es p' (thash P w k, Value.ref x) = es1 at rows1 esz1 ⊢
  generalize L.take p' ++ (x, k) :: L.drop p' = L1 at T1 rows1 esz1 perm1 len1
  rw [len1] at esz1
  have unlike1 : (L1.map (·.2)).Nodup := (perm1.map (·.2)).nodup_iff.mpr (List.nodup_cons.mpr ⟨hm, S.unlike⟩)
  refine wpAny_bind (wpAny_storeSet_of ho hd ?_ (by rw [esz1, sizeLine_eq]; omega))
  have but := Heap.SameBut.update s.heap a (Obj.putSet es1 t1)
  have ho1 := store_at (es' := es1) (t' := t1) ho hd
  generalize s.heap.update a (Obj.putSet es1 t1) = h1 at but ho1 ⊢
  have tups1 : ∀ p ∈ L1, IsT P w h1 p.2 p.1 := fun p hp => by
    rcases List.mem_cons.mp (perm1.mem_iff.mp hp) with e | hp
    · subst e; exact isT_same hx ho hd but
    · exact isT_same (S.tups p hp) ho hd but
  have size1 : t1.place.size = L1.length := by
    have := T1.size
    rw [List.length_map] at this
    exact this
  by_cases full : t1.tooFull = true
  · first
      | (refine wpAny_bind ?_; refine wp_if_pos (by simp [full]) ?_)
      | (refine wp_if_pos (by simp [full]) ?_; refine wpAny_bind ?_)
    have much : (L.length + 1) * 5 ≥ t.mask * 3 := by
      unfold SetTable.tooFull at full
      rw [decide_eq_true_eq, e7, e4] at full
      exact full
    have next : ∃ M, SetTable.sizeAbove (SetTable.grown (L.length + 1)) = M + 1 ∧ Msk M ∧ (L.length + 1) * 5 < M * 3 := by
      rcases S.tab.msk.cases with e | e | e | e | e <;> rw [e] at much room
      · obtain e3 : L.length = 4 := by omega
        exact ⟨31, by rw [e3]; exact grow_facts.1, msk31, by omega⟩
      · obtain e3 : L.length = 18 := by omega
        exact ⟨127, by rw [e3]; exact grow_facts.2.1, msk127, by omega⟩
      · obtain e3 : L.length = 76 := by omega
        exact ⟨511, by rw [e3]; exact grow_facts.2.2.1, msk511, by omega⟩
      · obtain e3 : L.length = 306 := by omega
        exact ⟨2047, by rw [e3]; exact grow_facts.2.2.2, msk2047, by omega⟩
      · omega
    obtain ⟨M, m1, m2, m3⟩ := next
    rw [esz]
    exact relay (s := { s with heap := h1 }) ho1 ⟨hex.1, hex.2.1, hex.2.2⟩ rfl rows1 size1 T1.nodm (by rw [len1, e4]; omega) unlike1 tups1 plain1 order1 (by rw [len1]; exact few) m1 m2 (by rw [len1]; exact m3) fun h2 L2 es2 ep2 t2 but2 S2 perm2 =>
      wpAny_pure (q true h2 L2 es2 ep2 t2 (but.trans but2) S2 (fun z => absurd z hm) fun _ => perm2.trans perm1)
  · first
      | refine wp_if_neg (by simp [full]) ?_
      | (refine wpAny_bind ?_; refine wp_if_neg (by simp [full]) ?_; refine wpAny_pure ?_)
    refine wpAny_pure (q true h1 L1 es1 (ep + 1) t1 but ⟨⟨_, ho1, ⟨hex.1, hex.2.1, hex.2.2⟩, rfl⟩, rows1, T1, unlike1, tups1, plain1, order1, ?_, by rw [len1]; exact few⟩ (fun z => absurd z hm) fun _ => perm1)
    unfold SetTable.tooFull at full
    rw [decide_eq_true_eq, e7] at full
    rw [len1]
    omega
end
end BigT
end
section
set_option Elab.async false
set_option linter.all false
set_option maxRecDepth 100000
set_option maxHeartbeats 4000000
/-! Lists and sets of tuples of ints, sorted; any number of them. -/
namespace BigT
open PySem PySem.Spec PyProof.Rows L2 SrtO

/-- the order of tuples -/
def before : List Int → List Int → Bool
  | [], [] => false
  | [], _ :: _ => true
  | _ :: _, [] => false
  | x :: xs, y :: ys => if x = y then before xs ys else decide (x < y)
theorem before_asym : ∀ xs ys : List Int, before xs ys = true → before ys xs = false
  | [], [], _ => rfl
  | [], _ :: _, _ => rfl
  | _ :: _, [], h => by cases h
  | x :: xs, y :: ys, h => by
    unfold before at h ⊢
    by_cases e : x = y
    · rw [if_pos e] at h
      rw [if_pos e.symm]
      exact before_asym xs ys h
    · rw [if_neg e, decide_eq_true_eq] at h
      rw [if_neg (Ne.symm e), decide_eq_false_iff_not]
      omega
theorem before_neg : ∀ xs ys zs : List Int, before ys xs = false → before zs ys = false → before zs xs = false
  | [], _, [], _, _ => rfl
  | [], _, _ :: _, _, _ => rfl
  | _ :: _, [], _, h, _ => by cases h
  | _ :: _, _ :: _, [], _, h => by cases h
  | x :: xs, y :: ys, z :: zs, h1, h2 => by
    unfold before at h1 h2 ⊢
    by_cases e1 : y = x
    · rw [if_pos e1] at h1
      by_cases e2 : z = y
      · rw [if_pos e2] at h2
        rw [if_pos (e2.trans e1)]
        exact before_neg xs ys zs h1 h2
      · rw [if_neg e2, decide_eq_false_iff_not] at h2
        rw [if_neg (by omega), decide_eq_false_iff_not]
        omega
    · rw [if_neg e1, decide_eq_false_iff_not] at h1
      by_cases e2 : z = y
      · rw [if_neg (by omega), decide_eq_false_iff_not]
        omega
      · rw [if_neg e2, decide_eq_false_iff_not] at h2
        rw [if_neg (by omega), decide_eq_false_iff_not]
        omega
theorem before_tri : ∀ xs ys : List Int, before xs ys = false → before ys xs = false → xs = ys
  | [], [], _, _ => rfl
  | [], _ :: _, h, _ => by cases h
  | _ :: _, [], _, h => by cases h
  | x :: xs, y :: ys, h1, h2 => by
    unfold before at h1 h2
    by_cases e : x = y
    · rw [if_pos e] at h1
      rw [if_pos e.symm] at h2
      rw [e, before_tri xs ys h1 h2]
    · rw [if_neg e, decide_eq_false_iff_not] at h1
      rw [if_neg (Ne.symm e), decide_eq_false_iff_not] at h2
      omega
theorem swo_before (k : Value → List Int) : Swo fun v u => before (k v) (k u) := ⟨fun x y h => before_asym _ _ h, fun x y z h1 h2 => before_neg _ _ _ h1 h2⟩

section
variable {prog : Program} {w : World} {A : Around} {E : Value → Shared → Prop} {s : Shared} {Q : Bool → Shared → Prop}
theorem lex_run {b : Bool} {xs ys : List Value} {ns ms : List Int} (i : Nat) (hx : IntsAre xs ns) (hy : IntsAre ys ms) (h : Q (before ns ms) s) :
    PySem.W.KatLex prog w A b (decide (ns.length < ms.length)) Q (xs.zip ys) i s := by
  induction hx generalizing ys ms i with
  | nil =>
    cases hy with
    | nil => exact PySem.W.kat_nil h
    | @cons q u ys ms hy =>
      have e : decide (([] : List Int).length < (q :: ms).length) = true := decide_eq_true (by simp)
      rw [e]
      exact PySem.W.kat_nil h
  | @cons p t xs ns hx ih =>
    cases hy with
    | nil =>
      have e : decide ((p :: ns).length < ([] : List Int).length) = false := decide_eq_false (by simp)
      rw [e]
      exact PySem.W.kat_nil h
    | @cons q u ys ms hy =>
      have e : decide ((p :: ns).length < (q :: ms).length) = decide (ns.length < ms.length) := decide_eq_decide.mpr (by simp)
      rw [e]
      refine PySem.W.kat_cons (wpAny_eqBool_int ?_)
      unfold before at h
      by_cases same : p = q
      · rw [if_pos same] at h
        subst same
        rw [beq_self_eq_true]
        exact PySem.W.kat_yes (ih (i + 1) hy h)
      · rw [if_neg same] at h
        rw [show (p == q) = false from beq_eq_false_iff_ne.mpr same]
        exact PySem.W.kat_no (TS.oneLt_ints _ h)
theorem tups_cmp {vs : List Value} {k : Value → List Int} (hp : ∀ v ∈ vs, TS.TupInts s.heap v (k v)) : SrtO.Cmp prog w A s (tuples' true) (fun p => p.1 ∈ vs) (lt2 fun v u => before (k v) (k u)) := by
  intro p q m1 m2
  obtain ⟨a, xs, e1, ⟨o1, g1, _, n1, d1⟩, i1⟩ := hp _ m1
  obtain ⟨b, ys, e2, ⟨o2, g2, _, n2, d2⟩, i2⟩ := hp _ m2
  show wpAny (model prog w) A (keyLt' (tuples' true) p.1 q.1) (fun r s' => s' = s ∧ r = before (k p.1) (k q.1)) (fun _ _ => False) s
  generalize k p.1 = ns at i1 ⊢
  generalize k q.1 = ms at i2 ⊢
  rw [e1, e2]
  refine PySem.W.kat_lt g1 d1 g2 d2 ?_
  have l1 := i1.length
  have l2 := i2.length
  rw [Array.length_toList] at l1 l2
  rw [l1, l2]
  exact lex_run (Q := fun r s' => s' = s ∧ r = before ns ms) 0 i1 i2 ⟨rfl, rfl⟩
theorem first_of {h : Heap} {k : Value → List Int} : ∀ vs : List Value, (∀ v ∈ vs, TS.TupInts h v (k v) ∧ k v ≠ []) → ∃ fs, PySem.W.KatTups h vs fs ∧ fs.length = vs.length ∧ ∀ f ∈ fs, ∃ n t, f = Value.int n t
  | [], _ => ⟨[], PySem.W.KatTups.nil, rfl, fun f hf => nomatch hf⟩
  | v :: vs, x => by
    obtain ⟨fs, r1, r2, r3⟩ := first_of vs fun u hu => x u (List.mem_cons_of_mem _ hu)
    obtain ⟨⟨a, xs, e, ⟨o, ho, hc, n, hd⟩, i⟩, ne⟩ := x v List.mem_cons_self
    cases q : xs.toList with
    | nil =>
      rw [q] at i
      have l := i.length
      exact absurd (List.eq_nil_of_length_eq_zero l.symm) ne
    | cons y ys =>
      obtain ⟨m, t, hy⟩ := i.all y (by rw [q]; exact List.mem_cons_self)
      have y0 : xs[0]? = some y := by
        rw [← Array.getElem?_toList, q]
        rfl
      rw [e]
      refine ⟨y :: fs, PySem.W.KatTups.cons ho hc hd y0 r1, by rw [List.length_cons, List.length_cons, r2], fun f hf => ?_⟩
      rcases List.mem_cons.mp hf with z | z
      · exact ⟨m, t, z.trans hy⟩
      · exact r3 f z
theorem tups_sortable {a : Addr} {vs : List Value} {k : Value → List Int} (h0 : 0 < vs.length) (hp : ∀ v ∈ vs, TS.TupInts s.heap v (k v) ∧ k v ≠ []) (ha : ∀ o, s.heap.get? a = some o → o.cls ≠ .type "tuple") :
    SortableO prog w A s a vs fun v u => before (k v) (k u) := by
  intro h' keep
  have now : ∀ v ∈ vs, TS.TupInts h' v (k v) ∧ k v ≠ [] := fun v hv => ⟨(hp v hv).1.keeps fun b o e c => keep b o (fun z => by subst z; exact ha o e c) e, (hp v hv).2⟩
  obtain ⟨fs, r1, r2, r3⟩ := first_of vs now
  refine ⟨tuples' true, fun Q E hq => ?_, tups_cmp fun v hv => (now v hv).1⟩
  refine PySem.W.kat_kind (T := .type "int") r1 (by omega) (fun f hf => ?_) rfl ?_
  · obtain ⟨n, t, rfl⟩ := r3 f hf
    exact PySem.W.Looks.now
  · rw [show (Value.type "int" != Value.type "tuple") = true from by first | rfl | decide]
    exact hq
/-- what sorting leaves, as pairs of an address and its ints -/
def adr : Value → Addr
  | .ref a => a
  | _ => 0
def pairOf (k : Value → List Int) (v : Value) : Addr × List Int := (adr v, k v)
theorem pairs_back {k : Value → List Int} : ∀ {ks : List (Addr × List Int)}, (∀ p ∈ ks, k (.ref p.1) = p.2) → (ks.map fun p => Value.ref p.1).map (pairOf k) = ks
  | [], _ => rfl
  | p :: ks, h => by
    rw [List.map_cons, List.map_cons, pairs_back fun q hq => h q (List.mem_cons_of_mem _ hq)]
    have e : pairOf k (.ref p.1) = p := by
      show (p.1, k (.ref p.1)) = p
      rw [h p List.mem_cons_self]
    rw [e]
theorem refs_are {k : Value → List Int} : ∀ {vs : List Value}, (∀ v ∈ vs, ∃ a, v = Value.ref a) → (vs.map (pairOf k)).map (fun p => Value.ref p.1) = vs
  | [], _ => rfl
  | v :: vs, h => by
    rw [List.map_cons, List.map_cons, refs_are fun u hu => h u (List.mem_cons_of_mem _ hu)]
    obtain ⟨a, rfl⟩ := h v List.mem_cons_self
    rfl
theorem sorted_pairs {k : Value → List Int} {out vs : List Value} {ks : List (Addr × List Int)} (hv : vs.Perm (ks.map fun p => Value.ref p.1)) (hk : ∀ p ∈ ks, k (.ref p.1) = p.2) (hs : Srtd (fun v u => before (k v) (k u)) out) (hp : out.Perm vs) :
    ∃ L : List (Addr × List Int), out = L.map (fun p => Value.ref p.1) ∧ L.Perm ks ∧ L.Pairwise fun p q => before q.2 p.2 = false := by
  refine ⟨out.map (pairOf k), (refs_are fun v hm => ?_).symm, ?_, List.pairwise_map.mpr hs⟩
  · obtain ⟨p, _, e⟩ := List.mem_map.mp ((hp.trans hv).mem_iff.mp hm)
    exact ⟨p.1, e.symm⟩
  · have q := (hp.trans hv).map (pairOf k)
    rw [pairs_back hk] at q
    exact q
/-- sorted(xs), xs a list of tuples of ints -/
theorem sorted_list {l : Addr} {ks : List (Addr × List Int)} {Q : Value → Shared → Prop} (hl : s.heap.IsList l (ks.map fun p => Value.ref p.1).toArray) (hz : ks.length ≤ sizeLine) (hk : ∀ p ∈ ks, TS.TupInts s.heap (.ref p.1) p.2) (ne : 2 ≤ ks.length → ∀ p ∈ ks, p.2 ≠ [])
    (h : ∀ (h' : Heap) (d : Addr) (L : List (Addr × List Int)) (n : Nat), L.Perm ks → L.Pairwise (fun p q => before q.2 p.2 = false) → (∀ b o, s.heap.get? b = some o → h'.get? b = some o) → s.heap.objs.size ≤ d →
      h'.get? d = some (seqObj "list" (L.map fun p => Value.ref p.1).toArray n) → Q (.ref d) { s with heap := h' }) : wpAny (model prog w) A (call (.builtin "sorted") [.ref l]) Q E s := by
  have hz' : (ks.map fun p => Value.ref p.1).length ≤ sizeLine := by rw [List.length_map]; exact hz
  have there : ∀ v ∈ ks.map (fun p => Value.ref p.1), TS.TupInts s.heap v (TS.intsOf s.heap v) ∧ ∃ p ∈ ks, v = .ref p.1 ∧ TS.intsOf s.heap v = p.2 := fun v hv => by
    obtain ⟨p, hp, rfl⟩ := List.mem_map.mp hv
    have e := (hk p hp).ints
    exact ⟨by rw [e]; exact hk p hp, p, hp, rfl, e⟩
  refine sorted_ord (swo_before (TS.intsOf s.heap)) hl hz' (fun h2 h₁ a ha kk => ?_) fun out hs hb => ?_
  · refine tups_sortable (s := { s with heap := h₁ }) (by omega) (fun v hm => ⟨(there v hm).1.keeps fun b o e _ => (kk b o e).2, ?_⟩) fun o e c => ?_
    · obtain ⟨_, p, hp, _, e⟩ := there v hm
      rw [e]
      exact ne (by rw [List.length_map] at h2; exact h2) p hp
    · have e' : some o = some (seqObj "list" (ks.map fun p => Value.ref p.1).toArray 0) := e.symm.trans ha
      cases e'
      exact absurd (Value.type.inj c) (by decide)
  · obtain ⟨L, e, pm, pw⟩ := sorted_pairs (List.Perm.refl _) (fun p hp => (hk p hp).ints) hs hb.perm
    subst e
    obtain ⟨n, at'⟩ := sortedAll_at s.heap (ks.map fun p => Value.ref p.1) (L.map fun p => Value.ref p.1).toArray
    exact h _ _ L n pm pw (fun b o e => sortedAll_old e) (Nat.le_succ _) at'
/-- sorted(xs), xs a set of tuples of ints -/
theorem sorted_full {a : Addr} {L : List (Addr × List Int)} {es : Array (Int × Value)} {ep : Nat} {t : SetTable} {Q : Value → Shared → Prop} (S : Full prog w s.heap a L es ep t) (hh : A.handled = none) (ne : 2 ≤ L.length → ∀ p ∈ L, p.2 ≠ [])
    (h : ∀ (s' : Shared) (d : Addr) (L' : List (Addr × List Int)) (n : Nat), L'.Perm L → L'.Pairwise (fun p q => before q.2 p.2 = false) → (∀ b o, s.heap.get? b = some o → s'.heap.get? b = some o) → s'.gens = s.gens → s'.os = s.os → s.heap.objs.size ≤ d →
      s'.heap.get? d = some (seqObj "list" (L'.map fun p => Value.ref p.1).toArray n) → Q (.ref d) s') : wpAny (model prog w) A (call (.builtin "sorted") [.ref a]) Q E s := by
  obtain ⟨o, ho, hex, hd⟩ := S.obj
  have size := rows_len S.rows
  have few := S.few
  refine Calls.call_function_entry kind_sorted plain_sorted entry_sorted (args_sorted1 _) ?_
  unfold Builtin.«sorted»
  refine wpAny_bind (m := checkCount "sorted" 1 1 _) (wpAny_pure ?_)
  refine wpAny_bind (collect_set (A := A.in1) hh ⟨o, ho, hex.1, hd⟩ S.fit (by unfold scanBound; omega) S.tab.up S.order fun s1 vs keep big g1 o1 pm => ?_)
  have mem : es.toList.map (·.2) = L.map fun q => Value.ref q.1 := by
    rw [S.rows]
    unfold rowsOf
    rw [List.map_map] <;> rfl
  rw [mem] at pm
  have vlen : vs.length = L.length := by rw [pm.length_eq, List.length_map]
  have vz : vs.length ≤ sizeLine := by rw [sizeLine_eq]; omega
  refine wpAny_bind (wpAny_newList ?_ vz)
  have atD : (s1.heap.push (seqObj "list" vs.toArray 0)).get? s1.heap.objs.size = some (seqObj "list" vs.toArray 0) := Heap.get?_push_size _ rfl
  have tis : ∀ q ∈ L, TS.TupInts (s1.heap.push (seqObj "list" vs.toArray 0)) (.ref q.1) q.2 := fun q hq => tupInts_of (P := prog) (w := w) (isT_keep (S.tups q hq) fun b u e => Heap.get?_push_of_some _ (keep b u e))
  have isI : ∀ q ∈ L, TS.intsOf (s1.heap.push (seqObj "list" vs.toArray 0)) (.ref q.1) = q.2 := fun q hq => (tis q hq).ints
  have sorts : 2 ≤ vs.length → SortableO prog w A.in1.in1 { s1 with heap := s1.heap.push (seqObj "list" vs.toArray 0) } s1.heap.objs.size vs fun v u => before (TS.intsOf (s1.heap.push (seqObj "list" vs.toArray 0)) v) (TS.intsOf (s1.heap.push (seqObj "list" vs.toArray 0)) u) := fun h2 => by
    refine tups_sortable (by omega) (fun v hv => ?_) fun o e c => ?_
    · obtain ⟨q, hq, e⟩ := List.mem_map.mp (pm.mem_iff.mp hv)
      rw [← e, isI q hq]
      exact ⟨tis q hq, ne (by omega) q hq⟩
    · have e' : some o = some (seqObj "list" vs.toArray 0) := e.symm.trans atD
      cases e'
      exact absurd (Value.type.inj c) (by decide)
  refine wpAny_bind (wpAny_holding (wpAny_call_entry slot_list_sort ⟨_, atD, rfl⟩ entry_list_sort (list_sort_ord (swo_before _) atD vz sorts fun out hs hb => ⟨_, rfl, ?_⟩) (args_list_sort _)))
  obtain ⟨L', e, pl, pw⟩ := sorted_pairs pm isI hs hb.perm
  subst e
  obtain ⟨n, at'⟩ := sortedHeap_at (vs := vs) (out := (L'.map fun p => Value.ref p.1).toArray) atD
  refine wpAny_pure ⟨_, rfl, h _ s1.heap.objs.size L' n pl pw (fun b u e => ?_) g1 o1 big at'⟩
  have q := keep b u e
  have lt := Heap.lt_size q
  show (sortedHeap (s1.heap.push (seqObj "list" vs.toArray 0)) s1.heap.objs.size vs _).get? b = some u
  rw [sortedHeap_old (Nat.ne_of_lt lt) (by rw [size_push']; exact Nat.lt_succ_of_lt lt)]
  exact Heap.get?_push_of_some _ q
end

/-! ### the set as a tracked object -/
/-- the set at a, its members' own objects aside -/
def Here (P : Program) (w : World) (h : Heap) (a : Addr) (L : List (Addr × List Int)) : Prop := ∃ (es : Array (Int × Value)) (ep : Nat) (t : SetTable), (∃ o, h.get? a = some o ∧ o.ExactSet ∧ o.data = .set es ep t) ∧ es.toList = rowsOf P w L ∧ Tab t (L.map fun p => thash P w p.2) ∧
  (L.map (·.2)).Nodup ∧ t.plain = true ∧ (w.params.followText "set-order" = true ∨ t.led = true) ∧ L.length * 5 < t.mask * 3 ∧ L.length ≤ 1228
def BigO (P : Program) (w : World) (a : Addr) (L : List (Addr × List Int)) : HO := .ext fun h => Here P w h a L
theorem Full.here {P : Program} {w : World} {h : Heap} {a : Addr} {L : List (Addr × List Int)} {es : Array (Int × Value)} {ep : Nat} {t : SetTable} (S : Full P w h a L es ep t) : Here P w h a L :=
  ⟨es, ep, t, S.obj, S.rows, S.tab, S.unlike, S.plain, S.order, S.room, S.few⟩
theorem Here.full {P : Program} {w : World} {h : Heap} {a : Addr} {L : List (Addr × List Int)} (S : Here P w h a L) (ht : ∀ p ∈ L, IsT P w h p.2 p.1) : ∃ es ep t, Full P w h a L es ep t := by
  obtain ⟨es, ep, t, r1, r2, r3, r4, r5, r6, r7, r8⟩ := S
  exact ⟨es, ep, t, r1, r2, r3, r4, ht, r5, r6, r7, r8⟩
theorem bigO_ok {P : Program} {w : World} {H : Hp} {h : Heap} {a : Addr} {L : List (Addr × List Int)} (S : Here P w h a L) : ObjOk P w H h a (BigO P w a L) := by
  obtain ⟨es, ep, t, ⟨o, ho, r⟩, rest⟩ := id S
  refine ⟨S, ⟨o, ho⟩, fun h1 h2 p k => ?_⟩
  obtain ⟨es', ep', t', ⟨o', ho', r'⟩, rest'⟩ := (p : Here P w h1 a L)
  exact ⟨es', ep', t', ⟨o', k o' ho', r'⟩, rest'⟩
theorem tab_fresh (b : Bool) : Tab (.fresh 0 0 b) [] := ⟨List.Pairwise.nil, rfl, rfl, ⟨3, by decide, rfl⟩, (fun x hx => nomatch hx), (fun i h j hi => nomatch hi)⟩
theorem here_fresh {P : Program} {w : World} {h : Heap} {a : Addr} (ho : h.get? a = some { cls := .type "set", dict := none, data := .set #[] 0 (.fresh 0 0 (!w.params.followText "set-order")) }) : Here P w h a [] :=
  ⟨#[], 0, .fresh 0 0 (!w.params.followText "set-order"), ⟨_, ho, ⟨rfl, rfl, rfl⟩, rfl⟩, rfl, tab_fresh _, List.nodup_nil, rfl, by
    show _ ∨ (!w.params.followText "set-order") = true
    cases w.params.followText "set-order" <;> simp, (by show 0 * 5 < 7 * 3; decide), (by show 0 ≤ 1228; decide)⟩
section
variable {X : Cx}
/-- found.add(x), x a tuple of ints -/
theorem add_inv {pins : List (Addr × Obj)} {σ : L2.St} {H : Hp} {s : Shared} {E : Value → Shared → Prop} {a x : Addr} {k : List Int} {L : List (Addr × List Int)} {Q : Value → Shared → Prop} (hu : X.A.units + 1 < cLine) (I : Inv X pins σ H s) (ha : H a = some (BigO X.prog X.w a L))
    (ht : ∀ p ∈ L, SqT X.K H p.1 (p.2.map V.int)) (hx : SqT X.K H x (k.map V.int)) (few : L.length + 1 ≤ 1228)
    (q : ∀ s' L', (k ∈ L.map (·.2) → L' = L) → (k ∉ L.map (·.2) → L'.Perm ((x, k) :: L)) → Inv X pins σ (upd H a (BigO X.prog X.w a L')) s' → Q .none s') : wpAny (model X.prog X.w) X.A (call (.builtin "set.add") [.ref a, .ref x]) Q E s := by
  obtain ⟨es, ep, t, S⟩ := Here.full (I.hok a _ ha).1 fun p hp => I.isT (ht p hp)
  obtain ⟨o, ho, hex, hd⟩ := S.obj
  have hT : s.TypeIs (.ref a) "set" := ⟨o, ho, hex.1⟩
  refine wpAny_call_entry F.slot_set_add hT F.entry_set_add ?_ (F.args_set_add_2 _ _)
  unfold Builtin.«set.add» Builtin.Frozenset.oneOther
  simp only [List.isEmpty_nil, bind_assoc]
  unfold Builtin.Frozenset.addrOf setAdd
  refine wpAny_bind (wpAny_pure ?_)
  try dsimp only
  refine wpAny_bind (wpAny_pure ?_)
  try dsimp only
  refine wpAny_bind (wpAny_holding (wpAny_bind (wpAny_pyHash_tuple (by first | exact hu | (show X.A.units + 1 < cLine; exact hu) | omega) (I.isT hx) ?_)))
  refine add_one (s := { s with toks := s.toks + (k.length + 1) }) S (I.isT hx) (by first | exact hu | (show X.A.units + 1 < cLine; exact hu) | omega) few fun b h' L' es' ep' t' but S' c1 c2 => ?_
  show wpAny _ _ (ret Value.none) _ _ _
  refine wpAny_pure ⟨_, rfl, q _ L' c1 c2 ?_⟩
  obtain ⟨u, hu', _⟩ := S'.obj
  exact I.write (e := a) (t' := s.toks + (k.length + 1)) (by rw [ha]; trivial) (.inl rfl) (fun b u hb e => (but.2 b hb).trans e) ⟨u, hu'⟩ (bigO_ok S'.here)
/-- sorted(found) -/
def rSortBig (K : PySem.W.Frag) (P : Program) (w : World) : List V → Hp → VK → Prop := fun vs H Q => ∃ (a : Addr) (L : List (Addr × List Int)), vs = [V.ref a] ∧ H a = some (BigO P w a L) ∧ (∀ p ∈ L, SqT K H p.1 (p.2.map V.int)) ∧ (2 ≤ L.length → ∀ p ∈ L, p.2 ≠ []) ∧
  ∀ (L' : List (Addr × List Int)) (d : Addr), L'.Perm L → (L'.map (·.2)).Nodup → L'.Pairwise (fun p q => before q.2 p.2 = false) → H d = none → Q (.ref d) (upd H d (.lst (L'.map fun q => V.ref q.1)))
theorem cr_sortBig (hc : X.calm = true) : CallR X (.builtin "sorted") (rSortBig X.K X.prog X.w) := by
  intro pins s σ H vs us Q I r ⟨a, L, e, ha, ht, ne, q⟩
  subst e
  obtain ⟨es, ep, t, S⟩ := Here.full (I.hok a _ ha).1 fun p hp => I.isT (ht p hp)
  rw [Vals.ref1 r]
  refine sorted_full S (I.ok.hd hc) ne fun s' d L' n pm pw keep g o hp at' => ?_
  have few : L'.length ≤ 1228 := by rw [pm.length_eq]; exact S.few
  have len : (L'.map fun q => V.ref q.1).length ≤ sizeLine := by rw [List.length_map, sizeLine_eq]; omega
  have free : H d = none := I.hok.fresh hp
  have new := I.call' (H' := upd H d (.lst (L'.map fun q => V.ref q.1))) (ch := []) o (Un.laid keep hp free) (I.hok.laid keep hp ⟨len, _, n, vals_of_refs L', at'⟩) (by rw [g]; exact I.bare) fun _ z => nomatch z
  exact ⟨.ref d, _, new, rfl, q L' d pm ((pm.map (·.2)).nodup_iff.mpr S.unlike) pw free⟩
/-- sorted(xs) -/
def rSortTups (K : PySem.W.Frag) : List V → Hp → VK → Prop := fun vs H Q => ∃ (a : Addr) (ks : List (Addr × List Int)), vs = [V.ref a] ∧ SqL K H a (ks.map fun p => V.ref p.1) ∧ (∀ p ∈ ks, SqT K H p.1 (p.2.map V.int)) ∧ (2 ≤ ks.length → ∀ p ∈ ks, p.2 ≠ []) ∧
  ∀ (L' : List (Addr × List Int)) (d : Addr), L'.Perm ks → L'.Pairwise (fun p q => before q.2 p.2 = false) → H d = none → Q (.ref d) (upd H d (.lst (L'.map fun q => V.ref q.1)))
theorem cr_sortTups : CallR X (.builtin "sorted") (rSortTups X.K) := by
  intro pins s σ H vs us Q I r ⟨a, ks, e, ha, ht, ne, q⟩
  subst e
  obtain ⟨its, rv, pl, hz⟩ := I.list ha
  rw [List.length_map] at hz
  have il := pl.isList
  rw [refs_of_vals rv] at il
  rw [Vals.ref1 r]
  refine sorted_list il hz (fun p hp => tupInts_of (P := X.prog) (w := X.w) (I.isT (ht p hp))) ne fun h' d L' n pm pw keep hp at' => ?_
  have len : (L'.map fun q => V.ref q.1).length ≤ sizeLine := by rw [List.length_map, pm.length_eq]; exact hz
  have free : H d = none := I.hok.fresh hp
  have new := I.call' (H' := upd H d (.lst (L'.map fun q => V.ref q.1))) (s' := { s with heap := h' }) (ch := []) rfl (Un.laid keep hp free) (I.hok.laid keep hp ⟨len, _, n, vals_of_refs L', at'⟩) I.bare fun _ z => nomatch z
  exact ⟨.ref d, _, new, rfl, q L' d pm pw free⟩
end
end BigT
end
section
set_option Elab.async false
set_option linter.all false
set_option maxRecDepth 100000
set_option maxHeartbeats 4000000
/-! {elt for target in iter if ..}: elt a tuple of ints. -/
namespace BigT
open PySem PySem.Spec PyProof.Rows L2
section
variable {X : Cx}
/-- what one turn leaves: the value y is in the set D from now on -/
def Added (X : Cx) (D : Addr) (y : V) (H : Hp) (Nx : Hp → Prop) : Prop := ∃ x k L, y = V.ref x ∧ SqT X.K H x (k.map V.int) ∧ H D = some (BigO X.prog X.w D L) ∧ (∀ p ∈ L, SqT X.K H p.1 (p.2.map V.int)) ∧ L.length + 1 ≤ 1228 ∧
  ∀ L', (k ∈ L.map (·.2) → L' = L) → (k ∉ L.map (·.2) → L'.Perm ((x, k) :: L)) → Nx (upd H D (BigO X.prog X.w D L'))
/-- the reading of a comprehension -/
def tSet (X : Cx) (wi : TI) (g : TG) (tt : TT) (te : TE) (vs : List Nat) : TE := fun σ H Q => wi σ H fun J H1 => ∀ D, H1 D = none → ∃ W : Nat → Nat → Hp → Prop, (∃ m, W 0 m (upd H1 D (BigO X.prog X.w D []))) ∧ ∀ i m H2, W i m H2 →
  (J.stop i H2 ∧ Q (.ref D) H2) ∨ (J.go i H2 ∧ ∃ Nx : Hp → Prop, (∀ H', Nx H' → ∃ m', m' < m ∧ W (i + 1) m' H') ∧ ∀ x H', J.yld i H2 x H' → g x (wipe σ vs) H' fun σ3 H3 => wipe σ3 vs = wipe σ vs ∧ tt σ3 H3 fun b H4 =>
    if b = true then te σ3 H4 fun y H5 => Added X D y H5 Nx else Nx H4)
theorem set_core {pins : List (Addr × Obj)} {s : Shared} {σ : L2.St} {H : Hp} {Q : VK} {elt tg iter : Expr} {ifs : List Expr} {scope : Scope} {own : List (PySem.Str × Nat)} {pos p2 : Pos} {wi : TI} {g : TG} {tt : TT} {te : TE} {use : Option (Value → Sem Unit)} {Z : Value → Shared → Prop}
    (calm : X.calm = true) (uniq : X.N.Nodup) (hu : X.A.units + 1 < cLine) (I : Inv X pins σ H s) (hi : PI X tg iter wi) (ok : BlkOk X.N X.env.scope scope own)
    (hg : ∀ s0 H0 C cl fp, PG (X.blk s0 H0 scope (compEnvC scope cl C X.env) fp) tg g) (ht : ∀ s0 H0 C cl fp, PTs (X.blk s0 H0 scope (compEnvC scope cl C X.env) fp) ifs tt)
    (he : ∀ s0 H0 C cl fp, PE (X.blk s0 H0 scope (compEnvC scope cl C X.env) fp) elt te) (hs : ∀ x, foldedSetIterable iter X.env x = pure x) (h : tSet X wi g tt te (own.map (·.2)) σ H Q)
    (back : ∀ D C s' m H', Inv X pins σ H' s' → Q (.ref D) H' → s'.heap.Ns C m → FpOk X pins H' C → compPost (model X.prog X.w) X.A X.xe use Z (.ref D) C (.ok .next) s') :
    wpAny (model X.prog X.w) X.A (comprehension (.SetComp elt [⟨tg, iter, ifs, 0⟩] scope pos) scope X.env p2 (newSet (.type "set")) false (eval iter X.env) use) Z X.xe s := by
  have free : ∀ y ∈ scope.names, y.2 = .free → ∃ c, X.env.cells.lookup y.1 = some c := fun y hy e =>
    (ok.free y hy e).elim (fun z => I.ok.has _ (.inl z)) fun z => I.ok.has _ (.inr z)
  refine wpAny_comprehension_free (use := use) rfl hs (closure_ok free) ok.kind (fun y hy e => by rw [ok.uniq y hy, e]) (thn (hi.run pins s σ H _ I h) fun walked s1 a1 => thn a1 fun itv s2 a2 => ?_)
  obtain ⟨it, fp, tn, J, H2, rfl, I2, T, t2, f2, q⟩ := a2
  refine PpSet.newSet_ok (newEnv_comp ?_)
  obtain ⟨D, hD⟩ : ∃ D, D = s2.heap.objs.size := ⟨_, rfl⟩
  obtain ⟨W, ⟨m0, w0⟩, turn⟩ := q D (I2.hok.fresh (by rw [hD]; exact Nat.le_refl _))
  rw [← hD]
  -- the empty set is laid
  have atD : (s2.heap.push { cls := .type "set", dict := none, data := .set #[] 0 (.fresh 0 0 (!X.w.params.followText "set-order")) }).get? D = some { cls := .type "set", dict := none, data := .set #[] 0 (.fresh 0 0 (!X.w.params.followText "set-order")) } := by
    rw [hD]; exact Heap.get?_push_size _ rfl
  have grow : ∀ b o, s2.heap.get? b = some o → (s2.heap.push { cls := .type "set", dict := none, data := .set #[] 0 (.fresh 0 0 (!X.w.params.followText "set-order")) }).get? b = some o := fun b o e => Heap.get?_push_of_some _ e
  have size3 : (s2.heap.push { cls := .type "set", dict := none, data := .set #[] 0 (.fresh 0 0 (!X.w.params.followText "set-order")) }).objs.size = s2.heap.objs.size + 1 := Heap.size_push ..
  have I3 := I2.laid (t' := s2.toks) grow (by rw [hD]; exact Nat.le_refl _) (bigO_ok (P := X.prog) (H := upd H2 D (BigO X.prog X.w D [])) (here_fresh atD))
  generalize s2.heap.push { cls := .type "set", dict := none, data := .set #[] 0 (.fresh 0 0 (!X.w.params.followText "set-order")) } = h3 at grow size3 I3 ⊢
  have e3 : ({ s2 with heap := h3, toks := s2.toks } : Shared) = { s2 with heap := h3 } := rfl
  rw [e3] at I3
  generalize hs3 : ({ s2 with heap := h3 } : Shared) = s3 at I3 ⊢
  have hh3 : s3.heap = h3 := by rw [← hs3]
  have below : ∀ b ∈ fp, b < s2.heap.objs.size := fun b hb => by
    obtain ⟨o, e, _⟩ := T.obj _ _ t2 b hb
    exact Heap.lt_size e
  obtain ⟨H3, hH3⟩ : ∃ H3, H3 = upd H2 D (BigO X.prog X.w D []) := ⟨_, rfl⟩
  rw [← hH3] at w0 I3
  have f3 : ∀ b ∈ fp, FpOk X pins H3 b ∧ b < s3.heap.objs.size := fun b hb => by
    have lt := below b hb
    refine ⟨⟨?_, (f2 b hb).2⟩, by rw [hh3, size3]; exact Nat.lt_succ_of_lt lt⟩
    rw [hH3, upd_ne (by rw [hD]; exact Nat.ne_of_lt lt)]
    exact (f2 b hb).1
  have t3 : tn 0 s3.heap := T.keep _ _ _ t2 fun b _ o e => by rw [hh3]; exact grow b o e
  have I4 := block_start I3 ok uniq f3
  have rg := hg s3 H3 s3.heap.objs.size (cellsFrom (s3.heap.objs.size + 1) scope.names (cloFrom X.env.cells scope.names [])) fp
  have rt := ht s3 H3 s3.heap.objs.size (cellsFrom (s3.heap.objs.size + 1) scope.names (cloFrom X.env.cells scope.names [])) fp
  have re := he s3 H3 s3.heap.objs.size (cellsFrom (s3.heap.objs.size + 1) scope.names (cloFrom X.env.cells scope.names [])) fp
  show codeAny _ _ (.compStart (.SetComp elt [⟨tg, iter, ifs, 0⟩] scope pos) 0 (.ref it) (.ref D) (compEnvC scope (cellsFrom (s3.heap.objs.size + 1) scope.names (cloFrom X.env.cells scope.names [])) s3.heap.objs.size X.env)) (compPost (model X.prog X.w) X.A X.xe use Z (.ref D) s3.heap.objs.size)
    { s3 with heap := pushCells (s3.heap.push { cls := .type "dict", data := .dict #[] }) scope.names }
  have bare3 : ∀ b ∈ fp, H3 b = none := fun b hb => (f3 b hb).1.1
  obtain ⟨ce, hce⟩ : ∃ ce, ce = compEnvC scope (cellsFrom (s3.heap.objs.size + 1) scope.names (cloFrom X.env.cells scope.names [])) s3.heap.objs.size X.env := ⟨_, rfl⟩
  rw [← hce] at I4 rg rt re ⊢
  have ceL : ce.locals = s3.heap.objs.size := by rw [hce] <;> rfl
  obtain ⟨s4, hs4⟩ : ∃ s4 : Shared, s4 = { s3 with heap := pushCells (s3.heap.push { cls := .type "dict", data := .dict #[] }) scope.names } := ⟨_, rfl⟩
  rw [← hs4] at I4 ⊢
  have t4 : tn 0 s4.heap := T.keep _ _ _ t3 fun b _ o e => by rw [hs4]; exact pushCells_keeps _ _ _ _ (Heap.get?_push_of_some _ e)
  have fine : ∀ {σ' : L2.St} {H' : Hp} {s' : Shared}, Inv (X.blk s3 H3 scope ce fp) [] σ' H' s' → (∀ b ∈ fp, H' b = none) → ∀ b ∈ fp, FpOk (X.blk s3 H3 scope ce fp) [] H' b := fun {σ' H' s'} J' hn b hb =>
    ⟨hn b hb, (J'.ok.exf b hb).1, J'.ok.exfs b hb, .inl hb, fun x c e => (J'.ok.exf b hb).2 x c e, fun p hp => absurd (show p ∈ ([] : List (Addr × Obj)) ++ [] from hp) (by simp)⟩
  have loop : codeAny (model X.prog X.w) X.A (.compLoop (.SetComp elt [⟨tg, iter, ifs, 0⟩] scope pos) 0 (.ref it) (.ref D) ce) (compPost (model X.prog X.w) X.A X.xe use Z (.ref D) s3.heap.objs.size) s4 := by
    refine PpSet.compLoopS_any (fun n s' => ∃ i H', Inv (X.blk s3 H3 scope ce fp) [] (wipe σ (own.map (·.2))) H' s' ∧ tn i s'.heap ∧ (∀ b ∈ fp, H' b = none) ∧ W i n H') ?_ m0 ⟨0, H3, I4, t4, bare3, w0⟩
    rintro n s5 ⟨i, H5, I5, t5, n5, w5⟩
    rcases turn i n H5 w5 with ⟨stop, out⟩ | ⟨go, Nx, less, step⟩
    · refine thnF (T.done (X.blk s3 H3 scope ce fp) rfl rfl rfl calm i [] s5 _ H5 (fun _ _ => False) I5 (fine I5 n5) t5 stop) fun r s6 a6 => ?_
      obtain ⟨rfl, I6⟩ := a6
      have I7 : Inv X pins σ H5 s6 := I3.call' (ch := fp) I6.os I6.base I6.hok I6.bare fun b hb => ⟨(f3 b hb).1.2.2.2.1, (f3 b hb).1.2.1, (f3 b hb).1.2.2.2.2.1, (f3 b hb).1.2.2.2.2.2⟩
      have gone : H5 s3.heap.objs.size = none := ceL ▸ I6.free
      obtain ⟨m, ns, _⟩ := I6.loc
      have ns : s6.heap.Ns ce.locals m := ns
      rw [ceL] at ns
      exact back D s3.heap.objs.size s6 m H5 I7 out ns (I3.fpOk (Nat.le_refl _) gone)
    · refine thnF (T.item (X.blk s3 H3 scope ce fp) rfl rfl rfl calm i [] s5 _ H5 (fun _ _ => False) I5 (fine I5 n5) t5 go) fun r s6 a6 => ?_
      obtain ⟨u, rfl, a6⟩ := a6
      refine thnF a6 fun _ s7 ⟨x, H7, I7, r7, y7, t7, n7⟩ => ?_
      refine thnF (rg.run _ s7 _ H7 x u _ (I7.pinned (fine I7 n7) (T.obj _ _ t7)) r7 (step x H7 y7)) fun _ s8 ⟨σ8, H8, I8, same8, q8⟩ => ?_
      refine thnF (rt.run _ s8 σ8 H8 _ I8 q8) fun b s9 ⟨H9, I9, q9⟩ => ?_
      have next : ∀ {s' : Shared} {H' : Hp}, Inv (X.blk s3 H3 scope ce fp) ([] ++ pinsAt fp s7.heap) σ8 H' s' → Nx H' → ∃ m, m < n ∧ ∃ i H', Inv (X.blk s3 H3 scope ce fp) [] (wipe σ (own.map (·.2))) H' s' ∧ tn i s'.heap ∧ (∀ b ∈ fp, H' b = none) ∧ W i m H' := fun {s' H'} J' nx => by
        obtain ⟨m', lt, w'⟩ := less H' nx
        have held : ∀ b ∈ fp, ∀ o, s7.heap.get? b = some o → s'.heap.get? b = some o ∧ H' b = none := fun b hb o e =>
          have z := J'.pin (b, o) (List.mem_append_right _ (List.mem_append_right _ (mem_pinsAt hb e)))
          ⟨z.1, z.2.1⟩
        have len8 : (wipe σ (own.map (·.2))).length = σ8.length := by rw [← same8, wipe_length]
        refine ⟨m', lt, i + 1, H', (J'.unpinned (pins := [])).weak len8 (fun j v e => ?_), T.keep _ _ _ t7 fun b hb o e => (held b hb o e).1, fun b hb => ?_, w'⟩
        · rw [← same8] at e
          exact (wipe_some e).1
        · obtain ⟨o, e, _⟩ := T.obj _ _ t7 b hb
          exact (held b hb o e).2
      cases b with
      | false =>
        simp only [Bool.false_eq_true, if_false] at q9 ⊢
        exact next I9 q9
      | true =>
        simp only [if_true] at q9 ⊢
        refine thnF (re.run _ s9 σ8 H9 _ I9 q9) fun z s10 ⟨yv, H10, I10, r10, x, k, L, ey, hx, h10, members, few, go⟩ => ?_
        subst ey
        cases r10
        exact add_inv (X := X.blk s3 H3 scope ce fp) hu I10 h10 members hx few fun s11 L' c1 c2 I11 => next I11 (go L' c1 c2)
  exact PpSet.codeAny_compStart_set loop (T.self X.A 0 _ _ _ t4 loop)
/-- as a value -/
theorem pe_setc {elt tg iter : Expr} {ifs : List Expr} {scope : Scope} {own : List (PySem.Str × Nat)} {pos : Pos} {wi : TI} {g : TG} {tt : TT} {te : TE} (calm : X.calm = true) (uniq : X.N.Nodup) (hu : X.A.units + 1 < cLine) (hi : PI X tg iter wi) (ok : BlkOk X.N X.env.scope scope own)
    (hg : ∀ s0 H0 C cl fp, PG (X.blk s0 H0 scope (compEnvC scope cl C X.env) fp) tg g) (ht : ∀ s0 H0 C cl fp, PTs (X.blk s0 H0 scope (compEnvC scope cl C X.env) fp) ifs tt)
    (he : ∀ s0 H0 C cl fp, PE (X.blk s0 H0 scope (compEnvC scope cl C X.env) fp) elt te) (hs : ∀ x, foldedSetIterable iter X.env x = pure x := by intro _; rfl) : PE X (.SetComp elt [⟨tg, iter, ifs, 0⟩] scope pos) (tSet X wi g tt te (own.map (·.2))) := by
  refine ⟨fun pins s σ H Q I h => ?_⟩
  rw [PpSet.eval_SetComp]
  refine set_core calm uniq hu I hi ok hg ht he hs h fun D C s' m H' J q ns f => ⟨m, ns, fun h'' but => ?_⟩
  obtain ⟨g0, g1, g2, g3, g4, g5⟩ := f
  exact ⟨.ref D, H', J.turned (t' := s'.toks) (fun b o hb e => (but.2 b hb).trans e) g0 g1 g3 g4 g5, rfl, q⟩
end
end BigT
end
section
set_option Elab.async false
set_option linter.all false
set_option maxRecDepth 100000
set_option maxHeartbeats 2000000
namespace D2
open PySem PySem.Spec L2 BigT

/-! ### ascending lists of rows -/
abbrev Row := List Int
/-- put in, ahead of the first that is not below it -/
def putIn (k : Row) : List Row → List Row
  | [] => [k]
  | m :: r => if before m k = true then m :: putIn k r else k :: m :: r
def srt : List Row → List Row
  | [] => []
  | k :: r => putIn k (srt r)
/-- .. each once -/
def put1 (k : Row) : List Row → List Row
  | [] => [k]
  | m :: r => if before m k = true then m :: put1 k r else if m = k then m :: r else k :: m :: r
def asc : List Row → List Row
  | [] => []
  | k :: r => put1 k (asc r)
abbrev Asc (l : List Row) : Prop := l.Pairwise fun a b => before b a = false
abbrev Asc1 (l : List Row) : Prop := l.Pairwise fun a b => before a b = true
theorem before_irr (k : Row) : before k k = false := by
  cases e : before k k with
  | false => rfl
  | true => rw [before_asym _ _ e] at e; cases e
theorem before_trans {a b c : Row} (h1 : before a b = true) (h2 : before b c = true) : before a c = true := by
  cases e : before a c with
  | true => rfl
  | false =>
    have := before_neg b c a (before_asym _ _ h2) e
    rw [this] at h1
    cases h1
theorem putIn_perm (k : Row) : ∀ l, (putIn k l).Perm (k :: l)
  | [] => List.Perm.refl _
  | m :: r => by
    unfold putIn
    split
    · exact ((putIn_perm k r).cons m).trans (List.Perm.swap k m r)
    · exact List.Perm.refl _
theorem srt_perm : ∀ l, (srt l).Perm l
  | [] => List.Perm.refl _
  | k :: r => (putIn_perm k (srt r)).trans ((srt_perm r).cons k)
theorem putIn_asc (k : Row) : ∀ {l}, Asc l → Asc (putIn k l)
  | [], _ => List.pairwise_singleton _ _
  | m :: r, h => by
    obtain ⟨h1, h2⟩ := List.pairwise_cons.mp h
    unfold putIn
    split
    · rename_i c
      refine List.pairwise_cons.mpr ⟨fun x hx => ?_, putIn_asc k h2⟩
      rcases List.mem_cons.mp ((putIn_perm k r).mem_iff.mp hx) with z | z
      · rw [z]; exact before_asym _ _ c
      · exact h1 x z
    · rename_i c
      have c : before m k = false := by simpa using c
      refine List.pairwise_cons.mpr ⟨fun x hx => ?_, h⟩
      rcases List.mem_cons.mp hx with z | z
      · rw [z]; exact c
      · exact before_neg k m x c (h1 x z)
theorem srt_asc : ∀ l, Asc (srt l)
  | [] => .nil
  | k :: r => putIn_asc k (srt_asc r)
theorem asc_perm_eq : ∀ {l m : List Row}, Asc l → Asc m → l.Perm m → l = m
  | [], m, _, _, p => by rw [List.nil_perm.mp p]
  | a :: l, [], _, _, p => absurd (List.perm_nil.mp p) (by simp)
  | a :: l, b :: m, h1, h2, p => by
    obtain ⟨x1, x2⟩ := List.pairwise_cons.mp h1
    obtain ⟨y1, y2⟩ := List.pairwise_cons.mp h2
    have ab : before b a = false := by
      rcases List.mem_cons.mp (p.symm.mem_iff.mp (List.mem_cons_self : b ∈ b :: m)) with z | z
      · rw [z]; exact before_irr _
      · exact x1 b z
    have ba : before a b = false := by
      rcases List.mem_cons.mp (p.mem_iff.mp (List.mem_cons_self : a ∈ a :: l)) with z | z
      · rw [z]; exact before_irr _
      · exact y1 a z
    have e := before_tri a b ba ab
    subst e
    rw [asc_perm_eq x2 y2 ((List.perm_cons a).mp p)]
theorem srt_eq {l m : List Row} (h : Asc m) (p : m.Perm l) : m = srt l := asc_perm_eq h (srt_asc l) (p.trans (srt_perm l).symm)
theorem put1_mem (k : Row) : ∀ l x, x ∈ put1 k l ↔ x = k ∨ x ∈ l
  | [], x => by simp [put1]
  | m :: r, x => by
    unfold put1
    split
    · rw [List.mem_cons, put1_mem k r x, List.mem_cons]
      exact ⟨fun z => z.elim (fun z => .inr (.inl z)) fun z => z.elim .inl fun z => .inr (.inr z), fun z => z.elim (fun z => .inr (.inl z)) fun z => z.elim .inl fun z => .inr (.inr z)⟩
    · split
      · rename_i _ e
        rw [← e, List.mem_cons]
        exact ⟨.inr, fun z => z.elim .inl id⟩
      · rw [List.mem_cons]
theorem asc_mem : ∀ l x, x ∈ asc l ↔ x ∈ l
  | [], x => Iff.rfl
  | k :: r, x => by
    show x ∈ put1 k (asc r) ↔ _
    rw [put1_mem, asc_mem r x, List.mem_cons]
theorem put1_asc (k : Row) : ∀ {l}, Asc1 l → Asc1 (put1 k l)
  | [], _ => List.pairwise_singleton _ _
  | m :: r, h => by
    obtain ⟨h1, h2⟩ := List.pairwise_cons.mp h
    unfold put1
    split
    · rename_i c
      refine List.pairwise_cons.mpr ⟨fun x hx => ?_, put1_asc k h2⟩
      rcases (put1_mem k r x).mp hx with z | z
      · rw [z]; exact c
      · exact h1 x z
    · split
      · exact h
      · rename_i c ne
        have c : before m k = false := by simpa using c
        have km : before k m = true := by
          cases e : before k m with
          | true => rfl
          | false => exact absurd (before_tri _ _ c e) ne
        refine List.pairwise_cons.mpr ⟨fun x hx => ?_, h⟩
        rcases List.mem_cons.mp hx with z | z
        · rw [z]; exact km
        · exact before_trans km (h1 x z)
theorem asc_asc : ∀ l, Asc1 (asc l)
  | [] => .nil
  | k :: r => put1_asc k (asc_asc r)
theorem asc1_eq : ∀ {l m : List Row}, Asc1 l → Asc1 m → (∀ x, x ∈ l ↔ x ∈ m) → l = m
  | [], [], _, _, _ => rfl
  | [], b :: m, _, _, h => absurd ((h b).mpr List.mem_cons_self) (by simp)
  | a :: l, [], _, _, h => absurd ((h a).mp List.mem_cons_self) (by simp)
  | a :: l, b :: m, h1, h2, h => by
    obtain ⟨x1, x2⟩ := List.pairwise_cons.mp h1
    obtain ⟨y1, y2⟩ := List.pairwise_cons.mp h2
    have e : a = b := by
      rcases List.mem_cons.mp ((h a).mp List.mem_cons_self) with z | z
      · exact z
      · rcases List.mem_cons.mp ((h b).mpr List.mem_cons_self) with y | y
        · exact y.symm
        · have c1 := y1 a z
          have c2 := x1 b y
          rw [before_asym _ _ c1] at c2
          cases c2
    subst e
    refine congrArg (a :: ·) (asc1_eq x2 y2 fun x => ⟨fun z => ?_, fun z => ?_⟩)
    · rcases List.mem_cons.mp ((h x).mp (List.mem_cons_of_mem _ z)) with y | y
      · have := x1 x z
        rw [y, before_irr] at this
        cases this
      · exact y
    · rcases List.mem_cons.mp ((h x).mpr (List.mem_cons_of_mem _ z)) with y | y
      · have := y1 x z
        rw [y, before_irr] at this
        cases this
      · exact y
theorem asc1_of {l : List Row} (h : Asc l) (n : l.Nodup) : Asc1 l := by
  refine List.Pairwise.imp₂ (fun a b h1 ne => ?_) h n
  cases e : before a b with
  | true => rfl
  | false => exact absurd (before_tri _ _ e h1) ne
theorem asc_eq {l m : List Row} (h : Asc m) (n : m.Nodup) (p : ∀ x, x ∈ m ↔ x ∈ l) : m = asc l := asc1_eq (asc1_of h n) (asc_asc l) fun x => (p x).trans (asc_mem l x).symm
theorem asc_nodup (l : List Row) : (asc l).Nodup := List.Pairwise.imp (fun {a b} h e => by rw [e, before_irr] at h; cases h) (asc_asc l)

/-! ### rows as data -/
abbrev rowD (k : Row) : D := .tup (k.map D.int)
section
variable {K : PySem.W.Frag} {F F' : Hp}
theorem isRow {v : V} {k : Row} (h : Is K F v (rowD k)) : ∃ a, v = .ref a ∧ SqT K F a (k.map V.int) := by
  cases h with
  | tup h1 h2 =>
    cases h2.ints_inv
    exact ⟨_, rfl, h1⟩
theorem rowIs {a : Addr} {k : Row} (h : SqT K F a (k.map V.int)) : Is K F (.ref a) (rowD k) := .tup h (IsL.ints k)
theorem isRows : ∀ {xs : List V} {ks : List Row}, IsL K F xs (ks.map rowD) → ∃ ps : List (Addr × List Int), xs = ps.map (fun p => V.ref p.1) ∧ ps.map (·.2) = ks ∧ ∀ p ∈ ps, SqT K F p.1 (p.2.map V.int)
  | _, [], h => by cases h; exact ⟨[], rfl, rfl, fun p hp => nomatch hp⟩
  | _, k :: ks, h => by
    cases h with
    | cons a b =>
      obtain ⟨x, rfl, hx⟩ := isRow a
      obtain ⟨ps, rfl, rfl, hp⟩ := isRows b
      refine ⟨(x, k) :: ps, rfl, rfl, fun p hm => ?_⟩
      rcases List.mem_cons.mp hm with z | z
      · rw [z]; exact hx
      · exact hp p z
theorem rowsIs : ∀ {ps : List (Addr × List Int)}, (∀ p ∈ ps, SqT K F p.1 (p.2.map V.int)) → IsL K F (ps.map fun p => V.ref p.1) ((ps.map (·.2)).map rowD)
  | [], _ => .nil
  | p :: ps, h => .cons (rowIs (h p List.mem_cons_self)) (rowsIs fun q hq => h q (List.mem_cons_of_mem _ hq))
end
/-- the set of the rows ks, owned -/
def setOD (K : PySem.W.Frag) (P : Program) (w : World) (p : Addr) (ks : List Row) : OD := .mp (fun F o => ∃ L : List (Addr × List Int), o = BigO P w p L ∧ (L.map fun q : Addr × List Int => q.2).Nodup ∧ (∀ k : List Int, k ∈ (L.map fun q : Addr × List Int => q.2) ↔ k ∈ ks) ∧ ∀ q ∈ L, SqT K F q.1 (q.2.map V.int))
  fun F F' o e ⟨L, h1, h2, h3, h4⟩ => ⟨L, h1, h2, h3, fun q hq => same_t e (h4 q hq)⟩
theorem nodup_le {α : Type} [DecidableEq α] : ∀ {l m : List α}, l.Nodup → (∀ x ∈ l, x ∈ m) → l.length ≤ m.length
  | [], _, _, _ => Nat.zero_le _
  | a :: l, m, n, h => by
    obtain ⟨n1, n2⟩ := List.nodup_cons.mp n
    have hm := h a List.mem_cons_self
    have p := List.perm_cons_erase hm
    have q := nodup_le (l := l) (m := m.erase a) n2 fun x hx => (List.mem_erase_of_ne (fun e => n1 (by rw [← e]; exact hx))).mpr (h x (List.mem_cons_of_mem _ hx))
    have z := p.length_eq
    rw [List.length_cons] at z ⊢
    omega
section
variable {X : Cx} {e a b c o : Expr} {es : List Expr} {st : Stmt} {sts rest : List Stmt} {ρ : Rho} {L : Led} {P : PK1} {R : RK1} {E : DE} {pos : Pos}
/-- sorted(xs) of rows -/
theorem cd_sorted {d : D} {ks : List Row} (hv : Vw L d (ks.map rowD)) (ne : ∀ k ∈ ks, k ≠ []) (h : P (.lst ((srt ks).map rowD)) L) : CallD X (.builtin "sorted") [d] L P := cd_of cr_sortTups fun H F xs o ix => by
  obtain ⟨v, rfl, i⟩ := isl1 ix
  obtain ⟨a, ys, rfl, hq, hx⟩ := hv.get o i
  obtain ⟨ps, rfl, rfl, hp⟩ := isRows hx
  refine ⟨a, ps, rfl, hq, fun p hm => same_t o.sub (hp p hm), fun _ p hm => ne _ (List.mem_map_of_mem hm), fun L' d pm pw hd => ?_⟩
  obtain ⟨s2, o2⟩ := o.froze (o := .lst (L'.map fun q => V.ref q.1)) hd
  have e : L'.map (·.2) = srt (ps.map (·.2)) := srt_eq (List.pairwise_map.mpr pw) (pm.map _)
  have i2 := rowsIs (K := X.K) (F := F) (ps := L') fun q hq' => hp q (pm.mem_iff.mp hq')
  rw [e] at i2
  exact ⟨_, _, L, s2, o2, .lst upd_same (i2.mono s2), h⟩
/-- sorted(found) -/
theorem cd_sortSet (hc : X.calm = true) {p : Addr} {ks : List Row} (hm : (p, setOD X.K X.prog X.w p ks) ∈ L) (ne : ∀ k ∈ ks, k ≠ []) (h : P (.lst ((asc ks).map rowD)) L) : CallD X (.builtin "sorted") [.ref p] L P := cd_of (cr_sortBig hc) fun H F xs o ix => by
  obtain ⟨v, rfl, i⟩ := isl1 ix
  cases i
  obtain ⟨_, u, h1, M, h2, h3, h4, h5⟩ := o.cell _ hm
  subst h2
  refine ⟨p, M, rfl, h1, fun q hq => same_t o.sub (h5 q hq), fun _ q hq => ne _ ((h4 _).mp (List.mem_map_of_mem hq)), fun L' d pm nd pw hd => ?_⟩
  obtain ⟨s2, o2⟩ := o.froze (o := .lst (L'.map fun q => V.ref q.1)) hd
  have e : L'.map (·.2) = asc ks := asc_eq (List.pairwise_map.mpr pw) nd fun x => ((pm.map (·.2)).mem_iff).trans (h4 x)
  have i2 := rowsIs (K := X.K) (F := F) (ps := L') fun q hq' => h5 q (pm.mem_iff.mp hq')
  rw [e] at i2
  exact ⟨_, _, L, s2, o2, .lst upd_same (i2.mono s2), h⟩

/-! ### {elt for target in iter if ..} -/
def ScD (X : Cx) (g : TG) (elt : Expr) (ifs : List Expr) (scope : Scope) (vs : List Nat) (ρ : Rho) (ds : List D) (G L1 : Led) (P : PK1) : Prop :=
  ∃ I : Nat → List Row → Led → Prop, I 0 [] L1 ∧ (∀ i acc L2, I i acc L2 → SubL G L2) ∧
    (∀ i d acc L2, ds[i]? = some d → I i acc L2 → ∃ us b, GD X.K g d us ∧ (∀ u ∈ us, u.1 ∈ vs) ∧
      (∀ Y p, Blk X scope Y → PDTs Y ifs (setsD (wipeD ρ vs) us) ((p, setOD X.K X.prog X.w p acc) :: L2) (fun t L4 => t = b ∧ L4 = (p, setOD X.K X.prog X.w p acc) :: L2)) ∧
      (if b = true then ∀ Y p, Blk X scope Y → PD Y elt (setsD (wipeD ρ vs) us) ((p, setOD X.K X.prog X.w p acc) :: L2) (fun y L6 => ∃ k L7, y = rowD k ∧ Lw L6 ((p, setOD X.K X.prog X.w p acc) :: L7) ∧ acc.length < 1228 ∧ I (i + 1) (acc ++ [k]) L7) noR else I (i + 1) acc L2)) ∧
    ∀ acc L2, I ds.length acc L2 → ∀ p, P (.ref p) ((p, setOD X.K X.prog X.w p acc) :: L2)
theorem sc_read {tg iter elt : Expr} {ifs : List Expr} {scope : Scope} {vs : List Nat} {g : TG} (h : PDI X tg iter ρ L (fun ds G L1 => ScD X g elt ifs scope vs ρ ds G L1 P) R) {σ : St} {H F : Hp} {W : WX} (A : At X ρ L R σ H F W) :
    tSet X (wI X tg iter) g (wBT X scope ifs) (wB X scope elt) vs σ H (upV X.K F P) := by
  intro pins s I
  refine thn (h.go σ H F W A pins s I) fun v s1 h1 => thn h1 fun itv s2 h2 => ?_
  obtain ⟨it, fp, tn, J, H1, e1, I1, T, st1, f1, F1, ds, G, L1, s1', o1, ii, Iv, h0, hG, hstep, hend⟩ := h2
  refine ⟨it, fp, tn, J, H1, e1, I1, T, st1, f1, fun Dl hD => ?_⟩
  refine ⟨fun i m H2 => m = ds.length - i ∧ i ≤ ds.length ∧ ∃ F2 acc L2, Same F1 F2 ∧ Own X.K H2 F2 ((Dl, setOD X.K X.prog X.w Dl acc) :: L2) ∧ Iv i acc L2, ⟨ds.length, by simp, Nat.zero_le _, F1, [], L1, Same.refl _, o1.push hD (x := setOD X.K X.prog X.w Dl []) ⟨[], rfl, .nil, fun k => Iff.rfl, fun q hq => nomatch hq⟩, h0⟩, ?_⟩
  rintro i m H2 ⟨rfl, hi, F2, acc, L2, s2', o2, q⟩
  obtain ⟨k1, k2⟩ := ii H2 F2 _ s2' o2 (hG i acc L2 q).cons i
  by_cases hlt : i < ds.length
  · obtain ⟨g1, g2⟩ := k2 (ds[i]) (by simp [hlt])
    refine .inr ⟨g1, fun H3 => ∃ F2 acc L2, Same F1 F2 ∧ Own X.K H3 F2 ((Dl, setOD X.K X.prog X.w Dl acc) :: L2) ∧ Iv (i + 1) acc L2, fun H' p => ⟨ds.length - (i + 1), by omega, rfl, hlt, p⟩, fun x H' y => ?_⟩
    obtain ⟨F3, s3, o3, ix⟩ := g2 x H' y
    obtain ⟨us, b, hgd, hus, htest, helt⟩ := hstep i (ds[i]) acc L2 (by simp [hlt]) q
    refine hgd F3 H' _ (wipe σ vs) x _ o3 ix fun ws hw => ?_
    have hin : ∀ w ∈ ws, w.1 ∈ vs := by
      clear hgd htest helt
      induction hw with
      | nil => intro w z; cases z
      | cons r t ih =>
        intro w z
        rcases List.mem_cons.mp z with z | z
        · rw [z, r.1]
          exact hus _ (List.mem_cons_self ..)
        · exact ih (fun u hu => hus u (List.mem_cons_of_mem _ hu)) w z
    have sAll : Same F F3 := (s1'.trans s2').trans s3
    have ev : EnvOk X.K F3 (setsV (wipe σ vs) ws) (setsD (wipeD ρ vs) us) := env_sets (env_wipe (A.env.mono sAll) vs) hw
    have at3 : ∀ {Y : Cx} {H3 F4 : Hp} {L4 : Led}, Y.K = X.K → Same F3 F4 → Own X.K H3 F4 L4 → At Y (setsD (wipeD ρ vs) us) L4 noR (setsV (wipe σ vs) ws) H3 F4 (fun _ _ _ _ => False) := fun {Y H3 F4 L4} ek s4 o4 => ⟨by rw [ek]; exact ev.mono s4, by rw [ek]; exact o4, takes0, fun _ _ _ ⟨_, _, _, _, _, _, _, _, _, _, _, _, z⟩ => z⟩
    have fin : ∀ {t : Bool} {H3 : Hp}, upB X.K F3 (fun t L4 => t = b ∧ L4 = (Dl, setOD X.K X.prog X.w Dl acc) :: L2) t H3 →
        if t = true then wB X scope elt (setsV (wipe σ vs) ws) H3 fun y H4 => Added X Dl y H4 fun H3 => ∃ F2 acc L2, Same F1 F2 ∧ Own X.K H3 F2 ((Dl, setOD X.K X.prog X.w Dl acc) :: L2) ∧ Iv (i + 1) acc L2
        else ∃ F2 acc L2, Same F1 F2 ∧ Own X.K H3 F2 ((Dl, setOD X.K X.prog X.w Dl acc) :: L2) ∧ Iv (i + 1) acc L2 := by
      rintro t H3 ⟨F4, L4, s4, o4, rfl, rfl⟩
      cases t with
      | false => exact ⟨F4, acc, L2, (s2'.trans s3).trans s4, o4, helt⟩
      | true =>
        have helt : ∀ Y p, Blk X scope Y → PD Y elt (setsD (wipeD ρ vs) us) ((p, setOD X.K X.prog X.w p acc) :: L2) (fun y L6 => ∃ k L7, y = rowD k ∧ Lw L6 ((p, setOD X.K X.prog X.w p acc) :: L7) ∧ acc.length < 1228 ∧ Iv (i + 1) (acc ++ [k]) L7) noR := helt
        intro s0 H0 C cl fp
        refine ((helt _ Dl ⟨s0, H0, C, cl, fp, rfl⟩).go _ _ _ _ (at3 rfl s4 o4)).mono fun y H4 ⟨F5, d5, L6, s5, o5, i5, k, L7, ek, e7, hl7, q7⟩ => ?_
        subst ek
        have o5 := e7.own o5
        obtain ⟨x, rfl, hx⟩ := isRow i5
        obtain ⟨_, u, g1, M, h2, h3, h4, h5⟩ := o5.cell _ (List.mem_cons_self ..)
        subst h2
        have small : M.length ≤ acc.length := by
          have z := nodup_le h3 fun k hk => (h4 k).mp hk
          rw [List.length_map] at z
          exact z
        refine ⟨x, k, M, rfl, same_t o5.sub hx, g1, fun q hq => same_t o5.sub (h5 q hq), by omega, fun M' c1 c2 => ⟨F5, acc ++ [k], L7, ((s2'.trans s3).trans s4).trans s5, o5.write (Foc.here : Foc Dl (setOD X.K X.prog X.w Dl acc) (setOD X.K X.prog X.w Dl (acc ++ [k])) ((Dl, _) :: L7) ((Dl, _) :: L7)) ⟨M', rfl, ?_⟩, q7⟩⟩
        by_cases hk : k ∈ M.map (·.2)
        · rw [c1 hk]
          refine ⟨h3, fun k' => ⟨fun z => List.mem_append_left _ ((h4 k').mp z), fun z => ?_⟩, h5⟩
          rcases List.mem_append.mp z with z | z
          · exact (h4 k').mpr z
          · rw [List.mem_singleton.mp z]; exact hk
        · have pm := c2 hk
          refine ⟨(pm.map (·.2)).nodup_iff.mpr (List.nodup_cons.mpr ⟨hk, h3⟩), fun k' => (pm.map (·.2)).mem_iff.trans ⟨fun z => ?_, fun z => ?_⟩, fun q hq => ?_⟩
          · rcases List.mem_cons.mp z with z | z
            · exact List.mem_append_right _ (List.mem_singleton.mpr z)
            · exact List.mem_append_left _ ((h4 k').mp z)
          · rcases List.mem_append.mp z with z | z
            · exact List.mem_cons_of_mem _ ((h4 k').mpr z)
            · rw [List.mem_singleton.mp z]; exact List.mem_cons_self
          · rcases List.mem_cons.mp (pm.mem_iff.mp hq) with z | z
            · rw [z]; exact hx
            · exact h5 q z
    refine ⟨by rw [wipe_sets hin, wipe_wipe], fun s0 H0 C cl fp' pins' s' I' => ?_⟩
    match ifs, htest with
    | [], htest => exact fin ⟨F3, _, Same.refl _, o3, htest (X.blk s0 H0 scope (compEnvC scope cl C X.env) fp') Dl ⟨s0, H0, C, cl, fp', rfl⟩⟩
    | [c], htest =>
      have ht : PDT (X.blk s0 H0 scope (compEnvC scope cl C X.env) fp') c (setsD (wipeD ρ vs) us) ((Dl, setOD X.K X.prog X.w Dl acc) :: L2) (fun t L4 => t = b ∧ L4 = (Dl, setOD X.K X.prog X.w Dl acc) :: L2) noR := htest _ Dl ⟨s0, H0, C, cl, fp', rfl⟩
      exact thn (ht.go _ _ _ _ (at3 rfl (Same.refl _) o3) pins' s' I') fun t s5 ⟨H5, I5, q5⟩ => ⟨H5, I5, fin q5⟩
    | _ :: _ :: _, htest => exact (htest _ Dl ⟨s0, H0, C, cl, fp', rfl⟩ : False).elim
  · have e : i = ds.length := by omega
    subst e
    exact .inl ⟨k1 (Nat.le_refl _), F2, .ref Dl, _, s1'.trans s2', o2, .sc _, hend acc L2 q Dl⟩
theorem pd_sc {tg iter elt : Expr} {ifs : List Expr} {scope : Scope} {own : List (Str × Nat)} {g : TG} (hc : X.calm = true) (hN : X.N.Nodup) (hu : X.A.units + 1 < cLine) (ok : BlkOk X.N X.env.scope scope own)
    (hg : ∀ (s : Shared) (H : Hp) (C : Addr) (cl : List (Str × Addr)) (fp : List Addr), PG (X.blk s H scope (compEnvC scope cl C X.env) fp) tg g)
    (h : PDI X tg iter ρ L (fun ds G L1 => ScD X g elt ifs scope (own.map (·.2)) ρ ds G L1 P) R) (hs : ∀ x, foldedSetIterable iter X.env x = pure x := by intro _; rfl) : PD X (.SetComp elt [⟨tg, iter, ifs, 0⟩] scope pos) ρ L P R :=
  pd_of (pe_setc hc hN hu pi_w ok hg (fun s0 H0 C cl fp => pts_wB s0 H0 C cl fp) (fun s0 H0 C cl fp => pe_wB s0 H0 C cl fp) hs) fun σ H F W A => sc_read h A
end
end D2
end
section
set_option Elab.async false
set_option linter.all false
set_option maxRecDepth 100000
set_option maxHeartbeats 2000000
namespace D2
open PySem PySem.Spec L2

/-! ### data that are compared by == -/
mutual
inductive DP (L : Led) : D → PyData → Prop
  | int (i : Int) : DP L (.sc (.int i)) (.int i)
  | bl (b : Bool) : DP L (.sc (.bl b)) (.bool b)
  | str (x : Str) : DP L (.sc (.str x)) (.str x)
  | non : DP L (.sc .non) .none
  | lst {ds : List D} {ps : List PyData} : DPs L ds ps → DP L (.lst ds) (.list ps)
  | fro {ds : List D} {ps : List PyData} : DPs L ds ps → DP L (.fro ds) (.list ps)
  | tup {ds : List D} {ps : List PyData} : DPs L ds ps → DP L (.tup ds) (.tuple ps)
  | tuq {ds : List D} {ps : List PyData} : DPs L ds ps → DP L (.tuq ds) (.tuple ps)
  | own {p : Addr} {ds : List D} {ps : List PyData} : (p, OD.lst ds) ∈ L → DPs L ds ps → DP L (.sc (.ref p)) (.list ps)
inductive DPs (L : Led) : List D → List PyData → Prop
  | nil : DPs L [] []
  | cons {d : D} {ds : List D} {p : PyData} {ps : List PyData} : DP L d p → DPs L ds ps → DPs L (d :: ds) (p :: ps)
end
mutual
theorem DP.plain {L : Led} : ∀ {d : D} {p : PyData}, DP L d p → p.plain = true
  | _, _, .int i => rfl
  | _, _, .bl b => rfl
  | _, _, .str x => rfl
  | _, _, .non => rfl
  | _, _, .lst h => by simp only [PyData.plain]; exact DPs.plain h
  | _, _, .fro h => by simp only [PyData.plain]; exact DPs.plain h
  | _, _, .tup h => by simp only [PyData.plain]; exact DPs.plain h
  | _, _, .tuq h => by simp only [PyData.plain]; exact DPs.plain h
  | _, _, .own _ h => by simp only [PyData.plain]; exact DPs.plain h
theorem DPs.plain {L : Led} : ∀ {d : List D} {p : List PyData}, DPs L d p → PyData.plainAll p = true
  | _, _, .nil => rfl
  | _, _, .cons a b => by simp only [PyData.plainAll, DP.plain a, DPs.plain b]; rfl
end
mutual
theorem DP.sub {L L' : Led} (s : SubL L L') : ∀ {d : D} {p : PyData}, DP L d p → DP L' d p
  | _, _, .int i => .int i
  | _, _, .bl b => .bl b
  | _, _, .str x => .str x
  | _, _, .non => .non
  | _, _, .lst h => .lst (DPs.sub s h)
  | _, _, .fro h => .fro (DPs.sub s h)
  | _, _, .tup h => .tup (DPs.sub s h)
  | _, _, .tuq h => .tuq (DPs.sub s h)
  | _, _, .own m h => .own (s _ m) (DPs.sub s h)
theorem DPs.sub {L L' : Led} (s : SubL L L') : ∀ {d : List D} {p : List PyData}, DPs L d p → DPs L' d p
  | _, _, .nil => .nil
  | _, _, .cons a b => .cons (DP.sub s a) (DPs.sub s b)
end
section
variable {X : Cx} {pins : List (Addr × Obj)} {σ : St} {H F : Hp} {s : Shared} {L : Led}
mutual
theorem DP.reads (I : Inv X pins σ H s) (o : Own X.K H F L) : ∀ {d : D} {p : PyData} {v : V} {u : Value}, DP L d p → Is X.K F v d → RelV v u → ∃ as, Reads s.heap u p as
  | _, _, _, _, .int i, .sc _, ⟨t, e⟩ => by subst e; exact ⟨_, .int i t⟩
  | _, _, _, _, .bl b, .sc _, e => by cases e; exact ⟨_, .bool b⟩
  | _, _, _, _, .str x, .sc _, ⟨t, e⟩ => by subst e; exact ⟨_, .str x t⟩
  | _, _, _, _, .non, .sc _, e => by cases e; exact ⟨_, .none⟩
  | _, _, _, _, .lst h, .lst q hx, e => by
    cases e
    obtain ⟨its, r, pl, _⟩ := I.list (SqL.of (o.sub _ _ q))
    obtain ⟨as, ha⟩ := DPs.reads I o h hx r
    obtain ⟨ob, h1, h2, n, h3⟩ := pl.isList
    exact ⟨_, .list h1 h2 h3 (by simpa using ha)⟩
  | _, _, _, _, .fro h, .fro q hx, e => by
    cases e
    obtain ⟨its, r, pl, _⟩ := I.list (same_l o.sub q)
    obtain ⟨as, ha⟩ := DPs.reads I o h hx r
    obtain ⟨ob, h1, h2, n, h3⟩ := pl.isList
    exact ⟨_, .list h1 h2 h3 (by simpa using ha)⟩
  | _, _, _, _, .tup h, .tup q hx, e => by
    cases e
    obtain ⟨its, r, ⟨ob, h1, h2, n, h3⟩, _⟩ := I.tuple (same_t o.sub q)
    obtain ⟨as, ha⟩ := DPs.reads I o h hx r
    exact ⟨_, .tuple h1 h2 h3 (by simpa using ha)⟩
  | _, _, _, _, .tuq h, .tuq q _ hx, e => by
    cases e
    obtain ⟨its, r, ⟨ob, h1, h2, n, h3⟩, _⟩ := I.tuple (Or.inl (Or.inr ⟨_, o.sub _ _ q⟩))
    obtain ⟨as, ha⟩ := DPs.reads I o h hx r
    exact ⟨_, .tuple h1 h2 h3 (by simpa using ha)⟩
  | _, _, _, _, .own m h, .sc _, e => by
    cases e
    obtain ⟨_, ob, g1, xs, g2, hx⟩ := o.cell _ m
    have g2 : ob = .lst xs := g2
    subst g2
    obtain ⟨its, r, pl, _⟩ := I.list (SqL.of g1)
    obtain ⟨as, ha⟩ := DPs.reads I o h hx r
    obtain ⟨ob, h1, h2, n, h3⟩ := pl.isList
    exact ⟨_, .list h1 h2 h3 (by simpa using ha)⟩
theorem DPs.reads (I : Inv X pins σ H s) (o : Own X.K H F L) : ∀ {d : List D} {p : List PyData} {v : List V} {u : List Value}, DPs L d p → IsL X.K F v d → Vals v u → ∃ as, ReadsAll s.heap u p as
  | _, _, _, _, .nil, .nil, .nil => ⟨_, .nil⟩
  | _, _, _, _, .cons a b, .cons i j, .cons r t => by
    obtain ⟨as, ha⟩ := DP.reads I o a i r
    obtain ⟨bs, hb⟩ := DPs.reads I o b j t
    exact ⟨_, .cons ha hb⟩
end
end
section
variable {X : Cx} {da db : D} {pa pb : PyData} {L : Led} {P : PK1}
theorem od_eq (hu : X.A.units + 64 < cLine) (a : DP L da pa) (b : DP L db pb) (hd : pa.depth ≤ 60 ∨ pb.depth ≤ 60) (h : P (.bl (PyData.eqv pa pb)) L) : OpD X (compareOp .Eq) da db L P := fun pins s σ H F x y v u o ix iy I rx ry => by
  obtain ⟨as, ra⟩ := a.reads I o ix rx
  obtain ⟨bs, rb⟩ := b.reads I o iy ry
  exact SeqAt.eq_plain ra rb a.plain b.plain (by omega) ⟨.bl _, H, I, rfl, upV.here o (.sc _) h⟩
theorem od_ne (hu : X.A.units + 64 < cLine) (a : DP L da pa) (b : DP L db pb) (hd : pa.depth ≤ 60 ∨ pb.depth ≤ 60) (h : P (.bl (!PyData.eqv pa pb)) L) : OpD X (compareOp .NotEq) da db L P := fun pins s σ H F x y v u o ix iy I rx ry => by
  obtain ⟨as, ra⟩ := a.reads I o ix rx
  obtain ⟨bs, rb⟩ := b.reads I o iy ry
  exact SeqAt.ne_plain ra rb a.plain b.plain (by omega) ⟨.bl _, H, I, rfl, upV.here o (.sc _) h⟩
/-- x in c, x not in c -/
theorem od_inL {ps : List PyData} (hu : X.A.units + 64 < cLine) (a : DP L da pa) (b : DP L db (.list ps)) (hd : pa.depth ≤ 60) (h : P (.bl (ps.any fun y => PyData.eqv y pa)) L) : OpD X (compareOp .In) da db L P := fun pins s σ H F x y v u o ix iy I rx ry => by
  obtain ⟨as, ra⟩ := a.reads I o ix rx
  obtain ⟨bs, rb⟩ := b.reads I o iy ry
  have pl := b.plain
  simp only [PyData.plain] at pl
  exact SeqAt.in_list_data rb ra pl a.plain (by omega) ⟨.bl _, H, I, rfl, upV.here o (.sc _) h⟩
theorem od_notInL {ps : List PyData} (hu : X.A.units + 64 < cLine) (a : DP L da pa) (b : DP L db (.list ps)) (hd : pa.depth ≤ 60) (h : P (.bl (!ps.any fun y => PyData.eqv y pa)) L) : OpD X (compareOp .NotIn) da db L P := fun pins s σ H F x y v u o ix iy I rx ry => by
  obtain ⟨as, ra⟩ := a.reads I o ix rx
  obtain ⟨bs, rb⟩ := b.reads I o iy ry
  have pl := b.plain
  simp only [PyData.plain] at pl
  exact SeqAt.notIn_list_data rb ra pl a.plain (by omega) ⟨.bl _, H, I, rfl, upV.here o (.sc _) h⟩
theorem od_inT {ps : List PyData} (hu : X.A.units + 64 < cLine) (a : DP L da pa) (b : DP L db (.tuple ps)) (hd : pa.depth ≤ 60) (h : P (.bl (ps.any fun y => PyData.eqv y pa)) L) : OpD X (compareOp .In) da db L P := fun pins s σ H F x y v u o ix iy I rx ry => by
  obtain ⟨as, ra⟩ := a.reads I o ix rx
  obtain ⟨bs, rb⟩ := b.reads I o iy ry
  have pl := b.plain
  simp only [PyData.plain] at pl
  exact SeqAt.in_tuple_data rb ra pl a.plain (by omega) ⟨.bl _, H, I, rfl, upV.here o (.sc _) h⟩
theorem od_notInT {ps : List PyData} (hu : X.A.units + 64 < cLine) (a : DP L da pa) (b : DP L db (.tuple ps)) (hd : pa.depth ≤ 60) (h : P (.bl (!ps.any fun y => PyData.eqv y pa)) L) : OpD X (compareOp .NotIn) da db L P := fun pins s σ H F x y v u o ix iy I rx ry => by
  obtain ⟨as, ra⟩ := a.reads I o ix rx
  obtain ⟨bs, rb⟩ := b.reads I o iy ry
  have pl := b.plain
  simp only [PyData.plain] at pl
  exact SeqAt.notIn_tuple_data rb ra pl a.plain (by omega) ⟨.bl _, H, I, rfl, upV.here o (.sc _) h⟩
end
/-! ### typed data -/
section
variable {L : Led}
theorem DPs.map {α : Type} {f : α → D} {g : α → PyData} (h : ∀ a, DP L (f a) (g a)) : ∀ xs : List α, DPs L (xs.map f) (xs.map g)
  | [] => .nil
  | x :: xs => .cons (h x) (DPs.map h xs)
theorem dp_row (k : Row) : DP L (rowD k) (W.Datum.toD (W.Tup.mk k)) := .tup (DPs.map .int k)
theorem dp_ints (k : List Int) : DP L (.lst (k.map D.int)) (W.Datum.toD k) := .lst (DPs.map .int k)
theorem dp_rows (ks : List Row) : DP L (.lst (ks.map rowD)) (W.Datum.toD (ks.map W.Tup.mk)) := by
  refine .lst ?_
  rw [List.map_map]
  exact DPs.map dp_row ks
theorem dp_rowsT (ks : List Row) : DP L (.tup (ks.map rowD)) (W.Datum.toD (W.Tup.mk (ks.map W.Tup.mk))) := by
  refine .tup ?_
  show DPs L _ (List.map _ (ks.map W.Tup.mk))
  rw [List.map_map]
  exact DPs.map dp_row ks
variable {α : Type} [DecidableEq α] [W.Datum α] {X : Cx} {da db : D} {P : PK1}
theorem od_eqT {x y : α} (hu : X.A.units + 64 < cLine) (a : DP L da (W.Datum.toD x)) (b : DP L db (W.Datum.toD y)) (hd : W.Datum.depth α ≤ 60) (h : P (.bl (decide (x = y))) L) : OpD X (compareOp .Eq) da db L P :=
  od_eq hu a b (.inl (Nat.le_trans (W.Datum.depth_le x) hd)) (by rw [W.Datum.eqv]; exact h)
theorem od_neT {x y : α} (hu : X.A.units + 64 < cLine) (a : DP L da (W.Datum.toD x)) (b : DP L db (W.Datum.toD y)) (hd : W.Datum.depth α ≤ 60) (h : P (.bl (!decide (x = y))) L) : OpD X (compareOp .NotEq) da db L P :=
  od_ne hu a b (.inl (Nat.le_trans (W.Datum.depth_le x) hd)) (by rw [W.Datum.eqv]; exact h)
theorem od_inLT {x : α} {ys : List α} (hu : X.A.units + 64 < cLine) (a : DP L da (W.Datum.toD x)) (b : DP L db (W.Datum.toD ys)) (hd : W.Datum.depth α ≤ 60) (h : P (.bl (decide (x ∈ ys))) L) : OpD X (compareOp .In) da db L P :=
  od_inL hu a b (Nat.le_trans (W.Datum.depth_le x) hd) (by rw [W.any_datum]; exact h)
theorem od_inTT {x : α} {ys : List α} (hu : X.A.units + 64 < cLine) (a : DP L da (W.Datum.toD x)) (b : DP L db (W.Datum.toD (W.Tup.mk ys))) (hd : W.Datum.depth α ≤ 60) (h : P (.bl (decide (x ∈ ys))) L) : OpD X (compareOp .In) da db L P :=
  od_inT hu a b (Nat.le_trans (W.Datum.depth_le x) hd) (by rw [show (List.map W.Datum.toD (W.Tup.mk ys).items) = ys.map W.Datum.toD from rfl, W.any_datum]; exact h)
end
end D2
end
section
set_option Elab.async false
set_option linter.all false
set_option maxRecDepth 100000
set_option maxHeartbeats 2000000
namespace D2
open PySem PySem.Spec L2

/-! ### classes and their instances -/
structure ClsOk (K : PySem.W.Frag) (C : Addr) : Prop where
  c : Cls K C
  ha : PySem.W.findIn K (.ref C) "__class__" = some (some (.builtin "object.__class__"))
  hn : PySem.W.specialIn K (.builtin "object.__class__") "__get__" = some (some (.builtin "getset_descriptor.__get__"))
  htk : PySem.W.takesIn K (.builtin "object.__class__") = some true
  hm : PySem.W.mroIn K C (.type "object") = some true
/-- an instance that may change: its fields fs, its dict at dx -/
def insOD (K : PySem.W.Frag) (C dx : Addr) (fs : List (Str × D)) : OD := .mp (fun F o => ∃ gs : List (Str × V), o = .ins C dx gs ∧ IsF K F gs fs) fun F F' o e ⟨gs, h1, h2⟩ => ⟨gs, h1, h2.mono e⟩
abbrev dxOD (x : Addr) : OD := .raw (.own x)
def putD (f : Str) (v : D) : List (Str × D) → List (Str × D)
  | [] => [(f, v)]
  | (g, x) :: r => if g = f then (g, v) :: r else (g, x) :: putD f v r
section
variable {K : PySem.W.Frag} {H F F' : Hp} {L L' : Led} {x dx C : Addr} {fs : List (Str × D)}
theorem IsF.put {f : Str} {v : V} {d : D} (h : Is K F v d) : ∀ {gs : List (Str × V)} {fs : List (Str × D)}, IsF K F gs fs → IsF K F (putF f v gs) (putD f d fs)
  | _, _, .nil => .cons h .nil
  | _, _, .cons (f := g) a b => by
    unfold putF putD
    split
    · exact .cons h b
    · exact .cons a (IsF.put h b)
theorem IsF.length : ∀ {gs : List (Str × V)} {fs : List (Str × D)}, IsF K F gs fs → gs.length = fs.length
  | _, _, .nil => rfl
  | _, _, .cons a b => by rw [List.length_cons, List.length_cons, IsF.length b]
theorem IsF.look {f : Str} {d : D} : ∀ {gs : List (Str × V)} {fs : List (Str × D)}, IsF K F gs fs → fs.lookup f = some d → ∃ v, gs.lookup f = some v ∧ Is K F v d
  | _, _, .nil, h => by cases h
  | _, _, .cons (f := g) (v := v) (d := e) a b, h => by
    by_cases q : f = g
    · subst q
      simp only [List.lookup, beq_self_eq_true, Option.some.injEq] at h ⊢
      subst h
      exact ⟨v, rfl, a⟩
    · have q' : (f == g) = false := by simpa using q
      simp only [List.lookup, q'] at h ⊢
      exact IsF.look b h
/-- an instance that will not change any more -/
theorem Own.freezeI (w : Own K H F ((x, insOD K C dx fs) :: (dx, dxOD x) :: L)) : ∃ F', Same F F' ∧ Own K H F' L ∧ Is K F' (.ref x) (.ins C fs) := by
  obtain ⟨n1, o1, h1, gs, rfl, hf⟩ := w.cell _ (List.mem_cons_self ..)
  obtain ⟨n2, o2, h2, e2⟩ := w.cell (dx, dxOD x) (List.mem_cons_of_mem _ (List.mem_cons_self ..))
  have e2 : o2 = .own x := e2
  subst e2
  have nd := w.nd
  simp only [List.map_cons, List.nodup_cons, List.mem_cons, not_or] at nd
  obtain ⟨⟨ne, nx⟩, nd2, nd3⟩ := nd
  have s1 : Same F (upd F x (.ins C dx gs)) := Same.upd_new n1
  have s2 : Same (upd F x (.ins C dx gs)) (upd (upd F x (.ins C dx gs)) dx (.own x)) := Same.upd_new (by rw [upd_ne (Ne.symm ne)]; exact n2)
  refine ⟨_, s1.trans s2, ⟨fun a u e => ?_, fun e he => ?_, nd3⟩, .ins (s2 _ _ upd_same) (hf.mono (s1.trans s2))⟩
  · by_cases h3 : a = dx
    · subst h3
      rw [upd_same] at e
      rw [← e]
      exact h2
    · rw [upd_ne h3] at e
      by_cases h4 : a = x
      · subst h4
        rw [upd_same] at e
        rw [← e]
        exact h1
      · rw [upd_ne h4] at e
        exact w.sub a u e
  · obtain ⟨q1, u, q2, q3⟩ := w.cell e (List.mem_cons_of_mem _ (List.mem_cons_of_mem _ he))
    have k1 : e.1 ≠ x := fun z => nx (List.mem_map.mpr ⟨e, he, z⟩)
    have k2 : e.1 ≠ dx := fun z => nd2 (List.mem_map.mpr ⟨e, he, z⟩)
    exact ⟨by rw [upd_ne k2, upd_ne k1]; exact q1, u, q2, q3.mono (s1.trans s2)⟩
theorem Own.made (w : Own K H F L) (h1 : H x = none) (h2 : H dx = none) (ne : dx ≠ x) : Own K (upd (upd H dx (.own x)) x (.ins C dx [])) F ((x, insOD K C dx []) :: (dx, dxOD x) :: L) :=
  (w.push (x := dxOD x) h2 rfl).push (x := insOD K C dx []) (by rw [upd_ne (Ne.symm ne)]; exact h1) ⟨[], rfl, .nil⟩
end
section
variable {X : Cx} {e a b c o : Expr} {es : List Expr} {st : Stmt} {sts rest : List Stmt} {ρ : Rho} {L : Led} {P : PK1} {R : RK1} {E : DE} {pos : Pos}
/-- o.f: of an instance that does not change -/
theorem pd_fld {f : Str} (h : PD X e ρ L (fun d L1 => ∃ C fs v, d = .ins C fs ∧ Cls X.K C ∧ NoAttr X.K C f ∧ fs.lookup f = some v ∧ P v L1) R) (hb : attributeBase e f X.env (eval e X.env) = eval e X.env := by rfl) : PD X (.Attribute e f pos) ρ L P R :=
  pd_of (pe_fld pe_w hb) fun σ H F W A => h.step A fun v H1 F1 d L1 s1 A1 i1 ⟨C, fs, y, ed, hc, hn, hl, q⟩ => by
    subst ed
    cases i1 with
    | ins h1 h2 =>
      obtain ⟨w, g1, g2⟩ := h2.look hl
      exact ⟨_, C, _, _, w, rfl, A1.own.sub _ _ h1, hc, hn, g1, F1, y, L1, s1, A1.own, g2, q⟩
/-- .. of one that may -/
theorem pd_fldO {f : Str} (h : PD X e ρ L (fun d L1 => ∃ x C dx fs v, d = .ref x ∧ (x, insOD X.K C dx fs) ∈ L1 ∧ Cls X.K C ∧ NoAttr X.K C f ∧ fs.lookup f = some v ∧ P v L1) R) (hb : attributeBase e f X.env (eval e X.env) = eval e X.env := by rfl) : PD X (.Attribute e f pos) ρ L P R :=
  pd_of (pe_fld pe_w hb) fun σ H F W A => h.step A fun v H1 F1 d L1 s1 A1 i1 ⟨x, C, dx, fs, y, ed, hm, hc, hn, hl, q⟩ => by
    subst ed
    cases i1
    obtain ⟨_, u, h1, gs, e2, h2⟩ := A1.own.cell _ hm
    subst e2
    obtain ⟨w, g1, g2⟩ := h2.look hl
    exact ⟨_, C, _, _, w, rfl, h1, hc, hn, g1, F1, y, L1, s1, A1.own, g2, q⟩
/-- o.f = e -/
theorem pds_fld {f : Str} {p' : Pos} (h : PD X e ρ L (fun d L1 => PD X o ρ L1 (fun do_ L2 => ∃ x C dx fs L3, do_ = .ref x ∧ Foc x (insOD X.K C dx fs) (insOD X.K C dx (putD f d fs)) L2 L3 ∧ Cls X.K C ∧ NoAttr X.K C f ∧ fs.length < 1000 ∧ E.nx ρ L3) (E.ex ρ)) (E.ex ρ))
    (hs : swapsWith e (some (.Attribute o f p')) pos.line X.env = pure false := by rfl) : PDS X (.Assign [.Attribute o f p'] e pos) E ρ L :=
  pds_of (ps_fld pe_w pe_w hs) fun σ H F W A => h.step A.at fun v H1 F1 d L1 s1 A1 i1 q => q.step A1 fun v2 H2 F2 d2 L2 s2 A2 i2 ⟨x, C, dx, fs, L3, ed, fo, hc, hn, hl, q2⟩ => by
    subst ed
    cases i2
    obtain ⟨_, u, h1, gs, e2, h2⟩ := A2.own.cell _ fo.mem
    subst e2
    exact ⟨x, C, dx, gs, rfl, h1, hc, hn, by rw [h2.length]; exact hl, F2, ρ, L3, s1.trans s2, A2.own.write fo ⟨_, rfl, (h2.put (i1.mono s2))⟩, A2.env, q2⟩

/-! ### C(..) -/
/-- what __init__'s contract is asked for -/
def MkD (K : PySem.W.Frag) (C : Addr) (T : Ct) (ds : List D) (L : Led) (P : PK1) (R : RK1) : Prop := ∀ x dx : Addr, T (.ref x :: ds) ((x, insOD K C dx []) :: (dx, dxOD x) :: L) (fun d L2 => d = .non ∧ ∃ fs L3, Lw L2 ((x, insOD K C dx fs) :: (dx, dxOD x) :: L3) ∧ P (.ins C fs) L3) R
theorem run_made {k : Nat} {f C : Addr} {fd : FuncData} {ps ks : List Str} {T : Ct} {g : List Value → List Value → List Value} {gV : List V → List V → List V} {pins : List (Addr × Obj)} {σ : St} {H F : Hp} {s : Shared} {us ws : List Value} {vs zs : List V} {ds : List D} {W : WX}
    (M : Mk X.K C f) (G : FnOk X.prog X.w X.K X.mg X.base (L2.CX X.prog X.w) k f fd ps (spD X.K T)) (hr : Room (k + 1) X.A) (hb : KBn X.K fd ps (us.length + 1) ks g gV) (A : At X ρ L R σ H F W) (I : Inv X pins σ H s) (r : Vals vs us) (rz : Vals zs ws) (l2 : zs.length = ks.length)
    (hi : ∀ x, IsL X.K F (gV (.ref x :: vs) zs) (.ref x :: ds)) (h : MkD X.K C T ds L P R) : wpAny (model X.prog X.w) X.A (call (.ref C) us (ks.zip ws)) (EP X pins σ (upV X.K F P)) X.xe s := by
  have n1 : H (s.heap.objs.size + 1) = none := I.hok.fresh (Nat.le_succ _)
  have n2 : H s.heap.objs.size = none := I.hok.fresh (Nat.le_refl _)
  have ne : s.heap.objs.size ≠ s.heap.objs.size + 1 := Nat.ne_of_lt (Nat.lt_succ_self _)
  have I2 := Inv.made (C := C) I
  have r1 : Vals (V.ref (s.heap.objs.size + 1) :: vs) (Value.ref (s.heap.objs.size + 1) :: us) := .cons rfl r
  have r2 := hb.rel r1 rz
  have hsp : spD X.K T (gV (V.ref (s.heap.objs.size + 1) :: vs) zs) (upd (upd H s.heap.objs.size (.own (s.heap.objs.size + 1))) (s.heap.objs.size + 1) (.ins C s.heap.objs.size [])) (fun v H2 => v = .non ∧ upV X.K F P (.ref (s.heap.objs.size + 1)) H2) (fun c d H' => W c d σ H') :=
    ⟨F, _, _, _, R, hi _, A.own.made n1 n2 ne, h (s.heap.objs.size + 1) s.heap.objs.size, fun v H' ⟨F', d, L2, s1, o1, i1, ed, fs, L3, lw, p⟩ => by
      subst ed
      cases i1
      obtain ⟨F'', s2, o2, i2⟩ := (lw.own o1).freezeI
      exact ⟨rfl, F'', _, L3, s1.trans s2, o2, i2, p⟩, fun c d H' p => A.ex c d H' p⟩
  refine wpAny_call (make_map (f := f) I.kIn M.makes M.init (beq_iff_eq.mp M.fn) (codeAny_mono (G.run _ X.stack _ _ ⟨Value.ref (s.heap.objs.size + 1) :: us, ks.zip ws⟩ (g (Value.ref (s.heap.objs.size + 1) :: us) ws) _ _ _ (hr.make C us (ks.zip ws))
    (I2.env0.make C us (ks.zip ws)) (hb.to _ (Value.ref (s.heap.objs.size + 1) :: us) ws I2.kIn rfl (rz.length.symm.trans l2)) r2 hsp) fun r s' hq' => ?_))
  cases r with
  | error e => exact passAt A.tk σ pins _ _ e s' I2 hq'
  | ok fl =>
    cases fl with
    | ret u =>
      obtain ⟨v, H', I3, rv, ev, q3⟩ := I2.after hq'
      subst ev
      exact ⟨rv, ⟨V.ref (s.heap.objs.size + 1), H', I3, rfl, q3⟩⟩
    | next => exact False.elim hq'
    | brk => exact False.elim hq'
    | cont => exact False.elim hq'
theorem kbn_of {K : PySem.W.Frag} {fd : FuncData} {ps : List Str} (hb : Binds K fd ps []) : ∀ n, ps.length = n → KBn K fd ps n [] (fun us ws => us) (fun vs zs => vs) := fun n hl => ⟨fun s us ws X l1 l2 => by
  have := hb s us X (by simp; omega)
  simpa using this, fun r _ => r⟩
theorem pd_make {x : Str} {k : Nat} {f C : Addr} {fd : FuncData} {ps : List Str} {T : Ct} {p : Pos} (M : Mk X.K C f) (G : FnOk X.prog X.w X.K X.mg X.base (L2.CX X.prog X.w) k f fd ps (spD X.K T)) (hr : Room (k + 1) X.A) (hm : X.mg x = some (.ref C)) (hb : Binds X.K fd ps [])
    (h : PDA X (e :: es) ρ L (fun ds L1 => ds.length + 1 = ps.length ∧ MkD X.K C T ds L1 P R) R) (hg : Gl X x := by rfl) (hdb : (x == ("__debug__" : Str)) = false := by decide) (he : starEach (e :: es) X.env = (false, eval e X.env) :: starEach es X.env := by rfl)
    (hpl : (backTo pos (starEach es X.env)).any (·.1) = false := by rfl) : PD X (.Call (.Name x p) (e :: es) [] pos) ρ L P R := .mk fun σ H F W A pins s I => by
  refine wpAny_Call_Name_kw (ld_glob I hg hm ?_ hdb)
  refine PySem.W.callWith_K (h₀ := X.base) I.ok.mod.kin M.kp (thn ((h.step (Q := fun vs H1 => ∃ F1 ds L1, Same F F1 ∧ At X ρ L1 R σ H1 F1 W ∧ IsL X.K F1 vs ds ∧ ds.length + 1 = ps.length ∧ MkD X.K C T ds L1 P R) A fun vs H1 F1 ds L1 s1 A1 i1 q => ⟨F1, ds, L1, s1, A1, i1, q⟩) pos pins s I) fun us s1 ⟨vs, H1, I1, r, F1, ds, L1, s1', A1, i1, hl, q⟩ => ⟨I1.kIn, ?_⟩) he hpl
  have len : us.length + 1 = ps.length := by rw [← r.length, i1.length]; exact hl
  have run := run_made (ks := []) (us := us) (ws := []) (zs := []) (g := fun us ws => us) (gV := fun vs zs => vs) M G hr (kbn_of hb _ len.symm) A1 I1 r .nil rfl (fun x => .cons (.sc _) i1) q
  exact thn run fun z s' ⟨v', H', I', r', p'⟩ => ⟨v', H', I', r', p'.mono s1' fun _ _ p => p⟩

/-! ### keywords -/
def wK (X : Cx) (kws : List Keyword) : TA := fun σ H Q => ∀ (pos : Pos) (pins : List (Addr × Obj)) (s : Shared), Inv X pins σ H s → wpAny (model X.prog X.w) X.A (evalAll ((backToKw pos (keywordEach kws X.env)).map (·.2))) (AP X pins σ Q) X.xe s
theorem pk_w {kws : List Keyword} : PK X kws (wK X kws) := ⟨fun pos pins s σ H Q I h => h pos pins s I⟩
theorem wK.mono {kws : List Keyword} {σ : St} {H : Hp} {Q Q' : List V → Hp → Prop} (h : wK X kws σ H Q) (q : ∀ v H', Q v H' → Q' v H') : wK X kws σ H Q' := fun pos pins s I => thn (h pos pins s I) fun u s' ⟨v, H', I', r, p⟩ => ⟨v, H', I', r, q _ _ p⟩
structure PDK (X : Cx) (kws : List Keyword) (ρ : Rho) (L : Led) (P : List D → Led → Prop) (R : RK1) : Prop where
  go : ∀ σ H F W, At X ρ L R σ H F W → wK X kws σ H (upA X.K F P)
theorem pdk_nil {P : List D → Led → Prop} (h : P [] L) : PDK X [] ρ L P R := .mk fun σ H F W A pos pins s I => pk_nil.run pos pins s σ H _ I ⟨F, [], L, Same.refl _, A.own, .nil, h⟩
theorem pdk_cons {P : List D → Led → Prop} {nm : Option Str} {kpos : Pos} {kws : List Keyword} (h : PD X e ρ L (fun d L1 => PDK X kws ρ L1 (fun ds L2 => P (d :: ds) L2) R) R) : PDK X (⟨nm, e, kpos⟩ :: kws) ρ L P R := .mk fun σ H F W A pos pins s I =>
  (pk_cons (te := wE X e) (t := wK X kws) pe_w pk_w).run pos pins s σ H _ I (h.step A fun x H1 F1 da L1 s1 A1 ix q1 => wK.mono (q1.go σ H1 F1 W A1) fun y H2 ⟨F2, db, L2, s2, o2, iy, q2⟩ => ⟨F2, da :: db, L2, s1.trans s2, o2, .cons (ix.mono s2) iy, q2⟩)
theorem PDK.step {P : List D → Led → Prop} {Q : List V → Hp → Prop} {σ : St} {H F : Hp} {W : WX} {kws : List Keyword} (h : PDK X kws ρ L P R) (A : At X ρ L R σ H F W) (q : ∀ v H' F' d L', Same F F' → At X ρ L' R σ H' F' W → IsL X.K F' v d → P d L' → Q v H') : wK X kws σ H Q :=
  wK.mono (h.go σ H F W A) fun v H' ⟨F', d, L', s, o, i, p⟩ => q v H' F' d L' s (A.go s o) i p
/-- C(k = v, ..): gD puts the values in the parameters' order -/
theorem pd_makeK0 {x : Str} {k : Nat} {f C : Addr} {fd : FuncData} {ps ks : List Str} {T : Ct} {p : Pos} {kws : List Keyword} {g : List Value → List Value → List Value} {gV : List V → List V → List V} (gD : List D → List D) (M : Mk X.K C f) (G : FnOk X.prog X.w X.K X.mg X.base (L2.CX X.prog X.w) k f fd ps (spD X.K T)) (hr : Room (k + 1) X.A) (hm : X.mg x = some (.ref C))
    (hb : KBn X.K fd ps 1 ks g gV) (hgd : ∀ (F : Hp) (y : V) (zs : List V) (ds : List D), zs.length = ks.length → IsL X.K F zs ds → IsL X.K F (gV [y] zs) (.sc y :: gD ds)) (h : PDK X kws ρ L (fun ds L1 => ds.length = ks.length ∧ MkD X.K C T (gD ds) L1 P R) R) (hg : Gl X x := by rfl)
    (hall : (backToKw pos (keywordEach kws X.env)).all (·.1.isSome) = true := by rfl) (hks : (backToKw pos (keywordEach kws X.env)).filterMap (·.1) = ks := by rfl) (hdb : (x == ("__debug__" : Str)) = false := by decide)
    (hpl : ((backTo pos (starEach [] X.env)).any (·.1) || (backToKw pos (keywordEach kws X.env)).any (·.1.isNone)) = false := by rfl) : PD X (.Call (.Name x p) [] kws pos) ρ L P R := .mk fun σ H F W A pins s I => by
  refine wpAny_Call_Name_kw (ld_glob I hg hm ?_ hdb)
  refine PySem.W.callWith_KW0 (h₀ := X.base) I.ok.mod.kin M.kp hall ?_ hpl
  refine thn ((h.step (Q := fun vs H1 => ∃ F1 ds L1, Same F F1 ∧ At X ρ L1 R σ H1 F1 W ∧ IsL X.K F1 vs ds ∧ ds.length = ks.length ∧ MkD X.K C T (gD ds) L1 P R) A fun vs H1 F1 ds L1 s1 A1 i1 q => ⟨F1, ds, L1, s1, A1, i1, q⟩) pos pins s I) fun ws s1 ⟨zs, H1, I1, r, F1, ds, L1, s1', A1, i1, hl, q⟩ => ⟨I1.kIn, ?_⟩
  rw [hks]
  have zl : zs.length = ks.length := by rw [i1.length]; exact hl
  have run := run_made (us := []) (ws := ws) (vs := []) M G hr hb A1 I1 .nil r zl (fun x => hgd F1 _ zs ds zl i1) q
  exact thn run fun z s' ⟨v', H', I', r', p'⟩ => ⟨v', H', I', r', p'.mono s1' fun _ _ p => p⟩

/-! ### the type of a datum -/
/-- an owned object of which only the type is told -/
def tyOD (n : String) : OD := .mp (fun F o => ∀ (K : PySem.W.Frag) (H : Hp) (a : Addr), H a = some o → TyX K H (.ref a) (.type n)) fun F F' o e h => h
inductive Tg (K : PySem.W.Frag) (L : Led) : D → Value → Prop
  | non : Tg K L (.sc .non) (.type "NoneType")
  | bl (b : Bool) : Tg K L (.sc (.bl b)) (.type "bool")
  | int (i : Int) : Tg K L (.sc (.int i)) (.type "int")
  | str (x : Str) : Tg K L (.sc (.str x)) (.type "str")
  | lst (ds : List D) : Tg K L (.lst ds) (.type "list")
  | fro (ds : List D) : Tg K L (.fro ds) (.type "list")
  | tup (ds : List D) : Tg K L (.tup ds) (.type "tuple")
  | own {p : Addr} {ds : List D} (h : (p, OD.lst ds) ∈ L) : Tg K L (.sc (.ref p)) (.type "list")
  | ins {C : Addr} (fs : List (Str × D)) (ok : ClsOk K C) : Tg K L (.ins C fs) (.ref C)
  | oth {p : Addr} {n : String} (h : (p, tyOD n) ∈ L) : Tg K L (.sc (.ref p)) (.type n)
theorem Tg.ty {K : PySem.W.Frag} {H F : Hp} {v : V} {d : D} {t : Value} (g : Tg K L d t) (o : Own K H F L) (i : Is K F v d) : TyX K H v t := by
  cases g with
  | non => cases i; exact .base .non
  | bl b => cases i; exact .base (.bl b)
  | int b => cases i; exact .base (.int b)
  | str b => cases i; exact .base (.str b)
  | lst ds =>
    cases i with
    | lst hq hx => exact .base (.lst (o.sub _ _ hq))
  | fro ds =>
    cases i with
    | fro hq hx =>
      rcases same_l o.sub hq with (h | ⟨ob, h⟩) | ⟨ob, its, m, hk, hc, _⟩
      · exact .base (.lst h)
      · exact .base (.frz h)
      · exact .kList hk hc
  | tup ds =>
    cases i with
    | tup hq hx =>
      rcases same_t o.sub hq with (h | ⟨ob, h⟩) | ⟨ob, its, m, hk, hc, _⟩
      · exact .base (.tup h)
      · exact .fTuple h
      · exact .kTuple hk hc
  | own h =>
    cases i
    obtain ⟨_, u, h1, xs, rfl, h2⟩ := o.cell _ h
    exact .base (.lst h1)
  | ins fs ok =>
    cases i with
    | ins h1 h2 => exact .base (.ins (o.sub _ _ h1) ok.c ok.ha ok.hn ok.htk ok.hm)
  | oth h =>
    cases i
    obtain ⟨_, u, h1, h2⟩ := o.cell _ h
    exact h2 _ _ _ h1
/-- isinstance(x, c) -/
theorem cd_isiC {d : D} {t u : Value} {cv : V} {b : Bool} (g : Tg X.K L d t) (k : ClsV cv u) (hk : PySem.W.kitOne X.K t u = some b) (h : P (.bl b) L) : CallD X (.builtin "isinstance") [d, .sc cv] L P := cd_of call_isi fun H F xs o ix => by
  obtain ⟨v, w, rfl, i, j⟩ := isl2 ix
  cases j
  exact ⟨v, cv, t, u, b, rfl, k, g.ty o i, hk, upV.here o (.sc _) h⟩
/-- isinstance(x, (c, ..)) -/
theorem cd_isiT {d : D} {t : Value} {cs : List V} {us : List Value} {b : Bool} (g : Tg X.K L d t) (k : Paired ClsV cs us) (hk : PySem.W.kitAny X.K t us = some b) (h : P (.bl b) L) : CallD X (.builtin "isinstance") [d, .tup (cs.map D.sc)] L P := fun pins s σ H F xs ws o ix I r => by
  obtain ⟨v, w, rfl, i, j⟩ := isl2 ix
  cases j with
  | tup hq hx =>
    cases hx.sc_inv
    obtain ⟨u1, u2, rfl, r1, r2⟩ := vals2 r
    cases r2
    obtain ⟨Z, z1, p, ne⟩ := kit_of I r1 (g.ty o i)
    obtain ⟨its, rv, ⟨ob, g1, g2, n, g3⟩, _⟩ := I.tuple (same_t o.sub hq)
    have e3 := ClsV.all k rv
    subst e3
    obtain ⟨oc, od, dt, sl⟩ := ob
    simp only at g2 g3
    subst g2 g3
    exact PySem.W.kia_tup z1 I.kIn p g1 hk ne fun tk => ⟨.bl b, H, I.tok tk, rfl, upV.here o (.sc _) h⟩

/-! ### own == and own len -/
theorem run_inside {k : Nat} {f : Addr} {fd : FuncData} {ps : List Str} {T : Ct} {A : Around} {pins : List (Addr × Obj)} {σ : St} {H F : Hp} {s : Shared} {us : List Value} {vs : List V} {ds : List D} {E : Value → Shared → Prop}
    (G : FnOk X.prog X.w X.K X.mg X.base (L2.CX X.prog X.w) k f fd ps (spD X.K T)) (hr : Room k A) (hfr : A.frames = X.A.frames) (hb : Binds X.K fd ps []) (I : Inv X pins σ H s) (o : Own X.K H F L) (r : Vals vs us) (i : IsL X.K F vs ds) (hl : ds.length = ps.length)
    (h : T ds L P noR) : wpAny (model X.prog X.w) A (call (.ref f) us) (EP X pins σ (upV X.K F P)) E s := by
  have e0 : Env0 X.prog X.w X.K X.mg X.base A X.stack s H := by
    have e := I.env0
    exact ⟨by rw [hfr]; exact e.frames, e.mod, e.bs, e.bsz, e.funs, e.frf, e.hok, e.bare⟩
  have hsp : spD X.K T vs H (upV X.K F P) (fun _ _ _ => False) := ⟨F, L, ds, P, noR, i, o, h, fun v H' p => p, fun c d H' ⟨_, _, _, _, _, _, _, _, _, _, _, _, z⟩ => z⟩
  have len : us.length = ps.length := by rw [← r.length, i.length]; exact hl
  refine wpAny_call (codeAny_mono (G.run A X.stack s H ⟨us, []⟩ us vs _ _ hr e0 (by
    have := hb s us I.kIn (by simpa using len)
    simpa using this) r hsp) fun r s' hq => ?_)
  cases r with
  | error e =>
    obtain ⟨_, _, _, _, _, _, _, _, _, _, _, _, z⟩ := hq
    exact z.elim
  | ok fl =>
    cases fl with
    | ret w => exact I.after hq
    | next => exact False.elim hq
    | brk => exact False.elim hq
    | cont => exact False.elim hq
theorem inst_at {pins : List (Addr × Obj)} {σ : St} {H : Hp} {s : Shared} {a C dx : Addr} {gs : List (Str × V)} (I : Inv X pins σ H s) (h : H a = some (.ins C dx gs)) : ∃ ob od, PySem.W.InstAt s.heap a ob C od := by
  obtain ⟨mA, J, _⟩ := ins_get I.hok h
  obtain ⟨od, J, _⟩ := J.look
  exact ⟨_, _, J⟩
theorem od_eqOwn {k : Nat} {f C : Addr} {fd : FuncData} {ps : List Str} {T : Ct} {fs : List (Str × D)} {db : D} {t : Value} (G : FnOk X.prog X.w X.K X.mg X.base (L2.CX X.prog X.w) k f fd ps (spD X.K T)) (hr : Room k X.A) (hb : Binds X.K fd ps [])
    (hs : PySem.W.findIn X.K (.ref C) "__eq__" = some (some (.ref f))) (hf : PySem.W.isFn X.K (.ref f) = true) (g : Tg X.K L db t) (hn : PySem.W.notFirst X.K C t = true) (hl : ps.length = 2)
    (h : T [.ins C fs, db] L (fun d L' => ∃ b, d = .bl b ∧ P (.bl b) L') noR) : OpD X (compareOp .Eq) (.ins C fs) db L P := fun pins s σ H F x y v u o ix iy I rx ry => by
  show wpAny (model X.prog X.w) X.A (richCompare .Eq v u) _ _ s
  obtain ⟨Z, z1, p, ne⟩ := kit_of I ry (g.ty o iy)
  have hty := z1.ty (model X.prog X.w) s.heap I.kIn p
  cases ix with
  | @ins a _ dx gs _ h1 h2 =>
    cases rx
    obtain ⟨ob, od, J⟩ := inst_at I (o.sub _ _ h1)
    obtain ⟨m, fr⟩ := I.fr
    refine PySem.W.cmp_K (op := .Eq) (tb := t) hr.units0 fr I.ok.mod.kin J hty hn hs hf ?_
    refine wpAny_mono (run_inside (vs := [.ref a, y]) G hr rfl hb I o (.cons rfl (.cons ry .nil)) (.cons (.ins h1 h2) (.cons iy .nil)) hl.symm h) (fun z s' ⟨v', H', I', r', F', d', L', s1, o1, i1, b, ed, q⟩ => ?_) fun _ _ x => x
    subst ed
    cases i1
    cases r'
    exact ⟨.bl b, H', I', rfl, F', .bl b, L', s1, o1, .sc _, q⟩
theorem cd_lenOwn {k : Nat} {f C : Addr} {fd : FuncData} {ps : List Str} {T : Ct} {fs : List (Str × D)} (G : FnOk X.prog X.w X.K X.mg X.base (L2.CX X.prog X.w) k f fd ps (spD X.K T)) (hr : Room (k + 1) X.A) (hb : Binds X.K fd ps [])
    (hs : PySem.W.findIn X.K (.ref C) "__len__" = some (some (.ref f))) (hf : PySem.W.isFn X.K (.ref f) = true) (hl : ps.length = 1)
    (h : T [.ins C fs] L (fun d L' => ∃ n : Int, d = .int n ∧ 0 ≤ n ∧ n < 2 ^ 63 ∧ P (.int n) L') noR) : CallD X (.builtin "len") [.ins C fs] L P := fun pins s σ H F xs us o ix I r => by
  obtain ⟨v, rfl, i⟩ := isl1 ix
  cases i with
  | @ins a _ dx gs _ h1 h2 =>
    rw [Vals.ref1 r]
    obtain ⟨ob, od, J⟩ := inst_at I (o.sub _ _ h1)
    obtain ⟨m, fr⟩ := I.fr
    refine PySem.W.len_K fr I.ok.mod.kin J hs hf ?_
    refine wpAny_mono (run_inside (vs := [.ref a]) G hr.in1 rfl hb I o (.cons rfl .nil) (.cons (.ins h1 h2) .nil) hl.symm h) (fun z s' ⟨v', H', I', r', F', d', L', s1, o1, i1, n, ed, n0, n1, q⟩ => ?_) fun _ _ x => x
    subst ed
    cases i1
    obtain ⟨tk, rfl⟩ := r'
    exact ⟨⟨n0, n1⟩, .int n, H', I'.tok _, ⟨_, rfl⟩, F', .int n, L', s1, o1, .sc _, q⟩
end
end D2
end
section
set_option Elab.async false
set_option linter.all false
set_option maxRecDepth 100000
set_option maxHeartbeats 4000000
/-! super().__init__(..) in the __init__ of an own exception over ValueError. -/
namespace L2
open PySem PySem.Spec PyProof.Rows PySem.W
section
variable {X : Cx} {pins : List (Addr × Obj)} {σ : St} {H : Hp} {s : Shared} {h' : Heap}
theorem Inv.grown (I : Inv X pins σ H s) (t : Nat) (k : ∀ b o, s.heap.get? b = some o → h'.get? b = some o) : Inv X pins σ H { s with heap := h', toks := t } :=
  I.call' (s' := { s with heap := h', toks := t }) (ch := []) rfl (Un.kept k) (I.hok.kept k) I.bare fun _ z => nomatch z
/-- the classes in question, and the __init__ at f -/
structure SupTxt (P : Program) (K : PySem.W.Frag) (mg : Str → Option Value) (C f cda cc : Addr) (fd : FuncData) : Prop where
  fn : ∃ (oc : Value) (od : Option Addr) (osl : Array (Option Value)), K.lookup f = some ⟨oc, od, .func fd, osl⟩
  cell : ∃ (cl : Value) (cld : Option Addr) (csl : Array (Option Value)), K.lookup cc = some ⟨cl, cld, .cell (some (.ref C)), csl⟩
  code : ∃ (ccl : Value) (cdd : Option Addr) (vs : Array Value) (ccs : Array (Option Value)) (file : Str) (tf : Tok), K.lookup cda = some ⟨ccl, cdd, .fields vs, ccs⟩ ∧ vs[2]? = some (.str file tf) ∧ (P.main.file == file) = true
  top : (P.main.scope.names.lookup ("super" : Str)).isSome = false
  mgS : mg "super" = none
  any : PySem.W.nsIn K cStatics "thirdparty.any" = some none
  sup : PySem.W.ks_superIn K C C "__init__" = some (some (.builtin "ValueError.__init__"))
  isV : PySem.W.subIn K (.ref C) (.type "ValueError") = some true
  own : PySem.W.mroIn K C (.ref C) = some true
  ox : OexC K C
theorem super_call {pl : Sem Bool} {a C f cda cc : Addr} {fd : FuncData} {ar : Arg} {body : List Stmt} {p0 p1 p2 pos : Pos} {e : Expr} {es : List Expr} {ta : TA} {Q : VK} {E : Value → Shared → Prop} (T : SupTxt X.prog X.K X.mg C f cda cc fd)
    (hks : X.env.kindOf "super" = some .globalImplicit) (hkc : X.env.kindOf "__class__" = some .free) (hka : X.env.kindOf ar.arg = some .local) (hcl : X.env.cells.lookup ("__class__" : Str) = some cc) (hfu : X.env.func = some f) (hco : X.env.code = .ref cda)
    (hp : (fd.params.posonlyargs ++ fd.params.args).head? = some ar) (hN : X.N[0]? = some ar.arg) (hs0 : σ[0]? = some (some (.ref a))) (ha : PA X (e :: es) ta) (hE : X.xe = E) (I : Inv X pins σ H s) (hx : H a = some (exo a C none))
    (h : ta σ H fun vs H1 => vs.length ≤ 1000 ∧ H1 a = some (exo a C none) ∧ Q .non H1)
    (hc : eval (.Call (.Attribute (.Call (.Name "super" p0) [] [] p1) "__init__" p2) (e :: es) [] pos) X.env = (do
      let ov ← attributeBase (.Call (.Name "super" p0) [] [] p1) "__init__" X.env (eval (.Call (.Name "super" p0) [] [] p1) X.env)
      standAt p2.atName
      let (f, first) ← holding [ov] (getMethod ov "__init__" pl)
      callWith pos f first (backTo pos (starEach (e :: es) X.env)) []) := by rfl)
    (he : starEach (e :: es) X.env = (false, eval e X.env) :: starEach es X.env := by rfl) (hpl : (backTo pos (starEach es X.env)).any (·.1) = false := by rfl) :
    _root_.PySem.wpAt (model X.prog X.w) X.A (.func body X.env) (eval (.Call (.Attribute (.Call (.Name "super" p0) [] [] p1) "__init__" p2) (e :: es) [] pos) X.env) (EP X pins σ Q) E s := by
  obtain ⟨oc, od, osl, lf⟩ := T.fn
  obtain ⟨cl, cld, csl, lc⟩ := T.cell
  obtain ⟨ccl, cdd, vs, ccs, file, tf, lcd, hvs, hfile⟩ := T.code
  obtain ⟨nm, q, N, bs, bm, sn, sub, ab, col, dd, k0, k1, k2, k3, k5, hC, hbm⟩ := T.ox.cls
  have hcls : PySem.W.clsIn X.K C = some { name := nm, bases := bs, mro := .ref C :: bm, ns := N, qualname := q, hasDict := true, slotNames := sn, subclasses := sub, abstract := ab, collection := col, hasDel := false } := by unfold PySem.W.clsIn; rw [hC] <;> rfl
  subst hE
  refine ks_wpAt_MethodCall (pl := pl) ?_ hc
  refine ks_wpAt_super_base hks hkc (by decide) hfu (I.kIn _ _ lf) rfl hp hco (I.kIn _ _ lcd) rfl hvs hfile T.top ?_
  obtain ⟨mb, b1, b2⟩ := I.mod.blt
  refine PySem.W.ks_loadName_global I.ok.kind hks (Calls.loadGlobal_builtin (by rw [I.ok.glob]; exact I.mod.glob.keeps I.bk) T.mgS (by rw [I.ok.blt]; exact b1.keeps I.bk) ((b2 "super" (by decide)).trans PyProof.Rows.Boot.«super») ⟨rfl, ?_⟩)
  refine wpAny_loadName_free I.ok.kind hkc hcl ⟨_, I.kIn _ _ lc, rfl⟩ ?_
  obtain ⟨m, ns, sl⟩ := I.loc
  obtain ⟨u, ru, lk⟩ := sl 0 ar.arg (.ref a) hN hs0 (.inl hka)
  have hm : m ar.arg = some (.ref a) := by
    cases ru
    rcases lk with ⟨_, z⟩ | ⟨z, _⟩
    · exact z
    · rw [hka] at z
      rcases z with z | z <;> cases z
  refine wpAny_loadName_local I.ok.kind hka ns hm ?_
  refine ks_wpAny_isType_cls (I.kIn _ _ hC) rfl ⟨rfl, ?_⟩
  obtain ⟨t1, ho⟩ := exo_at I.hok hx
  have eNo : ∀ {h : Heap} {t1 : Addr}, h.get? a = some ({ cls := .ref C, dict := none, data := .fields #[.ref t1, .none, .none, .none, .bool false, .none] } : Obj) → InstAt h a { cls := .ref C, dict := none, data := .fields #[.ref t1, .none, .none, .none, .bool false, .none] } C none := fun e => ⟨e, rfl, rfl, trivial⟩
  obtain ⟨hh, g, d, tk, os⟩ := s
  refine ks_wpAny_call_super (I.kIn _ _ hC) rfl ho rfl (fun c z => nomatch z) (PySem.W.looks_mroIn I.kIn T.own) fun h1 e1 keep1 => ?_
  have I1 := I.grown tk keep1
  have ho1 := keep1 _ _ ho
  refine PySem.W.kxs_getMethod PySem.W.kxs_ValueError e1 (PySem.W.looks_opaque I1.kIn T.any) (l₀ := .ref C :: bm) ?_ rfl I1.kIn ?_ ((eNo ho1).type.andThen (PySem.W.looks_subIn I1.kIn T.isV)) (PySem.W.ks_ne I1.kIn (eNo ho1) hcls) (by decide) ?_
  · exact (PySem.W.looks_clsIn I1.kIn hcls).andThen .now
  · have z := T.sup
    unfold PySem.W.ks_superIn at z
    rw [hcls] at z
    exact z
  have lt1 := Heap.lt_size e1
  have keep2 : ∀ b o, h1.get? b = some o → (h1.push (PySem.W.kxs_mw "ValueError.__init__" a)).get? b = some o := fun b o z => Heap.get?_push_of_some _ z
  have hu : (h1.push (PySem.W.kxs_mw "ValueError.__init__" a)).get? h1.objs.size = some (PySem.W.kxs_mw "ValueError.__init__" a) := Heap.get?_push_size _ rfl
  have I2 : Inv X pins σ H ⟨h1.push (PySem.W.kxs_mw "ValueError.__init__" a), g, d, tk + 1, os⟩ := I1.grown (tk + 1) keep2
  have fr : FpOk X pins H h1.objs.size := I1.fpOk (Nat.le_refl _) (I1.hok.fresh (Nat.le_refl _))
  have I3 : Inv X (pins ++ [(h1.objs.size, PySem.W.kxs_mw "ValueError.__init__" a)]) σ H ⟨h1.push (PySem.W.kxs_mw "ValueError.__init__" a), g, d, tk + 1, os⟩ := I2.pins_of fun p hp => by
    rcases List.mem_append.mp hp with z | z
    · exact I2.pin p (List.mem_append_right _ z)
    · rw [List.mem_singleton.mp z]
      exact ⟨hu, fr.1, fr.2.1, fr.2.2.1, fun v z => nomatch z⟩
  rw [he]
  refine PySem.W.kxs_callWith (i := "ValueError.__init__") (x := a) (by show (false || (backTo pos (starEach es X.env)).any (·.1)) = false; rw [hpl]; rfl) ?_
  have run := ha.run pos (pins ++ [(h1.objs.size, PySem.W.kxs_mw "ValueError.__init__" a)]) _ σ H _ I3 h
  rw [he] at run
  refine PySem.Calls.evalArgs_plain (thn run fun us s4 ⟨ws, H4, I4, r4, hl, hx4, q4⟩ => ?_)
  have hu4 := (I4.pin (h1.objs.size, PySem.W.kxs_mw "ValueError.__init__" a) (List.mem_append_right _ (List.mem_append_right _ (List.mem_singleton.mpr rfl)))).1
  refine ⟨hu4, ?_⟩
  have I5 := I4.unpinned
  obtain ⟨t4, ho4⟩ := exo_at I5.hok hx4
  obtain ⟨hh4, g4, d4, tk4, os4⟩ := s4
  have len : us.length ≤ sizeLine := by
    rw [← Paired.length r4, sizeLine_eq]
    omega
  refine wpAny_call (codeAny_of_tree ?_)
  show wpAny _ _ (callAny (.ref h1.objs.size) ⟨us, []⟩) _ _ _
  simp only [callAny]
  refine wpAny_bind (wpAny_load hu4 ?_)
  simp only [PySem.W.kxs_mw, show (Value.type "method-wrapper" == Value.type "method" || Value.type "method-wrapper" == Value.type "builtin_function_or_method" || Value.type "method-wrapper" == Value.type "method-wrapper") = true by decide, if_true]
  refine KFB.if_so (by decide) ?_
  refine wpAny_bind (PySem.W.check_bound_init F.excBase_ValueError.toExcCallFacts (I5.kIn _ _ hC) ho4 rfl ?_)
  refine wpAny_bind (wpAny_pure (wpAny_pure ?_))
  refine ⟨plainId_quiet F.excBase_ValueError.init.plain _, codeAny_builtin F.excBase_ValueError.initEntry ?_⟩
  refine exc_init_tree (cls := .ref C) (t0 := t4) (dv := none) (c2 := .none) (c3 := .none) (b4 := .bool false) ho4 len fun h6 keep6 at6 _ => ?_
  have J := I5.write (t' := tk4) (x := a) (e := a) (o := exo a C none) (by rw [hx4]; exact True.intro) (.inl rfl) keep6 ⟨_, at6⟩ (exo_ok at6)
  have eq : upd H4 a (exo a C none) = H4 := by
    funext b
    by_cases hb : b = a
    · rw [hb, upd_same, hx4]
    · rw [upd_ne hb]
  rw [eq] at J
  exact ⟨.non, H4, J, rfl, q4⟩
end
end L2
end
section
set_option Elab.async false
set_option linter.all false
set_option maxRecDepth 100000
set_option maxHeartbeats 4000000
/-! An __init__ that begins with super().__init__(..), as a def with a contract. -/
namespace L2
open PySem PySem.Spec PyProof.Rows PySem.W
def cxSup (P : Program) (w : World) (K : PySem.W.Frag) (mg : Str → Option Value) (base : Heap) (N : List Str) (qual : Str) (scope : Scope) (f cda cc : Addr) (A : Around) (outer : List Env) (s : Shared) (H : Hp) (E : XK) : Cx where
  prog := P
  w := w
  K := K
  mg := mg
  base := base
  A := A.deeper (ksEnv qual scope s.heap.objs.size f (.ref cda) cc)
  N := N
  s_0 := s
  H_0 := H
  env := ksEnv qual scope s.heap.objs.size f (.ref cda) cc
  outer := outer
  stack := ksEnv qual scope s.heap.objs.size f (.ref cda) cc :: outer
  ex := []
  calm := true
  fn := fun _ => false
  pn := []
  xe := fun e s' => wpAny (model P w) (A.deeper (ksEnv qual scope s.heap.objs.size f (.ref cda) cc)) (leaving (ksEnv qual scope s.heap.objs.size f (.ref cda) cc) e) (fun _ s'' => L2.CX P w outer H s E e s'') (fun e' s'' => L2.CX P w outer H s E e' s'') s'
structure SupScope (ps : List Str) (sc : Scope) : Prop where
  kind : sc.kind = .function
  co : sc.isCoroutine = false
  gen : sc.isGenerator = false
  nd : ps.Nodup
  par : ∀ x ∈ ps, sc.names.lookup x = some .local
  nocell : ∀ x ∈ sc.names, x.2 ≠ .cell
  free : ∀ x, sc.names.lookup x = some .free → x = "__class__"
  sup : sc.names.lookup ("super" : Str) = some .globalImplicit
  cls : sc.names.lookup ("__class__" : Str) = some .free
theorem look_cons {α : Type} (x y : Str) (v : α) (l : List (Str × α)) : ((y, v) :: l).lookup x = if x = y then some v else l.lookup x := by
  by_cases h : x = y
  · subst h
    simp [List.lookup]
  · have e : (x == y) = false := by simpa using h
    rw [if_neg h]
    simp [List.lookup, e]
theorem fst_zip : ∀ (ps : List Str) (us : List Value), (ps.zip us).map (·.1) = ps.take us.length
  | [], us => by simp
  | p :: ps, [] => rfl
  | p :: ps, u :: us => by
    show p :: (ps.zip us).map (·.1) = p :: ps.take us.length
    rw [fst_zip ps us]
theorem lookup_of_mem {α : Type} {x : Str} {u : α} : ∀ {l : List (Str × α)}, (l.map (·.1)).Nodup → (x, u) ∈ l → l.lookup x = some u
  | [], _, h => nomatch h
  | (y, v) :: l, n, h => by
    rw [List.map_cons, List.nodup_cons] at n
    rw [look_cons]
    rcases List.mem_cons.mp h with e | e
    · cases e
      rw [if_pos rfl]
    · rw [if_neg fun z => n.1 (by rw [← z]; exact List.mem_map_of_mem (f := (·.1)) e)]
      exact lookup_of_mem n.2 e
theorem zip_lookup {ps : List Str} {us : List Value} {i : Nat} {x : Str} {u : Value} (nd : ps.Nodup) (h1 : ps[i]? = some x) (h2 : us[i]? = some u) : (ps.zip us).reverse.lookup x = some u := by
  have keys : ((ps.zip us).map (·.1)).Nodup := by
    rw [show ((ps.zip us).map (·.1)) = ps.take us.length from fst_zip ps us]
    exact nd.sublist (List.take_sublist ..)
  refine lookup_of_mem ?_ (List.mem_reverse.mpr ?_)
  · rw [List.map_reverse]
    exact (List.reverse_perm _).nodup_iff.mpr keys
  · exact List.mem_of_getElem? (i := i) (a := (x, u)) (List.getElem?_zip_eq_some.mpr ⟨h1, h2⟩)
section
variable {P : Program} {w : World} {K : PySem.W.Frag} {mg : Str → Option Value} {base : Heap}
theorem sup_start {ps : List Str} {qual : Str} {sc : Scope} {f cda cc : Addr} {A : Around} {outer : List Env} {s : Shared} {H : Hp} {E : XK} {us : List Value} {vs : List V} {h0 : Heap} {tk : Nat} (S : SupScope ps sc) (hd : A.handled = none) (e0 : Env0 P w K mg base A outer s H) (hl : vs.length = ps.length) (r : Vals vs us)
    (hcc : ∃ (cl : Value) (cld : Option Addr) (csl : Array (Option Value)) (v : Option Value), K.lookup cc = some ⟨cl, cld, .cell v, csl⟩)
    (ns : h0.Ns s.heap.objs.size (fun x => (ps.zip us).reverse.lookup x)) (keep : ∀ b o, s.heap.get? b = some o → h0.get? b = some o) :
    Inv (cxSup P w K mg base ps qual sc f cda cc A outer s H E) [] (start ps vs) H { s with heap := h0, toks := tk } := by
  obtain ⟨cl, cld, csl, cv, lc⟩ := hcc
  have X0 : K.In s.heap := e0.mod.kin.keeps fun b o e => (e0.bs b o e).1
  have isC : ∀ x c, (cxSup P w K mg base ps qual sc f cda cc A outer s H E).env.cells.lookup x = some c → x = "__class__" ∧ c = cc := fun x c h => by
    have h : List.lookup x [(("__class__" : Str), cc)] = some c := h
    rw [look_cons] at h
    by_cases e : x = "__class__"
    · rw [if_pos e] at h
      exact ⟨e, (Option.some.inj h).symm⟩
    · rw [if_neg e] at h
      cases h
  have hbase : base.get? cc = some ⟨cl, cld, .cell cv, csl⟩ := e0.mod.kin _ _ lc
  have noA : ∀ b : Addr, b ∉ (cxSup P w K mg base ps qual sc f cda cc A outer s H E).ex := fun b z => absurd (show b ∈ ([] : List Addr) from z) (by simp)
  refine ⟨⟨e0.mod, S.kind, rfl, rfl, Nat.le_refl _, fun y z c h1 h2 => ?_, fun y hy => ?_, (fun y c z => nomatch z), fun _ => hd, Around.frames_deeper e0.frames, .inr ⟨rfl, rfl⟩, fun b z => absurd z (noA b), e0.bs, e0.bsz, fun b _ _ => noA b, fun b z => absurd z (noA b), e0.funs, e0.frf⟩,
    rfl, e0.bare, Un.kept keep, ⟨_, ns, fun i y v h1 h2 h3 => ?_⟩, fun y c h => ?_, e0.hok.fresh (Nat.le_refl _), fun y c h => ?_, fun p hp => absurd (show p ∈ ([] : List (Addr × Obj)) from hp) (by simp), e0.hok.kept keep, ?_⟩
  · exact (isC y c h1).1.trans (isC z c h2).1.symm
  · have hy : sc.names.lookup y = some .cell ∨ sc.names.lookup y = some .free := hy
    rcases hy with hy | hy
    · exact absurd rfl (S.nocell _ (PySem.mem_of_lookup hy))
    · refine ⟨cc, ?_⟩
      show List.lookup y [(("__class__" : Str), cc)] = some cc
      rw [look_cons, if_pos (S.free y hy)]
  · have hi : i < vs.length := by
      have z := (List.getElem?_eq_some_iff.mp h1).1
      have z : i < ps.length := z
      omega
    have ha : vs[i]? = some v := by
      unfold start at h2
      rw [List.getElem?_append_left (by simpa using hi), List.getElem?_map] at h2
      cases e : vs[i]? with
      | none => rw [e] at h2; cases h2
      | some a => rw [e] at h2; cases h2; rfl
    obtain ⟨u, hu, rv⟩ := r.get ha
    have h1 : ps[i]? = some y := h1
    exact ⟨u, rv, .inl ⟨S.par y (List.mem_of_getElem? h1), zip_lookup S.nd h1 hu⟩⟩
  · obtain ⟨rfl, rfl⟩ := isC y c h
    exact ⟨cv, _, keep _ _ (X0 _ _ lc), rfl⟩
  · obtain ⟨rfl, rfl⟩ := isC y c h
    exact (e0.bs _ _ hbase).2
  · unfold start
    show _ = ps.length
    rw [List.length_append, List.length_map, List.length_replicate]
    omega
theorem fn_sup {pl : Env → Sem Bool} {k : Nat} {C f cda cc : Addr} {qual : Str} {st : Stmt} {kV doc pm ct : Value} {an : Option Addr} {ps : List Str} {ar : Arg} {sp : Sp} {e : Expr} {es : List Expr} {p0 p1 p2 p3 p4 : Pos} {rest : List Stmt}
    (T : SupTxt P K mg C f cda cc (ksFn "__init__" qual (defArgs st) (defBody st) (defScope st) .none kV doc pm an (.ref cda) ct cc)) (hcd : codeIn K (.ref cda) qual = true)
    (hb : defBody st = .Expr (.Call (.Attribute (.Call (.Name "super" p0) [] [] p1) "__init__" p2) (e :: es) [] p3) p4 :: rest) (S : SupScope ps (defScope st)) (hp : ((defArgs st).posonlyargs ++ (defArgs st).args).head? = some ar) (hps : ps[0]? = some ar.arg)
    (len : ∀ vs H Q E, sp vs H Q E → vs.length = ps.length)
    (hrun : ∀ (A : Around) (outer : List Env) (s : Shared) (H : Hp) (E : XK) (vs : List V) (Q : VK), sp vs H Q E → ∃ (a : Addr) (ta : TA) (t : TS), PA (cxSup P w K mg base ps qual (defScope st) f cda cc A outer s H E) (e :: es) ta ∧ PSs (cxSup P w K mg base ps qual (defScope st) f cda cc A outer s H E) rest t ∧
      vs[0]? = some (.ref a) ∧ H a = some (exo a C none) ∧ (ta (start ps vs) H fun ws H1 => ws.length ≤ 1000 ∧ H1 a = some (exo a C none) ∧ V.non = V.non ∧ H1 = H) ∧ t { nx := fun _ H' => Q .non H', rt := Q } (start ps vs) H)
    (hev : ∀ env, eval (.Call (.Attribute (.Call (.Name "super" p0) [] [] p1) "__init__" p2) (e :: es) [] p3) env = (do
      let ov ← attributeBase (.Call (.Name "super" p0) [] [] p1) "__init__" env (eval (.Call (.Name "super" p0) [] [] p1) env)
      standAt p2.atName
      let (f, first) ← holding [ov] (getMethod ov "__init__" (pl env))
      callWith p3 f first (backTo p3 (starEach (e :: es) env)) []) := by intro _; rfl)
    (he : ∀ env, starEach (e :: es) env = (false, eval e env) :: starEach es env := by intro _; rfl) (hpl : ∀ env, (backTo p3 (starEach es env)).any (·.1) = false := by intro _; rfl)
    (hsw : ∀ env, swapsWith (.Call (.Attribute (.Call (.Name "super" p0) [] [] p1) "__init__" p2) (e :: es) [] p3) none p4.line env = pure false := by intro _; rfl) :
    FnOk P w K mg base (L2.CX P w) (k + 1) f (ksFn "__init__" qual (defArgs st) (defBody st) (defScope st) .none kV doc pm an (.ref cda) ct cc) ps sp := by
  refine ⟨len, fun A outer s H args us vs Q E hr e0 hbind r hsp => ?_⟩
  have hl := len _ _ _ _ hsp
  have X0 : K.In s.heap := e0.mod.kin.keeps fun b o e => (e0.bs b o e).1
  have lim : s.heap.NoLimit := e0.mod.nolimit.keeps fun b o e => (e0.bs b o e).1
  obtain ⟨oc, od, osl, lf⟩ := T.fn
  obtain ⟨cl, cld, csl, lc⟩ := T.cell
  refine ks_codeAny_call_defAt (body := defBody st) (binds := ps.zip us) hr.depth (X0 _ _ lf) rfl lim (PySem.W.codeRec_of X0 hcd) rfl hbind S.nocell (fun y hy => S.par _ (List.of_mem_zip (show (y.1, y.2) ∈ ps.zip us from hy)).1) (fun h0 ns keep => ?_) S.co S.gen S.kind
  have I : Inv (cxSup P w K mg base ps qual (defScope st) f cda cc A outer s H E) [] (start ps vs) H { s with heap := h0, toks := s.toks + (ps.zip us).length } := sup_start S hr.hd e0 hl r ⟨cl, cld, csl, _, lc⟩ ns keep
  obtain ⟨a, ta, t, hA, hS, h0a, hxa, hta, ht⟩ := hrun A outer s H E vs Q hsp
  have s0 : (start ps vs)[0]? = some (some (.ref a)) := by
    have z := (List.getElem?_eq_some_iff.mp h0a).1
    unfold start
    rw [List.getElem?_append_left (by simpa using z), List.getElem?_map, h0a]
    rfl
  have par0 : (defScope st).names.lookup ar.arg = some .local := S.par _ (List.mem_of_getElem? hps)
  show _root_.PySem.wpAt (model P w) (A.deeper (ksEnv qual (defScope st) s.heap.objs.size f (.ref cda) cc)) (.func (defBody st) (ksEnv qual (defScope st) s.heap.objs.size f (.ref cda) cc)) (execs (defBody st) (ksEnv qual (defScope st) s.heap.objs.size f (.ref cda) cc)) _ _ _
  generalize hbd : defBody st = bd at T ⊢
  rw [show execs bd (ksEnv qual (defScope st) s.heap.objs.size f (.ref cda) cc) = execs (defBody st) (ksEnv qual (defScope st) s.heap.objs.size f (.ref cda) cc) by rw [hbd], hb]
  have quiet : interactive (ksEnv qual (defScope st) s.heap.objs.size f (.ref cda) cc) = false := by
    unfold interactive
    simp [S.kind, Env.blockKind]
  refine ks_wpAt_execs_cons (ks_wpAt_Expr_any ?_ quiet (hsw _))
  have main := super_call (X := cxSup P w K mg base ps qual (defScope st) f cda cc A outer s H E) (body := bd) (Q := fun v H1 => v = .non ∧ H1 = H) T S.sup S.cls par0 (by
      show List.lookup ("__class__" : Str) [(("__class__" : Str), cc)] = some cc
      rw [look_cons, if_pos rfl]) rfl rfl hp hps s0 hA rfl I hxa hta (hev _) (he _) (hpl _)
  refine ks_wpAt_mono main (fun u s1 ⟨v, H1, I1, _, _, eH⟩ => ?_) fun _ _ z => z
  rw [eH] at I1
  refine wpAt_of_wpAny (wpAny_mono (hS.run [] s1 (start ps vs) H _ I1 ht) (fun fl s' hs => ?_) fun _ _ z => z)
  have fin : ∀ {σ' : St} {H' : Hp} {v : V} {u : Value}, Inv (cxSup P w K mg base ps qual (defScope st) f cda cc A outer s H E) [] σ' H' s' → RelV v u → Q v H' → CE outer P w H s Q u s' :=
    fun {σ' H' v u} J rv q => ⟨v, H', J.os, J.bare, J.base, J.hok, rv, q⟩
  cases fl with
  | ret u =>
    obtain ⟨v, σ', H', J, rv, q⟩ := hs
    exact fin J rv q
  | next =>
    obtain ⟨σ', H', J, q⟩ := hs
    exact fin (v := V.non) (u := Value.none) J rfl q
  | brk =>
    obtain ⟨_, _, _, q⟩ := hs
    exact False.elim q
  | cont =>
    obtain ⟨_, _, _, q⟩ := hs
    exact False.elim q
end
end L2
end
section
set_option Elab.async false
set_option linter.all false
set_option maxRecDepth 100000
set_option maxHeartbeats 4000000
/-! try with several clauses, each with a name for the exception or without. -/
namespace L2
open PySem PySem.Spec PyProof.Rows
/-- a clause: its class, the slot of its name if it has one, its suite -/
structure Cls1 where
  c : Value
  at_ : Option Nat
  ts : Addr → Value → Option Addr → TS
/-- behind the suite the name is gone -/
def dropEnds (i : Nat) (D : Ends) : Ends := { nx := fun σ H => D.nx (σ.set i none) H, rt := D.rt, bk := fun σ H => D.bk (σ.set i none) H, ct := fun σ H => D.ct (σ.set i none) H }
def Cls1.go (k : Cls1) (a : Addr) (cls : Value) (d : Option Addr) (D : Ends) (σ : St) (H : Hp) : Prop := match k.at_ with
  | none => k.ts a cls d D σ H
  | some i => k.ts a cls d (dropEnds i D) (σ.set i (some (.ref a))) H
def wTries (K : PySem.W.Frag) (Out : WX) (D : Ends) : List Cls1 → WX
  | [] => Out
  | k :: r => fun cls d σ H => ∃ b, PySem.W.exmOne K cls k.c = some b ∧ (b = true → ∀ a, H a = none → k.go a cls d D σ H) ∧ (b = false → wTries K Out D r cls d σ H)
inductive Clauses (X : Cx) : List ExceptHandler → List Cls1 → Prop
  | nil : Clauses X [] []
  | bare {x : Str} {c : Value} {ts : Addr → Value → Option Addr → TS} {b0 : Stmt} {suite : List Stmt} {np hp : Pos} {hds : List ExceptHandler} {l : List Cls1} (nm : Names X x c)
      (su : ∀ a oe cls d pn, Zc cls d oe → (∃ vs, oe.data = .fields vs) → PSs (X.suite a ((a, oe) :: pn)) (b0 :: suite) (ts a cls d)) (r : Clauses X hds l) : Clauses X (.ExceptHandler (some (.Name x np)) none (b0 :: suite) hp :: hds) (⟨c, none, ts⟩ :: l)
  | named {x n : Str} {i : Nat} {c : Value} {ts : Addr → Value → Option Addr → TS} {b0 : Stmt} {suite : List Stmt} {np hp : Pos} {hds : List ExceptHandler} {l : List Cls1} (nm : Names X x c) (hi : X.N[i]? = some n) (hl : X.env.kindOf n = some .local)
      (su : ∀ a oe cls d pn, Zc cls d oe → (∃ vs, oe.data = .fields vs) → PSs (X.suite a ((a, oe) :: pn)) (b0 :: suite) (ts a cls d)) (r : Clauses X hds l) : Clauses X (.ExceptHandler (some (.Name x np)) (some n) (b0 :: suite) hp :: hds) (⟨c, some i, ts⟩ :: l)
section
variable {X : Cx} {body : List Stmt} {h0 : ExceptHandler} {hds : List ExceptHandler} {l : List Cls1} {pos : Pos} {tb : WX → TS} {Out : WX}
theorem ps_tries (stk : X.stack = X.env :: X.outer) (fr : X.env.frame = some X.env.locals) (uniq : X.N.Nodup) (tk : Takes X Out) (hb : ∀ (W : WX) (pn : List (Addr × Obj)) (xe : Value → Shared → Prop), Takes (X.tr pn xe) W → PassesOwn (model X.prog X.w) X.A X.env xe → PSs (X.tr pn xe) body (tb W))
    (cl : Clauses X (h0 :: hds) l) : PS X (.Try body (h0 :: hds) [] [] pos) (fun D σ H => tb (wTries X.K Out D l) D σ H) := by
  refine ⟨fun pins s σ H D I h => ?_⟩
  have ok := I.ok
  have frames : X.A.frames = some (X.env :: X.outer) := by rw [ok.frames, stk]
  refine wpAny_Try_except (wpAny_mono ((hb (wTries X.K Out D l) (X.pn ++ pins) _ (fun u s1 air => ?_) PassesOwn.looking).run [] s σ H D (I.toTry _) h) (fun fl s1 q => ?_) fun _ _ z => z)
  · obtain ⟨a, B, sI, pins1, σ1, H1, cls, d, rfl, J1, notB, up1, sky1, na, os1, ag1, wish⟩ := air
    have J : Inv X pins σ1 H1 sI := J1.ofTry ok
    have sky2 : Sky B (X.env :: X.outer) a (Zc cls d) X.env.locals s1.heap := stk ▸ sky1
    show wpAny (model X.prog X.w) X.A (noteFrame (.ref a) X.env) _ _ s1
    refine Sky.land Zc.steady frames fr sky2 fun h3 fly3 up3 => ?_
    have J3 : Inv X pins σ1 H1 { s1 with heap := h3 } := J.landed notB fly3.1 (up1.trans up3) os1 ag1
    obtain ⟨oe3, vs3, get3, zc3, dat3⟩ := fly3.there
    have apart : a ∉ frs (X.env :: X.outer) := fun hm => by
      obtain ⟨_, o2, get2, other⟩ := fly3.2.2.1.mem hm
      rw [get3] at get2
      cases get2
      exact other _ dat3
    have notL : a ≠ X.env.locals := fun z => apart (List.mem_filterMap.mpr ⟨X.env, List.mem_cons_self, by rw [fr, z]⟩)
    have notF : a ∉ X.fs := fun hm => by
      obtain ⟨e, he, q⟩ := List.mem_filterMap.mp hm
      exact apart (List.mem_filterMap.mpr ⟨e, List.mem_cons_of_mem _ he, q⟩)
    have S3 := J3.suite get3 dat3 na notL notF
    have suiteEnd : ∀ {i : Nat} {n : Str} {p : Pos} {oe4 : Obj} {s6 : Shared} {σ6 : St} {H6 : Hp} {Q : Shared → Prop}, X.N[i]? = some n → X.env.kindOf n = some .local → Inv (X.suite a ((a, oe4) :: (X.pn ++ pins))) [] σ6 H6 s6 → (∀ s7, Inv X pins (σ6.set i none) H6 s7 → Q s7) →
        wpAny (model X.prog X.w) X.A (do bindName X.env n .none; unbindBehindTheSuite X.env n p) (fun _ s7 => Q s7) X.xe s6 := fun hi hl S6 q => gone_ok (S6.unsuite ok) uniq hi hl q
    have walk : ∀ {hs' : List ExceptHandler} {l' : List Cls1}, Clauses X hs' l' → wTries X.K Out D l' cls d σ1 H1 → wpAny (model X.prog X.w) X.A (handleBy (.ref a) X.env hs') (SP X pins D) X.xe { s1 with heap := h3 } := by
      intro hs' l' cls'
      have tests : ∀ {x : Str} {c : Value} {np : Pos} {Q : Value → Shared → Prop} {E : Value → Shared → Prop}, Names X x c → Q c { s1 with heap := h3 } → wpAny (model X.prog X.w) (X.A.mark (some (.ref a))) (eval (.Name x np) X.env) Q E { s1 with heap := h3 } := fun nm q => by
        obtain ⟨gl, nd, md | ⟨md, bv, nn⟩⟩ := nm
        · exact ld_glob (X := X.suite a ((a, oe3) :: (X.pn ++ pins))) S3 gl md q nd
        · exact ld_blt (X := X.suite a ((a, oe3) :: (X.pn ++ pins))) S3 gl md bv q nn nd
      have looks : PySem.W.Looks (model X.prog X.w) h3 (typeOf (.ref a)) cls := fun _ _ _ _ k q => wpAny_typeOf_ref (k _ _ get3) (by rw [zc3.1]; exact q)
      induction cls' with
      | nil =>
        intro wish
        refine wpAny_handleBy_nil ?_
        obtain ⟨_, _, _, oe, vs, T, _, _, get5, _, dat5, one5, _⟩ := id fly3
        unfold PySem.passOn
        refine wpAny_bind (wpAny_field get5 dat5 one5 ?_)
        rw [if_neg (show ¬ ((Value.ref T == Value.none) = true) by simp)]
        have onward : wpAny (model X.prog X.w) X.A (setFlight (.ref a) X.env.frame) (fun _ s4 => wpAny (model X.prog X.w) X.A (throw (.ref a) : Sem Flow) (SP X pins D) X.xe s4) X.xe { s1 with heap := h3 } := by
          rw [fr]
          refine HandSPX.setFlight_upZ fly3 fun h4 held4 up4 => wpAny_throw (tk _ _ ⟨a, B, sI, pins, σ1, H1, cls, d, rfl, J, notB, (up1.trans up3).trans up4, .inr (.inr ?_), na, os1, ag1, wish⟩)
          rw [stk]
          exact held4
        first
          | exact wpAny_bind onward
          | exact wpAny_bind (wpAny_pure (wpAny_bind onward))
      | bare nm su r again =>
        intro wish
        obtain ⟨b, one, yes, no⟩ := wish
        refine wpAny_handleBy_cons (codeAny_handlers_test (tests nm ((PySem.W.exm_one (M := model X.prog X.w) J3.kIn looks one).here ?_))) (by intro q; cases q)
        cases b with
        | false => exact again (no rfl)
        | true =>
          refine codeAny_handlers_suite (HandSPX.lands_againZ fly3 fun h4 fly4 up4 => ?_)
          have J4 : Inv X pins σ1 H1 { s1 with heap := h4 } := J.landed notB fly4.1 ((up1.trans up3).trans up4) os1 ag1
          obtain ⟨oe4, vs4, get4, zc4, dat4⟩ := fly4.there
          refine wpAny_mono ((su a oe4 cls d (X.pn ++ pins) zc4 ⟨_, dat4⟩).run [] _ _ H1 _ (J4.suite get4 dat4 na notL notF) (yes rfl a na)) (fun fl s6 q => ?_) fun _ _ z => False.elim z
          cases fl with
          | next => obtain ⟨σ6, H6, S6, q6⟩ := q; exact ⟨σ6, H6, S6.unsuite ok, q6⟩
          | brk => obtain ⟨σ6, H6, S6, q6⟩ := q; exact ⟨σ6, H6, S6.unsuite ok, q6⟩
          | cont => obtain ⟨σ6, H6, S6, q6⟩ := q; exact ⟨σ6, H6, S6.unsuite ok, q6⟩
          | ret u => obtain ⟨v6, σ6, H6, S6, r6, q6⟩ := q; exact ⟨v6, σ6, H6, S6.unsuite ok, r6, q6⟩
      | named nm hi hl su r again =>
        intro wish
        obtain ⟨b, one, yes, no⟩ := wish
        refine wpAny_handleBy_cons (codeAny_handlers_test (tests nm ((PySem.W.exm_one (M := model X.prog X.w) J3.kIn looks one).here ?_))) (by intro q; cases q)
        cases b with
        | false => exact again (no rfl)
        | true =>
          refine codeAny_handlers_suite_as (HandSPX.lands_againZ fly3 fun h4 fly4 up4 => ?_)
          have J4 : Inv X pins σ1 H1 { s1 with heap := h4 } := J.landed notB fly4.1 ((up1.trans up3).trans up4) os1 ag1
          obtain ⟨oe4, vs4, get4, zc4, dat4⟩ := fly4.there
          refine store_ok (X := X.suite a ((a, oe4) :: (X.pn ++ pins))) (v := .ref a) (J4.suite get4 dat4 na notL notF) uniq hi (.inl hl) rfl (fun s5 S5 => ?_) (.inr hl)
          refine wpAny_mono ((su a oe4 cls d (X.pn ++ pins) zc4 ⟨_, dat4⟩).run [] s5 _ H1 _ S5 (yes rfl a na)) (fun fl s6 q => ?_) fun _ _ z => False.elim z
          cases fl with
          | next => obtain ⟨σ6, H6, S6, q6⟩ := q; exact suiteEnd hi hl S6 fun s7 J7 => ⟨_, _, J7, q6⟩
          | brk => obtain ⟨σ6, H6, S6, q6⟩ := q; exact suiteEnd hi hl S6 fun s7 J7 => ⟨_, _, J7, q6⟩
          | cont => obtain ⟨σ6, H6, S6, q6⟩ := q; exact suiteEnd hi hl S6 fun s7 J7 => ⟨_, _, J7, q6⟩
          | ret u => obtain ⟨v6, σ6, H6, S6, r6, q6⟩ := q; exact suiteEnd hi hl S6 fun s7 J7 => ⟨_, _, _, J7, r6, q6⟩
    exact walk cl wish
  · cases fl with
    | next => obtain ⟨σ2, H2, J2, q2⟩ := q; exact wpAny_execs_nil ⟨σ2, H2, J2.ofTry ok, q2⟩
    | brk => obtain ⟨σ2, H2, J2, q2⟩ := q; exact ⟨σ2, H2, J2.ofTry ok, q2⟩
    | cont => obtain ⟨σ2, H2, J2, q2⟩ := q; exact ⟨σ2, H2, J2.ofTry ok, q2⟩
    | ret u => obtain ⟨v, σ2, H2, J2, r2, q2⟩ := q; exact ⟨v, σ2, H2, J2.ofTry ok, r2, q2⟩
end
end L2
end
section
set_option Elab.async false
set_option linter.all false
set_option maxRecDepth 100000
set_option maxHeartbeats 2000000
namespace D2
open PySem PySem.Spec L2

/-! ### own exceptions over ValueError -/
/-- what __init__ of such a class leaves: the fields names, in the order of the parameters -/
def spX (C : Addr) (names : List Str) : Sp := fun vs H Q _ => ∃ (a : Addr) (ws : List V), vs = .ref a :: ws ∧ ws.length = names.length ∧ H a = some (exo a C none) ∧ ∀ (dx : Addr) (H' : Hp), H dx = none → dx ≠ a → H' a = some (exo a C (some dx)) → H' dx = some (exd dx (names.zip ws).reverse) →
  (∀ b, b ≠ a → b ≠ dx → H' b = H b) → Q .non H'
section
variable {P : Program} {w : World} {K : PySem.W.Frag} {mg : Str → Option Value} {base : Heap}
/-- def __init__(self, y): super().__init__(y); self.f = y -/
theorem init1 {k : Nat} {C f cda cc : Addr} {qual : Str} {st : Stmt} {kV doc pm ct : Value} {an : Option Addr} {y fld : Str} {ar : Arg} {p0 p1 p2 p3 p4 q1 q2 q3 q4 q5 : Pos}
    (T : SupTxt P K mg C f cda cc (PySem.W.ksFn "__init__" qual (defArgs st) (defBody st) (defScope st) .none kV doc pm an (.ref cda) ct cc)) (hcd : PySem.W.codeIn K (.ref cda) qual = true)
    (hb : defBody st = [.Expr (.Call (.Attribute (.Call (.Name "super" p0) [] [] p1) "__init__" p2) [.Name y q1] [] p3) p4, .Assign [.Attribute (.Name "self" q2) fld q3] (.Name y q4) q5])
    (S : SupScope ["self", y] (defScope st)) (hp : ((defArgs st).posonlyargs ++ (defArgs st).args).head? = some ar) (har : ar.arg = "self") (hno : PySem.W.findIn K (.ref C) fld = some none) (hy1 : (y == ("__debug__" : Str)) = false) (hy2 : (y == ("__classdict__" : Str)) = false) {pl : Env → Sem Bool}
    (hev : ∀ env, eval (.Call (.Attribute (.Call (.Name "super" p0) [] [] p1) "__init__" p2) [.Name y q1] [] p3) env = (do
      let ov ← attributeBase (.Call (.Name "super" p0) [] [] p1) "__init__" env (eval (.Call (.Name "super" p0) [] [] p1) env)
      standAt p2.atName
      let (f, first) ← holding [ov] (getMethod ov "__init__" (pl env))
      callWith p3 f first (backTo p3 (starEach [.Name y q1] env)) []) := by intro _; rfl) :
    FnOk P w K mg base (L2.CX P w) (k + 1) f (PySem.W.ksFn "__init__" qual (defArgs st) (defBody st) (defScope st) .none kV doc pm an (.ref cda) ct cc) ["self", y] (spX C [fld]) := by
  have par : ∀ x : Str, x = "self" ∨ x = y → (defScope st).names.lookup x = some .local := fun x hx => S.par x (by rcases hx with h | h <;> simp [h])
  refine fn_sup T hcd hb S hp (by rw [har]; rfl) (fun vs H Q E ⟨a, ws, e, hl, _⟩ => by rw [e]; simpa using hl) (fun A outer s H E vs Q ⟨a, ws, ev, hl, hx, q⟩ => ?_) hev
  obtain ⟨v, rfl⟩ : ∃ v, ws = [v] := by
    match ws, hl with
    | [v], _ => exact ⟨v, rfl⟩
  subst ev
  have vy : ∀ {pos : Pos}, PE (cxSup P w K mg base ["self", y] qual (defScope st) f cda cc A outer s H E) (.Name y pos) (tVar 1) := fun {pos} => pe_var rfl (.inl (par y (.inr rfl))) hy1 hy2
  have vs_ : ∀ {pos : Pos}, PE (cxSup P w K mg base ["self", y] qual (defScope st) f cda cc A outer s H E) (.Name "self" pos) (tVar 0) := fun {pos} => pe_var rfl (.inl (par "self" (.inl rfl))) (by decide) (by decide)
  refine ⟨a, _, _, pa_cons vy pa_nil, pss_cons (ps_ost vs_ vy) pss_nil, rfl, hx, ⟨v, rfl, by simp, hx, rfl, rfl⟩, ?_⟩
  refine ⟨v, rfl, .ref a, rfl, a, C, rfl, T.ox, hno, .inl ⟨hx, fun dx n ne => ?_⟩⟩
  exact q dx _ n ne upd_same (by rw [upd_ne ne, upd_same]; rfl) fun b h1 h2 => by rw [upd_ne h1, upd_ne h2]
/-- def __init__(self, y, z): super().__init__(y, z); self.f = y; self.g = z -/
theorem init2 {k : Nat} {C f cda cc : Addr} {qual : Str} {st : Stmt} {kV doc pm ct : Value} {an : Option Addr} {y z fld gld : Str} {ar : Arg} {p0 p1 p2 p3 p4 q0 q1 q2 q3 q4 q5 q6 q7 q8 q9 : Pos}
    (T : SupTxt P K mg C f cda cc (PySem.W.ksFn "__init__" qual (defArgs st) (defBody st) (defScope st) .none kV doc pm an (.ref cda) ct cc)) (hcd : PySem.W.codeIn K (.ref cda) qual = true)
    (hb : defBody st = [.Expr (.Call (.Attribute (.Call (.Name "super" p0) [] [] p1) "__init__" p2) [.Name y q0, .Name z q1] [] p3) p4, .Assign [.Attribute (.Name "self" q2) fld q3] (.Name y q4) q5, .Assign [.Attribute (.Name "self" q6) gld q7] (.Name z q8) q9])
    (S : SupScope ["self", y, z] (defScope st)) (hp : ((defArgs st).posonlyargs ++ (defArgs st).args).head? = some ar) (har : ar.arg = "self") (hno : PySem.W.findIn K (.ref C) fld = some none) (hno2 : PySem.W.findIn K (.ref C) gld = some none)
    (hy1 : (y == ("__debug__" : Str)) = false) (hy2 : (y == ("__classdict__" : Str)) = false) (hz1 : (z == ("__debug__" : Str)) = false) (hz2 : (z == ("__classdict__" : Str)) = false) {pl : Env → Sem Bool}
    (hev : ∀ env, eval (.Call (.Attribute (.Call (.Name "super" p0) [] [] p1) "__init__" p2) [.Name y q0, .Name z q1] [] p3) env = (do
      let ov ← attributeBase (.Call (.Name "super" p0) [] [] p1) "__init__" env (eval (.Call (.Name "super" p0) [] [] p1) env)
      standAt p2.atName
      let (f, first) ← holding [ov] (getMethod ov "__init__" (pl env))
      callWith p3 f first (backTo p3 (starEach [.Name y q0, .Name z q1] env)) []) := by intro _; rfl) :
    FnOk P w K mg base (L2.CX P w) (k + 1) f (PySem.W.ksFn "__init__" qual (defArgs st) (defBody st) (defScope st) .none kV doc pm an (.ref cda) ct cc) ["self", y, z] (spX C [fld, gld]) := by
  have par : ∀ x : Str, x = "self" ∨ x = y ∨ x = z → (defScope st).names.lookup x = some .local := fun x hx => S.par x (by rcases hx with h | h | h <;> simp [h])
  refine fn_sup T hcd hb S hp (by rw [har]; rfl) (fun vs H Q E ⟨a, ws, e, hl, _⟩ => by rw [e]; simpa using hl) (fun A outer s H E vs Q ⟨a, ws, ev, hl, hx, q⟩ => ?_) hev
  obtain ⟨v, u, rfl⟩ : ∃ v u, ws = [v, u] := by
    match ws, hl with
    | [v, u], _ => exact ⟨v, u, rfl⟩
  subst ev
  have vy : ∀ {pos : Pos}, PE (cxSup P w K mg base ["self", y, z] qual (defScope st) f cda cc A outer s H E) (.Name y pos) (tVar 1) := fun {pos} => pe_var rfl (.inl (par y (.inr (.inl rfl)))) hy1 hy2
  have vz : ∀ {pos : Pos}, PE (cxSup P w K mg base ["self", y, z] qual (defScope st) f cda cc A outer s H E) (.Name z pos) (tVar 2) := fun {pos} => pe_var rfl (.inl (par z (.inr (.inr rfl)))) hz1 hz2
  have vs_ : ∀ {pos : Pos}, PE (cxSup P w K mg base ["self", y, z] qual (defScope st) f cda cc A outer s H E) (.Name "self" pos) (tVar 0) := fun {pos} => pe_var rfl (.inl (par "self" (.inl rfl))) (by decide) (by decide)
  refine ⟨a, _, _, pa_cons vy (pa_cons vz pa_nil), pss_cons (ps_ost vs_ vy) (pss_cons (ps_ost vs_ vz) pss_nil), rfl, hx, ⟨v, rfl, u, rfl, by simp, hx, rfl, rfl⟩, ?_⟩
  refine ⟨v, rfl, .ref a, rfl, a, C, rfl, T.ox, hno, .inl ⟨hx, fun dx n ne => ?_⟩⟩
  refine ⟨u, rfl, .ref a, rfl, a, C, rfl, T.ox, hno2, .inr ⟨dx, [(fld, v)], upd_same, by rw [upd_ne ne, upd_same], by simp, ?_⟩⟩
  exact q dx _ n ne (by rw [upd_ne (Ne.symm ne), upd_same]) (by rw [upd_same]; rfl) fun b h1 h2 => by rw [upd_ne h2, upd_ne h1, upd_ne h2]
end
/-- the class and its __init__, as what raises it needs them -/
structure ExcD (P : Program) (w : World) (K : PySem.W.Frag) (mg : Str → Option Value) (base : Heap) (x : Str) (C : Addr) (names : List Str) : Prop where
  ox : OexC K C
  init : ∃ (f : Addr) (fd : FuncData) (ps : List Str), PySem.W.findIn K (.ref C) "__init__" = some (some (.ref f)) ∧ PySem.W.typeIn K (.ref f) = some (.type "function") ∧ (∀ k, FnOk P w K mg base (L2.CX P w) (k + 1) f fd ps (spX C names)) ∧ Binds K fd ps []
  gl : mg x = some (.ref C)
theorem zipF {K : PySem.W.Frag} {F : Hp} : ∀ {names : List Str} {vs : List V} {ds : List D}, IsL K F vs ds → IsF K F (names.zip vs) (names.zip ds)
  | [], _, _, _ => by simpa using IsF.nil
  | n :: ns, _, _, .nil => by simpa using IsF.nil
  | n :: ns, _, _, .cons a b => .cons a (zipF b)
theorem appF {K : PySem.W.Frag} {F : Hp} : ∀ {a c : List (Str × V)} {b d : List (Str × D)}, IsF K F a b → IsF K F c d → IsF K F (a ++ c) (b ++ d)
  | _, _, _, _, .nil, h => h
  | _, _, _, _, .cons r t, h => .cons r (appF t h)
theorem revF {K : PySem.W.Frag} {F : Hp} : ∀ {a : List (Str × V)} {b : List (Str × D)}, IsF K F a b → IsF K F a.reverse b.reverse
  | _, _, .nil => by simpa using IsF.nil
  | _, _, .cons r t => by
    rw [List.reverse_cons, List.reverse_cons]
    exact appF (revF t) (.cons r .nil)
section
variable {X : Cx} {e a b c o : Expr} {es : List Expr} {st : Stmt} {sts rest : List Stmt} {ρ : Rho} {L : Led} {P : PK1} {R : RK1} {E : DE} {pos : Pos}
/-- raise C(e, ..) -/
theorem pds_raise {x : Str} {C : Addr} {names : List Str} {k : Nat} {p cpos : Pos} (hc : X.calm = true) (T : ExcD X.prog X.w X.K X.mg X.base x C names) (hr : Room (k + 2) X.A) (h : PDA X (e :: es) ρ L (fun ds L1 => ds.length = names.length ∧ names.length ≤ 100 ∧ E.ex ρ C (names.zip ds).reverse L1) (E.ex ρ)) (hg : Gl X x := by rfl)
    (hdb : (x == ("__debug__" : Str)) = false := by decide) (he : starEach (e :: es) X.env = (false, eval e X.env) :: starEach es X.env := by rfl) (hpl : (backTo cpos (starEach es X.env)).any (·.1) = false := by rfl) : PDS X (.Raise (some (.Call (.Name x p) (e :: es) [] cpos)) none pos) E ρ L := .mk fun σ H F W A pins s I => by
  obtain ⟨f, fd, ps, i1, i2, i3, i4⟩ := T.init
  have mk := pmk_oex (p := p) (pos := cpos) (dvs := []) (ds := []) T.ox i1 i2 (i3 k) hr i4 .nil passL hg T.gl (pa_w (es := e :: es)) hdb he hpl
  refine (ps_raise (pos := pos) hc A.tk mk).run pins s σ H _ I ?_
  refine h.step A.at fun vs H1 F1 ds L1 s1 A1 iv ⟨hl, hn, q⟩ => ?_
  have vl : vs.length = names.length := by rw [iv.length]; exact hl
  refine ⟨by omega, fun x hx => ⟨x, vs, by rw [List.append_nil], vl, upd_same, fun dx H' n1 ne a1 a2 rest => ?_⟩⟩
  have hdx : H1 dx = none := by rw [upd_ne ne] at n1; exact n1
  refine ⟨rfl, dx, _, a1, a2, hdx, ?_⟩
  have eH : upd (del H' x) dx (.xd (names.zip vs).reverse) = upd H1 dx (.xd (names.zip vs).reverse) := by
    funext b
    by_cases h1 : b = dx
    · rw [h1, upd_same, upd_same]
    · rw [upd_ne h1, upd_ne h1]
      by_cases h2 : b = x
      · rw [h2, del_same, hx]
      · rw [del_ne h2, rest b h2 h1, upd_ne h2]
  rw [eH]
  obtain ⟨s2, o2⟩ := A1.own.froze (o := .xd (names.zip vs).reverse) hdx
  exact A.ex _ _ σ _ ⟨_, ρ, C, _, L1, dx, _, s1.trans s2, o2, A1.env.mono s2, rfl, rfl, upd_same, revF (zipF (iv.mono s2)), q⟩

/-! ### try -/
structure ClD where
  c : Value
  at_ : Option Nat
  suite : List Stmt
def ClD.ends (k : ClD) (E : DE) : DE := match k.at_ with
  | none => { E with ex := fun _ => noR }
  | some i => { nx := fun ρ L => E.nx (ρ.set i none) L, rt := E.rt, bk := fun ρ L => E.bk (ρ.set i none) L, ct := fun ρ L => E.ct (ρ.set i none) L, ex := fun _ => noR }
def ClD.rho (k : ClD) (a dd C : Addr) (fs : List (Str × D)) (ρ : Rho) : Rho := match k.at_ with
  | none => ρ
  | some i => ρ.set i (some (.exc a dd C fs))
/-- what the clauses make of an exception of the body -/
def exTries (X : Cx) (E : DE) : List ClD → Rho → RK1
  | [] => E.ex
  | k :: r => fun ρ C fs L => ∃ b, PySem.W.exmOne X.K (.ref C) k.c = some b ∧ if b = true then ∀ (a dd : Addr) (oe : Obj) (pn : List (Addr × Obj)), Zc (.ref C) (some dd) oe → (∃ vs, oe.data = .fields vs) → PDB (X.suite a ((a, oe) :: pn)) k.suite (k.ends E) (k.rho a dd C fs ρ) L else exTries X E r ρ C fs L
/-- the weakest reading of a suite -/
def wSu (X : Cx) (suite : List Stmt) : Addr → Value → Option Addr → TS := fun a cls d D σ H => ∀ oe pn, Zc cls d oe → (∃ vs, oe.data = .fields vs) → wSs (X.suite a ((a, oe) :: pn)) suite D σ H
inductive ClsD (X : Cx) : List ExceptHandler → List ClD → Prop
  | nil : ClsD X [] []
  | bare {x : Str} {c : Value} {b0 : Stmt} {suite : List Stmt} {np hp : Pos} {hds : List ExceptHandler} {l : List ClD} (nm : Names X x c) (r : ClsD X hds l) : ClsD X (.ExceptHandler (some (.Name x np)) none (b0 :: suite) hp :: hds) (⟨c, none, b0 :: suite⟩ :: l)
  | named {x n : Str} {i : Nat} {c : Value} {b0 : Stmt} {suite : List Stmt} {np hp : Pos} {hds : List ExceptHandler} {l : List ClD} (nm : Names X x c) (hi : X.N[i]? = some n) (hl : X.env.kindOf n = some .local) (r : ClsD X hds l) :
      ClsD X (.ExceptHandler (some (.Name x np)) (some n) (b0 :: suite) hp :: hds) (⟨c, some i, b0 :: suite⟩ :: l)
theorem ClsD.cl {hds : List ExceptHandler} {l : List ClD} (h : ClsD X hds l) : Clauses X hds (l.map fun k => ⟨k.c, k.at_, wSu X k.suite⟩) := by
  induction h with
  | nil => exact .nil
  | bare nm r ih => exact .bare nm (fun a oe cls d pn hz hf => ⟨fun pins s σ H D I h => h oe pn hz hf pins s I⟩) ih
  | named nm hi hl r ih => exact .named nm hi hl (fun a oe cls d pn hz hf => ⟨fun pins s σ H D I h => h oe pn hz hf pins s I⟩) ih
theorem tries_wish {W : WX} {F0 : Hp} (hW : ∀ cls dd σ' H', upXS X.K F0 E.ex cls dd σ' H' → W cls dd σ' H') : ∀ (l : List ClD) (cls : Value) (dd : Option Addr) (σ' : St) (H' : Hp), upXS X.K F0 (exTries X E l) cls dd σ' H' → wTries X.K W (E.up X.K F0) (l.map fun k => ⟨k.c, k.at_, wSu X k.suite⟩) cls dd σ' H'
  | [], cls, dd, σ', H', h => hW cls dd σ' H' h
  | k :: r, cls, dd, σ', H', ⟨F, ρ, C, fs, L, d, gs, s, o, ev, e1, e2, h1, h2, b, hb, q⟩ => by
    subst e1 e2
    refine ⟨b, hb, fun eb a na => ?_, fun eb => ?_⟩
    · subst eb
      have q : ∀ (a dd : Addr) (oe : Obj) (pn : List (Addr × Obj)), Zc (.ref C) (some dd) oe → (∃ vs, oe.data = .fields vs) → PDB (X.suite a ((a, oe) :: pn)) k.suite (k.ends E) (k.rho a dd C fs ρ) L := q
      obtain ⟨c, at_, suite⟩ := k
      cases at_ with
      | none =>
        intro oe pn hz hf
        have A2 : AtS (X.suite a ((a, oe) :: pn)) ρ L (ClD.ends ⟨c, none, suite⟩ E) σ' H' F (fun _ _ _ _ => False) := ⟨ev, o, takes0, fun _ _ _ _ ⟨_, _, _, _, _, _, _, _, _, _, _, _, _, _, z⟩ => z⟩
        exact ((q a d oe pn hz hf).go σ' H' F _ A2).mono (up_le s (fun _ _ p => p) (fun _ _ p => p) (fun _ _ p => p) fun _ _ p => p)
      | some i =>
        intro oe pn hz hf
        have ev2 : EnvOk X.K F (σ'.set i (some (.ref a))) (ρ.set i (some (.exc a d C fs))) := ev.set (.exc h1 h2) i
        have A2 : AtS (X.suite a ((a, oe) :: pn)) (ρ.set i (some (.exc a d C fs))) L (ClD.ends ⟨c, some i, suite⟩ E) (σ'.set i (some (.ref a))) H' F (fun _ _ _ _ => False) := ⟨ev2, o, takes0, fun _ _ _ _ ⟨_, _, _, _, _, _, _, _, _, _, _, _, _, _, z⟩ => z⟩
        refine ((q a d oe pn hz hf).go _ H' F _ A2).mono ⟨fun σ3 H3 ⟨F3, ρ3, L3, s3, o3, e3, p⟩ => ⟨F3, _, L3, s.trans s3, o3, e3.unset i, p⟩, fun v H3 p => p.mono s fun _ _ p => p, fun σ3 H3 ⟨F3, ρ3, L3, s3, o3, e3, p⟩ => ⟨F3, _, L3, s.trans s3, o3, e3.unset i, p⟩, fun σ3 H3 ⟨F3, ρ3, L3, s3, o3, e3, p⟩ => ⟨F3, _, L3, s.trans s3, o3, e3.unset i, p⟩⟩
    · subst eb
      exact tries_wish hW r _ _ _ _ ⟨F, ρ, C, fs, L, d, gs, s, o, ev, rfl, rfl, h1, h2, q⟩
theorem pds_try {body : List Stmt} {h0 : ExceptHandler} {hds : List ExceptHandler} {l : List ClD} (stk : X.stack = X.env :: X.outer) (fr : X.env.frame = some X.env.locals) (uniq : X.N.Nodup) (cl : ClsD X (h0 :: hds) l)
    (h : ∀ (pn : List (Addr × Obj)) (xe : Value → Shared → Prop), PassesOwn (model X.prog X.w) X.A X.env xe → PDB (X.tr pn xe) body { E with ex := exTries X E l } ρ L) : PDS X (.Try body (h0 :: hds) [] [] pos) E ρ L := .mk fun σ H F W A pins s I => by
  refine (ps_tries (pos := pos) (tb := fun W' D σ H => ∀ pn xe, Takes (X.tr pn xe) W' → PassesOwn (model X.prog X.w) X.A X.env xe → wSs (X.tr pn xe) body D σ H) stk fr uniq A.tk (fun W' pn xe tk po => ⟨fun pins s σ H D I h => h pn xe tk po pins s I⟩) cl.cl).run pins s σ H _ I ?_
  intro pn xe tk po
  exact (h pn xe po).go σ H F _ ⟨A.env, A.own, tk, fun cls dd σ' H' p => tries_wish (E := E) (F0 := F) (fun cls dd σ' H' p => A.ex cls dd σ' H' p) l cls dd σ' H' p⟩
/-- error.f -/
theorem pd_xf {a C dd : Addr} {oe : Obj} {pn : List (Addr × Obj)} {f : Str} {fs : List (Str × D)} {v : D} {i : Nat} {n : Str} {npos : Pos} (T : XfC X.K C) (hno : PySem.W.findIn X.K (.ref C) f = some none) (hz : Zc (.ref C) (some dd) oe) (hf : ∃ vs, oe.data = .fields vs)
    (hi : X.N[i]? = some n) (hd : ρ[i]? = some (some (.exc a dd C fs))) (hl : fs.lookup f = some v) (h : P v L) (hv : X.env.scope.names.lookup n = some .local := by rfl) (hdb : (n == ("__debug__" : Str)) = false := by decide) (hcd : (n == ("__classdict__" : Str)) = false := by decide)
    (hb : attributeBase (.Name n npos) f (X.suite a ((a, oe) :: pn)).env (eval (.Name n npos) (X.suite a ((a, oe) :: pn)).env) = eval (.Name n npos) (X.suite a ((a, oe) :: pn)).env := by rfl) : PD (X.suite a ((a, oe) :: pn)) (.Attribute (.Name n npos) f pos) ρ L P R :=
  pd_of (pe_xf T hno hz hf (pe_var (X := X.suite a ((a, oe) :: pn)) hi (.inl hv) hdb hcd) hb) fun σ H F W A => by
    obtain ⟨x, h1, h2⟩ := A.env.2 i _ hd
    cases h2 with
    | exc g1 g2 =>
      obtain ⟨y, k1, k2⟩ := g2.look hl
      exact ⟨_, h1, rfl, rfl, dd, _, y, rfl, A.own.sub _ _ g1, k1, F, v, L, Same.refl _, A.own, k2, h⟩
end
end D2
end
section
set_option Elab.async false
set_option linter.all false
set_option maxRecDepth 100000
set_option maxHeartbeats 4000000
namespace D2
open PySem PySem.Spec PyProof.Rows L2
/-! ### zip of two, each a list or a tuple -/
def SqS (K : PySem.W.Frag) (b : Bool) (H : Hp) (a : Addr) (xs : List V) : Prop := match b with
  | true => SqL K H a xs
  | false => SqT K H a xs
def ItAt (b : Bool) (h : Heap) (it a : Addr) (i : Nat) : Prop := match b with
  | true => h.IsListIter it a i
  | false => h.IsTupleIter it a i
def HpAt (b : Bool) (h : Heap) (a : Addr) (its : Array Value) : Prop := match b with
  | true => h.IsList a its
  | false => h.IsTuple a its
def itO (b : Bool) (a : Addr) : Obj := match b with
  | true => { cls := .type "list_iterator", data := .fields #[.ref a, .int 0 0] }
  | false => { cls := .type "tuple_iterator", data := .fields #[.ref a, .int 0 0] }
theorem beginsS (b : Bool) (a : Addr) (its : Array Value) : Begins (.ref a) (itO b a) fun h => HpAt b h a its := by
  cases b
  · exact begins_tuple a its
  · exact begins_list a its
theorem drawsS {prog : Program} {w : World} {A : Around} (hh : A.handled = none) (b : Bool) (it l : Addr) (hne : l ≠ it) (items : Array Value) :
    Draws prog w A it [it, l] items.size (fun i v => items[i]? = some v) (fun i h => ItAt b h it l i ∧ HpAt b h l items) := by
  cases b
  · exact Draws.tuple hh it l hne items
  · exact Draws.list hh it l hne items
theorem itAt_begins {b : Bool} {h : Heap} {it a : Addr} (g : h.get? it = some (itO b a)) : ItAt b h it a 0 := by
  cases b
  · exact ⟨_, g, rfl, rfl⟩
  · exact ⟨_, g, rfl, rfl⟩
theorem itAt_keep {b : Bool} {h h' : Heap} {it a : Addr} {i : Nat} (x : ItAt b h it a i) (k : ∀ o, h.get? it = some o → h'.get? it = some o) : ItAt b h' it a i := by
  cases b
  · exact Heap.IsTupleIter.at x k
  · exact Heap.IsListIter.at x k
theorem itAt_obj {b : Bool} {h : Heap} {it a : Addr} {i : Nat} (x : ItAt b h it a i) : ∃ o, h.get? it = some o ∧ ∀ v, o.data ≠ .cell v := by
  cases b
  · obtain ⟨o, e, _, d⟩ := x
    exact ⟨o, e, fun v q => by rw [d] at q; cases q⟩
  · obtain ⟨o, e, _, d⟩ := x
    exact ⟨o, e, fun v q => by rw [d] at q; cases q⟩
theorem sqS_heap {X : Cx} {pins : List (Addr × Obj)} {σ : L2.St} {H : Hp} {s : Shared} {b : Bool} {a : Addr} {xs : List V} (I : Inv X pins σ H s) (h : SqS X.K b H a xs) : ∃ its : List Value, Vals xs its ∧ HpAt b s.heap a its.toArray ∧ ∃ o, s.heap.get? a = some o := by
  cases b
  · obtain ⟨its, r, p, _⟩ := I.tuple h
    obtain ⟨o, ho, h3⟩ := id p
    exact ⟨its, r, show s.heap.IsTuple a its.toArray from p, o, ho⟩
  · obtain ⟨its, r, p, _⟩ := I.list h
    obtain ⟨o, ho, h3⟩ := id p.isList
    exact ⟨its, r, p.isList, o, ho⟩
theorem sqS_inj {X : Cx} {pins : List (Addr × Obj)} {σ : L2.St} {H : Hp} {s : Shared} {b : Bool} {a : Addr} {xs ys : List V} (I : Inv X pins σ H s) (h : SqS X.K b H a xs) (g : SqS X.K b H a ys) : xs = ys := by
  cases b
  · exact I.tuple_inj h g
  · exact I.list_inj h g
def ItzS (K : PySem.W.Frag) (b1 : Bool) (a : Addr) (b2 : Bool) (b : Addr) : It :=
  ⟨fun i H => ∃ (xs ys : List V) (x y : V), SqS K b1 H a xs ∧ SqS K b2 H b ys ∧ xs[i]? = some x ∧ ys[i]? = some y,
    fun i H v H' => ∃ T x y, v = .ref T ∧ H T = none ∧ H' = upd H T (.tup [x, y]) ∧ (∀ xs, SqS K b1 H a xs → xs[i]? = some x) ∧ ∀ ys, SqS K b2 H b ys → ys[i]? = some y,
    fun i H => ∃ xs ys : List V, SqS K b1 H a xs ∧ SqS K b2 H b ys ∧ (xs.length ≤ i ∨ ys.length ≤ i)⟩
abbrev TnZ (b1 : Bool) (a : Addr) (b2 : Bool) (b z TI TO i1 i2 : Addr) : Nat → Heap → Prop := fun i h => IsZip h z TI TO .none ∧ IsTupOf2 h TI (.ref i1) (.ref i2) ∧ (∃ x y, IsTupOf2 h TO x y) ∧ ItAt b1 h i1 a i ∧ ItAt b2 h i2 b i
theorem drawsEnd {prog : Program} {w : World} {A : Around} (hh : A.handled = none) (b : Bool) (it l : Addr) (hne : l ≠ it) (items : Array Value) (k : Nat) (hk : items.size ≤ k) :
    Draws prog w A it [it, l] k (fun _ _ => False) (fun i h => i = k ∧ ItAt b h it l k ∧ HpAt b h l items) where
  live := fun i h st => (drawsS (prog := prog) (w := w) hh b it l hne items).live k h st.2
  frame := fun i h h' st kp => ⟨st.1, (drawsS (prog := prog) (w := w) hh b it l hne items).frame k h h' st.2 kp⟩
  item := fun i s Q E hi st => absurd st.1 (Nat.ne_of_lt hi)
  done := fun s Q E st hE => by
    obtain ⟨_, h1, h2⟩ := st
    have hn : items[k]? = none := Array.getElem?_eq_none hk
    cases b
    · exact wpAny_nextOf_tuple_end hh h1 h2 hn hE
    · exact wpAny_nextOf_list_end hh h1 h2 hn hE
theorem drawsAt {prog : Program} {w : World} {A : Around} (hh : A.handled = none) (b : Bool) (it l : Addr) (hne : l ≠ it) (items : Array Value) (k : Nat) {h : Heap} (h1 : ItAt b h it l k) (h2 : HpAt b h l items) :
    ∃ n P St, Draws prog w A it [it, l] n P St ∧ (∀ j, j = k → St j h) ∧ k ≤ n ∧ (items.size ≤ k → n = k) := by
  by_cases hk : items.size ≤ k
  · exact ⟨_, _, _, drawsEnd hh b it l hne items k hk, fun j e => by subst e; exact ⟨rfl, h1, h2⟩, Nat.le_refl _, fun _ => rfl⟩
  · exact ⟨_, _, _, drawsS hh b it l hne items, fun j e => by subst e; exact ⟨h1, h2⟩, by omega, fun z => absurd z hk⟩
theorem sub5 {z TI TO i1 i2 c : Addr} (m : c ∈ [z, TO, i1, i2]) : c ∈ [z, TI, TO, i1, i2] := by
  simp only [List.mem_cons, List.not_mem_nil, or_false] at m ⊢
  rcases m with h | h | h | h
  · exact .inl h
  · exact .inr (.inr (.inl h))
  · exact .inr (.inr (.inr (.inl h)))
  · exact .inr (.inr (.inr (.inr h)))
theorem turn_zipS {P : Program} {w : World} {K : PySem.W.Frag} {elts : List Expr} {kk : Nat} {tpos : Pos} {b1 b2 : Bool} {a b z TI TO i1 i2 : Addr} (S : ZipSep2 z TI TO i1 i2 [i1, a] [i2, b]) (ai : a ≠ i1) (bi : b ≠ i2) :
    Turn P w K (.Tuple elts kk tpos) (ItzS K b1 a b2 b) [z, TI, TO, i1, i2] z (TnZ b1 a b2 b z TI TO i1 i2) where
  mem := List.mem_cons_self
  obj := fun i h st c hc => by
    obtain ⟨hz, hTI, ⟨x, y, hTO⟩, h1, h2⟩ := st
    simp only [List.mem_cons, List.not_mem_nil, or_false] at hc
    rcases hc with rfl | rfl | rfl | rfl | rfl
    · exact ⟨_, hz, (fun v q => nomatch q)⟩
    · exact ⟨_, hTI, (fun v q => nomatch q)⟩
    · exact ⟨_, hTO, (fun v q => nomatch q)⟩
    · exact itAt_obj h1
    · exact itAt_obj h2
  keep := fun i h h' st k => by
    obtain ⟨hz, hTI, ⟨x, y, hTO⟩, h1, h2⟩ := st
    exact ⟨k _ (by simp) _ hz, k _ (by simp) _ hTI, ⟨x, y, k _ (by simp) _ hTO⟩, itAt_keep h1 (k _ (by simp)), itAt_keep h2 (k _ (by simp))⟩
  item := by
    intro X hP hw hK hc i pins s σ H E I hf st hg
    subst hP hw hK
    obtain ⟨xs, ys, x, y, qx, qy, hx, hy⟩ := hg
    obtain ⟨us, rx, px, _⟩ := sqS_heap I qx
    obtain ⟨vs, ry, py, _⟩ := sqS_heap I qy
    obtain ⟨u, hu, ru⟩ := rx.get hx
    obtain ⟨v, hv, rv⟩ := ry.get hy
    have hh : X.A.in1.handled = none := I.ok.hd hc
    have W := WalksT.zipD2 (prog := X.prog) (w := X.w) (A := X.A) S (drawsS hh b1 i1 a ai us.toArray) (drawsS hh b2 i2 b bi vs.toArray)
    have cells : ∀ c ∈ [z, TI, TO, i1, i2], c < s.heap.objs.size := fun c hcm => by
      obtain ⟨hz, hTI, ⟨x0, y0, hTO⟩, h1, h2⟩ := st
      simp only [List.mem_cons, List.not_mem_nil, or_false] at hcm
      rcases hcm with rfl | rfl | rfl | rfl | rfl
      · exact Heap.lt_size hz
      · exact Heap.lt_size hTI
      · exact Heap.lt_size hTO
      · obtain ⟨o, e, _⟩ := itAt_obj h1; exact Heap.lt_size e
      · obtain ⟨o, e, _⟩ := itAt_obj h2; exact Heap.lt_size e
    have lu : i < us.length := (List.getElem?_eq_some_iff.mp hu).1
    have lv : i < vs.length := (List.getElem?_eq_some_iff.mp hv).1
    refine W.item i s _ _ (by simp only [List.size_toArray]; omega) ⟨st.1, st.2.1, st.2.2.1, ⟨st.2.2.2.1, px⟩, st.2.2.2.2, py⟩ fun T vals h' tk hP hT hTup hM hk => ⟨_, rfl, W.go elts kk tpos i T { s with heap := h', toks := tk } _ _ hM fun h2 st2 hk2 => ?_⟩
    obtain ⟨x1, y1, hx1, hy1, rfl⟩ := hP
    have ex : x1 = u := by
      have e : us[i]? = some x1 := by simpa using hx1
      rw [hu] at e
      exact (Option.some.inj e).symm
    have ey : y1 = v := by
      have e : vs[i]? = some y1 := by simpa using hy1
      rw [hv] at e
      exact (Option.some.inj e).symm
    subst ex ey
    obtain ⟨o, ho, hcl, n, hd⟩ := hTup
    have hT2 := hk2 T o (W.apart i T h' hM) ho
    have new : ObjOk X.prog X.w (upd H T (.tup [x, y])) h2 T (.tup [x, y]) := ⟨by show 2 ≤ sizeLine; decide, [x1, y1], .cons ru (.cons rv .nil), ⟨_, hT2, hcl, n, hd⟩⟩
    have I1 : Inv X pins σ (upd H T (.tup [x, y])) { s with heap := h2, toks := tk } := I.turnedNew (ch := [z, TI, TO, i1, i2]) (fun c o hb q => hk2 c o (fun m => hb (sub5 m)) (hk c o (fun m => hb (sub5 m)) q)) hf hT new
    refine ⟨.ref T, _, I1, rfl, ⟨T, x, y, rfl, I.hok.fresh hT, rfl, fun l hl => by rw [sqS_inj I hl qx]; exact hx, fun l hl => by rw [sqS_inj I hl qy]; exact hy⟩, ⟨st2.1, st2.2.1, st2.2.2.1, st2.2.2.2.1.1, st2.2.2.2.2.1⟩, fun c hcm => ?_⟩
    rw [upd_ne (Nat.ne_of_lt (Nat.lt_of_lt_of_le (cells c hcm) hT))]
    exact (hf c hcm).1
  done := by
    intro X hP hw hK hc i pins s σ H E I hf st hg
    subst hP hw hK
    obtain ⟨xs, ys, qx, qy, hend⟩ := hg
    obtain ⟨us, rx, px, _⟩ := sqS_heap I qx
    obtain ⟨vs, ry, py, _⟩ := sqS_heap I qy
    have hh : X.A.in1.handled = none := I.ok.hd hc
    obtain ⟨n1, P1, S1, D1, k1, g1, e1⟩ := drawsAt (prog := X.prog) (w := X.w) hh b1 i1 a ai us.toArray i st.2.2.2.1 px
    obtain ⟨n2, P2, S2, D2, k2, g2, e2⟩ := drawsAt (prog := X.prog) (w := X.w) hh b2 i2 b bi vs.toArray i st.2.2.2.2 py
    have W := WalksT.zipD2 (prog := X.prog) (w := X.w) (A := X.A) S D1 D2
    have l1 := rx.length
    have l2 := ry.length
    have em : min n1 n2 = i := by
      simp only [List.size_toArray] at e1 e2
      rcases hend with q | q
      · have := e1 (by omega)
        omega
      · have := e2 (by omega)
        omega
    refine W.done s _ _ ⟨st.1, st.2.1, st.2.2.1, k1 _ em, k2 _ em⟩ fun h' tk hk => ⟨rfl, I.turnedL (ch := [z, TI, TO, i1, i2]) (fun c o hb q => hk c o (fun m => hb (sub5 m)) q) hf⟩
  self := fun A i s Q E st h => wpAny_pyIter_zip st.1 h

def iZipS (K : PySem.W.Frag) (ta : TA) : TI := fun σ H R => ta σ H fun vs H1 => ∃ b1 a b2 b xs ys, vs = [.ref a, .ref b] ∧ SqS K b1 H1 a xs ∧ SqS K b2 H1 b ys ∧ R (ItzS K b1 a b2 b) H1
theorem pi_zipS {X : Cx} {e e2 : Expr} {ta : TA} {p pos tpos : Pos} {elts : List Expr} {kk : Nat} (hg : Gl X "zip") (hm : X.mg "zip" = none) (ha : PA X [e, e2] ta)
    (hs : starEach [e, e2] X.env = (false, eval e X.env) :: starEach [e2] X.env := by rfl) (hpl : (backTo pos (starEach [e2] X.env)).any (·.1) = false := by rfl) :
    PI X (.Tuple elts kk tpos) (.Call (.Name "zip" p) [e, e2] [] pos) (iZipS X.K ta) := by
  refine ⟨fun pins s σ H R I h => ?_⟩
  refine Call_ (ld_blt I hg hm PyProof.Rows.boot_zip (PyProof.Rows.callWith_type1 (thn (ha.run pos pins s σ H _ I h) fun us s1 q0 => ?_) hs hpl))
  obtain ⟨vs, H1, I1, r1, b1, a, b2, b, xs, ys, rfl, qx, qy, q⟩ := q0
  cases r1 with
  | cons r rr =>
    cases rr with
    | cons r' rr =>
      cases rr
      cases r
      cases r'
      obtain ⟨ix, rx, px, o1, ho1⟩ := sqS_heap I1 qx
      obtain ⟨iy, ry, py, o2, ho2⟩ := sqS_heap I1 qy
      have la := Heap.lt_size ho1
      have lb := Heap.lt_size ho2
      have sep := zip_sep2 (N := s1.heap.objs.size) (fp1 := [a]) (fp2 := [b]) (fun c hc => by rw [List.mem_singleton.mp hc]; exact la) (fun c hc => by rw [List.mem_singleton.mp hc]; exact lb)
      refine zip_begins2 (beginsS b1 a ix.toArray) (beginsS b2 b iy.toArray) px py fun h' hz hTI hTO h1 h2 hsz hk => wpAny_pyIter_zip hz ?_
      have I2 : Inv X pins σ H1 { s1 with heap := h' } := I1.kept (t' := s1.toks) hk
      have fresh : ∀ k, FpOk X pins H1 (s1.heap.objs.size + k) := fun k => I1.fpOk (Nat.le_add_right _ _) (I1.hok.fresh (Nat.le_add_right _ _))
      refine ⟨_, _, _, _, H1, rfl, I2, turn_zipS sep (Nat.ne_of_lt la) (Nat.ne_of_lt (Nat.lt_succ_of_lt lb)), ⟨hz, hTI, ⟨_, _, hTO⟩, itAt_begins h1, itAt_begins h2⟩, fun c hcm => ?_, q⟩
      simp only [List.mem_cons, List.not_mem_nil, or_false] at hcm
      rcases hcm with rfl | rfl | rfl | rfl | rfl
      · exact fresh 4
      · exact fresh 2
      · exact fresh 3
      · exact fresh 0
      · exact fresh 1
end D2
end
section
set_option Elab.async false
set_option linter.all false
set_option maxRecDepth 100000
set_option maxHeartbeats 4000000
namespace D2
open PySem PySem.Spec PyProof.Rows L2
open PySem.Sem (wp)
/-! ### enumerate of a list or a tuple -/
theorem meets_enum1 {v : Value} {o : Obj} {H : Heap → Prop} (B : Begins v o H) :
    Meets (Builtin.«enumerate.__new__» ⟨[.type "enumerate", v], []⟩) (fun _ R s => H s.heap ∧ R (.ok (.ret (.ref (s.heap.push o).objs.size))) { s with heap := (s.heap.push o).push { cls := .type "enumerate", data := .fields #[.none, .bool false, .ref s.heap.objs.size, rawInt 0, .none, .none] } }) :=
  .of_wp fun prog w A R s hy => by
    obtain ⟨hp, gn, dr, tk, os⟩ := s
    obtain ⟨g1, g2⟩ := hy
    have subE := sub_enumerate
    have q1 : ∀ {A' : Around} {E' : Value → Shared → Prop} {Q' : Value → Shared → Prop}, Q' (.ref hp.objs.size) ⟨hp.push o, gn, dr, tk, os⟩ → wpAny (model prog w) A' (pyIter v) Q' E' ⟨hp, gn, dr, tk, os⟩ := fun q => B.iter prog w _ _ ⟨hp, gn, dr, tk, os⟩ _ g1 q
    wp_walk using q1
    refine wpAny_stack_any fun stk => wpAny_pure ?_
    split
    · rename_i c _ _ _ _ _
      cases (c == Value.type "enumerate")
      · wp_walk using q1
        exact ⟨_, rfl, g2⟩
      · wp_walk using q1
        exact ⟨_, rfl, g2⟩
    · wp_walk using q1
      exact ⟨_, rfl, g2⟩
theorem enum_begins1 {prog : Program} {w : World} {A : Around} {E : Value → Shared → Prop} {s : Shared} {v : Value} {o : Obj} {H : Heap → Prop} {Q : Value → Shared → Prop} (B : Begins v o H) (h1 : H s.heap)
    (h : ∀ h', IsEnum h' (s.heap.objs.size + 1) s.heap.objs.size 0 .none → h'.get? s.heap.objs.size = some o → (∀ b ob, s.heap.get? b = some ob → h'.get? b = some ob) → Q (.ref (s.heap.objs.size + 1)) { s with heap := h' }) :
    wpAny (model prog w) A (call (.type "enumerate") [v]) Q E s := by
  refine callType_new F.called_enumerate (by decide) (F.typeCall_enumerate_1 _) (F.newCall_enumerate_1 _) (fun ob => F.args_object_init_2 ob _) F.entry_enumerate_new (meets_enum1 B) ⟨h1, ?_⟩
  have hz : (s.heap.push o).objs.size = s.heap.objs.size + 1 := Heap.size_push ..
  show _ ∧ _
  rw [hz]
  have he : IsEnum ((s.heap.push o).push { cls := .type "enumerate", data := .fields #[.none, .bool false, .ref s.heap.objs.size, rawInt 0, .none, .none] }) (s.heap.objs.size + 1) s.heap.objs.size 0 .none := by
    have z := Heap.get?_push_size (s.heap.push o) (o := { cls := .type "enumerate", data := .fields #[.none, .bool false, .ref s.heap.objs.size, rawInt 0, .none, .none] }) rfl
    rw [hz] at z
    exact z
  exact ⟨⟨_, he, rfl⟩, h _ he (Heap.get?_push_of_some _ (Heap.get?_push_size _ B.free)) fun b ob x => Heap.get?_push_of_some _ (Heap.get?_push_of_some _ x)⟩
def IteS (K : PySem.W.Frag) (b : Bool) (a : Addr) : It :=
  ⟨fun i H => ∃ (xs : List V) (x : V), SqS K b H a xs ∧ xs[i]? = some x,
    fun i H v H' => ∃ T x, v = .ref T ∧ H T = none ∧ H' = upd H T (.tup [.int (i : Nat), x]) ∧ ∀ xs, SqS K b H a xs → xs[i]? = some x,
    fun i H => ∃ xs : List V, SqS K b H a xs ∧ xs.length ≤ i⟩
theorem turn_enumS {P : Program} {w : World} {K : PySem.W.Frag} {elts : List Expr} {kk : Nat} {tpos : Pos} {b : Bool} {a e it : Addr} (hei : e ≠ it) (hea : e ≠ a) (ai : a ≠ it) :
    Turn P w K (.Tuple elts kk tpos) (IteS K b a) [e, it] e (fun i h => (∃ old, IsEnum h e it (0 + (i : Int)) old) ∧ ItAt b h it a i) where
  mem := List.mem_cons_self
  obj := fun i h st c hc => by
    obtain ⟨⟨old, he⟩, h1⟩ := st
    simp only [List.mem_cons, List.not_mem_nil, or_false] at hc
    rcases hc with rfl | rfl
    · exact ⟨_, he, (fun v q => nomatch q)⟩
    · exact itAt_obj h1
  keep := fun i h h' st k => by
    obtain ⟨⟨old, he⟩, h1⟩ := st
    exact ⟨⟨old, k _ (by simp) _ he⟩, itAt_keep h1 (k _ (by simp))⟩
  item := by
    intro X hP hw hK hc i pins s σ H E I hf st hg
    subst hP hw hK
    obtain ⟨xs, x, qx, hx⟩ := hg
    obtain ⟨us, rx, px, _⟩ := sqS_heap I qx
    obtain ⟨u, hu, ru⟩ := rx.get hx
    have hh : X.A.in1.handled = none := I.ok.hd hc
    have nf : e ∉ [it, a] := fun m => by
      simp only [List.mem_cons, List.not_mem_nil, or_false] at m
      rcases m with z | z
      · exact hei z
      · exact hea z
    have W := WalksT.enumFrom (prog := X.prog) (w := X.w) (A := X.A) 0 (drawsS hh b it a ai us.toArray) e hei nf List.mem_cons_self
    have cells : ∀ c ∈ [e, it], c < s.heap.objs.size := fun c hcm => by
      obtain ⟨⟨old, he⟩, h1⟩ := st
      simp only [List.mem_cons, List.not_mem_nil, or_false] at hcm
      rcases hcm with rfl | rfl
      · exact Heap.lt_size he
      · obtain ⟨o, z, _⟩ := itAt_obj h1; exact Heap.lt_size z
    have lu : i < us.length := (List.getElem?_eq_some_iff.mp hu).1
    refine W.item i s _ _ (by simp only [List.size_toArray]; omega) ⟨st.1, st.2, px⟩ fun T vals h' tk hP hT hTup hM hk => ⟨_, rfl, W.go elts kk tpos i T { s with heap := h', toks := tk } _ _ hM fun h2 st2 hk2 => ?_⟩
    obtain ⟨t1, x1, hx1, rfl⟩ := hP
    have ex : x1 = u := by
      have z : us[i]? = some x1 := by simpa using hx1
      rw [hu] at z
      exact (Option.some.inj z).symm
    subst ex
    obtain ⟨o, ho, hcl, n, hd⟩ := hTup
    have hT2 := hk2 T o (W.apart i T h' hM) ho
    have new : ObjOk X.prog X.w (upd H T (.tup [.int (i : Nat), x])) h2 T (.tup [.int (i : Nat), x]) := ⟨by show 2 ≤ sizeLine; decide, [.int (0 + (i : Int)) t1, x1], .cons ⟨t1, by rw [Int.zero_add]⟩ (.cons ru .nil), ⟨_, hT2, hcl, n, hd⟩⟩
    have I1 : Inv X pins σ (upd H T (.tup [.int (i : Nat), x])) { s with heap := h2, toks := tk } := I.turnedNew (ch := [e, it]) (fun c o hb q => hk2 c o hb (hk c o hb q)) hf hT new
    refine ⟨.ref T, _, I1, rfl, ⟨T, x, rfl, I.hok.fresh hT, rfl, fun l hl => by rw [sqS_inj I hl qx]; exact hx⟩, ⟨st2.1, st2.2.1⟩, fun c hcm => ?_⟩
    rw [upd_ne (Nat.ne_of_lt (Nat.lt_of_lt_of_le (cells c hcm) hT))]
    exact (hf c hcm).1
  done := by
    intro X hP hw hK hc i pins s σ H E I hf st hg
    subst hP hw hK
    obtain ⟨xs, qx, hend⟩ := hg
    obtain ⟨us, rx, px, _⟩ := sqS_heap I qx
    have hh : X.A.in1.handled = none := I.ok.hd hc
    have nf : e ∉ [it, a] := fun m => by
      simp only [List.mem_cons, List.not_mem_nil, or_false] at m
      rcases m with z | z
      · exact hei z
      · exact hea z
    obtain ⟨n1, P1, S1, D1, k1, g1, e1⟩ := drawsAt (prog := X.prog) (w := X.w) hh b it a ai us.toArray i st.2 px
    have W := WalksT.enumFrom (prog := X.prog) (w := X.w) (A := X.A) 0 D1 e hei nf List.mem_cons_self
    have l1 := rx.length
    have em : n1 = i := e1 (by simp only [List.size_toArray]; omega)
    refine W.done s _ _ ⟨by rw [em]; exact st.1, k1 _ em⟩ fun h' tk hk => ⟨rfl, I.turnedL (ch := [e, it]) (fun c o hb q => hk c o hb q) hf⟩
  self := fun A i s Q E st h => by
    obtain ⟨⟨old, he⟩, _⟩ := st
    exact wpAny_pyIter_enum he h
def iEnumS (K : PySem.W.Frag) (ta : TA) : TI := fun σ H R => ta σ H fun vs H1 => ∃ b a xs, vs = [.ref a] ∧ SqS K b H1 a xs ∧ R (IteS K b a) H1
theorem pi_enumS {X : Cx} {e : Expr} {ta : TA} {p pos tpos : Pos} {elts : List Expr} {kk : Nat} (hg : Gl X "enumerate") (hm : X.mg "enumerate" = none) (ha : PA X [e] ta) (hs : starEach [e] X.env = [(false, eval e X.env)] := by rfl) :
    PI X (.Tuple elts kk tpos) (.Call (.Name "enumerate" p) [e] [] pos) (iEnumS X.K ta) := by
  refine ⟨fun pins s σ H R I h => ?_⟩
  refine Call_ (ld_blt I hg hm boot_enumerate (PyProof.Rows.callWith_type1 (thn (ha.run pos pins s σ H _ I h) fun us s1 q0 => ?_) hs rfl))
  obtain ⟨vs, H1, I1, r1, b, a, xs, rfl, qx, q⟩ := q0
  cases r1 with
  | cons r rr =>
    cases rr
    cases r
    obtain ⟨ix, rx, px, o1, ho1⟩ := sqS_heap I1 qx
    have la := Heap.lt_size ho1
    refine enum_begins1 (beginsS b a ix.toArray) px fun h' he hit hk => wpAny_pyIter_enum he ?_
    have I2 : Inv X pins σ H1 { s1 with heap := h' } := I1.kept (t' := s1.toks) hk
    have fresh : ∀ k, FpOk X pins H1 (s1.heap.objs.size + k) := fun k => I1.fpOk (Nat.le_add_right _ _) (I1.hok.fresh (Nat.le_add_right _ _))
    refine ⟨_, _, _, _, H1, rfl, I2, turn_enumS (Nat.succ_ne_self _) (Nat.ne_of_gt (Nat.lt_succ_of_lt la)) (Nat.ne_of_lt la), ⟨⟨_, he⟩, itAt_begins hit⟩, fun c hcm => ?_, q⟩
    simp only [List.mem_cons, List.not_mem_nil, or_false] at hcm
    rcases hcm with rfl | rfl
    · exact fresh 1
    · exact fresh 0
end D2
end
section
set_option Elab.async false
set_option linter.all false
set_option maxRecDepth 100000
set_option maxHeartbeats 2000000
namespace D2
open PySem PySem.Spec L2 RZ
section
variable {X : Cx} {e e2 a b c o : Expr} {es : List Expr} {st : Stmt} {sts rest : List Stmt} {ρ : Rho} {L : Led} {P : PK1} {R : RK1} {E : DE} {pos : Pos}

/-! ### ghost steps -/
/-- an entry is opened: what it may be -/
theorem pdb_open {p : Addr} {x : OD} {Y : OD → Prop} (hm : (p, x) ∈ L) (h1 : ∀ F o, x.Ok X.K F o → ∃ y, Y y ∧ y.Ok X.K F o) (h : ∀ y, Y y → ∃ L', Foc p x y L L' ∧ PDB X sts E ρ L') : PDB X sts E ρ L := .mk fun σ H F W A => by
  obtain ⟨n, u, g, ok⟩ := A.own.cell _ hm
  obtain ⟨y, hy, ok'⟩ := h1 F u ok
  obtain ⟨L', f, q⟩ := h y hy
  have w := A.own.write f ok'
  have eH : upd H p u = H := by
    funext b
    by_cases hb : b = p
    · rw [hb, upd_same, g]
    · rw [upd_ne hb]
  rw [eH] at w
  exact q.go σ H F W ⟨A.env, w, A.tk, A.ex⟩
/-- an entry is said in another way -/
theorem pdb_conv {p : Addr} {x y : OD} {L' : Led} (f : Foc p x y L L') (h1 : ∀ F o, x.Ok X.K F o → y.Ok X.K F o) (h : PDB X sts E ρ L') : PDB X sts E ρ L :=
  pdb_open (Y := fun z => z = y) f.mem (fun F o k => ⟨y, rfl, h1 F o k⟩) fun z e => ⟨L', by rw [e]; exact f, h⟩
theorem pdb_lw {L' : Led} (l : Lw L L') (h : PDB X sts E ρ L') : PDB X sts E ρ L := .mk fun σ H F W A => h.go σ H F W ⟨A.env, l.own A.own, A.tk, A.ex⟩
theorem pd_lw {L' : Led} (l : Lw L L') (h : PD X e ρ L' P R) : PD X e ρ L P R := .mk fun σ H F W A => h.go σ H F W ⟨A.env, l.own A.own, A.tk, A.ex⟩
theorem PDB.ends {E' : DE} (h : PDB X sts E' ρ L) (hx : E'.ex = E.ex) (h1 : ∀ ρ L, E'.nx ρ L → E.nx ρ L) (h2 : ∀ d L, E'.rt d L → E.rt d L) (h3 : ∀ ρ L, E'.bk ρ L → E.bk ρ L) (h4 : ∀ ρ L, E'.ct ρ L → E.ct ρ L) : PDB X sts E ρ L := .mk fun σ H F W A =>
  (h.go σ H F W ⟨A.env, A.own, A.tk, by rw [hx]; exact A.ex⟩).mono (up_le (Same.refl _) h1 h2 h3 h4)

/-- a test whose answer is known and that leaves all as it is -/
theorem pds_ifB {c : Expr} {a b : List Stmt} {t : Bool} (h : PDT X c ρ L (fun t' L1 => t' = t ∧ L1 = L) (E.ex ρ)) (h1 : t = true → PDB X a E ρ L) (h2 : t = false → PDB X b E ρ L) : PDS X (.If c a b pos) E ρ L := pds_if (h.mono fun t' L1 ⟨e1, e2⟩ => by
  subst e1 e2
  cases t' with
  | true => exact h1 rfl
  | false => exact h2 rfl)
theorem pdt_case {c : Expr} {Q : Bool → Led → Prop} {t : Bool} (h : PDT X c ρ L (fun t' L1 => t' = t ∧ L1 = L) R) (q : Q t L) : PDT X c ρ L Q R := h.mono fun t' L1 ⟨e1, e2⟩ => by rw [e1, e2]; exact q
theorem pd_case {d : D} (h : PD X e ρ L (fun d' L1 => d' = d ∧ L1 = L) R) (q : P d L) : PD X e ρ L P R := h.mono fun t' L1 ⟨e1, e2⟩ => by rw [e1, e2]; exact q
/-- or, and, not of known tests -/
theorem pdt_orB {r : List Expr} {t u : Bool} (h : PDT X a ρ L (fun t' L1 => t' = t ∧ L1 = L) R) (h2 : t = false → PDT X (.BoolOp .Or (b :: r) pos) ρ L (fun t' L1 => t' = u ∧ L1 = L) R) : PDT X (.BoolOp .Or (a :: b :: r) pos) ρ L (fun t' L1 => t' = (t || u) ∧ L1 = L) R := pdt_or (pdt_case h (by
  cases t with
  | true => exact ⟨rfl, rfl⟩
  | false => exact (h2 rfl).mono fun t' L1 z => by simpa using z))
theorem pdt_andB {r : List Expr} {t u : Bool} (h : PDT X a ρ L (fun t' L1 => t' = t ∧ L1 = L) R) (h2 : t = true → PDT X (.BoolOp .And (b :: r) pos) ρ L (fun t' L1 => t' = u ∧ L1 = L) R) : PDT X (.BoolOp .And (a :: b :: r) pos) ρ L (fun t' L1 => t' = (t && u) ∧ L1 = L) R := pdt_and (pdt_case h (by
  cases t with
  | false => exact ⟨rfl, rfl⟩
  | true => exact (h2 rfl).mono fun t' L1 z => by simpa using z))
theorem pdt_notB {t : Bool} (h : PDT X a ρ L (fun t' L1 => t' = t ∧ L1 = L) R) : PDT X (.UnaryOp .Not a pos) ρ L (fun t' L1 => t' = (!t) ∧ L1 = L) R := pdt_not (h.mono fun t' L1 ⟨e1, e2⟩ => ⟨by rw [e1], e2⟩)
theorem pdt_valB {t : Bool} (h : PD X e ρ L (fun d L1 => d = .bl t ∧ L1 = L) R) (he : ∀ whole, isTrue e X.env whole = (do let v ← whole; standAt e.pos; holding [v] (truthy v)) := by intro _; rfl) : PDT X e ρ L (fun t' L1 => t' = t ∧ L1 = L) R := pdt_val (h.mono fun d L1 ⟨e1, e2⟩ => by
  subst e1 e2
  exact ⟨rfl, rfl⟩) he
theorem PDT.eqB {c : Expr} {t u : Bool} (h : PDT X c ρ L (fun t' L1 => t' = t ∧ L1 = L) R) (e : t = u) : PDT X c ρ L (fun t' L1 => t' = u ∧ L1 = L) R := e ▸ h

/-! ### built-in names as values -/
theorem pd_bltn {x : Str} {v : V} {u : Value} (hm : X.mg x = none) (hv : bootBuiltins x = some u) (r : RelV v u) (h : P (.sc v) L) (hg : Gl X x := by rfl) (hn : x ≠ "__name__" := by decide) (hd : (x == ("__debug__" : Str)) = false := by decide) : PD X (.Name x pos) ρ L P R :=
  pd_of (pe_bltn hg hm hv r hn hd) fun σ H F W A => upV.here A.own (.sc _) h

/-- a module's number -/
theorem pd_globI {x : Str} {i : Int} {t : Tok} (hm : X.mg x = some (.int i t)) (h : P (.int i) L) (hg : Gl X x := by rfl) (hd : (x == ("__debug__" : Str)) = false := by decide) : PD X (.Name x pos) ρ L P R := pd_glob (v := .int i) hm ⟨t, rfl⟩ h hg hd

/-! ### lists put together -/
/-- lists that are tracked ones -/
inductive Vl (L : Led) : D → List D → Prop
  | lst (ds : List D) : Vl L (.lst ds) ds
  | own {p : Addr} {ds : List D} (h : (p, OD.lst ds) ∈ L) : Vl L (.sc (.ref p)) ds
theorem Vl.get {K : PySem.W.Frag} {H F : Hp} {v : V} {d : D} {ds : List D} (o : Own K H F L) (i : Is K F v d) (w : Vl L d ds) : ∃ a xs, v = .ref a ∧ H a = some (.lst xs) ∧ IsL K F xs ds := by
  cases w with
  | lst ds =>
    cases i with
    | lst h1 h2 => exact ⟨_, _, rfl, o.sub _ _ h1, h2⟩
  | own h =>
    cases i
    obtain ⟨_, u, h1, xs, rfl, h2⟩ := o.cell _ h
    exact ⟨_, xs, rfl, h1, h2⟩
theorem od_cat {da db : D} {as bs : List D} (wa : Vl L da as) (wb : Vl L db bs) (hl : as.length + bs.length ≤ sizeLine) (h : P (.lst (as ++ bs)) L) : OpD X (binaryOp .Add) da db L P := opd_of op_cat fun H F x y o ix iy => by
  obtain ⟨a, xs, rfl, h1, h2⟩ := wa.get o ix
  obtain ⟨b, ys, rfl, g1, g2⟩ := wb.get o iy
  refine ⟨a, b, xs, ys, rfl, rfl, h1, g1, by rw [h2.length, g2.length]; exact hl, fun p hp => ?_⟩
  obtain ⟨s2, o2⟩ := o.froze (o := .lst (xs ++ ys)) hp
  exact ⟨_, _, L, s2, o2, .lst upd_same ((h2.append g2).mono s2), h⟩
theorem od_catO {da db : D} {as bs : List D} (wa : Vl L da as) (wb : Vl L db bs) (hl : as.length + bs.length ≤ sizeLine) (h : ∀ p, P (.ref p) ((p, .lst (as ++ bs)) :: L)) : OpD X (binaryOp .Add) da db L P := opd_of op_cat fun H F x y o ix iy => by
  obtain ⟨a, xs, rfl, h1, h2⟩ := wa.get o ix
  obtain ⟨b, ys, rfl, g1, g2⟩ := wb.get o iy
  exact ⟨a, b, xs, ys, rfl, rfl, h1, g1, by rw [h2.length, g2.length]; exact hl, fun p hp => ⟨F, _, _, Same.refl _, o.push hp (x := .lst (as ++ bs)) ⟨_, rfl, h2.append g2⟩, .sc _, h p⟩⟩
theorem is_rep {K : PySem.W.Frag} {F : Hp} {xs : List V} {ds : List D} (h : IsL K F xs ds) : ∀ n : Nat, IsL K F (List.replicate n xs).flatten (List.replicate n ds).flatten
  | 0 => .nil
  | n + 1 => by
    rw [List.replicate_succ, List.replicate_succ, List.flatten_cons, List.flatten_cons]
    exact h.append (is_rep h n)
theorem od_rep {da : D} {as : List D} {k : Int} (wa : Vl L da as) (h1 : -(2 ^ 63) ≤ k) (h2 : k < 2 ^ 63) (hl : as.length * k.toNat ≤ sizeLine) (h : P (.lst (List.replicate k.toNat as).flatten) L) : OpD X (binaryOp .Mult) da (.int k) L P := opd_of op_rep fun H F x y o ix iy => by
  obtain ⟨a, xs, rfl, g1, g2⟩ := wa.get o ix
  cases iy
  refine ⟨a, k, xs, rfl, rfl, g1, h1, h2, by rw [g2.length]; exact hl, fun p hp => ?_⟩
  obtain ⟨s2, o2⟩ := o.froze (o := .lst (List.replicate k.toNat xs).flatten) hp
  exact ⟨_, _, L, s2, o2, .lst upd_same ((is_rep g2 _).mono s2), h⟩
/-- xs[::-1] -/
theorem pd_rev {k : Nat} {p1 p2 p3 : Pos} (h : PD X e ρ L (fun d L1 => ∃ ds, Vw L1 d ds ∧ P (.lst ds.reverse) L1) R) : PD X (.Subscript e (.Slice none none (some (.UnaryOp .USub (.Constant (.int 1) k p1) p2)) p3) pos) ρ L P R := pd_of (pe_revL pe_w) fun σ H F W A => h.step A fun v H1 F1 d L1 s1 A1 i1 ⟨ds, w, q⟩ => by
  obtain ⟨a, xs, rfl, hq, hx⟩ := w.get A1.own i1
  refine ⟨a, xs, rfl, hq, fun p hp => ?_⟩
  obtain ⟨s2, o2⟩ := A1.own.froze (o := .lst xs.reverse) hp
  exact ⟨_, _, L1, s1.trans s2, o2, .lst upd_same (hx.rev.mono s2), q⟩

/-! ### range objects, their length -/
def rngO (r : Addr) (n : Int) : HO := .ext fun h => ∃ t u v, IsRange h r 0 n 1 t u v
theorem pe_range {ta : TA} {p : Pos} (hg : Gl X "range") (hm : X.mg "range" = none) (ha : PA X [a] ta) (hs : starEach [a] X.env = [(false, eval a X.env)] := by rfl) :
    PE X (.Call (.Name "range" p) [a] [] pos) (fun σ H Q => ta σ H fun vs H1 => ∃ n : Int, vs = [.int n] ∧ ∀ r, H1 r = none → Q (.ref r) (upd H1 r (rngO r n))) := ⟨fun pins s σ H Q I h => by
  refine PyProof.Rows.Call_ (ld_blt I hg hm PyProof.Rows.boot_range (PyProof.Rows.callWith_type1 (thn (ha.run pos pins s σ H _ I h) fun us s1 ⟨vs, H1, I1, r1, q1⟩ => ?_) hs rfl))
  obtain ⟨n, e, q⟩ := q1
  subst e
  cases r1 with
  | cons r rr =>
    cases rr
    obtain ⟨t, rfl⟩ := r
    refine call_range_1 ?_
    have at_ : (s1.heap.push { cls := .type "range", data := .fields #[.int 0 s1.toks, .int n t, .int 1 (s1.toks + 1)] }).get? s1.heap.objs.size = some { cls := .type "range", dict := none, data := .fields #[.int 0 s1.toks, .int n t, .int 1 (s1.toks + 1)], slots := #[] } := Heap.get?_push_size _ rfl
    exact ⟨.ref s1.heap.objs.size, _, I1.laid (t' := s1.toks + 1 + 1) (o := rngO s1.heap.objs.size n) (fun b o e => Heap.get?_push_of_some _ e) (Nat.le_refl _) ⟨⟨_, _, _, at_⟩, ⟨_, at_⟩, fun h1 h2 ⟨t, u, v, z⟩ k => ⟨t, u, v, k _ z⟩⟩, rfl, q _ (I1.hok.fresh (Nat.le_refl _))⟩⟩
theorem cr_lenRng : CallR X (.builtin "len") (fun vs H Q => ∃ r n, vs = [.ref r] ∧ H r = some (rngO r n) ∧ n < 2 ^ 62 ∧ Q (.int (n.toNat : Int)) H) := fun pins s σ H vs us Q I r ⟨a, n, e, ha, hn, q⟩ => by
  subst e
  rw [Vals.ref1 r]
  have ok : ∃ t u v, IsRange s.heap a 0 n 1 t u v := (I.hok a _ ha : ObjOk X.prog X.w H s.heap a (.ext _)).1
  obtain ⟨t, u, v, hr⟩ := ok
  have sz : Builtin.Range.rangeSize 0 n 1 = ((n.toNat : Nat) : Int) := by
    rw [rangeSize_one]
    split <;> omega
  exact call_len_range hr sz (by omega) ⟨.int _, H, I.tok _, ⟨_, rfl⟩, q⟩
theorem pd_range {p : Pos} (hm : X.mg "range" = none) (h : PD X a ρ L (fun d L1 => ∃ n : Int, d = .int n ∧ ∀ r, P (.ref r) ((r, .raw (rngO r n)) :: L1)) R) (hg : Gl X "range" := by rfl) (hs : starEach [a] X.env = [(false, eval a X.env)] := by rfl) (hpl : starEach [a] X.env = (false, eval a X.env) :: starEach [] X.env := by rfl) :
    PD X (.Call (.Name "range" p) [a] [] pos) ρ L P R := pd_of (pe_range hg hm (pa_cons pe_w pa_nil hpl) hs) fun σ H F W A => h.step A fun v H1 F1 d L1 s1 A1 i1 ⟨n, ed, q⟩ => by
  subst ed
  cases i1
  exact ⟨n, rfl, fun r hr => ⟨F1, _, _, s1, A1.own.push hr (x := .raw (rngO r n)) rfl, .sc _, q r⟩⟩
theorem cd_lenRng {r : Addr} {n : Int} (hm : (r, OD.raw (rngO r n)) ∈ L) (hn : n < 2 ^ 62) (h : P (.int (n.toNat : Int)) L) : CallD X (.builtin "len") [.ref r] L P := cd_of cr_lenRng fun H F xs o ix => by
  obtain ⟨v, rfl, i⟩ := isl1 ix
  cases i
  obtain ⟨_, u, h1, h2⟩ := o.cell _ hm
  have h2 : u = rngO r n := h2
  subst h2
  exact ⟨r, n, rfl, h1, hn, upV.here o (.sc _) h⟩

/-! ### zip, enumerate -/
/-- a list at a, whatever the ledger, as long as G stays -/
def LsAt (K : PySem.W.Frag) (F : Hp) (a : Addr) (ds : List D) (G : Led) : Prop := ∀ H F' L, Same F F' → Own K H F' L → SubL G L → ∃ xs, SqL K H a xs ∧ IsL K F' xs ds
def TpAt (K : PySem.W.Frag) (F : Hp) (a : Addr) (ds : List D) : Prop := ∀ H F' L, Same F F' → Own K H F' L → ∃ xs, SqT K H a xs ∧ IsL K F' xs ds
inductive Gl2 (L : Led) : D → List D → Led → Prop
  | lst (ds : List D) : Gl2 L (.lst ds) ds []
  | fro (ds : List D) : Gl2 L (.fro ds) ds []
  | own {p : Addr} {ds : List D} (h : (p, OD.lst ds) ∈ L) : Gl2 L (.sc (.ref p)) ds [(p, .lst ds)]
theorem Gl2.at {K : PySem.W.Frag} {H F : Hp} {v : V} {d : D} {ds : List D} {G : Led} (o : Own K H F L) (i : Is K F v d) (g : Gl2 L d ds G) : ∃ a xs, v = .ref a ∧ SqL K H a xs ∧ LsAt K F a ds G := by
  cases g with
  | lst ds =>
    cases i with
    | lst h1 h2 => exact ⟨_, _, rfl, SqL.of (o.sub _ _ h1), fun H' F' L' s o' _ => ⟨_, SqL.of (o'.sub _ _ (s _ _ h1)), h2.mono s⟩⟩
  | fro ds =>
    cases i with
    | fro h1 h2 => exact ⟨_, _, rfl, same_l o.sub h1, fun H' F' L' s o' _ => ⟨_, same_l o'.sub (same_l s h1), h2.mono s⟩⟩
  | @own p ds h =>
    cases i
    obtain ⟨_, u, h1, xs, rfl, h2⟩ := o.cell _ h
    refine ⟨_, xs, rfl, SqL.of h1, fun H' F' L' s o' g => ?_⟩
    obtain ⟨_, u', h1', xs', e', h2'⟩ := o'.cell (p, OD.lst ds) (g _ (List.mem_singleton.mpr rfl))
    subst e'
    exact ⟨xs', SqL.of h1', h2'⟩
def zipD (as bs : List D) : List D := List.zipWith (fun x y => D.tup [x, y]) as bs
theorem zipD_get {as bs : List D} {i : Nat} {d : D} (h : (zipD as bs)[i]? = some d) : ∃ x y, as[i]? = some x ∧ bs[i]? = some y ∧ d = .tup [x, y] := by
  unfold zipD at h
  rw [List.getElem?_zipWith] at h
  cases e1 : as[i]? with
  | none => rw [e1] at h; cases h
  | some x =>
    cases e2 : bs[i]? with
    | none => rw [e1, e2] at h; cases h
    | some y =>
      rw [e1, e2] at h
      exact ⟨x, y, rfl, rfl, (Option.some.inj h).symm⟩
theorem SubL.appL {M G L : Led} (h : SubL (M ++ G) L) : SubL M L ∧ SubL G L := ⟨fun x hx => h x (List.mem_append_left _ hx), fun x hx => h x (List.mem_append_right _ hx)⟩
theorem itis_z {K : PySem.W.Frag} {F : Hp} {p q : Addr} {as bs : List D} {G1 G2 : Led} (h1 : LsAt K F p as G1) (h2 : LsAt K F q bs G2) : ItIs K F (Itz K p q) (zipD as bs) (G1 ++ G2) := fun H F' L s o g i => by
  obtain ⟨xs, a1, a2⟩ := h1 H F' L s o g.appL.1
  obtain ⟨ys, b1, b2⟩ := h2 H F' L s o g.appL.2
  refine ⟨fun hl => ⟨xs, ys, a1, b1, ?_⟩, fun d hd => ?_⟩
  · unfold zipD at hl
    rw [List.length_zipWith] at hl
    rw [a2.length, b2.length]
    omega
  · obtain ⟨x, y, hx, hy, rfl⟩ := zipD_get hd
    obtain ⟨u, u1, u2⟩ := a2.get hx
    obtain ⟨v, v1, v2⟩ := b2.get hy
    refine ⟨⟨xs, ys, u, v, a1, b1, u1, v1⟩, fun z H' ⟨T, x', y', e, hT, eH, k1, k2⟩ => ?_⟩
    subst e eH
    have := k1 xs a1
    rw [u1] at this
    cases this
    have := k2 ys b1
    rw [v1] at this
    cases this
    obtain ⟨s2, o2⟩ := o.froze (o := .tup [u, v]) hT
    exact ⟨_, s2, o2, .tup (SqT.of upd_same) (.cons (u2.mono s2) (.cons (v2.mono s2) .nil))⟩
theorem itis_zT {K : PySem.W.Frag} {F : Hp} {p q : Addr} {as bs : List D} {xs ys : List V} (h1 : SqT K F p xs) (i1 : IsL K F xs as) (h2 : SqT K F q ys) (i2 : IsL K F ys bs) : ItIs K F (ItzT K p q) (zipD as bs) [] := fun H F' L s o g i => by
  have a1 := same_t o.sub (same_t s h1)
  have b1 := same_t o.sub (same_t s h2)
  have a2 := i1.mono s
  have b2 := i2.mono s
  refine ⟨fun hl => ⟨xs, ys, a1, b1, ?_⟩, fun d hd => ?_⟩
  · unfold zipD at hl
    rw [List.length_zipWith] at hl
    rw [a2.length, b2.length]
    omega
  · obtain ⟨x, y, hx, hy, rfl⟩ := zipD_get hd
    obtain ⟨u, u1, u2⟩ := a2.get hx
    obtain ⟨v, v1, v2⟩ := b2.get hy
    refine ⟨⟨xs, ys, u, v, a1, b1, u1, v1⟩, fun z H' ⟨T, x', y', e, hT, eH, k1, k2⟩ => ?_⟩
    subst e eH
    have := k1 xs a1
    rw [u1] at this
    cases this
    have := k2 ys b1
    rw [v1] at this
    cases this
    obtain ⟨s2, o2⟩ := o.froze (o := .tup [u, v]) hT
    exact ⟨_, s2, o2, .tup (SqT.of upd_same) (.cons (u2.mono s2) (.cons (v2.mono s2) .nil))⟩
/-- one of two zipped: a list as long as G stays, or a tuple -/
inductive Gl3 (L : Led) : D → List D → Led → Prop
  | ls {d : D} {ds : List D} {G : Led} (h : Gl2 L d ds G) : Gl3 L d ds G
  | tup (ds : List D) : Gl3 L (.tup ds) ds []
def SsAt (K : PySem.W.Frag) (F : Hp) (b : Bool) (a : Addr) (ds : List D) (G : Led) : Prop := ∀ H F' L, Same F F' → Own K H F' L → SubL G L → ∃ xs, SqS K b H a xs ∧ IsL K F' xs ds
theorem Gl3.at {K : PySem.W.Frag} {H F : Hp} {v : V} {d : D} {ds : List D} {G : Led} (o : Own K H F L) (i : Is K F v d) (g : Gl3 L d ds G) : ∃ b a xs, v = .ref a ∧ SqS K b H a xs ∧ SsAt K F b a ds G := by
  cases g with
  | ls h =>
    obtain ⟨a, xs, e, h1, h2⟩ := h.at o i
    exact ⟨true, a, xs, e, h1, h2⟩
  | tup ds =>
    cases i with
    | tup h1 h2 => exact ⟨false, _, _, rfl, same_t o.sub h1, fun H' F' L' s o' _ => ⟨_, same_t o'.sub (same_t s h1), h2.mono s⟩⟩
theorem itis_zS {K : PySem.W.Frag} {F : Hp} {b1 b2 : Bool} {p q : Addr} {as bs : List D} {G1 G2 : Led} (h1 : SsAt K F b1 p as G1) (h2 : SsAt K F b2 q bs G2) : ItIs K F (ItzS K b1 p b2 q) (zipD as bs) (G1 ++ G2) := fun H F' L s o g i => by
  obtain ⟨xs, a1, a2⟩ := h1 H F' L s o g.appL.1
  obtain ⟨ys, b1, b2⟩ := h2 H F' L s o g.appL.2
  refine ⟨fun hl => ⟨xs, ys, a1, b1, ?_⟩, fun d hd => ?_⟩
  · unfold zipD at hl
    rw [List.length_zipWith] at hl
    rw [a2.length, b2.length]
    omega
  · obtain ⟨x, y, hx, hy, rfl⟩ := zipD_get hd
    obtain ⟨u, u1, u2⟩ := a2.get hx
    obtain ⟨v, v1, v2⟩ := b2.get hy
    refine ⟨⟨xs, ys, u, v, a1, b1, u1, v1⟩, fun z H' ⟨T, x', y', e, hT, eH, k1, k2⟩ => ?_⟩
    subst e eH
    have := k1 xs a1
    rw [u1] at this
    cases this
    have := k2 ys b1
    rw [v1] at this
    cases this
    obtain ⟨s2, o2⟩ := o.froze (o := .tup [u, v]) hT
    exact ⟨_, s2, o2, .tup (SqT.of upd_same) (.cons (u2.mono s2) (.cons (v2.mono s2) .nil))⟩
/-- zip(x, y): each a list or a tuple -/
inductive Zp (L : Led) : D → D → List D → List D → Led → Prop
  | any {d d' : D} {as bs : List D} {G G' : Led} (h : Gl3 L d as G) (h' : Gl3 L d' bs G') : Zp L d d' as bs (G ++ G')
theorem Zp.lists {L : Led} {d d' : D} {as bs : List D} {G G' : Led} (h : Gl2 L d as G) (h' : Gl2 L d' bs G') : Zp L d d' as bs (G ++ G') := .any (.ls h) (.ls h')
theorem Zp.tups {L : Led} (as bs : List D) : Zp L (.tup as) (.tup bs) as bs [] := .any (.tup as) (.tup bs)
theorem Zp.lt {L : Led} {d : D} {as : List D} {G : Led} (h : Gl2 L d as G) (bs : List D) : Zp L d (.tup bs) as bs (G ++ []) := .any (.ls h) (.tup bs)
theorem Zp.tl {L : Led} {d : D} {bs : List D} {G : Led} (as : List D) (h : Gl2 L d bs G) : Zp L (.tup as) d as bs ([] ++ G) := .any (.tup as) (.ls h)
theorem Gl2.subG {L G : Led} {d : D} {as : List D} (h : Gl2 L d as G) : SubL G L := by
  cases h with
  | own h => exact SubL.one h
  | _ => exact SubL.nil
theorem Gl2.up {L L' G : Led} {d : D} {as : List D} (s : SubL L L') (h : Gl2 L d as G) : Gl2 L' d as G := by
  cases h with
  | lst => exact .lst _
  | fro => exact .fro _
  | own h => exact .own (s _ h)
theorem Gl3.subG {L G : Led} {d : D} {as : List D} (h : Gl3 L d as G) : SubL G L := by
  cases h with
  | ls h => exact h.subG
  | tup _ => exact SubL.nil
theorem Gl3.up {L L' G : Led} {d : D} {as : List D} (s : SubL L L') (h : Gl3 L d as G) : Gl3 L' d as G := by
  cases h with
  | ls h => exact .ls (h.up s)
  | tup _ => exact .tup _
theorem Zp.subG {L G : Led} {d d' : D} {as bs : List D} (z : Zp L d d' as bs G) : SubL G L := by
  cases z with
  | any h h' =>
    intro x hx
    rcases List.mem_append.mp hx with q | q
    · exact h.subG x q
    · exact h'.subG x q
theorem Zp.up {L L' G : Led} {d d' : D} {as bs : List D} (s : SubL L L') (h : Zp L d d' as bs G) : Zp L' d d' as bs G := by
  cases h with
  | any h h' => exact .any (h.up s) (h'.up s)
theorem pdi_zip {elts : List Expr} {kk : Nat} {tpos p : Pos} {P : List D → Led → Led → Prop} (hm : X.mg "zip" = none) (h : PDA X [e, e2] ρ L (fun ds L1 => ∃ d1 d2 as bs G, ds = [d1, d2] ∧ Zp L1 d1 d2 as bs G ∧ P (zipD as bs) G L1) R) (hg : Gl X "zip" := by rfl)
    (hs : starEach [e, e2] X.env = (false, eval e X.env) :: starEach [e2] X.env := by rfl) (hpl : (backTo pos (starEach [e2] X.env)).any (·.1) = false := by rfl) : PDI X (.Tuple elts kk tpos) (.Call (.Name "zip" p) [e, e2] [] pos) ρ L P R :=
  pdi_of (pi_zipS hg hm pa_w hs hpl) fun σ H F W A => h.step A fun vs H1 F1 ds L1 s1 A1 iv ⟨d1, d2, as, bs, G, ed, z, q⟩ => by
    subst ed
    obtain ⟨v, w, rfl, i, j⟩ := isl2 iv
    cases z with
    | any g1 g2 =>
      obtain ⟨b1, p, xs, rfl, hx, l1⟩ := g1.at A1.own i
      obtain ⟨b2, r, ys, rfl, hy, l2⟩ := g2.at A1.own j
      exact ⟨b1, p, b2, r, xs, ys, rfl, hx, hy, F1, _, _, L1, s1, A1.own, itis_zS l1 l2, q⟩
def enumD (as : List D) : List D := zipD (rngD 0 as.length) as
theorem itis_eS {K : PySem.W.Frag} {F : Hp} {b : Bool} {p : Addr} {as : List D} {G : Led} (h1 : SsAt K F b p as G) : ItIs K F (IteS K b p) (enumD as) G := fun H F' L s o g i => by
  obtain ⟨xs, a1, a2⟩ := h1 H F' L s o g
  refine ⟨fun hl => ⟨xs, a1, ?_⟩, fun d hd => ?_⟩
  · unfold enumD zipD at hl
    rw [List.length_zipWith, rngD_length] at hl
    rw [a2.length]
    omega
  · obtain ⟨x, y, hx, hy, rfl⟩ := zipD_get hd
    obtain ⟨v, v1, v2⟩ := a2.get hy
    have hi : i < as.length := (List.getElem?_eq_some_iff.mp hy).1
    unfold rngD at hx
    rw [List.getElem?_map, List.getElem?_range hi] at hx
    have ex : x = D.int (0 + (i : Int)) := (Option.some.inj hx).symm
    rw [Int.zero_add] at ex
    subst ex
    refine ⟨⟨xs, v, a1, v1⟩, fun z H' ⟨T, x', e, hT, eH, k1⟩ => ?_⟩
    subst e eH
    have := k1 xs a1
    rw [v1] at this
    cases this
    obtain ⟨s2, o2⟩ := o.froze (o := .tup [.int (i : Nat), v]) hT
    exact ⟨_, s2, o2, .tup (SqT.of upd_same) (.cons (.sc _) (.cons (v2.mono s2) .nil))⟩
/-- enumerate of a list or a tuple -/
theorem pdi_enumA {elts : List Expr} {kk : Nat} {tpos p : Pos} {P : List D → Led → Led → Prop} (hm : X.mg "enumerate" = none) (h : PD X e ρ L (fun d L1 => ∃ as G, Gl3 L1 d as G ∧ P (enumD as) G L1) R) (hg : Gl X "enumerate" := by rfl) (hs : starEach [e] X.env = [(false, eval e X.env)] := by rfl)
    (hpl : starEach [e] X.env = (false, eval e X.env) :: starEach [] X.env := by rfl) : PDI X (.Tuple elts kk tpos) (.Call (.Name "enumerate" p) [e] [] pos) ρ L P R :=
  pdi_of (pi_enumS hg hm (pa_cons pe_w pa_nil hpl) hs) fun σ H F W A => h.step A fun v H1 F1 d L1 s1 A1 i ⟨as, G, g, q⟩ => by
    obtain ⟨b, p, xs, rfl, hx, l1⟩ := g.at A1.own i
    exact ⟨b, p, xs, rfl, hx, F1, _, G, L1, s1, A1.own, itis_eS l1, q⟩
theorem pdi_enum {elts : List Expr} {kk : Nat} {tpos p : Pos} {P : List D → Led → Led → Prop} (hm : X.mg "enumerate" = none) (h : PD X e ρ L (fun d L1 => ∃ as G, Gl2 L1 d as G ∧ P (enumD as) G L1) R) (hg : Gl X "enumerate" := by rfl) (hs : starEach [e] X.env = [(false, eval e X.env)] := by rfl)
    (hpl : starEach [e] X.env = (false, eval e X.env) :: starEach [] X.env := by rfl) : PDI X (.Tuple elts kk tpos) (.Call (.Name "enumerate" p) [e] [] pos) ρ L P R :=
  pdi_enumA hm (h.mono fun d L1 ⟨as, G, g, q⟩ => ⟨as, G, .ls g, q⟩) hg hs hpl

/-! ### x, y = a, b -/
theorem pds_par {i j : Nat} {x y : Str} {px py pt : Pos} {kt k2 : Nat} {pt2 : Pos} (hc : X.calm = true) (hN : X.N.Nodup) (hi : X.N[i]? = some x) (hj : X.N[j]? = some y) (hij : i ≠ j) (h : PDA X [a, b] ρ L (fun ds L1 => ∃ d d', ds = [d, d'] ∧ E.nx ((ρ.set i (some d)).set j (some d')) L1) (E.ex ρ))
    (hx : X.env.scope.names.lookup x = some .local := by rfl) (hy : X.env.scope.names.lookup y = some .local := by rfl) (hw : swappedStores [.Tuple [.Name x px, .Name y py] kt pt] (.Tuple [a, b] k2 pt2) X.env = pure (some [x, y]) := by rfl)
    (hs : swapsWithSole [.Tuple [.Name x px, .Name y py] kt pt] (.Tuple [a, b] k2 pt2) pos.line X.env = pure false := by rfl) : PDS X (.Assign [.Tuple [.Name x px, .Name y py] kt pt] (.Tuple [a, b] k2 pt2) pos) E ρ L :=
  pds_of (ps_par hc hN hi hj hij hx hy pa_w hw hs) fun σ H F W A => h.step A.at fun vs H1 F1 ds L1 s1 A1 iv ⟨d, d', ed, q⟩ => by
    subst ed
    obtain ⟨v, w, rfl, i1, i2⟩ := isl2 iv
    exact ⟨v, w, rfl, F1, _, L1, s1, A1.own, (A1.env.set i1 i).set i2 j, q⟩
end
end D2
end
section
set_option Elab.async false
set_option linter.all false
set_option maxRecDepth 100000
set_option maxHeartbeats 4000000
namespace K05
open PySem PySem.Spec L2 D2
def top (i : Nat) : Stmt := PySem.Challenge.pw_justthese_k05_worlds_refused_in_order.main.body.getD i (.Pass ⟨0, 0, 0, 0⟩)
abbrev s_is_integer : Stmt := top 2
abbrev s_is_within : Stmt := top 3
abbrev s_is_row : Stmt := top 4
section
variable {P : Program} {w : World} {K : PySem.W.Frag} {mg : Str → Option Value} {base : Heap}
/-- built-in names that the text leaves alone -/
structure Txt0 (K : PySem.W.Frag) (mg : Str → Option Value) : Prop where
  isinstance : mg "isinstance" = none
  int : mg "int" = none
  bool : mg "bool" = none
  list : mg "list" = none
  tuple : mg "tuple" = none
  len : mg "len" = none
  zip : mg "zip" = none
  range : mg "range" = none
  sum : mg "sum" = none
  sorted : mg "sorted" = none
  min : mg "min" = none
  abs : mg "abs" = none
  enumerate : mg "enumerate" = none
/-- is it an int (no truth value)? -/
def isInt : D → Bool
  | .sc (.int _) => true
  | _ => false
/-- data of built-in types -/
inductive Bt (L : Led) : D → String → Prop
  | non : Bt L (.sc .non) "NoneType"
  | bl (b : Bool) : Bt L (.sc (.bl b)) "bool"
  | int (i : Int) : Bt L (.sc (.int i)) "int"
  | str (x : Str) : Bt L (.sc (.str x)) "str"
  | lst (ds : List D) : Bt L (.lst ds) "list"
  | fro (ds : List D) : Bt L (.fro ds) "list"
  | tup (ds : List D) : Bt L (.tup ds) "tuple"
  | own {p : Addr} {ds : List D} (h : (p, OD.lst ds) ∈ L) : Bt L (.sc (.ref p)) "list"
  | dic {p : Addr} (h : (p, tyOD "dict") ∈ L) : Bt L (.sc (.ref p)) "dict"
theorem Bt.tg {L : Led} {d : D} {n : String} (h : Bt L d n) : Tg K L d (.type n) := by
  cases h with
  | non => exact .non
  | bl b => exact .bl b
  | int b => exact .int b
  | str b => exact .str b
  | lst b => exact .lst b
  | fro b => exact .fro b
  | tup b => exact .tup b
  | own b => exact .own b
  | dic b => exact .oth b
def tIsInteger : Ct := fun ds L P R => ∃ d n, ds = [d] ∧ Bt L d n ∧ P (.bl (isInt d)) L
theorem sc_is_integer : FnScope ["value"] ["value"] (defScope s_is_integer) := ⟨rfl, rfl, rfl, by decide +kernel, rfl, by decide +kernel, by decide +kernel⟩
theorem ok_is_integer {f : Addr} {fd : FuncData} (F : Fun K "is_integer" "is_integer" s_is_integer f fd) (T : Txt0 K mg) : FnOk P w K mg base (L2.CX P w) 1 f fd ["value"] (spD K tIsInteger) := by
  refine fn_okD F sc_is_integer (fun ds L P R ⟨d, n, e, _⟩ => by rw [e]; rfl) fun cdv A outer s H E ds L P1 R hr ⟨d, n, e, g, h⟩ => ?_
  subst e
  refine pdb_cons (pds_ret ?_)
  refine pd_and (pd_callB T.isinstance PyProof.Rows.Boot.«isinstance» ?_)
  refine pda_cons (pd_name (i := 0) rfl rfl ?_)
  refine pda_cons (pd_bltn (u := .type "int") (v := .ty "int") T.int (by rfl) rfl ?_)
  refine pda_nil ?_
  have hb : ∀ m : String, m = "int" ∨ m = "bool" → True := fun _ _ => trivial
  have key : kitB n "int" = some (decide (n = "int" ∨ n = "bool")) ∧ kitB n "bool" = some (decide (n = "bool")) ∧ isInt d = (decide (n = "int" ∨ n = "bool") && !decide (n = "bool")) := by
    cases g <;> exact ⟨by decide +kernel, by decide +kernel, rfl⟩
  refine cd_isiC g.tg (.ty "int") (kit_ty key.1) ?_
  show if decide (n = "int" ∨ n = "bool") = true then _ else _
  by_cases c : n = "int" ∨ n = "bool"
  · rw [if_pos (decide_eq_true c)]
    refine pd_one (pd_not (pd_callB T.isinstance PyProof.Rows.Boot.«isinstance» ?_))
    refine pda_cons (pd_name (i := 0) rfl rfl ?_)
    refine pda_cons (pd_bltn (u := .type "bool") (v := .ty "bool") T.bool (by rfl) rfl ?_)
    refine pda_nil ?_
    refine cd_isiC g.tg (.ty "bool") (kit_ty key.2.1) ?_
    show P1 (.bl (!decide (n = "bool"))) L
    rw [key.2.2, decide_eq_true c] at h
    exact h
  · rw [if_neg (by rw [decide_eq_false c]; decide)]
    rw [key.2.2] at h
    rw [decide_eq_false c] at h ⊢
    exact h
end
end K05
end
section
set_option Elab.async false
set_option linter.all false
set_option maxRecDepth 100000
set_option maxHeartbeats 4000000
namespace K05
open PySem PySem.Spec L2 D2
/-- a def of the text that keeps a contract -/
def Fn (P : Program) (w : World) (K : PySem.W.Frag) (mg : Str → Option Value) (base : Heap) (x : Str) (k : Nat) (ps : List Str) (T : Ct) : Prop :=
  ∃ (f : Addr) (fd : FuncData), FnOk P w K mg base (L2.CX P w) k f fd ps (spD K T) ∧ mg x = some (.ref f) ∧ PySem.W.keepIn K (.ref f) = true ∧ Binds K fd ps []
theorem pd_fn {X : Cx} {e : Expr} {es : List Expr} {ρ : Rho} {L : Led} {P : PK1} {R : RK1} {pos p : Pos} {x : Str} {k j : Nat} {ps : List Str} {T : Ct} (G : Fn X.prog X.w X.K X.mg X.base x k ps T) (hr : Room j X.A) (hk : k ≤ j) (h : PDA X (e :: es) ρ L (fun ds L1 => T ds L1 P R) R) (hg : Gl X x := by rfl)
    (hdb : (x == ("__debug__" : Str)) = false := by decide) (he : starEach (e :: es) X.env = (false, eval e X.env) :: starEach es X.env := by rfl) (hpl : (backTo pos (starEach es X.env)).any (·.1) = false := by rfl) : PD X (.Call (.Name x p) (e :: es) [] pos) ρ L P R := by
  obtain ⟨f, fd, g1, g2, g3, g4⟩ := G
  exact pd_call g1 (hr.mono hk) g2 g3 g4 h hg hdb he hpl
def optD : Option Int → D
  | none => .non
  | some i => .int i
def within (lo hi : Option Int) : D → Bool
  | .sc (.int i) => (lo.all fun a => decide (a ≤ i)) && (hi.all fun b => decide (i ≤ b))
  | _ => false
theorem within_int {lo hi : Option Int} {i : Int} : within lo hi (.int i) = ((lo.all fun a => decide (a ≤ i)) && (hi.all fun b => decide (i ≤ b))) := rfl
theorem isInt_inv {d : D} (h : isInt d = true) : ∃ i : Int, d = .int i := by
  cases d with
  | sc v =>
    cases v with
    | int i => exact ⟨i, rfl⟩
    | _ => cases h
  | _ => cases h
theorem within_not {lo hi : Option Int} {d : D} (h : isInt d = false) : within lo hi d = false := by
  cases d with
  | sc v =>
    cases v with
    | int i => cases h
    | _ => rfl
  | _ => rfl
section
variable {P : Program} {w : World} {K : PySem.W.Frag} {mg : Str → Option Value} {base : Heap}
def tIsWithin : Ct := fun ds L P R => ∃ d n lo hi, ds = [d, optD lo, optD hi] ∧ Bt L d n ∧ P (.bl (within lo hi d)) L
theorem sc_is_within : FnScope ["value", "least", "most"] ["value", "least", "most"] (defScope s_is_within) := ⟨rfl, rfl, rfl, by decide +kernel, rfl, by decide +kernel, by decide +kernel⟩
/-- (a is None or value .. a) -/
theorem ok_is_within {f : Addr} {fd : FuncData} (F : Fun K "is_within" "is_within" s_is_within f fd) (T : Txt0 K mg) (G1 : Fn P w K mg base "is_integer" 1 ["value"] tIsInteger) : FnOk P w K mg base (L2.CX P w) 2 f fd ["value", "least", "most"] (spD K tIsWithin) := by
  refine fn_okD F sc_is_within (fun ds L P R ⟨d, n, lo, hi, e, _⟩ => by rw [e]; rfl) fun cdv A outer s H E ds L P1 R hr ⟨d, n, lo, hi, e, g, h⟩ => ?_
  subst e
  refine pdb_cons (pds_if (pdt_not (pdt_val (pd_fn G1 hr (Nat.le_refl _) (pda_cons (pd_name (i := 0) rfl rfl (pda_nil ⟨d, n, rfl, g, ?_⟩)))))))
  show if (!isInt d) = true then _ else _
  cases hi' : isInt d with
  | false =>
    rw [within_not hi'] at h
    exact pdb_cons (pds_ret (pd_bl h))
  | true =>
    obtain ⟨i, rfl⟩ := isInt_inv hi'
    rw [within_int] at h
    refine pdb_nil (pdb_cons (pds_ret ?_))
    refine pd_and (pd_or (pd_cmp (pd_name (i := 1) rfl rfl (pd_non (od_isN ?_)))))
    cases lo with
    | none =>
      refine pd_one (pd_or (pd_cmp (pd_name (i := 2) rfl rfl (pd_non (od_isN ?_)))))
      cases hi with
      | none => exact h
      | some b => exact pd_one (pd_cmp (pd_name (i := 0) rfl rfl (pd_name (i := 2) rfl rfl (od_leI h))))
    | some a =>
      refine pd_one (pd_cmp (pd_name (i := 0) rfl rfl (pd_name (i := 1) rfl rfl (od_geI ?_))))
      show if decide (a ≤ i) = true then _ else _
      by_cases c : a ≤ i
      · rw [if_pos (decide_eq_true c)]
        have h : P1 (.bl (decide (a ≤ i) && (hi.all fun b => decide (i ≤ b)))) L := h
        rw [decide_eq_true c] at h
        refine pd_one (pd_or (pd_cmp (pd_name (i := 2) rfl rfl (pd_non (od_isN ?_)))))
        cases hi with
        | none => exact h
        | some b => exact pd_one (pd_cmp (pd_name (i := 0) rfl rfl (pd_name (i := 2) rfl rfl (od_leI h))))
      · rw [if_neg (by rw [decide_eq_false c]; decide)]
        have h : P1 (.bl (decide (a ≤ i) && (hi.all fun b => decide (i ≤ b)))) L := h
        rw [decide_eq_false c] at h ⊢
        exact h

/-! ### is_row -/
/-- each of the data is an int from 0 on, below the bound -/
def cellOk (below : Option Int) : D → Bool
  | .sc (.int i) => decide (0 ≤ i) && (below.all fun b => decide (i < b))
  | _ => false
/-- what looks like a row: many ints from 0 on, below the bound -/
def rowOk (many below : Option Int) (ds : List D) : Bool := (many.all fun m => decide ((ds.length : Int) = m)) && ds.all (cellOk below)
/-- a sequence of known items, or no sequence -/
inductive Sd (L : Led) : D → Option (List D) → Prop
  | seq {d : D} {ds : List D} (h : Sq L d ds) : Sd L d (some ds)
  | no {d : D} {n : String} (h : Bt L d n) (ne : n ≠ "list" ∧ n ≠ "tuple") : Sd L d none
/-- asked of a sequence -/
def onSeq (o : Option (List D)) (f : List D → Bool) : Bool := match o with
  | none => false
  | some xs => f xs
def tIsRow : Ct := fun ds L P R => ∃ d o many below, ds = [d, optD many, optD below] ∧ Sd L d o ∧ (∀ xs, o = some xs → ∀ x ∈ xs, ∃ n, Bt L x n) ∧ P (.bl (onSeq o (rowOk many below))) L
theorem sq_bt {L : Led} {d : D} {ds : List D} (h : Sq L d ds) : ∃ n, Bt L d n ∧ (n = "list" ∨ n = "tuple") := by
  cases h with
  | lst ds => exact ⟨_, .lst ds, .inl rfl⟩
  | fro ds => exact ⟨_, .fro ds, .inl rfl⟩
  | tup ds => exact ⟨_, .tup ds, .inr rfl⟩
  | own h => exact ⟨_, .own h, .inl rfl⟩
theorem Sd.bt {L : Led} {d : D} {o : Option (List D)} (h : Sd L d o) : ∃ n, Bt L d n ∧ decide (n = "list" ∨ n = "tuple") = o.isSome := by
  cases h with
  | seq h =>
    obtain ⟨n, h1, h2⟩ := sq_bt h
    exact ⟨n, h1, decide_eq_true h2⟩
  | no h ne => exact ⟨_, h, decide_eq_false fun z => z.elim ne.1 ne.2⟩
theorem kit_lt {L : Led} {d : D} {n : String} (h : Bt L d n) : PySem.W.kitAny K (.type n) [.type "list", .type "tuple"] = some (decide (n = "list" ∨ n = "tuple")) := by
  have h1 : kitB n "list" = some (decide (n = "list")) := by cases h <;> decide +kernel
  have h2 : kitB n "tuple" = some (decide (n = "tuple")) := by cases h <;> decide +kernel
  refine kitAny_cons (kit_ty h1) (fun e => kitAny_cons (kit_ty h2) (fun e2 => ?_) fun e2 => ?_) fun e => ?_
  · have e1 := of_decide_eq_false e
    have e3 := of_decide_eq_false e2
    rw [decide_eq_false fun z => z.elim e1 e3]
    rfl
  · exact decide_eq_true (.inr (of_decide_eq_true e2))
  · exact decide_eq_true (.inl (of_decide_eq_true e))
/-- isinstance(x, (list, tuple)) of what stands in slot i -/
theorem pd_isLT {X : Cx} {ρ : Rho} {L : Led} {P : PK1} {R : RK1} {x : Str} {i : Nat} {d : D} {o : Option (List D)} {p1 p2 p3 p4 p5 pos : Pos} {k : Nat} (T : Txt0 X.K X.mg) (hN : X.N[i]? = some x) (hd : ρ[i]? = some (some d)) (s : Sd L d o) (h : P (.bl o.isSome) L)
    (g1 : Gl X "isinstance" := by rfl) (g2 : Gl X "list" := by rfl) (g3 : Gl X "tuple" := by rfl) (hv : Vis X.env.scope x := by first | exact Or.inl rfl | exact Or.inr (Or.inl rfl) | exact Or.inr (Or.inr rfl)) (hdb : (x == ("__debug__" : Str)) = false := by decide) (hcd : (x == ("__classdict__" : Str)) = false := by decide) :
    PD X (.Call (.Name "isinstance" p1) [.Name x p2, .Tuple [.Name "list" p3, .Name "tuple" p4] k p5] [] pos) ρ L P R := by
  obtain ⟨n, b, e⟩ := s.bt
  refine pd_callB T.isinstance PyProof.Rows.Boot.«isinstance» ?_ g1
  refine pda_cons (pd_name hN hd ?_ hv hdb hcd)
  refine pda_cons (pd_tup ?_)
  refine pda_cons (pd_bltn (u := .type "list") (v := .ty "list") T.list (by rfl) rfl ?_ g2)
  refine pda_cons (pd_bltn (u := .type "tuple") (v := .ty "tuple") T.tuple (by rfl) rfl ?_ g3)
  refine pda_nil ⟨by show 2 ≤ sizeLine; decide, pda_nil ?_⟩
  refine cd_isiT (cs := [.ty "list", .ty "tuple"]) (us := [.type "list", .type "tuple"]) b.tg (.cons (.ty _) (.cons (.ty _) .nil)) (kit_lt b) ?_
  rw [e]
  exact h
theorem cell_of {L : Led} {d : D} {n : String} (b : Bt L d n) {below : Option Int} : cellOk below d = true → isInt d = true := by
  cases b with
  | int i => intro _; rfl
  | _ => intro h; cases h
theorem sc_is_row : FnScope ["value", "many", "below", "part"] ["value", "many", "below"] (defScope s_is_row) := ⟨rfl, rfl, rfl, by decide +kernel, rfl, by decide +kernel, by decide +kernel⟩
theorem Bt.sub {L G L' : Led} {d : D} {n : String} (h : Bt L d n) (hs : SubL L L') : Bt L' d n := by
  cases h with
  | non => exact .non
  | bl b => exact .bl b
  | int b => exact .int b
  | str b => exact .str b
  | lst b => exact .lst b
  | fro b => exact .fro b
  | tup b => exact .tup b
  | own b => exact .own (hs _ b)
  | dic b => exact .dic (hs _ b)
theorem rowOk_false {many below : Option Int} {ds : List D} {i : Nat} {d : D} (h : ds[i]? = some d) (c : cellOk below d = false) : rowOk many below ds = false := by
  unfold rowOk
  rw [Bool.and_eq_false_iff]
  refine .inr (List.all_eq_false.mpr ⟨d, List.mem_of_getElem? h, by rw [c]; decide⟩)
theorem ok_is_row {f : Addr} {fd : FuncData} (F : Fun K "is_row" "is_row" s_is_row f fd) (T : Txt0 K mg) (G1 : Fn P w K mg base "is_integer" 1 ["value"] tIsInteger) : FnOk P w K mg base (L2.CX P w) 2 f fd ["value", "many", "below"] (spD K tIsRow) := by
  refine fn_okD F sc_is_row (fun ds L P R ⟨d, o, m, b, e, _⟩ => by rw [e]; rfl) fun cdv A outer s H E ds L P1 R hr ⟨d, o, many, below, e, sd, all, h⟩ => ?_
  subst e
  refine pdb_cons (pds_ifB (t := !o.isSome) (pdt_notB (pdt_valB (pd_isLT (i := 0) T rfl rfl sd ⟨rfl, rfl⟩))) (fun ht => ?_) fun ht => ?_)
  · cases o with
    | none => exact pdb_cons (pds_ret (pd_bl h))
    | some xs => cases ht
  cases sd with
  | no hb ne => cases ht
  | seq sq =>
    rename_i xs
    have h : P1 (.bl (rowOk many below xs)) L := h
    have all := all xs rfl
    refine pdb_nil (pdb_cons (pds_ifB (t := !(many.all fun m => decide ((xs.length : Int) = m))) ?_ (fun ht => ?_) fun ht => ?_))
    · refine (pdt_andB (t := many.isSome) (u := !(many.all fun m => decide ((xs.length : Int) = m))) (pdt_cmp (pd_name (i := 1) rfl rfl (pd_non (od_notN ⟨_, rfl, ?_, rfl⟩)))) fun hs => ?_).eqB ?_
      · cases many <;> rfl
      · cases many with
        | none => cases hs
        | some m =>
          refine pdt_and1 (pdt_cmp (pd_callB T.len PySem.boot_len (pda_cons (pd_name (i := 0) rfl rfl (pda_nil (cd_len sq (pd_name (i := 1) rfl rfl (od_neS rfl ⟨_, rfl, ?_, rfl⟩))))))))
          show (!decide (V.int (xs.length : Int) = V.int m)) = !decide ((xs.length : Int) = m)
          rw [decide_eq_decide.mpr ⟨fun z => by injection z, fun z => by rw [z]⟩]
      · cases many <;> rfl
    · refine pdb_cons (pds_ret (pd_bl ?_))
      have hm : (many.all fun m => decide ((xs.length : Int) = m)) = false := by simpa using ht
      unfold rowOk at h
      rw [hm] at h
      exact h
    have hm : (many.all fun m => decide ((xs.length : Int) = m)) = true := by simpa using ht
    obtain ⟨G, gd⟩ := sq.gd
    refine pdb_nil (pdb_cons (pds_for rfl PassesOwn.leaving (pdi_seq gd (pd_name (i := 0) rfl rfl ⟨rfl, rfl⟩) ?_)))
    refine ⟨fun i ρ L2 => L2 = L ∧ (∃ z, ρ = [some d, some (optD many), some (optD below), z]) ∧ (xs.take i).all (cellOk below) = true, ⟨rfl, ⟨none, rfl⟩, rfl⟩, fun i ρ L2 ⟨e, _⟩ => by rw [e]; exact gd.sub, ?_, ?_⟩
    · rintro i x ρ1 L2 hx ⟨rfl, ⟨z, rfl⟩, acc⟩
      obtain ⟨n, bx⟩ := all x (List.mem_of_getElem? hx)
      refine pgd_name (i := 3) sc_is_row.nd rfl ?_
      refine pdb_cons (pds_ifB (t := !cellOk below x) ?_ (fun hc => ?_) fun hc => ?_)
      · refine (pdt_orB (t := !isInt x) (u := !cellOk below x) (pdt_notB (pdt_valB (pd_fn G1 hr (Nat.le_refl _) (pda_cons (pd_name (i := 3) rfl rfl (pda_nil ⟨x, n, rfl, bx, rfl, rfl⟩)))))) fun hi => ?_).eqB ?_
        · obtain ⟨j, rfl⟩ := isInt_inv (show isInt x = true by simpa using hi)
          refine (pdt_orB (t := decide (j < 0)) (u := !cellOk below (.int j)) (pdt_cmp (pd_name (i := 3) rfl rfl (pd_int (od_ltI ⟨_, rfl, rfl, rfl⟩)))) fun h0 => ?_).eqB ?_
          · have h0 : ¬ j < 0 := of_decide_eq_false h0
            refine pdt_or1 ((pdt_andB (t := below.isSome) (u := !cellOk below (.int j)) (pdt_cmp (pd_name (i := 2) rfl rfl (pd_non (od_notN ⟨_, rfl, ?_, rfl⟩)))) fun hb => ?_).eqB ?_)
            · cases below <;> rfl
            · cases below with
              | none => cases hb
              | some b =>
                refine pdt_and1 (pdt_cmp (pd_name (i := 3) rfl rfl (pd_name (i := 2) rfl rfl (od_geI ⟨_, rfl, ?_, rfl⟩))))
                show decide (b ≤ j) = !(decide (0 ≤ j) && decide (j < b))
                by_cases c : b ≤ j
                · rw [decide_eq_true c, decide_eq_false (show ¬ j < b by omega), Bool.and_false]
                  rfl
                · rw [decide_eq_false c, decide_eq_true (show j < b by omega), decide_eq_true (show 0 ≤ j by omega)]
                  rfl
            · cases below with
              | none =>
                show false = !(decide (0 ≤ j) && true)
                rw [decide_eq_true (show 0 ≤ j by omega)]
                rfl
              | some b => rfl
          · by_cases c : j < 0
            · rw [decide_eq_true c]
              show true = !(decide (0 ≤ j) && _)
              rw [decide_eq_false (show ¬ 0 ≤ j by omega)]
              rfl
            · rw [decide_eq_false c]
              rfl
        · cases hc : isInt x with
          | true => rfl
          | false =>
            cases hk : cellOk below x with
            | false => rfl
            | true => rw [cell_of bx hk] at hc; cases hc
      · refine pdb_cons (pds_ret (pd_bl ?_))
        rw [rowOk_false hx (by simpa using hc)] at h
        exact h
      · refine pdb_nil (pdb_nil ⟨rfl, ⟨_, rfl⟩, ?_⟩)
        rw [take_next hx, List.all_append, acc]
        simpa using hc
    · rintro ρ1 L2 ⟨rfl, ⟨z, rfl⟩, acc⟩
      rw [List.take_length] at acc
      refine pdb_cons (pds_ret (pd_bl ?_))
      unfold rowOk at h
      rw [hm, acc] at h
      exact h
end
end K05
end
section
set_option Elab.async false
set_option linter.all false
set_option maxRecDepth 100000
set_option maxHeartbeats 4000000
namespace K05
open PySem PySem.Spec L2 D2
abbrev s_are_lengths : Stmt := top 17
abbrev s_are_rows : Stmt := top 18
abbrev s_World : Stmt := top 19
abbrev s_init : Stmt := inClass s_World 0
abbrev s_len : Stmt := inClass s_World 1
abbrev s_eq : Stmt := inClass s_World 2
example : defBody s_are_lengths ≠ [] := by decide +kernel
example : defBody s_are_rows ≠ [] := by decide +kernel
example : defBody s_init ≠ [] := by decide +kernel
example : (defBody s_eq).length = 2 := by decide +kernel
section
variable {P : Program} {w : World} {K : PySem.W.Frag} {mg : Str → Option Value} {base : Heap}
/-- the module's numbers -/
structure TxtN (mg : Str → Option Value) : Prop where
  places : ∃ t, mg "MOST_PLACES" = some (.int 600 t)
  rows : ∃ t, mg "MOST_ROWS" = some (.int 1000 t)
  rels : ∃ t, mg "MOST_RELATIONS" = some (.int 80 t)
  len : ∃ t, mg "MOST_LENGTH" = some (.int 8 t)
def lenOk (ds : List D) : Bool := decide (ds.length ≤ 80) && ds.all (within (some 1) (some 8))
def tAreLengths : Ct := fun ds L P R => ∃ d o, ds = [d] ∧ Sd L d o ∧ (∀ xs, o = some xs → ∀ x ∈ xs, ∃ n, Bt L x n) ∧ P (.bl (onSeq o lenOk)) L
theorem sc_are_lengths : FnScope ["value", "length"] ["value"] (defScope s_are_lengths) := ⟨rfl, rfl, rfl, by decide +kernel, rfl, by decide +kernel, by decide +kernel⟩
theorem all_false {ds : List D} {f : D → Bool} {i : Nat} {d : D} (h : ds[i]? = some d) (c : f d = false) : ds.all f = false := List.all_eq_false.mpr ⟨d, List.mem_of_getElem? h, by rw [c]; decide⟩
theorem ok_are_lengths {f : Addr} {fd : FuncData} (F : Fun K "are_lengths" "are_lengths" s_are_lengths f fd) (T : Txt0 K mg) (N : TxtN mg) (G2 : Fn P w K mg base "is_within" 2 ["value", "least", "most"] tIsWithin) : FnOk P w K mg base (L2.CX P w) 3 f fd ["value"] (spD K tAreLengths) := by
  refine fn_okD F sc_are_lengths (fun ds L P R ⟨d, o, e, _⟩ => by rw [e]; rfl) fun cdv A outer s H E ds L P1 R hr ⟨d, o, e, sd, all, h⟩ => ?_
  subst e
  obtain ⟨t1, n1⟩ := N.rels
  obtain ⟨t2, n2⟩ := N.len
  refine pdb_cons (pds_ifB (t := match o with | none => true | some xs => !decide (xs.length ≤ 80)) ?_ (fun ht => ?_) fun ht => ?_)
  · refine (pdt_orB (t := !o.isSome) (u := match o with | none => true | some xs => !decide (xs.length ≤ 80)) (pdt_notB (pdt_valB (pd_isLT (i := 0) T rfl rfl sd ⟨rfl, rfl⟩))) fun hs => ?_).eqB ?_
    · cases sd with
      | no _ _ => cases hs
      | seq sq =>
        rename_i xs
        refine pdt_or1 (pdt_cmp (pd_callB T.len PySem.boot_len (pda_cons (pd_name (i := 0) rfl rfl (pda_nil (cd_len sq (pd_globI n1 (od_gtI ⟨_, rfl, ?_, rfl⟩))))))))
        show decide ((80 : Int) < (xs.length : Int)) = !decide (xs.length ≤ 80)
        by_cases c : xs.length ≤ 80
        · rw [decide_eq_true c, decide_eq_false (by omega)]; rfl
        · rw [decide_eq_false c, decide_eq_true (by omega)]; rfl
    · cases o <;> simp
  · refine pdb_cons (pds_ret (pd_bl ?_))
    cases o with
    | none => exact h
    | some xs =>
      have e : lenOk xs = false := by
        unfold lenOk
        have : decide (xs.length ≤ 80) = false := by simpa using ht
        rw [this]; rfl
      have h : P1 (.bl (lenOk xs)) L := h
      rw [e] at h
      exact h
  cases sd with
  | no _ _ => cases ht
  | seq sq =>
    rename_i xs
    have hl : decide (xs.length ≤ 80) = true := by simpa using ht
    have h : P1 (.bl (lenOk xs)) L := h
    unfold lenOk at h
    rw [hl, Bool.true_and] at h
    obtain ⟨G, gd⟩ := sq.gd
    refine pdb_nil (pdb_cons (pds_for rfl PassesOwn.leaving (pdi_seq gd (pd_name (i := 0) rfl rfl ⟨rfl, rfl⟩) ?_)))
    refine ⟨fun i ρ L2 => L2 = L ∧ (∃ z, ρ = [some d, z]) ∧ (xs.take i).all (within (some 1) (some 8)) = true, ⟨rfl, ⟨none, rfl⟩, rfl⟩, fun i ρ L2 ⟨e, _⟩ => by rw [e]; exact gd.sub, ?_, ?_⟩
    · rintro i x ρ1 L2 hx ⟨rfl, ⟨z, rfl⟩, acc⟩
      obtain ⟨n, bx⟩ := all xs rfl x (List.mem_of_getElem? hx)
      refine pgd_name (i := 1) sc_are_lengths.nd rfl ?_
      refine pdb_cons (pds_ifB (pdt_notB (t := within (some 1) (some 8) x) (pdt_valB (pd_fn G2 hr (Nat.le_refl _) (pda_cons (pd_name (i := 1) rfl rfl (pda_cons (pd_int (pda_cons (pd_globI n2 (pda_nil ⟨x, n, some 1, some 8, rfl, bx, rfl, rfl⟩)))))))))) (fun hc => ?_) fun hc => ?_)
      · refine pdb_cons (pds_ret (pd_bl ?_))
        rw [all_false hx (by simpa using hc)] at h
        exact h
      · refine pdb_nil (pdb_nil ⟨rfl, ⟨_, rfl⟩, ?_⟩)
        rw [take_next hx, List.all_append, acc]
        simpa using hc
    · rintro ρ1 L2 ⟨rfl, ⟨z, rfl⟩, acc⟩
      rw [List.take_length] at acc
      rw [acc] at h
      exact pdb_cons (pds_ret (pd_bl h))

/-! ### are_rows -/
/-- what a part looks like from outside: its rows, each with its cells -/
def SdAll (L : Led) (ds : List D) (os : List (Option (List D))) : Prop := Paired (Sd L) ds os
/-- a told part: none, or rows of which each is none or cells -/
structure PartD where
  d : D
  o : Option (List (D × Option (List D)))
structure PartOk (L : Led) (p : PartD) : Prop where
  sd : Sd L p.d (p.o.map fun rs => rs.map (·.1))
  rows : ∀ rs, p.o = some rs → ∀ r ∈ rs, Sd L r.1 r.2 ∧ ∀ xs, r.2 = some xs → ∀ x ∈ xs, ∃ n, Bt L x n
def partOk (len many : Int) (p : PartD) : Bool := match p.o with
  | none => false
  | some rs => rs.all fun r => onSeq r.2 (rowOk (some len) (some many))
def rowsOk (lens : List Int) (many : Int) (ps : List PartD) : Bool := decide (ps.length = lens.length) && (lens.zip ps).all fun q => partOk q.1 many q.2
/-- how rows are told -/
def RowsD (L : Led) (dl : D) (lens : List Int) (d : D) : Option (List PartD) → Prop
  | none => Sd L d none
  | some ps => (∃ G, Zp L dl d (lens.map D.int) (ps.map PartD.d) G ∧ Sq L d (ps.map PartD.d)) ∧ ∀ p ∈ ps, PartOk L p
def onParts (o : Option (List PartD)) (f : List PartD → Bool) : Bool := match o with
  | none => false
  | some ps => f ps
def tAreRows : Ct := fun ds L P R => ∃ dl lens many d o, ds = [dl, .int many, d] ∧ Sq L dl (lens.map D.int) ∧ (∀ n : Int, n ∈ lens → 0 ≤ n) ∧
  RowsD L dl lens d o ∧ P (.bl (onParts o (rowsOk lens many))) L
theorem sc_are_rows : FnScope ["lengths", "many", "value", "length", "part", "row"] ["lengths", "many", "value"] (defScope s_are_rows) := ⟨rfl, rfl, rfl, by decide +kernel, rfl, by decide +kernel, by decide +kernel⟩
theorem zp_sub {L G : Led} {d d' : D} {as bs : List D} (z : Zp L d d' as bs G) : SubL G L := z.subG
theorem PartOk.sub {L L' : Led} {p : PartD} (h : PartOk L p) (e : L = L') : PartOk L' p := e ▸ h
theorem ok_are_rows {f : Addr} {fd : FuncData} (F : Fun K "are_rows" "are_rows" s_are_rows f fd) (T : Txt0 K mg) (G3 : Fn P w K mg base "is_row" 2 ["value", "many", "below"] tIsRow) : FnOk P w K mg base (L2.CX P w) 3 f fd ["lengths", "many", "value"] (spD K tAreRows) := by
  refine fn_okD F sc_are_rows (fun ds L P R ⟨dl, lens, many, d, o, e, _⟩ => by rw [e]; rfl) fun cdv A outer s H E ds L P1 R hr ⟨dl, lens, many, d, o, e, sl, hpos, ho, h⟩ => ?_
  subst e
  have sd : Sd L d (o.map fun ps => ps.map PartD.d) := by
    cases o with
    | none => exact ho
    | some ps => obtain ⟨⟨G, z, sq⟩, _⟩ := ho; exact .seq sq
  refine pdb_cons (pds_ifB (t := match o with | none => true | some ps => !decide (ps.length = lens.length)) ?_ (fun ht => ?_) fun ht => ?_)
  · refine (pdt_orB (t := !(o.map fun ps => ps.map PartD.d).isSome) (u := match o with | none => true | some ps => !decide (ps.length = lens.length)) (pdt_notB (pdt_valB (pd_isLT (i := 2) T rfl rfl sd ⟨rfl, rfl⟩))) fun hs => ?_).eqB ?_
    · cases o with
      | none => cases hs
      | some ps =>
        obtain ⟨⟨G, z, sq⟩, _⟩ := ho
        refine pdt_or1 (pdt_cmp (pd_callB T.len PySem.boot_len (pda_cons (pd_name (i := 2) rfl rfl (pda_nil (cd_len sq (pd_callB T.len PySem.boot_len (pda_cons (pd_name (i := 0) rfl rfl (pda_nil (cd_len sl (od_neS rfl ⟨_, rfl, ?_, rfl⟩))))))))))))
        show (!decide (V.int ((ps.map PartD.d).length : Int) = V.int ((lens.map D.int).length : Int))) = !decide (ps.length = lens.length)
        rw [List.length_map, List.length_map]
        exact congrArg _ (decide_eq_decide.mpr ⟨fun z => by injection z with z; omega, fun z => by rw [z]⟩)
    · cases o <;> simp
  · refine pdb_cons (pds_ret (pd_bl ?_))
    cases o with
    | none => exact h
    | some ps =>
      have e : rowsOk lens many ps = false := by
        unfold rowsOk
        have : decide (ps.length = lens.length) = false := by simpa using ht
        rw [this]; rfl
      have h : P1 (.bl (rowsOk lens many ps)) L := h
      rw [e] at h
      exact h
  cases o with
  | none => cases ht
  | some ps =>
    have hl : decide (ps.length = lens.length) = true := by simpa using ht
    have h : P1 (.bl (rowsOk lens many ps)) L := h
    unfold rowsOk at h
    rw [hl, Bool.true_and] at h
    obtain ⟨⟨G, z, sq⟩, hps⟩ := ho
    refine pdb_nil (pdb_cons (pds_for rfl PassesOwn.leaving (pdi_zip T.zip (pda_cons (pd_name (i := 0) rfl rfl (pda_cons (pd_name (i := 2) rfl rfl (pda_nil ⟨dl, d, _, _, G, rfl, z, ?_⟩)))))))) 
    refine ⟨fun i ρ L2 => L2 = L ∧ (∃ a b c, ρ = [some dl, some (.int many), some d, a, b, c]) ∧ ((lens.zip ps).take i).all (fun q => partOk q.1 many q.2) = true, ⟨rfl, ⟨none, none, none, rfl⟩, rfl⟩, fun i ρ L2 ⟨e, _⟩ => by rw [e]; exact zp_sub z, ?_, ?_⟩
    · rintro i x ρ1 L2 hx ⟨rfl, ⟨a, b, c, rfl⟩, acc⟩
      obtain ⟨dx, dy, g1, g2, rfl⟩ := zipD_get hx
      obtain ⟨n, hn, rfl⟩ : ∃ n, lens[i]? = some n ∧ D.int n = dx := by simpa [List.getElem?_map] using g1
      obtain ⟨p, hp, rfl⟩ : ∃ p, ps[i]? = some p ∧ p.d = dy := by simpa [List.getElem?_map] using g2
      have hz : (lens.zip ps)[i]? = some (n, p) := List.getElem?_zip_eq_some.mpr ⟨hn, hp⟩
      have pk := hps p (List.mem_of_getElem? hp)
      refine pgd_tup rfl (pgds_cons (pgd_name (i := 3) sc_are_rows.nd rfl (pgds_cons (pgd_name (i := 4) sc_are_rows.nd rfl (pgds_nil ?_)))))
      have bad : partOk n many p = false → P1 (.bl false) L2 := fun hb => by
        rw [List.all_eq_false.mpr ⟨(n, p), List.mem_of_getElem? hz, by simp [hb]⟩] at h
        exact h
      refine pdb_cons (pds_ifB (pdt_notB (pdt_valB (pd_isLT (i := 4) T rfl rfl pk.sd ⟨rfl, rfl⟩))) (fun hc => ?_) fun hc => ?_)
      · refine pdb_cons (pds_ret (pd_bl (bad ?_)))
        unfold partOk
        cases e : p.o with
        | none => rfl
        | some rs => rw [e] at hc; cases hc
      · cases e : p.o with
        | none => rw [e] at hc; cases hc
        | some rs =>
          have psd := pk.sd
          rw [e] at psd
          have prow := pk.rows rs e
          cases psd with
          | seq sq2 =>
            obtain ⟨G2, gd2⟩ := sq2.gd
            refine pdb_nil (pdb_cons (pds_for rfl PassesOwn.leaving (pdi_seq gd2 (pd_name (i := 4) rfl rfl ⟨rfl, rfl⟩) ?_)))
            refine ⟨fun j ρ L3 => L3 = L2 ∧ (∃ c, ρ = [some dl, some (.int many), some d, some (.int n), some p.d, c]) ∧ (rs.take j).all (fun r => onSeq r.2 (rowOk (some n) (some many))) = true, ⟨rfl, ⟨_, rfl⟩, rfl⟩, fun j ρ L3 ⟨e, _⟩ => by rw [e]; exact gd2.sub, ?_, ?_⟩
            · rintro j y ρ2 L3 hy ⟨rfl, ⟨c', rfl⟩, acc2⟩
              obtain ⟨r, hr1, rfl⟩ : ∃ r, rs[j]? = some r ∧ r.1 = y := by simpa [List.getElem?_map] using hy
              obtain ⟨rsd, rall⟩ := prow r (List.mem_of_getElem? hr1)
              refine pgd_name (i := 5) sc_are_rows.nd rfl ?_
              refine pdb_cons (pds_ifB (pdt_notB (pdt_valB (pd_fn G3 hr (Nat.le_refl _) (pda_cons (pd_name (i := 5) rfl rfl (pda_cons (pd_name (i := 3) rfl rfl (pda_cons (pd_name (i := 1) rfl rfl (pda_nil ⟨r.1, r.2, some n, some many, rfl, rsd, rall, rfl, rfl⟩)))))))))) (fun hc => ?_) fun hc => ?_)
              · refine pdb_cons (pds_ret (pd_bl (bad ?_)))
                unfold partOk
                rw [e]
                exact List.all_eq_false.mpr ⟨r, List.mem_of_getElem? hr1, by
                  have hc : onSeq r.2 (rowOk (some n) (some many)) = false := by simpa using hc
                  rw [hc]; decide⟩
              · refine pdb_nil (pdb_nil ⟨rfl, ⟨_, rfl⟩, ?_⟩)
                rw [take_next hr1, List.all_append, acc2]
                simpa using hc
            · rintro ρ2 L3 ⟨rfl, ⟨c', rfl⟩, acc2⟩
              rw [List.length_map, List.take_length] at acc2
              refine pdb_nil ⟨rfl, ⟨_, _, _, rfl⟩, ?_⟩
              rw [take_next hz, List.all_append, acc]
              have : partOk n many p = true := by
                unfold partOk
                rw [e]
                exact acc2
              simp [this]
    · rintro ρ1 L2 ⟨rfl, ⟨a, b, c, rfl⟩, acc⟩
      have e1 : (zipD (lens.map D.int) (ps.map PartD.d)).length = (lens.zip ps).length := by
        unfold zipD
        rw [List.length_zipWith, List.length_zip, List.length_map, List.length_map]
      rw [e1, List.take_length] at acc
      rw [acc] at h
      exact pdb_cons (pds_ret (pd_bl h))
end
end K05
end
section
set_option Elab.async false
set_option linter.all false
set_option maxRecDepth 100000
set_option maxHeartbeats 2000000
namespace D2
open PySem PySem.Spec L2
section
variable {X : Cx} {elt : Expr} {ifs : List Expr} {scope : Scope} {vs : List Nat} {ρ : Rho} {ds : List D} {G L : Led} {P : PK1} {g : TG}
/-- [.. for x in ds]: the items ys, the ledger as it was -/
theorem lc_items (ys : List D) (hy : ys.length = ds.length) (hG : SubL G L) (hl : ds.length ≤ sizeLine)
    (h : ∀ (i : Nat) (d y : D), ds[i]? = some d → ys[i]? = some y → ∃ us, GD X.K g d us ∧ (∀ u ∈ us, u.1 ∈ vs) ∧ ∀ Y p acc, Blk X scope Y → PD Y elt (setsD (wipeD ρ vs) us) ((p, .lst acc) :: L) (fun y' L6 => y' = y ∧ Lw L6 ((p, .lst acc) :: L)) noR) (q : ∀ p, P (.ref p) ((p, .lst ys) :: L)) : LcD X g elt [] scope vs ρ ds G L P := by
  refine ⟨fun i acc L2 => L2 = L ∧ acc = ys.take i, ⟨rfl, rfl⟩, fun i acc L2 ⟨e, _⟩ => by rw [e]; exact hG, fun i d acc L2 hd ⟨e1, e2⟩ => ?_, fun acc L2 ⟨e1, e2⟩ p => ?_⟩
  · subst e1
    have hi := (List.getElem?_eq_some_iff.mp hd).1
    have hyi : ys[i]? = some ys[i] := List.getElem?_eq_getElem (by omega)
    obtain ⟨us, h1, h2, h3⟩ := h i d _ hd hyi
    refine ⟨us, true, h1, h2, fun Y p b => ⟨rfl, rfl⟩, ?_⟩
    show ∀ Y p, Blk X scope Y → _
    intro Y p b
    refine (h3 Y p acc b).mono fun y L6 ⟨ey, lw⟩ => ⟨L2, lw, ?_, rfl, ?_⟩
    · rw [e2, List.length_take]
      omega
    · rw [e2, ey, take_next hyi]
  · subst e1 e2
    rw [← hy, List.take_length]
    exact q p
/-- [f(x) for x in ds], the ledger as it was -/
theorem lc_map (f : D → D) (hG : SubL G L) (hl : ds.length ≤ sizeLine)
    (h : ∀ (i : Nat) (d : D), ds[i]? = some d → ∃ us, GD X.K g d us ∧ (∀ u ∈ us, u.1 ∈ vs) ∧ ∀ Y p acc, Blk X scope Y → PD Y elt (setsD (wipeD ρ vs) us) ((p, .lst acc) :: L) (fun y L6 => y = f d ∧ Lw L6 ((p, .lst acc) :: L)) noR) (q : ∀ p, P (.ref p) ((p, .lst (ds.map f)) :: L)) : LcD X g elt [] scope vs ρ ds G L P :=
  lc_items (ds.map f) (List.length_map _) hG hl (fun i d y hd hy => by
    rw [List.getElem?_map, hd] at hy
    have e : y = f d := (Option.some.inj hy).symm
    rw [e]
    exact h i d hd) q
/-- .. frozen at once -/
def frzK (P : PK1) : PK1 := fun d L1 => ∃ p ds L2, d = .ref p ∧ Take p (.lst ds) L1 L2 ∧ P (.lst ds) L2
theorem lc_mapF (f : D → D) (hG : SubL G L) (hl : ds.length ≤ sizeLine)
    (h : ∀ (i : Nat) (d : D), ds[i]? = some d → ∃ us, GD X.K g d us ∧ (∀ u ∈ us, u.1 ∈ vs) ∧ ∀ Y p acc, Blk X scope Y → PD Y elt (setsD (wipeD ρ vs) us) ((p, .lst acc) :: L) (fun y L6 => y = f d ∧ Lw L6 ((p, .lst acc) :: L)) noR) (q : P (.lst (ds.map f)) L) : LcD X g elt [] scope vs ρ ds G L (frzK P) :=
  lc_map f hG hl h fun p => ⟨p, _, L, rfl, .here, q⟩
theorem lc_itemsF (ys : List D) (hy : ys.length = ds.length) (hG : SubL G L) (hl : ds.length ≤ sizeLine)
    (h : ∀ (i : Nat) (d y : D), ds[i]? = some d → ys[i]? = some y → ∃ us, GD X.K g d us ∧ (∀ u ∈ us, u.1 ∈ vs) ∧ ∀ Y p acc, Blk X scope Y → PD Y elt (setsD (wipeD ρ vs) us) ((p, .lst acc) :: L) (fun y' L6 => y' = y ∧ Lw L6 ((p, .lst acc) :: L)) noR) (q : P (.lst ys) L) : LcD X g elt [] scope vs ρ ds G L (frzK P) :=
  lc_items ys hy hG hl h fun p => ⟨p, _, L, rfl, .here, q⟩
/-- draws and the like: the i-th item is what Step leaves, the ledger moves along -/
theorem lc_step (J : Nat → Led → Prop) (Q : D → Prop) (h0 : J 0 L) (hG : ∀ i L2, J i L2 → SubL G L2) (hl : ds.length ≤ sizeLine)
    (h : ∀ (i : Nat) (d : D) (L2 : Led), ds[i]? = some d → J i L2 → ∃ us, GD X.K g d us ∧ (∀ u ∈ us, u.1 ∈ vs) ∧ ∀ Y p acc, Blk X scope Y → PD Y elt (setsD (wipeD ρ vs) us) ((p, .lst acc) :: L2) (fun y L6 => Q y ∧ ∃ L7, Lw L6 ((p, .lst acc) :: L7) ∧ J (i + 1) L7) noR)
    (q : ∀ acc L2, acc.length = ds.length → (∀ y ∈ acc, Q y) → J ds.length L2 → ∀ p, P (.ref p) ((p, .lst acc) :: L2)) : LcD X g elt [] scope vs ρ ds G L P := by
  refine ⟨fun i acc L2 => J i L2 ∧ acc.length = min i ds.length ∧ ∀ y ∈ acc, Q y, ⟨h0, by simp, fun y hy => nomatch hy⟩, fun i acc L2 ⟨e, _⟩ => hG i L2 e, fun i d acc L2 hd ⟨e1, e2, e3⟩ => ?_, fun acc L2 ⟨e1, e2, e3⟩ p => q acc L2 (by omega) e3 e1 p⟩
  obtain ⟨us, h1, h2, h3⟩ := h i d L2 hd e1
  have hi := (List.getElem?_eq_some_iff.mp hd).1
  refine ⟨us, true, h1, h2, fun Y p b => ⟨rfl, rfl⟩, ?_⟩
  show ∀ Y p, Blk X scope Y → _
  intro Y p b
  refine (h3 Y p acc b).mono fun y L6 ⟨qy, L7, lw, j⟩ => ⟨L7, lw, by omega, j, ?_, fun z hz => ?_⟩
  · rw [List.length_append, e2]
    show min i ds.length + 1 = min (i + 1) ds.length
    omega
  · rcases List.mem_append.mp hz with k | k
    · exact e3 z k
    · rw [List.mem_singleton.mp k]; exact qy
/-- [x for x in ds if test(x)] -/
theorem lc_filter {c : Expr} (f : D → D) (t : D → Bool) (hG : SubL G L) (hl : ds.length ≤ sizeLine)
    (h : ∀ (i : Nat) (d : D), ds[i]? = some d → ∃ us, GD X.K g d us ∧ (∀ u ∈ us, u.1 ∈ vs) ∧ (∀ Y p acc, Blk X scope Y → PDT Y c (setsD (wipeD ρ vs) us) ((p, .lst acc) :: L) (fun b L4 => b = t d ∧ L4 = (p, .lst acc) :: L) noR) ∧
      (t d = true → ∀ Y p acc, Blk X scope Y → PD Y elt (setsD (wipeD ρ vs) us) ((p, .lst acc) :: L) (fun y L6 => y = f d ∧ Lw L6 ((p, .lst acc) :: L)) noR)) (q : ∀ p, P (.ref p) ((p, .lst ((ds.filter t).map f)) :: L)) : LcD X g elt [c] scope vs ρ ds G L P := by
  refine ⟨fun i acc L2 => L2 = L ∧ acc = ((ds.take i).filter t).map f, ⟨rfl, rfl⟩, fun i acc L2 ⟨e, _⟩ => by rw [e]; exact hG, fun i d acc L2 hd ⟨e1, e2⟩ => ?_, fun acc L2 ⟨e1, e2⟩ p => ?_⟩
  · subst e1
    obtain ⟨us, h1, h2, h3, h4⟩ := h i d hd
    refine ⟨us, t d, h1, h2, fun Y p b => h3 Y p acc b, ?_⟩
    cases ht : t d with
    | true =>
      show ∀ Y p, Blk X scope Y → _
      intro Y p b
      refine (h4 ht Y p acc b).mono fun y L6 ⟨ey, lw⟩ => ⟨L2, lw, ?_, rfl, ?_⟩
      · rw [e2, List.length_map]
        have l1 := List.length_filter_le t (ds.take i)
        rw [List.length_take] at l1
        have := (List.getElem?_eq_some_iff.mp hd).1
        omega
      · rw [e2, ey, take_next hd, List.filter_append, List.map_append]
        simp [ht]
    | false =>
      show L2 = L2 ∧ acc = ((ds.take (i + 1)).filter t).map f
      refine ⟨rfl, ?_⟩
      rw [e2, take_next hd, List.filter_append]
      simp [ht]
  · subst e1 e2
    rw [List.take_length]
    exact q p
/-- {.. for x in ds}: the rows ks -/
theorem sc_items (ks : List Row) (hk : ks.length = ds.length) (hG : SubL G L) (hl : ds.length ≤ 1228)
    (h : ∀ (i : Nat) (d : D) (k : Row), ds[i]? = some d → ks[i]? = some k → ∃ us, GD X.K g d us ∧ (∀ u ∈ us, u.1 ∈ vs) ∧ ∀ Y p acc, Blk X scope Y → PD Y elt (setsD (wipeD ρ vs) us) ((p, setOD X.K X.prog X.w p acc) :: L) (fun y L6 => y = rowD k ∧ Lw L6 ((p, setOD X.K X.prog X.w p acc) :: L)) noR) (q : ∀ p, P (.ref p) ((p, setOD X.K X.prog X.w p ks) :: L)) : ScD X g elt [] scope vs ρ ds G L P := by
  refine ⟨fun i acc L2 => L2 = L ∧ acc = ks.take i, ⟨rfl, rfl⟩, fun i acc L2 ⟨e, _⟩ => by rw [e]; exact hG, fun i d acc L2 hd ⟨e1, e2⟩ => ?_, fun acc L2 ⟨e1, e2⟩ p => ?_⟩
  · subst e1
    have hi := (List.getElem?_eq_some_iff.mp hd).1
    have hki : ks[i]? = some ks[i] := List.getElem?_eq_getElem (by omega)
    obtain ⟨us, h1, h2, h3⟩ := h i d _ hd hki
    refine ⟨us, true, h1, h2, fun Y p b => ⟨rfl, rfl⟩, ?_⟩
    show ∀ Y p, Blk X scope Y → _
    intro Y p b
    refine (h3 Y p acc b).mono fun y L6 ⟨ey, lw⟩ => ⟨ks[i], L2, ey, lw, ?_, rfl, ?_⟩
    · rw [e2, List.length_take]
      omega
    · rw [e2, take_next hki]
  · subst e1 e2
    rw [← hk, List.take_length]
    exact q p
section
variable {X : Cx} {ρ : Rho} {L : Led} {P : PK1} {R : RK1} {E : DE} {pos : Pos}
theorem pd_lcF {tg iter elt : Expr} {ifs : List Expr} {scope : Scope} {own : List (Str × Nat)} {g : TG} (hc : X.calm = true) (hN : X.N.Nodup) (ok : BlkOk X.N X.env.scope scope own)
    (hg : ∀ (s : Shared) (H : Hp) (C : Addr) (cl : List (Str × Addr)) (fp : List Addr), PG (X.blk s H scope (compEnvC scope cl C X.env) fp) tg g)
    (h : PDI X tg iter ρ L (fun ds G L1 => LcD X g elt ifs scope (own.map (·.2)) ρ ds G L1 (frzK P)) R) (hs : ∀ x, foldedSetIterable iter X.env x = pure x := by intro _; rfl) : PD X (.ListComp elt [⟨tg, iter, ifs, 0⟩] scope pos) ρ L P R := pd_frz (pd_lc hc hN ok hg h hs)
/-- x = [..], frozen at once -/
theorem pds_setLcF {i : Nat} {y : Str} {py spos : Pos} {tg iter elt : Expr} {ifs : List Expr} {scope : Scope} {own : List (Str × Nat)} {g : TG} (hc : X.calm = true) (hN : X.N.Nodup) (hy : X.N[i]? = some y) (hyl : X.env.scope.names.lookup y = some .local)
    (hsw : swapsWith (.ListComp elt [⟨tg, iter, ifs, 0⟩] scope pos) (some (.Name y py)) spos.line X.env = pure true) (ok : BlkOk X.N X.env.scope scope own)
    (hg : ∀ (s : Shared) (H : Hp) (C : Addr) (cl : List (Str × Addr)) (fp : List Addr), PG (X.blk s H scope (compEnvC scope cl C X.env) fp) tg g)
    (h : PDI X tg iter ρ L (fun ds G L1 => LcD X g elt ifs scope (own.map (·.2)) ρ ds G L1 (frzK fun d L2 => E.nx (ρ.set i (some d)) L2)) (E.ex ρ)) (hs : ∀ x, foldedSetIterable iter X.env x = pure x := by intro _; rfl) :
    PDS X (.Assign [.Name y py] (.ListComp elt [⟨tg, iter, ifs, 0⟩] scope pos) spos) E ρ L :=
  pds_of (ps_setLc hc hN hy hyl hsw pi_w ok hg (fun s0 H0 C cl fp => pts_wB s0 H0 C cl fp) (fun s0 H0 C cl fp => pe_wB s0 H0 C cl fp) hs) fun σ H F W A => by
    refine wLc_mono (lc_read h A.at) (fun v H1 ⟨F1, d, L1, s1, o1, i1, p, ds, L2, e1, t, q⟩ => ?_) fun σ H R R' q => wI_mono q
    subst e1
    cases i1
    obtain ⟨F', s, o', ip⟩ := o1.freeze t
    exact ⟨F', _, L2, s1.trans s, o', (A.env.mono (s1.trans s)).set ip i, q⟩
end
/-- a ledger that says what another one says -/
def Lc (K : PySem.W.Frag) (L L' : Led) : Prop := ∀ (H F : Hp), Own K H F L → Own K H F L'
theorem Lc.refl {K : PySem.W.Frag} (L : Led) : Lc K L L := fun _ _ h => h
theorem Lc.trans {K : PySem.W.Frag} {L L1 L2 : Led} (a : Lc K L L1) (b : Lc K L1 L2) : Lc K L L2 := fun H F h => b H F (a H F h)
theorem Lw.lc {K : PySem.W.Frag} {L L' : Led} (h : Lw L L') : Lc K L L' := fun _ _ w => h.own w
theorem Foc.lc {K : PySem.W.Frag} {p : Addr} {x y : OD} {L L' : Led} (f : Foc p x y L L') (h : ∀ F o, x.Ok K F o → y.Ok K F o) : Lc K L L' := fun H F w => by
  obtain ⟨n, u, g, ok⟩ := w.cell _ f.mem
  have z := w.write f (h F u ok)
  have eH : upd H p u = H := by
    funext b
    by_cases hb : b = p
    · rw [hb, upd_same, g]
    · rw [upd_ne hb]
  rw [eH] at z
  exact z
/-- on the way from x to z, y stands there -/
theorem Foc.via {p : Addr} {x z : OD} (y : OD) : ∀ {L L' : Led}, Foc p x z L L' → ∃ L1, Foc p x y L L1 ∧ Foc p y z L1 L'
  | _, _, .here => ⟨_, .here, .here⟩
  | _, _, .there h => by
    obtain ⟨L1, a, b⟩ := Foc.via y h
    exact ⟨_, .there a, .there b⟩
section
variable {X : Cx} {e : Expr} {es : List Expr} {sts : List Stmt} {ρ : Rho} {L : Led} {P : PK1} {R : RK1} {E : DE}
/-- what is owned besides may be forgotten -/
theorem pd_shr (h : PD X e ρ L (fun d L1 => ∃ L2, Lc X.K L1 L2 ∧ P d L2) R) : PD X e ρ L P R := .mk fun σ H F W A => (h.go σ H F W A).mono fun v H' ⟨F', d, L', s, o, i, L2, c, p⟩ => ⟨F', d, L2, s, c _ _ o, i, p⟩
theorem pdt_shr {P : Bool → Led → Prop} (h : PDT X e ρ L (fun d L1 => ∃ L2, Lc X.K L1 L2 ∧ P d L2) R) : PDT X e ρ L P R := .mk fun σ H F W A => (h.go σ H F W A).mono fun v H' ⟨F', L', s, o, L2, c, p⟩ => ⟨F', L2, s, c _ _ o, p⟩
theorem pdb_lc {L' : Led} (c : Lc X.K L L') (h : PDB X sts E ρ L') : PDB X sts E ρ L := .mk fun σ H F W A => h.go σ H F W ⟨A.env, c _ _ A.own, A.tk, A.ex⟩
theorem pd_lc' {L' : Led} (c : Lc X.K L L') (h : PD X e ρ L' P R) : PD X e ρ L P R := .mk fun σ H F W A => h.go σ H F W ⟨A.env, c _ _ A.own, A.tk, A.ex⟩
/-- two ways that meet again -/
theorem pds_ifJ {c : Expr} {a b : List Stmt} {pos : Pos} (J : Rho → Led → Prop) (h : PDT X c ρ L (fun t L1 => if t = true then PDB X a { E with nx := J } ρ L1 else PDB X b { E with nx := J } ρ L1) (E.ex ρ)) (q : ∀ ρ' L', J ρ' L' → E.nx ρ' L') : PDS X (.If c a b pos) E ρ L :=
  pds_if (h.mono fun t L1 z => by
    cases t with
    | true => exact PDB.ends (show PDB X a { E with nx := J } ρ L1 from z) rfl q (fun _ _ p => p) (fun _ _ p => p) fun _ _ p => p
    | false => exact PDB.ends (show PDB X b { E with nx := J } ρ L1 from z) rfl q (fun _ _ p => p) (fun _ _ p => p) fun _ _ p => p)
theorem iteD {c A B : Prop} [Decidable c] (h1 : c → A) (h2 : ¬ c → B) : if decide c = true then A else B := by
  by_cases h : c
  · rw [if_pos (decide_eq_true h)]; exact h1 h
  · rw [if_neg (by rw [decide_eq_false h]; decide)]; exact h2 h
theorem atI_some {ds : List D} {i : Int} {d : D} (h0 : 0 ≤ i) (h : ds[i.toNat]? = some d) : atI ds i = some d := by
  have hl := (List.getElem?_eq_some_iff.mp h).1
  unfold atI ixN
  simp only [h0, show i < (ds.length : Int) by omega, and_self, if_true]
  first | exact h | simpa using h
section
variable {i j : Int}
theorem od_fdivW (hc : CDivW i j) (h : P (.int (i / j)) L) : OpD X (binaryOp .FloorDiv) (.int i) (.int j) L P := opd_I op_fdivW hc h
end
end
theorem blk_nf {N : List Str} {sc : Scope} {own : List (Str × Nat)} (h : (blkC N scope scope own && scope.names.all fun y => decide (y.2 ≠ .free)) = true) : BlkOk N sc scope own := by
  rw [Bool.and_eq_true, List.all_eq_true] at h
  have b := blkOk_by h.1
  exact ⟨b.kind, b.uniq, b.ix, fun y hy e => absurd e (of_decide_eq_true (h.2 y hy)), b.own⟩
end
end D2
end
section
set_option Elab.async false
set_option linter.all false
set_option maxRecDepth 100000
set_option maxHeartbeats 4000000
namespace K05
open PySem L2 D2
open PySem.Spec hiding Row
section
variable {P : Program} {w : World} {K : PySem.W.Frag} {mg : Str → Option Value} {base : Heap}
theorem sq_sub {L L' : Led} {d : D} {ds : List D} (s : SubL L L') (h : Sq L d ds) : Sq L' d ds := by
  cases h with
  | lst ds => exact .lst ds
  | fro ds => exact .fro ds
  | tup ds => exact .tup ds
  | own h => exact .own (s _ h)
theorem bt_sub {L L' : Led} {d : D} {n : String} (s : SubL L L') (h : Bt L d n) : Bt L' d n := by
  cases h with
  | non => exact .non
  | bl b => exact .bl b
  | int b => exact .int b
  | str b => exact .str b
  | lst b => exact .lst b
  | fro b => exact .fro b
  | tup b => exact .tup b
  | own b => exact .own (s _ b)
  | dic b => exact .dic (s _ b)
theorem sd_sub {L L' : Led} {d : D} {o : Option (List D)} (s : SubL L L') (h : Sd L d o) : Sd L' d o := by
  cases h with
  | seq h => exact .seq (sq_sub s h)
  | no h ne => exact .no (bt_sub s h) ne
theorem gl_sub {L L' : Led} {d : D} {ds : List D} {G : Led} (s : SubL L L') (h : Gl2 L d ds G) : Gl2 L' d ds G := by
  cases h with
  | lst ds => exact .lst ds
  | fro ds => exact .fro ds
  | own h => exact .own (s _ h)
theorem zp_sub' {L L' : Led} {d d' : D} {as bs : List D} {G : Led} (s : SubL L L') (h : Zp L d d' as bs G) : Zp L' d d' as bs G := h.up s
theorem part_sub {L L' : Led} {p : PartD} (s : SubL L L') (h : PartOk L p) : PartOk L' p :=
  ⟨sd_sub s h.sd, fun rs e r hr => ⟨sd_sub s (h.rows rs e r hr).1, fun xs e2 x hx => let ⟨n, b⟩ := (h.rows rs e r hr).2 xs e2 x hx; ⟨n, bt_sub s b⟩⟩⟩
/-! ### worlds -/
def toI : D → Int
  | .sc (.int i) => i
  | _ => 0
def keysOf (p : PartD) : List Row := match p.o with
  | none => []
  | some rs => rs.map fun r => (r.2.getD []).map toI
def partsD (kss : List (List Row)) : D := .tup (kss.map fun ks => .tup (ks.map rowD))
def worldF (lens : List Int) (many : Int) (kss : List (List Row)) : List (Str × D) := [("lengths", .tup (lens.map D.int)), ("many", .int many), ("rows", partsD kss)]
def total (kss : List (List Row)) : Int := (kss.map fun ks => (ks.length : Int)).sum
def kept (ps : List PartD) : List (List Row) := ps.map fun p => asc (keysOf p)
def tInit (C CW CN CM : Addr) : Ct := fun ds L P R => ∃ (x dx : Addr) (dl dm dr : D) (ol : Option (List D)) (n : String) (L0 : Led), ds = [.ref x, dl, dm, dr] ∧ L = (x, insOD K C dx []) :: (dx, dxOD x) :: L0 ∧ Sd L0 dl ol ∧ (∀ xs, ol = some xs → ∀ y ∈ xs, ∃ n, Bt L0 y n) ∧ Bt L0 dm n ∧
  (onSeq ol lenOk = false → ∀ L', Lw L' L0 → R CW [("part", .str "lengths")] L') ∧
  (onSeq ol lenOk = true → within (some 1) (some 600) dm = false → ∀ L', Lw L' L0 → R CN [("part", .str "many")] L') ∧
  ∀ (lens : List Int) (many : Int), ol = some (lens.map D.int) → onSeq ol lenOk = true → dm = .int many → 1 ≤ many → many ≤ 600 → (∀ n ∈ lens, 1 ≤ n) → lens.length ≤ 80 → ∃ o, RowsD L0 dl lens dr o ∧
    (onParts o (rowsOk lens many) = false → ∀ L', Lw L' L0 → R CW [("part", .str "rows")] L') ∧
    ∀ ps, o = some ps → rowsOk lens many ps = true → (∀ p ∈ ps, (keysOf p).length ≤ 1228) ∧
      (total (kept ps) ≤ 1000 → P .non ((x, insOD K C dx (worldF lens many (kept ps))) :: (dx, dxOD x) :: L0)) ∧ (1000 < total (kept ps) → ∀ L', Lw L' L0 → R CM [("most", .int 1000), ("what", .str "rows")] L')
theorem sc_init : FnScope ["self", "lengths", "many", "rows", "part", "row"] ["self", "lengths", "many", "rows"] (defScope s_init) := ⟨rfl, rfl, rfl, by decide +kernel, rfl, by decide +kernel, by decide +kernel⟩
theorem within_inv {a b : Int} {d : D} (h : within (some a) (some b) d = true) : ∃ i : Int, d = .int i ∧ a ≤ i ∧ i ≤ b := by
  cases hi : isInt d with
  | false => rw [within_not hi] at h; cases h
  | true =>
    obtain ⟨i, rfl⟩ := isInt_inv hi
    rw [within_int] at h
    have h : (decide (a ≤ i) && decide (i ≤ b)) = true := h
    simp at h
    exact ⟨i, rfl, h.1, h.2⟩
theorem lens_of : ∀ {xs : List D}, xs.all (within (some 1) (some 8)) = true → ∃ lens : List Int, xs = lens.map D.int ∧ ∀ n ∈ lens, 1 ≤ n
  | [], _ => ⟨[], rfl, fun n h => nomatch h⟩
  | x :: xs, h => by
    rw [List.all_cons, Bool.and_eq_true] at h
    obtain ⟨i, rfl, h1, _⟩ := within_inv h.1
    obtain ⟨lens, rfl, h2⟩ := lens_of h.2
    refine ⟨i :: lens, rfl, fun n hn => ?_⟩
    rcases List.mem_cons.mp hn with z | z
    · rw [z]; exact h1
    · exact h2 n z
theorem cells_of {many below : Option Int} {xs : List D} (h : rowOk many below xs = true) : xs = (xs.map toI).map D.int := by
  unfold rowOk at h
  rw [Bool.and_eq_true] at h
  have h2 := h.2
  clear h
  induction xs with
  | nil => rfl
  | cons x xs ih =>
    rw [List.all_cons, Bool.and_eq_true] at h2
    rw [List.map_cons, List.map_cons, ← ih h2.2]
    cases x with
    | sc v =>
      cases v with
      | int i => rfl
      | _ => cases h2.1
    | _ => cases h2.1
end
end K05
end
section
set_option Elab.async false
set_option linter.all false
set_option maxRecDepth 100000
set_option maxHeartbeats 4000000
namespace K05
open PySem L2 D2
open PySem.Spec hiding Row
section
variable {P : Program} {w : World} {K : PySem.W.Frag} {mg : Str → Option Value} {base : Heap}
structure TxtW (K : PySem.W.Frag) (C : Addr) : Prop where
  cl : Cls K C
  nl : NoAttr K C "lengths"
  nm : NoAttr K C "many"
  nr : NoAttr K C "rows"
theorem pu1 (v : D) : putD "lengths" v [] = [(("lengths" : Str), v)] := rfl
theorem pu2 (v u : D) : putD "many" v [(("lengths" : Str), u)] = [(("lengths" : Str), u), (("many" : Str), v)] := by
  unfold putD
  rw [if_neg (by decide)]
  rfl
theorem pu3 (v u t : D) : putD "rows" v [(("lengths" : Str), u), (("many" : Str), t)] = [(("lengths" : Str), u), (("many" : Str), t), (("rows" : Str), v)] := by
  unfold putD
  rw [if_neg (by decide)]
  unfold putD
  rw [if_neg (by decide)]
  rfl
theorem look_l (a b c : D) : List.lookup ("lengths" : Str) [(("lengths" : Str), a), (("many" : Str), b), (("rows" : Str), c)] = some a := by rw [look_cons, if_pos rfl]
theorem look_m (a b c : D) : List.lookup ("many" : Str) [(("lengths" : Str), a), (("many" : Str), b), (("rows" : Str), c)] = some b := by rw [look_cons, if_neg (by decide), look_cons, if_pos rfl]
theorem look_r (a b c : D) : List.lookup ("rows" : Str) [(("lengths" : Str), a), (("many" : Str), b), (("rows" : Str), c)] = some c := by rw [look_cons, if_neg (by decide), look_cons, if_neg (by decide), look_cons, if_pos rfl]
/-- what is known of a part that is told rightly -/
theorem part_rows {n many : Int} {p : PartD} (h : partOk n many p = true) : ∃ rs, p.o = some rs ∧ ∀ r ∈ rs, ∃ xs, r.2 = some xs ∧ rowOk (some n) (some many) xs = true := by
  unfold partOk at h
  cases e : p.o with
  | none => rw [e] at h; cases h
  | some rs =>
    rw [e] at h
    refine ⟨rs, rfl, fun r hr => ?_⟩
    have h1 := List.all_eq_true.mp h r hr
    cases e2 : r.2 with
    | none => rw [e2] at h1; cases h1
    | some xs => rw [e2] at h1; exact ⟨xs, rfl, h1⟩
theorem rowOk_len {n : Int} {b : Option Int} {xs : List D} (h : rowOk (some n) b xs = true) : (xs.length : Int) = n := by
  unfold rowOk at h
  rw [Bool.and_eq_true] at h
  exact of_decide_eq_true h.1
set_option maxHeartbeats 8000000 in
theorem ok_init {f C CW CN CM : Addr} {fd : FuncData} (F : Fun K "__init__" "World.__init__" s_init f fd) (T : Txt0 K mg) (N : TxtN mg) (TW : TxtW K C) (EW : ExcD P w K mg base "BadWorld" CW ["part"]) (EN : ExcD P w K mg base "BadNumber" CN ["part"]) (EM : ExcD P w K mg base "TooMany" CM ["what", "most"])
    (GL : Fn P w K mg base "are_lengths" 3 ["value"] tAreLengths) (GW : Fn P w K mg base "is_within" 2 ["value", "least", "most"] tIsWithin) (GR : Fn P w K mg base "are_rows" 3 ["lengths", "many", "value"] tAreRows) :
    FnOk P w K mg base (L2.CX P w) 4 f fd ["self", "lengths", "many", "rows"] (spD K (tInit (K := K) C CW CN CM)) := by
  refine fn_okD F sc_init (fun ds L P R ⟨x, dx, dl, dm, dr, ol, n, L0, e, _⟩ => by rw [e]; rfl) fun cdv A outer s H E ds L P1 R hr ⟨x, dx, dl, dm, dr, ol, n, L0, e, eL, sl, al, bm, r1, r2, main⟩ => ?_
  subst e eL
  obtain ⟨tP, nP⟩ := N.places
  obtain ⟨tR, nR⟩ := N.rows
  have up : SubL L0 ((x, insOD K C dx []) :: (dx, dxOD x) :: L0) := SubL.cons (SubL.cons SubL.refl)
  have lw0 : Lw ((x, insOD K C dx []) :: (dx, dxOD x) :: L0) L0 := Lw.tail.trans Lw.tail
  refine pdb_cons (pds_ifB (pdt_notB (t := onSeq ol lenOk) (pdt_valB (pd_fn GL hr (Nat.le_refl _) (pda_cons (pd_name (i := 1) rfl rfl (pda_nil ⟨dl, ol, rfl, sd_sub up sl, fun xs e y hy => let ⟨n, b⟩ := al xs e y hy; ⟨n, bt_sub up b⟩, rfl, rfl⟩)))))) (fun ht => ?_) fun ht => ?_)
  · exact pdb_cons (pds_raise (k := 1) rfl EW hr (pda_cons (pd_str (pda_nil ⟨rfl, by decide, r1 (by simpa using ht) _ lw0⟩))))
  have hol : onSeq ol lenOk = true := by simpa using ht
  refine pdb_nil (pdb_cons (pds_ifB (pdt_notB (t := within (some 1) (some 600) dm) (pdt_valB (pd_fn GW hr (by decide) (pda_cons (pd_name (i := 2) rfl rfl (pda_cons (pd_int (pda_cons (pd_globI nP (pda_nil ⟨dm, n, some 1, some 600, rfl, bt_sub up bm, rfl, rfl⟩)))))))))) (fun ht => ?_) fun ht => ?_))
  · exact pdb_cons (pds_raise (k := 1) rfl EN hr (pda_cons (pd_str (pda_nil ⟨rfl, by decide, r2 hol (by simpa using ht) _ lw0⟩))))
  obtain ⟨many, rfl, hm1, hm2⟩ := within_inv (show within (some 1) (some 600) dm = true by simpa using ht)
  obtain ⟨xs, rfl⟩ : ∃ xs, ol = some xs := by
    cases ol with
    | none => cases hol
    | some xs => exact ⟨xs, rfl⟩
  have hok : lenOk xs = true := hol
  unfold lenOk at hok
  rw [Bool.and_eq_true, decide_eq_true_eq] at hok
  obtain ⟨lens, rfl, hpos⟩ := lens_of hok.2
  have hlen : lens.length ≤ 80 := by simpa using hok.1
  obtain ⟨o, ho, r3, fin⟩ := main lens many rfl hol rfl hm1 hm2 hpos hlen
  have sq : Sq L0 dl (lens.map D.int) := by cases sl with | seq h => exact h
  have ho' : RowsD ((x, insOD K C dx []) :: (dx, dxOD x) :: L0) dl lens dr o := by
    cases o with
    | none => exact sd_sub up ho
    | some ps => exact ⟨⟨ho.1.choose, zp_sub' up ho.1.choose_spec.1, sq_sub up ho.1.choose_spec.2⟩, fun p hp => part_sub up (ho.2 p hp)⟩
  refine pdb_nil (pdb_cons (pds_ifB (pdt_notB (t := onParts o (rowsOk lens many)) (pdt_valB (pd_fn GR hr (Nat.le_refl _) (pda_cons (pd_name (i := 1) rfl rfl (pda_cons (pd_name (i := 2) rfl rfl (pda_cons (pd_name (i := 3) rfl rfl (pda_nil ⟨dl, lens, many, dr, o, rfl, sq_sub up sq, fun n hn => Int.le_trans (by decide) (hpos n hn), ho', rfl, rfl⟩)))))))))) (fun ht => ?_) fun ht => ?_))
  · exact pdb_cons (pds_raise (k := 1) rfl EW hr (pda_cons (pd_str (pda_nil ⟨rfl, by decide, r3 (by simpa using ht) _ lw0⟩))))
  have hrows : onParts o (rowsOk lens many) = true := by simpa using ht
  obtain ⟨ps, rfl⟩ : ∃ ps, o = some ps := by
    cases o with
    | none => cases hrows
    | some ps => exact ⟨ps, rfl⟩
  have hrows : rowsOk lens many ps = true := hrows
  obtain ⟨few, good, much⟩ := fin ps rfl hrows
  -- the fields
  refine pdb_nil (pdb_cons (pds_fld (pd_callTy T.tuple PyProof.Rows.Boot.«tuple» (pda_cons (pd_name (i := 1) rfl rfl (pda_nil (cd_tuple (sq_sub up sq) (pd_name (i := 0) rfl rfl ⟨x, C, dx, [], _, rfl, .here, TW.cl, TW.nl, by decide, ?_⟩))))))))
  refine pdb_cons (pds_fld (pd_name (i := 2) rfl rfl (pd_name (i := 0) rfl rfl ⟨x, C, dx, _, _, rfl, .here, TW.cl, TW.nm, by rw [pu1]; show 1 < 1000; decide, ?_⟩)))
  rw [pu1, pu2]
  have hps := ho'.2
  obtain ⟨G, zp, sqr⟩ := ho.1
  have hall : ∀ (i : Nat) (p : PartD), ps[i]? = some p → ∃ n, lens[i]? = some n ∧ partOk n many p = true := fun i p hp => by
    unfold rowsOk at hrows
    rw [Bool.and_eq_true, decide_eq_true_eq] at hrows
    have hi := (List.getElem?_eq_some_iff.mp hp).1
    have hn : lens[i]? = some lens[i] := List.getElem?_eq_getElem (by omega)
    refine ⟨_, hn, ?_⟩
    exact List.all_eq_true.mp hrows.2 (lens[i], p) (List.mem_of_getElem? (List.getElem?_zip_eq_some.mpr ⟨hn, hp⟩))
  show PDB _ _ _ _ ((x, insOD K C dx [(("lengths" : Str), D.tup (lens.map D.int)), (("many" : Str), D.int many)]) :: (dx, dxOD x) :: L0)
  generalize eL1 : ((x, insOD K C dx [(("lengths" : Str), D.tup (lens.map D.int)), (("many" : Str), D.int many)]) :: (dx, dxOD x) :: L0 : Led) = L1
  have up1 : SubL L0 L1 := by rw [← eL1]; exact SubL.cons (SubL.cons SubL.refl)
  have pk1 : ∀ p ∈ ps, PartOk L1 p := fun p hp => part_sub up1 (ho.2 p hp)
  have pl : ps.length ≤ 80 := by
    unfold rowsOk at hrows
    rw [Bool.and_eq_true, decide_eq_true_eq] at hrows
    omega
  obtain ⟨G1, gd1⟩ := (sq_sub up1 sqr).gd
  have hu : ∀ {A' : Around}, A' = A.deeper (PyProof.Rows.envOfC "World.__init__" (defScope s_init) s.heap.objs.size f cdv) → A'.units + 1 < cLine := fun e => by
    rw [e]
    have := hr.units
    omega
  refine pdb_cons (pds_fld (pd_callTy T.tuple PyProof.Rows.Boot.«tuple» (pda_cons (pd_lcF (own := [("part", 4)]) (g := gName 4) rfl sc_init.nd (blk_nf (N := ["self", "lengths", "many", "rows", "part", "row"]) (by decide +kernel)) (fun _ _ _ _ _ => pg_name (i := 4) sc_init.nd rfl (Or.inl rfl)) (pdi_seq gd1 (pd_name (i := 3) rfl rfl ⟨rfl, rfl⟩) ?_)))))
  refine lc_itemsF (ps.map fun p => D.tup ((asc (keysOf p)).map rowD)) (by simp only [List.length_map]) gd1.sub (by rw [List.length_map, sizeLine_eq]; omega) ?_ ?_
  · intro i d y hd hy
    obtain ⟨p, hp, rfl⟩ : ∃ p, ps[i]? = some p ∧ p.d = d := by simpa [List.getElem?_map] using hd
    have ey : y = D.tup ((asc (keysOf p)).map rowD) := by
      rw [List.getElem?_map, hp] at hy
      exact (Option.some.inj hy).symm
    subst ey
    obtain ⟨n, hn, pk⟩ := hall i p hp
    obtain ⟨rs, ers, hrs⟩ := part_rows pk
    have kp := pk1 p (List.mem_of_getElem? hp)
    have hfew := few p (List.mem_of_getElem? hp)
    have ek : keysOf p = rs.map fun r => (r.2.getD []).map toI := by
      unfold keysOf
      rw [ers]
    have sqp : Sq L1 p.d (rs.map (·.1)) := by
      have z := kp.sd
      rw [ers] at z
      cases z with
      | seq h => exact h
    have hn1 : 1 ≤ n := hpos n (List.mem_of_getElem? hn)
    refine ⟨[(4, p.d)], gd_name, by simp, fun Y q acc ⟨s0, H0, C0, cl0, fp0, eY⟩ => ?_⟩
    subst eY
    have upq : SubL L1 ((q, OD.lst acc) :: L1) := SubL.cons SubL.refl
    obtain ⟨G2, gd2⟩ := (sq_sub upq sqp).gd
    refine pd_callTy T.tuple PyProof.Rows.Boot.«tuple» (pda_cons (pd_callB T.sorted PyProof.Rows.Boot.«sorted» (pda_cons (pd_sc (own := [("row", 5)]) (g := gName 5) rfl sc_init.nd (hu rfl) (blk_nf (N := ["self", "lengths", "many", "rows", "part", "row"]) (by decide +kernel)) (fun _ _ _ _ _ => pg_name (i := 5) sc_init.nd rfl (Or.inl rfl)) (pdi_seq gd2 (pd_name (i := 4) rfl rfl ⟨rfl, rfl⟩) ?_)))))
    refine sc_items (keysOf p) (by rw [ek]; simp only [List.length_map]) gd2.sub (by rw [ek, List.length_map] at hfew; rw [List.length_map]; exact hfew) ?_ ?_
    · intro j r k hj hk
      obtain ⟨rr, hr1, rfl⟩ : ∃ rr, rs[j]? = some rr ∧ rr.1 = r := by simpa [List.getElem?_map] using hj
      obtain ⟨cs, ecs, rok⟩ := hrs rr (List.mem_of_getElem? hr1)
      have ekk : k = cs.map toI := by
        rw [ek, List.getElem?_map, hr1] at hk
        have := (Option.some.inj hk).symm
        rw [this]
        show (rr.2.getD []).map toI = _
        rw [ecs]
        rfl
      subst ekk
      have srr : Sq L1 rr.1 ((cs.map toI).map D.int) := by
        have z := (kp.rows rs ers rr (List.mem_of_getElem? hr1)).1
        rw [ecs] at z
        cases z with
        | seq h => rw [← cells_of rok]; exact h
      refine ⟨[(5, rr.1)], gd_name, by simp, fun Y2 q2 acc2 ⟨s1, H1, C1, cl1, fp1, eY⟩ => ?_⟩
      subst eY
      exact pd_callTy T.tuple PyProof.Rows.Boot.«tuple» (pda_cons (pd_name (i := 5) rfl rfl (pda_nil (cd_tuple (sq_sub (SubL.cons upq) srr) ⟨rfl, Lw.refl _⟩))))
    · intro q2
      refine pda_nil (cd_sortSet rfl List.mem_cons_self (fun k hk e => ?_) (pda_nil (cd_tuple (.lst _) ⟨rfl, Lw.tail⟩)))
      rw [ek] at hk
      obtain ⟨rr, hrr, e2⟩ := List.mem_map.mp hk
      obtain ⟨cs, ecs, rok⟩ := hrs rr hrr
      rw [ecs, e] at e2
      have e2 : cs.map toI = [] := e2
      have := rowOk_len rok
      rw [List.map_eq_nil_iff.mp e2] at this
      simp at this
      omega
  · refine pda_nil (cd_tuple (.lst _) (pd_name (i := 0) rfl rfl ⟨x, C, dx, [(("lengths" : Str), D.tup (lens.map D.int)), (("many" : Str), D.int many)], (x, insOD K C dx (worldF lens many (kept ps))) :: (dx, dxOD x) :: L0, rfl, ?_, TW.cl, TW.nr, by show 2 < 1000; decide, ?_⟩))
    · rw [← eL1, pu3]
      have e3 : D.tup (ps.map fun p => D.tup ((asc (keysOf p)).map rowD)) = partsD (kept ps) := by
        unfold partsD kept
        rw [List.map_map]
        rfl
      rw [e3]
      exact Foc.here
    · show PDB _ _ _ _ ((x, insOD K C dx (worldF lens many (kept ps))) :: (dx, dxOD x) :: L0)
      have kl : (kept ps).length = ps.length := by unfold kept; rw [List.length_map]
      refine pdb_cons (pds_ifB (t := decide (1000 < total (kept ps))) ?_ (fun ht => ?_) fun ht => ?_)
      · refine pdt_cmp (pd_callB T.sum PyProof.Rows.Boot.«sum» (pda_cons (pd_lcF (own := [("part", 4)]) (g := gName 4) rfl sc_init.nd (blk_nf (N := ["self", "lengths", "many", "rows", "part", "row"]) (by decide +kernel)) (fun _ _ _ _ _ => pg_name (i := 4) sc_init.nd rfl (Or.inl rfl)) ?_)))
        refine pdi_tup (pd_fldO (pd_name (i := 0) rfl rfl ⟨x, C, dx, worldF lens many (kept ps), partsD (kept ps), rfl, List.mem_cons_self, TW.cl, TW.nr, look_r _ _ _, _, rfl, ?_⟩))
        refine lc_itemsF (((kept ps).map fun ks => (ks.length : Int)).map D.int) (by simp only [List.length_map]) SubL.nil (by rw [List.length_map, kl, sizeLine_eq]; omega) ?_ ?_
        · intro i d y hd hy
          obtain ⟨ks, hks, rfl⟩ : ∃ ks, (kept ps)[i]? = some ks ∧ D.tup (ks.map rowD) = d := by simpa [List.getElem?_map] using hd
          have ey : y = D.int (ks.length : Int) := by
            rw [List.getElem?_map, List.getElem?_map, hks] at hy
            exact (Option.some.inj hy).symm
          subst ey
          refine ⟨[(4, _)], gd_name, by simp, fun Y q acc ⟨s0, H0, C0, cl0, fp0, eY⟩ => ?_⟩
          subst eY
          exact pd_callB T.len PySem.boot_len (pda_cons (pd_name (i := 4) rfl rfl (pda_nil (cd_len (.tup _) ⟨by rw [List.length_map], Lw.refl _⟩))))
        · exact pda_nil (cd_sum rfl (.lst _) (pd_globI nR (od_gtI ⟨_, rfl, rfl, rfl⟩)))
      · exact pdb_cons (pds_raise (k := 1) rfl EM hr (pda_cons (pd_str (pda_cons (pd_globI nR (pda_nil ⟨rfl, by decide, much (of_decide_eq_true ht) _ (Lw.tail.trans Lw.tail)⟩))))))
      · have h := of_decide_eq_false ht
        exact pdb_nil (pdb_nil (good (by omega)))
end
end K05
end
section
set_option Elab.async false
set_option linter.all false
set_option maxRecDepth 100000
set_option maxHeartbeats 4000000
namespace K05
open PySem L2 D2
open PySem.Spec hiding Row
section
variable {P : Program} {w : World} {K : PySem.W.Frag} {mg : Str → Option Value} {base : Heap}
abbrev worldD (C : Addr) (lens : List Int) (many : Int) (kss : List (List Row)) : D := .ins C (worldF lens many kss)
/-! ### len(world), world == other -/
def tLen (C : Addr) : Ct := fun ds L P R => ∃ lens many kss, ds = [worldD C lens many kss] ∧ 0 ≤ many ∧ many < 2 ^ 62 ∧ P (.int many) L
theorem sc_len : FnScope ["self"] ["self"] (defScope s_len) := ⟨rfl, rfl, rfl, by decide +kernel, rfl, by decide +kernel, by decide +kernel⟩
theorem ok_len {f C : Addr} {fd : FuncData} (F : Fun K "__len__" "World.__len__" s_len f fd) (T : Txt0 K mg) (TW : TxtW K C) : FnOk P w K mg base (L2.CX P w) 1 f fd ["self"] (spD K (tLen C)) := by
  refine fn_okD F sc_len (fun ds L P R ⟨l, m, k, e, _⟩ => by rw [e]; rfl) fun cdv A outer s H E ds L P1 R hr ⟨lens, many, kss, e, h0, h1, h⟩ => ?_
  subst e
  refine pdb_cons (pds_ret (pd_shr (pd_callB T.len PySem.boot_len (pda_cons (pd_range T.range (pd_fld (pd_name (i := 0) rfl rfl ⟨C, _, .int many, rfl, TW.cl, TW.nm, look_m _ _ _, many, rfl, fun r => ?_⟩)))))))
  refine pda_nil (cd_lenRng List.mem_cons_self h1 ⟨L, Lw.tail.lc, ?_⟩)
  rw [show ((many.toNat : Nat) : Int) = many by omega]
  exact h
theorem dp_parts {L : Led} (kss : List (List Row)) : DP L (partsD kss) (W.Datum.toD (W.Tup.mk (kss.map fun ks => W.Tup.mk (ks.map W.Tup.mk)))) := by
  refine .tup ?_
  show DPs L _ (List.map _ (kss.map fun ks => W.Tup.mk (ks.map W.Tup.mk)))
  rw [List.map_map]
  exact DPs.map dp_rowsT kss
theorem tup_inj {α : Type} : Function.Injective (W.Tup.mk : List α → W.Tup α) := fun a b h => by injection h
theorem map_inj {α β : Type} {f : α → β} (h : Function.Injective f) : Function.Injective (List.map f) := fun a b e => by
  induction a generalizing b with
  | nil => cases b with
    | nil => rfl
    | cons y b => cases e
  | cons x a ih => cases b with
    | nil => cases e
    | cons y b =>
      injection e with e1 e2
      rw [h e1, ih b e2]
theorem parts_inj {a b : List (List Row)} : (W.Tup.mk (a.map fun ks => W.Tup.mk (ks.map (W.Tup.mk : Row → W.Tup Int))) = W.Tup.mk (b.map fun ks => W.Tup.mk (ks.map (W.Tup.mk : Row → W.Tup Int)))) ↔ a = b :=
  ⟨fun h => map_inj (fun x y e => map_inj tup_inj (tup_inj e)) (tup_inj h), fun h => by rw [h]⟩
/-- what other may be -/
inductive EqTo (C : Addr) (L : Led) (lens : List Int) (many : Int) (kss : List (List Row)) : D → Bool → Prop
  | world (l : List Int) (m : Int) (k : List (List Row)) : EqTo C L lens many kss (worldD C l m k) (decide (lens = l ∧ many = m ∧ kss = k))
  | no {d : D} {n : String} (h : Bt L d n) : EqTo C L lens many kss d false
def tEq (C : Addr) : Ct := fun ds L P R => ∃ lens many kss d b, ds = [worldD C lens many kss, d] ∧ EqTo C L lens many kss d b ∧ P (.bl b) L
/-- who is a World -/
structure TxtI (K : PySem.W.Frag) (mg : Str → Option Value) (C : Addr) : Prop where
  ok : ClsOk K C
  gl : mg "World" = some (.ref C)
  yes : PySem.W.kitOne K (.ref C) (.ref C) = some true
  no : ∀ n, n = "NoneType" ∨ n = "bool" ∨ n = "int" ∨ n = "str" ∨ n = "list" ∨ n = "tuple" ∨ n = "dict" → PySem.W.kitOne K (.type n) (.ref C) = some false
theorem bt_in {L : Led} {d : D} {n : String} (h : Bt L d n) : n = "NoneType" ∨ n = "bool" ∨ n = "int" ∨ n = "str" ∨ n = "list" ∨ n = "tuple" ∨ n = "dict" := by
  cases h <;> simp
theorem sc_eq : FnScope ["self", "other"] ["self", "other"] (defScope s_eq) := ⟨rfl, rfl, rfl, by decide +kernel, rfl, by decide +kernel, by decide +kernel⟩
theorem ok_eq {f C : Addr} {fd : FuncData} (F : Fun K "__eq__" "World.__eq__" s_eq f fd) (T : Txt0 K mg) (TW : TxtW K C) (TI : TxtI K mg C) : FnOk P w K mg base (L2.CX P w) 1 f fd ["self", "other"] (spD K (tEq C)) := by
  refine fn_okD F sc_eq (fun ds L P R ⟨l, m, k, d, b, e, _⟩ => by rw [e]; rfl) fun cdv A outer s H E ds L P1 R hr ⟨lens, many, kss, d, b, e, q, h⟩ => ?_
  subst e
  have hu := hr.units
  cases q with
  | no bt =>
    refine pdb_cons (pds_ifB (pdt_notB (t := false) (pdt_valB (pd_callB T.isinstance PyProof.Rows.Boot.«isinstance» (pda_cons (pd_name (i := 1) rfl rfl (pda_cons (pd_glob (v := .ref C) TI.gl rfl (pda_nil (cd_isiC bt.tg (.own C) (TI.no _ (bt_in bt)) ⟨rfl, rfl⟩))))))))) (fun _ => pdb_cons (pds_ret (pd_bl h))) fun z => nomatch z)
  | world l m k =>
    refine pdb_cons (pds_ifB (pdt_notB (t := true) (pdt_valB (pd_callB T.isinstance PyProof.Rows.Boot.«isinstance» (pda_cons (pd_name (i := 1) rfl rfl (pda_cons (pd_glob (v := .ref C) TI.gl rfl (pda_nil (cd_isiC (.ins _ TI.ok) (.own C) TI.yes ⟨rfl, rfl⟩))))))))) (fun z => nomatch z) fun _ => ?_)
    refine pdb_nil (pdb_cons (pds_ret (pd_callTy T.bool PyProof.Rows.Boot.«bool» (pda_cons (pd_case (d := .bl (decide (lens = l ∧ many = m ∧ kss = k))) ?_ (pda_nil (cd_boolB h)))))))
    refine pd_and (pd_cmp (pd_fld (pd_name (i := 0) rfl rfl ⟨C, _, _, rfl, TW.cl, TW.nl, look_l _ _ _, pd_fld (pd_name (i := 1) rfl rfl ⟨C, _, _, rfl, TW.cl, TW.nl, look_l _ _ _, od_eqT hu (dp_row lens) (dp_row l) (by decide) ?_⟩)⟩)))
    show if decide (W.Tup.mk lens = W.Tup.mk l) = true then _ else _
    by_cases c1 : lens = l
    · rw [if_pos (decide_eq_true (by rw [c1]))]
      refine pd_and (pd_cmp (pd_fld (pd_name (i := 0) rfl rfl ⟨C, _, _, rfl, TW.cl, TW.nm, look_m _ _ _, pd_fld (pd_name (i := 1) rfl rfl ⟨C, _, _, rfl, TW.cl, TW.nm, look_m _ _ _, od_eqT hu (x := many) (y := m) (.int _) (.int _) (by decide) ?_⟩)⟩)))
      show if decide (many = m) = true then _ else _
      by_cases c2 : many = m
      · rw [if_pos (decide_eq_true c2)]
        refine pd_one (pd_cmp (pd_fld (pd_name (i := 0) rfl rfl ⟨C, _, _, rfl, TW.cl, TW.nr, look_r _ _ _, pd_fld (pd_name (i := 1) rfl rfl ⟨C, _, _, rfl, TW.cl, TW.nr, look_r _ _ _, od_eqT hu (dp_parts kss) (dp_parts k) (by decide) ⟨?_, rfl⟩⟩)⟩)))
        exact congrArg D.bl (decide_eq_decide.mpr (parts_inj.trans ⟨fun z => ⟨c1, c2, z⟩, fun z => z.2.2⟩))
      · rw [if_neg (by rw [decide_eq_false c2]; decide)]
        exact ⟨congrArg D.bl (decide_eq_decide.mpr ⟨fun z => absurd z c2, fun z => absurd z.2.1 c2⟩), rfl⟩
    · rw [if_neg (by rw [decide_eq_false (fun z => c1 (tup_inj z))]; decide)]
      exact ⟨congrArg D.bl (decide_eq_decide.mpr ⟨fun z => absurd (tup_inj z) c1, fun z => absurd z.1 c1⟩), rfl⟩
end
end K05
end
section
set_option Elab.async false
set_option linter.all false
set_option maxRecDepth 100000
set_option maxHeartbeats 4000000
namespace K05
open PySem L2 D2
open PySem.Spec hiding Row
abbrev s_law_well : Stmt := top 26
abbrev s_law_draw : Stmt := top 27
abbrev s_law_one_of : Stmt := top 28
section
variable {P : Program} {w : World} {K : PySem.W.Frag} {mg : Str → Option Value} {base : Heap}
/-! ### what draws -/
def wellD (cs : List Int) (at_ rest : Int) : List D := [.lst (cs.map D.int), .int at_, .int rest]
/-- at most N cells were begun -/
def wellOD (K : PySem.W.Frag) (N : Int) : OD := .mp (fun F o => ∃ xs cs at_ rest, o = .lst xs ∧ IsL K F xs (wellD cs at_ rest) ∧ cs.length ≤ 60 ∧ 0 ≤ at_ ∧ at_ ≤ N ∧ 0 ≤ rest)
  fun F F' o e ⟨xs, cs, a, r, h1, h2, h3⟩ => ⟨xs, cs, a, r, h1, h2.mono e, h3⟩
theorem well_close {N : Int} {cs : List Int} {a r : Int} (h1 : cs.length ≤ 60) (h2 : 0 ≤ a) (h3 : a ≤ N) (h4 : 0 ≤ r) : ∀ F o, (OD.lst (wellD cs a r)).Ok K F o → (wellOD K N).Ok K F o := fun F o ⟨xs, e, i⟩ => ⟨xs, cs, a, r, e, i, h1, h2, h3, h4⟩
def tWell : Ct := fun ds L P R => ∃ ns : List Int, ds = [.fro (ns.map D.int)] ∧ ∀ p, P (.ref p) ((p, wellOD K 0) :: L)
theorem sc_law_well : FnScope ["script", "cell"] ["script"] (defScope s_law_well) := ⟨rfl, rfl, rfl, by decide +kernel, rfl, by decide +kernel, by decide +kernel⟩
theorem cut_map (ns : List Int) : cutD (ns.map D.int) none (some 60) = (ns.take 60).map D.int := by
  unfold cutD
  rw [show (some 60 : Option Int) = some ((60 : Nat) : Int) from rfl, HT.sIx_nat, HT.sIx_none, List.drop_zero, Nat.sub_zero, ← List.map_take, List.length_map]
  congr 1
  by_cases h : 60 ≤ ns.length
  · rw [Nat.min_eq_left h]
  · rw [Nat.min_eq_right (by omega), List.take_length, List.take_of_length_le (by omega)]
theorem ok_law_well {f : Addr} {fd : FuncData} (F : Fun K "_law_well" "_law_well" s_law_well f fd) (T : Txt0 K mg) : FnOk P w K mg base (L2.CX P w) 1 f fd ["script"] (spD K (tWell (K := K))) := by
  refine fn_okD F sc_law_well (fun ds L P R ⟨ns, e, _⟩ => by rw [e]; rfl) fun cdv A outer s H E ds L P1 R hr ⟨ns, e, h⟩ => ?_
  subst e
  refine pdb_cons (pds_ret (pd_shr (pd_lst (pda_cons (pd_lcF (own := [("cell", 1)]) (g := gName 1) rfl sc_law_well.nd (blk_nf (N := ["script", "cell"]) (by decide +kernel)) (fun _ _ _ _ _ => pg_name (i := 1) sc_law_well.nd rfl (Or.inl rfl)) ?_)))))
  refine pdi_list (pd_slice (pd_name (i := 0) rfl rfl ?_))
  show PD _ _ _ _ (fun d L1 => ∃ i, d = .int i ∧ _) _
  refine pd_int ⟨60, rfl, sld_list (.fro _) ⟨_, .inl rfl, ?_⟩⟩
  rw [cut_map]
  refine lc_itemsF ((ns.take 60).map D.int) rfl SubL.nil (by rw [List.length_map, List.length_take, sizeLine_eq]; omega) ?_ ?_
  · intro i d y hd hy
    rw [hd] at hy
    cases hy
    obtain ⟨n, _, rfl⟩ : ∃ n, (ns.take 60)[i]? = some n ∧ D.int n = d := by
      rw [List.getElem?_map] at hd
      cases e : (ns.take 60)[i]? with
      | none => rw [e] at hd; cases hd
      | some n => rw [e] at hd; exact ⟨n, rfl, Option.some.inj hd⟩
    refine ⟨[(1, _)], gd_name, by simp, fun Y q acc ⟨s0, H0, C0, cl0, fp0, eY⟩ => ?_⟩
    subst eY
    exact pd_callTy T.int PyProof.Rows.Boot.«int» (pda_cons (pd_name (i := 1) rfl rfl (pda_nil (cd_int ⟨rfl, Lw.refl _⟩))))
  · refine pda_cons (pd_int (pda_cons (pd_int (pda_nil ⟨by show 3 ≤ sizeLine; decide, fun p => ⟨_, Foc.here.lc ?_, h p⟩⟩))))
    exact well_close (by rw [List.length_take]; omega) (by decide) (by decide) (by decide)

/-! ### _law_draw -/
def most : Int := 1000000
def tDraw : Ct := fun ds L P R => ∃ (p : Addr) (m n : Int) (L' : Led), ds = [.ref p, .int m] ∧ 0 < m ∧ m < 2 ^ 60 ∧ n < most ∧ Foc p (wellOD K n) (wellOD K (n + 1)) L L' ∧ ∀ r : Int, 0 ≤ r → r < m → P (.int r) L'
theorem sc_law_draw : FnScope ["well", "many", "rest", "at", "cell", "mixed"] ["well", "many"] (defScope s_law_draw) := ⟨rfl, rfl, rfl, by decide +kernel, rfl, by decide +kernel, by decide +kernel⟩
theorem well_open {N : Int} : ∀ F o, (wellOD K N).Ok K F o → ∃ y : OD, (∃ cs a r, y = .lst (wellD cs a r) ∧ cs.length ≤ 60 ∧ 0 ≤ a ∧ a ≤ N ∧ 0 ≤ r) ∧ y.Ok K F o := fun F o ⟨xs, cs, a, r, h1, h2, h3, h4, h5, h6⟩ => ⟨_, ⟨cs, a, r, rfl, h3, h4, h5, h6⟩, xs, h1, h2⟩
theorem wide_of {j : Int} (h : 0 < j) (hb : j < 2 ^ 62) (i : Int) : CDivW i j := wide_div h (b := 62) (by omega) (by decide) (by decide)
theorem cpow_of {i j : Int} (h0 : 0 ≤ i) (h1 : i < 2 ^ 63) (h2 : 0 ≤ j) (h3 : j ≤ 100) : CPow i j := ⟨h2, by omega, by omega⟩
theorem cmul_of {i j : Int} (h0 : 0 ≤ i) (h1 : i < 2 ^ 63) : CMul i j := .inl ⟨by omega, by omega⟩
theorem mod_rng {a m : Int} (h : 0 < m) : 0 ≤ a % m ∧ a % m < m := ⟨Int.emod_nonneg _ (by omega), Int.emod_lt_of_pos _ h⟩
abbrev bInt := PyProof.Rows.Boot.«int»
abbrev bAbs := PyProof.Rows.Boot.«abs»
theorem ok_law_draw {f : Addr} {fd : FuncData} (F : Fun K "_law_draw" "_law_draw" s_law_draw f fd) (T : Txt0 K mg) : FnOk P w K mg base (L2.CX P w) 1 f fd ["well", "many"] (spD K (tDraw (K := K))) := by
  refine fn_okD F sc_law_draw (fun ds L P R ⟨p, m, n, L', e, _⟩ => by rw [e]; rfl) fun cdv A outer s H E ds L P1 R hr ⟨p, m, n, L', e, m0, m1, nm, fo, h⟩ => ?_
  subst e
  have hu := hr.units
  have hn : n < 1000000 := nm
  refine pdb_open (x := wellOD K n) fo.mem well_open ?_
  rintro y ⟨cs, at_, rest, rfl, hc, a0, a1, r0⟩
  obtain ⟨L1, f1, g1⟩ := fo.via (.lst (wellD cs at_ rest))
  refine ⟨L1, f1, ?_⟩
  have ix2 : ∀ {cs a r}, atI (wellD cs a r) 2 = some (.int r) := fun {cs a r} => rfl
  have ix1 : ∀ {cs a r}, atI (wellD cs a r) 1 = some (.int a) := fun {cs a r} => rfl
  have ix0 : ∀ {cs a r}, atI (wellD cs a r) 0 = some (.lst (cs.map D.int)) := fun {cs a r} => rfl
  -- if well[2] > 0
  refine pdb_cons <| pds_ifB (t := decide (0 < rest)) (pdt_cmp <| pd_ix <| pd_name (i := 0) rfl rfl <| pd_int <| ixd_seq (.own g1.mem) ix2 <| pd_int <| od_gtI ⟨_, rfl, rfl, rfl⟩) (fun ht => ?_) fun ht => ?_
  · refine pdb_cons <| pds_asg <| pd_callTy T.int bInt <| pda_cons <| pd_ix <| pd_name (i := 0) rfl rfl <| pd_int <| ixd_seq (.own g1.mem) ix2 <| pda_nil <| cd_int <| pgd_name (i := 2) sc_law_draw.nd rfl ?_
    obtain ⟨L2, f2, g2⟩ := g1.via (.lst (wellD cs at_ (rest / m)))
    refine pdb_cons <| pds_setIx <| pd_bin <| pd_name (i := 2) rfl rfl <| pd_name (i := 1) rfl rfl <| od_fdivW (wide_of m0 (by omega) _) <| pd_name (i := 0) rfl rfl <| pd_int ⟨p, wellD cs at_ rest, 2, 2, L2, rfl, rfl, rfl, f2, ?_⟩
    refine pdb_cons <| pds_ret <| pd_shr <| pd_bin <| pd_callTy T.int bInt <| pda_cons <| pd_name (i := 2) rfl rfl <| pda_nil <| cd_int <| pd_name (i := 1) rfl rfl <| od_modI m0 ⟨L', g2.lc ?_, h _ (mod_rng m0).1 (mod_rng m0).2⟩
    exact well_close hc a0 (by omega) (Int.ediv_nonneg r0 (by omega))
  -- at = well[1]; well[1] = at + 1
  refine pdb_nil <| pdb_cons <| pds_asg <| pd_ix <| pd_name (i := 0) rfl rfl <| pd_int <| ixd_seq (.own g1.mem) ix1 <| pgd_name (i := 3) sc_law_draw.nd rfl ?_
  obtain ⟨L2, f2, g2⟩ := g1.via (.lst (wellD cs (at_ + 1) rest))
  refine pdb_cons <| pds_setIx <| pd_bin <| pd_name (i := 3) rfl rfl <| pd_int <| od_addI <| pd_name (i := 0) rfl rfl <| pd_int ⟨p, wellD cs at_ rest, 1, 1, L2, rfl, rfl, rfl, f2, ?_⟩
  -- cell
  refine pdb_cons <| pds_asg <| pd_bin <| pd_bin <| pd_int <| pd_name (i := 3) rfl rfl <| od_mulI (cmul_of (by decide) (by decide)) <| pd_int <| od_addI <| pgd_name (i := 4) sc_law_draw.nd rfl ?_
  refine pdb_cons <| pds_ifJ (fun ρ L3 => L3 = L2 ∧ ∃ cell : Int, ρ = [some (.ref p), some (.int m), none, some (.int at_), some (.int cell), none]) ?_ ?_
  · refine pdt_case (t := !decide (cs = [])) (pdt_cmp <| pd_ix <| pd_name (i := 0) rfl rfl <| pd_int <| ixd_seq (.own g2.mem) ix0 <| pd_lstF <| pda_nil ⟨by show 0 ≤ sizeLine; decide, od_neT (y := ([] : List Int)) hu (dp_ints cs) (.lst .nil) (by decide) ⟨_, rfl, rfl, rfl⟩⟩) ?_
    by_cases c : cs = []
    · rw [if_neg (by rw [decide_eq_true c]; decide)]
      exact pdb_nil ⟨rfl, _, rfl⟩
    · rw [if_pos (by rw [decide_eq_false c]; rfl)]
      have cl : 0 < (cs.length : Int) := by
        cases cs with
        | nil => exact absurd rfl c
        | cons a b => show (0 : Int) < ((b.length + 1 : Nat) : Int); omega
      have hr2 := mod_rng (a := at_) cl
      have hget : (cs.map D.int)[(at_ % (cs.length : Int)).toNat]? = some (.int (cs[(at_ % (cs.length : Int)).toNat]'(by omega))) := by
        rw [List.getElem?_map, List.getElem?_eq_getElem (by omega)]
        rfl
      refine pdb_cons <| pds_asg <| pd_ix <| pd_ix <| pd_name (i := 0) rfl rfl <| pd_int <| ixd_seq (.own g2.mem) ix0 ?_
      refine pd_bin <| pd_callTy T.int bInt <| pda_cons <| pd_name (i := 3) rfl rfl <| pda_nil <| cd_int <| pd_callB T.len PySem.boot_len <| pda_cons <| pd_ix <| pd_name (i := 0) rfl rfl <| pd_int <| ixd_seq (.own g2.mem) ix0 <| pda_nil <| cd_len (.lst _) ?_
      rw [List.length_map]
      exact od_modI cl <| ixd_seq (.lst _) (atI_some hr2.1 hget) <| pgd_name (i := 4) sc_law_draw.nd rfl <| pdb_nil ⟨rfl, _, rfl⟩
  rintro ρ L3 ⟨rfl, cell, rfl⟩
  -- a great cell
  refine pdb_cons <| pds_ifJ (fun ρ L4 => L4 = L3 ∧ ρ = [some (.ref p), some (.int m), none, some (.int at_), some (.int cell), none]) ?_ ?_
  · refine pdt_and <| pdt_cmp <| pd_name (i := 3) rfl rfl <| pd_callB T.len PySem.boot_len <| pda_cons <| pd_ix <| pd_name (i := 0) rfl rfl <| pd_int <| ixd_seq (.own g2.mem) ix0 <| pda_nil <| cd_len (.lst _) <| od_ltI ⟨_, rfl, ?_⟩
    refine iteD (fun _ => ?_) fun _ => ?_
    · refine pdt_and1 <| pdt_cmp <| pd_callB T.abs bAbs <| pda_cons <| pd_name (i := 4) rfl rfl <| pda_nil <| cd_abs <| pd_bin <| pd_int <| pd_int <| od_powI (cpow_of (by decide) (by decide) (by decide) (by decide)) <| od_gtI ⟨_, rfl, ?_⟩
      refine iteD (fun hb => ?_) fun _ => ?_
      · refine pdb_cons <| pds_asg <| pd_bin <| pd_callB T.abs bAbs <| pda_cons <| pd_name (i := 4) rfl rfl <| pda_nil <| cd_abs <| pd_bin <| pd_int <| pd_int <| od_powI (cpow_of (by decide) (by decide) (by decide) (by decide)) <| od_subI <| pgd_name (i := 2) sc_law_draw.nd rfl ?_
        obtain ⟨L5, f5, g5⟩ := g2.via (.lst (wellD cs (at_ + 1) (((if cell < 0 then -cell else cell) - 10 ^ (18 : Int).toNat) / m)))
        refine pdb_cons <| pds_setIx <| pd_bin <| pd_callTy T.int bInt <| pda_cons <| pd_name (i := 2) rfl rfl <| pda_nil <| cd_int <| pd_name (i := 1) rfl rfl <| od_fdivW (wide_of m0 (by omega) _) <| pd_name (i := 0) rfl rfl <| pd_int ⟨p, wellD cs (at_ + 1) rest, 2, 2, L5, rfl, rfl, rfl, f5, ?_⟩
        refine pdb_cons <| pds_ret <| pd_shr <| pd_bin <| pd_callTy T.int bInt <| pda_cons <| pd_name (i := 2) rfl rfl <| pda_nil <| cd_int <| pd_name (i := 1) rfl rfl <| od_modI m0 ⟨L', g5.lc ?_, h _ (mod_rng m0).1 (mod_rng m0).2⟩
        exact well_close hc (by omega) (by omega) (Int.ediv_nonneg (by omega) (by omega))
      · exact pdb_nil ⟨rfl, rfl⟩
    · exact pdb_nil ⟨rfl, rfl⟩
  rintro ρ L4 ⟨rfl, rfl⟩
  have q1 := mod_rng (a := cell) (m := 2147483563) (by decide)
  have b1 : 0 ≤ cell % 2147483563 + 90017 * at_ + 4339 ∧ cell % 2147483563 + 90017 * at_ + 4339 < 2 ^ 63 := by omega
  refine pdb_cons <| pds_asg <| pd_bin <| pd_callTy T.int bInt <| pda_cons <| pd_bin <| pd_bin <| pd_bin <| pd_bin <| pd_callTy T.int bInt <| pda_cons <| pd_name (i := 4) rfl rfl <| pda_nil <| cd_int <| pd_int <| od_modI (by decide) <| pd_bin <| pd_int <| pd_name (i := 3) rfl rfl <| od_mulI (cmul_of (by decide) (by decide)) <| od_addI <| pd_int <| od_addI <| pd_int <| od_powI (cpow_of b1.1 b1.2 (by decide) (by decide)) <| pda_nil <| cd_int <| pd_int <| od_modI (by decide) <| pgd_name (i := 5) sc_law_draw.nd rfl ?_
  have q2 := mod_rng (a := (cell % 2147483563 + 90017 * at_ + 4339) ^ (5 : Int).toNat) (m := 2147483587) (by decide)
  generalize (cell % 2147483563 + 90017 * at_ + 4339) ^ (5 : Int).toNat % 2147483587 = mixed at q2 ⊢
  have b2 : 0 ≤ mixed * (2 * at_ + 4339) ∧ mixed * (2 * at_ + 4339) ≤ 2147483587 * 2004339 := ⟨Int.mul_nonneg q2.1 (by omega), Int.mul_le_mul (by omega) (by omega) (by omega) (by decide)⟩
  have b3 : 0 ≤ 90017 * at_ * at_ ∧ 90017 * at_ * at_ ≤ 90017000000 * 1000000 := ⟨Int.mul_nonneg (by omega) (by omega), Int.mul_le_mul (by omega) (by omega) (by omega) (by decide)⟩
  have b4 : 0 ≤ mixed * (2 * at_ + 4339) + 90017 * at_ * at_ + 4339 ∧ mixed * (2 * at_ + 4339) + 90017 * at_ * at_ + 4339 < 2 ^ 63 := by omega
  refine pdb_cons <| pds_asg <| pd_bin <| pd_callTy T.int bInt <| pda_cons <| pd_bin <| pd_bin <| pd_bin <| pd_bin <| pd_name (i := 5) rfl rfl <| pd_bin <| pd_bin <| pd_int <| pd_name (i := 3) rfl rfl <| od_mulI (cmul_of (by decide) (by decide)) <| pd_int <| od_addI <| od_mulI (cmul_of q2.1 (by omega)) <| pd_bin <| pd_bin <| pd_int <| pd_name (i := 3) rfl rfl <| od_mulI (cmul_of (by decide) (by decide)) <| pd_name (i := 3) rfl rfl <| od_mulI (cmul_of (by omega) (by omega)) <| od_addI <| pd_int <| od_addI <| pd_int <| od_powI (cpow_of b4.1 b4.2 (by decide) (by decide)) <| pda_nil <| cd_int <| pd_int <| od_modI (by decide) <| pgd_name (i := 5) sc_law_draw.nd rfl ?_
  refine pdb_cons <| pds_ret <| pd_shr <| pd_bin <| pd_callTy T.int bInt <| pda_cons <| pd_bin <| pd_name (i := 5) rfl rfl <| pd_int <| od_fdivI ⟨by decide, by decide⟩ <| pda_nil <| cd_int <| pd_name (i := 1) rfl rfl <| od_modI m0 ⟨L', g2.lc ?_, h _ (mod_rng m0).1 (mod_rng m0).2⟩
  exact well_close hc (by omega) (by omega) r0
/-! ### _law_one_of -/
/-- one of some things: the sequence must be longer than none -/
def tOneOf : Ct := fun ds L P R => ∃ (p : Addr) (d : D) (xs : List D) (n : Int) (L' : Led), ds = [.ref p, d] ∧ Sq L d xs ∧ 0 < xs.length ∧ xs.length ≤ sizeLine ∧ n < most ∧ Foc p (wellOD K n) (wellOD K (n + 1)) L L' ∧ (∀ ys, Sq L d ys → ys = xs → Sq L' d ys) ∧ ∀ x ∈ xs, P x L'
theorem sc_law_one_of : FnScope ["well", "some"] ["well", "some"] (defScope s_law_one_of) := ⟨rfl, rfl, rfl, by decide +kernel, rfl, by decide +kernel, by decide +kernel⟩
theorem ok_law_one_of {f : Addr} {fd : FuncData} (F : Fun K "_law_one_of" "_law_one_of" s_law_one_of f fd) (T : Txt0 K mg) (GD : Fn P w K mg base "_law_draw" 1 ["well", "many"] (tDraw (K := K))) : FnOk P w K mg base (L2.CX P w) 2 f fd ["well", "some"] (spD K (tOneOf (K := K))) := by
  refine fn_okD F sc_law_one_of (fun ds L P R ⟨p, d, xs, n, L', e, _⟩ => by rw [e]; rfl) fun cdv A outer s H E ds L P1 R hr ⟨p, d, xs, n, L', e, sq, h0, h1, nm, fo, keep, h⟩ => ?_
  subst e
  have hz : (sizeLine : Int) < 2 ^ 60 := by rw [sizeLine_eq]; decide
  refine pdb_cons <| pds_ret <| pd_ix <| pd_name (i := 1) rfl rfl <| pd_fn GD hr (by decide) <| pda_cons <| pd_name (i := 0) rfl rfl <| pda_cons <| pd_callB T.len PySem.boot_len <| pda_cons <| pd_name (i := 1) rfl rfl <| pda_nil <| cd_len sq <| pda_nil ⟨p, _, n, L', rfl, by omega, by omega, nm, fo, fun r r0 r1 => ?_⟩
  have hi : xs[r.toNat]? = some (xs[r.toNat]'(by omega)) := List.getElem?_eq_getElem _
  exact ixd_seq (keep _ sq rfl) (atI_some r0 hi) (h _ (List.getElem_mem _))
end
end K05
end
section
set_option Elab.async false
set_option linter.all false
set_option maxRecDepth 100000
set_option maxHeartbeats 4000000
namespace K05
open PySem L2 D2
open PySem.Spec hiding Row
section
variable {P : Program} {w : World} {K : PySem.W.Frag} {mg : Str → Option Value} {base : Heap}
/-- the class's == and len as they are found -/
structure WorldM (P : Program) (w : World) (K : PySem.W.Frag) (mg : Str → Option Value) (base : Heap) (C : Addr) : Prop where
  len : ∃ (f : Addr) (fd : FuncData), FnOk P w K mg base (L2.CX P w) 1 f fd ["self"] (spD K (tLen C)) ∧ Binds K fd ["self"] [] ∧ PySem.W.findIn K (.ref C) "__len__" = some (some (.ref f)) ∧ PySem.W.isFn K (.ref f) = true
  eq : ∃ (f : Addr) (fd : FuncData), FnOk P w K mg base (L2.CX P w) 1 f fd ["self", "other"] (spD K (tEq C)) ∧ Binds K fd ["self", "other"] [] ∧ PySem.W.findIn K (.ref C) "__eq__" = some (some (.ref f)) ∧ PySem.W.isFn K (.ref f) = true
  nf : ∀ n, n = "NoneType" ∨ n = "bool" ∨ n = "int" ∨ n = "str" ∨ n = "list" ∨ n = "tuple" ∨ n = "dict" → PySem.W.notFirst K C (.type n) = true
  ns : PySem.W.notFirst K C (.ref C) = true
structure InitM (P : Program) (w : World) (K : PySem.W.Frag) (mg : Str → Option Value) (base : Heap) (C CW CN CM : Addr) : Prop where
  gl : mg "World" = some (.ref C)
  ex : ∃ (f : Addr) (fd : FuncData), FnOk P w K mg base (L2.CX P w) 4 f fd ["self", "lengths", "many", "rows"] (spD K (tInit (K := K) C CW CN CM)) ∧ Mk K C f ∧ Binds K fd ["self", "lengths", "many", "rows"] []
theorem bt_int {L : Led} {lens : List Int} : ∀ y ∈ lens.map D.int, ∃ n, Bt L y n := fun y hy => by
  obtain ⟨n, _, rfl⟩ := List.mem_map.mp hy
  exact ⟨_, .int n⟩
theorem lenOk_of {lens : List Int} (h : ∀ n ∈ lens, 1 ≤ n ∧ n ≤ 8) (hl : lens.length ≤ 80) : onSeq (some (lens.map D.int)) lenOk = true := by
  show lenOk (lens.map D.int) = true
  unfold lenOk
  rw [List.length_map, decide_eq_true hl, Bool.true_and, List.all_eq_true]
  intro y hy
  obtain ⟨n, hn, rfl⟩ := List.mem_map.mp hy
  rw [within_int]
  show (decide (1 ≤ n) && decide (n ≤ 8)) = true
  rw [decide_eq_true (h n hn).1, decide_eq_true (h n hn).2]
  rfl
/-- a call of World(..) with good lengths and places -/
theorem mk_world {C CW CN CM : Addr} {L : Led} {P1 : PK1} {R : RK1} {dl dr : D} {lens : List Int} {many : Int} {o : Option (List PartD)} (sq : Sq L dl (lens.map D.int)) (h8 : ∀ n ∈ lens, 1 ≤ n ∧ n ≤ 8) (hl : lens.length ≤ 80) (m1 : 1 ≤ many) (m2 : many ≤ 600) (ho : RowsD L dl lens dr o) (few : ∀ ps, o = some ps → ∀ p ∈ ps, (keysOf p).length ≤ 1228)
    (bad : onParts o (rowsOk lens many) = false → ∀ L', Lw L' L → R CW [("part", .str "rows")] L') (much : ∀ ps, o = some ps → rowsOk lens many ps = true → 1000 < total (kept ps) → ∀ L', Lw L' L → R CM [("most", .int 1000), ("what", .str "rows")] L')
    (good : ∀ ps, o = some ps → rowsOk lens many ps = true → total (kept ps) ≤ 1000 → P1 (worldD C lens many (kept ps)) L) : MkD K C (tInit (K := K) C CW CN CM) [dl, .int many, dr] L P1 R := fun x dx => by
  refine ⟨x, dx, dl, .int many, dr, some (lens.map D.int), "int", L, rfl, rfl, .seq sq, (fun xs e y hy => (by cases e; exact bt_int y hy)), .int many, (fun z => (by rw [lenOk_of h8 hl] at z; cases z)), (fun _ z => ?_), (fun lens' many' e1 _ e2 _ _ _ _ => ?_)⟩
  · rw [within_int] at z
    have z : (decide (1 ≤ many) && decide (many ≤ 600)) = false := z
    rw [decide_eq_true m1, decide_eq_true m2] at z
    cases z
  · have el : lens.map D.int = lens'.map D.int := Option.some.inj e1
    have el : lens = lens' := map_inj (f := D.int) (fun a b e => by injection e with e; injection e) el
    have em : many = many' := by injection e2 with e2; injection e2
    subst el em
    refine ⟨o, ho, bad, fun ps e hok => ⟨few ps e, fun ht => ⟨rfl, worldF lens many (kept ps), L, Lw.refl _, good ps e hok ht⟩, fun ht => much ps e hok ht⟩⟩
end
end K05
end
section
set_option Elab.async false
set_option linter.all false
set_option maxRecDepth 100000
set_option maxHeartbeats 4000000
namespace K05
open PySem L2 D2
open PySem.Spec hiding Row
theorem hole {p : Addr} {x z : OD} : ∀ {L L' : Led}, Foc p x z L L' → ∃ ctx : OD → Led, ctx x = L ∧ ctx z = L' ∧ ∀ a b, Foc p a b (ctx a) (ctx b)
  | _, _, .here (L := L) => ⟨fun o => (p, o) :: L, rfl, rfl, fun a b => .here⟩
  | _, _, .there (e := e) h => by
    obtain ⟨c, h1, h2, h3⟩ := hole h
    exact ⟨fun o => e :: c o, by show e :: c x = _; rw [h1], by show e :: c z = _; rw [h2], fun a b => .there (h3 a b)⟩
theorem well_more {a b : Int} (h : a ≤ b) : ∀ F o, (wellOD K a).Ok K F o → (wellOD K b).Ok K F o := fun F o ⟨xs, cs, at_, r, h1, h2, h3, h4, h5, h6⟩ => ⟨xs, cs, at_, r, h1, h2, h3, h4, by omega, h6⟩
abbrev rowL (k : Row) : D := .lst (k.map D.int)
def isRowOf (len many : Int) (k : Row) : Prop := (k.length : Int) = len ∧ ∀ c ∈ k, 0 ≤ c ∧ c < many
theorem ints_of : ∀ {acc : List D} {m : Int}, (∀ y ∈ acc, ∃ c : Int, y = .int c ∧ 0 ≤ c ∧ c < m) → ∃ k : Row, acc = k.map D.int ∧ ∀ c ∈ k, 0 ≤ c ∧ c < m
  | [], m, _ => ⟨[], rfl, fun c h => nomatch h⟩
  | y :: acc, m, h => by
    obtain ⟨c, rfl, h1⟩ := h y List.mem_cons_self
    obtain ⟨k, rfl, h2⟩ := ints_of fun z hz => h z (List.mem_cons_of_mem _ hz)
    refine ⟨c :: k, rfl, fun z hz => ?_⟩
    rcases List.mem_cons.mp hz with e | e
    · rw [e]; exact h1
    · exact h2 z e
/-! ### rows as sets: plain facts -/
theorem asc_same {a b : List Row} (h : ∀ x, x ∈ a ↔ x ∈ b) : asc a = asc b := asc1_eq (asc_asc a) (asc_asc b) fun x => by rw [asc_mem, asc_mem, h]
theorem asc_again (a : List Row) : asc (asc a) = asc a := asc_same fun x => asc_mem a x
theorem asc_rev (a : List Row) : asc a.reverse = asc a := asc_same fun x => List.mem_reverse
theorem asc_add {a : List Row} {k : Row} : asc (asc a ++ [k]) = asc a ↔ k ∈ asc a := by
  constructor
  · intro e
    have z : k ∈ asc (asc a ++ [k]) := (asc_mem _ _).mpr (List.mem_append_right _ (List.mem_singleton.mpr rfl))
    rw [e] at z
    exact z
  · intro h
    rw [← asc_again a]
    refine asc_same fun x => ?_
    rw [asc_again]
    exact ⟨fun z => (List.mem_append.mp z).elim id fun q => by rw [List.mem_singleton.mp q]; exact h, fun z => List.mem_append_left _ z⟩
theorem nodup_len : ∀ {a b : List Row}, a.Nodup → (∀ x ∈ a, x ∈ b) → a.length ≤ b.length
  | [], _, _, _ => Nat.zero_le _
  | k :: a, b, n, h => by
    obtain ⟨n1, n2⟩ := List.nodup_cons.mp n
    obtain ⟨b1, b2, rfl⟩ := List.append_of_mem (h k List.mem_cons_self)
    have := nodup_len (b := b1 ++ b2) n2 fun x hx => by
      have z := h x (List.mem_cons_of_mem _ hx)
      rcases List.mem_append.mp z with q | q
      · exact List.mem_append_left _ q
      · rcases List.mem_cons.mp q with q | q
        · rw [q] at hx; exact absurd hx n1
        · exact List.mem_append_right _ q
    rw [List.length_append] at this ⊢
    rw [List.length_cons, List.length_cons]
    omega
theorem asc_le (a : List Row) : (asc a).length ≤ a.length := nodup_len (asc_nodup a) fun x h => (asc_mem a x).mp h
theorem asc_len {a : List Row} (h : a.Nodup) : (asc a).length = a.length := Nat.le_antisymm (asc_le a) (nodup_len h fun x z => (asc_mem a x).mpr z)
theorem total_le {n : Int} : ∀ {kss : List (List Row)}, (∀ ks ∈ kss, (ks.length : Int) ≤ n) → total kss ≤ n * kss.length
  | [], _ => by simp [total]
  | ks :: kss, h => by
    have a := h ks List.mem_cons_self
    have b := total_le (kss := kss) fun x hx => h x (List.mem_cons_of_mem _ hx)
    unfold total at b ⊢
    rw [List.map_cons, List.sum_cons, List.length_cons, Int.natCast_add, Int.mul_add]
    omega
/-! ### parts told as rows of cells -/
/-- rows told as the keys ks -/
def RsK (L : Led) : List D → List Row → Prop := Paired fun r k => Sq L r (k.map D.int)
/-- a part told as the keys ks -/
def PtK (L : Led) (d : D) (ks : List Row) : Prop := ∃ rs, Sq L d rs ∧ RsK L rs ks
def okRows (n many : Int) (ks : List Row) : Prop := ∀ k ∈ ks, isRowOf n many k
theorem cells_ok {many : Int} {k : Row} : (k.map D.int).all (cellOk (some many)) = true ↔ ∀ c ∈ k, 0 ≤ c ∧ c < many := by
  rw [List.all_eq_true]
  constructor
  · intro h c hc
    have z := h _ (List.mem_map_of_mem hc)
    have z : (decide (0 ≤ c) && decide (c < many)) = true := z
    rw [Bool.and_eq_true, decide_eq_true_eq, decide_eq_true_eq] at z
    exact z
  · intro h d hd
    obtain ⟨c, hc, rfl⟩ := List.mem_map.mp hd
    show (decide (0 ≤ c) && decide (c < many)) = true
    rw [decide_eq_true (h c hc).1, decide_eq_true (h c hc).2]
    rfl
theorem row_ok {n many : Int} {k : Row} : rowOk (some n) (some many) (k.map D.int) = true ↔ isRowOf n many k := by
  unfold rowOk
  rw [Bool.and_eq_true, cells_ok]
  show decide _ = true ∧ _ ↔ _
  rw [decide_eq_true_eq, List.length_map]
  rfl
def rsO (rs : List D) (ks : List Row) : List (D × Option (List D)) := List.zipWith (fun r k => (r, some (k.map D.int))) rs ks
theorem rsO_fst {L : Led} : ∀ {rs : List D} {ks : List Row}, RsK L rs ks → (rsO rs ks).map (·.1) = rs
  | _, _, .nil => rfl
  | _, _, .cons a b => congrArg (List.cons _) (rsO_fst b)
theorem rsO_ok {L : Led} : ∀ {rs : List D} {ks : List Row}, RsK L rs ks → ∀ r ∈ rsO rs ks, Sd L r.1 r.2 ∧ ∀ xs, r.2 = some xs → ∀ x ∈ xs, ∃ n, Bt L x n
  | _, _, .nil => fun r h => nomatch h
  | _, _, .cons (a := d) (b := k) a b => fun r h => by
    rcases List.mem_cons.mp h with e | e
    · subst e
      exact ⟨.seq a, fun xs e y hy => (by cases e; exact bt_int y hy)⟩
    · exact rsO_ok b r e
theorem toI_map : ∀ k : List Int, (k.map D.int).map toI = k
  | [] => rfl
  | x :: k => congrArg (List.cons x) (toI_map k)
theorem rsO_keys {L : Led} : ∀ {rs : List D} {ks : List Row}, RsK L rs ks → ((rsO rs ks).map fun r => (r.2.getD []).map toI) = ks
  | _, _, .nil => rfl
  | _, _, .cons (b := k) a b => by
    show (k.map D.int).map toI :: _ = _
    rw [toI_map]
    exact congrArg (List.cons k) (rsO_keys b)
theorem rsO_all {L : Led} {n many : Int} : ∀ {rs : List D} {ks : List Row}, RsK L rs ks → okRows n many ks → ((rsO rs ks).all fun r => onSeq r.2 (rowOk (some n) (some many))) = true
  | _, _, .nil, _ => rfl
  | _, _, .cons (b := k) (l₁ := as) (l₂ := bs) a b, h => by
    show (rowOk (some n) (some many) (k.map D.int) && (rsO as bs).all _) = true
    rw [row_ok.mpr (h k List.mem_cons_self), rsO_all b fun x hx => h x (List.mem_cons_of_mem _ hx)]
    rfl
theorem parts_of {L : Led} : ∀ {dps : List D} {kss : List (List Row)}, Paired (PtK L) dps kss → ∃ ps : List PartD, ps.map PartD.d = dps ∧ (∀ p ∈ ps, PartOk L p) ∧ ps.map keysOf = kss ∧ ∀ (lens : List Int) (many : Int), Paired (fun n ks => okRows n many ks) lens kss → rowsOk lens many ps = true
  | _, _, .nil => ⟨[], rfl, (fun p h => nomatch h), rfl, fun lens many h => by cases h; rfl⟩
  | _, _, .cons (a := d) (b := ks) ⟨rs, a1, a2⟩ b => by
    obtain ⟨ps, h1, h2, h3, h4⟩ := parts_of b
    refine ⟨⟨d, some (rsO rs ks)⟩ :: ps, by rw [List.map_cons, h1], fun p hp => ?_, ?_, fun lens many h => ?_⟩
    · rcases List.mem_cons.mp hp with e | e
      · subst e
        refine ⟨?_, fun rs' e => ?_⟩
        · show Sd L d (some ((rsO rs ks).map (·.1)))
          rw [rsO_fst a2]
          exact .seq a1
        · cases e
          exact rsO_ok a2
      · exact h2 p e
    · rw [List.map_cons, h3]
      show ((rsO rs ks).map fun r => (r.2.getD []).map toI) :: _ = _
      rw [rsO_keys a2]
    · cases h with
      | cons c1 c2 =>
        have z := h4 _ many c2
        unfold rowsOk at z ⊢
        rw [Bool.and_eq_true] at z ⊢
        refine ⟨decide_eq_true ?_, ?_⟩
        · rw [List.length_cons, List.length_cons, of_decide_eq_true z.1]
        · rw [List.zip_cons_cons, List.all_cons, z.2, Bool.and_true]
          exact rsO_all a2 c1
/-- a World told well -/
theorem mk_ks {K : PySem.W.Frag} {C CW CN CM : Addr} {L : Led} {P1 : PK1} {R : RK1} {dl dr : D} {lens : List Int} {many : Int} {dps : List D} {kss : List (List Row)} (sq : Sq L dl (lens.map D.int)) (h8 : ∀ n ∈ lens, 1 ≤ n ∧ n ≤ 8) (hl : lens.length ≤ 80) (m1 : 1 ≤ many) (m2 : many ≤ 600)
    (zp : ∃ G, Zp L dl dr (lens.map D.int) dps G) (sr : Sq L dr dps) (hp : Paired (PtK L) dps kss) (ok : Paired (fun n ks => okRows n many ks) lens kss) (few : ∀ ks ∈ kss, ks.length ≤ 1228) (tot : total (kss.map asc) ≤ 1000)
    (good : P1 (worldD C lens many (kss.map asc)) L) : MkD K C (tInit (K := K) C CW CN CM) [dl, .int many, dr] L P1 R := by
  obtain ⟨ps, h1, h2, h3, h4⟩ := parts_of hp
  obtain ⟨G, z⟩ := zp
  have hk : kept ps = kss.map asc := by rw [← h3, List.map_map]; rfl
  refine mk_world sq h8 hl m1 m2 (o := some ps) ⟨⟨G, by rw [h1]; exact z, by rw [h1]; exact sr⟩, h2⟩ (fun ps' e p hp => ?_) (fun e => ?_) (fun ps' e _ ht => ?_) fun ps' e _ _ => ?_
  · cases e
    exact few _ (by rw [← h3]; exact List.mem_map_of_mem hp)
  · have e : rowsOk lens many ps = false := e
    rw [h4 lens many ok] at e
    cases e
  · cases e
    rw [hk] at ht
    omega
  · cases e
    rw [hk]
    exact good
/-! ### lists of lists of lists that are owned -/
def rowCells (rs : List (Addr × Row)) : Led := rs.map fun x => (x.1, .lst (x.2.map D.int))
def refs (rs : List (Addr × Row)) : List D := rs.map fun x => D.ref x.1
def partCells (x : Addr × List (Addr × Row)) : Led := (x.1, .lst (refs x.2)) :: rowCells x.2
def cells (xs : List (Addr × List (Addr × Row))) : Led := (xs.map partCells).flatten
def keysP (x : Addr × List (Addr × Row)) : List Row := x.2.map (·.2)
theorem cells_next (xs : List (Addr × List (Addr × Row))) (x : Addr × List (Addr × Row)) : cells (xs ++ [x]) = cells xs ++ partCells x := by
  unfold cells
  rw [List.map_append, List.flatten_append]
  simp
theorem rowCells_next (xs : List (Addr × Row)) (x : Addr × Row) : rowCells (xs ++ [x]) = rowCells xs ++ [(x.1, .lst (x.2.map D.int))] := by
  unfold rowCells
  rw [List.map_append]
  rfl
theorem rsk_own {L : Led} : ∀ {rs : List (Addr × Row)}, (∀ e ∈ rowCells rs, e ∈ L) → RsK L (refs rs) (rs.map (·.2))
  | [], _ => .nil
  | x :: rs, h => .cons (.own (h _ List.mem_cons_self)) (rsk_own fun e he => h e (List.mem_cons_of_mem _ he))
theorem ptk_own {L : Led} : ∀ {xs : List (Addr × List (Addr × Row))}, (∀ e ∈ cells xs, e ∈ L) → Paired (PtK L) (xs.map fun x => D.ref x.1) (xs.map keysP)
  | [], _ => .nil
  | x :: xs, h => by
    have e : cells (x :: xs) = partCells x ++ cells xs := rfl
    rw [e] at h
    exact .cons ⟨refs x.2, .own (h _ (List.mem_append_left _ List.mem_cons_self)), rsk_own fun e he => h e (List.mem_append_left _ (List.mem_cons_of_mem _ he))⟩ (ptk_own fun e he => h e (List.mem_append_right _ he))
/-- parts that are known values -/
theorem rsk_map {L : Led} {f : Row → D} (hf : ∀ k, Sq L (f k) (k.map D.int)) : ∀ ks : List Row, RsK L (ks.map f) ks
  | [] => .nil
  | k :: ks => .cons (hf k) (rsk_map hf ks)
theorem ptk_map {L : Led} {f : List Row → D} (hf : ∀ ks, PtK L (f ks) ks) : ∀ kss : List (List Row), Paired (PtK L) (kss.map f) kss
  | [] => .nil
  | k :: ks => .cons (hf k) (ptk_map hf ks)
theorem paired_appD {α β : Type} {R : α → β → Prop} : ∀ {a c : List α} {b d : List β}, Paired R a b → Paired R c d → Paired R (a ++ c) (b ++ d)
  | _, _, _, _, .nil, h => h
  | _, _, _, _, .cons r t, h => .cons r (paired_appD t h)
theorem paired_len {α β : Type} {R : α → β → Prop} : ∀ {a : List α} {b : List β}, Paired R a b → a.length = b.length
  | _, _, .nil => rfl
  | _, _, .cons r t => congrArg Nat.succ (paired_len t)
theorem paired_imp {α β : Type} {R S : α → β → Prop} (h : ∀ a b, R a b → S a b) : ∀ {a : List α} {b : List β}, Paired R a b → Paired S a b
  | _, _, .nil => .nil
  | _, _, .cons r t => .cons (h _ _ r) (paired_imp h t)
theorem paired_mapR {α β γ : Type} {R : α → γ → Prop} {f : β → γ} : ∀ {a : List α} {b : List β}, Paired (fun x y => R x (f y)) a b → Paired R a (b.map f)
  | _, _, .nil => .nil
  | _, _, .cons r t => .cons r (paired_mapR t)
theorem ok_asc {lens : List Int} {many : Int} {kss : List (List Row)} (h : Paired (fun n ks => okRows n many ks) lens kss) : Paired (fun n ks => okRows n many ks) lens (kss.map asc) := paired_mapR (paired_imp (fun n ks q k hk => q k ((asc_mem ks k).mp hk)) h)
theorem ok_rev {lens : List Int} {many : Int} {kss : List (List Row)} (h : Paired (fun n ks => okRows n many ks) lens kss) : Paired (fun n ks => okRows n many ks) lens (kss.map List.reverse) := paired_mapR (paired_imp (fun n ks q k hk => q k (List.mem_reverse.mp hk)) h)
theorem paired_set {α β : Type} {R : α → β → Prop} {x : α} {y : β} (h : R x y) : ∀ {a : List α} {b : List β} (j : Nat), Paired R a b → Paired R (a.set j x) (b.set j y)
  | _, _, _, .nil => .nil
  | _, _, 0, .cons r t => .cons h t
  | _, _, j + 1, .cons r t => .cons r (paired_set h j t)
theorem paired_setR {α β : Type} {R : α → β → Prop} {y : β} {x : α} {j : Nat} {a : List α} {b : List β} (h : R x y) (hx : a[j]? = some x) (p : Paired R a b) : Paired R a (b.set j y) := by
  have z := paired_set h j p
  obtain ⟨hj, e⟩ := List.getElem?_eq_some_iff.mp hx
  have e2 : a.set j x = a := by rw [← e, List.set_getElem_self]
  rw [e2] at z
  exact z
theorem paired_get {α β : Type} {R : α → β → Prop} {a : List α} {b : List β} {j : Nat} {x : α} {y : β} (p : Paired R a b) (hx : a[j]? = some x) (hy : b[j]? = some y) : R x y := by
  induction p generalizing j with
  | nil => cases hx
  | cons r t ih =>
    cases j with
    | zero => cases hx; cases hy; exact r
    | succ j => exact ih hx hy
theorem total_few {n : Nat} {kss : List (List Row)} (few : ∀ ks ∈ kss, ks.length ≤ n) : total (kss.map asc) ≤ n * kss.length := by
  have z := total_le (n := (n : Int)) (kss := kss.map asc) fun ks hk => by
    obtain ⟨x, hx, rfl⟩ := List.mem_map.mp hk
    have := few x hx
    have := asc_le x
    omega
  rw [List.length_map] at z
  exact z
/-! ### cuts -/
theorem six_lo {n : Nat} {i : Int} (h : 0 ≤ i) (hn : i ≤ n) : HT.sIx n 0 (some i) = i.toNat := by
  unfold HT.sIx
  simp only []
  split <;> omega
theorem six_hi {n : Nat} {i : Int} (h : 0 ≤ i) (hn : i ≤ n) : HT.sIx n n (some i) = i.toNat := by
  unfold HT.sIx
  simp only []
  split <;> omega
theorem cut_lo {ds : List D} {i : Int} (h : 0 ≤ i) (hn : i ≤ ds.length) : cutD ds (some i) none = ds.drop i.toNat := by
  unfold cutD
  rw [six_lo h hn]
  show (ds.drop i.toNat).take (ds.length - i.toNat) = _
  rw [List.take_of_length_le]
  rw [List.length_drop]
  exact Nat.le_refl _
theorem cut_hi {ds : List D} {i : Int} (h : 0 ≤ i) (hn : i ≤ ds.length) : cutD ds none (some i) = ds.take i.toNat := by
  unfold cutD
  rw [six_hi h hn]
  show (ds.drop 0).take (i.toNat - 0) = _
  rfl
theorem cut_lh {ds : List D} {i j : Int} (h : 0 ≤ i) (hn : i ≤ ds.length) (h' : 0 ≤ j) (hn' : j ≤ ds.length) : cutD ds (some i) (some j) = (ds.drop i.toNat).take (j.toNat - i.toNat) := by
  unfold cutD
  rw [six_lo h hn, six_hi h' hn']
theorem ok_sub {n many : Int} {a b : List Row} (h : okRows n many b) (s : ∀ x ∈ a, x ∈ b) : okRows n many a := fun k hk => h k (s k hk)
theorem tot1 (a : List Row) : total ([a].map asc) = (asc a).length := by simp [total]
theorem tot2 (a b : List Row) : total ([a, b].map asc) = (asc a).length + (asc b).length := by simp [total]
theorem tot3 (a b c : List Row) : total ([a, b, c].map asc) = (asc a).length + (asc b).length + (asc c).length := by simp [total]; omega
theorem drop_next {α : Type} {xs : List α} {i : Nat} {x : α} (h : xs[i]? = some x) : xs.drop i = x :: xs.drop (i + 1) := by
  obtain ⟨hi, e⟩ := List.getElem?_eq_some_iff.mp h
  rw [← e]
  exact List.drop_eq_getElem_cons hi
theorem lens_ints : ∀ {acc : List D}, (∀ y ∈ acc, ∃ c : Int, y = .int c ∧ 1 ≤ c ∧ c ≤ 8) → ∃ k : List Int, acc = k.map D.int ∧ ∀ c ∈ k, 1 ≤ c ∧ c ≤ 8
  | [], _ => ⟨[], rfl, fun c h => nomatch h⟩
  | y :: acc, h => by
    obtain ⟨c, rfl, hc⟩ := h y List.mem_cons_self
    obtain ⟨k, rfl, hk⟩ := lens_ints fun z hz => h z (List.mem_cons_of_mem _ hz)
    exact ⟨c :: k, rfl, fun x hx => (List.mem_cons.mp hx).elim (fun e => e ▸ hc) (hk x)⟩
theorem take_get {α : Type} {xs : List α} {i : Nat} {x : α} (h : xs[i]? = some x) : xs.take (i + 1) = xs.take i ++ [x] := by
  rw [List.take_succ, h]
  rfl
theorem asc_asc_map (kss : List (List Row)) : (kss.map asc).map asc = kss.map asc := by
  rw [List.map_map]
  exact List.map_congr_left fun x _ => asc_again x
theorem rev_asc_map (kss : List (List Row)) : (kss.map List.reverse).map asc = kss.map asc := by
  rw [List.map_map]
  exact List.map_congr_left fun x _ => asc_rev x
section
variable {P : Program} {w : World} {K : PySem.W.Frag} {mg : Str → Option Value} {base : Heap}
variable {C CW CN CM : Addr} {f : Addr} {cdv : Value} {A : Around} {outer : List Env} {s : Shared} {H : Hp} {E : XK} {P1 : PK1} {R : RK1}
/-- == of two worlds -/
theorem eq_worlds {X : Cx} {k : Nat} {l l' : List Int} {m m' : Int} {ks ks' : List (List Row)} {L : Led} {P2 : PK1} (WM : WorldM X.prog X.w X.K X.mg X.base C) (ok : ClsOk X.K C) (hr : Room k X.A) (hk : 1 ≤ k) (h : P2 (.bl (decide (l = l' ∧ m = m' ∧ ks = ks'))) L) : OpD X (compareOp .Eq) (worldD C l m ks) (worldD C l' m' ks') L P2 := by
  obtain ⟨fe, fde, ge, be, he, ie⟩ := WM.eq
  exact od_eqOwn ge (hr.mono hk) be he ie (.ins _ ok) WM.ns rfl ⟨l, m, ks, _, _, rfl, .world _ _ _, _, rfl, h⟩
/-- == of a world and no world -/
theorem eq_other {X : Cx} {k : Nat} {l : List Int} {m : Int} {ks : List (List Row)} {d : D} {n : String} {L : Led} {P2 : PK1} (WM : WorldM X.prog X.w X.K X.mg X.base C) (b : Bt L d n) (hr : Room k X.A) (hk : 1 ≤ k) (h : P2 (.bl false) L) : OpD X (compareOp .Eq) (worldD C l m ks) d L P2 := by
  obtain ⟨fe, fde, ge, be, he, ie⟩ := WM.eq
  have tg : Tg X.K L d (.type n) := by cases b <;> constructor <;> assumption
  exact od_eqOwn ge (hr.mono hk) be he ie tg (WM.nf n (bt_in b)) rfl ⟨l, m, ks, _, _, rfl, .no b, _, rfl, h⟩
end
end K05
end
section
set_option Elab.async false
set_option linter.all false
set_option maxRecDepth 100000
set_option maxHeartbeats 4000000
namespace D2
open PySem L2
open PySem.Spec hiding Row
section
variable {X : Cx} {ρ : Rho} {L : Led} {P : PK1} {R : RK1} {pos : Pos}
/-- f(k = v, ..) -/
theorem pd_callK0 {x : Str} {k : Nat} {f : Addr} {fd : FuncData} {ps ks : List Str} {T : Ct} {p : Pos} {kws : List Keyword} {g : List Value → List Value → List Value} {gV : List V → List V → List V} (gD : List D → List D) (G : FnOk X.prog X.w X.K X.mg X.base (L2.CX X.prog X.w) k f fd ps (spD X.K T)) (hr : Room k X.A) (hm : X.mg x = some (.ref f)) (hk : PySem.W.keepIn X.K (.ref f) = true)
    (hb : KBn X.K fd ps 0 ks g gV) (hgd : ∀ (F : Hp) (zs : List V) (ds : List D), zs.length = ks.length → IsL X.K F zs ds → IsL X.K F (gV [] zs) (gD ds)) (h : PDK X kws ρ L (fun ds L1 => ds.length = ks.length ∧ T (gD ds) L1 P R) R) (hg : Gl X x := by rfl)
    (hall : (backToKw pos (keywordEach kws X.env)).all (·.1.isSome) = true := by rfl) (hks : (backToKw pos (keywordEach kws X.env)).filterMap (·.1) = ks := by rfl) (hdb : (x == ("__debug__" : Str)) = false := by decide)
    (hpl : ((backTo pos (starEach [] X.env)).any (·.1) || (backToKw pos (keywordEach kws X.env)).any (·.1.isNone)) = false := by rfl) : PD X (.Call (.Name x p) [] kws pos) ρ L P R := .mk fun σ H F W A pins s I => by
  refine wpAny_Call_Name_kw (ld_glob I hg hm ?_ hdb)
  refine PySem.W.callWith_KW0 (h₀ := X.base) I.ok.mod.kin hk hall ?_ hpl
  refine thn ((h.step (Q := fun vs H1 => ∃ F1 ds L1, Same F F1 ∧ At X ρ L1 R σ H1 F1 W ∧ IsL X.K F1 vs ds ∧ ds.length = ks.length ∧ T (gD ds) L1 P R) A fun vs H1 F1 ds L1 s1 A1 i1 q => ⟨F1, ds, L1, s1, A1, i1, q⟩) pos pins s I) fun ws s1 ⟨zs, H1, I1, r, F1, ds, L1, s1', A1, i1, hl, q⟩ => ⟨I1.kIn, ?_⟩
  rw [hks]
  have zl : zs.length = ks.length := by rw [i1.length]; exact hl
  have r2 := hb.rel (Paired.nil : Vals [] []) r
  have hsp : spD X.K T (gV [] zs) H1 (fun v H2 => upV X.K F P v H2) (fun c d H' => W c d σ H') := ⟨F1, _, _, P, R, hgd F1 zs ds zl i1, A1.own, q, fun v H' p => p.mono s1' fun _ _ p => p, fun c d H' p => A1.ex c d H' p⟩
  refine wpAny_call (codeAny_mono (G.run X.A X.stack s1 H1 ⟨[], ks.zip ws⟩ (g [] ws) (gV [] zs) _ _ hr I1.env0 (hb.to s1 [] ws I1.kIn rfl (r.length.symm.trans zl)) r2 hsp) fun r s' hq => ?_)
  cases r with
  | error e => exact passAt A1.tk σ pins _ _ e s' I1 hq
  | ok fl =>
    cases fl with
    | ret u => exact I1.after hq
    | next => exact False.elim hq
    | brk => exact False.elim hq
    | cont => exact False.elim hq
end
end D2
end
section
set_option Elab.async false
set_option linter.all false
set_option maxRecDepth 100000
set_option maxHeartbeats 4000000
namespace D2
open PySem L2
open PySem.Spec hiding Row
/-! ### typed lists -/
theorem rngD_map (n : Nat) : rngD 0 n = (List.range n).map fun (i : Nat) => D.int (i : Int) := by
  unfold rngD
  exact List.map_congr_left fun i _ => by rw [Int.zero_add]
theorem zipD_map {α β : Type} (xs : List α) (ys : List β) (f : α → D) (g : β → D) : zipD (xs.map f) (ys.map g) = (xs.zip ys).map fun p => D.tup [f p.1, g p.2] := by
  unfold zipD
  rw [List.zipWith_map, List.zip_eq_zipWith, List.map_zipWith]
theorem enumD_map {α : Type} (xs : List α) (f : α → D) : enumD (xs.map f) = ((List.range xs.length).zip xs).map fun p => D.tup [.int (p.1 : Int), f p.2] := by
  unfold enumD
  rw [List.length_map, rngD_map, zipD_map]
section
variable {X : Cx} {e iter elt tg : Expr} {ρ : Rho} {L : Led} {P : PK1} {R : RK1} {E : DE} {pos : Pos} {scope : Scope}
/-- [elt for .. in iter], typed: what each item becomes is told by g' -/
theorem lcT {g : TG} {vs : List Nat} {ds : List D} {G : Led} {α : Type} (xs : List α) (f g' : α → D) (us : α → List (Nat × D)) (hd : ds = xs.map f) (hgd : ∀ x, GD X.K g (f x) (us x)) (hv : ∀ x, ∀ u ∈ us x, u.1 ∈ vs) (hG : SubL G L) (hl : xs.length ≤ sizeLine)
    (h : ∀ x ∈ xs, ∀ Y p acc, Blk X scope Y → PD Y elt (setsD (wipeD ρ vs) (us x)) ((p, .lst acc) :: L) (fun y L6 => y = g' x ∧ Lw L6 ((p, .lst acc) :: L)) noR) (q : P (.lst (xs.map g')) L) : LcD X g elt [] scope vs ρ ds G L (frzK P) := by
  subst hd
  refine lc_itemsF (xs.map g') (by rw [List.length_map, List.length_map]) hG (by rw [List.length_map]; exact hl) (fun i d y hd hy => ?_) q
  rw [List.getElem?_map] at hd hy
  cases e : xs[i]? with
  | none => rw [e] at hy; cases hy
  | some x =>
    rw [e] at hd hy
    cases hd
    cases hy
    exact ⟨us x, hgd x, hv x, fun Y p acc b => h x (List.mem_of_getElem? e) Y p acc b⟩
theorem PDI.mono {P P' : List D → Led → Led → Prop} (h : PDI X tg iter ρ L P R) (q : ∀ ds G L1, P ds G L1 → P' ds G L1) : PDI X tg iter ρ L P' R := .mk fun σ H F W A =>
  wI_mono (fun J H' ⟨F', ds, G, L', s, o, i, p⟩ => ⟨F', ds, G, L', s, o, i, q _ _ _ p⟩) (h.go σ H F W A)
/-- what a typed comprehension asks: each item x becomes g' x -/
def LcT (X : Cx) (elt : Expr) (scope : Scope) (vs : List Nat) (us : D → List (Nat × D)) (ρ : Rho) (ds : List D) (G L : Led) (P : PK1) : Prop :=
  ∃ (α : Type) (xs : List α) (f g' : α → D), ds = xs.map f ∧ SubL G L ∧ xs.length ≤ sizeLine ∧
    (∀ x ∈ xs, ∀ Y p acc, Blk X scope Y → PD Y elt (setsD (wipeD ρ vs) (us (f x))) ((p, .lst acc) :: L) (fun y L6 => y = g' x ∧ Lw L6 ((p, .lst acc) :: L)) noR) ∧ P (.lst (xs.map g')) L
/-- [elt for y in iter] -/
theorem pd_lc1 {i : Nat} {y : Str} {py : Pos} (hc : X.calm = true) (hN : X.N.Nodup) (ok : BlkOk X.N X.env.scope scope [(y, i)])
    (hg : ∀ (s : Shared) (H : Hp) (C : Addr) (cl : List (Str × Addr)) (fp : List Addr), PG (X.blk s H scope (compEnvC scope cl C X.env) fp) (.Name y py) (gName i))
    (h : PDI X (.Name y py) iter ρ L (LcT X elt scope [i] (fun d => [(i, d)]) ρ · · · P) R)
    (hs : ∀ x, foldedSetIterable iter X.env x = pure x := by intro _; rfl) : PD X (.ListComp elt [⟨.Name y py, iter, [], 0⟩] scope pos) ρ L P R :=
  pd_lcF (own := [(y, i)]) (g := gName i) hc hN ok hg (h.mono fun ds G L1 ⟨α, xs, f, g', e, hG, hl, hb, q⟩ => lcT xs f g' (fun x => [(i, f x)]) e (fun x => gd_name) (fun x u hu => by rw [List.mem_singleton.mp hu]; exact List.mem_singleton.mpr rfl) hG hl hb q) hs
/-- y = [elt for z in iter] -/
theorem pds_lc1 {i j : Nat} {y z : Str} {py pz spos : Pos} (hc : X.calm = true) (hN : X.N.Nodup) (hy : X.N[j]? = some z) (hyl : X.env.scope.names.lookup z = some .local)
    (hsw : swapsWith (.ListComp elt [⟨.Name y py, iter, [], 0⟩] scope pos) (some (.Name z pz)) spos.line X.env = pure true) (ok : BlkOk X.N X.env.scope scope [(y, i)])
    (hg : ∀ (s : Shared) (H : Hp) (C : Addr) (cl : List (Str × Addr)) (fp : List Addr), PG (X.blk s H scope (compEnvC scope cl C X.env) fp) (.Name y py) (gName i))
    (h : PDI X (.Name y py) iter ρ L (LcT X elt scope [i] (fun d => [(i, d)]) ρ · · · fun d L2 => E.nx (ρ.set j (some d)) L2) (E.ex ρ))
    (hs : ∀ x, foldedSetIterable iter X.env x = pure x := by intro _; rfl) : PDS X (.Assign [.Name z pz] (.ListComp elt [⟨.Name y py, iter, [], 0⟩] scope pos) spos) E ρ L :=
  pds_setLcF (own := [(y, i)]) (g := gName i) hc hN hy hyl hsw ok hg (h.mono fun ds G L1 ⟨α, xs, f, g', e, hG, hl, hb, q⟩ => lcT xs f g' (fun x => [(i, f x)]) e (fun x => gd_name) (fun x u hu => by rw [List.mem_singleton.mp hu]; exact List.mem_singleton.mpr rfl) hG hl hb q) hs
/-- a comprehension that moves the ledger along: each item x becomes some b with Q x b, J counts -/
def LcS (X : Cx) (elt : Expr) (scope : Scope) (vs : List Nat) (us : D → List (Nat × D)) (ρ : Rho) (ds : List D) (G L : Led) (P : PK1) : Prop :=
  ∃ (α β : Type) (xs : List α) (f : α → D) (g : β → D) (Q : α → β → Prop) (J : Nat → Led → Prop), ds = xs.map f ∧ J 0 L ∧ (∀ i L2, J i L2 → SubL G L2) ∧ xs.length ≤ sizeLine ∧
    (∀ i x L2, xs[i]? = some x → J i L2 → ∀ Y p acc, Blk X scope Y → PD Y elt (setsD (wipeD ρ vs) (us (f x))) ((p, .lst acc) :: L2) (fun y L6 => ∃ b, y = g b ∧ Q x b ∧ ∃ L7, Lw L6 ((p, .lst acc) :: L7) ∧ J (i + 1) L7) noR) ∧
    ∀ (bs : List β) L2, Paired Q xs bs → J xs.length L2 → P (.lst (bs.map g)) L2
theorem paired_snoc {α β : Type} {R : α → β → Prop} {x : α} {y : β} (h : R x y) : ∀ {a : List α} {b : List β}, Paired R a b → Paired R (a ++ [x]) (b ++ [y])
  | _, _, .nil => .cons h .nil
  | _, _, .cons r t => .cons r (paired_snoc h t)
theorem paired_length {α β : Type} {R : α → β → Prop} : ∀ {a : List α} {b : List β}, Paired R a b → a.length = b.length
  | _, _, .nil => rfl
  | _, _, .cons _ t => congrArg (· + 1) (paired_length t)
theorem take_ext {α : Type} {xs : List α} {i : Nat} {x : α} (h : xs[i]? = some x) : xs = xs.take i ++ x :: xs.drop (i + 1) ∧ xs.take (i + 1) = xs.take i ++ [x] := by
  have hl := (List.getElem?_eq_some_iff.mp h)
  obtain ⟨hl, rfl⟩ := hl
  refine ⟨?_, ?_⟩
  · rw [List.getElem_cons_drop, List.take_append_drop]
  · rw [List.take_add_one, List.getElem?_eq_getElem hl, Option.toList_some]
theorem lcS {g : TG} {vs : List Nat} {ds : List D} {G : Led} {us : D → List (Nat × D)} (hgd : ∀ d ∈ ds, GD X.K g d (us d)) (hv : ∀ d, ∀ u ∈ us d, u.1 ∈ vs) (h : LcS X elt scope vs us ρ ds G L P) : LcD X g elt [] scope vs ρ ds G L (frzK P) := by
  obtain ⟨α, β, xs, f, g', Q, J, hd, h0, hG, hl, hb, q⟩ := h
  subst hd
  refine ⟨fun i acc L2 => J i L2 ∧ ∃ bs : List β, acc = bs.map g' ∧ Paired Q (xs.take i) bs, ⟨h0, [], rfl, .nil⟩, fun i acc L2 ⟨e, _⟩ => hG i L2 e, fun i d acc L2 hd ⟨j, bs, ea, pr⟩ => ?_, fun acc L2 ⟨j, bs, ea, pr⟩ p => ?_⟩
  · have hm := List.mem_of_getElem? hd
    rw [List.getElem?_map] at hd
    cases e : xs[i]? with
    | none => rw [e] at hd; cases hd
    | some x =>
      rw [e] at hd
      cases hd
      have hi := (List.getElem?_eq_some_iff.mp e).1
      refine ⟨us (f x), true, hgd _ hm, hv _, fun Y p b => ⟨rfl, rfl⟩, ?_⟩
      show ∀ Y p, Blk X scope Y → _
      intro Y p b
      refine (hb i x L2 e j Y p acc b).mono fun y L6 ⟨b, e1, e2, L7, lw, j2⟩ => ⟨L7, lw, ?_, j2, bs ++ [b], ?_, ?_⟩
      · have := paired_length pr
        rw [List.length_take] at this
        rw [ea, List.length_map]
        omega
      · rw [ea, e1, List.map_append]
        rfl
      · rw [(take_ext e).2]
        exact paired_snoc e2 pr
  · rw [List.length_map] at j pr
    rw [List.take_length] at pr
    exact ⟨p, _, L2, rfl, .here, by rw [ea]; exact q bs L2 pr j⟩
theorem pd_lcS1 {i : Nat} {y : Str} {py : Pos} (hc : X.calm = true) (hN : X.N.Nodup) (ok : BlkOk X.N X.env.scope scope [(y, i)])
    (hg : ∀ (s : Shared) (H : Hp) (C : Addr) (cl : List (Str × Addr)) (fp : List Addr), PG (X.blk s H scope (compEnvC scope cl C X.env) fp) (.Name y py) (gName i))
    (h : PDI X (.Name y py) iter ρ L (LcS X elt scope [i] (fun d => [(i, d)]) ρ · · · P) R)
    (hs : ∀ x, foldedSetIterable iter X.env x = pure x := by intro _; rfl) : PD X (.ListComp elt [⟨.Name y py, iter, [], 0⟩] scope pos) ρ L P R :=
  pd_lcF (own := [(y, i)]) (g := gName i) hc hN ok hg (h.mono fun ds G L1 q => lcS (fun d _ => gd_name) (fun d u hu => by rw [List.mem_singleton.mp hu]; exact List.mem_singleton.mpr rfl) q) hs
theorem pds_lcS1 {i j : Nat} {y z : Str} {py pz spos : Pos} (hc : X.calm = true) (hN : X.N.Nodup) (hy : X.N[j]? = some z) (hyl : X.env.scope.names.lookup z = some .local)
    (hsw : swapsWith (.ListComp elt [⟨.Name y py, iter, [], 0⟩] scope pos) (some (.Name z pz)) spos.line X.env = pure true) (ok : BlkOk X.N X.env.scope scope [(y, i)])
    (hg : ∀ (s : Shared) (H : Hp) (C : Addr) (cl : List (Str × Addr)) (fp : List Addr), PG (X.blk s H scope (compEnvC scope cl C X.env) fp) (.Name y py) (gName i))
    (h : PDI X (.Name y py) iter ρ L (LcS X elt scope [i] (fun d => [(i, d)]) ρ · · · fun d L2 => E.nx (ρ.set j (some d)) L2) (E.ex ρ))
    (hs : ∀ x, foldedSetIterable iter X.env x = pure x := by intro _; rfl) : PDS X (.Assign [.Name z pz] (.ListComp elt [⟨.Name y py, iter, [], 0⟩] scope pos) spos) E ρ L :=
  pds_setLcF (own := [(y, i)]) (g := gName i) hc hN hy hyl hsw ok hg (h.mono fun ds G L1 q => lcS (fun d _ => gd_name) (fun d u hu => by rw [List.mem_singleton.mp hu]; exact List.mem_singleton.mpr rfl) q) hs
/-- for over typed items: what holds behind the items pre -/
def ForT (X : Cx) (tg : Expr) (body : List Stmt) (E : DE) (ρ : Rho) (ds : List D) (G L : Led) : Prop :=
  ∃ (α : Type) (xs : List α) (f : α → D) (I : List α → Rho → Led → Prop), ds = xs.map f ∧ I [] ρ L ∧ (∀ pre ρ1 L2, I pre ρ1 L2 → SubL G L2) ∧
    (∀ pre x post ρ1 L2, xs = pre ++ x :: post → I pre ρ1 L2 → PGD X tg (f x) ρ1 L2 fun ρ2 L3 => PDB X body { E with nx := I (pre ++ [x]), ct := I (pre ++ [x]), bk := E.nx } ρ2 L3) ∧
    ∀ ρ1 L2, I xs ρ1 L2 → E.nx ρ1 L2
theorem pds_forT {body : List Stmt} (hc : X.calm = true) (hp : PassesOwn (model X.prog X.w) X.A X.env X.xe) (h : PDI X tg iter ρ L (ForT X tg body E ρ) (E.ex ρ))
    (hs : ∀ x, foldedSetIterable iter X.env x = pure x := by intro _; rfl) : PDS X (.For tg iter body [] pos) E ρ L :=
  pds_for hc hp (h.mono fun ds G L1 ⟨α, xs, f, I, e, h0, hG, hb, hq⟩ => by
    subst e
    refine ⟨fun i ρ1 L2 => I (xs.take i) ρ1 L2, h0, fun i ρ1 L2 q => hG _ _ _ q, fun i d ρ1 L2 hd q => ?_, fun ρ1 L2 q => hq ρ1 L2 (by rw [List.length_map, List.take_length] at q; exact q)⟩
    rw [List.getElem?_map] at hd
    cases e : xs[i]? with
    | none => rw [e] at hd; cases hd
    | some x =>
      rw [e] at hd
      cases hd
      obtain ⟨e1, e2⟩ := take_ext e
      have := hb (xs.take i) x (xs.drop (i + 1)) ρ1 L2 e1 q
      rw [← e2] at this
      exact this) hs
end
end D2
end
section
set_option Elab.async false
set_option linter.all false
set_option maxRecDepth 100000
set_option maxHeartbeats 4000000
/-! dicts at data: the keys are ints and texts, or tuples (nested) -/
namespace D2
open PySem PySem.Spec PyProof.Rows L2
/-! ### keys as data -/
mutual
def keyD : NestedKey → D
  | .none => .non
  | .num i => .int i
  | .text x => .str x
  | .tup ks => .tup (keyDs ks)
def keyDs : List NestedKey → List D
  | [] => []
  | k :: r => keyD k :: keyDs r
end
def keySc : NestedKey → Bool
  | .num _ => true
  | .text _ => true
  | _ => false
def keyTu : NestedKey → Bool
  | .tup ks => decide ((NestedKey.tup ks).depth ≤ 8)
  | _ => false
section
variable {X : Cx} {pins : List (Addr × Obj)} {σ : L2.St} {H F : Hp} {s : Shared} {L : Led}
mutual
theorem is_nested (I : Inv X pins σ H s) (o : Own X.K H F L) : ∀ (k : NestedKey) {v : V} {u : Value}, Is X.K F v (keyD k) → RelV v u → NestedIs s.heap k u
  | .none, v, u, h, r => by
    cases h
    cases (show u = Value.none from r)
    exact .none
  | .num i, v, u, h, r => by
    cases h
    obtain ⟨t, e⟩ := r
    rw [e]
    exact .int _ _
  | .text x, v, u, h, r => by
    cases h
    obtain ⟨t, e⟩ := r
    rw [e]
    exact .text _ _
  | .tup ks, v, u, h, r => by
    cases h with
    | tup h1 h2 =>
      cases (show u = Value.ref _ from r)
      obtain ⟨its, rv, p, _⟩ := I.tuple (same_t o.sub h1)
      obtain ⟨ob, ho, hc, n, hd⟩ := p
      exact .tup ho hc hd (by simpa using is_nesteds I o ks h2 rv)
theorem is_nesteds (I : Inv X pins σ H s) (o : Own X.K H F L) : ∀ (ks : List NestedKey) {vs : List V} {us : List Value}, IsL X.K F vs (keyDs ks) → Vals vs us → NestedAll s.heap ks us
  | [], _, _, h, r => by
    cases h
    cases r
    exact .nil
  | k :: ks, _, _, h, r => by
    cases h with
    | cons a b =>
      cases r with
      | cons c d => exact .cons (is_nested I o k a c) (is_nesteds I o ks b d)
end
end
/-! ### what a dict is at data -/
section
variable {β : Type}
def dAt (kvs : List (NestedKey × β)) (k : NestedKey) : Option β := (kvs.find? fun kv => decide (kv.1 = k)).map (·.2)
def dPut (kvs : List (NestedKey × β)) (k : NestedKey) (v : β) : List (NestedKey × β) := if (dAt kvs k).isSome then kvs.map fun kv => if kv.1 = k then (kv.1, v) else kv else kvs ++ [(k, v)]
theorem dAt_nil (k : NestedKey) : dAt ([] : List (NestedKey × β)) k = none := rfl
theorem dAt_cons (p : NestedKey × β) (kvs : List (NestedKey × β)) (k : NestedKey) : dAt (p :: kvs) k = if p.1 = k then some p.2 else dAt kvs k := by
  unfold dAt
  rw [List.find?_cons]
  by_cases e : p.1 = k
  · rw [if_pos e, decide_eq_true e]
    rfl
  · rw [if_neg e, decide_eq_false e]
end
def EntOk (K : PySem.W.Frag) (w : World) (F : Hp) (e : DictEntry) (kd : NestedKey × D) : Prop := e.hash = kd.1.hash w ∧ (∃ kv, RelV kv e.key ∧ Is K F kv (keyD kd.1)) ∧ ∃ v, RelV v e.val ∧ Is K F v kd.2
theorem EntOk.mono {K : PySem.W.Frag} {w : World} {F F' : Hp} {e : DictEntry} {kd : NestedKey × D} (h : EntOk K w F e kd) (s : Same F F') : EntOk K w F' e kd := by
  obtain ⟨h1, ⟨kv, h2, h3⟩, v, h4, h5⟩ := h
  exact ⟨h1, ⟨kv, h2, h3.mono s⟩, v, h4, h5.mono s⟩
def dctO (p : Addr) (es : Array DictEntry) (ep : Nat) : HO := .ext fun h => h.DictRaw p es ep
def Homo (kvs : List (NestedKey × D)) : Prop := (∀ q ∈ kvs, keySc q.1 = true) ∨ (∀ q ∈ kvs, keyTu q.1 = true)
structure DctIs (K : PySem.W.Frag) (w : World) (p : Addr) (F : Hp) (es : Array DictEntry) (kvs : List (NestedKey × D)) : Prop where
  ents : Paired (EntOk K w F) es.toList kvs
  nd : (kvs.map (·.1)).Nodup
  sz : kvs.length ≤ sizeLine
  sys : (p == sysModules) = false
  homo : Homo kvs
theorem DctIs.mono {K : PySem.W.Frag} {w : World} {p : Addr} {F F' : Hp} {es : Array DictEntry} {kvs : List (NestedKey × D)} (h : DctIs K w p F es kvs) (s : Same F F') : DctIs K w p F' es kvs := by
  refine ⟨?_, h.nd, h.sz, h.sys, h.homo⟩
  have go : ∀ {a : List DictEntry} {b : List (NestedKey × D)}, Paired (EntOk K w F) a b → Paired (EntOk K w F') a b := fun q => by
    induction q with
    | nil => exact .nil
    | cons r t ih => exact .cons (r.mono s) ih
  exact go h.ents
/-- a dict whose very entries are told -/
def dctX (K : PySem.W.Frag) (w : World) (p : Addr) (es : Array DictEntry) (ep : Nat) (kvs : List (NestedKey × D)) : OD := .mp (fun F o => o = dctO p es ep ∧ DctIs K w p F es kvs) fun F F' o e h => ⟨h.1, h.2.mono e⟩
/-- an owned dict -/
def dctOD (K : PySem.W.Frag) (w : World) (p : Addr) (kvs : List (NestedKey × D)) : OD := .mp (fun F o => ∃ es ep, o = dctO p es ep ∧ DctIs K w p F es kvs) fun F F' o e ⟨es, ep, h1, h2⟩ => ⟨es, ep, h1, h2.mono e⟩
section
variable {X : Cx} {pins : List (Addr × Obj)} {σ : L2.St} {H F : Hp} {s : Shared} {L L' : Led} {p : Addr} {kvs : List (NestedKey × D)} {es : Array DictEntry} {ep : Nat}
theorem dct_raw (I : Inv X pins σ H s) (h : H p = some (dctO p es ep)) : s.heap.DictRaw p es ep := (I.hok p _ h : ObjOk X.prog X.w H s.heap p (.ext _)).1
theorem dct_obj {P : Program} {w : World} {H' : Hp} {h' : Heap} (h : h'.DictRaw p es ep) : ObjOk P w H' h' p (dctO p es ep) := by
  obtain ⟨o, ho, r⟩ := h
  exact ⟨⟨o, ho, r⟩, ⟨o, ho⟩, fun h1 h2 ⟨o1, g1, r1⟩ k => ⟨o1, k _ g1, r1⟩⟩
/-! tuples as keys -/
abbrev XEnt := NestedKey × Addr × Value
def XOk (K : PySem.W.Frag) (F : Hp) (x : XEnt) (kd : NestedKey × D) : Prop := x.1 = kd.1 ∧ Is K F (.ref x.2.1) (keyD kd.1) ∧ ∃ v, RelV v x.2.2 ∧ Is K F v kd.2
theorem tu_ents {K : PySem.W.Frag} {P : Program} {w : World} : ∀ {a : List DictEntry} {b : List (NestedKey × D)}, Paired (EntOk K w F) a b → (∀ q ∈ b, keyTu q.1 = true) → ∃ xs : List XEnt, a = xs.map (entryOfKey (nestedKind P w)) ∧ Paired (XOk K F) xs b
  | _, _, .nil, _ => ⟨[], rfl, .nil⟩
  | e :: a, kd :: b, .cons r t, h => by
    obtain ⟨xs, h1, h2⟩ := tu_ents (P := P) t fun q hq => h q (List.mem_cons_of_mem _ hq)
    have hk := h kd List.mem_cons_self
    obtain ⟨k, d⟩ := kd
    obtain ⟨r1, ⟨kv, r2, r3⟩, v, r4, r5⟩ := r
    cases k with
    | tup ks =>
      cases r3 with
      | @tup a xs0 ds0 g1 g2 =>
        have ek : e.key = .ref a := r2
        refine ⟨(.tup ks, a, e.val) :: xs, ?_, .cons ⟨rfl, .tup g1 g2, v, r4, r5⟩ h2⟩
        rw [h1, List.map_cons]
        obtain ⟨eh, ek', ev⟩ := e
        have r1 : eh = _ := r1
        have ek : ek' = _ := ek
        rw [r1, ek]
        rfl
    | _ => cases hk
theorem x_ents {K : PySem.W.Frag} {P : Program} {w : World} : ∀ {xs : List XEnt} {b : List (NestedKey × D)}, Paired (XOk K F) xs b → Paired (EntOk K w F) (xs.map (entryOfKey (nestedKind P w))) b
  | _, _, .nil => .nil
  | _, _, .cons r t => by
    obtain ⟨r1, r2, v, r3, r4⟩ := r
    refine .cons ⟨?_, ⟨.ref _, rfl, r2⟩, v, r3, r4⟩ (x_ents t)
    rw [← r1]
    rfl
theorem x_keys {K : PySem.W.Frag} : ∀ {xs : List XEnt} {b : List (NestedKey × D)}, Paired (XOk K F) xs b → xs.map (·.1) = b.map (·.1)
  | _, _, .nil => rfl
  | _, _, .cons r t => by rw [List.map_cons, List.map_cons, r.1, x_keys t]
theorem x_is (I : Inv X pins σ H s) (o : Own X.K H F L) : ∀ {xs : List XEnt} {b : List (NestedKey × D)}, Paired (XOk X.K F) xs b → (∀ q ∈ b, keyTu q.1 = true) → ∀ x ∈ xs, (nestedKind X.prog X.w).is s.heap x.1 x.2.1
  | _, _, .nil, _ => fun _ h => nomatch h
  | _, kd :: _, .cons r t, h => fun x hx => by
    rcases List.mem_cons.mp hx with e | e
    · subst e
      have hk := h kd List.mem_cons_self
      obtain ⟨r1, r2, _⟩ := r
      rw [r1]
      refine ⟨is_nested I o _ r2 rfl, ?_⟩
      obtain ⟨k, d⟩ := kd
      cases k with
      | tup ks => exact of_decide_eq_true hk
      | _ => cases hk
    · exact x_is I o t (fun q hq => h q (List.mem_cons_of_mem _ hq)) x e
theorem tu_dict (I : Inv X pins σ H s) (o : Own X.K H F L) (r : s.heap.DictRaw p es ep) (h : DctIs X.K X.w p F es kvs) (ht : ∀ q ∈ kvs, keyTu q.1 = true) : ∃ xs : List XEnt, s.heap.DictOfH (nestedKind X.prog X.w) p xs ∧ Paired (XOk X.K F) xs kvs := by
  obtain ⟨xs, h1, h2⟩ := tu_ents (P := X.prog) h.ents ht
  obtain ⟨ob, g1, g2, g3⟩ := r
  exact ⟨xs, ⟨ob, es, ep, g1, g2, g3, h1, x_is I o h2 ht, by rw [x_keys h2]; exact h.nd⟩, h2⟩
theorem x_at {K : PySem.W.Frag} (k : NestedKey) : ∀ {xs : List XEnt} {b : List (NestedKey × D)}, Paired (XOk K F) xs b → (atKey xs k = none ∧ dAt b k = none) ∨ ∃ a u v d, atKey xs k = some (a, u) ∧ dAt b k = some d ∧ RelV v u ∧ Is K F v d
  | _, _, .nil => .inl ⟨rfl, rfl⟩
  | x :: xs, kd :: b, .cons r t => by
    have e1 : atKey (x :: xs) k = if x.1 = k then some x.2 else atKey xs k := by
      unfold atKey
      rw [List.find?_cons]
      by_cases e : x.1 = k
      · rw [if_pos e, decide_eq_true e]
        rfl
      · rw [if_neg e, decide_eq_false e]
    rw [e1, dAt_cons]
    obtain ⟨r1, r2, v, r3, r4⟩ := r
    rw [← r1]
    by_cases e : x.1 = k
    · rw [if_pos e, if_pos e]
      exact .inr ⟨_, _, v, _, rfl, rfl, r3, r4⟩
    · rw [if_neg e, if_neg e]
      exact x_at k t
theorem x_map {K : PySem.W.Frag} (k : NestedKey) {v : V} {u : Value} {d : D} (rv : RelV v u) (iv : Is K F v d) : ∀ {xs : List XEnt} {b : List (NestedKey × D)}, Paired (XOk K F) xs b → Paired (XOk K F) (xs.map (putAt k u)) (b.map fun kv => if kv.1 = k then (kv.1, d) else kv)
  | _, _, .nil => .nil
  | x :: xs, kd :: b, .cons r t => by
    refine .cons ?_ (x_map k rv iv t)
    obtain ⟨r1, r2, r3⟩ := r
    show XOk K F (if x.1 = k then (x.1, x.2.1, u) else x) (if kd.1 = k then (kd.1, d) else kd)
    rw [← r1]
    by_cases e : x.1 = k
    · rw [if_pos e, if_pos e]
      exact ⟨rfl, by rw [r1]; exact r2, v, rv, iv⟩
    · rw [if_neg e, if_neg e]
      exact ⟨r1, r2, r3⟩
theorem x_put {K : PySem.W.Frag} {k : NestedKey} {a : Addr} {v : V} {u : Value} {d : D} (ik : Is K F (.ref a) (keyD k)) (rv : RelV v u) (iv : Is K F v d) {xs : List XEnt} {b : List (NestedKey × D)} (h : Paired (XOk K F) xs b) : Paired (XOk K F) (storedH xs k a u) (dPut b k d) := by
  unfold storedH dPut
  rcases x_at k h with ⟨h1, h2⟩ | ⟨a', u', v', d', h1, h2, _⟩
  · rw [h1, h2]
    exact paired_snoc ⟨rfl, ik, v, rv, iv⟩ h
  · rw [h1, h2]
    exact x_map k rv iv h
theorem dPut_keys {β : Type} (b : List (NestedKey × β)) (k : NestedKey) (d : β) : (dPut b k d).map (·.1) = if (dAt b k).isSome then b.map (·.1) else b.map (·.1) ++ [k] := by
  unfold dPut
  by_cases e : (dAt b k).isSome = true
  · rw [if_pos e, if_pos e, List.map_map]
    refine List.map_congr_left fun x _ => ?_
    show (if x.1 = k then (x.1, d) else x).1 = x.1
    split <;> rfl
  · rw [if_neg e, if_neg e, List.map_append]
    rfl
theorem dAt_some {β : Type} {k : NestedKey} : ∀ {b : List (NestedKey × β)}, (dAt b k).isSome = true ↔ k ∈ b.map (·.1)
  | [] => by simp [dAt]
  | p :: b => by
    rw [dAt_cons, List.map_cons, List.mem_cons]
    by_cases e : p.1 = k
    · rw [if_pos e]
      exact ⟨fun _ => .inl e.symm, fun _ => rfl⟩
    · rw [if_neg e, dAt_some]
      exact ⟨.inr, fun h => h.resolve_left fun z => e z.symm⟩
theorem dPut_nd {β : Type} {b : List (NestedKey × β)} {k : NestedKey} {d : β} (h : (b.map (·.1)).Nodup) : ((dPut b k d).map (·.1)).Nodup := by
  rw [dPut_keys]
  split
  · exact h
  · rename_i e
    rw [List.nodup_append]
    exact ⟨h, by simp, fun x hx y hy => by
      rw [List.mem_singleton.mp hy]
      intro z
      rw [z] at hx
      exact e (dAt_some.mpr hx)⟩
theorem dPut_len {β : Type} {b : List (NestedKey × β)} {k : NestedKey} {d : β} : (dPut b k d).length ≤ b.length + 1 := by
  unfold dPut
  split
  · rw [List.length_map]; omega
  · rw [List.length_append]; exact Nat.le_refl _
theorem dPut_mem {β : Type} {b : List (NestedKey × β)} {k : NestedKey} {d : β} {q : NestedKey × β} (h : q ∈ dPut b k d) : q.1 = k ∨ ∃ q' ∈ b, q'.1 = q.1 := by
  have : q.1 ∈ (dPut b k d).map (·.1) := List.mem_map.mpr ⟨q, h, rfl⟩
  rw [dPut_keys] at this
  split at this
  · obtain ⟨x, hx, e⟩ := List.mem_map.mp this
    exact .inr ⟨x, hx, e⟩
  · rcases List.mem_append.mp this with z | z
    · obtain ⟨x, hx, e⟩ := List.mem_map.mp z
      exact .inr ⟨x, hx, e⟩
    · exact .inl (List.mem_singleton.mp z)
/-! ints and texts as keys -/
def toKey : NestedKey → Key
  | .num i => .inl i
  | .text x => .inr x
  | _ => .inl 0
theorem toKey_inj {a b : NestedKey} (ha : keySc a = true) (hb : keySc b = true) (e : toKey a = toKey b) : a = b := by
  cases a with
  | num i =>
    cases b with
    | num j =>
      have e : (Sum.inl i : Key) = Sum.inl j := e
      injection e with e
      rw [e]
    | text y => cases e
    | none => cases hb
    | tup ks => cases hb
  | text x =>
    cases b with
    | num j => cases e
    | text y =>
      have e : (Sum.inr x : Key) = Sum.inr y := e
      injection e with e
      rw [e]
    | none => cases hb
    | tup ks => cases hb
  | none => cases ha
  | tup ks => cases ha
theorem sc_is {P : Program} {w : World} {K : PySem.W.Frag} {k : NestedKey} (hk : keySc k = true) {v : V} {u : Value} (i : Is K F v (keyD k)) (r : RelV v u) : (mixKind P w).is (toKey k) u = true ∧ (mixKind P w).hash (toKey k) = k.hash w := by
  cases k with
  | num i =>
    cases i
    obtain ⟨t, e⟩ := r
    rw [e]
    exact ⟨keyIs_int i t, rfl⟩
  | text x =>
    cases i
    obtain ⟨t, e⟩ := r
    rw [e]
    exact ⟨keyIs_str x t, rfl⟩
  | _ => cases hk
def VOk (K : PySem.W.Frag) (F : Hp) (x : Key × Value) (kd : NestedKey × D) : Prop := x.1 = toKey kd.1 ∧ ∃ v, RelV v x.2 ∧ Is K F v kd.2
theorem sc_ents {K : PySem.W.Frag} {P : Program} {w : World} : ∀ {a : List DictEntry} {b : List (NestedKey × D)}, Paired (EntOk K w F) a b → (∀ q ∈ b, keySc q.1 = true) → ∃ vs : List (Key × Value), Pairs (mixKind P w) a vs ∧ Paired (VOk K F) vs b ∧ ∀ e ∈ a, ∃ k, (mixKind P w).is k e.key = true ∧ e.hash = (mixKind P w).hash k
  | _, _, .nil, _ => ⟨[], .nil, .nil, fun _ h => nomatch h⟩
  | e :: a, kd :: b, .cons r t, h => by
    obtain ⟨vs, h1, h2, h3⟩ := sc_ents (P := P) t fun q hq => h q (List.mem_cons_of_mem _ hq)
    obtain ⟨r1, ⟨kv, r2, r3⟩, v, r4, r5⟩ := r
    obtain ⟨g1, g2⟩ := sc_is (P := P) (w := w) (h kd List.mem_cons_self) r3 r2
    refine ⟨(toKey kd.1, e.val) :: vs, .cons g1 rfl h1, .cons ⟨rfl, v, r4, r5⟩ h2, fun x hx => ?_⟩
    rcases List.mem_cons.mp hx with z | z
    · rw [z]; exact ⟨_, g1, by rw [r1, g2]⟩
    · exact h3 x z
theorem v_keys {K : PySem.W.Frag} : ∀ {vs : List (Key × Value)} {b : List (NestedKey × D)}, Paired (VOk K F) vs b → vs.map (·.1) = b.map fun kd => toKey kd.1
  | _, _, .nil => rfl
  | _, _, .cons r t => by rw [List.map_cons, List.map_cons, r.1, v_keys t]
theorem toKey_nodup : ∀ {b : List (NestedKey × D)}, (b.map (·.1)).Nodup → (∀ q ∈ b, keySc q.1 = true) → (b.map fun kd => toKey kd.1).Nodup
  | [], _, _ => .nil
  | p :: b, n, h => by
    rw [List.map_cons, List.nodup_cons] at n ⊢
    refine ⟨fun m => ?_, toKey_nodup n.2 fun q hq => h q (List.mem_cons_of_mem _ hq)⟩
    obtain ⟨q, hq, e⟩ := List.mem_map.mp m
    have := toKey_inj (h q (List.mem_cons_of_mem _ hq)) (h p List.mem_cons_self) e
    exact n.1 (List.mem_map.mpr ⟨q, hq, this⟩)
theorem sc_dict (r : s.heap.DictRaw p es ep) (h : DctIs X.K X.w p F es kvs) (ht : ∀ q ∈ kvs, keySc q.1 = true) : ∃ vs : List (Key × Value), s.heap.DictOf (mixKind X.prog X.w) p vs ∧ Paired (VOk X.K F) vs kvs := by
  obtain ⟨vs, h1, h2, h3⟩ := sc_ents (P := X.prog) h.ents ht
  obtain ⟨ob, g1, g2, g3⟩ := r
  exact ⟨vs, ⟨ob, es, ep, g1, g2, g3, fun e he => h3 e (by simpa using he), h1, by rw [v_keys h2]; exact toKey_nodup h.nd ht⟩, h2⟩
theorem v_at {K : PySem.W.Frag} {k : NestedKey} (hk : keySc k = true) : ∀ {vs : List (Key × Value)} {b : List (NestedKey × D)}, Paired (VOk K F) vs b → (∀ q ∈ b, keySc q.1 = true) → (valueAt vs (toKey k) = none ∧ dAt b k = none) ∨ ∃ u v d, valueAt vs (toKey k) = some u ∧ dAt b k = some d ∧ RelV v u ∧ Is K F v d
  | _, _, .nil, _ => .inl ⟨rfl, rfl⟩
  | x :: xs, kd :: b, .cons r t, h => by
    rw [valueAt_cons, dAt_cons]
    obtain ⟨r1, v, r3, r4⟩ := r
    by_cases e : kd.1 = k
    · rw [if_pos e, if_pos (by rw [r1, e])]
      exact .inr ⟨_, v, _, rfl, rfl, r3, r4⟩
    · rw [if_neg e, if_neg (fun z => e (toKey_inj (h kd List.mem_cons_self) hk (r1.symm.trans z)))]
      exact v_at hk t fun q hq => h q (List.mem_cons_of_mem _ hq)
theorem v_map {K : PySem.W.Frag} {k : NestedKey} (hk : keySc k = true) {v : V} {u : Value} {d : D} (rv : RelV v u) (iv : Is K F v d) : ∀ {vs : List (Key × Value)} {b : List (NestedKey × D)}, Paired (VOk K F) vs b → (∀ q ∈ b, keySc q.1 = true) → Paired (VOk K F) (vs.map fun kv => if kv.1 = toKey k then (kv.1, u) else kv) (b.map fun kv => if kv.1 = k then (kv.1, d) else kv)
  | _, _, .nil, _ => .nil
  | x :: xs, kd :: b, .cons r t, h => by
    refine .cons ?_ (v_map hk rv iv t fun q hq => h q (List.mem_cons_of_mem _ hq))
    obtain ⟨r1, r2⟩ := r
    show VOk K F (if x.1 = toKey k then (x.1, u) else x) (if kd.1 = k then (kd.1, d) else kd)
    by_cases e : kd.1 = k
    · rw [if_pos e, if_pos (by rw [r1, e])]
      exact ⟨r1, v, rv, iv⟩
    · rw [if_neg e, if_neg (fun z => e (toKey_inj (h kd List.mem_cons_self) hk (r1.symm.trans z)))]
      exact ⟨r1, r2⟩
theorem v_put {K : PySem.W.Frag} {k : NestedKey} (hk : keySc k = true) {v : V} {u : Value} {d : D} (rv : RelV v u) (iv : Is K F v d) {vs : List (Key × Value)} {b : List (NestedKey × D)} (h : Paired (VOk K F) vs b) (hs : ∀ q ∈ b, keySc q.1 = true) : Paired (VOk K F) (stored vs (toKey k) u) (dPut b k d) := by
  have ea : (vs.any fun kv => decide (kv.1 = toKey k)) = (valueAt vs (toKey k)).isSome := by
    rw [Bool.eq_iff_iff, valueAt_isSome, List.any_eq_true, List.mem_map]
    exact ⟨fun ⟨x, hx, e⟩ => ⟨x, hx, of_decide_eq_true e⟩, fun ⟨x, hx, e⟩ => ⟨x, hx, decide_eq_true e⟩⟩
  unfold stored dPut
  rw [ea]
  rcases v_at hk h hs with ⟨h1, h2⟩ | ⟨u', v', d', h1, h2, _⟩
  · rw [h1, h2]
    exact paired_snoc ⟨rfl, v, rv, iv⟩ h
  · rw [h1, h2]
    exact v_map hk rv iv h hs
theorem key_back {P : Program} {w : World} {K : PySem.W.Frag} {k : NestedKey} (hk : keySc k = true) {u : Value} (h : (mixKind P w).is (toKey k) u = true) : ∃ v, RelV v u ∧ Is K F v (keyD k) := by
  have h : keyIs (toKey k) u = true := h
  cases k with
  | num i =>
    rcases keyIs_shape h with ⟨j, t, e, rfl⟩ | ⟨j, t, e, rfl⟩
    · have e : (Sum.inl i : Key) = Sum.inl j := e
      injection e with e
      subst e
      exact ⟨.int i, ⟨t, rfl⟩, .sc _⟩
    · cases e
  | text x =>
    rcases keyIs_shape h with ⟨j, t, e, rfl⟩ | ⟨j, t, e, rfl⟩
    · cases e
    · have e : (Sum.inr x : Key) = Sum.inr j := e
      injection e with e
      subst e
      exact ⟨.str x, ⟨t, rfl⟩, .sc _⟩
  | none => cases hk
  | tup ks => cases hk
theorem v_ents {K : PySem.W.Frag} {P : Program} {w : World} : ∀ {a : List DictEntry} {vs : List (Key × Value)} {b : List (NestedKey × D)}, Pairs (mixKind P w) a vs → Paired (VOk K F) vs b → (∀ q ∈ b, keySc q.1 = true) → (∀ e ∈ a, ∃ k, (mixKind P w).is k e.key = true ∧ e.hash = (mixKind P w).hash k) → Paired (EntOk K w F) a b
  | _, _, _, .nil, .nil, _, _ => .nil
  | e :: a, kv :: vs, kd :: b, .cons p1 p2 pt, .cons r t, h, hh => by
    obtain ⟨r1, v, r3, r4⟩ := r
    have hk := h kd List.mem_cons_self
    rw [r1] at p1
    obtain ⟨k', g1, g2⟩ := hh e List.mem_cons_self
    have ek := (mixKind P w).inj _ _ _ g1 p1
    obtain ⟨v2, q1, q2⟩ := key_back (K := K) (F := F) hk p1
    refine .cons ⟨?_, ⟨v2, q1, q2⟩, v, ?_, r4⟩ (v_ents pt t (fun q hq => h q (List.mem_cons_of_mem _ hq)) fun x hx => hh x (List.mem_cons_of_mem _ hx))
    · rw [g2, ek]
      exact (sc_is (P := P) (w := w) hk q2 q1).2
    · rw [p2]; exact r3
end
end D2
end
section
set_option Elab.async false
set_option linter.all false
set_option maxRecDepth 100000
set_option maxHeartbeats 4000000
namespace D2
open PySem PySem.Spec PyProof.Rows L2
def Fits (kvs : List (NestedKey × D)) (k : NestedKey) : Prop := (keySc k = true ∧ ∀ q ∈ kvs, keySc q.1 = true) ∨ (keyTu k = true ∧ ∀ q ∈ kvs, keyTu q.1 = true)
theorem Fits.put {kvs : List (NestedKey × D)} {k : NestedKey} {d : D} (h : Fits kvs k) : Homo (dPut kvs k d) := by
  rcases h with ⟨h1, h2⟩ | ⟨h1, h2⟩
  · refine .inl fun q hq => ?_
    rcases dPut_mem hq with e | ⟨q', h3, e⟩
    · rw [e]; exact h1
    · rw [← e]; exact h2 _ h3
  · refine .inr fun q hq => ?_
    rcases dPut_mem hq with e | ⟨q', h3, e⟩
    · rw [e]; exact h1
    · rw [← e]; exact h2 _ h3
section
variable {X : Cx} {pins : List (Addr × Obj)} {σ : L2.St} {H F : Hp} {s : Shared} {L L' : Led} {p : Addr} {kvs : List (NestedKey × D)} {k : NestedKey} {A : Around} {E : Value → Shared → Prop}
theorem dct_own (o : Own X.K H F L) (hm : (p, dctOD X.K X.w p kvs) ∈ L) : ∃ es ep, H p = some (dctO p es ep) ∧ DctIs X.K X.w p F es kvs := by
  obtain ⟨_, u, h1, es, ep, h2, h3⟩ := o.cell _ hm
  exact ⟨es, ep, by rw [h1, h2], h3⟩
theorem room_in1 {P : Program} {w : World} (hu : A.units + 64 < cLine) : (nestedKind P w).room A.in1 := by
  show A.units + 1 + 8 < cLine
  omega
theorem tu_ref {K : PySem.W.Frag} {F : Hp} {v : V} (hk : keyTu k = true) (i : Is K F v (keyD k)) : ∃ a, v = .ref a := by
  cases k with
  | tup ks =>
    cases i with
    | tup h1 h2 => exact ⟨_, rfl⟩
  | none => cases hk
  | num i => cases hk
  | text x => cases hk
theorem tu_depth (hk : keyTu k = true) : k.depth ≤ 8 := by
  cases k with
  | tup ks => exact of_decide_eq_true hk
  | none => cases hk
  | num i => cases hk
  | text x => cases hk
/-- k in d, at the machine's level -/
theorem in_low {v : V} {u : Value} {Q : Value → Shared → Prop} (hu : A.units + 64 < cLine) (I : Inv X pins σ H s) (o : Own X.K H F L) (hm : (p, dctOD X.K X.w p kvs) ∈ L) (ft : Fits kvs k) (ik : Is X.K F v (keyD k)) (rk : RelV v u)
    (h : ∀ s', Inv X pins σ H s' → Q (.bool (dAt kvs k).isSome) s') : wpAny (model X.prog X.w) A (compareOp .In u (.ref p)) Q E s := by
  obtain ⟨es, ep, e, q⟩ := dct_own o hm
  have r := dct_raw I e
  rcases ft with ⟨hk, ha⟩ | ⟨hk, ha⟩
  · obtain ⟨vs, dd, pr⟩ := sc_dict (X := X) r q ha
    refine wpAny_in_of (sc_is hk ik rk).1 q.sys dd.mapOf ?_
    have := h _ (I.tok (s.toks + 1))
    rcases v_at hk pr ha with ⟨h1, h2⟩ | ⟨u', v', d', h1, h2, _⟩
    · rw [h2] at this
      rw [h1]
      exact this
    · rw [h2] at this
      rw [h1]
      exact this
  · obtain ⟨xs, dd, pr⟩ := tu_dict I o r q ha
    obtain ⟨a, rfl⟩ := tu_ref hk ik
    cases (show u = Value.ref a from rk)
    refine wpAny_in_heap (room_in1 hu) ⟨is_nested I o k ik rfl, tu_depth hk⟩ q.sys dd ?_
    have := h _ (I.tok (s.toks + (nestedKind X.prog X.w).draws k))
    rcases x_at k pr with ⟨h1, h2⟩ | ⟨a', u', v', d', h1, h2, _⟩
    · rw [h2] at this
      rw [h1]
      exact this
    · rw [h2] at this
      rw [h1]
      exact this
theorem notIn_low {v : V} {u : Value} {Q : Value → Shared → Prop} (hu : A.units + 64 < cLine) (I : Inv X pins σ H s) (o : Own X.K H F L) (hm : (p, dctOD X.K X.w p kvs) ∈ L) (ft : Fits kvs k) (ik : Is X.K F v (keyD k)) (rk : RelV v u)
    (h : ∀ s', Inv X pins σ H s' → Q (.bool (!(dAt kvs k).isSome)) s') : wpAny (model X.prog X.w) A (compareOp .NotIn u (.ref p)) Q E s := by
  obtain ⟨es, ep, e, q⟩ := dct_own o hm
  have r := dct_raw I e
  rcases ft with ⟨hk, ha⟩ | ⟨hk, ha⟩
  · obtain ⟨vs, dd, pr⟩ := sc_dict (X := X) r q ha
    refine wpAny_notIn_of (sc_is hk ik rk).1 q.sys dd.mapOf ?_
    have := h _ (I.tok (s.toks + 1))
    rcases v_at hk pr ha with ⟨h1, h2⟩ | ⟨u', v', d', h1, h2, _⟩
    · rw [h2] at this
      rw [h1]
      exact this
    · rw [h2] at this
      rw [h1]
      exact this
  · obtain ⟨xs, dd, pr⟩ := tu_dict I o r q ha
    obtain ⟨a, rfl⟩ := tu_ref hk ik
    cases (show u = Value.ref a from rk)
    refine wpAny_notIn_heap (room_in1 hu) ⟨is_nested I o k ik rfl, tu_depth hk⟩ q.sys dd ?_
    have := h _ (I.tok (s.toks + (nestedKind X.prog X.w).draws k))
    rcases x_at k pr with ⟨h1, h2⟩ | ⟨a', u', v', d', h1, h2, _⟩
    · rw [h2] at this
      rw [h1]
      exact this
    · rw [h2] at this
      rw [h1]
      exact this
theorem get_low {v : V} {u : Value} {d : D} {Q : Value → Shared → Prop} (hu : A.units + 64 < cLine) (I : Inv X pins σ H s) (o : Own X.K H F L) (hm : (p, dctOD X.K X.w p kvs) ∈ L) (ft : Fits kvs k) (ik : Is X.K F v (keyD k)) (rk : RelV v u) (hd : dAt kvs k = some d)
    (h : ∀ z v' s', Inv X pins σ H s' → RelV v' z → Is X.K F v' d → Q z s') : wpAny (model X.prog X.w) A (getItem (.ref p) u) Q E s := by
  obtain ⟨es, ep, e, q⟩ := dct_own o hm
  have r := dct_raw I e
  rcases ft with ⟨hk, ha⟩ | ⟨hk, ha⟩
  · obtain ⟨vs, dd, pr⟩ := sc_dict (X := X) r q ha
    rcases v_at hk pr ha with ⟨h1, h2⟩ | ⟨u', v', d', h1, h2, h3, h4⟩
    · rw [h2] at hd; cases hd
    · rw [h2] at hd
      cases hd
      exact wpAny_getItem_of (sc_is hk ik rk).1 dd.mapOf h1 (h _ _ _ (I.tok _) h3 h4)
  · obtain ⟨xs, dd, pr⟩ := tu_dict I o r q ha
    obtain ⟨a, rfl⟩ := tu_ref hk ik
    cases (show u = Value.ref a from rk)
    rcases x_at k pr with ⟨h1, h2⟩ | ⟨a', u', v', d', h1, h2, h3, h4⟩
    · rw [h2] at hd; cases hd
    · rw [h2] at hd
      cases hd
      exact wpAny_getItem_heap (room_in1 hu) ⟨is_nested I o k ik rfl, tu_depth hk⟩ dd h1 (h _ _ _ (I.tok _) h3 h4)
theorem put_low {v y : V} {u r : Value} {d : D} {Q : Unit → Shared → Prop} (hu : A.units + 64 < cLine) (I : Inv X pins σ H s) (o : Own X.K H F L) (f : Foc p (dctOD X.K X.w p kvs) (dctOD X.K X.w p (dPut kvs k d)) L L') (ft : Fits kvs k) (hl : kvs.length < sizeLine)
    (ik : Is X.K F y (keyD k)) (rk : RelV y u) (iv : Is X.K F v d) (rv : RelV v r)
    (h : ∀ s' H', Inv X pins σ H' s' → Own X.K H' F L' → Q () s') : wpAny (model X.prog X.w) A (setItem (.ref p) u r) Q E s := by
  obtain ⟨es, ep, e, q⟩ := dct_own o f.mem
  have rw_ := dct_raw I e
  have hl' : (dPut kvs k d).length ≤ sizeLine := by
    have := dPut_len (b := kvs) (k := k) (d := d)
    omega
  have fin : ∀ (h' : Heap) (t : Nat) (es' : Array DictEntry) (ep' : Nat), h'.DictRaw p es' ep' → Heap.SameBut p s.heap h' → Paired (EntOk X.K X.w F) es'.toList (dPut kvs k d) → Q () { s with heap := h', toks := t } := fun h' t es' ep' rr hs pe => by
    have I2 : Inv X pins σ (upd H p (dctO p es' ep')) { s with heap := h', toks := t } := d_write I (by rw [e]; exact True.intro) hs (let ⟨ob, ho, _⟩ := rr; ⟨ob, ho⟩) (dct_obj rr)
    exact h _ _ I2 (o.write f ⟨es', ep', rfl, pe, dPut_nd q.nd, hl', q.sys, ft.put⟩)
  rcases ft with ⟨hk, ha⟩ | ⟨hk, ha⟩
  · obtain ⟨vs, dd, pr⟩ := sc_dict (X := X) rw_ q ha
    have hz : vs.length ≤ sizeLine := by rw [paired_length pr]; omega
    refine wpAny_setItem_pairs (hsz := hz) (sc_is hk ik rk).1 dd fun h' dd' hs => ?_
    obtain ⟨ob, es', ep', g1, g2, g3, g4, g5, g6⟩ := dd'
    refine fin h' _ es' ep' ⟨ob, g1, g2, g3⟩ hs (v_ents g5 (v_put hk rv iv pr ha) (fun q hq => ?_) fun e he => g4 e (by simpa using he))
    rcases dPut_mem hq with e | ⟨q', h3, e⟩
    · rw [e]; exact hk
    · rw [← e]; exact ha _ h3
  · obtain ⟨xs, dd, pr⟩ := tu_dict I o rw_ q ha
    obtain ⟨a, rfl⟩ := tu_ref hk ik
    cases (show u = Value.ref a from rk)
    have hz : xs.length ≤ sizeLine := by rw [paired_length pr]; omega
    refine wpAny_setItem_heap (hsz := hz) (room_in1 hu) ⟨is_nested I o k ik rfl, tu_depth hk⟩ dd fun h' dd' hs => ?_
    obtain ⟨ob, es', ep', g1, g2, g3, g4, g5, g6⟩ := dd'
    refine fin h' _ es' ep' ⟨ob, g1, g2, g3⟩ hs ?_
    rw [g4]
    exact x_ents (x_put ik rv iv pr)
end
section
variable {X : Cx} {e o i a b : Expr} {ρ : Rho} {L : Led} {P : PK1} {R : RK1} {E : DE} {pos : Pos} {p : Addr} {kvs : List (NestedKey × D)} {k : NestedKey}
theorem raw_new (h : Heap) : (h.push { cls := .type "dict", data := .dict #[] }).DictRaw h.objs.size #[] 0 := ⟨_, Heap.get?_push_size _ rfl, ⟨rfl, rfl, rfl⟩, rfl⟩
/-- {} -/
theorem pd_dict0 (h : ∀ p, P (.ref p) ((p, dctOD X.K X.w p []) :: L)) : PD X (.Dict [] [] pos) ρ L P R := .mk fun σ H F W A pins s I => by
  have hf := I.hok.fresh (Nat.le_refl s.heap.objs.size)
  refine wpAny_Dict_empty ⟨.ref s.heap.objs.size, upd H s.heap.objs.size (dctO s.heap.objs.size #[] 0), I.laid (t' := s.toks) (fun _ _ q => Heap.get?_push_of_some _ q) (Nat.le_refl _) (dct_obj (raw_new s.heap)), rfl, F, .ref s.heap.objs.size, _, Same.refl _, A.own.push hf (x := dctOD X.K X.w s.heap.objs.size []) ?_, .sc _, h _⟩
  exact ⟨#[], 0, rfl, .nil, List.nodup_nil, Nat.zero_le _, beq_eq_false_iff_ne.mpr (Ne.symm (Nat.ne_of_lt I.big)), .inl fun q hq => nomatch hq⟩
theorem od_inD (hu : X.A.units + 64 < cLine) (hm : (p, dctOD X.K X.w p kvs) ∈ L) (ft : Fits kvs k) (h : P (.bl (dAt kvs k).isSome) L) : OpD X (compareOp .In) (keyD k) (.ref p) L P := fun pins s σ H F x y v u o ix iy I rx ry => by
  cases iy
  cases (show u = Value.ref p from ry)
  exact in_low hu I o hm ft ix rx fun s' I' => ⟨.bl _, H, I', rfl, upV.here o (.sc _) h⟩
theorem od_notInD (hu : X.A.units + 64 < cLine) (hm : (p, dctOD X.K X.w p kvs) ∈ L) (ft : Fits kvs k) (h : P (.bl (!(dAt kvs k).isSome)) L) : OpD X (compareOp .NotIn) (keyD k) (.ref p) L P := fun pins s σ H F x y v u o ix iy I rx ry => by
  cases iy
  cases (show u = Value.ref p from ry)
  exact notIn_low hu I o hm ft ix rx fun s' I' => ⟨.bl _, H, I', rfl, upV.here o (.sc _) h⟩
/-- d[k], there -/
theorem ixd_dct {d : D} (hu : X.A.units + 64 < cLine) (hm : (p, dctOD X.K X.w p kvs) ∈ L) (ft : Fits kvs k) (hd : dAt kvs k = some d) (h : P d L) : IxD X (.ref p) (keyD k) L P := fun value slice pins s σ H F x y v u o ix iy I rx ry hs => by
  cases ix
  cases (show v = Value.ref p from rx)
  obtain ⟨es, ep, e, q⟩ := dct_own o hm
  have hT := (dct_raw I e).typeIs
  unfold subscriptTail
  refine wpAny_bind ?_
  rw [getitemInPython_of_ne hT.not_modules]
  refine wpAny_bind (wpAny_specialOf hT PySem.F.slot_dict_getitem.lookup ?_)
  have fin : wpAny (model X.prog X.w) X.A (subscripted slice false (.ref p) u) (fun r s3 => wpAny (model X.prog X.w) X.A (letTemporaryGo value (.ref p) r >>= fun _ => pure r) (EP X pins σ (upV X.K F P)) X.xe s3) X.xe s := by
    rw [hs]
    exact wpAny_operating (get_low hu I o hm ft iy ry hd fun z v' s' I' r' i' => wpAny_bind (wpAny_letTemporaryGo (wpAny_pure ⟨v', H, I', r', upV.here o i' h⟩)))
  first
    | exact wpAny_pure (wpAny_bind fin)
    | exact wpAny_bind (wpAny_pure (wpAny_bind fin))
    | exact wpAny_bind fin
/-- d[k] = e -/
theorem pds_putD {tpos : Pos} (hu : X.A.units + 64 < cLine) (h : PD X e ρ L (fun de L1 => PD X o ρ L1 (fun do_ L2 => PD X i ρ L2 (fun di L3 => ∃ (p : Addr) (kvs : List (NestedKey × D)) (k : NestedKey) (L4 : Led), do_ = .ref p ∧ di = keyD k ∧ Fits kvs k ∧ kvs.length < sizeLine ∧ Foc p (dctOD X.K X.w p kvs) (dctOD X.K X.w p (dPut kvs k de)) L3 L4 ∧ E.nx ρ L4) (E.ex ρ)) (E.ex ρ)) (E.ex ρ))
    (hs : swapsWith e (some (.Subscript o i tpos)) pos.line X.env = pure false := by rfl) : PDS X (.Assign [.Subscript o i tpos] e pos) E ρ L := .mk fun σ H F W A pins s I => by
  refine wpAny_Assign_Subscript (thn (h.go σ H F W A.at pins s I) fun r s1 ⟨v, H1, I1, rv, F1, de, L1, sm1, o1, i1, q1⟩ => thn (q1.go σ H1 F1 W (A.at.go sm1 o1) pins s1 I1) fun ov s2 ⟨x, H2, I2, rx, F2, d2, L2, sm2, o2, i2, q2⟩ =>
    thn (q2.go σ H2 F2 W ((A.at.go sm1 o1).go sm2 o2) pins s2 I2) fun iv s3 ⟨y, H3, I3, ry, F3, d3, L3, sm3, o3, i3, p, kvs, k, L4, e1, e2, ft, hl, f, qn⟩ => ?_) hs
  subst e1 e2
  cases i2
  cases (show ov = Value.ref p from rx)
  exact put_low hu I3 o3 f ft hl i3 ry ((i1.mono sm2).mono sm3) rv fun s' H' I' o' => ⟨σ, H', I', F3, ρ, L4, (sm1.trans sm2).trans sm3, o', A.env.mono ((sm1.trans sm2).trans sm3), qn⟩
/-- d[k] op= e -/
theorem pds_augD {op : Operator} {tpos : Pos} (hu : X.A.units + 64 < cLine) (h : PD X o ρ L (fun do_ L1 => PD X i ρ L1 (fun di L2 => ∃ (p : Addr) (kvs : List (NestedKey × D)) (k : NestedKey) (d : D), do_ = .ref p ∧ di = keyD k ∧ Fits kvs k ∧ (p, dctOD X.K X.w p kvs) ∈ L2 ∧ dAt kvs k = some d ∧
      PD X e ρ L2 (fun de L3 => OpD X (inplaceOp op) d de L3 (fun z L4 => ∃ kvs2 L5, Fits kvs2 k ∧ kvs2.length < sizeLine ∧ Foc p (dctOD X.K X.w p kvs2) (dctOD X.K X.w p (dPut kvs2 k z)) L4 L5 ∧ E.nx ρ L5)) (E.ex ρ)) (E.ex ρ)) (E.ex ρ))
    (ha : ∀ ov iv new, augStore i ov iv new = (do holding [new, ov, iv] (setItem ov iv new); release [new, ov, iv] []; pure .next) := by intro _ _ _; rfl) : PDS X (.AugAssign (.Subscript o i tpos) op e pos) E ρ L := .mk fun σ H F W A pins s I => by
  refine wpAny_AugAssign_SubscriptAny (thn (h.go σ H F W A.at pins s I) fun ov s1 ⟨x, H1, I1, rx, F1, d1, L1, sm1, o1, i1, q1⟩ => thn (q1.go σ H1 F1 W (A.at.go sm1 o1) pins s1 I1) fun iv s2 ⟨y, H2, I2, ry, F2, d2, L2, sm2, o2, i2, p, kvs, k, d, e1, e2, ft, hm, hd, q2⟩ => ?_) ha
  subst e1 e2
  cases i1
  cases (show ov = Value.ref p from rx)
  refine get_low hu I2 o2 hm ft i2 ry hd fun z v' s3 I3 rz iz => thn (q2.go σ H2 F2 W ((A.at.go sm1 o1).go sm2 o2) pins s3 I3) fun w4 s4 ⟨x4, H4, I4, r4, F4, d4, L4, sm4, o4, i4, q4⟩ => ?_
  refine thn (q4 pins s4 σ H4 F4 v' x4 z w4 o4 (iz.mono sm4) i4 I4 rz r4) fun w5 s5 ⟨x5, H5, I5, r5, F5, d5, L5, sm5, o5, i5, kvs2, L6, ft2, hl, f, qn⟩ => ?_
  have sm := (((sm1.trans sm2).trans sm4).trans sm5)
  exact put_low hu I5 o5 f ft2 hl ((i2.mono sm4).mono sm5) ry i5 r5 fun s' H' I' o' => ⟨σ, H', I', F5, ρ, L6, sm, o', A.env.mono sm, qn⟩
theorem len_low {X : Cx} {pins : List (Addr × Obj)} {σ : L2.St} {H F : Hp} {s : Shared} {L : Led} {p : Addr} {kvs : List (NestedKey × D)} {A : Around} {E : Value → Shared → Prop} {Q : Value → Shared → Prop} (I : Inv X pins σ H s) (o : Own X.K H F L) (hm : (p, dctOD X.K X.w p kvs) ∈ L)
    (h : ∀ t s', Inv X pins σ H s' → Q (.int kvs.length t) s') : wpAny (model X.prog X.w) A (call (.builtin "len") [.ref p]) Q E s := by
  obtain ⟨es, ep, e, q⟩ := dct_own o hm
  have r := dct_raw I e
  have hz := q.sz
  rw [sizeLine_eq] at hz
  rcases q.homo with ha | ha
  · obtain ⟨vs, dd, pr⟩ := sc_dict (X := X) r q ha
    have el := paired_length pr
    refine call_len_dict q.sys dd (by omega) ?_
    rw [el]
    exact h _ _ (I.tok _)
  · obtain ⟨xs, dd, pr⟩ := tu_dict I o r q ha
    have el := paired_length pr
    have hm' : s.heap.DictKeyed (nestedKind X.prog X.w) p (pairsH xs) := ⟨xs, dd, rfl⟩
    have el2 : (pairsH xs).length = kvs.length := by rw [pairsH_length, el]
    refine PyProof.Rows.call_len_slot (n := (kvs.length : Int)) hm'.typeIs PySem.F.slot_dict_len (fun Q' hq => ?_) (by omega) (by omega) (h _ _ (I.tok _))
    refine len_keyed q.sys hm' ?_
    rw [el2]
    exact hq
theorem cd_lenD (hm : (p, dctOD X.K X.w p kvs) ∈ L) (h : P (.int (kvs.length : Int)) L) : CallD X (.builtin "len") [.ref p] L P := fun pins s σ H F xs us o ix I r => by
  obtain ⟨v, rfl, iv⟩ := isl1 ix
  cases iv
  cases r with
  | cons r1 r2 =>
    cases r2
    rename_i u
    cases (show u = Value.ref p from r1)
    exact len_low I o hm fun t s' I' => ⟨.int _, H, I', ⟨t, rfl⟩, upV.here o (.sc _) h⟩
end
end D2
end
section
set_option Elab.async false
set_option linter.all false
set_option maxRecDepth 100000
set_option maxHeartbeats 4000000
namespace D2
open PySem PySem.Spec PyProof.Rows L2 PySem.W
abbrev KsRel : List V → List DictEntry → Prop := Paired fun v e => RelV v e.key
def ItKs (p : Addr) (es : Array DictEntry) (ep : Nat) (vs : List V) : It :=
  ⟨fun i H => H p = some (dctO p es ep) ∧ i < vs.length, fun i H x H' => H' = H ∧ vs[i]? = some x, fun i H => H p = some (dctO p es ep) ∧ vs.length ≤ i⟩
theorem paired_at {α β : Type} {R : α → β → Prop} : ∀ {a : List α} {b : List β}, Paired R a b → ∀ {i : Nat} {y : β}, b[i]? = some y → ∃ x, a[i]? = some x ∧ R x y
  | _, _, .nil, i, y, h => by simp at h
  | _, _, .cons r t, 0, y, h => by
    simp only [List.getElem?_cons_zero, Option.some.injEq] at h
    subst h
    exact ⟨_, by simp, r⟩
  | _, _, .cons r t, i + 1, y, h => by
    obtain ⟨x, h1, h2⟩ := paired_at t (i := i) (by simpa using h)
    exact ⟨x, by simpa using h1, h2⟩
theorem turn_ks {P : Program} {w : World} {K : PySem.W.Frag} {tg : Expr} {p it : Addr} {es : Array DictEntry} {ep : Nat} {vs : List V} (pr : KsRel vs es.toList) : Turn P w K tg (ItKs p es ep vs) [it] it (fun i h => h.IsKeyIter it p i es.size ep) where
  mem := List.mem_cons_self
  obj := fun i h st b hb => by
    rw [List.mem_singleton.mp hb]
    obtain ⟨oi, e, c, dd⟩ := st
    exact ⟨oi, e, fun v z => by rw [dd] at z; cases z⟩
  keep := fun i h h' st k => st.at fun oi e => k it (by simp) oi e
  item := by
    intro X hP hw hK hc i pins s σ H E I hf st hg
    subst hP hw hK
    obtain ⟨hd, hi⟩ := hg
    obtain ⟨f0, f1, f2, f3, f4, f5⟩ := hf it (by simp)
    have hl : vs.length = es.size := (paired_length pr).trans Array.length_toList
    refine wpAny_pyNext_keys_item_raw st (dct_raw I hd) (by omega) fun h' st' sb => ?_
    obtain ⟨v, hv, rv⟩ := paired_at pr (i := i) (y := es[i]) (by rw [Array.getElem?_toList]; exact Array.getElem?_eq_getElem (by omega))
    have I1 : Inv X pins σ H { s with heap := h' } := I.turned (t' := s.toks) (fun b ob hb e => (sb.2 b hb).trans e) f0 f1 f3 f4 f5
    obtain ⟨oi, e, c, dd⟩ := id st'
    exact ⟨_, rfl, go_of (s := { s with heap := h' }) e c dd (by decide) ⟨v, H, I1, rv, ⟨rfl, hv⟩, st', fun b hb => (hf b hb).1⟩⟩
  done := by
    intro X hP hw hK hc i pins s σ H E I hf st hg
    subst hP hw hK
    obtain ⟨hd, hi⟩ := hg
    have hl : vs.length = es.size := (paired_length pr).trans Array.length_toList
    refine wpAny_pyNext_keys_end_raw (I.ok.hd hc) st (dct_raw I hd) (by omega) fun h' eb => ⟨rfl, I.turnedL (t' := s.toks) (ch := [it]) (fun b ob hb q => eb b ob (fun z => hb (by rw [z]; simp)) q) hf⟩
  self := fun A i s Q E st h => wpAny_pyIter_keyiter st h
/-- the keys and values of what a dict holds -/
theorem ents_vals {K : PySem.W.Frag} {w : World} {F : Hp} : ∀ {a : List DictEntry} {b : List (NestedKey × D)}, Paired (EntOk K w F) a b → ∃ ks vs : List V, KsRel ks a ∧ (Paired (fun (v : V) (e : DictEntry) => RelV v e.val) vs a) ∧ IsL K F ks (b.map fun q => keyD q.1) ∧ IsL K F vs (b.map fun q => q.2)
  | _, _, .nil => ⟨[], [], .nil, .nil, .nil, .nil⟩
  | _, _, .cons r t => by
    obtain ⟨ks, vs, h1, h2, h3, h4⟩ := ents_vals t
    obtain ⟨_, ⟨kv, r1, r2⟩, v, r3, r4⟩ := r
    exact ⟨kv :: ks, v :: vs, .cons r1 h1, .cons r3 h2, .cons r2 h3, .cons r4 h4⟩
section
variable {X : Cx} {e tg : Expr} {ρ : Rho} {L : Led} {R : RK1} {pos : Pos} {P : List D → Led → Led → Prop}
theorem dctX_at {K : PySem.W.Frag} {w : World} {H F : Hp} {L : Led} {p : Addr} {es : Array DictEntry} {ep : Nat} {kvs : List (NestedKey × D)} (o : Own K H F L) (hm : (p, dctX K w p es ep kvs) ∈ L) : H p = some (dctO p es ep) ∧ DctIs K w p F es kvs := by
  obtain ⟨_, u, h1, h2, h3⟩ := o.cell _ hm
  exact ⟨by rw [h1, h2], h3⟩
/-- an owned dict opened: its very entries are told -/
theorem Own.openD {K : PySem.W.Frag} {w : World} {H F : Hp} {L : Led} {p : Addr} {kvs : List (NestedKey × D)} (o : Own K H F L) (hm : (p, dctOD K w p kvs) ∈ L) : ∃ es ep, H p = some (dctO p es ep) ∧ DctIs K w p F es kvs ∧ ∀ L', Foc p (dctOD K w p kvs) (dctX K w p es ep kvs) L L' → Own K H F L' := by
  obtain ⟨_, u, h1, es, ep, h2, h3⟩ := o.cell _ hm
  refine ⟨es, ep, by rw [h1, h2], h3, fun L' f => ?_⟩
  have key := o.write f (o' := dctO p es ep) ⟨rfl, h3⟩
  have same : upd H p (dctO p es ep) = H := by
    funext a
    by_cases z : a = p
    · rw [z, upd_same, h1, h2]
    · rw [upd_ne z]
  rw [same] at key
  exact key
/-- for .. in d -/
theorem pdi_keysD (h : PD X e ρ L (fun d L1 => ∃ p kvs, d = .ref p ∧ (p, dctOD X.K X.w p kvs) ∈ L1 ∧ ∀ es ep, ∃ L2, Foc p (dctOD X.K X.w p kvs) (dctX X.K X.w p es ep kvs) L1 L2 ∧ P (kvs.map fun q => keyD q.1) [(p, dctX X.K X.w p es ep kvs)] L2) R) : PDI X tg e ρ L P R := .mk fun σ H F W A pins s I => by
  refine thn (h.go σ H F W A pins s I) fun v s1 ⟨x, H1, I1, rx, F1, d, L1, sm, o1, i1, p, kvs, ed, hm, q⟩ => ?_
  subst ed
  cases i1
  cases (show v = Value.ref p from rx)
  obtain ⟨es, ep, hp, q1, q2⟩ := Own.openD o1 hm
  obtain ⟨L2, f, q⟩ := q es ep
  have o2 := q2 L2 f
  obtain ⟨ks, vs, k1, k2, k3, k4⟩ := ents_vals q1.ents
  refine wpAny_pyIter_dict_raw q1.sys (dct_raw I1 hp) (pi_one (tk := s1.toks) I1 _ (turn_ks (p := p) (ep := ep) k1) ⟨_, Heap.get?_push_size _ rfl, rfl, rfl⟩ ⟨F1, _, _, L2, sm, o2, ?_, q⟩)
  intro H3 F3 L3 s3 o3 g3 i
  obtain ⟨hp3, _⟩ := dctX_at o3 (g3 _ (List.mem_singleton.mpr rfl))
  have hl := k3.length
  refine ⟨fun hle => ⟨hp3, by omega⟩, fun d hd => ?_⟩
  obtain ⟨v, hv, iv⟩ := k3.get hd
  refine ⟨⟨hp3, (List.getElem?_eq_some_iff.mp hv).1⟩, fun x H4 ⟨eH, hx⟩ => ?_⟩
  rw [hv] at hx
  cases hx
  subst eH
  exact ⟨F3, Same.refl _, o3, iv.mono s3⟩
end
/-! ### items -/
def ItIs2 (p : Addr) (es : Array DictEntry) (ep : Nat) (ks vs : List V) : It :=
  ⟨fun i H => H p = some (dctO p es ep) ∧ i < ks.length, fun i H x H' => ∃ T k v, x = .ref T ∧ H T = none ∧ H' = upd H T (.tup [k, v]) ∧ ks[i]? = some k ∧ vs[i]? = some v, fun i H => H p = some (dctO p es ep) ∧ ks.length ≤ i⟩
theorem turn_its {P : Program} {w : World} {K : PySem.W.Frag} {elts : List Expr} {kk : Nat} {tpos : Pos} {p it : Addr} (pit : p ≠ it) {es : Array DictEntry} {ep : Nat} {ks vs : List V} (pr : KsRel ks es.toList) (pv : Paired (fun (v : V) (e : DictEntry) => RelV v e.val) vs es.toList) :
    Turn P w K (.Tuple elts kk tpos) (ItIs2 p es ep ks vs) [it] it (fun i h => ∃ ok ov, IsItemIter h it p i es.size ep ok ov) where
  mem := List.mem_cons_self
  obj := fun i h st b hb => by
    rw [List.mem_singleton.mp hb]
    obtain ⟨ok, ov, e⟩ := st
    exact ⟨_, e, (fun v z => nomatch z)⟩
  keep := fun i h h' st k => by
    obtain ⟨ok, ov, e⟩ := st
    exact ⟨ok, ov, k it (by simp) _ e⟩
  item := by
    intro X hP hw hK hc i pins s σ H E I hf st hg
    subst hP hw hK
    obtain ⟨hd, hi⟩ := hg
    have hl : ks.length = es.size := (paired_length pr).trans Array.length_toList
    have hie : i < es.size := by omega
    have ee : es.toList[i]? = some es[i] := by rw [Array.getElem?_toList]; exact Array.getElem?_eq_getElem hie
    obtain ⟨k, hk, rk⟩ := paired_at pr ee
    obtain ⟨v, hv, rv⟩ := paired_at pv ee
    have W := WalksT.rawItems (prog := X.prog) (w := X.w) (A := X.A) (I.ok.hd hc) it p pit es ep
    have hit : it < s.heap.objs.size := by
      obtain ⟨ok, ov, e⟩ := st
      exact Heap.lt_size e
    refine W.item i s _ _ hie ⟨st, dct_raw I hd⟩ fun T vals h' tk hP hT hTup hM hk' => ⟨_, rfl, W.go elts kk tpos i T { s with heap := h', toks := tk } _ _ hM fun h2 st2 hk2 => ?_⟩
    obtain ⟨_, rfl⟩ := hP
    obtain ⟨o, ho, hcl, n, hdt⟩ := hTup
    have hT2 := hk2 T o (W.apart i T h' hM) ho
    have new : ObjOk X.prog X.w (upd H T (.tup [k, v])) h2 T (.tup [k, v]) := ⟨by show 2 ≤ sizeLine; decide, [es[i].key, es[i].val], .cons rk (.cons rv .nil), ⟨_, hT2, hcl, n, hdt⟩⟩
    have I1 : Inv X pins σ (upd H T (.tup [k, v])) { s with heap := h2, toks := tk } := I.turnedNew (ch := [it]) (fun c o hb q => hk2 c o hb (hk' c o hb q)) hf hT new
    refine ⟨.ref T, _, I1, rfl, ⟨T, k, v, rfl, I.hok.fresh hT, rfl, hk, hv⟩, st2.1, fun c hcm => ?_⟩
    have ec := List.mem_singleton.mp hcm
    subst ec
    rw [upd_ne (Nat.ne_of_lt (Nat.lt_of_lt_of_le hit hT))]
    exact (hf c hcm).1
  done := by
    intro X hP hw hK hc i pins s σ H E I hf st hg
    subst hP hw hK
    obtain ⟨hd, hi⟩ := hg
    have hl : ks.length = es.size := (paired_length pr).trans Array.length_toList
    obtain ⟨ok, ov, e⟩ := st
    refine wpAny_pyNext_items_end_raw (I.ok.hd hc) e (dct_raw I hd) (by omega) fun h' eb => ⟨rfl, I.turnedL (t' := s.toks) (ch := [it]) (fun b ob hb q => eb b ob (fun z => hb (by rw [z]; simp)) q) hf⟩
  self := fun A i s Q E st h => by
    obtain ⟨ok, ov, e⟩ := st
    exact wpAny_pyIter_itemiter e h
section
variable {X : Cx} {e tg : Expr} {ρ : Rho} {L : Led} {R : RK1} {pos : Pos}
theorem raw_noDict {h : Heap} {p : Addr} {es : Array DictEntry} {ep : Nat} (r : h.DictRaw p es ep) : ∀ b, Value.ref p = .ref b → ∃ ob, h.get? b = some ob ∧ ob.dict = none := fun b q => by
  cases q
  obtain ⟨o, ho, ⟨_, h2, _⟩, _⟩ := r
  exact ⟨o, ho, h2⟩
/-- for .. in d.items() -/
theorem pdi_itemsD {elts : List Expr} {kk : Nat} {tpos apos cpos : Pos} {P : List D → Led → Led → Prop} (h : PD X e ρ L (fun d L1 => ∃ p kvs, d = .ref p ∧ (p, dctOD X.K X.w p kvs) ∈ L1 ∧ ∀ es ep, ∃ L2, Foc p (dctOD X.K X.w p kvs) (dctX X.K X.w p es ep kvs) L1 L2 ∧ P (kvs.map fun q => .tup [keyD q.1, q.2]) [(p, dctX X.K X.w p es ep kvs)] L2) R)
    (hbase : attributeBase e "items" X.env (eval e X.env) = eval e X.env := by rfl) (hline : (apos.endLine == cpos.line) = true := by rfl) : PDI X (.Tuple elts kk tpos) (.Call (.Attribute e "items" apos) [] [] cpos) ρ L P R := .mk fun σ H F W A pins s I => by
  refine wpAny_Call_method (T := "dict") (id := "dict.items") hbase rfl hline PySem.F.plainAttrs_dict PySem.F.slot_dict_items PySem.F.type_dict_items (thn (h.go σ H F W A pins s I) fun v s1 ⟨x, H1, I1, rx, F1, d, L1, sm, o1, i1, p, kvs, ed, hm, q⟩ => ?_)
  subst ed
  cases i1
  cases (show v = Value.ref p from rx)
  obtain ⟨es, ep, hp, q1, q2⟩ := Own.openD o1 hm
  obtain ⟨L2, f, q⟩ := q es ep
  have o2 := q2 L2 f
  have raw := dct_raw I1 hp
  obtain ⟨ks, vs, k1, k2, k3, k4⟩ := ents_vals q1.ents
  refine ⟨raw.typeIs, raw_noDict raw, ?_⟩
  have I2 : Inv X pins σ H1 { s1 with heap := s1.heap.push { cls := .type "dict_items", data := .fields #[.ref p] } } := I1.kept (t' := s1.toks) fun b ob q => Heap.get?_push_of_some _ q
  have raw2 : (s1.heap.push { cls := .type "dict_items", data := .fields #[.ref p] }).DictRaw p es ep := raw.at fun o e => Heap.get?_push_of_some _ e
  have fin : wpAny (model X.prog X.w) X.A (pyIter (.ref s1.heap.objs.size)) (PIE X pins σ (.Tuple elts kk tpos) (upI X.K F P)) X.xe { s1 with heap := s1.heap.push { cls := .type "dict_items", data := .fields #[.ref p] } } := by
    refine wpAny_pyIter_items_raw (d := p) ⟨_, Heap.get?_push_size _ rfl, rfl, rfl⟩ raw2 (pi_one (tk := s1.toks) I2 _ (turn_its (p := p) (ep := ep) (Nat.ne_of_lt raw2.lt_size) k1 k2) ⟨.none, .none, Heap.get?_push_size _ rfl⟩ ⟨F1, _, _, L2, sm, o2, ?_, q⟩)
    intro H3 F3 L3 s3 o3 g3 i
    obtain ⟨hp3, _⟩ := dctX_at o3 (g3 _ (List.mem_singleton.mpr rfl))
    have hl := k3.length
    rw [List.length_map] at hl
    refine ⟨fun hle => ⟨hp3, by rw [List.length_map] at hle; omega⟩, fun d hd => ?_⟩
    rw [List.getElem?_map] at hd
    cases ek : kvs[i]? with
    | none => rw [ek] at hd; cases hd
    | some kd =>
      rw [ek] at hd
      cases hd
      obtain ⟨k, hk, ik⟩ := k3.get (i := i) (d := keyD kd.1) (by rw [List.getElem?_map, ek]; rfl)
      obtain ⟨v, hv, iv⟩ := k4.get (i := i) (d := kd.2) (by rw [List.getElem?_map, ek]; rfl)
      refine ⟨⟨hp3, (List.getElem?_eq_some_iff.mp hk).1⟩, fun x H4 ⟨T, k', v', ex, hT, eH, e1, e2⟩ => ?_⟩
      rw [hk] at e1
      rw [hv] at e2
      cases e1
      cases e2
      subst ex eH
      obtain ⟨s4, o4⟩ := o3.froze (o := .tup [k, v]) hT
      exact ⟨_, s4, o4, .tup (SqT.of upd_same) (.cons ((ik.mono s3).mono s4) (.cons ((iv.mono s3).mono s4) .nil))⟩
  show wpAny _ _ (callWith cpos (.builtin "dict.items") [.ref p] [] []) _ X.xe s1
  exact method_meetsIn PySem.F.slot_dict_items PySem.F.entry_dict_items rfl (PySem.evalArgs_none ⟨rfl, raw.typeIs, PySem.F.args_dict_items_1 _, _, meets_dict_items_raw p q1.sys, ⟨es, ep, raw⟩, fin⟩)
end
/-! ### list(d) -/
section
variable {X : Cx} {L : Led} {P : PK1} {p : Addr} {kvs : List (NestedKey × D)}
theorem paired_ix {α β : Type} {R : α → β → Prop} : ∀ {a : List α} {b : List β}, a.length = b.length → (∀ (i : Nat) x y, a[i]? = some x → b[i]? = some y → R x y) → Paired R a b
  | [], [], _, _ => .nil
  | [], _ :: _, h, _ => by cases h
  | _ :: _, [], h, _ => by cases h
  | x :: a, y :: b, h, q => .cons (q 0 x y (by simp) (by simp)) (paired_ix (Nat.succ.inj h) fun i u v hu hv => q (i + 1) u v (by simpa using hu) (by simpa using hv))
theorem items_vals {es : Array DictEntry} {acc : Array Value} (h : ItemsOf (fun i v => ∃ hi : i < es.size, v = es[i].key) acc es.size) {ks : List V} (k : KsRel ks es.toList) : Vals ks acc.toList := by
  obtain ⟨h1, h2⟩ := h
  refine paired_ix ((paired_length k).trans (Array.length_toList.trans (h1.symm.trans Array.length_toList.symm))) fun i x y hx hy => ?_
  obtain ⟨hi, e⟩ := h2 i y (by simpa using hy)
  obtain ⟨x', hx', r⟩ := paired_at k (i := i) (y := es[i]) (by rw [Array.getElem?_toList]; exact Array.getElem?_eq_getElem hi)
  rw [hx] at hx'
  cases hx'
  rw [e]
  exact r
theorem list_low {pins : List (Addr × Obj)} {σ : L2.St} {H F : Hp} {s : Shared} {Q : Value → Shared → Prop} (hc : X.calm = true) (I : Inv X pins σ H s) (o : Own X.K H F L) (hm : (p, dctOD X.K X.w p kvs) ∈ L)
    (h : ∀ a xs s', H a = none → IsL X.K F xs (kvs.map fun q => keyD q.1) → Inv X pins σ (upd H a (.lst xs)) s' → Q (.ref a) s') : wpAny (model X.prog X.w) X.A (call (.type "list") [.ref p]) Q X.xe s := by
  obtain ⟨es, ep, e, q⟩ := dct_own o hm
  have r := dct_raw I e
  obtain ⟨ks, vs, k1, k2, k3, k4⟩ := ents_vals q.ents
  have hl : es.size = kvs.length := by rw [← paired_length q.ents, Array.length_toList]
  have hz := q.sz
  refine kdl_call (KdlSrc.rawDict q.sys) (I.ok.hd hc) r (by omega) fun h' tk acc c hk hS hi => ?_
  have vals := items_vals hi k1
  have hlen : acc.toList.length = kvs.length := by rw [← vals.length, k3.length, List.length_map]
  refine h _ ks _ (I.hok.fresh (Nat.le_refl _)) k3 (I.laid hk (Nat.le_refl _) ⟨by rw [k3.length, List.length_map]; exact hz, acc.toList, c, vals, by simpa using hS⟩)
theorem cd_listD (hc : X.calm = true) (hm : (p, dctOD X.K X.w p kvs) ∈ L) (h : P (.lst (kvs.map fun q => keyD q.1)) L) : CallD X (.type "list") [.ref p] L P := fun pins s σ H F xs us o ix I r => by
  obtain ⟨v, rfl, iv⟩ := isl1 ix
  cases iv
  cases r with
  | cons r1 r2 =>
    cases r2
    rename_i u
    cases (show u = Value.ref p from r1)
    refine list_low hc I o hm fun a xs s' ha ixs I' => ?_
    obtain ⟨s2, o2⟩ := o.froze (o := .lst xs) ha
    exact ⟨.ref a, _, I', rfl, _, .lst _, L, s2, o2, .lst upd_same (ixs.mono s2), h⟩
/-- .. owned -/
theorem cd_listDo (hc : X.calm = true) (hm : (p, dctOD X.K X.w p kvs) ∈ L) (h : ∀ a, P (.ref a) ((a, .lst (kvs.map fun q => keyD q.1)) :: L)) : CallD X (.type "list") [.ref p] L P := fun pins s σ H F xs us o ix I r => by
  obtain ⟨v, rfl, iv⟩ := isl1 ix
  cases iv
  cases r with
  | cons r1 r2 =>
    cases r2
    rename_i u
    cases (show u = Value.ref p from r1)
    refine list_low hc I o hm fun a xs s' ha ixs I' => ?_
    exact ⟨.ref a, _, I', rfl, F, .ref a, _, Same.refl _, o.push ha (x := .lst _) ⟨xs, rfl, ixs⟩, .sc _, h a⟩
end
end D2
end
section
set_option Elab.async false
set_option linter.all false
set_option maxRecDepth 100000
set_option maxHeartbeats 4000000
namespace D2
open PySem L2
open PySem.Spec hiding Row
theorem atI_last {ds : List D} {d : D} (h : ds.getLast? = some d) : atI ds (-1) = some d := by
  have hn : 0 < ds.length := by
    cases ds with
    | nil => cases h
    | cons a b => exact Nat.succ_pos _
  unfold atI ixN
  rw [if_neg (by decide), if_pos (by omega)]
  show ds[(-1 + (ds.length : Int)).toNat]? = _
  rw [show (-1 + (ds.length : Int)).toNat = ds.length - 1 by omega, ← List.getLast?_eq_getElem?]
  exact h
/-! ### lists of owned lists -/
section
variable {α : Type}
def cellsL (f : α → D) (qs : List Addr) (cs : List (List α)) : Led := List.zipWith (fun q c => (q, OD.lst (c.map f))) qs cs
theorem cellsL_foc {f : α → D} {R : Led} {q : Addr} {c c' : List α} : ∀ {qs : List Addr} {cs : List (List α)} {j : Nat}, qs[j]? = some q → cs[j]? = some c → Foc q (.lst (c.map f)) (.lst (c'.map f)) (cellsL f qs cs ++ R) (cellsL f qs (cs.set j c') ++ R)
  | [], _, j, h, _ => by simp at h
  | _ :: _, [], j, _, h => by simp at h
  | a :: qs, b :: cs, 0, h1, h2 => by
    simp only [List.getElem?_cons_zero, Option.some.injEq] at h1 h2
    subst h1 h2
    exact .here
  | a :: qs, b :: cs, j + 1, h1, h2 => .there (cellsL_foc (qs := qs) (cs := cs) (j := j) (by simpa using h1) (by simpa using h2))
theorem cellsL_snoc (f : α → D) {qs : List Addr} {cs : List (List α)} (h : qs.length = cs.length) (q : Addr) (c : List α) : cellsL f (qs ++ [q]) (cs ++ [c]) = cellsL f qs cs ++ [(q, .lst (c.map f))] := by
  unfold cellsL
  rw [List.zipWith_append h]
  rfl
theorem cellsL_mem {f : α → D} {q : Addr} {c : List α} : ∀ {qs : List Addr} {cs : List (List α)} {j : Nat}, qs[j]? = some q → cs[j]? = some c → (q, OD.lst (c.map f)) ∈ cellsL f qs cs
  | [], _, j, h, _ => by simp at h
  | _ :: _, [], j, _, h => by simp at h
  | a :: qs, b :: cs, 0, h1, h2 => by
    simp only [List.getElem?_cons_zero, Option.some.injEq] at h1 h2
    subst h1 h2
    exact List.mem_cons_self
  | a :: qs, b :: cs, j + 1, h1, h2 => List.mem_cons_of_mem _ (cellsL_mem (qs := qs) (cs := cs) (j := j) (by simpa using h1) (by simpa using h2))
end
section
variable {X : Cx} {e iter elt tg : Expr} {ρ : Rho} {L : Led} {P : PK1} {R : RK1} {E : DE} {pos : Pos} {scope : Scope}
/-- [[] for .. in ds]: new empty lists, owned -/
theorem lc_empties {g : TG} {vs : List Nat} {ds : List D} {G : Led} {α : Type} (f : α → D) {p1 : Pos} (hgd : ∀ d ∈ ds, ∃ us, GD X.K g d us ∧ ∀ u ∈ us, u.1 ∈ vs) (hG : SubL G L) (hl : ds.length ≤ sizeLine)
    (q : ∀ p (qs : List Addr), qs.length = ds.length → P (.ref p) ((p, .lst (qs.map D.ref)) :: (cellsL f qs (List.replicate ds.length []) ++ L))) : LcD X g (.List [] p1) [] scope vs ρ ds G L P := by
  refine ⟨fun i acc L2 => ∃ qs : List Addr, acc = qs.map D.ref ∧ qs.length = min i ds.length ∧ L2 = cellsL f qs (List.replicate qs.length []) ++ L, ⟨[], rfl, by simp, rfl⟩, fun i acc L2 ⟨qs, _, _, e⟩ => by rw [e]; exact hG.app, fun i d acc L2 hd ⟨qs, e1, e2, e3⟩ => ?_, fun acc L2 ⟨qs, e1, e2, e3⟩ p => ?_⟩
  · subst e1 e3
    have hi := (List.getElem?_eq_some_iff.mp hd).1
    obtain ⟨us, h1, h2⟩ := hgd d (List.mem_of_getElem? hd)
    refine ⟨us, true, h1, h2, fun Y p b => ⟨rfl, rfl⟩, ?_⟩
    show ∀ Y p, Blk X scope Y → _
    intro Y p b
    refine pd_lst <| pda_nil ⟨by show 0 ≤ sizeLine; decide, fun a => ⟨cellsL f (qs ++ [a]) (List.replicate (qs ++ [a]).length []) ++ L, ?_, by rw [List.length_map]; omega, qs ++ [a], by rw [List.map_append]; rfl, by rw [List.length_append, e2]; show min i ds.length + 1 = min (i + 1) ds.length; omega, rfl⟩⟩
    have er : List.replicate (qs ++ [a]).length ([] : List α) = List.replicate qs.length [] ++ [[]] := by
      rw [List.length_append, List.length_singleton, List.replicate_succ']
    rw [er, cellsL_snoc f (by rw [List.length_replicate]), List.append_assoc]
    exact .trans .swap (.cons (.trans .back (.refl _)))
  · subst e1 e3
    have e4 : qs.length = ds.length := by omega
    have := q p qs e4
    rw [← e4] at this
    exact this
/-- [elt for y, z in iter], typed -/
theorem pd_lc2 {i j : Nat} {y z : Str} {py pz pt : Pos} {kt : Nat} (hc : X.calm = true) (hN : X.N.Nodup) (ok : BlkOk X.N X.env.scope scope [(y, i), (z, j)])
    (hg : ∀ (s : Shared) (H : Hp) (C : Addr) (cl : List (Str × Addr)) (fp : List Addr), PG (X.blk s H scope (compEnvC scope cl C X.env) fp) (.Tuple [.Name y py, .Name z pz] kt pt) (gTup X.K 2 (gCons (gName i) (gCons (gName j) gNil))))
    (h : PDI X (.Tuple [.Name y py, .Name z pz] kt pt) iter ρ L (fun ds G L1 => ∃ (α : Type) (xs : List α) (f1 f2 g' : α → D), ds = xs.map (fun x => D.tup [f1 x, f2 x]) ∧ SubL G L1 ∧ xs.length ≤ sizeLine ∧
      (∀ x ∈ xs, ∀ Y p acc, Blk X scope Y → PD Y elt (setsD (wipeD ρ [i, j]) [(i, f1 x), (j, f2 x)]) ((p, .lst acc) :: L1) (fun y L6 => y = g' x ∧ Lw L6 ((p, .lst acc) :: L1)) noR) ∧ P (.lst (xs.map g')) L1) R)
    (hs : ∀ x, foldedSetIterable iter X.env x = pure x := by intro _; rfl) : PD X (.ListComp elt [⟨.Tuple [.Name y py, .Name z pz] kt pt, iter, [], 0⟩] scope pos) ρ L P R :=
  pd_lcF (own := [(y, i), (z, j)]) (g := gTup X.K 2 (gCons (gName i) (gCons (gName j) gNil))) hc hN ok hg (h.mono fun ds G L1 ⟨α, xs, f1, f2, g', e, hG, hl, hb, q⟩ => lcT xs (fun x => D.tup [f1 x, f2 x]) g' (fun x => [(i, f1 x), (j, f2 x)]) e (fun x => gd_tup (gds_cons gd_name (gds_cons gd_name gds_nil)) rfl)
    (fun x u hu => by
      simp only [List.mem_cons, List.not_mem_nil, or_false] at hu
      rcases hu with rfl | rfl
      · exact List.mem_cons_self
      · exact List.mem_cons_of_mem _ List.mem_cons_self) hG hl hb q) hs
/-- v = [elt for y, z in iter], typed -/
theorem pds_lc2 {i j l : Nat} {y z v : Str} {py pz pt pv spos : Pos} {kt : Nat} (hc : X.calm = true) (hN : X.N.Nodup) (hv : X.N[l]? = some v) (hvl : X.env.scope.names.lookup v = some .local)
    (hsw : swapsWith (.ListComp elt [⟨.Tuple [.Name y py, .Name z pz] kt pt, iter, [], 0⟩] scope pos) (some (.Name v pv)) spos.line X.env = pure true) (ok : BlkOk X.N X.env.scope scope [(y, i), (z, j)])
    (hg : ∀ (s : Shared) (H : Hp) (C : Addr) (cl : List (Str × Addr)) (fp : List Addr), PG (X.blk s H scope (compEnvC scope cl C X.env) fp) (.Tuple [.Name y py, .Name z pz] kt pt) (gTup X.K 2 (gCons (gName i) (gCons (gName j) gNil))))
    (h : PDI X (.Tuple [.Name y py, .Name z pz] kt pt) iter ρ L (fun ds G L1 => ∃ (α : Type) (xs : List α) (f1 f2 g' : α → D), ds = xs.map (fun x => D.tup [f1 x, f2 x]) ∧ SubL G L1 ∧ xs.length ≤ sizeLine ∧
      (∀ x ∈ xs, ∀ Y p acc, Blk X scope Y → PD Y elt (setsD (wipeD ρ [i, j]) [(i, f1 x), (j, f2 x)]) ((p, .lst acc) :: L1) (fun y L6 => y = g' x ∧ Lw L6 ((p, .lst acc) :: L1)) noR) ∧ E.nx (ρ.set l (some (.lst (xs.map g')))) L1) (E.ex ρ))
    (hs : ∀ x, foldedSetIterable iter X.env x = pure x := by intro _; rfl) : PDS X (.Assign [.Name v pv] (.ListComp elt [⟨.Tuple [.Name y py, .Name z pz] kt pt, iter, [], 0⟩] scope pos) spos) E ρ L :=
  pds_setLcF (own := [(y, i), (z, j)]) (g := gTup X.K 2 (gCons (gName i) (gCons (gName j) gNil))) hc hN hv hvl hsw ok hg (h.mono fun ds G L1 ⟨α, xs, f1, f2, g', e, hG, hl, hb, q⟩ => lcT xs (fun x => D.tup [f1 x, f2 x]) g' (fun x => [(i, f1 x), (j, f2 x)]) e (fun x => gd_tup (gds_cons gd_name (gds_cons gd_name gds_nil)) rfl)
    (fun x u hu => by
      simp only [List.mem_cons, List.not_mem_nil, or_false] at hu
      rcases hu with rfl | rfl
      · exact List.mem_cons_self
      · exact List.mem_cons_of_mem _ List.mem_cons_self) hG hl hb q) hs
theorem isl3 {K : PySem.W.Frag} {F : Hp} {xs : List V} {d d' d2 : D} (h : IsL K F xs [d, d', d2]) : ∃ v v' v2, xs = [v, v', v2] ∧ Is K F v d ∧ Is K F v' d' ∧ Is K F v2 d2 := by
  cases h with
  | cons a h =>
    cases h with
    | cons b h =>
      cases h with
      | cons c h =>
        cases h
        exact ⟨_, _, _, rfl, a, b, c⟩
/-- x, y, z = a, b, c -/
theorem pds_par3 {a b c : Expr} {i j l : Nat} {x y z : Str} {px py pz pt : Pos} {kt k2 : Nat} {pt2 : Pos} (hc : X.calm = true) (hN : X.N.Nodup) (hi : X.N[i]? = some x) (hj : X.N[j]? = some y) (hl : X.N[l]? = some z) (hij : i ≠ j) (hil : i ≠ l) (hjl : j ≠ l)
    (h : PDA X [a, b, c] ρ L (fun ds L1 => ∃ d d' d2, ds = [d, d', d2] ∧ E.nx (((ρ.set i (some d)).set j (some d')).set l (some d2)) L1) (E.ex ρ))
    (hx : X.env.scope.names.lookup x = some .local := by rfl) (hy : X.env.scope.names.lookup y = some .local := by rfl) (hz : X.env.scope.names.lookup z = some .local := by rfl)
    (hw : swappedStores [.Tuple [.Name x px, .Name y py, .Name z pz] kt pt] (.Tuple [a, b, c] k2 pt2) X.env = pure (some [x, y, z]) := by rfl)
    (hs : swapsWithSole [.Tuple [.Name x px, .Name y py, .Name z pz] kt pt] (.Tuple [a, b, c] k2 pt2) pos.line X.env = pure false := by rfl) : PDS X (.Assign [.Tuple [.Name x px, .Name y py, .Name z pz] kt pt] (.Tuple [a, b, c] k2 pt2) pos) E ρ L :=
  pds_of (L2.ps_par3 hc hN hi hj hl hij hil hjl hx hy hz pa_w hw hs) fun σ H F W A => h.step A.at fun vs H1 F1 ds L1 s1 A1 iv ⟨d, d', d2, ed, q⟩ => by
    subst ed
    obtain ⟨u, v, w, rfl, i1, i2, i3⟩ := isl3 iv
    exact ⟨u, v, w, rfl, F1, _, L1, s1, A1.own, ((A1.env.set i1 i).set i2 j).set i3 l, q⟩
end
end D2
end
section
set_option Elab.async false
set_option linter.all false
set_option maxRecDepth 100000
set_option maxHeartbeats 4000000
namespace D2
open PySem L2
open PySem.Spec hiding Row
section
variable {X : Cx} {e iter elt tg iter1 tg1 : Expr} {ifs1 : List Expr} {es : List Expr} {ρ : Rho} {L : Led} {P : PK1} {R : RK1} {E : DE} {pos : Pos} {scope : Scope}
/-! ### a star in a display -/
theorem pda_star {p : Pos} {P : List D → Led → Prop} (h : PD X e ρ L (fun d L1 => ∃ ds, Sq L1 d ds ∧ PDA X es ρ L1 (fun ds2 L2 => P (ds ++ ds2) L2) R) R) : PDA X (.Starred e p :: es) ρ L P R := .mk fun σ H F W A ps pins s I =>
  (StX.pa_star (te := wE X e) (t := wA X es) pe_w pa_w).run ps pins s σ H _ I (h.step A fun x H1 F1 d L1 s1 A1 ix ⟨ds, hq, q1⟩ => by
    obtain ⟨a, xs, rfl, hs, hx⟩ := hq.get A1.own ix
    exact ⟨a, xs, rfl, hs.symm, q1.step A1 fun ys H2 F2 db L2 s2 A2 iy q2 => ⟨F2, _, L2, s1.trans s2, A2.own, (hx.mono s2).append iy, q2⟩⟩)
/-! ### two fors in a comprehension -/
def wIB (X : Cx) (scope : Scope) (tg1 iter1 : Expr) : TI := fun σ H R => ∀ s0 H0 C cl fp, wI (X.blk s0 H0 scope (compEnvC scope cl C X.env) fp) tg1 iter1 σ H R
theorem pi_wB (s0 : Shared) (H0 : Hp) (C : Addr) (cl : List (Str × Addr)) (fp : List Addr) : PI (X.blk s0 H0 scope (compEnvC scope cl C X.env) fp) tg1 iter1 (wIB X scope tg1 iter1) := ⟨fun pins s σ H R I h => h s0 H0 C cl fp pins s I⟩
/-- what the inner loop asks, from the list acc on -/
def LcIn (X : Cx) (g1 : TG) (elt : Expr) (ifs1 : List Expr) (scope : Scope) (vs1 : List Nat) (ρ : Rho) (acc : List D) (es : List D) (G1 L : Led) (N : List D → Led → Prop) : Prop :=
  ∃ J : Nat → List D → Led → Prop, J 0 acc L ∧ (∀ j ac L5, J j ac L5 → SubL G1 L5) ∧
    (∀ j e ac L5, es[j]? = some e → J j ac L5 → ∃ us b, GD X.K g1 e us ∧ (∀ u ∈ us, u.1 ∈ vs1) ∧
      (∀ Y p, Blk X scope Y → PDTs Y ifs1 (setsD (wipeD ρ vs1) us) ((p, .lst ac) :: L5) (fun t L4 => t = b ∧ L4 = (p, .lst ac) :: L5)) ∧
      (if b = true then ∀ Y p, Blk X scope Y → PD Y elt (setsD (wipeD ρ vs1) us) ((p, .lst ac) :: L5) (fun y L6 => ∃ L7, Lw L6 ((p, .lst ac) :: L7) ∧ ac.length < sizeLine ∧ J (j + 1) (ac ++ [y]) L7) noR else J (j + 1) ac L5)) ∧
    ∀ ac L5, J es.length ac L5 → N ac L5
/-- what a comprehension with two fors asks -/
def LcD2 (X : Cx) (g g1 : TG) (elt tg1 iter1 : Expr) (ifs1 : List Expr) (scope : Scope) (vs vs1 : List Nat) (ρ : Rho) (ds : List D) (G L1 : Led) (P : PK1) : Prop :=
  ∃ I : Nat → List D → Led → Prop, I 0 [] L1 ∧ (∀ i acc L2, I i acc L2 → SubL G L2) ∧
    (∀ i d acc L2, ds[i]? = some d → I i acc L2 → ∃ us, GD X.K g d us ∧ (∀ u ∈ us, u.1 ∈ vs) ∧
      ∀ Y p, Blk X scope Y → PDI Y tg1 iter1 (setsD (wipeD ρ vs) us) ((p, .lst acc) :: L2) (fun es G1 L3 => ∃ L4, L3 = (p, .lst acc) :: L4 ∧ LcIn X g1 elt ifs1 scope vs1 (setsD (wipeD ρ vs) us) acc es G1 L4 (I (i + 1))) noR) ∧
    ∀ acc L2, I ds.length acc L2 → ∀ p, P (.ref p) ((p, .lst acc) :: L2)
theorem sets_in {K : PySem.W.Frag} {F : Hp} {vs : List Nat} : ∀ {ws : List (Nat × V)} {us : List (Nat × D)}, SetOk K F ws us → (∀ u ∈ us, u.1 ∈ vs) → ∀ w ∈ ws, w.1 ∈ vs
  | _, _, .nil, _ => fun _ h => nomatch h
  | _, _, .cons r t, h => fun w z => by
    rcases List.mem_cons.mp z with z | z
    · rw [z, r.1]; exact h _ List.mem_cons_self
    · exact sets_in t (fun u hu => h u (List.mem_cons_of_mem _ hu)) w z
theorem lc2_read {g g1 : TG} {vs vs1 : List Nat} (h : PDI X tg iter ρ L (fun ds G L1 => LcD2 X g g1 elt tg1 iter1 ifs1 scope vs vs1 ρ ds G L1 P) R) {σ : St} {H F : Hp} {W : WX} (A : At X ρ L R σ H F W) :
    tLc2 (wI X tg iter) g tYes (wIB X scope tg1 iter1) g1 (wBT X scope ifs1) (wB X scope elt) vs vs1 σ H (upV X.K F P) := by
  intro pins s I
  refine thn (h.go σ H F W A pins s I) fun v s1 h1 => thn h1 fun itv s2 h2 => ?_
  obtain ⟨it, fp, tn, J, H1, e1, I1, T, st1, f1, F1, ds, G, L1, sm1, o1, ii, Iv, h0, hG, hstep, hend⟩ := h2
  refine ⟨it, fp, tn, J, H1, e1, I1, T, st1, f1, fun Dl hD => ?_⟩
  refine ⟨fun i m H2 => m = ds.length - i ∧ i ≤ ds.length ∧ ∃ F2 acc L2, Same F1 F2 ∧ Own X.K H2 F2 ((Dl, .lst acc) :: L2) ∧ Iv i acc L2, ⟨ds.length, by simp, Nat.zero_le _, F1, [], L1, Same.refl _, o1.push hD (x := .lst []) ⟨[], rfl, .nil⟩, h0⟩, ?_⟩
  rintro i m H2 ⟨rfl, hi, F2, acc, L2, sm2, o2, q⟩
  obtain ⟨k1, k2⟩ := ii H2 F2 _ sm2 o2 (hG i acc L2 q).cons i
  by_cases hlt : i < ds.length
  · obtain ⟨ga, gb⟩ := k2 (ds[i]) (by simp [hlt])
    refine .inr ⟨ga, fun H3 => ∃ F2 acc L2, Same F1 F2 ∧ Own X.K H3 F2 ((Dl, .lst acc) :: L2) ∧ Iv (i + 1) acc L2, fun H' p => ⟨ds.length - (i + 1), by omega, rfl, hlt, p⟩, fun x H' y => ?_⟩
    obtain ⟨F3, sm3, o3, ix⟩ := gb x H' y
    obtain ⟨us, hgd, hus, hin⟩ := hstep i (ds[i]) acc L2 (by simp [hlt]) q
    refine hgd F3 H' _ (wipe σ vs) x _ o3 ix fun ws hw => ?_
    have sAll : Same F F3 := (sm1.trans sm2).trans sm3
    have ev : EnvOk X.K F3 (setsV (wipe σ vs) ws) (setsD (wipeD ρ vs) us) := env_sets (env_wipe (A.env.mono sAll) vs) hw
    refine ⟨by rw [wipe_sets (sets_in hw hus), wipe_wipe], ?_⟩
    simp only [tYes, ↓reduceIte]
    intro s0 H0 C cl fp'
    have at3 : At (X.blk s0 H0 scope (compEnvC scope cl C X.env) fp') (setsD (wipeD ρ vs) us) ((Dl, .lst acc) :: L2) noR (setsV (wipe σ vs) ws) H' F3 (fun _ _ _ _ => False) := ⟨ev, o3, takes0, fun _ _ _ ⟨_, _, _, _, _, _, _, _, _, _, _, _, z⟩ => z⟩
    refine wI_mono (fun J1 H4 hup => ?_) ((hin _ Dl ⟨s0, H0, C, cl, fp', rfl⟩).go _ _ _ _ at3)
    obtain ⟨F4, es, G1, L3, sm4, o4, ii1, L4, eL, Jv, j0, jG, jstep, jend⟩ := hup
    subst eL
    refine ⟨fun j k H5 => k = es.length - j ∧ j ≤ es.length ∧ ∃ F5 ac L5, Same F4 F5 ∧ Own X.K H5 F5 ((Dl, .lst ac) :: L5) ∧ Jv j ac L5, ⟨es.length, by simp, Nat.zero_le _, F4, acc, L4, Same.refl _, o4, j0⟩, ?_⟩
    rintro j k H5 ⟨rfl, hj, F5, ac, L5, sm5, o5, q5⟩
    obtain ⟨m1, m2⟩ := ii1 H5 F5 _ sm5 o5 (jG j ac L5 q5).cons j
    by_cases hlj : j < es.length
    · obtain ⟨gc, gd⟩ := m2 (es[j]) (by simp [hlj])
      refine .inr ⟨gc, fun H6 => ∃ F5 ac L5, Same F4 F5 ∧ Own X.K H6 F5 ((Dl, .lst ac) :: L5) ∧ Jv (j + 1) ac L5, fun H6 p => ⟨es.length - (j + 1), by omega, rfl, hlj, p⟩, fun x1 H6 y1 => ?_⟩
      obtain ⟨F6, sm6, o6, ix1⟩ := gd x1 H6 y1
      obtain ⟨us1, b, hgd1, hus1, htest, helt⟩ := jstep j (es[j]) ac L5 (by simp [hlj]) q5
      refine hgd1 F6 H6 _ (wipe (setsV (wipe σ vs) ws) vs1) x1 _ o6 ix1 fun ws1 hw1 => ?_
      have sB : Same F3 F6 := (sm4.trans sm5).trans sm6
      have ev1 : EnvOk X.K F6 (setsV (wipe (setsV (wipe σ vs) ws) vs1) ws1) (setsD (wipeD (setsD (wipeD ρ vs) us) vs1) us1) := env_sets (env_wipe (ev.mono sB) vs1) hw1
      have atB : ∀ {Y : Cx} {H3 F7 : Hp} {L7 : Led}, Y.K = X.K → Same F6 F7 → Own X.K H3 F7 L7 → At Y (setsD (wipeD (setsD (wipeD ρ vs) us) vs1) us1) L7 noR (setsV (wipe (setsV (wipe σ vs) ws) vs1) ws1) H3 F7 (fun _ _ _ _ => False) := fun {Y H3 F7 L7} ek s4 o4 => ⟨by rw [ek]; exact ev1.mono s4, by rw [ek]; exact o4, takes0, fun _ _ _ ⟨_, _, _, _, _, _, _, _, _, _, _, _, z⟩ => z⟩
      have fin : ∀ {t : Bool} {H3 : Hp}, upB X.K F6 (fun t L4 => t = b ∧ L4 = (Dl, OD.lst ac) :: L5) t H3 →
          if t = true then wB X scope elt (setsV (wipe (setsV (wipe σ vs) ws) vs1) ws1) H3 fun y H4 => ∃ acc, H4 Dl = some (.lst acc) ∧ acc.length < sizeLine ∧ ∃ F5 ac L5, Same F4 F5 ∧ Own X.K (upd H4 Dl (.lst (acc ++ [y]))) F5 ((Dl, .lst ac) :: L5) ∧ Jv (j + 1) ac L5
          else ∃ F5 ac L5, Same F4 F5 ∧ Own X.K H3 F5 ((Dl, .lst ac) :: L5) ∧ Jv (j + 1) ac L5 := by
        rintro t H3 ⟨F7, L7, s7, o7, rfl, rfl⟩
        cases t with
        | false => exact ⟨F7, ac, L5, (sm5.trans sm6).trans s7, o7, helt⟩
        | true =>
          have helt : ∀ Y p, Blk X scope Y → PD Y elt (setsD (wipeD (setsD (wipeD ρ vs) us) vs1) us1) ((p, .lst ac) :: L5) (fun y L6 => ∃ L7, Lw L6 ((p, .lst ac) :: L7) ∧ ac.length < sizeLine ∧ Jv (j + 1) (ac ++ [y]) L7) noR := helt
          intro s0 H0 C cl fp
          refine ((helt _ Dl ⟨s0, H0, C, cl, fp, rfl⟩).go _ _ _ _ (atB rfl s7 o7)).mono fun y H4 ⟨F8, d8, L6, s8, o8, i8, L9, e9, hl9, q9⟩ => ?_
          have o8 := e9.own o8
          obtain ⟨_, u, g1, ys, rfl, h2⟩ := o8.cell _ (List.mem_cons_self ..)
          exact ⟨ys, g1, by rw [h2.length]; exact hl9, F8, ac ++ [d8], L9, ((sm5.trans sm6).trans s7).trans s8, o8.write (Foc.here : Foc Dl (.lst ac) (.lst (ac ++ [d8])) ((Dl, .lst ac) :: L9) ((Dl, .lst (ac ++ [d8])) :: L9)) ⟨_, rfl, h2.append (.cons i8 .nil)⟩, q9⟩
      refine ⟨by rw [wipe_sets (sets_in hw1 hus1), wipe_wipe], fun s0 H0 C cl fp' pins' s' I' => ?_⟩
      match ifs1, htest with
      | [], htest => exact fin ⟨F6, _, Same.refl _, o6, htest (X.blk s0 H0 scope (compEnvC scope cl C X.env) fp') Dl ⟨s0, H0, C, cl, fp', rfl⟩⟩
      | [c], htest =>
        have ht : PDT (X.blk s0 H0 scope (compEnvC scope cl C X.env) fp') c (setsD (wipeD (setsD (wipeD ρ vs) us) vs1) us1) ((Dl, .lst ac) :: L5) (fun t L4 => t = b ∧ L4 = (Dl, .lst ac) :: L5) noR := htest _ Dl ⟨s0, H0, C, cl, fp', rfl⟩
        exact thn (ht.go _ _ _ _ (atB rfl (Same.refl _) o6) pins' s' I') fun t s5 ⟨H5, I5, q5⟩ => ⟨H5, I5, fin q5⟩
      | _ :: _ :: _, htest => exact (htest _ Dl ⟨s0, H0, C, cl, fp', rfl⟩ : False).elim
    · have e : j = es.length := by omega
      subst e
      exact .inl ⟨m1 (Nat.le_refl _), F5, ac, L5, (sm2.trans sm3).trans (sm4.trans sm5), o5, jend ac L5 q5⟩
  · have e : i = ds.length := by omega
    subst e
    exact .inl ⟨k1 (Nat.le_refl _), F2, _, _, sm1.trans sm2, o2, .sc _, hend acc L2 q Dl⟩
theorem wLc2_mono {wi wi1 : TI} {g g1 : TG} {tt tt1 : TT} {te : TE} {vs vs1 : List Nat} {σ : St} {H : Hp} {Q Q' : VK} (h : tLc2 wi g tt wi1 g1 tt1 te vs vs1 σ H Q) (q : ∀ v H', Q v H' → Q' v H') (hw : ∀ σ H R R', (∀ J H', R J H' → R' J H') → wi σ H R → wi σ H R') : tLc2 wi g tt wi1 g1 tt1 te vs vs1 σ H Q' := by
  refine hw _ _ _ _ (fun J H1 hJ D hD => ?_) h
  obtain ⟨W, h0, hs⟩ := hJ D hD
  refine ⟨W, h0, fun i m H w => ?_⟩
  rcases hs i m H w with ⟨a, b⟩ | b
  · exact .inl ⟨a, q _ _ b⟩
  · exact .inr b
theorem pd_lcD2 {g g1 : TG} {own : List (Str × Nat)} {vs1 : List Nat} (hc : X.calm = true) (hN : X.N.Nodup) (ok : BlkOk X.N X.env.scope scope own) (hv : ∀ i ∈ vs1, i ∈ own.map (·.2))
    (hg : ∀ (s : Shared) (H : Hp) (C : Addr) (cl : List (Str × Addr)) (fp : List Addr), PG (X.blk s H scope (compEnvC scope cl C X.env) fp) tg g) (hg1 : ∀ (s : Shared) (H : Hp) (C : Addr) (cl : List (Str × Addr)) (fp : List Addr), PG (X.blk s H scope (compEnvC scope cl C X.env) fp) tg1 g1)
    (h : PDI X tg iter ρ L (fun ds G L1 => LcD2 X g g1 elt tg1 iter1 ifs1 scope (own.map (·.2)) vs1 ρ ds G L1 P) R) (hs : ∀ x, foldedSetIterable iter X.env x = pure x := by intro _; rfl) (hs1 : ∀ env x, foldedSetIterable iter1 env x = pure x := by intro _ _; rfl) :
    PD X (.ListComp elt [⟨tg, iter, [], 0⟩, ⟨tg1, iter1, ifs1, 0⟩] scope pos) ρ L P R :=
  pd_of (pe_lc2 hc hN pi_w ok hv hg (fun _ _ _ _ _ => pts_nil) (fun s0 H0 C cl fp => pi_wB s0 H0 C cl fp) hg1 (fun s0 H0 C cl fp => pts_wB s0 H0 C cl fp) (fun s0 H0 C cl fp => pe_wB s0 H0 C cl fp) hs hs1) fun σ H F W A => lc2_read h A
theorem pds_setLcD2 {i : Nat} {y : Str} {py spos : Pos} {g g1 : TG} {own : List (Str × Nat)} {vs1 : List Nat} (hc : X.calm = true) (hN : X.N.Nodup) (hy : X.N[i]? = some y) (hyl : X.env.scope.names.lookup y = some .local)
    (hsw : swapsWith (.ListComp elt [⟨tg, iter, [], 0⟩, ⟨tg1, iter1, ifs1, 0⟩] scope pos) (some (.Name y py)) spos.line X.env = pure true) (ok : BlkOk X.N X.env.scope scope own) (hv : ∀ i ∈ vs1, i ∈ own.map (·.2))
    (hg : ∀ (s : Shared) (H : Hp) (C : Addr) (cl : List (Str × Addr)) (fp : List Addr), PG (X.blk s H scope (compEnvC scope cl C X.env) fp) tg g) (hg1 : ∀ (s : Shared) (H : Hp) (C : Addr) (cl : List (Str × Addr)) (fp : List Addr), PG (X.blk s H scope (compEnvC scope cl C X.env) fp) tg1 g1)
    (h : PDI X tg iter ρ L (fun ds G L1 => LcD2 X g g1 elt tg1 iter1 ifs1 scope (own.map (·.2)) vs1 ρ ds G L1 (fun d L2 => E.nx (ρ.set i (some d)) L2)) (E.ex ρ)) (hs : ∀ x, foldedSetIterable iter X.env x = pure x := by intro _; rfl) (hs1 : ∀ env x, foldedSetIterable iter1 env x = pure x := by intro _ _; rfl) :
    PDS X (.Assign [.Name y py] (.ListComp elt [⟨tg, iter, [], 0⟩, ⟨tg1, iter1, ifs1, 0⟩] scope pos) spos) E ρ L :=
  pds_of (ps_setLc2 hc hN hy hyl hsw pi_w ok hv hg (fun _ _ _ _ _ => pts_nil) (fun s0 H0 C cl fp => pi_wB s0 H0 C cl fp) hg1 (fun s0 H0 C cl fp => pts_wB s0 H0 C cl fp) (fun s0 H0 C cl fp => pe_wB s0 H0 C cl fp) hs hs1) fun σ H F W A => by
    exact wLc2_mono (lc2_read h A.at) (fun v H1 ⟨F1, d, L1, s1, o1, i1, q⟩ => ⟨F1, _, L1, s1, o1, (A.env.mono s1).set i1 i, q⟩) fun σ H R R' q => wI_mono q
/-- two fors, typed: what x and z give is g' x z -/
def LcT2 (X : Cx) (elt tg1 iter1 : Expr) (ifs1 : List Expr) (scope : Scope) (vs vs1 : List Nat) (us us1 : D → List (Nat × D)) (ρ : Rho) (ds : List D) (G L : Led) (P : PK1) : Prop :=
  ∃ (α β : Type) (xs : List α) (f : α → D) (ys : α → List β) (f1 : α → β → D) (t : α → β → Bool) (g' : α → β → D), ds = xs.map f ∧ SubL G L ∧ (xs.map fun x => (ys x).length).sum ≤ sizeLine ∧
    (∀ x ∈ xs, ∀ Y p acc, Blk X scope Y → PDI Y tg1 iter1 (setsD (wipeD ρ vs) (us (f x))) ((p, .lst acc) :: L) (fun es G1 L3 => es = (ys x).map (f1 x) ∧ SubL G1 L ∧ L3 = (p, .lst acc) :: L) noR) ∧
    (∀ x ∈ xs, ∀ z ∈ ys x, ∀ Y p acc, Blk X scope Y → PDTs Y ifs1 (setsD (wipeD (setsD (wipeD ρ vs) (us (f x))) vs1) (us1 (f1 x z))) ((p, .lst acc) :: L) (fun b L4 => b = t x z ∧ L4 = (p, .lst acc) :: L)) ∧
    (∀ x ∈ xs, ∀ z ∈ ys x, t x z = true → ∀ Y p acc, Blk X scope Y → PD Y elt (setsD (wipeD (setsD (wipeD ρ vs) (us (f x))) vs1) (us1 (f1 x z))) ((p, .lst acc) :: L) (fun y L6 => y = g' x z ∧ Lw L6 ((p, .lst acc) :: L)) noR) ∧
    P (.lst (xs.flatMap fun x => ((ys x).filter (t x)).map (g' x))) L
theorem sum_take_le {α : Type} (n : α → Nat) : ∀ {xs : List α} {i : Nat} {x : α}, xs[i]? = some x → ((xs.take i).map n).sum + n x ≤ (xs.map n).sum
  | [], i, x, h => by simp at h
  | a :: l, 0, x, h => by
    simp only [List.getElem?_cons_zero, Option.some.injEq] at h
    subst h
    rw [List.take_zero, List.map_nil, List.sum_nil, List.map_cons, List.sum_cons]
    omega
  | a :: l, i + 1, x, h => by
    have := sum_take_le n (xs := l) (i := i) (x := x) (by simpa using h)
    rw [List.take_succ_cons, List.map_cons, List.sum_cons, List.map_cons, List.sum_cons]
    omega
theorem flat_le {α β γ : Type} (ys : α → List β) (t : α → β → Bool) (g' : α → β → γ) : ∀ xs : List α, (xs.flatMap fun x => ((ys x).filter (t x)).map (g' x)).length ≤ (xs.map fun x => (ys x).length).sum
  | [] => Nat.le_refl _
  | a :: l => by
    rw [List.flatMap_cons, List.length_append, List.map_cons, List.sum_cons, List.length_map]
    have := flat_le ys t g' l
    have := List.length_filter_le (t a) (ys a)
    omega
theorem lcT2 {g g1 : TG} {vs vs1 : List Nat} {ds : List D} {G : Led} {us us1 : D → List (Nat × D)} (hgd : ∀ d ∈ ds, GD X.K g d (us d)) (hv : ∀ d, ∀ u ∈ us d, u.1 ∈ vs) (hgd1 : ∀ d, GD X.K g1 d (us1 d)) (hv1 : ∀ d, ∀ u ∈ us1 d, u.1 ∈ vs1)
    (h : LcT2 X elt tg1 iter1 ifs1 scope vs vs1 us us1 ρ ds G L P) : LcD2 X g g1 elt tg1 iter1 ifs1 scope vs vs1 ρ ds G L (frzK P) := by
  obtain ⟨α, β, xs, f, ys, f1, t, g', hd, hG, hl, hit, ht, hb, q⟩ := h
  subst hd
  refine ⟨fun i acc L2 => L2 = L ∧ acc = (xs.take i).flatMap fun x => ((ys x).filter (t x)).map (g' x), ⟨rfl, rfl⟩, fun i acc L2 ⟨e, _⟩ => by rw [e]; exact hG, fun i d acc L2 hd ⟨e1, e2⟩ => ?_, fun acc L2 ⟨e1, e2⟩ p => ?_⟩
  · subst e1
    have hm := List.mem_of_getElem? hd
    rw [List.getElem?_map] at hd
    cases e : xs[i]? with
    | none => rw [e] at hd; cases hd
    | some x =>
      rw [e] at hd
      cases hd
      have hx := List.mem_of_getElem? e
      have hst := sum_take_le (fun x => (ys x).length) e
      refine ⟨us (f x), hgd _ hm, hv _, fun Y p b => (hit x hx Y p acc b).mono fun es G1 L3 ⟨ee, eG, eL⟩ => ?_⟩
      subst ee eL
      refine ⟨L2, rfl, fun j ac L5 => L5 = L2 ∧ ac = acc ++ (((ys x).take j).filter (t x)).map (g' x), ⟨rfl, by simp⟩, fun j ac L5 ⟨e, _⟩ => by rw [e]; exact eG, fun j d ac L5 hd ⟨e3, e4⟩ => ?_, fun ac L5 ⟨e3, e4⟩ => ⟨e3, ?_⟩⟩
      · subst e3
        rw [List.getElem?_map] at hd
        cases ez : (ys x)[j]? with
        | none => rw [ez] at hd; cases hd
        | some z =>
          rw [ez] at hd
          cases hd
          have hz := List.mem_of_getElem? ez
          have hjl := (List.getElem?_eq_some_iff.mp ez).1
          refine ⟨us1 (f1 x z), t x z, hgd1 _, hv1 _, fun Y p b => ht x hx z hz Y p ac b, ?_⟩
          have hlen : ac.length < sizeLine := by
            have h1 := flat_le ys t g' (xs.take i)
            have h2 := List.length_filter_le (t x) ((ys x).take j)
            rw [List.length_take] at h2
            rw [e4, e2, List.length_append, List.length_map]
            omega
          cases et : t x z with
          | true =>
            show ∀ Y p, Blk X scope Y → _
            intro Y p b
            refine (hb x hx z hz et Y p ac b).mono fun y L6 ⟨ey, lw⟩ => ⟨L5, lw, hlen, rfl, ?_⟩
            rw [e4, ey, (take_ext ez).2, List.filter_append, List.map_append, List.append_assoc]
            simp [et]
          | false =>
            show L5 = L5 ∧ ac = _
            refine ⟨rfl, ?_⟩
            rw [e4, (take_ext ez).2, List.filter_append]
            simp [et]
      · rw [e4, List.length_map, List.take_length, e2, (take_ext e).2, List.flatMap_append]
        simp
  · subst e1 e2
    rw [List.length_map, List.take_length]
    exact ⟨p, _, L2, rfl, .here, q⟩
/-- [elt for y in iter for z in iter1 ..] -/
theorem pd_lcTT {i j : Nat} {y z : Str} {py pz : Pos} (hc : X.calm = true) (hN : X.N.Nodup) (ok : BlkOk X.N X.env.scope scope [(y, i), (z, j)])
    (hg : ∀ (s : Shared) (H : Hp) (C : Addr) (cl : List (Str × Addr)) (fp : List Addr), PG (X.blk s H scope (compEnvC scope cl C X.env) fp) (.Name y py) (gName i)) (hg1 : ∀ (s : Shared) (H : Hp) (C : Addr) (cl : List (Str × Addr)) (fp : List Addr), PG (X.blk s H scope (compEnvC scope cl C X.env) fp) (.Name z pz) (gName j))
    (h : PDI X (.Name y py) iter ρ L (LcT2 X elt (.Name z pz) iter1 ifs1 scope [i, j] [j] (fun d => [(i, d)]) (fun d => [(j, d)]) ρ · · · P) R)
    (hs : ∀ x, foldedSetIterable iter X.env x = pure x := by intro _; rfl) (hs1 : ∀ env x, foldedSetIterable iter1 env x = pure x := by intro _ _; rfl) : PD X (.ListComp elt [⟨.Name y py, iter, [], 0⟩, ⟨.Name z pz, iter1, ifs1, 0⟩] scope pos) ρ L P R :=
  pd_frz (pd_lcD2 (own := [(y, i), (z, j)]) (vs1 := [j]) (g := gName i) (g1 := gName j) hc hN ok (fun k hk => by rw [List.mem_singleton.mp hk]; exact List.mem_cons_of_mem _ List.mem_cons_self) hg hg1 (h.mono fun ds G L1 q => lcT2 (fun d _ => gd_name) (fun d u hu => by rw [List.mem_singleton.mp hu]; exact List.mem_cons_self) (fun d => gd_name) (fun d u hu => by rw [List.mem_singleton.mp hu]; exact List.mem_cons_self) q) hs hs1)
theorem pds_lcTT {i j l : Nat} {y z v : Str} {py pz pv spos : Pos} (hc : X.calm = true) (hN : X.N.Nodup) (hy : X.N[l]? = some v) (hyl : X.env.scope.names.lookup v = some .local)
    (hsw : swapsWith (.ListComp elt [⟨.Name y py, iter, [], 0⟩, ⟨.Name z pz, iter1, ifs1, 0⟩] scope pos) (some (.Name v pv)) spos.line X.env = pure true) (ok : BlkOk X.N X.env.scope scope [(y, i), (z, j)])
    (hg : ∀ (s : Shared) (H : Hp) (C : Addr) (cl : List (Str × Addr)) (fp : List Addr), PG (X.blk s H scope (compEnvC scope cl C X.env) fp) (.Name y py) (gName i)) (hg1 : ∀ (s : Shared) (H : Hp) (C : Addr) (cl : List (Str × Addr)) (fp : List Addr), PG (X.blk s H scope (compEnvC scope cl C X.env) fp) (.Name z pz) (gName j))
    (h : PDI X (.Name y py) iter ρ L (LcT2 X elt (.Name z pz) iter1 ifs1 scope [i, j] [j] (fun d => [(i, d)]) (fun d => [(j, d)]) ρ · · · fun d L2 => E.nx (ρ.set l (some d)) L2) (E.ex ρ))
    (hs : ∀ x, foldedSetIterable iter X.env x = pure x := by intro _; rfl) (hs1 : ∀ env x, foldedSetIterable iter1 env x = pure x := by intro _ _; rfl) : PDS X (.Assign [.Name v pv] (.ListComp elt [⟨.Name y py, iter, [], 0⟩, ⟨.Name z pz, iter1, ifs1, 0⟩] scope pos) spos) E ρ L :=
  pds_of (ps_setLc2 (own := [(y, i), (z, j)]) (vs1 := [j]) (g := gName i) (g1 := gName j) hc hN hy hyl hsw pi_w ok (fun k hk => by rw [List.mem_singleton.mp hk]; exact List.mem_cons_of_mem _ List.mem_cons_self) hg (fun _ _ _ _ _ => pts_nil) (fun s0 H0 C cl fp => pi_wB s0 H0 C cl fp) hg1 (fun s0 H0 C cl fp => pts_wB s0 H0 C cl fp) (fun s0 H0 C cl fp => pe_wB s0 H0 C cl fp) hs hs1) fun σ H F W A => by
    refine wLc2_mono (lc2_read (h.mono fun ds G L1 q => lcT2 (fun d _ => gd_name) (fun d u hu => by rw [List.mem_singleton.mp hu]; exact List.mem_cons_self) (fun d => gd_name) (fun d u hu => by rw [List.mem_singleton.mp hu]; exact List.mem_cons_self) q) A.at) (fun v H1 ⟨F1, d, L1, s1, o1, i1, p, ds, L2, e1, t, q⟩ => ?_) fun σ H R R' q => wI_mono q
    subst e1
    cases i1
    obtain ⟨F2, s2, o2, i2⟩ := o1.freeze t
    exact ⟨F2, _, L2, s1.trans s2, o2, (A.env.mono (s1.trans s2)).set i2 l, q⟩
end
end D2
end
section
set_option Elab.async false
set_option linter.all false
set_option maxRecDepth 100000
set_option maxHeartbeats 4000000
namespace D2
open PySem PySem.Spec PyProof.Rows L2
/-! ### tuple * int -/
theorem tup_one (l : Addr) (its : Array Value) (n : Nat) (dd : Option Addr) (sl : Array (Option Value)) (u : Tok) :
    Meets (Builtin.«tuple.__mul__» ⟨[.ref l, .int 1 u], []⟩) (fun _ R s => s.heap.get? l = some { cls := .type "tuple", dict := dd, data := .seq its n, slots := sl } ∧ R (.ok (.ret (Value.ref l))) s) :=
  .of_wp fun prog w A R s h => by
    obtain ⟨hp, g, d, tk, os⟩ := s
    obtain ⟨hl, h⟩ := h
    have f1 := AutoSeq1.idx_int
    have c0 : (decide ((1 : Int) < -(2 ^ 63)) || decide ((1 : Int) ≥ 2 ^ 63)) = false := by decide
    have c1 : (its.isEmpty || (1 : Int) == 1) = true := by rw [Bool.or_eq_true]; exact .inr rfl
    wp_walk using wpAny_loadPart' hl
    repeat (first
      | (refine wpAny_ite_false (decide_eq_false (by rw [c0]; exact Bool.false_ne_true)) ?_; wp_walk using wpAny_loadPart' hl)
      | (refine wpAny_ite_true (decide_eq_true c1) ?_; wp_walk using wpAny_loadPart' hl))
    exact ⟨_, rfl, h⟩
section
variable {X : Cx}
theorem op_oneT : OpR X (binaryOp .Mult) (fun x y H Q => ∃ l xs, x = .ref l ∧ y = .int 1 ∧ SqT X.K H l xs ∧ Q (.ref l) H) := by
  intro pins s σ H x y v u Q I rx ry h
  obtain ⟨l, xs, rfl, rfl, hT, q⟩ := h
  cases rx
  obtain ⟨t, rfl⟩ := ry
  obtain ⟨its, r, ⟨⟨cls, dd, data, sl⟩, ho, hc, n, hd⟩, hs⟩ := I.tuple hT
  simp only at hc hd
  subst hc hd
  exact wpAny_binaryOp_repeat_ref (T := "tuple") (U := "int") (by decide) ⟨_, ho, rfl⟩ (fun s' => typeIs_int s' 1 t) noFill_tuple_mul F.fills_int_mul F.slot_int_rmul repeat_tuple F.slot_int_index.lookup
    (call_meets F.slot_int_rmul (typeIs_int s 1 t) F.entry_int_rmul (F.args_int_rmul_2 _ _) (int_rmul_tuple 1 t l its.toArray n dd sl)
      ⟨ho, rfl, ⟨_, ho, rfl⟩, call_meets F.slot_tuple_mul ⟨_, ho, rfl⟩ F.entry_tuple_mul (F.args_tuple_mul_2 _ _) (tup_one l its.toArray n dd sl t) ⟨ho, ⟨.ref l, H, I, rfl, q⟩⟩⟩)
end
section
variable {X : Cx} {e iter elt tg : Expr} {ρ : Rho} {L : Led} {P : PK1} {R : RK1} {E : DE} {pos : Pos} {scope : Scope}
theorem od_repT {ds : List D} {k : Int} (ne : ds ≠ []) (h1 : 1 ≤ k) (h2 : k ≤ 1000) (hl : ds.length ≤ 1000) (h : P (.tup (List.replicate k.toNat ds).flatten) L) : OpD X (binaryOp .Mult) (.tup ds) (.int k) L P := by
  by_cases e : k = 1
  · subst e
    refine opd_of op_oneT fun H F x y o ix iy => ?_
    cases iy
    cases ix with
    | tup hq hx =>
      refine ⟨_, _, rfl, rfl, same_t o.sub hq, F, _, L, Same.refl _, o, .tup hq hx, ?_⟩
      have : (List.replicate (1 : Int).toNat ds).flatten = ds := by
        show ([ds] : List (List D)).flatten = ds
        rw [List.flatten_cons, List.flatten_nil, List.append_nil]
      rw [this] at h
      exact h
  · refine opd_of op_repT fun H F x y o ix iy => ?_
    cases iy
    cases ix with
    | tup hq hx =>
      refine ⟨_, k, _, rfl, rfl, same_t o.sub hq, fun z => ne ?_, by omega, h2, by rw [hx.length]; exact hl, fun p hp => ?_⟩
      · have := hx.length
        rw [z] at this
        exact List.eq_nil_of_length_eq_zero this.symm
      · obtain ⟨s2, o2⟩ := o.froze (o := .tup _) hp
        exact ⟨_, _, L, s2, o2, .tup (SqT.of upd_same) ((is_rep hx _).mono s2), h⟩
/-- xs.count(k) of ints -/
theorem md_count {d : D} {ns : List Int} {k : Int} (hv : Vl L d (ns.map D.int)) (h : P (.int (ns.count k : Nat)) L) : MthD X "list.count" d [.int k] L P := md_of mt_lcount fun H F x xs o ix ixs => by
  obtain ⟨a, ys, rfl, h1, h2⟩ := hv.get o ix
  obtain ⟨v, rfl, iv⟩ := isl1 ixs
  cases iv
  cases h2.ints_inv
  exact ⟨a, ns, k, rfl, rfl, SqL.of h1, upV.here o (.sc _) h⟩
/-- y, z, .. = a list -/
theorem pgd_unl {ts : List Expr} {k : Nat} {ds : List D} {N : Rho → Led → Prop} (hc : X.calm = true) (h : PGDs X ts ds ρ L N) (hl : ds.length = (assignEach ts X.env).length := by rfl) (hst : (assignEach ts X.env).findIdx? (·.1) = none := by rfl) : PGD X (.Tuple ts k pos) (.lst ds) ρ L N := fun σ H F v ev ow iv pins s u I r => by
  cases iv with
  | lst hq hx => exact (pg_unl (n := (assignEach ts X.env).length) (k := k) (pos := pos) hc pgs_w rfl hst).run pins s σ H _ u _ I r ⟨_, _, rfl, SqL.of (ow.sub _ _ hq), by rw [hx.length]; exact hl, fun pins s us I r => h σ H F _ ev ow hx pins s us I r⟩
/-- the list stays owned -/
theorem lcSO {g : TG} {vs : List Nat} {ds : List D} {G : Led} {us : D → List (Nat × D)} (hgd : ∀ d ∈ ds, GD X.K g d (us d)) (hv : ∀ d, ∀ u ∈ us d, u.1 ∈ vs) {P' : PK1} (h : LcS X elt scope vs us ρ ds G L P') (hP : ∀ cs L2, P' (.lst cs) L2 → ∀ p, P (.ref p) ((p, .lst cs) :: L2)) : LcD X g elt [] scope vs ρ ds G L P := by
  obtain ⟨α, β, xs, f, g', Q, J, hd, h0, hG, hl, hb, q⟩ := h
  subst hd
  refine ⟨fun i acc L2 => J i L2 ∧ ∃ bs : List β, acc = bs.map g' ∧ Paired Q (xs.take i) bs, ⟨h0, [], rfl, .nil⟩, fun i acc L2 ⟨e, _⟩ => hG i L2 e, fun i d acc L2 hd ⟨j, bs, ea, pr⟩ => ?_, fun acc L2 ⟨j, bs, ea, pr⟩ p => ?_⟩
  · have hm := List.mem_of_getElem? hd
    rw [List.getElem?_map] at hd
    cases e : xs[i]? with
    | none => rw [e] at hd; cases hd
    | some x =>
      rw [e] at hd
      cases hd
      have hi := (List.getElem?_eq_some_iff.mp e).1
      refine ⟨us (f x), true, hgd _ hm, hv _, fun Y p b => ⟨rfl, rfl⟩, ?_⟩
      show ∀ Y p, Blk X scope Y → _
      intro Y p b
      refine (hb i x L2 e j Y p acc b).mono fun y L6 ⟨b, e1, e2, L7, lw, j2⟩ => ⟨L7, lw, ?_, j2, bs ++ [b], ?_, ?_⟩
      · have := paired_length pr
        rw [List.length_take] at this
        rw [ea, List.length_map]
        omega
      · rw [ea, e1, List.map_append]
        rfl
      · rw [(take_ext e).2]
        exact paired_snoc e2 pr
  · rw [List.length_map] at j pr
    rw [List.take_length] at pr
    exact hP _ _ (by rw [ea]; exact q bs L2 pr j) p
/-- y = [elt for z in iter], owned -/
theorem pds_lcSO1 {i j : Nat} {y z : Str} {py pz spos : Pos} (hc : X.calm = true) (hN : X.N.Nodup) (hy : X.N[j]? = some z) (hyl : X.env.scope.names.lookup z = some .local)
    (hsw : swapsWith (.ListComp elt [⟨.Name y py, iter, [], 0⟩] scope pos) (some (.Name z pz)) spos.line X.env = pure true) (ok : BlkOk X.N X.env.scope scope [(y, i)])
    (hg : ∀ (s : Shared) (H : Hp) (C : Addr) (cl : List (Str × Addr)) (fp : List Addr), PG (X.blk s H scope (compEnvC scope cl C X.env) fp) (.Name y py) (gName i))
    (h : PDI X (.Name y py) iter ρ L (LcS X elt scope [i] (fun d => [(i, d)]) ρ · · · fun d L2 => ∃ cs, d = .lst cs ∧ ∀ p, E.nx (ρ.set j (some (.ref p))) ((p, .lst cs) :: L2)) (E.ex ρ))
    (hs : ∀ x, foldedSetIterable iter X.env x = pure x := by intro _; rfl) : PDS X (.Assign [.Name z pz] (.ListComp elt [⟨.Name y py, iter, [], 0⟩] scope pos) spos) E ρ L :=
  pds_setLc (own := [(y, i)]) (g := gName i) hc hN hy hyl hsw ok hg (h.mono fun ds G L1 q => lcSO (fun d _ => gd_name) (fun d u hu => by rw [List.mem_singleton.mp hu]; exact List.mem_singleton.mpr rfl) q fun cs L2 ⟨cs', e, z⟩ p => by cases e; exact z p) hs
end
/-- a comprehension within another one -/
theorem blk_in {X : Cx} {s : Shared} {H : Hp} {C : Addr} {cl : List (Str × Addr)} {fp : List Addr} {N : List Str} {sc sf scope : Scope} {own : List (Str × Nat)} (e : X.env.scope = sf) (h : blkC N (relS sc sf) scope own = true) : BlkOk N (X.blk s H sc (compEnvC sc cl C X.env) fp).env.scope scope own := by
  have z : (X.blk s H sc (compEnvC sc cl C X.env) fp).env.scope = relS sc X.env.scope := rfl
  rw [z, e]
  exact blkOk_by h
end D2
end
section
set_option Elab.async false
set_option linter.all false
set_option maxRecDepth 100000
set_option maxHeartbeats 4000000
namespace D2
open PySem PySem.Spec L2
section
variable {X : Cx} {e iter elt tg : Expr} {ifs : List Expr} {ρ : Rho} {L : Led} {P : PK1} {R : RK1} {E : DE} {pos : Pos} {scope : Scope}
/-- [elt for y in iter if ..], typed -/
def LcTW (X : Cx) (elt : Expr) (ifs : List Expr) (scope : Scope) (vs : List Nat) (us : D → List (Nat × D)) (ρ : Rho) (ds : List D) (G L : Led) (P : PK1) : Prop :=
  ∃ (α : Type) (xs : List α) (f : α → D) (t : α → Bool) (g' : α → D), ds = xs.map f ∧ SubL G L ∧ xs.length ≤ sizeLine ∧
    (∀ x ∈ xs, ∀ Y p acc, Blk X scope Y → PDTs Y ifs (setsD (wipeD ρ vs) (us (f x))) ((p, .lst acc) :: L) (fun b L4 => b = t x ∧ L4 = (p, .lst acc) :: L)) ∧
    (∀ x ∈ xs, t x = true → ∀ Y p acc, Blk X scope Y → PD Y elt (setsD (wipeD ρ vs) (us (f x))) ((p, .lst acc) :: L) (fun y L6 => y = g' x ∧ Lw L6 ((p, .lst acc) :: L)) noR) ∧ P (.lst ((xs.filter t).map g')) L
theorem lcTW {g : TG} {vs : List Nat} {ds : List D} {G : Led} {us : D → List (Nat × D)} (hgd : ∀ d ∈ ds, GD X.K g d (us d)) (hv : ∀ d, ∀ u ∈ us d, u.1 ∈ vs) (h : LcTW X elt ifs scope vs us ρ ds G L P) : LcD X g elt ifs scope vs ρ ds G L (frzK P) := by
  obtain ⟨α, xs, f, t, g', hd, hG, hl, ht, hb, q⟩ := h
  subst hd
  refine ⟨fun i acc L2 => L2 = L ∧ acc = ((xs.take i).filter t).map g', ⟨rfl, rfl⟩, fun i acc L2 ⟨e, _⟩ => by rw [e]; exact hG, fun i d acc L2 hd ⟨e1, e2⟩ => ?_, fun acc L2 ⟨e1, e2⟩ p => ?_⟩
  · subst e1
    have hm := List.mem_of_getElem? hd
    rw [List.getElem?_map] at hd
    cases e : xs[i]? with
    | none => rw [e] at hd; cases hd
    | some x =>
      rw [e] at hd
      cases hd
      have hi := (List.getElem?_eq_some_iff.mp e).1
      have hx := List.mem_of_getElem? e
      have hlen : acc.length < sizeLine := by
        have := List.length_filter_le t (xs.take i)
        rw [List.length_take] at this
        rw [e2, List.length_map]
        omega
      refine ⟨us (f x), t x, hgd _ hm, hv _, fun Y p b => ht x hx Y p acc b, ?_⟩
      cases et : t x with
      | true =>
        show ∀ Y p, Blk X scope Y → _
        intro Y p b
        refine (hb x hx et Y p acc b).mono fun y L6 ⟨ey, lw⟩ => ⟨L2, lw, hlen, rfl, ?_⟩
        rw [e2, ey, (take_ext e).2, List.filter_append, List.map_append]
        simp [et]
      | false =>
        show L2 = L2 ∧ acc = _
        refine ⟨rfl, ?_⟩
        rw [e2, (take_ext e).2, List.filter_append]
        simp [et]
  · subst e1 e2
    rw [List.length_map, List.take_length]
    exact ⟨p, _, L2, rfl, .here, q⟩
theorem pd_lcW1 {i : Nat} {y : Str} {py : Pos} (hc : X.calm = true) (hN : X.N.Nodup) (ok : BlkOk X.N X.env.scope scope [(y, i)])
    (hg : ∀ (s : Shared) (H : Hp) (C : Addr) (cl : List (Str × Addr)) (fp : List Addr), PG (X.blk s H scope (compEnvC scope cl C X.env) fp) (.Name y py) (gName i))
    (h : PDI X (.Name y py) iter ρ L (LcTW X elt ifs scope [i] (fun d => [(i, d)]) ρ · · · P) R)
    (hs : ∀ x, foldedSetIterable iter X.env x = pure x := by intro _; rfl) : PD X (.ListComp elt [⟨.Name y py, iter, ifs, 0⟩] scope pos) ρ L P R :=
  pd_lcF (own := [(y, i)]) (g := gName i) hc hN ok hg (h.mono fun ds G L1 q => lcTW (fun d _ => gd_name) (fun d u hu => by rw [List.mem_singleton.mp hu]; exact List.mem_singleton.mpr rfl) q) hs
end
end D2
end
section
set_option Elab.async false
set_option linter.all false
set_option maxRecDepth 100000
set_option maxHeartbeats 4000000
namespace D2
open PySem PySem.Spec L2
section
variable {K : PySem.W.Frag} {H F : Hp} {L : Led}
/-- the receiver of a method: an instance that does not change, or an owned one -/
inductive Rc (K : PySem.W.Frag) (C : Addr) (m : Str) (L : Led) : D → Prop
  | ins (fs : List (Str × D)) (h : fs.lookup m = none) : Rc K C m L (.ins C fs)
  | own {x dx : Addr} {fs : List (Str × D)} (hm : (x, insOD K C dx fs) ∈ L) (h : fs.lookup m = none) : Rc K C m L (.ref x)
theorem isF_none {f : Str} : ∀ {gs : List (Str × V)} {fs : List (Str × D)}, IsF K F gs fs → fs.lookup f = none → gs.lookup f = none
  | _, _, .nil, _ => rfl
  | _, _, .cons (f := g) (v := v) (d := e) a b, h => by
    rw [List.lookup_cons] at h ⊢
    cases q : f == g with
    | true => rw [q] at h; cases h
    | false => rw [q] at h; exact isF_none b h
theorem Rc.get {C : Addr} {m : Str} {v : V} {d : D} (g : Rc K C m L d) (o : Own K H F L) (i : Is K F v d) : ∃ a dx fs, v = .ref a ∧ H a = some (.ins C dx fs) ∧ fs.lookup m = none := by
  cases g with
  | ins fs h =>
    cases i with
    | ins h1 h2 => exact ⟨_, _, _, rfl, o.sub _ _ h1, isF_none h2 h⟩
  | own hm h =>
    cases i
    obtain ⟨_, u, h1, gs, e2, h2⟩ := o.cell _ hm
    subst e2
    exact ⟨_, _, gs, rfl, h1, isF_none h2 h⟩
end
section
variable {X : Cx} {e o : Expr} {es : List Expr} {ρ : Rho} {L : Led} {P : PK1} {R : RK1} {pos apos : Pos}
/-- o.m(e, ..) of an own class -/
theorem pd_meth {m : Str} {k : Nat} {C f : Addr} {fd : FuncData} {ps : List Str} {T : Ct} {pl : Sem Bool} (c : Cls X.K C) (hm : Meth X.K C m f) (G : FnOk X.prog X.w X.K X.mg X.base (L2.CX X.prog X.w) k f fd ps (spD X.K T)) (hr : Room k X.A) (hb : Binds X.K fd ps [])
    (h : PD X o ρ L (fun d L1 => Rc X.K C m L1 d ∧ PDA X (e :: es) ρ L1 (fun ds L2 => T (d :: ds) L2 P R) R) R)
    (hst : starEach (e :: es) X.env = (false, eval e X.env) :: starEach es X.env := by rfl) (hpl : (backTo pos (starEach es X.env)).any (·.1) = false := by rfl)
    (ht : eval (.Call (.Attribute o m apos) (e :: es) [] pos) X.env = (do
      let ov ← eval o X.env
      standAt apos.atName
      let (f, first) ← holding [ov] (getMethod ov m pl)
      callWith pos f first (backTo pos (starEach (e :: es) X.env)) (backToKw pos (keywordEach [] X.env))) := by rfl) :
    PD X (.Call (.Attribute o m apos) (e :: es) [] pos) ρ L P R := .mk fun σ H F W A pins s I => by
  refine PySem.W.methodCall_KW (pl := pl) (thn (h.go σ H F W A pins s I) fun u s1 ⟨x, H1, I1, rx, F1, d, L1, sm1, o1, i1, rc, q⟩ => ?_) ht
  obtain ⟨a, dx, fs, rfl, ea, l⟩ := rc.get o1 i1
  obtain rfl : u = Value.ref a := rx
  refine getmeth_ok I1 ea c hm l ?_
  have A1 := A.go sm1 o1
  refine PySem.W.callWith_K (first := [.ref a]) (h₀ := X.base) I.ok.mod.kin hm.kp (thn (q.step A1 (Q := fun vs H2 => ∃ F2 ds L2, Same F1 F2 ∧ At X ρ L2 R σ H2 F2 W ∧ IsL X.K F2 vs ds ∧ T (d :: ds) L2 P R) (fun vs H2 F2 ds L2 s2 A2 i2 q2 => ⟨F2, ds, L2, s2, A2, i2, q2⟩) pos pins s1 I1) fun us s2 ⟨vs, H2, I2, r, F2, ds, L2, sm2, A2, i2, q2⟩ => ⟨I2.kIn, ?_⟩) hst hpl
  exact run_fnS (us := .ref a :: us) (vs := .ref a :: vs) G hr hb (passAt A2.tk σ) I2 (.cons rfl r) ⟨F2, L2, d :: ds, P, R, .cons (i1.mono sm2) i2, A2.own, q2, fun v H' p => p.mono (sm1.trans sm2) fun _ _ p => p, fun c d H' p => A2.ex c d H' p⟩
/-- o.m() of an own class -/
theorem pd_meth0 {m : Str} {k : Nat} {C f : Addr} {fd : FuncData} {ps : List Str} {T : Ct} {pl : Sem Bool} (c : Cls X.K C) (hm : Meth X.K C m f) (G : FnOk X.prog X.w X.K X.mg X.base (L2.CX X.prog X.w) k f fd ps (spD X.K T)) (hr : Room k X.A) (hb : Binds X.K fd ps [])
    (h : PD X o ρ L (fun d L1 => Rc X.K C m L1 d ∧ T [d] L1 P R) R)
    (ht : eval (.Call (.Attribute o m apos) [] [] pos) X.env = (do
      let ov ← eval o X.env
      standAt apos.atName
      let (f, first) ← holding [ov] (getMethod ov m pl)
      callWith pos f first (backTo pos (starEach [] X.env)) (backToKw pos (keywordEach [] X.env))) := by rfl) :
    PD X (.Call (.Attribute o m apos) [] [] pos) ρ L P R := .mk fun σ H F W A pins s I => by
  refine PySem.W.methodCall_KW (pl := pl) (thn (h.go σ H F W A pins s I) fun u s1 ⟨x, H1, I1, rx, F1, d, L1, sm1, o1, i1, rc, q⟩ => ?_) ht
  obtain ⟨a, dx, fs, rfl, ea, l⟩ := rc.get o1 i1
  obtain rfl : u = Value.ref a := rx
  refine getmeth_ok I1 ea c hm l ?_
  have A1 := A.go sm1 o1
  exact PySem.W.callWith_K0 (first := [.ref a]) I1.kIn hm.kp (run_fnS (us := [.ref a]) (vs := [.ref a]) G hr hb (passAt A1.tk σ) I1 (.cons rfl .nil) ⟨F1, L1, [d], P, R, .cons i1 .nil, o1, q, fun v H' p => p.mono sm1 fun _ _ p => p, fun c d H' p => A1.ex c d H' p⟩)
/-- f(e, ..), the last parameters by their defaults -/
theorem pd_callD {x : Str} {k : Nat} {f : Addr} {fd : FuncData} {ps : List Str} {T : Ct} {p : Pos} {dvs : List V} {ds : List Value} {dds : List D} (G : FnOk X.prog X.w X.K X.mg X.base (L2.CX X.prog X.w) k f fd ps (spD X.K T)) (hr : Room k X.A) (hm : X.mg x = some (.ref f)) (hk : PySem.W.keepIn X.K (.ref f) = true) (hb : Binds X.K fd ps ds) (hd : Vals dvs ds) (hdd : ∀ F, IsL X.K F dvs dds)
    (h : PDA X (e :: es) ρ L (fun es L1 => T (es ++ dds) L1 P R) R) (hg : Gl X x := by rfl) (hdb : (x == ("__debug__" : Str)) = false := by decide) (he : starEach (e :: es) X.env = (false, eval e X.env) :: starEach es X.env := by rfl) (hpl : (backTo pos (starEach es X.env)).any (·.1) = false := by rfl) :
    PD X (.Call (.Name x p) (e :: es) [] pos) ρ L P R := .mk fun σ H F W A pins s I => by
  refine (pe_callSD G hr hg hm hk hb hd (fun σ => passAt A.tk σ) pa_w hdb he hpl).run pins s σ H _ I ?_
  exact h.step A fun vs H1 F1 es L1 s1 A1 i1 q => ⟨F1, L1, es ++ dds, P, R, i1.append (hdd F1), A1.own, q, fun v H' p => p.mono s1 fun _ _ p => p, fun c d H' p => A1.ex c d H' p⟩
end
end D2
end
section
set_option Elab.async false
set_option linter.all false
set_option maxRecDepth 100000
set_option maxHeartbeats 4000000
/-! sets of ints at data -/
namespace D2
open PySem PySem.Spec PyProof.Rows L2
def putI (k : Int) : List Int → List Int
  | [] => [k]
  | m :: r => if m < k then m :: putI k r else if m = k then m :: r else k :: m :: r
def ascI : List Int → List Int
  | [] => []
  | k :: r => putI k (ascI r)
theorem putI_mem (k : Int) : ∀ l x, x ∈ putI k l ↔ x = k ∨ x ∈ l
  | [], x => by simp [putI]
  | m :: r, x => by
    unfold putI
    split
    · rw [List.mem_cons, putI_mem k r x, List.mem_cons]
      exact ⟨fun z => z.elim (fun z => .inr (.inl z)) fun z => z.elim .inl fun z => .inr (.inr z), fun z => z.elim (fun z => .inr (.inl z)) fun z => z.elim .inl fun z => .inr (.inr z)⟩
    · split
      · rename_i _ e
        rw [← e, List.mem_cons]
        exact ⟨.inr, fun z => z.elim .inl id⟩
      · rw [List.mem_cons]
theorem ascI_mem : ∀ l x, x ∈ ascI l ↔ x ∈ l
  | [], x => Iff.rfl
  | k :: r, x => by
    show x ∈ putI k (ascI r) ↔ _
    rw [putI_mem, ascI_mem r x, List.mem_cons]
theorem putI_asc (k : Int) : ∀ {l : List Int}, l.Pairwise (· < ·) → (putI k l).Pairwise (· < ·)
  | [], _ => List.pairwise_singleton _ _
  | m :: r, h => by
    obtain ⟨h1, h2⟩ := List.pairwise_cons.mp h
    unfold putI
    split
    · rename_i c
      refine List.pairwise_cons.mpr ⟨fun x hx => ?_, putI_asc k h2⟩
      rcases (putI_mem k r x).mp hx with z | z
      · rw [z]; exact c
      · exact h1 x z
    · split
      · exact h
      · refine List.pairwise_cons.mpr ⟨fun x hx => ?_, h⟩
        rcases List.mem_cons.mp hx with z | z
        · rw [z]; omega
        · have := h1 x z; omega
theorem ascI_asc : ∀ l, (ascI l).Pairwise (· < ·)
  | [] => .nil
  | k :: r => putI_asc k (ascI_asc r)
theorem ascI_one : ∀ {l m : List Int}, l.Pairwise (· < ·) → m.Pairwise (· < ·) → (∀ x, x ∈ l ↔ x ∈ m) → l = m
  | [], [], _, _, _ => rfl
  | [], b :: m, _, _, h => absurd ((h b).mpr List.mem_cons_self) (by simp)
  | a :: l, [], _, _, h => absurd ((h a).mp List.mem_cons_self) (by simp)
  | a :: l, b :: m, h1, h2, h => by
    obtain ⟨x1, x2⟩ := List.pairwise_cons.mp h1
    obtain ⟨y1, y2⟩ := List.pairwise_cons.mp h2
    have e : a = b := by
      rcases List.mem_cons.mp ((h a).mp List.mem_cons_self) with z | z
      · exact z
      · rcases List.mem_cons.mp ((h b).mpr List.mem_cons_self) with y | y
        · exact y.symm
        · have c1 := y1 a z
          have c2 := x1 b y
          omega
    subst e
    refine congrArg (a :: ·) (ascI_one x2 y2 fun x => ⟨fun z => ?_, fun z => ?_⟩)
    · rcases List.mem_cons.mp ((h x).mp (List.mem_cons_of_mem _ z)) with y | y
      · have := x1 x z; omega
      · exact y
    · rcases List.mem_cons.mp ((h x).mpr (List.mem_cons_of_mem _ z)) with y | y
      · have := y1 x z; omega
      · exact y
theorem ascI_le (l : List Int) : (ascI l).length ≤ l.length := by
  induction l with
  | nil => exact Nat.le_refl _
  | cons k r ih =>
    have go : ∀ l : List Int, (putI k l).length ≤ l.length + 1 := fun l => by
      induction l with
      | nil => exact Nat.le_refl _
      | cons m r ih =>
        unfold putI
        split
        · rw [List.length_cons, List.length_cons]; omega
        · split
          · rw [List.length_cons]; omega
          · exact Nat.le_refl _
    have := go (ascI r)
    show (putI k (ascI r)).length ≤ r.length + 1
    omega
/-- the set of the ints ns, owned -/
def setI (w : World) (p : Addr) (ns : List Int) : OD := .mp (fun _ o => ∃ n, o = SetO w p (fun j => decide (j ∈ ns)) n ∧ n ≤ ns.length) fun _ _ _ _ h => h
section
variable {X : Cx} {L : Led} {P : PK1}
/-- set(row) -/
theorem cd_setT (hc : X.calm = true) {ns : List Int} (hb : ns.length + 1 < scanBound) (h : ∀ p, P (.ref p) ((p, setI X.w p ns) :: L)) : CallD X (.type "set") [.tup (ns.map D.int)] L P := fun pins s σ H F xs us o ix I r => by
  obtain ⟨v, rfl, i⟩ := isl1 ix
  obtain ⟨u, rfl, ru⟩ := vals1 r
  cases i with
  | tup h1 h2 =>
    cases h2.ints_inv
    cases (show u = Value.ref _ from ru)
    obtain ⟨its, rv, pl, _⟩ := I.tuple (same_t o.sub h1)
    refine call_set_tupI ns (I.ok.hd hc) pl (by simpa using ints_of_vals rv) hb fun h' tk c R hc' hk => ?_
    have I1 := I.laid (t' := tk) (o := SetO X.w s.heap.objs.size (fun j => decide (j ∈ ns)) c) hk (Nat.le_refl _) (setO_new (P := X.prog) (H := upd H s.heap.objs.size (SetO X.w s.heap.objs.size (fun j => decide (j ∈ ns)) c)) R)
    exact ⟨.ref s.heap.objs.size, _, I1, rfl, F, _, _, Same.refl _, o.push (I.hok.fresh (Nat.le_refl _)) (x := setI X.w s.heap.objs.size ns) ⟨c, rfl, hc'⟩, .sc _, h _⟩
/-- sorted of it, fewer than 64 -/
theorem cd_sortI (hc : X.calm = true) {p : Addr} {ns : List Int} (hm : (p, setI X.w p ns) ∈ L) (h64 : ns.length < 64) (h : P (.lst ((ascI ns).map D.int)) L) : CallD X (.builtin "sorted") [.ref p] L P := cd_of (cr_sortedSet hc) fun H F xs o ix => by
  obtain ⟨v, rfl, i⟩ := isl1 ix
  cases i
  obtain ⟨_, u, h1, n, e, hn⟩ := o.cell _ hm
  subst e
  refine ⟨p, _, n, rfl, h1, by omega, fun ms q pw mem hl hq => ?_⟩
  obtain ⟨s2, o2⟩ := o.froze (o := .lst (ms.map V.int)) hq
  have e : ms = ascI ns := ascI_one pw (ascI_asc ns) fun x => by rw [mem, ascI_mem, decide_eq_true_eq]
  subst e
  exact ⟨_, _, L, s2, o2, .lst upd_same (IsL.ints _), h⟩
/-- sorted(xs) of ints, any number -/
theorem cd_sortInts {d : D} {ns : List Int} (hv : Vw L d (ns.map D.int)) (h : ∀ ms : List Int, ms.Perm ns → ms.Pairwise (· ≤ ·) → P (.lst (ms.map D.int)) L) : CallD X (.builtin "sorted") [d] L P := cd_of cr_sortedI fun H F xs o ix => by
  obtain ⟨v, rfl, i⟩ := isl1 ix
  obtain ⟨a, ys, rfl, hq, hx⟩ := hv.get o i
  cases hx.ints_inv
  refine ⟨a, ns, rfl, hq, fun ms q pm pw hn => ?_⟩
  obtain ⟨s2, o2⟩ := o.froze (o := .lst (ms.map V.int)) hn
  exact ⟨_, _, L, s2, o2, .lst upd_same (IsL.ints _), h ms pm pw⟩
end
end D2
end
section
set_option Elab.async false
set_option linter.all false
set_option maxRecDepth 100000
set_option maxHeartbeats 4000000
namespace D2
open PySem PySem.Spec L2
section
variable {K : PySem.W.Frag} {H : Hp} {L : Led} {α : Type} {f : α → D} {p : Addr} {x : OD}
theorem frz_cells : ∀ {qs : List Addr} {cs : List (List α)} {F : Hp}, qs.length = cs.length → Own K H F ((p, x) :: (cellsL f qs cs ++ L)) → ∃ F', Same F F' ∧ Own K H F' ((p, x) :: L) ∧ IsL K F' (qs.map V.ref) (cs.map fun c => D.lst (c.map f))
  | [], [], F, _, o => ⟨F, Same.refl _, o, .nil⟩
  | [], _ :: _, _, h, _ => by cases h
  | _ :: _, [], _, h, _ => by cases h
  | q :: qs, c :: cs, F, h, o => by
    obtain ⟨F1, s1, o1, i1⟩ := Own.freeze (p := q) (L' := (p, x) :: (cellsL f qs cs ++ L)) o (.there .here)
    obtain ⟨F2, s2, o2, i2⟩ := frz_cells (qs := qs) (cs := cs) (Nat.succ.inj h) o1
    exact ⟨F2, s1.trans s2, o2, .cons (i1.mono s2) i2⟩
theorem refs_inv {F : Hp} : ∀ {xs : List V} {qs : List Addr}, IsL K F xs (qs.map D.ref) → xs = qs.map V.ref
  | _, [], h => by cases h; rfl
  | _, q :: qs, h => by
    cases h with
    | cons a b =>
      cases a
      rw [refs_inv b]
      rfl
theorem frz_two {F : Hp} {qs : List Addr} {cs : List (List α)} (hl : qs.length = cs.length) (o : Own K H F ((p, .lst (qs.map D.ref)) :: (cellsL f qs cs ++ L))) : ∃ F', Same F F' ∧ Own K H F' L ∧ Is K F' (.ref p) (.lst (cs.map fun c => D.lst (c.map f))) := by
  obtain ⟨F1, s1, o1, i1⟩ := frz_cells hl o
  obtain ⟨_, u, g, xs, e, hx⟩ := o1.cell _ List.mem_cons_self
  subst e
  have ex := refs_inv hx
  subst ex
  have w := o1.write (y := .lst (cs.map fun c => D.lst (c.map f))) (L' := (p, .lst (cs.map fun c => D.lst (c.map f))) :: L) .here ⟨_, rfl, i1⟩
  have eH : upd H p (.lst (qs.map V.ref)) = H := by
    funext b
    by_cases hb : b = p
    · rw [hb, upd_same, g]
    · rw [upd_ne hb]
  rw [eH] at w
  obtain ⟨F2, s2, o2, i2⟩ := w.freeze .here
  exact ⟨F2, s1.trans s2, o2, i2⟩
end
section
variable {X : Cx} {e : Expr} {ρ : Rho} {L : Led} {P : PK1} {R : RK1} {α : Type}
/-- a list of owned lists, frozen all the way in -/
theorem pd_frz2 (f : α → D) (h : PD X e ρ L (fun d L1 => ∃ p qs cs L2, d = .ref p ∧ L1 = (p, .lst (qs.map D.ref)) :: (cellsL f qs cs ++ L2) ∧ qs.length = cs.length ∧ P (.lst (cs.map fun c => .lst (c.map f))) L2) R) : PD X e ρ L P R := .mk fun σ H F W A => h.step A fun v H1 F1 d L1 s1 A1 i1 ⟨p, qs, cs, L2, e1, e2, hl, q⟩ => by
  subst e1 e2
  cases i1
  obtain ⟨F', s, o', ip⟩ := frz_two hl A1.own
  exact ⟨F', _, L2, s1.trans s, o', ip, q⟩
end
end D2
end
section
set_option Elab.async false
set_option linter.all false
set_option maxRecDepth 100000
set_option maxHeartbeats 4000000
namespace D2
open PySem PySem.Spec PyProof.Rows L2 PySem.SeqAt
section
variable {X : Cx} {L : Led} {P : PK1}
/-- (a, b) > (c, d) of ints: some truth -/
theorem od_gt2 {a b c d : Int} (hu : X.A.units + 64 < cLine) (h : ∀ t, P (.bl t) L) : OpD X (compareOp .Gt) (.tup [.int a, .int b]) (.tup [.int c, .int d]) L P := fun pins s σ H F x y v u o ix iy I rx ry => by
  cases ix with
  | tup h1 h2 =>
    cases iy with
    | tup g1 g2 =>
      cases h2 with
      | cons i1 r1 =>
        cases r1 with
        | cons i2 r2 =>
          cases r2
          cases g2 with
          | cons j1 q1 =>
            cases q1 with
            | cons j2 q2 =>
              cases q2
              cases i1
              cases i2
              cases j1
              cases j2
              cases (show v = Value.ref _ from rx)
              cases (show u = Value.ref _ from ry)
              obtain ⟨its, rv, p1, _⟩ := I.tuple (same_t o.sub h1)
              obtain ⟨its2, rv2, p2, _⟩ := I.tuple (same_t o.sub g1)
              cases rv with
              | cons k1 k2 =>
                cases k2 with
                | cons k3 k4 =>
                  cases k4
                  cases rv2 with
                  | cons l1 l2 =>
                    cases l2 with
                    | cons l3 l4 =>
                      cases l4
                      obtain ⟨t1, rfl⟩ := k1
                      obtain ⟨t2, rfl⟩ := k3
                      obtain ⟨t3, rfl⟩ := l1
                      obtain ⟨t4, rfl⟩ := l3
                      refine Ob.RcOp.tuples_gt (e := fun j => if j = 0 then a == c else b == d) (r := fun j => if j = 0 then decide (c < a) else decide (d < b)) p1 p2 (by omega) (fun j j1 j2 => ?_) (fun j j1 j2 _ => ?_) X.prog X.w _ _ ⟨.bl _, H, I, rfl, upV.here o (.sc _) (h _)⟩
                      · match j, j1 with
                        | 0, _ => exact EqAt.int_int a t1 c t3
                        | 1, _ => exact EqAt.int_int b t2 d t4
                      · match j, j1 with
                        | 0, _ => exact Ob.RcOp.gt_int a c t1 t3
                        | 1, _ => exact Ob.RcOp.gt_int b d t2 t4
/-- xs.remove(k), the first one -/
theorem md_remove {p : Addr} {ns : List Int} {k : Int} {j : Nat} {L' : Led} (f : Foc p (.lst (ns.map D.int)) (.lst ((ns.eraseIdx j).map D.int)) L L') (hj : ns[j]? = some k) (hno : ∀ m : Nat, m < j → ns[m]? ≠ some k) (h : P .non L') : MthD X "list.remove" (.ref p) [.int k] L P := md_of mt_remove fun H F x xs o ix ixs => by
  cases ix
  obtain ⟨v, rfl, iv⟩ := isl1 ixs
  cases iv
  obtain ⟨_, u, h1, ys, rfl, h2⟩ := o.cell _ f.mem
  cases h2.ints_inv
  exact ⟨p, ns, k, j, rfl, rfl, h1, hj, hno, F, .non, L', Same.refl _, o.write f ⟨_, rfl, IsL.ints _⟩, .sc _, h⟩
end
end D2
end
section
set_option Elab.async false
set_option linter.all false
set_option maxRecDepth 100000
set_option maxHeartbeats 4000000
namespace D2
open PySem PySem.Spec L2
section
variable {X : Cx} {e iter elt tg : Expr} {ifs : List Expr} {ρ : Rho} {L : Led} {P : PK1} {R : RK1} {E : DE} {pos : Pos} {scope : Scope}
theorem lcWx {g : TG} {vs : List Nat} {ds : List D} {G : Led} {α : Type} (xs : List α) (f g' : α → D) (t : α → Bool) (us : α → List (Nat × D)) (hd : ds = xs.map f) (hgd : ∀ x, GD X.K g (f x) (us x)) (hv : ∀ x, ∀ u ∈ us x, u.1 ∈ vs) (hG : SubL G L) (hl : xs.length ≤ sizeLine)
    (ht : ∀ x ∈ xs, ∀ Y p acc, Blk X scope Y → PDTs Y ifs (setsD (wipeD ρ vs) (us x)) ((p, .lst acc) :: L) (fun b L4 => b = t x ∧ L4 = (p, .lst acc) :: L))
    (hb : ∀ x ∈ xs, t x = true → ∀ Y p acc, Blk X scope Y → PD Y elt (setsD (wipeD ρ vs) (us x)) ((p, .lst acc) :: L) (fun y L6 => y = g' x ∧ Lw L6 ((p, .lst acc) :: L)) noR) (q : P (.lst ((xs.filter t).map g')) L) : LcD X g elt ifs scope vs ρ ds G L (frzK P) := by
  subst hd
  refine ⟨fun i acc L2 => L2 = L ∧ acc = ((xs.take i).filter t).map g', ⟨rfl, rfl⟩, fun i acc L2 ⟨e, _⟩ => by rw [e]; exact hG, fun i d acc L2 hd ⟨e1, e2⟩ => ?_, fun acc L2 ⟨e1, e2⟩ p => ?_⟩
  · subst e1
    rw [List.getElem?_map] at hd
    cases e : xs[i]? with
    | none => rw [e] at hd; cases hd
    | some x =>
      rw [e] at hd
      cases hd
      have hi := (List.getElem?_eq_some_iff.mp e).1
      have hx := List.mem_of_getElem? e
      have hlen : acc.length < sizeLine := by
        have := List.length_filter_le t (xs.take i)
        rw [List.length_take] at this
        rw [e2, List.length_map]
        omega
      refine ⟨us x, t x, hgd x, hv x, fun Y p b => ht x hx Y p acc b, ?_⟩
      cases et : t x with
      | true =>
        show ∀ Y p, Blk X scope Y → _
        intro Y p b
        refine (hb x hx et Y p acc b).mono fun y L6 ⟨ey, lw⟩ => ⟨L2, lw, hlen, rfl, ?_⟩
        rw [e2, ey, (take_ext e).2, List.filter_append, List.map_append]
        simp [et]
      | false =>
        show L2 = L2 ∧ acc = _
        refine ⟨rfl, ?_⟩
        rw [e2, (take_ext e).2, List.filter_append]
        simp [et]
  · subst e1 e2
    rw [List.length_map, List.take_length]
    exact ⟨p, _, L2, rfl, .here, q⟩
/-- [elt for y, z in iter if ..], typed -/
theorem pd_lcW2 {i j : Nat} {y z : Str} {py pz pt : Pos} {kt : Nat} (hc : X.calm = true) (hN : X.N.Nodup) (ok : BlkOk X.N X.env.scope scope [(y, i), (z, j)])
    (hg : ∀ (s : Shared) (H : Hp) (C : Addr) (cl : List (Str × Addr)) (fp : List Addr), PG (X.blk s H scope (compEnvC scope cl C X.env) fp) (.Tuple [.Name y py, .Name z pz] kt pt) (gTup X.K 2 (gCons (gName i) (gCons (gName j) gNil))))
    (h : PDI X (.Tuple [.Name y py, .Name z pz] kt pt) iter ρ L (fun ds G L1 => ∃ (α : Type) (xs : List α) (f1 f2 g' : α → D) (t : α → Bool), ds = xs.map (fun x => D.tup [f1 x, f2 x]) ∧ SubL G L1 ∧ xs.length ≤ sizeLine ∧
      (∀ x ∈ xs, ∀ Y p acc, Blk X scope Y → PDTs Y ifs (setsD (wipeD ρ [i, j]) [(i, f1 x), (j, f2 x)]) ((p, .lst acc) :: L1) (fun b L4 => b = t x ∧ L4 = (p, .lst acc) :: L1)) ∧
      (∀ x ∈ xs, t x = true → ∀ Y p acc, Blk X scope Y → PD Y elt (setsD (wipeD ρ [i, j]) [(i, f1 x), (j, f2 x)]) ((p, .lst acc) :: L1) (fun y L6 => y = g' x ∧ Lw L6 ((p, .lst acc) :: L1)) noR) ∧ P (.lst ((xs.filter t).map g')) L1) R)
    (hs : ∀ x, foldedSetIterable iter X.env x = pure x := by intro _; rfl) : PD X (.ListComp elt [⟨.Tuple [.Name y py, .Name z pz] kt pt, iter, ifs, 0⟩] scope pos) ρ L P R :=
  pd_lcF (own := [(y, i), (z, j)]) (g := gTup X.K 2 (gCons (gName i) (gCons (gName j) gNil))) hc hN ok hg (h.mono fun ds G L1 ⟨α, xs, f1, f2, g', t, e, hG, hl, ht, hb, q⟩ => lcWx xs (fun x => D.tup [f1 x, f2 x]) g' t (fun x => [(i, f1 x), (j, f2 x)]) e (fun x => gd_tup (gds_cons gd_name (gds_cons gd_name gds_nil)) rfl)
    (fun x u hu => by
      simp only [List.mem_cons, List.not_mem_nil, or_false] at hu
      rcases hu with rfl | rfl
      · exact List.mem_cons_self
      · exact List.mem_cons_of_mem _ List.mem_cons_self) hG hl ht hb q) hs
end
end D2
end
section
set_option Elab.async false
set_option linter.all false
set_option maxRecDepth 100000
set_option maxHeartbeats 4000000
namespace D2
open PySem PySem.Spec PyProof.Rows L2
section
variable {X : Cx} {e o i : Expr} {ρ : Rho} {L : Led} {E : DE} {pos : Pos}
/-- xs[k] op= e, k from the front -/
theorem pds_augIx {op : Operator} {tpos : Pos} (h : PD X o ρ L (fun do_ L1 => PD X i ρ L1 (fun di L2 => ∃ (p : Addr) (ds : List D) (k : Nat) (d : D), do_ = .ref p ∧ di = .int (k : Int) ∧ (p, OD.lst ds) ∈ L2 ∧ ds[k]? = some d ∧
      PD X e ρ L2 (fun de L3 => OpD X (inplaceOp op) d de L3 (fun z L4 => ∃ ds2 L5, k < ds2.length ∧ Foc p (.lst ds2) (.lst (ds2.set k z)) L4 L5 ∧ E.nx ρ L5)) (E.ex ρ)) (E.ex ρ)) (E.ex ρ))
    (ha : ∀ ov iv new, augStore i ov iv new = (do holding [new, ov, iv] (setItem ov iv new); release [new, ov, iv] []; pure .next) := by intro _ _ _; rfl) : PDS X (.AugAssign (.Subscript o i tpos) op e pos) E ρ L := .mk fun σ H F W A pins s I => by
  refine wpAny_AugAssign_SubscriptAny (thn (h.go σ H F W A.at pins s I) fun ov s1 ⟨x, H1, I1, rx, F1, d1, L1, sm1, o1, i1, q1⟩ => thn (q1.go σ H1 F1 W (A.at.go sm1 o1) pins s1 I1) fun iv s2 ⟨y, H2, I2, ry, F2, d2, L2, sm2, o2, i2, p, ds, k, d, e1, e2, hm, hd, q2⟩ => ?_) ha
  subst e1 e2
  cases i1
  cases (show ov = Value.ref p from rx)
  cases i2
  obtain ⟨ty, rfl⟩ := ry
  obtain ⟨_, u, g1, xs, eu, hx⟩ := o2.cell _ hm
  subst eu
  obtain ⟨its, n, rv, ho, hz⟩ := I2.lst g1
  obtain ⟨vx, hvx, ivx⟩ := hx.get hd
  obtain ⟨z, hzz, rz⟩ := rv.get hvx
  have hlk := (List.getElem?_eq_some_iff.mp hzz).1
  have hl := rv.length
  rw [sizeLine_eq] at hz
  refine wpAny_getItem_list (items := its.toArray) (k := (k : Int)) (x := z) ⟨_, ho, rfl, n, rfl⟩ (by omega) (by omega) (by simpa using hzz) ?_
  refine thn (q2.go σ H2 F2 W ((A.at.go sm1 o1).go sm2 o2) pins s2 I2) fun w4 s4 ⟨x4, H4, I4, r4, F4, d4, L4, sm4, o4, i4, q4⟩ => ?_
  refine thn (q4 pins s4 σ H4 F4 vx x4 z w4 o4 (ivx.mono sm4) i4 I4 rz r4) fun w5 s5 ⟨x5, H5, I5, r5, F5, d5, L5, sm5, o5, i5, ds2, L6, hk2, f, qn⟩ => ?_
  have sm := ((sm1.trans sm2).trans sm4).trans sm5
  obtain ⟨_, u5, g5, ys, eu5, hy⟩ := o5.cell _ f.mem
  subst eu5
  have hj : ixN ys.length (k : Int) = some k := by
    unfold ixN
    rw [if_pos (by omega), if_pos (by rw [hy.length]; omega), Int.toNat_natCast]
  exact thn (set_list pins s5 σ H5 (.ref p) (.int (k : Int)) x5 (.ref p) (.int (k : Int) ty) w5 _ I5 rfl ⟨ty, rfl⟩ r5 ⟨p, ys, (k : Int), k, rfl, rfl, g5, hj, rfl⟩) fun _ s6 ⟨H6, I6, q6⟩ => ⟨σ, H6, I6, F5, ρ, L6, sm, by rw [← q6]; exact o5.write f ⟨_, rfl, hy.set i5 k⟩, A.env.mono sm, qn⟩
end
end D2
end
section
set_option Elab.async false
set_option linter.all false
set_option maxRecDepth 100000
set_option maxHeartbeats 4000000
/-! xs == [], xs any list -/
namespace D2
open PySem PySem.Spec PyProof.Rows L2 PySem.SeqAt
section
variable {X : Cx} {L : Led} {P : PK1} {da db : D} {as : List D}
theorem od_eqNil (hu : X.A.units + 64 < cLine) (va : Vw L da as) (vb : Vw L db []) (h : P (.bl as.isEmpty) L) : OpD X (compareOp .Eq) da db L P := fun pins s σ H F x y v u o ix iy I rx ry => by
  obtain ⟨a, xs, rfl, qa, ia⟩ := va.get o ix
  obtain ⟨b, ys, rfl, qb, ib⟩ := vb.get o iy
  cases ib
  cases (show v = Value.ref a from rx)
  cases (show u = Value.ref b from ry)
  obtain ⟨i1, o1, n1, v1, g1, c1, d1⟩ := L2.sqL_at I.hok I.kIn qa
  obtain ⟨i2, o2, n2, v2, g2, c2, d2⟩ := L2.sqL_at I.hok I.kIn qb
  cases v2
  have l1 := v1.length
  have l2 := ia.length
  have L1 : s.heap.IsList a i1.toArray := ⟨o1, g1, c1, n1, d1⟩
  have L2 : s.heap.IsList b #[] := ⟨o2, g2, c2, n2, d2⟩
  cases as with
  | nil =>
    have e : i1 = [] := List.eq_nil_of_length_eq_zero (by rw [← l1, l2]; rfl)
    subst e
    exact RcAt.lists (e := fun _ => true) L1 L2 rfl (by omega) (fun j h1 => absurd h1 (Nat.not_lt_zero _)) _ _ _ _ ⟨.bl _, H, I, rfl, upV.here o (.sc _) h⟩
  | cons d r =>
    have hne : i1.length ≠ 0 := by rw [← l1, l2, List.length_cons]; omega
    exact RcAt.lists_lengths L1 L2 (by simp; intro z; rw [z] at hne; exact hne rfl) (by omega) _ _ _ _ ⟨.bl _, H, I, rfl, upV.here o (.sc _) h⟩
end
end D2
end
section
set_option Elab.async false
set_option linter.all false
set_option maxRecDepth 100000
set_option maxHeartbeats 4000000
namespace D2
open PySem PySem.Spec L2 BigT
section
variable {X : Cx} {L : Led} {P : PK1}
/-- sorted(xs) of rows, owned -/
theorem cd_sortedO {d : D} {ks : List Row} (hv : Vw L d (ks.map rowD)) (ne : ∀ k ∈ ks, k ≠ []) (h : ∀ p, P (.ref p) ((p, .lst ((srt ks).map rowD)) :: L)) : CallD X (.builtin "sorted") [d] L P := cd_of cr_sortTups fun H F xs o ix => by
  obtain ⟨v, rfl, i⟩ := isl1 ix
  obtain ⟨a, ys, rfl, hq, hx⟩ := hv.get o i
  obtain ⟨ps, rfl, rfl, hp⟩ := isRows hx
  refine ⟨a, ps, rfl, hq, fun p hm => same_t o.sub (hp p hm), fun _ p hm => ne _ (List.mem_map_of_mem hm), fun L' d pm pw hd => ?_⟩
  have e : L'.map (·.2) = srt (ps.map (·.2)) := srt_eq (List.pairwise_map.mpr pw) (pm.map _)
  have i2 := rowsIs (K := X.K) (F := F) (ps := L') fun q hq' => hp q (pm.mem_iff.mp hq')
  rw [e] at i2
  exact ⟨F, _, _, Same.refl _, o.push hd (x := .lst ((srt (ps.map (·.2))).map rowD)) ⟨_, rfl, i2⟩, .sc _, h d⟩
/-- tuple + tuple -/
theorem od_catT {as bs : List D} (hl : as.length + bs.length ≤ sizeLine) (h : P (.tup (as ++ bs)) L) : OpD X (binaryOp .Add) (.tup as) (.tup bs) L P := opd_of op_catA fun H F x y o ix iy => by
  cases ix with
  | tup h1 h2 =>
    cases iy with
    | tup g1 g2 =>
      refine ⟨_, _, _, _, rfl, rfl, same_t o.sub h1, same_t o.sub g1, by rw [h2.length, g2.length]; exact hl, fun e => ?_, fun _ e => ?_, fun _ _ p hp => ?_⟩
      · subst e
        cases h2
        exact ⟨F, _, L, Same.refl _, o, .tup g1 g2, h⟩
      · subst e
        cases g2
        rw [List.append_nil] at h
        exact ⟨F, _, L, Same.refl _, o, .tup h1 h2, h⟩
      · obtain ⟨s2, o2⟩ := o.froze (o := .tup (_ ++ _)) hp
        exact ⟨_, _, L, s2, o2, .tup (SqT.of upd_same) ((h2.append g2).mono s2), h⟩
end
end D2
end
section
set_option Elab.async false
set_option linter.all false
set_option maxRecDepth 100000
set_option maxHeartbeats 4000000
/-! list(range(n)) -/
namespace D2
open PySem PySem.Spec PyProof.Rows L2
theorem vals_ix : ∀ {vs : List V} {us : List Value}, vs.length = us.length → (∀ (i : Nat) v u, vs[i]? = some v → us[i]? = some u → RelV v u) → Vals vs us
  | [], [], _, _ => .nil
  | v :: vs, u :: us, hl, h => .cons (h 0 v u rfl rfl) (vals_ix (by simpa using hl) fun i a b h1 h2 => h (i + 1) a b (by simpa using h1) (by simpa using h2))
  | [], _ :: _, hl, _ => by simp at hl
  | _ :: _, [], hl, _ => by simp at hl
section
variable {X : Cx} {L : Led} {P : PK1}
theorem cd_listRng (hc : X.calm = true) {r : Addr} {n : Nat} (hm : (r, OD.raw (rngO r (n : Int))) ∈ L) (hs : Builtin.Range.small 0 (n : Int) 1 = true) (hn : n ≤ 2 ^ 20) (h : ∀ p, P (.ref p) ((p, .lst ((List.range n).map fun (i : Nat) => D.int (i : Int))) :: L)) : CallD X (.type "list") [.ref r] L P := fun pins s σ H F xs us o ix I rr => by
  obtain ⟨v, rfl, iv⟩ := isl1 ix
  cases iv
  obtain ⟨u, rfl, ru⟩ := vals1 rr
  cases (show u = Value.ref r from ru)
  obtain ⟨_, ob, h1, h2⟩ := o.cell _ hm
  have h2 : ob = rngO r (n : Int) := h2
  subst h2
  have ok : ∃ t u v, IsRange s.heap r 0 (n : Int) 1 t u v := (I.hok r _ h1 : ObjOk X.prog X.w H s.heap r (.ext _)).1
  obtain ⟨t, u, v, hr⟩ := ok
  have sz : Builtin.Range.rangeSize 0 (n : Int) 1 = (n : Int) := by
    rw [rangeSize_one]
    split <;> omega
  refine call_list_range (I.ok.hd hc) hr hs sz (by omega) fun h' tk acc' c' hk hS hi => ?_
  have hl : acc'.toList.length = n := by rw [Array.length_toList]; exact hi.1
  have vals : Vals ((List.range n).map fun (i : Nat) => V.int (i : Int)) acc'.toList := vals_ix (by rw [List.length_map, List.length_range, hl]) fun i v u e1 e2 => by
    have hi2 := (List.getElem?_eq_some_iff.mp e1).1
    rw [List.length_map, List.length_range] at hi2
    rw [List.getElem?_map, List.getElem?_range hi2] at e1
    cases e1
    obtain ⟨t, et⟩ := hi.2 i u (by simpa using e2)
    rw [et, Int.mul_one, Int.zero_add]
    exact ⟨t, rfl⟩
  have isl : IsL X.K F ((List.range n).map fun (i : Nat) => V.int (i : Int)) ((List.range n).map fun (i : Nat) => D.int (i : Int)) := by
    have := IsL.ints (K := X.K) (F := F) ((List.range n).map fun (i : Nat) => (i : Int))
    rw [List.map_map, List.map_map] at this
    exact this
  have I' := I.laid (a := s.heap.objs.size) (o := .lst ((List.range n).map fun (i : Nat) => V.int (i : Int))) (t' := tk) (h' := h') hk (Nat.le_refl _) ⟨by rw [List.length_map, List.length_range, sizeLine_eq]; omega, acc'.toList, c', vals, by simpa using hS⟩
  exact ⟨.ref s.heap.objs.size, _, I', rfl, F, _, _, Same.refl _, o.push (I.hok.fresh (Nat.le_refl _)) (x := .lst ((List.range n).map fun (i : Nat) => D.int (i : Int))) ⟨_, rfl, isl⟩, .sc _, h _⟩
end
end D2
end
section
set_option Elab.async false
set_option linter.all false
set_option maxRecDepth 100000
set_option maxHeartbeats 4000000
/-! a def with defaults keeps its contract -/
namespace D2
open PySem PySem.Spec L2
section
variable {P : Program} {w : World} {K : PySem.W.Frag} {mg : Str → Option Value} {base : Heap}
theorem fn_okF {x qual : Str} {st : Stmt} {f : Addr} {fd : FuncData} {N ps : List Str} {k : Nat} {T : Ct} {dvs : List V} {kws : List (Str × V)} (Fu : FunD K x qual (defArgs st) (defBody st) (defScope st) dvs kws f fd) (S : FnScope N ps (defScope st)) (len : ∀ ds L P R, T ds L P R → ds.length = ps.length)
    (hbody : ∀ (cdv : Value) (A : Around) (outer : List Env) (s : Shared) (H : Hp) (E : XK) (ds : List D) (L : Led) (P1 : PK1) (R : RK1), Room k (A.deeper (PyProof.Rows.envOfC qual (defScope st) s.heap.objs.size f cdv)) → T ds L P1 R →
      PDB (cxOf (L2.CX P w) P w K mg base N qual (defScope st) f cdv A outer s H E) (defBody st) { nx := fun _ L' => P1 .non L', rt := P1, bk := fun _ _ => False, ct := fun _ _ => False, ex := fun _ => R } (startD N ds) L) :
    FnOk P w K mg base (L2.CX P w) (k + 1) f fd ps (spD K T) := by
  refine Fu.ok S (fun vs H Q E ⟨F, L, ds, P1, R, h1, h2, h3, _⟩ => by rw [h1.length]; exact len _ _ _ _ h3) fun cdv A outer s H vs Q E hr h => ?_
  obtain ⟨F, L, ds, P1, R, h1, h2, h3, h4, h5⟩ := h
  refine ⟨_, pss_w, ?_⟩
  refine ((hbody cdv A outer s H E ds L P1 R hr h3).go (L2.start N vs) H F (fun cls d _ H => E cls d H) ⟨start_ok h1, h2, takes_of rfl rfl rfl rfl, fun cls dd σ' H' ⟨F', ρ', C, fs, L', a, gs, s1, o1, e1, q1, q2, q3, q4, q5⟩ => h5 _ _ _ ⟨F', C, fs, L', a, gs, s1, o1, q1, q2, q3, q4, q5⟩⟩).mono ⟨fun σ1 H1 ⟨F1, ρ1, L1, s1, o1, e1, q⟩ => h4 _ _ ⟨F1, .non, L1, s1, o1, .sc _, q⟩, fun v H1 p => h4 _ _ p, fun _ _ ⟨_, _, _, _, _, _, q⟩ => q.elim, fun _ _ ⟨_, _, _, _, _, _, q⟩ => q.elim⟩
/-- one default, an int -/
theorem dfl_int {T : Addr} {i : Int} {t : Tok} {n : Nat} {oc : Value} {od : Option Addr} {sl : Array (Option Value)} (l : K.lookup T = some ⟨oc, od, .seq #[.int i t] n, sl⟩) : DflV K (.ref T) [.int i] := .inr ⟨by simp, T, _, [.int i t], n, rfl, l, rfl, .cons ⟨t, rfl⟩ .nil⟩
end
end D2
end
section
set_option Elab.async false
set_option linter.all false
set_option maxRecDepth 100000
set_option maxHeartbeats 2000000
/-! tuples of which is known that they bear no dict: their methods -/
namespace D2
open PySem PySem.Spec PyProof.Rows L2
abbrev rowQ (r : Row) : D := .tuq (r.map D.int)
theorem Is.tq {K : PySem.W.Frag} {F : Hp} {v : V} {ds : List D} (h : Is K F v (.tuq ds)) : Is K F v (.tup ds) := by
  cases h with
  | tuq h n i => exact .tup (.inl (.inr ⟨_, h⟩)) i
theorem IsL.tq {K : PySem.W.Frag} {F : Hp} : ∀ {vs : List V} {rs : List Row}, IsL K F vs (rs.map rowQ) → IsL K F vs (rs.map rowD)
  | [], [], .nil => .nil
  | _ :: _, _ :: _, .cons a b => .cons a.tq (IsL.tq b)
section
variable {X : Cx} {e o : Expr} {es : List Expr} {sts : List Stmt} {ρ : Rho} {L : Led} {P : PK1} {R : RK1} {E : DE} {pos : Pos}
/-- such a tuple is a tuple -/
theorem pd_tq (h : PD X e ρ L (fun d L1 => ∃ ds, d = .tuq ds ∧ P (.tup ds) L1) R) : PD X e ρ L P R := .mk fun σ H F W A => (h.go σ H F W A).mono fun v H' ⟨F', d, L', s, o, i, ds, ed, p⟩ => by
  subst ed
  exact ⟨F', _, L', s, o, i.tq, p⟩
/-- a list of such rows is a list of rows -/
theorem pd_tqL (h : PD X e ρ L (fun d L1 => ∃ rs : List Row, d = .lst (rs.map rowQ) ∧ P (.lst (rs.map rowD)) L1) R) : PD X e ρ L P R := .mk fun σ H F W A => (h.go σ H F W A).mono fun v H' ⟨F', d, L', s, o, i, rs, ed, p⟩ => by
  subst ed
  cases i with
  | lst h1 h2 => exact ⟨F', _, L', s, o, .lst h1 h2.tq, p⟩
/-- tuple(list) -/
theorem cd_tupleQ {d : D} {ds : List D} (hv : Vw L d ds) (h : P (.tuq ds) L) : CallD X (.type "tuple") [d] L P := fun pins s σ H F xs us o ix I r => by
  obtain ⟨v, rfl, i⟩ := isl1 ix
  obtain ⟨u, rfl, ru⟩ := vals1 r
  obtain ⟨a, ys, rfl, hq, hx⟩ := hv.get o i
  cases (show u = Value.ref a from ru)
  obtain ⟨its, r', pl, hz⟩ := I.list hq
  have hlen := r'.length
  refine call_tuple_list pl.isList (fun h' kp => ?_) (by simp only [List.size_toArray]; omega)
  have I1 : Inv X pins σ H { s with heap := h' } := I.kept (t' := s.toks) kp
  generalize hob : ({ cls := .type "tuple", data := .seq its.toArray } : Obj) = ob
  have I2 : Inv X pins σ (upd H h'.objs.size (.frz ob (.tup ys))) { s with heap := h'.push ob } := by
    subst hob
    exact I1.laid (t' := s.toks) (fun b o e => Heap.get?_push_of_some _ e) (Nat.le_refl _) (show ObjOk X.prog X.w _ _ _ (.frz _ (.tup ys)) from ⟨Heap.get?_push_size _ rfl, hz, its, r', IsTup.new _ _⟩)
  obtain ⟨s2, o2⟩ := o.froze (o := .frz ob (.tup ys)) (I1.hok.fresh (Nat.le_refl _))
  exact ⟨.ref h'.objs.size, _, I2, rfl, _, _, L, s2, o2, .tuq upd_same (by rw [← hob]) (hx.mono s2), h⟩
/-- t.m(e, ..), t such a tuple -/
theorem pd_bmQ {name : Str} {apos cpos : Pos} {id : String} (slot : Slot "tuple" name id) (hty : typeOf (.builtin id) = pure (.type "method_descriptor")) (h : PD X o ρ L (fun d L1 => ∃ ds, d = .tuq ds ∧ PDA X (e :: es) ρ L1 (fun es2 L2 => MthD X id (.tuq ds) es2 L2 P) R) R)
    (hbase : attributeBase o name X.env (eval o X.env) = eval o X.env := by rfl)
    (hfew : ((backTo cpos (starEach (e :: es) X.env)).all (fun x => !x.1) && (backToKw cpos (keywordEach [] X.env)).all (fun x => x.1.isSome)
      && decide ((e :: es).length + ([] : List Keyword).length + (if ([] : List Keyword).isEmpty then 0 else 1) < 30)) = true := by rfl)
    (hline : (apos.endLine == cpos.line) = true := by rfl) (hs : starEach (e :: es) X.env = (false, eval e X.env) :: starEach es X.env := by rfl) (hplain : (backTo cpos (starEach es X.env)).any (·.1) = false := by rfl) :
    PD X (.Call (.Attribute o name apos) (e :: es) [] cpos) ρ L P R := .mk fun σ H F W A pins s I => by
  refine wpAny_Call_method_late hbase hfew hline rfl (thn (h.go σ H F W A pins s I) fun v s1 ⟨x, H1, I1, rx, F1, d, L1, sm, o1, i1, ds, ed, q⟩ => ?_)
  subst ed
  cases i1 with
  | @tuq p xs _ ob hq hn hx =>
    cases (show v = Value.ref p from rx)
    obtain ⟨hg, _, its, _, ⟨ob2, g2, c2, _⟩⟩ := I1.hok p _ (o1.sub _ _ hq)
    have e2 : ob2 = ob := by
      rw [hg] at g2
      exact (Option.some.inj g2).symm
    subst e2
    refine ⟨"tuple", id, PySem.F.plainAttrs_tuple, slot, hty, ⟨ob2, hg, c2⟩, fun a ea => (by cases ea; exact ⟨ob2, hg, hn⟩), ?_⟩
    have hA := q.go σ H1 F1 W (A.go sm o1) cpos pins s1 I1
    rw [hs] at hA ⊢
    refine Calls.callWith_builtin (by show (false || (backTo cpos (starEach es X.env)).any (·.1)) = false; rw [hplain]; rfl) (Calls.evalArgs_plain ?_)
    exact thn hA fun us s2 ⟨vs, H2, I2, r2, F2, ds2, L2, sm2, o2, i2, md⟩ => thn (md pins s2 σ H2 F2 (.ref p) vs (.ref p) us o2 (Is.mono sm2 (.tuq hq hn hx)) i2 I2 rfl r2) fun z s' ⟨v', H', I', r', p'⟩ => ⟨v', H', I', r', p'.mono (sm.trans sm2) fun _ _ p => p⟩
/-- t.index(k), numbers -/
theorem md_indexQ {r : Row} {k : Int} (hk : k ∈ r) (h : P (.int (r.idxOf k : Nat)) L) : MthD X "tuple.index" (rowQ r) [.int k] L P := fun pins s σ H F x xs v us o ix ixs I rx rxs => by
  obtain ⟨y, rfl, iy⟩ := isl1 ixs
  cases iy
  obtain ⟨u, rfl, ru⟩ := vals1 rxs
  obtain ⟨t, rfl⟩ := ru
  cases ix with
  | @tuq p ys _ ob hq hn hx =>
    cases (show v = Value.ref p from rx)
    cases hx.ints_inv
    obtain ⟨its, rv, pl, _⟩ := I.tuple (Or.inl (Or.inr ⟨_, o.sub _ _ hq⟩))
    have hl := rv.length
    rw [List.length_map] at hl
    refine PySem.SeqAt.call_tuple_index (ks := r) (k := k) pl ⟨by omega, fun j h1 h2 => ?_⟩ hk ⟨.int (r.idxOf k : Nat), H, I.tok _, ⟨_, rfl⟩, upV.here o (.sc _) h⟩
    have fl : (r.map V.int).all flatV = true := by
      rw [List.all_map]
      exact List.all_eq_true.mpr fun _ _ => rfl
    have q := mem_eqAt (A := X.A.in1) (s := s) (x := .int k) (v := .int k t) ⟨t, rfl⟩ rfl rv fl its[j] (List.getElem_mem h1)
    obtain ⟨w, hw, rw'⟩ := rv.get (i := j) (x := .int r[j]) (by rw [List.getElem?_map, List.getElem?_eq_getElem h2]; rfl)
    rw [List.getElem?_eq_getElem h1] at hw
    obtain ⟨tj, ej⟩ := rw'
    have e1 : its[j] = .int r[j] tj := (Option.some.inj hw).trans ej
    rw [e1] at q ⊢
    exact q
/-- xs.index(k), numbers -/
theorem md_indexI {d : D} {r : Row} {k : Int} (hv : Vw L d (r.map D.int)) (hk : k ∈ r) (h : P (.int (r.idxOf k : Nat)) L) : MthD X "list.index" d [.int k] L P := md_of mt_index fun H F x xs o ix ixs => by
  obtain ⟨a, ys, rfl, hq, hx⟩ := hv.get o ix
  cases hx.ints_inv
  obtain ⟨y, rfl, iy⟩ := isl1 ixs
  cases iy
  have hl := List.idxOf_lt_length_iff.mpr hk
  refine ⟨a, r.map V.int, .int k, r.idxOf k, .int k, rfl, rfl, hq, rfl, ?_, ?_, ?_, fun m z hm hz => ?_, upV.here o (.sc _) h⟩
  · rw [List.all_map]
    exact List.all_eq_true.mpr fun _ _ => rfl
  · rw [List.getElem?_map, List.getElem?_eq_getElem hl, List.getElem_idxOf]
    rfl
  · show decide (k = k) = true
    exact decide_eq_true rfl
  · rw [List.getElem?_map] at hz
    cases e : r[m]? with
    | none => rw [e] at hz; cases hz
    | some y =>
      rw [e] at hz
      cases hz
      show decide (y = k) = false
      refine decide_eq_false fun z => ?_
      have hm2 := (List.getElem?_eq_some_iff.mp e).1
      have ey := (List.getElem?_eq_some_iff.mp e).2
      have hm3 : m < (r.findIdx (· == k)) := hm
      have := List.not_of_lt_findIdx hm3
      simp at this
      exact this (ey.trans z)
end
end D2
end
section
set_option Elab.async false
set_option linter.all false
set_option maxRecDepth 100000
set_option maxHeartbeats 4000000
namespace D2
open PySem PySem.Spec PyProof.Rows L2
/-! ### zip of three, each a list or a tuple -/
def Itz3 (K : PySem.W.Frag) (b1 : Bool) (a : Addr) (b2 : Bool) (b : Addr) (b3 : Bool) (c : Addr) : It :=
  ⟨fun i H => ∃ (xs ys zs : List V) (x y z : V), SqS K b1 H a xs ∧ SqS K b2 H b ys ∧ SqS K b3 H c zs ∧ xs[i]? = some x ∧ ys[i]? = some y ∧ zs[i]? = some z,
    fun i H v H' => ∃ T x y z, v = .ref T ∧ H T = none ∧ H' = upd H T (.tup [x, y, z]) ∧ (∀ xs, SqS K b1 H a xs → xs[i]? = some x) ∧ (∀ ys, SqS K b2 H b ys → ys[i]? = some y) ∧ ∀ zs, SqS K b3 H c zs → zs[i]? = some z,
    fun i H => ∃ xs ys zs : List V, SqS K b1 H a xs ∧ SqS K b2 H b ys ∧ SqS K b3 H c zs ∧ (xs.length ≤ i ∨ ys.length ≤ i ∨ zs.length ≤ i)⟩
abbrev TnZ3 (b1 : Bool) (a : Addr) (b2 : Bool) (b : Addr) (b3 : Bool) (c z TI TO i1 i2 i3 : Addr) : Nat → Heap → Prop := fun i h => IsZip h z TI TO .none ∧ IsTupOf3 h TI (.ref i1) (.ref i2) (.ref i3) ∧ (∃ x y u, IsTupOf3 h TO x y u) ∧ ItAt b1 h i1 a i ∧ ItAt b2 h i2 b i ∧ ItAt b3 h i3 c i
theorem sub6 {z TI TO i1 i2 i3 c : Addr} (m : c ∈ [z, TO, i1, i2, i3]) : c ∈ [z, TI, TO, i1, i2, i3] := by
  simp only [List.mem_cons, List.not_mem_nil, or_false] at m ⊢
  rcases m with h | h | h | h | h
  · exact .inl h
  · exact .inr (.inr (.inl h))
  · exact .inr (.inr (.inr (.inl h)))
  · exact .inr (.inr (.inr (.inr (.inl h))))
  · exact .inr (.inr (.inr (.inr (.inr h))))
theorem turn_zip3 {P : Program} {w : World} {K : PySem.W.Frag} {elts : List Expr} {kk : Nat} {tpos : Pos} {b1 b2 b3 : Bool} {a b c z TI TO i1 i2 i3 : Addr} (S : ZipSep3 z TI TO i1 i2 i3 [i1, a] [i2, b] [i3, c]) (ai : a ≠ i1) (bi : b ≠ i2) (ci : c ≠ i3) :
    Turn P w K (.Tuple elts kk tpos) (Itz3 K b1 a b2 b b3 c) [z, TI, TO, i1, i2, i3] z (TnZ3 b1 a b2 b b3 c z TI TO i1 i2 i3) where
  mem := List.mem_cons_self
  obj := fun i h st c hc => by
    obtain ⟨hz, hTI, ⟨x, y, u, hTO⟩, h1, h2, h3⟩ := st
    simp only [List.mem_cons, List.not_mem_nil, or_false] at hc
    rcases hc with rfl | rfl | rfl | rfl | rfl | rfl
    · exact ⟨_, hz, (fun v q => nomatch q)⟩
    · exact ⟨_, hTI, (fun v q => nomatch q)⟩
    · exact ⟨_, hTO, (fun v q => nomatch q)⟩
    · exact itAt_obj h1
    · exact itAt_obj h2
    · exact itAt_obj h3
  keep := fun i h h' st k => by
    obtain ⟨hz, hTI, ⟨x, y, u, hTO⟩, h1, h2, h3⟩ := st
    exact ⟨k _ (by simp) _ hz, k _ (by simp) _ hTI, ⟨x, y, u, k _ (by simp) _ hTO⟩, itAt_keep h1 (k _ (by simp)), itAt_keep h2 (k _ (by simp)), itAt_keep h3 (k _ (by simp))⟩
  item := by
    intro X hP hw hK hc i pins s σ H E I hf st hg
    subst hP hw hK
    obtain ⟨xs, ys, zs, x, y, z1, qx, qy, qz, hx, hy, hz⟩ := hg
    obtain ⟨us, rx, px, _⟩ := sqS_heap I qx
    obtain ⟨vs, ry, py, _⟩ := sqS_heap I qy
    obtain ⟨ws, rz, pz, _⟩ := sqS_heap I qz
    obtain ⟨u, hu, ru⟩ := rx.get hx
    obtain ⟨v, hv, rv⟩ := ry.get hy
    obtain ⟨q, hq, rq⟩ := rz.get hz
    have hh : X.A.in1.handled = none := I.ok.hd hc
    have W := WalksT.zipD3 (prog := X.prog) (w := X.w) (A := X.A) S (drawsS hh b1 i1 a ai us.toArray) (drawsS hh b2 i2 b bi vs.toArray) (drawsS hh b3 i3 c ci ws.toArray)
    have cells : ∀ c ∈ [z, TI, TO, i1, i2, i3], c < s.heap.objs.size := fun c hcm => by
      obtain ⟨hz, hTI, ⟨x0, y0, u0, hTO⟩, h1, h2, h3⟩ := st
      simp only [List.mem_cons, List.not_mem_nil, or_false] at hcm
      rcases hcm with rfl | rfl | rfl | rfl | rfl | rfl
      · exact Heap.lt_size hz
      · exact Heap.lt_size hTI
      · exact Heap.lt_size hTO
      · obtain ⟨o, e, _⟩ := itAt_obj h1; exact Heap.lt_size e
      · obtain ⟨o, e, _⟩ := itAt_obj h2; exact Heap.lt_size e
      · obtain ⟨o, e, _⟩ := itAt_obj h3; exact Heap.lt_size e
    have lu : i < us.length := (List.getElem?_eq_some_iff.mp hu).1
    have lv : i < vs.length := (List.getElem?_eq_some_iff.mp hv).1
    have lq : i < ws.length := (List.getElem?_eq_some_iff.mp hq).1
    refine W.item i s _ _ (by simp only [List.size_toArray]; omega) ⟨st.1, st.2.1, st.2.2.1, ⟨st.2.2.2.1, px⟩, ⟨st.2.2.2.2.1, py⟩, st.2.2.2.2.2, pz⟩ fun T vals h' tk hP hT hTup hM hk => ⟨_, rfl, W.go elts kk tpos i T { s with heap := h', toks := tk } _ _ hM fun h2 st2 hk2 => ?_⟩
    obtain ⟨x1, y1, z2, hx1, hy1, hz1, rfl⟩ := hP
    have ex : x1 = u := by
      have e : us[i]? = some x1 := by simpa using hx1
      rw [hu] at e
      exact (Option.some.inj e).symm
    have ey : y1 = v := by
      have e : vs[i]? = some y1 := by simpa using hy1
      rw [hv] at e
      exact (Option.some.inj e).symm
    have ez : z2 = q := by
      have e : ws[i]? = some z2 := by simpa using hz1
      rw [hq] at e
      exact (Option.some.inj e).symm
    subst ex ey ez
    obtain ⟨o, ho, hcl, n, hd⟩ := hTup
    have hT2 := hk2 T o (W.apart i T h' hM) ho
    have new : ObjOk X.prog X.w (upd H T (.tup [x, y, z1])) h2 T (.tup [x, y, z1]) := ⟨by show 3 ≤ sizeLine; decide, [x1, y1, z2], .cons ru (.cons rv (.cons rq .nil)), ⟨_, hT2, hcl, n, hd⟩⟩
    have I1 : Inv X pins σ (upd H T (.tup [x, y, z1])) { s with heap := h2, toks := tk } := I.turnedNew (ch := [z, TI, TO, i1, i2, i3]) (fun c o hb q => hk2 c o (fun m => hb (sub6 m)) (hk c o (fun m => hb (sub6 m)) q)) hf hT new
    refine ⟨.ref T, _, I1, rfl, ⟨T, x, y, z1, rfl, I.hok.fresh hT, rfl, fun l hl => by rw [sqS_inj I hl qx]; exact hx, fun l hl => by rw [sqS_inj I hl qy]; exact hy, fun l hl => by rw [sqS_inj I hl qz]; exact hz⟩, ⟨st2.1, st2.2.1, st2.2.2.1, st2.2.2.2.1.1, st2.2.2.2.2.1.1, st2.2.2.2.2.2.1⟩, fun c hcm => ?_⟩
    rw [upd_ne (Nat.ne_of_lt (Nat.lt_of_lt_of_le (cells c hcm) hT))]
    exact (hf c hcm).1
  done := by
    intro X hP hw hK hc i pins s σ H E I hf st hg
    subst hP hw hK
    obtain ⟨xs, ys, zs, qx, qy, qz, hend⟩ := hg
    obtain ⟨us, rx, px, _⟩ := sqS_heap I qx
    obtain ⟨vs, ry, py, _⟩ := sqS_heap I qy
    obtain ⟨ws, rz, pz, _⟩ := sqS_heap I qz
    have hh : X.A.in1.handled = none := I.ok.hd hc
    obtain ⟨n1, P1, S1, D1, k1, g1, e1⟩ := drawsAt (prog := X.prog) (w := X.w) hh b1 i1 a ai us.toArray i st.2.2.2.1 px
    obtain ⟨n2, P2, S2, D2, k2, g2, e2⟩ := drawsAt (prog := X.prog) (w := X.w) hh b2 i2 b bi vs.toArray i st.2.2.2.2.1 py
    obtain ⟨n3, P3, S3, D3, k3, g3, e3⟩ := drawsAt (prog := X.prog) (w := X.w) hh b3 i3 c ci ws.toArray i st.2.2.2.2.2 pz
    have W := WalksT.zipD3 (prog := X.prog) (w := X.w) (A := X.A) S D1 D2 D3
    have l1 := rx.length
    have l2 := ry.length
    have l3 := rz.length
    have em : min (min n1 n2) n3 = i := by
      simp only [List.size_toArray] at e1 e2 e3
      rcases hend with q | q | q
      · have := e1 (by omega)
        omega
      · have := e2 (by omega)
        omega
      · have := e3 (by omega)
        omega
    refine W.done s _ _ ⟨st.1, st.2.1, st.2.2.1, k1 _ em, k2 _ em, k3 _ em⟩ fun h' tk hk => ⟨rfl, I.turnedL (ch := [z, TI, TO, i1, i2, i3]) (fun c o hb q => hk c o (fun m => hb (sub6 m)) q) hf⟩
  self := fun A i s Q E st h => wpAny_pyIter_zip st.1 h
def iZip3 (K : PySem.W.Frag) (ta : TA) : TI := fun σ H R => ta σ H fun vs H1 => ∃ b1 a b2 b b3 c xs ys zs, vs = [.ref a, .ref b, .ref c] ∧ SqS K b1 H1 a xs ∧ SqS K b2 H1 b ys ∧ SqS K b3 H1 c zs ∧ R (Itz3 K b1 a b2 b b3 c) H1
theorem pi_zip3 {X : Cx} {e e2 e3 : Expr} {ta : TA} {p pos tpos : Pos} {elts : List Expr} {kk : Nat} (hg : Gl X "zip") (hm : X.mg "zip" = none) (ha : PA X [e, e2, e3] ta)
    (hs : starEach [e, e2, e3] X.env = (false, eval e X.env) :: starEach [e2, e3] X.env := by rfl) (hpl : (backTo pos (starEach [e2, e3] X.env)).any (·.1) = false := by rfl) :
    PI X (.Tuple elts kk tpos) (.Call (.Name "zip" p) [e, e2, e3] [] pos) (iZip3 X.K ta) := by
  refine ⟨fun pins s σ H R I h => ?_⟩
  refine Call_ (ld_blt I hg hm PyProof.Rows.boot_zip (PyProof.Rows.callWith_type1 (thn (ha.run pos pins s σ H _ I h) fun us s1 q0 => ?_) hs hpl))
  obtain ⟨vs, H1, I1, r1, b1, a, b2, b, b3, c, xs, ys, zs, rfl, qx, qy, qz, q⟩ := q0
  cases r1 with
  | cons r rr =>
    cases rr with
    | cons r' rr =>
      cases rr with
      | cons r'' rr =>
        cases rr
        cases r
        cases r'
        cases r''
        obtain ⟨ix, rx, px, o1, ho1⟩ := sqS_heap I1 qx
        obtain ⟨iy, ry, py, o2, ho2⟩ := sqS_heap I1 qy
        obtain ⟨iz, rz, pz, o3, ho3⟩ := sqS_heap I1 qz
        have la := Heap.lt_size ho1
        have lb := Heap.lt_size ho2
        have lc := Heap.lt_size ho3
        have sep := zip_sep3 (N := s1.heap.objs.size) (fp1 := [a]) (fp2 := [b]) (fp3 := [c]) (fun c hc => by rw [List.mem_singleton.mp hc]; exact la) (fun c hc => by rw [List.mem_singleton.mp hc]; exact lb) (fun d hc => by rw [List.mem_singleton.mp hc]; exact lc)
        refine zip_begins3 (beginsS b1 a ix.toArray) (beginsS b2 b iy.toArray) (beginsS b3 c iz.toArray) px py pz fun h' hz hTI hTO h1 h2 h3 hsz hk => wpAny_pyIter_zip hz ?_
        have I2 : Inv X pins σ H1 { s1 with heap := h' } := I1.kept (t' := s1.toks) hk
        have fresh : ∀ k, FpOk X pins H1 (s1.heap.objs.size + k) := fun k => I1.fpOk (Nat.le_add_right _ _) (I1.hok.fresh (Nat.le_add_right _ _))
        refine ⟨_, _, _, _, H1, rfl, I2, turn_zip3 sep (Nat.ne_of_lt la) (Nat.ne_of_lt (Nat.lt_succ_of_lt lb)) (Nat.ne_of_lt (Nat.lt_succ_of_lt (Nat.lt_succ_of_lt lc))), ⟨hz, hTI, ⟨_, _, _, hTO⟩, itAt_begins h1, itAt_begins h2, itAt_begins h3⟩, fun c hcm => ?_, q⟩
        simp only [List.mem_cons, List.not_mem_nil, or_false] at hcm
        rcases hcm with rfl | rfl | rfl | rfl | rfl | rfl
        · exact fresh 5
        · exact fresh 3
        · exact fresh 4
        · exact fresh 0
        · exact fresh 1
        · exact fresh 2
/-! data -/
def zip3D : List D → List D → List D → List D
  | a :: as, b :: bs, c :: cs => .tup [a, b, c] :: zip3D as bs cs
  | _, _, _ => []
theorem zip3D_get : ∀ {as bs cs : List D} {i : Nat} {d : D}, (zip3D as bs cs)[i]? = some d → ∃ x y z, as[i]? = some x ∧ bs[i]? = some y ∧ cs[i]? = some z ∧ d = .tup [x, y, z]
  | [], _, _, i, d, h => by simp [zip3D] at h
  | _ :: _, [], _, i, d, h => by simp [zip3D] at h
  | _ :: _, _ :: _, [], i, d, h => by simp [zip3D] at h
  | a :: as, b :: bs, c :: cs, 0, d, h => ⟨a, b, c, rfl, rfl, rfl, (Option.some.inj h).symm⟩
  | a :: as, b :: bs, c :: cs, i + 1, d, h => zip3D_get (as := as) (bs := bs) (cs := cs) (i := i) h
theorem zip3D_len : ∀ (as bs cs : List D), (zip3D as bs cs).length = min as.length (min bs.length cs.length)
  | [], _, _ => by simp [zip3D]
  | _ :: _, [], _ => by simp [zip3D]
  | _ :: _, _ :: _, [] => by simp [zip3D]
  | a :: as, b :: bs, c :: cs => by
    show (zip3D as bs cs).length + 1 = _
    rw [zip3D_len as bs cs]
    simp only [List.length_cons]
    omega
theorem zip3D_map {α β γ : Type} (f : α → D) (g : β → D) (h : γ → D) : ∀ (xs : List α) (ys : List β) (zs : List γ), zip3D (xs.map f) (ys.map g) (zs.map h) = (xs.zip (ys.zip zs)).map fun p => D.tup [f p.1, g p.2.1, h p.2.2]
  | [], _, _ => rfl
  | _ :: _, [], _ => rfl
  | _ :: _, _ :: _, [] => rfl
  | a :: as, b :: bs, c :: cs => by
    show _ :: zip3D (as.map f) (bs.map g) (cs.map h) = _
    rw [zip3D_map f g h as bs cs]
    rfl
theorem itis_z3 {K : PySem.W.Frag} {F : Hp} {b1 b2 b3 : Bool} {p q r : Addr} {as bs cs : List D} {G1 G2 G3 : Led} (h1 : SsAt K F b1 p as G1) (h2 : SsAt K F b2 q bs G2) (h3 : SsAt K F b3 r cs G3) : ItIs K F (Itz3 K b1 p b2 q b3 r) (zip3D as bs cs) (G1 ++ (G2 ++ G3)) := fun H F' L s o g i => by
  obtain ⟨xs, a1, a2⟩ := h1 H F' L s o g.appL.1
  obtain ⟨ys, b1, b2⟩ := h2 H F' L s o g.appL.2.appL.1
  obtain ⟨zs, c1, c2⟩ := h3 H F' L s o g.appL.2.appL.2
  refine ⟨fun hl => ⟨xs, ys, zs, a1, b1, c1, ?_⟩, fun d hd => ?_⟩
  · rw [zip3D_len] at hl
    rw [a2.length, b2.length, c2.length]
    omega
  · obtain ⟨x, y, z, hx, hy, hz, rfl⟩ := zip3D_get hd
    obtain ⟨u, u1, u2⟩ := a2.get hx
    obtain ⟨v, v1, v2⟩ := b2.get hy
    obtain ⟨w, w1, w2⟩ := c2.get hz
    refine ⟨⟨xs, ys, zs, u, v, w, a1, b1, c1, u1, v1, w1⟩, fun z H' ⟨T, x', y', z', e, hT, eH, k1, k2, k3⟩ => ?_⟩
    subst e eH
    have := k1 xs a1
    rw [u1] at this
    cases this
    have := k2 ys b1
    rw [v1] at this
    cases this
    have := k3 zs c1
    rw [w1] at this
    cases this
    obtain ⟨s2, o2⟩ := o.froze (o := .tup [u, v, w]) hT
    exact ⟨_, s2, o2, .tup (SqT.of upd_same) (.cons (u2.mono s2) (.cons (v2.mono s2) (.cons (w2.mono s2) .nil)))⟩
/-- zip(x, y, z): each a list or a tuple -/
theorem pdi_zip3 {X : Cx} {e e2 e3 : Expr} {ρ : Rho} {L : Led} {R : RK1} {pos : Pos} {elts : List Expr} {kk : Nat} {tpos p : Pos} {P : List D → Led → Led → Prop} (hm : X.mg "zip" = none) (h : PDA X [e, e2, e3] ρ L (fun ds L1 => ∃ d1 d2 d3 as bs cs G1 G2 G3, ds = [d1, d2, d3] ∧ Gl3 L1 d1 as G1 ∧ Gl3 L1 d2 bs G2 ∧ Gl3 L1 d3 cs G3 ∧ P (zip3D as bs cs) (G1 ++ (G2 ++ G3)) L1) R) (hg : Gl X "zip" := by rfl)
    (hs : starEach [e, e2, e3] X.env = (false, eval e X.env) :: starEach [e2, e3] X.env := by rfl) (hpl : (backTo pos (starEach [e2, e3] X.env)).any (·.1) = false := by rfl) : PDI X (.Tuple elts kk tpos) (.Call (.Name "zip" p) [e, e2, e3] [] pos) ρ L P R :=
  pdi_of (pi_zip3 hg hm pa_w hs hpl) fun σ H F W A => h.step A fun vs H1 F1 ds L1 s1 A1 iv ⟨d1, d2, d3, as, bs, cs, G1, G2, G3, ed, g1, g2, g3, q⟩ => by
    subst ed
    obtain ⟨v, w, u, rfl, i, j, k⟩ := isl3 iv
    obtain ⟨b1, p, xs, rfl, hx, l1⟩ := g1.at A1.own i
    obtain ⟨b2, r, ys, rfl, hy, l2⟩ := g2.at A1.own j
    obtain ⟨b3, t, zs, rfl, hz, l3⟩ := g3.at A1.own k
    exact ⟨b1, p, b2, r, b3, t, xs, ys, zs, rfl, hx, hy, hz, F1, _, _, L1, s1, A1.own, itis_z3 l1 l2 l3, q⟩
end D2
end
section
set_option Elab.async false
set_option linter.all false
set_option maxRecDepth 100000
set_option maxHeartbeats 8000000
namespace K05
open PySem L2 D2
open PySem.Spec hiding Row
theorem tup_ints (a b : List Int) : decide (W.Tup.mk a = W.Tup.mk b) = decide (a = b) := by
  by_cases e : a = b
  · rw [e]
    simp
  · rw [decide_eq_false e, decide_eq_false fun z => e (by injection z)]
def intD : D → Int
  | .sc (.int i) => i
  | _ => 0
theorem row_ints {m b : Option Int} {xs : List D} (h : rowOk m b xs = true) : xs = (xs.map intD).map D.int := by
  unfold rowOk at h
  have h := (Bool.and_eq_true_iff.mp h).2
  rw [List.map_map]
  refine (List.map_id' xs).symm.trans (List.map_congr_left fun d hd => ?_)
  have c := List.all_eq_true.mp h d hd
  cases d with
  | sc v =>
    cases v with
    | int i => rfl
    | _ => cases c
  | _ => cases c
theorem total_nn : ∀ kss : List (List Row), 0 ≤ total kss
  | [] => by simp [total]
  | ks :: kss => by
    have := total_nn kss
    unfold total at this ⊢
    rw [List.map_cons, List.sum_cons]
    omega
structure WOk4 (lens : List Int) (m : Nat) (kss : List (List Row)) : Prop where
  m1 : 1 ≤ m
  m2 : m ≤ 600
  few : lens.length ≤ 80
  h8 : ∀ n ∈ lens, 1 ≤ n ∧ n ≤ 8
  ok : Paired (fun n ks => okRows n (m : Int) ks) lens kss
  tot : total kss ≤ 1000
theorem paired_at4 {lens : List Int} {m : Int} : ∀ {lens : List Int} {kss : List (List Row)}, Paired (fun n ks => okRows n m ks) lens kss → (∀ n ∈ lens, 1 ≤ n ∧ n ≤ 8) → ∀ ks ∈ kss, ∀ k ∈ ks, k ≠ [] ∧ k.length ≤ 8 ∧ ∀ c ∈ k, 0 ≤ c ∧ c < m
  | _, _, .nil, _, ks, h, _, _ => nomatch h
  | n :: _, _, .cons r t, h8, ks, h, k, hk => by
    rcases List.mem_cons.mp h with z | z
    · rw [z] at hk
      obtain ⟨a, b⟩ := r k hk
      have := h8 n List.mem_cons_self
      exact ⟨(fun e => by rw [e] at a; simp at a; omega), by omega, b⟩
    · exact paired_at4 (lens := []) t (fun n hn => h8 n (List.mem_cons_of_mem _ hn)) ks z k hk
theorem WOk4.rows {lens : List Int} {m : Nat} {kss : List (List Row)} (h : WOk4 lens m kss) : ∀ ks ∈ kss, ∀ k ∈ ks, k ≠ [] ∧ k.length ≤ 8 ∧ ∀ c ∈ k, 0 ≤ c ∧ c < (m : Int) := paired_at4 (lens := []) h.ok h.h8
theorem WOk4.fewR {lens : List Int} {m : Nat} {kss : List (List Row)} (h : WOk4 lens m kss) : ∀ ks ∈ kss, ks.length ≤ 1000 := fun ks hk => by
  have e (z : List Row) (l : List (List Row)) : total (z :: l) = (z.length : Int) + total l := by simp [total]
  have go : ∀ l : List (List Row), ∀ z ∈ l, (z.length : Int) ≤ total l := fun l => by
    induction l with
    | nil => exact fun z h => nomatch h
    | cons x l ih =>
      intro z hz
      rw [e]
      have := total_nn l
      rcases List.mem_cons.mp hz with q | q
      · rw [q]; omega
      · have := ih z q; omega
  have := go kss ks hk
  have := h.tot
  omega
def partT (ks : List Row) : D := .lst (ks.map rowD)
def Fresh (m top : Int) (len : Int) (ks : List Row) : Prop := okRows len m ks ∧ asc ks = ks ∧ (ks.length : Int) ≤ top
theorem Fresh.all {m top : Int} {lens : List Int} {kss : List (List Row)} (h : Paired (Fresh m top) lens kss) : Paired (fun n ks => okRows n m ks) lens kss ∧ kss.map asc = kss ∧ ∀ ks ∈ kss, (ks.length : Int) ≤ top := by
  induction h with
  | nil => exact ⟨.nil, rfl, fun _ h => nomatch h⟩
  | cons r t ih =>
    refine ⟨.cons r.1 ih.1, by rw [List.map_cons, r.2.1, ih.2.1], fun ks hk => ?_⟩
    rcases List.mem_cons.mp hk with z | z
    · rw [z]; exact r.2.2
    · exact ih.2.2 ks z
/-- what is known of a drawn plain world -/
structure PW (lens : List Int) (m : Nat) (kss : List (List Row)) : Prop where
  wo : WOk4 lens m kss
  as : kss.map asc = kss
theorem PW.of {lens : List Int} {m : Nat} {top : Int} {kss : List (List Row)} (h : Paired (Fresh (m : Int) top) lens kss) (m1 : 1 ≤ m) (m2 : m ≤ 600) (few : lens.length ≤ 10) (h8 : ∀ n ∈ lens, 1 ≤ n ∧ n ≤ 8) (t0 : 0 ≤ top) (t1 : top ≤ 100) : PW lens m kss := by
  obtain ⟨ok, as, fw⟩ := Fresh.all h
  have kl := paired_len ok
  have tl := total_le fw
  have tt : top * (kss.length : Int) ≤ 100 * 10 := Int.mul_le_mul t1 (by omega) (by omega) (by omega)
  exact ⟨⟨m1, m2, by omega, h8, ok, by omega⟩, as⟩
def partL (ks : List Row) : D := .lst (ks.map rowL)
theorem ptL {L : Led} (l : List (List Row)) : Paired (PtK L) (l.map partL) l := ptk_map (fun ks => ⟨ks.map rowL, .lst _, rsk_map (fun k => .lst _) ks⟩) l
theorem ptTT {L : Led} (l : List (List Row)) : Paired (PtK L) (l.map partT) l := ptk_map (fun ks => ⟨ks.map rowD, .lst _, rsk_map (fun k => .tup _) ks⟩) l
end K05
end
section
set_option Elab.async false
set_option linter.all false
set_option maxRecDepth 100000
set_option maxHeartbeats 3200000
/-! set(xs) of a list of ints; len of a set of ints -/
namespace L2
open PySem PySem.Spec PyProof.Rows
section
variable {P : Program} {w : World} {A : Around} {E : Value → Shared → Prop} {s : Shared}
/-- a set that holds nothing yet -/
abbrev newSet (w : World) : Obj := { cls := .type "set", dict := none, data := .set #[] 0 (.fresh 0 0 (!w.params.followText "set-order")) }
theorem set_of_ints {l : Addr} {items : Array Value} (ns : List Int) {Q : Value → Shared → Prop} (calm : A.handled = none) (isl : s.heap.IsList l items) (hin : IntsAre items.toList ns) (room : ns.length + 1 < scanBound)
    (q : ∀ (g : Heap) (u c : Nat), SetR w g s.heap.objs.size (fun j => decide (j ∈ ns)) c → (∀ b o, s.heap.get? b = some o → g.get? b = some o) → Q (.ref s.heap.objs.size) { s with heap := g, toks := u }) : wpAny (model P w) A (call (.type "set") [.ref l]) Q E s := by
  have size : items.size = ns.length := (Array.length_toList (xs := items)).symm.trans (IntsAre.length hin)
  obtain ⟨mc, mt, mro⟩ := F.called_set.mro
  have made := F.called_set.made; have sub := F.called_set.sub
  apply wpAny_call; apply codeAny_of_tree
  show wpAny _ _ (callAny (.type "set") _) _ _ _; refine wpAny_pure ⟨Code.quiet_builtin _ (by decide +kernel), ?_⟩
  refine codeAny_builtin F.entry_type_call ?_; rw [Around.under_plain (weight_type_call_type "set" [.ref l] []) rfl]
  have notType := F.called_set.notType; have creates := F.called_set.canCreate; have typeCall := F.typeCall_set_1 (.ref l)
  repeat any_goals first | assumption | wp_step
  have fresh : (s.heap.push (newSet w)).get? s.heap.objs.size = some (newSet w) := Heap.get?_push_size _ rfl
  refine codeAny_mono (code_set_led1 (.ref l) (E := E) (Q₁ := fun v s₁ => v = .ref s.heap.objs.size ∧ s₁ = { s with heap := s.heap.push (newSet w) }) ⟨rfl, rfl⟩) fun r s₁ hr => ?_
  cases r with
  | error e => exact hr
  | ok fl =>
    cases fl with
    | next => exact hr.elim
    | brk => exact hr.elim
    | cont => exact hr.elim
    | ret v =>
      obtain ⟨rfl, rfl⟩ := hr
      have typed : Shared.TypeIs { s with heap := s.heap.push (newSet w) } (.ref s.heap.objs.size) "set" := ⟨_, fresh, rfl⟩
      have initL := F.called_set.init.lookup; have initB := F.called_set.init.bind (.ref s.heap.objs.size)
      repeat any_goals first | assumption | wp_step
      refine codeAny_mono (codeAny_call_builtin (R := wants (fun v s₂ => v = .none ∧ ∃ g u c, s₂ = { s with heap := g, toks := u } ∧ SetR w g s.heap.objs.size (fun j => decide (j ∈ ns)) c ∧ ∀ b o, s.heap.get? b = some o → g.get? b = some o) E) F.called_set.init.plain F.entry_set_init (check_set_init_1 typed ?_)) fun r₂ s₂ hr₂ => ?_
      · obtain ⟨⟨oc, od, odt, osl⟩, hol, hcl, nl, hdl⟩ := isl
        simp only at hcl hdl
        subst hcl hdl
        have kept : (s.heap.push (newSet w)).get? l = some { cls := .type "list", dict := od, data := .seq items nl, slots := osl } := Heap.get?_push_of_some _ hol
        have sub1 := F.sub_list_set; have sub2 := F.sub_list_frozenset
        have noDict : (Value.type "list" == Value.type "dict") = false := by decide
        have isl1 : (s.heap.push (newSet w)).IsList l items := ⟨_, kept, rfl, nl, rfl⟩
        unfold Builtin.«set.__init__» noKeywords Builtin.Frozenset.updateFrom
        generalize hit : pyIter = it
        wp_walk
        subst hit
        refine wpAny_pyIter_list isl1 (wpAny_bind (wpAny_runValue ?_))
        have lS : l < s.heap.objs.size := Heap.lt_size hol
        have calm3 : A.in1.in1.in1.handled = none := by simp [calm]
        have sz : (s.heap.push (newSet w)).objs.size = s.heap.objs.size + 1 := Heap.size_push ..
        have neI : l ≠ (s.heap.push (newSet w)).objs.size := by rw [sz]; exact Nat.ne_of_lt (Nat.lt_succ_of_lt lS)
        have out : s.heap.objs.size ∉ [(s.heap.push (newSet w)).objs.size, l] := by
          rw [sz]; simp only [List.mem_cons, List.not_mem_nil, or_false, not_or]
          exact And.intro (Nat.ne_of_lt (Nat.lt_succ_self _)) (Nat.ne_of_gt lS)
        have vals : ∀ (i : Nat) (v : Value), items[i]? = some v → ∃ k t, ns[i]? = some k ∧ v = .int k t := fun i v hv => by
          have hi : i < ns.length := size ▸ (Array.getElem?_eq_some_iff.mp hv).1
          obtain ⟨t, e⟩ := IntsAre.int_at hin i v ((Array.getElem?_toList ..).trans hv)
          exact ⟨ns[i], t, List.getElem?_eq_getElem hi, by rw [e, List.getD_eq_getElem?_getD, List.getElem?_eq_getElem hi]; rfl⟩
        refine set_update_ints ((Walks.list calm3 _ l neI items).toS) s.heap.objs.size out ns size room vals (items.size - 0) 0 _ (by omega) (Nat.zero_le _) ⟨⟨_, Heap.get?_push_size _ rfl, rfl, rfl⟩, isl1.push _⟩ ⟨0, Nat.le_refl 0, setR_new_at (Heap.get?_push_of_some _ fresh)⟩ fun s' c' hm _ hS => ?_
        obtain ⟨g, g2, d', u, os'⟩ := s'
        obtain rfl : g2 = s.gens := hm.gens
        obtain rfl : d' = s.drawn := hm.drawn
        obtain rfl : os' = s.os := hm.os
        show wpAny _ _ _ _ _ _; refine wpAny_pure ?_
        show wpAny _ _ (ret Value.none) _ _ _; refine wpAny_pure ⟨rfl, g, u, c', rfl, hS, fun b o e => ?_⟩
        have b0 := Heap.lt_size e
        refine hm.heap b o ?_ (Heap.get?_push_of_some _ (Heap.get?_push_of_some _ e))
        simp only [List.mem_cons, List.not_mem_nil, or_false, not_or]
        exact And.intro (Nat.ne_of_lt b0) (by rw [sz]; exact Nat.ne_of_lt (Nat.lt_succ_of_lt b0))
      · cases r₂ with
        | error e => exact hr₂
        | ok fl₂ =>
          cases fl₂ with
          | next => exact hr₂.elim
          | brk => exact hr₂.elim
          | cont => exact hr₂.elim
          | ret v =>
            obtain ⟨rfl, g, u, c', rfl, hS, hk⟩ := hr₂
            repeat any_goals first | assumption | wp_step
            exact q _ _ _ hS hk
end
end L2
namespace D2
open PySem L2
open PySem.Spec hiding Row
theorem card_ascI {ks ns : List Int} (nd : ks.Nodup) (h : ∀ k, k ∈ ks ↔ k ∈ ns) : ks.length = (ascI ns).length := by
  have nd2 : (ascI ns).Nodup := (ascI_asc ns).imp fun {a b} hab => by omega
  exact Nat.le_antisymm (nodup_le nd fun x hx => (ascI_mem ns x).mpr ((h x).mp hx)) (nodup_le nd2 fun x hx => (h x).mpr ((ascI_mem ns x).mp hx))
theorem ascI_nd (ns : List Int) : (ascI ns).Nodup := (ascI_asc ns).imp fun {a b} hab => by omega
theorem ascI_full : ∀ ns : List Int, ns.length ≤ (ascI ns).length → ns.Nodup
  | [], _ => List.nodup_nil
  | k :: r, h => by
    have h : r.length + 1 ≤ (ascI (k :: r)).length := h
    by_cases hk : k ∈ r
    · have e : ascI (k :: r) = ascI r := ascI_one (ascI_asc _) (ascI_asc _) fun x => by
        rw [ascI_mem, ascI_mem, List.mem_cons]
        exact ⟨fun z => z.elim (fun e => e ▸ hk) id, .inr⟩
      rw [e] at h
      have := ascI_le r
      omega
    · have hc : (ascI (k :: r)).length ≤ (k :: ascI r).length := nodup_le (ascI_nd _) fun x hx => by
        rw [ascI_mem, List.mem_cons] at hx
        rw [List.mem_cons, ascI_mem]
        exact hx
      have hc : (ascI (k :: r)).length ≤ (ascI r).length + 1 := hc
      exact List.nodup_cons.mpr ⟨hk, ascI_full r (by omega)⟩
/-- the distinct ones are as many exactly if none comes twice -/
theorem ascI_len {ns : List Int} : (ascI ns).length = ns.length ↔ ns.Nodup := ⟨fun h => ascI_full ns (by omega), fun h => (card_ascI h fun k => Iff.rfl).symm⟩
section
variable {X : Cx} {L : Led} {P : PK1}
/-- set(xs) of a list of ints -/
theorem cd_setIL (hc : X.calm = true) {d : D} {ns : List Int} (hv : Vw L d (ns.map D.int)) (hb : ns.length + 1 < scanBound) (h : ∀ p, P (.ref p) ((p, setI X.w p ns) :: L)) : CallD X (.type "set") [d] L P := fun pins s σ H F xs us o ix I r => by
  obtain ⟨v, rfl, i⟩ := isl1 ix
  obtain ⟨u, rfl, ru⟩ := vals1 r
  obtain ⟨a, ys, rfl, hq, hx⟩ := hv.get o i
  cases hx.ints_inv
  cases (show u = Value.ref _ from ru)
  obtain ⟨its, rv, pl, _⟩ := I.list hq
  refine set_of_ints ns (I.ok.hd hc) pl.isList (by simpa using ints_of_vals rv) hb fun g tk c R hk => ?_
  have I1 := I.laid (t' := tk) (o := SetO X.w s.heap.objs.size (fun j => decide (j ∈ ns)) c) hk (Nat.le_refl _) (setO_new (P := X.prog) (H := upd H s.heap.objs.size (SetO X.w s.heap.objs.size (fun j => decide (j ∈ ns)) c)) R)
  have cn : c ≤ ns.length := by
    obtain ⟨o', es, ep, t, _, _, _, _, nd, keys, _, _, sz, _, _⟩ := R
    have := card_ascI (ns := ns) nd fun k => by
      rw [← keys k, decide_eq_true_eq]
    rw [List.length_map, Array.length_toList] at this
    have := ascI_le ns
    omega
  exact ⟨.ref s.heap.objs.size, _, I1, rfl, F, _, _, Same.refl _, o.push (I.hok.fresh (Nat.le_refl _)) (x := setI X.w s.heap.objs.size ns) ⟨c, rfl, cn⟩, .sc _, h _⟩
/-- len of it -/
theorem cd_lenI {p : Addr} {ns : List Int} (hm : (p, setI X.w p ns) ∈ L) (h63 : ns.length < 2 ^ 62) (h : P (.int (ascI ns).length) L) : CallD X (.builtin "len") [.ref p] L P := fun pins s σ H F xs us o ix I r => by
  obtain ⟨v, rfl, i⟩ := isl1 ix
  obtain ⟨u, rfl, ru⟩ := vals1 r
  cases i
  cases (show u = Value.ref _ from ru)
  obtain ⟨_, ob, h1, n, e, hn⟩ := o.cell _ hm
  subst e
  obtain ⟨ob, es, ep, t, ho, hex, hd, _, nd, keys, _, hf, sz, _, _⟩ := setO_get I h1
  have cd := card_ascI (ns := ns) nd fun k => by
    rw [← keys k, decide_eq_true_eq]
  rw [List.length_map, Array.length_toList] at cd
  exact call_len_set ho hex hd hf (by omega) ⟨.int (ascI ns).length, H, I.tok _, ⟨_, by rw [cd]⟩, upV.here o (.sc _) h⟩
end
end D2
end
section
set_option Elab.async false
set_option linter.all false
set_option maxRecDepth 100000
set_option maxHeartbeats 8000000
namespace K05
open PySem L2 D2
open PySem.Spec hiding Row
abbrev s_moved : Stmt := top 21
abbrev s_renamed : Stmt := top 22
abbrev s_is_two_way : Stmt := top 24
/-- all rows, each place x called r[x] -/
def movedR (r : Row) (kss : List (List Row)) : List (List Row) := kss.map fun ks => ks.map fun k => k.map fun x => r.getD x.toNat 0
theorem movedR_len (r : Row) (kss : List (List Row)) : (movedR r kss).length = kss.length := by
  unfold movedR
  rw [List.length_map]
theorem moved_ok {m : Int} {r : Row} (hr : (r.length : Int) = m) (hc : ∀ c ∈ r, 0 ≤ c ∧ c < m) : ∀ {lens : List Int} {kss : List (List Row)}, Paired (fun n ks => okRows n m ks) lens kss → Paired (fun n ks => okRows n m ks) lens (movedR r kss)
  | _, _, .nil => .nil
  | n :: _, ks :: _, .cons q t => by
    refine .cons (fun k hk => ?_) (moved_ok hr hc t)
    obtain ⟨k0, hk0, rfl⟩ := List.mem_map.mp hk
    obtain ⟨q1, q2⟩ := q k0 hk0
    refine ⟨by rw [List.length_map]; exact q1, fun c hc2 => ?_⟩
    obtain ⟨x, hx, rfl⟩ := List.mem_map.mp hc2
    obtain ⟨x0, x1⟩ := q2 x hx
    rw [List.getD_eq_getElem?_getD, List.getElem?_eq_getElem (by omega)]
    exact hc _ (List.getElem_mem _)
theorem moved_few {r : Row} {n : Nat} {kss : List (List Row)} (h : ∀ ks ∈ kss, ks.length ≤ n) : ∀ ks ∈ movedR r kss, ks.length ≤ n := fun ks hk => by
  obtain ⟨k0, hk0, rfl⟩ := List.mem_map.mp hk
  rw [List.length_map]
  exact h k0 hk0
theorem total_map {f : List Row → List Row} (hf : ∀ ks, (f ks).length ≤ ks.length) : ∀ kss : List (List Row), total (kss.map f) ≤ total kss
  | [] => Int.le_refl _
  | ks :: kss => by
    have e (z : List Row) (l : List (List Row)) : total (z :: l) = (z.length : Int) + total l := by simp [total]
    rw [List.map_cons, e, e]
    have := hf ks
    have := total_map hf kss
    omega
theorem moved_tot (r : Row) (kss : List (List Row)) : total ((movedR r kss).map asc) ≤ total kss := by
  unfold movedR
  rw [List.map_map]
  exact total_map (fun ks => by
    show (asc (ks.map _)).length ≤ _
    have := asc_le (ks.map fun k => k.map fun x => r.getD x.toNat 0)
    rw [List.length_map] at this
    exact this) kss
theorem moved_world {lens : List Int} {m : Nat} {kss : List (List Row)} {r : Row} (wo : WOk4 lens m kss) (hr : r.length = m) (hc : ∀ c ∈ r, 0 ≤ c ∧ c < (m : Int)) : WOk4 lens m ((movedR r kss).map asc) := by
  have tt := moved_tot r kss
  have := wo.tot
  exact ⟨wo.m1, wo.m2, wo.few, wo.h8, ok_asc (moved_ok (by omega) hc wo.ok), by omega⟩
/-- a row of all places, told as a value -/
def permB (m : Nat) (o : Option (List D)) : Bool := onSeq o fun xs => rowOk (some (m : Int)) (some (m : Int)) xs && decide ((xs.map intD).Nodup)
def twoB (lens : List Int) (m : Nat) (kss : List (List Row)) (lens2 : List Int) (M : Nat) (mss : List (List Row)) (o : Option (List D)) : Bool :=
  decide (lens = lens2) && decide (m = M) && permB m o && decide (((movedR (((o.getD []).map intD)) kss).map srt) = mss)
theorem permB_row {m : Nat} {xs : List D} (h : rowOk (some (m : Int)) (some (m : Int)) xs = true) : xs = (xs.map intD).map D.int ∧ (xs.map intD).length = m ∧ ∀ c ∈ xs.map intD, 0 ≤ c ∧ c < (m : Int) := by
  have e := row_ints h
  rw [e] at h
  have h2 := row_ok.mp h
  exact ⟨e, by have := h2.1; omega, h2.2⟩
theorem onSeq_some {o : Option (List D)} {g : List D → Bool} (h : onSeq o g = true) : ∃ xs, o = some xs ∧ g xs = true := by
  cases o with
  | none => cases h
  | some xs => exact ⟨xs, rfl, h⟩
theorem permB_not (m : Nat) (o : Option (List D)) : ((!onSeq o (rowOk (some (m : Int)) (some (m : Int)))) || !decide ((((o.getD []).map intD)).Nodup)) = !permB m o := by
  cases o with
  | none => rfl
  | some xs =>
    show ((!rowOk _ _ xs) || !decide ((xs.map intD).Nodup)) = !(rowOk _ _ xs && decide ((xs.map intD).Nodup))
    rw [Bool.not_and]
theorem permB_of {m : Nat} {o : Option (List D)} (h : permB m o = true) : ∃ xs, o = some xs ∧ rowOk (some (m : Int)) (some (m : Int)) xs = true ∧ (xs.map intD).Nodup := by
  obtain ⟨xs, rfl, h⟩ := onSeq_some h
  obtain ⟨h1, h2⟩ := Bool.and_eq_true_iff.mp h
  exact ⟨xs, rfl, h1, of_decide_eq_true h2⟩
section
variable {P : Program} {w : World} {K : PySem.W.Frag} {mg : Str → Option Value} {base : Heap}
/-! ### moved -/
def tMoved : Ct := fun ds L P R => ∃ (kss : List (List Row)) (d : D) (r : Row), ds = [partsD kss, d] ∧ Sq L d (r.map D.int) ∧ kss.length ≤ 80 ∧ (∀ ks ∈ kss, ks.length ≤ 1000 ∧ ∀ k ∈ ks, k.length ≤ 8 ∧ ∀ c ∈ k, 0 ≤ c ∧ c < (r.length : Int)) ∧ P (.lst ((movedR r kss).map fun ks => .lst (ks.map rowD))) L
abbrev NMV : List Str := ["rows", "names", "part", "row", "place"]
theorem sc_moved : FnScope NMV ["rows", "names"] (defScope s_moved) := ⟨rfl, rfl, rfl, by decide +kernel, rfl, by decide +kernel, by decide +kernel⟩
theorem ok_moved {f : Addr} {fd : FuncData} (F : Fun K "moved" "moved" s_moved f fd) (T : Txt0 K mg) : FnOk P w K mg base (L2.CX P w) 1 f fd ["rows", "names"] (spD K tMoved) := by
  refine fn_okD F sc_moved (fun ds L P R ⟨_, _, _, e, _⟩ => by rw [e]; rfl) fun cdv A outer s H E ds L P1 R hr ⟨kss, d, r, e, sq, k80, okr, h⟩ => ?_
  subst e
  refine pdb_cons <| pds_ret ?_
  refine pd_lc1 (i := 2) rfl sc_moved.nd (blkOk_by (N := NMV) (sc := defScope s_moved) (by decide +kernel)) (fun _ _ _ _ _ => pg_name (i := 2) sc_moved.nd rfl (Or.inl rfl)) ?_
  refine pdi_tup <| pd_name (i := 0) rfl rfl ⟨_, rfl, List Row, kss, fun ks => .tup (ks.map rowD), fun ks => .lst ((ks.map fun k => k.map fun x => r.getD x.toNat 0).map rowD), rfl, SubL.nil, by rw [sizeLine_eq]; omega, ?_, ?_⟩
  · rintro ks hks Y q acc ⟨s0, H0, C0, cl0, fp0, rfl⟩
    obtain ⟨k1000, hk⟩ := okr ks hks
    refine pd_lc1 (i := 3) rfl sc_moved.nd (blk_in (N := NMV) (sf := defScope s_moved) rfl (by decide +kernel)) (fun _ _ _ _ _ => pg_name (i := 3) sc_moved.nd rfl (Or.inl rfl)) ?_
    refine pdi_tup <| pd_name (i := 2) rfl rfl ⟨_, rfl, Row, ks, rowD, fun k => rowD (k.map fun x => r.getD x.toNat 0), rfl, SubL.nil, by rw [sizeLine_eq]; omega, ?_, ?_⟩
    · rintro k hkk Y2 q2 acc2 ⟨s1, H1, C1, cl1, fp1, rfl⟩
      obtain ⟨k8, kb⟩ := hk k hkk
      refine pd_callTy T.tuple PyProof.Rows.Boot.«tuple» <| pda_cons ?_
      refine pd_lc1 (i := 4) rfl sc_moved.nd (blk_in (N := NMV) (sf := relS _ (defScope s_moved)) rfl (by decide +kernel)) (fun _ _ _ _ _ => pg_name (i := 4) sc_moved.nd rfl (Or.inl rfl)) ?_
      refine pdi_tup <| pd_name (i := 3) rfl rfl ⟨_, rfl, Int, k, D.int, fun x => .int (r.getD x.toNat 0), rfl, SubL.nil, by rw [sizeLine_eq]; omega, ?_, ?_⟩
      · rintro x hx Y3 q3 acc3 ⟨s2, H2, C2, cl2, fp2, rfl⟩
        obtain ⟨v0, v1⟩ := kb x hx
        have e4 : (r.map D.int)[x.toNat]? = some (.int (r.getD x.toNat 0)) := by
          rw [List.getElem?_map, List.getD_eq_getElem?_getD, List.getElem?_eq_getElem (by omega)]
          rfl
        exact pd_ix <| pd_name (i := 1) rfl rfl <| pd_name (i := 4) rfl rfl <| ixd_seq (sq_sub (fun e he => List.mem_cons_of_mem _ (List.mem_cons_of_mem _ (List.mem_cons_of_mem _ he))) sq) (atI_some v0 e4) ⟨rfl, Lw.refl _⟩
      refine pda_nil <| cd_tuple (.lst _) ⟨?_, Lw.refl _⟩
      show _ = D.tup _
      rw [List.map_map]
      rfl
    refine ⟨?_, Lw.refl _⟩
    show _ = D.lst ((ks.map fun k => k.map fun x => r.getD x.toNat 0).map rowD)
    rw [List.map_map]
    rfl
  have e : (kss.map fun ks => D.lst ((ks.map fun k => k.map fun x => r.getD x.toNat 0).map rowD)) = (movedR r kss).map fun ks => .lst (ks.map rowD) := by
    unfold movedR
    rw [List.map_map]
    rfl
  rw [e]
  exact h
/-! ### renamed -/
theorem cd_setSq {X : Cx} {L : Led} {P1 : PK1} (hc : X.calm = true) {d : D} {ns : List Int} (hv : Sq L d (ns.map D.int)) (hb : ns.length + 1 < 4096) (h : ∀ p, P1 (.ref p) ((p, setI X.w p ns) :: L)) : CallD X (.type "set") [d] L P1 := by
  generalize e : ns.map D.int = ds at hv
  cases hv with
  | lst ds =>
    subst e
    exact cd_setIL hc (.lst _) hb h
  | fro ds =>
    subst e
    exact cd_setIL hc (.fro _) hb h
  | tup ds =>
    subst e
    exact cd_setT hc hb h
  | own hm =>
    subst e
    exact cd_setIL hc (.own hm) hb h
def tRenamed (C CW CB : Addr) : Ct := fun ds L P R => ∃ d1 d2, ds = [d1, d2] ∧ ((∃ n, Bt L d1 n ∧ R CW [("part", .str "world")] L) ∨ ∃ (lens : List Int) (m : Nat) (kss : List (List Row)) (o : Option (List D)), d1 = worldD C lens (m : Int) kss ∧ PW lens m kss ∧ Sd L d2 o ∧ (∀ xs, o = some xs → ∀ x ∈ xs, ∃ n, Bt L x n) ∧
  (permB m o = false → ∀ L', Lw L' L → R CB [("part", .str "names")] L') ∧ (permB m o = true → ∀ L', Lw L' L → P (worldD C lens (m : Int) ((movedR ((o.getD []).map intD) kss).map asc)) L'))
abbrev NRN : List Str := ["world", "names"]
theorem sc_renamed : FnScope NRN ["world", "names"] (defScope s_renamed) := ⟨rfl, rfl, rfl, by decide +kernel, rfl, by decide +kernel, by decide +kernel⟩
theorem ok_renamed {f C CW CN CM CB : Addr} {fd : FuncData} (F : Fun K "renamed" "renamed" s_renamed f fd) (T : Txt0 K mg) (TW : TxtW K C) (TI : TxtI K mg C) (hset : mg "set" = none) (EW : ExcD P w K mg base "BadWorld" CW ["part"]) (EB : ExcD P w K mg base "BadMap" CB ["part"]) (G3 : Fn P w K mg base "is_row" 2 ["value", "many", "below"] tIsRow) (GM : Fn P w K mg base "moved" 1 ["rows", "names"] tMoved) (IM : InitM P w K mg base C CW CN CM) : FnOk P w K mg base (L2.CX P w) 6 f fd ["world", "names"] (spD K (tRenamed C CW CB)) := by
  refine fn_okD F sc_renamed (fun ds L P R ⟨_, _, e, _⟩ => by rw [e]; rfl) fun cdv A0 outer s H E ds L P1 R hr ⟨d1, d2, e, q⟩ => ?_
  subst e
  have hu := hr.units
  rcases q with ⟨n, bt, r⟩ | ⟨lens, m, kss, o, rfl, pw, sd, hbt, no, yes⟩
  · refine pdb_cons (pds_ifB (t := true) (pdt_notB (t := false) (pdt_valB (pd_callB T.isinstance PyProof.Rows.Boot.«isinstance» (pda_cons (pd_name (i := 0) rfl rfl (pda_cons (pd_glob (v := .ref C) TI.gl rfl (pda_nil (cd_isiC bt.tg (.own C) (TI.no _ (bt_in bt)) ⟨rfl, rfl⟩))))))))) (fun _ => ?_) fun z => nomatch z)
    exact pdb_cons <| pds_raise (k := 3) rfl EW hr <| pda_cons <| pd_str <| pda_nil ⟨rfl, by decide, r⟩
  refine pdb_cons (pds_ifB (t := false) (pdt_notB (t := true) (pdt_valB (pd_callB T.isinstance PyProof.Rows.Boot.«isinstance» (pda_cons (pd_name (i := 0) rfl rfl (pda_cons (pd_glob (v := .ref C) TI.gl rfl (pda_nil (cd_isiC (.ins _ TI.ok) (.own C) TI.yes ⟨rfl, rfl⟩))))))))) (fun z => nomatch z) fun _ => pdb_nil ?_)
  have m6 := pw.wo.m2
  refine pdb_cons <| pds_ifB (t := !permB m o) ((pdt_orB (t := !onSeq o (rowOk (some (m : Int)) (some (m : Int)))) (u := !decide ((((o.getD []).map intD)).Nodup)) (pdt_notB <| pdt_valB <| pd_fn G3 hr (by decide) <| pda_cons <| pd_name (i := 1) rfl rfl <| pda_cons <| pd_fld <| pd_name (i := 0) rfl rfl ⟨C, _, _, rfl, TW.cl, TW.nm, look_m _ _ _, pda_cons <| pd_fld <| pd_name (i := 0) rfl rfl ⟨C, _, _, rfl, TW.cl, TW.nm, look_m _ _ _, pda_nil ⟨d2, o, some (m : Int), some (m : Int), rfl, sd, hbt, rfl, rfl⟩⟩⟩) fun ht => pdt_or1 <| pdt_shr <| pdt_cmp ?_).eqB (permB_not m o)) (fun ht => ?_) fun ht => ?_
  · obtain ⟨xs, rfl, hx⟩ := onSeq_some (by simpa using ht)
    obtain ⟨ex, lx, bx⟩ := permB_row hx
    have sq : Sq L d2 ((xs.map intD).map D.int) := by
      rw [← ex]
      cases sd with
      | seq h => exact h
    refine pd_callB T.len PySem.boot_len <| pda_cons <| pd_callTy hset PyProof.Rows.boot_set <| pda_cons <| pd_name (i := 1) rfl rfl <| pda_nil <| cd_setSq rfl sq (by omega) fun p => pda_nil <| cd_lenI List.mem_cons_self (by omega) <| pd_fld <| pd_name (i := 0) rfl rfl ⟨C, _, _, rfl, TW.cl, TW.nm, look_m _ _ _, od_neT hu (x := ((ascI (xs.map intD)).length : Int)) (y := (m : Int)) (.int _) (.int _) (by decide) ⟨_, rfl, L, Lw.tail.lc, ?_, rfl⟩⟩
    show (!decide (((ascI (xs.map intD)).length : Int) = (m : Int))) = !decide ((xs.map intD).Nodup)
    congr 1
    exact decide_eq_decide.mpr ⟨fun z => ascI_len.mp (by omega), fun z => by rw [ascI_len.mpr z]; omega⟩
  · exact pdb_cons <| pds_raise (k := 3) rfl EB hr <| pda_cons <| pd_str <| pda_nil ⟨rfl, by decide, no (by simpa using ht) _ (.refl _)⟩
  · have hy := permB_of (m := m) (o := o) (by simpa using ht)
    obtain ⟨xs, rfl, hx, nd⟩ := hy
    obtain ⟨ex, lx, bx⟩ := permB_row hx
    have sq : Sq L d2 ((xs.map intD).map D.int) := by
      rw [← ex]
      cases sd with
      | seq h => exact h
    obtain ⟨fI, fdI, gI, mI, bI⟩ := IM.ex
    have k80 : kss.length ≤ 80 := by have := paired_len pw.wo.ok; have := pw.wo.few; omega
    have mw := moved_world pw.wo lx bx
    refine pdb_nil <| pdb_cons <| pds_ret <| pd_shr <| pd_make mI gI hr IM.gl bI <| pda_cons <| pd_fld <| pd_name (i := 0) rfl rfl ⟨C, _, _, rfl, TW.cl, TW.nl, look_l _ _ _, pda_cons <| pd_fld <| pd_name (i := 0) rfl rfl ⟨C, _, _, rfl, TW.cl, TW.nm, look_m _ _ _, pda_cons <| pd_fn GM hr (by decide) <| pda_cons <| pd_fld <| pd_name (i := 0) rfl rfl ⟨C, _, _, rfl, TW.cl, TW.nr, look_r _ _ _, pda_cons <| pd_name (i := 1) rfl rfl <| pda_nil ⟨kss, d2, xs.map intD, rfl, sq, k80, fun ks hk => ⟨pw.wo.fewR ks hk, fun k hkk => ⟨(pw.wo.rows ks hk k hkk).2.1, fun c hc => by rw [lx]; exact (pw.wo.rows ks hk k hkk).2.2 c hc⟩⟩, pda_nil ⟨rfl, mk_ks (lens := lens) (kss := movedR (xs.map intD) kss) (.tup _) pw.wo.h8 pw.wo.few (by have := pw.wo.m1; omega) (by have := pw.wo.m2; omega) ⟨_, .tl _ (.lst _)⟩ (.lst _) (ptTT _) (moved_ok (by omega) bx pw.wo.ok) (moved_few fun ks hk => by have := pw.wo.fewR ks hk; omega) mw.tot ⟨L, .refl _, yes (by simpa using ht) _ (.refl _)⟩⟩⟩⟩⟩⟩
/-! ### is_two_way -/
def tTwoWay (C CW : Addr) : Ct := fun ds L P R => ∃ d1 d2 d3, ds = [d1, d2, d3] ∧ ((∃ n, Bt L d1 n ∧ R CW [("part", .str "world")] L) ∨ ∃ (lens : List Int) (m : Nat) (kss : List (List Row)), d1 = worldD C lens (m : Int) kss ∧ PW lens m kss ∧ ((∃ n, Bt L d2 n ∧ R CW [("part", .str "other")] L) ∨ ∃ (lens2 : List Int) (M : Nat) (mss : List (List Row)) (o : Option (List D)), d2 = worldD C lens2 (M : Int) mss ∧ M ≤ 600 ∧ Sd L d3 o ∧ (∀ xs, o = some xs → ∀ x ∈ xs, ∃ n, Bt L x n) ∧ ∀ L', Lw L' L → P (.bl (twoB lens m kss lens2 M mss o)) L'))
abbrev NTW : List Str := ["world", "other", "value", "part"]
theorem sc_is_two_way : FnScope NTW ["world", "other", "value"] (defScope s_is_two_way) := ⟨rfl, rfl, rfl, by decide +kernel, rfl, by decide +kernel, by decide +kernel⟩
theorem ok_is_two_way {f C CW : Addr} {fd : FuncData} (F : Fun K "is_two_way" "is_two_way" s_is_two_way f fd) (T : Txt0 K mg) (TW : TxtW K C) (TI : TxtI K mg C) (hset : mg "set" = none) (EW : ExcD P w K mg base "BadWorld" CW ["part"]) (G3 : Fn P w K mg base "is_row" 2 ["value", "many", "below"] tIsRow) (GM : Fn P w K mg base "moved" 1 ["rows", "names"] tMoved) : FnOk P w K mg base (L2.CX P w) 6 f fd ["world", "other", "value"] (spD K (tTwoWay C CW)) := by
  refine fn_okD F sc_is_two_way (fun ds L P R ⟨_, _, _, e, _⟩ => by rw [e]; rfl) fun cdv A0 outer s H E ds L P1 R hr ⟨d1, d2, d3, e, q⟩ => ?_
  subst e
  have hu := hr.units
  rcases q with ⟨n, bt, r⟩ | ⟨lens, m, kss, rfl, pw, q⟩
  · refine pdb_cons (pds_ifB (t := true) (pdt_notB (t := false) (pdt_valB (pd_callB T.isinstance PyProof.Rows.Boot.«isinstance» (pda_cons (pd_name (i := 0) rfl rfl (pda_cons (pd_glob (v := .ref C) TI.gl rfl (pda_nil (cd_isiC bt.tg (.own C) (TI.no _ (bt_in bt)) ⟨rfl, rfl⟩))))))))) (fun _ => ?_) fun z => nomatch z)
    exact pdb_cons <| pds_raise (k := 3) rfl EW hr <| pda_cons <| pd_str <| pda_nil ⟨rfl, by decide, r⟩
  refine pdb_cons (pds_ifB (t := false) (pdt_notB (t := true) (pdt_valB (pd_callB T.isinstance PyProof.Rows.Boot.«isinstance» (pda_cons (pd_name (i := 0) rfl rfl (pda_cons (pd_glob (v := .ref C) TI.gl rfl (pda_nil (cd_isiC (.ins _ TI.ok) (.own C) TI.yes ⟨rfl, rfl⟩))))))))) (fun z => nomatch z) fun _ => pdb_nil ?_)
  rcases q with ⟨n, bt, r⟩ | ⟨lens2, M, mss, o, rfl, M6, sd, hbt, h⟩
  · refine pdb_cons (pds_ifB (t := true) (pdt_notB (t := false) (pdt_valB (pd_callB T.isinstance PyProof.Rows.Boot.«isinstance» (pda_cons (pd_name (i := 1) rfl rfl (pda_cons (pd_glob (v := .ref C) TI.gl rfl (pda_nil (cd_isiC bt.tg (.own C) (TI.no _ (bt_in bt)) ⟨rfl, rfl⟩))))))))) (fun _ => ?_) fun z => nomatch z)
    exact pdb_cons <| pds_raise (k := 3) rfl EW hr <| pda_cons <| pd_str <| pda_nil ⟨rfl, by decide, r⟩
  refine pdb_cons (pds_ifB (t := false) (pdt_notB (t := true) (pdt_valB (pd_callB T.isinstance PyProof.Rows.Boot.«isinstance» (pda_cons (pd_name (i := 1) rfl rfl (pda_cons (pd_glob (v := .ref C) TI.gl rfl (pda_nil (cd_isiC (.ins _ TI.ok) (.own C) TI.yes ⟨rfl, rfl⟩))))))))) (fun z => nomatch z) fun _ => pdb_nil ?_)
  have m6 := pw.wo.m2
  have no : ∀ b : Bool, b = twoB lens m kss lens2 M mss o → P1 (.bl b) L := fun b e => by rw [e]; exact h L (.refl _)
  refine pdb_cons <| pds_ifB (t := (!decide (lens = lens2)) || !decide (m = M)) (pdt_orB (t := !decide (lens = lens2)) (u := !decide (m = M)) (pdt_cmp <| pd_fld <| pd_name (i := 0) rfl rfl ⟨C, _, _, rfl, TW.cl, TW.nl, look_l _ _ _, pd_fld <| pd_name (i := 1) rfl rfl ⟨C, _, _, rfl, TW.cl, TW.nl, look_l _ _ _, od_neT hu (dp_row lens) (dp_row lens2) (by decide) ⟨_, rfl, by rw [tup_ints], rfl⟩⟩⟩) fun _ => pdt_or1 <| pdt_cmp <| pd_fld <| pd_name (i := 0) rfl rfl ⟨C, _, _, rfl, TW.cl, TW.nm, look_m _ _ _, pd_fld <| pd_name (i := 1) rfl rfl ⟨C, _, _, rfl, TW.cl, TW.nm, look_m _ _ _, od_neT hu (x := (m : Int)) (y := (M : Int)) (.int _) (.int _) (by decide) ⟨_, rfl, by congr 1; exact decide_eq_decide.mpr ⟨fun z => by omega, fun z => by omega⟩, rfl⟩⟩⟩) (fun ht => ?_) fun ht => ?_
  · refine pdb_cons <| pds_ret <| pd_bl <| no false ?_
    unfold twoB
    rw [Bool.or_eq_true, Bool.not_eq_true', Bool.not_eq_true'] at ht
    rcases ht with z | z <;> rw [z] <;> simp
  rw [Bool.or_eq_false_iff, Bool.not_eq_false', Bool.not_eq_false'] at ht
  obtain ⟨t1, t2⟩ := ht
  have two : twoB lens m kss lens2 M mss o = (permB m o && decide (((movedR (((o.getD []).map intD)) kss).map srt) = mss)) := by
    unfold twoB
    rw [t1, t2]
    simp
  refine pdb_nil <| pdb_cons <| pds_ifB (t := !permB m o) ((pdt_orB (t := !onSeq o (rowOk (some (m : Int)) (some (m : Int)))) (u := !decide ((((o.getD []).map intD)).Nodup)) (pdt_notB <| pdt_valB <| pd_fn G3 hr (by decide) <| pda_cons <| pd_name (i := 2) rfl rfl <| pda_cons <| pd_fld <| pd_name (i := 0) rfl rfl ⟨C, _, _, rfl, TW.cl, TW.nm, look_m _ _ _, pda_cons <| pd_fld <| pd_name (i := 0) rfl rfl ⟨C, _, _, rfl, TW.cl, TW.nm, look_m _ _ _, pda_nil ⟨d3, o, some (m : Int), some (m : Int), rfl, sd, hbt, rfl, rfl⟩⟩⟩) fun ht => pdt_or1 <| pdt_shr <| pdt_cmp ?_).eqB (permB_not m o)) (fun ht => ?_) fun ht => ?_
  · obtain ⟨xs, rfl, hx⟩ := onSeq_some (by simpa using ht)
    obtain ⟨ex, lx, bx⟩ := permB_row hx
    have sq : Sq L d3 ((xs.map intD).map D.int) := by
      rw [← ex]
      cases sd with
      | seq h => exact h
    refine pd_callB T.len PySem.boot_len <| pda_cons <| pd_callTy hset PyProof.Rows.boot_set <| pda_cons <| pd_name (i := 2) rfl rfl <| pda_nil <| cd_setSq rfl sq (by omega) fun p => pda_nil <| cd_lenI List.mem_cons_self (by omega) <| pd_fld <| pd_name (i := 0) rfl rfl ⟨C, _, _, rfl, TW.cl, TW.nm, look_m _ _ _, od_neT hu (x := ((ascI (xs.map intD)).length : Int)) (y := (m : Int)) (.int _) (.int _) (by decide) ⟨_, rfl, L, Lw.tail.lc, ?_, rfl⟩⟩
    show (!decide (((ascI (xs.map intD)).length : Int) = (m : Int))) = !decide ((xs.map intD).Nodup)
    congr 1
    exact decide_eq_decide.mpr ⟨fun z => ascI_len.mp (by omega), fun z => by rw [ascI_len.mpr z]; omega⟩
  · refine pdb_cons <| pds_ret <| pd_bl <| no false ?_
    rw [two]
    have ht : permB m o = false := by simpa using ht
    rw [ht, Bool.false_and]
  · have hp : permB m o = true := by simpa using ht
    obtain ⟨xs, rfl, hx, nd⟩ := permB_of hp
    obtain ⟨ex, lx, bx⟩ := permB_row hx
    have sq : Sq L d3 ((xs.map intD).map D.int) := by
      rw [← ex]
      cases sd with
      | seq h => exact h
    have k80 : kss.length ≤ 80 := by have := paired_len pw.wo.ok; have := pw.wo.few; omega
    refine pdb_nil <| pdb_cons <| pds_ret <| pd_cmp <| pd_callTy T.tuple PyProof.Rows.Boot.«tuple» <| pda_cons ?_
    refine pd_lc1 (i := 3) rfl sc_is_two_way.nd (blkOk_by (N := NTW) (sc := defScope s_is_two_way) (by decide +kernel)) (fun _ _ _ _ _ => pg_name (i := 3) sc_is_two_way.nd rfl (Or.inl rfl)) ?_
    refine pdi_list <| pd_fn GM hr (by decide) <| pda_cons <| pd_fld <| pd_name (i := 0) rfl rfl ⟨C, _, _, rfl, TW.cl, TW.nr, look_r _ _ _, pda_cons <| pd_name (i := 2) rfl rfl <| pda_nil ⟨kss, d3, xs.map intD, rfl, sq, k80, fun ks hk => ⟨pw.wo.fewR ks hk, fun k hkk => ⟨(pw.wo.rows ks hk k hkk).2.1, fun c hc => by rw [lx]; exact (pw.wo.rows ks hk k hkk).2.2 c hc⟩⟩, _, .inl rfl, List Row, movedR (xs.map intD) kss, fun ks => .lst (ks.map rowD), fun ks => .tup ((srt ks).map rowD), rfl, SubL.nil, by rw [movedR_len, sizeLine_eq]; omega, ?_, ?_⟩⟩
    · rintro ks hks Y q acc ⟨s0, H0, C0, cl0, fp0, rfl⟩
      have ne : ∀ k ∈ ks, k ≠ [] := fun k hk e => by
        obtain ⟨k0, hk0, rfl⟩ := List.mem_map.mp hks
        obtain ⟨k1, hk1, rfl⟩ := List.mem_map.mp hk
        exact (pw.wo.rows k0 hk0 k1 hk1).1 (List.map_eq_nil_iff.mp e)
      exact pd_callTy T.tuple PyProof.Rows.Boot.«tuple» <| pda_cons <| pd_callB T.sorted PyProof.Rows.Boot.«sorted» <| pda_cons <| pd_name (i := 3) rfl rfl <| pda_nil <| cd_sorted (.lst _) ne <| pda_nil <| cd_tuple (.lst _) ⟨rfl, Lw.refl _⟩
    refine pda_nil <| cd_tuple (.lst _) ?_
    have e : D.tup ((movedR (xs.map intD) kss).map fun ks => .tup ((srt ks).map rowD)) = partsD ((movedR (xs.map intD) kss).map srt) := by
      unfold partsD
      rw [List.map_map]
      rfl
    rw [e]
    refine pd_fld <| pd_name (i := 1) rfl rfl ⟨C, _, _, rfl, TW.cl, TW.nr, look_r _ _ _, od_eqT hu (dp_parts _) (dp_parts mss) (by decide) ?_⟩
    refine no _ ?_
    rw [two, hp, Bool.true_and]
    exact decide_eq_decide.mpr parts_inj
end
end K05
end
section
set_option Elab.async false
set_option linter.all false
set_option maxRecDepth 100000
set_option maxHeartbeats 4000000
/-! {k: v for target in iter if ..}: keys ints and texts, or nested tuples -/
namespace D2
open PySem PySem.Spec PyProof.Rows L2
section
variable {X : Cx} {pins : List (Addr × Obj)} {σ : L2.St} {H F : Hp} {s : Shared} {L L' : Led} {p : Addr} {kvs : List (NestedKey × D)} {k : NestedKey} {A : Around} {E : Value → Shared → Prop}
theorem put2_low {v y : V} {u r : Value} {d : D} {Q : Unit → Shared → Prop} (hu : A.units + 64 < cLine) (I : Inv X pins σ H s) (o : Own X.K H F L) (f : Foc p (dctOD X.K X.w p kvs) (dctOD X.K X.w p (dPut kvs k d)) L L') (ft : Fits kvs k) (hl : kvs.length < sizeLine)
    (ik : Is X.K F y (keyD k)) (rk : RelV y u) (iv : Is X.K F v d) (rv : RelV v r)
    (h : ∀ s' H', Inv X pins σ H' s' → Own X.K H' F L' → Q () s') : wpAny (model X.prog X.w) A (dictSet p u r) Q E s := by
  obtain ⟨es, ep, e, q⟩ := dct_own o f.mem
  have rw_ := dct_raw I e
  have hl' : (dPut kvs k d).length ≤ sizeLine := by
    have := dPut_len (b := kvs) (k := k) (d := d)
    omega
  have fin : ∀ (h' : Heap) (t : Nat) (es' : Array DictEntry) (ep' : Nat), h'.DictRaw p es' ep' → Heap.SameBut p s.heap h' → Paired (EntOk X.K X.w F) es'.toList (dPut kvs k d) → Q () { s with heap := h', toks := t } := fun h' t es' ep' rr hs pe => by
    have I2 : Inv X pins σ (upd H p (dctO p es' ep')) { s with heap := h', toks := t } := d_write I (by rw [e]; exact True.intro) hs (let ⟨ob, ho, _⟩ := rr; ⟨ob, ho⟩) (dct_obj rr)
    exact h _ _ I2 (o.write f ⟨es', ep', rfl, pe, dPut_nd q.nd, hl', q.sys, ft.put⟩)
  rcases ft with ⟨hk, ha⟩ | ⟨hk, ha⟩
  · obtain ⟨vs, dd, pr⟩ := sc_dict (X := X) rw_ q ha
    have hz : vs.length ≤ sizeLine := by rw [paired_length pr]; omega
    refine wpAny_dictSet_pairs (hsz := hz) (sc_is hk ik rk).1 dd fun h' dd' hs => ?_
    obtain ⟨ob, es', ep', g1, g2, g3, g4, g5, g6⟩ := dd'
    refine fin h' _ es' ep' ⟨ob, g1, g2, g3⟩ hs (v_ents g5 (v_put hk rv iv pr ha) (fun q hq => ?_) fun e he => g4 e (by simpa using he))
    rcases dPut_mem hq with e | ⟨q', h3, e⟩
    · rw [e]; exact hk
    · rw [← e]; exact ha _ h3
  · obtain ⟨xs, dd, pr⟩ := tu_dict I o rw_ q ha
    obtain ⟨a, rfl⟩ := tu_ref hk ik
    cases (show u = Value.ref a from rk)
    have hz : xs.length ≤ sizeLine := by rw [paired_length pr]; omega
    refine wpAny_dictSet_heap (knd := nestedKind X.prog X.w) (hsz := hz) (show A.units + 8 < cLine by omega) ⟨is_nested I o k ik rfl, tu_depth hk⟩ dd fun h' dd' hs => ?_
    obtain ⟨ob, es', ep', g1, g2, g3, g4, g5, g6⟩ := dd'
    refine fin h' _ es' ep' ⟨ob, g1, g2, g3⟩ hs ?_
    rw [g4]
    exact x_ents (x_put ik rv iv pr)
end
section
variable {X : Cx}
/-- what a store of y: z into D leaves -/
def PutN (X : Cx) (D : Addr) (y z : V) (H : Hp) (Nx : Hp → Prop) : Prop := ∀ (Y : Cx), Y.prog = X.prog → Y.w = X.w → Y.K = X.K → Y.A = X.A → ∀ (pins : List (Addr × Obj)) (σ : L2.St) (s : Shared) (E : Value → Shared → Prop) (u r : Value), Inv Y pins σ H s → RelV y u → RelV z r → ∀ Q : Unit → Shared → Prop, (∀ s' H', Inv Y pins σ H' s' → Nx H' → Q () s') → wpAny (model X.prog X.w) X.A (dictSet D u r) Q E s
def tMap (X : Cx) (wi : TI) (g : TG) (tt : TT) (tk tv : TE) (vs : List Nat) : TE := fun σ H Q => wi σ H fun J H1 => ∀ D, H1 D = none → (D == sysModules) = false → ∃ W : Nat → Nat → Hp → Prop, (∃ m, W 0 m (upd H1 D (dctO D #[] 0))) ∧ ∀ i m H2, W i m H2 →
  (J.stop i H2 ∧ Q (.ref D) H2) ∨ (J.go i H2 ∧ ∃ Nx : Hp → Prop, (∀ H', Nx H' → ∃ m', m' < m ∧ W (i + 1) m' H') ∧ ∀ x H', J.yld i H2 x H' → g x (wipe σ vs) H' fun σ3 H3 => wipe σ3 vs = wipe σ vs ∧ tt σ3 H3 fun b H4 =>
    if b = true then tk σ3 H4 fun y H5 => tv σ3 H5 fun z H6 => PutN X D y z H6 Nx else Nx H4)
theorem map_core {pins : List (Addr × Obj)} {s : Shared} {σ : L2.St} {H : Hp} {Q : VK} {kx vx tg iter : Expr} {ifs : List Expr} {scope : Scope} {own : List (PySem.Str × Nat)} {pos p2 : Pos} {wi : TI} {g : TG} {tt : TT} {tk tv : TE} {use : Option (Value → Sem Unit)} {Z : Value → Shared → Prop}
    (calm : X.calm = true) (uniq : X.N.Nodup) (I : Inv X pins σ H s) (hi : PI X tg iter wi) (ok : BlkOk X.N X.env.scope scope own)
    (hg : ∀ s0 H0 C cl fp, PG (X.blk s0 H0 scope (compEnvC scope cl C X.env) fp) tg g) (ht : ∀ s0 H0 C cl fp, PTs (X.blk s0 H0 scope (compEnvC scope cl C X.env) fp) ifs tt)
    (hk : ∀ s0 H0 C cl fp, PE (X.blk s0 H0 scope (compEnvC scope cl C X.env) fp) kx tk) (he : ∀ s0 H0 C cl fp, PE (X.blk s0 H0 scope (compEnvC scope cl C X.env) fp) vx tv) (hs : ∀ x, foldedSetIterable iter X.env x = pure x) (h : tMap X wi g tt tk tv (own.map (·.2)) σ H Q)
    (back : ∀ D C s' m H', Inv X pins σ H' s' → Q (.ref D) H' → s'.heap.Ns C m → FpOk X pins H' C → compPost (model X.prog X.w) X.A X.xe use Z (.ref D) C (.ok .next) s') :
    wpAny (model X.prog X.w) X.A (comprehension (.DictComp kx vx [⟨tg, iter, ifs, 0⟩] scope pos) scope X.env p2 (newDict) false (eval iter X.env) use) Z X.xe s := by
  have free : ∀ y ∈ scope.names, y.2 = .free → ∃ c, X.env.cells.lookup y.1 = some c := fun y hy e =>
    (ok.free y hy e).elim (fun z => I.ok.has _ (.inl z)) fun z => I.ok.has _ (.inr z)
  refine wpAny_comprehension_free (use := use) rfl hs (closure_ok free) ok.kind (fun y hy e => by rw [ok.uniq y hy, e]) (thn (hi.run pins s σ H _ I h) fun walked s1 a1 => thn a1 fun itv s2 a2 => ?_)
  obtain ⟨it, fp, tn, J, H2, rfl, I2, T, t2, f2, q⟩ := a2
  refine wpAny_newObj_type (newEnv_comp ?_)
  obtain ⟨D, hD⟩ : ∃ D, D = s2.heap.objs.size := ⟨_, rfl⟩
  obtain ⟨W, ⟨m0, w0⟩, turn⟩ := q D (I2.hok.fresh (by rw [hD]; exact Nat.le_refl _)) (by rw [hD]; exact beq_eq_false_iff_ne.mpr (Ne.symm (Nat.ne_of_lt I2.big)))
  rw [← hD]
  -- the empty set is laid
  have atD : (s2.heap.push { cls := .type "dict", data := .dict #[] }).get? D = some { cls := .type "dict", data := .dict #[] } := by
    rw [hD]; exact Heap.get?_push_size _ rfl
  have grow : ∀ b o, s2.heap.get? b = some o → (s2.heap.push { cls := .type "dict", data := .dict #[] }).get? b = some o := fun b o e => Heap.get?_push_of_some _ e
  have size3 : (s2.heap.push { cls := .type "dict", data := .dict #[] }).objs.size = s2.heap.objs.size + 1 := Heap.size_push ..
  have I3 := I2.laid (t' := s2.toks) grow (by rw [hD]; exact Nat.le_refl _) (dct_obj (P := X.prog) (w := X.w) (H' := upd H2 D (dctO D #[] 0)) ⟨_, atD, ⟨rfl, rfl, rfl⟩, rfl⟩)
  generalize s2.heap.push { cls := .type "dict", data := .dict #[] } = h3 at grow size3 I3 ⊢
  have e3 : ({ s2 with heap := h3, toks := s2.toks } : Shared) = { s2 with heap := h3 } := rfl
  rw [e3] at I3
  generalize hs3 : ({ s2 with heap := h3 } : Shared) = s3 at I3 ⊢
  have hh3 : s3.heap = h3 := by rw [← hs3]
  have below : ∀ b ∈ fp, b < s2.heap.objs.size := fun b hb => by
    obtain ⟨o, e, _⟩ := T.obj _ _ t2 b hb
    exact Heap.lt_size e
  obtain ⟨H3, hH3⟩ : ∃ H3, H3 = upd H2 D (dctO D #[] 0) := ⟨_, rfl⟩
  rw [← hH3] at w0 I3
  have f3 : ∀ b ∈ fp, FpOk X pins H3 b ∧ b < s3.heap.objs.size := fun b hb => by
    have lt := below b hb
    refine ⟨⟨?_, (f2 b hb).2⟩, by rw [hh3, size3]; exact Nat.lt_succ_of_lt lt⟩
    rw [hH3, upd_ne (by rw [hD]; exact Nat.ne_of_lt lt)]
    exact (f2 b hb).1
  have t3 : tn 0 s3.heap := T.keep _ _ _ t2 fun b _ o e => by rw [hh3]; exact grow b o e
  have I4 := block_start I3 ok uniq f3
  have rg := hg s3 H3 s3.heap.objs.size (cellsFrom (s3.heap.objs.size + 1) scope.names (cloFrom X.env.cells scope.names [])) fp
  have rt := ht s3 H3 s3.heap.objs.size (cellsFrom (s3.heap.objs.size + 1) scope.names (cloFrom X.env.cells scope.names [])) fp
  have rk := hk s3 H3 s3.heap.objs.size (cellsFrom (s3.heap.objs.size + 1) scope.names (cloFrom X.env.cells scope.names [])) fp
  have re := he s3 H3 s3.heap.objs.size (cellsFrom (s3.heap.objs.size + 1) scope.names (cloFrom X.env.cells scope.names [])) fp
  show codeAny _ _ (.compStart (.DictComp kx vx [⟨tg, iter, ifs, 0⟩] scope pos) 0 (.ref it) (.ref D) (compEnvC scope (cellsFrom (s3.heap.objs.size + 1) scope.names (cloFrom X.env.cells scope.names [])) s3.heap.objs.size X.env)) (compPost (model X.prog X.w) X.A X.xe use Z (.ref D) s3.heap.objs.size)
    { s3 with heap := pushCells (s3.heap.push { cls := .type "dict", data := .dict #[] }) scope.names }
  have bare3 : ∀ b ∈ fp, H3 b = none := fun b hb => (f3 b hb).1.1
  obtain ⟨ce, hce⟩ : ∃ ce, ce = compEnvC scope (cellsFrom (s3.heap.objs.size + 1) scope.names (cloFrom X.env.cells scope.names [])) s3.heap.objs.size X.env := ⟨_, rfl⟩
  rw [← hce] at I4 rg rt rk re ⊢
  have ceL : ce.locals = s3.heap.objs.size := by rw [hce] <;> rfl
  obtain ⟨s4, hs4⟩ : ∃ s4 : Shared, s4 = { s3 with heap := pushCells (s3.heap.push { cls := .type "dict", data := .dict #[] }) scope.names } := ⟨_, rfl⟩
  rw [← hs4] at I4 ⊢
  have t4 : tn 0 s4.heap := T.keep _ _ _ t3 fun b _ o e => by rw [hs4]; exact pushCells_keeps _ _ _ _ (Heap.get?_push_of_some _ e)
  have fine : ∀ {σ' : L2.St} {H' : Hp} {s' : Shared}, Inv (X.blk s3 H3 scope ce fp) [] σ' H' s' → (∀ b ∈ fp, H' b = none) → ∀ b ∈ fp, FpOk (X.blk s3 H3 scope ce fp) [] H' b := fun {σ' H' s'} J' hn b hb =>
    ⟨hn b hb, (J'.ok.exf b hb).1, J'.ok.exfs b hb, .inl hb, fun x c e => (J'.ok.exf b hb).2 x c e, fun p hp => absurd (show p ∈ ([] : List (Addr × Obj)) ++ [] from hp) (by simp)⟩
  have loop : codeAny (model X.prog X.w) X.A (.compLoop (.DictComp kx vx [⟨tg, iter, ifs, 0⟩] scope pos) 0 (.ref it) (.ref D) ce) (compPost (model X.prog X.w) X.A X.xe use Z (.ref D) s3.heap.objs.size) s4 := by
    refine compLoop_anyD (fun n s' => ∃ i H', Inv (X.blk s3 H3 scope ce fp) [] (wipe σ (own.map (·.2))) H' s' ∧ tn i s'.heap ∧ (∀ b ∈ fp, H' b = none) ∧ W i n H') ?_ m0 ⟨0, H3, I4, t4, bare3, w0⟩
    rintro n s5 ⟨i, H5, I5, t5, n5, w5⟩
    rcases turn i n H5 w5 with ⟨stop, out⟩ | ⟨go, Nx, less, step⟩
    · refine thnF (T.done (X.blk s3 H3 scope ce fp) rfl rfl rfl calm i [] s5 _ H5 (fun _ _ => False) I5 (fine I5 n5) t5 stop) fun r s6 a6 => ?_
      obtain ⟨rfl, I6⟩ := a6
      have I7 : Inv X pins σ H5 s6 := I3.call' (ch := fp) I6.os I6.base I6.hok I6.bare fun b hb => ⟨(f3 b hb).1.2.2.2.1, (f3 b hb).1.2.1, (f3 b hb).1.2.2.2.2.1, (f3 b hb).1.2.2.2.2.2⟩
      have gone : H5 s3.heap.objs.size = none := ceL ▸ I6.free
      obtain ⟨m, ns, _⟩ := I6.loc
      have ns : s6.heap.Ns ce.locals m := ns
      rw [ceL] at ns
      exact back D s3.heap.objs.size s6 m H5 I7 out ns (I3.fpOk (Nat.le_refl _) gone)
    · refine thnF (T.item (X.blk s3 H3 scope ce fp) rfl rfl rfl calm i [] s5 _ H5 (fun _ _ => False) I5 (fine I5 n5) t5 go) fun r s6 a6 => ?_
      obtain ⟨u, rfl, a6⟩ := a6
      refine thnF a6 fun _ s7 ⟨x, H7, I7, r7, y7, t7, n7⟩ => ?_
      refine thnF (rg.run _ s7 _ H7 x u _ (I7.pinned (fine I7 n7) (T.obj _ _ t7)) r7 (step x H7 y7)) fun _ s8 ⟨σ8, H8, I8, same8, q8⟩ => ?_
      refine thnF (rt.run _ s8 σ8 H8 _ I8 q8) fun b s9 ⟨H9, I9, q9⟩ => ?_
      have next : ∀ {s' : Shared} {H' : Hp}, Inv (X.blk s3 H3 scope ce fp) ([] ++ pinsAt fp s7.heap) σ8 H' s' → Nx H' → ∃ m, m < n ∧ ∃ i H', Inv (X.blk s3 H3 scope ce fp) [] (wipe σ (own.map (·.2))) H' s' ∧ tn i s'.heap ∧ (∀ b ∈ fp, H' b = none) ∧ W i m H' := fun {s' H'} J' nx => by
        obtain ⟨m', lt, w'⟩ := less H' nx
        have held : ∀ b ∈ fp, ∀ o, s7.heap.get? b = some o → s'.heap.get? b = some o ∧ H' b = none := fun b hb o e =>
          have z := J'.pin (b, o) (List.mem_append_right _ (List.mem_append_right _ (mem_pinsAt hb e)))
          ⟨z.1, z.2.1⟩
        have len8 : (wipe σ (own.map (·.2))).length = σ8.length := by rw [← same8, wipe_length]
        refine ⟨m', lt, i + 1, H', (J'.unpinned (pins := [])).weak len8 (fun j v e => ?_), T.keep _ _ _ t7 fun b hb o e => (held b hb o e).1, fun b hb => ?_, w'⟩
        · rw [← same8] at e
          exact (wipe_some e).1
        · obtain ⟨o, e, _⟩ := T.obj _ _ t7 b hb
          exact (held b hb o e).2
      cases b with
      | false =>
        simp only [Bool.false_eq_true, if_false] at q9 ⊢
        exact next I9 q9
      | true =>
        simp only [if_true] at q9 ⊢
        refine thnF (rk.run _ s9 σ8 H9 _ I9 q9) fun z s10 ⟨yk, H10, I10, r10, q10⟩ => ?_
        refine thnF (re.run _ s10 σ8 H10 _ I10 q10) fun z2 s11 ⟨yv, H11, I11, r11, go⟩ => ?_
        exact go (X.blk s3 H3 scope ce fp) rfl rfl rfl rfl _ _ _ _ _ _ I11 r10 r11 _ fun s12 H12 I12 nx => next I12 nx
  exact codeAny_compStart_dict loop (T.self X.A 0 _ _ _ t4 loop)
end
section
variable {X : Cx} {ρ : Rho} {L : Led} {P : PK1} {R : RK1} {pos : Pos}
def DcD (X : Cx) (g : TG) (kx vx : Expr) (ifs : List Expr) (scope : Scope) (vs : List Nat) (ρ : Rho) (ds : List D) (G L1 : Led) (P : PK1) : Prop :=
  ∃ I : Nat → List (NestedKey × D) → Led → Prop, I 0 [] L1 ∧ (∀ i acc L2, I i acc L2 → SubL G L2) ∧
    (∀ i d acc L2, ds[i]? = some d → I i acc L2 → ∃ us b, GD X.K g d us ∧ (∀ u ∈ us, u.1 ∈ vs) ∧
      (∀ Y p, Blk X scope Y → PDTs Y ifs (setsD (wipeD ρ vs) us) ((p, dctOD X.K X.w p acc) :: L2) (fun t L4 => t = b ∧ L4 = (p, dctOD X.K X.w p acc) :: L2)) ∧
      (if b = true then ∀ Y p, Blk X scope Y → PD Y kx (setsD (wipeD ρ vs) us) ((p, dctOD X.K X.w p acc) :: L2) (fun dk L4 => ∀ Z, Blk X scope Z → PD Z vx (setsD (wipeD ρ vs) us) L4 (fun dv L6 => ∃ k L7, dk = keyD k ∧ Fits acc k ∧ acc.length < sizeLine ∧ Lw L6 ((p, dctOD X.K X.w p acc) :: L7) ∧ I (i + 1) (dPut acc k dv) L7) noR) noR else I (i + 1) acc L2)) ∧
    ∀ acc L2, I ds.length acc L2 → ∀ p, P (.ref p) ((p, dctOD X.K X.w p acc) :: L2)
theorem dc_read (hu : X.A.units + 64 < cLine) {tg iter kx vx : Expr} {ifs : List Expr} {scope : Scope} {vs : List Nat} {g : TG} (h : PDI X tg iter ρ L (fun ds G L1 => DcD X g kx vx ifs scope vs ρ ds G L1 P) R) {σ : St} {H F : Hp} {W : WX} (A : At X ρ L R σ H F W) :
    tMap X (wI X tg iter) g (wBT X scope ifs) (wB X scope kx) (wB X scope vx) vs σ H (upV X.K F P) := by
  intro pins s I
  refine thn (h.go σ H F W A pins s I) fun v s1 h1 => thn h1 fun itv s2 h2 => ?_
  obtain ⟨it, fp, tn, J, H1, e1, I1, T, st1, f1, F1, ds, G, L1, s1', o1, ii, Iv, h0, hG, hstep, hend⟩ := h2
  refine ⟨it, fp, tn, J, H1, e1, I1, T, st1, f1, fun Dl hD hsys => ?_⟩
  refine ⟨fun i m H2 => m = ds.length - i ∧ i ≤ ds.length ∧ ∃ F2 acc L2, Same F1 F2 ∧ Own X.K H2 F2 ((Dl, dctOD X.K X.w Dl acc) :: L2) ∧ Iv i acc L2, ⟨ds.length, by simp, Nat.zero_le _, F1, [], L1, Same.refl _, o1.push hD (x := dctOD X.K X.w Dl []) ⟨#[], 0, rfl, .nil, List.nodup_nil, Nat.zero_le _, hsys, .inl fun q hq => nomatch hq⟩, h0⟩, ?_⟩
  rintro i m H2 ⟨rfl, hi, F2, acc, L2, s2', o2, q⟩
  obtain ⟨k1, k2⟩ := ii H2 F2 _ s2' o2 (hG i acc L2 q).cons i
  by_cases hlt : i < ds.length
  · obtain ⟨g1, g2⟩ := k2 (ds[i]) (by simp [hlt])
    refine .inr ⟨g1, fun H3 => ∃ F2 acc L2, Same F1 F2 ∧ Own X.K H3 F2 ((Dl, dctOD X.K X.w Dl acc) :: L2) ∧ Iv (i + 1) acc L2, fun H' p => ⟨ds.length - (i + 1), by omega, rfl, hlt, p⟩, fun x H' y => ?_⟩
    obtain ⟨F3, s3, o3, ix⟩ := g2 x H' y
    obtain ⟨us, b, hgd, hus, htest, helt⟩ := hstep i (ds[i]) acc L2 (by simp [hlt]) q
    refine hgd F3 H' _ (wipe σ vs) x _ o3 ix fun ws hw => ?_
    have hin : ∀ w ∈ ws, w.1 ∈ vs := by
      clear hgd htest helt
      induction hw with
      | nil => intro w z; cases z
      | cons r t ih =>
        intro w z
        rcases List.mem_cons.mp z with z | z
        · rw [z, r.1]
          exact hus _ (List.mem_cons_self ..)
        · exact ih (fun u hu => hus u (List.mem_cons_of_mem _ hu)) w z
    have sAll : Same F F3 := (s1'.trans s2').trans s3
    have ev : EnvOk X.K F3 (setsV (wipe σ vs) ws) (setsD (wipeD ρ vs) us) := env_sets (env_wipe (A.env.mono sAll) vs) hw
    have at3 : ∀ {Y : Cx} {H3 F4 : Hp} {L4 : Led}, Y.K = X.K → Same F3 F4 → Own X.K H3 F4 L4 → At Y (setsD (wipeD ρ vs) us) L4 noR (setsV (wipe σ vs) ws) H3 F4 (fun _ _ _ _ => False) := fun {Y H3 F4 L4} ek s4 o4 => ⟨by rw [ek]; exact ev.mono s4, by rw [ek]; exact o4, takes0, fun _ _ _ ⟨_, _, _, _, _, _, _, _, _, _, _, _, z⟩ => z⟩
    have fin : ∀ {t : Bool} {H3 : Hp}, upB X.K F3 (fun t L4 => t = b ∧ L4 = (Dl, dctOD X.K X.w Dl acc) :: L2) t H3 →
        if t = true then wB X scope kx (setsV (wipe σ vs) ws) H3 fun y H4 => wB X scope vx (setsV (wipe σ vs) ws) H4 fun z H5 => PutN X Dl y z H5 fun H3 => ∃ F2 acc L2, Same F1 F2 ∧ Own X.K H3 F2 ((Dl, dctOD X.K X.w Dl acc) :: L2) ∧ Iv (i + 1) acc L2
        else ∃ F2 acc L2, Same F1 F2 ∧ Own X.K H3 F2 ((Dl, dctOD X.K X.w Dl acc) :: L2) ∧ Iv (i + 1) acc L2 := by
      rintro t H3 ⟨F4, L4, s4, o4, rfl, rfl⟩
      cases t with
      | false => exact ⟨F4, acc, L2, (s2'.trans s3).trans s4, o4, helt⟩
      | true =>
        have helt : ∀ Y p, Blk X scope Y → PD Y kx (setsD (wipeD ρ vs) us) ((p, dctOD X.K X.w p acc) :: L2) (fun dk L4 => ∀ Z, Blk X scope Z → PD Z vx (setsD (wipeD ρ vs) us) L4 (fun dv L6 => ∃ k L7, dk = keyD k ∧ Fits acc k ∧ acc.length < sizeLine ∧ Lw L6 ((p, dctOD X.K X.w p acc) :: L7) ∧ Iv (i + 1) (dPut acc k dv) L7) noR) noR := helt
        intro s0 H0 C cl fp
        refine ((helt _ Dl ⟨s0, H0, C, cl, fp, rfl⟩).go _ _ _ _ (at3 rfl s4 o4)).mono fun y H4 ⟨F5, d5, L5, s5, o5, i5, helt5⟩ => ?_
        intro t0 J0 C' cl' fp'
        refine ((helt5 _ ⟨t0, J0, C', cl', fp', rfl⟩).go _ _ _ _ (at3 rfl (s4.trans s5) o5)).mono fun z H5 ⟨F6, d6, L6, s6, o6, i6, k, L7, ek, ft, hl7, e7, q7⟩ => ?_
        subst ek
        intro Y e1 e2 e3 e4 pins2 σ2 s2 E2 u2 r2 I2 ru rz Q2 hQ
        have o7 := e7.own o6
        have f6 : Foc Dl (dctOD Y.K Y.w Dl acc) (dctOD Y.K Y.w Dl (dPut acc k d6)) ((Dl, dctOD X.K X.w Dl acc) :: L7) ((Dl, dctOD X.K X.w Dl (dPut acc k d6)) :: L7) := by
          rw [e2, e3]
          exact .here
        rw [← e1, ← e2]
        exact put2_low hu I2 (by rw [e3]; exact o7) f6 ft hl7 (by rw [e3]; exact i5.mono s6) ru (by rw [e3]; exact i6) rz fun s' H' I' o' => hQ s' H' I' ⟨F6, dPut acc k d6, L7, (((s2'.trans s3).trans s4).trans s5).trans s6, by rw [e3] at o'; exact o', q7⟩
    refine ⟨by rw [wipe_sets hin, wipe_wipe], fun s0 H0 C cl fp' pins' s' I' => ?_⟩
    match ifs, htest with
    | [], htest => exact fin ⟨F3, _, Same.refl _, o3, htest (X.blk s0 H0 scope (compEnvC scope cl C X.env) fp') Dl ⟨s0, H0, C, cl, fp', rfl⟩⟩
    | [c], htest =>
      have ht : PDT (X.blk s0 H0 scope (compEnvC scope cl C X.env) fp') c (setsD (wipeD ρ vs) us) ((Dl, dctOD X.K X.w Dl acc) :: L2) (fun t L4 => t = b ∧ L4 = (Dl, dctOD X.K X.w Dl acc) :: L2) noR := htest _ Dl ⟨s0, H0, C, cl, fp', rfl⟩
      exact thn (ht.go _ _ _ _ (at3 rfl (Same.refl _) o3) pins' s' I') fun t s5 ⟨H5, I5, q5⟩ => ⟨H5, I5, fin q5⟩
    | _ :: _ :: _, htest => exact (htest _ Dl ⟨s0, H0, C, cl, fp', rfl⟩ : False).elim
  · have e : i = ds.length := by omega
    subst e
    exact .inl ⟨k1 (Nat.le_refl _), F2, .ref Dl, _, s1'.trans s2', o2, .sc _, hend acc L2 q Dl⟩
theorem pe_mapc {kx vx tg iter : Expr} {ifs : List Expr} {scope : Scope} {own : List (PySem.Str × Nat)} {wi : TI} {g : TG} {tt : TT} {tk tv : TE} (calm : X.calm = true) (uniq : X.N.Nodup) (hi : PI X tg iter wi) (ok : BlkOk X.N X.env.scope scope own)
    (hg : ∀ s0 H0 C cl fp, PG (X.blk s0 H0 scope (compEnvC scope cl C X.env) fp) tg g) (ht : ∀ s0 H0 C cl fp, PTs (X.blk s0 H0 scope (compEnvC scope cl C X.env) fp) ifs tt)
    (hk : ∀ s0 H0 C cl fp, PE (X.blk s0 H0 scope (compEnvC scope cl C X.env) fp) kx tk) (he : ∀ s0 H0 C cl fp, PE (X.blk s0 H0 scope (compEnvC scope cl C X.env) fp) vx tv) (hs : ∀ x, foldedSetIterable iter X.env x = pure x := by intro _; rfl) : PE X (.DictComp kx vx [⟨tg, iter, ifs, 0⟩] scope pos) (tMap X wi g tt tk tv (own.map (·.2))) := by
  refine ⟨fun pins s σ H Q I h => ?_⟩
  rw [arm_eval_DictComp]
  refine map_core calm uniq I hi ok hg ht hk he hs h fun D C s' m H' J q ns f => ⟨m, ns, fun h'' but => ?_⟩
  obtain ⟨g0, g1, g2, g3, g4, g5⟩ := f
  exact ⟨.ref D, H', J.turned (t' := s'.toks) (fun b o hb e => (but.2 b hb).trans e) g0 g1 g3 g4 g5, rfl, q⟩
theorem pd_dc {tg iter kx vx : Expr} {ifs : List Expr} {scope : Scope} {own : List (Str × Nat)} {g : TG} (hc : X.calm = true) (hN : X.N.Nodup) (hu : X.A.units + 64 < cLine) (ok : BlkOk X.N X.env.scope scope own)
    (hg : ∀ (s : Shared) (H : Hp) (C : Addr) (cl : List (Str × Addr)) (fp : List Addr), PG (X.blk s H scope (compEnvC scope cl C X.env) fp) tg g)
    (h : PDI X tg iter ρ L (fun ds G L1 => DcD X g kx vx ifs scope (own.map (·.2)) ρ ds G L1 P) R) (hs : ∀ x, foldedSetIterable iter X.env x = pure x := by intro _; rfl) : PD X (.DictComp kx vx [⟨tg, iter, ifs, 0⟩] scope pos) ρ L P R :=
  pd_of (pe_mapc hc hN pi_w ok hg (fun s0 H0 C cl fp => pts_wB s0 H0 C cl fp) (fun s0 H0 C cl fp => pe_wB s0 H0 C cl fp) (fun s0 H0 C cl fp => pe_wB s0 H0 C cl fp) hs) fun σ H F W A => dc_read hu h A
/-- what a typed one makes -/
def dFold {α : Type} (k : α → NestedKey) (v : α → D) (xs : List α) : List (NestedKey × D) := xs.foldl (fun m x => dPut m (k x) (v x)) []
theorem dFold_snoc {α : Type} (k : α → NestedKey) (v : α → D) (xs : List α) (x : α) : dFold k v (xs ++ [x]) = dPut (dFold k v xs) (k x) (v x) := by
  unfold dFold
  rw [List.foldl_append]
  rfl
theorem rev_ind {α : Type} {C : List α → Prop} (h0 : C []) (hs : ∀ xs x, C xs → C (xs ++ [x])) (xs : List α) : C xs := by
  have : ∀ ys : List α, C ys.reverse := fun ys => by
    induction ys with
    | nil => exact h0
    | cons y ys ih => rw [List.reverse_cons]; exact hs _ _ ih
  have z := this xs.reverse
  rw [List.reverse_reverse] at z
  exact z
theorem dFold_keys {α : Type} (k : α → NestedKey) (v : α → D) (xs : List α) : ∀ q, q ∈ (dFold k v xs).map (·.1) ↔ q ∈ xs.map k := by
  refine rev_ind (C := fun xs => ∀ q, q ∈ (dFold k v xs).map (·.1) ↔ q ∈ xs.map k) (fun q => Iff.rfl) (fun xs x ih q => ?_) xs
  rw [dFold_snoc, dPut_keys, List.map_append]
  split
  · rename_i e
    have e := (ih (k x)).mp (dAt_some.mp e)
    rw [ih q]
    refine ⟨fun z => List.mem_append_left _ z, fun z => ?_⟩
    rcases List.mem_append.mp z with z | z
    · exact z
    · rw [List.mem_singleton.mp z]; exact e
  · rw [List.mem_append, List.mem_append, ih q]
    rfl
theorem dFold_len {α : Type} (k : α → NestedKey) (v : α → D) (xs : List α) : (dFold k v xs).length ≤ xs.length := by
  refine rev_ind (C := fun xs => (dFold k v xs).length ≤ xs.length) (Nat.le_refl _) (fun xs x ih => ?_) xs
  rw [dFold_snoc, List.length_append]
  have := dPut_len (b := dFold k v xs) (k := k x) (d := v x)
  show _ ≤ _ + 1
  omega
theorem dFold_at {α : Type} [DecidableEq α] {k : α → NestedKey} (inj : ∀ a b, k a = k b → a = b) (v : α → D) (xs : List α) (x : α) : (dAt (dFold k v xs) (k x)).isSome = decide (x ∈ xs) := by
  rw [Bool.eq_iff_iff, dAt_some, dFold_keys, decide_eq_true_eq]
  refine ⟨fun h => ?_, fun h => List.mem_map_of_mem h⟩
  obtain ⟨y, hy, e⟩ := List.mem_map.mp h
  rw [← inj _ _ e]
  exact hy
def DcT (X : Cx) (kx vx : Expr) (scope : Scope) (vs : List Nat) (us : D → List (Nat × D)) (ρ : Rho) (ds : List D) (G L : Led) (P : PK1) : Prop :=
  ∃ (α : Type) (xs : List α) (f : α → D) (k : α → NestedKey) (v : α → D), ds = xs.map f ∧ SubL G L ∧ xs.length ≤ sizeLine ∧ ((∀ x ∈ xs, keySc (k x) = true) ∨ (∀ x ∈ xs, keyTu (k x) = true)) ∧
    (∀ x ∈ xs, ∀ Y p acc, Blk X scope Y → PD Y kx (setsD (wipeD ρ vs) (us (f x))) ((p, dctOD X.K X.w p acc) :: L) (fun dk L4 => dk = keyD (k x) ∧ L4 = (p, dctOD X.K X.w p acc) :: L) noR) ∧
    (∀ x ∈ xs, ∀ Y p acc, Blk X scope Y → PD Y vx (setsD (wipeD ρ vs) (us (f x))) ((p, dctOD X.K X.w p acc) :: L) (fun dv L4 => dv = v x ∧ Lw L4 ((p, dctOD X.K X.w p acc) :: L)) noR) ∧ ∀ p, P (.ref p) ((p, dctOD X.K X.w p (dFold k v xs)) :: L)
theorem dcT {kx vx : Expr} {scope : Scope} {g : TG} {vs : List Nat} {ds : List D} {G : Led} {us : D → List (Nat × D)} (hgd : ∀ d ∈ ds, GD X.K g d (us d)) (hv : ∀ d, ∀ u ∈ us d, u.1 ∈ vs) (h : DcT X kx vx scope vs us ρ ds G L P) : DcD X g kx vx [] scope vs ρ ds G L P := by
  obtain ⟨α, xs, f, k, v, hd, hG, hl, hm, hk, hb, q⟩ := h
  subst hd
  refine ⟨fun i acc L2 => L2 = L ∧ acc = dFold k v (xs.take i), ⟨rfl, rfl⟩, fun i acc L2 ⟨e, _⟩ => by rw [e]; exact hG, fun i d acc L2 hd ⟨e1, e2⟩ => ?_, fun acc L2 ⟨e1, e2⟩ p => ?_⟩
  · subst e1
    have hm2 := List.mem_of_getElem? hd
    rw [List.getElem?_map] at hd
    cases e : xs[i]? with
    | none => rw [e] at hd; cases hd
    | some x =>
      rw [e] at hd
      cases hd
      have hx := List.mem_of_getElem? e
      have hi := (List.getElem?_eq_some_iff.mp e).1
      refine ⟨us (f x), true, hgd _ hm2, hv _, fun Y p b => ⟨rfl, rfl⟩, ?_⟩
      show ∀ Y p, Blk X scope Y → _
      intro Y p b
      refine (hk x hx Y p acc b).mono fun dk L4 ⟨e3, e4⟩ Z bz => ?_
      subst e4
      refine (hb x hx Z p acc bz).mono fun dv L6 ⟨e5, lw⟩ => ⟨k x, L2, e3, ?_, ?_, lw, rfl, by rw [(take_ext e).2, dFold_snoc, e2, e5]⟩
      · have sub : ∀ q ∈ acc, ∃ y ∈ xs, q.1 = k y := fun q hq => by
          rw [e2] at hq
          have z := (dFold_keys k v (xs.take i) q.1).mp (List.mem_map_of_mem hq)
          obtain ⟨y, hy, ey⟩ := List.mem_map.mp z
          exact ⟨y, List.mem_of_mem_take hy, ey.symm⟩
        rcases hm with z | z
        · exact .inl ⟨z x hx, fun q hq => by obtain ⟨y, hy, ey⟩ := sub q hq; rw [ey]; exact z y hy⟩
        · exact .inr ⟨z x hx, fun q hq => by obtain ⟨y, hy, ey⟩ := sub q hq; rw [ey]; exact z y hy⟩
      · have := dFold_len k v (xs.take i)
        rw [List.length_take] at this
        rw [e2]
        omega
  · rw [List.length_map, List.take_length] at e2
    rw [e1, e2]
    exact q p
/-- {kx: vx for y in iter} -/
theorem pd_dc1 {i : Nat} {y : Str} {py : Pos} {iter kx vx : Expr} {scope : Scope} (hc : X.calm = true) (hN : X.N.Nodup) (hu : X.A.units + 64 < cLine) (ok : BlkOk X.N X.env.scope scope [(y, i)])
    (hg : ∀ (s : Shared) (H : Hp) (C : Addr) (cl : List (Str × Addr)) (fp : List Addr), PG (X.blk s H scope (compEnvC scope cl C X.env) fp) (.Name y py) (gName i))
    (h : PDI X (.Name y py) iter ρ L (DcT X kx vx scope [i] (fun d => [(i, d)]) ρ · · · P) R)
    (hs : ∀ x, foldedSetIterable iter X.env x = pure x := by intro _; rfl) : PD X (.DictComp kx vx [⟨.Name y py, iter, [], 0⟩] scope pos) ρ L P R :=
  pd_dc (own := [(y, i)]) (g := gName i) hc hN hu ok hg (h.mono fun ds G L1 q => dcT (fun d _ => gd_name) (fun d u hu => by rw [List.mem_singleton.mp hu]; exact List.mem_singleton.mpr rfl) q) hs
end
end D2
end
section
set_option Elab.async false
set_option linter.all false
set_option maxRecDepth 100000
set_option maxHeartbeats 4000000
/-! {kx: vx for y, z in iter}; what a key of such a dict has -/
namespace D2
open PySem PySem.Spec PyProof.Rows L2
theorem dPutSame {kvs : List (NestedKey × D)} {k : NestedKey} {d : D} : dAt (dPut kvs k d) k = some d := by
  unfold dPut
  by_cases e : (dAt kvs k).isSome = true
  · rw [if_pos e]
    induction kvs with
    | nil => cases e
    | cons p r ih =>
      rw [List.map_cons, dAt_cons]
      rw [dAt_cons] at e
      by_cases h : p.1 = k
      · rw [if_pos h]
        simp [h]
      · rw [if_neg h] at e ⊢
        rw [if_neg h]
        exact ih e
  · rw [if_neg e]
    induction kvs with
    | nil => simp [dAt]
    | cons p r ih =>
      rw [List.cons_append, dAt_cons]
      rw [dAt_cons] at e
      by_cases h : p.1 = k
      · rw [if_pos h] at e
        exact absurd rfl e
      · rw [if_neg h] at e ⊢
        exact ih e
theorem dPutOther {kvs : List (NestedKey × D)} {k j : NestedKey} {d : D} (hne : j ≠ k) : dAt (dPut kvs k d) j = dAt kvs j := by
  unfold dPut
  by_cases e : (dAt kvs k).isSome = true
  · rw [if_pos e]
    clear e
    induction kvs with
    | nil => rfl
    | cons p r ih =>
      rw [List.map_cons, dAt_cons, dAt_cons]
      by_cases h : p.1 = k
      · rw [if_pos h]
        have h1 : ¬ p.1 = j := fun z => hne (z.symm.trans h)
        rw [if_neg h1, if_neg h1]
        exact ih
      · rw [if_neg h]
        by_cases h2 : p.1 = j
        · rw [if_pos h2, if_pos h2]
        · rw [if_neg h2, if_neg h2]
          exact ih
  · rw [if_neg e]
    clear e
    induction kvs with
    | nil =>
      show dAt [(k, d)] j = _
      rw [dAt_cons, if_neg (fun z => hne z.symm)]
    | cons p r ih =>
      rw [List.cons_append, dAt_cons, dAt_cons]
      by_cases h : p.1 = j
      · rw [if_pos h, if_pos h]
      · rw [if_neg h, if_neg h]
        exact ih
theorem dFold_val {α : Type} (k : α → NestedKey) (v : α → D) : ∀ (xs : List α), xs.Pairwise (fun a b => k a ≠ k b) → ∀ x ∈ xs, dAt (dFold k v xs) (k x) = some (v x) := fun xs => by
  refine rev_ind (C := fun xs => xs.Pairwise (fun a b => k a ≠ k b) → ∀ x ∈ xs, dAt (dFold k v xs) (k x) = some (v x)) (fun _ x h => nomatch h) (fun xs y ih hp x hx => ?_) xs
  obtain ⟨h1, _, h3⟩ := List.pairwise_append.mp hp
  rw [dFold_snoc]
  rcases List.mem_append.mp hx with z | z
  · rw [dPutOther (h3 x z y List.mem_cons_self)]
    exact ih h1 x z
  · rw [List.mem_singleton.mp z]
    exact dPutSame
section
variable {X : Cx} {ρ : Rho} {L : Led} {P : PK1} {R : RK1} {pos : Pos}
def usP (i j : Nat) : D → List (Nat × D)
  | .tup [a, b] => [(i, a), (j, b)]
  | _ => []
theorem usP_in {i j : Nat} (d : D) : ∀ u ∈ usP i j d, u.1 ∈ [i, j] := fun u hu => by
  unfold usP at hu
  split at hu
  · rcases List.mem_cons.mp hu with z | z
    · rw [z]; exact List.mem_cons_self
    · rw [List.mem_singleton.mp z]; exact List.mem_cons_of_mem _ List.mem_cons_self
  · cases hu
def DcP (X : Cx) (kx vx : Expr) (scope : Scope) (i j : Nat) (ρ : Rho) (ds : List D) (G L : Led) (P : PK1) : Prop :=
  ∃ (α : Type) (xs : List α) (f1 f2 : α → D) (k : α → NestedKey) (v : α → D), ds = xs.map (fun x => D.tup [f1 x, f2 x]) ∧ SubL G L ∧ xs.length ≤ sizeLine ∧ ((∀ x ∈ xs, keySc (k x) = true) ∨ (∀ x ∈ xs, keyTu (k x) = true)) ∧
    (∀ x ∈ xs, ∀ Y p acc, Blk X scope Y → PD Y kx (setsD (wipeD ρ [i, j]) [(i, f1 x), (j, f2 x)]) ((p, dctOD X.K X.w p acc) :: L) (fun dk L4 => dk = keyD (k x) ∧ L4 = (p, dctOD X.K X.w p acc) :: L) noR) ∧
    (∀ x ∈ xs, ∀ Y p acc, Blk X scope Y → PD Y vx (setsD (wipeD ρ [i, j]) [(i, f1 x), (j, f2 x)]) ((p, dctOD X.K X.w p acc) :: L) (fun dv L4 => dv = v x ∧ Lw L4 ((p, dctOD X.K X.w p acc) :: L)) noR) ∧ ∀ p, P (.ref p) ((p, dctOD X.K X.w p (dFold k v xs)) :: L)
theorem pd_dcP {i j : Nat} {y z : Str} {py pz pt : Pos} {kt : Nat} {iter kx vx : Expr} {scope : Scope} (hc : X.calm = true) (hN : X.N.Nodup) (hu : X.A.units + 64 < cLine) (ok : BlkOk X.N X.env.scope scope [(y, i), (z, j)])
    (hg : ∀ (s : Shared) (H : Hp) (C : Addr) (cl : List (Str × Addr)) (fp : List Addr), PG (X.blk s H scope (compEnvC scope cl C X.env) fp) (.Tuple [.Name y py, .Name z pz] kt pt) (gTup X.K 2 (gCons (gName i) (gCons (gName j) gNil))))
    (h : PDI X (.Tuple [.Name y py, .Name z pz] kt pt) iter ρ L (DcP X kx vx scope i j ρ · · · P) R)
    (hs : ∀ x, foldedSetIterable iter X.env x = pure x := by intro _; rfl) : PD X (.DictComp kx vx [⟨.Tuple [.Name y py, .Name z pz] kt pt, iter, [], 0⟩] scope pos) ρ L P R :=
  pd_dc (own := [(y, i), (z, j)]) (g := gTup X.K 2 (gCons (gName i) (gCons (gName j) gNil))) hc hN hu ok hg (h.mono fun ds G L1 ⟨α, xs, f1, f2, k, v, e, hG, hl, hk, hkx, hvx, q⟩ => dcT (us := usP i j) (fun d hd => by
    rw [e] at hd
    obtain ⟨x, _, rfl⟩ := List.mem_map.mp hd
    exact gd_tup (gds_cons gd_name (gds_cons gd_name gds_nil)) rfl) usP_in ⟨α, xs, fun x => .tup [f1 x, f2 x], k, v, e, hG, hl, hk, hkx, hvx, q⟩) hs
end
end D2
end
section
set_option Elab.async false
set_option linter.all false
set_option maxRecDepth 100000
set_option maxHeartbeats 8000000
namespace K05
open PySem L2 D2
open PySem.Spec hiding Row
abbrev s_part_of : Stmt := top 23
/-- some places, told as a value -/
def partB (m : Nat) (o : Option (List D)) : Bool := onSeq o fun xs => rowOk none (some (m : Int)) xs && !decide (xs.length = 0) && decide ((xs.map intD).Nodup)
/-- the rows that lie in ps, by their numbers there -/
def inR (ps : Row) (ks : List Row) : List Row := ks.filter fun k => k.all fun x => decide (x ∈ ps)
def partR (ps : Row) (kss : List (List Row)) : List (List Row) := (kss.map (inR ps)).map fun ks => ks.map fun k => k.map fun x => ((ps.idxOf x : Nat) : Int)
/-- the dict of the numbers -/
abbrev numKV (ps : Row) : List (NestedKey × D) := dFold (fun q : Nat × Int => NestedKey.num q.2) (fun q => D.int (q.1 : Int)) ((List.range ps.length).zip ps)
theorem num_pair {ps : Row} (nd : ps.Nodup) : ((List.range ps.length).zip ps).Pairwise fun a b => NestedKey.num a.2 ≠ NestedKey.num b.2 := by
  have h : (((List.range ps.length).zip ps).map (·.2)).Nodup := by
    rw [List.map_snd_zip (by rw [List.length_range]; exact Nat.le_refl _)]
    exact nd
  refine (List.pairwise_map.mp h).imp fun {a b} h e => h ?_
  injection e
theorem num_at {ps : Row} (nd : ps.Nodup) {x : Int} (h : x ∈ ps) : dAt (numKV ps) (.num x) = some (.int ((ps.idxOf x : Nat) : Int)) := by
  have hi := List.idxOf_lt_length_iff.mpr h
  have hm : (ps.idxOf x, x) ∈ (List.range ps.length).zip ps := by
    refine List.mem_iff_getElem?.mpr ⟨ps.idxOf x, ?_⟩
    rw [List.getElem?_zip_eq_some]
    refine ⟨List.getElem?_range hi, ?_⟩
    rw [List.getElem?_eq_getElem hi, List.getElem_idxOf]
  exact dFold_val (fun q : Nat × Int => NestedKey.num q.2) (fun q => D.int (q.1 : Int)) _ (num_pair nd) _ hm
theorem num_in (ps : Row) (x : Int) : (dAt (numKV ps) (.num x)).isSome = decide (x ∈ ps) := by
  rw [Bool.eq_iff_iff, dAt_some, dFold_keys, decide_eq_true_eq]
  constructor
  · intro h
    obtain ⟨q, hq, e⟩ := List.mem_map.mp h
    injection e with e
    rw [← e]
    exact (List.of_mem_zip hq).2
  · intro h
    obtain ⟨i, hi⟩ := List.mem_iff_getElem?.mp h
    have hl := (List.getElem?_eq_some_iff.mp hi).1
    exact List.mem_map.mpr ⟨(i, x), List.mem_iff_getElem?.mpr ⟨i, by rw [List.getElem?_zip_eq_some]; exact ⟨List.getElem?_range hl, hi⟩⟩, rfl⟩
theorem num_fits (ps : Row) (x : Int) : Fits (numKV ps) (.num x) := .inl ⟨rfl, fun q hq => by
  have z := (dFold_keys (fun q : Nat × Int => NestedKey.num q.2) (fun q => D.int (q.1 : Int)) _ q.1).mp (List.mem_map_of_mem hq)
  obtain ⟨y, _, e⟩ := List.mem_map.mp z
  rw [← e]
  rfl⟩
theorem partB_row {m : Nat} {xs : List D} (h : rowOk none (some (m : Int)) xs = true) : xs = (xs.map intD).map D.int ∧ ∀ c ∈ xs.map intD, 0 ≤ c ∧ c < (m : Int) := by
  have e := row_ints h
  refine ⟨e, ?_⟩
  rw [e] at h
  unfold rowOk at h
  exact cells_ok.mp (Bool.and_eq_true_iff.mp h).2
theorem partB_of {m : Nat} {o : Option (List D)} (h : partB m o = true) : ∃ xs, o = some xs ∧ rowOk none (some (m : Int)) xs = true ∧ xs.length ≠ 0 ∧ (xs.map intD).Nodup := by
  obtain ⟨xs, rfl, h⟩ := onSeq_some h
  obtain ⟨h, h3⟩ := Bool.and_eq_true_iff.mp h
  obtain ⟨h1, h2⟩ := Bool.and_eq_true_iff.mp h
  exact ⟨xs, rfl, h1, by simpa using h2, of_decide_eq_true h3⟩
theorem partB_not (m : Nat) (o : Option (List D)) : (((!onSeq o (rowOk none (some (m : Int)))) || decide ((o.getD []).length = 0)) || !decide ((((o.getD []).map intD)).Nodup)) = !partB m o := by
  cases o with
  | none => rfl
  | some xs =>
    show ((!rowOk _ _ xs) || decide (xs.length = 0) || !decide ((xs.map intD).Nodup)) = !(rowOk _ _ xs && !decide (xs.length = 0) && decide ((xs.map intD).Nodup))
    rw [Bool.not_and, Bool.not_and, Bool.not_not]
theorem part_ok {m : Int} {ps : Row} : ∀ {lens : List Int} {kss : List (List Row)}, Paired (fun n ks => okRows n m ks) lens kss → Paired (fun n ks => okRows n (ps.length : Int) ks) lens (partR ps kss)
  | _, _, .nil => .nil
  | n :: _, ks :: _, .cons q t => by
    refine .cons (fun k hk => ?_) (part_ok t)
    obtain ⟨k0, hk0, rfl⟩ := List.mem_map.mp hk
    obtain ⟨h0, h1⟩ := List.mem_filter.mp hk0
    refine ⟨by rw [List.length_map]; exact (q k0 h0).1, fun c hc => ?_⟩
    obtain ⟨x, hx, rfl⟩ := List.mem_map.mp hc
    have := List.idxOf_lt_length_iff.mpr (of_decide_eq_true (List.all_eq_true.mp h1 x hx))
    omega
theorem partR_len (ps : Row) (kss : List (List Row)) : (partR ps kss).length = kss.length := by
  unfold partR
  rw [List.length_map, List.length_map]
theorem inR_le (ps : Row) (ks : List Row) : (inR ps ks).length ≤ ks.length := List.length_filter_le ..
theorem part_few {ps : Row} {n : Nat} {kss : List (List Row)} (h : ∀ ks ∈ kss, ks.length ≤ n) : ∀ ks ∈ partR ps kss, ks.length ≤ n := fun ks hk => by
  obtain ⟨k1, hk1, rfl⟩ := List.mem_map.mp hk
  obtain ⟨k0, hk0, rfl⟩ := List.mem_map.mp hk1
  rw [List.length_map]
  exact Nat.le_trans (inR_le _ _) (h k0 hk0)
theorem part_tot (ps : Row) (kss : List (List Row)) : total ((partR ps kss).map asc) ≤ total kss := by
  unfold partR
  rw [List.map_map, List.map_map]
  refine total_map (fun ks => ?_) kss
  show (asc ((inR ps ks).map _)).length ≤ _
  have := asc_le ((inR ps ks).map fun k => k.map fun x => ((ps.idxOf x : Nat) : Int))
  rw [List.length_map] at this
  exact Nat.le_trans this (inR_le _ _)
theorem part_world {lens : List Int} {m : Nat} {kss : List (List Row)} {ps : Row} (wo : WOk4 lens m kss) (h1 : ps.length ≠ 0) (h2 : ps.length ≤ 600) : WOk4 lens ps.length ((partR ps kss).map asc) := by
  have := part_tot ps kss
  have := wo.tot
  exact ⟨by omega, h2, wo.few, wo.h8, ok_asc (part_ok wo.ok), by omega⟩
theorem few_nats {m : Nat} {S : List Int} (nd : S.Nodup) (h : ∀ x ∈ S, 0 ≤ x ∧ x < (m : Int)) : S.length ≤ m := by
  have h1 : (S.map Int.toNat).Nodup := by
    refine List.pairwise_map.mpr (List.Pairwise.imp_of_mem ?_ nd)
    intro a b ha hb hab e
    have := h a ha
    have := h b hb
    exact hab (by omega)
  have h2 : ∀ x ∈ S.map Int.toNat, x ∈ List.range m := fun x hx => by
    obtain ⟨y, hy, rfl⟩ := List.mem_map.mp hx
    have := h y hy
    exact List.mem_range.mpr (by omega)
  have go : ∀ (a b : List Nat), a.Nodup → (∀ x ∈ a, x ∈ b) → a.length ≤ b.length := fun a => by
    induction a with
    | nil => exact fun b _ _ => Nat.zero_le _
    | cons x a ih =>
      intro b nd h
      rw [List.nodup_cons] at nd
      have hx := h x List.mem_cons_self
      have := ih (b.erase x) nd.2 fun y hy => (List.mem_erase_of_ne (fun e : y = x => nd.1 (by rw [← e]; exact hy))).mpr (h y (List.mem_cons_of_mem _ hy))
      rw [List.length_erase_of_mem hx] at this
      have := List.length_pos_of_mem hx
      rw [List.length_cons]
      omega
  have := go _ _ h1 h2
  rw [List.length_map, List.length_range] at this
  exact this
section
variable {P : Program} {w : World} {K : PySem.W.Frag} {mg : Str → Option Value} {base : Heap}
theorem fn_or {CXt : L2.CXT} {k : Nat} {f : Addr} {fd : FuncData} {ps : List Str} {T0 T1 : Ct} (G0 : FnOk P w K mg base CXt k f fd ps (spD K T0)) (G1 : FnOk P w K mg base CXt k f fd ps (spD K T1)) : FnOk P w K mg base CXt k f fd ps (spD K fun ds L P R => T0 ds L P R ∨ T1 ds L P R) :=
  ⟨fun vs H Q E ⟨F, L, ds, P, R, h1, h2, h3, h4, h5⟩ => h3.elim (fun z => G0.len _ _ _ _ ⟨F, L, ds, P, R, h1, h2, z, h4, h5⟩) fun z => G1.len _ _ _ _ ⟨F, L, ds, P, R, h1, h2, z, h4, h5⟩,
   fun A outer s H args us vs Q E hr he hb hv ⟨F, L, ds, P, R, h1, h2, h3, h4, h5⟩ => h3.elim (fun z => G0.run A outer s H args us vs Q E hr he hb hv ⟨F, L, ds, P, R, h1, h2, z, h4, h5⟩) fun z => G1.run A outer s H args us vs Q E hr he hb hv ⟨F, L, ds, P, R, h1, h2, z, h4, h5⟩⟩
theorem Fn.imp {x : Str} {k : Nat} {ps : List Str} {T T' : Ct} (G : Fn P w K mg base x k ps T) (h : ∀ ds L P R, T' ds L P R → T ds L P R) : Fn P w K mg base x k ps T' := by
  obtain ⟨f, fd, g, r⟩ := G
  exact ⟨f, fd, g.imp fun vs H Q E ⟨F, L, ds, P, R, h1, h2, h3, h4, h5⟩ => ⟨F, L, ds, P, R, h1, h2, h _ _ _ _ h3, h4, h5⟩, r⟩
/-! ### moved, with a dict -/
def tMovedD (K : PySem.W.Frag) (w : World) : Ct := fun ds L P R => ∃ (kss : List (List Row)) (p : Addr) (kvs : List (NestedKey × D)) (g : Int → Int), ds = [.lst (kss.map fun ks => .lst (ks.map rowD)), .ref p] ∧ (p, dctOD K w p kvs) ∈ L ∧ (∀ x, Fits kvs (.num x)) ∧ kss.length ≤ 80 ∧ (∀ ks ∈ kss, ks.length ≤ 1000 ∧ ∀ k ∈ ks, k.length ≤ 8 ∧ ∀ c ∈ k, dAt kvs (.num c) = some (.int (g c))) ∧ P (.lst ((kss.map fun ks => ks.map fun k => k.map g).map fun ks => .lst (ks.map rowD))) L
def tMovedX (K : PySem.W.Frag) (w : World) : Ct := fun ds L P R => tMoved ds L P R ∨ tMovedD K w ds L P R
theorem ok_movedX {f : Addr} {fd : FuncData} (F : Fun K "moved" "moved" s_moved f fd) (T : Txt0 K mg) : FnOk P w K mg base (L2.CX P w) 1 f fd ["rows", "names"] (spD K (tMovedX K w)) := by
  have G0 := ok_moved (P := P) (w := w) (base := base) F T
  have G1 : FnOk P w K mg base (L2.CX P w) 1 f fd ["rows", "names"] (spD K (tMovedD K w)) := by
    refine fn_okD F sc_moved (fun ds L P R ⟨_, _, _, _, e, _⟩ => by rw [e]; rfl) fun cdv A outer s H E ds L P1 R hr ⟨kss, p, kvs, g, e, hp, ft, k80, okr, h⟩ => ?_
    subst e
    have hu := hr.units
    refine pdb_cons <| pds_ret ?_
    refine pd_lc1 (i := 2) rfl sc_moved.nd (blkOk_by (N := NMV) (sc := defScope s_moved) (by decide +kernel)) (fun _ _ _ _ _ => pg_name (i := 2) sc_moved.nd rfl (Or.inl rfl)) ?_
    refine pdi_list <| pd_name (i := 0) rfl rfl ⟨_, .inl rfl, List Row, kss, fun ks => .lst (ks.map rowD), fun ks => .lst ((ks.map fun k => k.map g).map rowD), rfl, SubL.nil, by rw [sizeLine_eq]; omega, ?_, ?_⟩
    · rintro ks hks Y q acc ⟨s0, H0, C0, cl0, fp0, rfl⟩
      obtain ⟨k1000, hk⟩ := okr ks hks
      refine pd_lc1 (i := 3) rfl sc_moved.nd (blk_in (N := NMV) (sf := defScope s_moved) rfl (by decide +kernel)) (fun _ _ _ _ _ => pg_name (i := 3) sc_moved.nd rfl (Or.inl rfl)) ?_
      refine pdi_list <| pd_name (i := 2) rfl rfl ⟨_, .inl rfl, Row, ks, rowD, fun k => rowD (k.map g), rfl, SubL.nil, by rw [sizeLine_eq]; omega, ?_, ?_⟩
      · rintro k hkk Y2 q2 acc2 ⟨s1, H1, C1, cl1, fp1, rfl⟩
        obtain ⟨k8, kb⟩ := hk k hkk
        refine pd_callTy T.tuple PyProof.Rows.Boot.«tuple» <| pda_cons ?_
        refine pd_lc1 (i := 4) rfl sc_moved.nd (blk_in (N := NMV) (sf := relS _ (defScope s_moved)) rfl (by decide +kernel)) (fun _ _ _ _ _ => pg_name (i := 4) sc_moved.nd rfl (Or.inl rfl)) ?_
        refine pdi_tup <| pd_name (i := 3) rfl rfl ⟨_, rfl, Int, k, D.int, fun x => .int (g x), rfl, SubL.nil, by rw [sizeLine_eq]; omega, ?_, ?_⟩
        · rintro x hx Y3 q3 acc3 ⟨s2, H2, C2, cl2, fp2, rfl⟩
          exact pd_ix <| pd_name (i := 1) rfl rfl <| pd_name (i := 4) rfl rfl <| ixd_dct (k := .num x) hu (List.mem_cons_of_mem _ (List.mem_cons_of_mem _ (List.mem_cons_of_mem _ hp))) (ft x) (kb x hx) ⟨rfl, Lw.refl _⟩
        refine pda_nil <| cd_tuple (.lst _) ⟨?_, Lw.refl _⟩
        show _ = D.tup _
        rw [List.map_map]
        rfl
      refine ⟨?_, Lw.refl _⟩
      show _ = D.lst ((ks.map fun k => k.map g).map rowD)
      rw [List.map_map]
      rfl
    have e : (kss.map fun ks => D.lst ((ks.map fun k => k.map g).map rowD)) = (kss.map fun ks => ks.map fun k => k.map g).map fun ks => .lst (ks.map rowD) := by
      rw [List.map_map]
      rfl
    rw [e]
    exact h
  exact fn_or G0 G1
end
end K05
end
section
set_option Elab.async false
set_option linter.all false
set_option maxRecDepth 100000
set_option maxHeartbeats 8000000
namespace K05
open PySem L2 D2
open PySem.Spec hiding Row
section
variable {P : Program} {w : World} {K : PySem.W.Frag} {mg : Str → Option Value} {base : Heap}
theorem gl3_of {L : Led} {d : D} {ds : List D} (h : Sq L d ds) : ∃ G, Gl3 L d ds G := by
  cases h with
  | lst ds => exact ⟨_, .ls (.lst _)⟩
  | fro ds => exact ⟨_, .ls (.fro _)⟩
  | tup ds => exact ⟨_, .tup _⟩
  | own h => exact ⟨_, .ls (.own h)⟩
/-! ### part_of -/
def tPartOf (C CW CB : Addr) : Ct := fun ds L P R => ∃ d1 d2, ds = [d1, d2] ∧ ((∃ n, Bt L d1 n ∧ R CW [("part", .str "world")] L) ∨ ∃ (lens : List Int) (m : Nat) (kss : List (List Row)) (o : Option (List D)), d1 = worldD C lens (m : Int) kss ∧ PW lens m kss ∧ Sd L d2 o ∧ (∀ xs, o = some xs → xs.length ≤ 2000 ∧ ∀ x ∈ xs, ∃ n, Bt L x n) ∧
  (partB m o = false → ∀ L', Lw L' L → R CB [("part", .str "places")] L') ∧ (partB m o = true → ∀ L', Lw L' L → P (worldD C lens ((((o.getD []).map intD).length : Nat) : Int) ((partR ((o.getD []).map intD) kss).map asc)) L'))
abbrev NPT : List Str := ["world", "places", "numbers", "number", "place", "kept", "part", "row"]
theorem sc_part_of : FnScope NPT ["world", "places"] (defScope s_part_of) := ⟨rfl, rfl, rfl, by decide +kernel, rfl, by decide +kernel, by decide +kernel⟩
theorem ok_part_of {f C CW CN CM CB : Addr} {fd : FuncData} (F : Fun K "part_of" "part_of" s_part_of f fd) (T : Txt0 K mg) (TW : TxtW K C) (TI : TxtI K mg C) (hset : mg "set" = none) (hall : mg "all" = none) (EW : ExcD P w K mg base "BadWorld" CW ["part"]) (EB : ExcD P w K mg base "BadMap" CB ["part"]) (G3 : Fn P w K mg base "is_row" 2 ["value", "many", "below"] tIsRow) (GM : Fn P w K mg base "moved" 1 ["rows", "names"] (tMovedX K w)) (IM : InitM P w K mg base C CW CN CM) : FnOk P w K mg base (L2.CX P w) 6 f fd ["world", "places"] (spD K (tPartOf C CW CB)) := by
  refine fn_okD F sc_part_of (fun ds L P R ⟨_, _, e, _⟩ => by rw [e]; rfl) fun cdv A0 outer s H E ds L P1 R hr ⟨d1, d2, e, q⟩ => ?_
  subst e
  have hu := hr.units
  rcases q with ⟨n, bt, r⟩ | ⟨lens, m, kss, o, rfl, pw, sd, hbt, no, yes⟩
  · refine pdb_cons (pds_ifB (t := true) (pdt_notB (t := false) (pdt_valB (pd_callB T.isinstance PyProof.Rows.Boot.«isinstance» (pda_cons (pd_name (i := 0) rfl rfl (pda_cons (pd_glob (v := .ref C) TI.gl rfl (pda_nil (cd_isiC bt.tg (.own C) (TI.no _ (bt_in bt)) ⟨rfl, rfl⟩))))))))) (fun _ => ?_) fun z => nomatch z)
    exact pdb_cons <| pds_raise (k := 3) rfl EW hr <| pda_cons <| pd_str <| pda_nil ⟨rfl, by decide, r⟩
  refine pdb_cons (pds_ifB (t := false) (pdt_notB (t := true) (pdt_valB (pd_callB T.isinstance PyProof.Rows.Boot.«isinstance» (pda_cons (pd_name (i := 0) rfl rfl (pda_cons (pd_glob (v := .ref C) TI.gl rfl (pda_nil (cd_isiC (.ins _ TI.ok) (.own C) TI.yes ⟨rfl, rfl⟩))))))))) (fun z => nomatch z) fun _ => pdb_nil ?_)
  have m6 := pw.wo.m2
  refine pdb_cons <| pds_ifB (t := !partB m o) ((pdt_orB (t := !onSeq o (rowOk none (some (m : Int)))) (u := decide ((o.getD []).length = 0) || !decide ((((o.getD []).map intD)).Nodup)) (pdt_notB <| pdt_valB <| pd_fn G3 hr (by decide) <| pda_cons <| pd_name (i := 1) rfl rfl <| pda_cons <| pd_non <| pda_cons <| pd_fld <| pd_name (i := 0) rfl rfl ⟨C, _, _, rfl, TW.cl, TW.nm, look_m _ _ _, pda_nil ⟨d2, o, none, some (m : Int), rfl, sd, fun xs e => (hbt xs e).2, rfl, rfl⟩⟩) fun ht => ?_).eqB (by rw [← Bool.or_assoc]; exact partB_not m o)) (fun ht => ?_) fun ht => ?_
  · obtain ⟨xs, rfl, hx⟩ := onSeq_some (by simpa using ht)
    obtain ⟨ex, bx⟩ := partB_row hx
    have l2 := (hbt xs rfl).1
    have sq0 : Sq L d2 xs := by
      cases sd with
      | seq h => exact h
    have sq : Sq L d2 ((xs.map intD).map D.int) := by
      rw [← ex]
      exact sq0
    refine pdt_orB (t := decide (xs.length = 0)) (u := !decide ((xs.map intD).Nodup)) (pdt_cmp <| pd_callB T.len PySem.boot_len <| pda_cons <| pd_name (i := 1) rfl rfl <| pda_nil <| cd_len sq0 <| pd_int <| od_eqT hu (x := (xs.length : Int)) (y := (0 : Int)) (.int _) (.int _) (by decide) ⟨_, rfl, decide_eq_decide.mpr (by omega), rfl⟩) fun _ => pdt_or1 <| pdt_shr <| pdt_cmp ?_
    refine pd_callB T.len PySem.boot_len <| pda_cons <| pd_callTy hset PyProof.Rows.boot_set <| pda_cons <| pd_name (i := 1) rfl rfl <| pda_nil <| cd_setSq rfl sq (by rw [List.length_map]; omega) fun p => pda_nil <| cd_lenI List.mem_cons_self (by rw [List.length_map]; omega) <| pd_callB T.len PySem.boot_len <| pda_cons <| pd_name (i := 1) rfl rfl <| pda_nil <| cd_len (sq_sub (fun e he => List.mem_cons_of_mem _ he) sq0) <| od_neT hu (x := ((ascI (xs.map intD)).length : Int)) (y := (xs.length : Int)) (.int _) (.int _) (by decide) ⟨_, rfl, L, Lw.tail.lc, ?_, rfl⟩
    have e0 : (xs.map intD).length = xs.length := List.length_map ..
    show (!decide (((ascI (xs.map intD)).length : Int) = (xs.length : Int))) = !decide ((xs.map intD).Nodup)
    congr 1
    exact decide_eq_decide.mpr ⟨fun z => ascI_len.mp (by omega), fun z => by rw [ascI_len.mpr z]; omega⟩
  · exact pdb_cons <| pds_raise (k := 3) rfl EB hr <| pda_cons <| pd_str <| pda_nil ⟨rfl, by decide, no (by simpa using ht) _ (.refl _)⟩
  have hy := partB_of (m := m) (o := o) (by simpa using ht)
  have yes := yes (by simpa using ht)
  obtain ⟨xs, rfl, hx, hne, nd⟩ := hy
  obtain ⟨ex, bx⟩ := partB_row hx
  have sq0 : Sq L d2 xs := by
    cases sd with
    | seq h => exact h
  have sq : Sq L d2 ((xs.map intD).map D.int) := by
    rw [← ex]
    exact sq0
  change ∀ L', Lw L' L → P1 (worldD C lens (((xs.map intD).length : Nat) : Int) ((partR (xs.map intD) kss).map asc)) L' at yes
  have lx : (xs.map intD).length = xs.length := List.length_map ..
  generalize xs.map intD = ps at *
  have p6 := few_nats nd bx
  have k80 : kss.length ≤ 80 := by have := paired_len pw.wo.ok; have := pw.wo.few; omega
  obtain ⟨G, gl⟩ := gl3_of sq
  refine pdb_nil <| pdb_cons <| pds_asg <| pd_dcP (i := 3) (j := 4) rfl sc_part_of.nd hu (blk_nf (N := NPT) (by decide +kernel)) (fun _ _ _ _ _ => pg_tup rfl (pgs_cons (pg_name (i := 3) sc_part_of.nd rfl (Or.inl rfl)) (pgs_cons (pg_name (i := 4) sc_part_of.nd rfl (Or.inl rfl)) pgs_nil))) ?_
  refine pdi_enumA T.enumerate <| pd_name (i := 1) rfl rfl ⟨_, G, gl, ?_⟩
  refine ⟨Nat × Int, (List.range ps.length).zip ps, fun q => .int (q.1 : Int), fun q => .int q.2, fun q => .num q.2, fun q => .int (q.1 : Int), enumD_map _ _, gl.subG, by rw [List.length_zip, List.length_range, sizeLine_eq]; omega, .inl fun q _ => rfl, ?_, ?_, fun pn => ?_⟩
  · rintro q hq Y p acc ⟨s0, H0, C0, cl0, fp0, rfl⟩
    exact pd_name (i := 4) rfl rfl ⟨rfl, rfl⟩
  · rintro q hq Y p acc ⟨s0, H0, C0, cl0, fp0, rfl⟩
    exact pd_name (i := 3) rfl rfl ⟨rfl, Lw.refl _⟩
  refine pgd_name (i := 2) sc_part_of.nd rfl ?_
  refine pdb_cons <| pds_lc1 (i := 6) (j := 5) rfl sc_part_of.nd rfl rfl (by rfl) (blkOk_by (N := NPT) (sc := defScope s_part_of) (by decide +kernel)) (fun _ _ _ _ _ => pg_name (i := 6) sc_part_of.nd rfl (Or.inl rfl)) ?_
  refine pdi_tup <| pd_fld <| pd_name (i := 0) rfl rfl ⟨C, _, _, rfl, TW.cl, TW.nr, look_r _ _ _, ?_⟩
  refine ⟨_, rfl, List Row, kss, fun ks => .tup (ks.map rowD), fun ks => .lst ((inR ps ks).map rowD), rfl, SubL.nil, by rw [sizeLine_eq]; omega, ?_, ?_⟩
  · rintro ks hks Y q acc ⟨s0, H0, C0, cl0, fp0, rfl⟩
    have k1000 := pw.wo.fewR ks hks
    refine pd_lcW1 (i := 7) rfl sc_part_of.nd (blk_in (N := NPT) (sf := defScope s_part_of) rfl (by decide +kernel)) (fun _ _ _ _ _ => pg_name (i := 7) sc_part_of.nd rfl (Or.inl rfl)) ?_
    refine pdi_tup <| pd_name (i := 6) rfl rfl ⟨_, rfl, ?_⟩
    refine ⟨Row, ks, rowD, fun k => k.all fun x => decide (x ∈ ps), rowD, rfl, SubL.nil, by rw [sizeLine_eq]; omega, ?_, ?_, ?_⟩
    · rintro k hk Y p2 acc ⟨s0, H0, C0, cl0, fp0, rfl⟩
      have k8 := (pw.wo.rows ks hks k hk).2.1
      refine pdt_valB <| pd_callB hall PyProof.Rows.boot_all <| pda_cons ?_
      refine pd_lc1 (i := 4) rfl sc_part_of.nd (blk_in (N := NPT) (sf := relS _ (defScope s_part_of)) rfl (by decide +kernel)) (fun _ _ _ _ _ => pg_name (i := 4) sc_part_of.nd rfl (Or.inl rfl)) ?_
      refine pdi_tup <| pd_name (i := 7) rfl rfl ⟨_, rfl, Int, k, D.int, fun v => .bl (decide (v ∈ ps)), rfl, SubL.nil, by rw [sizeLine_eq]; omega, ?_, ?_⟩
      · rintro v hv Y3 p3 acc3 ⟨s1, H1, C1, cl1, fp1, rfl⟩
        refine pd_cmp <| pd_name (i := 4) rfl rfl <| pd_name (i := 2) rfl rfl <| od_inD (k := .num v) hu (List.mem_cons_of_mem _ (List.mem_cons_of_mem _ (List.mem_cons_of_mem _ List.mem_cons_self))) (num_fits _ _) ⟨?_, Lw.refl _⟩
        rw [num_in]
      rw [show (k.map fun v => D.bl (decide (v ∈ ps))) = (k.map fun v => decide (v ∈ ps)).map D.bl by rw [List.map_map]; rfl]
      refine pda_nil <| cd_all rfl (.lst _) ⟨?_, rfl⟩
      rw [List.all_map]
      rfl
    · rintro k hk - Y p2 acc ⟨s0, H0, C0, cl0, fp0, rfl⟩
      exact pd_name (i := 7) rfl rfl ⟨rfl, Lw.refl _⟩
    exact ⟨rfl, Lw.refl _⟩
  obtain ⟨fI, fdI, gI, mI, bI⟩ := IM.ex
  have pwo := part_world pw.wo (ps := ps) (by omega) (by omega)
  refine pdb_cons <| pds_ret <| pd_shr <| pd_make mI gI hr IM.gl bI <| pda_cons <| pd_fld <| pd_name (i := 0) rfl rfl ⟨C, _, _, rfl, TW.cl, TW.nl, look_l _ _ _, pda_cons <| pd_callB T.len PySem.boot_len <| pda_cons <| pd_name (i := 1) rfl rfl <| pda_nil <| cd_len (sq_sub (fun e he => List.mem_cons_of_mem _ he) sq) ?_⟩
  refine pda_cons <| pd_fn GM hr (by decide) <| pda_cons <| pd_name (i := 5) rfl rfl <| pda_cons <| pd_name (i := 2) rfl rfl <| pda_nil (.inr ⟨kss.map (inR ps), pn, numKV ps, fun x => ((ps.idxOf x : Nat) : Int), by rw [List.map_map]; rfl, List.mem_cons_self, num_fits ps, by rw [List.length_map]; exact k80, fun ks hk => ?_, ?_⟩)
  · obtain ⟨ks0, hk0, rfl⟩ := List.mem_map.mp hk
    refine ⟨Nat.le_trans (inR_le _ _) (pw.wo.fewR ks0 hk0), fun k hkk => ?_⟩
    obtain ⟨h0, h1⟩ := List.mem_filter.mp hkk
    exact ⟨(pw.wo.rows ks0 hk0 k h0).2.1, fun c hc => num_at nd (of_decide_eq_true (List.all_eq_true.mp h1 c hc))⟩
  have eL : (((ps.map D.int).length : Nat) : Int) = ((ps.length : Nat) : Int) := by rw [List.length_map]
  rw [eL]
  exact pda_nil ⟨rfl, mk_ks (lens := lens) (kss := partR ps kss) (.tup _) pw.wo.h8 pw.wo.few (by omega) (by omega) ⟨_, .tl _ (.lst _)⟩ (.lst _) (ptTT _) (part_ok pw.wo.ok) (part_few fun ks hk => by have := pw.wo.fewR ks hk; omega) pwo.tot ⟨L, Lw.tail.lc, yes _ (.refl _)⟩⟩
end
end K05
end
section
set_option Elab.async false
set_option linter.all false
set_option maxRecDepth 100000
set_option maxHeartbeats 2000000
/-! texts at data: walked, cut, repeated, listed, joined -/
namespace D2
open PySem PySem.Spec PyProof.Rows L2
/-- the signs of a text -/
def signs (x : Str) : List Str := x.cps.toList.map fun c => ⟨#[c]⟩
def signD (x : Str) : List D := (signs x).map D.str
theorem signs_len (x : Str) : (signs x).length = x.length := by
  unfold signs
  rw [List.length_map, Array.length_toList]
  rfl
theorem pair_get {α β : Type} {R : α → β → Prop} : ∀ {a : List α} {b : List β}, a.length = b.length → (∀ (j : Nat) x y, a[j]? = some x → b[j]? = some y → R x y) → Paired R a b
  | [], [], _, _ => .nil
  | [], _ :: _, h, _ => by cases h
  | _ :: _, [], h, _ => by cases h
  | x :: a, y :: b, h, q => .cons (q 0 x y rfl rfl) (pair_get (Nat.succ.inj h) fun j u v h1 h2 => q (j + 1) u v h1 h2)
theorem isl_strs {K : PySem.W.Frag} {F : Hp} : ∀ ys : List Str, IsL K F (ys.map V.str) (ys.map D.str)
  | [] => .nil
  | y :: ys => .cons (.sc _) (isl_strs ys)
theorem isl_back {K : PySem.W.Frag} {F : Hp} : ∀ {xs : List V} {ys : List Str}, IsL K F xs (ys.map D.str) → xs = ys.map V.str
  | _, [], .nil => rfl
  | _, y :: ys, .cons h t => by
    cases h
    rw [isl_back t]
    rfl
theorem reps_size (a : Array Nat) : ∀ (n : Nat) (acc : Array Nat), ((List.replicate n a).foldl (· ++ ·) acc).size = acc.size + n * a.size
  | 0, acc => by simp
  | n + 1, acc => by
    rw [List.replicate_succ, List.foldl_cons, reps_size a n, Array.size_append, Nat.succ_mul]
    omega
section
variable {X : Cx} {ρ : Rho} {L : Led} {P : PK1} {R : RK1} {pos : Pos} {e : Expr}
theorem itis_s {K : PySem.W.Frag} {F : Hp} (x : Str) : ItIs K F (Its x) (signD x) [] := fun H F' L s o _ i => by
  refine ⟨fun hl => ?_, fun d hd => ?_⟩
  · unfold signD at hl
    rw [List.length_map, signs_len] at hl
    exact hl
  · unfold signD signs at hd
    rw [List.map_map, List.getElem?_map, Array.getElem?_toList] at hd
    obtain ⟨c, hc, rfl⟩ := Option.map_eq_some_iff.mp hd
    refine ⟨(Array.getElem?_eq_some_iff.mp hc).1, fun y H' ⟨e1, c2, h2, e2⟩ => ?_⟩
    subst e1 e2
    rw [hc] at h2
    cases h2
    exact ⟨F', Same.refl _, o, .sc _⟩
theorem pdi_str {tg : Expr} {P : List D → Led → Led → Prop} (h : PD X e ρ L (fun d L1 => ∃ x, d = .str x ∧ P (signD x) [] L1) R) : PDI X tg e ρ L P R := pdi_of (pi_str pe_w) fun σ H F W A => h.step A fun v H1 F1 d L1 s1 A1 i1 ⟨x, hd, q⟩ => by
  subst hd
  cases i1
  exact ⟨x, rfl, F1, _, [], L1, s1, A1.own, itis_s x, q⟩
theorem sld_str {x : Str} {lo hi : Option Int} (hl : x.length ≤ sizeLine) (h : P (.str (cutS x lo hi)) L) : SlD X (.str x) lo hi L P := ⟨_, sl_str, fun H F y o iy => by
  cases iy
  exact ⟨x, rfl, hl, upV.here o (.sc _) h⟩⟩
theorem od_repS {x : Str} {n : Int} (h0 : 0 ≤ n) (hn : n < 2 ^ 20) (hl : x.length ≤ 1) (h : ∀ y : Str, P (.str y) L) : OpD X (binaryOp .Mult) (.str x) (.int n) L P := fun pins s σ H F v u a b o ix iy I rx ry => by
  cases ix
  cases iy
  obtain ⟨t, rfl⟩ := rx
  obtain ⟨u, rfl⟩ := ry
  have xs1 : x.cps.size ≤ 1 := hl
  have big : sizeLine = 16777216 := sizeLine_eq
  have fin : ∀ y : Str, y.length ≤ sizeLine → Made.post (.str y) (EP X pins σ (upV X.K F P)) s := fun y hy => ⟨hy, .str y, H, I.tok _, ⟨_, rfl⟩, upV.here o (.sc _) (h y)⟩
  have one : n.toNat * x.cps.size ≤ 2 ^ 20 := by
    have := Nat.mul_le_mul (show n.toNat ≤ 2 ^ 20 by omega) xs1
    omega
  refine PySem.P.mul_str (by simp; omega) (fun h1 _ => ?_) (fun _ _ => ?_) ?_
  · have : 1 ≤ (2 ^ 63 - 1) / n := Int.le_ediv_of_mul_le (by omega) (by omega)
    show ¬ ((x.cps.size : Int) > _)
    omega
  · have z : x.length * n.toNat ≤ 2 ^ 20 := by rw [Nat.mul_comm]; exact one
    exact decide_eq_false (show ¬ (x.length * n.toNat > sizeLine) by omega)
  · split
    · exact fin Str.empty (Nat.zero_le _)
    · split
      · exact ⟨.str x, H, I, ⟨_, rfl⟩, upV.here o (.sc _) (h x)⟩
      · refine fin _ ?_
        show ((List.replicate n.toNat x.cps).foldl (· ++ ·) #[]).size ≤ _
        rw [reps_size]
        show 0 + _ ≤ _
        omega
theorem cd_listS (hc : X.calm = true) {x : Str} (hl : x.length ≤ sizeLine) (h : P (.lst (signD x)) L) : CallD X (.type "list") [.str x] L P := fun pins s σ H F xs us o ix I r => by
  obtain ⟨v, rfl, i⟩ := isl1 ix
  obtain ⟨u, rfl, ru⟩ := vals1 r
  cases i
  obtain ⟨t, rfl⟩ := ru
  refine call_list_str (I.ok.hd hc) x t (fun h' tk acc c hk hS hacc => ?_) hl
  have vs : Vals ((signs x).map V.str) acc.toList := by
    refine pair_get (by rw [List.length_map, signs_len, Array.length_toList]; exact hacc.1.symm) fun j a b ha hb => ?_
    rw [Array.getElem?_toList] at hb
    obtain ⟨c2, u2, e1, e2⟩ := hacc.2 j b hb
    unfold signs at ha
    rw [List.map_map, List.getElem?_map, Array.getElem?_toList, e1] at ha
    cases ha
    exact ⟨u2, e2⟩
  have hn : H s.heap.objs.size = none := I.hok.fresh (Nat.le_refl _)
  obtain ⟨s2, o2⟩ := o.froze (o := .lst ((signs x).map V.str)) hn
  refine ⟨.ref s.heap.objs.size, upd H s.heap.objs.size (.lst ((signs x).map V.str)), I.laid (t' := tk) hk (Nat.le_refl _) (show ObjOk X.prog X.w _ _ _ (.lst ((signs x).map V.str)) from ⟨by rw [List.length_map, signs_len]; exact hl, acc.toList, c, vs, by rw [Array.toArray_toList]; exact hS⟩), rfl, _, _, L, s2, o2, .lst upd_same ?_, h⟩
  unfold signD
  exact isl_strs _
theorem pd_join {j : Nat} {cp apos : Pos} {a : Str} (h : PD X e ρ L (fun d L1 => ∃ ys : List Str, d = .lst (ys.map D.str) ∧ (ys.map (·.length)).sum + ys.length * a.length ≤ 16777216 ∧ P (.str (Txt.join a ys)) L1) R) (hs : starEach [e] X.env = [(false, eval e X.env)] := by rfl)
    (hbase : attributeBase (.Constant (.str a) j cp) "join" X.env (eval (.Constant (.str a) j cp) X.env) = eval (.Constant (.str a) j cp) X.env := by rfl) (hline : (apos.endLine == pos.line) = true := by rfl) : PD X (.Call (.Attribute (.Constant (.str a) j cp) "join" apos) [e] [] pos) ρ L P R :=
  pd_of (pe_join pe_str pe_w hs hbase hline) fun σ H F W A => ⟨⟨a, rfl⟩, h.step A fun v H1 F1 d L1 s1 A1 i1 ⟨ys, ed, hl, q⟩ => by
    subst ed
    cases i1 with
    | lst h1 h2 =>
      have e2 := isl_back h2
      rw [e2] at h1
      exact ⟨a, _, ys, rfl, rfl, .inl (SqL.of (A1.own.sub _ _ h1)), hl, ⟨F1, .str _, L1, s1, A1.own, .sc _, q⟩⟩⟩
end
/-- texts put together with nothing between: their signs -/
theorem join_signs : ∀ ys : List Str, signs (Txt.join Str.empty ys) = (ys.map signs).flatten := fun ys => by
  have e : (Txt.join Str.empty ys).cps.toList = (ys.map fun y => y.cps.toList).flatten := by
    have h := (congrArg TL.tl (TL.join_eq Str.empty ys)).trans (TL.tl_join Str.empty ys)
    have flat : ∀ ps : List (List Nat), TL.joinL [] ps = ps.flatten := fun ps => by
      induction ps with
      | nil => rfl
      | cons p ps ih =>
        cases ps with
        | nil => exact (List.append_nil p).symm
        | cons q r =>
          show p ++ ([] ++ TL.joinL [] (q :: r)) = p ++ (q :: r).flatten
          rw [ih]
          rfl
    exact h.trans (flat _)
  unfold signs
  rw [e, List.map_flatten, List.map_map]
  rfl
end D2
end
section
set_option Elab.async false
set_option linter.all false
set_option maxRecDepth 100000
set_option maxHeartbeats 4000000
namespace D2
open PySem PySem.Spec PyProof.Rows L2
section
variable {X : Cx} {e iter elt tg : Expr} {ifs : List Expr} {ρ : Rho} {L : Led} {P : PK1} {R : RK1} {E : DE} {pos : Pos} {scope : Scope}
/-- z = [elt for y in iter if ..] -/
theorem pds_lcW1 {i j : Nat} {y z : Str} {py pz spos : Pos} (hc : X.calm = true) (hN : X.N.Nodup) (hy : X.N[j]? = some z) (hyl : X.env.scope.names.lookup z = some .local)
    (hsw : swapsWith (.ListComp elt [⟨.Name y py, iter, ifs, 0⟩] scope pos) (some (.Name z pz)) spos.line X.env = pure true) (ok : BlkOk X.N X.env.scope scope [(y, i)])
    (hg : ∀ (s : Shared) (H : Hp) (C : Addr) (cl : List (Str × Addr)) (fp : List Addr), PG (X.blk s H scope (compEnvC scope cl C X.env) fp) (.Name y py) (gName i))
    (h : PDI X (.Name y py) iter ρ L (LcTW X elt ifs scope [i] (fun d => [(i, d)]) ρ · · · fun d L2 => E.nx (ρ.set j (some d)) L2) (E.ex ρ))
    (hs : ∀ x, foldedSetIterable iter X.env x = pure x := by intro _; rfl) : PDS X (.Assign [.Name z pz] (.ListComp elt [⟨.Name y py, iter, ifs, 0⟩] scope pos) spos) E ρ L :=
  pds_setLcF (own := [(y, i)]) (g := gName i) hc hN hy hyl hsw ok hg (h.mono fun ds G L1 q => lcTW (fun d _ => gd_name) (fun d u hu => by rw [List.mem_singleton.mp hu]; exact List.mem_singleton.mpr rfl) q) hs
theorem od_notInTT {α : Type} [DecidableEq α] [W.Datum α] {da db : D} {x : α} {ys : List α} (hu : X.A.units + 64 < cLine) (a : DP L da (W.Datum.toD x)) (b : DP L db (W.Datum.toD (W.Tup.mk ys))) (hd : W.Datum.depth α ≤ 60) (h : P (.bl (!decide (x ∈ ys))) L) : OpD X (compareOp .NotIn) da db L P :=
  od_notInT (ps := ys.map W.Datum.toD) hu a b (Nat.le_trans (W.Datum.depth_le x) hd) (by rw [W.any_datum]; exact h)
end
end D2
end
section
set_option Elab.async false
set_option linter.all false
set_option maxRecDepth 100000
set_option maxHeartbeats 8000000
namespace K05
open PySem L2 D2
open PySem.Spec hiding Row
abbrev s_is_code : Stmt := top 5
abbrev s_law_is_number : Stmt := top 33
abbrev zeroOne : List Str := ["0", "1"]
def codeB (x : Str) : Bool := decide (x.length ≤ 16) && (signs x).all fun s => decide (s ∈ zeroOne)
def isCode : D → Bool
  | .sc (.str x) => codeB x
  | _ => false
section
variable {P : Program} {w : World} {K : PySem.W.Frag} {mg : Str → Option Value} {base : Heap}
structure TxtC (mg : Str → Option Value) : Prop where
  st : mg "str" = none
  letters : ∃ t, mg "MOST_LETTERS" = some (.int 16 t)
def tIsCode : Ct := fun ds L P R => ∃ d n, ds = [d] ∧ Bt L d n ∧ (∀ x : Str, d = .str x → x.length ≤ sizeLine) ∧ P (.bl (isCode d)) L
theorem sc_is_code : FnScope ["value", "sign"] ["value"] (defScope s_is_code) := ⟨rfl, rfl, rfl, by decide +kernel, rfl, by decide +kernel, by decide +kernel⟩
theorem ok_is_code {f : Addr} {fd : FuncData} (F : Fun K "is_code" "is_code" s_is_code f fd) (T : Txt0 K mg) (TC : TxtC mg) : FnOk P w K mg base (L2.CX P w) 1 f fd ["value"] (spD K tIsCode) := by
  refine fn_okD F sc_is_code (fun ds L P R ⟨d, n, e, _⟩ => by rw [e]; rfl) fun cdv A outer s H E ds L P1 R hr ⟨d, n, e, g, hl, h⟩ => ?_
  subst e
  have hu := hr.units
  obtain ⟨tl, hml⟩ := TC.letters
  have key : kitB n "str" = some (decide (n = "str")) := by
    cases g <;> decide +kernel
  by_cases hn : n = "str"
  · obtain ⟨x, rfl⟩ : ∃ x : Str, d = .str x := by
      cases g with
      | str x => exact ⟨x, rfl⟩
      | _ => exact absurd hn (by decide)
    have hl := hl x rfl
    refine pdb_cons <| pds_ifB (t := decide (16 < (x.length : Int))) ((pdt_orB (t := false) (u := decide (16 < (x.length : Int))) (pdt_notB (t := true) <| pdt_valB <| pd_callB T.isinstance PyProof.Rows.Boot.«isinstance» <| pda_cons <| pd_name (i := 0) rfl rfl <| pda_cons <| pd_bltn (u := .type "str") (v := .ty "str") TC.st (by rfl) rfl <| pda_nil <| cd_isiC g.tg (.ty "str") (kit_ty key) ⟨by rw [decide_eq_true hn], rfl⟩) fun _ => pdt_or1 <| pdt_cmp <| pd_callB T.len PySem.boot_len <| pda_cons <| pd_name (i := 0) rfl rfl <| pda_nil <| cd_lenS hl <| pd_globI hml <| od_gtI ⟨_, rfl, rfl, rfl⟩).eqB (Bool.false_or _)) (fun ht => ?_) fun ht => pdb_nil ?_
    · refine pdb_cons <| pds_ret <| pd_bl ?_
      have e : isCode (.str x) = false := by
        show codeB x = false
        unfold codeB
        rw [decide_eq_false (by have := of_decide_eq_true ht; omega)]
        rfl
      rw [e] at h
      exact h
    have l16 : x.length ≤ 16 := by have := of_decide_eq_false ht; omega
    have ec : isCode (.str x) = (signs x).all fun s => decide (s ∈ zeroOne) := by
      show codeB x = _
      unfold codeB
      rw [decide_eq_true l16]
      rfl
    rw [ec] at h
    refine pdb_cons <| pds_forT rfl PassesOwn.leaving <| pdi_str <| pd_name (i := 0) rfl rfl ⟨x, rfl, ?_⟩
    refine ⟨Str, signs x, D.str, fun pre ρ L2 => ∃ z, ρ = [some (.str x), z] ∧ L2 = L ∧ (pre.all fun s => decide (s ∈ zeroOne)) = true, rfl, ⟨none, rfl, rfl, rfl⟩, fun _ _ _ _ => SubL.nil, ?_, ?_⟩
    · rintro pre y post ρ1 L2 eg ⟨z, rfl, rfl, ha⟩
      refine pgd_name (i := 1) sc_is_code.nd rfl ?_
      refine pdb_cons <| pds_if <| pdt_cmp <| pd_name (i := 1) rfl rfl <| pd_tup <| pda_cons <| pd_str <| pda_cons <| pd_str <| pda_nil ⟨by show 2 ≤ sizeLine; decide, od_notInTT (x := y) (ys := zeroOne) hu (.str _) (.tup (.cons (.str _) (.cons (.str _) .nil))) (by decide) ⟨_, rfl, ?_⟩⟩
      by_cases hy : y ∈ zeroOne
      · rw [if_neg (by rw [decide_eq_true hy]; decide)]
        refine pdb_nil <| pdb_nil ⟨_, rfl, rfl, ?_⟩
        rw [List.all_append, ha, List.all_cons, decide_eq_true hy]
        rfl
      · rw [if_pos (by rw [decide_eq_false hy]; rfl)]
        refine pdb_cons <| pds_ret <| pd_bl ?_
        have e : ((signs x).all fun s => decide (s ∈ zeroOne)) = false := List.all_eq_false.mpr ⟨y, by rw [eg]; exact List.mem_append_right _ List.mem_cons_self, by rw [decide_eq_false hy]; decide⟩
        rw [e] at h
        exact h
    · rintro ρ1 L2 ⟨z, rfl, rfl, ha⟩
      rw [ha] at h
      exact pdb_cons <| pds_ret <| pd_bl h
  · have e : isCode d = false := by
      cases g with
      | str x => exact absurd rfl hn
      | _ => rfl
    rw [e] at h
    refine pdb_cons <| pds_ifB (t := true) ((pdt_orB (t := true) (u := true) (pdt_notB (t := false) <| pdt_valB <| pd_callB T.isinstance PyProof.Rows.Boot.«isinstance» <| pda_cons <| pd_name (i := 0) rfl rfl <| pda_cons <| pd_bltn (u := .type "str") (v := .ty "str") TC.st (by rfl) rfl <| pda_nil <| cd_isiC g.tg (.ty "str") (kit_ty key) ⟨by rw [decide_eq_false hn], rfl⟩) fun z => nomatch z).eqB rfl) (fun _ => ?_) fun z => nomatch z
    exact pdb_cons <| pds_ret <| pd_bl h
/-! ### _law_is_number -/
theorem sc_law_is_number : FnScope ["value"] ["value"] (defScope s_law_is_number) := ⟨rfl, rfl, rfl, by decide +kernel, rfl, by decide +kernel, by decide +kernel⟩
theorem ok_law_is_number {f : Addr} {fd : FuncData} (F : Fun K "_law_is_number" "_law_is_number" s_law_is_number f fd) (T : Txt0 K mg) : FnOk P w K mg base (L2.CX P w) 1 f fd ["value"] (spD K tIsInteger) := by
  refine fn_okD F sc_law_is_number (fun ds L P R ⟨d, n, e, _⟩ => by rw [e]; rfl) fun cdv A outer s H E ds L P1 R hr ⟨d, n, e, g, h⟩ => ?_
  subst e
  refine pdb_cons (pds_ret ?_)
  refine pd_and (pd_callB T.isinstance PyProof.Rows.Boot.«isinstance» ?_)
  refine pda_cons (pd_name (i := 0) rfl rfl ?_)
  refine pda_cons (pd_bltn (u := .type "int") (v := .ty "int") T.int (by rfl) rfl ?_)
  refine pda_nil ?_
  have key : kitB n "int" = some (decide (n = "int" ∨ n = "bool")) ∧ kitB n "bool" = some (decide (n = "bool")) ∧ isInt d = (decide (n = "int" ∨ n = "bool") && !decide (n = "bool")) := by
    cases g <;> exact ⟨by decide +kernel, by decide +kernel, rfl⟩
  refine cd_isiC g.tg (.ty "int") (kit_ty key.1) ?_
  show if decide (n = "int" ∨ n = "bool") = true then _ else _
  by_cases c : n = "int" ∨ n = "bool"
  · rw [if_pos (decide_eq_true c)]
    refine pd_one (pd_not (pd_callB T.isinstance PyProof.Rows.Boot.«isinstance» ?_))
    refine pda_cons (pd_name (i := 0) rfl rfl ?_)
    refine pda_cons (pd_bltn (u := .type "bool") (v := .ty "bool") T.bool (by rfl) rfl ?_)
    refine pda_nil ?_
    refine cd_isiC g.tg (.ty "bool") (kit_ty key.2.1) ?_
    show P1 (.bl (!decide (n = "bool"))) L
    rw [key.2.2, decide_eq_true c] at h
    exact h
  · rw [if_neg (by rw [decide_eq_false c]; decide)]
    rw [key.2.2] at h
    rw [decide_eq_false c] at h ⊢
    exact h
end
end K05
end
section
set_option Elab.async false
set_option linter.all false
set_option maxRecDepth 100000
set_option maxHeartbeats 8000000
namespace K05
open PySem L2 D2
open PySem.Spec hiding Row
abbrev s_law_told : Stmt := top 29
abbrev s_law_parts : Stmt := top 32
section
variable {P : Program} {w : World} {K : PySem.W.Frag} {mg : Str → Option Value} {base : Heap}
structure TxtT (K : PySem.W.Frag) (mg : Str → Option Value) (CW CN CB CJ : Addr) : Prop where
  gW : mg "BadWorld" = some (.ref CW)
  gN : mg "BadNumber" = some (.ref CN)
  gB : mg "BadMap" = some (.ref CB)
  gJ : mg "JustError" = some (.ref CJ)
  ww : PySem.W.exmOne K (.ref CW) (.ref CW) = some true
  nw : PySem.W.exmOne K (.ref CN) (.ref CW) = some false
  nn : PySem.W.exmOne K (.ref CN) (.ref CN) = some true
  bw : PySem.W.exmOne K (.ref CB) (.ref CW) = some false
  bb : PySem.W.exmOne K (.ref CB) (.ref CB) = some true
  xw : XfC K CW
  xn : XfC K CN
  xb : XfC K CB
  pw : PySem.W.findIn K (.ref CW) "part" = some none
  pn : PySem.W.findIn K (.ref CN) "part" = some none
  pb : PySem.W.findIn K (.ref CB) "part" = some none
/-- what is told of what would be a world -/
inductive TRel (L : Led) : D → D → D → D → Prop
  | lengths {dl dm dr : D} {o : Option (List D)} {n : String} (sd : Sd L dl o) (bt : ∀ xs, o = some xs → ∀ y ∈ xs, ∃ n, Bt L y n) (bm : Bt L dm n) (h : onSeq o lenOk = false) : TRel L dl dm dr (.tup [.str "world", .str "lengths"])
  | many {dl dm dr : D} {lens : List Int} {n : String} (sq : Sq L dl (lens.map D.int)) (h8 : ∀ n ∈ lens, 1 ≤ n ∧ n ≤ 8) (hl : lens.length ≤ 80) (bm : Bt L dm n) (h : within (some 1) (some 600) dm = false) : TRel L dl dm dr (.tup [.str "number", .str "many"])
  | rows {dl dr : D} {many : Int} {lens : List Int} {o : Option (List PartD)} (sq : Sq L dl (lens.map D.int)) (h8 : ∀ n ∈ lens, 1 ≤ n ∧ n ≤ 8) (hl : lens.length ≤ 80) (m1 : 1 ≤ many) (m2 : many ≤ 600) (ho : RowsD L dl lens dr o) (few : ∀ ps, o = some ps → ∀ p ∈ ps, (keysOf p).length ≤ 1228) (h : onParts o (rowsOk lens many) = false) : TRel L dl (.int many) dr (.tup [.str "world", .str "rows"])
  | good {dl dr : D} {many : Int} {lens : List Int} {dps : List D} {kss : List (List Row)} (sq : Sq L dl (lens.map D.int)) (h8 : ∀ n ∈ lens, 1 ≤ n ∧ n ≤ 8) (hl : lens.length ≤ 80) (m1 : 1 ≤ many) (m2 : many ≤ 600) (zp : ∃ G, Zp L dl dr (lens.map D.int) dps G) (sr : Sq L dr dps) (hp : Paired (PtK L) dps kss) (ok : Paired (fun n ks => okRows n many ks) lens kss) (few : ∀ ks ∈ kss, ks.length ≤ 1228) (tot : total (kss.map asc) ≤ 1000) : TRel L dl (.int many) dr .non
def tTold : Ct := fun ds L P R => ∃ dl dm dr out, ds = [dl, dm, dr] ∧ TRel L dl dm dr out ∧ ∀ L', Lw L' L → P out L'
abbrev NTO : List Str := ["lengths", "many", "rows", "told", "error"]
theorem sc_law_told : FnScope NTO ["lengths", "many", "rows"] (defScope s_law_told) := ⟨rfl, rfl, rfl, by decide +kernel, rfl, by decide +kernel, by decide +kernel⟩
theorem ok_law_told {f C CW CN CM CB CJ : Addr} {fd : FuncData} (F : Fun K "_law_told" "_law_told" s_law_told f fd) (TT : TxtT K mg CW CN CB CJ) (IM : InitM P w K mg base C CW CN CM) : FnOk P w K mg base (L2.CX P w) 6 f fd ["lengths", "many", "rows"] (spD K tTold) := by
  refine fn_okD F sc_law_told (fun ds L P R ⟨_, _, _, _, e, _⟩ => by rw [e]; rfl) fun cdv A outer s H E ds L P1 R hr ⟨dl, dm, dr, out, e, rel, h⟩ => ?_
  subst e
  obtain ⟨fI, fdI, gI, mI, bI⟩ := IM.ex
  refine pdb_cons <| pds_asg <| pd_non <| pgd_name (i := 3) sc_law_told.nd rfl ?_
  refine pdb_cons <| pds_try (l := [⟨.ref CW, some 4, _⟩, ⟨.ref CN, some 4, _⟩, ⟨.ref CJ, some 4, _⟩]) rfl rfl sc_law_told.nd (.named ⟨rfl, by decide, .inl TT.gW⟩ rfl rfl <| .named ⟨rfl, by decide, .inl TT.gN⟩ rfl rfl <| .named ⟨rfl, by decide, .inl TT.gJ⟩ rfl rfl .nil) fun pn xe po => ?_
  refine pdb_cons <| pds_expr <| pd_make mI gI (hr.mono (by decide)) IM.gl bI <| pda_cons <| pd_name (i := 0) rfl rfl <| pda_cons <| pd_name (i := 1) rfl rfl <| pda_cons <| pd_name (i := 2) rfl rfl <| pda_nil ⟨rfl, ?_⟩
  cases rel with
  | lengths sd bt bm h0 =>
    refine fun x dx => ⟨x, dx, dl, dm, dr, _, _, L, rfl, rfl, sd, bt, bm, fun _ L' lw => ⟨true, TT.ww, ?_⟩, fun z => (by rw [h0] at z; cases z), fun lens many e1 e2 => (by rw [h0] at e2; cases e2)⟩
    · intro a dd oe pn hz hf
      refine pdb_cons <| pds_asg <| pd_tup <| pda_cons <| pd_str <| pda_cons <| pd_xf TT.xw TT.pw hz hf (i := 4) rfl rfl rfl <| pda_nil ⟨by show 2 ≤ sizeLine; decide, pgd_name (i := 3) sc_law_told.nd rfl <| pdb_nil ?_⟩
      show PDB _ [_] _ _ L'
      exact pdb_cons <| pds_ret <| pd_name (i := 3) rfl rfl (h L' lw)
  | many sq h8 hl bm h0 =>
    rename_i lens n
    refine fun x dx => ⟨x, dx, dl, dm, dr, some (lens.map D.int), n, L, rfl, rfl, .seq sq, fun xs e y hy => (by cases e; exact bt_int y hy), bm, fun z => (by rw [lenOk_of h8 hl] at z; cases z), fun _ _ L' lw => ⟨false, TT.nw, ?_⟩, fun lens' many' e1 e2 e3 m1 m2 => ?_⟩
    · show exTries _ _ [_, _] _ _ _ _
      refine ⟨true, TT.nn, ?_⟩
      intro a dd oe pn hz hf
      refine pdb_cons <| pds_asg <| pd_tup <| pda_cons <| pd_str <| pda_cons <| pd_xf TT.xn TT.pn hz hf (i := 4) rfl rfl rfl <| pda_nil ⟨by show 2 ≤ sizeLine; decide, pgd_name (i := 3) sc_law_told.nd rfl <| pdb_nil ?_⟩
      show PDB _ [_] _ _ L'
      exact pdb_cons <| pds_ret <| pd_name (i := 3) rfl rfl (h L' lw)
    · rw [e3, within_int] at h0
      have h0 : (decide (1 ≤ many') && decide (many' ≤ 600)) = false := h0
      rw [decide_eq_true m1, decide_eq_true m2] at h0
      cases h0
  | rows sq h8 hl m1 m2 ho few h0 =>
    refine mk_world sq h8 hl m1 m2 ho few (fun _ L' lw => ⟨true, TT.ww, ?_⟩) (fun ps e hok => ?_) fun ps e hok => ?_
    · intro a dd oe pn hz hf
      refine pdb_cons <| pds_asg <| pd_tup <| pda_cons <| pd_str <| pda_cons <| pd_xf TT.xw TT.pw hz hf (i := 4) rfl rfl rfl <| pda_nil ⟨by show 2 ≤ sizeLine; decide, pgd_name (i := 3) sc_law_told.nd rfl <| pdb_nil ?_⟩
      show PDB _ [_] _ _ L'
      exact pdb_cons <| pds_ret <| pd_name (i := 3) rfl rfl (h L' lw)
    · rw [e] at h0
      have h0 : rowsOk _ _ ps = false := h0
      rw [hok] at h0
      cases h0
    · rw [e] at h0
      have h0 : rowsOk _ _ ps = false := h0
      rw [hok] at h0
      cases h0
  | good sq h8 hl m1 m2 zp sr hp ok few tot =>
    refine mk_ks sq h8 hl m1 m2 zp sr hp ok few tot ?_
    refine pdb_nil ?_
    show PDB _ [_] _ _ L
    exact pdb_cons <| pds_ret <| pd_name (i := 3) rfl rfl (h L (.refl _))
/-! ### _law_parts -/
def tParts (C : Addr) : Ct := fun ds L P R => ∃ (lens : List Int) (m : Nat) (kss : List (List Row)), ds = [worldD C lens (m : Int) kss, .lst [.int 0]] ∧ PW lens m kss ∧ ∀ L', Lw L' L → P (.lst [.tup [.str "world", .str "world"], .tup [.str "world", .str "world"], .tup [.str "world", .str "world"], .tup [.str "world", .str "other"], .tup [.str "map", .str "places"]]) L'
abbrev NPA : List Str := ["world", "names", "told", "way", "caught", "error"]
theorem sc_law_parts : FnScope NPA ["world", "names"] (defScope s_law_parts) := ⟨rfl, rfl, rfl, by decide +kernel, rfl, by decide +kernel, by decide +kernel⟩
theorem rng_pre {n : Nat} {pre post : List Nat} {x : Nat} (h : List.range n = pre ++ x :: post) : x = pre.length ∧ x < n := by
  have e : (List.range n)[pre.length]? = some x := by rw [h]; simp
  have hl := (List.getElem?_eq_some_iff.mp e).1
  rw [List.length_range] at hl
  rw [List.getElem?_range hl] at e
  have := Option.some.inj e
  omega
abbrev five : List (Str × Str) := [("world", "world"), ("world", "world"), ("world", "world"), ("world", "other"), ("map", "places")]
def prD (p : Str × Str) : D := .tup [.str p.1, .str p.2]
theorem ok_law_parts {f C CW CN CB CJ : Addr} {fd : FuncData} (F : Fun K "_law_parts" "_law_parts" s_law_parts f fd) (T : Txt0 K mg) (TT : TxtT K mg CW CN CB CJ) (GR : Fn P w K mg base "renamed" 6 ["world", "names"] (tRenamed C CW CB)) (GP : Fn P w K mg base "part_of" 6 ["world", "places"] (tPartOf C CW CB)) (GT : Fn P w K mg base "is_two_way" 6 ["world", "other", "value"] (tTwoWay C CW)) : FnOk P w K mg base (L2.CX P w) 7 f fd ["world", "names"] (spD K (tParts C)) := by
  refine fn_okD F sc_law_parts (fun ds L P R ⟨_, _, _, e, _⟩ => by rw [e]; rfl) fun cdv A outer s H E ds L P1 R hr ⟨lens, m, kss, e, pw, h⟩ => ?_
  subst e
  have hu := hr.units
  refine pdb_cons <| pds_asg <| pd_lst <| pda_nil ⟨by show 0 ≤ sizeLine; decide, fun q => pgd_name (i := 2) sc_law_parts.nd rfl ?_⟩
  refine pdb_cons <| pds_forT rfl PassesOwn.leaving <| pdi_range1 T.range <| pd_int ⟨5, rfl, by decide, by decide, ?_⟩
  refine ⟨Nat, List.range (5 : Int).toNat, _, fun ip ρ L3 => ∃ z3 z4, ρ = [some (worldD C lens (m : Int) kss), some (.lst [.int 0]), some (.ref q), z3, z4, none] ∧ L3 = (q, .lst ((five.take ip.length).map prD)) :: L, rngD_map _, ⟨none, none, rfl, rfl⟩, fun _ _ _ _ => SubL.nil, ?_, ?_⟩
  · rintro ip x ip2 ρ1 L3 eg2 ⟨z3, z4, rfl, rfl⟩
    obtain ⟨ex, xl⟩ := rng_pre eg2
    have xl : x < 5 := xl
    have hip : ip.length = x := ex.symm
    rw [hip]
    refine pgd_name (i := 3) sc_law_parts.nd rfl ?_
    refine pdb_cons <| pds_asg <| pd_non <| pgd_name (i := 4) sc_law_parts.nd rfl ?_
    refine pdb_cons <| pds_try (l := [⟨.ref CW, some 5, _⟩, ⟨.ref CB, some 5, _⟩]) rfl rfl sc_law_parts.nd (.named ⟨rfl, by decide, .inl TT.gW⟩ rfl rfl <| .named ⟨rfl, by decide, .inl TT.gB⟩ rfl rfl .nil) fun pn xe po => ?_
    have e0 : x = 0 ∨ x = 1 ∨ x = 2 ∨ x = 3 ∨ x = 4 := by omega
    rcases e0 with rfl | rfl | rfl | rfl | rfl
    · refine pdb_cons <| pds_ifB (t := true) (pdt_cmp <| pd_name (i := 3) rfl rfl <| pd_int <| od_eqT hu (x := (0 : Int)) (y := (0 : Int)) (.int _) (.int _) (by decide) ⟨_, rfl, rfl, rfl⟩) (fun _ => ?_) fun z => nomatch z
      refine pdb_cons <| pds_expr <| pd_fn GR hr (by decide) <| pda_cons <| pd_non <| pda_cons <| pd_lstF <| pda_cons <| pd_non <| pda_nil ⟨by show 1 ≤ sizeLine; decide, pda_nil ⟨_, _, rfl, .inl ⟨_, .non, true, TT.ww, ?_⟩⟩⟩
      intro a dd oe pn hz hf
      refine pdb_cons <| pds_asg <| pd_tup <| pda_cons <| pd_str <| pda_cons <| pd_xf TT.xw TT.pw hz hf (i := 5) rfl rfl rfl <| pda_nil ⟨by show 2 ≤ sizeLine; decide, pgd_name (i := 4) sc_law_parts.nd rfl <| pdb_nil ?_⟩
      show PDB _ [_] _ _ ((q, .lst ((five.take 0).map prD)) :: L)
      refine pdb_cons <| pds_expr <| pd_bm PySem.F.plainAttrs_list PySem.F.slot_list_append PySem.F.type_list_append <| pd_name (i := 2) rfl rfl ⟨⟨rfl, _, List.mem_cons_self⟩, pda_cons <| pd_name (i := 4) rfl rfl <| pda_nil <| md_append .here (by rw [sizeLine_eq]; decide) <| pdb_nil ⟨_, _, rfl, ?_⟩⟩
      rw [List.length_append, hip]
      rfl
    · refine pdb_cons <| pds_ifB (t := false) (pdt_cmp <| pd_name (i := 3) rfl rfl <| pd_int <| od_eqT hu (x := (1 : Int)) (y := (0 : Int)) (.int _) (.int _) (by decide) ⟨_, rfl, rfl, rfl⟩) (fun z => nomatch z) fun _ => ?_
      refine pdb_cons <| pds_ifB (t := true) (pdt_cmp <| pd_name (i := 3) rfl rfl <| pd_int <| od_eqT hu (x := (1 : Int)) (y := (1 : Int)) (.int _) (.int _) (by decide) ⟨_, rfl, rfl, rfl⟩) (fun _ => ?_) fun z => nomatch z
      refine pdb_cons <| pds_expr <| pd_fn GP hr (by decide) <| pda_cons <| pd_name (i := 1) rfl rfl <| pda_cons <| pd_non <| pda_nil ⟨_, _, rfl, .inl ⟨_, .lst _, true, TT.ww, ?_⟩⟩
      intro a dd oe pn hz hf
      refine pdb_cons <| pds_asg <| pd_tup <| pda_cons <| pd_str <| pda_cons <| pd_xf TT.xw TT.pw hz hf (i := 5) rfl rfl rfl <| pda_nil ⟨by show 2 ≤ sizeLine; decide, pgd_name (i := 4) sc_law_parts.nd rfl <| pdb_nil ?_⟩
      show PDB _ [_] _ _ ((q, .lst ((five.take 1).map prD)) :: L)
      refine pdb_cons <| pds_expr <| pd_bm PySem.F.plainAttrs_list PySem.F.slot_list_append PySem.F.type_list_append <| pd_name (i := 2) rfl rfl ⟨⟨rfl, _, List.mem_cons_self⟩, pda_cons <| pd_name (i := 4) rfl rfl <| pda_nil <| md_append .here (by rw [sizeLine_eq]; decide) <| pdb_nil ⟨_, _, rfl, ?_⟩⟩
      rw [List.length_append, hip]
      rfl
    · refine pdb_cons <| pds_ifB (t := false) (pdt_cmp <| pd_name (i := 3) rfl rfl <| pd_int <| od_eqT hu (x := (2 : Int)) (y := (0 : Int)) (.int _) (.int _) (by decide) ⟨_, rfl, rfl, rfl⟩) (fun z => nomatch z) fun _ => ?_
      refine pdb_cons <| pds_ifB (t := false) (pdt_cmp <| pd_name (i := 3) rfl rfl <| pd_int <| od_eqT hu (x := (2 : Int)) (y := (1 : Int)) (.int _) (.int _) (by decide) ⟨_, rfl, rfl, rfl⟩) (fun z => nomatch z) fun _ => ?_
      refine pdb_cons <| pds_ifB (t := true) (pdt_cmp <| pd_name (i := 3) rfl rfl <| pd_int <| od_eqT hu (x := (2 : Int)) (y := (2 : Int)) (.int _) (.int _) (by decide) ⟨_, rfl, rfl, rfl⟩) (fun _ => ?_) fun z => nomatch z
      refine pdb_cons <| pds_expr <| pd_fn GT hr (by decide) <| pda_cons <| pd_non <| pda_cons <| pd_non <| pda_cons <| pd_non <| pda_nil ⟨_, _, _, rfl, .inl ⟨_, .non, true, TT.ww, ?_⟩⟩
      intro a dd oe pn hz hf
      refine pdb_cons <| pds_asg <| pd_tup <| pda_cons <| pd_str <| pda_cons <| pd_xf TT.xw TT.pw hz hf (i := 5) rfl rfl rfl <| pda_nil ⟨by show 2 ≤ sizeLine; decide, pgd_name (i := 4) sc_law_parts.nd rfl <| pdb_nil ?_⟩
      show PDB _ [_] _ _ ((q, .lst ((five.take 2).map prD)) :: L)
      refine pdb_cons <| pds_expr <| pd_bm PySem.F.plainAttrs_list PySem.F.slot_list_append PySem.F.type_list_append <| pd_name (i := 2) rfl rfl ⟨⟨rfl, _, List.mem_cons_self⟩, pda_cons <| pd_name (i := 4) rfl rfl <| pda_nil <| md_append .here (by rw [sizeLine_eq]; decide) <| pdb_nil ⟨_, _, rfl, ?_⟩⟩
      rw [List.length_append, hip]
      rfl
    · refine pdb_cons <| pds_ifB (t := false) (pdt_cmp <| pd_name (i := 3) rfl rfl <| pd_int <| od_eqT hu (x := (3 : Int)) (y := (0 : Int)) (.int _) (.int _) (by decide) ⟨_, rfl, rfl, rfl⟩) (fun z => nomatch z) fun _ => ?_
      refine pdb_cons <| pds_ifB (t := false) (pdt_cmp <| pd_name (i := 3) rfl rfl <| pd_int <| od_eqT hu (x := (3 : Int)) (y := (1 : Int)) (.int _) (.int _) (by decide) ⟨_, rfl, rfl, rfl⟩) (fun z => nomatch z) fun _ => ?_
      refine pdb_cons <| pds_ifB (t := false) (pdt_cmp <| pd_name (i := 3) rfl rfl <| pd_int <| od_eqT hu (x := (3 : Int)) (y := (2 : Int)) (.int _) (.int _) (by decide) ⟨_, rfl, rfl, rfl⟩) (fun z => nomatch z) fun _ => ?_
      refine pdb_cons <| pds_ifB (t := true) (pdt_cmp <| pd_name (i := 3) rfl rfl <| pd_int <| od_eqT hu (x := (3 : Int)) (y := (3 : Int)) (.int _) (.int _) (by decide) ⟨_, rfl, rfl, rfl⟩) (fun _ => ?_) fun z => nomatch z
      refine pdb_cons <| pds_expr <| pd_fn GT hr (by decide) <| pda_cons <| pd_name (i := 0) rfl rfl <| pda_cons <| pd_name (i := 1) rfl rfl <| pda_cons <| pd_non <| pda_nil ⟨_, _, _, rfl, .inr ⟨lens, m, kss, rfl, pw, .inl ⟨_, .lst _, true, TT.ww, ?_⟩⟩⟩
      intro a dd oe pn hz hf
      refine pdb_cons <| pds_asg <| pd_tup <| pda_cons <| pd_str <| pda_cons <| pd_xf TT.xw TT.pw hz hf (i := 5) rfl rfl rfl <| pda_nil ⟨by show 2 ≤ sizeLine; decide, pgd_name (i := 4) sc_law_parts.nd rfl <| pdb_nil ?_⟩
      show PDB _ [_] _ _ ((q, .lst ((five.take 3).map prD)) :: L)
      refine pdb_cons <| pds_expr <| pd_bm PySem.F.plainAttrs_list PySem.F.slot_list_append PySem.F.type_list_append <| pd_name (i := 2) rfl rfl ⟨⟨rfl, _, List.mem_cons_self⟩, pda_cons <| pd_name (i := 4) rfl rfl <| pda_nil <| md_append .here (by rw [sizeLine_eq]; decide) <| pdb_nil ⟨_, _, rfl, ?_⟩⟩
      rw [List.length_append, hip]
      rfl
    · refine pdb_cons <| pds_ifB (t := false) (pdt_cmp <| pd_name (i := 3) rfl rfl <| pd_int <| od_eqT hu (x := (4 : Int)) (y := (0 : Int)) (.int _) (.int _) (by decide) ⟨_, rfl, rfl, rfl⟩) (fun z => nomatch z) fun _ => ?_
      refine pdb_cons <| pds_ifB (t := false) (pdt_cmp <| pd_name (i := 3) rfl rfl <| pd_int <| od_eqT hu (x := (4 : Int)) (y := (1 : Int)) (.int _) (.int _) (by decide) ⟨_, rfl, rfl, rfl⟩) (fun z => nomatch z) fun _ => ?_
      refine pdb_cons <| pds_ifB (t := false) (pdt_cmp <| pd_name (i := 3) rfl rfl <| pd_int <| od_eqT hu (x := (4 : Int)) (y := (2 : Int)) (.int _) (.int _) (by decide) ⟨_, rfl, rfl, rfl⟩) (fun z => nomatch z) fun _ => ?_
      refine pdb_cons <| pds_ifB (t := false) (pdt_cmp <| pd_name (i := 3) rfl rfl <| pd_int <| od_eqT hu (x := (4 : Int)) (y := (3 : Int)) (.int _) (.int _) (by decide) ⟨_, rfl, rfl, rfl⟩) (fun z => nomatch z) fun _ => ?_
      refine pdb_cons <| pds_expr <| pd_fn GP hr (by decide) <| pda_cons <| pd_name (i := 0) rfl rfl <| pda_cons <| pd_lstF <| pda_nil ⟨by show 0 ≤ sizeLine; decide, pda_nil ⟨_, _, rfl, .inr ⟨lens, m, kss, some [], rfl, pw, .seq (.lst _), (fun xs e => (by cases e; exact ⟨Nat.zero_le _, fun _ h => nomatch h⟩)), fun _ L2 lw2 => ⟨false, TT.bw, ?_⟩, fun z => (by cases z)⟩⟩⟩
      show exTries _ _ [_] _ _ _ _
      refine ⟨true, TT.bb, ?_⟩
      intro a dd oe pn hz hf
      refine pdb_cons <| pds_asg <| pd_tup <| pda_cons <| pd_str <| pda_cons <| pd_xf TT.xb TT.pb hz hf (i := 5) rfl rfl rfl <| pda_nil ⟨by show 2 ≤ sizeLine; decide, pgd_name (i := 4) sc_law_parts.nd rfl <| pdb_nil ?_⟩
      show PDB _ [_] _ _ L2
      refine pdb_lw lw2 ?_
      refine pdb_cons <| pds_expr <| pd_bm PySem.F.plainAttrs_list PySem.F.slot_list_append PySem.F.type_list_append <| pd_name (i := 2) rfl rfl ⟨⟨rfl, _, List.mem_cons_self⟩, pda_cons <| pd_name (i := 4) rfl rfl <| pda_nil <| md_append .here (by rw [sizeLine_eq]; decide) <| pdb_nil ⟨_, _, rfl, ?_⟩⟩
      rw [List.length_append, hip]
      rfl
  · rintro ρ1 L3 ⟨z3, z4, rfl, rfl⟩
    exact pdb_cons <| pds_ret <| pd_frz <| pd_name (i := 2) rfl rfl ⟨q, _, _, rfl, .here, h _ (.refl _)⟩
end
end K05
end
section
set_option Elab.async false
set_option linter.all false
set_option maxRecDepth 100000
set_option maxHeartbeats 2000000
/-! a dict of which only the type is told -/
namespace D2
open PySem PySem.Spec PyProof.Rows L2
section
variable {X : Cx} {ρ : Rho} {L : Led} {P : PK1} {R : RK1} {pos : Pos}
/-- {k: v} of two ints -/
theorem pd_dcI {k v : Int} {i j : Nat} {p1 p2 : Pos} (h : ∀ p, P (.ref p) ((p, tyOD "dict") :: L)) : PD X (.Dict [some (.Constant (.int k) i p1)] [.Constant (.int v) j p2] pos) ρ L P R := .mk fun σ H F W A pins s I => by
  refine (pe_disp (X := X) (pos := pos) (pps_cons pe_int pe_int pps_nil) rfl rfl (by simp) (by show 1 ≤ 15; decide)).run pins s σ H _ I ?_
  intro p hp
  refine ⟨upd_same, [(.inl k, .int v)], rfl, by show 1 ≤ 15; decide, ?_⟩
  have o := A.own.push (x := tyOD "dict") (o := .dK (mergeK [] [(.inl k, .int v)])) hp fun K H a e => .base (.dK e)
  have e : upd (upd H p (.dK [])) p (.dK (mergeK [] [(Sum.inl k, V.int v)])) = upd H p (.dK (mergeK [] [(Sum.inl k, V.int v)])) := by
    funext b
    unfold upd
    by_cases c : b = p
    · simp [c]
    · simp [c]
  rw [e]
  exact ⟨F, .ref p, _, Same.refl _, o, .sc _, h p⟩
end
end D2
end
section
set_option Elab.async false
set_option linter.all false
set_option maxRecDepth 100000
set_option maxHeartbeats 2000000
/-! more dicts of which only the type is told -/
namespace D2
open PySem PySem.Spec PyProof.Rows L2
section
variable {X : Cx} {ρ : Rho} {L : Led} {P : PK1} {R : RK1} {pos : Pos}
theorem upd_again {H : Hp} {p : Addr} {a b : HO} : upd (upd H p a) p b = upd H p b := by
  funext c
  unfold upd
  by_cases e : c = p
  · simp [e]
  · simp [e]
theorem upd_swap {H : Hp} {p q : Addr} {a b : HO} (h : q ≠ p) : upd (upd H p a) q b = upd (upd H q b) p a := by
  funext c
  unfold upd
  by_cases e : c = q
  · subst e
    simp [h]
  · by_cases e2 : c = p
    · subst e2
      simp [e]
    · simp [e, e2]
/-- {k: v, k2: v2} of ints -/
theorem pd_dcI2 {k v k2 v2 : Int} {i j i2 j2 : Nat} {p1 p2 p3 p4 : Pos} (h : ∀ p, P (.ref p) ((p, tyOD "dict") :: L)) : PD X (.Dict [some (.Constant (.int k) i p1), some (.Constant (.int k2) i2 p3)] [.Constant (.int v) j p2, .Constant (.int v2) j2 p4] pos) ρ L P R := .mk fun σ H F W A pins s I => by
  refine (pe_disp (X := X) (pos := pos) (pps_cons pe_int pe_int (pps_cons pe_int pe_int pps_nil)) rfl rfl (by simp) (by show 2 ≤ 15; decide)).run pins s σ H _ I ?_
  intro p hp
  refine ⟨upd_same, [(.inl k, .int v), (.inl k2, .int v2)], rfl, by show 2 ≤ 15; decide, ?_⟩
  have o := A.own.push (x := tyOD "dict") (o := .dK (mergeK [] [(.inl k, .int v), (.inl k2, .int v2)])) hp fun K H a e => .base (.dK e)
  rw [upd_again]
  exact ⟨F, .ref p, _, Same.refl _, o, .sc _, h p⟩
/-- {k: (v,)} of ints -/
theorem pd_dcT {k v : Int} {i j m : Nat} {p1 p2 p3 : Pos} (h : ∀ p, P (.ref p) ((p, tyOD "dict") :: L)) : PD X (.Dict [some (.Constant (.int k) i p1)] [.Tuple [.Constant (.int v) j p2] m p3] pos) ρ L P R := .mk fun σ H F W A pins s I => by
  refine (pe_disp (X := X) (pos := pos) (pps_cons pe_int (pe_tup (pa_cons pe_int pa_nil)) pps_nil) rfl rfl (by simp) (by show 1 ≤ 15; decide)).run pins s σ H _ I ?_
  intro p hp
  refine ⟨by show 1 ≤ sizeLine; decide, fun q hq => ?_⟩
  have ne : q ≠ p := fun e => by rw [e, upd_same] at hq; cases hq
  have hq2 : H q = none := by
    unfold upd at hq
    rw [if_neg ne] at hq
    exact hq
  have at1 : upd (upd H p (.dK [])) q (.tup [.int v]) p = some (.dK []) := by
    rw [upd_swap ne]
    exact upd_same
  refine ⟨at1, [(.inl k, .ref q)], rfl, by show 1 ≤ 15; decide, ?_⟩
  obtain ⟨s2, o2⟩ := A.own.froze (o := .tup [.int v]) hq2
  have hp2 : upd H q (.tup [.int v]) p = none := by
    unfold upd
    rw [if_neg (Ne.symm ne)]
    exact hp
  have o := o2.push (x := tyOD "dict") (o := .dK (mergeK [] [(.inl k, .ref q)])) hp2 fun K H a e => .base (.dK e)
  rw [upd_swap ne, upd_again]
  exact ⟨_, .ref p, _, s2, o, .sc _, h p⟩
theorem pd_dcE (h : ∀ p, P (.ref p) ((p, tyOD "dict") :: L)) : PD X (.Dict [] [] pos) ρ L P R := pd_of pe_dnewK fun σ H F W A p hp => ⟨F, .ref p, _, Same.refl _, A.own.push (x := tyOD "dict") hp fun K H a e => .base (.dK e), .sc _, h p⟩
end
end D2
end
section
set_option Elab.async false
set_option linter.all false
set_option maxRecDepth 100000
set_option maxHeartbeats 8000000
namespace K05
open PySem L2 D2
open PySem.Spec hiding Row
abbrev s_law_lengths : Stmt := top 30
section
variable {P : Program} {w : World} {K : PySem.W.Frag} {mg : Str → Option Value} {base : Heap}
/-- what are no lengths -/
def BadLn (L : Led) (d : D) : Prop := ∃ o, Sd L d o ∧ (∀ xs, o = some xs → ∀ y ∈ xs, ∃ n, Bt L y n) ∧ onSeq o lenOk = false
theorem BadLn.sub {L L' : Led} {d : D} (h : BadLn L d) (s : SubL L L') : BadLn L' d := by
  obtain ⟨o, h1, h2, h3⟩ := h
  exact ⟨o, sd_sub s h1, fun xs e y hy => by obtain ⟨n, b⟩ := h2 xs e y hy; exact ⟨n, bt_sub s b⟩, h3⟩
theorem badLn_no {L : Led} {d : D} {n : String} (b : Bt L d n) (ne : n ≠ "list" ∧ n ≠ "tuple") : BadLn L d := ⟨none, .no b ne, fun xs e => (by cases e), rfl⟩
theorem lenOk_cell {xs : List D} {x : D} (hx : x ∈ xs) (h : within (some 1) (some 8) x = false) : onSeq (some xs) lenOk = false := by
  show lenOk xs = false
  unfold lenOk
  rw [Bool.and_eq_false_iff]
  exact .inr (List.all_eq_false.mpr ⟨x, hx, by rw [h]; decide⟩)
theorem lenOk_long {xs : List D} (h : 80 < xs.length) : onSeq (some xs) lenOk = false := by
  show lenOk xs = false
  unfold lenOk
  rw [decide_eq_false (by omega)]
  rfl
/-- one item changed -/
def setD (t : Nat) (odd : D) (ns : List Int) : List D := ((List.range ns.length).zip ns).map fun q => if q.1 = t then odd else .int q.2
theorem setD_mem {t : Nat} {odd : D} {ns : List Int} (h : t < ns.length) : odd ∈ setD t odd ns := by
  refine List.mem_map.mpr ⟨(t, ns[t]), List.mem_iff_getElem?.mpr ⟨t, ?_⟩, if_pos rfl⟩
  rw [List.getElem?_zip_eq_some]
  exact ⟨List.getElem?_range h, List.getElem?_eq_getElem h⟩
theorem setD_bt {L : Led} {t : Nat} {odd : D} {ns : List Int} {n : String} (b : Bt L odd n) : ∀ y ∈ setD t odd ns, ∃ n, Bt L y n := fun y hy => by
  obtain ⟨q, _, rfl⟩ := List.mem_map.mp hy
  by_cases e : q.1 = t
  · rw [if_pos e]; exact ⟨_, b⟩
  · rw [if_neg e]; exact ⟨_, .int _⟩
theorem setD_len (t : Nat) (odd : D) (ns : List Int) : (setD t odd ns).length = ns.length := by
  unfold setD
  rw [List.length_map, List.length_zip, List.length_range]
  omega
abbrev oddLn : List D := [.int 0, .int 9, .int (-1), .bl true, .non, .str "1", .lst [.int 1], .int (10 ^ (20 : Int).toNat)]
theorem oddLn_ok : ∀ x ∈ oddLn, within (some 1) (some 8) x = false ∧ ∀ L, ∃ n, Bt L x n := fun x hx => by
  simp only [oddLn, List.mem_cons, List.not_mem_nil, or_false] at hx
  rcases hx with rfl | rfl | rfl | rfl | rfl | rfl | rfl | rfl
  · exact ⟨by decide, fun L => ⟨_, .int _⟩⟩
  · exact ⟨by decide, fun L => ⟨_, .int _⟩⟩
  · exact ⟨by decide, fun L => ⟨_, .int _⟩⟩
  · exact ⟨by decide, fun L => ⟨_, .bl _⟩⟩
  · exact ⟨by decide, fun L => ⟨_, .non⟩⟩
  · exact ⟨by decide, fun L => ⟨_, .str _⟩⟩
  · exact ⟨by decide, fun L => ⟨_, .lst _⟩⟩
  · exact ⟨by rw [within_int]; decide +kernel, fun L => ⟨_, .int _⟩⟩
/-! ### _law_lengths -/
def tLengths : Ct := fun ds L P R => ∃ (p : Addr) (lens : List Int) (n : Int) (L' : Led), ds = [.ref p, .lst (lens.map D.int)] ∧ lens ≠ [] ∧ lens.length ≤ 3 ∧ n + 100 < most ∧ Foc p (wellOD K n) (wellOD K (n + 4)) L L' ∧ ∀ pd d, BadLn ((pd, tyOD "dict") :: L') d → P d ((pd, tyOD "dict") :: L')
abbrev NLE : List Str := ["well", "lengths", "at", "odd", "some", "place", "length"]
theorem sc_law_lengths : FnScope NLE ["well", "lengths"] (defScope s_law_lengths) := ⟨rfl, rfl, rfl, by decide +kernel, rfl, by decide +kernel, by decide +kernel⟩
theorem ok_law_lengths {f : Addr} {fd : FuncData} (F : Fun K "_law_lengths" "_law_lengths" s_law_lengths f fd) (T : Txt0 K mg) (GD : Fn P w K mg base "_law_draw" 1 ["well", "many"] (tDraw (K := K))) (GO : Fn P w K mg base "_law_one_of" 2 ["well", "some"] (tOneOf (K := K))) : FnOk P w K mg base (L2.CX P w) 3 f fd ["well", "lengths"] (spD K (tLengths (K := K))) := by
  refine fn_okD F sc_law_lengths (fun ds L P R ⟨_, _, _, _, e, _⟩ => by rw [e]; rfl) fun cdv A outer s H E ds L P1 R hr ⟨p, lens, n, L', e, ne, l3, nm, fo, h⟩ => ?_
  subst e
  have hu := hr.units
  have hn : n + 100 < 1000000 := nm
  obtain ⟨ctx, c1, c2, ctxF⟩ := hole fo
  subst c1 c2
  have lt (a : Int) (ha : a < n + 100) : a < K05.most := by show a < 1000000; omega
  have ll := List.length_pos_iff.mpr ne
  refine pdb_cons <| pds_asg <| pd_tup <| pda_cons <| pd_fn GD hr (by decide) <| pda_cons <| pd_name (i := 0) rfl rfl <| pda_cons <| pd_callB T.len PySem.boot_len <| pda_cons <| pd_name (i := 1) rfl rfl <| pda_nil <| cd_len (.lst _) <| pda_nil ⟨p, _, n, _, rfl, by rw [List.length_map]; omega, by rw [List.length_map]; omega, lt _ (by omega), ctxF _ (wellOD K (n + 1)), fun t t0 t1 => ?_⟩
  rw [List.length_map] at t1
  obtain ⟨t, rfl⟩ : ∃ i : Nat, t = (i : Int) := ⟨t.toNat, by omega⟩
  refine pda_cons <| pd_fn GO hr (by decide) <| pda_cons <| pd_name (i := 0) rfl rfl <| pda_cons <| pd_lstF <| pda_cons <| pd_int <| pda_cons <| pd_int <| pda_cons <| pd_un <| pd_int <| ud_neg <| pda_cons <| pd_bl <| pda_cons <| pd_non <| pda_cons <| pd_str <| pda_cons <| pd_lstF <| pda_cons <| pd_int <| pda_nil ⟨by show 1 ≤ sizeLine; decide, pda_cons <| pd_bin <| pd_int <| pd_int <| od_powI (cpow_of (by decide) (by decide) (by decide) (by decide)) <| pda_nil ⟨by show 8 ≤ sizeLine; decide, ?_⟩⟩
  refine pda_nil ⟨p, _, oddLn, n + 1, _, rfl, .lst _, by show 0 < 8; decide, by show 8 ≤ sizeLine; decide, lt _ (by omega), ctxF _ (wellOD K (n + 1 + 1)), fun ys sq e => (by rw [e]; exact .lst _), fun odd hodd => ?_⟩
  obtain ⟨o1, o2⟩ := oddLn_ok odd hodd
  refine pda_nil ⟨by show 2 ≤ sizeLine; decide, pgd_tup rfl <| pgds_cons <| pgd_name (i := 2) sc_law_lengths.nd rfl <| pgds_cons <| pgd_name (i := 3) sc_law_lengths.nd rfl <| pgds_nil ?_⟩
  -- some
  refine pdb_cons <| pds_asg <| pd_lstF <| pda_cons ?_
  refine pd_lc2 (i := 5) (j := 6) rfl sc_law_lengths.nd (blkOk_by (N := NLE) (sc := defScope s_law_lengths) (by decide +kernel)) (fun _ _ _ _ _ => pg_tup rfl (pgs_cons (pg_name (i := 5) sc_law_lengths.nd rfl (Or.inl rfl)) (pgs_cons (pg_name (i := 6) sc_law_lengths.nd rfl (Or.inl rfl)) pgs_nil))) ?_
  refine pdi_enumA T.enumerate <| pd_name (i := 1) rfl rfl ⟨_, [], .ls (.lst _), ?_⟩
  refine ⟨Nat × Int, (List.range lens.length).zip lens, fun q => .int (q.1 : Int), fun q => .int q.2, fun q => if q.1 = t then odd else .int q.2, enumD_map _ _, SubL.nil, by rw [List.length_zip, List.length_range, sizeLine_eq]; omega, ?_, ?_⟩
  · rintro ⟨j, x⟩ hq Y q acc ⟨s0, H0, C0, cl0, fp0, rfl⟩
    refine pd_if <| pdt_cmp <| pd_name (i := 5) rfl rfl <| pd_name (i := 2) rfl rfl <| od_eqT (by exact hu) (x := (j : Int)) (y := (t : Int)) (.int _) (.int _) (by decide) ⟨_, rfl, ?_⟩
    by_cases e : j = t
    · rw [if_pos (decide_eq_true (by omega))]
      exact pd_name (i := 3) rfl rfl ⟨by show _ = (if j = t then odd else .int x); rw [if_pos e], Lw.refl _⟩
    · rw [if_neg (by rw [decide_eq_false (by omega)]; decide)]
      exact pd_name (i := 6) rfl rfl ⟨by show _ = (if j = t then odd else .int x); rw [if_neg e], Lw.refl _⟩
  have es : (((List.range lens.length).zip lens).map fun q => if q.1 = t then odd else .int q.2) = setD t odd lens := rfl
  rw [es]
  have sm := setD_mem (t := t) (odd := odd) (ns := lens) (by omega)
  have sb : ∀ L, ∀ y ∈ setD t odd lens, ∃ n, Bt L y n := fun L => by obtain ⟨n, b⟩ := o2 L; exact setD_bt b
  generalize setD t odd lens = c0 at sm sb
  refine pda_cons <| pd_non <| pda_cons <| pd_int <| pda_cons <| pd_str <| pda_cons <| pd_dcI fun pd => pda_cons <| pd_bin <| pd_lstF <| pda_cons <| pd_int <| pda_nil ⟨by show 1 ≤ sizeLine; decide, pd_int <| od_rep (.lst _) (by decide) (by decide) (by show 1 * 81 ≤ sizeLine; decide) <| pda_nil ⟨by show 6 ≤ sizeLine; decide, pgd_name (i := 4) sc_law_lengths.nd rfl ?_⟩⟩
  have all : ∀ L : Led, (pd, tyOD "dict") ∈ L → ∀ d ∈ [D.lst c0, .non, .int 2, .str "22", .ref pd, .lst (List.replicate (81 : Int).toNat [D.int 1]).flatten], BadLn L d := fun L hL d hd => by
    simp only [List.mem_cons, List.not_mem_nil, or_false] at hd
    rcases hd with rfl | rfl | rfl | rfl | rfl | rfl
    · exact ⟨_, .seq (.lst _), fun xs e => (by cases e; exact sb L), lenOk_cell sm o1⟩
    · exact badLn_no .non (by decide)
    · exact badLn_no (.int _) (by decide)
    · exact badLn_no (.str _) (by decide)
    · exact badLn_no (.dic hL) (by decide)
    · refine ⟨_, .seq (.lst _), fun xs e => (by
        cases e
        intro y hy
        obtain ⟨z, h1, h2⟩ := List.mem_flatten.mp hy
        rw [(List.mem_replicate.mp h1).2] at h2
        rw [List.mem_singleton.mp h2]
        exact ⟨_, .int _⟩), lenOk_long (by decide)⟩
  have fin : ∀ (n' : Int) (d : D), n' ≤ n + 4 → d ∈ [D.lst c0, .non, .int 2, .str "22", .ref pd, .lst (List.replicate (81 : Int).toNat [D.int 1]).flatten] → ∃ L2, Lc K ((pd, tyOD "dict") :: ctx (wellOD K n')) L2 ∧ P1 d L2 := fun n' d hn' hd => ⟨(pd, tyOD "dict") :: ctx (wellOD K (n + 4)), (Foc.there (ctxF _ _)).lc (well_more hn'), h pd d (all _ List.mem_cons_self d hd)⟩
  refine pdb_cons <| pds_ret <| pd_shr <| pd_if <| pdt_cmp <| pd_fn GD hr (by decide) <| pda_cons <| pd_name (i := 0) rfl rfl <| pda_cons <| pd_int <| pda_nil ⟨p, 2, n + 1 + 1, _, rfl, by decide, by decide, lt _ (by omega), .there (ctxF _ (wellOD K (n + 1 + 1 + 1))), fun y y0 y1 => pd_int <| od_eqT hu (x := y) (y := (0 : Int)) (.int _) (.int _) (by decide) ⟨_, rfl, ?_⟩⟩
  refine iteD (fun _ => ?_) fun _ => ?_
  · exact pd_ix <| pd_name (i := 4) rfl rfl <| pd_int <| ixd_seq (.lst _) (atI_some (i := 0) (by decide) rfl) (fin _ _ (by omega) List.mem_cons_self)
  · exact pd_fn GO hr (by decide) <| pda_cons <| pd_name (i := 0) rfl rfl <| pda_cons <| pd_name (i := 4) rfl rfl <| pda_nil ⟨p, _, _, n + 1 + 1 + 1, _, rfl, .lst _, by show 0 < 6; decide, by show 6 ≤ sizeLine; decide, lt _ (by omega), .there (ctxF _ (wellOD K (n + 1 + 1 + 1 + 1))), fun ys sq e => (by rw [e]; exact .lst _), fun d hd => fin _ d (by omega) hd⟩
end
end K05
end
section
set_option Elab.async false
set_option linter.all false
set_option maxRecDepth 100000
set_option maxHeartbeats 8000000
namespace K05
open PySem L2 D2
open PySem.Spec hiding Row
abbrev Bts (L : Led) (o : Option (List D)) : Prop := ∀ xs, o = some xs → ∀ y ∈ xs, ∃ n, Bt L y n
theorem bts_sub {L L' : Led} {o : Option (List D)} (h : Bts L o) (s : SubL L L') : Bts L' o := fun xs e y hy => by
  obtain ⟨n, b⟩ := h xs e y hy
  exact ⟨n, bt_sub s b⟩
/-! ### rows, parts, lists of parts that are none -/
def BadRow (L : Led) (len m : Int) (d : D) : Prop := ∃ o, Sd L d o ∧ Bts L o ∧ onSeq o (rowOk (some len) (some m)) = false
def BadPart (L : Led) (len m : Int) (d : D) : Prop := ∃ o, PartOk L ⟨d, o⟩ ∧ partOk len m ⟨d, o⟩ = false ∧ (keysOf ⟨d, o⟩).length ≤ 10
def BadRws (L : Led) (lens : List Int) (m : Int) (d : D) : Prop := ∃ o, RowsD L (.lst (lens.map D.int)) lens d o ∧ (∀ ps, o = some ps → ∀ p ∈ ps, (keysOf p).length ≤ 1228) ∧ onParts o (rowsOk lens m) = false
theorem BadRow.sub {L L' : Led} {len m : Int} {d : D} (h : BadRow L len m d) (s : SubL L L') : BadRow L' len m d := by
  obtain ⟨o, h1, h2, h3⟩ := h
  exact ⟨o, sd_sub s h1, bts_sub h2 s, h3⟩
theorem badRow_no {L : Led} {len m : Int} {d : D} {n : String} (b : Bt L d n) (ne : n ≠ "list" ∧ n ≠ "tuple") : BadRow L len m d := ⟨none, .no b ne, fun xs e => (by cases e), rfl⟩
theorem badPart_no {L : Led} {len m : Int} {d : D} {n : String} (b : Bt L d n) (ne : n ≠ "list" ∧ n ≠ "tuple") : BadPart L len m d := ⟨none, ⟨.no b ne, fun rs e => (by cases e)⟩, rfl, Nat.zero_le _⟩
theorem badRws_no {L : Led} {lens : List Int} {m : Int} {d : D} {n : String} (b : Bt L d n) (ne : n ≠ "list" ∧ n ≠ "tuple") : BadRws L lens m d := ⟨none, .no b ne, fun ps e => (by cases e), rfl⟩
theorem row_len {L : Led} {len m : Int} {xs : List D} (hb : Bts L (some xs)) (h : (xs.length : Int) ≠ len) : BadRow L len m (.lst xs) := ⟨some xs, .seq (.lst _), hb, by
  show rowOk _ _ xs = false
  unfold rowOk
  rw [Bool.and_eq_false_iff]
  exact .inl (decide_eq_false h)⟩
theorem row_cell {L : Led} {len m : Int} {xs : List D} {x : D} (hb : Bts L (some xs)) (hx : x ∈ xs) (h : cellOk (some m) x = false) : BadRow L len m (.lst xs) := ⟨some xs, .seq (.lst _), hb, by
  show rowOk _ _ xs = false
  unfold rowOk
  rw [Bool.and_eq_false_iff]
  exact .inr (List.all_eq_false.mpr ⟨x, hx, by rw [h]; decide⟩)⟩
/-- a good part -/
def gp (ks : List Row) : PartD := ⟨partL ks, some (ks.map fun k => (rowL k, some (k.map D.int)))⟩
theorem ints_bts {L : Led} (k : Row) : Bts L (some (k.map D.int)) := fun xs e y hy => by
  cases e
  obtain ⟨i, _, rfl⟩ := List.mem_map.mp hy
  exact ⟨_, .int i⟩
theorem gp_ok {L : Led} (ks : List Row) : PartOk L (gp ks) := ⟨by
  show Sd L (partL ks) (some ((ks.map fun k => (rowL k, some (k.map D.int))).map (·.1)))
  rw [List.map_map]
  exact .seq (.lst _), fun rs e r hr => by
  cases e
  obtain ⟨k, _, rfl⟩ := List.mem_map.mp hr
  exact ⟨.seq (.lst _), ints_bts k⟩⟩
theorem gp_keys (ks : List Row) : (keysOf (gp ks)).length = ks.length := by
  show ((ks.map fun k => (rowL k, some (k.map D.int))).map _).length = _
  rw [List.length_map, List.length_map]
/-- a row changed -/
def setX (t : Nat) (d : D) (ks : List Row) : List D := ((List.range ks.length).zip ks).map fun q => if q.1 = t then d else rowL q.2
theorem setX_bad {L : Led} {len m : Int} {t : Nat} {d : D} {ks : List Row} (b : BadRow L len m d) (h : t < ks.length) (few : ks.length ≤ 10) : BadPart L len m (.lst (setX t d ks)) := by
  obtain ⟨ob, h1, h2, h3⟩ := b
  refine ⟨some (((List.range ks.length).zip ks).map fun q => if q.1 = t then (d, ob) else (rowL q.2, some (q.2.map D.int))), ⟨?_, fun rs e r hr => ?_⟩, ?_, ?_⟩
  · show Sd L (.lst (setX t d ks)) (some ((((List.range ks.length).zip ks).map fun q => if q.1 = t then (d, ob) else (rowL q.2, some (q.2.map D.int))).map (·.1)))
    have e : (((List.range ks.length).zip ks).map fun q => if q.1 = t then (d, ob) else (rowL q.2, some (q.2.map D.int))).map (·.1) = setX t d ks := by
      rw [List.map_map]
      unfold setX
      refine List.map_congr_left fun q _ => ?_
      show (if q.1 = t then (d, ob) else (rowL q.2, some (q.2.map D.int))).1 = _
      split <;> rfl
    rw [e]
    exact .seq (.lst _)
  · cases e
    obtain ⟨q, _, rfl⟩ := List.mem_map.mp hr
    by_cases c : q.1 = t
    · rw [if_pos c]; exact ⟨h1, h2⟩
    · rw [if_neg c]; exact ⟨.seq (.lst _), ints_bts _⟩
  · show ((((List.range ks.length).zip ks).map fun q => if q.1 = t then (d, ob) else (rowL q.2, some (q.2.map D.int))).all fun r => onSeq r.2 (rowOk (some len) (some m))) = false
    refine List.all_eq_false.mpr ⟨(d, ob), List.mem_map.mpr ⟨(t, ks[t]), List.mem_iff_getElem?.mpr ⟨t, ?_⟩, if_pos rfl⟩, by show ¬ onSeq ob _ = true; rw [h3]; decide⟩
    rw [List.getElem?_zip_eq_some]
    exact ⟨List.getElem?_range h, List.getElem?_eq_getElem h⟩
  · show (((((List.range ks.length).zip ks).map fun q => if q.1 = t then (d, ob) else (rowL q.2, some (q.2.map D.int)))).map _).length ≤ 10
    rw [List.length_map, List.length_map, List.length_zip, List.length_range]
    omega
/-- a part changed -/
def setY (t : Nat) (d : D) (kss : List (List Row)) : List D := ((List.range kss.length).zip kss).map fun q => if q.1 = t then d else partL q.2
theorem setY_bad {L : Led} {lens : List Int} {len m : Int} {t : Nat} {d : D} {kss : List (List Row)} (b : BadPart L len m d) (hl : lens[t]? = some len) (el : lens.length = kss.length) (few : ∀ ks ∈ kss, ks.length ≤ 10) : BadRws L lens m (.lst (setY t d kss)) := by
  obtain ⟨ob, h1, h2, h3⟩ := b
  have ht := (List.getElem?_eq_some_iff.mp hl).1
  have e : (((List.range kss.length).zip kss).map fun q => if q.1 = t then (⟨d, ob⟩ : PartD) else gp q.2).map PartD.d = setY t d kss := by
    rw [List.map_map]
    unfold setY
    refine List.map_congr_left fun q _ => ?_
    show (if q.1 = t then (⟨d, ob⟩ : PartD) else gp q.2).d = _
    split <;> rfl
  refine ⟨some (((List.range kss.length).zip kss).map fun q => if q.1 = t then (⟨d, ob⟩ : PartD) else gp q.2), ⟨?_, fun p hp => ?_⟩, fun ps e p hp => ?_, ?_⟩
  · rw [e]
    exact ⟨_, .lists (.lst _) (.lst _), .lst _⟩
  · obtain ⟨q, _, rfl⟩ := List.mem_map.mp hp
    by_cases c : q.1 = t
    · rw [if_pos c]; exact h1
    · rw [if_neg c]; exact gp_ok _
  · cases e
    obtain ⟨q, hq, rfl⟩ := List.mem_map.mp hp
    by_cases c : q.1 = t
    · rw [if_pos c]; omega
    · rw [if_neg c, gp_keys]
      have := few q.2 (List.of_mem_zip (a := q.1) (b := q.2) hq).2
      omega
  · show rowsOk lens m _ = false
    unfold rowsOk
    rw [Bool.and_eq_false_iff]
    right
    refine List.all_eq_false.mpr ⟨(len, ⟨d, ob⟩), List.mem_iff_getElem?.mpr ⟨t, ?_⟩, by show ¬ partOk len m ⟨d, ob⟩ = true; rw [h2]; decide⟩
    rw [List.getElem?_zip_eq_some]
    refine ⟨hl, ?_⟩
    rw [List.getElem?_map]
    have z : ((List.range kss.length).zip kss)[t]? = some (t, kss[t]'(by omega)) := by
      rw [List.getElem?_zip_eq_some]
      exact ⟨List.getElem?_range (by omega), List.getElem?_eq_getElem _⟩
    rw [z]
    exact congrArg some (if_pos rfl)
theorem gps_bad {L : Led} {lens : List Int} {m : Int} {ps : List PartD} (ok : ∀ p ∈ ps, PartOk L p) (few : ∀ p ∈ ps, (keysOf p).length ≤ 1228) (ne : ps.length ≠ lens.length) : BadRws L lens m (.lst (ps.map PartD.d)) := ⟨some ps, ⟨⟨_, .lists (.lst _) (.lst _), .lst _⟩, ok⟩, fun qs e p hp => (by cases e; exact few p hp), by
  show rowsOk lens m ps = false
  unfold rowsOk
  rw [decide_eq_false ne]
  rfl⟩
theorem gp_map (kss : List (List Row)) : kss.map partL = (kss.map gp).map PartD.d := by
  rw [List.map_map]
  rfl
theorem cut_len_last (ds : List D) : (cutD ds none (some (-1))).length = ds.length - 1 := by
  unfold cutD
  show ((ds.drop 0).take (((-1 : Int) + (ds.length : Int)).toNat - 0)).length = _
  rw [List.drop_zero, List.length_take]
  omega
theorem cut_sub {ds : List D} {lo hi : Option Int} : ∀ x ∈ cutD ds lo hi, x ∈ ds := fun x hx => List.mem_of_mem_drop (List.mem_of_mem_take hx)
theorem cut_last_map {α : Type} (f : α → D) (xs : List α) : cutD (xs.map f) none (some (-1)) = (xs.take (xs.length - 1)).map f := by
  unfold cutD
  show (((xs.map f).drop 0).take (((-1 : Int) + ((xs.map f).length : Int)).toNat - 0)) = _
  rw [List.drop_zero, List.length_map, ← List.map_take]
  congr 2
  omega
abbrev oddRw (m : Int) : List D := [.int m, .int (-1), .bl true, .non, .str "0", .lst [.int 0], .int (10 ^ (20 : Int).toNat)]
theorem oddRw_ok {m : Int} (h : m ≤ 600) : ∀ x ∈ oddRw m, cellOk (some m) x = false ∧ ∀ L, ∃ n, Bt L x n := fun x hx => by
  simp only [oddRw, List.mem_cons, List.not_mem_nil, or_false] at hx
  rcases hx with rfl | rfl | rfl | rfl | rfl | rfl | rfl
  · exact ⟨by unfold cellOk; simp, fun L => ⟨_, .int _⟩⟩
  · exact ⟨by unfold cellOk; simp, fun L => ⟨_, .int _⟩⟩
  · exact ⟨rfl, fun L => ⟨_, .bl _⟩⟩
  · exact ⟨rfl, fun L => ⟨_, .non⟩⟩
  · exact ⟨rfl, fun L => ⟨_, .str _⟩⟩
  · exact ⟨rfl, fun L => ⟨_, .lst _⟩⟩
  · refine ⟨?_, fun L => ⟨_, .int _⟩⟩
    have e : (10 : Int) ^ (20 : Int).toNat = 100000000000000000000 := by decide +kernel
    rw [e]
    unfold cellOk
    simp
    omega
end K05
end
section
set_option Elab.async false
set_option linter.all false
set_option maxRecDepth 100000
set_option maxHeartbeats 8000000
namespace K05
open PySem L2 D2
open PySem.Spec hiding Row
abbrev s_law_spoiled : Stmt := top 31
section
variable {P : Program} {w : World} {K : PySem.W.Frag} {mg : Str → Option Value} {base : Heap}
abbrev tyE (p : Addr) : Addr × OD := (p, tyOD "dict")
def tSpoiled : Ct := fun ds L P R => ∃ (p : Addr) (lens : List Int) (m : Nat) (kss : List (List Row)) (n : Int) (L' : Led), ds = [.ref p, .lst (kss.map partL), .int (m : Int)] ∧ Paired (fun x ks => okRows x (m : Int) ks) lens kss ∧ kss ≠ [] ∧ kss.length ≤ 3 ∧ (∀ ks ∈ kss, ks ≠ [] ∧ ks.length ≤ 3) ∧ (∀ x ∈ lens, 1 ≤ x ∧ x ≤ 3) ∧ m ≤ 600 ∧ n + 100 < most ∧ Foc p (wellOD K n) (wellOD K (n + 9)) L L' ∧ ∀ p0 p1 d, (∀ L2, tyE p1 ∈ L2 → tyE p0 ∈ L2 → BadRws L2 lens (m : Int) d) → P d (tyE p1 :: tyE p0 :: L')
abbrev NSP : List Str := ["well", "rows", "many", "at", "inner", "row", "place", "odd", "bad", "part", "some", "spot", "x"]
theorem sc_law_spoiled : FnScope NSP ["well", "rows", "many"] (defScope s_law_spoiled) := ⟨rfl, rfl, rfl, by decide +kernel, rfl, by decide +kernel, by decide +kernel⟩
theorem at_map {α : Type} {f : α → D} {xs : List α} {t : Nat} {x : α} (h : xs[t]? = some x) : atI (xs.map f) (t : Int) = some (f x) := atI_some (by omega) (by rw [Int.toNat_natCast, List.getElem?_map, h]; rfl)
theorem ok_law_spoiled {f : Addr} {fd : FuncData} (F : Fun K "_law_spoiled" "_law_spoiled" s_law_spoiled f fd) (T : Txt0 K mg) (GD : Fn P w K mg base "_law_draw" 1 ["well", "many"] (tDraw (K := K))) (GO : Fn P w K mg base "_law_one_of" 2 ["well", "some"] (tOneOf (K := K))) : FnOk P w K mg base (L2.CX P w) 3 f fd ["well", "rows", "many"] (spD K (tSpoiled (K := K))) := by
  refine fn_okD F sc_law_spoiled (fun ds L P R ⟨_, _, _, _, _, _, e, _⟩ => by rw [e]; rfl) fun cdv A outer s H E ds L P1 R hr ⟨p, lens, m, kss, n, L', e, ok, ne, k3, ks3, l3, m6, nm, fo, h⟩ => ?_
  subst e
  have hu := hr.units
  have hn : n + 100 < 1000000 := nm
  obtain ⟨ctx, c1, c2, ctxF⟩ := hole fo
  subst c1 c2
  have lt (a : Int) (ha : a < n + 100) : a < K05.most := by show a < 1000000; omega
  have ll := List.length_pos_iff.mpr ne
  have el := paired_len ok
  -- at
  refine pdb_cons <| pds_asg <| pd_fn GD hr (by decide) <| pda_cons <| pd_name (i := 0) rfl rfl <| pda_cons <| pd_callB T.len PySem.boot_len <| pda_cons <| pd_name (i := 1) rfl rfl <| pda_nil <| cd_len (.lst _) <| pda_nil ⟨p, _, n, _, rfl, by rw [List.length_map]; omega, by rw [List.length_map]; omega, lt _ (by omega), ctxF _ (wellOD K (n + 1)), fun t t0 t1 => pgd_name (i := 3) sc_law_spoiled.nd rfl ?_⟩
  rw [List.length_map] at t1
  obtain ⟨t, rfl⟩ : ∃ i : Nat, t = (i : Int) := ⟨t.toNat, by omega⟩
  obtain ⟨ks, hks⟩ : ∃ ks, kss[t]? = some ks := ⟨_, List.getElem?_eq_getElem (by omega)⟩
  obtain ⟨len, hlen⟩ : ∃ x, lens[t]? = some x := ⟨_, List.getElem?_eq_getElem (by omega)⟩
  obtain ⟨kne, kl3⟩ := ks3 ks (List.mem_of_getElem? hks)
  have okk := paired_get ok hlen hks
  obtain ⟨b1, b3⟩ := l3 len (List.mem_of_getElem? hlen)
  have kl := List.length_pos_iff.mpr kne
  -- inner
  refine pdb_cons <| pds_asg <| pd_fn GD hr (by decide) <| pda_cons <| pd_name (i := 0) rfl rfl <| pda_cons <| pd_callB T.len PySem.boot_len <| pda_cons <| pd_ix <| pd_name (i := 1) rfl rfl <| pd_name (i := 3) rfl rfl <| ixd_seq (.lst _) (at_map hks) <| pda_nil <| cd_len (.lst _) <| pda_nil ⟨p, _, n + 1, _, rfl, by rw [List.length_map]; omega, by rw [List.length_map]; omega, lt _ (by omega), ctxF _ (wellOD K (n + 1 + 1)), fun u u0 u1 => pgd_name (i := 4) sc_law_spoiled.nd rfl ?_⟩
  rw [List.length_map] at u1
  obtain ⟨u, rfl⟩ : ∃ i : Nat, u = (i : Int) := ⟨u.toNat, by omega⟩
  obtain ⟨k, hk⟩ : ∃ k, ks[u]? = some k := ⟨_, List.getElem?_eq_getElem (by omega)⟩
  obtain ⟨klen, kb⟩ := okk k (List.mem_of_getElem? hk)
  -- row, place
  refine pdb_cons <| pds_asg <| pd_ix <| pd_ix <| pd_name (i := 1) rfl rfl <| pd_name (i := 3) rfl rfl <| ixd_seq (.lst _) (at_map hks) <| pd_name (i := 4) rfl rfl <| ixd_seq (.lst _) (at_map hk) <| pgd_name (i := 5) sc_law_spoiled.nd rfl ?_
  refine pdb_cons <| pds_asg <| pd_fn GD hr (by decide) <| pda_cons <| pd_name (i := 0) rfl rfl <| pda_cons <| pd_callB T.len PySem.boot_len <| pda_cons <| pd_name (i := 5) rfl rfl <| pda_nil <| cd_len (.lst _) <| pda_nil ⟨p, _, n + 1 + 1, _, rfl, by rw [List.length_map]; omega, by rw [List.length_map]; omega, lt _ (by omega), ctxF _ (wellOD K (n + 1 + 1 + 1)), fun z z0 z1 => pgd_name (i := 6) sc_law_spoiled.nd rfl ?_⟩
  rw [List.length_map] at z1
  obtain ⟨z, rfl⟩ : ∃ i : Nat, z = (i : Int) := ⟨z.toNat, by omega⟩
  -- odd
  refine pdb_cons <| pds_asg <| pd_fn GO hr (by decide) <| pda_cons <| pd_name (i := 0) rfl rfl <| pda_cons <| pd_lstF <| pda_cons <| pd_name (i := 2) rfl rfl <| pda_cons <| pd_un <| pd_int <| ud_neg <| pda_cons <| pd_bl <| pda_cons <| pd_non <| pda_cons <| pd_str <| pda_cons <| pd_lstF <| pda_cons <| pd_int <| pda_nil ⟨by show 1 ≤ sizeLine; decide, pda_cons <| pd_bin <| pd_int <| pd_int <| od_powI (cpow_of (by decide) (by decide) (by decide) (by decide)) <| pda_nil ⟨by show 7 ≤ sizeLine; decide, ?_⟩⟩
  refine pda_nil ⟨p, _, oddRw (m : Int), n + 1 + 1 + 1, _, rfl, .lst _, by show 0 < 7; decide, by show 7 ≤ sizeLine; decide, lt _ (by omega), ctxF _ (wellOD K (n + 1 + 1 + 1 + 1)), fun ys sq e => (by rw [e]; exact .lst _), fun odd hodd => pgd_name (i := 7) sc_law_spoiled.nd rfl ?_⟩
  obtain ⟨o1, o2⟩ := oddRw_ok (by omega) odd hodd
  -- bad
  refine pdb_cons <| pds_asg <| pd_lstF <| pda_cons ?_
  refine pd_lc2 (i := 11) (j := 12) rfl sc_law_spoiled.nd (blkOk_by (N := NSP) (sc := defScope s_law_spoiled) (by decide +kernel)) (fun _ _ _ _ _ => pg_tup rfl (pgs_cons (pg_name (i := 11) sc_law_spoiled.nd rfl (Or.inl rfl)) (pgs_cons (pg_name (i := 12) sc_law_spoiled.nd rfl (Or.inl rfl)) pgs_nil))) ?_
  refine pdi_enumA T.enumerate <| pd_name (i := 5) rfl rfl ⟨_, [], .ls (.lst _), ?_⟩
  refine ⟨Nat × Int, (List.range k.length).zip k, fun q => .int (q.1 : Int), fun q => .int q.2, fun q => if q.1 = z then odd else .int q.2, enumD_map _ _, SubL.nil, by rw [List.length_zip, List.length_range, sizeLine_eq]; omega, ?_, ?_⟩
  · rintro ⟨j, x⟩ hq Y q acc ⟨s0, H0, C0, cl0, fp0, rfl⟩
    refine pd_if <| pdt_cmp <| pd_name (i := 11) rfl rfl <| pd_name (i := 6) rfl rfl <| od_eqT (by exact hu) (x := (j : Int)) (y := (z : Int)) (.int _) (.int _) (by decide) ⟨_, rfl, ?_⟩
    by_cases e : j = z
    · rw [if_pos (decide_eq_true (by omega))]
      exact pd_name (i := 7) rfl rfl ⟨by show _ = (if j = z then odd else .int x); rw [if_pos e], Lw.refl _⟩
    · rw [if_neg (by rw [decide_eq_false (by omega)]; decide)]
      exact pd_name (i := 12) rfl rfl ⟨by show _ = (if j = z then odd else .int x); rw [if_neg e], Lw.refl _⟩
  have es : (((List.range k.length).zip k).map fun q => if q.1 = z then odd else .int q.2) = setD z odd k := rfl
  rw [es]
  have sm := setD_mem (t := z) (odd := odd) (ns := k) (by omega)
  have sb : ∀ L, Bts L (some (setD z odd k)) := fun L xs e y hy => (by cases e; obtain ⟨n, b⟩ := o2 L; exact setD_bt b y hy)
  generalize setD z odd k = c0 at sm sb
  refine pda_cons <| pd_bin <| pd_name (i := 5) rfl rfl <| pd_slice <| pd_name (i := 5) rfl rfl ?_
  show PD _ _ _ _ (fun d L1 => ∃ i, d = .int i ∧ _) _
  refine pd_int ⟨1, rfl, sld_list (.lst _) ?_⟩
  rw [cut_hi (by decide) (by rw [List.length_map]; omega)]
  refine od_cat (.lst _) (.lst _) (by rw [List.length_take, List.length_map, sizeLine_eq]; omega) <| pda_cons <| pd_slice <| pd_name (i := 5) rfl rfl ?_
  show PD _ _ _ _ (fun d L1 => ∃ i, d = .int i ∧ _) _
  refine pd_un <| pd_int <| ud_neg ⟨-1, rfl, sld_list (.lst _) ?_⟩
  refine pda_cons <| pd_non <| pda_cons <| pd_int <| pda_cons <| pd_bin <| pd_str <| pd_callB T.len PySem.boot_len <| pda_cons <| pd_name (i := 5) rfl rfl <| pda_nil <| cd_len (.lst _) <| od_repS (by omega) (by rw [List.length_map]; omega) (by decide) fun zs => pda_cons <| pd_dcI fun p0 => pda_nil ⟨by show 7 ≤ sizeLine; decide, pgd_name (i := 8) sc_law_spoiled.nd rfl ?_⟩
  generalize hbl : [D.lst c0, .lst (k.map D.int ++ (k.map D.int).take (1 : Int).toNat), .lst (cutD (k.map D.int) none (some (-1))), .non, .int 0, .str zs, .ref p0] = bl
  have bl7 : bl.length = 7 := by rw [← hbl]; rfl
  have bad : ∀ L : Led, tyE p0 ∈ L → ∀ d ∈ bl, BadRow L len (m : Int) d := fun L hL d hd => by
    rw [← hbl] at hd
    simp only [List.mem_cons, List.not_mem_nil, or_false] at hd
    rcases hd with rfl | rfl | rfl | rfl | rfl | rfl | rfl
    · exact row_cell (sb L) sm o1
    · refine row_len (fun xs e y hy => ?_) (by rw [List.length_append, List.length_take, List.length_map]; show ((k.length + min 1 k.length : Nat) : Int) ≠ len; omega)
      cases e
      rcases List.mem_append.mp hy with a | a
      · exact ints_bts k _ rfl y a
      · exact ints_bts k _ rfl y (List.mem_of_mem_take a)
    · refine row_len (fun xs e y hy => ?_) (by rw [cut_len_last, List.length_map]; omega)
      cases e
      exact ints_bts k _ rfl y (cut_sub y hy)
    · exact badRow_no .non (by decide)
    · exact badRow_no (.int _) (by decide)
    · exact badRow_no (.str _) (by decide)
    · exact badRow_no (.dic hL) (by decide)
  have b0 : atI bl 0 = some (.lst c0) := by rw [← hbl]; exact atI_some (by decide) rfl
  have bm : D.lst c0 ∈ bl := by rw [← hbl]; exact List.mem_cons_self
  refine pdb_cons <| pds_asg <| PD.mono (P := fun d L1 => L1 = tyE p0 :: ctx (wellOD K (n + 6)) ∧ ∀ L, tyE p0 ∈ L → BadRow L len (m : Int) d) (pd_shr <| pd_if <| pdt_cmp <| pd_fn GD hr (by decide) <| pda_cons <| pd_name (i := 0) rfl rfl <| pda_cons <| pd_int <| pda_nil ⟨p, 2, n + 1 + 1 + 1 + 1, _, rfl, by decide, by decide, lt _ (by omega), .there (ctxF _ (wellOD K (n + 1 + 1 + 1 + 1 + 1))), fun y y0 y1 => pd_int <| od_eqT hu (x := y) (y := (0 : Int)) (.int _) (.int _) (by decide) ⟨_, rfl, iteD (fun _ => ?_) fun _ => ?_⟩⟩) fun br L1 ⟨e1, brb⟩ => ?_
  · exact pd_ix <| pd_name (i := 8) rfl rfl <| pd_int <| ixd_seq (.lst _) b0 ⟨_, (Foc.there (ctxF _ _)).lc (well_more (by omega)), rfl, fun L hL => bad L hL _ bm⟩
  · exact pd_fn GO hr (by decide) <| pda_cons <| pd_name (i := 0) rfl rfl <| pda_cons <| pd_name (i := 8) rfl rfl <| pda_nil ⟨p, _, bl, n + 1 + 1 + 1 + 1 + 1, _, rfl, .lst _, by omega, by rw [sizeLine_eq]; omega, lt _ (by omega), .there (ctxF _ (wellOD K (n + 1 + 1 + 1 + 1 + 1 + 1))), fun ys sq e => (by rw [e]; exact .lst _), fun d hd => ⟨_, (Foc.there (ctxF _ _)).lc (well_more (by omega)), rfl, fun L hL => bad L hL d hd⟩⟩
  subst e1
  refine pgd_name (i := 5) sc_law_spoiled.nd rfl ?_
  -- part
  refine pdb_cons <| pds_asg ?_
  refine pd_lc2 (i := 11) (j := 12) rfl sc_law_spoiled.nd (blkOk_by (N := NSP) (sc := defScope s_law_spoiled) (by decide +kernel)) (fun _ _ _ _ _ => pg_tup rfl (pgs_cons (pg_name (i := 11) sc_law_spoiled.nd rfl (Or.inl rfl)) (pgs_cons (pg_name (i := 12) sc_law_spoiled.nd rfl (Or.inl rfl)) pgs_nil))) ?_
  refine pdi_enumA T.enumerate <| pd_ix <| pd_name (i := 1) rfl rfl <| pd_name (i := 3) rfl rfl <| ixd_seq (.lst _) (at_map hks) ⟨_, [], .ls (.lst _), ?_⟩
  refine ⟨Nat × Row, (List.range ks.length).zip ks, fun q => .int (q.1 : Int), fun q => rowL q.2, fun q => if q.1 = u then br else rowL q.2, enumD_map _ _, SubL.nil, by rw [List.length_zip, List.length_range, sizeLine_eq]; omega, ?_, ?_⟩
  · rintro ⟨j, x⟩ hq Y q acc ⟨s0, H0, C0, cl0, fp0, rfl⟩
    refine pd_if <| pdt_cmp <| pd_name (i := 11) rfl rfl <| pd_name (i := 4) rfl rfl <| od_eqT (by exact hu) (x := (j : Int)) (y := (u : Int)) (.int _) (.int _) (by decide) ⟨_, rfl, ?_⟩
    by_cases e : j = u
    · rw [if_pos (decide_eq_true (by omega))]
      exact pd_name (i := 5) rfl rfl ⟨by show _ = (if j = u then br else rowL x); rw [if_pos e], Lw.refl _⟩
    · rw [if_neg (by rw [decide_eq_false (by omega)]; decide)]
      exact pd_name (i := 12) rfl rfl ⟨by show _ = (if j = u then br else rowL x); rw [if_neg e], Lw.refl _⟩
  have ep : (((List.range ks.length).zip ks).map fun q => if q.1 = u then br else rowL q.2) = setX u br ks := rfl
  rw [ep]
  have bp0 : ∀ L, tyE p0 ∈ L → BadPart L len (m : Int) (.lst (setX u br ks)) := fun L sL => setX_bad (brb L sL) (by omega) (by omega)
  generalize setX u br ks = xs at bp0
  refine pgd_name (i := 9) sc_law_spoiled.nd rfl ?_
  refine pdb_cons <| pds_asg <| pd_fn GO hr (by decide) <| pda_cons <| pd_name (i := 0) rfl rfl <| pda_cons <| pd_lstF <| pda_cons <| pd_name (i := 9) rfl rfl <| pda_cons <| pd_name (i := 9) rfl rfl <| pda_cons <| pd_name (i := 9) rfl rfl <| pda_cons <| pd_name (i := 9) rfl rfl <| pda_cons <| pd_non <| pda_cons <| pd_int <| pda_cons <| pd_str <| pda_cons <| pd_dcT fun p1 => pda_nil ⟨by show 8 ≤ sizeLine; decide, ?_⟩
  refine pda_nil ⟨p, _, [.lst xs, .lst xs, .lst xs, .lst xs, .non, .int 7, .str "rows", .ref p1], n + 6, _, rfl, .lst _, by show 0 < 8; decide, by show 8 ≤ sizeLine; decide, lt _ (by omega), .there (.there (ctxF _ (wellOD K (n + 6 + 1)))), fun ys sq e => (by rw [e]; exact .lst _), fun bp hbp => ?_⟩
  have bpa : ∀ L, tyE p1 ∈ L → tyE p0 ∈ L → BadPart L len (m : Int) bp := fun L h1 h0 => by
    simp only [List.mem_cons, List.not_mem_nil, or_false] at hbp
    rcases hbp with rfl | rfl | rfl | rfl | rfl | rfl | rfl | rfl
    · exact bp0 L h0
    · exact bp0 L h0
    · exact bp0 L h0
    · exact bp0 L h0
    · exact badPart_no .non (by decide)
    · exact badPart_no (.int _) (by decide)
    · exact badPart_no (.str _) (by decide)
    · exact badPart_no (.dic h1) (by decide)
  refine pgd_name (i := 9) sc_law_spoiled.nd rfl ?_
  -- some
  refine pdb_cons <| pds_asg <| pd_lstF <| pda_cons ?_
  refine pd_lc2 (i := 11) (j := 12) rfl sc_law_spoiled.nd (blkOk_by (N := NSP) (sc := defScope s_law_spoiled) (by decide +kernel)) (fun _ _ _ _ _ => pg_tup rfl (pgs_cons (pg_name (i := 11) sc_law_spoiled.nd rfl (Or.inl rfl)) (pgs_cons (pg_name (i := 12) sc_law_spoiled.nd rfl (Or.inl rfl)) pgs_nil))) ?_
  refine pdi_enumA T.enumerate <| pd_name (i := 1) rfl rfl ⟨_, [], .ls (.lst _), ?_⟩
  refine ⟨Nat × List Row, (List.range kss.length).zip kss, fun q => .int (q.1 : Int), fun q => partL q.2, fun q => if q.1 = t then bp else partL q.2, enumD_map _ _, SubL.nil, by rw [List.length_zip, List.length_range, sizeLine_eq]; omega, ?_, ?_⟩
  · rintro ⟨j, x⟩ hq Y q acc ⟨s0, H0, C0, cl0, fp0, rfl⟩
    refine pd_if <| pdt_cmp <| pd_name (i := 11) rfl rfl <| pd_name (i := 3) rfl rfl <| od_eqT (by exact hu) (x := (j : Int)) (y := (t : Int)) (.int _) (.int _) (by decide) ⟨_, rfl, ?_⟩
    by_cases e : j = t
    · rw [if_pos (decide_eq_true (by omega))]
      exact pd_name (i := 9) rfl rfl ⟨by show _ = (if j = t then bp else partL x); rw [if_pos e], Lw.refl _⟩
    · rw [if_neg (by rw [decide_eq_false (by omega)]; decide)]
      exact pd_name (i := 12) rfl rfl ⟨by show _ = (if j = t then bp else partL x); rw [if_neg e], Lw.refl _⟩
  have ey : (((List.range kss.length).zip kss).map fun q => if q.1 = t then bp else partL q.2) = setY t bp kss := rfl
  rw [ey]
  have few : ∀ ks ∈ kss, ks.length ≤ 10 := fun ks h => by have := (ks3 ks h).2; omega
  have by0 : ∀ L, tyE p1 ∈ L → tyE p0 ∈ L → BadRws L lens (m : Int) (.lst (setY t bp kss)) := fun L h1 h0 => setY_bad (bpa L h1 h0) hlen el few
  generalize setY t bp kss = ys0 at by0
  refine pda_cons <| pd_bin <| pd_name (i := 1) rfl rfl <| pd_lstF <| pda_cons <| pd_lstF <| pda_nil ⟨by show 0 ≤ sizeLine; decide, pda_nil ⟨by show 1 ≤ sizeLine; decide, od_cat (.lst _) (.lst _) (by rw [List.length_map, sizeLine_eq]; show _ + 1 ≤ _; omega) ?_⟩⟩
  refine pda_cons <| pd_slice <| pd_name (i := 1) rfl rfl ?_
  show PD _ _ _ _ (fun d L1 => ∃ i, d = .int i ∧ _) _
  refine pd_un <| pd_int <| ud_neg ⟨-1, rfl, sld_list (.lst _) ?_⟩
  refine pda_cons <| pd_non <| pda_cons <| pd_int <| pda_cons <| pd_str <| pda_nil ⟨by show 6 ≤ sizeLine; decide, pgd_name (i := 10) sc_law_spoiled.nd rfl ?_⟩
  generalize hsl : [D.lst ys0, .lst (kss.map partL ++ [.lst []]), .lst (cutD (kss.map partL) none (some (-1))), .non, .int 0, .str "rows"] = sl
  have sl6 : sl.length = 6 := by rw [← hsl]; rfl
  have kk : ∀ q ∈ kss.map gp, (keysOf q).length ≤ 1228 := fun q hq => by
    obtain ⟨ks, h1, rfl⟩ := List.mem_map.mp hq
    rw [gp_keys]
    have := few ks h1
    omega
  have gok : ∀ L, ∀ q ∈ kss.map gp, PartOk L q := fun L q hq => by
    obtain ⟨ks, h1, rfl⟩ := List.mem_map.mp hq
    exact gp_ok ks
  have all : ∀ L, tyE p1 ∈ L → tyE p0 ∈ L → ∀ d ∈ sl, BadRws L lens (m : Int) d := fun L h1 h0 d hd => by
    rw [← hsl] at hd
    simp only [List.mem_cons, List.not_mem_nil, or_false] at hd
    rcases hd with rfl | rfl | rfl | rfl | rfl | rfl
    · exact by0 L h1 h0
    · have e : kss.map partL ++ [D.lst []] = (kss.map gp ++ [gp []]).map PartD.d := by
        rw [List.map_append, ← gp_map]
        rfl
      rw [e]
      refine gps_bad (fun q hq => ?_) (fun q hq => ?_) (by rw [List.length_append, List.length_map]; show _ + 1 ≠ _; omega)
      · rcases List.mem_append.mp hq with a | a
        · exact gok L q a
        · rw [List.mem_singleton.mp a]; exact gp_ok []
      · rcases List.mem_append.mp hq with a | a
        · exact kk q a
        · rw [List.mem_singleton.mp a]; exact Nat.zero_le _
    · have e : cutD (kss.map partL) none (some (-1)) = ((kss.map gp).take (kss.length - 1)).map PartD.d := by
        rw [cut_last_map, gp_map, List.map_take]
      rw [e]
      exact gps_bad (fun q hq => gok L q (List.mem_of_mem_take hq)) (fun q hq => kk q (List.mem_of_mem_take hq)) (by rw [List.length_take, List.length_map]; omega)
    · exact badRws_no .non (by decide)
    · exact badRws_no (.int _) (by decide)
    · exact badRws_no (.str _) (by decide)
  have s0 : atI sl 0 = some (.lst ys0) := by rw [← hsl]; exact atI_some (by decide) rfl
  have sm0 : D.lst ys0 ∈ sl := by rw [← hsl]; exact List.mem_cons_self
  have fin : ∀ (n' : Int) (d : D), n' ≤ n + 9 → d ∈ sl → ∃ L2, Lc K (tyE p1 :: tyE p0 :: ctx (wellOD K n')) L2 ∧ P1 d L2 := fun n' d hn' hd => ⟨tyE p1 :: tyE p0 :: ctx (wellOD K (n + 9)), (Foc.there (Foc.there (ctxF _ _))).lc (well_more hn'), h p0 p1 d fun L2 h1 h0 => all L2 h1 h0 d hd⟩
  refine pdb_cons <| pds_ret <| pd_shr <| pd_if <| pdt_cmp <| pd_fn GD hr (by decide) <| pda_cons <| pd_name (i := 0) rfl rfl <| pda_cons <| pd_int <| pda_nil ⟨p, 3, n + 6 + 1, _, rfl, by decide, by decide, lt _ (by omega), .there (.there (ctxF _ (wellOD K (n + 6 + 1 + 1)))), fun y y0 y1 => pd_int <| od_gtI ⟨_, rfl, iteD (fun _ => ?_) fun _ => ?_⟩⟩
  · exact pd_ix <| pd_name (i := 10) rfl rfl <| pd_int <| ixd_seq (.lst _) s0 (fin _ _ (by omega) sm0)
  · exact pd_fn GO hr (by decide) <| pda_cons <| pd_name (i := 0) rfl rfl <| pda_cons <| pd_name (i := 10) rfl rfl <| pda_nil ⟨p, _, sl, n + 6 + 1 + 1, _, rfl, .lst _, by omega, by rw [sizeLine_eq]; omega, lt _ (by omega), .there (.there (ctxF _ (wellOD K (n + 6 + 1 + 1 + 1)))), fun ys sq e => (by rw [e]; exact .lst _), fun d hd => fin _ d (by omega) hd⟩
end
end K05
end
section
set_option Elab.async false
set_option linter.all false
set_option maxRecDepth 100000
set_option maxHeartbeats 8000000
namespace K05
open PySem L2 D2
open PySem.Spec hiding Row
abbrev s_law_are_checked : Stmt := top 34
section
variable {P : Program} {w : World} {K : PySem.W.Frag} {mg : Str → Option Value} {base : Heap}
def KwF (P : Program) (w : World) (K : PySem.W.Frag) (mg : Str → Option Value) (base : Heap) (x : Str) (k : Nat) (ps : List Str) (T : Ct) (ks : List Str) (g : List Value → List Value → List Value) (gV : List V → List V → List V) : Prop :=
  ∃ (f : Addr) (fd : FuncData), FnOk P w K mg base (L2.CX P w) k f fd ps (spD K T) ∧ mg x = some (.ref f) ∧ PySem.W.keepIn K (.ref f) = true ∧ KBn K fd ps 0 ks g gV
structure ChkM (P : Program) (w : World) (K : PySem.W.Frag) (mg : Str → Option Value) (base : Heap) : Prop where
  T : Txt0 K mg
  max : mg "max" = none
  draw : Fn P w K mg base "_law_draw" 1 ["well", "many"] (tDraw (K := K))
  oneOf : Fn P w K mg base "_law_one_of" 2 ["well", "some"] (tOneOf (K := K))
  num : Fn P w K mg base "_law_is_number" 1 ["value"] tIsInteger
  int : Fn P w K mg base "is_integer" 1 ["value"] tIsInteger
  wit : Fn P w K mg base "is_within" 2 ["value", "least", "most"] tIsWithin
  row : Fn P w K mg base "is_row" 2 ["value", "many", "below"] tIsRow
  code : Fn P w K mg base "is_code" 1 ["value"] tIsCode
  intK : KwF P w K mg base "is_integer" 1 ["value"] tIsInteger ["value"] (fun _ ws => match ws with | [v0] => [v0] | _ => []) (fun _ ws => match ws with | [v0] => [v0] | _ => [])
  witK : KwF P w K mg base "is_within" 2 ["value", "least", "most"] tIsWithin ["most", "value", "least"] (fun _ ws => match ws with | [v0, v1, v2] => [v1, v2, v0] | _ => []) (fun _ ws => match ws with | [v0, v1, v2] => [v1, v2, v0] | _ => [])
  rowK : KwF P w K mg base "is_row" 2 ["value", "many", "below"] tIsRow ["below", "value", "many"] (fun _ ws => match ws with | [v0, v1, v2] => [v1, v2, v0] | _ => []) (fun _ ws => match ws with | [v0, v1, v2] => [v1, v2, v0] | _ => [])
  codeK : KwF P w K mg base "is_code" 1 ["value"] tIsCode ["value"] (fun _ ws => match ws with | [v0] => [v0] | _ => []) (fun _ ws => match ws with | [v0] => [v0] | _ => [])
def sw1 : List D → List D
  | [v0] => [v0]
  | _ => []
def sw3 : List D → List D
  | [v0, v1, v2] => [v1, v2, v0]
  | _ => []
theorem k1_shape {F : Hp} (zs : List V) (ds : List D) (hl : zs.length = 1) (h : IsL K F zs ds) : IsL K F ((fun _ ws => match ws with | [v0] => [v0] | _ => []) ([] : List V) zs) (sw1 ds) := by
  match zs, hl with
  | [v0], _ =>
    cases h with
    | cons h0 t =>
      cases t
      exact .cons h0 .nil
theorem k3_shape {F : Hp} (zs : List V) (ds : List D) (hl : zs.length = 3) (h : IsL K F zs ds) : IsL K F ((fun _ ws => match ws with | [v0, v1, v2] => [v1, v2, v0] | _ => []) ([] : List V) zs) (sw3 ds) := by
  match zs, hl with
  | [v0, v1, v2], _ =>
    cases h with
    | cons h0 t =>
      cases t with
      | cons h1 t =>
        cases t with
        | cons h2 t =>
          cases t
          exact .cons h1 (.cons h2 (.cons h0 .nil))
abbrev NCK : List Str := ["well", "value", "least", "most", "number", "due", "row", "many", "below", "bad", "code", "place", "x", "letter"]
theorem sc_law_are_checked : FnScope NCK ["well"] (defScope s_law_are_checked) := ⟨rfl, rfl, rfl, by decide +kernel, rfl, by decide +kernel, by decide +kernel⟩
abbrev CX_ (P : Program) (w : World) (K : PySem.W.Frag) (mg : Str → Option Value) (base : Heap) (f : Addr) (cdv : Value) (A : Around) (outer : List Env) (s : Shared) (H : Hp) (E : XK) : Cx := cxOf (L2.CX P w) P w K mg base NCK "_law_are_checked" (defScope s_law_are_checked) f cdv A outer s H E
abbrev LE (P1 : PK1) (R : RK1) : DE := { nx := fun _ L' => P1 .non L', rt := P1, bk := fun _ _ => False, ct := fun _ _ => False, ex := fun _ => R }
/-- texts of signs -/
theorem code_of {ys : List Str} (h : ∀ y ∈ ys, y ∈ zeroOne) : signs (Txt.join Str.empty ys) = ys := by
  rw [join_signs]
  have go : ∀ l : List Str, (∀ y ∈ l, y ∈ zeroOne) → (l.map signs).flatten = l := fun l => by
    induction l with
    | nil => exact fun _ => rfl
    | cons y l ih =>
      intro hh
      rw [List.map_cons, List.flatten_cons, ih fun z hz => hh z (List.mem_cons_of_mem _ hz)]
      have hy := hh y List.mem_cons_self
      simp only [zeroOne, List.mem_cons, List.not_mem_nil, or_false] at hy
      rcases hy with rfl | rfl <;> rfl
  exact go ys h
theorem code_bad {x : Str} {s : Str} (hs : s ∈ signs x) (hn : s ∉ zeroOne) : codeB x = false := by
  unfold codeB
  rw [Bool.and_eq_false_iff]
  exact .inr (List.all_eq_false.mpr ⟨s, hs, by rw [decide_eq_false hn]; decide⟩)
theorem signs_app (x y : Str) : signs (x ++ y) = signs x ++ signs y := by
  unfold signs
  rw [← List.map_append]
  congr 1
  show (x ++ y).cps.toList = _
  rw [Str.cps_append, Array.toList_append]
variable {f : Addr} {cdv : Value} {A : Around} {outer : List Env} {s : Shared} {H : Hp} {E : XK} {P1 : PK1} {R : RK1}
variable {p pd : Addr} {n : Int} {vd : D} {row : List D} {many below : Option Int} {ctx : OD → Led} {a1 a2 a3 a4 a5 a6 a7 a8 a9 a10 a11 a12 a13 : Option D}
abbrev LC (K : PySem.W.Frag) (pd : Addr) (ctx : OD → Led) (n : Int) : Led := tyE pd :: ctx (wellOD K n)
/-- what is known of the value -/
structure VOk (pd : Addr) (vd : D) : Prop where
  bt : ∀ L, tyE pd ∈ L → ∃ nm, Bt L vd nm
  few : ∀ x : Str, vd = .str x → x.length ≤ sizeLine
  code : isCode vd = false
theorem cut_len (x : Str) (h : x.length ≤ 17) (lo hi : Option Int) : (cutS x lo hi).length ≤ 17 := by
  show (((x.cps.toList.drop _).take _).toArray).size ≤ 17
  have e : x.cps.toList.length ≤ 17 := by rw [Array.length_toList]; exact h
  rw [List.size_toArray, List.length_take, List.length_drop]
  omega
theorem notT {b : Bool} {A B : Prop} (h : b = false) (a : A) : TruD (.bl b) fun t => TruD (.bl (!t)) fun u => if u = true then A else B := by
  subst h
  show if (!false) = true then A else B
  rw [if_pos (show (!false) = true from rfl)]
  exact a
theorem chk_12 (M : ChkM P w K mg base) (hr : Room 2 (CX_ P w K mg base f cdv A outer s H E).A) (ctxF : ∀ a b, Foc p a b (ctx a) (ctx b)) (hn : n + 100 < most) (hP : ∀ n', n' ≤ n + 20 → ∃ Lf, Lc K (LC K pd ctx n') Lf ∧ P1 (.bl true) Lf) (vo : VOk pd vd) :
    PDB (CX_ P w K mg base f cdv A outer s H E) ((defBody s_law_are_checked).drop 12) (LE P1 R) [some (.ref p), some vd, a2, a3, a4, a5, a6, some (optD many), some (optD below), a9, a10, a11, a12, a13] (LC K pd ctx n) := by
  have hu := hr.units
  have hn : n + 100 < 1000000 := hn
  have lt (a : Int) (ha : a < n + 100) : a < K05.most := by show a < 1000000; omega
  refine pdb_cons <| pds_asg <| pd_join ?_
  refine pd_lcS1 (i := 13) rfl sc_law_are_checked.nd (blkOk_by (N := NCK) (sc := defScope s_law_are_checked) (by decide +kernel)) (fun _ _ _ _ _ => pg_name (i := 13) sc_law_are_checked.nd rfl (Or.inl rfl)) ?_
  refine pdi_range1 M.T.range <| pd_fn M.oneOf hr (by decide) <| pda_cons <| pd_name (i := 0) rfl rfl <| pda_cons <| pd_lstF <| pda_cons <| pd_int <| pda_cons <| pd_int <| pda_cons <| pd_int <| pda_cons <| pd_int <| pda_cons <| pd_int <| pda_nil ⟨by show 5 ≤ sizeLine; decide, pda_nil ⟨p, _, [0, 1, 5, 16, 17].map D.int, n, _, rfl, .lst _, by show 0 < 5; decide, by show 5 ≤ sizeLine; decide, lt _ (by omega), .there (ctxF _ (wellOD K (n + 1))), fun ys sq e => (by rw [e]; exact .lst _), fun cd hcd => ?_⟩⟩
  obtain ⟨c, hc, rfl⟩ := List.mem_map.mp hcd
  have c17 : 0 ≤ c ∧ c ≤ 17 := by
    simp only [List.mem_cons, List.not_mem_nil, or_false] at hc
    omega
  refine ⟨c, rfl, by omega, by omega, ?_⟩
  refine ⟨_, Str, _, _, D.str, fun _ y => y ∈ zeroOne, fun i L2 => L2 = LC K pd ctx (n + 1 + i), rngD_map _, by show LC K pd ctx (n + 1) = LC K pd ctx _; rw [show n + 1 + ((0 : Nat) : Int) = n + 1 by omega], fun _ _ _ => SubL.nil, by rw [List.length_range, sizeLine_eq]; omega, ?_, ?_⟩
  · rintro i x L2 hx rfl Y q acc ⟨s0, H0, C0, cl0, fp0, rfl⟩
    have hi := (List.getElem?_eq_some_iff.mp hx).1
    rw [List.length_range] at hi
    refine pd_fn M.oneOf hr (by decide) <| pda_cons <| pd_name (i := 0) rfl rfl <| pda_cons <| pd_lstF <| pda_cons <| pd_str <| pda_cons <| pd_str <| pda_nil ⟨by show 2 ≤ sizeLine; decide, pda_nil ⟨p, _, zeroOne.map D.str, n + 1 + i, _, rfl, .lst _, by show 0 < 2; decide, by show 2 ≤ sizeLine; decide, lt _ (by omega), .there (.there (ctxF _ (wellOD K (n + 1 + i + 1)))), fun ys sq e => (by rw [e]; exact .lst _), fun d hd => ?_⟩⟩
    obtain ⟨y, hy, rfl⟩ := List.mem_map.mp hd
    refine ⟨y, rfl, hy, _, Lw.refl _, ?_⟩
    show LC K pd ctx (n + 1 + (i : Int) + 1) = LC K pd ctx (n + 1 + ((i + 1 : Nat) : Int))
    rw [show n + 1 + ((i + 1 : Nat) : Int) = n + 1 + i + 1 by omega]
  rintro ys L2 pk rfl
  have hz : ∀ y ∈ ys, y ∈ zeroOne := by
    have go : ∀ {a : List Nat} {b : List Str}, Paired (fun _ y => y ∈ zeroOne) a b → ∀ y ∈ b, y ∈ zeroOne := fun h => by
      induction h with
      | nil => exact fun _ h => nomatch h
      | cons r t ih =>
        intro y hy
        rcases List.mem_cons.mp hy with e | e
        · rw [e]; exact r
        · exact ih y e
    exact go pk
  have yl : ys.length = c.toNat := by
    have := paired_length pk
    rw [List.length_range] at this
    exact this.symm
  have each : (ys.map (·.length)).sum + ys.length * Str.length "" ≤ 16777216 := by
    have go : ∀ l : List Str, (∀ y ∈ l, y ∈ zeroOne) → (l.map (·.length)).sum ≤ l.length := fun l => by
      induction l with
      | nil => exact fun _ => Nat.le_refl _
      | cons y l ih =>
        intro hh
        have := ih fun z hz => hh z (List.mem_cons_of_mem _ hz)
        have hy := hh y List.mem_cons_self
        simp only [zeroOne, List.mem_cons, List.not_mem_nil, or_false] at hy
        have : y.length = 1 := by rcases hy with rfl | rfl <;> rfl
        rw [List.map_cons, List.sum_cons, List.length_cons]
        omega
    have := go ys hz
    have e0 : Str.length "" = 0 := rfl
    rw [e0]
    omega
  refine ⟨ys, rfl, each, ?_⟩
  have sg := code_of hz
  have ee : ("" : Str) = Str.empty := rfl
  rw [ee]
  have cl : (Txt.join Str.empty ys).length = ys.length := by rw [← signs_len, sg]
  generalize Txt.join Str.empty ys = code at sg cl
  have e18 : n + 1 + (((List.range c.toNat).length : Nat) : Int) ≤ n + 20 := by
    rw [List.length_range]
    omega
  generalize n + 1 + (((List.range c.toNat).length : Nat) : Int) = n1 at e18
  have l17 : code.length ≤ 17 := by omega
  have hz16 : code.length ≤ sizeLine := by rw [sizeLine_eq]; omega
  refine pgd_name (i := 10) sc_law_are_checked.nd rfl ?_
  have cb : codeB code = decide ((code.length : Int) < 17) := by
    unfold codeB
    rw [sg, List.all_eq_true.mpr fun y hy => decide_eq_true (hz y hy), Bool.and_true]
    exact decide_eq_decide.mpr (by omega)
  have two : ∀ x : Str, codeB (x ++ "2") = false := fun x => code_bad (s := "2") (by rw [signs_app]; exact List.mem_append_right _ (by decide)) (by decide)
  have spc : ∀ x : Str, codeB (x ++ " ") = false := fun x => code_bad (s := " ") (by rw [signs_app]; exact List.mem_append_right _ (by decide)) (by decide)
  obtain ⟨nv, bv⟩ := vo.bt (LC K pd ctx n1) List.mem_cons_self
  refine pdb_cons <| pds_ifB (t := false) ((pdt_orB (t := false) (u := false) ?_ fun _ => (pdt_orB (t := false) (u := false) ?_ fun _ => (pdt_orB (t := false) (u := false) ?_ fun _ => pdt_or1 ?_).eqB rfl).eqB rfl).eqB rfl) (fun z => nomatch z) fun _ => pdb_nil ?_
  · refine pdt_cmp <| pd_fn M.code hr (by decide) <| pda_cons <| pd_name (i := 10) rfl rfl <| pda_nil ⟨_, _, rfl, .str _, fun x e => (by cases e; exact hz16), ?_⟩
    refine pd_cmp <| pd_callB M.T.len PySem.boot_len <| pda_cons <| pd_name (i := 10) rfl rfl <| pda_nil <| cd_lenS hz16 <| pd_int <| od_ltI ?_
    show OpD _ _ (.bl (codeB code)) _ _ _
    rw [cb]
    exact od_neT hu (x := decide ((code.length : Int) < 17)) (y := decide ((code.length : Int) < 17)) (.bl _) (.bl _) (by decide) ⟨_, rfl, by rw [decide_eq_true rfl]; rfl, rfl⟩
  · obtain ⟨fK, fdK, gK, mK, kK, bK⟩ := M.codeK
    refine pdt_valB <| pd_callK0 sw1 gK (hr.mono (by decide)) mK kK bK (fun F zs ds hl h => k1_shape zs ds hl h) ?_
    refine pdk_cons <| pd_bin <| pd_slice <| pd_name (i := 10) rfl rfl ?_
    show PD _ _ _ _ (fun d L1 => ∃ i, d = .int i ∧ _) _
    refine pd_int ⟨9, rfl, sld_str hz16 ?_⟩
    have c9 := cut_len code l17 none (some 9)
    refine pd_str <| od_addS (by rw [sizeLine_eq]; show _ + 1 ≤ _; omega) <| pdk_nil ⟨rfl, ?_⟩
    refine ⟨_, _, rfl, .str _, fun x e => ?_, ?_, rfl⟩
    · cases e
      show (cutS code none (some 9) ++ ("2" : Str)).length ≤ sizeLine
      rw [Str.length_append, sizeLine_eq]
      show _ + 1 ≤ _
      omega
    · show D.bl (codeB (cutS code none (some 9) ++ "2")) = D.bl false
      rw [two]
  · exact pdt_valB <| pd_fn M.code hr (by decide) <| pda_cons <| pd_callTy M.T.list PyProof.Rows.Boot.«list» <| pda_cons <| pd_name (i := 10) rfl rfl <| pda_nil <| cd_listS rfl hz16 <| pda_nil ⟨_, _, rfl, .lst _, fun x e => (by cases e), rfl, rfl⟩
  · exact pdt_valB <| pd_fn M.code hr (by decide) <| pda_cons <| pd_name (i := 1) rfl rfl <| pda_nil ⟨_, _, rfl, bv, vo.few, (by show D.bl (isCode vd) = D.bl false; rw [vo.code]), rfl⟩
  -- the end
  obtain ⟨Lf, lc, hp⟩ := hP n1 e18
  have c3 := cut_len code l17 none (some 3)
  refine pdb_cons <| pds_ret <| pd_shr <| pd_and <| pd_not <| pd_fn M.code hr (by decide) <| pda_cons <| pd_bin <| pd_slice <| pd_name (i := 10) rfl rfl ?_
  show PD _ _ _ _ (fun d L1 => ∃ i, d = .int i ∧ _) _
  refine pd_int ⟨3, rfl, sld_str hz16 ?_⟩
  refine pd_str <| od_addS (by rw [sizeLine_eq]; show _ + 1 ≤ _; omega) <| pda_nil ⟨_, _, rfl, .str _, fun x e => ?_, ?_⟩
  · cases e
    show (cutS code none (some 3) ++ (" " : Str)).length ≤ sizeLine
    rw [Str.length_append, sizeLine_eq]
    show _ + 1 ≤ _
    omega
  refine notT (b := codeB (cutS code none (some 3) ++ " ")) (spc _) ?_
  refine pd_and <| pd_not <| pd_fn M.row hr (by decide) <| pda_cons <| pd_non <| pda_cons <| pd_name (i := 7) rfl rfl <| pda_cons <| pd_name (i := 8) rfl rfl <| pda_nil ⟨_, none, many, below, rfl, .no .non (by decide), fun xs e => (by cases e), ?_⟩
  refine notT rfl ?_
  refine pd_and <| pd_not <| pd_fn M.row hr (by decide) <| pda_cons <| pd_dcI fun d1 => pda_cons <| pd_non <| pda_cons <| pd_non <| pda_nil ⟨_, none, none, none, rfl, .no (.dic List.mem_cons_self) (by decide), fun xs e => (by cases e), ?_⟩
  refine notT rfl ?_
  refine pd_one <| pd_not <| pd_fn M.row hr (by decide) <| pda_cons <| pd_dcI2 fun d2 => pda_cons <| pd_int <| pda_cons <| pd_int <| pda_nil ⟨_, none, some 2, some 2, rfl, .no (.dic List.mem_cons_self) (by decide), fun xs e => (by cases e), ?_⟩
  exact ⟨Lf, fun H F w' => lc H F ((Lw.trans .tail .tail).lc H F w'), hp⟩
end
end K05
end
section
set_option Elab.async false
set_option linter.all false
set_option maxRecDepth 100000
set_option maxHeartbeats 8000000
namespace K05
open PySem L2 D2
open PySem.Spec hiding Row
section
variable {P : Program} {w : World} {K : PySem.W.Frag} {mg : Str → Option Value} {base : Heap}
variable {f : Addr} {cdv : Value} {A : Around} {outer : List Env} {s : Shared} {H : Hp} {E : XK} {P1 : PK1} {R : RK1}
variable {p pd : Addr} {n : Int} {vd : D} {row : List D} {many below : Option Int} {ctx : OD → Led} {a1 a2 a3 a4 a5 a6 a7 a8 a9 a10 a11 a12 a13 : Option D}
abbrev rowC : List D := [.int 0, .int 0, .int 1, .int 1, .int 2, .int 3, .int (-1), .bl true, .str "1", .non]
theorem rowC_bt {L : Led} : ∀ x ∈ rowC, ∃ n, Bt L x n := fun x hx => by
  simp only [rowC, List.mem_cons, List.not_mem_nil, or_false] at hx
  rcases hx with rfl | rfl | rfl | rfl | rfl | rfl | rfl | rfl | rfl | rfl
  · exact ⟨_, .int _⟩
  · exact ⟨_, .int _⟩
  · exact ⟨_, .int _⟩
  · exact ⟨_, .int _⟩
  · exact ⟨_, .int _⟩
  · exact ⟨_, .int _⟩
  · exact ⟨_, .int _⟩
  · exact ⟨_, .bl _⟩
  · exact ⟨_, .str _⟩
  · exact ⟨_, .non⟩
theorem none_bad (below : Option Int) (row : List D) : (row.filter fun x => !cellOk below x).isEmpty = row.all (cellOk below) := by
  induction row with
  | nil => rfl
  | cons x l ih =>
    rw [List.filter_cons, List.all_cons]
    cases cellOk below x with
    | true => exact ih
    | false => rfl
theorem truIf {b : Bool} {A B : Prop} (h1 : b = true → A) (h2 : b = false → B) : TruD (.bl b) fun t => if t = true then A else B := by
  cases b with
  | true => show if true = true then A else B; rw [if_pos rfl]; exact h1 rfl
  | false => show if false = true then A else B; rw [if_neg (by decide)]; exact h2 rfl
theorem opt_of {x : D} {xs : List (Option Int)} (h : x ∈ xs.map optD) : ∃ o ∈ xs, x = optD o := by
  obtain ⟨o, ho, rfl⟩ := List.mem_map.mp h
  exact ⟨o, ho, rfl⟩
theorem chk_9 (M : ChkM P w K mg base) (hr : Room 2 (CX_ P w K mg base f cdv A outer s H E).A) (ctxF : ∀ a b, Foc p a b (ctx a) (ctx b)) (hn : n + 100 < most) (hP : ∀ n', n' ≤ n + 20 → ∃ Lf, Lc K (LC K pd ctx n') Lf ∧ P1 (.bl true) Lf) (vo : VOk pd vd) (rl : row.length ≤ 3) (rc : ∀ x ∈ row, x ∈ rowC) :
    PDB (CX_ P w K mg base f cdv A outer s H E) ((defBody s_law_are_checked).drop 9) (LE P1 R) [some (.ref p), some vd, a2, a3, a4, a5, some (.lst row), some (optD many), some (optD below), a9, a10, a11, a12, a13] (LC K pd ctx n) := by
  have hu := hr.units
  have rb : ∀ L, Bts L (some row) := fun L xs e y hy => (by cases e; exact rowC_bt y (rc y hy))
  refine pdb_cons <| pds_lcW1 (i := 12) (j := 9) rfl sc_law_are_checked.nd rfl rfl (by rfl) (blkOk_by (N := NCK) (sc := defScope s_law_are_checked) (by decide +kernel)) (fun _ _ _ _ _ => pg_name (i := 12) sc_law_are_checked.nd rfl (Or.inl rfl)) ?_
  refine pdi_list <| pd_name (i := 6) rfl rfl ⟨_, .inl rfl, ?_⟩
  refine ⟨D, row, fun x => x, fun x => !cellOk below x, fun x => x, (List.map_id' row).symm, SubL.nil, by rw [sizeLine_eq]; omega, ?_, ?_, ?_⟩
  · rintro x hx Y p2 acc ⟨s0, H0, C0, cl0, fp0, rfl⟩
    obtain ⟨nx, bx⟩ := rb ((p2, .lst acc) :: LC K pd ctx n) row rfl x hx
    refine PDT.eqB (t := !isInt x || !cellOk below x) ?_ ?_
    refine pdt_orB (t := !isInt x) (u := !cellOk below x) (pdt_notB (pdt_valB (pd_fn M.num hr (by decide) (pda_cons (pd_name (i := 12) rfl rfl (pda_nil ⟨x, nx, rfl, bx, rfl, rfl⟩)))))) fun hi => ?_
    · obtain ⟨j, rfl⟩ := isInt_inv (show isInt x = true by simpa using hi)
      refine PDT.eqB (t := decide (j < 0) || !cellOk below (.int j)) ?_ ?_
      refine pdt_orB (t := decide (j < 0)) (u := !cellOk below (.int j)) (pdt_cmp (pd_name (i := 12) rfl rfl (pd_int (od_ltI ⟨_, rfl, rfl, rfl⟩)))) fun h0 => ?_
      · have h0 : ¬ j < 0 := of_decide_eq_false h0
        refine pdt_or1 (PDT.eqB (t := below.isSome && !cellOk below (.int j)) ?_ ?_)
        refine pdt_andB (t := below.isSome) (u := !cellOk below (.int j)) (pdt_cmp (pd_name (i := 8) rfl rfl (pd_non (od_notN ⟨_, rfl, ?_, rfl⟩)))) fun hb => ?_
        · cases below <;> rfl
        · cases below with
          | none => cases hb
          | some b =>
            refine pdt_and1 (pdt_cmp (pd_name (i := 12) rfl rfl (pd_name (i := 8) rfl rfl (od_geI ⟨_, rfl, ?_, rfl⟩))))
            show decide (b ≤ j) = !(decide (0 ≤ j) && decide (j < b))
            by_cases c : b ≤ j
            · rw [decide_eq_true c, decide_eq_false (show ¬ j < b by omega), Bool.and_false]
              rfl
            · rw [decide_eq_false c, decide_eq_true (show j < b by omega), decide_eq_true (show 0 ≤ j by omega)]
              rfl
        · cases below with
          | none =>
            show false = !(decide (0 ≤ j) && true)
            rw [decide_eq_true (show 0 ≤ j by omega)]
            rfl
          | some b => rfl
      · by_cases c : j < 0
        · rw [decide_eq_true c]
          show true = !(decide (0 ≤ j) && _)
          rw [decide_eq_false (show ¬ 0 ≤ j by omega)]
          rfl
        · rw [decide_eq_false c]
          rfl
    · cases hc : isInt x with
      | true => rfl
      | false =>
        show true = !cellOk below x
        cases h2 : cellOk below x with
        | false => rfl
        | true => rw [cell_of bx h2] at hc; cases hc
  · rintro x hx - Y p2 acc ⟨s0, H0, C0, cl0, fp0, rfl⟩
    exact pd_name (i := 12) rfl rfl ⟨rfl, Lw.refl _⟩
  rw [List.map_id']
  -- due
  have ro : rowOk many below row = ((row.filter fun x => !cellOk below x).isEmpty && (many.all fun m => decide ((row.length : Int) = m))) := by
    rw [none_bad, Bool.and_comm]
    rfl
  refine pdb_cons <| pds_asg <| PD.mono (P := fun d L1 => d = .bl (rowOk many below row) ∧ L1 = LC K pd ctx n) (pd_and <| pd_cmp <| pd_name (i := 9) rfl rfl <| pd_lstF <| pda_nil ⟨by show 0 ≤ sizeLine; decide, od_eqNil hu (.lst _) (.lst _) ?_⟩) fun dd L1 ⟨e1, e2⟩ => ?_
  · refine truIf (fun hb => ?_) fun hb => ?_
    · rw [hb] at ro
      refine pd_one (pd_or (pd_cmp (pd_name (i := 7) rfl rfl (pd_non (od_isN ?_)))))
      cases many with
      | none => exact ⟨by rw [ro]; rfl, rfl⟩
      | some m =>
        refine pd_one <| pd_cmp <| pd_name (i := 7) rfl rfl <| pd_callB M.T.len PySem.boot_len <| pda_cons <| pd_name (i := 6) rfl rfl <| pda_nil <| cd_len (.lst _) <| od_eqT hu (x := m) (y := (row.length : Int)) (.int _) (.int _) (by decide) ⟨?_, rfl⟩
        rw [ro]
        show D.bl (decide (m = (row.length : Int))) = D.bl (true && decide ((row.length : Int) = m))
        rw [Bool.true_and]
        exact congrArg (fun b => D.bl b) (decide_eq_decide.mpr ⟨fun e => Eq.symm e, fun e => Eq.symm e⟩)
    · rw [hb] at ro ⊢
      exact ⟨by rw [ro]; rfl, rfl⟩
  subst e1 e2
  refine pgd_name (i := 5) sc_law_are_checked.nd rfl ?_
  have eqT : ∀ b : Bool, (!decide (b = b)) = false := fun b => by rw [decide_eq_true rfl]; rfl
  refine pdb_cons <| pds_ifB (t := false) ((pdt_orB (t := false) (u := false) ?_ fun _ => (pdt_orB (t := false) (u := false) ?_ fun _ => pdt_or1 ?_).eqB rfl).eqB rfl) (fun z => nomatch z) fun _ => pdb_nil <| chk_12 M hr ctxF hn hP vo
  · exact pdt_cmp <| pd_fn M.row hr (by decide) <| pda_cons <| pd_name (i := 6) rfl rfl <| pda_cons <| pd_name (i := 7) rfl rfl <| pda_cons <| pd_name (i := 8) rfl rfl <| pda_nil ⟨_, some row, many, below, rfl, .seq (.lst _), rb _, pd_name (i := 5) rfl rfl <| od_neT hu (x := rowOk many below row) (y := rowOk many below row) (.bl _) (.bl _) (by decide) ⟨_, rfl, eqT _, rfl⟩⟩
  · obtain ⟨fK, fdK, gK, mK, kK, bK⟩ := M.rowK
    refine pdt_cmp <| pd_callK0 sw3 gK (hr.mono (by decide)) mK kK bK (fun F zs ds hl h => k3_shape zs ds hl h) ?_
    refine pdk_cons <| pd_name (i := 8) rfl rfl <| pdk_cons <| pd_callTy M.T.tuple PyProof.Rows.Boot.«tuple» <| pda_cons <| pd_name (i := 6) rfl rfl <| pda_nil <| cd_tuple (.lst _) <| pdk_cons <| pd_name (i := 7) rfl rfl <| pdk_nil ⟨rfl, ?_⟩
    exact ⟨_, some row, many, below, rfl, .seq (.tup _), rb _, pd_name (i := 5) rfl rfl <| od_neT hu (x := rowOk many below row) (y := rowOk many below row) (.bl _) (.bl _) (by decide) ⟨_, rfl, eqT _, rfl⟩⟩
  · exact pdt_valB <| pd_fn M.row hr (by decide) <| pda_cons <| pd_bin <| pd_str <| pd_callB M.T.len PySem.boot_len <| pda_cons <| pd_name (i := 6) rfl rfl <| pda_nil <| cd_len (.lst _) <| od_repS (by omega) (by omega) (by decide) fun zs => pda_cons <| pd_name (i := 7) rfl rfl <| pda_cons <| pd_name (i := 8) rfl rfl <| pda_nil ⟨_, none, many, below, rfl, .no (.str _) (by decide), fun xs e => (by cases e), rfl, rfl⟩
theorem chk_6 (M : ChkM P w K mg base) (hr : Room 2 (CX_ P w K mg base f cdv A outer s H E).A) (ctxF : ∀ a b, Foc p a b (ctx a) (ctx b)) (hn : n + 200 < most) (hP : ∀ n', n' ≤ n + 30 → ∃ Lf, Lc K (LC K pd ctx n') Lf ∧ P1 (.bl true) Lf) (vo : VOk pd vd) :
    PDB (CX_ P w K mg base f cdv A outer s H E) ((defBody s_law_are_checked).drop 6) (LE P1 R) [some (.ref p), some vd, a2, a3, a4, a5, a6, a7, a8, a9, a10, a11, a12, a13] (LC K pd ctx n) := by
  have hu := hr.units
  have hn : n + 200 < 1000000 := hn
  have lt (a : Int) (ha : a < n + 200) : a < K05.most := by show a < 1000000; omega
  refine pdb_cons <| pds_lcS1 (i := 11) (j := 6) rfl sc_law_are_checked.nd rfl rfl (by rfl) (blkOk_by (N := NCK) (sc := defScope s_law_are_checked) (by decide +kernel)) (fun _ _ _ _ _ => pg_name (i := 11) sc_law_are_checked.nd rfl (Or.inl rfl)) ?_
  refine pdi_range1 M.T.range <| pd_fn M.draw hr (by decide) <| pda_cons <| pd_name (i := 0) rfl rfl <| pda_cons <| pd_int <| pda_nil ⟨p, 4, n, _, rfl, by decide, by decide, lt _ (by omega), .there (ctxF _ (wellOD K (n + 1))), fun c c0 c1 => ⟨c, rfl, by omega, by omega, ?_⟩⟩
  refine ⟨_, D, _, _, fun d => d, fun _ d => d ∈ rowC, fun i L2 => L2 = LC K pd ctx (n + 1 + i), rngD_map _, by show LC K pd ctx (n + 1) = LC K pd ctx _; rw [show n + 1 + ((0 : Nat) : Int) = n + 1 by omega], fun _ _ _ => SubL.nil, by rw [List.length_range, sizeLine_eq]; omega, ?_, ?_⟩
  · rintro i x L2 hx rfl Y q acc ⟨s0, H0, C0, cl0, fp0, rfl⟩
    have hi := (List.getElem?_eq_some_iff.mp hx).1
    rw [List.length_range] at hi
    refine pd_fn M.oneOf hr (by decide) <| pda_cons <| pd_name (i := 0) rfl rfl <| pda_cons <| pd_lstF <| pda_cons <| pd_int <| pda_cons <| pd_int <| pda_cons <| pd_int <| pda_cons <| pd_int <| pda_cons <| pd_int <| pda_cons <| pd_int <| pda_cons <| pd_un <| pd_int <| ud_neg <| pda_cons <| pd_bl <| pda_cons <| pd_str <| pda_cons <| pd_non <| pda_nil ⟨by show 10 ≤ sizeLine; decide, pda_nil ⟨p, _, rowC, n + 1 + i, _, rfl, .lst _, by show 0 < 10; decide, by show 10 ≤ sizeLine; decide, lt _ (by omega), .there (.there (ctxF _ (wellOD K (n + 1 + i + 1)))), fun ys sq e => (by rw [e]; exact .lst _), fun d hd => ⟨d, rfl, hd, _, Lw.refl _, ?_⟩⟩⟩
    show LC K pd ctx (n + 1 + (i : Int) + 1) = LC K pd ctx (n + 1 + ((i + 1 : Nat) : Int))
    rw [show n + 1 + ((i + 1 : Nat) : Int) = n + 1 + i + 1 by omega]
  rintro row L2 pk rfl
  have rc : ∀ x ∈ row, x ∈ rowC := by
    have go : ∀ {a : List Nat} {b : List D}, Paired (fun _ y => y ∈ rowC) a b → ∀ y ∈ b, y ∈ rowC := fun h => by
      induction h with
      | nil => exact fun _ h => nomatch h
      | cons r t ih =>
        intro y hy
        rcases List.mem_cons.mp hy with e | e
        · rw [e]; exact r
        · exact ih y e
    exact go pk
  have rl : row.length ≤ 3 := by
    have := paired_length pk
    rw [List.length_range] at this
    omega
  rw [List.map_id']
  have e18 : n + 1 + (((List.range c.toNat).length : Nat) : Int) ≤ n + 5 := by
    rw [List.length_range]
    omega
  generalize n + 1 + (((List.range c.toNat).length : Nat) : Int) = n1 at e18
  -- many
  refine pdb_cons <| pds_asg <| pd_fn M.oneOf hr (by decide) <| pda_cons <| pd_name (i := 0) rfl rfl <| pda_cons <| pd_lstF <| pda_cons <| pd_non <| pda_cons <| pd_int <| pda_cons <| pd_callB M.max PyProof.Rows.Boot.«max» <| pda_cons <| pd_int <| pda_cons <| pd_bin <| pd_callB M.T.len PySem.boot_len <| pda_cons <| pd_name (i := 6) rfl rfl <| pda_nil <| cd_len (.lst _) <| pd_int <| od_subI <| pda_nil <| cd_max2 rfl ?_
  generalize (if (row.length : Int) - 1 > 0 then (row.length : Int) - 1 else 0) = mx
  refine pda_cons <| pd_callB M.T.len PySem.boot_len <| pda_cons <| pd_name (i := 6) rfl rfl <| pda_nil <| cd_len (.lst _) <| pda_cons <| pd_bin <| pd_callB M.T.len PySem.boot_len <| pda_cons <| pd_name (i := 6) rfl rfl <| pda_nil <| cd_len (.lst _) <| pd_int <| od_addI <| pda_nil ⟨by show 5 ≤ sizeLine; decide, ?_⟩
  refine pda_nil ⟨p, _, [none, some 0, some mx, some (row.length : Int), some ((row.length : Int) + 1)].map optD, n1, _, rfl, .lst _, by show 0 < 5; decide, by show 5 ≤ sizeLine; decide, lt _ (by omega), .there (ctxF _ (wellOD K (n1 + 1))), fun ys sq e => (by rw [e]; exact .lst _), fun md hmd => ?_⟩
  obtain ⟨many, _, rfl⟩ := opt_of hmd
  refine pgd_name (i := 7) sc_law_are_checked.nd rfl ?_
  -- below
  refine pdb_cons <| pds_asg <| pd_fn M.oneOf hr (by decide) <| pda_cons <| pd_name (i := 0) rfl rfl <| pda_cons <| pd_lstF <| pda_cons <| pd_non <| pda_cons <| pd_int <| pda_cons <| pd_int <| pda_cons <| pd_int <| pda_nil ⟨by show 4 ≤ sizeLine; decide, ?_⟩
  refine pda_nil ⟨p, _, [none, some 0, some 2, some 4].map optD, n1 + 1, _, rfl, .lst _, by show 0 < 4; decide, by show 4 ≤ sizeLine; decide, lt _ (by omega), .there (ctxF _ (wellOD K (n1 + 1 + 1))), fun ys sq e => (by rw [e]; exact .lst _), fun bd hbd => ?_⟩
  obtain ⟨below, _, rfl⟩ := opt_of hbd
  refine pgd_name (i := 8) sc_law_are_checked.nd rfl ?_
  exact chk_9 M hr ctxF (lt _ (by omega)) (fun n' h => hP n' (by omega)) vo rl rc
end
end K05
end
section
set_option Elab.async false
set_option linter.all false
set_option maxRecDepth 100000
set_option maxHeartbeats 8000000
namespace K05
open PySem L2 D2
open PySem.Spec hiding Row
section
variable {P : Program} {w : World} {K : PySem.W.Frag} {mg : Str → Option Value} {base : Heap}
theorem val_ok {pd : Addr} {u : Int} : ∀ x ∈ [D.int (u - 4), .int (10 ^ (20 : Int).toNat), .bl true, .bl false, .non, .str "3", .lst [.int 3], .tup [.int 0], .ref pd], VOk pd x := fun x hx => by
  simp only [List.mem_cons, List.not_mem_nil, or_false] at hx
  rcases hx with rfl | rfl | rfl | rfl | rfl | rfl | rfl | rfl | rfl
  · exact ⟨fun L h => ⟨_, .int _⟩, fun x e => (by cases e), rfl⟩
  · exact ⟨fun L h => ⟨_, .int _⟩, fun x e => (by cases e), rfl⟩
  · exact ⟨fun L h => ⟨_, .bl _⟩, fun x e => (by cases e), rfl⟩
  · exact ⟨fun L h => ⟨_, .bl _⟩, fun x e => (by cases e), rfl⟩
  · exact ⟨fun L h => ⟨_, .non⟩, fun x e => (by cases e), rfl⟩
  · exact ⟨fun L h => ⟨_, .str _⟩, fun x e => (by cases e; rw [sizeLine_eq]; decide), by decide +kernel⟩
  · exact ⟨fun L h => ⟨_, .lst _⟩, fun x e => (by cases e), rfl⟩
  · exact ⟨fun L h => ⟨_, .tup _⟩, fun x e => (by cases e), rfl⟩
  · exact ⟨fun L h => ⟨_, .dic h⟩, fun x e => (by cases e), rfl⟩
def tChecked : Ct := fun ds L P R => ∃ (p : Addr) (n : Int) (L' : Led), ds = [.ref p] ∧ n + 300 < most ∧ Foc p (wellOD K n) (wellOD K (n + 40)) L L' ∧ P (.bl true) L'
theorem ok_law_are_checked {f : Addr} {fd : FuncData} (F : Fun K "_law_are_checked" "_law_are_checked" s_law_are_checked f fd) (M : ChkM P w K mg base) : FnOk P w K mg base (L2.CX P w) 3 f fd ["well"] (spD K (tChecked (K := K))) := by
  refine fn_okD F sc_law_are_checked (fun ds L P R ⟨_, _, _, e, _⟩ => by rw [e]; rfl) fun cdv A outer s H E ds L P1 R hr ⟨p, n, L', e, nm, fo, h⟩ => ?_
  subst e
  have hu := hr.units
  have hr : Room 2 (CX_ P w K mg base f cdv A outer s H E).A := hr
  have hn : n + 300 < 1000000 := nm
  obtain ⟨ctx, c1, c2, ctxF⟩ := hole fo
  subst c1 c2
  have lt (a : Int) (ha : a < n + 300) : a < K05.most := by show a < 1000000; omega
  -- value
  refine pdb_cons <| pds_asg <| pd_fn M.oneOf hr (by decide) <| pda_cons <| pd_name (i := 0) rfl rfl <| pda_cons <| pd_lstF <| pda_cons <| pd_bin <| pd_fn M.draw hr (by decide) <| pda_cons <| pd_name (i := 0) rfl rfl <| pda_cons <| pd_int <| pda_nil ⟨p, 9, n, _, rfl, by decide, by decide, lt _ (by omega), ctxF _ (wellOD K (n + 1)), fun u u0 u1 => pd_int <| od_subI <| pda_cons <| pd_bin <| pd_int <| pd_int <| od_powI (cpow_of (by decide) (by decide) (by decide) (by decide)) <| pda_cons <| pd_bl <| pda_cons <| pd_bl <| pda_cons <| pd_non <| pda_cons <| pd_str <| pda_cons <| pd_lstF <| pda_cons <| pd_int <| pda_nil ⟨by show 1 ≤ sizeLine; decide, pda_cons <| pd_tup <| pda_cons <| pd_int <| pda_nil ⟨by show 1 ≤ sizeLine; decide, pda_cons <| pd_dcE fun pd => pda_nil ⟨by show 9 ≤ sizeLine; decide, ?_⟩⟩⟩⟩
  refine pda_nil ⟨p, _, [D.int (u - 4), .int (10 ^ (20 : Int).toNat), .bl true, .bl false, .non, .str "3", .lst [.int 3], .tup [.int 0], .ref pd], n + 1, _, rfl, .lst _, by show 0 < 9; decide, by show 9 ≤ sizeLine; decide, lt _ (by omega), .there (ctxF _ (wellOD K (n + 1 + 1))), fun ys sq e => (by rw [e]; exact .lst _), fun vd hvd => ?_⟩
  have vo := val_ok vd hvd
  refine pgd_name (i := 1) sc_law_are_checked.nd rfl ?_
  -- least, most
  refine pdb_cons <| pds_par (i := 2) (j := 3) rfl sc_law_are_checked.nd rfl rfl (by decide) <| pda_cons <| pd_fn M.oneOf hr (by decide) <| pda_cons <| pd_name (i := 0) rfl rfl <| pda_cons <| pd_lstF <| pda_cons <| pd_non <| pda_cons <| pd_un <| pd_int <| ud_neg <| pda_cons <| pd_int <| pda_cons <| pd_int <| pda_nil ⟨by show 4 ≤ sizeLine; decide, ?_⟩
  refine pda_nil ⟨p, _, [none, some (-2), some 0, some 3].map optD, n + 1 + 1, _, rfl, .lst _, by show 0 < 4; decide, by show 4 ≤ sizeLine; decide, lt _ (by omega), .there (ctxF _ (wellOD K (n + 1 + 1 + 1))), fun ys sq e => (by rw [e]; exact .lst _), fun ld hld => ?_⟩
  obtain ⟨lo, _, rfl⟩ := opt_of hld
  refine pda_cons <| pd_fn M.oneOf hr (by decide) <| pda_cons <| pd_name (i := 0) rfl rfl <| pda_cons <| pd_lstF <| pda_cons <| pd_non <| pda_cons <| pd_un <| pd_int <| ud_neg <| pda_cons <| pd_int <| pda_cons <| pd_int <| pda_nil ⟨by show 4 ≤ sizeLine; decide, ?_⟩
  refine pda_nil ⟨p, _, [none, some (-3), some 0, some 4].map optD, n + 1 + 1 + 1, _, rfl, .lst _, by show 0 < 4; decide, by show 4 ≤ sizeLine; decide, lt _ (by omega), .there (ctxF _ (wellOD K (n + 1 + 1 + 1 + 1))), fun ys sq e => (by rw [e]; exact .lst _), fun hd hhd => ?_⟩
  obtain ⟨hi, _, rfl⟩ := opt_of hhd
  refine pda_nil ⟨_, _, rfl, ?_⟩
  show PDB _ _ _ _ (LC K pd ctx (n + 1 + 1 + 1 + 1))
  obtain ⟨nv, bv⟩ := vo.bt (LC K pd ctx (n + 1 + 1 + 1 + 1)) List.mem_cons_self
  -- number
  refine pdb_cons <| pds_asg <| pd_fn M.num hr (by decide) <| pda_cons <| pd_name (i := 1) rfl rfl <| pda_nil ⟨vd, nv, rfl, bv, pgd_name (i := 4) sc_law_are_checked.nd rfl ?_⟩
  have eqT : ∀ b : Bool, (!decide (b = b)) = false := fun b => by rw [decide_eq_true rfl]; rfl
  refine pdb_cons <| pds_ifB (t := false) ((pdt_orB (t := false) (u := false) ?_ fun _ => pdt_or1 ?_).eqB rfl) (fun z => nomatch z) fun _ => pdb_nil ?_
  · exact pdt_cmp <| pd_fn M.int hr (by decide) <| pda_cons <| pd_name (i := 1) rfl rfl <| pda_nil ⟨vd, nv, rfl, bv, pd_name (i := 4) rfl rfl <| od_neT hu (x := isInt vd) (y := isInt vd) (.bl _) (.bl _) (by decide) ⟨_, rfl, eqT _, rfl⟩⟩
  · obtain ⟨fK, fdK, gK, mK, kK, bK⟩ := M.intK
    refine pdt_cmp <| pd_callK0 sw1 gK (hr.mono (by decide)) mK kK bK (fun F zs ds hl h => k1_shape zs ds hl h) ?_
    refine pdk_cons <| pd_name (i := 1) rfl rfl <| pdk_nil ⟨rfl, ?_⟩
    exact ⟨vd, nv, rfl, bv, pd_name (i := 4) rfl rfl <| od_neT hu (x := isInt vd) (y := isInt vd) (.bl _) (.bl _) (by decide) ⟨_, rfl, eqT _, rfl⟩⟩
  -- due
  refine pdb_cons <| pds_asg <| PD.mono (P := fun d L1 => d = .bl (within lo hi vd) ∧ L1 = LC K pd ctx (n + 1 + 1 + 1 + 1)) (pd_and <| pd_name (i := 4) rfl rfl <| truIf (fun hb => ?_) fun hb => ?_) fun dd L1 ⟨e1, e2⟩ => ?_
  · obtain ⟨i, rfl⟩ := isInt_inv hb
    rw [within_int]
    cases lo with
    | none =>
      refine pd_and <| pd_or <| pd_cmp <| pd_name (i := 2) rfl rfl <| pd_non <| od_isN ?_
      refine pd_one <| pd_or <| pd_cmp <| pd_name (i := 3) rfl rfl <| pd_non <| od_isN ?_
      cases hi with
      | none => exact ⟨rfl, rfl⟩
      | some b => exact pd_one <| pd_cmp <| pd_name (i := 1) rfl rfl <| pd_name (i := 3) rfl rfl <| od_leI ⟨rfl, rfl⟩
    | some a =>
      refine pd_and <| pd_or <| pd_cmp <| pd_name (i := 2) rfl rfl <| pd_non <| od_isN ?_
      refine pd_one <| pd_cmp <| pd_name (i := 1) rfl rfl <| pd_name (i := 2) rfl rfl <| od_geI ?_
      refine truIf (fun ha => ?_) fun ha => ?_
      · refine pd_one <| pd_or <| pd_cmp <| pd_name (i := 3) rfl rfl <| pd_non <| od_isN ?_
        have ea : (Option.some a).all (fun a => decide (a ≤ i)) = true := ha
        rw [ea]
        cases hi with
        | none => exact ⟨rfl, rfl⟩
        | some b => exact pd_one <| pd_cmp <| pd_name (i := 1) rfl rfl <| pd_name (i := 3) rfl rfl <| od_leI ⟨rfl, rfl⟩
      · have ea : (Option.some a).all (fun a => decide (a ≤ i)) = false := ha
        rw [ea, ha]
        exact ⟨rfl, rfl⟩
  · rw [hb, within_not hb]
    exact ⟨rfl, rfl⟩
  subst e1 e2
  refine pgd_name (i := 5) sc_law_are_checked.nd rfl ?_
  refine pdb_cons <| pds_ifB (t := false) ((pdt_orB (t := false) (u := false) ?_ fun _ => pdt_or1 ?_).eqB rfl) (fun z => nomatch z) fun _ => pdb_nil <| chk_6 M hr ctxF (lt _ (by omega)) (fun n' hn' => ⟨ctx (wellOD K (n + 40)), fun H F w' => (ctxF _ _).lc (well_more (by omega)) H F (Lw.tail.lc H F w'), h⟩) vo
  · exact pdt_cmp <| pd_fn M.wit hr (by decide) <| pda_cons <| pd_name (i := 1) rfl rfl <| pda_cons <| pd_name (i := 2) rfl rfl <| pda_cons <| pd_name (i := 3) rfl rfl <| pda_nil ⟨vd, nv, lo, hi, rfl, bv, pd_name (i := 5) rfl rfl <| od_neT hu (x := within lo hi vd) (y := within lo hi vd) (.bl _) (.bl _) (by decide) ⟨_, rfl, eqT _, rfl⟩⟩
  · obtain ⟨fK, fdK, gK, mK, kK, bK⟩ := M.witK
    refine pdt_cmp <| pd_callK0 sw3 gK (hr.mono (by decide)) mK kK bK (fun F zs ds hl h => k3_shape zs ds hl h) ?_
    refine pdk_cons <| pd_name (i := 3) rfl rfl <| pdk_cons <| pd_name (i := 1) rfl rfl <| pdk_cons <| pd_name (i := 2) rfl rfl <| pdk_nil ⟨rfl, ?_⟩
    exact ⟨vd, nv, lo, hi, rfl, bv, pd_name (i := 5) rfl rfl <| od_neT hu (x := within lo hi vd) (y := within lo hi vd) (.bl _) (.bl _) (by decide) ⟨_, rfl, eqT _, rfl⟩⟩
end
end K05
end
section
set_option Elab.async false
set_option linter.all false
set_option maxRecDepth 100000
set_option maxHeartbeats 8000000
namespace K05
open PySem L2 D2
open PySem.Spec hiding Row
abbrev s_law : Stmt := top 35
abbrev NL : List Str := ["script", "well", "turn", "lengths", "many", "rows", "length", "spoils", "odd", "bad", "told", "due", "world", "relation", "place", "row", "part"]
theorem sc_law : FnScope NL ["script"] (defScope s_law) := ⟨rfl, rfl, rfl, by decide +kernel, rfl, by decide +kernel, by decide +kernel⟩
/-- what a turn draws -/
structure GW (lens : List Int) (m : Nat) (kss : List (List Row)) : Prop where
  m1 : 1 ≤ m
  m5 : m ≤ 5
  l1 : lens ≠ []
  l3 : lens.length ≤ 3
  b3 : ∀ x ∈ lens, 1 ≤ x ∧ x ≤ 3
  ok : Paired (fun x ks => okRows x (m : Int) ks) lens kss
  k3 : ∀ ks ∈ kss, ks ≠ [] ∧ ks.length ≤ 3
theorem GW.kl {lens : List Int} {m : Nat} {kss : List (List Row)} (g : GW lens m kss) : kss.length = lens.length := (paired_len g.ok).symm
theorem GW.h8 {lens : List Int} {m : Nat} {kss : List (List Row)} (g : GW lens m kss) : ∀ x ∈ lens, 1 ≤ x ∧ x ≤ 8 := fun x hx => by have := g.b3 x hx; omega
theorem GW.tot {lens : List Int} {m : Nat} {kss : List (List Row)} (g : GW lens m kss) : total (kss.map asc) ≤ 1000 := by
  have h := total_few (n := 3) (kss := kss) fun ks hk => (g.k3 ks hk).2
  have := g.kl
  have := g.l3
  omega
theorem GW.few {lens : List Int} {m : Nat} {kss : List (List Row)} (g : GW lens m kss) : ∀ ks ∈ kss, ks.length ≤ 1228 := fun ks hk => by have := (g.k3 ks hk).2; omega
theorem GW.pw {lens : List Int} {m : Nat} {kss : List (List Row)} (g : GW lens m kss) : PW lens m (kss.map asc) := ⟨⟨g.m1, by have := g.m5; omega, by have := g.l3; omega, g.h8, ok_asc g.ok, g.tot⟩, asc_asc_map _⟩
theorem GW.good {lens : List Int} {m : Nat} {kss : List (List Row)} (g : GW lens m kss) {L : Led} : TRel L (.lst (lens.map D.int)) (.int (m : Int)) (.lst (kss.map partL)) .non := .good (lens := lens) (kss := kss) (.lst _) g.h8 (by have := g.l3; omega) (by have := g.m1; omega) (by have := g.m5; omega) ⟨_, .lists (.lst _) (.lst _)⟩ (.lst _) (ptL kss) g.ok g.few g.tot
def partV (ks : List Row) : D := .tup (ks.map rowL)
theorem ptV {L : Led} (l : List (List Row)) : Paired (PtK L) (l.map partV) l := ptk_map (fun ks => ⟨ks.map rowL, .tup _, rsk_map (fun k => .lst _) ks⟩) l
theorem GW.good2 {lens : List Int} {m : Nat} {kss : List (List Row)} (g : GW lens m kss) {L : Led} : TRel L (.tup (lens.map D.int)) (.int (m : Int)) (.lst (kss.map partV)) .non := .good (lens := lens) (kss := kss) (.tup _) g.h8 (by have := g.l3; omega) (by have := g.m1; omega) (by have := g.m5; omega) ⟨_, .tl _ (.lst _)⟩ (.lst _) (ptV kss) g.ok g.few g.tot
abbrev oddMn : List D := [.int 0, .int (-1), .int 601, .bl true, .non, .str "1", .lst [.int 1], .int (10 ^ (20 : Int).toNat)]
theorem oddMn_ok : ∀ x ∈ oddMn, within (some 1) (some 600) x = false ∧ ∀ L, ∃ n, Bt L x n := fun x hx => by
  simp only [oddMn, List.mem_cons, List.not_mem_nil, or_false] at hx
  rcases hx with rfl | rfl | rfl | rfl | rfl | rfl | rfl | rfl
  · exact ⟨by decide, fun L => ⟨_, .int _⟩⟩
  · exact ⟨by decide, fun L => ⟨_, .int _⟩⟩
  · exact ⟨by decide, fun L => ⟨_, .int _⟩⟩
  · exact ⟨by decide, fun L => ⟨_, .bl _⟩⟩
  · exact ⟨by decide, fun L => ⟨_, .non⟩⟩
  · exact ⟨by decide, fun L => ⟨_, .str _⟩⟩
  · exact ⟨by decide, fun L => ⟨_, .lst _⟩⟩
  · exact ⟨by rw [within_int]; decide +kernel, fun L => ⟨_, .int _⟩⟩
theorem bits : ∀ s : Int, 1 ≤ s → s ≤ 7 → Builtin.bitAnd s 1 = 0 → Builtin.bitAnd s 2 = 0 → Builtin.bitAnd s 4 ≠ 0 := fun s h1 h7 => by
  have : s = 1 ∨ s = 2 ∨ s = 3 ∨ s = 4 ∨ s = 5 ∨ s = 6 ∨ s = 7 := by omega
  rcases this with rfl | rfl | rfl | rfl | rfl | rfl | rfl <;> decide +kernel
theorem truInt {x : Int} {A B : Prop} (h1 : x ≠ 0 → A) (h2 : x = 0 → B) : TruD (.int x) fun t => if t = true then A else B := by
  show if (x != 0) = true then A else B
  by_cases h : x = 0
  · rw [if_neg (by rw [h]; decide)]
    exact h2 h
  · rw [if_pos (by simpa using h)]
    exact h1 h
def dueS (sp : Int) : Str × Str := if Builtin.bitAnd sp 1 ≠ 0 then ("world", "lengths") else if Builtin.bitAnd sp 2 ≠ 0 then ("number", "many") else ("world", "rows")
theorem dueS1 {sp : Int} (h : Builtin.bitAnd sp 1 ≠ 0) : dueS sp = (("world" : Str), ("lengths" : Str)) := if_pos h
theorem dueS2 {sp : Int} (h : Builtin.bitAnd sp 1 = 0) (h2 : Builtin.bitAnd sp 2 ≠ 0) : dueS sp = (("number" : Str), ("many" : Str)) := (if_neg (fun z => z h)).trans (if_pos h2)
theorem dueS3 {sp : Int} (h : Builtin.bitAnd sp 1 = 0) (h2 : Builtin.bitAnd sp 2 = 0) : dueS sp = (("world" : Str), ("rows" : Str)) := (if_neg (fun z => z h)).trans (if_neg (fun z => z h2))
section
variable {P : Program} {w : World} {K : PySem.W.Frag} {mg : Str → Option Value} {base : Heap}
theorem od_andI {X : Cx} {L : Led} {P : PK1} {i j : Int} (h : P (.int (Builtin.bitAnd i j)) L) : OpD X (binaryOp .BitAnd) (.int i) (.int j) L P := opd_I0 op_and h
structure LawM (P : Program) (w : World) (K : PySem.W.Frag) (mg : Str → Option Value) (base : Heap) (C CW CN CM CB : Addr) : Prop where
  T : Txt0 K mg
  IM : InitM P w K mg base C CW CN CM
  well : Fn P w K mg base "_law_well" 1 ["script"] (tWell (K := K))
  draw : Fn P w K mg base "_law_draw" 1 ["well", "many"] (tDraw (K := K))
  oneOf : Fn P w K mg base "_law_one_of" 2 ["well", "some"] (tOneOf (K := K))
  told : Fn P w K mg base "_law_told" 6 ["lengths", "many", "rows"] tTold
  lens : Fn P w K mg base "_law_lengths" 3 ["well", "lengths"] (tLengths (K := K))
  spoiled : Fn P w K mg base "_law_spoiled" 3 ["well", "rows", "many"] (tSpoiled (K := K))
  parts : Fn P w K mg base "_law_parts" 7 ["world", "names"] (tParts C)
  checked : Fn P w K mg base "_law_are_checked" 3 ["well"] (tChecked (K := K))
abbrev LX (P : Program) (w : World) (K : PySem.W.Frag) (mg : Str → Option Value) (base : Heap) (f : Addr) (cdv : Value) (A : Around) (outer : List Env) (s : Shared) (H : Hp) (E : XK) : Cx := cxOf (L2.CX P w) P w K mg base NL "law" (defScope s_law) f cdv A outer s H E
variable {C CW CN CM CB : Addr} {f : Addr} {cdv : Value} {A : Around} {outer : List Env} {s : Shared} {H : Hp} {E : XK} {P1 : PK1} {R : RK1}
variable {lens : List Int} {m : Nat} {kss : List (List Row)} {p : Addr} {n : Int} {E0 : DE} {a0 a2 a3 a4 a5 a6 a7 a8 a9 a10 a11 a12 a13 a14 a15 a16 : Option D}
/-- the body of the first loop -/
def body1 : List Stmt := match (defBody s_law)[1]? with
  | some (Stmt.For _ _ b _ _) => b
  | _ => []
theorem turn_4 (M : LawM P w K mg base C CW CN CM CB) (hr : Room 7 (LX P w K mg base f cdv A outer s H E).A) (hn : n + 200 < most) (g : GW lens m kss)
    (hE : ∀ (n' : Int) (b6 b7 b8 b9 b10 b11 : Option D), n' ≤ n + 60 → E0.nx [a0, some (.ref p), a2, some (.lst (lens.map D.int)), some (.int (m : Int)), some (.lst (kss.map partL)), b6, b7, b8, b9, b10, b11, a12, a13, a14, a15, a16] [(p, wellOD K n')]) :
    PDB (LX P w K mg base f cdv A outer s H E) (body1.drop 4) E0 [a0, some (.ref p), a2, some (.lst (lens.map D.int)), some (.int (m : Int)), some (.lst (kss.map partL)), a6, a7, a8, a9, a10, a11, a12, a13, a14, a15, a16] [(p, wellOD K n)] := by
  have hu := hr.units
  have hn : n + 200 < 1000000 := hn
  have lt (a : Int) (ha : a < n + 200) : a < K05.most := by show a < 1000000; omega
  have kl := g.kl
  have l3 := g.l3
  have m5 := g.m5
  refine pdb_cons <| pds_ifB (t := false) ((pdt_orB (t := false) (u := false) ?_ fun _ => pdt_or1 ?_).eqB rfl) (fun z => nomatch z) fun _ => pdb_nil ?_
  · exact pdt_shr <| pdt_cmp <| pd_fn M.told hr (by decide) <| pda_cons <| pd_name (i := 3) rfl rfl <| pda_cons <| pd_name (i := 4) rfl rfl <| pda_cons <| pd_name (i := 5) rfl rfl <| pda_nil ⟨_, _, _, _, rfl, g.good, fun L' lw => pd_non <| od_notN ⟨_, rfl, _, lw.lc, rfl, rfl⟩⟩
  · refine pdt_shr <| pdt_cmp <| pd_fn M.told hr (by decide) <| pda_cons <| pd_callTy M.T.tuple PyProof.Rows.Boot.«tuple» <| pda_cons <| pd_name (i := 3) rfl rfl <| pda_nil <| cd_tuple (.lst _) <| pda_cons <| pd_name (i := 4) rfl rfl <| pda_cons ?_
    refine pd_lc1 (i := 16) rfl sc_law.nd (blkOk_by (N := NL) (sc := defScope s_law) (by decide +kernel)) (fun _ _ _ _ _ => pg_name (i := 16) sc_law.nd rfl (Or.inl rfl)) ?_
    refine pdi_list <| pd_name (i := 5) rfl rfl ⟨_, .inl rfl, List Row, kss, partL, partV, rfl, SubL.nil, by rw [sizeLine_eq]; omega, ?_, ?_⟩
    · rintro ks hks Y q acc ⟨s0, H0, C0, cl0, fp0, rfl⟩
      exact pd_callTy M.T.tuple PyProof.Rows.Boot.«tuple» <| pda_cons <| pd_name (i := 16) rfl rfl <| pda_nil <| cd_tuple (.lst _) ⟨rfl, Lw.refl _⟩
    · exact pda_nil ⟨_, _, _, _, rfl, g.good2, fun L' lw => pd_non <| od_notN ⟨_, rfl, _, lw.lc, rfl, rfl⟩⟩
  -- spoils, odd, bad
  refine pdb_cons <| pds_asg <| pd_bin <| pd_int <| pd_fn M.draw hr (by decide) <| pda_cons <| pd_name (i := 1) rfl rfl <| pda_cons <| pd_int <| pda_nil ⟨p, 7, n, _, rfl, by decide, by decide, lt _ (by omega), .here, fun y y0 y1 => od_addI <| pgd_name (i := 7) sc_law.nd rfl ?_⟩
  have sb1 : 1 ≤ 1 + y := by omega
  have sb7 : 1 + y ≤ 7 := by omega
  generalize 1 + y = sp at sb1 sb7
  refine pdb_cons <| pds_asg <| pd_fn M.oneOf hr (by decide) <| pda_cons <| pd_name (i := 1) rfl rfl <| pda_cons <| pd_lstF <| pda_cons <| pd_int <| pda_cons <| pd_un <| pd_int <| ud_neg <| pda_cons <| pd_int <| pda_cons <| pd_bl <| pda_cons <| pd_non <| pda_cons <| pd_str <| pda_cons <| pd_lstF <| pda_cons <| pd_int <| pda_nil ⟨by show 1 ≤ sizeLine; decide, pda_cons <| pd_bin <| pd_int <| pd_int <| od_powI (cpow_of (by decide) (by decide) (by decide) (by decide)) <| pda_nil ⟨by show 8 ≤ sizeLine; decide, ?_⟩⟩
  refine pda_nil ⟨p, _, oddMn, n + 1, _, rfl, .lst _, by show 0 < 8; decide, by show 8 ≤ sizeLine; decide, lt _ (by omega), .here, fun ys sq e => (by rw [e]; exact .lst _), fun odd hodd => pgd_name (i := 8) sc_law.nd rfl ?_⟩
  obtain ⟨o1, o2⟩ := oddMn_ok odd hodd
  refine pdb_cons <| pds_asg <| pd_fn M.spoiled hr (by decide) <| pda_cons <| pd_name (i := 1) rfl rfl <| pda_cons <| pd_name (i := 5) rfl rfl <| pda_cons <| pd_name (i := 4) rfl rfl <| pda_nil ⟨p, lens, m, kss, n + 1 + 1, _, rfl, g.ok, (fun e => g.l1 (List.eq_nil_of_length_eq_zero (by rw [← kl, e]; rfl))), by omega, g.k3, g.b3, by omega, lt _ (by omega), .here, fun p0 p1 bd hbd => pgd_name (i := 9) sc_law.nd rfl ?_⟩
  refine pdb_cons <| pds_asg <| pd_fn M.told hr (by decide) <| pda_cons <| PD.mono (P := fun d L1 => ∃ pre n', n' ≤ n + 15 ∧ L1 = pre ++ (tyE p1 :: tyE p0 :: [(p, wellOD K n')]) ∧ ((Builtin.bitAnd sp 1 ≠ 0 ∧ BadLn L1 d) ∨ (Builtin.bitAnd sp 1 = 0 ∧ d = .lst (lens.map D.int)))) (pd_if <| pdt_val <| pd_bin <| pd_name (i := 7) rfl rfl <| pd_int <| od_andI <| truInt (fun x => ?_) (fun x => ?_)) ?_
  · exact pd_fn M.lens hr (by decide) <| pda_cons <| pd_name (i := 1) rfl rfl <| pda_cons <| pd_name (i := 3) rfl rfl <| pda_nil ⟨p, lens, n + 1 + 1 + 9, _, rfl, g.l1, l3, lt _ (by omega), .there (.there .here), fun pd d hd => ⟨[(pd, tyOD "dict")], _, by omega, rfl, .inl ⟨x, hd⟩⟩⟩
  · exact pd_name (i := 3) rfl rfl ⟨[], _, by omega, rfl, .inr ⟨x, rfl⟩⟩
  rintro d1 L1 ⟨pre, n', hn', eL, q1⟩
  have m1 : tyE p1 ∈ L1 := by rw [eL]; exact List.mem_append_right _ List.mem_cons_self
  have m0 : tyE p0 ∈ L1 := by rw [eL]; exact List.mem_append_right _ (List.mem_cons_of_mem _ List.mem_cons_self)
  refine pda_cons <| PD.mono (P := fun d L2 => L2 = L1 ∧ ((Builtin.bitAnd sp 2 ≠ 0 ∧ d = odd) ∨ (Builtin.bitAnd sp 2 = 0 ∧ d = .int (m : Int)))) (pd_if <| pdt_val <| pd_bin <| pd_name (i := 7) rfl rfl <| pd_int <| od_andI <| truInt (fun x => pd_name (i := 8) rfl rfl ⟨rfl, .inl ⟨x, rfl⟩⟩) (fun x => pd_name (i := 4) rfl rfl ⟨rfl, .inr ⟨x, rfl⟩⟩)) ?_
  rintro d2 L2 ⟨rfl, q2⟩
  refine pda_cons <| PD.mono (P := fun d L3 => L3 = L2 ∧ ((Builtin.bitAnd sp 4 ≠ 0 ∧ d = bd) ∨ (Builtin.bitAnd sp 4 = 0 ∧ d = .lst (kss.map partL)))) (pd_if <| pdt_val <| pd_bin <| pd_name (i := 7) rfl rfl <| pd_int <| od_andI <| truInt (fun x => pd_name (i := 9) rfl rfl ⟨rfl, .inl ⟨x, rfl⟩⟩) (fun x => pd_name (i := 5) rfl rfl ⟨rfl, .inr ⟨x, rfl⟩⟩)) ?_
  rintro d3 L3 ⟨rfl, q3⟩
  have rel : TRel L3 d1 d2 d3 (.tup [.str (dueS sp).1, .str (dueS sp).2]) := by
    rcases q1 with ⟨x1, o, hs, hb, hl⟩ | ⟨x1, rfl⟩
    · rw [dueS1 x1]
      have : ∃ n, Bt L3 d2 n := by
        rcases q2 with ⟨_, rfl⟩ | ⟨_, rfl⟩
        · exact o2 _
        · exact ⟨_, .int _⟩
      obtain ⟨nm, bm⟩ := this
      exact .lengths hs hb bm hl
    · rcases q2 with ⟨x2, rfl⟩ | ⟨x2, rfl⟩
      · rw [dueS2 x1 x2]
        obtain ⟨nm, bm⟩ := o2 L3
        exact .many (lens := lens) (.lst _) g.h8 (by omega) bm o1
      · rw [dueS3 x1 x2]
        rcases q3 with ⟨x4, rfl⟩ | ⟨x4, rfl⟩
        · obtain ⟨o, h1, h2, h3⟩ := hbd L3 m1 m0
          exact .rows (lens := lens) (.lst _) g.h8 (by omega) (by have := g.m1; omega) (by omega) h1 h2 h3
        · exact absurd x4 (bits sp sb1 sb7 x1 x2)
  refine pda_nil ⟨d1, d2, d3, _, rfl, rel, fun L4 lw => pgd_name (i := 10) sc_law.nd rfl ?_⟩
  refine pdb_lw lw ?_
  refine pdb_cons <| pds_asg <| PD.mono (P := fun d L5 => L5 = L3 ∧ d = .tup [.str (dueS sp).1, .str (dueS sp).2]) (pd_if <| pdt_val <| pd_bin <| pd_name (i := 7) rfl rfl <| pd_int <| od_andI <| truInt (fun x => pd_tup <| pda_cons <| pd_str <| pda_cons <| pd_str <| pda_nil ⟨by show 2 ≤ sizeLine; decide, rfl, ?_⟩) (fun x => pd_if <| pdt_val <| pd_bin <| pd_name (i := 7) rfl rfl <| pd_int <| od_andI <| truInt (fun x2 => pd_tup <| pda_cons <| pd_str <| pda_cons <| pd_str <| pda_nil ⟨by show 2 ≤ sizeLine; decide, rfl, ?_⟩) (fun x2 => pd_tup <| pda_cons <| pd_str <| pda_cons <| pd_str <| pda_nil ⟨by show 2 ≤ sizeLine; decide, rfl, ?_⟩))) ?_
  · rw [dueS1 x]
  · rw [dueS2 x x2]
  · rw [dueS3 x x2]
  rintro d5 L5 ⟨rfl, rfl⟩
  refine pgd_name (i := 11) sc_law.nd rfl ?_
  refine pdb_cons <| pds_ifB (t := false) (PDT.eqB (t := decide (W.Tup.mk [(dueS sp).1, (dueS sp).2] ≠ W.Tup.mk [(dueS sp).1, (dueS sp).2])) (pdt_cmp <| pd_name (i := 10) rfl rfl <| pd_name (i := 11) rfl rfl <| od_neT hu (x := W.Tup.mk [(dueS sp).1, (dueS sp).2]) (y := W.Tup.mk [(dueS sp).1, (dueS sp).2]) (.tup (.cons (.str _) (.cons (.str _) .nil))) (.tup (.cons (.str _) (.cons (.str _) .nil))) (by decide) ⟨_, rfl, by simp, rfl⟩) (by simp)) (fun z => nomatch z) fun _ => pdb_nil ?_
  rw [eL]
  exact pdb_lw Lw.app <| pdb_lw .tail <| pdb_lw .tail <| pdb_nil (hE n' _ _ _ _ _ _ (by omega))
end
end K05
end
section
set_option Elab.async false
set_option linter.all false
set_option maxRecDepth 100000
set_option maxHeartbeats 8000000
namespace K05
open PySem L2 D2
open PySem.Spec hiding Row
theorem pr_all {α β : Type} {q : β → Prop} : ∀ {a : List α} {b : List β}, Paired (fun _ n => q n) a b → ∀ n ∈ b, q n
  | _, _, .nil => fun _ h => nomatch h
  | _, _, .cons r t => fun n hn => by
    rcases List.mem_cons.mp hn with e | e
    · rw [e]; exact r
    · exact pr_all t n e
section
variable {P : Program} {w : World} {K : PySem.W.Frag} {mg : Str → Option Value} {base : Heap}
variable {C CW CN CM CB : Addr} {f : Addr} {cdv : Value} {A : Around} {outer : List Env} {s : Shared} {H : Hp} {E : XK} {P1 : PK1} {R : RK1}
variable {p : Addr} {n : Int} {E0 : DE} {a0 a2 a3 a4 a5 a6 a7 a8 a9 a10 a11 a12 a13 a14 a15 a16 : Option D}
theorem turn_0 (M : LawM P w K mg base C CW CN CM CB) (hr : Room 7 (LX P w K mg base f cdv A outer s H E).A) (hn : n + 300 < most)
    (hE : ∀ lens m kss, GW lens m kss → ∀ (n' : Int) (b6 b7 b8 b9 b10 b11 b13 b14 b15 b16 : Option D), n' ≤ n + 100 → E0.nx [a0, some (.ref p), a2, some (.lst (lens.map D.int)), some (.int (m : Int)), some (.lst (kss.map partL)), b6, b7, b8, b9, b10, b11, a12, b13, b14, b15, b16] [(p, wellOD K n')]) :
    PDB (LX P w K mg base f cdv A outer s H E) body1 E0 [a0, some (.ref p), a2, a3, a4, a5, a6, a7, a8, a9, a10, a11, a12, a13, a14, a15, a16] [(p, wellOD K n)] := by
  have hu := hr.units
  have hn : n + 300 < 1000000 := hn
  have lt (a : Int) (ha : a < n + 300) : a < K05.most := by show a < 1000000; omega
  refine pdb_cons <| pds_lcS1 (i := 13) (j := 3) rfl sc_law.nd rfl rfl (by rfl) (blkOk_by (N := NL) (sc := defScope s_law) (by decide +kernel)) (fun _ _ _ _ _ => pg_name (i := 13) sc_law.nd rfl (Or.inl rfl)) ?_
  refine pdi_range1 M.T.range <| pd_bin <| pd_int <| pd_fn M.draw hr (by decide) <| pda_cons <| pd_name (i := 1) rfl rfl <| pda_cons <| pd_int <| pda_nil ⟨p, 3, n, _, rfl, by decide, by decide, lt _ (by omega), .here, fun c c0 c1 => od_addI ⟨1 + c, rfl, by omega, by omega, ?_⟩⟩
  refine ⟨_, Int, _, _, D.int, fun _ x => 1 ≤ x ∧ x ≤ 3, fun i L2 => L2 = [(p, wellOD K (n + 1 + i))], rngD_map _, by simp, fun _ _ _ => SubL.nil, by rw [List.length_range, sizeLine_eq]; omega, ?_, ?_⟩
  · rintro i x L2 hx rfl Y q acc ⟨s0, H0, C0, cl0, fp0, rfl⟩
    have hi := (List.getElem?_eq_some_iff.mp hx).1
    rw [List.length_range] at hi
    refine pd_bin <| pd_int <| pd_fn M.draw hr (by decide) <| pda_cons <| pd_name (i := 1) rfl rfl <| pda_cons <| pd_int <| pda_nil ⟨p, 3, n + 1 + i, _, rfl, by decide, by decide, lt _ (by omega), .there .here, fun u u0 u1 => od_addI ⟨1 + u, rfl, by omega, _, Lw.refl _, ?_⟩⟩
    show [(p, wellOD K (n + 1 + (i : Int) + 1))] = [(p, wellOD K (n + 1 + ((i + 1 : Nat) : Int)))]
    rw [show n + 1 + ((i + 1 : Nat) : Int) = n + 1 + i + 1 by omega]
  rintro lens L2 pr rfl
  have hll : lens.length = (1 + c).toNat := by
    have := paired_length pr
    rw [List.length_range] at this
    exact this.symm
  have h3 : ∀ x ∈ lens, 1 ≤ x ∧ x ≤ 3 := pr_all pr
  have e6 : n ≤ n + 1 + (((List.range (1 + c).toNat).length : Nat) : Int) ∧ n + 1 + (((List.range (1 + c).toNat).length : Nat) : Int) ≤ n + 4 := by
    rw [List.length_range]
    omega
  generalize n + 1 + (((List.range (1 + c).toNat).length : Nat) : Int) = n0 at e6
  refine pdb_cons <| pds_asg <| pd_bin <| pd_int <| pd_fn M.draw hr (by decide) <| pda_cons <| pd_name (i := 1) rfl rfl <| pda_cons <| pd_int <| pda_nil ⟨p, 5, n0, _, rfl, by decide, by decide, lt _ (by omega), .here, fun r r0 r1 => od_addI <| pgd_name (i := 4) sc_law.nd rfl ?_⟩
  obtain ⟨m, em⟩ : ∃ m : Nat, 1 + r = (m : Int) := ⟨(1 + r).toNat, by omega⟩
  rw [em]
  have m1 : 1 ≤ m := by omega
  have m5 : m ≤ 5 := by omega
  refine pdb_cons <| pds_asg <| pd_lst <| pda_nil ⟨by show 0 ≤ sizeLine; decide, fun q => pgd_name (i := 5) sc_law.nd rfl ?_⟩
  refine pdb_cons <| pds_forT rfl PassesOwn.leaving <| pdi_list <| pd_name (i := 3) rfl rfl ⟨_, .inl rfl, ?_⟩
  refine ⟨Int, lens, D.int, fun pre ρ L2 => ∃ (kss : List (List Row)) (a b c d : Option D) (z : Int), ρ = [a0, some (.ref p), a2, some (.lst (lens.map D.int)), some (.int (m : Int)), some (.ref q), a, a7, a8, a9, a10, a11, a12, a13, b, c, a16] ∧ z ≤ n0 + 1 + 10 * pre.length ∧ L2 = [(q, .lst (kss.map partL)), (p, wellOD K z)] ∧ Paired (fun x ks => okRows x (m : Int) ks ∧ ks ≠ [] ∧ ks.length ≤ 3) pre kss, rfl, ⟨[], _, _, _, none, n0 + 1, rfl, by simp, rfl, .nil⟩, fun _ _ _ _ => SubL.nil, ?_, ?_⟩
  · rintro pre len post ρ1 L2 eg ⟨kss, a, b, c, d, z, rfl, hz, rfl, pk⟩
    have hpl : pre.length < 3 := by
      have := congrArg List.length eg
      rw [List.length_append, List.length_cons] at this
      omega
    have hkl := paired_length pk
    obtain ⟨l1, l3⟩ := h3 len (by rw [eg]; exact List.mem_append_right _ List.mem_cons_self)
    refine pgd_name (i := 6) sc_law.nd rfl ?_
    refine pdb_cons <| pds_expr <| pd_bm PySem.F.plainAttrs_list PySem.F.slot_list_append PySem.F.type_list_append <| pd_name (i := 5) rfl rfl ⟨⟨rfl, _, List.mem_cons_self⟩, pda_cons ?_⟩
    refine pd_lcS1 (i := 15) rfl sc_law.nd (blkOk_by (N := NL) (sc := defScope s_law) (by decide +kernel)) (fun _ _ _ _ _ => pg_name (i := 15) sc_law.nd rfl (Or.inl rfl)) ?_
    refine pdi_range1 M.T.range <| pd_bin <| pd_int <| pd_fn M.draw hr (by decide) <| pda_cons <| pd_name (i := 1) rfl rfl <| pda_cons <| pd_int <| pda_nil ⟨p, 3, z, _, rfl, by decide, by decide, lt _ (by omega), .there .here, fun j j0 j1 => od_addI ⟨1 + j, rfl, by omega, by omega, ?_⟩⟩
    refine ⟨_, Row, _, _, rowL, fun _ k => isRowOf len m k, fun i L3 => ∃ y : Int, y ≤ z + 1 + 3 * i ∧ L3 = [(q, .lst (kss.map partL)), (p, wellOD K y)], rngD_map _, ⟨_, by omega, rfl⟩, fun _ _ _ => SubL.nil, by rw [List.length_range, sizeLine_eq]; omega, ?_, ?_⟩
    · rintro i x L3 hx ⟨y, yl, rfl⟩ Y q2 acc ⟨s0, H0, C0, cl0, fp0, rfl⟩
      have hi := (List.getElem?_eq_some_iff.mp hx).1
      rw [List.length_range] at hi
      refine pd_lcS1 (i := 14) rfl sc_law.nd (blk_in (N := NL) (sf := defScope s_law) rfl (by decide +kernel)) (fun _ _ _ _ _ => pg_name (i := 14) sc_law.nd rfl (Or.inl rfl)) ?_
      refine pdi_range1 M.T.range <| pd_name (i := 6) rfl rfl ⟨len, rfl, by omega, by omega, ?_⟩
      refine ⟨_, Int, _, _, D.int, fun _ v => 0 ≤ v ∧ v < (m : Int), fun t L4 => L4 = [(q2, .lst acc), (q, .lst (kss.map partL)), (p, wellOD K (y + t))], rngD_map _, by simp, fun _ _ _ => SubL.nil, by rw [List.length_range, sizeLine_eq]; omega, ?_, ?_⟩
      · rintro t x4 L4 hy rfl Y2 q3 acc2 ⟨s1, H1, C1, cl1, fp1, rfl⟩
        have ht := (List.getElem?_eq_some_iff.mp hy).1
        rw [List.length_range] at ht
        refine pd_fn M.draw hr (by decide) <| pda_cons <| pd_name (i := 1) rfl rfl <| pda_cons <| pd_name (i := 4) rfl rfl <| pda_nil ⟨p, m, y + t, _, rfl, by omega, by omega, lt _ (by omega), .there (.there (.there .here)), fun r r0 r1 => ⟨r, rfl, ⟨r0, r1⟩, _, Lw.refl _, ?_⟩⟩
        show [_, _, (p, wellOD K (y + (t : Int) + 1))] = [_, _, (p, wellOD K (y + ((t + 1 : Nat) : Int)))]
        rw [show y + ((t + 1 : Nat) : Int) = y + t + 1 by omega]
      rintro k L4 pk rfl
      have kl : (k.length : Int) = len := by
        have := paired_length pk
        rw [List.length_range] at this
        omega
      exact ⟨k, rfl, ⟨kl, pr_all pk⟩, _, Lw.refl _, _, by rw [List.length_range]; omega, rfl⟩
    rintro ks L3 pk2 ⟨y, yl, rfl⟩
    have hk : okRows len m ks := pr_all pk2
    have kl : ks.length = (1 + j).toNat := by
      have := paired_length pk2
      rw [List.length_range] at this
      exact this.symm
    refine pda_nil <| md_append .here (by rw [List.length_map, sizeLine_eq]; omega) ?_
    have e : kss.map partL ++ [D.lst (ks.map rowL)] = (kss ++ [ks]).map partL := by
      rw [List.map_append]
      rfl
    rw [e]
    refine pdb_nil ⟨kss ++ [ks], _, _, _, none, y, rfl, ?_, rfl, paired_snoc ⟨hk, ?_, by omega⟩ pk⟩
    · rw [List.length_append, List.length_singleton]; rw [List.length_range] at yl; omega
    · intro e0; rw [e0] at kl; simp at kl; omega
  · rintro ρ1 L2 ⟨kss, a, b, c, d, z, rfl, hz, rfl, pk⟩
    refine pdb_freeze 5 rfl .here ?_
    have g : GW lens m kss := ⟨m1, m5, (fun e0 => by rw [e0] at hll; simp at hll; omega), by omega, h3, paired_imp (fun a b h => h.1) pk, fun ks hk => (pr_all (paired_imp (fun a b h => h.2) pk) ks hk)⟩
    exact turn_4 M hr (show z + 200 < 1000000 by omega) g fun n' b6 b7 b8 b9 b10 b11 h => hE lens m kss g n' _ _ _ _ _ _ _ _ _ _ (by omega)
end
end K05
end
section
set_option Elab.async false
set_option linter.all false
set_option maxRecDepth 100000
set_option maxHeartbeats 8000000
namespace K05
open PySem L2 D2
open PySem.Spec hiding Row
theorem ok_empty (m : Int) : ∀ n : Nat, Paired (fun x ks => okRows x m ks) (List.replicate n (8 : Int)) (List.replicate n ([] : List Row))
  | 0 => .nil
  | n + 1 => .cons (fun k hk => nomatch hk) (ok_empty m n)
theorem rep8 {L : Led} : TRel L (.lst (List.replicate (80 : Int).toNat [D.int 8]).flatten) (.int 1) (.lst (List.replicate (80 : Int).toNat [D.lst []]).flatten) .non := by
  have e1 : (List.replicate (80 : Int).toNat [D.int 8]).flatten = (List.replicate 80 (8 : Int)).map D.int := rfl
  have e2 : (List.replicate (80 : Int).toNat [D.lst []]).flatten = (List.replicate 80 ([] : List Row)).map partL := rfl
  rw [e1, e2]
  exact .good (lens := List.replicate 80 8) (kss := List.replicate 80 []) (.lst _) (fun n hn => by rw [(List.mem_replicate.mp hn).2]; decide) (by decide) (by decide) (by decide) ⟨_, .lists (.lst _) (.lst _)⟩ (.lst _) (ptL _) (ok_empty 1 80) (fun ks hk => by rw [(List.mem_replicate.mp hk).2]; decide) (by decide)
theorem notF {b : Bool} {A B : Prop} (h : b = true) (a : B) : TruD (.bl b) fun t => TruD (.bl (!t)) fun u => if u = true then A else B := by
  subst h
  exact a
section
variable {P : Program} {w : World} {K : PySem.W.Frag} {mg : Str → Option Value} {base : Heap}
variable {C CW CN CM CB : Addr} {f : Addr}
def tLaw : Ct := fun ds L P R => ∃ ns : List Int, ds = [.fro (ns.map D.int)] ∧ L = [] ∧ ∀ L', P (.bl true) L'
theorem ok_law {fd : FuncData} (F : Fun K "law" "law" s_law f fd) (M : LawM P w K mg base C CW CN CM CB) : FnOk P w K mg base (L2.CX P w) 8 f fd ["script"] (spD K tLaw) := by
  refine fn_okD F sc_law (fun ds L P R ⟨ns, e, _⟩ => by rw [e]; rfl) fun cdv A outer s H E ds L P1 R hr ⟨ns, e, eL, hP⟩ => ?_
  subst e eL
  have hr : Room 7 _ := hr
  have hu := hr.units
  obtain ⟨fI, fdI, gI, mI, bI⟩ := M.IM.ex
  refine pdb_cons <| pds_asg <| pd_fn M.well hr (by decide) <| pda_cons <| pd_name (i := 0) rfl rfl <| pda_nil ⟨ns, rfl, fun p => pgd_name (i := 1) sc_law.nd rfl ?_⟩
  refine pdb_cons <| pds_forT rfl PassesOwn.leaving <| pdi_range1 M.T.range <| pd_int ⟨6, rfl, by decide, by decide, ?_⟩
  refine ⟨Nat, List.range (6 : Int).toNat, _, fun ip ρ L3 => ∃ (z : Int) (z2 z3 z4 z5 z6 z7 z8 z9 z10 z11 z13 z14 z15 z16 : Option D), ρ = [some (.fro (ns.map D.int)), some (.ref p), z2, z3, z4, z5, z6, z7, z8, z9, z10, z11, none, z13, z14, z15, z16] ∧ L3 = [(p, wellOD K z)] ∧ z ≤ 100 * ip.length ∧ (ip ≠ [] → ∃ lens m kss, GW lens m kss ∧ z3 = some (.lst (lens.map D.int)) ∧ z4 = some (.int (m : Int)) ∧ z5 = some (.lst (kss.map partL))), rngD_map _, ⟨0, none, none, none, none, none, none, none, none, none, none, none, none, none, none, rfl, rfl, by decide, fun z => absurd rfl z⟩, fun _ _ _ _ => SubL.nil, ?_, ?_⟩
  · rintro ip x ip2 ρ1 L3 eg ⟨z, z2, z3, z4, z5, z6, z7, z8, z9, z10, z11, z13, z14, z15, z16, rfl, rfl, hz, hk⟩
    have hil : ip.length < 6 := by
      have := congrArg List.length eg
      rw [List.length_append, List.length_cons, List.length_range] at this
      have e6 : (6 : Int).toNat = 6 := rfl
      omega
    refine pgd_name (i := 2) sc_law.nd rfl ?_
    refine turn_0 M hr (show z + 300 < 1000000 by omega) ?_
    intro lens m kss g n' b6 b7 b8 b9 b10 b11 b13 b14 b15 b16 hn'
    refine ⟨n', _, _, _, _, _, _, _, _, _, _, _, _, _, _, rfl, rfl, ?_, fun _ => ⟨lens, m, kss, g, rfl, rfl, rfl⟩⟩
    rw [List.length_append, List.length_singleton]
    omega
  · rintro ρ1 L3 ⟨z, z2, z3, z4, z5, z6, z7, z8, z9, z10, z11, z13, z14, z15, z16, rfl, rfl, hz, hk⟩
    obtain ⟨lens, m, kss, g, rfl, rfl, rfl⟩ := hk (by decide)
    have hz : z ≤ 600 := hz
    have l3 := g.l3
    have m1 := g.m1
    have m5 := g.m5
    refine pdb_cons <| pds_asg <| pd_make mI gI (hr.mono (by decide)) M.IM.gl bI <| pda_cons <| pd_name (i := 3) rfl rfl <| pda_cons <| pd_name (i := 4) rfl rfl <| pda_cons <| pd_name (i := 5) rfl rfl <| pda_nil ⟨rfl, mk_ks (lens := lens) (kss := kss) (.lst _) g.h8 (by omega) (by omega) (by omega) ⟨_, .lists (.lst _) (.lst _)⟩ (.lst _) (ptL kss) g.ok g.few g.tot <| pgd_name (i := 12) sc_law.nd rfl ?_⟩
    refine pdb_cons <| pds_ifB (t := false) ((pdt_orB (t := false) (u := false) ?_ fun _ => pdt_orB (t := false) (u := false) ?_ fun _ => pdt_or1 ?_).eqB rfl) (fun z => nomatch z) fun _ => pdb_nil ?_
    · exact pdt_shr <| pdt_cmp <| pd_fn M.told hr (by decide) <| pda_cons <| pd_lstF <| pda_nil ⟨by show 0 ≤ sizeLine; decide, pda_cons <| pd_int <| pda_cons <| pd_lstF <| pda_nil ⟨by show 0 ≤ sizeLine; decide, pda_nil ⟨_, _, _, _, rfl, .good (lens := []) (kss := []) (dps := []) (.lst _) (fun n hn => nomatch hn) (by decide) (by decide) (by decide) ⟨_, .lists (.lst _) (.lst _)⟩ (.lst _) .nil .nil (fun ks hk => nomatch hk) (by decide), fun L' lw => pd_non <| od_notN ⟨_, rfl, _, lw.lc, rfl, rfl⟩⟩⟩⟩
    · exact pdt_shr <| pdt_cmp <| pd_fn M.told hr (by decide) <| pda_cons <| pd_bin <| pd_lstF <| pda_cons <| pd_int <| pda_nil ⟨by show 1 ≤ sizeLine; decide, pd_int <| od_rep (.lst _) (by decide) (by decide) (by show 1 * 80 ≤ sizeLine; decide) <| pda_cons <| pd_int <| pda_cons <| pd_bin <| pd_lstF <| pda_cons <| pd_lstF <| pda_nil ⟨by show 0 ≤ sizeLine; decide, pda_nil ⟨by show 1 ≤ sizeLine; decide, pd_int <| od_rep (.lst _) (by decide) (by decide) (by show 1 * 80 ≤ sizeLine; decide) <| pda_nil ⟨_, _, _, _, rfl, rep8, fun L' lw => pd_non <| od_notN ⟨_, rfl, _, lw.lc, rfl, rfl⟩⟩⟩⟩⟩
    · obtain ⟨o, h1, h2, h3⟩ : BadRws [(p, wellOD K z)] [] 1 (.lst [.lst []]) := gps_bad (ps := [gp []]) (fun q hq => by rw [List.mem_singleton.mp hq]; exact gp_ok []) (fun q hq => by rw [List.mem_singleton.mp hq]; decide) (by decide)
      refine pdt_shr <| pdt_cmp <| pd_fn M.told hr (by decide) <| pda_cons <| pd_lstF <| pda_nil ⟨by show 0 ≤ sizeLine; decide, pda_cons <| pd_int <| pda_cons <| pd_lstF <| pda_cons <| pd_lstF <| pda_nil ⟨by show 0 ≤ sizeLine; decide, pda_nil ⟨by show 1 ≤ sizeLine; decide, pda_nil ⟨_, _, _, _, rfl, .rows (lens := []) (many := 1) (.lst _) (fun n hn => nomatch hn) (by decide) (by decide) (by decide) h1 h2 h3, fun L' lw => ?_⟩⟩⟩⟩
      refine pd_tup <| pda_cons <| pd_str <| pda_cons <| pd_str <| pda_nil ⟨by show 2 ≤ sizeLine; decide, ?_⟩
      refine od_neT hu (x := W.Tup.mk [("world" : Str), "rows"]) (y := W.Tup.mk [("world" : Str), "rows"]) (.tup (.cons (.str _) (.cons (.str _) .nil))) (.tup (.cons (.str _) (.cons (.str _) .nil))) (by decide) ?_
      rw [decide_eq_true rfl]
      exact ⟨_, rfl, _, lw.lc, rfl, rfl⟩
    refine pdb_cons <| pds_forT rfl PassesOwn.leaving <| pdi_range1 M.T.range <| pd_int ⟨3, rfl, by decide, by decide, ?_⟩
    refine ⟨Nat, List.range (3 : Int).toNat, _, fun ip ρ L3 => ∃ (y2 : Option D) (y : Int), ρ = [some (.fro (ns.map D.int)), some (.ref p), y2, some (.lst (lens.map D.int)), some (.int (m : Int)), some (.lst (kss.map partL)), z6, z7, z8, z9, z10, z11, some (worldD C lens (m : Int) (kss.map asc)), z13, z14, z15, z16] ∧ L3 = [(p, wellOD K y)] ∧ y ≤ 600 + 40 * ip.length, rngD_map _, ⟨z2, z, rfl, rfl, by simpa using hz⟩, fun _ _ _ _ => SubL.nil, ?_, ?_⟩
    · rintro ip x ip2 ρ1 L3 eg ⟨y2, y, rfl, rfl, hy⟩
      have hil : ip.length < 3 := by
        have := congrArg List.length eg
        rw [List.length_append, List.length_cons, List.length_range] at this
        have e3 : (3 : Int).toNat = 3 := rfl
        omega
      refine pgd_name (i := 2) sc_law.nd rfl ?_
      refine pdb_cons <| pds_if <| pdt_not <| pdt_val <| pd_fn M.checked hr (by decide) <| pda_cons <| pd_name (i := 1) rfl rfl <| pda_nil ⟨p, y, _, rfl, show y + 300 < 1000000 by omega, .here, pdb_nil <| pdb_nil ⟨_, y + 40, rfl, rfl, ?_⟩⟩
      rw [List.length_append, List.length_singleton]
      omega
    · rintro ρ1 L3 ⟨y2, y, rfl, rfl, hy⟩
      refine pdb_cons <| pds_ret <| pd_cmp <| pd_fn M.parts hr (by decide) <| pda_cons <| pd_name (i := 12) rfl rfl <| pda_cons <| pd_lstF <| pda_cons <| pd_int <| pda_nil ⟨by show 1 ≤ sizeLine; decide, pda_nil ⟨lens, m, kss.map asc, rfl, g.pw, fun L' lw => ?_⟩⟩
      refine pd_lstF ?_
      refine pda_cons <| pd_tup <| pda_cons <| pd_str <| pda_cons <| pd_str <| pda_nil ⟨by show 2 ≤ sizeLine; decide, ?_⟩
      refine pda_cons <| pd_tup <| pda_cons <| pd_str <| pda_cons <| pd_str <| pda_nil ⟨by show 2 ≤ sizeLine; decide, ?_⟩
      refine pda_cons <| pd_tup <| pda_cons <| pd_str <| pda_cons <| pd_str <| pda_nil ⟨by show 2 ≤ sizeLine; decide, ?_⟩
      refine pda_cons <| pd_tup <| pda_cons <| pd_str <| pda_cons <| pd_str <| pda_nil ⟨by show 2 ≤ sizeLine; decide, ?_⟩
      refine pda_cons <| pd_tup <| pda_cons <| pd_str <| pda_cons <| pd_str <| pda_nil ⟨by show 2 ≤ sizeLine; decide, pda_nil ⟨by show 5 ≤ sizeLine; decide, ?_⟩⟩
      have dp2 : ∀ {L : Led} (a b : Str), DP L (.tup [.str a, .str b]) (W.Datum.toD (W.Tup.mk [a, b])) := fun a b => .tup (.cons (.str _) (.cons (.str _) .nil))
      refine od_eqT hu (x := five.map fun q => W.Tup.mk [q.1, q.2]) (y := five.map fun q => W.Tup.mk [q.1, q.2]) (.lst (.cons (dp2 _ _) <| .cons (dp2 _ _) <| .cons (dp2 _ _) <| .cons (dp2 _ _) <| .cons (dp2 _ _) .nil)) (.lst (.cons (dp2 _ _) <| .cons (dp2 _ _) <| .cons (dp2 _ _) <| .cons (dp2 _ _) <| .cons (dp2 _ _) .nil)) (by decide) ?_
      rw [decide_eq_true rfl]
      exact hP _
end
end K05
end
section
set_option Elab.async false
set_option linter.all false
set_option maxRecDepth 100000
set_option maxHeartbeats 8000000
namespace K05
open PySem L2 D2
open PySem.Spec hiding Row
/-! ### what the module's top leaves -/
theorem sup_of {K : PySem.W.Frag} {C J : Addr} {nmC qC nmJ qJ : Str} {NC NJ : Addr} {bsC bsJ subC subJ bJ : List Value} {snC snJ : List Str} {abC abJ : Bool} {colC colJ : Option Bool} {ddC ddJ : Option Addr} {m0 m1 m2 m3 m5 n0 n1 n2 n3 n5 : Option Value} {i : Value}
    (xC : K.lookup C = some (excClassObj nmC qC C NC bsC (.ref J :: bJ) true snC subC abC colC ddC m0 m1 m2 m3 m5 "ValueError.__new__")) (xJ : K.lookup J = some (excClassObj nmJ qJ J NJ bsJ bJ true snJ subJ abJ colJ ddJ n0 n1 n2 n3 n5 "ValueError.__new__"))
    (fJ : PySem.W.findIn K (.ref J) "__init__" = some (some i)) : PySem.W.ks_superIn K C C "__init__" = some (some i) := by
  unfold PySem.W.findIn at fJ
  unfold PySem.W.ks_superIn PySem.W.clsIn
  simp only [xJ] at fJ
  simp only [xC]
  show PySem.W.alongIn K "__init__" (((Value.ref C :: .ref J :: bJ).dropWhile (· != .ref C)).drop 1) = _
  rw [List.dropWhile_cons]
  have e : (Value.ref C != Value.ref C) = false := by simp
  rw [e]
  exact fJ
theorem kit_cls {K : PySem.W.Frag} {t : Value} {C : Addr} {b : Bool} (h2 : PySem.W.isClsIn K C = true) (h3 : PySem.W.typeIn K (.ref C) = some (.type "type")) (h4 : PySem.W.subIn K t (.ref C) = some b) : PySem.W.kitCls K t (.ref C) = some b := by
  have e2 : ((PySem.W.clsIn K C).isSome && PySem.W.typeIn K (.ref C) == some (.type "type")) = true := by
    have h2' : (PySem.W.clsIn K C).isSome = true := h2
    rw [h2', h3] <;> rfl
  show (if ((PySem.W.clsIn K C).isSome && PySem.W.typeIn K (.ref C) == some (.type "type")) = true then PySem.W.subIn K t (.ref C) else none) = some b
  rw [if_pos e2]
  exact h4
theorem exm_b {K : PySem.W.Frag} {t : Value} {S : Addr} {b : Bool} (h1 : PySem.W.subIn K (.ref S) (.type "BaseException") = some true) (h2 : PySem.W.isClsIn K S = true) (h3 : PySem.W.typeIn K (.ref S) = some (.type "type")) (h4 : PySem.W.subIn K t (.ref S) = some b) : PySem.W.exmOne K t (.ref S) = some b := by
  have e1 : (PySem.W.subIn K (.ref S) (.type "BaseException") == some true) = true := by rw [h1] <;> rfl
  show (if (PySem.W.subIn K (.ref S) (.type "BaseException") == some true) = true then PySem.W.kitCls K t (.ref S) else none) = some b
  rw [if_pos e1]
  exact kit_cls h2 h3 h4
theorem kit_not {K : PySem.W.Frag} {n : String} {C : Addr} (h2 : PySem.W.isClsIn K C = true) (h3 : PySem.W.typeIn K (.ref C) = some (.type "type")) (h4 : PySem.W.subIn K (.type n) (.ref C) = some false) : PySem.W.kitOne K (.type n) (.ref C) = some false := by
  unfold PySem.W.kitOne
  rw [if_neg (by
    have e : (Value.type n == Value.ref C) = false := by
      rw [beq_eq_false_iff_ne]
      intro z
      cases z
    rw [e]
    decide)]
  exact kit_cls h2 h3 h4
theorem kit_sub {K : PySem.W.Frag} {A B : Addr} {b : Bool} (h2 : PySem.W.isClsIn K B = true) (h3 : PySem.W.typeIn K (.ref B) = some (.type "type")) (h4 : PySem.W.subIn K (.ref A) (.ref B) = some b) (hs : PySem.W.subIn K (.ref A) (.ref A) = some true) : PySem.W.kitOne K (.ref A) (.ref B) = some b := by
  by_cases e : A = B
  · subst e
    rw [hs] at h4
    unfold PySem.W.kitOne
    rw [if_pos (by simp)]
    exact h4
  · unfold PySem.W.kitOne
    rw [if_neg (by simpa using e)]
    exact kit_cls h2 h3 h4
theorem kit_self {K : PySem.W.Frag} {C : Addr} : PySem.W.kitOne K (.ref C) (.ref C) = some true := by
  unfold PySem.W.kitOne
  rw [if_pos (by simp)]
theorem kb_is_integer {K : PySem.W.Frag} {f : Addr} {fd : FuncData} (F : Fun K "is_integer" "is_integer" s_is_integer f fd) : KBn K fd ["value"] 0 ["value"] (fun _ ws => match ws with | [v0] => [v0] | _ => []) (fun _ ws => match ws with | [v0] => [v0] | _ => []) := by
  obtain ⟨oc, od, kV, doc, pm, an, cdv, ct, osl, rfl, lk, hcd⟩ := F.ex
  refine ⟨fun s us ws X l1 l2 => ?_, fun {vs us zs ws} r1 r2 => ?_⟩
  · match us, l1, ws, l2 with
    | [], _, [w0], _ => exact .of_eq rfl
  ·
    cases r2 with
    | nil => exact .nil
    | cons c0 r2 =>
      cases r2 with
      | nil => exact .cons c0 (.nil)
      | cons _ _ => exact .nil
theorem kb_is_within {K : PySem.W.Frag} {f : Addr} {fd : FuncData} (F : Fun K "is_within" "is_within" s_is_within f fd) : KBn K fd ["value", "least", "most"] 0 ["most", "value", "least"] (fun _ ws => match ws with | [v0, v1, v2] => [v1, v2, v0] | _ => []) (fun _ ws => match ws with | [v0, v1, v2] => [v1, v2, v0] | _ => []) := by
  obtain ⟨oc, od, kV, doc, pm, an, cdv, ct, osl, rfl, lk, hcd⟩ := F.ex
  refine ⟨fun s us ws X l1 l2 => ?_, fun {vs us zs ws} r1 r2 => ?_⟩
  · match us, l1, ws, l2 with
    | [], _, [w0, w1, w2], _ => exact .of_eq rfl
  ·
    cases r2 with
    | nil => exact .nil
    | cons c0 r2 =>
      cases r2 with
      | nil => exact .nil
      | cons c1 r2 =>
        cases r2 with
        | nil => exact .nil
        | cons c2 r2 =>
          cases r2 with
          | nil => exact .cons c1 (.cons c2 (.cons c0 (.nil)))
          | cons _ _ => exact .nil
theorem kb_is_row {K : PySem.W.Frag} {f : Addr} {fd : FuncData} (F : Fun K "is_row" "is_row" s_is_row f fd) : KBn K fd ["value", "many", "below"] 0 ["below", "value", "many"] (fun _ ws => match ws with | [v0, v1, v2] => [v1, v2, v0] | _ => []) (fun _ ws => match ws with | [v0, v1, v2] => [v1, v2, v0] | _ => []) := by
  obtain ⟨oc, od, kV, doc, pm, an, cdv, ct, osl, rfl, lk, hcd⟩ := F.ex
  refine ⟨fun s us ws X l1 l2 => ?_, fun {vs us zs ws} r1 r2 => ?_⟩
  · match us, l1, ws, l2 with
    | [], _, [w0, w1, w2], _ => exact .of_eq rfl
  ·
    cases r2 with
    | nil => exact .nil
    | cons c0 r2 =>
      cases r2 with
      | nil => exact .nil
      | cons c1 r2 =>
        cases r2 with
        | nil => exact .nil
        | cons c2 r2 =>
          cases r2 with
          | nil => exact .cons c1 (.cons c2 (.cons c0 (.nil)))
          | cons _ _ => exact .nil
theorem kb_is_code {K : PySem.W.Frag} {f : Addr} {fd : FuncData} (F : Fun K "is_code" "is_code" s_is_code f fd) : KBn K fd ["value"] 0 ["value"] (fun _ ws => match ws with | [v0] => [v0] | _ => []) (fun _ ws => match ws with | [v0] => [v0] | _ => []) := by
  obtain ⟨oc, od, kV, doc, pm, an, cdv, ct, osl, rfl, lk, hcd⟩ := F.ex
  refine ⟨fun s us ws X l1 l2 => ?_, fun {vs us zs ws} r1 r2 => ?_⟩
  · match us, l1, ws, l2 with
    | [], _, [w0], _ => exact .of_eq rfl
  ·
    cases r2 with
    | nil => exact .nil
    | cons c0 r2 =>
      cases r2 with
      | nil => exact .cons c0 (.nil)
      | cons _ _ => exact .nil
theorem law_ask {K : PySem.W.Frag} {H : Hp} {a : Addr} {ns : List Int} (h : SqL K H a (ns.map V.int)) : spD K tLaw [.ref a] H (fun v _ => v = .bl true) fun _ _ _ => False :=
  ⟨H, [], [.fro (ns.map D.int)], fun d _ => d = .bl true, noR, .cons (.fro h (IsL.ints ns)) .nil, ⟨Same.refl _, (fun e he => nomatch he), List.nodup_nil⟩, ⟨ns, rfl, rfl, fun L' => rfl⟩, fun v H' ⟨F', d, L, s, o, i, e⟩ => by
    subst e
    cases i
    rfl, fun c d H' ⟨_, _, _, _, _, _, _, _, _, _, _, _, z⟩ => z.elim⟩
theorem sc_free {sc : List (Str × NameKind)} (h : (sc.all fun y => decide (y.2 ≠ .free) || decide (y.1 = "__class__")) = true) : ∀ x, sc.lookup x = some .free → x = "__class__" := fun x hx => by
  have go : ∀ l : List (Str × NameKind), (l.all fun y => decide (y.2 ≠ .free) || decide (y.1 = "__class__")) = true → l.lookup x = some .free → x = "__class__" := fun l => by
    induction l with
    | nil => intro _ h; cases h
    | cons y l ih =>
      intro h1 h2
      rw [List.all_cons, Bool.and_eq_true, Bool.or_eq_true, decide_eq_true_eq, decide_eq_true_eq] at h1
      obtain ⟨k, v⟩ := y
      rw [List.lookup_cons] at h2
      cases e : x == k with
      | true =>
        rw [e] at h2
        have e2 : x = k := beq_iff_eq.mp e
        cases h2
        rcases h1.1 with z | z
        · exact absurd rfl z
        · rw [e2]; exact z
      | false =>
        rw [e] at h2
        exact ih h1.2 h2
  exact go sc h hx
theorem sc_CN : SupScope ["self", "part"] (defScope (inClass (top 8) 0)) := ⟨rfl, rfl, rfl, by decide +kernel, by decide +kernel, by decide +kernel, sc_free (by decide +kernel), by decide +kernel, by decide +kernel⟩
theorem sc_CW : SupScope ["self", "part"] (defScope (inClass (top 9) 0)) := ⟨rfl, rfl, rfl, by decide +kernel, by decide +kernel, by decide +kernel, sc_free (by decide +kernel), by decide +kernel, by decide +kernel⟩
theorem sc_CB : SupScope ["self", "part"] (defScope (inClass (top 10) 0)) := ⟨rfl, rfl, rfl, by decide +kernel, by decide +kernel, by decide +kernel, sc_free (by decide +kernel), by decide +kernel, by decide +kernel⟩
theorem sc_CM : SupScope ["self", "what", "most"] (defScope (inClass (top 11) 0)) := ⟨rfl, rfl, rfl, by decide +kernel, by decide +kernel, by decide +kernel, sc_free (by decide +kernel), by decide +kernel, by decide +kernel⟩
theorem all_mk {l : PySem.W.OpenLaw} {w : World} {K : PySem.W.Frag} {h : Heap} {mg : Str → Option Value} {fa C CJ CN CW CB CM f0 f1 f2 f3 f4 f5 f6 f7 f8 f9 f10 f11 f12 f13 f14 f15 f16 f17 f18 f19 f60 f61 f62 NCJ NCN NCW NCB NCM fCN ccCN caCN fCW ccCW caCW fCB ccCB caCB fCM ccCM caCM : Addr} (hP : l.prog.main.scope.names.lookup ("super" : Str) = none) (X : K.In h) (G : h.Ns mainGlobals mg) (hfa : mg "law" = some (.ref fa))
    {od0 an0 od1 an1 od2 an2 od3 an3 od4 an4 od5 an5 od6 an6 od7 an7 od8 an8 od9 an9 od10 an10 od11 an11 od12 an12 od13 an13 od14 an14 od15 an15 od16 an16 od17 an17 od18 an18 od19 an19 od60 an60 od61 an61 od62 an62 ddCJ ddCN ddCW ddCB ddCM odCN anCN cldCN cddCN odCW anCW cldCW cddCW odCB anCB cldCB cddCB odCM anCM cldCM cddCM : Option Addr} {sl0 sl1 sl2 sl3 sl4 sl5 sl6 sl7 sl8 sl9 sl10 sl11 sl12 sl13 sl14 sl15 sl16 sl17 sl18 sl19 sl60 sl61 sl62 slCN cslCN ccsCN slCW cslCW ccsCW slCB cslCB ccsCB slCM cslCM ccsCM : Array (Option Value)} {vsCN vsCW vsCB vsCM : Array Value} {oc0 kV0 dc0 pm0 cd0 ct0 oc1 kV1 dc1 pm1 cd1 ct1 oc2 kV2 dc2 pm2 cd2 ct2 oc3 kV3 dc3 pm3 cd3 ct3 oc4 kV4 dc4 pm4 cd4 ct4 oc5 kV5 dc5 pm5 cd5 ct5 oc6 kV6 dc6 pm6 cd6 ct6 oc7 kV7 dc7 pm7 cd7 ct7 oc8 kV8 dc8 pm8 cd8 ct8 oc9 kV9 dc9 pm9 cd9 ct9 oc10 kV10 dc10 pm10 cd10 ct10 oc11 kV11 dc11 pm11 cd11 ct11 oc12 kV12 dc12 pm12 cd12 ct12 oc13 kV13 dc13 pm13 cd13 ct13 oc14 kV14 dc14 pm14 cd14 ct14 oc15 kV15 dc15 pm15 cd15 ct15 oc16 kV16 dc16 pm16 cd16 ct16 oc17 kV17 dc17 pm17 cd17 ct17 oc18 kV18 dc18 pm18 cd18 ct18 oc19 kV19 dc19 pm19 cd19 ct19 oc60 kV60 dc60 pm60 cd60 ct60 oc61 kV61 dc61 pm61 cd61 ct61 oc62 kV62 dc62 pm62 cd62 ct62 ocCN kVCN dcCN pmCN ctCN clCN cclCN ocCW kVCW dcCW pmCW ctCW clCW cclCW ocCB kVCB dcCB pmCB ctCB clCB cclCB ocCM kVCM dcCM pmCM ctCM clCM cclCM : Value} {nmCJ qCJ nmCN qCN nmCW qCW nmCB qCB nmCM qCM : Str} {bsCJ subCJ bsCN subCN bsCW subCW bsCB subCB bsCM subCM : List Value} {snCJ snCN snCW snCB snCM : List Str} {abCJ abCN abCW abCB abCM : Bool} {colCJ colCN colCW colCB colCM : Option Bool} {m0CJ m1CJ m2CJ m3CJ m5CJ m0CN m1CN m2CN m3CN m5CN m0CW m1CW m2CW m3CW m5CW m0CB m1CB m2CB m3CB m5CB m0CM m1CM m2CM m3CM m5CM : Option Value} {tMOST_PLACES tMOST_ROWS tMOST_RELATIONS tMOST_LENGTH tMOST_LETTERS : Tok}
    (aC : PySem.W.nsIn K mainGlobals "World" = some (some (.ref C)))
    (aJ : PySem.W.nsIn K mainGlobals "JustError" = some (some (.ref CJ)))
    (aCN : PySem.W.nsIn K mainGlobals "BadNumber" = some (some (.ref CN)))
    (aCW : PySem.W.nsIn K mainGlobals "BadWorld" = some (some (.ref CW)))
    (aCB : PySem.W.nsIn K mainGlobals "BadMap" = some (some (.ref CB)))
    (aCM : PySem.W.nsIn K mainGlobals "TooMany" = some (some (.ref CM)))
    (a0 : PySem.W.nsIn K mainGlobals "is_integer" = some (some (.ref f0)))
    (l0 : K.lookup f0 = some ⟨oc0, od0, .func (PySem.W.fnOf "is_integer" "is_integer" (defArgs s_is_integer) (defBody s_is_integer) (defScope s_is_integer) .none kV0 dc0 pm0 an0 cd0 ct0), sl0⟩)
    (c0 : PySem.W.codeIn K cd0 "is_integer" = true)
    (k0 : PySem.W.keepIn K (.ref f0) = true)
    (a1 : PySem.W.nsIn K mainGlobals "is_within" = some (some (.ref f1)))
    (l1 : K.lookup f1 = some ⟨oc1, od1, .func (PySem.W.fnOf "is_within" "is_within" (defArgs s_is_within) (defBody s_is_within) (defScope s_is_within) .none kV1 dc1 pm1 an1 cd1 ct1), sl1⟩)
    (c1 : PySem.W.codeIn K cd1 "is_within" = true)
    (k1 : PySem.W.keepIn K (.ref f1) = true)
    (a2 : PySem.W.nsIn K mainGlobals "is_row" = some (some (.ref f2)))
    (l2 : K.lookup f2 = some ⟨oc2, od2, .func (PySem.W.fnOf "is_row" "is_row" (defArgs s_is_row) (defBody s_is_row) (defScope s_is_row) .none kV2 dc2 pm2 an2 cd2 ct2), sl2⟩)
    (c2 : PySem.W.codeIn K cd2 "is_row" = true)
    (k2 : PySem.W.keepIn K (.ref f2) = true)
    (a3 : PySem.W.nsIn K mainGlobals "is_code" = some (some (.ref f3)))
    (l3 : K.lookup f3 = some ⟨oc3, od3, .func (PySem.W.fnOf "is_code" "is_code" (defArgs s_is_code) (defBody s_is_code) (defScope s_is_code) .none kV3 dc3 pm3 an3 cd3 ct3), sl3⟩)
    (c3 : PySem.W.codeIn K cd3 "is_code" = true)
    (k3 : PySem.W.keepIn K (.ref f3) = true)
    (a4 : PySem.W.nsIn K mainGlobals "are_lengths" = some (some (.ref f4)))
    (l4 : K.lookup f4 = some ⟨oc4, od4, .func (PySem.W.fnOf "are_lengths" "are_lengths" (defArgs s_are_lengths) (defBody s_are_lengths) (defScope s_are_lengths) .none kV4 dc4 pm4 an4 cd4 ct4), sl4⟩)
    (c4 : PySem.W.codeIn K cd4 "are_lengths" = true)
    (k4 : PySem.W.keepIn K (.ref f4) = true)
    (a5 : PySem.W.nsIn K mainGlobals "are_rows" = some (some (.ref f5)))
    (l5 : K.lookup f5 = some ⟨oc5, od5, .func (PySem.W.fnOf "are_rows" "are_rows" (defArgs s_are_rows) (defBody s_are_rows) (defScope s_are_rows) .none kV5 dc5 pm5 an5 cd5 ct5), sl5⟩)
    (c5 : PySem.W.codeIn K cd5 "are_rows" = true)
    (k5 : PySem.W.keepIn K (.ref f5) = true)
    (a6 : PySem.W.nsIn K mainGlobals "moved" = some (some (.ref f6)))
    (l6 : K.lookup f6 = some ⟨oc6, od6, .func (PySem.W.fnOf "moved" "moved" (defArgs s_moved) (defBody s_moved) (defScope s_moved) .none kV6 dc6 pm6 an6 cd6 ct6), sl6⟩)
    (c6 : PySem.W.codeIn K cd6 "moved" = true)
    (k6 : PySem.W.keepIn K (.ref f6) = true)
    (a7 : PySem.W.nsIn K mainGlobals "renamed" = some (some (.ref f7)))
    (l7 : K.lookup f7 = some ⟨oc7, od7, .func (PySem.W.fnOf "renamed" "renamed" (defArgs s_renamed) (defBody s_renamed) (defScope s_renamed) .none kV7 dc7 pm7 an7 cd7 ct7), sl7⟩)
    (c7 : PySem.W.codeIn K cd7 "renamed" = true)
    (k7 : PySem.W.keepIn K (.ref f7) = true)
    (a8 : PySem.W.nsIn K mainGlobals "part_of" = some (some (.ref f8)))
    (l8 : K.lookup f8 = some ⟨oc8, od8, .func (PySem.W.fnOf "part_of" "part_of" (defArgs s_part_of) (defBody s_part_of) (defScope s_part_of) .none kV8 dc8 pm8 an8 cd8 ct8), sl8⟩)
    (c8 : PySem.W.codeIn K cd8 "part_of" = true)
    (k8 : PySem.W.keepIn K (.ref f8) = true)
    (a9 : PySem.W.nsIn K mainGlobals "is_two_way" = some (some (.ref f9)))
    (l9 : K.lookup f9 = some ⟨oc9, od9, .func (PySem.W.fnOf "is_two_way" "is_two_way" (defArgs s_is_two_way) (defBody s_is_two_way) (defScope s_is_two_way) .none kV9 dc9 pm9 an9 cd9 ct9), sl9⟩)
    (c9 : PySem.W.codeIn K cd9 "is_two_way" = true)
    (k9 : PySem.W.keepIn K (.ref f9) = true)
    (a10 : PySem.W.nsIn K mainGlobals "_law_well" = some (some (.ref f10)))
    (l10 : K.lookup f10 = some ⟨oc10, od10, .func (PySem.W.fnOf "_law_well" "_law_well" (defArgs s_law_well) (defBody s_law_well) (defScope s_law_well) .none kV10 dc10 pm10 an10 cd10 ct10), sl10⟩)
    (c10 : PySem.W.codeIn K cd10 "_law_well" = true)
    (k10 : PySem.W.keepIn K (.ref f10) = true)
    (a11 : PySem.W.nsIn K mainGlobals "_law_draw" = some (some (.ref f11)))
    (l11 : K.lookup f11 = some ⟨oc11, od11, .func (PySem.W.fnOf "_law_draw" "_law_draw" (defArgs s_law_draw) (defBody s_law_draw) (defScope s_law_draw) .none kV11 dc11 pm11 an11 cd11 ct11), sl11⟩)
    (c11 : PySem.W.codeIn K cd11 "_law_draw" = true)
    (k11 : PySem.W.keepIn K (.ref f11) = true)
    (a12 : PySem.W.nsIn K mainGlobals "_law_one_of" = some (some (.ref f12)))
    (l12 : K.lookup f12 = some ⟨oc12, od12, .func (PySem.W.fnOf "_law_one_of" "_law_one_of" (defArgs s_law_one_of) (defBody s_law_one_of) (defScope s_law_one_of) .none kV12 dc12 pm12 an12 cd12 ct12), sl12⟩)
    (c12 : PySem.W.codeIn K cd12 "_law_one_of" = true)
    (k12 : PySem.W.keepIn K (.ref f12) = true)
    (a13 : PySem.W.nsIn K mainGlobals "_law_told" = some (some (.ref f13)))
    (l13 : K.lookup f13 = some ⟨oc13, od13, .func (PySem.W.fnOf "_law_told" "_law_told" (defArgs s_law_told) (defBody s_law_told) (defScope s_law_told) .none kV13 dc13 pm13 an13 cd13 ct13), sl13⟩)
    (c13 : PySem.W.codeIn K cd13 "_law_told" = true)
    (k13 : PySem.W.keepIn K (.ref f13) = true)
    (a14 : PySem.W.nsIn K mainGlobals "_law_lengths" = some (some (.ref f14)))
    (l14 : K.lookup f14 = some ⟨oc14, od14, .func (PySem.W.fnOf "_law_lengths" "_law_lengths" (defArgs s_law_lengths) (defBody s_law_lengths) (defScope s_law_lengths) .none kV14 dc14 pm14 an14 cd14 ct14), sl14⟩)
    (c14 : PySem.W.codeIn K cd14 "_law_lengths" = true)
    (k14 : PySem.W.keepIn K (.ref f14) = true)
    (a15 : PySem.W.nsIn K mainGlobals "_law_spoiled" = some (some (.ref f15)))
    (l15 : K.lookup f15 = some ⟨oc15, od15, .func (PySem.W.fnOf "_law_spoiled" "_law_spoiled" (defArgs s_law_spoiled) (defBody s_law_spoiled) (defScope s_law_spoiled) .none kV15 dc15 pm15 an15 cd15 ct15), sl15⟩)
    (c15 : PySem.W.codeIn K cd15 "_law_spoiled" = true)
    (k15 : PySem.W.keepIn K (.ref f15) = true)
    (a16 : PySem.W.nsIn K mainGlobals "_law_parts" = some (some (.ref f16)))
    (l16 : K.lookup f16 = some ⟨oc16, od16, .func (PySem.W.fnOf "_law_parts" "_law_parts" (defArgs s_law_parts) (defBody s_law_parts) (defScope s_law_parts) .none kV16 dc16 pm16 an16 cd16 ct16), sl16⟩)
    (c16 : PySem.W.codeIn K cd16 "_law_parts" = true)
    (k16 : PySem.W.keepIn K (.ref f16) = true)
    (a17 : PySem.W.nsIn K mainGlobals "_law_is_number" = some (some (.ref f17)))
    (l17 : K.lookup f17 = some ⟨oc17, od17, .func (PySem.W.fnOf "_law_is_number" "_law_is_number" (defArgs s_law_is_number) (defBody s_law_is_number) (defScope s_law_is_number) .none kV17 dc17 pm17 an17 cd17 ct17), sl17⟩)
    (c17 : PySem.W.codeIn K cd17 "_law_is_number" = true)
    (k17 : PySem.W.keepIn K (.ref f17) = true)
    (a18 : PySem.W.nsIn K mainGlobals "_law_are_checked" = some (some (.ref f18)))
    (l18 : K.lookup f18 = some ⟨oc18, od18, .func (PySem.W.fnOf "_law_are_checked" "_law_are_checked" (defArgs s_law_are_checked) (defBody s_law_are_checked) (defScope s_law_are_checked) .none kV18 dc18 pm18 an18 cd18 ct18), sl18⟩)
    (c18 : PySem.W.codeIn K cd18 "_law_are_checked" = true)
    (k18 : PySem.W.keepIn K (.ref f18) = true)
    (a19 : PySem.W.nsIn K mainGlobals "law" = some (some (.ref f19)))
    (l19 : K.lookup f19 = some ⟨oc19, od19, .func (PySem.W.fnOf "law" "law" (defArgs s_law) (defBody s_law) (defScope s_law) .none kV19 dc19 pm19 an19 cd19 ct19), sl19⟩)
    (c19 : PySem.W.codeIn K cd19 "law" = true)
    (k19 : PySem.W.keepIn K (.ref f19) = true)
    (a60 : PySem.W.findIn K (.ref C) "__init__" = some (some (.ref f60)))
    (i60 : PySem.W.isFn K (.ref f60) = true)
    (l60 : K.lookup f60 = some ⟨oc60, od60, .func (PySem.W.fnOf "__init__" "World.__init__" (defArgs s_init) (defBody s_init) (defScope s_init) .none kV60 dc60 pm60 an60 cd60 ct60), sl60⟩)
    (c60 : PySem.W.codeIn K cd60 "World.__init__" = true)
    (k60 : PySem.W.keepIn K (.ref f60) = true)
    (a61 : PySem.W.findIn K (.ref C) "__len__" = some (some (.ref f61)))
    (i61 : PySem.W.isFn K (.ref f61) = true)
    (l61 : K.lookup f61 = some ⟨oc61, od61, .func (PySem.W.fnOf "__len__" "World.__len__" (defArgs s_len) (defBody s_len) (defScope s_len) .none kV61 dc61 pm61 an61 cd61 ct61), sl61⟩)
    (c61 : PySem.W.codeIn K cd61 "World.__len__" = true)
    (k61 : PySem.W.keepIn K (.ref f61) = true)
    (a62 : PySem.W.findIn K (.ref C) "__eq__" = some (some (.ref f62)))
    (i62 : PySem.W.isFn K (.ref f62) = true)
    (l62 : K.lookup f62 = some ⟨oc62, od62, .func (PySem.W.fnOf "__eq__" "World.__eq__" (defArgs s_eq) (defBody s_eq) (defScope s_eq) .none kV62 dc62 pm62 an62 cd62 ct62), sl62⟩)
    (c62 : PySem.W.codeIn K cd62 "World.__eq__" = true)
    (k62 : PySem.W.keepIn K (.ref f62) = true)
    (pg : PySem.W.plainGet K C Str.empty = true)
    (hd : PySem.W.hasDictIn K C = true)
    (po : PySem.W.plainOver K C = true)
    (sa : PySem.W.findIn K (.ref C) "__setattr__" = some (some (.builtin "object.__setattr__")))
    (mk : PySem.W.makesIn K C = true)
    (kc : PySem.W.keepIn K (.ref C) = true)
    (nl : PySem.W.findIn K (.ref C) "lengths" = some none)
    (nm : PySem.W.findIn K (.ref C) "many" = some none)
    (nr : PySem.W.findIn K (.ref C) "rows" = some none)
    (wha : PySem.W.findIn K (.ref C) "__class__" = some (some (.builtin "object.__class__")))
    (whn : PySem.W.specialIn K (.builtin "object.__class__") "__get__" = some (some (.builtin "getset_descriptor.__get__")))
    (whk : PySem.W.takesIn K (.builtin "object.__class__") = some true)
    (whm : PySem.W.mroIn K C (.type "object") = some true)
    (wic : PySem.W.isClsIn K C = true)
    (wty : PySem.W.typeIn K (.ref C) = some (.type "type"))
    (nfNoneType : PySem.W.notFirst K C (.type "NoneType") = true)
    (suNoneType : PySem.W.subIn K (.type "NoneType") (.ref C) = some false)
    (nfbool : PySem.W.notFirst K C (.type "bool") = true)
    (subool : PySem.W.subIn K (.type "bool") (.ref C) = some false)
    (nfint : PySem.W.notFirst K C (.type "int") = true)
    (suint : PySem.W.subIn K (.type "int") (.ref C) = some false)
    (nfstr : PySem.W.notFirst K C (.type "str") = true)
    (sustr : PySem.W.subIn K (.type "str") (.ref C) = some false)
    (nflist : PySem.W.notFirst K C (.type "list") = true)
    (sulist : PySem.W.subIn K (.type "list") (.ref C) = some false)
    (nftuple : PySem.W.notFirst K C (.type "tuple") = true)
    (sutuple : PySem.W.subIn K (.type "tuple") (.ref C) = some false)
    (nfdict : PySem.W.notFirst K C (.type "dict") = true)
    (sudict : PySem.W.subIn K (.type "dict") (.ref C) = some false)
    (nfC : PySem.W.notFirst K C (.ref C) = true)
    (xCJ : K.lookup CJ = some (excClassObj nmCJ qCJ CJ NCJ bsCJ [.type "ValueError", .type "Exception", .type "BaseException", .type "object"] true snCJ subCJ abCJ colCJ ddCJ m0CJ m1CJ m2CJ m3CJ m5CJ "ValueError.__new__"))
    (fCJ : PySem.W.findIn K (.ref CJ) "__init__" = some (some (.builtin "ValueError.__init__")))
    (bCJ : PySem.W.subIn K (.ref CJ) (.type "BaseException") = some true)
    (iCJ : PySem.W.isClsIn K CJ = true)
    (tCJ : PySem.W.typeIn K (.ref CJ) = some (.type "type"))
    (any : PySem.W.nsIn K cStatics "thirdparty.any" = some none)
    (xCN : K.lookup CN = some (excClassObj nmCN qCN CN NCN bsCN [.ref CJ, .type "ValueError", .type "Exception", .type "BaseException", .type "object"] true snCN subCN abCN colCN ddCN m0CN m1CN m2CN m3CN m5CN "ValueError.__new__"))
    (sCN : PySem.W.findIn K (.ref CN) "__setattr__" = some (some (.builtin "object.__setattr__")))
    (bCN : PySem.W.subIn K (.ref CN) (.type "BaseException") = some true)
    (tCN : PySem.W.typeIn K (.ref CN) = some (.type "type"))
    (kCN : PySem.W.keepIn K (.ref CN) = true)
    (vCN : PySem.W.subIn K (.ref CN) (.type "ValueError") = some true)
    (oCN : PySem.W.mroIn K CN (.ref CN) = some true)
    (jCN : PySem.W.subIn K (.ref CN) (.ref CJ) = some true)
    (nCNpart : PySem.W.findIn K (.ref CN) "part" = some none)
    (afCN : PySem.W.findIn K (.ref CN) "__init__" = some (some (.ref fCN)))
    (yfCN : PySem.W.typeIn K (.ref fCN) = some (.type "function"))
    (lfCN : K.lookup fCN = some ⟨ocCN, odCN, .func (PySem.W.ksFn "__init__" "BadNumber.__init__" (defArgs (inClass (top 8) 0)) (defBody (inClass (top 8) 0)) (defScope (inClass (top 8) 0)) .none kVCN dcCN pmCN anCN (.ref caCN) ctCN ccCN), slCN⟩)
    (cfCN : PySem.W.codeIn K (.ref caCN) "BadNumber.__init__" = true)
    (efCN : K.lookup ccCN = some ⟨clCN, cldCN, .cell (some (.ref CN)), cslCN⟩)
    (dfCN : K.lookup caCN = some ⟨cclCN, cddCN, .fields vsCN, ccsCN⟩)
    (pfCN : ∃ (file : Str) (tf : Tok), vsCN[2]? = some (.str file tf) ∧ (l.prog.main.file == file) = true)
    (xCW : K.lookup CW = some (excClassObj nmCW qCW CW NCW bsCW [.ref CJ, .type "ValueError", .type "Exception", .type "BaseException", .type "object"] true snCW subCW abCW colCW ddCW m0CW m1CW m2CW m3CW m5CW "ValueError.__new__"))
    (sCW : PySem.W.findIn K (.ref CW) "__setattr__" = some (some (.builtin "object.__setattr__")))
    (bCW : PySem.W.subIn K (.ref CW) (.type "BaseException") = some true)
    (tCW : PySem.W.typeIn K (.ref CW) = some (.type "type"))
    (kCW : PySem.W.keepIn K (.ref CW) = true)
    (vCW : PySem.W.subIn K (.ref CW) (.type "ValueError") = some true)
    (oCW : PySem.W.mroIn K CW (.ref CW) = some true)
    (jCW : PySem.W.subIn K (.ref CW) (.ref CJ) = some true)
    (nCWpart : PySem.W.findIn K (.ref CW) "part" = some none)
    (afCW : PySem.W.findIn K (.ref CW) "__init__" = some (some (.ref fCW)))
    (yfCW : PySem.W.typeIn K (.ref fCW) = some (.type "function"))
    (lfCW : K.lookup fCW = some ⟨ocCW, odCW, .func (PySem.W.ksFn "__init__" "BadWorld.__init__" (defArgs (inClass (top 9) 0)) (defBody (inClass (top 9) 0)) (defScope (inClass (top 9) 0)) .none kVCW dcCW pmCW anCW (.ref caCW) ctCW ccCW), slCW⟩)
    (cfCW : PySem.W.codeIn K (.ref caCW) "BadWorld.__init__" = true)
    (efCW : K.lookup ccCW = some ⟨clCW, cldCW, .cell (some (.ref CW)), cslCW⟩)
    (dfCW : K.lookup caCW = some ⟨cclCW, cddCW, .fields vsCW, ccsCW⟩)
    (pfCW : ∃ (file : Str) (tf : Tok), vsCW[2]? = some (.str file tf) ∧ (l.prog.main.file == file) = true)
    (xCB : K.lookup CB = some (excClassObj nmCB qCB CB NCB bsCB [.ref CJ, .type "ValueError", .type "Exception", .type "BaseException", .type "object"] true snCB subCB abCB colCB ddCB m0CB m1CB m2CB m3CB m5CB "ValueError.__new__"))
    (sCB : PySem.W.findIn K (.ref CB) "__setattr__" = some (some (.builtin "object.__setattr__")))
    (bCB : PySem.W.subIn K (.ref CB) (.type "BaseException") = some true)
    (tCB : PySem.W.typeIn K (.ref CB) = some (.type "type"))
    (kCB : PySem.W.keepIn K (.ref CB) = true)
    (vCB : PySem.W.subIn K (.ref CB) (.type "ValueError") = some true)
    (oCB : PySem.W.mroIn K CB (.ref CB) = some true)
    (jCB : PySem.W.subIn K (.ref CB) (.ref CJ) = some true)
    (nCBpart : PySem.W.findIn K (.ref CB) "part" = some none)
    (afCB : PySem.W.findIn K (.ref CB) "__init__" = some (some (.ref fCB)))
    (yfCB : PySem.W.typeIn K (.ref fCB) = some (.type "function"))
    (lfCB : K.lookup fCB = some ⟨ocCB, odCB, .func (PySem.W.ksFn "__init__" "BadMap.__init__" (defArgs (inClass (top 10) 0)) (defBody (inClass (top 10) 0)) (defScope (inClass (top 10) 0)) .none kVCB dcCB pmCB anCB (.ref caCB) ctCB ccCB), slCB⟩)
    (cfCB : PySem.W.codeIn K (.ref caCB) "BadMap.__init__" = true)
    (efCB : K.lookup ccCB = some ⟨clCB, cldCB, .cell (some (.ref CB)), cslCB⟩)
    (dfCB : K.lookup caCB = some ⟨cclCB, cddCB, .fields vsCB, ccsCB⟩)
    (pfCB : ∃ (file : Str) (tf : Tok), vsCB[2]? = some (.str file tf) ∧ (l.prog.main.file == file) = true)
    (xCM : K.lookup CM = some (excClassObj nmCM qCM CM NCM bsCM [.ref CJ, .type "ValueError", .type "Exception", .type "BaseException", .type "object"] true snCM subCM abCM colCM ddCM m0CM m1CM m2CM m3CM m5CM "ValueError.__new__"))
    (sCM : PySem.W.findIn K (.ref CM) "__setattr__" = some (some (.builtin "object.__setattr__")))
    (bCM : PySem.W.subIn K (.ref CM) (.type "BaseException") = some true)
    (tCM : PySem.W.typeIn K (.ref CM) = some (.type "type"))
    (kCM : PySem.W.keepIn K (.ref CM) = true)
    (vCM : PySem.W.subIn K (.ref CM) (.type "ValueError") = some true)
    (oCM : PySem.W.mroIn K CM (.ref CM) = some true)
    (jCM : PySem.W.subIn K (.ref CM) (.ref CJ) = some true)
    (nCMwhat : PySem.W.findIn K (.ref CM) "what" = some none)
    (nCMmost : PySem.W.findIn K (.ref CM) "most" = some none)
    (afCM : PySem.W.findIn K (.ref CM) "__init__" = some (some (.ref fCM)))
    (yfCM : PySem.W.typeIn K (.ref fCM) = some (.type "function"))
    (lfCM : K.lookup fCM = some ⟨ocCM, odCM, .func (PySem.W.ksFn "__init__" "TooMany.__init__" (defArgs (inClass (top 11) 0)) (defBody (inClass (top 11) 0)) (defScope (inClass (top 11) 0)) .none kVCM dcCM pmCM anCM (.ref caCM) ctCM ccCM), slCM⟩)
    (cfCM : PySem.W.codeIn K (.ref caCM) "TooMany.__init__" = true)
    (efCM : K.lookup ccCM = some ⟨clCM, cldCM, .cell (some (.ref CM)), cslCM⟩)
    (dfCM : K.lookup caCM = some ⟨cclCM, cddCM, .fields vsCM, ccsCM⟩)
    (pfCM : ∃ (file : Str) (tf : Tok), vsCM[2]? = some (.str file tf) ∧ (l.prog.main.file == file) = true)
    (iCN : PySem.W.isClsIn K CN = true)
    (hCN : PySem.W.hasDictIn K CN = true)
    (gaCN : PySem.W.findIn K (.ref CN) "__getattribute__" = some (some (.builtin "BaseException.__getattribute__")))
    (ggCN : PySem.W.findIn K (.ref CN) "__getattr__" = some none)
    (iCW : PySem.W.isClsIn K CW = true)
    (hCW : PySem.W.hasDictIn K CW = true)
    (gaCW : PySem.W.findIn K (.ref CW) "__getattribute__" = some (some (.builtin "BaseException.__getattribute__")))
    (ggCW : PySem.W.findIn K (.ref CW) "__getattr__" = some none)
    (iCB : PySem.W.isClsIn K CB = true)
    (hCB : PySem.W.hasDictIn K CB = true)
    (gaCB : PySem.W.findIn K (.ref CB) "__getattribute__" = some (some (.builtin "BaseException.__getattribute__")))
    (ggCB : PySem.W.findIn K (.ref CB) "__getattr__" = some none)
    (sCWCW : PySem.W.subIn K (.ref CW) (.ref CW) = some true)
    (sCNCW : PySem.W.subIn K (.ref CN) (.ref CW) = some false)
    (sCNCN : PySem.W.subIn K (.ref CN) (.ref CN) = some true)
    (sCBCW : PySem.W.subIn K (.ref CB) (.ref CW) = some false)
    (sCBCB : PySem.W.subIn K (.ref CB) (.ref CB) = some true)
    (z_isinstance : PySem.W.nsIn K mainGlobals "isinstance" = some none)
    (z_int : PySem.W.nsIn K mainGlobals "int" = some none)
    (z_bool : PySem.W.nsIn K mainGlobals "bool" = some none)
    (z_list : PySem.W.nsIn K mainGlobals "list" = some none)
    (z_tuple : PySem.W.nsIn K mainGlobals "tuple" = some none)
    (z_len : PySem.W.nsIn K mainGlobals "len" = some none)
    (z_zip : PySem.W.nsIn K mainGlobals "zip" = some none)
    (z_range : PySem.W.nsIn K mainGlobals "range" = some none)
    (z_sum : PySem.W.nsIn K mainGlobals "sum" = some none)
    (z_sorted : PySem.W.nsIn K mainGlobals "sorted" = some none)
    (z_min : PySem.W.nsIn K mainGlobals "min" = some none)
    (z_abs : PySem.W.nsIn K mainGlobals "abs" = some none)
    (z_enumerate : PySem.W.nsIn K mainGlobals "enumerate" = some none)
    (z_all : PySem.W.nsIn K mainGlobals "all" = some none)
    (z_set : PySem.W.nsIn K mainGlobals "set" = some none)
    (z_str : PySem.W.nsIn K mainGlobals "str" = some none)
    (z_max : PySem.W.nsIn K mainGlobals "max" = some none)
    (z_super : PySem.W.nsIn K mainGlobals "super" = some none)
    (gMOST_PLACES : PySem.W.nsIn K mainGlobals "MOST_PLACES" = some (some (.int 600 tMOST_PLACES)))
    (gMOST_ROWS : PySem.W.nsIn K mainGlobals "MOST_ROWS" = some (some (.int 1000 tMOST_ROWS)))
    (gMOST_RELATIONS : PySem.W.nsIn K mainGlobals "MOST_RELATIONS" = some (some (.int 80 tMOST_RELATIONS)))
    (gMOST_LENGTH : PySem.W.nsIn K mainGlobals "MOST_LENGTH" = some (some (.int 8 tMOST_LENGTH)))
    (gMOST_LETTERS : PySem.W.nsIn K mainGlobals "MOST_LETTERS" = some (some (.int 16 tMOST_LETTERS)))
    : ∃ fd : FuncData, (∀ (s : Shared) (v : Value), BindsTo s fd ⟨[v], []⟩ [("script", v)]) ∧ ∀ base : Heap, K.In base → base.Ns mainGlobals mg → FnOk l.prog w K mg base (L2.CX l.prog w) 8 fa fd ["script"] (spD K tLaw) := by
  have e := hfa.symm.trans (PySem.W.mg_of X G a19)
  cases e
  have F0 := fun_mk (st := s_is_integer) l0 c0 k0
  have F1 := fun_mk (st := s_is_within) l1 c1 k1
  have F2 := fun_mk (st := s_is_row) l2 c2 k2
  have F3 := fun_mk (st := s_is_code) l3 c3 k3
  have F4 := fun_mk (st := s_are_lengths) l4 c4 k4
  have F5 := fun_mk (st := s_are_rows) l5 c5 k5
  have F6 := fun_mk (st := s_moved) l6 c6 k6
  have F7 := fun_mk (st := s_renamed) l7 c7 k7
  have F8 := fun_mk (st := s_part_of) l8 c8 k8
  have F9 := fun_mk (st := s_is_two_way) l9 c9 k9
  have F10 := fun_mk (st := s_law_well) l10 c10 k10
  have F11 := fun_mk (st := s_law_draw) l11 c11 k11
  have F12 := fun_mk (st := s_law_one_of) l12 c12 k12
  have F13 := fun_mk (st := s_law_told) l13 c13 k13
  have F14 := fun_mk (st := s_law_lengths) l14 c14 k14
  have F15 := fun_mk (st := s_law_spoiled) l15 c15 k15
  have F16 := fun_mk (st := s_law_parts) l16 c16 k16
  have F17 := fun_mk (st := s_law_is_number) l17 c17 k17
  have F18 := fun_mk (st := s_law_are_checked) l18 c18 k18
  have F19 := fun_mk (st := s_law) l19 c19 k19
  have F60 := fun_mk (st := s_init) l60 c60 k60
  have F61 := fun_mk (st := s_len) l61 c61 k61
  have F62 := fun_mk (st := s_eq) l62 c62 k62
  have b0 := F0.binds (ps := ["value"]) fun _ _ _ _ _ _ us hl => match us, hl with | [_], _ => rfl
  have b1 := F1.binds (ps := ["value", "least", "most"]) fun _ _ _ _ _ _ us hl => match us, hl with | [_, _, _], _ => rfl
  have b2 := F2.binds (ps := ["value", "many", "below"]) fun _ _ _ _ _ _ us hl => match us, hl with | [_, _, _], _ => rfl
  have b3 := F3.binds (ps := ["value"]) fun _ _ _ _ _ _ us hl => match us, hl with | [_], _ => rfl
  have b4 := F4.binds (ps := ["value"]) fun _ _ _ _ _ _ us hl => match us, hl with | [_], _ => rfl
  have b5 := F5.binds (ps := ["lengths", "many", "value"]) fun _ _ _ _ _ _ us hl => match us, hl with | [_, _, _], _ => rfl
  have b6 := F6.binds (ps := ["rows", "names"]) fun _ _ _ _ _ _ us hl => match us, hl with | [_, _], _ => rfl
  have b7 := F7.binds (ps := ["world", "names"]) fun _ _ _ _ _ _ us hl => match us, hl with | [_, _], _ => rfl
  have b8 := F8.binds (ps := ["world", "places"]) fun _ _ _ _ _ _ us hl => match us, hl with | [_, _], _ => rfl
  have b9 := F9.binds (ps := ["world", "other", "value"]) fun _ _ _ _ _ _ us hl => match us, hl with | [_, _, _], _ => rfl
  have b10 := F10.binds (ps := ["script"]) fun _ _ _ _ _ _ us hl => match us, hl with | [_], _ => rfl
  have b11 := F11.binds (ps := ["well", "many"]) fun _ _ _ _ _ _ us hl => match us, hl with | [_, _], _ => rfl
  have b12 := F12.binds (ps := ["well", "some"]) fun _ _ _ _ _ _ us hl => match us, hl with | [_, _], _ => rfl
  have b13 := F13.binds (ps := ["lengths", "many", "rows"]) fun _ _ _ _ _ _ us hl => match us, hl with | [_, _, _], _ => rfl
  have b14 := F14.binds (ps := ["well", "lengths"]) fun _ _ _ _ _ _ us hl => match us, hl with | [_, _], _ => rfl
  have b15 := F15.binds (ps := ["well", "rows", "many"]) fun _ _ _ _ _ _ us hl => match us, hl with | [_, _, _], _ => rfl
  have b16 := F16.binds (ps := ["world", "names"]) fun _ _ _ _ _ _ us hl => match us, hl with | [_, _], _ => rfl
  have b17 := F17.binds (ps := ["value"]) fun _ _ _ _ _ _ us hl => match us, hl with | [_], _ => rfl
  have b18 := F18.binds (ps := ["well"]) fun _ _ _ _ _ _ us hl => match us, hl with | [_], _ => rfl
  have b19 := F19.binds (ps := ["script"]) fun _ _ _ _ _ _ us hl => match us, hl with | [_], _ => rfl
  have b60 := F60.binds (ps := ["self", "lengths", "many", "rows"]) fun _ _ _ _ _ _ us hl => match us, hl with | [_, _, _, _], _ => rfl
  have b61 := F61.binds (ps := ["self"]) fun _ _ _ _ _ _ us hl => match us, hl with | [_], _ => rfl
  have b62 := F62.binds (ps := ["self", "other"]) fun _ _ _ _ _ _ us hl => match us, hl with | [_, _], _ => rfl
  have T : Txt0 K mg := ⟨PySem.W.mg_none_of X G z_isinstance, PySem.W.mg_none_of X G z_int, PySem.W.mg_none_of X G z_bool, PySem.W.mg_none_of X G z_list, PySem.W.mg_none_of X G z_tuple, PySem.W.mg_none_of X G z_len, PySem.W.mg_none_of X G z_zip, PySem.W.mg_none_of X G z_range, PySem.W.mg_none_of X G z_sum, PySem.W.mg_none_of X G z_sorted, PySem.W.mg_none_of X G z_min, PySem.W.mg_none_of X G z_abs, PySem.W.mg_none_of X G z_enumerate⟩
  have TN : TxtN mg := ⟨⟨_, PySem.W.mg_of X G gMOST_PLACES⟩, ⟨_, PySem.W.mg_of X G gMOST_ROWS⟩, ⟨_, PySem.W.mg_of X G gMOST_RELATIONS⟩, ⟨_, PySem.W.mg_of X G gMOST_LENGTH⟩⟩
  have TW : TxtW K C := ⟨⟨pg, hd, po, sa⟩, nl, nm, nr⟩
  have TI : TxtI K mg C := ⟨⟨⟨pg, hd, po, sa⟩, wha, whn, whk, whm⟩, PySem.W.mg_of X G aC, kit_self, fun n hn => by rcases hn with rfl | rfl | rfl | rfl | rfl | rfl | rfl <;> first | exact kit_not wic wty suNoneType | exact kit_not wic wty subool | exact kit_not wic wty suint | exact kit_not wic wty sustr | exact kit_not wic wty sulist | exact kit_not wic wty sutuple | exact kit_not wic wty sudict⟩
  have OCN : OexC K CN := ⟨⟨_, _, _, _, _, _, _, _, _, _, _, _, _, _, _, xCN, (by show HandSPX.refsVE [.type "ValueError", .type "Exception", .type "BaseException", .type "object"] = true; decide +kernel)⟩, sCN, bCN, tCN, kCN⟩
  have SCN : SupTxt l.prog K mg CN fCN caCN ccCN (PySem.W.ksFn "__init__" "BadNumber.__init__" (defArgs (inClass (top 8) 0)) (defBody (inClass (top 8) 0)) (defScope (inClass (top 8) 0)) .none kVCN dcCN pmCN anCN (.ref caCN) ctCN ccCN) := ⟨⟨_, _, _, lfCN⟩, ⟨_, _, _, efCN⟩, (by obtain ⟨file, tf, h1, h2⟩ := pfCN; exact ⟨_, _, _, _, file, tf, dfCN, h1, h2⟩), (by rw [hP]; rfl), PySem.W.mg_none_of X G z_super, any, sup_of xCN xCJ fCJ, vCN, oCN, OCN⟩
  have scCN : SupScope ["self", "part"] (defScope (inClass (top 8) 0)) := sc_CN
  have ECN : ∀ base : Heap, ExcD l.prog w K mg base "BadNumber" CN ["part"] := fun base => ⟨OCN, ⟨fCN, _, ["self", "part"], afCN, yfCN, fun k => init1 SCN cfCN rfl scCN rfl rfl nCNpart (by decide) (by decide), (.all fun us hl => match us, hl with | [_, _], _ => rfl)⟩, PySem.W.mg_of X G aCN⟩
  have OCW : OexC K CW := ⟨⟨_, _, _, _, _, _, _, _, _, _, _, _, _, _, _, xCW, (by show HandSPX.refsVE [.type "ValueError", .type "Exception", .type "BaseException", .type "object"] = true; decide +kernel)⟩, sCW, bCW, tCW, kCW⟩
  have SCW : SupTxt l.prog K mg CW fCW caCW ccCW (PySem.W.ksFn "__init__" "BadWorld.__init__" (defArgs (inClass (top 9) 0)) (defBody (inClass (top 9) 0)) (defScope (inClass (top 9) 0)) .none kVCW dcCW pmCW anCW (.ref caCW) ctCW ccCW) := ⟨⟨_, _, _, lfCW⟩, ⟨_, _, _, efCW⟩, (by obtain ⟨file, tf, h1, h2⟩ := pfCW; exact ⟨_, _, _, _, file, tf, dfCW, h1, h2⟩), (by rw [hP]; rfl), PySem.W.mg_none_of X G z_super, any, sup_of xCW xCJ fCJ, vCW, oCW, OCW⟩
  have scCW : SupScope ["self", "part"] (defScope (inClass (top 9) 0)) := sc_CW
  have ECW : ∀ base : Heap, ExcD l.prog w K mg base "BadWorld" CW ["part"] := fun base => ⟨OCW, ⟨fCW, _, ["self", "part"], afCW, yfCW, fun k => init1 SCW cfCW rfl scCW rfl rfl nCWpart (by decide) (by decide), (.all fun us hl => match us, hl with | [_, _], _ => rfl)⟩, PySem.W.mg_of X G aCW⟩
  have OCB : OexC K CB := ⟨⟨_, _, _, _, _, _, _, _, _, _, _, _, _, _, _, xCB, (by show HandSPX.refsVE [.type "ValueError", .type "Exception", .type "BaseException", .type "object"] = true; decide +kernel)⟩, sCB, bCB, tCB, kCB⟩
  have SCB : SupTxt l.prog K mg CB fCB caCB ccCB (PySem.W.ksFn "__init__" "BadMap.__init__" (defArgs (inClass (top 10) 0)) (defBody (inClass (top 10) 0)) (defScope (inClass (top 10) 0)) .none kVCB dcCB pmCB anCB (.ref caCB) ctCB ccCB) := ⟨⟨_, _, _, lfCB⟩, ⟨_, _, _, efCB⟩, (by obtain ⟨file, tf, h1, h2⟩ := pfCB; exact ⟨_, _, _, _, file, tf, dfCB, h1, h2⟩), (by rw [hP]; rfl), PySem.W.mg_none_of X G z_super, any, sup_of xCB xCJ fCJ, vCB, oCB, OCB⟩
  have scCB : SupScope ["self", "part"] (defScope (inClass (top 10) 0)) := sc_CB
  have ECB : ∀ base : Heap, ExcD l.prog w K mg base "BadMap" CB ["part"] := fun base => ⟨OCB, ⟨fCB, _, ["self", "part"], afCB, yfCB, fun k => init1 SCB cfCB rfl scCB rfl rfl nCBpart (by decide) (by decide), (.all fun us hl => match us, hl with | [_, _], _ => rfl)⟩, PySem.W.mg_of X G aCB⟩
  have OCM : OexC K CM := ⟨⟨_, _, _, _, _, _, _, _, _, _, _, _, _, _, _, xCM, (by show HandSPX.refsVE [.type "ValueError", .type "Exception", .type "BaseException", .type "object"] = true; decide +kernel)⟩, sCM, bCM, tCM, kCM⟩
  have SCM : SupTxt l.prog K mg CM fCM caCM ccCM (PySem.W.ksFn "__init__" "TooMany.__init__" (defArgs (inClass (top 11) 0)) (defBody (inClass (top 11) 0)) (defScope (inClass (top 11) 0)) .none kVCM dcCM pmCM anCM (.ref caCM) ctCM ccCM) := ⟨⟨_, _, _, lfCM⟩, ⟨_, _, _, efCM⟩, (by obtain ⟨file, tf, h1, h2⟩ := pfCM; exact ⟨_, _, _, _, file, tf, dfCM, h1, h2⟩), (by rw [hP]; rfl), PySem.W.mg_none_of X G z_super, any, sup_of xCM xCJ fCJ, vCM, oCM, OCM⟩
  have scCM : SupScope ["self", "what", "most"] (defScope (inClass (top 11) 0)) := sc_CM
  have ECM : ∀ base : Heap, ExcD l.prog w K mg base "TooMany" CM ["what", "most"] := fun base => ⟨OCM, ⟨fCM, _, ["self", "what", "most"], afCM, yfCM, fun k => init2 SCM cfCM rfl scCM rfl rfl nCMwhat nCMmost (by decide) (by decide) (by decide) (by decide), (.all fun us hl => match us, hl with | [_, _, _], _ => rfl)⟩, PySem.W.mg_of X G aCM⟩
  refine ⟨PySem.W.fnOf "law" "law" (defArgs s_law) (defBody s_law) (defScope s_law) .none kV19 dc19 pm19 an19 cd19 ct19, fun s v => .of_eq rfl, fun base _ _ => ?_⟩
  have G0 : Fn l.prog w K mg base "is_integer" 1 ["value"] tIsInteger := ⟨_, _, ok_is_integer F0 T, PySem.W.mg_of X G a0, k0, b0⟩
  have G1 : Fn l.prog w K mg base "is_within" 2 ["value", "least", "most"] tIsWithin := ⟨_, _, ok_is_within F1 T G0, PySem.W.mg_of X G a1, k1, b1⟩
  have G2 : Fn l.prog w K mg base "is_row" 2 ["value", "many", "below"] tIsRow := ⟨_, _, ok_is_row F2 T G0, PySem.W.mg_of X G a2, k2, b2⟩
  have G3 : Fn l.prog w K mg base "is_code" 1 ["value"] tIsCode := ⟨_, _, ok_is_code F3 T ⟨(PySem.W.mg_none_of X G z_str), ⟨_, PySem.W.mg_of X G gMOST_LETTERS⟩⟩, PySem.W.mg_of X G a3, k3, b3⟩
  have G4 : Fn l.prog w K mg base "are_lengths" 3 ["value"] tAreLengths := ⟨_, _, ok_are_lengths F4 T TN G1, PySem.W.mg_of X G a4, k4, b4⟩
  have G5 : Fn l.prog w K mg base "are_rows" 3 ["lengths", "many", "value"] tAreRows := ⟨_, _, ok_are_rows F5 T G2, PySem.W.mg_of X G a5, k5, b5⟩
  have GI := ok_init F60 T TN TW (ECW base) (ECN base) (ECM base) G4 G1 G5
  have IM : InitM l.prog w K mg base C CW CN CM := ⟨PySem.W.mg_of X G aC, _, _, GI, ⟨mk, a60, i60, kc⟩, b60⟩
  have TT : TxtT K mg CW CN CB CJ := ⟨PySem.W.mg_of X G aCW, PySem.W.mg_of X G aCN, PySem.W.mg_of X G aCB, PySem.W.mg_of X G aJ, exm_b bCW iCW tCW sCWCW, exm_b bCW iCW tCW sCNCW, exm_b bCN iCN tCN sCNCN, exm_b bCW iCW tCW sCBCW, exm_b bCB iCB tCB sCBCB, ⟨gaCW, ggCW, bCW, hCW⟩, ⟨gaCN, ggCN, bCN, hCN⟩, ⟨gaCB, ggCB, bCB, hCB⟩, nCWpart, nCNpart, nCBpart⟩
  have G6 : Fn l.prog w K mg base "moved" 1 ["rows", "names"] (tMovedX K w) := ⟨_, _, ok_movedX F6 T, PySem.W.mg_of X G a6, k6, b6⟩
  have G7 : Fn l.prog w K mg base "renamed" 6 ["world", "names"] (tRenamed C CW CB) := ⟨_, _, ok_renamed F7 T TW TI (PySem.W.mg_none_of X G z_set) (ECW base) (ECB base) G2 (G6.imp fun _ _ _ _ h => .inl h) IM, PySem.W.mg_of X G a7, k7, b7⟩
  have G8 : Fn l.prog w K mg base "part_of" 6 ["world", "places"] (tPartOf C CW CB) := ⟨_, _, ok_part_of F8 T TW TI (PySem.W.mg_none_of X G z_set) (PySem.W.mg_none_of X G z_all) (ECW base) (ECB base) G2 G6 IM, PySem.W.mg_of X G a8, k8, b8⟩
  have G9 : Fn l.prog w K mg base "is_two_way" 6 ["world", "other", "value"] (tTwoWay C CW) := ⟨_, _, ok_is_two_way F9 T TW TI (PySem.W.mg_none_of X G z_set) (ECW base) G2 (G6.imp fun _ _ _ _ h => .inl h), PySem.W.mg_of X G a9, k9, b9⟩
  have G10 : Fn l.prog w K mg base "_law_well" 1 ["script"] (tWell (K := K)) := ⟨_, _, ok_law_well F10 T, PySem.W.mg_of X G a10, k10, b10⟩
  have G11 : Fn l.prog w K mg base "_law_draw" 1 ["well", "many"] (tDraw (K := K)) := ⟨_, _, ok_law_draw F11 T, PySem.W.mg_of X G a11, k11, b11⟩
  have G12 : Fn l.prog w K mg base "_law_one_of" 2 ["well", "some"] (tOneOf (K := K)) := ⟨_, _, ok_law_one_of F12 T G11, PySem.W.mg_of X G a12, k12, b12⟩
  have G13 : Fn l.prog w K mg base "_law_told" 6 ["lengths", "many", "rows"] tTold := ⟨_, _, ok_law_told F13 TT IM, PySem.W.mg_of X G a13, k13, b13⟩
  have G14 : Fn l.prog w K mg base "_law_lengths" 3 ["well", "lengths"] (tLengths (K := K)) := ⟨_, _, ok_law_lengths F14 T G11 G12, PySem.W.mg_of X G a14, k14, b14⟩
  have G15 : Fn l.prog w K mg base "_law_spoiled" 3 ["well", "rows", "many"] (tSpoiled (K := K)) := ⟨_, _, ok_law_spoiled F15 T G11 G12, PySem.W.mg_of X G a15, k15, b15⟩
  have G16 : Fn l.prog w K mg base "_law_parts" 7 ["world", "names"] (tParts C) := ⟨_, _, ok_law_parts F16 T TT G7 G8 G9, PySem.W.mg_of X G a16, k16, b16⟩
  have G17 : Fn l.prog w K mg base "_law_is_number" 1 ["value"] tIsInteger := ⟨_, _, ok_law_is_number F17 T, PySem.W.mg_of X G a17, k17, b17⟩
  have G18 : Fn l.prog w K mg base "_law_are_checked" 3 ["well"] (tChecked (K := K)) := ⟨_, _, ok_law_are_checked F18 ⟨T, (PySem.W.mg_none_of X G z_max), G11, G12, G17, G0, G1, G2, G3, ⟨_, _, ok_is_integer F0 T, PySem.W.mg_of X G a0, k0, kb_is_integer F0⟩, ⟨_, _, ok_is_within F1 T G0, PySem.W.mg_of X G a1, k1, kb_is_within F1⟩, ⟨_, _, ok_is_row F2 T G0, PySem.W.mg_of X G a2, k2, kb_is_row F2⟩, ⟨_, _, ok_is_code F3 T ⟨(PySem.W.mg_none_of X G z_str), ⟨_, PySem.W.mg_of X G gMOST_LETTERS⟩⟩, PySem.W.mg_of X G a3, k3, kb_is_code F3⟩⟩, PySem.W.mg_of X G a18, k18, b18⟩
  exact ok_law (CB := CB) F19 ⟨T, IM, G10, G11, G12, G13, G14, G15, G16, G18⟩
theorem walk {l : PySem.W.OpenLaw} {q : Program} {loose : List Str} {XP : (Str → Option Value) → Heap → Prop} {YP : World → Heap → Prop} {d : DefRec} {K : Params → PySem.W.Frag} (hn : l.most = some 63) (hdf : d.params.defaults = [])
    (hY : ∀ (w : World) (h : Heap), YP w h → (K w.params).In h)
    (F : ∀ (w : World) (mg : Str → Option Value) (fa : Addr) (h : Heap), (K w.params).In h → h.Ns mainGlobals mg → mg d.name = some (.ref fa) →
      ∃ fd : FuncData, (∀ (s : Shared) (u : Value), BindsTo s fd ⟨[u], []⟩ [("script", u)]) ∧ ∀ base : Heap, (K w.params).In base → base.Ns mainGlobals mg → FnOk l.prog w (K w.params) mg base (L2.CX l.prog w) 8 fa fd ["script"] (spD (K w.params) tLaw)) :
    PySem.W.WalkO q loose XP YP l.row.toRowW d [] (fun f vs => PySem.call f vs) :=
  L2.walk_of (n := 63) (k := 8) (x := "script") (CX := fun w => L2.CX l.prog w) (sp := fun w => spD (K w.params) tLaw) hn (by decide) hdf ⟨rfl, by decide, by decide⟩ hY F (fun _ _ a ns hl _ hS => law_ask hS) fun _ _ _ _ _ ⟨_, _, _, _, _, _, _, _, _, _, _, _, z⟩ => z
end K05
end
open PySem PySem.W PyProof.Rows
set_option maxRecDepth 100000 in
set_option maxHeartbeats 0 in
theorem PySem.Challenge.cw_justthese_k05_worlds_refused_in_order_holds : PySem.Challenge.rw_justthese_k05_worlds_refused_in_order.Holds := by
  w_on; o_law; k_head; (case hw => w_witness2)
  k_fill
  refine K05.walk (l := PySem.Challenge.rw_justthese_k05_worlds_refused_in_order) rfl rfl (fun w h Y => PySem.W.kIn_of Y) ?F
  case F =>
    intro w mg fa h KX G hmg
    refine' K05.all_mk rfl KX G hmg ?aC ?aJ ?aCN ?aCW ?aCB ?aCM ?a0 ?l0 ?c0 ?k0 ?a1 ?l1 ?c1 ?k1 ?a2 ?l2 ?c2 ?k2 ?a3 ?l3 ?c3 ?k3 ?a4 ?l4 ?c4 ?k4 ?a5 ?l5 ?c5 ?k5 ?a6 ?l6 ?c6 ?k6 ?a7 ?l7 ?c7 ?k7 ?a8 ?l8 ?c8 ?k8 ?a9 ?l9 ?c9 ?k9 ?a10 ?l10 ?c10 ?k10 ?a11 ?l11 ?c11 ?k11 ?a12 ?l12 ?c12 ?k12 ?a13 ?l13 ?c13 ?k13 ?a14 ?l14 ?c14 ?k14 ?a15 ?l15 ?c15 ?k15 ?a16 ?l16 ?c16 ?k16 ?a17 ?l17 ?c17 ?k17 ?a18 ?l18 ?c18 ?k18 ?a19 ?l19 ?c19 ?k19 ?a60 ?i60 ?l60 ?c60 ?k60 ?a61 ?i61 ?l61 ?c61 ?k61 ?a62 ?i62 ?l62 ?c62 ?k62 ?pg ?hd ?po ?sa ?mk ?kc ?nl ?nm ?nr ?wha ?whn ?whk ?whm ?wic ?wty ?nfNoneType ?suNoneType ?nfbool ?subool ?nfint ?suint ?nfstr ?sustr ?nflist ?sulist ?nftuple ?sutuple ?nfdict ?sudict ?nfC ?xCJ ?fCJ ?bCJ ?iCJ ?tCJ ?any ?xCN ?sCN ?bCN ?tCN ?kCN ?vCN ?oCN ?jCN ?nCNpart ?afCN ?yfCN ?lfCN ?cfCN ?efCN ?dfCN ?pfCN ?xCW ?sCW ?bCW ?tCW ?kCW ?vCW ?oCW ?jCW ?nCWpart ?afCW ?yfCW ?lfCW ?cfCW ?efCW ?dfCW ?pfCW ?xCB ?sCB ?bCB ?tCB ?kCB ?vCB ?oCB ?jCB ?nCBpart ?afCB ?yfCB ?lfCB ?cfCB ?efCB ?dfCB ?pfCB ?xCM ?sCM ?bCM ?tCM ?kCM ?vCM ?oCM ?jCM ?nCMwhat ?nCMmost ?afCM ?yfCM ?lfCM ?cfCM ?efCM ?dfCM ?pfCM ?iCN ?hCN ?gaCN ?ggCN ?iCW ?hCW ?gaCW ?ggCW ?iCB ?hCB ?gaCB ?ggCB ?sCWCW ?sCNCW ?sCNCN ?sCBCW ?sCBCB ?z_isinstance ?z_int ?z_bool ?z_list ?z_tuple ?z_len ?z_zip ?z_range ?z_sum ?z_sorted ?z_min ?z_abs ?z_enumerate ?z_all ?z_set ?z_str ?z_max ?z_super ?gMOST_PLACES ?gMOST_ROWS ?gMOST_RELATIONS ?gMOST_LENGTH ?gMOST_LETTERS
    (case aC => k_is)
    (case aJ => k_is)
    (case aCN => k_is)
    (case aCW => k_is)
    (case aCB => k_is)
    (case aCM => k_is)
    (case a0 => k_is)
    (case l0 => k_is)
    (case c0 => k_is)
    (case k0 => k_is)
    (case a1 => k_is)
    (case l1 => k_is)
    (case c1 => k_is)
    (case k1 => k_is)
    (case a2 => k_is)
    (case l2 => k_is)
    (case c2 => k_is)
    (case k2 => k_is)
    (case a3 => k_is)
    (case l3 => k_is)
    (case c3 => k_is)
    (case k3 => k_is)
    (case a4 => k_is)
    (case l4 => k_is)
    (case c4 => k_is)
    (case k4 => k_is)
    (case a5 => k_is)
    (case l5 => k_is)
    (case c5 => k_is)
    (case k5 => k_is)
    (case a6 => k_is)
    (case l6 => k_is)
    (case c6 => k_is)
    (case k6 => k_is)
    (case a7 => k_is)
    (case l7 => k_is)
    (case c7 => k_is)
    (case k7 => k_is)
    (case a8 => k_is)
    (case l8 => k_is)
    (case c8 => k_is)
    (case k8 => k_is)
    (case a9 => k_is)
    (case l9 => k_is)
    (case c9 => k_is)
    (case k9 => k_is)
    (case a10 => k_is)
    (case l10 => k_is)
    (case c10 => k_is)
    (case k10 => k_is)
    (case a11 => k_is)
    (case l11 => k_is)
    (case c11 => k_is)
    (case k11 => k_is)
    (case a12 => k_is)
    (case l12 => k_is)
    (case c12 => k_is)
    (case k12 => k_is)
    (case a13 => k_is)
    (case l13 => k_is)
    (case c13 => k_is)
    (case k13 => k_is)
    (case a14 => k_is)
    (case l14 => k_is)
    (case c14 => k_is)
    (case k14 => k_is)
    (case a15 => k_is)
    (case l15 => k_is)
    (case c15 => k_is)
    (case k15 => k_is)
    (case a16 => k_is)
    (case l16 => k_is)
    (case c16 => k_is)
    (case k16 => k_is)
    (case a17 => k_is)
    (case l17 => k_is)
    (case c17 => k_is)
    (case k17 => k_is)
    (case a18 => k_is)
    (case l18 => k_is)
    (case c18 => k_is)
    (case k18 => k_is)
    (case a19 => k_is)
    (case l19 => k_is)
    (case c19 => k_is)
    (case k19 => k_is)
    (case a60 => k_is)
    (case i60 => k_is)
    (case l60 => k_is)
    (case c60 => k_is)
    (case k60 => k_is)
    (case a61 => k_is)
    (case i61 => k_is)
    (case l61 => k_is)
    (case c61 => k_is)
    (case k61 => k_is)
    (case a62 => k_is)
    (case i62 => k_is)
    (case l62 => k_is)
    (case c62 => k_is)
    (case k62 => k_is)
    (case pg => k_is)
    (case hd => k_is)
    (case po => k_is)
    (case sa => k_is)
    (case mk => k_is)
    (case kc => k_is)
    (case nl => k_is)
    (case nm => k_is)
    (case nr => k_is)
    (case wha => k_is)
    (case whn => k_is)
    (case whk => k_is)
    (case whm => k_is)
    (case wic => k_is)
    (case wty => k_is)
    (case nfNoneType => k_is)
    (case suNoneType => k_is)
    (case nfbool => k_is)
    (case subool => k_is)
    (case nfint => k_is)
    (case suint => k_is)
    (case nfstr => k_is)
    (case sustr => k_is)
    (case nflist => k_is)
    (case sulist => k_is)
    (case nftuple => k_is)
    (case sutuple => k_is)
    (case nfdict => k_is)
    (case sudict => k_is)
    (case nfC => k_is)
    (case xCJ => k_is)
    (case fCJ => k_is)
    (case bCJ => k_is)
    (case iCJ => k_is)
    (case tCJ => k_is)
    (case any => k_is)
    (case xCN => k_is)
    (case sCN => k_is)
    (case bCN => k_is)
    (case tCN => k_is)
    (case kCN => k_is)
    (case vCN => k_is)
    (case oCN => k_is)
    (case jCN => k_is)
    (case nCNpart => k_is)
    (case afCN => k_is)
    (case yfCN => k_is)
    (case lfCN => k_is)
    (case cfCN => k_is)
    (case efCN => k_is)
    (case dfCN => k_is)
    (case pfCN => exact ⟨_, _, rfl, rfl⟩)
    (case xCW => k_is)
    (case sCW => k_is)
    (case bCW => k_is)
    (case tCW => k_is)
    (case kCW => k_is)
    (case vCW => k_is)
    (case oCW => k_is)
    (case jCW => k_is)
    (case nCWpart => k_is)
    (case afCW => k_is)
    (case yfCW => k_is)
    (case lfCW => k_is)
    (case cfCW => k_is)
    (case efCW => k_is)
    (case dfCW => k_is)
    (case pfCW => exact ⟨_, _, rfl, rfl⟩)
    (case xCB => k_is)
    (case sCB => k_is)
    (case bCB => k_is)
    (case tCB => k_is)
    (case kCB => k_is)
    (case vCB => k_is)
    (case oCB => k_is)
    (case jCB => k_is)
    (case nCBpart => k_is)
    (case afCB => k_is)
    (case yfCB => k_is)
    (case lfCB => k_is)
    (case cfCB => k_is)
    (case efCB => k_is)
    (case dfCB => k_is)
    (case pfCB => exact ⟨_, _, rfl, rfl⟩)
    (case xCM => k_is)
    (case sCM => k_is)
    (case bCM => k_is)
    (case tCM => k_is)
    (case kCM => k_is)
    (case vCM => k_is)
    (case oCM => k_is)
    (case jCM => k_is)
    (case nCMwhat => k_is)
    (case nCMmost => k_is)
    (case afCM => k_is)
    (case yfCM => k_is)
    (case lfCM => k_is)
    (case cfCM => k_is)
    (case efCM => k_is)
    (case dfCM => k_is)
    (case pfCM => exact ⟨_, _, rfl, rfl⟩)
    (case iCN => k_is)
    (case hCN => k_is)
    (case gaCN => k_is)
    (case ggCN => k_is)
    (case iCW => k_is)
    (case hCW => k_is)
    (case gaCW => k_is)
    (case ggCW => k_is)
    (case iCB => k_is)
    (case hCB => k_is)
    (case gaCB => k_is)
    (case ggCB => k_is)
    (case sCWCW => k_is)
    (case sCNCW => k_is)
    (case sCNCN => k_is)
    (case sCBCW => k_is)
    (case sCBCB => k_is)
    (case z_isinstance => k_is)
    (case z_int => k_is)
    (case z_bool => k_is)
    (case z_list => k_is)
    (case z_tuple => k_is)
    (case z_len => k_is)
    (case z_zip => k_is)
    (case z_range => k_is)
    (case z_sum => k_is)
    (case z_sorted => k_is)
    (case z_min => k_is)
    (case z_abs => k_is)
    (case z_enumerate => k_is)
    (case z_all => k_is)
    (case z_set => k_is)
    (case z_str => k_is)
    (case z_max => k_is)
    (case z_super => k_is)
    (case gMOST_PLACES => k_is)
    (case gMOST_ROWS => k_is)
    (case gMOST_RELATIONS => k_is)
    (case gMOST_LENGTH => k_is)
    (case gMOST_LETTERS => k_is)
