import PyProof.Rows.All
import HandS.ForMost
import HandS.Exc
import HandS.ExcCtx
import HandS.Wide
import HandS.SortInts
import HandS.WordsExc
import HandS.More
import HandS.EndBits
import PyProof.ReprLen
import HandS.Style
import HandS.Text
import HandS.ExcInit
import HandS.ExcIs
import HandS.ExcField
import HandS.SuiteRaise
import HandS.ExcInitHot
import HandS.RaiseFrom
import KE.KExcSuper
import KE.RegKSuper
import HandS.IsInst
import KE.KExcIs
import PyProof.WalksMore
import PyProof.CollectIter
import HandS.SetFor
import HandS.Deep
import HandS.NoneIn
import HandS.SortKw
import HandS.Dict
import PyProof.LongRange
import HandS.TupSets
import HandS.Conv
import HandS.Star
import KE.DataCmp
import HandS.StrMore
import PySem.Challenge.RW_refold_k29_whole_three_words_suffice
set_option Elab.async false
set_option linter.all false
set_option maxRecDepth 100000
set_option maxHeartbeats 4000000
/-! Vl1: data without addresses; how values hold data; ownership; the state relation. -/
namespace Vl
open PySem L2

/-- a value as data -/
inductive Dt where
  | non | bl (b : Bool) | int (i : Int) | str (x : Str) | lst (xs : List Dt) | tup (xs : List Dt) | raw (v : V) | klst (xs : List Dt)
  /-- an exception of the class at c whose value is d; a thing of which F is told; a dict -/
  | exn (c : Addr) (d : Dt) | obj (F : Addr → Heap → Prop) | dic (ks : List Key) (ds : List Dt)
/-- an exception that was caught, as an object that stands -/
def exF (c dd : Addr) : Addr → Heap → Prop := fun a h => ∃ oe vs, h.get? a = some oe ∧ oe.cls = .ref c ∧ oe.dict = some dd ∧ oe.data = .fields vs
/-- a value without an address -/
def Sc : V → Dt → Prop
  | .non, .non => True
  | .bl a, .bl b => a = b
  | .int a, .int b => a = b
  | .str a, .str b => a = b
  | v, .raw w => v = w
  | _, _ => False

mutual
/-- v holds d in H, for good: nothing of it will be written -/
inductive Rp (K : PySem.W.Frag) (H : Hp) : V → Dt → Prop
  | non : Rp K H .non .non
  | bl (b : Bool) : Rp K H (.bl b) (.bl b)
  | int (i : Int) : Rp K H (.int i) (.int i)
  | str (x : Str) : Rp K H (.str x) (.str x)
  | raw (v : V) : Rp K H v (.raw v)
  | lst {a : Addr} {xs : List V} {ds : List Dt} : H a = some (.lst xs) → RpL K H xs ds → Rp K H (.ref a) (.lst ds)
  | klst {a : Addr} {xs : List V} {ds : List Dt} : SqL K H a xs → RpL K H xs ds → Rp K H (.ref a) (.klst ds)
  | tup {a : Addr} {xs : List V} {ds : List Dt} : SqT K H a xs → RpL K H xs ds → Rp K H (.ref a) (.tup ds)
  | exn {a c dd : Addr} {v : V} {d : Dt} : H a = some (.ext (exF c dd a)) → H dd = some (.xd [("value", v)]) → Sc v d → Rp K H (.ref a) (.exn c d)
  | obj {a : Addr} {F : Addr → Heap → Prop} : H a = some (.ext (F a)) → Rp K H (.ref a) (.obj F)
  | dic {a : Addr} {ks : List Key} {vs : List V} {ds : List Dt} : H a = some (.dK (ks.zip vs)) → ks.length = vs.length → RpL K H vs ds → Rp K H (.ref a) (.dic ks ds)
inductive RpL (K : PySem.W.Frag) (H : Hp) : List V → List Dt → Prop
  | nil : RpL K H [] []
  | cons {v : V} {vs : List V} {d : Dt} {ds : List Dt} : Rp K H v d → RpL K H vs ds → RpL K H (v :: vs) (d :: ds)
end

theorem same_rd {H H' : Hp} (e : Same H H') {a : Addr} {u : HO} (h : Rd H a u) : Rd H' a u := by
  rcases h with h | ⟨o, h⟩
  · exact .inl (e _ _ h)
  · exact .inr ⟨o, e _ _ h⟩
theorem same_sqt {K : PySem.W.Frag} {H H' : Hp} (e : Same H H') {a : Addr} {xs : List V} (h : SqT K H a xs) : SqT K H' a xs := by
  rcases h with h | h
  · exact .inl (same_rd e h)
  · exact .inr h
mutual
theorem Rp.same {K : PySem.W.Frag} {H H' : Hp} (e : Same H H') : ∀ {v : V} {d : Dt}, Rp K H v d → Rp K H' v d
  | _, _, .non => .non
  | _, _, .bl b => .bl b
  | _, _, .int i => .int i
  | _, _, .str x => .str x
  | _, _, .raw v => .raw v
  | _, _, .lst h r => .lst (e _ _ h) (RpL.same e r)
  | _, _, .klst h r => .klst (e.seq h) (RpL.same e r)
  | _, _, .tup h r => .tup (same_sqt e h) (RpL.same e r)
  | _, _, .exn h1 h2 sc => .exn (e _ _ h1) (e _ _ h2) sc
  | _, _, .obj h => .obj (e _ _ h)
  | _, _, .dic h hl r => .dic (e _ _ h) hl (RpL.same e r)
theorem RpL.same {K : PySem.W.Frag} {H H' : Hp} (e : Same H H') : ∀ {vs : List V} {ds : List Dt}, RpL K H vs ds → RpL K H' vs ds
  | _, _, .nil => .nil
  | _, _, .cons h r => .cons (Rp.same e h) (RpL.same e r)
end
section
variable {K : PySem.W.Frag} {H : Hp}
theorem RpL.length : ∀ {vs : List V} {ds : List Dt}, RpL K H vs ds → vs.length = ds.length
  | _, _, .nil => rfl
  | _, _, .cons _ r => by rw [List.length_cons, List.length_cons, r.length]
theorem RpL.append : ∀ {vs ws : List V} {ds es : List Dt}, RpL K H vs ds → RpL K H ws es → RpL K H (vs ++ ws) (ds ++ es)
  | _, _, _, _, .nil, s => s
  | _, _, _, _, .cons h r, s => .cons h (r.append s)
theorem RpL.get : ∀ {vs : List V} {ds : List Dt} {i : Nat} {d : Dt}, RpL K H vs ds → ds[i]? = some d → ∃ v, vs[i]? = some v ∧ Rp K H v d
  | _, _, _, _, .nil, e => by simp at e
  | _, _, 0, _, .cons h _, e => by simp at e; subst e; exact ⟨_, rfl, h⟩
  | _, _, i + 1, d, .cons _ r, e => by
    obtain ⟨v, h1, h2⟩ := RpL.get (i := i) (d := d) r (by simpa using e)
    exact ⟨v, by simpa using h1, h2⟩
theorem RpL.getV : ∀ {vs : List V} {ds : List Dt} {i : Nat} {v : V}, RpL K H vs ds → vs[i]? = some v → ∃ d, ds[i]? = some d ∧ Rp K H v d
  | _, _, _, _, .nil, e => by simp at e
  | _, _, 0, _, .cons h _, e => by simp at e; subst e; exact ⟨_, rfl, h⟩
  | _, _, i + 1, d, .cons _ r, e => by
    obtain ⟨v, h1, h2⟩ := RpL.getV (i := i) (v := d) r (by simpa using e)
    exact ⟨v, by simpa using h1, h2⟩
theorem RpL.take : ∀ {vs : List V} {ds : List Dt} (n : Nat), RpL K H vs ds → RpL K H (vs.take n) (ds.take n)
  | _, _, 0, _ => .nil
  | _, _, _ + 1, .nil => .nil
  | _, _, n + 1, .cons h r => .cons h (r.take n)
theorem RpL.drop : ∀ {vs : List V} {ds : List Dt} (n : Nat), RpL K H vs ds → RpL K H (vs.drop n) (ds.drop n)
  | _, _, 0, r => r
  | _, _, _ + 1, .nil => .nil
  | _, _, n + 1, .cons _ r => r.drop n
theorem RpL.reverse : ∀ {vs : List V} {ds : List Dt}, RpL K H vs ds → RpL K H vs.reverse ds.reverse
  | _, _, .nil => .nil
  | _, _, .cons h r => by
    rw [List.reverse_cons, List.reverse_cons]
    exact (RpL.reverse r).append (.cons h .nil)
theorem RpL.ints : ∀ {vs : List V} {ns : List Int}, RpL K H vs (ns.map .int) → vs = ns.map V.int
  | _, [], .nil => rfl
  | _, n :: ns, .cons h r => by
    cases h
    rw [RpL.ints r]
    rfl
theorem RpL.of_ints : ∀ ns : List Int, RpL K H (ns.map V.int) (ns.map .int)
  | [] => .nil
  | n :: ns => .cons (.int n) (RpL.of_ints ns)
theorem RpL.strs : ∀ {vs : List V} {ns : List Str}, RpL K H vs (ns.map .str) → vs = ns.map V.str
  | _, [], .nil => rfl
  | _, n :: ns, .cons h r => by
    cases h
    rw [RpL.strs r]
    rfl
theorem RpL.bls : ∀ {vs : List V} {ns : List Bool}, RpL K H vs (ns.map .bl) → vs = ns.map V.bl
  | _, [], .nil => rfl
  | _, n :: ns, .cons h r => by
    cases h
    rw [RpL.bls r]
    rfl
end

def scal : Dt → Prop
  | .lst _ => False
  | .tup _ => False
  | .klst _ => False
  | .exn _ _ => False
  | .obj _ => False
  | .dic _ _ => False
  | _ => True
theorem Sc.rp {K : PySem.W.Frag} {H : Hp} : ∀ {v : V} {d : Dt}, Sc v d → Rp K H v d := by
  intro v d h
  cases d with
  | raw w => cases v <;> (cases h; exact .raw _)
  | non => cases v <;> first | exact .non | exact False.elim h
  | bl b => cases v <;> first | (cases h; exact .bl _) | exact False.elim h
  | int b => cases v <;> first | (cases h; exact .int _) | exact False.elim h
  | str b => cases v <;> first | (cases h; exact .str _) | exact False.elim h
  | lst b => cases v <;> exact False.elim h
  | tup b => cases v <;> exact False.elim h
  | klst b => cases v <;> exact False.elim h
  | exn a b => cases v <;> exact False.elim h
  | obj b => cases v <;> exact False.elim h
  | dic a b => cases v <;> exact False.elim h
theorem Rp.sc {K : PySem.W.Frag} {H : Hp} {v : V} {d : Dt} (h : Rp K H v d) (s : scal d) : Sc v d := by
  cases h with
  | non => trivial
  | bl => rfl
  | int => rfl
  | str => rfl
  | raw => cases v <;> rfl
  | lst => exact s.elim
  | tup => exact s.elim
  | klst => exact s.elim
  | exn => exact s.elim
  | obj => exact s.elim
  | dic => exact s.elim
theorem Sc.scal {v : V} {d : Dt} (h : Sc v d) : scal d := by
  cases d <;> first | trivial | (cases v <;> exact h.elim)

/-! ### owned trees -/
inductive OwL (R : V → Dt → List Addr → Prop) : List V → List Dt → List Addr → Prop
  | nil : OwL R [] [] []
  | cons {v : V} {d : Dt} {f : List Addr} {vs : List V} {ds : List Dt} {fs : List Addr} : R v d f → OwL R vs ds fs → OwL R (v :: vs) (d :: ds) (f ++ fs)
def Node (H : Hp) (p : Addr) (vs : List V) (d : Dt) (ds : List Dt) : Prop :=
  (H p = some (.lst vs) ∧ d = .lst ds) ∨ (H p = some (.tup vs) ∧ d = .tup ds) ∨ ∃ ks : List Key, H p = some (.dK (ks.zip vs)) ∧ ks.length = vs.length ∧ d = .dic ks ds
/-- v holds d; the cells of its upper n storeys, f, are the holder's own (in H, not in Hs); below it is there for good (in Hs) -/
def Own (K : PySem.W.Frag) (Hs H : Hp) : Nat → V → Dt → List Addr → Prop
  | 0, v, d, f => f = [] ∧ Rp K Hs v d
  | n + 1, v, d, f => (f = [] ∧ Sc v d) ∨ ∃ p vs ds fs, v = .ref p ∧ Hs p = none ∧ Node H p vs d ds ∧ OwL (Own K Hs H n) vs ds fs ∧ f = p :: fs

theorem OwL.imp {R R' : V → Dt → List Addr → Prop} : ∀ {vs : List V} {ds : List Dt} {fs : List Addr}, OwL R vs ds fs → (∀ v d f, R v d f → (∀ b ∈ f, b ∈ fs) → R' v d f) → OwL R' vs ds fs
  | _, _, _, .nil, _ => .nil
  | _, _, _, .cons h r, g => .cons (g _ _ _ h fun b hb => List.mem_append_left _ hb) (OwL.imp r fun v d f q s => g v d f q fun b hb => List.mem_append_right _ (s b hb))
theorem OwL.length {R : V → Dt → List Addr → Prop} : ∀ {vs : List V} {ds : List Dt} {fs : List Addr}, OwL R vs ds fs → vs.length = ds.length
  | _, _, _, .nil => rfl
  | _, _, _, .cons _ r => by rw [List.length_cons, List.length_cons, r.length]
theorem OwL.append {R : V → Dt → List Addr → Prop} : ∀ {vs ws : List V} {ds es : List Dt} {fs gs : List Addr}, OwL R vs ds fs → OwL R ws es gs → OwL R (vs ++ ws) (ds ++ es) (fs ++ gs)
  | _, _, _, _, _, _, .nil, s => s
  | _, _, _, _, _, _, .cons (f := f) (fs := fs) h r, s => by
    rw [List.append_assoc]
    exact .cons h (r.append s)
theorem OwL.zero {K : PySem.W.Frag} {Hs H : Hp} : ∀ {vs : List V} {ds : List Dt} {fs : List Addr}, OwL (Own K Hs H 0) vs ds fs → fs = [] ∧ RpL K Hs vs ds
  | _, _, _, .nil => ⟨rfl, .nil⟩
  | _, _, _, .cons h r => by
    obtain ⟨e, h1⟩ := h
    obtain ⟨e', r1⟩ := OwL.zero r
    exact ⟨by rw [e, e']; rfl, .cons h1 r1⟩
theorem OwL.of_rp {K : PySem.W.Frag} {Hs H : Hp} : ∀ {vs : List V} {ds : List Dt}, RpL K Hs vs ds → OwL (Own K Hs H 0) vs ds []
  | _, _, .nil => .nil
  | _, _, .cons h r => OwL.cons (f := []) ⟨rfl, h⟩ (OwL.of_rp r)

/-- moved to other heaps: what was there for good stays so, the own cells are as they were -/
theorem Own.move {K : PySem.W.Frag} {Hs H Hs' H' : Hp} (e : Same Hs Hs') : ∀ {n : Nat} {v : V} {d : Dt} {f : List Addr}, Own K Hs H n v d f → (∀ b ∈ f, H' b = H b) → (∀ b ∈ f, Hs b = none → Hs' b = none) → Own K Hs' H' n v d f
  | 0, _, _, _, ⟨e1, h⟩, _, _ => ⟨e1, h.same e⟩
  | n + 1, v, d, f, h, hk, hn => by
    rcases h with h | ⟨p, vs, ds, fs, e1, e2, nd, r, e3⟩
    · exact .inl h
    · subst e3
      refine .inr ⟨p, vs, ds, fs, e1, hn p List.mem_cons_self e2, ?_, r.imp fun v d f q s => ?_, rfl⟩
      · unfold Node
        rw [hk p List.mem_cons_self]
        exact nd
      · exact Own.move e q (fun b hb => hk b (List.mem_cons_of_mem _ (s b hb))) fun b hb => hn b (List.mem_cons_of_mem _ (s b hb))
/-- its cells stand in H and not in Hs -/
theorem Own.cells {K : PySem.W.Frag} {Hs H : Hp} : ∀ {n : Nat} {v : V} {d : Dt} {f : List Addr}, Own K Hs H n v d f → ∀ b ∈ f, Hs b = none ∧ H b ≠ none
  | 0, _, _, _, ⟨e, _⟩, b, hb => by subst e; cases hb
  | n + 1, v, d, f, h, b, hb => by
    rcases h with ⟨e, _⟩ | ⟨p, vs, ds, fs, e1, e2, nd, r, e3⟩
    · subst e; cases hb
    · subst e3
      rcases List.mem_cons.mp hb with rfl | hb
      · refine ⟨e2, fun z => ?_⟩
        rcases nd with ⟨q, _⟩ | ⟨q, _⟩ | ⟨_, q, _⟩ <;> (rw [z] at q; cases q)
      · have all : ∀ {vs : List V} {ds : List Dt} {fs : List Addr}, OwL (Own K Hs H n) vs ds fs → ∀ b ∈ fs, Hs b = none ∧ H b ≠ none := by
          intro vs ds fs r
          induction r with
          | nil => intro b hb; cases hb
          | cons h _ ih =>
            intro b hb
            rcases List.mem_append.mp hb with hb | hb
            · exact Own.cells h b hb
            · exact ih b hb
        exact all r b hb
/-- frozen: Hs with the cells of f -/
def frz (Hs H : Hp) (f : List Addr) : Hp := fun b => if b ∈ f then H b else Hs b
theorem frz_in {Hs H : Hp} {f : List Addr} {b : Addr} (h : b ∈ f) : frz Hs H f b = H b := if_pos h
theorem frz_out {Hs H : Hp} {f : List Addr} {b : Addr} (h : b ∉ f) : frz Hs H f b = Hs b := if_neg h
theorem frz_same {Hs H : Hp} {f : List Addr} (h : ∀ b ∈ f, Hs b = none) : Same Hs (frz Hs H f) := fun b o e => by
  by_cases hb : b ∈ f
  · rw [h b hb] at e; cases e
  · rw [frz_out hb]; exact e
theorem Own.frozen {K : PySem.W.Frag} {Hs H : Hp} {F : List Addr} (hF : ∀ b ∈ F, Hs b = none) : ∀ {n : Nat} {v : V} {d : Dt} {f : List Addr}, Own K Hs H n v d f → (∀ b ∈ f, b ∈ F) → Rp K (frz Hs H F) v d
  | 0, _, _, _, ⟨_, h⟩, _ => h.same (frz_same hF)
  | n + 1, v, d, f, h, hs => by
    rcases h with ⟨_, h⟩ | ⟨p, vs, ds, fs, e1, e2, nd, r, e3⟩
    · exact h.rp
    · subst e3
      subst e1
      have hp : frz Hs H F p = H p := frz_in (hs p List.mem_cons_self)
      have all : ∀ {vs : List V} {ds : List Dt} {fs : List Addr}, OwL (Own K Hs H n) vs ds fs → (∀ b ∈ fs, b ∈ F) → RpL K (frz Hs H F) vs ds := by
        intro vs ds fs r
        induction r with
        | nil => intro _; exact .nil
        | cons h _ ih =>
          intro hs
          exact .cons (Own.frozen hF h fun b hb => hs b (List.mem_append_left _ hb)) (ih fun b hb => hs b (List.mem_append_right _ hb))
      have rr := all r fun b hb => hs b (List.mem_cons_of_mem _ hb)
      rcases nd with ⟨q, e⟩ | ⟨q, e⟩ | ⟨ks, q, hl, e⟩
      · subst e
        exact .lst (by rw [hp]; exact q) rr
      · subst e
        exact .tup (SqT.of (by rw [hp]; exact q)) rr
      · subst e
        exact .dic (by rw [hp]; exact q) hl rr
/-- no storey is left for Hs -/
def closed : Nat → Dt → Prop
  | 0, d => scal d
  | n + 1, .lst ds => ∀ d ∈ ds, closed n d
  | n + 1, .tup ds => ∀ d ∈ ds, closed n d
  | n + 1, .dic _ ds => ∀ d ∈ ds, closed n d
  | _ + 1, _ => True
theorem OwL.mem_imp {R R' : V → Dt → List Addr → Prop} : ∀ {vs : List V} {ds : List Dt} {fs : List Addr}, OwL R vs ds fs → (∀ v d f, d ∈ ds → R v d f → (∀ b ∈ f, b ∈ fs) → R' v d f) → OwL R' vs ds fs
  | _, _, _, .nil, _ => .nil
  | _, _, _, .cons h r, g => .cons (g _ _ _ List.mem_cons_self h fun b hb => List.mem_append_left _ hb) (OwL.mem_imp r fun v d f m q s => g v d f (List.mem_cons_of_mem _ m) q fun b hb => List.mem_append_right _ (s b hb))
/-- what is closed asks nothing of Hs -/
theorem Own.shut {K : PySem.W.Frag} {Hs H Hs' H' : Hp} : ∀ {n : Nat} {v : V} {d : Dt} {f : List Addr}, Own K Hs H n v d f → closed n d → (∀ b ∈ f, H' b = H b) → (∀ b ∈ f, Hs' b = none) → Own K Hs' H' n v d f
  | 0, _, _, _, ⟨e1, h⟩, c, _, _ => ⟨e1, (h.sc c).rp⟩
  | n + 1, v, d, f, h, c, hk, hn => by
    rcases h with h | ⟨p, vs, ds, fs, e1, e2, nd, r, e3⟩
    · exact .inl h
    · subst e3
      have cc : ∀ d ∈ ds, closed n d := by
        rcases nd with ⟨_, e⟩ | ⟨_, e⟩ | ⟨_, _, _, e⟩ <;> (subst e; exact c)
      refine .inr ⟨p, vs, ds, fs, e1, hn p List.mem_cons_self, ?_, r.mem_imp fun v d f m q s => ?_, rfl⟩
      · unfold Node
        rw [hk p List.mem_cons_self]
        exact nd
      · exact Own.shut q (cc d m) (fun b hb => hk b (List.mem_cons_of_mem _ (s b hb))) fun b hb => hn b (List.mem_cons_of_mem _ (s b hb))

/-! ### steps -/
/-- from Hs, H to Hs', H': all that stood stands, but for the cells of vol; Hs grew by new cells alone -/
structure Step (vol : List Addr) (Hs H Hs' H' : Hp) : Prop where
  s1 : Same Hs Hs'
  s2 : ∀ b o, H b = some o → b ∉ vol → H' b = some o
  s3 : ∀ b, Hs' b ≠ none → Hs b ≠ none ∨ H b = none
  s4 : Same Hs' H'
  s5 : ∀ b, H b ≠ none → H' b ≠ none
section
variable {vol : List Addr} {Hs H Hs1 H1 Hs2 H2 : Hp}
theorem Step.refl (h : Same Hs H) : Step vol Hs H Hs H := ⟨Same.refl _, fun _ _ e _ => e, fun _ e => .inl e, h, fun _ e => e⟩
theorem Step.trans (a : Step vol Hs H Hs1 H1) (b : Step vol Hs1 H1 Hs2 H2) : Step vol Hs H Hs2 H2 where
  s1 := a.s1.trans b.s1
  s2 := fun c o e n => b.s2 c o (a.s2 c o e n) n
  s3 := fun c e => by
    rcases b.s3 c e with q | q
    · exact a.s3 c q
    · refine .inr ?_
      cases z : H c with
      | none => rfl
      | some o => exact absurd q (a.s5 c (by rw [z]; simp))
  s4 := b.s4
  s5 := fun c e => b.s5 c (a.s5 c e)
/-- a new cell, not for good -/
theorem Step.new {p : Addr} {o : HO} (h : Same Hs H) (hp : H p = none) : Step vol Hs H Hs (upd H p o) where
  s1 := Same.refl _
  s2 := fun b u e _ => by rw [upd_ne (ne_of_none e hp)]; exact e
  s3 := fun _ e => .inl e
  s4 := fun b u e => by rw [upd_ne (ne_of_none (h b u e) hp)]; exact h b u e
  s5 := fun b e => by
    by_cases q : b = p
    · subst q; rw [upd_same]; simp
    · rw [upd_ne q]; exact e
/-- the cells of f, new, are frozen -/
theorem Step.freeze {f : List Addr} (st : Step vol Hs H Hs1 H1) (hf : ∀ b ∈ f, H b = none) (hn : ∀ b ∈ f, Hs1 b = none) : Step vol Hs H (frz Hs1 H1 f) H1 where
  s1 := st.s1.trans (frz_same hn)
  s2 := st.s2
  s3 := fun b e => by
    by_cases hb : b ∈ f
    · exact .inr (hf b hb)
    · rw [frz_out hb] at e; exact st.s3 b e
  s4 := fun b o e => by
    by_cases hb : b ∈ f
    · rw [frz_in hb] at e; exact e
    · rw [frz_out hb] at e; exact st.s4 b o e
  s5 := st.s5
/-- Hs as it was -/
theorem Step.back (st : Step vol Hs H Hs1 H1) (h : Same Hs H) (hv : ∀ b ∈ vol, Hs b = none) : Step vol Hs H Hs H1 where
  s1 := Same.refl _
  s2 := st.s2
  s3 := fun _ e => .inl e
  s4 := fun b o e => st.s2 b o (h b o e) fun z => by rw [hv b z] at e; cases e
  s5 := st.s5
theorem Own.step {K : PySem.W.Frag} {n : Nat} {v : V} {d : Dt} {f : List Addr} (st : Step vol Hs H Hs1 H1) (o : Own K Hs H n v d f) (hv : ∀ b ∈ f, b ∉ vol) : Own K Hs1 H1 n v d f := by
  refine o.move st.s1 (fun b hb => ?_) fun b hb _ => ?_
  · obtain ⟨_, q⟩ := o.cells b hb
    cases e : H b with
    | none => exact absurd e q
    | some u => exact st.s2 b u e (hv b hb)
  · obtain ⟨q1, q2⟩ := o.cells b hb
    cases e : Hs1 b with
    | none => rfl
    | some u =>
      rcases st.s3 b (by rw [e]; simp) with z | z
      · exact absurd q1 z
      · exact absurd z q2
end
end Vl

/-! Vl2: the state relation and the judgements over data. -/
namespace Vl
open PySem L2

abbrev Env := List (Option Dt)
/-- cells that expressions may write (a source of draws), and what is told of them -/
structure Vo (G : Type) where
  vol : List Addr
  P : G → Hp → Prop
  dep : ∀ g H H', P g H → (∀ b ∈ vol, H' b = H b) → P g H'
  trk : ∀ g H, P g H → ∀ b ∈ vol, H b ≠ none
/-- no such cells -/
def vo0 : Vo Unit := ⟨[], fun _ _ => True, fun _ _ _ _ _ => trivial, fun _ _ _ _ h => by cases h⟩

/-- an exception's dict: a value, and nothing of the persistent part -/
def XdAt (Hs H : Hp) (x : Addr) (v : V) : Prop := H x = some (.xd [("value", v)]) ∧ Hs x = none
theorem XdAt.back {Hs Hs' H : Hp} {x : Addr} {v : V} (h : XdAt Hs' H x v) (s : Same Hs Hs') : XdAt Hs H x v := ⟨h.1, by
  cases z : Hs x with
  | none => rfl
  | some o => have q := s x o z; rw [h.2] at q; cases q⟩
structure SR (K : PySem.W.Frag) (M : Nat → Nat) (vol : List Addr) (Hs0 H0 Hs H : Hp) (σ : St) (env : Env) (fp : Nat → List Addr) : Prop where
  st : Step vol Hs0 H0 Hs H
  at' : ∀ i d, env[i]? = some (some d) → ∃ v, σ[i]? = some (some v) ∧ Own K Hs H (M i) v d (fp i)
  nd : ∀ i, (fp i).Nodup
  dj : ∀ i j b, b ∈ fp i → b ∈ fp j → i = j
  nw : ∀ i b, b ∈ fp i → H0 b = none
  ct : ∀ i b, b ∈ fp i → Hs b = none ∧ H b ≠ none
  hv : ∀ b ∈ vol, H0 b ≠ none ∧ Hs b = none
  len : env.length = σ.length

section
variable {K : PySem.W.Frag} {M : Nat → Nat} {vol : List Addr} {Hs0 H0 Hs H Hs1 H1 : Hp} {σ : St} {env : Env} {fp : Nat → List Addr}
theorem SR.nvol (R : SR K M vol Hs0 H0 Hs H σ env fp) {i : Nat} {b : Addr} (h : b ∈ fp i) : b ∉ vol := fun z => (R.hv b z).1 (R.nw i b h)
theorem SR.step (R : SR K M vol Hs0 H0 Hs H σ env fp) (s : Step vol Hs H Hs1 H1) : SR K M vol Hs0 H0 Hs1 H1 σ env fp where
  st := R.st.trans s
  at' := fun i d e => by
    obtain ⟨v, e1, o⟩ := R.at' i d e
    exact ⟨v, e1, o.step s fun b hb => R.nvol hb⟩
  nd := R.nd
  dj := R.dj
  nw := R.nw
  ct := fun i b hb => by
    obtain ⟨h1, h2⟩ := R.ct i b hb
    refine ⟨?_, s.s5 b h2⟩
    cases e : Hs1 b with
    | none => rfl
    | some o =>
      rcases s.s3 b (by rw [e]; simp) with z | z
      · exact absurd h1 z
      · exact absurd z h2
  hv := fun b hb => by
    obtain ⟨h1, h2⟩ := R.hv b hb
    refine ⟨h1, ?_⟩
    cases e : Hs1 b with
    | none => rfl
    | some o =>
      rcases s.s3 b (by rw [e]; simp) with z | z
      · exact absurd h2 z
      · exact absurd z (R.st.s5 b h1)
  len := R.len
theorem SR.hs (R : SR K M vol Hs0 H0 Hs H σ env fp) : Same Hs H := R.st.s4
theorem SR.val (R : SR K M vol Hs0 H0 Hs H σ env fp) {i : Nat} {d : Dt} (hm : M i = 0) (e : env[i]? = some (some d)) : ∃ v, σ[i]? = some (some v) ∧ Rp K Hs v d := by
  obtain ⟨v, e1, o⟩ := R.at' i d e
  rw [hm] at o
  exact ⟨v, e1, o.2⟩
/-- the pure step is a step -/
theorem Step.mono (s : Step [] Hs H Hs1 H1) : Step vol Hs H Hs1 H1 := ⟨s.s1, fun b o e _ => s.s2 b o e (by simp), s.s3, s.s4, s.s5⟩
theorem Step.keeps (s : Step [] Hs H Hs1 H1) {b : Addr} (h : H b ≠ none) : H1 b = H b := by
  cases e : H b with
  | none => exact absurd e h
  | some o => exact s.s2 b o e (by simp)
/-- a name is given a value -/
def setf (fp : Nat → List Addr) (i : Nat) (f : List Addr) : Nat → List Addr := fun j => if j = i then f else fp j
theorem setf_same {i : Nat} {f : List Addr} : setf fp i f i = f := if_pos rfl
theorem setf_ne {i j : Nat} {f : List Addr} (h : j ≠ i) : setf fp i f j = fp j := if_neg h
theorem SR.set (R : SR K M vol Hs0 H0 Hs H σ env fp) {i : Nat} {v : V} {d : Dt} {f : List Addr} (o : Own K Hs H (M i) v d f) (nd : f.Nodup) (nw : ∀ b ∈ f, H0 b = none) (ap : ∀ j, j ≠ i → ∀ b ∈ f, b ∉ fp j) :
    SR K M vol Hs0 H0 Hs H (σ.set i (some v)) (env.set i (some d)) (setf fp i f) where
  st := R.st
  at' := fun j e h => by
    by_cases hj : j = i
    · subst hj
      have hl : j < env.length := by
        have q := (List.getElem?_eq_some_iff.mp h).1
        rw [List.length_set] at q
        exact q
      rw [List.getElem?_set_self hl] at h
      cases h
      refine ⟨v, ?_, ?_⟩
      · rw [List.getElem?_set_self (by rw [← R.len]; exact hl)]
      · rw [setf_same]; exact o
    · rw [List.getElem?_set_ne (Ne.symm hj)] at h
      obtain ⟨u, e1, o1⟩ := R.at' j e h
      refine ⟨u, ?_, ?_⟩
      · rw [List.getElem?_set_ne (Ne.symm hj)]; exact e1
      · rw [setf_ne hj]; exact o1
  nd := fun j => by
    by_cases hj : j = i
    · subst hj; rw [setf_same]; exact nd
    · rw [setf_ne hj]; exact R.nd j
  dj := fun j k b h1 h2 => by
    by_cases hj : j = i
    · by_cases hk : k = i
      · rw [hj, hk]
      · rw [hj, setf_same] at h1
        rw [setf_ne hk] at h2
        exact absurd h2 (ap k hk b h1)
    · by_cases hk : k = i
      · rw [hk, setf_same] at h2
        rw [setf_ne hj] at h1
        exact absurd h1 (ap j hj b h2)
      · rw [setf_ne hj] at h1
        rw [setf_ne hk] at h2
        exact R.dj j k b h1 h2
  nw := fun j b hb => by
    by_cases hj : j = i
    · subst hj; rw [setf_same] at hb; exact nw b hb
    · rw [setf_ne hj] at hb; exact R.nw j b hb
  ct := fun j b hb => by
    by_cases hj : j = i
    · subst hj; rw [setf_same] at hb; exact o.cells b hb
    · rw [setf_ne hj] at hb; exact R.ct j b hb
  hv := R.hv
  len := by rw [List.length_set, List.length_set]; exact R.len
/-- a value whose cells are new -/
theorem SR.setNew (R : SR K M vol Hs0 H0 Hs H σ env fp) {i : Nat} {v : V} {d : Dt} {f : List Addr} {Hb H1 Hs1 : Hp} (s : Step vol Hs H Hs1 H1) (o : Own K Hs1 H1 (M i) v d f) (nd : f.Nodup) (nw : ∀ b ∈ f, H b = none) :
    SR K M vol Hs0 H0 Hs1 H1 (σ.set i (some v)) (env.set i (some d)) (setf fp i f) := by
  refine (R.step s).set o nd (fun b hb => ?_) fun j _ b hb z => ?_
  · cases e : H0 b with
    | none => rfl
    | some u => exact absurd (nw b hb) (R.st.s5 b (by rw [e]; simp))
  · exact absurd (nw b hb) (R.ct j b z).2
/-- a persistent value -/
theorem SR.setP (R : SR K M vol Hs0 H0 Hs H σ env fp) {i : Nat} {v : V} {d : Dt} (hm : M i = 0) (r : Rp K Hs v d) :
    SR K M vol Hs0 H0 Hs H (σ.set i (some v)) (env.set i (some d)) (setf fp i []) :=
  R.set (by rw [hm]; exact ⟨rfl, r⟩) List.nodup_nil (fun _ h => by cases h) fun _ _ _ h => by cases h
/-- forgetting -/
theorem SR.weak (R : SR K M vol Hs0 H0 Hs H σ env fp) {env' : Env} {σ' : St} (hl : env'.length = σ'.length) (h : ∀ (i : Nat) (d : Dt), env'[i]? = some (some d) → env[i]? = some (some d) ∧ σ'[i]? = σ[i]?) :
    SR K M vol Hs0 H0 Hs H σ' env' fp :=
  ⟨R.st, fun i d e => by
    obtain ⟨e1, e2⟩ := h i d e
    obtain ⟨v, e3, o⟩ := R.at' i d e1
    exact ⟨v, by rw [e2]; exact e3, o⟩, R.nd, R.dj, R.nw, R.ct, R.hv, hl⟩
/-- the modes of the names of I are nought -/
def thaw (M : Nat → Nat) (I : List Nat) : Nat → Nat := fun i => if i ∈ I then 0 else M i
def cellsOf (fp : Nat → List Addr) (I : List Nat) : List Addr := I.flatMap fp
theorem SR.freeze (R : SR K M vol Hs0 H0 Hs H σ env fp) (I : List Nat) : SR K (thaw M I) vol Hs0 H0 (frz Hs H (cellsOf fp I)) H σ env (fun i => if i ∈ I then [] else fp i) := by
  have hin : ∀ b ∈ cellsOf fp I, ∃ i ∈ I, b ∈ fp i := fun b hb => List.mem_flatMap.mp hb
  have hF : ∀ b ∈ cellsOf fp I, Hs b = none := fun b hb => let ⟨i, _, h⟩ := hin b hb; (R.ct i b h).1
  have hnw : ∀ b ∈ cellsOf fp I, H0 b = none := fun b hb => let ⟨i, _, h⟩ := hin b hb; R.nw i b h
  refine ⟨R.st.freeze hnw hF, fun i d e => ?_, fun i => ?_, fun i j b h1 h2 => ?_, fun i b hb => ?_, fun i b hb => ?_, fun b hb => ?_, R.len⟩
  · obtain ⟨v, e1, o⟩ := R.at' i d e
    refine ⟨v, e1, ?_⟩
    by_cases hi : i ∈ I
    · rw [show thaw M I i = 0 from if_pos hi, if_pos hi]
      exact ⟨rfl, o.frozen hF fun b hb => List.mem_flatMap.mpr ⟨i, hi, hb⟩⟩
    · rw [show thaw M I i = M i from if_neg hi, if_neg hi]
      refine o.move (frz_same hF) (fun _ _ => rfl) fun b hb e => ?_
      rw [frz_out fun z => ?_]
      · exact e
      · obtain ⟨j, hj, hb'⟩ := hin b z
        exact hi (R.dj i j b hb hb' ▸ hj)
  · split
    · exact List.nodup_nil
    · exact R.nd i
  · split at h1
    · cases h1
    · split at h2
      · cases h2
      · exact R.dj i j b h1 h2
  · split at hb
    · cases hb
    · exact R.nw i b hb
  · split at hb
    · cases hb
    · rename_i hi
      obtain ⟨h1, h2⟩ := R.ct i b hb
      refine ⟨?_, h2⟩
      rw [frz_out fun z => ?_]
      · exact h1
      · obtain ⟨j, hj, hb'⟩ := hin b z
        exact hi (R.dj i j b hb hb' ▸ hj)
  · obtain ⟨h1, h2⟩ := R.hv b hb
    refine ⟨h1, ?_⟩
    rw [frz_out fun z => h1 (hnw b z)]
    exact h2
end

/-! ### the judgements -/
abbrev KD (G : Type) := Dt → G → Prop
abbrev XD (G : Type) := Addr → Dt → G → Prop
abbrev WE (G : Type) := Env → G → KD G → XD G → Prop
abbrev WA (G : Type) := Env → G → (List Dt → G → Prop) → XD G → Prop
abbrev WT (G : Type) := Env → G → (Bool → G → Prop) → XD G → Prop
structure DEnds (G : Type) where
  nx : Env → G → Prop
  rt : Dt → G → Prop
  bk : Env → G → Prop := fun _ _ => False
  ct : Env → G → Prop := fun _ _ => False
  ex : Addr → Dt → Env → G → Prop := fun _ _ _ _ => False
abbrev WS (G : Type) := DEnds G → Env → G → Prop

section
variable {G : Type}
def GoE (K : PySem.W.Frag) (Z : Vo G) (n : Nat) (Hs H : Hp) (Q : VK) (Qd : KD G) : Prop :=
  ∀ d g v Hs' H' f, Qd d g → Step Z.vol Hs H Hs' H' → Own K Hs' H' n v d f → f.Nodup → (∀ b ∈ f, H b = none) → Z.P g H' → Q v H'
def GoX (Z : Vo G) (W : WX) (Hs H : Hp) (σ : St) (Ed : XD G) : Prop :=
  ∀ c d g v x Hs' H', Ed c d g → Step Z.vol Hs H Hs' H' → H x = none → XdAt Hs' H' x v → Sc v d → Z.P g H' → W (.ref c) (some x) σ H'
def DE (X : Cx) (Z : Vo G) (W : WX) (M : Nat → Nat) (n : Nat) (e : Expr) (w : WE G) : Prop :=
  ∃ t, PE X e t ∧ ∀ {Hs0 H0 Hs H : Hp} {σ : St} {env : Env} {fp : Nat → List Addr} {g : G} {Q : VK} {Qd : KD G} {Ed : XD G},
    SR X.K M Z.vol Hs0 H0 Hs H σ env fp → Z.P g H → w env g Qd Ed → GoE X.K Z n Hs H Q Qd → GoX Z W Hs H σ Ed → t σ H Q
def DT (X : Cx) (Z : Vo G) (W : WX) (M : Nat → Nat) (e : Expr) (w : WT G) : Prop :=
  ∃ t, PT X e t ∧ ∀ {Hs0 H0 Hs H : Hp} {σ : St} {env : Env} {fp : Nat → List Addr} {g : G} {Q : Bool → Hp → Prop} {Qd : Bool → G → Prop} {Ed : XD G},
    SR X.K M Z.vol Hs0 H0 Hs H σ env fp → Z.P g H → w env g Qd Ed → (∀ b g Hs' H', Qd b g → Step Z.vol Hs H Hs' H' → Z.P g H' → Q b H') → GoX Z W Hs H σ Ed → t σ H Q
def DW (X : Cx) (Z : Vo G) (W : WX) (M : Nat → Nat) (e : Expr) (w : WT G) : Prop :=
  ∃ t, PW X e t ∧ ∀ {Hs0 H0 Hs H : Hp} {σ : St} {env : Env} {fp : Nat → List Addr} {g : G} {Q : Bool → Hp → Prop} {Qd : Bool → G → Prop} {Ed : XD G},
    SR X.K M Z.vol Hs0 H0 Hs H σ env fp → Z.P g H → w env g Qd Ed → (∀ b g Hs' H', Qd b g → Step Z.vol Hs H Hs' H' → Z.P g H' → Q b H') → GoX Z W Hs H σ Ed → t σ H Q
/-- arguments: for good, each of them -/
def DA (X : Cx) (Z : Vo G) (W : WX) (M : Nat → Nat) (es : List Expr) (w : WA G) : Prop :=
  ∃ t, PA X es t ∧ ∀ {Hs0 H0 Hs H : Hp} {σ : St} {env : Env} {fp : Nat → List Addr} {g : G} {Q : List V → Hp → Prop} {Qd : List Dt → G → Prop} {Ed : XD G},
    SR X.K M Z.vol Hs0 H0 Hs H σ env fp → Z.P g H → w env g Qd Ed → (∀ ds g vs Hs' H', Qd ds g → Step Z.vol Hs H Hs' H' → RpL X.K Hs' vs ds → Z.P g H' → Q vs H') → GoX Z W Hs H σ Ed → t σ H Q
structure GoS (K : PySem.W.Frag) (Z : Vo G) (M : Nat → Nat) (nr : Nat) (W : WX) (Hs0 H0 : Hp) (Dd : DEnds G) (D : Ends) : Prop where
  nx : ∀ {env g Hs H σ fp}, Dd.nx env g → SR K M Z.vol Hs0 H0 Hs H σ env fp → Z.P g H → D.nx σ H
  bk : ∀ {env g Hs H σ fp}, Dd.bk env g → SR K M Z.vol Hs0 H0 Hs H σ env fp → Z.P g H → D.bk σ H
  ct : ∀ {env g Hs H σ fp}, Dd.ct env g → SR K M Z.vol Hs0 H0 Hs H σ env fp → Z.P g H → D.ct σ H
  rt : ∀ {d g v Hs H f}, Dd.rt d g → Step Z.vol Hs0 H0 Hs H → Own K Hs H nr v d f → f.Nodup → (∀ b ∈ f, H0 b = none) → Z.P g H → D.rt v H
  ex : ∀ {c d env g v x Hs H σ fp}, Dd.ex c d env g → SR K M Z.vol Hs0 H0 Hs H σ env fp → Z.P g H → XdAt Hs H x v → Sc v d → H0 x = none → W (.ref c) (some x) σ H
def DS (X : Cx) (Z : Vo G) (W : WX) (M : Nat → Nat) (nr : Nat) (s : Stmt) (w : WS G) : Prop :=
  ∃ t, PS X s t ∧ ∀ {Hs0 H0 Hs H : Hp} {σ : St} {env : Env} {fp : Nat → List Addr} {g : G} {D : Ends} {Dd : DEnds G},
    SR X.K M Z.vol Hs0 H0 Hs H σ env fp → Z.P g H → w Dd env g → GoS X.K Z M nr W Hs0 H0 Dd D → t D σ H
def DB (X : Cx) (Z : Vo G) (W : WX) (M : Nat → Nat) (nr : Nat) (ss : List Stmt) (w : WS G) : Prop :=
  ∃ t, PSs X ss t ∧ ∀ {Hs0 H0 Hs H : Hp} {σ : St} {env : Env} {fp : Nat → List Addr} {g : G} {D : Ends} {Dd : DEnds G},
    SR X.K M Z.vol Hs0 H0 Hs H σ env fp → Z.P g H → w Dd env g → GoS X.K Z M nr W Hs0 H0 Dd D → t D σ H

variable {X : Cx} {Z : Vo G} {W : WX} {M : Nat → Nat} {n : Nat} {Hs H Hs1 H1 : Hp} {σ : St} {Ed : XD G} {g : G}
theorem Vo.pure (Z : Vo G) {g : G} (h : Z.P g H) (s : Step [] Hs H Hs1 H1) : Z.P g H1 := Z.dep g H H1 h fun b hb => s.keeps (Z.trk g H h b hb)
theorem GoX.step (x : GoX Z W Hs H σ Ed) (s : Step Z.vol Hs H Hs1 H1) : GoX Z W Hs1 H1 σ Ed := fun c d g v y Hs' H' e s' hy hx sc p =>
  x c d g v y Hs' H' e (s.trans s') (by
    cases z : H y with
    | none => rfl
    | some o => exact absurd hy (s.s5 y (by rw [z]; simp))) hx sc p
theorem fresh_of {vol : List Addr} (s : Step vol Hs H Hs1 H1) {b : Addr} (h : H1 b = none) : H b = none := by
  cases z : H b with
  | none => rfl
  | some o => exact absurd h (s.s5 b (by rw [z]; simp))
theorem GoE.step {Q : VK} {Qd : KD G} {K : PySem.W.Frag} (q : GoE K Z n Hs H Q Qd) (s : Step Z.vol Hs H Hs1 H1) : GoE K Z n Hs1 H1 Q Qd := fun d g v Hs' H' f e s' o nd fr p =>
  q d g v Hs' H' f e (s.trans s') o nd (fun b hb => fresh_of s (fr b hb)) p

/-! ### coercions -/
/-- frozen at once -/
theorem de_frz {e : Expr} {w : WE G} (h : DE X Z W M n e w) : DE X Z W M 0 e w := by
  obtain ⟨t, pe, r⟩ := h
  refine ⟨t, pe, fun {Hs0 H0 Hs H σ env fp g Q Qd Ed} R p q k x => r R p q (fun d g' v Hs' H' f e s o nd fr p' => ?_) x⟩
  have hc := fun b hb => (o.cells b hb).1
  exact k d g' v (frz Hs' H' f) H' [] e (s.freeze fr hc) ⟨rfl, o.frozen hc fun _ h => h⟩ List.nodup_nil (fun _ h => by cases h) p'
/-- what is own is read only: the result has nothing of it -/
def wShut (n : Nat) (w : WE G) : WE G := fun env g Q E => w env g (fun d g' => closed n d ∧ Q d g') E
theorem de_shut (I : List Nat) {e : Expr} {w : WE G} (h : DE X Z W (thaw M I) n e w) : DE X Z W M n e (wShut n w) := by
  obtain ⟨t, pe, r⟩ := h
  refine ⟨t, pe, fun {Hs0 H0 Hs H σ env fp g Q Qd Ed} R p q k x => r (R.freeze I) p q (fun d g' v Hs' H' f e s o nd fr p' => ?_) fun c d g' v y Hs' H' e s hy hx sc p' => ?_⟩
  all_goals
    have hnw : ∀ b ∈ cellsOf fp I, Hs b = none := fun b hb => let ⟨i, _, h⟩ := List.mem_flatMap.mp hb; (R.ct i b h).1
    have s0 : Same Hs (frz Hs H (cellsOf fp I)) := frz_same hnw
    have sb : Step Z.vol Hs H Hs H' := ⟨Same.refl _, s.s2, fun _ e => .inl e, fun b o e => s.s4 b o (s.s1 b o (s0 b o e)), s.s5⟩
  · obtain ⟨cl, e⟩ := e
    refine k d g' v Hs H' f e sb (o.shut cl (fun _ _ => rfl) fun b hb => ?_) nd fr p'
    cases z : Hs b with
    | none => rfl
    | some u =>
      have := R.hs b u z
      rw [fr b hb] at this; cases this
  · exact x c d g' v y Hs H' e sb hy (hx.back (s0.trans s.s1)) sc p'
theorem dt_shut (I : List Nat) {e : Expr} {w : WT G} (h : DT X Z W (thaw M I) e w) : DT X Z W M e w := by
  obtain ⟨t, pe, r⟩ := h
  refine ⟨t, pe, fun {Hs0 H0 Hs H σ env fp g Q Qd Ed} R p q k x => r (R.freeze I) p q (fun b g' Hs' H' e s p' => ?_) fun c d g' v y Hs' H' e s hy hx sc p' => ?_⟩
  all_goals
    have hnw : ∀ b ∈ cellsOf fp I, Hs b = none := fun b hb => let ⟨i, _, h⟩ := List.mem_flatMap.mp hb; (R.ct i b h).1
    have s0 : Same Hs (frz Hs H (cellsOf fp I)) := frz_same hnw
    have sb : Step Z.vol Hs H Hs H' := ⟨Same.refl _, s.s2, fun _ e => .inl e, fun b o e => s.s4 b o (s.s1 b o (s0 b o e)), s.s5⟩
  · exact k b g' Hs H' e sb p'
  · exact x c d g' v y Hs H' e sb hy (hx.back (s0.trans s.s1)) sc p'
/-- a scalar is of any mode -/
theorem Own.sc {K : PySem.W.Frag} {n : Nat} {v : V} {d : Dt} (h : Sc v d) : Own K Hs H n v d [] := by
  cases n with
  | zero => exact ⟨rfl, h.rp⟩
  | succ n => exact .inl ⟨rfl, h⟩
end
end Vl

/-! Vl3: expressions: names, constants, operators, comparisons, displays. -/
namespace Vl
open PySem L2
section
variable {G : Type} {X : Cx} {Z : Vo G} {W : WX} {M : Nat → Nat} {n : Nat}

/-- what an operation that writes nothing hands on -/
def GoP (K : PySem.W.Frag) (n : Nat) (Hs H : Hp) (Q : VK) (q : Dt → Prop) : Prop :=
  ∀ d v Hs' H' f, q d → Step [] Hs H Hs' H' → Own K Hs' H' n v d f → f.Nodup → (∀ b ∈ f, H b = none) → Q v H'
theorem GoE.pure {K : PySem.W.Frag} {Hs H Hs1 H1 : Hp} {Q : VK} {Qd : KD G} {g : G} (k : GoE K Z n Hs H Q Qd) (s : Step Z.vol Hs H Hs1 H1) (p : Z.P g H1) : GoP K n Hs1 H1 Q (fun d => Qd d g) :=
  fun d v Hs' H' f q s' o nd fr => k d g v Hs' H' f q (s.trans s'.mono) o nd (fun b hb => fresh_of s (fr b hb)) (Z.pure p s')
/-- a scalar as the result -/
theorem GoP.scal {K : PySem.W.Frag} {Hs H : Hp} {Q : VK} {q : Dt → Prop} (k : GoP K n Hs H Q q) (h : Same Hs H) {v : V} {d : Dt} (s : Sc v d) (e : q d) : Q v H :=
  k d v Hs H [] e (Step.refl h) (Own.sc s) List.nodup_nil fun _ h => by cases h
/-- something that is there for good -/
theorem GoP.rp {K : PySem.W.Frag} {Hs H : Hp} {Q : VK} {q : Dt → Prop} (k : GoP K 0 Hs H Q q) (h : Same Hs H) {v : V} {d : Dt} (s : Rp K Hs v d) (e : q d) : Q v H :=
  k d v Hs H [] e (Step.refl h) ⟨rfl, s⟩ List.nodup_nil fun _ h => by cases h
/-- a new list of things that are there for good -/
theorem GoP.newL {K : PySem.W.Frag} {Hs H : Hp} {Q : VK} {q : Dt → Prop} (k : GoP K 1 Hs H Q q) (h : Same Hs H) {p : Addr} (hp : H p = none) {vs : List V} {ds : List Dt} (r : RpL K Hs vs ds) (e : q (.lst ds)) : Q (.ref p) (upd H p (.lst vs)) := by
  have hs : Hs p = none := h.free hp
  exact k (.lst ds) (.ref p) Hs _ [p] e (Step.new h hp) (.inr ⟨p, vs, ds, [], rfl, hs, .inl ⟨upd_same, rfl⟩, OwL.of_rp r, rfl⟩) (by simp) fun b hb => by
    have : b = p := by simpa using hb
    rw [this]; exact hp
theorem GoP.newT {K : PySem.W.Frag} {Hs H : Hp} {Q : VK} {q : Dt → Prop} (k : GoP K 1 Hs H Q q) (h : Same Hs H) {p : Addr} (hp : H p = none) {vs : List V} {ds : List Dt} (r : RpL K Hs vs ds) (e : q (.tup ds)) : Q (.ref p) (upd H p (.tup vs)) := by
  have hs : Hs p = none := h.free hp
  exact k (.tup ds) (.ref p) Hs _ [p] e (Step.new h hp) (.inr ⟨p, vs, ds, [], rfl, hs, .inr (.inl ⟨upd_same, rfl⟩), OwL.of_rp r, rfl⟩) (by simp) fun b hb => by
    have : b = p := by simpa using hb
    rw [this]; exact hp

/-! ### names, constants -/
def wC (d : Dt) : WE G := fun _ g Q _ => Q d g
def wVar (i : Nat) : WE G := fun env g Q _ => ∃ d, env[i]? = some (some d) ∧ Q d g
theorem de_tc {e : Expr} {v : V} {d : Dt} (h : PE X e (tC v)) (s : Sc v d) : DE X Z W M n e (wC d) :=
  ⟨_, h, fun R p q k _ => (k.pure (Step.refl R.hs) p).scal R.hs s q⟩
theorem de_int {i j pos} : DE X Z W M n (.Constant (.int i) j pos) (wC (.int i)) := de_tc pe_int rfl
theorem de_bl {b j pos} : DE X Z W M n (.Constant (.bool b) j pos) (wC (.bl b)) := de_tc pe_bl rfl
theorem de_non {j pos} : DE X Z W M n (.Constant .none j pos) (wC .non) := de_tc pe_non trivial
theorem de_str {x j pos} : DE X Z W M n (.Constant (.str x) j pos) (wC (.str x)) := de_tc pe_str rfl
/-- a module's constant, a scalar -/
theorem de_glob {x : Str} {v : V} {u : Value} {d : Dt} {pos : Pos} (hg : Gl X x) (hm : X.mg x = some u) (r : RelV v u) (s : Sc v d) (hd : (x == ("__debug__" : Str)) = false := by decide) : DE X Z W M n (.Name x pos) (wC d) :=
  de_tc (pe_glob hg hm r hd) s
/-- a module's constant, a list of scalars -/
theorem de_globL {x : Str} {v : V} {u : Value} {d : Dt} {pos : Pos} (hg : Gl X x) (hm : X.mg x = some u) (r : RelV v u) (s : ∀ H, Rp X.K H v d) (hd : (x == ("__debug__" : Str)) = false := by decide) : DE X Z W M 0 (.Name x pos) (wC d) :=
  ⟨_, pe_glob hg hm r hd, fun R p q k _ => (k.pure (Step.refl R.hs) p).rp R.hs (s _) q⟩
theorem de_var (i : Nat) {x : Str} {pos : Pos} (hm : M i = 0 := by rfl) (hN : X.N[i]? = some x := by rfl) (hv : Vis X.env.scope x := by first | exact Or.inl rfl | exact Or.inr (Or.inl rfl) | exact Or.inr (Or.inr rfl))
    (hd : (x == ("__debug__" : Str)) = false := by decide) (hcd : (x == ("__classdict__" : Str)) = false := by decide) : DE X Z W M 0 (.Name x pos) (wVar i) :=
  ⟨_, pe_var hN hv hd hcd, fun R p q k _ => by
    obtain ⟨d, e, q⟩ := q
    obtain ⟨v, e1, r⟩ := R.val hm e
    exact ⟨v, e1, (k.pure (Step.refl R.hs) p).rp R.hs r q⟩⟩

/-! ### operators -/
abbrev D2 := Dt → Dt → (Dt → Prop) → Prop
def Op2 (X : Cx) (n : Nat) (rr : R2) (r : D2) : Prop :=
  ∀ {Hs H : Hp} {x y : V} {d e : Dt} {Q : VK} {q : Dt → Prop}, Same Hs H → Rp X.K Hs x d → Rp X.K Hs y e → r d e q → GoP X.K n Hs H Q q → rr x y H Q
theorem Op2.or {rr rr' : R2} {r r' : D2} (h : Op2 X n rr r) (h' : Op2 X n rr' r') : Op2 X n (fun x y H Q => rr x y H Q ∨ rr' x y H Q) (fun d e q => r d e q ∨ r' d e q) :=
  fun s a b q k => q.elim (fun q => .inl (h s a b q k)) fun q => .inr (h' s a b q k)
def wOp (r : D2) (wa wb : WE G) : WE G := fun env g Q E => wa env g (fun d g1 => wb env g1 (fun e g2 => r d e (fun z => Q z g2)) E) E
variable {a b e : Expr} {wa wb : WE G} {pos : Pos}
/-- two expressions in a row -/
theorem two {ta tb : TE} {rr : V → V → Hp → VK → Prop} {r : D2} {Hs0 H0 Hs H : Hp} {σ : St} {env : Env} {fp : Nat → List Addr} {g : G} {Q : VK} {Qd : KD G} {Ed : XD G}
    (ra : ∀ {Hs0 H0 Hs H : Hp} {σ : St} {env : Env} {fp : Nat → List Addr} {g : G} {Q : VK} {Qd : KD G} {Ed : XD G}, SR X.K M Z.vol Hs0 H0 Hs H σ env fp → Z.P g H → wa env g Qd Ed → GoE X.K Z 0 Hs H Q Qd → GoX Z W Hs H σ Ed → ta σ H Q)
    (rb : ∀ {Hs0 H0 Hs H : Hp} {σ : St} {env : Env} {fp : Nat → List Addr} {g : G} {Q : VK} {Qd : KD G} {Ed : XD G}, SR X.K M Z.vol Hs0 H0 Hs H σ env fp → Z.P g H → wb env g Qd Ed → GoE X.K Z 0 Hs H Q Qd → GoX Z W Hs H σ Ed → tb σ H Q)
    (hr : Op2 X n rr r) (R : SR X.K M Z.vol Hs0 H0 Hs H σ env fp) (p : Z.P g H) (q : wOp r wa wb env g Qd Ed) (k : GoE X.K Z n Hs H Q Qd) (x : GoX Z W Hs H σ Ed) :
    ta σ H fun v1 H1 => tb σ H1 fun v2 H2 => rr v1 v2 H2 Q := by
  refine ra R p q (fun d g1 v1 Hs1 H1 f1 e1 s1 o1 nd1 fr1 p1 => ?_) x
  refine rb (R.step s1) p1 e1 (fun e g2 v2 Hs2 H2 f2 e2 s2 o2 nd2 fr2 p2 => ?_) (x.step s1)
  exact hr s2.s4 (o1.2.same s2.s1) o2.2 e2 (k.pure (s1.trans s2) p2)
theorem de_op {op : Operator} {rr : R2} {r : D2} (ho : OpR X (binaryOp op) rr) (hr : Op2 X n rr r) (ha : DE X Z W M 0 a wa) (hb : DE X Z W M 0 b wb) : DE X Z W M n (.BinOp a op b pos) (wOp r wa wb) := by
  obtain ⟨ta, pa, ra⟩ := ha
  obtain ⟨tb, pb, rb⟩ := hb
  exact ⟨_, pe_op ho pa pb, fun R p q k x => two ra rb hr R p q k x⟩
theorem de_cmp {op : CmpOp} {rr : R2} {r : D2} (ho : OpR X (compareOp op) rr) (hr : Op2 X n rr r) (ha : DE X Z W M 0 a wa) (hb : DE X Z W M 0 b wb) (hm : behindInMarks op b = false := by first | exact nomark _ | rfl) : DE X Z W M n (.Compare a [op] [b] pos) (wOp r wa wb) := by
  obtain ⟨ta, pa, ra⟩ := ha
  obtain ⟨tb, pb, rb⟩ := hb
  exact ⟨_, pe_cmpR ho pa pb hm, fun R p q k x => two ra rb hr R p q k x⟩
/-- the answer of a comparison, as a test -/
def wTest (w : WE G) : WT G := fun env g Q E => w env g (fun d g' => ∃ b, d = .bl b ∧ Q b g') E
theorem dt_cmp {op : CmpOp} {rr : R2} {r : D2} (ho : OpR X (compareOp op) rr) (hr : Op2 X 0 rr r) (ha : DE X Z W M 0 a wa) (hb : DE X Z W M 0 b wb) (hm : behindInMarks op b = false := by first | exact nomark _ | rfl) : DT X Z W M (.Compare a [op] [b] pos) (wTest (wOp r wa wb)) := by
  obtain ⟨ta, pa, ra⟩ := ha
  obtain ⟨tb, pb, rb⟩ := hb
  refine ⟨_, pt_cmpR ho pa pb hm, fun {Hs0 H0 Hs H σ env fp g Q Qd Ed} R p q k x => two (n := 0) ra rb hr R p q (fun d g' v Hs' H' f e s o nd fr p' => ?_) x⟩
  obtain ⟨c, rfl, e⟩ := e
  have r := o.2
  cases r
  exact ⟨c, rfl, k c g' Hs' H' e s p'⟩
/-- a value that is a bool, as a test -/
theorem dt_val {w : WE G} (h : DE X Z W M 0 e w) (he : ∀ whole, isTrue e X.env whole = (do let v ← whole; standAt e.pos; holding [v] (truthy v)) := by intro _; rfl) : DT X Z W M e (wTest w) := by
  obtain ⟨t, pe, r⟩ := h
  refine ⟨_, pt_val pe he, fun {Hs0 H0 Hs H σ env fp g Q Qd Ed} R p q k x => r R p q (fun d g' v Hs' H' f e s o nd fr p' => ?_) x⟩
  obtain ⟨c, rfl, e⟩ := e
  have r := o.2
  cases r
  exact ⟨c, rfl, k c g' Hs' H' e s p'⟩
def wNot (w : WT G) : WT G := fun env g Q E => w env g (fun b g' => Q (!b) g') E
def wAnd (w u : WT G) : WT G := fun env g Q E => w env g (fun b g' => (b = true → u env g' Q E) ∧ (b = false → Q false g')) E
def wOr (w u : WT G) : WT G := fun env g Q E => w env g (fun b g' => (b = true → Q true g') ∧ (b = false → u env g' Q E)) E
theorem dt_not {w : WT G} (h : DT X Z W M a w) : DT X Z W M (.UnaryOp .Not a pos) (wNot w) := by
  obtain ⟨t, pt, r⟩ := h
  exact ⟨_, pt_not pt, fun R p q k x => r R p q (fun b g' Hs' H' e s p' => k _ g' Hs' H' e s p') x⟩
theorem dw_pt {w : WT G} (h : DW X Z W M e w) : DT X Z W M e w := by
  obtain ⟨t, pt, r⟩ := h
  exact ⟨_, pt.pt, r⟩
theorem dw_and1 {w : WT G} (h : DT X Z W M a w) : DW X Z W M (.BoolOp .And [a] pos) w := by
  obtain ⟨t, pt, r⟩ := h
  exact ⟨_, pw_and1 pt, r⟩
theorem dw_or1 {w : WT G} (h : DT X Z W M a w) : DW X Z W M (.BoolOp .Or [a] pos) w := by
  obtain ⟨t, pt, r⟩ := h
  exact ⟨_, pw_or1 pt, r⟩
theorem dw_and {w u : WT G} {rest : List Expr} (h : DT X Z W M a w) (h' : DW X Z W M (.BoolOp .And (b :: rest) pos) u) : DW X Z W M (.BoolOp .And (a :: b :: rest) pos) (wAnd w u) := by
  obtain ⟨t, pt, r⟩ := h
  obtain ⟨t', pt', r'⟩ := h'
  refine ⟨_, pw_and pt pt', fun {Hs0 H0 Hs H σ env fp g Q Qd Ed} R p q k x => r R p q (fun c g' Hs' H' e s p' => ?_) x⟩
  cases c with
  | true => exact r' (R.step s) p' (e.1 rfl) (fun c2 g2 Hs2 H2 e2 s2 p2 => k c2 g2 Hs2 H2 e2 (s.trans s2) p2) (x.step s)
  | false => exact k false g' Hs' H' (e.2 rfl) s p'
theorem dw_or {w u : WT G} {rest : List Expr} (h : DT X Z W M a w) (h' : DW X Z W M (.BoolOp .Or (b :: rest) pos) u) : DW X Z W M (.BoolOp .Or (a :: b :: rest) pos) (wOr w u) := by
  obtain ⟨t, pt, r⟩ := h
  obtain ⟨t', pt', r'⟩ := h'
  refine ⟨_, pw_or pt pt', fun {Hs0 H0 Hs H σ env fp g Q Qd Ed} R p q k x => r R p q (fun c g' Hs' H' e s p' => ?_) x⟩
  cases c with
  | true => exact k true g' Hs' H' (e.1 rfl) s p'
  | false => exact r' (R.step s) p' (e.2 rfl) (fun c2 g2 Hs2 H2 e2 s2 p2 => k c2 g2 Hs2 H2 e2 (s.trans s2) p2) (x.step s)
def wIf (w : WT G) (wa wb : WE G) : WE G := fun env g Q E => w env g (fun b g' => (b = true → wa env g' Q E) ∧ (b = false → wb env g' Q E)) E
theorem de_ifExp {c : Expr} {w : WT G} (h : DT X Z W M c w) (ha : DE X Z W M n a wa) (hb : DE X Z W M n b wb) : DE X Z W M n (.IfExp c a b pos) (wIf w wa wb) := by
  obtain ⟨t, pt, r⟩ := h
  obtain ⟨ta, pa, ra⟩ := ha
  obtain ⟨tb, pb, rb⟩ := hb
  refine ⟨_, pe_ifExp pt pa pb, fun {Hs0 H0 Hs H σ env fp g Q Qd Ed} R p q k x => r R p q (fun c g' Hs' H' e s p' => ?_) x⟩
  cases c with
  | true => exact ra (R.step s) p' (e.1 rfl) (k.step s) (x.step s)
  | false => exact rb (R.step s) p' (e.2 rfl) (k.step s) (x.step s)
/-- and, or, not as values -/
def wB (w : WT G) : WE G := fun env g Q E => w env g (fun b g' => Q (.bl b) g') E
def wAndV (wa wb : WE G) : WE G := fun env g Q E => wa env g (fun d g' => ∃ c, d = .bl c ∧ (c = true → wb env g' Q E) ∧ (c = false → Q (.bl false) g')) E
def wOrV (wa wb : WE G) : WE G := fun env g Q E => wa env g (fun d g' => ∃ c, d = .bl c ∧ (c = true → Q (.bl true) g') ∧ (c = false → wb env g' Q E)) E
def wNotV (wa : WE G) : WE G := fun env g Q E => wa env g (fun d g' => ∃ c, d = .bl c ∧ Q (.bl (!c)) g') E
theorem de_one {op} {w : WE G} (h : DE X Z W M n a w) : DE X Z W M n (.BoolOp op [a] pos) w := by
  obtain ⟨t, pe, r⟩ := h
  exact ⟨_, pe_one pe, r⟩
theorem de_and {rest : List Expr} (ha : DE X Z W M 0 a wa) (hb : DE X Z W M 0 (.BoolOp .And (b :: rest) pos) wb) : DE X Z W M 0 (.BoolOp .And (a :: b :: rest) pos) (wAndV wa wb) := by
  obtain ⟨ta, pa, ra⟩ := ha
  obtain ⟨tb, pb, rb⟩ := hb
  refine ⟨_, pe_and pa pb, fun {Hs0 H0 Hs H σ env fp g Q Qd Ed} R p q k x => ra R p q (fun d g' v Hs' H' f e s o nd fr p' => ?_) x⟩
  obtain ⟨c, rfl, e1, e2⟩ := e
  have r := o.2
  cases r
  refine ⟨c, rfl, ?_⟩
  cases c with
  | true => exact rb (R.step s) p' (e1 rfl) (k.step s) (x.step s)
  | false => exact (k.pure s p').scal s.s4 (d := .bl false) rfl (e2 rfl)
theorem de_or {rest : List Expr} (ha : DE X Z W M 0 a wa) (hb : DE X Z W M 0 (.BoolOp .Or (b :: rest) pos) wb) : DE X Z W M 0 (.BoolOp .Or (a :: b :: rest) pos) (wOrV wa wb) := by
  obtain ⟨ta, pa, ra⟩ := ha
  obtain ⟨tb, pb, rb⟩ := hb
  refine ⟨_, pe_or pa pb, fun {Hs0 H0 Hs H σ env fp g Q Qd Ed} R p q k x => ra R p q (fun d g' v Hs' H' f e s o nd fr p' => ?_) x⟩
  obtain ⟨c, rfl, e1, e2⟩ := e
  have r := o.2
  cases r
  refine ⟨c, rfl, ?_⟩
  cases c with
  | true => exact (k.pure s p').scal s.s4 (d := .bl true) rfl (e1 rfl)
  | false => exact rb (R.step s) p' (e2 rfl) (k.step s) (x.step s)
theorem de_not (ha : DE X Z W M 0 a wa) : DE X Z W M 0 (.UnaryOp .Not a pos) (wNotV wa) := by
  obtain ⟨ta, pa, ra⟩ := ha
  refine ⟨_, pe_not pa, fun {Hs0 H0 Hs H σ env fp g Q Qd Ed} R p q k x => ra R p q (fun d g' v Hs' H' f e s o nd fr p' => ?_) x⟩
  obtain ⟨c, rfl, e1⟩ := e
  have r := o.2
  cases r
  exact ⟨c, rfl, (k.pure s p').scal s.s4 (d := .bl (!c)) rfl e1⟩
/-- a unary operator -/
def wUn (r : Dt → (Dt → Prop) → Prop) (wa : WE G) : WE G := fun env g Q E => wa env g (fun d g' => r d (fun z => Q z g')) E
def negD : Dt → (Dt → Prop) → Prop := fun d q => ∃ i, d = .int i ∧ q (.int (-i))
theorem de_neg (ha : DE X Z W M 0 a wa) : DE X Z W M n (.UnaryOp .USub a pos) (wUn negD wa) := by
  obtain ⟨ta, pa, ra⟩ := ha
  refine ⟨_, pe_un un_neg pa, fun {Hs0 H0 Hs H σ env fp g Q Qd Ed} R p q k x => ra R p q (fun d g' v Hs' H' f e s o nd fr p' => ?_) x⟩
  obtain ⟨i, rfl, e1⟩ := e
  have r := o.2
  cases r
  exact ⟨i, rfl, (k.pure s p').scal s.s4 (v := .int (-i)) (d := .int (-i)) rfl e1⟩

/-! ### argument lists, displays -/
def DAn (X : Cx) (Z : Vo G) (W : WX) (M : Nat → Nat) (n : Nat) (es : List Expr) (w : WA G) : Prop :=
  ∃ t, PA X es t ∧ ∀ {Hs0 H0 Hs H : Hp} {σ : St} {env : Env} {fp : Nat → List Addr} {g : G} {Q : List V → Hp → Prop} {Qd : List Dt → G → Prop} {Ed : XD G},
    SR X.K M Z.vol Hs0 H0 Hs H σ env fp → Z.P g H → w env g Qd Ed → (∀ ds g vs Hs' H' fs, Qd ds g → Step Z.vol Hs H Hs' H' → OwL (Own X.K Hs' H' n) vs ds fs → fs.Nodup → (∀ b ∈ fs, H b = none) → Z.P g H' → Q vs H') →
    GoX Z W Hs H σ Ed → t σ H Q
def wNil : WA G := fun _ g Q _ => Q [] g
def wCons (w : WE G) (u : WA G) : WA G := fun env g Q E => w env g (fun d g1 => u env g1 (fun ds g2 => Q (d :: ds) g2) E) E
theorem dan_nil : DAn X Z W M n [] wNil := ⟨_, pa_nil, fun R p q k _ => k [] _ [] _ _ [] q (Step.refl R.hs) .nil List.nodup_nil (fun _ h => by cases h) p⟩
theorem dan_cons {es : List Expr} {w : WE G} {u : WA G} (h : DE X Z W M n e w) (h' : DAn X Z W M n es u) (hs : starEach (e :: es) X.env = (false, eval e X.env) :: starEach es X.env := by rfl) : DAn X Z W M n (e :: es) (wCons w u) := by
  obtain ⟨t, pe, r⟩ := h
  obtain ⟨t', pa, r'⟩ := h'
  refine ⟨_, pa_cons pe pa hs, fun {Hs0 H0 Hs H σ env fp g Q Qd Ed} R p q k x => r R p q (fun d g1 v Hs1 H1 f e1 s1 o1 nd1 fr1 p1 => ?_) x⟩
  refine r' (R.step s1) p1 e1 (fun ds g2 vs Hs2 H2 fs e2 s2 o2 nd2 fr2 p2 => ?_) (x.step s1)
  have hf : ∀ b ∈ f, b ∉ Z.vol := fun b hb z => by
    have := R.st.s5 b (R.hv b z).1
    exact this (fr1 b hb)
  refine k (d :: ds) g2 (v :: vs) Hs2 H2 (f ++ fs) e2 (s1.trans s2) (.cons (o1.step s2 hf) o2) ?_ (fun b hb => ?_) p2
  · rw [List.nodup_append]
    refine ⟨nd1, nd2, fun b h1 c h2 e => ?_⟩
    rw [← e] at h2
    exact (o1.cells b h1).2 (fr2 b h2)
  · rcases List.mem_append.mp hb with hb | hb
    · exact fr1 b hb
    · exact fresh_of s1 (fr2 b hb)
theorem da_of {es : List Expr} {u : WA G} (h : DAn X Z W M 0 es u) : DA X Z W M es u := by
  obtain ⟨t, pa, r⟩ := h
  exact ⟨t, pa, fun R p q k x => r R p q (fun ds g vs Hs' H' fs e s o nd fr p' => k ds g vs Hs' H' e s o.zero.2 p') x⟩
theorem da_nil : DA X Z W M [] wNil := da_of dan_nil
theorem da_cons {es : List Expr} {w : WE G} {u : WA G} (h : DE X Z W M 0 e w) (h' : DA X Z W M es u) (hs : starEach (e :: es) X.env = (false, eval e X.env) :: starEach es X.env := by rfl) : DA X Z W M (e :: es) (wCons w u) := by
  obtain ⟨t, pe, r⟩ := h
  obtain ⟨t', pa, r'⟩ := h'
  refine ⟨_, pa_cons pe pa hs, fun {Hs0 H0 Hs H σ env fp g Q Qd Ed} R p q k x => r R p q (fun d g1 v Hs1 H1 f e1 s1 o1 nd1 fr1 p1 => ?_) x⟩
  exact r' (R.step s1) p1 e1 (fun ds g2 vs Hs2 H2 e2 s2 o2 p2 => k (d :: ds) g2 (v :: vs) Hs2 H2 e2 (s1.trans s2) (.cons (o1.2.same s2.s1) o2) p2) (x.step s1)
def wLst (u : WA G) : WE G := fun env g Q E => u env g (fun ds g' => ds.length ≤ sizeLine ∧ Q (.lst ds) g') E
def wTup (u : WA G) : WE G := fun env g Q E => u env g (fun ds g' => ds.length ≤ sizeLine ∧ Q (.tup ds) g') E
theorem newCell {K : PySem.W.Frag} {Hs H Hs1 H1 : Hp} {Q : VK} {Qd : KD G} {g : G} {vs : List V} {ds : List Dt} {fs : List Addr} {o : HO} {d : Dt} (k : GoE K Z (n + 1) Hs H Q Qd) (s : Step Z.vol Hs H Hs1 H1) (ow : OwL (Own K Hs1 H1 n) vs ds fs) (nd : fs.Nodup)
    (fr : ∀ b ∈ fs, H b = none) (p : Z.P g H1) {a : Addr} (ha : H1 a = none) (hc : ∀ b ∈ fs, H1 b ≠ none) (hn : Node (upd H1 a o) a vs d ds) (e : Qd d g) : Q (.ref a) (upd H1 a o) := by
  have s2 : Step [] Hs1 H1 Hs1 (upd H1 a o) := Step.new s.s4 ha
  have ne : ∀ b ∈ fs, b ≠ a := fun b hb z => hc b hb (z ▸ ha)
  refine k d g (.ref a) Hs1 _ (a :: fs) e (s.trans s2.mono) (.inr ⟨a, vs, ds, fs, rfl, s.s4.free ha, hn, ow.imp fun v d f q sub => q.move (Same.refl _) (fun b hb => upd_ne (ne b (sub b hb))) (fun _ _ e => e), rfl⟩) ?_ ?_ (Z.pure p s2)
  · refine List.nodup_cons.mpr ⟨fun z => ne a z rfl, nd⟩
  · intro b hb
    rcases List.mem_cons.mp hb with rfl | hb
    · exact fresh_of s ha
    · exact fr b hb
theorem owl_cells {K : PySem.W.Frag} {Hs H : Hp} {n : Nat} : ∀ {vs : List V} {ds : List Dt} {fs : List Addr}, OwL (Own K Hs H n) vs ds fs → ∀ b ∈ fs, Hs b = none ∧ H b ≠ none := by
  intro vs ds fs r
  induction r with
  | nil => intro b hb; cases hb
  | cons h _ ih =>
    intro b hb
    rcases List.mem_append.mp hb with hb | hb
    · exact h.cells b hb
    · exact ih b hb
theorem de_lst {es : List Expr} {u : WA G} (h : DAn X Z W M n es u) : DE X Z W M (n + 1) (.List es pos) (wLst u) := by
  obtain ⟨t, pa, r⟩ := h
  refine ⟨_, pe_lst pa, fun {Hs0 H0 Hs H σ env fp g Q Qd Ed} R p q k x => r R p q (fun ds g1 vs Hs1 H1 fs e1 s1 o1 nd1 fr1 p1 => ?_) x⟩
  obtain ⟨z, e1⟩ := e1
  refine ⟨by rw [o1.length]; exact z, fun a ha => ?_⟩
  exact newCell k s1 o1 nd1 fr1 p1 ha (fun b hb => (owl_cells o1 b hb).2) (.inl ⟨upd_same, rfl⟩) e1
theorem de_tup {es : List Expr} {u : WA G} {j} (h : DAn X Z W M n es u) : DE X Z W M (n + 1) (.Tuple es j pos) (wTup u) := by
  obtain ⟨t, pa, r⟩ := h
  refine ⟨_, pe_tup pa, fun {Hs0 H0 Hs H σ env fp g Q Qd Ed} R p q k x => r R p q (fun ds g1 vs Hs1 H1 fs e1 s1 o1 nd1 fr1 p1 => ?_) x⟩
  obtain ⟨z, e1⟩ := e1
  refine ⟨by rw [o1.length]; exact z, fun a ha => ?_⟩
  exact newCell k s1 o1 nd1 fr1 p1 ha (fun b hb => (owl_cells o1 b hb).2) (.inr (.inl ⟨upd_same, rfl⟩)) e1

/-! ### calls of built-in functions and types, by values -/
abbrev D1 := List Dt → (Dt → Prop) → Prop
def Cal (X : Cx) (n : Nat) (rr : List V → Hp → VK → Prop) (r : D1) : Prop :=
  ∀ {Hs H : Hp} {vs : List V} {ds : List Dt} {Q : VK} {q : Dt → Prop}, Same Hs H → RpL X.K Hs vs ds → r ds q → GoP X.K n Hs H Q q → rr vs H Q
def wCall (r : D1) (u : WA G) : WE G := fun env g Q E => u env g (fun ds g' => r ds (fun z => Q z g')) E
variable {es : List Expr} {u : WA G} {x : Str} {p' : Pos} {id T : String} {rr : List V → Hp → VK → Prop} {r : D1}
theorem de_callB (hc : CallR X (.builtin id) rr) (hr : Cal X n rr r) (ha : DA X Z W M (e :: es) u) (hg : Gl X x) (hm : X.mg x = none) (hv : bootBuiltins x = some (.builtin id) := by decide +kernel) (hn : x ≠ "__name__" := by decide) (hdb : (x == ("__debug__" : Str)) = false := by decide)
    (he : starEach (e :: es) X.env = (false, eval e X.env) :: starEach es X.env := by rfl) (hpl : (backTo pos (starEach es X.env)).any (·.1) = false := by rfl) : DE X Z W M n (.Call (.Name x p') (e :: es) [] pos) (wCall r u) := by
  obtain ⟨t, pa, ra⟩ := ha
  exact ⟨_, pe_callB hc hg hm hv pa hn hdb he hpl, fun R p q k x => ra R p q (fun ds g1 vs Hs1 H1 e1 s1 o1 p1 => hr s1.s4 o1 e1 (k.pure s1 p1)) x⟩
theorem de_callT (hc : CallR X (.type T) rr) (hr : Cal X n rr r) (ha : DA X Z W M (e :: es) u) (hg : Gl X x) (hm : X.mg x = none) (hv : bootBuiltins x = some (.type T) := by decide +kernel) (hn : x ≠ "__name__" := by decide) (hdb : (x == ("__debug__" : Str)) = false := by decide)
    (he : starEach (e :: es) X.env = (false, eval e X.env) :: starEach es X.env := by rfl) (hpl : (backTo pos (starEach es X.env)).any (·.1) = false := by rfl) : DE X Z W M n (.Call (.Name x p') (e :: es) [] pos) (wCall r u) := by
  obtain ⟨t, pa, ra⟩ := ha
  exact ⟨_, pe_callTy hc hg hm hv pa hn hdb he hpl, fun R p q k x => ra R p q (fun ds g1 vs Hs1 H1 e1 s1 o1 p1 => hr s1.s4 o1 e1 (k.pure s1 p1)) x⟩
/-! ### subscripts -/
theorem de_ix {rr : R2} {r : D2} (ho : IxR X rr) (hr : Op2 X n rr r) (ha : DE X Z W M 0 a wa) (hb : DE X Z W M 0 b wb) (hs : PlainIx b := by exact fun _ _ => rfl) : DE X Z W M n (.Subscript a b pos) (wOp r wa wb) := by
  obtain ⟨ta, pa, ra⟩ := ha
  obtain ⟨tb, pb, rb⟩ := hb
  exact ⟨_, pe_ix ho pa pb hs, fun R p q k x => two ra rb hr R p q k x⟩
/-! ### a built-in type's method that writes nothing -/
def wMeth (r : Dt → D1) (wa : WE G) (u : WA G) : WE G := fun env g Q E => wa env g (fun d g1 => u env g1 (fun ds g2 => r d ds (fun z => Q z g2)) E) E
end
end Vl

/-! Vl4: what the operators, the built-in functions and the methods make of data. -/
namespace Vl
open PySem PySem.Spec PyProof.Rows L2

/-! ### data as the library's data -/
mutual
def Dt.py : Dt → PyData
  | .non => .none
  | .bl b => .bool b
  | .int i => .int i
  | .str x => .str x
  | .lst xs => .list (pyL xs)
  | .klst xs => .list (pyL xs)
  | .tup xs => .tuple (pyL xs)
  | .raw _ => .none
  | .exn _ _ => .none
  | .obj _ => .none
  | .dic _ _ => .none
def pyL : List Dt → List PyData
  | [] => []
  | d :: ds => d.py :: pyL ds
end
mutual
def Dt.plain : Dt → Prop
  | .raw _ => False
  | .exn _ _ => False
  | .obj _ => False
  | .dic _ _ => False
  | .lst xs => plainL xs
  | .klst xs => plainL xs
  | .tup xs => plainL xs
  | _ => True
def plainL : List Dt → Prop
  | [] => True
  | d :: ds => d.plain ∧ plainL ds
end
mutual
theorem Rp.dp {K : PySem.W.Frag} {H : Hp} : ∀ {v : V} {d : Dt}, Rp K H v d → d.plain → Dp K H v d.py
  | _, _, .non, _ => .non
  | _, _, .bl b, _ => .bl b
  | _, _, .int i, _ => .int i
  | _, _, .str x, _ => .str x
  | _, _, .raw v, h => h.elim
  | _, _, .exn _ _ _, h => h.elim
  | _, _, .obj _, h => h.elim
  | _, _, .dic _ _ _, h => h.elim
  | _, _, .lst h r, p => .lst (SqL.of h) (RpL.dp r p)
  | _, _, .klst h r, p => .lst h (RpL.dp r p)
  | _, _, .tup h r, p => .tup h (RpL.dp r p)
theorem RpL.dp {K : PySem.W.Frag} {H : Hp} : ∀ {vs : List V} {ds : List Dt}, RpL K H vs ds → plainL ds → DpAll K H vs (pyL ds)
  | _, _, .nil, _ => .nil
  | _, _, .cons h r, p => .cons (Rp.dp h p.1) (RpL.dp r p.2)
end
/-- a list, a tuple, the items of either -/
theorem Rp.seq {K : PySem.W.Frag} {Hs H : Hp} (s : Same Hs H) {v : V} {ds : List Dt} (h : Rp K Hs v (.lst ds)) : ∃ a xs, v = .ref a ∧ H a = some (.lst xs) ∧ RpL K Hs xs ds := by
  cases h with
  | lst h r => exact ⟨_, _, rfl, s _ _ h, r⟩
theorem Rp.kseq {K : PySem.W.Frag} {Hs H : Hp} (s : Same Hs H) {v : V} {ds : List Dt} (h : Rp K Hs v (.klst ds)) : ∃ a xs, v = .ref a ∧ SqL K H a xs ∧ RpL K Hs xs ds := by
  cases h with
  | klst h r => exact ⟨_, _, rfl, s.seq h, r⟩
theorem Rp.tseq {K : PySem.W.Frag} {Hs H : Hp} (s : Same Hs H) {v : V} {ds : List Dt} (h : Rp K Hs v (.tup ds)) : ∃ a xs, v = .ref a ∧ SqT K H a xs ∧ RpL K Hs xs ds := by
  cases h with
  | tup h r => exact ⟨_, _, rfl, same_sqt s h, r⟩
theorem RpL.rep {K : PySem.W.Frag} {H : Hp} {vs : List V} {ds : List Dt} (h : RpL K H vs ds) : ∀ k : Nat, RpL K H (List.replicate k vs).flatten (List.replicate k ds).flatten
  | 0 => .nil
  | k + 1 => by
    rw [List.replicate_succ, List.replicate_succ, List.flatten_cons, List.flatten_cons]
    exact h.append (RpL.rep h k)

section
variable {X : Cx}
/-- cases of two values by their data -/
theorem op2_I0 {n : Nat} {g : Int → Int → V} {gd : Int → Int → Dt} (h : ∀ i j, Sc (g i j) (gd i j)) : Op2 X n (rI0 g) (fun d e q => ∃ i j, d = .int i ∧ e = .int j ∧ q (gd i j)) := by
  intro Hs H x y d e Q q s hx hy r k
  obtain ⟨i, j, rfl, rfl, r⟩ := r
  cases hx
  cases hy
  exact ⟨i, j, rfl, rfl, k.scal s (h i j) r⟩
theorem op2_I {n : Nat} {C : Int → Int → Prop} {g : Int → Int → V} {gd : Int → Int → Dt} (h : ∀ i j, Sc (g i j) (gd i j)) : Op2 X n (rI C g) (fun d e q => ∃ i j, d = .int i ∧ e = .int j ∧ C i j ∧ q (gd i j)) := by
  intro Hs H x y d e Q q s hx hy r k
  obtain ⟨i, j, rfl, rfl, c, r⟩ := r
  cases hx
  cases hy
  exact ⟨i, j, rfl, rfl, c, k.scal s (h i j) r⟩
theorem Op2.imp {n : Nat} {rr : R2} {r r' : D2} (h : Op2 X n rr r) (i : ∀ d e q, r' d e q → r d e q) : Op2 X n rr r' := fun s a b q k => h s a b (i _ _ _ q) k

/-! ### + -/
def rStrAdd : R2 := fun x y H Q => ∃ i j, x = .str i ∧ y = .str j ∧ i.length + j.length ≤ sizeLine ∧ Q (.str (i ++ j)) H
def rrAdd : R2 := fun x y H Q => rI0 (fun i j => .int (i + j)) x y H Q ∨ rStrAdd x y H Q ∨ rCat x y H Q
theorem op_addA : OpR X (binaryOp .Add) rrAdd := op_add.or (OpR.or op_add_str op_cat)
def addD : D2
  | .int i, .int j, q => q (.int (i + j))
  | .str x, .str y, q => x.length + y.length ≤ sizeLine ∧ q (.str (x ++ y))
  | .lst xs, .lst ys, q => xs.length + ys.length ≤ sizeLine ∧ q (.lst (xs ++ ys))
  | _, _, _ => False
theorem op2_add : Op2 X 1 rrAdd addD := by
  intro Hs H x y d e Q q s hx hy r k
  cases d <;> cases e <;> first | exact r.elim | skip
  · cases hx; cases hy
    exact .inl ⟨_, _, rfl, rfl, k.scal s (d := .int _) rfl r⟩
  · cases hx; cases hy
    exact .inr (.inl ⟨_, _, rfl, rfl, r.1, k.scal s (d := .str _) rfl r.2⟩)
  · obtain ⟨a, xs, rfl, ha, rx⟩ := hx.seq s
    obtain ⟨b, ys, rfl, hb, ry⟩ := hy.seq s
    obtain ⟨r1, r2⟩ := r
    refine .inr (.inr ⟨a, b, xs, ys, rfl, rfl, ha, hb, by rw [rx.length, ry.length]; exact r1, fun p hp => ?_⟩)
    exact k.newL s hp (rx.append ry) r2
def subD : D2
  | .int i, .int j, q => q (.int (i - j))
  | _, _, _ => False
theorem op2_sub {n : Nat} : Op2 X n (rI0 fun i j => .int (i - j)) subD := by
  intro Hs H x y d e Q q s hx hy r k
  cases d <;> cases e <;> first | exact r.elim | skip
  cases hx; cases hy
  exact ⟨_, _, rfl, rfl, k.scal s (d := .int _) rfl r⟩
/-! ### *, //, %, ** -/
/-- so many times a text -/
def repS (x : Str) (k : Int) : Str := ⟨(List.replicate k.toNat x.cps.toList).flatten.toArray⟩
def rStrMul : R2 := fun x y H Q => ∃ z k, x = .str z ∧ y = .int k ∧ -(2 ^ 63) ≤ k ∧ z.length * k.toNat ≤ 16777216 ∧ k < 2 ^ 40 ∧ Q (.str (repS z k)) H
theorem fold_reps (xs : Array Nat) : ∀ (k : Nat) (acc : Array Nat), (List.replicate k xs).foldl (· ++ ·) acc = acc ++ (List.replicate k xs.toList).flatten.toArray
  | 0, acc => by simp
  | k + 1, acc => by
    rw [List.replicate_succ, List.foldl_cons, fold_reps xs k, List.replicate_succ, List.flatten_cons]
    apply Array.toList_inj.mp
    simp
theorem op_strMul : OpR X (binaryOp .Mult) rStrMul := by
  intro pins s σ H x y v u Q I rx ry h
  obtain ⟨z, k, rfl, rfl, h1, h2, h3, q⟩ := h
  obtain ⟨t, rfl⟩ := rx
  obtain ⟨t', rfl⟩ := ry
  have hk : k < 2 ^ 63 := Int.lt_trans h3 (by decide)
  have hs : sizeLine = 16777216 := sizeLine_eq
  refine PySem.P.mul_str (by rw [decide_eq_false (by omega), decide_eq_false (by omega)]; rfl) (fun hn hc => ?_) (fun hn hc => ?_) ?_
  · have kp : 0 < k := by omega
    have e : ((z.length * k.toNat : Nat) : Int) = (z.length : Int) * k := by rw [Int.natCast_mul, Int.toNat_of_nonneg (by omega)]
    have le : (z.length : Int) * k ≤ 2 ^ 63 - 1 := by rw [← e]; omega
    have := (Int.le_ediv_iff_mul_le kp).mpr le
    omega
  · unfold PySem.Builtin.Str.tooLong
    first
      | exact decide_eq_false (by rw [hs]; omega)
      | (simp only [decide_eq_false_iff_not]; omega)
  · by_cases c1 : k < 1
    · rw [if_pos c1]
      have e : repS z k = Str.empty := by
        unfold repS
        rw [show k.toNat = 0 by omega]
        rfl
      refine ⟨by decide, ?_⟩
      rw [← e]
      exact ⟨.str _, H, I.tok _, ⟨_, rfl⟩, q⟩
    · rw [if_neg c1]
      by_cases c2 : (k == 1 || z.length == 0) = true
      · rw [if_pos c2]
        have e : repS z k = z := by
          unfold repS
          rcases Bool.or_eq_true_iff.mp c2 with c | c
          · have : k = 1 := by simpa using c
            subst this
            show (⟨(List.replicate 1 z.cps.toList).flatten.toArray⟩ : Str) = z
            simp
          · have hl : z.length = 0 := by simpa using c
            have hz : z.cps = #[] := Array.eq_empty_of_size_eq_zero hl
            obtain ⟨cps⟩ := z
            simp only at hz
            subst hz
            simp
        exact ⟨.str z, H, I, ⟨_, rfl⟩, by rw [← e]; exact q⟩
      · rw [if_neg c2]
        have e : (⟨(List.replicate k.toNat z.cps).foldl (· ++ ·) #[]⟩ : Str) = repS z k := by
          unfold repS
          rw [fold_reps]
          simp
        rw [e]
        refine ⟨?_, ⟨.str _, H, I.tok _, ⟨_, rfl⟩, q⟩⟩
        unfold repS
        first
          | (show (List.replicate k.toNat z.cps.toList).flatten.toArray.size ≤ _
             rw [List.size_toArray, List.length_flatten]
             simp only [List.map_replicate, List.sum_replicate_nat, Array.length_toList]
             rw [hs]
             have := h2
             rw [Nat.mul_comm] at this
             exact this)
          | skip
def rrMul : R2 := fun x y H Q => rI CMulW (fun i j => .int (i * j)) x y H Q ∨ rStrMul x y H Q ∨ rRep x y H Q
theorem op_mulA : OpR X (binaryOp .Mult) rrMul := op_mulW.or (OpR.or op_strMul op_rep)
def mulD : D2
  | .int i, .int j, q => CMulW i j ∧ q (.int (i * j))
  | .str x, .int k, q => -(2 ^ 63) ≤ k ∧ x.length * k.toNat ≤ 16777216 ∧ k < 2 ^ 40 ∧ q (.str (repS x k))
  | .lst xs, .int k, q => -(2 ^ 63) ≤ k ∧ k < 2 ^ 63 ∧ xs.length * k.toNat ≤ sizeLine ∧ q (.lst (List.replicate k.toNat xs).flatten)
  | _, _, _ => False
theorem op2_mul : Op2 X 1 rrMul mulD := by
  intro Hs H x y d e Q q s hx hy r k
  cases d <;> cases e <;> first | exact r.elim | skip
  · cases hx; cases hy
    exact .inl ⟨_, _, rfl, rfl, r.1, k.scal s (d := .int _) rfl r.2⟩
  · cases hx; cases hy
    obtain ⟨r1, r2, r3, r4⟩ := r
    exact .inr (.inl ⟨_, _, rfl, rfl, r1, r2, r3, k.scal s (d := .str _) rfl r4⟩)
  · obtain ⟨a, xs, rfl, ha, rx⟩ := hx.seq s
    cases hy
    obtain ⟨r1, r2, r3, r4⟩ := r
    refine .inr (.inr ⟨a, _, xs, rfl, rfl, ha, r1, r2, by rw [rx.length]; exact r3, fun p hp => ?_⟩)
    exact k.newL s hp (rx.rep _) r4
def modD : D2
  | .int i, .int j, q => 0 < j ∧ q (.int (i % j))
  | _, _, _ => False
theorem op2_mod {n : Nat} : Op2 X n (rI (fun _ j => 0 < j) fun i j => .int (i % j)) modD := by
  intro Hs H x y d e Q q s hx hy r k
  cases d <;> cases e <;> first | exact r.elim | skip
  cases hx; cases hy
  exact ⟨_, _, rfl, rfl, r.1, k.scal s (d := .int _) rfl r.2⟩
def fdivD : D2
  | .int i, .int j, q => CDivW i j ∧ q (.int (i / j))
  | _, _, _ => False
theorem op2_fdiv {n : Nat} : Op2 X n (rI CDivW fun i j => .int (i / j)) fdivD := by
  intro Hs H x y d e Q q s hx hy r k
  cases d <;> cases e <;> first | exact r.elim | skip
  cases hx; cases hy
  exact ⟨_, _, rfl, rfl, r.1, k.scal s (d := .int _) rfl r.2⟩
def CPowW (i j : Int) : Prop := 0 ≤ j ∧ (Builtin.Int.intBits i : Int) * j ≤ 2 ^ 27
theorem op_powW : OpR X (binaryOp .Pow) (rI CPowW fun i j => .int (i ^ j.toNat)) := opI fun _ _ _ _ _ _ _ hc q => pow_int hc.1 hc.2 q
def powD : D2
  | .int i, .int j, q => CPowW i j ∧ q (.int (i ^ j.toNat))
  | _, _, _ => False
theorem op2_pow {n : Nat} : Op2 X n (rI CPowW fun i j => .int (i ^ j.toNat)) powD := by
  intro Hs H x y d e Q q s hx hy r k
  cases d <;> cases e <;> first | exact r.elim | skip
  cases hx; cases hy
  exact ⟨_, _, rfl, rfl, r.1, k.scal s (d := .int _) rfl r.2⟩
/-! ### comparisons -/
def cmpD (f : Int → Int → Bool) : D2
  | .int i, .int j, q => q (.bl (f i j))
  | _, _, _ => False
theorem op2_cmp {n : Nat} {f : Int → Int → Bool} : Op2 X n (rI0 fun i j => .bl (f i j)) (cmpD f) := by
  intro Hs H x y d e Q q s hx hy r k
  cases d <;> cases e <;> first | exact r.elim | skip
  cases hx; cases hy
  exact ⟨_, _, rfl, rfl, k.scal s (d := .bl _) rfl r⟩
def eqOk (d e : Dt) : Prop := d.plain ∧ e.plain ∧ SeqAt.shaped d.py = true ∧ SeqAt.shaped e.py = true
def rrEq (K : PySem.W.Frag) : R2 := fun x y H Q => rEq x y H Q ∨ rEqD K x y H Q
def rrNe (K : PySem.W.Frag) : R2 := fun x y H Q => rNe x y H Q ∨ rNeD K x y H Q
theorem op_eqA (hu : X.A.units + 64 < cLine) : OpR X (compareOp .Eq) (rrEq X.K) := OpR.or op_eq (op_eqD hu)
theorem op_neA (hu : X.A.units + 64 < cLine) : OpR X (compareOp .NotEq) (rrNe X.K) := OpR.or op_ne (op_neD hu)
def eqD : D2 := fun d e q => (∃ x y : Str, d = .str x ∧ e = .str y ∧ q (.bl (x == y))) ∨ (eqOk d e ∧ q (.bl (PyData.eqv d.py e.py)))
def neD : D2 := fun d e q => (∃ x y : Str, d = .str x ∧ e = .str y ∧ q (.bl (!(x == y)))) ∨ (eqOk d e ∧ q (.bl (!PyData.eqv d.py e.py)))
theorem op2_eq {n : Nat} : Op2 X n (rrEq X.K) eqD := by
  intro Hs H x y d e Q q s hx hy r k
  rcases r with ⟨i, j, rfl, rfl, r⟩ | ⟨⟨p1, p2, s1, s2⟩, r⟩
  · cases hx; cases hy
    refine .inl ⟨rfl, ?_⟩
    rw [dec_str]
    exact k.scal s (d := .bl _) rfl r
  · exact .inr ⟨_, _, (hx.same s).dp p1, (hy.same s).dp p2, s1, s2, k.scal s (d := .bl _) rfl r⟩
theorem op2_ne {n : Nat} : Op2 X n (rrNe X.K) neD := by
  intro Hs H x y d e Q q s hx hy r k
  rcases r with ⟨i, j, rfl, rfl, r⟩ | ⟨⟨p1, p2, s1, s2⟩, r⟩
  · cases hx; cases hy
    refine .inl ⟨rfl, ?_⟩
    rw [dec_str]
    exact k.scal s (d := .bl _) rfl r
  · exact .inr ⟨_, _, (hx.same s).dp p1, (hy.same s).dp p2, s1, s2, k.scal s (d := .bl _) rfl r⟩
def Dt.isNon : Dt → Bool
  | .non => true
  | _ => false
def noRaw : Dt → Prop
  | .raw v => v ≠ .non
  | _ => True
theorem Rp.isN {K : PySem.W.Frag} {H : Hp} {v : V} {d : Dt} (h : Rp K H v d) (n : noRaw d) : decide (v = .non) = d.isNon := by
  cases h with
  | non => rfl
  | raw v => exact decide_eq_false n
  | _ => rfl
def isD (neg : Bool) : D2 := fun d e q => e = .non ∧ noRaw d ∧ q (.bl (if neg then !d.isNon else d.isNon))
theorem op2_isN {n : Nat} : Op2 X n (fun x y H Q => y = .non ∧ Q (.bl (decide (x = .non))) H) (isD false) := by
  intro Hs H x y d e Q q s hx hy r k
  obtain ⟨rfl, nr, r⟩ := r
  cases hy
  refine ⟨rfl, ?_⟩
  rw [hx.isN nr]
  exact k.scal s (d := .bl _) rfl r
theorem op2_notN {n : Nat} : Op2 X n (fun x y H Q => y = .non ∧ Q (.bl (!decide (x = .non))) H) (isD true) := by
  intro Hs H x y d e Q q s hx hy r k
  obtain ⟨rfl, nr, r⟩ := r
  cases hy
  refine ⟨rfl, ?_⟩
  rw [hx.isN nr]
  exact k.scal s (d := .bl _) rfl r
/-- in: ints among ints, a sign in a text -/
def rrIn (K : PySem.W.Frag) : R2 := fun x y H Q => rIn K false x y H Q ∨ ∃ (c : Nat) (z : Str), x = .str ⟨#[c]⟩ ∧ y = .str z ∧ Q (.bl (decide (c ∈ z.cps.toList))) H
def rrNotIn (K : PySem.W.Frag) : R2 := fun x y H Q => rIn K true x y H Q ∨ ∃ (c : Nat) (z : Str), x = .str ⟨#[c]⟩ ∧ y = .str z ∧ Q (.bl (!decide (c ∈ z.cps.toList))) H
theorem op_inA : OpR X (compareOp .In) (rrIn X.K) := OpR.or op_in_seq op_in_sign
theorem op_notInA : OpR X (compareOp .NotIn) (rrNotIn X.K) := OpR.or op_notIn_seq op_notIn_sign
def inDat (neg : Bool) : D2 := fun d e q => (∃ i ns, d = .int i ∧ (e = .lst (List.map .int ns) ∨ e = .klst (List.map .int ns) ∨ e = .tup (List.map .int ns)) ∧ q (.bl (if neg then !decide (i ∈ ns) else decide (i ∈ ns)))) ∨
  (∃ x ns, d = .str x ∧ (e = .lst (List.map .str ns) ∨ e = .tup (List.map .str ns)) ∧ q (.bl (if neg then !decide (x ∈ ns) else decide (x ∈ ns)))) ∨
  ∃ c z, d = .str ⟨#[c]⟩ ∧ e = .str z ∧ q (.bl (if neg then !decide (c ∈ z.cps.toList) else decide (c ∈ z.cps.toList)))
theorem inV_ints (i : Int) : ∀ ns : List Int, inV (.int i) (ns.map V.int) = decide (i ∈ ns)
  | [] => rfl
  | n :: ns => by
    have ih := inV_ints i ns
    unfold inV at ih ⊢
    rw [List.map_cons, List.any_cons, ih]
    show ((n == i) || decide (i ∈ ns)) = decide (i ∈ n :: ns)
    by_cases e : i = n
    · subst e; simp
    · have e' : ¬ n = i := fun q => e q.symm
      simp [e, e']
theorem inV_strs (i : Str) : ∀ ns : List Str, inV (.str i) (ns.map V.str) = decide (i ∈ ns)
  | [] => rfl
  | n :: ns => by
    have ih := inV_strs i ns
    unfold inV at ih ⊢
    rw [List.map_cons, List.any_cons, ih]
    show ((n == i) || decide (i ∈ ns)) = decide (i ∈ n :: ns)
    by_cases e : i = n
    · subst e; simp
    · have e' : ¬ n = i := fun q => e q.symm
      simp [e, e']
theorem flat_ints (ns : List Int) : (ns.map V.int).all flatV = true := by
  rw [List.all_eq_true]
  intro x hx
  obtain ⟨n, _, rfl⟩ := List.mem_map.mp hx
  rfl
theorem flat_strs (ns : List Str) : (ns.map V.str).all flatV = true := by
  rw [List.all_eq_true]
  intro x hx
  obtain ⟨n, _, rfl⟩ := List.mem_map.mp hx
  rfl
theorem in_core {n : Nat} {neg : Bool} {Hs H : Hp} {x y : V} {d e : Dt} {Q : VK} {q : Dt → Prop} (s : Same Hs H) (hx : Rp X.K Hs x d) (hy : Rp X.K Hs y e) (r : inDat neg d e q) (k : GoP X.K n Hs H Q q) :
    rIn X.K neg x y H Q ∨ ∃ (c : Nat) (z : Str), x = .str ⟨#[c]⟩ ∧ y = .str z ∧ Q (.bl (if neg then !decide (c ∈ z.cps.toList) else decide (c ∈ z.cps.toList))) H := by
  rcases r with ⟨i, ns, rfl, he, r⟩ | ⟨i, ns, rfl, he, r⟩ | ⟨c, z, rfl, rfl, r⟩
  · cases hx
    left
    rcases he with rfl | rfl | rfl
    · obtain ⟨a, xs, rfl, ha, rx⟩ := hy.seq s
      have e := rx.ints
      subst e
      exact ⟨a, _, rfl, .inl (SqL.of ha), rfl, flat_ints ns, by rw [inV_ints]; exact k.scal s (d := .bl _) rfl r⟩
    · obtain ⟨a, xs, rfl, ha, rx⟩ := hy.kseq s
      have e := rx.ints
      subst e
      exact ⟨a, _, rfl, .inl ha, rfl, flat_ints ns, by rw [inV_ints]; exact k.scal s (d := .bl _) rfl r⟩
    · obtain ⟨a, xs, rfl, ha, rx⟩ := hy.tseq s
      have e := rx.ints
      subst e
      exact ⟨a, _, rfl, .inr ha, rfl, flat_ints ns, by rw [inV_ints]; exact k.scal s (d := .bl _) rfl r⟩
  · cases hx
    left
    rcases he with rfl | rfl
    · obtain ⟨a, xs, rfl, ha, rx⟩ := hy.seq s
      have e := rx.strs
      subst e
      exact ⟨a, _, rfl, .inl (SqL.of ha), rfl, flat_strs ns, by rw [inV_strs]; exact k.scal s (d := .bl _) rfl r⟩
    · obtain ⟨a, xs, rfl, ha, rx⟩ := hy.tseq s
      have e := rx.strs
      subst e
      exact ⟨a, _, rfl, .inr ha, rfl, flat_strs ns, by rw [inV_strs]; exact k.scal s (d := .bl _) rfl r⟩
  · cases hx; cases hy
    exact .inr ⟨c, z, rfl, rfl, k.scal s (d := .bl _) rfl r⟩
theorem op2_in {n : Nat} : Op2 X n (rrIn X.K) (inDat false) := fun s hx hy r k => in_core s hx hy r k
theorem op2_notIn {n : Nat} : Op2 X n (rrNotIn X.K) (inDat true) := fun s hx hy r k => in_core s hx hy r k

/-! ### subscripts -/
def ixD : D2
  | .lst ds, .int i, q => ∃ d, atI ds i = some d ∧ q d
  | .klst ds, .int i, q => ∃ d, atI ds i = some d ∧ q d
  | .tup ds, .int i, q => ∃ d, atI ds i = some d ∧ q d
  | .str z, .int i, q => z.length ≤ sizeLine ∧ ∃ c, atI z.cps.toList i = some c ∧ q (.str ⟨#[c]⟩)
  | _, _, _ => False
theorem RpL.atI {K : PySem.W.Frag} {H : Hp} {vs : List V} {ds : List Dt} {i : Int} {d : Dt} (h : RpL K H vs ds) (e : L2.atI ds i = some d) : ∃ v, L2.atI vs i = some v ∧ Rp K H v d := by
  unfold L2.atI at e ⊢
  rw [h.length]
  cases z : ixN ds.length i with
  | none => rw [z] at e; cases e
  | some j =>
    rw [z] at e
    exact h.get e
theorem op2_ix : Op2 X 0 (rIx X.K) ixD := by
  intro Hs H x y d e Q q s hx hy r k
  cases d <;> cases e <;> first | exact r.elim | skip
  · cases hx; cases hy
    obtain ⟨hz, c, hc, r⟩ := r
    exact .inr (.inr ⟨_, _, c, rfl, rfl, hz, hc, k.scal s (d := .str _) rfl r⟩)
  · obtain ⟨a, xs, rfl, ha, rx⟩ := hx.seq s
    cases hy
    obtain ⟨d, hd, r⟩ := r
    obtain ⟨v, hv, rv⟩ := rx.atI hd
    exact .inl ⟨a, xs, _, v, rfl, rfl, SqL.of ha, hv, k.rp s rv r⟩
  · obtain ⟨a, xs, rfl, ha, rx⟩ := hx.tseq s
    cases hy
    obtain ⟨d, hd, r⟩ := r
    obtain ⟨v, hv, rv⟩ := rx.atI hd
    exact .inr (.inl ⟨a, xs, _, v, rfl, rfl, ha, hv, k.rp s rv r⟩)
  · obtain ⟨a, xs, rfl, ha, rx⟩ := hx.kseq s
    cases hy
    obtain ⟨d, hd, r⟩ := r
    obtain ⟨v, hv, rv⟩ := rx.atI hd
    exact .inl ⟨a, xs, _, v, rfl, rfl, ha, hv, k.rp s rv r⟩

/-! ### built-in functions -/
def lenD : D1
  | [.lst ds], q => q (.int ds.length)
  | [.klst ds], q => q (.int ds.length)
  | [.tup ds], q => q (.int ds.length)
  | [.str z], q => z.length ≤ sizeLine ∧ q (.int z.length)
  | _, _ => False
def rrLen (K : PySem.W.Frag) : List V → Hp → VK → Prop := fun xs H Q => (∃ p ys, xs = [.ref p] ∧ (SqL K H p ys ∨ SqT K H p ys) ∧ Q (.int ys.length) H) ∨ ∃ z, xs = [.str z] ∧ z.length ≤ sizeLine ∧ Q (.int z.length) H
theorem call_lenA : CallR X (.builtin "len") (rrLen X.K) := CallR.or call_len_seq call_len_str
theorem RpL.one {K : PySem.W.Frag} {H : Hp} {vs : List V} {d : Dt} (h : RpL K H vs [d]) : ∃ v, vs = [v] ∧ Rp K H v d := by
  cases h with
  | cons h r => cases r; exact ⟨_, rfl, h⟩
theorem RpL.two {K : PySem.W.Frag} {H : Hp} {vs : List V} {d e : Dt} (h : RpL K H vs [d, e]) : ∃ v u, vs = [v, u] ∧ Rp K H v d ∧ Rp K H u e := by
  cases h with
  | cons h r =>
    obtain ⟨u, e1, r1⟩ := r.one
    subst e1
    exact ⟨_, _, rfl, h, r1⟩
theorem cal_len {n : Nat} : Cal X n (rrLen X.K) lenD := by
  intro Hs H vs ds Q q s hr r k
  unfold lenD at r
  split at r
  · obtain ⟨v, rfl, h⟩ := hr.one
    obtain ⟨a, xs, rfl, ha, rx⟩ := h.seq s
    exact .inl ⟨a, xs, rfl, .inl (SqL.of ha), by rw [rx.length]; exact k.scal s (d := .int _) rfl r⟩
  · obtain ⟨v, rfl, h⟩ := hr.one
    obtain ⟨a, xs, rfl, ha, rx⟩ := h.kseq s
    exact .inl ⟨a, xs, rfl, .inl ha, by rw [rx.length]; exact k.scal s (d := .int _) rfl r⟩
  · obtain ⟨v, rfl, h⟩ := hr.one
    obtain ⟨a, xs, rfl, ha, rx⟩ := h.tseq s
    exact .inl ⟨a, xs, rfl, .inr ha, by rw [rx.length]; exact k.scal s (d := .int _) rfl r⟩
  · obtain ⟨v, rfl, h⟩ := hr.one
    cases h
    exact .inr ⟨_, rfl, r.1, k.scal s (d := .int _) rfl r.2⟩
  · exact r.elim
def absD : D1
  | [.int i], q => q (.int (if i < 0 then -i else i))
  | _, _ => False
theorem cal_abs {n : Nat} : Cal X n (fun xs H Q => ∃ i, xs = [.int i] ∧ Q (.int (if i < 0 then -i else i)) H) absD := by
  intro Hs H vs ds Q q s hr r k
  unfold absD at r
  split at r
  · obtain ⟨v, rfl, h⟩ := hr.one
    cases h
    exact ⟨_, rfl, k.scal s (d := .int _) rfl r⟩
  · exact r.elim
/-- max, min: of two ints, of a list of ints -/
def rrMax (K : PySem.W.Frag) : List V → Hp → VK → Prop := fun xs H Q => (∃ i j, xs = [.int i, .int j] ∧ Q (.int (if j > i then j else i)) H) ∨ rMax K xs H Q
def rrMin (K : PySem.W.Frag) : List V → Hp → VK → Prop := fun xs H Q => (∃ i j, xs = [.int i, .int j] ∧ Q (.int (if j < i then j else i)) H) ∨ rMin K xs H Q
theorem call_maxA (hc : X.calm = true) : CallR X (.builtin "max") (rrMax X.K) := CallR.or (call_max2 hc) (cr_max hc)
theorem call_minA (hc : X.calm = true) : CallR X (.builtin "min") (rrMin X.K) := CallR.or (call_min2 hc) (cr_min hc)
def maxD : D1 := fun ds q => (∃ i j, ds = [.int i, .int j] ∧ q (.int (if j > i then j else i))) ∨ ∃ ns : List Int, ds = [.lst (ns.map .int)] ∧ 0 < ns.length ∧ ∀ m, m ∈ ns → (∀ y, y ∈ ns → y ≤ m) → q (.int m)
def minD : D1 := fun ds q => (∃ i j, ds = [.int i, .int j] ∧ q (.int (if j < i then j else i))) ∨ ∃ ns : List Int, ds = [.lst (ns.map .int)] ∧ 0 < ns.length ∧ ∀ m, m ∈ ns → (∀ y, y ∈ ns → m ≤ y) → q (.int m)
theorem cal_max {n : Nat} : Cal X n (rrMax X.K) maxD := by
  intro Hs H vs ds Q q s hr r k
  rcases r with ⟨i, j, rfl, r⟩ | ⟨ns, rfl, h0, r⟩
  · obtain ⟨v, u, rfl, h1, h2⟩ := hr.two
    cases h1; cases h2
    exact .inl ⟨_, _, rfl, k.scal s (d := .int _) rfl r⟩
  · obtain ⟨v, rfl, h⟩ := hr.one
    obtain ⟨a, xs, rfl, ha, rx⟩ := h.seq s
    have e := rx.ints
    subst e
    exact .inr ⟨a, ns, rfl, SqL.of ha, h0, fun m h1 h2 => k.scal s (d := .int _) rfl (r m h1 h2)⟩
theorem cal_min {n : Nat} : Cal X n (rrMin X.K) minD := by
  intro Hs H vs ds Q q s hr r k
  rcases r with ⟨i, j, rfl, r⟩ | ⟨ns, rfl, h0, r⟩
  · obtain ⟨v, u, rfl, h1, h2⟩ := hr.two
    cases h1; cases h2
    exact .inl ⟨_, _, rfl, k.scal s (d := .int _) rfl r⟩
  · obtain ⟨v, rfl, h⟩ := hr.one
    obtain ⟨a, xs, rfl, ha, rx⟩ := h.seq s
    have e := rx.ints
    subst e
    exact .inr ⟨a, ns, rfl, SqL.of ha, h0, fun m h1 h2 => k.scal s (d := .int _) rfl (r m h1 h2)⟩
def sumD : D1 := fun ds q => ∃ ns : List Int, ds = [.lst (ns.map .int)] ∧ q (.int ns.sum)
theorem cal_sum {n : Nat} : Cal X n (rSum X.K) sumD := by
  intro Hs H vs ds Q q s hr r k
  obtain ⟨ns, rfl, r⟩ := r
  obtain ⟨v, rfl, h⟩ := hr.one
  obtain ⟨a, xs, rfl, ha, rx⟩ := h.seq s
  have e := rx.ints
  subst e
  exact ⟨a, ns, rfl, SqL.of ha, k.scal s (d := .int _) rfl r⟩
def allD : D1 := fun ds q => ∃ ns : List Bool, ds = [.lst (ns.map .bl)] ∧ q (.bl (ns.all id))
theorem cal_all {n : Nat} : Cal X n (rAll X.K) allD := by
  intro Hs H vs ds Q q s hr r k
  obtain ⟨ns, rfl, r⟩ := r
  obtain ⟨v, rfl, h⟩ := hr.one
  obtain ⟨a, xs, rfl, ha, rx⟩ := h.seq s
  have e := rx.bls
  subst e
  exact ⟨a, ns, rfl, SqL.of ha, k.scal s (d := .bl _) rfl r⟩
def intD : D1
  | [.int i], q => q (.int i)
  | [.bl b], q => q (.int (if b then 1 else 0))
  | _, _ => False
theorem cal_int {n : Nat} : Cal X n (fun xs H Q => (∃ i, xs = [.int i] ∧ Q (.int i) H) ∨ ∃ k, xs = [.bl k] ∧ Q (.int (if k then 1 else 0)) H) intD := by
  intro Hs H vs ds Q q s hr r k
  unfold intD at r
  split at r
  · obtain ⟨v, rfl, h⟩ := hr.one
    cases h
    exact .inl ⟨_, rfl, k.scal s (d := .int _) rfl r⟩
  · obtain ⟨v, rfl, h⟩ := hr.one
    cases h
    exact .inr ⟨_, rfl, k.scal s (d := .int _) rfl r⟩
  · exact r.elim
def strD : D1
  | [.int i], q => i.natAbs.log2 < 1920 ∧ q (.str (toString i))
  | _, _ => False
theorem cal_str {n : Nat} : Cal X n (fun xs H Q => ∃ i, xs = [.int i] ∧ i.natAbs.log2 < 1920 ∧ Q (.str (toString i)) H) strD := by
  intro Hs H vs ds Q q s hr r k
  unfold strD at r
  split at r
  · obtain ⟨v, rfl, h⟩ := hr.one
    cases h
    exact ⟨_, rfl, r.1, k.scal s (d := .str _) rfl r.2⟩
  · exact r.elim
def listD : D1
  | [.lst ds], q => q (.lst ds)
  | [.klst ds], q => q (.lst ds)
  | [.tup ds], q => q (.lst ds)
  | _, _ => False
theorem cal_list : Cal X 1 (fun xs H Q => ∃ p ys, xs = [.ref p] ∧ (SqL X.K H p ys ∨ SqT X.K H p ys) ∧ ∀ l, H l = none → Q (.ref l) (upd H l (.lst ys))) listD := by
  intro Hs H vs ds Q q s hr r k
  unfold listD at r
  split at r
  · obtain ⟨v, rfl, h⟩ := hr.one
    obtain ⟨a, xs, rfl, ha, rx⟩ := h.seq s
    exact ⟨a, xs, rfl, .inl (SqL.of ha), fun p hp => k.newL s hp rx r⟩
  · obtain ⟨v, rfl, h⟩ := hr.one
    obtain ⟨a, xs, rfl, ha, rx⟩ := h.kseq s
    exact ⟨a, xs, rfl, .inl ha, fun p hp => k.newL s hp rx r⟩
  · obtain ⟨v, rfl, h⟩ := hr.one
    obtain ⟨a, xs, rfl, ha, rx⟩ := h.tseq s
    exact ⟨a, xs, rfl, .inr ha, fun p hp => k.newL s hp rx r⟩
  · exact r.elim
def sortedD : D1 := fun ds q => ∃ ns : List Int, ds = [.lst (ns.map .int)] ∧ ∀ ns' : List Int, ns'.Perm ns → ns'.Pairwise (· ≤ ·) → q (.lst (ns'.map .int))
theorem cal_sorted : Cal X 1 (rSortedI X.K) sortedD := by
  intro Hs H vs ds Q q s hr r k
  obtain ⟨ns, rfl, r⟩ := r
  obtain ⟨v, rfl, h⟩ := hr.one
  obtain ⟨a, xs, rfl, ha, rx⟩ := h.seq s
  have e := rx.ints
  subst e
  exact ⟨a, ns, rfl, SqL.of ha, fun ns' p h1 h2 hp => k.newL s hp (RpL.of_ints ns') (r ns' h1 h2)⟩
/-- repr -/
def rRepr (K : PySem.W.Frag) : List V → Hp → VK → Prop := fun xs H Q => ∃ x d, xs = [x] ∧ Dp K H x d ∧ SeqAt.shaped d = true ∧ d.showable = true ∧ d.shown.length ≤ sizeLine ∧ Q (.str d.shown) H
theorem call_repr (hg : X.A.guards = some []) (hu : X.A.units + 70 < cLine) : CallR X (.builtin "repr") (rRepr X.K) := by
  intro pins s σ H xs us Q I r h
  obtain ⟨x, d, rfl, hd, sh, sw, sz, q⟩ := h
  obtain ⟨u, rfl, ru⟩ := r.one
  obtain ⟨as, rd⟩ := Dp.reads I d x u hd ru
  have dep : d.depth ≤ 64 := SeqAt.depth_of_shaped sh
  cases hd with
  | non =>
    cases ru
    exact PySem.P.repr_of_none ⟨.str _, H, I.tok _, ⟨_, rfl⟩, q⟩
  | bl b =>
    cases ru
    exact PySem.P.repr_of_bool ⟨.str _, H, I.tok _, ⟨_, rfl⟩, q⟩
  | int i =>
    obtain ⟨t, rfl⟩ := ru
    exact PySem.P.repr_of_int (of_decide_eq_true sw) ⟨.str _, H, I.tok _, ⟨_, rfl⟩, q⟩
  | str z =>
    obtain ⟨t, rfl⟩ := ru
    exact PySem.P.repr_of_str ⟨.str _, H, I.tok _, ⟨_, rfl⟩, q⟩ sz
  | lst h1 h2 =>
    cases ru
    exact repr_of_reads' rd sw (PyData.noDict_hsm (PyData.hasDict_of_canLay _ (SeqAt.canLay_of_shaped sh))) hg (by omega) (fun _ _ e => e) (fun h' u tk hk => ⟨.str _, H, I.kept hk, ⟨_, rfl⟩, q⟩) sz
  | tup h1 h2 =>
    cases ru
    exact repr_of_reads' rd sw (PyData.noDict_hsm (PyData.hasDict_of_canLay _ (SeqAt.canLay_of_shaped sh))) hg (by omega) (fun _ _ e => e) (fun h' u tk hk => ⟨.str _, H, I.kept hk, ⟨_, rfl⟩, q⟩) sz
def showOk (d : Dt) : Prop := d.plain ∧ SeqAt.shaped d.py = true ∧ d.py.showable = true ∧ d.py.shown.length ≤ sizeLine
def reprD : D1
  | [d], q => showOk d ∧ q (.str d.py.shown)
  | _, _ => False
theorem cal_repr {n : Nat} : Cal X n (rRepr X.K) reprD := by
  intro Hs H vs ds Q q s hr r k
  unfold reprD at r
  split at r
  · obtain ⟨v, rfl, h⟩ := hr.one
    obtain ⟨⟨p, sh, sw, sz⟩, r⟩ := r
    exact ⟨v, _, rfl, (h.same s).dp p, sh, sw, sz, k.scal s (d := .str _) rfl r⟩
  · exact r.elim
end
end Vl

/-! Vl5: what is walked, targets, comprehensions, statements. -/
namespace Vl
open PySem L2
section
variable {G : Type} {X : Cx} {Z : Vo G} {W : WX} {M : Nat → Nat} {n nr : Nat}

/-! ### what is walked -/
structure Wk (K : PySem.W.Frag) (Hs : Hp) (J : It) (ds : List Dt) : Prop where
  go : ∀ (i : Nat) (Hs' H' : Hp), i < ds.length → Same Hs Hs' → Same Hs' H' → J.go i H'
  yl : ∀ (i : Nat) (Hs' H' : Hp) (x : V) (H'' : Hp) (d : Dt), ds[i]? = some d → Same Hs Hs' → Same Hs' H' → J.yld i H' x H'' → ∃ Hs'', Step [] Hs' H' Hs'' H'' ∧ Rp K Hs'' x d
  stop : ∀ (i : Nat) (Hs' H' : Hp), ds.length ≤ i → Same Hs Hs' → Same Hs' H' → J.stop i H'
abbrev WI (G : Type) := Env → G → (List Dt → G → Prop) → XD G → Prop
def DI (X : Cx) (Z : Vo G) (W : WX) (M : Nat → Nat) (tg iter : Expr) (w : WI G) : Prop :=
  ∃ wi, PI X tg iter wi ∧ ∀ {Hs0 H0 Hs H : Hp} {σ : St} {env : Env} {fp : Nat → List Addr} {g : G} {R : It → Hp → Prop} {Qd : List Dt → G → Prop} {Ed : XD G},
    SR X.K M Z.vol Hs0 H0 Hs H σ env fp → Z.P g H → w env g Qd Ed → (∀ ds g J Hs' H', Qd ds g → Step Z.vol Hs H Hs' H' → Wk X.K Hs' J ds → Z.P g H' → R J H') → GoX Z W Hs H σ Ed → wi σ H R
variable {tg e : Expr} {w : WE G} {u : WA G} {pos p' tpos : Pos}
theorem wk_list {K : PySem.W.Frag} {Hs : Hp} {a : Addr} {xs : List V} {ds : List Dt} (h : SqL K Hs a xs) (r : RpL K Hs xs ds) : Wk K Hs (Itl K a) ds where
  go := fun i Hs' H' hi s1 s2 => by
    have hx : i < xs.length := by rw [r.length]; exact hi
    exact ⟨xs, xs[i], (s1.trans s2).seq h, List.getElem?_eq_getElem hx⟩
  yl := fun i Hs' H' x H'' d hd s1 s2 y => by
    obtain ⟨e, y⟩ := y
    subst e
    obtain ⟨v, hv, rv⟩ := r.get hd
    have q := y xs ((s1.trans s2).seq h)
    rw [hv] at q
    cases q
    exact ⟨Hs', Step.refl s2, rv.same s1⟩
  stop := fun i Hs' H' hi s1 s2 => ⟨xs, (s1.trans s2).seq h, by rw [r.length]; exact hi⟩
/-- the items of a list, of a known list -/
def wItems (w : WE G) : WI G := fun env g Q E => w env g (fun d g' => (∃ ds, d = .lst ds ∧ Q ds g') ∨ ∃ ds, d = .klst ds ∧ Q ds g') E
theorem di_list (h : DE X Z W M 0 e w) : DI X Z W M tg e (wItems w) := by
  obtain ⟨t, pe, r⟩ := h
  refine ⟨_, pi_list pe, fun {Hs0 H0 Hs H σ env fp g R Qd Ed} S p q k x => r S p q (fun d g' v Hs' H' f e s o nd fr p' => ?_) x⟩
  have rr := o.2
  rcases e with ⟨ds, rfl, e⟩ | ⟨ds, rfl, e⟩
  · cases rr with
    | lst h r => exact ⟨_, rfl, ⟨_, SqL.of (s.s4 _ _ h)⟩, k ds g' _ Hs' H' e s (wk_list (SqL.of h) r) p'⟩
  · cases rr with
    | klst h r => exact ⟨_, rfl, ⟨_, s.s4.seq h⟩, k ds g' _ Hs' H' e s (wk_list h r) p'⟩
theorem wk_tup {K : PySem.W.Frag} {Hs : Hp} {a : Addr} {xs : List V} {ds : List Dt} (h : SqT K Hs a xs) (r : RpL K Hs xs ds) : Wk K Hs (Itt K a) ds where
  go := fun i Hs' H' hi s1 s2 => by
    have hx : i < xs.length := by rw [r.length]; exact hi
    exact ⟨xs, xs[i], same_sqt (s1.trans s2) h, List.getElem?_eq_getElem hx⟩
  yl := fun i Hs' H' x H'' d hd s1 s2 y => by
    obtain ⟨e, y⟩ := y
    subst e
    obtain ⟨v, hv, rv⟩ := r.get hd
    have q := y xs (same_sqt (s1.trans s2) h)
    rw [hv] at q
    cases q
    exact ⟨Hs', Step.refl s2, rv.same s1⟩
  stop := fun i Hs' H' hi s1 s2 => ⟨xs, same_sqt (s1.trans s2) h, by rw [r.length]; exact hi⟩
def wItemsT (w : WE G) : WI G := fun env g Q E => w env g (fun d g' => ∃ ds, d = .tup ds ∧ Q ds g') E
theorem di_tup (h : DE X Z W M 0 e w) : DI X Z W M tg e (wItemsT w) := by
  obtain ⟨t, pe, r⟩ := h
  refine ⟨_, pi_tup pe, fun {Hs0 H0 Hs H σ env fp g R Qd Ed} S p q k x => r S p q (fun d g' v Hs' H' f e s o nd fr p' => ?_) x⟩
  have rr := o.2
  obtain ⟨ds, rfl, e⟩ := e
  cases rr with
  | tup h r => exact ⟨_, rfl, ⟨_, same_sqt s.s4 h⟩, k ds g' _ Hs' H' e s (wk_tup h r) p'⟩
/-- the signs of a text -/
def signs (z : Str) : List Dt := z.cps.toList.map fun c => .str ⟨#[c]⟩
def wSigns (w : WE G) : WI G := fun env g Q E => w env g (fun d g' => ∃ z, d = .str z ∧ Q (signs z) g') E
theorem di_str (h : DE X Z W M 0 e w) : DI X Z W M tg e (wSigns w) := by
  obtain ⟨t, pe, r⟩ := h
  refine ⟨_, pi_str pe, fun {Hs0 H0 Hs H σ env fp g R Qd Ed} S p q k x => r S p q (fun d g' v Hs' H' f e s o nd fr p' => ?_) x⟩
  have rr := o.2
  obtain ⟨z, rfl, e⟩ := e
  cases rr
  have hl : (signs z).length = z.cps.size := by unfold signs; rw [List.length_map, Array.length_toList]
  refine ⟨z, rfl, k (signs z) g' _ Hs' H' e s ⟨fun i _ _ hi _ _ => by rw [hl] at hi; exact hi, fun i Hs' H' x H'' d hd s1 s2 y => ?_, fun i _ _ hi _ _ => by rw [hl] at hi; exact hi⟩ p'⟩
  obtain ⟨e, c, hc, ex⟩ := y
  subst e
  subst ex
  unfold signs at hd
  rw [List.getElem?_map, Array.getElem?_toList, hc] at hd
  cases hd
  exact ⟨Hs', Step.refl s2, .str _⟩
/-- lo, lo + 1, .., n of them -/
def rngI (lo : Int) (n : Nat) : List Dt := (List.range n).map fun i => .int (lo + (i : Nat))
theorem rngI_len {lo : Int} {n : Nat} : (rngI lo n).length = n := by unfold rngI; rw [List.length_map, List.length_range]
theorem wk_range {K : PySem.W.Frag} {Hs : Hp} {lo : Int} {n : Nat} : Wk K Hs (Itr lo n) (rngI lo n) where
  go := fun i _ _ hi _ _ => by rw [rngI_len] at hi; exact hi
  yl := fun i Hs' H' x H'' d hd s1 s2 y => by
    obtain ⟨e, ex⟩ := y
    subst e
    subst ex
    have hi : i < n := by
      have q := (List.getElem?_eq_some_iff.mp hd).1
      rw [rngI_len] at q
      exact q
    unfold rngI at hd
    rw [List.getElem?_map, List.getElem?_range hi] at hd
    cases hd
    exact ⟨Hs', Step.refl s2, .int _⟩
  stop := fun i _ _ hi _ _ => by rw [rngI_len] at hi; exact hi
def wRng1 (u : WA G) : WI G := fun env g Q E => u env g (fun ds g' => ∃ j : Int, ds = [.int j] ∧ -(2 ^ 62) ≤ j ∧ j < 2 ^ 62 ∧ Q (rngI 0 j.toNat) g') E
def wRng2 (u : WA G) : WI G := fun env g Q E => u env g (fun ds g' => ∃ i j : Int, ds = [.int i, .int j] ∧ (-(2 ^ 62) ≤ i ∧ i < 2 ^ 62 ∧ -(2 ^ 62) ≤ j ∧ j < 2 ^ 62) ∧ Q (rngI i (j - i).toNat) g') E
theorem di_rng1 {a : Expr} (hg : Gl X "range") (hm : X.mg "range" = none) (ha : DA X Z W M [a] u) (hs : starEach [a] X.env = [(false, eval a X.env)] := by rfl) : DI X Z W M tg (.Call (.Name "range" p') [a] [] pos) (wRng1 u) := by
  obtain ⟨t, pa, r⟩ := ha
  refine ⟨_, pi_range1 hg hm pa hs, fun {Hs0 H0 Hs H σ env fp g R Qd Ed} S p q k x => r S p q (fun ds g' vs Hs' H' e s o p' => ?_) x⟩
  obtain ⟨j, rfl, h1, h2, e⟩ := e
  obtain ⟨v, rfl, h⟩ := o.one
  cases h
  exact ⟨j, rfl, h1, h2, k _ g' _ Hs' H' e s wk_range p'⟩
theorem di_rng2 {a b : Expr} (hg : Gl X "range") (hm : X.mg "range" = none) (ha : DA X Z W M [a, b] u) (hs : starEach [a, b] X.env = [(false, eval a X.env), (false, eval b X.env)] := by rfl) (hs2 : starEach [b] X.env = [(false, eval b X.env)] := by rfl) :
    DI X Z W M tg (.Call (.Name "range" p') [a, b] [] pos) (wRng2 u) := by
  obtain ⟨t, pa, r⟩ := ha
  refine ⟨_, pi_range2 hg hm pa hs hs2, fun {Hs0 H0 Hs H σ env fp g R Qd Ed} S p q k x => r S p q (fun ds g' vs Hs' H' e s o p' => ?_) x⟩
  obtain ⟨i, j, rfl, h1, e⟩ := e
  obtain ⟨v, v2, rfl, h, h'⟩ := o.two
  cases h; cases h'
  exact ⟨i, j, rfl, h1, k _ g' _ Hs' H' e s wk_range p'⟩
/-- lo, lo + c, .., n of them -/
def rngC (lo c : Int) (n : Nat) : List Dt := (List.range n).map fun i => .int (lo + (i : Nat) * c)
theorem rngC_len {lo c : Int} {n : Nat} : (rngC lo c n).length = n := by unfold rngC; rw [List.length_map, List.length_range]
def wRng3 (u : WA G) : WI G := fun env g Q E => u env g (fun ds g' => ∃ (i j c : Int) (n : Nat), ds = [.int i, .int j, .int c] ∧ RgC i j c n ∧ Q (rngC i c n) g') E
theorem di_rng3 {a b c : Expr} (hg : Gl X "range") (hm : X.mg "range" = none) (ha : DA X Z W M [a, b, c] u)
    (hs : starEach [a, b, c] X.env = (false, eval a X.env) :: starEach [b, c] X.env := by rfl) (hpl : (backTo pos (starEach [b, c] X.env)).any (·.1) = false := by rfl) :
    DI X Z W M tg (.Call (.Name "range" p') [a, b, c] [] pos) (wRng3 u) := by
  obtain ⟨t, pa, r⟩ := ha
  refine ⟨_, pi_range3 hg hm pa hs hpl, fun {Hs0 H0 Hs H σ env fp g R Qd Ed} S p q k x => r S p q (fun ds g' vs Hs' H' e s o p' => ?_) x⟩
  obtain ⟨i, j, c, n, rfl, h1, e⟩ := e
  cases o with
  | cons h1' o =>
    obtain ⟨v, v2, rfl, h, h'⟩ := o.two
    cases h1'; cases h; cases h'
    refine ⟨i, j, c, n, rfl, h1, k _ g' _ Hs' H' e s ⟨fun i _ _ hi _ _ => by rw [rngC_len] at hi; exact hi, fun i' Hs' H' x H'' d hd s1 s2 y => ?_, fun i _ _ hi _ _ => by rw [rngC_len] at hi; exact hi⟩ p'⟩
    obtain ⟨e, ex⟩ := y
    subst e
    subst ex
    have hi : i' < n := by
      have q := (List.getElem?_eq_some_iff.mp hd).1
      rw [rngC_len] at q
      exact q
    unfold rngC at hd
    rw [List.getElem?_map, List.getElem?_range hi] at hd
    cases hd
    exact ⟨Hs', Step.refl s2, .int _⟩
/-- a pair that a walk has made -/
theorem wk_pair {K : PySem.W.Frag} {Hs H : Hp} (s : Same Hs H) {T : Addr} {x y : V} {d e : Dt} (hT : H T = none) (h1 : Rp K Hs x d) (h2 : Rp K Hs y e) : ∃ Hs'', Step [] Hs H Hs'' (upd H T (.tup [x, y])) ∧ Rp K Hs'' (.ref T) (.tup [d, e]) := by
  have hs : Hs T = none := s.free hT
  have st := (Step.new (vol := []) (o := .tup [x, y]) s hT).freeze (f := [T]) (fun b hb => by rw [List.mem_singleton.mp hb]; exact hT) (fun b hb => by rw [List.mem_singleton.mp hb]; exact hs)
  refine ⟨_, st, .tup (SqT.of ?_) (.cons (h1.same st.s1) (.cons (h2.same st.s1) .nil))⟩
  rw [frz_in (List.mem_singleton.mpr rfl), upd_same]
/-- enumerate -/
def pairsE (ds : List Dt) : List Dt := ds.mapIdx fun i d => .tup [.int (i : Nat), d]
def wEnum (u : WA G) : WI G := fun env g Q E => u env g (fun as g' => ∃ ds, as = [.lst ds] ∧ Q (pairsE ds) g') E
theorem di_enum {a : Expr} {elts : List Expr} {kk : Nat} (hg : Gl X "enumerate") (hm : X.mg "enumerate" = none) (ha : DA X Z W M [a] u) (hs : starEach [a] X.env = [(false, eval a X.env)] := by rfl) :
    DI X Z W M (.Tuple elts kk tpos) (.Call (.Name "enumerate" p') [a] [] pos) (wEnum u) := by
  obtain ⟨t, pa, r⟩ := ha
  refine ⟨_, pi_enum hg hm pa hs, fun {Hs0 H0 Hs H σ env fp g R Qd Ed} S p q k x => r S p q (fun as g' vs Hs' H' e s o p' => ?_) x⟩
  obtain ⟨ds, rfl, e⟩ := e
  obtain ⟨v, rfl, h⟩ := o.one
  cases h with
  | lst h rr =>
    rename_i a xs
    have hl : (pairsE ds).length = ds.length := by unfold pairsE; rw [List.length_mapIdx]
    refine ⟨a, xs, rfl, SqL.of (s.s4 _ _ h), k _ g' _ Hs' H' e s ⟨fun i Hs2 H2 hi s1 s2 => ?_, fun i Hs2 H2 x H'' d hd s1 s2 y => ?_, fun i Hs2 H2 hi s1 s2 => ?_⟩ p'⟩
    · rw [hl, ← rr.length] at hi
      exact ⟨xs, xs[i], SqL.of (s2 _ _ (s1 _ _ h)), List.getElem?_eq_getElem hi⟩
    · obtain ⟨T, x', ex, hT, eH, y⟩ := y
      subst ex
      subst eH
      unfold pairsE at hd
      rw [List.getElem?_mapIdx] at hd
      cases z : ds[i]? with
      | none => rw [z] at hd; cases hd
      | some d0 =>
        rw [z] at hd
        cases hd
        obtain ⟨v, hv, rv⟩ := rr.get z
        have q := y xs (SqL.of (s2 _ _ (s1 _ _ h)))
        rw [hv] at q
        cases q
        exact wk_pair s2 hT (.int _) (rv.same s1)
    · rw [hl, ← rr.length] at hi
      exact ⟨xs, SqL.of (s2 _ _ (s1 _ _ h)), hi⟩
/-- zip -/
def pairsZ (ds es : List Dt) : List Dt := (ds.zip es).map fun p => .tup [p.1, p.2]
def wZip (u : WA G) : WI G := fun env g Q E => u env g (fun as g' => ∃ ds es, as = [.lst ds, .lst es] ∧ Q (pairsZ ds es) g') E
theorem di_zip {a b : Expr} {elts : List Expr} {kk : Nat} (hg : Gl X "zip") (hm : X.mg "zip" = none) (ha : DA X Z W M [a, b] u)
    (hs : starEach [a, b] X.env = (false, eval a X.env) :: starEach [b] X.env := by rfl) (hpl : (backTo pos (starEach [b] X.env)).any (·.1) = false := by rfl) :
    DI X Z W M (.Tuple elts kk tpos) (.Call (.Name "zip" p') [a, b] [] pos) (wZip u) := by
  obtain ⟨t, pa, r⟩ := ha
  refine ⟨_, pi_zip hg hm pa hs hpl, fun {Hs0 H0 Hs H σ env fp g R Qd Ed} S p q k x => r S p q (fun as g' vs Hs' H' e s o p' => ?_) x⟩
  obtain ⟨ds, es, rfl, e⟩ := e
  obtain ⟨v, v2, rfl, h, h'⟩ := o.two
  cases h with
  | lst h rr =>
    cases h' with
    | lst h' rr' =>
      rename_i a xs b ys
      have hl : (pairsZ ds es).length = min ds.length es.length := by unfold pairsZ; rw [List.length_map, List.length_zip]
      refine ⟨a, b, xs, ys, rfl, SqL.of (s.s4 _ _ h), SqL.of (s.s4 _ _ h'), k _ g' _ Hs' H' e s ⟨fun i Hs2 H2 hi s1 s2 => ?_, fun i Hs2 H2 x H'' d hd s1 s2 y => ?_, fun i Hs2 H2 hi s1 s2 => ?_⟩ p'⟩
      · rw [hl, ← rr.length, ← rr'.length] at hi
        have h1 : i < xs.length := by omega
        have h2 : i < ys.length := by omega
        exact ⟨xs, ys, xs[i], ys[i], SqL.of (s2 _ _ (s1 _ _ h)), SqL.of (s2 _ _ (s1 _ _ h')), List.getElem?_eq_getElem h1, List.getElem?_eq_getElem h2⟩
      · obtain ⟨T, x', y', ex, hT, eH, y1, y2⟩ := y
        subst ex
        subst eH
        unfold pairsZ at hd
        rw [List.getElem?_map] at hd
        cases z : (ds.zip es)[i]? with
        | none => rw [z] at hd; cases hd
        | some pp =>
          rw [z] at hd
          cases hd
          obtain ⟨d0, e0⟩ := pp
          obtain ⟨z1, z2⟩ := List.getElem?_zip_eq_some.mp z
          obtain ⟨v, hv, rv⟩ := rr.get z1
          obtain ⟨v2, hv2, rv2⟩ := rr'.get z2
          have q := y1 xs (SqL.of (s2 _ _ (s1 _ _ h)))
          rw [hv] at q
          cases q
          have q := y2 ys (SqL.of (s2 _ _ (s1 _ _ h')))
          rw [hv2] at q
          cases q
          exact wk_pair s2 hT (rv.same s1) (rv2.same s1)
      · rw [hl, ← rr.length, ← rr'.length] at hi
        exact ⟨xs, ys, SqL.of (s2 _ _ (s1 _ _ h)), SqL.of (s2 _ _ (s1 _ _ h')), by omega⟩

/-! ### targets: of values that are there for good -/
abbrev WB := Env → Dt → (Env → Prop) → Prop
def DG (X : Cx) (M : Nat → Nat) (is : List Nat) (tg : Expr) (b : WB) : Prop :=
  ∃ gt, PG X tg gt ∧ ∀ {vol : List Addr} {Hs0 H0 Hs H : Hp} {σ : St} {env : Env} {fp : Nat → List Addr} {v : V} {d : Dt} {Q : St → Hp → Prop} {Qd : Env → Prop},
    SR X.K M vol Hs0 H0 Hs H σ env fp → Rp X.K Hs v d → b env d Qd → (∀ env' σ' fp', Qd env' → SR X.K M vol Hs0 H0 Hs H σ' env' fp' → (∀ vs, (∀ i ∈ is, i ∈ vs) → wipe σ' vs = wipe σ vs) → Q σ' H) → gt v σ H Q
def bName (i : Nat) : WB := fun env d k => k (env.set i (some d))
theorem wipe_set {σ : St} {i : Nat} {x : Option V} : ∀ {vs : List Nat}, i ∈ vs → wipe (σ.set i x) vs = wipe σ vs
  | [], h => by cases h
  | v :: vs, h => by
    unfold wipe
    by_cases hv : i ∈ vs
    · rw [wipe_set hv]
    · have e : v = i := by
        rcases List.mem_cons.mp h with z | z
        · exact z.symm
        · exact absurd z hv
      subst e
      have out : ∀ {vs : List Nat}, v ∉ vs → ∀ x : Option V, wipe (σ.set v x) vs = (wipe σ vs).set v x := by
        intro vs
        induction vs with
        | nil => intro _ x; rfl
        | cons u us ih =>
          intro h x
          unfold wipe
          rw [ih (fun z => h (List.mem_cons_of_mem _ z)), List.set_comm _ _ (fun z => h (by rw [z]; exact List.mem_cons_self))]
      rw [out hv, List.set_set]
theorem dg_name (i : Nat) {x : Str} (hN : X.N.Nodup) (hm : M i = 0 := by rfl) (hi : X.N[i]? = some x := by rfl) (hx : Loc X.env.scope x := by first | exact Or.inl rfl | exact Or.inr rfl) (hf : X.fn x = true ∨ X.env.scope.names.lookup x = some .local := by first | exact .inl rfl | exact .inr rfl | assumption) :
    DG X M [i] (.Name x pos) (bName i) :=
  ⟨_, pg_name hN hi hx hf, fun R r b k => k _ _ _ b (R.setP hm r) fun vs h => wipe_set (h i (by simp))⟩
def bTup (bs : List Dt → Env → (Env → Prop) → Prop) : WB := fun env d k => ∃ ds, d = .tup ds ∧ bs ds env k
def DGs (X : Cx) (M : Nat → Nat) (is : List Nat) (tgs : List Expr) (m : Nat) (b : List Dt → Env → (Env → Prop) → Prop) : Prop :=
  ∃ gt, PGs X tgs gt ∧ ∀ {vol : List Addr} {Hs0 H0 Hs H : Hp} {σ : St} {env : Env} {fp : Nat → List Addr} {vs : List V} {ds : List Dt} {Q : St → Hp → Prop} {Qd : Env → Prop},
    SR X.K M vol Hs0 H0 Hs H σ env fp → RpL X.K Hs vs ds → b ds env Qd → ds.length = m ∧ ((∀ env' σ' fp', Qd env' → SR X.K M vol Hs0 H0 Hs H σ' env' fp' → (∀ vs, (∀ i ∈ is, i ∈ vs) → wipe σ' vs = wipe σ vs) → Q σ' H) → gt vs σ H Q)
def bNil : List Dt → Env → (Env → Prop) → Prop := fun ds env k => ds = [] ∧ k env
def bCons (b : WB) (bs : List Dt → Env → (Env → Prop) → Prop) : List Dt → Env → (Env → Prop) → Prop := fun ds env k => ∃ d r, ds = d :: r ∧ b env d (fun env' => bs r env' k)
theorem dgs_nil : DGs X M [] [] 0 bNil := ⟨_, pgs_nil, fun R r b => by
  obtain ⟨rfl, b⟩ := b
  cases r
  exact ⟨rfl, fun k => ⟨rfl, k _ _ _ b R fun _ _ => rfl⟩⟩⟩
theorem dgs_one (i : Nat) {x : Str} (hN : X.N.Nodup) (hm : M i = 0 := by rfl) (hi : X.N[i]? = some x := by rfl) (hx : Loc X.env.scope x := by first | exact Or.inl rfl | exact Or.inr rfl) (hf : X.fn x = true ∨ X.env.scope.names.lookup x = some .local := by first | exact .inl rfl | exact .inr rfl | assumption)
    {is : List Nat} {es : List Expr} {m : Nat} {bs : List Dt → Env → (Env → Prop) → Prop} (h : DGs X M is es m bs) (hs : (assignEach (.Name x pos :: es) X.env).map (·.2) = assign (.Name x pos) X.env :: (assignEach es X.env).map (·.2) := by rfl) :
    DGs X M (i :: is) (.Name x pos :: es) (m + 1) (bCons (bName i) bs) := by
  obtain ⟨gt, pg, r⟩ := h
  refine ⟨_, pgs_cons (pg_name hN hi hx hf) pg hs, fun {vol Hs0 H0 Hs H σ env fp vs ds Q Qd} R rp b => ?_⟩
  obtain ⟨d, r', rfl, b⟩ := b
  cases rp with
  | cons h1 h2 =>
    rename_i v vs
    have R1 := R.setP (i := i) hm h1
    obtain ⟨e, rest⟩ := r (Q := Q) R1 h2 b
    refine ⟨by rw [List.length_cons, e], fun k => ⟨v, vs, rfl, ?_⟩⟩
    exact rest fun env' σ' fp' q R2 hw => k env' σ' fp' q R2 fun vs h => by
      rw [hw vs fun j hj => h j (List.mem_cons_of_mem _ hj), wipe_set (h i List.mem_cons_self)]
theorem dg_tup {is : List Nat} {es : List Expr} {m k : Nat} {bs : List Dt → Env → (Env → Prop) → Prop} (hc : X.calm = true) (h : DGs X M is es m bs) (hn : (assignEach es X.env).length = m := by rfl) (hst : (assignEach es X.env).findIdx? (·.1) = none := by rfl) :
    DG X M is (.Tuple es k pos) (bTup bs) := by
  obtain ⟨gt, pg, r⟩ := h
  refine ⟨_, pg_tup hc pg hn hst, fun {vol Hs0 H0 Hs H σ env fp v d Q Qd} R rp b k => ?_⟩
  obtain ⟨ds, rfl, b⟩ := b
  cases rp with
  | tup h1 h2 =>
    obtain ⟨e, rest⟩ := r (Q := Q) R h2 b
    exact ⟨_, _, rfl, same_sqt R.hs h1, by rw [h2.length]; exact e, rest k⟩
end
end Vl

/-! Vl6: comprehensions and statements. -/
namespace Vl
open PySem L2
section
variable {G : Type} {X : Cx} {Z : Vo G} {W : WX} {M : Nat → Nat} {n nr : Nat}

/-! ### comprehensions -/
def wipeE (env : Env) : List Nat → Env
  | [] => env
  | v :: vs => (wipeE env vs).set v none
theorem wipeE_len (env : Env) : ∀ vs : List Nat, (wipeE env vs).length = env.length
  | [] => rfl
  | v :: vs => by unfold wipeE; rw [List.length_set, wipeE_len env vs]
theorem wipeE_some {env : Env} {σ : St} {i : Nat} {d : Dt} : ∀ {vs : List Nat}, (wipeE env vs)[i]? = some (some d) → env[i]? = some (some d) ∧ (wipe σ vs)[i]? = σ[i]?
  | [], h => ⟨h, rfl⟩
  | v :: vs, h => by
    unfold wipeE at h
    by_cases hi : v = i
    · subst hi
      by_cases hv : v < (wipeE env vs).length
      · rw [List.getElem?_set_self hv] at h; cases h
      · rw [List.getElem?_eq_none (by simpa using hv)] at h; cases h
    · rw [List.getElem?_set_ne hi] at h
      obtain ⟨h1, h2⟩ := wipeE_some (σ := σ) h
      refine ⟨h1, ?_⟩
      unfold wipe
      rw [List.getElem?_set_ne hi]
      exact h2
theorem wipe_idem {σ : St} {vs : List Nat} : ∀ us : List Nat, (∀ i ∈ us, i ∈ vs) → wipe (wipe σ us) vs = wipe σ vs
  | [], _ => rfl
  | u :: us, h => by
    show wipe ((wipe σ us).set u none) vs = wipe σ vs
    rw [wipe_set (h u List.mem_cons_self), wipe_idem us fun i hi => h i (List.mem_cons_of_mem _ hi)]
theorem SR.wipe {K : PySem.W.Frag} {vol : List Addr} {Hs0 H0 Hs H : Hp} {σ : St} {env : Env} {fp : Nat → List Addr} (R : SR K M vol Hs0 H0 Hs H σ env fp) (vs : List Nat) : SR K M vol Hs0 H0 Hs H (wipe σ vs) (wipeE env vs) fp :=
  R.weak (by rw [wipeE_len, wipe_length]; exact R.len) fun i d h => wipeE_some h
abbrev noX : XD G := fun _ _ _ => False
def lcGo (b : WB) (wt : WT G) (we : WE G) (Q : List Dt → G → Prop) : List Dt → Env → G → List Dt → Prop
  | [], _, g, acc => Q acc g
  | d :: ds, env, g, acc => b env d fun env' => wt env' g (fun c g1 => (c = true → we env' g1 (fun r g2 => acc.length < sizeLine ∧ lcGo b wt we Q ds env g2 (acc ++ [r])) noX) ∧ (c = false → lcGo b wt we Q ds env g1 acc)) noX
def wLc (vs : List Nat) (wi : WI G) (b : WB) (wt : WT G) (we : WE G) : WE G := fun env g Q E => wi env g (fun ds g1 => lcGo b wt we (fun rs g2 => Q (.lst rs) g2) ds (wipeE env vs) g1 []) E
/-- the tests of a comprehension -/
def DTs (X : Cx) (Z : Vo G) (W : WX) (M : Nat → Nat) (ifs : List Expr) (w : WT G) : Prop :=
  ∃ t, PTs X ifs t ∧ ∀ {Hs0 H0 Hs H : Hp} {σ : St} {env : Env} {fp : Nat → List Addr} {g : G} {Q : Bool → Hp → Prop} {Qd : Bool → G → Prop} {Ed : XD G},
    SR X.K M Z.vol Hs0 H0 Hs H σ env fp → Z.P g H → w env g Qd Ed → (∀ b g Hs' H', Qd b g → Step Z.vol Hs H Hs' H' → Z.P g H' → Q b H') → GoX Z W Hs H σ Ed → t σ H Q
def wYes : WT G := fun _ g Q _ => Q true g
theorem dts_nil : DTs X Z W M [] wYes := ⟨_, pts_nil, fun R p q k _ => k true _ _ _ q (Step.refl R.hs) p⟩
theorem dts_one {c : Expr} {w : WT G} (h : DT X Z W M c w) : DTs X Z W M [c] w := by
  obtain ⟨t, pt, r⟩ := h
  exact ⟨_, pts_one pt, r⟩
abbrev W0 : WX := fun _ _ _ _ => False
theorem lc_ref {K : PySem.W.Frag} {wi : TI} {gt : TG} {tt : TT} {te : TE} {vs is : List Nat} {w1 : WI G} {b : WB} {wt : WT G} {we : WE G}
    (hi : ∀ {Hs0 H0 Hs H : Hp} {σ : St} {env : Env} {fp : Nat → List Addr} {g : G} {R : It → Hp → Prop} {Qd : List Dt → G → Prop} {Ed : XD G}, SR K M Z.vol Hs0 H0 Hs H σ env fp → Z.P g H → w1 env g Qd Ed →
      (∀ ds g J Hs' H', Qd ds g → Step Z.vol Hs H Hs' H' → Wk K Hs' J ds → Z.P g H' → R J H') → GoX Z W Hs H σ Ed → wi σ H R)
    (hg : ∀ {vol : List Addr} {Hs0 H0 Hs H : Hp} {σ : St} {env : Env} {fp : Nat → List Addr} {v : V} {d : Dt} {Q : St → Hp → Prop} {Qd : Env → Prop}, SR K M vol Hs0 H0 Hs H σ env fp → Rp K Hs v d → b env d Qd →
      (∀ env' σ' fp', Qd env' → SR K M vol Hs0 H0 Hs H σ' env' fp' → (∀ vs, (∀ i ∈ is, i ∈ vs) → wipe σ' vs = wipe σ vs) → Q σ' H) → gt v σ H Q)
    (ht : ∀ {Hs0 H0 Hs H : Hp} {σ : St} {env : Env} {fp : Nat → List Addr} {g : G} {Q : Bool → Hp → Prop} {Qd : Bool → G → Prop} {Ed : XD G}, SR K M Z.vol Hs0 H0 Hs H σ env fp → Z.P g H → wt env g Qd Ed →
      (∀ b g Hs' H', Qd b g → Step Z.vol Hs H Hs' H' → Z.P g H' → Q b H') → GoX Z W0 Hs H σ Ed → tt σ H Q)
    (he : ∀ {Hs0 H0 Hs H : Hp} {σ : St} {env : Env} {fp : Nat → List Addr} {g : G} {Q : VK} {Qd : KD G} {Ed : XD G}, SR K M Z.vol Hs0 H0 Hs H σ env fp → Z.P g H → we env g Qd Ed → GoE K Z n Hs H Q Qd → GoX Z W0 Hs H σ Ed → te σ H Q)
    (sub : ∀ i ∈ is, i ∈ vs) {Hs0 H0 Hs H : Hp} {σ : St} {env : Env} {fp : Nat → List Addr} {g : G} {Q : VK} {Qd : KD G} {Ed : XD G}
    (R : SR K M Z.vol Hs0 H0 Hs H σ env fp) (p : Z.P g H) (q : wLc vs w1 b wt we env g Qd Ed) (k : GoE K Z (n + 1) Hs H Q Qd) (x : GoX Z W Hs H σ Ed) : tLc wi gt tt te vs σ H Q := by
  refine hi R p q (fun ds g1 J Hs1 H1 e1 s1 wk p1 => ?_) x
  intro D hD
  have hDs : Hs1 D = none := s1.s4.free hD
  have R1 : SR K M Z.vol Hs0 H0 Hs1 H1 (wipe σ vs) (wipeE env vs) fp := (R.step s1).wipe vs
  have noX' : ∀ {Hs H : Hp} {σ : St}, GoX Z W0 Hs H σ (noX : XD G) := fun {_ _ _} _ _ _ _ _ _ _ e _ _ _ _ _ => e.elim
  refine ⟨fun i m H' => m = ds.length - i ∧ i ≤ ds.length ∧ ∃ Hs' g' acc vs' fs, lcGo b wt we (fun rs g2 => Qd (.lst rs) g2) (ds.drop i) (wipeE env vs) g' acc ∧ Step Z.vol Hs1 H1 Hs' H' ∧ H' D = some (.lst vs') ∧ Hs' D = none ∧
    OwL (Own K Hs' H' n) vs' acc fs ∧ fs.Nodup ∧ D ∉ fs ∧ (∀ a ∈ fs, H1 a = none) ∧ Z.P g' H', ⟨ds.length, by simp, Nat.zero_le _, Hs1, g1, [], [], [], e1, Step.new s1.s4 hD, upd_same, hDs, .nil, List.nodup_nil, by simp, by simp, Z.pure p1 (Step.new s1.s4 hD)⟩, ?_⟩
  rintro i m H' ⟨rfl, hi, Hs', g', acc, vs', fs, go, s2, hL, hLs, ow, nd, nD, fr, p2⟩
  have Dv : D ∉ Z.vol := fun z => (R1.st.s5 D (R1.hv D z).1) hD
  by_cases hlt : i < ds.length
  · refine .inr ⟨wk.go i Hs' H' hlt s2.s1 s2.s4, fun H2 => ds.length - (i + 1) = ds.length - (i + 1) ∧ i + 1 ≤ ds.length ∧ ∃ Hs' g' acc vs' fs, lcGo b wt we (fun rs g2 => Qd (.lst rs) g2) (ds.drop (i + 1)) (wipeE env vs) g' acc ∧ Step Z.vol Hs1 H1 Hs' H2 ∧ H2 D = some (.lst vs') ∧ Hs' D = none ∧
      OwL (Own K Hs' H2 n) vs' acc fs ∧ fs.Nodup ∧ D ∉ fs ∧ (∀ a ∈ fs, H1 a = none) ∧ Z.P g' H2, fun H2 h => ⟨ds.length - (i + 1), by omega, h⟩, fun v H2 y => ?_⟩
    obtain ⟨d, hd⟩ : ∃ d, ds[i]? = some d := ⟨ds[i], List.getElem?_eq_getElem hlt⟩
    obtain ⟨Hs2, s3, rv⟩ := wk.yl i Hs' H' v H2 d hd s2.s1 s2.s4 y
    rw [List.drop_eq_getElem_cons hlt] at go
    have hdd : ds[i] = d := by
      have := List.getElem?_eq_getElem hlt
      rw [hd] at this
      exact (Option.some.inj this).symm
    rw [hdd] at go
    have s23 := s2.trans (s3.mono (vol := Z.vol))
    refine hg (R1.step s23) rv go fun env' σ' fp' go R3 hw => ⟨?_, ?_⟩
    · rw [hw vs sub, wipe_idem vs fun _ h => h]
    refine ht R3 (Z.pure p2 s3) go (fun c g3 Hs3 H3 go s4 p4 => ?_) noX'
    have s34 := (s3.mono (vol := Z.vol)).trans s4
    have keepD : ∀ {Hsa Ha : Hp}, Step Z.vol Hs' H' Hsa Ha → Ha D = some (.lst vs') ∧ Hsa D = none := fun {Hsa Ha} st => by
      refine ⟨st.s2 D _ hL Dv, ?_⟩
      cases z : Hsa D with
      | none => rfl
      | some o =>
        rcases st.s3 D (by rw [z]; simp) with q | q
        · exact absurd hLs q
        · rw [hL] at q; cases q
    have nv : ∀ a ∈ fs, a ∉ Z.vol := fun a ha z => (R1.st.s5 a (R1.hv a z).1) (fr a ha)
    have moved : ∀ {Hsa Ha : Hp}, Step Z.vol Hs' H' Hsa Ha → OwL (Own K Hsa Ha n) vs' acc fs := fun {Hsa Ha} st => ow.imp fun v d f q sb => q.step st fun b hb => nv b (sb b hb)
    cases c with
    | false =>
      refine ⟨rfl, hlt, Hs3, g3, acc, vs', fs, go.2 rfl, s2.trans s34, (keepD s34).1, (keepD s34).2, moved s34, nd, nD, fr, p4⟩
    | true =>
      rw [if_pos rfl]
      refine he (R3.step s4) p4 (go.1 rfl) (fun r g5 y Hs5 H5 f e5 s5 o5 nd5 fr5 p5 => ?_) noX'
      have s345 := s34.trans s5
      obtain ⟨kd1, kd2⟩ := keepD s345
      refine ⟨vs', kd1, by rw [ow.length]; exact e5.1, rfl, hlt, Hs5, g5, acc ++ [r], vs' ++ [y], fs ++ f, e5.2, ?_, upd_same, kd2, ?_, ?_, ?_, ?_, ?_⟩
      · have st := s2.trans s345
        refine ⟨st.s1, fun b o e n => ?_, st.s3, fun b o e => ?_, fun b e => ?_⟩
        · rw [upd_ne (ne_of_none e hD)]; exact st.s2 b o e n
        · have : b ≠ D := fun z => by rw [z, kd2] at e; cases e
          rw [upd_ne this]; exact st.s4 b o e
        · by_cases z : b = D
          · rw [z, upd_same]; simp
          · rw [upd_ne z]; exact st.s5 b e
      · have nDf : D ∉ f := fun z => by
          have := fr5 D z
          rw [(keepD s34).1] at this; cases this
        refine ((moved s345).imp fun v d f q sb => q.move (Same.refl _) (fun b hb => upd_ne fun z => nD (by rw [← z]; exact sb b hb)) (fun _ _ e => e)).append ?_
        have := OwL.cons (R := Own K Hs5 (upd H5 D (.lst (vs' ++ [y]))) n) (o5.move (Same.refl _) (fun b hb => upd_ne fun z => nDf (by rw [← z]; exact hb)) (fun _ _ e => e)) OwL.nil
        rw [List.append_nil] at this
        exact this
      · rw [List.nodup_append]
        refine ⟨nd, nd5, fun a ha c hc e => ?_⟩
        rw [← e] at hc
        have h1 := fr5 a hc
        have h2 := (owl_cells (moved s34) a ha).2
        exact h2 h1
      · intro z
        rcases List.mem_append.mp z with z | z
        · exact nD z
        · have := fr5 D z
          rw [(keepD s34).1] at this; cases this
      · intro a ha
        rcases List.mem_append.mp ha with z | z
        · exact fr a z
        · exact fresh_of (s2.trans s34) (fr5 a z)
      · refine Z.dep g5 H5 _ p5 fun b hb => upd_ne fun z => Dv (by rw [← z]; exact hb)
  · have hi' : i = ds.length := by omega
    subst hi'
    rw [List.drop_length] at go
    refine .inl ⟨wk.stop _ Hs' H' (Nat.le_refl _) s2.s1 s2.s4, ?_⟩
    refine k (.lst acc) g' (.ref D) Hs' H' (D :: fs) go (s1.trans s2) (.inr ⟨D, vs', acc, fs, rfl, hLs, .inl ⟨hL, rfl⟩, ow, rfl⟩) (List.nodup_cons.mpr ⟨nD, nd⟩) (fun b hb => ?_) p2
    rcases List.mem_cons.mp hb with rfl | hb
    · exact fresh_of s1 hD
    · exact fresh_of s1 (fr b hb)

abbrev BlkIx := Shared × Hp × Addr × List (Str × Addr) × List Addr
def blkCx (X : Cx) (scope : Scope) (j : BlkIx) : Cx := X.blk j.1 j.2.1 scope (compEnvC scope j.2.2.2.1 j.2.2.1 X.env) j.2.2.2.2
section
variable {elt tg iter : Expr} {ifs : List Expr} {scope : Scope} {own : List (Str × Nat)} {pos spos : Pos} {is : List Nat} {wi : WI G} {b : WB} {wt : WT G} {we : WE G}
theorem lc_parts (hi : DI X Z W M tg iter wi) (hg : ∀ j, DG (blkCx X scope j) M is tg b) (ht : ∀ j, DTs (blkCx X scope j) Z W0 M ifs wt) (he : ∀ j, DE (blkCx X scope j) Z W0 M n elt we) (sub : ∀ i ∈ is, i ∈ own.map (·.2)) :
    ∃ ti gt tt te, PI X tg iter ti ∧ (∀ j, PG (blkCx X scope j) tg gt) ∧ (∀ j, PTs (blkCx X scope j) ifs tt) ∧ (∀ j, PE (blkCx X scope j) elt te) ∧
      ∀ {Hs0 H0 Hs H : Hp} {σ : St} {env : Env} {fp : Nat → List Addr} {g : G} {Q : VK} {Qd : KD G} {Ed : XD G}, SR X.K M Z.vol Hs0 H0 Hs H σ env fp → Z.P g H → wLc (own.map (·.2)) wi b wt we env g Qd Ed → GoE X.K Z (n + 1) Hs H Q Qd →
        GoX Z W Hs H σ Ed → tLc ti gt tt te (own.map (·.2)) σ H Q := by
  obtain ⟨ti, p1, r1⟩ := hi
  refine ⟨ti, fun v σ H Q => ∀ j, (hg j).choose v σ H Q, fun σ H Q => ∀ j, (ht j).choose σ H Q, fun σ H Q => ∀ j, (he j).choose σ H Q, p1, fun j => ?_, fun j => ?_, fun j => ?_, ?_⟩
  · exact ⟨fun pins s σ H v u Q I r h => (hg j).choose_spec.1.run pins s σ H v u Q I r (h j)⟩
  · exact ⟨fun pins s σ H Q I h => (ht j).choose_spec.1.run pins s σ H Q I (h j)⟩
  · exact ⟨fun pins s σ H Q I h => (he j).choose_spec.1.run pins s σ H Q I (h j)⟩
  · intro Hs0 H0 Hs H σ env fp g Q Qd Ed R p q k x
    exact lc_ref (K := X.K) r1 (fun R rp q k j => (hg j).choose_spec.2 R rp q k) (fun R p q k x j => (ht j).choose_spec.2 R p q k x) (fun R p q k x j => (he j).choose_spec.2 R p q k x) sub R p q k x
variable (own) in
theorem de_lc (hc : X.calm = true) (hN : X.N.Nodup) (hi : DI X Z W M tg iter wi) (ok : BlkOk X.N X.env.scope scope own) (hg : ∀ j, DG (blkCx X scope j) M is tg b) (ht : ∀ j, DTs (blkCx X scope j) Z W0 M ifs wt)
    (he : ∀ j, DE (blkCx X scope j) Z W0 M n elt we) (sub : ∀ i ∈ is, i ∈ own.map (·.2) := by decide) (hs : ∀ x, foldedSetIterable iter X.env x = pure x := by intro _; rfl) : DE X Z W M (n + 1) (.ListComp elt [⟨tg, iter, ifs, 0⟩] scope pos) (wLc (own.map (·.2)) wi b wt we) := by
  obtain ⟨ti, gt, tt, te, p1, p2, p3, p4, r⟩ := lc_parts (own := own) hi hg ht he sub
  exact ⟨_, pe_lc hc hN p1 ok (fun s H C cl fp => p2 (s, H, C, cl, fp)) (fun s H C cl fp => p3 (s, H, C, cl, fp)) (fun s H C cl fp => p4 (s, H, C, cl, fp)) hs, r⟩

/-! ### statements -/
def exE (D : DEnds G) (env : Env) : XD G := fun c d g => D.ex c d env g
theorem GoS.gox {Hs0 H0 Hs H : Hp} {σ : St} {env : Env} {fp : Nat → List Addr} {D : Ends} {Dd : DEnds G} (k : GoS X.K Z M nr W Hs0 H0 Dd D) (R : SR X.K M Z.vol Hs0 H0 Hs H σ env fp) : GoX Z W Hs H σ (exE Dd env) :=
  fun c d g v x Hs' H' e s hx h sc p => k.ex e (R.step s) p h sc (fresh_of R.st hx)
/-- name = value -/
def wSet (i : Nat) (w : WE G) : WS G := fun D env g => w env g (fun d g' => D.nx (env.set i (some d)) g') (exE D env)
theorem ds_setR {i : Nat} {te : TE} {w : WE G} {s : Stmt} (h : PS X s (tAsg te (gName i)))
    (r : ∀ {Hs0 H0 Hs H : Hp} {σ : St} {env : Env} {fp : Nat → List Addr} {g : G} {Q : VK} {Qd : KD G} {Ed : XD G}, SR X.K M Z.vol Hs0 H0 Hs H σ env fp → Z.P g H → w env g Qd Ed → GoE X.K Z (M i) Hs H Q Qd → GoX Z W Hs H σ Ed → te σ H Q) : DS X Z W M nr s (wSet i w) :=
  ⟨_, h, fun {Hs0 H0 Hs H σ env fp g D Dd} R p q k => r R p q (fun d g' v Hs' H' f e s o nd fr p' => k.nx e (R.setNew (Hb := Hs) s o nd fr) p') (k.gox R)⟩
theorem ds_set (i : Nat) {x : Str} {e : Expr} {w : WE G} {pos' : Pos} (hN : X.N.Nodup) (he : DE X Z W M (M i) e w) (hi : X.N[i]? = some x := by rfl) (hx : Loc X.env.scope x := by first | exact Or.inl rfl | exact Or.inr rfl)
    (hs : swapsWith e (some (.Name x pos')) pos.line X.env = pure false := by rfl) (hf : X.fn x = true ∨ X.env.scope.names.lookup x = some .local := by first | exact .inl rfl | exact .inr rfl | assumption) : DS X Z W M nr (.Assign [.Name x pos'] e pos) (wSet i w) := by
  obtain ⟨t, pe, r⟩ := he
  exact ds_setR (ps_set hN hi hx pe hs hf) r
variable (own) in
theorem ds_setLc (i : Nat) {y : Str} {py : Pos} (hc : X.calm = true) (hN : X.N.Nodup) (hi : DI X Z W M tg iter wi) (ok : BlkOk X.N X.env.scope scope own) (hg : ∀ j, DG (blkCx X scope j) M is tg b) (ht : ∀ j, DTs (blkCx X scope j) Z W0 M ifs wt)
    (he : ∀ j, DE (blkCx X scope j) Z W0 M n elt we) (hm : n + 1 = M i := by rfl) (hy : X.N[i]? = some y := by rfl) (hyl : X.env.scope.names.lookup y = some .local := by rfl)
    (hsw : swapsWith (.ListComp elt [⟨tg, iter, ifs, 0⟩] scope pos) (some (.Name y py)) spos.line X.env = pure true := by exact sw_true rfl rfl rfl (by decide +kernel)) (sub : ∀ i ∈ is, i ∈ own.map (·.2) := by decide)
    (hs : ∀ x, foldedSetIterable iter X.env x = pure x := by intro _; rfl) : DS X Z W M nr (.Assign [.Name y py] (.ListComp elt [⟨tg, iter, ifs, 0⟩] scope pos) spos) (wSet i (wLc (own.map (·.2)) wi b wt we)) := by
  obtain ⟨ti, gt, tt, te, p1, p2, p3, p4, r⟩ := lc_parts (own := own) hi hg ht he sub
  refine ds_setR (ps_setLc hc hN hy hyl hsw p1 ok (fun s H C cl fp => p2 (s, H, C, cl, fp)) (fun s H C cl fp => p3 (s, H, C, cl, fp)) (fun s H C cl fp => p4 (s, H, C, cl, fp)) hs) ?_
  rw [← hm]
  exact r
variable (own) in
/-- .. for good -/
theorem ds_setLc0 (i : Nat) {y : Str} {py : Pos} (hc : X.calm = true) (hN : X.N.Nodup) (hi : DI X Z W M tg iter wi) (ok : BlkOk X.N X.env.scope scope own) (hg : ∀ j, DG (blkCx X scope j) M is tg b) (ht : ∀ j, DTs (blkCx X scope j) Z W0 M ifs wt)
    (he : ∀ j, DE (blkCx X scope j) Z W0 M n elt we) (hm : M i = 0 := by rfl) (hy : X.N[i]? = some y := by rfl) (hyl : X.env.scope.names.lookup y = some .local := by rfl)
    (hsw : swapsWith (.ListComp elt [⟨tg, iter, ifs, 0⟩] scope pos) (some (.Name y py)) spos.line X.env = pure true := by exact sw_true rfl rfl rfl (by decide +kernel)) (sub : ∀ i ∈ is, i ∈ own.map (·.2) := by decide)
    (hs : ∀ x, foldedSetIterable iter X.env x = pure x := by intro _; rfl) : DS X Z W M nr (.Assign [.Name y py] (.ListComp elt [⟨tg, iter, ifs, 0⟩] scope pos) spos) (wSet i (wLc (own.map (·.2)) wi b wt we)) := by
  obtain ⟨ti, gt, tt, te, p1, p2, p3, p4, r⟩ := lc_parts (own := own) hi hg ht he sub
  refine ds_setR (ps_setLc hc hN hy hyl hsw p1 ok (fun s H C cl fp => p2 (s, H, C, cl, fp)) (fun s H C cl fp => p3 (s, H, C, cl, fp)) (fun s H C cl fp => p4 (s, H, C, cl, fp)) hs) ?_
  rw [hm]
  intro Hs0 H0 Hs H σ env fp g Q Qd Ed R p q k x
  refine r R p q (fun d g' v Hs' H' f e s o nd fr p' => ?_) x
  have hc := fun b hb => (o.cells b hb).1
  exact k d g' v (frz Hs' H' f) H' [] e (s.freeze fr hc) ⟨rfl, o.frozen hc fun _ h => h⟩ List.nodup_nil (fun _ h => by cases h) p'
end
variable {e : Expr} {w : WE G} {pos : Pos}
def wDrop (w : WE G) : WS G := fun D env g => w env g (fun _ g' => D.nx env g') (exE D env)
theorem ds_expr (he : DE X Z W M 0 e w) (hs : swapsWith e none pos.line X.env = pure false := by rfl) : DS X Z W M nr (.Expr e pos) (wDrop w) := by
  obtain ⟨t, pe, r⟩ := he
  exact ⟨_, ps_expr pe hs, fun {Hs0 H0 Hs H σ env fp g D Dd} R p q k => r R p q (fun d g' v Hs' H' f e s o nd fr p' => k.nx e (R.step s) p') (k.gox R)⟩
def wRet (w : WE G) : WS G := fun D env g => w env g D.rt (exE D env)
theorem ds_ret (he : DE X Z W M nr e w) : DS X Z W M nr (.Return (some e) pos) (wRet w) := by
  obtain ⟨t, pe, r⟩ := he
  exact ⟨_, ps_ret pe, fun {Hs0 H0 Hs H σ env fp g D Dd} R p q k => r R p q (fun d g' v Hs' H' f e s o nd fr p' => k.rt e (R.st.trans s) o nd (fun b hb => fresh_of R.st (fr b hb)) p') (k.gox R)⟩
def wRetN : WS G := fun D _ g => D.rt .non g
theorem ds_retN : DS X Z W M nr (.Return none pos) wRetN :=
  ⟨_, ps_retN, fun R p q k => k.rt q R.st (Own.sc trivial) List.nodup_nil (fun _ h => by cases h) p⟩
/-- an own value is handed back -/
def wRetO (i : Nat) : WS G := fun D env g => ∃ d, env[i]? = some (some d) ∧ D.rt d g
theorem ds_retO (i : Nat) {x : Str} {pos' : Pos} (hm : M i = nr := by rfl) (hN : X.N[i]? = some x := by rfl) (hv : Vis X.env.scope x := by first | exact Or.inl rfl | exact Or.inr (Or.inl rfl) | exact Or.inr (Or.inr rfl))
    (hd : (x == ("__debug__" : Str)) = false := by decide) (hcd : (x == ("__classdict__" : Str)) = false := by decide) : DS X Z W M nr (.Return (some (.Name x pos')) pos) (wRetO i) :=
  ⟨_, ps_ret (pe_var hN hv hd hcd), fun R p q k => by
    obtain ⟨d, e, q⟩ := q
    obtain ⟨v, e1, o⟩ := R.at' i d e
    rw [hm] at o
    exact ⟨v, e1, k.rt q R.st o (R.nd i) (fun b hb => R.nw i b hb) p⟩⟩
/-- what is own is handed back within a value -/
theorem ds_retF (I : List Nat) (he : DE X Z W (thaw M I) nr e w) : DS X Z W M nr (.Return (some e) pos) (wRet w) := by
  obtain ⟨t, pe, r⟩ := he
  refine ⟨_, ps_ret pe, fun {Hs0 H0 Hs H σ env fp g D Dd} R p q k => r (R.freeze I) p q (fun d g' v Hs' H' f e s o nd fr p' => k.rt e ((R.freeze I).st.trans s) o nd (fun b hb => fresh_of R.st (fr b hb)) p') fun c d g' v y Hs' H' e s hy hx sc p' => ?_⟩
  have hnw : ∀ b ∈ cellsOf fp I, Hs b = none := fun b hb => let ⟨i, _, h⟩ := List.mem_flatMap.mp hb; (R.ct i b h).1
  have s0 : Same Hs (frz Hs H (cellsOf fp I)) := frz_same hnw
  have sb : Step Z.vol Hs H Hs H' := ⟨Same.refl _, s.s2, fun _ e => .inl e, fun b o e => s.s4 b o (s.s1 b o (s0 b o e)), s.s5⟩
  exact k.ex e (R.step sb) p' (hx.back (s0.trans s.s1)) sc (fresh_of R.st hy)
def wIfS (w : WT G) (wa wb : WS G) : WS G := fun D env g => w env g (fun b g' => (b = true → wa D env g') ∧ (b = false → wb D env g')) (exE D env)
theorem ds_if {c : Expr} {a b : List Stmt} {w : WT G} {wa wb : WS G} (h : DT X Z W M c w) (ha : DB X Z W M nr a wa) (hb : DB X Z W M nr b wb) : DS X Z W M nr (.If c a b pos) (wIfS w wa wb) := by
  obtain ⟨t, pt, r⟩ := h
  obtain ⟨ta, pa, ra⟩ := ha
  obtain ⟨tb, pb, rb⟩ := hb
  refine ⟨_, ps_if pt pa pb, fun {Hs0 H0 Hs H σ env fp g D Dd} R p q k => r R p q (fun c g' Hs' H' e s p' => ?_) (k.gox R)⟩
  cases c with
  | true => exact ra (R.step s) p' (e.1 rfl) k
  | false => exact rb (R.step s) p' (e.2 rfl) k
def wNext : WS G := fun D env g => D.nx env g
def wSeq (w u : WS G) : WS G := fun D env g => w { D with nx := u D } env g
theorem db_nil : DB X Z W M nr [] wNext := ⟨_, pss_nil, fun R p q k => k.nx q R p⟩
theorem db_cons {s : Stmt} {rest : List Stmt} {w u : WS G} (h : DS X Z W M nr s w) (h' : DB X Z W M nr rest u) : DB X Z W M nr (s :: rest) (wSeq w u) := by
  obtain ⟨t, ps, r⟩ := h
  obtain ⟨t', ps', r'⟩ := h'
  refine ⟨_, pss_cons ps ps', fun {Hs0 H0 Hs H σ env fp g D Dd} R p q k => r R p q ⟨fun q R p => r' R p q k, k.bk, k.ct, k.rt, k.ex⟩⟩
theorem db_one {s : Stmt} {w : WS G} (h : DS X Z W M nr s w) : DB X Z W M nr [s] w := by
  obtain ⟨t, ps, r⟩ := h
  exact ⟨_, pss_one ps, r⟩
def wBreak : WS G := fun D env g => D.bk env g
def wCont : WS G := fun D env g => D.ct env g
theorem ds_pass : DS X Z W M nr (.Pass pos) wNext := ⟨_, ps_pass, fun R p q k => k.nx q R p⟩
theorem ds_break : DS X Z W M nr (.Break pos) wBreak := ⟨_, ps_break, fun R p q k => k.bk q R p⟩
theorem ds_cont : DS X Z W M nr (.Continue pos) wCont := ⟨_, ps_continue, fun R p q k => k.ct q R p⟩
def wNever : WS G := fun _ _ _ => False
theorem ds_never {s : Stmt} : DS X Z W M nr s wNever := ⟨_, ps_never, fun _ _ q _ => q.elim⟩
theorem db_never {s : List Stmt} : DB X Z W M nr s wNever := ⟨_, pss_never, fun _ _ q _ => q.elim⟩
theorem ds_doc {x j pos'} : DS X Z W M nr (.Expr (.Constant (.str x) j pos) pos') wNext := ⟨_, ps_doc, fun R p q k => k.nx q R p⟩
/-! ### for -/
def forGo (b : WB) (wb : WS G) (D : DEnds G) : List Dt → Env → G → Prop
  | [], env, g => D.nx env g
  | d :: ds, env, g => b env d fun env' => wb { D with nx := forGo b wb D ds, ct := forGo b wb D ds, bk := D.nx } env' g
def wFor (wi : WI G) (b : WB) (wb : WS G) : WS G := fun D env g => wi env g (fun ds g' => forGo b wb D ds env g') (exE D env)
theorem Step.low {vol : List Addr} {Hs0 H0 Hs1 H1 Hs H : Hp} (a : Step vol Hs0 H0 Hs1 H1) (b : Step vol Hs1 H0 Hs H) : Step vol Hs0 H0 Hs H :=
  ⟨a.s1.trans b.s1, b.s2, fun c e => (b.s3 c e).elim (fun z => a.s3 c z) .inr, b.s4, b.s5⟩
theorem SR.low {K : PySem.W.Frag} {vol : List Addr} {Hs0 H0 Hs1 H1 Hs H : Hp} {σ : St} {env : Env} {fp : Nat → List Addr} (a : Step vol Hs0 H0 Hs1 H1) (R : SR K M vol Hs1 H0 Hs H σ env fp) : SR K M vol Hs0 H0 Hs H σ env fp :=
  ⟨a.low R.st, R.at', R.nd, R.dj, R.nw, R.ct, R.hv, R.len⟩
theorem SR.up {K : PySem.W.Frag} {vol : List Addr} {Hs0 H0 Hs H : Hp} {σ : St} {env : Env} {fp : Nat → List Addr} (R : SR K M vol Hs0 H0 Hs H σ env fp) : SR K M vol Hs H0 Hs H σ env fp :=
  ⟨⟨Same.refl _, R.st.s2, fun _ e => .inl e, R.st.s4, R.st.s5⟩, R.at', R.nd, R.dj, R.nw, R.ct, R.hv, R.len⟩
theorem ds_for {tg iter : Expr} {body : List Stmt} {is : List Nat} {wi : WI G} {b : WB} {wb : WS G} (hp : PassesOwn (model X.prog X.w) X.A X.env X.xe) (hc : X.calm = true) (hi : DI X Z W M tg iter wi) (hg : DG X M is tg b) (hb : DB X Z W M nr body wb)
    (hs : ∀ x, foldedSetIterable iter X.env x = pure x := by intro _; rfl) : DS X Z W M nr (.For tg iter body [] pos) (wFor wi b wb) := by
  obtain ⟨ti, p1, r1⟩ := hi
  obtain ⟨gt, p2, r2⟩ := hg
  obtain ⟨tb, p3, r3⟩ := hb
  refine ⟨_, ps_for hp hc p1 p2 p3 hs, fun {Hs0 H0 Hs H σ env fp g D Dd} R p q k => r1 R p q (fun ds g1 J Hs1 H1 e1 s1 wk p1 => ?_) (k.gox R)⟩
  have R1 := R.step s1
  let Wp : Nat → St → Hp → Prop := fun i σ' H' => ∃ Hs' env' fp' g', forGo b wb Dd (ds.drop i) env' g' ∧ SR X.K M Z.vol Hs1 H0 Hs' H' σ' env' fp' ∧ Z.P g' H'
  refine ⟨fun i m σ' H' => m = ds.length - i ∧ i ≤ ds.length ∧ Wp i σ' H', ⟨ds.length, by simp, Nat.zero_le _, Hs1, env, fp, g1, e1, R1.up, p1⟩, ?_⟩
  rintro i m σ' H' ⟨rfl, hi, Hs', env', fp', g', go, R2, p2'⟩
  by_cases hlt : i < ds.length
  · refine .inr ⟨wk.go i Hs' H' hlt R2.st.s1 R2.hs, Wp (i + 1), fun σ2 H2 h => ⟨ds.length - (i + 1), by omega, rfl, hlt, h⟩, fun v H2 y => ?_⟩
    obtain ⟨d, hd⟩ : ∃ d, ds[i]? = some d := ⟨ds[i], List.getElem?_eq_getElem hlt⟩
    obtain ⟨Hs2, s3, rv⟩ := wk.yl i Hs' H' v H2 d hd R2.st.s1 R2.hs y
    rw [List.drop_eq_getElem_cons hlt] at go
    have hdd : ds[i] = d := by
      have := List.getElem?_eq_getElem hlt
      rw [hd] at this
      exact (Option.some.inj this).symm
    rw [hdd] at go
    refine r2 (R2.step s3.mono) rv go fun env3 σ3 fp3 go R3 _ => ?_
    exact r3 R3 (Z.pure p2' s3) go ⟨fun q R p => ⟨_, _, _, _, q, R, p⟩, fun q R p => k.nx q (R.low R1.st) p, fun q R p => ⟨_, _, _, _, q, R, p⟩, fun q s o nd fr p => k.rt q (R1.st.low s) o nd fr p, fun q R p hx sc h0 => k.ex q (R.low R1.st) p hx sc h0⟩
  · have hi' : i = ds.length := by omega
    subst hi'
    rw [List.drop_length] at go
    exact .inl ⟨wk.stop _ Hs' H' (Nat.le_refl _) R2.st.s1 R2.hs, k.nx go (R2.low R1.st) p2'⟩
/-! ### while -/
def wWhile (wc : WT G) (wb : WS G) : WS G := fun D env g => ∃ I : Nat → Env → G → Prop, (∃ m, I m env g) ∧ ∀ m env g, I m env g →
  wc env g (fun b g' => (b = true → ∃ N : Env → G → Prop, (∀ env' g', N env' g' → ∃ m', m' < m ∧ I m' env' g') ∧ wb { D with nx := N, ct := N, bk := D.nx } env g') ∧ (b = false → D.nx env g')) (exE D env)
theorem ds_while {c : Expr} {body : List Stmt} {wc : WT G} {wb : WS G} (hp : PassesOwn (model X.prog X.w) X.A X.env X.xe) (hc : DT X Z W M c wc) (hb : DB X Z W M nr body wb) : DS X Z W M nr (.While c body [] pos) (wWhile wc wb) := by
  obtain ⟨tc, p1, r1⟩ := hc
  obtain ⟨tb, p2, r2⟩ := hb
  refine ⟨_, ps_while hp p1 p2, fun {Hs0 H0 Hs H σ env fp g D Dd} R p q k => ?_⟩
  obtain ⟨I, ⟨m0, i0⟩, turn⟩ := q
  let Wp : Nat → St → Hp → Prop := fun m σ' H' => ∃ Hs' env' fp' g', I m env' g' ∧ SR X.K M Z.vol Hs0 H0 Hs' H' σ' env' fp' ∧ Z.P g' H'
  refine ⟨Wp, ⟨m0, Hs, env, fp, g, i0, R, p⟩, ?_⟩
  rintro m σ' H' ⟨Hs', env', fp', g', hI, R2, p2'⟩
  refine r1 R2 p2' (turn m env' g' hI) (fun b g2 Hs2 H2 e s p3 => ?_) (k.gox R2)
  cases b with
  | true =>
    rw [if_pos rfl]
    obtain ⟨N, hN, e⟩ := e.1 rfl
    refine ⟨fun σ3 H3 => ∃ Hs3 env3 fp3 g3, N env3 g3 ∧ SR X.K M Z.vol Hs0 H0 Hs3 H3 σ3 env3 fp3 ∧ Z.P g3 H3, fun σ3 H3 ⟨Hs3, env3, fp3, g3, h, R3, p4⟩ => ?_, ?_⟩
    · obtain ⟨m', hm, h⟩ := hN env3 g3 h
      exact ⟨m', hm, Hs3, env3, fp3, g3, h, R3, p4⟩
    · exact r2 (R2.step s) p3 e ⟨fun q R p => ⟨_, _, _, _, q, R, p⟩, k.nx, fun q R p => ⟨_, _, _, _, q, R, p⟩, k.rt, k.ex⟩
  | false =>
    rw [if_neg Bool.false_ne_true]
    exact k.nx (e.2 rfl) (R2.step s) p3
/-! ### name op= value, on ints -/
def wAug (i : Nat) (f : Int → Int → Int) (w : WE G) : WS G := fun D env g => ∃ a, env[i]? = some (some (.int a)) ∧ w env g (fun d g' => ∃ c, d = .int c ∧ D.nx (env.set i (some (.int (f a c)))) g') (exE D env)
theorem ds_aug (i : Nat) {x : Str} {op : Operator} {f : Int → Int → Int} {pos' : Pos} (hN : X.N.Nodup) (ho : PIp X op (ipI f)) (he : DE X Z W M 0 e w) (hm : M i = 0 := by rfl) (hi : X.N[i]? = some x := by rfl) (hx : Loc X.env.scope x := by first | exact Or.inl rfl | exact Or.inr rfl)
    (hf : X.fn x = true ∨ X.env.scope.names.lookup x = some .local := by first | exact .inl rfl | exact .inr rfl | assumption) : DS X Z W M nr (.AugAssign (.Name x pos') op e pos) (wAug i f w) := by
  obtain ⟨t, pe, r⟩ := he
  refine ⟨_, ps_aug hN hi hx pe ho hf, fun {Hs0 H0 Hs H σ env fp g D Dd} R p q k => ?_⟩
  obtain ⟨a, ha, q⟩ := q
  obtain ⟨v, hv, rv⟩ := R.val hm ha
  cases rv
  refine ⟨.int a, hv, r R p q (fun d g' v Hs' H' f' e s o nd fr p' => ?_) (k.gox R)⟩
  obtain ⟨c, rfl, e⟩ := e
  have r2 := o.2
  cases r2
  exact ⟨a, c, rfl, rfl, k.nx e ((R.step s).setP hm (.int _)) p'⟩
/-! ### a, b = x, y -/
def wPar (i j : Nat) (u : WA G) : WS G := fun D env g => u env g (fun ds g' => ∃ a b, ds = [a, b] ∧ D.nx ((env.set i (some a)).set j (some b)) g') (exE D env)
theorem ds_par (i j : Nat) {x y : Str} {a b : Expr} {u : WA G} {px py pt : Pos} {kt k2 pt2} (hc : X.calm = true) (hN : X.N.Nodup) (ha : DAn X Z W M 0 [a, b] u) (hmi : M i = 0 := by rfl) (hmj : M j = 0 := by rfl) (hi : X.N[i]? = some x := by rfl) (hj : X.N[j]? = some y := by rfl) (hij : i ≠ j := by decide)
    (hx : X.env.scope.names.lookup x = some .local := by rfl) (hy : X.env.scope.names.lookup y = some .local := by rfl)
    (hw : swappedStores [.Tuple [.Name x px, .Name y py] kt pt] (.Tuple [a, b] k2 pt2) X.env = pure (some [x, y]) := by rfl)
    (hs : swapsWithSole [.Tuple [.Name x px, .Name y py] kt pt] (.Tuple [a, b] k2 pt2) pos.line X.env = pure false := by rfl) :
    DS X Z W M nr (.Assign [.Tuple [.Name x px, .Name y py] kt pt] (.Tuple [a, b] k2 pt2) pos) (wPar i j u) := by
  obtain ⟨t, pa, r⟩ := da_of ha
  refine ⟨_, ps_par hc hN hi hj hij hx hy pa hw hs, fun {Hs0 H0 Hs H σ env fp g D Dd} R p q k => r R p q (fun ds g' vs Hs' H' e s o p' => ?_) (k.gox R)⟩
  obtain ⟨a, b, rfl, e⟩ := e
  obtain ⟨v, u, rfl, h1, h2⟩ := o.two
  exact ⟨v, u, rfl, k.nx e (((R.step s).setP hmi h1).setP hmj h2) p'⟩
/-! ### a target of several names -/
def wUnp (b : WB) (w : WE G) : WS G := fun D env g => w env g (fun d g' => b env d fun env' => D.nx env' g') (exE D env)
theorem ds_unp {tg : Expr} {is : List Nat} {b : WB} (he : DE X Z W M 0 e w) (hg : DG X M is tg b) (hs : swapsWithSole [tg] e pos.line X.env = pure false := by rfl) (hw : swappedStores [tg] e X.env = pure none := by rfl)
    (h1 : (assignEach [tg] X.env).map (·.2) = [assign tg X.env] := by rfl) : DS X Z W M nr (.Assign [tg] e pos) (wUnp b w) := by
  obtain ⟨t, pe, r⟩ := he
  obtain ⟨gt, p2, r2⟩ := hg
  refine ⟨_, ps_asg pe p2 hs hw h1, fun {Hs0 H0 Hs H σ env fp g D Dd} R p q k => r R p q (fun d g' v Hs' H' f e s o nd fr p' => ?_) (k.gox R)⟩
  exact r2 (R.step s) o.2 e fun env' σ' fp' q R' _ => k.nx q R' p'
end
end Vl

/-! Vl7: own lists written; defs and their contracts; calls. -/
namespace Vl
open PySem PySem.Spec L2
section
variable {G : Type} {X : Cx} {Z : Vo G} {W : WX} {M : Nat → Nat} {n nr : Nat}

/-- a cell of the name at i is written -/
theorem SR.mut {K : PySem.W.Frag} {vol : List Addr} {Hs0 H0 Hs H : Hp} {σ : St} {env : Env} {fp : Nat → List Addr} (R : SR K M vol Hs0 H0 Hs H σ env fp) {i : Nat} {p : Addr} {o : HO} {v : V} {d : Dt} {f : List Addr} (hp : p ∈ fp i)
    (hv : σ[i]? = some (some v)) (ow : Own K Hs (upd H p o) (M i) v d f) (nd : f.Nodup) (nw : ∀ b ∈ f, H0 b = none) (ap : ∀ j, j ≠ i → ∀ b ∈ f, b ∉ fp j) : SR K M vol Hs0 H0 Hs (upd H p o) σ (env.set i (some d)) (setf fp i f) := by
  have p0 : H0 p = none := R.nw i p hp
  obtain ⟨ps, pH⟩ := R.ct i p hp
  have R' : SR K M vol Hs0 H0 Hs (upd H p o) σ (env.set i none) (setf fp i []) := by
    refine ⟨⟨R.st.s1, fun b u e n => ?_, R.st.s3, fun b u e => ?_, fun b e => ?_⟩, fun j e h => ?_, fun j => ?_, fun j k b h1 h2 => ?_, fun j b hb => ?_, fun j b hb => ?_, R.hv, by rw [List.length_set]; exact R.len⟩
    · rw [upd_ne (ne_of_none e p0)]; exact R.st.s2 b u e n
    · rw [upd_ne (ne_of_none e ps)]; exact R.hs b u e
    · by_cases z : b = p
      · rw [z, upd_same]; simp
      · rw [upd_ne z]; exact R.st.s5 b e
    · by_cases hj : j = i
      · subst hj
        by_cases hl : j < env.length
        · rw [List.getElem?_set_self hl] at h; cases h
        · rw [List.getElem?_eq_none (by simpa using hl)] at h; cases h
      · rw [List.getElem?_set_ne (Ne.symm hj)] at h
        obtain ⟨u, e1, o1⟩ := R.at' j e h
        refine ⟨u, e1, ?_⟩
        rw [setf_ne hj]
        exact o1.move (Same.refl _) (fun b hb => upd_ne fun z => hj (R.dj j i b hb (by rw [z]; exact hp))) fun _ _ e => e
    · by_cases hj : j = i
      · subst hj; rw [setf_same]; exact List.nodup_nil
      · rw [setf_ne hj]; exact R.nd j
    · by_cases hj : j = i
      · rw [hj, setf_same] at h1; cases h1
      · by_cases hk : k = i
        · rw [hk, setf_same] at h2; cases h2
        · rw [setf_ne hj] at h1
          rw [setf_ne hk] at h2
          exact R.dj j k b h1 h2
    · by_cases hj : j = i
      · rw [hj, setf_same] at hb; cases hb
      · rw [setf_ne hj] at hb; exact R.nw j b hb
    · by_cases hj : j = i
      · rw [hj, setf_same] at hb; cases hb
      · rw [setf_ne hj] at hb
        obtain ⟨h1, h2⟩ := R.ct j b hb
        refine ⟨h1, ?_⟩
        by_cases z : b = p
        · rw [z, upd_same]; simp
        · rw [upd_ne z]; exact h2
  have R2 := R'.set ow nd nw (fun j hj b hb => by rw [setf_ne hj]; exact ap j hj b hb)
  rw [List.set_set] at R2
  have e1 : σ.set i (some v) = σ := by
    apply List.ext_getElem?
    intro j
    by_cases hj : i = j
    · subst hj
      have hl : i < σ.length := (List.getElem?_eq_some_iff.mp hv).1
      rw [List.getElem?_set_self hl, hv]
    · rw [List.getElem?_set_ne hj]
  have e2 : setf (setf fp i []) i f = setf fp i f := by
    funext j
    unfold setf
    split <;> rfl
  rw [e1, e2] at R2
  exact R2
theorem Z_upd {Z : Vo G} {K : PySem.W.Frag} {Hs0 H0 Hs H : Hp} {σ : St} {env : Env} {fp : Nat → List Addr} (R : SR K M Z.vol Hs0 H0 Hs H σ env fp) {i : Nat} {p : Addr} {o : HO} (hp : p ∈ fp i) {g : G} (h : Z.P g H) : Z.P g (upd H p o) :=
  Z.dep g H _ h fun b hb => upd_ne fun z => R.nvol hp (by rw [← z]; exact hb)
/-- an own list of own things: its cell, its items -/
theorem Own.node {K : PySem.W.Frag} {Hs H : Hp} {v : V} {ds : List Dt} {f : List Addr} (o : Own K Hs H (n + 1) v (.lst ds) f) : ∃ p vs fs, v = .ref p ∧ Hs p = none ∧ H p = some (.lst vs) ∧ OwL (Own K Hs H n) vs ds fs ∧ f = p :: fs := by
  rcases o with ⟨_, h⟩ | ⟨p, vs, es, fs, e1, e2, nd, r, e3⟩
  · exact (h.scal).elim
  · rcases nd with ⟨q, e⟩ | ⟨q, e⟩ | ⟨_, _, _, e⟩
    · cases e
      exact ⟨p, vs, fs, e1, e2, q, r, e3⟩
    · cases e
    · cases e
theorem OwL.upd {K : PySem.W.Frag} {Hs H : Hp} {vs : List V} {ds : List Dt} {fs : List Addr} {p : Addr} {o : HO} (r : OwL (Own K Hs H n) vs ds fs) (h : p ∉ fs) : OwL (Own K Hs (upd H p o) n) vs ds fs :=
  r.imp fun v d f q s => q.move (Same.refl _) (fun b hb => upd_ne fun z => h (by rw [← z]; exact s b hb)) fun _ _ e => e
theorem OwL.step {K : PySem.W.Frag} {vol : List Addr} {Hs H Hs1 H1 : Hp} {vs : List V} {ds : List Dt} {fs : List Addr} (st : Step vol Hs H Hs1 H1) (r : OwL (Own K Hs H n) vs ds fs) (hv : ∀ b ∈ fs, b ∉ vol) : OwL (Own K Hs1 H1 n) vs ds fs :=
  r.imp fun v d f q s => q.step st fun b hb => hv b (s b hb)
variable {e : Expr} {es : List Expr} {w : WE G} {pos : Pos} {x : Str} {p1 p2 p3 : Pos}

/-- x.append(e), x an own list -/
def wApp (i : Nat) (w : WE G) : WS G := fun D env g => ∃ ds, env[i]? = some (some (.lst ds)) ∧ w env g (fun d g' => ds.length < sizeLine ∧ D.nx (env.set i (some (.lst (ds ++ [d])))) g') (exE D env)
theorem ds_app (i : Nat) (he : DE X Z W M n e w) (hm : M i = n + 1 := by rfl) (hN : X.N[i]? = some x := by rfl) (hv : Vis X.env.scope x := by first | exact Or.inl rfl | exact Or.inr (Or.inl rfl) | exact Or.inr (Or.inr rfl))
    (hd : (x == ("__debug__" : Str)) = false := by decide) (hcd : (x == ("__classdict__" : Str)) = false := by decide) (hbase : attributeBase (.Name x p1) "append" X.env (eval (.Name x p1) X.env) = eval (.Name x p1) X.env := by rfl)
    (hfew : ((backTo p3 (starEach [e] X.env)).all (fun x => !x.1) && (backToKw p3 (keywordEach [] X.env)).all (fun x => x.1.isSome) && decide ([e].length + ([] : List Keyword).length + (if ([] : List Keyword).isEmpty then 0 else 1) < 30)) = true := by rfl)
    (hline : (p2.endLine == p3.line) = true := by rfl) (hs : starEach [e] X.env = (false, eval e X.env) :: starEach [] X.env := by rfl)
    (hsw : swapsWith (.Call (.Attribute (.Name x p1) "append" p2) [e] [] p3) none pos.line X.env = pure false := by rfl) :
    DS X Z W M nr (.Expr (.Call (.Attribute (.Name x p1) "append" p2) [e] [] p3) pos) (wApp i w) := by
  obtain ⟨t, pe, r⟩ := he
  refine ⟨_, ps_expr (pe_bm PySem.F.plainAttrs_list PySem.F.slot_list_append PySem.F.type_list_append mt_append (pe_var hN hv hd hcd) (pa_cons pe pa_nil hs) hbase hfew hline hs) hsw, fun {Hs0 H0 Hs H σ env fp g D Dd} R p q k => ?_⟩
  obtain ⟨ds, he, q⟩ := q
  obtain ⟨v, hσ, o⟩ := R.at' i _ he
  rw [hm] at o
  obtain ⟨c, vs, fs, rfl, hcs, hc, ow, hf⟩ := o.node
  refine ⟨.ref c, hσ, .inl ⟨rfl, _, SqL.of hc⟩, r R p q (fun d g' u Hs1 H1 f e1 s1 o1 nd1 fr1 q1 => ?_) (k.gox R)⟩
  have R1 := R.step s1
  have cin : c ∈ fp i := by rw [hf]; exact List.mem_cons_self
  have hc1 : H1 c = some (.lst vs) := s1.s2 c _ hc (R.nvol cin)
  have nd0 : (c :: fs).Nodup := by rw [← hf]; exact R.nd i
  have fsin : ∀ b ∈ fs, b ∈ fp i := fun b hb => by rw [hf]; exact List.mem_cons_of_mem _ hb
  have ow1 := ow.step s1 fun b hb => R.nvol (fsin b hb)
  have cf : c ∉ f := fun z => by
    have := fr1 c z
    rw [hc] at this; cases this
  refine ⟨c, vs, u, rfl, rfl, hc1, by rw [ow.length]; exact e1.1, ?_⟩
  have ow2 : OwL (Own X.K Hs1 (upd H1 c (.lst (vs ++ [u]))) n) (vs ++ [u]) (ds ++ [d]) (fs ++ f) := by
    refine (ow1.upd (List.nodup_cons.mp nd0).1).append ?_
    have := OwL.cons (R := Own X.K Hs1 (upd H1 c (.lst (vs ++ [u]))) n) (o1.move (Same.refl _) (fun b hb => upd_ne fun z => cf (by rw [← z]; exact hb)) fun _ _ e => e) OwL.nil
    rw [List.append_nil] at this
    exact this
  have fdj : ∀ b ∈ f, ∀ j, b ∉ fp j := fun b hb j z => (R.ct j b z).2 (fr1 b hb)
  refine k.nx e1.2 (R1.mut (i := i) (f := c :: (fs ++ f)) cin hσ ?_ ?_ ?_ ?_) (Z_upd R1 cin q1)
  · rw [hm]
    exact .inr ⟨c, _, _, _, rfl, (R1.ct i c cin).1, .inl ⟨upd_same, rfl⟩, ow2, rfl⟩
  · rw [List.nodup_cons]
    refine ⟨fun z => ?_, ?_⟩
    · rcases List.mem_append.mp z with z | z
      · exact (List.nodup_cons.mp nd0).1 z
      · exact cf z
    · rw [List.nodup_append]
      exact ⟨(List.nodup_cons.mp nd0).2, nd1, fun a ha b hb z => fdj b hb i (by rw [← z]; exact fsin a ha)⟩
  · intro b hb
    rcases List.mem_cons.mp hb with rfl | hb
    · exact R.nw i _ cin
    · rcases List.mem_append.mp hb with hb | hb
      · exact R.nw i b (fsin b hb)
      · exact fresh_of R.st (fr1 b hb)
  · intro j hj b hb z
    rcases List.mem_cons.mp hb with rfl | hb
    · exact hj (R.dj j i _ z cin)
    · rcases List.mem_append.mp hb with hb | hb
      · exact hj (R.dj j i b z (fsin b hb))
      · exact fdj b hb j z
end

/-! ### defs -/
/-- a def's contract; the guards that run around the call are known to be none -/
structure GOk (P : Program) (w : World) (K : PySem.W.Frag) (mg : Str → Option Value) (base : Heap) (k : Nat) (f : Addr) (fd : FuncData) (ps : List Str) (sp : Sp) : Prop where
  len : ∀ vs H Q E, sp vs H Q E → vs.length = ps.length
  run : ∀ (A : Around) (outer : List PySem.Env) (s : Shared) (H : Hp) (args : Args) (us : List Value) (vs : List V) (Q : VK) (E : XK), A.guards = some [] → Room k A → Env0 P w K mg base A outer s H →
    BindsTo s fd args (ps.zip us) → Vals vs us → sp vs H Q E → codeAny (model P w) A (.call (.ref f) args) (CR (L2.CX P w) outer P w H s Q E) s
theorem GOk.mono {P : Program} {w : World} {K : PySem.W.Frag} {mg : Str → Option Value} {base : Heap} {j k : Nat} {f : Addr} {fd : FuncData} {ps : List Str} {sp : Sp} (F : GOk P w K mg base j f fd ps sp) (h : j ≤ k) : GOk P w K mg base k f fd ps sp :=
  ⟨F.len, fun A outer s H args us vs Q E hg hr => F.run A outer s H args us vs Q E hg (hr.mono h)⟩
abbrev ctx (P : Program) (w : World) (K : PySem.W.Frag) (mg : Str → Option Value) (base : Heap) (N : List Str) (qual : Str) (st : Stmt) (f : Addr) (cdv : Value) (A : Around) (outer : List PySem.Env) (s : Shared) (H : Hp) (E : XK) : Cx :=
  cxOf (L2.CX P w) P w K mg base N qual (defScope st) f cdv A outer s H E
section
variable {P : Program} {w : World} {K : PySem.W.Frag} {mg : Str → Option Value} {base : Heap}
theorem GOk.of {x qual : Str} {st : Stmt} {f : Addr} {fd : FuncData} {N ps : List Str} {k : Nat} {sp : Sp} (F : Fun K x qual st f fd) (S : FnScope N ps (defScope st)) (len : ∀ vs H Q E, sp vs H Q E → vs.length = ps.length)
    (body : ∀ (cdv : Value) (A : Around) (outer : List PySem.Env) (s : Shared) (H : Hp) (vs : List V) (Q : VK) (E : XK), (ctx P w K mg base N qual st f cdv A outer s H E).A.guards = some [] → Room k (ctx P w K mg base N qual st f cdv A outer s H E).A →
      sp vs H Q E → ∃ t, PSs (ctx P w K mg base N qual st f cdv A outer s H E) (defBody st) t ∧ t { nx := fun _ H' => Q .non H', rt := Q } (start N vs) H) : GOk P w K mg base (k + 1) f fd ps sp := by
  obtain ⟨oc, od, kV, doc, pm, an, cdv, ct, osl, rfl, look, code⟩ := F.ex
  refine ⟨len, fun A outer s H args us vs Q E hgd room ent bind rel hsp => ?_⟩
  have hlen := len _ _ _ _ hsp
  have inK : K.In s.heap := ent.mod.kin.keeps fun b o q => (ent.bs b o q).1
  have noLim : s.heap.NoLimit := ent.mod.nolimit.keeps fun b o q => (ent.bs b o q).1
  have kinds : ∀ y ∈ ps.zip us, (defScope st).names.lookup y.1 = some .local ∨ ((defScope st).names.lookup y.1 = some .cell ∧ ((cellsFrom (s.heap.objs.size + 1) (defScope st).names []).lookup y.1).isSome = true) := by
    rintro ⟨nm, val⟩ hy
    rcases S.par nm (List.of_mem_zip hy).1 with q | q
    · exact .inl q
    · exact .inr ⟨q, PySem.W.cellsFrom_some _ _ _ (.inl q)⟩
  refine codeAny_call_function room.depth (inK _ _ look) rfl S.co S.gen rfl (PySem.W.codeRec_of inK code) (bind _ _ _ _ ?_)
  refine wpAny_newFunctionEnv_cells S.kind kinds fun env henv s1 ic => ?_
  subst henv
  refine ⟨noLim.keeps ic.toInCall.keep, codeAny_func ?_⟩
  obtain ⟨t, ht, hq⟩ := body cdv A outer s H vs Q E hgd (room.deeper _) hsp
  have J0 : Inv (ctx P w K mg base N qual st f cdv A outer s H E) [] (start N vs) H s1 := inv_start S room.hd ent hlen rel ic
  refine wpAny_mono (ht.run [] s1 (start N vs) H _ J0 hq) (fun flow s' end' => ?_) fun _ _ z => z
  have close : ∀ {σ' : St} {H' : Hp} {v : V} {u : Value}, Inv (ctx P w K mg base N qual st f cdv A outer s H E) [] σ' H' s' → RelV v u → Q v H' → CE outer P w H s Q u s' :=
    fun {σ' H' v u} J rv q => ⟨v, H', J.os, J.bare, J.base, J.hok, rv, q⟩
  cases flow with
  | next =>
    obtain ⟨_, _, J, q⟩ := end'
    exact close (v := V.non) (u := Value.none) J rfl q
  | ret u =>
    obtain ⟨_, _, _, J, rv, q⟩ := end'
    exact close J rv q
  | brk =>
    obtain ⟨_, _, _, z⟩ := end'
    exact z.elim
  | cont =>
    obtain ⟨_, _, _, z⟩ := end'
    exact z.elim
end
section
variable {X : Cx} {k : Nat} {f : Addr} {fd : FuncData} {ps : List Str} {sp : Sp} {W : WX} {x : Str} {p pos : Pos} {e : Expr} {es : List Expr} {t : TA}
/-- the callee runs -/
theorem run_g {pins : List (Addr × Obj)} {σ : St} {H : Hp} {s : Shared} {Q : VK} {args : Args} {us : List Value} {vs : List V} (F : GOk X.prog X.w X.K X.mg X.base k f fd ps sp) (hgd : X.A.guards = some []) (hr : Room k X.A) (tk : Takes X W)
    (I : Inv X pins σ H s) (hb : BindsTo s fd args (ps.zip us)) (r : Vals vs us) (h : sp vs H Q (fun cls d H' => W cls d σ H')) : codeAny (model X.prog X.w) X.A (.call (.ref f) args) (fun r s' => match r with
      | .ok (.ret u) => EP X pins σ Q u s'
      | .ok _ => False
      | .error e => X.xe e s') s := by
  refine codeAny_mono (F.run X.A X.stack s H args us vs Q _ hgd hr I.env0 hb r h) fun res s' hq => ?_
  cases res with
  | error e => exact tk e s' (XE.of_call I (fun _ _ _ h => h) hq)
  | ok fl =>
    cases fl with
    | ret u => exact I.after hq
    | next => exact hq.elim
    | brk => exact hq.elim
    | cont => exact hq.elim
/-- f(e, ..) -/
theorem pe_g (F : GOk X.prog X.w X.K X.mg X.base k f fd ps sp) (hgd : X.A.guards = some []) (hr : Room k X.A) (tk : Takes X W) (hg : Gl X x) (hm : X.mg x = some (.ref f)) (hk : PySem.W.keepIn X.K (.ref f) = true) (hb : Binds X.K fd ps [])
    (ha : PA X (e :: es) t) (hdb : (x == ("__debug__" : Str)) = false := by decide) (he : starEach (e :: es) X.env = (false, eval e X.env) :: starEach es X.env := by rfl) (hpl : (backTo pos (starEach es X.env)).any (·.1) = false := by rfl) :
    PE X (.Call (.Name x p) (e :: es) [] pos) (fun σ H Q => t σ H fun vs H1 => sp vs H1 Q (fun cls d H' => W cls d σ H')) := by
  refine ⟨fun pins s σ H Q I h => wpAny_Call_Name_kw (ld_glob I hg hm ?_ hdb)⟩
  refine PySem.W.callWith_K (h₀ := X.base) I.ok.mod.kin hk (thn (ha.run pos pins s σ H _ I h) fun us s1 ⟨vs, H1, J, r, q⟩ => ⟨J.kIn, ?_⟩) he hpl
  have hl : us.length = ps.length := by rw [← r.length]; exact F.len _ _ _ _ q
  have bb := hb s1 us J.kIn (by rw [List.append_nil]; exact hl)
  rw [List.append_nil] at bb
  refine wpAny_call (codeAny_mono (run_g F hgd hr tk J bb r q) fun res s' hq => ?_)
  cases res with
  | error e => exact hq
  | ok fl =>
    cases fl with
    | ret u => exact hq
    | next => exact hq.elim
    | brk => exact hq.elim
    | cont => exact hq.elim
theorem pe_g0 (F : GOk X.prog X.w X.K X.mg X.base k f fd [] sp) (hgd : X.A.guards = some []) (hr : Room k X.A) (tk : Takes X W) (hg : Gl X x) (hm : X.mg x = some (.ref f)) (hk : PySem.W.keepIn X.K (.ref f) = true) (hb : Binds X.K fd [] [])
    (hdb : (x == ("__debug__" : Str)) = false := by decide) : PE X (.Call (.Name x p) [] [] pos) (fun σ H Q => sp [] H Q (fun cls d H' => W cls d σ H')) := by
  refine ⟨fun pins s σ H Q I h => wpAny_Call_Name_kw (ld_glob I hg hm ?_ hdb)⟩
  refine PySem.W.callWith_K0 I.kIn hk (wpAny_call (codeAny_mono (run_g F hgd hr tk I (hb s [] I.kIn rfl) .nil h) fun res s' hq => ?_))
  cases res with
  | error e => exact hq
  | ok fl =>
    cases fl with
    | ret u => exact hq
    | next => exact hq.elim
    | brk => exact hq.elim
    | cont => exact hq.elim
/-- the values in another order -/
def pick {α : Type} (π : List Nat) (l : List α) : List α := π.filterMap fun j => l[j]?
theorem vals_pick {vs : List V} {us : List Value} (r : Vals vs us) : ∀ π : List Nat, Vals (pick π vs) (pick π us)
  | [] => .nil
  | j :: π => by
    unfold Vl.pick
    rw [List.filterMap_cons, List.filterMap_cons]
    cases h : vs[j]? with
    | none =>
      rw [r.none_of h]
      exact vals_pick r π
    | some v =>
      obtain ⟨u, hu, ru⟩ := r.get h
      rw [hu]
      exact .cons ru (vals_pick r π)
theorem RpL.pick {K : PySem.W.Frag} {H : Hp} {vs : List V} {ds : List Dt} (r : RpL K H vs ds) : ∀ π : List Nat, RpL K H (pick π vs) (pick π ds)
  | [] => .nil
  | j :: π => by
    unfold Vl.pick
    rw [List.filterMap_cons, List.filterMap_cons]
    cases h : ds[j]? with
    | none =>
      have : vs[j]? = none := List.getElem?_eq_none_iff.mpr (by rw [r.length]; exact List.getElem?_eq_none_iff.mp h)
      rw [this]
      exact RpL.pick r π
    | some d =>
      obtain ⟨u, hu, ru⟩ := r.get h
      rw [hu]
      exact .cons ru (RpL.pick r π)
/-- how keywords alone bind -/
def KwB (fd : FuncData) (ps ks : List Str) (π : List Nat) : Prop := ∀ (s : Shared) (ws : List Value), ws.length = ks.length → BindsTo s fd ⟨[], ks.zip ws⟩ (ps.zip (pick π ws))
theorem pe_gk {ks : List Str} {π : List Nat} {kws : List Keyword} {tk' : TA} (F : GOk X.prog X.w X.K X.mg X.base k f fd ps sp) (hgd : X.A.guards = some []) (hr : Room k X.A) (tk : Takes X W) (hg : Gl X x) (hm : X.mg x = some (.ref f)) (hk : PySem.W.keepIn X.K (.ref f) = true)
    (hb : KwB fd ps ks π) (hkw : PK X kws tk') (hlen : kws.length = ks.length := by rfl) (hall : (backToKw pos (keywordEach kws X.env)).all (·.1.isSome) = true := by rfl) (hks : (backToKw pos (keywordEach kws X.env)).filterMap (·.1) = ks := by rfl)
    (hdb : (x == ("__debug__" : Str)) = false := by decide) (hpl : ((backTo pos (starEach [] X.env)).any (·.1) || (backToKw pos (keywordEach kws X.env)).any (·.1.isNone)) = false := by rfl)
    (hwl : ∀ ks' : List (Sem Value), ks' = (backToKw pos (keywordEach kws X.env)).map (·.2) → ks'.length = kws.length := by intro _ h; rw [h]; rfl) :
    PE X (.Call (.Name x p) [] kws pos) (fun σ H Q => tk' σ H fun vs H1 => vs.length = ks.length ∧ sp (pick π vs) H1 Q (fun cls d H' => W cls d σ H')) := by
  refine ⟨fun pins s σ H Q I h => wpAny_Call_Name_kw (ld_glob I hg hm ?_ hdb)⟩
  refine PySem.W.callWith_KW0 (h₀ := X.base) I.ok.mod.kin hk hall (thn (hkw.run pos pins s σ H _ I h) fun ws s1 ⟨vs, H1, J, r, hl, q⟩ => ⟨J.kIn, ?_⟩) hpl
  rw [hks]
  refine wpAny_call (codeAny_mono (run_g F hgd hr tk J (hb s1 ws (by rw [← r.length]; exact hl)) (vals_pick r π) q) fun res s' hq => ?_)
  cases res with
  | error e => exact hq
  | ok fl =>
    cases fl with
    | ret u => exact hq
    | next => exact hq.elim
    | brk => exact hq.elim
    | cont => exact hq.elim
end

/-! ### contracts over data -/
abbrev Spec (G : Type) := List Dt → G → KD G → XD G → Prop
def spD {G : Type} (K : PySem.W.Frag) (Z : Vo G) (m : Nat) (sp : Spec G) : Sp := fun vs H Q E => ∃ Hs ds g Qd Ed, Same Hs H ∧ (∀ b ∈ Z.vol, Hs b = none) ∧ RpL K Hs vs ds ∧ Z.P g H ∧ sp ds g Qd Ed ∧ GoE K Z m Hs H Q Qd ∧
  ∀ c d g v x Hs' H', Ed c d g → Step Z.vol Hs H Hs' H' → H x = none → XdAt Hs' H' x v → Sc v d → Z.P g H' → E (.ref c) (some x) H'
/-- with cells that hang on an address -/
def spF {G ι : Type} (K : PySem.W.Frag) (Z : ι → Vo G) (m : Nat) (sp : ι → Spec G) : Sp := fun vs H Q E => ∃ i, spD K (Z i) m (sp i) vs H Q E
def startE (N : List Str) (ds : List Dt) : Env := ds.map some ++ List.replicate (N.length - ds.length) none
theorem SR.start {G : Type} {K : PySem.W.Frag} {Z : Vo G} {M : Nat → Nat} {N : List Str} {Hs H : Hp} {vs : List V} {ds : List Dt} {g : G} (s : Same Hs H) (hz : ∀ b ∈ Z.vol, Hs b = none) (r : RpL K Hs vs ds) (p : Z.P g H) (hM : ∀ i, i < ds.length → M i = 0) :
    SR K M Z.vol Hs H Hs H (start N vs) (startE N ds) (fun _ => []) := by
  refine ⟨Step.refl s, fun i d h => ?_, fun _ => List.nodup_nil, fun _ _ _ h => (by cases h), fun _ _ h => (by cases h), fun _ _ h => (by cases h), fun b hb => ⟨Z.trk g H p b hb, hz b hb⟩, ?_⟩
  · unfold startE at h
    by_cases hi : i < ds.length
    · rw [List.getElem?_append_left (by simpa using hi), List.getElem?_map] at h
      cases z : ds[i]? with
      | none => rw [z] at h; cases h
      | some d' =>
        rw [z] at h
        cases h
        obtain ⟨v, hv, rv⟩ := r.get z
        refine ⟨v, ?_, ?_⟩
        · unfold L2.start
          rw [List.getElem?_append_left (by rw [List.length_map, r.length]; exact hi), List.getElem?_map, hv]
          rfl
        · rw [hM i hi]
          exact ⟨rfl, rv⟩
    · rw [List.getElem?_append_right (by simpa using hi), List.getElem?_replicate] at h
      split at h <;> cases h
  · unfold startE L2.start
    rw [List.length_append, List.length_append, List.length_map, List.length_map, List.length_replicate, List.length_replicate, r.length]
section
variable {P : Program} {w : World} {K : PySem.W.Frag} {mg : Str → Option Value} {base : Heap}
/-- what leaves the def -/
abbrev WO (E : XK) : WX := fun cls d _ H => E cls d H
theorem takes_ctx {N : List Str} {qual : Str} {st : Stmt} {f : Addr} {cdv : Value} {A : Around} {outer : List PySem.Env} {s : Shared} {H : Hp} {E : XK} : Takes (ctx P w K mg base N qual st f cdv A outer s H E) (WO E) := takes_of rfl rfl rfl rfl
theorem passes_ctx {N : List Str} {qual : Str} {st : Stmt} {f : Addr} {cdv : Value} {A : Around} {outer : List PySem.Env} {s : Shared} {H : Hp} {E : XK} :
    PassesOwn (model (ctx P w K mg base N qual st f cdv A outer s H E).prog (ctx P w K mg base N qual st f cdv A outer s H E).w) (ctx P w K mg base N qual st f cdv A outer s H E).A (ctx P w K mg base N qual st f cdv A outer s H E).env (ctx P w K mg base N qual st f cdv A outer s H E).xe := passes_of rfl
/-- THE RULE: a def whose parameters are there for good; its body's law -/
theorem fn_dataF {G ι : Type} {Z : ι → Vo G} {x qual : Str} {st : Stmt} {f : Addr} {fd : FuncData} {N ps : List Str} {k m : Nat} {sp : ι → Spec G} (F : Fun K x qual st f fd) (S : FnScope N ps (defScope st)) (M : ι → Nat → Nat) (wb : ι → WS G)
    (len : ∀ i ds g Q E, sp i ds g Q E → ds.length = ps.length) (hM : ∀ i j, j < ps.length → M i j = 0)
    (body : ∀ i (cdv : Value) (A : Around) (outer : List PySem.Env) (s : Shared) (H : Hp) (E : XK), (ctx P w K mg base N qual st f cdv A outer s H E).A.guards = some [] → Room k (ctx P w K mg base N qual st f cdv A outer s H E).A →
      DB (ctx P w K mg base N qual st f cdv A outer s H E) (Z i) (WO E) (M i) m (defBody st) (wb i))
    (law : ∀ i ds g Q E, sp i ds g Q E → wb i { nx := fun _ g => Q .non g, rt := Q, ex := fun c d _ g => E c d g } (startE N ds) g) : GOk P w K mg base (k + 1) f fd ps (spF K Z m sp) := by
  refine GOk.of F S (fun vs H Q E h => ?_) fun cdv A outer s H vs Q E hgd hr h => ?_
  · obtain ⟨i, Hs, ds, g, Qd, Ed, _, _, r, _, hsp, _⟩ := h
    rw [r.length]
    exact len _ _ _ _ _ hsp
  · obtain ⟨i, Hs, ds, g, Qd, Ed, s0, hz, r, p, hsp, ke, kx⟩ := h
    obtain ⟨t, ps', ref⟩ := body i cdv A outer s H E hgd hr
    refine ⟨t, ps', ref (SR.start s0 hz r p fun j hj => hM i j (by rw [← len _ _ _ _ _ hsp]; exact hj)) p (law i ds g Qd Ed hsp) ⟨?_, fun q => q.elim, fun q => q.elim, ?_, ?_⟩⟩
    · intro env g' Hs' H' σ' fp' q R p'
      exact ke .non g' .non Hs' H' [] q R.st (Own.sc trivial) List.nodup_nil (fun _ h => (by cases h)) p'
    · intro d g' v Hs' H' f' q st o nd fr p'
      exact ke d g' v Hs' H' f' q st o nd fr p'
    · intro c d env g' v y Hs' H' σ' fp' q R p' hx sc h0
      exact kx c d g' v y Hs' H' q R.st h0 hx sc p'
end
section
variable {G : Type} {X : Cx} {Z : Vo G} {W : WX} {M : Nat → Nat} {k m : Nat} {f : Addr} {fd : FuncData} {ps : List Str} {x : Str} {p pos : Pos} {e : Expr} {es : List Expr} {u : WA G}
/-- a def without draws -/
abbrev spP (K : PySem.W.Frag) (m : Nat) (sp : Spec Unit) : Sp := spF K (fun _ : Unit => vo0) m (fun _ => sp)
def wFn (sp : Spec Unit) (u : WA G) : WE G := fun env g Q E => u env g (fun ds g' => sp ds () (fun d _ => Q d g') (fun c d _ => E c d g')) E
theorem call_pure {sp : Spec Unit} {Hs H Hs1 H1 : Hp} {σ : St} {g : G} {vs : List V} {ds : List Dt} {Q : VK} {Qd : KD G} {Ed : XD G} (s : Step Z.vol Hs H Hs1 H1) (r : RpL X.K Hs1 vs ds) (p : Z.P g H1) (h : sp ds () (fun d _ => Qd d g) (fun c d _ => Ed c d g))
    (k : GoE X.K Z m Hs H Q Qd) (x : GoX Z W Hs H σ Ed) : spP X.K m sp vs H1 Q (fun cls d H' => W cls d σ H') :=
  ⟨(), Hs1, ds, (), _, _, s.s4, fun _ h => (by cases h), r, trivial, h, fun d _ v Hs' H' f q s' o nd fr _ => k d g v Hs' H' f q (s.trans s'.mono) o nd (fun b hb => fresh_of s (fr b hb)) (Z.pure p s'),
    fun c d _ v y Hs' H' q s' hy hx sc _ => x c d g v y Hs' H' q (s.trans s'.mono) (fresh_of s hy) hx sc (Z.pure p s')⟩
theorem de_fn {sp : Spec Unit} (F : GOk X.prog X.w X.K X.mg X.base k f fd ps (spP X.K m sp)) (hgd : X.A.guards = some []) (hr : Room k X.A) (tk : Takes X W) (hg : Gl X x) (hm : X.mg x = some (.ref f)) (hk : PySem.W.keepIn X.K (.ref f) = true) (hb : Binds X.K fd ps [])
    (ha : DA X Z W M (e :: es) u) (hdb : (x == ("__debug__" : Str)) = false := by decide) (he : starEach (e :: es) X.env = (false, eval e X.env) :: starEach es X.env := by rfl) (hpl : (backTo pos (starEach es X.env)).any (·.1) = false := by rfl) :
    DE X Z W M m (.Call (.Name x p) (e :: es) [] pos) (wFn sp u) := by
  obtain ⟨t, pa, r⟩ := ha
  exact ⟨_, pe_g F hgd hr tk hg hm hk hb pa hdb he hpl, fun R p q k x => r R p q (fun ds g' vs Hs' H' e s o p' => call_pure s o p' e k x) x⟩
theorem de_fn0 {sp : Spec Unit} (F : GOk X.prog X.w X.K X.mg X.base k f fd [] (spP X.K m sp)) (hgd : X.A.guards = some []) (hr : Room k X.A) (tk : Takes X W) (hg : Gl X x) (hm : X.mg x = some (.ref f)) (hk : PySem.W.keepIn X.K (.ref f) = true) (hb : Binds X.K fd [] [])
    (hdb : (x == ("__debug__" : Str)) = false := by decide) : DE X Z W M m (.Call (.Name x p) [] [] pos) (wFn sp wNil) :=
  ⟨_, pe_g0 F hgd hr tk hg hm hk hb hdb, fun R p q k x => call_pure (Step.refl R.hs) .nil p q k x⟩
/-- the keywords' values -/
def DK (X : Cx) (Z : Vo G) (W : WX) (M : Nat → Nat) (kws : List Keyword) (w : WA G) : Prop :=
  ∃ t, PK X kws t ∧ ∀ {Hs0 H0 Hs H : Hp} {σ : St} {env : Env} {fp : Nat → List Addr} {g : G} {Q : List V → Hp → Prop} {Qd : List Dt → G → Prop} {Ed : XD G},
    SR X.K M Z.vol Hs0 H0 Hs H σ env fp → Z.P g H → w env g Qd Ed → (∀ ds g vs Hs' H', Qd ds g → Step Z.vol Hs H Hs' H' → RpL X.K Hs' vs ds → ds.length = kws.length → Z.P g H' → Q vs H') → GoX Z W Hs H σ Ed → t σ H Q
theorem dk_nil : DK X Z W M [] wNil := ⟨_, pk_nil, fun R p q k _ => k [] _ [] _ _ q (Step.refl R.hs) .nil rfl p⟩
theorem dk_cons {nm : Option Str} {kpos : Pos} {kws : List Keyword} {w : WE G} (h : DE X Z W M 0 e w) (h' : DK X Z W M kws u) : DK X Z W M (⟨nm, e, kpos⟩ :: kws) (wCons w u) := by
  obtain ⟨t, pe, r⟩ := h
  obtain ⟨t', pk, r'⟩ := h'
  refine ⟨_, pk_cons pe pk, fun {Hs0 H0 Hs H σ env fp g Q Qd Ed} R p q k x => r R p q (fun d g1 v Hs1 H1 f1 e1 s1 o1 nd1 fr1 p1 => ?_) x⟩
  exact r' (R.step s1) p1 e1 (fun ds g2 vs Hs2 H2 e2 s2 o2 hl p2 => k (d :: ds) g2 (v :: vs) Hs2 H2 e2 (s1.trans s2) (.cons (o1.2.same s2.s1) o2) (by rw [List.length_cons, List.length_cons, hl]) p2) (x.step s1)
def wFnK (π : List Nat) (sp : Spec Unit) (u : WA G) : WE G := fun env g Q E => u env g (fun ds g' => sp (pick π ds) () (fun d _ => Q d g') (fun c d _ => E c d g')) E
theorem de_fnK {sp : Spec Unit} {ks : List Str} {π : List Nat} {kws : List Keyword} (F : GOk X.prog X.w X.K X.mg X.base k f fd ps (spP X.K m sp)) (hgd : X.A.guards = some []) (hr : Room k X.A) (tk : Takes X W) (hg : Gl X x) (hm : X.mg x = some (.ref f)) (hk : PySem.W.keepIn X.K (.ref f) = true)
    (hb : KwB fd ps ks π) (hkw : DK X Z W M kws u) (hlen : kws.length = ks.length := by rfl) (hall : (backToKw pos (keywordEach kws X.env)).all (·.1.isSome) = true := by rfl) (hks : (backToKw pos (keywordEach kws X.env)).filterMap (·.1) = ks := by rfl)
    (hdb : (x == ("__debug__" : Str)) = false := by decide) (hpl : ((backTo pos (starEach [] X.env)).any (·.1) || (backToKw pos (keywordEach kws X.env)).any (·.1.isNone)) = false := by rfl)
    (hwl : ∀ ks' : List (Sem Value), ks' = (backToKw pos (keywordEach kws X.env)).map (·.2) → ks'.length = kws.length := by intro _ h; rw [h]; rfl) : DE X Z W M m (.Call (.Name x p) [] kws pos) (wFnK π sp u) := by
  obtain ⟨t, pk, r⟩ := hkw
  exact ⟨_, pe_gk F hgd hr tk hg hm hk hb pk hlen hall hks hdb hpl hwl, fun R p q k x => r R p q (fun ds g' vs Hs' H' e s o hl p' => ⟨by rw [o.length, hl, hlen], call_pure s (o.pick π) p' e k x⟩) x⟩
/-- a def with draws, by the same cells -/
def wFnR (sp : Spec G) (u : WA G) : WE G := fun env g Q E => u env g (fun ds g' => sp ds g' Q E) E
theorem de_fnR {ι : Type} {Zf : ι → Vo G} {sp : ι → Spec G} (i : ι) (hZ : Zf i = Z) (F : GOk X.prog X.w X.K X.mg X.base k f fd ps (spF X.K Zf m sp)) (hgd : X.A.guards = some []) (hr : Room k X.A) (tk : Takes X W) (hg : Gl X x) (hm : X.mg x = some (.ref f)) (hk : PySem.W.keepIn X.K (.ref f) = true)
    (hb : Binds X.K fd ps []) (ha : DA X Z W M (e :: es) u) (hdb : (x == ("__debug__" : Str)) = false := by decide) (he : starEach (e :: es) X.env = (false, eval e X.env) :: starEach es X.env := by rfl) (hpl : (backTo pos (starEach es X.env)).any (·.1) = false := by rfl) :
    DE X Z W M m (.Call (.Name x p) (e :: es) [] pos) (wFnR (sp i) u) := by
  subst hZ
  obtain ⟨t, pa, r⟩ := ha
  refine ⟨_, pe_g F hgd hr tk hg hm hk hb pa hdb he hpl, fun {Hs0 H0 Hs H σ env fp g Q Qd Ed} R p q k x => r R p q (fun ds g' vs Hs' H' e s o p' => ?_) x⟩
  exact ⟨i, Hs', ds, g', _, _, s.s4, fun b hb => ((R.step s).hv b hb).2, o, p', e, k.step s, fun c d g2 v y Hs2 H2 q s2 hy hx sc p2 => x c d g2 v y Hs2 H2 q (s.trans s2) (fresh_of s hy) hx sc p2⟩
end
end Vl

/-! Vl8: the law's end; a list of draws as cells that expressions may write. -/
namespace Vl
open PySem PySem.Spec L2

section
open PyProof.Rows
/-- what a law promises: of every script it makes True -/
def specLaw : Spec Unit := fun ds _ Q _ => ∃ ns : List Int, ds = [.klst (ns.map .int)] ∧ ns.length ≤ 63 ∧ (∀ z ∈ ns, Builtin.Int.intBits z ≤ 1048576) ∧ Q (.bl true) ()

/-- the script's heap: nothing else is tracked -/
theorem law_at {P : Program} {w : World} {K : PySem.W.Frag} {mg mb : Str → Option Value} {k : Nat} {fa a : Addr} {fd : FuncData} {x : Str} {s₁ : Shared} {vs : List Value} {ns : List Int}
    (inK : K.In s₁.heap) (gl : s₁.heap.Ns mainGlobals mg) (bl : s₁.heap.Ns builtinsNs mb) (bl2 : ∀ x : Str, x ≠ "__name__" → mb x = bootBuiltins x) (lim : s₁.heap.NoLimit) (gens : s₁.gens = #[])
    (scr : s₁.heap.get? a = some { cls := .type "list", data := .seq vs.toArray }) (ia : IntsAre vs ns) (len : ns.length ≤ 63) (bits : ∀ z ∈ ns, Builtin.Int.intBits z ≤ 1048576) (room : Room k callerA)
    (F : ∀ base : Heap, K.In base → base.Ns mainGlobals mg → GOk P w K mg base k fa fd [x] (spP K 0 specLaw)) (bind : ∀ (s : Shared) (u : Value), BindsTo s fd ⟨[u], []⟩ [(x, u)]) :
    codeAny (model P w) callerA (.call (.ref fa) ⟨[.ref a], []⟩) (fun r s' => r = .ok (.ret (.bool true)) ∧ OldK s₁.heap s'.heap ∧ s'.os = s₁.os ∧ AllBare s'.gens) s₁ := by
  have rel := vals_ints ia
  have sz : ns.length ≤ sizeLine := Nat.le_trans len (by decide)
  have main : ∀ H : Hp, Only H → SqL K H a (ns.map V.int) → HOk P w H s₁.heap → (∀ b, H b ≠ none → b = a ∧ K.lookup a = none) →
      codeAny (model P w) callerA (.call (.ref fa) ⟨[.ref a], []⟩) (fun r s' => r = .ok (.ret (.bool true)) ∧ OldK s₁.heap s'.heap ∧ s'.os = s₁.os ∧ AllBare s'.gens) s₁ := by
    intro H only sq hok just
    have dictFree : ∀ {b : Addr} {o : Obj} {es : Array DictEntry} {ep : Nat}, s₁.heap.get? b = some o → o.data = .dict es ep → H b = none := by
      intro b o es ep h1 h2
      by_cases z : H b = none
      · exact z
      · obtain ⟨rfl, _⟩ := just b z
        rw [scr] at h1
        cases h1
        exact absurd (show Data.seq vs.toArray _ = Data.dict es ep from h2) (fun q => nomatch q)
    have below : ∀ {b : Addr} {m : Str → Option Value}, s₁.heap.Ns b m → (hidT s₁.heap H).Ns b m := by
      rintro b m ⟨o, es, ep, h1, h2, h3⟩
      exact ⟨o, es, ep, hidT_get h1 (dictFree h1 h2), h2, h3⟩
    have kb : K.In (hidT s₁.heap H) := by
      intro b o h1
      refine hidT_get (inK b o h1) ?_
      by_cases z : H b = none
      · exact z
      · obtain ⟨rfl, h2⟩ := just b z
        rw [h2] at h1
        cases h1
    obtain ⟨mc, lim1, lim2⟩ := lim
    have md : Mod K mg (hidT s₁.heap H) := ⟨kb, below gl, ⟨mb, below bl, bl2⟩, mc, below lim1, lim2⟩
    have ent : Env0 P w K mg (hidT s₁.heap H) callerA [] s₁ H :=
      ⟨rfl, md, fun _ _ h => of_hidT h, Nat.le_of_eq (hidT_size _ _), trivial, fun b h => absurd h (by simp [frs]), hok, .of_eq gens⟩
    have hs0 : Same H H := Same.refl H
    have vr : RpL K H [.ref a] [.klst (ns.map .int)] := .cons (.klst sq (RpL.of_ints ns)) .nil
    have promise : spP K 0 specLaw [.ref a] H (fun v _ => v = .bl true) (fun cls d H' => False) := by
      refine ⟨(), H, [.klst (ns.map .int)], (), fun d _ => d = .bl true, fun _ _ _ => False, hs0, fun _ h => (by cases h), vr, trivial, ⟨ns, rfl, len, bits, rfl⟩, ?_, fun _ _ _ _ _ _ _ z => z.elim⟩
      rintro d _ v Hs' H' f rfl _ ⟨_, r⟩ _ _ _
      cases r
      rfl
    refine codeAny_mono ((F _ kb (below gl)).run callerA [] s₁ H ⟨[.ref a], []⟩ [.ref a] [.ref a] _ _ rfl room ent (bind s₁ (.ref a)) (.cons rfl .nil) promise) fun res s' fin => ?_
    cases res with
    | error e =>
      obtain ⟨_, _, _, _, _, _, _, _, _, _, _, _, z⟩ := fin
      exact z.elim
    | ok fl =>
      cases fl with
      | next => exact fin.elim
      | brk => exact fin.elim
      | cont => exact fin.elim
      | ret u =>
        obtain ⟨v, H', os, bare, un, hok', r', q⟩ := fin
        subst q
        obtain rfl : u = Value.bool true := r'
        refine ⟨rfl, OldK.of_keep fun b o h => ?_, os, bare⟩
        rcases only b with z | ⟨ob, xs, z⟩
        · exact un.keep b o h z (by simp [frs]) (by simp)
        · obtain ⟨e1, _⟩ := hok b _ z
          obtain ⟨e2, _⟩ := hok' b _ (un.frzs b ob _ z)
          rw [h] at e1
          cases e1
          exact e2
  cases known : K.lookup a with
  | some o =>
    have same := inK a o known
    rw [scr] at same
    cases same
    have e := ia.length
    exact main (fun _ => none) (fun _ => .inl rfl) (.inr ⟨_, vs.toArray, _, known, rfl, rfl, rfl, by rw [List.size_toArray, e]; exact sz, by simpa using rel⟩) (fun b u z => by cases (show (none : Option HO) = some u from z)) fun b z => absurd rfl z
  | none =>
    let H : Hp := fun b => if b = a then some (.frz { cls := .type "list", data := .seq vs.toArray } (.lst (ns.map V.int))) else none
    have at_a : H a = some (.frz { cls := .type "list", data := .seq vs.toArray } (.lst (ns.map V.int))) := if_pos rfl
    refine main H (fun b => ?_) (.inl (.inr ⟨_, at_a⟩)) (fun b u z => ?_) fun b z => ?_
    · by_cases q : b = a
      · exact .inr ⟨_, _, if_pos q⟩
      · exact .inl (if_neg q)
    · by_cases q : b = a
      · subst q
        rw [at_a] at z
        cases z
        exact ⟨scr, by rw [List.length_map]; exact sz, vs, _, rel, scr⟩
      · have z' : H b = none := if_neg q
        rw [z'] at z
        cases z
    · by_cases q : b = a
      · exact ⟨q, known⟩
      · exact absurd (if_neg q) z
/-- what the head leaves, from the law's contract -/
theorem law_end {l : PySem.W.OpenLaw} {k : Nat} {q : Program} {loose : List Str} {XP : (Str → Option Value) → Heap → Prop} {YP : World → Heap → Prop} {d : DefRec} {K : Params → PySem.W.Frag} {x : Str}
    (most : l.most = some 63) (dflt : d.params.defaults = []) (room : Room k callerA) (hY : ∀ (w : World) (h : Heap), YP w h → (K w.params).In h)
    (F : ∀ (w : World) (mg : Str → Option Value) (fa : Addr) (h : Heap), (K w.params).In h → h.Ns mainGlobals mg → mg d.name = some (.ref fa) →
      ∃ fd : FuncData, (∀ (s : Shared) (u : Value), BindsTo s fd ⟨[u], []⟩ [(x, u)]) ∧ ∀ base : Heap, (K w.params).In base → base.Ns mainGlobals mg → GOk l.prog w (K w.params) mg base k fa fd [x] (spP (K w.params) 0 specLaw)) :
    PySem.W.WalkO q loose XP YP l.row.toRowW d [] (fun f vs => PySem.call f vs) := by
  refine Att.attach_callB most dflt fun w s₀ s₁ mg mb fa o pm cd doc a vs ns G Y ho hd hcd hmg hobj hints hlen hbits hg => ?_
  have inK := hY w _ Y
  obtain ⟨fd, bind, hF⟩ := F w mg fa _ inK G.T.g hmg
  exact law_at inK G.T.g G.T.b G.T.builtins G.T.nolimit hg hobj hints hlen hbits room hF bind

end
/-! ### a list of three ints that is written by draws -/
structure Rg where
  dig : Int
  seed : Int
  ctr : Int
def voR (r : Addr) : Vo Rg where
  vol := [r]
  P := fun g H => H r = some (.lst [.int g.dig, .int g.seed, .int g.ctr])
  dep := fun g H H' h e => by rw [e r (by simp)]; exact h
  trk := fun g H h b hb => by
    have : b = r := by simpa using hb
    rw [this, h]
    simp
section
variable {G ι : Type} {X : Cx} {W : WX} {M : Nat → Nat} {nr : Nat} {Z : ι → Vo G}
/-- the own names are forgotten -/
def keepP (M : Nat → Nat) (env : Env) : Env := env.mapIdx fun j e => if M j = 0 then e else none
/-- from here on what the name at i holds are cells that expressions write -/
def wAdopt (M : Nat → Nat) (i : Nat) (A : Dt → G → Prop) (root : ι → Addr) (wr : ι → WS G) : WS Unit := fun D env _ => ∃ d g, env[i]? = some (some d) ∧ A d g ∧ ∀ j, wr j
  { nx := fun env' _ => D.nx (env'.set i none) (), rt := fun d _ => D.rt d (), bk := fun env' _ => D.bk (env'.set i none) (), ct := fun env' _ => D.ct (env'.set i none) (), ex := fun c d env' _ => D.ex c d (env'.set i none) () }
  ((keepP M env).set i (some (.raw (.ref (root j))))) g
theorem db_adopt (i : Nat) (A : Dt → G → Prop) (root : ι → Addr) {ss : List Stmt} {wr : ι → WS G}
    (hz : ∀ {Hs H : Hp} {v : V} {d : Dt} {f : List Addr} {g : G}, Own X.K Hs H (M i) v d f → A d g → ∃ j, v = .ref (root j) ∧ (∀ b ∈ (Z j).vol, b ∈ f) ∧ (Z j).P g H)
    (h : ∀ j, DB X (Z j) W (thaw M [i]) nr ss (wr j)) : DB X vo0 W M nr ss (wAdopt M i A root wr) := by
  refine ⟨fun D σ H => ∃ j, (h j).choose D σ H, ⟨fun pins s σ H D I ⟨j, q⟩ => (h j).choose_spec.1.run pins s σ H D I q⟩, fun {Hs0 H0 Hs H σ env fp g D Dd} R p q k => ?_⟩
  obtain ⟨d, g', e, hA, q⟩ := q
  obtain ⟨v, hσ, o⟩ := R.at' i d e
  obtain ⟨j, rfl, hv, hP⟩ := hz o hA
  have hi : i < env.length := (List.getElem?_eq_some_iff.mp e).1
  have vin : ∀ b ∈ (Z j).vol, b ∈ fp i := hv
  have R1 : SR X.K (thaw M [i]) (Z j).vol Hs H Hs H σ ((keepP M env).set i (some (.raw (.ref (root j))))) (fun _ => []) := by
    refine ⟨Step.refl R.hs, fun l e' h' => ?_, fun _ => List.nodup_nil, fun _ _ _ h => (by cases h), fun _ _ h => (by cases h), fun _ _ h => (by cases h), fun b hb => ?_, ?_⟩
    · by_cases hl : l = i
      · subst hl
        rw [List.getElem?_set_self (by unfold keepP; rw [List.length_mapIdx]; exact hi)] at h'
        cases h'
        refine ⟨_, hσ, ?_⟩
        rw [show thaw M [l] l = 0 from if_pos (by simp)]
        exact ⟨rfl, .raw _⟩
      · rw [List.getElem?_set_ne (Ne.symm hl)] at h'
        unfold keepP at h'
        rw [List.getElem?_mapIdx] at h'
        cases z : env[l]? with
        | none => rw [z] at h'; cases h'
        | some e0 =>
          rw [z] at h'
          by_cases hm : M l = 0
          · have h2 : e0 = some e' := by simpa [hm] using h'
            subst h2
            obtain ⟨u, e1, o1⟩ := R.at' l e' z
            refine ⟨u, e1, ?_⟩
            rw [show thaw M [i] l = M l from if_neg (by simpa using hl), hm]
            rw [hm] at o1
            exact ⟨rfl, o1.2⟩
          · have : (none : Option Dt) = some e' := by simpa [hm] using h'
            cases this
    · obtain ⟨h1, h2⟩ := R.ct i b (vin b hb)
      exact ⟨h2, h1⟩
    · rw [List.length_set]
      unfold keepP
      rw [List.length_mapIdx]
      exact R.len
  have v0 : ∀ b ∈ (Z j).vol, H0 b = none := fun b hb => R.nw i b (vin b hb)
  have low : ∀ {Hs' H' : Hp}, Step (Z j).vol Hs H Hs' H' → Step [] Hs0 H0 Hs' H' := fun {Hs' H'} st =>
    ⟨R.st.s1.trans st.s1, fun b o e _ => st.s2 b o (R.st.s2 b o e (by simp [vo0])) (fun z => by rw [v0 b z] at e; cases e), fun b e => by
      rcases st.s3 b e with z | z
      · exact R.st.s3 b z
      · refine .inr ?_
        cases z2 : H0 b with
        | none => rfl
        | some u => exact absurd z (R.st.s5 b (by rw [z2]; simp)), st.s4, fun b e => st.s5 b (R.st.s5 b e)⟩
  have back : ∀ {env' : Env} {Hs' H' : Hp} {σ' : St} {fp' : Nat → List Addr}, SR X.K (thaw M [i]) (Z j).vol Hs H Hs' H' σ' env' fp' → SR X.K M [] Hs0 H0 Hs' H' σ' (env'.set i none) (setf fp' i []) := by
    intro env' Hs' H' σ' fp' R2
    refine ⟨low R2.st, fun l e' h' => ?_, fun l => ?_, fun l m b h1 h2 => ?_, fun l b hb => ?_, fun l b hb => ?_, fun _ h => (by cases h), by rw [List.length_set]; exact R2.len⟩
    · by_cases hl : l = i
      · subst hl
        by_cases hb : l < env'.length
        · rw [List.getElem?_set_self hb] at h'; cases h'
        · rw [List.getElem?_eq_none (by simpa using hb)] at h'; cases h'
      · rw [List.getElem?_set_ne (Ne.symm hl)] at h'
        obtain ⟨u, e1, o1⟩ := R2.at' l e' h'
        rw [show thaw M [i] l = M l from if_neg (by simpa using hl)] at o1
        exact ⟨u, e1, by rw [setf_ne hl]; exact o1⟩
    · by_cases hl : l = i
      · subst hl; rw [setf_same]; exact List.nodup_nil
      · rw [setf_ne hl]; exact R2.nd l
    · by_cases hl : l = i
      · rw [hl, setf_same] at h1; cases h1
      · by_cases hm : m = i
        · rw [hm, setf_same] at h2; cases h2
        · rw [setf_ne hl] at h1
          rw [setf_ne hm] at h2
          exact R2.dj l m b h1 h2
    · by_cases hl : l = i
      · rw [hl, setf_same] at hb; cases hb
      · rw [setf_ne hl] at hb
        exact fresh_of R.st (R2.nw l b hb)
    · by_cases hl : l = i
      · rw [hl, setf_same] at hb; cases hb
      · rw [setf_ne hl] at hb
        exact R2.ct l b hb
  refine ⟨j, (h j).choose_spec.2 R1 hP (q j) ⟨fun q R2 _ => k.nx q (back R2) trivial, fun q R2 _ => k.bk q (back R2) trivial, fun q R2 _ => k.ct q (back R2) trivial, fun q st o nd fr _ => k.rt q (low st) o nd (fun b hb => fresh_of R.st (fr b hb)) trivial,
    fun q R2 _ hx sc h0 => k.ex q (back R2) trivial hx sc (fresh_of R.st h0)⟩⟩
/-- a new list of three ints -/
def isRg : Dt → Rg → Prop := fun d g => d = .lst [.int g.dig, .int g.seed, .int g.ctr]
theorem adopt_rg {K : PySem.W.Frag} {Hs H : Hp} {v : V} {d : Dt} {f : List Addr} {g : Rg} (o : Own K Hs H 1 v d f) (h : isRg d g) : ∃ r : Addr, v = .ref (id r) ∧ (∀ b ∈ (voR r).vol, b ∈ f) ∧ (voR r).P g H := by
  unfold isRg at h
  subst h
  obtain ⟨p, vs, fs, e, _, hp, ow, hf⟩ := o.node
  obtain ⟨_, r⟩ := ow.zero
  refine ⟨p, e, fun b hb => ?_, ?_⟩
  · have : b = p := by simpa [voR] using hb
    rw [this, hf]
    exact List.mem_cons_self
  · have e2 : vs = [V.int g.dig, .int g.seed, .int g.ctr] := RpL.ints (ns := [g.dig, g.seed, g.ctr]) r
    rw [e2] at hp
    exact hp
end
end Vl

/-! Vl9: slices, methods of texts, the cells of draws. -/
namespace Vl
open PySem PySem.Spec L2
section
variable {G : Type} {X : Cx} {Z : Vo G} {W : WX} {M : Nat → Nat} {n nr : Nat} {e a b : Expr} {es : List Expr} {w wa wb : WE G} {u : WA G} {pos p1 p2 p3 : Pos}

/-! ### slices -/
def DO (X : Cx) (Z : Vo G) (W : WX) (M : Nat → Nat) (e : Option Expr) (w : Env → G → (Option Int → G → Prop) → XD G → Prop) : Prop :=
  ∃ t, PO X e t ∧ ∀ {Hs0 H0 Hs H : Hp} {σ : St} {env : Env} {fp : Nat → List Addr} {g : G} {Q : Option Int → Hp → Prop} {Qd : Option Int → G → Prop} {Ed : XD G},
    SR X.K M Z.vol Hs0 H0 Hs H σ env fp → Z.P g H → w env g Qd Ed → (∀ o g Hs' H', Qd o g → Step Z.vol Hs H Hs' H' → Z.P g H' → Q o H') → GoX Z W Hs H σ Ed → t σ H Q
def wONone : Env → G → (Option Int → G → Prop) → XD G → Prop := fun _ g Q _ => Q none g
def wOSome (w : WE G) : Env → G → (Option Int → G → Prop) → XD G → Prop := fun env g Q E => w env g (fun d g' => ∃ i, d = .int i ∧ Q (some i) g') E
theorem do_none : DO X Z W M none wONone := ⟨_, po_none, fun R p q k _ => k none _ _ _ q (Step.refl R.hs) p⟩
theorem do_some (h : DE X Z W M 0 e w) : DO X Z W M (some e) (wOSome w) := by
  obtain ⟨t, pe, r⟩ := h
  refine ⟨_, po_some pe, fun {Hs0 H0 Hs H σ env fp g Q Qd Ed} R p q k x => r R p q (fun d g' v Hs' H' f e s o nd fr p' => ?_) x⟩
  obtain ⟨i, rfl, e⟩ := e
  have r := o.2
  cases r
  exact ⟨i, rfl, k (some i) g' Hs' H' e s p'⟩
/-- the part of a list -/
def cutD (xs : List Dt) (lo hi : Option Int) : List Dt := (xs.drop (HT.sIx xs.length 0 lo)).take (HT.sIx xs.length xs.length hi - HT.sIx xs.length 0 lo)
theorem RpL.cut {K : PySem.W.Frag} {H : Hp} {vs : List V} {ds : List Dt} (r : RpL K H vs ds) (lo hi : Option Int) : RpL K H (cutV vs lo hi) (cutD ds lo hi) := by
  unfold cutV cutD
  rw [r.length]
  exact (r.drop _).take _
def slD : Dt → Option Int → Option Int → (Dt → Prop) → Prop
  | .lst ds, lo, hi, q => q (.lst (cutD ds lo hi))
  | .klst ds, lo, hi, q => q (.lst (cutD ds lo hi))
  | .str z, lo, hi, q => z.length ≤ sizeLine ∧ q (.str (cutS z lo hi))
  | _, _, _, _ => False
def rrSl (K : PySem.W.Frag) : V → Option Int → Option Int → Hp → VK → Prop := fun x lo hi H Q => rSlL K x lo hi H Q ∨ rSlS x lo hi H Q
theorem sl_all : SlR X (rrSl X.K) := SlR.or sl_list sl_str
def wSl (w : WE G) (wl wh : Env → G → (Option Int → G → Prop) → XD G → Prop) : WE G := fun env g Q E => w env g (fun d g1 => wl env g1 (fun lo g2 => wh env g2 (fun hi g3 => slD d lo hi (fun z => Q z g3)) E) E) E
theorem de_slice {lo hi : Option Expr} {wl wh : Env → G → (Option Int → G → Prop) → XD G → Prop} (he : DE X Z W M 0 e w) (hl : DO X Z W M lo wl) (hh : DO X Z W M hi wh) : DE X Z W M 1 (.Subscript e (.Slice lo hi none p2) pos) (wSl w wl wh) := by
  obtain ⟨t, pe, r⟩ := he
  obtain ⟨tl, pl, rl⟩ := hl
  obtain ⟨th, ph, rh⟩ := hh
  refine ⟨_, pe_slice sl_all pe pl ph, fun {Hs0 H0 Hs H σ env fp g Q Qd Ed} R p q k x => ?_⟩
  refine r R p q (fun d g1 v Hs1 H1 f e1 s1 o1 nd1 fr1 q1 => ?_) x
  refine rl (R.step s1) q1 e1 (fun l g2 Hs2 H2 e2 s2 q2 => ?_) (x.step s1)
  refine rh ((R.step s1).step s2) q2 e2 (fun h g3 Hs3 H3 e3 s3 q3 => ?_) ((x.step s1).step s2)
  have rp := (o1.2.same s2.s1).same s3.s1
  have k' := k.pure ((s1.trans s2).trans s3) q3
  cases d <;> first | exact e3.elim | skip
  · cases rp
    exact .inr ⟨_, rfl, e3.1, k'.scal s3.s4 (d := .str _) rfl e3.2⟩
  · obtain ⟨c, xs, rfl, hc, rx⟩ := rp.seq s3.s4
    exact .inl ⟨c, xs, rfl, SqL.of hc, fun y hy => k'.newL s3.s4 hy (rx.cut _ _) e3⟩
  · obtain ⟨c, xs, rfl, hc, rx⟩ := rp.kseq s3.s4
    exact .inl ⟨c, xs, rfl, hc, fun y hy => k'.newL s3.s4 hy (rx.cut _ _) e3⟩

/-! ### methods of texts -/
variable {name : Str} {id : String} {rr : V → List V → Hp → VK → Prop}
def wM1 (r : D2) (wa wb : WE G) : WE G := fun env g Q E => wa env g (fun d g1 => (∃ z, d = .str z) ∧ wb env g1 (fun e g2 => r d e (fun z => Q z g2)) E) E
def wM0 (r : Dt → (Dt → Prop) → Prop) (wa : WE G) : WE G := fun env g Q E => wa env g (fun d g1 => (∃ z, d = .str z) ∧ r d (fun z => Q z g1)) E
theorem de_m1 {t1 : TE → TE → TE} {r : D2} (h : ∀ {ta tb : TE}, PE X a ta → PE X b tb → PE X e (tM1 rr ta tb)) (hr : Op2 X n (fun x y H Q => rr x [y] H Q) r) (ha : DE X Z W M 0 a wa) (hb : DE X Z W M 0 b wb) : DE X Z W M n e (wM1 r wa wb) := by
  obtain ⟨ta, pa, ra⟩ := ha
  obtain ⟨tb, pb, rb⟩ := hb
  refine ⟨_, h pa pb, fun {Hs0 H0 Hs H σ env fp g Q Qd Ed} R p q k x => ?_⟩
  refine ra R p q (fun d g1 v1 Hs1 H1 f1 e1 s1 o1 nd1 fr1 q1 => ?_) x
  obtain ⟨⟨z, rfl⟩, e1⟩ := e1
  have r1 := o1.2
  cases r1
  refine ⟨⟨_, rfl⟩, rb (R.step s1) q1 e1 (fun e g2 v2 Hs2 H2 f2 e2 s2 o2 nd2 fr2 q2 => ?_) (x.step s1)⟩
  exact hr s2.s4 (.str z) o2.2 e2 (k.pure (s1.trans s2) q2)
/-- sep.join(list of texts) -/
def joinD : D2 := fun d e q => ∃ (a : Str) (ys : List Str), d = .str a ∧ e = .lst (ys.map .str) ∧ (ys.map (·.length)).sum + ys.length * a.length ≤ 16777216 ∧ q (.str (Txt.join a ys))
theorem op2_join : Op2 X n (fun x y H Q => ∃ a p, ∃ ys : List Str, x = .str a ∧ [y] = [.ref p] ∧ (SqL X.K H p (ys.map V.str) ∨ SqT X.K H p (ys.map V.str)) ∧ (ys.map (·.length)).sum + ys.length * a.length ≤ 16777216 ∧ Q (.str (Txt.join a ys)) H) joinD := by
  intro Hs H x y d e Q q s hx hy r k
  obtain ⟨a, ys, rfl, rfl, hz, r⟩ := r
  cases hx
  obtain ⟨p, xs, rfl, hp, rx⟩ := hy.seq s
  have e := rx.strs
  subst e
  exact ⟨a, p, ys, rfl, rfl, .inl (SqL.of hp), hz, k.scal s (d := .str _) rfl r⟩
theorem de_join (ha : DE X Z W M 0 a wa) (hb : DE X Z W M 0 b wb) (hs : starEach [b] X.env = [(false, eval b X.env)] := by rfl) (hbase : attributeBase a "join" X.env (eval a X.env) = eval a X.env := by rfl) (hline : (p2.endLine == p3.line) = true := by rfl) :
    DE X Z W M n (.Call (.Attribute a "join" p2) [b] [] p3) (wM1 joinD wa wb) :=
  de_m1 (t1 := fun t _ => t) (fun pa pb => pe_join pa pb hs hbase hline) op2_join ha hb
/-- s.split(sep) -/
def splitD : D2 := fun d e q => ∃ a b : Str, d = .str a ∧ e = .str b ∧ (b.length == 0) = false ∧ a.length + 2 ≤ sizeLine ∧ q (.lst ((Txt.split a b).map .str))
theorem RpL.of_strs {K : PySem.W.Frag} {H : Hp} : ∀ ns : List Str, RpL K H (ns.map V.str) (ns.map .str)
  | [] => .nil
  | n :: ns => .cons (.str n) (RpL.of_strs ns)
theorem op2_split : Op2 X 1 (fun x y H Q => ∃ a b, x = .str a ∧ [y] = [V.str b] ∧ (b.length == 0) = false ∧ a.length + 2 ≤ sizeLine ∧ rNewStrs (Txt.split a b) H Q) splitD := by
  intro Hs H x y d e Q q s hx hy r k
  obtain ⟨a, b, rfl, rfl, h1, h2, r⟩ := r
  cases hx; cases hy
  exact ⟨a, b, rfl, rfl, h1, h2, fun p hp => k.newL s hp (RpL.of_strs _) r⟩
theorem de_split (ha : DE X Z W M 0 a wa) (hb : DE X Z W M 0 b wb) (hs : starEach [b] X.env = [(false, eval b X.env)] := by rfl) (hbase : attributeBase a "split" X.env (eval a X.env) = eval a X.env := by rfl) (hline : (p2.endLine == p3.line) = true := by rfl) :
    DE X Z W M 1 (.Call (.Attribute a "split" p2) [b] [] p3) (wM1 splitD wa wb) :=
  de_m1 (t1 := fun t _ => t) (fun pa pb => pe_split pa pb hs hbase hline) op2_split ha hb
end
/-! ### the cells of draws: rng[0], rng[1], rng[2] -/
section
variable {X : Cx} {W : WX} {M : Nat → Nat} {n nr : Nat} {e : Expr} {w : WE Rg} {pos p1 p2 : Pos} {x : Str} {r : Addr}
def Rg.get (g : Rg) : Nat → Int
  | 0 => g.dig
  | 1 => g.seed
  | _ => g.ctr
def Rg.put (g : Rg) (j : Nat) (v : Int) : Rg := match j with
  | 0 => { g with dig := v }
  | 1 => { g with seed := v }
  | _ => { g with ctr := v }
def wRg (i : Nat) (r : Addr) (j : Nat) : WE Rg := fun env g Q _ => env[i]? = some (some (.raw (.ref r))) ∧ Q (.int (g.get j)) g
theorem de_rg (i j : Nat) (hj : j < 3 := by decide) {ji : Nat} {jp : Pos} (hm : M i = 0 := by rfl) (hN : X.N[i]? = some x := by rfl) (hv : Vis X.env.scope x := by first | exact Or.inl rfl | exact Or.inr (Or.inl rfl) | exact Or.inr (Or.inr rfl))
    (hd : (x == ("__debug__" : Str)) = false := by decide) (hcd : (x == ("__classdict__" : Str)) = false := by decide) (hix : PlainIx (.Constant (.int (j : Nat)) ji jp) := by exact fun _ _ => rfl) :
    DE X (voR r) W M n (.Subscript (.Name x p1) (.Constant (.int (j : Nat)) ji jp) pos) (wRg i r j) :=
  ⟨_, pe_ix ix_list (pe_var hN hv hd hcd) pe_int hix, fun {Hs0 H0 Hs H σ env fp g Q Qd Ed} R p q k _ => by
    obtain ⟨q1, q2⟩ := q
    obtain ⟨v, e1, rv⟩ := R.val hm q1
    cases rv
    have hp : H r = some (.lst [.int g.dig, .int g.seed, .int g.ctr]) := p
    refine ⟨.ref r, e1, r, _, j, .int (g.get j), rfl, rfl, SqL.of hp, ?_, (k.pure (Step.refl R.hs) p).scal R.hs (d := .int _) rfl q2⟩
    have : j = 0 ∨ j = 1 ∨ j = 2 := by omega
    rcases this with rfl | rfl | rfl <;> rfl⟩
def wRgSet (i : Nat) (r : Addr) (j : Nat) (w : WE Rg) : WS Rg := fun D env g => w env g (fun d g' => ∃ v, d = .int v ∧ env[i]? = some (some (.raw (.ref r))) ∧ D.nx env (g'.put j v)) (exE D env)
theorem ds_rgSet (i j : Nat) (he : DE X (voR r) W M 0 e w) (hj : j < 3 := by decide) {ji : Nat} {jp : Pos} (hm : M i = 0 := by rfl) (hN : X.N[i]? = some x := by rfl) (hv : Vis X.env.scope x := by first | exact Or.inl rfl | exact Or.inr (Or.inl rfl) | exact Or.inr (Or.inr rfl))
    (hd : (x == ("__debug__" : Str)) = false := by decide) (hcd : (x == ("__classdict__" : Str)) = false := by decide)
    (ha : ∀ v, assign (.Subscript (.Name x p1) (.Constant (.int (j : Nat)) ji jp) p2) X.env v = (do
      let ov ← holding [v] (eval (.Name x p1) X.env)
      let iv ← holding [v, ov] (eval (.Constant (.int (j : Nat)) ji jp) X.env)
      standAt p2
      holding [v, ov, iv] (setItem ov iv v)
      release [v, ov, iv] []) := by intro _; rfl)
    (hs : swapsWithSole [.Subscript (.Name x p1) (.Constant (.int (j : Nat)) ji jp) p2] e pos.line X.env = pure false := by rfl) (hw : swappedStores [.Subscript (.Name x p1) (.Constant (.int (j : Nat)) ji jp) p2] e X.env = pure none := by rfl)
    (h1 : (assignEach [.Subscript (.Name x p1) (.Constant (.int (j : Nat)) ji jp) p2] X.env).map (·.2) = [assign (.Subscript (.Name x p1) (.Constant (.int (j : Nat)) ji jp) p2) X.env] := by rfl) :
    DS X (voR r) W M nr (.Assign [.Subscript (.Name x p1) (.Constant (.int (j : Nat)) ji jp) p2] e pos) (wRgSet i r j w) := by
  obtain ⟨t, pe, rr⟩ := he
  refine ⟨_, ps_asg pe (pg_sub (pe_var hN hv hd hcd) pe_int set_list ha) hs hw h1, fun {Hs0 H0 Hs H σ env fp g D Dd} R p q k => rr R p q (fun d g' v Hs1 H1 f e s o nd fr q1 => ?_) (k.gox R)⟩
  obtain ⟨c, rfl, q2, e⟩ := e
  have rc := o.2
  cases rc
  obtain ⟨v, e1, rv⟩ := R.val hm q2
  cases rv
  have R1 := R.step s
  have hp : H1 r = some (.lst [.int g'.dig, .int g'.seed, .int g'.ctr]) := q1
  have hr : r ∈ (voR r).vol := by simp [voR]
  have st : Step (voR r).vol Hs1 H1 Hs1 (upd H1 r (.lst (List.set [V.int g'.dig, .int g'.seed, .int g'.ctr] j (.int c)))) := by
    refine ⟨Same.refl _, fun b o e n => ?_, fun _ e => .inl e, fun b o e => ?_, fun b e => ?_⟩
    · have : b ≠ r := fun z => n (by rw [z]; exact hr)
      rw [upd_ne this]; exact e
    · have : b ≠ r := fun z => by rw [z, (R1.hv r hr).2] at e; cases e
      rw [upd_ne this]; exact s.s4 b o e
    · by_cases z : b = r
      · rw [z, upd_same]; simp
      · rw [upd_ne z]; exact e
  refine ⟨.ref r, e1, r, _, j, j, rfl, rfl, hp, ?_, k.nx e (R1.step st) ?_⟩
  · have : j = 0 ∨ j = 1 ∨ j = 2 := by omega
    rcases this with rfl | rfl | rfl <;> rfl
  · show upd H1 r _ r = _
    rw [upd_same]
    have : j = 0 ∨ j = 1 ∨ j = 2 := by omega
    rcases this with rfl | rfl | rfl <;> rfl
end
end Vl

/-! Vl10: defs by name; short words for derivations. -/
namespace Vl
open PySem PySem.Spec L2

/-- modes by a table -/
def mo (l : List (Nat × Nat)) : Nat → Nat := fun i => (l.lookup i).getD 0
/-- a def of the top, by its name -/
def Fn (P : Program) (w : World) (K : PySem.W.Frag) (mg : Str → Option Value) (base : Heap) (k : Nat) (x : Str) (st : Stmt) (ps : List Str) (sp : Sp) : Prop :=
  ∃ f fd, Fun K x x st f fd ∧ GOk P w K mg base k f fd ps sp ∧ mg x = some (.ref f) ∧ Binds K fd ps []
theorem Fn.mono {P : Program} {w : World} {K : PySem.W.Frag} {mg : Str → Option Value} {base : Heap} {j k : Nat} {x : Str} {st : Stmt} {ps : List Str} {sp : Sp} (F : Fn P w K mg base j x st ps sp) (h : j ≤ k) : Fn P w K mg base k x st ps sp := by
  obtain ⟨f, fd, a, b, c⟩ := F
  exact ⟨f, fd, a, b.mono h, c⟩
theorem u70 {A : Around} {k : Nat} (hr : Room k A) : A.units + 70 < cLine := by have := hr.un; omega
/-- how keywords alone bind, read off the text -/
def KwOf (x : Str) (st : Stmt) (ps ks : List Str) (π : List Nat) : Prop :=
  ∀ (kV doc pm : Value) (an : Option Addr) (cdv ct : Value) (us : List Value), us.length = ks.length → bindArgs (PySem.W.fnOf x x (defArgs st) (defBody st) (defScope st) .none kV doc pm an cdv ct) ⟨[], ks.zip us⟩ = pure (ps.zip (pick π us))
section
variable {G : Type} {X : Cx} {Z : Vo G} {W : WX} {M : Nat → Nat} {k j m : Nat} {st : Stmt} {ps : List Str} {x : Str} {p pos : Pos} {e : Expr} {es : List Expr} {u : WA G}
theorem de_call {sp : Spec Unit} (F : Fn X.prog X.w X.K X.mg X.base j x st ps (spP X.K m sp)) (hgd : X.A.guards = some []) (hr : Room k X.A) (tk : Takes X W) (ha : DA X Z W M (e :: es) u) (hjk : j ≤ k := by decide) (hg : Gl X x := by rfl)
    (hdb : (x == ("__debug__" : Str)) = false := by decide) (he : starEach (e :: es) X.env = (false, eval e X.env) :: starEach es X.env := by rfl) (hpl : (backTo pos (starEach es X.env)).any (·.1) = false := by rfl) :
    DE X Z W M m (.Call (.Name x p) (e :: es) [] pos) (wFn sp u) := by
  obtain ⟨f, fd, a, b, c, d⟩ := F
  exact de_fn b hgd (hr.mono hjk) tk hg c a.kp d ha hdb he hpl
theorem de_call0 {sp : Spec Unit} (F : Fn X.prog X.w X.K X.mg X.base j x st [] (spP X.K m sp)) (hgd : X.A.guards = some []) (hr : Room k X.A) (tk : Takes X W) (hjk : j ≤ k := by decide) (hg : Gl X x := by rfl) (hdb : (x == ("__debug__" : Str)) = false := by decide) :
    DE X Z W M m (.Call (.Name x p) [] [] pos) (wFn sp wNil) := by
  obtain ⟨f, fd, a, b, c, d⟩ := F
  exact de_fn0 b hgd (hr.mono hjk) tk hg c a.kp d hdb
theorem de_callK {sp : Spec Unit} {ks : List Str} (π : List Nat) {kws : List Keyword} (F : Fn X.prog X.w X.K X.mg X.base j x st ps (spP X.K m sp)) (hgd : X.A.guards = some []) (hr : Room k X.A) (tk : Takes X W) (hb : KwOf x st ps ks π) (hkw : DK X Z W M kws u)
    (hjk : j ≤ k := by decide) (hg : Gl X x := by rfl) (hlen : kws.length = ks.length := by rfl) (hall : (backToKw pos (keywordEach kws X.env)).all (·.1.isSome) = true := by rfl) (hks : (backToKw pos (keywordEach kws X.env)).filterMap (·.1) = ks := by rfl)
    (hdb : (x == ("__debug__" : Str)) = false := by decide) (hpl : ((backTo pos (starEach [] X.env)).any (·.1) || (backToKw pos (keywordEach kws X.env)).any (·.1.isNone)) = false := by rfl)
    (hwl : ∀ ks' : List (Sem Value), ks' = (backToKw pos (keywordEach kws X.env)).map (·.2) → ks'.length = kws.length := by intro _ h; rw [h]; rfl) : DE X Z W M m (.Call (.Name x p) [] kws pos) (wFnK π sp u) := by
  obtain ⟨f, fd, a, b, c, d⟩ := F
  refine de_fnK b hgd (hr.mono hjk) tk hg c a.kp (ks := ks) (fun s ws hl => ?_) hkw hlen hall hks hdb hpl hwl
  obtain ⟨oc, od, kV, doc, pm, an, cdv, ct, osl, rfl, lk, hcd⟩ := a.ex
  exact .of_eq (hb kV doc pm an cdv ct ws hl)
theorem de_callR {ι : Type} {Zf : ι → Vo G} {sp : ι → Spec G} (i : ι) (F : Fn X.prog X.w X.K X.mg X.base j x st ps (spF X.K Zf m sp)) (hgd : X.A.guards = some []) (hr : Room k X.A) (tk : Takes X W) (ha : DA X Z W M (e :: es) u) (hZ : Zf i = Z := by rfl)
    (hjk : j ≤ k := by decide) (hg : Gl X x := by rfl) (hdb : (x == ("__debug__" : Str)) = false := by decide) (he : starEach (e :: es) X.env = (false, eval e X.env) :: starEach es X.env := by rfl) (hpl : (backTo pos (starEach es X.env)).any (·.1) = false := by rfl) :
    DE X Z W M m (.Call (.Name x p) (e :: es) [] pos) (wFnR (sp i) u) := by
  obtain ⟨f, fd, a, b, c, d⟩ := F
  exact de_fnR i hZ b hgd (hr.mono hjk) tk hg c a.kp d ha hdb he hpl
/-- what a module's name holds: a text, an int -/
theorem de_mstr {z : Str} {t : Tok} {n : Nat} (hm : X.mg x = some (.str z t)) (hg : Gl X x := by rfl) (hd : (x == ("__debug__" : Str)) = false := by decide) : DE X Z W M n (.Name x pos) (wC (.str z)) := de_glob (v := .str z) hg hm ⟨_, rfl⟩ rfl hd
theorem de_mint {z : Int} {t : Tok} {n : Nat} (hm : X.mg x = some (.int z t)) (hg : Gl X x := by rfl) (hd : (x == ("__debug__" : Str)) = false := by decide) : DE X Z W M n (.Name x pos) (wC (.int z)) := de_glob (v := .int z) hg hm ⟨_, rfl⟩ rfl hd
end
end Vl

/-! Vl11: loops with invariants; data that can be shown and compared. -/
namespace Vl
open PySem L2

section
variable {G : Type}
theorem lc_name {i : Nat} {we : WE G} {Q : List Dt → G → Prop} (I : List Dt → G → List Dt → Prop) (env : Env)
    (hstep : ∀ d ds g acc (K : Dt → G → Prop), I (d :: ds) g acc → (∀ r g2, I ds g2 (acc ++ [r]) → K r g2) → we (env.set i (some d)) g K noX)
    (hend : ∀ g acc, I [] g acc → Q acc g) : ∀ (ds : List Dt) (g : G) (acc : List Dt), acc.length + ds.length ≤ sizeLine → I ds g acc → lcGo (bName i) wYes we Q ds env g acc
  | [], g, acc, _, h => hend g acc h
  | d :: ds, g, acc, hl, h => by
    rw [List.length_cons] at hl
    refine ⟨fun _ => hstep d ds g acc _ h fun r g2 h2 => ⟨by omega, ?_⟩, fun z => by cases z⟩
    exact lc_name I env hstep hend ds g2 (acc ++ [r]) (by rw [List.length_append, List.length_singleton]; omega) h2
/-- a comprehension that draws nothing -/
theorem lc_map {i : Nat} {we : WE G} {Q : List Dt → G → Prop} (f : Dt → Dt) (env : Env) (g : G) (ds : List Dt) (hl : ds.length ≤ sizeLine)
    (h : ∀ d ∈ ds, ∀ K : Dt → G → Prop, K (f d) g → we (env.set i (some d)) g K noX) (q : Q (ds.map f) g) : lcGo (bName i) wYes we Q ds env g [] := by
  refine lc_name (fun rest g' acc => g' = g ∧ (∀ d ∈ rest, d ∈ ds) ∧ acc ++ rest.map f = ds.map f) env ?_ ?_ ds g [] (by simpa using hl) ⟨rfl, fun _ z => z, rfl⟩
  · rintro d rest _ acc K ⟨rfl, hm, e⟩ k
    refine h d (hm d List.mem_cons_self) K (k _ _ ⟨rfl, fun x hx => hm x (List.mem_cons_of_mem _ hx), ?_⟩)
    rw [List.append_assoc]
    exact e
  · rintro _ acc ⟨rfl, _, e⟩
    rw [List.map_nil, List.append_nil] at e
    rw [e]
    exact q
theorem for_inv {b : WB} {wb : WS G} {D : DEnds G} (I : List Dt → Env → G → Prop) (hend : ∀ env g, I [] env g → D.nx env g)
    (hstep : ∀ d ds env g (K : Env → G → Prop), I (d :: ds) env g → (∀ env g, I ds env g → K env g) → b env d fun env' => wb { D with nx := K, ct := K, bk := D.nx } env' g) :
    ∀ (ds : List Dt) (env : Env) (g : G), I ds env g → forGo b wb D ds env g
  | [], env, g, h => hend env g h
  | d :: ds, env, g, h => hstep d ds env g _ h fun env' g' h' => for_inv I hend hstep ds env' g' h'
end

/-! ### data that can be shown and compared -/
structure Fit (k W : Nat) (d : Dt) : Prop where
  pl : d.plain
  cl : d.py.canLay0 = true
  dp : d.py.depth ≤ k
  sw : d.py.showable = true
  ls : d.py.leavesShort 40 = true
  wt : d.py.weight ≤ W
structure FitL (k W : Nat) (ds : List Dt) : Prop where
  pl : plainL ds
  cl : PyData.canLayAll0 (pyL ds) = true
  dp : PyData.depthAll (pyL ds) ≤ k
  sw : PyData.showableAll (pyL ds) = true
  ls : PyData.leavesShortAll 40 (pyL ds) = true
  wt : PyData.weightAll (pyL ds) ≤ W
theorem Fit.mono {k W k' W' : Nat} {d : Dt} (h : Fit k W d) (hk : k ≤ k') (hW : W ≤ W') : Fit k' W' d := ⟨h.pl, h.cl, Nat.le_trans h.dp hk, h.sw, h.ls, Nat.le_trans h.wt hW⟩
theorem FitL.nil {k : Nat} : FitL k 0 [] := ⟨trivial, by simp [pyL, PyData.canLayAll0], by simp [pyL, PyData.depthAll], by simp [pyL, PyData.showableAll], by simp [pyL, PyData.leavesShortAll], by simp [pyL, PyData.weightAll]⟩
theorem FitL.cons {k W W' : Nat} {d : Dt} {ds : List Dt} (h : Fit k W d) (r : FitL k W' ds) : FitL k (W + 1 + W') (d :: ds) where
  pl := ⟨h.pl, r.pl⟩
  cl := by simp [pyL, PyData.canLayAll0, h.cl, r.cl]
  dp := by simp only [pyL, PyData.depthAll]; exact Nat.max_le.mpr ⟨h.dp, r.dp⟩
  sw := by simp [pyL, PyData.showableAll, h.sw, r.sw]
  ls := by simp [pyL, PyData.leavesShortAll, h.ls, r.ls]
  wt := by simp only [pyL, PyData.weightAll]; have := h.wt; have := r.wt; omega
theorem FitL.all {k W : Nat} : ∀ {ds : List Dt}, (∀ d ∈ ds, Fit k W d) → FitL k (ds.length * (W + 1)) ds
  | [], _ => by simpa using FitL.nil
  | d :: ds, h => by
    have r := FitL.cons (h d List.mem_cons_self) (FitL.all fun x hx => h x (List.mem_cons_of_mem _ hx))
    have e : (d :: ds).length * (W + 1) = W + 1 + ds.length * (W + 1) := by rw [List.length_cons, Nat.add_mul]; omega
    rw [e]
    exact r
theorem FitL.lst {k W : Nat} {ds : List Dt} (h : FitL k W ds) : Fit (k + 1) W (.lst ds) where
  pl := h.pl
  cl := by simp [Dt.py, PyData.canLay0, h.cl]
  dp := by simp only [Dt.py, PyData.depth]; have := h.dp; omega
  sw := by simp [Dt.py, PyData.showable, h.sw]
  ls := by simp [Dt.py, PyData.leavesShort, h.ls]
  wt := by simp only [Dt.py, PyData.weight]; exact h.wt
theorem FitL.tup {k W : Nat} {ds : List Dt} (h : FitL k W ds) : Fit (k + 1) W (.tup ds) where
  pl := h.pl
  cl := by simp [Dt.py, PyData.canLay0, h.cl]
  dp := by simp only [Dt.py, PyData.depth]; have := h.dp; omega
  sw := by simp [Dt.py, PyData.showable, h.sw]
  ls := by simp [Dt.py, PyData.leavesShort, h.ls]
  wt := by simp only [Dt.py, PyData.weight]; exact h.wt
theorem Fit.list {k W : Nat} {ds : List Dt} (h : ∀ d ∈ ds, Fit k W d) : Fit (k + 1) (ds.length * (W + 1)) (.lst ds) := (FitL.all h).lst
theorem Fit.listN {k W n : Nat} {ds : List Dt} (h : ∀ d ∈ ds, Fit k W d) (hn : ds.length ≤ n) : Fit (k + 1) (n * (W + 1)) (.lst ds) := (Fit.list h).mono (Nat.le_refl _) (Nat.mul_le_mul_right _ hn)
theorem Fit.bl {b : Bool} : Fit 0 0 (.bl b) := ⟨trivial, by simp [Dt.py, PyData.canLay0], by simp [Dt.py, PyData.depth], by simp [Dt.py, PyData.showable], by simp [Dt.py, PyData.leavesShort], by simp [Dt.py, PyData.weight]⟩
theorem Fit.non : Fit 0 0 .non := ⟨trivial, by simp [Dt.py, PyData.canLay0], by simp [Dt.py, PyData.depth], by simp [Dt.py, PyData.showable], by simp [Dt.py, PyData.leavesShort], by simp [Dt.py, PyData.weight]⟩
theorem Fit.int {i : Int} (h : i.natAbs < 10 ^ 39) : Fit 0 131 (.int i) where
  pl := trivial
  cl := by simp [Dt.py, PyData.canLay0]
  dp := by simp [Dt.py, PyData.depth]
  sw := by
    simp only [Dt.py, PyData.showable, decide_eq_true_eq]
    by_cases z : i.natAbs = 0
    · rw [z]; decide
    · have : i.natAbs.log2 < 130 := (Nat.log2_lt z).mpr (Nat.lt_of_lt_of_le h (by decide))
      omega
  ls := by
    simp only [Dt.py, PyData.leavesShort, decide_eq_true_eq]
    have e := int_text_length_le10 (k := 39) (by decide) h
    show (Str.ofString (toString i)).length ≤ 40
    rw [ofString_length]; exact e
  wt := by
    simp only [Dt.py, PyData.weight]
    by_cases z : i.natAbs = 0
    · have : i = 0 := by omega
      subst this; simp
    · have : i.natAbs.log2 < 130 := (Nat.log2_lt z).mpr (Nat.lt_of_lt_of_le h (by decide))
      split <;> omega
theorem Fit.str {z : Str} {n : Nat} (h : ∀ c ∈ z.cps.toList, c < 0x110000) (hn : z.length ≤ n) : Fit 0 n (.str z) where
  pl := trivial
  cl := by
    simp only [Dt.py, PyData.canLay0]; unfold PyData.strOk
    rw [Array.all_eq_true']
    intro c hc
    exact decide_eq_true (h c (by simpa using hc))
  dp := by simp [Dt.py, PyData.depth]
  sw := by simp [Dt.py, PyData.showable]
  ls := by
    simp only [Dt.py, PyData.leavesShort, List.all_eq_true, decide_eq_true_eq]
    intro c hc
    have := h c hc
    exact Nat.lt_trans this (by decide)
  wt := by simp only [Dt.py, PyData.weight]; exact hn
theorem Fit.shaped {k W : Nat} {d : Dt} (h : Fit k W d) (hk : k ≤ 64) : SeqAt.shaped d.py = true := by
  unfold SeqAt.shaped
  rw [h.cl, Bool.true_and, decide_eq_true_eq]
  exact Nat.le_trans h.dp hk
theorem Fit.showOk {k W : Nat} {d : Dt} (h : Fit k W d) (hk : k ≤ 64) (hW : W ≤ 399000) : showOk d := by
  refine ⟨h.pl, h.shaped hk, h.sw, ?_⟩
  have e := PyData.shown_le 40 (by decide) d.py h.ls
  have := h.wt
  unfold sizeLine
  omega
theorem Fit.eqOk {k W k' W' : Nat} {d e : Dt} (h : Fit k W d) (h' : Fit k' W' e) (hk : k ≤ 64) (hk' : k' ≤ 64) : eqOk d e := ⟨h.pl, h'.pl, h.shaped hk, h'.shaped hk'⟩

/-! ### the operators, case by case -/
def txt (i : Int) : Str := (toString i : String)
section
variable {i j : Int} {x y : Str} {xs ys : List Dt} {q : Dt → Prop} {b : Bool}
theorem addD_i : addD (.int i) (.int j) q = q (.int (i + j)) := rfl
theorem addD_s : addD (.str x) (.str y) q = (x.length + y.length ≤ sizeLine ∧ q (.str (x ++ y))) := rfl
theorem addD_l : addD (.lst xs) (.lst ys) q = (xs.length + ys.length ≤ sizeLine ∧ q (.lst (xs ++ ys))) := rfl
theorem subD_i : subD (.int i) (.int j) q = q (.int (i - j)) := rfl
theorem mulD_i : mulD (.int i) (.int j) q = (CMulW i j ∧ q (.int (i * j))) := rfl
theorem mulD_s : mulD (.str x) (.int j) q = (-(2 ^ 63) ≤ j ∧ x.length * j.toNat ≤ 16777216 ∧ j < 2 ^ 40 ∧ q (.str (repS x j))) := rfl
theorem mulD_l : mulD (.lst xs) (.int j) q = (-(2 ^ 63) ≤ j ∧ j < 2 ^ 63 ∧ xs.length * j.toNat ≤ sizeLine ∧ q (.lst (List.replicate j.toNat xs).flatten)) := rfl
theorem modD_i : modD (.int i) (.int j) q = (0 < j ∧ q (.int (i % j))) := rfl
theorem fdivD_i : fdivD (.int i) (.int j) q = (CDivW i j ∧ q (.int (i / j))) := rfl
theorem powD_i : powD (.int i) (.int j) q = (CPowW i j ∧ q (.int (i ^ j.toNat))) := rfl
theorem cmpD_i {f : Int → Int → Bool} : cmpD f (.int i) (.int j) q = q (.bl (f i j)) := rfl
theorem ixD_l : ixD (.lst xs) (.int i) q = ∃ d, L2.atI xs i = some d ∧ q d := rfl
theorem ixD_k : ixD (.klst xs) (.int i) q = ∃ d, L2.atI xs i = some d ∧ q d := rfl
theorem ixD_t : ixD (.tup xs) (.int i) q = ∃ d, L2.atI xs i = some d ∧ q d := rfl
theorem ixD_s : ixD (.str x) (.int i) q = (x.length ≤ sizeLine ∧ ∃ c, L2.atI x.cps.toList i = some c ∧ q (.str ⟨#[c]⟩)) := rfl
theorem lenD_l : lenD [.lst xs] q = q (.int xs.length) := rfl
theorem lenD_k : lenD [.klst xs] q = q (.int xs.length) := rfl
theorem lenD_t : lenD [.tup xs] q = q (.int xs.length) := rfl
theorem lenD_s : lenD [.str x] q = (x.length ≤ sizeLine ∧ q (.int x.length)) := rfl
theorem absD_i : absD [.int i] q = q (.int (if i < 0 then -i else i)) := rfl
theorem minD_i : minD [.int i, .int j] q ↔ q (.int (if j < i then j else i)) := by
  constructor
  · rintro (⟨a, b, e, h⟩ | ⟨ns, e, _⟩)
    · cases e; exact h
    · cases e
  · intro h
    exact .inl ⟨i, j, rfl, h⟩
theorem maxD_i : maxD [.int i, .int j] q ↔ q (.int (if j > i then j else i)) := by
  constructor
  · rintro (⟨a, b, e, h⟩ | ⟨ns, e, _⟩)
    · cases e; exact h
    · cases e
  · intro h
    exact .inl ⟨i, j, rfl, h⟩
theorem intD_i : intD [.int i] q = q (.int i) := rfl
theorem intD_b : intD [.bl b] q = q (.int (if b then 1 else 0)) := rfl
theorem strD_i : strD [.int i] q = (i.natAbs.log2 < 1920 ∧ q (.str (txt i))) := rfl
theorem listD_l : listD [.lst xs] q = q (.lst xs) := rfl
theorem listD_t : listD [.tup xs] q = q (.lst xs) := rfl
theorem reprD_d {d : Dt} : reprD [d] q = (showOk d ∧ q (.str d.py.shown)) := rfl
theorem slD_l {lo hi : Option Int} : slD (.lst xs) lo hi q = q (.lst (cutD xs lo hi)) := rfl
theorem slD_k {lo hi : Option Int} : slD (.klst xs) lo hi q = q (.lst (cutD xs lo hi)) := rfl
theorem slD_s {lo hi : Option Int} : slD (.str x) lo hi q = (x.length ≤ sizeLine ∧ q (.str (cutS x lo hi))) := rfl
theorem eqOk_i : eqOk (.int i) (.int j) := ⟨trivial, trivial, by simp [SeqAt.shaped, Dt.py, PyData.canLay0, PyData.depth], by simp [SeqAt.shaped, Dt.py, PyData.canLay0, PyData.depth]⟩
theorem eqD_i : eqD (.int i) (.int j) q ↔ q (.bl (i == j)) := by
  constructor
  · rintro (⟨_, _, e, _⟩ | ⟨_, h⟩)
    · cases e
    · simpa only [Dt.py, PyData.eqv] using h
  · intro h
    exact .inr ⟨eqOk_i, by simpa only [Dt.py, PyData.eqv] using h⟩
theorem neD_i : neD (.int i) (.int j) q ↔ q (.bl (!(i == j))) := by
  constructor
  · rintro (⟨_, _, e, _⟩ | ⟨_, h⟩)
    · cases e
    · simpa only [Dt.py, PyData.eqv] using h
  · intro h
    exact .inr ⟨eqOk_i, by simpa only [Dt.py, PyData.eqv] using h⟩
theorem eqD_s (h : q (.bl (x == y))) : eqD (.str x) (.str y) q := .inl ⟨x, y, rfl, rfl, h⟩
theorem neD_s (h : q (.bl (!(x == y)))) : neD (.str x) (.str y) q := .inl ⟨x, y, rfl, rfl, h⟩
theorem eqD_f {k W k' W' : Nat} {d e : Dt} (h1 : Fit k W d) (h2 : Fit k' W' e) (hk : k ≤ 64) (hk' : k' ≤ 64) (h : q (.bl (PyData.eqv d.py e.py))) : eqD d e q := .inr ⟨h1.eqOk h2 hk hk', h⟩
theorem neD_f {k W k' W' : Nat} {d e : Dt} (h1 : Fit k W d) (h2 : Fit k' W' e) (hk : k ≤ 64) (hk' : k' ≤ 64) (h : q (.bl (!PyData.eqv d.py e.py))) : neD d e q := .inr ⟨h1.eqOk h2 hk hk', h⟩
mutual
theorem eqv_refl : ∀ d : PyData, d.canLay0 = true → PyData.eqv d d = true
  | .none, _ => by simp [PyData.eqv]
  | .bool _, _ => by simp [PyData.eqv]
  | .int _, _ => by simp [PyData.eqv]
  | .str _, _ => by simp [PyData.eqv]
  | .list xs, h => by simp only [PyData.eqv]; exact eqvAll_refl xs (by simpa [PyData.canLay0] using h)
  | .tuple xs, h => by simp only [PyData.eqv]; exact eqvAll_refl xs (by simpa [PyData.canLay0] using h)
  | .dict _, h => by simp [PyData.canLay0] at h
theorem eqvAll_refl : ∀ xs : List PyData, PyData.canLayAll0 xs = true → PyData.eqvAll xs xs = true
  | [], _ => by simp [PyData.eqvAll]
  | x :: xs, h => by
    simp [PyData.canLayAll0] at h
    simp [PyData.eqvAll, eqv_refl x h.1, eqvAll_refl xs h.2]
end
theorem Fit.eqv {k W : Nat} {d : Dt} (h : Fit k W d) : PyData.eqv d.py d.py = true := eqv_refl _ h.cl
end
theorem bCons_c {b : WB} {bs : List Dt → Env → (Env → Prop) → Prop} {d : Dt} {r : List Dt} {env : Env} {k : Env → Prop} : bCons b bs (d :: r) env k ↔ b env d fun env' => bs r env' k := by
  unfold bCons; simp [and_assoc]
theorem bNil_n {env : Env} {k : Env → Prop} : bNil [] env k ↔ k env := by
  unfold bNil; simp
theorem bTup_t {bs : List Dt → Env → (Env → Prop) → Prop} {ds : List Dt} {env : Env} {k : Env → Prop} : bTup bs env (.tup ds) k ↔ bs ds env k := by
  unfold bTup; simp
theorem at_sep {a b : Dt} {p : Prop} [Decidable p] : L2.atI [a, b] (if p then 1 else 0) = some (if p then b else a) := by
  split <;> rfl
theorem ite_str {a b : Str} {p : Prop} [Decidable p] : (if p then Dt.str b else Dt.str a) = .str (if p then b else a) := by
  split <;> rfl
theorem wPar_c {G : Type} {i j : Nat} {w1 w2 : WE G} {D : DEnds G} {env : Env} {g : G} : wPar i j (wCons w1 (wCons w2 wNil)) D env g ↔ w1 env g (fun a g1 => w2 env g1 (fun b g2 => D.nx ((env.set i (some a)).set j (some b)) g2) (exE D env)) (exE D env) := by
  simp [wPar, wCons, wNil, and_assoc]
theorem ofString_ok (x : String) : ∀ c ∈ (Str.ofString x).cps.toList, c < 0x110000 := by
  intro c hc
  rw [Str.ofString_eq_toList] at hc
  simp at hc
  obtain ⟨ch, _, rfl⟩ := hc
  have := ch.valid
  show ch.val.toNat < _
  rcases this with h | h <;> omega
end Vl

/-! Vl12: more that is done with own lists; several values at once; blocks of two loops. -/
namespace Vl
open PySem PySem.Spec L2
section
variable {G : Type} {X : Cx} {Z : Vo G} {W : WX} {M : Nat → Nat} {n nr : Nat}
/-- the list at i, with other things in it -/
theorem own_put {K : PySem.W.Frag} {vol : List Addr} {Hs0 H0 Hs H : Hp} {σ : St} {env : Env} {fp : Nat → List Addr} (R : SR K M vol Hs0 H0 Hs H σ env fp) {i : Nat} {c : Addr} {fs : List Addr} (hm : M i = n + 1) (hσ : σ[i]? = some (some (.ref c))) (hf : fp i = c :: fs)
    {vs : List V} {ds : List Dt} {gs : List Addr} (ow : OwL (Own K Hs H n) vs ds gs) (nd : (c :: gs).Nodup) (nw : ∀ b ∈ gs, H0 b = none) (ap : ∀ j, j ≠ i → ∀ b ∈ gs, b ∉ fp j) :
    SR K M vol Hs0 H0 Hs (upd H c (.lst vs)) σ (env.set i (some (.lst ds))) (setf fp i (c :: gs)) := by
  have cin : c ∈ fp i := by rw [hf]; exact List.mem_cons_self
  refine R.mut (i := i) (f := c :: gs) cin hσ ?_ nd ?_ ?_
  · rw [hm]
    exact .inr ⟨c, _, _, _, rfl, (R.ct i c cin).1, .inl ⟨upd_same, rfl⟩, ow.upd (List.nodup_cons.mp nd).1, rfl⟩
  · intro b hb
    rcases List.mem_cons.mp hb with rfl | hb
    · exact R.nw i _ cin
    · exact nw b hb
  · intro j hj b hb z
    rcases List.mem_cons.mp hb with rfl | hb
    · exact hj (R.dj j i _ z cin)
    · exact ap j hj b hb z
variable {e : Expr} {es : List Expr} {w : WE G} {pos : Pos} {x : Str} {p1 p2 p3 : Pos}
/-- x.extend(e), the things in it for good -/
def wExt (i : Nat) (w : WE G) : WS G := fun D env g => ∃ ds, env[i]? = some (some (.lst ds)) ∧ w env g (fun d g' => ∃ es, d = .lst es ∧ ds.length + es.length ≤ sizeLine ∧ D.nx (env.set i (some (.lst (ds ++ es)))) g') (exE D env)
theorem ds_ext (i : Nat) (he : DE X Z W M 0 e w) (hm : M i = 1 := by rfl) (hN : X.N[i]? = some x := by rfl) (hv : Vis X.env.scope x := by first | exact Or.inl rfl | exact Or.inr (Or.inl rfl) | exact Or.inr (Or.inr rfl))
    (hd : (x == ("__debug__" : Str)) = false := by decide) (hcd : (x == ("__classdict__" : Str)) = false := by decide) (hbase : attributeBase (.Name x p1) "extend" X.env (eval (.Name x p1) X.env) = eval (.Name x p1) X.env := by rfl)
    (hfew : ((backTo p3 (starEach [e] X.env)).all (fun x => !x.1) && (backToKw p3 (keywordEach [] X.env)).all (fun x => x.1.isSome) && decide ([e].length + ([] : List Keyword).length + (if ([] : List Keyword).isEmpty then 0 else 1) < 30)) = true := by rfl)
    (hline : (p2.endLine == p3.line) = true := by rfl) (hs : starEach [e] X.env = (false, eval e X.env) :: starEach [] X.env := by rfl)
    (hsw : swapsWith (.Call (.Attribute (.Name x p1) "extend" p2) [e] [] p3) none pos.line X.env = pure false := by rfl) :
    DS X Z W M nr (.Expr (.Call (.Attribute (.Name x p1) "extend" p2) [e] [] p3) pos) (wExt i w) := by
  obtain ⟨t, pe, r⟩ := he
  refine ⟨_, ps_expr (pe_bm PySem.F.plainAttrs_list PySem.F.slot_list_extend PySem.F.type_list_extend mt_extend (pe_var hN hv hd hcd) (pa_cons pe pa_nil hs) hbase hfew hline hs) hsw, fun {Hs0 H0 Hs H σ env fp g D Dd} R p q k => ?_⟩
  obtain ⟨ds, he, q⟩ := q
  obtain ⟨v, hσ, o⟩ := R.at' i _ he
  rw [hm] at o
  obtain ⟨c, vs, fs, rfl, hcs, hc, ow, hf⟩ := o.node
  refine ⟨.ref c, hσ, .inl ⟨rfl, _, SqL.of hc⟩, r R p q (fun d g' u Hs1 H1 f e1 s1 o1 nd1 fr1 q1 => ?_) (k.gox R)⟩
  obtain ⟨es, rfl, hl, e1⟩ := e1
  have R1 := R.step s1
  have cin : c ∈ fp i := by rw [hf]; exact List.mem_cons_self
  have hc1 : H1 c = some (.lst vs) := s1.s2 c _ hc (R.nvol cin)
  have nd0 : (c :: fs).Nodup := by rw [← hf]; exact R.nd i
  have fsin : ∀ b ∈ fs, b ∈ fp i := fun b hb => by rw [hf]; exact List.mem_cons_of_mem _ hb
  have ow1 := ow.step s1 fun b hb => R.nvol (fsin b hb)
  obtain ⟨a, zs, rfl, ha, rz⟩ := o1.2.seq s1.s4
  refine ⟨c, a, vs, zs, rfl, rfl, hc1, ha, by rw [ow.length, rz.length]; exact hl, ?_⟩
  have ow2 : OwL (Own X.K Hs1 H1 0) (vs ++ zs) (ds ++ es) fs := by
    have := ow1.append (OwL.of_rp (H := H1) rz)
    rwa [List.append_nil] at this
  exact k.nx e1 (own_put R1 hm hσ hf ow2 nd0 (fun b hb => R.nw i b (fsin b hb)) fun j hj b hb z => hj (R.dj j i b z (fsin b hb))) (Z_upd R1 cin q1)
/-- one thing among the own ones: what stands there, and something else in its place -/
theorem OwL.pick {K : PySem.W.Frag} {Hs H : Hp} : ∀ {vs : List V} {ds : List Dt} {fs : List Addr} {j : Nat} {d : Dt}, OwL (Own K Hs H n) vs ds fs → fs.Nodup → ds[j]? = some d → ∃ v f, vs[j]? = some v ∧ Own K Hs H n v d f ∧ (∀ b ∈ f, b ∈ fs) ∧ f.Nodup ∧
    ∀ {H' : Hp} {v' : V} {d' : Dt} {f' : List Addr}, Own K Hs H' n v' d' f' → f'.Nodup → (∀ b ∈ fs, b ∉ f → H' b = H b) → (∀ b ∈ f', b ∈ f ∨ b ∉ fs) → ∃ fs', OwL (Own K Hs H' n) (vs.set j v') (ds.set j d') fs' ∧ fs'.Nodup ∧ (∀ b ∈ fs', b ∈ fs ∨ b ∈ f')
  | _, _, _, _, _, .nil, _, h => by cases h
  | v :: vs, d0 :: ds, _, 0, d, .cons (f := f) (fs := fs) ho r, nd, h => by
    cases h
    obtain ⟨n1, n2, n3⟩ := List.nodup_append.mp nd
    refine ⟨v, f, rfl, ho, fun b hb => List.mem_append_left _ hb, n1, fun {H' v' d' f'} o' nd' hk hn => ⟨f' ++ fs, .cons o' (r.imp fun v d f2 q s => q.move (Same.refl _) (fun b hb => ?_) fun _ _ e => e), ?_, fun b hb => ?_⟩⟩
    · exact hk b (List.mem_append_right _ (s b hb)) fun z => n3 b z b (s b hb) rfl
    · rw [List.nodup_append]
      refine ⟨nd', n2, fun a ha b hb e => ?_⟩
      subst e
      rcases hn a ha with z | z
      · exact n3 a z a hb rfl
      · exact z (List.mem_append_right _ hb)
    · rcases List.mem_append.mp hb with z | z
      · exact .inr z
      · exact .inl (List.mem_append_right _ z)
  | v :: vs, d0 :: ds, _, j + 1, d, .cons (f := f0) (fs := fs) ho r, nd, h => by
    obtain ⟨n1, n2, n3⟩ := List.nodup_append.mp nd
    obtain ⟨u, f, e1, o1, s1, nd1, g⟩ := OwL.pick r n2 (show ds[j]? = some d from h)
    refine ⟨u, f, e1, o1, fun b hb => List.mem_append_right _ (s1 b hb), nd1, fun {H' v' d' f'} o' nd' hk hn => ?_⟩
    obtain ⟨fs', r', nd2, sub⟩ := g o' nd' (fun b hb => hk b (List.mem_append_right _ hb)) fun b hb => (hn b hb).imp_right fun z y => z (List.mem_append_right _ y)
    refine ⟨f0 ++ fs', .cons (ho.move (Same.refl _) (fun b hb => hk b (List.mem_append_left _ hb) fun z => n3 b hb b (s1 b z) rfl) fun _ _ e => e) r', ?_, fun b hb => ?_⟩
    · rw [List.nodup_append]
      refine ⟨n1, nd2, fun a ha b hb e => ?_⟩
      subst e
      rcases sub a hb with z | z
      · exact n3 a ha a z rfl
      · rcases hn a z with y | y
        · exact n3 a ha a (s1 a y) rfl
        · exact y (List.mem_append_left _ ha)
    · rcases List.mem_append.mp hb with z | z
      · exact .inl (List.mem_append_left _ z)
      · exact (sub b z).imp_left fun y => List.mem_append_right _ y
theorem ixN_lt {n j : Nat} {i : Int} (h : ixN n i = some j) : j < n := (ixN_seq h).2.1
/-- x[k].append(e), x an own list of own lists -/
def wAppIx (i : Nat) (wk : WE G) (w : WE G) : WS G := fun D env g => ∃ ds, env[i]? = some (some (.lst ds)) ∧ wk env g (fun dk g1 => ∃ (k : Int) (j : Nat) (es : List Dt), dk = .int k ∧ ixN ds.length k = some j ∧ ds[j]? = some (.lst es) ∧
  w env g1 (fun d g' => es.length < sizeLine ∧ D.nx (env.set i (some (.lst (ds.set j (.lst (es ++ [d])))))) g') (exE D env)) (exE D env)
theorem ds_appIx (i : Nat) {ek : Expr} {wk : WE G} {p4 : Pos} (hk : DE X Z W M 0 ek wk) (he : DE X Z W M n e w) (hm : M i = n + 2 := by rfl) (hN : X.N[i]? = some x := by rfl) (hv : Vis X.env.scope x := by first | exact Or.inl rfl | exact Or.inr (Or.inl rfl) | exact Or.inr (Or.inr rfl))
    (hd : (x == ("__debug__" : Str)) = false := by decide) (hcd : (x == ("__classdict__" : Str)) = false := by decide) (hix : PlainIx ek := by exact fun _ _ => rfl)
    (hbase : attributeBase (.Subscript (.Name x p1) ek p4) "append" X.env (eval (.Subscript (.Name x p1) ek p4) X.env) = eval (.Subscript (.Name x p1) ek p4) X.env := by rfl)
    (hfew : ((backTo p3 (starEach [e] X.env)).all (fun x => !x.1) && (backToKw p3 (keywordEach [] X.env)).all (fun x => x.1.isSome) && decide ([e].length + ([] : List Keyword).length + (if ([] : List Keyword).isEmpty then 0 else 1) < 30)) = true := by rfl)
    (hline : (p2.endLine == p3.line) = true := by rfl) (hs : starEach [e] X.env = (false, eval e X.env) :: starEach [] X.env := by rfl)
    (hsw : swapsWith (.Call (.Attribute (.Subscript (.Name x p1) ek p4) "append" p2) [e] [] p3) none pos.line X.env = pure false := by rfl) :
    DS X Z W M nr (.Expr (.Call (.Attribute (.Subscript (.Name x p1) ek p4) "append" p2) [e] [] p3) pos) (wAppIx i wk w) := by
  obtain ⟨tk, pk, rk⟩ := hk
  obtain ⟨t, pe, r⟩ := he
  refine ⟨_, ps_expr (pe_bm PySem.F.plainAttrs_list PySem.F.slot_list_append PySem.F.type_list_append mt_append (pe_ix ix_list (pe_var hN hv hd hcd) pk hix) (pa_cons pe pa_nil hs) hbase hfew hline hs) hsw, fun {Hs0 H0 Hs H σ env fp g D Dd} R p q k => ?_⟩
  obtain ⟨ds, he, q⟩ := q
  obtain ⟨v, hσ, o⟩ := R.at' i _ he
  rw [hm] at o
  obtain ⟨c, vs, fs, rfl, hcs, hc, ow, hf⟩ := o.node
  refine ⟨.ref c, hσ, rk R p q (fun dk g1 vk Hs1 H1 f1 e1 s1 o1 _ _ q1 => ?_) (k.gox R)⟩
  obtain ⟨kk, j, es, rfl, hj, hde, e1⟩ := e1
  have r1 := o1.2
  cases r1
  have R1 := R.step s1
  have cin : c ∈ fp i := by rw [hf]; exact List.mem_cons_self
  have hc1 : H1 c = some (.lst vs) := s1.s2 c _ hc (R.nvol cin)
  have nd0 : (c :: fs).Nodup := by rw [← hf]; exact R.nd i
  have fsin : ∀ b ∈ fs, b ∈ fp i := fun b hb => by rw [hf]; exact List.mem_cons_of_mem _ hb
  have ow1 := ow.step s1 fun b hb => R.nvol (fsin b hb)
  obtain ⟨u, fu, hu, ou, su, ndu, _⟩ := ow1.pick (List.nodup_cons.mp nd0).2 hde
  obtain ⟨cu, us, fus, rfl, hus, hcu, owu, hfu⟩ := ou.node
  refine ⟨c, vs, kk, .ref cu, rfl, rfl, SqL.of hc1, ?_, ?_⟩
  · unfold L2.atI
    rw [ow.length, hj]
    exact hu
  refine ⟨.inl ⟨rfl, _, SqL.of hcu⟩, r R1 q1 e1 (fun d g' ud Hs2 H2 f e2 s2 o2 nd2 fr2 q2 => ?_) (k.gox R1)⟩
  have R2 := R1.step s2
  have cuin : cu ∈ fp i := fsin cu (su cu (by rw [hfu]; exact List.mem_cons_self))
  have hc2 : H2 c = some (.lst vs) := s2.s2 c _ hc1 (R.nvol cin)
  have hcu2 : H2 cu = some (.lst us) := s2.s2 cu _ hcu (R.nvol cuin)
  have ow2 := ow1.step s2 fun b hb => R.nvol (fsin b hb)
  obtain ⟨u2, fu2, hu2, ou2, su2, ndu2, put⟩ := ow2.pick (List.nodup_cons.mp nd0).2 hde
  rw [hu] at hu2
  cases hu2
  obtain ⟨cu', us', fus', ez, hus', hcu', owu', hfu'⟩ := ou2.node
  cases ez
  rw [hcu2] at hcu'
  cases hcu'
  refine ⟨cu, us, ud, rfl, rfl, hcu2, by rw [owu'.length]; exact e2.1, ?_⟩
  have fdj : ∀ b ∈ f, ∀ j, b ∉ fp j := fun b hb j z => (R1.ct j b z).2 (fr2 b hb)
  have cuf : cu ∉ f := fun z => fdj cu z i cuin
  have cne : c ≠ cu := fun z => (List.nodup_cons.mp nd0).1 (by rw [z]; exact su cu (by rw [hfu]; exact List.mem_cons_self))
  have ndu3 : (cu :: fus').Nodup := by rw [← hfu']; exact ndu2
  -- the inner list, longer
  have inner : Own X.K Hs2 (upd H2 cu (.lst (us ++ [ud]))) (n + 1) (.ref cu) (.lst (es ++ [d])) (cu :: (fus' ++ f)) := by
    refine .inr ⟨cu, _, _, _, rfl, hus', .inl ⟨upd_same, rfl⟩, ?_, rfl⟩
    refine (owu'.upd (List.nodup_cons.mp ndu3).1).append ?_
    have := OwL.cons (R := Own X.K Hs2 (upd H2 cu (.lst (us ++ [ud]))) n) (o2.move (Same.refl _) (fun b hb => upd_ne fun z => cuf (by rw [← z]; exact hb)) fun _ _ e => e) OwL.nil
    rw [List.append_nil] at this
    exact this
  have innd : (cu :: (fus' ++ f)).Nodup := by
    rw [List.nodup_cons]
    refine ⟨fun z => ?_, ?_⟩
    · rcases List.mem_append.mp z with z | z
      · exact (List.nodup_cons.mp ndu3).1 z
      · exact cuf z
    · rw [List.nodup_append]
      exact ⟨(List.nodup_cons.mp ndu3).2, nd2, fun a ha b hb z => fdj b hb i (by rw [← z]; exact fsin a (su2 a (by rw [hfu']; exact List.mem_cons_of_mem _ ha)))⟩
  have cuin2 : cu ∈ fu2 := by rw [hfu']; exact List.mem_cons_self
  obtain ⟨fs', ow3, nd3, sub3⟩ := put inner innd (fun b hb nb => upd_ne fun z => nb (by rw [z]; exact cuin2)) fun b hb => by
    rcases List.mem_cons.mp hb with rfl | hb
    · exact .inl cuin2
    · rcases List.mem_append.mp hb with z | z
      · exact .inl (by rw [hfu']; exact List.mem_cons_of_mem _ z)
      · exact .inr fun y => fdj b z i (fsin b y)
  have sub4 : ∀ b ∈ fs', b ∈ fp i ∨ b ∈ f := fun b hb => by
    rcases sub3 b hb with z | z
    · exact .inl (fsin b z)
    · rcases List.mem_cons.mp z with rfl | z
      · exact .inl cuin
      · rcases List.mem_append.mp z with z | z
        · exact .inl (fsin b (su2 b (by rw [hfu']; exact List.mem_cons_of_mem _ z)))
        · exact .inr z
  have cfs : c ∉ fs' := fun z => by
    rcases sub3 c z with y | y
    · exact (List.nodup_cons.mp nd0).1 y
    · rcases List.mem_cons.mp y with y | y
      · exact cne y
      · rcases List.mem_append.mp y with y | y
        · exact (List.nodup_cons.mp nd0).1 (su2 c (by rw [hfu']; exact List.mem_cons_of_mem _ y))
        · exact fdj c y i cin
  have hvs : vs.set j (.ref cu) = vs := by
    apply List.ext_getElem?
    intro m
    by_cases hmj : j = m
    · subst hmj
      have hl : j < vs.length := (List.getElem?_eq_some_iff.mp hu).1
      rw [List.getElem?_set_self hl, hu]
    · rw [List.getElem?_set_ne hmj]
  refine k.nx e2.2 (R2.mut (i := i) (p := cu) (v := .ref c) (f := c :: fs') cuin hσ ?_ (List.nodup_cons.mpr ⟨cfs, nd3⟩) ?_ ?_) (Z_upd R2 cuin q2)
  · rw [hm]
    rw [hvs] at ow3
    exact .inr ⟨c, vs, _, fs', rfl, (R2.ct i c cin).1, .inl ⟨by rw [upd_ne cne]; exact hc2, rfl⟩, ow3, rfl⟩
  · intro b hb
    rcases List.mem_cons.mp hb with rfl | hb
    · exact R.nw i _ cin
    · rcases sub4 b hb with z | z
      · exact R.nw i b z
      · exact fresh_of R1.st (fr2 b z)
  · intro jj hj b hb z
    rcases List.mem_cons.mp hb with rfl | hb
    · exact hj (R.dj jj i _ z cin)
    · rcases sub4 b hb with y | y
      · exact hj (R.dj jj i b z y)
      · exact fdj b y jj z

/-! ### frozen for good, while a name is given a new value; at a return -/
theorem SR.remode {K : PySem.W.Frag} {M' : Nat → Nat} {vol : List Addr} {Hs0 H0 Hs H : Hp} {σ : St} {env : Env} {fp : Nat → List Addr} (R : SR K M vol Hs0 H0 Hs H σ env fp) (h : ∀ j d, env[j]? = some (some d) → M' j = M j) : SR K M' vol Hs0 H0 Hs H σ env fp :=
  ⟨R.st, fun j d e => by
    obtain ⟨v, e1, o⟩ := R.at' j d e
    exact ⟨v, e1, by rw [h j d e]; exact o⟩, R.nd, R.dj, R.nw, R.ct, R.hv, R.len⟩
theorem set_none {env : Env} {i j : Nat} {d : Dt} (h : (env.set i none)[j]? = some (some d)) : j ≠ i ∧ env[j]? = some (some d) := by
  by_cases hj : j = i
  · subst hj
    by_cases hl : j < env.length
    · rw [List.getElem?_set_self hl] at h; cases h
    · rw [List.getElem?_eq_none (by simpa using hl)] at h; cases h
  · rw [List.getElem?_set_ne (Ne.symm hj)] at h
    exact ⟨hj, h⟩
theorem SR.forget {K : PySem.W.Frag} {M' : Nat → Nat} {vol : List Addr} {Hs0 H0 Hs H : Hp} {σ : St} {env : Env} {fp : Nat → List Addr} (R : SR K M vol Hs0 H0 Hs H σ env fp) (i : Nat) (h : ∀ j, j ≠ i → M' j = M j) : SR K M' vol Hs0 H0 Hs H σ (env.set i none) fp :=
  (R.weak (env' := env.set i none) (σ' := σ) (by rw [List.length_set]; exact R.len) fun j d e => ⟨(set_none e).2, rfl⟩).remode fun j d e => h j (set_none e).1
theorem frz_back {vol : List Addr} {Hs H Hs' H' : Hp} {F : List Addr} (hs : Same Hs H) (hF : ∀ b ∈ F, Hs b = none) (s : Step vol (frz Hs H F) H Hs' H') : Step vol Hs H Hs H' :=
  ⟨Same.refl _, s.s2, fun _ e => .inl e, fun b o e => s.s4 b o (s.s1 b o (frz_same hF b o e)), s.s5⟩
theorem ds_setFz (i : Nat) (hN : X.N.Nodup) (he : DE X Z W (thaw M [i]) (M i) e w) (hi : X.N[i]? = some x := by rfl) (hx : Loc X.env.scope x := by first | exact Or.inl rfl | exact Or.inr rfl) (hf : X.fn x = true ∨ X.env.scope.names.lookup x = some .local := by first | exact .inl rfl | exact .inr rfl)
    (hs : swapsWithSole [.Name x p1] e pos.line X.env = pure false := by rfl) (hw : swappedStores [.Name x p1] e X.env = pure none := by rfl) (h1 : (assignEach [.Name x p1] X.env).map (·.2) = [assign (.Name x p1) X.env] := by rfl) : DS X Z W M nr (.Assign [.Name x p1] e pos) (wSet i w) := by
  obtain ⟨t, pe, r⟩ := he
  refine ⟨_, ps_asg pe (pg_name hN hi hx hf) hs hw h1, fun {Hs0 H0 Hs H σ env fp g D Dd} R p q k => ?_⟩
  have hF : ∀ b ∈ cellsOf fp [i], Hs b = none := fun b hb => let ⟨j, _, h⟩ := List.mem_flatMap.mp hb; (R.ct j b h).1
  refine r (R.freeze [i]) p q (fun d g' v Hs' H' f e s o nd fr p' => ?_) fun c d g' v y Hs' H' e s hy hx sc p' => k.gox R c d g' v y Hs H' e (frz_back R.hs hF s) hy (hx.back ((frz_same hF).trans s.s1)) sc p'
  have R1 := ((R.freeze [i]).forget (M' := M) i fun j hj => by unfold thaw; rw [if_neg (by simpa using hj)]).setNew (Hb := Hs) s o nd fr
  rw [List.set_set] at R1
  exact k.nx e R1 p'
theorem ds_retFz (I : List Nat) (he : DE X Z W (thaw M I) nr e w) : DS X Z W M nr (.Return (some e) pos) (wRet w) := by
  obtain ⟨t, pe, r⟩ := he
  refine ⟨_, ps_ret pe, fun {Hs0 H0 Hs H σ env fp g D Dd} R p q k => ?_⟩
  have hF : ∀ b ∈ cellsOf fp I, Hs b = none := fun b hb => let ⟨j, _, h⟩ := List.mem_flatMap.mp hb; (R.ct j b h).1
  exact r (R.freeze I) p q (fun d g' v Hs' H' f e s o nd fr p' => k.rt e ((R.freeze I).st.trans s) o nd (fun b hb => fresh_of R.st (fr b hb)) p') fun c d g' v y Hs' H' e s hy hx sc p' => k.gox R c d g' v y Hs H' e (frz_back R.hs hF s) hy (hx.back ((frz_same hF).trans s.s1)) sc p'

/-! ### several values at once, each in its own mode -/
def wPar2 (i j : Nat) (w1 w2 : WE G) : WS G := fun D env g => w1 env g (fun a g1 => w2 env g1 (fun b g2 => D.nx ((env.set i (some a)).set j (some b)) g2) (exE D env)) (exE D env)
theorem ds_par2 (i j : Nat) {x y : Str} {a b : Expr} {w1 w2 : WE G} {px py pt : Pos} {kt k2 pt2} (hc : X.calm = true) (hN : X.N.Nodup) (h1 : DE X Z W M (M i) a w1) (h2 : DE X Z W M (M j) b w2) (hi : X.N[i]? = some x := by rfl) (hj : X.N[j]? = some y := by rfl) (hij : i ≠ j := by decide)
    (hx : X.env.scope.names.lookup x = some .local := by rfl) (hy : X.env.scope.names.lookup y = some .local := by rfl) (hs1 : starEach [a, b] X.env = (false, eval a X.env) :: starEach [b] X.env := by rfl) (hs2 : starEach [b] X.env = (false, eval b X.env) :: starEach [] X.env := by rfl)
    (hw : swappedStores [.Tuple [.Name x px, .Name y py] kt pt] (.Tuple [a, b] k2 pt2) X.env = pure (some [x, y]) := by rfl)
    (hs : swapsWithSole [.Tuple [.Name x px, .Name y py] kt pt] (.Tuple [a, b] k2 pt2) pos.line X.env = pure false := by rfl) :
    DS X Z W M nr (.Assign [.Tuple [.Name x px, .Name y py] kt pt] (.Tuple [a, b] k2 pt2) pos) (wPar2 i j w1 w2) := by
  obtain ⟨t1, pa1, r1⟩ := h1
  obtain ⟨t2, pa2, r2⟩ := h2
  refine ⟨_, ps_par hc hN hi hj hij hx hy (pa_cons pa1 (pa_cons pa2 pa_nil hs2) hs1) hw hs, fun {Hs0 H0 Hs H σ env fp g D Dd} R p q k => r1 R p q (fun d1 g1 v1 Hs1 H1 f1 e1 s1 o1 nd1 fr1 q1 => ?_) (k.gox R)⟩
  refine r2 (R.step s1) q1 e1 (fun d2 g2 v2 Hs2 H2 f2 e2 s2 o2 nd2 fr2 q2 => ?_) (k.gox (R.step s1))
  have hv1 : ∀ b ∈ f1, b ∉ Z.vol := fun b hb z => (R.st.s5 b (R.hv b z).1) (fr1 b hb)
  have o1' := o1.step s2 hv1
  have Ra := (((R.step s1).step s2).set (i := i) o1' nd1 (fun b hb => fresh_of R.st (fr1 b hb)) fun l _ b hb z => (R.ct l b z).2 (fr1 b hb))
  have fr2' : ∀ b ∈ f2, H b = none := fun b hb => fresh_of s1 (fr2 b hb)
  refine ⟨v1, v2, rfl, k.nx e2 (Ra.set (i := j) o2 nd2 (fun b hb => fresh_of R.st (fr2' b hb)) fun l hl b hb z => ?_) q2⟩
  by_cases hli : l = i
  · subst hli
    rw [setf_same] at z
    exact (o1.cells b z).2 (fr2 b hb)
  · rw [setf_ne hli] at z
    exact (R.ct l b z).2 (fr2' b hb)
def wPar3 (i j l : Nat) (w1 w2 w3 : WE G) : WS G := fun D env g => w1 env g (fun a g1 => w2 env g1 (fun b g2 => w3 env g2 (fun c g3 => D.nx (((env.set i (some a)).set j (some b)).set l (some c)) g3) (exE D env)) (exE D env)) (exE D env)
theorem ds_par3 (i j l : Nat) {x y z : Str} {a b c : Expr} {w1 w2 w3 : WE G} {px py pz pt : Pos} {kt k2 pt2} (hc : X.calm = true) (hN : X.N.Nodup) (h1 : DE X Z W M (M i) a w1) (h2 : DE X Z W M (M j) b w2) (h3 : DE X Z W M (M l) c w3) (hi : X.N[i]? = some x := by rfl) (hj : X.N[j]? = some y := by rfl) (hl : X.N[l]? = some z := by rfl)
    (hij : i ≠ j := by decide) (hil : i ≠ l := by decide) (hjl : j ≠ l := by decide)
    (hx : X.env.scope.names.lookup x = some .local := by rfl) (hy : X.env.scope.names.lookup y = some .local := by rfl) (hz : X.env.scope.names.lookup z = some .local := by rfl) (hs1 : starEach [a, b, c] X.env = (false, eval a X.env) :: starEach [b, c] X.env := by rfl)
    (hs2 : starEach [b, c] X.env = (false, eval b X.env) :: starEach [c] X.env := by rfl) (hs3 : starEach [c] X.env = (false, eval c X.env) :: starEach [] X.env := by rfl)
    (hw : swappedStores [.Tuple [.Name x px, .Name y py, .Name z pz] kt pt] (.Tuple [a, b, c] k2 pt2) X.env = pure (some [x, y, z]) := by rfl)
    (hs : swapsWithSole [.Tuple [.Name x px, .Name y py, .Name z pz] kt pt] (.Tuple [a, b, c] k2 pt2) pos.line X.env = pure false := by rfl) :
    DS X Z W M nr (.Assign [.Tuple [.Name x px, .Name y py, .Name z pz] kt pt] (.Tuple [a, b, c] k2 pt2) pos) (wPar3 i j l w1 w2 w3) := by
  obtain ⟨t1, pa1, r1⟩ := h1
  obtain ⟨t2, pa2, r2⟩ := h2
  obtain ⟨t3, pa3, r3⟩ := h3
  refine ⟨_, ps_par3 hc hN hi hj hl hij hil hjl hx hy hz (pa_cons pa1 (pa_cons pa2 (pa_cons pa3 pa_nil hs3) hs2) hs1) hw hs, fun {Hs0 H0 Hs H σ env fp g D Dd} R p q k => r1 R p q (fun d1 g1 v1 Hs1 H1 f1 e1 s1 o1 nd1 fr1 q1 => ?_) (k.gox R)⟩
  refine r2 (R.step s1) q1 e1 (fun d2 g2 v2 Hs2 H2 f2 e2 s2 o2 nd2 fr2 q2 => ?_) (k.gox (R.step s1))
  refine r3 ((R.step s1).step s2) q2 e2 (fun d3 g3 v3 Hs3 H3 f3 e3 s3 o3 nd3 fr3 q3 => ?_) (k.gox ((R.step s1).step s2))
  have hv1 : ∀ b ∈ f1, b ∉ Z.vol := fun b hb z => (R.st.s5 b (R.hv b z).1) (fr1 b hb)
  have fr2' : ∀ b ∈ f2, H b = none := fun b hb => fresh_of s1 (fr2 b hb)
  have hv2 : ∀ b ∈ f2, b ∉ Z.vol := fun b hb z => (R.st.s5 b (R.hv b z).1) (fr2' b hb)
  have fr3' : ∀ b ∈ f3, H b = none := fun b hb => fresh_of (s1.trans s2) (fr3 b hb)
  have o1a := o1.step s2 hv1
  have o1' := o1a.step s3 hv1
  have o2' := o2.step s3 hv2
  have Ra := ((((R.step s1).step s2).step s3).set (i := i) o1' nd1 (fun b hb => fresh_of R.st (fr1 b hb)) fun l _ b hb z => (R.ct l b z).2 (fr1 b hb))
  have Rb := Ra.set (i := j) o2' nd2 (fun b hb => fresh_of R.st (fr2' b hb)) fun m hm b hb z => by
    by_cases hmi : m = i
    · subst hmi
      rw [setf_same] at z
      exact (o1.cells b z).2 (fr2 b hb)
    · rw [setf_ne hmi] at z
      exact (R.ct m b z).2 (fr2' b hb)
  refine ⟨v1, v2, v3, rfl, k.nx e3 (Rb.set (i := l) o3 nd3 (fun b hb => fresh_of R.st (fr3' b hb)) fun m hm b hb z => ?_) q3⟩
  by_cases hmj : m = j
  · subst hmj
    rw [setf_same] at z
    exact (o2.cells b z).2 (fr3 b hb)
  · rw [setf_ne hmj] at z
    by_cases hmi : m = i
    · subst hmi
      rw [setf_same] at z
      exact (o1a.cells b z).2 (fr3 b hb)
    · rw [setf_ne hmi] at z
      exact (R.ct m b z).2 (fr3' b hb)
end
end Vl

/-! Vl13: comprehensions of two loops. -/
namespace Vl
open PySem PySem.Spec L2
section
variable {G : Type} {X : Cx} {Z : Vo G} {W : WX} {M : Nat → Nat} {n nr : Nat}
/-- a list in the making at D: what it holds; the base is H1 -/
structure Mk (K : PySem.W.Frag) (Z : Vo G) (n : Nat) (D : Addr) (Hs1 H1 Hs' H' : Hp) (g : G) (acc : List Dt) (vs : List V) (fs : List Addr) : Prop where
  st : Step Z.vol Hs1 H1 Hs' H'
  at' : H' D = some (.lst vs)
  no : Hs' D = none
  ow : OwL (Own K Hs' H' n) vs acc fs
  nd : fs.Nodup
  nD : D ∉ fs
  fr : ∀ a ∈ fs, H1 a = none
  p : Z.P g H'
variable {K : PySem.W.Frag} {D : Addr} {Hs1 H1 Hs' H' Hs2 H2 : Hp} {g : G} {acc : List Dt} {vs : List V} {fs : List Addr}
theorem Mk.step (m : Mk K Z n D Hs1 H1 Hs' H' g acc vs fs) (hv : ∀ a, H1 a = none → a ∉ Z.vol) (hD : H1 D = none) (s : Step Z.vol Hs' H' Hs2 H2) {g2 : G} (p : Z.P g2 H2) : Mk K Z n D Hs1 H1 Hs2 H2 g2 acc vs fs where
  st := m.st.trans s
  at' := s.s2 D _ m.at' (hv D hD)
  no := by
    cases z : Hs2 D with
    | none => rfl
    | some o =>
      rcases s.s3 D (by rw [z]; simp) with q | q
      · exact absurd m.no q
      · rw [m.at'] at q; cases q
  ow := m.ow.imp fun v d f q sb => q.step s fun b hb => hv b (m.fr b (sb b hb))
  nd := m.nd
  nD := m.nD
  fr := m.fr
  p := p
theorem Mk.push (m : Mk K Z n D Hs1 H1 Hs' H' g acc vs fs) (hv : ∀ a, H1 a = none → a ∉ Z.vol) (hD : H1 D = none) {y : V} {r : Dt} {f : List Addr} (o : Own K Hs' H' n y r f) (nd : f.Nodup) (fr : ∀ b ∈ f, H1 b = none) (nf : ∀ b ∈ f, b ∉ fs) (nDf : D ∉ f) :
    Mk K Z n D Hs1 H1 Hs' (upd H' D (.lst (vs ++ [y]))) g (acc ++ [r]) (vs ++ [y]) (fs ++ f) where
  st := ⟨m.st.s1, fun b o e n => by rw [upd_ne (ne_of_none e hD)]; exact m.st.s2 b o e n, m.st.s3, fun b o e => by
      have : b ≠ D := fun z => by rw [z, m.no] at e; cases e
      rw [upd_ne this]; exact m.st.s4 b o e, fun b e => by
      by_cases z : b = D
      · rw [z, upd_same]; simp
      · rw [upd_ne z]; exact m.st.s5 b e⟩
  at' := upd_same
  no := m.no
  ow := by
    refine (m.ow.imp fun v d f q sb => q.move (Same.refl _) (fun b hb => upd_ne fun z => m.nD (by rw [← z]; exact sb b hb)) (fun _ _ e => e)).append ?_
    have := OwL.cons (R := Own K Hs' (upd H' D (.lst (vs ++ [y]))) n) (o.move (Same.refl _) (fun b hb => upd_ne fun z => nDf (by rw [← z]; exact hb)) (fun _ _ e => e)) OwL.nil
    rw [List.append_nil] at this
    exact this
  nd := by
    rw [List.nodup_append]
    exact ⟨m.nd, nd, fun a ha c hc e => nf c hc (by rw [← e]; exact ha)⟩
  nD := fun z => by
    rcases List.mem_append.mp z with z | z
    · exact m.nD z
    · exact nDf z
  fr := fun a ha => by
    rcases List.mem_append.mp ha with z | z
    · exact m.fr a z
    · exact fr a z
  p := Z.dep g H' _ m.p fun b hb => upd_ne fun z => hv D hD (by rw [← z]; exact hb)
theorem SR.updD {vol : List Addr} {Hs0 H0 Hs H : Hp} {σ : St} {env : Env} {fp : Nat → List Addr} (R : SR K M vol Hs0 H0 Hs H σ env fp) {D : Addr} {o : HO} (h0 : H0 D = none) (hs : Hs D = none) (hf : ∀ i, D ∉ fp i) : SR K M vol Hs0 H0 Hs (upd H D o) σ env fp where
  st := ⟨R.st.s1, fun b u e n => by rw [upd_ne (ne_of_none e h0)]; exact R.st.s2 b u e n, R.st.s3, fun b u e => by
      have : b ≠ D := fun z => by rw [z, hs] at e; cases e
      rw [upd_ne this]; exact R.st.s4 b u e, fun b e => by
      by_cases z : b = D
      · rw [z, upd_same]; simp
      · rw [upd_ne z]; exact R.st.s5 b e⟩
  at' := fun i d e => by
    obtain ⟨v, e1, ow⟩ := R.at' i d e
    exact ⟨v, e1, ow.move (Same.refl _) (fun b hb => upd_ne fun z => hf i (by rw [← z]; exact hb)) fun _ _ e => e⟩
  nd := R.nd
  dj := R.dj
  nw := R.nw
  ct := fun i b hb => by
    obtain ⟨h1, h2⟩ := R.ct i b hb
    exact ⟨h1, by rw [upd_ne fun z => hf i (by rw [← z]; exact hb)]; exact h2⟩
  hv := R.hv
  len := R.len

theorem SR.addD {vol : List Addr} {Hs0 H0 Hs H : Hp} {σ : St} {env : Env} {fp : Nat → List Addr} (R : SR K M vol Hs0 H0 Hs H σ env fp) {D : Addr} {o : HO} (h : H D = some o) (hs : Hs D = none) (hf : ∀ i, D ∉ fp i) : SR K M vol Hs0 (upd H0 D o) Hs H σ env fp where
  st := ⟨R.st.s1, fun b u e n => by
      by_cases z : b = D
      · subst z; rw [upd_same] at e; cases e; exact h
      · rw [upd_ne z] at e; exact R.st.s2 b u e n, fun b e => by
      have : b ≠ D := fun z => e (by rw [z]; exact hs)
      rw [upd_ne this]; exact R.st.s3 b e, R.st.s4, fun b e => by
      by_cases z : b = D
      · subst z; rw [h]; simp
      · rw [upd_ne z] at e; exact R.st.s5 b e⟩
  at' := R.at'
  nd := R.nd
  dj := R.dj
  nw := fun i b hb => by rw [upd_ne fun z => hf i (by rw [← z]; exact hb)]; exact R.nw i b hb
  ct := R.ct
  hv := fun b hb => ⟨by
      by_cases z : b = D
      · subst z; rw [upd_same]; simp
      · rw [upd_ne z]; exact (R.hv b hb).1, (R.hv b hb).2⟩
  len := R.len
theorem SR.dropD {vol : List Addr} {Hs0 H0 Hs H : Hp} {σ : St} {env : Env} {fp : Nat → List Addr} {D : Addr} {o : HO} (R : SR K M vol Hs0 (upd H0 D o) Hs H σ env fp) (h0 : H0 D = none) (hv : D ∉ vol) : SR K M vol Hs0 H0 Hs H σ env fp where
  st := ⟨R.st.s1, fun b u e n => R.st.s2 b u (by rw [upd_ne (ne_of_none e h0)]; exact e) n, fun b e => by
      rcases R.st.s3 b e with z | z
      · exact .inl z
      · by_cases y : b = D
        · subst y; rw [upd_same] at z; cases z
        · rw [upd_ne y] at z; exact .inr z, R.st.s4, fun b e => by
      cases z : H0 b with
      | none => exact absurd z e
      | some u => exact R.st.s5 b (by rw [upd_ne (ne_of_none z h0), z]; simp)⟩
  at' := R.at'
  nd := R.nd
  dj := R.dj
  nw := fun i b hb => by
    have := R.nw i b hb
    by_cases y : b = D
    · subst y; rw [upd_same] at this; cases this
    · rw [upd_ne y] at this; exact this
  ct := R.ct
  hv := fun b hb => by
    have := R.hv b hb
    rw [upd_ne fun z => hv (by rw [← z]; exact hb)] at this
    exact this
  len := R.len
def lc2Go (b : WB) (wt : WT G) (wi1 : WI G) (vs1 : List Nat) (b1 : WB) (wt1 : WT G) (we : WE G) (Q : List Dt → G → Prop) : List Dt → Env → G → List Dt → Prop
  | [], _, g, acc => Q acc g
  | d :: ds, env, g, acc => b env d fun env' => wt env' g (fun c g1 => (c = true → wi1 env' g1 (fun ds1 g2 => lcGo b1 wt1 we (fun acc' g3 => lc2Go b wt wi1 vs1 b1 wt1 we Q ds env g3 acc') ds1 (wipeE env' vs1) g2 acc) noX) ∧
      (c = false → lc2Go b wt wi1 vs1 b1 wt1 we Q ds env g1 acc)) noX
def wLc2 (vs vs1 : List Nat) (wi : WI G) (b : WB) (wt : WT G) (wi1 : WI G) (b1 : WB) (wt1 : WT G) (we : WE G) : WE G := fun env g Q E => wi env g (fun ds g1 => lc2Go b wt wi1 vs1 b1 wt1 we (fun rs g2 => Q (.lst rs) g2) ds (wipeE env vs) g1 []) E

/-- a loop that adds to the list at D -/
theorem lc_turns {J : It} {Hw : Hp} {ds : List Dt} {gt : TG} {tt : TT} {te : TE} {is vs1 : List Nat} {b : WB} {wt : WT G} {we : WE G} {Hs0 H0 : Hp} {σ : St} {env : Env} {fp : Nat → List Addr} {Kq : List Dt → G → Prop} {QF : Hp → Prop}
    (hg : ∀ {vol : List Addr} {Hs0 H0 Hs H : Hp} {σ : St} {env : Env} {fp : Nat → List Addr} {v : V} {d : Dt} {Q : St → Hp → Prop} {Qd : Env → Prop}, SR K M vol Hs0 H0 Hs H σ env fp → Rp K Hs v d → b env d Qd →
      (∀ env' σ' fp', Qd env' → SR K M vol Hs0 H0 Hs H σ' env' fp' → (∀ vs, (∀ i ∈ is, i ∈ vs) → wipe σ' vs = wipe σ vs) → Q σ' H) → gt v σ H Q)
    (ht : ∀ {Hs0 H0 Hs H : Hp} {σ : St} {env : Env} {fp : Nat → List Addr} {g : G} {Q : Bool → Hp → Prop} {Qd : Bool → G → Prop} {Ed : XD G}, SR K M Z.vol Hs0 H0 Hs H σ env fp → Z.P g H → wt env g Qd Ed →
      (∀ b g Hs' H', Qd b g → Step Z.vol Hs H Hs' H' → Z.P g H' → Q b H') → GoX Z W0 Hs H σ Ed → tt σ H Q)
    (he : ∀ {Hs0 H0 Hs H : Hp} {σ : St} {env : Env} {fp : Nat → List Addr} {g : G} {Q : VK} {Qd : KD G} {Ed : XD G}, SR K M Z.vol Hs0 H0 Hs H σ env fp → Z.P g H → we env g Qd Ed → GoE K Z n Hs H Q Qd → GoX Z W0 Hs H σ Ed → te σ H Q)
    (sub : ∀ i ∈ is, i ∈ vs1) (wk : Wk K Hw J ds) (hv : ∀ a, H1 a = none → a ∉ Z.vol) (hD : H1 D = none) (hD0 : H0 D = none) (hfp : ∀ i, D ∉ fp i) {σo : St} {envo : Env} {fpo : Nat → List Addr} (hfpo : ∀ i, D ∉ fpo i)
    (Ro : SR K M Z.vol Hs0 H0 Hs' H' σo envo fpo)
    (R : SR K M Z.vol Hs0 H0 Hs' H' (wipe σ vs1) env fp) (hw : Same Hw Hs') (m : Mk K Z n D Hs1 H1 Hs' H' g acc vs fs) (go : lcGo b wt we Kq ds env g acc)
    (fin : ∀ {Hs' H' : Hp} {g : G} {acc : List Dt} {vs : List V} {fs : List Addr}, Kq acc g → Same Hw Hs' → SR K M Z.vol Hs0 H0 Hs' H' σo envo fpo → Mk K Z n D Hs1 H1 Hs' H' g acc vs fs → QF H') :
    ∃ W1 : Nat → Nat → Hp → Prop, (∃ m, W1 0 m H') ∧ ∀ j k H, W1 j k H → (J.stop j H ∧ QF H) ∨ (J.go j H ∧ ∃ Nx1 : Hp → Prop, (∀ H', Nx1 H' → ∃ k', k' < k ∧ W1 (j + 1) k' H') ∧ ∀ x H', J.yld j H x H' → gt x (wipe σ vs1) H' fun σ3 H5 => wipe σ3 vs1 = wipe σ vs1 ∧ tt σ3 H5 fun b H6 =>
      if b = true then te σ3 H6 fun y H7 => ∃ acc, H7 D = some (.lst acc) ∧ acc.length < sizeLine ∧ Nx1 (upd H7 D (.lst (acc ++ [y]))) else Nx1 H6) := by
  have noX' : ∀ {Hs H : Hp} {σ : St}, GoX Z W0 Hs H σ (noX : XD G) := fun {_ _ _} _ _ _ _ _ _ _ e _ _ _ _ _ => e.elim
  let Iv : Nat → Hp → Prop := fun i H' => ∃ Hs' g acc vs fs, lcGo b wt we Kq (ds.drop i) env g acc ∧ SR K M Z.vol Hs0 H0 Hs' H' (wipe σ vs1) env fp ∧ SR K M Z.vol Hs0 H0 Hs' H' σo envo fpo ∧ Same Hw Hs' ∧ Mk K Z n D Hs1 H1 Hs' H' g acc vs fs
  refine ⟨fun i k H' => k = ds.length - i ∧ i ≤ ds.length ∧ Iv i H', ⟨ds.length, by simp, Nat.zero_le _, Hs', g, acc, vs, fs, go, R, Ro, hw, m⟩, ?_⟩
  rintro i k H2 ⟨rfl, hi, Hs2, g2, acc2, vs2, fs2, go, R, Ro, hw, m⟩
  by_cases hlt : i < ds.length
  · refine .inr ⟨wk.go i Hs2 H2 hlt hw m.st.s4, fun H3 => Iv (i + 1) H3, fun H3 h => ⟨ds.length - (i + 1), by omega, rfl, hlt, h⟩, fun v H3 y => ?_⟩
    obtain ⟨d, hd⟩ : ∃ d, ds[i]? = some d := ⟨ds[i], List.getElem?_eq_getElem hlt⟩
    obtain ⟨Hs3, s3, rv⟩ := wk.yl i Hs2 H2 v H3 d hd hw m.st.s4 y
    rw [List.drop_eq_getElem_cons hlt] at go
    have hdd : ds[i] = d := by
      have := List.getElem?_eq_getElem hlt
      rw [hd] at this
      exact (Option.some.inj this).symm
    rw [hdd] at go
    have s3' := s3.mono (vol := Z.vol)
    refine hg (R.step s3') rv go fun env' σ' fp' go R3 hws => ⟨?_, ?_⟩
    · rw [hws vs1 sub, wipe_idem vs1 fun _ h => h]
    refine ht R3 (Z.pure m.p s3) go (fun c g4 Hs4 H4 go s4 p4 => ?_) noX'
    have s34 := s3'.trans s4
    cases c with
    | false => exact ⟨Hs4, g4, acc2, vs2, fs2, go.2 rfl, R.step s34, Ro.step s34, hw.trans s34.s1, m.step hv hD s34 p4⟩
    | true =>
      rw [if_pos rfl]
      refine he (R3.step s4) p4 (go.1 rfl) (fun r g5 y Hs5 H5 f e5 s5 o5 nd5 fr5 p5 => ?_) noX'
      have s35 := s34.trans s5
      have m4 := m.step hv hD s34 p4
      have m5 := m.step hv hD s35 p5
      have fr1 : ∀ b ∈ f, H1 b = none := fun b hb => fresh_of (m.st.trans s34) (fr5 b hb)
      have nDf : D ∉ f := fun z => by
        have := fr5 D z
        rw [m4.at'] at this; cases this
      refine ⟨vs2, m5.at', by rw [m5.ow.length]; exact e5.1, Hs5, g5, acc2 ++ [r], vs2 ++ [y], fs2 ++ f, e5.2, (R.step s35).updD hD0 m5.no hfp, (Ro.step s35).updD hD0 m5.no hfpo, hw.trans s35.s1, m5.push hv hD o5 nd5 fr1 (fun b hb z => (owl_cells m4.ow b z).2 (fr5 b hb)) nDf⟩
  · have hi' : i = ds.length := by omega
    subst hi'
    rw [List.drop_length] at go
    exact .inl ⟨wk.stop _ Hs2 H2 (Nat.le_refl _) hw m.st.s4, fin go hw Ro m⟩
theorem lc2_ref {wi wi1 : TI} {gt gt1 : TG} {tt tt1 : TT} {te : TE} {vs vs1 is is1 : List Nat} {w1 w2 : WI G} {b b1 : WB} {wt wt1 : WT G} {we : WE G}
    (hi : ∀ {Hs0 H0 Hs H : Hp} {σ : St} {env : Env} {fp : Nat → List Addr} {g : G} {R : It → Hp → Prop} {Qd : List Dt → G → Prop} {Ed : XD G}, SR K M Z.vol Hs0 H0 Hs H σ env fp → Z.P g H → w1 env g Qd Ed →
      (∀ ds g J Hs' H', Qd ds g → Step Z.vol Hs H Hs' H' → Wk K Hs' J ds → Z.P g H' → R J H') → GoX Z W Hs H σ Ed → wi σ H R)
    (hg : ∀ {vol : List Addr} {Hs0 H0 Hs H : Hp} {σ : St} {env : Env} {fp : Nat → List Addr} {v : V} {d : Dt} {Q : St → Hp → Prop} {Qd : Env → Prop}, SR K M vol Hs0 H0 Hs H σ env fp → Rp K Hs v d → b env d Qd →
      (∀ env' σ' fp', Qd env' → SR K M vol Hs0 H0 Hs H σ' env' fp' → (∀ vs, (∀ i ∈ is, i ∈ vs) → wipe σ' vs = wipe σ vs) → Q σ' H) → gt v σ H Q)
    (ht : ∀ {Hs0 H0 Hs H : Hp} {σ : St} {env : Env} {fp : Nat → List Addr} {g : G} {Q : Bool → Hp → Prop} {Qd : Bool → G → Prop} {Ed : XD G}, SR K M Z.vol Hs0 H0 Hs H σ env fp → Z.P g H → wt env g Qd Ed →
      (∀ b g Hs' H', Qd b g → Step Z.vol Hs H Hs' H' → Z.P g H' → Q b H') → GoX Z W0 Hs H σ Ed → tt σ H Q)
    (hi1 : ∀ {Hs0 H0 Hs H : Hp} {σ : St} {env : Env} {fp : Nat → List Addr} {g : G} {R : It → Hp → Prop} {Qd : List Dt → G → Prop} {Ed : XD G}, SR K M Z.vol Hs0 H0 Hs H σ env fp → Z.P g H → w2 env g Qd Ed →
      (∀ ds g J Hs' H', Qd ds g → Step Z.vol Hs H Hs' H' → Wk K Hs' J ds → Z.P g H' → R J H') → GoX Z W0 Hs H σ Ed → wi1 σ H R)
    (hg1 : ∀ {vol : List Addr} {Hs0 H0 Hs H : Hp} {σ : St} {env : Env} {fp : Nat → List Addr} {v : V} {d : Dt} {Q : St → Hp → Prop} {Qd : Env → Prop}, SR K M vol Hs0 H0 Hs H σ env fp → Rp K Hs v d → b1 env d Qd →
      (∀ env' σ' fp', Qd env' → SR K M vol Hs0 H0 Hs H σ' env' fp' → (∀ vs, (∀ i ∈ is1, i ∈ vs) → wipe σ' vs = wipe σ vs) → Q σ' H) → gt1 v σ H Q)
    (ht1 : ∀ {Hs0 H0 Hs H : Hp} {σ : St} {env : Env} {fp : Nat → List Addr} {g : G} {Q : Bool → Hp → Prop} {Qd : Bool → G → Prop} {Ed : XD G}, SR K M Z.vol Hs0 H0 Hs H σ env fp → Z.P g H → wt1 env g Qd Ed →
      (∀ b g Hs' H', Qd b g → Step Z.vol Hs H Hs' H' → Z.P g H' → Q b H') → GoX Z W0 Hs H σ Ed → tt1 σ H Q)
    (he : ∀ {Hs0 H0 Hs H : Hp} {σ : St} {env : Env} {fp : Nat → List Addr} {g : G} {Q : VK} {Qd : KD G} {Ed : XD G}, SR K M Z.vol Hs0 H0 Hs H σ env fp → Z.P g H → we env g Qd Ed → GoE K Z n Hs H Q Qd → GoX Z W0 Hs H σ Ed → te σ H Q)
    (sub : ∀ i ∈ is, i ∈ vs) (sub1 : ∀ i ∈ is1, i ∈ vs1) {Hs0 H0 Hs H : Hp} {σ : St} {env : Env} {fp : Nat → List Addr} {g : G} {Q : VK} {Qd : KD G} {Ed : XD G}
    (R : SR K M Z.vol Hs0 H0 Hs H σ env fp) (p : Z.P g H) (q : wLc2 vs vs1 w1 b wt w2 b1 wt1 we env g Qd Ed) (k : GoE K Z (n + 1) Hs H Q Qd) (x : GoX Z W Hs H σ Ed) : tLc2 wi gt tt wi1 gt1 tt1 te vs vs1 σ H Q := by
  refine hi R p q (fun ds g1 J Hs1 H1 e1 s1 wk p1 => ?_) x
  intro D hD
  have hDs : Hs1 D = none := s1.s4.free hD
  have R1 : SR K M Z.vol Hs0 H0 Hs1 H1 (wipe σ vs) (wipeE env vs) fp := (R.step s1).wipe vs
  have noX' : ∀ {Hs H : Hp} {σ : St}, GoX Z W0 Hs H σ (noX : XD G) := fun {_ _ _} _ _ _ _ _ _ _ e _ _ _ _ _ => e.elim
  have hv : ∀ a, H1 a = none → a ∉ Z.vol := fun a ha z => (R1.st.s5 a (R1.hv a z).1) ha
  have h0 : ∀ a, H1 a = none → H0 a = none := fun a ha => fresh_of R1.st ha
  have hfpD : ∀ i, D ∉ fp i := fun i z => (R1.ct i D z).2 hD
  let Iv : Nat → Hp → Prop := fun i H' => ∃ Hs' g acc us fs, lc2Go b wt w2 vs1 b1 wt1 we (fun rs g2 => Qd (.lst rs) g2) (ds.drop i) (wipeE env vs) g acc ∧ SR K M Z.vol Hs0 H0 Hs' H' (wipe σ vs) (wipeE env vs) fp ∧ Mk K Z n D Hs1 H1 Hs' H' g acc us fs
  have m0 : Mk K Z n D Hs1 H1 Hs1 (upd H1 D (.lst [])) g1 [] [] [] := ⟨Step.new s1.s4 hD, upd_same, hDs, .nil, List.nodup_nil, by simp, by simp, Z.pure p1 (Step.new s1.s4 hD)⟩
  refine ⟨fun i m H' => m = ds.length - i ∧ i ≤ ds.length ∧ Iv i H', ⟨ds.length, by simp, Nat.zero_le _, Hs1, g1, [], [], [], e1, R1.step m0.st, m0⟩, ?_⟩
  rintro i m H' ⟨rfl, hi', Hs', g', acc, us, fs, go, R2, mk⟩
  by_cases hlt : i < ds.length
  · refine .inr ⟨wk.go i Hs' H' hlt mk.st.s1 mk.st.s4, fun H3 => Iv (i + 1) H3, fun H3 h => ⟨ds.length - (i + 1), by omega, rfl, hlt, h⟩, fun v H3 y => ?_⟩
    obtain ⟨d, hd⟩ : ∃ d, ds[i]? = some d := ⟨ds[i], List.getElem?_eq_getElem hlt⟩
    obtain ⟨Hs3, s3, rv⟩ := wk.yl i Hs' H' v H3 d hd mk.st.s1 mk.st.s4 y
    rw [List.drop_eq_getElem_cons hlt] at go
    have hdd : ds[i] = d := by
      have := List.getElem?_eq_getElem hlt
      rw [hd] at this
      exact (Option.some.inj this).symm
    rw [hdd] at go
    have s3' := s3.mono (vol := Z.vol)
    have mk3 := mk.step hv hD s3' (Z.pure mk.p s3)
    refine hg ((R2.step s3').addD mk3.at' mk3.no hfpD) rv go fun env' σ' fp' go R3' hws => ⟨?_, ?_⟩
    · rw [hws vs sub, wipe_idem vs fun _ h => h]
    have R3 := R3'.dropD (h0 D hD) (hv D hD)
    have hfp' : ∀ l, D ∉ fp' l := fun l z => by
      have := R3'.nw l D z
      rw [upd_same] at this; cases this
    refine ht R3 (Z.pure mk.p s3) go (fun c g4 Hs4 H4 go s4 p4 => ?_) noX'
    have s34 := s3'.trans s4
    cases c with
    | false => exact ⟨Hs4, g4, acc, us, fs, go.2 rfl, R2.step s34, mk.step hv hD s34 p4⟩
    | true =>
      rw [if_pos rfl]
      refine hi1 (R3.step s4) p4 (go.1 rfl) (fun ds1 g5 J1 Hs5 H5 e5 s5 wk1 p5 => ?_) noX'
      have s35 := s34.trans s5
      have m5 := mk.step hv hD s35 p5
      have R5 := (R3.step s4).step s5
      exact lc_turns (Kq := fun acc' g3 => lc2Go b wt w2 vs1 b1 wt1 we (fun rs g2 => Qd (.lst rs) g2) (ds.drop (i + 1)) (wipeE env vs) g3 acc') (H1 := H1) (fp := fp') hg1 ht1 he sub1 wk1 hv hD (h0 D hD) hfp' hfpD (R2.step s35) (R5.wipe vs1) (Same.refl _) m5 e5
        fun {Hs6 H6 g6 acc6 vs6 fs6} go6 hw6 R6 m6 => ⟨Hs6, g6, acc6, vs6, fs6, go6, R6, m6⟩
  · have hi'' : i = ds.length := by omega
    subst hi''
    rw [List.drop_length] at go
    refine .inl ⟨wk.stop _ Hs' H' (Nat.le_refl _) mk.st.s1 mk.st.s4, ?_⟩
    refine k (.lst acc) g' (.ref D) Hs' H' (D :: fs) go (s1.trans mk.st) (.inr ⟨D, us, acc, fs, rfl, mk.no, .inl ⟨mk.at', rfl⟩, mk.ow, rfl⟩) (List.nodup_cons.mpr ⟨mk.nD, mk.nd⟩) (fun b hb => ?_) mk.p
    rcases List.mem_cons.mp hb with rfl | hb
    · exact fresh_of s1 hD
    · exact fresh_of s1 (mk.fr b hb)
section
variable {elt tg iter tg1 iter1 : Expr} {ifs ifs1 : List Expr} {scope : Scope} {own : List (Str × Nat)} {vs1 : List Nat} {pos spos : Pos} {is is1 : List Nat} {wi wi1 : WI G} {b b1 : WB} {wt wt1 : WT G} {we : WE G}
theorem lc2_parts (hi : DI X Z W M tg iter wi) (hg : ∀ j, DG (blkCx X scope j) M is tg b) (ht : ∀ j, DTs (blkCx X scope j) Z W0 M ifs wt) (hi1 : ∀ j, DI (blkCx X scope j) Z W0 M tg1 iter1 wi1) (hg1 : ∀ j, DG (blkCx X scope j) M is1 tg1 b1) (ht1 : ∀ j, DTs (blkCx X scope j) Z W0 M ifs1 wt1)
    (he : ∀ j, DE (blkCx X scope j) Z W0 M n elt we) (sub : ∀ i ∈ is, i ∈ own.map (·.2)) (sub1 : ∀ i ∈ is1, i ∈ vs1) :
    ∃ ti gt tt ti1 gt1 tt1 te, PI X tg iter ti ∧ (∀ j, PG (blkCx X scope j) tg gt) ∧ (∀ j, PTs (blkCx X scope j) ifs tt) ∧ (∀ j, PI (blkCx X scope j) tg1 iter1 ti1) ∧ (∀ j, PG (blkCx X scope j) tg1 gt1) ∧ (∀ j, PTs (blkCx X scope j) ifs1 tt1) ∧ (∀ j, PE (blkCx X scope j) elt te) ∧
      ∀ {Hs0 H0 Hs H : Hp} {σ : St} {env : Env} {fp : Nat → List Addr} {g : G} {Q : VK} {Qd : KD G} {Ed : XD G}, SR X.K M Z.vol Hs0 H0 Hs H σ env fp → Z.P g H → wLc2 (own.map (·.2)) vs1 wi b wt wi1 b1 wt1 we env g Qd Ed → GoE X.K Z (n + 1) Hs H Q Qd →
        GoX Z W Hs H σ Ed → tLc2 ti gt tt ti1 gt1 tt1 te (own.map (·.2)) vs1 σ H Q := by
  obtain ⟨ti, p1, r1⟩ := hi
  refine ⟨ti, fun v σ H Q => ∀ j, (hg j).choose v σ H Q, fun σ H Q => ∀ j, (ht j).choose σ H Q, fun σ H Q => ∀ j, (hi1 j).choose σ H Q, fun v σ H Q => ∀ j, (hg1 j).choose v σ H Q, fun σ H Q => ∀ j, (ht1 j).choose σ H Q, fun σ H Q => ∀ j, (he j).choose σ H Q, p1, fun j => ?_, fun j => ?_, fun j => ?_, fun j => ?_, fun j => ?_, fun j => ?_, ?_⟩
  · exact ⟨fun pins s σ H v u Q I r h => (hg j).choose_spec.1.run pins s σ H v u Q I r (h j)⟩
  · exact ⟨fun pins s σ H Q I h => (ht j).choose_spec.1.run pins s σ H Q I (h j)⟩
  · exact ⟨fun pins s σ H R I h => (hi1 j).choose_spec.1.run pins s σ H R I (h j)⟩
  · exact ⟨fun pins s σ H v u Q I r h => (hg1 j).choose_spec.1.run pins s σ H v u Q I r (h j)⟩
  · exact ⟨fun pins s σ H Q I h => (ht1 j).choose_spec.1.run pins s σ H Q I (h j)⟩
  · exact ⟨fun pins s σ H Q I h => (he j).choose_spec.1.run pins s σ H Q I (h j)⟩
  · intro Hs0 H0 Hs H σ env fp g Q Qd Ed R p q k x
    exact lc2_ref (K := X.K) r1 (fun R rp q k j => (hg j).choose_spec.2 R rp q k) (fun R p q k x j => (ht j).choose_spec.2 R p q k x) (fun R p q k x j => (hi1 j).choose_spec.2 R p q k x) (fun R rp q k j => (hg1 j).choose_spec.2 R rp q k)
      (fun R p q k x j => (ht1 j).choose_spec.2 R p q k x) (fun R p q k x j => (he j).choose_spec.2 R p q k x) sub sub1 R p q k x
variable (own vs1) in
theorem de_lc2 (hc : X.calm = true) (hN : X.N.Nodup) (hi : DI X Z W M tg iter wi) (ok : BlkOk X.N X.env.scope scope own) (hg : ∀ j, DG (blkCx X scope j) M is tg b) (ht : ∀ j, DTs (blkCx X scope j) Z W0 M ifs wt) (hi1 : ∀ j, DI (blkCx X scope j) Z W0 M tg1 iter1 wi1)
    (hg1 : ∀ j, DG (blkCx X scope j) M is1 tg1 b1) (ht1 : ∀ j, DTs (blkCx X scope j) Z W0 M ifs1 wt1) (he : ∀ j, DE (blkCx X scope j) Z W0 M n elt we) (sub : ∀ i ∈ is, i ∈ own.map (·.2) := by decide) (sub1 : ∀ i ∈ is1, i ∈ vs1 := by decide) (hv : ∀ i ∈ vs1, i ∈ own.map (·.2) := by decide)
    (hs : ∀ x, foldedSetIterable iter X.env x = pure x := by intro _; rfl) (hs1 : ∀ env x, foldedSetIterable iter1 env x = pure x := by intro _ _; rfl) : DE X Z W M (n + 1) (.ListComp elt [⟨tg, iter, ifs, 0⟩, ⟨tg1, iter1, ifs1, 0⟩] scope pos) (wLc2 (own.map (·.2)) vs1 wi b wt wi1 b1 wt1 we) := by
  obtain ⟨ti, gt, tt, ti1, gt1, tt1, te, p1, p2, p3, p4, p5, p6, p7, r⟩ := lc2_parts (own := own) hi hg ht hi1 hg1 ht1 he sub sub1
  exact ⟨_, pe_lc2 hc hN p1 ok hv (fun s H C cl fp => p2 (s, H, C, cl, fp)) (fun s H C cl fp => p3 (s, H, C, cl, fp)) (fun s H C cl fp => p4 (s, H, C, cl, fp)) (fun s H C cl fp => p5 (s, H, C, cl, fp)) (fun s H C cl fp => p6 (s, H, C, cl, fp)) (fun s H C cl fp => p7 (s, H, C, cl, fp)) hs hs1, r⟩
variable (own vs1) in
/-- .. for good -/
theorem ds_setLc20 (i : Nat) {y : Str} {py : Pos} (hc : X.calm = true) (hN : X.N.Nodup) (hi : DI X Z W M tg iter wi) (ok : BlkOk X.N X.env.scope scope own) (hg : ∀ j, DG (blkCx X scope j) M is tg b) (ht : ∀ j, DTs (blkCx X scope j) Z W0 M ifs wt) (hi1 : ∀ j, DI (blkCx X scope j) Z W0 M tg1 iter1 wi1)
    (hg1 : ∀ j, DG (blkCx X scope j) M is1 tg1 b1) (ht1 : ∀ j, DTs (blkCx X scope j) Z W0 M ifs1 wt1) (he : ∀ j, DE (blkCx X scope j) Z W0 M n elt we) (hm : M i = 0 := by rfl) (hy : X.N[i]? = some y := by rfl) (hyl : X.env.scope.names.lookup y = some .local := by rfl)
    (hsw : swapsWith (.ListComp elt [⟨tg, iter, ifs, 0⟩, ⟨tg1, iter1, ifs1, 0⟩] scope pos) (some (.Name y py)) spos.line X.env = pure true := by exact sw_true rfl rfl rfl (by decide +kernel)) (sub : ∀ i ∈ is, i ∈ own.map (·.2) := by decide) (sub1 : ∀ i ∈ is1, i ∈ vs1 := by decide) (hv : ∀ i ∈ vs1, i ∈ own.map (·.2) := by decide)
    (hs : ∀ x, foldedSetIterable iter X.env x = pure x := by intro _; rfl) (hs1 : ∀ env x, foldedSetIterable iter1 env x = pure x := by intro _ _; rfl) : DS X Z W M nr (.Assign [.Name y py] (.ListComp elt [⟨tg, iter, ifs, 0⟩, ⟨tg1, iter1, ifs1, 0⟩] scope pos) spos) (wSet i (wLc2 (own.map (·.2)) vs1 wi b wt wi1 b1 wt1 we)) := by
  obtain ⟨ti, gt, tt, ti1, gt1, tt1, te, p1, p2, p3, p4, p5, p6, p7, r⟩ := lc2_parts (own := own) hi hg ht hi1 hg1 ht1 he sub sub1
  refine ds_setR (ps_setLc2 hc hN hy hyl hsw p1 ok hv (fun s H C cl fp => p2 (s, H, C, cl, fp)) (fun s H C cl fp => p3 (s, H, C, cl, fp)) (fun s H C cl fp => p4 (s, H, C, cl, fp)) (fun s H C cl fp => p5 (s, H, C, cl, fp)) (fun s H C cl fp => p6 (s, H, C, cl, fp)) (fun s H C cl fp => p7 (s, H, C, cl, fp)) hs hs1) ?_
  rw [hm]
  intro Hs0 H0 Hs H σ env fp g Q Qd Ed R p q k x
  refine r R p q (fun d g' v Hs' H' f e s o nd fr p' => ?_) x
  have hc := fun b hb => (o.cells b hb).1
  exact k d g' v (frz Hs' H' f) H' [] e (s.freeze fr hc) ⟨rfl, o.frozen hc fun _ h => h⟩ List.nodup_nil (fun _ h => by cases h) p'
end
end
end Vl

/-! Vl14: more of own lists; chains; a try that runs through; what a def returns. -/
namespace Vl
open PySem PySem.Spec L2
section
variable {G : Type} {X : Cx} {Z : Vo G} {W : WX} {M : Nat → Nat} {n nr : Nat}
variable {e : Expr} {es : List Expr} {w : WE G} {pos : Pos} {x : Str} {p1 p2 p3 : Pos}
/-- x.clear() -/
def wClr (i : Nat) : WS G := fun D env g => ∃ ds, env[i]? = some (some (.lst ds)) ∧ D.nx (env.set i (some (.lst []))) g
theorem ds_clr (i : Nat) (hm : M i = n + 1 := by rfl) (hN : X.N[i]? = some x := by rfl) (hv : Vis X.env.scope x := by first | exact Or.inl rfl | exact Or.inr (Or.inl rfl) | exact Or.inr (Or.inr rfl))
    (hd : (x == ("__debug__" : Str)) = false := by decide) (hcd : (x == ("__classdict__" : Str)) = false := by decide) (hbase : attributeBase (.Name x p1) "clear" X.env (eval (.Name x p1) X.env) = eval (.Name x p1) X.env := by rfl)
    (hline : (p2.endLine == p3.line) = true := by rfl) (hsw : swapsWith (.Call (.Attribute (.Name x p1) "clear" p2) [] [] p3) none pos.line X.env = pure false := by rfl) :
    DS X Z W M nr (.Expr (.Call (.Attribute (.Name x p1) "clear" p2) [] [] p3) pos) (wClr i) := by
  refine ⟨_, ps_expr (pe_bm0 PySem.F.plainAttrs_list PySem.F.slot_list_clear PySem.F.type_list_clear mt_clear (pe_var hN hv hd hcd) hbase hline) hsw, fun {Hs0 H0 Hs H σ env fp g D Dd} R p q k => ?_⟩
  obtain ⟨ds, he, q⟩ := q
  obtain ⟨v, hσ, o⟩ := R.at' i _ he
  rw [hm] at o
  obtain ⟨c, vs, fs, rfl, hcs, hc, ow, hf⟩ := o.node
  have cin : c ∈ fp i := by rw [hf]; exact List.mem_cons_self
  exact ⟨.ref c, hσ, .inl ⟨rfl, _, SqL.of hc⟩, c, vs, rfl, rfl, hc, k.nx q (own_put R hm hσ hf .nil (List.nodup_cons.mpr ⟨by simp, List.nodup_nil⟩) (fun b hb => by cases hb) fun j _ b hb => by cases hb) (Z_upd R cin p)⟩
/-- parts of own lists -/
theorem OwL.split {K : PySem.W.Frag} {Hs H : Hp} : ∀ (k : Nat) {vs : List V} {ds : List Dt} {fs : List Addr}, OwL (Own K Hs H n) vs ds fs → ∃ f1 f2, OwL (Own K Hs H n) (vs.take k) (ds.take k) f1 ∧ OwL (Own K Hs H n) (vs.drop k) (ds.drop k) f2 ∧ fs = f1 ++ f2
  | 0, vs, ds, fs, r => ⟨[], fs, .nil, r, rfl⟩
  | k + 1, _, _, _, .nil => ⟨[], [], .nil, .nil, rfl⟩
  | k + 1, _, _, _, .cons (f := f) (fs := fs) h r => by
    obtain ⟨f1, f2, r1, r2, e⟩ := OwL.split k r
    exact ⟨f ++ f1, f2, .cons h r1, r2, by rw [e, List.append_assoc]⟩
/-- x.insert(k, e), k not below 0 -/
def wIns (i : Nat) (wk w : WE G) : WS G := fun D env g => ∃ ds, env[i]? = some (some (.lst ds)) ∧ wk env g (fun dk g1 => ∃ k : Int, dk = .int k ∧ 0 ≤ k ∧ k < 2 ^ 63 ∧
  w env g1 (fun d g' => ds.length < sizeLine ∧ D.nx (env.set i (some (.lst (ds.take k.toNat ++ [d] ++ ds.drop k.toNat)))) g') (exE D env)) (exE D env)
theorem ds_ins (i : Nat) {ek : Expr} {wk : WE G} (hk : DE X Z W M 0 ek wk) (he : DE X Z W M n e w) (hm : M i = n + 1 := by rfl) (hN : X.N[i]? = some x := by rfl) (hv : Vis X.env.scope x := by first | exact Or.inl rfl | exact Or.inr (Or.inl rfl) | exact Or.inr (Or.inr rfl))
    (hd : (x == ("__debug__" : Str)) = false := by decide) (hcd : (x == ("__classdict__" : Str)) = false := by decide) (hbase : attributeBase (.Name x p1) "insert" X.env (eval (.Name x p1) X.env) = eval (.Name x p1) X.env := by rfl)
    (hfew : ((backTo p3 (starEach [ek, e] X.env)).all (fun x => !x.1) && (backToKw p3 (keywordEach [] X.env)).all (fun x => x.1.isSome) && decide ([ek, e].length + ([] : List Keyword).length + (if ([] : List Keyword).isEmpty then 0 else 1) < 30)) = true := by rfl)
    (hline : (p2.endLine == p3.line) = true := by rfl) (hs : starEach [ek, e] X.env = (false, eval ek X.env) :: starEach [e] X.env := by rfl) (hs2 : starEach [e] X.env = (false, eval e X.env) :: starEach [] X.env := by rfl) (hpl : (backTo p3 (starEach [e] X.env)).any (·.1) = false := by rfl)
    (hsw : swapsWith (.Call (.Attribute (.Name x p1) "insert" p2) [ek, e] [] p3) none pos.line X.env = pure false := by rfl) :
    DS X Z W M nr (.Expr (.Call (.Attribute (.Name x p1) "insert" p2) [ek, e] [] p3) pos) (wIns i wk w) := by
  obtain ⟨tk, pk, rk⟩ := hk
  obtain ⟨t, pe, r⟩ := he
  refine ⟨_, ps_expr (pe_bm PySem.F.plainAttrs_list PySem.F.slot_list_insert PySem.F.type_list_insert mt_insert (pe_var hN hv hd hcd) (pa_cons pk (pa_cons pe pa_nil hs2) hs) hbase hfew hline hs hpl) hsw, fun {Hs0 H0 Hs H σ env fp g D Dd} R p q k => ?_⟩
  obtain ⟨ds, he, q⟩ := q
  obtain ⟨v, hσ, o⟩ := R.at' i _ he
  rw [hm] at o
  obtain ⟨c, vs, fs, rfl, hcs, hc, ow, hf⟩ := o.node
  refine ⟨.ref c, hσ, .inl ⟨rfl, _, SqL.of hc⟩, rk R p q (fun dk g1 uk Hs1 H1 f1 e1 s1 o1 nd1 fr1 q1 => ?_) (k.gox R)⟩
  obtain ⟨kk, rfl, k0, k1, e1⟩ := e1
  have rk1 := o1.2
  cases rk1
  have R1 := R.step s1
  refine r R1 q1 e1 (fun d g' u Hs2 H2 f e2 s2 o2 nd2 fr2 q2 => ?_) (k.gox R1)
  have R2 := R1.step s2
  have s12 := s1.trans s2
  have cin : c ∈ fp i := by rw [hf]; exact List.mem_cons_self
  have hc2 : H2 c = some (.lst vs) := s12.s2 c _ hc (R.nvol cin)
  have nd0 : (c :: fs).Nodup := by rw [← hf]; exact R.nd i
  have fsin : ∀ b ∈ fs, b ∈ fp i := fun b hb => by rw [hf]; exact List.mem_cons_of_mem _ hb
  have ow2 := ow.step s12 fun b hb => R.nvol (fsin b hb)
  have fdj : ∀ b ∈ f, ∀ j, b ∉ fp j := fun b hb j z => (R1.ct j b z).2 (fr2 b hb)
  obtain ⟨fa, fb, ra, rb, ef⟩ := ow2.split kk.toNat
  refine ⟨c, vs, kk, u, rfl, rfl, hc2, by rw [ow.length]; exact e2.1, k0, k1, ?_⟩
  have one := OwL.cons (R := Own X.K Hs2 H2 n) o2 OwL.nil
  have all := (ra.append one).append rb
  rw [List.append_nil] at all
  have fsn := (List.nodup_cons.mp nd0).2
  have mem : ∀ b, b ∈ fa ++ f ++ fb → b ∈ fs ∨ b ∈ f := fun b hb => by
    rw [ef]
    simp only [List.mem_append] at hb ⊢
    rcases hb with (z | z) | z
    · exact .inl (.inl z)
    · exact .inr z
    · exact .inl (.inr z)
  refine k.nx e2.2 (own_put R2 hm hσ hf all ?_ (fun b hb => ?_) fun j hj b hb z => ?_) (Z_upd R2 cin q2)
  · rw [ef, List.nodup_append] at fsn
    rw [List.nodup_cons]
    refine ⟨fun z => ?_, ?_⟩
    · rcases mem c z with y | y
      · exact (List.nodup_cons.mp nd0).1 y
      · exact fdj c y i cin
    · have ina : ∀ b ∈ fa, b ∈ fp i := fun b hb => fsin b (by rw [ef]; exact List.mem_append_left _ hb)
      have inb : ∀ b ∈ fb, b ∈ fp i := fun b hb => fsin b (by rw [ef]; exact List.mem_append_right _ hb)
      rw [List.nodup_append]
      refine ⟨?_, fsn.2.1, fun a ha b hb z => ?_⟩
      · rw [List.nodup_append]
        exact ⟨fsn.1, nd2, fun a ha b hb z => fdj b hb i (by rw [← z]; exact ina a ha)⟩
      · rcases List.mem_append.mp ha with y | y
        · exact fsn.2.2 a y b hb z
        · exact fdj a y i (by rw [z]; exact inb b hb)
  · rcases mem b hb with y | y
    · exact R.nw i b (fsin b y)
    · exact fresh_of R1.st (fr2 b y)
  · rcases mem b hb with y | y
    · exact hj (R.dj j i b z (fsin b y))
    · exact fdj b y j z
/-- x[k] = e, x an own list -/
def wSetIx (i : Nat) (wk w : WE G) : WS G := fun D env g => ∃ ds, env[i]? = some (some (.lst ds)) ∧ w env g (fun d g1 => wk env g1 (fun dk g' => ∃ (k : Int) (j : Nat), dk = .int k ∧ ixN ds.length k = some j ∧ D.nx (env.set i (some (.lst (ds.set j d)))) g') (exE D env)) (exE D env)
theorem ds_setIx (i : Nat) {ek : Expr} {wk : WE G} (hk : DE X Z W M 0 ek wk) (he : DE X Z W M n e w) (hm : M i = n + 1 := by rfl) (hN : X.N[i]? = some x := by rfl) (hv : Vis X.env.scope x := by first | exact Or.inl rfl | exact Or.inr (Or.inl rfl) | exact Or.inr (Or.inr rfl))
    (hd : (x == ("__debug__" : Str)) = false := by decide) (hcd : (x == ("__classdict__" : Str)) = false := by decide)
    (ha : ∀ v, assign (.Subscript (.Name x p1) ek p2) X.env v = (do
      let ov ← holding [v] (eval (.Name x p1) X.env)
      let iv ← holding [v, ov] (eval ek X.env)
      standAt p2
      holding [v, ov, iv] (setItem ov iv v)
      release [v, ov, iv] []) := by intro _; rfl)
    (hs : swapsWithSole [.Subscript (.Name x p1) ek p2] e pos.line X.env = pure false := by rfl) (hw : swappedStores [.Subscript (.Name x p1) ek p2] e X.env = pure none := by rfl)
    (h1 : (assignEach [.Subscript (.Name x p1) ek p2] X.env).map (·.2) = [assign (.Subscript (.Name x p1) ek p2) X.env] := by rfl) :
    DS X Z W M nr (.Assign [.Subscript (.Name x p1) ek p2] e pos) (wSetIx i wk w) := by
  obtain ⟨t, pe, r⟩ := he
  obtain ⟨tk, pk, rk⟩ := hk
  refine ⟨_, ps_asg pe (pg_sub (pe_var hN hv hd hcd) pk set_list ha) hs hw h1, fun {Hs0 H0 Hs H σ env fp g D Dd} R p q k => ?_⟩
  obtain ⟨ds, he, q⟩ := q
  obtain ⟨v, hσ, o⟩ := R.at' i _ he
  rw [hm] at o
  obtain ⟨c, vs, fs, rfl, hcs, hc, ow, hf⟩ := o.node
  refine r R p q (fun d g1 u Hs1 H1 f e1 s1 o1 nd1 fr1 q1 => ?_) (k.gox R)
  have R1 := R.step s1
  refine ⟨.ref c, hσ, rk R1 q1 e1 (fun dk g2 uk Hs2 H2 f2 e2 s2 o2 nd2 fr2 q2 => ?_) (k.gox R1)⟩
  obtain ⟨kk, j, rfl, hj, e2⟩ := e2
  have rk1 := o2.2
  cases rk1
  have s12 := s1.trans s2
  have R2 := R1.step s2
  have cin : c ∈ fp i := by rw [hf]; exact List.mem_cons_self
  have hc2 : H2 c = some (.lst vs) := s12.s2 c _ hc (R.nvol cin)
  have nd0 : (c :: fs).Nodup := by rw [← hf]; exact R.nd i
  have fsin : ∀ b ∈ fs, b ∈ fp i := fun b hb => by rw [hf]; exact List.mem_cons_of_mem _ hb
  have ow2 := ow.step s12 fun b hb => R.nvol (fsin b hb)
  have fdj : ∀ b ∈ f, ∀ l, b ∉ fp l := fun b hb l z => (R.ct l b z).2 (fr1 b hb)
  have hv1 : ∀ b ∈ f, b ∉ Z.vol := fun b hb z => (R.st.s5 b (R.hv b z).1) (fr1 b hb)
  have o1' := o1.step s2 hv1
  refine ⟨c, vs, kk, j, rfl, rfl, hc2, by rw [ow.length]; exact hj, ?_⟩
  obtain ⟨dj, hdj⟩ : ∃ d0, ds[j]? = some d0 := ⟨ds[j]'(ixN_lt hj), List.getElem?_eq_getElem (ixN_lt hj)⟩
  obtain ⟨_, _, _, _, _, _, put⟩ := ow2.pick (List.nodup_cons.mp nd0).2 hdj
  obtain ⟨fs', ow3, nd3, sub3⟩ := put o1' nd1 (fun _ _ _ => rfl) fun b hb => .inr fun z => fdj b hb i (fsin b z)
  refine k.nx e2 (own_put R2 hm hσ hf ow3 (List.nodup_cons.mpr ⟨fun z => ?_, nd3⟩) (fun b hb => ?_) fun l hl b hb z => ?_) (Z_upd R2 cin q2)
  · rcases sub3 c z with y | y
    · exact (List.nodup_cons.mp nd0).1 y
    · exact fdj c y i cin
  · rcases sub3 b hb with y | y
    · exact R.nw i b (fsin b y)
    · exact fresh_of R.st (fr1 b y)
  · rcases sub3 b hb with y | y
    · exact hl (R.dj l i b z (fsin b y))
    · exact fdj b y l z

/-! ### a op b op c -/
def wChain (r r' : D2) (wa wb wc : WE G) : WE G := fun env g Q E => wa env g (fun d g1 => wb env g1 (fun f g2 => r d f fun z => ∃ k, z = .bl k ∧ (k = true → wc env g2 (fun h g3 => r' f h fun z => Q z g3) E) ∧ (k = false → Q (.bl false) g2)) E) E
section
variable {a b c : Expr} {wa wb wc : WE G} {op op' : CmpOp} {rr rr' : R2} {r r' : D2}
theorem chain_run {m : Nat} {ta tb tc : TE} (h1 : Op2 X 0 rr r) (h2 : Op2 X m rr' r')
    (ra : ∀ {Hs0 H0 Hs H : Hp} {σ : St} {env : Env} {fp : Nat → List Addr} {g : G} {Q : VK} {Qd : KD G} {Ed : XD G}, SR X.K M Z.vol Hs0 H0 Hs H σ env fp → Z.P g H → wa env g Qd Ed → GoE X.K Z 0 Hs H Q Qd → GoX Z W Hs H σ Ed → ta σ H Q)
    (rb : ∀ {Hs0 H0 Hs H : Hp} {σ : St} {env : Env} {fp : Nat → List Addr} {g : G} {Q : VK} {Qd : KD G} {Ed : XD G}, SR X.K M Z.vol Hs0 H0 Hs H σ env fp → Z.P g H → wb env g Qd Ed → GoE X.K Z 0 Hs H Q Qd → GoX Z W Hs H σ Ed → tb σ H Q)
    (rc : ∀ {Hs0 H0 Hs H : Hp} {σ : St} {env : Env} {fp : Nat → List Addr} {g : G} {Q : VK} {Qd : KD G} {Ed : XD G}, SR X.K M Z.vol Hs0 H0 Hs H σ env fp → Z.P g H → wc env g Qd Ed → GoE X.K Z 0 Hs H Q Qd → GoX Z W Hs H σ Ed → tc σ H Q)
    {Hs0 H0 Hs H : Hp} {σ : St} {env : Env} {fp : Nat → List Addr} {g : G} {Q : VK} {Qd : KD G} {Ed : XD G} (R : SR X.K M Z.vol Hs0 H0 Hs H σ env fp) (p : Z.P g H) (q : wChain r r' wa wb wc env g Qd Ed) (k : GoE X.K Z m Hs H Q Qd) (x : GoX Z W Hs H σ Ed) : tChain rr rr' ta tb tc σ H Q := by
  refine ra R p q (fun d g1 v Hs1 H1 f1 e1 s1 o1 _ _ q1 => ?_) x
  refine rb (R.step s1) q1 e1 (fun d2 g2 u Hs2 H2 f2 e2 s2 o2 _ _ q2 => ?_) (x.step s1)
  have hx := o1.2.same s2.s1
  have R2 := (R.step s1).step s2
  refine h1 s2.s4 hx o2.2 e2 (fun z v3 Hs3 H3 f3 e3 s3 o3 nd3 fr3 => ?_)
  obtain ⟨kk, rfl, et, ef⟩ := e3
  have rz := o3.2
  cases rz
  refine ⟨kk, rfl, ?_⟩
  have s3' := s3.mono (vol := Z.vol)
  have q3 := Z.pure q2 s3
  cases kk with
  | false =>
    rw [if_neg (by decide)]
    exact ((k.step ((s1.trans s2).trans s3')).pure (Step.refl s3.s4) q3).scal s3.s4 (d := .bl _) rfl (ef rfl)
  | true =>
    rw [if_pos rfl]
    refine rc (R2.step s3') q3 (et rfl) (fun d4 g4 u4 Hs4 H4 f4 e4 s4 o4 _ _ q4 => ?_) (((x.step s1).step s2).step s3')
    exact h2 s4.s4 ((o2.2.same s3.s1).same s4.s1) o4.2 e4 ((k.step (((s1.trans s2).trans s3').trans s4)).pure (Step.refl s4.s4) q4)
end
section
variable {a b c : Expr} {wa wb wc : WE G} {op op' : CmpOp} {rr rr' : R2} {r r' : D2}
theorem de_chain (ho : OpR X (compareOp op) rr) (h1 : Op2 X 0 rr r) (ho' : OpR X (compareOp op') rr') (h2 : Op2 X n rr' r') (ha : DE X Z W M 0 a wa) (hb : DE X Z W M 0 b wb) (hc : DE X Z W M 0 c wc) (hm : lastMarks [op, op'] [b, c] = false := by with_unfolding_all rfl) :
    DE X Z W M n (.Compare a [op, op'] [b, c] pos) (wChain r r' wa wb wc) := by
  obtain ⟨ta, pa, ra⟩ := ha
  obtain ⟨tb, pb, rb⟩ := hb
  obtain ⟨tc, pc, rc⟩ := hc
  exact ⟨_, pe_chain ho ho' pa pb pc hm, fun R p q k x => chain_run h1 h2 ra rb rc R p q k x⟩
theorem dt_chain (ho : OpR X (compareOp op) rr) (h1 : Op2 X 0 rr r) (ho' : OpR X (compareOp op') rr') (h2 : Op2 X 0 rr' r') (ha : DE X Z W M 0 a wa) (hb : DE X Z W M 0 b wb) (hc : DE X Z W M 0 c wc) (hm : lastMarks [op, op'] [b, c] = false := by with_unfolding_all rfl) :
    DT X Z W M (.Compare a [op, op'] [b, c] pos) (wTest (wChain r r' wa wb wc)) := by
  obtain ⟨ta, pa, ra⟩ := ha
  obtain ⟨tb, pb, rb⟩ := hb
  obtain ⟨tc, pc, rc⟩ := hc
  refine ⟨_, pt_chain ho ho' pa pb pc hm, fun {Hs0 H0 Hs H σ env fp g Q Qd Ed} R p q k x => chain_run (m := 0) h1 h2 ra rb rc R p q (fun d g' v Hs' H' f e s o nd fr p' => ?_) x⟩
  obtain ⟨c, rfl, e⟩ := e
  have r := o.2
  cases r
  exact ⟨c, rfl, k c g' Hs' H' e s p'⟩
end
/-! ### int of a text; a list from its end -/
def intSD : D1
  | [.str z], q => ∃ i, PySem.intText? z = some i ∧ z.length ≤ 640 ∧ q (.int i)
  | _, _ => False
theorem cal_intS : Cal X n (fun xs H Q => ∃ a i, xs = [.str a] ∧ PySem.intText? a = some i ∧ a.length ≤ 640 ∧ Q (.int i) H) intSD := by
  intro Hs H vs ds Q q s hr r k
  unfold intSD at r
  split at r
  · obtain ⟨v, rfl, h⟩ := hr.one
    cases h
    obtain ⟨i, h1, h2, r⟩ := r
    exact ⟨_, i, rfl, h1, h2, k.scal s (d := .int _) rfl r⟩
  · exact r.elim
def wRev (w : WE G) : WE G := fun env g Q E => w env g (fun d g' => ∃ ds, d = .lst ds ∧ Q (.lst ds.reverse) g') E
theorem RpL.rev {K : PySem.W.Frag} {H : Hp} : ∀ {vs : List V} {ds : List Dt}, RpL K H vs ds → RpL K H vs.reverse ds.reverse
  | _, _, .nil => .nil
  | _, _, .cons h r => by
    rw [List.reverse_cons, List.reverse_cons]
    exact (RpL.rev r).append (.cons h .nil)
theorem de_rev {k : Nat} (he : DE X Z W M 0 e w) : DE X Z W M 1 (.Subscript e (.Slice none none (some (.UnaryOp .USub (.Constant (.int 1) k p1) p2)) p3) pos) (wRev w) := by
  obtain ⟨t, pe, r⟩ := he
  refine ⟨_, pe_revL pe, fun {Hs0 H0 Hs H σ env fp g Q Qd Ed} R p q k x => r R p q (fun d g' v Hs1 H1 f e1 s1 o1 _ _ q1 => ?_) x⟩
  obtain ⟨ds, rfl, e1⟩ := e1
  obtain ⟨c, xs, rfl, hc, rx⟩ := o1.2.seq s1.s4
  exact ⟨c, xs, rfl, SqL.of hc, fun y hy => (k.pure s1 q1).newL s1.s4 hy rx.rev e1⟩
/-! ### a try whose suite raises nothing -/
def wTry (w : WS G) : WS G := fun D env g => w { D with ex := fun _ _ _ _ => False } env g
theorem ds_try {body : List Stmt} {h0 : ExceptHandler} {hs : List ExceptHandler} {wb : WS G} (hb : DB X.nox Z W0 M nr body wb) : DS X Z W M nr (.Try body (h0 :: hs) [] [] pos) (wTry wb) := by
  obtain ⟨t, pb, r⟩ := hb
  exact ⟨_, ps_try_thru0 pb, fun R p q k => r R p q ⟨fun q R p => k.nx q R p, fun q R p => k.bk q R p, fun q R p => k.ct q R p, fun q s o nd fr p => k.rt q s o nd fr p, fun q _ _ _ _ _ => q.elim⟩⟩
/-! ### what a def returns: an own name may go out -/
def DR (X : Cx) (Z : Vo G) (W : WX) (M : Nat → Nat) (nr : Nat) (e : Expr) (w : WE G) : Prop :=
  ∃ t, PE X e t ∧ ∀ {Hs0 H0 Hs H : Hp} {σ : St} {env : Env} {fp : Nat → List Addr} {g : G} {Q : VK} {Qd : KD G} {Ed : XD G},
    SR X.K M Z.vol Hs0 H0 Hs H σ env fp → Z.P g H → w env g Qd Ed →
    (∀ d g v Hs' H' f, Qd d g → Step Z.vol Hs0 H0 Hs' H' → Own X.K Hs' H' nr v d f → f.Nodup → (∀ b ∈ f, H0 b = none) → Z.P g H' → Q v H') → GoX Z W Hs H σ Ed → t σ H Q
theorem dr_of (I : List Nat) (h : DE X Z W (thaw M I) nr e w) : DR X Z W M nr e w := by
  obtain ⟨t, pe, r⟩ := h
  refine ⟨t, pe, fun {Hs0 H0 Hs H σ env fp g Q Qd Ed} R p q k x => ?_⟩
  have hF : ∀ b ∈ cellsOf fp I, Hs b = none := fun b hb => let ⟨j, _, h⟩ := List.mem_flatMap.mp hb; (R.ct j b h).1
  exact r (R.freeze I) p q (fun d g' v Hs' H' f e s o nd fr p' => k d g' v Hs' H' f e ((R.freeze I).st.trans s) o nd (fun b hb => fresh_of R.st (fr b hb)) p') fun c d g' v y Hs' H' e s hy hx sc p' => x c d g' v y Hs H' e (frz_back R.hs hF s) hy (hx.back ((frz_same hF).trans s.s1)) sc p'
theorem dr_var (i : Nat) (hm : M i = nr := by rfl) (hN : X.N[i]? = some x := by rfl) (hv : Vis X.env.scope x := by first | exact Or.inl rfl | exact Or.inr (Or.inl rfl) | exact Or.inr (Or.inr rfl))
    (hd : (x == ("__debug__" : Str)) = false := by decide) (hcd : (x == ("__classdict__" : Str)) = false := by decide) : DR X Z W M nr (.Name x pos) (wVar i) :=
  ⟨_, pe_var hN hv hd hcd, fun {Hs0 H0 Hs H σ env fp g Q Qd Ed} R p q k _ => by
    obtain ⟨d, q1, q2⟩ := q
    obtain ⟨v, e1, o⟩ := R.at' i d q1
    rw [hm] at o
    exact ⟨v, e1, k d g v Hs H (fp i) q2 R.st o (R.nd i) (R.nw i) p⟩⟩
theorem dr_if {c a b : Expr} {wc : WT G} {wa wb : WE G} (hc : DT X Z W M c wc) (ha : DR X Z W M nr a wa) (hb : DR X Z W M nr b wb) : DR X Z W M nr (.IfExp c a b pos) (wIf wc wa wb) := by
  obtain ⟨tc, pc, rc⟩ := hc
  obtain ⟨ta, pa, ra⟩ := ha
  obtain ⟨tb, pb, rb⟩ := hb
  refine ⟨_, pe_ifExp pc pa pb, fun {Hs0 H0 Hs H σ env fp g Q Qd Ed} R p q k x => rc R p q (fun z g1 Hs1 H1 e1 s1 q1 => ?_) x⟩
  cases z with
  | true =>
    rw [if_pos rfl]
    exact ra (R.step s1) q1 (e1.1 rfl) k (x.step s1)
  | false =>
    rw [if_neg (by decide)]
    exact rb (R.step s1) q1 (e1.2 rfl) k (x.step s1)
theorem ds_retR (he : DR X Z W M nr e w) : DS X Z W M nr (.Return (some e) pos) (wRet w) := by
  obtain ⟨t, pe, r⟩ := he
  exact ⟨_, ps_ret pe, fun R p q k => r R p q (fun d g' v Hs' H' f e s o nd fr p' => k.rt e s o nd fr p') (k.gox R)⟩
end
end Vl

/-! Vl15: names that hand their lists on; None among things. -/
namespace Vl
open PySem PySem.Spec L2
section
variable {G : Type} {X : Cx} {Z : Vo G} {W : WX} {M : Nat → Nat} {n nr : Nat}
variable {e : Expr} {es : List Expr} {w : WE G} {pos : Pos} {x y : Str} {p1 p2 p3 : Pos}
theorem SR.drop {K : PySem.W.Frag} {vol : List Addr} {Hs0 H0 Hs H : Hp} {σ : St} {env : Env} {fp : Nat → List Addr} (R : SR K M vol Hs0 H0 Hs H σ env fp) (j : Nat) : SR K M vol Hs0 H0 Hs H σ (env.set j none) (setf fp j []) where
  st := R.st
  at' := fun i d e => by
    obtain ⟨hj, e'⟩ := set_none e
    rw [setf_ne hj]
    exact R.at' i d e'
  nd := fun i => by
    by_cases hj : i = j
    · subst hj; rw [setf_same]; exact List.nodup_nil
    · rw [setf_ne hj]; exact R.nd i
  dj := fun i k b h1 h2 => by
    by_cases hi : i = j
    · subst hi; rw [setf_same] at h1; cases h1
    · by_cases hk : k = j
      · subst hk; rw [setf_same] at h2; cases h2
      · rw [setf_ne hi] at h1
        rw [setf_ne hk] at h2
        exact R.dj i k b h1 h2
  nw := fun i b hb => by
    by_cases hj : i = j
    · subst hj; rw [setf_same] at hb; cases hb
    · rw [setf_ne hj] at hb; exact R.nw i b hb
  ct := fun i b hb => by
    by_cases hj : i = j
    · subst hj; rw [setf_same] at hb; cases hb
    · rw [setf_ne hj] at hb; exact R.ct i b hb
  hv := R.hv
  len := by rw [List.length_set]; exact R.len
/-- x = y: what y owns is frozen, and y is not asked again before it is set anew -/
def wMvF (i j : Nat) : WS G := fun D env g => ∃ d, env[j]? = some (some d) ∧ D.nx ((env.set j none).set i (some d)) g
theorem ds_mvF (i j : Nat) (hN : X.N.Nodup) (hij : i ≠ j := by decide) (hm : M i = 0 := by rfl) (hi : X.N[i]? = some x := by rfl) (hj : X.N[j]? = some y := by rfl) (hx : Loc X.env.scope x := by first | exact Or.inl rfl | exact Or.inr rfl) (hv : Vis X.env.scope y := by first | exact Or.inl rfl | exact Or.inr (Or.inl rfl) | exact Or.inr (Or.inr rfl))
    (hd : (y == ("__debug__" : Str)) = false := by decide) (hcd : (y == ("__classdict__" : Str)) = false := by decide)
    (hs : swapsWith (.Name y p2) (some (.Name x p1)) pos.line X.env = pure false := by rfl) (hf : X.fn x = true ∨ X.env.scope.names.lookup x = some .local := by first | exact .inl rfl | exact .inr rfl | assumption) : DS X Z W M nr (.Assign [.Name x p1] (.Name y p2) pos) (wMvF i j) := by
  refine ⟨_, ps_set hN hi hx (pe_var hj hv hd hcd) hs hf, fun {Hs0 H0 Hs H σ env fp g D Dd} R p q k => ?_⟩
  obtain ⟨d, he, q⟩ := q
  obtain ⟨v, hσ, o⟩ := R.at' j d he
  refine ⟨v, hσ, ?_⟩
  have R1 := (R.freeze [j]).drop j
  have hF : ∀ b ∈ cellsOf fp [j], Hs b = none := fun b hb => let ⟨l, _, h⟩ := List.mem_flatMap.mp hb; (R.ct l b h).1
  have rv : Rp X.K (frz Hs H (cellsOf fp [j])) v d := o.frozen hF fun b hb => List.mem_flatMap.mpr ⟨j, by simp, hb⟩
  have R2 := R1.remode (M' := M) fun l dl hl => by
    have := (set_none hl).1
    unfold thaw
    rw [if_neg (by simpa using this)]
  exact k.nx q (R2.setP hm rv) p
/-- x = y: y hands its list on -/
def wMv (i j : Nat) : WS G := fun D env g => ∃ d, env[j]? = some (some d) ∧ D.nx ((env.set j none).set i (some d)) g
theorem ds_mv (i j : Nat) (hN : X.N.Nodup) (hij : i ≠ j := by decide) (hm : M i = M j := by rfl) (hi : X.N[i]? = some x := by rfl) (hj : X.N[j]? = some y := by rfl) (hx : Loc X.env.scope x := by first | exact Or.inl rfl | exact Or.inr rfl) (hv : Vis X.env.scope y := by first | exact Or.inl rfl | exact Or.inr (Or.inl rfl) | exact Or.inr (Or.inr rfl))
    (hd : (y == ("__debug__" : Str)) = false := by decide) (hcd : (y == ("__classdict__" : Str)) = false := by decide)
    (hs : swapsWith (.Name y p2) (some (.Name x p1)) pos.line X.env = pure false := by rfl) (hf : X.fn x = true ∨ X.env.scope.names.lookup x = some .local := by first | exact .inl rfl | exact .inr rfl | assumption) : DS X Z W M nr (.Assign [.Name x p1] (.Name y p2) pos) (wMv i j) := by
  refine ⟨_, ps_set hN hi hx (pe_var hj hv hd hcd) hs hf, fun {Hs0 H0 Hs H σ env fp g D Dd} R p q k => ?_⟩
  obtain ⟨d, he, q⟩ := q
  obtain ⟨v, hσ, o⟩ := R.at' j d he
  refine ⟨v, hσ, k.nx q ((R.drop j).set (by rw [hm]; exact o) (R.nd j) (R.nw j) fun l _ b hb z => ?_) p⟩
  by_cases hl : l = j
  · subst hl; rw [setf_same] at z; cases z
  · rw [setf_ne hl] at z
    exact hl (R.dj l j b z hb)
/-- None in a list of numbers and None -/
def optD : Option Int → Dt
  | none => .non
  | some i => .int i
def inNon (neg : Bool) : D2 := fun d e q => d = .non ∧ ∃ os : List (Option Int), e = .lst (os.map optD) ∧ q (.bl (if neg then !os.any (·.isNone) else os.any (·.isNone)))
theorem RpL.opts {K : PySem.W.Frag} {H : Hp} : ∀ {os : List (Option Int)} {vs : List V}, RpL K H vs (os.map optD) → vs.all flatV = true ∧ inV .non vs = os.any (·.isNone)
  | [], _, .nil => ⟨rfl, rfl⟩
  | o :: os, _, .cons h r => by
    rename_i v vs
    obtain ⟨h1, h2⟩ := RpL.opts r
    cases o with
    | none =>
      have h' : Rp K H _ .non := h
      cases h'
      refine ⟨by rw [List.all_cons, h1]; rfl, ?_⟩
      show (eqV .non .non || inV .non vs) = _
      rfl
    | some i =>
      have h' : Rp K H _ (.int i) := h
      cases h'
      refine ⟨by rw [List.all_cons, h1]; rfl, ?_⟩
      show (eqV (.int i) .non || inV .non vs) = _
      rw [h2]
      rfl
theorem inNon_core {neg : Bool} {Hs H : Hp} {x y : V} {d e : Dt} {Q : VK} {q : Dt → Prop} (s : Same Hs H) (hx : Rp X.K Hs x d) (hy : Rp X.K Hs y e) (r : inNon neg d e q) (k : GoP X.K n Hs H Q q) : rIn X.K neg x y H Q := by
  obtain ⟨rfl, os, rfl, r⟩ := r
  cases hx
  obtain ⟨a, xs, rfl, ha, rx⟩ := hy.seq s
  obtain ⟨h1, h2⟩ := rx.opts
  refine ⟨a, xs, rfl, .inl (SqL.of ha), rfl, h1, ?_⟩
  rw [h2]
  exact k.scal s (d := .bl _) rfl r
theorem op2_inNon {n : Nat} : Op2 X n (rIn X.K false) (inNon false) := fun s hx hy r k => inNon_core s hx hy r k
section
variable {elt tg iter tg1 iter1 : Expr} {ifs ifs1 : List Expr} {scope : Scope} {own : List (Str × Nat)} {vs1 : List Nat} {spos : Pos} {is is1 : List Nat} {wi wi1 : WI G} {b b1 : WB} {wt wt1 : WT G} {we : WE G}
/-- the end of such a store: what the name had is frozen -/
theorem fz_end {i : Nat} {te : TE} {w : WE G} {s : Stmt} (h : PS X s (tAsg te (gName i)))
    (r : ∀ {Hs0 H0 Hs H : Hp} {σ : St} {env : Env} {fp : Nat → List Addr} {g : G} {Q : VK} {Qd : KD G} {Ed : XD G}, SR X.K (thaw M [i]) Z.vol Hs0 H0 Hs H σ env fp → Z.P g H → w env g Qd Ed → GoE X.K Z (M i) Hs H Q Qd → GoX Z W Hs H σ Ed → te σ H Q) : DS X Z W M nr s (wSet i w) := by
  refine ⟨_, h, fun {Hs0 H0 Hs H σ env fp g D Dd} R p q k => ?_⟩
  have hF : ∀ b ∈ cellsOf fp [i], Hs b = none := fun b hb => let ⟨j, _, h⟩ := List.mem_flatMap.mp hb; (R.ct j b h).1
  refine r (R.freeze [i]) p q (fun d g' v Hs' H' f e s o nd fr p' => ?_) fun c d g' v y Hs' H' e s hy hx sc p' => k.gox R c d g' v y Hs H' e (frz_back R.hs hF s) hy (hx.back ((frz_same hF).trans s.s1)) sc p'
  have R1 := ((R.freeze [i]).forget (M' := M) i fun j hj => by unfold thaw; rw [if_neg (by simpa using hj)]).setNew (Hb := Hs) s o nd fr
  rw [List.set_set] at R1
  exact k.nx e R1 p'
variable (own) in
theorem ds_setLcF (i : Nat) {py : Pos} (hc : X.calm = true) (hN : X.N.Nodup) (hi : DI X Z W (thaw M [i]) tg iter wi) (ok : BlkOk X.N X.env.scope scope own) (hg : ∀ j, DG (blkCx X scope j) (thaw M [i]) is tg b) (ht : ∀ j, DTs (blkCx X scope j) Z W0 (thaw M [i]) ifs wt)
    (he : ∀ j, DE (blkCx X scope j) Z W0 (thaw M [i]) n elt we) (hm : n + 1 = M i := by rfl) (hy : X.N[i]? = some y := by rfl) (hyl : X.env.scope.names.lookup y = some .local := by rfl)
    (hsw : swapsWith (.ListComp elt [⟨tg, iter, ifs, 0⟩] scope pos) (some (.Name y py)) spos.line X.env = pure true := by exact sw_true rfl rfl rfl (by decide +kernel)) (sub : ∀ i ∈ is, i ∈ own.map (·.2) := by decide)
    (hs : ∀ x, foldedSetIterable iter X.env x = pure x := by intro _; rfl) : DS X Z W M nr (.Assign [.Name y py] (.ListComp elt [⟨tg, iter, ifs, 0⟩] scope pos) spos) (wSet i (wLc (own.map (·.2)) wi b wt we)) := by
  obtain ⟨ti, gt, tt, te, p1, p2, p3, p4, r⟩ := lc_parts (own := own) hi hg ht he sub
  refine fz_end (ps_setLc hc hN hy hyl hsw p1 ok (fun s H C cl fp => p2 (s, H, C, cl, fp)) (fun s H C cl fp => p3 (s, H, C, cl, fp)) (fun s H C cl fp => p4 (s, H, C, cl, fp)) hs) ?_
  rw [← hm]
  exact r
variable (own vs1) in
theorem ds_setLc2F (i : Nat) {py : Pos} (hc : X.calm = true) (hN : X.N.Nodup) (hi : DI X Z W (thaw M [i]) tg iter wi) (ok : BlkOk X.N X.env.scope scope own) (hg : ∀ j, DG (blkCx X scope j) (thaw M [i]) is tg b) (ht : ∀ j, DTs (blkCx X scope j) Z W0 (thaw M [i]) ifs wt) (hi1 : ∀ j, DI (blkCx X scope j) Z W0 (thaw M [i]) tg1 iter1 wi1)
    (hg1 : ∀ j, DG (blkCx X scope j) (thaw M [i]) is1 tg1 b1) (ht1 : ∀ j, DTs (blkCx X scope j) Z W0 (thaw M [i]) ifs1 wt1) (he : ∀ j, DE (blkCx X scope j) Z W0 (thaw M [i]) n elt we) (hm : n + 1 = M i := by rfl) (hy : X.N[i]? = some y := by rfl) (hyl : X.env.scope.names.lookup y = some .local := by rfl)
    (hsw : swapsWith (.ListComp elt [⟨tg, iter, ifs, 0⟩, ⟨tg1, iter1, ifs1, 0⟩] scope pos) (some (.Name y py)) spos.line X.env = pure true := by exact sw_true rfl rfl rfl (by decide +kernel)) (sub : ∀ i ∈ is, i ∈ own.map (·.2) := by decide) (sub1 : ∀ i ∈ is1, i ∈ vs1 := by decide) (hv : ∀ i ∈ vs1, i ∈ own.map (·.2) := by decide)
    (hs : ∀ x, foldedSetIterable iter X.env x = pure x := by intro _; rfl) (hs1 : ∀ env x, foldedSetIterable iter1 env x = pure x := by intro _ _; rfl) : DS X Z W M nr (.Assign [.Name y py] (.ListComp elt [⟨tg, iter, ifs, 0⟩, ⟨tg1, iter1, ifs1, 0⟩] scope pos) spos) (wSet i (wLc2 (own.map (·.2)) vs1 wi b wt wi1 b1 wt1 we)) := by
  obtain ⟨ti, gt, tt, ti1, gt1, tt1, te, p1, p2, p3, p4, p5, p6, p7, r⟩ := lc2_parts (own := own) hi hg ht hi1 hg1 ht1 he sub sub1
  refine fz_end (ps_setLc2 hc hN hy hyl hsw p1 ok hv (fun s H C cl fp => p2 (s, H, C, cl, fp)) (fun s H C cl fp => p3 (s, H, C, cl, fp)) (fun s H C cl fp => p4 (s, H, C, cl, fp)) (fun s H C cl fp => p5 (s, H, C, cl, fp)) (fun s H C cl fp => p6 (s, H, C, cl, fp)) (fun s H C cl fp => p7 (s, H, C, cl, fp)) hs hs1) ?_
  rw [← hm]
  exact r
end
end
end Vl

/-! Vl16: own lists that are put into another one; loops over an own list that is given up. -/
namespace Vl
open PySem PySem.Spec L2
section
variable {G : Type} {X : Cx} {Z : Vo G} {W : WX} {M : Nat → Nat} {n nr : Nat}
def lcCatGo (jj : Nat) (b : WB) (w2 : WE G) (Q : List Dt → G → Prop) : List Dt → Env → G → List Dt → Prop
  | [], _, g, acc => Q acc g
  | d :: ds, env, g, acc => b env d fun env' => jj < env'.length ∧ w2 env' g (fun d1 g2 => ∃ ds1, d1 = .lst ds1 ∧ acc.length + ds1.length ≤ sizeLine ∧ lcCatGo jj b w2 Q ds env g2 (acc ++ ds1)) noX
/-- [y for x in .. for y in e], e a new list of own things -/
def wLcCat (vs : List Nat) (jj : Nat) (wi : WI G) (b : WB) (w2 : WE G) : WE G := fun env g Q E => wi env g (fun ds g1 => lcCatGo jj b w2 (fun rs g2 => Q (.lst rs) g2) ds (wipeE env vs) g1 []) E
theorem OwL.get {K : PySem.W.Frag} {Hs H : Hp} : ∀ {vs : List V} {ds : List Dt} {fs : List Addr} {j : Nat}, OwL (Own K Hs H n) vs ds fs → j < ds.length → ∃ (v : V) (d : Dt), vs.drop j = v :: vs.drop (j + 1) ∧ ds.drop j = d :: ds.drop (j + 1) ∧ vs[j]? = some v ∧ ds[j]? = some d
  | _, _, _, _, .nil, h => by simp at h
  | v :: vs, d :: ds, _, 0, .cons h r, _ => ⟨v, d, rfl, rfl, rfl, rfl⟩
  | v :: vs, d :: ds, _, j + 1, .cons h r, hl => by
    obtain ⟨v', d', e1, e2, e3, e4⟩ := OwL.get (j := j) r (by simpa using hl)
    exact ⟨v', d', e1, e2, e3, e4⟩
theorem cat_ref {K : PySem.W.Frag} {wi : TI} {gt : TG} {t2 : TE} {vs vs1 is : List Nat} {jj : Nat} {w1 : WI G} {w2 : WE G} {b : WB} (hjj : jj ∈ vs1)
    (hi : ∀ {Hs0 H0 Hs H : Hp} {σ : St} {env : Env} {fp : Nat → List Addr} {g : G} {R : It → Hp → Prop} {Qd : List Dt → G → Prop} {Ed : XD G}, SR K M Z.vol Hs0 H0 Hs H σ env fp → Z.P g H → w1 env g Qd Ed →
      (∀ ds g J Hs' H', Qd ds g → Step Z.vol Hs H Hs' H' → Wk K Hs' J ds → Z.P g H' → R J H') → GoX Z W Hs H σ Ed → wi σ H R)
    (hg : ∀ {vol : List Addr} {Hs0 H0 Hs H : Hp} {σ : St} {env : Env} {fp : Nat → List Addr} {v : V} {d : Dt} {Q : St → Hp → Prop} {Qd : Env → Prop}, SR K M vol Hs0 H0 Hs H σ env fp → Rp K Hs v d → b env d Qd →
      (∀ env' σ' fp', Qd env' → SR K M vol Hs0 H0 Hs H σ' env' fp' → (∀ vs, (∀ i ∈ is, i ∈ vs) → wipe σ' vs = wipe σ vs) → Q σ' H) → gt v σ H Q)
    (h2 : ∀ {Hs0 H0 Hs H : Hp} {σ : St} {env : Env} {fp : Nat → List Addr} {g : G} {Q : VK} {Qd : KD G} {Ed : XD G}, SR K M Z.vol Hs0 H0 Hs H σ env fp → Z.P g H → w2 env g Qd Ed → GoE K Z (n + 1) Hs H Q Qd → GoX Z W0 Hs H σ Ed → t2 σ H Q)
    (sub : ∀ i ∈ is, i ∈ vs) {Hs0 H0 Hs H : Hp} {σ : St} {env : Env} {fp : Nat → List Addr} {g : G} {Q : VK} {Qd : KD G} {Ed : XD G}
    (R : SR K M Z.vol Hs0 H0 Hs H σ env fp) (p : Z.P g H) (q : wLcCat vs jj w1 b w2 env g Qd Ed) (k : GoE K Z (n + 1) Hs H Q Qd) (x : GoX Z W Hs H σ Ed) : tLc2 wi gt tYes (iList K t2) (gName jj) tYes (tVar jj) vs vs1 σ H Q := by
  refine hi R p q (fun ds g1 J Hs1 H1 e1 s1 wk p1 => ?_) x
  intro D hD
  have hDs : Hs1 D = none := s1.s4.free hD
  have R1 : SR K M Z.vol Hs0 H0 Hs1 H1 (wipe σ vs) (wipeE env vs) fp := (R.step s1).wipe vs
  have noX' : ∀ {Hs H : Hp} {σ : St}, GoX Z W0 Hs H σ (noX : XD G) := fun {_ _ _} _ _ _ _ _ _ _ e _ _ _ _ _ => e.elim
  have hv : ∀ a, H1 a = none → a ∉ Z.vol := fun a ha z => (R1.st.s5 a (R1.hv a z).1) ha
  have h0 : ∀ a, H1 a = none → H0 a = none := fun a ha => fresh_of R1.st ha
  have hfpD : ∀ i, D ∉ fp i := fun i z => (R1.ct i D z).2 hD
  let Iv : Nat → Hp → Prop := fun i H' => ∃ Hs' g acc us fs, lcCatGo jj b w2 (fun rs g2 => Qd (.lst rs) g2) (ds.drop i) (wipeE env vs) g acc ∧ SR K M Z.vol Hs0 H0 Hs' H' (wipe σ vs) (wipeE env vs) fp ∧ Mk K Z n D Hs1 H1 Hs' H' g acc us fs
  have m0 : Mk K Z n D Hs1 H1 Hs1 (upd H1 D (.lst [])) g1 [] [] [] := ⟨Step.new s1.s4 hD, upd_same, hDs, .nil, List.nodup_nil, by simp, by simp, Z.pure p1 (Step.new s1.s4 hD)⟩
  refine ⟨fun i m H' => m = ds.length - i ∧ i ≤ ds.length ∧ Iv i H', ⟨ds.length, by simp, Nat.zero_le _, Hs1, g1, [], [], [], e1, R1.step m0.st, m0⟩, ?_⟩
  rintro i m H' ⟨rfl, hi', Hs', g', acc, us, fs, go, R2, mk⟩
  by_cases hlt : i < ds.length
  · refine .inr ⟨wk.go i Hs' H' hlt mk.st.s1 mk.st.s4, fun H3 => Iv (i + 1) H3, fun H3 h => ⟨ds.length - (i + 1), by omega, rfl, hlt, h⟩, fun v H3 y => ?_⟩
    obtain ⟨d, hd⟩ : ∃ d, ds[i]? = some d := ⟨ds[i], List.getElem?_eq_getElem hlt⟩
    obtain ⟨Hs3, s3, rv⟩ := wk.yl i Hs' H' v H3 d hd mk.st.s1 mk.st.s4 y
    rw [List.drop_eq_getElem_cons hlt] at go
    have hdd : ds[i] = d := by
      have := List.getElem?_eq_getElem hlt
      rw [hd] at this
      exact (Option.some.inj this).symm
    rw [hdd] at go
    have s3' := s3.mono (vol := Z.vol)
    have mk3 := mk.step hv hD s3' (Z.pure mk.p s3)
    refine hg ((R2.step s3').addD mk3.at' mk3.no hfpD) rv go fun env' σ' fp' go R3' hws => ⟨?_, ?_⟩
    · rw [hws vs sub, wipe_idem vs fun _ h => h]
    have R3 := R3'.dropD (h0 D hD) (hv D hD)
    simp only [tYes, if_true]
    obtain ⟨hlen, go⟩ := go
    have hlσ : jj < (wipe σ' vs1).length := by rw [wipe_length, ← R3.len]; exact hlen
    refine h2 R3 (Z.pure mk.p s3) go (fun d1 g5 v1 Hs5 H5 f5 e5 s5 o5 nd5 fr5 p5 => ?_) noX'
    obtain ⟨ds1, rfl, hz, e5⟩ := e5
    obtain ⟨c, us1, fs1, rfl, hcs, hc, ow1, hf⟩ := o5.node
    have s35 := s3'.trans s5
    have m5 := mk.step hv hD s35 p5
    have R5 := R2.step s35
    have nd1 : (c :: fs1).Nodup := by rw [← hf]; exact nd5
    have fr1 : ∀ b ∈ c :: fs1, H3 b = none := fun b hb => fr5 b (by rw [hf]; exact hb)
    have frb : ∀ b ∈ c :: fs1, H1 b = none := fun b hb => fresh_of (mk.st.trans s3') (fr1 b hb)
    have cD : c ≠ D := fun z => by
      have := fr1 c List.mem_cons_self
      rw [z, mk3.at'] at this; cases this
    have Dfs1 : D ∉ fs1 := fun z => by
      have := fr1 D (List.mem_cons_of_mem _ z)
      rw [mk3.at'] at this; cases this
    have dj : ∀ b ∈ c :: fs1, b ∉ fs := fun b hb z => (owl_cells mk3.ow b z).2 (fr1 b hb)
    have hlen1 := ow1.length
    refine ⟨c, rfl, ⟨us1, SqL.of hc⟩, ?_⟩
    -- the inner loop
    let Iv1 : Nat → Hp → Prop := fun j H' => ∃ f1 f2, fs1 = f1 ++ f2 ∧ Mk K Z n D Hs1 H1 Hs5 H' g5 (acc ++ ds1.take j) (us ++ us1.take j) (fs ++ f1) ∧ OwL (Own K Hs5 H' n) (us1.drop j) (ds1.drop j) f2 ∧ H' c = some (.lst us1) ∧
      SR K M Z.vol Hs0 H0 Hs5 H' (wipe σ vs) (wipeE env vs) fp
    refine ⟨fun j m H' => m = ds1.length - j ∧ j ≤ ds1.length ∧ Iv1 j H', ⟨ds1.length, by simp, Nat.zero_le _, [], fs1, rfl, by simpa using m5, by simpa using ow1, hc, R5⟩, ?_⟩
    rintro j m H6 ⟨rfl, hj, f1, f2, hff, m6, ow6, hc6, R6⟩
    by_cases hlj : j < ds1.length
    · obtain ⟨y1, d1, ey, ed, gy, gd⟩ := OwL.get ow1 hlj
      refine .inr ⟨⟨us1, y1, SqL.of hc6, gy⟩, fun H7 => Iv1 (j + 1) H7, fun H7 h => ⟨ds1.length - (j + 1), by omega, rfl, hlj, h⟩, fun z H7 yl => ?_⟩
      obtain ⟨eH, yl⟩ := yl
      subst eH
      have := yl us1 (SqL.of hc6)
      rw [gy] at this
      cases this
      refine ⟨?_, ?_⟩
      · rw [wipe_set hjj, wipe_idem vs1 fun _ h => h]
      simp only [tYes, if_true]
      refine ⟨y1, List.getElem?_set_self hlσ, ?_⟩
      rw [ey, ed] at ow6
      cases ow6 with
      | @cons _ _ fa _ _ fb ho hr =>
        have ef : fs1 = f1 ++ (fa ++ fb) := hff
        have fain : ∀ b ∈ fa, b ∈ fs1 := fun b hb => by rw [ef]; simp [hb]
        have fbin : ∀ b ∈ fb, b ∈ fs1 := fun b hb => by rw [ef]; simp [hb]
        have nd2 := (List.nodup_cons.mp nd1).2
        rw [ef, List.nodup_append] at nd2
        obtain ⟨n1, n2, n3⟩ := nd2
        rw [List.nodup_append] at n2
        have push := m6.push hv hD ho n2.1 (fun b hb => frb b (List.mem_cons_of_mem _ (fain b hb))) (fun b hb z => by
          rcases List.mem_append.mp z with z | z
          · exact dj b (List.mem_cons_of_mem _ (fain b hb)) z
          · exact n3 b z b (List.mem_append_left _ hb) rfl) fun z => Dfs1 (fain D z)
        refine ⟨us ++ us1.take j, m6.at', by rw [List.length_append, List.length_take, mk3.ow.length]; omega, f1 ++ fa, fb, by rw [ef, List.append_assoc], ?_, ?_, ?_, ?_⟩
        · have t1 : acc ++ ds1.take (j + 1) = (acc ++ ds1.take j) ++ [d1] := by rw [List.append_assoc, List.take_add_one, gd]; rfl
          have t2 : us ++ us1.take (j + 1) = (us ++ us1.take j) ++ [y1] := by rw [List.append_assoc, List.take_add_one, gy]; rfl
          have t3 : fs ++ (f1 ++ fa) = (fs ++ f1) ++ fa := by rw [List.append_assoc]
          rw [t1, t2, t3]
          exact push
        · exact hr.imp fun v d f q sb => q.move (Same.refl _) (fun b hb => upd_ne fun z => Dfs1 (fbin D (by rw [← z]; exact sb b hb))) fun _ _ e => e
        · rw [upd_ne cD]; exact hc6
        · exact R6.updD (h0 D hD) m6.no hfpD
    · have hj' : j = ds1.length := by omega
      subst hj'
      refine .inl ⟨⟨us1, SqL.of hc6, by rw [hlen1]; exact Nat.le_refl _⟩, ?_⟩
      rw [List.take_length, ← hlen1, List.take_length] at m6
      exact ⟨Hs5, g5, acc ++ ds1, us ++ us1, fs ++ f1, e5, R6, m6⟩
  · have hi'' : i = ds.length := by omega
    subst hi''
    rw [List.drop_length] at go
    refine .inl ⟨wk.stop _ Hs' H' (Nat.le_refl _) mk.st.s1 mk.st.s4, ?_⟩
    refine k (.lst acc) g' (.ref D) Hs' H' (D :: fs) go (s1.trans mk.st) (.inr ⟨D, us, acc, fs, rfl, mk.no, .inl ⟨mk.at', rfl⟩, mk.ow, rfl⟩) (List.nodup_cons.mpr ⟨mk.nD, mk.nd⟩) (fun b hb => ?_) mk.p
    rcases List.mem_cons.mp hb with rfl | hb
    · exact fresh_of s1 hD
    · exact fresh_of s1 (mk.fr b hb)
section
variable {tg iter iter1 : Expr} {scope : Scope} {own : List (Str × Nat)} {vs1 : List Nat} {pos spos p1 p2 py : Pos} {is : List Nat} {wi : WI G} {b : WB} {w2 : WE G} {y z : Str}
variable (own vs1) in
/-- name = [y for x in .. for y in e]; what the name had is frozen -/
theorem ds_setCatF (i jj : Nat) (hc : X.calm = true) (hN : X.N.Nodup) (hi : DI X Z W (thaw M [i]) tg iter wi) (ok : BlkOk X.N X.env.scope scope own) (hg : ∀ j, DG (blkCx X scope j) (thaw M [i]) is tg b) (h2 : ∀ j, DE (blkCx X scope j) Z W0 (thaw M [i]) (n + 1) iter1 w2)
    (hg1 : ∀ j, PG (blkCx X scope j) (.Name z p1) (gName jj)) (he : ∀ j, PE (blkCx X scope j) (.Name z p2) (tVar jj)) (hm : n + 1 = M i := by rfl) (hy : X.N[i]? = some y := by rfl) (hyl : X.env.scope.names.lookup y = some .local := by rfl)
    (hsw : swapsWith (.ListComp (.Name z p2) [⟨tg, iter, [], 0⟩, ⟨.Name z p1, iter1, [], 0⟩] scope pos) (some (.Name y py)) spos.line X.env = pure true := by exact sw_true rfl rfl rfl (by decide +kernel)) (sub : ∀ i ∈ is, i ∈ own.map (·.2) := by decide) (hv : ∀ i ∈ vs1, i ∈ own.map (·.2) := by decide) (hjj : jj ∈ vs1 := by decide)
    (hs : ∀ x, foldedSetIterable iter X.env x = pure x := by intro _; rfl) (hs1 : ∀ env x, foldedSetIterable iter1 env x = pure x := by intro _ _; rfl) : DS X Z W M nr (.Assign [.Name y py] (.ListComp (.Name z p2) [⟨tg, iter, [], 0⟩, ⟨.Name z p1, iter1, [], 0⟩] scope pos) spos) (wSet i (wLcCat (own.map (·.2)) jj wi b w2)) := by
  obtain ⟨ti, p1, r1⟩ := hi
  refine fz_end (ps_setLc2 (g := fun v σ H Q => ∀ j, (hg j).choose v σ H Q) (wi1 := iList X.K fun σ H Q => ∀ j, (h2 j).choose σ H Q) hc hN hy hyl hsw p1 ok hv (fun s H C cl fp => ?_) (fun s H C cl fp => pts_nil) (fun s H C cl fp => pi_list ?_) (fun s H C cl fp => hg1 (s, H, C, cl, fp)) (fun s H C cl fp => pts_nil) (fun s H C cl fp => he (s, H, C, cl, fp)) hs hs1) ?_
  · exact ⟨fun pins s' σ H' v u Q I r h => (hg (s, H, C, cl, fp)).choose_spec.1.run pins s' σ H' v u Q I r (h (s, H, C, cl, fp))⟩
  · exact ⟨fun pins s' σ H' Q I h => (h2 (s, H, C, cl, fp)).choose_spec.1.run pins s' σ H' Q I (h (s, H, C, cl, fp))⟩
  · rw [← hm]
    intro Hs0 H0 Hs H σ env fp g Q Qd Ed R p q k x
    exact cat_ref (K := X.K) hjj r1 (fun R rp q k j => (hg j).choose_spec.2 R rp q k) (fun R p q k x j => (h2 j).choose_spec.2 R p q k x) sub R p q k x
end
variable {e : Expr} {es : List Expr} {w : WE G} {pos : Pos} {x : Str} {p1 p2 p3 : Pos}
/-- x.extend(e), e a new list of own things -/
theorem ds_extO (i : Nat) (he : DE X Z W M (n + 1) e w) (hm : M i = n + 1 := by rfl) (hN : X.N[i]? = some x := by rfl) (hv : Vis X.env.scope x := by first | exact Or.inl rfl | exact Or.inr (Or.inl rfl) | exact Or.inr (Or.inr rfl))
    (hd : (x == ("__debug__" : Str)) = false := by decide) (hcd : (x == ("__classdict__" : Str)) = false := by decide) (hbase : attributeBase (.Name x p1) "extend" X.env (eval (.Name x p1) X.env) = eval (.Name x p1) X.env := by rfl)
    (hfew : ((backTo p3 (starEach [e] X.env)).all (fun x => !x.1) && (backToKw p3 (keywordEach [] X.env)).all (fun x => x.1.isSome) && decide ([e].length + ([] : List Keyword).length + (if ([] : List Keyword).isEmpty then 0 else 1) < 30)) = true := by rfl)
    (hline : (p2.endLine == p3.line) = true := by rfl) (hs : starEach [e] X.env = (false, eval e X.env) :: starEach [] X.env := by rfl)
    (hsw : swapsWith (.Call (.Attribute (.Name x p1) "extend" p2) [e] [] p3) none pos.line X.env = pure false := by rfl) :
    DS X Z W M nr (.Expr (.Call (.Attribute (.Name x p1) "extend" p2) [e] [] p3) pos) (wExt i w) := by
  obtain ⟨t, pe, r⟩ := he
  refine ⟨_, ps_expr (pe_bm PySem.F.plainAttrs_list PySem.F.slot_list_extend PySem.F.type_list_extend mt_extend (pe_var hN hv hd hcd) (pa_cons pe pa_nil hs) hbase hfew hline hs) hsw, fun {Hs0 H0 Hs H σ env fp g D Dd} R p q k => ?_⟩
  obtain ⟨ds, he, q⟩ := q
  obtain ⟨v, hσ, o⟩ := R.at' i _ he
  rw [hm] at o
  obtain ⟨c, vs, fs, rfl, hcs, hc, ow, hf⟩ := o.node
  refine ⟨.ref c, hσ, .inl ⟨rfl, _, SqL.of hc⟩, r R p q (fun d g' u Hs1 H1 f e1 s1 o1 nd1 fr1 q1 => ?_) (k.gox R)⟩
  obtain ⟨es, rfl, hl, e1⟩ := e1
  have R1 := R.step s1
  have cin : c ∈ fp i := by rw [hf]; exact List.mem_cons_self
  have hc1 : H1 c = some (.lst vs) := s1.s2 c _ hc (R.nvol cin)
  have nd0 : (c :: fs).Nodup := by rw [← hf]; exact R.nd i
  have fsin : ∀ b ∈ fs, b ∈ fp i := fun b hb => by rw [hf]; exact List.mem_cons_of_mem _ hb
  have ow1 := ow.step s1 fun b hb => R.nvol (fsin b hb)
  obtain ⟨a, zs, gs, rfl, has, ha, owz, hfa⟩ := o1.node
  have fdj : ∀ b ∈ f, ∀ j, b ∉ fp j := fun b hb j z => (R.ct j b z).2 (fr1 b hb)
  have gin : ∀ b ∈ gs, b ∈ f := fun b hb => by rw [hfa]; exact List.mem_cons_of_mem _ hb
  refine ⟨c, a, vs, zs, rfl, rfl, hc1, ha, by rw [ow.length, owz.length]; exact hl, ?_⟩
  refine k.nx e1 (own_put R1 hm hσ hf (ow1.append owz) ?_ (fun b hb => ?_) fun j hj b hb z => ?_) (Z_upd R1 cin q1)
  · rw [List.nodup_cons]
    refine ⟨fun z => ?_, ?_⟩
    · rcases List.mem_append.mp z with z | z
      · exact (List.nodup_cons.mp nd0).1 z
      · exact fdj c (gin c z) i cin
    · rw [List.nodup_append]
      rw [hfa] at nd1
      exact ⟨(List.nodup_cons.mp nd0).2, (List.nodup_cons.mp nd1).2, fun a ha b hb z => fdj b (gin b hb) i (by rw [← z]; exact fsin a ha)⟩
  · rcases List.mem_append.mp hb with y | y
    · exact R.nw i b (fsin b y)
    · exact fresh_of R.st (fr1 b (gin b y))
  · rcases List.mem_append.mp hb with y | y
    · exact hj (R.dj j i b z (fsin b y))
    · exact fdj b (gin b y) j z
/-- a statement before which what the names of I have is frozen; they are not asked again before they are set anew -/
def wGive (I : List Nat) (w : WS G) : WS G := fun D env g => w { nx := fun env' g' => D.nx (wipeE env' I) g', rt := D.rt, bk := fun env' g' => D.bk (wipeE env' I) g', ct := fun env' g' => D.ct (wipeE env' I) g', ex := fun c d env' g' => D.ex c d (wipeE env' I) g' } env g
theorem SR.giveBack {K : PySem.W.Frag} {vol : List Addr} {Hs0 H0 Hs H : Hp} {σ : St} {env : Env} {fp : Nat → List Addr} {I : List Nat} (R : SR K (thaw M I) vol Hs0 H0 Hs H σ env fp) : SR K M vol Hs0 H0 Hs H σ (wipeE env I) fp := by
  have no : ∀ (I : List Nat) (env : Env) (i : Nat) (d : Dt), (wipeE env I)[i]? = some (some d) → i ∉ I := by
    intro I
    induction I with
    | nil => intro env i d _ h; cases h
    | cons v I ih =>
      intro env i d h
      obtain ⟨h1, h2⟩ := set_none (env := wipeE env I) h
      intro hi
      rcases List.mem_cons.mp hi with rfl | hi
      · exact h1 rfl
      · exact ih env i d h2 hi
  exact (R.weak (env' := wipeE env I) (σ' := σ) (by rw [wipeE_len]; exact R.len) fun i d h => ⟨(wipeE_some (σ := σ) h).1, rfl⟩).remode fun i d h => by
    unfold thaw
    rw [if_neg (no I env i d h)]
theorem ds_give (I : List Nat) {s : Stmt} {ws : WS G} (h : DS X Z W (thaw M I) nr s ws) : DS X Z W M nr s (wGive I ws) := by
  obtain ⟨t, ps, r⟩ := h
  refine ⟨t, ps, fun {Hs0 H0 Hs H σ env fp g D Dd} R p q k => r (R.freeze I) p q ⟨fun e R p => k.nx e R.giveBack p, fun e R p => k.bk e R.giveBack p, fun e R p => k.ct e R.giveBack p, fun e s o nd fr p => k.rt e s o nd fr p, fun e R p hx sc h0 => k.ex e R.giveBack p hx sc h0⟩⟩
end
end Vl

/-! Vl17: loops over an own list that only look at it; loops that write its lists; own lists joined. -/
namespace Vl
open PySem PySem.Spec L2
section
variable {G : Type} {X : Cx} {Z : Vo G} {W : WX} {M : Nat → Nat} {n nr : Nat}
variable {e : Expr} {es : List Expr} {w : WE G} {pos p1 p2 p3 p4 p5 p6 : Pos} {x y z : Str}
/-- a list within an own list, and other things in it; the list that it stands in stays -/
theorem own_in2 {K : PySem.W.Frag} {vol : List Addr} {Hs0 H0 Hs H : Hp} {σ : St} {env : Env} {fp : Nat → List Addr} (R : SR K M vol Hs0 H0 Hs H σ env fp) {i j : Nat} {c : Addr} {vs : List V} {ds : List Dt} {fs : List Addr} (hm : M i = n + 2) (hσ : σ[i]? = some (some (.ref c)))
    (hf : fp i = c :: fs) (hc : H c = some (.lst vs)) (ow : OwL (Own K Hs H (n + 1)) vs ds fs) {es : List Dt} (hd : ds[j]? = some (.lst es)) :
    ∃ cu us fu, vs[j]? = some (.ref cu) ∧ cu ∈ fp i ∧ H cu = some (.lst us) ∧ OwL (Own K Hs H n) us es fu ∧ (cu :: fu).Nodup ∧ (∀ b ∈ fu, b ∈ fp i) ∧
    ∀ {us' : List V} {es' : List Dt} {gs : List Addr}, OwL (Own K Hs H n) us' es' gs → (cu :: gs).Nodup → (∀ b ∈ gs, b ∈ fu ∨ (H0 b = none ∧ ∀ l, b ∉ fp l)) →
      ∃ fs', SR K M vol Hs0 H0 Hs (upd H cu (.lst us')) σ (env.set i (some (.lst (ds.set j (.lst es'))))) (setf fp i (c :: fs')) ∧ OwL (Own K Hs (upd H cu (.lst us')) (n + 1)) vs (ds.set j (.lst es')) fs' ∧ upd H cu (.lst us') c = some (.lst vs) := by
  have cin : c ∈ fp i := by rw [hf]; exact List.mem_cons_self
  have nd0 : (c :: fs).Nodup := by rw [← hf]; exact R.nd i
  have fsin : ∀ b ∈ fs, b ∈ fp i := fun b hb => by rw [hf]; exact List.mem_cons_of_mem _ hb
  obtain ⟨u2, fu2, hu2, ou2, su2, ndu2, put⟩ := ow.pick (List.nodup_cons.mp nd0).2 hd
  obtain ⟨cu, us, fu, rfl, hus, hcu, owu, hfu⟩ := ou2.node
  have cuin2 : cu ∈ fu2 := by rw [hfu]; exact List.mem_cons_self
  have cufs : cu ∈ fs := su2 cu cuin2
  have cne : c ≠ cu := fun z => (List.nodup_cons.mp nd0).1 (by rw [z]; exact cufs)
  have fuin : ∀ b ∈ fu, b ∈ fs := fun b hb => su2 b (by rw [hfu]; exact List.mem_cons_of_mem _ hb)
  refine ⟨cu, us, fu, hu2, fsin cu cufs, hcu, owu, by rw [← hfu]; exact ndu2, fun b hb => fsin b (fuin b hb), fun {us' es' gs} inner nd fresh => ?_⟩
  have node : Own K Hs (upd H cu (.lst us')) (n + 1) (.ref cu) (.lst es') (cu :: gs) :=
    .inr ⟨cu, us', es', gs, rfl, hus, .inl ⟨upd_same, rfl⟩, inner.upd (List.nodup_cons.mp nd).1, rfl⟩
  obtain ⟨fs', ow3, nd3, sub3⟩ := put node nd (fun b hb nb => upd_ne fun z => nb (by rw [z]; exact cuin2)) fun b hb => by
    rcases List.mem_cons.mp hb with rfl | hb
    · exact .inl cuin2
    · rcases fresh b hb with z | z
      · exact .inl (by rw [hfu]; exact List.mem_cons_of_mem _ z)
      · exact .inr fun y => z.2 i (fsin b y)
  have sub4 : ∀ b ∈ fs', b ∈ fp i ∨ (H0 b = none ∧ ∀ l, b ∉ fp l) := fun b hb => by
    rcases sub3 b hb with z | z
    · exact .inl (fsin b z)
    · rcases List.mem_cons.mp z with rfl | z
      · exact .inl (fsin _ cufs)
      · rcases fresh b z with y | y
        · exact .inl (fsin b (fuin b y))
        · exact .inr y
  have cfs : c ∉ fs' := fun z => by
    rcases sub3 c z with y | y
    · exact (List.nodup_cons.mp nd0).1 y
    · rcases List.mem_cons.mp y with y | y
      · exact cne y
      · rcases fresh c y with q | q
        · exact (List.nodup_cons.mp nd0).1 (fuin c q)
        · exact q.2 i cin
  have hvs : vs.set j (.ref cu) = vs := by
    apply List.ext_getElem?
    intro m
    by_cases hmj : j = m
    · subst hmj
      have hl : j < vs.length := (List.getElem?_eq_some_iff.mp hu2).1
      rw [List.getElem?_set_self hl, hu2]
    · rw [List.getElem?_set_ne hmj]
  rw [hvs] at ow3
  have hcc : upd H cu (.lst us') c = some (.lst vs) := by rw [upd_ne cne]; exact hc
  refine ⟨fs', R.mut (i := i) (p := cu) (v := .ref c) (f := c :: fs') (fsin cu cufs) hσ ?_ (List.nodup_cons.mpr ⟨cfs, nd3⟩) ?_ ?_, ow3, hcc⟩
  · rw [hm]
    exact .inr ⟨c, vs, _, fs', rfl, (R.ct i c cin).1, .inl ⟨hcc, rfl⟩, ow3, rfl⟩
  · intro b hb
    rcases List.mem_cons.mp hb with rfl | hb
    · exact R.nw i _ cin
    · rcases sub4 b hb with q | q
      · exact R.nw i b q
      · exact q.1
  · intro jj hj b hb q
    rcases List.mem_cons.mp hb with rfl | hb
    · exact hj (R.dj jj i _ q cin)
    · rcases sub4 b hb with r | r
      · exact hj (R.dj jj i b q r)
      · exact r.2 jj q
/-- a name is given something that is not told -/
theorem SR.blind {K : PySem.W.Frag} {vol : List Addr} {Hs0 H0 Hs H : Hp} {σ : St} {env : Env} {fp : Nat → List Addr} (R : SR K M vol Hs0 H0 Hs H σ env fp) (j : Nat) (v : V) : SR K M vol Hs0 H0 Hs H (σ.set j (some v)) (env.set j none) fp :=
  R.weak (by rw [List.length_set, List.length_set]; exact R.len) fun i d h => by
    obtain ⟨hj, h'⟩ := set_none h
    exact ⟨h', List.getElem?_set_ne (Ne.symm hj)⟩
/-- for y in x: if c: return b -/
def forTGo (j : Nat) (wt : WT G) (b : Bool) (D : DEnds G) : List Dt → Env → G → Prop
  | [], env, g => D.nx env g
  | d :: ds, env, g => wt (env.set j (some d)) g (fun c g1 => (c = true → D.rt (.bl b) g1) ∧ (c = false → forTGo j wt b D ds (env.set j none) g1)) (fun c d g => D.ex c d (env.set j none) g)
def wForT (i j : Nat) (wt : WT G) (b : Bool) : WS G := fun D env g => ∃ ds, env[i]? = some (some (.lst ds)) ∧ forTGo j wt b D ds env g
theorem ds_forT (i j : Nat) {c : Expr} {wt : WT G} {b : Bool} {kk : Nat} {pif pret : Pos} (hp : PassesOwn (model X.prog X.w) X.A X.env X.xe) (hc : X.calm = true) (hN : X.N.Nodup) (ht : DT X Z W (thaw M [i]) c wt) (hnr : nr = 0 := by rfl) (hm : M i = n + 1 := by rfl) (hmj : M j = 0 := by rfl) (hij : i ≠ j := by decide) (hi : X.N[i]? = some x := by rfl) (hj : X.N[j]? = some y := by rfl)
    (hv : Vis X.env.scope x := by first | exact Or.inl rfl | exact Or.inr (Or.inl rfl) | exact Or.inr (Or.inr rfl)) (hx : Loc X.env.scope y := by first | exact Or.inl rfl | exact Or.inr rfl) (hf : X.fn y = true ∨ X.env.scope.names.lookup y = some .local := by first | exact .inl rfl | exact .inr rfl)
    (hd : (x == ("__debug__" : Str)) = false := by decide) (hcd : (x == ("__classdict__" : Str)) = false := by decide) (hs : ∀ z, foldedSetIterable (.Name x p1) X.env z = pure z := by intro _; rfl) :
    DS X Z W M nr (.For (.Name y p2) (.Name x p1) [.If c [.Return (some (.Constant (.bool b) kk p3)) pret] [] pif] [] pos) (wForT i j wt b) := by
  obtain ⟨tt, pt, rt⟩ := ht
  refine ⟨_, ps_for hp hc (pi_list (pe_var hi hv hd hcd)) (pg_name hN hj hx hf) (pss_one (ps_if pt (pss_one (ps_ret pe_bl)) pss_nil)) hs, fun {Hs0 H0 Hs H σ env fp g D Dd} R p q k => ?_⟩
  obtain ⟨ds, he, q⟩ := q
  obtain ⟨v, hσ, o⟩ := R.at' i _ he
  rw [hm] at o
  obtain ⟨cc, vs, fs, rfl, hcs, hcH, ow, hff⟩ := o.node
  have cin : cc ∈ fp i := by rw [hff]; exact List.mem_cons_self
  refine ⟨.ref cc, hσ, cc, rfl, ⟨vs, SqL.of hcH⟩, ?_⟩
  have hlen := ow.length
  let Iv : Nat → St → Hp → Prop := fun m σ' H' => ∃ Hs' env' g', SR X.K M Z.vol Hs0 H0 Hs' H' σ' env' fp ∧ Z.P g' H' ∧ H' cc = some (.lst vs) ∧ σ'[i]? = some (some (.ref cc)) ∧ env'[i]? = some (some (.lst ds)) ∧ forTGo j wt b Dd (ds.drop m) env' g'
  refine ⟨fun m l σ' H' => l = ds.length - m ∧ m ≤ ds.length ∧ Iv m σ' H', ⟨ds.length, by simp, Nat.zero_le _, Hs, env, g, R, p, hcH, hσ, he, q⟩, ?_⟩
  rintro m l σ' H' ⟨rfl, hml, Hs', env', g', R', p', hc', hσ', he', q'⟩
  by_cases hlt : m < ds.length
  · have hvm : m < vs.length := by omega
    refine .inr ⟨⟨vs, vs[m], SqL.of hc', List.getElem?_eq_getElem hvm⟩, fun σ2 H2 => Iv (m + 1) σ2 H2, fun σ2 H2 h => ⟨ds.length - (m + 1), by omega, rfl, hlt, h⟩, fun u H2 yl => ?_⟩
    obtain ⟨eH, yl⟩ := yl
    subst eH
    have hu := yl vs (SqL.of hc')
    rw [List.drop_eq_getElem_cons hlt] at q'
    -- the list is looked at, frozen
    have hF : ∀ b ∈ cellsOf fp [i], Hs' b = none := fun b hb => let ⟨l, _, h⟩ := List.mem_flatMap.mp hb; (R'.ct l b h).1
    have Rf := R'.freeze [i]
    obtain ⟨v2, hσ2, o2⟩ := R'.at' i _ he'
    rw [hσ'] at hσ2
    cases hσ2
    have rp := o2.frozen hF fun b hb => List.mem_flatMap.mpr ⟨i, by simp, hb⟩
    obtain ⟨ca, xs, ez, hca, rxs⟩ := rp.seq Rf.hs
    cases ez
    have hxv : xs = vs := by
      rw [hc'] at hca
      cases hca
      rfl
    subst hxv
    obtain ⟨v3, hv3, rv3⟩ := rxs.get (List.getElem?_eq_getElem hlt)
    rw [hu] at hv3
    cases hv3
    have Rs := Rf.setP (i := j) (by unfold thaw; split <;> simp_all) rv3
    have bk : ∀ {Hs3 H3}, Step Z.vol (frz Hs' H2 (cellsOf fp [i])) H2 Hs3 H3 → Step Z.vol Hs' H2 Hs' H3 := fun s => frz_back R'.hs hF s
    show tIfS tt _ _ _ _ _
    refine rt Rs p' q' (fun cb g3 Hs3 H3 e3 s3 p3 => ?_) fun c d g' v y Hs3 H3 e s hy hx sc p3 => ?_
    · have R3 := (R'.step (bk s3)).blind j u
      cases cb with
      | true =>
        show if true = true then _ else _
        rw [if_pos rfl]
        have hr : Dd.rt (.bl b) g3 := e3.1 rfl
        exact k.rt hr (R'.step (bk s3)).st (by rw [hnr]; exact ⟨rfl, .bl b⟩) List.nodup_nil (fun _ h => by cases h) p3
      | false =>
        show if false = true then _ else _
        rw [if_neg (by decide)]
        refine ⟨Hs', env'.set j none, g3, R3, p3, (bk s3).s2 cc _ hc' (R'.nvol cin), ?_, ?_, e3.2 rfl⟩
        · rw [List.getElem?_set_ne (Ne.symm hij)]; exact hσ'
        · rw [List.getElem?_set_ne (Ne.symm hij)]; exact he'
    · have R3 := (R'.step (bk s)).blind j u
      exact k.ex e R3 p3 (hx.back ((frz_same hF).trans s.s1)) sc (fresh_of R'.st hy)
  · have hi' : m = ds.length := by omega
    subst hi'
    rw [List.drop_length] at q'
    exact .inl ⟨⟨vs, SqL.of hc', by omega⟩, k.nx q' R' p'⟩
/-- for p, y in enumerate(x): y.append(e), x an own list of own lists -/
def forAppGo (i jp jr : Nat) (we : WE G) (D : DEnds G) : List Dt → List Dt → Env → G → Prop
  | _, [], env, g => D.nx env g
  | done, d :: ds, env, g => jr < env.length ∧ ∃ es, d = .lst es ∧ es.length < sizeLine ∧ we ((env.set jp (some (.int (done.length : Nat)))).set jr none) g (fun r g1 =>
      forAppGo i jp jr we D (done ++ [.lst (es ++ [r])]) ds (((env.set jp (some (.int (done.length : Nat)))).set jr none).set i (some (.lst (done ++ .lst (es ++ [r]) :: ds)))) g1) (exE D ((env.set jp (some (.int (done.length : Nat)))).set jr none))
def wForApp (i jp jr : Nat) (we : WE G) : WS G := fun D env g => ∃ ds, env[i]? = some (some (.lst ds)) ∧ forAppGo i jp jr we D [] ds env g
theorem ds_forApp (i jp jr : Nat) {kt : Nat} {pt pc pat pnm pcall : Pos} {we : WE G} (hp : PassesOwn (model X.prog X.w) X.A X.env X.xe) (hc : X.calm = true) (hN : X.N.Nodup) (hmE : X.mg "enumerate" = none) (he : DE X Z W M n e we) (hm : M i = n + 2 := by rfl) (hmp : M jp = 0 := by rfl) (hipr : i ≠ jp ∧ i ≠ jr ∧ jp ≠ jr := by decide)
    (hi : X.N[i]? = some x := by rfl) (hjp : X.N[jp]? = some y := by rfl) (hjr : X.N[jr]? = some z := by rfl) (hg : Gl X "enumerate" := by rfl)
    (hv : Vis X.env.scope x := by first | exact Or.inl rfl | exact Or.inr (Or.inl rfl) | exact Or.inr (Or.inr rfl)) (hvr : Vis X.env.scope z := by first | exact Or.inl rfl | exact Or.inr (Or.inl rfl) | exact Or.inr (Or.inr rfl)) (hxp : Loc X.env.scope y := by first | exact Or.inl rfl | exact Or.inr rfl) (hxr : Loc X.env.scope z := by first | exact Or.inl rfl | exact Or.inr rfl)
    (hfp : X.fn y = true ∨ X.env.scope.names.lookup y = some .local := by first | exact .inl rfl | exact .inr rfl) (hfr : X.fn z = true ∨ X.env.scope.names.lookup z = some .local := by first | exact .inl rfl | exact .inr rfl)
    (hd : (x == ("__debug__" : Str)) = false := by decide) (hcd : (x == ("__classdict__" : Str)) = false := by decide) (hd2 : (z == ("__debug__" : Str)) = false := by decide) (hcd2 : (z == ("__classdict__" : Str)) = false := by decide)
    (hs1 : starEach [.Name x p1] X.env = [(false, eval (.Name x p1) X.env)] := by rfl) (hs : ∀ u, foldedSetIterable (.Call (.Name "enumerate" p2) [.Name x p1] [] pc) X.env u = pure u := by intro _; rfl)
    (ht1 : (assignEach [.Name y p3, .Name z p4] X.env).map (·.2) = assign (.Name y p3) X.env :: (assignEach [.Name z p4] X.env).map (·.2) := by rfl) (ht2 : (assignEach [.Name z p4] X.env).map (·.2) = assign (.Name z p4) X.env :: (assignEach [] X.env).map (·.2) := by rfl)
    (hn : (assignEach [.Name y p3, .Name z p4] X.env).length = 2 := by rfl) (hst : (assignEach [.Name y p3, .Name z p4] X.env).findIdx? (·.1) = none := by rfl)
    (hbase : attributeBase (.Name z p5) "append" X.env (eval (.Name z p5) X.env) = eval (.Name z p5) X.env := by rfl)
    (hfew : ((backTo pcall (starEach [e] X.env)).all (fun x => !x.1) && (backToKw pcall (keywordEach [] X.env)).all (fun x => x.1.isSome) && decide ([e].length + ([] : List Keyword).length + (if ([] : List Keyword).isEmpty then 0 else 1) < 30)) = true := by rfl)
    (hline : (pat.endLine == pcall.line) = true := by rfl) (hse : starEach [e] X.env = (false, eval e X.env) :: starEach [] X.env := by rfl)
    (hsw : swapsWith (.Call (.Attribute (.Name z p5) "append" pat) [e] [] pcall) none pnm.line X.env = pure false := by rfl) :
    DS X Z W M nr (.For (.Tuple [.Name y p3, .Name z p4] kt pt) (.Call (.Name "enumerate" p2) [.Name x p1] [] pc) [.Expr (.Call (.Attribute (.Name z p5) "append" pat) [e] [] pcall) pnm] [] pos) (wForApp i jp jr we) := by
  obtain ⟨te, pe, re⟩ := he
  refine ⟨_, ps_for hp hc (pi_enum hg hmE (pa_cons (pe_var hi hv hd hcd) pa_nil hs1) hs1) (pg_tup hc (pgs_cons (pg_name hN hjp hxp hfp) (pgs_cons (pg_name hN hjr hxr hfr) pgs_nil ht2) ht1) hn hst)
    (pss_one (ps_expr (pe_bm PySem.F.plainAttrs_list PySem.F.slot_list_append PySem.F.type_list_append mt_append (pe_var hjr hvr hd2 hcd2) (pa_cons pe pa_nil hse) hbase hfew hline hse) hsw)) hs, fun {Hs0 H0 Hs H σ env fp g D Dd} R p q k => ?_⟩
  obtain ⟨ds0, he0, q⟩ := q
  obtain ⟨v, hσ, o⟩ := R.at' i _ he0
  rw [hm] at o
  obtain ⟨c, vs, fs, rfl, hcs, hcH, ow, hff⟩ := o.node
  refine ⟨.ref c, hσ, c, vs, rfl, SqL.of hcH, ?_⟩
  have hlen := ow.length
  let Iv : Nat → St → Hp → Prop := fun m σ' H' => ∃ Hs' env' fp' g' done rest fs', SR X.K M Z.vol Hs0 H0 Hs' H' σ' env' fp' ∧ Z.P g' H' ∧ H' c = some (.lst vs) ∧ σ'[i]? = some (some (.ref c)) ∧ env'[i]? = some (some (.lst (done ++ rest))) ∧ done.length = m ∧ done.length + rest.length = vs.length ∧
    fp' i = c :: fs' ∧ OwL (Own X.K Hs' H' (n + 1)) vs (done ++ rest) fs' ∧ forAppGo i jp jr we Dd done rest env' g'
  refine ⟨fun m l σ' H' => l = vs.length - m ∧ m ≤ vs.length ∧ Iv m σ' H', ⟨vs.length, by simp, Nat.zero_le _, Hs, env, fp, g, [], ds0, fs, R, p, hcH, hσ, he0, rfl, by simp [hlen], hff, ow, q⟩, ?_⟩
  rintro m l σ' H' ⟨rfl, hml, Hs', env', fp', g', done, rest, fs', R', p', hc', hσ', he', hdl, hrl, hf', ow', q'⟩
  cases rest with
  | nil =>
    refine .inl ⟨⟨vs, SqL.of hc', by simp at hrl; omega⟩, k.nx q' R' p'⟩
  | cons d rest =>
    rw [List.length_cons] at hrl
    have hvm : m < vs.length := by omega
    refine .inr ⟨⟨vs, vs[m], SqL.of hc', List.getElem?_eq_getElem hvm⟩, fun σ2 H2 => Iv (m + 1) σ2 H2, fun σ2 H2 h => ⟨vs.length - (m + 1), by omega, rfl, hvm, h⟩, fun u H2 yl => ?_⟩
    obtain ⟨T, u1, rfl, hT, eH, yl⟩ := yl
    have hu := yl vs (SqL.of hc')
    have sT : Step Z.vol Hs' H' Hs' H2 := by rw [eH]; exact Step.new R'.hs hT
    have hTs : H2 T = some (.tup [.int (m : Nat), u1]) := by rw [eH]; exact upd_same
    refine ⟨T, _, rfl, SqT.of hTs, rfl, .int (m : Nat), [u1], rfl, u1, [], rfl, rfl, ?_⟩
    have q2 : Z.P g' H2 := by rw [eH]; exact Z.pure p' (Step.new R'.hs hT)
    have R2 := ((R'.step sT).setP (i := jp) (v := .int (m : Nat)) (d := .int (m : Nat)) hmp (.int _)).blind jr u1
    have cin' : c ∈ fp' i := by rw [hf']; exact List.mem_cons_self
    have hfi : setf fp' jp [] i = c :: fs' := by rw [setf_ne hipr.1]; exact hf'
    have fsv : ∀ b ∈ fs', b ∉ Z.vol := fun b hb => R'.nvol (i := i) (by rw [hf']; exact List.mem_cons_of_mem _ hb)
    -- the list that is yielded
    have hd : (done ++ d :: rest)[m]? = some d := by rw [List.getElem?_append_right (by omega), hdl, Nat.sub_self]; rfl
    obtain ⟨hjl, es, rfl, hes, q'⟩ := q'
    have hsl : ((σ'.set jp (some (.int (m : Nat)))).set jr (some u1))[jr]? = some (some u1) :=
      List.getElem?_set_self (by rw [List.length_set, ← R'.len]; exact hjl)
    refine ⟨u1, hsl, ?_⟩
    have hc2 : H2 c = some (.lst vs) := sT.s2 c _ hc' (R'.nvol cin')
    have ow2 := ow'.step sT fsv
    have hσ2 : ((σ'.set jp (some (.int (m : Nat)))).set jr (some u1))[i]? = some (some (.ref c)) := by
      rw [List.getElem?_set_ne (Ne.symm hipr.2.1), List.getElem?_set_ne (Ne.symm hipr.1)]; exact hσ'
    obtain ⟨cu, us, fu, hvu, hcin, hcu, owu, ndu, fuin, _⟩ := own_in2 R2 hm hσ2 hfi hc2 ow2 hd
    rw [hu] at hvu
    cases hvu
    refine ⟨.inl ⟨rfl, _, SqL.of hcu⟩, re R2 q2 (by rw [hdl] at q'; exact q') (fun r g3 ur Hs3 H3 f e3 s3 o3 nd3 fr3 p3 => ?_) (by rw [← hdl]; exact k.gox (by rw [hdl]; exact R2))⟩
    have R3 := R2.step s3
    have cin2 : c ∈ setf fp' jp [] i := by rw [hfi]; exact List.mem_cons_self
    have hc3 : H3 c = some (.lst vs) := s3.s2 c _ hc2 (R2.nvol cin2)
    have ow3 := ow2.step s3 fsv
    obtain ⟨cu', us', fu', hvu', hcin', hcu', owu', ndu', fuin', put⟩ := own_in2 R3 hm hσ2 hfi hc3 ow3 hd
    rw [hu] at hvu'
    cases hvu'
    have fdj : ∀ b ∈ f, ∀ l, b ∉ setf fp' jp [] l := fun b hb l z => (R2.ct l b z).2 (fr3 b hb)
    have cuf : cu ∉ f := fun z => fdj cu z i hcin'
    have one := OwL.cons (R := Own X.K Hs3 H3 n) o3 OwL.nil
    have all := owu'.append one
    rw [List.append_nil] at all
    obtain ⟨fs2, R4, ow4, hc4⟩ := put all (by
      rw [List.nodup_cons]
      refine ⟨fun z => ?_, ?_⟩
      · rcases List.mem_append.mp z with z | z
        · exact (List.nodup_cons.mp ndu').1 z
        · exact cuf z
      · rw [List.nodup_append]
        exact ⟨(List.nodup_cons.mp ndu').2, nd3, fun a ha b hb z => fdj b hb i (by rw [← z]; exact fuin' a ha)⟩) fun b hb => by
      rcases List.mem_append.mp hb with z | z
      · exact .inl z
      · exact .inr ⟨fresh_of R2.st (fr3 b z), fdj b z⟩
    refine ⟨cu, us', ur, rfl, rfl, hcu', by rw [owu'.length]; exact hes, ?_⟩
    have eset : (done ++ Dt.lst es :: rest).set m (.lst (es ++ [r])) = (done ++ [.lst (es ++ [r])]) ++ rest := by
      rw [List.set_append_right _ _ (by omega), hdl, Nat.sub_self]
      simp
    rw [eset] at R4 ow4
    refine ⟨_, _, _, g3, done ++ [.lst (es ++ [r])], rest, fs2, R4, Z_upd R3 hcin' p3, hc4, hσ2, ?_, by simp [hdl], by simp; omega, by rw [setf_same], ow4, ?_⟩
    · refine List.getElem?_set_self ?_
      rw [List.length_set, List.length_set]
      exact (List.getElem?_eq_some_iff.mp he').1
    · have e4 : done ++ Dt.lst (es ++ [r]) :: rest = (done ++ [.lst (es ++ [r])]) ++ rest := by simp
      rw [← e4]
      exact e3
/-- for y in x: y.pop(), x an own list of own lists -/
def forPopGo (i jr : Nat) (D : DEnds G) : List Dt → List Dt → Env → G → Prop
  | _, [], env, g => D.nx env g
  | done, d :: ds, env, g => jr < env.length ∧ ∃ es, d = .lst es ∧ es ≠ [] ∧ forPopGo i jr D (done ++ [.lst es.dropLast]) ds ((env.set jr none).set i (some (.lst (done ++ .lst es.dropLast :: ds)))) g
def wForPop (i jr : Nat) : WS G := fun D env g => ∃ ds, env[i]? = some (some (.lst ds)) ∧ forPopGo i jr D [] ds env g
theorem ds_forPop (i jr : Nat) {pat pnm pcall : Pos} (hp : PassesOwn (model X.prog X.w) X.A X.env X.xe) (hc : X.calm = true) (hN : X.N.Nodup) (hm : M i = n + 2 := by rfl) (hir : i ≠ jr := by decide)
    (hi : X.N[i]? = some x := by rfl) (hjr : X.N[jr]? = some z := by rfl)
    (hv : Vis X.env.scope x := by first | exact Or.inl rfl | exact Or.inr (Or.inl rfl) | exact Or.inr (Or.inr rfl)) (hvr : Vis X.env.scope z := by first | exact Or.inl rfl | exact Or.inr (Or.inl rfl) | exact Or.inr (Or.inr rfl)) (hxr : Loc X.env.scope z := by first | exact Or.inl rfl | exact Or.inr rfl)
    (hfr : X.fn z = true ∨ X.env.scope.names.lookup z = some .local := by first | exact .inl rfl | exact .inr rfl)
    (hd : (x == ("__debug__" : Str)) = false := by decide) (hcd : (x == ("__classdict__" : Str)) = false := by decide) (hd2 : (z == ("__debug__" : Str)) = false := by decide) (hcd2 : (z == ("__classdict__" : Str)) = false := by decide)
    (hs : ∀ u, foldedSetIterable (.Name x p1) X.env u = pure u := by intro _; rfl)
    (hbase : attributeBase (.Name z p5) "pop" X.env (eval (.Name z p5) X.env) = eval (.Name z p5) X.env := by rfl) (hline : (pat.endLine == pcall.line) = true := by rfl)
    (hsw : swapsWith (.Call (.Attribute (.Name z p5) "pop" pat) [] [] pcall) none pnm.line X.env = pure false := by rfl) :
    DS X Z W M nr (.For (.Name z p4) (.Name x p1) [.Expr (.Call (.Attribute (.Name z p5) "pop" pat) [] [] pcall) pnm] [] pos) (wForPop i jr) := by
  refine ⟨_, ps_for hp hc (pi_list (pe_var hi hv hd hcd)) (pg_name hN hjr hxr hfr)
    (pss_one (ps_expr (pe_bm0 PySem.F.plainAttrs_list PySem.F.slot_list_pop PySem.F.type_list_pop mt_pop (pe_var hjr hvr hd2 hcd2) hbase hline) hsw)) hs, fun {Hs0 H0 Hs H σ env fp g D Dd} R p q k => ?_⟩
  obtain ⟨ds0, he0, q⟩ := q
  obtain ⟨v, hσ, o⟩ := R.at' i _ he0
  rw [hm] at o
  obtain ⟨c, vs, fs, rfl, hcs, hcH, ow, hff⟩ := o.node
  refine ⟨.ref c, hσ, c, rfl, ⟨vs, SqL.of hcH⟩, ?_⟩
  have hlen := ow.length
  let Iv : Nat → St → Hp → Prop := fun m σ' H' => ∃ Hs' env' fp' g' done rest fs', SR X.K M Z.vol Hs0 H0 Hs' H' σ' env' fp' ∧ Z.P g' H' ∧ H' c = some (.lst vs) ∧ σ'[i]? = some (some (.ref c)) ∧ env'[i]? = some (some (.lst (done ++ rest))) ∧ done.length = m ∧ done.length + rest.length = vs.length ∧
    fp' i = c :: fs' ∧ OwL (Own X.K Hs' H' (n + 1)) vs (done ++ rest) fs' ∧ forPopGo i jr Dd done rest env' g'
  refine ⟨fun m l σ' H' => l = vs.length - m ∧ m ≤ vs.length ∧ Iv m σ' H', ⟨vs.length, by simp, Nat.zero_le _, Hs, env, fp, g, [], ds0, fs, R, p, hcH, hσ, he0, rfl, by simp [hlen], hff, ow, q⟩, ?_⟩
  rintro m l σ' H' ⟨rfl, hml, Hs', env', fp', g', done, rest, fs', R', p', hc', hσ', he', hdl, hrl, hf', ow', q'⟩
  cases rest with
  | nil =>
    refine .inl ⟨⟨vs, SqL.of hc', by simp at hrl; omega⟩, k.nx q' R' p'⟩
  | cons d rest =>
    rw [List.length_cons] at hrl
    have hvm : m < vs.length := by omega
    refine .inr ⟨⟨vs, vs[m], SqL.of hc', List.getElem?_eq_getElem hvm⟩, fun σ2 H2 => Iv (m + 1) σ2 H2, fun σ2 H2 h => ⟨vs.length - (m + 1), by omega, rfl, hvm, h⟩, fun u H2 yl => ?_⟩
    obtain ⟨eH, yl⟩ := yl
    subst eH
    have hu := yl vs (SqL.of hc')
    have R2 := R'.blind jr u
    have hd : (done ++ d :: rest)[m]? = some d := by rw [List.getElem?_append_right (by omega), hdl, Nat.sub_self]; rfl
    obtain ⟨hjl, es, rfl, hes, q'⟩ := q'
    have hsl : (σ'.set jr (some u))[jr]? = some (some u) := List.getElem?_set_self (by rw [← R'.len]; exact hjl)
    have hσ2 : (σ'.set jr (some u))[i]? = some (some (.ref c)) := by rw [List.getElem?_set_ne (Ne.symm hir)]; exact hσ'
    obtain ⟨cu, us, fu, hvu, hcin, hcu, owu, ndu, fuin, put⟩ := own_in2 R2 hm hσ2 hf' hc' ow' hd
    rw [hu] at hvu
    cases hvu
    refine ⟨.ref cu, hsl, .inl ⟨rfl, _, SqL.of hcu⟩, ?_⟩
    have hul : us.length = es.length := owu.length
    have hup : 0 < us.length := by rw [hul]; exact List.length_pos_iff.mpr hes
    obtain ⟨f1, f2, r1, r2, ef⟩ := owu.split (us.length - 1)
    have e1 : us.take (us.length - 1) = us.dropLast := (List.dropLast_eq_take (l := us)).symm
    have e2 : es.take (us.length - 1) = es.dropLast := by rw [hul]; exact (List.dropLast_eq_take (l := es)).symm
    rw [e1, e2] at r1
    obtain ⟨fs2, R4, ow4, hc4⟩ := put r1 (by
      rw [List.nodup_cons] at ndu ⊢
      rw [ef] at ndu
      exact ⟨fun z => ndu.1 (List.mem_append_left _ z), (List.nodup_append.mp ndu.2).1⟩) fun b hb => .inl (by rw [ef]; exact List.mem_append_left _ hb)
    refine ⟨cu, us, us[us.length - 1]'(by omega), rfl, rfl, hcu, List.getElem?_eq_getElem (by omega), ?_⟩
    have eset : (done ++ Dt.lst es :: rest).set m (.lst es.dropLast) = (done ++ [.lst es.dropLast]) ++ rest := by
      rw [List.set_append_right _ _ (by omega), hdl, Nat.sub_self]
      simp
    rw [eset] at R4 ow4
    refine ⟨_, _, _, g', done ++ [.lst es.dropLast], rest, fs2, R4, Z_upd R2 hcin p', hc4, hσ2, ?_, by simp [hdl], by simp; omega, by rw [setf_same], ow4, ?_⟩
    · refine List.getElem?_set_self ?_
      rw [List.length_set]
      exact (List.getElem?_eq_some_iff.mp he').1
    · have e4 : done ++ Dt.lst es.dropLast :: rest = (done ++ [.lst es.dropLast]) ++ rest := by simp
      rw [← e4]
      exact q'
/-- a + b, new own lists -/
def wAddO (wa wb : WE G) : WE G := fun env g Q E => wa env g (fun d g1 => wb env g1 (fun e g2 => ∃ ds es, d = .lst ds ∧ e = .lst es ∧ ds.length + es.length ≤ sizeLine ∧ Q (.lst (ds ++ es)) g2) E) E
theorem de_addO {a b : Expr} {wa wb : WE G} (ha : DE X Z W M (n + 1) a wa) (hb : DE X Z W M (n + 1) b wb) : DE X Z W M (n + 1) (.BinOp a .Add b pos) (wAddO wa wb) := by
  obtain ⟨ta, pa, ra⟩ := ha
  obtain ⟨tb, pb, rb⟩ := hb
  refine ⟨_, pe_op op_addA pa pb, fun {Hs0 H0 Hs H σ env fp g Q Qd Ed} R p q k x => ra R p q (fun d g1 v Hs1 H1 f1 e1 s1 o1 nd1 fr1 p1 => ?_) x⟩
  refine rb (R.step s1) p1 e1 (fun d2 g2 u Hs2 H2 f2 e2 s2 o2 nd2 fr2 p2 => ?_) (x.step s1)
  obtain ⟨ds, es, rfl, rfl, hl, e2⟩ := e2
  have hv1 : ∀ b ∈ f1, b ∉ Z.vol := fun b hb z => (R.st.s5 b (R.hv b z).1) (fr1 b hb)
  obtain ⟨c1, vs, fs, rfl, hc1s, hc1, ow1, hf1⟩ := (o1.step s2 hv1).node
  obtain ⟨c2, us, gs, rfl, hc2s, hc2, ow2, hf2⟩ := o2.node
  refine .inr (.inr ⟨c1, c2, vs, us, rfl, rfl, hc1, hc2, by rw [ow1.length, ow2.length]; exact hl, fun pN hpN => ?_⟩)
  have fr2' : ∀ b ∈ f2, H b = none := fun b hb => fresh_of s1 (fr2 b hb)
  refine newCell k (s1.trans s2) (ow1.append ow2) ?_ (fun b hb => ?_) p2 hpN (fun b hb => ?_) (.inl ⟨upd_same, rfl⟩) e2
  · rw [hf1] at nd1
    rw [hf2] at nd2
    rw [List.nodup_append]
    refine ⟨(List.nodup_cons.mp nd1).2, (List.nodup_cons.mp nd2).2, fun a ha b hb e => ?_⟩
    subst e
    exact (o1.cells a (by rw [hf1]; exact List.mem_cons_of_mem _ ha)).2 (fr2 a (by rw [hf2]; exact List.mem_cons_of_mem _ hb))
  · rcases List.mem_append.mp hb with z | z
    · exact fr1 b (by rw [hf1]; exact List.mem_cons_of_mem _ z)
    · exact fr2' b (by rw [hf2]; exact List.mem_cons_of_mem _ z)
  · rcases List.mem_append.mp hb with z | z
    · exact (owl_cells ow1 b z).2
    · exact (owl_cells ow2 b z).2
end
end Vl

/-! Vl18: the __init__ of an own exception class that calls super().__init__(text) and keeps a value. -/
namespace Vl
open PySem PySem.Spec L2 PySem.W PyProof.Rows
section
variable {P : Program} {w : World} {K : PySem.W.Frag} {mg : Str → Option Value} {base : Heap} {CX : CXT}
/-- the __init__ of the class at C: text for ValueError, the value kept -/
def spI (K : PySem.W.Frag) (C : Addr) : Sp := fun vs H Q _ => ∃ a v, vs = [.ref a, v] ∧ H a = some (exo a C none) ∧ ∀ dx, H dx = none → dx ≠ a → Q .non (upd (upd H dx (exd dx [("value", v)])) a (exo a C (some dx)))
/-- its context -/
def cxI (CX : CXT) (P : Program) (w : World) (K : PySem.W.Frag) (mg : Str → Option Value) (base : Heap) (N : List Str) (qual : Str) (scope : Scope) (f : Addr) (cd : Value) (cc : Addr) (A : Around) (outer : List PySem.Env) (s : Shared) (H : Hp) (E : XK) (cm : Bool) (pn : List (Addr × Obj)) : Cx where
  prog := P
  w := w
  K := K
  mg := mg
  base := base
  A := A.deeper (ksEnv qual scope s.heap.objs.size f cd cc)
  N := N
  s_0 := s
  H_0 := H
  env := ksEnv qual scope s.heap.objs.size f cd cc
  outer := outer
  stack := ksEnv qual scope s.heap.objs.size f cd cc :: outer
  ex := []
  calm := cm
  fn := fun _ => false
  pn := pn
  xe := fun e s' => wpAny (model P w) (A.deeper (ksEnv qual scope s.heap.objs.size f cd cc)) (leaving (ksEnv qual scope s.heap.objs.size f cd cc) e) (fun _ s'' => CX outer H s E e s'') (fun e' s'' => CX outer H s E e' s'') s'
structure ScI (sc : Scope) : Prop where
  kind : sc.kind = .function
  co : sc.isCoroutine = false
  gen : sc.isGenerator = false
  self : sc.names.lookup ("self" : Str) = some .local
  value : sc.names.lookup ("value" : Str) = some .local
  cls : sc.names.lookup ("__class__" : Str) = some .free
  super : sc.names.lookup ("super" : Str) = some .globalImplicit
  nocell : ∀ x ∈ sc.names, x.2 ≠ .cell
  onlyfree : ∀ x ∈ sc.names, x.2 = .free → x.1 = ("__class__" : Str)
theorem inv_startI {qual : Str} {scope : Scope} {f cc : Addr} {cd : Value} {A : Around} {outer : List PySem.Env} {s : Shared} {H : Hp} {E : XK} {u1 u2 : Value} {v1 v2 : V} {h1 : Heap} {tk : Nat} {occ : Obj} {cv : Option Value} {cm : Bool} {pn : List (Addr × Obj)}
    (S : ScI scope) (hd : cm = true → A.handled = none) (hpn : ∀ q ∈ pn, L2H.PinOk outer H s q) (e0 : Env0 P w K mg base A outer s H) (r1 : RelV v1 u1) (r2 : RelV v2 u2) (hcc : K.lookup cc = some occ) (hco : occ.data = .cell cv)
    (hns : h1.Ns s.heap.objs.size (fun x => ([(("self" : Str), u1), (("value" : Str), u2)]).reverse.lookup x)) (hk : ∀ b o, s.heap.get? b = some o → h1.get? b = some o) :
    Inv (cxI CX P w K mg base ["self", "value"] qual scope f cd cc A outer s H E cm pn) [] [some v1, some v2] H { s with heap := h1, toks := tk } := by
  have noA : ∀ b : Addr, b ∉ (cxI CX P w K mg base ["self", "value"] qual scope f cd cc A outer s H E cm pn).ex := fun b z => absurd (show b ∈ ([] : List Addr) from z) (by simp)
  have hb : base.get? cc = some occ := e0.mod.kin _ _ hcc
  have hlook : ∀ {y : Str} {c : Addr}, (ksEnv qual scope s.heap.objs.size f cd cc).cells.lookup y = some c → y = "__class__" ∧ c = cc := fun {y c} h => by
    have h' : ([(("__class__" : Str), cc)]).lookup y = some c := h
    by_cases e : y = "__class__"
    · subst e
      simp at h'
      exact ⟨rfl, h'.symm⟩
    · have e' : (y == ("__class__" : Str)) = false := by simpa using e
      rw [List.lookup, e'] at h'
      cases h'
  refine ⟨⟨e0.mod, S.kind, rfl, rfl, Nat.le_refl _, fun y z c q1 q2 => (hlook q1).1.trans (hlook q2).1.symm, fun y hy => ?_, fun y c z _ => (by cases z), hd, Around.frames_deeper e0.frames, .inr ⟨rfl, rfl⟩, fun b z => absurd z (noA b), e0.bs, e0.bsz, fun b _ _ => noA b, fun b z => absurd z (noA b), e0.funs, e0.frf⟩,
    rfl, e0.bare, Un.kept hk, ⟨_, hns, fun i y v q1 q2 q3 => ?_⟩, fun y c h => ?_, e0.hok.fresh (Nat.le_refl _), fun y c h => ?_, fun p hp => ?_, e0.hok.kept hk, rfl⟩
  · have hy : scope.names.lookup y = some .cell ∨ scope.names.lookup y = some .free := hy
    rcases hy with hy | hy
    · exact absurd rfl (S.nocell _ (PySem.mem_of_lookup hy))
    · have := S.onlyfree _ (PySem.mem_of_lookup hy) rfl
      refine ⟨cc, ?_⟩
      show ([(("__class__" : Str), cc)]).lookup y = some cc
      have e : y = "__class__" := this
      subst e
      simp
  · match i, q1, q2 with
    | 0, q1, q2 =>
      have q1 : some ("self" : Str) = some y := q1
      have q2 : some (some v1) = some (some v) := q2
      cases q1
      cases q2
      exact ⟨u1, r1, .inl ⟨S.self, rfl⟩⟩
    | 1, q1, q2 =>
      have q1 : some ("value" : Str) = some y := q1
      have q2 : some (some v2) = some (some v) := q2
      cases q1
      cases q2
      exact ⟨u2, r2, .inl ⟨S.value, rfl⟩⟩
    | i + 2, q1, q2 =>
      have q1 : (none : Option Str) = some y := q1
      cases q1
  · obtain ⟨_, rfl⟩ := hlook h
    exact ⟨cv, _, hk _ _ (e0.bs _ _ hb).1, hco⟩
  · obtain ⟨_, rfl⟩ := hlook h
    exact (e0.bs _ _ hb).2
  · have hp' : p ∈ pn := by simpa using (show p ∈ pn ++ ([] : List (Addr × Obj)) from hp)
    have y := hpn p hp'
    exact ⟨hk p.1 p.2 y.get, y.free, Nat.ne_of_lt (Heap.lt_size y.get), y.nofs, y.nocell⟩
end
--X18
section
variable {P : Program} {w : World} {K : PySem.W.Frag} {mg : Str → Option Value} {base : Heap} {CX : CXT}
/-- what K says of such a class, its __init__ and the text around -/
structure ExI (P : Program) (K : PySem.W.Frag) (mg : Str → Option Value) (C : Addr) : Prop where
  T : OexC K C
  no : PySem.W.findIn K (.ref C) "value" = some none
  sub : mroIn K C (.ref C) = some true
  mg : mg "super" = none
  top : (P.main.scope.names.lookup ("super" : Str)).isSome = false
  any : nsIn K cStatics "thirdparty.any" = some none
  up : ks_superIn K C C "__init__" = some (some (.builtin "ValueError.__init__"))
  ve : subIn K (.ref C) (.type "ValueError") = some true
/-- the call's evaluation, as the text's positions have it -/
def EvI (qual : Str) (scope : Scope) (f cda cc : Addr) (txt : Str) (j : Nat) (p0 p1 p2 p3 p4 : Pos) (pl : PySem.Env → Sem Bool) : Prop := ∀ L : Addr, eval (.Call (.Attribute (.Call (.Name "super" p0) [] [] p1) "__init__" p2) [.Constant (.str txt) j p3] [] p4) (ksEnv qual scope L f (.ref cda) cc) = (do
        let ov ← attributeBase (.Call (.Name "super" p0) [] [] p1) "__init__" (ksEnv qual scope L f (.ref cda) cc) (eval (.Call (.Name "super" p0) [] [] p1) (ksEnv qual scope L f (.ref cda) cc))
        standAt p2.atName
        let (f', first) ← holding [ov] (getMethod ov "__init__" (pl (ksEnv qual scope L f (.ref cda) cc)))
        callWith p4 f' first (backTo p4 (starEach [.Constant (.str txt) j p3] (ksEnv qual scope L f (.ref cda) cc))) [])
theorem boot_super : bootBuiltins "super" = some (.type "super") := by first | exact PyProof.Rows.Boot.«super» | rfl | kernel_rfl

variable {cm : Bool} {pn : List (Addr × Obj)} {qual : Str} {scope : Scope} {f cc cda C a : Addr} {A : Around} {outer : List PySem.Env} {s0 : Shared} {H0 : L2.Hp} {E : XK} {pins : List (Addr × Obj)} {σ : L2.St} {H : L2.Hp} {s : Shared}
/-- super().__init__(text) -/
theorem super_call {txt : Str} {j : Nat} {p0 p1 p2 p3 p4 p5 : Pos} {fd : FuncData} {ar : Arg} {vs : Array Value} {file : Str} {tf : Tok} {oc ccl cl : Value} {od cdd cld : Option Addr} {osl ccs csl : Array (Option Value)}
    {body : List Stmt} {Q : Flow → Shared → Prop} {pl : PySem.Env → Sem Bool} (S : ScI scope) (hev : EvI qual scope f cda cc txt j p0 p1 p2 p3 p4 pl) (J : ExI P K mg C)
    (lk : K.lookup f = some ⟨oc, od, .func fd, osl⟩) (hp : (fd.params.posonlyargs ++ fd.params.args).head? = some ar) (har : ar.arg = "self") (hcode : K.lookup cda = some ⟨ccl, cdd, .fields vs, ccs⟩) (hvs : vs[2]? = some (.str file tf))
    (hfile : ((P.main.file : Str) == file) = true) (hcell : K.lookup cc = some ⟨cl, cld, .cell (some (.ref C)), csl⟩) (I : Inv (cxI CX P w K mg base ["self", "value"] qual scope f (.ref cda) cc A outer s0 H0 E cm pn) pins σ H s) (hs0 : σ[0]? = some (some (.ref a))) (hx : H a = some (exo a C none))
    (h : ∀ s', Inv (cxI CX P w K mg base ["self", "value"] qual scope f (.ref cda) cc A outer s0 H0 E cm pn) pins σ H s' → Q .next s') :
    _root_.PySem.wpAt (model P w) (A.deeper (ksEnv qual scope s0.heap.objs.size f (.ref cda) cc)) (.func body (ksEnv qual scope s0.heap.objs.size f (.ref cda) cc))
      (exec (.Expr (.Call (.Attribute (.Call (.Name "super" p0) [] [] p1) "__init__" p2) [.Constant (.str txt) j p3] [] p4) p5) (ksEnv qual scope s0.heap.objs.size f (.ref cda) cc)) Q (cxI CX P w K mg base ["self", "value"] qual scope f (.ref cda) cc A outer s0 H0 E cm pn).xe s := by
  obtain ⟨nm, q, N, bs, bm, sn, sub, ab, col, dd, k0, k1, k2, k3, k5, hC, hbm⟩ := J.T.cls
  have hcl : PySem.W.clsIn K C = some { name := nm, bases := bs, mro := .ref C :: bm, ns := N, qualname := q, hasDict := true, slotNames := sn, subclasses := sub, abstract := ab, collection := col, hasDel := false } := by unfold PySem.W.clsIn; rw [hC] <;> rfl
  have KX : K.In s.heap := I.kIn
  obtain ⟨t1, ho⟩ := exo_at I.hok hx
  obtain ⟨m, hns, hloc⟩ := I.loc
  have hgl := I.mod.glob.keeps I.bk
  obtain ⟨mb, hb1, hb2⟩ := I.mod.blt
  have hb1' := hb1.keeps I.bk
  obtain ⟨us, rus, hlk⟩ := hloc 0 "self" (.ref a) rfl hs0 (.inl S.self)
  obtain rfl : us = Value.ref a := rus
  have hself : m "self" = some (.ref a) := by
    rcases hlk with ⟨_, e⟩ | ⟨k, _⟩
    · exact e
    · have k : scope.names.lookup ("self" : Str) = some .cell ∨ scope.names.lookup ("self" : Str) = some .free := k
      rw [S.self] at k
      rcases k with k | k <;> cases k
  refine ks_wpAt_Expr_any ?_ (by simp [interactive, S.kind]) rfl
  refine ks_wpAt_MethodCall (pl := pl _) ?_ (hev _)
  refine ks_wpAt_super_base (env := ksEnv qual scope s0.heap.objs.size f (.ref cda) cc) S.super S.cls (by decide) rfl (KX _ _ lk) rfl hp rfl (KX _ _ hcode) rfl hvs hfile J.top ?_
  refine ks_loadName_global S.kind S.super (Calls.loadGlobal_builtin (env := ksEnv qual scope s0.heap.objs.size f (.ref cda) cc) hgl J.mg hb1' ((hb2 "super" (by decide)).trans boot_super) ⟨rfl, ?_⟩)
  refine wpAny_loadName_free S.kind S.cls rfl ⟨_, KX _ _ hcell, rfl⟩ ?_
  rw [har]
  refine wpAny_loadName_local S.kind S.self hns hself ?_
  refine ks_wpAny_isType_cls (KX _ _ hC) rfl ⟨rfl, ?_⟩
  obtain ⟨hh, g, d, t, os⟩ := s
  refine ks_wpAny_call_super (KX _ _ hC) rfl ho rfl (fun c e => by cases e) (looks_mroIn KX J.sub) (fun h' e k => ?_)
  have I1 := I.kept (t' := t) k
  have KX1 : K.In h' := I1.kIn
  have ho1 := k _ _ ho
  have D1 : PySem.W.InstAt h' a _ C none := ⟨ho1, rfl, rfl, trivial⟩
  refine kxs_getMethod (l₀ := .ref C :: bm) kxs_ValueError e (looks_opaque KX1 J.any) (fun A Q E s k q => wpAny_bind ((looks_clsIn KX1 hcl) A _ E s k (wpAny_pure q))) rfl KX1 (by have := J.up; unfold ks_superIn at this; rw [hcl] at this; exact this)
    (D1.type.andThen (looks_subIn KX1 J.ve)) (ks_ne KX1 D1 hcl) (by decide) ?_
  have k2 : ∀ b o, h'.get? b = some o → (h'.push (kxs_mw "ValueError.__init__" a)).get? b = some o := fun b o z => Heap.get?_push_of_some _ z
  have I2 := I1.kept (t' := t + 1) k2
  have hu : (h'.push (kxs_mw "ValueError.__init__" a)).get? h'.objs.size = some (kxs_mw "ValueError.__init__" a) := Heap.get?_push_at rfl rfl
  have he : starEach [.Constant (.str txt) j p3] (ksEnv qual scope s0.heap.objs.size f (.ref cda) cc) = [(false, eval (.Constant (.str txt) j p3) (ksEnv qual scope s0.heap.objs.size f (.ref cda) cc))] := by rfl
  rw [he]
  refine kxs_callWith (i := "ValueError.__init__") (x := a) (u := h'.objs.size) rfl ?_
  refine Calls.evalArgs_plain (Calls.spliced_cons (Calls.Constant_str (pos := p3) (k := j) (Calls.spliced_nil ⟨hu, ?_⟩)))
  refine wpAny_call (codeAny_of_tree ?_)
  show wpAny _ _ (callAny (.ref h'.objs.size) ⟨_, []⟩) _ _ _
  simp only [callAny]
  refine wpAny_bind (wpAny_load hu ?_)
  simp only [kxs_mw, show (Value.type "method-wrapper" == Value.type "method" || Value.type "method-wrapper" == Value.type "builtin_function_or_method" || Value.type "method-wrapper" == Value.type "method-wrapper") = true by decide, if_true]
  refine KFB.if_so (by decide) ?_
  have ho2 := k2 _ _ ho1
  refine wpAny_bind (check_bound_init F.excBase_ValueError.toExcCallFacts (I2.kIn _ _ hC) ho2 rfl ?_)
  refine wpAny_bind (wpAny_pure (wpAny_pure ?_))
  refine ⟨plainId_quiet F.excBase_ValueError.init.plain _, codeAny_builtin F.excBase_ValueError.initEntry ?_⟩
  refine exc_init_tree (cls := .ref C) (t0 := t1) (dv := none) (c2 := .none) (c3 := .none) (b4 := .bool false) ho2 (by rw [sizeLine_eq]; simp) (fun h3 k3 e3 _ => ?_)
  have J3 := I2.write (t' := t + 1 + 1) (x := a) (e := a) (o := exo a C none) (by rw [hx]; exact True.intro) (.inl rfl) k3 ⟨_, e3⟩ (exo_ok e3)
  have eu : upd H a (exo a C none) = H := by
    funext b
    by_cases hb : b = a
    · rw [hb, upd_same, hx]
    · rw [upd_ne hb]
  rw [eu] at J3
  exact h _ J3
/-- how such an __init__ runs -/
theorem exi_run {name : Str} {params : Arguments} {txt : Str} {j k : Nat} {p0 p1 p2 p3 p4 p5 p6 p7 p8 p9 : Pos} {ar : Arg} {vs : Array Value} {file : Str} {tf : Tok} {dV kV doc pm ct oc ccl cl : Value} {an od cdd cld : Option Addr} {osl ccs csl : Array (Option Value)} {pl : PySem.Env → Sem Bool}
    (S : ScI scope) (hev : EvI qual scope f cda cc txt j p0 p1 p2 p3 p4 pl) (J : ExI P K mg C)
    (lk : K.lookup f = some ⟨oc, od, .func (ksFn name qual params [.Expr (.Call (.Attribute (.Call (.Name "super" p0) [] [] p1) "__init__" p2) [.Constant (.str txt) j p3] [] p4) p5, .Assign [.Attribute (.Name "self" p6) "value" p7] (.Name "value" p8) p9] scope dV kV doc pm an (.ref cda) ct cc), osl⟩)
    (hcd : codeIn K (.ref cda) qual = true) (hp : (params.posonlyargs ++ params.args).head? = some ar) (har : ar.arg = "self") (hcode : K.lookup cda = some ⟨ccl, cdd, .fields vs, ccs⟩) (hvs : vs[2]? = some (.str file tf))
    (hfile : ((P.main.file : Str) == file) = true) (hcell : K.lookup cc = some ⟨cl, cld, .cell (some (.ref C)), csl⟩)
    (hsw : ∀ L : Addr, swapsWith (.Name "value" p8) (some (.Attribute (.Name "self" p6) "value" p7)) p9.line (ksEnv qual scope L f (.ref cda) cc) = pure false)  {A : Around} {outer : List PySem.Env} {s : Shared} {H : L2.Hp} {args : Args} {us : List Value} {vs' : List V} {Q : VK} {E : XK} {cm : Bool} {pn : List (Addr × Obj)}
    (hdp : A.depth < recursionLimit) (hcm : cm = true → A.handled = none) (hpn : ∀ q ∈ pn, L2H.PinOk outer H s q) (e0 : Env0 P w K mg base A outer s H) (hb : BindsTo s (ksFn name qual params [.Expr (.Call (.Attribute (.Call (.Name "super" p0) [] [] p1) "__init__" p2) [.Constant (.str txt) j p3] [] p4) p5, .Assign [.Attribute (.Name "self" p6) "value" p7] (.Name "value" p8) p9] scope dV kV doc pm an (.ref cda) ct cc) args ((["self", "value"] : List Str).zip us)) (r : Vals vs' us) (hsp : spI K C vs' H Q E) :
    codeAny (model P w) A (.call (.ref f) args) (CR CX outer P w H s Q E) s := by
  obtain ⟨a, v, rfl, hx, hq⟩ := hsp
  cases r with
  | @cons _ u1 _ ur r1 r2 =>
  cases r2 with
  | @cons _ u2 _ ur r2 r3 =>
  cases r3
  have KX : K.In s.heap := e0.mod.kin.keeps fun b o e => (e0.bs b o e).1
  have lim : s.heap.NoLimit := e0.mod.nolimit.keeps fun b o e => (e0.bs b o e).1
  have hloc : ∀ y ∈ [(("self" : Str), u1), (("value" : Str), u2)], scope.names.lookup y.1 = some .local := fun y hy => by
    rcases List.mem_cons.mp hy with rfl | hy
    · exact S.self
    · rcases List.mem_cons.mp hy with rfl | hy
      · exact S.value
      · cases hy
  refine ks_codeAny_call_defAt (binds := [(("self" : Str), u1), (("value" : Str), u2)]) hdp (KX _ _ lk) rfl lim (codeRec_of KX hcd) rfl hb S.nocell hloc (fun h1 hns hk => ?_) S.co S.gen S.kind
  have I := inv_startI (cm := cm) (pn := pn) (CX := CX) (P := P) (w := w) (mg := mg) (qual := qual) (f := f) (cd := .ref cda) (E := E) (tk := s.toks + 2) S hcm hpn e0 r1 r2 hcell rfl hns hk
  refine ks_wpAt_execs_cons (super_call S hev J lk hp har hcode hvs hfile hcell I rfl hx fun s' I1 => ?_)
  refine wpAt_of_wpAny ?_
  have hself : PE (cxI CX P w K mg base ["self", "value"] qual scope f (.ref cda) cc A outer s H E cm pn) (.Name "self" p6) (tVar 0) := pe_var rfl (.inl S.self)
  have hval : PE (cxI CX P w K mg base ["self", "value"] qual scope f (.ref cda) cc A outer s H E cm pn) (.Name "value" p8) (tVar 1) := pe_var rfl (.inl S.value)
  refine wpAny_mono ((pss_one (ps_ost (p' := p7) (f := "value") (pos := p9) hself hval (hsw _))).run [] s' _ H { nx := fun _ H' => Q .non H', rt := Q } I1 ⟨v, rfl, .ref a, rfl, a, C, rfl, J.T, J.no, .inl ⟨hx, hq⟩⟩) (fun fl s2 e2 => ?_) fun e s2 z => z
  have close : ∀ {σ' : L2.St} {H' : L2.Hp} {v : V} {u : Value}, Inv (cxI CX P w K mg base ["self", "value"] qual scope f (.ref cda) cc A outer s H E cm pn) [] σ' H' s2 → L2.RelV v u → Q v H' → CE outer P w H s Q u s2 :=
    fun {σ' H' v u} J rv q => ⟨v, H', J.os, J.bare, J.base, J.hok, rv, q⟩
  cases fl with
  | next =>
    obtain ⟨_, _, J, q⟩ := e2
    exact close (v := V.non) (u := Value.none) J rfl q
  | ret u =>
    obtain ⟨_, _, _, J, rv, q⟩ := e2
    exact close J rv q
  | brk =>
    obtain ⟨_, _, _, z⟩ := e2
    exact z.elim
  | cont =>
    obtain ⟨_, _, _, z⟩ := e2
    exact z.elim
/-- THE CONTRACT of such an __init__ -/
theorem exi_fn {name : Str} {params : Arguments} {txt : Str} {j k : Nat} {p0 p1 p2 p3 p4 p5 p6 p7 p8 p9 : Pos} {ar : Arg} {vs : Array Value} {file : Str} {tf : Tok} {dV kV doc pm ct oc ccl cl : Value} {an od cdd cld : Option Addr} {osl ccs csl : Array (Option Value)} {pl : PySem.Env → Sem Bool}
    (S : ScI scope) (hev : EvI qual scope f cda cc txt j p0 p1 p2 p3 p4 pl) (J : ExI P K mg C)
    (lk : K.lookup f = some ⟨oc, od, .func (ksFn name qual params [.Expr (.Call (.Attribute (.Call (.Name "super" p0) [] [] p1) "__init__" p2) [.Constant (.str txt) j p3] [] p4) p5, .Assign [.Attribute (.Name "self" p6) "value" p7] (.Name "value" p8) p9] scope dV kV doc pm an (.ref cda) ct cc), osl⟩)
    (hcd : codeIn K (.ref cda) qual = true) (hp : (params.posonlyargs ++ params.args).head? = some ar) (har : ar.arg = "self") (hcode : K.lookup cda = some ⟨ccl, cdd, .fields vs, ccs⟩) (hvs : vs[2]? = some (.str file tf))
    (hfile : ((P.main.file : Str) == file) = true) (hcell : K.lookup cc = some ⟨cl, cld, .cell (some (.ref C)), csl⟩)
    (hsw : ∀ L : Addr, swapsWith (.Name "value" p8) (some (.Attribute (.Name "self" p6) "value" p7)) p9.line (ksEnv qual scope L f (.ref cda) cc) = pure false) :
    FnOk P w K mg base CX (k + 1) f (ksFn name qual params [.Expr (.Call (.Attribute (.Call (.Name "super" p0) [] [] p1) "__init__" p2) [.Constant (.str txt) j p3] [] p4) p5, .Assign [.Attribute (.Name "self" p6) "value" p7] (.Name "value" p8) p9] scope dV kV doc pm an (.ref cda) ct cc) ["self", "value"] (spI K C) :=
  ⟨fun vs H Q E h => (by obtain ⟨a, v, rfl, _⟩ := h; rfl), fun A outer s H args us vs Q E hr e0 hb r hsp => exi_run (k := 0) (cm := true) (pn := []) S hev J lk hcd hp har hcode hvs hfile hcell hsw hr.depth (fun _ => hr.hd) (fun _ h => (by cases h)) e0 hb r hsp⟩
/-- .. while an exception is handled -/
theorem exi_fnH {name : Str} {params : Arguments} {txt : Str} {j k : Nat} {p0 p1 p2 p3 p4 p5 p6 p7 p8 p9 : Pos} {ar : Arg} {vs : Array Value} {file : Str} {tf : Tok} {dV kV doc pm ct oc ccl cl : Value} {an od cdd cld : Option Addr} {osl ccs csl : Array (Option Value)} {pl : PySem.Env → Sem Bool}
    (S : ScI scope) (hev : EvI qual scope f cda cc txt j p0 p1 p2 p3 p4 pl) (J : ExI P K mg C)
    (lk : K.lookup f = some ⟨oc, od, .func (ksFn name qual params [.Expr (.Call (.Attribute (.Call (.Name "super" p0) [] [] p1) "__init__" p2) [.Constant (.str txt) j p3] [] p4) p5, .Assign [.Attribute (.Name "self" p6) "value" p7] (.Name "value" p8) p9] scope dV kV doc pm an (.ref cda) ct cc), osl⟩)
    (hcd : codeIn K (.ref cda) qual = true) (hp : (params.posonlyargs ++ params.args).head? = some ar) (har : ar.arg = "self") (hcode : K.lookup cda = some ⟨ccl, cdd, .fields vs, ccs⟩) (hvs : vs[2]? = some (.str file tf))
    (hfile : ((P.main.file : Str) == file) = true) (hcell : K.lookup cc = some ⟨cl, cld, .cell (some (.ref C)), csl⟩)
    (hsw : ∀ L : Addr, swapsWith (.Name "value" p8) (some (.Attribute (.Name "self" p6) "value" p7)) p9.line (ksEnv qual scope L f (.ref cda) cc) = pure false) :
    L2H.FnH P w K mg base CX (k + 1) f (ksFn name qual params [.Expr (.Call (.Attribute (.Call (.Name "super" p0) [] [] p1) "__init__" p2) [.Constant (.str txt) j p3] [] p4) p5, .Assign [.Attribute (.Name "self" p6) "value" p7] (.Name "value" p8) p9] scope dV kV doc pm an (.ref cda) ct cc) ["self", "value"] (spI K C) :=
  ⟨fun vs H Q E h => (by obtain ⟨a, v, rfl, _⟩ := h; rfl), fun A outer s H args us vs Q E p hr hot hpin e0 hb r hsp => exi_run (k := 0) (cm := false) (pn := [p]) S hev J lk hcd hp har hcode hvs hfile hcell hsw hr.depth (fun z => (by cases z)) (fun q hq => (by rw [List.mem_singleton.mp hq]; exact hpin)) e0 hb r hsp⟩
end
end Vl

/-! Vl19: raise C(e) for such a class. -/
namespace Vl
open PySem PySem.Spec L2
section
variable {G : Type} {X : Cx} {Z : Vo G} {W : WX} {M : Nat → Nat} {n nr : Nat}
variable {e : Expr} {es : List Expr} {pos p pos' : Pos} {x : Str} {C fI : Addr} {k : Nat} {fd : FuncData}
/-- raise C(e) -/
def wRaise (C : Addr) (wa : WA G) : WS G := fun D env g => wa env g (fun ds g' => ∃ d, ds = [d] ∧ scal d ∧ D.ex C d env g') (exE D env)
theorem made_heap {H : Hp} {w : V} {a dx : Addr} {u v : HO} {o : HO} (ha : H a = none) (hd : H dx = none) (ne : dx ≠ a) : upd (del (upd (upd (upd H a u) dx v) a o) a) dx (.xd [("value", w)]) = upd H dx (.xd [("value", w)]) := by
  funext b
  by_cases hb : b = dx
  · rw [hb, upd_same, upd_same]
  · rw [upd_ne hb, upd_ne hb]
    by_cases hb2 : b = a
    · rw [hb2, del_same, ha]
    · rw [del_ne hb2, upd_ne hb2, upd_ne hb, upd_ne hb2]
theorem ds_raise {mgs : ExI X.prog X.K X.mg C} (iC : PySem.W.findIn X.K (.ref C) "__init__" = some (some (.ref fI))) (tI : PySem.W.typeIn X.K (.ref fI) = some (.type "function"))
    (F1 : FnOk X.prog X.w X.K X.mg X.base (L2.CX X.prog X.w) k fI fd ["self", "value"] (spI X.K C)) (hr : Room (k + 1) X.A) (hb : Binds X.K fd ["self", "value"] []) (hc : X.calm = true) (tk : Takes X W) (hg : Gl X x) (hm : X.mg x = some (.ref C))
    {wa : WA G} (ha : DA X Z W M [e] wa) (hdb : (x == ("__debug__" : Str)) = false := by decide) (he : starEach [e] X.env = (false, eval e X.env) :: starEach [] X.env := by rfl) (hpl : (backTo pos (starEach [] X.env)).any (·.1) = false := by rfl) :
    DS X Z W M nr (.Raise (some (.Call (.Name x p) [e] [] pos)) none pos') (wRaise C wa) := by
  obtain ⟨t, pa, ra⟩ := ha
  refine ⟨_, ps_raise hc tk (pmk_oex mgs.T iC tI F1 hr hb .nil (passes_call tk fun _ _ _ _ z => z.elim) hg hm pa hdb he hpl), fun {Hs0 H0 Hs H σ env fp g D Dd} R p q k => ?_⟩
  refine ra R p q (fun ds g' vs Hs' H' e s r p' => ?_) (k.gox R)
  obtain ⟨d, rfl, sd, ex⟩ := e
  cases r with
  | @cons v _ _ _ r1 r2 =>
  cases r2
  refine ⟨by simp, fun a na => ⟨a, v, rfl, upd_same, fun dx ndx hne => ⟨rfl, dx, [("value", v)], upd_same, ?_, ?_, ?_⟩⟩⟩
  · rw [upd_ne hne, upd_same]
  · rw [upd_ne hne] at ndx
    exact ndx
  · rw [upd_ne hne] at ndx
    rw [made_heap na ndx hne]
    have st : Step Z.vol Hs' H' Hs' (upd H' dx (.xd [("value", v)])) := Step.new (R.step s).hs ndx
    have st0 : Step [] Hs' H' Hs' (upd H' dx (.xd [("value", v)])) := Step.new (R.step s).hs ndx
    exact k.ex ex ((R.step s).step st) (Z.pure p' st0) ⟨upd_same, by cases z : Hs' dx with | none => rfl | some o => have y := (R.step s).hs _ _ z; rw [ndx] at y; cases y⟩ (r1.sc sd) (fresh_of (R.step s).st ndx)
end
end Vl

/-! Vl20: isinstance of a caught exception that has a dict. -/
namespace Vl
open PySem PySem.Spec L2
section
variable {X : Cx} {a D dd : Addr} {oe : Obj} {pn : List (Addr × Obj)}
def rIsX (K : PySem.W.Frag) (D a dd : Addr) : List V → Hp → VK → Prop := fun xs H Q => ∃ (c : V) (cv : Value) (b : Bool) (fs : List (Str × V)), xs = [.ref a, c] ∧ ClsV c cv ∧ H dd = some (.xd fs) ∧ PySem.W.kitOne K (.ref D) cv = some b ∧ Q (.bl b) H
def rIsXT (K : PySem.W.Frag) (D a dd : Addr) : List V → Hp → VK → Prop := fun xs H Q => ∃ (tp : Addr) (cs : List V) (us : List Value) (b : Bool) (fs : List (Str × V)), xs = [.ref a, .ref tp] ∧ H tp = some (.tup cs) ∧ Paired ClsV cs us ∧ H dd = some (.xd fs) ∧ PySem.W.kitAny K (.ref D) us = some b ∧ Q (.bl b) H
theorem inst_suite {pins : List (Addr × Obj)} {σ : St} {H : Hp} {s : Shared} {fs : List (Str × V)} (hz : Zc (.ref D) (some dd) oe) (hf : ∃ vs, oe.data = .fields vs) (I : Inv (X.suite a ((a, oe) :: pn)) pins σ H s) (ed : H dd = some (.xd fs)) : ∃ od, PySem.W.InstAt s.heap a oe D (some od) := by
  obtain ⟨hget, _⟩ := I.pin (a, oe) (List.mem_append.mpr (.inl List.mem_cons_self))
  obtain ⟨vs, hv⟩ := hf
  obtain ⟨mA, hns, hr⟩ := (show ObjOk X.prog X.w H s.heap dd (.xd fs) from I.hok dd _ ed)
  obtain ⟨od, ho, hl⟩ := lookIn_ns hns
  exact ⟨od, hget, hz.1, by unfold PySem.W.notCls; rw [hv] <;> rfl, by rw [hz.2]; exact ho⟩
theorem kit_exd (C : ExcC X.K D) {od : Option Obj} : PySem.W.KitX X.K (.ref a) (.ref D) (fun h => PySem.W.InstAt h a oe D od) :=
  PySem.W.kitx_exc (by obtain ⟨cd, hc, _⟩ := PySem.W.any_some C.hd; rw [hc]; rfl) C.hg C.hk C.hs C.ha C.hn C.ht C.hm
theorem call_isX (C : ExcC X.K D) (hz : Zc (.ref D) (some dd) oe) (hf : ∃ vs, oe.data = .fields vs) : CallR (X.suite a ((a, oe) :: pn)) (.builtin "isinstance") (rIsX X.K D a dd) := by
  intro pins s σ H xs us Q I r h
  obtain ⟨c, cv, b, fs, rfl, k, ed, e, q⟩ := h
  obtain ⟨u1, u2, rfl, r1, r2⟩ := vals2 r
  obtain rfl := k.eq r2
  obtain rfl : u1 = Value.ref a := r1
  obtain ⟨od, J⟩ := inst_suite hz hf I ed
  exact PySem.W.kia_one (kit_exd (X := X) C) I.kIn J e (fun z => nomatch z) fun tk => ⟨.bl b, H, I.tok tk, rfl, q⟩
theorem call_isXT (C : ExcC X.K D) (hz : Zc (.ref D) (some dd) oe) (hf : ∃ vs, oe.data = .fields vs) : CallR (X.suite a ((a, oe) :: pn)) (.builtin "isinstance") (rIsXT X.K D a dd) := by
  intro pins s σ H xs us Q I r h
  obtain ⟨tp, cs, ws, b, fs, rfl, hT, k, ed, e, q⟩ := h
  obtain ⟨u1, u2, rfl, r1, r2⟩ := vals2 r
  obtain rfl : u2 = Value.ref tp := r2
  obtain rfl : u1 = Value.ref a := r1
  obtain ⟨od, J⟩ := inst_suite hz hf I ed
  obtain ⟨_, its, rv, o, h1, h2, n, h3⟩ := (show ObjOk X.prog X.w H s.heap tp (.tup cs) from I.hok tp _ hT)
  have e3 := ClsV.all k rv
  subst e3
  obtain ⟨oc, od', dt, sl⟩ := o
  simp only at h2 h3
  subst h2 h3
  exact PySem.W.kia_tup (kit_exd (X := X) C) I.kIn J h1 e (fun z => nomatch z) fun tk => ⟨.bl b, H, I.tok tk, rfl, q⟩
end
end Vl

/-! Vl21: try .. except C as n, in a def without own lists. -/
namespace Vl
open PySem PySem.Spec L2
theorem del_none {Hs : Hp} {dd : Addr} (h : Hs dd = none) : del Hs dd = Hs := by
  funext b
  by_cases hb : b = dd
  · rw [hb, del_same, h]
  · exact del_ne hb
section
variable {G : Type} {X : Cx} {Z : Vo G} {W : WX} {M : Nat → Nat} {n nr i : Nat}
/-- the caught exception's dict stands still -/
def Zx (Z : Vo G) (dd : Addr) (v : V) : Vo G := ⟨dd :: Z.vol, fun g H => Z.P g H ∧ H dd = some (.xd [("value", v)]), fun g H H' h k => ⟨Z.dep g H H' h.1 fun b hb => k b (List.mem_cons_of_mem _ hb), by rw [k dd List.mem_cons_self]; exact h.2⟩, fun g H h b hb => by
  rcases List.mem_cons.mp hb with rfl | hb
  · rw [h.2]; simp
  · exact Z.trk g H h.1 b hb⟩
theorem SR.again {K : PySem.W.Frag} {vol : List Addr} {Hs0 H0 Hs H : Hp} {σ : St} {env : Env} {fp : Nat → List Addr} {dd a : Addr} {fs : List (Str × V)} (R : SR K M vol Hs0 H0 Hs H σ env fp) (hM : ∀ j, M j = 0) (hx : H dd = some (.xd fs)) (hn : Hs dd = none) :
    SR K M (dd :: vol) (del Hs dd) H (del Hs dd) H (σ.set i (some (.ref a))) (env.set i (some (.raw (.ref a)))) (fun _ => []) := by
  have hs : Same (del Hs dd) H := fun b o e => by
    by_cases hb : b = dd
    · rw [hb, del_same] at e; cases e
    · rw [del_ne hb] at e; exact R.hs b o e
  have hd : ∀ o, Hs dd = some o → o = .xd fs := fun o e => by
    have := R.hs dd o e
    rw [hx] at this
    exact (Option.some.inj this).symm
  refine ⟨Step.refl hs, fun j d e => ?_, fun _ => List.nodup_nil, fun _ _ _ h => (by cases h), fun _ _ h => (by cases h), fun _ _ h => (by cases h), fun b hb => ?_, by rw [List.length_set, List.length_set]; exact R.len⟩
  · by_cases hj : i = j
    · subst hj
      by_cases hl : i < env.length
      · rw [List.getElem?_set_self hl] at e
        cases e
        refine ⟨.ref a, List.getElem?_set_self (by rw [← R.len]; exact hl), ?_⟩
        rw [hM]
        exact ⟨rfl, .raw _⟩
      · rw [List.getElem?_eq_none (by simpa using hl)] at e; cases e
    · rw [List.getElem?_set_ne hj] at e
      obtain ⟨v, e1, o⟩ := R.at' j d e
      refine ⟨v, by rw [List.getElem?_set_ne hj]; exact e1, ?_⟩
      rw [hM] at o ⊢
      exact ⟨rfl, by rw [del_none hn]; exact o.2⟩
  · rcases List.mem_cons.mp hb with rfl | hb
    · exact ⟨by rw [hx]; simp, del_same⟩
    · refine ⟨R.st.s5 b (R.hv b hb).1, ?_⟩
      by_cases h : b = dd
      · rw [h, del_same]
      · rw [del_ne h]; exact (R.hv b hb).2
theorem step_suite {vol : List Addr} {Hs0 H0 Hs H Hs' H' : Hp} {dd : Addr} (a : Step vol Hs0 H0 Hs H) (h0 : H0 dd = none) (b : Step (dd :: vol) (del Hs dd) H Hs' H') (hn : Hs dd = none) : Step vol Hs0 H0 Hs' H' where
  s1 := fun c o e => b.s1 c o (by
    rw [del_ne (fun z => by have := a.s1 c o e; rw [z, hn] at this; cases this)]
    exact a.s1 c o e)
  s2 := fun c o e n => b.s2 c o (a.s2 c o e n) fun z => by
    rcases List.mem_cons.mp z with rfl | z
    · rw [h0] at e; cases e
    · exact n z
  s3 := fun c e => by
    rcases b.s3 c e with q | q
    · by_cases hc : c = dd
      · rw [hc, del_same] at q; exact absurd rfl q
      · rw [del_ne hc] at q; exact a.s3 c q
    · refine .inr ?_
      cases z : H0 c with
      | none => rfl
      | some o => exact absurd q (a.s5 c (by rw [z]; simp))
  s4 := b.s4
  s5 := fun c e => b.s5 c (a.s5 c e)
theorem SR.out {K : PySem.W.Frag} {vol : List Addr} {Hs0 H0 Hs H Hs' H' : Hp} {σ σ' : St} {env env' : Env} {fp fp' : Nat → List Addr} {dd : Addr} (R : SR K M vol Hs0 H0 Hs H σ env fp) (h0 : H0 dd = none) (hn : Hs dd = none)
    (R' : SR K M (dd :: vol) (del Hs dd) H Hs' H' σ' env' fp') : SR K M vol Hs0 H0 Hs' H' (σ'.set i none) (env'.set i none) fp' := by
  refine ⟨step_suite R.st h0 R'.st hn, fun j d e => ?_, R'.nd, R'.dj, fun j b hb => fresh_of R.st (R'.nw j b hb), R'.ct, fun b hb => ⟨(R.hv b hb).1, (R'.hv b (List.mem_cons_of_mem _ hb)).2⟩, by rw [List.length_set, List.length_set]; exact R'.len⟩
  by_cases hj : i = j
  · subst hj
    by_cases hl : i < env'.length
    · rw [List.getElem?_set_self hl] at e; cases e
    · rw [List.getElem?_eq_none (by simpa using hl)] at e; cases e
  · rw [List.getElem?_set_ne hj] at e
    obtain ⟨v, e1, o⟩ := R'.at' j d e
    exact ⟨v, by rw [List.getElem?_set_ne hj]; exact e1, o⟩
/-- try: body except C as n: suite -/
def wTryAs (exm : Addr → Option Bool) (ok : Addr → Prop) (i : Nat) (wb : WS G) (ws : Addr → Addr → Dt → WS G) : WS G := fun D env g =>
  wb { D with ex := fun c d env' g' => ∃ b, exm c = some b ∧ (b = true → ok c ∧ ∀ a, ws a c d { nx := fun e g => D.nx (e.set i none) g, rt := D.rt, bk := fun e g => D.bk (e.set i none) g, ct := fun e g => D.ct (e.set i none) g } (env'.set i (some (.raw (.ref a)))) g') ∧ (b = false → D.ex c d env' g') } env g
theorem ds_try_as {ok : Addr → Prop} {n x : Str} {c : Value} {body suite : List Stmt} {b₀ : Stmt} {np pos pos' : Pos} {wb : WS G} {ws : Addr → Addr → Dt → WS G} (hs : X.stack = X.env :: X.outer) (hf : X.env.frame = some X.env.locals) (hN : X.N.Nodup) (hi : X.N[i]? = some n) (hln : X.env.kindOf n = some .local)
    (hc : Names X x c) (tk : Takes X W) (hM : ∀ j, M j = 0)
    (hb : ∀ (W' : WX) (pn : List (Addr × Obj)) (xe : Value → Shared → Prop), Takes (X.tr pn xe) W' → PassesOwn (model X.prog X.w) X.A X.env xe → DB (X.tr pn xe) Z W' M nr body wb)
    (hsu : ∀ (a : Addr) (oe : Obj) (c : Addr) (d : Dt) (dd : Addr) (v : V) (pn : List (Addr × Obj)), ok c → Zc (.ref c) (some dd) oe → (∃ vs, oe.data = .fields vs) → Sc v d → DB (X.suite a ((a, oe) :: pn)) (Zx Z dd v) W0 M nr (b₀ :: suite) (ws a c d)) :
    DS X Z W M nr (.Try body [.ExceptHandler (some (.Name x np)) (some n) (b₀ :: suite) pos'] [] [] pos) (wTryAs (fun c' => PySem.W.exmOne X.K (.ref c') c) ok i wb ws) := by
  refine ⟨_, ps_try_as (Wout := W) (i := i) (tb := fun W' D σ H => ∃ (Hs0 H0 Hs : Hp) (env : Env) (fp : Nat → List Addr) (g : G) (Dd : DEnds G), SR X.K M Z.vol Hs0 H0 Hs H σ env fp ∧ Z.P g H ∧ wb Dd env g ∧ GoS X.K Z M nr W' Hs0 H0 Dd D)
    (ts := fun a cls d D σ H => ∃ (c dd : Addr) (v : V) (dat : Dt) (Hs0 H0 Hs : Hp) (env : Env) (fp : Nat → List Addr) (g : G) (Dd : DEnds G), cls = .ref c ∧ d = some dd ∧ ok c ∧ Sc v dat ∧ SR X.K M (Zx Z dd v).vol Hs0 H0 Hs H σ env fp ∧ (Zx Z dd v).P g H ∧ ws a c dat Dd env g ∧ GoS X.K (Zx Z dd v) M nr W0 Hs0 H0 Dd D)
    hs hf hN hi hln hc tk (fun W' pn xe t p => ⟨fun pins s σ H D I h => ?_⟩) (fun a oe cls d pn z f => ⟨fun pins s σ H D I h => ?_⟩), fun {Hs0 H0 Hs H σ env fp g D Dd} R p q k => ?_⟩
  · obtain ⟨Hs0, H0, Hs, env, fp, g, Dd, R, p', q, k⟩ := h
    obtain ⟨t', ps, r⟩ := hb W' pn xe t p
    exact ps.run pins s σ H D I (r R p' q k)
  · obtain ⟨c', dd, v, dat, Hs0, H0, Hs, env, fp, g, Dd, rfl, rfl, okc, sc, R, p', q, k⟩ := h
    obtain ⟨t', ps, r⟩ := hsu a oe c' dat dd v pn okc z f sc
    exact ps.run pins s σ H D I (r R p' q k)
  · refine ⟨Hs0, H0, Hs, env, fp, g, _, R, p, q, ⟨k.nx, k.bk, k.ct, k.rt, ?_⟩⟩
    intro c' d env' g' v y Hs' H' σ' fp' e R' p' hx sc h0
    obtain ⟨b, e1, e2, e3⟩ := e
    refine ⟨b, e1, fun hb' a na => ⟨c', y, v, d, _, _, _, _, _, g', _, rfl, rfl, (e2 hb').1, sc, R'.again hM hx.1 hx.2, ⟨p', hx.1⟩, (e2 hb').2 a, ⟨fun q R2 p2 => k.nx q (R'.out h0 hx.2 R2) p2.1, fun q R2 p2 => k.bk q (R'.out h0 hx.2 R2) p2.1, fun q R2 p2 => k.ct q (R'.out h0 hx.2 R2) p2.1, fun q st o nd fr p2 => k.rt q (step_suite R'.st h0 st hx.2) o nd (fun b hb => fresh_of R'.st (fr b hb)) p2.1, fun q _ _ _ _ _ => q.elim⟩⟩, fun hb' => k.ex (e3 hb') R' p' hx sc h0⟩
end
end Vl

/-! Vl22: what a suite asks of the caught exception: its value; isinstance. -/
namespace Vl
open PySem PySem.Spec L2
section
variable {G : Type} {X : Cx} {Z : Vo G} {W : WX} {M : Nat → Nat} {n nr i : Nat} {a c dd : Addr} {oe : Obj} {pn : List (Addr × Obj)} {v : V} {d : Dt} {x f : Str} {p1 pos : Pos}
/-- e.value -/
def wXv (i : Nat) (a : Addr) (d : Dt) : WE G := fun env g Q _ => env[i]? = some (some (.raw (.ref a))) ∧ Q d g
theorem de_xval (T : XfC X.K c) (hno : PySem.W.findIn X.K (.ref c) "value" = some none) (hz : Zc (.ref c) (some dd) oe) (hf : ∃ vs, oe.data = .fields vs) (sc : Sc v d) (hM : M i = 0) (hN : X.N[i]? = some x) (hv : Vis X.env.scope x)
    (hd : (x == ("__debug__" : Str)) = false := by decide) (hcd : (x == ("__classdict__" : Str)) = false := by decide) (hb : attributeBase (.Name x p1) "value" X.env (eval (.Name x p1) X.env) = eval (.Name x p1) X.env := by rfl) :
    DE (X.suite a ((a, oe) :: pn)) (Zx Z dd v) W M n (.Attribute (.Name x p1) "value" pos) (wXv i a d) := by
  refine ⟨_, pe_xf T hno hz hf (pe_var (X := X.suite a ((a, oe) :: pn)) hN hv hd hcd) hb, fun {Hs0 H0 Hs H σ env fp g Q Qd Ed} R p q k _ => ?_⟩
  obtain ⟨u, e1, o⟩ := R.at' i _ q.1
  rw [hM] at o
  have eu : u = .ref a := by
    have := o.2
    cases this
    rfl
  subst eu
  exact ⟨_, e1, rfl, rfl, dd, [("value", v)], v, rfl, p.2, by simp, k d g v Hs H [] q.2 (Step.refl R.hs) (Own.sc sc) List.nodup_nil (fun _ h => by cases h) p⟩
/-- isinstance(e, C) -/
def wIsX (K : PySem.W.Frag) (c a : Addr) (u : WA G) : WE G := fun env g Q E => u env g (fun ds g' => ∃ (cl : V) (cu : Value) (b : Bool), ds = [.raw (.ref a), .raw cl] ∧ ClsV cl cu ∧ PySem.W.kitOne K (.ref c) cu = some b ∧ Q (.bl b) g') E
theorem de_isX {e : Expr} {es : List Expr} {u : WA G} {p' : Pos} (C : ExcC X.K c) (hz : Zc (.ref c) (some dd) oe) (hf : ∃ vs, oe.data = .fields vs) (ha : DA (X.suite a ((a, oe) :: pn)) (Zx Z dd v) W M (e :: es) u) (hg : Gl X "isinstance") (hm : X.mg "isinstance" = none)
    (he : starEach (e :: es) X.env = (false, eval e X.env) :: starEach es X.env := by rfl) (hpl : (backTo pos (starEach es X.env)).any (·.1) = false := by rfl) : DE (X.suite a ((a, oe) :: pn)) (Zx Z dd v) W M n (.Call (.Name "isinstance" p') (e :: es) [] pos) (wIsX X.K c a u) := by
  obtain ⟨t, pa, ra⟩ := ha
  refine ⟨_, pe_callB (X := X.suite a ((a, oe) :: pn)) (call_isX C hz hf) hg hm (by decide +kernel) pa (by decide) (by decide) he hpl, fun R p q k x => ra R p q (fun ds g1 vs Hs1 H1 e1 s1 o1 p1 => ?_) x⟩
  obtain ⟨cl, cu, b, rfl, hc, hk, q1⟩ := e1
  cases o1 with
  | cons r1 r2 =>
  cases r2 with
  | cons r2 r3 =>
  cases r3
  cases r1
  cases r2
  exact ⟨_, cu, b, _, rfl, hc, p1.2, hk, k _ _ _ Hs1 H1 [] q1 s1 (Own.sc (by rfl)) List.nodup_nil (fun _ h => by cases h) p1⟩
theorem raws {K : PySem.W.Frag} {H : Hp} : ∀ {vs cls : List V}, RpL K H vs (cls.map Dt.raw) → vs = cls
  | _, [], .nil => rfl
  | _, c :: cls, .cons h r => by
    cases h
    rw [raws r]
/-- isinstance(e, (C, ..)) -/
def wIsXT (K : PySem.W.Frag) (c a : Addr) (i : Nat) (u : WA G) : WE G := fun env g Q E => env[i]? = some (some (.raw (.ref a))) ∧ u env g (fun ds g' => ∃ (cls : List V) (cus : List Value) (b : Bool), ds = cls.map Dt.raw ∧ Paired ClsV cls cus ∧ PySem.W.kitAny K (.ref c) cus = some b ∧ cls.length ≤ sizeLine ∧ Q (.bl b) g') E
theorem de_isXT {es : List Expr} {u : WA G} {p' p2 : Pos} {x1 : Nat} (C : ExcC X.K c) (hz : Zc (.ref c) (some dd) oe) (hf : ∃ vs, oe.data = .fields vs) (hM : M i = 0) (hN : X.N[i]? = some x) (hv : Vis X.env.scope x) (ha : DA (X.suite a ((a, oe) :: pn)) (Zx Z dd v) W M es u) (hg : Gl X "isinstance") (hm : X.mg "isinstance" = none)
    (hd : (x == ("__debug__" : Str)) = false := by decide) (hcd : (x == ("__classdict__" : Str)) = false := by decide) (hs2 : starEach [.Tuple es x1 p2] X.env = [(false, eval (.Tuple es x1 p2) X.env)] := by rfl)
    (he : starEach [.Name x p1, .Tuple es x1 p2] X.env = (false, eval (.Name x p1) X.env) :: starEach [.Tuple es x1 p2] X.env := by rfl) (hpl : (backTo pos (starEach [.Tuple es x1 p2] X.env)).any (·.1) = false := by rfl) : DE (X.suite a ((a, oe) :: pn)) (Zx Z dd v) W M n (.Call (.Name "isinstance" p') [.Name x p1, .Tuple es x1 p2] [] pos) (wIsXT X.K c a i u) := by
  obtain ⟨t, pa, ra⟩ := ha
  refine ⟨_, pe_callB (X := X.suite a ((a, oe) :: pn)) (call_isXT C hz hf) hg hm (by decide +kernel) (pa_cons (pe_var (X := X.suite a ((a, oe) :: pn)) hN hv hd hcd) (pa_cons (pe_tup pa) pa_nil hs2) he) (by decide) (by decide) he hpl, fun {Hs0 H0 Hs H σ env fp g Q Qd Ed} R p q k xx => ?_⟩
  obtain ⟨v', e1, o⟩ := R.at' i _ q.1
  rw [hM] at o
  have eu : v' = .ref a := by
    have := o.2
    cases this
    rfl
  subst eu
  refine ⟨_, e1, ra R p q.2 (fun ds g1 vs Hs1 H1 e2 s1 o1 q1 => ?_) xx⟩
  obtain ⟨cls, cus, b, rfl, hp, hk, hl, e3⟩ := e2
  obtain rfl := raws o1
  refine ⟨hl, fun tp hn => ⟨tp, vs, cus, b, [("value", v)], rfl, upd_same, hp, ?_, hk, ?_⟩⟩
  · have := q1.2
    rw [upd_ne (ne_of_none this hn)]
    exact this
  · exact k _ _ _ Hs1 _ [] e3 (s1.trans (Step.new s1.s4 hn)) (Own.sc (by rfl)) List.nodup_nil (fun _ h => by cases h) ((Zx Z dd v).pure q1 (Step.new s1.s4 hn))
end
end Vl

/-! Vl23: a call of a local name that holds a def. -/
namespace Vl
open PySem PySem.Spec L2
section
variable {X : Cx} {k i : Nat} {f : Addr} {fd : FuncData} {ps : List Str} {sp : Sp} {W : WX} {x : Str} {p pos : Pos} {e : Expr} {es : List Expr} {t : TA}
theorem pe_gv (F : GOk X.prog X.w X.K X.mg X.base k f fd ps sp) (hgd : X.A.guards = some []) (hr : Room k X.A) (tk : Takes X W) (hN : X.N[i]? = some x) (hv : Vis X.env.scope x) (hk : PySem.W.keepIn X.K (.ref f) = true) (hb : Binds X.K fd ps [])
    (ha : PA X (e :: es) t) (hdb : (x == ("__debug__" : Str)) = false := by decide) (hcd : (x == ("__classdict__" : Str)) = false := by decide) (he : starEach (e :: es) X.env = (false, eval e X.env) :: starEach es X.env := by rfl) (hpl : (backTo pos (starEach es X.env)).any (·.1) = false := by rfl) :
    PE X (.Call (.Name x p) (e :: es) [] pos) (fun σ H Q => σ[i]? = some (some (.ref f)) ∧ t σ H fun vs H1 => sp vs H1 Q (fun cls d H' => W cls d σ H')) := by
  refine ⟨fun pins s σ H Q I h => ?_⟩
  obtain ⟨hs, ht⟩ := h
  refine wpAny_Call_Name_kw (thn ((pe_var (pos := p) hN hv hdb hcd).run pins s σ H (fun v H1 => v = .ref f ∧ H1 = H) I ⟨.ref f, hs, rfl, rfl⟩) fun u s1 ⟨v, H1, I1, r1, q1⟩ => ?_)
  obtain ⟨rfl, rfl⟩ := q1
  cases r1
  refine PySem.W.callWith_K (h₀ := X.base) I.ok.mod.kin hk (thn (ha.run pos pins s1 σ _ _ I1 ht) fun us s2 ⟨vs, H2, J, r, q⟩ => ⟨J.kIn, ?_⟩) he hpl
  have hl : us.length = ps.length := by rw [← r.length]; exact F.len _ _ _ _ q
  have bb := hb s2 us J.kIn (by rw [List.append_nil]; exact hl)
  rw [List.append_nil] at bb
  refine wpAny_call (codeAny_mono (run_g F hgd hr tk J bb r q) fun res s' hq => ?_)
  cases res with
  | error e => exact hq
  | ok fl =>
    cases fl with
    | ret u => exact hq
    | next => exact hq.elim
    | brk => exact hq.elim
    | cont => exact hq.elim
end
section
variable {G : Type} {X : Cx} {Z : Vo G} {W : WX} {M : Nat → Nat} {k m i : Nat} {f : Addr} {fd : FuncData} {ps : List Str} {x : Str} {p pos : Pos} {e : Expr} {es : List Expr} {u : WA G}
/-- n(e, ..), n a local name that holds the def at f -/
def wFnV (i : Nat) (f : Addr) (sp : Spec Unit) (u : WA G) : WE G := fun env g Q E => env[i]? = some (some (.raw (.ref f))) ∧ wFn sp u env g Q E
theorem de_fnV {sp : Spec Unit} (F : GOk X.prog X.w X.K X.mg X.base k f fd ps (spP X.K m sp)) (hgd : X.A.guards = some []) (hr : Room k X.A) (tk : Takes X W) (hM : M i = 0) (hN : X.N[i]? = some x) (hv : Vis X.env.scope x) (hk : PySem.W.keepIn X.K (.ref f) = true) (hb : Binds X.K fd ps [])
    (ha : DA X Z W M (e :: es) u) (hdb : (x == ("__debug__" : Str)) = false := by decide) (hcd : (x == ("__classdict__" : Str)) = false := by decide) (he : starEach (e :: es) X.env = (false, eval e X.env) :: starEach es X.env := by rfl) (hpl : (backTo pos (starEach es X.env)).any (·.1) = false := by rfl) :
    DE X Z W M m (.Call (.Name x p) (e :: es) [] pos) (wFnV i f sp u) := by
  obtain ⟨t, pa, r⟩ := ha
  refine ⟨_, pe_gv F hgd hr tk hN hv hk hb pa hdb hcd he hpl, fun {Hs0 H0 Hs H σ env fp g Q Qd Ed} R p q k x => ?_⟩
  obtain ⟨v', e1, o⟩ := R.at' i _ q.1
  rw [hM] at o
  have eu : v' = .ref f := by
    have := o.2
    cases this
    rfl
  subst eu
  exact ⟨e1, r R p q.2 (fun ds g' vs Hs' H' e s o p' => call_pure s o p' e k x) x⟩
end
end Vl

/-! Vl24: the classes of exceptions by name; short words for derivations. -/
namespace Vl
open PySem PySem.Spec L2
/-- what is asked of classes, as plain words -/
structure Cw where
  cl : Str → Addr
  exm : Addr → Value → Option Bool
  kit : Addr → Value → Option Bool
  kits : Addr → List Value → Option Bool
  ok : Addr → Prop
def clA (mg : Str → Option Value) (x : Str) : Addr := match mg x with
  | some (.ref a) => a
  | _ => 0
/-- what a suite may ask of an exception of the class at C -/
structure CatC (K : PySem.W.Frag) (C : Addr) : Prop where
  E : ExcC K C
  X : XfC K C
  no : PySem.W.findIn K (.ref C) "value" = some none
abbrev cwOf (K : PySem.W.Frag) (mg : Str → Option Value) : Cw := ⟨clA mg, fun c v => PySem.W.exmOne K (.ref c) v, fun c v => PySem.W.kitOne K (.ref c) v, fun c vs => PySem.W.kitAny K (.ref c) vs, CatC K⟩
theorem clA_of {mg : Str → Option Value} {x : Str} {a : Addr} (h : mg x = some (.ref a)) : clA mg x = a := by unfold clA; rw [h]
/-- a class with its __init__ -/
structure Exn (P : Program) (w : World) (K : PySem.W.Frag) (mg : Str → Option Value) (base : Heap) (x : Str) : Prop where
  m : mg x = some (.ref (clA mg x))
  I : ExI P K mg (clA mg x)
  fn : ∃ (fI : Addr) (fd : FuncData), PySem.W.findIn K (.ref (clA mg x)) "__init__" = some (some (.ref fI)) ∧ PySem.W.typeIn K (.ref fI) = some (.type "function") ∧ Binds K fd ["self", "value"] [] ∧
    (∀ (CX : CXT), FnOk P w K mg base CX 1 fI fd ["self", "value"] (spI K (clA mg x))) ∧ ∀ (CX : CXT), L2H.FnH P w K mg base CX 1 fI fd ["self", "value"] (spI K (clA mg x))
section
variable {G : Type} {X : Cx} {Z : Vo G} {W : WX} {M : Nat → Nat} {n nr i j k m : Nat} {x : Str} {p pos pos' p1 p' : Pos} {e : Expr} {es : List Expr}
/-- the address of a def or a class as a value -/
theorem de_mref {a : Addr} (hm : X.mg x = some (.ref a)) (hg : Gl X x := by rfl) (hd : (x == ("__debug__" : Str)) = false := by decide) : DE X Z W M n (.Name x pos) (wC (.raw (.ref (clA X.mg x)))) := by
  rw [clA_of hm]
  exact de_glob (v := .ref a) hg hm rfl rfl hd
theorem de_mty {T : String} (hm : X.mg x = none) (hv : bootBuiltins x = some (.type T) := by decide +kernel) (hg : Gl X x := by rfl) (hn : x ≠ "__name__" := by decide) (hd : (x == ("__debug__" : Str)) = false := by decide) : DE X Z W M n (.Name x pos) (wC (.raw (.ty T))) :=
  de_tc (pe_bltn (v := .ty T) hg hm hv rfl hn hd) rfl
/-- a local name as a value of any storey: it holds a scalar -/
def wVarS (i : Nat) : WE G := fun env g Q _ => ∃ d, env[i]? = some (some d) ∧ scal d ∧ Q d g
theorem de_varS (i : Nat) (hM : M i = 0 := by rfl) (hN : X.N[i]? = some x := by rfl) (hv : Vis X.env.scope x := by first | exact Or.inl rfl | exact Or.inr (Or.inl rfl) | exact Or.inr (Or.inr rfl)) (hd : (x == ("__debug__" : Str)) = false := by decide)
    (hcd : (x == ("__classdict__" : Str)) = false := by decide) : DE X Z W M n (.Name x p) (wVarS i) := by
  refine ⟨_, pe_var hN hv hd hcd, fun {Hs0 H0 Hs H σ env fp g Q Qd Ed} R p q k _ => ?_⟩
  obtain ⟨d, e, s, q⟩ := q
  obtain ⟨v, e1, o⟩ := R.at' i d e
  rw [hM] at o
  exact ⟨v, e1, k d g v Hs H [] q (Step.refl R.hs) (Own.sc (o.2.sc s)) List.nodup_nil (fun _ h => by cases h) p⟩
/-- a block before which what the names of I have is frozen -/
theorem db_give (I : List Nat) {ss : List Stmt} {ws : WS G} (h : DB X Z W (thaw M I) nr ss ws) : DB X Z W M nr ss (wGive I ws) := by
  obtain ⟨t, ps, r⟩ := h
  refine ⟨t, ps, fun {Hs0 H0 Hs H σ env fp g D Dd} R p q k => r (R.freeze I) p q ⟨fun e R p => k.nx e R.giveBack p, fun e R p => k.bk e R.giveBack p, fun e R p => k.ct e R.giveBack p, fun e s o nd fr p => k.rt e s o nd fr p, fun e R p hx sc h0 => k.ex e R.giveBack p hx sc h0⟩⟩
/-- raise C(e) -/
theorem ds_raiseN (N : Exn X.prog X.w X.K X.mg X.base x) (hr : Room k X.A) (tk : Takes X W) {wa : WA G} (ha : DA X Z W M [e] wa) (hjk : 2 ≤ k := by decide) (hc : X.calm = true := by rfl) (hg : Gl X x := by rfl)
    (hdb : (x == ("__debug__" : Str)) = false := by decide) (he : starEach [e] X.env = (false, eval e X.env) :: starEach [] X.env := by rfl) (hpl : (backTo pos (starEach [] X.env)).any (·.1) = false := by rfl) :
    DS X Z W M nr (.Raise (some (.Call (.Name x p) [e] [] pos)) none pos') (wRaise (clA X.mg x) wa) := by
  obtain ⟨fI, fd, h1, h2, h3, h4, _⟩ := N.fn
  exact ds_raise (mgs := N.I) h1 h2 (h4 _) (hr.mono hjk) h3 hc tk hg N.m ha hdb he hpl
/-- a call of a local name that holds the def named y -/
theorem de_callV {y : Str} {st : Stmt} {ps : List Str} {u : WA G} {sp : Spec Unit} (i : Nat) (F : Fn X.prog X.w X.K X.mg X.base j y st ps (spP X.K m sp)) (hgd : X.A.guards = some []) (hr : Room k X.A) (tk : Takes X W) (ha : DA X Z W M (e :: es) u) (hM : M i = 0 := by rfl) (hN : X.N[i]? = some x := by rfl)
    (hv : Vis X.env.scope x := by first | exact Or.inl rfl | exact Or.inr (Or.inl rfl) | exact Or.inr (Or.inr rfl)) (hjk : j ≤ k := by decide) (hdb : (x == ("__debug__" : Str)) = false := by decide)
    (hcd : (x == ("__classdict__" : Str)) = false := by decide) (he : starEach (e :: es) X.env = (false, eval e X.env) :: starEach es X.env := by rfl) (hpl : (backTo pos (starEach es X.env)).any (·.1) = false := by rfl) :
    DE X Z W M m (.Call (.Name x p) (e :: es) [] pos) (wFnV i (clA X.mg y) sp u) := by
  obtain ⟨f, fd, a, b, c, d⟩ := F
  rw [clA_of c]
  exact de_fnV b hgd (hr.mono hjk) tk hM hN hv a.kp d ha hdb hcd he hpl
end
section
variable {G : Type} {X : Cx} {Z : Vo G} {W : WX} {M : Nat → Nat} {n nr i j k m : Nat} {x n' : Str} {p pos pos' p1 p' p2 : Pos} {e : Expr} {es : List Expr} {a c dd : Addr} {oe : Obj} {pn : List (Addr × Obj)} {v : V} {d : Dt}
/-- e.value in the suite -/
theorem de_xv (i : Nat) (T : CatC X.K c) (hz : Zc (.ref c) (some dd) oe) (hf : ∃ vs, oe.data = .fields vs) (sc : Sc v d) (hM : M i = 0 := by rfl) (hN : X.N[i]? = some x := by rfl)
    (hv : Vis X.env.scope x := by first | exact Or.inl rfl | exact Or.inr (Or.inl rfl) | exact Or.inr (Or.inr rfl)) (hd : (x == ("__debug__" : Str)) = false := by decide) (hcd : (x == ("__classdict__" : Str)) = false := by decide)
    (hb : attributeBase (.Name x p1) "value" X.env (eval (.Name x p1) X.env) = eval (.Name x p1) X.env := by rfl) : DE (X.suite a ((a, oe) :: pn)) (Zx Z dd v) W M n (.Attribute (.Name x p1) "value" pos) (wXv i a d) :=
  de_xval T.X T.no hz hf sc hM hN hv hd hcd hb
/-- isinstance(e, C) in the suite, as words -/
def wKit (kit : Addr → Value → Option Bool) (c a : Addr) (u : WA G) : WE G := fun env g Q E => u env g (fun ds g' => ∃ (cl : V) (cu : Value) (b : Bool), ds = [.raw (.ref a), .raw cl] ∧ ClsV cl cu ∧ kit c cu = some b ∧ Q (.bl b) g') E
theorem de_kit {u : WA G} (C : CatC X.K c) (hz : Zc (.ref c) (some dd) oe) (hf : ∃ vs, oe.data = .fields vs) (hm : X.mg "isinstance" = none) (ha : DA (X.suite a ((a, oe) :: pn)) (Zx Z dd v) W M (e :: es) u) (hg : Gl X "isinstance" := by rfl)
    (he : starEach (e :: es) X.env = (false, eval e X.env) :: starEach es X.env := by rfl) (hpl : (backTo pos (starEach es X.env)).any (·.1) = false := by rfl) :
    DE (X.suite a ((a, oe) :: pn)) (Zx Z dd v) W M n (.Call (.Name "isinstance" p') (e :: es) [] pos) (wKit (cwOf X.K X.mg).kit c a u) := de_isX C.E hz hf ha hg hm he hpl
/-- isinstance(e, (C, ..)) in the suite -/
def wKits (kits : Addr → List Value → Option Bool) (c a : Addr) (i : Nat) (u : WA G) : WE G := fun env g Q E => env[i]? = some (some (.raw (.ref a))) ∧ u env g (fun ds g' => ∃ (cls : List V) (cus : List Value) (b : Bool), ds = cls.map Dt.raw ∧ Paired ClsV cls cus ∧ kits c cus = some b ∧ cls.length ≤ sizeLine ∧ Q (.bl b) g') E
theorem de_kits (i : Nat) {u : WA G} {x1 : Nat} (C : CatC X.K c) (hz : Zc (.ref c) (some dd) oe) (hf : ∃ vs, oe.data = .fields vs) (hm : X.mg "isinstance" = none) (ha : DA (X.suite a ((a, oe) :: pn)) (Zx Z dd v) W M es u) (hM : M i = 0 := by rfl) (hN : X.N[i]? = some x := by rfl)
    (hv : Vis X.env.scope x := by first | exact Or.inl rfl | exact Or.inr (Or.inl rfl) | exact Or.inr (Or.inr rfl)) (hg : Gl X "isinstance" := by rfl) (hd : (x == ("__debug__" : Str)) = false := by decide) (hcd : (x == ("__classdict__" : Str)) = false := by decide)
    (hs2 : starEach [.Tuple es x1 p2] X.env = [(false, eval (.Tuple es x1 p2) X.env)] := by rfl) (he : starEach [.Name x p1, .Tuple es x1 p2] X.env = (false, eval (.Name x p1) X.env) :: starEach [.Tuple es x1 p2] X.env := by rfl) (hpl : (backTo pos (starEach [.Tuple es x1 p2] X.env)).any (·.1) = false := by rfl) :
    DE (X.suite a ((a, oe) :: pn)) (Zx Z dd v) W M n (.Call (.Name "isinstance" p') [.Name x p1, .Tuple es x1 p2] [] pos) (wKits (cwOf X.K X.mg).kits c a i u) := de_isXT C.E hz hf hM hN hv ha hg hm hd hcd hs2 he hpl
/-- try: .. except C as n: .. -/
theorem ds_tryAs {y : Str} {ca : Addr} {body suite : List Stmt} {b₀ : Stmt} {np : Pos} {wb : WS G} {ws : Addr → Addr → Dt → WS G} (i : Nat) (hm : X.mg y = some (.ref ca)) (tk : Takes X W)
    (hb : ∀ (W' : WX) (pn : List (Addr × Obj)) (xe : Value → Shared → Prop), Takes (X.tr pn xe) W' → PassesOwn (model X.prog X.w) X.A X.env xe → DB (X.tr pn xe) Z W' M nr body wb)
    (hsu : ∀ (a : Addr) (oe : Obj) (c : Addr) (d : Dt) (dd : Addr) (v : V) (pn : List (Addr × Obj)), CatC X.K c → Zc (.ref c) (some dd) oe → (∃ vs, oe.data = .fields vs) → Sc v d → DB (X.suite a ((a, oe) :: pn)) (Zx Z dd v) W0 M nr (b₀ :: suite) (ws a c d))
    (hs : X.stack = X.env :: X.outer := by rfl) (hf : X.env.frame = some X.env.locals := by rfl) (hN : X.N.Nodup := by decide +kernel) (hi : X.N[i]? = some n' := by rfl) (hln : X.env.kindOf n' = some .local := by rfl) (hg : Gl X y := by rfl) (hd : (y == ("__debug__" : Str)) = false := by decide) (hM : ∀ j, M j = 0 := by intro; rfl) :
    DS X Z W M nr (.Try body [.ExceptHandler (some (.Name y np)) (some n') (b₀ :: suite) pos'] [] [] pos) (wTryAs (fun c' => (cwOf X.K X.mg).exm c' (.ref (clA X.mg y))) (cwOf X.K X.mg).ok i wb ws) := by
  rw [clA_of hm]
  exact ds_try_as hs hf hN hi hln ⟨hg, hd, .inl hm⟩ tk hM hb hsu
end
section
open PySem.W
variable {P : Program} {w : World} {K : PySem.W.Frag} {mg : Str → Option Value} {base : Heap}
/-- such a class, from what the written part says -/
theorem exn_mk {x qual txt : Str} {j : Nat} {p0 p1 p2 p3 p4 p5 p6 p7 p8 p9 : Pos} {ar : Arg} {vs : Array Value} {file : Str} {tf : Tok} {kV doc pm ct oc ccl cl : Value} {an od cdd cld : Option Addr} {osl ccs csl : Array (Option Value)}
    {st : Stmt} {f cda cc C : Addr} {nm q : Str} {N : Addr} {bs bm sn sub : _} {ab col dd k0 k1 k2 k3 k5 : _}
    (hm : mg x = some (.ref C)) (hI : findIn K (.ref C) "__init__" = some (some (.ref f)))
    (lk : K.lookup f = some ⟨oc, od, .func (ksFn "__init__" qual (defArgs st) (defBody st) (defScope st) .none kV doc pm an (.ref cda) ct cc), osl⟩)
    (hcd : codeIn K (.ref cda) qual = true) (tI : typeIn K (.ref f) = some (.type "function")) (hcode : K.lookup cda = some ⟨ccl, cdd, .fields vs, ccs⟩) (hcell : K.lookup cc = some ⟨cl, cld, .cell (some (.ref C)), csl⟩)
    (hC : K.lookup C = some (excClassObj nm q C N bs bm true sn sub ab col dd k0 k1 k2 k3 k5 "ValueError.__new__")) (hr : PySem.HandSPX.refsVE bm = true)
    (sa : findIn K (.ref C) "__setattr__" = some (some (.builtin "object.__setattr__"))) (exC : subIn K (.ref C) (.type "BaseException") = some true) (tyC : typeIn K (.ref C) = some (.type "type")) (kC : keepIn K (.ref C) = true)
    (no : findIn K (.ref C) "value" = some none) (sb : mroIn K C (.ref C) = some true) (hsup : mg "super" = none) (top : (P.main.scope.names.lookup ("super" : Str)).isSome = false) (any : nsIn K cStatics "thirdparty.any" = some none)
    (up : ks_superIn K C C "__init__" = some (some (.builtin "ValueError.__init__"))) (ve : subIn K (.ref C) (.type "ValueError") = some true)
    (hvs : vs[2]? = some (.str file tf)) (hfile : ((P.main.file : Str) == file) = true)
    (hbd : defBody st = [.Expr (.Call (.Attribute (.Call (.Name "super" p0) [] [] p1) "__init__" p2) [.Constant (.str txt) j p3] [] p4) p5, .Assign [.Attribute (.Name "self" p6) "value" p7] (.Name "value" p8) p9])
    (S : ScI (defScope st)) (hev : EvI qual (defScope st) f cda cc txt j p0 p1 p2 p3 p4 (fun env => do return (← importBound (.Call (.Name "super" p0) [] [] p1) env).getD true)) (hp : ((defArgs st).posonlyargs ++ (defArgs st).args).head? = some ar) (har : ar.arg = "self")
    (hsw : ∀ L : Addr, swapsWith (.Name "value" p8) (some (.Attribute (.Name "self" p6) "value" p7)) p9.line (ksEnv qual (defScope st) L f (.ref cda) cc) = pure false)
    (hbi : ∀ us : List Value, us.length = 2 → bindArgs (ksFn "__init__" qual (defArgs st) (defBody st) (defScope st) .none kV doc pm an (.ref cda) ct cc) ⟨us, []⟩ = pure ((["self", "value"] : List Str).zip us)) : Exn P w K mg base x := by
  have e := clA_of hm
  refine ⟨by rw [e]; exact hm, ?_, f, _, ?_, tI, .all hbi, fun CX => ?_, fun CX => ?_⟩
  · rw [e]; exact ⟨⟨⟨_, _, _, _, _, _, _, _, _, _, _, _, _, _, _, hC, hr⟩, sa, exC, tyC, kC⟩, no, sb, hsup, top, any, up, ve⟩
  · rw [e]; exact hI
  · rw [e]
    have J : ExI P K mg C := ⟨⟨⟨_, _, _, _, _, _, _, _, _, _, _, _, _, _, _, hC, hr⟩, sa, exC, tyC, kC⟩, no, sb, hsup, top, any, up, ve⟩
    rw [hbd] at lk ⊢
    exact exi_fn S hev J lk hcd hp har hcode hvs hfile hcell hsw
  · rw [e]
    have J : ExI P K mg C := ⟨⟨⟨_, _, _, _, _, _, _, _, _, _, _, _, _, _, _, hC, hr⟩, sa, exC, tyC, kC⟩, no, sb, hsup, top, any, up, ve⟩
    rw [hbd] at lk ⊢
    exact exi_fnH S hev J lk hcd hp har hcode hvs hfile hcell hsw
end
end Vl

/-! Vl25: defs whose exceptions bear no context; a suite that raises another exception. -/
namespace Vl
open PySem PySem.Spec L2
/-- a def's contract; its exceptions were raised where nothing was handled -/
structure GOkN (P : Program) (w : World) (K : PySem.W.Frag) (mg : Str → Option Value) (base : Heap) (k : Nat) (f : Addr) (fd : FuncData) (ps : List Str) (sp : Sp) : Prop where
  len : ∀ vs H Q E, sp vs H Q E → vs.length = ps.length
  run : ∀ (A : Around) (outer : List PySem.Env) (s : Shared) (H : Hp) (args : Args) (us : List Value) (vs : List V) (Q : VK) (E : XK), A.guards = some [] → Room k A → Env0 P w K mg base A outer s H →
    BindsTo s fd args (ps.zip us) → Vals vs us → sp vs H Q E → codeAny (model P w) A (.call (.ref f) args) (CR (L2N.CX P w) outer P w H s Q E) s
theorem GOkN.mono {P : Program} {w : World} {K : PySem.W.Frag} {mg : Str → Option Value} {base : Heap} {j k : Nat} {f : Addr} {fd : FuncData} {ps : List Str} {sp : Sp} (F : GOkN P w K mg base j f fd ps sp) (h : j ≤ k) : GOkN P w K mg base k f fd ps sp :=
  ⟨F.len, fun A outer s H args us vs Q E hg hr => F.run A outer s H args us vs Q E hg (hr.mono h)⟩
abbrev ctxN (P : Program) (w : World) (K : PySem.W.Frag) (mg : Str → Option Value) (base : Heap) (N : List Str) (qual : Str) (st : Stmt) (f : Addr) (cdv : Value) (A : Around) (outer : List PySem.Env) (s : Shared) (H : Hp) (E : XK) : Cx :=
  cxOf (L2N.CX P w) P w K mg base N qual (defScope st) f cdv A outer s H E
section
variable {P : Program} {w : World} {K : PySem.W.Frag} {mg : Str → Option Value} {base : Heap}
theorem takes_ctxN {N : List Str} {qual : Str} {st : Stmt} {f : Addr} {cdv : Value} {A : Around} {outer : List PySem.Env} {s : Shared} {H : Hp} {E : XK} : L2N.Takes (ctxN P w K mg base N qual st f cdv A outer s H E) (WO E) := L2N.takes_of rfl rfl rfl rfl
theorem passes_ctxN {N : List Str} {qual : Str} {st : Stmt} {f : Addr} {cdv : Value} {A : Around} {outer : List PySem.Env} {s : Shared} {H : Hp} {E : XK} :
    PassesOwn (model (ctxN P w K mg base N qual st f cdv A outer s H E).prog (ctxN P w K mg base N qual st f cdv A outer s H E).w) (ctxN P w K mg base N qual st f cdv A outer s H E).A (ctxN P w K mg base N qual st f cdv A outer s H E).env (ctxN P w K mg base N qual st f cdv A outer s H E).xe := passes_of rfl
theorem GOkN.of {x qual : Str} {st : Stmt} {f : Addr} {fd : FuncData} {N ps : List Str} {k : Nat} {sp : Sp} (F : Fun K x qual st f fd) (S : FnScope N ps (defScope st)) (len : ∀ vs H Q E, sp vs H Q E → vs.length = ps.length)
    (body : ∀ (cdv : Value) (A : Around) (outer : List PySem.Env) (s : Shared) (H : Hp) (vs : List V) (Q : VK) (E : XK), (ctxN P w K mg base N qual st f cdv A outer s H E).A.guards = some [] → Room k (ctxN P w K mg base N qual st f cdv A outer s H E).A →
      sp vs H Q E → ∃ t, PSs (ctxN P w K mg base N qual st f cdv A outer s H E) (defBody st) t ∧ t { nx := fun _ H' => Q .non H', rt := Q } (start N vs) H) : GOkN P w K mg base (k + 1) f fd ps sp := by
  obtain ⟨oc, od, kV, doc, pm, an, cdv, ct, osl, rfl, look, code⟩ := F.ex
  refine ⟨len, fun A outer s H args us vs Q E hgd room ent bind rel hsp => ?_⟩
  have hlen := len _ _ _ _ hsp
  have inK : K.In s.heap := ent.mod.kin.keeps fun b o q => (ent.bs b o q).1
  have noLim : s.heap.NoLimit := ent.mod.nolimit.keeps fun b o q => (ent.bs b o q).1
  have kinds : ∀ y ∈ ps.zip us, (defScope st).names.lookup y.1 = some .local ∨ ((defScope st).names.lookup y.1 = some .cell ∧ ((cellsFrom (s.heap.objs.size + 1) (defScope st).names []).lookup y.1).isSome = true) := by
    rintro ⟨nm, val⟩ hy
    rcases S.par nm (List.of_mem_zip hy).1 with q | q
    · exact .inl q
    · exact .inr ⟨q, PySem.W.cellsFrom_some _ _ _ (.inl q)⟩
  refine codeAny_call_function room.depth (inK _ _ look) rfl S.co S.gen rfl (PySem.W.codeRec_of inK code) (bind _ _ _ _ ?_)
  refine wpAny_newFunctionEnv_cells S.kind kinds fun env henv s1 ic => ?_
  subst henv
  refine ⟨noLim.keeps ic.toInCall.keep, codeAny_func ?_⟩
  obtain ⟨t, ht, hq⟩ := body cdv A outer s H vs Q E hgd (room.deeper _) hsp
  have J0 : Inv (ctxN P w K mg base N qual st f cdv A outer s H E) [] (start N vs) H s1 := inv_start S room.hd ent hlen rel ic
  refine wpAny_mono (ht.run [] s1 (start N vs) H _ J0 hq) (fun flow s' end' => ?_) fun _ _ z => z
  have close : ∀ {σ' : St} {H' : Hp} {v : V} {u : Value}, Inv (ctxN P w K mg base N qual st f cdv A outer s H E) [] σ' H' s' → RelV v u → Q v H' → CE outer P w H s Q u s' :=
    fun {σ' H' v u} J rv q => ⟨v, H', J.os, J.bare, J.base, J.hok, rv, q⟩
  cases flow with
  | next =>
    obtain ⟨_, _, J, q⟩ := end'
    exact close (v := V.non) (u := Value.none) J rfl q
  | ret u =>
    obtain ⟨_, _, _, J, rv, q⟩ := end'
    exact close J rv q
  | brk =>
    obtain ⟨_, _, _, z⟩ := end'
    exact z.elim
  | cont =>
    obtain ⟨_, _, _, z⟩ := end'
    exact z.elim
/-- the rule for such a def -/
theorem fn_dataN {G ι : Type} {Z : ι → Vo G} {x qual : Str} {st : Stmt} {f : Addr} {fd : FuncData} {N ps : List Str} {k m : Nat} {sp : ι → Spec G} (F : Fun K x qual st f fd) (S : FnScope N ps (defScope st)) (M : ι → Nat → Nat) (wb : ι → WS G)
    (len : ∀ i ds g Q E, sp i ds g Q E → ds.length = ps.length) (hM : ∀ i j, j < ps.length → M i j = 0)
    (body : ∀ i (cdv : Value) (A : Around) (outer : List PySem.Env) (s : Shared) (H : Hp) (E : XK), (ctxN P w K mg base N qual st f cdv A outer s H E).A.guards = some [] → Room k (ctxN P w K mg base N qual st f cdv A outer s H E).A →
      DB (ctxN P w K mg base N qual st f cdv A outer s H E) (Z i) (WO E) (M i) m (defBody st) (wb i))
    (law : ∀ i ds g Q E, sp i ds g Q E → wb i { nx := fun _ g => Q .non g, rt := Q, ex := fun c d _ g => E c d g } (startE N ds) g) : GOkN P w K mg base (k + 1) f fd ps (spF K Z m sp) := by
  refine GOkN.of F S (fun vs H Q E h => ?_) fun cdv A outer s H vs Q E hgd hr h => ?_
  · obtain ⟨i, Hs, ds, g, Qd, Ed, _, _, r, _, hsp, _⟩ := h
    rw [r.length]
    exact len _ _ _ _ _ hsp
  · obtain ⟨i, Hs, ds, g, Qd, Ed, s0, hz, r, p, hsp, ke, kx⟩ := h
    obtain ⟨t, ps', ref⟩ := body i cdv A outer s H E hgd hr
    refine ⟨t, ps', ref (SR.start s0 hz r p fun j hj => hM i j (by rw [← len _ _ _ _ _ hsp]; exact hj)) p (law i ds g Qd Ed hsp) ⟨?_, fun q => q.elim, fun q => q.elim, ?_, ?_⟩⟩
    · intro env g' Hs' H' σ' fp' q R p'
      exact ke .non g' .non Hs' H' [] q R.st (Own.sc trivial) List.nodup_nil (fun _ h => (by cases h)) p'
    · intro d g' v Hs' H' f' q st o nd fr p'
      exact ke d g' v Hs' H' f' q st o nd fr p'
    · intro c d env g' v y Hs' H' σ' fp' q R p' hx sc h0
      exact kx c d g' v y Hs' H' q R.st h0 hx sc p'
def FnN (P : Program) (w : World) (K : PySem.W.Frag) (mg : Str → Option Value) (base : Heap) (k : Nat) (x : Str) (st : Stmt) (ps : List Str) (sp : Sp) : Prop :=
  ∃ f fd, Fun K x x st f fd ∧ GOkN P w K mg base k f fd ps sp ∧ mg x = some (.ref f) ∧ Binds K fd ps []
end
section
variable {X : Cx} {k : Nat} {f : Addr} {fd : FuncData} {ps : List Str} {sp : Sp} {W : WX} {x : Str} {p pos : Pos} {e : Expr} {es : List Expr} {t : TA}
theorem run_gN {pins : List (Addr × Obj)} {σ : St} {H : Hp} {s : Shared} {Q : VK} {args : Args} {us : List Value} {vs : List V} (F : GOkN X.prog X.w X.K X.mg X.base k f fd ps sp) (hgd : X.A.guards = some []) (hr : Room k X.A) (tk : L2N.Takes X W)
    (I : Inv X pins σ H s) (hb : BindsTo s fd args (ps.zip us)) (r : Vals vs us) (h : sp vs H Q (fun cls d H' => W cls d σ H')) : codeAny (model X.prog X.w) X.A (.call (.ref f) args) (fun r s' => match r with
      | .ok (.ret u) => EP X pins σ Q u s'
      | .ok _ => False
      | .error e => X.xe e s') s := by
  refine codeAny_mono (F.run X.A X.stack s H args us vs Q _ hgd hr I.env0 hb r h) fun res s' hq => ?_
  cases res with
  | error e => exact tk e s' (L2N.XE.of_call I (fun _ _ _ h => h) hq)
  | ok fl =>
    cases fl with
    | ret u => exact I.after hq
    | next => exact hq.elim
    | brk => exact hq.elim
    | cont => exact hq.elim
theorem pe_gN (F : GOkN X.prog X.w X.K X.mg X.base k f fd ps sp) (hgd : X.A.guards = some []) (hr : Room k X.A) (tk : L2N.Takes X W) (hg : Gl X x) (hm : X.mg x = some (.ref f)) (hk : PySem.W.keepIn X.K (.ref f) = true) (hb : Binds X.K fd ps [])
    (ha : PA X (e :: es) t) (hdb : (x == ("__debug__" : Str)) = false := by decide) (he : starEach (e :: es) X.env = (false, eval e X.env) :: starEach es X.env := by rfl) (hpl : (backTo pos (starEach es X.env)).any (·.1) = false := by rfl) :
    PE X (.Call (.Name x p) (e :: es) [] pos) (fun σ H Q => t σ H fun vs H1 => sp vs H1 Q (fun cls d H' => W cls d σ H')) := by
  refine ⟨fun pins s σ H Q I h => wpAny_Call_Name_kw (ld_glob I hg hm ?_ hdb)⟩
  refine PySem.W.callWith_K (h₀ := X.base) I.ok.mod.kin hk (thn (ha.run pos pins s σ H _ I h) fun us s1 ⟨vs, H1, J, r, q⟩ => ⟨J.kIn, ?_⟩) he hpl
  have hl : us.length = ps.length := by rw [← r.length]; exact F.len _ _ _ _ q
  have bb := hb s1 us J.kIn (by rw [List.append_nil]; exact hl)
  rw [List.append_nil] at bb
  refine wpAny_call (codeAny_mono (run_gN F hgd hr tk J bb r q) fun res s' hq => ?_)
  cases res with
  | error e => exact hq
  | ok fl =>
    cases fl with
    | ret u => exact hq
    | next => exact hq.elim
    | brk => exact hq.elim
    | cont => exact hq.elim
end
section
variable {G : Type} {X : Cx} {Z : Vo G} {W : WX} {M : Nat → Nat} {n nr i j k m : Nat} {x : Str} {p pos pos' p1 p' : Pos} {e : Expr} {es : List Expr}
theorem de_callN {st : Stmt} {ps : List Str} {u : WA G} {sp : Spec Unit} (F : FnN X.prog X.w X.K X.mg X.base j x st ps (spP X.K m sp)) (hgd : X.A.guards = some []) (hr : Room k X.A) (tk : L2N.Takes X W) (ha : DA X Z W M (e :: es) u) (hjk : j ≤ k := by decide) (hg : Gl X x := by rfl)
    (hdb : (x == ("__debug__" : Str)) = false := by decide) (he : starEach (e :: es) X.env = (false, eval e X.env) :: starEach es X.env := by rfl) (hpl : (backTo pos (starEach es X.env)).any (·.1) = false := by rfl) :
    DE X Z W M m (.Call (.Name x p) (e :: es) [] pos) (wFn sp u) := by
  obtain ⟨f, fd, a, b, c, d⟩ := F
  obtain ⟨t, pa, r⟩ := ha
  exact ⟨_, pe_gN b hgd (hr.mono hjk) tk hg c a.kp d pa hdb he hpl, fun R p q k x => r R p q (fun ds g' vs Hs' H' e s o p' => call_pure s o p' e k x) x⟩
end
end Vl

/-! Vl26: raise where nothing is handled, and in a suite that raises on. -/
namespace Vl
open PySem PySem.Spec L2
section
variable {X : Cx} {CX : CXT} {x : Str} {C fI : Addr} {k : Nat} {fd : FuncData} {ps : List Str} {sp : Sp} {e : Expr} {es : List Expr} {ta : TA} {p pos : Pos}
/-- C(e, ..) in a raise: the exception made has no context -/
theorem pmk_cold (T : OexC X.K C) (iC : PySem.W.findIn X.K (.ref C) "__init__" = some (some (.ref fI))) (tI : PySem.W.typeIn X.K (.ref fI) = some (.type "function")) (F1 : FnOk X.prog X.w X.K X.mg X.base CX k fI fd ps sp) (hr : Room (k + 1) X.A) (hb : Binds X.K fd ps []) (hx : Passes CX X (fun _ _ _ => False))
    (hg : Gl X x) (hm : X.mg x = some (.ref C)) (ha : PA X (e :: es) ta) (hdb : (x == ("__debug__" : Str)) = false := by decide) (he : starEach (e :: es) X.env = (false, eval e X.env) :: starEach es X.env := by rfl) (hpl : (backTo pos (starEach es X.env)).any (·.1) = false := by rfl) :
    L2N.PMk X (.Call (.Name x p) (e :: es) [] pos) (tMkO C sp [] ta) := by
  intro pins s0 σ H Q I h
  obtain ⟨n1, n2, n3, n4, bm, n5, n6, n7, n8, n9, y0, y1, y2, y3, y5, clsAt, bmOk⟩ := T.cls
  refine wpAny_Call_Name_kw (ld_glob I hg hm (PySem.W.callWith_K (h₀ := X.base) I.ok.mod.kin T.kC (thn (ha.run pos pins s0 σ H _ I h) fun us s1 got => ?_) he hpl) hdb)
  obtain ⟨vs, H1, I1, rel, few, want⟩ := got
  refine ⟨I1.kIn, ?_⟩
  show wpAny _ _ (call (.ref C) us) _ _ _
  obtain ⟨hp, gs, dw, tks, oss⟩ := s1
  -- the object and its arguments are laid behind all that stands
  let hp' : Heap := (hp.push (PySem.W.kdv_tup us)).push (PySem.HandSPX.excO C hp.objs.size)
  have grown : ∀ b o, hp.get? b = some o → hp'.get? b = some o := fun b o q => Heap.get?_push_of_some _ (Heap.get?_push_of_some _ q)
  have laid : hp'.get? (hp.objs.size + 1) = some (PySem.HandSPX.excO C hp.objs.size) := by heap_get
  have above : hp.objs.size ≤ hp.objs.size + 1 := Nat.le_succ _
  have promise := want (hp.objs.size + 1) (I1.hok.fresh above)
  have I2 : Inv X pins σ (upd H1 (hp.objs.size + 1) (exo (hp.objs.size + 1) C none)) ⟨hp', gs, dw, tks, oss⟩ :=
    I1.laid (t' := tks) (a := hp.objs.size + 1) (o := exo (hp.objs.size + 1) C none) (h' := hp') grown above (exo_ok laid)
  rw [List.append_nil] at promise
  have rel2 : Vals (V.ref (hp.objs.size + 1) :: vs) (Value.ref (hp.objs.size + 1) :: us) := .cons rfl rel
  have count : (Value.ref (hp.objs.size + 1) :: us ++ []).length = ps.length := by
    rw [List.append_nil, ← rel2.length]
    exact F1.len _ _ _ _ promise
  have short : us.length ≤ sizeLine := by
    have := Paired.length rel
    rw [sizeLine_eq]
    omega
  have bound := hb ⟨hp', gs, dw, tks, oss⟩ (Value.ref (hp.objs.size + 1) :: us) I2.kIn count
  rw [List.append_nil] at bound
  have init := F1.run _ X.stack _ _ ⟨Value.ref (hp.objs.size + 1) :: us, []⟩ _ _ _ (fun _ _ _ => False) (hr.make C us []) (I2.env0.make C us []) bound rel2 promise
  refine wpAny_call (PySem.HandSPX.call_own F.excBase_ValueError (fun Y => PySem.HandSPX.refsVE_contains Y bm bmOk) (I1.kIn _ _ clsAt) (PySem.W.looks_findIn I1.kIn iC) (fun self => PySem.W.bind_fn I1.kIn self tI) short (codeAny_mono init fun res s' ended => ?_))
  match res, ended with
  | .error er, ended => exact hx pins σ _ _ er s' I2 ended
  | .ok .next, ended => exact False.elim ended
  | .ok .brk, ended => exact False.elim ended
  | .ok .cont, ended => exact False.elim ended
  | .ok (.ret u), ended =>
    obtain ⟨v, H2, os2, bare2, un2, hok2, rv, ev, d, fs, ea, ed, hd1, q2⟩ := ended
    subst ev
    obtain ⟨h2, gs2, dw2, tks2, oss2⟩ := s'
    obtain ⟨t0, G, J, kG, ge, hoe, na⟩ := mk_end0 (d2 := dw2) (t2 := tks2) I1 above grown un2 hok2 os2 bare2 ea ed hd1
    exact ⟨rv, _, _, _, ⟨G, gs2, dw2, tks2, oss2⟩, _, .ref C, some d, rfl, J, kG, ge, hoe, ⟨rfl, rfl, fun vs' z => by cases z; rfl⟩, rfl, rfl, na, rfl, bare2, raises_own T.exC T.tyC, q2⟩
end
section
variable {G : Type} {X : Cx} {Z : Vo G} {W : WX} {M : Nat → Nat} {n nr i j k m : Nat} {x y : Str} {p pos pos' p1 p' np : Pos} {e : Expr} {es : List Expr}
/-- what the making of C(e) gives, to the one who raises it -/
theorem raise_give {Hs0 H0 Hs H : Hp} {σ : St} {env : Env} {fp : Nat → List Addr} {g : G} {C : Addr} {ta : TA} {wa : WA G} {E : XD G} {Q : XK} (R : SR X.K M Z.vol Hs0 H0 Hs H σ env fp) (pz : Z.P g H)
    (ra : ∀ {Hs0 H0 Hs H : Hp} {σ : St} {env : Env} {fp : Nat → List Addr} {g : G} {Q : List V → Hp → Prop} {Qd : List Dt → G → Prop} {Ed : XD G}, SR X.K M Z.vol Hs0 H0 Hs H σ env fp → Z.P g H → wa env g Qd Ed → (∀ ds g vs Hs' H', Qd ds g → Step Z.vol Hs H Hs' H' → RpL X.K Hs' vs ds → Z.P g H' → Q vs H') → GoX Z W Hs H σ Ed → ta σ H Q)
    (q : wa env g (fun ds g' => ∃ d, ds = [d] ∧ scal d ∧ E C d g') E) (gx : GoX Z W Hs H σ E)
    (k : ∀ d g' v Hs' H' dx, E C d g' → SR X.K M Z.vol Hs0 H0 Hs' (upd H' dx (.xd [("value", v)])) σ env fp → Z.P g' (upd H' dx (.xd [("value", v)])) → XdAt Hs' (upd H' dx (.xd [("value", v)])) dx v → Sc v d → H0 dx = none → Q (.ref C) (some dx) (upd H' dx (.xd [("value", v)]))) :
    tMkO C (spI X.K C) [] ta σ H Q := by
  refine ra R pz q (fun ds g' vs Hs' H' e s r p' => ?_) gx
  obtain ⟨d, rfl, sd, ex⟩ := e
  cases r with
  | @cons v _ _ _ r1 r2 =>
  cases r2
  refine ⟨by simp, fun a na => ⟨a, v, rfl, upd_same, fun dx ndx hne => ⟨rfl, dx, [("value", v)], upd_same, ?_, ?_, ?_⟩⟩⟩
  · rw [upd_ne hne, upd_same]
  · rw [upd_ne hne] at ndx
    exact ndx
  · rw [upd_ne hne] at ndx
    rw [made_heap na ndx hne]
    have st : Step Z.vol Hs' H' Hs' (upd H' dx (.xd [("value", v)])) := Step.new (R.step s).hs ndx
    have st0 : Step [] Hs' H' Hs' (upd H' dx (.xd [("value", v)])) := Step.new (R.step s).hs ndx
    exact k d g' v Hs' H' dx ex ((R.step s).step st) (Z.pure p' st0) ⟨upd_same, by cases z : Hs' dx with | none => rfl | some o => have y := (R.step s).hs _ _ z; rw [ndx] at y; cases y⟩ (r1.sc sd) (fresh_of (R.step s).st ndx)
/-- raise C(e), where the exception's context matters -/
theorem ds_raiseC (N : Exn X.prog X.w X.K X.mg X.base x) (hr : Room k X.A) (tk : L2N.Takes X W) {wa : WA G} (ha : DA X Z W M [e] wa) (hjk : 2 ≤ k := by decide) (hc : X.calm = true := by rfl) (hg : Gl X x := by rfl)
    (hdb : (x == ("__debug__" : Str)) = false := by decide) (he : starEach [e] X.env = (false, eval e X.env) :: starEach [] X.env := by rfl) (hpl : (backTo pos (starEach [] X.env)).any (·.1) = false := by rfl) :
    DS X Z W M nr (.Raise (some (.Call (.Name x p) [e] [] pos)) none pos') (wRaise (clA X.mg x) wa) := by
  obtain ⟨fI, fd, h1, h2, h3, h4, _⟩ := N.fn
  obtain ⟨t, pa, ra⟩ := ha
  exact ⟨_, L2N.ps_raise hc tk (pmk_cold N.I.T h1 h2 (h4 (L2N.CX X.prog X.w)) (hr.mono hjk) h3 (L2N.passes_call tk fun _ _ _ _ z => z.elim) hg N.m pa hdb he hpl), fun {Hs0 H0 Hs H σ env fp g D Dd} R p q kk =>
    raise_give (E := fun c d g' => Dd.ex c d env g') R p ra q (kk.gox R) fun d g' v Hs' H' dx ex R' p' hx sc h0 => kk.ex ex R' p' hx sc h0⟩
/-- try: body except C: raise D(e) from None -/
def wTryR (exm : Addr → Option Bool) (C : Addr) (wb : WS G) (wa : WA G) : WS G := fun D env g =>
  wb { D with ex := fun c d env' g' => ∃ b, exm c = some b ∧ (b = true → wRaise C wa D env' g') ∧ (b = false → D.ex c d env' g') } env g
theorem ds_tryRaise {ca : Addr} {body : List Stmt} {jn : Nat} {cpos pos2 pos3 : Pos} {wb : WS G} {wa : WA G} (N : Exn X.prog X.w X.K X.mg X.base x) (hm : X.mg y = some (.ref ca)) (hr : Room k X.A) (tk : Takes X W) (hpa : ∀ hd : Option Value, PassesOwnAt (model X.prog X.w) (X.A.mark hd) X.A X.env X.xe)
    (hb : ∀ (W' : WX) (pn : List (Addr × Obj)) (xe : Value → Shared → Prop), L2N.Takes (X.tr pn xe) W' → DB (X.tr pn xe) Z W' M nr body wb)
    (ha : ∀ (a : Addr) (oe : Obj) (pn : List (Addr × Obj)), DA (L2H.suiteX X a ((a, oe) :: pn)) Z W M [e] wa) (hjk : 2 ≤ k := by decide)
    (hs : X.stack = X.env :: X.outer := by rfl) (hf : X.env.frame = some X.env.locals := by rfl) (hg : Gl X x := by rfl) (hg' : Gl X y := by rfl) (hdb : (x == ("__debug__" : Str)) = false := by decide) (hd : (y == ("__debug__" : Str)) = false := by decide)
    (he : starEach [e] X.env = (false, eval e X.env) :: starEach [] X.env := by rfl) (hpl : (backTo pos (starEach [] X.env)).any (·.1) = false := by rfl) :
    DS X Z W M nr (.Try body [.ExceptHandler (some (.Name y np)) none [.Raise (some (.Call (.Name x p) [e] [] pos)) (some (.Constant .none jn cpos)) pos'] pos2] [] [] pos3) (wTryR (fun c' => (cwOf X.K X.mg).exm c' (.ref (clA X.mg y))) (clA X.mg x) wb wa) := by
  rw [clA_of hm]
  obtain ⟨fI, fd, h1, h2, h3, _, h4⟩ := N.fn
  refine ⟨_, L2H.ps_try_onlyX (Wout := W) (tb := fun W' D σ H => ∃ (Hs0 H0 Hs : Hp) (env : Env) (fp : Nat → List Addr) (g : G) (Dd : DEnds G), SR X.K M Z.vol Hs0 H0 Hs H σ env fp ∧ Z.P g H ∧ wb Dd env g ∧ GoS X.K Z M nr W' Hs0 H0 Dd D)
    (ts := fun _ _ _ D σ H => ∃ (Hs0 H0 Hs : Hp) (env : Env) (fp : Nat → List Addr) (g : G) (Dd : DEnds G), SR X.K M Z.vol Hs0 H0 Hs H σ env fp ∧ Z.P g H ∧ wRaise (clA X.mg x) wa Dd env g ∧ GoS X.K Z M nr W Hs0 H0 Dd D)
    hs hf ⟨hg', hd, .inl hm⟩ hpa tk (fun W' pn xe t1 _ _ => ⟨fun pins s σ H D I h => ?_⟩) (fun a oe cls d pn z f tk' hot => ⟨fun pins s σ H D I h => ?_⟩), fun {Hs0 H0 Hs H σ env fp g D Dd} R p q k => ?_⟩
  · obtain ⟨Hs0, H0, Hs, env, fp, g, Dd, R, p', q, k⟩ := h
    obtain ⟨t', ps, r⟩ := hb W' pn xe t1
    exact ps.run pins s σ H D I (r R p' q k)
  · obtain ⟨Hs0, H0, Hs, env, fp, g, Dd, R, p', q, kk⟩ := h
    obtain ⟨t, pa, ra⟩ := ha a oe pn
    have mk := L2H.pmk5_oexH (p := p) (X := L2H.suiteX X a ((a, oe) :: pn)) N.I.T h1 h2 (h4 (L2.CX X.prog X.w)) (L2H.roomH_mark (hr.mono hjk) _) hot h3 (L2.passes_call tk' fun _ _ _ _ z => z.elim) hg N.m pa hdb he hpl
    exact (pss_one (L2H.ps_raiseHN hot tk' mk)).run pins s σ H D I (raise_give (E := fun c d g' => Dd.ex c d env g') R p' ra q (kk.gox R) fun d g' v Hs' H' dx ex R' p' hx sc h0 => kk.ex ex R' p' hx sc h0)
  · refine ⟨Hs0, H0, Hs, env, fp, g, _, R, p, q, ⟨k.nx, k.bk, k.ct, k.rt, ?_⟩⟩
    intro c' d env' g' v y Hs' H' σ' fp' e R' p' hx sc h0
    obtain ⟨b, e1, e2, e3⟩ := e
    exact ⟨b, e1, fun hb' a na => ⟨_, _, _, _, _, _, _, R', p', e2 hb', k⟩, fun hb' => k.ex (e3 hb') R' p' hx sc h0⟩
end
end Vl

/-! Vl27: rows of an inner own list are written in a loop. -/
namespace Vl
open PySem PySem.Spec L2
section
variable {G : Type} {X : Cx} {Z : Vo G} {W : WX} {M : Nat → Nat} {n nr : Nat}
variable {e : Expr} {es : List Expr} {w : WE G} {pos p1 p2 p3 p4 p5 p6 : Pos} {x y z : Str}
/-- a thing within an own list, and written -/
theorem own_in1 {K : PySem.W.Frag} {vol : List Addr} {Hs0 H0 Hs H : Hp} {σ : St} {env : Env} {fp : Nat → List Addr} (R : SR K M vol Hs0 H0 Hs H σ env fp) {i j : Nat} {p : Addr} {ws : List V} {ods : List Dt} {fs : List Addr} {d : Dt} (hm : M i = n + 1) (hσ : σ[i]? = some (some (.ref p)))
    (hf : fp i = p :: fs) (hp : H p = some (.lst ws)) (ow : OwL (Own K Hs H n) ws ods fs) (hd : ods[j]? = some d) :
    ∃ v f, ws[j]? = some v ∧ Own K Hs H n v d f ∧ (∀ b ∈ f, b ∈ fp i) ∧ f.Nodup ∧ p ∉ f ∧
    ∀ {q : Addr} {o : HO} {d' : Dt} {f' : List Addr}, q ∈ f → Own K Hs (upd H q o) n v d' f' → f'.Nodup → (∀ b ∈ f', b ∈ f ∨ (H0 b = none ∧ ∀ l, b ∉ fp l)) →
      ∃ fs', SR K M vol Hs0 H0 Hs (upd H q o) σ (env.set i (some (.lst (ods.set j d')))) (setf fp i (p :: fs')) ∧ OwL (Own K Hs (upd H q o) n) ws (ods.set j d') fs' ∧ upd H q o p = some (.lst ws) := by
  have pin : p ∈ fp i := by rw [hf]; exact List.mem_cons_self
  have nd0 : (p :: fs).Nodup := by rw [← hf]; exact R.nd i
  have fsin : ∀ b ∈ fs, b ∈ fp i := fun b hb => by rw [hf]; exact List.mem_cons_of_mem _ hb
  obtain ⟨v, f, hv, ov, sf, ndf, put⟩ := ow.pick (List.nodup_cons.mp nd0).2 hd
  have pf : p ∉ f := fun z => (List.nodup_cons.mp nd0).1 (sf p z)
  refine ⟨v, f, hv, ov, fun b hb => fsin b (sf b hb), ndf, pf, fun {q o d' f'} hq o' nd' fresh => ?_⟩
  obtain ⟨fs', ow3, nd3, sub3⟩ := put o' nd' (fun b hb nb => upd_ne fun z => nb (by rw [z]; exact hq)) fun b hb => by
    rcases fresh b hb with z | z
    · exact .inl z
    · exact .inr fun y => z.2 i (fsin b y)
  have sub4 : ∀ b ∈ fs', b ∈ fs ∨ (H0 b = none ∧ ∀ l, b ∉ fp l) := fun b hb => by
    rcases sub3 b hb with z | z
    · exact .inl z
    · rcases fresh b z with y | y
      · exact .inl (sf b y)
      · exact .inr y
  have pfs : p ∉ fs' := fun z => by
    rcases sub4 p z with y | y
    · exact (List.nodup_cons.mp nd0).1 y
    · exact y.2 i pin
  have hws : ws.set j v = ws := by
    apply List.ext_getElem?
    intro m
    by_cases hmj : j = m
    · subst hmj
      have hl : j < ws.length := (List.getElem?_eq_some_iff.mp hv).1
      rw [List.getElem?_set_self hl, hv]
    · rw [List.getElem?_set_ne hmj]
  rw [hws] at ow3
  have hpp : upd H q o p = some (.lst ws) := by rw [upd_ne fun z => pf (by rw [z]; exact hq)]; exact hp
  refine ⟨fs', R.mut (i := i) (p := q) (v := .ref p) (f := p :: fs') (fsin q (sf q hq)) hσ ?_ (List.nodup_cons.mpr ⟨pfs, nd3⟩) ?_ ?_, ow3, hpp⟩
  · rw [hm]
    exact .inr ⟨p, ws, _, fs', rfl, (R.ct i p pin).1, .inl ⟨hpp, rfl⟩, ow3, rfl⟩
  · intro b hb
    rcases List.mem_cons.mp hb with rfl | hb
    · exact R.nw i _ pin
    · rcases sub4 b hb with q | q
      · exact R.nw i b (fsin b q)
      · exact q.1
  · intro jj hj b hb q
    rcases List.mem_cons.mp hb with rfl | hb
    · exact hj (R.dj jj i _ q pin)
    · rcases sub4 b hb with r | r
      · exact hj (R.dj jj i b q (fsin b r))
      · exact r.2 jj q
/-- for p, y in enumerate(x[k]): y.append(e) -/
def forApp2 (i k jp jr : Nat) (we : WE G) (D : DEnds G) : List Dt → List Dt → List Dt → Env → G → Prop
  | [], _, _, env, g => D.nx env g
  | d :: ds, ods, done, env, g => jr < env.length ∧ ∃ es, d = .lst es ∧ es.length < sizeLine ∧ we ((env.set jp (some (.int (done.length : Nat)))).set jr none) g (fun r g1 =>
      forApp2 i k jp jr we D ds (ods.set k (.lst (done ++ .lst (es ++ [r]) :: ds))) (done ++ [.lst (es ++ [r])]) (((env.set jp (some (.int (done.length : Nat)))).set jr none).set i (some (.lst (ods.set k (.lst (done ++ .lst (es ++ [r]) :: ds)))))) g1) (exE D ((env.set jp (some (.int (done.length : Nat)))).set jr none))
def wForAppIx (i jp jr : Nat) (wk we : WE G) : WS G := fun D env g => ∃ ods, env[i]? = some (some (.lst ods)) ∧ wk env g (fun dk g1 => ∃ (kk : Int) (k : Nat) (ds : List Dt), dk = .int kk ∧ ixN ods.length kk = some k ∧ ods[k]? = some (.lst ds) ∧ forApp2 i k jp jr we D ds ods [] env g1) (exE D env)
theorem ds_forAppIx (i jp jr : Nat) {kt : Nat} {pt pc pat pnm pcall p6 : Pos} {ek : Expr} {wk we : WE G} (hp : PassesOwn (model X.prog X.w) X.A X.env X.xe) (hc : X.calm = true) (hN : X.N.Nodup) (hmE : X.mg "enumerate" = none) (hk : DE X Z W M 0 ek wk) (he : DE X Z W M n e we) (hm : M i = n + 3 := by rfl) (hmp : M jp = 0 := by rfl) (hipr : i ≠ jp ∧ i ≠ jr ∧ jp ≠ jr := by decide)
    (hi : X.N[i]? = some x := by rfl) (hjp : X.N[jp]? = some y := by rfl) (hjr : X.N[jr]? = some z := by rfl) (hg : Gl X "enumerate" := by rfl)
    (hv : Vis X.env.scope x := by first | exact Or.inl rfl | exact Or.inr (Or.inl rfl) | exact Or.inr (Or.inr rfl)) (hvr : Vis X.env.scope z := by first | exact Or.inl rfl | exact Or.inr (Or.inl rfl) | exact Or.inr (Or.inr rfl)) (hxp : Loc X.env.scope y := by first | exact Or.inl rfl | exact Or.inr rfl) (hxr : Loc X.env.scope z := by first | exact Or.inl rfl | exact Or.inr rfl)
    (hfp : X.fn y = true ∨ X.env.scope.names.lookup y = some .local := by first | exact .inl rfl | exact .inr rfl) (hfr : X.fn z = true ∨ X.env.scope.names.lookup z = some .local := by first | exact .inl rfl | exact .inr rfl)
    (hd : (x == ("__debug__" : Str)) = false := by decide) (hcd : (x == ("__classdict__" : Str)) = false := by decide) (hd2 : (z == ("__debug__" : Str)) = false := by decide) (hcd2 : (z == ("__classdict__" : Str)) = false := by decide)
    (hs1 : starEach [.Subscript (.Name x p1) ek p6] X.env = [(false, eval (.Subscript (.Name x p1) ek p6) X.env)] := by rfl) (hs : ∀ u, foldedSetIterable (.Call (.Name "enumerate" p2) [.Subscript (.Name x p1) ek p6] [] pc) X.env u = pure u := by intro _; rfl)
    (ht1 : (assignEach [.Name y p3, .Name z p4] X.env).map (·.2) = assign (.Name y p3) X.env :: (assignEach [.Name z p4] X.env).map (·.2) := by rfl) (ht2 : (assignEach [.Name z p4] X.env).map (·.2) = assign (.Name z p4) X.env :: (assignEach [] X.env).map (·.2) := by rfl)
    (hn : (assignEach [.Name y p3, .Name z p4] X.env).length = 2 := by rfl) (hst : (assignEach [.Name y p3, .Name z p4] X.env).findIdx? (·.1) = none := by rfl)
    (hix : PlainIx ek := by exact fun _ _ => rfl)
    (hbase : attributeBase (.Name z p5) "append" X.env (eval (.Name z p5) X.env) = eval (.Name z p5) X.env := by rfl)
    (hfew : ((backTo pcall (starEach [e] X.env)).all (fun x => !x.1) && (backToKw pcall (keywordEach [] X.env)).all (fun x => x.1.isSome) && decide ([e].length + ([] : List Keyword).length + (if ([] : List Keyword).isEmpty then 0 else 1) < 30)) = true := by rfl)
    (hline : (pat.endLine == pcall.line) = true := by rfl) (hse : starEach [e] X.env = (false, eval e X.env) :: starEach [] X.env := by rfl)
    (hsw : swapsWith (.Call (.Attribute (.Name z p5) "append" pat) [e] [] pcall) none pnm.line X.env = pure false := by rfl) :
    DS X Z W M nr (.For (.Tuple [.Name y p3, .Name z p4] kt pt) (.Call (.Name "enumerate" p2) [.Subscript (.Name x p1) ek p6] [] pc) [.Expr (.Call (.Attribute (.Name z p5) "append" pat) [e] [] pcall) pnm] [] pos) (wForAppIx i jp jr wk we) := by
  obtain ⟨tk, pk, rk⟩ := hk
  obtain ⟨te, pe, re⟩ := he
  refine ⟨_, ps_for hp hc (pi_enum hg hmE (pa_cons (pe_ix ix_list (pe_var hi hv hd hcd) pk hix) pa_nil hs1) hs1) (pg_tup hc (pgs_cons (pg_name hN hjp hxp hfp) (pgs_cons (pg_name hN hjr hxr hfr) pgs_nil ht2) ht1) hn hst)
    (pss_one (ps_expr (pe_bm PySem.F.plainAttrs_list PySem.F.slot_list_append PySem.F.type_list_append mt_append (pe_var hjr hvr hd2 hcd2) (pa_cons pe pa_nil hse) hbase hfew hline hse) hsw)) hs, fun {Hs00 H00 Hs H σ env fp g D Dd} R p q k => ?_⟩
  obtain ⟨ods0, he0, q⟩ := q
  obtain ⟨v, hσ0, o⟩ := R.at' i _ he0
  rw [hm] at o
  obtain ⟨po, ws, fs0, rfl, hps, hpH, ow0, hff0⟩ := o.node
  refine ⟨.ref po, hσ0, rk R p q (fun dk g1 vk Hs1 H1 f1 e1 s1 o1 _ _ q1 => ?_) (k.gox R)⟩
  obtain ⟨kk, ki, ds0, rfl, hj, hde, e1⟩ := e1
  have r1 := o1.2
  cases r1
  have R1 := R.step s1
  have pin0 : po ∈ fp i := by rw [hff0]; exact List.mem_cons_self
  have hp1 : H1 po = some (.lst ws) := s1.s2 po _ hpH (R.nvol pin0)
  have ow1 := ow0.step s1 fun b hb => R.nvol (i := i) (by rw [hff0]; exact List.mem_cons_of_mem _ hb)
  obtain ⟨u, fu, hu, ou, su, ndu, _, _⟩ := own_in1 R1 hm hσ0 hff0 hp1 ow1 hde
  obtain ⟨c, vs, fus, rfl, hus, hcu, owu, hfu⟩ := ou.node
  refine ⟨po, ws, kk, .ref c, rfl, rfl, SqL.of hp1, ?_, ?_⟩
  · unfold L2.atI
    rw [ow1.length, hj]
    exact hu
  refine ⟨c, vs, rfl, SqL.of hcu, ?_⟩
  have hlen := owu.length
  let Iv : Nat → St → Hp → Prop := fun m σ' H' => ∃ Hs' env' fp' g' ods done rest fs', SR X.K M Z.vol Hs00 H00 Hs' H' σ' env' fp' ∧ Z.P g' H' ∧ H' po = some (.lst ws) ∧ H' c = some (.lst vs) ∧ σ'[i]? = some (some (.ref po)) ∧ env'[i]? = some (some (.lst ods)) ∧ ods[ki]? = some (.lst (done ++ rest)) ∧ done.length = m ∧ done.length + rest.length = vs.length ∧
    fp' i = po :: fs' ∧ OwL (Own X.K Hs' H' (n + 2)) ws ods fs' ∧ forApp2 i ki jp jr we Dd rest ods done env' g'
  refine ⟨fun m l σ' H' => l = vs.length - m ∧ m ≤ vs.length ∧ Iv m σ' H', ⟨vs.length, by simp, Nat.zero_le _, Hs1, env, fp, g1, ods0, [], ds0, fs0, R1, q1, hp1, hcu, hσ0, he0, hde, rfl, by simp [hlen], hff0, ow1, e1⟩, ?_⟩
  rintro m l σ' H' ⟨rfl, hml, Hs', env', fp', g', ods, done, rest, fs', R', p', hp', hc', hσ', he', hod, hdl, hrl, hf', ow', q'⟩
  cases rest with
  | nil =>
    refine .inl ⟨⟨vs, SqL.of hc', by simp at hrl; omega⟩, k.nx q' R' p'⟩
  | cons d rest =>
    rw [List.length_cons] at hrl
    have hvm : m < vs.length := by omega
    refine .inr ⟨⟨vs, vs[m], SqL.of hc', List.getElem?_eq_getElem hvm⟩, fun σ2 H2 => Iv (m + 1) σ2 H2, fun σ2 H2 h => ⟨vs.length - (m + 1), by omega, rfl, hvm, h⟩, fun u H2 yl => ?_⟩
    obtain ⟨T, u1, rfl, hT, eH, yl⟩ := yl
    have hu1 := yl vs (SqL.of hc')
    have sT : Step Z.vol Hs' H' Hs' H2 := by rw [eH]; exact Step.new R'.hs hT
    have hTs : H2 T = some (.tup [.int (m : Nat), u1]) := by rw [eH]; exact upd_same
    refine ⟨T, _, rfl, SqT.of hTs, rfl, .int (m : Nat), [u1], rfl, u1, [], rfl, rfl, ?_⟩
    have q2 : Z.P g' H2 := by rw [eH]; exact Z.pure p' (Step.new R'.hs hT)
    have R2 := ((R'.step sT).setP (i := jp) (v := .int (m : Nat)) (d := .int (m : Nat)) hmp (.int _)).blind jr u1
    have pin' : po ∈ fp' i := by rw [hf']; exact List.mem_cons_self
    have hfi : setf fp' jp [] i = po :: fs' := by rw [setf_ne hipr.1]; exact hf'
    have fsv : ∀ b ∈ fs', b ∉ Z.vol := fun b hb => R'.nvol (i := i) (by rw [hf']; exact List.mem_cons_of_mem _ hb)
    have hdm : (done ++ d :: rest)[m]? = some d := by rw [List.getElem?_append_right (by omega), hdl, Nat.sub_self]; rfl
    obtain ⟨hjl, es, rfl, hes, q'⟩ := q'
    have hsl : ((σ'.set jp (some (.int (m : Nat)))).set jr (some u1))[jr]? = some (some u1) :=
      List.getElem?_set_self (by rw [List.length_set, ← R'.len]; exact hjl)
    refine ⟨u1, hsl, ?_⟩
    have hp2 : H2 po = some (.lst ws) := sT.s2 po _ hp' (R'.nvol pin')
    have ow2 := ow'.step sT fsv
    have hσ2 : ((σ'.set jp (some (.int (m : Nat)))).set jr (some u1))[i]? = some (some (.ref po)) := by
      rw [List.getElem?_set_ne (Ne.symm hipr.2.1), List.getElem?_set_ne (Ne.symm hipr.1)]; exact hσ'
    -- the inner list, and its row, as they stand in a state
    have look : ∀ {Hs3 H3 : Hp} {σ3 : St} {env3 : Env} {fp3 : Nat → List Addr}, SR X.K M Z.vol Hs00 H00 Hs3 H3 σ3 env3 fp3 → σ3[i]? = some (some (.ref po)) → fp3 i = po :: fs' → H3 po = some (.lst ws) → OwL (Own X.K Hs3 H3 (n + 2)) ws ods fs' → H3 c = some (.lst vs) →
        ∃ cu us fr, u1 = .ref cu ∧ cu ∈ fp3 i ∧ H3 cu = some (.lst us) ∧ OwL (Own X.K Hs3 H3 n) us es fr ∧ (cu :: fr).Nodup ∧ (∀ b ∈ fr, b ∈ fp3 i) ∧
        ∀ {us' : List V} {es' : List Dt} {gs : List Addr}, OwL (Own X.K Hs3 H3 n) us' es' gs → (cu :: gs).Nodup → (∀ b ∈ gs, b ∈ fr ∨ (H00 b = none ∧ ∀ l, b ∉ fp3 l)) →
          ∃ fs2, SR X.K M Z.vol Hs00 H00 Hs3 (upd H3 cu (.lst us')) σ3 (env3.set i (some (.lst (ods.set ki (.lst (done ++ .lst es' :: rest)))))) (setf fp3 i (po :: fs2)) ∧ OwL (Own X.K Hs3 (upd H3 cu (.lst us')) (n + 2)) ws (ods.set ki (.lst (done ++ .lst es' :: rest))) fs2 ∧
            upd H3 cu (.lst us') po = some (.lst ws) ∧ upd H3 cu (.lst us') c = some (.lst vs) := by
      intro Hs3 H3 σ3 env3 fp3 R3 hσ3 hf3 hp3 ow3 hc3
      obtain ⟨v3, f3, hv3, ov3, sf3, nd3, pf3, put3⟩ := own_in1 R3 hm hσ3 hf3 hp3 ow3 hod
      rw [hu] at hv3
      cases hv3
      obtain ⟨c3, vs3, g3, ec, hs3, hcc3, owr, hfr⟩ := ov3.node
      cases ec
      rw [hc3] at hcc3
      cases hcc3
      rw [hfr] at nd3 sf3
      obtain ⟨vr, fr0, hvr, ovr, sfr, ndr, putr⟩ := owr.pick (List.nodup_cons.mp nd3).2 hdm
      rw [hu1] at hvr
      cases hvr
      obtain ⟨cu, us, fr, rfl, hus4, hcu4, owu4, hfr4⟩ := ovr.node
      have cuin0 : cu ∈ fr0 := by rw [hfr4]; exact List.mem_cons_self
      have cuin : cu ∈ g3 := sfr cu cuin0
      have cne : c ≠ cu := fun z => (List.nodup_cons.mp nd3).1 (by rw [z]; exact cuin)
      refine ⟨cu, us, fr, rfl, sf3 cu (List.mem_cons_of_mem _ cuin), hcu4, owu4, by rw [← hfr4]; exact ndr, fun b hb => sf3 b (List.mem_cons_of_mem _ (sfr b (by rw [hfr4]; exact List.mem_cons_of_mem _ hb))), fun {us' es' gs} inner nd fresh => ?_⟩
      have node : Own X.K Hs3 (upd H3 cu (.lst us')) (n + 1) (.ref cu) (.lst es') (cu :: gs) :=
        .inr ⟨cu, us', es', gs, rfl, hus4, .inl ⟨upd_same, rfl⟩, inner.upd (List.nodup_cons.mp nd).1, rfl⟩
      have cg : ∀ b ∈ g3, b ∈ fp3 i := fun b hb => sf3 b (List.mem_cons_of_mem _ hb)
      obtain ⟨gr, owr2, ndr2, subr⟩ := putr node nd (fun b hb nb => upd_ne fun z => nb (by rw [z]; exact cuin0)) fun b hb => by
        rcases List.mem_cons.mp hb with rfl | hb
        · exact .inl cuin0
        · rcases fresh b hb with z | z
          · exact .inl (by rw [hfr4]; exact List.mem_cons_of_mem _ z)
          · exact .inr fun y => z.2 i (cg b y)
      have subr4 : ∀ b ∈ gr, b ∈ g3 ∨ (H00 b = none ∧ ∀ l, b ∉ fp3 l) := fun b hb => by
        rcases subr b hb with z | z
        · exact .inl z
        · rcases List.mem_cons.mp z with rfl | z
          · exact .inl cuin
          · rcases fresh b z with y | y
            · exact .inl (sfr b (by rw [hfr4]; exact List.mem_cons_of_mem _ y))
            · exact .inr y
      have cgr : c ∉ gr := fun z => by
        rcases subr4 c z with y | y
        · exact (List.nodup_cons.mp nd3).1 y
        · exact y.2 i (sf3 c List.mem_cons_self)
      have hvs : vs.set m (.ref cu) = vs := by
        apply List.ext_getElem?
        intro mm
        by_cases hmj : m = mm
        · subst hmj
          rw [List.getElem?_set_self hvm, hu1]
        · rw [List.getElem?_set_ne hmj]
      have eset : (done ++ Dt.lst es :: rest).set m (.lst es') = done ++ .lst es' :: rest := by
        rw [List.set_append_right _ _ (by omega), hdl, Nat.sub_self]
        simp
      rw [hvs, eset] at owr2
      have hcc : upd H3 cu (.lst us') c = some (.lst vs) := by rw [upd_ne cne]; exact hc3
      have node2 : Own X.K Hs3 (upd H3 cu (.lst us')) (n + 2) (.ref c) (.lst (done ++ .lst es' :: rest)) (c :: gr) := .inr ⟨c, vs, _, gr, rfl, hs3, .inl ⟨hcc, rfl⟩, owr2, rfl⟩
      obtain ⟨fs2, R4, ow4, hp4⟩ := put3 (q := cu) (by rw [hfr]; exact List.mem_cons_of_mem _ cuin) node2 (List.nodup_cons.mpr ⟨cgr, ndr2⟩) fun b hb => by
        rcases List.mem_cons.mp hb with rfl | hb
        · exact .inl (by rw [hfr]; exact List.mem_cons_self)
        · rcases subr4 b hb with z | z
          · exact .inl (by rw [hfr]; exact List.mem_cons_of_mem _ z)
          · exact .inr z
      exact ⟨fs2, R4, ow4, hp4, hcc⟩
    have cvol : ∀ {Hs3 H3 : Hp} {σ3 : St} {env3 : Env} {fp3 : Nat → List Addr}, SR X.K M Z.vol Hs00 H00 Hs3 H3 σ3 env3 fp3 → σ3[i]? = some (some (.ref po)) → fp3 i = po :: fs' → H3 po = some (.lst ws) → OwL (Own X.K Hs3 H3 (n + 2)) ws ods fs' → c ∉ Z.vol := by
      intro Hs3 H3 σ3 env3 fp3 R3 hσ3 hf3 hp3 ow3
      obtain ⟨v3, f3, hv3, ov3, sf3, _⟩ := own_in1 R3 hm hσ3 hf3 hp3 ow3 hod
      rw [hu] at hv3
      cases hv3
      obtain ⟨c3, vs3, g3, ec, _, _, _, hfr⟩ := ov3.node
      cases ec
      exact R3.nvol (sf3 c (by rw [hfr]; exact List.mem_cons_self))
    have hcv := cvol R' hσ' hf' hp' ow'
    have hc2 : H2 c = some (.lst vs) := sT.s2 c _ hc' hcv
    obtain ⟨cu, us, fu, rfl, hcin, hcu2, owu2, ndu2, fuin, _⟩ := look R2 hσ2 hfi hp2 ow2 hc2
    refine ⟨.inl ⟨rfl, _, SqL.of hcu2⟩, re R2 q2 (by rw [hdl] at q'; exact q') (fun r g3 ur Hs3 H3 f e3 s3 o3 nd3 fr3 p3 => ?_) (by rw [← hdl]; exact k.gox (by rw [hdl]; exact R2))⟩
    have R3 := R2.step s3
    have pin2 : po ∈ setf fp' jp [] i := by rw [hfi]; exact List.mem_cons_self
    have hp3 : H3 po = some (.lst ws) := s3.s2 po _ hp2 (R2.nvol pin2)
    have hc3 : H3 c = some (.lst vs) := s3.s2 c _ hc2 hcv
    have ow3 := ow2.step s3 fsv
    obtain ⟨cu', us', fu', ecu, hcin', hcu', owu', ndu', fuin', put⟩ := look R3 hσ2 hfi hp3 ow3 hc3
    cases ecu
    have fdj : ∀ b ∈ f, ∀ l, b ∉ setf fp' jp [] l := fun b hb l z => (R2.ct l b z).2 (fr3 b hb)
    have cuf : cu ∉ f := fun z => fdj cu z i hcin'
    have one := OwL.cons (R := Own X.K Hs3 H3 n) o3 OwL.nil
    have all := owu'.append one
    rw [List.append_nil] at all
    obtain ⟨fs2, R4, ow4, hp4, hc4⟩ := put all (by
      rw [List.nodup_cons]
      refine ⟨fun z => ?_, ?_⟩
      · rcases List.mem_append.mp z with z | z
        · exact (List.nodup_cons.mp ndu').1 z
        · exact cuf z
      · rw [List.nodup_append]
        exact ⟨(List.nodup_cons.mp ndu').2, nd3, fun a ha b hb z => fdj b hb i (by rw [← z]; exact fuin' a ha)⟩) fun b hb => by
      rcases List.mem_append.mp hb with z | z
      · exact .inl z
      · exact .inr ⟨fresh_of R2.st (fr3 b z), fdj b z⟩
    refine ⟨cu, us', ur, rfl, rfl, hcu', by rw [owu'.length]; exact hes, ?_⟩
    have hkl : ki < ods.length := (List.getElem?_eq_some_iff.mp hod).1
    refine ⟨_, _, _, g3, ods.set ki (.lst (done ++ .lst (es ++ [r]) :: rest)), done ++ [.lst (es ++ [r])], rest, fs2, R4, Z_upd R3 hcin' p3, hp4, hc4, hσ2, ?_, ?_, by simp [hdl], by simp; omega, by rw [setf_same], ow4, ?_⟩
    · refine List.getElem?_set_self ?_
      rw [List.length_set, List.length_set]
      exact (List.getElem?_eq_some_iff.mp he').1
    · rw [List.getElem?_set_self hkl]
      simp
    · exact e3
end
end Vl

/-! Vl28: a target that takes the rest of a tuple. -/
namespace Vl
open PySem PySem.Spec L2
theorem walks_next {prog : Program} {w : World} {A : Around} {I : Addr} {fp wr : List Addr} {n : Nat} {P : Nat → Value → Prop} {St : Nat → Heap → Prop} (W : Walks prog w A I fp wr n P St) (h : 1 ≤ n) :
    Walks prog w A I fp wr (n - 1) (fun i => P (i + 1)) (fun i => St (i + 1)) where
  sub := W.sub
  frame := fun i => W.frame (i + 1)
  item := fun i s Q E hi st hQ => W.item (i + 1) s Q E (by omega) st hQ
  done := fun s Q E st hQ => W.done s Q E (by rw [Nat.sub_add_cancel h] at st; exact st) hQ
  self := fun i => W.self (i + 1)
theorem items_drop {items acc : Array Value} (h : ItemsOf (fun i v => items[i + 1]? = some v) acc (items.size - 1)) (h1 : 1 ≤ items.size) : acc.toList = items.toList.drop 1 := by
  apply List.ext_getElem?
  intro j
  rw [List.getElem?_drop, Array.getElem?_toList, Array.getElem?_toList, Nat.add_comm 1 j]
  by_cases hj : j < acc.size
  · have e := Array.getElem?_eq_getElem hj
    rw [e, h.2 j _ e]
  · rw [Array.getElem?_eq_none (by omega), Array.getElem?_eq_none (by have := h.1; omega)]
section
variable {prog : Program} {w : World} {A : Around} {E : Value → Shared → Prop} {s : Shared}
open PyProof.Rows in
theorem unpack_rest {t : Addr} {items : Array Value} {x : Value} {Q : List Value → Shared → Prop} (hh : A.handled = none) (ht : IsTup s.heap t items) (hx : items[0]? = some x) (hz : items.size ≤ 1000)
    (hQ : ∀ (h' : Heap) (tk : Nat), (∀ b o, s.heap.get? b = some o → h'.get? b = some o) → Q [x, .ref h'.objs.size] { s with heap := h'.push { cls := .type "list", data := .seq (items.toList.drop 1).toArray }, toks := tk }) :
    wpAny (model prog w) A (unpackItems (.ref t) 2 (some 1)) Q E s := by
  have h1 : 1 ≤ items.size := by
    have := (Array.getElem?_eq_some_iff.mp hx).1
    omega
  have hlt : t ≠ s.heap.objs.size := by obtain ⟨o, ho, _⟩ := ht; exact Nat.ne_of_lt (Heap.lt_size ho)
  have hlt2 : t < s.heap.objs.size := by obtain ⟨o, ho, _⟩ := ht; exact Heap.lt_size ho
  unfold unpackItems notIterableAtAll
  refine wpAny_bind (wpAny_bind (wpAny_specialOf ht.typeIs slot_tuple_iter.lookup (wpAny_pure ?_)))
  simp only [Bool.false_eq_true, if_false]
  refine wpAny_bind (wpAny_holding (iter_tuple ht ?_))
  refine wpAny_bind (wpAny_holding (draw_tuple hlt 1 0 _ _ ⟨_, Heap.get?_push_size _ rfl, rfl, rfl⟩ (ht.push _) (by omega) fun h₁ hit₁ hs₁ => ?_))
  have e1 : List.take 1 (List.drop 0 items.toList) = [x] := by
    rw [List.drop_zero]
    have : items.toList[0]? = some x := by rw [Array.getElem?_toList]; exact hx
    cases hl : items.toList with
    | nil => rw [hl] at this; cases this
    | cons y ys => rw [hl] at this; cases this; rfl
  rw [e1]
  have k1 : ∀ b o, s.heap.get? b = some o → h₁.get? b = some o := fun b o e => hs₁.extBut b o (Nat.ne_of_lt (Heap.lt_size e)) (Heap.get?_push_of_some _ e)
  have ht₁ : IsTup h₁ t items := (ht.push _).extBut hs₁.extBut hlt
  have tup : h₁.IsTuple t items := ht₁
  have itr : h₁.IsTupleIter s.heap.objs.size t 1 := hit₁
  have W := (walks_next (Walks.tuple (prog := prog) (w := w) (A := A.in1) (show A.in1.handled = none from hh) s.heap.objs.size t hlt items) h1).toS
  simp only [List.length_singleton, Nat.lt_irrefl, if_false]
  refine wpAny_bind (wpAny_holding (wpAny_collect_iter (T := "tuple_iterator") (.inr (.inr (.inr rfl))) W (fun i s' st => st.1.typeIs) ⟨itr, tup⟩ (fun b hb => ?_) (by simp) (fun s' acc hm hi => ?_) (by rw [sizeLine_eq]; omega)))
  · rcases List.mem_cons.mp hb with rfl | hb
    · obtain ⟨o, ho, _⟩ := itr
      exact Heap.lt_size ho
    · rw [List.mem_singleton.mp hb]
      obtain ⟨o, ho, _⟩ := tup
      exact Heap.lt_size ho
  · rw [items_drop hi h1]
    obtain ⟨h2, g2, d2, t2, os2⟩ := s'
    obtain ⟨m1, m2, m3, m4, m5⟩ := hm
    dsimp only at m1 m2 m3 m4 m5
    subst m2 m3 m4
    have k2 : ∀ b o, s.heap.get? b = some o → h2.get? b = some o := fun b o e => m1 b o (by simp; exact Nat.ne_of_lt (Heap.lt_size e)) (k1 b o e)
    rw [if_neg (by omega)]
    have e2 : List.take ((List.drop 1 items.toList).length - (2 - 1 - 1)) (List.drop 1 items.toList) = List.drop 1 items.toList := List.take_of_length_le (by omega)
    have e3 : List.drop ((List.drop 1 items.toList).length - (2 - 1 - 1)) (List.drop 1 items.toList) = [] := List.drop_of_length_le (by omega)
    rw [e2, e3]
    refine wpAny_bind (wpAny_newList (wpAny_pure ?_) (by rw [List.length_drop, Array.length_toList, sizeLine_eq]; omega))
    exact hQ h2 t2 k2
end
section
variable {X : Cx} {x y : Str} {i j kt : Nat} {p1 p2 p3 pos : Pos}
/-- name, *rest = a tuple -/
def gStar (K : PySem.W.Frag) (i j : Nat) : TG := fun v σ H Q => ∃ t z zs, v = .ref t ∧ SqT K H t (z :: zs) ∧ zs.length ≤ 999 ∧ ∀ p, H p = none → Q ((σ.set i (some z)).set j (some (.ref p))) (upd H p (.lst zs))
theorem pg_star (hc : X.calm = true) (hN : X.N.Nodup) (hi : X.N[i]? = some x) (hj : X.N[j]? = some y) (hx : Loc X.env.scope x) (hy : Loc X.env.scope y) (hfx : X.fn x = true ∨ X.env.scope.names.lookup x = some .local) (hfy : X.fn y = true ∨ X.env.scope.names.lookup y = some .local) :
    PG X (.Tuple [.Name x p1, .Starred (.Name y p2) p3] kt pos) (gStar X.K i j) := by
  refine ⟨fun pins s σ H v u Q I r hw => ?_⟩
  obtain ⟨t, z, zs, rfl, hq, hl, hw⟩ := hw
  cases r
  obtain ⟨its, rv, ht, hz⟩ := I.tuple hq
  cases rv with
  | @cons _ u _ us r1 r2 =>
    have hx0 : (u :: us).toArray[0]? = some u := rfl
    have hsz : (u :: us).toArray.size ≤ 1000 := by
      have e2 := Paired.length r2
      rw [List.size_toArray, List.length_cons]
      omega
    show wpAny _ _ (do standAt pos; unpack (.ref t) (assignEach [.Name x p1, .Starred (.Name y p2) p3] X.env)) _ _ _
    refine wpAny_bind (wpAny_standAt ?_)
    show wpAny _ _ (holding [.ref t] (unpackItems (.ref t) 2 (some 1)) >>= fun vs => assignInOrder [assign (.Name x p1) X.env, assign (.Name y p2) X.env] vs) _ _ _
    refine wpAny_bind (wpAny_holding (unpack_rest (I.ok.hd hc) ht hx0 hsz fun h' tk keep => ?_))
    have I1 : Inv X pins σ H { s with heap := h', toks := tk } := I.kept keep
    have I2 : Inv X pins σ (upd H h'.objs.size (.lst zs)) { s with heap := h'.push { cls := .type "list", data := .seq ((u :: us).toArray.toList.drop 1).toArray }, toks := tk } :=
      I1.laid (t' := tk) (fun b o e => Heap.get?_push_of_some _ e) (Nat.le_refl _) ⟨by rw [sizeLine_eq]; omega, us, 0, r2, Heap.get?_push_size _ rfl⟩
    have hp : H h'.objs.size = none := I1.hok.fresh (Nat.le_refl _)
    have two := (pgs_cons (pg_name (pos := p1) hN hi hx hfx) (pgs_cons (pg_name (pos := p2) hN hj hy hfy) pgs_nil)).run pins _ σ (upd H h'.objs.size (.lst zs)) [z, .ref h'.objs.size] [u, .ref h'.objs.size] Q I2 (.cons r1 (.cons rfl .nil)) ⟨z, _, rfl, .ref h'.objs.size, [], rfl, rfl, hw _ hp⟩
    exact two
end
section
variable {G : Type} {X : Cx} {Z : Vo G} {W : WX} {M : Nat → Nat} {n nr : Nat} {x y : Str} {p1 p2 p3 p4 pos : Pos}
def bStar (i j : Nat) : WB := fun env d k => ∃ z zs, d = .tup (z :: zs) ∧ zs.length ≤ 999 ∧ k ((env.set i (some z)).set j (some (.lst zs)))
/-- for name, *rest in e: .. -/
theorem ds_forStar (i j : Nat) {kt : Nat} {iter : Expr} {body : List Stmt} {wi : WI G} {wb : WS G} (hp : PassesOwn (model X.prog X.w) X.A X.env X.xe) (hc : X.calm = true) (hN : X.N.Nodup) (hi : DI X Z W M (.Tuple [.Name x p1, .Starred (.Name y p2) p3] kt p4) iter wi) (hb : DB X Z W M nr body wb)
    (hmi : M i = 0 := by rfl) (hmj : M j = 0 := by rfl) (hix : X.N[i]? = some x := by rfl) (hjy : X.N[j]? = some y := by rfl) (hx : Loc X.env.scope x := by first | exact Or.inl rfl | exact Or.inr rfl) (hy : Loc X.env.scope y := by first | exact Or.inl rfl | exact Or.inr rfl)
    (hfx : X.fn x = true ∨ X.env.scope.names.lookup x = some .local := by first | exact .inl rfl | exact .inr rfl) (hfy : X.fn y = true ∨ X.env.scope.names.lookup y = some .local := by first | exact .inl rfl | exact .inr rfl)
    (hs : ∀ u, foldedSetIterable iter X.env u = pure u := by intro _; rfl) : DS X Z W M nr (.For (.Tuple [.Name x p1, .Starred (.Name y p2) p3] kt p4) iter body [] pos) (wFor wi (bStar i j) wb) := by
  obtain ⟨ti, q1, r1⟩ := hi
  obtain ⟨tb, q3, r3⟩ := hb
  refine ⟨_, ps_for hp hc q1 (pg_star hc hN hix hjy hx hy hfx hfy) q3 hs, fun {Hs0 H0 Hs H σ env fp g D Dd} R p q k => r1 R p q (fun ds g1 J Hs1 H1 e1 s1 wk p1 => ?_) (k.gox R)⟩
  have R1 := R.step s1
  let Wp : Nat → St → Hp → Prop := fun m σ' H' => ∃ Hs' env' fp' g', forGo (bStar i j) wb Dd (ds.drop m) env' g' ∧ SR X.K M Z.vol Hs1 H0 Hs' H' σ' env' fp' ∧ Z.P g' H'
  refine ⟨fun m l σ' H' => l = ds.length - m ∧ m ≤ ds.length ∧ Wp m σ' H', ⟨ds.length, by simp, Nat.zero_le _, Hs1, env, fp, g1, e1, R1.up, p1⟩, ?_⟩
  rintro m l σ' H' ⟨rfl, hml, Hs', env', fp', g', go, R2, p2'⟩
  by_cases hlt : m < ds.length
  · refine .inr ⟨wk.go m Hs' H' hlt R2.st.s1 R2.hs, Wp (m + 1), fun σ2 H2 h => ⟨ds.length - (m + 1), by omega, rfl, hlt, h⟩, fun v H2 yl => ?_⟩
    have hd := List.getElem?_eq_getElem hlt
    obtain ⟨Hs2, s3, rv⟩ := wk.yl m Hs' H' v H2 _ hd R2.st.s1 R2.hs yl
    rw [List.drop_eq_getElem_cons hlt] at go
    obtain ⟨z, zs, ez, hzl, go⟩ := go
    rw [ez] at rv
    cases rv with
    | @tup a vs _ h1 h2 =>
    cases h2 with
    | @cons v0 vr _ _ h2 h3 =>
    have R3 := R2.step s3.mono
    refine ⟨a, v0, vr, rfl, same_sqt R3.hs h1, by rw [h3.length]; exact hzl, fun p hp0 => ?_⟩
    have hps : Hs2 p = none := by
      cases e : Hs2 p with
      | none => rfl
      | some o => have := R3.hs _ _ e; rw [hp0] at this; cases this
    have sn : Step [] Hs2 H2 (frz Hs2 (upd H2 p (.lst vr)) [p]) (upd H2 p (.lst vr)) := (Step.new R3.hs hp0).freeze (fun b hb => by rw [List.mem_singleton.mp hb]; exact hp0) (fun b hb => by rw [List.mem_singleton.mp hb]; exact hps)
    have hfp : frz Hs2 (upd H2 p (.lst vr)) [p] p = some (.lst vr) := by rw [frz_in (List.mem_singleton.mpr rfl), upd_same]
    have R4 := ((R3.step sn.mono).setP (i := i) hmi (h2.same sn.s1)).setP (i := j) (v := .ref p) (d := .lst zs) hmj (.lst hfp (h3.same sn.s1))
    exact r3 R4 (Z.pure (Z.pure p2' s3) sn) go ⟨fun q R p => ⟨_, _, _, _, q, R, p⟩, fun q R p => k.nx q (R.low R1.st) p, fun q R p => ⟨_, _, _, _, q, R, p⟩, fun q s o nd fr p => k.rt q (R1.st.low s) o nd fr p, fun q R p hx sc h0 => k.ex q (R.low R1.st) p hx sc h0⟩
  · have hm' : m = ds.length := by omega
    subst hm'
    rw [List.drop_length] at go
    exact .inl ⟨wk.stop _ Hs' H' (Nat.le_refl _) R2.st.s1 R2.hs, k.nx go (R2.low R1.st) p2'⟩
end
end Vl

/-! Vl29: own tuples; isinstance of data. -/
namespace Vl
open PySem PySem.Spec L2
section
variable {G : Type} {X : Cx} {Z : Vo G} {W : WX} {M : Nat → Nat} {n nr : Nat}
variable {e : Expr} {es : List Expr} {w : WE G} {pos p1 p2 p3 p4 p5 p6 : Pos} {x y z : Str}
theorem Own.nodeT {K : PySem.W.Frag} {Hs H : Hp} {v : V} {ds : List Dt} {f : List Addr} (o : Own K Hs H (n + 1) v (.tup ds) f) : ∃ p vs fs, v = .ref p ∧ Hs p = none ∧ H p = some (.tup vs) ∧ OwL (Own K Hs H n) vs ds fs ∧ f = p :: fs := by
  rcases o with ⟨_, h⟩ | ⟨p, vs, es, fs, e1, e2, nd, r, e3⟩
  · exact (h.scal).elim
  · rcases nd with ⟨q, e⟩ | ⟨q, e⟩ | ⟨_, _, _, e⟩
    · cases e
    · cases e
      exact ⟨p, vs, fs, e1, e2, q, r, e3⟩
    · cases e
/-- a thing within an own tuple, and written -/
theorem own_in1T {K : PySem.W.Frag} {vol : List Addr} {Hs0 H0 Hs H : Hp} {σ : St} {env : Env} {fp : Nat → List Addr} (R : SR K M vol Hs0 H0 Hs H σ env fp) {i j : Nat} {p : Addr} {ws : List V} {ods : List Dt} {fs : List Addr} {d : Dt} (hm : M i = n + 1) (hσ : σ[i]? = some (some (.ref p)))
    (hf : fp i = p :: fs) (hp : H p = some (.tup ws)) (ow : OwL (Own K Hs H n) ws ods fs) (hd : ods[j]? = some d) :
    ∃ v f, ws[j]? = some v ∧ Own K Hs H n v d f ∧ (∀ b ∈ f, b ∈ fp i) ∧ f.Nodup ∧ p ∉ f ∧
    ∀ {q : Addr} {o : HO} {d' : Dt} {f' : List Addr}, q ∈ f → Own K Hs (upd H q o) n v d' f' → f'.Nodup → (∀ b ∈ f', b ∈ f ∨ (H0 b = none ∧ ∀ l, b ∉ fp l)) →
      ∃ fs', SR K M vol Hs0 H0 Hs (upd H q o) σ (env.set i (some (.tup (ods.set j d')))) (setf fp i (p :: fs')) ∧ OwL (Own K Hs (upd H q o) n) ws (ods.set j d') fs' ∧ upd H q o p = some (.tup ws) := by
  have pin : p ∈ fp i := by rw [hf]; exact List.mem_cons_self
  have nd0 : (p :: fs).Nodup := by rw [← hf]; exact R.nd i
  have fsin : ∀ b ∈ fs, b ∈ fp i := fun b hb => by rw [hf]; exact List.mem_cons_of_mem _ hb
  obtain ⟨v, f, hv, ov, sf, ndf, put⟩ := ow.pick (List.nodup_cons.mp nd0).2 hd
  have pf : p ∉ f := fun z => (List.nodup_cons.mp nd0).1 (sf p z)
  refine ⟨v, f, hv, ov, fun b hb => fsin b (sf b hb), ndf, pf, fun {q o d' f'} hq o' nd' fresh => ?_⟩
  obtain ⟨fs', ow3, nd3, sub3⟩ := put o' nd' (fun b hb nb => upd_ne fun z => nb (by rw [z]; exact hq)) fun b hb => by
    rcases fresh b hb with z | z
    · exact .inl z
    · exact .inr fun y => z.2 i (fsin b y)
  have sub4 : ∀ b ∈ fs', b ∈ fs ∨ (H0 b = none ∧ ∀ l, b ∉ fp l) := fun b hb => by
    rcases sub3 b hb with z | z
    · exact .inl z
    · rcases fresh b z with y | y
      · exact .inl (sf b y)
      · exact .inr y
  have pfs : p ∉ fs' := fun z => by
    rcases sub4 p z with y | y
    · exact (List.nodup_cons.mp nd0).1 y
    · exact y.2 i pin
  have hws : ws.set j v = ws := by
    apply List.ext_getElem?
    intro m
    by_cases hmj : j = m
    · subst hmj
      have hl : j < ws.length := (List.getElem?_eq_some_iff.mp hv).1
      rw [List.getElem?_set_self hl, hv]
    · rw [List.getElem?_set_ne hmj]
  rw [hws] at ow3
  have hpp : upd H q o p = some (.tup ws) := by rw [upd_ne fun z => pf (by rw [z]; exact hq)]; exact hp
  refine ⟨fs', R.mut (i := i) (p := q) (v := .ref p) (f := p :: fs') (fsin q (sf q hq)) hσ ?_ (List.nodup_cons.mpr ⟨pfs, nd3⟩) ?_ ?_, ow3, hpp⟩
  · rw [hm]
    exact .inr ⟨p, ws, _, fs', rfl, (R.ct i p pin).1, .inr (.inl ⟨hpp, rfl⟩), ow3, rfl⟩
  · intro b hb
    rcases List.mem_cons.mp hb with rfl | hb
    · exact R.nw i _ pin
    · rcases sub4 b hb with q | q
      · exact R.nw i b (fsin b q)
      · exact q.1
  · intro jj hj b hb q
    rcases List.mem_cons.mp hb with rfl | hb
    · exact hj (R.dj jj i _ q pin)
    · rcases sub4 b hb with r | r
      · exact hj (R.dj jj i b q (fsin b r))
      · exact r.2 jj q
/-- x[k].append(e), x an own tuple -/
def wAppIxT (i : Nat) (wk : WE G) (w : WE G) : WS G := fun D env g => ∃ ds, env[i]? = some (some (.tup ds)) ∧ wk env g (fun dk g1 => ∃ (k : Int) (j : Nat) (es : List Dt), dk = .int k ∧ ixN ds.length k = some j ∧ ds[j]? = some (.lst es) ∧
  w env g1 (fun d g' => es.length < sizeLine ∧ D.nx (env.set i (some (.tup (ds.set j (.lst (es ++ [d])))))) g') (exE D env)) (exE D env)
theorem ds_appIxT (i : Nat) {ek : Expr} {wk : WE G} {p4 : Pos} (hk : DE X Z W M 0 ek wk) (he : DE X Z W M n e w) (hm : M i = n + 2 := by rfl) (hN : X.N[i]? = some x := by rfl) (hv : Vis X.env.scope x := by first | exact Or.inl rfl | exact Or.inr (Or.inl rfl) | exact Or.inr (Or.inr rfl))
    (hd : (x == ("__debug__" : Str)) = false := by decide) (hcd : (x == ("__classdict__" : Str)) = false := by decide) (hix : PlainIx ek := by exact fun _ _ => rfl)
    (hbase : attributeBase (.Subscript (.Name x p1) ek p4) "append" X.env (eval (.Subscript (.Name x p1) ek p4) X.env) = eval (.Subscript (.Name x p1) ek p4) X.env := by rfl)
    (hfew : ((backTo p3 (starEach [e] X.env)).all (fun x => !x.1) && (backToKw p3 (keywordEach [] X.env)).all (fun x => x.1.isSome) && decide ([e].length + ([] : List Keyword).length + (if ([] : List Keyword).isEmpty then 0 else 1) < 30)) = true := by rfl)
    (hline : (p2.endLine == p3.line) = true := by rfl) (hs : starEach [e] X.env = (false, eval e X.env) :: starEach [] X.env := by rfl)
    (hsw : swapsWith (.Call (.Attribute (.Subscript (.Name x p1) ek p4) "append" p2) [e] [] p3) none pos.line X.env = pure false := by rfl) :
    DS X Z W M nr (.Expr (.Call (.Attribute (.Subscript (.Name x p1) ek p4) "append" p2) [e] [] p3) pos) (wAppIxT i wk w) := by
  obtain ⟨tk, pk, rk⟩ := hk
  obtain ⟨t, pe, r⟩ := he
  refine ⟨_, ps_expr (pe_bm PySem.F.plainAttrs_list PySem.F.slot_list_append PySem.F.type_list_append mt_append (pe_ix ix_tup (pe_var hN hv hd hcd) pk hix) (pa_cons pe pa_nil hs) hbase hfew hline hs) hsw, fun {Hs0 H0 Hs H σ env fp g D Dd} R p q k => ?_⟩
  obtain ⟨ds, he, q⟩ := q
  obtain ⟨v, hσ, o⟩ := R.at' i _ he
  rw [hm] at o
  obtain ⟨c, vs, fs, rfl, hcs, hc, ow, hf⟩ := o.nodeT
  refine ⟨.ref c, hσ, rk R p q (fun dk g1 vk Hs1 H1 f1 e1 s1 o1 _ _ q1 => ?_) (k.gox R)⟩
  obtain ⟨kk, j, es, rfl, hj, hde, e1⟩ := e1
  have r1 := o1.2
  cases r1
  have R1 := R.step s1
  have cin : c ∈ fp i := by rw [hf]; exact List.mem_cons_self
  have hc1 : H1 c = some (.tup vs) := s1.s2 c _ hc (R.nvol cin)
  have nd0 : (c :: fs).Nodup := by rw [← hf]; exact R.nd i
  have fsin : ∀ b ∈ fs, b ∈ fp i := fun b hb => by rw [hf]; exact List.mem_cons_of_mem _ hb
  have ow1 := ow.step s1 fun b hb => R.nvol (fsin b hb)
  obtain ⟨u, fu, hu, ou, su, ndu, _⟩ := ow1.pick (List.nodup_cons.mp nd0).2 hde
  obtain ⟨cu, us, fus, rfl, hus, hcu, owu, hfu⟩ := ou.node
  refine ⟨c, vs, kk, .ref cu, rfl, rfl, SqT.of hc1, ?_, ?_⟩
  · unfold L2.atI
    rw [ow.length, hj]
    exact hu
  refine ⟨.inl ⟨rfl, _, SqL.of hcu⟩, r R1 q1 e1 (fun d g' ud Hs2 H2 f e2 s2 o2 nd2 fr2 q2 => ?_) (k.gox R1)⟩
  have R2 := R1.step s2
  have cuin : cu ∈ fp i := fsin cu (su cu (by rw [hfu]; exact List.mem_cons_self))
  have hc2 : H2 c = some (.tup vs) := s2.s2 c _ hc1 (R.nvol cin)
  have hcu2 : H2 cu = some (.lst us) := s2.s2 cu _ hcu (R.nvol cuin)
  have ow2 := ow1.step s2 fun b hb => R.nvol (fsin b hb)
  obtain ⟨u2, fu2, hu2, ou2, su2, ndu2, put⟩ := ow2.pick (List.nodup_cons.mp nd0).2 hde
  rw [hu] at hu2
  cases hu2
  obtain ⟨cu', us', fus', ez, hus', hcu', owu', hfu'⟩ := ou2.node
  cases ez
  rw [hcu2] at hcu'
  cases hcu'
  refine ⟨cu, us, ud, rfl, rfl, hcu2, by rw [owu'.length]; exact e2.1, ?_⟩
  have fdj : ∀ b ∈ f, ∀ j, b ∉ fp j := fun b hb j z => (R1.ct j b z).2 (fr2 b hb)
  have cuf : cu ∉ f := fun z => fdj cu z i cuin
  have cne : c ≠ cu := fun z => (List.nodup_cons.mp nd0).1 (by rw [z]; exact su cu (by rw [hfu]; exact List.mem_cons_self))
  have ndu3 : (cu :: fus').Nodup := by rw [← hfu']; exact ndu2
  -- the inner list, longer
  have inner : Own X.K Hs2 (upd H2 cu (.lst (us ++ [ud]))) (n + 1) (.ref cu) (.lst (es ++ [d])) (cu :: (fus' ++ f)) := by
    refine .inr ⟨cu, _, _, _, rfl, hus', .inl ⟨upd_same, rfl⟩, ?_, rfl⟩
    refine (owu'.upd (List.nodup_cons.mp ndu3).1).append ?_
    have := OwL.cons (R := Own X.K Hs2 (upd H2 cu (.lst (us ++ [ud]))) n) (o2.move (Same.refl _) (fun b hb => upd_ne fun z => cuf (by rw [← z]; exact hb)) fun _ _ e => e) OwL.nil
    rw [List.append_nil] at this
    exact this
  have innd : (cu :: (fus' ++ f)).Nodup := by
    rw [List.nodup_cons]
    refine ⟨fun z => ?_, ?_⟩
    · rcases List.mem_append.mp z with z | z
      · exact (List.nodup_cons.mp ndu3).1 z
      · exact cuf z
    · rw [List.nodup_append]
      exact ⟨(List.nodup_cons.mp ndu3).2, nd2, fun a ha b hb z => fdj b hb i (by rw [← z]; exact fsin a (su2 a (by rw [hfu']; exact List.mem_cons_of_mem _ ha)))⟩
  have cuin2 : cu ∈ fu2 := by rw [hfu']; exact List.mem_cons_self
  obtain ⟨fs', ow3, nd3, sub3⟩ := put inner innd (fun b hb nb => upd_ne fun z => nb (by rw [z]; exact cuin2)) fun b hb => by
    rcases List.mem_cons.mp hb with rfl | hb
    · exact .inl cuin2
    · rcases List.mem_append.mp hb with z | z
      · exact .inl (by rw [hfu']; exact List.mem_cons_of_mem _ z)
      · exact .inr fun y => fdj b z i (fsin b y)
  have sub4 : ∀ b ∈ fs', b ∈ fp i ∨ b ∈ f := fun b hb => by
    rcases sub3 b hb with z | z
    · exact .inl (fsin b z)
    · rcases List.mem_cons.mp z with rfl | z
      · exact .inl cuin
      · rcases List.mem_append.mp z with z | z
        · exact .inl (fsin b (su2 b (by rw [hfu']; exact List.mem_cons_of_mem _ z)))
        · exact .inr z
  have cfs : c ∉ fs' := fun z => by
    rcases sub3 c z with y | y
    · exact (List.nodup_cons.mp nd0).1 y
    · rcases List.mem_cons.mp y with y | y
      · exact cne y
      · rcases List.mem_append.mp y with y | y
        · exact (List.nodup_cons.mp nd0).1 (su2 c (by rw [hfu']; exact List.mem_cons_of_mem _ y))
        · exact fdj c y i cin
  have hvs : vs.set j (.ref cu) = vs := by
    apply List.ext_getElem?
    intro m
    by_cases hmj : j = m
    · subst hmj
      have hl : j < vs.length := (List.getElem?_eq_some_iff.mp hu).1
      rw [List.getElem?_set_self hl, hu]
    · rw [List.getElem?_set_ne hmj]
  refine k.nx e2.2 (R2.mut (i := i) (p := cu) (v := .ref c) (f := c :: fs') cuin hσ ?_ (List.nodup_cons.mpr ⟨cfs, nd3⟩) ?_ ?_) (Z_upd R2 cuin q2)
  · rw [hm]
    rw [hvs] at ow3
    exact .inr ⟨c, vs, _, fs', rfl, (R2.ct i c cin).1, .inr (.inl ⟨by rw [upd_ne cne]; exact hc2, rfl⟩), ow3, rfl⟩
  · intro b hb
    rcases List.mem_cons.mp hb with rfl | hb
    · exact R.nw i _ cin
    · rcases sub4 b hb with z | z
      · exact R.nw i b z
      · exact fresh_of R1.st (fr2 b z)
  · intro jj hj b hb z
    rcases List.mem_cons.mp hb with rfl | hb
    · exact hj (R.dj jj i _ z cin)
    · rcases sub4 b hb with y | y
      · exact hj (R.dj jj i b z y)
      · exact fdj b y jj z

/-- for y in x[k]: y.append(e), x an own tuple -/
def forApp3 (i k jr : Nat) (we : WE G) (D : DEnds G) : List Dt → List Dt → List Dt → Env → G → Prop
  | [], _, _, env, g => D.nx env g
  | d :: ds, ods, done, env, g => jr < env.length ∧ ∃ es, d = .lst es ∧ es.length < sizeLine ∧ we (env.set jr none) g (fun r g1 =>
      forApp3 i k jr we D ds (ods.set k (.lst (done ++ .lst (es ++ [r]) :: ds))) (done ++ [.lst (es ++ [r])]) ((env.set jr none).set i (some (.tup (ods.set k (.lst (done ++ .lst (es ++ [r]) :: ds)))))) g1) (exE D (env.set jr none))
def wForApT (i jr : Nat) (wk we : WE G) : WS G := fun D env g => ∃ ods, env[i]? = some (some (.tup ods)) ∧ wk env g (fun dk g1 => ∃ (kk : Int) (k : Nat) (ds : List Dt), dk = .int kk ∧ ixN ods.length kk = some k ∧ ods[k]? = some (.lst ds) ∧ forApp3 i k jr we D ds ods [] env g1) (exE D env)
theorem ds_forApT (i jr : Nat) {pat pnm pcall p6 : Pos} {ek : Expr} {wk we : WE G} (hp : PassesOwn (model X.prog X.w) X.A X.env X.xe) (hc : X.calm = true) (hN : X.N.Nodup) (hk : DE X Z W M 0 ek wk) (he : DE X Z W M n e we) (hm : M i = n + 3 := by rfl) (hir : i ≠ jr := by decide)
    (hi : X.N[i]? = some x := by rfl) (hjr : X.N[jr]? = some z := by rfl)
    (hv : Vis X.env.scope x := by first | exact Or.inl rfl | exact Or.inr (Or.inl rfl) | exact Or.inr (Or.inr rfl)) (hvr : Vis X.env.scope z := by first | exact Or.inl rfl | exact Or.inr (Or.inl rfl) | exact Or.inr (Or.inr rfl)) (hxr : Loc X.env.scope z := by first | exact Or.inl rfl | exact Or.inr rfl)
    (hfr : X.fn z = true ∨ X.env.scope.names.lookup z = some .local := by first | exact .inl rfl | exact .inr rfl)
    (hd : (x == ("__debug__" : Str)) = false := by decide) (hcd : (x == ("__classdict__" : Str)) = false := by decide) (hd2 : (z == ("__debug__" : Str)) = false := by decide) (hcd2 : (z == ("__classdict__" : Str)) = false := by decide)
    (hs : ∀ u, foldedSetIterable (.Subscript (.Name x p1) ek p6) X.env u = pure u := by intro _; rfl) (hix : PlainIx ek := by exact fun _ _ => rfl)
    (hbase : attributeBase (.Name z p5) "append" X.env (eval (.Name z p5) X.env) = eval (.Name z p5) X.env := by rfl)
    (hfew : ((backTo pcall (starEach [e] X.env)).all (fun x => !x.1) && (backToKw pcall (keywordEach [] X.env)).all (fun x => x.1.isSome) && decide ([e].length + ([] : List Keyword).length + (if ([] : List Keyword).isEmpty then 0 else 1) < 30)) = true := by rfl)
    (hline : (pat.endLine == pcall.line) = true := by rfl) (hse : starEach [e] X.env = (false, eval e X.env) :: starEach [] X.env := by rfl)
    (hsw : swapsWith (.Call (.Attribute (.Name z p5) "append" pat) [e] [] pcall) none pnm.line X.env = pure false := by rfl) :
    DS X Z W M nr (.For (.Name z p4) (.Subscript (.Name x p1) ek p6) [.Expr (.Call (.Attribute (.Name z p5) "append" pat) [e] [] pcall) pnm] [] pos) (wForApT i jr wk we) := by
  obtain ⟨tk, pk, rk⟩ := hk
  obtain ⟨te, pe, re⟩ := he
  refine ⟨_, ps_for hp hc (pi_list (pe_ix ix_tup (pe_var hi hv hd hcd) pk hix)) (pg_name hN hjr hxr hfr)
    (pss_one (ps_expr (pe_bm PySem.F.plainAttrs_list PySem.F.slot_list_append PySem.F.type_list_append mt_append (pe_var hjr hvr hd2 hcd2) (pa_cons pe pa_nil hse) hbase hfew hline hse) hsw)) hs, fun {Hs00 H00 Hs H σ env fp g D Dd} R p q k => ?_⟩
  obtain ⟨ods0, he0, q⟩ := q
  obtain ⟨v, hσ0, o⟩ := R.at' i _ he0
  rw [hm] at o
  obtain ⟨po, ws, fs0, rfl, hps, hpH, ow0, hff0⟩ := o.nodeT
  refine ⟨.ref po, hσ0, rk R p q (fun dk g1 vk Hs1 H1 f1 e1 s1 o1 _ _ q1 => ?_) (k.gox R)⟩
  obtain ⟨kk, ki, ds0, rfl, hj, hde, e1⟩ := e1
  have r1 := o1.2
  cases r1
  have R1 := R.step s1
  have pin0 : po ∈ fp i := by rw [hff0]; exact List.mem_cons_self
  have hp1 : H1 po = some (.tup ws) := s1.s2 po _ hpH (R.nvol pin0)
  have ow1 := ow0.step s1 fun b hb => R.nvol (i := i) (by rw [hff0]; exact List.mem_cons_of_mem _ hb)
  obtain ⟨u, fu, hu, ou, su, ndu, _, _⟩ := own_in1T R1 hm hσ0 hff0 hp1 ow1 hde
  obtain ⟨c, vs, fus, rfl, hus, hcu, owu, hfu⟩ := ou.node
  refine ⟨po, ws, kk, .ref c, rfl, rfl, SqT.of hp1, ?_, ?_⟩
  · unfold L2.atI
    rw [ow1.length, hj]
    exact hu
  refine ⟨c, rfl, ⟨vs, SqL.of hcu⟩, ?_⟩
  have hlen := owu.length
  let Iv : Nat → St → Hp → Prop := fun m σ' H' => ∃ Hs' env' fp' g' ods done rest fs', SR X.K M Z.vol Hs00 H00 Hs' H' σ' env' fp' ∧ Z.P g' H' ∧ H' po = some (.tup ws) ∧ H' c = some (.lst vs) ∧ σ'[i]? = some (some (.ref po)) ∧ env'[i]? = some (some (.tup ods)) ∧ ods[ki]? = some (.lst (done ++ rest)) ∧ done.length = m ∧ done.length + rest.length = vs.length ∧
    fp' i = po :: fs' ∧ OwL (Own X.K Hs' H' (n + 2)) ws ods fs' ∧ forApp3 i ki jr we Dd rest ods done env' g'
  refine ⟨fun m l σ' H' => l = vs.length - m ∧ m ≤ vs.length ∧ Iv m σ' H', ⟨vs.length, by simp, Nat.zero_le _, Hs1, env, fp, g1, ods0, [], ds0, fs0, R1, q1, hp1, hcu, hσ0, he0, hde, rfl, by simp [hlen], hff0, ow1, e1⟩, ?_⟩
  rintro m l σ' H' ⟨rfl, hml, Hs', env', fp', g', ods, done, rest, fs', R', p', hp', hc', hσ', he', hod, hdl, hrl, hf', ow', q'⟩
  cases rest with
  | nil =>
    refine .inl ⟨⟨vs, SqL.of hc', by simp at hrl; omega⟩, k.nx q' R' p'⟩
  | cons d rest =>
    rw [List.length_cons] at hrl
    have hvm : m < vs.length := by omega
    refine .inr ⟨⟨vs, vs[m], SqL.of hc', List.getElem?_eq_getElem hvm⟩, fun σ2 H2 => Iv (m + 1) σ2 H2, fun σ2 H2 h => ⟨vs.length - (m + 1), by omega, rfl, hvm, h⟩, fun u H2 yl => ?_⟩
    obtain ⟨eH, yl⟩ := yl
    subst eH
    have hu1 := yl vs (SqL.of hc')
    obtain ⟨u1, eu1⟩ : ∃ u1, u = u1 := ⟨_, rfl⟩
    subst eu1
    have R2 := R'.blind jr u
    have pin' : po ∈ fp' i := by rw [hf']; exact List.mem_cons_self
    have fsv : ∀ b ∈ fs', b ∉ Z.vol := fun b hb => R'.nvol (i := i) (by rw [hf']; exact List.mem_cons_of_mem _ hb)
    have hdm : (done ++ d :: rest)[m]? = some d := by rw [List.getElem?_append_right (by omega), hdl, Nat.sub_self]; rfl
    obtain ⟨hjl, es, rfl, hes, q'⟩ := q'
    have hsl : (σ'.set jr (some u))[jr]? = some (some u) :=
      List.getElem?_set_self (by rw [← R'.len]; exact hjl)
    refine ⟨u, hsl, ?_⟩
    have hσ2 : (σ'.set jr (some u))[i]? = some (some (.ref po)) := by
      rw [List.getElem?_set_ne (Ne.symm hir)]; exact hσ'
    -- the inner list, and its row, as they stand in a state
    have look : ∀ {Hs3 H3 : Hp} {σ3 : St} {env3 : Env} {fp3 : Nat → List Addr}, SR X.K M Z.vol Hs00 H00 Hs3 H3 σ3 env3 fp3 → σ3[i]? = some (some (.ref po)) → fp3 i = po :: fs' → H3 po = some (.tup ws) → OwL (Own X.K Hs3 H3 (n + 2)) ws ods fs' → H3 c = some (.lst vs) →
        ∃ cu us fr, u = .ref cu ∧ cu ∈ fp3 i ∧ H3 cu = some (.lst us) ∧ OwL (Own X.K Hs3 H3 n) us es fr ∧ (cu :: fr).Nodup ∧ (∀ b ∈ fr, b ∈ fp3 i) ∧
        ∀ {us' : List V} {es' : List Dt} {gs : List Addr}, OwL (Own X.K Hs3 H3 n) us' es' gs → (cu :: gs).Nodup → (∀ b ∈ gs, b ∈ fr ∨ (H00 b = none ∧ ∀ l, b ∉ fp3 l)) →
          ∃ fs2, SR X.K M Z.vol Hs00 H00 Hs3 (upd H3 cu (.lst us')) σ3 (env3.set i (some (.tup (ods.set ki (.lst (done ++ .lst es' :: rest)))))) (setf fp3 i (po :: fs2)) ∧ OwL (Own X.K Hs3 (upd H3 cu (.lst us')) (n + 2)) ws (ods.set ki (.lst (done ++ .lst es' :: rest))) fs2 ∧
            upd H3 cu (.lst us') po = some (.tup ws) ∧ upd H3 cu (.lst us') c = some (.lst vs) := by
      intro Hs3 H3 σ3 env3 fp3 R3 hσ3 hf3 hp3 ow3 hc3
      obtain ⟨v3, f3, hv3, ov3, sf3, nd3, pf3, put3⟩ := own_in1T R3 hm hσ3 hf3 hp3 ow3 hod
      rw [hu] at hv3
      cases hv3
      obtain ⟨c3, vs3, g3, ec, hs3, hcc3, owr, hfr⟩ := ov3.node
      cases ec
      rw [hc3] at hcc3
      cases hcc3
      rw [hfr] at nd3 sf3
      obtain ⟨vr, fr0, hvr, ovr, sfr, ndr, putr⟩ := owr.pick (List.nodup_cons.mp nd3).2 hdm
      rw [hu1] at hvr
      cases hvr
      obtain ⟨cu, us, fr, rfl, hus4, hcu4, owu4, hfr4⟩ := ovr.node
      have cuin0 : cu ∈ fr0 := by rw [hfr4]; exact List.mem_cons_self
      have cuin : cu ∈ g3 := sfr cu cuin0
      have cne : c ≠ cu := fun z => (List.nodup_cons.mp nd3).1 (by rw [z]; exact cuin)
      refine ⟨cu, us, fr, rfl, sf3 cu (List.mem_cons_of_mem _ cuin), hcu4, owu4, by rw [← hfr4]; exact ndr, fun b hb => sf3 b (List.mem_cons_of_mem _ (sfr b (by rw [hfr4]; exact List.mem_cons_of_mem _ hb))), fun {us' es' gs} inner nd fresh => ?_⟩
      have node : Own X.K Hs3 (upd H3 cu (.lst us')) (n + 1) (.ref cu) (.lst es') (cu :: gs) :=
        .inr ⟨cu, us', es', gs, rfl, hus4, .inl ⟨upd_same, rfl⟩, inner.upd (List.nodup_cons.mp nd).1, rfl⟩
      have cg : ∀ b ∈ g3, b ∈ fp3 i := fun b hb => sf3 b (List.mem_cons_of_mem _ hb)
      obtain ⟨gr, owr2, ndr2, subr⟩ := putr node nd (fun b hb nb => upd_ne fun z => nb (by rw [z]; exact cuin0)) fun b hb => by
        rcases List.mem_cons.mp hb with rfl | hb
        · exact .inl cuin0
        · rcases fresh b hb with z | z
          · exact .inl (by rw [hfr4]; exact List.mem_cons_of_mem _ z)
          · exact .inr fun y => z.2 i (cg b y)
      have subr4 : ∀ b ∈ gr, b ∈ g3 ∨ (H00 b = none ∧ ∀ l, b ∉ fp3 l) := fun b hb => by
        rcases subr b hb with z | z
        · exact .inl z
        · rcases List.mem_cons.mp z with rfl | z
          · exact .inl cuin
          · rcases fresh b z with y | y
            · exact .inl (sfr b (by rw [hfr4]; exact List.mem_cons_of_mem _ y))
            · exact .inr y
      have cgr : c ∉ gr := fun z => by
        rcases subr4 c z with y | y
        · exact (List.nodup_cons.mp nd3).1 y
        · exact y.2 i (sf3 c List.mem_cons_self)
      have hvs : vs.set m (.ref cu) = vs := by
        apply List.ext_getElem?
        intro mm
        by_cases hmj : m = mm
        · subst hmj
          rw [List.getElem?_set_self hvm, hu1]
        · rw [List.getElem?_set_ne hmj]
      have eset : (done ++ Dt.lst es :: rest).set m (.lst es') = done ++ .lst es' :: rest := by
        rw [List.set_append_right _ _ (by omega), hdl, Nat.sub_self]
        simp
      rw [hvs, eset] at owr2
      have hcc : upd H3 cu (.lst us') c = some (.lst vs) := by rw [upd_ne cne]; exact hc3
      have node2 : Own X.K Hs3 (upd H3 cu (.lst us')) (n + 2) (.ref c) (.lst (done ++ .lst es' :: rest)) (c :: gr) := .inr ⟨c, vs, _, gr, rfl, hs3, .inl ⟨hcc, rfl⟩, owr2, rfl⟩
      obtain ⟨fs2, R4, ow4, hp4⟩ := put3 (q := cu) (by rw [hfr]; exact List.mem_cons_of_mem _ cuin) node2 (List.nodup_cons.mpr ⟨cgr, ndr2⟩) fun b hb => by
        rcases List.mem_cons.mp hb with rfl | hb
        · exact .inl (by rw [hfr]; exact List.mem_cons_self)
        · rcases subr4 b hb with z | z
          · exact .inl (by rw [hfr]; exact List.mem_cons_of_mem _ z)
          · exact .inr z
      exact ⟨fs2, R4, ow4, hp4, hcc⟩
    have cvol : ∀ {Hs3 H3 : Hp} {σ3 : St} {env3 : Env} {fp3 : Nat → List Addr}, SR X.K M Z.vol Hs00 H00 Hs3 H3 σ3 env3 fp3 → σ3[i]? = some (some (.ref po)) → fp3 i = po :: fs' → H3 po = some (.tup ws) → OwL (Own X.K Hs3 H3 (n + 2)) ws ods fs' → c ∉ Z.vol := by
      intro Hs3 H3 σ3 env3 fp3 R3 hσ3 hf3 hp3 ow3
      obtain ⟨v3, f3, hv3, ov3, sf3, _⟩ := own_in1T R3 hm hσ3 hf3 hp3 ow3 hod
      rw [hu] at hv3
      cases hv3
      obtain ⟨c3, vs3, g3, ec, _, _, _, hfr⟩ := ov3.node
      cases ec
      exact R3.nvol (sf3 c (by rw [hfr]; exact List.mem_cons_self))
    have hcv := cvol R' hσ' hf' hp' ow'
    obtain ⟨cu, us, fu, rfl, hcin, hcu2, owu2, ndu2, fuin, _⟩ := look R2 hσ2 hf' hp' ow' hc'
    refine ⟨.inl ⟨rfl, _, SqL.of hcu2⟩, re R2 p' q' (fun r g3 ur Hs3 H3 f e3 s3 o3 nd3 fr3 p3 => ?_) (k.gox R2)⟩
    have R3 := R2.step s3
    have pin2 : po ∈ fp' i := pin'
    have hp3 : H3 po = some (.tup ws) := s3.s2 po _ hp' (R2.nvol pin2)
    have hc3 : H3 c = some (.lst vs) := s3.s2 c _ hc' hcv
    have ow3 := ow'.step s3 fsv
    obtain ⟨cu', us', fu', ecu, hcin', hcu', owu', ndu', fuin', put⟩ := look R3 hσ2 hf' hp3 ow3 hc3
    cases ecu
    have fdj : ∀ b ∈ f, ∀ l, b ∉ fp' l := fun b hb l z => (R2.ct l b z).2 (fr3 b hb)
    have cuf : cu ∉ f := fun z => fdj cu z i hcin'
    have one := OwL.cons (R := Own X.K Hs3 H3 n) o3 OwL.nil
    have all := owu'.append one
    rw [List.append_nil] at all
    obtain ⟨fs2, R4, ow4, hp4, hc4⟩ := put all (by
      rw [List.nodup_cons]
      refine ⟨fun z => ?_, ?_⟩
      · rcases List.mem_append.mp z with z | z
        · exact (List.nodup_cons.mp ndu').1 z
        · exact cuf z
      · rw [List.nodup_append]
        exact ⟨(List.nodup_cons.mp ndu').2, nd3, fun a ha b hb z => fdj b hb i (by rw [← z]; exact fuin' a ha)⟩) fun b hb => by
      rcases List.mem_append.mp hb with z | z
      · exact .inl z
      · exact .inr ⟨fresh_of R2.st (fr3 b z), fdj b z⟩
    refine ⟨cu, us', ur, rfl, rfl, hcu', by rw [owu'.length]; exact hes, ?_⟩
    have hkl : ki < ods.length := (List.getElem?_eq_some_iff.mp hod).1
    refine ⟨_, _, _, g3, ods.set ki (.lst (done ++ .lst (es ++ [r]) :: rest)), done ++ [.lst (es ++ [r])], rest, fs2, R4, Z_upd R3 hcin' p3, hp4, hc4, hσ2, ?_, ?_, by simp [hdl], by simp; omega, by rw [setf_same], ow4, ?_⟩
    · refine List.getElem?_set_self ?_
      rw [List.length_set]
      exact (List.getElem?_eq_some_iff.mp he').1
    · rw [List.getElem?_set_self hkl]
      simp
    · exact e3
/-- (x, e), x an own name that is given away -/
def wTupO (i : Nat) (w : WE G) : WE G := fun env g Q E => ∃ d, env[i]? = some (some d) ∧ w env g (fun d2 g' => Q (.tup [d, d2]) g') E
theorem dr_tupO (i : Nat) {kt : Nat} {e : Expr} {w : WE G} (he : DE X Z W M n e w) (hm : M i = n := by rfl) (hN : X.N[i]? = some x := by rfl) (hv : Vis X.env.scope x := by first | exact Or.inl rfl | exact Or.inr (Or.inl rfl) | exact Or.inr (Or.inr rfl))
    (hd : (x == ("__debug__" : Str)) = false := by decide) (hcd : (x == ("__classdict__" : Str)) = false := by decide) (hs1 : starEach [e] X.env = (false, eval e X.env) :: starEach [] X.env := by rfl) (hs : starEach [.Name x p1, e] X.env = (false, eval (.Name x p1) X.env) :: starEach [e] X.env := by rfl) :
    DR X Z W M (n + 1) (.Tuple [.Name x p1, e] kt pos) (wTupO i w) := by
  obtain ⟨t, pe, r⟩ := he
  refine ⟨_, pe_tup (pa_cons (pe_var hN hv hd hcd) (pa_cons pe pa_nil hs1) hs), fun {Hs0 H0 Hs H σ env fp g Q Qd Ed} R p q k xx => ?_⟩
  obtain ⟨d, e1, q⟩ := q
  obtain ⟨v, hσ, o⟩ := R.at' i d e1
  rw [hm] at o
  refine ⟨v, hσ, r R p q (fun d2 g' v2 Hs1 H1 f2 e2 s1 o2 nd2 fr2 p1 => ⟨(by decide : 2 ≤ sizeLine), fun tp hn => ?_⟩) xx⟩
  have R1 := R.step s1
  have o1 := o.step s1 fun b hb => R.nvol hb
  have st := Step.new (vol := Z.vol) (o := .tup [v, v2]) R1.hs hn
  have st0 := Step.new (vol := []) (o := .tup [v, v2]) R1.hs hn
  have hps : Hs1 tp = none := by
    cases e : Hs1 tp with
    | none => rfl
    | some u => have := R1.hs _ _ e; rw [hn] at this; cases this
  have n1 : ∀ b ∈ fp i, b ≠ tp := fun b hb z => (R1.ct i b hb).2 (by rw [z]; exact hn)
  have n2 : ∀ b ∈ f2, b ≠ tp := fun b hb z => by
    have := (o2.cells b hb).2
    rw [z] at this
    exact this hn
  have m1 := o1.move (Same.refl Hs1) (H' := upd H1 tp (.tup [v, v2])) (fun b hb => upd_ne (n1 b hb)) fun _ _ e => e
  have m2 := o2.move (Same.refl Hs1) (H' := upd H1 tp (.tup [v, v2])) (fun b hb => upd_ne (n2 b hb)) fun _ _ e => e
  have ow := OwL.cons (R := Own X.K Hs1 (upd H1 tp (.tup [v, v2])) n) m1 (OwL.cons m2 OwL.nil)
  rw [List.append_nil] at ow
  refine k _ g' (.ref tp) Hs1 _ (tp :: (fp i ++ f2)) e2 (R1.st.trans st) (.inr ⟨tp, _, _, _, rfl, hps, .inr (.inl ⟨upd_same, rfl⟩), ow, rfl⟩) ?_ ?_ (Z.pure p1 st0)
  · rw [List.nodup_cons]
    refine ⟨fun z => ?_, ?_⟩
    · rcases List.mem_append.mp z with z | z
      · exact n1 _ z rfl
      · exact n2 _ z rfl
    · rw [List.nodup_append]
      exact ⟨R.nd i, nd2, fun a ha b hb z => (R.ct i a ha).2 (by rw [z]; exact fr2 b hb)⟩
  · intro b hb
    rcases List.mem_cons.mp hb with rfl | hb
    · exact fresh_of R1.st hn
    · rcases List.mem_append.mp hb with hb | hb
      · exact R.nw i b hb
      · exact fresh_of R.st (fr2 b hb)
/-- e[k], a part of a new tuple; the rest is dropped -/
def wIxO (w wk : WE G) : WE G := fun env g Q E => w env g (fun d g1 => ∃ ds, d = .tup ds ∧ wk env g1 (fun dk g2 => ∃ (kk : Int) (k : Nat) (d' : Dt), dk = .int kk ∧ ixN ds.length kk = some k ∧ ds[k]? = some d' ∧ Q d' g2) E) E
theorem de_ixO {e : Expr} {w : WE G} {c : Int} {jc : Nat} (he : DE X Z W M (n + 1) e w) : DE X Z W M n (.Subscript e (.Constant (.int c) jc p2) pos) (wIxO w (wC (.int c))) := by
  obtain ⟨t, pe, r⟩ := he
  refine ⟨_, pe_ix ix_tup pe pe_int (fun _ _ => rfl), fun {Hs0 H0 Hs H σ env fp g Q Qd Ed} R p q k xx => ?_⟩
  refine r R p q (fun d g1 v Hs1 H1 f e1 s1 o nd fr p1 => ?_) xx
  obtain ⟨ds, rfl, kk, ki, d', ek, hk, hd, q1⟩ := e1
  cases ek
  obtain ⟨po, vs, fs, rfl, hps, hpo, ow, rfl⟩ := o.nodeT
  obtain ⟨v', f', hv', o', sf, ndf, _⟩ := ow.pick (List.nodup_cons.mp nd).2 hd
  refine ⟨po, vs, _, v', rfl, rfl, SqT.of hpo, ?_, k d' g1 v' Hs1 H1 f' q1 s1 o' ndf (fun b hb => fr b (List.mem_cons_of_mem _ (sf b hb))) p1⟩
  unfold L2.atI
  rw [ow.length, hk]
  exact hv'
/-- isinstance(x, T) of data -/
def tyD : Dt → Option String
  | .non => some "NoneType"
  | .bl _ => some "bool"
  | .int _ => some "int"
  | .str _ => some "str"
  | .lst _ => some "list"
  | .tup _ => some "tuple"
  | _ => none
def isiD : D1 := fun ds q => ∃ d T tn b, ds = [d, .raw (.ty T)] ∧ tyD d = some tn ∧ kitB tn T = some b ∧ q (.bl b)
theorem tyx_of {K : PySem.W.Frag} {Hs H : Hp} (s : Same Hs H) {v : V} {d : Dt} {tn : String} (r : Rp K Hs v d) (h : tyD d = some tn) : TyX K H v (.type tn) := by
  cases r with
  | non => cases h; exact .base .non
  | bl b => cases h; exact .base (.bl b)
  | int i => cases h; exact .base (.int i)
  | str z => cases h; exact .base (.str z)
  | raw v => cases h
  | lst ha _ => cases h; exact .base (.lst (s _ _ ha))
  | klst ha _ => cases h
  | exn _ _ _ => cases h
  | obj _ => cases h
  | dic _ _ _ => cases h
  | tup ha _ =>
    cases h
    rcases ha with (ha | ⟨o, ha⟩) | ⟨o, its, nn, hk, hc, _⟩
    · exact .base (.tup (s _ _ ha))
    · exact .fTuple (s _ _ ha)
    · exact .kTuple hk hc
theorem cal_isi : Cal X n (rIsi X.K) isiD := by
  intro Hs H vs ds Q q s hr r k
  obtain ⟨d, T, tn, b, rfl, ht, hb, r⟩ := r
  cases hr with
  | cons h1 h2 =>
  cases h2 with
  | cons h2 h3 =>
  cases h3
  cases h2
  exact ⟨_, _, _, .type T, b, rfl, .ty T, tyx_of s h1 ht, kit_ty hb, k.scal s (d := .bl _) rfl r⟩
end
end Vl

/-! Vl30: exceptions that are caught become data: try .. except C as n, whose suite hands the exception on. -/
namespace Vl
open PySem PySem.Spec L2
open PyProof.Rows hiding St
theorem exF_ok {P : Program} {w : World} {H : Hp} {h : Heap} {a c dd : Addr} {oe : Obj} {vs : Array Value} (e : h.get? a = some oe) (hz : Zc (.ref c) (some dd) oe) (hd : oe.data = .fields vs) : ObjOk P w H h a (.ext (exF c dd a)) :=
  ⟨⟨oe, vs, e, hz.1, hz.2, hd⟩, ⟨oe, e⟩, fun _ _ p k => by obtain ⟨o, vs, e, r⟩ := p; exact ⟨o, vs, k _ e, r⟩⟩
/-- a thing that nobody told of yet is told of from here on -/
theorem inv_track {X : Cx} {pins : List (Addr × Obj)} {σ : St} {H : Hp} {s : Shared} {a c dd : Addr} {oe : Obj} {vs : Array Value} (I : Inv X pins σ H s) (ha : s.heap.get? a = some oe) (hz : Zc (.ref c) (some dd) oe) (hd : oe.data = .fields vs)
    (na : H a = none) (nL : a ≠ X.env.locals) (n0 : ∀ o, X.s_0.heap.get? a = some o → a ∈ X.ex) (np : ∀ p ∈ X.pn ++ pins, p.1 ≠ a) : Inv X pins σ (upd H a (.ext (exF c dd a))) s := by
  have ne : ∀ {b : Addr} {u : HO}, H b = some u → b ≠ a := fun h z => by subst z; rw [na] at h; cases h
  refine ⟨I.ok, I.os, I.bare, ⟨I.base.keep, I.base.slot, fun b o e n hx => ?_, I.base.there, fun b xs e => ?_, fun b o u e => ?_, fun b ps e => ?_⟩, I.loc, I.cell, ?_, fun x c e => ?_, fun p hp => ?_, fun b u e => ?_, I.len⟩
  · have hb : b ≠ a := fun z => by subst z; exact hx (n0 o e)
    rw [upd_ne hb]
    exact I.base.free b o e n hx
  · rw [upd_ne (ne (I.base.tups b xs e))]; exact I.base.tups b xs e
  · rw [upd_ne (ne (I.base.frzs b o u e))]; exact I.base.frzs b o u e
  · obtain ⟨m, e1⟩ := I.base.tbls b ps e
    exact ⟨m, by rw [upd_ne (ne e1)]; exact e1⟩
  · rw [upd_ne (Ne.symm nL)]; exact I.free
  · have hc : c ≠ a := fun z => by
      subst z
      obtain ⟨v, hv⟩ := I.cell x c e
      obtain ⟨o, ho, hdd⟩ := hv
      rw [ha] at ho
      cases ho
      rw [hd] at hdd
      cases hdd
    rw [upd_ne hc]; exact I.freeC x c e
  · obtain ⟨h1, h2, h3⟩ := I.pin p hp
    exact ⟨h1, by rw [upd_ne (np p hp)]; exact h2, h3⟩
  · by_cases hb : b = a
    · subst hb
      rw [upd_same] at e
      cases e
      exact exF_ok ha hz hd
    · rw [upd_ne hb] at e
      exact (I.hok b u e).stay (fun _ _ _ q => q) (fun d q => by rw [upd_ne (ne q)]; exact q) fun d xs q => by rw [upd_ne (ne q)]; exact q
/-- what the clause wishes of an exception of the body, where the exception is told of from the catch on: slot i is the name's -/
def wHeld (K : PySem.W.Frag) (c : Value) (i : Nat) (ts : Value → TS) (Wout : WX) (D : Ends) : WX := fun cls d σ H =>
  ∃ b, PySem.W.exmOne K cls c = some b ∧ (b = true → ∃ C dd, cls = .ref C ∧ d = some dd ∧ ∀ a, H a = none → ts cls { nx := fun σ' H' => D.nx (σ'.set i none) H', rt := D.rt, bk := fun σ' H' => D.bk (σ'.set i none) H', ct := fun σ' H' => D.ct (σ'.set i none) H' } (σ.set i (some (.ref a))) (upd H a (.ext (exF C dd a)))) ∧
    (b = false → Wout cls d σ H)
section
variable {X : Cx} {x n : Str} {c : Value} {i : Nat} {body suite : List Stmt} {b₀ : Stmt} {np pos pos' : Pos} {tb : WX → TS} {ts : Value → TS} {Wout : WX}
theorem ps_try_held (hs : X.stack = X.env :: X.outer) (hf : X.env.frame = some X.env.locals) (hN : X.N.Nodup) (hi : X.N[i]? = some n) (hln : X.env.kindOf n = some .local) (hc : Names X x c) (tk : Takes X Wout)
    (hb : ∀ (W : WX) (pn : List (Addr × Obj)) (xe : Value → Shared → Prop), Takes (X.tr pn xe) W → PassesOwn (model X.prog X.w) X.A X.env xe → PSs (X.tr pn xe) body (tb W))
    (hsu : ∀ (a : Addr) (cls : Value) (pn : List (Addr × Obj)), PSs (X.suite a pn) (b₀ :: suite) (ts cls)) :
    PS X (.Try body [.ExceptHandler (some (.Name x np)) (some n) (b₀ :: suite) pos'] [] [] pos) (fun D σ H => tb (wHeld X.K c i ts Wout D) D σ H) := by
  refine ⟨fun pins s σ H D I h => ?_⟩
  have ok := I.ok
  have hfr : X.A.frames = some (X.env :: X.outer) := by rw [ok.frames, hs]
  refine wpAny_Try_except ?_
  refine wpAny_mono ((hb (wHeld X.K c i ts Wout D) (X.pn ++ pins) (fun e s₁ => wpAny (model X.prog X.w) X.A (noteFrame e X.env) (fun _ s₂ => wpAny (model X.prog X.w) X.A (setFlight e none) (fun _ s₃ =>
    wpAny (model X.prog X.w) X.A (handleBy e X.env [.ExceptHandler (some (.Name x np)) (some n) (b₀ :: suite) pos']) (SP X pins D) X.xe s₃) X.xe s₂) X.xe s₁) (fun u s' xx => ?_) PassesOwn.looking).run [] s σ H D (I.toTry _) h) (fun f s1 hsp => ?_) (fun e s1 he => he)
  · obtain ⟨a, B, sI, pins', σ', H', cls, d, rfl, J', nb, up, sky, na, os, ag, b, hb1, hyes, hno⟩ := xx
    have J : Inv X pins σ' H' sI := J'.ofTry ok
    have sky' : Sky B (X.env :: X.outer) a (Zc cls d) X.env.locals s'.heap := by rw [← hs]; exact sky
    show wpAny (model X.prog X.w) X.A (noteFrame (.ref a) X.env) _ _ _
    refine Sky.land Zc.steady hfr hf sky' fun h3 fl3 up3 => ?_
    have J3 : Inv X pins σ' H' { s' with heap := h3 } := J.landed nb fl3.1 (up.trans up3) os ag
    obtain ⟨oe3, vs3, he3, hz3, hd3⟩ := fl3.there
    have nfr : a ∉ frs (X.env :: X.outer) := fun hm => by
      obtain ⟨_, o', e', hnf⟩ := fl3.2.2.1.mem hm
      rw [he3] at e'; cases e'
      exact hnf _ hd3
    have nL : a ≠ X.env.locals := fun z => nfr (List.mem_filterMap.mpr ⟨X.env, List.mem_cons_self, by rw [hf, z]⟩)
    have nF : a ∉ X.fs := fun hm => by
      obtain ⟨e, he, q⟩ := List.mem_filterMap.mp hm
      exact nfr (List.mem_filterMap.mpr ⟨e, List.mem_cons_of_mem _ he, q⟩)
    have nB : B.get? a = none := fl3.2.1
    have nI : sI.heap.get? a = none := by
      cases z : sI.heap.get? a with
      | none => rfl
      | some o => rw [nb a o z (by rw [hs]; exact nfr)] at nB; cases nB
    have n0 : ∀ o, X.s_0.heap.get? a = some o → a ∈ X.ex := fun o e => Classical.byContradiction fun hx => by
      obtain ⟨o', e'⟩ := J.base.there a o e hx
      rw [nI] at e'; cases e'
    have npn : ∀ p ∈ X.pn ++ pins, p.1 ≠ a := fun p hp z => by
      obtain ⟨h1, _⟩ := J.pin p hp
      rw [z, nI] at h1; cases h1
    have S3 := J3.suite he3 hd3 na nL nF
    refine wpAny_handleBy_cons (codeAny_handlers_test ?_) (by intro q; cases q)
    have LT : PySem.W.Looks (model X.prog X.w) h3 (typeOf (.ref a)) cls := fun A Q E s k q => wpAny_typeOf_ref (k _ _ he3) (by rw [hz3.1]; exact q)
    have LM := PySem.W.exm_one (M := model X.prog X.w) (J3.kIn) LT hb1
    have test : ∀ {Q : Value → Shared → Prop} {E : Value → Shared → Prop}, Q c { s' with heap := h3 } → wpAny (model X.prog X.w) (X.A.mark (some (.ref a))) (eval (.Name x np) X.env) Q E { s' with heap := h3 } := fun {Q E} q => by
      obtain ⟨hg, hdbg, hm | ⟨hm, hv, hnn⟩⟩ := hc
      · exact ld_glob (X := X.suite a ((a, oe3) :: (X.pn ++ pins))) S3 hg hm q hdbg
      · exact ld_blt (X := X.suite a ((a, oe3) :: (X.pn ++ pins))) S3 hg hm hv q hnn hdbg
    refine test (LM.here ?_)
    cases b with
    | true =>
      obtain ⟨C, dd, rfl, rfl, hyes2⟩ := hyes rfl
      refine codeAny_handlers_suite_as ?_
      refine HandSPX.lands_againZ fl3 fun h4 fl4 up4 => ?_
      have J4 : Inv X pins σ' H' { s' with heap := h4 } := J.landed nb fl4.1 ((up.trans up3).trans up4) os ag
      obtain ⟨oe4, vs4, he4, hz4, hd4⟩ := fl4.there
      have J5 : Inv X pins σ' (upd H' a (.ext (exF C dd a))) { s' with heap := h4 } := inv_track J4 he4 hz4 hd4 na nL n0 npn
      have S4 : Inv (X.suite a (X.pn ++ pins)) [] σ' (upd H' a (.ext (exF C dd a))) { s' with heap := h4 } :=
        ⟨J5.ok.suite _ _, J5.os, J5.bare, J5.base, J5.loc, J5.cell, J5.free, J5.freeC, fun p hp => J5.pin p (by rw [List.append_nil] at hp; exact hp), J5.hok, J5.len⟩
      refine store_ok (X := X.suite a (X.pn ++ pins)) (v := .ref a) S4 hN hi (.inl hln) rfl (fun s5 S5 => ?_) (.inr hln)
      refine wpAny_mono ((hsu a (.ref C) (X.pn ++ pins)).run [] s5 _ _ _ S5 (hyes2 a na)) (fun f s6 hsp => ?_) (fun _ _ z => False.elim z)
      have end_ : ∀ {σ6 : St} {H6 : Hp} {Q : Shared → Prop}, Inv (X.suite a (X.pn ++ pins)) [] σ6 H6 s6 → (∀ s7, Inv X pins (σ6.set i none) H6 s7 → Q s7) →
          wpAny (model X.prog X.w) X.A (do bindName X.env n .none; unbindBehindTheSuite X.env n pos') (fun _ s7 => Q s7) X.xe s6 := fun {σ6 H6 Q} S6 hq =>
        gone_ok (X := X) (pins := pins) ⟨ok, S6.os, S6.bare, S6.base, S6.loc, S6.cell, S6.free, S6.freeC, fun p hp => S6.pin p (by rw [List.append_nil]; exact hp), S6.hok, S6.len⟩ hN hi hln hq
      cases f with
      | next =>
        obtain ⟨σ6, H6, S6, q6⟩ := hsp
        exact end_ S6 fun s7 J7 => ⟨_, _, J7, q6⟩
      | brk =>
        obtain ⟨σ6, H6, S6, q6⟩ := hsp
        exact end_ S6 fun s7 J7 => ⟨_, _, J7, q6⟩
      | cont =>
        obtain ⟨σ6, H6, S6, q6⟩ := hsp
        exact end_ S6 fun s7 J7 => ⟨_, _, J7, q6⟩
      | ret u =>
        obtain ⟨v6, σ6, H6, S6, r6, q6⟩ := hsp
        exact end_ S6 fun s7 J7 => ⟨_, _, _, J7, r6, q6⟩
    | false =>
      show wpAny _ X.A (handleBy (.ref a) X.env []) _ _ _
      refine wpAny_handleBy_nil ?_
      obtain ⟨k1, k2, k3, oe, vs, T, oT, ts', he, hz, hd, h1, hr⟩ := id fl3
      unfold PySem.passOn
      refine wpAny_bind (wpAny_field he hd h1 ?_)
      rw [if_neg (show ¬ ((Value.ref T == Value.none) = true) from by simp)]
      have fin : wpAny (model X.prog X.w) X.A (setFlight (.ref a) X.env.frame) (fun _ s4 => wpAny (model X.prog X.w) X.A (throw (.ref a) : Sem Flow) (SP X pins D) X.xe s4) X.xe { s' with heap := h3 } := by
        rw [hf]
        refine HandSPX.setFlight_upZ fl3 fun h4 hh4 up4 => wpAny_throw (tk _ _ ?_)
        exact ⟨a, B, sI, pins, σ', H', cls, d, rfl, J, nb, (up.trans up3).trans up4, .inr (.inr (by rw [hs]; exact hh4)), na, os, ag, hno rfl⟩
      first
        | exact wpAny_bind (wpAny_pure (wpAny_bind fin))
        | exact wpAny_bind fin
  · cases f with
    | next =>
      obtain ⟨σ', H', J', q⟩ := hsp
      exact wpAny_execs_nil ⟨σ', H', J'.ofTry ok, q⟩
    | brk =>
      obtain ⟨σ', H', J', q⟩ := hsp
      exact ⟨σ', H', J'.ofTry ok, q⟩
    | cont =>
      obtain ⟨σ', H', J', q⟩ := hsp
      exact ⟨σ', H', J'.ofTry ok, q⟩
    | ret u =>
      obtain ⟨v, σ', H', J', r, q⟩ := hsp
      exact ⟨v, σ', H', J'.ofTry ok, r, q⟩
end
/-- own cells are lists and tuples -/
theorem Own.seqs {K : PySem.W.Frag} {Hs H : Hp} : ∀ {n : Nat} {v : V} {d : Dt} {f : List Addr}, Own K Hs H n v d f → ∀ b ∈ f, ∀ fs, H b ≠ some (.xd fs)
  | 0, _, _, _, ⟨e1, _⟩, b, hb, _ => by rw [e1] at hb; cases hb
  | n + 1, v, d, f, h, b, hb, fs' => by
    rcases h with ⟨e, _⟩ | ⟨p, vs, ds, fs, e1, e2, nd, r, e3⟩
    · rw [e] at hb; cases hb
    · subst e3
      rcases List.mem_cons.mp hb with rfl | hb
      · rcases nd with ⟨q, _⟩ | ⟨q, _⟩ | ⟨_, q, _⟩ <;> (rw [q]; intro z; cases z)
      · have all : ∀ {vs : List V} {ds : List Dt} {fs : List Addr}, OwL (Own K Hs H n) vs ds fs → b ∈ fs → H b ≠ some (.xd fs') := by
          intro vs ds fs r
          induction r with
          | nil => intro hb; cases hb
          | cons h _ ih =>
            intro hb
            rcases List.mem_append.mp hb with hb | hb
            · exact Own.seqs h b hb fs'
            · exact ih hb
        exact all r hb
section
variable {G : Type} {X : Cx} {Z : Vo G} {W : WX} {M : Nat → Nat} {n nr i : Nat}
open Classical in
/-- the cells of names that hold nothing are nobody's -/
theorem SR.trim {K : PySem.W.Frag} {vol : List Addr} {Hs0 H0 Hs H : Hp} {σ : St} {env : Env} {fp : Nat → List Addr} (R : SR K M vol Hs0 H0 Hs H σ env fp) : SR K M vol Hs0 H0 Hs H σ env (fun j => if ∃ d, env[j]? = some (some d) then fp j else []) := by
  have sub : ∀ j b, b ∈ (if ∃ d, env[j]? = some (some d) then fp j else []) → b ∈ fp j := fun j b hb => by
    split at hb
    · exact hb
    · cases hb
  refine ⟨R.st, fun j d e => ?_, fun j => ?_, fun j k b h1 h2 => R.dj j k b (sub j b h1) (sub k b h2), fun j b hb => R.nw j b (sub j b hb), fun j b hb => R.ct j b (sub j b hb), R.hv, R.len⟩
  · rw [if_pos ⟨d, e⟩]
    exact R.at' j d e
  · show (if _ then _ else _ : List Addr).Nodup
    split
    · exact R.nd j
    · exact List.nodup_nil
open Classical in
theorem SR.noXd {K : PySem.W.Frag} {vol : List Addr} {Hs0 H0 Hs H : Hp} {σ : St} {env : Env} {fp : Nat → List Addr} (R : SR K M vol Hs0 H0 Hs H σ env fp) {dd : Addr} {fs : List (Str × V)} (hx : H dd = some (.xd fs)) (j : Nat) (b : Addr)
    (hb : b ∈ (if ∃ d, env[j]? = some (some d) then fp j else [])) : b ≠ dd := by
  split at hb
  · rename_i h
    obtain ⟨d, e⟩ := h
    obtain ⟨v, _, o⟩ := R.at' j d e
    intro z
    exact o.seqs b hb fs (by rw [z]; exact hx)
  · cases hb
theorem SR.held {K : PySem.W.Frag} {vol : List Addr} {Hs0 H0 Hs H : Hp} {σ : St} {env : Env} {fp : Nat → List Addr} {dd a c : Addr} {v : V} {d : Dt} (R : SR K M vol Hs0 H0 Hs H σ env fp) (hM : M i = 0) (hx : XdAt Hs H dd v) (h0 : H0 dd = none) (sc : Sc v d) (na : H a = none) (ow : ∀ j b, b ∈ fp j → b ≠ dd) :
    SR K M vol Hs0 H0 (upd (upd Hs dd (.xd [("value", v)])) a (.ext (exF c dd a))) (upd H a (.ext (exF c dd a))) (σ.set i (some (.ref a))) (env.set i (some (.exn c d))) (setf fp i []) := by
  have hs := R.hs
  have nsa : Hs a = none := by
    cases z : Hs a with
    | none => rfl
    | some o => rw [hs a o z] at na; cases na
  have ne : dd ≠ a := fun z => by have := hx.1; rw [z, na] at this; cases this
  have h0a : H0 a = none := by
    cases z : H0 a with
    | none => rfl
    | some o => exact absurd na (R.st.s5 a (by rw [z]; simp))
  have sm : Same Hs (upd (upd Hs dd (.xd [("value", v)])) a (.ext (exF c dd a))) := fun b o e => by
    rw [upd_ne (ne_of_none e nsa), upd_ne (ne_of_none e hx.2)]; exact e
  have s1 : SR K M vol Hs0 H0 (upd (upd Hs dd (.xd [("value", v)])) a (.ext (exF c dd a))) (upd H a (.ext (exF c dd a))) σ env fp := by
    have cells : ∀ j b, b ∈ fp j → (upd (upd Hs dd (.xd [("value", v)])) a (.ext (exF c dd a))) b = none ∧ upd H a (.ext (exF c dd a)) b = H b := fun j b hb => by
      obtain ⟨q1, q2⟩ := R.ct j b hb
      have n1 : b ≠ a := fun z => by rw [z] at q2; exact q2 na
      exact ⟨by rw [upd_ne n1, upd_ne (ow j b hb)]; exact q1, upd_ne n1⟩
    refine ⟨⟨R.st.s1.trans sm, fun b o e hv => ?_, fun b e => ?_, fun b o e => ?_, fun b e => ?_⟩, fun j e h => ?_, R.nd, R.dj, R.nw, fun j b hb => ?_, fun b hb => ?_, R.len⟩
    · have q := R.st.s2 b o e hv
      rw [upd_ne (ne_of_none q na)]; exact q
    · by_cases hb : b = a
      · right; rw [hb]; exact h0a
      · by_cases hb2 : b = dd
        · right; rw [hb2]; exact h0
        · rw [upd_ne hb, upd_ne hb2] at e
          exact R.st.s3 b e
    · by_cases hb : b = a
      · subst hb
        rw [upd_same] at e ⊢
        exact e
      · rw [upd_ne hb] at e ⊢
        by_cases hb2 : b = dd
        · subst hb2
          rw [upd_same] at e
          rw [← e]; exact hx.1
        · rw [upd_ne hb2] at e
          exact hs b o e
    · by_cases hb : b = a
      · rw [hb, upd_same]; simp
      · rw [upd_ne hb]; exact R.st.s5 b e
    · obtain ⟨u, e1, o⟩ := R.at' j e h
      exact ⟨u, e1, o.move sm (fun b hb => (cells j b hb).2) fun b hb _ => (cells j b hb).1⟩
    · obtain ⟨q1, q2⟩ := cells j b hb
      rw [q2]
      exact ⟨q1, (R.ct j b hb).2⟩
    · obtain ⟨q1, q2⟩ := R.hv b hb
      refine ⟨q1, ?_⟩
      rw [upd_ne (fun z => q1 (by rw [z]; exact h0a)), upd_ne (fun z => q1 (by rw [z]; exact h0))]
      exact q2
  refine s1.setP hM (.exn (v := v) (dd := dd) upd_same ?_ sc)
  rw [upd_ne ne, upd_same]
/-- try: body except C as n: suite; the exception is data from the catch on -/
def wTryEx (exm : Addr → Option Bool) (i : Nat) (wb ws : WS G) : WS G := fun D env g =>
  wb { D with ex := fun c d env' g' => ∃ b, exm c = some b ∧ (b = true → ws { nx := fun e g => D.nx (e.set i none) g, rt := D.rt, bk := fun e g => D.bk (e.set i none) g, ct := fun e g => D.ct (e.set i none) g } (env'.set i (some (.exn c d))) g') ∧ (b = false → D.ex c d env' g') } env g
theorem ds_try_ex {n x : Str} {c : Value} {body suite : List Stmt} {b₀ : Stmt} {np pos pos' : Pos} {wb ws : WS G} (hs : X.stack = X.env :: X.outer) (hf : X.env.frame = some X.env.locals) (hN : X.N.Nodup) (hi : X.N[i]? = some n) (hln : X.env.kindOf n = some .local)
    (hc : Names X x c) (tk : Takes X W) (hM : M i = 0)
    (hb : ∀ (W' : WX) (pn : List (Addr × Obj)) (xe : Value → Shared → Prop), Takes (X.tr pn xe) W' → PassesOwn (model X.prog X.w) X.A X.env xe → DB (X.tr pn xe) Z W' M nr body wb)
    (hsu : ∀ (a : Addr) (pn : List (Addr × Obj)), DB (X.suite a pn) Z W0 M nr (b₀ :: suite) ws) :
    DS X Z W M nr (.Try body [.ExceptHandler (some (.Name x np)) (some n) (b₀ :: suite) pos'] [] [] pos) (wTryEx (fun c' => PySem.W.exmOne X.K (.ref c') c) i wb ws) := by
  refine ⟨_, ps_try_held (Wout := W) (i := i) (tb := fun W' D σ H => ∃ (Hs0 H0 Hs : Hp) (env : Env) (fp : Nat → List Addr) (g : G) (Dd : DEnds G), SR X.K M Z.vol Hs0 H0 Hs H σ env fp ∧ Z.P g H ∧ wb Dd env g ∧ GoS X.K Z M nr W' Hs0 H0 Dd D)
    (ts := fun _ D σ H => ∃ (Hs0 H0 Hs : Hp) (env : Env) (fp : Nat → List Addr) (g : G) (Dd : DEnds G), SR X.K M Z.vol Hs0 H0 Hs H σ env fp ∧ Z.P g H ∧ ws Dd env g ∧ GoS X.K Z M nr W0 Hs0 H0 Dd D)
    hs hf hN hi hln hc tk (fun W' pn xe t p => ⟨fun pins s σ H D I h => ?_⟩) (fun a cls pn => ⟨fun pins s σ H D I h => ?_⟩), fun {Hs0 H0 Hs H σ env fp g D Dd} R p q k => ?_⟩
  · obtain ⟨Hs0, H0, Hs, env, fp, g, Dd, R, p', q, k⟩ := h
    obtain ⟨t', ps, r⟩ := hb W' pn xe t p
    exact ps.run pins s σ H D I (r R p' q k)
  · obtain ⟨Hs0, H0, Hs, env, fp, g, Dd, R, p', q, k⟩ := h
    obtain ⟨t', ps, r⟩ := hsu a pn
    exact ps.run pins s σ H D I (r R p' q k)
  · refine ⟨Hs0, H0, Hs, env, fp, g, _, R, p, q, ⟨k.nx, k.bk, k.ct, k.rt, ?_⟩⟩
    intro c' d env' g' v y Hs' H' σ' fp' e R' p' hx sc h0
    obtain ⟨b, e1, e2, e3⟩ := e
    have out : ∀ {env'' : Env} {σ'' : St} {Hs'' H'' : Hp} {fp'' : Nat → List Addr}, SR X.K M Z.vol Hs0 H0 Hs'' H'' σ'' env'' fp'' → SR X.K M Z.vol Hs0 H0 Hs'' H'' (σ''.set i none) (env''.set i none) fp'' := fun {env'' σ'' Hs'' H'' fp''} R2 =>
      R2.weak (by rw [List.length_set, List.length_set]; exact R2.len) fun j d' ej => by
        by_cases hj : i = j
        · subst hj
          by_cases hl : i < env''.length
          · rw [List.getElem?_set_self hl] at ej; cases ej
          · rw [List.getElem?_eq_none (by simpa using hl)] at ej; cases ej
        · rw [List.getElem?_set_ne hj] at ej
          exact ⟨ej, by rw [List.getElem?_set_ne hj]⟩
    refine ⟨b, e1, fun hb' => ⟨c', y, rfl, rfl, fun a na => ?_⟩, fun hb' => k.ex (e3 hb') R' p' hx sc h0⟩
    refine ⟨Hs0, H0, _, _, _, g', _, R'.trim.held hM hx h0 sc na (R'.noXd hx.1), Z.dep g' H' _ p' fun b hb => upd_ne fun z => ?_, e2 hb', ⟨fun q R2 p2 => k.nx q (out R2) p2, fun q R2 p2 => k.bk q (out R2) p2, fun q R2 p2 => k.ct q (out R2) p2, fun q st o nd fr p2 => k.rt q st o nd fr p2, fun q _ _ _ _ _ => q.elim⟩⟩
    exact Z.trk g' H' p' b hb (by rw [z]; exact na)
end
end Vl

/-! Vl31: what is asked of an exception that is data: isinstance, its value. -/
namespace Vl
open PySem PySem.Spec L2
section
variable {X : Cx}
/-- isinstance(e, C), e an exception that stands -/
def rIsH (K : PySem.W.Frag) : List V → Hp → VK → Prop := fun xs H Q => ∃ (a D dd : Addr) (c : V) (cv : Value) (b : Bool) (fs : List (Str × V)), xs = [.ref a, c] ∧ ClsV c cv ∧ H a = some (.ext (exF D dd a)) ∧ H dd = some (.xd fs) ∧ ExcC K D ∧ PySem.W.kitOne K (.ref D) cv = some b ∧ Q (.bl b) H
def rIsHT (K : PySem.W.Frag) : List V → Hp → VK → Prop := fun xs H Q => ∃ (a D dd tp : Addr) (cs : List V) (us : List Value) (b : Bool) (fs : List (Str × V)), xs = [.ref a, .ref tp] ∧ SqT K H tp cs ∧ Paired ClsV cs us ∧ H a = some (.ext (exF D dd a)) ∧ H dd = some (.xd fs) ∧ ExcC K D ∧ PySem.W.kitAny K (.ref D) us = some b ∧ Q (.bl b) H
theorem inst_held {pins : List (Addr × Obj)} {σ : St} {H : Hp} {s : Shared} {a D dd : Addr} {fs : List (Str × V)} (I : Inv X pins σ H s) (ea : H a = some (.ext (exF D dd a))) (ed : H dd = some (.xd fs)) : ∃ oe od, PySem.W.InstAt s.heap a oe D (some od) := by
  obtain ⟨⟨oe, vs, hget, h1, h2, h3⟩, _⟩ := (show ObjOk X.prog X.w H s.heap a (.ext (exF D dd a)) from I.hok a _ ea)
  obtain ⟨mA, hns, hr⟩ := (show ObjOk X.prog X.w H s.heap dd (.xd fs) from I.hok dd _ ed)
  obtain ⟨od, ho, hl⟩ := lookIn_ns hns
  exact ⟨oe, od, hget, h1, by unfold PySem.W.notCls; rw [h3] <;> rfl, by rw [h2]; exact ho⟩
theorem kit_exh {a D : Addr} {oe : Obj} (C : ExcC X.K D) {od : Option Obj} : PySem.W.KitX X.K (.ref a) (.ref D) (fun h => PySem.W.InstAt h a oe D od) :=
  PySem.W.kitx_exc (by obtain ⟨cd, hc, _⟩ := PySem.W.any_some C.hd; rw [hc]; rfl) C.hg C.hk C.hs C.ha C.hn C.ht C.hm
theorem call_isH : CallR X (.builtin "isinstance") (rIsH X.K) := by
  intro pins s σ H xs us Q I r h
  obtain ⟨a, D, dd, c, cv, b, fs, rfl, k, ea, ed, C, e, q⟩ := h
  obtain ⟨u1, u2, rfl, r1, r2⟩ := vals2 r
  obtain rfl := k.eq r2
  obtain rfl : u1 = Value.ref a := r1
  obtain ⟨oe, od, J⟩ := inst_held I ea ed
  exact PySem.W.kia_one (kit_exh (X := X) C) I.kIn J e (fun z => nomatch z) fun tk => ⟨.bl b, H, I.tok tk, rfl, q⟩
theorem call_isHT : CallR X (.builtin "isinstance") (rIsHT X.K) := by
  intro pins s σ H xs us Q I r h
  obtain ⟨a, D, dd, tp, cs, ws, b, fs, rfl, hT, k, ea, ed, C, e, q⟩ := h
  obtain ⟨u1, u2, rfl, r1, r2⟩ := vals2 r
  obtain rfl : u2 = Value.ref tp := r2
  obtain rfl : u1 = Value.ref a := r1
  obtain ⟨oe, od, J⟩ := inst_held I ea ed
  obtain ⟨its, rv, ht, _⟩ := I.tuple hT
  have e3 := ClsV.all k rv
  subst e3
  obtain ⟨o, h1, h2, n, h3⟩ := ht
  obtain ⟨oc, od', dt, sl⟩ := o
  simp only at h2 h3
  subst h2 h3
  exact PySem.W.kia_tup (kit_exh (X := X) C) I.kIn J h1 e (fun z => nomatch z) fun tk => ⟨.bl b, H, I.tok tk, rfl, q⟩
def rIsA (K : PySem.W.Frag) : List V → Hp → VK → Prop := fun xs H Q => (rIsH K xs H Q ∨ rIsHT K xs H Q) ∨ rIsi K xs H Q
theorem call_isA : CallR X (.builtin "isinstance") (rIsA X.K) := (call_isH.or call_isHT).or call_isi
/-- isinstance of an exception or of plain data -/
def isxD (kit : Addr → Value → Option Bool) (kits : Addr → List Value → Option Bool) (ok : Addr → Prop) : D1 := fun ds q =>
  ((∃ c d cl cu b, ds = [.exn c d, .raw cl] ∧ ClsV cl cu ∧ ok c ∧ kit c cu = some b ∧ q (.bl b)) ∨ (∃ c d cls cus b, ds = [.exn c d, .tup (cls.map Dt.raw)] ∧ Paired ClsV cls cus ∧ ok c ∧ kits c cus = some b ∧ q (.bl b))) ∨ isiD ds q
theorem cal_isx {n : Nat} : Cal X n (rIsA X.K) (isxD (cwOf X.K X.mg).kit (cwOf X.K X.mg).kits (cwOf X.K X.mg).ok) := by
  intro Hs H vs ds Q q s hr r k
  rcases r with (⟨c, d, cl, cu, b, rfl, hc, ok, hk, r⟩ | ⟨c, d, cls, cus, b, rfl, hp, ok, hk, r⟩) | r
  · cases hr with
    | cons h1 h2 =>
    cases h2 with
    | cons h2 h3 =>
    cases h3
    cases h2
    cases h1 with
    | exn e1 e2 sc => exact .inl (.inl ⟨_, c, _, _, cu, b, _, rfl, hc, s _ _ e1, s _ _ e2, ok.E, hk, k.scal s (d := .bl _) rfl r⟩)
  · cases hr with
    | cons h1 h2 =>
    cases h2 with
    | cons h2 h3 =>
    cases h3
    obtain ⟨tp, xs, rfl, ht, rl⟩ := h2.tseq s
    obtain rfl := raws rl
    cases h1 with
    | exn e1 e2 sc => exact .inl (.inr ⟨_, c, _, tp, _, cus, b, _, rfl, ht, hp, s _ _ e1, s _ _ e2, ok.E, hk, k.scal s (d := .bl _) rfl r⟩)
  · exact .inr (cal_isi s hr r k)
/-- e.value -/
def tVal (K : PySem.W.Frag) (f : Str) (te : TE) : TE := fun σ H Q => te σ H fun x H1 => ∃ (a C dd : Addr) (fs : List (Str × V)) (v : V), x = .ref a ∧ H1 a = some (.ext (exF C dd a)) ∧ H1 dd = some (.xd fs) ∧ XfC K C ∧ PySem.W.findIn K (.ref C) f = some none ∧ fs.lookup f = some v ∧ Q v H1
theorem pe_val {e : Expr} {te : TE} {pos : Pos} {n : Str} (he : PE X e te) (hb : attributeBase e n X.env (eval e X.env) = eval e X.env := by rfl) : PE X (.Attribute e n pos) (tVal X.K n te) := by
  refine ⟨fun pins s σ H Q I h => ?_⟩
  refine attr_of hb (thn (he.run pins s σ H _ I h) fun u s1 hh => ?_)
  obtain ⟨x, H1, I1, rx, a, C, dd, fs, v, rfl, ea, ed, T, hno, l, q⟩ := hh
  obtain rfl : u = Value.ref a := rx
  obtain ⟨⟨oe, vs, hget, h1, h2, h3⟩, _⟩ := (show ObjOk X.prog X.w H1 s1.heap a (.ext (exF C dd a)) from I1.hok a _ ea)
  obtain ⟨mA, hns, hr⟩ := (show ObjOk X.prog X.w H1 s1.heap dd (.xd fs) from I1.hok dd _ ed)
  obtain ⟨od, ho, hl⟩ := lookIn_ns hns
  obtain ⟨u, hu, ru⟩ := RelO.some_of (v := v) (o := mA n) (by rw [← l]; exact hr n)
  have J : PySem.W.InstAt s1.heap a oe C (some od) := ⟨hget, h1, by unfold PySem.W.notCls; rw [h3] <;> rfl, by rw [h2]; exact ho⟩
  exact HandSPX.exc_get I1.kIn J T.ga T.gg T.exC (PySem.W.findObj_own T.hdC hno rfl (by rw [hl, hu])) (handed_of ru) ⟨v, H1, I1.tok _, ru, q⟩
section
variable {G : Type} {Z : Vo G} {W : WX} {M : Nat → Nat} {n nr i : Nat}
def wVal (ok : Addr → Prop) (w : WE G) : WE G := fun env g Q E => w env g (fun dx g1 => ∃ c d, dx = .exn c d ∧ ok c ∧ Q d g1) E
theorem de_val {e : Expr} {w : WE G} {pos : Pos} (he : DE X Z W M 0 e w) (hb : attributeBase e "value" X.env (eval e X.env) = eval e X.env := by rfl) : DE X Z W M n (.Attribute e "value" pos) (wVal (cwOf X.K X.mg).ok w) := by
  obtain ⟨t, pe, r⟩ := he
  refine ⟨_, pe_val pe hb, fun {Hs0 H0 Hs H σ env fp g Q Qd Ed} R p q k x => ?_⟩
  refine r R p q (fun dx g1 v Hs1 H1 f e1 s1 o nd fr p1 => ?_) x
  obtain ⟨c, d, rfl, ok, q1⟩ := e1
  obtain ⟨rfl, o⟩ := o
  cases o with
  | exn e1 e2 sc =>
    exact ⟨_, c, _, _, _, rfl, s1.s4 _ _ e1, s1.s4 _ _ e2, ok.X, ok.no, by simp, k d g1 _ Hs1 H1 [] q1 s1 (Own.sc sc) List.nodup_nil (fun _ h => by cases h) p1⟩
/-- try: .. except C as n: .., the exception is data -/
theorem ds_tryEx {y n' : Str} {ca : Addr} {body suite : List Stmt} {b₀ : Stmt} {np pos pos' : Pos} {wb ws : WS G} (i : Nat) (hm : X.mg y = some (.ref ca)) (tk : Takes X W)
    (hb : ∀ (W' : WX) (pn : List (Addr × Obj)) (xe : Value → Shared → Prop), Takes (X.tr pn xe) W' → PassesOwn (model X.prog X.w) X.A X.env xe → DB (X.tr pn xe) Z W' M nr body wb)
    (hsu : ∀ (a : Addr) (pn : List (Addr × Obj)), DB (X.suite a pn) Z W0 M nr (b₀ :: suite) ws)
    (hs : X.stack = X.env :: X.outer := by rfl) (hf : X.env.frame = some X.env.locals := by rfl) (hN : X.N.Nodup := by decide +kernel) (hi : X.N[i]? = some n' := by rfl) (hln : X.env.kindOf n' = some .local := by rfl) (hg : Gl X y := by rfl) (hd : (y == ("__debug__" : Str)) = false := by decide) (hM : M i = 0 := by rfl) :
    DS X Z W M nr (.Try body [.ExceptHandler (some (.Name y np)) (some n') (b₀ :: suite) pos'] [] [] pos) (wTryEx (fun c' => (cwOf X.K X.mg).exm c' (.ref (clA X.mg y))) i wb ws) := by
  rw [clA_of hm]
  exact ds_try_ex hs hf hN hi hln ⟨hg, hd, .inl hm⟩ tk hM hb hsu
end
end
end Vl

/-! Vl32: list.count, list.index of bools, whole numbers, texts. -/
namespace Vl
open PySem PySem.Spec L2
section
variable {X : Cx}
def rCntF (K : PySem.W.Frag) : V → List V → Hp → VK → Prop := fun x xs H Q => ∃ (p : Addr) (ys : List V) (y : V), x = .ref p ∧ xs = [y] ∧ SqL K H p ys ∧ flatV y = true ∧ ys.all flatV = true ∧ Q (.int (ys.countP fun z => eqV z y : Nat)) H
theorem countP_eqU {y : V} : ∀ {ys : List V} {us : List Value}, Vals ys us → ys.all flatV = true → us.countP (eqU y) = ys.countP fun z => eqV z y
  | _, _, .nil, _ => rfl
  | _, _, .cons r t, f => by
    rw [List.all_cons, Bool.and_eq_true] at f
    rw [List.countP_cons, List.countP_cons, countP_eqU t f.2, eqU_of r f.1]
theorem mt_lcountF : MtR X "list.count" (rCntF X.K) := by
  intro pins s σ H x xs v us Q I rx rxs h
  obtain ⟨p, ys, y, rfl, rfl, hs, fy, fys, q⟩ := h
  cases rx
  obtain ⟨u, rfl, ru⟩ := rxs.one
  obtain ⟨its, rv, ⟨⟨cls, dd, data, sl⟩, n, ho, hc, hdn, hd⟩, hlen⟩ := I.list hs
  simp only at hc hd
  subst hc hd
  refine call_meets PySem.F.slot_list_count ⟨_, ho, rfl⟩ PySem.F.entry_list_count (PySem.F.args_list_count_2 _ _)
    (SeqAt.list_countAt p its.toArray n dd sl u (eqU y)) ⟨ho, fun u' hu' => mem_eqAt ru fy rv fys u' (by simpa using hu'), ?_⟩
  have ec : its.toArray.toList.countP (eqU y) = ys.countP fun z => eqV z y := countP_eqU rv fys
  refine ⟨.int (ys.countP (fun z => eqV z y) : Nat), H, I.tok _, ⟨s.toks, ?_⟩, q⟩
  show Value.int ((its.toArray.toList.countP (eqU y) : Nat) : Int) s.toks = Value.int ((ys.countP (fun z => eqV z y) : Nat) : Int) s.toks
  rw [ec]
end
/-- data that == compares flatly -/
def flV : Dt → Option V
  | .non => some .non
  | .bl b => some (.bl b)
  | .int i => some (.int i)
  | .str x => some (.str x)
  | _ => none
theorem flV_rp {K : PySem.W.Frag} {H : Hp} {v v' : V} {d : Dt} (r : Rp K H v d) (h : flV d = some v') : v = v' ∧ flatV v = true := by
  cases r with
  | non => cases h; exact ⟨rfl, rfl⟩
  | bl b => cases h; exact ⟨rfl, rfl⟩
  | int i => cases h; exact ⟨rfl, rfl⟩
  | str x => cases h; exact ⟨rfl, rfl⟩
  | _ => cases h
theorem flV_rpl {K : PySem.W.Frag} {H : Hp} : ∀ {vs vs' : List V} {ds : List Dt}, RpL K H vs ds → ds.map flV = vs'.map some → vs = vs' ∧ vs.all flatV = true
  | _, [], _, .nil, _ => ⟨rfl, rfl⟩
  | _, _ :: _, _, .cons r t, h => by
    rw [List.map_cons, List.map_cons, List.cons.injEq] at h
    obtain ⟨rfl, f⟩ := flV_rp r h.1
    obtain ⟨rfl, fs⟩ := flV_rpl t h.2
    exact ⟨rfl, by rw [List.all_cons, f, fs]; rfl⟩
def eqF (a b : Dt) : Bool := match flV a, flV b with
  | some x, some y => eqV x y
  | _, _ => false
/-- xs.count(y) -/
def cntD : D2 := fun d e q => ∃ (ds : List Dt) (vs : List V) (v : V), d = .lst ds ∧ ds.map flV = vs.map some ∧ flV e = some v ∧ q (.int (vs.countP fun z => eqV z v : Nat))
/-- xs.index(y), y among them -/
def idxD : D2 := fun d e q => ∃ (ds : List Dt) (vs : List V) (v : V) (j : Nat) (z : V), d = .lst ds ∧ ds.map flV = vs.map some ∧ flV e = some v ∧ vs[j]? = some z ∧ eqV z v = true ∧ (∀ (m : Nat) (z' : V), m < j → vs[m]? = some z' → eqV z' v = false) ∧ q (.int (j : Nat))
section
variable {G : Type} {X : Cx} {Z : Vo G} {W : WX} {M : Nat → Nat} {n nr i : Nat} {a b : Expr} {wa wb : WE G} {p2 p3 : Pos}
/-- a list's method of one argument -/
def wLM (r : D2) (wa wb : WE G) : WE G := fun env g Q E => wa env g (fun d g1 => (∃ ds, d = .lst ds) ∧ wb env g1 (fun e g2 => r d e (fun z => Q z g2)) E) E
theorem de_lm {id : String} {nm : Str} {rr : V → List V → Hp → VK → Prop} {r : D2} (slot : Slot "list" nm id) (hty : typeOf (.builtin id) = pure (.type "method_descriptor")) (hm : MtR X id rr)
    (hr : ∀ {Hs H : Hp} {x y : V} {d e : Dt} {Q : VK} {q : Dt → Prop}, Same Hs H → Rp X.K Hs x d → Rp X.K Hs y e → r d e q → GoP X.K n Hs H Q q → rr x [y] H Q)
    (ha : DE X Z W M 0 a wa) (hb : DE X Z W M 0 b wb) (hbase : attributeBase a nm X.env (eval a X.env) = eval a X.env := by rfl)
    (hfew : ((backTo p3 (starEach [b] X.env)).all (fun x => !x.1) && (backToKw p3 (keywordEach [] X.env)).all (fun x => x.1.isSome)
      && decide (([b] : List Expr).length + ([] : List Keyword).length + (if ([] : List Keyword).isEmpty then 0 else 1) < 30)) = true := by rfl)
    (hline : (p2.endLine == p3.line) = true := by rfl) (hs : starEach [b] X.env = (false, eval b X.env) :: starEach [] X.env := by rfl) (hplain : (backTo p3 (starEach [] X.env)).any (·.1) = false := by rfl) :
    DE X Z W M n (.Call (.Attribute a nm p2) [b] [] p3) (wLM r wa wb) := by
  obtain ⟨ta, pa, ra⟩ := ha
  obtain ⟨tb, pb, rb⟩ := hb
  refine ⟨_, pe_bm PySem.F.plainAttrs_list slot hty hm pa (pa_cons pb pa_nil hs) hbase hfew hline hs hplain, fun {Hs0 H0 Hs H σ env fp g Q Qd Ed} R p q k x => ?_⟩
  refine ra R p q (fun d g1 v Hs1 H1 f e1 s1 o nd fr p1 => ?_) x
  obtain ⟨⟨ds, rfl⟩, e1⟩ := e1
  obtain ⟨rfl, o⟩ := o
  obtain ⟨pa', xs, rfl, ha', _⟩ := o.seq s1.s4
  refine ⟨.inl ⟨rfl, xs, SqL.of ha'⟩, rb (R.step s1) p1 e1 (fun e g2 u Hs2 H2 f2 e2 s2 o2 nd2 fr2 p2 => ?_) (x.step s1)⟩
  obtain ⟨rfl, o2⟩ := o2
  exact hr s2.s4 (o.same s2.s1) o2 e2 ((k.step s1).pure s2 p2)
theorem de_lcount (ha : DE X Z W M 0 a wa) (hb : DE X Z W M 0 b wb) (hbase : attributeBase a "count" X.env (eval a X.env) = eval a X.env := by rfl)
    (hfew : ((backTo p3 (starEach [b] X.env)).all (fun x => !x.1) && (backToKw p3 (keywordEach [] X.env)).all (fun x => x.1.isSome)
      && decide (([b] : List Expr).length + ([] : List Keyword).length + (if ([] : List Keyword).isEmpty then 0 else 1) < 30)) = true := by rfl)
    (hline : (p2.endLine == p3.line) = true := by rfl) (hs : starEach [b] X.env = (false, eval b X.env) :: starEach [] X.env := by rfl) (hplain : (backTo p3 (starEach [] X.env)).any (·.1) = false := by rfl) :
    DE X Z W M n (.Call (.Attribute a "count" p2) [b] [] p3) (wLM cntD wa wb) :=
  de_lm PySem.F.slot_list_count PySem.F.type_list_count mt_lcountF (fun {Hs H x y d e Q q} s hx hy r k => by
    obtain ⟨ds, vs, v, rfl, h1, h2, r⟩ := r
    obtain ⟨p, xs, rfl, hp, rl⟩ := hx.seq s
    obtain ⟨rfl, fs⟩ := flV_rpl rl h1
    obtain ⟨rfl, f⟩ := flV_rp hy h2
    exact ⟨p, _, _, rfl, rfl, SqL.of hp, f, fs, k.scal s (d := .int _) rfl r⟩) ha hb hbase hfew hline hs hplain
theorem de_lindex (ha : DE X Z W M 0 a wa) (hb : DE X Z W M 0 b wb) (hbase : attributeBase a "index" X.env (eval a X.env) = eval a X.env := by rfl)
    (hfew : ((backTo p3 (starEach [b] X.env)).all (fun x => !x.1) && (backToKw p3 (keywordEach [] X.env)).all (fun x => x.1.isSome)
      && decide (([b] : List Expr).length + ([] : List Keyword).length + (if ([] : List Keyword).isEmpty then 0 else 1) < 30)) = true := by rfl)
    (hline : (p2.endLine == p3.line) = true := by rfl) (hs : starEach [b] X.env = (false, eval b X.env) :: starEach [] X.env := by rfl) (hplain : (backTo p3 (starEach [] X.env)).any (·.1) = false := by rfl) :
    DE X Z W M n (.Call (.Attribute a "index" p2) [b] [] p3) (wLM idxD wa wb) :=
  de_lm PySem.F.slot_list_index PySem.F.type_list_index mt_index (fun {Hs H x y d e Q q} s hx hy r k => by
    obtain ⟨ds, vs, v, j, z, rfl, h1, h2, h3, h4, h5, r⟩ := r
    obtain ⟨p, xs, rfl, hp, rl⟩ := hx.seq s
    obtain ⟨rfl, fs⟩ := flV_rpl rl h1
    obtain ⟨rfl, f⟩ := flV_rp hy h2
    exact ⟨p, _, _, j, z, rfl, rfl, SqL.of hp, f, fs, h3, h4, h5, k.scal s (d := .int _) rfl r⟩) ha hb hbase hfew hline hs hplain
end
end Vl

/-! Vl33: a part of an own list, read as it is. -/
namespace Vl
open PySem PySem.Spec L2
section
variable {G : Type} {X : Cx} {Z : Vo G} {W : WX} {M : Nat → Nat} {n nr i : Nat} {x : Str} {p1 p2 pos : Pos} {ek : Expr} {wk : WE G}
/-- x[k], x an own list of parts that stand -/
def wIx1 (i : Nat) (wk : WE G) : WE G := fun env g Q E => ∃ ds, env[i]? = some (some (.lst ds)) ∧ wk env g (fun dk g1 => ∃ (kk : Int) (j : Nat) (d : Dt), dk = .int kk ∧ ixN ds.length kk = some j ∧ ds[j]? = some d ∧ Q d g1) E
theorem RpL.at {K : PySem.W.Frag} {H : Hp} : ∀ {vs : List V} {ds : List Dt} {j : Nat} {d : Dt}, RpL K H vs ds → ds[j]? = some d → ∃ v, vs[j]? = some v ∧ Rp K H v d
  | _, _, j, _, .nil, h => by simp at h
  | _, _, 0, _, .cons r t, h => by simp at h; subst h; exact ⟨_, rfl, r⟩
  | _, _, j + 1, _, .cons r t, h => by
    rw [List.getElem?_cons_succ] at h
    obtain ⟨v, e, q⟩ := RpL.at t h
    exact ⟨v, by rw [List.getElem?_cons_succ]; exact e, q⟩
theorem de_ix1 (i : Nat) (hk : DE X Z W M 0 ek wk) (hm : M i = 1 := by rfl) (hN : X.N[i]? = some x := by rfl) (hv : Vis X.env.scope x := by first | exact Or.inl rfl | exact Or.inr (Or.inl rfl) | exact Or.inr (Or.inr rfl)) (hd : (x == ("__debug__" : Str)) = false := by decide)
    (hcd : (x == ("__classdict__" : Str)) = false := by decide) (hs : PlainIx ek := by exact fun _ _ => rfl) : DE X Z W M 0 (.Subscript (.Name x p1) ek pos) (wIx1 i wk) := by
  obtain ⟨tk, pk, rk⟩ := hk
  refine ⟨_, pe_ix ix_list (pe_var hN hv hd hcd) pk hs, fun {Hs0 H0 Hs H σ env fp g Q Qd Ed} R p q k xx => ?_⟩
  obtain ⟨ds, e, q⟩ := q
  obtain ⟨v, e1, o⟩ := R.at' i _ e
  rw [hm] at o
  obtain ⟨po, vs, fs, rfl, hps, hpo, ow, hf⟩ := o.node
  obtain ⟨_, rl⟩ := ow.zero
  have hin : po ∈ fp i := by rw [hf]; exact List.mem_cons_self
  refine ⟨_, e1, rk R p q (fun dk g1 u Hs1 H1 f e2 s1 o1 nd fr p1 => ?_) xx⟩
  obtain ⟨kk, j, d, rfl, hj, hd', q1⟩ := e2
  obtain ⟨rfl, o1⟩ := o1
  cases o1
  have rl1 := rl.same s1.s1
  obtain ⟨v', hv', r'⟩ := rl1.at hd'
  refine ⟨po, vs, kk, v', rfl, rfl, SqL.of (s1.s2 _ _ hpo (R.nvol hin)), ?_, k d g1 v' Hs1 H1 [] q1 s1 ⟨rfl, r'⟩ List.nodup_nil (fun _ h => by cases h) p1⟩
  unfold L2.atI
  rw [rl.length, hj]
  exact hv'
end
end Vl

/-! Vl34: lists of the module; membership of any data; targets that store into an own list. -/
namespace Vl
open PySem PySem.Spec L2
/-- a module's list of whole numbers -/
def MInts (K : PySem.W.Frag) (mg : Str → Option Value) (x : Str) (ns : List Int) : Prop :=
  ∃ a, mg x = some (.ref a) ∧ ∃ (o : Obj) (its : Array Value) (n : Nat), K.lookup a = some o ∧ o.cls = .type "list" ∧ o.dict = none ∧ o.data = .seq its n ∧ its.size ≤ sizeLine ∧ Vals (ns.map V.int) its.toList
section
variable {G : Type} {X : Cx} {Z : Vo G} {W : WX} {M : Nat → Nat} {n nr i : Nat} {x : Str} {pos : Pos} {e : Expr} {w : WE G}
theorem de_mints {ns : List Int} (h : MInts X.K X.mg x ns) (hg : Gl X x := by rfl) (hd : (x == ("__debug__" : Str)) = false := by decide) : DE X Z W M 0 (.Name x pos) (wC (.klst (ns.map .int))) := by
  obtain ⟨a, hm, o, its, m, h1, h2, h3, h4, h5, h6⟩ := h
  exact de_globL (v := .ref a) hg hm rfl (fun H => .klst (.inr ⟨o, its, m, h1, h2, h3, h4, h5, h6⟩) (RpL.of_ints ns)) hd
theorem u65 {A : Around} {k : Nat} (hr : Room k A) : A.units + 65 < cLine := by have := u70 hr; omega
/-- d in e, e a list of data -/
def inDd (neg : Bool) : D2 := fun d e q => ∃ ds, e = .lst ds ∧ eqOk d e ∧ q (.bl (if neg then !((pyL ds).any fun z => PyData.eqv z d.py) else (pyL ds).any fun z => PyData.eqv z d.py))
theorem op2_inDd : Op2 X n (rInD X.K) (inDd false) := by
  intro Hs H x y d e Q q s hx hy r k
  obtain ⟨ds, rfl, ⟨p1, p2, s1, s2⟩, r⟩ := r
  exact ⟨_, _, (hx.same s).dp p1, (hy.same s).dp p2, s1, s2, k.scal s (d := .bl _) rfl r⟩
theorem op2_notInDd : Op2 X n (rNotInD X.K) (inDd true) := by
  intro Hs H x y d e Q q s hx hy r k
  obtain ⟨ds, rfl, ⟨p1, p2, s1, s2⟩, r⟩ := r
  exact ⟨_, _, (hx.same s).dp p1, (hy.same s).dp p2, s1, s2, k.scal s (d := .bl _) rfl r⟩
/-- names for the items of a list -/
def bLst (bs : List Dt → Env → (Env → Prop) → Prop) : WB := fun env d k => ∃ ds, d = .lst ds ∧ bs ds env k
theorem dg_lst {is : List Nat} {es : List Expr} {m k : Nat} {bs : List Dt → Env → (Env → Prop) → Prop} (hc : X.calm = true) (h : DGs X M is es m bs) (hn : (assignEach es X.env).length = m := by rfl) (hst : (assignEach es X.env).findIdx? (·.1) = none := by rfl) :
    DG X M is (.Tuple es k pos) (bLst bs) := by
  obtain ⟨gt, pg, r⟩ := h
  refine ⟨_, pg_unl hc pg hn hst, fun {vol Hs0 H0 Hs H σ env fp v d Q Qd} R rp b k => ?_⟩
  obtain ⟨ds, rfl, b⟩ := b
  cases rp with
  | lst h1 h2 =>
    obtain ⟨e, rest⟩ := r (Q := Q) R h2 b
    exact ⟨_, _, rfl, SqL.of (R.hs _ _ h1), by rw [h2.length]; exact e, rest k⟩
/-- x, y[c] = e, e a list of two, y an own list of parts that stand -/
def wUnpIx (i j : Nat) (c : Int) (w : WE G) : WS G := fun D env g => w env g (fun d g' => ∃ a b ds k, d = .lst [a, b] ∧ env[j]? = some (some (.lst ds)) ∧ ixN ds.length c = some k ∧ D.nx ((env.set i (some a)).set j (some (.lst (ds.set k b)))) g') (exE D env)
theorem ds_unpIx (i j : Nat) {y : Str} {c : Int} {jc kt : Nat} {p1 p2 p3 p4 p5 : Pos} (hc : X.calm = true) (hN : X.N.Nodup) (he : DE X Z W M 0 e w) (hmi : M i = 0 := by rfl) (hmj : M j = 1 := by rfl) (hij : i ≠ j := by decide) (hi : X.N[i]? = some x := by rfl) (hj : X.N[j]? = some y := by rfl)
    (hx : Loc X.env.scope x := by first | exact Or.inl rfl | exact Or.inr rfl) (hf : X.fn x = true ∨ X.env.scope.names.lookup x = some .local := by first | exact .inl rfl | exact .inr rfl | assumption)
    (hv : Vis X.env.scope y := by first | exact Or.inl rfl | exact Or.inr (Or.inl rfl) | exact Or.inr (Or.inr rfl)) (hd : (y == ("__debug__" : Str)) = false := by decide) (hcd : (y == ("__classdict__" : Str)) = false := by decide)
    (ha : ∀ v, assign (.Subscript (.Name y p2) (.Constant (.int c) jc p3) p4) X.env v = (do
      let ov ← holding [v] (eval (.Name y p2) X.env)
      let iv ← holding [v, ov] (eval (.Constant (.int c) jc p3) X.env)
      standAt p4
      holding [v, ov, iv] (setItem ov iv v)
      release [v, ov, iv] []) := by intro _; rfl)
    (hs1 : (assignEach [.Name x p1, .Subscript (.Name y p2) (.Constant (.int c) jc p3) p4] X.env).map (·.2) = assign (.Name x p1) X.env :: (assignEach [.Subscript (.Name y p2) (.Constant (.int c) jc p3) p4] X.env).map (·.2) := by rfl)
    (hs2 : (assignEach [.Subscript (.Name y p2) (.Constant (.int c) jc p3) p4] X.env).map (·.2) = assign (.Subscript (.Name y p2) (.Constant (.int c) jc p3) p4) X.env :: (assignEach [] X.env).map (·.2) := by rfl)
    (hn : (assignEach [.Name x p1, .Subscript (.Name y p2) (.Constant (.int c) jc p3) p4] X.env).length = 2 := by rfl) (hst : (assignEach [.Name x p1, .Subscript (.Name y p2) (.Constant (.int c) jc p3) p4] X.env).findIdx? (·.1) = none := by rfl)
    (hs : swapsWithSole [.Tuple [.Name x p1, .Subscript (.Name y p2) (.Constant (.int c) jc p3) p4] kt p5] e pos.line X.env = pure false := by rfl) (hw : swappedStores [.Tuple [.Name x p1, .Subscript (.Name y p2) (.Constant (.int c) jc p3) p4] kt p5] e X.env = pure none := by rfl)
    (h1 : (assignEach [.Tuple [.Name x p1, .Subscript (.Name y p2) (.Constant (.int c) jc p3) p4] kt p5] X.env).map (·.2) = [assign (.Tuple [.Name x p1, .Subscript (.Name y p2) (.Constant (.int c) jc p3) p4] kt p5) X.env] := by rfl) :
    DS X Z W M nr (.Assign [.Tuple [.Name x p1, .Subscript (.Name y p2) (.Constant (.int c) jc p3) p4] kt p5] e pos) (wUnpIx i j c w) := by
  obtain ⟨t, pe, r⟩ := he
  refine ⟨_, ps_asg pe (pg_unl hc (pgs_cons (pg_name hN hi hx hf) (pgs_cons (pg_sub (pe_var hj hv hd hcd) pe_int set_list ha) pgs_nil hs2) hs1) hn hst) hs hw h1, fun {Hs0 H0 Hs H σ env fp g D Dd} R p q k => ?_⟩
  refine r R p q (fun d g1 v Hs1 H1 f e1 s1 o nd fr p1 => ?_) (k.gox R)
  obtain ⟨a, b, ds, kk, rfl, he, hk, q1⟩ := e1
  obtain ⟨rfl, o⟩ := o
  have R1 := R.step s1
  cases o with
  | lst hp rl =>
  rename_i ap xs
  obtain ⟨va, vb, rfl, ra, rb⟩ := rl.two
  have R2 := R1.setP (i := i) hmi ra
  obtain ⟨vj, hσ, ow⟩ := R2.at' j (.lst ds) (by rw [List.getElem?_set_ne hij]; exact he)
  rw [hmj] at ow
  obtain ⟨c', vs, fs, rfl, hcs, hc', owl, hfj⟩ := ow.node
  obtain ⟨hfs, rls⟩ := owl.zero
  subst hfs
  refine ⟨ap, _, rfl, SqL.of (s1.s4 _ _ hp), rfl, va, _, rfl, vb, [], rfl, .ref c', hσ, c', vs, c, kk, rfl, rfl, hc', by rw [rls.length]; exact hk, rfl, ?_⟩
  have cin : c' ∈ setf fp i [] j := by rw [hfj]; exact List.mem_cons_self
  have nd0 : (setf fp i [] j).Nodup := R2.nd j
  obtain ⟨dj, hdj⟩ : ∃ d0, ds[kk]? = some d0 := ⟨ds[kk]'(ixN_lt hk), List.getElem?_eq_getElem (ixN_lt hk)⟩
  obtain ⟨_, _, _, _, _, _, put⟩ := owl.pick List.nodup_nil hdj
  obtain ⟨fs', ow3, nd3, sub3⟩ := put (H' := H1) (d' := b) (v' := vb) (f' := []) ⟨rfl, rb⟩ List.nodup_nil (fun _ _ _ => rfl) fun b hb => by cases hb
  have efs : fs' = [] := ow3.zero.1
  subst efs
  refine k.nx q1 (own_put R2 hmj hσ hfj ow3 (by simp) (fun b hb => by cases hb) fun l hl b hb z => by cases hb) (Z_upd R2 cin p1)
end
end Vl

/-! Vl35: walks of a range of any length; dicts of marks; sorted in falling order. -/
namespace L2
open PySem PySem.Spec
open PyProof.Rows hiding St
section
variable {X : Cx} {tg : Expr}
theorem turn_longV {P : Program} {w : World} {K : PySem.W.Frag} {tg : Expr} (it : Addr) (lo : Int) (n : Nat) : Turn P w K tg (Itr lo n) [it] it (fun i h => IsLongIter h it (lo + (i : Nat) * 1) ((n : Int) - (i : Nat)) 1) where
  mem := by simp
  obj := fun i h st b hb => by
    have e : b = it := by simpa using hb
    subst e
    exact ⟨_, st, fun v z => by
      have z' : Data.fields _ = Data.cell v := z
      cases z'⟩
  keep := fun i h h' st k => k it (by simp) _ st
  item := by
    intro X hP hw hK hc i pins s σ H E I hf st hg
    subst hP hw hK
    obtain ⟨f0, f1, f2, f3, f4, f5⟩ := hf it (by simp)
    have W := Walks.longrange (prog := X.prog) (w := X.w) (I.ok.hd hc) it lo 1 n
    refine W.item i s _ _ hg st fun v h' tk hv st' kk => ?_
    obtain ⟨t, rfl⟩ := hv
    have I1 : Inv X pins σ H { s with heap := h', toks := tk } := I.turned (fun b o hb e => kk b o (by simpa using hb) e) f0 f1 f3 f4 f5
    refine ⟨_, rfl, go_of (s := { s with heap := h', toks := tk }) (n := "longrange_iterator") st' rfl rfl (by decide) ⟨.int (lo + i), H, I1, ⟨t, ?_⟩, ⟨rfl, rfl⟩, st', fun b hb => (hf b hb).1⟩⟩
    rw [Int.mul_one]
  done := by
    intro X hP hw hK hc i pins s σ H E I hf st hg
    subst hP hw hK
    obtain ⟨f0, f1, f2, f3, f4, f5⟩ := hf it (by simp)
    exact wpAny_pyNext_long_end (I.ok.hd hc) st (by have : n ≤ i := hg; omega) fun h' eb => ⟨rfl, I.turned (t' := s.toks) (fun b o hb e => eb b o hb e) f0 f1 f3 f4 f5⟩
  self := fun _ _ _ _ _ st h => wpAny_pyIter_longiter st h
theorem range_itL {pins : List (Addr × Obj)} {σ : St} {H : Hp} {s : Shared} {R : It → Hp → Prop} {E : Value → Shared → Prop} {hi : Int} {t u v : Tok} {tk : Nat} (I : Inv X pins σ H s) (h3 : 0 ≤ hi)
    (q : R (Itr 0 hi.toNat) H) : wpAny (model X.prog X.w) X.A (pyIter (.ref s.heap.objs.size)) (PIE X pins σ tg R) E { s with heap := s.heap.push { cls := .type "range", data := .fields #[.int 0 t, .int hi u, .int 1 v] }, toks := tk } := by
  cases hb : Builtin.Range.small 0 hi 1 with
  | true =>
    refine wpAny_pyIter_range (IsRange.new ..) hb ?_
    have I1 : Inv X pins σ H { s with heap := s.heap.push { cls := .type "range", data := .fields #[.int 0 t, .int hi u, .int 1 v] }, toks := tk } := I.kept fun b o e => Heap.get?_push_of_some _ e
    refine ⟨(s.heap.push { cls := .type "range", data := .fields #[.int 0 t, .int hi u, .int 1 v] }).objs.size, [(s.heap.push { cls := .type "range", data := .fields #[.int 0 t, .int hi u, .int 1 v] }).objs.size], _, _, H, rfl,
      I1.kept (t' := tk) fun b o e => Heap.get?_push_of_some _ e, turn_range _ 0 hi.toNat, ?_, fun b hb => ?_, q⟩
    · have e1 : (0 : Int) + ((0 : Nat) : Int) * 1 = 0 := by simp
      have e2 : ((hi.toNat : Nat) : Int) - ((0 : Nat) : Int) = Builtin.Range.rangeSize 0 hi 1 := by rw [rangeSize_one]; split <;> omega
      show IsRangeIter _ _ ((0 : Int) + ((0 : Nat) : Int) * 1) (((hi.toNat : Nat) : Int) - ((0 : Nat) : Int)) 1
      rw [e1, e2]
      exact Heap.get?_push_size _ rfl
    · have e : b = (s.heap.push { cls := .type "range", data := .fields #[.int 0 t, .int hi u, .int 1 v] }).objs.size := by simpa using hb
      subst e
      exact I1.fpOk (Nat.le_refl _) (I1.hok.fresh (Nat.le_refl _))
  | false =>
    refine wpAny_pyIter_longrange (IsRange.new ..) hb ?_
    have I1 : Inv X pins σ H { s with heap := s.heap.push { cls := .type "range", data := .fields #[.int 0 t, .int hi u, .int 1 v] }, toks := tk } := I.kept fun b o e => Heap.get?_push_of_some _ e
    refine ⟨(s.heap.push { cls := .type "range", data := .fields #[.int 0 t, .int hi u, .int 1 v] }).objs.size, [(s.heap.push { cls := .type "range", data := .fields #[.int 0 t, .int hi u, .int 1 v] }).objs.size], _, _, H, rfl,
      I1.kept (t' := tk) fun b o e => Heap.get?_push_of_some _ e, turn_longV _ 0 hi.toNat, ?_, fun b hb => ?_, q⟩
    · have e1 : (0 : Int) + ((0 : Nat) : Int) * 1 = 0 := by simp
      have e2 : ((hi.toNat : Nat) : Int) - ((0 : Nat) : Int) = Builtin.Range.rangeSize 0 hi 1 := by rw [rangeSize_one]; split <;> omega
      show IsLongIter _ _ ((0 : Int) + ((0 : Nat) : Int) * 1) (((hi.toNat : Nat) : Int) - ((0 : Nat) : Int)) 1
      rw [e1, e2]
      exact Heap.get?_push_size _ rfl
    · have e : b = (s.heap.push { cls := .type "range", data := .fields #[.int 0 t, .int hi u, .int 1 v] }).objs.size := by simpa using hb
      subst e
      exact I1.fpOk (Nat.le_refl _) (I1.hok.fresh (Nat.le_refl _))
def iRngL (ta : TA) : TI := fun σ H R => ta σ H fun vs H1 => ∃ j : Int, vs = [.int j] ∧ 0 ≤ j ∧ R (Itr 0 j.toNat) H1
theorem pi_rangeL {a : Expr} {ta : TA} {p pos : Pos} (hg : Gl X "range") (hm : X.mg "range" = none) (ha : PA X [a] ta) (hs : starEach [a] X.env = [(false, eval a X.env)] := by rfl) : PI X tg (.Call (.Name "range" p) [a] [] pos) (iRngL ta) := by
  refine ⟨fun pins s σ H R I h => ?_⟩
  refine Call_ (ld_blt I hg hm boot_range (PyProof.Rows.callWith_type1 (thn (ha.run pos pins s σ H _ I h) fun us s1 ⟨vs, H1, I1, r1, q1⟩ => ?_) hs rfl))
  obtain ⟨j, e, q1, q⟩ := q1
  subst e
  cases r1 with
  | cons r rr =>
    cases rr
    obtain ⟨t, rfl⟩ := r
    exact call_range_1 (range_itL I1 q1 q)
/-- y in d, y not in d -/
theorem op_inDic (hu : X.A.units + 1 < cLine) : OpR X (compareOp .In) (fun x y H Q => ∃ a o, y = .ref a ∧ DGet H a x o ∧ Q (.bl o.isSome) H) := by
  intro pins s σ H x y v u Q I rx ry h
  obtain ⟨a, o, rfl, g, q⟩ := h
  obtain rfl : u = Value.ref a := ry
  exact d_in hu I g rx fun s' I' => ⟨.bl o.isSome, H, I', rfl, q⟩
theorem op_notInDic (hu : X.A.units + 1 < cLine) : OpR X (compareOp .NotIn) (fun x y H Q => ∃ a o, y = .ref a ∧ DGet H a x o ∧ Q (.bl (!o.isSome)) H) := by
  intro pins s σ H x y v u Q I rx ry h
  obtain ⟨a, o, rfl, g, q⟩ := h
  obtain rfl : u = Value.ref a := ry
  exact d_notIn hu I g rx fun s' I' => ⟨.bl (!o.isSome), H, I', rfl, q⟩
end
end L2
namespace Vl
open PySem PySem.Spec L2
theorem u1 {A : Around} {k : Nat} (hr : Room k A) : A.units + 1 < cLine := by have := u70 hr; omega
section
variable {G : Type} {X : Cx} {Z : Vo G} {W : WX} {M : Nat → Nat} {n nr i : Nat} {tg : Expr} {p' pos : Pos} {u : WA G}
/-- range(e), e of any size -/
def wRngL (u : WA G) : WI G := fun env g Q E => u env g (fun ds g' => ∃ j : Int, ds = [.int j] ∧ 0 ≤ j ∧ Q (rngI 0 j.toNat) g') E
theorem di_rngL {a : Expr} (hg : Gl X "range") (hm : X.mg "range" = none) (ha : DA X Z W M [a] u) (hs : starEach [a] X.env = [(false, eval a X.env)] := by rfl) : DI X Z W M tg (.Call (.Name "range" p') [a] [] pos) (wRngL u) := by
  obtain ⟨t, pa, r⟩ := ha
  refine ⟨_, pi_rangeL hg hm pa hs, fun {Hs0 H0 Hs H σ env fp g R Qd Ed} S p q k x => r S p q (fun ds g' vs Hs' H' e s o p' => ?_) x⟩
  obtain ⟨j, rfl, h1, e⟩ := e
  obtain ⟨v, rfl, h⟩ := o.one
  cases h
  exact ⟨j, rfl, h1, k _ g' _ Hs' H' e s wk_range p'⟩
/-- dict(xs), xs pairs of whole numbers that differ and whatever stands -/
def dicD : D1 := fun ds q => ∃ (ks : List Int) (vs : List Dt), ds = [.lst ((ks.zip vs).map fun p => .tup [.int p.1, p.2])] ∧ ks.length = vs.length ∧ ks.Nodup ∧ q (.dic (ks.map Sum.inl) vs)
theorem valV_none {k : Key} : ∀ {kvs : List (Key × V)}, (∀ p ∈ kvs, p.1 ≠ k) → valV kvs k = none
  | [], _ => rfl
  | p :: kvs, h => by rw [valV_neg (h p List.mem_cons_self)]; exact valV_none fun q hq => h q (List.mem_cons_of_mem _ hq)
theorem mergeK_new : ∀ (more kvs : List (Key × V)), (∀ p ∈ more, ∀ q ∈ kvs, q.1 ≠ p.1) → (more.map (·.1)).Nodup → mergeK kvs more = kvs ++ more
  | [], kvs, _, _ => by simp [mergeK]
  | p :: more, kvs, h, nd => by
    rw [List.map_cons, List.nodup_cons] at nd
    have e : mergeK kvs (p :: more) = mergeK (putK kvs p.1 p.2) more := rfl
    rw [e, putK_new _ (valV_none fun q hq => h p List.mem_cons_self q hq), mergeK_new more _ (fun a ha b hb => ?_) nd.2]
    · simp
    · rcases List.mem_append.mp hb with z | z
      · exact h a (List.mem_cons_of_mem _ ha) b z
      · rw [List.mem_singleton.mp z]
        intro c
        have c' : p.1 = a.1 := c
        exact nd.1 (by rw [c']; exact List.mem_map_of_mem ha)
theorem pairs_rp {K : PySem.W.Frag} {Hs H : Hp} (s : Same Hs H) : ∀ {xs : List V} {ks : List Int} {ds : List Dt}, ks.length = ds.length → RpL K Hs xs ((ks.zip ds).map fun p => .tup [.int p.1, p.2]) →
    ∃ (ps : List Addr) (vs : List V), xs = ps.map V.ref ∧ vs.length = ks.length ∧ RpL K Hs vs ds ∧ Paired (fun p (kv : Key × V) => SqT K H p [kV kv.1, kv.2]) ps ((ks.map Sum.inl).zip vs)
  | _, [], [], _, .nil => ⟨[], [], rfl, rfl, .nil, .nil⟩
  | _, k :: ks, d :: ds, hl, .cons h t => by
    obtain ⟨ps, vs, rfl, h1, h2, h3⟩ := pairs_rp s (ks := ks) (ds := ds) (by simpa using hl) t
    obtain ⟨p, xs, rfl, hp, hr⟩ := h.tseq s
    obtain ⟨v1, v2, rfl, r1, r2⟩ := hr.two
    cases r1
    exact ⟨p :: ps, v2 :: vs, rfl, by simp [h1], .cons r2 h2, .cons hp h3⟩
theorem cal_dic : Cal X 0 (fun xs H Q => ∃ (a : Addr) (ps : List Addr) (kvs : List (Key × V)), xs = [.ref a] ∧ SqL X.K H a (ps.map V.ref) ∧ Paired (fun p kv => SqT X.K H p [kV kv.1, kv.2]) ps kvs ∧ ∀ p, H p = none → Q (.ref p) (upd H p (.dK (mergeK [] kvs)))) dicD := by
  intro Hs H vs ds Q q s hr r k
  obtain ⟨ks, es, rfl, hl, nd, r⟩ := r
  obtain ⟨v, rfl, h⟩ := hr.one
  obtain ⟨a, xs, rfl, ha, rx⟩ := h.seq s
  obtain ⟨ps, ws, rfl, h1, h2, h3⟩ := pairs_rp s hl rx
  refine ⟨a, ps, _, rfl, SqL.of ha, h3, fun p hp => ?_⟩
  have hs : Hs p = none := s.free hp
  have hm : mergeK [] ((ks.map Sum.inl : List Key).zip ws) = (ks.map Sum.inl : List Key).zip ws := by
    rw [mergeK_new _ _ (fun _ _ _ h => by cases h)]
    · rfl
    · rw [show List.map (fun p : Key × V => p.1) ((ks.map Sum.inl : List Key).zip ws) = ks.map Sum.inl from List.map_fst_zip (by rw [List.length_map]; omega)]
      exact List.pairwise_map.mpr (List.Pairwise.imp (fun h e => h (Sum.inl.inj e)) nd)
  rw [hm]
  have st := (Step.new (vol := []) (o := .dK ((ks.map Sum.inl : List Key).zip ws)) s hp).freeze (f := [p]) (fun b hb => by rw [List.mem_singleton.mp hb]; exact hp) (fun b hb => by rw [List.mem_singleton.mp hb]; exact hs)
  refine k (.dic (ks.map Sum.inl) es) (.ref p) _ _ [] r st ⟨rfl, .dic (vs := ws) ?_ (by rw [List.length_map]; omega) (h2.same st.s1)⟩ List.nodup_nil fun _ h => by cases h
  rw [frz_in (List.mem_singleton.mpr rfl), upd_same]
/-- k in marks -/
def inDicD (neg : Bool) : D2 := fun d e q => ∃ (k : Int) (ks : List Int) (vs : List Dt), d = .int k ∧ e = .dic (ks.map Sum.inl) vs ∧ q (.bl (if neg then !decide (k ∈ ks) else decide (k ∈ ks)))
theorem valV_keys {k : Int} : ∀ {ks : List Int} {vs : List V}, ks.length = vs.length → (valV ((ks.map Sum.inl : List Key).zip vs) (Sum.inl k)).isSome = decide (k ∈ ks)
  | [], [], _ => rfl
  | a :: ks, v :: vs, h => by
    have ih := valV_keys (k := k) (ks := ks) (vs := vs) (by simpa using h)
    rw [List.map_cons, List.zip_cons_cons]
    by_cases e : a = k
    · subst e
      rw [valV_pos rfl]
      simp
    · rw [valV_neg (fun z => e (Sum.inl.inj z)), ih]
      have : k ∈ a :: ks ↔ k ∈ ks := ⟨fun z => (List.mem_cons.mp z).resolve_left fun y => e y.symm, List.mem_cons_of_mem _⟩
      rw [decide_eq_decide.mpr this]
theorem op2_inDic : Op2 X n (fun x y H Q => ∃ a o, y = .ref a ∧ DGet H a x o ∧ Q (.bl o.isSome) H) (inDicD false) := by
  intro Hs H x y d e Q q s hx hy r k
  obtain ⟨j, ks, vs, rfl, rfl, r⟩ := r
  cases hx
  cases hy with
  | dic h1 h2 h3 =>
    rw [List.length_map] at h2
    refine ⟨_, _, rfl, .inl ⟨_, Sum.inl j, .inl (s _ _ h1), rfl, rfl⟩, ?_⟩
    rw [valV_keys h2]
    exact k.scal s (d := .bl _) rfl r
theorem op2_notInDic : Op2 X n (fun x y H Q => ∃ a o, y = .ref a ∧ DGet H a x o ∧ Q (.bl (!o.isSome)) H) (inDicD true) := by
  intro Hs H x y d e Q q s hx hy r k
  obtain ⟨j, ks, vs, rfl, rfl, r⟩ := r
  cases hx
  cases hy with
  | dic h1 h2 h3 =>
    rw [List.length_map] at h2
    refine ⟨_, _, rfl, .inl ⟨_, Sum.inl j, .inl (s _ _ h1), rfl, rfl⟩, ?_⟩
    rw [valV_keys h2]
    exact k.scal s (d := .bl _) rfl r
/-- sorted(xs, reverse=True) -/
def wSortR (w : WE G) : WE G := fun env g Q E => w env g (fun d g1 => ∃ ns : List Int, d = .lst (ns.map .int) ∧ ∀ ns' : List Int, ns'.Perm ns → ns'.Pairwise (· ≥ ·) → Q (.lst (ns'.map .int)) g1) E
theorem de_sortR {e : Expr} {w : WE G} {j : Nat} {p3 kp : Pos} (he : DE X Z W M 0 e w) (hg : Gl X "sorted" := by rfl) (hm : X.mg "sorted" = none)
    (h1 : backTo pos (starEach [e] X.env) = (false, eval e X.env) :: backTo pos (starEach [] X.env) := by rfl) (h2 : (backTo pos (starEach [e] X.env)).any (·.1) = false := by rfl)
    (h3 : (backToKw pos (keywordEach [⟨some "reverse", .Constant (.bool true) j p3, kp⟩] X.env)).all (·.1.isSome) = true := by rfl) (h4 : (backToKw pos (keywordEach [⟨some "reverse", .Constant (.bool true) j p3, kp⟩] X.env)).any (·.1.isNone) = false := by rfl)
    (h5 : (backToKw pos (keywordEach [⟨some "reverse", .Constant (.bool true) j p3, kp⟩] X.env)).filterMap (·.1) = [Str.ofString "reverse"] := by rfl) (h6 : starEach [e] X.env = (false, eval e X.env) :: starEach [] X.env := by rfl) :
    DE X Z W M 1 (.Call (.Name "sorted" p') [e] [⟨some "reverse", .Constant (.bool true) j p3, kp⟩] pos) (wSortR w) := by
  obtain ⟨t, pe, r⟩ := he
  obtain ⟨tk, pk, rk⟩ : DK X Z W M [⟨some "reverse", .Constant (.bool true) j p3, kp⟩] (wCons (wC (.bl true)) wNil) := dk_cons de_bl dk_nil
  refine ⟨_, pe_callBK (cr_sortedRev (b := true)) hg hm (by decide +kernel) (pa_cons pe pa_nil h6) pk (by decide) (by decide) h1 h2 h3 h4 h5, fun {Hs0 H0 Hs H σ env fp g Q Qd Ed} R p q k x => ?_⟩
  refine r R p q (fun d g1 v Hs1 H1 f e1 s1 o nd fr p1 => ?_) x
  obtain ⟨ns, rfl, e1⟩ := e1
  obtain ⟨rfl, o⟩ := o
  refine rk (Ed := Ed) (Qd := fun ds g2 => ds = [.bl true] ∧ g2 = g1) (R.step s1) p1 ⟨rfl, rfl⟩ (fun ds g2 vs Hs2 H2 e2 s2 o2 _ p2 => ?_) (x.step s1)
  obtain ⟨rfl, rfl⟩ := e2
  obtain ⟨v2, rfl, h2⟩ := o2.one
  cases h2
  obtain ⟨a, xs, rfl, ha, rx⟩ := (o.same s2.s1).seq s2.s4
  have e := rx.ints
  subst e
  exact ⟨a, ns, rfl, rfl, SqL.of ha, fun ns' p h1 h2 hp => ((k.step s1).pure s2 p2).newL s2.s4 hp (RpL.of_ints ns') (e1 ns' h1 h2)⟩
end
end Vl

/-! Vl36: return (e, x, f): an own name between scalars is given away. -/
namespace Vl
open PySem PySem.Spec L2
theorem Own.scOf {K : PySem.W.Frag} {Hs H : Hp} : ∀ {n : Nat} {v : V} {d : Dt} {f : List Addr}, Own K Hs H n v d f → scal d → Sc v d
  | 0, _, _, _, ⟨_, h⟩, s => h.sc s
  | n + 1, _, _, _, h, s => by
    rcases h with ⟨_, h⟩ | ⟨_, _, _, _, _, _, nd, _, _⟩
    · exact h
    · rcases nd with ⟨_, e⟩ | ⟨_, e⟩ | ⟨_, _, _, e⟩ <;> (subst e; exact s.elim)
section
variable {G : Type} {X : Cx} {Z : Vo G} {W : WX} {M : Nat → Nat} {n nr : Nat} {x : Str} {p1 pos : Pos}
def wTupM (i : Nat) (w0 w2 : WE G) : WE G := fun env g Q E => w0 env g (fun d0 g1 => scal d0 ∧ ∃ d, env[i]? = some (some d) ∧ w2 env g1 (fun d2 g2 => scal d2 ∧ Q (.tup [d0, d, d2]) g2) E) E
theorem dr_tupM (i : Nat) {kt m0 m2 : Nat} {e0 e2 : Expr} {w0 w2 : WE G} (h0 : DE X Z W M m0 e0 w0) (h2 : DE X Z W M m2 e2 w2) (hm : M i = n := by rfl) (hN : X.N[i]? = some x := by rfl) (hv : Vis X.env.scope x := by first | exact Or.inl rfl | exact Or.inr (Or.inl rfl) | exact Or.inr (Or.inr rfl))
    (hd : (x == ("__debug__" : Str)) = false := by decide) (hcd : (x == ("__classdict__" : Str)) = false := by decide) (hs2 : starEach [e2] X.env = (false, eval e2 X.env) :: starEach [] X.env := by rfl)
    (hs1 : starEach [.Name x p1, e2] X.env = (false, eval (.Name x p1) X.env) :: starEach [e2] X.env := by rfl) (hs0 : starEach [e0, .Name x p1, e2] X.env = (false, eval e0 X.env) :: starEach [.Name x p1, e2] X.env := by rfl) :
    DR X Z W M (n + 1) (.Tuple [e0, .Name x p1, e2] kt pos) (wTupM i w0 w2) := by
  obtain ⟨t0, pe0, r0⟩ := h0
  obtain ⟨t2, pe2, r2⟩ := h2
  refine ⟨_, pe_tup (pa_cons pe0 (pa_cons (pe_var hN hv hd hcd) (pa_cons pe2 pa_nil hs2) hs1) hs0), fun {Hs0 H0 Hs H σ env fp g Q Qd Ed} R p q k xx => ?_⟩
  refine r0 R p q (fun d0 g1 v0 Hs1 H1 f0 e1 s1 o0 nd0 fr0 p1 => ?_) xx
  obtain ⟨sc0, d, e3, q⟩ := e1
  have R1 := R.step s1
  obtain ⟨v, hσ, o⟩ := R1.at' i d e3
  rw [hm] at o
  refine ⟨v, hσ, r2 R1 p1 q (fun d2 g' v2 Hs2 H2 f2 e2 s2 o2 nd2 fr2 p2 => ?_) (xx.step s1)⟩
  obtain ⟨sc2, e2⟩ := e2
  have c0 := o0.scOf sc0
  have c2 := o2.scOf sc2
  refine ⟨(by decide : 3 ≤ sizeLine), fun tp hn => ?_⟩
  have R2 := R1.step s2
  have o1 := o.step s2 fun b hb => R1.nvol hb
  have st := Step.new (vol := Z.vol) (o := .tup [v0, v, v2]) R2.hs hn
  have st0 := Step.new (vol := []) (o := .tup [v0, v, v2]) R2.hs hn
  have hps : Hs2 tp = none := by
    cases e : Hs2 tp with
    | none => rfl
    | some u => have := R2.hs _ _ e; rw [hn] at this; cases this
  have n1 : ∀ b ∈ fp i, b ≠ tp := fun b hb z => (R2.ct i b hb).2 (by rw [z]; exact hn)
  have m1 := o1.move (Same.refl Hs2) (H' := upd H2 tp (.tup [v0, v, v2])) (fun b hb => upd_ne (n1 b hb)) fun _ _ e => e
  have ow := OwL.cons (R := Own X.K Hs2 (upd H2 tp (.tup [v0, v, v2])) n) (Own.sc c0) (OwL.cons m1 (OwL.cons (Own.sc c2) OwL.nil))
  simp only [List.nil_append, List.append_nil] at ow
  refine k _ g' (.ref tp) Hs2 _ (tp :: fp i) e2 (R2.st.trans st) (.inr ⟨tp, _, _, _, rfl, hps, .inr (.inl ⟨upd_same, rfl⟩), ow, rfl⟩) ?_ ?_ (Z.pure p2 st0)
  · exact List.nodup_cons.mpr ⟨fun z => n1 _ z rfl, R.nd i⟩
  · intro b hb
    rcases List.mem_cons.mp hb with rfl | hb
    · exact fresh_of R2.st hn
    · exact R.nw i b hb
end
end Vl

/-! Vl37: a source of draws [digits, d, mix, c], whose first part is a list that is popped. -/
namespace Vl
open PySem PySem.Spec L2
structure Sg where
  cs : List Int
  d1 : Int
  mix : Int
  ctr : Int
def Sg.get (g : Sg) : Nat → Int
  | 1 => g.d1
  | 2 => g.mix
  | _ => g.ctr
def Sg.put (g : Sg) (j : Nat) (v : Int) : Sg := match j with
  | 1 => { g with d1 := v }
  | 2 => { g with mix := v }
  | _ => { g with ctr := v }
abbrev SgA := Addr × Addr
abbrev Sg.cell (g : Sg) (p : Addr) : List V := [.ref p, .int g.d1, .int g.mix, .int g.ctr]
def voS (r : SgA) : Vo Sg where
  vol := [r.1, r.2]
  P := fun g H => r.1 ≠ r.2 ∧ H r.1 = some (.lst (g.cell r.2)) ∧ H r.2 = some (.lst (g.cs.map V.int))
  dep := fun g H H' h e => ⟨h.1, by rw [e r.1 (by simp)]; exact h.2.1, by rw [e r.2 (by simp)]; exact h.2.2⟩
  trk := fun g H h b hb => by
    have : b = r.1 ∨ b = r.2 := by simpa using hb
    rcases this with e | e
    · rw [e, h.2.1]; simp
    · rw [e, h.2.2]; simp
def isSg : Dt → Sg → Prop := fun d g => d = .lst [.lst (g.cs.map .int), .int g.d1, .int g.mix, .int g.ctr]
theorem adopt_sg {K : PySem.W.Frag} {Hs H : Hp} {v : V} {d : Dt} {f : List Addr} {g : Sg} (o : Own K Hs H 2 v d f) (h : isSg d g) : ∃ r : SgA, v = .ref (Prod.fst r) ∧ (∀ b ∈ (voS r).vol, b ∈ f) ∧ (voS r).P g H := by
  unfold isSg at h
  subst h
  obtain ⟨p, vs, fs, e, _, hp, ow, hf⟩ := o.node
  cases ow with
  | cons o1 ow =>
    obtain ⟨p1, vs1, fs1, e1, _, hp1, ow1, hf1⟩ := o1.node
    obtain ⟨_, r1⟩ := ow1.zero
    have e3 := RpL.ints r1
    subst e3
    cases ow with
    | cons o2 ow =>
      cases ow with
      | cons o3 ow =>
        cases ow with
        | cons o4 ow =>
          cases ow
          rcases o2 with ⟨rfl, s2⟩ | ⟨_, _, _, _, _, _, nd, _, _⟩
          · rcases o3 with ⟨rfl, s3⟩ | ⟨_, _, _, _, _, _, nd, _, _⟩
            · rcases o4 with ⟨rfl, s4⟩ | ⟨_, _, _, _, _, _, nd, _, _⟩
              · subst e1
                have z2 := s2.rp (K := K) (H := H)
                cases z2
                have z3 := s3.rp (K := K) (H := H)
                cases z3
                have z4 := s4.rp (K := K) (H := H)
                cases z4
                have hin : p1 ∈ f := by rw [hf, hf1]; simp
                have hp0 : p ∈ f := by rw [hf]; exact List.mem_cons_self
                refine ⟨(p, p1), e, fun b hb => ?_, ?_, hp, hp1⟩
                · have : b = p ∨ b = p1 := by simpa [voS] using hb
                  rcases this with rfl | rfl
                  · exact hp0
                  · exact hin
                · intro z
                  have z : p = p1 := z
                  rw [z, hp1] at hp
                  have hp := congrArg (fun o : Option HO => match o with | some (.lst (.ref _ :: _)) => true | _ => false) hp
                  cases hc : g.cs <;> (rw [hc] at hp; simp at hp)
              · rcases nd with ⟨_, e⟩ | ⟨_, e⟩ | ⟨_, _, _, e⟩ <;> cases e
            · rcases nd with ⟨_, e⟩ | ⟨_, e⟩ | ⟨_, _, _, e⟩ <;> cases e
          · rcases nd with ⟨_, e⟩ | ⟨_, e⟩ | ⟨_, _, _, e⟩ <;> cases e
section
variable {X : Cx} {W : WX} {M : Nat → Nat} {n nr : Nat} {e : Expr} {w : WE Sg} {pos p1 p2 : Pos} {x : Str} {r : SgA}
theorem j123 {j : Nat} (h : 0 < j ∧ j < 4) : j = 1 ∨ j = 2 ∨ j = 3 := by omega
def wSg (i : Nat) (r : SgA) (j : Nat) : WE Sg := fun env g Q _ => env[i]? = some (some (.raw (.ref r.1))) ∧ Q (.int (g.get j)) g
theorem de_sg (i j : Nat) (hj : 0 < j ∧ j < 4 := by decide) {ji : Nat} {jp : Pos} (hm : M i = 0 := by rfl) (hN : X.N[i]? = some x := by rfl) (hv : Vis X.env.scope x := by first | exact Or.inl rfl | exact Or.inr (Or.inl rfl) | exact Or.inr (Or.inr rfl))
    (hd : (x == ("__debug__" : Str)) = false := by decide) (hcd : (x == ("__classdict__" : Str)) = false := by decide) (hix : PlainIx (.Constant (.int (j : Nat)) ji jp) := by exact fun _ _ => rfl) :
    DE X (voS r) W M n (.Subscript (.Name x p1) (.Constant (.int (j : Nat)) ji jp) pos) (wSg i r j) :=
  ⟨_, pe_ix ix_list (pe_var hN hv hd hcd) pe_int hix, fun {Hs0 H0 Hs H σ env fp g Q Qd Ed} R p q k _ => by
    obtain ⟨q1, q2⟩ := q
    obtain ⟨v, e1, rv⟩ := R.val hm q1
    cases rv
    refine ⟨.ref r.1, e1, r.1, _, j, .int (g.get j), rfl, rfl, SqL.of p.2.1, ?_, (k.pure (Step.refl R.hs) p).scal R.hs (d := .int _) rfl q2⟩
    rcases j123 hj with rfl | rfl | rfl <;> rfl⟩
/-- a cell of those that are written is written -/
theorem step_upd {Z : Vo Sg} {Hs0 H0 Hs1 H1 : Hp} {σ : St} {env : Env} {fp : Nat → List Addr} (R1 : SR X.K M Z.vol Hs0 H0 Hs1 H1 σ env fp) {b : Addr} {o : HO} (hb : b ∈ Z.vol) : Step Z.vol Hs1 H1 Hs1 (upd H1 b o) := by
  refine ⟨Same.refl _, fun c u e n => ?_, fun _ e => .inl e, fun c u e => ?_, fun c e => ?_⟩
  · have : c ≠ b := fun z => n (by rw [z]; exact hb)
    rw [upd_ne this]; exact e
  · have : c ≠ b := fun z => by rw [z, (R1.hv b hb).2] at e; cases e
    rw [upd_ne this]; exact R1.hs c u e
  · by_cases z : c = b
    · rw [z, upd_same]; simp
    · rw [upd_ne z]; exact e
def wSgSet (i : Nat) (r : SgA) (j : Nat) (w : WE Sg) : WS Sg := fun D env g => w env g (fun d g' => ∃ v, d = .int v ∧ env[i]? = some (some (.raw (.ref r.1))) ∧ D.nx env (g'.put j v)) (exE D env)
theorem ds_sgSet (i j : Nat) (he : DE X (voS r) W M 0 e w) (hj : 0 < j ∧ j < 4 := by decide) {ji : Nat} {jp : Pos} (hm : M i = 0 := by rfl) (hN : X.N[i]? = some x := by rfl) (hv : Vis X.env.scope x := by first | exact Or.inl rfl | exact Or.inr (Or.inl rfl) | exact Or.inr (Or.inr rfl))
    (hd : (x == ("__debug__" : Str)) = false := by decide) (hcd : (x == ("__classdict__" : Str)) = false := by decide)
    (ha : ∀ v, assign (.Subscript (.Name x p1) (.Constant (.int (j : Nat)) ji jp) p2) X.env v = (do
      let ov ← holding [v] (eval (.Name x p1) X.env)
      let iv ← holding [v, ov] (eval (.Constant (.int (j : Nat)) ji jp) X.env)
      standAt p2
      holding [v, ov, iv] (setItem ov iv v)
      release [v, ov, iv] []) := by intro _; rfl)
    (hs : swapsWithSole [.Subscript (.Name x p1) (.Constant (.int (j : Nat)) ji jp) p2] e pos.line X.env = pure false := by rfl) (hw : swappedStores [.Subscript (.Name x p1) (.Constant (.int (j : Nat)) ji jp) p2] e X.env = pure none := by rfl)
    (h1 : (assignEach [.Subscript (.Name x p1) (.Constant (.int (j : Nat)) ji jp) p2] X.env).map (·.2) = [assign (.Subscript (.Name x p1) (.Constant (.int (j : Nat)) ji jp) p2) X.env] := by rfl) :
    DS X (voS r) W M nr (.Assign [.Subscript (.Name x p1) (.Constant (.int (j : Nat)) ji jp) p2] e pos) (wSgSet i r j w) := by
  obtain ⟨t, pe, rr⟩ := he
  refine ⟨_, ps_asg pe (pg_sub (pe_var hN hv hd hcd) pe_int set_list ha) hs hw h1, fun {Hs0 H0 Hs H σ env fp g D Dd} R p q k => rr R p q (fun d g' v Hs1 H1 f e s o nd fr q1 => ?_) (k.gox R)⟩
  obtain ⟨c, rfl, q2, e⟩ := e
  have rc := o.2
  cases rc
  obtain ⟨v, e1, rv⟩ := R.val hm q2
  cases rv
  have R1 := R.step s
  refine ⟨.ref r.1, e1, r.1, _, j, j, rfl, rfl, q1.2.1, ?_, k.nx e (R1.step (step_upd R1 (by simp [voS]))) ?_⟩
  · rcases j123 hj with rfl | rfl | rfl <;> rfl
  · refine ⟨q1.1, ?_, ?_⟩
    · rw [upd_same]
      rcases j123 hj with rfl | rfl | rfl <;> rfl
    · rw [upd_ne (Ne.symm q1.1), q1.2.2]
      rcases j123 hj with rfl | rfl | rfl <;> rfl
/-- source[j] = source[0].pop(0) -/
def wSgPop (i : Nat) (r : SgA) (j : Nat) : WS Sg := fun D env g => env[i]? = some (some (.raw (.ref r.1))) ∧ ∃ c cs, g.cs = c :: cs ∧ D.nx env ({ g with cs := cs }.put j c)
theorem ds_sgPop (i j : Nat) {j0 j1 ji : Nat} {jp jq jr p3 p4 p5 p6 : Pos} (hj : 0 < j ∧ j < 4 := by decide) (hm : M i = 0 := by rfl) (hN : X.N[i]? = some x := by rfl) (hv : Vis X.env.scope x := by first | exact Or.inl rfl | exact Or.inr (Or.inl rfl) | exact Or.inr (Or.inr rfl))
    (hd : (x == ("__debug__" : Str)) = false := by decide) (hcd : (x == ("__classdict__" : Str)) = false := by decide) (hix : PlainIx (.Constant (.int 0) j0 jr) := by exact fun _ _ => rfl)
    (hbase : attributeBase (.Subscript (.Name x p3) (.Constant (.int 0) j0 jr) p4) "pop" X.env (eval (.Subscript (.Name x p3) (.Constant (.int 0) j0 jr) p4) X.env) = eval (.Subscript (.Name x p3) (.Constant (.int 0) j0 jr) p4) X.env := by rfl)
    (hfew : ((backTo p6 (starEach [.Constant (.int 0) j1 jq] X.env)).all (fun x => !x.1) && (backToKw p6 (keywordEach [] X.env)).all (fun x => x.1.isSome)
      && decide ([Expr.Constant (.int 0) j1 jq].length + ([] : List Keyword).length + (if ([] : List Keyword).isEmpty then 0 else 1) < 30)) = true := by rfl)
    (hline : (p5.endLine == p6.line) = true := by rfl) (hse : starEach [.Constant (.int 0) j1 jq] X.env = (false, eval (.Constant (.int 0) j1 jq) X.env) :: starEach [] X.env := by rfl)
    (ha : ∀ v, assign (.Subscript (.Name x p1) (.Constant (.int (j : Nat)) ji jp) p2) X.env v = (do
      let ov ← holding [v] (eval (.Name x p1) X.env)
      let iv ← holding [v, ov] (eval (.Constant (.int (j : Nat)) ji jp) X.env)
      standAt p2
      holding [v, ov, iv] (setItem ov iv v)
      release [v, ov, iv] []) := by intro _; rfl)
    (hs : swapsWithSole [.Subscript (.Name x p1) (.Constant (.int (j : Nat)) ji jp) p2] (.Call (.Attribute (.Subscript (.Name x p3) (.Constant (.int 0) j0 jr) p4) "pop" p5) [.Constant (.int 0) j1 jq] [] p6) pos.line X.env = pure false := by rfl)
    (hw : swappedStores [.Subscript (.Name x p1) (.Constant (.int (j : Nat)) ji jp) p2] (.Call (.Attribute (.Subscript (.Name x p3) (.Constant (.int 0) j0 jr) p4) "pop" p5) [.Constant (.int 0) j1 jq] [] p6) X.env = pure none := by rfl)
    (h1 : (assignEach [.Subscript (.Name x p1) (.Constant (.int (j : Nat)) ji jp) p2] X.env).map (·.2) = [assign (.Subscript (.Name x p1) (.Constant (.int (j : Nat)) ji jp) p2) X.env] := by rfl) :
    DS X (voS r) W M nr (.Assign [.Subscript (.Name x p1) (.Constant (.int (j : Nat)) ji jp) p2] (.Call (.Attribute (.Subscript (.Name x p3) (.Constant (.int 0) j0 jr) p4) "pop" p5) [.Constant (.int 0) j1 jq] [] p6) pos) (wSgPop i r j) := by
  refine ⟨_, ps_asg (pe_bm PySem.F.plainAttrs_list PySem.F.slot_list_pop PySem.F.type_list_pop mt_popAt (pe_ix ix_list (pe_var hN hv hd hcd) pe_int hix) (pa_cons pe_int pa_nil hse) hbase hfew hline hse) (pg_sub (pe_var hN hv hd hcd) pe_int set_list ha) hs hw h1, fun {Hs0 H0 Hs H σ env fp g D Dd} R p q k => ?_⟩
  obtain ⟨q1, c, cs, ec, q2⟩ := q
  obtain ⟨v, e1, rv⟩ := R.val hm q1
  cases rv
  have h2 : H r.2 = some (.lst ((c :: cs).map V.int)) := by rw [← ec]; exact p.2.2
  refine ⟨.ref r.1, e1, r.1, _, 0, .ref r.2, rfl, rfl, SqL.of p.2.1, rfl, .inl ⟨rfl, _, SqL.of h2⟩, r.2, _, 0, 0, .int c, rfl, rfl, h2, by decide, by decide, (ixN_seq (n := (List.map V.int (c :: cs)).length) (i := 0) (j := 0) (by unfold ixN; simp)).1, rfl, ?_⟩
  have s1 := step_upd (o := .lst (((c :: cs).map V.int).eraseIdx 0)) R (b := r.2) (by simp [voS])
  have R1 := R.step s1
  have hr1 : upd H r.2 (.lst (((c :: cs).map V.int).eraseIdx 0)) r.1 = some (.lst (g.cell r.2)) := by rw [upd_ne p.1]; exact p.2.1
  refine ⟨.ref r.1, e1, r.1, _, j, j, rfl, rfl, hr1, ?_, k.nx q2 (R1.step (step_upd R1 (b := r.1) (by simp [voS]))) ?_⟩
  · rcases j123 hj with rfl | rfl | rfl <;> rfl
  · refine ⟨p.1, ?_, ?_⟩
    · rw [upd_same]
      rcases j123 hj with rfl | rfl | rfl <;> rfl
    · rw [upd_ne (Ne.symm p.1), upd_same]
      rcases j123 hj with rfl | rfl | rfl <;> rfl
/-- source[0] != [] -/
def wSgNe (i : Nat) (r : SgA) : WT Sg := fun env g Q _ => env[i]? = some (some (.raw (.ref r.1))) ∧ Q (!g.cs.isEmpty) g
theorem ints_shaped (l : List Int) : SeqAt.shaped (Dt.lst (l.map .int)).py = true := by
  have h : ∀ l : List Int, PyData.canLayAll0 (pyL (l.map .int)) = true ∧ PyData.depthAll (pyL (l.map .int)) = 0 := by
    intro l
    induction l with
    | nil => exact ⟨by simp [pyL, PyData.canLayAll0], by simp [pyL, PyData.depthAll]⟩
    | cons a l ih => exact ⟨by simp [pyL, PyData.canLayAll0, Dt.py, PyData.canLay0, ih.1], by simp [pyL, PyData.depthAll, Dt.py, PyData.depth]; exact ih.2⟩
  unfold SeqAt.shaped
  rw [Bool.and_eq_true]
  exact ⟨by simp [Dt.py, PyData.canLay0, (h l).1], by simp [Dt.py, PyData.depth, (h l).2]⟩
theorem ints_plain : ∀ l : List Int, plainL (l.map .int)
  | [] => trivial
  | _ :: l => ⟨trivial, ints_plain l⟩
theorem dt_sgNe (i : Nat) {j0 : Nat} {jp p4 p5 : Pos} (hu : X.A.units + 64 < cLine) (hm : M i = 0 := by rfl) (hN : X.N[i]? = some x := by rfl) (hv : Vis X.env.scope x := by first | exact Or.inl rfl | exact Or.inr (Or.inl rfl) | exact Or.inr (Or.inr rfl))
    (hd : (x == ("__debug__" : Str)) = false := by decide) (hcd : (x == ("__classdict__" : Str)) = false := by decide) (hix : PlainIx (.Constant (.int 0) j0 jp) := by exact fun _ _ => rfl)
    (hmk : behindInMarks .NotEq (.List [] p5) = false := by first | exact nomark _ | rfl) :
    DT X (voS r) W M (.Compare (.Subscript (.Name x p1) (.Constant (.int 0) j0 jp) p4) [.NotEq] [.List [] p5] pos) (wSgNe i r) := by
  refine ⟨_, pt_cmpR (op_neA hu) (pe_ix ix_list (pe_var hN hv hd hcd) pe_int hix) (pe_lst pa_nil) hmk, fun {Hs0 H0 Hs H σ env fp g Q Qd Ed} R p q k x => ?_⟩
  obtain ⟨q1, q2⟩ := q
  obtain ⟨v, e1, rv⟩ := R.val hm q1
  cases rv
  refine ⟨.ref r.1, e1, r.1, _, 0, .ref r.2, rfl, rfl, SqL.of p.2.1, rfl, by decide, fun a hn => ?_⟩
  have st : Step (voS r).vol Hs H Hs (upd H a (.lst [])) := Step.new R.hs hn
  have h2 : r.2 ≠ a := fun z => by rw [← z, p.2.2] at hn; cases hn
  have hx : Rp X.K (upd H a (.lst [])) (.ref r.2) (.lst (g.cs.map .int)) := .lst (by rw [upd_ne h2]; exact p.2.2) (RpL.of_ints _)
  have hy : Rp X.K (upd H a (.lst [])) (.ref a) (.lst []) := .lst upd_same .nil
  refine .inr ⟨_, _, hx.dp (ints_plain _), hy.dp trivial, ints_shaped _, ints_shaped [], ?_⟩
  have ee : PyData.eqv (Dt.lst (g.cs.map .int)).py (Dt.lst []).py = g.cs.isEmpty := by
    cases g.cs <;> simp [Dt.py, pyL, PyData.eqv, PyData.eqvAll]
  rw [ee]
  exact ⟨_, rfl, k _ _ _ _ q2 st ⟨p.1, by rw [upd_ne (fun z => by rw [← z, p.2.1] at hn; cases hn)]; exact p.2.1, by rw [upd_ne h2]; exact p.2.2⟩⟩
end
end Vl

/-! Vl38: sorted(set(xs)) of a list of whole numbers; a new list whose first item is an own name. -/
namespace L2
open PySem PySem.Spec PyProof.Rows
abbrev soN (w : World) : Obj := { cls := .type "set", dict := none, data := .set #[] 0 (.fresh 0 0 (!w.params.followText "set-order")) }
section
variable {P : Program} {w : World} {A : Around} {E : Value → Shared → Prop} {s : Shared}
theorem set_of_list {l : Addr} {xs : Array Value} (ns : List Int) {Q : Value → Shared → Prop} (hA : A.handled = none) (L0 : s.heap.IsList l xs) (I0 : IntsAre xs.toList ns) (B0 : ns.length + 1 < scanBound)
    (fin : ∀ (h' : Heap) (tk c : Nat), SetR w h' s.heap.objs.size (fun j => decide (j ∈ ns)) c → (∀ b o, s.heap.get? b = some o → h'.get? b = some o) → Q (.ref s.heap.objs.size) { s with heap := h', toks := tk }) :
    wpAny (model P w) A (call (.type "set") [.ref l]) Q E s := by
  have zn : xs.size = ns.length := (Array.length_toList (xs := xs)) ▸ IntsAre.length I0
  have C := F.called_set
  obtain ⟨c0, t0, m0⟩ := C.mro
  have z1 := C.made
  have z2 := C.sub
  have z3 := C.notType
  have z4 := C.canCreate
  have z5 := F.typeCall_set_1 (.ref l)
  refine wpAny_call (codeAny_of_tree (show wpAny _ _ (callAny (.type "set") _) _ _ _ from wpAny_pure ⟨Code.quiet_builtin _ (by decide +kernel), codeAny_builtin F.entry_type_call ?_⟩))
  rw [Around.under_plain (weight_type_call_type "set" [.ref l] []) rfl]
  repeat (any_goals (first | assumption | wp_step))
  refine codeAny_mono (code_set_led1 (.ref l) (E := E) (Q₁ := fun u s1 => u = .ref s.heap.objs.size ∧ s1 = { s with heap := s.heap.push (soN w) }) ⟨rfl, rfl⟩) fun r1 s1 h1 => ?_
  match r1, h1 with
  | .error e, h1 => exact h1
  | .ok (.ret u), h1 =>
    obtain ⟨rfl, rfl⟩ := h1
    have g0 : (s.heap.push (soN w)).get? s.heap.objs.size = some (soN w) := Heap.get?_push_size _ rfl
    have y0 : Shared.TypeIs { s with heap := s.heap.push (soN w) } (.ref s.heap.objs.size) "set" := ⟨_, g0, rfl⟩
    have z6 := C.init.lookup
    have z7 := C.init.bind (.ref s.heap.objs.size)
    repeat (any_goals (first | assumption | wp_step))
    refine codeAny_mono (codeAny_call_builtin (R := wants (fun u s2 => u = .none ∧ ∃ h' tk c, s2 = { s with heap := h', toks := tk } ∧ SetR w h' s.heap.objs.size (fun j => decide (j ∈ ns)) c ∧ (∀ b o, s.heap.get? b = some o → h'.get? b = some o)) E) C.init.plain F.entry_set_init (check_set_init_1 y0 ?_)) fun r2 s2 h2 => ?_
    · obtain ⟨⟨_, dc, _, sl⟩, gl, k1, nl, k2⟩ := L0
      simp only at k1 k2
      subst k1
      subst k2
      have gl' : (s.heap.push (soN w)).get? l = some { cls := .type "list", dict := dc, data := .seq xs nl, slots := sl } := Heap.get?_push_of_some _ gl
      have z8 := F.sub_list_set
      have z9 := F.sub_list_frozenset
      have za : (Value.type "list" == Value.type "dict") = false := by decide
      have L1 : (s.heap.push (soN w)).IsList l xs := ⟨_, gl', rfl, nl, rfl⟩
      have lt : l < s.heap.objs.size := Heap.lt_size gl
      unfold Builtin.«set.__init__» noKeywords Builtin.Frozenset.updateFrom
      generalize hit : pyIter = it0
      wp_walk
      subst hit
      refine wpAny_pyIter_list L1 (wpAny_bind (wpAny_runValue ?_))
      have ne1 : l ≠ (s.heap.push (soN w)).objs.size := by rw [Heap.size_push]; exact Nat.ne_of_lt (Nat.lt_succ_of_lt lt)
      have ne2 : s.heap.objs.size ∉ [(s.heap.push (soN w)).objs.size, l] := by
        rw [Heap.size_push, List.mem_cons, List.mem_singleton]
        exact fun z => z.elim (Nat.ne_of_lt (Nat.lt_succ_self _)) (Nat.ne_of_gt lt)
      have at_ : ∀ (i : Nat) (v : Value), xs[i]? = some v → ∃ k t, ns[i]? = some k ∧ v = .int k t := fun i v hv => by
        have hi : i < ns.length := zn ▸ (Array.getElem?_eq_some_iff.mp hv).1
        obtain ⟨t, e⟩ := IntsAre.int_at I0 i v (by rw [Array.getElem?_toList]; exact hv)
        exact ⟨ns[i], t, List.getElem?_eq_getElem hi, by rw [e, List.getD_eq_getElem?_getD, List.getElem?_eq_getElem hi] <;> rfl⟩
      refine set_update_ints ((Walks.list (by simp [hA]) _ l ne1 xs).toS) s.heap.objs.size ne2 ns zn B0 at_ (xs.size - 0) 0 _ (by omega) (Nat.zero_le _) ⟨⟨_, Heap.get?_push_size _ rfl, rfl, rfl⟩, (L1.push _)⟩ ⟨0, Nat.le_refl 0, setR_new_at (Heap.get?_push_of_some _ g0)⟩ ?_
      intro s3 c3 mv _ R3
      obtain ⟨h3, g3, d3, t3, o3⟩ := s3
      obtain rfl : g3 = s.gens := mv.gens
      obtain rfl : d3 = s.drawn := mv.drawn
      obtain rfl : o3 = s.os := mv.os
      show wpAny _ _ _ _ _ _
      refine wpAny_pure (show wpAny _ _ (ret Value.none) _ _ _ from wpAny_pure ⟨rfl, h3, t3, c3, rfl, R3, fun b o e => mv.heap b o ?_ (Heap.get?_push_of_some _ (Heap.get?_push_of_some _ e))⟩)
      have := Heap.lt_size e
      rw [Heap.size_push, List.mem_cons, List.mem_singleton]
      exact fun z => z.elim (Nat.ne_of_lt this) (Nat.ne_of_lt (Nat.lt_succ_of_lt this))
    · match r2, h2 with
      | .error e, h2 => exact h2
      | .ok (.ret u), h2 =>
        obtain ⟨rfl, h', tk, c, rfl, R', kp⟩ := h2
        repeat (any_goals (first | assumption | wp_step))
        exact fin _ _ _ R' kp
/-- sorted(s), s a set of whole numbers, of any size -/
theorem sorted_setI {S : Int → Bool} {n : Nat} {a : Addr} {Q : Value → Shared → Prop} (R : SetR w s.heap a S n) (hA : A.handled = none)
    (fin : ∀ s' p (out : List Value) (c : Nat) (ns : List Int), (∀ b o, s.heap.get? b = some o → s'.heap.get? b = some o) → s'.gens = s.gens → s'.os = s.os → s.heap.objs.size ≤ p →
      s'.heap.get? p = some (seqObj "list" out.toArray c) → IntsAre out ns → ns.Pairwise (· < ·) → (∀ k, k ∈ ns ↔ S k = true) → Q (.ref p) s') :
    wpAny (model P w) A (call (.builtin "sorted") [.ref a]) Q E s := by
  obtain ⟨o, es, ep, t, ho, hex, hd, g, nd, hm, hb, hf, hn, hr, hl⟩ := R
  refine Calls.call_function_entry kind_sorted plain_sorted entry_sorted (args_sorted1 _) ?_
  unfold Builtin.«sorted»
  refine wpAny_bind (m := checkCount "sorted" 1 1 _) (wpAny_pure (wpAny_bind (collect_set (A := A.in1) hA ⟨o, ho, hex.1, hd⟩ hf hb hr hl fun s1 vs k1 hz g1 o1 pm => ?_)))
  have zl : vs.length = es.size := by rw [pm.length_eq]; simp
  have zz : vs.length ≤ sizeLine := by rw [zl, sizeLine_eq]; unfold scanBound at hb; omega
  have hI : IntsAre vs (vs.map Builtin.Re.reRawOf) := ints_of vs fun v hv => by
    obtain ⟨e, he, q⟩ := List.mem_map.mp (pm.mem_iff.mp hv)
    obtain ⟨k, tk, q2, _⟩ := g e he
    exact ⟨k, tk, q ▸ q2⟩
  have pk : (vs.map Builtin.Re.reRawOf).Perm (es.toList.map keyOf) := (List.map_map (l := es.toList) (f := fun e : Int × Value => e.2) (g := Builtin.Re.reRawOf)) ▸ pm.map Builtin.Re.reRawOf
  refine wpAny_bind (wpAny_newList ?_ zz)
  have gL : (s1.heap.push (seqObj "list" vs.toArray 0)).get? s1.heap.objs.size = some (seqObj "list" vs.toArray 0) := Heap.get?_push_size _ rfl
  refine wpAny_bind (wpAny_holding (wpAny_call_entry slot_list_sort ⟨_, gL, rfl⟩ entry_list_sort (SrtO.list_sort_ord SrtO.swo_int gL zz (fun h2 => SrtO.ints_sortable hI h2) fun out q1 q2 => ⟨_, rfl, ?_⟩) (args_list_sort _)))
  obtain ⟨j1, j2, j3⟩ := SrtO.ints_out hI q1 q2
  obtain ⟨c, hc⟩ := sortedHeap_at (vs := vs) (out := out.toArray) gL
  have pn := j2.trans pk
  refine wpAny_pure ⟨_, rfl, fin _ s1.heap.objs.size out c _ (fun b u e => ?_) g1 o1 hz hc j1 (lt_of_le_nodup _ j3 (pn.nodup_iff.mpr nd)) (fun k => by rw [pn.mem_iff, ← hm k])⟩
  have q := k1 b u e
  have hlt := Heap.lt_size q
  show (sortedHeap (s1.heap.push (seqObj "list" vs.toArray 0)) s1.heap.objs.size vs out.toArray).get? b = some u
  rw [sortedHeap_old (Nat.ne_of_lt hlt) (by rw [size_push']; exact Nat.lt_succ_of_lt hlt)]
  exact Heap.get?_push_of_some _ q
end
section
variable {X : Cx}
theorem len_sub : ∀ {a b : List Int}, a.Nodup → (∀ k ∈ a, k ∈ b) → a.length ≤ b.length
  | [], _, _, _ => Nat.zero_le _
  | x :: a, b, nd, h => by
    obtain ⟨n1, n2⟩ := List.nodup_cons.mp nd
    have hx := h x List.mem_cons_self
    have ih := len_sub (a := a) (b := b.erase x) n2 fun k hk => (List.mem_erase_of_ne (fun z => n1 (by rw [← z]; exact hk))).mpr (h k (List.mem_cons_of_mem _ hk))
    rw [List.length_erase_of_mem hx] at ih
    have := List.length_pos_of_mem hx
    rw [List.length_cons]
    omega
def tSortSet (K : PySem.W.Frag) (ta : TE) : TE := fun σ H Q => ta σ H fun x H1 => ∃ (l : Addr) (ns : List Int), x = V.ref l ∧ SqL K H1 l (ns.map V.int) ∧ ns.length ≤ 4000 ∧
  ∀ (ns' : List Int) (p : Addr), ns'.Pairwise (· < ·) → (∀ k, k ∈ ns' ↔ k ∈ ns) → H1 p = none → Q (.ref p) (upd H1 p (.lst (ns'.map V.int)))
theorem pe_sortSet {a : Expr} {ta : TE} {p p2 q pos : Pos} (hc : X.calm = true) (hg : Gl X "sorted") (hm : X.mg "sorted" = none) (hg2 : Gl X "set") (hm2 : X.mg "set" = none) (ha : PE X a ta)
    (na : starEach [a] X.env = (false, eval a X.env) :: starEach [] X.env := by rfl) : PE X (.Call (.Name "sorted" p) [.Call (.Name "set" p2) [a] [] q] [] pos) (tSortSet X.K ta) := by
  refine ⟨fun pins s σ H Q I h => Call_ (ld_blt I hg hm boot_sorted (callWith_builtin1 (args_cons (Call_ (ld_blt I hg2 hm2 boot_set (callWith_type1 (args_cons (thn (ha.run pins s σ H _ I h) fun v s1 ⟨x, H1, I1, r1, q1⟩ => args_nil ?_) na) na rfl))) rfl) rfl rfl))⟩
  obtain ⟨l, ns, rfl, hq, hz, q1⟩ := q1
  cases r1
  obtain ⟨its, r, pl, hz2⟩ := I1.list hq
  refine set_of_list (P := X.prog) (w := X.w) ns (I1.ok.hd hc) pl.isList (by simpa using r.ints) (by unfold scanBound; omega) fun h' tk c R kp => args_nil ?_
  refine sorted_setI (P := X.prog) (w := X.w) R (I1.ok.hd hc) fun s' p out c' ns' k g o hp hget hI pw hmem => ?_
  have hn : H1 p = none := I1.hok.fresh (Nat.le_trans (Nat.le_of_lt R.lt) hp)
  have kq : ∀ b o, s1.heap.get? b = some o → s'.heap.get? b = some o := fun b o e => k b o (kp b o e)
  have hp1 : s1.heap.objs.size ≤ p := Nat.le_trans (Nat.le_of_lt R.lt) hp
  have zl : (ns'.map V.int).length ≤ sizeLine := by
    have h1 : ns'.length ≤ ns.length := len_sub (pw.imp fun h => Int.ne_of_lt h) fun k hk => by simpa using (hmem k).mp hk
    rw [List.length_map, sizeLine_eq]
    omega
  have J : Inv X pins σ (upd H1 p (.lst (ns'.map V.int))) { s1 with heap := s'.heap, gens := s'.gens, drawn := s'.drawn, toks := s'.toks } :=
    I1.call (ch := []) (Un.laid kq hp1 hn) (I1.hok.laid kq hp1 ⟨zl, out, c', vals_of_ints hI, hget⟩) (by rw [g]; exact I1.bare) (fun _ z => by cases z)
  obtain ⟨eh, eg, ed, et, eo⟩ := s'
  obtain rfl : eo = s1.os := o
  exact ⟨.ref p, _, J, rfl, q1 ns' p pw (fun k => by rw [hmem k]; simp) hn⟩
end
end L2
namespace Vl
open PySem PySem.Spec L2
section
variable {G : Type} {X : Cx} {Z : Vo G} {W : WX} {M : Nat → Nat} {n nr : Nat} {x : Str} {pos p p1 p2 q : Pos}
/-- sorted(set(xs)) -/
def wSortSet (w : WE G) : WE G := fun env g Q E => w env g (fun d g1 => ∃ ns : List Int, d = .lst (ns.map .int) ∧ ns.length ≤ 4000 ∧ ∀ ns' : List Int, ns'.Pairwise (· < ·) → (∀ k, k ∈ ns' ↔ k ∈ ns) → Q (.lst (ns'.map .int)) g1) E
theorem de_sortSet {e : Expr} {w : WE G} (hc : X.calm = true) (he : DE X Z W M 0 e w) (hg : Gl X "sorted" := by rfl) (hg2 : Gl X "set" := by rfl) (hm : X.mg "sorted" = none) (hm2 : X.mg "set" = none) (na : starEach [e] X.env = (false, eval e X.env) :: starEach [] X.env := by rfl) :
    DE X Z W M 1 (.Call (.Name "sorted" p) [.Call (.Name "set" p2) [e] [] q] [] pos) (wSortSet w) := by
  obtain ⟨t, pe, r⟩ := he
  refine ⟨_, pe_sortSet hc hg hm hg2 hm2 pe na, fun {Hs0 H0 Hs H σ env fp g Q Qd Ed} R p q k x => ?_⟩
  refine r R p q (fun d g1 v Hs1 H1 f e1 s1 o nd fr p1 => ?_) x
  obtain ⟨ns, rfl, hz, e1⟩ := e1
  obtain ⟨rfl, o⟩ := o
  obtain ⟨a, xs, rfl, ha, rx⟩ := o.seq s1.s4
  have e := rx.ints
  subst e
  exact ⟨a, ns, rfl, SqL.of ha, hz, fun ns' p h1 h2 hp => ((k.step s1).pure (Step.refl s1.s4) p1).newL s1.s4 hp (RpL.of_ints ns') (e1 ns' h1 h2)⟩
/-- [x, e, ..], x an own name that is given away -/
def wLstO (i : Nat) (u : WA G) : WE G := fun env g Q E => ∃ d, env[i]? = some (some d) ∧ u env g (fun ds g' => ds.length < sizeLine ∧ (∀ e ∈ ds, scal e) ∧ Q (.lst (d :: ds)) g') E
theorem dr_lstO (i : Nat) {es : List Expr} {u : WA G} (ha : DA X Z W M es u) (hm : M i = n := by rfl) (hN : X.N[i]? = some x := by rfl) (hv : Vis X.env.scope x := by first | exact Or.inl rfl | exact Or.inr (Or.inl rfl) | exact Or.inr (Or.inr rfl))
    (hd : (x == ("__debug__" : Str)) = false := by decide) (hcd : (x == ("__classdict__" : Str)) = false := by decide) (hs : starEach (.Name x p1 :: es) X.env = (false, eval (.Name x p1) X.env) :: starEach es X.env := by rfl) :
    DR X Z W M (n + 1) (.List (.Name x p1 :: es) pos) (wLstO i u) := by
  obtain ⟨t, pa, r⟩ := ha
  refine ⟨_, pe_lst (pa_cons (pe_var hN hv hd hcd) pa hs), fun {Hs0 H0 Hs H σ env fp g Q Qd Ed} R p q k xx => ?_⟩
  obtain ⟨d, e1, q⟩ := q
  obtain ⟨v, hσ, o⟩ := R.at' i d e1
  rw [hm] at o
  refine ⟨v, hσ, r R p q (fun ds g' vs Hs1 H1 e2 s1 rr p1 => ?_) xx⟩
  obtain ⟨hz, hsc, e2⟩ := e2
  refine ⟨by rw [List.length_cons, rr.length]; exact hz, fun tp hn => ?_⟩
  have R1 := R.step s1
  have o1 := o.step s1 fun b hb => R.nvol hb
  have st := Step.new (vol := Z.vol) (o := .lst (v :: vs)) R1.hs hn
  have st0 := Step.new (vol := []) (o := .lst (v :: vs)) R1.hs hn
  have hps : Hs1 tp = none := by
    cases e : Hs1 tp with
    | none => rfl
    | some u => have := R1.hs _ _ e; rw [hn] at this; cases this
  have n1 : ∀ b ∈ fp i, b ≠ tp := fun b hb z => (R1.ct i b hb).2 (by rw [z]; exact hn)
  have m1 := o1.move (Same.refl Hs1) (H' := upd H1 tp (.lst (v :: vs))) (fun b hb => upd_ne (n1 b hb)) fun _ _ e => e
  have rest : ∀ {us : List V} {es : List Dt}, RpL X.K Hs1 us es → (∀ e ∈ es, scal e) → OwL (Own X.K Hs1 (upd H1 tp (.lst (v :: vs))) n) us es [] := by
    intro us es
    induction us generalizing es with
    | nil => intro r2 _; cases r2; exact .nil
    | cons u us ih =>
      intro r2 hs
      cases r2 with
      | cons h t => exact OwL.cons (f := []) (Own.sc (h.sc (hs _ List.mem_cons_self))) (ih t fun e he => hs e (List.mem_cons_of_mem _ he))
  have ow := OwL.cons m1 (rest rr hsc)
  rw [List.append_nil] at ow
  refine k _ g' (.ref tp) Hs1 _ (tp :: fp i) e2 (R1.st.trans st) (.inr ⟨tp, _, _, _, rfl, hps, .inl ⟨upd_same, rfl⟩, ow, rfl⟩) ?_ ?_ (Z.pure p1 st0)
  · exact List.nodup_cons.mpr ⟨fun z => n1 _ z rfl, R1.nd i⟩
  · intro b hb
    rcases List.mem_cons.mp hb with rfl | hb
    · exact fresh_of R1.st hn
    · exact R1.nw i b hb
end
end Vl

/-! Vl39: a contract that nothing meets. -/
namespace Vl
open PySem PySem.Spec L2
theorem gok_never {P : Program} {w : World} {K : PySem.W.Frag} {mg : Str → Option Value} {base : Heap} {x qual : Str} {st : Stmt} {f : Addr} {fd : FuncData} {N ps : List Str} {k m : Nat} {sp : Spec Unit} (F : Fun K x qual st f fd) (S : FnScope N ps (defScope st))
    (no : ∀ ds g Q E, sp ds g Q E → False) : GOk P w K mg base (k + 1) f fd ps (spP K m sp) :=
  GOk.of F S (fun vs H Q E h => by obtain ⟨i, Hs, ds, g, Qd, Ed, _, _, _, _, hsp, _⟩ := h; exact (no _ _ _ _ hsp).elim)
    fun cdv A outer s H vs Q E _ _ h => by obtain ⟨i, Hs, ds, g, Qd, Ed, _, _, _, _, hsp, _⟩ := h; exact (no _ _ _ _ hsp).elim
end Vl

/-! Vl40: list(range(a, b, c)); [*x, *y]. -/
namespace L2
open PySem PySem.Spec PyProof.Rows
section
variable {X : Cx}
def rgC (i c : Int) (n : Nat) : List V := (List.range n).map fun k : Nat => V.int (i + (k : Int) * c)
theorem vals_rgC {i c : Int} {n : Nat} {acc : Array Value} (h : ItemsOf (fun k v => ∃ t, v = .int (i + (k : Nat) * c) t) acc n) : Vals (rgC i c n) acc.toList := by
  unfold rgC
  have e : acc.toList.length = n := by rw [Array.length_toList]; exact h.1
  refine vals_of_at (by rw [List.length_map, List.length_range, e]) fun j x u hx hu => ?_
  obtain ⟨t, rfl⟩ := h.2 j u (by rw [← hu, Array.getElem?_toList])
  rw [List.getElem?_map] at hx
  cases hr : (List.range n)[j]? with
  | none => rw [hr] at hx; cases hx
  | some m =>
    rw [hr] at hx
    cases hx
    obtain ⟨hj, hm⟩ := List.getElem?_eq_some_iff.mp hr
    rw [List.getElem_range] at hm
    subst hm
    exact ⟨t, rfl⟩
def tListRg3 (ta : TA) : TE := fun σ H Q => ta σ H fun vs H1 => ∃ (i j c : Int) (n : Nat), vs = [.int i, .int j, .int c] ∧ RgC i j c n ∧ n ≤ 2 ^ 24 ∧ ∀ p, H1 p = none → Q (.ref p) (upd H1 p (.lst (rgC i c n)))
theorem pe_listRg3 {a b c : Expr} {ta : TA} {p p2 q pos : Pos} (hC : X.calm = true) (hg : Gl X "list") (hm : X.mg "list" = none) (hg2 : Gl X "range") (hm2 : X.mg "range" = none) (ha : PA X [a, b, c] ta)
    (hs : starEach [a, b, c] X.env = (false, eval a X.env) :: starEach [b, c] X.env := by rfl) (hpl : (backTo q (starEach [b, c] X.env)).any (·.1) = false := by rfl)
    (na : starEach [.Call (.Name "range" p2) [a, b, c] [] q] X.env = (false, eval (.Call (.Name "range" p2) [a, b, c] [] q) X.env) :: starEach [] X.env := by rfl) :
    PE X (.Call (.Name "list" p) [.Call (.Name "range" p2) [a, b, c] [] q] [] pos) (tListRg3 ta) := by
  refine ⟨fun pins s σ H Q I h => Call_ (ld_blt I hg hm boot_list (callWith_type1 (args_cons (Call_ (ld_blt I hg2 hm2 boot_range (callWith_type1 (thn (ha.run q pins s σ H _ I h) fun us s1 ⟨vs, H1, I1, r1, q1⟩ => ?_) hs hpl))) na) na rfl))⟩
  obtain ⟨i, j, k, n, e, ⟨c0, c1, c2, c3⟩, hn, q1⟩ := q1
  subst e
  cases r1 with
  | cons ra r1 =>
  cases r1 with
  | cons rb r1 =>
  cases r1 with
  | cons rc r1 =>
  cases r1
  obtain ⟨t, rfl⟩ := ra
  obtain ⟨t', rfl⟩ := rb
  obtain ⟨t'', rfl⟩ := rc
  refine call_range_3 c0 (args_nil ?_) (.inl (PyProof.noPylong_small c1))
  have I2 : Inv X pins σ H1 { s1 with heap := s1.heap.push { cls := .type "range", data := .fields #[.int i t, .int j t', .int k t''] } } := I1.kept (t' := s1.toks) fun b o e => Heap.get?_push_of_some _ e
  refine call_list_range (n := n) (I2.ok.hd hC) (IsRange.new ..) c2 c3 hn fun h' tk acc c' hk e' hi => ?_
  refine ⟨.ref _, upd H1 _ (.lst (rgC i k n)), I2.laid (t' := tk) hk (Nat.le_refl _) (show ObjOk X.prog X.w _ _ _ (.lst (rgC i k n)) from ⟨?_, acc.toList, c', vals_rgC hi, ?_⟩), rfl, q1 _ (I2.hok.fresh (Nat.le_refl _))⟩
  · unfold rgC
    rw [List.length_map, List.length_range]
    exact hn
  · rw [Array.toArray_toList]; exact e'
end
end L2
namespace Vl
open PySem PySem.Spec L2
section
variable {G : Type} {X : Cx} {Z : Vo G} {W : WX} {M : Nat → Nat} {n nr : Nat} {x : Str} {pos p p1 p2 q : Pos}
/-- list(range(a, b, c)) -/
def wListRg3 (u : WA G) : WE G := fun env g Q E => u env g (fun ds g' => ∃ (i j c : Int) (n : Nat), ds = [.int i, .int j, .int c] ∧ RgC i j c n ∧ n ≤ 2 ^ 24 ∧ Q (.lst (rngC i c n)) g') E
theorem de_listRg3 {a b c : Expr} {u : WA G} (hC : X.calm = true) (ha : DA X Z W M [a, b, c] u) (hg : Gl X "list" := by rfl) (hg2 : Gl X "range" := by rfl) (hm : X.mg "list" = none) (hm2 : X.mg "range" = none)
    (hs : starEach [a, b, c] X.env = (false, eval a X.env) :: starEach [b, c] X.env := by rfl) (hpl : (backTo q (starEach [b, c] X.env)).any (·.1) = false := by rfl)
    (na : starEach [.Call (.Name "range" p2) [a, b, c] [] q] X.env = (false, eval (.Call (.Name "range" p2) [a, b, c] [] q) X.env) :: starEach [] X.env := by rfl) :
    DE X Z W M 1 (.Call (.Name "list" p) [.Call (.Name "range" p2) [a, b, c] [] q] [] pos) (wListRg3 u) := by
  obtain ⟨t, pa, r⟩ := ha
  refine ⟨_, pe_listRg3 hC hg hm hg2 hm2 pa hs hpl na, fun {Hs0 H0 Hs H σ env fp g Q Qd Ed} R p q k x => r R p q (fun ds g1 vs Hs1 H1 e1 s1 o p1 => ?_) x⟩
  obtain ⟨i, j, c, n, rfl, h1, hn, e1⟩ := e1
  cases o with
  | cons h1' o =>
    obtain ⟨v, v2, rfl, h, h'⟩ := o.two
    cases h1'; cases h; cases h'
    have e : rngC i c n = ((List.range n).map fun k : Nat => i + (k : Int) * c).map Dt.int := by unfold rngC; rw [List.map_map]; rfl
    have e2 : rgC i c n = ((List.range n).map fun k : Nat => i + (k : Int) * c).map V.int := by unfold rgC; rw [List.map_map]; rfl
    refine ⟨i, j, c, n, rfl, h1, hn, fun p hp => ?_⟩
    rw [e] at e1
    rw [e2]
    exact ((k.step s1).pure (Step.refl s1.s4) p1).newL s1.s4 hp (RpL.of_ints _) e1
/-- [*e, ..] -/
def wStar (w : WE G) (u : WA G) : WA G := fun env g Q E => w env g (fun d g1 => ∃ xs, d = .lst xs ∧ u env g1 (fun ds g2 => Q (xs ++ ds) g2) E) E
theorem dan_star {e : Expr} {es : List Expr} {w : WE G} {u : WA G} (he : DE X Z W M 0 e w) (hr : DAn X Z W M 0 es u) (hs : starEach (.Starred e p :: es) X.env = (true, eval e X.env) :: starEach es X.env := by rfl) : DAn X Z W M 0 (.Starred e p :: es) (wStar w u) := by
  obtain ⟨t, pe, r⟩ := he
  obtain ⟨t2, pa, r2⟩ := hr
  refine ⟨_, StX.pa_star pe pa hs, fun {Hs0 H0 Hs H σ env fp g Q Qd Ed} R p q k x => r R p q (fun d g1 v Hs1 H1 f e1 s1 o nd fr p1 => ?_) x⟩
  obtain ⟨xs, rfl, e1⟩ := e1
  obtain ⟨rfl, o⟩ := o
  obtain ⟨a, ys, rfl, ha, rx⟩ := o.seq s1.s4
  refine ⟨a, ys, rfl, .inr (SqL.of ha), r2 (R.step s1) p1 e1 (fun ds g2 vs Hs2 H2 fs e2 s2 ow nd2 fr2 p2 => ?_) (x.step s1)⟩
  obtain ⟨rfl, rr⟩ := ow.zero
  exact k _ g2 _ Hs2 H2 [] e2 (s1.trans s2) (OwL.of_rp ((rx.same s2.s1).append rr)) List.nodup_nil (fun _ h => by cases h) p2
end
end Vl

/-! Vl41: lists of ints, by order. -/
namespace L2
open PySem PySem.Spec PyProof.Rows
section
variable {X : Cx}
def rLtL (K : PySem.W.Frag) : R2 := fun x y H Q => ∃ d e, Dp K H x d ∧ Dp K H y e ∧ PySem.W.alike d e = true ∧ d ≠ .none ∧ d.depth ≤ 64 ∧ Q (.bl (PySem.W.dataLt d e)) H
theorem op_ltL (hu : X.A.units + 64 < cLine) : OpR X (compareOp .Lt) (rLtL X.K) := by
  intro pins s σ H x y v u Q I rx ry h
  obtain ⟨d, e, hd, he, al, hn, dp, q⟩ := h
  obtain ⟨as, r1⟩ := Dp.reads I d x v hd rx
  obtain ⟨bs, r2⟩ := Dp.reads I e y u he ry
  exact PySem.W.lt_data r1 r2 al hn (by omega) ⟨.bl _, H, I, rfl, q⟩
end
end L2
namespace Vl
open PySem L2 PyProof.Rows PySem.SeqAt
section
variable {X : Cx}
/-- lists of ints, by order -/
def lexI : List Int → List Int → Bool
  | [], [] => false
  | [], _ :: _ => true
  | _ :: _, [] => false
  | x :: a, y :: b => decide (x < y) || (decide (x = y) && lexI a b)
theorem alike_ints : ∀ a b : List Int, PySem.W.alikeAll (pyL (a.map Dt.int)) (pyL (b.map Dt.int)) = true
  | [], _ => by simp [pyL, PySem.W.alikeAll]
  | _ :: _, [] => by simp [pyL, PySem.W.alikeAll]
  | x :: a, y :: b => by
    simp only [List.map_cons, pyL, PySem.W.alikeAll, Bool.and_eq_true]
    exact ⟨rfl, alike_ints a b⟩
theorem toks_ints : ∀ a b : List Int, PyProof.Rows.lexLt itemOrd (PySem.W.keyToksAll (pyL (a.map Dt.int))) (PySem.W.keyToksAll (pyL (b.map Dt.int))) = lexI a b
  | [], [] => by
    simp only [List.map_nil, pyL, PySem.W.keyToksAll]
    rw [PySem.W.lex_one]
    rfl
  | [], y :: b => by
    simp only [List.map_nil, List.map_cons, pyL, PySem.W.keyToksAll]
    rw [PySem.W.lex_atom (by simp), PySem.W.lex_one]
    rfl
  | x :: a, [] => by
    simp only [List.map_nil, List.map_cons, pyL, PySem.W.keyToksAll]
    rw [PySem.W.lex_atom (by simp), PySem.W.lex_one]
    rfl
  | x :: a, y :: b => by
    have ih := toks_ints a b
    simp only [List.map_cons, pyL, PySem.W.keyToksAll, Dt.py, PySem.W.keyToks]
    rw [lex_self]
    simp only [lexI]
    by_cases h : x = y
    · subst h
      show PyProof.Rows.lexLt itemOrd (.inl x :: _) (.inl x :: _) = _
      rw [lex_self]
      show PyProof.Rows.lexLt itemOrd (PySem.W.keyToksAll _) (PySem.W.keyToksAll _) = _
      rw [ih]
      simp
    · show PyProof.Rows.lexLt itemOrd (.inl x :: _) (.inl y :: _) = _
      rw [PySem.W.lex_atom (by simpa using h), PySem.W.lex_one]
      simp [h]
      rfl
theorem ltL_ints (a b : List Int) : PySem.W.dataLt (Dt.lst (a.map .int)).py (Dt.lst (b.map .int)).py = lexI a b := by
  show PySem.W.dataLt (.list _) (.list _) = _
  rw [PySem.W.dataLt_list]
  exact toks_ints a b
theorem plain_ints : ∀ a : List Int, plainL (a.map Dt.int)
  | [] => trivial
  | _ :: a => ⟨trivial, plain_ints a⟩
theorem depth_ints : ∀ a : List Int, PyData.depthAll (pyL (a.map Dt.int)) ≤ 1
  | [] => by simp [pyL, PyData.depthAll]
  | _ :: a => by
    have := depth_ints a
    simp only [List.map_cons, pyL, PyData.depthAll, Dt.py, PyData.depth]
    omega
def ltL : D2 := fun d e q => ∃ a b : List Int, d = .lst (a.map .int) ∧ e = .lst (b.map .int) ∧ q (.bl (lexI a b))
theorem op2_ltL {n : Nat} : Op2 X n (rLtL X.K) ltL := by
  intro Hs H x y d e Q q s hx hy r k
  obtain ⟨a, b, rfl, rfl, r⟩ := r
  refine ⟨_, _, (hx.same s).dp (plain_ints a), (hy.same s).dp (plain_ints b), ?_, ?_, ?_, ?_⟩
  · exact alike_ints a b
  · intro h; cases h
  · have := depth_ints a
    show PyData.depth (.list _) ≤ 64
    simp only [PyData.depth]
    omega
  · rw [ltL_ints]
    exact k.scal s (d := .bl _) rfl r
end
end Vl

/-! Vl42: a def with *names. -/
namespace Vl
open PySem PySem.Spec L2 PyProof.Rows
/-- the contract of a def whose arguments are laid as one tuple: s2 is the state behind that -/
structure GOkV (P : Program) (w : World) (K : PySem.W.Frag) (mg : Str → Option Value) (base : Heap) (k : Nat) (f : Addr) (fd : FuncData) (nm : Str) (sp : Sp) : Prop where
  run : ∀ (A : Around) (outer : List PySem.Env) (s s2 : Shared) (H : Hp) (args : Args) (u : Value) (v : V) (Q : VK) (E : XK), A.guards = some [] → Room k A → Env0 P w K mg base A outer s2 H → K.In s.heap →
    (∀ (M : Model) (B : Around) (E' : Value → Shared → Prop) (Q' : List (Str × Value) → Shared → Prop), Q' [(nm, u)] s2 → wpAny M B (bindArgs fd args) Q' E' s) → RelV v u → sp [v] H Q E → codeAny (model P w) A (.call (.ref f) args) (CR (L2.CX P w) outer P w H s2 Q E) s
section
variable {P : Program} {w : World} {K : PySem.W.Frag} {mg : Str → Option Value} {base : Heap}
theorem GOkV.of {x qual : Str} {st : Stmt} {f : Addr} {fd : FuncData} {N : List Str} {nm : Str} {k : Nat} {sp : Sp} (F : Fun K x qual st f fd) (S : FnScope N [nm] (defScope st))
    (body : ∀ (cdv : Value) (A : Around) (outer : List PySem.Env) (s : Shared) (H : Hp) (vs : List V) (Q : VK) (E : XK), (ctx P w K mg base N qual st f cdv A outer s H E).A.guards = some [] → Room k (ctx P w K mg base N qual st f cdv A outer s H E).A →
      sp vs H Q E → ∃ t, PSs (ctx P w K mg base N qual st f cdv A outer s H E) (defBody st) t ∧ t { nx := fun _ H' => Q .non H', rt := Q } (start N vs) H) : GOkV P w K mg base (k + 1) f fd nm sp := by
  obtain ⟨oc, od, kV, doc, pm, an, cdv, ct, osl, rfl, look, code⟩ := F.ex
  refine ⟨fun A outer s s2 H args u v Q E hgd room ent inK bind rel hsp => ?_⟩
  have noLim : s2.heap.NoLimit := ent.mod.nolimit.keeps fun b o q => (ent.bs b o q).1
  have kinds : ∀ y ∈ [(nm, u)], (defScope st).names.lookup y.1 = some .local ∨ ((defScope st).names.lookup y.1 = some .cell ∧ ((cellsFrom (s2.heap.objs.size + 1) (defScope st).names []).lookup y.1).isSome = true) := by
    rintro ⟨n', val⟩ hy
    cases List.mem_singleton.mp hy
    rcases S.par nm (by simp) with q | q
    · exact .inl q
    · exact .inr ⟨q, PySem.W.cellsFrom_some _ _ _ (.inl q)⟩
  refine codeAny_call_function room.depth (inK _ _ look) rfl S.co S.gen rfl (PySem.W.codeRec_of inK code) (bind _ _ _ _ ?_)
  refine wpAny_newFunctionEnv_cells S.kind kinds fun env henv s1 ic => ?_
  subst henv
  refine ⟨noLim.keeps ic.toInCall.keep, codeAny_func ?_⟩
  obtain ⟨t, ht, hq⟩ := body cdv A outer s2 H [v] Q E hgd (room.deeper _) hsp
  have J0 : Inv (ctx P w K mg base N qual st f cdv A outer s2 H E) [] (start N [v]) H s1 := inv_start (us := [u]) S room.hd ent rfl (.cons rel .nil) ic
  refine wpAny_mono (ht.run [] s1 (start N [v]) H _ J0 hq) (fun flow s' end' => ?_) fun _ _ z => z
  have close : ∀ {σ' : L2.St} {H' : Hp} {v : V} {u : Value}, Inv (ctx P w K mg base N qual st f cdv A outer s2 H E) [] σ' H' s' → RelV v u → Q v H' → CE outer P w H s2 Q u s' :=
    fun {σ' H' v u} J rv q => ⟨v, H', J.os, J.bare, J.base, J.hok, rv, q⟩
  cases flow with
  | next =>
    obtain ⟨_, _, J, q⟩ := end'
    exact close (v := V.non) (u := Value.none) J rfl q
  | ret u =>
    obtain ⟨_, _, _, J, rv, q⟩ := end'
    exact close J rv q
  | brk =>
    obtain ⟨_, _, _, z⟩ := end'
    exact z.elim
  | cont =>
    obtain ⟨_, _, _, z⟩ := end'
    exact z.elim
/-- the rule for such a def: its contract stands over one tuple -/
theorem fn_dataV {G ι : Type} {Z : ι → Vo G} {x qual : Str} {st : Stmt} {f : Addr} {fd : FuncData} {N : List Str} {nm : Str} {k m : Nat} {sp : ι → Spec G} (F : Fun K x qual st f fd) (S : FnScope N [nm] (defScope st)) (M : ι → Nat → Nat) (wb : ι → WS G)
    (len : ∀ i ds g Q E, sp i ds g Q E → ds.length = 1) (hM : ∀ i, M i 0 = 0)
    (body : ∀ i (cdv : Value) (A : Around) (outer : List PySem.Env) (s : Shared) (H : Hp) (E : XK), (ctx P w K mg base N qual st f cdv A outer s H E).A.guards = some [] → Room k (ctx P w K mg base N qual st f cdv A outer s H E).A →
      DB (ctx P w K mg base N qual st f cdv A outer s H E) (Z i) (WO E) (M i) m (defBody st) (wb i))
    (law : ∀ i ds g Q E, sp i ds g Q E → wb i { nx := fun _ g => Q .non g, rt := Q, ex := fun c d _ g => E c d g } (startE N ds) g) : GOkV P w K mg base (k + 1) f fd nm (spF K Z m sp) := by
  refine GOkV.of F S fun cdv A outer s H vs Q E hgd hr h => ?_
  obtain ⟨i, Hs, ds, g, Qd, Ed, s0, hz, r, p, hsp, ke, kx⟩ := h
  obtain ⟨t, ps', ref⟩ := body i cdv A outer s H E hgd hr
  have hl := len _ _ _ _ _ hsp
  refine ⟨t, ps', ref (SR.start s0 hz r p fun j hj => by
    have : j = 0 := by omega
    subst this
    exact hM i) p (law i ds g Qd Ed hsp) ⟨?_, fun q => q.elim, fun q => q.elim, ?_, ?_⟩⟩
  · intro env g' Hs' H' σ' fp' q R p'
    exact ke .non g' .non Hs' H' [] q R.st (Own.sc trivial) List.nodup_nil (fun _ h => (by cases h)) p'
  · intro d g' v Hs' H' f' q st o nd fr p'
    exact ke d g' v Hs' H' f' q st o nd fr p'
  · intro c d env g' v y Hs' H' σ' fp' q R p' hx sc h0
    exact kx c d g' v y Hs' H' q R.st h0 hx sc p'
/-- how the arguments are laid -/
def BindsV (fd : FuncData) (nm : Str) : Prop := ∀ us : List Value, us ≠ [] → bindArgs fd ⟨us, []⟩ = (do let t ← newTuple us; pure [(nm, t)])
theorem Fun.bindsV {K : PySem.W.Frag} {x qual : Str} {st : Stmt} {f : Addr} {fd : FuncData} {nm : Str} (F : Fun K x qual st f fd)
    (h : ∀ (kV doc pm : Value) (an : Option Addr) (cdv ct : Value) (us : List Value), us ≠ [] → bindArgs (PySem.W.fnOf x qual (defArgs st) (defBody st) (defScope st) .none kV doc pm an cdv ct) ⟨us, []⟩ = (do let t ← newTuple us; pure [(nm, t)])) : BindsV fd nm := by
  obtain ⟨oc, od, kV, doc, pm, an, cdv, ct, osl, rfl, lk, hcd⟩ := F.ex
  exact h kV doc pm an cdv ct
def FnV (P : Program) (w : World) (K : PySem.W.Frag) (mg : Str → Option Value) (base : Heap) (k : Nat) (x : Str) (st : Stmt) (nm : Str) (sp : Sp) : Prop :=
  ∃ f fd, Fun K x x st f fd ∧ GOkV P w K mg base k f fd nm sp ∧ mg x = some (.ref f) ∧ BindsV fd nm
end
section
variable {X : Cx} {k : Nat} {f : Addr} {fd : FuncData} {nm : Str} {sp : Sp} {W : WX} {x : Str} {p pos : Pos} {e : Expr} {es : List Expr} {t : TA}
def tCallV (sp : Sp) (W : WX) (t : TA) : TE := fun σ H Q => t σ H fun vs H1 => vs ≠ [] ∧ vs.length ≤ sizeLine ∧ ∀ b, H1 b = none → sp [.ref b] (upd H1 b (.tup vs)) Q (fun cls d H' => W cls d σ H')
theorem pe_gV (F : GOkV X.prog X.w X.K X.mg X.base k f fd nm sp) (hgd : X.A.guards = some []) (hr : Room k X.A) (tk : Takes X W) (hg : Gl X x) (hm : X.mg x = some (.ref f)) (hk : PySem.W.keepIn X.K (.ref f) = true) (hb : BindsV fd nm)
    (ha : PA X (e :: es) t) (hdb : (x == ("__debug__" : Str)) = false := by decide) (he : starEach (e :: es) X.env = (false, eval e X.env) :: starEach es X.env := by rfl) (hpl : (backTo pos (starEach es X.env)).any (·.1) = false := by rfl) :
    PE X (.Call (.Name x p) (e :: es) [] pos) (tCallV sp W t) := by
  refine ⟨fun pins s σ H Q I h => wpAny_Call_Name_kw (ld_glob I hg hm ?_ hdb)⟩
  refine PySem.W.callWith_K (h₀ := X.base) I.ok.mod.kin hk (thn (ha.run pos pins s σ H _ I h) fun us s1 ⟨vs, H1, J, r, ne, sz, q⟩ => ⟨J.kIn, ?_⟩) he hpl
  have hus : us ≠ [] := fun e => ne (by cases r with | nil => rfl | cons _ _ => cases e)
  have J2 : Inv X pins σ (upd H1 s1.heap.objs.size (.tup vs)) { s1 with heap := s1.heap.push { cls := .type "tuple", data := .seq us.toArray } } :=
    J.laid (t' := s1.toks) (o := .tup vs) (fun b ob q => Heap.get?_push_of_some _ q) (Nat.le_refl _) ⟨sz, us, r, IsTup.new _ _⟩
  have q2 := q _ (J.hok.fresh (Nat.le_refl _))
  refine wpAny_call (codeAny_mono (F.run X.A X.stack s1 _ _ ⟨us, []⟩ (.ref s1.heap.objs.size) (.ref s1.heap.objs.size) Q _ hgd hr J2.env0 J.kIn (fun M B E' Q' hQ => ?_) rfl q2) fun res s' hq => ?_)
  · rw [hb us hus]
    exact wpAny_bind (PySem.wpAny_newTuple (wpAny_pure hQ) (hsz := by rw [← r.length]; exact sz))
  · cases res with
    | error e => exact tk e s' (XE.of_call J2 (fun _ _ _ h => h) hq)
    | ok fl =>
      cases fl with
      | ret u => exact J2.after hq
      | next => exact hq.elim
      | brk => exact hq.elim
      | cont => exact hq.elim
end
section
variable {G : Type} {X : Cx} {Z : Vo G} {W : WX} {M : Nat → Nat} {j k m : Nat} {nm : Str} {x : Str} {p pos : Pos} {e : Expr} {es : List Expr} {u : WA G}
/-- f(e, ..) of such a def -/
def wFnA (sp : Spec Unit) (u : WA G) : WE G := fun env g Q E => u env g (fun ds g' => ds ≠ [] ∧ ds.length ≤ sizeLine ∧ sp [.tup ds] () (fun d _ => Q d g') (fun c d _ => E c d g')) E
theorem de_callA {st : Stmt} {sp : Spec Unit} (F : FnV X.prog X.w X.K X.mg X.base j x st nm (spP X.K m sp)) (hgd : X.A.guards = some []) (hr : Room k X.A) (tk : Takes X W) (ha : DA X Z W M (e :: es) u) (hjk : j ≤ k := by decide) (hg : Gl X x := by rfl)
    (hdb : (x == ("__debug__" : Str)) = false := by decide) (he : starEach (e :: es) X.env = (false, eval e X.env) :: starEach es X.env := by rfl) (hpl : (backTo pos (starEach es X.env)).any (·.1) = false := by rfl) :
    DE X Z W M m (.Call (.Name x p) (e :: es) [] pos) (wFnA sp u) := by
  obtain ⟨f, fd, a, b, c, d⟩ := F
  obtain ⟨t, pa, r⟩ := ha
  refine ⟨_, pe_gV b hgd (hr.mono hjk) tk hg c a.kp d pa hdb he hpl, fun {Hs0 H0 Hs H σ env fp g Q Qd Ed} R p q k x => r R p q (fun ds g' vs Hs' H' e s o p' => ?_) x⟩
  obtain ⟨ne, sz, e⟩ := e
  refine ⟨fun z => ne (by subst z; cases o; rfl), by rw [o.length]; exact sz, fun b nb => ?_⟩
  have hsn : Hs' b = none := by
    cases z : Hs' b with
    | none => rfl
    | some o' => have := (R.step s).hs _ _ z; rw [nb] at this; cases this
  have st1 : ∀ vol, Step vol Hs' H' Hs' (upd H' b (.tup vs)) := fun vol => Step.new (R.step s).hs nb
  have fr : ∀ vol, Step vol Hs' H' (frz Hs' (upd H' b (.tup vs)) [b]) (upd H' b (.tup vs)) := fun vol => (st1 vol).freeze (fun c hc => by rw [List.mem_singleton.mp hc]; exact nb) (fun c hc => by rw [List.mem_singleton.mp hc]; exact hsn)
  have hb : frz Hs' (upd H' b (.tup vs)) [b] b = some (.tup vs) := by rw [frz_in (by simp)]; exact upd_same
  refine call_pure (s.trans (fr _)) (.cons (.tup (.inl (.inl hb)) (o.same (fr []).s1)) .nil) (Z.pure p' (fr [])) e k x
end
end Vl

/-! Vl43: a source of draws {"great": digits, "left": d, "turn": c, "blend": mix}, whose list is popped. -/
namespace Vl
open PySem PySem.Spec L2
structure Bg where
  cs : List Int
  left : Int
  turn : Int
  blend : Int
abbrev kG : Key := .inr "great"
abbrev kL : Key := .inr "left"
abbrev kT : Key := .inr "turn"
abbrev kB : Key := .inr "blend"
theorem kGL : kG ≠ kL := by decide +kernel
theorem kGT : kG ≠ kT := by decide +kernel
theorem kGB : kG ≠ kB := by decide +kernel
theorem kLT : kL ≠ kT := by decide +kernel
theorem kLB : kL ≠ kB := by decide +kernel
theorem kTB : kT ≠ kB := by decide +kernel
/-- the name of a cell -/
def bgS : Nat → Str
  | 1 => "left"
  | 2 => "turn"
  | _ => "blend"
def Bg.get (g : Bg) : Nat → Int
  | 1 => g.left
  | 2 => g.turn
  | _ => g.blend
def Bg.put (g : Bg) (j : Nat) (v : Int) : Bg := match j with
  | 1 => { g with left := v }
  | 2 => { g with turn := v }
  | _ => { g with blend := v }
abbrev BgA := Addr × Addr
abbrev Bg.cell (g : Bg) (p : Addr) : List (Key × V) := [(kG, .ref p), (kL, .int g.left), (kT, .int g.turn), (kB, .int g.blend)]
theorem b123 {j : Nat} (h : 0 < j ∧ j < 4) : j = 1 ∨ j = 2 ∨ j = 3 := by omega
theorem bg_val {g : Bg} {p : Addr} {j : Nat} (h : 0 < j ∧ j < 4) : valV (g.cell p) (.inr (bgS j)) = some (.int (g.get j)) := by
  rcases b123 h with rfl | rfl | rfl
  · rw [valV_neg kGL]; exact valV_pos rfl
  · rw [valV_neg kGT, valV_neg kLT]; exact valV_pos rfl
  · rw [valV_neg kGB, valV_neg kLB, valV_neg kTB]; exact valV_pos rfl
theorem bg_great {g : Bg} {p : Addr} : valV (g.cell p) kG = some (.ref p) := valV_pos rfl
theorem bg_put {g : Bg} {p : Addr} {j : Nat} {v : Int} (h : 0 < j ∧ j < 4) : putK (g.cell p) (.inr (bgS j)) (.int v) = (g.put j v).cell p := by
  have a1 : ¬ Str.ofString "great" = Str.ofString "left" := by decide +kernel
  have a2 : ¬ Str.ofString "great" = Str.ofString "turn" := by decide +kernel
  have a3 : ¬ Str.ofString "great" = Str.ofString "blend" := by decide +kernel
  have a4 : ¬ Str.ofString "left" = Str.ofString "turn" := by decide +kernel
  have a5 : ¬ Str.ofString "left" = Str.ofString "blend" := by decide +kernel
  have a6 : ¬ Str.ofString "turn" = Str.ofString "blend" := by decide +kernel
  have b4 : ¬ Str.ofString "turn" = Str.ofString "left" := fun z => a4 (Eq.symm z)
  have b5 : ¬ Str.ofString "blend" = Str.ofString "left" := fun z => a5 (Eq.symm z)
  have b6 : ¬ Str.ofString "blend" = Str.ofString "turn" := fun z => a6 (Eq.symm z)
  rcases b123 h with rfl | rfl | rfl
  · show putK (g.cell p) kL (.int v) = _
    simp [putK, Bg.cell, Bg.put, a1, b4, b5]
  · show putK (g.cell p) kT (.int v) = _
    simp [putK, Bg.cell, Bg.put, a2, a4, b6]
  · show putK (g.cell p) kB (.int v) = _
    simp [putK, Bg.cell, Bg.put, a3, a5, a6]
def voB (r : BgA) : Vo Bg where
  vol := [r.1, r.2]
  P := fun g H => r.1 ≠ r.2 ∧ H r.1 = some (.dK (g.cell r.2)) ∧ H r.2 = some (.lst (g.cs.map V.int))
  dep := fun g H H' h e => ⟨h.1, by rw [e r.1 (by simp)]; exact h.2.1, by rw [e r.2 (by simp)]; exact h.2.2⟩
  trk := fun g H h b hb => by
    have : b = r.1 ∨ b = r.2 := by simpa using hb
    rcases this with e | e
    · rw [e, h.2.1]; simp
    · rw [e, h.2.2]; simp
def isBg : Dt → Bg → Prop := fun d g => d = .dic [kG, kL, kT, kB] [.lst (g.cs.map .int), .int g.left, .int g.turn, .int g.blend]
theorem Own.nodeD {K : PySem.W.Frag} {Hs H : Hp} {n : Nat} {v : V} {ks : List Key} {ds : List Dt} {f : List Addr} (o : Own K Hs H (n + 1) v (.dic ks ds) f) : ∃ p vs fs, v = .ref p ∧ Hs p = none ∧ H p = some (.dK (ks.zip vs)) ∧ ks.length = vs.length ∧ OwL (Own K Hs H n) vs ds fs ∧ f = p :: fs := by
  rcases o with ⟨_, h⟩ | ⟨p, vs, es, fs, e1, e2, nd, r, e3⟩
  · exact (h.scal).elim
  · rcases nd with ⟨q, e⟩ | ⟨q, e⟩ | ⟨ks', q, hl, e⟩
    · cases e
    · cases e
    · cases e
      exact ⟨p, vs, fs, e1, e2, q, hl, r, e3⟩
theorem adopt_bg {K : PySem.W.Frag} {Hs H : Hp} {v : V} {d : Dt} {f : List Addr} {g : Bg} (o : Own K Hs H 2 v d f) (h : isBg d g) : ∃ r : BgA, v = .ref (Prod.fst r) ∧ (∀ b ∈ (voB r).vol, b ∈ f) ∧ (voB r).P g H := by
  unfold isBg at h
  subst h
  obtain ⟨p, vs, fs, e, _, hp, _, ow, hf⟩ := o.nodeD
  cases ow with
  | cons o1 ow =>
    obtain ⟨p1, vs1, fs1, e1, _, hp1, ow1, hf1⟩ := o1.node
    obtain ⟨_, r1⟩ := ow1.zero
    have e3 := RpL.ints r1
    subst e3
    cases ow with
    | cons o2 ow =>
      cases ow with
      | cons o3 ow =>
        cases ow with
        | cons o4 ow =>
          cases ow
          rcases o2 with ⟨rfl, s2⟩ | ⟨_, _, _, _, _, _, nd, _, _⟩
          · rcases o3 with ⟨rfl, s3⟩ | ⟨_, _, _, _, _, _, nd, _, _⟩
            · rcases o4 with ⟨rfl, s4⟩ | ⟨_, _, _, _, _, _, nd, _, _⟩
              · subst e1
                have z2 := s2.rp (K := K) (H := H)
                cases z2
                have z3 := s3.rp (K := K) (H := H)
                cases z3
                have z4 := s4.rp (K := K) (H := H)
                cases z4
                have hin : p1 ∈ f := by rw [hf, hf1]; simp
                have hp0 : p ∈ f := by rw [hf]; exact List.mem_cons_self
                refine ⟨(p, p1), e, fun b hb => ?_, ?_, hp, hp1⟩
                · have : b = p ∨ b = p1 := by simpa [voB] using hb
                  rcases this with rfl | rfl
                  · exact hp0
                  · exact hin
                · intro z
                  have z : p = p1 := z
                  rw [z, hp1] at hp
                  cases hp
              · rcases nd with ⟨_, e⟩ | ⟨_, e⟩ | ⟨_, _, _, e⟩ <;> cases e
            · rcases nd with ⟨_, e⟩ | ⟨_, e⟩ | ⟨_, _, _, e⟩ <;> cases e
          · rcases nd with ⟨_, e⟩ | ⟨_, e⟩ | ⟨_, _, _, e⟩ <;> cases e
section
variable {X : Cx} {W : WX} {M : Nat → Nat} {n nr : Nat} {e : Expr} {w : WE Bg} {pos p1 p2 : Pos} {x y : Str} {r : BgA}
/-- source["key"] -/
def wBg (i : Nat) (r : BgA) (j : Nat) : WE Bg := fun env g Q _ => env[i]? = some (some (.raw (.ref r.1))) ∧ Q (.int (g.get j)) g
theorem de_bg (i j : Nat) (hu : X.A.units + 64 < cLine) (hj : 0 < j ∧ j < 4 := by decide) (hy : y = bgS j := by rfl) {ji : Nat} {jp : Pos} (hm : M i = 0 := by rfl) (hN : X.N[i]? = some x := by rfl) (hv : Vis X.env.scope x := by first | exact Or.inl rfl | exact Or.inr (Or.inl rfl) | exact Or.inr (Or.inr rfl))
    (hd : (x == ("__debug__" : Str)) = false := by decide) (hcd : (x == ("__classdict__" : Str)) = false := by decide) (hix : NoSl (.Constant (.str y) ji jp) := by exact fun _ _ => rfl) :
    DE X (voB r) W M n (.Subscript (.Name x p1) (.Constant (.str y) ji jp) pos) (wBg i r j) :=
  ⟨_, pe_dget (by omega) (pe_var hN hv hd hcd) pe_str hix, fun {Hs0 H0 Hs H σ env fp g Q Qd Ed} R p q k _ => by
    subst hy
    obtain ⟨q1, q2⟩ := q
    obtain ⟨v, e1, rv⟩ := R.val hm q1
    cases rv
    refine ⟨.ref r.1, e1, r.1, .int (g.get j), rfl, ?_, (k.pure (Step.refl R.hs) p).scal R.hs (d := .int _) rfl q2⟩
    rw [← bg_val (g := g) (p := r.2) hj]
    exact DGet.k (k := .inr (bgS j)) p.2.1⟩
/-- a cell of those that are written is written -/
theorem step_updB {Z : Vo Bg} {Hs0 H0 Hs1 H1 : Hp} {σ : St} {env : Env} {fp : Nat → List Addr} (R1 : SR X.K M Z.vol Hs0 H0 Hs1 H1 σ env fp) {b : Addr} {o : HO} (hb : b ∈ Z.vol) : Step Z.vol Hs1 H1 Hs1 (upd H1 b o) := by
  refine ⟨Same.refl _, fun c u e n => ?_, fun _ e => .inl e, fun c u e => ?_, fun c e => ?_⟩
  · have : c ≠ b := fun z => n (by rw [z]; exact hb)
    rw [upd_ne this]; exact e
  · have : c ≠ b := fun z => by rw [z, (R1.hv b hb).2] at e; cases e
    rw [upd_ne this]; exact R1.hs c u e
  · by_cases z : c = b
    · rw [z, upd_same]; simp
    · rw [upd_ne z]; exact e
def wBgSet (i : Nat) (r : BgA) (j : Nat) (w : WE Bg) : WS Bg := fun D env g => w env g (fun d g' => ∃ v, d = .int v ∧ env[i]? = some (some (.raw (.ref r.1))) ∧ D.nx env (g'.put j v)) (exE D env)
theorem ds_bgSet (i j : Nat) (hu : X.A.units + 64 < cLine) (he : DE X (voB r) W M 0 e w) (hj : 0 < j ∧ j < 4 := by decide) (hy : y = bgS j := by rfl) {ji : Nat} {jp : Pos} (hm : M i = 0 := by rfl) (hN : X.N[i]? = some x := by rfl) (hv : Vis X.env.scope x := by first | exact Or.inl rfl | exact Or.inr (Or.inl rfl) | exact Or.inr (Or.inr rfl))
    (hd : (x == ("__debug__" : Str)) = false := by decide) (hcd : (x == ("__classdict__" : Str)) = false := by decide)
    (hs : swapsWith e (some (.Subscript (.Name x p1) (.Constant (.str y) ji jp) p2)) pos.line X.env = pure false := by rfl) :
    DS X (voB r) W M nr (.Assign [.Subscript (.Name x p1) (.Constant (.str y) ji jp) p2] e pos) (wBgSet i r j w) := by
  obtain ⟨t, pe, rr⟩ := he
  refine ⟨_, ps_dput (by omega) (pe_var hN hv hd hcd) pe_str pe hs, fun {Hs0 H0 Hs H σ env fp g D Dd} R p q k => rr R p q (fun d g' v Hs1 H1 f e s o nd fr q1 => ?_) (k.gox R)⟩
  subst hy
  obtain ⟨c, rfl, q2, e⟩ := e
  have rc := o.2
  cases rc
  obtain ⟨v, e1, rv⟩ := R.val hm q2
  cases rv
  have R1 := R.step s
  refine ⟨.ref r.1, e1, r.1, _, rfl, DPut.k (k := .inr (bgS j)) q1.2.1 (by show 4 < 2 ^ 24; decide), ?_⟩
  rw [bg_put hj]
  refine k.nx e (R1.step (step_updB R1 (by simp [voB]))) ⟨q1.1, upd_same, ?_⟩
  rw [upd_ne (Ne.symm q1.1), q1.2.2]
  rcases b123 hj with rfl | rfl | rfl <;> rfl
/-- source["key"] += c -/
def wBgAug (i : Nat) (r : BgA) (j : Nat) (c : Int) : WS Bg := fun D env g => env[i]? = some (some (.raw (.ref r.1))) ∧ D.nx env (g.put j (g.get j + c))
theorem ds_bgAug1 (i j : Nat) (hu : X.A.units + 64 < cLine) {c : Int} (hj : 0 < j ∧ j < 4 := by decide) (hy : y = bgS j := by rfl) {ji jc : Nat} {jp jq : Pos} (hm : M i = 0 := by rfl) (hN : X.N[i]? = some x := by rfl) (hv : Vis X.env.scope x := by first | exact Or.inl rfl | exact Or.inr (Or.inl rfl) | exact Or.inr (Or.inr rfl))
    (hd : (x == ("__debug__" : Str)) = false := by decide) (hcd : (x == ("__classdict__" : Str)) = false := by decide) (hix : NoSl (.Constant (.str y) ji jp) := by exact fun _ _ => rfl)
    (ha : ∀ ov iv new, augStore (.Constant (.str y) ji jp) ov iv new = (do holding [new, ov, iv] (setItem ov iv new); release [new, ov, iv] []; pure .next) := by intro _ _ _; rfl) :
    DS X (voB r) W M nr (.AugAssign (.Subscript (.Name x p1) (.Constant (.str y) ji jp) p2) .Add (.Constant (.int c) jc jq) pos) (wBgAug i r j c) := by
  refine ⟨_, ps_daug (by omega) (pe_var hN hv hd hcd) pe_str pe_int in_add ha, fun {Hs0 H0 Hs H σ env fp g D Dd} R p q k => ?_⟩
  subst hy
  obtain ⟨q1, e⟩ := q
  obtain ⟨v, e1, rv⟩ := R.val hm q1
  cases rv
  refine ⟨.ref r.1, e1, r.1, .int (g.get j), rfl, ?_, _, _, rfl, rfl, _, DPut.k (k := .inr (bgS j)) p.2.1 (by show 4 < 2 ^ 24; decide), ?_⟩
  · rw [← bg_val (g := g) (p := r.2) hj]
    exact DGet.k (k := .inr (bgS j)) p.2.1
  rw [bg_put hj]
  refine k.nx e (R.step (step_updB R (by simp [voB]))) ⟨p.1, upd_same, ?_⟩
  rw [upd_ne (Ne.symm p.1), p.2.2]
  rcases b123 hj with rfl | rfl | rfl <;> rfl
/-- len(source["great"]) -/
def wBgLen (i : Nat) (r : BgA) : WE Bg := fun env g Q _ => env[i]? = some (some (.raw (.ref r.1))) ∧ Q (.int g.cs.length) g
theorem de_bgLen (i : Nat) (hu : X.A.units + 64 < cLine) {ji : Nat} {jp p3 p4 : Pos} (hm : M i = 0 := by rfl) (hN : X.N[i]? = some x := by rfl) (hv : Vis X.env.scope x := by first | exact Or.inl rfl | exact Or.inr (Or.inl rfl) | exact Or.inr (Or.inr rfl))
    (hd : (x == ("__debug__" : Str)) = false := by decide) (hcd : (x == ("__classdict__" : Str)) = false := by decide) (hix : NoSl (.Constant (.str "great") ji jp) := by exact fun _ _ => rfl) (hg : Gl X "len" := by rfl) (hml : X.mg "len" = none)
    (he : starEach [.Subscript (.Name x p1) (.Constant (.str "great") ji jp) p2] X.env = (false, eval (.Subscript (.Name x p1) (.Constant (.str "great") ji jp) p2) X.env) :: starEach [] X.env := by rfl) (hpl : (backTo p4 (starEach [] X.env)).any (·.1) = false := by rfl) :
    DE X (voB r) W M n (.Call (.Name "len" p3) [.Subscript (.Name x p1) (.Constant (.str "great") ji jp) p2] [] p4) (wBgLen i r) :=
  ⟨_, pe_callB call_lenA hg hml (by decide +kernel) (pa_cons (pe_dget (by omega) (pe_var hN hv hd hcd) pe_str hix) pa_nil he) (by decide) (by decide) he hpl, fun {Hs0 H0 Hs H σ env fp g Q Qd Ed} R p q k _ => by
    obtain ⟨q1, q2⟩ := q
    obtain ⟨v, e1, rv⟩ := R.val hm q1
    cases rv
    refine ⟨.ref r.1, e1, r.1, .ref r.2, rfl, ?_, ?_⟩
    · rw [← bg_great (g := g) (p := r.2)]
      exact DGet.k (k := kG) p.2.1
    · refine .inl ⟨r.2, _, rfl, .inl (SqL.of p.2.2), ?_⟩
      rw [List.length_map]
      exact (k.pure (Step.refl R.hs) p).scal R.hs (d := .int _) rfl q2⟩
/-- source["key"] = source["great"].pop(0) -/
def wBgPop (i : Nat) (r : BgA) (j : Nat) : WS Bg := fun D env g => env[i]? = some (some (.raw (.ref r.1))) ∧ ∃ c cs, g.cs = c :: cs ∧ D.nx env ({ g with cs := cs }.put j c)
theorem ds_bgPop (i j : Nat) (hu : X.A.units + 64 < cLine) {j0 j1 ji : Nat} {jp jq jr p3 p4 p5 p6 : Pos} (hj : 0 < j ∧ j < 4 := by decide) (hy : y = bgS j := by rfl) (hm : M i = 0 := by rfl) (hN : X.N[i]? = some x := by rfl) (hv : Vis X.env.scope x := by first | exact Or.inl rfl | exact Or.inr (Or.inl rfl) | exact Or.inr (Or.inr rfl))
    (hd : (x == ("__debug__" : Str)) = false := by decide) (hcd : (x == ("__classdict__" : Str)) = false := by decide) (hix : NoSl (.Constant (.str "great") j0 jr) := by exact fun _ _ => rfl)
    (hbase : attributeBase (.Subscript (.Name x p3) (.Constant (.str "great") j0 jr) p4) "pop" X.env (eval (.Subscript (.Name x p3) (.Constant (.str "great") j0 jr) p4) X.env) = eval (.Subscript (.Name x p3) (.Constant (.str "great") j0 jr) p4) X.env := by rfl)
    (hfew : ((backTo p6 (starEach [.Constant (.int 0) j1 jq] X.env)).all (fun x => !x.1) && (backToKw p6 (keywordEach [] X.env)).all (fun x => x.1.isSome)
      && decide ([Expr.Constant (.int 0) j1 jq].length + ([] : List Keyword).length + (if ([] : List Keyword).isEmpty then 0 else 1) < 30)) = true := by rfl)
    (hline : (p5.endLine == p6.line) = true := by rfl) (hse : starEach [.Constant (.int 0) j1 jq] X.env = (false, eval (.Constant (.int 0) j1 jq) X.env) :: starEach [] X.env := by rfl)
    (hs : swapsWith (.Call (.Attribute (.Subscript (.Name x p3) (.Constant (.str "great") j0 jr) p4) "pop" p5) [.Constant (.int 0) j1 jq] [] p6) (some (.Subscript (.Name x p1) (.Constant (.str y) ji jp) p2)) pos.line X.env = pure false := by rfl) :
    DS X (voB r) W M nr (.Assign [.Subscript (.Name x p1) (.Constant (.str y) ji jp) p2] (.Call (.Attribute (.Subscript (.Name x p3) (.Constant (.str "great") j0 jr) p4) "pop" p5) [.Constant (.int 0) j1 jq] [] p6) pos) (wBgPop i r j) := by
  refine ⟨_, ps_dput (by omega) (pe_var hN hv hd hcd) pe_str (pe_bm PySem.F.plainAttrs_list PySem.F.slot_list_pop PySem.F.type_list_pop mt_popAt (pe_dget (by omega) (pe_var hN hv hd hcd) pe_str hix) (pa_cons pe_int pa_nil hse) hbase hfew hline hse) hs, fun {Hs0 H0 Hs H σ env fp g D Dd} R p q k => ?_⟩
  subst hy
  obtain ⟨q1, c, cs, ec, q2⟩ := q
  obtain ⟨v, e1, rv⟩ := R.val hm q1
  cases rv
  have h2 : H r.2 = some (.lst ((c :: cs).map V.int)) := by rw [← ec]; exact p.2.2
  refine ⟨.ref r.1, e1, r.1, .ref r.2, rfl, by rw [← bg_great (g := g) (p := r.2)]; exact DGet.k (k := kG) p.2.1, .inl ⟨rfl, _, SqL.of h2⟩, r.2, _, 0, 0, .int c, rfl, rfl, h2, by decide, by decide, (ixN_seq (n := (List.map V.int (c :: cs)).length) (i := 0) (j := 0) (by unfold ixN; simp)).1, rfl, ?_⟩
  have s1 := step_updB (o := .lst (((c :: cs).map V.int).eraseIdx 0)) R (b := r.2) (by simp [voB])
  have R1 := R.step s1
  have hr1 : upd H r.2 (.lst (((c :: cs).map V.int).eraseIdx 0)) r.1 = some (.dK (g.cell r.2)) := by rw [upd_ne p.1]; exact p.2.1
  refine ⟨.ref r.1, e1, r.1, _, rfl, DPut.k (k := .inr (bgS j)) hr1 (by show 4 < 2 ^ 24; decide), ?_⟩
  rw [bg_put hj]
  refine k.nx q2 (R1.step (step_updB R1 (b := r.1) (by simp [voB]))) ⟨p.1, ?_, ?_⟩
  · rw [upd_same]
    rcases b123 hj with rfl | rfl | rfl <;> rfl
  · rw [upd_ne (Ne.symm p.1), upd_same]
    rcases b123 hj with rfl | rfl | rfl <;> rfl
end
section
variable {G : Type} {X : Cx} {Z : Vo G} {W : WX} {M : Nat → Nat} {n nr : Nat} {x y : Str} {pos p1 p2 p3 p4 p5 p6 p7 p8 : Pos} {k0 k1 k2 k3 : Str}
/-- {k0: x, k1: c1, k2: c2, k3: y}, x an own name that is given away -/
def wDic4 (i j : Nat) (k0 k1 k2 k3 : Str) (c1 c2 : Int) : WE G := fun env g Q _ => ∃ d e, env[i]? = some (some d) ∧ env[j]? = some (some e) ∧ scal e ∧ Q (.dic [.inr k0, .inr k1, .inr k2, .inr k3] [d, .int c1, .int c2, e]) g
theorem dr_dic4 (i j : Nat) {c1 c2 : Int} {j0 j1 j2 j3 m1 m2 : Nat} (hm : M i = n := by rfl) (hmj : M j = 0 := by rfl) (hN : X.N[i]? = some x := by rfl) (hNj : X.N[j]? = some y := by rfl)
    (hv : Vis X.env.scope x := by first | exact Or.inl rfl | exact Or.inr (Or.inl rfl) | exact Or.inr (Or.inr rfl)) (hvj : Vis X.env.scope y := by first | exact Or.inl rfl | exact Or.inr (Or.inl rfl) | exact Or.inr (Or.inr rfl))
    (hd : (x == ("__debug__" : Str)) = false := by decide) (hcd : (x == ("__classdict__" : Str)) = false := by decide) (hdj : (y == ("__debug__" : Str)) = false := by decide) (hcdj : (y == ("__classdict__" : Str)) = false := by decide)
    (h1 : ¬ k0 = k1 := by decide +kernel) (h2 : ¬ k0 = k2 := by decide +kernel) (h3 : ¬ k0 = k3 := by decide +kernel) (h4 : ¬ k1 = k2 := by decide +kernel) (h5 : ¬ k1 = k3 := by decide +kernel) (h6 : ¬ k2 = k3 := by decide +kernel) :
    DR X Z W M (n + 1) (.Dict [some (.Constant (.str k0) j0 p1), some (.Constant (.str k1) j1 p2), some (.Constant (.str k2) j2 p3), some (.Constant (.str k3) j3 p4)] [.Name x p5, .Constant (.int c1) m1 p6, .Constant (.int c2) m2 p7, .Name y p8] pos) (wDic4 i j k0 k1 k2 k3 c1 c2) := by
  refine ⟨_, pe_disp (pps_cons pe_str (pe_var hN hv hd hcd) (pps_cons pe_str pe_int (pps_cons pe_str pe_int (pps_cons pe_str (pe_var hNj hvj hdj hcdj) pps_nil)))) rfl rfl (by simp) (by simp), fun {Hs0 H0 Hs H σ env fp g Q Qd Ed} R p q k xx => ?_⟩
  obtain ⟨d, e, e1, e2, se, q⟩ := q
  obtain ⟨v, hσ, o⟩ := R.at' i d e1
  rw [hm] at o
  obtain ⟨u, hσj, ru⟩ := R.val hmj e2
  intro tp hn
  refine ⟨v, hσ, u, hσj, upd_same, [(.inr k0, v), (.inr k1, .int c1), (.inr k2, .int c2), (.inr k3, u)], rfl, by simp, ?_⟩
  have em : mergeK [] [((.inr k0 : Key), v), (.inr k1, .int c1), (.inr k2, .int c2), (.inr k3, u)] = [(.inr k0, v), (.inr k1, .int c1), (.inr k2, .int c2), (.inr k3, u)] := by
    simp [mergeK, putK, h1, h2, h3, h4, h5, h6]
  rw [em]
  have eu : ∀ o1 o2 : HO, upd (upd H tp o1) tp o2 = upd H tp o2 := fun o1 o2 => by
    funext b
    by_cases hb : b = tp
    · rw [hb, upd_same, upd_same]
    · rw [upd_ne hb, upd_ne hb, upd_ne hb]
  rw [eu]
  have st := Step.new (vol := Z.vol) (o := .dK [((.inr k0 : Key), v), (.inr k1, .int c1), (.inr k2, .int c2), (.inr k3, u)]) R.hs hn
  have st0 := Step.new (vol := []) (o := .dK [((.inr k0 : Key), v), (.inr k1, .int c1), (.inr k2, .int c2), (.inr k3, u)]) R.hs hn
  have hps : Hs tp = none := by
    cases e : Hs tp with
    | none => rfl
    | some u => have := R.hs _ _ e; rw [hn] at this; cases this
  have n1 : ∀ b ∈ fp i, b ≠ tp := fun b hb z => (R.ct i b hb).2 (by rw [z]; exact hn)
  have m1' := o.move (Same.refl Hs) (H' := upd H tp (.dK [((.inr k0 : Key), v), (.inr k1, .int c1), (.inr k2, .int c2), (.inr k3, u)])) (fun b hb => upd_ne (n1 b hb)) fun _ _ e => e
  have sc : ∀ {z : Int}, Own X.K Hs (upd H tp (.dK [((.inr k0 : Key), v), (.inr k1, .int c1), (.inr k2, .int c2), (.inr k3, u)])) n (.int z) (.int z) [] := fun {z} => Own.sc (v := .int z) (d := .int z) rfl
  have su : Own X.K Hs (upd H tp (.dK [((.inr k0 : Key), v), (.inr k1, .int c1), (.inr k2, .int c2), (.inr k3, u)])) n u e [] := Own.sc (ru.sc se)
  have ow := OwL.cons m1' (OwL.cons (f := []) (sc (z := c1)) (OwL.cons (f := []) (sc (z := c2)) (OwL.cons (f := []) su .nil)))
  simp only [List.append_nil, List.nil_append] at ow
  refine k _ g (.ref tp) Hs _ (tp :: fp i) q (R.st.trans st) (.inr ⟨tp, _, _, _, rfl, hps, .inr (.inr ⟨[.inr k0, .inr k1, .inr k2, .inr k3], upd_same, rfl, rfl⟩), ow, rfl⟩) ?_ ?_ (Z.pure p st0)
  · exact List.nodup_cons.mpr ⟨fun z => n1 _ z rfl, R.nd i⟩
  · intro b hb
    rcases List.mem_cons.mp hb with rfl | hb
    · exact fresh_of R.st hn
    · exact R.nw i b hb
end
end Vl

/-! Vl44: texts asked for lower letters, for letters. -/
namespace Vl
open PySem PySem.Spec L2
section
variable {G : Type} {X : Cx} {Z : Vo G} {W : WX} {M : Nat → Nat} {n : Nat} {a : Expr} {wa : WE G} {p2 p3 : Pos}
def wIslower (wa : WE G) : WE G := fun env g Q E => wa env g (fun d g1 => ∃ z, d = .str z ∧ Q (.bl (Txt.islower z)) g1) E
def wIsalpha (wa : WE G) : WE G := fun env g Q E => wa env g (fun d g1 => ∃ z, d = .str z ∧ Q (.bl (Txt.isalpha z)) g1) E
theorem de_islower (ha : DE X Z W M 0 a wa) (hbase : attributeBase a "islower" X.env (eval a X.env) = eval a X.env := by rfl) (hline : (p2.endLine == p3.line) = true := by rfl) :
    DE X Z W M n (.Call (.Attribute a "islower" p2) [] [] p3) (wIslower wa) := by
  obtain ⟨t, pe, r⟩ := ha
  refine ⟨_, pe_bm0 PySem.F.plainAttrs_str PySem.F.slot_str_islower PySem.F.type_str_islower mt_islower pe hbase hline, fun {Hs0 H0 Hs H σ env fp g Q Qd Ed} R p q k x => r R p q (fun d g' v Hs1 H1 f e s o nd fr q1 => ?_) x⟩
  obtain ⟨z, rfl, e⟩ := e
  have rc := o.2
  cases rc
  exact ⟨rfl, z, rfl, rfl, trivial, (k.pure s q1).scal s.s4 (v := .bl _) (d := .bl _) rfl e⟩
theorem de_isalpha (ha : DE X Z W M 0 a wa) (hbase : attributeBase a "isalpha" X.env (eval a X.env) = eval a X.env := by rfl) (hline : (p2.endLine == p3.line) = true := by rfl) :
    DE X Z W M n (.Call (.Attribute a "isalpha" p2) [] [] p3) (wIsalpha wa) := by
  obtain ⟨t, pe, r⟩ := ha
  refine ⟨_, pe_bm0 PySem.F.plainAttrs_str PySem.F.slot_str_isalpha PySem.F.type_str_isalpha mt_isalpha pe hbase hline, fun {Hs0 H0 Hs H σ env fp g Q Qd Ed} R p q k x => r R p q (fun d g' v Hs1 H1 f e s o nd fr q1 => ?_) x⟩
  obtain ⟨z, rfl, e⟩ := e
  have rc := o.2
  cases rc
  exact ⟨rfl, z, rfl, rfl, trivial, (k.pure s q1).scal s.s4 (v := .bl _) (d := .bl _) rfl e⟩
end
end Vl

/-! Vl45: data within a tuple of data. -/
namespace L2
open PySem PySem.Spec PyProof.Rows
section
variable {X : Cx}
def rInTd (K : PySem.W.Frag) : R2 := fun x y H Q => ∃ d ds, Dp K H x d ∧ Dp K H y (.tuple ds) ∧ SeqAt.shaped d = true ∧ SeqAt.shaped (.tuple ds) = true ∧ Q (.bl (ds.any fun z => PyData.eqv z d)) H
theorem op_inTd (hu : X.A.units + 65 < cLine) : OpR X (compareOp .In) (rInTd X.K) := by
  intro pins s σ H x y v u Q I rx ry h
  obtain ⟨d, ds, hd, he, sd, se, q⟩ := h
  obtain ⟨as, r1⟩ := Dp.reads I d x v hd rx
  obtain ⟨bs, r2⟩ := Dp.reads I (.tuple ds) y u he ry
  exact SeqAt.in_tuple_reads r2 r1 (SeqAt.canLay_of_shaped se) (SeqAt.canLay_of_shaped sd) (room_in_shaped sd hu) ⟨.bl _, H, I, rfl, q⟩
end
end L2
namespace Vl
open PySem PySem.Spec L2
section
variable {X : Cx} {n : Nat}
/-- d in e, e a tuple of data -/
def inTd : D2 := fun d e q => ∃ ds, e = .tup ds ∧ eqOk d e ∧ q (.bl ((pyL ds).any fun z => PyData.eqv z d.py))
theorem op2_inTd : Op2 X n (rInTd X.K) inTd := by
  intro Hs H x y d e Q q s hx hy r k
  obtain ⟨ds, rfl, ⟨p1, p2, s1, s2⟩, r⟩ := r
  exact ⟨_, _, (hx.same s).dp p1, (hy.same s).dp p2, s1, s2, k.scal s (d := .bl _) rfl r⟩
end
end Vl

/-! Vl46: xs[::k], some of the items. -/
namespace L2
open PySem PySem.Spec PyProof.Rows
section
variable {X : Cx}
def tStepL (K : PySem.W.Frag) (te tk : TE) : TE := fun σ H Q => te σ H fun x H1 => tPart tk σ H1 fun o H4 => ∃ k, o = some k ∧ ∃ a xs, x = .ref a ∧ SqL K H4 a xs ∧ 0 < k ∧ k < 2 ^ 62 ∧ ∀ is : List Nat, is.length ≤ xs.length → ∀ p, H4 p = none → Q (.ref p) (upd H4 p (.lst (Vl.pick is xs)))
theorem bounds_step (k : Int) (h : 0 < k) (n : Nat) : sliceBounds none none (some k) n = (0, (n : Int), k) := by
  unfold sliceBounds
  have : (some k).getD 1 > 0 := h
  simp only [Option.getD_some] at this ⊢
  rw [if_pos this, if_pos this]
theorem pe_stepL {e e2 : Expr} {te tk : TE} {p3 pos : Pos} (he : PE X e te) (hk : PE X e2 tk) : PE X (.Subscript e (.Slice none none (some e2) p3) pos) (tStepL X.K te tk) := by
  refine ⟨fun pins s σ H Q I h => ?_⟩
  refine Subscript_ (thn (he.run pins s σ H _ I h) fun v s1 ⟨x, H1, I1, r1, q1⟩ => ?_)
  refine wpAny_Slice (thn (po_none.run pins s1 σ H1 (fun o H2 => o = none ∧ H2 = H1) I1 ⟨rfl, rfl⟩) fun vl s2 ⟨l, H2, I2, pl, el, e2'⟩ => ?_)
  subst el e2'
  refine thn (po_none.run pins s2 σ H2 (fun o H3 => o = none ∧ H3 = H2) I2 ⟨rfl, rfl⟩) fun vu s3 ⟨u, H3, I3, pu, eu, e3⟩ => ?_
  subst eu e3
  have hst : PO X (some e2) (tPart tk) := po_some hk
  refine thn (hst.run pins s3 σ H3 _ I3 q1) fun vs s4 ⟨o, H4, I4, ps, k, eo, a, xs, ex, hx, h0, h1, q⟩ => ?_
  subst eo ex
  cases r1
  have I5 : Inv X pins σ H4 { s4 with heap := s4.heap.push { cls := .type "slice", data := .fields #[vl, vu, vs] } } := I4.kept (t' := s4.toks) fun b ob q => Heap.get?_push_of_some _ q
  obtain ⟨its, r, ht, hz⟩ := I5.list hx
  have hlen := r.length
  show wpAny (model X.prog X.w) X.A (subscriptTail e (.Slice none none (some e2) p3) (.ref a) (.ref s4.heap.objs.size)) (EP X pins σ Q) X.xe { s4 with heap := s4.heap.push { cls := .type "slice", data := .fields #[vl, vu, vs] } }
  refine tail_any (ops := [.ref a, .ref s4.heap.objs.size]) ht.isList.typeIs (PySem.slot_list_getitem.lookup) ?_ (by with_unfolding_all rfl)
  refine wpAny_getItem_list_slice ht.isList (Heap.IsSliceOf.new _ vl vu vs) pl pu ps (fun z => by cases z; omega) ?_ (by rw [List.size_toArray]; omega)
  have hsl : (sliceRange 0 (its.length : Int) k).length ≤ its.length := sliceRange_length_le 0 its.length k its.length (fun _ => ⟨Int.le_refl _, Int.le_refl _⟩) (fun z => absurd h0 z)
  have ep : slicePick its.toArray none none (some k) = (Vl.pick (sliceRange 0 (its.length : Int) k) its).toArray := by
    unfold slicePick Vl.pick
    rw [bounds_step k h0, List.size_toArray]
    simp
  rw [ep]
  refine ⟨.ref _, _, I5.laid (t' := s4.toks) (o := .lst (Vl.pick (sliceRange 0 (its.length : Int) k) xs)) (fun b ob q => Heap.get?_push_of_some _ q) (Nat.le_refl _) ?_, rfl, q _ (by omega) _ (I5.hok.fresh (Nat.le_refl _))⟩
  refine ⟨?_, _, 0, Vl.vals_pick r _, Heap.get?_push_size _ rfl⟩
  have := List.length_filterMap_le (fun j => xs[j]?) (sliceRange 0 (its.length : Int) k)
  unfold Vl.pick
  omega
end
end L2
namespace Vl
open PySem PySem.Spec L2
def noNames : Scope := { kind := .function, names := [], isGenerator := false, isCoroutine := false }
/-- a block that reads no name from around it -/
theorem blk_any {N : List Str} {sc' scope : Scope} {own : List (Str × Nat)} (h : BlkOk N noNames scope own) : BlkOk N sc' scope own :=
  ⟨h.kind, h.uniq, h.ix, fun y hy e => by have := h.free y hy e; simp [noNames] at this, h.own⟩
section
variable {G : Type} {X : Cx} {Z : Vo G} {W : WX} {M : Nat → Nat} {e e2 : Expr} {w w2 : WE G} {p3 pos : Pos}
/-- xs[::k] -/
def wStep (w w2 : WE G) : WE G := fun env g Q E => w env g (fun d g1 => w2 env g1 (fun c g2 => ∃ ds k, d = .lst ds ∧ c = .int k ∧ 0 < k ∧ k < 2 ^ 62 ∧ ∀ es : List Dt, es.length ≤ ds.length → (∀ x ∈ es, x ∈ ds) → Q (.lst es) g2) E) E
theorem pick_mem {α : Type} (is : List Nat) (l : List α) : (∀ x ∈ pick is l, x ∈ l) ∧ (pick is l).length ≤ is.length := by
  unfold pick
  refine ⟨fun x hx => ?_, List.length_filterMap_le _ _⟩
  obtain ⟨j, _, h⟩ := List.mem_filterMap.mp hx
  exact List.mem_of_getElem? h
theorem de_step (h1 : DE X Z W M 0 e w) (h2 : DE X Z W M 0 e2 w2) : DE X Z W M 1 (.Subscript e (.Slice none none (some e2) p3) pos) (wStep w w2) := by
  obtain ⟨t, pe, r⟩ := h1
  obtain ⟨t2, pe2, r2⟩ := h2
  refine ⟨_, pe_stepL pe pe2, fun {Hs0 H0 Hs H σ env fp g Q Qd Ed} R p q k x => ?_⟩
  refine r R p q (fun d g1 v Hs1 H1 f e1 s1 o1 nd1 fr1 q1 => ?_) x
  refine r2 (R.step s1) q1 e1 (fun c g2 v2 Hs2 H2 f2 e2 s2 o2 nd2 fr2 q2 => ?_) (x.step s1)
  obtain ⟨ds, j, rfl, rfl, h0, h9, e3⟩ := e2
  have rc := o2.2
  cases rc
  have rp := o1.2.same s2.s1
  obtain ⟨a, xs, rfl, ha, rx⟩ := rp.seq s2.s4
  refine ⟨j, rfl, j, rfl, a, xs, rfl, SqL.of ha, h0, h9, fun is hl b hb => ?_⟩
  have k' := k.pure (s1.trans s2) q2
  refine k'.newL s2.s4 hb (rx.pick is) (e3 _ ?_ (pick_mem is ds).1)
  have := (pick_mem is ds).2
  have := rx.length
  omega
end
end Vl

/-! VrA0: what the draws of all laws share. -/
namespace Vl
open PySem L2

/-- F more draws are in sight -/
structure RgOk (F : Nat) (g : Rg) : Prop where
  d0 : 0 ≤ g.dig
  d1 : g.dig < 2 ^ 13000
  s0 : 0 ≤ g.seed
  s1 : g.seed < 2 ^ 61
  c0 : 0 ≤ g.ctr
  c1 : g.ctr + F ≤ 2 ^ 100
theorem RgOk.le {F F' : Nat} {g : Rg} (h : RgOk F g) (hl : F' ≤ F) : RgOk F' g := ⟨h.d0, h.d1, h.s0, h.s1, h.c0, by have := h.c1; omega⟩
def isWord (n : Nat) (z : Str) : Prop := 0 < z.length ∧ z.length ≤ n ∧ ∀ c ∈ z.cps.toList, 97 ≤ c ∧ c ≤ 122
def dLine (l : List Str) : Dt := .lst (l.map .str)
def dPage (p : List (List Str)) : Dt := .lst (p.map dLine)
def dInts (l : List Int) : Dt := .lst (l.map .int)
def okPage (rows words : Nat) (p : List (List Str)) : Prop := p.length ≤ rows ∧ ∀ l ∈ p, 0 < l.length ∧ l.length ≤ words ∧ ∀ z ∈ l, isWord 60 z
def okWide (i : Int) : Prop := 1 ≤ i ∧ i < 10 ^ 30
theorem log2_le {x a : Nat} (h : x < 2 ^ a) : x.log2 ≤ a := by
  by_cases z : x = 0
  · rw [z]; exact Nat.zero_le _
  · exact Nat.le_of_lt ((Nat.log2_lt z).mpr h)
theorem cmul_of {i j : Int} (a b : Nat) (hi : i.natAbs < 2 ^ a) (hj : j.natAbs < 2 ^ b) (h : a + b < 1000000) : CMulW i j := by
  have := log2_le hi
  have := log2_le hj
  show _ + _ < _
  omega
theorem cpow_of {i j : Int} (a : Nat) (hi : i.natAbs < 2 ^ a) (h0 : 0 ≤ j) (h : (a : Int) * j ≤ 2 ^ 27) : CPowW i j := by
  refine ⟨h0, ?_⟩
  have e : Builtin.Int.intBits i ≤ a := intBits_le_iff.mpr hi
  exact Int.le_trans (Int.mul_le_mul_of_nonneg_right (by exact_mod_cast e) h0) h
theorem cdiv_of {i j : Int} (a : Nat) (h0 : 0 < j) (hj : j.natAbs < 2 ^ a) (h : a < 9000) : CDivW i j := ⟨h0, Nat.lt_of_le_of_lt (log2_le hj) h⟩
theorem at_nat {α : Type} {xs : List α} {v : Int} (h0 : 0 ≤ v) (h1 : v < xs.length) : ∃ x, L2.atI xs v = some x ∧ x ∈ xs := by
  obtain ⟨k, rfl⟩ := Int.eq_ofNat_of_zero_le h0
  have hk : k < xs.length := by omega
  refine ⟨xs[k], ?_, List.getElem_mem hk⟩
  unfold L2.atI L2.ixN
  rw [if_pos h0, if_pos h1]
  exact List.getElem?_eq_getElem hk
theorem at_ints {l : List Int} {v : Int} (h0 : 0 ≤ v) (h1 : v < l.length) : ∃ m, L2.atI (l.map Dt.int) v = some (.int m) ∧ m ∈ l := by
  obtain ⟨x, e, hx⟩ := at_nat (xs := l.map Dt.int) h0 (by rw [List.length_map]; exact h1)
  obtain ⟨m, hm, rfl⟩ := List.mem_map.mp hx
  exact ⟨m, e, hm⟩
theorem at_strs {l : List Str} {v : Int} (h0 : 0 ≤ v) (h1 : v < l.length) : ∃ m, L2.atI (l.map Dt.str) v = some (.str m) ∧ m ∈ l := by
  obtain ⟨x, e, hx⟩ := at_nat (xs := l.map Dt.str) h0 (by rw [List.length_map]; exact h1)
  obtain ⟨m, hm, rfl⟩ := List.mem_map.mp hx
  exact ⟨m, e, hm⟩
theorem len_repS (x : Str) (k : Int) : (repS x k).length = k.toNat * x.length := by
  unfold repS Str.length
  simp
theorem mem_repS {x : Str} {k : Int} {c : Nat} (h : c ∈ (repS x k).cps.toList) : c ∈ x.cps.toList := by
  unfold repS at h
  have h' : c ∈ (List.replicate k.toNat x.cps.toList).flatten := h
  obtain ⟨l, hl, hc⟩ := List.mem_flatten.mp h'
  rw [List.mem_replicate] at hl
  rw [← hl.2]
  exact hc
theorem abc_ok : ∀ c ∈ (Str.ofString "abcdefghijklmnopqrstuvwxyz").cps.toList, 97 ≤ c ∧ c ≤ 122 := by decide +kernel
theorem abc_len : (Str.ofString "abcdefghijklmnopqrstuvwxyz").cps.toList.length = 26 := by decide +kernel
theorem word_of {c d : Nat} {n m : Int} (hc : 97 ≤ c ∧ c ≤ 122) (hd : 97 ≤ d ∧ d ≤ 122) (h0 : 0 < n) (hm : m ≤ n - 1) : isWord n.toNat ((⟨#[c]⟩ : Str) ++ repS ⟨#[d]⟩ m) := by
  have e : ((⟨#[c]⟩ : Str) ++ repS ⟨#[d]⟩ m).length = 1 + m.toNat := by
    show (#[c] ++ (repS ⟨#[d]⟩ m).cps).size = _
    have := len_repS ⟨#[d]⟩ m
    have e2 : (repS ⟨#[d]⟩ m).cps.size = m.toNat * 1 := this
    rw [Array.size_append, e2]
    simp
  refine ⟨by omega, by omega, fun a ha => ?_⟩
  have ha' : a ∈ [c] ++ (repS ⟨#[d]⟩ m).cps.toList := by
    have : ((⟨#[c]⟩ : Str) ++ repS ⟨#[d]⟩ m).cps.toList = [c] ++ (repS ⟨#[d]⟩ m).cps.toList := by
      show (#[c] ++ (repS ⟨#[d]⟩ m).cps).toList = _
      simp
    rwa [this] at ha
  rcases List.mem_append.mp ha' with z | z
  · rw [List.mem_singleton.mp z]; exact hc
  · have := mem_repS z
    have : a = d := by simpa using this
    rw [this]; exact hd
theorem word60 {n : Nat} {z : Str} (h : isWord n z) (hn : n ≤ 60) : isWord 60 z := ⟨h.1, by have := h.2.1; omega, h.2.2⟩
theorem pow10_le {a b : Nat} (h : a ≤ b) : (10 : Int) ^ a ≤ 10 ^ b := by exact_mod_cast Nat.pow_le_pow_right (by decide) h
end Vl

/-! VG: texts, loops with places, data that fit. -/
namespace Vl
open PySem L2
def lineText (l : List Str) : Str := Str.join " " l
theorem join_nil (s : Str) : Str.join s [] = Str.empty := rfl
theorem join_snoc (s y : Str) : ∀ ys : List Str, ys ≠ [] → Str.join s (ys ++ [y]) = Str.join s ys ++ s ++ y
  | [], h => absurd rfl h
  | [x], _ => rfl
  | x :: z :: r, _ => by
    have ih := join_snoc s y (z :: r) (by simp)
    show x ++ s ++ Str.join s ((z :: r) ++ [y]) = x ++ s ++ Str.join s (z :: r) ++ s ++ y
    rw [ih]
    simp only [Str.append_assoc]
theorem join_len (s : Str) (B : Nat) : ∀ ys : List Str, (∀ y ∈ ys, y.length ≤ B) → (Str.join s ys).length ≤ ys.length * (B + s.length)
  | [], _ => Nat.zero_le _
  | [x], h => by
    have := h x List.mem_cons_self
    show x.length ≤ _
    simp only [List.length_cons, List.length_nil]
    omega
  | x :: z :: r, h => by
    have ih := join_len s B (z :: r) fun y hy => h y (List.mem_cons_of_mem _ hy)
    have := h x List.mem_cons_self
    show (x ++ s ++ Str.join s (z :: r)).length ≤ _
    rw [Str.length_append, Str.length_append]
    have e : (x :: z :: r).length * (B + s.length) = (B + s.length) + (z :: r).length * (B + s.length) := by
      rw [List.length_cons, Nat.add_mul]; omega
    omega
theorem join_ok {s : Str} (hs : ∀ c ∈ s.cps.toList, c < 0x110000) : ∀ {ys : List Str}, (∀ y ∈ ys, ∀ c ∈ y.cps.toList, c < 0x110000) → ∀ c ∈ (Str.join s ys).cps.toList, c < 0x110000
  | [], _, c, hc => by simp [Str.join, Str.empty] at hc
  | [x], h, c, hc => h x List.mem_cons_self c hc
  | x :: z :: r, h, c, hc => by
    have hc' : c ∈ ((x.cps ++ s.cps) ++ (Str.join s (z :: r)).cps).toList := hc
    simp only [Array.toList_append, List.mem_append] at hc'
    rcases hc' with (q | q) | q
    · exact h x List.mem_cons_self c q
    · exact hs c q
    · exact join_ok hs (fun y hy => h y (List.mem_cons_of_mem _ hy)) c q
theorem sum_le (B : Nat) : ∀ ys : List Str, (∀ y ∈ ys, y.length ≤ B) → (ys.map (·.length)).sum ≤ ys.length * B
  | [], _ => by simp
  | x :: r, h => by
    have := sum_le B r fun y hy => h y (List.mem_cons_of_mem _ hy)
    have := h x List.mem_cons_self
    rw [List.map_cons, List.sum_cons, List.length_cons, Nat.add_mul]
    omega
theorem line_len {l : List Str} {n : Nat} (hl : l.length ≤ n) (h : ∀ z ∈ l, isWord 60 z) : (lineText l).length ≤ n * 61 := by
  have e := join_len " " 60 l fun z hz => (h z hz).2.1
  exact Nat.le_trans e (Nat.mul_le_mul_right _ hl)
/-- a sign between, but not ahead of the first one -/
theorem glue (s : Str) (ys : List Str) (y : Str) (k : Nat) (hk : k = ys.length) : (Str.join s ys ++ if 0 < k then s else "") ++ y = Str.join s (ys ++ [y]) := by
  by_cases h : ys = []
  · subst h
    subst hk
    show (Str.empty ++ Str.empty) ++ y = y
    rw [Str.append_empty, Str.empty_append]
  · have : 0 < ys.length := List.length_pos_iff.mpr h
    rw [if_pos (by omega), join_snoc s y ys h]
theorem joinD_s {a : Str} {ys : List Str} {q : Dt → Prop} (B : Nat) (h : ∀ y ∈ ys, y.length ≤ B) (hl : ys.length * (B + a.length) ≤ 16777216) (k : q (.str (Str.join a ys))) : joinD (.str a) (.lst (ys.map .str)) q := by
  refine ⟨a, ys, rfl, rfl, ?_, ?_⟩
  · have := sum_le B ys h
    rw [Nat.mul_add] at hl
    omega
  · rw [show Txt.join a ys = Str.join a ys from StrLaws.glued_eq_join _ _]
    exact k
theorem eqv_nil {ds : List Dt} : PyData.eqv (Dt.lst ds).py (Dt.lst []).py = ds.isEmpty := by
  cases ds <;> simp [Dt.py, pyL, PyData.eqv, PyData.eqvAll]
theorem fit_wide {i : Int} (h : okWide i) : Fit 0 131 (.int i) := Fit.int (by have := h.1; have := h.2; omega)
theorem fit_ints {l : List Int} {n : Nat} (hl : l.length ≤ n) (h : ∀ v ∈ l, okWide v) : Fit 1 (n * 132) (dInts l) :=
  Fit.listN (W := 131) (fun d hd => by
    obtain ⟨i, hi, rfl⟩ := List.mem_map.mp hd
    exact fit_wide (h i hi)) (by rw [List.length_map]; exact hl)
theorem fit_word {z : Str} {n : Nat} (h : isWord n z) : Fit 0 n (.str z) := Fit.str (fun c hc => by have := (h.2.2 c hc).2; omega) h.2.1
theorem fit_line {l : List Str} {n : Nat} (hl : l.length ≤ n) (h : ∀ z ∈ l, isWord 60 z) : Fit 1 (n * 61) (dLine l) :=
  Fit.listN (W := 60) (fun d hd => by
    obtain ⟨i, hi, rfl⟩ := List.mem_map.mp hd
    exact fit_word (h i hi)) (by rw [List.length_map]; exact hl)
theorem fit_page {p : List (List Str)} {n m : Nat} (h : okPage n m p) : Fit 2 (n * (m * 61 + 1)) (dPage p) :=
  Fit.listN (W := m * 61) (fun d hd => by
    obtain ⟨l, hl, rfl⟩ := List.mem_map.mp hd
    exact fit_line (h.2 l hl).2.1 (h.2 l hl).2.2) (by rw [List.length_map]; exact h.1)
theorem fit_nil : Fit 1 0 (.lst []) := FitL.nil.lst
theorem wide_log {i : Int} (h : okWide i) : i.natAbs.log2 < 1920 := by
  have := log2_le (x := i.natAbs) (a := 120) (by have := h.1; have := h.2; omega)
  omega
theorem wide_len {i : Int} (h : okWide i) : Str.length (txt i) ≤ 40 := by
  have e := int_text_length_le10 (a := i) (k := 39) (by decide) (by have := h.1; have := h.2; omega)
  show (Str.ofString (toString i)).length ≤ 40
  rw [ofString_length]; exact e
section
variable {G : Type}
theorem lc_of {α : Type} {i : Nat} {we : WE G} {Q : List Dt → G → Prop} (xs : List α) (f h : α → Dt) (env : Env) (g : G) (hl : xs.length ≤ sizeLine)
    (hs : ∀ a ∈ xs, ∀ K : Dt → G → Prop, K (h a) g → we (env.set i (some (f a))) g K noX) (q : Q (xs.map h) g) : lcGo (bName i) wYes we Q (xs.map f) env g [] := by
  refine lc_name (fun rest g' acc => g' = g ∧ ∃ ys : List α, rest = ys.map f ∧ (∀ d ∈ ys, d ∈ xs) ∧ acc ++ ys.map h = xs.map h) env ?_ ?_ _ g [] (by simpa using hl) ⟨rfl, xs, rfl, fun _ z => z, rfl⟩
  · rintro d rest _ acc K ⟨rfl, ys, e0, hm, e⟩ k
    cases ys with
    | nil => cases e0
    | cons y ys =>
      cases e0
      refine hs y (hm y List.mem_cons_self) K (k _ _ ⟨rfl, ys, rfl, fun x hx => hm x (List.mem_cons_of_mem _ hx), ?_⟩)
      rw [List.append_assoc]
      exact e
  · rintro _ acc ⟨rfl, ys, e0, _, e⟩
    cases ys with
    | nil => rw [List.map_nil, List.append_nil] at e; rw [e]; exact q
    | cons y ys => cases e0
theorem for_enum {b : WB} {wb : WS G} {D : DEnds G} (I : Nat → List Dt → Env → G → Prop) (hend : ∀ k env g, I k [] env g → D.nx env g)
    (hstep : ∀ k d ds env g (K : Env → G → Prop), I k (d :: ds) env g → (∀ env g, I (k + 1) ds env g → K env g) → b env (.tup [.int k, d]) fun env' => wb { D with nx := K, ct := K, bk := D.nx } env' g)
    (ds : List Dt) (env : Env) (g : G) (h : I 0 ds env g) : forGo b wb D (pairsE ds) env g := by
  have gen : ∀ (ds : List Dt) (k : Nat) (env : Env) (g : G), I k ds env g → forGo b wb D (ds.mapIdx fun i d => .tup [.int ((k + i : Nat) : Int), d]) env g := by
    intro ds
    induction ds with
    | nil => intro k env g h; exact hend k env g h
    | cons d ds ih =>
      intro k env g h
      rw [List.mapIdx_cons]
      refine hstep k d ds env g _ h fun env' g' h' => ?_
      have := ih (k + 1) env' g' h'
      have e : (fun (i : Nat) (d : Dt) => Dt.tup [.int ((k + 1 + i : Nat) : Int), d]) = fun i d => Dt.tup [.int ((k + (i + 1) : Nat) : Int), d] := by
        funext i d; rw [Nat.add_assoc, Nat.add_comm 1 i]
      rw [e] at this
      exact this
  have := gen ds 0 env g h
  simpa [pairsE] using this
end
theorem len1 : Str.length (" " : Str) = 1 := by decide +kernel
theorem len2 : Str.length ("\n" : Str) = 1 := by decide +kernel
theorem len3 : Str.length (" > " : Str) = 3 := by decide +kernel
section
variable {G : Type}
theorem lc_id {j : Nat} {Kq : List Dt → G → Prop} {env : Env} (hj : j < env.length) {g : G} : ∀ (ds acc : List Dt), acc.length + ds.length ≤ sizeLine → Kq (acc ++ ds) g → lcGo (bName j) wYes (wVar j) Kq ds env g acc
  | [], acc, _, q => by rw [List.append_nil] at q; exact q
  | d :: ds, acc, hl, q => by
    rw [List.length_cons] at hl
    refine ⟨fun _ => ⟨d, by rw [List.getElem?_set_self hj], by omega, ?_⟩, fun z => by cases z⟩
    refine lc_id hj ds (acc ++ [d]) (by rw [List.length_append, List.length_singleton]; omega) ?_
    rw [List.append_assoc]
    exact q
theorem lc2_flat {α β : Type} {i j : Nat} {wi1 : WI G} {vs1 : List Nat} {Q : List Dt → G → Prop} (f : α → Dt) (h : α → List β) (k : β → Dt) {env : Env} (hj : j < env.length) {g : G} : ∀ (xs : List α) (acc : List Dt),
    (∀ a ∈ xs, ∀ K : List Dt → G → Prop, K ((h a).map k) g → wi1 (env.set i (some (f a))) g K noX) → acc.length + (xs.flatMap h).length ≤ sizeLine → Q (acc ++ (xs.flatMap h).map k) g →
    lc2Go (bName i) wYes wi1 vs1 (bName j) wYes (wVar j) Q (xs.map f) env g acc
  | [], acc, _, _, q => by
    simp only [List.flatMap_nil, List.map_nil, List.append_nil] at q
    exact q
  | x :: xs, acc, hs, hl, q => by
    rw [List.flatMap_cons, List.length_append] at hl
    refine ⟨fun _ => hs x List.mem_cons_self _ ?_, fun z => by cases z⟩
    refine lc_id (by rw [wipeE_len, List.length_set]; exact hj) _ _ (by rw [List.length_map]; omega) ?_
    refine lc2_flat f h k hj xs _ (fun a ha => hs a (List.mem_cons_of_mem _ ha)) (by rw [List.length_append, List.length_map]; omega) ?_
    rw [List.flatMap_cons, List.map_append] at q
    rw [List.append_assoc]
    exact q
end
theorem eqD_self {k W : Nat} {d : Dt} {q : Dt → Prop} (h : Fit k W d) (hk : k ≤ 64) (r : q (.bl true)) : eqD d d q := eqD_f h h hk hk (by rw [h.eqv]; exact r)
theorem neD_self {k W : Nat} {d : Dt} {q : Dt → Prop} (h : Fit k W d) (hk : k ≤ 64) (r : q (.bl false)) : neD d d q := neD_f h h hk hk (by rw [h.eqv]; exact r)
theorem cut_from (k : Nat) (xs : List Dt) : cutD xs (some (k : Int)) none = xs.drop k := by
  unfold cutD
  rw [HT.sIx_nat, HT.sIx_none]
  by_cases h : k ≤ xs.length
  · rw [Nat.min_eq_left h, List.take_of_length_le (by simp)]
  · rw [Nat.min_eq_right (by omega), List.drop_of_length_le (Nat.le_refl _), List.drop_of_length_le (by omega)]
    simp
theorem cut_to (k : Nat) (xs : List Dt) : cutD xs none (some (k : Int)) = xs.take k := by
  unfold cutD
  rw [HT.sIx_nat, HT.sIx_none]
  by_cases h : k ≤ xs.length
  · rw [Nat.min_eq_left h]; simp
  · rw [Nat.min_eq_right (by omega), Nat.sub_zero, List.drop_zero, List.take_of_length_le (Nat.le_refl _), List.take_of_length_le (by omega)]
theorem zip_next {α : Type} : ∀ (xs : List α) (x : α × α), x ∈ xs.zip (xs.drop 1) → ∃ a b, xs = a ++ x.1 :: x.2 :: b
  | [], x, h => by simp at h
  | [y], x, h => by simp at h
  | y :: z :: r, x, h => by
    rw [List.drop_succ_cons, List.drop_zero, List.zip_cons_cons] at h
    rcases List.mem_cons.mp h with rfl | h
    · exact ⟨[], r, rfl⟩
    · obtain ⟨a, b, e⟩ := zip_next (z :: r) x (by rw [List.drop_succ_cons, List.drop_zero]; exact h)
      exact ⟨y :: a, b, by rw [e]; rfl⟩
section
variable {q : Dt → Prop} {ds : List Dt} {i : Int} {lo hi : Option Int}
theorem dLine_l {l : List Str} : (dLine l = .lst ds) = (l.map Dt.str = ds) := by unfold dLine; rw [Dt.lst.injEq]
theorem dLine_k {l : List Str} : (dLine l = .klst ds) = False := by unfold dLine; simp
theorem dLine_len {l : List Str} : lenD [dLine l] q = q (.int l.length) := by unfold dLine; rw [lenD_l, List.length_map]
theorem dLine_ix {l : List Str} : ixD (dLine l) (.int i) q = ∃ d, L2.atI (l.map Dt.str) i = some d ∧ q d := rfl
theorem dLine_sl {l : List Str} : slD (dLine l) lo hi q = q (.lst (cutD (l.map Dt.str) lo hi)) := rfl
theorem dLine_add {l m : List Str} : addD (dLine l) (dLine m) q = ((l.map Dt.str).length + (m.map Dt.str).length ≤ sizeLine ∧ q (dLine (l ++ m))) := by unfold dLine; rw [addD_l, List.map_append]
theorem dLine_list {l : List Str} : listD [dLine l] q = q (dLine l) := rfl
theorem dLine_e {l m : List Str} : (.lst (l.map Dt.str ++ m.map Dt.str)) = dLine (l ++ m) := by unfold dLine; rw [List.map_append]
theorem dPage_l {l : List (List Str)} : (dPage l = .lst ds) = (l.map dLine = ds) := by unfold dPage; rw [Dt.lst.injEq]
theorem dPage_k {l : List (List Str)} : (dPage l = .klst ds) = False := by unfold dPage; simp
theorem dPage_len {l : List (List Str)} : lenD [dPage l] q = q (.int l.length) := by unfold dPage; rw [lenD_l, List.length_map]
theorem dPage_ix {l : List (List Str)} : ixD (dPage l) (.int i) q = ∃ d, L2.atI (l.map dLine) i = some d ∧ q d := rfl
theorem dPage_sl {l : List (List Str)} : slD (dPage l) lo hi q = q (.lst (cutD (l.map dLine) lo hi)) := rfl
theorem dPage_add {l m : List (List Str)} : addD (dPage l) (dPage m) q = ((l.map dLine).length + (m.map dLine).length ≤ sizeLine ∧ q (dPage (l ++ m))) := by unfold dPage; rw [addD_l, List.map_append]
theorem dPage_list {l : List (List Str)} : listD [dPage l] q = q (dPage l) := rfl
theorem dPage_e {l m : List (List Str)} : (.lst (l.map dLine ++ m.map dLine)) = dPage (l ++ m) := by unfold dPage; rw [List.map_append]
theorem dInts_l {l : List Int} : (dInts l = .lst ds) = (l.map Dt.int = ds) := by unfold dInts; rw [Dt.lst.injEq]
theorem dInts_k {l : List Int} : (dInts l = .klst ds) = False := by unfold dInts; simp
theorem dInts_len {l : List Int} : lenD [dInts l] q = q (.int l.length) := by unfold dInts; rw [lenD_l, List.length_map]
theorem dInts_ix {l : List Int} : ixD (dInts l) (.int i) q = ∃ d, L2.atI (l.map Dt.int) i = some d ∧ q d := rfl
theorem dInts_sl {l : List Int} : slD (dInts l) lo hi q = q (.lst (cutD (l.map Dt.int) lo hi)) := rfl
theorem dInts_add {l m : List Int} : addD (dInts l) (dInts m) q = ((l.map Dt.int).length + (m.map Dt.int).length ≤ sizeLine ∧ q (dInts (l ++ m))) := by unfold dInts; rw [addD_l, List.map_append]
theorem dInts_list {l : List Int} : listD [dInts l] q = q (dInts l) := rfl
theorem dInts_e {l m : List Int} : (.lst (l.map Dt.int ++ m.map Dt.int)) = dInts (l ++ m) := by unfold dInts; rw [List.map_append]
end
theorem cat_flat {G : Type} {α β : Type} {i jj : Nat} {w2 : WE G} {Q : List Dt → G → Prop} (f : α → Dt) (h : α → List β) (k : β → Dt) {env : Env} (hj : jj < env.length) {g : G} : ∀ (xs : List α) (acc : List Dt),
    (∀ a ∈ xs, ∀ K : Dt → G → Prop, K (.lst ((h a).map k)) g → w2 (env.set i (some (f a))) g K noX) → acc.length + (xs.flatMap h).length ≤ sizeLine → Q (acc ++ (xs.flatMap h).map k) g →
    lcCatGo jj (bName i) w2 Q (xs.map f) env g acc
  | [], acc, _, _, q => by
    simp only [List.flatMap_nil, List.map_nil, List.append_nil] at q
    exact q
  | x :: xs, acc, hs, hl, q => by
    rw [List.flatMap_cons, List.length_append] at hl
    refine ⟨by rw [List.length_set]; exact hj, hs x List.mem_cons_self _ ⟨_, rfl, by rw [List.length_map]; omega, ?_⟩⟩
    refine cat_flat f h k hj xs _ (fun a ha => hs a (List.mem_cons_of_mem _ ha)) (by rw [List.length_append, List.length_map]; omega) ?_
    rw [List.flatMap_cons, List.map_append] at q
    rw [List.append_assoc]
    exact q
end Vl

/-! VT: texts that are split, cut, put together. -/
namespace Vl
open PySem L2
open TL in
theorem txt_cps (n : Nat) : (txt (n : Int)).cps.toList = numL n := tl_num n
open TL in
theorem txt_len {n : Nat} (h : n < 10 ^ 40) : (txt (n : Int)).length ≤ 40 := by
  have := numL_len (k := 40) (by decide) h
  rw [← txt_cps, Array.length_toList] at this
  exact this
theorem Fit.nat40 {n : Nat} (h : n < 10 ^ 40) : Fit 0 135 (.int (n : Int)) where
  pl := trivial
  cl := by simp [Dt.py, PyData.canLay0]
  dp := by simp [Dt.py, PyData.depth]
  sw := by
    simp only [Dt.py, PyData.showable, decide_eq_true_eq]
    by_cases z : n = 0
    · subst z; decide
    · have : n.log2 < 134 := (Nat.log2_lt z).mpr (Nat.lt_of_lt_of_le h (by decide))
      show (n : Int).natAbs.log2 < _
      rw [Int.natAbs_natCast]
      omega
  ls := by
    simp only [Dt.py, PyData.leavesShort, decide_eq_true_eq]
    exact txt_len h
  wt := by
    simp only [Dt.py, PyData.weight]
    by_cases z : n = 0
    · subst z; simp
    · have : n.log2 < 134 := (Nat.log2_lt z).mpr (Nat.lt_of_lt_of_le h (by decide))
      rw [Int.natAbs_natCast]
      split <;> omega
/-! ### split, as plain words -/
section
open TL
theorem spl_count {S : List Nat} (hS : S ≠ []) : ∀ (xs : List Nat) (k : Nat) (acc : List Nat), (spl S k acc xs).length * S.length ≤ xs.length - k + S.length
  | [], k, acc => by rw [spl_nil]; simp
  | c :: r, k + 1, acc => by
    have := spl_count hS r k acc
    show (spl S k acc r).length * _ ≤ _
    rw [List.length_cons]; omega
  | c :: r, 0, acc => by
    cases h : pre S (c :: r) with
    | true =>
      rw [spl_hit h, List.length_cons, Nat.add_mul]
      have := spl_count hS r (S.length - 1) []
      have e : (c :: r).take S.length = S := eq_of_beq h
      have e1 := congrArg List.length e
      rw [List.length_take, List.length_cons] at e1
      rw [List.length_cons]
      have : 0 < S.length := List.length_pos_iff.mpr hS
      omega
    | false =>
      rw [spl_miss h]
      have := spl_count hS r 0 (acc ++ [c])
      rw [List.length_cons]; omega
theorem spl_sum (S : List Nat) : ∀ (xs : List Nat) (k : Nat) (acc : List Nat), ((spl S k acc xs).map (·.length)).sum ≤ acc.length + xs.length
  | [], k, acc => by rw [spl_nil]; simp
  | c :: r, k + 1, acc => by
    have := spl_sum S r k acc
    show ((spl S k acc r).map (·.length)).sum ≤ _
    rw [List.length_cons]; omega
  | c :: r, 0, acc => by
    cases h : pre S (c :: r) with
    | true =>
      rw [spl_hit h, List.map_cons, List.sum_cons, List.length_cons]
      have := spl_sum S r (S.length - 1) []
      rw [List.length_nil] at this
      omega
    | false =>
      rw [spl_miss h, List.length_cons]
      have := spl_sum S r 0 (acc ++ [c])
      rw [List.length_append, List.length_singleton] at this
      omega
theorem spl_mem (S : List Nat) : ∀ (xs : List Nat) (k : Nat) (acc p : List Nat), p ∈ spl S k acc xs → ∀ c ∈ p, c ∈ acc ∨ c ∈ xs
  | [], k, acc, p, hp, c, hc => by rw [spl_nil, List.mem_singleton] at hp; subst hp; exact .inl hc
  | d :: r, k + 1, acc, p, hp, c, hc => (spl_mem S r k acc p hp c hc).imp id (List.mem_cons_of_mem _)
  | d :: r, 0, acc, p, hp, c, hc => by
    cases h : pre S (d :: r) with
    | true =>
      rw [spl_hit h] at hp
      rcases List.mem_cons.mp hp with rfl | hp
      · exact .inl hc
      · rcases spl_mem S r _ [] p hp c hc with q | q
        · cases q
        · exact .inr (List.mem_cons_of_mem _ q)
    | false =>
      rw [spl_miss h] at hp
      rcases spl_mem S r 0 _ p hp c hc with q | q
      · rcases List.mem_append.mp q with q | q
        · exact .inl q
        · rw [List.mem_singleton.mp q]; exact .inr List.mem_cons_self
      · exact .inr (List.mem_cons_of_mem _ q)
theorem spl_ne (S : List Nat) : ∀ (xs : List Nat) (k : Nat) (acc : List Nat), spl S k acc xs ≠ []
  | [], k, acc => by rw [spl_nil]; simp
  | c :: r, k + 1, acc => spl_ne S r k acc
  | c :: r, 0, acc => by
    cases h : pre S (c :: r) with
    | true => rw [spl_hit h]; simp
    | false => rw [spl_miss h]; exact spl_ne S r 0 _
theorem split_tl {y : Str} {S : List Nat} (t : Str) (hy : tl y = S) (hS : S ≠ []) (hk : y.cps.all (· < 256) = true) : (Txt.split t y).map tl = spl S 0 [] (tl t) := by
  have := split_spl t y (by rw [hy]; exact hS) (kind_ok hk)
  rw [hy] at this
  exact this
theorem split_count {y : Str} {S : List Nat} (t : Str) (hy : tl y = S) (hS : S ≠ []) (hk : y.cps.all (· < 256) = true) : (Txt.split t y).length * S.length ≤ t.length + S.length := by
  have := spl_count (S := S) hS (tl t) 0 []
  rw [← split_tl t hy hS hk, List.length_map] at this
  rw [len_tl t]
  exact this
theorem split_sum {y : Str} {S : List Nat} (t : Str) (hy : tl y = S) (hS : S ≠ []) (hk : y.cps.all (· < 256) = true) : ((Txt.split t y).map (·.length)).sum ≤ t.length := by
  have := spl_sum S (tl t) 0 []
  rw [← split_tl t hy hS hk, List.map_map] at this
  rw [len_tl t]
  simpa [Function.comp_def, len_tl] using this
theorem split_mem {y : Str} {S : List Nat} (t : Str) (hy : tl y = S) (hS : S ≠ []) (hk : y.cps.all (· < 256) = true) {p : Str} (h : p ∈ Txt.split t y) : ∀ c ∈ p.cps.toList, c ∈ t.cps.toList := fun c hc => by
  have hp : tl p ∈ spl S 0 [] (tl t) := by rw [← split_tl t hy hS hk]; exact List.mem_map_of_mem h
  rcases spl_mem S (tl t) 0 [] _ hp c hc with q | q
  · cases q
  · exact q
theorem split_ne {y : Str} {S : List Nat} (t : Str) (hy : tl y = S) (hS : S ≠ []) (hk : y.cps.all (· < 256) = true) : Txt.split t y ≠ [] := fun h => spl_ne S (tl t) 0 [] (by rw [← split_tl t hy hS hk, h]; rfl)
theorem sum_mem : ∀ {l : List Nat} {x : Nat}, x ∈ l → x ≤ l.sum
  | y :: l, x, h => by
    rw [List.sum_cons]
    rcases List.mem_cons.mp h with rfl | h
    · omega
    · have := sum_mem h; omega
theorem split_len {y : Str} {S : List Nat} (t : Str) (hy : tl y = S) (hS : S ≠ []) (hk : y.cps.all (· < 256) = true) {p : Str} (h : p ∈ Txt.split t y) : p.length ≤ t.length := Nat.le_trans (sum_mem (List.mem_map_of_mem h)) (split_sum t hy hS hk)
end
def okT (n : Nat) (t : Str) : Prop := t.length ≤ n ∧ ∀ c ∈ t.cps.toList, c < 0x110000
theorem in_signT {c : Nat} {z : Str} {q : Dt → Prop} (h : q (.bl (decide (c ∈ z.cps.toList)))) : inDat false (.str ⟨#[c]⟩) (.str z) q := .inr (.inr ⟨c, z, rfl, rfl, h⟩)
theorem tl_cut_to (z : Str) (k : Nat) : (L2.cutS z none (some (k : Int))).cps.toList = z.cps.toList.take k := by
  have e : z.cps.toList.length = z.length := Array.length_toList
  unfold L2.cutS
  rw [HT.sIx_nat, HT.sIx_none]
  show (z.cps.toList.drop 0).take (min k z.length - 0) = _
  rw [List.drop_zero, Nat.sub_zero]
  by_cases h : k ≤ z.length
  · rw [Nat.min_eq_left h]
  · rw [Nat.min_eq_right (by omega), List.take_of_length_le (by omega), List.take_of_length_le (by omega)]
theorem tl_cut_from (z : Str) (k : Nat) : (L2.cutS z (some (k : Int)) none).cps.toList = z.cps.toList.drop k := by
  have e : z.cps.toList.length = z.length := Array.length_toList
  unfold L2.cutS
  rw [HT.sIx_nat, HT.sIx_none]
  show (z.cps.toList.drop (min k z.length)).take (z.length - min k z.length) = _
  by_cases h : k ≤ z.length
  · rw [Nat.min_eq_left h, List.take_of_length_le (by rw [List.length_drop]; omega)]
  · rw [Nat.min_eq_right (by omega), List.drop_of_length_le (by omega), List.drop_of_length_le (by omega)]
    simp
theorem lc_filter {G α : Type} {i : Nat} {wt : WT G} {we : WE G} {Q : List Dt → G → Prop} (f h : α → Dt) (p : α → Bool) (env : Env) (g : G) : ∀ (xs : List α) (acc : List Dt), acc.length + xs.length ≤ sizeLine →
    (∀ a ∈ xs, ∀ K : Bool → G → Prop, K (p a) g → wt (env.set i (some (f a))) g K noX) → (∀ a ∈ xs, p a = true → ∀ K : Dt → G → Prop, K (h a) g → we (env.set i (some (f a))) g K noX) → Q (acc ++ (xs.filter p).map h) g → lcGo (bName i) wt we Q (xs.map f) env g acc
  | [], acc, _, _, _, q => by
    show Q acc g
    simpa using q
  | x :: xs, acc, hl, ht, he, q => by
    rw [List.length_cons] at hl
    refine ht x List.mem_cons_self _ ⟨fun hp => ?_, fun hp => ?_⟩
    · refine he x List.mem_cons_self hp _ ⟨by omega, ?_⟩
      refine lc_filter f h p env g xs _ (by rw [List.length_append, List.length_singleton]; omega) (fun a ha => ht a (List.mem_cons_of_mem _ ha)) (fun a ha => he a (List.mem_cons_of_mem _ ha)) ?_
      rw [List.filter_cons_of_pos hp, List.map_cons] at q
      rw [List.append_assoc]
      exact q
    · refine lc_filter f h p env g xs _ (by omega) (fun a ha => ht a (List.mem_cons_of_mem _ ha)) (fun a ha => he a (List.mem_cons_of_mem _ ha)) ?_
      rw [List.filter_cons_of_neg (by rw [hp]; decide)] at q
      exact q
theorem out_sign {c : Nat} {z : Str} {q : Dt → Prop} (h : q (.bl (!decide (c ∈ z.cps.toList)))) : inDat true (.str ⟨#[c]⟩) (.str z) q := .inr (.inr ⟨c, z, rfl, rfl, h⟩)
def repL (k : Nat) (xs : List Dt) : List Dt := (List.replicate k xs).flatten
theorem mulD_lR {xs : List Dt} {j : Int} {q : Dt → Prop} : mulD (.lst xs) (.int j) q = (-(2 ^ 63) ≤ j ∧ j < 2 ^ 63 ∧ xs.length * j.toNat ≤ sizeLine ∧ q (.lst (repL j.toNat xs))) := rfl
theorem okT_app {a b : Nat} {x y : Str} (h : okT a x) (h' : okT b y) : okT (a + b) (x ++ y) := by
  refine ⟨by rw [Str.length_append]; have := h.1; have := h'.1; omega, fun c hc => ?_⟩
  rw [Str.cps_append, Array.toList_append, List.mem_append] at hc
  exact hc.elim (h.2 c) (h'.2 c)
theorem okT_le {a b : Nat} {x : Str} (h : okT a x) (hl : a ≤ b) : okT b x := ⟨Nat.le_trans h.1 hl, h.2⟩
theorem okT_lit (n : Nat) (x : String) (h : (Str.ofString x).length ≤ n) : okT n (Str.ofString x) := ⟨h, ofString_ok _⟩
theorem okT_cut {n : Nat} {t : Str} (h : okT n t) (lo hi : Option Int) : okT n (L2.cutS t lo hi) := by
  refine ⟨Nat.le_trans (L2.cutS_length _ _ _) h.1, fun c hc => h.2 c ?_⟩
  unfold L2.cutS at hc
  exact List.mem_of_mem_drop (List.mem_of_mem_take hc)
theorem sum_cut : ∀ (l : List Nat) (i j : Nat), i ≤ j → (l.take i).sum + (l.drop j).sum ≤ l.sum
  | [], i, j, _ => by simp
  | x :: l, 0, 0, _ => by simp
  | x :: l, 0, j + 1, _ => by
    have := sum_cut l 0 j (Nat.zero_le _)
    simp at this ⊢; omega
  | x :: l, i + 1, 0, h => by omega
  | x :: l, i + 1, j + 1, h => by
    have := sum_cut l i j (by omega)
    rw [List.take_succ_cons, List.drop_succ_cons, List.sum_cons, List.sum_cons]; omega
theorem okT_txt {n : Nat} (h : n < 10 ^ 40) : okT 40 (txt (n : Int)) := ⟨txt_len h, ofString_ok _⟩
theorem cut_two (t : Str) (n m k : Nat) (h : n ≤ m) : (L2.cutS t none (some (n : Int))).length + (L2.cutS t (some (m : Int)) none).length ≤ t.length := by
  rw [TL.len_tl (L2.cutS t none (some (n : Int))), TL.len_tl (L2.cutS t (some (m : Int)) none), TL.len_tl t]
  show (L2.cutS t none (some (n : Int))).cps.toList.length + (L2.cutS t (some (m : Int)) none).cps.toList.length ≤ t.cps.toList.length
  rw [tl_cut_to, tl_cut_from, List.length_take, List.length_drop]
  omega
theorem sz_cons {z : Str} (h : 1 ≤ z.length) : ∃ c cs, z.cps.toList = c :: cs := by
  have e : z.cps.toList.length = z.length := Array.length_toList
  cases h' : z.cps.toList with
  | nil => rw [h'] at e; simp at e; omega
  | cons c cs => exact ⟨c, cs, rfl⟩
end Vl

/-! VU: loops over what is known. -/
namespace Vl
open PySem L2
section
variable {G : Type} {wb : WS G} {D : DEnds G}
/-- a loop over the images of a list: the invariant tells of the part that is behind -/
theorem for_map {α : Type} {b : WB} (xs : List α) (f : α → Dt) (I : List α → Env → G → Prop) (hend : ∀ env g, I xs env g → D.nx env g)
    (hstep : ∀ a x r env g (K : Env → G → Prop), xs = a ++ x :: r → I a env g → (∀ env g, I (a ++ [x]) env g → K env g) → b env (f x) fun env' => wb { D with nx := K, ct := K, bk := D.nx } env' g)
    (env : Env) (g : G) (h : I [] env g) : forGo b wb D (xs.map f) env g := by
  refine for_inv (fun rest env g => ∃ a r, xs = a ++ r ∧ rest = r.map f ∧ I a env g) ?_ ?_ _ env g ⟨[], xs, rfl, rfl, h⟩
  · rintro env g ⟨a, r, e, e2, hI⟩
    cases r with
    | cons _ _ => cases e2
    | nil => rw [List.append_nil] at e; subst e; exact hend env g hI
  · rintro d rest env g K ⟨a, r, e, e2, hI⟩ k
    cases r with
    | nil => cases e2
    | cons x r =>
      cases e2
      exact hstep a x r env g K e hI fun env g h => k env g ⟨a ++ [x], r, by rw [e]; simp, rfl, h⟩
/-- a loop over a range from nought -/
theorem for_rng {i : Nat} (N : Nat) (I : Nat → Env → G → Prop) (hend : ∀ env g, I N env g → D.nx env g)
    (hstep : ∀ n env g (K : Env → G → Prop), n < N → I n env g → (∀ env g, I (n + 1) env g → K env g) → wb { D with nx := K, ct := K, bk := D.nx } (env.set i (some (.int (n : Int)))) g)
    (env : Env) (g : G) (h : I 0 env g) : forGo (bName i) wb D (rngI 0 N) env g := by
  unfold rngI
  refine for_map (List.range N) (fun i : Nat => Dt.int (0 + (i : Int))) (fun a env g => I a.length env g) (fun env g h => hend env g (by rwa [List.length_range] at h)) ?_ env g h
  intro a x r env g K e hI k
  have hx : x = a.length := by
    have h1 : (List.range N)[a.length]? = some x := by rw [e]; simp
    have hl : a.length < N := by
      have := congrArg List.length e
      rw [List.length_range, List.length_append, List.length_cons] at this
      omega
    rw [List.getElem?_range hl] at h1
    exact (Option.some.inj h1).symm
  have hl : a.length < N := by
    have := congrArg List.length e
    rw [List.length_range, List.length_append, List.length_cons] at this
    omega
  show wb _ (env.set i (some (.int (0 + (x : Int))))) g
  rw [Int.zero_add, hx]
  refine hstep a.length env g K hl hI fun env g h => k env g ?_
  rw [List.length_append, List.length_singleton]
  exact h
/-- a comprehension over a range, which draws -/
theorem lc_rng {i : Nat} {we : WE G} {Q : List Dt → G → Prop} (N : Nat) (hN : N ≤ sizeLine) (I : Nat → G → List Dt → Prop) (env : Env)
    (hstep : ∀ n g acc (K : Dt → G → Prop), n < N → I n g acc → (∀ r g2, I (n + 1) g2 (acc ++ [r]) → K r g2) → we (env.set i (some (.int (n : Int)))) g K noX)
    (hend : ∀ g acc, I N g acc → Q acc g) (g : G) (h : I 0 g []) : lcGo (bName i) wYes we Q (rngI 0 N) env g [] := by
  refine lc_name (fun rest g acc => ∃ n, n ≤ N ∧ rest = (rngI 0 N).drop n ∧ I n g acc) env ?_ ?_ _ g [] (by rw [rngI_len]; simpa using hN) ⟨0, Nat.zero_le _, rfl, h⟩
  · rintro d rest g acc K ⟨n, hn, e, hI⟩ k
    have hl : n < N := by
      have := congrArg List.length e
      rw [List.length_drop, rngI_len, List.length_cons] at this
      omega
    have e2 : (rngI 0 N).drop n = .int (n : Int) :: (rngI 0 N).drop (n + 1) := by
      rw [List.drop_eq_getElem_cons (by rw [rngI_len]; exact hl)]
      congr 1
      unfold rngI
      simp
    rw [e2] at e
    cases e
    exact hstep n g acc K hl hI fun r g2 h2 => k r g2 ⟨n + 1, hl, rfl, h2⟩
  · rintro g acc ⟨n, hn, e, hI⟩
    have : n = N := by
      have := congrArg List.length e
      rw [List.length_drop, rngI_len, List.length_nil] at this
      omega
    subst this
    exact hend g acc hI
end
theorem atI_zero {a : Dt} {l : List Dt} : L2.atI (a :: l) 0 = some a := by
  unfold L2.atI L2.ixN
  simp
theorem atI_nat {α : Type} {xs : List α} {n : Nat} {x : α} (h : xs[n]? = some x) : L2.atI xs (n : Int) = some x := by
  have hl : n < xs.length := (List.getElem?_eq_some_iff.mp h).1
  unfold L2.atI L2.ixN
  rw [if_pos (by omega), if_pos (by omega)]
  simpa using h
end Vl

/-! VD0: the draws of the laws whose source is a dict. -/
namespace Vl
open PySem L2
/-- F more draws are in sight -/
structure BgOk (F : Nat) (g : Bg) : Prop where
  c : ∀ x ∈ g.cs, 0 ≤ x
  d0 : 0 ≤ g.left
  m0 : 0 ≤ g.blend
  m1 : g.blend < 2 ^ 62
  k0 : 0 ≤ g.turn
  k1 : g.turn + F ≤ 2 ^ 80
theorem BgOk.le {F F' : Nat} {g : Bg} (h : BgOk F g) (hl : F' ≤ F) : BgOk F' g := ⟨h.c, h.d0, h.m0, h.m1, h.k0, by have := h.k1; omega⟩
def sp_law_bag : Spec Unit := fun ds _ Q _ => ∃ ns : List Int, ds = [.klst (ns.map .int)] ∧ ns.length ≤ 63 ∧ ∀ (cs : List Int) (m : Int), (∀ x ∈ cs, 0 ≤ x) → 0 ≤ m → m < 2 ^ 62 → Q (.dic [kG, kL, kT, kB] [.lst (cs.map .int), .int 0, .int 0, .int m]) ()
def sp_law_draw (r : BgA) : Spec Bg := fun ds g Q _ => ∃ (n : Int) (F : Nat), ds = [.raw (.ref r.1), .int n] ∧ 0 < n ∧ n ≤ 10 ^ 40 ∧ BgOk (F + 1) g ∧
  ∀ v g', 0 ≤ v → v < n → BgOk F g' → Q (.int v) g'
abbrev N_law_bag : List Str := ["script", "blend", "great", "cell"]
def w_law_bag : WS Unit :=
 (wSeq (wPar2 1 2 (wC (.int 11)) (wLst wNil))
 (wSeq (wFor (wItems (wVar 0)) (bName 3)
 (wSeq (wSet 1 (wOp modD (wOp addD (wOp mulD (wVar 1) (wC (.int 1000003))) (wVar 3)) (wC (.int 2305843009213693951))))
 (wIfS (wTest (wOp (cmpD fun i j => decide (j ≤ i)) (wCall absD (wCons (wVar 3) wNil)) (wOp powD (wC (.int 10)) (wC (.int 18)))))
 (wApp 2 (wCall absD (wCons (wVar 3) wNil)))
 wNext)))
 (wRet (wDic4 2 1 "great" "left" "turn" "blend" 0 0))))
abbrev N_law_draw : List Str := ["bag", "many", "drawn", "turn", "mixed"]
def w_law_draw (r : BgA) : WS Bg :=
 (wSeq (wIfS (wAnd (wTest (wOp (cmpD fun i j => decide (i < j)) (wBg 0 r 1) (wVar 1))) (wTest (wOp (cmpD fun i j => decide (j < i)) (wBgLen 0 r) (wC (.int 0)))))
 (wBgPop 0 r 1)
 wNext)
 (wSeq (wIfS (wTest (wOp (cmpD fun i j => decide (j ≤ i)) (wBg 0 r 1) (wVar 1)))
 (wSeq (wSet 2 (wOp modD (wBg 0 r 1) (wVar 1)))
 (wSeq (wBgSet 0 r 1 (wOp fdivD (wBg 0 r 1) (wVar 1)))
 (wRet (wVar 2))))
 wNext)
 (wSeq (wBgAug 0 r 2 1)
 (wSeq (wSet 3 (wBg 0 r 2))
 (wSeq (wSet 4 (wOp addD (wOp mulD (wOp addD (wBg 0 r 3) (wOp mulD (wC (.int 17)) (wVar 3))) (wOp powD (wOp addD (wVar 3) (wC (.int 29))) (wC (.int 2)))) (wOp mulD (wC (.int 7919)) (wVar 3))))
 (wRet (wOp modD (wOp fdivD (wOp modD (wOp powD (wOp modD (wVar 4) (wC (.int 2305843009213693951))) (wC (.int 3))) (wOp addD (wOp powD (wC (.int 10)) (wC (.int 18))) (wC (.int 9)))) (wC (.int 64))) (wVar 1))))))))
theorem len_law_bag {ds : List Dt} {g Q E} (h : sp_law_bag ds g Q E) : ds.length = 1 := by obtain ⟨_, rfl, _⟩ := h; rfl
theorem len_law_draw {r : BgA} {ds : List Dt} {g Q E} (h : sp_law_draw r ds g Q E) : ds.length = 2 := by obtain ⟨_, _, rfl, _⟩ := h; rfl
theorem law_law_bag {ds : List Dt} {g Q E} (h : sp_law_bag ds g Q E) : w_law_bag { nx := fun _ g => Q .non g, rt := Q, ex := fun c d _ g => E c d g } (startE N_law_bag ds) g := by
  obtain ⟨ns, rfl, hl, k⟩ := h
  have c2 : CPowW 10 18 := cpow_of 4 (by decide) (by decide) (by decide)
  simp [w_law_bag, wSeq, wIfS, wTest, wOp, wRg, wRgSet, wC, wVar, wSet, wRet, wFnR, wFn, wFnK, wCons, wNil, wLst, wCall, wM1, wNext, exE, Rg.get, Rg.put, startE, addD_i, addD_s, addD_l, eqD_i, neD_i, subD_i, mulD_i, mulD_s, mulD_l, modD_i, fdivD_i, powD_i, cmpD_i, ixD_l, ixD_k, ixD_t, ixD_s, minD_i, maxD_i, absD_i, lenD_l, lenD_k, lenD_t, lenD_s, strD_i, intD_i, intD_b, listD_l, listD_t, reprD_d, wSl, slD_l, slD_k, slD_s, wONone, wOSome, wItems, wRng1, bName, wTup, wIf, wUnp, bTup_t, bCons_c, bNil_n, at_sep, ite_str, wPar_c, wLc, wipeE, wFor, wEnum, pick, wOr, wAnd, wNot, wDrop, wAug, wApp, wExt, wAppIx, wPar2, wPar3, wZip, wSigns, wAndV, wOrV, wNotV, wUn, negD, wLc2, lc2Go, Option.some.injEq, exists_eq_left', wRetO, wLcCat, wGive, wTry, wClr, wIns, wSetIx, wMv, wMvF, wChain, wRev, intSD, wShut, wTryR, wForAppIx, wForApT, wAppIxT, wTupO, wIxO, isiD, bStar, wTryAs, wRaise, wFnV, wKit, wKits, wXv, wVarS, wForT, wForApp, wForPop, wAddO, wRngL, wSortR, wTupM, wSg, wSgSet, wSgNe, wSgPop, Sg.get, Sg.put, wWhile, wSortSet, wLstO, wListRg3, wStar, wFnA, wBg, wBgSet, wBgPop, wBgLen, wBgAug, wDic4, wIslower, wIsalpha, Bg.get, Bg.put, wStep, dLine_l, dLine_k, dLine_len, dLine_ix, dLine_sl, dLine_add, dLine_list, dPage_l, dPage_k, dPage_len, dPage_ix, dPage_sl, dPage_add, dPage_list, dInts_l, dInts_k, dInts_len, dInts_ix, dInts_sl, dInts_add, dInts_list, wLM, wVal, wTryEx, wIx1, N_law_bag, c2, wPar2]
  refine for_map ns Dt.int (fun a env g => ∃ (m : Int) (cs : List Int) (x3 : Option Dt), (∀ x ∈ cs, 0 ≤ x) ∧ cs.length ≤ a.length ∧ 0 ≤ m ∧ m < 2 ^ 61 ∧ env = [some (.klst (ns.map .int)), some (.int m), some (.lst (cs.map .int)), x3]) ?_ ?_ _ _ ⟨11, [], none, by simp, by simp, by decide, by decide, rfl⟩
  · rintro env g ⟨m, cs, x3, h1, h2, h3, h4, rfl⟩
    simp [wSeq, wIfS, wTest, wOp, wRg, wRgSet, wC, wVar, wSet, wRet, wFnR, wFn, wFnK, wCons, wNil, wLst, wCall, wM1, wNext, exE, Rg.get, Rg.put, startE, addD_i, addD_s, addD_l, eqD_i, neD_i, subD_i, mulD_i, mulD_s, mulD_l, modD_i, fdivD_i, powD_i, cmpD_i, ixD_l, ixD_k, ixD_t, ixD_s, minD_i, maxD_i, absD_i, lenD_l, lenD_k, lenD_t, lenD_s, strD_i, intD_i, intD_b, listD_l, listD_t, reprD_d, wSl, slD_l, slD_k, slD_s, wONone, wOSome, wItems, wRng1, bName, wTup, wIf, wUnp, bTup_t, bCons_c, bNil_n, at_sep, ite_str, wPar_c, wLc, wipeE, wFor, wEnum, pick, wOr, wAnd, wNot, wDrop, wAug, wApp, wExt, wAppIx, wPar2, wPar3, wZip, wSigns, wAndV, wOrV, wNotV, wUn, negD, wLc2, lc2Go, Option.some.injEq, exists_eq_left', wRetO, wLcCat, wGive, wTry, wClr, wIns, wSetIx, wMv, wMvF, wChain, wRev, intSD, wShut, wTryR, wForAppIx, wForApT, wAppIxT, wTupO, wIxO, isiD, bStar, wTryAs, wRaise, wFnV, wKit, wKits, wXv, wVarS, wForT, wForApp, wForPop, wAddO, wRngL, wSortR, wTupM, wSg, wSgSet, wSgNe, wSgPop, Sg.get, Sg.put, wWhile, wSortSet, wLstO, wListRg3, wStar, wFnA, wBg, wBgSet, wBgPop, wBgLen, wBgAug, wDic4, wIslower, wIsalpha, Bg.get, Bg.put, wStep, dLine_l, dLine_k, dLine_len, dLine_ix, dLine_sl, dLine_add, dLine_list, dPage_l, dPage_k, dPage_len, dPage_ix, dPage_sl, dPage_add, dPage_list, dInts_l, dInts_k, dInts_len, dInts_ix, dInts_sl, dInts_add, dInts_list, wLM, wVal, wTryEx, wIx1]
    exact ⟨trivial, k cs m h1 h3 (by omega)⟩
  · rintro a x rr env g K e ⟨m, cs, x3, h1, h2, h3, h4, rfl⟩ kk
    have ha : a.length < 63 := by rw [e, List.length_append, List.length_cons] at hl; omega
    have cm : CMulW m 1000003 := cmul_of 61 30 (by omega) (by decide) (by decide)
    simp [wSeq, wIfS, wTest, wOp, wRg, wRgSet, wC, wVar, wSet, wRet, wFnR, wFn, wFnK, wCons, wNil, wLst, wCall, wM1, wNext, exE, Rg.get, Rg.put, startE, addD_i, addD_s, addD_l, eqD_i, neD_i, subD_i, mulD_i, mulD_s, mulD_l, modD_i, fdivD_i, powD_i, cmpD_i, ixD_l, ixD_k, ixD_t, ixD_s, minD_i, maxD_i, absD_i, lenD_l, lenD_k, lenD_t, lenD_s, strD_i, intD_i, intD_b, listD_l, listD_t, reprD_d, wSl, slD_l, slD_k, slD_s, wONone, wOSome, wItems, wRng1, bName, wTup, wIf, wUnp, bTup_t, bCons_c, bNil_n, at_sep, ite_str, wPar_c, wLc, wipeE, wFor, wEnum, pick, wOr, wAnd, wNot, wDrop, wAug, wApp, wExt, wAppIx, wPar2, wPar3, wZip, wSigns, wAndV, wOrV, wNotV, wUn, negD, wLc2, lc2Go, Option.some.injEq, exists_eq_left', wRetO, wLcCat, wGive, wTry, wClr, wIns, wSetIx, wMv, wMvF, wChain, wRev, intSD, wShut, wTryR, wForAppIx, wForApT, wAppIxT, wTupO, wIxO, isiD, bStar, wTryAs, wRaise, wFnV, wKit, wKits, wXv, wVarS, wForT, wForApp, wForPop, wAddO, wRngL, wSortR, wTupM, wSg, wSgSet, wSgNe, wSgPop, Sg.get, Sg.put, wWhile, wSortSet, wLstO, wListRg3, wStar, wFnA, wBg, wBgSet, wBgPop, wBgLen, wBgAug, wDic4, wIslower, wIsalpha, Bg.get, Bg.put, wStep, dLine_l, dLine_k, dLine_len, dLine_ix, dLine_sl, dLine_add, dLine_list, dPage_l, dPage_k, dPage_len, dPage_ix, dPage_sl, dPage_add, dPage_list, dInts_l, dInts_k, dInts_len, dInts_ix, dInts_sl, dInts_add, dInts_list, wLM, wVal, wTryEx, wIx1, c2, cm, bName, absD]
    have hm : 0 ≤ (m * 1000003 + x) % 2305843009213693951 ∧ (m * 1000003 + x) % 2305843009213693951 < 2 ^ 61 := ⟨Int.emod_nonneg _ (by decide), Int.lt_trans (Int.emod_lt_of_pos _ (by decide)) (by decide)⟩
    generalize (m * 1000003 + x) % 2305843009213693951 = m' at hm ⊢
    have ha0 : 0 ≤ (if x < 0 then -x else x) := by split <;> omega
    by_cases hs : (if x < 0 then -x else x) < 1000000000000000000
    · exact .inl ⟨hs, kk _ _ ⟨m', cs, _, h1, by simp; omega, hm.1, hm.2, rfl⟩⟩
    · refine .inr ⟨by omega, by show cs.length < 2 ^ 24; omega, kk _ _ ⟨m', cs ++ [if x < 0 then -x else x], _, fun y hy => ?_, by simp; omega, hm.1, hm.2, by simp; rfl⟩⟩
      rcases List.mem_append.mp hy with q | q
      · exact h1 y q
      · rw [List.mem_singleton.mp q]; exact ha0
theorem law_law_draw {r : BgA} {ds : List Dt} {g : Bg} {Q E} (h : sp_law_draw r ds g Q E) : w_law_draw r { nx := fun _ g => Q .non g, rt := Q, ex := fun c d _ g => E c d g } (startE N_law_draw ds) g := by
  obtain ⟨n, F, rfl, h0, h1, ok, k⟩ := h
  have c2 : CPowW 10 18 := cpow_of 4 (by decide) (by decide) (by decide)
  have p1 : (10 : Int) ^ 40 < 2 ^ 200 := by decide
  have o1 := ok.d0; have o2 := ok.m0; have o3 := ok.m1; have o4 := ok.k0; have o5 := ok.k1
  have e1 : CMulW 17 (g.turn + 1) := cmul_of 5 90 (by decide) (by omega) (by decide)
  have e2 : CPowW (g.turn + 1 + 29) 2 := cpow_of 90 (by omega) (by decide) (by decide)
  have b1 : ((g.turn + 1 + 29) ^ 2).natAbs < 2 ^ 180 := by
    rw [Int.natAbs_pow]
    have : (g.turn + 1 + 29).natAbs < 2 ^ 90 := by omega
    exact Nat.lt_of_lt_of_le (Nat.pow_lt_pow_left this (by decide)) (by decide)
  have e3 : CMulW (g.blend + 17 * (g.turn + 1)) ((g.turn + 1 + 29) ^ 2) := cmul_of 100 180 (by omega) b1 (by decide)
  have e4 : CMulW 7919 (g.turn + 1) := cmul_of 14 90 (by decide) (by omega) (by decide)
  have key : ∀ (cs : List Int) (l : Int), (∀ x ∈ cs, 0 ≤ x) → 0 ≤ l → (l < n ∧
      CPowW (((g.blend + 17 * (g.turn + 1)) * (g.turn + 1 + 29) ^ 2 + 7919 * (g.turn + 1)) % 2305843009213693951) 3 ∧
      CDivW ((((g.blend + 17 * (g.turn + 1)) * (g.turn + 1 + 29) ^ 2 + 7919 * (g.turn + 1)) % 2305843009213693951) ^ 3 % 1000000000000000009) 64 ∧ 0 < n ∧
      Q (.int ((((g.blend + 17 * (g.turn + 1)) * (g.turn + 1 + 29) ^ 2 + 7919 * (g.turn + 1)) % 2305843009213693951) ^ 3 % 1000000000000000009 / 64 % n)) { cs := cs, left := l, turn := g.turn + 1, blend := g.blend }) ∨
      (n ≤ l ∧ 0 < n ∧ CDivW l n ∧ Q (.int (l % n)) { cs := cs, left := l / n, turn := g.turn, blend := g.blend }) := fun cs l hc hl => by
    by_cases h : l < n
    · refine .inl ⟨h, ?_⟩
      have hm := Int.emod_nonneg ((g.blend + 17 * (g.turn + 1)) * (g.turn + 1 + 29) ^ 2 + 7919 * (g.turn + 1)) (show (2305843009213693951 : Int) ≠ 0 by decide)
      have hm2 := Int.emod_lt_of_pos ((g.blend + 17 * (g.turn + 1)) * (g.turn + 1 + 29) ^ 2 + 7919 * (g.turn + 1)) (show (0 : Int) < 2305843009213693951 by decide)
      generalize ((g.blend + 17 * (g.turn + 1)) * (g.turn + 1 + 29) ^ 2 + 7919 * (g.turn + 1)) % 2305843009213693951 = y at hm hm2 ⊢
      exact ⟨cpow_of 61 (by omega) (by decide) (by decide), cdiv_of 10 (by decide) (by decide) (by decide), h0, k _ _ (Int.emod_nonneg _ (by omega)) (Int.emod_lt_of_pos _ h0) ⟨hc, hl, o2, o3, by show 0 ≤ g.turn + 1; omega, by show g.turn + 1 + F ≤ _; omega⟩⟩
    · exact .inr ⟨by omega, h0, cdiv_of 200 h0 (by omega) (by decide), k _ _ (Int.emod_nonneg _ (by omega)) (Int.emod_lt_of_pos _ h0) ⟨hc, Int.ediv_nonneg hl (by omega), o2, o3, o4, by show g.turn + F ≤ _; omega⟩⟩
  simp [w_law_draw, wSeq, wIfS, wTest, wOp, wRg, wRgSet, wC, wVar, wSet, wRet, wFnR, wFn, wFnK, wCons, wNil, wLst, wCall, wM1, wNext, exE, Rg.get, Rg.put, startE, addD_i, addD_s, addD_l, eqD_i, neD_i, subD_i, mulD_i, mulD_s, mulD_l, modD_i, fdivD_i, powD_i, cmpD_i, ixD_l, ixD_k, ixD_t, ixD_s, minD_i, maxD_i, absD_i, lenD_l, lenD_k, lenD_t, lenD_s, strD_i, intD_i, intD_b, listD_l, listD_t, reprD_d, wSl, slD_l, slD_k, slD_s, wONone, wOSome, wItems, wRng1, bName, wTup, wIf, wUnp, bTup_t, bCons_c, bNil_n, at_sep, ite_str, wPar_c, wLc, wipeE, wFor, wEnum, pick, wOr, wAnd, wNot, wDrop, wAug, wApp, wExt, wAppIx, wPar2, wPar3, wZip, wSigns, wAndV, wOrV, wNotV, wUn, negD, wLc2, lc2Go, Option.some.injEq, exists_eq_left', wRetO, wLcCat, wGive, wTry, wClr, wIns, wSetIx, wMv, wMvF, wChain, wRev, intSD, wShut, wTryR, wForAppIx, wForApT, wAppIxT, wTupO, wIxO, isiD, bStar, wTryAs, wRaise, wFnV, wKit, wKits, wXv, wVarS, wForT, wForApp, wForPop, wAddO, wRngL, wSortR, wTupM, wSg, wSgSet, wSgNe, wSgPop, Sg.get, Sg.put, wWhile, wSortSet, wLstO, wListRg3, wStar, wFnA, wBg, wBgSet, wBgPop, wBgLen, wBgAug, wDic4, wIslower, wIsalpha, Bg.get, Bg.put, wStep, dLine_l, dLine_k, dLine_len, dLine_ix, dLine_sl, dLine_add, dLine_list, dPage_l, dPage_k, dPage_len, dPage_ix, dPage_sl, dPage_add, dPage_list, dInts_l, dInts_k, dInts_len, dInts_ix, dInts_sl, dInts_add, dInts_list, wLM, wVal, wTryEx, wIx1, N_law_draw, c2, e1, e2, e3, e4]
  have same := key g.cs g.left ok.c o1
  by_cases h : n ≤ g.left
  · exact .inl ⟨h, same⟩
  · refine .inr ⟨by omega, ?_⟩
    cases hc : g.cs with
    | nil => rw [hc] at same; exact .inl ⟨rfl, same⟩
    | cons c cs =>
      exact .inr ⟨by simp, c, cs, rfl, key cs c (fun x hx => ok.c x (by rw [hc]; exact List.mem_cons_of_mem _ hx)) (ok.c c (by rw [hc]; exact List.mem_cons_self))⟩
theorem drB {r : BgA} {n : Int} {F : Nat} {g : Bg} {Q E} (h0 : 0 < n) (h1 : n ≤ 10 ^ 40) (ok : BgOk (F + 1) g) (k : ∀ v g', 0 ≤ v → v < n → BgOk F g' → Q (.int v) g') : sp_law_draw r [.raw (.ref r.1), .int n] g Q E := ⟨n, F, rfl, h0, h1, ok, k⟩
theorem ix_pick {l : List Int} {v : Int} {q : Dt → Prop} (h0 : 0 ≤ v) (h1 : v < l.length) (k : ∀ m ∈ l, q (.int m)) : ixD (.lst (l.map .int)) (.int v) q := by
  obtain ⟨m, e, hm⟩ := at_ints h0 h1
  exact ⟨_, e, k m hm⟩
theorem ix_pickT {l : List Int} {v : Int} {q : Dt → Prop} (h0 : 0 ≤ v) (h1 : v < l.length) (k : ∀ m ∈ l, q (.int m)) : ixD (.tup (l.map .int)) (.int v) q := by
  obtain ⟨m, e, hm⟩ := at_ints h0 h1
  exact ⟨_, e, k m hm⟩
end Vl

/-! VE: the effect of widths. -/
namespace Vl
open PySem L2
def minStep (acc : List Int) (w : Int) : List Int := match acc.getLast? with
  | none => acc ++ [w]
  | some x => if w < x then acc ++ [w] else acc
/-- the strict minima, from left to right -/
def mins (l : List Int) : List Int := l.foldl minStep []
def fillStep (acc : List Int) (w : Int) : List Int := match acc.getLast? with
  | none => acc ++ [w]
  | some x => if x = w + 2 then acc ++ [w + 1] ++ [w] else acc ++ [w]
def effL (l : List Int) : List Int := match (mins l).getLast? with
  | none => []
  | some x => if x ≤ 2 then [2] else (mins l).foldl fillStep []
def okI (l : List Int) : Prop := l.length ≤ 1000000 ∧ ∀ w ∈ l, w.natAbs < 10 ^ 38
def sp_minima : Spec Unit := fun ds _ Q _ => ∃ l, ds = [dInts l] ∧ okI l ∧ Q (dInts (mins l)) ()
def sp_effect_of : Spec Unit := fun ds _ Q _ => ∃ l, ds = [dInts l] ∧ okI l ∧ Q (dInts (effL l)) ()
def w_minima : WS Unit :=
 (wSeq (wSet 1 (wLst wNil))
 (wSeq (wFor (wItems (wVar 0)) (bName 2)
 (wIfS (wOr (wTest (wOp eqD (wVar 1) (wLst wNil))) (wTest (wOp (cmpD fun i j => decide (i < j)) (wVar 2) (wOp ixD (wVar 1) (wUn negD (wC (.int 1)))))))
 (wApp 1 (wVar 2))
 wNext))
 (wRetO 1)))
def w_effect_of : WS Unit :=
 (wSeq (wSet 1 (wFn sp_minima (wCons (wVar 0) wNil)))
 (wSeq (wIfS (wAnd (wTest (wOp neD (wVar 1) (wLst wNil))) (wTest (wOp (cmpD fun i j => decide (i ≤ j)) (wOp ixD (wVar 1) (wUn negD (wC (.int 1)))) (wC (.int 2)))))
 (wRet (wLst (wCons (wC (.int 2)) wNil)))
 wNext)
 (wSeq (wSet 2 (wLst wNil))
 (wSeq (wFor (wItems (wVar 1)) (bName 3)
 (wSeq (wIfS (wAnd (wTest (wOp neD (wVar 2) (wLst wNil))) (wTest (wOp eqD (wOp ixD (wVar 2) (wUn negD (wC (.int 1)))) (wOp addD (wVar 3) (wC (.int 2))))))
 (wApp 2 (wOp addD (wVar 3) (wC (.int 1))))
 wNext)
 (wApp 2 (wVar 3))))
 (wRetO 2)))))
abbrev N_minima : List Str := ["widths", "found", "width"]
abbrev N_effect_of : List Str := ["widths", "least", "found", "width"]
theorem len_minima {ds : List Dt} {g Q E} (h : sp_minima ds g Q E) : ds.length = 1 := by obtain ⟨_, rfl, _⟩ := h; rfl
theorem len_effect_of {ds : List Dt} {g Q E} (h : sp_effect_of ds g Q E) : ds.length = 1 := by obtain ⟨_, rfl, _⟩ := h; rfl
theorem fit_ints38 {l : List Int} (h : ∀ w ∈ l, w.natAbs < 10 ^ 39) : Fit 1 (l.length * 132) (dInts l) := by
  have := Fit.list (ds := l.map .int) (k := 0) (W := 131) fun d hd => by
    obtain ⟨i, hi, rfl⟩ := List.mem_map.mp hd
    exact Fit.int (h i hi)
  rwa [List.length_map] at this
theorem eq_ints {l : List Int} {q : Dt → Prop} (h : ∀ w ∈ l, w.natAbs < 10 ^ 39) (k : q (.bl l.isEmpty)) : eqD (dInts l) (.lst []) q := by
  refine eqD_f (fit_ints38 h) fit_nil (by decide) (by decide) ?_
  rw [show dInts l = .lst (l.map .int) from rfl, eqv_nil, List.isEmpty_map]
  exact k
theorem ne_ints {l : List Int} {q : Dt → Prop} (h : ∀ w ∈ l, w.natAbs < 10 ^ 39) (k : q (.bl (!l.isEmpty))) : neD (dInts l) (.lst []) q := by
  refine neD_f (fit_ints38 h) fit_nil (by decide) (by decide) ?_
  rw [show dInts l = .lst (l.map .int) from rfl, eqv_nil, List.isEmpty_map]
  exact k
theorem atI_last {l : List Dt} {d : Dt} (h : l.getLast? = some d) : L2.atI l (-1) = some d := by
  cases l with
  | nil => cases h
  | cons a r =>
    unfold L2.atI L2.ixN
    have e : (a :: r).getLast? = (a :: r)[r.length]? := by rw [List.getLast?_eq_getElem?]; rfl
    rw [e] at h
    simp only [List.length_cons]
    rw [if_neg (by decide), if_pos (by omega)]
    have e2 : ((-1 : Int) + ((r.length + 1 : Nat) : Int)).toNat = r.length := by omega
    rw [e2]
    exact h
theorem at_last {l : List Int} {x : Int} (h : l.getLast? = some x) : L2.atI (l.map Dt.int) (-1) = some (.int x) := atI_last (by rw [List.getLast?_map, h]; rfl)
theorem minStep_mem {acc : List Int} {w y : Int} (h : y ∈ minStep acc w) : y ∈ acc ∨ y = w := by
  unfold minStep at h
  split at h
  · rcases List.mem_append.mp h with q | q
    · exact .inl q
    · exact .inr (List.mem_singleton.mp q)
  · split at h
    · rcases List.mem_append.mp h with q | q
      · exact .inl q
      · exact .inr (List.mem_singleton.mp q)
    · exact .inl h
theorem mins_snoc (l : List Int) (w : Int) : mins (l ++ [w]) = minStep (mins l) w := by unfold mins; rw [List.foldl_append]; rfl
theorem mins_go_mem : ∀ (l acc : List Int) (y : Int), y ∈ l.foldl minStep acc → y ∈ acc ∨ y ∈ l
  | [], acc, y, h => .inl h
  | w :: l, acc, y, h => by
    rcases mins_go_mem l _ y h with q | q
    · rcases minStep_mem q with q | rfl
      · exact .inl q
      · exact .inr List.mem_cons_self
    · exact .inr (List.mem_cons_of_mem _ q)
theorem mins_mem {l : List Int} {y : Int} (h : y ∈ mins l) : y ∈ l := (mins_go_mem l [] y h).resolve_left (by simp)
theorem minStep_len (acc : List Int) (w : Int) : (minStep acc w).length ≤ acc.length + 1 := by
  unfold minStep
  split
  · simp
  · split
    · simp
    · omega
theorem mins_go_len : ∀ (l acc : List Int), (l.foldl minStep acc).length ≤ acc.length + l.length
  | [], acc => by simp
  | w :: l, acc => by
    have := mins_go_len l (minStep acc w)
    have := minStep_len acc w
    rw [List.foldl_cons, List.length_cons]
    omega
theorem mins_len (l : List Int) : (mins l).length ≤ l.length := by have := mins_go_len l []; simpa [mins] using this
theorem getLast_some {α : Type} {l : List α} (h : l.isEmpty = false) : ∃ x, l.getLast? = some x := by
  cases l with
  | nil => cases h
  | cons a r => exact ⟨_, List.getLast?_eq_some_getLast (by simp)⟩
theorem law_minima {ds : List Dt} {g Q E} (h : sp_minima ds g Q E) : w_minima { nx := fun _ g => Q .non g, rt := Q, ex := fun c d _ g => E c d g } (startE N_minima ds) g := by
  obtain ⟨l, rfl, ok, k⟩ := h
  simp [w_minima, wSeq, wIfS, wTest, wOp, wRg, wRgSet, wC, wVar, wSet, wRet, wFnR, wFn, wFnK, wCons, wNil, wLst, wCall, wM1, wNext, exE, Rg.get, Rg.put, startE, addD_i, addD_s, addD_l, eqD_i, neD_i, subD_i, mulD_i, mulD_s, mulD_l, modD_i, fdivD_i, powD_i, cmpD_i, ixD_l, ixD_k, ixD_t, ixD_s, minD_i, maxD_i, absD_i, lenD_l, lenD_k, lenD_t, lenD_s, strD_i, intD_i, intD_b, listD_l, listD_t, reprD_d, wSl, slD_l, slD_k, slD_s, wONone, wOSome, wItems, wRng1, bName, wTup, wIf, wUnp, bTup_t, bCons_c, bNil_n, at_sep, ite_str, wPar_c, wLc, wipeE, wFor, wEnum, pick, wOr, wAnd, wNot, wDrop, wAug, wApp, wExt, wAppIx, wPar2, wPar3, wZip, wSigns, wAndV, wOrV, wNotV, wUn, negD, wLc2, lc2Go, Option.some.injEq, exists_eq_left', wRetO, wLcCat, wGive, wTry, wClr, wIns, wSetIx, wMv, wMvF, wChain, wRev, intSD, wShut, wTryR, wForAppIx, wForApT, wAppIxT, wTupO, wIxO, isiD, bStar, wTryAs, wRaise, wFnV, wKit, wKits, wXv, wVarS, wForT, wForApp, wForPop, wAddO, wRngL, wSortR, wTupM, wSg, wSgSet, wSgNe, wSgPop, Sg.get, Sg.put, wWhile, wSortSet, wLstO, wListRg3, wStar, wFnA, wBg, wBgSet, wBgPop, wBgLen, wBgAug, wDic4, wIslower, wIsalpha, Bg.get, Bg.put, wStep, dLine_l, dLine_k, dLine_len, dLine_ix, dLine_sl, dLine_add, dLine_list, dPage_l, dPage_k, dPage_len, dPage_ix, dPage_sl, dPage_add, dPage_list, dInts_l, dInts_k, dInts_len, dInts_ix, dInts_sl, dInts_add, dInts_list, wLM, wVal, wTryEx, wIx1, N_minima]
  refine for_inv (fun rest env g => ∃ (a b : List Int) (x2 : Option Dt), l = a ++ b ∧ rest = b.map Dt.int ∧ env = [some (dInts l), some (dInts (mins a)), x2]) ?_ ?_ _ _ _ ⟨[], l, none, rfl, rfl, rfl⟩
  · rintro env g ⟨a, b, x2, e, e2, rfl⟩
    cases b with
    | cons _ _ => cases e2
    | nil =>
      rw [List.append_nil] at e
      subst e
      simp [wSeq, wIfS, wTest, wOp, wRg, wRgSet, wC, wVar, wSet, wRet, wFnR, wFn, wFnK, wCons, wNil, wLst, wCall, wM1, wNext, exE, Rg.get, Rg.put, startE, addD_i, addD_s, addD_l, eqD_i, neD_i, subD_i, mulD_i, mulD_s, mulD_l, modD_i, fdivD_i, powD_i, cmpD_i, ixD_l, ixD_k, ixD_t, ixD_s, minD_i, maxD_i, absD_i, lenD_l, lenD_k, lenD_t, lenD_s, strD_i, intD_i, intD_b, listD_l, listD_t, reprD_d, wSl, slD_l, slD_k, slD_s, wONone, wOSome, wItems, wRng1, bName, wTup, wIf, wUnp, bTup_t, bCons_c, bNil_n, at_sep, ite_str, wPar_c, wLc, wipeE, wFor, wEnum, pick, wOr, wAnd, wNot, wDrop, wAug, wApp, wExt, wAppIx, wPar2, wPar3, wZip, wSigns, wAndV, wOrV, wNotV, wUn, negD, wLc2, lc2Go, Option.some.injEq, exists_eq_left', wRetO, wLcCat, wGive, wTry, wClr, wIns, wSetIx, wMv, wMvF, wChain, wRev, intSD, wShut, wTryR, wForAppIx, wForApT, wAppIxT, wTupO, wIxO, isiD, bStar, wTryAs, wRaise, wFnV, wKit, wKits, wXv, wVarS, wForT, wForApp, wForPop, wAddO, wRngL, wSortR, wTupM, wSg, wSgSet, wSgNe, wSgPop, Sg.get, Sg.put, wWhile, wSortSet, wLstO, wListRg3, wStar, wFnA, wBg, wBgSet, wBgPop, wBgLen, wBgAug, wDic4, wIslower, wIsalpha, Bg.get, Bg.put, wStep, dLine_l, dLine_k, dLine_len, dLine_ix, dLine_sl, dLine_add, dLine_list, dPage_l, dPage_k, dPage_len, dPage_ix, dPage_sl, dPage_add, dPage_list, dInts_l, dInts_k, dInts_len, dInts_ix, dInts_sl, dInts_add, dInts_list, wLM, wVal, wTryEx, wIx1]
      exact k
  · rintro d rest env g K ⟨a, b, x2, e, e2, rfl⟩ kk
    cases b with
    | nil => cases e2
    | cons w b =>
      cases e2
      have hm : ∀ y ∈ mins a, y.natAbs < 10 ^ 39 := fun y hy => by
        have := ok.2 y (by rw [e]; exact List.mem_append_left _ (mins_mem hy))
        omega
      have hlen : (mins a).length < sizeLine := by
        have := mins_len a
        have := ok.1
        rw [e, List.length_append] at this
        show _ < 2 ^ 24
        omega
      have go : K [some (dInts l), some (dInts (minStep (mins a) w)), some (.int w)] g := kk _ _ ⟨a ++ [w], b, some (.int w), by rw [e]; simp, rfl, by rw [mins_snoc]⟩
      simp [wSeq, wIfS, wTest, wOp, wRg, wRgSet, wC, wVar, wSet, wRet, wFnR, wFn, wFnK, wCons, wNil, wLst, wCall, wM1, wNext, exE, Rg.get, Rg.put, startE, addD_i, addD_s, addD_l, eqD_i, neD_i, subD_i, mulD_i, mulD_s, mulD_l, modD_i, fdivD_i, powD_i, cmpD_i, ixD_l, ixD_k, ixD_t, ixD_s, minD_i, maxD_i, absD_i, lenD_l, lenD_k, lenD_t, lenD_s, strD_i, intD_i, intD_b, listD_l, listD_t, reprD_d, wSl, slD_l, slD_k, slD_s, wONone, wOSome, wItems, wRng1, bName, wTup, wIf, wUnp, bTup_t, bCons_c, bNil_n, at_sep, ite_str, wPar_c, wLc, wipeE, wFor, wEnum, pick, wOr, wAnd, wNot, wDrop, wAug, wApp, wExt, wAppIx, wPar2, wPar3, wZip, wSigns, wAndV, wOrV, wNotV, wUn, negD, wLc2, lc2Go, Option.some.injEq, exists_eq_left', wRetO, wLcCat, wGive, wTry, wClr, wIns, wSetIx, wMv, wMvF, wChain, wRev, intSD, wShut, wTryR, wForAppIx, wForApT, wAppIxT, wTupO, wIxO, isiD, bStar, wTryAs, wRaise, wFnV, wKit, wKits, wXv, wVarS, wForT, wForApp, wForPop, wAddO, wRngL, wSortR, wTupM, wSg, wSgSet, wSgNe, wSgPop, Sg.get, Sg.put, wWhile, wSortSet, wLstO, wListRg3, wStar, wFnA, wBg, wBgSet, wBgPop, wBgLen, wBgAug, wDic4, wIslower, wIsalpha, Bg.get, Bg.put, wStep, dLine_l, dLine_k, dLine_len, dLine_ix, dLine_sl, dLine_add, dLine_list, dPage_l, dPage_k, dPage_len, dPage_ix, dPage_sl, dPage_add, dPage_list, dInts_l, dInts_k, dInts_len, dInts_ix, dInts_sl, dInts_add, dInts_list, wLM, wVal, wTryEx, wIx1]
      refine eq_ints hm ?_
      unfold minStep at go
      cases h0 : (mins a).isEmpty with
      | true =>
        have : mins a = [] := List.isEmpty_iff.mp h0
        rw [this] at go ⊢
        exact .inr ⟨rfl, by show (0 : Nat) < sizeLine; decide, go⟩
      | false =>
        obtain ⟨x, hx⟩ := getLast_some h0
        rw [hx] at go
        simp only at go
        refine .inl ⟨rfl, _, at_last hx, ?_⟩
        show cmpD _ (.int w) (.int x) _
        rw [cmpD_i]
        by_cases hw : w < x
        · rw [if_pos hw] at go
          exact .inr ⟨by rw [decide_eq_true hw], hlen, by simpa [dInts] using go⟩
        · rw [if_neg hw] at go
          exact .inl ⟨by rw [decide_eq_false hw], go⟩
theorem fillStep_mem {acc : List Int} {w y : Int} (h : y ∈ fillStep acc w) : y ∈ acc ∨ y = w ∨ y = w + 1 := by
  unfold fillStep at h
  split at h
  · rcases List.mem_append.mp h with q | q
    · exact .inl q
    · exact .inr (.inl (List.mem_singleton.mp q))
  · split at h
    · rcases List.mem_append.mp h with q | q
      · rcases List.mem_append.mp q with q | q
        · exact .inl q
        · exact .inr (.inr (List.mem_singleton.mp q))
      · exact .inr (.inl (List.mem_singleton.mp q))
    · rcases List.mem_append.mp h with q | q
      · exact .inl q
      · exact .inr (.inl (List.mem_singleton.mp q))
theorem fill_go_mem : ∀ (l acc : List Int) (y : Int), y ∈ l.foldl fillStep acc → y ∈ acc ∨ y ∈ l ∨ y - 1 ∈ l
  | [], acc, y, h => .inl h
  | w :: l, acc, y, h => by
    rcases fill_go_mem l _ y h with q | q | q
    · rcases fillStep_mem q with q | rfl | rfl
      · exact .inl q
      · exact .inr (.inl List.mem_cons_self)
      · exact .inr (.inr (by simp))
    · exact .inr (.inl (List.mem_cons_of_mem _ q))
    · exact .inr (.inr (List.mem_cons_of_mem _ q))
theorem fillStep_len (acc : List Int) (w : Int) : (fillStep acc w).length ≤ acc.length + 2 := by
  unfold fillStep
  split
  · simp
  · split
    · simp
    · simp
theorem fill_go_len : ∀ (l acc : List Int), (l.foldl fillStep acc).length ≤ acc.length + 2 * l.length
  | [], acc => by simp
  | w :: l, acc => by
    have := fill_go_len l (fillStep acc w)
    have := fillStep_len acc w
    rw [List.foldl_cons, List.length_cons]
    omega
theorem fill_snoc (l : List Int) (w : Int) : (l ++ [w]).foldl fillStep [] = fillStep (l.foldl fillStep []) w := by rw [List.foldl_append]; rfl
theorem effL_ok {l : List Int} (h : okI l) : (effL l).length ≤ 2 * l.length + 1 ∧ ∀ w ∈ effL l, w.natAbs < 10 ^ 39 := by
  unfold effL
  split
  · simp
  · split
    · exact ⟨by simp, fun w hw => by rw [List.mem_singleton.mp hw]; decide⟩
    · refine ⟨?_, fun w hw => ?_⟩
      · have := fill_go_len (mins l) []
        have := mins_len l
        simp at *
        omega
      · rcases fill_go_mem (mins l) [] w hw with q | q | q
        · cases q
        · have := h.2 w (mins_mem q); omega
        · have := h.2 _ (mins_mem q); omega
theorem law_effect_of {ds : List Dt} {g Q E} (h : sp_effect_of ds g Q E) : w_effect_of { nx := fun _ g => Q .non g, rt := Q, ex := fun c d _ g => E c d g } (startE N_effect_of ds) g := by
  obtain ⟨l, rfl, ok, k⟩ := h
  simp [w_effect_of, wSeq, wIfS, wTest, wOp, wRg, wRgSet, wC, wVar, wSet, wRet, wFnR, wFn, wFnK, wCons, wNil, wLst, wCall, wM1, wNext, exE, Rg.get, Rg.put, startE, addD_i, addD_s, addD_l, eqD_i, neD_i, subD_i, mulD_i, mulD_s, mulD_l, modD_i, fdivD_i, powD_i, cmpD_i, ixD_l, ixD_k, ixD_t, ixD_s, minD_i, maxD_i, absD_i, lenD_l, lenD_k, lenD_t, lenD_s, strD_i, intD_i, intD_b, listD_l, listD_t, reprD_d, wSl, slD_l, slD_k, slD_s, wONone, wOSome, wItems, wRng1, bName, wTup, wIf, wUnp, bTup_t, bCons_c, bNil_n, at_sep, ite_str, wPar_c, wLc, wipeE, wFor, wEnum, pick, wOr, wAnd, wNot, wDrop, wAug, wApp, wExt, wAppIx, wPar2, wPar3, wZip, wSigns, wAndV, wOrV, wNotV, wUn, negD, wLc2, lc2Go, Option.some.injEq, exists_eq_left', wRetO, wLcCat, wGive, wTry, wClr, wIns, wSetIx, wMv, wMvF, wChain, wRev, intSD, wShut, wTryR, wForAppIx, wForApT, wAppIxT, wTupO, wIxO, isiD, bStar, wTryAs, wRaise, wFnV, wKit, wKits, wXv, wVarS, wForT, wForApp, wForPop, wAddO, wRngL, wSortR, wTupM, wSg, wSgSet, wSgNe, wSgPop, Sg.get, Sg.put, wWhile, wSortSet, wLstO, wListRg3, wStar, wFnA, wBg, wBgSet, wBgPop, wBgLen, wBgAug, wDic4, wIslower, wIsalpha, Bg.get, Bg.put, wStep, dLine_l, dLine_k, dLine_len, dLine_ix, dLine_sl, dLine_add, dLine_list, dPage_l, dPage_k, dPage_len, dPage_ix, dPage_sl, dPage_add, dPage_list, dInts_l, dInts_k, dInts_len, dInts_ix, dInts_sl, dInts_add, dInts_list, wLM, wVal, wTryEx, wIx1, N_effect_of]
  refine ⟨l, rfl, ok, ?_⟩
  have hm : ∀ y ∈ mins l, y.natAbs < 10 ^ 39 := fun y hy => by
    have := ok.2 y (mins_mem hy)
    omega
  have fin : (mins l).foldl fillStep [] = effL l → forGo (bName 3) (wSeq (wIfS (wAnd (wTest (wOp neD (wVar 2) (wLst wNil))) (wTest (wOp eqD (wOp ixD (wVar 2) (wUn negD (wC (.int 1)))) (wOp addD (wVar 3) (wC (.int 2)))))) (wApp 2 (wOp addD (wVar 3) (wC (.int 1)))) wNext) (wApp 2 (wVar 3))) { nx := wRetO 2 { nx := fun x g => Q Dt.non g, rt := Q, ex := fun c d x g => E c d g }, rt := Q, ex := fun c d x g => E c d g } ((mins l).map Dt.int) [some (dInts l), some (dInts (mins l)), some (.lst []), none] g := fun he => by
    refine for_inv (fun rest env g => ∃ (a b : List Int) (x3 : Option Dt), mins l = a ++ b ∧ rest = b.map Dt.int ∧ env = [some (dInts l), some (dInts (mins l)), some (dInts (a.foldl fillStep [])), x3]) ?_ ?_ _ _ _ ⟨[], mins l, none, rfl, rfl, rfl⟩
    · rintro env g ⟨a, b, x2, e, e2, rfl⟩
      cases b with
      | cons _ _ => cases e2
      | nil =>
        rw [List.append_nil] at e
        simp [wSeq, wIfS, wTest, wOp, wRg, wRgSet, wC, wVar, wSet, wRet, wFnR, wFn, wFnK, wCons, wNil, wLst, wCall, wM1, wNext, exE, Rg.get, Rg.put, startE, addD_i, addD_s, addD_l, eqD_i, neD_i, subD_i, mulD_i, mulD_s, mulD_l, modD_i, fdivD_i, powD_i, cmpD_i, ixD_l, ixD_k, ixD_t, ixD_s, minD_i, maxD_i, absD_i, lenD_l, lenD_k, lenD_t, lenD_s, strD_i, intD_i, intD_b, listD_l, listD_t, reprD_d, wSl, slD_l, slD_k, slD_s, wONone, wOSome, wItems, wRng1, bName, wTup, wIf, wUnp, bTup_t, bCons_c, bNil_n, at_sep, ite_str, wPar_c, wLc, wipeE, wFor, wEnum, pick, wOr, wAnd, wNot, wDrop, wAug, wApp, wExt, wAppIx, wPar2, wPar3, wZip, wSigns, wAndV, wOrV, wNotV, wUn, negD, wLc2, lc2Go, Option.some.injEq, exists_eq_left', wRetO, wLcCat, wGive, wTry, wClr, wIns, wSetIx, wMv, wMvF, wChain, wRev, intSD, wShut, wTryR, wForAppIx, wForApT, wAppIxT, wTupO, wIxO, isiD, bStar, wTryAs, wRaise, wFnV, wKit, wKits, wXv, wVarS, wForT, wForApp, wForPop, wAddO, wRngL, wSortR, wTupM, wSg, wSgSet, wSgNe, wSgPop, Sg.get, Sg.put, wWhile, wSortSet, wLstO, wListRg3, wStar, wFnA, wBg, wBgSet, wBgPop, wBgLen, wBgAug, wDic4, wIslower, wIsalpha, Bg.get, Bg.put, wStep, dLine_l, dLine_k, dLine_len, dLine_ix, dLine_sl, dLine_add, dLine_list, dPage_l, dPage_k, dPage_len, dPage_ix, dPage_sl, dPage_add, dPage_list, dInts_l, dInts_k, dInts_len, dInts_ix, dInts_sl, dInts_add, dInts_list, wLM, wVal, wTryEx, wIx1]
        rw [← e, he]
        exact k
    · rintro d rest env g K ⟨a, b, x3, e, e2, rfl⟩ kk
      cases b with
      | nil => cases e2
      | cons w b =>
        cases e2
        have ha : ∀ y ∈ a, y.natAbs < 10 ^ 38 := fun y hy => ok.2 y (mins_mem (by rw [e]; exact List.mem_append_left _ hy))
        have hacc : ∀ y ∈ a.foldl fillStep [], y.natAbs < 10 ^ 39 := fun y hy => by
          rcases fill_go_mem a [] y hy with q | q | q
          · cases q
          · have := ha _ q; omega
          · have := ha _ q; omega
        have hlen : (a.foldl fillStep []).length + 2 < sizeLine := by
          have := fill_go_len a []
          have := mins_len l
          have := ok.1
          rw [e, List.length_append] at *
          show _ < 2 ^ 24
          simp at *
          omega
        have go := kk [some (dInts l), some (dInts (mins l)), some (dInts (fillStep (a.foldl fillStep []) w)), some (.int w)] g ⟨a ++ [w], b, some (.int w), by rw [e]; simp, rfl, by rw [fill_snoc]⟩
        generalize a.foldl fillStep [] = acc at hacc hlen go ⊢
        unfold fillStep at go
        simp [wSeq, wIfS, wTest, wOp, wRg, wRgSet, wC, wVar, wSet, wRet, wFnR, wFn, wFnK, wCons, wNil, wLst, wCall, wM1, wNext, exE, Rg.get, Rg.put, startE, addD_i, addD_s, addD_l, eqD_i, neD_i, subD_i, mulD_i, mulD_s, mulD_l, modD_i, fdivD_i, powD_i, cmpD_i, ixD_l, ixD_k, ixD_t, ixD_s, minD_i, maxD_i, absD_i, lenD_l, lenD_k, lenD_t, lenD_s, strD_i, intD_i, intD_b, listD_l, listD_t, reprD_d, wSl, slD_l, slD_k, slD_s, wONone, wOSome, wItems, wRng1, bName, wTup, wIf, wUnp, bTup_t, bCons_c, bNil_n, at_sep, ite_str, wPar_c, wLc, wipeE, wFor, wEnum, pick, wOr, wAnd, wNot, wDrop, wAug, wApp, wExt, wAppIx, wPar2, wPar3, wZip, wSigns, wAndV, wOrV, wNotV, wUn, negD, wLc2, lc2Go, Option.some.injEq, exists_eq_left', wRetO, wLcCat, wGive, wTry, wClr, wIns, wSetIx, wMv, wMvF, wChain, wRev, intSD, wShut, wTryR, wForAppIx, wForApT, wAppIxT, wTupO, wIxO, isiD, bStar, wTryAs, wRaise, wFnV, wKit, wKits, wXv, wVarS, wForT, wForApp, wForPop, wAddO, wRngL, wSortR, wTupM, wSg, wSgSet, wSgNe, wSgPop, Sg.get, Sg.put, wWhile, wSortSet, wLstO, wListRg3, wStar, wFnA, wBg, wBgSet, wBgPop, wBgLen, wBgAug, wDic4, wIslower, wIsalpha, Bg.get, Bg.put, wStep, dLine_l, dLine_k, dLine_len, dLine_ix, dLine_sl, dLine_add, dLine_list, dPage_l, dPage_k, dPage_len, dPage_ix, dPage_sl, dPage_add, dPage_list, dInts_l, dInts_k, dInts_len, dInts_ix, dInts_sl, dInts_add, dInts_list, wLM, wVal, wTryEx, wIx1]
        refine ne_ints hacc ?_
        cases h0 : acc.isEmpty with
        | true =>
          have : acc = [] := List.isEmpty_iff.mp h0
          subst this
          exact .inl ⟨rfl, by show (0 : Nat) < sizeLine; decide, go⟩
        | false =>
          obtain ⟨x, hx⟩ := getLast_some h0
          rw [hx] at go
          simp only at go
          refine .inr ⟨rfl, _, at_last hx, ?_⟩
          show eqD (.int x) (.int (w + 2)) _
          rw [eqD_i]
          by_cases hw : x = w + 2
          · rw [if_pos hw] at go
            exact .inr ⟨by rw [hw]; simp, by omega, by omega, by simpa [dInts] using go⟩
          · rw [if_neg hw] at go
            exact .inl ⟨by rw [beq_eq_false_iff_ne.mpr hw], by omega, by simpa [dInts] using go⟩
  show neD (dInts (mins l)) (.lst []) _
  refine ne_ints hm ?_
  cases h0 : (mins l).isEmpty with
  | true =>
    have h1 : mins l = [] := List.isEmpty_iff.mp h0
    refine .inl ⟨rfl, .inl ⟨_, rfl, fin ?_⟩⟩
    unfold effL
    rw [h1]
    rfl
  | false =>
    obtain ⟨x, hx⟩ := getLast_some h0
    refine .inr ⟨rfl, _, at_last hx, ?_⟩
    show cmpD _ (.int x) (.int 2) _
    rw [cmpD_i]
    have he : effL l = if x ≤ 2 then [2] else (mins l).foldl fillStep [] := by unfold effL; rw [hx]
    by_cases hw : x ≤ 2
    · rw [if_pos hw] at he
      exact .inr ⟨by rw [decide_eq_true hw], by decide, by rw [he] at k; exact k⟩
    · rw [if_neg hw] at he
      exact .inl ⟨by rw [decide_eq_false hw], .inl ⟨_, rfl, fin he.symm⟩⟩
theorem FitL.klst {k W : Nat} {ds : List Dt} (h : FitL k W ds) : Fit (k + 1) W (.klst ds) where
  pl := h.pl
  cl := by simp [Dt.py, PyData.canLay0, h.cl]
  dp := by simp only [Dt.py, PyData.depth]; have := h.dp; omega
  sw := by simp [Dt.py, PyData.showable, h.sw]
  ls := by simp [Dt.py, PyData.leavesShort, h.ls]
  wt := by simp only [Dt.py, PyData.weight]; exact h.wt
theorem eqv_ints : ∀ a b : List Int, PyData.eqv (dInts a).py (dInts b).py = decide (a = b)
  | [], [] => by simp [dInts, Dt.py, pyL, PyData.eqv, PyData.eqvAll]
  | [], _ :: _ => by simp [dInts, Dt.py, pyL, PyData.eqv, PyData.eqvAll]
  | _ :: _, [] => by simp [dInts, Dt.py, pyL, PyData.eqv, PyData.eqvAll]
  | x :: a, y :: b => by
    have ih := eqv_ints a b
    simp only [dInts, Dt.py, PyData.eqv] at ih
    simp only [dInts, List.map_cons, Dt.py, pyL, PyData.eqv, PyData.eqvAll]
    rw [ih]
    by_cases h : x = y
    · subst h; simp
    · simp [h]
end Vl

/-! VQ: effects by their members; the effect as the laws k17 to k27 find it. -/
namespace Vl
open PySem L2
abbrev SD (l : List Int) : Prop := l.Pairwise (· > ·)
theorem sd_ext : ∀ {a b : List Int}, SD a → SD b → (∀ y, y ∈ a ↔ y ∈ b) → a = b
  | [], [], _, _, _ => rfl
  | [], y :: b, _, _, h => absurd ((h y).mpr List.mem_cons_self) (by simp)
  | x :: a, [], _, _, h => absurd ((h x).mp List.mem_cons_self) (by simp)
  | x :: a, y :: b, ha, hb, h => by
    have ha' := List.pairwise_cons.mp ha
    have hb' := List.pairwise_cons.mp hb
    have e : x = y := by
      rcases List.mem_cons.mp ((h x).mp List.mem_cons_self) with q | q
      · exact q
      · rcases List.mem_cons.mp ((h y).mpr List.mem_cons_self) with q2 | q2
        · exact q2.symm
        · have := hb'.1 x q; have := ha'.1 y q2; omega
    subst e
    have : a = b := sd_ext ha'.2 hb'.2 fun z => by
      have hz := h z
      constructor
      · intro q
        rcases List.mem_cons.mp (hz.mp (List.mem_cons_of_mem _ q)) with r | r
        · have := ha'.1 z q; omega
        · exact r
      · intro q
        rcases List.mem_cons.mp (hz.mpr (List.mem_cons_of_mem _ q)) with r | r
        · have := hb'.1 z q; omega
        · exact r
    rw [this]
theorem sd_snoc {l : List Int} {w : Int} : SD (l ++ [w]) ↔ SD l ∧ ∀ x ∈ l, w < x := by
  unfold SD
  rw [List.pairwise_append]
  constructor
  · rintro ⟨h1, _, h3⟩
    exact ⟨h1, fun x hx => h3 x hx w (by simp)⟩
  · rintro ⟨h1, h2⟩
    exact ⟨h1, by simp, fun a ha b hb => by rw [List.mem_singleton.mp hb]; exact h2 a ha⟩
theorem sd_last {l : List Int} {x : Int} (h : SD l) (hl : l.getLast? = some x) : ∀ y ∈ l, x ≤ y := by
  intro y hy
  obtain ⟨a, rfl⟩ : ∃ a, l = a ++ [x] := by
    have := List.getLast?_eq_some_iff.mp hl
    exact this
  rcases List.mem_append.mp hy with q | q
  · have := (sd_snoc.mp h).2 y q; omega
  · rw [List.mem_singleton.mp q]; exact Int.le_refl _
theorem last_mem {α : Type} {l : List α} {x : α} (hl : l.getLast? = some x) : x ∈ l := by
  obtain ⟨a, rfl⟩ := List.getLast?_eq_some_iff.mp hl
  simp
theorem sd_nodup {l : List Int} (h : SD l) : l.Nodup := h.imp fun q => by omega
theorem none_nil {α : Type} {l : List α} (h : l.getLast? = none) : l = [] := List.getLast?_eq_none_iff.mp h
theorem snoc_ind {α : Type} {P : List α → Prop} (h0 : P []) (hs : ∀ l x, P l → P (l ++ [x])) (l : List α) : P l := by
  have : ∀ r : List α, P r.reverse := by
    intro r
    induction r with
    | nil => exact h0
    | cons a r ih => rw [List.reverse_cons]; exact hs _ _ ih
  have := this l.reverse
  rwa [List.reverse_reverse] at this
theorem minStep_sd {acc : List Int} {w : Int} (h : SD acc) : SD (minStep acc w) := by
  unfold minStep
  cases hl : acc.getLast? with
  | none => rw [none_nil hl]; simp [SD]
  | some x =>
    simp only
    by_cases hw : w < x
    · rw [if_pos hw]
      exact sd_snoc.mpr ⟨h, fun y hy => by have := sd_last h hl y hy; omega⟩
    · rw [if_neg hw]; exact h
theorem mins_sd (l : List Int) : SD (mins l) := by
  induction l using snoc_ind with
  | h0 => exact List.Pairwise.nil
  | hs l w ih => rw [mins_snoc]; exact minStep_sd ih
/-- the last of the minima is the least of all -/
theorem mins_low {l : List Int} {y : Int} (hy : y ∈ l) : ∃ x, (mins l).getLast? = some x ∧ x ≤ y := by
  induction l using snoc_ind with
  | h0 => cases hy
  | hs l w ih =>
    rw [mins_snoc]
    unfold minStep
    cases hl : (mins l).getLast? with
    | none =>
      simp only
      rcases List.mem_append.mp hy with q | q
      · obtain ⟨x, hx, _⟩ := ih q
        rw [hl] at hx; cases hx
      · rw [List.mem_singleton.mp q]
        exact ⟨w, by simp, Int.le_refl _⟩
    | some x =>
      simp only
      by_cases hw : w < x
      · rw [if_pos hw]
        refine ⟨w, by simp, ?_⟩
        rcases List.mem_append.mp hy with q | q
        · obtain ⟨x', hx, h2⟩ := ih q
          rw [hl] at hx; cases hx; omega
        · rw [List.mem_singleton.mp q]; exact Int.le_refl _
      · rw [if_neg hw]
        refine ⟨x, hl, ?_⟩
        rcases List.mem_append.mp hy with q | q
        · obtain ⟨x', hx, h2⟩ := ih q
          rw [hl] at hx; cases hx; exact h2
        · rw [List.mem_singleton.mp q]; omega
theorem mins_new {l : List Int} {w : Int} (h : ∀ x ∈ l, w < x) : mins (l ++ [w]) = mins l ++ [w] := by
  rw [mins_snoc]
  unfold minStep
  cases hl : (mins l).getLast? with
  | none => rfl
  | some x =>
    simp only
    rw [if_pos (h x (mins_mem (last_mem hl)))]
theorem mins_old {l : List Int} {w x : Int} (hx : x ∈ l) (h : x ≤ w) : mins (l ++ [w]) = mins l := by
  rw [mins_snoc]
  unfold minStep
  obtain ⟨z, hz, h2⟩ := mins_low hx
  rw [hz]
  simp only
  rw [if_neg (by omega)]
theorem mins_id {l : List Int} (h : SD l) : mins l = l := by
  induction l using snoc_ind with
  | h0 => rfl
  | hs l w ih =>
    have := sd_snoc.mp h
    rw [mins_new this.2, ih this.1]
theorem mins_mins (l : List Int) : mins (mins l) = mins l := mins_id (mins_sd l)
theorem mins_nil {l : List Int} (h : mins l = []) : l = [] := by
  cases l with
  | nil => rfl
  | cons a r =>
    obtain ⟨x, hx, _⟩ := mins_low (l := a :: r) List.mem_cons_self
    rw [h] at hx; cases hx
theorem effL_mins (l : List Int) : effL (mins l) = effL l := by unfold effL; rw [mins_mins]
def fillL (m : List Int) : List Int := m.foldl fillStep []
theorem fillL_snoc (m : List Int) (w : Int) : fillL (m ++ [w]) = fillStep (fillL m) w := fill_snoc m w
theorem fill_last (m : List Int) : (fillL m).getLast? = m.getLast? := by
  induction m using snoc_ind with
  | h0 => rfl
  | hs l w ih =>
    rw [fillL_snoc]
    unfold fillStep
    split
    · simp
    · split <;> simp
theorem fill_sd {m : List Int} (h : SD m) : SD (fillL m) := by
  induction m using snoc_ind with
  | h0 => exact List.Pairwise.nil
  | hs l w ih =>
    have h' := sd_snoc.mp h
    have ih := ih h'.1
    rw [fillL_snoc]
    unfold fillStep
    cases hl : (fillL l).getLast? with
    | none => rw [none_nil hl]; simp [SD]
    | some x =>
      simp only
      have hx : x ∈ l := last_mem (by rw [← fill_last]; exact hl)
      have hw := h'.2 x hx
      have hlow := sd_last ih hl
      by_cases he : x = w + 2
      · rw [if_pos he]
        refine sd_snoc.mpr ⟨sd_snoc.mpr ⟨ih, fun y hy => by have := hlow y hy; omega⟩, fun y hy => ?_⟩
        rcases List.mem_append.mp hy with q | q
        · have := hlow y q; omega
        · rw [List.mem_singleton.mp q]; omega
      · rw [if_neg he]
        exact sd_snoc.mpr ⟨ih, fun y hy => by have := hlow y hy; omega⟩
theorem fill_mem {m : List Int} (h : SD m) (y : Int) : y ∈ fillL m ↔ y ∈ m ∨ (y + 1 ∈ m ∧ y - 1 ∈ m) := by
  induction m using snoc_ind with
  | h0 => simp [fillL]
  | hs l w ih =>
    have h' := sd_snoc.mp h
    have ih := ih h'.1
    rw [fillL_snoc]
    unfold fillStep
    have big : ∀ z, z ≤ w → z ∉ l := fun z hz q => by have := h'.2 z q; omega
    cases hl : (fillL l).getLast? with
    | none =>
      have : l = [] := none_nil (by rw [← fill_last]; exact hl)
      subst this
      simp [fillL]
      omega
    | some x =>
      simp only
      have hl2 : l.getLast? = some x := by rw [← fill_last]; exact hl
      have hx : x ∈ l := last_mem hl2
      have hlow := sd_last h'.1 hl2
      have hw := h'.2 x hx
      by_cases he : x = w + 2
      · rw [if_pos he]
        simp only [List.mem_append, List.mem_singleton]
        rw [ih]
        constructor
        · rintro ((q | q) | q)
          · rcases q with q | ⟨q1, q2⟩
            · exact .inl (.inl q)
            · exact .inr ⟨.inl q1, .inl q2⟩
          · exact .inr ⟨.inl (by rw [q, show w + 1 + 1 = x by omega]; exact hx), .inr (by omega)⟩
          · exact .inl (.inr q)
        · rintro ((q | q) | ⟨q1 | q1, q2 | q2⟩)
          · exact .inl (.inl (.inl q))
          · exact .inr q
          · exact .inl (.inl (.inr ⟨q1, q2⟩))
          · exact .inl (.inr (by omega))
          · exact absurd q2 (big _ (by omega))
          · omega
      · rw [if_neg he]
        simp only [List.mem_append, List.mem_singleton]
        rw [ih]
        constructor
        · rintro (q | q)
          · rcases q with q | ⟨q1, q2⟩
            · exact .inl (.inl q)
            · exact .inr ⟨.inl q1, .inl q2⟩
          · exact .inl (.inr q)
        · rintro ((q | q) | ⟨q1 | q1, q2 | q2⟩)
          · exact .inl (.inl q)
          · exact .inr q
          · exact .inl (.inr ⟨q1, q2⟩)
          · have := hlow _ q1
            have e : x = w + 1 := by omega
            exact .inl (.inl (by rw [show y = x by omega]; exact hx))
          · exact absurd q2 (big _ (by omega))
          · omega
theorem effL_eq (l : List Int) : effL l = match (mins l).getLast? with
    | none => []
    | some x => if x ≤ 2 then [2] else fillL (mins l) := rfl
theorem effL_low {l : List Int} {x : Int} (h : (mins l).getLast? = some x) (h2 : x ≤ 2) : effL l = [2] := by rw [effL_eq, h]; simp [h2]
theorem effL_fill {l : List Int} (h : ∀ x, (mins l).getLast? = some x → ¬ x ≤ 2) : effL l = fillL (mins l) := by
  rw [effL_eq]
  cases hl : (mins l).getLast? with
  | none => rw [none_nil hl]; rfl
  | some x => simp only; rw [if_neg (h x hl)]
/-- the members that are found: minima, and what is between two -/
theorem effL_of {m r : List Int} {l : List Int} (hm : m = mins l) (hx : ∀ x, m.getLast? = some x → ¬ x ≤ 2) (hr : SD r) (h : ∀ y, y ∈ r ↔ y ∈ m ∨ (y + 1 ∈ m ∧ y - 1 ∈ m)) : r = effL l := by
  subst hm
  rw [effL_fill hx]
  exact sd_ext hr (fill_sd (mins_sd l)) fun y => by rw [h, fill_mem (mins_sd l)]
theorem sd_of_ge {l : List Int} (h : l.Pairwise (· ≥ ·)) (nd : l.Nodup) : SD l := by
  have := List.Pairwise.and h nd
  exact this.imp fun ⟨a, b⟩ => by omega
theorem effL_len (l : List Int) : (effL l).length ≤ 2 * l.length + 1 := by
  rw [effL_eq]
  split
  · simp
  · split
    · simp
    · have := fill_go_len (mins l) []
      have := mins_len l
      unfold fillL
      simp at *
      omega
theorem effL_effL (l : List Int) : effL (effL l) = effL l := by
  cases hl : (mins l).getLast? with
  | none =>
    have : effL l = [] := by rw [effL_eq, hl]
    rw [this]; rfl
  | some x =>
    by_cases h2 : x ≤ 2
    · rw [effL_low hl h2]; rfl
    · have e : effL l = fillL (mins l) := effL_fill fun y hy => by rw [hl] at hy; cases hy; exact h2
      have sd := fill_sd (mins_sd l)
      have hm := fill_mem (mins_sd l)
      rw [e, effL_fill (l := fillL (mins l)) fun y hy => by rw [mins_id sd, fill_last, hl] at hy; cases hy; exact h2, mins_id sd]
      refine sd_ext (fill_sd sd) sd fun y => ?_
      rw [fill_mem sd]
      constructor
      · rintro (q | ⟨q1, q2⟩)
        · exact q
        · rcases (hm _).mp q1 with a | ⟨_, a⟩
          · rcases (hm _).mp q2 with b | ⟨b, _⟩
            · exact (hm y).mpr (.inr ⟨a, b⟩)
            · rw [show y - 1 + 1 = y by omega] at b
              exact (hm y).mpr (.inl b)
          · rw [show y + 1 - 1 = y by omega] at a
            exact (hm y).mpr (.inl a)
      · exact .inl
/-- where the members of an effect lie -/
theorem effL_in {l : List Int} {B : Int} (h : ∀ w ∈ l, 1 ≤ w ∧ w < B) (hB : 2 ≤ B) : ∀ w ∈ effL l, 2 ≤ w ∧ w ≤ B := by
  intro w hw
  cases hl : (mins l).getLast? with
  | none =>
    rw [effL_eq, hl] at hw
    cases hw
  | some x =>
    by_cases h2 : x ≤ 2
    · rw [effL_low hl h2] at hw
      rw [List.mem_singleton.mp hw]
      omega
    · have e : effL l = fillL (mins l) := effL_fill fun y hy => by rw [hl] at hy; cases hy; exact h2
      have low := sd_last (mins_sd l) hl
      rw [e] at hw
      rcases (fill_mem (mins_sd l) w).mp hw with q | ⟨q1, q2⟩
      · have := low _ q; have := h _ (mins_mem q); omega
      · have := low _ q2; have := h _ (mins_mem q1); omega
theorem mins_app (a b : List Int) : mins (a ++ b) = b.foldl minStep (mins a) := by unfold mins; rw [List.foldl_append]
theorem mins_cover {a : List Int} : ∀ b : List Int, (∀ y ∈ b, ∃ x ∈ a, x ≤ y) → mins (a ++ b) = mins a := by
  intro b
  induction b using snoc_ind with
  | h0 => intro _; rw [List.append_nil]
  | hs b w ih =>
    intro h
    obtain ⟨x, hx, hw⟩ := h w (by simp)
    rw [← List.append_assoc, mins_old (List.mem_append_left _ hx) hw]
    exact ih fun y hy => h y (List.mem_append_left _ hy)
/-- what makes an effect: the minima alone -/
theorem effL_congr {a b : List Int} (h : mins a = mins b) : effL a = effL b := by rw [← effL_mins a, ← effL_mins b, h]
theorem mins_front {a b : List Int} (h : mins a = mins b) (c : List Int) : mins (a ++ c) = mins (b ++ c) := by rw [mins_app, mins_app, h]
/-- the least one stands last in the effect -/
theorem effL_last {l : List Int} {x : Int} (hx : x ∈ l) (hm : ∀ y ∈ l, x ≤ y) (h2 : 2 < x) : (effL l).getLast? = some x := by
  obtain ⟨z, hz, hle⟩ := mins_low hx
  have := hm z (mins_mem (last_mem hz))
  have e : z = x := by omega
  subst e
  rw [effL_fill fun y hy => by rw [hz] at hy; cases hy; omega, fill_last]
  exact hz
theorem effL_two {l : List Int} {x : Int} (hx : x ∈ l) (h2 : x ≤ 2) : effL l = [2] := by
  obtain ⟨z, hz, hle⟩ := mins_low hx
  exact effL_low hz (by omega)
theorem effL_big {l : List Int} (h : ∀ x ∈ l, 2 < x) : effL l = fillL (mins l) := effL_fill fun y hy => by have := h y (mins_mem (last_mem hy)); omega
theorem effL_pos {l : List Int} (h : l ≠ []) : ∃ x, x ∈ effL l := by
  cases hl : (mins l).getLast? with
  | none => exact absurd (mins_nil (none_nil hl)) h
  | some x =>
    by_cases h2 : x ≤ 2
    · exact ⟨2, by rw [effL_low hl h2]; simp⟩
    · rw [effL_fill fun y hy => by rw [hl] at hy; cases hy; exact h2]
      exact ⟨x, (fill_mem (mins_sd l) x).mpr (.inl (last_mem hl))⟩
/-- the minima of two lists, one after the other -/
theorem mins_two {a : List Int} {x : Int} (hx : x ∈ a) (hm : ∀ y ∈ a, x ≤ y) (b : List Int) (y : Int) : y ∈ mins (a ++ b) ↔ y ∈ mins a ∨ (y ∈ mins b ∧ y < x) := by
  induction b using snoc_ind with
  | h0 => rw [List.append_nil]; simp [mins]
  | hs b w ih =>
    rw [← List.append_assoc]
    by_cases hw : ∀ z ∈ a ++ b, w < z
    · rw [mins_new hw, mins_new fun z hz => hw z (List.mem_append_right _ hz)]
      simp only [List.mem_append, List.mem_singleton]
      rw [ih]
      have := hw x (List.mem_append_left _ hx)
      constructor
      · rintro ((q | q) | q)
        · exact .inl q
        · exact .inr ⟨.inl q.1, q.2⟩
        · exact .inr ⟨.inr q, by omega⟩
      · rintro (q | ⟨q | q, q2⟩)
        · exact .inl (.inl q)
        · exact .inl (.inr ⟨q, q2⟩)
        · exact .inr q
    · obtain ⟨z, hz⟩ := Classical.not_forall.mp hw
      obtain ⟨hz, hzw⟩ := Classical.not_imp.mp hz
      rw [mins_old hz (by omega), ih]
      by_cases hb : ∀ z ∈ b, w < z
      · rw [mins_new hb]
        have hza : z ∈ a := (List.mem_append.mp hz).resolve_right fun q => hzw (hb z q)
        have := hm z hza
        simp only [List.mem_append, List.mem_singleton]
        constructor
        · rintro (q | q)
          · exact .inl q
          · exact .inr ⟨.inl q.1, q.2⟩
        · rintro (q | ⟨q | q, q2⟩)
          · exact .inl q
          · exact .inr ⟨q, q2⟩
          · omega
      · obtain ⟨v, hv⟩ := Classical.not_forall.mp hb
        obtain ⟨hv, hvw⟩ := Classical.not_imp.mp hv
        rw [mins_old hv (by omega)]
theorem least_of {a : List Int} (h : a ≠ []) : ∃ x, x ∈ a ∧ ∀ y ∈ a, x ≤ y := by
  cases hl : (mins a).getLast? with
  | none => exact absurd (mins_nil (none_nil hl)) h
  | some x =>
    refine ⟨x, mins_mem (last_mem hl), fun y hy => ?_⟩
    obtain ⟨z, hz, h2⟩ := mins_low hy
    rw [hl] at hz; cases hz; exact h2
/-- the effect of two lists is that of their effects -/
theorem effL_app (a b : List Int) : effL (effL a ++ effL b) = effL (a ++ b) := by
  have lo : ∀ l : List Int, (∃ x ∈ l, x ≤ 2) → 2 ∈ effL l := fun l ⟨x, hx, h⟩ => by rw [effL_two hx h]; simp
  by_cases h2 : ∃ x ∈ a ++ b, x ≤ 2
  · obtain ⟨x, hx, h⟩ := h2
    rw [effL_two hx h]
    rcases List.mem_append.mp hx with q | q
    · exact effL_two (List.mem_append_left _ (lo a ⟨x, q, h⟩)) (Int.le_refl _)
    · exact effL_two (List.mem_append_right _ (lo b ⟨x, q, h⟩)) (Int.le_refl _)
  have big : ∀ x ∈ a ++ b, 2 < x := fun x hx => Int.not_le.mp fun h => h2 ⟨x, hx, h⟩
  have ha : ∀ x ∈ a, 2 < x := fun x hx => big x (List.mem_append_left _ hx)
  have hb : ∀ x ∈ b, 2 < x := fun x hx => big x (List.mem_append_right _ hx)
  by_cases hn : a = []
  · subst hn
    rw [show effL [] = [] from rfl, List.nil_append, List.nil_append, effL_effL]
  obtain ⟨x, hx, hm⟩ := least_of hn
  have e1 := effL_big ha
  have e2 := effL_big hb
  have f1 := fill_mem (mins_sd a)
  have f2 := fill_mem (mins_sd b)
  have hxm : x ∈ mins a := by
    obtain ⟨z, hz, hle⟩ := mins_low hx
    have := hm z (mins_mem (last_mem hz))
    rw [show x = z by omega]
    exact last_mem hz
  have hx1 : x ∈ effL a := by rw [e1]; exact (f1 x).mpr (.inl hxm)
  have hm1 : ∀ y ∈ effL a, x ≤ y := fun y hy => by
    rw [e1] at hy
    rcases (f1 y).mp hy with q | ⟨_, q⟩
    · exact hm y (mins_mem q)
    · have := hm _ (mins_mem q); omega
  have bigE : ∀ y ∈ effL a ++ effL b, 2 < y := fun y hy => by
    rcases List.mem_append.mp hy with q | q
    · rw [e1] at q
      rcases (f1 y).mp q with q | ⟨_, q⟩
      · exact ha y (mins_mem q)
      · have := ha _ (mins_mem q); omega
    · rw [e2] at q
      rcases (f2 y).mp q with q | ⟨_, q⟩
      · exact hb y (mins_mem q)
      · have := hb _ (mins_mem q); omega
  rw [effL_big big, effL_big bigE]
  have S := mins_two hx hm b
  have T := mins_two hx1 hm1 (effL b)
  have sdE : ∀ l : List Int, (∀ x ∈ l, 2 < x) → mins (effL l) = effL l := fun l h => mins_id (by rw [effL_big h]; exact fill_sd (mins_sd l))
  rw [sdE a ha, sdE b hb, e1, e2] at T
  have FS := fill_mem (mins_sd (a ++ b))
  have FT := fill_mem (mins_sd (effL a ++ effL b))
  rw [e1, e2] at FT ⊢
  have sub : ∀ y, y ∈ mins (fillL (mins a) ++ fillL (mins b)) → y ∈ fillL (mins (a ++ b)) := fun y hy => by
    rcases (T y).mp hy with q | ⟨q, hlt⟩
    · rcases (f1 y).mp q with q | ⟨q1, q2⟩
      · exact (FS y).mpr (.inl ((S y).mpr (.inl q)))
      · exact (FS y).mpr (.inr ⟨(S _).mpr (.inl q1), (S _).mpr (.inl q2)⟩)
    · rcases (f2 y).mp q with q | ⟨q1, q2⟩
      · exact (FS y).mpr (.inl ((S y).mpr (.inr ⟨q, hlt⟩)))
      · refine (FS y).mpr (.inr ⟨?_, (S _).mpr (.inr ⟨q2, by omega⟩)⟩)
        by_cases h : y + 1 = x
        · rw [h]; exact (S x).mpr (.inl hxm)
        · exact (S _).mpr (.inr ⟨q1, by omega⟩)
  have sup : ∀ y, y ∈ mins (a ++ b) → y ∈ mins (fillL (mins a) ++ fillL (mins b)) := fun y hy => by
    rcases (S y).mp hy with q | ⟨q, hlt⟩
    · exact (T y).mpr (.inl ((f1 y).mpr (.inl q)))
    · exact (T y).mpr (.inr ⟨(f2 y).mpr (.inl q), hlt⟩)
  refine sd_ext (fill_sd (mins_sd _)) (fill_sd (mins_sd _)) fun y => ⟨fun hy => ?_, fun hy => ?_⟩
  · rcases (FT y).mp hy with q | ⟨q1, q2⟩
    · exact sub y q
    · have a1 := (FS _).mp (sub _ q1)
      have a2 := (FS _).mp (sub _ q2)
      refine (FS y).mpr ?_
      rcases a1 with a1 | ⟨_, a1⟩
      · rcases a2 with a2 | ⟨a2, _⟩
        · exact .inr ⟨a1, a2⟩
        · rw [show y - 1 + 1 = y by omega] at a2
          exact .inl a2
      · rw [show y + 1 - 1 = y by omega] at a1
        exact .inl a1
  · rcases (FS y).mp hy with q | ⟨q1, q2⟩
    · exact (FT y).mpr (.inl (sup y q))
    · exact (FT y).mpr (.inr ⟨sup _ q1, sup _ q2⟩)
end Vl

/-! VI: as VH, without the checks; the defs that fold, where nothing is raised; what they make may be written by who called. -/
namespace Vl
open PySem L2
/-! ### folding, in plain words -/
def isWb (z : Str) : Bool := !(z == "") && z.cps.toList.all fun c => decide (c ∈ (Str.ofString "abcdefghijklmnopqrstuvwxyz").cps.toList)
/-- a word of the program, of any length that is counted -/
def wd (z : Str) : Prop := 0 < z.length ∧ z.length ≤ sizeLine ∧ ∀ c ∈ z.cps.toList, 97 ≤ c ∧ c ≤ 122
def lenL (l : List Str) : Int := ((l.map fun z => (z.length : Int) + 1).sum) - 1
def flGo (w : Int) : List Str → List Str → List (List Str)
  | [], cur => [cur]
  | x :: xs, cur => if lenL (cur ++ [x]) ≤ w then flGo w xs (cur ++ [x]) else cur :: flGo w xs [x]
def foldLine (w : Int) : List Str → List (List Str)
  | [] => []
  | x :: xs => flGo w xs [x]
def foldP (w : Int) (p : List (List Str)) : List (List Str) := p.flatMap (foldLine w)
def foldW : List Int → List (List Str) → List (List Str)
  | [], p => p
  | w :: ws, p => foldW ws (foldP w p)
def okF (p : List (List Str)) : Prop := p.flatten.length ≤ 100000 ∧ ∀ l ∈ p, l ≠ [] ∧ ∀ z ∈ l, wd z
theorem wd_of {z : Str} {n : Nat} (h : isWord n z) (hn : n ≤ sizeLine) : wd z := ⟨h.1, Nat.le_trans h.2.1 hn, h.2.2⟩
theorem lenL_snoc (l : List Str) (z : Str) : lenL (l ++ [z]) = lenL l + z.length + 1 := by
  unfold lenL
  rw [List.map_append, List.sum_append]
  simp
  omega
theorem lenL_one (z : Str) : lenL [z] = z.length := by unfold lenL; simp
theorem lenL_ge (l : List Str) : -1 ≤ lenL l := by
  induction l with
  | nil => decide
  | cons z l ih => unfold lenL at ih ⊢; simp only [List.map_cons, List.sum_cons]; omega
theorem lenL_app (l m : List Str) : lenL l ≤ lenL (l ++ m) := by
  have := lenL_ge m
  unfold lenL at this ⊢
  rw [List.map_append, List.sum_append]
  omega
theorem flGo_flat (w : Int) : ∀ xs cur, (flGo w xs cur).flatten = cur ++ xs
  | [], cur => by simp [flGo]
  | x :: xs, cur => by
    unfold flGo
    split
    · rw [flGo_flat w xs]; simp
    · rw [List.flatten_cons, flGo_flat w xs]; simp
theorem foldLine_flat (w : Int) (l : List Str) : (foldLine w l).flatten = l := by
  cases l with
  | nil => rfl
  | cons x xs => exact flGo_flat w xs [x]
theorem flGo_ok (w : Int) : ∀ xs cur, cur ≠ [] → (1 < cur.length → lenL cur ≤ w) → ∀ p ∈ flGo w xs cur, p ≠ [] ∧ (1 < p.length → lenL p ≤ w)
  | [], cur, h, h2, p, hp => by
    rw [show flGo w [] cur = [cur] from rfl] at hp
    rw [List.mem_singleton.mp hp]; exact ⟨h, h2⟩
  | x :: xs, cur, h, h2, p, hp => by
    unfold flGo at hp
    split at hp
    · rename_i hc
      exact flGo_ok w xs _ (by simp) (fun _ => hc) p hp
    · rcases List.mem_cons.mp hp with rfl | hp
      · exact ⟨h, h2⟩
      · exact flGo_ok w xs [x] (by simp) (fun z => by simp at z) p hp
theorem foldLine_ok (w : Int) (l : List Str) : ∀ p ∈ foldLine w l, p ≠ [] ∧ (1 < p.length → lenL p ≤ w) := by
  cases l with
  | nil => intro p hp; cases hp
  | cons x xs => exact flGo_ok w xs [x] (by simp) (fun z => by simp at z)
theorem flGo_fits (w : Int) : ∀ xs cur, lenL (cur ++ xs) ≤ w → flGo w xs cur = [cur ++ xs]
  | [], cur, _ => by simp [flGo]
  | x :: xs, cur, h => by
    have e : cur ++ x :: xs = (cur ++ [x]) ++ xs := by simp
    rw [e] at h ⊢
    unfold flGo
    rw [if_pos (Int.le_trans (lenL_app (cur ++ [x]) xs) h), flGo_fits w xs _ h]
theorem foldLine_fits {w : Int} {l : List Str} (h0 : l ≠ []) (h : 1 < l.length → lenL l ≤ w) : foldLine w l = [l] := by
  cases l with
  | nil => exact absurd rfl h0
  | cons x xs =>
    cases xs with
    | nil => rfl
    | cons y ys => exact flGo_fits w (y :: ys) [x] (h (by simp))
theorem foldP_flat (w : Int) (p : List (List Str)) : (foldP w p).flatten = p.flatten := by
  unfold foldP
  induction p with
  | nil => rfl
  | cons l p ih => rw [List.flatMap_cons, List.flatten_append, ih, foldLine_flat, List.flatten_cons]
theorem mem_foldP {w : Int} {p : List (List Str)} {l : List Str} (h : l ∈ foldP w p) : l ≠ [] ∧ (1 < l.length → lenL l ≤ w) ∧ ∀ z ∈ l, ∃ m ∈ p, z ∈ m := by
  unfold foldP at h
  obtain ⟨m, hm, hl⟩ := List.mem_flatMap.mp h
  obtain ⟨h1, h2⟩ := foldLine_ok w m l hl
  refine ⟨h1, h2, fun z hz => ⟨m, hm, ?_⟩⟩
  rw [← foldLine_flat w m]
  exact List.mem_flatten.mpr ⟨l, hl, hz⟩
theorem okF_fold {w : Int} {p : List (List Str)} (h : okF p) : okF (foldP w p) := by
  refine ⟨by rw [foldP_flat]; exact h.1, fun l hl => ?_⟩
  obtain ⟨h1, _, h3⟩ := mem_foldP hl
  refine ⟨h1, fun z hz => ?_⟩
  obtain ⟨m, hm, hz'⟩ := h3 z hz
  exact (h.2 m hm).2 z hz'
theorem okF_len {p : List (List Str)} (h : ∀ l ∈ p, l ≠ []) : p.length ≤ p.flatten.length := by
  induction p with
  | nil => exact Nat.le_refl _
  | cons l p ih =>
    have := ih fun m hm => h m (List.mem_cons_of_mem _ hm)
    have := List.length_pos_iff.mpr (h l List.mem_cons_self)
    rw [List.flatten_cons, List.length_append, List.length_cons]
    omega
theorem okF_small {p : List (List Str)} (h : okF p) : p.length ≤ 100000 := Nat.le_trans (okF_len fun l hl => (h.2 l hl).1) h.1
theorem okF_line {p : List (List Str)} (h : okF p) {l : List Str} (hl : l ∈ p) : l.length ≤ 100000 := by
  refine Nat.le_trans ?_ h.1
  have : ∀ (p : List (List Str)), l ∈ p → l.length ≤ p.flatten.length := by
    intro p
    induction p with
    | nil => intro h; cases h
    | cons m p ih =>
      intro h
      rw [List.flatten_cons, List.length_append]
      rcases List.mem_cons.mp h with rfl | h
      · omega
      · have := ih h; omega
  exact this p hl
theorem okF_of {n m : Nat} {p : List (List Str)} (h : okPage n m p) (hn : n * m ≤ 100000) : okF p := by
  refine ⟨?_, fun l hl => ?_⟩
  · have : ∀ (p : List (List Str)), (∀ l ∈ p, l.length ≤ m) → p.flatten.length ≤ p.length * m := by
      intro p
      induction p with
      | nil => intro _; simp
      | cons l p ih =>
        intro h
        have := ih fun x hx => h x (List.mem_cons_of_mem _ hx)
        have := h l List.mem_cons_self
        rw [List.flatten_cons, List.length_append, List.length_cons, Nat.add_mul]
        omega
    have h1 := this p fun l hl => (h.2 l hl).2.1
    exact Nat.le_trans h1 (Nat.le_trans (Nat.mul_le_mul_right _ h.1) hn)
  · obtain ⟨h1, h2, h3⟩ := h.2 l hl
    exact ⟨List.length_pos_iff.mp h1, fun z hz => wd_of (h3 z hz) (by decide)⟩
def sp_is_word : Spec Unit := fun ds _ Q _ => ∃ z : Str, ds = [.str z] ∧ z.length ≤ sizeLine ∧ Q (.bl (isWb z)) ()
def sp_folded_line : Spec Unit := fun ds _ Q _ => ∃ (l : List Str) (w : Int), ds = [dLine l, .int w] ∧ l.length ≤ 100000 ∧ (∀ z ∈ l, wd z) ∧ Q (dPage (foldLine w l)) ()
def sp_folded : Spec Unit := fun ds _ Q _ => ∃ (p : List (List Str)) (ws : List Int), ds = [dPage p, dInts ws] ∧ okF p ∧ Q (dPage (foldW ws p)) ()
theorem isWb_of {z : Str} (h : wd z) : isWb z = true := by
  unfold isWb
  have e : (z == ("" : Str)) = false := by
    cases hz : z == ("" : Str) with
    | false => rfl
    | true =>
      have e0 : z = ("" : Str) := by simpa using hz
      have := h.1
      rw [e0] at this
      exact absurd this (by decide +kernel)
  rw [e]
  simp only [Bool.not_false, Bool.true_and, List.all_eq_true, decide_eq_true_eq]
  intro c hc
  have hcc := h.2.2 c hc
  have e2 : (Str.ofString "abcdefghijklmnopqrstuvwxyz").cps.toList = (List.range 26).map (· + 97) := by decide +kernel
  rw [e2, List.mem_map]
  exact ⟨c - 97, by rw [List.mem_range]; omega, by omega⟩
theorem allD_m {bs : List Bool} {q : Dt → Prop} (h : q (.bl (bs.all id))) : allD [.lst (bs.map .bl)] q := ⟨bs, rfl, h⟩
theorem sumD_m {ns : List Int} {q : Dt → Prop} (h : q (.int ns.sum)) : sumD [.lst (ns.map .int)] q := ⟨ns, rfl, h⟩
theorem in_sign {c : Nat} {z : Str} {q : Dt → Prop} (h : q (.bl (decide (c ∈ z.cps.toList)))) : inDat false (.str ⟨#[c]⟩) (.str z) q := .inr (.inr ⟨c, z, rfl, rfl, h⟩)
theorem fit_wd {z : Str} (h : wd z) : Fit 0 sizeLine (.str z) := Fit.str (fun c hc => by have := (h.2.2 c hc).2; omega) h.2.1
theorem fit_lineF {l : List Str} (h : ∀ z ∈ l, wd z) : Fit 1 (l.length * (sizeLine + 1)) (dLine l) := by
  have := Fit.list (ds := l.map .str) (k := 0) (W := sizeLine) fun d hd => by
    obtain ⟨i, hi, rfl⟩ := List.mem_map.mp hd
    exact fit_wd (h i hi)
  rwa [List.length_map] at this
theorem fit_pageF {p : List (List Str)} (h : okF p) : Fit 2 (p.length * (100000 * (sizeLine + 1) + 1)) (dPage p) := by
  have := Fit.list (ds := p.map dLine) (k := 1) (W := 100000 * (sizeLine + 1)) fun d hd => by
    obtain ⟨l, hl, rfl⟩ := List.mem_map.mp hd
    exact (fit_lineF (h.2 l hl).2).mono (Nat.le_refl _) (Nat.mul_le_mul_right _ (okF_line h hl))
  rwa [List.length_map] at this
def w_is_word : WS Unit :=
 (wRet (wAndV (wOp neD (wVar 0) (wC (.str ""))) (wCall allD (wCons (wLc [1] (wSigns (wVar 0)) (bName 1) wYes (wOp (inDat false) (wVar 1) (wC (.str "abcdefghijklmnopqrstuvwxyz")))) wNil))))
def w_folded_line : WS Unit :=
 (wSeq (wSet 2 (wLst wNil))
 (wSeq (wSet 3 (wOp addD (wVar 1) (wC (.int 1))))
 (wSeq (wFor (wItems (wVar 0)) (bName 4)
 (wIfS (wTest (wOp (cmpD fun i j => decide (i ≤ j)) (wOp addD (wVar 3) (wCall lenD (wCons (wVar 4) wNil))) (wVar 1)))
 (wSeq (wAppIx 2 (wUn negD (wC (.int 1))) (wVar 4))
 (wAug 3 (fun i j => i + j) (wOp addD (wCall lenD (wCons (wVar 4) wNil)) (wC (.int 1)))))
 (wSeq (wApp 2 (wLst (wCons (wVar 4) wNil)))
 (wSet 3 (wOp addD (wCall lenD (wCons (wVar 4) wNil)) (wC (.int 1)))))))
 (wRetO 2))))
def w_folded : WS Unit :=
 (wSeq (wSet 2 (wLc [4] (wItems (wVar 0)) (bName 4) wYes (wCall listD (wCons (wVar 4) wNil))))
 (wSeq (wFor (wItems (wVar 1)) (bName 3)
 (wSet 2 (wLcCat [4, 5] 5 (wItems (wVar 2)) (bName 4) (wFn sp_folded_line (wCons (wVar 4) (wCons (wVar 3) wNil))))))
 (wRetO 2)))
abbrev N_is_word : List Str := ["text", "sign"]
abbrev N_folded_line : List Str := ["line", "width", "found", "used", "word"]
abbrev N_folded : List Str := ["page", "widths", "found", "width", "line", "part"]
theorem len_is_word {ds : List Dt} {g Q E} (h : sp_is_word ds g Q E) : ds.length = 1 := by obtain ⟨_, rfl, _⟩ := h; rfl
theorem len_folded_line {ds : List Dt} {g Q E} (h : sp_folded_line ds g Q E) : ds.length = 2 := by obtain ⟨_, _, rfl, _⟩ := h; rfl
theorem len_folded {ds : List Dt} {g Q E} (h : sp_folded ds g Q E) : ds.length = 2 := by obtain ⟨_, _, rfl, _⟩ := h; rfl
theorem law_is_word {ds : List Dt} {g Q E} (h : sp_is_word ds g Q E) : w_is_word { nx := fun _ g => Q .non g, rt := Q, ex := fun c d _ g => E c d g } (startE N_is_word ds) g := by
  obtain ⟨z, rfl, hl, k⟩ := h
  simp [w_is_word, wSeq, wIfS, wTest, wOp, wRg, wRgSet, wC, wVar, wSet, wRet, wFnR, wFn, wFnK, wCons, wNil, wLst, wCall, wM1, wNext, exE, Rg.get, Rg.put, startE, addD_i, addD_s, addD_l, eqD_i, neD_i, subD_i, mulD_i, mulD_s, mulD_l, modD_i, fdivD_i, powD_i, cmpD_i, ixD_l, ixD_k, ixD_t, ixD_s, minD_i, maxD_i, absD_i, lenD_l, lenD_k, lenD_t, lenD_s, strD_i, intD_i, intD_b, listD_l, listD_t, reprD_d, wSl, slD_l, slD_k, slD_s, wONone, wOSome, wItems, wRng1, bName, wTup, wIf, wUnp, bTup_t, bCons_c, bNil_n, at_sep, ite_str, wPar_c, wLc, wipeE, wFor, wEnum, pick, wOr, wAnd, wNot, wDrop, wAug, wApp, wExt, wAppIx, wPar2, wPar3, wZip, wSigns, wAndV, wOrV, wNotV, wUn, negD, wLc2, lc2Go, Option.some.injEq, exists_eq_left', wRetO, wLcCat, wGive, wTry, wClr, wIns, wSetIx, wMv, wMvF, wChain, wRev, intSD, wShut, wTryR, wForAppIx, wForApT, wAppIxT, wTupO, wIxO, isiD, bStar, wTryAs, wRaise, wFnV, wKit, wKits, wXv, wVarS, wForT, wForApp, wForPop, wAddO, wRngL, wSortR, wTupM, wSg, wSgSet, wSgNe, wSgPop, Sg.get, Sg.put, wWhile, wSortSet, wLstO, wListRg3, wStar, wFnA, wBg, wBgSet, wBgPop, wBgLen, wBgAug, wDic4, wIslower, wIsalpha, Bg.get, Bg.put, wStep, N_is_word]
  refine neD_s ?_
  cases hz : z == ("" : Str) with
  | false =>
    refine .inr ⟨rfl, ?_⟩
    refine lc_of z.cps.toList (fun c => .str ⟨#[c]⟩) (fun c => .bl (decide (c ∈ (Str.ofString "abcdefghijklmnopqrstuvwxyz").cps.toList))) _ _ (by rw [Array.length_toList]; exact hl) ?_ ?_
    · intro c hc K kk
      simp [wSeq, wIfS, wTest, wOp, wRg, wRgSet, wC, wVar, wSet, wRet, wFnR, wFn, wFnK, wCons, wNil, wLst, wCall, wM1, wNext, exE, Rg.get, Rg.put, startE, addD_i, addD_s, addD_l, eqD_i, neD_i, subD_i, mulD_i, mulD_s, mulD_l, modD_i, fdivD_i, powD_i, cmpD_i, ixD_l, ixD_k, ixD_t, ixD_s, minD_i, maxD_i, absD_i, lenD_l, lenD_k, lenD_t, lenD_s, strD_i, intD_i, intD_b, listD_l, listD_t, reprD_d, wSl, slD_l, slD_k, slD_s, wONone, wOSome, wItems, wRng1, bName, wTup, wIf, wUnp, bTup_t, bCons_c, bNil_n, at_sep, ite_str, wPar_c, wLc, wipeE, wFor, wEnum, pick, wOr, wAnd, wNot, wDrop, wAug, wApp, wExt, wAppIx, wPar2, wPar3, wZip, wSigns, wAndV, wOrV, wNotV, wUn, negD, wLc2, lc2Go, Option.some.injEq, exists_eq_left', wRetO, wLcCat, wGive, wTry, wClr, wIns, wSetIx, wMv, wMvF, wChain, wRev, intSD, wShut, wTryR, wForAppIx, wForApT, wAppIxT, wTupO, wIxO, isiD, bStar, wTryAs, wRaise, wFnV, wKit, wKits, wXv, wVarS, wForT, wForApp, wForPop, wAddO, wRngL, wSortR, wTupM, wSg, wSgSet, wSgNe, wSgPop, Sg.get, Sg.put, wWhile, wSortSet, wLstO, wListRg3, wStar, wFnA, wBg, wBgSet, wBgPop, wBgLen, wBgAug, wDic4, wIslower, wIsalpha, Bg.get, Bg.put, wStep]
      exact in_sign kk
    · have := allD_m (bs := z.cps.toList.map fun c => decide (c ∈ (Str.ofString "abcdefghijklmnopqrstuvwxyz").cps.toList)) (q := fun d => Q d ()) (by
        have e : isWb z = (z.cps.toList.map fun c => decide (c ∈ (Str.ofString "abcdefghijklmnopqrstuvwxyz").cps.toList)).all id := by
          unfold isWb
          rw [hz, List.all_map]
          rfl
        rw [← e]; exact k)
      rw [List.map_map] at this
      exact this
  | true =>
    have e : isWb z = false := by unfold isWb; rw [hz]; rfl
    rw [e] at k
    exact .inl ⟨rfl, k⟩
theorem law_folded_line {ds : List Dt} {g Q E} (h : sp_folded_line ds g Q E) : w_folded_line { nx := fun _ g => Q .non g, rt := Q, ex := fun c d _ g => E c d g } (startE N_folded_line ds) g := by
  obtain ⟨l, w, rfl, hl, hw, k⟩ := h
  simp [w_folded_line, wSeq, wIfS, wTest, wOp, wRg, wRgSet, wC, wVar, wSet, wRet, wFnR, wFn, wFnK, wCons, wNil, wLst, wCall, wM1, wNext, exE, Rg.get, Rg.put, startE, addD_i, addD_s, addD_l, eqD_i, neD_i, subD_i, mulD_i, mulD_s, mulD_l, modD_i, fdivD_i, powD_i, cmpD_i, ixD_l, ixD_k, ixD_t, ixD_s, minD_i, maxD_i, absD_i, lenD_l, lenD_k, lenD_t, lenD_s, strD_i, intD_i, intD_b, listD_l, listD_t, reprD_d, wSl, slD_l, slD_k, slD_s, wONone, wOSome, wItems, wRng1, bName, wTup, wIf, wUnp, bTup_t, bCons_c, bNil_n, at_sep, ite_str, wPar_c, wLc, wipeE, wFor, wEnum, pick, wOr, wAnd, wNot, wDrop, wAug, wApp, wExt, wAppIx, wPar2, wPar3, wZip, wSigns, wAndV, wOrV, wNotV, wUn, negD, wLc2, lc2Go, Option.some.injEq, exists_eq_left', wRetO, wLcCat, wGive, wTry, wClr, wIns, wSetIx, wMv, wMvF, wChain, wRev, intSD, wShut, wTryR, wForAppIx, wForApT, wAppIxT, wTupO, wIxO, isiD, bStar, wTryAs, wRaise, wFnV, wKit, wKits, wXv, wVarS, wForT, wForApp, wForPop, wAddO, wRngL, wSortR, wTupM, wSg, wSgSet, wSgNe, wSgPop, Sg.get, Sg.put, wWhile, wSortSet, wLstO, wListRg3, wStar, wFnA, wBg, wBgSet, wBgPop, wBgLen, wBgAug, wDic4, wIslower, wIsalpha, Bg.get, Bg.put, wStep, N_folded_line, dLine]
  refine for_inv (fun rest env g => ∃ (pre : List (List Str)) (cur post : List Str) (x : Option Dt), rest = post.map .str ∧ (∀ z ∈ post, wd z) ∧ ((pre = [] ∧ cur = [] ∧ post.length ≤ 100000 ∧ foldLine w l = foldLine w post ∧ env = [some (dLine l), some (.int w), some (.lst []), some (.int (w + 1)), x]) ∨
    (cur ≠ [] ∧ foldLine w l = pre ++ flGo w post cur ∧ pre.length + post.length ≤ 100000 ∧ cur.length + post.length ≤ 100000 ∧ env = [some (dLine l), some (.int w), some (dPage (pre ++ [cur])), some (.int (lenL cur + 1)), x]))) ?_ ?_ _ _ _ ⟨[], [], l, none, rfl, hw, .inl ⟨rfl, rfl, hl, rfl, rfl⟩⟩
  · rintro env g ⟨pre, cur, post, x, e, hp, h⟩
    cases post with
    | cons _ _ => cases e
    | nil =>
      rcases h with ⟨rfl, rfl, n0, h, rfl⟩ | ⟨hc, h, _, _, rfl⟩
      · simp [wSeq, wIfS, wTest, wOp, wRg, wRgSet, wC, wVar, wSet, wRet, wFnR, wFn, wFnK, wCons, wNil, wLst, wCall, wM1, wNext, exE, Rg.get, Rg.put, startE, addD_i, addD_s, addD_l, eqD_i, neD_i, subD_i, mulD_i, mulD_s, mulD_l, modD_i, fdivD_i, powD_i, cmpD_i, ixD_l, ixD_k, ixD_t, ixD_s, minD_i, maxD_i, absD_i, lenD_l, lenD_k, lenD_t, lenD_s, strD_i, intD_i, intD_b, listD_l, listD_t, reprD_d, wSl, slD_l, slD_k, slD_s, wONone, wOSome, wItems, wRng1, bName, wTup, wIf, wUnp, bTup_t, bCons_c, bNil_n, at_sep, ite_str, wPar_c, wLc, wipeE, wFor, wEnum, pick, wOr, wAnd, wNot, wDrop, wAug, wApp, wExt, wAppIx, wPar2, wPar3, wZip, wSigns, wAndV, wOrV, wNotV, wUn, negD, wLc2, lc2Go, Option.some.injEq, exists_eq_left', wRetO, wLcCat, wGive, wTry, wClr, wIns, wSetIx, wMv, wMvF, wChain, wRev, intSD, wShut, wTryR, wForAppIx, wForApT, wAppIxT, wTupO, wIxO, isiD, bStar, wTryAs, wRaise, wFnV, wKit, wKits, wXv, wVarS, wForT, wForApp, wForPop, wAddO, wRngL, wSortR, wTupM, wSg, wSgSet, wSgNe, wSgPop, Sg.get, Sg.put, wWhile, wSortSet, wLstO, wListRg3, wStar, wFnA, wBg, wBgSet, wBgPop, wBgLen, wBgAug, wDic4, wIslower, wIsalpha, Bg.get, Bg.put, wStep]
        rw [h] at k
        exact k
      · simp [wSeq, wIfS, wTest, wOp, wRg, wRgSet, wC, wVar, wSet, wRet, wFnR, wFn, wFnK, wCons, wNil, wLst, wCall, wM1, wNext, exE, Rg.get, Rg.put, startE, addD_i, addD_s, addD_l, eqD_i, neD_i, subD_i, mulD_i, mulD_s, mulD_l, modD_i, fdivD_i, powD_i, cmpD_i, ixD_l, ixD_k, ixD_t, ixD_s, minD_i, maxD_i, absD_i, lenD_l, lenD_k, lenD_t, lenD_s, strD_i, intD_i, intD_b, listD_l, listD_t, reprD_d, wSl, slD_l, slD_k, slD_s, wONone, wOSome, wItems, wRng1, bName, wTup, wIf, wUnp, bTup_t, bCons_c, bNil_n, at_sep, ite_str, wPar_c, wLc, wipeE, wFor, wEnum, pick, wOr, wAnd, wNot, wDrop, wAug, wApp, wExt, wAppIx, wPar2, wPar3, wZip, wSigns, wAndV, wOrV, wNotV, wUn, negD, wLc2, lc2Go, Option.some.injEq, exists_eq_left', wRetO, wLcCat, wGive, wTry, wClr, wIns, wSetIx, wMv, wMvF, wChain, wRev, intSD, wShut, wTryR, wForAppIx, wForApT, wAppIxT, wTupO, wIxO, isiD, bStar, wTryAs, wRaise, wFnV, wKit, wKits, wXv, wVarS, wForT, wForApp, wForPop, wAddO, wRngL, wSortR, wTupM, wSg, wSgSet, wSgNe, wSgPop, Sg.get, Sg.put, wWhile, wSortSet, wLstO, wListRg3, wStar, wFnA, wBg, wBgSet, wBgPop, wBgLen, wBgAug, wDic4, wIslower, wIsalpha, Bg.get, Bg.put, wStep]
        rw [h] at k
        exact k
  · rintro d rest env g K ⟨pre, cur, post, x, e, hp, h⟩ k2
    cases post with
    | nil => cases e
    | cons z post =>
      cases e
      have hz := hp z List.mem_cons_self
      have hp' : ∀ y ∈ post, wd y := fun y hy => hp y (List.mem_cons_of_mem _ hy)
      rcases h with ⟨rfl, rfl, n0, h, rfl⟩ | ⟨hc, h, n1, n2, rfl⟩
      · have h0 := hz.1
        have hn : ¬ (w + 1 + (z.length : Int) ≤ w) := by omega
        simp [wSeq, wIfS, wTest, wOp, wRg, wRgSet, wC, wVar, wSet, wRet, wFnR, wFn, wFnK, wCons, wNil, wLst, wCall, wM1, wNext, exE, Rg.get, Rg.put, startE, addD_i, addD_s, addD_l, eqD_i, neD_i, subD_i, mulD_i, mulD_s, mulD_l, modD_i, fdivD_i, powD_i, cmpD_i, ixD_l, ixD_k, ixD_t, ixD_s, minD_i, maxD_i, absD_i, lenD_l, lenD_k, lenD_t, lenD_s, strD_i, intD_i, intD_b, listD_l, listD_t, reprD_d, wSl, slD_l, slD_k, slD_s, wONone, wOSome, wItems, wRng1, bName, wTup, wIf, wUnp, bTup_t, bCons_c, bNil_n, at_sep, ite_str, wPar_c, wLc, wipeE, wFor, wEnum, pick, wOr, wAnd, wNot, wDrop, wAug, wApp, wExt, wAppIx, wPar2, wPar3, wZip, wSigns, wAndV, wOrV, wNotV, wUn, negD, wLc2, lc2Go, Option.some.injEq, exists_eq_left', wRetO, wLcCat, wGive, wTry, wClr, wIns, wSetIx, wMv, wMvF, wChain, wRev, intSD, wShut, wTryR, wForAppIx, wForApT, wAppIxT, wTupO, wIxO, isiD, bStar, wTryAs, wRaise, wFnV, wKit, wKits, wXv, wVarS, wForT, wForApp, wForPop, wAddO, wRngL, wSortR, wTupM, wSg, wSgSet, wSgNe, wSgPop, Sg.get, Sg.put, wWhile, wSortSet, wLstO, wListRg3, wStar, wFnA, wBg, wBgSet, wBgPop, wBgLen, wBgAug, wDic4, wIslower, wIsalpha, Bg.get, Bg.put, wStep, hn]
        rw [List.length_cons] at n0
        refine ⟨hz.2.1, by decide, by decide, hz.2.1, k2 _ _ ⟨[], [z], post, some (.str z), rfl, hp', .inr ⟨by simp, h, by simp; omega, by simp; omega, ?_⟩⟩⟩
        rw [lenL_one]
        rfl
      · rw [List.length_cons] at n1 n2
        have e1 : ((pre ++ [cur]).map dLine).length = pre.length + 1 := by simp
        simp [wSeq, wIfS, wTest, wOp, wRg, wRgSet, wC, wVar, wSet, wRet, wFnR, wFn, wFnK, wCons, wNil, wLst, wCall, wM1, wNext, exE, Rg.get, Rg.put, startE, addD_i, addD_s, addD_l, eqD_i, neD_i, subD_i, mulD_i, mulD_s, mulD_l, modD_i, fdivD_i, powD_i, cmpD_i, ixD_l, ixD_k, ixD_t, ixD_s, minD_i, maxD_i, absD_i, lenD_l, lenD_k, lenD_t, lenD_s, strD_i, intD_i, intD_b, listD_l, listD_t, reprD_d, wSl, slD_l, slD_k, slD_s, wONone, wOSome, wItems, wRng1, bName, wTup, wIf, wUnp, bTup_t, bCons_c, bNil_n, at_sep, ite_str, wPar_c, wLc, wipeE, wFor, wEnum, pick, wOr, wAnd, wNot, wDrop, wAug, wApp, wExt, wAppIx, wPar2, wPar3, wZip, wSigns, wAndV, wOrV, wNotV, wUn, negD, wLc2, lc2Go, Option.some.injEq, exists_eq_left', wRetO, wLcCat, wGive, wTry, wClr, wIns, wSetIx, wMv, wMvF, wChain, wRev, intSD, wShut, wTryR, wForAppIx, wForApT, wAppIxT, wTupO, wIxO, isiD, bStar, wTryAs, wRaise, wFnV, wKit, wKits, wXv, wVarS, wForT, wForApp, wForPop, wAddO, wRngL, wSortR, wTupM, wSg, wSgSet, wSgNe, wSgPop, Sg.get, Sg.put, wWhile, wSortSet, wLstO, wListRg3, wStar, wFnA, wBg, wBgSet, wBgPop, wBgLen, wBgAug, wDic4, wIslower, wIsalpha, Bg.get, Bg.put, wStep]
        refine ⟨hz.2.1, ?_⟩
        by_cases hf : lenL cur + 1 + (z.length : Int) ≤ w
        · refine .inr ⟨hf, _, rfl, pre.length, ?_, cur.map .str, ?_, ?_, hz.2.1, ?_⟩
          · rw [e1]
            unfold ixN
            rw [if_neg (by decide), if_pos (by omega)]
            congr 1
            omega
          · rw [List.getElem?_map, List.getElem?_append_right (Nat.le_refl _), Nat.sub_self]
            rfl
          · rw [List.length_map]; unfold sizeLine; omega
          · have hs : ((pre ++ [cur]).map dLine).set pre.length (.lst (cur.map Dt.str ++ [.str z])) = (pre ++ [cur ++ [z]]).map dLine := by
              rw [List.map_append, List.map_append, List.set_append_right _ _ (by simp)]
              simp [dLine]
            rw [hs]
            refine k2 _ _ ⟨pre, cur ++ [z], post, some (.str z), rfl, hp', .inr ⟨by simp, ?_, by omega, by simp; omega, ?_⟩⟩
            · rw [h]
              congr 1
              rw [flGo, if_pos (by rw [lenL_snoc]; omega)]
            · rw [lenL_snoc]
              have : lenL cur + 1 + ((z.length : Int) + 1) = lenL cur + z.length + 1 + 1 := by omega
              rw [this]
              rfl
        · refine .inl ⟨by omega, _, rfl, by decide, by rw [e1]; unfold sizeLine; omega, hz.2.1, ?_⟩
          refine k2 _ _ ⟨pre ++ [cur], [z], post, some (.str z), rfl, hp', .inr ⟨by simp, ?_, by simp; omega, by simp; omega, ?_⟩⟩
          · rw [h]
            rw [flGo, if_neg (by rw [lenL_snoc]; omega)]
            simp
          · rw [lenL_one]
            have : (pre ++ [cur]).map dLine ++ [Dt.lst [Dt.str z]] = (pre ++ [cur] ++ [[z]]).map dLine := by simp [dLine]
            rw [this]
            rfl
theorem law_folded {ds : List Dt} {g Q E} (h : sp_folded ds g Q E) : w_folded { nx := fun _ g => Q .non g, rt := Q, ex := fun c d _ g => E c d g } (startE N_folded ds) g := by
  obtain ⟨p, ws, rfl, ok, k⟩ := h
  simp [w_folded, wSeq, wIfS, wTest, wOp, wRg, wRgSet, wC, wVar, wSet, wRet, wFnR, wFn, wFnK, wCons, wNil, wLst, wCall, wM1, wNext, exE, Rg.get, Rg.put, startE, addD_i, addD_s, addD_l, eqD_i, neD_i, subD_i, mulD_i, mulD_s, mulD_l, modD_i, fdivD_i, powD_i, cmpD_i, ixD_l, ixD_k, ixD_t, ixD_s, minD_i, maxD_i, absD_i, lenD_l, lenD_k, lenD_t, lenD_s, strD_i, intD_i, intD_b, listD_l, listD_t, reprD_d, wSl, slD_l, slD_k, slD_s, wONone, wOSome, wItems, wRng1, bName, wTup, wIf, wUnp, bTup_t, bCons_c, bNil_n, at_sep, ite_str, wPar_c, wLc, wipeE, wFor, wEnum, pick, wOr, wAnd, wNot, wDrop, wAug, wApp, wExt, wAppIx, wPar2, wPar3, wZip, wSigns, wAndV, wOrV, wNotV, wUn, negD, wLc2, lc2Go, Option.some.injEq, exists_eq_left', wRetO, wLcCat, wGive, wTry, wClr, wIns, wSetIx, wMv, wMvF, wChain, wRev, intSD, wShut, wTryR, wForAppIx, wForApT, wAppIxT, wTupO, wIxO, isiD, bStar, wTryAs, wRaise, wFnV, wKit, wKits, wXv, wVarS, wForT, wForApp, wForPop, wAddO, wRngL, wSortR, wTupM, wSg, wSgSet, wSgNe, wSgPop, Sg.get, Sg.put, wWhile, wSortSet, wLstO, wListRg3, wStar, wFnA, wBg, wBgSet, wBgPop, wBgLen, wBgAug, wDic4, wIslower, wIsalpha, Bg.get, Bg.put, wStep, N_folded]
  refine .inl ⟨_, rfl, lc_of p dLine dLine _ _ (Nat.le_trans (okF_small ok) (by decide)) ?_ (.inl ⟨_, rfl, ?_⟩)⟩
  · intro l hl K kk
    simp [wSeq, wIfS, wTest, wOp, wRg, wRgSet, wC, wVar, wSet, wRet, wFnR, wFn, wFnK, wCons, wNil, wLst, wCall, wM1, wNext, exE, Rg.get, Rg.put, startE, addD_i, addD_s, addD_l, eqD_i, neD_i, subD_i, mulD_i, mulD_s, mulD_l, modD_i, fdivD_i, powD_i, cmpD_i, ixD_l, ixD_k, ixD_t, ixD_s, minD_i, maxD_i, absD_i, lenD_l, lenD_k, lenD_t, lenD_s, strD_i, intD_i, intD_b, listD_l, listD_t, reprD_d, wSl, slD_l, slD_k, slD_s, wONone, wOSome, wItems, wRng1, bName, wTup, wIf, wUnp, bTup_t, bCons_c, bNil_n, at_sep, ite_str, wPar_c, wLc, wipeE, wFor, wEnum, pick, wOr, wAnd, wNot, wDrop, wAug, wApp, wExt, wAppIx, wPar2, wPar3, wZip, wSigns, wAndV, wOrV, wNotV, wUn, negD, wLc2, lc2Go, Option.some.injEq, exists_eq_left', wRetO, wLcCat, wGive, wTry, wClr, wIns, wSetIx, wMv, wMvF, wChain, wRev, intSD, wShut, wTryR, wForAppIx, wForApT, wAppIxT, wTupO, wIxO, isiD, bStar, wTryAs, wRaise, wFnV, wKit, wKits, wXv, wVarS, wForT, wForApp, wForPop, wAddO, wRngL, wSortR, wTupM, wSg, wSgSet, wSgNe, wSgPop, Sg.get, Sg.put, wWhile, wSortSet, wLstO, wListRg3, wStar, wFnA, wBg, wBgSet, wBgPop, wBgLen, wBgAug, wDic4, wIslower, wIsalpha, Bg.get, Bg.put, wStep, dLine, listD_l]
    exact kk
  refine for_inv (fun rest env g => ∃ (us : List Int) (q : List (List Str)) (x : Option Dt), rest = us.map .int ∧ okF q ∧ foldW ws p = foldW us q ∧ env = [some (dPage p), some (dInts ws), some (dPage q), x, none, none]) ?_ ?_ _ _ _ ⟨ws, p, none, rfl, ok, rfl, rfl⟩
  · rintro env g ⟨us, q, x, e, ok', h, rfl⟩
    cases us with
    | cons _ _ => cases e
    | nil =>
      simp [wSeq, wIfS, wTest, wOp, wRg, wRgSet, wC, wVar, wSet, wRet, wFnR, wFn, wFnK, wCons, wNil, wLst, wCall, wM1, wNext, exE, Rg.get, Rg.put, startE, addD_i, addD_s, addD_l, eqD_i, neD_i, subD_i, mulD_i, mulD_s, mulD_l, modD_i, fdivD_i, powD_i, cmpD_i, ixD_l, ixD_k, ixD_t, ixD_s, minD_i, maxD_i, absD_i, lenD_l, lenD_k, lenD_t, lenD_s, strD_i, intD_i, intD_b, listD_l, listD_t, reprD_d, wSl, slD_l, slD_k, slD_s, wONone, wOSome, wItems, wRng1, bName, wTup, wIf, wUnp, bTup_t, bCons_c, bNil_n, at_sep, ite_str, wPar_c, wLc, wipeE, wFor, wEnum, pick, wOr, wAnd, wNot, wDrop, wAug, wApp, wExt, wAppIx, wPar2, wPar3, wZip, wSigns, wAndV, wOrV, wNotV, wUn, negD, wLc2, lc2Go, Option.some.injEq, exists_eq_left', wRetO, wLcCat, wGive, wTry, wClr, wIns, wSetIx, wMv, wMvF, wChain, wRev, intSD, wShut, wTryR, wForAppIx, wForApT, wAppIxT, wTupO, wIxO, isiD, bStar, wTryAs, wRaise, wFnV, wKit, wKits, wXv, wVarS, wForT, wForApp, wForPop, wAddO, wRngL, wSortR, wTupM, wSg, wSgSet, wSgNe, wSgPop, Sg.get, Sg.put, wWhile, wSortSet, wLstO, wListRg3, wStar, wFnA, wBg, wBgSet, wBgPop, wBgLen, wBgAug, wDic4, wIslower, wIsalpha, Bg.get, Bg.put, wStep]
      rw [h] at k
      exact k
  · rintro d rest env g K ⟨us, q, x, e, ok', h, rfl⟩ k2
    cases us with
    | nil => cases e
    | cons u us =>
      cases e
      simp [wSeq, wIfS, wTest, wOp, wRg, wRgSet, wC, wVar, wSet, wRet, wFnR, wFn, wFnK, wCons, wNil, wLst, wCall, wM1, wNext, exE, Rg.get, Rg.put, startE, addD_i, addD_s, addD_l, eqD_i, neD_i, subD_i, mulD_i, mulD_s, mulD_l, modD_i, fdivD_i, powD_i, cmpD_i, ixD_l, ixD_k, ixD_t, ixD_s, minD_i, maxD_i, absD_i, lenD_l, lenD_k, lenD_t, lenD_s, strD_i, intD_i, intD_b, listD_l, listD_t, reprD_d, wSl, slD_l, slD_k, slD_s, wONone, wOSome, wItems, wRng1, bName, wTup, wIf, wUnp, bTup_t, bCons_c, bNil_n, at_sep, ite_str, wPar_c, wLc, wipeE, wFor, wEnum, pick, wOr, wAnd, wNot, wDrop, wAug, wApp, wExt, wAppIx, wPar2, wPar3, wZip, wSigns, wAndV, wOrV, wNotV, wUn, negD, wLc2, lc2Go, Option.some.injEq, exists_eq_left', wRetO, wLcCat, wGive, wTry, wClr, wIns, wSetIx, wMv, wMvF, wChain, wRev, intSD, wShut, wTryR, wForAppIx, wForApT, wAppIxT, wTupO, wIxO, isiD, bStar, wTryAs, wRaise, wFnV, wKit, wKits, wXv, wVarS, wForT, wForApp, wForPop, wAddO, wRngL, wSortR, wTupM, wSg, wSgSet, wSgNe, wSgPop, Sg.get, Sg.put, wWhile, wSortSet, wLstO, wListRg3, wStar, wFnA, wBg, wBgSet, wBgPop, wBgLen, wBgAug, wDic4, wIslower, wIsalpha, Bg.get, Bg.put, wStep]
      refine .inl ⟨_, rfl, cat_flat dLine (foldLine u) dLine (by simp) q [] ?_ ?_ ?_⟩
      · intro l hl K3 kk
        simp [wSeq, wIfS, wTest, wOp, wRg, wRgSet, wC, wVar, wSet, wRet, wFnR, wFn, wFnK, wCons, wNil, wLst, wCall, wM1, wNext, exE, Rg.get, Rg.put, startE, addD_i, addD_s, addD_l, eqD_i, neD_i, subD_i, mulD_i, mulD_s, mulD_l, modD_i, fdivD_i, powD_i, cmpD_i, ixD_l, ixD_k, ixD_t, ixD_s, minD_i, maxD_i, absD_i, lenD_l, lenD_k, lenD_t, lenD_s, strD_i, intD_i, intD_b, listD_l, listD_t, reprD_d, wSl, slD_l, slD_k, slD_s, wONone, wOSome, wItems, wRng1, bName, wTup, wIf, wUnp, bTup_t, bCons_c, bNil_n, at_sep, ite_str, wPar_c, wLc, wipeE, wFor, wEnum, pick, wOr, wAnd, wNot, wDrop, wAug, wApp, wExt, wAppIx, wPar2, wPar3, wZip, wSigns, wAndV, wOrV, wNotV, wUn, negD, wLc2, lc2Go, Option.some.injEq, exists_eq_left', wRetO, wLcCat, wGive, wTry, wClr, wIns, wSetIx, wMv, wMvF, wChain, wRev, intSD, wShut, wTryR, wForAppIx, wForApT, wAppIxT, wTupO, wIxO, isiD, bStar, wTryAs, wRaise, wFnV, wKit, wKits, wXv, wVarS, wForT, wForApp, wForPop, wAddO, wRngL, wSortR, wTupM, wSg, wSgSet, wSgNe, wSgPop, Sg.get, Sg.put, wWhile, wSortSet, wLstO, wListRg3, wStar, wFnA, wBg, wBgSet, wBgPop, wBgLen, wBgAug, wDic4, wIslower, wIsalpha, Bg.get, Bg.put, wStep]
        exact ⟨l, u, rfl, okF_line ok' hl, (ok'.2 l hl).2, kk⟩
      · have := okF_small (okF_fold (w := u) ok')
        exact Nat.le_trans (by rw [List.length_nil, Nat.zero_add]; exact this) (by decide)
      · exact k2 _ _ ⟨us, foldP u q, some (.int u), rfl, okF_fold ok', h, rfl⟩
end Vl

/-! VD1: folds, effects and widths as the laws k28 to k32 make them. -/
namespace Vl
open PySem L2
def sp_law_fold_line : Spec Unit := fun ds _ Q _ => ∃ (l : List Str) (w : Int), ds = [dLine l, .int w] ∧ l ≠ [] ∧ l.length ≤ 100000 ∧ (∀ z ∈ l, wd z) ∧ Q (dPage (foldLine w l)) ()
def sp_law_folded : Spec Unit := fun ds _ Q _ => ∃ (p : List (List Str)) (ws : List Int), ds = [dPage p, dInts ws] ∧ okF p ∧ Q (dPage (foldW ws p)) ()
def sp_law_effect : Spec Unit := fun ds _ Q _ => ∃ l, ds = [dInts l] ∧ okI l ∧ Q (dInts (effL l)) ()
def sp_law_sizes (r : BgA) : Spec Bg := fun ds g Q _ => ∃ (a n : Int) (F : Nat), ds = [.raw (.ref r.1), .int a, .int n] ∧ 0 ≤ a ∧ a ≤ 60 ∧ 1 ≤ n ∧ n ≤ 10 ^ 30 ∧ BgOk (F + 300) g ∧ ∀ (l : List Int) g', l.length ≤ a.toNat → (∀ w ∈ l, 1 ≤ w ∧ w ≤ n) → BgOk F g' → Q (dInts l) g'
abbrev N_law_fold_line : List Str := ["words", "size", "found", "now", "long", "word"]
def w_law_fold_line : WS Unit :=
 (wSeq (wPar3 2 3 4 (wLst wNil) (wLst wNil) (wC (.int 0)))
 (wSeq (wFor (wItems (wVar 0)) (bName 5)
 (wSeq (wIfS (wAnd (wTest (wOp (cmpD fun i j => decide (j < i)) (wCall lenD (wCons (wVar 3) wNil)) (wC (.int 0)))) (wTest (wOp (cmpD fun i j => decide (j < i)) (wOp addD (wOp addD (wVar 4) (wC (.int 1))) (wCall lenD (wCons (wVar 5) wNil))) (wVar 1))))
 (wSeq (wApp 2 (wVar 3))
 (wPar 3 4 (wCons (wLst wNil) (wCons (wC (.int 0)) wNil))))
 wNext)
 (wSeq (wAug 4 (fun i j => i + j) (wOp addD (wCall lenD (wCons (wVar 5) wNil)) (wCall intD (wCons (wOp (cmpD fun i j => decide (j < i)) (wCall lenD (wCons (wVar 3) wNil)) (wC (.int 0))) wNil))))
 (wSet 3 (wOp addD (wVar 3) (wLst (wCons (wVar 5) wNil)))))))
 (wRet (wOp addD (wVar 2) (wLst (wCons (wVar 3) wNil))))))
abbrev N_law_folded : List Str := ["grid", "sizes", "size", "found", "words"]
def w_law_folded : WS Unit :=
 (wSeq (wFor (wItems (wVar 1)) (bName 2)
 (wSeq (wSet 3 (wLst wNil))
 (wSeq (wFor (wItems (wVar 0)) (bName 4)
 (wExt 3 (wFn sp_law_fold_line (wCons (wVar 4) (wCons (wVar 2) wNil)))))
 (wMvF 0 3))))
 (wRet (wVar 0)))
abbrev N_law_effect : List Str := ["sizes", "found", "size", "more"]
def w_law_effect : WS Unit :=
 (wSeq (wSet 1 (wLst wNil))
 (wSeq (wFor (wItems (wVar 0)) (bName 2)
 (wIfS (wOr (wTest (wOp eqD (wCall lenD (wCons (wVar 1) wNil)) (wC (.int 0)))) (wTest (wOp (cmpD fun i j => decide (i < j)) (wVar 2) (wOp ixD (wVar 1) (wUn negD (wC (.int 1)))))))
 (wApp 1 (wVar 2))
 wNext))
 (wSeq (wIfS (wAnd (wTest (wOp (cmpD fun i j => decide (j < i)) (wCall lenD (wCons (wVar 1) wNil)) (wC (.int 0)))) (wTest (wOp (cmpD fun i j => decide (i < j)) (wOp ixD (wVar 1) (wUn negD (wC (.int 1)))) (wC (.int 3)))))
 (wRet (wLst (wCons (wC (.int 2)) wNil)))
 wNext)
 (wGive [1] (wSeq (wSet 3 (wLc [2] (wItems (wVar 1)) (bName 2) (wAnd (wTest (wOp (inDat false) (wOp subD (wVar 2) (wC (.int 2))) (wVar 1))) (wTest (wOp (inDat true) (wOp subD (wVar 2) (wC (.int 1))) (wVar 1)))) (wOp subD (wVar 2) (wC (.int 1)))))
 (wRet (wRev (wCall sortedD (wCons (wOp addD (wVar 1) (wVar 3)) wNil)))))))))
abbrev N_law_sizes : List Str := ["bag", "most", "wide", "found", "number", "size"]
def w_law_sizes (r : BgA) : WS Bg :=
 (wSeq (wSet 3 (wLst wNil))
 (wSeq (wFor (wRng1 (wCons (wFnR (sp_law_draw r) (wCons (wVar 0) (wCons (wOp addD (wVar 1) (wC (.int 1))) wNil))) wNil)) (bName 4)
 (wSeq (wSet 5 (wOp addD (wC (.int 1)) (wFnR (sp_law_draw r) (wCons (wVar 0) (wCons (wVar 2) wNil)))))
 (wSeq (wIfS (wAnd (wTest (wOp (cmpD fun i j => decide (j < i)) (wCall lenD (wCons (wVar 3) wNil)) (wC (.int 0)))) (wTest (wOp (cmpD fun i j => decide (j < i)) (wFnR (sp_law_draw r) (wCons (wVar 0) (wCons (wC (.int 3)) wNil))) (wC (.int 0)))))
 (wSet 5 (wShut 0 (wCall maxD (wCons (wC (.int 1)) (wCons (wOp subD (wOp subD (wOp ixD (wVar 3) (wUn negD (wC (.int 1)))) (wC (.int 1))) (wFnR (sp_law_draw r) (wCons (wVar 0) (wCons (wC (.int 3)) wNil)))) wNil)))))
 wNext)
 (wApp 3 (wVar 5)))))
 (wRetO 3)))
theorem len_law_fold_line {ds : List Dt} {g Q E} (h : sp_law_fold_line ds g Q E) : ds.length = 2 := by obtain ⟨_, _, rfl, _⟩ := h; rfl
theorem len_law_folded {ds : List Dt} {g Q E} (h : sp_law_folded ds g Q E) : ds.length = 2 := by obtain ⟨_, _, rfl, _⟩ := h; rfl
theorem len_law_effect {ds : List Dt} {g Q E} (h : sp_law_effect ds g Q E) : ds.length = 1 := by obtain ⟨_, rfl, _⟩ := h; rfl
theorem len_law_sizes {r : BgA} {ds : List Dt} {g Q E} (h : sp_law_sizes r ds g Q E) : ds.length = 3 := by obtain ⟨_, _, _, rfl, _⟩ := h; rfl
theorem fillD_ok {m : List Int} (hm : SD m) {r : List Int} (hp : r.Perm (m ++ (m.filter fun w => decide (w - 2 ∈ m) && !decide (w - 1 ∈ m)).map fun w => w - 1)) (hs : r.Pairwise (· ≥ ·)) :
    SD r ∧ ∀ y, y ∈ r ↔ y ∈ m ∨ (y + 1 ∈ m ∧ y - 1 ∈ m) := by
  have hmem : ∀ y, y ∈ (m.filter fun w => decide (w - 2 ∈ m) && !decide (w - 1 ∈ m)).map (fun w => w - 1) ↔ y + 1 ∈ m ∧ y - 1 ∈ m ∧ y ∉ m := by
    intro y
    simp only [List.mem_map, List.mem_filter, Bool.and_eq_true, decide_eq_true_eq, Bool.not_eq_true', decide_eq_false_iff_not]
    constructor
    · rintro ⟨w, ⟨h1, h2, h3⟩, rfl⟩
      exact ⟨by rw [show w - 1 + 1 = w by omega]; exact h1, by rw [show w - 1 - 1 = w - 2 by omega]; exact h2, h3⟩
    · rintro ⟨h1, h2, h3⟩
      exact ⟨y + 1, ⟨h1, by rw [show y + 1 - 2 = y - 1 by omega]; exact h2, by rw [show y + 1 - 1 = y by omega]; exact h3⟩, by omega⟩
  have nd : (m ++ (m.filter fun w => decide (w - 2 ∈ m) && !decide (w - 1 ∈ m)).map fun w => w - 1).Nodup := by
    refine List.nodup_append.mpr ⟨sd_nodup hm, ?_, fun a ha b hb e => ?_⟩
    · refine List.Pairwise.map _ ?_ ((sd_nodup hm).filter _)
      intro a b h; omega
    · subst e
      exact ((hmem a).mp hb).2.2 ha
  refine ⟨sd_of_ge hs (hp.nodup_iff.mpr nd), fun y => ?_⟩
  rw [hp.mem_iff, List.mem_append, hmem]
  constructor
  · rintro (q | ⟨q1, q2, _⟩)
    · exact .inl q
    · exact .inr ⟨q1, q2⟩
  · rintro (q | ⟨q1, q2⟩)
    · exact .inl q
    · by_cases h : y ∈ m
      · exact .inl h
      · exact .inr ⟨q1, q2, h⟩
theorem law_law_fold_line {ds : List Dt} {g Q E} (h : sp_law_fold_line ds g Q E) : w_law_fold_line { nx := fun _ g => Q .non g, rt := Q, ex := fun c d _ g => E c d g } (startE N_law_fold_line ds) g := by
  obtain ⟨l, w, rfl, hne, hl, hw, k⟩ := h
  simp [w_law_fold_line, wSeq, wIfS, wTest, wOp, wRg, wRgSet, wC, wVar, wSet, wRet, wFnR, wFn, wFnK, wCons, wNil, wLst, wCall, wM1, wNext, exE, Rg.get, Rg.put, startE, addD_i, addD_s, addD_l, eqD_i, neD_i, subD_i, mulD_i, mulD_s, mulD_l, modD_i, fdivD_i, powD_i, cmpD_i, ixD_l, ixD_k, ixD_t, ixD_s, minD_i, maxD_i, absD_i, lenD_l, lenD_k, lenD_t, lenD_s, strD_i, intD_i, intD_b, listD_l, listD_t, reprD_d, wSl, slD_l, slD_k, slD_s, wONone, wOSome, wItems, wRng1, bName, wTup, wIf, wUnp, bTup_t, bCons_c, bNil_n, at_sep, ite_str, wPar_c, wLc, wipeE, wFor, wEnum, pick, wOr, wAnd, wNot, wDrop, wAug, wApp, wExt, wAppIx, wPar2, wPar3, wZip, wSigns, wAndV, wOrV, wNotV, wUn, negD, wLc2, lc2Go, Option.some.injEq, exists_eq_left', wRetO, wLcCat, wGive, wTry, wClr, wIns, wSetIx, wMv, wMvF, wChain, wRev, intSD, wShut, wTryR, wForAppIx, wForApT, wAppIxT, wTupO, wIxO, isiD, bStar, wTryAs, wRaise, wFnV, wKit, wKits, wXv, wVarS, wForT, wForApp, wForPop, wAddO, wRngL, wSortR, wTupM, wSg, wSgSet, wSgNe, wSgPop, Sg.get, Sg.put, wWhile, wSortSet, wLstO, wListRg3, wStar, wFnA, wBg, wBgSet, wBgPop, wBgLen, wBgAug, wDic4, wIslower, wIsalpha, Bg.get, Bg.put, wStep, dLine_l, dLine_k, dLine_len, dLine_ix, dLine_sl, dLine_add, dLine_list, dPage_l, dPage_k, dPage_len, dPage_ix, dPage_sl, dPage_add, dPage_list, dInts_l, dInts_k, dInts_len, dInts_ix, dInts_sl, dInts_add, dInts_list, wLM, wVal, wTryEx, wIx1, N_law_fold_line, wPar3]
  obtain ⟨x, xs, rfl⟩ : ∃ x xs, l = x :: xs := by
    cases l with
    | nil => exact absurd rfl hne
    | cons x xs => exact ⟨x, xs, rfl⟩
  refine for_map (x :: xs) Dt.str (fun b env g => ∃ (F : List (List Str)) (cur : List Str) (x5 : Option Dt), F.length ≤ b.length ∧ (∀ y ∈ cur, y ∈ x :: xs) ∧ cur.length ≤ b.length ∧ (b = [] → F = [] ∧ cur = []) ∧ (∀ b1 rest, b = x :: b1 → xs = b1 ++ rest → cur ≠ [] ∧ F ++ flGo w rest cur = foldLine w (x :: xs)) ∧
      env = [some (dLine (x :: xs)), some (.int w), some (dPage F), some (dLine cur), some (.int (if cur = [] then 0 else lenL cur)), x5]) ?_ ?_ _ _ ⟨[], [], none, by simp, by simp, by simp, fun _ => ⟨rfl, rfl⟩, fun b1 rest h => (by cases h), rfl⟩
  · rintro env g ⟨F, cur, x5, h1, h2, h3, h4, h5, rfl⟩
    obtain ⟨h6, h7⟩ := h5 xs [] rfl (by simp)
    simp [wSeq, wIfS, wTest, wOp, wRg, wRgSet, wC, wVar, wSet, wRet, wFnR, wFn, wFnK, wCons, wNil, wLst, wCall, wM1, wNext, exE, Rg.get, Rg.put, startE, addD_i, addD_s, addD_l, eqD_i, neD_i, subD_i, mulD_i, mulD_s, mulD_l, modD_i, fdivD_i, powD_i, cmpD_i, ixD_l, ixD_k, ixD_t, ixD_s, minD_i, maxD_i, absD_i, lenD_l, lenD_k, lenD_t, lenD_s, strD_i, intD_i, intD_b, listD_l, listD_t, reprD_d, wSl, slD_l, slD_k, slD_s, wONone, wOSome, wItems, wRng1, bName, wTup, wIf, wUnp, bTup_t, bCons_c, bNil_n, at_sep, ite_str, wPar_c, wLc, wipeE, wFor, wEnum, pick, wOr, wAnd, wNot, wDrop, wAug, wApp, wExt, wAppIx, wPar2, wPar3, wZip, wSigns, wAndV, wOrV, wNotV, wUn, negD, wLc2, lc2Go, Option.some.injEq, exists_eq_left', wRetO, wLcCat, wGive, wTry, wClr, wIns, wSetIx, wMv, wMvF, wChain, wRev, intSD, wShut, wTryR, wForAppIx, wForApT, wAppIxT, wTupO, wIxO, isiD, bStar, wTryAs, wRaise, wFnV, wKit, wKits, wXv, wVarS, wForT, wForApp, wForPop, wAddO, wRngL, wSortR, wTupM, wSg, wSgSet, wSgNe, wSgPop, Sg.get, Sg.put, wWhile, wSortSet, wLstO, wListRg3, wStar, wFnA, wBg, wBgSet, wBgPop, wBgLen, wBgAug, wDic4, wIslower, wIsalpha, Bg.get, Bg.put, wStep, dLine_l, dLine_k, dLine_len, dLine_ix, dLine_sl, dLine_add, dLine_list, dPage_l, dPage_k, dPage_len, dPage_ix, dPage_sl, dPage_add, dPage_list, dInts_l, dInts_k, dInts_len, dInts_ix, dInts_sl, dInts_add, dInts_list, wLM, wVal, wTryEx, wIx1]
    refine ⟨by decide, ?_⟩
    show addD (dPage F) (dPage [cur]) _
    rw [dPage_add]
    refine ⟨by rw [List.length_map, List.length_map]; simp at h1 hl ⊢; show _ ≤ 2 ^ 24; omega, ?_⟩
    have : F ++ [cur] = foldLine w (x :: xs) := by rw [← h7]; rfl
    rw [this]
    exact k
  · rintro b z rest env g K e2 ⟨F, cur, x5, h1, h2, h3, h4, h5, rfl⟩ kk
    have hbl : b.length < (x :: xs).length := by rw [e2, List.length_append, List.length_cons]; omega
    have hz : z ∈ x :: xs := by rw [e2]; simp
    have wz := hw z hz
    have step1 : cur = [] ∨ lenL (cur ++ [z]) ≤ w → K [some (dLine (x :: xs)), some (.int w), some (dPage F), some (dLine (cur ++ [z])), some (.int (if cur ++ [z] = [] then 0 else lenL (cur ++ [z]))), some (.str z)] g := fun hc => by
      refine kk _ _ ⟨F, cur ++ [z], _, by simp; omega, fun y hy => ?_, by simp; omega, fun h => by simp at h, fun b1 rest' hb hx => ⟨by simp, ?_⟩, rfl⟩
      · rcases List.mem_append.mp hy with q | q
        · exact h2 y q
        · rw [List.mem_singleton.mp q]; exact hz
      · cases b with
        | nil =>
          obtain ⟨rfl, rfl⟩ := h4 rfl
          simp at hb
          obtain ⟨rfl, rfl⟩ := hb
          rw [hx]
          rfl
        | cons y b' =>
          rw [List.cons_append, List.cons.injEq] at hb
          obtain ⟨rfl, rfl⟩ := hb
          obtain ⟨h6, h7⟩ := h5 b' (z :: rest') rfl (by rw [hx]; simp)
          rw [← h7]
          rcases hc with q | q
          · exact absurd q h6
          · show _ = F ++ (if lenL (cur ++ [z]) ≤ w then _ else _)
            rw [if_pos q]
    have step2 : ¬ (cur = [] ∨ lenL (cur ++ [z]) ≤ w) → K [some (dLine (x :: xs)), some (.int w), some (dPage (F ++ [cur])), some (dLine [z]), some (.int (if [z] = [] then 0 else lenL [z])), some (.str z)] g := fun hc => by
      refine kk _ _ ⟨F ++ [cur], [z], _, by simp; omega, fun y hy => by rw [List.mem_singleton.mp hy]; exact hz, by simp, fun h => by simp at h, fun b1 rest' hb hx => ⟨by simp, ?_⟩, rfl⟩
      cases b with
      | nil => exact absurd (.inl (h4 rfl).2) hc
      | cons y b' =>
        rw [List.cons_append, List.cons.injEq] at hb
        obtain ⟨rfl, rfl⟩ := hb
        obtain ⟨h6, h7⟩ := h5 b' (z :: rest') rfl (by rw [hx]; simp)
        rw [← h7]
        show _ = F ++ (if lenL (cur ++ [z]) ≤ w then _ else _)
        rw [if_neg (fun q => hc (.inr q))]
        simp
    have one : lenL [z] = z.length := by unfold lenL; simp
    simp [wSeq, wIfS, wTest, wOp, wRg, wRgSet, wC, wVar, wSet, wRet, wFnR, wFn, wFnK, wCons, wNil, wLst, wCall, wM1, wNext, exE, Rg.get, Rg.put, startE, addD_i, addD_s, addD_l, eqD_i, neD_i, subD_i, mulD_i, mulD_s, mulD_l, modD_i, fdivD_i, powD_i, cmpD_i, ixD_l, ixD_k, ixD_t, ixD_s, minD_i, maxD_i, absD_i, lenD_l, lenD_k, lenD_t, lenD_s, strD_i, intD_i, intD_b, listD_l, listD_t, reprD_d, wSl, slD_l, slD_k, slD_s, wONone, wOSome, wItems, wRng1, bName, wTup, wIf, wUnp, bTup_t, bCons_c, bNil_n, at_sep, ite_str, wPar_c, wLc, wipeE, wFor, wEnum, pick, wOr, wAnd, wNot, wDrop, wAug, wApp, wExt, wAppIx, wPar2, wPar3, wZip, wSigns, wAndV, wOrV, wNotV, wUn, negD, wLc2, lc2Go, Option.some.injEq, exists_eq_left', wRetO, wLcCat, wGive, wTry, wClr, wIns, wSetIx, wMv, wMvF, wChain, wRev, intSD, wShut, wTryR, wForAppIx, wForApT, wAppIxT, wTupO, wIxO, isiD, bStar, wTryAs, wRaise, wFnV, wKit, wKits, wXv, wVarS, wForT, wForApp, wForPop, wAddO, wRngL, wSortR, wTupM, wSg, wSgSet, wSgNe, wSgPop, Sg.get, Sg.put, wWhile, wSortSet, wLstO, wListRg3, wStar, wFnA, wBg, wBgSet, wBgPop, wBgLen, wBgAug, wDic4, wIslower, wIsalpha, Bg.get, Bg.put, wStep, dLine_l, dLine_k, dLine_len, dLine_ix, dLine_sl, dLine_add, dLine_list, dPage_l, dPage_k, dPage_len, dPage_ix, dPage_sl, dPage_add, dPage_list, dInts_l, dInts_k, dInts_len, dInts_ix, dInts_sl, dInts_add, dInts_list, wLM, wVal, wTryEx, wIx1, bName, wPar]
    have hzs : z.length ≤ sizeLine := wz.2.1
    have app : lenL (cur ++ [z]) = lenL cur + z.length + 1 := by unfold lenL; simp; omega
    by_cases h0 : cur = []
    · have g1 := step1 (.inl h0)
      subst h0
      refine .inl ⟨rfl, hzs, by decide, ?_⟩
      show addD (dLine []) (dLine [z]) _
      rw [dLine_add]
      refine ⟨by simp; decide, ?_⟩
      simpa [one] using g1
    · have hp : 0 < cur.length := by cases cur with | nil => exact absurd rfl h0 | cons _ _ => simp
      refine .inr ⟨hp, hzs, ?_⟩
      rw [if_neg h0, if_pos hp]
      by_cases h1 : w < lenL cur + 1 + z.length
      · have g2 := step2 (by rintro (q | q); exact h0 q; omega)
        refine .inr ⟨h1, by show _ < 2 ^ 24; omega, _, _, ⟨rfl, rfl⟩, _, rfl, hzs, ?_⟩
        simp [wSeq, wIfS, wTest, wOp, wRg, wRgSet, wC, wVar, wSet, wRet, wFnR, wFn, wFnK, wCons, wNil, wLst, wCall, wM1, wNext, exE, Rg.get, Rg.put, startE, addD_i, addD_s, addD_l, eqD_i, neD_i, subD_i, mulD_i, mulD_s, mulD_l, modD_i, fdivD_i, powD_i, cmpD_i, ixD_l, ixD_k, ixD_t, ixD_s, minD_i, maxD_i, absD_i, lenD_l, lenD_k, lenD_t, lenD_s, strD_i, intD_i, intD_b, listD_l, listD_t, reprD_d, wSl, slD_l, slD_k, slD_s, wONone, wOSome, wItems, wRng1, bName, wTup, wIf, wUnp, bTup_t, bCons_c, bNil_n, at_sep, ite_str, wPar_c, wLc, wipeE, wFor, wEnum, pick, wOr, wAnd, wNot, wDrop, wAug, wApp, wExt, wAppIx, wPar2, wPar3, wZip, wSigns, wAndV, wOrV, wNotV, wUn, negD, wLc2, lc2Go, Option.some.injEq, exists_eq_left', wRetO, wLcCat, wGive, wTry, wClr, wIns, wSetIx, wMv, wMvF, wChain, wRev, intSD, wShut, wTryR, wForAppIx, wForApT, wAppIxT, wTupO, wIxO, isiD, bStar, wTryAs, wRaise, wFnV, wKit, wKits, wXv, wVarS, wForT, wForApp, wForPop, wAddO, wRngL, wSortR, wTupM, wSg, wSgSet, wSgNe, wSgPop, Sg.get, Sg.put, wWhile, wSortSet, wLstO, wListRg3, wStar, wFnA, wBg, wBgSet, wBgPop, wBgLen, wBgAug, wDic4, wIslower, wIsalpha, Bg.get, Bg.put, wStep, dLine_l, dLine_k, dLine_len, dLine_ix, dLine_sl, dLine_add, dLine_list, dPage_l, dPage_k, dPage_len, dPage_ix, dPage_sl, dPage_add, dPage_list, dInts_l, dInts_k, dInts_len, dInts_ix, dInts_sl, dInts_add, dInts_list, wLM, wVal, wTryEx, wIx1]
        refine ⟨by decide, ?_⟩
        simpa [one, dPage, dLine] using g2
      · have g1 := step1 (.inr (by omega))
        refine .inl ⟨by omega, hzs, by decide, ?_⟩
        show addD (dLine cur) (dLine [z]) _
        rw [dLine_add]
        refine ⟨by simp; show _ ≤ 2 ^ 24; omega, ?_⟩
        have e : (if cur ++ [z] = [] then 0 else lenL (cur ++ [z])) = lenL cur + (z.length + 1) := by rw [if_neg (by simp), app]; omega
        rw [e] at g1
        exact g1
theorem okF_foldW' : ∀ (ws : List Int) {p : List (List Str)}, okF p → okF (foldW ws p)
  | [], _, h => h
  | _ :: ws, _, h => okF_foldW' ws (okF_fold h)
theorem foldW_snoc : ∀ (ws : List Int) (w : Int) (p : List (List Str)), foldW (ws ++ [w]) p = foldP w (foldW ws p)
  | [], _, _ => rfl
  | _ :: ws, w, p => foldW_snoc ws w _
theorem law_law_folded {ds : List Dt} {g Q E} (h : sp_law_folded ds g Q E) : w_law_folded { nx := fun _ g => Q .non g, rt := Q, ex := fun c d _ g => E c d g } (startE N_law_folded ds) g := by
  obtain ⟨p, ws, rfl, ok, k⟩ := h
  simp [w_law_folded, wSeq, wIfS, wTest, wOp, wRg, wRgSet, wC, wVar, wSet, wRet, wFnR, wFn, wFnK, wCons, wNil, wLst, wCall, wM1, wNext, exE, Rg.get, Rg.put, startE, addD_i, addD_s, addD_l, eqD_i, neD_i, subD_i, mulD_i, mulD_s, mulD_l, modD_i, fdivD_i, powD_i, cmpD_i, ixD_l, ixD_k, ixD_t, ixD_s, minD_i, maxD_i, absD_i, lenD_l, lenD_k, lenD_t, lenD_s, strD_i, intD_i, intD_b, listD_l, listD_t, reprD_d, wSl, slD_l, slD_k, slD_s, wONone, wOSome, wItems, wRng1, bName, wTup, wIf, wUnp, bTup_t, bCons_c, bNil_n, at_sep, ite_str, wPar_c, wLc, wipeE, wFor, wEnum, pick, wOr, wAnd, wNot, wDrop, wAug, wApp, wExt, wAppIx, wPar2, wPar3, wZip, wSigns, wAndV, wOrV, wNotV, wUn, negD, wLc2, lc2Go, Option.some.injEq, exists_eq_left', wRetO, wLcCat, wGive, wTry, wClr, wIns, wSetIx, wMv, wMvF, wChain, wRev, intSD, wShut, wTryR, wForAppIx, wForApT, wAppIxT, wTupO, wIxO, isiD, bStar, wTryAs, wRaise, wFnV, wKit, wKits, wXv, wVarS, wForT, wForApp, wForPop, wAddO, wRngL, wSortR, wTupM, wSg, wSgSet, wSgNe, wSgPop, Sg.get, Sg.put, wWhile, wSortSet, wLstO, wListRg3, wStar, wFnA, wBg, wBgSet, wBgPop, wBgLen, wBgAug, wDic4, wIslower, wIsalpha, Bg.get, Bg.put, wStep, dLine_l, dLine_k, dLine_len, dLine_ix, dLine_sl, dLine_add, dLine_list, dPage_l, dPage_k, dPage_len, dPage_ix, dPage_sl, dPage_add, dPage_list, dInts_l, dInts_k, dInts_len, dInts_ix, dInts_sl, dInts_add, dInts_list, wLM, wVal, wTryEx, wIx1, N_law_folded]
  refine for_map ws Dt.int (fun a env g => ∃ x2 x3 x4, env = [some (dPage (foldW a p)), some (dInts ws), x2, x3, x4]) ?_ ?_ _ _ ⟨none, none, none, rfl⟩
  · rintro env g ⟨x2, x3, x4, rfl⟩
    simp [wSeq, wIfS, wTest, wOp, wRg, wRgSet, wC, wVar, wSet, wRet, wFnR, wFn, wFnK, wCons, wNil, wLst, wCall, wM1, wNext, exE, Rg.get, Rg.put, startE, addD_i, addD_s, addD_l, eqD_i, neD_i, subD_i, mulD_i, mulD_s, mulD_l, modD_i, fdivD_i, powD_i, cmpD_i, ixD_l, ixD_k, ixD_t, ixD_s, minD_i, maxD_i, absD_i, lenD_l, lenD_k, lenD_t, lenD_s, strD_i, intD_i, intD_b, listD_l, listD_t, reprD_d, wSl, slD_l, slD_k, slD_s, wONone, wOSome, wItems, wRng1, bName, wTup, wIf, wUnp, bTup_t, bCons_c, bNil_n, at_sep, ite_str, wPar_c, wLc, wipeE, wFor, wEnum, pick, wOr, wAnd, wNot, wDrop, wAug, wApp, wExt, wAppIx, wPar2, wPar3, wZip, wSigns, wAndV, wOrV, wNotV, wUn, negD, wLc2, lc2Go, Option.some.injEq, exists_eq_left', wRetO, wLcCat, wGive, wTry, wClr, wIns, wSetIx, wMv, wMvF, wChain, wRev, intSD, wShut, wTryR, wForAppIx, wForApT, wAppIxT, wTupO, wIxO, isiD, bStar, wTryAs, wRaise, wFnV, wKit, wKits, wXv, wVarS, wForT, wForApp, wForPop, wAddO, wRngL, wSortR, wTupM, wSg, wSgSet, wSgNe, wSgPop, Sg.get, Sg.put, wWhile, wSortSet, wLstO, wListRg3, wStar, wFnA, wBg, wBgSet, wBgPop, wBgLen, wBgAug, wDic4, wIslower, wIsalpha, Bg.get, Bg.put, wStep, dLine_l, dLine_k, dLine_len, dLine_ix, dLine_sl, dLine_add, dLine_list, dPage_l, dPage_k, dPage_len, dPage_ix, dPage_sl, dPage_add, dPage_list, dInts_l, dInts_k, dInts_len, dInts_ix, dInts_sl, dInts_add, dInts_list, wLM, wVal, wTryEx, wIx1]
    exact k
  · rintro a w r env g K e ⟨x2, x3, x4, rfl⟩ kk
    simp [wSeq, wIfS, wTest, wOp, wRg, wRgSet, wC, wVar, wSet, wRet, wFnR, wFn, wFnK, wCons, wNil, wLst, wCall, wM1, wNext, exE, Rg.get, Rg.put, startE, addD_i, addD_s, addD_l, eqD_i, neD_i, subD_i, mulD_i, mulD_s, mulD_l, modD_i, fdivD_i, powD_i, cmpD_i, ixD_l, ixD_k, ixD_t, ixD_s, minD_i, maxD_i, absD_i, lenD_l, lenD_k, lenD_t, lenD_s, strD_i, intD_i, intD_b, listD_l, listD_t, reprD_d, wSl, slD_l, slD_k, slD_s, wONone, wOSome, wItems, wRng1, bName, wTup, wIf, wUnp, bTup_t, bCons_c, bNil_n, at_sep, ite_str, wPar_c, wLc, wipeE, wFor, wEnum, pick, wOr, wAnd, wNot, wDrop, wAug, wApp, wExt, wAppIx, wPar2, wPar3, wZip, wSigns, wAndV, wOrV, wNotV, wUn, negD, wLc2, lc2Go, Option.some.injEq, exists_eq_left', wRetO, wLcCat, wGive, wTry, wClr, wIns, wSetIx, wMv, wMvF, wChain, wRev, intSD, wShut, wTryR, wForAppIx, wForApT, wAppIxT, wTupO, wIxO, isiD, bStar, wTryAs, wRaise, wFnV, wKit, wKits, wXv, wVarS, wForT, wForApp, wForPop, wAddO, wRngL, wSortR, wTupM, wSg, wSgSet, wSgNe, wSgPop, Sg.get, Sg.put, wWhile, wSortSet, wLstO, wListRg3, wStar, wFnA, wBg, wBgSet, wBgPop, wBgLen, wBgAug, wDic4, wIslower, wIsalpha, Bg.get, Bg.put, wStep, dLine_l, dLine_k, dLine_len, dLine_ix, dLine_sl, dLine_add, dLine_list, dPage_l, dPage_k, dPage_len, dPage_ix, dPage_sl, dPage_add, dPage_list, dInts_l, dInts_k, dInts_len, dInts_ix, dInts_sl, dInts_add, dInts_list, wLM, wVal, wTryEx, wIx1, bName]
    have okq := okF_foldW' a ok
    have e3 : foldW (a ++ [w]) p = foldP w (foldW a p) := by rw [foldW_snoc]
    generalize foldW a p = q at okq e3
    refine for_map q dLine (fun b env g => ∃ x4, env = [some (dPage q), some (dInts ws), some (.int w), some (dPage (foldP w b)), x4]) ?_ ?_ _ _ ⟨x4, rfl⟩
    · rintro env g ⟨x4, rfl⟩
      simp [wSeq, wIfS, wTest, wOp, wRg, wRgSet, wC, wVar, wSet, wRet, wFnR, wFn, wFnK, wCons, wNil, wLst, wCall, wM1, wNext, exE, Rg.get, Rg.put, startE, addD_i, addD_s, addD_l, eqD_i, neD_i, subD_i, mulD_i, mulD_s, mulD_l, modD_i, fdivD_i, powD_i, cmpD_i, ixD_l, ixD_k, ixD_t, ixD_s, minD_i, maxD_i, absD_i, lenD_l, lenD_k, lenD_t, lenD_s, strD_i, intD_i, intD_b, listD_l, listD_t, reprD_d, wSl, slD_l, slD_k, slD_s, wONone, wOSome, wItems, wRng1, bName, wTup, wIf, wUnp, bTup_t, bCons_c, bNil_n, at_sep, ite_str, wPar_c, wLc, wipeE, wFor, wEnum, pick, wOr, wAnd, wNot, wDrop, wAug, wApp, wExt, wAppIx, wPar2, wPar3, wZip, wSigns, wAndV, wOrV, wNotV, wUn, negD, wLc2, lc2Go, Option.some.injEq, exists_eq_left', wRetO, wLcCat, wGive, wTry, wClr, wIns, wSetIx, wMv, wMvF, wChain, wRev, intSD, wShut, wTryR, wForAppIx, wForApT, wAppIxT, wTupO, wIxO, isiD, bStar, wTryAs, wRaise, wFnV, wKit, wKits, wXv, wVarS, wForT, wForApp, wForPop, wAddO, wRngL, wSortR, wTupM, wSg, wSgSet, wSgNe, wSgPop, Sg.get, Sg.put, wWhile, wSortSet, wLstO, wListRg3, wStar, wFnA, wBg, wBgSet, wBgPop, wBgLen, wBgAug, wDic4, wIslower, wIsalpha, Bg.get, Bg.put, wStep, dLine_l, dLine_k, dLine_len, dLine_ix, dLine_sl, dLine_add, dLine_list, dPage_l, dPage_k, dPage_len, dPage_ix, dPage_sl, dPage_add, dPage_list, dInts_l, dInts_k, dInts_len, dInts_ix, dInts_sl, dInts_add, dInts_list, wLM, wVal, wTryEx, wIx1, wMvF]
      have := kk [some (dPage (foldW (a ++ [w]) p)), some (dInts ws), some (.int w), none, x4] g ⟨_, _, _, rfl⟩
      rw [e3] at this
      exact this
    · rintro b l rest env g K2 e2 ⟨x4, rfl⟩ k2
      have hlq : l ∈ q := by rw [e2]; simp
      have okl := okq.2 l hlq
      simp [wSeq, wIfS, wTest, wOp, wRg, wRgSet, wC, wVar, wSet, wRet, wFnR, wFn, wFnK, wCons, wNil, wLst, wCall, wM1, wNext, exE, Rg.get, Rg.put, startE, addD_i, addD_s, addD_l, eqD_i, neD_i, subD_i, mulD_i, mulD_s, mulD_l, modD_i, fdivD_i, powD_i, cmpD_i, ixD_l, ixD_k, ixD_t, ixD_s, minD_i, maxD_i, absD_i, lenD_l, lenD_k, lenD_t, lenD_s, strD_i, intD_i, intD_b, listD_l, listD_t, reprD_d, wSl, slD_l, slD_k, slD_s, wONone, wOSome, wItems, wRng1, bName, wTup, wIf, wUnp, bTup_t, bCons_c, bNil_n, at_sep, ite_str, wPar_c, wLc, wipeE, wFor, wEnum, pick, wOr, wAnd, wNot, wDrop, wAug, wApp, wExt, wAppIx, wPar2, wPar3, wZip, wSigns, wAndV, wOrV, wNotV, wUn, negD, wLc2, lc2Go, Option.some.injEq, exists_eq_left', wRetO, wLcCat, wGive, wTry, wClr, wIns, wSetIx, wMv, wMvF, wChain, wRev, intSD, wShut, wTryR, wForAppIx, wForApT, wAppIxT, wTupO, wIxO, isiD, bStar, wTryAs, wRaise, wFnV, wKit, wKits, wXv, wVarS, wForT, wForApp, wForPop, wAddO, wRngL, wSortR, wTupM, wSg, wSgSet, wSgNe, wSgPop, Sg.get, Sg.put, wWhile, wSortSet, wLstO, wListRg3, wStar, wFnA, wBg, wBgSet, wBgPop, wBgLen, wBgAug, wDic4, wIslower, wIsalpha, Bg.get, Bg.put, wStep, dLine_l, dLine_k, dLine_len, dLine_ix, dLine_sl, dLine_add, dLine_list, dPage_l, dPage_k, dPage_len, dPage_ix, dPage_sl, dPage_add, dPage_list, dInts_l, dInts_k, dInts_len, dInts_ix, dInts_sl, dInts_add, dInts_list, wLM, wVal, wTryEx, wIx1, bName]
      refine ⟨l, w, rfl, okl.1, okF_line okq hlq, okl.2, ?_⟩
      have e4 : foldP w b ++ foldLine w l = foldP w (b ++ [l]) := by unfold foldP; rw [List.flatMap_append]; simp
      have okb : okF (b ++ [l]) := ⟨by
        have h1 := okq.1
        rw [e2] at h1
        simp at h1 ⊢
        omega, fun m hm => okq.2 m (by
          rw [e2]
          rcases List.mem_append.mp hm with r | r
          · exact List.mem_append_left _ r
          · rw [List.mem_singleton.mp r]; simp)⟩
      have hsz := okF_small (okF_fold (w := w) okb)
      rw [← e4, List.length_append] at hsz
      refine ⟨_, rfl, by rw [List.length_map]; exact Nat.le_trans hsz (by decide), ?_⟩
      rw [← List.map_append, e4]
      exact k2 _ _ ⟨_, rfl⟩
theorem law_law_effect {ds : List Dt} {g Q E} (h : sp_law_effect ds g Q E) : w_law_effect { nx := fun _ g => Q .non g, rt := Q, ex := fun c d _ g => E c d g } (startE N_law_effect ds) g := by
  obtain ⟨l, rfl, ok, k⟩ := h
  simp [w_law_effect, wSeq, wIfS, wTest, wOp, wRg, wRgSet, wC, wVar, wSet, wRet, wFnR, wFn, wFnK, wCons, wNil, wLst, wCall, wM1, wNext, exE, Rg.get, Rg.put, startE, addD_i, addD_s, addD_l, eqD_i, neD_i, subD_i, mulD_i, mulD_s, mulD_l, modD_i, fdivD_i, powD_i, cmpD_i, ixD_l, ixD_k, ixD_t, ixD_s, minD_i, maxD_i, absD_i, lenD_l, lenD_k, lenD_t, lenD_s, strD_i, intD_i, intD_b, listD_l, listD_t, reprD_d, wSl, slD_l, slD_k, slD_s, wONone, wOSome, wItems, wRng1, bName, wTup, wIf, wUnp, bTup_t, bCons_c, bNil_n, at_sep, ite_str, wPar_c, wLc, wipeE, wFor, wEnum, pick, wOr, wAnd, wNot, wDrop, wAug, wApp, wExt, wAppIx, wPar2, wPar3, wZip, wSigns, wAndV, wOrV, wNotV, wUn, negD, wLc2, lc2Go, Option.some.injEq, exists_eq_left', wRetO, wLcCat, wGive, wTry, wClr, wIns, wSetIx, wMv, wMvF, wChain, wRev, intSD, wShut, wTryR, wForAppIx, wForApT, wAppIxT, wTupO, wIxO, isiD, bStar, wTryAs, wRaise, wFnV, wKit, wKits, wXv, wVarS, wForT, wForApp, wForPop, wAddO, wRngL, wSortR, wTupM, wSg, wSgSet, wSgNe, wSgPop, Sg.get, Sg.put, wWhile, wSortSet, wLstO, wListRg3, wStar, wFnA, wBg, wBgSet, wBgPop, wBgLen, wBgAug, wDic4, wIslower, wIsalpha, Bg.get, Bg.put, wStep, dLine_l, dLine_k, dLine_len, dLine_ix, dLine_sl, dLine_add, dLine_list, dPage_l, dPage_k, dPage_len, dPage_ix, dPage_sl, dPage_add, dPage_list, dInts_l, dInts_k, dInts_len, dInts_ix, dInts_sl, dInts_add, dInts_list, wLM, wVal, wTryEx, wIx1, N_law_effect]
  refine for_map l Dt.int (fun a env g => ∃ x2, env = [some (dInts l), some (dInts (mins a)), x2, none]) ?_ ?_ _ _ ⟨none, rfl⟩
  · rintro env g ⟨x2, rfl⟩
    have hm : ∀ y ∈ mins l, y.natAbs < 10 ^ 39 := fun y hy => by
      have := ok.2 y (mins_mem hy)
      omega
    have hlen : (mins l).length ≤ 1000000 := Nat.le_trans (mins_len l) ok.1
    simp [wSeq, wIfS, wTest, wOp, wRg, wRgSet, wC, wVar, wSet, wRet, wFnR, wFn, wFnK, wCons, wNil, wLst, wCall, wM1, wNext, exE, Rg.get, Rg.put, startE, addD_i, addD_s, addD_l, eqD_i, neD_i, subD_i, mulD_i, mulD_s, mulD_l, modD_i, fdivD_i, powD_i, cmpD_i, ixD_l, ixD_k, ixD_t, ixD_s, minD_i, maxD_i, absD_i, lenD_l, lenD_k, lenD_t, lenD_s, strD_i, intD_i, intD_b, listD_l, listD_t, reprD_d, wSl, slD_l, slD_k, slD_s, wONone, wOSome, wItems, wRng1, bName, wTup, wIf, wUnp, bTup_t, bCons_c, bNil_n, at_sep, ite_str, wPar_c, wLc, wipeE, wFor, wEnum, pick, wOr, wAnd, wNot, wDrop, wAug, wApp, wExt, wAppIx, wPar2, wPar3, wZip, wSigns, wAndV, wOrV, wNotV, wUn, negD, wLc2, lc2Go, Option.some.injEq, exists_eq_left', wRetO, wLcCat, wGive, wTry, wClr, wIns, wSetIx, wMv, wMvF, wChain, wRev, intSD, wShut, wTryR, wForAppIx, wForApT, wAppIxT, wTupO, wIxO, isiD, bStar, wTryAs, wRaise, wFnV, wKit, wKits, wXv, wVarS, wForT, wForApp, wForPop, wAddO, wRngL, wSortR, wTupM, wSg, wSgSet, wSgNe, wSgPop, Sg.get, Sg.put, wWhile, wSortSet, wLstO, wListRg3, wStar, wFnA, wBg, wBgSet, wBgPop, wBgLen, wBgAug, wDic4, wIslower, wIsalpha, Bg.get, Bg.put, wStep, dLine_l, dLine_k, dLine_len, dLine_ix, dLine_sl, dLine_add, dLine_list, dPage_l, dPage_k, dPage_len, dPage_ix, dPage_sl, dPage_add, dPage_list, dInts_l, dInts_k, dInts_len, dInts_ix, dInts_sl, dInts_add, dInts_list, wLM, wVal, wTryEx, wIx1]
    have fin : ∀ r : List Int, r = effL l → Q (.lst (r.map .int)) g := fun r e => by rw [e]; exact k
    have tail : (∀ x, (mins l).getLast? = some x → ¬ x ≤ 2) → lcGo (bName 2) (wAnd (wTest (wOp (inDat false) (wOp subD (wVar 2) (wC (.int 2))) (wVar 1))) (wTest (wOp (inDat true) (wOp subD (wVar 2) (wC (.int 1))) (wVar 1)))) (wOp subD (wVar 2) (wC (.int 1)))
        (fun rs g2 => addD (dInts (mins l)) (Dt.lst rs) fun z => sortedD [z] fun z => ∃ ds, z = Dt.lst ds ∧ Q (Dt.lst ds.reverse) g2) (List.map Dt.int (mins l)) [some (dInts l), some (dInts (mins l)), none, none] g [] := fun hx => by
      refine lc_filter Dt.int (fun w => .int (w - 1)) (fun w => decide (w - 2 ∈ mins l) && !decide (w - 1 ∈ mins l)) _ _ (mins l) [] (by show 0 + _ ≤ 2 ^ 24; omega) ?_ ?_ ?_
      · intro w hw K kk
        simp [wSeq, wIfS, wTest, wOp, wRg, wRgSet, wC, wVar, wSet, wRet, wFnR, wFn, wFnK, wCons, wNil, wLst, wCall, wM1, wNext, exE, Rg.get, Rg.put, startE, addD_i, addD_s, addD_l, eqD_i, neD_i, subD_i, mulD_i, mulD_s, mulD_l, modD_i, fdivD_i, powD_i, cmpD_i, ixD_l, ixD_k, ixD_t, ixD_s, minD_i, maxD_i, absD_i, lenD_l, lenD_k, lenD_t, lenD_s, strD_i, intD_i, intD_b, listD_l, listD_t, reprD_d, wSl, slD_l, slD_k, slD_s, wONone, wOSome, wItems, wRng1, bName, wTup, wIf, wUnp, bTup_t, bCons_c, bNil_n, at_sep, ite_str, wPar_c, wLc, wipeE, wFor, wEnum, pick, wOr, wAnd, wNot, wDrop, wAug, wApp, wExt, wAppIx, wPar2, wPar3, wZip, wSigns, wAndV, wOrV, wNotV, wUn, negD, wLc2, lc2Go, Option.some.injEq, exists_eq_left', wRetO, wLcCat, wGive, wTry, wClr, wIns, wSetIx, wMv, wMvF, wChain, wRev, intSD, wShut, wTryR, wForAppIx, wForApT, wAppIxT, wTupO, wIxO, isiD, bStar, wTryAs, wRaise, wFnV, wKit, wKits, wXv, wVarS, wForT, wForApp, wForPop, wAddO, wRngL, wSortR, wTupM, wSg, wSgSet, wSgNe, wSgPop, Sg.get, Sg.put, wWhile, wSortSet, wLstO, wListRg3, wStar, wFnA, wBg, wBgSet, wBgPop, wBgLen, wBgAug, wDic4, wIslower, wIsalpha, Bg.get, Bg.put, wStep, dLine_l, dLine_k, dLine_len, dLine_ix, dLine_sl, dLine_add, dLine_list, dPage_l, dPage_k, dPage_len, dPage_ix, dPage_sl, dPage_add, dPage_list, dInts_l, dInts_k, dInts_len, dInts_ix, dInts_sl, dInts_add, dInts_list, wLM, wVal, wTryEx, wIx1]
        refine .inl ⟨_, _, rfl, .inl rfl, ?_⟩
        by_cases h1 : w - 2 ∈ mins l
        · refine .inr ⟨by simp [h1], .inl ⟨_, _, rfl, .inl rfl, ?_⟩⟩
          by_cases h2 : w - 1 ∈ mins l
          · exact .inl ⟨by simp [h2], by simpa [h1, h2] using kk⟩
          · exact .inr ⟨by simp [h2], by simpa [h1, h2] using kk⟩
        · exact .inl ⟨by simp [h1], by simpa [h1] using kk⟩
      · intro w hw hp K kk
        simp [wSeq, wIfS, wTest, wOp, wRg, wRgSet, wC, wVar, wSet, wRet, wFnR, wFn, wFnK, wCons, wNil, wLst, wCall, wM1, wNext, exE, Rg.get, Rg.put, startE, addD_i, addD_s, addD_l, eqD_i, neD_i, subD_i, mulD_i, mulD_s, mulD_l, modD_i, fdivD_i, powD_i, cmpD_i, ixD_l, ixD_k, ixD_t, ixD_s, minD_i, maxD_i, absD_i, lenD_l, lenD_k, lenD_t, lenD_s, strD_i, intD_i, intD_b, listD_l, listD_t, reprD_d, wSl, slD_l, slD_k, slD_s, wONone, wOSome, wItems, wRng1, bName, wTup, wIf, wUnp, bTup_t, bCons_c, bNil_n, at_sep, ite_str, wPar_c, wLc, wipeE, wFor, wEnum, pick, wOr, wAnd, wNot, wDrop, wAug, wApp, wExt, wAppIx, wPar2, wPar3, wZip, wSigns, wAndV, wOrV, wNotV, wUn, negD, wLc2, lc2Go, Option.some.injEq, exists_eq_left', wRetO, wLcCat, wGive, wTry, wClr, wIns, wSetIx, wMv, wMvF, wChain, wRev, intSD, wShut, wTryR, wForAppIx, wForApT, wAppIxT, wTupO, wIxO, isiD, bStar, wTryAs, wRaise, wFnV, wKit, wKits, wXv, wVarS, wForT, wForApp, wForPop, wAddO, wRngL, wSortR, wTupM, wSg, wSgSet, wSgNe, wSgPop, Sg.get, Sg.put, wWhile, wSortSet, wLstO, wListRg3, wStar, wFnA, wBg, wBgSet, wBgPop, wBgLen, wBgAug, wDic4, wIslower, wIsalpha, Bg.get, Bg.put, wStep, dLine_l, dLine_k, dLine_len, dLine_ix, dLine_sl, dLine_add, dLine_list, dPage_l, dPage_k, dPage_len, dPage_ix, dPage_sl, dPage_add, dPage_list, dInts_l, dInts_k, dInts_len, dInts_ix, dInts_sl, dInts_add, dInts_list, wLM, wVal, wTryEx, wIx1]
        exact kk
      · rw [List.nil_append, show (List.map (fun w : Int => Dt.int (w - 1)) (List.filter (fun w => decide (w - 2 ∈ mins l) && !decide (w - 1 ∈ mins l)) (mins l))) = ((List.filter (fun w => decide (w - 2 ∈ mins l) && !decide (w - 1 ∈ mins l)) (mins l)).map fun w => w - 1).map Dt.int by rw [List.map_map]; rfl]
        show addD (dInts (mins l)) (dInts _) _
        have hfl := List.length_filter_le (fun w => decide (w - 2 ∈ mins l) && !decide (w - 1 ∈ mins l)) (mins l)
        rw [dInts_add]
        refine ⟨by simp only [List.length_map]; show _ ≤ 2 ^ 24; omega, _, rfl, fun r hp hs => ⟨_, rfl, ?_⟩⟩
        rw [← List.map_reverse]
        have := fillD_ok (mins_sd l) (r := r.reverse) ((List.reverse_perm r).trans hp) (by rw [List.pairwise_reverse]; exact hs)
        exact fin r.reverse (effL_of rfl hx this.1 this.2)
    cases h0 : (mins l).isEmpty with
    | true =>
      have h1 : mins l = [] := List.isEmpty_iff.mp h0
      exact .inl ⟨h1, tail fun x hx => by rw [h1] at hx; cases hx⟩
    | false =>
      obtain ⟨x, hx⟩ := getLast_some h0
      refine .inr ⟨by cases hq : mins l with | nil => rw [hq] at h0; cases h0 | cons _ _ => simp, _, at_last hx, ?_⟩
      show cmpD _ (.int x) (.int 3) _
      rw [cmpD_i]
      by_cases hw : x < 3
      · exact .inr ⟨by rw [decide_eq_true hw], by decide, fin [2] (effL_low hx (by omega)).symm⟩
      · exact .inl ⟨by rw [decide_eq_false hw], tail fun y hy => by rw [hx] at hy; cases hy; omega⟩
  · rintro a w b env g K e ⟨x2, rfl⟩ kk
    have hlen : (mins a).length < sizeLine := by
      have := mins_len a
      have := ok.1
      rw [e, List.length_append] at this
      show _ < 2 ^ 24
      omega
    have go : K [some (dInts l), some (dInts (minStep (mins a) w)), some (.int w), none] g := kk _ _ ⟨some (.int w), by rw [mins_snoc]⟩
    simp [wSeq, wIfS, wTest, wOp, wRg, wRgSet, wC, wVar, wSet, wRet, wFnR, wFn, wFnK, wCons, wNil, wLst, wCall, wM1, wNext, exE, Rg.get, Rg.put, startE, addD_i, addD_s, addD_l, eqD_i, neD_i, subD_i, mulD_i, mulD_s, mulD_l, modD_i, fdivD_i, powD_i, cmpD_i, ixD_l, ixD_k, ixD_t, ixD_s, minD_i, maxD_i, absD_i, lenD_l, lenD_k, lenD_t, lenD_s, strD_i, intD_i, intD_b, listD_l, listD_t, reprD_d, wSl, slD_l, slD_k, slD_s, wONone, wOSome, wItems, wRng1, bName, wTup, wIf, wUnp, bTup_t, bCons_c, bNil_n, at_sep, ite_str, wPar_c, wLc, wipeE, wFor, wEnum, pick, wOr, wAnd, wNot, wDrop, wAug, wApp, wExt, wAppIx, wPar2, wPar3, wZip, wSigns, wAndV, wOrV, wNotV, wUn, negD, wLc2, lc2Go, Option.some.injEq, exists_eq_left', wRetO, wLcCat, wGive, wTry, wClr, wIns, wSetIx, wMv, wMvF, wChain, wRev, intSD, wShut, wTryR, wForAppIx, wForApT, wAppIxT, wTupO, wIxO, isiD, bStar, wTryAs, wRaise, wFnV, wKit, wKits, wXv, wVarS, wForT, wForApp, wForPop, wAddO, wRngL, wSortR, wTupM, wSg, wSgSet, wSgNe, wSgPop, Sg.get, Sg.put, wWhile, wSortSet, wLstO, wListRg3, wStar, wFnA, wBg, wBgSet, wBgPop, wBgLen, wBgAug, wDic4, wIslower, wIsalpha, Bg.get, Bg.put, wStep, dLine_l, dLine_k, dLine_len, dLine_ix, dLine_sl, dLine_add, dLine_list, dPage_l, dPage_k, dPage_len, dPage_ix, dPage_sl, dPage_add, dPage_list, dInts_l, dInts_k, dInts_len, dInts_ix, dInts_sl, dInts_add, dInts_list, wLM, wVal, wTryEx, wIx1, bName]
    unfold minStep at go
    cases h0 : (mins a).isEmpty with
    | true =>
      have h1 : mins a = [] := List.isEmpty_iff.mp h0
      rw [h1] at go ⊢
      exact .inr ⟨rfl, by show (0 : Nat) < sizeLine; decide, go⟩
    | false =>
      obtain ⟨x, hx⟩ := getLast_some h0
      rw [hx] at go
      simp only at go
      refine .inl ⟨(fun z => by rw [z] at h0; exact absurd h0 (by simp)), _, at_last hx, ?_⟩
      show cmpD _ (.int w) (.int x) _
      rw [cmpD_i]
      by_cases hw : w < x
      · rw [if_pos hw] at go
        exact .inr ⟨by rw [decide_eq_true hw], hlen, by simpa [dInts] using go⟩
      · rw [if_neg hw] at go
        exact .inl ⟨by rw [decide_eq_false hw], go⟩
theorem law_law_sizes {r : BgA} {ds : List Dt} {g : Bg} {Q E} (h : sp_law_sizes r ds g Q E) : w_law_sizes r { nx := fun _ g => Q .non g, rt := Q, ex := fun c d _ g => E c d g } (startE N_law_sizes ds) g := by
  obtain ⟨a, n, F, rfl, h0, h1, h2, h3, ok, k⟩ := h
  simp [w_law_sizes, wSeq, wIfS, wTest, wOp, wRg, wRgSet, wC, wVar, wSet, wRet, wFnR, wFn, wFnK, wCons, wNil, wLst, wCall, wM1, wNext, exE, Rg.get, Rg.put, startE, addD_i, addD_s, addD_l, eqD_i, neD_i, subD_i, mulD_i, mulD_s, mulD_l, modD_i, fdivD_i, powD_i, cmpD_i, ixD_l, ixD_k, ixD_t, ixD_s, minD_i, maxD_i, absD_i, lenD_l, lenD_k, lenD_t, lenD_s, strD_i, intD_i, intD_b, listD_l, listD_t, reprD_d, wSl, slD_l, slD_k, slD_s, wONone, wOSome, wItems, wRng1, bName, wTup, wIf, wUnp, bTup_t, bCons_c, bNil_n, at_sep, ite_str, wPar_c, wLc, wipeE, wFor, wEnum, pick, wOr, wAnd, wNot, wDrop, wAug, wApp, wExt, wAppIx, wPar2, wPar3, wZip, wSigns, wAndV, wOrV, wNotV, wUn, negD, wLc2, lc2Go, Option.some.injEq, exists_eq_left', wRetO, wLcCat, wGive, wTry, wClr, wIns, wSetIx, wMv, wMvF, wChain, wRev, intSD, wShut, wTryR, wForAppIx, wForApT, wAppIxT, wTupO, wIxO, isiD, bStar, wTryAs, wRaise, wFnV, wKit, wKits, wXv, wVarS, wForT, wForApp, wForPop, wAddO, wRngL, wSortR, wTupM, wSg, wSgSet, wSgNe, wSgPop, Sg.get, Sg.put, wWhile, wSortSet, wLstO, wListRg3, wStar, wFnA, wBg, wBgSet, wBgPop, wBgLen, wBgAug, wDic4, wIslower, wIsalpha, Bg.get, Bg.put, wStep, dLine_l, dLine_k, dLine_len, dLine_ix, dLine_sl, dLine_add, dLine_list, dPage_l, dPage_k, dPage_len, dPage_ix, dPage_sl, dPage_add, dPage_list, dInts_l, dInts_k, dInts_len, dInts_ix, dInts_sl, dInts_add, dInts_list, wLM, wVal, wTryEx, wIx1, N_law_sizes]
  refine drB (F := F + 299) (by omega) (by omega) ok fun v1 g1 a1 b1 ok1 => ⟨_, rfl, by omega, by omega, ?_⟩
  refine for_rng v1.toNat (fun i env g => BgOk (F + 4 * (v1.toNat - i)) g ∧ ∃ (f : List Int) (x4 x5 : Option Dt), f.length = i ∧ (∀ w ∈ f, 1 ≤ w ∧ w ≤ n) ∧ env = [some (.raw (.ref r.1)), some (.int a), some (.int n), some (dInts f), x4, x5]) ?_ ?_ _ _ ⟨ok1.le (by omega), [], none, none, rfl, by simp, rfl⟩
  · rintro env g ⟨ok, f, x4, x5, hl, hf, rfl⟩
    simp [wSeq, wIfS, wTest, wOp, wRg, wRgSet, wC, wVar, wSet, wRet, wFnR, wFn, wFnK, wCons, wNil, wLst, wCall, wM1, wNext, exE, Rg.get, Rg.put, startE, addD_i, addD_s, addD_l, eqD_i, neD_i, subD_i, mulD_i, mulD_s, mulD_l, modD_i, fdivD_i, powD_i, cmpD_i, ixD_l, ixD_k, ixD_t, ixD_s, minD_i, maxD_i, absD_i, lenD_l, lenD_k, lenD_t, lenD_s, strD_i, intD_i, intD_b, listD_l, listD_t, reprD_d, wSl, slD_l, slD_k, slD_s, wONone, wOSome, wItems, wRng1, bName, wTup, wIf, wUnp, bTup_t, bCons_c, bNil_n, at_sep, ite_str, wPar_c, wLc, wipeE, wFor, wEnum, pick, wOr, wAnd, wNot, wDrop, wAug, wApp, wExt, wAppIx, wPar2, wPar3, wZip, wSigns, wAndV, wOrV, wNotV, wUn, negD, wLc2, lc2Go, Option.some.injEq, exists_eq_left', wRetO, wLcCat, wGive, wTry, wClr, wIns, wSetIx, wMv, wMvF, wChain, wRev, intSD, wShut, wTryR, wForAppIx, wForApT, wAppIxT, wTupO, wIxO, isiD, bStar, wTryAs, wRaise, wFnV, wKit, wKits, wXv, wVarS, wForT, wForApp, wForPop, wAddO, wRngL, wSortR, wTupM, wSg, wSgSet, wSgNe, wSgPop, Sg.get, Sg.put, wWhile, wSortSet, wLstO, wListRg3, wStar, wFnA, wBg, wBgSet, wBgPop, wBgLen, wBgAug, wDic4, wIslower, wIsalpha, Bg.get, Bg.put, wStep, dLine_l, dLine_k, dLine_len, dLine_ix, dLine_sl, dLine_add, dLine_list, dPage_l, dPage_k, dPage_len, dPage_ix, dPage_sl, dPage_add, dPage_list, dInts_l, dInts_k, dInts_len, dInts_ix, dInts_sl, dInts_add, dInts_list, wLM, wVal, wTryEx, wIx1]
    exact k f g (by omega) hf (ok.le (by omega))
  · rintro i env g K hi ⟨ok, f, x4, x5, hl, hf, rfl⟩ kk
    simp [wSeq, wIfS, wTest, wOp, wRg, wRgSet, wC, wVar, wSet, wRet, wFnR, wFn, wFnK, wCons, wNil, wLst, wCall, wM1, wNext, exE, Rg.get, Rg.put, startE, addD_i, addD_s, addD_l, eqD_i, neD_i, subD_i, mulD_i, mulD_s, mulD_l, modD_i, fdivD_i, powD_i, cmpD_i, ixD_l, ixD_k, ixD_t, ixD_s, minD_i, maxD_i, absD_i, lenD_l, lenD_k, lenD_t, lenD_s, strD_i, intD_i, intD_b, listD_l, listD_t, reprD_d, wSl, slD_l, slD_k, slD_s, wONone, wOSome, wItems, wRng1, bName, wTup, wIf, wUnp, bTup_t, bCons_c, bNil_n, at_sep, ite_str, wPar_c, wLc, wipeE, wFor, wEnum, pick, wOr, wAnd, wNot, wDrop, wAug, wApp, wExt, wAppIx, wPar2, wPar3, wZip, wSigns, wAndV, wOrV, wNotV, wUn, negD, wLc2, lc2Go, Option.some.injEq, exists_eq_left', wRetO, wLcCat, wGive, wTry, wClr, wIns, wSetIx, wMv, wMvF, wChain, wRev, intSD, wShut, wTryR, wForAppIx, wForApT, wAppIxT, wTupO, wIxO, isiD, bStar, wTryAs, wRaise, wFnV, wKit, wKits, wXv, wVarS, wForT, wForApp, wForPop, wAddO, wRngL, wSortR, wTupM, wSg, wSgSet, wSgNe, wSgPop, Sg.get, Sg.put, wWhile, wSortSet, wLstO, wListRg3, wStar, wFnA, wBg, wBgSet, wBgPop, wBgLen, wBgAug, wDic4, wIslower, wIsalpha, Bg.get, Bg.put, wStep, dLine_l, dLine_k, dLine_len, dLine_ix, dLine_sl, dLine_add, dLine_list, dPage_l, dPage_k, dPage_len, dPage_ix, dPage_sl, dPage_add, dPage_list, dInts_l, dInts_k, dInts_len, dInts_ix, dInts_sl, dInts_add, dInts_list, wLM, wVal, wTryEx, wIx1]
    have step : ∀ (z : Int) g', 1 ≤ z → z ≤ n → BgOk (F + 4 * (v1.toNat - (i + 1))) g' → f.length < sizeLine ∧ K [some (.raw (.ref r.1)), some (.int a), some (.int n), some (.lst (f.map Dt.int ++ [Dt.int z])), some (.int i), some (.int z)] g' := fun z g' hz1 hz2 ok' => by
      refine ⟨by show _ < 2 ^ 24; omega, ?_⟩
      have := kk [some (.raw (.ref r.1)), some (.int a), some (.int n), some (dInts (f ++ [z])), some (.int i), some (.int z)] g' ⟨ok', f ++ [z], _, _, by simp [hl], fun w hw => ?_, rfl⟩
      · simpa [dInts] using this
      · rcases List.mem_append.mp hw with q | q
        · exact hf w q
        · rw [List.mem_singleton.mp q]; exact ⟨hz1, hz2⟩
    refine drB (F := F + 4 * (v1.toNat - (i + 1)) + 3) (by omega) (by omega) (ok.le (by omega)) fun v2 g2 a2 b2 ok2 => ?_
    show addD (.int 1) (.int v2) _
    rw [addD_i]
    cases hfe : f with
    | nil =>
      have := step (1 + v2) g2 (by omega) (by omega) (ok2.le (by omega))
      rw [hfe] at this
      exact .inl ⟨rfl, this⟩
    | cons y0 f0 =>
      rw [← hfe]
      refine .inr ⟨by rw [hfe]; simp, drB (F := F + 4 * (v1.toNat - (i + 1)) + 2) (by decide) (by decide) ok2 fun v3 g3 a3 b3 ok3 => ?_⟩
      show cmpD _ (.int v3) (.int 0) _
      rw [cmpD_i]
      by_cases h : 0 < v3
      · have hne : f.isEmpty = false := by rw [hfe]; rfl
        obtain ⟨x, hx⟩ := getLast_some hne
        have hxm := hf x (last_mem hx)
        refine .inr ⟨by rw [decide_eq_true h], _, at_last hx, ?_⟩
        rw [subD_i]
        refine drB (F := F + 4 * (v1.toNat - (i + 1)) + 1) (by decide) (by decide) ok3 fun v4 g4 a4 b4 ok4 => ?_
        show subD (.int (x - 1)) (.int v4) _
        rw [subD_i]
        refine .inl ⟨_, _, rfl, trivial, step _ g4 ?_ ?_ (ok4.le (by omega))⟩
        · split <;> omega
        · split <;> omega
      · exact .inl ⟨by rw [decide_eq_false h], step _ g3 (by omega) (by omega) (ok3.le (by omega))⟩
end Vl

/-! VRd: widths that are checked, and read from their text, where nothing is raised. -/
namespace Vl
open PySem L2
def sp_check_widths : Spec Unit := fun ds _ Q _ => ∃ l : List Int, ds = [dInts l] ∧ (∀ w ∈ l, 1 ≤ w) ∧ Q .non ()
def sp_width_in : Spec Unit := fun ds _ Q _ => ∃ n : Nat, ds = [.str (txt n)] ∧ 1 ≤ n ∧ n < 10 ^ 40 ∧ Q (.int n) ()
def wText (l : List Nat) : Str := if l = [] then "none" else Str.join " > " (l.map fun n : Nat => txt n)
def sp_read_widths : Spec Unit := fun ds _ Q _ => ∃ l : List Nat, ds = [.str (wText l)] ∧ l.length ≤ 500 ∧ (∀ n ∈ l, 1 ≤ n ∧ n < 10 ^ 40) ∧ Q (dInts (l.map fun n : Nat => (n : Int))) ()
def sp_effect : Spec Unit := fun ds _ Q _ => ∃ l, ds = [dInts l] ∧ okI l ∧ (∀ w ∈ l, 1 ≤ w) ∧ Q (dInts (effL l)) ()
abbrev N_check_widths : List Str := ["widths", "index", "width"]
def w_check_widths : WS Unit :=
 (wFor (wEnum (wCons (wVar 0) wNil)) (bTup (bCons (bName 1) (bCons (bName 2) bNil)))
 (wIfS (wTest (wOp (cmpD fun i j => decide (i < j)) (wVar 2) (wC (.int 1))))
 wNever
 wNext))
abbrev N_effect : List Str := ["widths"]
def w_effect : WS Unit :=
 (wSeq (wDrop (wFn sp_check_widths (wCons (wVar 0) wNil)))
 (wRet (wFn sp_effect_of (wCons (wVar 0) wNil))))
abbrev N_width_in : List Str := ["word", "sign"]
def w_width_in : WS Unit :=
 (wSeq (wIfS (wOr (wNot (wTest (wChain (cmpD fun i j => decide (i ≤ j)) (cmpD fun i j => decide (i ≤ j)) (wC (.int 1)) (wCall lenD (wCons (wVar 0) wNil)) (wC (.int 40))))) (wOr (wTest (wOp eqD (wOp ixD (wVar 0) (wC (.int 0))) (wC (.str "0")))) (wNot (wTest (wCall allD (wCons (wLc [1] (wSigns (wVar 0)) (bName 1) wYes (wOp (inDat false) (wVar 1) (wC (.str "0123456789")))) wNil))))))
 (wRet (wC .non))
 wNext)
 (wRet (wCall intSD (wCons (wVar 0) wNil))))
abbrev N_read_widths : List Str := ["text", "widths", "word"]
def w_read_widths : WS Unit :=
 (wSeq (wSet 1 (wIf (wTest (wOp neD (wVar 0) (wC (.str "none")))) (wLc [2] (wItems (wM1 splitD (wVar 0) (wC (.str " > ")))) (bName 2) wYes (wFn sp_width_in (wCons (wVar 2) wNil))) (wLst wNil)))
 (wSeq (wIfS (wTest (wOp (inNon false) (wC .non) (wVar 1)))
 wNever
 wNext)
 (wRetO 1)))
open TL in
theorem numL_head : ∀ n : Nat, 1 ≤ n → ∃ c cs, numL n = c :: cs ∧ 49 ≤ c := by
  intro n
  induction n using Nat.strongRecOn with
  | _ n ih =>
    intro h
    by_cases h9 : n < 10
    · exact ⟨48 + n, [], numL_lt h9, by omega⟩
    · obtain ⟨c, cs, e, hc⟩ := ih (n / 10) (by omega) (by omega)
      exact ⟨c, cs ++ [48 + n % 10], by rw [numL_step (by omega), e]; rfl, hc⟩
theorem len_width_in {ds : List Dt} {g Q E} (h : sp_width_in ds g Q E) : ds.length = 1 := by obtain ⟨_, rfl, _⟩ := h; rfl
theorem len_read_widths {ds : List Dt} {g Q E} (h : sp_read_widths ds g Q E) : ds.length = 1 := by obtain ⟨_, rfl, _⟩ := h; rfl
theorem len_check_widths {ds : List Dt} {g Q E} (h : sp_check_widths ds g Q E) : ds.length = 1 := by obtain ⟨_, rfl, _⟩ := h; rfl
theorem len_effect {ds : List Dt} {g Q E} (h : sp_effect ds g Q E) : ds.length = 1 := by obtain ⟨_, rfl, _⟩ := h; rfl
theorem law_check_widths {ds : List Dt} {g Q E} (h : sp_check_widths ds g Q E) : w_check_widths { nx := fun _ g => Q .non g, rt := Q, ex := fun c d _ g => E c d g } (startE N_check_widths ds) g := by
  obtain ⟨l, rfl, ok, k⟩ := h
  simp [w_check_widths, wSeq, wIfS, wTest, wOp, wRg, wRgSet, wC, wVar, wSet, wRet, wFnR, wFn, wFnK, wCons, wNil, wLst, wCall, wM1, wNext, exE, Rg.get, Rg.put, startE, addD_i, addD_s, addD_l, eqD_i, neD_i, subD_i, mulD_i, mulD_s, mulD_l, modD_i, fdivD_i, powD_i, cmpD_i, ixD_l, ixD_k, ixD_t, ixD_s, minD_i, maxD_i, absD_i, lenD_l, lenD_k, lenD_t, lenD_s, strD_i, intD_i, intD_b, listD_l, listD_t, reprD_d, wSl, slD_l, slD_k, slD_s, wONone, wOSome, wItems, wRng1, bName, wTup, wIf, wUnp, bTup_t, bCons_c, bNil_n, at_sep, ite_str, wPar_c, wLc, wipeE, wFor, wEnum, pick, wOr, wAnd, wNot, wDrop, wAug, wApp, wExt, wAppIx, wPar2, wPar3, wZip, wSigns, wAndV, wOrV, wNotV, wUn, negD, wLc2, lc2Go, Option.some.injEq, exists_eq_left', wRetO, wLcCat, wGive, wTry, wClr, wIns, wSetIx, wMv, wMvF, wChain, wRev, intSD, wShut, wTryR, wForAppIx, wForApT, wAppIxT, wTupO, wIxO, isiD, bStar, wTryAs, wRaise, wFnV, wKit, wKits, wXv, wVarS, wForT, wForApp, wForPop, wAddO, wRngL, wSortR, wTupM, wSg, wSgSet, wSgNe, wSgPop, Sg.get, Sg.put, wWhile, wSortSet, wLstO, wListRg3, wStar, wFnA, wBg, wBgSet, wBgPop, wBgLen, wBgAug, wDic4, wIslower, wIsalpha, Bg.get, Bg.put, wStep, dLine_l, dLine_k, dLine_len, dLine_ix, dLine_sl, dLine_add, dLine_list, dPage_l, dPage_k, dPage_len, dPage_ix, dPage_sl, dPage_add, dPage_list, dInts_l, dInts_k, dInts_len, dInts_ix, dInts_sl, dInts_add, dInts_list, wLM, wVal, wTryEx, wIx1, N_check_widths]
  refine for_enum (fun n rest env g => (∃ b : List Int, rest = b.map Dt.int ∧ ∀ w ∈ b, 1 ≤ w) ∧ ∃ (x y : Option Dt), env = [some (dInts l), x, y]) ?_ ?_ _ _ _ ⟨⟨l, rfl, ok⟩, _, _, rfl⟩
  · rintro n env g _
    exact k
  · rintro n d rest env g K ⟨⟨b, e, hb⟩, x, y, rfl⟩ kk
    cases b with
    | nil => cases e
    | cons w b =>
      cases e
      have := hb w List.mem_cons_self
      simp [wSeq, wIfS, wTest, wOp, wRg, wRgSet, wC, wVar, wSet, wRet, wFnR, wFn, wFnK, wCons, wNil, wLst, wCall, wM1, wNext, exE, Rg.get, Rg.put, startE, addD_i, addD_s, addD_l, eqD_i, neD_i, subD_i, mulD_i, mulD_s, mulD_l, modD_i, fdivD_i, powD_i, cmpD_i, ixD_l, ixD_k, ixD_t, ixD_s, minD_i, maxD_i, absD_i, lenD_l, lenD_k, lenD_t, lenD_s, strD_i, intD_i, intD_b, listD_l, listD_t, reprD_d, wSl, slD_l, slD_k, slD_s, wONone, wOSome, wItems, wRng1, bName, wTup, wIf, wUnp, bTup_t, bCons_c, bNil_n, at_sep, ite_str, wPar_c, wLc, wipeE, wFor, wEnum, pick, wOr, wAnd, wNot, wDrop, wAug, wApp, wExt, wAppIx, wPar2, wPar3, wZip, wSigns, wAndV, wOrV, wNotV, wUn, negD, wLc2, lc2Go, Option.some.injEq, exists_eq_left', wRetO, wLcCat, wGive, wTry, wClr, wIns, wSetIx, wMv, wMvF, wChain, wRev, intSD, wShut, wTryR, wForAppIx, wForApT, wAppIxT, wTupO, wIxO, isiD, bStar, wTryAs, wRaise, wFnV, wKit, wKits, wXv, wVarS, wForT, wForApp, wForPop, wAddO, wRngL, wSortR, wTupM, wSg, wSgSet, wSgNe, wSgPop, Sg.get, Sg.put, wWhile, wSortSet, wLstO, wListRg3, wStar, wFnA, wBg, wBgSet, wBgPop, wBgLen, wBgAug, wDic4, wIslower, wIsalpha, Bg.get, Bg.put, wStep, dLine_l, dLine_k, dLine_len, dLine_ix, dLine_sl, dLine_add, dLine_list, dPage_l, dPage_k, dPage_len, dPage_ix, dPage_sl, dPage_add, dPage_list, dInts_l, dInts_k, dInts_len, dInts_ix, dInts_sl, dInts_add, dInts_list, wLM, wVal, wTryEx, wIx1, wNever]
      exact ⟨by omega, kk _ _ ⟨⟨b, rfl, fun w hw => hb w (List.mem_cons_of_mem _ hw)⟩, _, _, rfl⟩⟩
theorem law_effect {ds : List Dt} {g Q E} (h : sp_effect ds g Q E) : w_effect { nx := fun _ g => Q .non g, rt := Q, ex := fun c d _ g => E c d g } (startE N_effect ds) g := by
  obtain ⟨l, rfl, ok, ok1, k⟩ := h
  simp [w_effect, wSeq, wIfS, wTest, wOp, wRg, wRgSet, wC, wVar, wSet, wRet, wFnR, wFn, wFnK, wCons, wNil, wLst, wCall, wM1, wNext, exE, Rg.get, Rg.put, startE, addD_i, addD_s, addD_l, eqD_i, neD_i, subD_i, mulD_i, mulD_s, mulD_l, modD_i, fdivD_i, powD_i, cmpD_i, ixD_l, ixD_k, ixD_t, ixD_s, minD_i, maxD_i, absD_i, lenD_l, lenD_k, lenD_t, lenD_s, strD_i, intD_i, intD_b, listD_l, listD_t, reprD_d, wSl, slD_l, slD_k, slD_s, wONone, wOSome, wItems, wRng1, bName, wTup, wIf, wUnp, bTup_t, bCons_c, bNil_n, at_sep, ite_str, wPar_c, wLc, wipeE, wFor, wEnum, pick, wOr, wAnd, wNot, wDrop, wAug, wApp, wExt, wAppIx, wPar2, wPar3, wZip, wSigns, wAndV, wOrV, wNotV, wUn, negD, wLc2, lc2Go, Option.some.injEq, exists_eq_left', wRetO, wLcCat, wGive, wTry, wClr, wIns, wSetIx, wMv, wMvF, wChain, wRev, intSD, wShut, wTryR, wForAppIx, wForApT, wAppIxT, wTupO, wIxO, isiD, bStar, wTryAs, wRaise, wFnV, wKit, wKits, wXv, wVarS, wForT, wForApp, wForPop, wAddO, wRngL, wSortR, wTupM, wSg, wSgSet, wSgNe, wSgPop, Sg.get, Sg.put, wWhile, wSortSet, wLstO, wListRg3, wStar, wFnA, wBg, wBgSet, wBgPop, wBgLen, wBgAug, wDic4, wIslower, wIsalpha, Bg.get, Bg.put, wStep, dLine_l, dLine_k, dLine_len, dLine_ix, dLine_sl, dLine_add, dLine_list, dPage_l, dPage_k, dPage_len, dPage_ix, dPage_sl, dPage_add, dPage_list, dInts_l, dInts_k, dInts_len, dInts_ix, dInts_sl, dInts_add, dInts_list, wLM, wVal, wTryEx, wIx1, N_effect]
  exact ⟨l, rfl, ok1, l, rfl, ok, k⟩
open TL PySem.NumText in
theorem law_width_in {ds : List Dt} {g Q E} (h : sp_width_in ds g Q E) : w_width_in { nx := fun _ g => Q .non g, rt := Q, ex := fun c d _ g => E c d g } (startE N_width_in ds) g := by
  obtain ⟨n, rfl, h1, h2, k⟩ := h
  have hl := txt_len h2
  have hc := txt_cps n
  obtain ⟨c, cs, e, h49⟩ := numL_head n h1
  have hd := numL_digits n
  have hlen : 1 ≤ (txt (n : Int)).length := by
    have := congrArg List.length (hc.trans e)
    rw [Array.length_toList, List.length_cons] at this
    show 1 ≤ (txt (n : Int)).cps.size
    omega
  have h57 : c ≤ 57 := (hd c (by rw [e]; exact List.mem_cons_self)).2
  have hs : (txt (n : Int)).length ≤ sizeLine := Nat.le_trans hl (by decide)
  simp [w_width_in, wSeq, wIfS, wTest, wOp, wRg, wRgSet, wC, wVar, wSet, wRet, wFnR, wFn, wFnK, wCons, wNil, wLst, wCall, wM1, wNext, exE, Rg.get, Rg.put, startE, addD_i, addD_s, addD_l, eqD_i, neD_i, subD_i, mulD_i, mulD_s, mulD_l, modD_i, fdivD_i, powD_i, cmpD_i, ixD_l, ixD_k, ixD_t, ixD_s, minD_i, maxD_i, absD_i, lenD_l, lenD_k, lenD_t, lenD_s, strD_i, intD_i, intD_b, listD_l, listD_t, reprD_d, wSl, slD_l, slD_k, slD_s, wONone, wOSome, wItems, wRng1, bName, wTup, wIf, wUnp, bTup_t, bCons_c, bNil_n, at_sep, ite_str, wPar_c, wLc, wipeE, wFor, wEnum, pick, wOr, wAnd, wNot, wDrop, wAug, wApp, wExt, wAppIx, wPar2, wPar3, wZip, wSigns, wAndV, wOrV, wNotV, wUn, negD, wLc2, lc2Go, Option.some.injEq, exists_eq_left', wRetO, wLcCat, wGive, wTry, wClr, wIns, wSetIx, wMv, wMvF, wChain, wRev, intSD, wShut, wTryR, wForAppIx, wForApT, wAppIxT, wTupO, wIxO, isiD, bStar, wTryAs, wRaise, wFnV, wKit, wKits, wXv, wVarS, wForT, wForApp, wForPop, wAddO, wRngL, wSortR, wTupM, wSg, wSgSet, wSgNe, wSgPop, Sg.get, Sg.put, wWhile, wSortSet, wLstO, wListRg3, wStar, wFnA, wBg, wBgSet, wBgPop, wBgLen, wBgAug, wDic4, wIslower, wIsalpha, Bg.get, Bg.put, wStep, dLine_l, dLine_k, dLine_len, dLine_ix, dLine_sl, dLine_add, dLine_list, dPage_l, dPage_k, dPage_len, dPage_ix, dPage_sl, dPage_add, dPage_list, dInts_l, dInts_k, dInts_len, dInts_ix, dInts_sl, dInts_add, dInts_list, wLM, wVal, wTryEx, wIx1, N_width_in]
  refine ⟨hs, .inr ⟨by omega, .inr ⟨by omega, hs, c, ?_, ?_⟩⟩⟩
  · rw [hc, e]; simp [L2.atI, L2.ixN]
  refine eqD_s (.inl ⟨?_, ?_⟩)
  · have : ((⟨#[c]⟩ : Str) == "0") = false := by
      cases hh : ((⟨#[c]⟩ : Str) == "0") with
      | false => rfl
      | true =>
        have e0 : (⟨#[c]⟩ : Str) = "0" := by simpa using hh
        have := congrArg (fun x : Str => x.cps.toList) e0
        have e1 : [c] = [48] := this.trans (by decide +kernel)
        simp at e1
        omega
    rw [this]
  · have hsg : signs (txt (n : Int)) = (numL n).map fun c => Dt.str ⟨#[c]⟩ := by unfold signs; rw [hc]
    rw [hsg]
    refine lc_of (numL n) (fun c => .str ⟨#[c]⟩) (fun _ => .bl true) _ _ ?_ ?_ ?_
    · rw [← hc, Array.length_toList]; exact hs
    · intro c' hc' K kk
      simp [wSeq, wIfS, wTest, wOp, wRg, wRgSet, wC, wVar, wSet, wRet, wFnR, wFn, wFnK, wCons, wNil, wLst, wCall, wM1, wNext, exE, Rg.get, Rg.put, startE, addD_i, addD_s, addD_l, eqD_i, neD_i, subD_i, mulD_i, mulD_s, mulD_l, modD_i, fdivD_i, powD_i, cmpD_i, ixD_l, ixD_k, ixD_t, ixD_s, minD_i, maxD_i, absD_i, lenD_l, lenD_k, lenD_t, lenD_s, strD_i, intD_i, intD_b, listD_l, listD_t, reprD_d, wSl, slD_l, slD_k, slD_s, wONone, wOSome, wItems, wRng1, bName, wTup, wIf, wUnp, bTup_t, bCons_c, bNil_n, at_sep, ite_str, wPar_c, wLc, wipeE, wFor, wEnum, pick, wOr, wAnd, wNot, wDrop, wAug, wApp, wExt, wAppIx, wPar2, wPar3, wZip, wSigns, wAndV, wOrV, wNotV, wUn, negD, wLc2, lc2Go, Option.some.injEq, exists_eq_left', wRetO, wLcCat, wGive, wTry, wClr, wIns, wSetIx, wMv, wMvF, wChain, wRev, intSD, wShut, wTryR, wForAppIx, wForApT, wAppIxT, wTupO, wIxO, isiD, bStar, wTryAs, wRaise, wFnV, wKit, wKits, wXv, wVarS, wForT, wForApp, wForPop, wAddO, wRngL, wSortR, wTupM, wSg, wSgSet, wSgNe, wSgPop, Sg.get, Sg.put, wWhile, wSortSet, wLstO, wListRg3, wStar, wFnA, wBg, wBgSet, wBgPop, wBgLen, wBgAug, wDic4, wIslower, wIsalpha, Bg.get, Bg.put, wStep]
      refine in_signT ?_
      have h48 := hd c' hc'
      have e2 : decide (c' ∈ (Str.ofString "0123456789").cps.toList) = true := by
        have e3 : (Str.ofString "0123456789").cps.toList = (List.range 10).map (· + 48) := by decide +kernel
        rw [e3, decide_eq_true_eq, List.mem_map]
        exact ⟨c' - 48, by rw [List.mem_range]; omega, by omega⟩
      rw [e2]
      exact kk
    · refine ⟨(numL n).map fun _ => true, by rw [List.map_map]; rfl, .inr ⟨?_, (n : Int), ?_, by omega, k⟩⟩
      · rw [List.all_map]
        have : (numL n).all (id ∘ fun _ => true) = true := by simp
        rw [this]
      · rw [intText_digits (by rw [hc]; exact hd) (by rw [hc]; exact numL_ne n) (by omega), hc, numL_val]
open TL in
theorem law_read_widths {ds : List Dt} {g Q E} (h : sp_read_widths ds g Q E) : w_read_widths { nx := fun _ g => Q .non g, rt := Q, ex := fun c d _ g => E c d g } (startE N_read_widths ds) g := by
  obtain ⟨l, rfl, h1, h2, k⟩ := h
  simp [w_read_widths, wSeq, wIfS, wTest, wOp, wRg, wRgSet, wC, wVar, wSet, wRet, wFnR, wFn, wFnK, wCons, wNil, wLst, wCall, wM1, wNext, exE, Rg.get, Rg.put, startE, addD_i, addD_s, addD_l, eqD_i, neD_i, subD_i, mulD_i, mulD_s, mulD_l, modD_i, fdivD_i, powD_i, cmpD_i, ixD_l, ixD_k, ixD_t, ixD_s, minD_i, maxD_i, absD_i, lenD_l, lenD_k, lenD_t, lenD_s, strD_i, intD_i, intD_b, listD_l, listD_t, reprD_d, wSl, slD_l, slD_k, slD_s, wONone, wOSome, wItems, wRng1, bName, wTup, wIf, wUnp, bTup_t, bCons_c, bNil_n, at_sep, ite_str, wPar_c, wLc, wipeE, wFor, wEnum, pick, wOr, wAnd, wNot, wDrop, wAug, wApp, wExt, wAppIx, wPar2, wPar3, wZip, wSigns, wAndV, wOrV, wNotV, wUn, negD, wLc2, lc2Go, Option.some.injEq, exists_eq_left', wRetO, wLcCat, wGive, wTry, wClr, wIns, wSetIx, wMv, wMvF, wChain, wRev, intSD, wShut, wTryR, wForAppIx, wForApT, wAppIxT, wTupO, wIxO, isiD, bStar, wTryAs, wRaise, wFnV, wKit, wKits, wXv, wVarS, wForT, wForApp, wForPop, wAddO, wRngL, wSortR, wTupM, wSg, wSgSet, wSgNe, wSgPop, Sg.get, Sg.put, wWhile, wSortSet, wLstO, wListRg3, wStar, wFnA, wBg, wBgSet, wBgPop, wBgLen, wBgAug, wDic4, wIslower, wIsalpha, Bg.get, Bg.put, wStep, dLine_l, dLine_k, dLine_len, dLine_ix, dLine_sl, dLine_add, dLine_list, dPage_l, dPage_k, dPage_len, dPage_ix, dPage_sl, dPage_add, dPage_list, dInts_l, dInts_k, dInts_len, dInts_ix, dInts_sl, dInts_add, dInts_list, wLM, wVal, wTryEx, wIx1, N_read_widths]
  unfold wText
  by_cases h0 : l = []
  · rw [if_pos h0]
    subst h0
    exact neD_s (.inl ⟨by simp, rfl, [], rfl, .inl ⟨rfl, k⟩⟩)
  rw [if_neg h0]
  have hj := join_len " > " 40 (l.map fun n : Nat => txt n) fun y hy => by
    obtain ⟨n, hn, rfl⟩ := List.mem_map.mp hy
    exact txt_len (h2 n hn).2
  rw [List.length_map, len3] at hj
  have hne : (l.map fun n : Nat => txt n) ≠ [] := by simpa using h0
  have hsp : Txt.split (Str.join " > " (l.map fun n : Nat => txt n)) " > " = l.map fun n : Nat => txt n := by
    rw [← join_eq]
    refine split_join (s := 32) (S := [62, 32]) (by decide +kernel) (by decide +kernel) hne fun p hp => ?_
    obtain ⟨n, hn, rfl⟩ := List.mem_map.mp hp
    show 32 ∉ (txt (n : Int)).cps.toList
    rw [txt_cps]
    exact numL_free (.inl (by decide))
  have hnn : ((Str.join " > " (l.map fun n : Nat => txt n)) == ("none" : Str)) = false := by
    cases hh : ((Str.join " > " (l.map fun n : Nat => txt n)) == ("none" : Str)) with
    | false => rfl
    | true =>
      have e0 : (Str.join " > " (l.map fun n : Nat => txt n)) = ("none" : Str) := by simpa using hh
      rw [e0, show Txt.split "none" " > " = [("none" : Str)] from by decide +kernel] at hsp
      cases l with
      | nil => exact absurd rfl h0
      | cons n l =>
        have e1 := (List.cons.inj hsp).1
        have e2 := congrArg (fun x : Str => x.cps.toList) e1
        have e3 : numL n = [110, 111, 110, 101] := by rw [← txt_cps n]; exact e2.symm.trans (by decide +kernel)
        have := numL_digits n 110 (by rw [e3]; simp)
        omega
  refine neD_s (.inr ⟨by rw [hnn]; rfl, _, _, rfl, rfl, by decide +kernel, by unfold sizeLine; omega, ?_⟩)
  rw [hsp, List.map_map]
  refine .inl ⟨_, rfl, lc_of l (fun n : Nat => .str (txt n)) (fun n : Nat => .int n) _ _ (Nat.le_trans h1 (by decide)) ?_ ?_⟩
  · intro n hn K kk
    simp [wSeq, wIfS, wTest, wOp, wRg, wRgSet, wC, wVar, wSet, wRet, wFnR, wFn, wFnK, wCons, wNil, wLst, wCall, wM1, wNext, exE, Rg.get, Rg.put, startE, addD_i, addD_s, addD_l, eqD_i, neD_i, subD_i, mulD_i, mulD_s, mulD_l, modD_i, fdivD_i, powD_i, cmpD_i, ixD_l, ixD_k, ixD_t, ixD_s, minD_i, maxD_i, absD_i, lenD_l, lenD_k, lenD_t, lenD_s, strD_i, intD_i, intD_b, listD_l, listD_t, reprD_d, wSl, slD_l, slD_k, slD_s, wONone, wOSome, wItems, wRng1, bName, wTup, wIf, wUnp, bTup_t, bCons_c, bNil_n, at_sep, ite_str, wPar_c, wLc, wipeE, wFor, wEnum, pick, wOr, wAnd, wNot, wDrop, wAug, wApp, wExt, wAppIx, wPar2, wPar3, wZip, wSigns, wAndV, wOrV, wNotV, wUn, negD, wLc2, lc2Go, Option.some.injEq, exists_eq_left', wRetO, wLcCat, wGive, wTry, wClr, wIns, wSetIx, wMv, wMvF, wChain, wRev, intSD, wShut, wTryR, wForAppIx, wForApT, wAppIxT, wTupO, wIxO, isiD, bStar, wTryAs, wRaise, wFnV, wKit, wKits, wXv, wVarS, wForT, wForApp, wForPop, wAddO, wRngL, wSortR, wTupM, wSg, wSgSet, wSgNe, wSgPop, Sg.get, Sg.put, wWhile, wSortSet, wLstO, wListRg3, wStar, wFnA, wBg, wBgSet, wBgPop, wBgLen, wBgAug, wDic4, wIslower, wIsalpha, Bg.get, Bg.put, wStep]
    exact ⟨n, rfl, (h2 n hn).1, (h2 n hn).2, kk⟩
  · refine ⟨rfl, l.map fun n : Nat => some (n : Int), by rw [List.map_map]; rfl, .inl ⟨?_, ?_⟩⟩
    · have : (l.map fun n : Nat => some (n : Int)).any (·.isNone) = false := by simp
      rw [this]
      rfl
    · have e : (l.map fun n : Nat => Dt.int n) = (l.map fun n : Nat => (n : Int)).map .int := by rw [List.map_map]; rfl
      rw [e]
      exact k
end Vl

/-! VW: folds at lists of widths; the effect tells the fold; lines that part effects. -/
namespace Vl
open PySem L2
section
variable {α : Type} (ln : α → Nat)
def gLen (l : List α) : Int := (l.map fun z => (ln z : Int) + 1).sum - 1
def gGo (w : Int) : List α → List α → List (List α)
  | [], cur => [cur]
  | x :: xs, cur => if gLen ln (cur ++ [x]) ≤ w then gGo w xs (cur ++ [x]) else cur :: gGo w xs [x]
def gLine (w : Int) : List α → List (List α)
  | [] => []
  | x :: xs => gGo ln w xs [x]
def gP (w : Int) (p : List (List α)) : List (List α) := p.flatMap (gLine ln w)
def gW : List Int → List (List α) → List (List α)
  | [], p => p
  | w :: ws, p => gW ws (gP ln w p)
def gFit (w : Int) (l : List α) : Prop := l ≠ [] ∧ (1 < l.length → gLen ln l ≤ w)
end
section
variable {α : Type} {ln : α → Nat}
theorem gLen_app (l m : List α) : gLen ln (l ++ m) = gLen ln l + gLen ln m + 1 := by
  unfold gLen
  rw [List.map_append, List.sum_append]
  omega
theorem gLen_one (z : α) : gLen ln [z] = ln z := by unfold gLen; simp
theorem gLen_ge (l : List α) : -1 ≤ gLen ln l := by
  induction l with
  | nil => unfold gLen; simp
  | cons z l ih => unfold gLen at ih ⊢; simp only [List.map_cons, List.sum_cons]; omega
theorem gLen_mid (a b c : List α) : gLen ln b ≤ gLen ln (a ++ b ++ c) := by
  rw [gLen_app, gLen_app]
  have := gLen_ge (ln := ln) a
  have := gLen_ge (ln := ln) c
  omega
theorem gGo_flat (w : Int) : ∀ xs cur, (gGo ln w xs cur).flatten = cur ++ xs
  | [], cur => by simp [gGo]
  | x :: xs, cur => by
    unfold gGo
    split
    · rw [gGo_flat w xs]; simp
    · rw [List.flatten_cons, gGo_flat w xs]; simp
theorem gLine_flat (w : Int) (l : List α) : (gLine ln w l).flatten = l := by
  cases l with
  | nil => rfl
  | cons x xs => exact gGo_flat w xs [x]
theorem gGo_fit (w : Int) : ∀ xs cur, gFit ln w cur → ∀ p ∈ gGo ln w xs cur, gFit ln w p
  | [], cur, h, p, hp => by
    rw [show gGo ln w [] cur = [cur] from rfl] at hp
    rw [List.mem_singleton.mp hp]; exact h
  | x :: xs, cur, h, p, hp => by
    unfold gGo at hp
    split at hp
    · rename_i hc
      exact gGo_fit w xs _ ⟨by simp, fun _ => hc⟩ p hp
    · rcases List.mem_cons.mp hp with rfl | hp
      · exact h
      · exact gGo_fit w xs [x] ⟨by simp, fun z => by simp at z⟩ p hp
theorem gLine_fit (w : Int) (l : List α) : ∀ p ∈ gLine ln w l, gFit ln w p := by
  cases l with
  | nil => intro p hp; cases hp
  | cons x xs => exact gGo_fit w xs [x] ⟨by simp, fun z => by simp at z⟩
theorem gGo_run (w : Int) : ∀ xs cur rest, (xs ≠ [] → gLen ln (cur ++ xs) ≤ w) → gGo ln w (xs ++ rest) cur = gGo ln w rest (cur ++ xs)
  | [], cur, rest, _ => by simp
  | x :: xs, cur, rest, h => by
    have h := h (by simp)
    have e : cur ++ x :: xs = (cur ++ [x]) ++ xs := by simp
    rw [e] at h ⊢
    rw [List.cons_append]
    show (if gLen ln (cur ++ [x]) ≤ w then gGo ln w (xs ++ rest) (cur ++ [x]) else cur :: gGo ln w (xs ++ rest) [x]) = _
    have : gLen ln (cur ++ [x]) ≤ gLen ln ((cur ++ [x]) ++ xs) := by
      rw [gLen_app (cur ++ [x]) xs]
      have := gLen_ge (ln := ln) xs
      omega
    rw [if_pos (by omega), gGo_run w xs _ rest fun _ => h]
theorem gLine_id {w : Int} {l : List α} (h : gFit ln w l) : gLine ln w l = [l] := by
  cases l with
  | nil => exact absurd rfl h.1
  | cons x xs =>
    have := gGo_run (ln := ln) w xs [x] [] (fun hx => h.2 (by
      cases xs with
      | nil => exact absurd rfl hx
      | cons _ _ => simp))
    rw [List.append_nil] at this
    exact this
theorem gLine_split {w : Int} {a : List α} {z : α} (h : gFit ln w a) (hz : w < gLen ln (a ++ [z])) : gLine ln w (a ++ [z]) = [a, [z]] := by
  cases a with
  | nil => exact absurd rfl h.1
  | cons x xs =>
    have := gGo_run (ln := ln) w xs [x] [z] (fun hx => h.2 (by
      cases xs with
      | nil => exact absurd rfl hx
      | cons _ _ => simp))
    show gGo ln w (xs ++ [z]) [x] = _
    rw [this]
    show (if gLen ln (([x] ++ xs) ++ [z]) ≤ w then _ else _) = _
    rw [if_neg (by simpa using hz)]
    rfl
theorem gP_fit {w : Int} {p : List (List α)} : ∀ l ∈ gP ln w p, gFit ln w l := fun l hl => by
  obtain ⟨m, _, hl⟩ := List.mem_flatMap.mp hl
  exact gLine_fit w m l hl
theorem gP_id {w : Int} : ∀ {p : List (List α)}, (∀ l ∈ p, gFit ln w l) → gP ln w p = p
  | [], _ => rfl
  | l :: p, h => by
    show (l :: p).flatMap _ = _
    rw [List.flatMap_cons, gLine_id (h l List.mem_cons_self), show p.flatMap (gLine ln w) = p from gP_id fun m hm => h m (List.mem_cons_of_mem _ hm)]
    rfl
theorem gFit.mono {w v : Int} {l : List α} (h : gFit ln w l) (hv : w ≤ v) : gFit ln v l := ⟨h.1, fun q => Int.le_trans (h.2 q) hv⟩
theorem gFit_part {x v : Int} {l m : List α} (h : gFit ln x l) (hm : m ∈ gLine ln v l) : gFit ln x m := by
  refine ⟨(gLine_fit v l m hm).1, fun hl => ?_⟩
  obtain ⟨a, b, e⟩ := List.append_of_mem hm
  have hf := gLine_flat (ln := ln) v l
  rw [e, List.flatten_append, List.flatten_cons, ← List.append_assoc] at hf
  have h1 := gLen_mid (ln := ln) a.flatten m b.flatten
  rw [hf] at h1
  refine Int.le_trans h1 (h.2 ?_)
  rw [← hf]
  simp only [List.length_append]
  omega
theorem gW_snoc : ∀ (ws : List Int) (w : Int) (p : List (List α)), gW ln (ws ++ [w]) p = gP ln w (gW ln ws p)
  | [], _, _ => rfl
  | v :: ws, w, p => gW_snoc ws w (gP ln v p)
theorem gW_app : ∀ (a b : List Int) (p : List (List α)), gW ln (a ++ b) p = gW ln b (gW ln a p)
  | [], _, _ => rfl
  | v :: a, b, p => gW_app a b (gP ln v p)
/-- what was folded at x fits x -/
theorem gW_fit (ws : List Int) (p : List (List α)) {x : Int} (hx : x ∈ ws) : ∀ l ∈ gW ln ws p, gFit ln x l := by
  induction ws using snoc_ind with
  | h0 => cases hx
  | hs ws w ih =>
    rw [gW_snoc]
    rcases List.mem_append.mp hx with q | q
    · intro l hl
      obtain ⟨m, hm, hl⟩ := List.mem_flatMap.mp hl
      exact gFit_part (ih q m hm) hl
    · rw [List.mem_singleton.mp q]
      exact gP_fit
theorem gW_old {ws : List Int} {x v : Int} (hx : x ∈ ws) (h : x ≤ v) (p : List (List α)) : gW ln (ws ++ [v]) p = gW ln ws p := by
  rw [gW_snoc]
  exact gP_id fun l hl => (gW_fit ws p hx l hl).mono h
theorem gW_mins (ws : List Int) (p : List (List α)) : gW ln (mins ws) p = gW ln ws p := by
  induction ws using snoc_ind with
  | h0 => rfl
  | hs ws w ih =>
    by_cases h : ∀ x ∈ ws, w < x
    · rw [mins_new h, gW_snoc, gW_snoc, ih]
    · obtain ⟨x, hx⟩ := Classical.not_forall.mp h
      obtain ⟨hx, hw⟩ := Classical.not_imp.mp hx
      rw [mins_old hx (by omega), gW_old hx (by omega), ih]
theorem gP_flat (w : Int) (p : List (List α)) : (gP ln w p).flatten = p.flatten := by
  unfold gP
  induction p with
  | nil => rfl
  | cons l p ih => rw [List.flatMap_cons, List.flatten_append, ih, gLine_flat, List.flatten_cons]
theorem gW_flat : ∀ (ws : List Int) (p : List (List α)), (gW ln ws p).flatten = p.flatten
  | [], _ => rfl
  | w :: ws, p => by rw [show gW ln (w :: ws) p = gW ln ws (gP ln w p) from rfl, gW_flat ws, gP_flat]
/-- words of at least one letter -/
def gPos (ln : α → Nat) (p : List (List α)) : Prop := ∀ z ∈ p.flatten, 1 ≤ ln z
theorem gPos.line {p : List (List α)} (h : gPos ln p) {l : List α} (hl : l ∈ p) : ∀ z ∈ l, 1 ≤ ln z := fun z hz => h z (List.mem_flatten.mpr ⟨l, hl, hz⟩)
theorem gPos.W {p : List (List α)} (h : gPos ln p) (ws : List Int) : gPos ln (gW ln ws p) := by unfold gPos; rw [gW_flat]; exact h
theorem gP_one (w : Int) (l : List α) : gP ln w [l] = gLine ln w l := by unfold gP; simp
theorem gLine_mid {w : Int} {l : List α} (h : gFit ln (w + 2) l) (hp : ∀ z ∈ l, 1 ≤ ln z) : gP ln w (gLine ln (w + 1) l) = gLine ln w l := by
  by_cases h1 : gFit ln (w + 1) l
  · rw [gLine_id h1, gP_one]
  · have hl : 1 < l.length := Nat.lt_of_not_le fun q => h1 ⟨h.1, fun z => by omega⟩
    have hw : gLen ln l = w + 2 := by
      have := h.2 hl
      have : ¬ gLen ln l ≤ w + 1 := fun q => h1 ⟨h.1, fun _ => q⟩
      omega
    obtain ⟨a, z, rfl⟩ : ∃ a z, l = a ++ [z] := by
      rcases List.eq_nil_or_concat l with e | ⟨a, z, e⟩
      · exact absurd e h.1
      · exact ⟨a, z, by rw [e, List.concat_eq_append]⟩
    have ha : a ≠ [] := fun e => by rw [e] at hl; simp at hl
    have hz := hp z (by simp)
    have e := gLen_app (ln := ln) a [z]
    rw [gLen_one, hw] at e
    have fa : gFit ln w a := ⟨ha, fun _ => by omega⟩
    have fz : gFit ln w [z] := ⟨by simp, fun q => by simp at q⟩
    rw [gLine_split (fa.mono (by omega)) (by omega), gLine_split fa (by omega)]
    exact gP_id fun m hm => by
      simp only [List.mem_cons, List.not_mem_nil, or_false] at hm
      rcases hm with rfl | rfl
      · exact fa
      · exact fz
theorem gP_mid {w : Int} : ∀ {p : List (List α)}, (∀ l ∈ p, gFit ln (w + 2) l) → gPos ln p → gP ln w (gP ln (w + 1) p) = gP ln w p
  | [], _, _ => rfl
  | l :: p, h, hp => by
    have ih := gP_mid (w := w) (p := p) (fun m hm => h m (List.mem_cons_of_mem _ hm)) fun z hz => hp z (by rw [List.flatten_cons]; exact List.mem_append_right _ hz)
    have e : ∀ v, gP ln v (l :: p) = gLine ln v l ++ gP ln v p := fun v => List.flatMap_cons ..
    have e2 : gP ln w (gLine ln (w + 1) l ++ gP ln (w + 1) p) = gP ln w (gLine ln (w + 1) l) ++ gP ln w (gP ln (w + 1) p) := List.flatMap_append ..
    rw [e, e, e2, ih, gLine_mid (h l List.mem_cons_self) (hp.line List.mem_cons_self)]
theorem gW_fill (m : List Int) {p : List (List α)} (hp : gPos ln p) : gW ln (fillL m) p = gW ln m p := by
  induction m using snoc_ind with
  | h0 => rfl
  | hs l w ih =>
    rw [fillL_snoc, gW_snoc]
    unfold fillStep
    cases hl : (fillL l).getLast? with
    | none => simp only; rw [gW_snoc, ih]
    | some x =>
      simp only
      by_cases hx : x = w + 2
      · rw [if_pos hx, gW_snoc, gW_snoc, ih]
        have hx2 : w + 2 ∈ l := by rw [← hx]; exact last_mem (by rw [← fill_last]; exact hl)
        exact gP_mid (gW_fit l p hx2) (hp.W l)
      · rw [if_neg hx, gW_snoc, ih]
theorem single_flat : ∀ {L : List (List α)}, (∀ l ∈ L, l.length = 1) → L = L.flatten.map fun z => [z]
  | [], _ => rfl
  | l :: L, h => by
    have h1 := h l List.mem_cons_self
    obtain ⟨z, rfl⟩ := List.length_eq_one_iff.mp h1
    have := single_flat fun m hm => h m (List.mem_cons_of_mem _ hm)
    rw [List.flatten_cons, List.map_append, ← this]
    rfl
theorem gW_low {ws : List Int} {x : Int} (hx : x ∈ ws) (h2 : x ≤ 2) {p : List (List α)} (hp : gPos ln p) : gW ln ws p = p.flatten.map fun z => [z] := by
  rw [← gW_flat (ln := ln) ws p]
  refine single_flat fun l hl => ?_
  have hf := gW_fit ws p hx l hl
  have hpos := (hp.W ws).line hl
  match l, hf, hpos with
  | [], hf, _ => exact absurd rfl hf.1
  | [_], _, _ => rfl
  | a :: b :: r, hf, hpos =>
    have h1 := hf.2 (by simp)
    have ha := hpos a (by simp)
    have hb := hpos b (by simp)
    have := gLen_ge (ln := ln) r
    have e : gLen ln (a :: b :: r) = gLen ln [a] + gLen ln ([b] ++ r) + 1 := gLen_app [a] ([b] ++ r)
    rw [gLen_app, gLen_one, gLen_one] at e
    omega
/-- the effect folds as the widths do -/
theorem gW_eff (ws : List Int) {p : List (List α)} (hp : gPos ln p) : gW ln (effL ws) p = gW ln ws p := by
  cases hl : (mins ws).getLast? with
  | none =>
    have : ws = [] := mins_nil (none_nil hl)
    subst this
    rfl
  | some x =>
    by_cases h2 : x ≤ 2
    · rw [effL_low hl h2, gW_low (x := 2) (by simp) (by decide) hp, gW_low (mins_mem (last_mem hl)) h2 hp]
    · rw [effL_fill fun y hy => by rw [hl] at hy; cases hy; exact h2, gW_fill _ hp, gW_mins]
theorem gW_same {a b : List Int} (h : effL a = effL b) {p : List (List α)} (hp : gPos ln p) : gW ln a p = gW ln b p := by rw [← gW_eff a hp, ← gW_eff b hp, h]
theorem gP_app (w : Int) (p q : List (List α)) : gP ln w (p ++ q) = gP ln w p ++ gP ln w q := List.flatMap_append ..
theorem gW_lines : ∀ (ws : List Int) (p q : List (List α)), gW ln ws (p ++ q) = gW ln ws p ++ gW ln ws q
  | [], _, _ => rfl
  | w :: ws, p, q => by
    show gW ln ws (gP ln w (p ++ q)) = _
    rw [gP_app, gW_lines ws]
    rfl
theorem gW_id : ∀ {ws : List Int} {p : List (List α)}, (∀ w ∈ ws, ∀ l ∈ p, gFit ln w l) → gW ln ws p = p
  | [], _, _ => rfl
  | w :: ws, p, h => by
    show gW ln ws (gP ln w p) = p
    rw [gP_id (h w List.mem_cons_self), gW_id fun v hv => h v (List.mem_cons_of_mem _ hv)]
theorem fit_one {w : Int} {z : α} : gFit ln w [z] := ⟨by simp, fun q => by simp at q⟩
/-- folding again at the same widths -/
theorem gW_again (ws : List Int) (p : List (List α)) : gW ln ws (gW ln ws p) = gW ln ws p := gW_id fun _ hw l hl => gW_fit ws p hw l hl
/-! lines that part -/
theorem part_two {A B : List Int} {a b : α} {x : Int} (hx : x ∈ A) (h1 : x < (ln a : Int) + ln b + 1) (h2 : ∀ w ∈ B, (ln a : Int) + ln b + 1 ≤ w) : gW ln A [[a, b]] ≠ gW ln B [[a, b]] := fun h => by
  have e2 : gLen ln [a, b] = (ln a : Int) + ln b + 1 := by
    have := gLen_app (ln := ln) [a] [b]
    rwa [gLen_one, gLen_one] at this
  have f : gW ln B [[a, b]] = [[a, b]] := gW_id fun w hw l hl => by
    rw [List.mem_singleton.mp hl]
    exact ⟨by simp, fun _ => by rw [e2]; exact h2 w hw⟩
  rw [f] at h
  have := (gW_fit A [[a, b]] hx [a, b] (by rw [h]; simp)).2 (by simp)
  omega
theorem three_len (a b c : α) : gLen ln [a, b, c] = (ln a : Int) + ln b + ln c + 2 := by
  have := gLen_app (ln := ln) [a] [b, c]
  have h2 := gLen_app (ln := ln) [b] [c]
  rw [gLen_one, gLen_one] at h2
  rw [gLen_one] at this
  have e : [b] ++ [c] = [b, c] := rfl
  rw [e] at h2
  have e' : [a] ++ [b, c] = [a, b, c] := rfl
  rw [e'] at this
  omega
theorem part_three {A B pa qa pb qb : List Int} {a b c : α} {x y : Int} (hb : ln b = 1) (hc : ln c = 1) (eA : A = pa ++ x :: qa) (eB : B = pb ++ y :: qb) (ha : ∀ w ∈ pa, (ln a : Int) + 4 ≤ w) (hpb : ∀ w ∈ pb, (ln a : Int) + 4 ≤ w)
    (hx : (ln a : Int) + 2 ≤ x ∧ x ≤ ln a + 3) (hy : y ≤ (ln a : Int) + 1) (h3 : ∀ w ∈ y :: qb, 3 ≤ w) : gW ln A [[a, b, c]] ≠ gW ln B [[a, b, c]] := fun h => by
  have e3 := three_len (ln := ln) a b c
  have e2 : gLen ln [a, b] = (ln a : Int) + ln b + 1 := by
    have := gLen_app (ln := ln) [a] [b]
    rwa [gLen_one, gLen_one] at this
  have e2' : gLen ln [b, c] = (ln b : Int) + ln c + 1 := by
    have := gLen_app (ln := ln) [b] [c]
    rwa [gLen_one, gLen_one] at this
  have whole : ∀ ws : List Int, (∀ w ∈ ws, (ln a : Int) + 4 ≤ w) → gW ln ws [[a, b, c]] = [[a, b, c]] := fun ws hws => gW_id fun w hw l hl => by
    rw [List.mem_singleton.mp hl]
    exact ⟨by simp, fun _ => by have := hws w hw; omega⟩
  have g1 : gW ln A [[a, b, c]] = gW ln qa [[a, b]] ++ [[c]] := by
    rw [eA, gW_app, whole pa ha]
    show gW ln qa (gP ln x [[a, b, c]]) = _
    have : gLine ln x ([a, b] ++ [c]) = [[a, b], [c]] := gLine_split ⟨by simp, fun _ => by omega⟩ (by show x < gLen ln [a, b, c]; omega)
    rw [gP_one, show gLine ln x [a, b, c] = [[a, b], [c]] from this, show ([[a, b], [c]] : List (List α)) = [[a, b]] ++ [[c]] from rfl, gW_lines, gW_id (p := [[c]]) fun w _ l hl => by rw [List.mem_singleton.mp hl]; exact fit_one]
  have g2 : gW ln B [[a, b, c]] = [[a], [b, c]] := by
    rw [eB, gW_app, whole pb hpb]
    show gW ln qb (gP ln y [[a, b, c]]) = _
    have l1 : gLine ln y [a, b, c] = [[a], [b, c]] := by
      show gGo ln y [b, c] [a] = _
      unfold gGo
      rw [if_neg (by show ¬ gLen ln [a, b] ≤ y; omega)]
      unfold gGo
      have := h3 y List.mem_cons_self
      rw [if_pos (by show gLen ln [b, c] ≤ y; omega)]
      rfl
    rw [gP_one, l1]
    exact gW_id fun w hw l hl => by
      simp only [List.mem_cons, List.not_mem_nil, or_false] at hl
      have := h3 w (List.mem_cons_of_mem _ hw)
      rcases hl with rfl | rfl
      · exact fit_one
      · exact ⟨by simp, fun _ => by omega⟩
  rw [g1, g2] at h
  have := congrArg List.getLast? h
  simp at this
end
/-- what effects are, if no word stands alone by them -/
structure isE (E : List Int) : Prop where
  sd : SD E
  ge : ∀ y ∈ E, 3 ≤ y
  cl : ∀ y, y + 1 ∈ E → y - 1 ∈ E → y ∈ E
theorem effL_isE {l : List Int} (h : effL l ≠ [2]) (h1 : ∀ w ∈ l, 1 ≤ w) : isE (effL l) := by
  have big : ∀ x ∈ l, 2 < x := fun x hx => Int.not_le.mp fun q => h (effL_two hx q)
  have e := effL_big big
  have sd : SD (effL l) := by rw [e]; exact fill_sd (mins_sd l)
  refine ⟨sd, fun y hy => ?_, fun y a b => ?_⟩
  · rw [e] at hy
    rcases (fill_mem (mins_sd l) y).mp hy with q | ⟨_, q⟩
    · have := big _ (mins_mem q); omega
    · have := big _ (mins_mem q); omega
  · have e2 : fillL (effL l) = effL l := by
      have h3 := effL_effL l
      rw [effL_big (l := effL l) fun x hx => by
        rw [e] at hx
        rcases (fill_mem (mins_sd l) x).mp hx with q | ⟨_, q⟩
        · exact big _ (mins_mem q)
        · have := big _ (mins_mem q); omega, mins_id sd] at h3
      exact h3
    rw [← e2]
    exact (fill_mem sd y).mpr (.inr ⟨a, b⟩)
theorem first_split {E : List Int} {y B : Int} (sd : SD E) (hy : y ∈ E) (hb : ∀ z ∈ E, z < B → z ≤ y) : ∃ pre post, E = pre ++ y :: post ∧ ∀ z ∈ pre, B ≤ z := by
  obtain ⟨a, b, rfl⟩ := List.append_of_mem hy
  refine ⟨a, b, rfl, fun z hz => ?_⟩
  have hzy : y < z := (List.pairwise_append.mp sd).2.2 z hz y List.mem_cons_self
  exact Int.not_lt.mp fun q => by have := hb z (List.mem_append_left _ hz) q; omega
/-- the greatest below a bound -/
theorem great_below {E : List Int} {B : Int} (h : ∃ z ∈ E, z < B) : ∃ y ∈ E, y < B ∧ ∀ z ∈ E, z < B → z ≤ y := by
  induction E with
  | nil => obtain ⟨z, hz, _⟩ := h; cases hz
  | cons x E ih =>
    by_cases h2 : ∃ z ∈ E, z < B
    · obtain ⟨y, hy, hyB, hm⟩ := ih h2
      by_cases hx : x < B ∧ y < x
      · exact ⟨x, List.mem_cons_self, hx.1, fun z hz hzB => by
          rcases List.mem_cons.mp hz with rfl | hz
          · exact Int.le_refl _
          · have := hm z hz hzB; omega⟩
      · refine ⟨y, List.mem_cons_of_mem _ hy, hyB, fun z hz hzB => ?_⟩
        rcases List.mem_cons.mp hz with rfl | hz
        · omega
        · exact hm z hz hzB
    · obtain ⟨z, hz, hzB⟩ := h
      rcases List.mem_cons.mp hz with rfl | hz
      · exact ⟨z, List.mem_cons_self, hzB, fun v hv hvB => by
          rcases List.mem_cons.mp hv with rfl | hv
          · exact Int.le_refl _
          · exact absurd ⟨v, hv, hvB⟩ h2⟩
      · exact absurd ⟨z, hz, hzB⟩ h2
/-- the sizes of the words of a line that parts effects: x is the greatest width that one of them alone has; low tells whether the other one has lesser ones; next, whether x + 1 is in both -/
def partSizes (x : Int) (low next : Bool) : List Int := if low = false then [x - 1, 1] else if next then [x - 3, 1, 1] else [x - 2, 1, 1]
section
variable {α : Type} {ln : α → Nat}
theorem part_main {A B : List Int} (hA : isE A) (hB : isE B) {x : Int} (xa : x ∈ A) (xb : x ∉ B) (ag : ∀ z, x < z → (z ∈ A ↔ z ∈ B)) {line : List α}
    (hl : line.map (fun z => (ln z : Int)) = partSizes x (B.any fun w => decide (w < x)) (decide (x + 1 ∈ A))) : gW ln A [line] ≠ gW ln B [line] := by
  have x3 := hA.ge x xa
  have two : ∀ {m n : Int}, line.map (fun z => (ln z : Int)) = [m, n] → ∃ a b, line = [a, b] ∧ (ln a : Int) = m ∧ (ln b : Int) = n := fun h => by
    match line, h with
    | [a, b], h => exact ⟨a, b, rfl, by simpa using h⟩
  have three : ∀ {m n k : Int}, line.map (fun z => (ln z : Int)) = [m, n, k] → ∃ a b c, line = [a, b, c] ∧ (ln a : Int) = m ∧ (ln b : Int) = n ∧ (ln c : Int) = k := fun h => by
    match line, h with
    | [a, b, c], h => exact ⟨a, b, c, rfl, by simpa using h⟩
  unfold partSizes at hl
  by_cases hlow : (B.any fun w => decide (w < x)) = false
  · rw [if_pos hlow] at hl
    obtain ⟨a, b, rfl, ha, hb⟩ := two hl
    refine part_two xa (by omega) fun w hw => ?_
    have h1 := List.any_eq_false.mp hlow w hw
    have h2 : ¬ w < x := by simpa using h1
    have : w ≠ x := fun e => xb (e ▸ hw)
    omega
  · rw [if_neg hlow] at hl
    have ex : ∃ z ∈ B, z < x := by
      have : (B.any fun w => decide (w < x)) = true := by
        cases hq : (B.any fun w => decide (w < x)) with
        | false => exact absurd hq hlow
        | true => rfl
      obtain ⟨z, hz, h⟩ := List.any_eq_true.mp this
      exact ⟨z, hz, by simpa using h⟩
    obtain ⟨y, hy, hyx, hmax⟩ := great_below ex
    have y3 := hB.ge y hy
    by_cases hn : x + 1 ∈ A
    · have hn2 : decide (x + 1 ∈ A) = true := decide_eq_true hn
      rw [if_pos hn2] at hl
      obtain ⟨a, b, c, rfl, ha, hb, hc⟩ := three hl
      have hnB := (ag (x + 1) (by omega)).mp hn
      have y1 : y ≤ x - 2 := by
        have : y ≠ x - 1 := fun e => xb (hB.cl x hnB (e ▸ hy))
        omega
      obtain ⟨pa, qa, eA, hpa⟩ := first_split (B := x + 1) hA.sd xa fun z _ hz => by omega
      obtain ⟨pb, qb, eB, hpb⟩ := first_split (B := x + 1) hB.sd hy fun z hz hzx => hmax z hz (by
        have : z ≠ x := fun e => xb (e ▸ hz)
        omega)
      exact part_three (by omega) (by omega) eA eB (fun w hw => by have := hpa w hw; omega) (fun w hw => by have := hpb w hw; omega) (by omega) (by omega) fun w hw => hB.ge w (by rw [eB]; exact List.mem_append_right _ hw)
    · have hn2 : ¬ decide (x + 1 ∈ A) = true := by simpa using hn
      rw [if_neg hn2] at hl
      obtain ⟨a, b, c, rfl, ha, hb, hc⟩ := three hl
      obtain ⟨pa, qa, eA, hpa⟩ := first_split (B := x + 2) hA.sd xa fun z hz hzx => by
        have : z ≠ x + 1 := fun e => hn (e ▸ hz)
        omega
      obtain ⟨pb, qb, eB, hpb⟩ := first_split (B := x + 2) hB.sd hy fun z hz hzx => hmax z hz (by
        have : z ≠ x := fun e => xb (e ▸ hz)
        have : z ≠ x + 1 := fun e => hn ((ag (x + 1) (by omega)).mpr (e ▸ hz))
        omega)
      exact part_three (by omega) (by omega) eA eB (fun w hw => by have := hpa w hw; omega) (fun w hw => by have := hpb w hw; omega) (by omega) (by omega) fun w hw => hB.ge w (by rw [eB]; exact List.mem_append_right _ hw)
/-- one of them lets every word stand alone -/
theorem part_low {A B : List Int} (hA : 2 ∈ A) (hB : ∀ w ∈ B, 3 ≤ w) {a b : α} (ha : ln a = 1) (hb : ln b = 1) : gW ln A [[a, b]] ≠ gW ln B [[a, b]] :=
  part_two hA (by omega) fun w hw => by have := hB w hw; omega
end
/-! the folds of words -/
theorem flGo_g (w : Int) : ∀ xs cur, flGo w xs cur = gGo Str.length w xs cur
  | [], _ => rfl
  | x :: xs, cur => by
    unfold flGo gGo
    rw [flGo_g w xs, flGo_g w xs]
    rfl
theorem foldLine_g (w : Int) (l : List Str) : foldLine w l = gLine Str.length w l := by
  cases l with
  | nil => rfl
  | cons x xs => exact flGo_g w xs [x]
theorem foldP_g (w : Int) (p : List (List Str)) : foldP w p = gP Str.length w p := by
  unfold foldP gP
  rw [show foldLine w = gLine Str.length w from funext (foldLine_g w)]
theorem foldW_g : ∀ (ws : List Int) (p : List (List Str)), foldW ws p = gW Str.length ws p
  | [], _ => rfl
  | w :: ws, p => by
    show foldW ws (foldP w p) = gW Str.length ws (gP Str.length w p)
    rw [foldP_g, foldW_g ws]
theorem pos_page {p : List (List Str)} (h : ∀ l ∈ p, ∀ z ∈ l, 1 ≤ z.length) : gPos Str.length p := fun z hz => by
  obtain ⟨l, hl, hz⟩ := List.mem_flatten.mp hz
  exact h l hl z hz
theorem foldW_eff (ws : List Int) {p : List (List Str)} (h : ∀ l ∈ p, ∀ z ∈ l, 1 ≤ z.length) : foldW (effL ws) p = foldW ws p := by rw [foldW_g, foldW_g, gW_eff ws (pos_page h)]
theorem foldW_same {a b : List Int} (e : effL a = effL b) {p : List (List Str)} (h : ∀ l ∈ p, ∀ z ∈ l, 1 ≤ z.length) : foldW a p = foldW b p := by rw [foldW_g, foldW_g, gW_same e (pos_page h)]
theorem foldW_again (ws : List Int) (p : List (List Str)) : foldW ws (foldW ws p) = foldW ws p := by rw [foldW_g, foldW_g, gW_again]
end Vl

/-! VPt: lines that part two lists of widths. -/
namespace Vl
open PySem L2
/-- words of the letter a -/
def aWord (z : Str) : Prop := 1 ≤ z.length ∧ z.length ≤ 2000 ∧ ∀ c ∈ z.cps.toList, c = 97
/-- a line that two lists of widths fold differently -/
def parts (a b : List Int) (l : List Str) : Prop := 1 ≤ l.length ∧ l.length ≤ 3 ∧ (∀ z ∈ l, aWord z) ∧ foldW a [l] ≠ foldW b [l]
def okP (l : List Int) : Prop := l.length ≤ 1000 ∧ ∀ w ∈ l, 1 ≤ w ∧ w ≤ 1000
def sp_line_of : Spec Unit := fun ds _ Q _ => ∃ l : List Int, ds = [.tup (l.map .int)] ∧ l.length ≤ 3 ∧ (∀ n ∈ l, 1 ≤ n ∧ n ≤ 2000) ∧ Q (dLine (l.map fun n => repS "a" n)) ()
def sp_parting_line : Spec Unit := fun ds _ Q _ => ∃ a b, ds = [dInts a, dInts b] ∧ okP a ∧ okP b ∧ (effL a = effL b → Q .non ()) ∧ (effL a ≠ effL b → ∀ l, parts a b l → Q (dLine l) ())
abbrev N_line_of : List Str := ["lengths", "length"]
def w_line_of : WS Unit :=
 (wRet (wLc [1] (wItemsT (wVar 0)) (bName 1) wYes (wOp mulD (wC (.str "a")) (wVar 1))))
abbrev N_parting_line : List Str := ["first", "second", "one", "other", "alone", "lower", "width"]
def w_parting_line : WS Unit :=
 (wSeq (wDrop (wFn sp_check_widths (wCons (wVar 0) wNil)))
 (wSeq (wDrop (wFn sp_check_widths (wCons (wVar 1) wNil)))
 (wSeq (wUnp (bTup (bCons (bName 2) (bCons (bName 3) bNil))) (wTup (wCons (wFn sp_effect_of (wCons (wVar 0) wNil)) (wCons (wFn sp_effect_of (wCons (wVar 1) wNil)) wNil))))
 (wSeq (wIfS (wTest (wOp eqD (wVar 2) (wVar 3)))
 (wRet (wC .non))
 wNext)
 (wSeq (wIfS (wTest (wOp inTd (wC (.klst (List.map Dt.int [2]))) (wTup (wCons (wVar 2) (wCons (wVar 3) wNil)))))
 (wRet (wFnA sp_line_of (wCons (wC (.int 1)) (wCons (wC (.int 1)) wNil))))
 wNext)
 (wSeq (wSet 4 (wCall maxD (wCons (wLc [6] (wItems (wOp addD (wVar 2) (wVar 3))) (bName 6) (wOr (wTest (wOp (inDat true) (wVar 6) (wVar 2))) (wTest (wOp (inDat true) (wVar 6) (wVar 3)))) (wVar 6)) wNil)))
 (wSeq (wSet 5 (wLc [6] (wItems (wIf (wTest (wOp (inDat false) (wVar 4) (wVar 2))) (wVar 3) (wVar 2))) (bName 6) (wTest (wOp (cmpD fun i j => decide (i < j)) (wVar 6) (wVar 4))) (wVar 6)))
 (wSeq (wIfS (wTest (wOp eqD (wVar 5) (wLst wNil)))
 (wRet (wFnA sp_line_of (wCons (wOp subD (wVar 4) (wC (.int 1))) (wCons (wC (.int 1)) wNil))))
 wNext)
 (wRet (wIf (wTest (wOp (inDat false) (wOp addD (wVar 4) (wC (.int 1))) (wVar 2))) (wFnA sp_line_of (wCons (wOp subD (wVar 4) (wC (.int 3))) (wCons (wC (.int 1)) (wCons (wC (.int 1)) wNil)))) (wFnA sp_line_of (wCons (wOp subD (wVar 4) (wC (.int 2))) (wCons (wC (.int 1)) (wCons (wC (.int 1)) wNil))))))))))))))
theorem len_line_of {ds : List Dt} {g Q E} (h : sp_line_of ds g Q E) : ds.length = 1 := by obtain ⟨_, rfl, _⟩ := h; rfl
theorem len_parting_line {ds : List Dt} {g Q E} (h : sp_parting_line ds g Q E) : ds.length = 2 := by obtain ⟨_, _, rfl, _⟩ := h; rfl
theorem rep_a (n : Int) (h0 : 1 ≤ n) (h1 : n ≤ 2000) : aWord (repS "a" n) ∧ ((repS "a" n).length : Int) = n := by
  have l1 : Str.length ("a" : Str) = 1 := by decide +kernel
  have e := len_repS "a" n
  rw [l1] at e
  refine ⟨⟨by omega, by omega, fun c hc => ?_⟩, by omega⟩
  have hc' := mem_repS hc
  have e3 : ("a" : Str).cps.toList = [97] := by decide +kernel
  rw [e3] at hc'
  exact List.mem_singleton.mp hc'
theorem law_line_of {ds : List Dt} {g Q E} (h : sp_line_of ds g Q E) : w_line_of { nx := fun _ g => Q .non g, rt := Q, ex := fun c d _ g => E c d g } (startE N_line_of ds) g := by
  obtain ⟨l, rfl, hl, hn, k⟩ := h
  simp [w_line_of, wSeq, wIfS, wTest, wOp, wRg, wRgSet, wC, wVar, wSet, wRet, wFnR, wFn, wFnK, wCons, wNil, wLst, wCall, wM1, wNext, exE, Rg.get, Rg.put, startE, addD_i, addD_s, addD_l, eqD_i, neD_i, subD_i, mulD_i, mulD_s, mulD_l, modD_i, fdivD_i, powD_i, cmpD_i, ixD_l, ixD_k, ixD_t, ixD_s, minD_i, maxD_i, absD_i, lenD_l, lenD_k, lenD_t, lenD_s, strD_i, intD_i, intD_b, listD_l, listD_t, reprD_d, wSl, slD_l, slD_k, slD_s, wONone, wOSome, wItems, wRng1, bName, wTup, wIf, wUnp, bTup_t, bCons_c, bNil_n, at_sep, ite_str, wPar_c, wLc, wipeE, wFor, wEnum, pick, wOr, wAnd, wNot, wDrop, wAug, wApp, wExt, wAppIx, wPar2, wPar3, wZip, wSigns, wAndV, wOrV, wNotV, wUn, negD, wLc2, lc2Go, Option.some.injEq, exists_eq_left', wRetO, wLcCat, wGive, wTry, wClr, wIns, wSetIx, wMv, wMvF, wChain, wRev, intSD, wShut, wTryR, wForAppIx, wForApT, wAppIxT, wTupO, wIxO, isiD, bStar, wTryAs, wRaise, wFnV, wKit, wKits, wXv, wVarS, wForT, wForApp, wForPop, wAddO, wRngL, wSortR, wTupM, wSg, wSgSet, wSgNe, wSgPop, Sg.get, Sg.put, wWhile, wSortSet, wLstO, wListRg3, wStar, wFnA, wBg, wBgSet, wBgPop, wBgLen, wBgAug, wDic4, wIslower, wIsalpha, Bg.get, Bg.put, wStep, dLine_l, dLine_k, dLine_len, dLine_ix, dLine_sl, dLine_add, dLine_list, dPage_l, dPage_k, dPage_len, dPage_ix, dPage_sl, dPage_add, dPage_list, dInts_l, dInts_k, dInts_len, dInts_ix, dInts_sl, dInts_add, dInts_list, wLM, wVal, wTryEx, wIx1, N_line_of, wItemsT]
  refine lc_of l Dt.int (fun n => .str (repS "a" n)) _ _ (by show _ ≤ 2 ^ 24; omega) (fun n hn2 K kk => ?_) ?_
  · simp [wSeq, wIfS, wTest, wOp, wRg, wRgSet, wC, wVar, wSet, wRet, wFnR, wFn, wFnK, wCons, wNil, wLst, wCall, wM1, wNext, exE, Rg.get, Rg.put, startE, addD_i, addD_s, addD_l, eqD_i, neD_i, subD_i, mulD_i, mulD_s, mulD_l, modD_i, fdivD_i, powD_i, cmpD_i, ixD_l, ixD_k, ixD_t, ixD_s, minD_i, maxD_i, absD_i, lenD_l, lenD_k, lenD_t, lenD_s, strD_i, intD_i, intD_b, listD_l, listD_t, reprD_d, wSl, slD_l, slD_k, slD_s, wONone, wOSome, wItems, wRng1, bName, wTup, wIf, wUnp, bTup_t, bCons_c, bNil_n, at_sep, ite_str, wPar_c, wLc, wipeE, wFor, wEnum, pick, wOr, wAnd, wNot, wDrop, wAug, wApp, wExt, wAppIx, wPar2, wPar3, wZip, wSigns, wAndV, wOrV, wNotV, wUn, negD, wLc2, lc2Go, Option.some.injEq, exists_eq_left', wRetO, wLcCat, wGive, wTry, wClr, wIns, wSetIx, wMv, wMvF, wChain, wRev, intSD, wShut, wTryR, wForAppIx, wForApT, wAppIxT, wTupO, wIxO, isiD, bStar, wTryAs, wRaise, wFnV, wKit, wKits, wXv, wVarS, wForT, wForApp, wForPop, wAddO, wRngL, wSortR, wTupM, wSg, wSgSet, wSgNe, wSgPop, Sg.get, Sg.put, wWhile, wSortSet, wLstO, wListRg3, wStar, wFnA, wBg, wBgSet, wBgPop, wBgLen, wBgAug, wDic4, wIslower, wIsalpha, Bg.get, Bg.put, wStep, dLine_l, dLine_k, dLine_len, dLine_ix, dLine_sl, dLine_add, dLine_list, dPage_l, dPage_k, dPage_len, dPage_ix, dPage_sl, dPage_add, dPage_list, dInts_l, dInts_k, dInts_len, dInts_ix, dInts_sl, dInts_add, dInts_list, wLM, wVal, wTryEx, wIx1]
    have := hn n hn2
    have l1 : Str.length (Str.ofString "a") = 1 := by decide +kernel
    exact ⟨by omega, by rw [l1]; omega, by omega, kk⟩
  · have : l.map (fun n => Dt.str (repS "a" n)) = (l.map fun n => repS "a" n).map Dt.str := by rw [List.map_map]; rfl
    rw [this]
    exact k
theorem top_diff2 : ∀ {A B : List Int}, A ≠ B → SD A → SD B → ∃ x, ((x ∈ A ∧ x ∉ B) ∨ (x ∉ A ∧ x ∈ B)) ∧ ∀ z, x < z → (z ∈ A ↔ z ∈ B)
  | [], [], h, _, _ => absurd rfl h
  | [], b :: B, _, _, hb => ⟨b, .inr ⟨by simp, by simp⟩, fun z hz => by
      have : z ∉ b :: B := fun q => by
        rcases List.mem_cons.mp q with q | q
        · omega
        · have := List.rel_of_pairwise_cons hb q; omega
      simp [this]⟩
  | a :: A, [], _, ha, _ => ⟨a, .inl ⟨by simp, by simp⟩, fun z hz => by
      have : z ∉ a :: A := fun q => by
        rcases List.mem_cons.mp q with q | q
        · omega
        · have := List.rel_of_pairwise_cons ha q; omega
      simp [this]⟩
  | a :: A, b :: B, h, ha, hb => by
    have hA : ∀ z ∈ A, z < a := fun z hz => List.rel_of_pairwise_cons ha hz
    have hB : ∀ z ∈ B, z < b := fun z hz => List.rel_of_pairwise_cons hb hz
    by_cases e : a = b
    · subst e
      have hne : A ≠ B := fun q => h (by rw [q])
      obtain ⟨x, hx, hz⟩ := top_diff2 hne (List.Pairwise.of_cons ha) (List.Pairwise.of_cons hb)
      have hxa : x < a := by
        rcases hx with ⟨q, _⟩ | ⟨_, q⟩
        · exact hA x q
        · exact hB x q
      refine ⟨x, ?_, fun z q => ?_⟩
      · have : x ≠ a := by omega
        simpa [this] using hx
      · have := hz z q
        simp [this]
    · rcases Int.lt_or_gt_of_ne e with q | q
      · refine ⟨b, .inr ⟨fun r => ?_, by simp⟩, fun z hz => ?_⟩
        · rcases List.mem_cons.mp r with r | r
          · omega
          · have := hA b r; omega
        · have h1 : z ∉ a :: A := fun r => by
            rcases List.mem_cons.mp r with r | r
            · omega
            · have := hA z r; omega
          have h2 : z ∉ b :: B := fun r => by
            rcases List.mem_cons.mp r with r | r
            · omega
            · have := hB z r; omega
          simp only [h1, h2]
      · refine ⟨a, .inl ⟨by simp, fun r => ?_⟩, fun z hz => ?_⟩
        · rcases List.mem_cons.mp r with r | r
          · omega
          · have := hB a r; omega
        · have h1 : z ∉ a :: A := fun r => by
            rcases List.mem_cons.mp r with r | r
            · omega
            · have := hA z r; omega
          have h2 : z ∉ b :: B := fun r => by
            rcases List.mem_cons.mp r with r | r
            · omega
            · have := hB z r; omega
          simp only [h1, h2]
theorem law_parting_line {ds : List Dt} {g Q E} (h : sp_parting_line ds g Q E) : w_parting_line { nx := fun _ g => Q .non g, rt := Q, ex := fun c d _ g => E c d g } (startE N_parting_line ds) g := by
  obtain ⟨a, b, rfl, oka, okb, kn, kl⟩ := h
  have oa : okI a := ⟨by have := oka.1; omega, fun w h => by have := oka.2 w h; omega⟩
  have ob : okI b := ⟨by have := okb.1; omega, fun w h => by have := okb.2 w h; omega⟩
  have la := effL_len a
  have lb := effL_len b
  have fa := effL_ok oa
  have fb := effL_ok ob
  simp [w_parting_line, wSeq, wIfS, wTest, wOp, wRg, wRgSet, wC, wVar, wSet, wRet, wFnR, wFn, wFnK, wCons, wNil, wLst, wCall, wM1, wNext, exE, Rg.get, Rg.put, startE, addD_i, addD_s, addD_l, eqD_i, neD_i, subD_i, mulD_i, mulD_s, mulD_l, modD_i, fdivD_i, powD_i, cmpD_i, ixD_l, ixD_k, ixD_t, ixD_s, minD_i, maxD_i, absD_i, lenD_l, lenD_k, lenD_t, lenD_s, strD_i, intD_i, intD_b, listD_l, listD_t, reprD_d, wSl, slD_l, slD_k, slD_s, wONone, wOSome, wItems, wRng1, bName, wTup, wIf, wUnp, bTup_t, bCons_c, bNil_n, at_sep, ite_str, wPar_c, wLc, wipeE, wFor, wEnum, pick, wOr, wAnd, wNot, wDrop, wAug, wApp, wExt, wAppIx, wPar2, wPar3, wZip, wSigns, wAndV, wOrV, wNotV, wUn, negD, wLc2, lc2Go, Option.some.injEq, exists_eq_left', wRetO, wLcCat, wGive, wTry, wClr, wIns, wSetIx, wMv, wMvF, wChain, wRev, intSD, wShut, wTryR, wForAppIx, wForApT, wAppIxT, wTupO, wIxO, isiD, bStar, wTryAs, wRaise, wFnV, wKit, wKits, wXv, wVarS, wForT, wForApp, wForPop, wAddO, wRngL, wSortR, wTupM, wSg, wSgSet, wSgNe, wSgPop, Sg.get, Sg.put, wWhile, wSortSet, wLstO, wListRg3, wStar, wFnA, wBg, wBgSet, wBgPop, wBgLen, wBgAug, wDic4, wIslower, wIsalpha, Bg.get, Bg.put, wStep, dLine_l, dLine_k, dLine_len, dLine_ix, dLine_sl, dLine_add, dLine_list, dPage_l, dPage_k, dPage_len, dPage_ix, dPage_sl, dPage_add, dPage_list, dInts_l, dInts_k, dInts_len, dInts_ix, dInts_sl, dInts_add, dInts_list, wLM, wVal, wTryEx, wIx1, N_parting_line]
  refine ⟨a, rfl, fun w h => (oka.2 w h).1, b, rfl, fun w h => (okb.2 w h).1, a, rfl, oa, b, rfl, ob, by decide, ?_⟩
  refine eqD_f (fit_ints38 fa.2) (fit_ints38 fb.2) (by decide) (by decide) ?_
  rw [eqv_ints]
  by_cases e : effL a = effL b
  · exact .inr ⟨by rw [decide_eq_true e], kn e⟩
  have kl := kl e
  refine .inl ⟨by rw [decide_eq_false e], by decide, _, rfl, (FitL.cons (Fit.int (i := 2) (by decide)) FitL.nil).klst.eqOk (FitL.cons ((fit_ints38 fa.2).mono (Nat.le_refl _) (Nat.le_refl _)) (FitL.cons (fit_ints38 fb.2) FitL.nil)).tup (by decide) (by decide), ?_⟩
  have any : ((pyL [dInts (effL a), dInts (effL b)]).any fun z => PyData.eqv z (Dt.klst [Dt.int 2]).py) = (decide (effL a = [2]) || decide (effL b = [2])) := by
    have h1 := eqv_ints (effL a) [2]
    have h2 := eqv_ints (effL b) [2]
    have h3 : (Dt.klst [Dt.int 2]).py = (dInts [2]).py := rfl
    rw [h3]
    simp only [pyL, List.any_cons, List.any_nil, Bool.or_false, h1, h2]
  rw [any]
  have lineOk : ∀ (sz : List Int), sz.length ≤ 3 → 1 ≤ sz.length → (∀ n ∈ sz, 1 ≤ n ∧ n ≤ 2000) → (∀ l : List Str, l.map (fun z => (z.length : Int)) = sz → (∀ z ∈ l, aWord z) → foldW a [l] ≠ foldW b [l]) → sp_line_of [.tup (sz.map .int)] () (fun d _ => Q d g) (fun c d _ => E c d g) := fun sz h1 h2 h3 h4 => by
    refine ⟨sz, rfl, h1, h3, kl _ ⟨by rw [List.length_map]; exact h2, by rw [List.length_map]; exact h1, fun z hz => ?_, h4 _ ?_ fun z hz => ?_⟩⟩
    · obtain ⟨n, hn, rfl⟩ := List.mem_map.mp hz
      exact (rep_a n (h3 n hn).1 (h3 n hn).2).1
    · rw [List.map_map]
      refine (List.map_congr_left (g := id) fun n hn => ?_).trans (by simp)
      exact (rep_a n (h3 n hn).1 (h3 n hn).2).2
    · obtain ⟨n, hn, rfl⟩ := List.mem_map.mp hz
      exact (rep_a n (h3 n hn).1 (h3 n hn).2).1
  have pos : ∀ {l : List Str}, (∀ z ∈ l, aWord z) → gPos Str.length [l] := fun {l} h z hz => by simp at hz; exact (h z hz).1
  by_cases two : effL a = [2] ∨ effL b = [2]
  · refine .inr ⟨by rcases two with q | q <;> simp [q], by decide, lineOk [1, 1] (by decide) (by decide) (by decide) fun l hl hw => ?_⟩
    have hp := pos hw
    rw [foldW_g, foldW_g, ← gW_eff a hp, ← gW_eff b hp]
    obtain ⟨u, v, rfl, hu, hv⟩ : ∃ u v, l = [u, v] ∧ (u.length : Int) = 1 ∧ (v.length : Int) = 1 := by
      cases l with
      | nil => cases hl
      | cons u r =>
        cases r with
        | nil => simp at hl
        | cons v r =>
          cases r with
          | nil => exact ⟨u, v, rfl, by simpa using hl⟩
          | cons _ _ => simp at hl
    have hu : u.length = 1 := by omega
    have hv : v.length = 1 := by omega
    rcases two with q | q
    · have nb : effL b ≠ [2] := fun z => e (by rw [q, z])
      exact part_low (by rw [q]; simp) (effL_isE nb fun w h => (okb.2 w h).1).ge hu hv
    · have na : effL a ≠ [2] := fun z => e (by rw [q, z])
      exact Ne.symm (part_low (by rw [q]; simp) (effL_isE na fun w h => (oka.2 w h).1).ge hu hv)
  · refine .inl ⟨by have h1 : effL a ≠ [2] := fun q => two (.inl q)
                    have h2 : effL b ≠ [2] := fun q => two (.inr q)
                    simp [h1, h2], ?_⟩
    have iA := effL_isE (fun q => two (.inl q)) fun w h => (oka.2 w h).1
    have iB := effL_isE (fun q => two (.inr q)) fun w h => (okb.2 w h).1
    show addD (dInts _) (dInts _) _
    rw [dInts_add]
    refine ⟨by simp only [List.length_map]; have := oka.1; have := okb.1; show _ ≤ 2 ^ 24; omega, .inl ⟨_, rfl, ?_⟩⟩
    have bA : ∀ w ∈ effL a, w ≤ 1001 := fun w hw => (effL_in (B := 1001) (fun w h => by have := oka.2 w h; omega) (by decide) w hw).2
    have bB : ∀ w ∈ effL b, w ≤ 1001 := fun w hw => (effL_in (B := 1001) (fun w h => by have := okb.2 w h; omega) (by decide) w hw).2
    have tail : ∀ (m : Int) (O : List Int), 3 ≤ m → m ≤ 1001 → (∀ w ∈ O, 3 ≤ w ∧ w ≤ 1001) → (∀ l : List Str, l.map (fun z => (z.length : Int)) = partSizes m (O.any fun w => decide (w < m)) (decide (m + 1 ∈ effL a)) → (∀ z ∈ l, aWord z) → foldW a [l] ≠ foldW b [l]) →
        eqD (.lst ((O.filter fun w => decide (w < m)).map .int)) (.lst []) fun z_2 => (z_2 = .bl false ∧ addD (.int m) (.int 1) fun z_3 => inDat false z_3 (dInts (effL a)) fun z_4 =>
          (z_4 = .bl false ∧ subD (.int m) (.int 2) fun z => 3 ≤ sizeLine ∧ sp_line_of [.tup [z, .int 1, .int 1]] () (fun d _ => Q d g) fun c d _ => E c d g) ∨ z_4 = .bl true ∧ subD (.int m) (.int 3) fun z => 3 ≤ sizeLine ∧ sp_line_of [.tup [z, .int 1, .int 1]] () (fun d _ => Q d g) fun c d _ => E c d g) ∨
          z_2 = .bl true ∧ subD (.int m) (.int 1) fun z => 2 ≤ sizeLine ∧ sp_line_of [.tup [z, .int 1]] () (fun d _ => Q d g) fun c d _ => E c d g := fun m O h3 h4 hO hp => by
      refine eq_ints (l := O.filter fun w => decide (w < m)) (fun w hw => by have := hO w (List.mem_filter.mp hw).1; omega) ?_
      cases hl : (O.filter fun w => decide (w < m)).isEmpty with
      | true =>
        have hlow : (O.any fun w => decide (w < m)) = false := by
          rw [List.any_eq_false]
          intro w hw hlt
          have : w ∈ O.filter fun w => decide (w < m) := List.mem_filter.mpr ⟨hw, hlt⟩
          rw [List.isEmpty_iff.mp hl] at this
          cases this
        rw [hlow] at hp
        refine .inr ⟨rfl, ?_⟩
        rw [subD_i]
        exact ⟨by decide, lineOk [m - 1, 1] (by simp) (by simp) (fun n hn => by simp at hn; omega) fun l h => hp l (by rw [h]; rfl)⟩
      | false =>
        have ⟨z, hz, hzm⟩ : ∃ z ∈ O, z < m := by
          cases hq : O.filter fun w => decide (w < m) with
          | nil => rw [hq] at hl; cases hl
          | cons z r =>
            have : z ∈ O.filter fun w => decide (w < m) := by rw [hq]; simp
            exact ⟨z, (List.mem_filter.mp this).1, by simpa using (List.mem_filter.mp this).2⟩
        have hlow : (O.any fun w => decide (w < m)) = true := List.any_eq_true.mpr ⟨z, hz, by simpa using hzm⟩
        have := hO z hz
        rw [hlow] at hp
        refine .inl ⟨rfl, ?_⟩
        rw [addD_i]
        refine .inl ⟨_, _, rfl, .inl rfl, ?_⟩
        by_cases hn : m + 1 ∈ effL a
        · rw [decide_eq_true hn] at hp
          refine .inr ⟨by simp [hn], ?_⟩
          rw [subD_i]
          exact ⟨by decide, lineOk [m - 3, 1, 1] (by simp) (by simp) (fun n hn => by simp at hn; omega) fun l h => hp l (by rw [h]; rfl)⟩
        · rw [decide_eq_false hn] at hp
          refine .inl ⟨by simp [hn], ?_⟩
          rw [subD_i]
          exact ⟨by decide, lineOk [m - 2, 1, 1] (by simp) (by simp) (fun n hn => by simp at hn; omega) fun l h => hp l (by rw [h]; rfl)⟩
    refine lc_filter Dt.int Dt.int (fun w => !decide (w ∈ effL a) || !decide (w ∈ effL b)) _ _ (effL a ++ effL b) [] (by simp; have := oka.1; have := okb.1; show _ ≤ 2 ^ 24; omega) (fun w hw K kk => ?_) (fun w hw _ K kk => ?_) ?_
    · simp [wSeq, wIfS, wTest, wOp, wRg, wRgSet, wC, wVar, wSet, wRet, wFnR, wFn, wFnK, wCons, wNil, wLst, wCall, wM1, wNext, exE, Rg.get, Rg.put, startE, addD_i, addD_s, addD_l, eqD_i, neD_i, subD_i, mulD_i, mulD_s, mulD_l, modD_i, fdivD_i, powD_i, cmpD_i, ixD_l, ixD_k, ixD_t, ixD_s, minD_i, maxD_i, absD_i, lenD_l, lenD_k, lenD_t, lenD_s, strD_i, intD_i, intD_b, listD_l, listD_t, reprD_d, wSl, slD_l, slD_k, slD_s, wONone, wOSome, wItems, wRng1, bName, wTup, wIf, wUnp, bTup_t, bCons_c, bNil_n, at_sep, ite_str, wPar_c, wLc, wipeE, wFor, wEnum, pick, wOr, wAnd, wNot, wDrop, wAug, wApp, wExt, wAppIx, wPar2, wPar3, wZip, wSigns, wAndV, wOrV, wNotV, wUn, negD, wLc2, lc2Go, Option.some.injEq, exists_eq_left', wRetO, wLcCat, wGive, wTry, wClr, wIns, wSetIx, wMv, wMvF, wChain, wRev, intSD, wShut, wTryR, wForAppIx, wForApT, wAppIxT, wTupO, wIxO, isiD, bStar, wTryAs, wRaise, wFnV, wKit, wKits, wXv, wVarS, wForT, wForApp, wForPop, wAddO, wRngL, wSortR, wTupM, wSg, wSgSet, wSgNe, wSgPop, Sg.get, Sg.put, wWhile, wSortSet, wLstO, wListRg3, wStar, wFnA, wBg, wBgSet, wBgPop, wBgLen, wBgAug, wDic4, wIslower, wIsalpha, Bg.get, Bg.put, wStep, dLine_l, dLine_k, dLine_len, dLine_ix, dLine_sl, dLine_add, dLine_list, dPage_l, dPage_k, dPage_len, dPage_ix, dPage_sl, dPage_add, dPage_list, dInts_l, dInts_k, dInts_len, dInts_ix, dInts_sl, dInts_add, dInts_list, wLM, wVal, wTryEx, wIx1]
      refine .inl ⟨_, _, rfl, .inl rfl, ?_⟩
      by_cases p : w ∈ effL a
      · refine .inl ⟨by simp [p], .inl ⟨_, _, rfl, .inl rfl, ?_⟩⟩
        by_cases q : w ∈ effL b
        · exact .inl ⟨by simp [q], by simpa [p, q] using kk⟩
        · exact .inr ⟨by simp [q], by simpa [p, q] using kk⟩
      · exact .inr ⟨by simp [p], by simpa [p] using kk⟩
    · simp [wSeq, wIfS, wTest, wOp, wRg, wRgSet, wC, wVar, wSet, wRet, wFnR, wFn, wFnK, wCons, wNil, wLst, wCall, wM1, wNext, exE, Rg.get, Rg.put, startE, addD_i, addD_s, addD_l, eqD_i, neD_i, subD_i, mulD_i, mulD_s, mulD_l, modD_i, fdivD_i, powD_i, cmpD_i, ixD_l, ixD_k, ixD_t, ixD_s, minD_i, maxD_i, absD_i, lenD_l, lenD_k, lenD_t, lenD_s, strD_i, intD_i, intD_b, listD_l, listD_t, reprD_d, wSl, slD_l, slD_k, slD_s, wONone, wOSome, wItems, wRng1, bName, wTup, wIf, wUnp, bTup_t, bCons_c, bNil_n, at_sep, ite_str, wPar_c, wLc, wipeE, wFor, wEnum, pick, wOr, wAnd, wNot, wDrop, wAug, wApp, wExt, wAppIx, wPar2, wPar3, wZip, wSigns, wAndV, wOrV, wNotV, wUn, negD, wLc2, lc2Go, Option.some.injEq, exists_eq_left', wRetO, wLcCat, wGive, wTry, wClr, wIns, wSetIx, wMv, wMvF, wChain, wRev, intSD, wShut, wTryR, wForAppIx, wForApT, wAppIxT, wTupO, wIxO, isiD, bStar, wTryAs, wRaise, wFnV, wKit, wKits, wXv, wVarS, wForT, wForApp, wForPop, wAddO, wRngL, wSortR, wTupM, wSg, wSgSet, wSgNe, wSgPop, Sg.get, Sg.put, wWhile, wSortSet, wLstO, wListRg3, wStar, wFnA, wBg, wBgSet, wBgPop, wBgLen, wBgAug, wDic4, wIslower, wIsalpha, Bg.get, Bg.put, wStep, dLine_l, dLine_k, dLine_len, dLine_ix, dLine_sl, dLine_add, dLine_list, dPage_l, dPage_k, dPage_len, dPage_ix, dPage_sl, dPage_add, dPage_list, dInts_l, dInts_k, dInts_len, dInts_ix, dInts_sl, dInts_add, dInts_list, wLM, wVal, wTryEx, wIx1]
      exact kk
    · rw [List.nil_append]
      refine .inr ⟨_, rfl, ?_, fun m hm hmax => ?_⟩
      · obtain ⟨x, hx, _⟩ := top_diff2 e iA.sd iB.sd
        have : x ∈ (effL a ++ effL b).filter fun w => !decide (w ∈ effL a) || !decide (w ∈ effL b) := by
          rw [List.mem_filter]
          rcases hx with ⟨p, q⟩ | ⟨p, q⟩
          · exact ⟨List.mem_append_left _ p, by simp [q]⟩
          · exact ⟨List.mem_append_right _ q, by simp [p]⟩
        exact List.length_pos_of_mem this
      · have hm2 := List.mem_filter.mp hm
        have ag : ∀ z, m < z → (z ∈ effL a ↔ z ∈ effL b) := fun z hz => by
          refine Classical.byContradiction fun hn => ?_
          have : z ∈ (effL a ++ effL b).filter fun w => !decide (w ∈ effL a) || !decide (w ∈ effL b) := by
            rw [List.mem_filter]
            by_cases p : z ∈ effL a
            · have q : z ∉ effL b := fun q => hn ⟨fun _ => q, fun _ => p⟩
              exact ⟨List.mem_append_left _ p, by simp [q]⟩
            · have q : z ∈ effL b := Classical.byContradiction fun q => hn ⟨fun p' => absurd p' p, fun q' => absurd q' q⟩
              exact ⟨List.mem_append_right _ q, by simp [p]⟩
          have := hmax z this
          omega
        refine .inl ⟨_, _, rfl, .inl rfl, ?_⟩
        have low : ∀ (O : List Int) (env : Env) (Kq : List Dt → Unit → Prop), O.length ≤ 3000 → env.length = 7 → env[4]? = some (some (.int m)) → Kq ((O.filter fun w => decide (w < m)).map .int) g → lcGo (bName 6) (wTest (wOp (cmpD fun i j => decide (i < j)) (wVar 6) (wVar 4))) (wVar 6) Kq (O.map .int) env g [] := fun O env Kq hO he h4 hk => by
          refine lc_filter Dt.int Dt.int (fun w => decide (w < m)) _ _ O [] (by simp; show _ ≤ 2 ^ 24; omega) (fun w hw K kk => ?_) (fun w hw _ K kk => ?_) (by rw [List.nil_append]; exact hk)
          · simp only [wTest, wOp, wVar]
            refine ⟨_, List.getElem?_set_self (by omega), _, by rw [List.getElem?_set_ne (by decide)]; exact h4, ?_⟩
            rw [cmpD_i]
            exact ⟨_, rfl, kk⟩
          · simp only [wVar]
            exact ⟨_, List.getElem?_set_self (by omega), kk⟩
        by_cases ma : m ∈ effL a
        · have mb : m ∉ effL b := fun q => by simp [ma, q] at hm2
          refine .inr ⟨by simp [ma], .inl ⟨_, rfl, low (effL b) _ _ (by have := okb.1; omega) rfl rfl ?_⟩⟩
          refine tail m (effL b) (iA.ge m ma) (bA m ma) (fun w hw => ⟨iB.ge w hw, bB w hw⟩) fun l hl hw => ?_
          rw [foldW_g, foldW_g, ← gW_eff a (pos hw), ← gW_eff b (pos hw)]
          exact part_main iA iB ma mb ag hl
        · have mb : m ∈ effL b := by
            rcases List.mem_append.mp hm2.1 with q | q
            · exact absurd q ma
            · exact q
          refine .inl ⟨by simp [ma], .inl ⟨_, rfl, low (effL a) _ _ (by have := oka.1; omega) rfl rfl ?_⟩⟩
          refine tail m (effL a) (iB.ge m mb) (bB m mb) (fun w hw => ⟨iA.ge w hw, bA w hw⟩) fun l hl hw => ?_
          rw [foldW_g, foldW_g, ← gW_eff a (pos hw), ← gW_eff b (pos hw)]
          refine Ne.symm (part_main iB iA mb ma (fun z hz => (ag z hz).symm) ?_)
          rw [hl]
          congr 1
          exact decide_eq_decide.mpr (ag (m + 1) (by omega))
end Vl

namespace Vl
open PySem L2
def okA (L : List (List Str)) : Prop := L.length ≤ 1000 ∧ (∀ l ∈ L, l ≠ [] ∧ l.length ≤ 3 ∧ ∀ z ∈ l, aWord z) ∧ ∀ sz : List Int, 1 ≤ sz.length → sz.length ≤ 3 → (∀ n ∈ sz, 1 ≤ n ∧ n ≤ 9) → ∃ l ∈ L, l.map (fun z => (z.length : Int)) = sz
def sp_law_words (r : BgA) : Spec Bg := fun ds g Q _ => ∃ (a n : Int) (F : Nat), ds = [.raw (.ref r.1), .int a, .int n] ∧ 1 ≤ a ∧ a ≤ 60 ∧ 1 ≤ n ∧ n ≤ 60 ∧ BgOk (F + 200) g ∧ ∀ (l : List Str) g', l ≠ [] → l.length ≤ 60 → (∀ z ∈ l, isWord 60 z) → BgOk F g' → Q (dLine l) g'
def sp_law_all_lines : Spec Unit := fun ds _ Q _ => ds = [.int 9] ∧ ∀ L, okA L → Q (dPage L) ()
abbrev sp_law := specLaw
def w_law_words (r : BgA) : WS Bg :=
 (wRet (wLc [3] (wRng1 (wCons (wOp addD (wC (.int 1)) (wFnR (sp_law_draw r) (wCons (wVar 0) (wCons (wVar 1) wNil)))) wNil)) (bName 3) wYes (wOp mulD (wOp ixD (wC (.str "abcdefghij")) (wFnR (sp_law_draw r) (wCons (wVar 0) (wCons (wC (.int 10)) wNil)))) (wOp addD (wC (.int 1)) (wFnR (sp_law_draw r) (wCons (wVar 0) (wCons (wVar 2) wNil)))))))
def w_law_all_lines : WS Unit :=
 (wSeq (wSet 1 (wLst wNil))
 (wSeq (wFor (wRng2 (wCons (wC (.int 1)) (wCons (wOp addD (wVar 0) (wC (.int 1))) wNil))) (bName 2)
 (wSeq (wApp 1 (wLst (wCons (wVar 2) wNil)))
 (wFor (wRng2 (wCons (wC (.int 1)) (wCons (wOp addD (wVar 0) (wC (.int 1))) wNil))) (bName 3)
 (wSeq (wApp 1 (wLst (wCons (wVar 2) (wCons (wVar 3) wNil))))
 (wExt 1 (wLc [4] (wRng2 (wCons (wC (.int 1)) (wCons (wOp addD (wVar 0) (wC (.int 1))) wNil))) (bName 4) wYes (wLst (wCons (wVar 2) (wCons (wVar 3) (wCons (wVar 4) wNil))))))))))
 (wRet (wLc [5] (wItems (wVar 1)) (bName 5) wYes (wLc [6] (wItems (wVar 5)) (bName 6) wYes (wOp mulD (wC (.str "a")) (wVar 6)))))))
def w_law : WS Unit :=
 (wSeq (wSet 1 (wFn sp_law_bag (wCons (wVar 0) wNil)))
 (wAdopt (mo [(1, 2)]) 1 isBg Prod.fst fun r => (wSeq (wSet 2 (wFn sp_law_all_lines (wCons (wC (.int 9)) wNil)))
 (wSeq (wFor (wRng1 (wCons (wOp addD (wC (.int 1)) (wCall minD (wCons (wC (.int 3)) (wCons (wCall lenD (wCons (wVar 0) wNil)) wNil)))) wNil)) (bName 3)
 (wSeq (wUnp (bTup (bCons (bName 4) (bCons (bName 5) bNil))) (wTup (wCons (wFnR (sp_law_sizes r) (wCons (wVar 1) (wCons (wC (.int 6)) (wCons (wC (.int 9)) wNil)))) (wCons (wFnR (sp_law_sizes r) (wCons (wVar 1) (wCons (wC (.int 6)) (wCons (wC (.int 9)) wNil)))) wNil))))
 (wSeq (wIfS (wTest (wOp eqD (wFnR (sp_law_draw r) (wCons (wVar 1) (wCons (wC (.int 2)) wNil))) (wC (.int 0))))
 (wSet 5 (wOp addD (wStep (wFn sp_law_effect (wCons (wVar 4) wNil)) (wOp addD (wC (.int 1)) (wFnR (sp_law_draw r) (wCons (wVar 1) (wCons (wC (.int 2)) wNil))))) (wFnR (sp_law_sizes r) (wCons (wVar 1) (wCons (wC (.int 2)) (wCons (wC (.int 9)) wNil))))))
 wNext)
 (wSeq (wSet 6 (wLc [9] (wItems (wVar 2)) (bName 9) (wTest (wOp neD (wFn sp_law_folded (wCons (wLst (wCons (wVar 9) wNil)) (wCons (wVar 4) wNil))) (wFn sp_law_folded (wCons (wLst (wCons (wVar 9) wNil)) (wCons (wVar 5) wNil))))) (wVar 9)))
 (wSeq (wIfS (wTest (wOp neD (wOp (isD false) (wFn sp_parting_line (wCons (wVar 4) (wCons (wVar 5) wNil))) (wC .non)) (wOp eqD (wVar 6) (wLst wNil))))
 (wRet (wC (.bl false)))
 wNext)
 (wIfS (wTest (wOp eqD (wVar 6) (wLst wNil)))
 (wFor (wRng1 (wCons (wC (.int 20)) wNil)) (bName 7)
 (wSeq (wSet 8 (wFnR (sp_law_words r) (wCons (wVar 1) (wCons (wC (.int 8)) (wCons (wC (.int 4)) wNil)))))
 (wIfS (wTest (wOp neD (wFn sp_law_folded (wCons (wLst (wCons (wVar 8) wNil)) (wCons (wVar 4) wNil))) (wFn sp_law_folded (wCons (wLst (wCons (wVar 8) wNil)) (wCons (wVar 5) wNil)))))
 (wRet (wC (.bl false)))
 wNext)))
 wNext))))))
 (wRet (wC (.bl true)))))))
def topS (i : Nat) : Stmt := PySem.Challenge.pw_refold_k29_whole_three_words_suffice.main.body.getD i (.Pass ⟨0, 0, 0, 0⟩)
abbrev s_check_widths : Stmt := topS 4
abbrev s_minima : Stmt := topS 7
abbrev s_effect_of : Stmt := topS 8
abbrev s_line_of : Stmt := topS 11
abbrev s_parting_line : Stmt := topS 12
abbrev s_law_bag : Stmt := topS 14
abbrev s_law_draw : Stmt := topS 15
abbrev s_law_fold_line : Stmt := topS 16
abbrev s_law_folded : Stmt := topS 17
abbrev s_law_effect : Stmt := topS 18
abbrev s_law_sizes : Stmt := topS 19
abbrev s_law_words : Stmt := topS 20
abbrev N_law_words : List Str := ["bag", "many", "long", "number"]
abbrev s_law_all_lines : Stmt := topS 22
abbrev N_law_all_lines : List Str := ["most", "found", "first", "second", "third", "numbers", "number"]
abbrev s_law : Stmt := topS 23
abbrev N_law : List Str := ["script", "bag", "lines", "turn", "one", "two", "unlike", "number", "words", "line"]
--<pieces
def qW29 (r : BgA) : WS Bg := (wFor (wRng1 (wCons (wC (.int 20)) wNil)) (bName 7)
 (wSeq (wSet 8 (wFnR (sp_law_words r) (wCons (wVar 1) (wCons (wC (.int 8)) (wCons (wC (.int 4)) wNil)))))
 (wIfS (wTest (wOp neD (wFn sp_law_folded (wCons (wLst (wCons (wVar 8) wNil)) (wCons (wVar 4) wNil))) (wFn sp_law_folded (wCons (wLst (wCons (wVar 8) wNil)) (wCons (wVar 5) wNil)))))
 (wRet (wC (.bl false)))
 wNext)))
def qB29 (r : BgA) : WS Bg := (wIfS (wTest (wOp eqD (wFnR (sp_law_draw r) (wCons (wVar 1) (wCons (wC (.int 2)) wNil))) (wC (.int 0))))
 (wSet 5 (wOp addD (wStep (wFn sp_law_effect (wCons (wVar 4) wNil)) (wOp addD (wC (.int 1)) (wFnR (sp_law_draw r) (wCons (wVar 1) (wCons (wC (.int 2)) wNil))))) (wFnR (sp_law_sizes r) (wCons (wVar 1) (wCons (wC (.int 2)) (wCons (wC (.int 9)) wNil))))))
 wNext)
def qU29 (r : BgA) : WS Bg := (wSeq (wSet 6 (wLc [9] (wItems (wVar 2)) (bName 9) (wTest (wOp neD (wFn sp_law_folded (wCons (wLst (wCons (wVar 9) wNil)) (wCons (wVar 4) wNil))) (wFn sp_law_folded (wCons (wLst (wCons (wVar 9) wNil)) (wCons (wVar 5) wNil))))) (wVar 9)))
 (wSeq (wIfS (wTest (wOp neD (wOp (isD false) (wFn sp_parting_line (wCons (wVar 4) (wCons (wVar 5) wNil))) (wC .non)) (wOp eqD (wVar 6) (wLst wNil))))
 (wRet (wC (.bl false)))
 wNext)
 (wIfS (wTest (wOp eqD (wVar 6) (wLst wNil)))
 (qW29 r)
 wNext)))
--pieces>
theorem len_law_words {r : BgA} {ds : List Dt} {g Q E} (h : sp_law_words r ds g Q E) : ds.length = 3 := by obtain ⟨_, _, _, rfl, _⟩ := h; rfl
theorem len_law_all_lines {ds : List Dt} {g Q E} (h : sp_law_all_lines ds g Q E) : ds.length = 1 := by obtain ⟨rfl, _⟩ := h; rfl
theorem len_law {ds : List Dt} {g Q E} (h : specLaw ds g Q E) : ds.length = 1 := by obtain ⟨ns, rfl, _⟩ := h; rfl
theorem small_part {a b : List Int} (ha : ∀ w ∈ a, 1 ≤ w ∧ w ≤ 9) (hb : ∀ w ∈ b, 1 ≤ w ∧ w ≤ 9) (e : effL a ≠ effL b) :
    ∃ sz : List Int, 1 ≤ sz.length ∧ sz.length ≤ 3 ∧ (∀ n ∈ sz, 1 ≤ n ∧ n ≤ 9) ∧ ∀ l : List Str, l.map (fun z => (z.length : Int)) = sz → foldW a [l] ≠ foldW b [l] := by
  have pos : ∀ {sz : List Int} {l : List Str}, l.map (fun z => (z.length : Int)) = sz → (∀ n ∈ sz, 1 ≤ n) → gPos Str.length [l] := fun {sz l} hl h z hz => by
    simp at hz
    have : (z.length : Int) ∈ sz := by rw [← hl]; exact List.mem_map.mpr ⟨z, hz, rfl⟩
    have := h _ this
    omega
  by_cases two : effL a = [2] ∨ effL b = [2]
  · refine ⟨[1, 1], by decide, by decide, by decide, fun l hl => ?_⟩
    have hp := pos hl (by decide)
    rw [foldW_g, foldW_g, ← gW_eff a hp, ← gW_eff b hp]
    obtain ⟨u, v, rfl, hu, hv⟩ : ∃ u v, l = [u, v] ∧ (u.length : Int) = 1 ∧ (v.length : Int) = 1 := by
      cases l with
      | nil => simp at hl
      | cons u r =>
        cases r with
        | nil => simp at hl
        | cons v r =>
          cases r with
          | nil => exact ⟨u, v, rfl, by simpa using hl⟩
          | cons _ _ => simp at hl
    have hu : u.length = 1 := by omega
    have hv : v.length = 1 := by omega
    rcases two with q | q
    · have nb : effL b ≠ [2] := fun z => e (by rw [q, z])
      exact part_low (by rw [q]; simp) (effL_isE nb fun w h => (hb w h).1).ge hu hv
    · have na : effL a ≠ [2] := fun z => e (by rw [q, z])
      exact Ne.symm (part_low (by rw [q]; simp) (effL_isE na fun w h => (ha w h).1).ge hu hv)
  · have iA := effL_isE (fun q => two (.inl q)) fun w h => (ha w h).1
    have iB := effL_isE (fun q => two (.inr q)) fun w h => (hb w h).1
    have main : ∀ {A B : List Int} {x : Int}, isE A → isE B → x ∈ A → x ∉ B → x ≤ 10 → (∀ z, x < z → (z ∈ A ↔ z ∈ B)) → ∃ sz : List Int, 1 ≤ sz.length ∧ sz.length ≤ 3 ∧ (∀ n ∈ sz, 1 ≤ n ∧ n ≤ 9) ∧ ∀ l : List Str, l.map (fun z => (z.length : Int)) = sz → gW Str.length A [l] ≠ gW Str.length B [l] := fun {A B x} iA iB xa xb x9 ag => by
      have x3 := iA.ge x xa
      refine ⟨partSizes x (B.any fun w => decide (w < x)) (decide (x + 1 ∈ A)), ?_, ?_, fun n hn => ?_, fun l hl => part_main iA iB xa xb ag hl⟩
      · unfold partSizes; split; · simp
        split <;> simp
      · unfold partSizes; split; · simp
        split <;> simp
      · by_cases hlow : (B.any fun w => decide (w < x)) = false
        · unfold partSizes at hn; rw [if_pos hlow] at hn; simp at hn; omega
        · have x4 : 4 ≤ x := by
            have : (B.any fun w => decide (w < x)) = true := by simpa using hlow
            obtain ⟨z, hz, h⟩ := List.any_eq_true.mp this
            have := iB.ge z hz
            have h : z < x := by simpa using h
            omega
          unfold partSizes at hn
          rw [if_neg hlow] at hn
          split at hn <;> (simp at hn; omega)
    have le9 : ∀ {l : List Int}, (∀ w ∈ l, 1 ≤ w ∧ w ≤ 9) → ∀ w ∈ effL l, w ≤ 10 := fun {l} h w hw => (effL_in (B := 10) (fun w q => by have := h w q; omega) (by decide) w hw).2
    obtain ⟨x, hx, ag⟩ := top_diff2 e iA.sd iB.sd
    rcases hx with ⟨xa, xb⟩ | ⟨xb, xa⟩
    · obtain ⟨sz, h1, h2, h3, h4⟩ := main iA iB xa xb (le9 ha x xa) ag
      refine ⟨sz, h1, h2, h3, fun l hl => ?_⟩
      have hp := pos hl fun n hn => (h3 n hn).1
      rw [foldW_g, foldW_g, ← gW_eff a hp, ← gW_eff b hp]
      exact h4 l hl
    · obtain ⟨sz, h1, h2, h3, h4⟩ := main iB iA xa xb (le9 hb x xa) fun z q => (ag z q).symm
      refine ⟨sz, h1, h2, h3, fun l hl => ?_⟩
      have hp := pos hl fun n hn => (h3 n hn).1
      rw [foldW_g, foldW_g, ← gW_eff a hp, ← gW_eff b hp]
      exact Ne.symm (h4 l hl)
theorem law_law_words {r : BgA} {ds : List Dt} {g : Bg} {Q E} (h : sp_law_words r ds g Q E) : w_law_words r { nx := fun _ g => Q .non g, rt := Q, ex := fun c d _ g => E c d g } (startE N_law_words ds) g := by
  obtain ⟨a, n, F, rfl, h0, h1, h2, h3, ok, k⟩ := h
  simp [w_law_words, wSeq, wIfS, wTest, wOp, wRg, wRgSet, wC, wVar, wSet, wRet, wFnR, wFn, wFnK, wCons, wNil, wLst, wCall, wM1, wNext, exE, Rg.get, Rg.put, startE, addD_i, addD_s, addD_l, eqD_i, neD_i, subD_i, mulD_i, mulD_s, mulD_l, modD_i, fdivD_i, powD_i, cmpD_i, ixD_l, ixD_k, ixD_t, ixD_s, minD_i, maxD_i, absD_i, lenD_l, lenD_k, lenD_t, lenD_s, strD_i, intD_i, intD_b, listD_l, listD_t, reprD_d, wSl, slD_l, slD_k, slD_s, wONone, wOSome, wItems, wRng1, bName, wTup, wIf, wUnp, bTup_t, bCons_c, bNil_n, at_sep, ite_str, wPar_c, wLc, wipeE, wFor, wEnum, pick, wOr, wAnd, wNot, wDrop, wAug, wApp, wExt, wAppIx, wPar2, wPar3, wZip, wSigns, wAndV, wOrV, wNotV, wUn, negD, wLc2, lc2Go, Option.some.injEq, exists_eq_left', wRetO, wLcCat, wGive, wTry, wClr, wIns, wSetIx, wMv, wMvF, wChain, wRev, intSD, wShut, wTryR, wForAppIx, wForApT, wAppIxT, wTupO, wIxO, isiD, bStar, wTryAs, wRaise, wFnV, wKit, wKits, wXv, wVarS, wForT, wForApp, wForPop, wAddO, wRngL, wSortR, wTupM, wSg, wSgSet, wSgNe, wSgPop, Sg.get, Sg.put, wWhile, wSortSet, wLstO, wListRg3, wStar, wFnA, wBg, wBgSet, wBgPop, wBgLen, wBgAug, wDic4, wIslower, wIsalpha, Bg.get, Bg.put, wStep, dLine_l, dLine_k, dLine_len, dLine_ix, dLine_sl, dLine_add, dLine_list, dPage_l, dPage_k, dPage_len, dPage_ix, dPage_sl, dPage_add, dPage_list, dInts_l, dInts_k, dInts_len, dInts_ix, dInts_sl, dInts_add, dInts_list, wLM, wVal, wTryEx, wIx1, N_law_words]
  refine drB (F := F + 199) (by omega) (by omega) ok fun v1 g1 a1 b1 ok1 => ?_
  show addD (.int 1) (.int v1) _
  rw [addD_i]
  refine ⟨_, rfl, by omega, by omega, ?_⟩
  refine lc_rng (1 + v1).toNat (by show _ ≤ 2 ^ 24; omega) (fun m g acc => ∃ l : List Str, acc = l.map Dt.str ∧ l.length = m ∧ (∀ z ∈ l, isWord 60 z) ∧ BgOk (F + 3 * ((1 + v1).toNat - m)) g) _ ?_ ?_ _ ⟨[], rfl, rfl, by simp, ok1.le (by omega)⟩
  · rintro m g acc K hm ⟨l, rfl, hl, hw, okg⟩ kk
    simp [wSeq, wIfS, wTest, wOp, wRg, wRgSet, wC, wVar, wSet, wRet, wFnR, wFn, wFnK, wCons, wNil, wLst, wCall, wM1, wNext, exE, Rg.get, Rg.put, startE, addD_i, addD_s, addD_l, eqD_i, neD_i, subD_i, mulD_i, mulD_s, mulD_l, modD_i, fdivD_i, powD_i, cmpD_i, ixD_l, ixD_k, ixD_t, ixD_s, minD_i, maxD_i, absD_i, lenD_l, lenD_k, lenD_t, lenD_s, strD_i, intD_i, intD_b, listD_l, listD_t, reprD_d, wSl, slD_l, slD_k, slD_s, wONone, wOSome, wItems, wRng1, bName, wTup, wIf, wUnp, bTup_t, bCons_c, bNil_n, at_sep, ite_str, wPar_c, wLc, wipeE, wFor, wEnum, pick, wOr, wAnd, wNot, wDrop, wAug, wApp, wExt, wAppIx, wPar2, wPar3, wZip, wSigns, wAndV, wOrV, wNotV, wUn, negD, wLc2, lc2Go, Option.some.injEq, exists_eq_left', wRetO, wLcCat, wGive, wTry, wClr, wIns, wSetIx, wMv, wMvF, wChain, wRev, intSD, wShut, wTryR, wForAppIx, wForApT, wAppIxT, wTupO, wIxO, isiD, bStar, wTryAs, wRaise, wFnV, wKit, wKits, wXv, wVarS, wForT, wForApp, wForPop, wAddO, wRngL, wSortR, wTupM, wSg, wSgSet, wSgNe, wSgPop, Sg.get, Sg.put, wWhile, wSortSet, wLstO, wListRg3, wStar, wFnA, wBg, wBgSet, wBgPop, wBgLen, wBgAug, wDic4, wIslower, wIsalpha, Bg.get, Bg.put, wStep, dLine_l, dLine_k, dLine_len, dLine_ix, dLine_sl, dLine_add, dLine_list, dPage_l, dPage_k, dPage_len, dPage_ix, dPage_sl, dPage_add, dPage_list, dInts_l, dInts_k, dInts_len, dInts_ix, dInts_sl, dInts_add, dInts_list, wLM, wVal, wTryEx, wIx1]
    refine drB (F := F + 3 * ((1 + v1).toNat - (m + 1)) + 2) (by decide) (by decide) (okg.le (by omega)) fun v3 g3 a3 b3 ok3 => ?_
    have abj : (Str.ofString "abcdefghij").cps.toList.length = 10 := by decide +kernel
    have abo : ∀ c ∈ (Str.ofString "abcdefghij").cps.toList, 97 ≤ c ∧ c ≤ 122 := by decide +kernel
    obtain ⟨c, e3, hc3⟩ := at_nat (xs := (Str.ofString "abcdefghij").cps.toList) a3 (by rw [abj]; exact b3)
    have hc4 := abo c hc3
    simp only [ixD_s, e3, Option.some.injEq, exists_eq_left']
    refine ⟨by decide +kernel, drB (F := F + 3 * ((1 + v1).toNat - (m + 1)) + 1) (by omega) (by omega) ok3 fun v4 g4 a4 b4 ok4 => ?_⟩
    show addD (.int 1) (.int v4) _
    rw [addD_i, mulD_s]
    have l1 : Str.length (⟨#[c]⟩ : Str) = 1 := rfl
    have el := len_repS (⟨#[c]⟩ : Str) (1 + v4)
    rw [l1] at el ⊢
    refine ⟨by omega, by omega, by omega, ?_⟩
    refine kk _ _ ⟨l ++ [repS (⟨#[c]⟩ : Str) (1 + v4)], by simp, by simp [hl], fun z hz => ?_, ok4.le (by omega)⟩
    · rcases List.mem_append.mp hz with q | q
      · exact hw z q
      · rw [List.mem_singleton.mp q]
        refine ⟨by omega, by omega, fun x hx => ?_⟩
        have := mem_repS hx
        have e5 : (⟨#[c]⟩ : Str).cps.toList = [c] := rfl
        rw [e5] at this
        rw [List.mem_singleton.mp this]
        exact hc4
  · rintro g acc ⟨l, rfl, hl, hw, okg⟩
    exact k l g (fun e => by rw [e] at hl; simp at hl; omega) (by omega) hw (okg.le (by omega))
def hSz (i j : Nat) : List (List Int) := [1 + (i : Int), 1 + (j : Int)] :: (List.range 9).map fun k : Nat => [1 + (i : Int), 1 + (j : Int), 1 + (k : Int)]
def gSz (i : Nat) : List (List Int) := [1 + (i : Int)] :: (List.range 9).flatMap (hSz i)
def allSz : List (List Int) := (List.range 9).flatMap gSz
theorem allSz_len : allSz.length = 819 := by decide +kernel
theorem allSz_all : ∀ sz ∈ allSz, 1 ≤ sz.length ∧ sz.length ≤ 3 ∧ ∀ n ∈ sz, 1 ≤ n ∧ n ≤ 9 := by decide +kernel
theorem allSz_mem {sz : List Int} (h1 : 1 ≤ sz.length) (h3 : sz.length ≤ 3) (hn : ∀ n ∈ sz, 1 ≤ n ∧ n ≤ 9) : sz ∈ allSz := by
  have nat : ∀ n ∈ sz, ∃ k : Nat, k ∈ List.range 9 ∧ n = 1 + (k : Int) := fun n h => ⟨(n - 1).toNat, by rw [List.mem_range]; have := hn n h; omega, by have := hn n h; omega⟩
  unfold allSz
  rw [List.mem_flatMap]
  match sz, h1, h3, nat with
  | [x], _, _, nat =>
    obtain ⟨i, hi, rfl⟩ := nat x (by simp)
    exact ⟨i, hi, by unfold gSz; simp⟩
  | [x, y], _, _, nat =>
    obtain ⟨i, hi, rfl⟩ := nat x (by simp)
    obtain ⟨j, hj, rfl⟩ := nat y (by simp)
    exact ⟨i, hi, List.mem_cons_of_mem _ (List.mem_flatMap.mpr ⟨j, hj, by unfold hSz; simp⟩)⟩
  | [x, y, z], _, _, nat =>
    obtain ⟨i, hi, rfl⟩ := nat x (by simp)
    obtain ⟨j, hj, rfl⟩ := nat y (by simp)
    obtain ⟨k, hk, rfl⟩ := nat z (by simp)
    exact ⟨i, hi, List.mem_cons_of_mem _ (List.mem_flatMap.mpr ⟨j, hj, List.mem_cons_of_mem _ (List.mem_map.mpr ⟨k, hk, rfl⟩)⟩)⟩
theorem sum10 : ∀ b : List Nat, (b.map fun _ => 10).sum = 10 * b.length
  | [] => rfl
  | _ :: b => by rw [List.map_cons, List.sum_cons, List.length_cons, sum10 b]; omega
abbrev dF (F : List (List Int)) : Dt := .lst (F.map dInts)
theorem law_law_all_lines {ds : List Dt} {g Q E} (h : sp_law_all_lines ds g Q E) : w_law_all_lines { nx := fun _ g => Q .non g, rt := Q, ex := fun c d _ g => E c d g } (startE N_law_all_lines ds) g := by
  obtain ⟨rfl, k⟩ := h
  simp [w_law_all_lines, wSeq, wIfS, wTest, wOp, wRg, wRgSet, wC, wVar, wSet, wRet, wFnR, wFn, wFnK, wCons, wNil, wLst, wCall, wM1, wNext, exE, Rg.get, Rg.put, startE, addD_i, addD_s, addD_l, eqD_i, neD_i, subD_i, mulD_i, mulD_s, mulD_l, modD_i, fdivD_i, powD_i, cmpD_i, ixD_l, ixD_k, ixD_t, ixD_s, minD_i, maxD_i, absD_i, lenD_l, lenD_k, lenD_t, lenD_s, strD_i, intD_i, intD_b, listD_l, listD_t, reprD_d, wSl, slD_l, slD_k, slD_s, wONone, wOSome, wItems, wRng1, bName, wTup, wIf, wUnp, bTup_t, bCons_c, bNil_n, at_sep, ite_str, wPar_c, wLc, wipeE, wFor, wEnum, pick, wOr, wAnd, wNot, wDrop, wAug, wApp, wExt, wAppIx, wPar2, wPar3, wZip, wSigns, wAndV, wOrV, wNotV, wUn, negD, wLc2, lc2Go, Option.some.injEq, exists_eq_left', wRetO, wLcCat, wGive, wTry, wClr, wIns, wSetIx, wMv, wMvF, wChain, wRev, intSD, wShut, wTryR, wForAppIx, wForApT, wAppIxT, wTupO, wIxO, isiD, bStar, wTryAs, wRaise, wFnV, wKit, wKits, wXv, wVarS, wForT, wForApp, wForPop, wAddO, wRngL, wSortR, wTupM, wSg, wSgSet, wSgNe, wSgPop, Sg.get, Sg.put, wWhile, wSortSet, wLstO, wListRg3, wStar, wFnA, wBg, wBgSet, wBgPop, wBgLen, wBgAug, wDic4, wIslower, wIsalpha, Bg.get, Bg.put, wStep, dLine_l, dLine_k, dLine_len, dLine_ix, dLine_sl, dLine_add, dLine_list, dPage_l, dPage_k, dPage_len, dPage_ix, dPage_sl, dPage_add, dPage_list, dInts_l, dInts_k, dInts_len, dInts_ix, dInts_sl, dInts_add, dInts_list, wLM, wVal, wTryEx, wIx1, N_law_all_lines, wRng2]
  refine ⟨1, 10, ⟨rfl, rfl⟩, by decide, ?_⟩
  refine for_map (List.range 9) (fun i : Nat => .int (1 + (i : Nat))) (fun a env g => (a.flatMap gSz).length ≤ 91 * a.length ∧ ∃ x2 x3, env = [some (.int 9), some (dF (a.flatMap gSz)), x2, x3, none, none, none]) ?_ ?_ _ _ ⟨by simp, none, none, rfl⟩
  · rintro env g ⟨_, x2, x3, rfl⟩
    simp [wSeq, wIfS, wTest, wOp, wRg, wRgSet, wC, wVar, wSet, wRet, wFnR, wFn, wFnK, wCons, wNil, wLst, wCall, wM1, wNext, exE, Rg.get, Rg.put, startE, addD_i, addD_s, addD_l, eqD_i, neD_i, subD_i, mulD_i, mulD_s, mulD_l, modD_i, fdivD_i, powD_i, cmpD_i, ixD_l, ixD_k, ixD_t, ixD_s, minD_i, maxD_i, absD_i, lenD_l, lenD_k, lenD_t, lenD_s, strD_i, intD_i, intD_b, listD_l, listD_t, reprD_d, wSl, slD_l, slD_k, slD_s, wONone, wOSome, wItems, wRng1, bName, wTup, wIf, wUnp, bTup_t, bCons_c, bNil_n, at_sep, ite_str, wPar_c, wLc, wipeE, wFor, wEnum, pick, wOr, wAnd, wNot, wDrop, wAug, wApp, wExt, wAppIx, wPar2, wPar3, wZip, wSigns, wAndV, wOrV, wNotV, wUn, negD, wLc2, lc2Go, Option.some.injEq, exists_eq_left', wRetO, wLcCat, wGive, wTry, wClr, wIns, wSetIx, wMv, wMvF, wChain, wRev, intSD, wShut, wTryR, wForAppIx, wForApT, wAppIxT, wTupO, wIxO, isiD, bStar, wTryAs, wRaise, wFnV, wKit, wKits, wXv, wVarS, wForT, wForApp, wForPop, wAddO, wRngL, wSortR, wTupM, wSg, wSgSet, wSgNe, wSgPop, Sg.get, Sg.put, wWhile, wSortSet, wLstO, wListRg3, wStar, wFnA, wBg, wBgSet, wBgPop, wBgLen, wBgAug, wDic4, wIslower, wIsalpha, Bg.get, Bg.put, wStep, dLine_l, dLine_k, dLine_len, dLine_ix, dLine_sl, dLine_add, dLine_list, dPage_l, dPage_k, dPage_len, dPage_ix, dPage_sl, dPage_add, dPage_list, dInts_l, dInts_k, dInts_len, dInts_ix, dInts_sl, dInts_add, dInts_list, wLM, wVal, wTryEx, wIx1]
    refine lc_of ((List.range 9).flatMap gSz) dInts (fun sz => dLine (sz.map fun n => repS "a" n)) _ _ (by rw [show ((List.range 9).flatMap gSz).length = 819 from allSz_len]; decide) (fun sz hsz K kk => ?_) ?_
    · have hz := allSz_all sz hsz
      simp [wSeq, wIfS, wTest, wOp, wRg, wRgSet, wC, wVar, wSet, wRet, wFnR, wFn, wFnK, wCons, wNil, wLst, wCall, wM1, wNext, exE, Rg.get, Rg.put, startE, addD_i, addD_s, addD_l, eqD_i, neD_i, subD_i, mulD_i, mulD_s, mulD_l, modD_i, fdivD_i, powD_i, cmpD_i, ixD_l, ixD_k, ixD_t, ixD_s, minD_i, maxD_i, absD_i, lenD_l, lenD_k, lenD_t, lenD_s, strD_i, intD_i, intD_b, listD_l, listD_t, reprD_d, wSl, slD_l, slD_k, slD_s, wONone, wOSome, wItems, wRng1, bName, wTup, wIf, wUnp, bTup_t, bCons_c, bNil_n, at_sep, ite_str, wPar_c, wLc, wipeE, wFor, wEnum, pick, wOr, wAnd, wNot, wDrop, wAug, wApp, wExt, wAppIx, wPar2, wPar3, wZip, wSigns, wAndV, wOrV, wNotV, wUn, negD, wLc2, lc2Go, Option.some.injEq, exists_eq_left', wRetO, wLcCat, wGive, wTry, wClr, wIns, wSetIx, wMv, wMvF, wChain, wRev, intSD, wShut, wTryR, wForAppIx, wForApT, wAppIxT, wTupO, wIxO, isiD, bStar, wTryAs, wRaise, wFnV, wKit, wKits, wXv, wVarS, wForT, wForApp, wForPop, wAddO, wRngL, wSortR, wTupM, wSg, wSgSet, wSgNe, wSgPop, Sg.get, Sg.put, wWhile, wSortSet, wLstO, wListRg3, wStar, wFnA, wBg, wBgSet, wBgPop, wBgLen, wBgAug, wDic4, wIslower, wIsalpha, Bg.get, Bg.put, wStep, dLine_l, dLine_k, dLine_len, dLine_ix, dLine_sl, dLine_add, dLine_list, dPage_l, dPage_k, dPage_len, dPage_ix, dPage_sl, dPage_add, dPage_list, dInts_l, dInts_k, dInts_len, dInts_ix, dInts_sl, dInts_add, dInts_list, wLM, wVal, wTryEx, wIx1]
      refine lc_of sz Dt.int (fun n => .str (repS "a" n)) _ _ (by show _ ≤ 2 ^ 24; omega) (fun n hn K2 k2 => ?_) ?_
      · simp [wSeq, wIfS, wTest, wOp, wRg, wRgSet, wC, wVar, wSet, wRet, wFnR, wFn, wFnK, wCons, wNil, wLst, wCall, wM1, wNext, exE, Rg.get, Rg.put, startE, addD_i, addD_s, addD_l, eqD_i, neD_i, subD_i, mulD_i, mulD_s, mulD_l, modD_i, fdivD_i, powD_i, cmpD_i, ixD_l, ixD_k, ixD_t, ixD_s, minD_i, maxD_i, absD_i, lenD_l, lenD_k, lenD_t, lenD_s, strD_i, intD_i, intD_b, listD_l, listD_t, reprD_d, wSl, slD_l, slD_k, slD_s, wONone, wOSome, wItems, wRng1, bName, wTup, wIf, wUnp, bTup_t, bCons_c, bNil_n, at_sep, ite_str, wPar_c, wLc, wipeE, wFor, wEnum, pick, wOr, wAnd, wNot, wDrop, wAug, wApp, wExt, wAppIx, wPar2, wPar3, wZip, wSigns, wAndV, wOrV, wNotV, wUn, negD, wLc2, lc2Go, Option.some.injEq, exists_eq_left', wRetO, wLcCat, wGive, wTry, wClr, wIns, wSetIx, wMv, wMvF, wChain, wRev, intSD, wShut, wTryR, wForAppIx, wForApT, wAppIxT, wTupO, wIxO, isiD, bStar, wTryAs, wRaise, wFnV, wKit, wKits, wXv, wVarS, wForT, wForApp, wForPop, wAddO, wRngL, wSortR, wTupM, wSg, wSgSet, wSgNe, wSgPop, Sg.get, Sg.put, wWhile, wSortSet, wLstO, wListRg3, wStar, wFnA, wBg, wBgSet, wBgPop, wBgLen, wBgAug, wDic4, wIslower, wIsalpha, Bg.get, Bg.put, wStep, dLine_l, dLine_k, dLine_len, dLine_ix, dLine_sl, dLine_add, dLine_list, dPage_l, dPage_k, dPage_len, dPage_ix, dPage_sl, dPage_add, dPage_list, dInts_l, dInts_k, dInts_len, dInts_ix, dInts_sl, dInts_add, dInts_list, wLM, wVal, wTryEx, wIx1]
        have := hz.2.2 n hn
        have l1 : Str.length (Str.ofString "a") = 1 := by decide +kernel
        exact ⟨by omega, by rw [l1]; omega, by omega, k2⟩
      · have : sz.map (fun n => Dt.str (repS "a" n)) = (sz.map fun n => repS "a" n).map Dt.str := by rw [List.map_map]; rfl
        rw [this]
        exact kk
    · have : ((List.range 9).flatMap gSz).map (fun sz => dLine (sz.map fun n => repS "a" n)) = (allSz.map fun sz => sz.map fun n => repS "a" n).map dLine := by rw [List.map_map]; rfl
      rw [this]
      refine k (allSz.map fun sz => sz.map fun n => repS "a" n) ⟨by rw [List.length_map, allSz_len]; decide, fun l hl => ?_, fun sz h1 h3 hn => ⟨sz.map fun n => repS "a" n, List.mem_map.mpr ⟨sz, allSz_mem h1 h3 hn, rfl⟩, ?_⟩⟩
      · obtain ⟨sz, hsz, rfl⟩ := List.mem_map.mp hl
        have hz := allSz_all sz hsz
        refine ⟨fun e => by simp at e; rw [e] at hz; exact absurd hz.1 (by decide), by rw [List.length_map]; exact hz.2.1, fun z hz2 => ?_⟩
        obtain ⟨n, hn, rfl⟩ := List.mem_map.mp hz2
        have := hz.2.2 n hn
        exact (rep_a n (by omega) (by omega)).1
      · rw [List.map_map]
        refine (List.map_congr_left (g := id) fun n hn' => ?_).trans (by simp)
        have := hn n hn'
        exact (rep_a n (by omega) (by omega)).2
  · rintro a i rest env g K e ⟨ha, x2, x3, rfl⟩ kk
    have hal : a.length < 9 := by
      have := congrArg List.length e
      simp at this
      omega
    have hg : ∀ i j : Nat, (hSz i j).length = 10 := fun i j => by unfold hSz; simp
    have hgS : ∀ i : Nat, (gSz i).length = 91 := fun i => by unfold gSz; simp [hg]; decide
    show wSeq _ (wFor _ (bName 3) _) _ _ _
    simp [wSeq, wIfS, wTest, wOp, wRg, wRgSet, wC, wVar, wSet, wRet, wFnR, wFn, wFnK, wCons, wNil, wLst, wCall, wM1, wNext, exE, Rg.get, Rg.put, startE, addD_i, addD_s, addD_l, eqD_i, neD_i, subD_i, mulD_i, mulD_s, mulD_l, modD_i, fdivD_i, powD_i, cmpD_i, ixD_l, ixD_k, ixD_t, ixD_s, minD_i, maxD_i, absD_i, lenD_l, lenD_k, lenD_t, lenD_s, strD_i, intD_i, intD_b, listD_l, listD_t, reprD_d, wSl, slD_l, slD_k, slD_s, wONone, wOSome, wItems, wRng1, bName, wTup, wIf, wUnp, bTup_t, bCons_c, bNil_n, at_sep, ite_str, wPar_c, wLc, wipeE, wFor, wEnum, pick, wOr, wAnd, wNot, wDrop, wAug, wApp, wExt, wAppIx, wPar2, wPar3, wZip, wSigns, wAndV, wOrV, wNotV, wUn, negD, wLc2, lc2Go, Option.some.injEq, exists_eq_left', wRetO, wLcCat, wGive, wTry, wClr, wIns, wSetIx, wMv, wMvF, wChain, wRev, intSD, wShut, wTryR, wForAppIx, wForApT, wAppIxT, wTupO, wIxO, isiD, bStar, wTryAs, wRaise, wFnV, wKit, wKits, wXv, wVarS, wForT, wForApp, wForPop, wAddO, wRngL, wSortR, wTupM, wSg, wSgSet, wSgNe, wSgPop, Sg.get, Sg.put, wWhile, wSortSet, wLstO, wListRg3, wStar, wFnA, wBg, wBgSet, wBgPop, wBgLen, wBgAug, wDic4, wIslower, wIsalpha, Bg.get, Bg.put, wStep, dLine_l, dLine_k, dLine_len, dLine_ix, dLine_sl, dLine_add, dLine_list, dPage_l, dPage_k, dPage_len, dPage_ix, dPage_sl, dPage_add, dPage_list, dInts_l, dInts_k, dInts_len, dInts_ix, dInts_sl, dInts_add, dInts_list, wLM, wVal, wTryEx, wIx1, bName, wRng2]
    have hS : (List.map (fun a => (gSz a).length) a).sum = (a.flatMap gSz).length := by rw [List.length_flatMap]
    rw [hS]
    refine ⟨by decide, by show _ < 2 ^ 24; omega, 1, 10, ⟨rfl, rfl⟩, by decide, ?_⟩
    refine for_map (List.range 9) (fun j : Nat => .int (1 + (j : Nat))) (fun b env g => ∃ x3, env = [some (.int 9), some (dF (a.flatMap gSz ++ [1 + (i : Int)] :: b.flatMap (hSz i))), some (.int (1 + (i : Nat))), x3, none, none, none]) ?_ ?_ _ _ ⟨x3, by simp [dInts]⟩
    · rintro env g ⟨x3, rfl⟩
      have e4 : a.flatMap gSz ++ [1 + (i : Int)] :: (List.range 9).flatMap (hSz i) = (a ++ [i]).flatMap gSz := by rw [List.flatMap_append]; simp [gSz]
      rw [e4]
      refine kk _ _ ⟨?_, _, _, rfl⟩
      rw [List.flatMap_append, List.length_append, List.length_append]
      have h9 := hgS i
      simp at ha ⊢
      omega
    · rintro b j rest2 env g K2 e2 ⟨x3, rfl⟩ k2
      have hbl : b.length < 9 := by
        have := congrArg List.length e2
        simp at this
        omega
      have hbs : (List.map (fun a => (hSz i a).length) b).sum = 10 * b.length := by
        simp only [hg]
        exact sum10 b
      have hS2 := hS
      rw [List.length_flatMap] at ha
      simp [wSeq, wIfS, wTest, wOp, wRg, wRgSet, wC, wVar, wSet, wRet, wFnR, wFn, wFnK, wCons, wNil, wLst, wCall, wM1, wNext, exE, Rg.get, Rg.put, startE, addD_i, addD_s, addD_l, eqD_i, neD_i, subD_i, mulD_i, mulD_s, mulD_l, modD_i, fdivD_i, powD_i, cmpD_i, ixD_l, ixD_k, ixD_t, ixD_s, minD_i, maxD_i, absD_i, lenD_l, lenD_k, lenD_t, lenD_s, strD_i, intD_i, intD_b, listD_l, listD_t, reprD_d, wSl, slD_l, slD_k, slD_s, wONone, wOSome, wItems, wRng1, bName, wTup, wIf, wUnp, bTup_t, bCons_c, bNil_n, at_sep, ite_str, wPar_c, wLc, wipeE, wFor, wEnum, pick, wOr, wAnd, wNot, wDrop, wAug, wApp, wExt, wAppIx, wPar2, wPar3, wZip, wSigns, wAndV, wOrV, wNotV, wUn, negD, wLc2, lc2Go, Option.some.injEq, exists_eq_left', wRetO, wLcCat, wGive, wTry, wClr, wIns, wSetIx, wMv, wMvF, wChain, wRev, intSD, wShut, wTryR, wForAppIx, wForApT, wAppIxT, wTupO, wIxO, isiD, bStar, wTryAs, wRaise, wFnV, wKit, wKits, wXv, wVarS, wForT, wForApp, wForPop, wAddO, wRngL, wSortR, wTupM, wSg, wSgSet, wSgNe, wSgPop, Sg.get, Sg.put, wWhile, wSortSet, wLstO, wListRg3, wStar, wFnA, wBg, wBgSet, wBgPop, wBgLen, wBgAug, wDic4, wIslower, wIsalpha, Bg.get, Bg.put, wStep, dLine_l, dLine_k, dLine_len, dLine_ix, dLine_sl, dLine_add, dLine_list, dPage_l, dPage_k, dPage_len, dPage_ix, dPage_sl, dPage_add, dPage_list, dInts_l, dInts_k, dInts_len, dInts_ix, dInts_sl, dInts_add, dInts_list, wLM, wVal, wTryEx, wIx1, bName, wRng2]
      refine ⟨by decide, by rw [hbs]; show _ < 2 ^ 24; omega, 1, 10, ⟨rfl, rfl⟩, by decide, ?_⟩
      refine lc_of (List.range 9) (fun k : Nat => .int (1 + (k : Nat))) (fun k : Nat => dInts [1 + (i : Int), 1 + (j : Int), 1 + (k : Int)]) _ _ (by decide) (fun k hk K3 k3 => ?_) ?_
      · simp [wSeq, wIfS, wTest, wOp, wRg, wRgSet, wC, wVar, wSet, wRet, wFnR, wFn, wFnK, wCons, wNil, wLst, wCall, wM1, wNext, exE, Rg.get, Rg.put, startE, addD_i, addD_s, addD_l, eqD_i, neD_i, subD_i, mulD_i, mulD_s, mulD_l, modD_i, fdivD_i, powD_i, cmpD_i, ixD_l, ixD_k, ixD_t, ixD_s, minD_i, maxD_i, absD_i, lenD_l, lenD_k, lenD_t, lenD_s, strD_i, intD_i, intD_b, listD_l, listD_t, reprD_d, wSl, slD_l, slD_k, slD_s, wONone, wOSome, wItems, wRng1, bName, wTup, wIf, wUnp, bTup_t, bCons_c, bNil_n, at_sep, ite_str, wPar_c, wLc, wipeE, wFor, wEnum, pick, wOr, wAnd, wNot, wDrop, wAug, wApp, wExt, wAppIx, wPar2, wPar3, wZip, wSigns, wAndV, wOrV, wNotV, wUn, negD, wLc2, lc2Go, Option.some.injEq, exists_eq_left', wRetO, wLcCat, wGive, wTry, wClr, wIns, wSetIx, wMv, wMvF, wChain, wRev, intSD, wShut, wTryR, wForAppIx, wForApT, wAppIxT, wTupO, wIxO, isiD, bStar, wTryAs, wRaise, wFnV, wKit, wKits, wXv, wVarS, wForT, wForApp, wForPop, wAddO, wRngL, wSortR, wTupM, wSg, wSgSet, wSgNe, wSgPop, Sg.get, Sg.put, wWhile, wSortSet, wLstO, wListRg3, wStar, wFnA, wBg, wBgSet, wBgPop, wBgLen, wBgAug, wDic4, wIslower, wIsalpha, Bg.get, Bg.put, wStep, dLine_l, dLine_k, dLine_len, dLine_ix, dLine_sl, dLine_add, dLine_list, dPage_l, dPage_k, dPage_len, dPage_ix, dPage_sl, dPage_add, dPage_list, dInts_l, dInts_k, dInts_len, dInts_ix, dInts_sl, dInts_add, dInts_list, wLM, wVal, wTryEx, wIx1]
        exact ⟨by decide, k3⟩
      · refine ⟨by rw [hbs]; simp; show _ ≤ 2 ^ 24; omega, ?_⟩
        have := k2 [some (.int 9), some (dF (a.flatMap gSz ++ [1 + (i : Int)] :: (b ++ [j]).flatMap (hSz i))), some (.int (1 + (i : Nat))), some (.int (1 + (j : Nat))), none, none, none] g ⟨_, rfl⟩
        rw [List.flatMap_append] at this
        simpa [hSz, dF, dInts, Function.comp_def] using this
theorem eqvAll_map {α : Type} (f : α → Dt) : ∀ {l m : List α}, (∀ x ∈ l, ∀ y ∈ m, PyData.eqv (f x).py (f y).py = true ↔ x = y) → (PyData.eqvAll (pyL (l.map f)) (pyL (m.map f)) = true ↔ l = m)
  | [], [], _ => by simp [pyL, PyData.eqvAll]
  | [], _ :: _, _ => by simp [pyL, PyData.eqvAll]
  | _ :: _, [], _ => by simp [pyL, PyData.eqvAll]
  | x :: l, y :: m, h => by
    have ih := eqvAll_map f (l := l) (m := m) fun a ha b hb => h a (List.mem_cons_of_mem _ ha) b (List.mem_cons_of_mem _ hb)
    have h0 := h x List.mem_cons_self y List.mem_cons_self
    simp only [List.map_cons, pyL, PyData.eqvAll, Bool.and_eq_true, List.cons.injEq]
    rw [ih, h0]
theorem eqv_map {α : Type} (f : α → Dt) {l m : List α} (h : ∀ x ∈ l, ∀ y ∈ m, PyData.eqv (f x).py (f y).py = true ↔ x = y) : PyData.eqv (Dt.lst (l.map f)).py (Dt.lst (m.map f)).py = true ↔ l = m := by
  simp only [Dt.py, PyData.eqv]
  exact eqvAll_map f h
theorem eqv_str {x y : Str} : PyData.eqv (Dt.str x).py (Dt.str y).py = true ↔ x = y := by simp [Dt.py, PyData.eqv]
theorem eqv_int {x y : Int} : PyData.eqv (Dt.int x).py (Dt.int y).py = true ↔ x = y := by simp [Dt.py, PyData.eqv]
theorem eqv_line {l m : List Str} : PyData.eqv (dLine l).py (dLine m).py = true ↔ l = m := eqv_map Dt.str fun _ _ _ _ => eqv_str
theorem eqv_page {l m : List (List Str)} : PyData.eqv (dPage l).py (dPage m).py = true ↔ l = m := eqv_map dLine fun _ _ _ _ => eqv_line
theorem effL_le {l : List Int} {n : Nat} (hw : ∀ w ∈ l, 1 ≤ w ∧ w ≤ n) (h2 : 2 ≤ n) : ∀ v ∈ effL l, 1 ≤ v ∧ v ≤ n := fun v hv => by
  by_cases h : effL l = [2]
  · rw [h] at hv
    have := List.mem_singleton.mp hv
    omega
  · have big : ∀ x ∈ l, 2 < x := fun x hx => Int.not_le.mp fun q => h (effL_two hx q)
    rw [effL_big big] at hv
    rcases (fill_mem (mins_sd l) v).mp hv with q | ⟨q, q'⟩
    · exact hw v (mins_mem q)
    · have := hw _ (mins_mem q); have := hw _ (mins_mem q'); omega
theorem sub_ints : ∀ {es : List Dt} {l : List Int}, (∀ x ∈ es, x ∈ l.map Dt.int) → ∃ m : List Int, es = m.map Dt.int ∧ ∀ y ∈ m, y ∈ l
  | [], _, _ => ⟨[], rfl, by simp⟩
  | x :: es, l, h => by
    obtain ⟨m, e, hm⟩ := sub_ints (es := es) (l := l) fun y hy => h y (List.mem_cons_of_mem _ hy)
    obtain ⟨y, hy, e2⟩ := List.mem_map.mp (h x List.mem_cons_self)
    exact ⟨y :: m, by rw [e, ← e2]; rfl, fun z hz => by
      rcases List.mem_cons.mp hz with q | q
      · rw [q]; exact hy
      · exact hm z q⟩
def ok9 (l : List Int) : Prop := l.length ≤ 20 ∧ ∀ w ∈ l, 1 ≤ w ∧ w ≤ 9
theorem ok9_P {l : List Int} (h : ok9 l) : okP l := ⟨by have := h.1; omega, fun w hw => by have := h.2 w hw; omega⟩
theorem ok9_I {l : List Int} (h : ok9 l) : okI l := ⟨by have := h.1; omega, fun w hw => by have := h.2 w hw; omega⟩
abbrev e29 (ns : List Int) (a : Addr) (L : List (List Str)) (x3 x4 x5 x6 x7 x8 : Option Dt) : Env := [some (.klst (ns.map .int)), some (.raw (.ref a)), some (dPage L), x3, x4, x5, x6, x7, x8, none]
theorem qB_ok {ns : List Int} {a b : Addr} {D : DEnds Bg} {g : Bg} {F : Nat} {L : List (List Str)} {one two : List Int} {x3 x6 x7 x8 : Option Dt} (h1 : ok9 one) (l1 : one.length ≤ 6) (h2 : ok9 two) (ok : BgOk (F + 310) g)
    (k : ∀ two' g', ok9 two' → BgOk F g' → D.nx (e29 ns a L x3 (some (dInts one)) (some (dInts two')) x6 x7 x8) g') :
    qB29 (a, b) D (e29 ns a L x3 (some (dInts one)) (some (dInts two)) x6 x7 x8) g := by
  unfold qB29
  simp [wSeq, wIfS, wTest, wOp, wRg, wRgSet, wC, wVar, wSet, wRet, wFnR, wFn, wFnK, wCons, wNil, wLst, wCall, wM1, wNext, exE, Rg.get, Rg.put, startE, addD_i, addD_s, addD_l, eqD_i, neD_i, subD_i, mulD_i, mulD_s, mulD_l, modD_i, fdivD_i, powD_i, cmpD_i, ixD_l, ixD_k, ixD_t, ixD_s, minD_i, maxD_i, absD_i, lenD_l, lenD_k, lenD_t, lenD_s, strD_i, intD_i, intD_b, listD_l, listD_t, reprD_d, wSl, slD_l, slD_k, slD_s, wONone, wOSome, wItems, wRng1, bName, wTup, wIf, wUnp, bTup_t, bCons_c, bNil_n, at_sep, ite_str, wPar_c, wLc, wipeE, wFor, wEnum, pick, wOr, wAnd, wNot, wDrop, wAug, wApp, wExt, wAppIx, wPar2, wPar3, wZip, wSigns, wAndV, wOrV, wNotV, wUn, negD, wLc2, lc2Go, Option.some.injEq, exists_eq_left', wRetO, wLcCat, wGive, wTry, wClr, wIns, wSetIx, wMv, wMvF, wChain, wRev, intSD, wShut, wTryR, wForAppIx, wForApT, wAppIxT, wTupO, wIxO, isiD, bStar, wTryAs, wRaise, wFnV, wKit, wKits, wXv, wVarS, wForT, wForApp, wForPop, wAddO, wRngL, wSortR, wTupM, wSg, wSgSet, wSgNe, wSgPop, Sg.get, Sg.put, wWhile, wSortSet, wLstO, wListRg3, wStar, wFnA, wBg, wBgSet, wBgPop, wBgLen, wBgAug, wDic4, wIslower, wIsalpha, Bg.get, Bg.put, wStep, dLine_l, dLine_k, dLine_len, dLine_ix, dLine_sl, dLine_add, dLine_list, dPage_l, dPage_k, dPage_len, dPage_ix, dPage_sl, dPage_add, dPage_list, dInts_l, dInts_k, dInts_len, dInts_ix, dInts_sl, dInts_add, dInts_list, wLM, wVal, wTryEx, wIx1]
  refine drB (F := F + 309) (by decide) (by decide) ok fun v g1 a1 b1 ok1 => ?_
  show eqD (.int v) (.int 0) _
  rw [eqD_i]
  by_cases h : v = 0
  · refine .inr ⟨by simp [h], one, rfl, ok9_I h1, drB (F := F + 308) (by decide) (by decide) ok1 fun v2 g2 a2 b2 ok2 => ?_⟩
    show addD (.int 1) (.int v2) _
    rw [addD_i]
    refine ⟨_, rfl, _, rfl, by omega, by omega, fun es hl he => ?_⟩
    obtain ⟨m, rfl, hm⟩ := sub_ints he
    refine ⟨2, 9, F, rfl, by decide, by decide, by decide, by decide, ok2.le (by omega), fun t g3 l3 w3 ok3 => ?_⟩
    show addD (dInts m) (dInts t) _
    rw [dInts_add]
    have el := effL_len one
    have l3 : t.length ≤ 2 := l3
    simp at hl
    refine ⟨by simp; show _ ≤ 2 ^ 24; omega, k (m ++ t) g3 ⟨by simp; omega, fun w hw => ?_⟩ ok3⟩
    rcases List.mem_append.mp hw with q | q
    · exact effL_le (n := 9) (fun w hw => by have := h1.2 w hw; omega) (by decide) w (hm w q)
    · exact w3 w q
  · exact .inl ⟨by simp [h], k two g1 h2 (ok1.le (by omega))⟩
theorem fold_one {l : List Str} {g : Unit} {ws : List Int} {Q : Dt → Unit → Prop} {E : XD Unit} (ok : okF [l]) (k : Q (dPage (foldW ws [l])) ()) : sp_law_folded [.lst [dLine l], dInts ws] g Q E := ⟨[l], ws, rfl, ok, k⟩
theorem okF_one {l : List Str} (h0 : l ≠ []) (hl : l.length ≤ 1000) (hw : ∀ z ∈ l, wd z) : okF [l] := ⟨by simp; omega, fun m hm => by rw [List.mem_singleton.mp hm]; exact ⟨h0, hw⟩⟩
theorem aw_wd {z : Str} (h : aWord z) : wd z := ⟨h.1, Nat.le_trans h.2.1 (by decide), fun c hc => by rw [h.2.2 c hc]; decide⟩
theorem ne_fold {l : List Str} {a b : List Int} {q : Dt → Prop} (ok : okF [l]) (k : q (.bl (!decide (foldW a [l] = foldW b [l])))) : neD (dPage (foldW a [l])) (dPage (foldW b [l])) q := by
  refine neD_f (fit_pageF (okF_foldW' a ok)) (fit_pageF (okF_foldW' b ok)) (by decide) (by decide) ?_
  have e1 : PyData.eqv (dPage (foldW a [l])).py (dPage (foldW b [l])).py = decide (foldW a [l] = foldW b [l]) := by
    rw [Bool.eq_iff_iff, decide_eq_true_eq]
    exact eqv_page
  rw [e1]
  exact k
theorem eq_nilP {U : List (List Str)} {q : Dt → Prop} (h : ∀ l ∈ U, l.length ≤ 3 ∧ ∀ z ∈ l, aWord z) (k : q (.bl U.isEmpty)) : eqD (dPage U) (.lst []) q := by
  have f : Fit 2 (U.length * (3 * (sizeLine + 1) + 1)) (dPage U) := Fit.listN (W := 3 * (sizeLine + 1)) (fun d hd => by
    obtain ⟨l, hl, rfl⟩ := List.mem_map.mp hd
    exact (fit_lineF fun z hz => aw_wd ((h l hl).2 z hz)).mono (Nat.le_refl _) (Nat.mul_le_mul_right _ (h l hl).1)) (by rw [List.length_map]; exact Nat.le_refl _)
  refine eqD_f f (show Fit 1 0 (.lst []) from FitL.nil.lst) (by decide) (by decide) ?_
  rw [show PyData.eqv (dPage U).py (Dt.lst []).py = (U.map dLine).isEmpty from eqv_nil, List.isEmpty_map]
  exact k
theorem qU_ok {ns : List Int} {a b : Addr} {D : DEnds Bg} {g : Bg} {F : Nat} {L : List (List Str)} {one two : List Int} {x3 x6 x7 x8 : Option Dt} (hL : okA L) (h1 : ok9 one) (h2 : ok9 two) (ok : BgOk (F + 5000) g)
    (k : ∀ y6 y7 y8 g', BgOk F g' → D.nx (e29 ns a L x3 (some (dInts one)) (some (dInts two)) y6 y7 y8) g') :
    qU29 (a, b) D (e29 ns a L x3 (some (dInts one)) (some (dInts two)) x6 x7 x8) g := by
  obtain ⟨hLl, hLw, hLm⟩ := hL
  have posL : ∀ l ∈ L, okF [l] := fun l hl => okF_one (hLw l hl).1 (by have := (hLw l hl).2.1; omega) fun z hz => aw_wd ((hLw l hl).2.2 z hz)
  show wSeq _ (wSeq _ (wIfS _ (qW29 (a, b)) wNext)) _ _ _
  simp [wSeq, wIfS, wTest, wOp, wRg, wRgSet, wC, wVar, wSet, wRet, wFnR, wFn, wFnK, wCons, wNil, wLst, wCall, wM1, wNext, exE, Rg.get, Rg.put, startE, addD_i, addD_s, addD_l, eqD_i, neD_i, subD_i, mulD_i, mulD_s, mulD_l, modD_i, fdivD_i, powD_i, cmpD_i, ixD_l, ixD_k, ixD_t, ixD_s, minD_i, maxD_i, absD_i, lenD_l, lenD_k, lenD_t, lenD_s, strD_i, intD_i, intD_b, listD_l, listD_t, reprD_d, wSl, slD_l, slD_k, slD_s, wONone, wOSome, wItems, wRng1, bName, wTup, wIf, wUnp, bTup_t, bCons_c, bNil_n, at_sep, ite_str, wPar_c, wLc, wipeE, wFor, wEnum, pick, wOr, wAnd, wNot, wDrop, wAug, wApp, wExt, wAppIx, wPar2, wPar3, wZip, wSigns, wAndV, wOrV, wNotV, wUn, negD, wLc2, lc2Go, Option.some.injEq, exists_eq_left', wRetO, wLcCat, wGive, wTry, wClr, wIns, wSetIx, wMv, wMvF, wChain, wRev, intSD, wShut, wTryR, wForAppIx, wForApT, wAppIxT, wTupO, wIxO, isiD, bStar, wTryAs, wRaise, wFnV, wKit, wKits, wXv, wVarS, wForT, wForApp, wForPop, wAddO, wRngL, wSortR, wTupM, wSg, wSgSet, wSgNe, wSgPop, Sg.get, Sg.put, wWhile, wSortSet, wLstO, wListRg3, wStar, wFnA, wBg, wBgSet, wBgPop, wBgLen, wBgAug, wDic4, wIslower, wIsalpha, Bg.get, Bg.put, wStep, dLine_l, dLine_k, dLine_len, dLine_ix, dLine_sl, dLine_add, dLine_list, dPage_l, dPage_k, dPage_len, dPage_ix, dPage_sl, dPage_add, dPage_list, dInts_l, dInts_k, dInts_len, dInts_ix, dInts_sl, dInts_add, dInts_list, wLM, wVal, wTryEx, wIx1]
  refine lc_filter dLine dLine (fun l => !decide (foldW one [l] = foldW two [l])) _ _ L [] (by simp; show _ ≤ 2 ^ 24; omega) (fun l hl K kk => ?_) (fun l hl _ K kk => ?_) ?_
  · simp [wSeq, wIfS, wTest, wOp, wRg, wRgSet, wC, wVar, wSet, wRet, wFnR, wFn, wFnK, wCons, wNil, wLst, wCall, wM1, wNext, exE, Rg.get, Rg.put, startE, addD_i, addD_s, addD_l, eqD_i, neD_i, subD_i, mulD_i, mulD_s, mulD_l, modD_i, fdivD_i, powD_i, cmpD_i, ixD_l, ixD_k, ixD_t, ixD_s, minD_i, maxD_i, absD_i, lenD_l, lenD_k, lenD_t, lenD_s, strD_i, intD_i, intD_b, listD_l, listD_t, reprD_d, wSl, slD_l, slD_k, slD_s, wONone, wOSome, wItems, wRng1, bName, wTup, wIf, wUnp, bTup_t, bCons_c, bNil_n, at_sep, ite_str, wPar_c, wLc, wipeE, wFor, wEnum, pick, wOr, wAnd, wNot, wDrop, wAug, wApp, wExt, wAppIx, wPar2, wPar3, wZip, wSigns, wAndV, wOrV, wNotV, wUn, negD, wLc2, lc2Go, Option.some.injEq, exists_eq_left', wRetO, wLcCat, wGive, wTry, wClr, wIns, wSetIx, wMv, wMvF, wChain, wRev, intSD, wShut, wTryR, wForAppIx, wForApT, wAppIxT, wTupO, wIxO, isiD, bStar, wTryAs, wRaise, wFnV, wKit, wKits, wXv, wVarS, wForT, wForApp, wForPop, wAddO, wRngL, wSortR, wTupM, wSg, wSgSet, wSgNe, wSgPop, Sg.get, Sg.put, wWhile, wSortSet, wLstO, wListRg3, wStar, wFnA, wBg, wBgSet, wBgPop, wBgLen, wBgAug, wDic4, wIslower, wIsalpha, Bg.get, Bg.put, wStep, dLine_l, dLine_k, dLine_len, dLine_ix, dLine_sl, dLine_add, dLine_list, dPage_l, dPage_k, dPage_len, dPage_ix, dPage_sl, dPage_add, dPage_list, dInts_l, dInts_k, dInts_len, dInts_ix, dInts_sl, dInts_add, dInts_list, wLM, wVal, wTryEx, wIx1]
    refine ⟨by decide, fold_one (posL l hl) ⟨by decide, fold_one (posL l hl) (ne_fold (posL l hl) ?_)⟩⟩
    cases hq : decide (foldW one [l] = foldW two [l]) with
    | true => rw [hq] at kk; exact .inl ⟨rfl, by simpa using kk⟩
    | false => rw [hq] at kk; exact .inr ⟨rfl, by simpa using kk⟩
  · simp [wSeq, wIfS, wTest, wOp, wRg, wRgSet, wC, wVar, wSet, wRet, wFnR, wFn, wFnK, wCons, wNil, wLst, wCall, wM1, wNext, exE, Rg.get, Rg.put, startE, addD_i, addD_s, addD_l, eqD_i, neD_i, subD_i, mulD_i, mulD_s, mulD_l, modD_i, fdivD_i, powD_i, cmpD_i, ixD_l, ixD_k, ixD_t, ixD_s, minD_i, maxD_i, absD_i, lenD_l, lenD_k, lenD_t, lenD_s, strD_i, intD_i, intD_b, listD_l, listD_t, reprD_d, wSl, slD_l, slD_k, slD_s, wONone, wOSome, wItems, wRng1, bName, wTup, wIf, wUnp, bTup_t, bCons_c, bNil_n, at_sep, ite_str, wPar_c, wLc, wipeE, wFor, wEnum, pick, wOr, wAnd, wNot, wDrop, wAug, wApp, wExt, wAppIx, wPar2, wPar3, wZip, wSigns, wAndV, wOrV, wNotV, wUn, negD, wLc2, lc2Go, Option.some.injEq, exists_eq_left', wRetO, wLcCat, wGive, wTry, wClr, wIns, wSetIx, wMv, wMvF, wChain, wRev, intSD, wShut, wTryR, wForAppIx, wForApT, wAppIxT, wTupO, wIxO, isiD, bStar, wTryAs, wRaise, wFnV, wKit, wKits, wXv, wVarS, wForT, wForApp, wForPop, wAddO, wRngL, wSortR, wTupM, wSg, wSgSet, wSgNe, wSgPop, Sg.get, Sg.put, wWhile, wSortSet, wLstO, wListRg3, wStar, wFnA, wBg, wBgSet, wBgPop, wBgLen, wBgAug, wDic4, wIslower, wIsalpha, Bg.get, Bg.put, wStep, dLine_l, dLine_k, dLine_len, dLine_ix, dLine_sl, dLine_add, dLine_list, dPage_l, dPage_k, dPage_len, dPage_ix, dPage_sl, dPage_add, dPage_list, dInts_l, dInts_k, dInts_len, dInts_ix, dInts_sl, dInts_add, dInts_list, wLM, wVal, wTryEx, wIx1]
    exact kk
  · rw [List.nil_append]
    generalize hU : (L.filter fun l => !decide (foldW one [l] = foldW two [l])) = U
    have hUw : ∀ l ∈ U, l.length ≤ 3 ∧ ∀ z ∈ l, aWord z := fun l hl => by rw [← hU] at hl; have := hLw l (List.mem_filter.mp hl).1; exact ⟨this.2.1, this.2.2⟩
    have hUe : U.isEmpty = decide (effL one = effL two) := by
      rw [Bool.eq_iff_iff, decide_eq_true_eq, List.isEmpty_iff, ← hU, List.filter_eq_nil_iff]
      constructor
      · intro h
        refine Classical.byContradiction fun e => ?_
        obtain ⟨sz, s1, s2, s3, s4⟩ := small_part h1.2 h2.2 e
        obtain ⟨l, hl, e2⟩ := hLm sz s1 s2 s3
        have := h l hl
        simp at this
        exact s4 l e2 this
      · intro e l hl
        have hp : ∀ m ∈ [l], ∀ z ∈ m, 1 ≤ z.length := fun m hm z hz => by rw [List.mem_singleton.mp hm] at hz; exact ((hLw l hl).2.2 z hz).1
        simp [foldW_same e hp]
    have part : ∀ (Kq : Dt → Unit → Prop) (E' : XD Unit), (effL one = effL two → Kq .non ()) → (effL one ≠ effL two → ∀ l, Kq (dLine l) ()) → sp_parting_line [dInts one, dInts two] () Kq E' := fun Kq E' k1 k2 => ⟨one, two, rfl, ok9_P h1, ok9_P h2, k1, fun e l _ => k2 e l⟩
    refine part _ _ (fun e => ?_) fun e l => ?_
    · rw [decide_eq_true e] at hUe
      refine ⟨rfl, trivial, ?_⟩
      show eqD (dPage U) (.lst []) _
      refine eq_nilP hUw ?_
      rw [hUe]
      refine neD_self Fit.bl (by decide) (.inl ⟨rfl, ?_⟩)
      show eqD (dPage U) (.lst []) _
      refine eq_nilP hUw ?_
      rw [hUe]
      refine .inr ⟨rfl, ?_⟩
      unfold qW29
      simp [wSeq, wIfS, wTest, wOp, wRg, wRgSet, wC, wVar, wSet, wRet, wFnR, wFn, wFnK, wCons, wNil, wLst, wCall, wM1, wNext, exE, Rg.get, Rg.put, startE, addD_i, addD_s, addD_l, eqD_i, neD_i, subD_i, mulD_i, mulD_s, mulD_l, modD_i, fdivD_i, powD_i, cmpD_i, ixD_l, ixD_k, ixD_t, ixD_s, minD_i, maxD_i, absD_i, lenD_l, lenD_k, lenD_t, lenD_s, strD_i, intD_i, intD_b, listD_l, listD_t, reprD_d, wSl, slD_l, slD_k, slD_s, wONone, wOSome, wItems, wRng1, bName, wTup, wIf, wUnp, bTup_t, bCons_c, bNil_n, at_sep, ite_str, wPar_c, wLc, wipeE, wFor, wEnum, pick, wOr, wAnd, wNot, wDrop, wAug, wApp, wExt, wAppIx, wPar2, wPar3, wZip, wSigns, wAndV, wOrV, wNotV, wUn, negD, wLc2, lc2Go, Option.some.injEq, exists_eq_left', wRetO, wLcCat, wGive, wTry, wClr, wIns, wSetIx, wMv, wMvF, wChain, wRev, intSD, wShut, wTryR, wForAppIx, wForApT, wAppIxT, wTupO, wIxO, isiD, bStar, wTryAs, wRaise, wFnV, wKit, wKits, wXv, wVarS, wForT, wForApp, wForPop, wAddO, wRngL, wSortR, wTupM, wSg, wSgSet, wSgNe, wSgPop, Sg.get, Sg.put, wWhile, wSortSet, wLstO, wListRg3, wStar, wFnA, wBg, wBgSet, wBgPop, wBgLen, wBgAug, wDic4, wIslower, wIsalpha, Bg.get, Bg.put, wStep, dLine_l, dLine_k, dLine_len, dLine_ix, dLine_sl, dLine_add, dLine_list, dPage_l, dPage_k, dPage_len, dPage_ix, dPage_sl, dPage_add, dPage_list, dInts_l, dInts_k, dInts_len, dInts_ix, dInts_sl, dInts_add, dInts_list, wLM, wVal, wTryEx, wIx1]
      refine for_rng 20 (fun i env g => BgOk (F + 240 * (20 - i)) g ∧ ∃ x7 x8, env = e29 ns a L x3 (some (dInts one)) (some (dInts two)) (some (dPage U)) x7 x8) ?_ ?_ _ _ ⟨ok.le (by omega), _, _, rfl⟩
      · rintro env g ⟨ok, x7, x8, rfl⟩
        exact k _ _ _ _ (ok.le (by omega))
      · rintro i env g K hi ⟨ok, x7, x8, rfl⟩ kk
        simp [wSeq, wIfS, wTest, wOp, wRg, wRgSet, wC, wVar, wSet, wRet, wFnR, wFn, wFnK, wCons, wNil, wLst, wCall, wM1, wNext, exE, Rg.get, Rg.put, startE, addD_i, addD_s, addD_l, eqD_i, neD_i, subD_i, mulD_i, mulD_s, mulD_l, modD_i, fdivD_i, powD_i, cmpD_i, ixD_l, ixD_k, ixD_t, ixD_s, minD_i, maxD_i, absD_i, lenD_l, lenD_k, lenD_t, lenD_s, strD_i, intD_i, intD_b, listD_l, listD_t, reprD_d, wSl, slD_l, slD_k, slD_s, wONone, wOSome, wItems, wRng1, bName, wTup, wIf, wUnp, bTup_t, bCons_c, bNil_n, at_sep, ite_str, wPar_c, wLc, wipeE, wFor, wEnum, pick, wOr, wAnd, wNot, wDrop, wAug, wApp, wExt, wAppIx, wPar2, wPar3, wZip, wSigns, wAndV, wOrV, wNotV, wUn, negD, wLc2, lc2Go, Option.some.injEq, exists_eq_left', wRetO, wLcCat, wGive, wTry, wClr, wIns, wSetIx, wMv, wMvF, wChain, wRev, intSD, wShut, wTryR, wForAppIx, wForApT, wAppIxT, wTupO, wIxO, isiD, bStar, wTryAs, wRaise, wFnV, wKit, wKits, wXv, wVarS, wForT, wForApp, wForPop, wAddO, wRngL, wSortR, wTupM, wSg, wSgSet, wSgNe, wSgPop, Sg.get, Sg.put, wWhile, wSortSet, wLstO, wListRg3, wStar, wFnA, wBg, wBgSet, wBgPop, wBgLen, wBgAug, wDic4, wIslower, wIsalpha, Bg.get, Bg.put, wStep, dLine_l, dLine_k, dLine_len, dLine_ix, dLine_sl, dLine_add, dLine_list, dPage_l, dPage_k, dPage_len, dPage_ix, dPage_sl, dPage_add, dPage_list, dInts_l, dInts_k, dInts_len, dInts_ix, dInts_sl, dInts_add, dInts_list, wLM, wVal, wTryEx, wIx1]
        refine ⟨8, 4, F + 240 * (20 - (i + 1)), rfl, by decide, by decide, by decide, by decide, ok.le (by omega), fun l g' h0 hl hw ok' => ?_⟩
        have okl : okF [l] := okF_one h0 (by omega) fun z hz => ⟨(hw z hz).1, Nat.le_trans (hw z hz).2.1 (by decide), (hw z hz).2.2⟩
        have hp : ∀ m ∈ [l], ∀ z ∈ m, 1 ≤ z.length := fun m hm z hz => by rw [List.mem_singleton.mp hm] at hz; exact (hw z hz).1
        refine ⟨by decide, fold_one okl ⟨by decide, fold_one okl (ne_fold okl ?_)⟩⟩
        rw [decide_eq_true (foldW_same e hp)]
        exact .inl ⟨rfl, kk _ _ ⟨ok', _, _, rfl⟩⟩
    · rw [decide_eq_false e] at hUe
      refine ⟨rfl, trivial, ?_⟩
      show eqD (dPage U) (.lst []) _
      refine eq_nilP hUw ?_
      rw [hUe]
      refine neD_self Fit.bl (by decide) (.inl ⟨rfl, ?_⟩)
      show eqD (dPage U) (.lst []) _
      refine eq_nilP hUw ?_
      rw [hUe]
      exact .inl ⟨rfl, k _ _ _ _ (ok.le (by omega))⟩
theorem law_law {ds : List Dt} {g Q E} (h : specLaw ds g Q E) : w_law { nx := fun _ g => Q .non g, rt := Q, ex := fun c d _ g => E c d g } (startE N_law ds) g := by
  obtain ⟨ns, rfl, hl, hb, k⟩ := h
  simp [w_law, wSeq, wIfS, wTest, wOp, wRg, wRgSet, wC, wVar, wSet, wRet, wFnR, wFn, wFnK, wCons, wNil, wLst, wCall, wM1, wNext, exE, Rg.get, Rg.put, startE, addD_i, addD_s, addD_l, eqD_i, neD_i, subD_i, mulD_i, mulD_s, mulD_l, modD_i, fdivD_i, powD_i, cmpD_i, ixD_l, ixD_k, ixD_t, ixD_s, minD_i, maxD_i, absD_i, lenD_l, lenD_k, lenD_t, lenD_s, strD_i, intD_i, intD_b, listD_l, listD_t, reprD_d, wSl, slD_l, slD_k, slD_s, wONone, wOSome, wItems, wRng1, bName, wTup, wIf, wUnp, bTup_t, bCons_c, bNil_n, at_sep, ite_str, wPar_c, wLc, wipeE, wFor, wEnum, pick, wOr, wAnd, wNot, wDrop, wAug, wApp, wExt, wAppIx, wPar2, wPar3, wZip, wSigns, wAndV, wOrV, wNotV, wUn, negD, wLc2, lc2Go, Option.some.injEq, exists_eq_left', wRetO, wLcCat, wGive, wTry, wClr, wIns, wSetIx, wMv, wMvF, wChain, wRev, intSD, wShut, wTryR, wForAppIx, wForApT, wAppIxT, wTupO, wIxO, isiD, bStar, wTryAs, wRaise, wFnV, wKit, wKits, wXv, wVarS, wForT, wForApp, wForPop, wAddO, wRngL, wSortR, wTupM, wSg, wSgSet, wSgNe, wSgPop, Sg.get, Sg.put, wWhile, wSortSet, wLstO, wListRg3, wStar, wFnA, wBg, wBgSet, wBgPop, wBgLen, wBgAug, wDic4, wIslower, wIsalpha, Bg.get, Bg.put, wStep, dLine_l, dLine_k, dLine_len, dLine_ix, dLine_sl, dLine_add, dLine_list, dPage_l, dPage_k, dPage_len, dPage_ix, dPage_sl, dPage_add, dPage_list, dInts_l, dInts_k, dInts_len, dInts_ix, dInts_sl, dInts_add, dInts_list, wLM, wVal, wTryEx, wIx1, N_law]
  refine ⟨ns, rfl, hl, fun cs m hc m0 m1 => ?_⟩
  simp [wSeq, wIfS, wTest, wOp, wRg, wRgSet, wC, wVar, wSet, wRet, wFnR, wFn, wFnK, wCons, wNil, wLst, wCall, wM1, wNext, exE, Rg.get, Rg.put, startE, addD_i, addD_s, addD_l, eqD_i, neD_i, subD_i, mulD_i, mulD_s, mulD_l, modD_i, fdivD_i, powD_i, cmpD_i, ixD_l, ixD_k, ixD_t, ixD_s, minD_i, maxD_i, absD_i, lenD_l, lenD_k, lenD_t, lenD_s, strD_i, intD_i, intD_b, listD_l, listD_t, reprD_d, wSl, slD_l, slD_k, slD_s, wONone, wOSome, wItems, wRng1, bName, wTup, wIf, wUnp, bTup_t, bCons_c, bNil_n, at_sep, ite_str, wPar_c, wLc, wipeE, wFor, wEnum, pick, wOr, wAnd, wNot, wDrop, wAug, wApp, wExt, wAppIx, wPar2, wPar3, wZip, wSigns, wAndV, wOrV, wNotV, wUn, negD, wLc2, lc2Go, Option.some.injEq, exists_eq_left', wRetO, wLcCat, wGive, wTry, wClr, wIns, wSetIx, wMv, wMvF, wChain, wRev, intSD, wShut, wTryR, wForAppIx, wForApT, wAppIxT, wTupO, wIxO, isiD, bStar, wTryAs, wRaise, wFnV, wKit, wKits, wXv, wVarS, wForT, wForApp, wForPop, wAddO, wRngL, wSortR, wTupM, wSg, wSgSet, wSgNe, wSgPop, Sg.get, Sg.put, wWhile, wSortSet, wLstO, wListRg3, wStar, wFnA, wBg, wBgSet, wBgPop, wBgLen, wBgAug, wDic4, wIslower, wIsalpha, Bg.get, Bg.put, wStep, dLine_l, dLine_k, dLine_len, dLine_ix, dLine_sl, dLine_add, dLine_list, dPage_l, dPage_k, dPage_len, dPage_ix, dPage_sl, dPage_add, dPage_list, dInts_l, dInts_k, dInts_len, dInts_ix, dInts_sl, dInts_add, dInts_list, wLM, wVal, wTryEx, wIx1, wAdopt, keepP, mo, List.lookup]
  refine ⟨⟨cs, 0, 0, m⟩, rfl, fun a b => ?_⟩
  refine ⟨rfl, fun L hL => ?_⟩
  have hmin : ∀ n : Int, 0 ≤ n → 1 ≤ (1 + if n < 3 then n else 3) ∧ (1 + if n < 3 then n else 3) ≤ 4 := fun n h => by split <;> omega
  have hmin := hmin ns.length (by omega)
  generalize (1 + if (ns.length : Int) < 3 then (ns.length : Int) else 3) = mm at hmin ⊢
  refine ⟨by omega, by omega, ?_⟩
  refine for_rng mm.toNat (fun i env g => BgOk (10000 * (mm.toNat - i)) g ∧ ∃ x3 x4 x5 x6 x7 x8, env = e29 ns a L x3 x4 x5 x6 x7 x8) ?_ ?_ _ _ ⟨⟨hc, Int.le_refl 0, m0, m1, Int.le_refl 0, by show 0 + _ ≤ _; omega⟩, none, none, none, none, none, none, rfl⟩
  · rintro env g ⟨ok, x3, x4, x5, x6, x7, x8, rfl⟩
    simp [wSeq, wIfS, wTest, wOp, wRg, wRgSet, wC, wVar, wSet, wRet, wFnR, wFn, wFnK, wCons, wNil, wLst, wCall, wM1, wNext, exE, Rg.get, Rg.put, startE, addD_i, addD_s, addD_l, eqD_i, neD_i, subD_i, mulD_i, mulD_s, mulD_l, modD_i, fdivD_i, powD_i, cmpD_i, ixD_l, ixD_k, ixD_t, ixD_s, minD_i, maxD_i, absD_i, lenD_l, lenD_k, lenD_t, lenD_s, strD_i, intD_i, intD_b, listD_l, listD_t, reprD_d, wSl, slD_l, slD_k, slD_s, wONone, wOSome, wItems, wRng1, bName, wTup, wIf, wUnp, bTup_t, bCons_c, bNil_n, at_sep, ite_str, wPar_c, wLc, wipeE, wFor, wEnum, pick, wOr, wAnd, wNot, wDrop, wAug, wApp, wExt, wAppIx, wPar2, wPar3, wZip, wSigns, wAndV, wOrV, wNotV, wUn, negD, wLc2, lc2Go, Option.some.injEq, exists_eq_left', wRetO, wLcCat, wGive, wTry, wClr, wIns, wSetIx, wMv, wMvF, wChain, wRev, intSD, wShut, wTryR, wForAppIx, wForApT, wAppIxT, wTupO, wIxO, isiD, bStar, wTryAs, wRaise, wFnV, wKit, wKits, wXv, wVarS, wForT, wForApp, wForPop, wAddO, wRngL, wSortR, wTupM, wSg, wSgSet, wSgNe, wSgPop, Sg.get, Sg.put, wWhile, wSortSet, wLstO, wListRg3, wStar, wFnA, wBg, wBgSet, wBgPop, wBgLen, wBgAug, wDic4, wIslower, wIsalpha, Bg.get, Bg.put, wStep, dLine_l, dLine_k, dLine_len, dLine_ix, dLine_sl, dLine_add, dLine_list, dPage_l, dPage_k, dPage_len, dPage_ix, dPage_sl, dPage_add, dPage_list, dInts_l, dInts_k, dInts_len, dInts_ix, dInts_sl, dInts_add, dInts_list, wLM, wVal, wTryEx, wIx1]
    exact k
  · rintro i env g K hi ⟨ok, x3, x4, x5, x6, x7, x8, rfl⟩ kk
    generalize hN : 10000 * (mm.toNat - (i + 1)) = N at kk
    have ok : BgOk (N + 10000) g := ok.le (by omega)
    show wSeq _ (wSeq (qB29 (a, b)) (qU29 (a, b))) _ _ _
    simp [wSeq, wIfS, wTest, wOp, wRg, wRgSet, wC, wVar, wSet, wRet, wFnR, wFn, wFnK, wCons, wNil, wLst, wCall, wM1, wNext, exE, Rg.get, Rg.put, startE, addD_i, addD_s, addD_l, eqD_i, neD_i, subD_i, mulD_i, mulD_s, mulD_l, modD_i, fdivD_i, powD_i, cmpD_i, ixD_l, ixD_k, ixD_t, ixD_s, minD_i, maxD_i, absD_i, lenD_l, lenD_k, lenD_t, lenD_s, strD_i, intD_i, intD_b, listD_l, listD_t, reprD_d, wSl, slD_l, slD_k, slD_s, wONone, wOSome, wItems, wRng1, bName, wTup, wIf, wUnp, bTup_t, bCons_c, bNil_n, at_sep, ite_str, wPar_c, wLc, wipeE, wFor, wEnum, pick, wOr, wAnd, wNot, wDrop, wAug, wApp, wExt, wAppIx, wPar2, wPar3, wZip, wSigns, wAndV, wOrV, wNotV, wUn, negD, wLc2, lc2Go, Option.some.injEq, exists_eq_left', wRetO, wLcCat, wGive, wTry, wClr, wIns, wSetIx, wMv, wMvF, wChain, wRev, intSD, wShut, wTryR, wForAppIx, wForApT, wAppIxT, wTupO, wIxO, isiD, bStar, wTryAs, wRaise, wFnV, wKit, wKits, wXv, wVarS, wForT, wForApp, wForPop, wAddO, wRngL, wSortR, wTupM, wSg, wSgSet, wSgNe, wSgPop, Sg.get, Sg.put, wWhile, wSortSet, wLstO, wListRg3, wStar, wFnA, wBg, wBgSet, wBgPop, wBgLen, wBgAug, wDic4, wIslower, wIsalpha, Bg.get, Bg.put, wStep, dLine_l, dLine_k, dLine_len, dLine_ix, dLine_sl, dLine_add, dLine_list, dPage_l, dPage_k, dPage_len, dPage_ix, dPage_sl, dPage_add, dPage_list, dInts_l, dInts_k, dInts_len, dInts_ix, dInts_sl, dInts_add, dInts_list, wLM, wVal, wTryEx, wIx1]
    refine ⟨6, 9, N + 9000, rfl, by decide, by decide, by decide, by decide, ok.le (by omega), fun one g3 l1 w1 ok3 => ⟨6, 9, N + 8000, rfl, by decide, by decide, by decide, by decide, ok3.le (by omega), fun two g4 l2 w2 ok4 => ?_⟩⟩
    have l1 : one.length ≤ 6 := l1
    have l2 : two.length ≤ 6 := l2
    refine ⟨by decide, ?_⟩
    refine qB_ok (b := b) (F := N + 5000) ⟨by omega, w1⟩ l1 ⟨by omega, w2⟩ (ok4.le (by omega)) fun two' g' h2 ok' => ?_
    exact qU_ok (b := b) (F := N) hL ⟨by omega, w1⟩ h2 ok' fun y6 y7 y8 g'' ok'' => kk _ _ ⟨ok'', _, _, _, _, _, _, rfl⟩

section
variable {P : Program} {w : World} {K : PySem.W.Frag} {mg : Str → Option Value} {base : Heap}
theorem sc_check_widths : FnScope N_check_widths ["widths"] (defScope s_check_widths) := ⟨rfl, rfl, rfl, by decide +kernel, rfl, by decide +kernel, by decide +kernel⟩
theorem ok_check_widths {f : Addr} {fd : FuncData} (F : Fun K "check_widths" "check_widths" s_check_widths f fd) (n_enumerate : mg "enumerate" = none) : GOk P w K mg base 1 f fd ["widths"] (spP K 0 sp_check_widths) :=
 fn_dataF (Z := fun _ : Unit => vo0) (sp := fun _ => sp_check_widths) F sc_check_widths (fun _ => mo []) (fun _ => w_check_widths) (fun _ _ _ _ _ h => len_check_widths h) (fun _ j hj => (by decide : ∀ j, j < 1 → (mo []) j = 0) j hj)
  (fun _ cdv A outer s H E hgd hr => (db_one (ds_for passes_ctx rfl (di_enum (by rfl) n_enumerate (da_cons (de_var 0) da_nil)) (dg_tup rfl (dgs_one 1 sc_check_widths.nd (h := (dgs_one 2 sc_check_widths.nd (h := dgs_nil)))))
 (db_one (ds_if (dt_cmp op_lt op2_cmp (de_var 2) de_int)
 (db_one ds_never)
 db_nil)))))
  (fun _ _ _ _ _ h => law_check_widths h)

theorem sc_minima : FnScope N_minima ["widths"] (defScope s_minima) := ⟨rfl, rfl, rfl, by decide +kernel, rfl, by decide +kernel, by decide +kernel⟩
theorem ok_minima {f : Addr} {fd : FuncData} (F : Fun K "minima" "minima" s_minima f fd)  : GOk P w K mg base 1 f fd ["widths"] (spP K 1 sp_minima) :=
 fn_dataF (Z := fun _ : Unit => vo0) (sp := fun _ => sp_minima) F sc_minima (fun _ => mo [(1, 1)]) (fun _ => w_minima) (fun _ _ _ _ _ h => len_minima h) (fun _ j hj => (by decide : ∀ j, j < 1 → (mo [(1, 1)]) j = 0) j hj)
  (fun _ cdv A outer s H E hgd hr => (db_cons (ds_set 1 sc_minima.nd (de_lst dan_nil))
 (db_cons (ds_for passes_ctx rfl (di_list (de_var 0)) (dg_name 2 sc_minima.nd)
 (db_one (ds_if (dt_shut [1] (dw_pt (dw_or (dt_cmp (op_eqA hr.units) op2_eq (de_var 1) (de_frz (n := 1) (de_lst dan_nil))) (dw_or1 (dt_cmp op_lt op2_cmp (de_var 2) (de_ix ix_seq op2_ix (de_var 1) (de_neg de_int)))))))
 (db_one (ds_app 1 (de_var 2)))
 db_nil)))
 (db_one (ds_retO 1)))))
  (fun _ _ _ _ _ h => law_minima h)

theorem sc_effect_of : FnScope N_effect_of ["widths"] (defScope s_effect_of) := ⟨rfl, rfl, rfl, by decide +kernel, rfl, by decide +kernel, by decide +kernel⟩
theorem ok_effect_of {f : Addr} {fd : FuncData} (F : Fun K "effect_of" "effect_of" s_effect_of f fd) {t_ALONE : Tok} (c_ALONE : mg "ALONE" = some (.int 2 t_ALONE)) (G_minima : Fn P w K mg base 1 "minima" s_minima ["widths"] (spP K 1 sp_minima)) : GOk P w K mg base 2 f fd ["widths"] (spP K 1 sp_effect_of) :=
 fn_dataF (Z := fun _ : Unit => vo0) (sp := fun _ => sp_effect_of) F sc_effect_of (fun _ => mo [(2, 1)]) (fun _ => w_effect_of) (fun _ _ _ _ _ h => len_effect_of h) (fun _ j hj => (by decide : ∀ j, j < 1 → (mo [(2, 1)]) j = 0) j hj)
  (fun _ cdv A outer s H E hgd hr => (db_cons (ds_set 1 sc_effect_of.nd (de_frz (n := 1) (de_call G_minima hgd hr takes_ctx (da_cons (de_var 0) da_nil))))
 (db_cons (ds_if (dw_pt (dw_and (dt_cmp (op_neA hr.units) op2_ne (de_var 1) (de_frz (n := 1) (de_lst dan_nil))) (dw_and1 (dt_cmp op_le op2_cmp (de_ix ix_seq op2_ix (de_var 1) (de_neg de_int)) (de_mint c_ALONE)))))
 (db_one (ds_ret (de_lst (dan_cons (de_mint c_ALONE) dan_nil))))
 db_nil)
 (db_cons (ds_set 2 sc_effect_of.nd (de_lst dan_nil))
 (db_cons (ds_for passes_ctx rfl (di_list (de_var 1)) (dg_name 3 sc_effect_of.nd)
 (db_cons (ds_if (dt_shut [2] (dw_pt (dw_and (dt_cmp (op_neA hr.units) op2_ne (de_var 2) (de_frz (n := 1) (de_lst dan_nil))) (dw_and1 (dt_cmp (op_eqA hr.units) op2_eq (de_ix ix_seq op2_ix (de_var 2) (de_neg de_int)) (de_frz (n := 1) (de_op op_addA op2_add (de_var 3) de_int)))))))
 (db_one (ds_app 2 (de_frz (n := 1) (de_op op_addA op2_add (de_var 3) de_int))))
 db_nil)
 (db_one (ds_app 2 (de_var 3)))))
 (db_one (ds_retO 2)))))))
  (fun _ _ _ _ _ h => law_effect_of h)

theorem sc_line_of : FnScope N_line_of ["lengths"] (defScope s_line_of) := ⟨rfl, rfl, rfl, by decide +kernel, rfl, by decide +kernel, by decide +kernel⟩
theorem ok_line_of {f : Addr} {fd : FuncData} (F : Fun K "line_of" "line_of" s_line_of f fd)  : GOkV P w K mg base 1 f fd "lengths" (spP K 1 sp_line_of) :=
 fn_dataV (Z := fun _ : Unit => vo0) (sp := fun _ => sp_line_of) F sc_line_of (fun _ => mo []) (fun _ => w_line_of) (fun _ _ _ _ _ h => len_line_of h) (fun _ => rfl)
  (fun _ cdv A outer s H E hgd hr => (db_one (ds_ret (de_lc [("length", 1)] rfl sc_line_of.nd (di_tup (de_var 0)) (blkOk_by (N := N_line_of) (sc := defScope s_line_of) (by decide +kernel)) (fun _ => (dg_name 1 sc_line_of.nd)) (fun _ => dts_nil) (fun _ => (de_frz (n := 1) (de_op op_mulA op2_mul de_str (de_var 1))))))))
  (fun _ _ _ _ _ h => law_line_of h)

theorem sc_parting_line : FnScope N_parting_line ["first", "second"] (defScope s_parting_line) := ⟨rfl, rfl, rfl, by decide +kernel, rfl, by decide +kernel, by decide +kernel⟩
theorem ok_parting_line {f : Addr} {fd : FuncData} (F : Fun K "parting_line" "parting_line" s_parting_line f fd) (n_max : mg "max" = none) (L_ALL_ALONE : MInts K mg "ALL_ALONE" [2]) (G_check_widths : Fn P w K mg base 1 "check_widths" s_check_widths ["widths"] (spP K 0 sp_check_widths)) (G_effect_of : Fn P w K mg base 2 "effect_of" s_effect_of ["widths"] (spP K 1 sp_effect_of)) (G_line_of : FnV P w K mg base 1 "line_of" s_line_of "lengths" (spP K 1 sp_line_of)) : GOk P w K mg base 3 f fd ["first", "second"] (spP K 1 sp_parting_line) :=
 fn_dataF (Z := fun _ : Unit => vo0) (sp := fun _ => sp_parting_line) F sc_parting_line (fun _ => mo []) (fun _ => w_parting_line) (fun _ _ _ _ _ h => len_parting_line h) (fun _ j hj => (by decide : ∀ j, j < 2 → (mo []) j = 0) j hj)
  (fun _ cdv A outer s H E hgd hr => (db_cons (ds_expr (de_call G_check_widths hgd hr takes_ctx (da_cons (de_var 0) da_nil)))
 (db_cons (ds_expr (de_call G_check_widths hgd hr takes_ctx (da_cons (de_var 1) da_nil)))
 (db_cons (ds_unp (de_frz (n := 1) (de_tup (dan_cons (de_frz (n := 1) (de_call G_effect_of hgd hr takes_ctx (da_cons (de_var 0) da_nil))) (dan_cons (de_frz (n := 1) (de_call G_effect_of hgd hr takes_ctx (da_cons (de_var 1) da_nil))) dan_nil)))) (dg_tup rfl (dgs_one 2 sc_parting_line.nd (h := (dgs_one 3 sc_parting_line.nd (h := dgs_nil))))))
 (db_cons (ds_if (dt_cmp (op_eqA hr.units) op2_eq (de_var 2) (de_var 3))
 (db_one (ds_ret de_non))
 db_nil)
 (db_cons (ds_if (dt_cmp (op_inTd (u65 hr)) op2_inTd (de_mints L_ALL_ALONE) (de_frz (n := 1) (de_tup (dan_cons (de_var 2) (dan_cons (de_var 3) dan_nil)))))
 (db_one (ds_ret (de_callA G_line_of hgd hr takes_ctx (da_cons de_int (da_cons de_int da_nil)))))
 db_nil)
 (db_cons (ds_set 4 sc_parting_line.nd (de_callB (call_maxA rfl) cal_max (da_cons (de_frz (n := 1) (de_lc [("width", 6)] rfl sc_parting_line.nd (di_list (de_frz (n := 1) (de_op op_addA op2_add (de_var 2) (de_var 3)))) (blkOk_by (N := N_parting_line) (sc := defScope s_parting_line) (by decide +kernel)) (fun _ => (dg_name 6 sc_parting_line.nd)) (fun _ => (dts_one (dw_pt (dw_or (dt_cmp op_notInA op2_notIn (de_var 6) (de_var 2)) (dw_or1 (dt_cmp op_notInA op2_notIn (de_var 6) (de_var 3))))))) (fun _ => (de_var 6)))) da_nil) (by rfl) n_max))
 (db_cons (ds_setLc0 (n := 0) [("width", 6)] 5 rfl sc_parting_line.nd (di_list (de_ifExp (dt_cmp op_inA op2_in (de_var 4) (de_var 2)) (de_var 3) (de_var 2))) (blkOk_by (N := N_parting_line) (sc := defScope s_parting_line) (by decide +kernel)) (fun _ => (dg_name 6 sc_parting_line.nd)) (fun _ => (dts_one (dt_cmp op_lt op2_cmp (de_var 6) (de_var 4)))) (fun _ => (de_var 6)))
 (db_cons (ds_if (dt_cmp (op_eqA hr.units) op2_eq (de_var 5) (de_frz (n := 1) (de_lst dan_nil)))
 (db_one (ds_ret (de_callA G_line_of hgd hr takes_ctx (da_cons (de_op op_sub op2_sub (de_var 4) de_int) (da_cons de_int da_nil)))))
 db_nil)
 (db_one (ds_ret (de_ifExp (dt_cmp op_inA op2_in (de_frz (n := 1) (de_op op_addA op2_add (de_var 4) de_int)) (de_var 2)) (de_callA G_line_of hgd hr takes_ctx (da_cons (de_op op_sub op2_sub (de_var 4) de_int) (da_cons de_int (da_cons de_int da_nil)))) (de_callA G_line_of hgd hr takes_ctx (da_cons (de_op op_sub op2_sub (de_var 4) de_int) (da_cons de_int (da_cons de_int da_nil))))))))))))))))
  (fun _ _ _ _ _ h => law_parting_line h)

theorem sc_law_bag : FnScope N_law_bag ["script"] (defScope s_law_bag) := ⟨rfl, rfl, rfl, by decide +kernel, rfl, by decide +kernel, by decide +kernel⟩
theorem ok_law_bag {f : Addr} {fd : FuncData} (F : Fun K "_law_bag" "_law_bag" s_law_bag f fd) (n_abs : mg "abs" = none) : GOk P w K mg base 1 f fd ["script"] (spP K 2 sp_law_bag) :=
 fn_dataF (Z := fun _ : Unit => vo0) (sp := fun _ => sp_law_bag) F sc_law_bag (fun _ => mo [(2, 1)]) (fun _ => w_law_bag) (fun _ _ _ _ _ h => len_law_bag h) (fun _ j hj => (by decide : ∀ j, j < 1 → (mo [(2, 1)]) j = 0) j hj)
  (fun _ cdv A outer s H E hgd hr => (db_cons (ds_par2 1 2 rfl sc_law_bag.nd de_int (de_lst dan_nil))
 (db_cons (ds_for passes_ctx rfl (di_list (de_var 0)) (dg_name 3 sc_law_bag.nd)
 (db_cons (ds_set 1 sc_law_bag.nd (de_op op_mod op2_mod (de_frz (n := 1) (de_op op_addA op2_add (de_frz (n := 1) (de_op op_mulA op2_mul (de_var 1) de_int)) (de_var 3))) de_int))
 (db_one (ds_if (dt_cmp op_ge op2_cmp (de_callB call_abs cal_abs (da_cons (de_var 3) da_nil) (by rfl) n_abs) (de_op op_powW op2_pow de_int de_int))
 (db_one (ds_app 2 (de_callB call_abs cal_abs (da_cons (de_var 3) da_nil) (by rfl) n_abs)))
 db_nil))))
 (db_one (ds_retR (dr_dic4 2 1))))))
  (fun _ _ _ _ _ h => law_law_bag h)

theorem sc_law_draw : FnScope N_law_draw ["bag", "many"] (defScope s_law_draw) := ⟨rfl, rfl, rfl, by decide +kernel, rfl, by decide +kernel, by decide +kernel⟩
theorem ok_law_draw {f : Addr} {fd : FuncData} (F : Fun K "_law_draw" "_law_draw" s_law_draw f fd) (n_len : mg "len" = none) : GOk P w K mg base 1 f fd ["bag", "many"] (spF K voB 0 sp_law_draw) :=
 fn_dataF (Z := voB) (sp := sp_law_draw) F sc_law_draw (fun _ => mo []) (w_law_draw) (fun _ _ _ _ _ h => len_law_draw h) (fun _ j hj => (by decide : ∀ j, j < 2 → (mo []) j = 0) j hj)
  (fun r cdv A outer s H E hgd hr => (db_cons (ds_if (dw_pt (dw_and (dt_cmp op_lt op2_cmp (de_bg 0 1 hr.units) (de_var 1)) (dw_and1 (dt_cmp op_gt op2_cmp (de_bgLen 0 hr.units (hml := n_len)) de_int))))
 (db_one (ds_bgPop 0 1 hr.units))
 db_nil)
 (db_cons (ds_if (dt_cmp op_ge op2_cmp (de_bg 0 1 hr.units) (de_var 1))
 (db_cons (ds_set 2 sc_law_draw.nd (de_op op_mod op2_mod (de_bg 0 1 hr.units) (de_var 1)))
 (db_cons (ds_bgSet 0 1 hr.units (de_op op_fdivW op2_fdiv (de_bg 0 1 hr.units) (de_var 1)))
 (db_one (ds_ret (de_var 2)))))
 db_nil)
 (db_cons (ds_bgAug1 0 2 hr.units)
 (db_cons (ds_set 3 sc_law_draw.nd (de_bg 0 2 hr.units))
 (db_cons (ds_set 4 sc_law_draw.nd (de_frz (n := 1) (de_op op_addA op2_add (de_frz (n := 1) (de_op op_mulA op2_mul (de_frz (n := 1) (de_op op_addA op2_add (de_bg 0 3 hr.units) (de_frz (n := 1) (de_op op_mulA op2_mul de_int (de_var 3))))) (de_op op_powW op2_pow (de_frz (n := 1) (de_op op_addA op2_add (de_var 3) de_int)) de_int))) (de_frz (n := 1) (de_op op_mulA op2_mul de_int (de_var 3))))))
 (db_one (ds_ret (de_op op_mod op2_mod (de_op op_fdivW op2_fdiv (de_op op_mod op2_mod (de_op op_powW op2_pow (de_op op_mod op2_mod (de_var 4) de_int) de_int) (de_frz (n := 1) (de_op op_addA op2_add (de_op op_powW op2_pow de_int de_int) de_int))) de_int) (de_var 1))))))))))
  (fun _ _ _ _ _ h => law_law_draw h)

theorem sc_law_fold_line : FnScope N_law_fold_line ["words", "size"] (defScope s_law_fold_line) := ⟨rfl, rfl, rfl, by decide +kernel, rfl, by decide +kernel, by decide +kernel⟩
theorem ok_law_fold_line {f : Addr} {fd : FuncData} (F : Fun K "_law_fold_line" "_law_fold_line" s_law_fold_line f fd) (n_int : mg "int" = none) (n_len : mg "len" = none) : GOk P w K mg base 1 f fd ["words", "size"] (spP K 0 sp_law_fold_line) :=
 fn_dataF (Z := fun _ : Unit => vo0) (sp := fun _ => sp_law_fold_line) F sc_law_fold_line (fun _ => mo [(2, 1)]) (fun _ => w_law_fold_line) (fun _ _ _ _ _ h => len_law_fold_line h) (fun _ j hj => (by decide : ∀ j, j < 2 → (mo [(2, 1)]) j = 0) j hj)
  (fun _ cdv A outer s H E hgd hr => (db_cons (ds_par3 2 3 4 rfl sc_law_fold_line.nd (de_lst dan_nil) (de_frz (n := 1) (de_lst dan_nil)) de_int)
 (db_cons (ds_for passes_ctx rfl (di_list (de_var 0)) (dg_name 5 sc_law_fold_line.nd)
 (db_cons (ds_if (dw_pt (dw_and (dt_cmp op_gt op2_cmp (de_callB call_lenA cal_len (da_cons (de_var 3) da_nil) (by rfl) n_len) de_int) (dw_and1 (dt_cmp op_gt op2_cmp (de_frz (n := 1) (de_op op_addA op2_add (de_frz (n := 1) (de_op op_addA op2_add (de_var 4) de_int)) (de_callB call_lenA cal_len (da_cons (de_var 5) da_nil) (by rfl) n_len))) (de_var 1)))))
 (db_cons (ds_app 2 (de_var 3))
 (db_one (ds_par 3 4 rfl sc_law_fold_line.nd (dan_cons (de_frz (n := 1) (de_lst dan_nil)) (dan_cons de_int dan_nil)))))
 db_nil)
 (db_cons (ds_aug 4 sc_law_fold_line.nd ip_add (de_frz (n := 1) (de_op op_addA op2_add (de_callB call_lenA cal_len (da_cons (de_var 5) da_nil) (by rfl) n_len) (de_callT call_int1 cal_int (da_cons (de_cmp op_gt op2_cmp (de_callB call_lenA cal_len (da_cons (de_var 3) da_nil) (by rfl) n_len) de_int) da_nil) (by rfl) n_int))))
 (db_one (ds_set 3 sc_law_fold_line.nd (de_frz (n := 1) (de_op op_addA op2_add (de_var 3) (de_frz (n := 1) (de_lst (dan_cons (de_var 5) dan_nil))))))))))
 (db_one (ds_retF [2] (de_frz (n := 1) (de_op op_addA op2_add (de_var 2) (de_frz (n := 1) (de_lst (dan_cons (de_var 3) dan_nil))))))))))
  (fun _ _ _ _ _ h => law_law_fold_line h)

theorem sc_law_folded : FnScope N_law_folded ["grid", "sizes"] (defScope s_law_folded) := ⟨rfl, rfl, rfl, by decide +kernel, rfl, by decide +kernel, by decide +kernel⟩
theorem ok_law_folded {f : Addr} {fd : FuncData} (F : Fun K "_law_folded" "_law_folded" s_law_folded f fd) (G_law_fold_line : Fn P w K mg base 1 "_law_fold_line" s_law_fold_line ["words", "size"] (spP K 0 sp_law_fold_line)) : GOk P w K mg base 2 f fd ["grid", "sizes"] (spP K 0 sp_law_folded) :=
 fn_dataF (Z := fun _ : Unit => vo0) (sp := fun _ => sp_law_folded) F sc_law_folded (fun _ => mo [(3, 1)]) (fun _ => w_law_folded) (fun _ _ _ _ _ h => len_law_folded h) (fun _ j hj => (by decide : ∀ j, j < 2 → (mo [(3, 1)]) j = 0) j hj)
  (fun _ cdv A outer s H E hgd hr => (db_cons (ds_for passes_ctx rfl (di_list (de_var 1)) (dg_name 2 sc_law_folded.nd)
 (db_cons (ds_set 3 sc_law_folded.nd (de_lst dan_nil))
 (db_cons (ds_for passes_ctx rfl (di_list (de_var 0)) (dg_name 4 sc_law_folded.nd)
 (db_one (ds_ext 3 (de_call G_law_fold_line hgd hr takes_ctx (da_cons (de_var 4) (da_cons (de_var 2) da_nil))))))
 (db_one (ds_mvF 0 3 sc_law_folded.nd)))))
 (db_one (ds_ret (de_var 0)))))
  (fun _ _ _ _ _ h => law_law_folded h)

theorem sc_law_effect : FnScope N_law_effect ["sizes"] (defScope s_law_effect) := ⟨rfl, rfl, rfl, by decide +kernel, rfl, by decide +kernel, by decide +kernel⟩
theorem ok_law_effect {f : Addr} {fd : FuncData} (F : Fun K "_law_effect" "_law_effect" s_law_effect f fd) (n_len : mg "len" = none) (n_sorted : mg "sorted" = none) : GOk P w K mg base 1 f fd ["sizes"] (spP K 0 sp_law_effect) :=
 fn_dataF (Z := fun _ : Unit => vo0) (sp := fun _ => sp_law_effect) F sc_law_effect (fun _ => mo [(1, 1)]) (fun _ => w_law_effect) (fun _ _ _ _ _ h => len_law_effect h) (fun _ j hj => (by decide : ∀ j, j < 1 → (mo [(1, 1)]) j = 0) j hj)
  (fun _ cdv A outer s H E hgd hr => (db_cons (ds_set 1 sc_law_effect.nd (de_lst dan_nil))
 (db_cons (ds_for passes_ctx rfl (di_list (de_var 0)) (dg_name 2 sc_law_effect.nd)
 (db_one (ds_if (dt_shut [1] (dw_pt (dw_or (dt_cmp (op_eqA hr.units) op2_eq (de_callB call_lenA cal_len (da_cons (de_var 1) da_nil) (by rfl) n_len) de_int) (dw_or1 (dt_cmp op_lt op2_cmp (de_var 2) (de_ix ix_seq op2_ix (de_var 1) (de_neg de_int)))))))
 (db_one (ds_app 1 (de_var 2)))
 db_nil)))
 (db_cons (ds_if (dt_shut [1] (dw_pt (dw_and (dt_cmp op_gt op2_cmp (de_callB call_lenA cal_len (da_cons (de_var 1) da_nil) (by rfl) n_len) de_int) (dw_and1 (dt_cmp op_lt op2_cmp (de_ix ix_seq op2_ix (de_var 1) (de_neg de_int)) de_int)))))
 (db_one (ds_ret (de_frz (n := 1) (de_lst (dan_cons de_int dan_nil)))))
 db_nil)
 (db_give [1] (db_cons (ds_setLc0 (n := 0) [("size", 2)] 3 rfl sc_law_effect.nd (di_list (de_var 1)) (blkOk_by (N := N_law_effect) (sc := defScope s_law_effect) (by decide +kernel)) (fun _ => (dg_name 2 sc_law_effect.nd)) (fun _ => (dts_one (dw_pt (dw_and (dt_cmp op_inA op2_in (de_op op_sub op2_sub (de_var 2) de_int) (de_var 1)) (dw_and1 (dt_cmp op_notInA op2_notIn (de_op op_sub op2_sub (de_var 2) de_int) (de_var 1))))))) (fun _ => (de_op op_sub op2_sub (de_var 2) de_int)))
 (db_one (ds_ret (de_frz (n := 1) (de_rev (de_frz (n := 1) (de_callB cr_sortedI cal_sorted (da_cons (de_frz (n := 1) (de_op op_addA op2_add (de_var 1) (de_var 3))) da_nil) (by rfl) n_sorted))))))))))))
  (fun _ _ _ _ _ h => law_law_effect h)

theorem sc_law_sizes : FnScope N_law_sizes ["bag", "most", "wide"] (defScope s_law_sizes) := ⟨rfl, rfl, rfl, by decide +kernel, rfl, by decide +kernel, by decide +kernel⟩
theorem ok_law_sizes {f : Addr} {fd : FuncData} (F : Fun K "_law_sizes" "_law_sizes" s_law_sizes f fd) (n_len : mg "len" = none) (n_max : mg "max" = none) (n_range : mg "range" = none) (G_law_draw : Fn P w K mg base 1 "_law_draw" s_law_draw ["bag", "many"] (spF K voB 0 sp_law_draw)) : GOk P w K mg base 2 f fd ["bag", "most", "wide"] (spF K voB 1 sp_law_sizes) :=
 fn_dataF (Z := voB) (sp := sp_law_sizes) F sc_law_sizes (fun _ => mo [(3, 1)]) (w_law_sizes) (fun _ _ _ _ _ h => len_law_sizes h) (fun _ j hj => (by decide : ∀ j, j < 3 → (mo [(3, 1)]) j = 0) j hj)
  (fun r cdv A outer s H E hgd hr => (db_cons (ds_set 3 sc_law_sizes.nd (de_lst dan_nil))
 (db_cons (ds_for passes_ctx rfl (di_rng1 (by rfl) n_range (da_cons (de_callR r G_law_draw hgd hr takes_ctx (da_cons (de_var 0) (da_cons (de_frz (n := 1) (de_op op_addA op2_add (de_var 1) de_int)) da_nil))) da_nil)) (dg_name 4 sc_law_sizes.nd)
 (db_cons (ds_set 5 sc_law_sizes.nd (de_frz (n := 1) (de_op op_addA op2_add de_int (de_callR r G_law_draw hgd hr takes_ctx (da_cons (de_var 0) (da_cons (de_var 2) da_nil))))))
 (db_cons (ds_if (dt_shut [3] (dw_pt (dw_and (dt_cmp op_gt op2_cmp (de_callB call_lenA cal_len (da_cons (de_var 3) da_nil) (by rfl) n_len) de_int) (dw_and1 (dt_cmp op_gt op2_cmp (de_callR r G_law_draw hgd hr takes_ctx (da_cons (de_var 0) (da_cons de_int da_nil))) de_int)))))
 (db_one (ds_set 5 sc_law_sizes.nd (de_shut [3] (de_callB (call_maxA rfl) cal_max (da_cons de_int (da_cons (de_op op_sub op2_sub (de_op op_sub op2_sub (de_ix ix_seq op2_ix (de_var 3) (de_neg de_int)) de_int) (de_callR r G_law_draw hgd hr takes_ctx (da_cons (de_var 0) (da_cons de_int da_nil)))) da_nil)) (by rfl) n_max))))
 db_nil)
 (db_one (ds_app 3 (de_var 5))))))
 (db_one (ds_retO 3)))))
  (fun _ _ _ _ _ h => law_law_sizes h)

theorem sc_law_words : FnScope N_law_words ["bag", "many", "long"] (defScope s_law_words) := ⟨rfl, rfl, rfl, by decide +kernel, rfl, by decide +kernel, by decide +kernel⟩
theorem ok_law_words {f : Addr} {fd : FuncData} (F : Fun K "_law_words" "_law_words" s_law_words f fd) (n_range : mg "range" = none) (G_law_draw : Fn P w K mg base 1 "_law_draw" s_law_draw ["bag", "many"] (spF K voB 0 sp_law_draw)) : GOk P w K mg base 2 f fd ["bag", "many", "long"] (spF K voB 0 sp_law_words) :=
 fn_dataF (Z := voB) (sp := sp_law_words) F sc_law_words (fun _ => mo []) (w_law_words) (fun _ _ _ _ _ h => len_law_words h) (fun _ j hj => (by decide : ∀ j, j < 3 → (mo []) j = 0) j hj)
  (fun r cdv A outer s H E hgd hr => (db_one (ds_ret (de_frz (n := 1) (de_lc [("number", 3)] rfl sc_law_words.nd (di_rng1 (by rfl) n_range (da_cons (de_frz (n := 1) (de_op op_addA op2_add de_int (de_callR r G_law_draw hgd hr takes_ctx (da_cons (de_var 0) (da_cons (de_var 1) da_nil))))) da_nil)) (blkOk_by (N := N_law_words) (sc := defScope s_law_words) (by decide +kernel)) (fun _ => (dg_name 3 sc_law_words.nd)) (fun _ => dts_nil) (fun _ => (de_frz (n := 1) (de_op op_mulA op2_mul (de_ix ix_seq op2_ix de_str (de_callR r G_law_draw hgd hr takes0 (da_cons (de_var 0) (da_cons de_int da_nil)))) (de_frz (n := 1) (de_op op_addA op2_add de_int (de_callR r G_law_draw hgd hr takes0 (da_cons (de_var 0) (da_cons (de_var 2) da_nil)))))))))))))
  (fun _ _ _ _ _ h => law_law_words h)

theorem sc_law_all_lines : FnScope N_law_all_lines ["most"] (defScope s_law_all_lines) := ⟨rfl, rfl, rfl, by decide +kernel, rfl, by decide +kernel, by decide +kernel⟩
theorem ok_law_all_lines {f : Addr} {fd : FuncData} (F : Fun K "_law_all_lines" "_law_all_lines" s_law_all_lines f fd) (n_range : mg "range" = none) : GOk P w K mg base 1 f fd ["most"] (spP K 0 sp_law_all_lines) :=
 fn_dataF (Z := fun _ : Unit => vo0) (sp := fun _ => sp_law_all_lines) F sc_law_all_lines (fun _ => mo [(1, 1)]) (fun _ => w_law_all_lines) (fun _ _ _ _ _ h => len_law_all_lines h) (fun _ j hj => (by decide : ∀ j, j < 1 → (mo [(1, 1)]) j = 0) j hj)
  (fun _ cdv A outer s H E hgd hr => (db_cons (ds_set 1 sc_law_all_lines.nd (de_lst dan_nil))
 (db_cons (ds_for passes_ctx rfl (di_rng2 (by rfl) n_range (da_cons de_int (da_cons (de_frz (n := 1) (de_op op_addA op2_add (de_var 0) de_int)) da_nil))) (dg_name 2 sc_law_all_lines.nd)
 (db_cons (ds_app 1 (de_frz (n := 1) (de_lst (dan_cons (de_var 2) dan_nil))))
 (db_one (ds_for passes_ctx rfl (di_rng2 (by rfl) n_range (da_cons de_int (da_cons (de_frz (n := 1) (de_op op_addA op2_add (de_var 0) de_int)) da_nil))) (dg_name 3 sc_law_all_lines.nd)
 (db_cons (ds_app 1 (de_frz (n := 1) (de_lst (dan_cons (de_var 2) (dan_cons (de_var 3) dan_nil)))))
 (db_one (ds_ext 1 (de_frz (n := 1) (de_lc [("third", 4)] rfl sc_law_all_lines.nd (di_rng2 (by rfl) n_range (da_cons de_int (da_cons (de_frz (n := 1) (de_op op_addA op2_add (de_var 0) de_int)) da_nil))) (blkOk_by (N := N_law_all_lines) (sc := defScope s_law_all_lines) (by decide +kernel)) (fun _ => (dg_name 4 sc_law_all_lines.nd)) (fun _ => dts_nil) (fun _ => (de_frz (n := 1) (de_lst (dan_cons (de_var 2) (dan_cons (de_var 3) (dan_cons (de_var 4) dan_nil)))))))))))))))
 (db_one (ds_retF [1] (de_frz (n := 1) (de_lc [("numbers", 5)] rfl sc_law_all_lines.nd (di_list (de_var 1)) (blkOk_by (N := N_law_all_lines) (sc := defScope s_law_all_lines) (by decide +kernel)) (fun _ => (dg_name 5 sc_law_all_lines.nd)) (fun _ => dts_nil) (fun _ => (de_frz (n := 1) (de_lc [("number", 6)] rfl sc_law_all_lines.nd (di_list (de_var 5)) (blk_any (blkOk_by (N := N_law_all_lines) (sc := noNames) (by decide +kernel))) (fun _ => (dg_name 6 sc_law_all_lines.nd)) (fun _ => dts_nil) (fun _ => (de_frz (n := 1) (de_op op_mulA op2_mul de_str (de_var 6))))))))))))))
  (fun _ _ _ _ _ h => law_law_all_lines h)

theorem sc_law : FnScope N_law ["script"] (defScope s_law) := ⟨rfl, rfl, rfl, by decide +kernel, rfl, by decide +kernel, by decide +kernel⟩
theorem ok_law {f : Addr} {fd : FuncData} (F : Fun K "law" "law" s_law f fd) (n_len : mg "len" = none) (n_min : mg "min" = none) (n_range : mg "range" = none) (G_law_bag : Fn P w K mg base 1 "_law_bag" s_law_bag ["script"] (spP K 2 sp_law_bag)) (G_law_all_lines : Fn P w K mg base 1 "_law_all_lines" s_law_all_lines ["most"] (spP K 0 sp_law_all_lines)) (G_law_sizes : Fn P w K mg base 2 "_law_sizes" s_law_sizes ["bag", "most", "wide"] (spF K voB 1 sp_law_sizes)) (G_law_draw : Fn P w K mg base 1 "_law_draw" s_law_draw ["bag", "many"] (spF K voB 0 sp_law_draw)) (G_law_effect : Fn P w K mg base 1 "_law_effect" s_law_effect ["sizes"] (spP K 0 sp_law_effect)) (G_law_folded : Fn P w K mg base 2 "_law_folded" s_law_folded ["grid", "sizes"] (spP K 0 sp_law_folded)) (G_parting_line : Fn P w K mg base 3 "parting_line" s_parting_line ["first", "second"] (spP K 1 sp_parting_line)) (G_law_words : Fn P w K mg base 2 "_law_words" s_law_words ["bag", "many", "long"] (spF K voB 0 sp_law_words)) : GOk P w K mg base 4 f fd ["script"] (spP K 0 sp_law) :=
 fn_dataF (Z := fun _ : Unit => vo0) (sp := fun _ => sp_law) F sc_law (fun _ => mo [(1, 2)]) (fun _ => w_law) (fun _ _ _ _ _ h => len_law h) (fun _ j hj => (by decide : ∀ j, j < 1 → (mo [(1, 2)]) j = 0) j hj)
  (fun _ cdv A outer s H E hgd hr => (db_cons (ds_set 1 sc_law.nd (de_call G_law_bag hgd hr takes_ctx (da_cons (de_var 0) da_nil)))
 (db_adopt 1 isBg Prod.fst adopt_bg (fun r => (db_cons (ds_set 2 sc_law.nd (de_call G_law_all_lines hgd hr takes_ctx (da_cons de_int da_nil)))
 (db_cons (ds_for passes_ctx rfl (di_rng1 (by rfl) n_range (da_cons (de_frz (n := 1) (de_op op_addA op2_add de_int (de_callB (call_minA rfl) cal_min (da_cons de_int (da_cons (de_callB call_lenA cal_len (da_cons (de_var 0) da_nil) (by rfl) n_len) da_nil)) (by rfl) n_min))) da_nil)) (dg_name 3 sc_law.nd)
 (db_cons (ds_unp (de_frz (n := 1) (de_tup (dan_cons (de_frz (n := 1) (de_callR r G_law_sizes hgd hr takes_ctx (da_cons (de_var 1) (da_cons de_int (da_cons de_int da_nil))))) (dan_cons (de_frz (n := 1) (de_callR r G_law_sizes hgd hr takes_ctx (da_cons (de_var 1) (da_cons de_int (da_cons de_int da_nil))))) dan_nil)))) (dg_tup rfl (dgs_one 4 sc_law.nd (h := (dgs_one 5 sc_law.nd (h := dgs_nil))))))
 (db_cons (ds_if (dt_cmp (op_eqA hr.units) op2_eq (de_callR r G_law_draw hgd hr takes_ctx (da_cons (de_var 1) (da_cons de_int da_nil))) de_int)
 (db_one (ds_set 5 sc_law.nd (de_frz (n := 1) (de_op op_addA op2_add (de_frz (n := 1) (de_step (de_call G_law_effect hgd hr takes_ctx (da_cons (de_var 4) da_nil)) (de_frz (n := 1) (de_op op_addA op2_add de_int (de_callR r G_law_draw hgd hr takes_ctx (da_cons (de_var 1) (da_cons de_int da_nil))))))) (de_frz (n := 1) (de_callR r G_law_sizes hgd hr takes_ctx (da_cons (de_var 1) (da_cons de_int (da_cons de_int da_nil)))))))))
 db_nil)
 (db_cons (ds_setLc0 (n := 0) [("line", 9)] 6 rfl sc_law.nd (di_list (de_var 2)) (blkOk_by (N := N_law) (sc := defScope s_law) (by decide +kernel)) (fun _ => (dg_name 9 sc_law.nd)) (fun _ => (dts_one (dt_cmp (op_neA hr.units) op2_ne (de_call G_law_folded hgd hr takes0 (da_cons (de_frz (n := 1) (de_lst (dan_cons (de_var 9) dan_nil))) (da_cons (de_var 4) da_nil))) (de_call G_law_folded hgd hr takes0 (da_cons (de_frz (n := 1) (de_lst (dan_cons (de_var 9) dan_nil))) (da_cons (de_var 5) da_nil)))))) (fun _ => (de_var 9)))
 (db_cons (ds_if (dt_cmp (op_neA hr.units) op2_ne (de_cmp op_isN op2_isN (de_frz (n := 1) (de_call G_parting_line hgd hr takes_ctx (da_cons (de_var 4) (da_cons (de_var 5) da_nil)))) de_non) (de_cmp (op_eqA hr.units) op2_eq (de_var 6) (de_frz (n := 1) (de_lst dan_nil))))
 (db_one (ds_ret de_bl))
 db_nil)
 (db_one (ds_if (dt_cmp (op_eqA hr.units) op2_eq (de_var 6) (de_frz (n := 1) (de_lst dan_nil)))
 (db_one (ds_for passes_ctx rfl (di_rng1 (by rfl) n_range (da_cons de_int da_nil)) (dg_name 7 sc_law.nd)
 (db_cons (ds_set 8 sc_law.nd (de_callR r G_law_words hgd hr takes_ctx (da_cons (de_var 1) (da_cons de_int (da_cons de_int da_nil)))))
 (db_one (ds_if (dt_cmp (op_neA hr.units) op2_ne (de_call G_law_folded hgd hr takes_ctx (da_cons (de_frz (n := 1) (de_lst (dan_cons (de_var 8) dan_nil))) (da_cons (de_var 4) da_nil))) (de_call G_law_folded hgd hr takes_ctx (da_cons (de_frz (n := 1) (de_lst (dan_cons (de_var 8) dan_nil))) (da_cons (de_var 5) da_nil))))
 (db_one (ds_ret de_bl))
 db_nil)))))
 db_nil)))))))
 (db_one (ds_ret de_bl))))))))
  (fun _ _ _ _ _ h => law_law h)

end
theorem all_mk {l : PySem.W.OpenLaw} {w : World} {K : PySem.W.Frag} {h : Heap} {mg : Str → Option Value} {fa f1 f2 f3 f4 f5 f6 f7 f8 f9 f10 f11 f12 f13 f14 : Addr} (X : K.In h) (G : h.Ns mainGlobals mg) (hfa : mg "law" = some (.ref fa))
    {od1 an1 od2 an2 od3 an3 od4 an4 od5 an5 od6 an6 od7 an7 od8 an8 od9 an9 od10 an10 od11 an11 od12 an12 od13 an13 od14 an14 : Option Addr} {sl1 sl2 sl3 sl4 sl5 sl6 sl7 sl8 sl9 sl10 sl11 sl12 sl13 sl14 : Array (Option Value)} {oc1 kV1 dc1 pm1 cd1 ct1 oc2 kV2 dc2 pm2 cd2 ct2 oc3 kV3 dc3 pm3 cd3 ct3 oc4 kV4 dc4 pm4 cd4 ct4 oc5 kV5 dc5 pm5 cd5 ct5 oc6 kV6 dc6 pm6 cd6 ct6 oc7 kV7 dc7 pm7 cd7 ct7 oc8 kV8 dc8 pm8 cd8 ct8 oc9 kV9 dc9 pm9 cd9 ct9 oc10 kV10 dc10 pm10 cd10 ct10 oc11 kV11 dc11 pm11 cd11 ct11 oc12 kV12 dc12 pm12 cd12 ct12 oc13 kV13 dc13 pm13 cd13 ct13 oc14 kV14 dc14 pm14 cd14 ct14 : Value} {t_ALONE : Tok} {ka_ALL_ALONE : Addr} {kn_ALL_ALONE : Nat} {ksl_ALL_ALONE : Array (Option Value)} {kt_ALL_ALONE0 : Tok}
    (a1 : PySem.W.nsIn K mainGlobals "check_widths" = some (some (.ref f1))) (l1 : K.lookup f1 = some ⟨oc1, od1, .func (PySem.W.fnOf "check_widths" "check_widths" (defArgs s_check_widths) (defBody s_check_widths) (defScope s_check_widths) .none kV1 dc1 pm1 an1 cd1 ct1), sl1⟩) (c1 : PySem.W.codeIn K cd1 "check_widths" = true) (k1 : PySem.W.keepIn K (.ref f1) = true)
    (a2 : PySem.W.nsIn K mainGlobals "minima" = some (some (.ref f2))) (l2 : K.lookup f2 = some ⟨oc2, od2, .func (PySem.W.fnOf "minima" "minima" (defArgs s_minima) (defBody s_minima) (defScope s_minima) .none kV2 dc2 pm2 an2 cd2 ct2), sl2⟩) (c2 : PySem.W.codeIn K cd2 "minima" = true) (k2 : PySem.W.keepIn K (.ref f2) = true)
    (a3 : PySem.W.nsIn K mainGlobals "effect_of" = some (some (.ref f3))) (l3 : K.lookup f3 = some ⟨oc3, od3, .func (PySem.W.fnOf "effect_of" "effect_of" (defArgs s_effect_of) (defBody s_effect_of) (defScope s_effect_of) .none kV3 dc3 pm3 an3 cd3 ct3), sl3⟩) (c3 : PySem.W.codeIn K cd3 "effect_of" = true) (k3 : PySem.W.keepIn K (.ref f3) = true)
    (a4 : PySem.W.nsIn K mainGlobals "line_of" = some (some (.ref f4))) (l4 : K.lookup f4 = some ⟨oc4, od4, .func (PySem.W.fnOf "line_of" "line_of" (defArgs s_line_of) (defBody s_line_of) (defScope s_line_of) .none kV4 dc4 pm4 an4 cd4 ct4), sl4⟩) (c4 : PySem.W.codeIn K cd4 "line_of" = true) (k4 : PySem.W.keepIn K (.ref f4) = true)
    (a5 : PySem.W.nsIn K mainGlobals "parting_line" = some (some (.ref f5))) (l5 : K.lookup f5 = some ⟨oc5, od5, .func (PySem.W.fnOf "parting_line" "parting_line" (defArgs s_parting_line) (defBody s_parting_line) (defScope s_parting_line) .none kV5 dc5 pm5 an5 cd5 ct5), sl5⟩) (c5 : PySem.W.codeIn K cd5 "parting_line" = true) (k5 : PySem.W.keepIn K (.ref f5) = true)
    (a6 : PySem.W.nsIn K mainGlobals "_law_bag" = some (some (.ref f6))) (l6 : K.lookup f6 = some ⟨oc6, od6, .func (PySem.W.fnOf "_law_bag" "_law_bag" (defArgs s_law_bag) (defBody s_law_bag) (defScope s_law_bag) .none kV6 dc6 pm6 an6 cd6 ct6), sl6⟩) (c6 : PySem.W.codeIn K cd6 "_law_bag" = true) (k6 : PySem.W.keepIn K (.ref f6) = true)
    (a7 : PySem.W.nsIn K mainGlobals "_law_draw" = some (some (.ref f7))) (l7 : K.lookup f7 = some ⟨oc7, od7, .func (PySem.W.fnOf "_law_draw" "_law_draw" (defArgs s_law_draw) (defBody s_law_draw) (defScope s_law_draw) .none kV7 dc7 pm7 an7 cd7 ct7), sl7⟩) (c7 : PySem.W.codeIn K cd7 "_law_draw" = true) (k7 : PySem.W.keepIn K (.ref f7) = true)
    (a8 : PySem.W.nsIn K mainGlobals "_law_fold_line" = some (some (.ref f8))) (l8 : K.lookup f8 = some ⟨oc8, od8, .func (PySem.W.fnOf "_law_fold_line" "_law_fold_line" (defArgs s_law_fold_line) (defBody s_law_fold_line) (defScope s_law_fold_line) .none kV8 dc8 pm8 an8 cd8 ct8), sl8⟩) (c8 : PySem.W.codeIn K cd8 "_law_fold_line" = true) (k8 : PySem.W.keepIn K (.ref f8) = true)
    (a9 : PySem.W.nsIn K mainGlobals "_law_folded" = some (some (.ref f9))) (l9 : K.lookup f9 = some ⟨oc9, od9, .func (PySem.W.fnOf "_law_folded" "_law_folded" (defArgs s_law_folded) (defBody s_law_folded) (defScope s_law_folded) .none kV9 dc9 pm9 an9 cd9 ct9), sl9⟩) (c9 : PySem.W.codeIn K cd9 "_law_folded" = true) (k9 : PySem.W.keepIn K (.ref f9) = true)
    (a10 : PySem.W.nsIn K mainGlobals "_law_effect" = some (some (.ref f10))) (l10 : K.lookup f10 = some ⟨oc10, od10, .func (PySem.W.fnOf "_law_effect" "_law_effect" (defArgs s_law_effect) (defBody s_law_effect) (defScope s_law_effect) .none kV10 dc10 pm10 an10 cd10 ct10), sl10⟩) (c10 : PySem.W.codeIn K cd10 "_law_effect" = true) (k10 : PySem.W.keepIn K (.ref f10) = true)
    (a11 : PySem.W.nsIn K mainGlobals "_law_sizes" = some (some (.ref f11))) (l11 : K.lookup f11 = some ⟨oc11, od11, .func (PySem.W.fnOf "_law_sizes" "_law_sizes" (defArgs s_law_sizes) (defBody s_law_sizes) (defScope s_law_sizes) .none kV11 dc11 pm11 an11 cd11 ct11), sl11⟩) (c11 : PySem.W.codeIn K cd11 "_law_sizes" = true) (k11 : PySem.W.keepIn K (.ref f11) = true)
    (a12 : PySem.W.nsIn K mainGlobals "_law_words" = some (some (.ref f12))) (l12 : K.lookup f12 = some ⟨oc12, od12, .func (PySem.W.fnOf "_law_words" "_law_words" (defArgs s_law_words) (defBody s_law_words) (defScope s_law_words) .none kV12 dc12 pm12 an12 cd12 ct12), sl12⟩) (c12 : PySem.W.codeIn K cd12 "_law_words" = true) (k12 : PySem.W.keepIn K (.ref f12) = true)
    (a13 : PySem.W.nsIn K mainGlobals "_law_all_lines" = some (some (.ref f13))) (l13 : K.lookup f13 = some ⟨oc13, od13, .func (PySem.W.fnOf "_law_all_lines" "_law_all_lines" (defArgs s_law_all_lines) (defBody s_law_all_lines) (defScope s_law_all_lines) .none kV13 dc13 pm13 an13 cd13 ct13), sl13⟩) (c13 : PySem.W.codeIn K cd13 "_law_all_lines" = true) (k13 : PySem.W.keepIn K (.ref f13) = true)
    (a14 : PySem.W.nsIn K mainGlobals "law" = some (some (.ref f14))) (l14 : K.lookup f14 = some ⟨oc14, od14, .func (PySem.W.fnOf "law" "law" (defArgs s_law) (defBody s_law) (defScope s_law) .none kV14 dc14 pm14 an14 cd14 ct14), sl14⟩) (c14 : PySem.W.codeIn K cd14 "law" = true) (k14 : PySem.W.keepIn K (.ref f14) = true)
    (z_abs : PySem.W.nsIn K mainGlobals "abs" = some none)
    (z_enumerate : PySem.W.nsIn K mainGlobals "enumerate" = some none)
    (z_int : PySem.W.nsIn K mainGlobals "int" = some none)
    (z_len : PySem.W.nsIn K mainGlobals "len" = some none)
    (z_max : PySem.W.nsIn K mainGlobals "max" = some none)
    (z_min : PySem.W.nsIn K mainGlobals "min" = some none)
    (z_range : PySem.W.nsIn K mainGlobals "range" = some none)
    (z_sorted : PySem.W.nsIn K mainGlobals "sorted" = some none)
    (y_ALONE : PySem.W.nsIn K mainGlobals "ALONE" = some (some (.int 2 t_ALONE)))
    (yl_ALL_ALONE : PySem.W.nsIn K mainGlobals "ALL_ALONE" = some (some (.ref ka_ALL_ALONE))) (yo_ALL_ALONE : K.lookup ka_ALL_ALONE = some ⟨.type "list", none, .seq #[.int 2 kt_ALL_ALONE0] kn_ALL_ALONE, ksl_ALL_ALONE⟩)
    : ∃ fd : FuncData, (∀ (s : Shared) (v : Value), BindsTo s fd ⟨[v], []⟩ [("script", v)]) ∧ ∀ base : Heap, K.In base → base.Ns mainGlobals mg → GOk l.prog w K mg base 4 fa fd ["script"] (spP K 0 specLaw) := by
  have e := hfa.symm.trans (PySem.W.mg_of X G a14)
  cases e
  have F1 := fun_mk (st := s_check_widths) l1 c1 k1
  have b1 := F1.binds (ps := ["widths"]) fun _ _ _ _ _ _ us hl => match us, hl with | [_], _ => rfl
  have F2 := fun_mk (st := s_minima) l2 c2 k2
  have b2 := F2.binds (ps := ["widths"]) fun _ _ _ _ _ _ us hl => match us, hl with | [_], _ => rfl
  have F3 := fun_mk (st := s_effect_of) l3 c3 k3
  have b3 := F3.binds (ps := ["widths"]) fun _ _ _ _ _ _ us hl => match us, hl with | [_], _ => rfl
  have F4 := fun_mk (st := s_line_of) l4 c4 k4
  have b4 := Vl.Fun.bindsV F4 (nm := "lengths") fun _ _ _ _ _ _ us hu => match us, hu with | [], h => absurd rfl h | _ :: _, _ => rfl
  have F5 := fun_mk (st := s_parting_line) l5 c5 k5
  have b5 := F5.binds (ps := ["first", "second"]) fun _ _ _ _ _ _ us hl => match us, hl with | [_, _], _ => rfl
  have F6 := fun_mk (st := s_law_bag) l6 c6 k6
  have b6 := F6.binds (ps := ["script"]) fun _ _ _ _ _ _ us hl => match us, hl with | [_], _ => rfl
  have F7 := fun_mk (st := s_law_draw) l7 c7 k7
  have b7 := F7.binds (ps := ["bag", "many"]) fun _ _ _ _ _ _ us hl => match us, hl with | [_, _], _ => rfl
  have F8 := fun_mk (st := s_law_fold_line) l8 c8 k8
  have b8 := F8.binds (ps := ["words", "size"]) fun _ _ _ _ _ _ us hl => match us, hl with | [_, _], _ => rfl
  have F9 := fun_mk (st := s_law_folded) l9 c9 k9
  have b9 := F9.binds (ps := ["grid", "sizes"]) fun _ _ _ _ _ _ us hl => match us, hl with | [_, _], _ => rfl
  have F10 := fun_mk (st := s_law_effect) l10 c10 k10
  have b10 := F10.binds (ps := ["sizes"]) fun _ _ _ _ _ _ us hl => match us, hl with | [_], _ => rfl
  have F11 := fun_mk (st := s_law_sizes) l11 c11 k11
  have b11 := F11.binds (ps := ["bag", "most", "wide"]) fun _ _ _ _ _ _ us hl => match us, hl with | [_, _, _], _ => rfl
  have F12 := fun_mk (st := s_law_words) l12 c12 k12
  have b12 := F12.binds (ps := ["bag", "many", "long"]) fun _ _ _ _ _ _ us hl => match us, hl with | [_, _, _], _ => rfl
  have F13 := fun_mk (st := s_law_all_lines) l13 c13 k13
  have b13 := F13.binds (ps := ["most"]) fun _ _ _ _ _ _ us hl => match us, hl with | [_], _ => rfl
  have F14 := fun_mk (st := s_law) l14 c14 k14
  refine ⟨PySem.W.fnOf "law" "law" (defArgs s_law) (defBody s_law) (defScope s_law) .none kV14 dc14 pm14 an14 cd14 ct14, fun s v => .of_eq rfl, fun base _ _ => ?_⟩
  have n_abs := PySem.W.mg_none_of X G z_abs
  have n_enumerate := PySem.W.mg_none_of X G z_enumerate
  have n_int := PySem.W.mg_none_of X G z_int
  have n_len := PySem.W.mg_none_of X G z_len
  have n_max := PySem.W.mg_none_of X G z_max
  have n_min := PySem.W.mg_none_of X G z_min
  have n_range := PySem.W.mg_none_of X G z_range
  have n_sorted := PySem.W.mg_none_of X G z_sorted
  have L_ALL_ALONE : MInts K mg "ALL_ALONE" [2] := ⟨_, PySem.W.mg_of X G yl_ALL_ALONE, _, _, _, yo_ALL_ALONE, rfl, rfl, rfl, by simp; decide, (.cons ⟨_, rfl⟩ .nil)⟩
  have c_ALONE := PySem.W.mg_of X G y_ALONE
  have G_check_widths : Fn l.prog w K mg base 1 "check_widths" s_check_widths ["widths"] (spP K 0 sp_check_widths) := ⟨f1, _, F1, ok_check_widths F1 n_enumerate, PySem.W.mg_of X G a1, b1⟩
  have G_minima : Fn l.prog w K mg base 1 "minima" s_minima ["widths"] (spP K 1 sp_minima) := ⟨f2, _, F2, ok_minima F2 , PySem.W.mg_of X G a2, b2⟩
  have G_effect_of : Fn l.prog w K mg base 2 "effect_of" s_effect_of ["widths"] (spP K 1 sp_effect_of) := ⟨f3, _, F3, ok_effect_of F3 c_ALONE G_minima, PySem.W.mg_of X G a3, b3⟩
  have G_line_of : FnV l.prog w K mg base 1 "line_of" s_line_of "lengths" (spP K 1 sp_line_of) := ⟨f4, _, F4, ok_line_of F4 , PySem.W.mg_of X G a4, b4⟩
  have G_parting_line : Fn l.prog w K mg base 3 "parting_line" s_parting_line ["first", "second"] (spP K 1 sp_parting_line) := ⟨f5, _, F5, ok_parting_line F5 n_max L_ALL_ALONE G_check_widths G_effect_of G_line_of, PySem.W.mg_of X G a5, b5⟩
  have G_law_bag : Fn l.prog w K mg base 1 "_law_bag" s_law_bag ["script"] (spP K 2 sp_law_bag) := ⟨f6, _, F6, ok_law_bag F6 n_abs, PySem.W.mg_of X G a6, b6⟩
  have G_law_draw : Fn l.prog w K mg base 1 "_law_draw" s_law_draw ["bag", "many"] (spF K voB 0 sp_law_draw) := ⟨f7, _, F7, ok_law_draw F7 n_len, PySem.W.mg_of X G a7, b7⟩
  have G_law_fold_line : Fn l.prog w K mg base 1 "_law_fold_line" s_law_fold_line ["words", "size"] (spP K 0 sp_law_fold_line) := ⟨f8, _, F8, ok_law_fold_line F8 n_int n_len, PySem.W.mg_of X G a8, b8⟩
  have G_law_folded : Fn l.prog w K mg base 2 "_law_folded" s_law_folded ["grid", "sizes"] (spP K 0 sp_law_folded) := ⟨f9, _, F9, ok_law_folded F9 G_law_fold_line, PySem.W.mg_of X G a9, b9⟩
  have G_law_effect : Fn l.prog w K mg base 1 "_law_effect" s_law_effect ["sizes"] (spP K 0 sp_law_effect) := ⟨f10, _, F10, ok_law_effect F10 n_len n_sorted, PySem.W.mg_of X G a10, b10⟩
  have G_law_sizes : Fn l.prog w K mg base 2 "_law_sizes" s_law_sizes ["bag", "most", "wide"] (spF K voB 1 sp_law_sizes) := ⟨f11, _, F11, ok_law_sizes F11 n_len n_max n_range G_law_draw, PySem.W.mg_of X G a11, b11⟩
  have G_law_words : Fn l.prog w K mg base 2 "_law_words" s_law_words ["bag", "many", "long"] (spF K voB 0 sp_law_words) := ⟨f12, _, F12, ok_law_words F12 n_range G_law_draw, PySem.W.mg_of X G a12, b12⟩
  have G_law_all_lines : Fn l.prog w K mg base 1 "_law_all_lines" s_law_all_lines ["most"] (spP K 0 sp_law_all_lines) := ⟨f13, _, F13, ok_law_all_lines F13 n_range, PySem.W.mg_of X G a13, b13⟩
  exact ok_law F14 n_len n_min n_range G_law_bag G_law_all_lines G_law_sizes G_law_draw G_law_effect G_law_folded G_parting_line G_law_words
end Vl
open PySem PySem.W PyProof.Rows in
set_option maxRecDepth 100000 in
set_option maxHeartbeats 0 in
theorem PySem.Challenge.cw_refold_k29_whole_three_words_suffice_holds : PySem.Challenge.rw_refold_k29_whole_three_words_suffice.Holds := by
  w_on; o_law; k_head; (case hw => w_witness2)
  k_fill
  refine Vl.law_end (l := PySem.Challenge.rw_refold_k29_whole_three_words_suffice) (k := 4) (x := "script") rfl rfl ⟨rfl, by decide, by decide⟩ (fun w h Y => PySem.W.kIn_of Y) ?F
  case F =>
    intro w mg fa h KX G hmg
    refine' Vl.all_mk KX G hmg ?a1 ?l1 ?c1 ?k1 ?a2 ?l2 ?c2 ?k2 ?a3 ?l3 ?c3 ?k3 ?a4 ?l4 ?c4 ?k4 ?a5 ?l5 ?c5 ?k5 ?a6 ?l6 ?c6 ?k6 ?a7 ?l7 ?c7 ?k7 ?a8 ?l8 ?c8 ?k8 ?a9 ?l9 ?c9 ?k9 ?a10 ?l10 ?c10 ?k10 ?a11 ?l11 ?c11 ?k11 ?a12 ?l12 ?c12 ?k12 ?a13 ?l13 ?c13 ?k13 ?a14 ?l14 ?c14 ?k14 ?z_abs ?z_enumerate ?z_int ?z_len ?z_max ?z_min ?z_range ?z_sorted ?y_ALONE ?yl_ALL_ALONE ?yo_ALL_ALONE
    (case a1 => k_is)
    (case l1 => k_is)
    (case c1 => k_is)
    (case k1 => k_is)
    (case a2 => k_is)
    (case l2 => k_is)
    (case c2 => k_is)
    (case k2 => k_is)
    (case a3 => k_is)
    (case l3 => k_is)
    (case c3 => k_is)
    (case k3 => k_is)
    (case a4 => k_is)
    (case l4 => k_is)
    (case c4 => k_is)
    (case k4 => k_is)
    (case a5 => k_is)
    (case l5 => k_is)
    (case c5 => k_is)
    (case k5 => k_is)
    (case a6 => k_is)
    (case l6 => k_is)
    (case c6 => k_is)
    (case k6 => k_is)
    (case a7 => k_is)
    (case l7 => k_is)
    (case c7 => k_is)
    (case k7 => k_is)
    (case a8 => k_is)
    (case l8 => k_is)
    (case c8 => k_is)
    (case k8 => k_is)
    (case a9 => k_is)
    (case l9 => k_is)
    (case c9 => k_is)
    (case k9 => k_is)
    (case a10 => k_is)
    (case l10 => k_is)
    (case c10 => k_is)
    (case k10 => k_is)
    (case a11 => k_is)
    (case l11 => k_is)
    (case c11 => k_is)
    (case k11 => k_is)
    (case a12 => k_is)
    (case l12 => k_is)
    (case c12 => k_is)
    (case k12 => k_is)
    (case a13 => k_is)
    (case l13 => k_is)
    (case c13 => k_is)
    (case k13 => k_is)
    (case a14 => k_is)
    (case l14 => k_is)
    (case c14 => k_is)
    (case k14 => k_is)
    (case z_abs => k_is)
    (case z_enumerate => k_is)
    (case z_int => k_is)
    (case z_len => k_is)
    (case z_max => k_is)
    (case z_min => k_is)
    (case z_range => k_is)
    (case z_sorted => k_is)
    (case y_ALONE => k_is)
    (case yl_ALL_ALONE => k_is)
    (case yo_ALL_ALONE => k_is)
