import PyProof.Rows.All
import Wide.All
import OpenK.AllK
import Wide.FinOn
import HandS.ForMost
import HandS.IsInst
import HandS.Exc
import HandS.ExcOwn
import HandS.TupAny
import HandS.Walk
import HandS.Zip
import KE.GoesNew
import KE.GoesEnum
import KE.GoesMore
import HandS.TupMul
import HandS.Wide
import HandS.Rev
import HandS.Style
import HandS.Deep
import HandS.Conv
import HandS.ExcValue
import HandS.ExcIs
import HandS.HotCalls
import HandS.WordsExc
import HandS.ExcInit
import HandS.ExcField
import KE.KExcIs
import HandS.RevTup
import HandS.Dict
import HandS.WordsDict
import HandS.SortInts
import HandS.SortRule
import HandS.NoneIn
import HandS.More
import HandS.Text
import PyProof.Rows.StrMul
import PyProof.ReprRoads
import PyProof.Rows.RegFStrParts
import KE.IntTextLaws
import PySem.Challenge.RW_rootways_k13_cuts_or_not
set_option Elab.async false
set_option linter.all false
set_option maxRecDepth 100000
set_option maxHeartbeats 4000000

namespace M
open PySem PySem.Spec PyProof.Rows L2
inductive SV where
  | p (d : PyData)
  | c (n : Nat)
  | t (xs : List SV)
  | ro (ns : List Int)
  | x (nm : Str) (arg : Option Int)
inductive MO where
  | lst (xs : List SV)
  | dct (kvs : List (Key × SV))
  | ins (C : Str) (fs : List (Str × SV))
abbrev Env := List (Option SV)
abbrev Store := List MO
mutual
def SV.under (k : Nat) : SV → Bool
  | .p _ => true
  | .c n => decide (n < k)
  | .t xs => underAll k xs
  | .ro _ => true
  | .x _ _ => true
def underAll (k : Nat) : List SV → Bool
  | [] => true
  | x :: xs => x.under k && underAll k xs
end
def MO.under (k : Nat) : MO → Bool
  | .lst xs => underAll k xs
  | .dct kvs => underAll k (kvs.map (·.2))
  | .ins _ fs => underAll k (fs.map (·.2))
def Wf (st : Store) : Prop := ∀ o ∈ st, o.under st.length = true
mutual
inductive Dq (K : PySem.W.Frag) (H : Hp) : V → PyData → Prop
  | non : Dq K H .non .none
  | bl (b : Bool) : Dq K H (.bl b) (.bool b)
  | int (i : Int) : Dq K H (.int i) (.int i)
  | str (x : Str) : Dq K H (.str x) (.str x)
  | lst {a : Addr} {xs : List V} {ds : List PyData} : H a = some (.lst xs) → DqAll K H xs ds → Dq K H (.ref a) (.list ds)
  | tup {a : Addr} {xs : List V} {ds : List PyData} : SqT K H a xs → DqAll K H xs ds → Dq K H (.ref a) (.tuple ds)
inductive DqAll (K : PySem.W.Frag) (H : Hp) : List V → List PyData → Prop
  | nil : DqAll K H [] []
  | cons {v : V} {vs : List V} {d : PyData} {ds : List PyData} : Dq K H v d → DqAll K H vs ds → DqAll K H (v :: vs) (d :: ds)
end
def exq (a : Addr) (cls : Value) (d : Option Addr) : HO := .ext fun h => ∃ (oe : Obj) (vs : Array Value), h.get? a = some oe ∧ oe.cls = cls ∧ oe.dict = d ∧ oe.data = .fields vs
def XArg (F : Hp) : Option Addr → Option Int → Prop
  | none, none => True
  | some dx, some i => F dx = some (.xd [(("place" : Str), V.int i)])
  | _, _ => False
def CAt (K : PySem.W.Frag) (nm : Str) (C : Addr) : Prop := PySem.W.nsIn K mainGlobals nm = some (some (.ref C))
theorem CAt.inj {K : PySem.W.Frag} {nm : Str} {C C' : Addr} (h : CAt K nm C) (h' : CAt K nm C') : C = C' := by
  unfold CAt at h h'
  rw [h] at h'
  cases h'; rfl
theorem XArg.mono {F F' : Hp} (e : Same F F') : ∀ {d : Option Addr} {i : Option Int}, XArg F d i → XArg F' d i
  | none, none, _ => trivial
  | some _, some _, h => e _ _ h
  | none, some _, h => h.elim
  | some _, none, h => h.elim
mutual
inductive Rp (K : PySem.W.Frag) (F : Hp) (cs : List Addr) : SV → V → Prop
  | p {d : PyData} {v : V} : Dq K F v d → Rp K F cs (.p d) v
  | c {n : Nat} {a : Addr} : cs[n]? = some a → Rp K F cs (.c n) (.ref a)
  | t {xs : List SV} {a : Addr} {vs : List V} : SqT K F a vs → Rps K F cs xs vs → Rp K F cs (.t xs) (.ref a)
  | ro {ns : List Int} {a : Addr} : SqL K F a (ns.map V.int) → Rp K F cs (.ro ns) (.ref a)
  | x {nm : Str} {arg : Option Int} {a C : Addr} {d : Option Addr} : CAt K nm C → F a = some (exq a (.ref C) d) → XArg F d arg → Rp K F cs (.x nm arg) (.ref a)
inductive Rps (K : PySem.W.Frag) (F : Hp) (cs : List Addr) : List SV → List V → Prop
  | nil : Rps K F cs [] []
  | cons {x : SV} {xs : List SV} {v : V} {vs : List V} : Rp K F cs x v → Rps K F cs xs vs → Rps K F cs (x :: xs) (v :: vs)
end
theorem sqT_mono {K : PySem.W.Frag} {F F' : Hp} {a : Addr} {xs : List V} (e : Same F F') (h : SqT K F a xs) : SqT K F' a xs := by
  rcases h with (h | ⟨o, h⟩) | h
  · exact .inl (.inl (e _ _ h))
  · exact .inl (.inr ⟨o, e _ _ h⟩)
  · exact .inr h
mutual
theorem dq_mono {K : PySem.W.Frag} {F F' : Hp} (e : Same F F') : ∀ (d : PyData) (v : V), Dq K F v d → Dq K F' v d
  | .none, _, h => by cases h; exact .non
  | .bool b, _, h => by cases h; exact .bl _
  | .int i, _, h => by cases h; exact .int _
  | .str x, _, h => by cases h; exact .str _
  | .list ds, _, h => by
    cases h with
    | lst hs ha => exact .lst (e _ _ hs) (dqs_mono e ds _ ha)
  | .tuple ds, _, h => by
    cases h with
    | tup hs ha => exact .tup (sqT_mono e hs) (dqs_mono e ds _ ha)
  | .dict _, _, h => by cases h
theorem dqs_mono {K : PySem.W.Frag} {F F' : Hp} (e : Same F F') : ∀ (ds : List PyData) (vs : List V), DqAll K F vs ds → DqAll K F' vs ds
  | [], _, h => by cases h; exact .nil
  | d :: ds, _, h => by
    cases h with
    | cons h1 h2 => exact .cons (dq_mono e d _ h1) (dqs_mono e ds _ h2)
end
mutual
theorem dq_dp {K : PySem.W.Frag} {F H : Hp} (e : Same F H) : ∀ (d : PyData) (v : V), Dq K F v d → Dp K H v d
  | .none, _, h => by cases h; exact .non
  | .bool b, _, h => by cases h; exact .bl _
  | .int i, _, h => by cases h; exact .int _
  | .str x, _, h => by cases h; exact .str _
  | .list ds, _, h => by
    cases h with
    | lst hs ha => exact .lst (.inl (.inl (e _ _ hs))) (dqs_dps e ds _ ha)
  | .tuple ds, _, h => by
    cases h with
    | tup hs ha => exact .tup (sqT_mono e hs) (dqs_dps e ds _ ha)
  | .dict _, _, h => by cases h
theorem dqs_dps {K : PySem.W.Frag} {F H : Hp} (e : Same F H) : ∀ (ds : List PyData) (vs : List V), DqAll K F vs ds → DpAll K H vs ds
  | [], _, h => by cases h; exact .nil
  | d :: ds, _, h => by
    cases h with
    | cons h1 h2 => exact .cons (dq_dp e d _ h1) (dqs_dps e ds _ h2)
end
theorem pre_get {α : Type} {cs cs' : List α} (h : cs <+: cs') {n : Nat} {a : α} (e : cs[n]? = some a) : cs'[n]? = some a := by
  obtain ⟨l, rfl⟩ := h
  have := (List.getElem?_eq_some_iff.mp e).1
  rw [List.getElem?_append_left this]; exact e
mutual
theorem rp_mono {K : PySem.W.Frag} {F F' : Hp} {cs cs' : List Addr} (e : Same F F') (hc : cs <+: cs') : ∀ (x : SV) (v : V), Rp K F cs x v → Rp K F' cs' x v
  | .p d, v, h => by
    cases h with
    | p h => exact .p (dq_mono e _ _ h)
  | .c n, v, h => by
    cases h with
    | c h => exact .c (pre_get hc h)
  | .t xs, v, h => by
    cases h with
    | t hs ha => exact .t (sqT_mono e hs) (rps_mono e hc xs _ ha)
  | .ro ns, v, h => by
    cases h with
    | ro h => exact .ro (e.seq h)
  | .x nm arg, v, h => by
    cases h with
    | x h1 h2 h3 => exact .x h1 (e _ _ h2) (h3.mono e)
theorem rps_mono {K : PySem.W.Frag} {F F' : Hp} {cs cs' : List Addr} (e : Same F F') (hc : cs <+: cs') : ∀ (xs : List SV) (vs : List V), Rps K F cs xs vs → Rps K F' cs' xs vs
  | [], _, h => by cases h; exact .nil
  | x :: xs, _, h => by
    cases h with
    | cons h1 h2 => exact .cons (rp_mono e hc x _ h1) (rps_mono e hc xs _ h2)
end
mutual
theorem rp_take {K : PySem.W.Frag} {F : Hp} {cs : List Addr} {k : Nat} : ∀ (x : SV) (v : V), Rp K F cs x v → x.under k = true → Rp K F (cs.take k) x v
  | .p d, v, h, _ => by
    cases h with
    | p h => exact .p h
  | .c n, v, h, b => by
    cases h with
    | c h =>
      have hn : n < k := by simpa [SV.under] using b
      exact .c (by rw [List.getElem?_take, if_pos hn]; exact h)
  | .t xs, v, h, b => by
    cases h with
    | t hs ha => exact .t hs (rps_take xs _ ha (by simpa [SV.under] using b))
  | .ro ns, v, h, b => by
    cases h with
    | ro h => exact .ro h
  | .x nm arg, v, h, b => by
    cases h with
    | x h1 h2 h3 => exact .x h1 h2 h3
theorem rps_take {K : PySem.W.Frag} {F : Hp} {cs : List Addr} {k : Nat} : ∀ (xs : List SV) (vs : List V), Rps K F cs xs vs → underAll k xs = true → Rps K F (cs.take k) xs vs
  | [], _, h, _ => by cases h; exact .nil
  | x :: xs, _, h, b => by
    cases h with
    | cons h1 h2 =>
      have hb : x.under k = true ∧ underAll k xs = true := by simpa [underAll] using b
      exact .cons (rp_take x _ h1 hb.1) (rps_take xs _ h2 hb.2)
end
mutual
theorem rp_under {K : PySem.W.Frag} {F : Hp} {cs : List Addr} : ∀ (x : SV) (v : V), Rp K F cs x v → x.under cs.length = true
  | .p d, v, h => rfl
  | .c n, v, h => by
    cases h with
    | c h =>
      have := (List.getElem?_eq_some_iff.mp h).1
      simpa [SV.under] using this
  | .t xs, v, h => by
    cases h with
    | t hs ha =>
      have := rps_under xs _ ha
      simpa [SV.under] using this
  | .ro ns, v, h => rfl
  | .x _ _, v, h => rfl
theorem rps_under {K : PySem.W.Frag} {F : Hp} {cs : List Addr} : ∀ (xs : List SV) (vs : List V), Rps K F cs xs vs → underAll cs.length xs = true
  | [], _, h => rfl
  | x :: xs, _, h => by
    cases h with
    | cons h1 h2 => simp [underAll, rp_under x _ h1, rps_under xs _ h2]
end
theorem Rps.length {K : PySem.W.Frag} {F : Hp} {cs : List Addr} : ∀ {xs : List SV} {vs : List V}, Rps K F cs xs vs → xs.length = vs.length
  | [], _, h => by cases h; rfl
  | x :: xs, _, h => by
    cases h with
    | cons h1 h2 => simp [Rps.length h2]
theorem Rps.get {K : PySem.W.Frag} {F : Hp} {cs : List Addr} : ∀ {xs : List SV} {vs : List V} {i : Nat} {x : SV}, Rps K F cs xs vs → xs[i]? = some x → ∃ v, vs[i]? = some v ∧ Rp K F cs x v
  | [], _, i, x, h, e => by simp at e
  | y :: xs, _, 0, x, h, e => by
    cases h with
    | cons h1 h2 => simp at e; subst e; exact ⟨_, rfl, h1⟩
  | y :: xs, _, i + 1, x, h, e => by
    cases h with
    | cons h1 h2 =>
      obtain ⟨v, e1, e2⟩ := Rps.get (i := i) h2 (by simpa using e)
      exact ⟨v, by simpa using e1, e2⟩
theorem Rps.append {K : PySem.W.Frag} {F : Hp} {cs : List Addr} : ∀ {xs ys : List SV} {vs ws : List V}, Rps K F cs xs vs → Rps K F cs ys ws → Rps K F cs (xs ++ ys) (vs ++ ws)
  | [], _, _, _, h, h' => by cases h; exact h'
  | x :: xs, _, _, _, h, h' => by
    cases h with
    | cons h1 h2 => exact .cons h1 (Rps.append h2 h')
theorem Rps.set {K : PySem.W.Frag} {F : Hp} {cs : List Addr} {y : SV} {w : V} (hy : Rp K F cs y w) : ∀ {xs : List SV} {vs : List V} (i : Nat), Rps K F cs xs vs → Rps K F cs (xs.set i y) (vs.set i w)
  | [], _, _, h => by cases h; exact .nil
  | x :: xs, _, 0, h => by
    cases h with
    | cons h1 h2 => exact .cons hy h2
  | x :: xs, _, i + 1, h => by
    cases h with
    | cons h1 h2 => exact .cons h1 (Rps.set hy i h2)
theorem Rps.take {K : PySem.W.Frag} {F : Hp} {cs : List Addr} : ∀ {xs : List SV} {vs : List V} (n : Nat), Rps K F cs xs vs → Rps K F cs (xs.take n) (vs.take n)
  | _, _, 0, _ => .nil
  | [], _, _ + 1, h => by cases h; exact .nil
  | x :: xs, _, n + 1, h => by
    cases h with
    | cons h1 h2 => exact .cons h1 (Rps.take n h2)
theorem Rps.drop {K : PySem.W.Frag} {F : Hp} {cs : List Addr} : ∀ {xs : List SV} {vs : List V} (n : Nat), Rps K F cs xs vs → Rps K F cs (xs.drop n) (vs.drop n)
  | _, _, 0, h => h
  | [], _, _ + 1, h => by cases h; exact .nil
  | x :: xs, _, n + 1, h => by
    cases h with
    | cons h1 h2 => exact Rps.drop n h2
theorem rps_p {K : PySem.W.Frag} {F : Hp} {cs : List Addr} : ∀ {ds : List PyData} {vs : List V}, Rps K F cs (ds.map SV.p) vs ↔ DqAll K F vs ds
  | [], vs => ⟨fun h => by cases h; exact .nil, fun h => by cases h; exact .nil⟩
  | d :: ds, vs => ⟨fun h => by
      cases h with
      | cons h1 h2 =>
        cases h1 with
        | p h1 => exact .cons h1 (rps_p.mp h2), fun h => by
      cases h with
      | cons h1 h2 => exact .cons (.p h1) (rps_p.mpr h2)⟩
def CellAt (K : PySem.W.Frag) (F : Hp) (cs : List Addr) (H : Hp) (a : Addr) : MO → Prop
  | .lst xs => ∃ vs, H a = some (.lst vs) ∧ Rps K F cs xs vs
  | .dct kvs => ∃ kws : List (Key × V), H a = some (.dK kws) ∧ kws.map (·.1) = kvs.map (·.1) ∧ Rps K F cs (kvs.map (·.2)) (kws.map (·.2))
  | .ins C fs => ∃ (A dx : Addr) (gs : List (Str × V)), CAt K C A ∧ H a = some (.ins A dx gs) ∧ gs.map (·.1) = fs.map (·.1) ∧ Rps K F cs (fs.map (·.2)) (gs.map (·.2))
structure HS (K : PySem.W.Frag) (F : Hp) (cs : List Addr) (H : Hp) (st : Store) : Prop where
  sub : Same F H
  len : cs.length = st.length
  nd : cs.Nodup
  free : ∀ a ∈ cs, F a = none
  cell : ∀ (n : Nat) (a : Addr) (o : MO), cs[n]? = some a → st[n]? = some o → CellAt K F cs H a o
structure EK (K : PySem.W.Frag) (F : Hp) (cs : List Addr) (σ : L2.St) (env : Env) : Prop where
  len : env.length = σ.length
  slot : ∀ (i : Nat) (d : SV), env[i]? = some (some d) → ∃ v, σ[i]? = some (some v) ∧ Rp K F cs d v
section
variable {K : PySem.W.Frag} {F F' : Hp} {cs cs' : List Addr} {H : Hp} {st : Store} {σ : L2.St} {env : Env}
theorem EK.mono (h : EK K F cs σ env) (e : Same F F') (hc : cs <+: cs') : EK K F' cs' σ env :=
  ⟨h.len, fun i d q => by obtain ⟨v, a, b⟩ := h.slot i d q; exact ⟨v, a, rp_mono e hc _ _ b⟩⟩
theorem EK.set (h : EK K F cs σ env) {i : Nat} {d : SV} {v : V} (r : Rp K F cs d v) : EK K F cs (σ.set i (some v)) (env.set i (some d)) := by
  refine ⟨by simp [h.len], fun j d' q => ?_⟩
  by_cases hj : i = j
  · subst hj
    by_cases hl : i < env.length
    · rw [List.getElem?_set_self hl] at q
      cases q
      exact ⟨v, List.getElem?_set_self (by rw [← h.len]; exact hl), r⟩
    · rw [List.getElem?_eq_none (by simp; omega)] at q; cases q
  · rw [List.getElem?_set_ne hj] at q
    obtain ⟨w, a, b⟩ := h.slot j d' q
    exact ⟨w, by rw [List.getElem?_set_ne hj]; exact a, b⟩
theorem CellAt.there {a : Addr} {o : MO} (h : CellAt K F cs H a o) : ∃ x, H a = some x := by
  cases o with
  | lst xs => obtain ⟨vs, e, _⟩ := h; exact ⟨_, e⟩
  | dct kvs => obtain ⟨vs, e, _⟩ := h; exact ⟨_, e⟩
  | ins C fs => obtain ⟨A, dx, gs, _, e, _⟩ := h; exact ⟨_, e⟩
theorem CellAt.mono {a : Addr} {o : MO} {H' : Hp} (h : CellAt K F cs H a o) (e : Same F F') (hc : cs <+: cs') (hH : H' a = H a) : CellAt K F' cs' H' a o := by
  cases o with
  | lst xs => obtain ⟨vs, q, r⟩ := h; exact ⟨vs, hH.trans q, rps_mono e hc _ _ r⟩
  | dct kvs => obtain ⟨vs, q, q2, r⟩ := h; exact ⟨vs, hH.trans q, q2, rps_mono e hc _ _ r⟩
  | ins C fs => obtain ⟨A, dx, gs, q0, q, q2, r⟩ := h; exact ⟨A, dx, gs, q0, hH.trans q, q2, rps_mono e hc _ _ r⟩
theorem CellAt.take {a : Addr} {o : MO} {k : Nat} (h : CellAt K F cs H a o) (b : o.under k = true) : CellAt K F (cs.take k) H a o := by
  cases o with
  | lst xs => obtain ⟨vs, q, r⟩ := h; exact ⟨vs, q, rps_take _ _ r b⟩
  | dct kvs => obtain ⟨vs, q, q2, r⟩ := h; exact ⟨vs, q, q2, rps_take _ _ r b⟩
  | ins C fs => obtain ⟨A, dx, gs, q0, q, q2, r⟩ := h; exact ⟨A, dx, gs, q0, q, q2, rps_take _ _ r b⟩
theorem HS.at (h : HS K F cs H st) {n : Nat} {o : MO} (e : st[n]? = some o) : ∃ a, cs[n]? = some a ∧ F a = none ∧ CellAt K F cs H a o := by
  have hn := (List.getElem?_eq_some_iff.mp e).1
  have hc : n < cs.length := by rw [h.len]; exact hn
  have q : cs[n]? = some cs[n] := List.getElem?_eq_getElem hc
  exact ⟨_, q, h.free _ (List.mem_of_getElem? q), h.cell n _ o q e⟩
theorem HS.there (h : HS K F cs H st) {a : Addr} (m : a ∈ cs) : ∃ x, H a = some x := by
  obtain ⟨n, q⟩ := List.getElem?_of_mem m
  have hn := (List.getElem?_eq_some_iff.mp q).1
  exact (h.cell n a _ q (List.getElem?_eq_getElem (by rw [← h.len]; exact hn))).there
theorem HS.wf (h : HS K F cs H st) : Wf st := fun o m => by
  obtain ⟨n, q⟩ := List.getElem?_of_mem m
  obtain ⟨a, _, _, r⟩ := h.at q
  rw [← h.len]
  cases o with
  | lst xs => obtain ⟨vs, _, r⟩ := r; exact rps_under _ _ r
  | dct kvs => obtain ⟨vs, _, _, r⟩ := r; exact rps_under _ _ r
  | ins C fs => obtain ⟨A, dx, gs, _, _, _, r⟩ := r; exact rps_under _ _ r
theorem same_new {p : Addr} {o : HO} (h : H p = none) : Same H (upd H p o) := fun b x e => by
  rw [upd_ne (ne_of_none e h)]; exact e
theorem HS.pure (h : HS K F cs H st) {p : Addr} {o : HO} (hp : H p = none) : Same F (upd F p o) ∧ HS K (upd F p o) cs (upd H p o) st := by
  have fp : F p = none := h.sub.free hp
  have s1 : Same F (upd F p o) := same_new fp
  have ne : ∀ a ∈ cs, a ≠ p := fun a m e => by
    obtain ⟨x, q⟩ := h.there m
    rw [e, hp] at q; cases q
  refine ⟨s1, ⟨fun b x e => ?_, h.len, h.nd, fun a m => by rw [upd_ne (ne a m)]; exact h.free a m, fun n a o' q1 q2 => ?_⟩⟩
  · by_cases hb : b = p
    · subst hb; rw [upd_same] at e; rw [upd_same]; exact e
    · rw [upd_ne hb] at e; rw [upd_ne hb]; exact h.sub _ _ e
  · exact (h.cell n a o' q1 q2).mono s1 (List.prefix_refl _) (upd_ne (ne a (List.mem_of_getElem? q1)))
theorem HS.junk (h : HS K F cs H st) {p : Addr} {o : HO} (hp : H p = none) : HS K F cs (upd H p o) st := by
  have ne : ∀ a ∈ cs, a ≠ p := fun a m e => by
    obtain ⟨x, q⟩ := h.there m
    rw [e, hp] at q; cases q
  refine ⟨fun b x e => ?_, h.len, h.nd, h.free, fun n a o' q1 q2 => ?_⟩
  · rw [upd_ne (ne_of_none (h.sub _ _ e) hp)]; exact h.sub _ _ e
  · exact (h.cell n a o' q1 q2).mono (Same.refl _) (List.prefix_refl _) (upd_ne (ne a (List.mem_of_getElem? q1)))
theorem HS.new (h : HS K F cs H st) {p : Addr} {o : HO} {m : MO} (hp : H p = none) (hm : CellAt K F (cs ++ [p]) (upd H p o) p m) : HS K F (cs ++ [p]) (upd H p o) (st ++ [m]) := by
  have ne : ∀ a ∈ cs, a ≠ p := fun a m e => by
    obtain ⟨x, q⟩ := h.there m
    rw [e, hp] at q; cases q
  refine ⟨fun b x e => ?_, by simp [h.len], ?_, fun a m => ?_, fun n a o' q1 q2 => ?_⟩
  · rw [upd_ne (ne_of_none (h.sub _ _ e) hp)]; exact h.sub _ _ e
  · rw [List.nodup_append]
    exact ⟨h.nd, by simp, fun a ha b hb e => by simp at hb; exact ne a ha (e.trans hb)⟩
  · rcases List.mem_append.mp m with m | m
    · exact h.free a m
    · simp at m; rw [m]; exact h.sub.free hp
  · by_cases hn : n < cs.length
    · rw [List.getElem?_append_left hn] at q1
      rw [List.getElem?_append_left (by rw [← h.len]; exact hn)] at q2
      exact (h.cell n a o' q1 q2).mono (Same.refl _) (List.prefix_append _ _) (upd_ne (ne a (List.mem_of_getElem? q1)))
    · rw [List.getElem?_append_right (by omega)] at q1
      rw [List.getElem?_append_right (by rw [← h.len]; omega)] at q2
      rw [h.len] at q1
      cases hk : n - st.length with
      | zero =>
        rw [hk] at q1 q2
        simp at q1 q2
        subst q1 q2
        exact hm
      | succ k => rw [hk] at q1; simp at q1
theorem HS.write (h : HS K F cs H st) {n : Nat} {a : Addr} {o : HO} {m : MO} (q : cs[n]? = some a) (hm : CellAt K F cs (upd H a o) a m) : HS K F cs (upd H a o) (st.set n m) := by
  have ha : a ∈ cs := List.mem_of_getElem? q
  refine ⟨fun b x e => ?_, by simp [h.len], h.nd, h.free, fun k b o' q1 q2 => ?_⟩
  · have : b ≠ a := fun z => by rw [z, h.free a ha] at e; cases e
    rw [upd_ne this]; exact h.sub _ _ e
  · by_cases hk : n = k
    · subst hk
      rw [q] at q1; cases q1
      rw [List.getElem?_set_self (by rw [← h.len]; exact (List.getElem?_eq_some_iff.mp q).1)] at q2
      cases q2
      exact hm
    · rw [List.getElem?_set_ne hk] at q2
      have : b ≠ a := fun z => hk (nodup_ix' h.nd q (z ▸ q1))
      exact (h.cell k b o' q1 q2).mono (Same.refl _) (List.prefix_refl _) (upd_ne this)
where
  nodup_ix' {N : List Addr} (hN : N.Nodup) {i j : Nat} {x : Addr} (a : N[i]? = some x) (b : N[j]? = some x) : i = j := by
    obtain ⟨h1, e1⟩ := List.getElem?_eq_some_iff.mp a
    obtain ⟨h2, e2⟩ := List.getElem?_eq_some_iff.mp b
    exact (List.getElem_inj hN).mp (e1.trans e2.symm)
theorem HS.cut (h : HS K F cs H st) {k : Nat} (w : Wf (st.take k)) (hk : k ≤ st.length) : HS K F (cs.take k) H (st.take k) := by
  refine ⟨h.sub, by simp [h.len], h.nd.sublist (List.take_sublist _ _), fun a m => h.free a (List.mem_of_mem_take m), fun n a o q1 q2 => ?_⟩
  have b := w o (List.mem_of_getElem? q2)
  have hl : (st.take k).length = k := by simp; omega
  rw [hl] at b
  rw [List.getElem?_take] at q1 q2
  split at q1
  · rename_i hn
    rw [if_pos hn] at q2
    exact (h.cell n a o q1 q2).take b
  · cases q1
def Weak (k : Nat) (e e' : Env) : Prop := e'.length = e.length ∧ ∀ (i : Nat) (d : SV), e'[i]? = some (some d) → e[i]? = some (some d) ∧ d.under k = true
theorem EK.cut (h : EK K F cs σ env) {k : Nat} {env' : Env} (w : Weak k env env') : EK K F (cs.take k) σ env' :=
  ⟨w.1.trans h.len, fun i d q => by
    obtain ⟨q1, b⟩ := w.2 i d q
    obtain ⟨v, q2, r⟩ := h.slot i d q1
    exact ⟨v, q2, rp_take _ _ r b⟩⟩
theorem pre_take {cs0 cs : List Addr} {k : Nat} (h : cs0 <+: cs) (hk : cs0.length ≤ k) : cs0 <+: cs.take k := by
  obtain ⟨l, rfl⟩ := h
  rw [List.take_append]
  rw [List.take_of_length_le hk]
  exact List.prefix_append _ _
end
abbrev RX := Str → Option Int → Env → Store → Prop
structure XM extends Cx where
  rx : RX
instance : Coe XM Cx := ⟨XM.toCx⟩
def Est (X : Cx) : WX := fun cls d σ H => ∀ u s', XE X (fun c' d' σ' H' => c' = cls ∧ d' = d ∧ σ' = σ ∧ H' = H) u s' → X.xe u s'
theorem est_takes (X : Cx) : Takes X (Est X) := fun u s' ⟨a, B, sI, pins, σ, H, cls, d, e, I, nb, up, sky, na, os, ag, w⟩ =>
  w u s' ⟨a, B, sI, pins, σ, H, cls, d, e, I, nb, up, sky, na, os, ag, rfl, rfl, rfl, rfl⟩
def XP (X : XM) (F : Hp) (cs : List Addr) : Prop := ∀ (F' : Hp) (cs' : List Addr) (σ' : L2.St) (env' : Env) (H' : Hp) (st' : Store) (nm : Str) (arg : Option Int) (C : Addr) (d : Option Addr), Same F F' → cs <+: cs' → EK X.K F' cs' σ' env' → HS X.K F' cs' H' st' →
  CAt X.K nm C → XArg F' d arg → X.rx nm arg env' st' → Est X.toCx (.ref C) d σ' H'
theorem XP.mono {X : XM} {F F' : Hp} {cs cs' : List Addr} (h : XP X F cs) (e : Same F F') (hc : cs <+: cs') : XP X F' cs' := fun F1 c1 σ1 e1 H1 s1 nm arg C d a b => h F1 c1 σ1 e1 H1 s1 nm arg C d (e.trans a) (hc.trans b)
theorem XP.none {X : XM} {F : Hp} {cs : List Addr} (h : ∀ nm arg e s, ¬ X.rx nm arg e s) : XP X F cs := fun _ _ _ e _ s nm arg _ _ _ _ _ _ _ _ q => absurd q (h nm arg e s)
structure ER (X : XM) (F : Hp) (cs : List Addr) (σ : L2.St) (env : Env) : Prop where
  k : EK X.K F cs σ env
  xp : XP X F cs
section
variable {X : XM} {F F' : Hp} {cs cs' : List Addr} {σ : L2.St} {env : Env}
theorem ER.len (h : ER X F cs σ env) : env.length = σ.length := h.k.len
theorem ER.slot (h : ER X F cs σ env) : ∀ (i : Nat) (d : SV), env[i]? = some (some d) → ∃ v, σ[i]? = some (some v) ∧ Rp X.K F cs d v := h.k.slot
theorem ER.mono (h : ER X F cs σ env) (e : Same F F') (hc : cs <+: cs') : ER X F' cs' σ env := ⟨h.k.mono e hc, h.xp.mono e hc⟩
theorem ER.set (h : ER X F cs σ env) {i : Nat} {d : SV} {v : V} (r : Rp X.K F cs d v) : ER X F cs (σ.set i (some v)) (env.set i (some d)) := ⟨h.k.set r, h.xp⟩
end
abbrev WE := Env → Store → (SV → Store → Prop) → Prop
abbrev WT := Env → Store → (Bool → Store → Prop) → Prop
abbrev WA := Env → Store → (List SV → Store → Prop) → Prop
structure ME where
  nx : Env → Store → Prop
  rt : SV → Store → Prop
  bk : Env → Store → Prop := fun _ _ => False
  ct : Env → Store → Prop := fun _ _ => False
  base : Nat
abbrev WS := ME → Env → Store → Prop
def Post (X : XM) (F : Hp) (cs : List Addr) (Q : SV → Store → Prop) : VK := fun v H' => ∃ F' cs' d st', Same F F' ∧ cs <+: cs' ∧ HS X.K F' cs' H' st' ∧ Rp X.K F' cs' d v ∧ Q d st'
def PostT (X : XM) (F : Hp) (cs : List Addr) (Q : Bool → Store → Prop) : Bool → Hp → Prop := fun b H' => ∃ F' cs' st', Same F F' ∧ cs <+: cs' ∧ HS X.K F' cs' H' st' ∧ Q b st'
def PostA (X : XM) (F : Hp) (cs : List Addr) (Q : List SV → Store → Prop) : List V → Hp → Prop := fun vs H' => ∃ F' cs' ds st', Same F F' ∧ cs <+: cs' ∧ HS X.K F' cs' H' st' ∧ Rps X.K F' cs' ds vs ∧ Q ds st'
structure SE (X : XM) (e : Expr) (w : WE) : Prop where
  run : ∃ t, PE X e t ∧ ∀ (F : Hp) (cs : List Addr) (σ : L2.St) (H : Hp) (env : Env) (st : Store) (Q : SV → Store → Prop) (R : VK), ER X F cs σ env → HS X.K F cs H st → w env st Q →
    (∀ v H', Post X F cs Q v H' → R v H') → t σ H R
structure STt (X : XM) (e : Expr) (w : WT) : Prop where
  run : ∃ t, PT X e t ∧ ∀ (F : Hp) (cs : List Addr) (σ : L2.St) (H : Hp) (env : Env) (st : Store) (Q : Bool → Store → Prop) (R : Bool → Hp → Prop), ER X F cs σ env → HS X.K F cs H st → w env st Q →
    (∀ b H', PostT X F cs Q b H' → R b H') → t σ H R
structure STw (X : XM) (e : Expr) (w : WT) : Prop where
  run : ∃ t, PW X e t ∧ ∀ (F : Hp) (cs : List Addr) (σ : L2.St) (H : Hp) (env : Env) (st : Store) (Q : Bool → Store → Prop) (R : Bool → Hp → Prop), ER X F cs σ env → HS X.K F cs H st → w env st Q →
    (∀ b H', PostT X F cs Q b H' → R b H') → t σ H R
structure SA (X : XM) (es : List Expr) (w : WA) : Prop where
  run : ∃ t, PA X es t ∧ ∀ (F : Hp) (cs : List Addr) (σ : L2.St) (H : Hp) (env : Env) (st : Store) (Q : List SV → Store → Prop) (R : List V → Hp → Prop), ER X F cs σ env → HS X.K F cs H st → w env st Q →
    (∀ v H', PostA X F cs Q v H' → R v H') → t σ H R
structure Good (X : XM) (F : Hp) (cs0 : List Addr) (D : ME) (E : Ends) : Prop where
  nx : ∀ F' cs' σ' H' env' st', Same F F' → cs0 <+: cs' → ER X F' cs' σ' env' → HS X.K F' cs' H' st' → D.nx env' st' → E.nx σ' H'
  rt : ∀ F' cs' H' st' d v, Same F F' → cs0 <+: cs' → HS X.K F' cs' H' st' → Rp X.K F' cs' d v → D.rt d st' → E.rt v H'
  bk : ∀ F' cs' σ' H' env' st', Same F F' → cs0 <+: cs' → ER X F' cs' σ' env' → HS X.K F' cs' H' st' → D.bk env' st' → E.bk σ' H'
  ct : ∀ F' cs' σ' H' env' st', Same F F' → cs0 <+: cs' → ER X F' cs' σ' env' → HS X.K F' cs' H' st' → D.ct env' st' → E.ct σ' H'
  xp : XP X F cs0
structure SS (X : XM) (s : Stmt) (w : WS) : Prop where
  run : ∃ t, PS X s t ∧ ∀ (F : Hp) (cs0 cs : List Addr) (σ : L2.St) (H : Hp) (env : Env) (st : Store) (D : ME) (E : Ends), cs0 <+: cs → cs0.length = D.base → ER X F cs σ env → HS X.K F cs H st → w D env st → Good X F cs0 D E → t E σ H
structure SSs (X : XM) (s : List Stmt) (w : WS) : Prop where
  run : ∃ t, PSs X s t ∧ ∀ (F : Hp) (cs0 cs : List Addr) (σ : L2.St) (H : Hp) (env : Env) (st : Store) (D : ME) (E : Ends), cs0 <+: cs → cs0.length = D.base → ER X F cs σ env → HS X.K F cs H st → w D env st → Good X F cs0 D E → t E σ H
section
variable {X : XM} {F F' : Hp} {cs cs' cs0 : List Addr}
theorem Good.mono {D : ME} {E : Ends} (g : Good X F cs0 D E) (s : Same F F') : Good X F' cs0 D E :=
  ⟨fun F1 c1 σ1 H1 e1 s1 a => g.nx F1 c1 σ1 H1 e1 s1 (s.trans a), fun F1 c1 H1 s1 d v a => g.rt F1 c1 H1 s1 d v (s.trans a), fun F1 c1 σ1 H1 e1 s1 a => g.bk F1 c1 σ1 H1 e1 s1 (s.trans a), fun F1 c1 σ1 H1 e1 s1 a => g.ct F1 c1 σ1 H1 e1 s1 (s.trans a), g.xp.mono s (List.prefix_refl _)⟩
theorem Post.mk {Q : SV → Store → Prop} {v : V} {H : Hp} {d : SV} {st : Store} (h : HS X.K F cs H st) (r : Rp X.K F cs d v) (q : Q d st) : Post X F cs Q v H := ⟨F, cs, d, st, Same.refl _, List.prefix_refl _, h, r, q⟩
theorem Post.up {Q : SV → Store → Prop} {v : V} {H : Hp} (s : Same F F') (hc : cs <+: cs') (h : Post X F' cs' Q v H) : Post X F cs Q v H := by
  obtain ⟨F1, c1, d, st, a, b, c, e, f⟩ := h
  exact ⟨F1, c1, d, st, s.trans a, hc.trans b, c, e, f⟩
theorem PostT.up {Q : Bool → Store → Prop} {v : Bool} {H : Hp} (s : Same F F') (hc : cs <+: cs') (h : PostT X F' cs' Q v H) : PostT X F cs Q v H := by
  obtain ⟨F1, c1, st, a, b, c, f⟩ := h
  exact ⟨F1, c1, st, s.trans a, hc.trans b, c, f⟩
theorem PostA.up {Q : List SV → Store → Prop} {v : List V} {H : Hp} (s : Same F F') (hc : cs <+: cs') (h : PostA X F' cs' Q v H) : PostA X F cs Q v H := by
  obtain ⟨F1, c1, d, st, a, b, c, e, f⟩ := h
  exact ⟨F1, c1, d, st, s.trans a, hc.trans b, c, e, f⟩
theorem PostT.mk {Q : Bool → Store → Prop} {b : Bool} {H : Hp} {st : Store} (h : HS X.K F cs H st) (q : Q b st) : PostT X F cs Q b H := ⟨F, cs, st, Same.refl _, List.prefix_refl _, h, q⟩
end
end M


namespace M
open PySem PySem.Spec PyProof.Rows L2
section
variable {X : XM}
def wVar (i : Nat) : WE := fun env st Q => ∃ d, env[i]? = some (some d) ∧ Q d st
def wC (d : SV) : WE := fun _ st Q => Q d st
theorem se_var (i : Nat) {x : Str} {pos : Pos} (hN : X.N[i]? = some x := by rfl) (hv : Vis X.env.scope x := by first | exact Or.inl rfl | exact Or.inr (Or.inl rfl) | exact Or.inr (Or.inr rfl)) (hd : (x == ("__debug__" : Str)) = false := by decide)
    (hcd : (x == ("__classdict__" : Str)) = false := by decide) : SE X (.Name x pos) (wVar i) :=
  ⟨_, pe_var hN hv hd hcd, fun F cs σ H env st Q R er hs h k => by
    obtain ⟨d, e, q⟩ := h
    obtain ⟨v, e2, r⟩ := er.slot i d e
    exact ⟨v, e2, k _ _ (.mk hs r q)⟩⟩
theorem se_int {i j pos} : SE X (.Constant (.int i) j pos) (wC (.p (.int i))) := ⟨_, pe_int, fun F cs σ H env st Q R er hs h k => k _ _ (.mk hs (.p (.int _)) h)⟩
theorem se_bl {b j pos} : SE X (.Constant (.bool b) j pos) (wC (.p (.bool b))) := ⟨_, pe_bl, fun F cs σ H env st Q R er hs h k => k _ _ (.mk hs (.p (.bl _)) h)⟩
theorem se_non {j pos} : SE X (.Constant .none j pos) (wC (.p .none)) := ⟨_, pe_non, fun F cs σ H env st Q R er hs h k => k _ _ (.mk hs (.p .non) h)⟩
theorem se_str {x j pos} : SE X (.Constant (.str x) j pos) (wC (.p (.str x))) := ⟨_, pe_str, fun F cs σ H env st Q R er hs h k => k _ _ (.mk hs (.p (.str _)) h)⟩
abbrev M2 := SV → SV → Store → (SV → Store → Prop) → Prop
def OpM (X : XM) (f : Value → Value → Sem Value) (m : M2) : Prop :=
  ∃ r : R2, OpR X f r ∧ ∀ (F : Hp) (cs : List Addr) (H : Hp) (st : Store) (x y : SV) (v u : V) (Q : SV → Store → Prop) (R : VK), HS X.K F cs H st → Rp X.K F cs x v → Rp X.K F cs y u → m x y st Q → (∀ v H', Post X F cs Q v H' → R v H') → r v u H R
def wOp (m : M2) (wa wb : WE) : WE := fun env st Q => wa env st fun x s1 => wb env s1 fun y s2 => m x y s2 Q
variable {a b c : Expr} {wa wb wc : WE} {pos : Pos}
theorem rp_up {K : PySem.W.Frag} {F F' : Hp} {cs cs' : List Addr} {x : SV} {v : V} (r : Rp K F cs x v) (e : Same F F') (hc : cs <+: cs') : Rp K F' cs' x v := rp_mono e hc x v r
theorem bin_run {ta tb : TE} {F : Hp} {cs : List Addr} {σ : L2.St} {H : Hp} {env : M.Env} {st : Store} {r : R2} {m : M2} {Q : SV → Store → Prop} {R : VK}
    (ha : ∀ (F : Hp) (cs : List Addr) (σ : L2.St) (H : Hp) (env : M.Env) (st : Store) (Q : SV → Store → Prop) (R : VK), ER X F cs σ env → HS X.K F cs H st → wa env st Q → (∀ v H', Post X F cs Q v H' → R v H') → ta σ H R)
    (hb : ∀ (F : Hp) (cs : List Addr) (σ : L2.St) (H : Hp) (env : M.Env) (st : Store) (Q : SV → Store → Prop) (R : VK), ER X F cs σ env → HS X.K F cs H st → wb env st Q → (∀ v H', Post X F cs Q v H' → R v H') → tb σ H R)
    (hr : ∀ (F : Hp) (cs : List Addr) (H : Hp) (st : Store) (x y : SV) (v u : V) (Q : SV → Store → Prop) (R : VK), HS X.K F cs H st → Rp X.K F cs x v → Rp X.K F cs y u → m x y st Q → (∀ v H', Post X F cs Q v H' → R v H') → r v u H R)
    (er : ER X F cs σ env) (hs : HS X.K F cs H st) (h : wOp m wa wb env st Q) (k : ∀ v H', Post X F cs Q v H' → R v H') : tOp r ta tb σ H R := by
  refine ha F cs σ H env st _ _ er hs h fun v H1 ⟨F1, cs1, d1, st1, s1, c1, hs1, r1, q1⟩ => ?_
  refine hb F1 cs1 σ H1 env st1 _ _ (er.mono s1 c1) hs1 q1 fun u H2 ⟨F2, cs2, d2, st2, s2, c2, hs2, r2, q2⟩ => ?_
  exact hr F2 cs2 H2 st2 d1 d2 v u Q R hs2 (rp_up r1 s2 c2) r2 q2 fun v H' p => k v H' ((p.up s2 c2).up s1 c1)
theorem se_op {op : Operator} {m : M2} (ho : OpM X (binaryOp op) m) (ha : SE X a wa) (hb : SE X b wb) : SE X (.BinOp a op b pos) (wOp m wa wb) := by
  obtain ⟨r, hr, hm⟩ := ho
  obtain ⟨ta, pa, ka⟩ := ha
  obtain ⟨tb, pb, kb⟩ := hb
  exact ⟨_, pe_op hr pa pb, fun F cs σ H env st Q R er hs h k => bin_run ka kb hm er hs h k⟩
theorem se_cmp {op : CmpOp} {m : M2} (ho : OpM X (compareOp op) m) (ha : SE X a wa) (hb : SE X b wb) (hmk : behindInMarks op b = false := by first | exact nomark _ | rfl) : SE X (.Compare a [op] [b] pos) (wOp m wa wb) := by
  obtain ⟨r, hr, hm⟩ := ho
  obtain ⟨ta, pa, ka⟩ := ha
  obtain ⟨tb, pb, kb⟩ := hb
  exact ⟨_, pe_cmpR hr pa pb hmk, fun F cs σ H env st Q R er hs h k => bin_run ka kb hm er hs h k⟩
def wTest (w : WE) : WT := fun env st Q => w env st fun d s => ∃ k, d = .p (.bool k) ∧ Q k s
theorem rp_bool {K : PySem.W.Frag} {F : Hp} {cs : List Addr} {k : Bool} {v : V} (r : Rp K F cs (.p (.bool k)) v) : v = .bl k := by
  cases r with
  | p r => cases r; rfl
theorem rp_int {K : PySem.W.Frag} {F : Hp} {cs : List Addr} {k : Int} {v : V} (r : Rp K F cs (.p (.int k)) v) : v = .int k := by
  cases r with
  | p r => cases r; rfl
theorem rp_str {K : PySem.W.Frag} {F : Hp} {cs : List Addr} {k : Str} {v : V} (r : Rp K F cs (.p (.str k)) v) : v = .str k := by
  cases r with
  | p r => cases r; rfl
theorem rp_none {K : PySem.W.Frag} {F : Hp} {cs : List Addr} {v : V} (r : Rp K F cs (.p .none) v) : v = .non := by
  cases r with
  | p r => cases r; rfl
theorem st_cmp {op : CmpOp} {m : M2} (ho : OpM X (compareOp op) m) (ha : SE X a wa) (hb : SE X b wb) (hmk : behindInMarks op b = false := by first | exact nomark _ | rfl) : STt X (.Compare a [op] [b] pos) (wTest (wOp m wa wb)) := by
  obtain ⟨r, hr, hm⟩ := ho
  obtain ⟨ta, pa, ka⟩ := ha
  obtain ⟨tb, pb, kb⟩ := hb
  refine ⟨_, pt_cmpR hr pa pb hmk, fun F cs σ H env st Q R er hs h k => bin_run ka kb hm er hs h ?_⟩
  rintro v H' ⟨F1, c1, d, s1, e1, e2, h1, r1, b', rfl, q⟩
  exact ⟨b', rp_bool r1, k _ _ ⟨F1, c1, s1, e1, e2, h1, q⟩⟩
def wChain (m m' : M2) (wa wb wc : WE) : WE := fun env st Q => wa env st fun x s1 => wb env s1 fun y s2 => m x y s2 fun z s3 => ∃ k, z = .p (.bool k) ∧ if k = true then wc env s3 fun w s4 => m' y w s4 Q else Q (.p (.bool false)) s3
theorem chain_run {ta tb tc : TE} {F : Hp} {cs : List Addr} {σ : L2.St} {H : Hp} {env : M.Env} {st : Store} {r r' : R2} {m m' : M2} {Q : SV → Store → Prop} {R : VK}
    (ha : ∀ (F : Hp) (cs : List Addr) (σ : L2.St) (H : Hp) (env : M.Env) (st : Store) (Q : SV → Store → Prop) (R : VK), ER X F cs σ env → HS X.K F cs H st → wa env st Q → (∀ v H', Post X F cs Q v H' → R v H') → ta σ H R)
    (hb : ∀ (F : Hp) (cs : List Addr) (σ : L2.St) (H : Hp) (env : M.Env) (st : Store) (Q : SV → Store → Prop) (R : VK), ER X F cs σ env → HS X.K F cs H st → wb env st Q → (∀ v H', Post X F cs Q v H' → R v H') → tb σ H R)
    (hc : ∀ (F : Hp) (cs : List Addr) (σ : L2.St) (H : Hp) (env : M.Env) (st : Store) (Q : SV → Store → Prop) (R : VK), ER X F cs σ env → HS X.K F cs H st → wc env st Q → (∀ v H', Post X F cs Q v H' → R v H') → tc σ H R)
    (hr : ∀ (F : Hp) (cs : List Addr) (H : Hp) (st : Store) (x y : SV) (v u : V) (Q : SV → Store → Prop) (R : VK), HS X.K F cs H st → Rp X.K F cs x v → Rp X.K F cs y u → m x y st Q → (∀ v H', Post X F cs Q v H' → R v H') → r v u H R)
    (hr' : ∀ (F : Hp) (cs : List Addr) (H : Hp) (st : Store) (x y : SV) (v u : V) (Q : SV → Store → Prop) (R : VK), HS X.K F cs H st → Rp X.K F cs x v → Rp X.K F cs y u → m' x y st Q → (∀ v H', Post X F cs Q v H' → R v H') → r' v u H R)
    (er : ER X F cs σ env) (hs : HS X.K F cs H st) (h : wChain m m' wa wb wc env st Q) (k : ∀ v H', Post X F cs Q v H' → R v H') : tChain r r' ta tb tc σ H R := by
  refine ha F cs σ H env st _ _ er hs h fun v H1 ⟨F1, cs1, d1, st1, s1, c1, hs1, r1, q1⟩ => ?_
  refine hb F1 cs1 σ H1 env st1 _ _ (er.mono s1 c1) hs1 q1 fun u H2 ⟨F2, cs2, d2, st2, s2, c2, hs2, r2, q2⟩ => ?_
  refine hr F2 cs2 H2 st2 d1 d2 v u _ _ hs2 (rp_up r1 s2 c2) r2 q2 fun z H3 ⟨F3, cs3, d3, st3, s3, c3, hs3, r3, b', e, q3⟩ => ?_
  subst e
  refine ⟨b', rp_bool r3, ?_⟩
  cases b' with
  | false =>
    rw [if_neg Bool.false_ne_true] at q3 ⊢
    exact k _ _ ⟨F3, cs3, _, st3, (s1.trans s2).trans s3, (c1.trans c2).trans c3, hs3, .p (.bl _), q3⟩
  | true =>
    rw [if_pos rfl] at q3 ⊢
    refine hc F3 cs3 σ H3 env st3 _ _ (er.mono ((s1.trans s2).trans s3) ((c1.trans c2).trans c3)) hs3 q3 fun w H4 ⟨F4, cs4, d4, st4, s4, c4, hs4, r4, q4⟩ => ?_
    exact hr' F4 cs4 H4 st4 d2 d4 u w Q R hs4 (rp_up r2 (s3.trans s4) (c3.trans c4)) r4 q4 fun v H' p => k v H' ((((p.up s4 c4).up s3 c3).up s2 c2).up s1 c1)
theorem se_chain {op op' : CmpOp} {m m' : M2} (ho : OpM X (compareOp op) m) (ho' : OpM X (compareOp op') m') (ha : SE X a wa) (hb : SE X b wb) (hc : SE X c wc)
    (hmk : lastMarks [op, op'] [b, c] = false := by with_unfolding_all rfl) : SE X (.Compare a [op, op'] [b, c] pos) (wChain m m' wa wb wc) := by
  obtain ⟨r, hr, hm⟩ := ho
  obtain ⟨r', hr', hm'⟩ := ho'
  obtain ⟨ta, pa, ka⟩ := ha
  obtain ⟨tb, pb, kb⟩ := hb
  obtain ⟨tc, pc, kc⟩ := hc
  exact ⟨_, pe_chain hr hr' pa pb pc hmk, fun F cs σ H env st Q R er hs h k => chain_run ka kb kc hm hm' er hs h k⟩
theorem st_chain {op op' : CmpOp} {m m' : M2} (ho : OpM X (compareOp op) m) (ho' : OpM X (compareOp op') m') (ha : SE X a wa) (hb : SE X b wb) (hc : SE X c wc)
    (hmk : lastMarks [op, op'] [b, c] = false := by with_unfolding_all rfl) : STt X (.Compare a [op, op'] [b, c] pos) (wTest (wChain m m' wa wb wc)) := by
  obtain ⟨r, hr, hm⟩ := ho
  obtain ⟨r', hr', hm'⟩ := ho'
  obtain ⟨ta, pa, ka⟩ := ha
  obtain ⟨tb, pb, kb⟩ := hb
  obtain ⟨tc, pc, kc⟩ := hc
  refine ⟨_, pt_chain hr hr' pa pb pc hmk, fun F cs σ H env st Q R er hs h k => chain_run ka kb kc hm hm' er hs h ?_⟩
  rintro v H' ⟨F1, c1, d, s1, e1, e2, h1, r1, b', rfl, q⟩
  exact ⟨b', rp_bool r1, k _ _ ⟨F1, c1, s1, e1, e2, h1, q⟩⟩
theorem st_val (ha : SE X a wa) (he : ∀ whole, isTrue a X.env whole = (do let v ← whole; standAt a.pos; holding [v] (truthy v)) := by intro _; rfl) : STt X a (wTest wa) := by
  obtain ⟨ta, pa, ka⟩ := ha
  refine ⟨_, pt_val pa he, fun F cs σ H env st Q R er hs h k => ka F cs σ H env st _ _ er hs h ?_⟩
  rintro v H' ⟨F1, c1, d, s1, e1, e2, h1, r1, b', rfl, q⟩
  exact ⟨b', rp_bool r1, k _ _ ⟨F1, c1, s1, e1, e2, h1, q⟩⟩
variable {t u : WT} {rest : List Expr}
def wAnd (t u : WT) : WT := fun env st Q => t env st fun c s => if c = true then u env s Q else Q false s
def wOr (t u : WT) : WT := fun env st Q => t env st fun c s => if c = true then Q true s else u env s Q
def wNot (t : WT) : WT := fun env st Q => t env st fun c s => Q (!c) s
theorem st_pw (h : STw X a t) : STt X a t := by
  obtain ⟨t', p, k⟩ := h
  exact ⟨t', p.pt, k⟩
theorem sw_and1 (ha : STt X a t) : STw X (.BoolOp .And [a] pos) t := by
  obtain ⟨ta, pa, ka⟩ := ha
  exact ⟨_, pw_and1 pa, ka⟩
theorem sw_or1 (ha : STt X a t) : STw X (.BoolOp .Or [a] pos) t := by
  obtain ⟨ta, pa, ka⟩ := ha
  exact ⟨_, pw_or1 pa, ka⟩
theorem sw_and (ha : STt X a t) (hb : STw X (.BoolOp .And (b :: rest) pos) u) : STw X (.BoolOp .And (a :: b :: rest) pos) (wAnd t u) := by
  obtain ⟨ta, pa, ka⟩ := ha
  obtain ⟨tb, pb, kb⟩ := hb
  refine ⟨_, pw_and pa pb, fun F cs σ H env st Q R er hs h k => ka F cs σ H env st _ _ er hs h ?_⟩
  rintro c' H' ⟨F1, c1, s1, e1, e2, h1, q⟩
  cases c' with
  | true => exact kb F1 c1 σ H' env s1 Q _ (er.mono e1 e2) h1 q fun b H2 p => k b H2 (p.up e1 e2)
  | false => exact k _ _ ⟨F1, c1, s1, e1, e2, h1, q⟩
theorem sw_or (ha : STt X a t) (hb : STw X (.BoolOp .Or (b :: rest) pos) u) : STw X (.BoolOp .Or (a :: b :: rest) pos) (wOr t u) := by
  obtain ⟨ta, pa, ka⟩ := ha
  obtain ⟨tb, pb, kb⟩ := hb
  refine ⟨_, pw_or pa pb, fun F cs σ H env st Q R er hs h k => ka F cs σ H env st _ _ er hs h ?_⟩
  rintro c' H' ⟨F1, c1, s1, e1, e2, h1, q⟩
  cases c' with
  | false => exact kb F1 c1 σ H' env s1 Q _ (er.mono e1 e2) h1 q fun b H2 p => k b H2 (p.up e1 e2)
  | true => exact k _ _ ⟨F1, c1, s1, e1, e2, h1, q⟩
theorem st_not (ha : STt X a t) : STt X (.UnaryOp .Not a pos) (wNot t) := by
  obtain ⟨ta, pa, ka⟩ := ha
  refine ⟨_, pt_not pa, fun F cs σ H env st Q R er hs h k => ka F cs σ H env st _ _ er hs h ?_⟩
  rintro c' H' ⟨F1, c1, s1, e1, e2, h1, q⟩
  exact k _ _ ⟨F1, c1, s1, e1, e2, h1, q⟩
def wAndV (wa wb : WE) : WE := fun env st Q => wa env st fun x s => ∃ c, x = .p (.bool c) ∧ if c = true then wb env s Q else Q (.p (.bool false)) s
def wOrV (wa wb : WE) : WE := fun env st Q => wa env st fun x s => ∃ c, x = .p (.bool c) ∧ if c = true then Q (.p (.bool true)) s else wb env s Q
def wNotV (wa : WE) : WE := fun env st Q => wa env st fun x s => ∃ c, x = .p (.bool c) ∧ Q (.p (.bool (!c))) s
theorem se_one {op} (h : SE X a wa) : SE X (.BoolOp op [a] pos) wa := by
  obtain ⟨ta, pa, ka⟩ := h
  exact ⟨_, pe_one pa, ka⟩
theorem se_and (ha : SE X a wa) (hb : SE X (.BoolOp .And (b :: rest) pos) wb) : SE X (.BoolOp .And (a :: b :: rest) pos) (wAndV wa wb) := by
  obtain ⟨ta, pa, ka⟩ := ha
  obtain ⟨tb, pb, kb⟩ := hb
  refine ⟨_, pe_and pa pb, fun F cs σ H env st Q R er hs h k => ka F cs σ H env st _ _ er hs h ?_⟩
  rintro v H' ⟨F1, c1, d, s1, e1, e2, h1, r1, c', rfl, q⟩
  refine ⟨c', rp_bool r1, ?_⟩
  cases c' with
  | true => exact kb F1 c1 σ H' env s1 Q _ (er.mono e1 e2) h1 q fun b H2 p => k b H2 (p.up e1 e2)
  | false => exact k _ _ ⟨F1, c1, _, s1, e1, e2, h1, .p (.bl _), q⟩
theorem se_or (ha : SE X a wa) (hb : SE X (.BoolOp .Or (b :: rest) pos) wb) : SE X (.BoolOp .Or (a :: b :: rest) pos) (wOrV wa wb) := by
  obtain ⟨ta, pa, ka⟩ := ha
  obtain ⟨tb, pb, kb⟩ := hb
  refine ⟨_, pe_or pa pb, fun F cs σ H env st Q R er hs h k => ka F cs σ H env st _ _ er hs h ?_⟩
  rintro v H' ⟨F1, c1, d, s1, e1, e2, h1, r1, c', rfl, q⟩
  refine ⟨c', rp_bool r1, ?_⟩
  cases c' with
  | false => exact kb F1 c1 σ H' env s1 Q _ (er.mono e1 e2) h1 q fun b H2 p => k b H2 (p.up e1 e2)
  | true => exact k _ _ ⟨F1, c1, _, s1, e1, e2, h1, .p (.bl _), q⟩
theorem se_not (ha : SE X a wa) : SE X (.UnaryOp .Not a pos) (wNotV wa) := by
  obtain ⟨ta, pa, ka⟩ := ha
  refine ⟨_, pe_not pa, fun F cs σ H env st Q R er hs h k => ka F cs σ H env st _ _ er hs h ?_⟩
  rintro v H' ⟨F1, c1, d, s1, e1, e2, h1, r1, c', rfl, q⟩
  exact ⟨c', rp_bool r1, k _ _ ⟨F1, c1, _, s1, e1, e2, h1, .p (.bl _), q⟩⟩
def wIfE (t : WT) (wa wb : WE) : WE := fun env st Q => t env st fun c s => if c = true then wa env s Q else wb env s Q
theorem se_ifExp (hc : STt X c t) (ha : SE X a wa) (hb : SE X b wb) : SE X (.IfExp c a b pos) (wIfE t wa wb) := by
  obtain ⟨tc, pc, kc⟩ := hc
  obtain ⟨ta, pa, ka⟩ := ha
  obtain ⟨tb, pb, kb⟩ := hb
  refine ⟨_, pe_ifExp pc pa pb, fun F cs σ H env st Q R er hs h k => kc F cs σ H env st _ _ er hs h ?_⟩
  rintro c' H' ⟨F1, c1, s1, e1, e2, h1, q⟩
  cases c' with
  | true => exact ka F1 c1 σ H' env s1 Q _ (er.mono e1 e2) h1 q fun b H2 p => k b H2 (p.up e1 e2)
  | false => exact kb F1 c1 σ H' env s1 Q _ (er.mono e1 e2) h1 q fun b H2 p => k b H2 (p.up e1 e2)
def isNone : SV → Bool
  | .p .none => true
  | _ => false
theorem rp_isNone {K : PySem.W.Frag} {F : Hp} {cs : List Addr} {x : SV} {v : V} (r : Rp K F cs x v) : decide (v = .non) = isNone x := by
  cases r with
  | p r => cases r <;> rfl
  | c _ => rfl
  | t _ _ => rfl
  | ro _ => rfl
  | x _ _ _ => rfl
def mIsN : M2 := fun x y st Q => y = .p .none ∧ Q (.p (.bool (isNone x))) st
def mNotN : M2 := fun x y st Q => y = .p .none ∧ Q (.p (.bool (!isNone x))) st
theorem om_isN : OpM X (compareOp .Is) mIsN := ⟨_, op_isN, fun F cs H st x y v u Q R hs rx ry h k => by
  obtain ⟨rfl, q⟩ := h
  refine ⟨rp_none ry, ?_⟩
  rw [rp_isNone rx]
  exact k _ _ (.mk hs (.p (.bl _)) q)⟩
theorem om_notN : OpM X (compareOp .IsNot) mNotN := ⟨_, op_notN, fun F cs H st x y v u Q R hs rx ry h k => by
  obtain ⟨rfl, q⟩ := h
  refine ⟨rp_none ry, ?_⟩
  rw [rp_isNone rx]
  exact k _ _ (.mk hs (.p (.bl _)) q)⟩
variable {es : List Expr} {e : Expr} {we : WE} {wt : WA}
def aNil : WA := fun _ st Q => Q [] st
def aCons (w : WE) (wt : WA) : WA := fun env st Q => w env st fun x s => wt env s fun xs s2 => Q (x :: xs) s2
theorem sa_nil : SA X [] aNil := ⟨_, pa_nil, fun F cs σ H env st Q R er hs h k => k _ _ ⟨F, cs, [], st, Same.refl _, List.prefix_refl _, hs, .nil, h⟩⟩
theorem sa_cons (ha : SE X e we) (hr : SA X es wt) (hs : starEach (e :: es) X.env = (false, eval e X.env) :: starEach es X.env := by rfl) : SA X (e :: es) (aCons we wt) := by
  obtain ⟨ta, pa, ka⟩ := ha
  obtain ⟨tb, pb, kb⟩ := hr
  refine ⟨_, pa_cons pa pb hs, fun F cs σ H env st Q R er hs h k => ka F cs σ H env st _ _ er hs h ?_⟩
  rintro v H1 ⟨F1, cs1, d1, st1, s1, c1, hs1, r1, q1⟩
  refine kb F1 cs1 σ H1 env st1 _ _ (er.mono s1 c1) hs1 q1 ?_
  rintro vs H2 ⟨F2, cs2, d2, st2, s2, c2, hs2, r2, q2⟩
  exact k _ _ ⟨F2, cs2, _, st2, s1.trans s2, c1.trans c2, hs2, .cons (rp_up r1 s2 c2) r2, q2⟩
abbrev MC := List SV → Store → (SV → Store → Prop) → Prop
def CallM (X : XM) (f : Value) (m : MC) : Prop :=
  ∃ r, CallR X f r ∧ ∀ (F : Hp) (cs : List Addr) (H : Hp) (st : Store) (xs : List SV) (vs : List V) (Q : SV → Store → Prop) (R : VK), HS X.K F cs H st → Rps X.K F cs xs vs → m xs st Q → (∀ v H', Post X F cs Q v H' → R v H') → r vs H R
def wCB (m : MC) (wa : WA) : WE := fun env st Q => wa env st fun xs s => m xs s Q
theorem cb_run {ta : TA} {F : Hp} {cs : List Addr} {σ : L2.St} {H : Hp} {env : M.Env} {st : Store} {r : List V → Hp → VK → Prop} {m : MC} {Q : SV → Store → Prop} {R : VK}
    (ha : ∀ (F : Hp) (cs : List Addr) (σ : L2.St) (H : Hp) (env : M.Env) (st : Store) (Q : List SV → Store → Prop) (R : List V → Hp → Prop), ER X F cs σ env → HS X.K F cs H st → wt env st Q → (∀ v H', PostA X F cs Q v H' → R v H') → ta σ H R)
    (hr : ∀ (F : Hp) (cs : List Addr) (H : Hp) (st : Store) (xs : List SV) (vs : List V) (Q : SV → Store → Prop) (R : VK), HS X.K F cs H st → Rps X.K F cs xs vs → m xs st Q → (∀ v H', Post X F cs Q v H' → R v H') → r vs H R)
    (er : ER X F cs σ env) (hs : HS X.K F cs H st) (h : wCB m wt env st Q) (k : ∀ v H', Post X F cs Q v H' → R v H') : tCB r ta σ H R := by
  refine ha F cs σ H env st _ _ er hs h ?_
  rintro vs H1 ⟨F1, cs1, d1, st1, s1, c1, hs1, r1, q1⟩
  exact hr F1 cs1 H1 st1 d1 vs Q R hs1 r1 q1 fun v H' p => k v H' (p.up s1 c1)
theorem se_callB {x : Str} {id : String} {m : MC} {p : Pos} (hc : CallM X (.builtin id) m) (hg : Gl X x) (hm : X.mg x = none) (hv : bootBuiltins x = some (.builtin id)) (ha : SA X (e :: es) wt) (hn : x ≠ "__name__" := by decide) (hdb : (x == ("__debug__" : Str)) = false := by decide)
    (he : starEach (e :: es) X.env = (false, eval e X.env) :: starEach es X.env := by rfl) (hpl : (backTo pos (starEach es X.env)).any (·.1) = false := by rfl) : SE X (.Call (.Name x p) (e :: es) [] pos) (wCB m wt) := by
  obtain ⟨r, hr, km⟩ := hc
  obtain ⟨ta, pa, ka⟩ := ha
  exact ⟨_, pe_callB hr hg hm hv pa hn hdb he hpl, fun F cs σ H env st Q R er hs h k => cb_run ka km er hs h k⟩
theorem se_callTy {x : Str} {T : String} {m : MC} {p : Pos} (hc : CallM X (.type T) m) (hg : Gl X x) (hm : X.mg x = none) (hv : bootBuiltins x = some (.type T)) (ha : SA X (e :: es) wt) (hn : x ≠ "__name__" := by decide) (hdb : (x == ("__debug__" : Str)) = false := by decide)
    (he : starEach (e :: es) X.env = (false, eval e X.env) :: starEach es X.env := by rfl) (hpl : (backTo pos (starEach es X.env)).any (·.1) = false := by rfl) : SE X (.Call (.Name x p) (e :: es) [] pos) (wCB m wt) := by
  obtain ⟨r, hr, km⟩ := hc
  obtain ⟨ta, pa, ka⟩ := ha
  exact ⟨_, pe_callTy hr hg hm hv pa hn hdb he hpl, fun F cs σ H env st Q R er hs h k => cb_run ka km er hs h k⟩
theorem CallM.or {f : Value} {m m' : MC} (h : CallM X f m) (h' : CallM X f m') : CallM X f (fun xs st Q => m xs st Q ∨ m' xs st Q) := by
  obtain ⟨r, hr, km⟩ := h
  obtain ⟨r', hr', km'⟩ := h'
  exact ⟨_, hr.or hr', fun F cs H st xs vs Q R hs rx q k => q.elim (fun q => .inl (km F cs H st xs vs Q R hs rx q k)) fun q => .inr (km' F cs H st xs vs Q R hs rx q k)⟩
theorem OpM.or {f : Value → Value → Sem Value} {m m' : M2} (h : OpM X f m) (h' : OpM X f m') : OpM X f (fun x y st Q => m x y st Q ∨ m' x y st Q) := by
  obtain ⟨r, hr, km⟩ := h
  obtain ⟨r', hr', km'⟩ := h'
  exact ⟨_, hr.or hr', fun F cs H st x y v u Q R hs rx ry q k => q.elim (fun q => .inl (km F cs H st x y v u Q R hs rx ry q k)) fun q => .inr (km' F cs H st x y v u Q R hs rx ry q k)⟩
theorem OpM.imp {f : Value → Value → Sem Value} {m m' : M2} (h : OpM X f m) (hi : ∀ x y st Q, m' x y st Q → m x y st Q) : OpM X f m' := by
  obtain ⟨r, hr, km⟩ := h
  exact ⟨r, hr, fun F cs H st x y v u Q R hs rx ry q k => km F cs H st x y v u Q R hs rx ry (hi _ _ _ _ q) k⟩
theorem CallM.imp {f : Value} {m m' : MC} (h : CallM X f m) (hi : ∀ xs st Q, m' xs st Q → m xs st Q) : CallM X f m' := by
  obtain ⟨r, hr, km⟩ := h
  exact ⟨r, hr, fun F cs H st xs vs Q R hs rx q k => km F cs H st xs vs Q R hs rx (hi _ _ _ q) k⟩
end
end M


namespace M
open PySem PySem.Spec PyProof.Rows L2
section
variable {X : XM} {st : Stmt} {rest : List Stmt} {w u : WS} {e : Expr} {we : WE} {pos : Pos}
def wSeq (w u : WS) : WS := fun D env s => w { D with nx := u D } env s
def wNext : WS := fun D env s => D.nx env s
theorem sss_nil : SSs X [] wNext := ⟨_, pss_nil, fun F cs0 cs σ H env st D E hc hl er hs h g => g.nx F cs σ H env st (Same.refl _) hc er hs h⟩
theorem sss_cons (h1 : SS X st w) (h2 : SSs X rest u) : SSs X (st :: rest) (wSeq w u) := by
  obtain ⟨t, p, k⟩ := h1
  obtain ⟨t2, p2, k2⟩ := h2
  refine ⟨_, pss_cons p p2, fun F cs0 cs σ H env st D E hc hl er hs h g => k F cs0 cs σ H env st { D with nx := u D } _ hc hl er hs h ⟨fun F' cs' σ' H' env' st' s c er' hs' q => ?_, g.rt, g.bk, g.ct, g.xp⟩⟩
  exact k2 F' cs0 cs' σ' H' env' st' D E c hl er' hs' q (g.mono s)
theorem sss_one (h1 : SS X st w) : SSs X [st] w := by
  obtain ⟨t, p, k⟩ := h1
  exact ⟨_, pss_one p, k⟩
theorem ss_pass : SS X (.Pass pos) wNext := ⟨_, ps_pass, fun F cs0 cs σ H env st D E hc hl er hs h g => g.nx F cs σ H env st (Same.refl _) hc er hs h⟩
def wBreak : WS := fun D env s => D.bk env s
def wCont : WS := fun D env s => D.ct env s
theorem ss_break : SS X (.Break pos) wBreak := ⟨_, ps_break, fun F cs0 cs σ H env st D E hc hl er hs h g => g.bk F cs σ H env st (Same.refl _) hc er hs h⟩
theorem ss_continue : SS X (.Continue pos) wCont := ⟨_, ps_continue, fun F cs0 cs σ H env st D E hc hl er hs h g => g.ct F cs σ H env st (Same.refl _) hc er hs h⟩
theorem ss_doc {x j pos pos'} : SS X (.Expr (.Constant (.str x) j pos) pos') wNext := ⟨_, ps_doc, fun F cs0 cs σ H env st D E hc hl er hs h g => g.nx F cs σ H env st (Same.refl _) hc er hs h⟩
def wNever : WS := fun _ _ _ => False
theorem ss_never : SS X st wNever := ⟨_, ps_never, fun F cs0 cs σ H env st D E hc hl er hs h g => h.elim⟩
def wDrop (we : WE) : WS := fun D env s => we env s fun _ s' => D.nx env s'
theorem ss_expr (he : SE X e we) (hsw : swapsWith e none pos.line X.env = pure false := by rfl) : SS X (.Expr e pos) (wDrop we) := by
  obtain ⟨t, p, k⟩ := he
  refine ⟨_, ps_expr p hsw, fun F cs0 cs σ H env st D E hc hl er hs h g => k F cs σ H env st _ _ er hs h ?_⟩
  rintro v H' ⟨F1, c1, d, s1, e1, e2, h1, r1, q⟩
  exact g.nx F1 c1 σ H' env s1 e1 (hc.trans e2) (er.mono e1 e2) h1 q
def wRet (we : WE) : WS := fun D env s => we env s D.rt
theorem ss_ret (he : SE X e we) : SS X (.Return (some e) pos) (wRet we) := by
  obtain ⟨t, p, k⟩ := he
  refine ⟨_, ps_ret p, fun F cs0 cs σ H env st D E hc hl er hs h g => k F cs σ H env st _ _ er hs h ?_⟩
  rintro v H' ⟨F1, c1, d, s1, e1, e2, h1, r1, q⟩
  exact g.rt F1 c1 H' s1 d v e1 (hc.trans e2) h1 r1 q
def wRetN : WS := fun D _ s => D.rt (.p .none) s
theorem ss_retN : SS X (.Return none pos) wRetN := ⟨_, ps_retN, fun F cs0 cs σ H env st D E hc hl er hs h g => g.rt F cs H st _ _ (Same.refl _) hc hs (.p .non) h⟩
def wIfS (t : WT) (a b : WS) : WS := fun D env s => t env s fun c s' => if c = true then a D env s' else b D env s'
theorem ss_if {c : Expr} {a b : List Stmt} {t : WT} (hc : STt X c t) (ha : SSs X a w) (hb : SSs X b u) : SS X (.If c a b pos) (wIfS t w u) := by
  obtain ⟨tc, pc, kc⟩ := hc
  obtain ⟨ta, pa, ka⟩ := ha
  obtain ⟨tb, pb, kb⟩ := hb
  refine ⟨_, ps_if pc pa pb, fun F cs0 cs σ H env st D E hc hl er hs h g => kc F cs σ H env st _ _ er hs h ?_⟩
  rintro c' H' ⟨F1, c1, s1, e1, e2, h1, q⟩
  cases c' with
  | true => exact ka F1 cs0 c1 σ H' env s1 D E (hc.trans e2) hl (er.mono e1 e2) h1 q (g.mono e1)
  | false => exact kb F1 cs0 c1 σ H' env s1 D E (hc.trans e2) hl (er.mono e1 e2) h1 q (g.mono e1)
abbrev WG := SV → M.Env → Store → (M.Env → Store → Prop) → Prop
abbrev WGs := List SV → M.Env → Store → (M.Env → Store → Prop) → Prop
def PostG (X : XM) (F : Hp) (cs : List Addr) (Q : M.Env → Store → Prop) : L2.St → Hp → Prop := fun σ' H' => ∃ F' cs' env' st', Same F F' ∧ cs <+: cs' ∧ ER X F' cs' σ' env' ∧ HS X.K F' cs' H' st' ∧ Q env' st'
structure SG (X : XM) (tg : Expr) (g : WG) : Prop where
  run : ∃ t, PG X tg t ∧ ∀ (F : Hp) (cs : List Addr) (σ : L2.St) (H : Hp) (env : M.Env) (st : Store) (d : SV) (v : V) (Q : M.Env → Store → Prop) (R : L2.St → Hp → Prop), ER X F cs σ env → HS X.K F cs H st → Rp X.K F cs d v → g d env st Q →
    (∀ σ' H', PostG X F cs Q σ' H' → R σ' H') → t v σ H R
structure SGs (X : XM) (tg : List Expr) (g : WGs) : Prop where
  run : ∃ t, PGs X tg t ∧ ∀ (F : Hp) (cs : List Addr) (σ : L2.St) (H : Hp) (env : M.Env) (st : Store) (d : List SV) (v : List V) (Q : M.Env → Store → Prop) (R : L2.St → Hp → Prop), ER X F cs σ env → HS X.K F cs H st → Rps X.K F cs d v → g d env st Q →
    (∀ σ' H', PostG X F cs Q σ' H' → R σ' H') → t v σ H R
theorem PostG.up {F F' : Hp} {cs cs' : List Addr} {Q : M.Env → Store → Prop} {σ : L2.St} {H : Hp} (s : Same F F') (hc : cs <+: cs') (h : PostG X F' cs' Q σ H) : PostG X F cs Q σ H := by
  obtain ⟨F1, c1, e1, s1, a, b, c⟩ := h
  exact ⟨F1, c1, e1, s1, s.trans a, hc.trans b, c⟩
def gNm (i : Nat) : WG := fun d env st Q => Q (env.set i (some d)) st
theorem sg_name (i : Nat) {x : Str} (hN : X.N.Nodup) (hi : X.N[i]? = some x := by rfl) (hx : Loc X.env.scope x := by first | exact Or.inl rfl | exact Or.inr rfl) (hf : X.fn x = true ∨ X.env.scope.names.lookup x = some .local := by first | exact .inl rfl | exact .inr rfl) : SG X (.Name x pos) (gNm i) :=
  ⟨_, pg_name hN hi hx hf, fun F cs σ H env st d v Q R er hs r q k => k _ _ ⟨F, cs, _, st, Same.refl _, List.prefix_refl _, er.set r, hs, q⟩⟩
def gsNil : WGs := fun ds env st Q => ds = [] ∧ Q env st
def gsCons (g : WG) (gs : WGs) : WGs := fun ds env st Q => ∃ d r, ds = d :: r ∧ g d env st fun env' st' => gs r env' st' Q
theorem sgs_nil : SGs X [] gsNil := ⟨_, pgs_nil, fun F cs σ H env st d v Q R er hs r q k => by
  obtain ⟨rfl, q⟩ := q
  cases r
  exact ⟨rfl, k _ _ ⟨F, cs, env, st, Same.refl _, List.prefix_refl _, er, hs, q⟩⟩⟩
theorem sgs_cons {e : Expr} {es : List Expr} {g : WG} {gs : WGs} (h1 : SG X e g) (h2 : SGs X es gs) (hs : (assignEach (e :: es) X.env).map (·.2) = assign e X.env :: (assignEach es X.env).map (·.2) := by rfl) : SGs X (e :: es) (gsCons g gs) := by
  obtain ⟨t, p, k⟩ := h1
  obtain ⟨t2, p2, k2⟩ := h2
  refine ⟨_, pgs_cons p p2 hs, fun F cs σ H env st d v Q R er hs r q kk => ?_⟩
  obtain ⟨d1, dr, rfl, q⟩ := q
  cases r with
  | @cons _ _ v vr r1 r2 =>
    refine ⟨v, vr, rfl, k F cs σ H env st d1 v _ _ er hs r1 q ?_⟩
    rintro σ1 H1 ⟨F1, c1, e1, s1, a, b, er1, hs1, q1⟩
    exact k2 F1 c1 σ1 H1 e1 s1 dr vr Q _ er1 hs1 (rps_mono a b _ _ r2) q1 fun σ2 H2 p => kk _ _ (p.up a b)
def tupOf : SV → Option (List SV)
  | .p (.tuple ds) => some (ds.map SV.p)
  | .t xs => some xs
  | _ => none
theorem rp_tup {K : PySem.W.Frag} {F : Hp} {cs : List Addr} {x : SV} {v : V} {xs : List SV} (r : Rp K F cs x v) (h : tupOf x = some xs) : ∃ a vs, v = .ref a ∧ SqT K F a vs ∧ Rps K F cs xs vs := by
  cases r with
  | p r =>
    cases r with
    | tup hs ha => cases h; exact ⟨_, _, rfl, hs, rps_p.mpr ha⟩
    | _ => cases h
  | c _ => cases h
  | t hs ha => cases h; exact ⟨_, _, rfl, hs, ha⟩
  | ro _ => cases h
  | x _ _ _ => cases h
def gTp (n : Nat) (gs : WGs) : WG := fun d env st Q => ∃ xs, tupOf d = some xs ∧ xs.length = n ∧ gs xs env st Q
theorem sg_tup {es : List Expr} {k : Nat} {gs : WGs} {n : Nat} (hc : X.calm = true) (h : SGs X es gs) (hn : (assignEach es X.env).length = n := by rfl) (hst : (assignEach es X.env).findIdx? (·.1) = none := by rfl) : SG X (.Tuple es k pos) (gTp n gs) := by
  obtain ⟨t, p, kk⟩ := h
  refine ⟨_, pg_tup hc p hn hst, fun F cs σ H env st d v Q R er hs r q k2 => ?_⟩
  obtain ⟨xs, e, hl, q⟩ := q
  obtain ⟨a, vs, rfl, ht, rs⟩ := rp_tup r e
  exact ⟨a, vs, rfl, sqT_mono hs.sub ht, rs.length.symm.trans hl, kk F cs σ H env st xs vs Q R er hs rs q k2⟩
abbrev MSet := SV → SV → SV → Store → (Store → Prop) → Prop
def SetM (X : XM) (m : MSet) : Prop := ∃ t, PSet X t ∧ ∀ (F : Hp) (cs : List Addr) (H : Hp) (st : Store) (x y z : SV) (v u w : V) (Q : Store → Prop) (R : Hp → Prop), HS X.K F cs H st → Rp X.K F cs x v → Rp X.K F cs y u → Rp X.K F cs z w → m x y z st Q →
  (∀ H' st', HS X.K F cs H' st' → Q st' → R H') → t v u w H R
def gSb (wo wi : WE) (m : MSet) : WG := fun d env st Q => wo env st fun x s1 => wi env s1 fun y s2 => m x y d s2 fun s3 => Q env s3
theorem sg_sub {o i : Expr} {wo wi : WE} {m : MSet} (hm : SetM X m) (ho : SE X o wo) (hi : SE X i wi)
    (ha : ∀ v, assign (.Subscript o i pos) X.env v = (do
      let ov ← holding [v] (eval o X.env)
      let iv ← holding [v, ov] (eval i X.env)
      standAt pos
      holding [v, ov, iv] (setItem ov iv v)
      release [v, ov, iv] []) := by intro _; rfl) : SG X (.Subscript o i pos) (gSb wo wi m) := by
  obtain ⟨t, ps, km⟩ := hm
  obtain ⟨ta, pa, ka⟩ := ho
  obtain ⟨tb, pb, kb⟩ := hi
  refine ⟨_, pg_sub pa pb ps ha, fun F cs σ H env st d v Q R er hs r q k => ?_⟩
  refine ka F cs σ H env st _ _ er hs q ?_
  rintro x H1 ⟨F1, c1, d1, s1, a1, b1, hs1, r1, q1⟩
  refine kb F1 c1 σ H1 env s1 _ _ (er.mono a1 b1) hs1 q1 ?_
  rintro y H2 ⟨F2, c2, d2, s2, a2, b2, hs2, r2, q2⟩
  refine km F2 c2 H2 s2 d1 d2 d x y v _ _ hs2 (rp_up r1 a2 b2) r2 (rp_up r (a1.trans a2) (b1.trans b2)) q2 fun H3 s3 hs3 q3 => ?_
  exact k _ _ ⟨F2, c2, env, s3, a1.trans a2, b1.trans b2, er.mono (a1.trans a2) (b1.trans b2), hs3, q3⟩
def wAsg (we : WE) (g : WG) : WS := fun D env s => we env s fun d s1 => g d env s1 D.nx
theorem ss_asg {tg : Expr} {g : WG} (he : SE X e we) (hg : SG X tg g) (hsw : swapsWithSole [tg] e pos.line X.env = pure false := by rfl) (hw : swappedStores [tg] e X.env = pure none := by rfl)
    (h1 : (assignEach [tg] X.env).map (·.2) = [assign tg X.env] := by rfl) : SS X (.Assign [tg] e pos) (wAsg we g) := by
  obtain ⟨t, p, k⟩ := he
  obtain ⟨t2, p2, k2⟩ := hg
  refine ⟨_, ps_asg p p2 hsw hw h1, fun F cs0 cs σ H env st D E hc hl er hs h g => k F cs σ H env st _ _ er hs h ?_⟩
  rintro v H1 ⟨F1, c1, d, s1, e1, e2, h1, r1, q⟩
  refine k2 F1 c1 σ H1 env s1 d v _ _ (er.mono e1 e2) h1 r1 q ?_
  rintro σ2 H2 ⟨F2, c2, env2, s2, a, b, er2, hs2, q2⟩
  exact g.nx F2 c2 σ2 H2 env2 s2 (e1.trans a) ((hc.trans e2).trans b) er2 hs2 q2
theorem ss_set (i : Nat) {x : Str} {pos' : Pos} (hN : X.N.Nodup) (he : SE X e we) (hi : X.N[i]? = some x := by rfl) (hx : Loc X.env.scope x := by first | exact Or.inl rfl | exact Or.inr rfl) (hsw : swapsWith e (some (.Name x pos')) pos.line X.env = pure false := by rfl)
    (hf : X.fn x = true ∨ X.env.scope.names.lookup x = some .local := by first | exact .inl rfl | exact .inr rfl) : SS X (.Assign [.Name x pos'] e pos) (wAsg we (gNm i)) := by
  obtain ⟨t, p, k⟩ := he
  refine ⟨_, ps_set hN hi hx p hsw hf, fun F cs0 cs σ H env st D E hc hl er hs h g => k F cs σ H env st _ _ er hs h ?_⟩
  rintro v H1 ⟨F1, c1, d, s1, e1, e2, h1, r1, q⟩
  exact g.nx F1 c1 _ H1 _ s1 e1 (hc.trans e2) ((er.mono e1 e2).set r1) h1 q
def wPar (i j : Nat) (wa wb : WE) : WS := fun D env s => wa env s fun x s1 => wb env s1 fun y s2 => D.nx ((env.set i (some x)).set j (some y)) s2
theorem ss_par (i j : Nat) {x y : Str} {a b : Expr} {wa wb : WE} {px py pt : Pos} {kt k2 pt2} (hc : X.calm = true) (hN : X.N.Nodup) (ha : SE X a wa) (hb : SE X b wb) (hi : X.N[i]? = some x := by rfl) (hj : X.N[j]? = some y := by rfl) (hij : i ≠ j := by decide)
    (hx : X.env.scope.names.lookup x = some .local := by rfl) (hy : X.env.scope.names.lookup y = some .local := by rfl)
    (hw : swappedStores [.Tuple [.Name x px, .Name y py] kt pt] (.Tuple [a, b] k2 pt2) X.env = pure (some [x, y]) := by rfl)
    (hs : swapsWithSole [.Tuple [.Name x px, .Name y py] kt pt] (.Tuple [a, b] k2 pt2) pos.line X.env = pure false := by rfl)
    (hs1 : starEach [a, b] X.env = (false, eval a X.env) :: starEach [b] X.env := by rfl) (hs2 : starEach [b] X.env = (false, eval b X.env) :: starEach [] X.env := by rfl) :
    SS X (.Assign [.Tuple [.Name x px, .Name y py] kt pt] (.Tuple [a, b] k2 pt2) pos) (wPar i j wa wb) := by
  obtain ⟨t, p, k⟩ := sa_cons ha (sa_cons hb sa_nil hs2) hs1
  refine ⟨_, ps_par hc hN hi hj hij hx hy p hw hs, fun F cs0 cs σ H env st D E hc hl er hs h g => ?_⟩
  refine k F cs σ H env st (fun xs s => ∃ a b, xs = [a, b] ∧ D.nx ((env.set i (some a)).set j (some b)) s) _ er hs ?_ ?_
  · show aCons wa (aCons wb aNil) env st _
    have h : wa env st (fun x s1 => wb env s1 fun y s2 => D.nx ((env.set i (some x)).set j (some y)) s2) := h
    have e : (fun (xs : List SV) (s : Store) => ∃ a b, xs = [a, b] ∧ D.nx ((env.set i (some a)).set j (some b)) s) = fun (xs : List SV) (s : Store) => ∃ a b, xs = [a, b] ∧ D.nx ((env.set i (some a)).set j (some b)) s := rfl
    show wa env st fun x s1 => wb env s1 fun y s2 => ∃ a b, [x, y] = [a, b] ∧ D.nx ((env.set i (some a)).set j (some b)) s2
    have e2 : (fun (x : SV) (s1 : Store) => wb env s1 fun y s2 => ∃ a b, [x, y] = [a, b] ∧ D.nx ((env.set i (some a)).set j (some b)) s2) = fun (x : SV) (s1 : Store) => wb env s1 fun y s2 => D.nx ((env.set i (some x)).set j (some y)) s2 := by
      funext x s1
      congr 1
      funext y s2
      exact propext ⟨fun ⟨a, b, e, q⟩ => by cases e; exact q, fun q => ⟨_, _, rfl, q⟩⟩
    rw [e2]
    exact h
  · rintro vs H1 ⟨F1, c1, ds, s1, e1, e2, h1, r1, a, b, rfl, q⟩
    cases r1 with
    | cons r1 r2 =>
      cases r2 with
      | cons r2 r3 =>
        cases r3
        exact ⟨_, _, rfl, g.nx F1 c1 _ H1 _ s1 e1 (hc.trans e2) (((er.mono e1 e2).set r1).set r2) h1 q⟩
def Wk (b : Nat) (P : M.Env → Store → Prop) : M.Env → Store → Prop := fun e s => P e s ∨ ∃ k e', b ≤ k ∧ k ≤ s.length ∧ Wf (s.take k) ∧ Weak k e e' ∧ P e' (s.take k)
theorem Wk.get {F : Hp} {cs0 cs : List Addr} {σ : L2.St} {H : Hp} {e : M.Env} {s : Store} {P : M.Env → Store → Prop} {b : Nat} (h : Wk b P e s) (hc : cs0 <+: cs) (hl : cs0.length = b) (xp : XP X F cs0) (er : ER X F cs σ e) (hs : HS X.K F cs H s) :
    ∃ cs' e' s', cs0 <+: cs' ∧ ER X F cs' σ e' ∧ HS X.K F cs' H s' ∧ P e' s' := by
  rcases h with h | ⟨k, e', hk, hk2, w, we, p⟩
  · exact ⟨cs, e, s, hc, er, hs, h⟩
  · exact ⟨cs.take k, e', s.take k, pre_take hc (by omega), ⟨er.k.cut we, xp.mono (Same.refl _) (pre_take hc (by omega))⟩, hs.cut w hk2, p⟩
structure ItM where
  items : List SV
  keep : Store → Prop := fun _ => True
structure ItOk (X : XM) (F : Hp) (cs : List Addr) (it : ItM) (J : It) : Prop where
  goes : ∀ i H F2 cs2 st2, i < it.items.length → Same F F2 → cs <+: cs2 → HS X.K F2 cs2 H st2 → it.keep st2 → J.go i H
  stops : ∀ H F2 cs2 st2, Same F F2 → cs <+: cs2 → HS X.K F2 cs2 H st2 → it.keep st2 → J.stop it.items.length H
  ylds : ∀ i H x H' F2 cs2 st2, i < it.items.length → Same F F2 → cs <+: cs2 → HS X.K F2 cs2 H st2 → it.keep st2 → J.yld i H x H' →
    ∃ F3 d, Same F2 F3 ∧ HS X.K F3 cs2 H' st2 ∧ it.items[i]? = some d ∧ Rp X.K F3 cs2 d x
abbrev WI := M.Env → Store → (ItM → Store → Prop) → Prop
def PostI (X : XM) (F : Hp) (cs : List Addr) (Q : ItM → Store → Prop) : It → Hp → Prop := fun J H' => ∃ F' cs' st' it, Same F F' ∧ cs <+: cs' ∧ HS X.K F' cs' H' st' ∧ ItOk X F' cs' it J ∧ Q it st'
structure SI (X : XM) (tg iter : Expr) (w : WI) : Prop where
  run : ∃ t, PI X tg iter t ∧ ∀ (F : Hp) (cs : List Addr) (σ : L2.St) (H : Hp) (env : M.Env) (st : Store) (Q : ItM → Store → Prop) (R : It → Hp → Prop), ER X F cs σ env → HS X.K F cs H st → w env st Q →
    (∀ J H', PostI X F cs Q J H' → R J H') → t σ H R
def wFor (wi : WI) (g : WG) (b : WS) : WS := fun D env st => wi env st fun it st1 => ∃ Inv : Nat → M.Env → Store → Prop, Inv 0 env st1 ∧ (∀ i e s, i ≤ it.items.length → Inv i e s → it.keep s) ∧
  (∀ i x e s, it.items[i]? = some x → Inv i e s → g x e s fun e' s' => b { nx := Wk st1.length (Inv (i + 1)), ct := Wk st1.length (Inv (i + 1)), bk := D.nx, rt := D.rt, base := st1.length } e' s') ∧
  (∀ e s, Inv it.items.length e s → D.nx e s)
theorem ss_for {tg iter : Expr} {body : List Stmt} {wi : WI} {g : WG} (hp : PassesOwn (model X.prog X.w) X.A X.env X.xe) (hc : X.calm = true) (hi : SI X tg iter wi) (hg : SG X tg g) (hb : SSs X body w)
    (hs : ∀ x, foldedSetIterable iter X.env x = pure x := by intro _; rfl) : SS X (.For tg iter body [] pos) (wFor wi g w) := by
  obtain ⟨ti, pi, ki⟩ := hi
  obtain ⟨tg', pg, kg⟩ := hg
  obtain ⟨tb, pb, kb⟩ := hb
  refine ⟨_, ps_for hp hc pi pg pb hs, fun F cs0 cs σ H env st D E hcs hl er hs h g => ki F cs σ H env st _ _ er hs h ?_⟩
  rintro J H1 ⟨F1, cs1, st1, it, a1, b1, hs1, ok, Inv, i0, ik, it', id⟩
  have wk : Walk J it.items.length (fun H => ∃ F2 cs2 s, Same F1 F2 ∧ cs1 <+: cs2 ∧ HS X.K F2 cs2 H s ∧ it.keep s)
      (fun i H x H' => ∀ F2 cs2 s, Same F1 F2 → cs1 <+: cs2 → HS X.K F2 cs2 H s → it.keep s → ∃ F3 d, Same F2 F3 ∧ HS X.K F3 cs2 H' s ∧ it.items[i]? = some d ∧ Rp X.K F3 cs2 d x) :=
    ⟨fun i H hi ⟨F2, c2, s, x1, x2, x3, x4⟩ => ok.goes i H F2 c2 s hi x1 x2 x3 x4, fun H ⟨F2, c2, s, x1, x2, x3, x4⟩ => ok.stops H F2 c2 s x1 x2 x3 x4,
      fun i H x H' hi _ y F2 c2 s x1 x2 x3 x4 => ok.ylds i H x H' F2 c2 s hi x1 x2 x3 x4 y⟩
  refine for_it wk (fun i σ H => ∃ F2 cs2 e s, Same F1 F2 ∧ cs1 <+: cs2 ∧ ER X F2 cs2 σ e ∧ HS X.K F2 cs2 H s ∧ Inv i e s)
    ⟨F1, cs1, env, st1, Same.refl _, List.prefix_refl _, er.mono a1 b1, hs1, i0⟩ (fun i σ H hi ⟨F2, c2, e, s, x1, x2, x3, x4, x5⟩ => ⟨F2, c2, s, x1, x2, x4, ik i e s hi x5⟩) ?_ ?_
  · rintro i x σ2 H2 H2' hlt ⟨F2, c2, e, s, x1, x2, x3, x4, x5⟩ y
    obtain ⟨F3, d, y1, y2, y3, y4⟩ := y F2 c2 s x1 x2 x4 (ik i e s (Nat.le_of_lt hlt) x5)
    refine kg F3 c2 σ2 H2' e s d x _ _ (x3.mono y1 (List.prefix_refl _)) y2 y4 (it' i d e s y3 x5) ?_
    rintro σ4 H4 ⟨F4, c4, e4, s4, z1, z2, z3, z4, z5⟩
    have f4 : Same F1 F4 := (x1.trans y1).trans z1
    have again : ∀ F' cs' σ' H' env' st', Same F4 F' → cs1 <+: cs' → ER X F' cs' σ' env' → HS X.K F' cs' H' st' → Wk st1.length (Inv (i + 1)) env' st' →
        ∃ F2 cs2 e s, Same F1 F2 ∧ cs1 <+: cs2 ∧ ER X F2 cs2 σ' e ∧ HS X.K F2 cs2 H' s ∧ Inv (i + 1) e s := fun F' cs' σ' H' env' st' u1 u2 u3 u4 u5 => by
      obtain ⟨c6, e6, s6, v1, v2, v3, v4⟩ := u5.get u2 hs1.len (g.xp.mono (a1.trans (f4.trans u1)) (hcs.trans b1)) u3 u4
      exact ⟨F', c6, e6, s6, f4.trans u1, v1, v2, v3, v4⟩
    refine kb F4 cs1 c4 σ4 H4 e4 s4 _ _ (x2.trans z2) hs1.len z3 z4 z5 ⟨again, fun F' cs' H' st' d v u1 u2 u3 u4 u5 => ?_, fun F' cs' σ' H' env' st' u1 u2 u3 u4 u5 => ?_, again, g.xp.mono (a1.trans f4) (hcs.trans b1)⟩
    · exact g.rt F' cs' H' st' d v ((a1.trans f4).trans u1) ((hcs.trans b1).trans u2) u3 u4 u5
    · exact g.nx F' cs' σ' H' env' st' ((a1.trans f4).trans u1) ((hcs.trans b1).trans u2) u3 u4 u5
  · rintro σ2 H2 ⟨F2, c2, e, s, x1, x2, x3, x4, x5⟩
    exact g.nx F2 c2 σ2 H2 e s (a1.trans x1) ((hcs.trans b1).trans x2) x3 x4 (id e s x5)
def wWhile (t : WT) (b : WS) : WS := fun D env st => ∃ Inv : Nat → M.Env → Store → Prop, (∃ m, Inv m env st) ∧ ∀ m e s, Inv m e s →
  t e s fun c s1 => if c = true then b { nx := Wk st.length (fun e' s' => ∃ m', m' < m ∧ Inv m' e' s'), ct := Wk st.length (fun e' s' => ∃ m', m' < m ∧ Inv m' e' s'), bk := D.nx, rt := D.rt, base := st.length } e s1 else D.nx e s1
theorem ss_while {c : Expr} {body : List Stmt} {t : WT} (hp : PassesOwn (model X.prog X.w) X.A X.env X.xe) (hc : STt X c t) (hb : SSs X body w) : SS X (.While c body [] pos) (wWhile t w) := by
  obtain ⟨tc, pc, kc⟩ := hc
  obtain ⟨tb, pb, kb⟩ := hb
  refine ⟨_, ps_while hp pc pb, fun F cs0 cs σ H env st D E hcs hl er hs h g => ?_⟩
  obtain ⟨Inv, ⟨m0, i0⟩, turn⟩ := h
  refine ⟨fun m σ H => ∃ F2 cs2 e s, Same F F2 ∧ cs <+: cs2 ∧ ER X F2 cs2 σ e ∧ HS X.K F2 cs2 H s ∧ Inv m e s, ⟨m0, F, cs, env, st, Same.refl _, List.prefix_refl _, er, hs, i0⟩, ?_⟩
  rintro m σ1 H1 ⟨F1, c1, e1, s1, x1, x2, x3, x4, x5⟩
  refine kc F1 c1 σ1 H1 e1 s1 _ _ x3 x4 (turn m e1 s1 x5) ?_
  rintro b H2 ⟨F2, c2, s2, y1, y2, y3, y4⟩
  cases b with
  | false => exact g.nx F2 c2 σ1 H2 e1 s2 (x1.trans y1) ((hcs.trans x2).trans y2) (x3.mono y1 y2) y3 y4
  | true =>
    rw [if_pos rfl] at y4 ⊢
    refine ⟨fun σ' H' => ∃ m', m' < m ∧ ∃ F2 cs2 e s, Same F F2 ∧ cs <+: cs2 ∧ ER X F2 cs2 σ' e ∧ HS X.K F2 cs2 H' s ∧ Inv m' e s, fun _ _ z => z, ?_⟩
    have again : ∀ F' cs' σ' H' env' st', Same F2 F' → cs <+: cs' → ER X F' cs' σ' env' → HS X.K F' cs' H' st' → Wk st.length (fun e' s' => ∃ m', m' < m ∧ Inv m' e' s') env' st' →
        ∃ m', m' < m ∧ ∃ F2 cs2 e s, Same F F2 ∧ cs <+: cs2 ∧ ER X F2 cs2 σ' e ∧ HS X.K F2 cs2 H' s ∧ Inv m' e s := fun F' cs' σ' H' env' st' u1 u2 u3 u4 u5 => by
      obtain ⟨c6, e6, s6, v1, v2, v3, m', hm, v4⟩ := u5.get u2 hs.len (g.xp.mono ((x1.trans y1).trans u1) hcs) u3 u4
      exact ⟨m', hm, F', c6, e6, s6, (x1.trans y1).trans u1, v1, v2, v3, v4⟩
    refine kb F2 cs c2 σ1 H2 e1 s2 _ _ (x2.trans y2) hs.len (x3.mono y1 y2) y3 y4 ⟨again, fun F' cs' H' st' d v u1 u2 u3 u4 u5 => ?_, fun F' cs' σ' H' env' st' u1 u2 u3 u4 u5 => ?_, again, g.xp.mono (x1.trans y1) hcs⟩
    · exact g.rt F' cs' H' st' d v ((x1.trans y1).trans u1) (hcs.trans u2) u3 u4 u5
    · exact g.nx F' cs' σ' H' env' st' ((x1.trans y1).trans u1) (hcs.trans u2) u3 u4 u5
end
abbrev MSp := List SV → Store → (SV → Store → Prop) → Prop
def spM (K : PySem.W.Frag) (sp : MSp) : Sp := fun vs H Q _ => ∃ F cs ds st R, HS K F cs H st ∧ Rps K F cs ds vs ∧ sp ds st R ∧
  ∀ F' cs' H' st' d v, Same F F' → cs <+: cs' → HS K F' cs' H' st' → Rp K F' cs' d v → R d st' → Q v H'
structure Callee (P : Program) (w : World) (K : PySem.W.Frag) (mg : Str → Option Value) (base : Heap) (x : Str) (k : Nat) (sp : MSp) : Prop where
  ok : ∃ (f : Addr) (fd : FuncData) (ps : List Str), FnOk P w K mg base CX0 k f fd ps (spM K sp) ∧ mg x = some (.ref f) ∧ PySem.W.keepIn K (.ref f) = true ∧ Binds K fd ps []
section
variable {X : XM} {x : Str} {k : Nat} {sp : MSp} {e : Expr} {es : List Expr} {wt : WA} {p pos : Pos}
def wCall (sp : MSp) (wa : WA) : WE := fun env st Q => wa env st fun ds s => sp ds s Q
theorem se_call (G : Callee X.prog X.w X.K X.mg X.base x k sp) (hr : Room k X.A) (ha : SA X (e :: es) wt) (hg : Gl X x := by rfl) (hdb : (x == ("__debug__" : Str)) = false := by decide) (he : starEach (e :: es) X.env = (false, eval e X.env) :: starEach es X.env := by rfl)
    (hpl : (backTo pos (starEach es X.env)).any (·.1) = false := by rfl) : SE X (.Call (.Name x p) (e :: es) [] pos) (wCall sp wt) := by
  obtain ⟨f, fd, ps, G, hm, hk, hb⟩ := G.ok
  obtain ⟨ta, pa, ka⟩ := ha
  refine ⟨_, pe_call G hr hg hm hk hb .nil pass0 pa hdb he hpl, fun F cs σ H env st Q R er hs h kk => ka F cs σ H env st _ _ er hs h ?_⟩
  rintro vs H1 ⟨F1, c1, ds, s1, a1, b1, hs1, r1, q1⟩
  rw [List.append_nil]
  refine ⟨F1, c1, ds, s1, Q, hs1, r1, q1, fun F' cs' H' st' d v x1 x2 x3 x4 x5 => ?_⟩
  exact kk _ _ ⟨F', cs', d, st', a1.trans x1, b1.trans x2, x3, x4, x5⟩
def RetTo (b : Nat) (R : SV → Store → Prop) : SV → Store → Prop := fun d s => R d s ∨ (b ≤ s.length ∧ Wf (s.take b) ∧ d.under b = true ∧ R d (s.take b))
def fnEnds (b : Nat) (R : SV → Store → Prop) : ME := { nx := fun _ s => RetTo b R (.p .none) s, rt := RetTo b R, base := b }
def startE (n : Nat) (ds : List SV) : M.Env := ds.map some ++ List.replicate (n - ds.length) none
theorem er_start {K : PySem.W.Frag} {F : Hp} {cs : List Addr} {N : List Str} {ds : List SV} {vs : List V} (r : Rps K F cs ds vs) : EK K F cs (L2.start N vs) (startE N.length ds) := by
  refine ⟨by simp [startE, L2.start, r.length], fun i d q => ?_⟩
  unfold startE at q
  unfold L2.start
  by_cases hi : i < ds.length
  · rw [List.getElem?_append_left (by simpa using hi), List.getElem?_map] at q
    cases h : ds[i]? with
    | none => rw [h] at q; cases q
    | some d' =>
      rw [h] at q
      cases q
      obtain ⟨v, e, r'⟩ := r.get h
      exact ⟨v, by rw [List.getElem?_append_left (by rw [List.length_map, ← r.length]; exact hi), List.getElem?_map, e]; rfl, r'⟩
  · rw [List.getElem?_append_right (by simpa using hi), List.getElem?_replicate] at q
    split at q <;> cases q
theorem fnM {P : Program} {w : World} {K : PySem.W.Frag} {mg : Str → Option Value} {base : Heap} {x qual : Str} {st : Stmt} {f : Addr} {fd : FuncData} {N ps : List Str} {k : Nat} {sp : MSp} {W : WS} (Fu : Fun K x qual st f fd) (S : FnScope N ps (defScope st))
    (len : ∀ ds s R, sp ds s R → ds.length = ps.length)
    (hder : ∀ (cdv : Value) (A : Around) (outer : List PySem.Env) (s : Shared) (H : Hp) (E : XK), Room k (A.deeper (envOfC qual (defScope st) s.heap.objs.size f cdv)) → SSs ⟨(cxOf CX0 P w K mg base N qual (defScope st) f cdv A outer s H E).nox, fun _ _ _ _ => False⟩ (defBody st) W)
    (hread : ∀ ds s R, Wf s → sp ds s R → W (fnEnds s.length R) (startE N.length ds) s) : FnOk P w K mg base CX0 (k + 1) f fd ps (spM K sp) := by
  refine Fu.ok S (fun vs H Q E h => ?_) (fun cdv A outer s H vs Q E hr h => ?_)
  · obtain ⟨F, cs, ds, st, R, hs, r, q, _⟩ := h
    rw [← r.length]; exact len _ _ _ q
  · obtain ⟨F, cs, ds, s0, R, hs, r, q, kk⟩ := h
    obtain ⟨t, p, kt⟩ := hder cdv A outer s H E hr
    refine ⟨t, p, kt F cs cs (L2.start N vs) H (startE N.length ds) s0 (fnEnds s0.length R) _ (List.prefix_refl _) hs.len ⟨er_start r, .none fun _ _ _ _ z => z⟩ hs (hread ds s0 R hs.wf q) ?_⟩
    have fin : ∀ F' cs' H' st' d v, Same F F' → cs <+: cs' → HS K F' cs' H' st' → Rp K F' cs' d v → RetTo s0.length R d st' → Q v H' := fun F' cs' H' st' d v u1 u2 u3 u4 u5 => by
      rcases u5 with u5 | ⟨hb, wf, ud, u5⟩
      · exact kk F' cs' H' st' d v u1 u2 u3 u4 u5
      · exact kk F' (cs'.take s0.length) H' (st'.take s0.length) d v u1 (pre_take u2 (by rw [hs.len]; exact Nat.le_refl _)) (u3.cut wf hb) (rp_take _ _ u4 ud) u5
    exact ⟨fun F' cs' σ' H' env' st' u1 u2 u3 u4 u5 => fin F' cs' H' st' _ .non u1 u2 u4 (.p .non) u5, fin, fun _ _ _ _ _ _ _ _ _ _ z => z.elim, fun _ _ _ _ _ _ _ _ _ _ z => z.elim, .none fun _ _ _ _ z => z⟩
end
end M


namespace M
open PySem PySem.Spec PyProof.Rows L2
inductive Kd where
  | l (a : Addr) | t (a : Addr) | s (z : Str)
def Kd.v : Kd → V
  | .l a => .ref a
  | .t a => .ref a
  | .s z => .str z
def signs (z : Str) : List V := z.cps.toList.map fun c => V.str ⟨#[c]⟩
def Kd.is (K : PySem.W.Frag) (H : Hp) : Kd → List V → Prop
  | .l a, xs => SqL K H a xs
  | .t a, xs => SqT K H a xs
  | .s z, xs => xs = signs z
def Kd.at : Kd → Addr → Nat → Heap → Prop
  | .l a, it, i, h => h.IsListIter it a i
  | .t a, it, i, h => h.IsTupleIter it a i
  | .s z, it, i, h => ∃ t, h.IsStrIter it (strIterType z) z t i
def Kd.con : Kd → List Addr
  | .l a => [a]
  | .t a => [a]
  | .s _ => []
section
variable {X : Cx} {pins : List (Addr × Obj)} {σ : L2.St} {H : Hp} {s : Shared}
theorem fp_ne {a b : Addr} {xs : List V} (I : Inv X pins σ H s) (f : FpOk X pins H b) (h : SqT X.K H a xs) : a ≠ b := fun e => by
  subst e
  rcases h with (h | ⟨o, h⟩) | ⟨o, its, n, hk, _⟩
  · rw [f.1] at h; cases h
  · rw [f.1] at h; cases h
  · have q := I.ok.mod.kin a o hk
    rcases f.2.2.2.1 with z | z
    · exact I.ok.noex a o q z
    · exact absurd (Nat.lt_of_lt_of_le (Heap.lt_size q) (Nat.le_trans I.ok.bsz z)) (Nat.lt_irrefl _)
theorem fp_neL {a b : Addr} {xs : List V} (I : Inv X pins σ H s) (f : FpOk X pins H b) (h : SqL X.K H a xs) : a ≠ b := fun e => by
  subst e
  rcases h with (h | ⟨o, h⟩) | ⟨o, its, n, hk, _⟩
  · rw [f.1] at h; cases h
  · rw [f.1] at h; cases h
  · have q := I.ok.mod.kin a o hk
    rcases f.2.2.2.1 with z | z
    · exact I.ok.noex a o q z
    · exact absurd (Nat.lt_of_lt_of_le (Heap.lt_size q) (Nat.le_trans I.ok.bsz z)) (Nat.lt_irrefl _)
theorem Kd.fp_ne {kd : Kd} {b : Addr} {xs : List V} (I : Inv X pins σ H s) (f : FpOk X pins H b) (h : kd.is X.K H xs) : b ∉ kd.con := by
  cases kd with
  | l a => intro m; simp [Kd.con] at m; exact fp_neL I f h m.symm
  | t a => intro m; simp [Kd.con] at m; exact M.fp_ne I f h m.symm
  | s z => intro m; simp [Kd.con] at m
theorem Kd.draws {kd : Kd} {xs : List V} {it : Addr} (I : Inv X pins σ H s) (h : kd.is X.K H xs) (f : FpOk X pins H it) (hh : X.A.in1.handled = none) :
    ∃ (P : Nat → Value → Prop) (St : Nat → Heap → Prop), Draws X.prog X.w X.A.in1 it (it :: kd.con) xs.length P St ∧ (∀ i, kd.at it i s.heap → St i s.heap) ∧ (∀ i h', St i h' → kd.at it i h') ∧ (∀ i v, P i v → ∃ x, xs[i]? = some x ∧ RelV x v) := by
  cases kd with
  | l a =>
    obtain ⟨its, rv, p, hz⟩ := I.list h
    have hl := rv.length
    refine ⟨fun i v => its.toArray[i]? = some v, fun i h => h.IsListIter it a i ∧ h.IsList a its.toArray, ?_, fun i q => ⟨q, p.isList⟩, fun i h' q => q.1, fun i v q => ?_⟩
    · have D := Draws.list (prog := X.prog) (w := X.w) (A := X.A.in1) hh it a (fp_neL I f h) its.toArray
      rw [List.size_toArray, ← hl] at D
      exact D
    · have q' : its[i]? = some v := by simpa using q
      have hi : i < its.length := (List.getElem?_eq_some_iff.mp q').1
      have e : xs[i]? = some (xs[i]'(by omega)) := List.getElem?_eq_getElem (by omega)
      obtain ⟨u, e2, r⟩ := rv.get e
      rw [q'] at e2; cases e2
      exact ⟨_, e, r⟩
  | t a =>
    obtain ⟨its, rv, p, hz⟩ := I.tuple h
    have hl := rv.length
    refine ⟨fun i v => its.toArray[i]? = some v, fun i h => h.IsTupleIter it a i ∧ h.IsTuple a its.toArray, ?_, fun i q => ⟨q, p⟩, fun i h' q => q.1, fun i v q => ?_⟩
    · have D := Draws.tuple (prog := X.prog) (w := X.w) (A := X.A.in1) hh it a (M.fp_ne I f h) its.toArray
      rw [List.size_toArray, ← hl] at D
      exact D
    · have q' : its[i]? = some v := by simpa using q
      have hi : i < its.length := (List.getElem?_eq_some_iff.mp q').1
      have e : xs[i]? = some (xs[i]'(by omega)) := List.getElem?_eq_getElem (by omega)
      obtain ⟨u, e2, r⟩ := rv.get e
      rw [q'] at e2; cases e2
      exact ⟨_, e, r⟩
  | s z =>
    have hx : xs = signs z := h
    subst hx
    by_cases ht : ∃ t i, s.heap.IsStrIter it (strIterType z) z t i
    · obtain ⟨t, i0, ht⟩ := ht
      refine ⟨fun i v => ∃ c u, z.cps[i]? = some c ∧ v = .str ⟨#[c]⟩ u, fun i h => h.IsStrIter it (strIterType z) z t i, ?_, fun i q => ?_, fun i h' q => ⟨t, q⟩, fun i v q => ?_⟩
      · have D := Draws.text (prog := X.prog) (w := X.w) (A := X.A.in1) hh it z t
        have e : z.cps.size = (signs z).length := by simp [signs]
        rw [e] at D
        exact D
      · obtain ⟨t', q⟩ := q
        obtain ⟨o, e1, c1, d1⟩ := ht
        obtain ⟨o', e2, c2, d2⟩ := q
        rw [e1] at e2; cases e2
        rw [d1] at d2
        refine ⟨o, e1, c1, ?_⟩
        rw [d1]
        simp only [Data.fields.injEq] at d2 ⊢
        have := congrArg Array.toList d2
        simp at this
        rw [this.2]
      · obtain ⟨c, u, e, rfl⟩ := q
        refine ⟨.str ⟨#[c]⟩, ?_, ⟨u, rfl⟩⟩
        unfold signs
        rw [List.getElem?_map, Array.getElem?_toList, e]; rfl
    · refine ⟨fun i v => ∃ c u, z.cps[i]? = some c ∧ v = .str ⟨#[c]⟩ u, fun i h => h.IsStrIter it (strIterType z) z 0 i, ?_, fun i q => ?_, fun i h' q => ⟨0, q⟩, fun i v q => ?_⟩
      · have D := Draws.text (prog := X.prog) (w := X.w) (A := X.A.in1) hh it z 0
        have e : z.cps.size = (signs z).length := by simp [signs]
        rw [e] at D
        exact D
      · obtain ⟨t', q⟩ := q
        exact absurd ⟨t', i, q⟩ ht
      · obtain ⟨c, u, e, rfl⟩ := q
        refine ⟨.str ⟨#[c]⟩, ?_, ⟨u, rfl⟩⟩
        unfold signs
        rw [List.getElem?_map, Array.getElem?_toList, e]; rfl
end
theorem Kd.at_obj {kd : Kd} {it : Addr} {i : Nat} {h : Heap} (q : kd.at it i h) : ∃ o, h.get? it = some o ∧ (∀ v, o.data ≠ .cell v) := by
  cases kd with
  | l a => obtain ⟨o, e, _, d⟩ := q; exact ⟨o, e, fun v z => by rw [d] at z; cases z⟩
  | t a => obtain ⟨o, e, _, d⟩ := q; exact ⟨o, e, fun v z => by rw [d] at z; cases z⟩
  | s z => obtain ⟨t, o, e, _, d⟩ := q; exact ⟨o, e, fun v z => by rw [d] at z; cases z⟩
theorem Kd.at_keep {kd : Kd} {it : Addr} {i : Nat} {h h' : Heap} (q : kd.at it i h) (k : ∀ o, h.get? it = some o → h'.get? it = some o) : kd.at it i h' := by
  cases kd with
  | l a => exact q.at k
  | t a => exact q.at k
  | s z => obtain ⟨t, o, e, r⟩ := q; exact ⟨t, o, k o e, r⟩
theorem Kd.cls {kd : Kd} {it : Addr} {i : Nat} {h : Heap} (q : kd.at it i h) : ∃ o, h.get? it = some o ∧ o.cls ≠ .type "enumerate" ∧ o.cls ≠ .type "zip" ∧ o.cls ≠ .type "tuple" := by
  cases kd with
  | l a => obtain ⟨o, e, c, d⟩ := q; exact ⟨o, e, by rw [c]; decide, by rw [c]; decide, by rw [c]; decide⟩
  | t a => obtain ⟨o, e, c, d⟩ := q; exact ⟨o, e, by rw [c]; decide, by rw [c]; decide, by rw [c]; decide⟩
  | s z =>
    obtain ⟨t, o, e, c, d⟩ := q
    refine ⟨o, e, ?_, ?_, ?_⟩ <;> (rw [c]; unfold strIterType; split <;> decide)
theorem meets_enumerate_new1 {v : Value} {o : Obj} {H : Heap → Prop} (B : Begins v o H) :
    Meets (Builtin.«enumerate.__new__» ⟨[.type "enumerate", v], []⟩) (fun _ R s => H s.heap ∧
      R (.ok (.ret (.ref (s.heap.push o).objs.size))) { s with heap := (s.heap.push o).push { cls := .type "enumerate", data := .fields #[.none, .bool false, .ref s.heap.objs.size, rawInt 0, .none, .none] } }) :=
  .of_wp fun prog w A R s h => by
    obtain ⟨hp, g, d, tk, os⟩ := s; obtain ⟨h1, h⟩ := h
    have hsub := sub_enumerate
    have q1 : ∀ {A' : Around} {E : Value → Shared → Prop} {Q : Value → Shared → Prop}, Q (.ref hp.objs.size) ⟨hp.push o, g, d, tk, os⟩ → wpAny (model prog w) A' (pyIter v) Q E ⟨hp, g, d, tk, os⟩ :=
      fun q => B.iter prog w _ _ ⟨hp, g, d, tk, os⟩ _ h1 q
    wp_walk using q1
    refine wpAny_stack_any fun st => wpAny_pure ?_
    split
    · rename_i c _ _ _ _ _
      cases (c == Value.type "enumerate")
      · wp_walk using q1
        exact ⟨_, rfl, h⟩
      · wp_walk using q1
        exact ⟨_, rfl, h⟩
    · wp_walk using q1
      exact ⟨_, rfl, h⟩
theorem enum1 {prog : Program} {w : World} {A : Around} {E : Value → Shared → Prop} {s : Shared} {v : Value} {o : Obj} {H : Heap → Prop} {Q : Value → Shared → Prop} (B : Begins v o H) (h1 : H s.heap)
    (h : ∀ h', IsEnum h' (s.heap.objs.size + 1) s.heap.objs.size 0 .none → h'.get? s.heap.objs.size = some o → h'.objs.size = s.heap.objs.size + 2 →
      (∀ b o, s.heap.get? b = some o → h'.get? b = some o) → Q (.ref (s.heap.objs.size + 1)) { s with heap := h' }) :
    wpAny (model prog w) A (call (.type "enumerate") [v]) Q E s := by
  refine callType_new F.called_enumerate (by decide) (F.typeCall_enumerate_1 _) (F.newCall_enumerate_1 _) (fun obj => F.args_object_init_2 obj _) F.entry_enumerate_new
    (meets_enumerate_new1 B) ⟨h1, ?_⟩
  have hz : (s.heap.push o).objs.size = s.heap.objs.size + 1 := Heap.size_push ..
  show _ ∧ _
  rw [hz]
  have he : IsEnum ((s.heap.push o).push { cls := .type "enumerate", data := .fields #[.none, .bool false, .ref s.heap.objs.size, rawInt 0, .none, .none] }) (s.heap.objs.size + 1) s.heap.objs.size 0 .none := by
    have := Heap.get?_push_size (s.heap.push o) (o := { cls := .type "enumerate", data := .fields #[.none, .bool false, .ref s.heap.objs.size, rawInt 0, .none, .none] }) rfl
    rw [hz] at this; exact this
  refine ⟨⟨_, he, rfl⟩, h _ he (Heap.get?_push_of_some _ (Heap.get?_push_size _ B.free)) (by rw [Heap.size_push, hz]) fun b o x => Heap.get?_push_of_some _ (Heap.get?_push_of_some _ x)⟩
def IteK (K : PySem.W.Frag) (kd : Kd) : It :=
  ⟨fun i H => ∃ (xs : List V) (x : V), kd.is K H xs ∧ xs[i]? = some x, fun i H v H' => ∃ T x, v = .ref T ∧ H T = none ∧ H' = upd H T (.tup [.int (i : Nat), x]) ∧ ∀ xs, kd.is K H xs → xs[i]? = some x, fun i H => ∃ xs : List V, kd.is K H xs ∧ xs.length = i⟩
theorem Kd.inj {X : Cx} {pins : List (Addr × Obj)} {σ : L2.St} {H : Hp} {s : Shared} {kd : Kd} {xs ys : List V} (I : Inv X pins σ H s) (h : kd.is X.K H xs) (h' : kd.is X.K H ys) : xs = ys := by
  cases kd with
  | l a => exact I.list_inj h h'
  | t a => exact I.tuple_inj h h'
  | s z => exact (show xs = signs z from h).trans (show ys = signs z from h').symm
theorem turn_enumK {P : Program} {w : World} {K : PySem.W.Frag} {elts : List Expr} {kk : Nat} {tpos : Pos} (kd : Kd) (e it : Addr) :
    Turn P w K (.Tuple elts kk tpos) (IteK K kd) [e, it] e (fun i h => (∃ old, IsEnum h e it ((i : Nat) : Int) old) ∧ kd.at it i h) where
  mem := by simp
  obj := fun i h st b hb => by
    obtain ⟨⟨old, he⟩, hi⟩ := st
    have e' : b = e ∨ b = it := by simpa using hb
    rcases e' with z | z
    · rw [z]; exact ⟨_, he, fun v q => nomatch q⟩
    · rw [z]; exact Kd.at_obj (kd := kd) hi
  keep := fun i h h' st k => let ⟨⟨old, he⟩, hi⟩ := st; ⟨⟨old, k e (by simp) _ he⟩, Kd.at_keep (kd := kd) hi fun o q => k it (by simp) o q⟩
  item := by
    intro X hP hw hK hc i pins s σ H E I hf st hg
    subst hP hw hK
    obtain ⟨⟨old, he⟩, hit⟩ := st
    obtain ⟨xs, x, hq, hx⟩ := hg
    obtain ⟨P, St, D, d1, d2, d3⟩ := Kd.draws (kd := kd) I hq (hf it (by simp)) (I.ok.hd hc)
    have hei : e ≠ it := fun z => by
      obtain ⟨o, e1, c, _⟩ := Kd.cls (kd := kd) hit
      rw [← z, he] at e1; cases e1; exact c rfl
    have hef : e ∉ it :: kd.con := fun m => by
      rcases List.mem_cons.mp m with z | z
      · exact hei z
      · exact Kd.fp_ne (kd := kd) I (hf e (by simp)) hq z
    have G := GoesN.enumFrom (elts := elts) (x1 := kk) (pos := tpos) 0 D e hei hef (by simp)
    have hi : i < xs.length := (List.getElem?_eq_some_iff.mp hx).1
    have e0 : ((0 : Int) + (i : Nat)) = ((i : Nat) : Int) := by omega
    have e2 : ((0 : Int) + ((i + 1 : Nat) : Int)) = ((i + 1 : Nat) : Int) := by omega
    refine wpAny_mono (G.goes i s (fun v s2 => ∃ x H', Inv X pins σ H' s2 ∧ RelV x v ∧ (IteK X.K kd).yld i H x H' ∧ ((∃ old, IsEnum s2.heap e it ((i + 1 : Nat) : Int) old) ∧ kd.at it (i + 1) s2.heap) ∧ ∀ b ∈ [e, it], H' b = none) E hi ⟨⟨old, by rw [e0]; exact he⟩, d1 i hit⟩ ?_) (fun r s1 h => ?_) (fun _ _ z => z)
    · rintro v h' tk ⟨T, t, y, rfl, hT, hP, hTup⟩ ⟨⟨old2, he2⟩, st2⟩ hk htk
      obtain ⟨x', ex', rx⟩ := d3 i y hP
      have new : ObjOk X.prog X.w (upd H T (.tup [.int (i : Nat), x'])) h' T (.tup [.int (i : Nat), x']) :=
        ⟨by show 2 ≤ sizeLine; decide, [.int (0 + (i : Nat)) t, y], .cons ⟨t, by rw [e0]⟩ (.cons rx .nil), hTup⟩
      have I1 : Inv X pins σ (upd H T (.tup [.int (i : Nat), x'])) { s with heap := h', toks := tk } := I.turnedNew (ch := [e, it]) (fun b o hb q => hk b o (by simpa using hb) q) hf hT new
      refine ⟨.ref T, _, I1, rfl, ⟨T, x', rfl, I.hok.fresh hT, rfl, fun ys hy => by rw [Kd.inj (kd := kd) I hy hq]; exact ex'⟩, ⟨⟨old2, by rw [← e2]; exact he2⟩, d2 _ _ st2⟩, fun b hb => ?_⟩
      have hb' : b < s.heap.objs.size := by
        have e' : b = e ∨ b = it := by simpa using hb
        rcases e' with z | z
        · rw [z]; exact Heap.lt_size he
        · rw [z]; obtain ⟨o, q, _⟩ := Kd.cls (kd := kd) hit; exact Heap.lt_size q
      rw [upd_ne (Nat.ne_of_lt (Nat.lt_of_lt_of_le hb' hT))]
      exact (hf b hb).1
    · obtain ⟨v, hr, hh⟩ := h
      exact ⟨v, hr, wpAny_mono hh (fun _ s2 q => by
        obtain ⟨x, H', q1, q2, q3, q4, q5⟩ := q
        exact ⟨x, H', q1, q2, q3, q4, q5⟩) fun _ _ z => z⟩
  done := by
    intro X hP hw hK hc i pins s σ H E I hf st hg
    subst hP hw hK
    obtain ⟨⟨old, he⟩, hit⟩ := st
    obtain ⟨xs, hq, hx⟩ := hg
    obtain ⟨P, St, D, d1, d2, d3⟩ := Kd.draws (kd := kd) I hq (hf it (by simp)) (I.ok.hd hc)
    have hei : e ≠ it := fun z => by
      obtain ⟨o, e1, c, _⟩ := Kd.cls (kd := kd) hit
      rw [← z, he] at e1; cases e1; exact c rfl
    have hef : e ∉ it :: kd.con := fun m => by
      rcases List.mem_cons.mp m with z | z
      · exact hei z
      · exact Kd.fp_ne (kd := kd) I (hf e (by simp)) hq z
    have G := GoesN.enumFrom (elts := elts) (x1 := kk) (pos := tpos) 0 D e hei hef (by simp)
    have e0 : ((0 : Int) + (i : Nat)) = ((i : Nat) : Int) := by omega
    subst hx
    exact G.stops s (fun s1 => Inv X pins σ H s1) E ⟨⟨old, by rw [e0]; exact he⟩, d1 _ hit⟩ fun h' tk hk htk => I.turnedL (t' := tk) (ch := [e, it]) (fun b o hb q => hk b o (by simpa using hb) q) hf
  self := fun A i s Q E st h => let ⟨⟨_, he⟩, _⟩ := st; wpAny_pyIter_enum he h
theorem Kd.begins {X : Cx} {pins : List (Addr × Obj)} {σ : L2.St} {H : Hp} {s : Shared} {kd : Kd} {xs : List V} {u : Value} (I : Inv X pins σ H s) (h : kd.is X.K H xs) (r : RelV kd.v u) :
    ∃ o Hh, Begins u o Hh ∧ Hh s.heap ∧ ∀ it h', h'.get? it = some o → kd.at it 0 h' := by
  cases kd with
  | l a =>
    obtain ⟨its, rv, p, hz⟩ := I.list h
    cases r
    exact ⟨_, _, begins_list a its.toArray, p.isList, fun it h' e => ⟨_, e, rfl, rfl⟩⟩
  | t a =>
    obtain ⟨its, rv, p, hz⟩ := I.tuple h
    cases r
    exact ⟨_, _, begins_tuple a its.toArray, p, fun it h' e => ⟨_, e, rfl, rfl⟩⟩
  | s z =>
    obtain ⟨t, rfl⟩ := r
    exact ⟨_, _, begins_text z t, trivial, fun it h' e => ⟨t, _, e, rfl, rfl⟩⟩
def iEnumK (K : PySem.W.Frag) (ta : TA) : TI := fun σ H R => ta σ H fun vs H1 => ∃ kd xs, vs = [Kd.v kd] ∧ kd.is K H1 xs ∧ R (IteK K kd) H1
theorem pi_enumK {X : Cx} {e : Expr} {ta : TA} {p pos tpos : Pos} {elts : List Expr} {kk : Nat} (hg : Gl X "enumerate") (hm : X.mg "enumerate" = none) (ha : PA X [e] ta) (hs : starEach [e] X.env = [(false, eval e X.env)] := by rfl) :
    PI X (.Tuple elts kk tpos) (.Call (.Name "enumerate" p) [e] [] pos) (iEnumK X.K ta) := by
  refine ⟨fun pins s σ H R I h => ?_⟩
  refine Call_ (ld_blt I hg hm boot_enumerate (PyProof.Rows.callWith_type1 (thn (ha.run pos pins s σ H _ I h) fun us s1 ⟨vs, H1, I1, r1, q1⟩ => ?_) hs rfl))
  obtain ⟨kd, xs, ex, hq, q⟩ := q1
  subst ex
  obtain ⟨u, rfl, r⟩ := r1.one
  obtain ⟨o, Hh, B, hb, ha0⟩ := Kd.begins (kd := kd) I1 hq r
  refine enum1 B hb fun h' he ho hsz hk => wpAny_pyIter_enum he ?_
  have I2 : Inv X pins σ H1 { s1 with heap := h' } := I1.kept (t' := s1.toks) hk
  refine ⟨s1.heap.objs.size + 1, [s1.heap.objs.size + 1, s1.heap.objs.size], _, _, H1, rfl, I2, turn_enumK kd (s1.heap.objs.size + 1) s1.heap.objs.size, ⟨⟨.none, he⟩, ha0 _ _ ho⟩, fun b hb => ?_, q⟩
  have e' : b = s1.heap.objs.size + 1 ∨ b = s1.heap.objs.size := by simpa using hb
  have hle : s1.heap.objs.size ≤ b := by
    rcases e' with z | z
    · rw [z]; exact Nat.le_add_right _ _
    · rw [z]; exact Nat.le_refl _
  exact I1.fpOk hle (I1.hok.fresh hle)
def ItzK (K : PySem.W.Frag) (k1 k2 : Kd) : It :=
  ⟨fun i H => ∃ (xs ys : List V) (x y : V), k1.is K H xs ∧ k2.is K H ys ∧ xs[i]? = some x ∧ ys[i]? = some y,
    fun i H v H' => ∃ T x y, v = .ref T ∧ H T = none ∧ H' = upd H T (.tup [x, y]) ∧ (∀ xs, k1.is K H xs → xs[i]? = some x) ∧ ∀ ys, k2.is K H ys → ys[i]? = some y,
    fun i H => ∃ xs ys : List V, k1.is K H xs ∧ k2.is K H ys ∧ min xs.length ys.length = i⟩
theorem zip_sep {X : Cx} {pins : List (Addr × Obj)} {σ : L2.St} {H : Hp} {s : Shared} {k1 k2 : Kd} {xs ys : List V} {z TI TO i1 i2 : Addr} {i : Nat} (I : Inv X pins σ H s) (hx : k1.is X.K H xs) (hy : k2.is X.K H ys) (hf : ∀ b ∈ [z, TI, TO, i1, i2], FpOk X pins H b)
    (hz : IsZip s.heap z TI TO .none) (hTI : ∃ o, s.heap.get? TI = some o ∧ o.cls = .type "tuple") (hTO : ∃ o, s.heap.get? TO = some o ∧ o.cls = .type "tuple") (hTT : TI ≠ TO) (h1 : k1.at i1 i s.heap) (h2 : k2.at i2 i s.heap) (h12 : i1 ≠ i2) : ZipSep2 z TI TO i1 i2 (i1 :: k1.con) (i2 :: k2.con) := by
  obtain ⟨oI, eI, cI⟩ := hTI
  obtain ⟨oO, eO, cO⟩ := hTO
  obtain ⟨o1, e1, c1, c1z, c1t⟩ := Kd.cls (kd := k1) h1
  obtain ⟨o2, e2, c2, c2z, c2t⟩ := Kd.cls (kd := k2) h2
  have f1 : ∀ b ∈ [z, TI, TO, i1, i2], b ∉ k1.con := fun b hb => Kd.fp_ne (kd := k1) I (hf b hb) hx
  have f2 : ∀ b ∈ [z, TI, TO, i1, i2], b ∉ k2.con := fun b hb => Kd.fp_ne (kd := k2) I (hf b hb) hy
  refine ⟨fun q => ?_, fun q => ?_, hTT, fun q => ?_, by simp, fun m => ?_, fun m => ?_, fun q => ?_, by simp, fun m => ?_, fun m => ?_, fun m => ?_, fun m => ?_⟩
  · rw [q, hz] at eI; cases eI; exact absurd (show Value.type "zip" = Value.type "tuple" from cI) (by decide)
  · rw [q, hz] at eO; cases eO; exact absurd (show Value.type "zip" = Value.type "tuple" from cO) (by decide)
  · rw [q, e1] at eI; cases eI; exact c1t cI
  · rcases List.mem_cons.mp m with q | q
    · rw [← q, hz] at e1; cases e1; exact c1z rfl
    · exact f1 z (by simp) q
  · rcases List.mem_cons.mp m with q | q
    · rw [← q, eO] at e1; cases e1; exact c1t cO
    · exact f1 TO (by simp) q
  · rw [q, e2] at eI; cases eI; exact c2t cI
  · rcases List.mem_cons.mp m with q | q
    · rw [← q, hz] at e2; cases e2; exact c2z rfl
    · exact f2 z (by simp) q
  · rcases List.mem_cons.mp m with q | q
    · rw [← q, eO] at e2; cases e2; exact c2t cO
    · exact f2 TO (by simp) q
  · rcases List.mem_cons.mp m with q | q
    · exact h12 q
    · exact f2 i1 (by simp) q
  · rcases List.mem_cons.mp m with q | q
    · exact h12 q.symm
    · exact f1 i2 (by simp) q
theorem zsub {z TI TO i1 i2 : Addr} (b : Addr) (m : b ∈ [z, TO, i1, i2]) : b ∈ [z, TI, TO, i1, i2] := by
  simp at m ⊢
  rcases m with h | h | h | h <;> simp [h]
theorem turn_zipK {P : Program} {w : World} {K : PySem.W.Frag} {elts : List Expr} {kk : Nat} {tpos : Pos} (k1 k2 : Kd) (z TI TO i1 i2 : Addr) (hTT : TI ≠ TO) (h12 : i1 ≠ i2) :
    Turn P w K (.Tuple elts kk tpos) (ItzK K k1 k2) [z, TI, TO, i1, i2] z (fun i h => IsZip h z TI TO .none ∧ IsTupOf2 h TI (.ref i1) (.ref i2) ∧ (∃ x y, IsTupOf2 h TO x y) ∧ k1.at i1 i h ∧ k2.at i2 i h) where
  mem := by simp
  obj := fun i h st c hc => by
    obtain ⟨hz, hTI, ⟨x, y, hTO⟩, h1, h2⟩ := st
    have e' : c = z ∨ c = TI ∨ c = TO ∨ c = i1 ∨ c = i2 := by simpa using hc
    rcases e' with q | q | q | q | q
    · rw [q]; exact ⟨_, hz, fun v q => nomatch q⟩
    · rw [q]; exact ⟨_, hTI, fun v q => nomatch q⟩
    · rw [q]; exact ⟨_, hTO, fun v q => nomatch q⟩
    · rw [q]; exact Kd.at_obj (kd := k1) h1
    · rw [q]; exact Kd.at_obj (kd := k2) h2
  keep := fun i h h' st k => by
    obtain ⟨hz, hTI, ⟨x, y, hTO⟩, h1, h2⟩ := st
    exact ⟨k z (by simp) _ hz, k TI (by simp) _ hTI, ⟨x, y, k TO (by simp) _ hTO⟩, Kd.at_keep (kd := k1) h1 fun o q => k i1 (by simp) o q, Kd.at_keep (kd := k2) h2 fun o q => k i2 (by simp) o q⟩
  item := by
    intro X hP hw hK hc i pins s σ H E I hf st hg
    subst hP hw hK
    obtain ⟨hz, hTI, ⟨x0, y0, hTO⟩, h1, h2⟩ := st
    obtain ⟨xs, ys, x, y, hqx, hqy, hx, hy⟩ := hg
    obtain ⟨P1, St1, D1, d1, d2, d3⟩ := Kd.draws (kd := k1) I hqx (hf i1 (by simp)) (I.ok.hd hc)
    obtain ⟨P2, St2, D2, g1, g2, g3⟩ := Kd.draws (kd := k2) I hqy (hf i2 (by simp)) (I.ok.hd hc)
    have S := zip_sep I hqx hqy hf hz ⟨_, hTI, rfl⟩ ⟨_, hTO, rfl⟩ hTT h1 h2 h12
    have G := GoesN.zip2 (elts := elts) (x1 := kk) (pos := tpos) S D1 D2
    have hi : i < min xs.length ys.length := by
      have a1 := (List.getElem?_eq_some_iff.mp hx).1
      have a2 := (List.getElem?_eq_some_iff.mp hy).1
      omega
    have hlt : ∀ b ∈ [z, TI, TO, i1, i2], b < s.heap.objs.size := fun c hcm => by
      have e' : c = z ∨ c = TI ∨ c = TO ∨ c = i1 ∨ c = i2 := by simpa using hcm
      rcases e' with q | q | q | q | q
      · rw [q]; exact Heap.lt_size hz
      · rw [q]; exact Heap.lt_size hTI
      · rw [q]; exact Heap.lt_size hTO
      · rw [q]; obtain ⟨o, e1, _⟩ := Kd.cls (kd := k1) h1; exact Heap.lt_size e1
      · rw [q]; obtain ⟨o, e1, _⟩ := Kd.cls (kd := k2) h2; exact Heap.lt_size e1
    refine wpAny_mono (G.goes i s (fun v s2 => ∃ x H', Inv X pins σ H' s2 ∧ RelV x v ∧ (ItzK X.K k1 k2).yld i H x H' ∧ (IsZip s2.heap z TI TO .none ∧ IsTupOf2 s2.heap TI (.ref i1) (.ref i2) ∧ (∃ x y, IsTupOf2 s2.heap TO x y) ∧ k1.at i1 (i + 1) s2.heap ∧ k2.at i2 (i + 1) s2.heap) ∧ ∀ b ∈ [z, TI, TO, i1, i2], H' b = none) E hi ⟨hz, hTI, ⟨_, _, hTO⟩, d1 i h1, g1 i h2⟩ ?_) (fun r s1 h => ?_) (fun _ _ z => z)
    · rintro v h' tk ⟨T, u1, u2, rfl, hT, hP1, hP2, hTup⟩ ⟨z2, TI2, ⟨a1, a2, TO2⟩, s1, s2⟩ hk htk
      obtain ⟨x', ex', rx⟩ := d3 i u1 hP1
      obtain ⟨y', ey', ry⟩ := g3 i u2 hP2
      have new : ObjOk X.prog X.w (upd H T (.tup [x', y'])) h' T (.tup [x', y']) :=
        ⟨by show 2 ≤ sizeLine; decide, [u1, u2], .cons rx (.cons ry .nil), hTup⟩
      have I1 : Inv X pins σ (upd H T (.tup [x', y'])) { s with heap := h', toks := tk } := I.turnedNew (ch := [z, TI, TO, i1, i2]) (fun b o hb q => hk b o (fun m => hb (zsub b m)) q) hf hT new
      refine ⟨.ref T, _, I1, rfl, ⟨T, x', y', rfl, I.hok.fresh hT, rfl, fun l hl => by rw [Kd.inj (kd := k1) I hl hqx]; exact ex', fun l hl => by rw [Kd.inj (kd := k2) I hl hqy]; exact ey'⟩, ⟨z2, TI2, ⟨a1, a2, TO2⟩, d2 _ _ s1, g2 _ _ s2⟩, fun b hb => ?_⟩
      rw [upd_ne (Nat.ne_of_lt (Nat.lt_of_lt_of_le (hlt b hb) hT))]
      exact (hf b hb).1
    · obtain ⟨v, hr, hh⟩ := h
      exact ⟨v, hr, wpAny_mono hh (fun _ s2 q => by
        obtain ⟨x, H', q1, q2, q3, q4, q5⟩ := q
        exact ⟨x, H', q1, q2, q3, q4, q5⟩) fun _ _ z => z⟩
  done := by
    intro X hP hw hK hc i pins s σ H E I hf st hg
    subst hP hw hK
    obtain ⟨hz, hTI, ⟨x0, y0, hTO⟩, h1, h2⟩ := st
    obtain ⟨xs, ys, hqx, hqy, hend⟩ := hg
    obtain ⟨P1, St1, D1, d1, d2, d3⟩ := Kd.draws (kd := k1) I hqx (hf i1 (by simp)) (I.ok.hd hc)
    obtain ⟨P2, St2, D2, g1, g2, g3⟩ := Kd.draws (kd := k2) I hqy (hf i2 (by simp)) (I.ok.hd hc)
    have S := zip_sep I hqx hqy hf hz ⟨_, hTI, rfl⟩ ⟨_, hTO, rfl⟩ hTT h1 h2 h12
    have G := GoesN.zip2 (elts := elts) (x1 := kk) (pos := tpos) S D1 D2
    subst hend
    exact G.stops s (fun s1 => Inv X pins σ H s1) E ⟨hz, hTI, ⟨_, _, hTO⟩, d1 _ h1, g1 _ h2⟩ fun h' tk hk htk => I.turnedL (t' := tk) (ch := [z, TI, TO, i1, i2]) (fun b o hb q => hk b o (fun m => hb (zsub b m)) q) hf
  self := fun A i s Q E st h => wpAny_pyIter_zip st.1 h
def iZipK (K : PySem.W.Frag) (ta : TA) : TI := fun σ H R => ta σ H fun vs H1 => ∃ k1 k2 xs ys, vs = [Kd.v k1, Kd.v k2] ∧ k1.is K H1 xs ∧ k2.is K H1 ys ∧ R (ItzK K k1 k2) H1
theorem pi_zipK {X : Cx} {e e2 : Expr} {ta : TA} {p pos tpos : Pos} {elts : List Expr} {kk : Nat} (hg : Gl X "zip") (hm : X.mg "zip" = none) (ha : PA X [e, e2] ta)
    (hs : starEach [e, e2] X.env = (false, eval e X.env) :: starEach [e2] X.env := by rfl) (hpl : (backTo pos (starEach [e2] X.env)).any (·.1) = false := by rfl) :
    PI X (.Tuple elts kk tpos) (.Call (.Name "zip" p) [e, e2] [] pos) (iZipK X.K ta) := by
  refine ⟨fun pins s σ H R I h => ?_⟩
  refine Call_ (ld_blt I hg hm PyProof.Rows.boot_zip (PyProof.Rows.callWith_type1 (thn (ha.run pos pins s σ H _ I h) fun us s1 ⟨vs, H1, I1, r1, q1⟩ => ?_) hs hpl))
  obtain ⟨k1, k2, xs, ys, ex, hqx, hqy, q⟩ := q1
  subst ex
  obtain ⟨u1, u2, rfl, r1, r2⟩ := r1.two
  obtain ⟨o1, H1', B1, hb1, ha1⟩ := Kd.begins (kd := k1) I1 hqx r1
  obtain ⟨o2, H2', B2, hb2, ha2⟩ := Kd.begins (kd := k2) I1 hqy r2
  refine zip_begins2 B1 B2 hb1 hb2 fun h' hz hTI hTO h1 h2 hsz hk => wpAny_pyIter_zip hz ?_
  have I2 : Inv X pins σ H1 { s1 with heap := h' } := I1.kept (t' := s1.toks) hk
  refine ⟨s1.heap.objs.size + 4, [s1.heap.objs.size + 4, s1.heap.objs.size + 2, s1.heap.objs.size + 3, s1.heap.objs.size, s1.heap.objs.size + 1], _, _, H1, rfl, I2, turn_zipK k1 k2 _ _ _ _ _ (fun e => nomatch (Nat.add_left_cancel e)) (Nat.ne_of_lt (Nat.lt_succ_self _)), ⟨hz, hTI, ⟨_, _, hTO⟩, ha1 _ _ h1, ha2 _ _ h2⟩, fun c hcm => ?_, q⟩
  have e' : c = s1.heap.objs.size + 4 ∨ c = s1.heap.objs.size + 2 ∨ c = s1.heap.objs.size + 3 ∨ c = s1.heap.objs.size ∨ c = s1.heap.objs.size + 1 := by simpa using hcm
  have hle : s1.heap.objs.size ≤ c := by
    rcases e' with z | z | z | z | z
    · rw [z]; exact Nat.le_add_right _ _
    · rw [z]; exact Nat.le_add_right _ _
    · rw [z]; exact Nat.le_add_right _ _
    · rw [z]; exact Nat.le_refl _
    · rw [z]; exact Nat.le_add_right _ _
  exact I1.fpOk hle (I1.hok.fresh hle)
end M


namespace M
open PySem PySem.Spec PyProof.Rows L2
section
variable {X : XM}
def mInt (C : Int → Int → Prop) (g : Int → Int → PyData) : M2 := fun x y st Q => match x, y with
  | .p (.int i), .p (.int j) => C i j ∧ Q (.p (g i j)) st
  | _, _ => False
def vOf : PyData → V
  | .int i => .int i
  | .bool b => .bl b
  | .str x => .str x
  | _ => .non
theorem om_int {f : Value → Value → Sem Value} {C C' : Int → Int → Prop} {g : Int → Int → PyData} (h : OpR X f (rI C' fun i j => vOf (g i j))) (hC : ∀ i j, C i j → C' i j) (hg : ∀ F : Hp, ∀ i j, Dq X.K F (vOf (g i j)) (g i j)) : OpM X f (mInt C g) :=
  ⟨_, h, fun F cs H st x y v u Q R hs rx ry q k => by
    unfold mInt at q
    split at q
    · exact ⟨_, _, rp_int rx, rp_int ry, hC _ _ q.1, k _ _ (.mk hs (.p (hg F _ _)) q.2)⟩
    · exact q.elim⟩
theorem opr_I0 {f : Value → Value → Sem Value} {g : Int → Int → V} (h : OpR X f (rI0 g)) : OpR X f (rI (fun _ _ => True) g) := fun pins s σ H x y v u Q I rx ry ⟨i, j, e1, e2, _, q⟩ => h pins s σ H x y v u Q I rx ry ⟨i, j, e1, e2, q⟩
def mSub : M2 := mInt (fun _ _ => True) fun i j => .int (i - j)
theorem om_sub : OpM X (binaryOp .Sub) mSub := om_int (opr_I0 op_sub) (fun _ _ h => h) fun _ _ _ => .int _
def CDv (_ j : Int) : Prop := 0 < j ∧ j.natAbs.log2 < 9000
def mDiv : M2 := mInt CDv fun i j => .int (i / j)
theorem om_div : OpM X (binaryOp .FloorDiv) mDiv := om_int op_fdivW (fun _ _ h => h) fun _ _ _ => .int _
def mMod : M2 := mInt (fun _ j => 0 < j) fun i j => .int (i % j)
theorem om_mod : OpM X (binaryOp .Mod) mMod := om_int op_mod (fun _ _ h => h) fun _ _ _ => .int _
def mPow : M2 := mInt CPow fun i j => .int (i ^ j.toNat)
theorem om_pow : OpM X (binaryOp .Pow) mPow := om_int op_pow (fun _ _ h => h) fun _ _ _ => .int _
def mLt : M2 := mInt (fun _ _ => True) fun i j => .bool (decide (i < j))
def mLe : M2 := mInt (fun _ _ => True) fun i j => .bool (decide (i ≤ j))
def mGt : M2 := mInt (fun _ _ => True) fun i j => .bool (decide (j < i))
def mGe : M2 := mInt (fun _ _ => True) fun i j => .bool (decide (j ≤ i))
theorem om_lt : OpM X (compareOp .Lt) mLt := om_int (opr_I0 op_lt) (fun _ _ h => h) fun _ _ _ => .bl _
theorem om_le : OpM X (compareOp .LtE) mLe := om_int (opr_I0 op_le) (fun _ _ h => h) fun _ _ _ => .bl _
theorem om_gt : OpM X (compareOp .Gt) mGt := om_int (opr_I0 op_gt) (fun _ _ h => h) fun _ _ _ => .bl _
theorem om_ge : OpM X (compareOp .GtE) mGe := om_int (opr_I0 op_ge) (fun _ _ h => h) fun _ _ _ => .bl _
def wNeg (wa : WE) : WE := fun env st Q => wa env st fun x s => match x with
  | .p (.int i) => Q (.p (.int (-i))) s
  | _ => False
theorem se_neg {a : Expr} {wa : WE} {pos : Pos} (ha : SE X a wa) : SE X (.UnaryOp .USub a pos) (wNeg wa) := by
  obtain ⟨ta, pa, ka⟩ := ha
  refine ⟨_, pe_un un_neg pa, fun F cs σ H env st Q R er hs h k => ka F cs σ H env st _ _ er hs h ?_⟩
  rintro v H1 ⟨F1, c1, d, s1, e1, e2, h1, r1, q⟩
  split at q
  · exact ⟨_, rp_int r1, k _ _ ⟨F1, c1, _, s1, e1, e2, h1, .p (.int _), q⟩⟩
  · exact q.elim
def seqOf (st : Store) : SV → Option (List SV)
  | .p (.tuple ds) => some (ds.map SV.p)
  | .p (.list ds) => some (ds.map SV.p)
  | .t xs => some xs
  | .c n => match st[n]? with
    | some (.lst xs) => some xs
    | _ => none
  | _ => none
def listOf (st : Store) : SV → Option (List SV)
  | .p (.list ds) => some (ds.map SV.p)
  | .c n => match st[n]? with
    | some (.lst xs) => some xs
    | _ => none
  | _ => none
section
variable {F : Hp} {cs : List Addr} {H : Hp} {st : Store} {x : SV} {v : V} {xs : List SV}
theorem rp_list (hs : HS X.K F cs H st) (r : Rp X.K F cs x v) (h : listOf st x = some xs) : ∃ a vs, v = .ref a ∧ H a = some (.lst vs) ∧ Rps X.K F cs xs vs := by
  cases r with
  | p r =>
    cases r with
    | lst he ha => cases h; exact ⟨_, _, rfl, hs.sub _ _ he, rps_p.mpr ha⟩
    | _ => cases h
  | @c n a e =>
    have h : (match st[n]? with | some (.lst xs) => some xs | _ => none) = some xs := h
    cases q : st[n]? with
    | none => rw [q] at h; cases h
    | some o =>
      rw [q] at h
      cases o with
      | lst ys =>
        cases h
        obtain ⟨vs, e2, r2⟩ := hs.cell n a _ e q
        exact ⟨a, vs, rfl, e2, r2⟩
      | dct _ => cases h
      | ins _ _ => cases h
  | t _ _ => cases h
  | ro _ => cases h
  | x _ _ _ => cases h
theorem rp_seq (hs : HS X.K F cs H st) (r : Rp X.K F cs x v) (h : seqOf st x = some xs) : ∃ a vs, v = .ref a ∧ (SqL X.K H a vs ∨ SqT X.K H a vs) ∧ Rps X.K F cs xs vs := by
  by_cases hl : listOf st x = some xs
  · obtain ⟨a, vs, e, q, r⟩ := rp_list hs r hl
    exact ⟨a, vs, e, .inl (.inl (.inl q)), r⟩
  · have ht : tupOf x = some xs := by
      cases x with
      | p d => cases d <;> first | exact h | exact absurd h hl | cases h
      | c n => exact absurd h hl
      | t ys => exact h
      | ro _ => cases h
      | x _ _ => cases h
    obtain ⟨a, vs, e, q, r⟩ := rp_tup r ht
    exact ⟨a, vs, e, .inr (sqT_mono hs.sub q), r⟩
end
def allP : List SV → Option (List PyData)
  | [] => some []
  | .p d :: xs => (allP xs).map (d :: ·)
  | _ :: _ => none
theorem allP_eq : ∀ {xs : List SV} {ds : List PyData}, allP xs = some ds → xs = ds.map SV.p
  | [], ds, h => by cases h; rfl
  | .p d :: xs, ds, h => by
    unfold allP at h
    cases q : allP xs with
    | none => rw [q] at h; cases h
    | some es => rw [q] at h; cases h; rw [allP_eq q]; rfl
  | .c _ :: _, _, h => by cases h
  | .t _ :: _, _, h => by cases h
  | .ro _ :: _, _, h => by cases h
  | .x _ _ :: _, _, h => by cases h
theorem allP_map : ∀ (ds : List PyData), allP (ds.map SV.p) = some ds
  | [] => rfl
  | d :: ds => by simp [allP, allP_map ds]
def mkTup (xs : List SV) : SV := match allP xs with
  | some ds => .p (.tuple ds)
  | none => .t xs
theorem rp_mkTup {F : Hp} {cs : List Addr} {xs : List SV} {a : Addr} {vs : List V} (h : F a = some (.tup vs)) (r : Rps X.K F cs xs vs) : Rp X.K F cs (mkTup xs) (.ref a) := by
  unfold mkTup
  split
  · rename_i ds e
    rw [allP_eq e] at r
    exact .p (.tup (.inl (.inl h)) (rps_p.mp r))
  · exact .t (.inl (.inl h)) r
variable {es : List Expr} {wa : WA} {pos : Pos}
def wTup (wa : WA) : WE := fun env st Q => wa env st fun xs s => xs.length ≤ sizeLine ∧ Q (mkTup xs) s
theorem se_tup {x1} (h : SA X es wa) : SE X (.Tuple es x1 pos) (wTup wa) := by
  obtain ⟨t, p, k⟩ := h
  refine ⟨_, pe_tup p, fun F cs σ H env st Q R er hs h kk => k F cs σ H env st _ _ er hs h ?_⟩
  rintro vs H1 ⟨F1, c1, ds, s1, a1, b1, h1, r1, hl, q1⟩
  refine ⟨by rw [← r1.length]; exact hl, fun pp hp => ?_⟩
  obtain ⟨z1, z2⟩ := h1.pure (o := .tup vs) hp
  exact kk _ _ ⟨_, c1, _, s1, a1.trans z1, b1, z2, rp_mkTup upd_same (rps_mono z1 (List.prefix_refl _) _ _ r1), q1⟩
def wLst (wa : WA) : WE := fun env st Q => wa env st fun xs s => ∃ ds, allP xs = some ds ∧ ds.length ≤ sizeLine ∧ Q (.p (.list ds)) s
theorem se_lst (h : SA X es wa) : SE X (.List es pos) (wLst wa) := by
  obtain ⟨t, p, k⟩ := h
  refine ⟨_, pe_lst p, fun F cs σ H env st Q R er hs h kk => k F cs σ H env st _ _ er hs h ?_⟩
  rintro vs H1 ⟨F1, c1, xs, s1, a1, b1, h1, r1, ds, e, hl, q1⟩
  have e' := allP_eq e
  subst e'
  refine ⟨by rw [← r1.length, List.length_map]; exact hl, fun pp hp => ?_⟩
  obtain ⟨z1, z2⟩ := h1.pure (o := .lst vs) hp
  exact kk _ _ ⟨_, c1, _, s1, a1.trans z1, b1, z2, .p (.lst upd_same (rps_p.mp (rps_mono z1 (List.prefix_refl _) _ _ r1))), q1⟩
def wLstC (wa : WA) : WE := fun env st Q => wa env st fun xs s => xs.length ≤ sizeLine ∧ Q (.c s.length) (s ++ [.lst xs])
theorem new_cell {F : Hp} {cs : List Addr} {H : Hp} {st : Store} {p : Addr} {vs : List V} {xs : List SV} (hs : HS X.K F cs H st) (hp : H p = none) (r : Rps X.K F cs xs vs) {Q : SV → Store → Prop} (q : Q (.c st.length) (st ++ [.lst xs])) : Post X F cs Q (.ref p) (upd H p (.lst vs)) := by
  refine ⟨F, cs ++ [p], _, _, Same.refl _, List.prefix_append _ _, hs.new (m := .lst xs) hp ⟨vs, upd_same, rps_mono (Same.refl _) (List.prefix_append _ _) _ _ r⟩, .c ?_, q⟩
  rw [← hs.len, List.getElem?_append_right (Nat.le_refl _)]
  simp
theorem new_list {F : Hp} {cs : List Addr} {H : Hp} {st : Store} {p : Addr} {vs : List V} {ds : List PyData} (hs : HS X.K F cs H st) (hp : H p = none) (r : Rps X.K F cs (ds.map SV.p) vs) {Q : SV → Store → Prop} (q : Q (.p (.list ds)) st) : Post X F cs Q (.ref p) (upd H p (.lst vs)) := by
  obtain ⟨z1, z2⟩ := hs.pure (o := .lst vs) hp
  exact ⟨_, cs, _, st, z1, List.prefix_refl _, z2, .p (.lst upd_same (rps_p.mp (rps_mono z1 (List.prefix_refl _) _ _ r))), q⟩
theorem new_tup {F : Hp} {cs : List Addr} {H : Hp} {st : Store} {p : Addr} {vs : List V} {xs : List SV} (hs : HS X.K F cs H st) (hp : H p = none) (r : Rps X.K F cs xs vs) {Q : SV → Store → Prop} (q : Q (mkTup xs) st) : Post X F cs Q (.ref p) (upd H p (.tup vs)) := by
  obtain ⟨z1, z2⟩ := hs.pure (o := .tup vs) hp
  exact ⟨_, cs, _, st, z1, List.prefix_refl _, z2, rp_mkTup upd_same (rps_mono z1 (List.prefix_refl _) _ _ r), q⟩
theorem se_lstC (h : SA X es wa) : SE X (.List es pos) (wLstC wa) := by
  obtain ⟨t, p, k⟩ := h
  refine ⟨_, pe_lst p, fun F cs σ H env st Q R er hs h kk => k F cs σ H env st _ _ er hs h ?_⟩
  rintro vs H1 ⟨F1, c1, xs, s1, a1, b1, h1, r1, hl, q1⟩
  exact ⟨by rw [← r1.length]; exact hl, fun pp hp => kk _ _ ((new_cell h1 hp r1 q1).up a1 b1)⟩
def mAdd : M2 := fun x y st Q => match x, y with
  | .p (.int i), .p (.int j) => Q (.p (.int (i + j))) st
  | .p (.str a), .p (.str b) => a.length + b.length ≤ sizeLine ∧ Q (.p (.str (a ++ b))) st
  | .p (.tuple xs), .p (.tuple ys) => xs.length + ys.length ≤ sizeLine ∧ Q (.p (.tuple (xs ++ ys))) st
  | x, y => ∃ xs ys, listOf st x = some (xs.map SV.p) ∧ listOf st y = some (ys.map SV.p) ∧ xs.length + ys.length ≤ sizeLine ∧ Q (.p (.list (xs ++ ys))) st
theorem rp_tupP {K : PySem.W.Frag} {F : Hp} {cs : List Addr} {xs : List PyData} {v : V} (r : Rp K F cs (.p (.tuple xs)) v) : ∃ a vs, v = .ref a ∧ SqT K F a vs ∧ DqAll K F vs xs := by
  cases r with
  | p r => cases r with
    | tup h a => exact ⟨_, _, rfl, h, a⟩
theorem om_add : OpM X (binaryOp .Add) mAdd := by
  refine ⟨_, OpR.or op_add (OpR.or op_add_str (OpR.or op_catA op_cat)), fun F cs H st x y v u Q R hs rx ry q k => ?_⟩
  unfold mAdd at q
  split at q
  · exact .inl ⟨_, _, rp_int rx, rp_int ry, k _ _ (.mk hs (.p (.int _)) q)⟩
  · exact .inr (.inl ⟨_, _, rp_str rx, rp_str ry, q.1, k _ _ (.mk hs (.p (.str _)) q.2)⟩)
  · rename_i xs ys
    obtain ⟨a, vs, rfl, h1, d1⟩ := rp_tupP rx
    obtain ⟨b, ws, rfl, h2, d2⟩ := rp_tupP ry
    have r1 : Rps X.K F cs (xs.map SV.p) vs := rps_p.mpr d1
    have r2 : Rps X.K F cs (ys.map SV.p) ws := rps_p.mpr d2
    have l1 : xs.length = vs.length := by have := r1.length; simpa using this
    have l2 : ys.length = ws.length := by have := r2.length; simpa using this
    refine .inr (.inr (.inl ⟨a, b, vs, ws, rfl, rfl, sqT_mono hs.sub h1, sqT_mono hs.sub h2, by omega, fun e => ?_, fun _ e => ?_, fun _ _ p hp => ?_⟩))
    · subst e
      cases d1
      exact k _ _ (.mk hs ry q.2)
    · subst e
      cases d2
      have q2 := q.2
      rw [List.append_nil] at q2
      exact k _ _ (.mk hs rx q2)
    · refine k _ _ (new_tup hs hp (xs := (xs ++ ys).map SV.p) (by rw [List.map_append]; exact r1.append r2) ?_)
      unfold mkTup
      rw [allP_map]
      exact q.2
  · obtain ⟨xs, ys, e1, e2, hl, q⟩ := q
    obtain ⟨a, vs, rfl, h1, r1⟩ := rp_list hs rx e1
    obtain ⟨b, ws, rfl, h2, r2⟩ := rp_list hs ry e2
    have l1 := r1.length
    have l2 := r2.length
    simp only [List.length_map] at l1 l2
    exact .inr (.inr (.inr ⟨a, b, vs, ws, rfl, rfl, h1, h2, by omega, fun p hp => k _ _ (new_list hs hp (by rw [List.map_append]; exact r1.append r2) q)⟩))
theorem Rps.rep {K : PySem.W.Frag} {F : Hp} {cs : List Addr} {xs : List SV} {vs : List V} (h : Rps K F cs xs vs) : ∀ k : Nat, Rps K F cs (List.replicate k xs).flatten (List.replicate k vs).flatten
  | 0 => .nil
  | k + 1 => by
    rw [List.replicate_succ, List.replicate_succ, List.flatten_cons, List.flatten_cons]
    exact h.append (Rps.rep h k)
def mMul : M2 := fun x y st Q => match x, y with
  | .p (.int i), .p (.int j) => (CMul i j ∨ CMulW i j) ∧ Q (.p (.int (i * j))) st
  | x, .p (.int k) => ∃ xs, listOf st x = some (xs.map SV.p) ∧ -(2 ^ 63) ≤ k ∧ k < 2 ^ 63 ∧ xs.length * k.toNat ≤ sizeLine ∧ Q (.p (.list (List.replicate k.toNat xs).flatten)) st
  | _, _ => False
theorem om_mul : OpM X (binaryOp .Mult) mMul := by
  refine ⟨_, OpR.or op_mul (OpR.or op_mulW op_rep), fun F cs H st x y v u Q R hs rx ry q k => ?_⟩
  unfold mMul at q
  split at q
  · rcases q.1 with c | c
    · exact .inl ⟨_, _, rp_int rx, rp_int ry, c, k _ _ (.mk hs (.p (.int _)) q.2)⟩
    · exact .inr (.inl ⟨_, _, rp_int rx, rp_int ry, c, k _ _ (.mk hs (.p (.int _)) q.2)⟩)
  · obtain ⟨xs, e1, h1, h2, hl, q⟩ := q
    obtain ⟨a, vs, rfl, hA, r1⟩ := rp_list hs rx e1
    have l1 := r1.length
    simp only [List.length_map] at l1
    refine .inr (.inr ⟨a, _, vs, rfl, rp_int ry, hA, h1, h2, by rw [← l1]; exact hl, fun p hp => k _ _ (new_list hs hp ?_ q)⟩)
    rw [List.map_flatten, List.map_replicate]
    exact r1.rep _
  · exact q.elim
def mMulC : M2 := fun x y st Q => match y with
  | .p (.int k) => ∃ xs, listOf st x = some xs ∧ -(2 ^ 63) ≤ k ∧ k < 2 ^ 63 ∧ xs.length * k.toNat ≤ sizeLine ∧ Q (.c st.length) (st ++ [.lst (List.replicate k.toNat xs).flatten])
  | _ => False
theorem om_mulC : OpM X (binaryOp .Mult) mMulC := by
  refine ⟨_, op_rep, fun F cs H st x y v u Q R hs rx ry q k => ?_⟩
  unfold mMulC at q
  split at q
  · obtain ⟨xs, e1, h1, h2, hl, q⟩ := q
    obtain ⟨a, vs, rfl, hA, r1⟩ := rp_list hs rx e1
    have l1 := r1.length
    exact ⟨a, _, vs, rfl, rp_int ry, hA, h1, h2, by rw [← l1]; exact hl, fun p hp => k _ _ (new_cell hs hp (r1.rep _) q)⟩
  · exact q.elim
def pureOf (st : Store) : SV → Option PyData
  | .p d => some d
  | .c n => match st[n]? with
    | some (.lst xs) => (allP xs).map PyData.list
    | _ => none
  | _ => none
theorem rp_pure {F : Hp} {cs : List Addr} {H : Hp} {st : Store} {x : SV} {v : V} {d : PyData} (hs : HS X.K F cs H st) (r : Rp X.K F cs x v) (h : pureOf st x = some d) : Dp X.K H v d := by
  cases r with
  | p r => cases h; exact dq_dp hs.sub _ _ r
  | @c n a e =>
    have h : (match st[n]? with | some (.lst xs) => (allP xs).map PyData.list | _ => none) = some d := h
    cases q : st[n]? with
    | none => rw [q] at h; cases h
    | some o =>
      rw [q] at h
      cases o with
      | lst ys =>
        cases q2 : allP ys with
        | none => simp [q2] at h
        | some ds =>
          simp [q2] at h
          subst h
          obtain ⟨vs, e2, r2⟩ := hs.cell n a _ e q
          rw [allP_eq q2] at r2
          exact .lst (.inl (.inl e2)) (dqs_dps hs.sub _ _ (rps_p.mp r2))
      | dct _ => cases h
      | ins _ _ => cases h
  | t _ _ => cases h
  | ro _ => cases h
  | x _ _ _ => cases h
def mEq : M2 := fun x y st Q => ∃ d e, pureOf st x = some d ∧ pureOf st y = some e ∧ SeqAt.shaped d = true ∧ SeqAt.shaped e = true ∧ Q (.p (.bool (PyData.eqv d e))) st
def mNe : M2 := fun x y st Q => ∃ d e, pureOf st x = some d ∧ pureOf st y = some e ∧ SeqAt.shaped d = true ∧ SeqAt.shaped e = true ∧ Q (.p (.bool (!PyData.eqv d e))) st
theorem om_eq (hu : X.A.units + 64 < cLine) : OpM X (compareOp .Eq) mEq := ⟨_, op_eqD hu, fun F cs H st x y v u Q R hs rx ry ⟨d, e, h1, h2, s1, s2, q⟩ k =>
  ⟨d, e, rp_pure hs rx h1, rp_pure hs ry h2, s1, s2, k _ _ (.mk hs (.p (.bl _)) q)⟩⟩
theorem om_ne (hu : X.A.units + 64 < cLine) : OpM X (compareOp .NotEq) mNe := ⟨_, op_neD hu, fun F cs H st x y v u Q R hs rx ry ⟨d, e, h1, h2, s1, s2, q⟩ k =>
  ⟨d, e, rp_pure hs rx h1, rp_pure hs ry h2, s1, s2, k _ _ (.mk hs (.p (.bl _)) q)⟩⟩
theorem Rps.at {K : PySem.W.Frag} {F : Hp} {cs : List Addr} {xs : List SV} {vs : List V} {i : Int} {x : SV} (r : Rps K F cs xs vs) (h : atI xs i = some x) : ∃ v, atI vs i = some v ∧ Rp K F cs x v := by
  unfold atI at h ⊢
  rw [← r.length]
  cases q : ixN xs.length i with
  | none => rw [q] at h; cases h
  | some j =>
    rw [q] at h
    exact r.get (i := j) h
def mIx : M2 := fun x y st Q => match x, y with
  | .p (.str z), .p (.int i) => ∃ c, z.length ≤ sizeLine ∧ atI z.cps.toList i = some c ∧ Q (.p (.str ⟨#[c]⟩)) st
  | x, .p (.int i) => ∃ xs v, seqOf st x = some xs ∧ atI xs i = some v ∧ Q v st
  | _, _ => False
theorem se_ix {a b : Expr} {wa wb : WE} {pos : Pos} (ha : SE X a wa) (hb : SE X b wb) (hp : PlainIx b := by intro _ _; rfl) : SE X (.Subscript a b pos) (wOp mIx wa wb) := by
  obtain ⟨ta, pa, ka⟩ := ha
  obtain ⟨tb, pb, kb⟩ := hb
  refine ⟨_, pe_ix ix_seq pa pb hp, fun F cs σ H env st Q R er hs h k => bin_run ka kb ?_ er hs h k⟩
  intro F cs H st x y v u Q R hs rx ry q k
  unfold mIx at q
  split at q
  · obtain ⟨c, h1, h2, q⟩ := q
    exact .inr (.inr ⟨_, _, c, rp_str rx, rp_int ry, h1, h2, k _ _ (.mk hs (.p (.str _)) q)⟩)
  · obtain ⟨xs, w, e, h2, q⟩ := q
    obtain ⟨a, vs, rfl, hL, r⟩ := rp_seq hs rx e
    obtain ⟨z, h3, rz⟩ := r.at h2
    rcases hL with hL | hL
    · exact .inl ⟨a, vs, _, z, rfl, rp_int ry, hL, h3, k _ _ (.mk hs rz q)⟩
    · exact .inr (.inl ⟨a, vs, _, z, rfl, rp_int ry, hL, h3, k _ _ (.mk hs rz q)⟩)
  · exact q.elim
abbrev WO := M.Env → Store → (Option Int → Store → Prop) → Prop
structure SO (X : XM) (e : Option Expr) (w : WO) : Prop where
  run : ∃ t, PO X e t ∧ ∀ (F : Hp) (cs : List Addr) (σ : L2.St) (H : Hp) (env : M.Env) (st : Store) (Q : Option Int → Store → Prop) (R : Option Int → Hp → Prop), ER X F cs σ env → HS X.K F cs H st → w env st Q →
    (∀ o H', (∃ F' cs' st', Same F F' ∧ cs <+: cs' ∧ HS X.K F' cs' H' st' ∧ Q o st') → R o H') → t σ H R
def oNone : WO := fun _ st Q => Q none st
def oSome (w : WE) : WO := fun env st Q => w env st fun x s => match x with
  | .p (.int i) => Q (some i) s
  | _ => False
theorem so_none : SO X none oNone := ⟨_, po_none, fun F cs σ H env st Q R er hs h k => k _ _ ⟨F, cs, st, Same.refl _, List.prefix_refl _, hs, h⟩⟩
theorem so_some {e : Expr} {w : WE} (h : SE X e w) : SO X (some e) (oSome w) := by
  obtain ⟨t, p, k⟩ := h
  refine ⟨_, po_some p, fun F cs σ H env st Q R er hs h kk => k F cs σ H env st _ _ er hs h ?_⟩
  rintro v H1 ⟨F1, c1, d, s1, e1, e2, h1, r1, q⟩
  split at q
  · exact ⟨_, rp_int r1, kk _ _ ⟨F1, c1, s1, e1, e2, h1, q⟩⟩
  · exact q.elim
def cutL {α : Type} (xs : List α) (lo hi : Option Int) : List α := (xs.drop (HT.sIx xs.length 0 lo)).take (HT.sIx xs.length xs.length hi - HT.sIx xs.length 0 lo)
theorem cut_map {α β : Type} (f : α → β) (xs : List α) (lo hi : Option Int) : cutL (xs.map f) lo hi = (cutL xs lo hi).map f := by
  unfold cutL
  rw [List.length_map, ← List.map_drop, ← List.map_take]
theorem Rps.cut {K : PySem.W.Frag} {F : Hp} {cs : List Addr} {xs : List SV} {vs : List V} (r : Rps K F cs xs vs) (lo hi : Option Int) : Rps K F cs (cutL xs lo hi) (cutV vs lo hi) := by
  unfold cutL cutV
  rw [← r.length]
  exact (r.drop _).take _
theorem cut_whole {α : Type} {xs : List α} {lo hi : Option Int} (h : HT.sIx xs.length 0 lo = 0 ∧ HT.sIx xs.length xs.length hi = xs.length) : cutL xs lo hi = xs := by
  unfold cutL
  rw [h.1, h.2]
  simp
def mSl (x : SV) (lo hi : Option Int) (st : Store) (Q : SV → Store → Prop) : Prop := match x with
  | .p (.tuple ds) => Q (.p (.tuple (cutL ds lo hi))) st
  | .ro ns => Q (.p (.list ((cutL ns lo hi).map PyData.int))) st
  | x => ∃ ds, listOf st x = some (ds.map SV.p) ∧ Q (.p (.list (cutL ds lo hi))) st
def wSl (we : WE) (lo hi : WO) : WE := fun env st Q => we env st fun x s1 => lo env s1 fun l s2 => hi env s2 fun u s3 => mSl x l u s3 Q
theorem rps_ints {K : PySem.W.Frag} {F : Hp} {cs : List Addr} : ∀ (ns : List Int), Rps K F cs ((ns.map PyData.int).map SV.p) (ns.map V.int)
  | [] => .nil
  | n :: ns => .cons (.p (.int n)) (rps_ints ns)
theorem se_slice {e : Expr} {lo hi : Option Expr} {we : WE} {wl wh : WO} {p2 pos : Pos} (he : SE X e we) (hl : SO X lo wl) (hu : SO X hi wh) : SE X (.Subscript e (.Slice lo hi none p2) pos) (wSl we wl wh) := by
  obtain ⟨te, pe, ke⟩ := he
  obtain ⟨tl, pl, kl⟩ := hl
  obtain ⟨th, ph, kh⟩ := hu
  refine ⟨_, pe_slice (sl_tupA.or sl_list) pe pl ph, fun F cs σ H env st Q R er hs h k => ke F cs σ H env st _ _ er hs h ?_⟩
  rintro v H1 ⟨F1, c1, d, s1, a1, b1, h1, r1, q1⟩
  refine kl F1 c1 σ H1 env s1 _ _ (er.mono a1 b1) h1 q1 ?_
  rintro o H2 ⟨F2, c2, s2, a2, b2, h2, q2⟩
  refine kh F2 c2 σ H2 env s2 _ _ (er.mono (a1.trans a2) (b1.trans b2)) h2 q2 ?_
  rintro o2 H3 ⟨F3, c3, s3, a3, b3, h3, q3⟩
  have r3 := rp_up r1 (a2.trans a3) (b2.trans b3)
  have kk : ∀ v H', Post X F3 c3 Q v H' → R v H' := fun v H' p => k v H' (((p.up a3 b3).up a2 b2).up a1 b1)
  unfold mSl at q3
  split at q3
  · rename_i ds
    obtain ⟨a, vs, rfl, ht, dd⟩ := rp_tupP r3
    have r4 : Rps X.K F3 c3 (ds.map SV.p) vs := rps_p.mpr dd
    have l4 : ds.length = vs.length := by have := r4.length; simpa using this
    refine .inl ⟨a, vs, rfl, sqT_mono h3.sub ht, fun hw => ?_, fun hw p hp => ?_⟩
    · rw [cut_whole (by rw [l4]; exact hw)] at q3
      exact kk _ _ (.mk h3 r3 q3)
    · refine kk _ _ (new_tup h3 hp (r4.cut o o2) ?_)
      rw [cut_map]
      unfold mkTup
      rw [allP_map]
      exact q3
  · rename_i ns
    cases r3 with
    | @ro _ a hq =>
      refine .inr ⟨a, _, rfl, h3.sub.seq hq, fun p hp => kk _ _ (new_list h3 hp ?_ q3)⟩
      have e : cutV (ns.map V.int) o o2 = (cutL ns o o2).map V.int := cut_map V.int ns o o2
      rw [e]
      exact rps_ints _
  · obtain ⟨ds, e, q3⟩ := q3
    obtain ⟨a, vs, rfl, hA, r4⟩ := rp_list h3 r3 e
    refine .inr ⟨a, vs, rfl, .inl (.inl hA), fun p hp => kk _ _ (new_list h3 hp ?_ q3)⟩
    rw [← cut_map]
    exact r4.cut o o2
def mLen : MC := fun xs st Q => match xs with
  | [.p (.str z)] => z.length ≤ sizeLine ∧ Q (.p (.int z.length)) st
  | [x] => ∃ ys, seqOf st x = some ys ∧ Q (.p (.int ys.length)) st
  | _ => False
theorem rps1 {K : PySem.W.Frag} {F : Hp} {cs : List Addr} {x : SV} {vs : List V} (r : Rps K F cs [x] vs) : ∃ v, vs = [v] ∧ Rp K F cs x v := by
  cases r with
  | cons r1 r2 => cases r2; exact ⟨_, rfl, r1⟩
theorem rps2 {K : PySem.W.Frag} {F : Hp} {cs : List Addr} {x y : SV} {vs : List V} (r : Rps K F cs [x, y] vs) : ∃ v w, vs = [v, w] ∧ Rp K F cs x v ∧ Rp K F cs y w := by
  cases r with
  | cons r1 r2 =>
    obtain ⟨w, rfl, r3⟩ := rps1 r2
    exact ⟨_, w, rfl, r1, r3⟩
theorem cm_len : CallM X (.builtin "len") mLen := by
  refine ⟨_, CallR.or call_len_str call_len_seq, fun F cs H st xs vs Q R hs rx q k => ?_⟩
  unfold mLen at q
  split at q
  · obtain ⟨v, rfl, r⟩ := rps1 rx
    exact .inl ⟨_, by rw [rp_str r], q.1, k _ _ (.mk hs (.p (.int _)) q.2)⟩
  · obtain ⟨v, rfl, r⟩ := rps1 rx
    obtain ⟨ys, e, q⟩ := q
    obtain ⟨a, ws, rfl, hL, r2⟩ := rp_seq hs r e
    refine .inr ⟨a, ws, rfl, hL, ?_⟩
    rw [← r2.length]
    exact k _ _ (.mk hs (.p (.int _)) q)
  · exact q.elim
def mMax2 : MC := fun xs st Q => match xs with
  | [.p (.int i), .p (.int j)] => Q (.p (.int (max i j))) st
  | _ => False
def mMin2 : MC := fun xs st Q => match xs with
  | [.p (.int i), .p (.int j)] => Q (.p (.int (min i j))) st
  | _ => False
theorem cm_max2 (hc : X.calm = true) : CallM X (.builtin "max") mMax2 := by
  refine ⟨_, call_max2 hc, fun F cs H st xs vs Q R hs rx q k => ?_⟩
  unfold mMax2 at q
  split at q
  · rename_i i j
    obtain ⟨v, w, rfl, r1, r2⟩ := rps2 rx
    refine ⟨i, j, by rw [rp_int r1, rp_int r2], ?_⟩
    have e : (if j > i then j else i) = max i j := by omega
    rw [e]
    exact k _ _ (.mk hs (.p (.int _)) q)
  · exact q.elim
theorem cm_min2 (hc : X.calm = true) : CallM X (.builtin "min") mMin2 := by
  refine ⟨_, call_min2 hc, fun F cs H st xs vs Q R hs rx q k => ?_⟩
  unfold mMin2 at q
  split at q
  · rename_i i j
    obtain ⟨v, w, rfl, r1, r2⟩ := rps2 rx
    refine ⟨i, j, by rw [rp_int r1, rp_int r2], ?_⟩
    have e : (if j < i then j else i) = min i j := by omega
    rw [e]
    exact k _ _ (.mk hs (.p (.int _)) q)
  · exact q.elim
def intsOf (st : Store) (x : SV) (ns : List Int) : Prop := listOf st x = some ((ns.map PyData.int).map SV.p)
theorem vints {K : PySem.W.Frag} {F : Hp} {cs : List Addr} : ∀ {ns : List Int} {vs : List V}, Rps K F cs ((ns.map PyData.int).map SV.p) vs → vs = ns.map V.int
  | [], vs, h => by cases h; rfl
  | n :: ns, vs, h => by
    cases h with
    | cons h1 h2 => rw [rp_int h1, vints h2]; rfl
def mMaxL : MC := fun xs st Q => match xs with
  | [x] => ∃ ns, intsOf st x ns ∧ 0 < ns.length ∧ ∀ m, m ∈ ns → (∀ y, y ∈ ns → y ≤ m) → Q (.p (.int m)) st
  | _ => False
def mMinL : MC := fun xs st Q => match xs with
  | [x] => ∃ ns, intsOf st x ns ∧ 0 < ns.length ∧ ∀ m, m ∈ ns → (∀ y, y ∈ ns → m ≤ y) → Q (.p (.int m)) st
  | _ => False
def mSum : MC := fun xs st Q => match xs with
  | [x] => ∃ ns, intsOf st x ns ∧ Q (.p (.int ns.sum)) st
  | _ => False
theorem cm_maxL (hc : X.calm = true) : CallM X (.builtin "max") mMaxL := by
  refine ⟨_, cr_max hc, fun F cs H st xs vs Q R hs rx q k => ?_⟩
  unfold mMaxL at q
  split at q
  · obtain ⟨v, rfl, r⟩ := rps1 rx
    obtain ⟨ns, e, hl, q⟩ := q
    obtain ⟨a, ws, rfl, hA, r2⟩ := rp_list hs r e
    have e2 := vints r2
    subst e2
    exact ⟨a, ns, rfl, .inl (.inl hA), hl, fun m h1 h2 => k _ _ (.mk hs (.p (.int _)) (q m h1 h2))⟩
  · exact q.elim
theorem cm_minL (hc : X.calm = true) : CallM X (.builtin "min") mMinL := by
  refine ⟨_, cr_min hc, fun F cs H st xs vs Q R hs rx q k => ?_⟩
  unfold mMinL at q
  split at q
  · obtain ⟨v, rfl, r⟩ := rps1 rx
    obtain ⟨ns, e, hl, q⟩ := q
    obtain ⟨a, ws, rfl, hA, r2⟩ := rp_list hs r e
    have e2 := vints r2
    subst e2
    exact ⟨a, ns, rfl, .inl (.inl hA), hl, fun m h1 h2 => k _ _ (.mk hs (.p (.int _)) (q m h1 h2))⟩
  · exact q.elim
theorem cm_sum (hc : X.calm = true) : CallM X (.builtin "sum") mSum := by
  refine ⟨_, cr_sum hc, fun F cs H st xs vs Q R hs rx q k => ?_⟩
  unfold mSum at q
  split at q
  · obtain ⟨v, rfl, r⟩ := rps1 rx
    obtain ⟨ns, e, q⟩ := q
    obtain ⟨a, ws, rfl, hA, r2⟩ := rp_list hs r e
    have e2 := vints r2
    subst e2
    exact ⟨a, ns, rfl, .inl (.inl hA), k _ _ (.mk hs (.p (.int _)) q)⟩
  · exact q.elim
def mIntB : MC := fun xs st Q => match xs with
  | [.p (.bool b)] => Q (.p (.int (if b then 1 else 0))) st
  | [.p (.int i)] => Q (.p (.int i)) st
  | _ => False
theorem cm_int : CallM X (.type "int") mIntB := by
  refine ⟨_, call_int1, fun F cs H st xs vs Q R hs rx q k => ?_⟩
  unfold mIntB at q
  split at q
  · obtain ⟨v, rfl, r⟩ := rps1 rx
    exact .inr ⟨_, by rw [rp_bool r], k _ _ (.mk hs (.p (.int _)) q)⟩
  · obtain ⟨v, rfl, r⟩ := rps1 rx
    exact .inl ⟨_, by rw [rp_int r], k _ _ (.mk hs (.p (.int _)) q)⟩
  · exact q.elim
def mList : MC := fun xs st Q => match xs with
  | [x] => ∃ ds, seqOf st x = some (ds.map SV.p) ∧ Q (.p (.list ds)) st
  | _ => False
def mListC : MC := fun xs st Q => match xs with
  | [x] => ∃ ys, seqOf st x = some ys ∧ Q (.c st.length) (st ++ [.lst ys])
  | _ => False
theorem cm_list : CallM X (.type "list") mList := by
  refine ⟨_, call_list_of, fun F cs H st xs vs Q R hs rx q k => ?_⟩
  unfold mList at q
  split at q
  · obtain ⟨v, rfl, r⟩ := rps1 rx
    obtain ⟨ds, e, q⟩ := q
    obtain ⟨a, ws, rfl, hL, r2⟩ := rp_seq hs r e
    exact ⟨a, ws, rfl, hL, fun p hp => k _ _ (new_list hs hp r2 q)⟩
  · exact q.elim
theorem cm_listC : CallM X (.type "list") mListC := by
  refine ⟨_, call_list_of, fun F cs H st xs vs Q R hs rx q k => ?_⟩
  unfold mListC at q
  split at q
  · obtain ⟨v, rfl, r⟩ := rps1 rx
    obtain ⟨ds, e, q⟩ := q
    obtain ⟨a, ws, rfl, hL, r2⟩ := rp_seq hs r e
    exact ⟨a, ws, rfl, hL, fun p hp => k _ _ (new_cell hs hp r2 q)⟩
  · exact q.elim
def mTuple : MC := fun xs st Q => match xs with
  | [x] => ∃ ys, listOf st x = some ys ∧ Q (mkTup ys) st
  | _ => False
theorem cm_tuple : CallM X (.type "tuple") mTuple := by
  refine ⟨_, call_tuple_of, fun F cs H st xs vs Q R hs rx q k => ?_⟩
  unfold mTuple at q
  split at q
  · obtain ⟨v, rfl, r⟩ := rps1 rx
    obtain ⟨ds, e, q⟩ := q
    obtain ⟨a, ws, rfl, hL, r2⟩ := rp_list hs r e
    exact ⟨a, ws, rfl, .inl ⟨.inl (.inl hL), fun p hp => k _ _ (new_tup hs hp r2 q)⟩⟩
  · exact q.elim
theorem vbools {K : PySem.W.Frag} {F : Hp} {cs : List Addr} : ∀ {ns : List Bool} {vs : List V}, Rps K F cs ((ns.map PyData.bool).map SV.p) vs → vs = ns.map V.bl
  | [], vs, h => by cases h; rfl
  | n :: ns, vs, h => by
    cases h with
    | cons h1 h2 => rw [rp_bool h1, vbools h2]; rfl
def mAll : MC := fun xs st Q => match xs with
  | [x] => ∃ bs : List Bool, listOf st x = some ((bs.map PyData.bool).map SV.p) ∧ Q (.p (.bool (bs.all id))) st
  | _ => False
theorem cm_all (hc : X.calm = true) : CallM X (.builtin "all") mAll := by
  refine ⟨_, cr_all hc, fun F cs H st xs vs Q R hs rx q k => ?_⟩
  unfold mAll at q
  split at q
  · obtain ⟨v, rfl, r⟩ := rps1 rx
    obtain ⟨ns, e, q⟩ := q
    obtain ⟨a, ws, rfl, hA, r2⟩ := rp_list hs r e
    have e2 := vbools r2
    subst e2
    exact ⟨a, ns, rfl, .inl (.inl hA), k _ _ (.mk hs (.p (.bl _)) q)⟩
  · exact q.elim
end
end M


namespace M
open PySem PySem.Spec PyProof.Rows L2
section
variable {X : XM} {tg : Expr} {e : Expr} {we : WE} {pos : Pos}
def iSq (K : PySem.W.Frag) (tl : TE) : TI := fun σ H R => tl σ H fun x H1 => ∃ a, x = .ref a ∧ ((∃ xs, SqL K H1 a xs) ∧ R (Itl K a) H1 ∨ (∃ xs, SqT K H1 a xs) ∧ R (Itt K a) H1)
theorem pi_sq {l : Expr} {tl : TE} (hl : PE X l tl) : PI X tg l (iSq X.K tl) := by
  refine ⟨fun pins s σ H R I h => ?_⟩
  refine thn (hl.run pins s σ H _ I h) fun v s1 ⟨x, H1, I1, r1, q1⟩ => ?_
  obtain ⟨a, e, q⟩ := q1
  subst e
  cases r1
  rcases q with ⟨⟨xs, hq⟩, q⟩ | ⟨⟨xs, hq⟩, q⟩
  · obtain ⟨its, rv, p, hz⟩ := I1.list hq
    refine wpAny_pyIter_list p.isList ?_
    refine ⟨s1.heap.objs.size, [s1.heap.objs.size], _, _, H1, rfl, I1.kept (t' := s1.toks) fun b o e => Heap.get?_push_of_some _ e, turn_list a _, ⟨_, Heap.get?_push_size _ rfl, rfl, rfl⟩, fun b hb => ?_, q⟩
    have e : b = s1.heap.objs.size := by simpa using hb
    subst e
    exact I1.fpOk (Nat.le_refl _) (I1.hok.fresh (Nat.le_refl _))
  · obtain ⟨its, rv, p, hz⟩ := I1.tuple hq
    refine wpAny_pyIter_tuple (show s1.heap.IsTuple a its.toArray from p) ?_
    refine ⟨s1.heap.objs.size, [s1.heap.objs.size], _, _, H1, rfl, I1.kept (t' := s1.toks) fun b o e => Heap.get?_push_of_some _ e, turn_tuple a _, ⟨_, Heap.get?_push_size _ rfl, rfl, rfl⟩, fun b hb => ?_, q⟩
    have e : b = s1.heap.objs.size := by simpa using hb
    subst e
    exact I1.fpOk (Nat.le_refl _) (I1.hok.fresh (Nat.le_refl _))
def wiSeq (we : WE) : WI := fun env st Q => we env st fun x s => ∃ xs, seqOf s x = some xs ∧ Q { items := xs, keep := fun s' => seqOf s' x = some xs } s
theorem it_list {F : Hp} {cs : List Addr} {x : SV} {a : Addr} {xs : List SV} (r : Rp X.K F cs x (.ref a)) (hl : ∀ st', seqOf st' x = some xs → listOf st' x = some xs) : ItOk X F cs { items := xs, keep := fun s' => seqOf s' x = some xs } (Itl X.K a) := by
  have get : ∀ H F2 cs2 st2, Same F F2 → cs <+: cs2 → HS X.K F2 cs2 H st2 → seqOf st2 x = some xs → ∃ vs, H a = some (.lst vs) ∧ Rps X.K F2 cs2 xs vs := fun H F2 cs2 st2 s c hs k => by
    obtain ⟨a', vs, e, h1, h2⟩ := rp_list hs (rp_up r s c) (hl _ k)
    cases e
    exact ⟨vs, h1, h2⟩
  refine ⟨fun i H F2 cs2 st2 hi s c hs k => ?_, fun H F2 cs2 st2 s c hs k => ?_, fun i H y H' F2 cs2 st2 hi s c hs k y' => ?_⟩
  · obtain ⟨vs, h1, h2⟩ := get H F2 cs2 st2 s c hs k
    have hl := h2.length
    have hi' : i < xs.length := hi
    exact ⟨vs, vs[i]'(by omega), .inl (.inl h1), List.getElem?_eq_getElem (by omega)⟩
  · obtain ⟨vs, h1, h2⟩ := get H F2 cs2 st2 s c hs k
    exact ⟨vs, .inl (.inl h1), by rw [← h2.length]; exact Nat.le_refl _⟩
  · obtain ⟨vs, h1, h2⟩ := get H F2 cs2 st2 s c hs k
    obtain ⟨rfl, y2⟩ := y'
    have hi' : i < xs.length := hi
    have e1 : xs[i]? = some xs[i] := List.getElem?_eq_getElem hi'
    obtain ⟨v, e2, rv⟩ := h2.get e1
    have e3 := y2 vs (.inl (.inl h1))
    rw [e2] at e3
    cases e3
    exact ⟨F2, xs[i], Same.refl _, hs, e1, rv⟩
theorem it_tup {F : Hp} {cs : List Addr} {a : Addr} {xs : List SV} {vs : List V} (kp : Store → Prop) (h : SqT X.K F a vs) (r : Rps X.K F cs xs vs) : ItOk X F cs { items := xs, keep := kp } (Itt X.K a) := by
  refine ⟨fun i H F2 cs2 st2 hi s c hs k => ?_, fun H F2 cs2 st2 s c hs k => ?_, fun i H y H' F2 cs2 st2 hi s c hs k y' => ?_⟩
  · have hl := r.length
    have hi' : i < xs.length := hi
    exact ⟨vs, vs[i]'(by omega), sqT_mono (s.trans hs.sub) h, List.getElem?_eq_getElem (by omega)⟩
  · exact ⟨vs, sqT_mono (s.trans hs.sub) h, by rw [← r.length]; exact Nat.le_refl _⟩
  · obtain ⟨rfl, y2⟩ := y'
    have hi' : i < xs.length := hi
    have e1 : xs[i]? = some xs[i] := List.getElem?_eq_getElem hi'
    obtain ⟨v, e2, rv⟩ := r.get e1
    have e3 := y2 vs (sqT_mono (s.trans hs.sub) h)
    rw [e2] at e3
    cases e3
    exact ⟨F2, xs[i], Same.refl _, hs, e1, rp_up rv s c⟩
theorem seq_cases {F : Hp} {cs : List Addr} {H : Hp} {st : Store} {x : SV} {v : V} {xs : List SV} (hs : HS X.K F cs H st) (r : Rp X.K F cs x v) (h : seqOf st x = some xs) :
    (∃ a vs, v = .ref a ∧ H a = some (.lst vs) ∧ Rps X.K F cs xs vs ∧ ∀ st', seqOf st' x = some xs → listOf st' x = some xs) ∨ (∃ a vs, v = .ref a ∧ SqT X.K F a vs ∧ Rps X.K F cs xs vs) := by
  cases x with
  | p d =>
    cases d with
    | list ds =>
      obtain ⟨a, vs, e1, e2, e3⟩ := rp_list hs r (show listOf st (.p (.list ds)) = some xs from h)
      exact .inl ⟨a, vs, e1, e2, e3, fun _ q => q⟩
    | tuple ds =>
      obtain ⟨a, vs, e1, e2, e3⟩ := rp_tup r (show tupOf (.p (.tuple ds)) = some xs from h)
      exact .inr ⟨a, vs, e1, e2, e3⟩
    | _ => cases h
  | c n =>
    obtain ⟨a, vs, e1, e2, e3⟩ := rp_list hs r (show listOf st (.c n) = some xs from h)
    exact .inl ⟨a, vs, e1, e2, e3, fun _ q => q⟩
  | t ys =>
    obtain ⟨a, vs, e1, e2, e3⟩ := rp_tup r (show tupOf (.t ys) = some xs from h)
    exact .inr ⟨a, vs, e1, e2, e3⟩
  | ro _ => cases h
  | x _ _ => cases h
theorem si_seq (he : SE X e we) : SI X tg e (wiSeq we) := by
  obtain ⟨t, p, k⟩ := he
  refine ⟨_, pi_sq p, fun F cs σ H env st Q R er hs h kk => k F cs σ H env st _ _ er hs h ?_⟩
  rintro v H1 ⟨F1, c1, d, s1, e1, e2, h1, r1, xs, q1, q⟩
  rcases seq_cases h1 r1 q1 with ⟨a, vs, rfl, hA, rs, hl⟩ | ⟨a, vs, rfl, hT, rs⟩
  · exact ⟨a, rfl, .inl ⟨⟨vs, .inl (.inl hA)⟩, kk _ _ ⟨F1, c1, s1, _, e1, e2, h1, it_list r1 hl, q⟩⟩⟩
  · exact ⟨a, rfl, .inr ⟨⟨vs, sqT_mono h1.sub hT⟩, kk _ _ ⟨F1, c1, s1, _, e1, e2, h1, it_tup _ hT rs, q⟩⟩⟩
def rngItems (lo c : Int) (n : Nat) : List SV := (List.range n).map fun i => SV.p (.int (lo + (i : Nat) * c))
theorem rng_get {lo c : Int} {n i : Nat} (h : i < n) : (rngItems lo c n)[i]? = some (SV.p (.int (lo + (i : Nat) * c))) := by
  unfold rngItems
  rw [List.getElem?_map, List.getElem?_range h]; rfl
theorem it_rng {F : Hp} {cs : List Addr} {lo : Int} {n : Nat} : ItOk X F cs { items := rngItems lo 1 n } (Itr lo n) := by
  have hl : (rngItems lo 1 n).length = n := by simp [rngItems]
  refine ⟨fun i H F2 cs2 st2 hi s c hs k => ?_, fun H F2 cs2 st2 s c hs k => ?_, fun i H y H' F2 cs2 st2 hi s c hs k y' => ?_⟩
  · exact (show i < n by rw [← hl]; exact hi)
  · exact (show n ≤ (rngItems lo 1 n).length by rw [hl]; exact Nat.le_refl _)
  · obtain ⟨rfl, rfl⟩ := y'
    have hi' : i < n := by rw [← hl]; exact hi
    refine ⟨F2, _, Same.refl _, hs, rng_get hi', ?_⟩
    rw [Int.mul_one]
    exact .p (.int _)
theorem it_rngC {F : Hp} {cs : List Addr} {lo c : Int} {n : Nat} : ItOk X F cs { items := rngItems lo c n } (Itc lo c n) := by
  have hl : (rngItems lo c n).length = n := by simp [rngItems]
  refine ⟨fun i H F2 cs2 st2 hi s c hs k => ?_, fun H F2 cs2 st2 s c hs k => ?_, fun i H y H' F2 cs2 st2 hi s c hs k y' => ?_⟩
  · exact (show i < n by rw [← hl]; exact hi)
  · exact (show n ≤ _ by rw [hl]; exact Nat.le_refl _)
  · obtain ⟨rfl, rfl⟩ := y'
    have hi' : i < n := by rw [← hl]; exact hi
    exact ⟨F2, _, Same.refl _, hs, rng_get hi', .p (.int _)⟩
def wiR1 (wa : WA) : WI := fun env st Q => wa env st fun xs s => match xs with
  | [.p (.int j)] => -(2 ^ 62) ≤ j ∧ j < 2 ^ 62 ∧ Q { items := rngItems 0 1 j.toNat } s
  | _ => False
def wiR2 (wa : WA) : WI := fun env st Q => wa env st fun xs s => match xs with
  | [.p (.int i), .p (.int j)] => (-(2 ^ 62) ≤ i ∧ i < 2 ^ 62 ∧ -(2 ^ 62) ≤ j ∧ j < 2 ^ 62) ∧ Q { items := rngItems i 1 (j - i).toNat } s
  | _ => False
def wiR3 (wa : WA) : WI := fun env st Q => wa env st fun xs s => match xs with
  | [.p (.int i), .p (.int j), .p (.int c)] => c = -1 ∧ (-(2 ^ 62) ≤ i ∧ i < 2 ^ 62 ∧ -(2 ^ 62) ≤ j ∧ j < 2 ^ 62) ∧ Q { items := rngItems i (-1) (i - j).toNat } s
  | _ => False
theorem rps3 {K : PySem.W.Frag} {F : Hp} {cs : List Addr} {x y z : SV} {vs : List V} (r : Rps K F cs [x, y, z] vs) : ∃ v w u, vs = [v, w, u] ∧ Rp K F cs x v ∧ Rp K F cs y w ∧ Rp K F cs z u := by
  cases r with
  | cons r1 r2 =>
    obtain ⟨w, u, rfl, r3, r4⟩ := rps2 r2
    exact ⟨_, w, u, rfl, r1, r3, r4⟩
variable {a b c : Expr} {wa : WA} {p : Pos}
theorem si_range1 (hg : Gl X "range") (hm : X.mg "range" = none) (ha : SA X [a] wa) (hs : starEach [a] X.env = [(false, eval a X.env)] := by rfl) : SI X tg (.Call (.Name "range" p) [a] [] pos) (wiR1 wa) := by
  obtain ⟨t, pa, k⟩ := ha
  refine ⟨_, pi_range1 hg hm pa hs, fun F cs σ H env st Q R er hs h kk => k F cs σ H env st _ _ er hs h ?_⟩
  rintro vs H1 ⟨F1, c1, ds, s1, e1, e2, h1, r1, q⟩
  split at q
  · obtain ⟨v, rfl, r⟩ := rps1 r1
    exact ⟨_, by rw [rp_int r], q.1, q.2.1, kk _ _ ⟨F1, c1, s1, _, e1, e2, h1, it_rng, q.2.2⟩⟩
  · exact q.elim
theorem si_range2 (hg : Gl X "range") (hm : X.mg "range" = none) (ha : SA X [a, b] wa) (hs : starEach [a, b] X.env = [(false, eval a X.env), (false, eval b X.env)] := by rfl) (hs2 : starEach [b] X.env = [(false, eval b X.env)] := by rfl) : SI X tg (.Call (.Name "range" p) [a, b] [] pos) (wiR2 wa) := by
  obtain ⟨t, pa, k⟩ := ha
  refine ⟨_, pi_range2 hg hm pa hs hs2, fun F cs σ H env st Q R er hs h kk => k F cs σ H env st _ _ er hs h ?_⟩
  rintro vs H1 ⟨F1, c1, ds, s1, e1, e2, h1, r1, q⟩
  split at q
  · obtain ⟨v, w, rfl, r, r'⟩ := rps2 r1
    exact ⟨_, _, by rw [rp_int r, rp_int r'], q.1, kk _ _ ⟨F1, c1, s1, _, e1, e2, h1, it_rng, q.2⟩⟩
  · exact q.elim
theorem si_range3 (hg : Gl X "range") (hm : X.mg "range" = none) (ha : SA X [a, b, c] wa) (hs : starEach [a, b, c] X.env = (false, eval a X.env) :: starEach [b, c] X.env := by rfl) (hpl : (backTo pos (starEach [b, c] X.env)).any (·.1) = false := by rfl) : SI X tg (.Call (.Name "range" p) [a, b, c] [] pos) (wiR3 wa) := by
  obtain ⟨t, pa, k⟩ := ha
  refine ⟨_, pi_range3 hg hm pa hs hpl, fun F cs σ H env st Q R er hs h kk => k F cs σ H env st _ _ er hs h ?_⟩
  rintro vs H1 ⟨F1, c1, ds, s1, e1, e2, h1, r1, q⟩
  split at q
  · obtain ⟨v, w, u, rfl, r, r', r''⟩ := rps3 r1
    obtain ⟨rfl, q2, q⟩ := q
    exact ⟨_, _, _, _, by rw [rp_int r, rp_int r', rp_int r''], RgC.neg q2.1 q2.2.1 q2.2.2.1 q2.2.2.2, kk _ _ ⟨F1, c1, s1, _, e1, e2, h1, it_rngC, q⟩⟩
  · exact q.elim
def wiRev (we : WE) : WI := fun env st Q => we env st fun x s => ∃ xs, seqOf s x = some xs ∧ Q { items := xs.reverse, keep := fun s' => seqOf s' x = some xs } s
theorem si_reversed (hg : Gl X "reversed") (hm : X.mg "reversed" = none) (he : SE X e we) (hs : starEach [e] X.env = (false, eval e X.env) :: starEach [] X.env := by rfl) : SI X tg (.Call (.Name "reversed" p) [e] [] pos) (wiRev we) := by
  obtain ⟨t, pe, k⟩ := he
  refine ⟨_, RT.pi_revA hg hm pe hs, fun F cs σ H env st Q R er hs h kk => k F cs σ H env st _ _ er hs h ?_⟩
  rintro v H1 ⟨F1, c1, d, s1, e1, e2, h1, r1, xs, q1, q⟩
  rcases seq_cases h1 r1 q1 with ⟨a, vs, rfl, hA, rs, hl⟩ | ⟨a, vs, rfl, hT, rs⟩
  · refine ⟨a, vs, rfl, .inl ⟨.inl (.inl hA), kk _ _ ⟨F1, c1, s1, _, e1, e2, h1, ?_, q⟩⟩⟩
    have len := rs.length
    have get : ∀ H F2 cs2 st2, Same F1 F2 → c1 <+: cs2 → HS X.K F2 cs2 H st2 → seqOf st2 d = some xs → ∃ vs, H a = some (.lst vs) ∧ Rps X.K F2 cs2 xs vs := fun H F2 cs2 st2 s c hs k => by
      obtain ⟨a', vs, e, h1, h2⟩ := rp_list hs (rp_up r1 s c) (hl _ k)
      cases e
      exact ⟨vs, h1, h2⟩
    refine ⟨fun i H F2 cs2 st2 hi s c hs k => ?_, fun H F2 cs2 st2 s c hs k => ?_, fun i H y H' F2 cs2 st2 hi s c hs k y' => ?_⟩
    · obtain ⟨ws, g1, g2⟩ := get H F2 cs2 st2 s c hs k
      have hl2 := g2.length
      have hi' : i < xs.length := by simpa using hi
      exact ⟨by omega, ws, ws[vs.length - 1 - i]'(by omega), .inl (.inl g1), List.getElem?_eq_getElem (by omega)⟩
    · exact (show vs.length ≤ xs.reverse.length by rw [List.length_reverse, len]; exact Nat.le_refl _)
    · obtain ⟨ws, g1, g2⟩ := get H F2 cs2 st2 s c hs k
      have hl2 := g2.length
      obtain ⟨rfl, y2⟩ := y'
      have hi' : i < xs.length := by simpa using hi
      have e0 : vs.length - 1 - i = xs.length - 1 - i := by omega
      have e1 : xs[xs.length - 1 - i]? = some (xs[xs.length - 1 - i]'(by omega)) := List.getElem?_eq_getElem (by omega)
      obtain ⟨v, e2, rv⟩ := g2.get e1
      have e3 := y2 ws (.inl (.inl g1))
      rw [e0, e2] at e3
      cases e3
      exact ⟨F2, _, Same.refl _, hs, by rw [List.getElem?_reverse hi']; exact e1, rv⟩
  · refine ⟨a, vs, rfl, .inr ⟨sqT_mono h1.sub hT, kk _ _ ⟨F1, c1, s1, _, e1, e2, h1, ?_, q⟩⟩⟩
    have len := rs.length
    refine ⟨fun i H F2 cs2 st2 hi s c hs k => ?_, fun H F2 cs2 st2 s c hs k => ?_, fun i H y H' F2 cs2 st2 hi s c hs k y' => ?_⟩
    · have hi' : i < xs.length := by simpa using hi
      exact ⟨by omega, vs, vs[vs.length - 1 - i]'(by omega), sqT_mono (s.trans hs.sub) hT, List.getElem?_eq_getElem (by omega)⟩
    · exact (show vs.length ≤ xs.reverse.length by rw [List.length_reverse, len]; exact Nat.le_refl _)
    · obtain ⟨rfl, y2⟩ := y'
      have hi' : i < xs.length := by simpa using hi
      have e0 : vs.length - 1 - i = xs.length - 1 - i := by omega
      have e1 : xs[xs.length - 1 - i]? = some (xs[xs.length - 1 - i]'(by omega)) := List.getElem?_eq_getElem (by omega)
      obtain ⟨v, e2, rv⟩ := rs.get e1
      have e3 := y2 vs (sqT_mono (s.trans hs.sub) hT)
      rw [e0, e2] at e3
      cases e3
      exact ⟨F2, _, Same.refl _, hs, by rw [List.getElem?_reverse hi']; exact e1, rp_up rv s c⟩
def srcOf (st : Store) : SV → Option (List SV)
  | .p (.str z) => some (z.cps.toList.map fun c => SV.p (.str ⟨#[c]⟩))
  | x => seqOf st x
theorem rps_signs {K : PySem.W.Frag} {F : Hp} {cs : List Addr} : ∀ (l : List Nat), Rps K F cs (l.map fun c => SV.p (.str ⟨#[c]⟩)) (l.map fun c => V.str ⟨#[c]⟩)
  | [] => .nil
  | c :: l => .cons (.p (.str _)) (rps_signs l)
theorem src_kd {F : Hp} {cs : List Addr} {H : Hp} {st : Store} {x : SV} {v : V} {xs : List SV} (hs : HS X.K F cs H st) (r : Rp X.K F cs x v) (h : srcOf st x = some xs) :
    ∃ kd : Kd, v = kd.v ∧ ∀ F2 cs2 H2 st2, Same F F2 → cs <+: cs2 → HS X.K F2 cs2 H2 st2 → srcOf st2 x = some xs → ∃ vs, kd.is X.K H2 vs ∧ Rps X.K F2 cs2 xs vs := by
  have main : (∀ z, x ≠ .p (.str z)) → ∃ kd : Kd, v = kd.v ∧ ∀ F2 cs2 H2 st2, Same F F2 → cs <+: cs2 → HS X.K F2 cs2 H2 st2 → srcOf st2 x = some xs → ∃ vs, kd.is X.K H2 vs ∧ Rps X.K F2 cs2 xs vs := fun nz => by
    have e : ∀ s, srcOf s x = seqOf s x := fun s => by
      unfold srcOf
      split
      · rename_i z
        exact absurd rfl (nz z)
      · rfl
    rw [e] at h
    rcases seq_cases hs r h with ⟨a, vs, rfl, hA, rs, hl⟩ | ⟨a, vs, rfl, hT, rs⟩
    · refine ⟨.l a, rfl, fun F2 cs2 H2 st2 s c hs2 k => ?_⟩
      rw [e] at k
      obtain ⟨a', ws, e1, h1, h2⟩ := rp_list hs2 (rp_up r s c) (hl _ k)
      cases e1
      exact ⟨ws, .inl (.inl h1), h2⟩
    · exact ⟨.t a, rfl, fun F2 cs2 H2 st2 s c hs2 k => ⟨vs, sqT_mono (s.trans hs2.sub) hT, rps_mono s c _ _ rs⟩⟩
  cases x with
  | p d =>
    cases d with
    | str z =>
      cases h
      exact ⟨.s z, rp_str r, fun F2 cs2 H2 st2 s c hs2 k => ⟨signs z, rfl, rps_signs _⟩⟩
    | _ => exact main (fun z e => by cases e)
  | _ => exact main (fun z e => by cases e)
theorem rp_pair {F : Hp} {cs : List Addr} {H : Hp} {st : Store} {T : Addr} {x y : SV} {v w : V} (hs : HS X.K F cs H st) (hT : H T = none) (rx : Rp X.K F cs x v) (ry : Rp X.K F cs y w) :
    ∃ F3, Same F F3 ∧ HS X.K F3 cs (upd H T (.tup [v, w])) st ∧ Rp X.K F3 cs (mkTup [x, y]) (.ref T) := by
  obtain ⟨z1, z2⟩ := hs.pure (o := .tup [v, w]) hT
  exact ⟨_, z1, z2, rp_mkTup upd_same (.cons (rp_up rx z1 (List.prefix_refl _)) (.cons (rp_up ry z1 (List.prefix_refl _)) .nil))⟩
def enumItems (i : Nat) : List SV → List SV
  | [] => []
  | x :: xs => mkTup [.p (.int (i : Nat)), x] :: enumItems (i + 1) xs
theorem enum_len : ∀ (xs : List SV) (i : Nat), (enumItems i xs).length = xs.length
  | [], _ => rfl
  | x :: xs, i => by simp [enumItems, enum_len xs]
theorem enum_get : ∀ {xs : List SV} {k i : Nat} {x : SV}, xs[i]? = some x → (enumItems k xs)[i]? = some (mkTup [.p (.int ((k + i : Nat) : Int)), x])
  | [], _, _, _, h => by simp at h
  | y :: xs, k, 0, x, h => by
    simp at h; subst h; rfl
  | y :: xs, k, i + 1, x, h => by
    have := enum_get (xs := xs) (k := k + 1) (i := i) (by simpa using h)
    simp only [enumItems, List.getElem?_cons_succ]
    rw [this]
    congr 5
    omega
def wiEnum (wa : WA) : WI := fun env st Q => wa env st fun ds s => match ds with
  | [x] => ∃ xs, srcOf s x = some xs ∧ Q { items := enumItems 0 xs, keep := fun s' => srcOf s' x = some xs } s
  | _ => False
theorem si_enum {elts : List Expr} {kk : Nat} {tpos : Pos} (hg : Gl X "enumerate") (hm : X.mg "enumerate" = none) (ha : SA X [e] wa) (hs : starEach [e] X.env = [(false, eval e X.env)] := by rfl) : SI X (.Tuple elts kk tpos) (.Call (.Name "enumerate" p) [e] [] pos) (wiEnum wa) := by
  obtain ⟨t, pa, k⟩ := ha
  refine ⟨_, pi_enumK hg hm pa hs, fun F cs σ H env st Q R er hs h kk => k F cs σ H env st _ _ er hs h ?_⟩
  rintro vs H1 ⟨F1, c1, ds, s1, e1, e2, h1, r1, q⟩
  split at q
  · rename_i x
    obtain ⟨v, rfl, r⟩ := rps1 r1
    obtain ⟨xs, q1, q⟩ := q
    obtain ⟨kd, rfl, gk⟩ := src_kd h1 r q1
    obtain ⟨ws, g1, g2⟩ := gk F1 c1 H1 s1 (Same.refl _) (List.prefix_refl _) h1 q1
    refine ⟨kd, ws, rfl, g1, kk _ _ ⟨F1, c1, s1, _, e1, e2, h1, ?_, q⟩⟩
    refine ⟨fun i H F2 cs2 st2 hi s c hs k => ?_, fun H F2 cs2 st2 s c hs k => ?_, fun i H y H' F2 cs2 st2 hi s c hs k y' => ?_⟩
    · obtain ⟨us, u1, u2⟩ := gk F2 cs2 H st2 s c hs k
      have hi' : i < xs.length := by simpa [enum_len] using hi
      have hl := u2.length
      exact ⟨us, us[i]'(by omega), u1, List.getElem?_eq_getElem (by omega)⟩
    · obtain ⟨us, u1, u2⟩ := gk F2 cs2 H st2 s c hs k
      exact ⟨us, u1, by show us.length = (enumItems 0 xs).length; rw [enum_len, u2.length]⟩
    · obtain ⟨us, u1, u2⟩ := gk F2 cs2 H st2 s c hs k
      have hi' : i < xs.length := by simpa [enum_len] using hi
      obtain ⟨T, z, rfl, hT, rfl, y2⟩ := y'
      have e1 : xs[i]? = some xs[i] := List.getElem?_eq_getElem hi'
      obtain ⟨v, e2, rv⟩ := u2.get e1
      have e3 := y2 us u1
      rw [e2] at e3
      cases e3
      obtain ⟨F3, z1, z2, z3⟩ := rp_pair hs hT (x := .p (.int (i : Nat))) (.p (.int _)) rv
      refine ⟨F3, _, z1, z2, enum_get e1, ?_⟩
      rw [Nat.zero_add]
      exact z3
  · exact q.elim
def wiZip (wa : WA) : WI := fun env st Q => wa env st fun ds s => match ds with
  | [x, y] => ∃ xs ys, srcOf s x = some xs ∧ srcOf s y = some ys ∧ Q { items := List.zipWith (fun a b => mkTup [a, b]) xs ys, keep := fun s' => srcOf s' x = some xs ∧ srcOf s' y = some ys } s
  | _ => False
theorem si_zip {e2 : Expr} {elts : List Expr} {kk : Nat} {tpos : Pos} (hg : Gl X "zip") (hm : X.mg "zip" = none) (ha : SA X [e, e2] wa)
    (hs : starEach [e, e2] X.env = (false, eval e X.env) :: starEach [e2] X.env := by rfl) (hpl : (backTo pos (starEach [e2] X.env)).any (·.1) = false := by rfl) : SI X (.Tuple elts kk tpos) (.Call (.Name "zip" p) [e, e2] [] pos) (wiZip wa) := by
  obtain ⟨t, pa, k⟩ := ha
  refine ⟨_, pi_zipK hg hm pa hs hpl, fun F cs σ H env st Q R er hs h kk => k F cs σ H env st _ _ er hs h ?_⟩
  rintro vs H1 ⟨F1, c1, ds, s1, e1, e2, h1, r1, q⟩
  split at q
  · rename_i x y
    obtain ⟨v, w, rfl, r, r'⟩ := rps2 r1
    obtain ⟨xs, ys, q1, q2, q⟩ := q
    obtain ⟨k1, rfl, gk⟩ := src_kd h1 r q1
    obtain ⟨k2, rfl, gk'⟩ := src_kd h1 r' q2
    obtain ⟨ws, g1, g2⟩ := gk F1 c1 H1 s1 (Same.refl _) (List.prefix_refl _) h1 q1
    obtain ⟨ws', g1', g2'⟩ := gk' F1 c1 H1 s1 (Same.refl _) (List.prefix_refl _) h1 q2
    refine ⟨k1, k2, ws, ws', rfl, g1, g1', kk _ _ ⟨F1, c1, s1, _, e1, e2, h1, ?_, q⟩⟩
    have zl : (List.zipWith (fun a b => mkTup [a, b]) xs ys).length = min xs.length ys.length := by simp
    refine ⟨fun i H F2 cs2 st2 hi s c hs k => ?_, fun H F2 cs2 st2 s c hs k => ?_, fun i H z H' F2 cs2 st2 hi s c hs k y' => ?_⟩
    · obtain ⟨us, u1, u2⟩ := gk F2 cs2 H st2 s c hs k.1
      obtain ⟨us', u1', u2'⟩ := gk' F2 cs2 H st2 s c hs k.2
      have hi' : i < min xs.length ys.length := by rw [← zl]; exact hi
      have hl := u2.length
      have hl' := u2'.length
      exact ⟨us, us', us[i]'(by omega), us'[i]'(by omega), u1, u1', List.getElem?_eq_getElem (by omega), List.getElem?_eq_getElem (by omega)⟩
    · obtain ⟨us, u1, u2⟩ := gk F2 cs2 H st2 s c hs k.1
      obtain ⟨us', u1', u2'⟩ := gk' F2 cs2 H st2 s c hs k.2
      exact ⟨us, us', u1, u1', by show min us.length us'.length = _; rw [← u2.length, ← u2'.length]; exact zl.symm⟩
    · obtain ⟨us, u1, u2⟩ := gk F2 cs2 H st2 s c hs k.1
      obtain ⟨us', u1', u2'⟩ := gk' F2 cs2 H st2 s c hs k.2
      have hi' : i < min xs.length ys.length := by rw [← zl]; exact hi
      obtain ⟨T, z1, z2, rfl, hT, rfl, y2, y3⟩ := y'
      have e1 : xs[i]? = some (xs[i]'(by omega)) := List.getElem?_eq_getElem (by omega)
      have e1' : ys[i]? = some (ys[i]'(by omega)) := List.getElem?_eq_getElem (by omega)
      obtain ⟨v, e2, rv⟩ := u2.get e1
      obtain ⟨v', e2', rv'⟩ := u2'.get e1'
      have e3 := y2 us u1
      rw [e2] at e3
      cases e3
      have e3 := y3 us' u1'
      rw [e2'] at e3
      cases e3
      obtain ⟨F3, p1, p2, p3⟩ := rp_pair hs hT rv rv'
      refine ⟨F3, _, p1, p2, ?_, p3⟩
      rw [List.getElem?_zipWith, e1, e1']
  · exact q.elim
def wiStr (we : WE) : WI := fun env st Q => we env st fun x s => match x with
  | .p (.str z) => Q { items := z.cps.toList.map fun c => SV.p (.str ⟨#[c]⟩) } s
  | _ => False
theorem si_str (he : SE X e we) : SI X tg e (wiStr we) := by
  obtain ⟨t, pe, k⟩ := he
  refine ⟨_, pi_str pe, fun F cs σ H env st Q R er hs h kk => k F cs σ H env st _ _ er hs h ?_⟩
  rintro v H1 ⟨F1, c1, d, s1, e1, e2, h1, r1, q⟩
  split at q
  · rename_i z
    refine ⟨z, rp_str r1, kk _ _ ⟨F1, c1, s1, _, e1, e2, h1, ?_, q⟩⟩
    have hl : (z.cps.toList.map fun c => SV.p (.str ⟨#[c]⟩)).length = z.cps.size := by simp
    refine ⟨fun i H F2 cs2 st2 hi s c hs k => ?_, fun H F2 cs2 st2 s c hs k => ?_, fun i H y H' F2 cs2 st2 hi s c hs k y' => ?_⟩
    · exact (show i < z.cps.size by rw [← hl]; exact hi)
    · exact (show z.cps.size ≤ _ by rw [hl]; exact Nat.le_refl _)
    · obtain ⟨rfl, cc, ec, rfl⟩ := y'
      refine ⟨F2, _, Same.refl _, hs, ?_, .p (.str _)⟩
      show (z.cps.toList.map fun c => SV.p (.str ⟨#[c]⟩))[i]? = _
      rw [List.getElem?_map, Array.getElem?_toList, ec]; rfl
  · exact q.elim
end
end M


namespace M
open PySem PySem.Spec PyProof.Rows L2
section
variable {X : XM} {tg iter elt : Expr} {pos : Pos}
def wipeE (env : M.Env) : List Nat → M.Env
  | [] => env
  | v :: vs => (wipeE env vs).set v none
theorem er_wipe {K : PySem.W.Frag} {F : Hp} {cs : List Addr} {σ : L2.St} {env : M.Env} (er : EK K F cs σ env) : ∀ vs : List Nat, EK K F cs (wipe σ vs) (wipeE env vs)
  | [] => er
  | v :: vs => by
    have ih := er_wipe er vs
    refine ⟨by simp [wipe, wipeE, ih.len], fun i d q => ?_⟩
    unfold wipeE at q
    unfold wipe
    by_cases hi : v = i
    · subst hi
      by_cases hl : v < (wipeE env vs).length
      · rw [List.getElem?_set_self hl] at q; cases q
      · rw [List.getElem?_eq_none (by simp; omega)] at q; cases q
    · rw [List.getElem?_set_ne hi] at q ⊢
      exact ih.slot i d q
theorem er_wipeX {X : XM} {F : Hp} {cs : List Addr} {σ : L2.St} {env : M.Env} (er : ER X F cs σ env) (vs : List Nat) : ER X F cs (wipe σ vs) (wipeE env vs) := ⟨er_wipe er.k vs, er.xp⟩
theorem wipe_set_in {σ : L2.St} {i : Nat} {x : Option V} : ∀ {vs : List Nat}, i ∈ vs → wipe (σ.set i x) vs = wipe σ vs
  | [], h => by simp at h
  | v :: vs, h => by
    by_cases hv : i = v
    · subst hv
      unfold wipe
      by_cases hm : i ∈ vs
      · rw [wipe_set_in hm]
      · have e : wipe (σ.set i x) vs = (wipe σ vs).set i x := wipe_set_out hm
        rw [e, List.set_set]
    · have hm : i ∈ vs := by simpa [hv] using h
      unfold wipe
      rw [wipe_set_in hm]
where
  wipe_set_out {σ : L2.St} {i : Nat} {x : Option V} : ∀ {vs : List Nat}, i ∉ vs → wipe (σ.set i x) vs = (wipe σ vs).set i x
  | [], _ => rfl
  | v :: vs, h => by
    have h1 : i ≠ v := fun e => h (by simp [e])
    have h2 : i ∉ vs := fun e => h (by simp [e])
    unfold wipe
    rw [wipe_set_out h2, List.set_comm _ _ h1]
theorem wipe_wipe {σ : L2.St} : ∀ {vs ws : List Nat}, (∀ v ∈ vs, v ∈ ws) → wipe (wipe σ vs) ws = wipe σ ws
  | [], ws, _ => rfl
  | v :: vs, ws, h => by
    show wipe ((wipe σ vs).set v none) ws = wipe σ ws
    rw [wipe_set_in (h v (by simp))]
    exact wipe_wipe fun x hx => h x (by simp [hx])
structure SGv (X : XM) (vs : List Nat) (tg : Expr) (g : WG) : Prop where
  run : ∃ t, PG X tg t ∧ ∀ (F : Hp) (cs : List Addr) (σ : L2.St) (H : Hp) (env : M.Env) (st : Store) (d : SV) (v : V) (Q : M.Env → Store → Prop) (R : L2.St → Hp → Prop), ER X F cs σ env → HS X.K F cs H st → Rp X.K F cs d v → g d env st Q →
    (∀ σ' H', PostG X F cs Q σ' H' → wipe σ' vs = wipe σ vs → R σ' H') → t v σ H R
structure SGsv (X : XM) (vs : List Nat) (tg : List Expr) (g : WGs) : Prop where
  run : ∃ t, PGs X tg t ∧ ∀ (F : Hp) (cs : List Addr) (σ : L2.St) (H : Hp) (env : M.Env) (st : Store) (d : List SV) (v : List V) (Q : M.Env → Store → Prop) (R : L2.St → Hp → Prop), ER X F cs σ env → HS X.K F cs H st → Rps X.K F cs d v → g d env st Q →
    (∀ σ' H', PostG X F cs Q σ' H' → wipe σ' vs = wipe σ vs → R σ' H') → t v σ H R
theorem sgv_name (i : Nat) {vs : List Nat} {x : Str} (hN : X.N.Nodup) (hm : i ∈ vs := by simp) (hi : X.N[i]? = some x := by rfl) (hx : Loc X.env.scope x := by first | exact Or.inl rfl | exact Or.inr rfl) (hf : X.fn x = true ∨ X.env.scope.names.lookup x = some .local := by first | exact .inl rfl | exact .inr rfl) : SGv X vs (.Name x pos) (gNm i) :=
  ⟨_, pg_name hN hi hx hf, fun F cs σ H env st d v Q R er hs r q k => k _ _ ⟨F, cs, _, st, Same.refl _, List.prefix_refl _, er.set r, hs, q⟩ (wipe_set_in hm)⟩
theorem sgsv_nil {vs : List Nat} : SGsv X vs [] gsNil := ⟨_, pgs_nil, fun F cs σ H env st d v Q R er hs r q k => by
  obtain ⟨rfl, q⟩ := q
  cases r
  exact ⟨rfl, k _ _ ⟨F, cs, env, st, Same.refl _, List.prefix_refl _, er, hs, q⟩ rfl⟩⟩
theorem sgsv_cons {vs : List Nat} {e : Expr} {es : List Expr} {g : WG} {gs : WGs} (h1 : SGv X vs e g) (h2 : SGsv X vs es gs) (hs : (assignEach (e :: es) X.env).map (·.2) = assign e X.env :: (assignEach es X.env).map (·.2) := by rfl) : SGsv X vs (e :: es) (gsCons g gs) := by
  obtain ⟨t, p, k⟩ := h1
  obtain ⟨t2, p2, k2⟩ := h2
  refine ⟨_, pgs_cons p p2 hs, fun F cs σ H env st d v Q R er hs r q kk => ?_⟩
  obtain ⟨d1, dr, rfl, q⟩ := q
  cases r with
  | @cons _ _ v vr r1 r2 =>
    refine ⟨v, vr, rfl, k F cs σ H env st d1 v _ _ er hs r1 q ?_⟩
    rintro σ1 H1 ⟨F1, c1, e1, s1, a, b, er1, hs1, q1⟩ w1
    exact k2 F1 c1 σ1 H1 e1 s1 dr vr Q _ er1 hs1 (rps_mono a b _ _ r2) q1 fun σ2 H2 p w2 => kk _ _ (p.up a b) (w2.trans w1)
theorem sgv_tup {vs : List Nat} {es : List Expr} {k : Nat} {gs : WGs} {n : Nat} (hc : X.calm = true) (h : SGsv X vs es gs) (hn : (assignEach es X.env).length = n := by rfl) (hst : (assignEach es X.env).findIdx? (·.1) = none := by rfl) : SGv X vs (.Tuple es k pos) (gTp n gs) := by
  obtain ⟨t, p, kk⟩ := h
  refine ⟨_, pg_tup hc p hn hst, fun F cs σ H env st d v Q R er hs r q k2 => ?_⟩
  obtain ⟨xs, e, hl, q⟩ := q
  obtain ⟨a, vs, rfl, ht, rs⟩ := rp_tup r e
  exact ⟨a, vs, rfl, sqT_mono hs.sub ht, rs.length.symm.trans hl, kk F cs σ H env st xs vs Q R er hs rs q k2⟩
structure STs (X : XM) (ifs : List Expr) (w : WT) : Prop where
  run : ∃ t, PTs X ifs t ∧ ∀ (F : Hp) (cs : List Addr) (σ : L2.St) (H : Hp) (env : M.Env) (st : Store) (Q : Bool → Store → Prop) (R : Bool → Hp → Prop), ER X F cs σ env → HS X.K F cs H st → w env st Q →
    (∀ b H', PostT X F cs Q b H' → R b H') → t σ H R
def wYes : WT := fun _ st Q => Q true st
theorem sts_nil : STs X [] wYes := ⟨_, pts_nil, fun F cs σ H env st Q R er hs h k => k _ _ (.mk hs h)⟩
theorem sts_one {c : Expr} {w : WT} (h : STt X c w) : STs X [c] w := by
  obtain ⟨t, p, k⟩ := h
  exact ⟨_, pts_one p, k⟩
def WkS (b : Nat) (P : Store → Prop) : Store → Prop := fun s => P s ∨ (b ≤ s.length ∧ Wf (s.take b) ∧ P (s.take b))
def wComp (wi : WI) (g : WG) (tt : WT) (we : WE) (vs : List Nat) (fin : Nat → Store → (SV → Store → Prop) → Prop) : WE := fun env st Q => wi env st fun it st1 => ∃ Inv : Nat → Store → Prop, Inv 0 (st1 ++ [.lst []]) ∧ (∀ i s, i ≤ it.items.length → Inv i s → it.keep s) ∧
  (∀ i x s, it.items[i]? = some x → Inv i s → g x (wipeE env vs) s fun e2 s2 => tt e2 s2 fun b s3 =>
    if b = true then we e2 s3 fun y s4 => ∃ acc, s4[st1.length]? = some (.lst acc) ∧ acc.length < sizeLine ∧ WkS (st1.length + 1) (Inv (i + 1)) (s4.set st1.length (.lst (acc ++ [y]))) else WkS (st1.length + 1) (Inv (i + 1)) s3) ∧
  (∀ s, Inv it.items.length s → fin st1.length s Q)
def finP (n : Nat) (s : Store) (Q : SV → Store → Prop) : Prop := ∃ ds, s[n]? = some (.lst (ds.map SV.p)) ∧ Wf (s.take n) ∧ Q (.p (.list ds)) (s.take n)
def finC (n : Nat) (s : Store) (Q : SV → Store → Prop) : Prop := Q (.c n) s
theorem WkS.get {F : Hp} {cs0 cs : List Addr} {H : Hp} {s : Store} {P : Store → Prop} {b : Nat} (h : WkS b P s) (hc : cs0 <+: cs) (hl : cs0.length = b) (hs : HS X.K F cs H s) :
    ∃ cs' s', cs0 <+: cs' ∧ HS X.K F cs' H s' ∧ P s' := by
  rcases h with h | ⟨hk, w, p⟩
  · exact ⟨cs, s, hc, hs, h⟩
  · exact ⟨cs.take b, s.take b, pre_take hc (by omega), hs.cut w hk, p⟩
theorem comp_run {vs : List Nat} {wi : TI} {gt : TG} {tt : TT} {te : TE} {mi : WI} {g : WG} {mt : WT} {we : WE} {fin : Nat → Store → (SV → Store → Prop) → Prop} {F : Hp} {cs : List Addr} {σ : L2.St} {H : Hp} {env : M.Env} {st : Store} {Q : SV → Store → Prop} {R : VK}
    (hi : ∀ (F : Hp) (cs : List Addr) (σ : L2.St) (H : Hp) (env : M.Env) (st : Store) (Q : ItM → Store → Prop) (R : It → Hp → Prop), ER X F cs σ env → HS X.K F cs H st → mi env st Q → (∀ J H', PostI X F cs Q J H' → R J H') → wi σ H R)
    (hg : ∀ (F : Hp) (cs : List Addr) (σ : L2.St) (H : Hp) (env : M.Env) (st : Store) (d : SV) (v : V) (Q : M.Env → Store → Prop) (R : L2.St → Hp → Prop), ER X F cs σ env → HS X.K F cs H st → Rp X.K F cs d v → g d env st Q →
      (∀ σ' H', PostG X F cs Q σ' H' → wipe σ' vs = wipe σ vs → R σ' H') → gt v σ H R)
    (ht : ∀ (F : Hp) (cs : List Addr) (σ : L2.St) (H : Hp) (env : M.Env) (st : Store) (Q : Bool → Store → Prop) (R : Bool → Hp → Prop), ER X F cs σ env → HS X.K F cs H st → mt env st Q → (∀ b H', PostT X F cs Q b H' → R b H') → tt σ H R)
    (he : ∀ (F : Hp) (cs : List Addr) (σ : L2.St) (H : Hp) (env : M.Env) (st : Store) (Q : SV → Store → Prop) (R : VK), ER X F cs σ env → HS X.K F cs H st → we env st Q → (∀ v H', Post X F cs Q v H' → R v H') → te σ H R)
    (hfin : ∀ (F : Hp) (cs0 cs : List Addr) (H : Hp) (s : Store) (D : Addr) (Q : SV → Store → Prop), HS X.K F cs H s → cs0 ++ [D] <+: cs → fin cs0.length s Q → Post X F cs0 Q (.ref D) H)
    (er : ER X F cs σ env) (hs : HS X.K F cs H st) (h : wComp mi g mt we vs fin env st Q) (k : ∀ v H', Post X F cs Q v H' → R v H') : tLc wi gt tt te vs σ H R := by
  refine hi F cs σ H env st _ _ er hs h ?_
  rintro J H1 ⟨F1, cs1, st1, it, a1, b1, hs1, ok, Inv, i0, ik, it', id⟩
  intro D hD
  have wk : Walk J it.items.length (fun H => ∃ F2 cs2 s, Same F1 F2 ∧ cs1 <+: cs2 ∧ HS X.K F2 cs2 H s ∧ it.keep s)
      (fun i H x H' => ∀ F2 cs2 s, Same F1 F2 → cs1 <+: cs2 → HS X.K F2 cs2 H s → it.keep s → ∃ F3 d, Same F2 F3 ∧ HS X.K F3 cs2 H' s ∧ it.items[i]? = some d ∧ Rp X.K F3 cs2 d x) :=
    ⟨fun i H hi ⟨F2, c2, s, x1, x2, x3, x4⟩ => ok.goes i H F2 c2 s hi x1 x2 x3 x4, fun H ⟨F2, c2, s, x1, x2, x3, x4⟩ => ok.stops H F2 c2 s x1 x2 x3 x4,
      fun i H x H' hi _ y F2 c2 s x1 x2 x3 x4 => ok.ylds i H x H' F2 c2 s hi x1 x2 x3 x4 y⟩
  have pD : cs1 <+: cs1 ++ [D] := List.prefix_append _ _
  have lD : (cs1 ++ [D]).length = st1.length + 1 := by rw [List.length_append, hs1.len]; rfl
  refine lc_it wk (fun i H => ∃ F2 cs2 s, Same F1 F2 ∧ cs1 ++ [D] <+: cs2 ∧ HS X.K F2 cs2 H s ∧ Inv i s)
    ⟨F1, cs1 ++ [D], st1 ++ [.lst []], Same.refl _, List.prefix_refl _, hs1.new (m := .lst []) hD ⟨[], upd_same, .nil⟩, i0⟩ (fun i H hi ⟨F2, c2, s, x1, x2, x4, x5⟩ => ⟨F2, c2, s, x1, pD.trans x2, x4, ik i s hi x5⟩) ?_ ?_
  · rintro i x H2 H2' hlt ⟨F2, c2, s, x1, x2, x4, x5⟩ y
    obtain ⟨F3, d, y1, y2, y3, y4⟩ := y F2 c2 s x1 (pD.trans x2) x4 (ik i s (Nat.le_of_lt hlt) x5)
    refine hg F3 c2 (wipe σ vs) H2' (wipeE env vs) s d x _ _ ((er_wipeX (er.mono ((a1.trans x1).trans y1) (b1.trans (pD.trans x2))) vs)) y2 y4 (it' i d s y3 x5) ?_
    rintro σ4 H4 ⟨F4, c4, e4, s4, z1, z2, z3, z4, z5⟩ hw
    refine ⟨by rw [hw]; exact wipe_wipe fun _ h => h, ?_⟩
    refine ht F4 c4 σ4 H4 e4 s4 _ _ z3 z4 z5 ?_
    rintro b H5 ⟨F5, c5, s5, u1, u2, u3, u4⟩
    cases b with
    | false =>
      rw [if_neg Bool.false_ne_true] at u4 ⊢
      obtain ⟨c6, s6, v1, v2, v3⟩ := u4.get ((x2.trans z2).trans u2) lD u3
      exact ⟨F5, c6, s6, ((x1.trans y1).trans z1).trans u1, v1, v2, v3⟩
    | true =>
      rw [if_pos rfl] at u4 ⊢
      refine he F5 c5 σ4 H5 e4 s5 _ _ (z3.mono u1 u2) u3 u4 ?_
      rintro yv H6 ⟨F6, c6, d6, s6, w1, w2, w3, w4, acc, w5, w6, w8⟩
      have pc : cs1 ++ [D] <+: c6 := ((x2.trans z2).trans u2).trans w2
      have cD : c6[st1.length]? = some D := pre_get pc (by rw [← hs1.len, List.getElem?_append_right (Nat.le_refl _)]; simp)
      obtain ⟨ws, e1, e2⟩ := w3.cell st1.length D _ cD w5
      refine ⟨ws, e1, by rw [← e2.length]; exact w6, ?_⟩
      have hw := w3.write (m := .lst (acc ++ [d6])) (o := .lst (ws ++ [yv])) cD ⟨_, upd_same, e2.append (.cons w4 .nil)⟩
      obtain ⟨c7, s7, v1, v2, v3⟩ := w8.get pc lD hw
      exact ⟨F6, c7, s7, (((x1.trans y1).trans z1).trans u1).trans w1, v1, v2, v3⟩
  · rintro H2 ⟨F2, c2, s, x1, x2, x4, x5⟩
    have q := id s x5
    rw [← hs1.len] at q
    have p := hfin F2 cs1 c2 H2 s D Q x4 x2 q
    exact k _ _ (p.up (a1.trans x1) b1)
theorem fin_p (F : Hp) (cs0 cs : List Addr) (H : Hp) (s : Store) (D : Addr) (Q : SV → Store → Prop) (hs : HS X.K F cs H s) (hc : cs0 ++ [D] <+: cs) (h : finP cs0.length s Q) : Post X F cs0 Q (.ref D) H := by
  obtain ⟨ds, e, w, q⟩ := h
  have cD : cs[cs0.length]? = some D := pre_get hc (by rw [List.getElem?_append_right (Nat.le_refl _)]; simp)
  obtain ⟨vs, e1, e2⟩ := hs.cell _ D _ cD e
  have hl : cs0.length < s.length := (List.getElem?_eq_some_iff.mp e).1
  have hcut := hs.cut w (Nat.le_of_lt hl)
  have ct : cs.take cs0.length = cs0 := by
    obtain ⟨l, rfl⟩ := hc
    rw [List.append_assoc, List.take_append_of_le_length (Nat.le_refl _), List.take_length]
  rw [ct] at hcut
  -- D is frozen
  have fD : F D = none := hs.free D (List.mem_of_getElem? cD)
  have s1 : Same F (upd F D (.lst vs)) := same_new fD
  have nd : D ∉ cs0 := by
    have := hs.nd
    obtain ⟨l, rfl⟩ := hc
    rw [List.append_assoc] at this
    intro m
    have h2 := (List.nodup_append.mp this).2.2 D m D (by simp)
    exact h2 rfl
  refine ⟨upd F D (.lst vs), cs0, _, s.take cs0.length, s1, List.prefix_refl _, ⟨fun b x e => ?_, hcut.len, hcut.nd, fun a m => ?_, fun n a o q1 q2 => ?_⟩, .p (.lst upd_same ?_), q⟩
  · by_cases hb : b = D
    · subst hb; rw [upd_same] at e; rw [e1]; exact e
    · rw [upd_ne hb] at e; exact hs.sub _ _ e
  · rw [upd_ne (fun z => nd (by rw [← z]; exact m))]; exact hcut.free a m
  · exact (hcut.cell n a o q1 q2).mono s1 (List.prefix_refl _) rfl
  · exact dqs_mono s1 _ _ (rps_p.mp e2)
theorem fin_c (F : Hp) (cs0 cs : List Addr) (H : Hp) (s : Store) (D : Addr) (Q : SV → Store → Prop) (hs : HS X.K F cs H s) (hc : cs0 ++ [D] <+: cs) (h : finC cs0.length s Q) : Post X F cs0 Q (.ref D) H := by
  have cD : cs[cs0.length]? = some D := pre_get hc (by rw [List.getElem?_append_right (Nat.le_refl _)]; simp)
  exact ⟨F, cs, _, s, Same.refl _, (List.prefix_append _ _).trans hc, hs, .c cD, h⟩
abbrev wLc (wi : WI) (g : WG) (tt : WT) (we : WE) (vs : List Nat) : WE := wComp wi g tt we vs finP
abbrev wLcC (wi : WI) (g : WG) (tt : WT) (we : WE) (vs : List Nat) : WE := wComp wi g tt we vs finC
theorem uni_e {ι : Type} {Y : ι → XM} {e : Expr} {w : WE} (hK : ∀ i, (Y i).K = X.K) (hx : ∀ i nm arg e s, ¬ (Y i).rx nm arg e s) (h : ∀ i, SE (Y i) e w) : ∃ t, (∀ i, PE (Y i) e t) ∧ ∀ (F : Hp) (cs : List Addr) (σ : L2.St) (H : Hp) (env : M.Env) (st : Store) (Q : SV → Store → Prop) (R : VK), ER X F cs σ env → HS X.K F cs H st → w env st Q → (∀ v H', Post X F cs Q v H' → R v H') → t σ H R := by
  refine ⟨fun σ H Q => ∀ i, (Classical.choose (h i).run) σ H Q, fun i => ⟨fun pins s σ H Q I q => (Classical.choose_spec (h i).run).1.run pins s σ H Q I (q i)⟩, fun F cs σ H env st Q R er hs q k i => ?_⟩
  refine (Classical.choose_spec (h i).run).2 F cs σ H env st Q R ⟨by rw [hK]; exact er.k, .none (hx i)⟩ (by rw [hK]; exact hs) q fun v H' p => k v H' ?_
  unfold Post at p ⊢
  rw [hK] at p
  exact p
theorem uni_t {ι : Type} {Y : ι → XM} {e : List Expr} {w : WT} (hK : ∀ i, (Y i).K = X.K) (hx : ∀ i nm arg e s, ¬ (Y i).rx nm arg e s) (h : ∀ i, STs (Y i) e w) : ∃ t, (∀ i, PTs (Y i) e t) ∧ ∀ (F : Hp) (cs : List Addr) (σ : L2.St) (H : Hp) (env : M.Env) (st : Store) (Q : Bool → Store → Prop) (R : Bool → Hp → Prop), ER X F cs σ env → HS X.K F cs H st → w env st Q → (∀ b H', PostT X F cs Q b H' → R b H') → t σ H R := by
  refine ⟨fun σ H Q => ∀ i, (Classical.choose (h i).run) σ H Q, fun i => ⟨fun pins s σ H Q I q => (Classical.choose_spec (h i).run).1.run pins s σ H Q I (q i)⟩, fun F cs σ H env st Q R er hs q k i => ?_⟩
  refine (Classical.choose_spec (h i).run).2 F cs σ H env st Q R ⟨by rw [hK]; exact er.k, .none (hx i)⟩ (by rw [hK]; exact hs) q fun v H' p => k v H' ?_
  unfold PostT at p ⊢
  rw [hK] at p
  exact p
theorem uni_g {ι : Type} {Y : ι → XM} {vs : List Nat} {tg : Expr} {g : WG} (hK : ∀ i, (Y i).K = X.K) (hx : ∀ i nm arg e s, ¬ (Y i).rx nm arg e s) (h : ∀ i, SGv (Y i) vs tg g) : ∃ t, (∀ i, PG (Y i) tg t) ∧ ∀ (F : Hp) (cs : List Addr) (σ : L2.St) (H : Hp) (env : M.Env) (st : Store) (d : SV) (v : V) (Q : M.Env → Store → Prop) (R : L2.St → Hp → Prop), ER X F cs σ env → HS X.K F cs H st → Rp X.K F cs d v → g d env st Q →
      (∀ σ' H', PostG X F cs Q σ' H' → wipe σ' vs = wipe σ vs → R σ' H') → t v σ H R := by
  refine ⟨fun v σ H Q => ∀ i, (Classical.choose (h i).run) v σ H Q, fun i => ⟨fun pins s σ H v u Q I r q => (Classical.choose_spec (h i).run).1.run pins s σ H v u Q I r (q i)⟩, fun F cs σ H env st d v Q R er hs r q k i => ?_⟩
  refine (Classical.choose_spec (h i).run).2 F cs σ H env st d v Q R ⟨by rw [hK]; exact er.k, .none (hx i)⟩ (by rw [hK]; exact hs) (by rw [hK]; exact r) q fun σ' H' p hw => k σ' H' ?_ hw
  obtain ⟨F', cs', env', st', a, b, c, d, e⟩ := p
  exact ⟨F', cs', env', st', a, b, ⟨by rw [← hK i]; exact c.k, er.xp.mono a b⟩, by rw [← hK i]; exact d, e⟩
abbrev BI := Shared × Hp × Addr × List (Str × Addr) × List Addr
abbrev blkOf (X : XM) (scope : Scope) (i : BI) : XM := ⟨X.toCx.blk i.1 i.2.1 scope (compEnvC scope i.2.2.2.1 i.2.2.1 X.env) i.2.2.2.2, fun _ _ _ _ => False⟩
section
variable {ifs : List Expr} {scope : Scope} {own : List (Str × Nat)} {mi : WI} {g : WG} {mt : WT} {we : WE}
theorem se_comp {fin : Nat → Store → (SV → Store → Prop) → Prop} (hfin : ∀ (F : Hp) (cs0 cs : List Addr) (H : Hp) (s : Store) (D : Addr) (Q : SV → Store → Prop), HS X.K F cs H s → cs0 ++ [D] <+: cs → fin cs0.length s Q → Post X F cs0 Q (.ref D) H)
    (hc : X.calm = true) (hN : X.N.Nodup) (hi : SI X tg iter mi) (ok : BlkOk X.N X.env.scope scope own)
    (hg : ∀ i, SGv (blkOf X scope i) (own.map (·.2)) tg g) (ht : ∀ i, STs (blkOf X scope i) ifs mt) (he : ∀ i, SE (blkOf X scope i) elt we)
    (hs : ∀ x, foldedSetIterable iter X.env x = pure x := by intro _; rfl) : SE X (.ListComp elt [⟨tg, iter, ifs, 0⟩] scope pos) (wComp mi g mt we (own.map (·.2)) fin) := by
  obtain ⟨ti, pi, ki⟩ := hi
  obtain ⟨t1, p1, k1⟩ := uni_g (X := X) (Y := blkOf X scope) (fun _ => rfl) (fun _ _ _ _ _ z => z) hg
  obtain ⟨t2, p2, k2⟩ := uni_t (X := X) (Y := blkOf X scope) (fun _ => rfl) (fun _ _ _ _ _ z => z) ht
  obtain ⟨t3, p3, k3⟩ := uni_e (X := X) (Y := blkOf X scope) (fun _ => rfl) (fun _ _ _ _ _ z => z) he
  exact ⟨_, pe_lc hc hN pi ok (fun s H C cl fp => p1 (s, H, C, cl, fp)) (fun s H C cl fp => p2 (s, H, C, cl, fp)) (fun s H C cl fp => p3 (s, H, C, cl, fp)) hs, fun F cs σ H env st Q R er hs h k => comp_run ki k1 k2 k3 hfin er hs h k⟩
theorem se_lc (hc : X.calm = true) (hN : X.N.Nodup) (own : List (Str × Nat)) (ok : BlkOk X.N X.env.scope scope own) (hi : SI X tg iter mi)
    (hg : ∀ i, SGv (blkOf X scope i) (own.map (·.2)) tg g) (ht : ∀ i, STs (blkOf X scope i) ifs mt) (he : ∀ i, SE (blkOf X scope i) elt we)
    (hs : ∀ x, foldedSetIterable iter X.env x = pure x := by intro _; rfl) : SE X (.ListComp elt [⟨tg, iter, ifs, 0⟩] scope pos) (wLc mi g mt we (own.map (·.2))) := se_comp fin_p hc hN hi ok hg ht he hs
theorem se_lcC (hc : X.calm = true) (hN : X.N.Nodup) (own : List (Str × Nat)) (ok : BlkOk X.N X.env.scope scope own) (hi : SI X tg iter mi)
    (hg : ∀ i, SGv (blkOf X scope i) (own.map (·.2)) tg g) (ht : ∀ i, STs (blkOf X scope i) ifs mt) (he : ∀ i, SE (blkOf X scope i) elt we)
    (hs : ∀ x, foldedSetIterable iter X.env x = pure x := by intro _; rfl) : SE X (.ListComp elt [⟨tg, iter, ifs, 0⟩] scope pos) (wLcC mi g mt we (own.map (·.2))) := se_comp fin_c hc hN hi ok hg ht he hs
theorem ss_setComp {fin : Nat → Store → (SV → Store → Prop) → Prop} (hfin : ∀ (F : Hp) (cs0 cs : List Addr) (H : Hp) (s : Store) (D : Addr) (Q : SV → Store → Prop), HS X.K F cs H s → cs0 ++ [D] <+: cs → fin cs0.length s Q → Post X F cs0 Q (.ref D) H)
    {i : Nat} {y : Str} {py spos : Pos} (hc : X.calm = true) (hN : X.N.Nodup) (hy : X.N[i]? = some y) (hyl : X.env.scope.names.lookup y = some .local)
    (hsw : swapsWith (.ListComp elt [⟨tg, iter, ifs, 0⟩] scope pos) (some (.Name y py)) spos.line X.env = pure true) (hi : SI X tg iter mi) (ok : BlkOk X.N X.env.scope scope own)
    (hg : ∀ i, SGv (blkOf X scope i) (own.map (·.2)) tg g) (ht : ∀ i, STs (blkOf X scope i) ifs mt) (he : ∀ i, SE (blkOf X scope i) elt we)
    (hs : ∀ x, foldedSetIterable iter X.env x = pure x := by intro _; rfl) : SS X (.Assign [.Name y py] (.ListComp elt [⟨tg, iter, ifs, 0⟩] scope pos) spos) (wAsg (wComp mi g mt we (own.map (·.2)) fin) (gNm i)) := by
  obtain ⟨ti, pi, ki⟩ := hi
  obtain ⟨t1, p1, k1⟩ := uni_g (X := X) (Y := blkOf X scope) (fun _ => rfl) (fun _ _ _ _ _ z => z) hg
  obtain ⟨t2, p2, k2⟩ := uni_t (X := X) (Y := blkOf X scope) (fun _ => rfl) (fun _ _ _ _ _ z => z) ht
  obtain ⟨t3, p3, k3⟩ := uni_e (X := X) (Y := blkOf X scope) (fun _ => rfl) (fun _ _ _ _ _ z => z) he
  refine ⟨_, ps_setLc hc hN hy hyl hsw pi ok (fun s H C cl fp => p1 (s, H, C, cl, fp)) (fun s H C cl fp => p2 (s, H, C, cl, fp)) (fun s H C cl fp => p3 (s, H, C, cl, fp)) hs, fun F cs0 cs σ H env st D E hcs hl er hs h g => ?_⟩
  refine comp_run ki k1 k2 k3 hfin er hs h ?_
  rintro v H1 ⟨F1, c1, d, s1, e1, e2, h1, r1, q⟩
  exact g.nx F1 c1 _ H1 _ s1 e1 (hcs.trans e2) ((er.mono e1 e2).set r1) h1 q
theorem ss_setLc (i : Nat) {y : Str} {py spos : Pos} (hc : X.calm = true) (hN : X.N.Nodup) (own : List (Str × Nat)) (ok : BlkOk X.N X.env.scope scope own) (hi : SI X tg iter mi)
    (hg : ∀ i, SGv (blkOf X scope i) (own.map (·.2)) tg g) (ht : ∀ i, STs (blkOf X scope i) ifs mt) (he : ∀ i, SE (blkOf X scope i) elt we) (hy : X.N[i]? = some y := by rfl) (hyl : X.env.scope.names.lookup y = some .local := by rfl)
    (hsw : swapsWith (.ListComp elt [⟨tg, iter, ifs, 0⟩] scope pos) (some (.Name y py)) spos.line X.env = pure true := by exact sw_true rfl rfl rfl (by decide +kernel))
    (hs : ∀ x, foldedSetIterable iter X.env x = pure x := by intro _; rfl) : SS X (.Assign [.Name y py] (.ListComp elt [⟨tg, iter, ifs, 0⟩] scope pos) spos) (wAsg (wLc mi g mt we (own.map (·.2))) (gNm i)) := ss_setComp fin_p hc hN hy hyl hsw hi ok hg ht he hs
theorem ss_setLcC (i : Nat) {y : Str} {py spos : Pos} (hc : X.calm = true) (hN : X.N.Nodup) (own : List (Str × Nat)) (ok : BlkOk X.N X.env.scope scope own) (hi : SI X tg iter mi)
    (hg : ∀ i, SGv (blkOf X scope i) (own.map (·.2)) tg g) (ht : ∀ i, STs (blkOf X scope i) ifs mt) (he : ∀ i, SE (blkOf X scope i) elt we) (hy : X.N[i]? = some y := by rfl) (hyl : X.env.scope.names.lookup y = some .local := by rfl)
    (hsw : swapsWith (.ListComp elt [⟨tg, iter, ifs, 0⟩] scope pos) (some (.Name y py)) spos.line X.env = pure true := by exact sw_true rfl rfl rfl (by decide +kernel))
    (hs : ∀ x, foldedSetIterable iter X.env x = pure x := by intro _; rfl) : SS X (.Assign [.Name y py] (.ListComp elt [⟨tg, iter, ifs, 0⟩] scope pos) spos) (wAsg (wLcC mi g mt we (own.map (·.2))) (gNm i)) := ss_setComp fin_c hc hN hy hyl hsw hi ok hg ht he hs
end
abbrev MM := Nat → List SV → List SV → Store → (SV → Store → Prop) → Prop
def MtL (X : XM) (id : String) (m : MM) : Prop :=
  ∃ r, MtR X id r ∧ ∀ (F : Hp) (cs : List Addr) (H : Hp) (st : Store) (n : Nat) (a : Addr) (xs ys : List SV) (vs ws : List V) (Q : SV → Store → Prop) (R : VK), HS X.K F cs H st → cs[n]? = some a → H a = some (.lst vs) → Rps X.K F cs xs vs → Rps X.K F cs ys ws → st[n]? = some (.lst xs) → m n xs ys st Q →
    (∀ v H', Post X F cs Q v H' → R v H') → r (.ref a) ws H R
def wMt (m : MM) (wo : WE) (wa : WA) : WE := fun env st Q => wo env st fun x s1 => ∃ n, x = .c n ∧ (∃ xs, s1[n]? = some (.lst xs)) ∧ wa env s1 fun ys s2 => ∃ xs, s2[n]? = some (.lst xs) ∧ m n xs ys s2 Q
variable {o e : Expr} {es : List Expr} {wo : WE} {wa : WA} {name : Str} {apos cpos : Pos} {id : String} {m : MM}
theorem mt_run {to : TE} {ta : TA} {r : V → List V → Hp → VK → Prop} {F : Hp} {cs : List Addr} {σ : L2.St} {H : Hp} {env : M.Env} {st : Store} {Q : SV → Store → Prop} {R : VK}
    (ho : ∀ (F : Hp) (cs : List Addr) (σ : L2.St) (H : Hp) (env : M.Env) (st : Store) (Q : SV → Store → Prop) (R : VK), ER X F cs σ env → HS X.K F cs H st → wo env st Q → (∀ v H', Post X F cs Q v H' → R v H') → to σ H R)
    (ha : ∀ (F : Hp) (cs : List Addr) (σ : L2.St) (H : Hp) (env : M.Env) (st : Store) (Q : List SV → Store → Prop) (R : List V → Hp → Prop), ER X F cs σ env → HS X.K F cs H st → wa env st Q → (∀ v H', PostA X F cs Q v H' → R v H') → ta σ H R)
    (hm : ∀ (F : Hp) (cs : List Addr) (H : Hp) (st : Store) (n : Nat) (a : Addr) (xs ys : List SV) (vs ws : List V) (Q : SV → Store → Prop) (R : VK), HS X.K F cs H st → cs[n]? = some a → H a = some (.lst vs) → Rps X.K F cs xs vs → Rps X.K F cs ys ws → st[n]? = some (.lst xs) → m n xs ys st Q →
      (∀ v H', Post X F cs Q v H' → R v H') → r (.ref a) ws H R)
    (er : ER X F cs σ env) (hs : HS X.K F cs H st) (h : wMt m wo wa env st Q) (k : ∀ v H', Post X F cs Q v H' → R v H') : tBM X.K "list" r to ta σ H R := by
  refine ho F cs σ H env st _ _ er hs h ?_
  rintro v H1 ⟨F1, c1, d, s1, e1, e2, h1, r1, n, rfl, ⟨xs, ex⟩, q⟩
  cases r1 with
  | @c _ a ca =>
    obtain ⟨vs, hv, _⟩ := h1.cell n a _ ca ex
    refine ⟨.inl ⟨rfl, vs, .inl (.inl hv)⟩, ?_⟩
    refine ha F1 c1 σ H1 env s1 _ _ (er.mono e1 e2) h1 q ?_
    rintro ws H2 ⟨F2, c2, ys, s2, a2, b2, h2, r2, zs, ez, q2⟩
    have ca2 := pre_get b2 ca
    obtain ⟨us, hu, ru⟩ := h2.cell n a _ ca2 ez
    exact hm F2 c2 H2 s2 n a zs ys us ws Q R h2 ca2 hu ru r2 ez q2 fun v H' p => k v H' ((p.up a2 b2).up e1 e2)
theorem se_mt (pa : PlainAttrs "list") (slot : Slot "list" name id) (hty : typeOf (.builtin id) = pure (.type "method_descriptor")) (hm : MtL X id m) (ho : SE X o wo) (ha : SA X (e :: es) wa)
    (hbase : attributeBase o name X.env (eval o X.env) = eval o X.env := by rfl)
    (hfew : ((backTo cpos (starEach (e :: es) X.env)).all (fun x => !x.1) && (backToKw cpos (keywordEach [] X.env)).all (fun x => x.1.isSome)
      && decide ((e :: es).length + ([] : List Keyword).length + (if ([] : List Keyword).isEmpty then 0 else 1) < 30)) = true := by rfl)
    (hline : (apos.endLine == cpos.line) = true := by rfl) (hs : starEach (e :: es) X.env = (false, eval e X.env) :: starEach es X.env := by rfl) (hplain : (backTo cpos (starEach es X.env)).any (·.1) = false := by rfl) :
    SE X (.Call (.Attribute o name apos) (e :: es) [] cpos) (wMt m wo wa) := by
  obtain ⟨r, hr, km⟩ := hm
  obtain ⟨to, po, ko⟩ := ho
  obtain ⟨ta, pa', ka⟩ := ha
  exact ⟨_, pe_bm pa slot hty hr po pa' hbase hfew hline hs hplain, fun F cs σ H env st Q R er hs h k => mt_run ko ka km er hs h k⟩
theorem se_mt0 (pa : PlainAttrs "list") (slot : Slot "list" name id) (hty : typeOf (.builtin id) = pure (.type "method_descriptor")) (hm : MtL X id m) (ho : SE X o wo)
    (hbase : attributeBase o name X.env (eval o X.env) = eval o X.env := by rfl) (hline : (apos.endLine == cpos.line) = true := by rfl) : SE X (.Call (.Attribute o name apos) [] [] cpos) (wMt m wo aNil) := by
  obtain ⟨r, hr, km⟩ := hm
  obtain ⟨to, po, ko⟩ := ho
  refine ⟨_, pe_bm0 pa slot hty hr po hbase hline, fun F cs σ H env st Q R er hs h k => ?_⟩
  exact mt_run (ta := tNil) ko (fun F cs σ H env st Q R er hs h k => k _ _ ⟨F, cs, [], st, Same.refl _, List.prefix_refl _, hs, .nil, h⟩) km er hs h k
theorem put_cell {F : Hp} {cs : List Addr} {H : Hp} {st : Store} {n : Nat} {a : Addr} {xs : List SV} {vs : List V} {v : V} {d : SV} {Q : SV → Store → Prop} (hs : HS X.K F cs H st) (ca : cs[n]? = some a) (r : Rps X.K F cs xs vs) (rv : Rp X.K F cs d v) (q : Q d (st.set n (.lst xs))) : Post X F cs Q v (upd H a (.lst vs)) :=
  ⟨F, cs, d, _, Same.refl _, List.prefix_refl _, hs.write (m := .lst xs) ca ⟨vs, upd_same, r⟩, rv, q⟩
def mAppend : MM := fun n xs ys st Q => match ys with
  | [y] => xs.length < sizeLine ∧ Q (.p .none) (st.set n (.lst (xs ++ [y])))
  | _ => False
theorem ml_append : MtL X "list.append" mAppend := ⟨_, mt_append, fun F cs H st n a xs ys vs ws Q R hs ca hv rx ry ex q k => by
  unfold mAppend at q
  split at q
  · obtain ⟨w, rfl, r⟩ := rps1 ry
    exact ⟨a, vs, w, rfl, rfl, hv, by rw [← rx.length]; exact q.1, k _ _ (put_cell hs ca (rx.append (.cons r .nil)) (.p .non) q.2)⟩
  · exact q.elim⟩
def mExtend : MM := fun n xs ys st Q => match ys with
  | [y] => ∃ zs, listOf st y = some zs ∧ xs.length + zs.length ≤ sizeLine ∧ Q (.p .none) (st.set n (.lst (xs ++ zs)))
  | _ => False
theorem ml_extend : MtL X "list.extend" mExtend := ⟨_, mt_extend, fun F cs H st n a xs ys vs ws Q R hs ca hv rx ry ex q k => by
  unfold mExtend at q
  split at q
  · obtain ⟨w, rfl, r⟩ := rps1 ry
    obtain ⟨zs, e, hl, q⟩ := q
    obtain ⟨b, us, rfl, hb, ru⟩ := rp_list hs r e
    exact ⟨a, b, vs, us, rfl, rfl, hv, hb, by rw [← rx.length, ← ru.length]; exact hl, k _ _ (put_cell hs ca (rx.append ru) (.p .non) q)⟩
  · exact q.elim⟩
theorem Rps.dropLast {K : PySem.W.Frag} {F : Hp} {cs : List Addr} {xs : List SV} {vs : List V} (h : Rps K F cs xs vs) : Rps K F cs xs.dropLast vs.dropLast := by
  rw [List.dropLast_eq_take, List.dropLast_eq_take, h.length]
  exact h.take _
def mPop : MM := fun n xs ys st Q => ys = [] ∧ ∃ y, xs[xs.length - 1]? = some y ∧ Q y (st.set n (.lst xs.dropLast))
theorem ml_pop : MtL X "list.pop" mPop := ⟨_, mt_pop, fun F cs H st n a xs ys vs ws Q R hs ca hv rx ry ex q k => by
  obtain ⟨rfl, y, e, q⟩ := q
  cases ry
  obtain ⟨v, e2, r⟩ := rx.get e
  rw [rx.length] at e2
  exact ⟨a, vs, v, rfl, rfl, hv, e2, k _ _ (put_cell hs ca rx.dropLast r q)⟩⟩
theorem Rps.reverse {K : PySem.W.Frag} {F : Hp} {cs : List Addr} : ∀ {xs : List SV} {vs : List V}, Rps K F cs xs vs → Rps K F cs xs.reverse vs.reverse
  | [], _, h => by cases h; exact .nil
  | x :: xs, _, h => by
    cases h with
    | cons h1 h2 =>
      rw [List.reverse_cons, List.reverse_cons]
      exact (Rps.reverse h2).append (.cons h1 .nil)
def mReverse : MM := fun n xs ys st Q => ys = [] ∧ Q (.p .none) (st.set n (.lst xs.reverse))
theorem ml_reverse : MtL X "list.reverse" mReverse := ⟨_, mt_reverse, fun F cs H st n a xs ys vs ws Q R hs ca hv rx ry ex q k => by
  obtain ⟨rfl, q⟩ := q
  cases ry
  exact ⟨a, vs, rfl, rfl, hv, k _ _ (put_cell hs ca rx.reverse (.p .non) q)⟩⟩
def mClear : MM := fun n xs ys st Q => ys = [] ∧ Q (.p .none) (st.set n (.lst []))
theorem ml_clear : MtL X "list.clear" mClear := ⟨_, mt_clear, fun F cs H st n a xs ys vs ws Q R hs ca hv rx ry ex q k => by
  obtain ⟨rfl, q⟩ := q
  cases ry
  exact ⟨a, vs, rfl, rfl, hv, k _ _ (put_cell hs ca .nil (.p .non) q)⟩⟩
def mSetL : MSet := fun x y z st Q => ∃ n xs k j, x = .c n ∧ y = .p (.int k) ∧ st[n]? = some (.lst xs) ∧ ixN xs.length k = some j ∧ Q (st.set n (.lst (xs.set j z)))
theorem sm_list : SetM X mSetL := ⟨_, set_list, fun F cs H st x y z v u w Q R hs rx ry rz q k => by
  obtain ⟨n, xs, i, j, rfl, rfl, ex, hj, q⟩ := q
  cases rx with
  | @c _ a ca =>
    obtain ⟨vs, hv, r⟩ := hs.cell n a _ ca ex
    refine ⟨a, vs, i, j, rfl, rp_int ry, hv, by rw [← r.length]; exact hj, ?_⟩
    exact k _ _ (hs.write (m := .lst (xs.set j z)) ca ⟨_, upd_same, r.set rz j⟩) q⟩
def tyName (st : Store) : SV → Option String
  | .p .none => some "NoneType"
  | .p (.bool _) => some "bool"
  | .p (.int _) => some "int"
  | .p (.str _) => some "str"
  | .p (.list _) => some "list"
  | .p (.tuple _) => some "tuple"
  | .t _ => some "tuple"
  | .c n => match st[n]? with
    | some (.lst _) => some "list"
    | _ => none
  | _ => none
def isB (a T : String) : Bool := a == T || (a == "bool" && T == "int")
theorem rp_ty {F : Hp} {cs : List Addr} {H : Hp} {st : Store} {x : SV} {v : V} {n : String} (hs : HS X.K F cs H st) (r : Rp X.K F cs x v) (h : tyName st x = some n) : TyX X.K H v (.type n) := by
  have tup : ∀ {a : Addr} {vs : List V}, SqT X.K F a vs → TyX X.K H (.ref a) (.type "tuple") := fun {a vs} hq => by
    rcases hq with (hq | ⟨o, hq⟩) | ⟨o, its, n, hk, hc, _⟩
    · exact .base (.tup (hs.sub _ _ hq))
    · exact .fTuple (hs.sub _ _ hq)
    · exact .kTuple hk hc
  cases r with
  | p r =>
    cases r with
    | non => cases h; exact .base .non
    | bl b => cases h; exact .base (.bl _)
    | int i => cases h; exact .base (.int _)
    | str x => cases h; exact .base (.str _)
    | lst he _ => cases h; exact .base (.lst (hs.sub _ _ he))
    | tup he _ => cases h; exact tup he
  | @c n a e =>
    have h : (match st[n]? with | some (.lst _) => some "list" | _ => none) = some _ := h
    cases q : st[n]? with
    | none => rw [q] at h; cases h
    | some o =>
      rw [q] at h
      cases o with
      | lst ys =>
        cases h
        obtain ⟨vs, e2, _⟩ := hs.cell n a _ e q
        exact .base (.lst e2)
      | dct _ => cases h
      | ins _ _ => cases h
  | t he _ => cases h; exact tup he
  | ro _ => cases h
  | x _ _ _ => cases h
theorem kit_is : ∀ a ∈ ["NoneType", "bool", "int", "str", "list", "tuple"], ∀ T ∈ ["bool", "int", "str", "list", "tuple"], kitB a T = some (isB a T) := by decide +kernel
theorem tyName_in {st : Store} {x : SV} {n : String} (h : tyName st x = some n) : n ∈ ["NoneType", "bool", "int", "str", "list", "tuple"] := by
  cases x with
  | p d => cases d <;> first | (cases h; decide) | cases h
  | c k =>
    have h : (match st[k]? with | some (.lst _) => some "list" | _ => none) = some n := h
    cases q : st[k]? with
    | none => rw [q] at h; cases h
    | some o =>
      rw [q] at h
      cases o with
      | lst ys => cases h; decide
      | dct _ => cases h
      | ins _ _ => cases h
  | t xs => cases h; decide
  | ro _ => cases h
  | x _ _ => cases h
def wIsi (T : String) (we : WE) : WE := fun env st Q => we env st fun x s => ∃ a, tyName s x = some a ∧ Q (.p (.bool (isB a T))) s
theorem pe_ty {x : Str} {T : String} {pos : Pos} (hg : Gl X x) (hm : X.mg x = none) (hv : bootBuiltins x = some (.type T)) (hn : x ≠ "__name__" := by decide) (hd : (x == ("__debug__" : Str)) = false := by decide) : PE X (.Name x pos) (tC (.ty T)) :=
  pe_bltn hg hm hv (show RelV (.ty T) (.type T) from rfl) hn hd
theorem se_isi {x : Str} {T : String} {we : WE} {p p2 pos : Pos} (hT : T ∈ ["bool", "int", "str", "list", "tuple"]) (hg : Gl X "isinstance") (hm : X.mg "isinstance" = none) (he : SE X e we) (hgT : Gl X x) (hmT : X.mg x = none) (hvT : bootBuiltins x = some (.type T)) (hnT : x ≠ "__name__" := by decide) (hdT : (x == ("__debug__" : Str)) = false := by decide)
    (hs : starEach [e, .Name x p2] X.env = (false, eval e X.env) :: starEach [.Name x p2] X.env := by rfl) (hs2 : starEach [.Name x p2] X.env = (false, eval (.Name x p2) X.env) :: starEach [] X.env := by rfl)
    (hpl : (backTo pos (starEach [.Name x p2] X.env)).any (·.1) = false := by rfl) : SE X (.Call (.Name "isinstance" p) [e, .Name x p2] [] pos) (wIsi T we) := by
  obtain ⟨t, pe, k⟩ := he
  refine ⟨_, pe_callB (id := "isinstance") call_isi hg hm (by decide +kernel) (pa_cons pe (pa_cons (pe_ty hgT hmT hvT hnT hdT) pa_nil hs2) hs) (by decide) (by decide) hs hpl, fun F cs σ H env st Q R er hs h kk => k F cs σ H env st _ _ er hs h ?_⟩
  rintro v H1 ⟨F1, c1, d, s1, e1, e2, h1, r1, a, ea, q⟩
  exact ⟨v, .ty T, _, _, _, rfl, .ty T, rp_ty h1 r1 ea, kit_ty (kit_is a (tyName_in ea) T hT), kk _ _ ⟨F1, c1, _, s1, e1, e2, h1, .p (.bl _), q⟩⟩
theorem se_globI {x : Str} {i : Int} {tk : Tok} {pos : Pos} (hg : Gl X x) (hm : X.mg x = some (.int i tk)) (hd : (x == ("__debug__" : Str)) = false := by decide) : SE X (.Name x pos) (wC (.p (.int i))) :=
  ⟨_, pe_glob (v := .int i) hg hm ⟨tk, rfl⟩ hd, fun F cs σ H env st Q R er hs h k => k _ _ (.mk hs (.p (.int _)) h)⟩
def wRetF (we : WE) : WS := fun D env s => we env s fun x s' => ∃ n ds, x = .c n ∧ D.base ≤ n ∧ s'[n]? = some (.lst (ds.map SV.p)) ∧ Wf (s'.take n) ∧ D.rt (.p (.list ds)) (s'.take n)
theorem freeze1 {F : Hp} {cs : List Addr} {H : Hp} {st : Store} {n : Nat} {a : Addr} {ds : List PyData} (hs : HS X.K F cs H st) (ca : cs[n]? = some a) (ex : st[n]? = some (.lst (ds.map SV.p))) (w : Wf (st.take n)) :
    ∃ F', Same F F' ∧ HS X.K F' (cs.take n) H (st.take n) ∧ Rp X.K F' (cs.take n) (.p (.list ds)) (.ref a) := by
  obtain ⟨vs, e1, e2⟩ := hs.cell n a _ ca ex
  have hl : n < st.length := (List.getElem?_eq_some_iff.mp ex).1
  have hcut := hs.cut w (Nat.le_of_lt hl)
  have fD : F a = none := hs.free a (List.mem_of_getElem? ca)
  have s1 : Same F (upd F a (.lst vs)) := same_new fD
  have nd : a ∉ cs.take n := fun m => by
    obtain ⟨j, hj⟩ := List.getElem?_of_mem m
    have hjn : j < n := by
      have := (List.getElem?_eq_some_iff.mp hj).1
      rw [List.length_take] at this
      omega
    rw [List.getElem?_take, if_pos hjn] at hj
    obtain ⟨h1, e1⟩ := List.getElem?_eq_some_iff.mp ca
    obtain ⟨h2, e2⟩ := List.getElem?_eq_some_iff.mp hj
    have := (List.getElem_inj hs.nd).mp (e1.trans e2.symm)
    omega
  refine ⟨upd F a (.lst vs), s1, ⟨fun b x e => ?_, hcut.len, hcut.nd, fun b m => ?_, fun k b o q1 q2 => ?_⟩, .p (.lst upd_same (dqs_mono s1 _ _ (rps_p.mp e2)))⟩
  · by_cases hb : b = a
    · subst hb; rw [upd_same] at e; rw [e1]; exact e
    · rw [upd_ne hb] at e; exact hs.sub _ _ e
  · rw [upd_ne (fun z => nd (by rw [← z]; exact m))]; exact hcut.free b m
  · exact (hcut.cell k b o q1 q2).mono s1 (List.prefix_refl _) rfl
theorem ss_retF {we : WE} (he : SE X e we) : SS X (.Return (some e) pos) (wRetF we) := by
  obtain ⟨t, p, k⟩ := he
  refine ⟨_, ps_ret p, fun F cs0 cs σ H env st D E hc hl er hs h g => k F cs σ H env st _ _ er hs h ?_⟩
  rintro v H' ⟨F1, c1, d, s1, e1, e2, h1, r1, n, ds, rfl, hb, ex, w, q⟩
  cases r1 with
  | @c _ a ca =>
    obtain ⟨F2, s2, h2, r2⟩ := freeze1 h1 ca ex w
    exact g.rt F2 (c1.take n) H' (s1.take n) _ _ (e1.trans s2) (pre_take (hc.trans e2) (by rw [hl]; exact hb)) h2 r2 q
end
end M


namespace M
open PySem PySem.Spec PyProof.Rows L2
mutual
inductive Frz (st : Store) (k : Nat) : SV → PyData → Prop
  | p (d : PyData) : Frz st k (.p d) d
  | c {n : Nat} {xs : List SV} {ds : List PyData} : k ≤ n → st[n]? = some (.lst xs) → Frzs st k xs ds → Frz st k (.c n) (.list ds)
  | t {xs : List SV} {ds : List PyData} : Frzs st k xs ds → Frz st k (.t xs) (.tuple ds)
inductive Frzs (st : Store) (k : Nat) : List SV → List PyData → Prop
  | nil : Frzs st k [] []
  | cons {x : SV} {xs : List SV} {d : PyData} {ds : List PyData} : Frz st k x d → Frzs st k xs ds → Frzs st k (x :: xs) (d :: ds)
end
section
variable {X : XM} {F : Hp} {cs : List Addr} {H : Hp} {st : Store} {k : Nat}
open Classical in
noncomputable def frzH (F H : Hp) (l : List Addr) : Hp := fun a => if a ∈ l then H a else F a
theorem frz_same (hs : HS X.K F cs H st) : Same F (frzH F H (cs.drop k)) := fun a o e => by
  unfold frzH
  rw [if_neg]
  · exact e
  · intro m
    rw [hs.free a (List.mem_of_mem_drop m)] at e; cases e
theorem frz_at (hs : HS X.K F cs H st) {n : Nat} {a : Addr} (hk : k ≤ n) (e : cs[n]? = some a) : frzH F H (cs.drop k) a = H a := by
  unfold frzH
  rw [if_pos]
  refine List.mem_of_getElem? (i := n - k) ?_
  rw [List.getElem?_drop, Nat.add_sub_cancel' hk]
  exact e
mutual
theorem frz_dq (hs : HS X.K F cs H st) : ∀ {x : SV} {d : PyData} {v : V}, Frz st k x d → Rp X.K F cs x v → Dq X.K (frzH F H (cs.drop k)) v d
  | _, _, _, .p d, r => by
    cases r with
    | p r => exact dq_mono (frz_same hs) _ _ r
  | _, _, _, .c hk e hf, r => by
    cases r with
    | c q =>
      obtain ⟨vs, e2, r2⟩ := hs.cell _ _ _ q e
      exact .lst (by rw [frz_at hs hk q]; exact e2) (frzs_dq hs hf r2)
  | _, _, _, .t hf, r => by
    cases r with
    | t hq r2 => exact .tup (sqT_mono (frz_same hs) hq) (frzs_dq hs hf r2)
theorem frzs_dq (hs : HS X.K F cs H st) : ∀ {xs : List SV} {ds : List PyData} {vs : List V}, Frzs st k xs ds → Rps X.K F cs xs vs → DqAll X.K (frzH F H (cs.drop k)) vs ds
  | _, _, _, .nil, r => by cases r; exact .nil
  | _, _, _, .cons h1 h2, r => by
    cases r with
    | cons r1 r2 => exact .cons (frz_dq hs h1 r1) (frzs_dq hs h2 r2)
end
theorem frz_hs (hs : HS X.K F cs H st) (w : Wf (st.take k)) (hk : k ≤ st.length) : HS X.K (frzH F H (cs.drop k)) (cs.take k) H (st.take k) := by
  have hcut := hs.cut w hk
  have s1 := frz_same (k := k) hs
  refine ⟨fun a o e => ?_, hcut.len, hcut.nd, fun a m => ?_, fun n a o q1 q2 => (hcut.cell n a o q1 q2).mono s1 (List.prefix_refl _) rfl⟩
  · unfold frzH at e
    split at e
    · exact e
    · exact hs.sub _ _ e
  · unfold frzH
    rw [if_neg]
    · exact hcut.free a m
    · intro m2
      have h := hs.nd
      rw [← List.take_append_drop k cs] at h
      exact (List.nodup_append.mp h).2.2 a m a m2 rfl
def wRetF2 (we : WE) : WS := fun D env s => we env s fun x s' => ∃ k d, D.base ≤ k ∧ k ≤ s'.length ∧ Frz s' k x d ∧ Wf (s'.take k) ∧ D.rt (.p d) (s'.take k)
theorem ss_retF2 {e : Expr} {we : WE} {pos : Pos} (he : SE X e we) : SS X (.Return (some e) pos) (wRetF2 we) := by
  obtain ⟨t, p, kk⟩ := he
  refine ⟨_, ps_ret p, fun F cs0 cs σ H env st D E hc hl er hs h g => kk F cs σ H env st _ _ er hs h ?_⟩
  rintro v H' ⟨F1, c1, d, s1, e1, e2, h1, r1, k, dd, hb, hk, hf, w, q⟩
  exact g.rt _ (c1.take k) H' (s1.take k) _ _ (e1.trans (frz_same h1)) (pre_take (hc.trans e2) (by rw [hl]; exact hb)) (frz_hs h1 w hk) (.p (frz_dq h1 hf r1)) q
end
structure Bn (mg : Str → Option Value) : Prop where
  len : mg "len" = none
  range : mg "range" = none
  tuple : mg "tuple" = none
  list : mg "list" = none
  max : mg "max" = none
  min : mg "min" = none
  sum : mg "sum" = none
  sorted : mg "sorted" = none
  isinstance : mg "isinstance" = none
  int : mg "int" = none
  bool : mg "bool" = none
  str : mg "str" = none
  enumerate : mg "enumerate" = none
  zip : mg "zip" = none
  reversed : mg "reversed" = none
  all : mg "all" = none
  repr : mg "repr" = none
  dict : mg "dict" = none
theorem bn_mk {K : PySem.W.Frag} {h : Heap} {mg : Str → Option Value} (X : K.In h) (G : h.Ns mainGlobals mg)
    (z1 : PySem.W.nsIn K mainGlobals "len" = some none) (z2 : PySem.W.nsIn K mainGlobals "range" = some none) (z3 : PySem.W.nsIn K mainGlobals "tuple" = some none) (z4 : PySem.W.nsIn K mainGlobals "list" = some none)
    (z5 : PySem.W.nsIn K mainGlobals "max" = some none) (z6 : PySem.W.nsIn K mainGlobals "min" = some none) (z7 : PySem.W.nsIn K mainGlobals "sum" = some none) (z8 : PySem.W.nsIn K mainGlobals "sorted" = some none)
    (z9 : PySem.W.nsIn K mainGlobals "isinstance" = some none) (z10 : PySem.W.nsIn K mainGlobals "int" = some none) (z11 : PySem.W.nsIn K mainGlobals "bool" = some none) (z12 : PySem.W.nsIn K mainGlobals "str" = some none)
    (z13 : PySem.W.nsIn K mainGlobals "enumerate" = some none) (z14 : PySem.W.nsIn K mainGlobals "zip" = some none) (z15 : PySem.W.nsIn K mainGlobals "reversed" = some none) (z16 : PySem.W.nsIn K mainGlobals "all" = some none)
    (z17 : PySem.W.nsIn K mainGlobals "repr" = some none) (z18 : PySem.W.nsIn K mainGlobals "dict" = some none) : Bn mg :=
  ⟨PySem.W.mg_none_of X G z1, PySem.W.mg_none_of X G z2, PySem.W.mg_none_of X G z3, PySem.W.mg_none_of X G z4, PySem.W.mg_none_of X G z5, PySem.W.mg_none_of X G z6, PySem.W.mg_none_of X G z7, PySem.W.mg_none_of X G z8, PySem.W.mg_none_of X G z9,
    PySem.W.mg_none_of X G z10, PySem.W.mg_none_of X G z11, PySem.W.mg_none_of X G z12, PySem.W.mg_none_of X G z13, PySem.W.mg_none_of X G z14, PySem.W.mg_none_of X G z15, PySem.W.mg_none_of X G z16, PySem.W.mg_none_of X G z17, PySem.W.mg_none_of X G z18⟩
def spLaw (K : PySem.W.Frag) : Sp := fun vs H Q _ => ∃ (a : Addr) (ns : List Int), vs = [.ref a] ∧ SqL K H a (ns.map V.int) ∧ ns.length ≤ 63 ∧ ∀ H', Q (.bl true) H'
def S_law : MSp := fun ds _ R => ∃ ns : List Int, ds = [.ro ns] ∧ ns.length ≤ 63 ∧ ∀ st', R (.p (.bool true)) st'
theorem law_imp {K : PySem.W.Frag} (vs : List V) (H : Hp) (Q : VK) (E : XK) (h : spLaw K vs H Q E) : spM K S_law vs H Q E := by
  obtain ⟨a, ns, rfl, hS, hl, q⟩ := h
  refine ⟨H, [], [.ro ns], [], fun d _ => d = .p (.bool true), ⟨Same.refl _, rfl, .nil, fun a m => by simp at m, fun n a o e => by simp at e⟩, .cons (.ro hS) .nil, ⟨ns, rfl, hl, fun _ => rfl⟩, fun F' cs' H' st' d v _ _ _ r e => ?_⟩
  subst e
  rw [rp_bool r]
  exact q H'
end M


namespace M
open PySem PySem.Spec PyProof.Rows L2
theorem at_nat' {α : Type} (xs : List α) (j : Nat) : atI xs (j : Int) = xs[j]? := by
  unfold atI ixN
  rw [if_pos (by omega)]
  by_cases h : j < xs.length
  · rw [if_pos (by omega)]; simp
  · rw [if_neg (by omega)]; simp; omega
theorem at_succ {α : Type} (xs : List α) (j : Nat) : atI xs ((j : Int) + 1) = xs[j + 1]? := at_nat' xs (j + 1)
theorem at_0 {α : Type} (xs : List α) : atI xs 0 = xs[0]? := at_nat' xs 0
theorem at_1 {α : Type} (xs : List α) : atI xs 1 = xs[1]? := at_nat' xs 1
theorem at_2 {α : Type} (xs : List α) : atI xs 2 = xs[2]? := at_nat' xs 2
theorem at_3 {α : Type} (xs : List α) : atI xs 3 = xs[3]? := at_nat' xs 3
theorem at_4 {α : Type} (xs : List α) : atI xs 4 = xs[4]? := at_nat' xs 4
theorem at_m1 {α : Type} (xs : List α) : atI xs (-1) = xs.getLast? := by
  unfold atI ixN
  rw [if_neg (by omega), List.getLast?_eq_getElem?]
  cases xs with
  | nil => rfl
  | cons a l =>
    rw [if_pos (by simp; omega)]
    simp only [List.length_cons, Option.bind_some]
    congr 1
    omega
theorem ix_nat {n j : Nat} (h : j < n) : ixN n (j : Int) = some j := by
  unfold ixN
  rw [if_pos (by omega), if_pos (by omega)]; simp
theorem ix_succ {n j : Nat} (h : j + 1 < n) : ixN n ((j : Int) + 1) = some (j + 1) := ix_nat h
theorem ix40 : ixN 4 0 = some 0 := rfl
theorem ix41 : ixN 4 1 = some 1 := rfl
theorem ix42 : ixN 4 2 = some 2 := rfl
theorem ix43 : ixN 4 3 = some 3 := rfl
theorem eqv_int (i j : Int) : PyData.eqv (.int i) (.int j) = (i == j) := by unfold PyData.eqv; rfl
theorem eqv_bool (i j : Bool) : PyData.eqv (.bool i) (.bool j) = (i == j) := by unfold PyData.eqv; rfl
theorem sh_int (i : Int) : SeqAt.shaped (.int i) = true := rfl
theorem sh_bool (i : Bool) : SeqAt.shaped (.bool i) = true := rfl
theorem sh_none : SeqAt.shaped .none = true := rfl
section
variable {d x y : SV} {o : Option SV} {env : M.Env} {st : Store} {Q : SV → Store → Prop} {D : ME}
theorem v_0 : wVar 0 (some d :: env) st Q = Q d st := by
  unfold wVar
  apply propext
  constructor
  · rintro ⟨d', e, q⟩; cases e; exact q
  · intro q; exact ⟨d, rfl, q⟩
theorem v_s {i : Nat} : wVar (i + 1) (o :: env) st Q = wVar i env st Q := by unfold wVar; rw [List.getElem?_cons_succ]
theorem e_c (d : SV) : wC d env st Q = Q d st := rfl
theorem e_op (m : M2) (wa wb : WE) : wOp m wa wb env st Q = wa env st fun x s1 => wb env s1 fun y s2 => m x y s2 Q := rfl
theorem e_test (w : WE) (Q : Bool → Store → Prop) : wTest w env st Q = w env st fun d s => ∃ k, d = .p (.bool k) ∧ Q k s := rfl
theorem e_and (t u : WT) (Q : Bool → Store → Prop) : wAnd t u env st Q = t env st fun c s => if c = true then u env s Q else Q false s := rfl
theorem e_or (t u : WT) (Q : Bool → Store → Prop) : wOr t u env st Q = t env st fun c s => if c = true then Q true s else u env s Q := rfl
theorem e_not (t : WT) (Q : Bool → Store → Prop) : wNot t env st Q = t env st fun c s => Q (!c) s := rfl
theorem e_andv (wa wb : WE) : wAndV wa wb env st Q = wa env st fun x s => ∃ c, x = .p (.bool c) ∧ if c = true then wb env s Q else Q (.p (.bool false)) s := rfl
theorem e_orv (wa wb : WE) : wOrV wa wb env st Q = wa env st fun x s => ∃ c, x = .p (.bool c) ∧ if c = true then Q (.p (.bool true)) s else wb env s Q := rfl
theorem e_notv (wa : WE) : wNotV wa env st Q = wa env st fun x s => ∃ c, x = .p (.bool c) ∧ Q (.p (.bool (!c))) s := rfl
theorem e_ife (t : WT) (wa wb : WE) : wIfE t wa wb env st Q = t env st fun c s => if c = true then wa env s Q else wb env s Q := rfl
theorem e_chain (m m' : M2) (wa wb wc : WE) : wChain m m' wa wb wc env st Q = wa env st fun x s1 => wb env s1 fun y s2 => m x y s2 fun z s3 => ∃ k, z = .p (.bool k) ∧ if k = true then wc env s3 fun w s4 => m' y w s4 Q else Q (.p (.bool false)) s3 := rfl
theorem e_anil (Q : List SV → Store → Prop) : aNil env st Q = Q [] st := rfl
theorem e_acons (w : WE) (wt : WA) (Q : List SV → Store → Prop) : aCons w wt env st Q = w env st fun x s => wt env s fun xs s2 => Q (x :: xs) s2 := rfl
theorem e_cb (m : MC) (wa : WA) : wCB m wa env st Q = wa env st fun xs s => m xs s Q := rfl
theorem e_call (sp : MSp) (wa : WA) : wCall sp wa env st Q = wa env st fun ds s => sp ds s Q := rfl
theorem e_tup (wa : WA) : wTup wa env st Q = wa env st fun xs s => xs.length ≤ sizeLine ∧ Q (mkTup xs) s := rfl
theorem e_lst (wa : WA) : wLst wa env st Q = wa env st fun xs s => ∃ ds, allP xs = some ds ∧ ds.length ≤ sizeLine ∧ Q (.p (.list ds)) s := rfl
theorem e_lstc (wa : WA) : wLstC wa env st Q = wa env st fun xs s => xs.length ≤ sizeLine ∧ Q (.c s.length) (s ++ [.lst xs]) := rfl
theorem e_sl (we : WE) (lo hi : WO) : wSl we lo hi env st Q = we env st fun x s1 => lo env s1 fun l s2 => hi env s2 fun u s3 => mSl x l u s3 Q := rfl
theorem e_onone (Q : Option Int → Store → Prop) : oNone env st Q = Q none st := rfl
theorem e_osome (w : WE) (Q : Option Int → Store → Prop) : oSome w env st Q = w env st fun x s => match x with
  | .p (.int i) => Q (some i) s
  | _ => False := rfl
theorem e_mt (m : MM) (wo : WE) (wa : WA) : wMt m wo wa env st Q = wo env st fun x s1 => ∃ n, x = .c n ∧ (∃ xs, s1[n]? = some (.lst xs)) ∧ wa env s1 fun ys s2 => ∃ xs, s2[n]? = some (.lst xs) ∧ m n xs ys s2 Q := rfl
theorem e_isi (T : String) (we : WE) : wIsi T we env st Q = we env st fun x s => ∃ a, tyName s x = some a ∧ Q (.p (.bool (isB a T))) s := rfl
theorem e_neg (wa : WE) : wNeg wa env st Q = wa env st fun x s => match x with
  | .p (.int i) => Q (.p (.int (-i))) s
  | _ => False := rfl
-- statements
theorem s_seq (w u : WS) : wSeq w u D env st = w { D with nx := u D } env st := rfl
theorem s_next : wNext D env st = D.nx env st := rfl
theorem s_break : wBreak D env st = D.bk env st := rfl
theorem s_cont : wCont D env st = D.ct env st := rfl
theorem s_never : wNever D env st = False := rfl
theorem s_drop (we : WE) : wDrop we D env st = we env st fun _ s' => D.nx env s' := rfl
theorem s_ret (we : WE) : wRet we D env st = we env st D.rt := rfl
theorem s_retn : wRetN D env st = D.rt (.p .none) st := rfl
theorem s_if (t : WT) (a b : WS) : wIfS t a b D env st = t env st fun c s' => if c = true then a D env s' else b D env s' := rfl
theorem s_asg (we : WE) (g : WG) : wAsg we g D env st = we env st fun d s1 => g d env s1 D.nx := rfl
theorem s_par (i j : Nat) (wa wb : WE) : wPar i j wa wb D env st = wa env st fun x s1 => wb env s1 fun y s2 => D.nx ((env.set i (some x)).set j (some y)) s2 := rfl
theorem s_retf (we : WE) : wRetF we D env st = we env st fun x s' => ∃ n ds, x = .c n ∧ D.base ≤ n ∧ s'[n]? = some (.lst (ds.map SV.p)) ∧ Wf (s'.take n) ∧ D.rt (.p (.list ds)) (s'.take n) := rfl
theorem s_retf2 (we : WE) : wRetF2 we D env st = we env st fun x s' => ∃ k d, D.base ≤ k ∧ k ≤ s'.length ∧ Frz s' k x d ∧ Wf (s'.take k) ∧ D.rt (.p d) (s'.take k) := rfl
theorem g_nm (i : Nat) (Q : M.Env → Store → Prop) : gNm i d env st Q = Q (env.set i (some d)) st := rfl
theorem g_snil (Q : M.Env → Store → Prop) : gsNil [] env st Q = Q env st := by
  unfold gsNil; simp
theorem g_scons (g : WG) (gs : WGs) (ds : List SV) (Q : M.Env → Store → Prop) : gsCons g gs (d :: ds) env st Q = g d env st fun env' st' => gs ds env' st' Q := by
  unfold gsCons
  apply propext
  constructor
  · rintro ⟨a, r, e, q⟩; cases e; exact q
  · intro q; exact ⟨_, _, rfl, q⟩
theorem g_tp (n : Nat) (gs : WGs) (Q : M.Env → Store → Prop) : gTp n gs d env st Q = ∃ xs, tupOf d = some xs ∧ xs.length = n ∧ gs xs env st Q := rfl
theorem g_sb (wo wi : WE) (m : MSet) (Q : M.Env → Store → Prop) : gSb wo wi m d env st Q = wo env st fun x s1 => wi env s1 fun y s2 => m x y d s2 fun s3 => Q env s3 := rfl
-- operators
theorem m_int (C : Int → Int → Prop) (g : Int → Int → PyData) (i j : Int) : mInt C g (.p (.int i)) (.p (.int j)) st Q = (C i j ∧ Q (.p (g i j)) st) := rfl
theorem m_sub (i j : Int) : mSub (.p (.int i)) (.p (.int j)) st Q = Q (.p (.int (i - j))) st := by unfold mSub; rw [m_int]; simp
theorem m_lt (i j : Int) : mLt (.p (.int i)) (.p (.int j)) st Q = Q (.p (.bool (decide (i < j)))) st := by unfold mLt; rw [m_int]; simp
theorem m_le (i j : Int) : mLe (.p (.int i)) (.p (.int j)) st Q = Q (.p (.bool (decide (i ≤ j)))) st := by unfold mLe; rw [m_int]; simp
theorem m_gt (i j : Int) : mGt (.p (.int i)) (.p (.int j)) st Q = Q (.p (.bool (decide (j < i)))) st := by unfold mGt; rw [m_int]; simp
theorem m_ge (i j : Int) : mGe (.p (.int i)) (.p (.int j)) st Q = Q (.p (.bool (decide (j ≤ i)))) st := by unfold mGe; rw [m_int]; simp
theorem m_mod (i j : Int) : mMod (.p (.int i)) (.p (.int j)) st Q = (0 < j ∧ Q (.p (.int (i % j))) st) := rfl
theorem m_div (i j : Int) : mDiv (.p (.int i)) (.p (.int j)) st Q = (CDv i j ∧ Q (.p (.int (i / j))) st) := rfl
theorem m_pow (i j : Int) : mPow (.p (.int i)) (.p (.int j)) st Q = (CPow i j ∧ Q (.p (.int (i ^ j.toNat))) st) := rfl
theorem m_add (i j : Int) : mAdd (.p (.int i)) (.p (.int j)) st Q = Q (.p (.int (i + j))) st := rfl
theorem m_addt (a b : List PyData) : mAdd (.p (.tuple a)) (.p (.tuple b)) st Q = (a.length + b.length ≤ sizeLine ∧ Q (.p (.tuple (a ++ b))) st) := rfl
theorem m_addl (a b : List PyData) : mAdd (.p (.list a)) (.p (.list b)) st Q = ∃ xs ys, some (a.map SV.p) = some (xs.map SV.p) ∧ some (b.map SV.p) = some (ys.map SV.p) ∧ xs.length + ys.length ≤ sizeLine ∧ Q (.p (.list (xs ++ ys))) st := rfl
theorem map_p_inj {a b : List PyData} : (a.map SV.p = b.map SV.p) = (a = b) := by
  apply propext
  constructor
  · intro h
    have := congrArg allP h
    rw [allP_map, allP_map] at this
    exact Option.some.inj this
  · intro h; rw [h]
theorem m_adds (a b : Str) : mAdd (.p (.str a)) (.p (.str b)) st Q = (a.length + b.length ≤ sizeLine ∧ Q (.p (.str (a ++ b))) st) := rfl
theorem m_mul (i j : Int) : mMul (.p (.int i)) (.p (.int j)) st Q = ((CMul i j ∨ CMulW i j) ∧ Q (.p (.int (i * j))) st) := rfl
theorem m_mulc (k : Int) : mMulC x (.p (.int k)) st Q = ∃ xs, listOf st x = some xs ∧ -(2 ^ 63) ≤ k ∧ k < 2 ^ 63 ∧ xs.length * k.toNat ≤ sizeLine ∧ Q (.c st.length) (st ++ [.lst (List.replicate k.toNat xs).flatten]) := rfl
theorem m_isn : mIsN x (.p .none) st Q = Q (.p (.bool (isNone x))) st := by unfold mIsN; simp
theorem m_notn : mNotN x (.p .none) st Q = Q (.p (.bool (!isNone x))) st := by unfold mNotN; simp
theorem m_eq : mEq x y st Q = ∃ d e, pureOf st x = some d ∧ pureOf st y = some e ∧ SeqAt.shaped d = true ∧ SeqAt.shaped e = true ∧ Q (.p (.bool (PyData.eqv d e))) st := rfl
theorem m_ne : mNe x y st Q = ∃ d e, pureOf st x = some d ∧ pureOf st y = some e ∧ SeqAt.shaped d = true ∧ SeqAt.shaped e = true ∧ Q (.p (.bool (!PyData.eqv d e))) st := rfl
theorem p_p (d : PyData) : pureOf st (.p d) = some d := rfl
theorem q_t (ds : List PyData) : seqOf st (.p (.tuple ds)) = some (ds.map SV.p) := rfl
theorem q_l (ds : List PyData) : seqOf st (.p (.list ds)) = some (ds.map SV.p) := rfl
theorem q_tt (xs : List SV) : seqOf st (.t xs) = some xs := rfl
theorem q_c {n : Nat} {xs : List SV} (h : st[n]? = some (.lst xs)) : seqOf st (.c n) = some xs := by
  show (match st[n]? with | some (.lst xs) => some xs | _ => none) = some xs
  rw [h]
theorem l_l (ds : List PyData) : listOf st (.p (.list ds)) = some (ds.map SV.p) := rfl
theorem l_c {n : Nat} {xs : List SV} (h : st[n]? = some (.lst xs)) : listOf st (.c n) = some xs := by
  show (match st[n]? with | some (.lst xs) => some xs | _ => none) = some xs
  rw [h]
theorem t_t (ds : List PyData) : tupOf (.p (.tuple ds)) = some (ds.map SV.p) := rfl
theorem t_tt (xs : List SV) : tupOf (.t xs) = some xs := rfl
theorem m_ix (i : Int) (hs : ∀ z, x ≠ .p (.str z)) : mIx x (.p (.int i)) st Q = ∃ xs v, seqOf st x = some xs ∧ atI xs i = some v ∧ Q v st := by
  cases x with
  | p d => cases d <;> first | rfl | exact absurd rfl (hs _)
  | _ => rfl
theorem m_ixt (ds : List PyData) (i : Int) : mIx (.p (.tuple ds)) (.p (.int i)) st Q = ∃ v, atI (ds.map SV.p) i = some v ∧ Q v st := by
  rw [m_ix _ (fun z h => by cases h)]
  simp [q_t]
theorem m_ixl (ds : List PyData) (i : Int) : mIx (.p (.list ds)) (.p (.int i)) st Q = ∃ v, atI (ds.map SV.p) i = some v ∧ Q v st := by
  rw [m_ix _ (fun z h => by cases h)]
  simp [q_l]
theorem m_ixtt (xs : List SV) (i : Int) : mIx (.t xs) (.p (.int i)) st Q = ∃ v, atI xs i = some v ∧ Q v st := by
  rw [m_ix _ (fun z h => by cases h)]
  simp [q_tt]
theorem m_ixc {n : Nat} {xs : List SV} (i : Int) (h : st[n]? = some (.lst xs)) : mIx (.c n) (.p (.int i)) st Q = ∃ v, atI xs i = some v ∧ Q v st := by
  rw [m_ix _ (fun z h => by cases h)]
  simp [q_c h]
theorem m_lent (ds : List PyData) : mLen [.p (.tuple ds)] st Q = Q (.p (.int ds.length)) st := by
  show (∃ ys, seqOf st (.p (.tuple ds)) = some ys ∧ Q (.p (.int ys.length)) st) = _
  simp [q_t]
theorem m_lenl (ds : List PyData) : mLen [.p (.list ds)] st Q = Q (.p (.int ds.length)) st := by
  show (∃ ys, seqOf st (.p (.list ds)) = some ys ∧ Q (.p (.int ys.length)) st) = _
  simp [q_l]
theorem m_lentt (xs : List SV) : mLen [.t xs] st Q = Q (.p (.int xs.length)) st := by
  show (∃ ys, seqOf st (.t xs) = some ys ∧ Q (.p (.int ys.length)) st) = _
  simp [q_tt]
theorem m_lenc {n : Nat} {xs : List SV} (h : st[n]? = some (.lst xs)) : mLen [.c n] st Q = Q (.p (.int xs.length)) st := by
  show (∃ ys, seqOf st (.c n) = some ys ∧ Q (.p (.int ys.length)) st) = _
  simp [q_c h]
theorem m_max2 (i j : Int) : mMax2 [.p (.int i), .p (.int j)] st Q = Q (.p (.int (max i j))) st := rfl
theorem m_min2 (i j : Int) : mMin2 [.p (.int i), .p (.int j)] st Q = Q (.p (.int (min i j))) st := rfl
theorem m_intb (b : Bool) : mIntB [.p (.bool b)] st Q = Q (.p (.int (if b then 1 else 0))) st := rfl
theorem m_listt (ds : List PyData) : mList [.p (.tuple ds)] st Q = Q (.p (.list ds)) st := by
  show (∃ es, seqOf st (.p (.tuple ds)) = some (es.map SV.p) ∧ Q (.p (.list es)) st) = _
  simp [q_t, map_p_inj]
theorem m_listl (ds : List PyData) : mList [.p (.list ds)] st Q = Q (.p (.list ds)) st := by
  show (∃ es, seqOf st (.p (.list ds)) = some (es.map SV.p) ∧ Q (.p (.list es)) st) = _
  simp [q_l, map_p_inj]
theorem m_tuplel (ds : List PyData) : mTuple [.p (.list ds)] st Q = Q (.p (.tuple ds)) st := by
  show (∃ es, listOf st (.p (.list ds)) = some es ∧ Q (mkTup es) st) = _
  simp [l_l, mkTup, allP_map]
theorem m_tuplec {n : Nat} {ds : List PyData} (h : st[n]? = some (.lst (ds.map SV.p))) : mTuple [.c n] st Q = Q (.p (.tuple ds)) st := by
  show (∃ es, listOf st (.c n) = some es ∧ Q (mkTup es) st) = _
  simp [l_c h, mkTup, allP_map]
theorem m_app {n : Nat} {xs : List SV} : mAppend n xs [y] st Q = (xs.length < sizeLine ∧ Q (.p .none) (st.set n (.lst (xs ++ [y])))) := rfl
theorem m_setl {n : Nat} (k : Int) (z : SV) (P : Store → Prop) : mSetL (.c n) (.p (.int k)) z st P = ∃ xs j, st[n]? = some (.lst xs) ∧ ixN xs.length k = some j ∧ P (st.set n (.lst (xs.set j z))) := by
  unfold mSetL
  apply propext
  constructor
  · rintro ⟨n', xs, k', j, e1, e2, e3, e4, q⟩
    cases e1; cases e2
    exact ⟨xs, j, e3, e4, q⟩
  · rintro ⟨xs, j, e3, e4, q⟩
    exact ⟨_, xs, _, j, rfl, rfl, e3, e4, q⟩
theorem sl_t (ds : List PyData) (lo hi : Option Int) : mSl (.p (.tuple ds)) lo hi st Q = Q (.p (.tuple (cutL ds lo hi))) st := rfl
theorem sl_r (ns : List Int) (lo hi : Option Int) : mSl (.ro ns) lo hi st Q = Q (.p (.list ((cutL ns lo hi).map PyData.int))) st := rfl
theorem sl_l (ds : List PyData) (lo hi : Option Int) : mSl (.p (.list ds)) lo hi st Q = Q (.p (.list (cutL ds lo hi))) st := by
  show (∃ es, listOf st (.p (.list ds)) = some (es.map SV.p) ∧ Q (.p (.list (cutL es lo hi))) st) = _
  simp [l_l, map_p_inj]
end
def MO.asL : MO → Option (List SV)
  | .lst xs => some xs
  | _ => none
theorem asL_l (xs : List SV) : MO.asL (.lst xs) = some xs := rfl
section
variable {st : Store} {Q : SV → Store → Prop} {n : Nat}
theorem cl_eq : (match st[n]? with | some (.lst xs) => some xs | _ => none) = (st[n]?).bind MO.asL := by
  cases st[n]? with
  | none => rfl
  | some o => cases o <;> rfl
theorem q_cc : seqOf st (.c n) = (st[n]?).bind MO.asL := cl_eq
theorem l_cc : listOf st (.c n) = (st[n]?).bind MO.asL := cl_eq
theorem p_cc : pureOf st (.c n) = ((st[n]?).bind MO.asL).bind fun xs => (allP xs).map PyData.list := by
  show (match st[n]? with | some (.lst xs) => (allP xs).map PyData.list | _ => none) = _
  cases st[n]? with
  | none => rfl
  | some o => cases o <;> rfl
theorem ty_cc : tyName st (.c n) = ((st[n]?).bind MO.asL).map fun _ => "list" := by
  show (match st[n]? with | some (.lst _) => some "list" | _ => none) = _
  cases st[n]? with
  | none => rfl
  | some o => cases o <;> rfl
theorem m_ixcc (i : Int) : mIx (.c n) (.p (.int i)) st Q = ∃ xs v, (st[n]?).bind MO.asL = some xs ∧ atI xs i = some v ∧ Q v st := by
  rw [m_ix _ (fun z h => by cases h)]
  simp only [q_cc]
theorem m_lencc : mLen [.c n] st Q = ∃ ys, (st[n]?).bind MO.asL = some ys ∧ Q (.p (.int ys.length)) st := by
  show (∃ ys, seqOf st (.c n) = some ys ∧ Q (.p (.int ys.length)) st) = _
  simp only [q_cc]
theorem m_tuplecc : mTuple [.c n] st Q = ∃ ys, (st[n]?).bind MO.asL = some ys ∧ Q (mkTup ys) st := by
  show (∃ es, listOf st (.c n) = some es ∧ Q (mkTup es) st) = _
  simp only [l_cc]
theorem m_listcc : mList [.c n] st Q = ∃ ys : List PyData, (st[n]?).bind MO.asL = some (ys.map SV.p) ∧ Q (.p (.list ys)) st := by
  show (∃ es, seqOf st (.c n) = some (es.map SV.p) ∧ Q (.p (.list es)) st) = _
  simp only [q_cc]
end
theorem st_at {st l : Store} {k : Nat} : (st ++ l)[st.length + k]? = l[k]? := by
  rw [List.getElem?_append_right (Nat.le_add_right _ _), Nat.add_sub_cancel_left]
theorem st_setk {st l : Store} {k : Nat} {o : MO} : (st ++ l).set (st.length + k) o = st ++ l.set k o := by
  rw [List.set_append_right _ _ (Nat.le_add_right _ _), Nat.add_sub_cancel_left]
theorem st_at0 {st l : Store} : (st ++ l)[st.length]? = l[0]? := st_at (k := 0)
theorem st_set0 {st l : Store} {o : MO} : (st ++ l).set st.length o = st ++ l.set 0 o := st_setk (k := 0)
theorem tp_at {s l : Store} {n : Nat} {o : MO} (hn : n < s.length) : (s.set n o ++ l)[n]? = some o := by
  rw [List.getElem?_append_left (by simpa using hn), List.getElem?_set_self hn]
theorem tp_at0 {s : Store} {n : Nat} {o : MO} (hn : n < s.length) : (s.set n o)[n]? = some o := List.getElem?_set_self hn
theorem tp_set {s l : Store} {n : Nat} {o o' : MO} (hn : n < s.length) : (s.set n o ++ l).set n o' = s.set n o' ++ l := by
  rw [List.set_append_left _ _ (by simpa using hn), List.set_set]
theorem st_atS {s l : Store} {n k : Nat} {o : MO} : (s.set n o ++ l)[s.length + k]? = l[k]? := by
  have := st_at (st := s.set n o) (l := l) (k := k)
  rw [List.length_set] at this; exact this
theorem st_setS {s l : Store} {n k : Nat} {o o' : MO} : (s.set n o ++ l).set (s.length + k) o' = s.set n o ++ l.set k o' := by
  have := st_setk (st := s.set n o) (l := l) (k := k) (o := o')
  rw [List.length_set] at this; exact this
theorem st_atS0 {s l : Store} {n : Nat} {o : MO} : (s.set n o ++ l)[s.length]? = l[0]? := st_atS (k := 0)
theorem st_setS0 {s l : Store} {n : Nat} {o o' : MO} : (s.set n o ++ l).set s.length o' = s.set n o ++ l.set 0 o' := st_setS (k := 0)
theorem st_takeS {s l : Store} {n : Nat} {o : MO} : (s.set n o ++ l).take s.length = s.set n o := by
  have := st_take' (s.set n o) l
  rw [List.length_set] at this; exact this
where
  st_take' (s l : Store) : (s ++ l).take s.length = s := by
    rw [List.take_append_of_le_length (Nat.le_refl _), List.take_length]
theorem mkTup_p (ds : List PyData) : mkTup (ds.map SV.p) = .p (.tuple ds) := by unfold mkTup; rw [allP_map]
theorem wf_app {st : Store} (w : Wf st) {l : Store} (h : ∀ o ∈ l, o.under (st.length + l.length) = true) : Wf (st ++ l) := by
  intro o m
  rw [List.length_append]
  rcases List.mem_append.mp m with m | m
  · exact under_mono (Nat.le_add_right _ _) (w o m)
  · exact h o m
where
  sv_mono {k k' : Nat} (hk : k ≤ k') : ∀ (x : SV), x.under k = true → x.under k' = true
    | .p _, _ => rfl
    | .c n, h => by simp [SV.under] at h ⊢; omega
    | .t xs, h => by
      simp only [SV.under] at h ⊢
      exact svs_mono hk xs h
    | .ro _, _ => rfl
    | .x _ _, _ => rfl
  svs_mono {k k' : Nat} (hk : k ≤ k') : ∀ (xs : List SV), underAll k xs = true → underAll k' xs = true
    | [], _ => rfl
    | x :: xs, h => by
      simp only [underAll, Bool.and_eq_true] at h ⊢
      exact ⟨sv_mono hk x h.1, svs_mono hk xs h.2⟩
  under_mono {k k' : Nat} (hk : k ≤ k') {o : MO} (h : o.under k = true) : o.under k' = true := by
    cases o with
    | lst xs => exact svs_mono hk _ h
    | dct kvs => exact svs_mono hk _ h
    | ins C fs => exact svs_mono hk _ h
theorem wf_set {st : Store} (w : Wf st) {n : Nat} {o : MO} (h : o.under st.length = true) : Wf (st.set n o) := by
  intro x m
  rw [List.length_set]
  rcases List.mem_or_eq_of_mem_set m with m | m
  · exact w x m
  · rw [m]; exact h
theorem under_p (k : Nat) : ∀ ds : List PyData, underAll k (ds.map SV.p) = true
  | [] => rfl
  | d :: ds => by simp only [List.map_cons, underAll, SV.under, Bool.true_and]; exact under_p k ds
theorem wf_take {st l : Store} (w : Wf st) : Wf ((st ++ l).take st.length) := by
  rw [List.take_append_of_le_length (Nat.le_refl _), List.take_length]; exact w
theorem st_last {st : Store} {o : MO} : (st ++ [o])[st.length]? = some o := by
  rw [List.getElem?_append_right (Nat.le_refl _)]; simp
theorem st_set {st : Store} {o o' : MO} : (st ++ [o]).set st.length o' = st ++ [o'] := by
  rw [List.set_append_right _ _ (Nat.le_refl _)]; simp
theorem st_take {st l : Store} : (st ++ l).take st.length = st := by
  rw [List.take_append_of_le_length (Nat.le_refl _), List.take_length]
theorem for_rng {wi : WI} {g : WG} {b : WS} {D : ME} {env : M.Env} {st : Store} (lo c : Int) (n : Nat) (hwi : ∀ Q : ItM → Store → Prop, Q { items := rngItems lo c n } st → wi env st Q) (Inv : Nat → M.Env → Store → Prop) (h0 : Inv 0 env st)
    (hs : ∀ i e s, i < n → Inv i e s → g (.p (.int (lo + (i : Nat) * c))) e s fun e' s' => b { nx := Wk st.length (Inv (i + 1)), ct := Wk st.length (Inv (i + 1)), bk := D.nx, rt := D.rt, base := st.length } e' s')
    (hd : ∀ e s, Inv n e s → D.nx e s) : wFor wi g b D env st := by
  have hl : (rngItems lo c n).length = n := by simp [rngItems]
  refine hwi _ ⟨Inv, h0, fun _ _ _ _ _ => trivial, fun i x e s hx hi => ?_, fun e s h => hd e s (by rw [← hl]; exact h)⟩
  have hi' : i < n := by
    have := (List.getElem?_eq_some_iff.mp hx).1
    rw [← hl]; exact this
  have e1 : (rngItems lo c n)[i]? = some x := hx
  rw [rng_get hi'] at e1
  cases e1
  exact hs i e s hi' hi
theorem for_items {wi : WI} {g : WG} {b : WS} {D : ME} {env : M.Env} {st st1 : Store} (xs : List SV) (keep : Store → Prop) (hwi : ∀ Q : ItM → Store → Prop, Q { items := xs, keep := keep } st1 → wi env st Q) (Inv : Nat → M.Env → Store → Prop) (h0 : Inv 0 env st1)
    (hk : ∀ i e s, i ≤ xs.length → Inv i e s → keep s)
    (hs : ∀ i x e s, xs[i]? = some x → Inv i e s → g x e s fun e' s' => b { nx := Wk st1.length (Inv (i + 1)), ct := Wk st1.length (Inv (i + 1)), bk := D.nx, rt := D.rt, base := st1.length } e' s')
    (hd : ∀ e s, Inv xs.length e s → D.nx e s) : wFor wi g b D env st := hwi _ ⟨Inv, h0, hk, hs, hd⟩
end M


namespace M
open PySem PySem.Spec PyProof.Rows L2
theorem eqv_tup (xs ys : List PyData) : PyData.eqv (.tuple xs) (.tuple ys) = PyData.eqvAll xs ys := by rw [PyData.eqv]
theorem eqv_lst (xs ys : List PyData) : PyData.eqv (.list xs) (.list ys) = PyData.eqvAll xs ys := by rw [PyData.eqv]
theorem eqv_nn : PyData.eqv .none .none = true := by rw [PyData.eqv]
theorem eqv_ni (i : Int) : PyData.eqv .none (.int i) = false := by simp only [PyData.eqv]
theorem eqv_in (i : Int) : PyData.eqv (.int i) .none = false := by simp only [PyData.eqv]
theorem eqvAll_map {α : Type} [DecidableEq α] (f : α → PyData) (h : ∀ a b, PyData.eqv (f a) (f b) = decide (a = b)) : ∀ xs ys : List α, PyData.eqvAll (xs.map f) (ys.map f) = decide (xs = ys)
  | [], [] => by simp [PyData.eqvAll]
  | [], _ :: _ => by simp [PyData.eqvAll]
  | _ :: _, [] => by simp [PyData.eqvAll]
  | x :: xs, y :: ys => by
    simp only [List.map_cons, PyData.eqvAll, h, eqvAll_map f h xs ys]
    rw [← Bool.decide_and]
    exact decide_eq_decide.mpr (by simp)
def Low (k : Nat) (d : PyData) : Prop := d.canLay0 = true ∧ d.depth ≤ k
def LowA (k : Nat) (ds : List PyData) : Prop := ∀ d ∈ ds, Low k d
theorem low_int (k : Nat) (i : Int) : Low k (.int i) := ⟨rfl, Nat.zero_le _⟩
theorem low_bool (k : Nat) (i : Bool) : Low k (.bool i) := ⟨rfl, Nat.zero_le _⟩
theorem low_none (k : Nat) : Low k .none := ⟨rfl, Nat.zero_le _⟩
theorem lay_all : ∀ {ds : List PyData}, (∀ d ∈ ds, d.canLay0 = true) → PyData.canLayAll0 ds = true
  | [], _ => rfl
  | d :: ds, h => by
    have h2 : PyData.canLayAll0 ds = true := lay_all fun x (m : x ∈ ds) => h x (List.mem_cons_of_mem _ m)
    simp only [PyData.canLayAll0, h d List.mem_cons_self, h2, Bool.and_self]
theorem depth_all {k : Nat} : ∀ {ds : List PyData}, (∀ d ∈ ds, d.depth ≤ k) → PyData.depthAll ds ≤ k
  | [], _ => Nat.zero_le _
  | d :: ds, h => by
    simp only [PyData.depthAll]
    exact Nat.max_le.mpr ⟨h d (by simp), depth_all fun x m => h x (by simp [m])⟩
theorem low_lst {k : Nat} {ds : List PyData} (h : LowA k ds) : Low (k + 1) (.list ds) := ⟨lay_all fun d m => (h d m).1, by
  simp only [PyData.depth]
  have := depth_all (k := k) fun d m => (h d m).2
  omega⟩
theorem low_tup {k : Nat} {ds : List PyData} (h : LowA k ds) : Low (k + 1) (.tuple ds) := ⟨lay_all fun d m => (h d m).1, by
  simp only [PyData.depth]
  have := depth_all (k := k) fun d m => (h d m).2
  omega⟩
theorem low_nil (k : Nat) : LowA k [] := fun _ m => by simp at m
theorem low_map {α : Type} {k : Nat} {f : α → PyData} {xs : List α} (h : ∀ a, Low k (f a)) : LowA k (xs.map f) := fun d m => by
  obtain ⟨a, _, rfl⟩ := List.mem_map.mp m
  exact h a
theorem sh_low {k : Nat} {d : PyData} (h : Low k d) (hk : k ≤ 64 := by decide) : SeqAt.shaped d = true := by
  unfold SeqAt.shaped
  rw [h.1, Bool.true_and]
  exact decide_eq_true (Nat.le_trans h.2 hk)
theorem eqv_low {k : Nat} {d : PyData} (h : Low k d) : PyData.eqv d d = true := PySem.SeqAt.eqv_refl d h.1
theorem frzs_p {st : Store} {k : Nat} : ∀ ds : List PyData, Frzs st k (ds.map SV.p) ds
  | [] => .nil
  | d :: ds => .cons (.p d) (frzs_p ds)
theorem frzs_of {st : Store} {k : Nat} : ∀ {xs : List SV} {ds : List PyData}, xs.length = ds.length → (∀ (i : Nat) (x : SV) (d : PyData), xs[i]? = some x → ds[i]? = some d → Frz st k x d) → Frzs st k xs ds
  | [], [], _, _ => .nil
  | [], _ :: _, h, _ => by simp at h
  | _ :: _, [], h, _ => by simp at h
  | x :: xs, d :: ds, h, q => .cons (q 0 x d rfl rfl) (frzs_of (xs := xs) (ds := ds) (by simpa using h) fun i x d a b => q (i + 1) x d (by rw [List.getElem?_cons_succ]; exact a) (by rw [List.getElem?_cons_succ]; exact b))
section
variable {wa : WA} {wi : WI} {we : WE} {tt : WT} {g : WG} {b : WS} {D : ME} {env : M.Env} {st st1 : Store} {Q : SV → Store → Prop} {vs : List Nat}
theorem src_l (st : Store) (ds : List PyData) : srcOf st (.p (.list ds)) = some (ds.map SV.p) := rfl
theorem src_t (st : Store) (ds : List PyData) : srcOf st (.p (.tuple ds)) = some (ds.map SV.p) := rfl
theorem for_enum (x : SV) (ds : List PyData) (hx : ∀ s, srcOf s x = some (ds.map SV.p)) (hwa : ∀ Q : List SV → Store → Prop, Q [x] st1 → wa env st Q) (Inv : Nat → M.Env → Store → Prop) (h0 : Inv 0 env st1)
    (hs : ∀ i d e s, ds[i]? = some d → Inv i e s → g (.p (.tuple [.int (i : Int), d])) e s fun e' s' => b { nx := Wk st1.length (Inv (i + 1)), ct := Wk st1.length (Inv (i + 1)), bk := D.nx, rt := D.rt, base := st1.length } e' s')
    (hd : ∀ e s, Inv ds.length e s → D.nx e s) : wFor (wiEnum wa) g b D env st := by
  have hl : (enumItems 0 (ds.map SV.p)).length = ds.length := by rw [enum_len, List.length_map]
  refine for_items (st1 := st1) (enumItems 0 (ds.map SV.p)) (fun s' => srcOf s' x = some (ds.map SV.p)) (fun Q hQ => ?_) Inv h0 (fun _ _ _ _ _ => hx _) (fun i y e s hy hi => ?_) (fun e s h => hd e s (by rw [← hl]; exact h))
  · exact hwa _ ⟨_, hx _, hQ⟩
  · have hi' : i < ds.length := by
      have := (List.getElem?_eq_some_iff.mp hy).1
      rw [← hl]; exact this
    have e1 : (ds.map SV.p)[i]? = some (.p ds[i]) := by rw [List.getElem?_map, List.getElem?_eq_getElem hi']; rfl
    have e2 := enum_get (k := 0) e1
    rw [hy] at e2
    cases e2
    rw [Nat.zero_add]
    exact hs i _ e s (List.getElem?_eq_getElem hi') hi
theorem for_zip (x y : SV) (ds es : List PyData) (hx : ∀ s, srcOf s x = some (ds.map SV.p)) (hy : ∀ s, srcOf s y = some (es.map SV.p)) (hwa : ∀ Q : List SV → Store → Prop, Q [x, y] st1 → wa env st Q) (Inv : Nat → M.Env → Store → Prop) (h0 : Inv 0 env st1)
    (hs : ∀ i d u e s, ds[i]? = some d → es[i]? = some u → Inv i e s → g (.p (.tuple [d, u])) e s fun e' s' => b { nx := Wk st1.length (Inv (i + 1)), ct := Wk st1.length (Inv (i + 1)), bk := D.nx, rt := D.rt, base := st1.length } e' s')
    (hd : ∀ e s, Inv (min ds.length es.length) e s → D.nx e s) : wFor (wiZip wa) g b D env st := by
  have hl : (List.zipWith (fun a b => mkTup [a, b]) (ds.map SV.p) (es.map SV.p)).length = min ds.length es.length := by simp
  refine for_items (st1 := st1) _ (fun s' => srcOf s' x = some (ds.map SV.p) ∧ srcOf s' y = some (es.map SV.p)) (fun Q hQ => ?_) Inv h0 (fun _ _ _ _ _ => ⟨hx _, hy _⟩) (fun i z e s hz hi => ?_) (fun e s h => hd e s (by rw [← hl]; exact h))
  · exact hwa _ ⟨_, _, hx _, hy _, hQ⟩
  · have hi' : i < min ds.length es.length := by
      have := (List.getElem?_eq_some_iff.mp hz).1
      rw [← hl]; exact this
    have h1 : ds[i]? = some ds[i] := List.getElem?_eq_getElem (by omega)
    have h2 : es[i]? = some es[i] := List.getElem?_eq_getElem (by omega)
    rw [List.getElem?_zipWith, List.getElem?_map, List.getElem?_map, h1, h2] at hz
    cases hz
    exact hs i _ _ e s h1 h2 hi
theorem for_seq (x : SV) (ds : List PyData) (hx : ∀ s, seqOf s x = some (ds.map SV.p)) (hwe : ∀ Q : SV → Store → Prop, Q x st1 → we env st Q) (Inv : Nat → M.Env → Store → Prop) (h0 : Inv 0 env st1)
    (hs : ∀ i d e s, ds[i]? = some d → Inv i e s → g (.p d) e s fun e' s' => b { nx := Wk st1.length (Inv (i + 1)), ct := Wk st1.length (Inv (i + 1)), bk := D.nx, rt := D.rt, base := st1.length } e' s')
    (hd : ∀ e s, Inv ds.length e s → D.nx e s) : wFor (wiSeq we) g b D env st := by
  refine for_items (st1 := st1) (ds.map SV.p) (fun s' => seqOf s' x = some (ds.map SV.p)) (fun Q hQ => ?_) Inv h0 (fun _ _ _ _ _ => hx _) (fun i y e s hy hi => ?_) (fun e s h => hd e s (by rw [← List.length_map (f := SV.p)]; exact h))
  · exact hwe _ ⟨_, hx _, hQ⟩
  · rw [List.getElem?_map] at hy
    cases h : ds[i]? with
    | none => rw [h] at hy; cases hy
    | some d => rw [h] at hy; cases hy; exact hs i d e s h hi
theorem lc_pure (xs : List SV) (keep : Store → Prop) (f : Nat → Option PyData) (hwi : ∀ Q : ItM → Store → Prop, Q { items := xs, keep := keep } st1 → wi env st Q) (hl : xs.length ≤ sizeLine) (hk : ∀ s, keep s)
    (step : ∀ i x (acc : List PyData) (Y : SV → Store → Prop) (Z : Store → Prop), xs[i]? = some x → (∀ d, f i = some d → Y (.p d) (st1 ++ [.lst (acc.map SV.p)])) → (f i = none → Z (st1 ++ [.lst (acc.map SV.p)])) →
      g x (wipeE env vs) (st1 ++ [.lst (acc.map SV.p)]) fun e2 s2 => tt e2 s2 fun c s3 => if c = true then we e2 s3 Y else Z s3)
    (w : Wf st1) (q : Q (.p (.list ((List.range xs.length).filterMap f))) st1) : wLc wi g tt we vs env st Q := by
  refine hwi _ ⟨fun i s => s = st1 ++ [.lst (((List.range i).filterMap f).map SV.p)], rfl, fun _ _ _ _ => hk _, ?_, ?_⟩
  · rintro i x s hx rfl
    have hi : i < xs.length := (List.getElem?_eq_some_iff.mp hx).1
    refine step i x _ _ _ hx (fun d hd => ?_) (fun hn => ?_)
    · refine ⟨_, st_last, ?_, .inl ?_⟩
      · rw [List.length_map]
        refine Nat.lt_of_le_of_lt (List.length_filterMap_le _ _) ?_
        rw [List.length_range]; omega
      · show _ = _
        rw [st_set, List.range_succ, List.filterMap_append]
        simp [hd]
    · refine .inl ?_
      show _ = _
      rw [List.range_succ, List.filterMap_append]
      simp [hn]
  · rintro s rfl
    refine ⟨_, st_last, ?_, ?_⟩
    · rw [st_take]; exact w
    · rw [st_take]; exact q
theorem wi_seq (x : SV) (xs : List SV) (hx : seqOf st1 x = some xs) (hwe : ∀ Q : SV → Store → Prop, Q x st1 → we env st Q) (Q : ItM → Store → Prop) (h : Q { items := xs, keep := fun s' => seqOf s' x = some xs } st1) : wiSeq we env st Q := hwe _ ⟨_, hx, h⟩
theorem wi_enum (x : SV) (xs : List SV) (hx : srcOf st1 x = some xs) (hwa : ∀ Q : List SV → Store → Prop, Q [x] st1 → wa env st Q) (Q : ItM → Store → Prop) (h : Q { items := enumItems 0 xs, keep := fun s' => srcOf s' x = some xs } st1) : wiEnum wa env st Q := hwa _ ⟨_, hx, h⟩
theorem wi_zip (x y : SV) (xs ys : List SV) (hx : srcOf st1 x = some xs) (hy : srcOf st1 y = some ys) (hwa : ∀ Q : List SV → Store → Prop, Q [x, y] st1 → wa env st Q) (Q : ItM → Store → Prop) (h : Q { items := List.zipWith (fun a b => mkTup [a, b]) xs ys, keep := fun s' => srcOf s' x = some xs ∧ srcOf s' y = some ys } st1) : wiZip wa env st Q := hwa _ ⟨_, _, hx, hy, h⟩
theorem lc_seq (x : SV) (ds : List PyData) (f : Nat → Option PyData) (hx : ∀ s, seqOf s x = some (ds.map SV.p)) (hwe : ∀ Q : SV → Store → Prop, Q x st1 → we env st Q) {wE : WE} (hl : ds.length ≤ sizeLine)
    (step : ∀ i d (acc : List PyData) (Y : SV → Store → Prop) (Z : Store → Prop), ds[i]? = some d → (∀ y, f i = some y → Y (.p y) (st1 ++ [.lst (acc.map SV.p)])) → (f i = none → Z (st1 ++ [.lst (acc.map SV.p)])) →
      g (.p d) (wipeE env vs) (st1 ++ [.lst (acc.map SV.p)]) fun e2 s2 => tt e2 s2 fun c s3 => if c = true then wE e2 s3 Y else Z s3)
    (w : Wf st1) (q : Q (.p (.list ((List.range ds.length).filterMap f))) st1) : wLc (wiSeq we) g tt wE vs env st Q := by
  refine lc_pure (st1 := st1) (ds.map SV.p) _ f (wi_seq x _ (hx _) hwe) (by rw [List.length_map]; exact hl) (fun _ => hx _) (fun i y acc Y Z hy hY hZ => ?_) w (by rw [List.length_map]; exact q)
  rw [List.getElem?_map] at hy
  cases h : ds[i]? with
  | none => rw [h] at hy; cases hy
  | some d => rw [h] at hy; cases hy; exact step i d acc Y Z h hY hZ
theorem lc_enum (x : SV) (ds : List PyData) (f : Nat → Option PyData) (hx : ∀ s, srcOf s x = some (ds.map SV.p)) (hwa : ∀ Q : List SV → Store → Prop, Q [x] st1 → wa env st Q) {wE : WE} (hl : ds.length ≤ sizeLine)
    (step : ∀ i d (acc : List PyData) (Y : SV → Store → Prop) (Z : Store → Prop), ds[i]? = some d → (∀ y, f i = some y → Y (.p y) (st1 ++ [.lst (acc.map SV.p)])) → (f i = none → Z (st1 ++ [.lst (acc.map SV.p)])) →
      g (.p (.tuple [.int (i : Int), d])) (wipeE env vs) (st1 ++ [.lst (acc.map SV.p)]) fun e2 s2 => tt e2 s2 fun c s3 => if c = true then wE e2 s3 Y else Z s3)
    (w : Wf st1) (q : Q (.p (.list ((List.range ds.length).filterMap f))) st1) : wLc (wiEnum wa) g tt wE vs env st Q := by
  have hl' : (enumItems 0 (ds.map SV.p)).length = ds.length := by rw [enum_len, List.length_map]
  refine lc_pure (st1 := st1) (enumItems 0 (ds.map SV.p)) _ f (wi_enum x _ (hx _) hwa) (by rw [hl']; exact hl) (fun _ => hx _) (fun i y acc Y Z hy hY hZ => ?_) w (by rw [hl']; exact q)
  have hi' : i < ds.length := by
    have := (List.getElem?_eq_some_iff.mp hy).1
    rw [← hl']; exact this
  have e1 : (ds.map SV.p)[i]? = some (.p ds[i]) := by rw [List.getElem?_map, List.getElem?_eq_getElem hi']; rfl
  have e2 := enum_get (k := 0) e1
  rw [hy] at e2
  cases e2
  rw [Nat.zero_add]
  exact step i _ acc Y Z (List.getElem?_eq_getElem hi') hY hZ
theorem lc_zip (x y : SV) (ds es : List PyData) (f : Nat → Option PyData) (hx : ∀ s, srcOf s x = some (ds.map SV.p)) (hy : ∀ s, srcOf s y = some (es.map SV.p)) (hwa : ∀ Q : List SV → Store → Prop, Q [x, y] st1 → wa env st Q) {wE : WE} (hl : ds.length ≤ sizeLine)
    (step : ∀ i d u (acc : List PyData) (Y : SV → Store → Prop) (Z : Store → Prop), ds[i]? = some d → es[i]? = some u → (∀ y, f i = some y → Y (.p y) (st1 ++ [.lst (acc.map SV.p)])) → (f i = none → Z (st1 ++ [.lst (acc.map SV.p)])) →
      g (.p (.tuple [d, u])) (wipeE env vs) (st1 ++ [.lst (acc.map SV.p)]) fun e2 s2 => tt e2 s2 fun c s3 => if c = true then wE e2 s3 Y else Z s3)
    (w : Wf st1) (q : Q (.p (.list ((List.range (min ds.length es.length)).filterMap f))) st1) : wLc (wiZip wa) g tt wE vs env st Q := by
  have hl' : (List.zipWith (fun a b => mkTup [a, b]) (ds.map SV.p) (es.map SV.p)).length = min ds.length es.length := by simp
  refine lc_pure (st1 := st1) _ _ f (wi_zip x y _ _ (hx _) (hy _) hwa) (by rw [hl']; omega) (fun _ => ⟨hx _, hy _⟩) (fun i z acc Y Z hz hY hZ => ?_) w (by rw [hl']; exact q)
  have hi' : i < min ds.length es.length := by
    have := (List.getElem?_eq_some_iff.mp hz).1
    rw [← hl']; exact this
  have h1 : ds[i]? = some ds[i] := List.getElem?_eq_getElem (by omega)
  have h2 : es[i]? = some es[i] := List.getElem?_eq_getElem (by omega)
  rw [List.getElem?_zipWith, List.getElem?_map, List.getElem?_map, h1, h2] at hz
  cases hz
  exact step i _ _ acc Y Z h1 h2 hY hZ
theorem lc_rng (lo c : Int) (n : Nat) (f : Nat → Option PyData) (hwi : ∀ Q : ItM → Store → Prop, Q { items := rngItems lo c n } st1 → wi env st Q) {wE : WE} (hl : n ≤ sizeLine)
    (step : ∀ i (acc : List PyData) (Y : SV → Store → Prop) (Z : Store → Prop), i < n → (∀ y, f i = some y → Y (.p y) (st1 ++ [.lst (acc.map SV.p)])) → (f i = none → Z (st1 ++ [.lst (acc.map SV.p)])) →
      g (.p (.int (lo + (i : Nat) * c))) (wipeE env vs) (st1 ++ [.lst (acc.map SV.p)]) fun e2 s2 => tt e2 s2 fun c s3 => if c = true then wE e2 s3 Y else Z s3)
    (w : Wf st1) (q : Q (.p (.list ((List.range n).filterMap f))) st1) : wLc wi g tt wE vs env st Q := by
  have hl' : (rngItems lo c n).length = n := by simp [rngItems]
  refine lc_pure (st1 := st1) (rngItems lo c n) _ f hwi (by rw [hl']; exact hl) (fun _ => trivial) (fun i z acc Y Z hz hY hZ => ?_) w (by rw [hl']; exact q)
  have hi' : i < n := by
    have := (List.getElem?_eq_some_iff.mp hz).1
    rw [← hl']; exact this
  rw [rng_get hi'] at hz
  cases hz
  exact step i acc Y Z hi' hY hZ
end
theorem lc_gen {wi : WI} {wE : WE} {tt : WT} {g : WG} {env : M.Env} {st st1 : Store} {Q : SV → Store → Prop} {vs : List Nat} (xs : List SV) (keep : Store → Prop) (P : Nat → List PyData → Store → Prop) (hwi : ∀ Q : ItM → Store → Prop, Q { items := xs, keep := keep } st1 → wi env st Q) (hl : xs.length ≤ sizeLine) (hk : ∀ s, keep s)
    (h0 : P 0 [] st1)
    (step : ∀ i x (acc : List PyData) st' (Y : SV → Store → Prop) (Z : Store → Prop), xs[i]? = some x → P i acc st' → st'.length = st1.length → (∀ d st'', st''.length = st1.length → P (i + 1) (acc ++ [d]) st'' → Y (.p d) (st'' ++ [.lst (acc.map SV.p)])) → (∀ st'', st''.length = st1.length → P (i + 1) acc st'' → Z (st'' ++ [.lst (acc.map SV.p)])) →
      g x (wipeE env vs) (st' ++ [.lst (acc.map SV.p)]) fun e2 s2 => tt e2 s2 fun c s3 => if c = true then wE e2 s3 Y else Z s3)
    (q : ∀ acc st', st'.length = st1.length → P xs.length acc st' → Wf st' ∧ Q (.p (.list acc)) st') : wLc wi g tt wE vs env st Q := by
  refine hwi _ ⟨fun i s => ∃ acc st', s = st' ++ [.lst (acc.map SV.p)] ∧ st'.length = st1.length ∧ acc.length ≤ i ∧ P i acc st', ⟨[], st1, rfl, rfl, Nat.le_refl _, h0⟩, fun _ _ _ _ => hk _, ?_, ?_⟩
  · rintro i x s hx ⟨acc, st', rfl, hl2, ha, hP⟩
    have hi : i < xs.length := (List.getElem?_eq_some_iff.mp hx).1
    refine step i x acc st' _ _ hx hP hl2 (fun d st'' h2 hP2 => ?_) (fun st'' h2 hP2 => ?_)
    · refine ⟨acc.map SV.p, by rw [← h2]; exact st_last, by rw [List.length_map]; omega, .inl ⟨acc ++ [d], st'', ?_, h2, by simp; omega, hP2⟩⟩
      rw [← h2, st_set, List.map_append]; rfl
    · exact .inl ⟨acc, st'', rfl, h2, by omega, hP2⟩
  · rintro s ⟨acc, st', rfl, hl2, ha, hP⟩
    obtain ⟨w, q⟩ := q acc st' hl2 hP
    refine ⟨acc, by rw [← hl2]; exact st_last, ?_, ?_⟩
    · rw [← hl2, st_take]; exact w
    · rw [← hl2, st_take]; exact q
theorem fm_get {α β : Type} (g : α → Option β) : ∀ l : List α, ((List.range l.length).filterMap fun i => (l[i]?).bind g) = l.filterMap g
  | [] => rfl
  | x :: l => by
    rw [List.length_cons, List.range_succ_eq_map, List.filterMap_cons, List.filterMap_map]
    have h : ((fun i => ((x :: l)[i]?).bind g) ∘ Nat.succ) = fun i => (l[i]?).bind g := by
      funext i; simp
    rw [h, fm_get g l, List.filterMap_cons]
    simp
theorem lc_seqL {wE : WE} {tt : WT} {g : WG} {we : WE} {env : M.Env} {st st1 : Store} {Q : SV → Store → Prop} {vs : List Nat} {α : Type} (x : SV) (l : List α) (h : α → PyData) (f : α → Option PyData) (hx : ∀ s, seqOf s x = some ((l.map h).map SV.p)) (hwe : ∀ Q : SV → Store → Prop, Q x st1 → we env st Q) (hl : l.length ≤ sizeLine)
    (step : ∀ a (acc : List PyData) (Y : SV → Store → Prop) (Z : Store → Prop), a ∈ l → (∀ y, f a = some y → Y (.p y) (st1 ++ [.lst (acc.map SV.p)])) → (f a = none → Z (st1 ++ [.lst (acc.map SV.p)])) →
      g (.p (h a)) (wipeE env vs) (st1 ++ [.lst (acc.map SV.p)]) fun e2 s2 => tt e2 s2 fun c s3 => if c = true then wE e2 s3 Y else Z s3)
    (w : Wf st1) (q : Q (.p (.list (l.filterMap f))) st1) : wLc (wiSeq we) g tt wE vs env st Q := by
  refine lc_seq x (l.map h) (fun i => (l[i]?).bind f) hx hwe (by rw [List.length_map]; exact hl) (fun i d acc Y Z hd hY hZ => ?_) w (by rw [List.length_map, fm_get]; exact q)
  rw [List.getElem?_map] at hd
  cases ha : l[i]? with
  | none => rw [ha] at hd; cases hd
  | some a =>
    rw [ha] at hd; cases hd
    rw [ha] at hY hZ
    exact step a acc Y Z (List.mem_of_getElem? ha) hY hZ
theorem max_use {ns : List Int} {m : Int} {st : Store} {Q : SV → Store → Prop} (h : m ∈ ns) (hm : ∀ y ∈ ns, y ≤ m) (q : Q (.p (.int m)) st) : mMaxL [.p (.list (ns.map PyData.int))] st Q := by
  refine ⟨ns, rfl, List.length_pos_of_mem h, fun m' h1 h2 => ?_⟩
  have : m' = m := Int.le_antisymm (hm _ h1) (h2 _ h)
  rw [this]; exact q
theorem min_use {ns : List Int} {m : Int} {st : Store} {Q : SV → Store → Prop} (h : m ∈ ns) (hm : ∀ y ∈ ns, m ≤ y) (q : Q (.p (.int m)) st) : mMinL [.p (.list (ns.map PyData.int))] st Q := by
  refine ⟨ns, rfl, List.length_pos_of_mem h, fun m' h1 h2 => ?_⟩
  have : m' = m := Int.le_antisymm (h2 _ h) (hm _ h1)
  rw [this]; exact q
theorem sum_use {ns : List Int} {st : Store} {Q : SV → Store → Prop} (q : Q (.p (.int ns.sum)) st) : mSum [.p (.list (ns.map PyData.int))] st Q := ⟨ns, rfl, q⟩
theorem fm_find {α β : Type} (P : α → Bool) (f : α → β) : ∀ l : List α, (l.filterMap fun k => if P k = true then some (f k) else none)[0]? = (l.find? P).map f
  | [] => rfl
  | x :: l => by
    rw [List.filterMap_cons, List.find?_cons]
    cases h : P x with
    | true => simp
    | false => simpa using fm_find P f l
theorem filterMap_map {α β : Type} (f : α → β) : ∀ l : List α, (l.filterMap fun i => some (f i)) = l.map f
  | [] => rfl
  | x :: l => by simp
theorem wf_app1 {st : Store} (w : Wf st) (ds : List PyData) : Wf (st ++ [.lst (ds.map SV.p)]) := wf_app w fun o m => by
  simp at m; subst m; exact under_p _ _
theorem cut_to {α : Type} (xs : List α) (k : Nat) : cutL xs none (some (k : Int)) = xs.take k := by
  unfold cutL
  rw [HT.sIx_none, HT.sIx_nat, List.drop_zero, Nat.sub_zero]
  by_cases h : k ≤ xs.length
  · rw [Nat.min_eq_left h]
  · rw [Nat.min_eq_right (by omega), List.take_length, List.take_of_length_le (by omega)]
theorem cut_from {α : Type} (xs : List α) (k : Nat) : cutL xs (some (k : Int)) none = xs.drop k := by
  unfold cutL
  rw [HT.sIx_none, HT.sIx_nat]
  by_cases h : k ≤ xs.length
  · rw [Nat.min_eq_left h, List.take_of_length_le (by simp)]
  · rw [Nat.min_eq_right (by omega), List.drop_length, List.drop_of_length_le (by omega)]; simp
theorem cut_all {α : Type} (xs : List α) : cutL xs none none = xs := by
  unfold cutL
  rw [HT.sIx_none, HT.sIx_none, List.drop_zero, Nat.sub_zero, List.take_length]
theorem mid_set {α : Type} : ∀ (xs : List α) (k : Nat) (y : α), k < xs.length → xs.take k ++ [y] ++ xs.drop (k + 1) = xs.set k y
  | [], _, _, h => by simp at h
  | x :: xs, 0, y, _ => rfl
  | x :: xs, k + 1, y, h => by
    have := mid_set xs k y (by simpa using h)
    simp only [List.take_succ_cons, List.cons_append, List.drop_succ_cons, List.set_cons_succ]
    rw [← this]
end M


namespace M
open PySem PySem.Spec PyProof.Rows L2
section
variable {X : XM}
theorem room65 {A : Around} {k : Nat} (hr : Room k A) : A.units + 65 < cLine := by have := hr.un; omega
def mIn : M2 := fun x y st Q => ∃ d ds, pureOf st x = some d ∧ pureOf st y = some (.list ds) ∧ SeqAt.shaped d = true ∧ SeqAt.shaped (.list ds) = true ∧ Q (.p (.bool (ds.any fun z => PyData.eqv z d))) st
def mNotIn : M2 := fun x y st Q => ∃ d ds, pureOf st x = some d ∧ pureOf st y = some (.list ds) ∧ SeqAt.shaped d = true ∧ SeqAt.shaped (.list ds) = true ∧ Q (.p (.bool (!ds.any fun z => PyData.eqv z d))) st
theorem om_in (hu : X.A.units + 65 < cLine) : OpM X (compareOp .In) mIn := ⟨_, op_inD hu, fun F cs H st x y v u Q R hs rx ry ⟨d, ds, h1, h2, s1, s2, q⟩ k =>
  ⟨d, ds, rp_pure hs rx h1, rp_pure hs ry h2, s1, s2, k _ _ (.mk hs (.p (.bl _)) q)⟩⟩
theorem om_notIn (hu : X.A.units + 65 < cLine) : OpM X (compareOp .NotIn) mNotIn := ⟨_, op_notInD hu, fun F cs H st x y v u Q R hs rx ry ⟨d, ds, h1, h2, s1, s2, q⟩ k =>
  ⟨d, ds, rp_pure hs rx h1, rp_pure hs ry h2, s1, s2, k _ _ (.mk hs (.p (.bl _)) q)⟩⟩
def mIsB : M2 := fun x y st Q => ∃ a b, x = .p (.bool a) ∧ y = .p (.bool b) ∧ Q (.p (.bool (a == b))) st
def mNotB : M2 := fun x y st Q => ∃ a b, x = .p (.bool a) ∧ y = .p (.bool b) ∧ Q (.p (.bool (!(a == b)))) st
theorem om_isB : OpM X (compareOp .Is) mIsB := ⟨_, op_isBl, fun F cs H st x y v u Q R hs rx ry q k => by
  obtain ⟨a, b, rfl, rfl, q⟩ := q
  refine ⟨a, b, rp_bool rx, rp_bool ry, ?_⟩
  have e : decide (a = b) = (a == b) := by cases a <;> cases b <;> rfl
  rw [e]
  exact k _ _ (.mk hs (.p (.bl _)) q)⟩
theorem om_notB : OpM X (compareOp .IsNot) mNotB := ⟨_, op_notBl, fun F cs H st x y v u Q R hs rx ry q k => by
  obtain ⟨a, b, rfl, rfl, q⟩ := q
  refine ⟨a, b, rp_bool rx, rp_bool ry, ?_⟩
  have e : decide (a = b) = (a == b) := by cases a <;> cases b <;> rfl
  rw [e]
  exact k _ _ (.mk hs (.p (.bl _)) q)⟩
abbrev MR := SV → List SV → Store → (SV → Store → Prop) → Prop
def MtRd (X : XM) (id : String) (m : MR) : Prop :=
  ∃ r, MtR X id r ∧ ∀ (F : Hp) (cs : List Addr) (H : Hp) (st : Store) (x : SV) (ys : List SV) (v : V) (ws : List V) (Q : SV → Store → Prop) (R : VK), HS X.K F cs H st → Rp X.K F cs x v → Rps X.K F cs ys ws → m x ys st Q → (∀ v H', Post X F cs Q v H' → R v H') → r v ws H R
def wRd (m : MR) (wo : WE) (wa : WA) : WE := fun env st Q => wo env st fun x s1 => (∃ xs, listOf s1 x = some xs) ∧ wa env s1 fun ys s2 => m x ys s2 Q
variable {o e : Expr} {es : List Expr} {wo : WE} {wa : WA} {name : Str} {apos cpos : Pos} {id : String} {m : MR}
theorem se_rdList (pa : PlainAttrs "list") (slot : Slot "list" name id) (hty : typeOf (.builtin id) = pure (.type "method_descriptor")) (hm : MtRd X id m) (ho : SE X o wo) (ha : SA X (e :: es) wa)
    (hbase : attributeBase o name X.env (eval o X.env) = eval o X.env := by rfl)
    (hfew : ((backTo cpos (starEach (e :: es) X.env)).all (fun x => !x.1) && (backToKw cpos (keywordEach [] X.env)).all (fun x => x.1.isSome)
      && decide ((e :: es).length + ([] : List Keyword).length + (if ([] : List Keyword).isEmpty then 0 else 1) < 30)) = true := by rfl)
    (hline : (apos.endLine == cpos.line) = true := by rfl) (hs : starEach (e :: es) X.env = (false, eval e X.env) :: starEach es X.env := by rfl) (hplain : (backTo cpos (starEach es X.env)).any (·.1) = false := by rfl) :
    SE X (.Call (.Attribute o name apos) (e :: es) [] cpos) (wRd m wo wa) := by
  obtain ⟨r, hr, km⟩ := hm
  obtain ⟨to, po, ko⟩ := ho
  obtain ⟨ta, pa', ka⟩ := ha
  refine ⟨_, pe_bm pa slot hty hr po pa' hbase hfew hline hs hplain, fun F cs σ H env st Q R er hs h k => ?_⟩
  refine ko F cs σ H env st _ _ er hs h ?_
  rintro v H1 ⟨F1, c1, d, s1, e1, e2, h1, r1, ⟨xs, ex⟩, q⟩
  obtain ⟨a, vs, rfl, hA, r2⟩ := rp_list h1 r1 ex
  refine ⟨.inl ⟨rfl, vs, .inl (.inl hA)⟩, ?_⟩
  refine ka F1 c1 σ H1 env s1 _ _ (er.mono e1 e2) h1 q ?_
  rintro ws H2 ⟨F2, c2, ys, s2, a2, b2, h2, r3, q2⟩
  exact km F2 c2 H2 s2 d ys _ ws Q R h2 (rp_up r1 a2 b2) r3 q2 fun v H' p => k v H' ((p.up a2 b2).up e1 e2)
def mIndexList : MR := fun x ys st Q => match ys with
  | [y] => ∃ d ds j z, pureOf st x = some (.list ds) ∧ pureOf st y = some d ∧ SeqAt.shaped (.list ds) = true ∧ SeqAt.shaped d = true ∧ ds[j]? = some z ∧ PyData.eqv z d = true ∧ (∀ m z', m < j → ds[m]? = some z' → PyData.eqv z' d = false) ∧ Q (.p (.int (j : Nat))) st
  | _ => False
theorem mr_list_index (hu : X.A.units + 65 < cLine) : MtRd X "list.index" mIndexList := ⟨_, mt_indexD hu, fun F cs H st x ys v ws Q R hs rx ry q k => by
  unfold mIndexList at q
  split at q
  · obtain ⟨u, rfl, r⟩ := rps1 ry
    obtain ⟨d, ds, j, z, h1, h2, s1, s2, hz, he, hno, q⟩ := q
    have dx := rp_pure hs rx h1
    have hv : ∃ a, v = .ref a := by
      cases dx with
      | lst _ _ => exact ⟨_, rfl⟩
    obtain ⟨a, rfl⟩ := hv
    exact ⟨a, u, d, ds, j, z, rfl, rfl, dx, rp_pure hs r h2, s1, s2, hz, he, hno, k _ _ (.mk hs (.p (.int _)) q)⟩
  · exact q.elim⟩
def rGetL (K : PySem.W.Frag) : V → V → Hp → VK → Prop := fun o i H Q => ∃ p xs k z, o = V.ref p ∧ i = V.int k ∧ SqL K H p xs ∧ 0 ≤ k ∧ atI xs k = some z ∧ Q z H
theorem pget_list : PGet X (rGetL X.K) := by
  intro pins s σ H x y v u Q I rx ry h
  obtain ⟨p, xs, i, z, rfl, rfl, hq, h0, he, q⟩ := h
  cases rx
  obtain ⟨t, rfl⟩ := ry
  obtain ⟨its, r, pl, hz⟩ := I.list hq
  obtain ⟨j, h1, h2, h3, h4, h5⟩ := atI_get he
  obtain ⟨w, ew, rw'⟩ := r.get h2
  have hl := r.length
  have hn := line63
  have hj : i.toNat = j := by
    rw [seqIndex_of h0 h5] at h1
    exact Option.some.inj h1
  exact wpAny_getItem_list pl.isList h0 (by omega) (by rw [hj]; simpa using ew) ⟨z, H, I, rw', q⟩
def wAugS (wo wi we : WE) : WS := fun D env s => wo env s fun x s1 => wi env s1 fun y s2 => ∃ (n : Nat) (xs : List SV) (j : Nat) (a : Int), x = .c n ∧ y = .p (.int (j : Nat)) ∧ s2[n]? = some (.lst xs) ∧ xs[j]? = some (.p (.int a)) ∧
  we env s2 fun z s3 => ∃ (b : Int) (ys : List SV), z = .p (.int b) ∧ s3[n]? = some (.lst ys) ∧ j < ys.length ∧ D.nx env (s3.set n (.lst (ys.set j (.p (.int (a + b))))))
theorem ss_augS {o i e : Expr} {wo wi we : WE} {tpos pos : Pos} (ho : SE X o wo) (hi : SE X i wi) (he : SE X e we)
    (ha : ∀ ov iv new, augStore i ov iv new = (do holding [new, ov, iv] (setItem ov iv new); release [new, ov, iv] []; pure .next) := by intros; rfl) : SS X (.AugAssign (.Subscript o i tpos) .Add e pos) (wAugS wo wi we) := by
  obtain ⟨to, po, ko⟩ := ho
  obtain ⟨ti, pi, ki⟩ := hi
  obtain ⟨te, pe, ke⟩ := he
  refine ⟨_, ps_augS po pi pget_list pe ip_add set_list ha, fun F cs0 cs σ H env st D E hcs hl er hs h g => ?_⟩
  refine ko F cs σ H env st _ _ er hs h ?_
  rintro v1 H1 ⟨F1, c1, d1, s1, a1, b1, h1, r1, q1⟩
  refine ki F1 c1 σ H1 env s1 _ _ (er.mono a1 b1) h1 q1 ?_
  rintro v2 H2 ⟨F2, c2, d2, s2, a2, b2, h2, r2, n, xs, j, a, rfl, rfl, ex, ej, q2⟩
  have r1' := rp_up r1 a2 b2
  cases r1' with
  | @c _ ad ca =>
    obtain ⟨vs, hv, rv⟩ := h2.cell n ad _ ca ex
    obtain ⟨z, ez, rz⟩ := rv.get ej
    have ez2 : z = .int a := rp_int rz
    subst ez2
    refine ⟨ad, vs, (j : Nat), .int a, rfl, rp_int r2, .inl (.inl hv), by omega, ?_, ?_⟩
    · rw [at_nat']; exact ez
    · refine ke F2 c2 σ H2 env s2 _ _ ((er.mono a1 b1).mono a2 b2) h2 q2 ?_
      rintro v3 H3 ⟨F3, c3, d3, s3, a3, b3, h3, r3, b, ys, rfl, ey, hj, q3⟩
      have ca3 := pre_get b3 ca
      obtain ⟨us, hu, ru⟩ := h3.cell n ad _ ca3 ey
      refine ⟨a, b, rfl, rp_int r3, ad, us, (j : Nat), j, rfl, rp_int r2, hu, ix_nat (by rw [← ru.length]; exact hj), ?_⟩
      exact g.nx F3 c3 σ _ env _ ((a1.trans a2).trans a3) ((hcs.trans b1).trans (b2.trans b3)) (((er.mono a1 b1).mono a2 b2).mono a3 b3) (h3.write (m := .lst (ys.set j (.p (.int (a + b))))) ca3 ⟨_, upd_same, ru.set (.p (.int _)) j⟩) q3
theorem for_call {sp : MSp} {wa : WA} {g : WG} {b : WS} {D : ME} {env : M.Env} {st st1 : Store} {ds : List SV} (hwa : ∀ Q : List SV → Store → Prop, Q ds st1 → wa env st Q) (h : sp ds st1 fun x s => wFor (wiSeq (wC x)) g b D env s) : wFor (wiSeq (wCall sp wa)) g b D env st := hwa _ h
theorem lc_call {sp : MSp} {wa : WA} {g : WG} {tt : WT} {wE : WE} {vs : List Nat} {Q : SV → Store → Prop} {env : M.Env} {st st1 : Store} {ds : List SV} (hwa : ∀ Q : List SV → Store → Prop, Q ds st1 → wa env st Q) (h : sp ds st1 fun x s => wLc (wiSeq (wC x)) g tt wE vs env s Q) : wLc (wiSeq (wCall sp wa)) g tt wE vs env st Q := hwa _ h
def wListR (wa : WE) : WE := fun env st Q => wa env st fun x s => ∃ n : Nat, x = .p (.int (n : Nat)) ∧ n ≤ 2 ^ 24 ∧ Q (.p (.list ((List.range n).map fun i => .int (i : Nat)))) s
def wListRC (wa : WE) : WE := fun env st Q => wa env st fun x s => ∃ n : Nat, x = .p (.int (n : Nat)) ∧ n ≤ 2 ^ 24 ∧ Q (.c s.length) (s ++ [.lst (((List.range n).map fun i => PyData.int (i : Nat)).map SV.p)])
theorem rg_rps {K : PySem.W.Frag} {F : Hp} {cs : List Addr} (n : Nat) : Rps K F cs (((List.range n).map fun i => PyData.int (i : Nat)).map SV.p) (rgV 0 (n : Nat)) := by
  have : rgV 0 (n : Nat) = ((List.range n).map fun i => ((i : Nat) : Int)).map V.int := by
    have e : ((n : Int) - 0).toNat = n := by omega
    unfold rgV
    simp only [e, List.map_map]
    refine List.map_congr_left fun i _ => ?_
    simp
  rw [this]
  have := rps_ints (K := K) (F := F) (cs := cs) ((List.range n).map fun i => ((i : Nat) : Int))
  show Rps K F cs (((List.range n).map (PyData.int ∘ fun i => ((i : Nat) : Int))).map SV.p) _
  rw [← List.map_map]
  exact this
section
variable {a : Expr} {w : WE} {p p2 pos pos2 : Pos}
theorem se_listR (hg : Gl X "list") (hm : X.mg "list" = none) (hgr : Gl X "range") (hmr : X.mg "range" = none) (ha : SE X a w) (hc : X.calm = true := by rfl) (na : starEach [a] X.env = (false, eval a X.env) :: starEach [] X.env := by rfl)
    (nb : starEach [.Call (.Name "range" p2) [a] [] pos2] X.env = (false, eval (.Call (.Name "range" p2) [a] [] pos2) X.env) :: starEach [] X.env := by rfl) : SE X (.Call (.Name "list" p) [.Call (.Name "range" p2) [a] [] pos2] [] pos) (wListR w) := by
  obtain ⟨t, pa, k⟩ := ha
  refine ⟨_, pe_listRg hc hg hm (prg_1 hgr hmr pa na) nb, fun F cs σ H env st Q R er hs h kk => ?_⟩
  refine k F cs σ H env st _ _ er hs h ?_
  rintro v H1 ⟨F1, c1, d, s1, e1, e2, h1, r1, n, rfl, hn, q⟩
  refine ⟨(n : Nat), rp_int r1, ⟨by omega, by omega, by omega, by omega, by omega⟩, fun q' hq' => kk _ _ ?_⟩
  exact (new_list h1 hq' (rg_rps n) q).up e1 e2
theorem se_listRC (hg : Gl X "list") (hm : X.mg "list" = none) (hgr : Gl X "range") (hmr : X.mg "range" = none) (ha : SE X a w) (hc : X.calm = true := by rfl) (na : starEach [a] X.env = (false, eval a X.env) :: starEach [] X.env := by rfl)
    (nb : starEach [.Call (.Name "range" p2) [a] [] pos2] X.env = (false, eval (.Call (.Name "range" p2) [a] [] pos2) X.env) :: starEach [] X.env := by rfl) : SE X (.Call (.Name "list" p) [.Call (.Name "range" p2) [a] [] pos2] [] pos) (wListRC w) := by
  obtain ⟨t, pa, k⟩ := ha
  refine ⟨_, pe_listRg hc hg hm (prg_1 hgr hmr pa na) nb, fun F cs σ H env st Q R er hs h kk => ?_⟩
  refine k F cs σ H env st _ _ er hs h ?_
  rintro v H1 ⟨F1, c1, d, s1, e1, e2, h1, r1, n, rfl, hn, q⟩
  refine ⟨(n : Nat), rp_int r1, ⟨by omega, by omega, by omega, by omega, by omega⟩, fun q' hq' => kk _ _ ?_⟩
  exact (new_cell h1 hq' (rg_rps n) q).up e1 e2
end
end
section
variable {x y : SV} {env : M.Env} {st : Store} {Q : SV → Store → Prop}
theorem e_rd (m : MR) (wo : WE) (wa : WA) : wRd m wo wa env st Q = wo env st fun x s1 => (∃ xs, listOf s1 x = some xs) ∧ wa env s1 fun ys s2 => m x ys s2 Q := rfl
theorem s_augs (wo wi we : WE) (D : ME) : wAugS wo wi we D env st = wo env st fun x s1 => wi env s1 fun y s2 => ∃ (n : Nat) (xs : List SV) (j : Nat) (a : Int), x = .c n ∧ y = .p (.int (j : Nat)) ∧ s2[n]? = some (.lst xs) ∧ xs[j]? = some (.p (.int a)) ∧
  we env s2 fun z s3 => ∃ (b : Int) (ys : List SV), z = .p (.int b) ∧ s3[n]? = some (.lst ys) ∧ j < ys.length ∧ D.nx env (s3.set n (.lst (ys.set j (.p (.int (a + b)))))) := rfl
theorem e_lrg (wa : WE) : wListR wa env st Q = wa env st fun x s => ∃ n : Nat, x = .p (.int (n : Nat)) ∧ n ≤ 2 ^ 24 ∧ Q (.p (.list ((List.range n).map fun i => .int (i : Nat)))) s := rfl
theorem e_lrgc (wa : WE) : wListRC wa env st Q = wa env st fun x s => ∃ n : Nat, x = .p (.int (n : Nat)) ∧ n ≤ 2 ^ 24 ∧ Q (.c s.length) (s ++ [.lst (((List.range n).map fun i => PyData.int (i : Nat)).map SV.p)]) := rfl
theorem m_in : mIn x y st Q = ∃ d ds, pureOf st x = some d ∧ pureOf st y = some (.list ds) ∧ SeqAt.shaped d = true ∧ SeqAt.shaped (.list ds) = true ∧ Q (.p (.bool (ds.any fun z => PyData.eqv z d))) st := rfl
theorem m_notin : mNotIn x y st Q = ∃ d ds, pureOf st x = some d ∧ pureOf st y = some (.list ds) ∧ SeqAt.shaped d = true ∧ SeqAt.shaped (.list ds) = true ∧ Q (.p (.bool (!ds.any fun z => PyData.eqv z d))) st := rfl
theorem m_isb (a b : Bool) : mIsB (.p (.bool a)) (.p (.bool b)) st Q = Q (.p (.bool (a == b))) st := by unfold mIsB; simp
theorem m_notb (a b : Bool) : mNotB (.p (.bool a)) (.p (.bool b)) st Q = Q (.p (.bool (!(a == b)))) st := by unfold mNotB; simp
end
def wFrzV (i : Nat) : WS := fun D env s => ∃ x k d env', env[i]? = some (some x) ∧ D.base ≤ k ∧ k ≤ s.length ∧ Frz s k x d ∧ Wf (s.take k) ∧ Weak k env env' ∧ D.nx (env'.set i (some (.p d))) (s.take k)
theorem sss_frz {X : XM} {rest : List Stmt} {u : WS} (i : Nat) (h : SSs X rest u) : SSs X rest (wSeq (wFrzV i) u) := by
  obtain ⟨t, p, k⟩ := h
  refine ⟨t, p, fun F cs0 cs σ H env st D E hc hl er hs h g => ?_⟩
  obtain ⟨x, n, d, env', ex, hb, hn, hf, w, wk, q⟩ := h
  have hb : D.base ≤ n := hb
  have sm := frz_same (k := n) hs
  obtain ⟨v, ev, rv⟩ := er.slot i x ex
  have dv := frz_dq (k := n) hs hf rv
  have er1 := (er.k.cut wk).mono sm (List.prefix_refl _)
  refine k _ cs0 (cs.take n) σ H _ _ D E (pre_take hc (by omega)) hl ⟨⟨by rw [List.length_set]; exact er1.len, fun j y hy => ?_⟩, g.xp.mono sm (pre_take hc (by omega))⟩ (frz_hs hs w hn) q (g.mono sm)
  by_cases e : i = j
  · subst e
    have hlt := (List.getElem?_eq_some_iff.mp hy).1
    rw [List.length_set] at hlt
    rw [List.getElem?_set_self hlt] at hy
    cases hy
    exact ⟨v, ev, .p dv⟩
  · rw [List.getElem?_set_ne e] at hy
    exact er1.slot j y hy
theorem s_frzv {D : ME} {env : M.Env} {s : Store} (i : Nat) : wFrzV i D env s = ∃ x k d env', env[i]? = some (some x) ∧ D.base ≤ k ∧ k ≤ s.length ∧ Frz s k x d ∧ Wf (s.take k) ∧ Weak k env env' ∧ D.nx (env'.set i (some (.p d))) (s.take k) := rfl
theorem weak_of {k : Nat} {e e' : M.Env} (hl : e'.length = e.length) (h : ∀ (i : Nat) (d : SV), e'[i]? = some (some d) → e[i]? = some (some d) ∧ d.under k = true) : Weak k e e' := ⟨hl, h⟩
theorem weak_nil {k : Nat} : Weak k [] [] := ⟨rfl, fun i d h => by simp at h⟩
theorem weak_none {k : Nat} {o : Option SV} {e e' : M.Env} (h : Weak k e e') : Weak k (o :: e) (none :: e') := ⟨by simp [h.1], fun i d q => by
  cases i with
  | zero => simp at q
  | succ i => exact h.2 i d q⟩
theorem weak_some {k : Nat} {x : SV} {e e' : M.Env} (h : Weak k e e') (hx : x.under k = true := by rfl) : Weak k (some x :: e) (some x :: e') := ⟨by simp [h.1], fun i d q => by
  cases i with
  | zero => simp at q; subst q; exact ⟨rfl, hx⟩
  | succ i => exact h.2 i d q⟩
end M


namespace M
open PySem PySem.Spec PyProof.Rows L2
theorem exq_ok {P : Program} {w : World} {H : Hp} {h : Heap} {a : Addr} {cls : Value} {d : Option Addr} {oe : Obj} {vs : Array Value} (he : h.get? a = some oe) (z : Zc cls d oe) (hd : oe.data = .fields vs) : ObjOk P w H h a (exq a cls d) :=
  ⟨⟨oe, vs, he, z.1, z.2, hd⟩, ⟨oe, he⟩, fun _ _ ⟨o, v, q, r⟩ k => ⟨o, v, k o q, r⟩⟩
section
variable {X : Cx} {pins : List (Addr × Obj)} {σ : L2.St} {H : Hp} {s : Shared}
theorem inv_track {a : Addr} {cls : Value} {d : Option Addr} {oe : Obj} {vs : Array Value} (I : Inv X pins σ H s) (he : s.heap.get? a = some oe) (z : Zc cls d oe) (hd : oe.data = .fields vs) (na : H a = none) (nL : a ≠ X.env.locals) (np : ∀ p ∈ X.pn ++ pins, p.1 ≠ a)
    (h0 : ∀ o, X.s_0.heap.get? a = some o → X.H_0 a = none → a ∉ X.ex → False) : Inv X pins σ (upd H a (exq a cls d)) s := by
  have ne : ∀ {b : Addr} {u : HO}, H b = some u → b ≠ a := fun {b u} q e => by rw [e, na] at q; cases q
  have nc : ∀ x c, X.env.cells.lookup x = some c → c ≠ a := fun x c q e => by
    obtain ⟨v, o, e1, e2⟩ := I.cell x c q
    rw [e, he] at e1
    cases e1
    have e3 := (show oe.data = .cell v by first | exact e2 | exact e2.2).symm.trans hd
    cases e3
  refine ⟨I.ok, I.os, I.bare, ⟨I.base.keep, I.base.slot, fun b o q n hx => ?_, I.base.there, fun b xs q => ?_, fun b o u q => ?_, fun b ps q => ?_⟩, I.loc, I.cell, ?_, fun x c q => ?_, fun p hp => ?_, fun b u q => ?_, I.len⟩
  · by_cases hb : b = a
    · subst hb
      exact (h0 o q n hx).elim
    · rw [upd_ne hb]; exact I.base.free b o q n hx
  · have q2 := I.base.tups b xs q
    rw [upd_ne (ne q2)]; exact q2
  · have q2 := I.base.frzs b o u q
    rw [upd_ne (ne q2)]; exact q2
  · obtain ⟨more, q2⟩ := I.base.tbls b ps q
    exact ⟨more, by rw [upd_ne (ne q2)]; exact q2⟩
  · rw [upd_ne (fun e => nL e.symm)]; exact I.free
  · rw [upd_ne (nc x c q)]; exact I.freeC x c q
  · obtain ⟨e1, e2, e3⟩ := I.pin p hp
    exact ⟨e1, by rw [upd_ne (np p hp)]; exact e2, e3⟩
  · by_cases hb : b = a
    · subst hb
      rw [upd_same] at q
      cases q
      exact exq_ok he z hd
    · rw [upd_ne hb] at q
      exact (I.hok b u q).stay (fun c v _ r => r) (fun c r => by rw [upd_ne (ne r)]; exact r) fun c xs r => by rw [upd_ne (ne r)]; exact r
theorem inv_suite {a : Addr} (I : Inv X pins σ H s) : Inv (X.suite a (X.pn ++ pins)) [] σ H s :=
  ⟨I.ok.suite _ _, I.os, I.bare, I.base, I.loc, I.cell, I.free, I.freeC, fun p hp => I.pin p (by rw [List.append_nil] at hp; exact hp), I.hok, I.len⟩
theorem inv_unsuite {a : Addr} {pn' : List (Addr × Obj)} (I : Inv (X.suite a (X.pn ++ pins)) pn' σ H s) (ok : X.Ok) : Inv X pins σ H s :=
  ⟨ok, I.os, I.bare, I.base, I.loc, I.cell, I.free, I.freeC, fun p hp => I.pin p (List.mem_append_left _ hp), I.hok, I.len⟩
end
def wCatch (K : PySem.W.Frag) (c : Value) (i : Nat) (ts : TS) (D : Ends) : WX := fun cls d σ H => PySem.W.exmOne K cls c = some true ∧ ∀ a, H a = none →
  ts { nx := fun σ' H' => D.nx (σ'.set i none) H', rt := D.rt, bk := fun σ' H' => D.bk (σ'.set i none) H', ct := fun σ' H' => D.ct (σ'.set i none) H' } (σ.set i (some (.ref a))) (upd H a (exq a cls d))
section
variable {X : Cx} {x n : Str} {c : Value} {i : Nat} {body suite : List Stmt} {b₀ : Stmt} {np pos pos' : Pos} {tb : WX → TS} {ts : TS}
theorem ps_catch (hs : X.stack = X.env :: X.outer) (hf : X.env.frame = some X.env.locals) (hN : X.N.Nodup) (hi : X.N[i]? = some n) (hln : X.env.kindOf n = some .local) (hc : Names X x c)
    (hb : ∀ (W : WX) (pn : List (Addr × Obj)) (xe : Value → Shared → Prop), Takes (X.tr pn xe) W → PassesOwn (model X.prog X.w) X.A X.env xe → PSs (X.tr pn xe) body (tb W))
    (hsu : ∀ (a : Addr) (pn : List (Addr × Obj)), PSs (X.suite a pn) (b₀ :: suite) ts) :
    PS X (.Try body [.ExceptHandler (some (.Name x np)) (some n) (b₀ :: suite) pos'] [] [] pos) (fun D σ H => tb (wCatch X.K c i ts D) D σ H) := by
  refine ⟨fun pins s σ H D I h => ?_⟩
  have ok := I.ok
  have hfr : X.A.frames = some (X.env :: X.outer) := by rw [ok.frames, hs]
  have hloc : Loc X.env.scope n := .inl hln
  refine wpAny_Try_except ?_
  refine wpAny_mono ((hb (wCatch X.K c i ts D) (X.pn ++ pins) (fun e s₁ => wpAny (model X.prog X.w) X.A (noteFrame e X.env) (fun _ s₂ => wpAny (model X.prog X.w) X.A (setFlight e none) (fun _ s₃ =>
    wpAny (model X.prog X.w) X.A (handleBy e X.env [.ExceptHandler (some (.Name x np)) (some n) (b₀ :: suite) pos']) (SP X pins D) X.xe s₃) X.xe s₂) X.xe s₁) (fun u s' xx => ?_) PassesOwn.looking).run [] s σ H D (I.toTry _) h) (fun f s1 hsp => ?_) (fun e s1 he => he)
  · obtain ⟨a, B, sI, pins', σ', H', cls, d, rfl, J', nb, up, sky, na, os, ag, hb1, hyes⟩ := xx
    have J : Inv X pins σ' H' sI := J'.ofTry ok
    have sky' : Sky B (X.env :: X.outer) a (Zc cls d) X.env.locals s'.heap := by rw [← hs]; exact sky
    show wpAny (model X.prog X.w) X.A (noteFrame (.ref a) X.env) _ _ _
    refine Sky.land Zc.steady hfr hf sky' fun h3 fl3 up3 => ?_
    have J3 : Inv X pins σ' H' { s' with heap := h3 } := J.landed nb fl3.1 (up.trans up3) os ag
    obtain ⟨oe3, vs3, he3, hz3, hd3⟩ := fl3.there
    have nfr : a ∉ frs (X.env :: X.outer) := fun hm => by
      obtain ⟨_, o', e', hnf⟩ := fl3.2.2.1.mem hm
      rw [he3] at e'; cases e'
      exact hnf _ hd3
    have nL : a ≠ X.env.locals := fun z => nfr (List.mem_filterMap.mpr ⟨X.env, List.mem_cons_self, by rw [hf, z]⟩)
    have nF : a ∉ X.fs := fun hm => by
      obtain ⟨e, he, q⟩ := List.mem_filterMap.mp hm
      exact nfr (List.mem_filterMap.mpr ⟨e, List.mem_cons_of_mem _ he, q⟩)
    have nStk : a ∉ frs X.stack := by rw [hs]; exact nfr
    have old : ∀ o, X.s_0.heap.get? a = some o → X.H_0 a = none → a ∉ X.ex → False := fun o e n hx => by
      have e1 := J.base.keep a o e n nF hx
      have e2 := nb a o e1 nStk
      have e3 : B.get? a = none := fl3.2.1
      rw [e3] at e2; cases e2
    have npn : ∀ p ∈ X.pn ++ pins, p.1 ≠ a := fun p hp e => by
      obtain ⟨e1, _, _, e4, _⟩ := J.pin p hp
      rw [e] at e1 e4
      have e2 := nb a _ e1 nStk
      have e3 : B.get? a = none := fl3.2.1
      rw [e3] at e2; cases e2
    refine wpAny_handleBy_cons (codeAny_handlers_test ?_) (by intro q; cases q)
    have LT : PySem.W.Looks (model X.prog X.w) h3 (typeOf (.ref a)) cls := fun A Q E s k q => wpAny_typeOf_ref (k _ _ he3) (by rw [hz3.1]; exact q)
    have LM := PySem.W.exm_one (M := model X.prog X.w) (J3.kIn) LT hb1
    have S3 : Inv (X.suite a (X.pn ++ pins)) [] σ' H' { s' with heap := h3 } := inv_suite J3
    have test : ∀ {Q : Value → Shared → Prop} {E : Value → Shared → Prop}, Q c { s' with heap := h3 } → wpAny (model X.prog X.w) (X.A.mark (some (.ref a))) (eval (.Name x np) X.env) Q E { s' with heap := h3 } := fun {Q E} q => by
      obtain ⟨hg, hdbg, hm | ⟨hm, hv, hnn⟩⟩ := hc
      · exact ld_glob (X := X.suite a (X.pn ++ pins)) S3 hg hm q hdbg
      · exact ld_blt (X := X.suite a (X.pn ++ pins)) S3 hg hm hv q hnn hdbg
    refine test (LM.here ?_)
    refine codeAny_handlers_suite_as ?_
    refine HandSPX.lands_againZ fl3 fun h4 fl4 up4 => ?_
    have J4 : Inv X pins σ' H' { s' with heap := h4 } := J.landed nb fl4.1 ((up.trans up3).trans up4) os ag
    obtain ⟨oe4, vs4, he4, hz4, hd4⟩ := fl4.there
    have J5 := inv_track J4 he4 hz4 hd4 na nL npn old
    have S4 : Inv (X.suite a (X.pn ++ pins)) [] σ' (upd H' a (exq a cls d)) { s' with heap := h4 } := inv_suite J5
    refine store_ok (X := X.suite a (X.pn ++ pins)) (v := .ref a) S4 hN hi hloc rfl (fun s5 S5 => ?_) (.inr hln)
    refine wpAny_mono ((hsu a (X.pn ++ pins)).run [] s5 _ _ _ S5 (hyes a na)) (fun f s6 hsp => ?_) (fun _ _ z => False.elim z)
    have end_ : ∀ {σ6 : L2.St} {H6 : Hp} {Q : Shared → Prop}, Inv (X.suite a (X.pn ++ pins)) [] σ6 H6 s6 → (∀ s7, Inv X pins (σ6.set i none) H6 s7 → Q s7) →
        wpAny (model X.prog X.w) X.A (do bindName X.env n .none; unbindBehindTheSuite X.env n pos') (fun _ s7 => Q s7) X.xe s6 := fun {σ6 H6 Q} S6 hq => gone_ok (inv_unsuite S6 ok) hN hi hln hq
    cases f with
    | next =>
      obtain ⟨σ6, H6, S6, q6⟩ := hsp
      exact end_ S6 fun s7 J7 => ⟨_, _, J7, q6⟩
    | brk =>
      obtain ⟨σ6, H6, S6, q6⟩ := hsp
      exact end_ S6 fun s7 J7 => ⟨_, _, J7, q6⟩
    | cont =>
      obtain ⟨σ6, H6, S6, q6⟩ := hsp
      exact end_ S6 fun s7 J7 => ⟨_, _, J7, q6⟩
    | ret u =>
      obtain ⟨v6, σ6, H6, S6, r6, q6⟩ := hsp
      exact end_ S6 fun s7 J7 => ⟨_, _, _, J7, r6, q6⟩
  · cases f with
    | next =>
      obtain ⟨σ', H', J', q⟩ := hsp
      exact wpAny_execs_nil ⟨σ', H', J'.ofTry ok, q⟩
    | brk =>
      obtain ⟨σ', H', J', q⟩ := hsp
      exact ⟨σ', H', J'.ofTry ok, q⟩
    | cont =>
      obtain ⟨σ', H', J', q⟩ := hsp
      exact ⟨σ', H', J'.ofTry ok, q⟩
    | ret u =>
      obtain ⟨v, σ', H', J', r, q⟩ := hsp
      exact ⟨v, σ', H', J'.ofTry ok, r, q⟩
end
end M


namespace M
open PySem PySem.Spec PyProof.Rows L2
def errs : List Str := ["NoPlace", "NoText", "TooMany", "NoLine"]
def errs5 : List Str := ["NoPlace", "NoText", "TooMany", "NoLine", "RootError"]
def xIs (nm T : Str) : Bool := nm == T || T == "RootError" || T == "ValueError"
structure XF (K : PySem.W.Frag) (C : Addr) : Prop where
  ex : ExcC K C
  ty : PySem.W.typeIn K (.ref C) = some (.type "type")
  ic : PySem.W.isClsIn K C = true
  kp : PySem.W.keepIn K (.ref C) = true
  V : PySem.W.subIn K (.ref C) (.type "ValueError") = some true
  pl : PySem.W.findIn K (.ref C) "place" = some none
structure Errs (K : PySem.W.Frag) (mg : Str → Option Value) : Prop where
  root : ∃ C, CAt K "RootError" C
  mg : ∀ nm ∈ errs5, ∀ C, CAt K nm C → mg nm = some (.ref C)
  f : ∀ nm ∈ errs5, ∀ C, CAt K nm C → XF K C
  sub : ∀ nm ∈ errs, ∀ T ∈ errs5, ∀ C D, CAt K nm C → CAt K T D → PySem.W.subIn K (.ref C) (.ref D) = some (xIs nm T)
theorem errs_5 {nm : Str} (h : nm ∈ errs) : nm ∈ errs5 := by
  simp only [errs, errs5, List.mem_cons] at h ⊢
  rcases h with h | h | h | h | h
  · exact .inl h
  · exact .inr (.inl h)
  · exact .inr (.inr (.inl h))
  · exact .inr (.inr (.inr (.inl h)))
  · simp at h
section
variable {K : PySem.W.Frag} {mg : Str → Option Value}
theorem Errs.exm (X : Errs K mg) {nm : Str} (h : nm ∈ errs) {C D : Addr} (hC : CAt K nm C) (hD : CAt K "RootError" D) : PySem.W.exmOne K (.ref C) (.ref D) = some true := by
  have fD := X.f "RootError" (by decide) D hD
  have := X.sub nm h "RootError" (by decide) C D hC hD
  have e : xIs nm "RootError" = true := by simp [xIs]
  rw [e] at this
  exact PySem.W.exm_ref fD.ex.hs fD.ex.hd fD.ty this
theorem Errs.kit (X : Errs K mg) {nm T : Str} (h : nm ∈ errs) (hT : T ∈ errs5) {C D : Addr} (hC : CAt K nm C) (hD : CAt K T D) : PySem.W.kitOne K (.ref C) (.ref D) = some (xIs nm T) := by
  have fD := X.f T hT D hD
  have s := X.sub nm h T hT C D hC hD
  unfold PySem.W.kitOne
  split
  · rename_i e
    have e2 : Value.ref C = Value.ref D := beq_iff_eq.mp e
    cases e2
    have self : PySem.W.subIn K (.ref C) (.ref C) = some true := by
      have := X.sub nm h nm (errs_5 h) C C hC hC
      simpa [xIs] using this
    exact self.symm.trans s
  · have ic : (PySem.W.clsIn K D).isSome = true := fD.ic
    show (if ((PySem.W.clsIn K D).isSome && PySem.W.typeIn K (.ref D) == some (.type "type")) = true then PySem.W.subIn K (.ref C) (.ref D) else none) = _
    rw [ic, fD.ty]
    exact s
theorem Errs.kitV (X : Errs K mg) {nm : Str} (h : nm ∈ errs) {C : Addr} (hC : CAt K nm C) : PySem.W.kitOne K (.ref C) (.type "ValueError") = some true := by
  have fC := X.f nm (errs_5 h) C hC
  unfold PySem.W.kitOne
  rw [if_neg (by intro z; cases beq_iff_eq.mp z)]
  show (if PySem.W.kitMeta "ValueError" = true then PySem.W.subIn K (.ref C) (.type "ValueError") else none) = some true
  rw [if_pos (by decide +kernel)]
  exact fC.V
end
def wTry (i : Nat) (wb : RX → WS) (ws : WS) : WS := fun D env s => wb (fun nm arg e2 s2 => nm ∈ errs ∧
  ws { nx := fun e' s' => D.nx (e'.set i none) s', rt := D.rt, bk := fun e' s' => D.bk (e'.set i none) s', ct := fun e' s' => D.ct (e'.set i none) s', base := D.base } (e2.set i (some (.x nm arg))) s2) D env s
theorem ek_none {K : PySem.W.Frag} {F : Hp} {cs : List Addr} {σ : L2.St} {env : M.Env} (h : EK K F cs σ env) (i : Nat) : EK K F cs (σ.set i none) (env.set i none) := er_wipe h [i]
section
variable {X : XM} {n : Str} {body suite : List Stmt} {b₀ : Stmt} {np pos pos' : Pos} {wb : RX → WS} {ws : WS}
theorem ss_try (i : Nat) (ER : Errs X.K X.mg) (hN : X.N.Nodup)
    (hb : ∀ (rx : RX) (pn : List (Addr × Obj)) (xe : Value → Shared → Prop), SSs ⟨X.toCx.tr pn xe, rx⟩ body (wb rx))
    (hsu : ∀ (a : Addr) (pn : List (Addr × Obj)), SSs ⟨X.toCx.suite a pn, fun _ _ _ _ => False⟩ (b₀ :: suite) ws)
    (hi : X.N[i]? = some n := by rfl) (hs : X.stack = X.env :: X.outer := by rfl) (hf : X.env.frame = some X.env.locals := by rfl) (hln : X.env.kindOf n = some .local := by rfl) (hg : Gl X "RootError" := by rfl) :
    SS X (.Try body [.ExceptHandler (some (.Name "RootError" np)) (some n) (b₀ :: suite) pos'] [] [] pos) (wTry i wb ws) := by
  obtain ⟨C0, hC0⟩ := ER.root
  have hc : Names X "RootError" (.ref C0) := ⟨hg, by decide, .inl (ER.mg _ (by decide) _ hC0)⟩
  have hsu' : ∀ (a : Addr) (pn : List (Addr × Obj)), PSs (X.toCx.suite a pn) (b₀ :: suite) (fun D σ H => ∀ a pn, (Classical.choose (hsu a pn).run) D σ H) := fun a pn =>
    ⟨fun pins s σ H D I q => (Classical.choose_spec (hsu a pn).run).1.run pins s σ H D I (q a pn)⟩
  have hb' : ∀ (rx : RX) (W : WX) (pn : List (Addr × Obj)) (xe : Value → Shared → Prop), Takes (X.toCx.tr pn xe) W → PassesOwn (model X.prog X.w) X.A X.env xe →
      PSs (X.toCx.tr pn xe) body (fun D σ H => ∀ pn xe, Takes (X.toCx.tr pn xe) W → (Classical.choose (hb rx pn xe).run) D σ H) := fun rx W pn xe tk _ =>
    ⟨fun pins s σ H D I q => (Classical.choose_spec (hb rx pn xe).run).1.run pins s σ H D I (q pn xe tk)⟩
  refine ⟨fun E σ H => ∃ rx : RX, ∀ pn xe, Takes (X.toCx.tr pn xe) (wCatch X.K (.ref C0) i (fun D σ H => ∀ a pn, (Classical.choose (hsu a pn).run) D σ H) E) → (Classical.choose (hb rx pn xe).run) E σ H,
    ⟨fun pins s σ H E I ⟨rx, h⟩ => (ps_catch hs hf hN hi hln hc (hb' rx) hsu').run pins s σ H E I h⟩, fun F cs0 cs σ H env st D E hcs hl er hs1 h g => ?_⟩
  refine ⟨fun nm arg e2 s2 => nm ∈ errs ∧ ws { nx := fun e' s' => D.nx (e'.set i none) s', rt := D.rt, bk := fun e' s' => D.bk (e'.set i none) s', ct := fun e' s' => D.ct (e'.set i none) s', base := D.base } (e2.set i (some (.x nm arg))) s2, fun pn xe tk => ?_⟩
  have h : wb (fun nm arg e2 s2 => nm ∈ errs ∧ ws { nx := fun e' s' => D.nx (e'.set i none) s', rt := D.rt, bk := fun e' s' => D.bk (e'.set i none) s', ct := fun e' s' => D.ct (e'.set i none) s', base := D.base } (e2.set i (some (.x nm arg))) s2) D env st := h
  have xp : XP ⟨X.toCx.tr pn xe, fun nm arg e2 s2 => nm ∈ errs ∧ ws { nx := fun e' s' => D.nx (e'.set i none) s', rt := D.rt, bk := fun e' s' => D.bk (e'.set i none) s', ct := fun e' s' => D.ct (e'.set i none) s', base := D.base } (e2.set i (some (.x nm arg))) s2⟩ F cs0 := by
    rintro F' cs' σ' env' H' st' nm arg C d e1 c1 ek hs2 hC ha ⟨hnm, hw⟩
    rintro u s' ⟨a, B, sI, pins, σ2, H2, cls, d2, eu, I, nb, up, sky, na, os, ag, rfl, rfl, rfl, rfl⟩
    refine tk _ _ ⟨a, B, sI, pins, _, _, _, _, eu, I, nb, up, sky, na, os, ag, ER.exm hnm hC hC0, fun a2 na2 a3 pn3 => ?_⟩
    obtain ⟨z1, z2⟩ := hs2.pure (o := exq a2 (.ref C) d2) na2
    refine (Classical.choose_spec (hsu a3 pn3).run).2 _ cs0 cs' _ _ _ st' { nx := fun e' s' => D.nx (e'.set i none) s', rt := D.rt, bk := fun e' s' => D.bk (e'.set i none) s', ct := fun e' s' => D.ct (e'.set i none) s', base := D.base } _ c1 hl ⟨(ek.mono z1 (List.prefix_refl _)).set (.x hC upd_same (ha.mono z1)), .none fun _ _ _ _ z => z⟩ z2 hw ?_
    have e3 := e1.trans z1
    exact ⟨fun F3 c3 σ3 H3 e3' s3 p1 p2 p3 p4 p5 => g.nx F3 c3 _ H3 _ s3 (e3.trans p1) p2 ⟨ek_none p3.k i, g.xp.mono (e3.trans p1) p2⟩ p4 p5,
      fun F3 c3 H3 s3 d3 v3 p1 p2 p3 p4 p5 => g.rt F3 c3 H3 s3 d3 v3 (e3.trans p1) p2 p3 p4 p5,
      fun F3 c3 σ3 H3 e3' s3 p1 p2 p3 p4 p5 => g.bk F3 c3 _ H3 _ s3 (e3.trans p1) p2 ⟨ek_none p3.k i, g.xp.mono (e3.trans p1) p2⟩ p4 p5,
      fun F3 c3 σ3 H3 e3' s3 p1 p2 p3 p4 p5 => g.ct F3 c3 _ H3 _ s3 (e3.trans p1) p2 ⟨ek_none p3.k i, g.xp.mono (e3.trans p1) p2⟩ p4 p5, .none fun _ _ _ _ z => z⟩
  refine (Classical.choose_spec (hb _ pn xe).run).2 F cs0 cs σ H env st D E hcs hl ⟨er.k, xp.mono (Same.refl _) hcs⟩ hs1 h ?_
  exact ⟨fun F3 c3 σ3 H3 e3' s3 p1 p2 p3 p4 p5 => g.nx F3 c3 _ H3 _ s3 p1 p2 ⟨p3.k, g.xp.mono p1 p2⟩ p4 p5, g.rt,
    fun F3 c3 σ3 H3 e3' s3 p1 p2 p3 p4 p5 => g.bk F3 c3 _ H3 _ s3 p1 p2 ⟨p3.k, g.xp.mono p1 p2⟩ p4 p5,
    fun F3 c3 σ3 H3 e3' s3 p1 p2 p3 p4 p5 => g.ct F3 c3 _ H3 _ s3 p1 p2 ⟨p3.k, g.xp.mono p1 p2⟩ p4 p5, xp⟩
end
abbrev MSpX := List SV → Store → (SV → Store → Prop) → (Str → Option Int → Store → Prop) → Prop
def spMX (K : PySem.W.Frag) (sp : MSpX) : Sp := fun vs H Q E => ∃ F cs ds st R RX, HS K F cs H st ∧ Rps K F cs ds vs ∧ sp ds st R RX ∧
  (∀ F' cs' H' st' d v, Same F F' → cs <+: cs' → HS K F' cs' H' st' → Rp K F' cs' d v → R d st' → Q v H') ∧
  ∀ F' cs' H' st' nm arg C d, Same F F' → cs <+: cs' → HS K F' cs' H' st' → CAt K nm C → XArg F' d arg → RX nm arg st' → E (.ref C) d H'
structure CalleeX (P : Program) (w : World) (K : PySem.W.Frag) (mg : Str → Option Value) (base : Heap) (x : Str) (k : Nat) (sp : MSpX) : Prop where
  ok : ∃ (f : Addr) (fd : FuncData) (ps : List Str), FnOk P w K mg base (L2.CX P w) k f fd ps (spMX K sp) ∧ mg x = some (.ref f) ∧ PySem.W.keepIn K (.ref f) = true ∧ Binds K fd ps []
def wCallX (rx : RX) (sp : MSpX) (wa : WA) : WE := fun env st Q => wa env st fun ds s => sp ds s Q fun nm arg s' => rx nm arg env s'
def orX (S : MSp) (SX : MSpX) : MSpX := fun ds st R RX => S ds st R ∨ SX ds st R RX
theorem fn_orX {P : Program} {w : World} {K : PySem.W.Frag} {mg : Str → Option Value} {base : Heap} {k : Nat} {f : Addr} {fd : FuncData} {ps : List Str} {S : MSp} {SX : MSpX} (h0 : FnOk P w K mg base CX0 k f fd ps (spM K S)) (h1 : FnOk P w K mg base (L2.CX P w) k f fd ps (spMX K SX)) :
    FnOk P w K mg base (L2.CX P w) k f fd ps (spMX K (orX S SX)) := by
  have sp : ∀ vs H Q E, spMX K (orX S SX) vs H Q E → spM K S vs H Q E ∨ spMX K SX vs H Q E := by
    rintro vs H Q E ⟨F, cs, ds, st, R, RX, hs, r, h | h, k1, k2⟩
    · exact .inl ⟨F, cs, ds, st, R, hs, r, h, k1⟩
    · exact .inr ⟨F, cs, ds, st, R, RX, hs, r, h, k1, k2⟩
  refine ⟨fun vs H Q E h => (sp vs H Q E h).elim (h0.len vs H Q E) (h1.len vs H Q E), fun A outer s H args us vs Q E hr he hb hv h => ?_⟩
  rcases sp vs H Q E h with h | h
  · refine codeAny_mono (h0.run A outer s H args us vs Q E hr he hb hv h) fun r s' hq => ?_
    cases r with
    | error e => exact (show False from hq).elim
    | ok fl => cases fl <;> exact hq
  · exact h1.run A outer s H args us vs Q E hr he hb hv h
section
variable {X : XM} {x : Str} {k : Nat} {sp : MSpX} {e : Expr} {es : List Expr} {wt : WA} {p pos : Pos}
theorem se_callX (G : CalleeX X.prog X.w X.K X.mg X.base x k sp) (hr : Room k X.A) (ha : SA X (e :: es) wt) (hg : Gl X x := by rfl) (hdb : (x == ("__debug__" : Str)) = false := by decide) (he : starEach (e :: es) X.env = (false, eval e X.env) :: starEach es X.env := by rfl)
    (hpl : (backTo pos (starEach es X.env)).any (·.1) = false := by rfl) : SE X (.Call (.Name x p) (e :: es) [] pos) (wCallX X.rx sp wt) := by
  obtain ⟨f, fd, ps, G, hm, hk, hb⟩ := G.ok
  obtain ⟨ta, pa, ka⟩ := ha
  refine ⟨_, pe_callS (E := L2.WE (Est X.toCx)) G hr hg hm hk hb (fun σ => passAt (est_takes X.toCx) σ) pa hdb he hpl, fun F cs σ H env st Q R er hs h kk => ka F cs σ H env st _ _ er hs h ?_⟩
  rintro vs H1 ⟨F1, c1, ds, s1, a1, b1, hs1, r1, q1⟩
  refine ⟨F1, c1, ds, s1, Q, _, hs1, r1, q1, fun F' cs' H' st' d v x1 x2 x3 x4 x5 => ?_, fun F' cs' H' st' nm arg C d x1 x2 x3 x4 x5 x6 => ?_⟩
  · exact kk _ _ ⟨F', cs', d, st', a1.trans x1, b1.trans x2, x3, x4, x5⟩
  · exact er.xp F' cs' σ env H' st' nm arg C d (a1.trans x1) (b1.trans x2) (er.k.mono (a1.trans x1) (b1.trans x2)) x3 x4 x5 x6
end
def RetX (b : Nat) (RX : Str → Option Int → Store → Prop) : M.RX := fun nm arg _ s => RX nm arg s ∨ (b ≤ s.length ∧ Wf (s.take b) ∧ RX nm arg (s.take b))
theorem fnMX {P : Program} {w : World} {K : PySem.W.Frag} {mg : Str → Option Value} {base : Heap} {x qual : Str} {st : Stmt} {f : Addr} {fd : FuncData} {N ps : List Str} {k : Nat} {sp : MSpX} {W : RX → WS} (Fu : Fun K x qual st f fd) (S : FnScope N ps (defScope st))
    (len : ∀ ds s R RX, sp ds s R RX → ds.length = ps.length)
    (hder : ∀ (rx : RX) (cdv : Value) (A : Around) (outer : List PySem.Env) (s : Shared) (H : Hp) (E : XK), Room k (A.deeper (envOfC qual (defScope st) s.heap.objs.size f cdv)) → SSs ⟨cxOf (L2.CX P w) P w K mg base N qual (defScope st) f cdv A outer s H E, rx⟩ (defBody st) (W rx))
    (hread : ∀ ds s R RX, Wf s → sp ds s R RX → W (RetX s.length RX) (fnEnds s.length R) (startE N.length ds) s) : FnOk P w K mg base (L2.CX P w) (k + 1) f fd ps (spMX K sp) := by
  refine Fu.okX S (fun vs H Q E h => ?_) (fun cdv A outer s H vs Q E hr h => ?_)
  · obtain ⟨F, cs, ds, st, R, RX, hs, r, q, _⟩ := h
    rw [← r.length]; exact len _ _ _ _ q
  · obtain ⟨F, cs, ds, s0, R, RX, hs, r, q, kk, kx⟩ := h
    obtain ⟨t, p, kt⟩ := hder (RetX s0.length RX) cdv A outer s H E hr
    have xp : XP ⟨cxOf (L2.CX P w) P w K mg base N qual (defScope st) f cdv A outer s H E, RetX s0.length RX⟩ F cs := by
      intro F' cs' σ' env' H' st' nm arg C d u1 u2 u3 u4 u5 u6 u7
      have hE : E (.ref C) d H' := by
        rcases u7 with u7 | ⟨hb, wf, u7⟩
        · exact kx F' cs' H' st' nm arg C d u1 u2 u4 u5 u6 u7
        · exact kx F' (cs'.take s0.length) H' (st'.take s0.length) nm arg C d u1 (pre_take u2 (by rw [hs.len]; exact Nat.le_refl _)) (u4.cut wf hb) u5 u6 u7
      rintro u s' xx
      refine takes_of (X := cxOf (L2.CX P w) P w K mg base N qual (defScope st) f cdv A outer s H E) rfl rfl rfl rfl u s' ?_
      obtain ⟨a, B, sI, pins, σ2, H2, cls, d2, eu, I, nb, up, sky, na, os, ag, rfl, rfl, rfl, rfl⟩ := xx
      exact ⟨a, B, sI, pins, _, _, _, _, eu, I, nb, up, sky, na, os, ag, hE⟩
    refine ⟨t, p, kt F cs cs (L2.start N vs) H (startE N.length ds) s0 (fnEnds s0.length R) _ (List.prefix_refl _) hs.len ⟨er_start r, xp⟩ hs (hread ds s0 R RX hs.wf q) ?_⟩
    have fin : ∀ F' cs' H' st' d v, Same F F' → cs <+: cs' → HS K F' cs' H' st' → Rp K F' cs' d v → RetTo s0.length R d st' → Q v H' := fun F' cs' H' st' d v u1 u2 u3 u4 u5 => by
      rcases u5 with u5 | ⟨hb, wf, ud, u5⟩
      · exact kk F' cs' H' st' d v u1 u2 u3 u4 u5
      · exact kk F' (cs'.take s0.length) H' (st'.take s0.length) d v u1 (pre_take u2 (by rw [hs.len]; exact Nat.le_refl _)) (u3.cut wf hb) (rp_take _ _ u4 ud) u5
    exact ⟨fun F' cs' σ' H' env' st' u1 u2 u3 u4 u5 => fin F' cs' H' st' _ .non u1 u2 u4 (.p .non) u5, fin, fun _ _ _ _ _ _ _ _ _ _ z => z.elim, fun _ _ _ _ _ _ _ _ _ _ z => z.elim, xp⟩
end M


namespace M
open PySem PySem.Spec PyProof.Rows L2
section
variable {X : Cx} {pins : List (Addr × Obj)} {σ : L2.St} {H : Hp} {s : Shared}
theorem exq_at {P : Program} {w : World} {h : Heap} {a : Addr} {cls : Value} {d : Option Addr} (hok : HOk P w H h) (e : H a = some (exq a cls d)) : ∃ (oe : Obj) (vs : Array Value), h.get? a = some oe ∧ oe.cls = cls ∧ oe.dict = d ∧ oe.data = .fields vs := by
  have x : ObjOk P w H h a (exq a cls d) := hok a _ e
  exact x.1
theorem exq_inst {a D : Addr} {d : Option Addr} {arg : Option Int} (I : Inv X pins σ H s) (e : H a = some (exq a (.ref D) d)) (ha : XArg H d arg) : ∃ (oe : Obj) (od : Option Obj), PySem.W.InstAt s.heap a oe D od ∧
    ∀ dd i, d = some dd → arg = some i → ∃ u, od.bind (fun o => PySem.W.lookIn ("place" : Str) o) = some (some u) ∧ RelV (.int i) u := by
  obtain ⟨oe, vs, e1, e2, e3, e4⟩ := exq_at I.hok e
  have nc : PySem.W.notCls oe = true := by unfold PySem.W.notCls; rw [e4] <;> rfl
  cases d with
  | none =>
    refine ⟨oe, none, ⟨e1, e2, nc, by rw [e3]; trivial⟩, fun dd i q => by cases q⟩
  | some dd =>
    cases arg with
    | none => exact ha.elim
    | some i =>
      have hx : ObjOk X.prog X.w H s.heap dd (.xd [(("place" : Str), .int i)]) := I.hok dd _ ha
      obtain ⟨mA, hns, hr⟩ := hx
      obtain ⟨od, ho, hl⟩ := lookIn_ns hns
      refine ⟨oe, some od, ⟨e1, e2, nc, by rw [e3]; exact ho⟩, fun dd' i' q1 q2 => ?_⟩
      cases q1; cases q2
      have l : List.lookup ("place" : Str) [(("place" : Str), V.int i)] = some (.int i) := by simp [List.lookup]
      obtain ⟨u, hu, ru⟩ := RelO.some_of (v := .int i) (o := mA "place") (by rw [← l]; exact hr "place")
      exact ⟨u, by rw [Option.bind_some, hl, hu], ru⟩
def rIsX (K : PySem.W.Frag) : List V → Hp → VK → Prop := fun xs H Q => ∃ (a D : Addr) (d : Option Addr) (arg : Option Int) (c : V) (u : Value) (b : Bool), xs = [.ref a, c] ∧ H a = some (exq a (.ref D) d) ∧ XArg H d arg ∧ ExcC K D ∧ PySem.W.isClsIn K D = true ∧ ClsV c u ∧
  PySem.W.kitOne K (.ref D) u = some b ∧ Q (.bl b) H
def rIsXT (K : PySem.W.Frag) : List V → Hp → VK → Prop := fun xs H Q => ∃ (a D tp : Addr) (d : Option Addr) (arg : Option Int) (cs : List V) (us : List Value) (b : Bool), xs = [.ref a, .ref tp] ∧ H a = some (exq a (.ref D) d) ∧ XArg H d arg ∧ ExcC K D ∧ PySem.W.isClsIn K D = true ∧
  H tp = some (.tup cs) ∧ Paired ClsV cs us ∧ PySem.W.kitAny K (.ref D) us = some b ∧ Q (.bl b) H
theorem call_isX : CallR X (.builtin "isinstance") (rIsX X.K) := by
  intro pins s σ H xs us Q I r h
  obtain ⟨a, D, d, arg, c, u, b, rfl, e, ha, C, ic, k, ek, q⟩ := h
  obtain ⟨u1, u2, rfl, r1, r2⟩ := vals2 r
  cases (show u1 = Value.ref a from r1)
  have e2 := k.eq r2
  subst e2
  obtain ⟨oe, od, J, _⟩ := exq_inst I e ha
  exact PySem.W.kia_one (PySem.W.kitx_exc ic C.hg C.hk C.hs C.ha C.hn C.ht C.hm) I.kIn J ek (fun z => nomatch z) fun tk => ⟨.bl b, H, I.tok tk, rfl, q⟩
theorem call_isXT : CallR X (.builtin "isinstance") (rIsXT X.K) := by
  intro pins s σ H xs us Q I r h
  obtain ⟨a, D, tp, d, arg, cs, ws, b, rfl, e, ha, C, ic, hT, k, ek, q⟩ := h
  obtain ⟨u1, u2, rfl, r1, r2⟩ := vals2 r
  cases (show u1 = Value.ref a from r1)
  cases (show u2 = Value.ref tp from r2)
  obtain ⟨oe, od, J, _⟩ := exq_inst I e ha
  obtain ⟨_, its, rv, o, h1, h2, n, h3⟩ := (show ObjOk X.prog X.w H s.heap tp (.tup cs) from I.hok tp _ hT)
  have e3 := ClsV.all k rv
  subst e3
  obtain ⟨oc, od', dt, sl⟩ := o
  simp only at h2 h3
  subst h2 h3
  exact PySem.W.kia_tup (PySem.W.kitx_exc ic C.hg C.hk C.hs C.ha C.hn C.ht C.hm) I.kIn J h1 ek (fun z => nomatch z) fun tk => ⟨.bl b, H, I.tok tk, rfl, q⟩
def tXPl (K : PySem.W.Frag) (te : TE) : TE := fun σ H Q => te σ H fun x H1 => ∃ (a C dd : Addr) (i : Int), x = .ref a ∧ H1 a = some (exq a (.ref C) (some dd)) ∧ H1 dd = some (.xd [(("place" : Str), .int i)]) ∧ ExcC K C ∧ PySem.W.findIn K (.ref C) "place" = some none ∧ Q (.int i) H1
theorem pe_xpl {e : Expr} {te : TE} {pos : Pos} (he : PE X e te) (hb : attributeBase e "place" X.env (eval e X.env) = eval e X.env := by rfl) : PE X (.Attribute e "place" pos) (tXPl X.K te) := by
  refine ⟨fun pins s σ H Q I h => ?_⟩
  refine attr_of hb (thn (he.run pins s σ H _ I h) fun u s1 hh => ?_)
  obtain ⟨x, H1, I1, rx, a, C, dd, i, ex, e1, e2, T, hno, q⟩ := hh
  subst ex
  obtain rfl : u = Value.ref a := rx
  obtain ⟨oe, od, J, hl⟩ := exq_inst (arg := some i) I1 e1 e2
  obtain ⟨v, hv, rv⟩ := hl dd i rfl rfl
  cases od with
  | none => cases hv
  | some o =>
    exact PySem.HandSPX.exc_get I1.kIn J T.hg T.hk T.hs (PySem.W.findObj_own T.hd hno rfl hv) (handed_of rv) ⟨.int i, H1, I1.tok _, rv, q⟩
end
def clsIx (T : Str) : Bool := T ∈ errs5
def wIsX (T : Str) (we : WE) : WE := fun env st Q => we env st fun x s => ∃ nm arg, x = .x nm arg ∧ nm ∈ errs ∧ Q (.p (.bool (xIs nm T))) s
def wIsXT (Ts : List Str) (we : WE) : WE := fun env st Q => we env st fun x s => ∃ nm arg, x = .x nm arg ∧ nm ∈ errs ∧ Q (.p (.bool (Ts.any (xIs nm)))) s
def wPlace (we : WE) : WE := fun env st Q => we env st fun x s => ∃ i, x = .x "NoPlace" (some i) ∧ Q (.p (.int i)) s
theorem rp_x {K : PySem.W.Frag} {F : Hp} {cs : List Addr} {nm : Str} {arg : Option Int} {v : V} (r : Rp K F cs (.x nm arg) v) : ∃ a C d, v = .ref a ∧ CAt K nm C ∧ F a = some (exq a (.ref C) d) ∧ XArg F d arg := by
  cases r with
  | x h1 h2 h3 => exact ⟨_, _, _, rfl, h1, h2, h3⟩
section
variable {X : XM} {e : Expr} {we : WE} {p p2 p3 pos : Pos} {T : Str}
theorem pe_cls {C : Addr} (ER : Errs X.K X.mg) (hT : T ∈ errs5) (hC : CAt X.K T C) (hg : Gl X T) (hd : (T == ("__debug__" : Str)) = false := by decide) : PE X (.Name T p2) (tC (.ref C)) := pe_glob hg (ER.mg T hT C hC) rfl hd
theorem se_isX (ER : Errs X.K X.mg) (hT : T ∈ errs5) (hCT : ∃ C, CAt X.K T C) (hg : Gl X "isinstance") (hm : X.mg "isinstance" = none) (he : SE X e we) (hgT : Gl X T) (hdT : (T == ("__debug__" : Str)) = false := by decide)
    (hs : starEach [e, .Name T p2] X.env = (false, eval e X.env) :: starEach [.Name T p2] X.env := by rfl) (hs2 : starEach [.Name T p2] X.env = (false, eval (.Name T p2) X.env) :: starEach [] X.env := by rfl)
    (hpl : (backTo pos (starEach [.Name T p2] X.env)).any (·.1) = false := by rfl) : SE X (.Call (.Name "isinstance" p) [e, .Name T p2] [] pos) (wIsX T we) := by
  obtain ⟨D, hD⟩ := hCT
  obtain ⟨t, pe, k⟩ := he
  refine ⟨_, pe_callB call_isX hg hm (by decide +kernel) (pa_cons pe (pa_cons (pe_cls ER hT hD hgT hdT) pa_nil hs2) hs) (by decide) (by decide) hs hpl, fun F cs σ H env st Q R er hs h kk => k F cs σ H env st _ _ er hs h ?_⟩
  rintro v H1 ⟨F1, c1, d, s1, e1, e2, h1, r1, nm, arg, rfl, hn, q⟩
  obtain ⟨a, C, dd, rfl, hC, ha, hx⟩ := rp_x r1
  have fC := ER.f nm (errs_5 hn) C hC
  exact ⟨a, C, dd, arg, _, _, _, rfl, h1.sub _ _ ha, hx.mono h1.sub, fC.ex, fC.ic, .own D, ER.kit hn hT hC hD, kk _ _ ⟨F1, c1, _, s1, e1, e2, h1, .p (.bl _), q⟩⟩
theorem se_isXV (ER : Errs X.K X.mg) (hg : Gl X "isinstance") (hm : X.mg "isinstance" = none) (he : SE X e we) (hgT : Gl X "ValueError") (hmT : X.mg "ValueError" = none)
    (hs : starEach [e, .Name "ValueError" p2] X.env = (false, eval e X.env) :: starEach [.Name "ValueError" p2] X.env := by rfl) (hs2 : starEach [.Name "ValueError" p2] X.env = (false, eval (.Name "ValueError" p2) X.env) :: starEach [] X.env := by rfl)
    (hpl : (backTo pos (starEach [.Name "ValueError" p2] X.env)).any (·.1) = false := by rfl) : SE X (.Call (.Name "isinstance" p) [e, .Name "ValueError" p2] [] pos) (wIsX "ValueError" we) := by
  obtain ⟨t, pe, k⟩ := he
  refine ⟨_, pe_callB call_isX hg hm (by decide +kernel) (pa_cons pe (pa_cons (pe_ty hgT hmT PyProof.Rows.Boot.«ValueError») pa_nil hs2) hs) (by decide) (by decide) hs hpl, fun F cs σ H env st Q R er hs h kk => k F cs σ H env st _ _ er hs h ?_⟩
  rintro v H1 ⟨F1, c1, d, s1, e1, e2, h1, r1, nm, arg, rfl, hn, q⟩
  obtain ⟨a, C, dd, rfl, hC, ha, hx⟩ := rp_x r1
  have fC := ER.f nm (errs_5 hn) C hC
  have e3 : xIs nm "ValueError" = true := by simp [xIs]
  rw [e3] at q
  exact ⟨a, C, dd, arg, _, _, _, rfl, h1.sub _ _ ha, hx.mono h1.sub, fC.ex, fC.ic, .ty _, ER.kitV hn hC, kk _ _ ⟨F1, c1, _, s1, e1, e2, h1, .p (.bl _), q⟩⟩
theorem se_place (ER : Errs X.K X.mg) (he : SE X e we) (hb : attributeBase e "place" X.env (eval e X.env) = eval e X.env := by rfl) : SE X (.Attribute e "place" pos) (wPlace we) := by
  obtain ⟨t, pe, k⟩ := he
  refine ⟨_, pe_xpl pe hb, fun F cs σ H env st Q R er hs h kk => k F cs σ H env st _ _ er hs h ?_⟩
  rintro v H1 ⟨F1, c1, d, s1, e1, e2, h1, r1, i, rfl, q⟩
  obtain ⟨a, C, dd, rfl, hC, ha, hx⟩ := rp_x r1
  have fC := ER.f "NoPlace" (by decide) C hC
  cases dd with
  | none => exact hx.elim
  | some dd => exact ⟨a, C, dd, i, rfl, h1.sub _ _ ha, h1.sub _ _ hx, fC.ex, fC.pl, kk _ _ ⟨F1, c1, _, s1, e1, e2, h1, .p (.int _), q⟩⟩
end
inductive CAll (K : PySem.W.Frag) : List Str → List Addr → Prop
  | nil : CAll K [] []
  | cons {T : Str} {Ts : List Str} {D : Addr} {Ds : List Addr} : T ∈ errs5 → CAt K T D → CAll K Ts Ds → CAll K (T :: Ts) (D :: Ds)
structure SCls (X : XM) (es : List Expr) (Ts : List Str) : Prop where
  run : ∃ (Ds : List Addr) (ta : TA), CAll X.K Ts Ds ∧ PA X es ta ∧ ∀ σ H (R : List V → Hp → Prop), R (Ds.map V.ref) H → ta σ H R
theorem CAll.cls {K : PySem.W.Frag} : ∀ {Ts : List Str} {Ds : List Addr}, CAll K Ts Ds → Paired ClsV (Ds.map V.ref) (Ds.map Value.ref)
  | _, _, .nil => .nil
  | _, _, .cons _ _ h => .cons (.own _) h.cls
theorem CAll.kit {K : PySem.W.Frag} {mg : Str → Option Value} (ER : Errs K mg) {nm : Str} (hn : nm ∈ errs) {C : Addr} (hC : CAt K nm C) : ∀ {Ts : List Str} {Ds : List Addr}, CAll K Ts Ds → PySem.W.kitAny K (.ref C) (Ds.map Value.ref) = some (Ts.any (xIs nm))
  | _, _, .nil => rfl
  | _, _, .cons (T := T) (Ts := Ts) (D := D) (Ds := Ds) hT hD h => by
    have ih := CAll.kit ER hn hC h
    show (match PySem.W.kitOne K (.ref C) (.ref D) with | some true => some true | some false => PySem.W.kitAny K (.ref C) (Ds.map Value.ref) | none => none) = _
    rw [ER.kit hn hT hC hD, List.any_cons]
    cases xIs nm T with
    | true => rfl
    | false => exact ih
section
variable {X : XM} {e : Expr} {es : List Expr} {we : WE} {p p2 pos : Pos} {T : Str} {Ts : List Str}
theorem scls_nil : SCls X [] [] := ⟨[], _, .nil, pa_nil, fun σ H R h => h⟩
theorem scls_cons (ER : Errs X.K X.mg) (hT : T ∈ errs5) (hCT : ∃ C, CAt X.K T C) (hg : Gl X T) (h : SCls X es Ts) (hd : (T == ("__debug__" : Str)) = false := by decide)
    (hs : starEach (.Name T p2 :: es) X.env = (false, eval (.Name T p2) X.env) :: starEach es X.env := by rfl) : SCls X (.Name T p2 :: es) (T :: Ts) := by
  obtain ⟨D, hD⟩ := hCT
  obtain ⟨Ds, ta, h1, h2, h3⟩ := h
  exact ⟨D :: Ds, _, .cons hT hD h1, pa_cons (pe_cls ER hT hD hg hd) h2 hs, fun σ H R q => h3 σ H _ q⟩
theorem se_isXT {k : Nat} {tp : Pos} (ER : Errs X.K X.mg) (hc : SCls X es Ts) (hl : Ts.length ≤ 1000) (hg : Gl X "isinstance") (hm : X.mg "isinstance" = none) (he : SE X e we)
    (hs : starEach [e, .Tuple es k tp] X.env = (false, eval e X.env) :: starEach [.Tuple es k tp] X.env := by rfl) (hs2 : starEach [.Tuple es k tp] X.env = (false, eval (.Tuple es k tp) X.env) :: starEach [] X.env := by rfl)
    (hpl : (backTo pos (starEach [.Tuple es k tp] X.env)).any (·.1) = false := by rfl) : SE X (.Call (.Name "isinstance" p) [e, .Tuple es k tp] [] pos) (wIsXT Ts we) := by
  obtain ⟨Ds, ta, hD, pa, ka⟩ := hc
  obtain ⟨t, pe, kk⟩ := he
  have ld : Ds.length = Ts.length := by
    clear ka pa
    induction hD with
    | nil => rfl
    | cons _ _ _ ih => simp [ih (by simp at hl; omega)]
  refine ⟨_, pe_callB call_isXT hg hm (by decide +kernel) (pa_cons pe (pa_cons (pe_tup pa) pa_nil hs2) hs) (by decide) (by decide) hs hpl, fun F cs σ H env st Q R er hs h k2 => kk F cs σ H env st _ _ er hs h ?_⟩
  rintro v H1 ⟨F1, c1, d, s1, e1, e2, h1, r1, nm, arg, rfl, hn, q⟩
  obtain ⟨a, C, dd, rfl, hC, ha, hx⟩ := rp_x r1
  have fC := ER.f nm (errs_5 hn) C hC
  refine ka σ H1 _ ⟨by rw [List.length_map, ld, sizeLine_eq]; omega, fun tp' hp => ?_⟩
  have z := h1.junk (o := .tup (Ds.map V.ref)) hp
  exact ⟨a, C, tp', dd, arg, _, _, _, rfl, z.sub _ _ ha, hx.mono z.sub, fC.ex, fC.ic, upd_same, hD.cls, hD.kit ER hn hC, k2 _ _ ⟨F1, c1, _, s1, e1, e2, z, .p (.bl _), q⟩⟩
end
def wRaiseT (rx : RX) (nm : Str) : WS := fun _ env s => rx nm none env s
section
variable {X : XM} {p p2 pos pos2 : Pos} {nm m : Str} {j : Option Str}
theorem raises_xf {K : PySem.W.Frag} {C : Addr} {X : Cx} (hK : X.K = K) (f : XF K C) : Raises X (.ref C) := by
  subst hK
  exact raises_own f.ex.hs f.ty
theorem ss_raiseT {bmB : List Value} {jj : Nat} (ER : Errs X.K X.mg) (hn : nm ∈ errs) (hC : ∃ C, CAt X.K nm C) (q : ∀ C, CAt X.K nm C → PySem.W.excIn X.K C [.type "ValueError", .type "Exception", .type "BaseException", .type "object"] "ValueError.__new__" = true) (hc : X.calm = true := by rfl) (hg : Gl X nm := by rfl) (hdb : (nm == ("__debug__" : Str)) = false := by decide) :
    SS X (.Raise (some (.Call (.Name nm p) [.Constant (.str m) jj p2] [] pos)) none pos2) (wRaiseT X.rx nm) := by
  obtain ⟨C, hC⟩ := hC
  have f := ER.f nm (errs_5 hn) C hC
  refine ⟨_, ps_raise hc (est_takes X.toCx) (pmk_own F.excBase_ValueError (q C hC) (ER.mg nm (errs_5 hn) C hC) f.kp (raises_xf rfl f) hg hdb), fun F cs0 cs σ H env st D E hcs hl er hs h g => ?_⟩
  exact er.xp F cs σ env H st nm none C none (Same.refl _) (List.prefix_refl _) er.k hs hC trivial h
end
end M


namespace M
open PySem PySem.Spec PyProof.Rows L2
structure RootF (K : PySem.W.Frag) (mg : Str → Option Value) : Prop where
  C : ∃ C, mg "RootError" = some (.ref C) ∧ PySem.W.specialIn K (.ref C) "__getattribute__" = some (some (.builtin "type.__getattribute__")) ∧ PySem.W.readsIn K C (.type "type") = true ∧
    PySem.W.findCls K (.ref C) (.type "type") "__init__" = some (.val (.builtin "ValueError.__init__"))
section
variable {X : Cx} {e : Expr} {es : List Expr} {ta : TA} {p1 p2 pos : Pos}
theorem pe_rootinit {pl : Sem Bool} (T : RootF X.K X.mg) (hg : Gl X "RootError") (ha : PA X (e :: es) ta)
    (hc : eval (.Call (.Attribute (.Name "RootError" p1) "__init__" p2) (e :: es) [] pos) X.env = (do
      let ov ← eval (.Name "RootError" p1) X.env
      standAt p2.atName
      let (f, first) ← holding [ov] (getMethod ov "__init__" pl)
      callWith pos f first (backTo pos (starEach (e :: es) X.env)) (backToKw pos (keywordEach [] X.env))) := by rfl)
    (he : starEach (e :: es) X.env = (false, eval e X.env) :: starEach es X.env := by rfl) (hpl : (backTo pos (starEach es X.env)).any (·.1) = false := by rfl) :
    PE X (.Call (.Attribute (.Name "RootError" p1) "__init__" p2) (e :: es) [] pos) (tVeI X.K ta) := by
  obtain ⟨C, hm, sp, rd, vV⟩ := T.C
  refine ⟨fun pins s σ H Q I h => ?_⟩
  refine PySem.W.methodCall_KW (ld_glob I hg hm ?_) hc
  refine PySem.W.method_cls I.kIn sp (PySem.W.cls_value I.kIn rd vV (by decide +kernel) ?_)
  show wpAny _ _ (callWith pos (Value.builtin "ValueError.__init__") [] (backTo pos (starEach (e :: es) X.env)) []) _ _ _
  refine PyProof.Rows.callWith_method1 (thn (ha.run pos pins _ σ H _ (I.tok _) h) fun us s1 hh => ?_) he hpl
  obtain ⟨vs, H1, I1, r1, a, C', ws, ev, hl, T', ea, q⟩ := hh
  subst ev
  cases r1 with
  | @cons _ u0 _ ur ra rw' =>
    obtain rfl : u0 = Value.ref a := ra
    have hlen : ur.length ≤ sizeLine := by
      rw [← Paired.length rw', sizeLine_eq]
      omega
    exact oinit_ok T' I1 ea hlen fun s' J => ⟨.non, H1, J, rfl, q⟩
end
def spInit (K : PySem.W.Frag) : Sp := fun vs H Q _ => ∃ (a C : Addr) (i : Int), vs = [.ref a, .int i] ∧ OexC K C ∧ PySem.W.findIn K (.ref C) "place" = some none ∧ H a = some (exo a C none) ∧
  ∀ dx, H dx = none → dx ≠ a → Q .non (upd (upd H dx (exd dx [(("place" : Str), .int i)])) a (exo a C (some dx)))
theorem init_ok {P : Program} {w : World} {K : PySem.W.Frag} {mg : Str → Option Value} {base : Heap} {x qual : Str} {st : Stmt} {f : Addr} {fd : FuncData} (Fu : Fun K x qual st f fd) (S : FnScope ["self", "place"] ["self", "place"] (defScope st))
    (hder : ∀ (cdv : Value) (A : Around) (outer : List PySem.Env) (s : Shared) (H : Hp) (E : XK), PSs (cxOf CX0 P w K mg base ["self", "place"] qual (defScope st) f cdv A outer s H E).nox (defBody st)
      (tSeq (tDrop (tVeI K (tCons (tVar 0) (tCons (tC (.str "no place")) tNil)))) (tOst K "place" (tVar 0) (tVar 1)))) : FnOk P w K mg base CX0 1 f fd ["self", "place"] (spInit K) := by
  refine Fu.ok S (fun vs H Q E h => ?_) (fun cdv A outer s H vs Q E hr h => ?_)
  · obtain ⟨a, C, i, rfl, _⟩ := h
    rfl
  · obtain ⟨a, C, i, rfl, T, hno, ha, q⟩ := h
    refine ⟨_, hder cdv A outer s H E, ?_⟩
    refine ⟨_, rfl, a, C, [.str "no place"], rfl, (by show 1 ≤ 1000; decide), T, ha, ?_⟩
    exact ⟨_, rfl, _, rfl, a, C, rfl, T, hno, .inl ⟨ha, fun dx n ne => q dx n ne⟩⟩
structure PlaceI (P : Program) (w : World) (K : PySem.W.Frag) (mg : Str → Option Value) (base : Heap) : Prop where
  ok : ∃ (C fI : Addr) (fd : FuncData), CAt K "NoPlace" C ∧ OexC K C ∧ PySem.W.findIn K (.ref C) "__init__" = some (some (.ref fI)) ∧ PySem.W.typeIn K (.ref fI) = some (.type "function") ∧
    FnOk P w K mg base CX0 1 fI fd ["self", "place"] (spInit K) ∧ Binds K fd ["self", "place"] []
def wRaiseP (rx : RX) (we : WE) : WS := fun _ env s => we env s fun x s' => ∃ i, x = .p (.int i) ∧ rx "NoPlace" (some i) env s'
theorem del_upd {H : Hp} {a dx C : Addr} {fs fs' : List (Str × V)} {o o' : HO} (ha : H a = none) (ne : dx ≠ a) : upd (del (upd (upd (upd H a o) dx (exd dx fs)) a o') a) dx (.xd fs') = upd H dx (.xd fs') := by
  funext b
  by_cases hb : b = dx
  · subst hb; rw [upd_same, upd_same]
  · rw [upd_ne hb, upd_ne hb]
    by_cases ea : b = a
    · subst ea; rw [del_same, ha]
    · rw [del_ne ea, upd_ne ea, upd_ne hb, upd_ne ea]
theorem ss_raiseP {X : XM} {e : Expr} {we : WE} {p pos pos2 : Pos} (ER : Errs X.K X.mg) (T : PlaceI X.prog X.w X.K X.mg X.base) (hr : Room 2 X.A) (he : SE X e we) (hc : X.calm = true := by rfl) (hg : Gl X "NoPlace" := by rfl)
    (hs : starEach [e] X.env = (false, eval e X.env) :: starEach [] X.env := by rfl) (hpl : (backTo pos (starEach [] X.env)).any (·.1) = false := by rfl) :
    SS X (.Raise (some (.Call (.Name "NoPlace" p) [e] [] pos)) none pos2) (wRaiseP X.rx we) := by
  obtain ⟨C, fI, fd, hC, oc, iC, tI, F1, hb⟩ := T.ok
  have fx := ER.f "NoPlace" (by decide) C hC
  obtain ⟨t, pe, k⟩ := he
  refine ⟨_, ps_raise hc (est_takes X.toCx) (pmk_oex oc iC tI F1 hr hb .nil pass0 hg (ER.mg "NoPlace" (by decide) C hC) (pa_cons pe pa_nil hs) (by decide) hs hpl), fun F cs0 cs σ H env st D E hcs hl er hs h g => k F cs σ H env st _ _ er hs h ?_⟩
  rintro v H1 ⟨F1, c1, d, s1, e1, e2, h1, r1, i, rfl, q⟩
  refine ⟨by show 1 ≤ 1000; decide, fun a na => ?_⟩
  refine ⟨a, C, i, by rw [rp_int r1]; rfl, oc, fx.pl, upd_same, fun dx n ne => ?_⟩
  have nd : H1 dx = none := by rw [upd_ne ne] at n; exact n
  refine ⟨rfl, dx, _, upd_same, by rw [upd_ne ne, upd_same], nd, ?_⟩
  rw [del_upd (C := C) na ne]
  obtain ⟨z1, z2⟩ := h1.pure (o := .xd [(("place" : Str), .int i)]) nd
  exact er.xp _ c1 σ env _ s1 "NoPlace" (some i) C (some dx) (e1.trans z1) e2 ((er.k.mono e1 e2).mono z1 (List.prefix_refl _)) z2 hC (show XArg _ (some dx) (some i) from upd_same) q
end M


namespace M
open PySem PySem.Spec PyProof.Rows L2
structure FnS (P : Program) (w : World) (K : PySem.W.Frag) (mg : Str → Option Value) (base : Heap) (k : Nat) (f : Addr) (fd : FuncData) (ps : List Str) (sp : Sp) : Prop where
  len : ∀ vs H Q E, sp vs H Q E → vs.length = ps.length
  run : ∀ (A : Around) (outer : List PySem.Env) (s : Shared) (H : Hp) (args : Args) (us : List Value) (vs : List V) (Q : VK) (E : XK), L2H.RoomH k A → Env0 P w K mg base A outer s H → BindsTo s fd args (ps.zip us) → Vals vs us → sp vs H Q E →
    codeAny (model P w) A (.call (.ref f) args) (CR CX0 outer P w H s Q E) s
def cxS (P : Program) (w : World) (K : PySem.W.Frag) (mg : Str → Option Value) (base : Heap) (N : List Str) (qual : Str) (scope : Scope) (f : Addr) (cd : Value) (A : Around) (outer : List PySem.Env) (s : Shared) (H : Hp) (E : XK) : Cx :=
  { cxOf CX0 P w K mg base N qual scope f cd A outer s H E with calm := false, xe := fun _ _ => False }
theorem inv_cold {P : Program} {w : World} {K : PySem.W.Frag} {mg : Str → Option Value} {base : Heap} {N ps : List Str} {qual : Str} {scope : Scope} {f : Addr} {cd : Value} {A : Around} {outer : List PySem.Env} {s s1 : Shared} {H : Hp} {E : XK} {us : List Value} {vs : List V}
    (S : FnScope N ps scope) (e0 : Env0 P w K mg base A outer s H) (hl : vs.length = ps.length) (r : Vals vs us)
    (x : InCallC s s.heap.objs.size (bindL (envOfC qual scope s.heap.objs.size f cd).kindOf (ps.zip us) fun _ => none) (cellsFrom (s.heap.objs.size + 1) scope.names []) (bindC (envOfC qual scope s.heap.objs.size f cd).kindOf (ps.zip us) fun _ => none) s1) :
    Inv (cxS P w K mg base N qual scope f cd A outer s H E) [] (L2.start N vs) H s1 := by
  have e1 : Env0 P w K mg base { A with handled := none } outer s H := ⟨e0.frames, e0.mod, e0.bs, e0.bsz, e0.funs, e0.frf, e0.hok, e0.bare⟩
  have I := inv_start (CX := CX0) (E := E) (A := { A with handled := none }) S rfl e1 hl r x
  have ok := I.ok
  exact ⟨⟨ok.mod, ok.kind, ok.glob, ok.blt, ok.above, ok.inj, ok.has, ok.cab, fun z => Bool.noConfusion (show false = true from z), Around.frames_deeper e0.frames, ok.stk, ok.exf, ok.bs, ok.bsz, ok.noex, ok.exfs, ok.funs, ok.frf⟩,
    I.os, I.bare, I.base, I.loc, I.cell, I.free, I.freeC, I.pin, I.hok, I.len⟩
theorem fnS_of {P : Program} {w : World} {K : PySem.W.Frag} {mg : Str → Option Value} {base : Heap} {x qual : Str} {st : Stmt} {k : Nat} {f : Addr} {fd : FuncData} {N ps : List Str} {sp : Sp} (Fu : Fun K x qual st f fd) (S : FnScope N ps (defScope st))
    (len : ∀ vs H Q E, sp vs H Q E → vs.length = ps.length)
    (hbody : ∀ (cdv : Value) (A : Around) (outer : List PySem.Env) (s : Shared) (H : Hp) (vs : List V) (Q : VK) (E : XK), L2H.RoomH k (A.deeper (envOfC qual (defScope st) s.heap.objs.size f cdv)) → sp vs H Q E →
      ∃ t, PSs (cxS P w K mg base N qual (defScope st) f cdv A outer s H E) (defBody st) t ∧ t { nx := fun _ H' => Q .non H', rt := Q } (L2.start N vs) H) : FnS P w K mg base (k + 1) f fd ps sp := by
  obtain ⟨oc, od, kV, doc, pm, an, cdv, ct, osl, rfl, lk, hcd⟩ := Fu.ex
  refine ⟨len, fun A outer s H args us vs Q E hr e0 hb r hsp => ?_⟩
  have hl := len _ _ _ _ hsp
  have KX : K.In s.heap := e0.mod.kin.keeps fun b o e => (e0.bs b o e).1
  have lim : s.heap.NoLimit := e0.mod.nolimit.keeps fun b o e => (e0.bs b o e).1
  have kinds : ∀ y ∈ ps.zip us, (defScope st).names.lookup y.1 = some .local ∨ ((defScope st).names.lookup y.1 = some .cell ∧ ((cellsFrom (s.heap.objs.size + 1) (defScope st).names []).lookup y.1).isSome = true) := by
    rintro ⟨n, v⟩ hy
    rcases S.par n (List.of_mem_zip hy).1 with q | q
    · exact .inl q
    · exact .inr ⟨q, PySem.W.cellsFrom_some _ _ _ (.inl q)⟩
  refine codeAny_call_function hr.depth (KX _ _ lk) rfl S.co S.gen rfl (PySem.W.codeRec_of KX hcd) (hb _ _ _ _ ?_)
  refine wpAny_newFunctionEnv_cells S.kind kinds fun env he s1 x => ?_
  subst he
  refine ⟨lim.keeps x.toInCall.keep, codeAny_func ?_⟩
  obtain ⟨t, ht, hq⟩ := hbody cdv A outer s H vs Q E (hr.deeper _) hsp
  have I := inv_cold (E := E) S e0 hl r x
  refine wpAny_mono (ht.run [] s1 (L2.start N vs) H _ I hq) (fun fl s' hs => ?_) fun e s' hs => hs.elim
  have fin : ∀ {σ' : L2.St} {H' : Hp} {v : V} {u : Value}, Inv (cxS P w K mg base N qual (defScope st) f cdv A outer s H E) [] σ' H' s' → RelV v u → Q v H' → CE outer P w H s Q u s' :=
    fun {σ' H' v u} J rv q => ⟨v, H', J.os, J.bare, J.base, J.hok, rv, q⟩
  cases fl with
  | ret u =>
    obtain ⟨v, σ', H', J, rv, q⟩ := hs
    exact fin J rv q
  | next =>
    obtain ⟨σ', H', J, q⟩ := hs
    exact fin (v := V.non) (u := Value.none) J rfl q
  | brk =>
    obtain ⟨_, _, _, q⟩ := hs
    exact False.elim q
  | cont =>
    obtain ⟨_, _, _, q⟩ := hs
    exact False.elim q
structure CalleeS (P : Program) (w : World) (K : PySem.W.Frag) (mg : Str → Option Value) (base : Heap) (x : Str) (k : Nat) (sp : MSp) : Prop where
  ok : ∃ (f : Addr) (fd : FuncData) (ps : List Str), FnS P w K mg base k f fd ps (spM K sp) ∧ mg x = some (.ref f) ∧ PySem.W.keepIn K (.ref f) = true ∧ Binds K fd ps []
theorem fnMS {P : Program} {w : World} {K : PySem.W.Frag} {mg : Str → Option Value} {base : Heap} {x qual : Str} {st : Stmt} {f : Addr} {fd : FuncData} {N ps : List Str} {k : Nat} {sp : MSp} {W : WS} (Fu : Fun K x qual st f fd) (S : FnScope N ps (defScope st))
    (len : ∀ ds s R, sp ds s R → ds.length = ps.length)
    (hder : ∀ (cdv : Value) (A : Around) (outer : List PySem.Env) (s : Shared) (H : Hp) (E : XK), L2H.RoomH k (A.deeper (envOfC qual (defScope st) s.heap.objs.size f cdv)) → SSs ⟨cxS P w K mg base N qual (defScope st) f cdv A outer s H E, fun _ _ _ _ => False⟩ (defBody st) W)
    (hread : ∀ ds s R, Wf s → sp ds s R → W (fnEnds s.length R) (startE N.length ds) s) : FnS P w K mg base (k + 1) f fd ps (spM K sp) := by
  refine fnS_of Fu S (fun vs H Q E h => ?_) (fun cdv A outer s H vs Q E hr h => ?_)
  · obtain ⟨F, cs, ds, st, R, hs, r, q, _⟩ := h
    rw [← r.length]; exact len _ _ _ q
  · obtain ⟨F, cs, ds, s0, R, hs, r, q, kk⟩ := h
    obtain ⟨t, p, kt⟩ := hder cdv A outer s H E hr
    refine ⟨t, p, kt F cs cs (L2.start N vs) H (startE N.length ds) s0 (fnEnds s0.length R) _ (List.prefix_refl _) hs.len ⟨er_start r, .none fun _ _ _ _ z => z⟩ hs (hread ds s0 R hs.wf q) ?_⟩
    have fin : ∀ F' cs' H' st' d v, Same F F' → cs <+: cs' → HS K F' cs' H' st' → Rp K F' cs' d v → RetTo s0.length R d st' → Q v H' := fun F' cs' H' st' d v u1 u2 u3 u4 u5 => by
      rcases u5 with u5 | ⟨hb, wf, ud, u5⟩
      · exact kk F' cs' H' st' d v u1 u2 u3 u4 u5
      · exact kk F' (cs'.take s0.length) H' (st'.take s0.length) d v u1 (pre_take u2 (by rw [hs.len]; exact Nat.le_refl _)) (u3.cut wf hb) (rp_take _ _ u4 ud) u5
    exact ⟨fun F' cs' σ' H' env' st' u1 u2 u3 u4 u5 => fin F' cs' H' st' _ .non u1 u2 u4 (.p .non) u5, fin, fun _ _ _ _ _ _ _ _ _ _ z => z.elim, fun _ _ _ _ _ _ _ _ _ _ z => z.elim, .none fun _ _ _ _ z => z⟩
theorem sss_never {X : XM} {rest : List Stmt} : SSs X rest wNever := ⟨fun _ _ _ => False, ⟨fun pins s σ H D I h => h.elim⟩, fun F cs0 cs σ H env st D E hc hl er hs h g => h.elim⟩
theorem roomS {k : Nat} {A : Around} (r : Room k A) (u : Option Value) : L2H.RoomH k (A.mark u) := ⟨r.dp, r.un⟩
section
variable {X : XM} {x : Str} {k : Nat} {sp : MSp} {e : Expr} {es : List Expr} {wt : WA} {p pos : Pos}
theorem se_callS (G : CalleeS X.prog X.w X.K X.mg X.base x k sp) (hr : L2H.RoomH k X.A) (ha : SA X (e :: es) wt) (hg : Gl X x := by rfl) (hdb : (x == ("__debug__" : Str)) = false := by decide) (he : starEach (e :: es) X.env = (false, eval e X.env) :: starEach es X.env := by rfl)
    (hpl : (backTo pos (starEach es X.env)).any (·.1) = false := by rfl) : SE X (.Call (.Name x p) (e :: es) [] pos) (wCall sp wt) := by
  obtain ⟨f, fd, ps, G, hm, hk, hb⟩ := G.ok
  obtain ⟨ta, pa, ka⟩ := ha
  have pe : PE X (.Call (.Name x p) (e :: es) [] pos) (fun σ H Q => ta σ H fun vs H1 => spM X.K sp vs H1 Q fun _ _ _ => False) := by
    refine ⟨fun pins s σ H Q I h => ?_⟩
    refine wpAny_Call_Name_kw (ld_glob I hg hm ?_ hdb)
    refine PySem.W.callWith_K (h₀ := X.base) I.ok.mod.kin hk (thn (pa.run pos pins s σ H _ I h) fun us s1 hh => ?_) he hpl
    obtain ⟨vs, H1, I1, r, q⟩ := hh
    refine ⟨I1.kIn, ?_⟩
    have hl : us.length = ps.length := by rw [← r.length]; exact G.len _ _ _ _ q
    have b := hb s1 us I1.kIn (by rw [List.append_nil]; exact hl)
    rw [List.append_nil] at b
    refine wpAny_call (codeAny_mono (G.run X.A X.stack s1 H1 ⟨us, []⟩ us vs Q _ hr I1.env0 b r q) fun r s' hq => ?_)
    cases r with
    | error e => exact (show False from hq).elim
    | ok fl =>
      cases fl with
      | ret u => exact I1.after hq
      | next => exact False.elim hq
      | brk => exact False.elim hq
      | cont => exact False.elim hq
  refine ⟨_, pe, fun F cs σ H env st Q R er hs h kk => ka F cs σ H env st _ _ er hs h ?_⟩
  rintro vs H1 ⟨F1, c1, ds, s1, a1, b1, hs1, r1, q1⟩
  refine ⟨F1, c1, ds, s1, Q, hs1, r1, q1, fun F' cs' H' st' d v x1 x2 x3 x4 x5 => ?_⟩
  exact kk _ _ ⟨F', cs', d, st', a1.trans x1, b1.trans x2, x3, x4, x5⟩
end
end M


namespace M
open PySem PySem.Spec PyProof.Rows L2
section
variable {env : M.Env} {st : Store} {Q : SV → Store → Prop} {D : ME} {rx : RX}
theorem e_callx (sp : MSpX) (wa : WA) : wCallX rx sp wa env st Q = wa env st fun ds s => sp ds s Q fun nm arg s' => rx nm arg env s' := rfl
theorem e_orx (S : MSp) (SX : MSpX) (ds : List SV) (RX : Str → Option Int → Store → Prop) : orX S SX ds st Q RX = (S ds st Q ∨ SX ds st Q RX) := rfl
theorem e_isx (T : Str) (we : WE) : wIsX T we env st Q = we env st fun x s => ∃ nm arg, x = .x nm arg ∧ nm ∈ errs ∧ Q (.p (.bool (xIs nm T))) s := rfl
theorem e_isxt (Ts : List Str) (we : WE) : wIsXT Ts we env st Q = we env st fun x s => ∃ nm arg, x = .x nm arg ∧ nm ∈ errs ∧ Q (.p (.bool (Ts.any (xIs nm)))) s := rfl
theorem e_place (we : WE) : wPlace we env st Q = we env st fun x s => ∃ i, x = .x "NoPlace" (some i) ∧ Q (.p (.int i)) s := rfl
theorem s_raisep (we : WE) : wRaiseP rx we D env st = we env st fun x s' => ∃ i, x = .p (.int i) ∧ rx "NoPlace" (some i) env s' := rfl
theorem s_raiset (nm : Str) : wRaiseT rx nm D env st = rx nm none env st := rfl
theorem s_try (i : Nat) (wb : RX → WS) (ws : WS) : wTry i wb ws D env st = wb (fun nm arg e2 s2 => nm ∈ errs ∧
  ws { nx := fun e' s' => D.nx (e'.set i none) s', rt := D.rt, bk := fun e' s' => D.bk (e'.set i none) s', ct := fun e' s' => D.ct (e'.set i none) s', base := D.base } (e2.set i (some (.x nm arg))) s2) D env st := rfl
theorem in_errs0 : ("NoPlace" : Str) ∈ errs := by decide
theorem in_errs1 : ("NoText" : Str) ∈ errs := by decide
theorem in_errs2 : ("TooMany" : Str) ∈ errs := by decide
theorem in_errs3 : ("NoLine" : Str) ∈ errs := by decide
end
theorem isNone_x (nm : Str) (arg : Option Int) : isNone (.x nm arg) = false := rfl
theorem x_inj (nm nm' : Str) (arg arg' : Option Int) : (SV.x nm arg = SV.x nm' arg') = (nm = nm' ∧ arg = arg') := by
  apply propext
  constructor
  · intro h; cases h; exact ⟨rfl, rfl⟩
  · rintro ⟨rfl, rfl⟩; rfl
theorem x_ex (nm : Str) (arg : Option Int) (P : Str → Option Int → Prop) : (∃ n a, SV.x nm arg = SV.x n a ∧ P n a) = P nm arg := by
  apply propext
  constructor
  · rintro ⟨n, a, e, p⟩; cases e; exact p
  · intro p; exact ⟨_, _, rfl, p⟩
theorem x_pl (i : Int) (P : Int → Prop) : (∃ j, SV.x "NoPlace" (some i) = SV.x "NoPlace" (some j) ∧ P j) = P i := by
  apply propext
  constructor
  · rintro ⟨j, e, p⟩; cases e; exact p
  · intro p; exact ⟨_, rfl, p⟩
theorem xis_pp : xIs "NoPlace" "NoPlace" = true := by decide
theorem xis_pt : xIs "NoPlace" "NoText" = false := by decide
theorem xis_pm : xIs "NoPlace" "TooMany" = false := by decide
theorem xis_pl : xIs "NoPlace" "NoLine" = false := by decide
theorem xis_V (nm : Str) : xIs nm "ValueError" = true := by simp [xIs]
theorem xis_R (nm : Str) : xIs nm "RootError" = true := by simp [xIs]
theorem xis_tt : xIs "NoText" "NoText" = true := by decide
theorem xis_tp : xIs "NoText" "NoPlace" = false := by decide
theorem xis_tm : xIs "NoText" "TooMany" = false := by decide
theorem xis_tl : xIs "NoText" "NoLine" = false := by decide
theorem xis_mm : xIs "TooMany" "TooMany" = true := by decide
theorem xis_mp : xIs "TooMany" "NoPlace" = false := by decide
theorem xis_mt : xIs "TooMany" "NoText" = false := by decide
theorem xis_ml : xIs "TooMany" "NoLine" = false := by decide
theorem xis_ll : xIs "NoLine" "NoLine" = true := by decide
theorem xis_lp : xIs "NoLine" "NoPlace" = false := by decide
theorem xis_lt : xIs "NoLine" "NoText" = false := by decide
theorem xis_lm : xIs "NoLine" "TooMany" = false := by decide
end M


namespace M
open PySem PySem.Spec PyProof.Rows L2
section
open PySem.AutoSeq1
variable {prog : Program} {w : World} {A : Around} {E : Value → Shared → Prop} {s : Shared}
theorem wpAny_extend_rev {R : Result → Shared → Prop} {it l : Addr} {items : Array Value} (hh : A.handled = none) (hit : s.heap.IsRevIter it l ((items.size : Int) - 1)) (hl : s.heap.IsList l items) (hne : l ≠ it) (hn : items.size ≤ sizeLine)
    (S : Addr) (res : Value) (c₀ : Nat) (hS : s.heap.get? S = some { cls := .type "list", data := .seq #[] c₀ }) (hSi : S ≠ it) (hSl : S ≠ l)
    (hR : ∀ h' tk acc' c', (∀ b o, b ≠ S → b ≠ it → s.heap.get? b = some o → h'.get? b = some o) → h'.get? S = some { cls := .type "list", dict := none, data := .seq acc' c', slots := #[] } →
      ItemsOf (fun i v => items[items.size - 1 - i]? = some v) acc' items.size → R (.ok (.ret res)) { s with heap := h', toks := tk }) :
    wpAny (model prog w) A.in1 (Builtin.List.listExtendWith (.ref S) (.ref it) res)
      (fun fin s' => match fin with | .done f => R (.ok f) s' | .again c' => c'.quiet = true ∧ codeAny (model prog w) A c' R s') (fun e s' => R (.error e) s') s := by
  have hh1 : A.in1.handled = none := hh
  have W := (Walks.listRev (prog := prog) (w := w) (A := A.in1) hh1 it l hne items).toS
  have hSf : S ∉ [it, l] := by simp only [List.mem_cons, List.not_mem_nil, or_false, not_or]; exact ⟨hSi, hSl⟩
  have hT : s.TypeIs (.ref it) "list_reverseiterator" := hit.typeIs
  have h1 : Builtin.List.listSameRef (.ref S) (.ref it) = false := by simp [Builtin.List.listSameRef, hSi]
  unfold Builtin.List.listExtendWith
  refine wpAny_bind (wpAny_typeOf hT ?_)
  rw [if_neg (by rw [h1]; decide)]
  refine wpAny_bind (wpAny_pyIter_revIter hit ?_)
  refine wpAny_bind (wpAny_holding ?_)
  unfold Builtin.List.listLengthHint
  refine wpAny_bind (wpAny_specialOf hT RT.nolen_lri ?_)
  show wpAny _ A.in1 (specialOf (Value.ref it) (Str.ofString "__length_hint__") >>= _) _ _ _
  refine wpAny_bind (wpAny_specialOf hT RT.hint_lri ?_)
  generalize hid : ("list_reverseiterator.__length_hint__" : String) = id0
  wp_delta
  rw [show splitId id0 = some ("list_reverseiterator", "__length_hint__") from by subst hid; decide +kernel]
  subst hid
  refine wpAny_bind (wpAny_isInstance (b := true) hT (by rw [isSubtype_type]; kernel_rfl) ?_)
  refine wpAny_pure ?_
  rw [if_neg (by decide)]
  have e0 : ((items.size : Nat) : Int) - 1 - ((0 : Nat) : Int) = (items.size : Int) - 1 := by omega
  refine wpAny_pure ⟨plainId_quiet F.plain_extend_loop _, codeAny_extend_loopS W hn _ hSf _ items.size 0 _ _ _ rfl (Nat.zero_le _) ⟨Nat.zero_le _, by rw [e0]; exact hit, hl⟩ hS (ItemsOf.nil _) fun s' acc' c' hm hS' hacc => ?_⟩
  rw [Moved.eq_with hm]
  refine hR s'.heap s'.toks acc' c' (fun b o hb hb2 e => hm.heap b o (fun hmem => ?_) e) hS' hacc
  rcases List.mem_cons.mp hmem with e' | hmem
  · exact hb e'
  · exact hb2 (List.mem_singleton.mp hmem)
theorem call_list_rev {it l : Addr} {items : Array Value} {Q : Value → Shared → Prop} (hh : A.handled = none) (hit : s.heap.IsRevIter it l ((items.size : Int) - 1)) (hl : s.heap.IsList l items) (hne : l ≠ it) (hn : items.size ≤ sizeLine)
    (hQ : ∀ h' tk acc' c', (∀ b o, b ≠ it → s.heap.get? b = some o → h'.get? b = some o) →
      h'.get? s.heap.objs.size = some { cls := .type "list", dict := none, data := .seq acc' c', slots := #[] } → ItemsOf (fun i v => items[items.size - 1 - i]? = some v) acc' items.size → Q (.ref s.heap.objs.size) { s with heap := h', toks := tk }) :
    wpAny (model prog w) A (call (.type "list") [.ref it]) Q E s := by
  refine callType_codes (Q₁ := fun obj s₁ => obj = .ref s.heap.objs.size ∧ s₁ = { s with heap := s.heap.push { cls := .type "list", data := .seq #[] } }) F.called_list (F.typeCall_list_1 _) F.entry_list_init
    (code_list_new _ ⟨rfl, rfl⟩) fun obj s₁ h₁ => ?_
  obtain ⟨rfl, rfl⟩ := h₁
  obtain ⟨oi, hoi, _⟩ := id hit
  obtain ⟨ol, hol, _⟩ := id hl
  have hSi : s.heap.objs.size ≠ it := Nat.ne_of_gt (Heap.lt_size hoi)
  have hSl : s.heap.objs.size ≠ l := Nat.ne_of_gt (Heap.lt_size hol)
  have hS : (s.heap.push { cls := .type "list", data := .seq #[] }).get? s.heap.objs.size = some { cls := .type "list", data := .seq #[] } := Heap.get?_push_size _ rfl
  refine ⟨⟨_, hS, rfl⟩, F.args_list_init_2 _ _, ?_⟩
  show wpAny _ _ (do let old ← Builtin.List.listItems (.ref s.heap.objs.size); Builtin.List.listUpdate (.ref s.heap.objs.size) (fun _ => #[]); letGo old.toList.reverse; Builtin.List.listExtendWith (.ref s.heap.objs.size) (.ref it) .none) _ _ _
  refine wpAny_bind ?_
  unfold Builtin.List.listItems
  refine wpAny_bind (wpAny_seqItems hS rfl (wpAny_pure ?_))
  show wpAny _ _ (updateSeq s.heap.objs.size (fun _ => #[]) >>= fun _ => letGo (#[] : Array Value).toList.reverse >>= fun _ => Builtin.List.listExtendWith (.ref s.heap.objs.size) (.ref it) .none) _ _ _
  refine wpAny_bind (wpAny_updateSeq hS rfl ?_)
  have hS₂ := Heap.get?_update_self (Obj.mapSeq (fun _ => (#[] : Array Value))) hS rfl
  have oth : ∀ b o, b ≠ s.heap.objs.size → s.heap.get? b = some o → ((s.heap.push { cls := .type "list", data := .seq #[] }).update s.heap.objs.size (Obj.mapSeq (fun _ => (#[] : Array Value)))).get? b = some o :=
    fun b o hb e => (Heap.get?_update_other _ _ (Ne.symm hb)).trans (Heap.get?_push_of_some _ e)
  refine wpAny_bind (wpAny_letGo ?_)
  refine wpAny_extend_rev (A := A.in1) hh (hit.at fun o e => oth it o (Ne.symm hSi) e) ?_ hne hn s.heap.objs.size .none _ hS₂ hSi hSl fun h' tk acc' c' hk hS' hacc => ?_
  · obtain ⟨o, ho, r⟩ := hl
    exact ⟨o, oth l o (Ne.symm hSl) ho, r⟩
  · exact ⟨rfl, hQ h' tk acc' c' (fun b o hb e => hk b o (Nat.ne_of_lt (Heap.lt_size e)) hb (oth b o (Nat.ne_of_lt (Heap.lt_size e)) e)) hS' hacc⟩
end
def tLstRev (K : PySem.W.Frag) (te : TE) : TE := fun σ H Q => te σ H fun v H1 => ∃ (a : Addr) (xs : List V), v = .ref a ∧ SqL K H1 a xs ∧ ∀ q, H1 q = none → Q (.ref q) (upd H1 q (.lst xs.reverse))
theorem pe_lstRev {X : Cx} {e : Expr} {te : TE} {p p2 pos pos2 : Pos} (hc : X.calm = true) (hg : Gl X "list") (hm : X.mg "list" = none) (hg2 : Gl X "reversed") (hm2 : X.mg "reversed" = none) (he : PE X e te)
    (hs : starEach [e] X.env = (false, eval e X.env) :: starEach [] X.env := by rfl)
    (hs2 : starEach [.Call (.Name "reversed" p2) [e] [] pos2] X.env = (false, eval (.Call (.Name "reversed" p2) [e] [] pos2) X.env) :: starEach [] X.env := by rfl) :
    PE X (.Call (.Name "list" p) [.Call (.Name "reversed" p2) [e] [] pos2] [] pos) (tLstRev X.K te) := by
  refine ⟨fun pins s σ H Q I h => ?_⟩
  refine Call_ (ld_blt I hg hm boot_list (PyProof.Rows.callWith_type1 (args_cons (Call_ (ld_blt I hg2 hm2 PyProof.Rows.boot_reversed (PyProof.Rows.callWith_type1 (args_cons (thn (he.run pins s σ H _ I h) fun u s1 ⟨v, H1, I1, r1, q1⟩ => args_nil ?_) hs) hs rfl))) hs2) hs2 rfl))
  obtain ⟨a, xs, ev, hq, q⟩ := q1
  subst ev
  obtain rfl : u = Value.ref a := r1
  obtain ⟨its, rv, p', hz⟩ := I1.list hq
  refine call_reversed_list p'.isList (args_nil ?_)
  have k0 : ∀ b o, s1.heap.get? b = some o → (s1.heap.push (revObj a ((its.toArray.size : Int) - 1))).get? b = some o := fun b o e => Heap.get?_push_of_some _ e
  have I2 : Inv X pins σ H1 { s1 with heap := s1.heap.push (revObj a ((its.toArray.size : Int) - 1)) } := I1.kept (t' := s1.toks) k0
  obtain ⟨f0, f1, f2, f3, f4, f5⟩ := I1.fpOk (H' := H1) (b := s1.heap.objs.size) (Nat.le_refl _) (I1.hok.fresh (Nat.le_refl _))
  have hl := p'.isList
  obtain ⟨ol, hol, _⟩ := id hl
  have hne : a ≠ s1.heap.objs.size := Nat.ne_of_lt (Heap.lt_size hol)
  have hn : its.toArray.size ≤ sizeLine := by rw [List.size_toArray, ← rv.length]; exact hz
  have fr : H1 (s1.heap.objs.size + 1) = none := I1.hok.fresh (Nat.le_succ _)
  refine call_list_rev (s := { s1 with heap := s1.heap.push (revObj a ((its.toArray.size : Int) - 1)) }) (I1.ok.hd hc) ⟨_, Heap.get?_push_size _ rfl, rfl, rfl⟩ (hl.push _) hne hn fun h' tk acc c' hk hS' hi => ?_
  have I3 : Inv X pins σ H1 { s1 with heap := h', toks := tk } := I2.turned (t' := tk) (fun b o hb e => hk b o hb e) f0 f1 f3 f4 f5
  have eS : (s1.heap.push (revObj a ((its.toArray.size : Int) - 1))).objs.size = s1.heap.objs.size + 1 := by simp [Heap.push]
  refine ⟨.ref _, upd H1 _ (.lst xs.reverse), I2.turnedNew (t' := tk) (ch := [s1.heap.objs.size]) (fun b o hb e => hk b o (by simpa using hb) e) (fun b hb => ?_) (Nat.le_refl _) (show ObjOk X.prog X.w _ _ _ (.lst xs.reverse) from ⟨by rw [List.length_reverse]; exact hz, acc.toList, c', RT.vals_rev rv hi, by rw [Array.toArray_toList]; exact hS'⟩), rfl, q _ (by rw [eS]; exact fr)⟩
  have := List.mem_singleton.mp hb
  subst this
  exact I1.fpOk (H' := H1) (Nat.le_refl _) (I1.hok.fresh (Nat.le_refl _))
section
variable {prog : Program} {w : World} {A : Around} {E : Value → Shared → Prop} {s : Shared}
theorem fm_congr {α β : Type} {f g : α → Option β} : ∀ {l : List α}, (∀ a ∈ l, f a = g a) → l.filterMap f = l.filterMap g
  | [], _ => rfl
  | x :: l, h => by
    rw [List.filterMap_cons, List.filterMap_cons, h x List.mem_cons_self, fm_congr fun a m => h a (List.mem_cons_of_mem _ m)]
theorem adjust_rev (n : Nat) : Builtin.Slice.sliceAdjust none none (-1) (n : Int) = ((n : Int) - 1, -1) := rfl
theorem places_rev (n : Nat) : Builtin.Slice.slicePlaces ((n : Int) - 1) (-1) (-1) = n := by
  unfold Builtin.Slice.slicePlaces
  rw [if_neg (by decide)]
  by_cases h : (n : Int) - 1 > -1
  · rw [if_pos h]
    have : ((n : Int) - 1 - -1 - 1) / (- -1) + 1 = n := by
      have e : (- -1 : Int) = 1 := rfl
      rw [e, Int.ediv_one]; omega
    rw [this]; omega
  · rw [if_neg h]; omega
theorem pick_rev (xs : Array Value) : ((List.range xs.size).filterMap fun (m : Nat) => xs[(((xs.size : Nat) : Int) - 1 + (m : Int) * (-1)).toNat]?).toArray = xs.toList.reverse.toArray := by
  congr 1
  apply List.ext_getElem?
  intro j
  have e : ((List.range xs.size).filterMap fun (m : Nat) => xs[(((xs.size : Nat) : Int) - 1 + (m : Int) * (-1)).toNat]?) = (List.range xs.size).map fun m => xs.toList.reverse.getD m default := by
    rw [← List.filterMap_eq_map]
    refine fm_congr fun m hm => ?_
    have hm' : m < xs.size := List.mem_range.mp hm
    have e1 : (((xs.size : Nat) : Int) - 1 + (m : Int) * (-1)).toNat = xs.size - 1 - m := by omega
    have hl : m < xs.toList.length := by simpa using hm'
    rw [e1]
    simp only [Function.comp_apply]
    rw [List.getD_eq_getElem?_getD, List.getElem?_reverse hl, ← Array.getElem?_toList]
    have hl2 : xs.size - 1 - m < xs.toList.length := by simp; omega
    have : xs.toList.length - 1 - m = xs.size - 1 - m := by simp
    rw [this, List.getElem?_eq_getElem hl2]
    rfl
  rw [e]
  by_cases hj : j < xs.size
  · have hl : j < xs.toList.reverse.length := by simpa using hj
    rw [List.getElem?_map, List.getElem?_range hj, List.getElem?_eq_getElem hl]
    simp only [Option.map_some]
    rw [List.getD_eq_getElem?_getD, List.getElem?_eq_getElem hl]; rfl
  · rw [List.getElem?_eq_none (by simpa using hj), List.getElem?_eq_none (by simpa using hj)]
theorem getItem_tuple_rev {t sl : Addr} {items : Array Value} {vl vu vs : Value} {Q : Value → Shared → Prop} (ht : IsTup s.heap t items) (hs : s.heap.IsSliceOf sl vl vu vs) (pl : IsPart vl none) (pu : IsPart vu none) (ps : IsPart vs (some (-1)))
    (h : Q (.ref s.heap.objs.size) { s with heap := s.heap.push { cls := .type "tuple", data := .seq items.toList.reverse.toArray } })
    (hsz : items.size ≤ sizeLine) : wpAny (model prog w) A (getItem (.ref t) (.ref sl)) Q E s := by
  have htake : sizeOk (.seq items.toList.reverse.toArray) := by
    show items.toList.reverse.toArray.size ≤ sizeLine
    rw [List.size_toArray, List.length_reverse, Array.length_toList]
    exact hsz
  obtain ⟨os, hos, hcs, hds⟩ := id hs
  have hTs : s.TypeIs (.ref sl) "slice" := ⟨os, hos, hcs⟩
  unfold getItem
  try with_reducible refine wpAny_holding ?_
  first | refine wpAny_bind (wpAny_pure ?_) | skip
  refine wpAny_bind (wpAny_sequenceKey ht.typeIs (by decide) ?_)
  refine wpAny_bind (wpAny_callSpecial?_slot (name := Str.ofString "__getitem__") ht.typeIs PyProof.Rows.slot_tuple_getitem
    (wpAny_call_entry PyProof.Rows.slot_tuple_getitem ht.typeIs PyProof.Rows.entry_tuple_getitem ?_ (PyProof.Rows.args_tuple_getitem _ _)))
  show wpAny _ _ (Builtin.Tuple.tupleItemsOf (.ref t) >>= _) _ _ s
  refine wpAny_bind (PyProof.Rows.tupleItemsOf_ ht ?_)
  refine wpAny_bind (wpAny_typeOf hTs ?_)
  rw [if_pos (by decide)]
  refine wpAny_bind ?_
  · unfold Builtin.Slice.sliceApplied Builtin.Slice.sliceFields
    refine wpAny_bind (wpAny_bind (wpAny_field hos hds (x := vl) rfl (wpAny_bind (wpAny_field hos hds (x := vu) rfl (wpAny_bind (wpAny_field hos hds (x := vs) rfl (wpAny_pure ?_)))))))
    refine wpAny_bind (HT.slicePart_ ps ?_)
    show wpAny _ _ (if ((-1 : Int) == 0) = true then _ else _) _ _ s
    rw [if_neg (by decide)]
    refine wpAny_bind (HT.slicePart_ pl (wpAny_bind (HT.slicePart_ pu (wpAny_bind (wpAny_pure ?_)))))
    show wpAny _ _ (match Builtin.Slice.sliceAdjust none none (-1) (items.size : Int) with | (lo, hi) => pure (lo, (-1 : Int), Builtin.Slice.slicePlaces lo hi (-1))) _ _ s
    rw [adjust_rev]
    show wpAny _ _ (pure (((items.size : Nat) : Int) - 1, (-1 : Int), Builtin.Slice.slicePlaces (((items.size : Nat) : Int) - 1) (-1) (-1))) _ _ s
    rw [places_rev]
    refine wpAny_pure ?_
    have hno : ¬ (((((items.size : Nat) : Int) - 1) == 0 && (-1 : Int) == 1 && items.size == items.size) = true) := by
      intro q
      rw [Bool.and_eq_true, Bool.and_eq_true] at q
      exact absurd q.1.2 (by decide)
    show wpAny _ _ (if ((((items.size : Nat) : Int) - 1) == 0 && (-1 : Int) == 1 && items.size == items.size) = true then _ else _) _ _ s
    rw [if_neg hno, pick_rev]
    first
      | exact wpAny_bind (m := Builtin.Tuple.tupleExact _) (wpAny_newObj_type (wpAny_pure ⟨_, rfl, wpAny_pure h⟩) htake)
      | exact wpAny_bind (m := Builtin.Tuple.tupleExact _) (wpAny_newObj_type (wpAny_bind (wpAny_pure (wpAny_pure ⟨_, rfl, wpAny_pure h⟩))) htake)
      | exact wpAny_bind (wpAny_bind (m := Builtin.Tuple.tupleExact _) (wpAny_newObj_type (wpAny_pure (wpAny_pure ⟨_, rfl, wpAny_pure h⟩)) htake))
      | exact wpAny_bind (wpAny_bind (m := Builtin.Tuple.tupleExact _) (wpAny_newObj_type (wpAny_pure ⟨_, rfl, wpAny_pure h⟩) htake))
end
section
variable {X : Cx}
def tRevT (K : PySem.W.Frag) (te : TE) : TE := fun σ H Q => te σ H fun x H1 => ∃ a xs, x = .ref a ∧ ((SqL K H1 a xs ∧ ∀ p, H1 p = none → Q (.ref p) (upd H1 p (.lst xs.reverse))) ∨ (SqT K H1 a xs ∧ ∀ p, H1 p = none → Q (.ref p) (upd H1 p (.tup xs.reverse))))
theorem pe_revT {e : Expr} {te : TE} {k : Nat} {p1 p2 p3 pos : Pos} (he : PE X e te) : PE X (.Subscript e (.Slice none none (some (.UnaryOp .USub (.Constant (.int 1) k p1) p2)) p3) pos) (tRevT X.K te) := by
  refine ⟨fun pins s σ H Q I h => ?_⟩
  refine Subscript_ (thn (he.run pins s σ H _ I h) fun v s1 ⟨x, H1, I1, r1, q1⟩ => ?_)
  obtain ⟨a, xs, ex, hx⟩ := q1
  subst ex
  cases r1
  have hst : PO X (some (.UnaryOp .USub (.Constant (.int 1) k p1) p2)) (tPart (tUn (rU fun i => .int (-i)) (tC (.int 1)))) := po_some (pe_un un_neg pe_int)
  refine wpAny_Slice (thn (po_none.run pins s1 σ H1 (fun o H2 => o = none ∧ H2 = H1) I1 ⟨rfl, rfl⟩) fun vl s2 ⟨l, H2, I2, pl, el, e2⟩ => ?_)
  subst el e2
  refine thn (po_none.run pins s2 σ H2 (fun o H3 => o = none ∧ H3 = H2) I2 ⟨rfl, rfl⟩) fun vu s3 ⟨u, H3, I3, pu, eu, e3⟩ => ?_
  subst eu e3
  refine thn (hst.run pins s3 σ H3 (fun o H4 => o = some (-1) ∧ H4 = H3) I3 ⟨1, rfl, -1, rfl, rfl, rfl⟩) fun vs s4 ⟨o, H4, I4, ps, eo, e4⟩ => ?_
  subst eo e4
  have I5 : Inv X pins σ H4 { s4 with heap := s4.heap.push { cls := .type "slice", data := .fields #[vl, vu, vs] } } := I4.kept (t' := s4.toks) fun b ob q => Heap.get?_push_of_some _ q
  show wpAny (model X.prog X.w) X.A (subscriptTail e (.Slice none none (some (.UnaryOp .USub (.Constant (.int 1) k p1) p2)) p3) (.ref a) (.ref s4.heap.objs.size)) (EP X pins σ Q) X.xe { s4 with heap := s4.heap.push { cls := .type "slice", data := .fields #[vl, vu, vs] } }
  rcases hx with ⟨hx, q⟩ | ⟨hx, q⟩
  · obtain ⟨its, r, ht, hz⟩ := I5.list hx
    have hlen := r.length
    refine tail_any (ops := [.ref a, .ref s4.heap.objs.size]) ht.isList.typeIs (PySem.slot_list_getitem.lookup) ?_ (by with_unfolding_all rfl)
    refine wpAny_getItem_list_slice ht.isList (Heap.IsSliceOf.new _ vl vu vs) pl pu ps (by decide) ?_ (by rw [List.size_toArray]; omega)
    rw [PySem.W.krv_pick]
    refine ⟨.ref _, _, I5.laid (t' := s4.toks) (o := .lst xs.reverse) (fun b ob q => Heap.get?_push_of_some _ q) (Nat.le_refl _) ?_, rfl, q _ (I5.hok.fresh (Nat.le_refl _))⟩
    exact ⟨by rw [List.length_reverse]; exact hz, _, 0, r.reverse, Heap.get?_push_size _ rfl⟩
  · obtain ⟨its, r, ht, hz⟩ := I5.tuple hx
    have hlen := r.length
    refine tail_any (ops := [.ref a, .ref s4.heap.objs.size]) ht.typeIs (PyProof.Rows.slot_tuple_getitem.lookup) ?_ (by with_unfolding_all rfl)
    refine getItem_tuple_rev ht (Heap.IsSliceOf.new _ vl vu vs) pl pu ps ?_ (by rw [List.size_toArray]; omega)
    refine ⟨.ref _, _, I5.laid (t' := s4.toks) (o := .tup xs.reverse) (fun b ob q => Heap.get?_push_of_some _ q) (Nat.le_refl _) ?_, rfl, q _ (I5.hok.fresh (Nat.le_refl _))⟩
    exact ⟨by rw [List.length_reverse]; exact hz, its.reverse, r.reverse, IsTup.new _ _⟩
theorem cr_sortedPT : CallR X (.builtin "sorted") (fun vs H Q => ∃ (a : Addr) (xs : List V) (k : V → Int × Int), vs = [V.ref a] ∧ SqL X.K H a xs ∧ (∀ x ∈ xs, ∃ t, x = V.ref t ∧ SqT X.K H t [.int (k x).1, .int (k x).2]) ∧
    ∀ ys p, SrtO.Srtd (ltP k) ys → SrtO.Stb (ltP k) ys xs → H p = none → Q (.ref p) (upd H p (.lst ys))) := by
  intro pins s σ H vs us Q I r h
  obtain ⟨a, xs, k, rfl, hs, hx, q⟩ := h
  obtain ⟨its, rv, hl, hz⟩ := I.list hs
  obtain ⟨u, rfl, ru⟩ := vals1 r
  obtain rfl : u = Value.ref a := ru
  obtain ⟨e1, e2⟩ := refs_back rv fun x m => by
    obtain ⟨t, e, _⟩ := hx x m
    exact ⟨t, e⟩
  refine SrtO.sorted_pairsO (k := fun u => k (backV u)) hl.isList (by rw [← rv.length]; exact hz) (fun v hv => ?_) fun h' d out h1 h2 kp hd hn => ?_
  · obtain ⟨t, rfl⟩ := e2 v hv
    have hm : V.ref t ∈ xs := by rw [e1]; exact List.mem_map.mpr ⟨_, hv, rfl⟩
    obtain ⟨t', e, ht⟩ := hx _ hm
    cases e
    obtain ⟨its2, r2, ⟨o, ho, hc, n, hd⟩, _⟩ := I.tuple ht
    obtain ⟨u1, u2, rfl, ri, rj⟩ := vals2 r2
    obtain ⟨t1, rfl⟩ := ri
    obtain ⟨t2, rfl⟩ := rj
    exact ⟨t, o, t1, t2, n, rfl, ho, hc, hd⟩
  · have h3 : ∀ u ∈ out, ∃ a, u = Value.ref a := fun u hu => e2 u (h2.perm.mem_iff.mp hu)
    obtain ⟨n, hn⟩ := hn
    have hb : SrtO.Stb (ltP k) (out.map backV) xs := by
      rw [e1]
      exact SrtO.Stb.map (ltP_swo k) backV h2
    refine ⟨.ref d, upd H d (.lst (out.map backV)), I.laid (t' := s.toks) kp hd ⟨?_, out, n, vals_back h3, hn⟩, rfl, q _ d (SrtO.srtd_map h1) hb (I.hok.fresh hd)⟩
    rw [hb.len]
    exact hz
theorem cr_sortedPZ : CallR X (.builtin "sorted") (fun vs H Q => ∃ (a : Addr) (zs : List (V × (Int × Int))), vs = [V.ref a] ∧ SqL X.K H a (zs.map (·.1)) ∧ (∀ z ∈ zs, ∃ t, z.1 = V.ref t ∧ SqT X.K H t [.int z.2.1, .int z.2.2]) ∧
    ∀ (ws : List (V × (Int × Int))) p, ws.Perm zs → (ws.map (·.2)).Pairwise (fun x y => x.1 < y.1 ∨ x.1 = y.1 ∧ x.2 ≤ y.2) → H p = none → Q (.ref p) (upd H p (.lst (ws.map (·.1))))) := by
  intro pins s σ H vs us Q I r h
  obtain ⟨a, zs, rfl, hs, hx, q⟩ := h
  classical
  let kk : V → Int × Int := fun v => if h : ∃ (pr : Int × Int) (t : Addr), v = V.ref t ∧ SqT X.K H t [.int pr.1, .int pr.2] then h.choose else (0, 0)
  have hk : ∀ z ∈ zs, kk z.1 = z.2 := fun z m => by
    obtain ⟨t, e, ht⟩ := hx z m
    have hex : ∃ (pr : Int × Int) (t : Addr), z.1 = V.ref t ∧ SqT X.K H t [.int pr.1, .int pr.2] := ⟨z.2, t, e, ht⟩
    have hc := hex.choose_spec
    obtain ⟨t', e', ht'⟩ := hc
    have et : t = t' := by rw [e] at e'; cases e'; rfl
    subst et
    have := I.tuple_inj ht ht'
    have e1 : kk z.1 = hex.choose := dif_pos hex
    rw [e1]
    injection this with a1 a2
    injection a2 with a2 _
    injection a1 with a1
    injection a2 with a2
    exact (Prod.ext a1 a2).symm
  have ezs : zs = (zs.map (·.1)).map fun y => (y, kk y) := by
    rw [List.map_map]
    conv => lhs; rw [← List.map_id zs]
    refine List.map_congr_left fun z m => ?_
    simp only [id, Function.comp_apply, hk z m]
  refine cr_sortedPT pins s σ H _ us Q I r ⟨a, zs.map (·.1), kk, rfl, hs, fun x m => ?_, fun ys p h1 h2 hp => ?_⟩
  · obtain ⟨z, mz, rfl⟩ := List.mem_map.mp m
    obtain ⟨t, e, ht⟩ := hx z mz
    exact ⟨t, e, by rw [hk z mz]; exact ht⟩
  · have := q (ys.map fun y => (y, kk y)) p (by rw [ezs]; exact h2.perm.map _) ?_ hp
    · rw [List.map_map] at this
      have e : ys.map (((·.1) : V × (Int × Int) → V) ∘ fun y => (y, kk y)) = ys := by
        conv => rhs; rw [← List.map_id ys]
        rfl
      rw [e] at this
      exact this
    · rw [List.map_map, List.pairwise_map]
      refine List.Pairwise.imp ?_ h1
      intro x y hxy
      have := SrtO.lexB_no.mp hxy
      show (kk x).1 < (kk y).1 ∨ (kk x).1 = (kk y).1 ∧ (kk x).2 ≤ (kk y).2
      omega
end
section
variable {X : XM} {a b c e : Expr} {wa wb wc we : WE} {pos : Pos}
def mRevS (x : SV) (st : Store) (Q : SV → Store → Prop) : Prop := match x with
  | .p (.tuple ds) => Q (.p (.tuple ds.reverse)) st
  | x => ∃ ds : List PyData, listOf st x = some (ds.map SV.p) ∧ Q (.p (.list ds.reverse)) st
def wRevS (we : WE) : WE := fun env st Q => we env st fun x s => mRevS x s Q
theorem Rps.rev' {K : PySem.W.Frag} {F : Hp} {cs : List Addr} : ∀ {xs : List SV} {vs : List V}, Rps K F cs xs vs → Rps K F cs xs.reverse vs.reverse
  | [], _, h => by cases h; exact .nil
  | x :: xs, _, h => by
    cases h with
    | cons h1 h2 =>
      rw [List.reverse_cons, List.reverse_cons]
      exact (Rps.rev' h2).append (.cons h1 .nil)
theorem se_revS {k : Nat} {p1 p2 p3 : Pos} (he : SE X e we) : SE X (.Subscript e (.Slice none none (some (.UnaryOp .USub (.Constant (.int 1) k p1) p2)) p3) pos) (wRevS we) := by
  obtain ⟨t, p, k⟩ := he
  refine ⟨_, pe_revT p, fun F cs σ H env st Q R er hs h kk => k F cs σ H env st _ _ er hs h ?_⟩
  rintro v H1 ⟨F1, c1, d, s1, e1, e2, h1, r1, q⟩
  have kk' : ∀ v H', Post X F1 c1 Q v H' → R v H' := fun v H' p => kk v H' (p.up e1 e2)
  unfold mRevS at q
  split at q
  · rename_i ds
    obtain ⟨a, vs, rfl, ht, dd⟩ := rp_tupP r1
    have r4 : Rps X.K F1 c1 (ds.map SV.p) vs := rps_p.mpr dd
    refine ⟨a, vs, rfl, .inr ⟨sqT_mono h1.sub ht, fun p hp => kk' _ _ (new_tup h1 hp r4.rev' ?_)⟩⟩
    rw [← List.map_reverse]
    unfold mkTup
    rw [allP_map]
    exact q
  · obtain ⟨ds, el, q⟩ := q
    obtain ⟨a, vs, rfl, hA, r4⟩ := rp_list h1 r1 el
    refine ⟨a, vs, rfl, .inl ⟨.inl (.inl hA), fun p hp => kk' _ _ (new_list h1 hp ?_ q)⟩⟩
    rw [List.map_reverse]
    exact r4.rev'
def wListRev (we : WE) : WE := fun env st Q => we env st fun x s => ∃ ds : List PyData, listOf s x = some (ds.map SV.p) ∧ Q (.p (.list ds.reverse)) s
theorem se_listRev {p p2 pos2 : Pos} (hg : Gl X "list") (hm : X.mg "list" = none) (hg2 : Gl X "reversed") (hm2 : X.mg "reversed" = none) (he : SE X e we) (hc : X.calm = true := by rfl)
    (hs : starEach [e] X.env = (false, eval e X.env) :: starEach [] X.env := by rfl)
    (hs2 : starEach [.Call (.Name "reversed" p2) [e] [] pos2] X.env = (false, eval (.Call (.Name "reversed" p2) [e] [] pos2) X.env) :: starEach [] X.env := by rfl) :
    SE X (.Call (.Name "list" p) [.Call (.Name "reversed" p2) [e] [] pos2] [] pos) (wListRev we) := by
  obtain ⟨t, pe, k⟩ := he
  refine ⟨_, pe_lstRev hc hg hm hg2 hm2 pe hs hs2, fun F cs σ H env st Q R er hs h kk => k F cs σ H env st _ _ er hs h ?_⟩
  rintro v H1 ⟨F1, c1, d, s1, e1, e2, h1, r1, ds, el, q⟩
  obtain ⟨a, vs, rfl, hA, r4⟩ := rp_list h1 r1 el
  refine ⟨a, vs, rfl, .inl (.inl hA), fun p hp => kk _ _ ((new_list h1 hp ?_ q).up e1 e2)⟩
  rw [List.map_reverse]
  exact r4.rev'
def mMulT : M2 := fun x y st Q => ∃ ds k, x = .p (.tuple ds) ∧ y = .p (.int k) ∧ ds ≠ [] ∧ 2 ≤ k ∧ k ≤ 1000 ∧ ds.length ≤ 1000 ∧ Q (.p (.tuple (List.replicate k.toNat ds).flatten)) st
theorem om_mulT : OpM X (binaryOp .Mult) mMulT := by
  refine ⟨_, op_repT, fun F cs H st x y v u Q R hs rx ry q k => ?_⟩
  obtain ⟨ds, i, rfl, rfl, hne, h1, h2, hl, q⟩ := q
  obtain ⟨a, vs, rfl, ht, dd⟩ := rp_tupP rx
  have r4 : Rps X.K F cs (ds.map SV.p) vs := rps_p.mpr dd
  have hl4 := r4.length
  rw [List.length_map] at hl4
  refine ⟨a, i, vs, rfl, rp_int ry, sqT_mono hs.sub ht, fun e => ?_, h1, h2, by omega, fun p hp => k _ _ (new_tup hs hp (r4.rep _) ?_)⟩
  · subst e
    exact hne (List.length_eq_zero_iff.mp hl4)
  · rw [← List.map_replicate, ← List.map_flatten]
    unfold mkTup
    rw [allP_map]
    exact q
def mAddC : M2 := fun x y st Q => ∃ xs ys, listOf st x = some xs ∧ listOf st y = some ys ∧ xs.length + ys.length ≤ sizeLine ∧ Q (.c st.length) (st ++ [.lst (xs ++ ys)])
theorem om_addC : OpM X (binaryOp .Add) mAddC := by
  refine ⟨_, op_cat, fun F cs H st x y v u Q R hs rx ry q k => ?_⟩
  obtain ⟨xs, ys, e1, e2, hl, q⟩ := q
  obtain ⟨a, vs, rfl, h1, r1⟩ := rp_list hs rx e1
  obtain ⟨b, ws, rfl, h2, r2⟩ := rp_list hs ry e2
  exact ⟨a, b, vs, ws, rfl, rfl, h1, h2, by rw [← r1.length, ← r2.length]; exact hl, fun p hp => k _ _ (new_cell hs hp (r1.append r2) q)⟩
def mSorted : MC := fun xs st Q => match xs with
  | [x] => ∃ ns, intsOf st x ns ∧ ∀ ms : List Int, ms.Perm ns → ms.Pairwise (· ≤ ·) → Q (.p (.list (ms.map PyData.int))) st
  | _ => False
theorem cm_sorted : CallM X (.builtin "sorted") mSorted := by
  refine ⟨_, cr_sortedI, fun F cs H st xs vs Q R hs rx q k => ?_⟩
  unfold mSorted at q
  split at q
  · obtain ⟨v, rfl, r⟩ := rps1 rx
    obtain ⟨ns, e, q⟩ := q
    obtain ⟨a, ws, rfl, hA, r2⟩ := rp_list hs r e
    have e2 := vints r2
    subst e2
    exact ⟨a, ns, rfl, .inl (.inl hA), fun ms p hp hs' hn => k _ _ (new_list hs hn (rps_ints ms) (q ms hp hs'))⟩
  · exact q.elim
def prD (p : Int × Int) : PyData := .tuple [.int p.1, .int p.2]
def mSortedP : MC := fun xs st Q => match xs with
  | [x] => ∃ ps : List (Int × Int), listOf st x = some ((ps.map prD).map SV.p) ∧ ∀ qs : List (Int × Int), qs.Perm ps → qs.Pairwise (fun x y => x.1 < y.1 ∨ x.1 = y.1 ∧ x.2 ≤ y.2) → Q (.p (.list (qs.map prD))) st
  | _ => False
theorem rps_pairs {F : Hp} {cs : List Addr} : ∀ {ps : List (Int × Int)} {vs : List V}, Rps X.K F cs ((ps.map prD).map SV.p) vs → ∃ zs : List (V × (Int × Int)), zs.map (·.1) = vs ∧ zs.map (·.2) = ps ∧ ∀ z ∈ zs, (∃ t, z.1 = V.ref t ∧ SqT X.K F t [.int z.2.1, .int z.2.2]) ∧ Dq X.K F z.1 (prD z.2)
  | [], vs, h => by cases h; exact ⟨[], rfl, rfl, fun z m => by simp at m⟩
  | p :: ps, _, h => by
    cases h with
    | @cons _ _ v vs h1 h2 =>
      obtain ⟨zs, e1, e2, e3⟩ := rps_pairs h2
      refine ⟨(v, p) :: zs, by simp [e1], by simp [e2], fun z m => ?_⟩
      rcases List.mem_cons.mp m with rfl | m
      · cases h1 with
        | p h1 =>
          refine ⟨?_, h1⟩
          cases h1 with
          | tup hT hD =>
            cases hD with
            | cons a1 a2 =>
              cases a2 with
              | cons b1 b2 =>
                cases a1
                cases b1
                cases b2
                exact ⟨_, rfl, hT⟩
      · exact e3 z m
theorem rps_of_pairs {F : Hp} {cs : List Addr} : ∀ {ws : List (V × (Int × Int))}, (∀ z ∈ ws, Dq X.K F z.1 (prD z.2)) → Rps X.K F cs (((ws.map (·.2)).map prD).map SV.p) (ws.map (·.1))
  | [], _ => .nil
  | w :: ws, h => .cons (.p (h w List.mem_cons_self)) (rps_of_pairs fun z m => h z (List.mem_cons_of_mem _ m))
theorem cm_sortedP : CallM X (.builtin "sorted") mSortedP := by
  refine ⟨_, cr_sortedPZ, fun F cs H st xs vs Q R hs rx q k => ?_⟩
  unfold mSortedP at q
  split at q
  · obtain ⟨v, rfl, r⟩ := rps1 rx
    obtain ⟨ps, e, q⟩ := q
    obtain ⟨a, ws, rfl, hA, r2⟩ := rp_list hs r e
    obtain ⟨zs, z1, z2, z3⟩ := rps_pairs r2
    subst z1 z2
    refine ⟨a, zs, rfl, .inl (.inl hA), fun z m => ?_, fun us p hp hs' hn => k _ _ (new_list hs hn ?_ (q (us.map (·.2)) (hp.map _) hs'))⟩
    · obtain ⟨⟨t, e1, e2⟩, _⟩ := z3 z m
      exact ⟨t, e1, sqT_mono hs.sub e2⟩
    · exact rps_of_pairs fun z m => (z3 z (hp.mem_iff.mp m)).2
  · exact q.elim
def dctT (ks : List Int) : MO := .dct (ks.map fun k => (Sum.inl k, SV.p (.bool true)))
def kwsT (ks : List Int) : List (Key × V) := ks.map fun k => (Sum.inl k, V.bl true)
def insI (ks : List Int) (k : Int) : List Int := if k ∈ ks then ks else ks ++ [k]
theorem dct_at {K : PySem.W.Frag} {F : Hp} {cs : List Addr} {H : Hp} {a : Addr} {ks : List Int} (h : CellAt K F cs H a (dctT ks)) : H a = some (.dK (kwsT ks)) := by
  obtain ⟨kws, e, h1, h2⟩ := h
  have : kws = kwsT ks := go kws ks h1 h2
  rw [this] at e
  exact e
where
  go : ∀ (kws : List (Key × V)) (ks : List Int), kws.map (·.1) = (ks.map fun k => ((Sum.inl k : Key), SV.p (.bool true))).map (·.1) → Rps K F cs ((ks.map fun k => ((Sum.inl k : Key), SV.p (.bool true))).map (·.2)) (kws.map (·.2)) → kws = kwsT ks
    | [], [], _, _ => rfl
    | [], k :: ks, h, _ => by simp at h
    | w :: kws, [], h, _ => by simp at h
    | w :: kws, k :: ks, h, r => by
      simp only [List.map_cons] at h r
      injection h with h1 h2
      cases r with
      | cons r1 r2 =>
        have e := rp_bool r1
        have := go kws ks h2 r2
        rw [this]
        obtain ⟨w1, w2⟩ := w
        simp only at h1 e
        subst h1 e
        rfl
theorem dct_mk {K : PySem.W.Frag} {F : Hp} {cs : List Addr} {H : Hp} {a : Addr} {ks : List Int} (h : H a = some (.dK (kwsT ks))) : CellAt K F cs H a (dctT ks) := by
  refine ⟨kwsT ks, h, by simp [kwsT], ?_⟩
  clear h
  induction ks with
  | nil => exact .nil
  | cons k ks ih => exact .cons (.p (.bl true)) ih
theorem kws_any (ks : List Int) (k : Int) : ((kwsT ks).any fun kv => decide (kv.1 = Sum.inl k)) = decide (k ∈ ks) := by
  induction ks with
  | nil => rfl
  | cons j ks ih =>
    have e : kwsT (j :: ks) = (Sum.inl j, V.bl true) :: kwsT ks := rfl
    rw [e, List.any_cons, ih]
    by_cases h : j = k
    · subst h; simp
    · have h2 : ¬ ((Sum.inl j : Key) = Sum.inl k) := fun q => h (by injection q)
      have h3 : ¬ k = j := fun q => h q.symm
      simp [h2, h3]
theorem kws_put (ks : List Int) (k : Int) : putK (kwsT ks) (Sum.inl k) (V.bl true) = kwsT (insI ks k) := by
  unfold putK insI
  rw [kws_any]
  by_cases h : k ∈ ks
  · rw [if_pos h]
    rw [if_pos (by simpa using h)]
    unfold kwsT
    rw [List.map_map]
    refine List.map_congr_left fun j _ => ?_
    simp only [Function.comp_apply]
    split
    · rfl
    · rfl
  · rw [if_neg h, if_neg (by simpa using h)]
    simp [kwsT]
theorem kws_val (ks : List Int) (k : Int) : (valV (kwsT ks) (Sum.inl k)).isSome = decide (k ∈ ks) := by rw [← valV_any, kws_any]
theorem kws_len (ks : List Int) : (kwsT ks).length = ks.length := by simp [kwsT]
def setI (ks : List Int) : List Int := ks.foldl insI []
theorem kws_merge : ∀ (ks acc : List Int), mergeK (kwsT acc) (kwsT ks) = kwsT (ks.foldl insI acc)
  | [], _ => rfl
  | k :: ks, acc => by
    show mergeK (putK (kwsT acc) (Sum.inl k) (V.bl true)) (kwsT ks) = _
    rw [kws_put, kws_merge ks]
    rfl
def wDNew : WE := fun _ st Q => Q (.c st.length) (st ++ [dctT []])
theorem new_cellO {F : Hp} {cs : List Addr} {H : Hp} {st : Store} {p : Addr} {o : HO} {m : MO} (hs : HS X.K F cs H st) (hp : H p = none) (r : CellAt X.K F (cs ++ [p]) (upd H p o) p m) {Q : SV → Store → Prop} (q : Q (.c st.length) (st ++ [m])) : Post X F cs Q (.ref p) (upd H p o) := by
  refine ⟨F, cs ++ [p], _, _, Same.refl _, List.prefix_append _ _, hs.new (m := m) hp r, .c ?_, q⟩
  rw [← hs.len, List.getElem?_append_right (Nat.le_refl _)]
  simp
theorem se_dnew : SE X (.Dict [] [] pos) wDNew := by
  refine ⟨_, pe_dnewK, fun F cs σ H env st Q R er hs h k => fun p hp => k _ _ (new_cellO hs hp (dct_mk (ks := []) upd_same) h)⟩
def wDIn (wa wb : WE) : WE := fun env st Q => wa env st fun y s1 => wb env s1 fun x s2 => ∃ n ks k, x = .c n ∧ y = .p (.int k) ∧ s2[n]? = some (dctT ks) ∧ Q (.p (.bool (decide (k ∈ ks)))) s2
def wDNotIn (wa wb : WE) : WE := fun env st Q => wa env st fun y s1 => wb env s1 fun x s2 => ∃ n ks k, x = .c n ∧ y = .p (.int k) ∧ s2[n]? = some (dctT ks) ∧ Q (.p (.bool (!decide (k ∈ ks)))) s2
theorem din_run {ta tb : TE} {F : Hp} {cs : List Addr} {σ : L2.St} {H : Hp} {env : M.Env} {st : Store} {Q : SV → Store → Prop} {R : VK}
    (ka : ∀ (F : Hp) (cs : List Addr) (σ : L2.St) (H : Hp) (env : M.Env) (st : Store) (Q : SV → Store → Prop) (R : VK), ER X F cs σ env → HS X.K F cs H st → wa env st Q → (∀ v H', Post X F cs Q v H' → R v H') → ta σ H R)
    (kb : ∀ (F : Hp) (cs : List Addr) (σ : L2.St) (H : Hp) (env : M.Env) (st : Store) (Q : SV → Store → Prop) (R : VK), ER X F cs σ env → HS X.K F cs H st → wb env st Q → (∀ v H', Post X F cs Q v H' → R v H') → tb σ H R)
    (er : ER X F cs σ env) (hs : HS X.K F cs H st) (h : wDIn wa wb env st Q) (k : ∀ v H', Post X F cs Q v H' → R v H') : tDIn ta tb σ H R := by
  refine ka F cs σ H env st _ _ er hs h ?_
  rintro y H1 ⟨F1, c1, d1, s1, a1, b1, h1, r1, q1⟩
  refine kb F1 c1 σ H1 env s1 _ _ (er.mono a1 b1) h1 q1 ?_
  rintro x H2 ⟨F2, c2, d2, s2, a2, b2, h2, r2, n, ks, i, rfl, rfl, ek, q2⟩
  cases r2 with
  | @c _ ad ca =>
    have hd := dct_at (h2.cell n ad _ ca ek)
    refine ⟨ad, valV (kwsT ks) (Sum.inl i), rfl, ?_, ?_⟩
    · have := DGet.k (k := (Sum.inl i : Key)) hd
      rw [rp_int r1]
      exact this
    · rw [kws_val]
      exact k _ _ ⟨F2, c2, _, s2, a1.trans a2, b1.trans b2, h2, .p (.bl _), q2⟩
theorem dnotin_run {ta tb : TE} {F : Hp} {cs : List Addr} {σ : L2.St} {H : Hp} {env : M.Env} {st : Store} {Q : SV → Store → Prop} {R : VK}
    (ka : ∀ (F : Hp) (cs : List Addr) (σ : L2.St) (H : Hp) (env : M.Env) (st : Store) (Q : SV → Store → Prop) (R : VK), ER X F cs σ env → HS X.K F cs H st → wa env st Q → (∀ v H', Post X F cs Q v H' → R v H') → ta σ H R)
    (kb : ∀ (F : Hp) (cs : List Addr) (σ : L2.St) (H : Hp) (env : M.Env) (st : Store) (Q : SV → Store → Prop) (R : VK), ER X F cs σ env → HS X.K F cs H st → wb env st Q → (∀ v H', Post X F cs Q v H' → R v H') → tb σ H R)
    (er : ER X F cs σ env) (hs : HS X.K F cs H st) (h : wDNotIn wa wb env st Q) (k : ∀ v H', Post X F cs Q v H' → R v H') : tDNotIn ta tb σ H R := by
  refine ka F cs σ H env st _ _ er hs h ?_
  rintro y H1 ⟨F1, c1, d1, s1, a1, b1, h1, r1, q1⟩
  refine kb F1 c1 σ H1 env s1 _ _ (er.mono a1 b1) h1 q1 ?_
  rintro x H2 ⟨F2, c2, d2, s2, a2, b2, h2, r2, n, ks, i, rfl, rfl, ek, q2⟩
  cases r2 with
  | @c _ ad ca =>
    have hd := dct_at (h2.cell n ad _ ca ek)
    refine ⟨ad, valV (kwsT ks) (Sum.inl i), rfl, ?_, ?_⟩
    · have := DGet.k (k := (Sum.inl i : Key)) hd
      rw [rp_int r1]
      exact this
    · rw [kws_val]
      exact k _ _ ⟨F2, c2, _, s2, a1.trans a2, b1.trans b2, h2, .p (.bl _), q2⟩
theorem se_din (hu : X.A.units + 1 < cLine) (ha : SE X a wa) (hb : SE X b wb) (hmk : behindInMarks .In b = false := by first | exact nomark _ | rfl) : SE X (.Compare a [.In] [b] pos) (wDIn wa wb) := by
  obtain ⟨ta, pa, ka⟩ := ha
  obtain ⟨tb, pb, kb⟩ := hb
  exact ⟨_, pe_cmp (pc_din hu pa pb) hmk, fun F cs σ H env st Q R er hs h k => din_run ka kb er hs h k⟩
theorem se_dnotin (hu : X.A.units + 1 < cLine) (ha : SE X a wa) (hb : SE X b wb) (hmk : behindInMarks .NotIn b = false := by first | exact nomark _ | rfl) : SE X (.Compare a [.NotIn] [b] pos) (wDNotIn wa wb) := by
  obtain ⟨ta, pa, ka⟩ := ha
  obtain ⟨tb, pb, kb⟩ := hb
  exact ⟨_, pe_cmp (pc_dnotin hu pa pb) hmk, fun F cs σ H env st Q R er hs h k => dnotin_run ka kb er hs h k⟩
theorem st_din (hu : X.A.units + 1 < cLine) (ha : SE X a wa) (hb : SE X b wb) (hmk : behindInMarks .In b = false := by first | exact nomark _ | rfl) : STt X (.Compare a [.In] [b] pos) (wTest (wDIn wa wb)) := by
  obtain ⟨ta, pa, ka⟩ := ha
  obtain ⟨tb, pb, kb⟩ := hb
  refine ⟨_, pt_cmp (pc_din hu pa pb) hmk, fun F cs σ H env st Q R er hs h k => din_run ka kb er hs h ?_⟩
  rintro v H' ⟨F1, c1, d, s1, e1, e2, h1, r1, b', rfl, q⟩
  exact ⟨b', rp_bool r1, k _ _ ⟨F1, c1, s1, e1, e2, h1, q⟩⟩
theorem st_dnotin (hu : X.A.units + 1 < cLine) (ha : SE X a wa) (hb : SE X b wb) (hmk : behindInMarks .NotIn b = false := by first | exact nomark _ | rfl) : STt X (.Compare a [.NotIn] [b] pos) (wTest (wDNotIn wa wb)) := by
  obtain ⟨ta, pa, ka⟩ := ha
  obtain ⟨tb, pb, kb⟩ := hb
  refine ⟨_, pt_cmp (pc_dnotin hu pa pb) hmk, fun F cs σ H env st Q R er hs h k => dnotin_run ka kb er hs h ?_⟩
  rintro v H' ⟨F1, c1, d, s1, e1, e2, h1, r1, b', rfl, q⟩
  exact ⟨b', rp_bool r1, k _ _ ⟨F1, c1, s1, e1, e2, h1, q⟩⟩
def wDPut (wv wo wi : WE) : WS := fun D env s => wv env s fun z s1 => wo env s1 fun x s2 => wi env s2 fun y s3 => ∃ n ks k, z = .p (.bool true) ∧ x = .c n ∧ y = .p (.int k) ∧ s3[n]? = some (dctT ks) ∧ ks.length < sizeLine ∧ D.nx env (s3.set n (dctT (insI ks k)))
theorem ss_dput {pos' : Pos} (hu : X.A.units + 1 < cLine) (hv : SE X c wc) (ho : SE X a wa) (hi : SE X b wb) (hsw : swapsWith c (some (.Subscript a b pos')) pos.line X.env = pure false := by rfl) : SS X (.Assign [.Subscript a b pos'] c pos) (wDPut wc wa wb) := by
  obtain ⟨tv, pv, kv⟩ := hv
  obtain ⟨to, po, ko⟩ := ho
  obtain ⟨ti, pi, ki⟩ := hi
  refine ⟨_, ps_dput hu po pi pv hsw, fun F cs0 cs σ H env st D E hcs hl er hs h g => ?_⟩
  refine kv F cs σ H env st _ _ er hs h ?_
  rintro v1 H1 ⟨F1, c1, d1, s1, a1, b1, h1, r1, q1⟩
  refine ko F1 c1 σ H1 env s1 _ _ (er.mono a1 b1) h1 q1 ?_
  rintro v2 H2 ⟨F2, c2, d2, s2, a2, b2, h2, r2, q2⟩
  refine ki F2 c2 σ H2 env s2 _ _ ((er.mono a1 b1).mono a2 b2) h2 q2 ?_
  rintro v3 H3 ⟨F3, c3, d3, s3, a3, b3, h3, r3, n, ks, k, rfl, rfl, rfl, ek, hlt, q3⟩
  cases r2 with
  | @c _ ad ca =>
    have ca3 := pre_get b3 ca
    have hd := dct_at (h3.cell n ad _ ca3 ek)
    have e1 : v1 = .bl true := rp_bool r1
    have e3 : v3 = .int k := rp_int r3
    subst e1 e3
    refine ⟨ad, upd H3 ad (.dK (kwsT (insI ks k))), rfl, ?_, ?_⟩
    · have := DPut.k (k := (Sum.inl k : Key)) (v := V.bl true) hd (by rw [kws_len]; exact hlt)
      rw [kws_put] at this
      exact this
    · exact g.nx F3 c3 σ _ env _ ((a1.trans a2).trans a3) ((hcs.trans b1).trans (b2.trans b3)) (((er.mono a1 b1).mono a2 b2).mono a3 b3) (h3.write (m := dctT (insI ks k)) ca3 (dct_mk upd_same)) q3
def mLenD : MC := fun xs st Q => ∃ n ks, xs = [.c n] ∧ st[n]? = some (dctT ks) ∧ Q (.p (.int ks.length)) st
theorem cm_lenD : CallM X (.builtin "len") mLenD := by
  refine ⟨_, call_lenD, fun F cs H st xs vs Q R hs rx q k => ?_⟩
  obtain ⟨n, ks, rfl, ek, q⟩ := q
  obtain ⟨v, rfl, r⟩ := rps1 rx
  cases r with
  | @c _ ad ca =>
    refine ⟨ad, kwsT ks, rfl, dct_at (hs.cell n ad _ ca ek), ?_⟩
    rw [kws_len]
    exact k _ _ (.mk hs (.p (.int _)) q)
def prT (k : Int) : PyData := .tuple [.int k, .bool true]
def mDict : MC := fun xs st Q => match xs with
  | [x] => ∃ ks : List Int, listOf st x = some ((ks.map prT).map SV.p) ∧ Q (.c st.length) (st ++ [dctT (setI ks)])
  | _ => False
theorem rps_truths {F : Hp} {cs : List Addr} : ∀ {ks : List Int} {vs : List V}, Rps X.K F cs ((ks.map prT).map SV.p) vs → ∃ ps : List Addr, vs = ps.map V.ref ∧ Paired (fun p kv => SqT X.K F p [kV kv.1, kv.2]) ps (kwsT ks)
  | [], vs, h => by cases h; exact ⟨[], rfl, .nil⟩
  | k :: ks, _, h => by
    cases h with
    | @cons _ _ v vs h1 h2 =>
      obtain ⟨ps, e1, e2⟩ := rps_truths h2
      cases h1 with
      | p h1 =>
        cases h1 with
        | @tup a xs _ hT hD =>
          cases hD with
          | cons a1 a2 =>
            cases a2 with
            | cons b1 b2 =>
              cases a1
              cases b1
              cases b2
              exact ⟨a :: ps, by rw [e1]; rfl, .cons hT e2⟩
theorem paired_mono {F H : Hp} (e : Same F H) : ∀ {ps : List Addr} {kvs : List (Key × V)}, Paired (fun p kv => SqT X.K F p [kV kv.1, kv.2]) ps kvs → Paired (fun p kv => SqT X.K H p [kV kv.1, kv.2]) ps kvs
  | _, _, .nil => .nil
  | _, _, .cons h t => .cons (sqT_mono e h) (paired_mono e t)
theorem cm_dict (hc : X.calm = true) : CallM X (.type "dict") mDict := by
  refine ⟨_, call_dictP hc, fun F cs H st xs vs Q R hs rx q k => ?_⟩
  unfold mDict at q
  split at q
  · obtain ⟨v, rfl, r⟩ := rps1 rx
    obtain ⟨ks, e, q⟩ := q
    obtain ⟨a, ws, rfl, hA, r2⟩ := rp_list hs r e
    obtain ⟨ps, rfl, hp⟩ := rps_truths r2
    refine ⟨a, ps, kwsT ks, rfl, .inl (.inl hA), paired_mono hs.sub hp, fun p hn => ?_⟩
    have e : mergeK [] (kwsT ks) = kwsT (setI ks) := kws_merge ks []
    rw [e]
    exact k _ _ (new_cellO hs hn (dct_mk upd_same) q)
  · exact q.elim
end
section
variable {x y : SV} {env : M.Env} {st : Store} {Q : SV → Store → Prop} {wa wb wc we : WE}
theorem e_revs (we : WE) : wRevS we env st Q = we env st fun x s => mRevS x s Q := rfl
theorem m_revt (ds : List PyData) : mRevS (.p (.tuple ds)) st Q = Q (.p (.tuple ds.reverse)) st := rfl
theorem m_revl (ds : List PyData) : mRevS (.p (.list ds)) st Q = Q (.p (.list ds.reverse)) st := by
  show (∃ es : List PyData, listOf st (.p (.list ds)) = some (es.map SV.p) ∧ Q (.p (.list es.reverse)) st) = _
  simp [l_l, map_p_inj]
theorem e_listrev (we : WE) : wListRev we env st Q = we env st fun x s => ∃ ds : List PyData, listOf s x = some (ds.map SV.p) ∧ Q (.p (.list ds.reverse)) s := rfl
theorem m_mult (ds : List PyData) (k : Int) : mMulT (.p (.tuple ds)) (.p (.int k)) st Q = (ds ≠ [] ∧ 2 ≤ k ∧ k ≤ 1000 ∧ ds.length ≤ 1000 ∧ Q (.p (.tuple (List.replicate k.toNat ds).flatten)) st) := by
  unfold mMulT
  simp
theorem m_addc : mAddC x y st Q = ∃ xs ys, listOf st x = some xs ∧ listOf st y = some ys ∧ xs.length + ys.length ≤ sizeLine ∧ Q (.c st.length) (st ++ [.lst (xs ++ ys)]) := rfl
theorem e_dnew : wDNew env st Q = Q (.c st.length) (st ++ [dctT []]) := rfl
theorem e_din (wa wb : WE) : wDIn wa wb env st Q = wa env st fun y s1 => wb env s1 fun x s2 => ∃ n ks k, x = .c n ∧ y = .p (.int k) ∧ s2[n]? = some (dctT ks) ∧ Q (.p (.bool (decide (k ∈ ks)))) s2 := rfl
theorem e_dnotin (wa wb : WE) : wDNotIn wa wb env st Q = wa env st fun y s1 => wb env s1 fun x s2 => ∃ n ks k, x = .c n ∧ y = .p (.int k) ∧ s2[n]? = some (dctT ks) ∧ Q (.p (.bool (!decide (k ∈ ks)))) s2 := rfl
theorem s_dput (wv wo wi : WE) (D : ME) : wDPut wv wo wi D env st = wv env st fun z s1 => wo env s1 fun x s2 => wi env s2 fun y s3 => ∃ n ks k, z = .p (.bool true) ∧ x = .c n ∧ y = .p (.int k) ∧ s3[n]? = some (dctT ks) ∧ ks.length < sizeLine ∧ D.nx env (s3.set n (dctT (insI ks k))) := rfl
theorem m_lend (n : Nat) : mLenD [.c n] st Q = ∃ ks, st[n]? = some (dctT ks) ∧ Q (.p (.int ks.length)) st := by
  unfold mLenD
  apply propext
  constructor
  · rintro ⟨m, ks, e, h⟩
    cases e
    exact ⟨ks, h⟩
  · rintro ⟨ks, h⟩
    exact ⟨n, ks, rfl, h⟩
theorem m_rvs (n : Nat) (xs : List SV) : mReverse n xs [] st Q = Q (.p .none) (st.set n (.lst xs.reverse)) := by unfold mReverse; simp
theorem m_pop0 (n : Nat) (xs : List SV) : mPop n xs [] st Q = ∃ y, xs[xs.length - 1]? = some y ∧ Q y (st.set n (.lst xs.dropLast)) := by unfold mPop; simp
theorem m_ext1 (n : Nat) (xs : List SV) : mExtend n xs [y] st Q = ∃ zs, listOf st y = some zs ∧ xs.length + zs.length ≤ sizeLine ∧ Q (.p .none) (st.set n (.lst (xs ++ zs))) := rfl
theorem dct_inj {a b : List Int} : dctT a = dctT b ↔ a = b := by
  constructor
  · intro h
    unfold dctT at h
    injection h with h
    have := congrArg (List.map fun z : Key × SV => match z.1 with | .inl k => k | .inr _ => 0) h
    simp only [List.map_map] at this
    have e : ((fun z : Key × SV => match z.1 with | .inl k => k | .inr _ => 0) ∘ fun k : Int => ((Sum.inl k : Key), SV.p (.bool true))) = id := rfl
    rw [e, List.map_id, List.map_id] at this
    exact this
  · rintro rfl; rfl
theorem mem_insI {ks : List Int} {k j : Int} : j ∈ insI ks k ↔ j ∈ ks ∨ j = k := by
  unfold insI
  split
  · constructor
    · exact .inl
    · rintro (h | rfl)
      · exact h
      · assumption
  · simp
theorem mem_foldI : ∀ (ks acc : List Int) (j : Int), j ∈ ks.foldl insI acc ↔ j ∈ acc ∨ j ∈ ks
  | [], acc, j => by simp
  | k :: ks, acc, j => by
    rw [List.foldl_cons, mem_foldI ks, mem_insI]
    simp [or_assoc]
theorem mem_setI {ks : List Int} {j : Int} : j ∈ setI ks ↔ j ∈ ks := by unfold setI; rw [mem_foldI]; simp
theorem nd_insI {ks : List Int} (h : ks.Nodup) (k : Int) : (insI ks k).Nodup := by
  unfold insI
  split
  · exact h
  · rename_i hk
    rw [List.nodup_append]
    exact ⟨h, by simp, fun a ha b hb e => by simp at hb; subst hb; subst e; exact hk ha⟩
theorem len_insI (ks : List Int) (k : Int) : (insI ks k).length ≤ ks.length + 1 := by
  unfold insI
  split <;> simp
end
theorem for_expr {we : WE} {g : WG} {b : WS} {D : ME} {env : M.Env} {st : Store} (h : we env st fun x s => wFor (wiSeq (wC x)) g b D env s) : wFor (wiSeq we) g b D env st := h
theorem cutL_mem {α : Type} {xs : List α} {lo hi : Option Int} {a : α} (h : a ∈ cutL xs lo hi) : a ∈ xs := by
  unfold cutL at h
  exact List.mem_of_mem_drop (List.mem_of_mem_take h)
theorem cutL_le {α : Type} (xs : List α) (lo hi : Option Int) : (cutL xs lo hi).length ≤ xs.length := by
  unfold cutL
  rw [List.length_take, List.length_drop]; omega
theorem lc_r1 {we : WE} {g : WG} {tt : WT} {wE : WE} {vs : List Nat} {env : M.Env} {st : Store} {Q : SV → Store → Prop} (h : we env st fun x s => wLc (wiR1 (aCons (wC x) aNil)) g tt wE vs env s Q) : wLc (wiR1 (aCons we aNil)) g tt wE vs env st Q := h
theorem dct_under (n : Nat) : ∀ ks : List Int, (dctT ks).under n = true
  | [] => rfl
  | k :: ks => by
    have := dct_under n ks
    show (SV.under n (.p (.bool true)) && _) = true
    exact this
end M

namespace M
open PySem PySem.Spec PyProof.Rows L2
section
variable {X : XM} {pos : Pos}
def gTl (n : Nat) (gs : WGs) : WG := fun d env st Q => ∃ xs, listOf st d = some xs ∧ xs.length = n ∧ gs xs env st Q
theorem sg_lst {es : List Expr} {k : Nat} {gs : WGs} {n : Nat} (hc : X.calm = true) (h : SGs X es gs) (hn : (assignEach es X.env).length = n := by rfl) (hst : (assignEach es X.env).findIdx? (·.1) = none := by rfl) : SG X (.Tuple es k pos) (gTl n gs) := by
  obtain ⟨t, p, kk⟩ := h
  refine ⟨_, pg_unl hc p hn hst, fun F cs σ H env st d v Q R er hs r q k2 => ?_⟩
  obtain ⟨xs, e, hl, q⟩ := q
  obtain ⟨a, vs, rfl, ht, rs⟩ := rp_list hs r e
  exact ⟨a, vs, rfl, .inl (.inl ht), rs.length.symm.trans hl, kk F cs σ H env st xs vs Q R er hs rs q k2⟩
end
theorem g_tl {n : Nat} {gs : WGs} {d : SV} {env : M.Env} {st : Store} {Q : M.Env → Store → Prop} : gTl n gs d env st Q = ∃ xs, listOf st d = some xs ∧ xs.length = n ∧ gs xs env st Q := rfl
end M

namespace M
open PySem PySem.Spec PyProof.Rows L2
def putS (f : Str) (v : SV) : List (Str × SV) → List (Str × SV)
  | [] => [(f, v)]
  | (g, x) :: r => if g = f then (g, v) :: r else (g, x) :: putS f v r
section
variable {K : PySem.W.Frag} {F : Hp} {cs : List Addr}
theorem fld_get {f : Str} : ∀ {fs : List (Str × SV)} {gs : List (Str × V)} {d : SV}, gs.map (·.1) = fs.map (·.1) → Rps K F cs (fs.map (·.2)) (gs.map (·.2)) → fs.lookup f = some d → ∃ v, gs.lookup f = some v ∧ Rp K F cs d v
  | [], _, _, _, _, e => by cases e
  | (k, x) :: fs, [], _, hk, _, _ => by simp at hk
  | (k, x) :: fs, (k2, y) :: gs, d, hk, r, e => by
    simp only [List.map_cons, List.cons.injEq] at hk
    obtain ⟨rfl, hk⟩ := hk
    cases r with
    | cons r1 r2 =>
      rw [List.lookup_cons] at e ⊢
      by_cases hf : (f == k2) = true
      · rw [hf] at e ⊢
        cases e
        exact ⟨y, rfl, r1⟩
      · rw [Bool.not_eq_true] at hf
        rw [hf] at e ⊢
        exact fld_get hk r2 e
theorem fld_none {f : Str} : ∀ {fs : List (Str × SV)} {gs : List (Str × V)}, gs.map (·.1) = fs.map (·.1) → fs.lookup f = none → gs.lookup f = none
  | [], [], _, _ => rfl
  | [], _ :: _, hk, _ => by simp at hk
  | (k, x) :: fs, [], hk, _ => by simp at hk
  | (k, x) :: fs, (k2, y) :: gs, hk, e => by
    simp only [List.map_cons, List.cons.injEq] at hk
    obtain ⟨rfl, hk⟩ := hk
    rw [List.lookup_cons] at e ⊢
    by_cases hf : (f == k2) = true
    · rw [hf] at e; cases e
    · rw [Bool.not_eq_true] at hf
      rw [hf] at e ⊢
      exact fld_none hk e
theorem putS_ok {f : Str} {d : SV} {v : V} (rd : Rp K F cs d v) : ∀ {fs : List (Str × SV)} {gs : List (Str × V)}, gs.map (·.1) = fs.map (·.1) → Rps K F cs (fs.map (·.2)) (gs.map (·.2)) → (putF f v gs).map (·.1) = (putS f d fs).map (·.1) ∧ Rps K F cs ((putS f d fs).map (·.2)) ((putF f v gs).map (·.2))
  | [], [], _, _ => ⟨rfl, .cons rd .nil⟩
  | [], _ :: _, hk, _ => by simp at hk
  | (k, x) :: fs, [], hk, _ => by simp at hk
  | (k, x) :: fs, (k2, y) :: gs, hk, r => by
    simp only [List.map_cons, List.cons.injEq] at hk
    obtain ⟨rfl, hk⟩ := hk
    cases r with
    | cons r1 r2 =>
      obtain ⟨i1, i2⟩ := putS_ok rd hk r2
      by_cases hf : k2 = f
      · rw [show putF f v ((k2, y) :: gs) = (k2, v) :: gs from if_pos hf, show putS f d ((k2, x) :: fs) = (k2, d) :: fs from if_pos hf]
        exact ⟨by simp [hk], .cons rd r2⟩
      · rw [show putF f v ((k2, y) :: gs) = (k2, y) :: putF f v gs from if_neg hf, show putS f d ((k2, x) :: fs) = (k2, x) :: putS f d fs from if_neg hf]
        exact ⟨by simp [i1], .cons r1 i2⟩
end
def FldAt (K : PySem.W.Frag) (C f : Str) : Prop := ∃ A, CAt K C A ∧ Cls K A ∧ NoAttr K A f
structure CalleeM (P : Program) (w : World) (K : PySem.W.Frag) (mg : Str → Option Value) (base : Heap) (C m : Str) (k : Nat) (sp : MSp) : Prop where
  ok : ∃ (A f : Addr) (fd : FuncData) (ps : List Str), CAt K C A ∧ Cls K A ∧ Meth K A m f ∧ FnOk P w K mg base CX0 k f fd ps (spM K sp) ∧ Binds K fd ps []
structure CalleeMX (P : Program) (w : World) (K : PySem.W.Frag) (mg : Str → Option Value) (base : Heap) (C m : Str) (k : Nat) (sp : MSpX) : Prop where
  ok : ∃ (A f : Addr) (fd : FuncData) (ps : List Str), CAt K C A ∧ Cls K A ∧ Meth K A m f ∧ FnOk P w K mg base (L2.CX P w) k f fd ps (spMX K sp) ∧ Binds K fd ps []
structure CalleeC (P : Program) (w : World) (K : PySem.W.Frag) (mg : Str → Option Value) (base : Heap) (C : Str) (k : Nat) (sp : MSp) : Prop where
  ok : ∃ (A f : Addr) (fd : FuncData) (ps : List Str), CAt K C A ∧ mg C = some (.ref A) ∧ Mk K A f ∧ FnOk P w K mg base CX0 k f fd ps (spM K sp) ∧ Binds K fd ps []
def wFld (C f : Str) (we : WE) : WE := fun env st Q => we env st fun x s => ∃ n fs d, x = .c n ∧ s[n]? = some (.ins C fs) ∧ fs.lookup f = some d ∧ Q d s
def wFldS (C f : Str) (wv wo : WE) : WS := fun D env st => wv env st fun d s1 => wo env s1 fun x s2 => ∃ n fs, x = .c n ∧ s2[n]? = some (.ins C fs) ∧ fs.length < 1000 ∧ D.nx env (s2.set n (.ins C (putS f d fs)))
def wMeth (C m : Str) (sp : MSp) (wo : WE) (wa : WA) : WE := fun env st Q => wo env st fun x s1 => ∃ n fs, x = .c n ∧ s1[n]? = some (.ins C fs) ∧ fs.lookup m = none ∧ wa env s1 fun ds s2 => sp (x :: ds) s2 Q
def wMethX (C m : Str) (rx : RX) (sp : MSpX) (wo : WE) (wa : WA) : WE := fun env st Q => wo env st fun x s1 => ∃ n fs, x = .c n ∧ s1[n]? = some (.ins C fs) ∧ fs.lookup m = none ∧ wa env s1 fun ds s2 => sp (x :: ds) s2 Q fun nm arg s' => rx nm arg env s'
def wMake (C : Str) (sp : MSp) (wa : WA) : WE := fun env st Q => wa env st fun ds s => sp (.c s.length :: ds) (s ++ [.ins C []]) fun d s' => d = .p .none ∧ Q (.c s.length) s'
def tMethE (C : Addr) (m : Str) (sp : Sp) (E : L2.St → XK) (ta : TE) (t : TA) : TE := fun σ H Q => ta σ H fun x H1 => ∃ a dx fs, x = .ref a ∧ H1 a = some (.ins C dx fs) ∧ fs.lookup m = none ∧ t σ H1 fun vs H2 => sp (x :: vs) H2 Q (E σ)
theorem pe_methE {X : Cx} {CX : CXT} {k : Nat} {f C : Addr} {fd : FuncData} {ps : List Str} {sp : Sp} {E : L2.St → XK} {m : Str} {pos apos : Pos} {e o : Expr} {es : List Expr} {ta : TE} {t : TA} {pl : Sem Bool} (he : PE X o ta) (c : Cls X.K C) (hm : Meth X.K C m f) (F : FnOk X.prog X.w X.K X.mg X.base CX k f fd ps sp) (hr : Room k X.A) (hb : Binds X.K fd ps []) (hx : ∀ σ, PassesAt CX X σ (E σ)) (ha : PA X (e :: es) t)
    (hst : starEach (e :: es) X.env = (false, eval e X.env) :: starEach es X.env) (hpl : (backTo pos (starEach es X.env)).any (·.1) = false)
    (ht : eval (.Call (.Attribute o m apos) (e :: es) [] pos) X.env = (do
      let ov ← eval o X.env
      standAt apos.atName
      let (f, first) ← holding [ov] (getMethod ov m pl)
      callWith pos f first (backTo pos (starEach (e :: es) X.env)) (backToKw pos (keywordEach [] X.env)))) :
    PE X (.Call (.Attribute o m apos) (e :: es) [] pos) (tMethE C m sp E ta t) := by
  refine ⟨fun pins s σ H Q I h => ?_⟩
  refine PySem.W.methodCall_KW (pl := pl) (thn (he.run pins s σ H _ I h) fun u s1 ⟨x, H1, I1, rx, a, dx, fs, ex, ea, l, q⟩ => ?_) ht
  subst ex
  obtain rfl : u = Value.ref a := rx
  refine getmeth_ok I1 ea c hm l ?_
  refine PySem.W.callWith_K (first := [.ref a]) (h₀ := X.base) I.ok.mod.kin hm.kp (thn (ha.run pos pins s1 σ H1 _ I1 q) fun us s2 ⟨vs, H2, I2, r, q2⟩ => ⟨I2.kIn, ?_⟩) hst hpl
  exact run_fnS (us := .ref a :: us) (vs := .ref a :: vs) F hr hb (hx σ) I2 (.cons rfl r) q2
section
variable {X : XM} {C f m x : Str} {e o value : Expr} {es : List Expr} {we wo wv : WE} {wa : WA} {pos pos' apos p : Pos} {k : Nat}
theorem ins_of {F : Hp} {cs : List Addr} {H : Hp} {st : Store} {n : Nat} {fs : List (Str × SV)} {v : V} {A : Addr} (hs : HS X.K F cs H st) (r : Rp X.K F cs (.c n) v) (e : st[n]? = some (.ins C fs)) (hA : CAt X.K C A) :
    ∃ (a dx : Addr) (gs : List (Str × V)), v = .ref a ∧ cs[n]? = some a ∧ H a = some (.ins A dx gs) ∧ gs.map (·.1) = fs.map (·.1) ∧ Rps X.K F cs (fs.map (·.2)) (gs.map (·.2)) := by
  cases r with
  | c ec =>
    obtain ⟨A', dx, gs, h0, h1, h2, h3⟩ := hs.cell n _ _ ec e
    rw [CAt.inj h0 hA] at h1
    exact ⟨_, dx, gs, rfl, ec, h1, h2, h3⟩
theorem se_fld (hf : FldAt X.K C f) (he : SE X e we) (hb : attributeBase e f X.env (eval e X.env) = eval e X.env := by rfl) : SE X (.Attribute e f pos) (wFld C f we) := by
  obtain ⟨A, hA, hC, hN⟩ := hf
  obtain ⟨t, pe, ke⟩ := he
  refine ⟨_, pe_fld pe hb, fun F cs σ H env st Q R er hs h kk => ke F cs σ H env st _ _ er hs h ?_⟩
  rintro v H1 ⟨F1, c1, d1, s1, a1, b1, hs1, r1, n, fs, d, rfl, e1, e2, q⟩
  obtain ⟨a, dx, gs, rfl, ec, h1, h2, h3⟩ := ins_of hs1 r1 e1 hA
  obtain ⟨u, e3, r3⟩ := fld_get h2 h3 e2
  exact ⟨a, A, dx, gs, u, rfl, h1, hC, hN, e3, kk _ _ ⟨F1, c1, d, s1, a1, b1, hs1, r3, q⟩⟩
theorem ss_fld (hf : FldAt X.K C f) (hv : SE X value wv) (ho : SE X o wo) (hsw : swapsWith value (some (.Attribute o f pos')) pos.line X.env = pure false := by rfl) : SS X (.Assign [.Attribute o f pos'] value pos) (wFldS C f wv wo) := by
  obtain ⟨A, hA, hC, hN⟩ := hf
  obtain ⟨tv, pv, kv⟩ := hv
  obtain ⟨to, po, ko⟩ := ho
  refine ⟨_, ps_fld po pv hsw, fun F cs0 cs σ H env st D E hc hl er hs h g => kv F cs σ H env st _ _ er hs h ?_⟩
  rintro y H1 ⟨F1, c1, d, s1, a1, b1, hs1, r1, q1⟩
  refine ko F1 c1 σ H1 env s1 _ _ (er.mono a1 b1) hs1 q1 ?_
  rintro v H2 ⟨F2, c2, d2, s2, a2, b2, hs2, r2, n, fs, rfl, e1, hl1, q⟩
  obtain ⟨a, dx, gs, rfl, ec, h1, h2, h3⟩ := ins_of hs2 r2 e1 hA
  have hlen : gs.length = fs.length := by
    have := congrArg List.length h2
    simpa using this
  refine ⟨a, A, dx, gs, rfl, h1, hC, hN, by omega, ?_⟩
  obtain ⟨i1, i2⟩ := putS_ok (f := f) (rp_up r1 a2 b2) h2 h3
  have hw := hs2.write (o := .ins A dx (putF f y gs)) (m := .ins C (putS f d fs)) ec ⟨A, dx, _, hA, upd_same, i1, i2⟩
  exact g.nx F2 c2 σ _ env _ (a1.trans a2) ((hc.trans b1).trans b2) (er.mono (a1.trans a2) (b1.trans b2)) hw q
theorem se_meth {sp : MSp} (G : CalleeM X.prog X.w X.K X.mg X.base C m k sp) (hr : Room k X.A) (ho : SE X o wo) (ha : SA X (e :: es) wa) {pl : Sem Bool}
    (hst : starEach (e :: es) X.env = (false, eval e X.env) :: starEach es X.env := by rfl) (hpl : (backTo pos (starEach es X.env)).any (·.1) = false := by rfl)
    (ht : eval (.Call (.Attribute o m apos) (e :: es) [] pos) X.env = (do
      let ov ← eval o X.env
      standAt apos.atName
      let (f, first) ← holding [ov] (getMethod ov m pl)
      callWith pos f first (backTo pos (starEach (e :: es) X.env)) (backToKw pos (keywordEach [] X.env))) := by rfl) :
    SE X (.Call (.Attribute o m apos) (e :: es) [] pos) (wMeth C m sp wo wa) := by
  obtain ⟨A, fa, fd, ps, hA, hC, hM, G, hb⟩ := G.ok
  obtain ⟨to, po, ko⟩ := ho
  obtain ⟨ta, pa, ka⟩ := ha
  refine ⟨_, pe_meth po hC hM G hr hb .nil pass0 pa hst hpl ht, fun F cs σ H env st Q R er hs h kk => ko F cs σ H env st _ _ er hs h ?_⟩
  rintro v H1 ⟨F1, c1, d1, s1, a1, b1, hs1, r1, n, fs, rfl, e1, e2, q⟩
  obtain ⟨a, dx, gs, rfl, ec, h1, h2, h3⟩ := ins_of hs1 r1 e1 hA
  refine ⟨a, dx, gs, rfl, h1, fld_none h2 e2, ka F1 c1 σ H1 env s1 _ _ (er.mono a1 b1) hs1 q ?_⟩
  rintro vs H2 ⟨F2, c2, ds, s2, a2, b2, hs2, r2, q2⟩
  rw [List.append_nil]
  refine ⟨F2, c2, _, s2, Q, hs2, .cons (rp_up r1 a2 b2) r2, q2, fun F' cs' H' st' d v x1 x2 x3 x4 x5 => ?_⟩
  exact kk _ _ ⟨F', cs', d, st', (a1.trans a2).trans x1, (b1.trans b2).trans x2, x3, x4, x5⟩
theorem se_meth0 {sp : MSp} (G : CalleeM X.prog X.w X.K X.mg X.base C m k sp) (hr : Room k X.A) (ho : SE X o wo) {pl : Sem Bool}
    (ht : eval (.Call (.Attribute o m apos) [] [] pos) X.env = (do
      let ov ← eval o X.env
      standAt apos.atName
      let (f, first) ← holding [ov] (getMethod ov m pl)
      callWith pos f first (backTo pos (starEach [] X.env)) (backToKw pos (keywordEach [] X.env))) := by rfl) :
    SE X (.Call (.Attribute o m apos) [] [] pos) (wMeth C m sp wo aNil) := by
  obtain ⟨A, fa, fd, ps, hA, hC, hM, G, hb⟩ := G.ok
  obtain ⟨to, po, ko⟩ := ho
  refine ⟨_, pe_meth0 po hC hM G hr hb .nil pass0 ht, fun F cs σ H env st Q R er hs h kk => ko F cs σ H env st _ _ er hs h ?_⟩
  rintro v H1 ⟨F1, c1, d1, s1, a1, b1, hs1, r1, n, fs, rfl, e1, e2, q⟩
  obtain ⟨a, dx, gs, rfl, ec, h1, h2, h3⟩ := ins_of hs1 r1 e1 hA
  refine ⟨a, dx, gs, rfl, h1, fld_none h2 e2, F1, c1, _, s1, Q, hs1, .cons r1 .nil, q, fun F' cs' H' st' d v x1 x2 x3 x4 x5 => ?_⟩
  exact kk _ _ ⟨F', cs', d, st', a1.trans x1, b1.trans x2, x3, x4, x5⟩
theorem se_methX {sp : MSpX} (G : CalleeMX X.prog X.w X.K X.mg X.base C m k sp) (hr : Room k X.A) (ho : SE X o wo) (ha : SA X (e :: es) wa) {pl : Sem Bool}
    (hst : starEach (e :: es) X.env = (false, eval e X.env) :: starEach es X.env := by rfl) (hpl : (backTo pos (starEach es X.env)).any (·.1) = false := by rfl)
    (ht : eval (.Call (.Attribute o m apos) (e :: es) [] pos) X.env = (do
      let ov ← eval o X.env
      standAt apos.atName
      let (f, first) ← holding [ov] (getMethod ov m pl)
      callWith pos f first (backTo pos (starEach (e :: es) X.env)) (backToKw pos (keywordEach [] X.env))) := by rfl) :
    SE X (.Call (.Attribute o m apos) (e :: es) [] pos) (wMethX C m X.rx sp wo wa) := by
  obtain ⟨A, fa, fd, ps, hA, hC, hM, G, hb⟩ := G.ok
  obtain ⟨to, po, ko⟩ := ho
  obtain ⟨ta, pa, ka⟩ := ha
  refine ⟨_, pe_methE (E := L2.WE (Est X.toCx)) po hC hM G hr hb (fun σ => passAt (est_takes X.toCx) σ) pa hst hpl ht, fun F cs σ H env st Q R er hs h kk => ko F cs σ H env st _ _ er hs h ?_⟩
  rintro v H1 ⟨F1, c1, d1, s1, a1, b1, hs1, r1, n, fs, rfl, e1, e2, q⟩
  obtain ⟨a, dx, gs, rfl, ec, h1, h2, h3⟩ := ins_of hs1 r1 e1 hA
  refine ⟨a, dx, gs, rfl, h1, fld_none h2 e2, ka F1 c1 σ H1 env s1 _ _ (er.mono a1 b1) hs1 q ?_⟩
  rintro vs H2 ⟨F2, c2, ds, s2, a2, b2, hs2, r2, q2⟩
  refine ⟨F2, c2, _, s2, Q, _, hs2, .cons (rp_up r1 a2 b2) r2, q2, fun F' cs' H' st' d v x1 x2 x3 x4 x5 => ?_, fun F' cs' H' st' nm arg C' d x1 x2 x3 x4 x5 x6 => ?_⟩
  · exact kk _ _ ⟨F', cs', d, st', (a1.trans a2).trans x1, (b1.trans b2).trans x2, x3, x4, x5⟩
  · exact er.xp F' cs' σ env H' st' nm arg C' d ((a1.trans a2).trans x1) ((b1.trans b2).trans x2) (er.k.mono ((a1.trans a2).trans x1) ((b1.trans b2).trans x2)) x3 x4 x5 x6
theorem mk_step {sp : MSp} {F : Hp} {cs : List Addr} {H : Hp} {st : Store} {ds : List SV} {vs : List V} {Q : SV → Store → Prop} {R : VK} {A : Addr} {E : XK} (hA : CAt X.K C A) (hs : HS X.K F cs H st) (r : Rps X.K F cs ds vs)
    (q : sp (.c st.length :: ds) (st ++ [.ins C []]) fun d s' => d = .p .none ∧ Q (.c st.length) s') (kk : ∀ v H', Post X F cs Q v H' → R v H') :
    ∀ x dx, H x = none → H dx = none → dx ≠ x → spM X.K sp (.ref x :: vs) (upd (upd H dx (.own x)) x (.ins A dx [])) (fun v H2 => v = .non ∧ R (.ref x) H2) E := by
  intro x dx hx hdx hne
  have h1 := hs.junk (o := .own x) hdx
  have hx1 : upd H dx (.own x) x = none := by rw [upd_ne (Ne.symm hne)]; exact hx
  have h2 := h1.new (o := .ins A dx []) (m := .ins C []) hx1 ⟨A, dx, [], hA, upd_same, rfl, .nil⟩
  have pre : cs <+: cs ++ [x] := List.prefix_append _ _
  have ec : (cs ++ [x])[st.length]? = some x := by rw [← hs.len]; simp
  refine ⟨F, cs ++ [x], _, _, _, h2, .cons (.c ec) (rps_mono (Same.refl _) pre _ _ r), q, ?_⟩
  rintro F' cs' H' st' d v x1 x2 x3 x4 ⟨rfl, x5⟩
  exact ⟨rp_none x4, kk _ _ ⟨F', cs', _, st', x1, pre.trans x2, x3, .c (pre_get x2 ec), x5⟩⟩
theorem se_make {sp : MSp} (G : CalleeC X.prog X.w X.K X.mg X.base x k sp) (hr : Room (k + 1) X.A) (ha : SA X (e :: es) wa) (hg : Gl X x := by rfl) (hdb : (x == ("__debug__" : Str)) = false := by decide) (he : starEach (e :: es) X.env = (false, eval e X.env) :: starEach es X.env := by rfl)
    (hpl : (backTo pos (starEach es X.env)).any (·.1) = false := by rfl) : SE X (.Call (.Name x p) (e :: es) [] pos) (wMake x sp wa) := by
  obtain ⟨A, fa, fd, ps, hA, hm, hM, G, hb⟩ := G.ok
  obtain ⟨ta, pa, ka⟩ := ha
  refine ⟨_, pe_make hM G hr hg hm hb .nil pass0 pa hdb he hpl, fun F cs σ H env st Q R er hs h kk => ka F cs σ H env st _ _ er hs h ?_⟩
  rintro vs H1 ⟨F1, c1, ds, s1, a1, b1, hs1, r1, q1⟩
  rw [List.append_nil]
  exact mk_step hA hs1 r1 q1 fun v H' pp => kk _ _ (pp.up a1 b1)
theorem se_make0 {sp : MSp} (G : CalleeC X.prog X.w X.K X.mg X.base x k sp) (hr : Room (k + 1) X.A) (hg : Gl X x := by rfl) (hdb : (x == ("__debug__" : Str)) = false := by decide) : SE X (.Call (.Name x p) [] [] pos) (wMake x sp aNil) := by
  obtain ⟨A, fa, fd, ps, hA, hm, hM, G, hb⟩ := G.ok
  refine ⟨_, pe_make0 hM G hr hg hm hb .nil pass0 hdb, fun F cs σ H env st Q R er hs h kk => ?_⟩
  exact mk_step hA hs .nil h kk
end
section
variable {C f m : Str} {we wo wv : WE} {wa : WA} {sp : MSp} {spx : MSpX} {rx : RX} {env : M.Env} {st : Store} {Q : SV → Store → Prop} {D : ME}
theorem e_fld : wFld C f we env st Q = we env st fun x s => ∃ n fs d, x = .c n ∧ s[n]? = some (.ins C fs) ∧ fs.lookup f = some d ∧ Q d s := rfl
theorem s_fld : wFldS C f wv wo D env st = wv env st fun d s1 => wo env s1 fun x s2 => ∃ n fs, x = .c n ∧ s2[n]? = some (.ins C fs) ∧ fs.length < 1000 ∧ D.nx env (s2.set n (.ins C (putS f d fs))) := rfl
theorem e_meth : wMeth C m sp wo wa env st Q = wo env st fun x s1 => ∃ n fs, x = .c n ∧ s1[n]? = some (.ins C fs) ∧ fs.lookup m = none ∧ wa env s1 fun ds s2 => sp (x :: ds) s2 Q := rfl
theorem e_methx : wMethX C m rx spx wo wa env st Q = wo env st fun x s1 => ∃ n fs, x = .c n ∧ s1[n]? = some (.ins C fs) ∧ fs.lookup m = none ∧ wa env s1 fun ds s2 => spx (x :: ds) s2 Q fun nm arg s' => rx nm arg env s' := rfl
theorem e_make : wMake C sp wa env st Q = wa env st fun ds s => sp (.c s.length :: ds) (s ++ [.ins C []]) fun d s' => d = .p .none ∧ Q (.c s.length) s' := rfl
end
end M

namespace M
open PySem PySem.Spec PyProof.Rows L2
section
variable {X : Cx}
def rCountD (K : PySem.W.Frag) : V → List V → Hp → VK → Prop := fun x xs H Q => ∃ (a : Addr) (y : V) (d : PyData) (ds : List PyData), x = V.ref a ∧ xs = [y] ∧ Dp K H (V.ref a) (.list ds) ∧ Dp K H y d ∧
  SeqAt.shaped (.list ds) = true ∧ SeqAt.shaped d = true ∧ Q (.int ((ds.countP fun z => PyData.eqv z d : Nat) : Int)) H
theorem mt_countD (hu : X.A.units + 65 < cLine) : MtR X "list.count" (rCountD X.K) := by
  intro pins s σ H x xs v us Q I rx rxs h
  obtain ⟨a, y, d, ds, rfl, rfl, hl, hy, sl, sd, q⟩ := h
  cases rx
  cases rxs with
  | cons ry rt =>
    rename_i uy ut
    cases rt
    obtain ⟨bs, r1⟩ := Dp.reads I d y uy hy ry
    have hxs : PyData.canLayAll0 ds = true := SeqAt.canLay_of_shaped sl
    have hroom : X.A.units + 1 + min (PyData.depthAll ds) d.depth < cLine := room_in_shaped sd hu
    cases hl with
    | lst hs ha =>
      obtain ⟨its, rv, ⟨⟨cls, dd, data, sls⟩, n, ho, hc, hdn, hdt⟩, hlen⟩ := I.list hs
      simp only at hc hdt
      subst hc hdt
      obtain ⟨as, h4⟩ := Dp.readsAll I ds _ its ha rv
      have hmap : its.map (SeqAt.readOf s.heap) = ds := SeqAt.readsAll_map ds its as hxs h4
      refine call_meets PySem.F.slot_list_count ⟨_, ho, rfl⟩ PySem.F.entry_list_count (PySem.F.args_list_count_2 _ _)
        (SeqAt.list_countAt a its.toArray n dd sls uy (fun u => PyData.eqv (SeqAt.readOf s.heap u) d)) ⟨ho, SeqAt.items_eqAt (vs := its.toArray) (show ReadsAll s.heap its.toArray.toList ds as from h4) r1 hxs (SeqAt.canLay_of_shaped sd) hroom, ?_⟩
      refine ⟨.int ((ds.countP fun z => PyData.eqv z d : Nat) : Int), H, I.tok _, ⟨s.toks, ?_⟩, q⟩
      rw [← hmap, List.countP_map]
      rfl
end
section
variable {X : XM}
def mCountList : MR := fun x ys st Q => match ys with
  | [y] => ∃ d ds, pureOf st x = some (.list ds) ∧ pureOf st y = some d ∧ SeqAt.shaped (.list ds) = true ∧ SeqAt.shaped d = true ∧ Q (.p (.int ((ds.countP fun z => PyData.eqv z d : Nat) : Int))) st
  | _ => False
theorem mr_list_count (hu : X.A.units + 65 < cLine) : MtRd X "list.count" mCountList := ⟨_, mt_countD hu, fun F cs H st x ys v ws Q R hs rx ry q k => by
  unfold mCountList at q
  split at q
  · obtain ⟨u, rfl, r⟩ := rps1 ry
    obtain ⟨d, ds, h1, h2, s1, s2, q⟩ := q
    have dx := rp_pure hs rx h1
    have hv : ∃ a, v = .ref a := by
      cases dx with
      | lst _ _ => exact ⟨_, rfl⟩
    obtain ⟨a, rfl⟩ := hv
    exact ⟨a, u, d, ds, rfl, rfl, dx, rp_pure hs r h2, s1, s2, k _ _ (.mk hs (.p (.int _)) q)⟩
  · exact q.elim⟩
end
theorem unitsH {k : Nat} {A : Around} (r : L2H.RoomH k A) : A.units + 64 < cLine := by have := r.un; omega
theorem room65H {k : Nat} {A : Around} (r : L2H.RoomH k A) : A.units + 65 < cLine := by have := r.un; omega
theorem m_cnt {x y : SV} {st : Store} {Q : SV → Store → Prop} : mCountList x [y] st Q = ∃ d ds, pureOf st x = some (.list ds) ∧ pureOf st y = some d ∧ SeqAt.shaped (.list ds) = true ∧ SeqAt.shaped d = true ∧ Q (.p (.int ((ds.countP fun z => PyData.eqv z d : Nat) : Int))) st := rfl
end M

namespace M
open PySem PySem.Spec PyProof.Rows L2
section
variable {X : XM}
def mSlC (x : SV) (lo hi : Option Int) (st : Store) (Q : SV → Store → Prop) : Prop := ∃ xs, listOf st x = some xs ∧ Q (.c st.length) (st ++ [.lst (cutL xs lo hi)])
def wSlC (we : WE) (lo hi : WO) : WE := fun env st Q => we env st fun x s1 => lo env s1 fun l s2 => hi env s2 fun u s3 => mSlC x l u s3 Q
theorem se_sliceC {e : Expr} {lo hi : Option Expr} {we : WE} {wl wh : WO} {p2 pos : Pos} (he : SE X e we) (hl : SO X lo wl) (hu : SO X hi wh) : SE X (.Subscript e (.Slice lo hi none p2) pos) (wSlC we wl wh) := by
  obtain ⟨te, pe, ke⟩ := he
  obtain ⟨tl, pl, kl⟩ := hl
  obtain ⟨th, ph, kh⟩ := hu
  refine ⟨_, pe_slice sl_list pe pl ph, fun F cs σ H env st Q R er hs h k => ke F cs σ H env st _ _ er hs h ?_⟩
  rintro v H1 ⟨F1, c1, d, s1, a1, b1, h1, r1, q1⟩
  refine kl F1 c1 σ H1 env s1 _ _ (er.mono a1 b1) h1 q1 ?_
  rintro o H2 ⟨F2, c2, s2, a2, b2, h2, q2⟩
  refine kh F2 c2 σ H2 env s2 _ _ (er.mono (a1.trans a2) (b1.trans b2)) h2 q2 ?_
  rintro o2 H3 ⟨F3, c3, s3, a3, b3, h3, q3⟩
  have r3 := rp_up r1 (a2.trans a3) (b2.trans b3)
  have kk : ∀ v H', Post X F3 c3 Q v H' → R v H' := fun v H' p => k v H' (((p.up a3 b3).up a2 b2).up a1 b1)
  obtain ⟨xs, e, q3⟩ := q3
  obtain ⟨a, vs, rfl, hA, r4⟩ := rp_list h3 r3 e
  exact ⟨a, vs, rfl, .inl (.inl hA), fun p hp => kk _ _ (new_cell h3 hp (r4.cut o o2) q3)⟩
end
end M

namespace M
open PySem PySem.Spec PyProof.Rows L2
def rInT (K : PySem.W.Frag) : R2 := fun x y H Q => ∃ d ds, Dp K H x d ∧ Dp K H y (.tuple ds) ∧ SeqAt.shaped d = true ∧ SeqAt.shaped (.tuple ds) = true ∧ Q (.bl (ds.any fun z => PyData.eqv z d)) H
section
variable {X : Cx}
theorem op_inT (hu : X.A.units + 65 < cLine) : OpR X (compareOp .In) (rInT X.K) := by
  intro pins s σ H x y v u Q I rx ry h
  obtain ⟨d, ds, hd, he, sd, se, q⟩ := h
  obtain ⟨as, r1⟩ := Dp.reads I d x v hd rx
  obtain ⟨bs, r2⟩ := Dp.reads I (.tuple ds) y u he ry
  exact SeqAt.in_tuple_reads r2 r1 (SeqAt.canLay_of_shaped se) (SeqAt.canLay_of_shaped sd) (room_in_shaped sd hu) ⟨.bl _, H, I, rfl, q⟩
end
section
variable {X : XM}
def mInT : M2 := fun x y st Q => ∃ d ds, pureOf st x = some d ∧ pureOf st y = some (.tuple ds) ∧ SeqAt.shaped d = true ∧ SeqAt.shaped (.tuple ds) = true ∧ Q (.p (.bool (ds.any fun z => PyData.eqv z d))) st
theorem om_inT (hu : X.A.units + 65 < cLine) : OpM X (compareOp .In) mInT := ⟨_, op_inT hu, fun F cs H st x y v u Q R hs rx ry ⟨d, ds, h1, h2, s1, s2, q⟩ k =>
  ⟨d, ds, rp_pure hs rx h1, rp_pure hs ry h2, s1, s2, k _ _ (.mk hs (.p (.bl _)) q)⟩⟩
end
end M

namespace M
open PySem PySem.Spec PyProof.Rows L2
section
variable {X : XM}
theorem Rps.drop' {K : PySem.W.Frag} {F : Hp} {cs : List Addr} : ∀ {xs : List SV} {vs : List V} (k : Nat), Rps K F cs xs vs → Rps K F cs (xs.drop k) (vs.drop k)
  | _, _, 0, h => h
  | _, _, k + 1, .nil => .nil
  | _, _, k + 1, .cons h r => Rps.drop' k r
def mInsert : MM := fun n xs ys st Q => match ys with
  | [i, y] => ∃ k : Nat, i = .p (.int (k : Nat)) ∧ k ≤ xs.length ∧ xs.length < sizeLine ∧ Q (.p .none) (st.set n (.lst (xs.take k ++ y :: xs.drop k)))
  | _ => False
theorem ml_insert : MtL X "list.insert" mInsert := ⟨_, L2.mt_insert, fun F cs H st n a xs ys vs ws Q R hs ca hv rx ry ex q k => by
  unfold mInsert at q
  split at q
  · obtain ⟨j, rfl, h1, h2, q⟩ := q
    cases ry with
    | cons r1 r2 =>
      cases r2 with
      | cons r3 r4 =>
        cases r4
        cases rp_int r1
        have hl := rx.length
        have : sizeLine = 16777216 := sizeLine_eq
        refine ⟨a, vs, (j : Int), _, rfl, rfl, hv, by omega, by omega, by omega, ?_⟩
        rw [Int.toNat_natCast, List.append_assoc, List.singleton_append]
        exact k _ _ (put_cell hs ca ((rx.take j).append (.cons r3 (rx.drop' j))) (.p .non) q)
  · exact q.elim⟩
theorem m_ins {n : Nat} {xs : List SV} {i y : SV} {st : Store} {Q : SV → Store → Prop} : mInsert n xs [i, y] st Q = (∃ k : Nat, i = .p (.int (k : Nat)) ∧ k ≤ xs.length ∧ xs.length < sizeLine ∧ Q (.p .none) (st.set n (.lst (xs.take k ++ y :: xs.drop k)))) := rfl
theorem Rps.erase {K : PySem.W.Frag} {F : Hp} {cs : List Addr} : ∀ {xs : List SV} {vs : List V} (k : Nat), Rps K F cs xs vs → Rps K F cs (xs.eraseIdx k) (vs.eraseIdx k)
  | _, _, _, .nil => .nil
  | _, _, 0, .cons h r => r
  | _, _, k + 1, .cons h r => .cons h (Rps.erase k r)
def mPopAt : MM := fun n xs ys st Q => match ys with
  | [i] => ∃ k : Nat, i = .p (.int (k : Nat)) ∧ k < 2 ^ 62 ∧ ∃ y, xs[k]? = some y ∧ Q y (st.set n (.lst (xs.eraseIdx k)))
  | _ => False
theorem ml_popAt : MtL X "list.pop" mPopAt := ⟨_, mt_popAt, fun F cs H st n a xs ys vs ws Q R hs ca hv rx ry ex q k => by
  unfold mPopAt at q
  split at q
  · obtain ⟨j, rfl, h1, y, e, q⟩ := q
    obtain ⟨w, rfl, r⟩ := rps1 ry
    cases rp_int r
    obtain ⟨v, e2, r⟩ := rx.get e
    have hl := rx.length
    have hj := (List.getElem?_eq_some_iff.mp e2).1
    exact ⟨a, vs, _, j, v, rfl, rfl, hv, by omega, by omega, by have := seqIndex_of (k := (j : Int)) (n := vs.length) (by omega) (by omega); simpa using this, e2, k _ _ (put_cell hs ca (rx.erase j) r q)⟩
  · exact q.elim⟩
theorem m_popAt {n : Nat} {xs : List SV} {i : SV} {st : Store} {Q : SV → Store → Prop} : mPopAt n xs [i] st Q = (∃ k : Nat, i = .p (.int (k : Nat)) ∧ k < 2 ^ 62 ∧ ∃ y, xs[k]? = some y ∧ Q y (st.set n (.lst (xs.eraseIdx k)))) := rfl
end
end M

namespace M
open PySem PySem.Spec PyProof.Rows L2
def tChain3 (r r' r'' : R2) (ta tb tc td : TE) : TE := fun σ H Q => ta σ H fun x H1 => tb σ H1 fun y H2 => r x y H2 fun z H3 => ∃ k, z = .bl k ∧
  (if k = true then tc σ H3 fun w H4 => r' y w H4 fun z2 H5 => ∃ k2, z2 = .bl k2 ∧ (if k2 = true then td σ H5 fun w2 H6 => r'' w w2 H6 Q else Q (.bl false) H5) else Q (.bl false) H3)
section
variable {X : Cx} {a b c d : Expr} {ta tb tc td : TE} {pos : Pos}
theorem pt_chain3 {op op' op'' : CmpOp} {r r' r'' : R2} (ho : OpR X (compareOp op) r) (ho' : OpR X (compareOp op') r') (ho'' : OpR X (compareOp op'') r'') (ha : PE X a ta) (hb : PE X b tb) (hc : PE X c tc) (hd : PE X d td)
    (hm : lastMarks [op, op', op''] [b, c, d] = false := by with_unfolding_all rfl) : PT X (.Compare a [op, op', op''] [b, c, d] pos) (tTest (tChain3 r r' r'' ta tb tc td)) := by
  refine ⟨fun pins s σ H Q I h => ?_⟩
  refine isTrue_chain (thn (ha.run pins s σ H _ I h) fun v s1 ⟨x, H1, I1, r1, q1⟩ => test_link (thn (hb.run pins s1 σ H1 _ I1 q1) fun u s2 ⟨y, H2, I2, r2, q2⟩ =>
    thn (ho pins s2 σ H2 x y v u _ I2 r1 r2 q2) fun d s3 ⟨z, H3, I3, r3, k, e, q3⟩ => ?_)) hm
  subst e
  cases r3
  refine wpAny_truthy_bool ?_
  cases k with
  | false =>
    obtain ⟨k', e', q'⟩ := q3
    cases e'
    exact ite_ff ⟨H3, I3, q'⟩
  | true =>
    refine ite_tt (test_link (thn (hc.run pins s3 σ H3 _ I3 q3) fun w' s4 ⟨z', H4, I4, r4, q4⟩ => thn (ho' pins s4 σ H4 y z' u w' _ I4 r2 r4 q4) fun d' s5 ⟨z2, H5, I5, r5, k2, e2, q5⟩ => ?_))
    subst e2
    cases r5
    refine wpAny_truthy_bool ?_
    cases k2 with
    | false =>
      obtain ⟨k', e', q'⟩ := q5
      cases e'
      exact ite_ff ⟨H5, I5, q'⟩
    | true =>
      refine ite_tt (test_last (thn (hd.run pins s5 σ H5 _ I5 q5) fun w2 s6 ⟨z6, H6, I6, r6, q6⟩ => thn (ho'' pins s6 σ H6 z' z6 w' w2 _ I6 r4 r6 q6) fun d7 s7 ⟨z7, H7, I7, r7, k7, e7, q7⟩ => ?_))
      subst e7
      cases r7
      exact wpAny_truthy_bool ⟨H7, I7, q7⟩
end
section
variable {X : XM} {a b c d : Expr} {wa wb wc wd : WE} {pos : Pos}
def wChain3 (m m' m'' : M2) (wa wb wc wd : WE) : WE := fun env st Q => wa env st fun x s1 => wb env s1 fun y s2 => m x y s2 fun z s3 => ∃ k, z = .p (.bool k) ∧
  if k = true then wc env s3 fun w s4 => m' y w s4 fun z2 s5 => ∃ k2, z2 = .p (.bool k2) ∧ if k2 = true then wd env s5 fun w2 s6 => m'' w w2 s6 Q else Q (.p (.bool false)) s5 else Q (.p (.bool false)) s3
theorem st_chain3 {op op' op'' : CmpOp} {m m' m'' : M2} (ho : OpM X (compareOp op) m) (ho' : OpM X (compareOp op') m') (ho'' : OpM X (compareOp op'') m'') (ha : SE X a wa) (hb : SE X b wb) (hc : SE X c wc) (hd : SE X d wd)
    (hmk : lastMarks [op, op', op''] [b, c, d] = false := by with_unfolding_all rfl) : STt X (.Compare a [op, op', op''] [b, c, d] pos) (wTest (wChain3 m m' m'' wa wb wc wd)) := by
  obtain ⟨r, hr, hm⟩ := ho
  obtain ⟨r', hr', hm'⟩ := ho'
  obtain ⟨r'', hr'', hm''⟩ := ho''
  obtain ⟨ta, pa, ka⟩ := ha
  obtain ⟨tb, pb, kb⟩ := hb
  obtain ⟨tc, pc, kc⟩ := hc
  obtain ⟨td, pd, kd⟩ := hd
  refine ⟨_, pt_chain3 hr hr' hr'' pa pb pc pd hmk, fun F cs σ H env st Q R er hs h k => ?_⟩
  refine ka F cs σ H env st _ _ er hs h fun v H1 ⟨F1, cs1, d1, st1, s1, c1, hs1, r1, q1⟩ => ?_
  refine kb F1 cs1 σ H1 env st1 _ _ (er.mono s1 c1) hs1 q1 fun u H2 ⟨F2, cs2, d2, st2, s2, c2, hs2, r2, q2⟩ => ?_
  refine hm F2 cs2 H2 st2 d1 d2 v u _ _ hs2 (rp_up r1 s2 c2) r2 q2 fun z H3 ⟨F3, cs3, d3, st3, s3, c3, hs3, r3, b', e, q3⟩ => ?_
  subst e
  refine ⟨b', rp_bool r3, ?_⟩
  cases b' with
  | false =>
    rw [if_neg Bool.false_ne_true] at q3 ⊢
    obtain ⟨b2, e2, q4⟩ := q3
    cases e2
    exact ⟨_, rfl, k _ _ ⟨F3, cs3, st3, (s1.trans s2).trans s3, (c1.trans c2).trans c3, hs3, q4⟩⟩
  | true =>
    rw [if_pos rfl] at q3 ⊢
    refine kc F3 cs3 σ H3 env st3 _ _ (er.mono ((s1.trans s2).trans s3) ((c1.trans c2).trans c3)) hs3 q3 fun w H4 ⟨F4, cs4, d4, st4, s4, c4, hs4, r4, q4⟩ => ?_
    refine hm' F4 cs4 H4 st4 d2 d4 u w _ _ hs4 (rp_up r2 (s3.trans s4) (c3.trans c4)) r4 q4 fun z5 H5 ⟨F5, cs5, d5, st5, s5, c5, hs5, r5, b5, e5, q5⟩ => ?_
    subst e5
    refine ⟨b5, rp_bool r5, ?_⟩
    cases b5 with
    | false =>
      rw [if_neg Bool.false_ne_true] at q5 ⊢
      obtain ⟨b2, e2, q4⟩ := q5
      cases e2
      exact ⟨_, rfl, k _ _ ⟨F5, cs5, st5, (((s1.trans s2).trans s3).trans s4).trans s5, (((c1.trans c2).trans c3).trans c4).trans c5, hs5, q4⟩⟩
    | true =>
      rw [if_pos rfl] at q5 ⊢
      refine kd F5 cs5 σ H5 env st5 _ _ (er.mono ((((s1.trans s2).trans s3).trans s4).trans s5) ((((c1.trans c2).trans c3).trans c4).trans c5)) hs5 q5 fun w6 H6 ⟨F6, cs6, d6, st6, s6, c6, hs6, r6, q6⟩ => ?_
      refine hm'' F6 cs6 H6 st6 d4 d6 w w6 _ _ hs6 (rp_up r4 (s5.trans s6) (c5.trans c6)) r6 q6 fun z7 H7 ⟨F7, cs7, d7, st7, s7, c7, hs7, r7, b7, e7, q7⟩ => ?_
      subst e7
      exact ⟨b7, rp_bool r7, k _ _ ⟨F7, cs7, st7, (((((s1.trans s2).trans s3).trans s4).trans s5).trans s6).trans s7, (((((c1.trans c2).trans c3).trans c4).trans c5).trans c6).trans c7, hs7, q7⟩⟩
end
end M


namespace M
open PySem PySem.Spec PyProof.Rows L2
section
variable {X : XM}
theorem se_globS {x y : Str} {tk : Tok} {pos : Pos} (hg : Gl X x) (hm : X.mg x = some (.str y tk)) (hd : (x == ("__debug__" : Str)) = false := by decide) : SE X (.Name x pos) (wC (.p (.str y))) :=
  ⟨_, pe_glob (v := .str y) hg hm ⟨tk, rfl⟩ hd, fun F cs σ H env st Q R er hs h k => k _ _ (.mk hs (.p (.str _)) h)⟩
def mStr : MC := fun xs st Q => match xs with
  | [.p (.int i)] => i.natAbs.log2 < 1920 ∧ Q (.p (.str (toString i))) st
  | _ => False
theorem cm_str : CallM X (.type "str") mStr := ⟨_, call_str_int, fun F cs H st xs vs Q R hs rx q k => by
  unfold mStr at q
  split at q
  · obtain ⟨v, rfl, r⟩ := rps1 rx
    exact ⟨_, by rw [rp_int r], q.1, k _ _ (.mk hs (.p (.str _)) q.2)⟩
  · exact q.elim⟩
def mIntT : MC := fun xs st Q => match xs with
  | [.p (.str a)] => ∃ n, PySem.intText? a = some n ∧ a.length ≤ 640 ∧ Q (.p (.int n)) st
  | _ => False
theorem cm_intT : CallM X (.type "int") mIntT := ⟨_, call_int_str, fun F cs H st xs vs Q R hs rx q k => by
  unfold mIntT at q
  split at q
  · obtain ⟨v, rfl, r⟩ := rps1 rx
    obtain ⟨n, h1, h2, q⟩ := q
    exact ⟨_, n, by rw [rp_str r], h1, h2, k _ _ (.mk hs (.p (.int _)) q)⟩
  · exact q.elim⟩
def mInS : M2 := fun x y st Q => ∃ (c : Nat) (z : Str), x = .p (.str ⟨#[c]⟩) ∧ y = .p (.str z) ∧ Q (.p (.bool (decide (c ∈ z.cps.toList)))) st
def mNotInS : M2 := fun x y st Q => ∃ (c : Nat) (z : Str), x = .p (.str ⟨#[c]⟩) ∧ y = .p (.str z) ∧ Q (.p (.bool (!decide (c ∈ z.cps.toList)))) st
theorem om_inS : OpM X (compareOp .In) mInS := ⟨_, op_in_sign, fun F cs H st x y v u Q R hs rx ry q k => by
  obtain ⟨c, z, rfl, rfl, q⟩ := q
  exact ⟨c, z, rp_str rx, rp_str ry, k _ _ (.mk hs (.p (.bl _)) q)⟩⟩
theorem om_notInS : OpM X (compareOp .NotIn) mNotInS := ⟨_, op_notIn_sign, fun F cs H st x y v u Q R hs rx ry q k => by
  obtain ⟨c, z, rfl, rfl, q⟩ := q
  exact ⟨c, z, rp_str rx, rp_str ry, k _ _ (.mk hs (.p (.bl _)) q)⟩⟩
def mSlS (x : SV) (lo hi : Option Int) (st : Store) (Q : SV → Store → Prop) : Prop := ∃ z, x = .p (.str z) ∧ z.length ≤ sizeLine ∧ Q (.p (.str (cutS z lo hi))) st
def wSlS (we : WE) (lo hi : WO) : WE := fun env st Q => we env st fun x s1 => lo env s1 fun l s2 => hi env s2 fun u s3 => mSlS x l u s3 Q
theorem se_sliceS {e : Expr} {lo hi : Option Expr} {we : WE} {wl wh : WO} {p2 pos : Pos} (he : SE X e we) (hl : SO X lo wl) (hu : SO X hi wh) : SE X (.Subscript e (.Slice lo hi none p2) pos) (wSlS we wl wh) := by
  obtain ⟨te, pe, ke⟩ := he
  obtain ⟨tl, pl, kl⟩ := hl
  obtain ⟨th, ph, kh⟩ := hu
  refine ⟨_, pe_slice sl_str pe pl ph, fun F cs σ H env st Q R er hs h k => ke F cs σ H env st _ _ er hs h ?_⟩
  rintro v H1 ⟨F1, c1, d, s1, a1, b1, h1, r1, q1⟩
  refine kl F1 c1 σ H1 env s1 _ _ (er.mono a1 b1) h1 q1 ?_
  rintro o H2 ⟨F2, c2, s2, a2, b2, h2, q2⟩
  refine kh F2 c2 σ H2 env s2 _ _ (er.mono (a1.trans a2) (b1.trans b2)) h2 q2 ?_
  rintro o2 H3 ⟨F3, c3, s3, a3, b3, h3, q3⟩
  have r3 := rp_up r1 (a2.trans a3) (b2.trans b3)
  have kk : ∀ v H', Post X F3 c3 Q v H' → R v H' := fun v H' p => k v H' (((p.up a3 b3).up a2 b2).up a1 b1)
  obtain ⟨z, rfl, hz, q3⟩ := q3
  exact ⟨z, rp_str r3, hz, kk _ _ (.mk h3 (.p (.str _)) q3)⟩
theorem rps_strs {K : PySem.W.Frag} {F : Hp} {cs : List Addr} : ∀ (l : List Str), Rps K F cs ((l.map PyData.str).map SV.p) (l.map V.str)
  | [] => .nil
  | c :: l => .cons (.p (.str _)) (rps_strs l)
theorem vstrs {K : PySem.W.Frag} {F : Hp} {cs : List Addr} : ∀ {l : List Str} {vs : List V}, Rps K F cs ((l.map PyData.str).map SV.p) vs → vs = l.map V.str
  | [], _, .nil => rfl
  | c :: l, _, .cons h r => by rw [rp_str h, vstrs r]; rfl
abbrev MSm := Str → SV → Store → (SV → Store → Prop) → Prop
def wSm (m : MSm) (wo we : WE) : WE := fun env st Q => wo env st fun x s1 => ∃ a, x = .p (.str a) ∧ we env s1 fun y s2 => m a y s2 Q
def mSplit : MSm := fun a y st Q => ∃ b, y = .p (.str b) ∧ (b.length == 0) = false ∧ a.length + 2 ≤ sizeLine ∧ Q (.p (.list ((Txt.split a b).map .str))) st
def mJoin : MSm := fun a y st Q => ∃ ys : List Str, seqOf st y = some ((ys.map PyData.str).map SV.p) ∧ (ys.map (·.length)).sum + ys.length * a.length ≤ 16777216 ∧ Q (.p (.str (Txt.join a ys))) st
theorem se_split {o e : Expr} {wo we : WE} {apos pos : Pos} (ho : SE X o wo) (he : SE X e we) (hs : ∀ env : PySem.Env, starEach [e] env = [(false, eval e env)] := by intro _; rfl) (hbase : ∀ env : PySem.Env, attributeBase o "split" env (eval o env) = eval o env := by intro _; rfl) (hline : (apos.endLine == pos.line) = true := by rfl) :
    SE X (.Call (.Attribute o "split" apos) [e] [] pos) (wSm mSplit wo we) := by
  obtain ⟨to, po, ko⟩ := ho
  obtain ⟨te, pe, ke⟩ := he
  refine ⟨_, pe_split po pe (hs _) (hbase _) hline, fun F cs σ H env st Q R er hs h k => ko F cs σ H env st _ _ er hs h ?_⟩
  rintro v H1 ⟨F1, c1, d, s1, a1, b1, h1, r1, q1⟩
  obtain ⟨a, rfl, q1⟩ := q1
  refine ⟨⟨a, rp_str r1⟩, ke F1 c1 σ H1 env s1 _ _ (er.mono a1 b1) h1 q1 ?_⟩
  rintro u H2 ⟨F2, c2, d2, s2, a2, b2, h2, r2, q2⟩
  obtain ⟨b, rfl, hb, hl, q2⟩ := q2
  refine ⟨a, b, rp_str r1, by rw [rp_str r2], hb, hl, fun p hp => ?_⟩
  exact k _ _ (((new_list h2 hp (rps_strs _) q2).up a2 b2).up a1 b1)
theorem se_join {o e : Expr} {wo we : WE} {apos pos : Pos} (ho : SE X o wo) (he : SE X e we) (hs : ∀ env : PySem.Env, starEach [e] env = [(false, eval e env)] := by intro _; rfl) (hbase : ∀ env : PySem.Env, attributeBase o "join" env (eval o env) = eval o env := by intro _; rfl) (hline : (apos.endLine == pos.line) = true := by rfl) :
    SE X (.Call (.Attribute o "join" apos) [e] [] pos) (wSm mJoin wo we) := by
  obtain ⟨to, po, ko⟩ := ho
  obtain ⟨te, pe, ke⟩ := he
  refine ⟨_, pe_join po pe (hs _) (hbase _) hline, fun F cs σ H env st Q R er hs h k => ko F cs σ H env st _ _ er hs h ?_⟩
  rintro v H1 ⟨F1, c1, d, s1, a1, b1, h1, r1, q1⟩
  obtain ⟨a, rfl, q1⟩ := q1
  refine ⟨⟨a, rp_str r1⟩, ke F1 c1 σ H1 env s1 _ _ (er.mono a1 b1) h1 q1 ?_⟩
  rintro u H2 ⟨F2, c2, d2, s2, a2, b2, h2, r2, q2⟩
  obtain ⟨ys, e, hl, q2⟩ := q2
  obtain ⟨a3, vs, rfl, hL, r3⟩ := rp_seq h2 r2 e
  have := vstrs r3
  subst this
  exact ⟨a, a3, ys, rp_str r1, rfl, hL, hl, k _ _ (((Post.mk h2 (.p (.str _)) q2).up a2 b2).up a1 b1)⟩
end
end M

namespace M
open PySem PySem.Spec PyProof.Rows L2
def tSlG (to : TE) (tl th : TO) : TG := fun v σ H Q => to σ H fun x H1 => tl σ H1 fun l H2 => th σ H2 fun r H3 => ∃ a b xs ys, ∃ i j : Int, x = .ref a ∧ v = .ref b ∧ l = some i ∧ r = some j ∧ H3 a = some (.lst xs) ∧ H3 b = some (.lst ys) ∧ a ≠ b ∧ 0 ≤ i ∧ i ≤ j ∧ j ≤ xs.length ∧ xs.length + ys.length ≤ sizeLine ∧
  Q σ (upd H3 a (.lst (xs.take i.toNat ++ ys ++ xs.drop j.toNat)))
section
variable {X : Cx}
theorem pg_slS {o : Expr} {lo hi : Option Expr} {to : TE} {tl th : TO} {p2 pos : Pos} (ho : PE X o to) (hl : PO X lo tl) (hu : PO X hi th)
    (ha : ∀ v, assign (.Subscript o (.Slice lo hi none p2) pos) X.env v = (do
      let ov ← holding [v] (eval o X.env)
      let iv ← holding [v, ov] (eval (.Slice lo hi none p2) X.env)
      standAt pos
      holding [v, ov, iv] (setItem ov iv v)
      release [iv, v, ov] []) := by intro _; rfl) : PG X (.Subscript o (.Slice lo hi none p2) pos) (tSlG to tl th) := by
  refine ⟨fun pins s σ H v u Q I r h => ?_⟩
  rw [ha]
  refine wpAny_bind (wpAny_holding (thn (ho.run pins s σ H _ I h) fun ov s1 ⟨x, H1, I1, r1, q1⟩ => ?_))
  refine wpAny_bind (wpAny_holding ?_)
  refine wpAny_Slice (thn (hl.run pins s1 σ H1 _ I1 q1) fun vl s2 ⟨l, H2, I2, pl, q2⟩ => thn (hu.run pins s2 σ H2 _ I2 q2) fun vu s3 ⟨z, H3, I3, pu, q3⟩ => ?_)
  rw [evalPart_none]
  refine wpAny_pure ?_
  obtain ⟨a, b, xs, ys, i, j, rfl, rfl, rfl, rfl, e1, e2, hne, h0, h1, h2, h3, q⟩ := q3
  cases r1
  cases r
  have I4 : Inv X pins σ H3 { s3 with heap := s3.heap.push { cls := .type "slice", data := .fields #[vl, vu, .none] } } := I3.kept (t' := s3.toks) fun b ob q => Heap.get?_push_of_some _ q
  have ra : RelV (.int i) vl := by cases pl; exact ⟨_, rfl⟩
  have rc : RelV (.int j) vu := by cases pu; exact ⟨_, rfl⟩
  refine wpAny_bind (wpAny_standAt (wpAny_bind (wpAny_holding (set_slice I4 e1 e2 hne (Heap.IsSliceOf.new ..) ra rc h0 h1 h2 h3 fun s' I' => ?_))))
  exact wpAny_release ⟨σ, _, I', q⟩
end
section
variable {X : XM}
def mSetSl (x : SV) (l u : Option Int) (d : SV) (st : Store) (Q : Store → Prop) : Prop := ∃ (n a c : Nat) (xs : List SV) (ys : List PyData), x = .c n ∧ l = some (a : Int) ∧ u = some (c : Int) ∧ d = .p (.list ys) ∧ st[n]? = some (.lst xs) ∧ a ≤ c ∧ c ≤ xs.length ∧ xs.length + ys.length ≤ sizeLine ∧
  Q (st.set n (.lst (xs.take a ++ ys.map SV.p ++ xs.drop c)))
def gSlS (wo : WE) (lo hi : WO) : WG := fun d env st Q => wo env st fun x s1 => lo env s1 fun l s2 => hi env s2 fun u s3 => mSetSl x l u d s3 (Q env)
theorem sg_slS {o : Expr} {lo hi : Option Expr} {wo : WE} {wl wh : WO} {p2 pos : Pos} (ho : SE X o wo) (hl : SO X lo wl) (hu : SO X hi wh)
    (ha : ∀ v, assign (.Subscript o (.Slice lo hi none p2) pos) X.env v = (do
      let ov ← holding [v] (eval o X.env)
      let iv ← holding [v, ov] (eval (.Slice lo hi none p2) X.env)
      standAt pos
      holding [v, ov, iv] (setItem ov iv v)
      release [iv, v, ov] []) := by intro _; rfl) : SG X (.Subscript o (.Slice lo hi none p2) pos) (gSlS wo wl wh) := by
  obtain ⟨to, po, ko⟩ := ho
  obtain ⟨tl, pl, kl⟩ := hl
  obtain ⟨th, ph, kh⟩ := hu
  refine ⟨_, pg_slS po pl ph ha, fun F cs σ H env st d v Q R er hs r q k => ?_⟩
  refine ko F cs σ H env st _ _ er hs q ?_
  rintro x H1 ⟨F1, c1, d1, s1, a1, b1, hs1, r1, q1⟩
  refine kl F1 c1 σ H1 env s1 _ _ (er.mono a1 b1) hs1 q1 ?_
  rintro l H2 ⟨F2, c2, s2, a2, b2, hs2, q2⟩
  refine kh F2 c2 σ H2 env s2 _ _ (er.mono (a1.trans a2) (b1.trans b2)) hs2 q2 ?_
  rintro u H3 ⟨F3, c3, s3, a3, b3, hs3, q3⟩
  obtain ⟨n, i, j, xs, ys, rfl, rfl, rfl, rfl, e, h1, h2, h3, q3⟩ := q3
  have r1' := rp_up r1 (a2.trans a3) (b2.trans b3)
  have r' := rp_up r (a1.trans (a2.trans a3)) (b1.trans (b2.trans b3))
  cases r1' with
  | @c _ a ca =>
    obtain ⟨vs, e2, rv⟩ := hs3.cell n a _ ca e
    cases r' with
    | p r' =>
      cases r' with
      | @lst b ws _ hb hd =>
        have hbH := hs3.sub _ _ hb
        have hne : a ≠ b := fun e => by
          subst e
          have := hs3.free a (List.mem_of_getElem? ca)
          rw [hb] at this
          cases this
        have l1 := rv.length
        have rw' : Rps X.K F3 c3 (ys.map SV.p) ws := rps_p.mpr hd
        have l2 : ys.length = ws.length := by have := rw'.length; simpa using this
        refine ⟨a, b, vs, ws, i, j, rfl, rfl, rfl, rfl, e2, hbH, hne, by omega, by omega, by omega, by omega, ?_⟩
        rw [Int.toNat_natCast, Int.toNat_natCast]
        refine k _ _ ⟨F3, c3, env, _, a1.trans (a2.trans a3), b1.trans (b2.trans b3), er.mono (a1.trans (a2.trans a3)) (b1.trans (b2.trans b3)), hs3.write (m := .lst (xs.take i ++ ys.map SV.p ++ xs.drop j)) ca ⟨_, upd_same, ?_⟩, q3⟩
        exact ((rv.take i).append rw').append (rv.drop' j)
end
end M

namespace M
open PySem PySem.Spec PyProof.Rows L2
section
variable {X : Cx}
theorem op_mul_str : OpR X (binaryOp .Mult) (fun x y H Q => ∃ z n, x = .str z ∧ y = .int n ∧ MulOk z n ∧ Q (.str (Txt.mul z n)) H) := by
  intro pins s σ H x y v u Q I rx ry h
  obtain ⟨z, n, rfl, rfl, hok, q⟩ := h
  obtain ⟨t, rfl⟩ := rx
  obtain ⟨t', rfl⟩ := ry
  exact SB.mul hok fun t' k => ⟨.str _, H, I.tok k, ⟨t', rfl⟩, q⟩
end
section
variable {X : XM}
def mMulS : M2 := fun x y st Q => ∃ z n, x = .p (.str z) ∧ y = .p (.int n) ∧ z.length ≤ 100 ∧ 0 ≤ n ∧ n ≤ 10000 ∧ Q (.p (.str (Txt.mul z n))) st
theorem om_mulS : OpM X (binaryOp .Mult) mMulS := ⟨_, op_mul_str, fun F cs H st x y v u Q R hs rx ry q k => by
  obtain ⟨z, n, rfl, rfl, h1, h2, h3, q⟩ := q
  exact ⟨z, n, rp_str rx, rp_int ry, mulOk_of 100 10000 h1 (by omega) (by omega) (by decide) (by decide), k _ _ (.mk hs (.p (.str _)) q)⟩⟩
theorem reps_mem (a : Array Nat) {c : Nat} : ∀ (k : Nat) (acc : Array Nat), c ∈ (((List.replicate k a).foldl (· ++ ·) acc)).toList → c ∈ acc.toList ∨ c ∈ a.toList
  | 0, acc, h => .inl (by simpa using h)
  | k + 1, acc, h => by
    rw [List.replicate_succ, List.foldl_cons] at h
    rcases reps_mem a k _ h with h | h
    · simp only [Array.toList_append, List.mem_append] at h
      exact h
    · exact .inr h
theorem mul_mem {z : Str} {n : Int} {c : Nat} (h : c ∈ (Txt.mul z n).cps.toList) : c ∈ z.cps.toList := by
  unfold Txt.mul at h
  split at h
  · exact absurd h (by simp [Str.empty])
  · split at h
    · exact h
    · rcases reps_mem z.cps n.toNat #[] h with h | h
      · simp at h
      · exact h
end
end M


namespace M
open PySem PySem.Spec PyProof.Rows L2
structure LawOk (P : Program) (w : World) (K : PySem.W.Frag) (mg : Str → Option Value) (base : Heap) (k : Nat) (f : Addr) (fd : FuncData) (ps : List Str) (sp : Sp) : Prop where
  run : ∀ (A : Around) (outer : List PySem.Env) (s : Shared) (H : Hp) (args : Args) (us : List Value) (vs : List V) (Q : VK) (E : XK), A.guards = some [] → Room k A → Env0 P w K mg base A outer s H → BindsTo s fd args (ps.zip us) → Vals vs us → sp vs H Q E →
    codeAny (model P w) A (.call (.ref f) args) (CR CX0 outer P w H s Q E) s
section
variable {P : Program} {w : World} {K : PySem.W.Frag} {mg : Str → Option Value} {base : Heap}
theorem law_ok {x qual : Str} {st : Stmt} {f : Addr} {fd : FuncData} {N ps : List Str} {k : Nat} {sp : Sp} (Fu : Fun K x qual st f fd) (S : FnScope N ps (defScope st)) (len : ∀ vs H Q E, sp vs H Q E → vs.length = ps.length)
    (hbody : ∀ (cdv : Value) (A : Around) (outer : List PySem.Env) (s : Shared) (H : Hp) (vs : List V) (Q : VK) (E : XK), A.guards = some [] → Room k (A.deeper (envOfC qual (defScope st) s.heap.objs.size f cdv)) → sp vs H Q E →
      ∃ t, PSs (cxOf CX0 P w K mg base N qual (defScope st) f cdv A outer s H E).nox (defBody st) t ∧ t { nx := fun _ H' => Q .non H', rt := Q } (L2.start N vs) H) : LawOk P w K mg base (k + 1) f fd ps sp := by
  obtain ⟨oc, od, kV, doc, pm, an, cdv, ct, osl, rfl, lk, hcd⟩ := Fu.ex
  refine ⟨fun A outer s H args us vs Q E hg hr e0 hb r hsp => ?_⟩
  have KX : K.In s.heap := e0.mod.kin.keeps fun b o e => (e0.bs b o e).1
  refine codeAny_call_function hr.depth (KX _ _ lk) rfl S.co S.gen rfl (PySem.W.codeRec_of KX hcd) (hb _ _ _ _ ?_)
  refine wpAny_newFunctionEnv_cells S.kind (fun ⟨n, v⟩ hy => ?_) fun env he s1 x => ?_
  · rcases S.par n (List.of_mem_zip hy).1 with q | q
    · exact .inl q
    · exact .inr ⟨q, PySem.W.cellsFrom_some _ _ _ (.inl q)⟩
  subst he
  have lim : s.heap.NoLimit := e0.mod.nolimit.keeps fun b o e => (e0.bs b o e).1
  refine ⟨lim.keeps x.toInCall.keep, codeAny_func ?_⟩
  obtain ⟨t, ht, hq⟩ := hbody cdv A outer s H vs Q E hg (hr.deeper _) hsp
  have I := inv_start (CX := CX0) (E := E) S hr.hd e0 (len _ _ _ _ hsp) r x
  refine wpAny_mono (ht.nox.run [] s1 (L2.start N vs) H _ I hq) (fun fl s' hs => ?_) fun e s' hs => hs
  have fin : ∀ {σ' : L2.St} {H' : Hp} {v : V} {u : Value}, Inv (cxOf CX0 P w K mg base N qual (defScope st) f cdv A outer s H E) [] σ' H' s' → RelV v u → Q v H' → CE outer P w H s Q u s' :=
    fun {σ' H' v u} J rv q => ⟨v, H', J.os, J.bare, J.base, J.hok, rv, q⟩
  cases fl with
  | ret u => obtain ⟨v, σ', H', J, rv, q⟩ := hs; exact fin J rv q
  | next => obtain ⟨σ', H', J, q⟩ := hs; exact fin (v := V.non) (u := Value.none) J rfl q
  | brk => obtain ⟨_, _, _, q⟩ := hs; exact q.elim
  | cont => obtain ⟨_, _, _, q⟩ := hs; exact q.elim
end
theorem call_law {P : Program} {w : World} {K : PySem.W.Frag} {mg mb : Str → Option Value} {k : Nat} {fa a : Addr} {fd : FuncData} {x : Str} {sp : Sp} {s₁ : Shared} {vs : List Value} {ns : List Int}
    (KX : K.In s₁.heap) (hns : s₁.heap.Ns mainGlobals mg) (hb : s₁.heap.Ns builtinsNs mb) (hbb : ∀ x : Str, x ≠ "__name__" → mb x = bootBuiltins x) (hlim : s₁.heap.NoLimit) (hg : s₁.gens = #[])
    (ha : s₁.heap.get? a = some { cls := .type "list", data := .seq vs.toArray }) (hi : IntsAre vs ns) (hl : ns.length ≤ sizeLine) (hr : Room k callerA)
    (F : ∀ base : Heap, K.In base → base.Ns mainGlobals mg → LawOk P w K mg base k fa fd [x] sp) (hbind : ∀ (s : Shared) (u : Value), BindsTo s fd ⟨[u], []⟩ [(x, u)])
    (hsp : ∀ H : Hp, Only H → SqL K H a (ns.map V.int) → sp [.ref a] H (fun v _ => v = .bl true) fun _ _ _ => False)
    (hCX : ∀ H e s', CX0 [] H s₁ (fun _ _ _ => False) e s' → False) :
    codeAny (model P w) callerA (.call (.ref fa) ⟨[.ref a], []⟩) (fun r s' => r = .ok (.ret (.bool true)) ∧ OldK s₁.heap s'.heap ∧ s'.os = s₁.os ∧ AllBare s'.gens) s₁ := by
  have rv := vals_ints hi
  have lenV := hi.length
  -- what is tracked: nothing but the script, H, the heap's rest the base
  have main : ∀ H : Hp, Only H → SqL K H a (ns.map V.int) → HOk P w H s₁.heap → (∀ b, H b ≠ none → b = a ∧ K.lookup a = none) →
      codeAny (model P w) callerA (.call (.ref fa) ⟨[.ref a], []⟩) (fun r s' => r = .ok (.ret (.bool true)) ∧ OldK s₁.heap s'.heap ∧ s'.os = s₁.os ∧ AllBare s'.gens) s₁ := by
    intro H hO hS hok hA
    have free : ∀ {b : Addr} {o : Obj}, s₁.heap.get? b = some o → (∀ c, o.data ≠ .seq vs.toArray c) → H b = none := fun {b o} e d => by
      cases q : H b with
      | none => rfl
      | some u =>
        obtain ⟨rfl, _⟩ := hA b (by rw [q]; simp)
        rw [ha] at e
        cases e
        exact absurd rfl (d _)
    have nsK : ∀ {b : Addr} {m : Str → Option Value}, s₁.heap.Ns b m → (hidT s₁.heap H).Ns b m := fun {b m} ⟨o, es, ep, e, d, r⟩ => ⟨o, es, ep, hidT_get e (free e fun c z => by rw [d] at z; cases z), d, r⟩
    have hKb : K.In (hidT s₁.heap H) := fun b o e => hidT_get (KX b o e) (by
      cases q : H b with
      | none => rfl
      | some u =>
        obtain ⟨rfl, z⟩ := hA b (by rw [q]; simp)
        rw [z] at e
        cases e)
    obtain ⟨mc, l1, l2⟩ := hlim
    have hM : Mod K mg (hidT s₁.heap H) := ⟨hKb, nsK hns, ⟨mb, nsK hb, hbb⟩, ⟨mc, nsK l1, l2⟩⟩
    have e0 : Env0 P w K mg (hidT s₁.heap H) callerA [] s₁ H := ⟨rfl, hM, fun b o e => of_hidT e, Nat.le_of_eq (hidT_size _ _), trivial, fun b hb => absurd (show b ∈ ([] : List Addr) from hb) (by simp), hok, .of_eq hg⟩
    refine codeAny_mono ((F _ hKb (nsK hns)).run callerA [] s₁ H ⟨[.ref a], []⟩ [.ref a] [.ref a] _ _ rfl hr e0 (hbind s₁ (.ref a)) (.cons rfl .nil) (hsp H hO hS)) fun r s' h => ?_
    match r, h with
    | .error e, h => exact (hCX H e s' h).elim
    | .ok (.ret u), ⟨v, H', os, bare, un, hok', r', q⟩ =>
      have q' : v = .bl true := q
      subst q'
      obtain rfl : u = Value.bool true := r'
      refine ⟨rfl, OldK.of_keep fun b o e => ?_, os, bare⟩
      rcases hO b with z | ⟨ob, xs, z⟩
      · exact un.keep b o e z (by intro z; exact absurd (show b ∈ ([] : List Addr) from z) (by simp)) (by simp)
      · obtain ⟨e1, _⟩ := hok b _ z
        obtain ⟨e2, _⟩ := hok' b _ (un.frzs b ob _ z)
        rw [e] at e1
        cases e1
        exact e2
  cases hk : K.lookup a with
  | some o =>
    have e := KX a o hk
    rw [ha] at e
    cases e
    exact main (fun _ => none) (fun _ => .inl rfl) (.inr ⟨_, vs.toArray, _, hk, rfl, rfl, rfl, by rw [List.size_toArray, lenV]; exact hl, by simpa using rv⟩) (fun b u z => by have z' : (none : Option HO) = some u := z; cases z') fun b z => absurd rfl z
  | none =>
    have on : ∀ b u, (if b = a then some (HO.frz { cls := .type "list", data := .seq vs.toArray } (.lst (ns.map V.int))) else none) = some u → b = a ∧ u = .frz { cls := .type "list", data := .seq vs.toArray } (.lst (ns.map V.int)) := fun b u z => by
      by_cases hb : b = a
      · rw [if_pos hb] at z
        cases z
        exact ⟨hb, rfl⟩
      · rw [if_neg hb] at z
        cases z
    refine main (fun b => if b = a then some (.frz { cls := .type "list", data := .seq vs.toArray } (.lst (ns.map V.int))) else none) (fun b => ?_) (.inl (.inr ⟨{ cls := .type "list", data := .seq vs.toArray }, if_pos rfl⟩)) (fun b u z => ?_) fun b z => ?_
    · by_cases hb : b = a
      · exact .inr ⟨_, _, if_pos hb⟩
      · exact .inl (if_neg hb)
    · obtain ⟨rfl, rfl⟩ := on b u z
      exact ⟨ha, by rw [List.length_map]; exact hl, vs, _, rv, ha⟩
    · refine ⟨?_, hk⟩
      by_cases hb : b = a
      · exact hb
      · exact absurd (if_neg hb) z
theorem walk_law {l : PySem.W.OpenLaw} {n k : Nat} {q : Program} {loose : List Str} {XP : (Str → Option Value) → Heap → Prop} {YP : World → Heap → Prop} {d : DefRec} {K : Params → PySem.W.Frag} {sp : World → Sp} {x : Str}
    (hn : l.most = some n) (hn2 : n ≤ sizeLine) (hdf : d.params.defaults = []) (hr : Room k callerA)
    (hY : ∀ (w : World) (h : Heap), YP w h → (K w.params).In h)
    (F : ∀ (w : World) (mg : Str → Option Value) (fa : Addr) (h : Heap), (K w.params).In h → h.Ns mainGlobals mg → mg d.name = some (.ref fa) →
      ∃ fd : FuncData, (∀ (s : Shared) (u : Value), BindsTo s fd ⟨[u], []⟩ [(x, u)]) ∧
        ∀ base : Heap, (K w.params).In base → base.Ns mainGlobals mg → LawOk l.prog w (K w.params) mg base k fa fd [x] (sp w))
    (hsp : ∀ (w : World) (H : Hp) (a : Addr) (ns : List Int), ns.length ≤ n → Only H → SqL (K w.params) H a (ns.map V.int) → sp w [.ref a] H (fun v _ => v = .bl true) fun _ _ _ => False)
    (hCX : ∀ (w : World) (H : Hp) (s : Shared) (e : Value) (s' : Shared), CX0 [] H s (fun _ _ _ => False) e s' → False) :
    PySem.W.WalkO q loose XP YP l.row.toRowW d [] (fun f vs => PySem.call f vs) := by
  refine Att.attach_call hn hdf fun w s₀ s₁ mg mb fa o pm cd doc a vs ns G Y ho hd hcd hmg hobj hints hlen hg => ?_
  have KX := hY w _ Y
  obtain ⟨fd, hb, hF⟩ := F w mg fa _ KX G.T.g hmg
  exact call_law KX G.T.g G.T.b G.T.builtins G.T.nolimit hg hobj hints (Nat.le_trans hlen hn2) hr hF hb (fun H hO hS => hsp w H a ns hlen hO hS) fun H e s' => hCX w H s₁ e s'
end M

namespace M
open PySem PySem.Spec PyProof.Rows L2
def Shw (d : PyData) : Prop := PyData.layable0 d = true ∧ d.intsShort 13 = true ∧ d.showable = true
theorem shw_len {d : PyData} (h : Shw d) : d.shown.length ≤ sizeLine := by
  have := shown_le13 h.1 h.2.1
  rw [sizeLine_eq]
  omega
section
variable {X : Cx}
theorem call_repr (hg : X.A.guards = some []) (hu : X.A.units + 66 < cLine) : CallR X (.builtin "repr") (fun xs H Q => ∃ x d, xs = [x] ∧ Dp X.K H x d ∧ Shw d ∧ Q (.str d.shown) H) := by
  intro pins s σ H xs us Q I r h
  obtain ⟨x, d, rfl, hd, hs, q⟩ := h
  obtain ⟨u, rfl, ru⟩ := vals1 r
  obtain ⟨as, rd⟩ := Dp.reads I d x u hd ru
  have hl := shw_len hs
  have hz : (PyData.canLay0 d && decide (PyData.depth d ≤ 64) && decide (PyData.weight d ≤ 2 ^ 20)) = true := hs.1
  simp only [Bool.and_eq_true, decide_eq_true_eq] at hz
  have hnd := PyData.hasDict_of_canLay d hz.1.1
  have big : ∀ {a : Addr}, Reads s.heap (.ref a) d as → wpAny (model X.prog X.w) X.A (call (.builtin "repr") [.ref a]) (EP X pins σ Q) X.xe s := fun {a} rd =>
    repr_of_reads' rd hs.2.2 (PyData.noDict_hsm hnd) hg (by have := hz.1.2; omega) (fun _ _ e => e) (fun h' u tk hk => ⟨.str _, H, I.kept (t' := tk) hk, ⟨u, rfl⟩, q⟩) hl
  cases rd with
  | none => exact PySem.P.repr_of_none ⟨.str _, H, I.tok _, ⟨_, rfl⟩, q⟩
  | bool b =>
    refine PySem.P.repr_of_bool ?_
    cases b <;> exact ⟨.str _, H, I.tok _, ⟨_, rfl⟩, q⟩
  | int i t => exact PySem.P.repr_of_int (of_decide_eq_true hs.2.2) ⟨.str _, H, I.tok _, ⟨_, rfl⟩, q⟩
  | str y t => exact PySem.P.repr_of_str ⟨.str _, H, I.tok _, ⟨_, rfl⟩, q⟩ hl
  | list h1 h2 h3 h4 => exact big (.list h1 h2 h3 h4)
  | tuple h1 h2 h3 h4 => exact big (.tuple h1 h2 h3 h4)
  | dict h1 h2 h3 h4 h5 => exact absurd hnd (by simp [PyData.hasDict])
end
section
variable {X : XM}
def mRepr : MC := fun xs st Q => match xs with
  | [.p d] => Shw d ∧ Q (.p (.str d.shown)) st
  | _ => False
theorem cm_repr (hg : X.A.guards = some []) (hu : X.A.units + 66 < cLine) : CallM X (.builtin "repr") mRepr := by
  refine ⟨_, call_repr hg hu, fun F cs H st xs vs Q R hs rx q k => ?_⟩
  unfold mRepr at q
  split at q
  · rename_i d
    obtain ⟨v, rfl, r⟩ := rps1 rx
    cases r with
    | p r => exact ⟨v, d, rfl, dq_dp hs.sub _ _ r, q.1, k _ _ (.mk hs (.p (.str _)) q.2)⟩
  · exact q.elim
theorem cm_reprR {k : Nat} (hg : X.A.guards = some []) (hr : Room k X.A) : CallM X (.builtin "repr") mRepr := cm_repr hg (by have := hr.un; omega)
def mNeS : M2 := fun x y st Q => ∃ a b : Str, x = .p (.str a) ∧ y = .p (.str b) ∧ Q (.p (.bool (!(a == b)))) st
theorem om_neS : OpM X (compareOp .NotEq) mNeS := ⟨_, op_ne, fun F cs H st x y v u Q R hs rx ry q k => by
  obtain ⟨a, b, rfl, rfl, q⟩ := q
  rw [rp_str rx, rp_str ry]
  refine ⟨rfl, ?_⟩
  rw [dec_str]
  exact k _ _ (.mk hs (.p (.bl _)) q)⟩
end
section
theorem LawOk.imp {P : Program} {w : World} {K : PySem.W.Frag} {mg : Str → Option Value} {base : Heap} {k : Nat} {f : Addr} {fd : FuncData} {ps : List Str} {sp sp' : Sp} (F : LawOk P w K mg base k f fd ps sp)
    (h : ∀ vs H Q E, sp' vs H Q E → sp vs H Q E) : LawOk P w K mg base k f fd ps sp' := ⟨fun A outer s H args us vs Q E hg hr he hb hv hs => F.run A outer s H args us vs Q E hg hr he hb hv (h _ _ _ _ hs)⟩
theorem fnL {P : Program} {w : World} {K : PySem.W.Frag} {mg : Str → Option Value} {base : Heap} {x qual : Str} {st : Stmt} {f : Addr} {fd : FuncData} {N ps : List Str} {k : Nat} {sp : MSp} {W : WS} (Fu : Fun K x qual st f fd) (S : FnScope N ps (defScope st))
    (len : ∀ ds s R, sp ds s R → ds.length = ps.length)
    (hder : ∀ (cdv : Value) (A : Around) (outer : List PySem.Env) (s : Shared) (H : Hp) (E : XK), A.guards = some [] → Room k (A.deeper (envOfC qual (defScope st) s.heap.objs.size f cdv)) → SSs ⟨(cxOf CX0 P w K mg base N qual (defScope st) f cdv A outer s H E).nox, fun _ _ _ _ => False⟩ (defBody st) W)
    (hread : ∀ ds s R, Wf s → sp ds s R → W (fnEnds s.length R) (startE N.length ds) s) : LawOk P w K mg base (k + 1) f fd ps (spM K sp) := by
  refine law_ok Fu S (fun vs H Q E h => ?_) (fun cdv A outer s H vs Q E hg hr h => ?_)
  · obtain ⟨F, cs, ds, st, R, hs, r, q, _⟩ := h
    rw [← r.length]; exact len _ _ _ q
  · obtain ⟨F, cs, ds, s0, R, hs, r, q, kk⟩ := h
    obtain ⟨t, p, kt⟩ := hder cdv A outer s H E hg hr
    refine ⟨t, p, kt F cs cs (L2.start N vs) H (startE N.length ds) s0 (fnEnds s0.length R) _ (List.prefix_refl _) hs.len ⟨er_start r, .none fun _ _ _ _ z => z⟩ hs (hread ds s0 R hs.wf q) ?_⟩
    have fin : ∀ F' cs' H' st' d v, Same F F' → cs <+: cs' → HS K F' cs' H' st' → Rp K F' cs' d v → RetTo s0.length R d st' → Q v H' := fun F' cs' H' st' d v u1 u2 u3 u4 u5 => by
      rcases u5 with u5 | ⟨hb, wf, ud, u5⟩
      · exact kk F' cs' H' st' d v u1 u2 u3 u4 u5
      · exact kk F' (cs'.take s0.length) H' (st'.take s0.length) d v u1 (pre_take u2 (by rw [hs.len]; exact Nat.le_refl _)) (u3.cut wf hb) (rp_take _ _ u4 ud) u5
    exact ⟨fun F' cs' σ' H' env' st' u1 u2 u3 u4 u5 => fin F' cs' H' st' _ .non u1 u2 u4 (.p .non) u5, fin, fun _ _ _ _ _ _ _ _ _ _ z => z.elim, fun _ _ _ _ _ _ _ _ _ _ z => z.elim, .none fun _ _ _ _ z => z⟩
end
end M


namespace M
open PySem PySem.Spec PyProof.Rows L2
theorem tuple_mul1 (l : Addr) (items : Array Value) (n : Nat) (dd : Option Addr) (sl : Array (Option Value)) (u : Tok) :
    Meets (Builtin.«tuple.__mul__» ⟨[.ref l, .int 1 u], []⟩) (fun _ R s => s.heap.get? l = some { cls := .type "tuple", dict := dd, data := .seq items n, slots := sl } ∧
      R (.ok (.ret (Value.ref l))) s) :=
  .of_wp fun prog w A R s h => by
    obtain ⟨hp, g, d, tk, os⟩ := s
    obtain ⟨hl, h⟩ := h
    have f1 := AutoSeq1.idx_int
    wp_walk using wpAny_loadPart' hl
    exact ⟨_, rfl, h⟩
section
variable {X : Cx}
theorem op_repT1 : OpR X (binaryOp .Mult) (fun x y H Q => ∃ l xs, x = .ref l ∧ y = .int 1 ∧ SqT X.K H l xs ∧ Q x H) := by
  intro pins s σ H x y v u Q I rx ry h
  obtain ⟨l, xs, rfl, rfl, hT, q⟩ := h
  cases rx
  obtain ⟨t, rfl⟩ := ry
  obtain ⟨its, r, ⟨⟨cls, dd, data, sl⟩, ho, hc, n, hd⟩, hs⟩ := I.tuple hT
  simp only at hc hd
  subst hc hd
  exact wpAny_binaryOp_repeat_ref (T := "tuple") (U := "int") (by decide) ⟨_, ho, rfl⟩ (fun s' => typeIs_int s' 1 t) noFill_tuple_mul F.fills_int_mul F.slot_int_rmul repeat_tuple F.slot_int_index.lookup
    (call_meets F.slot_int_rmul (typeIs_int s 1 t) F.entry_int_rmul (F.args_int_rmul_2 _ _) (int_rmul_tuple 1 t l its.toArray n dd sl)
      ⟨ho, rfl, ⟨_, ho, rfl⟩, call_meets F.slot_tuple_mul ⟨_, ho, rfl⟩ F.entry_tuple_mul (F.args_tuple_mul_2 _ _) (tuple_mul1 l its.toArray n dd sl t) ⟨ho, ⟨.ref l, H, I, rfl, q⟩⟩⟩)
end
section
variable {X : XM}
def mMulTA : M2 := fun x y st Q => (∃ ds, x = .p (.tuple ds) ∧ y = .p (.int 1) ∧ Q x st) ∨ mMulT x y st Q
theorem om_mulTA : OpM X (binaryOp .Mult) mMulTA := by
  obtain ⟨r, h1, h2⟩ := om_mulT (X := X)
  refine ⟨_, OpR.or op_repT1 h1, fun F cs H st x y v u Q R hs rx ry q k => ?_⟩
  rcases q with ⟨ds, rfl, rfl, q⟩ | q
  · obtain ⟨a, vs, rfl, ht, dd⟩ := rp_tupP rx
    exact .inl ⟨a, vs, rfl, rp_int ry, sqT_mono hs.sub ht, k _ _ (.mk hs rx q)⟩
  · exact .inr (h2 F cs H st x y v u Q R hs rx ry q k)
end
end M

namespace M
open PySem PySem.Spec PyProof.Rows L2
local macro_rules | `(tactic| walk_at "m") => `(tactic| simp (maxSteps := 2000000) (implicitDefEqProofs := false) only [v_0, v_s, e_c, e_op, e_test, e_and, e_or, e_not, e_andv, e_orv, e_notv, e_ife, e_chain, e_anil, e_acons, e_cb, e_call, e_tup, e_lst, e_lstc, e_sl, e_onone, e_osome, e_mt, e_isi, e_neg, e_rd, s_augs, e_lrg, e_lrgc, e_callx, e_orx, e_isx, e_isxt, e_place, s_raisep, s_raiset, s_try, s_frzv, isNone_x, x_ex, x_pl, xis_pp, xis_pt, xis_pm, xis_pl, xis_V, xis_R, xis_tt, xis_tp, xis_tm, xis_tl, xis_mm, xis_mp, xis_mt, xis_ml, xis_ll, xis_lp, xis_lt, xis_lm, List.any_cons, List.any_nil, in_errs0, in_errs1, in_errs2, in_errs3, m_in, m_notin, m_isb, m_notb,
  s_seq, s_next, s_break, s_cont, s_never, s_drop, s_ret, s_retn, s_if, s_asg, s_par, s_retf, s_retf2, wipeE, List.append_assoc, List.cons_append, List.nil_append, g_nm, g_snil, g_scons, g_tp, g_sb, m_int, m_sub, m_lt, m_le, m_gt, m_ge, m_mod, m_div, m_pow, m_add, m_addt, m_addl, m_adds, m_mul, m_mulc, m_isn, m_notn, m_eq, m_ne, p_p,
  q_t, q_l, q_tt, l_l, t_t, t_tt, m_ixt, m_ixl, m_ixtt, m_lent, m_lenl, m_lentt, m_max2, m_min2, m_intb, m_listt, m_listl, m_tuplel, m_app, m_setl, sl_t, sl_r, sl_l, isNone, tyName, isB, mkTup, allP, allP_map, Option.map_some, map_p_inj,
  q_cc, l_cc, p_cc, ty_cc, m_ixcc, m_lencc, m_tuplecc, m_listcc, asL_l, Option.bind_some, mkTup_p, st_at, st_setk, st_at0, st_set0, st_take, st_atS, st_setS, st_atS0, st_setS0, st_takeS, List.length_set, List.set_set, ix40, ix41, ix42, ix43, Nat.reduceAdd, Nat.zero_add, at_nat', at_succ, at_0, at_1, at_2, at_3, at_4, at_m1, eqv_int, eqv_bool, sh_int, sh_bool, sh_none, fnEnds, wYes, gNm,
  List.getElem?_cons_zero, List.getElem?_cons_succ, List.set_cons_zero, List.set_cons_succ, List.getElem?_map, List.length_map, List.length_cons, List.length_nil, List.length_append, List.map_cons, List.map_nil,
  Option.some.injEq, SV.p.injEq, SV.c.injEq, PyData.int.injEq, PyData.bool.injEq, exists_eq_left', exists_eq_left, exists_eq_right, exists_eq', exists_eq, exists_and_left, true_and, and_true, true_or, or_true, MO.lst.injEq, Bool.not_true, Bool.not_false, if_true, if_false, Bool.false_eq_true, ↓reduceIte, beq_self_eq_true, String.reduceBEq, Bool.or_false, Bool.false_or, Bool.and_false, Bool.false_and, Bool.or_true, Bool.true_or, decide_eq_true_eq, beq_iff_eq, Bool.not_eq_true])
local macro_rules | `(tactic| walk_at "mh") => `(tactic| simp (maxSteps := 2000000) (implicitDefEqProofs := false) only [v_0, v_s, e_c, e_op, e_test, e_and, e_or, e_not, e_andv, e_orv, e_notv, e_ife, e_chain, e_anil, e_acons, e_cb, e_call, e_tup, e_lst, e_lstc, e_sl, e_onone, e_osome, e_mt, e_isi, e_neg, e_rd, s_augs, e_lrg, e_lrgc, e_callx, e_orx, e_isx, e_isxt, e_place, s_raisep, s_raiset, s_try, s_frzv, isNone_x, x_ex, x_pl, xis_pp, xis_pt, xis_pm, xis_pl, xis_V, xis_R, xis_tt, xis_tp, xis_tm, xis_tl, xis_mm, xis_mp, xis_mt, xis_ml, xis_ll, xis_lp, xis_lt, xis_lm, List.any_cons, List.any_nil, in_errs0, in_errs1, in_errs2, in_errs3, m_in, m_notin, m_isb, m_notb,
  s_seq, s_next, s_break, s_cont, s_never, s_drop, s_ret, s_retn, s_if, s_asg, s_par, s_retf, s_retf2, wipeE, List.append_assoc, List.cons_append, List.nil_append, g_nm, g_snil, g_scons, g_tp, g_sb, m_int, m_sub, m_lt, m_le, m_gt, m_ge, m_mod, m_div, m_pow, m_add, m_addt, m_addl, m_adds, m_mul, m_mulc, m_isn, m_notn, m_eq, m_ne, p_p,
  q_t, q_l, q_tt, l_l, t_t, t_tt, m_ixt, m_ixl, m_ixtt, m_lent, m_lenl, m_lentt, m_max2, m_min2, m_intb, m_listt, m_listl, m_tuplel, m_app, m_setl, sl_t, sl_r, sl_l, isNone, tyName, isB, mkTup, allP, allP_map, Option.map_some, map_p_inj,
  q_cc, l_cc, p_cc, ty_cc, m_ixcc, m_lencc, m_tuplecc, m_listcc, asL_l, Option.bind_some, mkTup_p, st_at, st_setk, st_at0, st_set0, st_take, st_atS, st_setS, st_atS0, st_setS0, st_takeS, List.length_set, List.set_set, ix40, ix41, ix42, ix43, Nat.reduceAdd, Nat.zero_add, at_nat', at_succ, at_0, at_1, at_2, at_3, at_4, at_m1, eqv_int, eqv_bool, sh_int, sh_bool, sh_none, fnEnds, wYes, gNm,
  List.getElem?_cons_zero, List.getElem?_cons_succ, List.set_cons_zero, List.set_cons_succ, List.getElem?_map, List.length_map, List.length_cons, List.length_nil, List.length_append, List.map_cons, List.map_nil,
  Option.some.injEq, SV.p.injEq, SV.c.injEq, PyData.int.injEq, PyData.bool.injEq, exists_eq_left', exists_eq_left, exists_eq_right, exists_eq', exists_eq, exists_and_left, true_and, and_true, true_or, or_true, MO.lst.injEq, Bool.not_true, Bool.not_false, if_true, if_false, Bool.false_eq_true, ↓reduceIte, beq_self_eq_true, String.reduceBEq, Bool.or_false, Bool.false_or, Bool.and_false, Bool.false_and, Bool.or_true, Bool.true_or, decide_eq_true_eq, beq_iff_eq, Bool.not_eq_true, tp_at0, tp_at, tp_set, Option.map_none, Option.some.injEq, *])
def nI (n : Nat) : PyData := .int (n : Int)
def tv (t : List Nat) : PyData := .tuple (t.map nI)
def iL (l : List Int) : PyData := .list (l.map PyData.int)
structure Tr (t : List Nat) : Prop where
  len : t.length < 200
  le : ∀ (i v : Nat), t[i]? = some v → v ≤ i
def S_trees_many : MSp := fun ds st R => ∃ t, ds = [.p (tv t)] ∧ R (.p (.int (t.length + 1 : Nat))) st
def w_trees_many : WS :=
    (wRet (wOp mAdd (wCB mLen (aCons (wVar 0) aNil)) (wC (.p (.int 1)))))
theorem r_trees_many (ds : List SV) (s : Store) (R : SV → Store → Prop) (w : Wf s) (h : S_trees_many ds s R) : w_trees_many (fnEnds s.length R) (startE 1 ds) s := by
  obtain ⟨t, rfl, q⟩ := h
  show w_trees_many _ [some (.p (.tuple (t.map nI)))] s
  unfold w_trees_many
  walk_at "m"
  exact .inl q
def stepAt (g : Int → Int → Int) (t : List Nat) (p : Nat) (l : List Int) : List Int := l.set (t.getD (p - 1) 0) (g (l.getD (t.getD (p - 1) 0) 0) (l.getD p 0))
def upTo (g : Int → Int → Int) (t : List Nat) (l0 : List Int) : Nat → List Int
  | 0 => l0
  | i + 1 => stepAt g t (t.length - i) (upTo g t l0 i)
theorem upTo_len (g : Int → Int → Int) (t : List Nat) (l0 : List Int) : ∀ i, (upTo g t l0 i).length = l0.length
  | 0 => rfl
  | i + 1 => by
    show (stepAt g t (t.length - i) (upTo g t l0 i)).length = l0.length
    unfold stepAt
    rw [List.length_set, upTo_len g t l0 i]
def sizesF (t : List Nat) : List Int := upTo (· + ·) t (List.replicate (t.length + 1) 1) t.length
def w_sizes_k16_L1 : WS := wFor (wiR3 (aCons (wCB mLen (aCons (wVar 0) aNil)) (aCons (wC (.p (.int 0))) (aCons (wNeg (wC (.p (.int 1)))) aNil)))) (gNm 2)
    (wAsg (wOp mAdd (wOp mIx (wVar 1) (wOp mIx (wVar 0) (wOp mSub (wVar 2) (wC (.p (.int 1)))))) (wOp mIx (wVar 1) (wVar 2))) (gSb (wVar 1) (wOp mIx (wVar 0) (wOp mSub (wVar 2) (wC (.p (.int 1))))) mSetL))
def w_sizes_k16 : WS :=
    (wSeq (wAsg (wOp mMulC (wLst (aCons (wC (.p (.int 1))) aNil)) (wOp mAdd (wCB mLen (aCons (wVar 0) aNil)) (wC (.p (.int 1))))) (gNm 1))
    (wSeq w_sizes_k16_L1
    (wRetF (wVar 1))))
theorem sizes_loop {t : List Nat} (T : Tr t) (s : Store) (D : ME) (hD : ∀ j, D.nx [some (.p (.tuple (t.map nI))), some (.c s.length), j] (s ++ [.lst (((sizesF t).map PyData.int).map SV.p)])) (j0 : Option SV) :
    w_sizes_k16_L1 D [some (.p (.tuple (t.map nI))), some (.c s.length), j0] (s ++ [.lst ((List.replicate (t.length + 1) (PyData.int 1)).map SV.p)]) := by
  have hl := T.len
  unfold w_sizes_k16_L1
  refine for_rng (t.length : Int) (-1) t.length (fun Q hQ => ?_) (fun i e st => ∃ j, e = [some (.p (.tuple (t.map nI))), some (.c s.length), j] ∧ st = s ++ [.lst (((upTo (· + ·) t (List.replicate (t.length + 1) 1) i).map PyData.int).map SV.p)]) ⟨_, rfl, ?_⟩ ?_ ?_
  · unfold wiR3
    walk_at "m"
    exact ⟨by omega, by simpa using hQ⟩
  · simp [upTo]
  · rintro i e st hi ⟨j, rfl, rfl⟩
    obtain ⟨p, hp⟩ : ∃ p, t.length = p + i + 1 := ⟨t.length - i - 1, by omega⟩
    have hz : ((t.length : Int) + (i : Nat) * (-1)) = (p : Int) + 1 := by omega
    have hz1 : ((p : Int) + 1 - 1) = (p : Int) := by omega
    rw [hz]
    have ht : t[p]? = some t[p] := List.getElem?_eq_getElem (by omega)
    have hv := T.le p _ ht
    have lu := upTo_len (· + ·) t (List.replicate (t.length + 1) 1) i
    rw [List.length_replicate] at lu
    have h1 := List.getElem?_eq_getElem (l := upTo (· + ·) t (List.replicate (t.length + 1) 1) i) (i := p + 1) (by omega)
    have h2 := List.getElem?_eq_getElem (l := upTo (· + ·) t (List.replicate (t.length + 1) 1) i) (i := t[p]) (by omega)
    walk_at "m"
    simp only [hz1, at_nat', List.getElem?_map, ht, Option.map_some, nI]
    walk_at "m"
    simp only [h1, h2, Option.map_some]
    walk_at "m"
    refine ⟨_, ix_nat (by omega), .inl ⟨_, rfl, ?_⟩⟩
    congr 3
    show _ = ((stepAt _ t (t.length - i) _).map PyData.int).map SV.p
    have e1 : t.length - i = p + 1 := by omega
    rw [e1]
    unfold stepAt
    simp only [Nat.add_sub_cancel, List.getD, ht, h1, h2, Option.getD_some, List.map_set]
  · rintro e st ⟨j, rfl, rfl⟩
    exact hD j
theorem rep_one (n : Nat) (x : PyData) : (List.replicate n [SV.p x]).flatten = (List.replicate n x).map SV.p := by
  induction n with
  | zero => rfl
  | succ n ih => rw [List.replicate_succ, List.flatten_cons, ih, List.replicate_succ]; rfl
def S_sizes_k16 : MSp := fun ds st R => ∃ t, ds = [.p (tv t)] ∧ Tr t ∧ R (.p (iL (sizesF t))) st
theorem r_sizes_k16 (ds : List SV) (s : Store) (R : SV → Store → Prop) (w : Wf s) (h : S_sizes_k16 ds s R) : w_sizes_k16 (fnEnds s.length R) (startE 3 ds) s := by
  obtain ⟨t, rfl, T, q⟩ := h
  show w_sizes_k16 _ [some (.p (.tuple (t.map nI))), none, none] s
  unfold w_sizes_k16
  walk_at "m"
  have hl := T.len
  have e0 : ((t.length : Int) + 1).toNat = t.length + 1 := by omega
  refine ⟨by decide, by omega, by omega, by rw [sizeLine_eq]; omega, ?_⟩
  rw [e0, rep_one]
  refine sizes_loop T s _ (fun j => ?_) none
  walk_at "m"
  exact ⟨Nat.le_refl _, w, .inl q⟩
end M

namespace M
open PySem PySem.Spec PyProof.Rows L2
local macro_rules | `(tactic| walk_at "m") => `(tactic| simp (maxSteps := 2000000) (implicitDefEqProofs := false) only [v_0, v_s, e_c, e_op, e_test, e_and, e_or, e_not, e_andv, e_orv, e_notv, e_ife, e_chain, e_anil, e_acons, e_cb, e_call, e_tup, e_lst, e_lstc, e_sl, e_onone, e_osome, e_mt, e_isi, e_neg, e_rd, s_augs, e_lrg, e_lrgc, e_callx, e_orx, e_isx, e_isxt, e_place, s_raisep, s_raiset, s_try, s_frzv, isNone_x, x_ex, x_pl, xis_pp, xis_pt, xis_pm, xis_pl, xis_V, xis_R, xis_tt, xis_tp, xis_tm, xis_tl, xis_mm, xis_mp, xis_mt, xis_ml, xis_ll, xis_lp, xis_lt, xis_lm, List.any_cons, List.any_nil, in_errs0, in_errs1, in_errs2, in_errs3, m_in, m_notin, m_isb, m_notb,
  s_seq, s_next, s_break, s_cont, s_never, s_drop, s_ret, s_retn, s_if, s_asg, s_par, s_retf, s_retf2, wipeE, List.append_assoc, List.cons_append, List.nil_append, g_nm, g_snil, g_scons, g_tp, g_sb, m_int, m_sub, m_lt, m_le, m_gt, m_ge, m_mod, m_div, m_pow, m_add, m_addt, m_addl, m_adds, m_mul, m_mulc, m_isn, m_notn, m_eq, m_ne, p_p,
  q_t, q_l, q_tt, l_l, t_t, t_tt, m_ixt, m_ixl, m_ixtt, m_lent, m_lenl, m_lentt, m_max2, m_min2, m_intb, m_listt, m_listl, m_tuplel, m_app, m_setl, sl_t, sl_r, sl_l, isNone, tyName, isB, mkTup, allP, allP_map, Option.map_some, map_p_inj,
  q_cc, l_cc, p_cc, ty_cc, m_ixcc, m_lencc, m_tuplecc, m_listcc, asL_l, Option.bind_some, mkTup_p, st_at, st_setk, st_at0, st_set0, st_take, st_atS, st_setS, st_atS0, st_setS0, st_takeS, List.length_set, List.set_set, ix40, ix41, ix42, ix43, Nat.reduceAdd, Nat.zero_add, at_nat', at_succ, at_0, at_1, at_2, at_3, at_4, at_m1, eqv_int, eqv_bool, sh_int, sh_bool, sh_none, fnEnds, wYes, gNm,
  List.getElem?_cons_zero, List.getElem?_cons_succ, List.set_cons_zero, List.set_cons_succ, List.getElem?_map, List.length_map, List.length_cons, List.length_nil, List.length_append, List.map_cons, List.map_nil,
  Option.some.injEq, SV.p.injEq, SV.c.injEq, PyData.int.injEq, PyData.bool.injEq, exists_eq_left', exists_eq_left, exists_eq_right, exists_eq', exists_eq, exists_and_left, true_and, and_true, true_or, or_true, MO.lst.injEq, Bool.not_true, Bool.not_false, if_true, if_false, Bool.false_eq_true, ↓reduceIte, beq_self_eq_true, String.reduceBEq, Bool.or_false, Bool.false_or, Bool.and_false, Bool.false_and, Bool.or_true, Bool.true_or, decide_eq_true_eq, beq_iff_eq, Bool.not_eq_true])
local macro_rules | `(tactic| walk_at "mh") => `(tactic| simp (maxSteps := 2000000) (implicitDefEqProofs := false) only [v_0, v_s, e_c, e_op, e_test, e_and, e_or, e_not, e_andv, e_orv, e_notv, e_ife, e_chain, e_anil, e_acons, e_cb, e_call, e_tup, e_lst, e_lstc, e_sl, e_onone, e_osome, e_mt, e_isi, e_neg, e_rd, s_augs, e_lrg, e_lrgc, e_callx, e_orx, e_isx, e_isxt, e_place, s_raisep, s_raiset, s_try, s_frzv, isNone_x, x_ex, x_pl, xis_pp, xis_pt, xis_pm, xis_pl, xis_V, xis_R, xis_tt, xis_tp, xis_tm, xis_tl, xis_mm, xis_mp, xis_mt, xis_ml, xis_ll, xis_lp, xis_lt, xis_lm, List.any_cons, List.any_nil, in_errs0, in_errs1, in_errs2, in_errs3, m_in, m_notin, m_isb, m_notb,
  s_seq, s_next, s_break, s_cont, s_never, s_drop, s_ret, s_retn, s_if, s_asg, s_par, s_retf, s_retf2, wipeE, List.append_assoc, List.cons_append, List.nil_append, g_nm, g_snil, g_scons, g_tp, g_sb, m_int, m_sub, m_lt, m_le, m_gt, m_ge, m_mod, m_div, m_pow, m_add, m_addt, m_addl, m_adds, m_mul, m_mulc, m_isn, m_notn, m_eq, m_ne, p_p,
  q_t, q_l, q_tt, l_l, t_t, t_tt, m_ixt, m_ixl, m_ixtt, m_lent, m_lenl, m_lentt, m_max2, m_min2, m_intb, m_listt, m_listl, m_tuplel, m_app, m_setl, sl_t, sl_r, sl_l, isNone, tyName, isB, mkTup, allP, allP_map, Option.map_some, map_p_inj,
  q_cc, l_cc, p_cc, ty_cc, m_ixcc, m_lencc, m_tuplecc, m_listcc, asL_l, Option.bind_some, mkTup_p, st_at, st_setk, st_at0, st_set0, st_take, st_atS, st_setS, st_atS0, st_setS0, st_takeS, List.length_set, List.set_set, ix40, ix41, ix42, ix43, Nat.reduceAdd, Nat.zero_add, at_nat', at_succ, at_0, at_1, at_2, at_3, at_4, at_m1, eqv_int, eqv_bool, sh_int, sh_bool, sh_none, fnEnds, wYes, gNm,
  List.getElem?_cons_zero, List.getElem?_cons_succ, List.set_cons_zero, List.set_cons_succ, List.getElem?_map, List.length_map, List.length_cons, List.length_nil, List.length_append, List.map_cons, List.map_nil,
  Option.some.injEq, SV.p.injEq, SV.c.injEq, PyData.int.injEq, PyData.bool.injEq, exists_eq_left', exists_eq_left, exists_eq_right, exists_eq', exists_eq, exists_and_left, true_and, and_true, true_or, or_true, MO.lst.injEq, Bool.not_true, Bool.not_false, if_true, if_false, Bool.false_eq_true, ↓reduceIte, beq_self_eq_true, String.reduceBEq, Bool.or_false, Bool.false_or, Bool.and_false, Bool.false_and, Bool.or_true, Bool.true_or, decide_eq_true_eq, beq_iff_eq, Bool.not_eq_true, tp_at0, tp_at, tp_set, Option.map_none, Option.some.injEq, *])
def TP (ns : List Int) (a b c : Int) : MO := .lst [.p (iL ns), .p (.int a), .p (.int b), .p (.int c)]
def Tape (k : Nat) (o : MO) : Prop := ∃ (ns : List Int) (a b c : Int), o = TP ns a b c ∧ 0 ≤ a ∧ a ≤ k
theorem lg_small {u : Int} (h0 : 0 < u) (h : u < 2 ^ 1000) : u.natAbs.log2 < 9000 := by
  have h1 : u.natAbs ≠ 0 := by omega
  have h2 : u.natAbs < 2 ^ 1000 := by
    have : ((u.natAbs : Nat) : Int) < ((2 ^ 1000 : Nat) : Int) := by
      rw [Int.natAbs_of_nonneg (by omega)]
      exact_mod_cast h
    exact_mod_cast this
  exact Nat.lt_of_lt_of_le ((Nat.log2_lt h1).mpr h2) (by decide)
def S_draw_k13 : MSp := fun ds st R => ∃ n u k o, ds = [.c n, .p (.int u)] ∧ 0 < u ∧ u < 2 ^ 1000 ∧ st[n]? = some o ∧ Tape k o ∧ k < 2 ^ 40 ∧ ∀ r o', 0 ≤ r → r < u → Tape (k + 1) o' → R (.p (.int r)) (st.set n o')
def w_draw_k13 : WS :=
    (wSeq (wIfS (wTest (wOp mEq (wOp mIx (wVar 0) (wC (.p (.int 3)))) (wC (.p (.int 0)))))
    (wSeq (wAsg (wOp mIx (wVar 0) (wC (.p (.int 1)))) (gNm 2))
    (wSeq (wAsg (wOp mAdd (wVar 2) (wC (.p (.int 1)))) (gSb (wVar 0) (wC (.p (.int 1))) mSetL))
    (wSeq (wAsg (wC (.p (.int 0))) (gNm 3))
    (wSeq (wIfS (wTest (wOp mGt (wCB mLen (aCons (wOp mIx (wVar 0) (wC (.p (.int 0)))) aNil)) (wC (.p (.int 0)))))
    (wAsg (wOp mIx (wOp mIx (wVar 0) (wC (.p (.int 0)))) (wOp mMod (wVar 2) (wCB mLen (aCons (wOp mIx (wVar 0) (wC (.p (.int 0)))) aNil)))) (gNm 3))
    wNext)
    (wSeq (wIfS (wOr (wTest (wOp mGe (wVar 2) (wCB mLen (aCons (wOp mIx (wVar 0) (wC (.p (.int 0)))) aNil)))) (wTest (wOp mLt (wVar 3) (wOp mPow (wC (.p (.int 10))) (wC (.p (.int 18)))))))
    (wSeq (wAsg (wOp mAdd (wOp mAdd (wOp mMod (wOp mMul (wVar 2) (wVar 2)) (wC (.p (.int 10007)))) (wOp mMul (wC (.p (.int 61))) (wVar 2))) (wC (.p (.int 7)))) (gNm 4))
    (wSeq (wAsg (wOp mMod (wOp mMul (wOp mAdd (wOp mMod (wVar 3) (wC (.p (.int 999983)))) (wC (.p (.int 3)))) (wVar 4)) (wC (.p (.int 1000003)))) (gNm 4))
    (wRet (wOp mMod (wOp mMod (wOp mAdd (wOp mDiv (wOp mMod (wOp mMul (wVar 4) (wVar 4)) (wC (.p (.int 999979)))) (wC (.p (.int 3)))) (wOp mMul (wC (.p (.int 131))) (wVar 2))) (wC (.p (.int 99991)))) (wVar 1)))))
    wNext)
    (wSeq (wAsg (wOp mSub (wVar 3) (wOp mPow (wC (.p (.int 10))) (wC (.p (.int 18))))) (gSb (wVar 0) (wC (.p (.int 2))) mSetL))
    (wAsg (wC (.p (.int 40))) (gSb (wVar 0) (wC (.p (.int 3))) mSetL))))))))
    wNext)
    (wSeq (wAsg (wOp mSub (wOp mIx (wVar 0) (wC (.p (.int 3)))) (wC (.p (.int 1)))) (gSb (wVar 0) (wC (.p (.int 3))) mSetL))
    (wSeq (wAsg (wOp mIx (wVar 0) (wC (.p (.int 2)))) (gNm 5))
    (wSeq (wAsg (wOp mDiv (wVar 5) (wVar 1)) (gSb (wVar 0) (wC (.p (.int 2))) mSetL))
    (wRet (wOp mMod (wVar 5) (wVar 1)))))))
theorem r_draw_k13 (ds : List SV) (s : Store) (R : SV → Store → Prop) (w : Wf s) (h : S_draw_k13 ds s R) : w_draw_k13 (fnEnds s.length R) (startE 6 ds) s := by
  obtain ⟨n, u, k, o, rfl, hu, hu2, hn, ⟨ns, a, b, c, rfl, ha, hak⟩, hk, q⟩ := h
  show w_draw_k13 _ [some (.c n), some (.p (.int u)), none, none, none, none] s
  have hlt : n < s.length := (List.getElem?_eq_some_iff.mp hn).1
  have cp : CPow 10 18 := by unfold CPow; decide
  have hn' : s[n]? = some (.lst [.p (.list (ns.map .int)), .p (.int a), .p (.int b), .p (.int c)]) := hn
  have fin : ∀ (x y z v : Int), 0 ≤ x → x ≤ (k : Int) + 1 → RetTo s.length R (.p (.int (v % u))) (s.set n (.lst [.p (.list (ns.map .int)), .p (.int x), .p (.int y), .p (.int z)])) := fun x y z v h1 h2 =>
    .inl (q _ _ (Int.emod_nonneg _ (by omega)) (Int.emod_lt_of_pos _ hu) ⟨ns, x, y, z, rfl, h1, by omega⟩)
  have lg := lg_small hu hu2
  have bx : ∀ x y : Int, CMul (x % 999983 + 3) y := fun x y => .inl ⟨by omega, by omega⟩
  have by_ : ∀ x y : Int, CMul (x % 1000003) y := fun x y => .inl ⟨by omega, by omega⟩
  have bz : ∀ y : Int, CMul a y := fun y => .inl ⟨by omega, by omega⟩
  have bw : ∀ y : Int, CMul 61 y := fun y => .inl ⟨by omega, by omega⟩
  have bv : ∀ y : Int, CMul 131 y := fun y => .inl ⟨by omega, by omega⟩
  have bd : ∀ y : Int, CDv y 3 := fun y => ⟨by decide, by decide⟩
  have bu : ∀ y : Int, CDv y u := fun y => ⟨hu, lg⟩
  have b1 : (0 : Int) < 10007 := by decide
  have b2 : (0 : Int) < 999983 := by decide
  have b3 : (0 : Int) < 1000003 := by decide
  have b4 : (0 : Int) < 999979 := by decide
  have b5 : (0 : Int) < 99991 := by decide
  clear hn q hu2 hk lg
  unfold w_draw_k13
  by_cases hc : c = 0
  · subst hc
    walk_at "mh"
    split
    · rename_i h0
      have hm := Int.emod_nonneg a (show (ns.length : Int) ≠ 0 by omega)
      have hm2 := Int.emod_lt_of_pos a h0
      obtain ⟨j, hj⟩ : ∃ j : Nat, a % (ns.length : Int) = j := ⟨(a % (ns.length : Int)).toNat, by omega⟩
      have hjl : j < ns.length := by omega
      rw [hj]
      refine ⟨h0, .p (.int ns[j]), by simp [at_nat', hjl], ?_⟩
      walk_at "mh"
      split
      · exact fin _ _ _ _ (by omega) (by omega)
      · split
        · exact fin _ _ _ _ (by omega) (by omega)
        · exact fin _ _ _ _ (by omega) (by omega)
    · split
      · exact fin _ _ _ _ (by omega) (by omega)
      · split
        · exact fin _ _ _ _ (by omega) (by omega)
        · exact fin _ _ _ _ (by omega) (by omega)
  · walk_at "mh"
    exact fin _ _ _ _ ha (by omega)
end M

namespace M
open PySem PySem.Spec PyProof.Rows L2
local macro_rules | `(tactic| walk_at "m") => `(tactic| simp (maxSteps := 2000000) (implicitDefEqProofs := false) only [v_0, v_s, e_c, e_op, e_test, e_and, e_or, e_not, e_andv, e_orv, e_notv, e_ife, e_chain, e_anil, e_acons, e_cb, e_call, e_tup, e_lst, e_lstc, e_sl, e_onone, e_osome, e_mt, e_isi, e_neg, e_rd, s_augs, e_lrg, e_lrgc, e_callx, e_orx, e_isx, e_isxt, e_place, s_raisep, s_raiset, s_try, s_frzv, isNone_x, x_ex, x_pl, xis_pp, xis_pt, xis_pm, xis_pl, xis_V, xis_R, xis_tt, xis_tp, xis_tm, xis_tl, xis_mm, xis_mp, xis_mt, xis_ml, xis_ll, xis_lp, xis_lt, xis_lm, List.any_cons, List.any_nil, in_errs0, in_errs1, in_errs2, in_errs3, m_in, m_notin, m_isb, m_notb,
  s_seq, s_next, s_break, s_cont, s_never, s_drop, s_ret, s_retn, s_if, s_asg, s_par, s_retf, s_retf2, wipeE, List.append_assoc, List.cons_append, List.nil_append, g_nm, g_snil, g_scons, g_tp, g_sb, m_int, m_sub, m_lt, m_le, m_gt, m_ge, m_mod, m_div, m_pow, m_add, m_addt, m_addl, m_adds, m_mul, m_mulc, m_isn, m_notn, m_eq, m_ne, p_p,
  q_t, q_l, q_tt, l_l, t_t, t_tt, m_ixt, m_ixl, m_ixtt, m_lent, m_lenl, m_lentt, m_max2, m_min2, m_intb, m_listt, m_listl, m_tuplel, m_app, m_setl, sl_t, sl_r, sl_l, isNone, tyName, isB, mkTup, allP, allP_map, Option.map_some, map_p_inj,
  q_cc, l_cc, p_cc, ty_cc, m_ixcc, m_lencc, m_tuplecc, m_listcc, asL_l, Option.bind_some, mkTup_p, st_at, st_setk, st_at0, st_set0, st_take, st_atS, st_setS, st_atS0, st_setS0, st_takeS, List.length_set, List.set_set, ix40, ix41, ix42, ix43, Nat.reduceAdd, Nat.zero_add, at_nat', at_succ, at_0, at_1, at_2, at_3, at_4, at_m1, eqv_int, eqv_bool, sh_int, sh_bool, sh_none, fnEnds, wYes, gNm,
  List.getElem?_cons_zero, List.getElem?_cons_succ, List.set_cons_zero, List.set_cons_succ, List.getElem?_map, List.length_map, List.length_cons, List.length_nil, List.length_append, List.map_cons, List.map_nil,
  Option.some.injEq, SV.p.injEq, SV.c.injEq, PyData.int.injEq, PyData.bool.injEq, exists_eq_left', exists_eq_left, exists_eq_right, exists_eq', exists_eq, exists_and_left, true_and, and_true, true_or, or_true, MO.lst.injEq, Bool.not_true, Bool.not_false, if_true, if_false, Bool.false_eq_true, ↓reduceIte, beq_self_eq_true, String.reduceBEq, Bool.or_false, Bool.false_or, Bool.and_false, Bool.false_and, Bool.or_true, Bool.true_or, decide_eq_true_eq, beq_iff_eq, Bool.not_eq_true])
local macro_rules | `(tactic| walk_at "mh") => `(tactic| simp (maxSteps := 2000000) (implicitDefEqProofs := false) only [v_0, v_s, e_c, e_op, e_test, e_and, e_or, e_not, e_andv, e_orv, e_notv, e_ife, e_chain, e_anil, e_acons, e_cb, e_call, e_tup, e_lst, e_lstc, e_sl, e_onone, e_osome, e_mt, e_isi, e_neg, e_rd, s_augs, e_lrg, e_lrgc, e_callx, e_orx, e_isx, e_isxt, e_place, s_raisep, s_raiset, s_try, s_frzv, isNone_x, x_ex, x_pl, xis_pp, xis_pt, xis_pm, xis_pl, xis_V, xis_R, xis_tt, xis_tp, xis_tm, xis_tl, xis_mm, xis_mp, xis_mt, xis_ml, xis_ll, xis_lp, xis_lt, xis_lm, List.any_cons, List.any_nil, in_errs0, in_errs1, in_errs2, in_errs3, m_in, m_notin, m_isb, m_notb,
  s_seq, s_next, s_break, s_cont, s_never, s_drop, s_ret, s_retn, s_if, s_asg, s_par, s_retf, s_retf2, wipeE, List.append_assoc, List.cons_append, List.nil_append, g_nm, g_snil, g_scons, g_tp, g_sb, m_int, m_sub, m_lt, m_le, m_gt, m_ge, m_mod, m_div, m_pow, m_add, m_addt, m_addl, m_adds, m_mul, m_mulc, m_isn, m_notn, m_eq, m_ne, p_p,
  q_t, q_l, q_tt, l_l, t_t, t_tt, m_ixt, m_ixl, m_ixtt, m_lent, m_lenl, m_lentt, m_max2, m_min2, m_intb, m_listt, m_listl, m_tuplel, m_app, m_setl, sl_t, sl_r, sl_l, isNone, tyName, isB, mkTup, allP, allP_map, Option.map_some, map_p_inj,
  q_cc, l_cc, p_cc, ty_cc, m_ixcc, m_lencc, m_tuplecc, m_listcc, asL_l, Option.bind_some, mkTup_p, st_at, st_setk, st_at0, st_set0, st_take, st_atS, st_setS, st_atS0, st_setS0, st_takeS, List.length_set, List.set_set, ix40, ix41, ix42, ix43, Nat.reduceAdd, Nat.zero_add, at_nat', at_succ, at_0, at_1, at_2, at_3, at_4, at_m1, eqv_int, eqv_bool, sh_int, sh_bool, sh_none, fnEnds, wYes, gNm,
  List.getElem?_cons_zero, List.getElem?_cons_succ, List.set_cons_zero, List.set_cons_succ, List.getElem?_map, List.length_map, List.length_cons, List.length_nil, List.length_append, List.map_cons, List.map_nil,
  Option.some.injEq, SV.p.injEq, SV.c.injEq, PyData.int.injEq, PyData.bool.injEq, exists_eq_left', exists_eq_left, exists_eq_right, exists_eq', exists_eq, exists_and_left, true_and, and_true, true_or, or_true, MO.lst.injEq, Bool.not_true, Bool.not_false, if_true, if_false, Bool.false_eq_true, ↓reduceIte, beq_self_eq_true, String.reduceBEq, Bool.or_false, Bool.false_or, Bool.and_false, Bool.false_and, Bool.or_true, Bool.true_or, decide_eq_true_eq, beq_iff_eq, Bool.not_eq_true, tp_at0, tp_at, tp_set, Option.map_none, Option.some.injEq, *])
theorem Tape.up {k k' : Nat} {o : MO} (h : Tape k o) (hk : k ≤ k') : Tape k' o := by
  obtain ⟨ns, a, b, c, e, h1, h2⟩ := h
  exact ⟨ns, a, b, c, e, h1, by omega⟩
theorem Tape.under {k m : Nat} {o : MO} (h : Tape k o) : o.under m = true := by
  obtain ⟨ns, a, b, c, rfl, _⟩ := h
  rfl
theorem draw_use {n k : Nat} {u : Int} {o : MO} {st : Store} {R : SV → Store → Prop} (hn : st[n]? = some o) (T : Tape k o) (hk : k < 2 ^ 40) (h0 : 0 < u) (h1 : u < 2 ^ 64) (q : ∀ (r : Nat) o', (r : Int) < u → Tape (k + 1) o' → R (.p (.int (r : Int))) (st.set n o')) : S_draw_k13 [.c n, .p (.int u)] st R :=
  ⟨n, u, k, o, rfl, h0, Int.lt_trans h1 (by decide), hn, T, hk, fun r o' a b t => by
    obtain ⟨j, rfl⟩ : ∃ j : Nat, r = (j : Int) := ⟨r.toNat, by omega⟩
    exact q j o' b t⟩
def S_tree_k13 : MSp := fun ds st R => ∃ n k o m, ds = [.c n, .p (.int ((m : Nat) : Int))] ∧ 1 ≤ m ∧ m ≤ 200 ∧ st[n]? = some o ∧ Tape k o ∧ k < 2 ^ 39 ∧ ∀ t o', Tr t → t.length < m → Tape (k + 500) o' → R (.p (tv t)) (st.set n o')
def w_tree_k13_L1 : WS := wFor (wiR2 (aCons (wC (.p (.int 1))) (aCons (wVar 3) aNil))) (gNm 5)
    (wSeq (wAsg (wC (.p (.int 0))) (gNm 6))
    (wSeq (wIfS (wOr (wTest (wOp mEq (wVar 2) (wC (.p (.int 0))))) (wAnd (wTest (wOp mEq (wVar 2) (wC (.p (.int 3))))) (wTest (wOp mEq (wCall S_draw_k13 (aCons (wVar 0) (aCons (wC (.p (.int 2))) aNil))) (wC (.p (.int 0)))))))
    (wAsg (wOp mSub (wVar 5) (wC (.p (.int 1)))) (gNm 6))
    (wIfS (wTest (wOp mEq (wVar 2) (wC (.p (.int 2)))))
    (wAsg (wOp mDiv (wOp mSub (wVar 5) (wC (.p (.int 1)))) (wC (.p (.int 2)))) (gNm 6))
    (wIfS (wOr (wTest (wOp mEq (wVar 2) (wC (.p (.int 3))))) (wTest (wOp mEq (wVar 2) (wC (.p (.int 4))))))
    (wAsg (wCB mMax2 (aCons (wC (.p (.int 0))) (aCons (wOp mSub (wVar 5) (wC (.p (.int 2)))) aNil))) (gNm 6))
    (wIfS (wTest (wOp mEq (wVar 2) (wC (.p (.int 5)))))
    (wAsg (wOp mSub (wOp mSub (wVar 5) (wC (.p (.int 1)))) (wCall S_draw_k13 (aCons (wVar 0) (aCons (wCB mMin2 (aCons (wVar 5) (aCons (wC (.p (.int 4))) aNil))) aNil)))) (gNm 6))
    (wIfS (wTest (wOp mGt (wVar 2) (wC (.p (.int 5)))))
    (wAsg (wCall S_draw_k13 (aCons (wVar 0) (aCons (wVar 5) aNil))) (gNm 6))
    wNext)))))
    (wDrop (wMt mAppend (wVar 4) (aCons (wVar 6) aNil)))))
def w_tree_k13 : WS :=
    (wSeq (wAsg (wCall S_draw_k13 (aCons (wVar 0) (aCons (wC (.p (.int 8))) aNil))) (gNm 2))
    (wSeq (wAsg (wOp mAdd (wC (.p (.int 1))) (wCall S_draw_k13 (aCons (wVar 0) (aCons (wVar 1) aNil)))) (gNm 3))
    (wSeq (wIfS (wTest (wOp mEq (wCall S_draw_k13 (aCons (wVar 0) (aCons (wC (.p (.int 16))) aNil))) (wC (.p (.int 15)))))
    (wAsg (wVar 1) (gNm 3))
    wNext)
    (wSeq (wAsg (wLstC aNil) (gNm 4))
    (wSeq w_tree_k13_L1
    (wRet (wCB mTuple (aCons (wVar 4) aNil))))))))
def I_tree_k13 (n m way z k : Nat) (s : Store) (i : Nat) (e : M.Env) (st : Store) : Prop := ∃ t o' a b, Tape (k + 2 * i) o' ∧ t.length = i ∧ Tr t ∧ e = [some (.c n), some (.p (.int m)), some (.p (.int way)), some (.p (.int z)), some (.c s.length), a, b] ∧ st = s.set n o' ++ [.lst ((t.map nI).map SV.p)]
theorem tree_step {n m way z k i : Nat} {s : Store} {t : List Nat} (x : Int) (y : Option SV) (o2 : MO) (hl : t.length = i) (hi : i < 199) (ht : Tr t) (h0 : 0 ≤ x) (h1 : x ≤ i) (h2 : Tape (k + 2 * (i + 1)) o2) :
    t.length < sizeLine ∧ Wk (s.length + 1) (I_tree_k13 n m way z k s (i + 1)) [some (.c n), some (.p (.int m)), some (.p (.int way)), some (.p (.int z)), some (.c s.length), y, some (.p (.int x))] (s.set n o2 ++ [.lst ((t.map nI).map SV.p ++ [.p (.int x)])]) := by
  refine ⟨by rw [sizeLine_eq]; omega, ?_⟩
  obtain ⟨j, rfl⟩ : ∃ j : Nat, x = (j : Int) := ⟨x.toNat, by omega⟩
  refine .inl ⟨t ++ [j], o2, _, _, h2, by simp [hl], ⟨by simp; omega, fun i' v hv => ?_⟩, rfl, ?_⟩
  · by_cases hi' : i' < t.length
    · rw [List.getElem?_append_left hi'] at hv; exact ht.le i' v hv
    · rw [List.getElem?_append_right (by omega)] at hv
      have : i' - t.length = 0 := by
        cases h : i' - t.length with
        | zero => rfl
        | succ q => rw [h] at hv; simp at hv
      rw [this] at hv; simp at hv; subst hv; omega
  · simp [nI]
theorem tree_loop (n m k z : Nat) (o : MO) (way : Nat) (s : Store) (D : ME) (hz : 1 ≤ z) (hm : m ≤ 200) (hzm : z ≤ m) (hlt : n < s.length) (T : Tape k o) (hk : k < 2 ^ 39 + 3)
    (hD : ∀ (t : List Nat) o' (e : M.Env) a b, Tr t → t.length + 1 = z → Tape (k + 400) o' → e = [some (.c n), some (.p (.int m)), some (.p (.int way)), some (.p (.int z)), some (.c s.length), a, b] → D.nx e (s.set n o' ++ [.lst ((t.map nI).map SV.p)])) (a b : Option SV) :
    w_tree_k13_L1 D [some (.c n), some (.p (.int m)), some (.p (.int way)), some (.p (.int z)), some (.c s.length), a, b] (s.set n o ++ [.lst []]) := by
  unfold w_tree_k13_L1
  refine for_rng 1 1 (z - 1) (fun Q hQ => ?_) (I_tree_k13 n m way z k s)
    ⟨[], o, _, _, T, rfl, ⟨by decide, fun i v h => by simp at h⟩, rfl, rfl⟩ ?_ ?_
  · unfold wiR2
    walk_at "m"
    refine ⟨by omega, ?_⟩
    have e1 : ((z : Int) - 1).toNat = z - 1 := by omega
    rw [e1]; exact hQ
  · rintro i e st hi ⟨t, o', a, b, T', hl, ht, rfl, rfl⟩
    have hx : (1 : Int) + (i : Nat) * 1 = (i : Int) + 1 := by omega
    rw [hx]
    have T1 : Tape (k + 2 * (i + 1)) o' := T'.up (by omega)
    have hi9 : i < 199 := by omega
    have d2 : CDv ((i : Int) + 1 - 1) 2 := ⟨by decide, by decide⟩
    have step := fun (x : Int) (y : Option SV) (o2 : MO) => tree_step (n := n) (m := m) (way := way) (z := z) (k := k) (s := s) x y o2 hl hi9 ht
    walk_at "m"
    refine ite2 (fun h0 => step _ _ _ (by omega) (by omega) T1) (fun h0 => ite2 (fun h3 => ?_) (fun h3 => ?_))
    · refine draw_use (tp_at hlt) T' (by omega) (by decide) (by decide) fun r o2 hr T2 => ?_
      simp only [tp_set hlt]
      have T2' : Tape (k + 2 * (i + 1)) o2 := T2.up (by omega)
      walk_at "m"
      refine ite2 (fun h => step _ _ _ (by omega) (by omega) T2') (fun h => ite2 (fun h => ⟨d2, step _ _ _ (by omega) (by omega) T2'⟩) (fun h => ite2 (fun h => step _ _ _ (by omega) (by omega) T2') (fun h => absurd h3 h)))
    · refine ite2 (fun h => ⟨d2, step _ _ _ (by omega) (by omega) T1⟩) (fun h => ite2 (fun h => step _ _ _ (by omega) (by omega) T1) (fun h => ite2 (fun h => step _ _ _ (by omega) (by omega) T1) (fun h => ite2 (fun h => ?_) (fun h => ite2 (fun h => ?_) (fun h => step _ _ _ (by omega) (by omega) T1)))))
      · refine draw_use (tp_at hlt) T' (by omega) (by omega) (by omega) fun r o2 hr T2 => ?_
        simp only [tp_set hlt]
        walk_at "m"
        exact step _ _ _ (by omega) (by omega) (T2.up (by omega))
      · refine draw_use (tp_at hlt) T' (by omega) (by omega) (by omega) fun r o2 hr T2 => ?_
        simp only [tp_set hlt]
        walk_at "m"
        exact step _ _ _ (by omega) (by omega) (T2.up (by omega))
  · rintro e st ⟨t, o', a, b, T', hl, ht, rfl, rfl⟩
    exact hD t o' _ a b ht (by omega) (T'.up (by omega)) rfl
theorem r_tree_k13 (ds : List SV) (s : Store) (R : SV → Store → Prop) (w : Wf s) (h : S_tree_k13 ds s R) : w_tree_k13 (fnEnds s.length R) (startE 7 ds) s := by
  obtain ⟨n, k, o, m, rfl, hm1, hm2, hn, T, hk, q⟩ := h
  show w_tree_k13 _ [some (.c n), some (.p (.int m)), none, none, none, none, none] s
  have hlt : n < s.length := (List.getElem?_eq_some_iff.mp hn).1
  unfold w_tree_k13
  walk_at "m"
  refine draw_use hn T (by omega) (by decide) (by decide) fun way o1 hway T1 => ?_
  refine draw_use (tp_at0 hlt) T1 (by omega) (by omega) (by omega) fun sz o2 hsz T2 => ?_
  walk_at "m"
  refine draw_use (tp_at0 hlt) T2 (by omega) (by decide) (by decide) fun r o3 hr T3 => ?_
  walk_at "m"
  have go : ∀ (z : Nat), 1 ≤ z → z ≤ m → ∀ (x : Int), x = z → w_tree_k13_L1
        {
          nx :=
            wRet (wCB mTuple (aCons (wVar 4) aNil))
              { nx := fun x s_1 => RetTo (List.length s) R (SV.p PyData.none) s_1, rt := RetTo (List.length s) R,
                base := List.length s },
          rt := RetTo (List.length s) R, base := List.length s }
        [some (SV.c n), some (SV.p (PyData.int m)), some (SV.p (PyData.int way)), some (SV.p (PyData.int x)),
          some (SV.c (List.length s)), none, none]
        (List.set s n o3 ++ [MO.lst []]) := fun z h1 h2 x hx => by
    subst hx
    refine tree_loop n m (k + 3) z o3 way s _ h1 hm2 h2 hlt T3 (by omega) (fun t o' e a b ht hl T' he => ?_) none none
    rw [he]
    walk_at "m"
    refine .inr ⟨by simp, ?_, rfl, ?_⟩
    · rw [st_takeS]; exact wf_set w T'.under
    · rw [st_takeS]; exact q t o' ht (by omega) (T'.up (by omega))
  exact ite2 (fun _ => ⟨by decide, go m hm1 (Nat.le_refl _) _ rfl⟩) (fun _ => ⟨by decide, go (1 + sz) (by omega) (by omega) _ (by omega)⟩)
end M

namespace M
open PySem PySem.Spec PyProof.Rows L2
local macro_rules | `(tactic| walk_at "m") => `(tactic| simp (maxSteps := 2000000) (implicitDefEqProofs := false) only [v_0, v_s, e_c, e_op, e_test, e_and, e_or, e_not, e_andv, e_orv, e_notv, e_ife, e_chain, e_anil, e_acons, e_cb, e_call, e_tup, e_lst, e_lstc, e_sl, e_onone, e_osome, e_mt, e_isi, e_neg, e_rd, s_augs, e_lrg, e_lrgc, e_callx, e_orx, e_isx, e_isxt, e_place, s_raisep, s_raiset, s_try, s_frzv, isNone_x, x_ex, x_pl, xis_pp, xis_pt, xis_pm, xis_pl, xis_V, xis_R, xis_tt, xis_tp, xis_tm, xis_tl, xis_mm, xis_mp, xis_mt, xis_ml, xis_ll, xis_lp, xis_lt, xis_lm, List.any_cons, List.any_nil, in_errs0, in_errs1, in_errs2, in_errs3, m_in, m_notin, m_isb, m_notb,
  s_seq, s_next, s_break, s_cont, s_never, s_drop, s_ret, s_retn, s_if, s_asg, s_par, s_retf, s_retf2, wipeE, List.append_assoc, List.cons_append, List.nil_append, g_nm, g_snil, g_scons, g_tp, g_sb, m_int, m_sub, m_lt, m_le, m_gt, m_ge, m_mod, m_div, m_pow, m_add, m_addt, m_addl, m_adds, m_mul, m_mulc, m_isn, m_notn, m_eq, m_ne, p_p,
  q_t, q_l, q_tt, l_l, t_t, t_tt, m_ixt, m_ixl, m_ixtt, m_lent, m_lenl, m_lentt, m_max2, m_min2, m_intb, m_listt, m_listl, m_tuplel, m_app, m_setl, sl_t, sl_r, sl_l, isNone, tyName, isB, mkTup, allP, allP_map, Option.map_some, map_p_inj,
  q_cc, l_cc, p_cc, ty_cc, m_ixcc, m_lencc, m_tuplecc, m_listcc, asL_l, Option.bind_some, mkTup_p, st_at, st_setk, st_at0, st_set0, st_take, st_atS, st_setS, st_atS0, st_setS0, st_takeS, List.length_set, List.set_set, ix40, ix41, ix42, ix43, Nat.reduceAdd, Nat.zero_add, at_nat', at_succ, at_0, at_1, at_2, at_3, at_4, at_m1, eqv_int, eqv_bool, sh_int, sh_bool, sh_none, fnEnds, wYes, gNm,
  List.getElem?_cons_zero, List.getElem?_cons_succ, List.set_cons_zero, List.set_cons_succ, List.getElem?_map, List.length_map, List.length_cons, List.length_nil, List.length_append, List.map_cons, List.map_nil,
  Option.some.injEq, SV.p.injEq, SV.c.injEq, PyData.int.injEq, PyData.bool.injEq, exists_eq_left', exists_eq_left, exists_eq_right, exists_eq', exists_eq, exists_and_left, true_and, and_true, true_or, or_true, MO.lst.injEq, Bool.not_true, Bool.not_false, if_true, if_false, Bool.false_eq_true, ↓reduceIte, beq_self_eq_true, String.reduceBEq, Bool.or_false, Bool.false_or, Bool.and_false, Bool.false_and, Bool.or_true, Bool.true_or, decide_eq_true_eq, beq_iff_eq, Bool.not_eq_true])
local macro_rules | `(tactic| walk_at "mh") => `(tactic| simp (maxSteps := 2000000) (implicitDefEqProofs := false) only [v_0, v_s, e_c, e_op, e_test, e_and, e_or, e_not, e_andv, e_orv, e_notv, e_ife, e_chain, e_anil, e_acons, e_cb, e_call, e_tup, e_lst, e_lstc, e_sl, e_onone, e_osome, e_mt, e_isi, e_neg, e_rd, s_augs, e_lrg, e_lrgc, e_callx, e_orx, e_isx, e_isxt, e_place, s_raisep, s_raiset, s_try, s_frzv, isNone_x, x_ex, x_pl, xis_pp, xis_pt, xis_pm, xis_pl, xis_V, xis_R, xis_tt, xis_tp, xis_tm, xis_tl, xis_mm, xis_mp, xis_mt, xis_ml, xis_ll, xis_lp, xis_lt, xis_lm, List.any_cons, List.any_nil, in_errs0, in_errs1, in_errs2, in_errs3, m_in, m_notin, m_isb, m_notb,
  s_seq, s_next, s_break, s_cont, s_never, s_drop, s_ret, s_retn, s_if, s_asg, s_par, s_retf, s_retf2, wipeE, List.append_assoc, List.cons_append, List.nil_append, g_nm, g_snil, g_scons, g_tp, g_sb, m_int, m_sub, m_lt, m_le, m_gt, m_ge, m_mod, m_div, m_pow, m_add, m_addt, m_addl, m_adds, m_mul, m_mulc, m_isn, m_notn, m_eq, m_ne, p_p,
  q_t, q_l, q_tt, l_l, t_t, t_tt, m_ixt, m_ixl, m_ixtt, m_lent, m_lenl, m_lentt, m_max2, m_min2, m_intb, m_listt, m_listl, m_tuplel, m_app, m_setl, sl_t, sl_r, sl_l, isNone, tyName, isB, mkTup, allP, allP_map, Option.map_some, map_p_inj,
  q_cc, l_cc, p_cc, ty_cc, m_ixcc, m_lencc, m_tuplecc, m_listcc, asL_l, Option.bind_some, mkTup_p, st_at, st_setk, st_at0, st_set0, st_take, st_atS, st_setS, st_atS0, st_setS0, st_takeS, List.length_set, List.set_set, ix40, ix41, ix42, ix43, Nat.reduceAdd, Nat.zero_add, at_nat', at_succ, at_0, at_1, at_2, at_3, at_4, at_m1, eqv_int, eqv_bool, sh_int, sh_bool, sh_none, fnEnds, wYes, gNm,
  List.getElem?_cons_zero, List.getElem?_cons_succ, List.set_cons_zero, List.set_cons_succ, List.getElem?_map, List.length_map, List.length_cons, List.length_nil, List.length_append, List.map_cons, List.map_nil,
  Option.some.injEq, SV.p.injEq, SV.c.injEq, PyData.int.injEq, PyData.bool.injEq, exists_eq_left', exists_eq_left, exists_eq_right, exists_eq', exists_eq, exists_and_left, true_and, and_true, true_or, or_true, MO.lst.injEq, Bool.not_true, Bool.not_false, if_true, if_false, Bool.false_eq_true, ↓reduceIte, beq_self_eq_true, String.reduceBEq, Bool.or_false, Bool.false_or, Bool.and_false, Bool.false_and, Bool.or_true, Bool.true_or, decide_eq_true_eq, beq_iff_eq, Bool.not_eq_true, tp_at0, tp_at, tp_set, Option.map_none, Option.some.injEq, *])
def kidsUp (t : List Nat) (i v : Nat) : List Nat := (List.range i).filterMap fun k => if t[k]? = some v then some (k + 1) else none
def kids (t : List Nat) (v : Nat) : List Nat := kidsUp t t.length v
theorem kidsUp_succ (t : List Nat) (i v : Nat) : kidsUp t (i + 1) v = kidsUp t i v ++ if t[i]? = some v then [i + 1] else [] := by
  unfold kidsUp
  rw [List.range_succ, List.filterMap_append]
  congr 1
  simp only [List.filterMap_cons, List.filterMap_nil]
  split <;> simp_all
theorem kids_mem {t : List Nat} {v k : Nat} : k ∈ kids t v ↔ 1 ≤ k ∧ t[k - 1]? = some v := by
  unfold kids kidsUp
  rw [List.mem_filterMap]
  constructor
  · rintro ⟨j, hj, e⟩
    split at e
    · cases e; exact ⟨by omega, by simpa using ‹_›⟩
    · cases e
  · rintro ⟨h1, h2⟩
    refine ⟨k - 1, ?_, ?_⟩
    · have := (List.getElem?_eq_some_iff.mp h2).1
      exact List.mem_range.mpr this
    · rw [if_pos h2]; congr 1; omega
theorem kids_len (t : List Nat) (i v : Nat) : (kidsUp t i v).length ≤ i := by
  unfold kidsUp
  refine Nat.le_trans (List.length_filterMap_le _ _) ?_
  rw [List.length_range]; exact Nat.le_refl _
def kD (t : List Nat) (v : Nat) : PyData := .list ((kids t v).map nI)
def underF (t : List Nat) : PyData := .list ((List.range (t.length + 1)).map (kD t))
def S_under_k13 : MSp := fun ds st R => ∃ t, ds = [.p (tv t)] ∧ Tr t ∧ R (.p (underF t)) st
def w_under_k13_L1 : WS := wFor (wiEnum (aCons (wVar 0) aNil)) (gTp 2 (gsCons (gNm 2) (gsCons (gNm 3) gsNil)))
    (wDrop (wMt mAppend (wOp mIx (wVar 1) (wVar 3)) (aCons (wOp mAdd (wVar 2) (wC (.p (.int 1)))) aNil)))
def w_under_k13 : WS :=
    (wSeq (wAsg (wLcC (wiR1 (aCons (wOp mAdd (wCB mLen (aCons (wVar 0) aNil)) (wC (.p (.int 1)))) aNil)) (gNm 2) wYes (wLstC aNil) [2]) (gNm 1))
    (wSeq w_under_k13_L1
    (wRetF2 (wVar 1))))
def outs (b m : Nat) : MO := .lst ((List.range m).map fun i => SV.c (b + 1 + i))
def ins_ (t : List Nat) (i m : Nat) : List MO := (List.range m).map fun v => .lst (((kidsUp t i v).map nI).map SV.p)
theorem outs_at {s : Store} {m : Nat} {l : List MO} : (s ++ outs s.length m :: l)[s.length]? = some (outs s.length m) := by simp
theorem in_at {s : Store} {m v : Nat} {l : List MO} : (s ++ outs s.length m :: l)[s.length + 1 + v]? = l[v]? := by
  rw [List.getElem?_append_right (by omega)]
  have : s.length + 1 + v - s.length = v + 1 := by omega
  rw [this, List.getElem?_cons_succ]
theorem in_set {s : Store} {m v : Nat} {l : List MO} {o : MO} : (s ++ outs s.length m :: l).set (s.length + 1 + v) o = s ++ outs s.length m :: l.set v o := by
  rw [List.set_append_right _ _ (by omega)]
  have : s.length + 1 + v - s.length = v + 1 := by omega
  rw [this, List.set_cons_succ]
theorem ins_get {t : List Nat} {i m v : Nat} (h : v < m) : (ins_ t i m)[v]? = some (.lst (((kidsUp t i v).map nI).map SV.p)) := by
  unfold ins_
  rw [List.getElem?_map, List.getElem?_range h]; rfl
theorem ins_step {t : List Nat} {i m v : Nat} (hv : v < m) (ht : t[i]? = some v) : (ins_ t i m).set v (.lst (((kidsUp t i v).map nI).map SV.p ++ [.p (nI (i + 1))])) = ins_ t (i + 1) m := by
  refine List.ext_getElem? fun j => ?_
  by_cases hj : j < m
  · rw [ins_get hj, kidsUp_succ]
    by_cases e : v = j
    · subst e
      rw [List.getElem?_set_self (by simpa [ins_] using hv), ht, if_pos rfl]
      simp
    · rw [List.getElem?_set_ne e, ins_get hj, ht, if_neg (by simpa using e)]
      simp
  · rw [List.getElem?_eq_none (by simp [ins_]; omega), List.getElem?_eq_none (by simp [ins_]; omega)]
theorem under_frz {s : Store} {t : List Nat} : Frz (s ++ outs s.length (t.length + 1) :: ins_ t t.length (t.length + 1)) s.length (.c s.length) (underF t) := by
  refine .c (Nat.le_refl _) outs_at (frzs_of (by simp) fun i x d hx hd => ?_)
  rw [List.getElem?_map] at hx hd
  by_cases hi : i < t.length + 1
  · rw [List.getElem?_range hi] at hx hd
    cases hx; cases hd
    exact .c (by omega) (in_at.trans (ins_get hi)) (frzs_p _)
  · rw [List.getElem?_eq_none (by simp; omega)] at hx
    cases hx
theorem under_loop {t : List Nat} (T : Tr t) (s : Store) (D : ME) (hD : ∀ a b, D.nx [some (.p (.tuple (t.map nI))), some (.c s.length), a, b] (s ++ outs s.length (t.length + 1) :: ins_ t t.length (t.length + 1))) (a0 b0 : Option SV) :
    w_under_k13_L1 D [some (.p (.tuple (t.map nI))), some (.c s.length), a0, b0] (s ++ outs s.length (t.length + 1) :: ins_ t 0 (t.length + 1)) := by
  unfold w_under_k13_L1
  have hl := T.len
  refine for_enum (st1 := s ++ outs s.length (t.length + 1) :: ins_ t 0 (t.length + 1)) (.p (.tuple (t.map nI))) (t.map nI) (fun _ => rfl) (fun Q hQ => by walk_at "m"; exact hQ)
    (fun i e st => ∃ a b, e = [some (.p (.tuple (t.map nI))), some (.c s.length), a, b] ∧ st = s ++ outs s.length (t.length + 1) :: ins_ t i (t.length + 1)) ⟨_, _, rfl, rfl⟩ ?_ ?_
  · rintro i d e st hd ⟨a, b, rfl, rfl⟩
    rw [List.getElem?_map] at hd
    cases ht : t[i]? with
    | none => rw [ht] at hd; cases hd
    | some v =>
      rw [ht] at hd; cases hd
      have hi := (List.getElem?_eq_some_iff.mp ht).1
      have hv := T.le i v ht
      have hvm : v < t.length + 1 := by omega
      have o1 : (s ++ outs s.length (t.length + 1) :: ins_ t i (t.length + 1))[s.length]? = some (outs s.length (t.length + 1)) := outs_at
      simp only [nI]
      walk_at "m"
      rw [outs]
      simp only [List.getElem?_cons_zero, Option.bind_some, asL_l]
      walk_at "m"
      refine ⟨.c (s.length + 1 + v), by rw [List.getElem?_range hvm]; rfl, ?_⟩
      have g1 := in_at (s := s) (m := t.length + 1) (v := v) (l := ins_ t i (t.length + 1))
      rw [ins_get hvm] at g1
      rw [outs] at g1
      refine ⟨_, rfl, ⟨_, g1⟩, _, g1, ?_, ?_⟩
      · rw [List.length_map, List.length_map, sizeLine_eq]
        have := kids_len t i v
        omega
      · have g2 := in_set (s := s) (m := t.length + 1) (v := v) (l := ins_ t i (t.length + 1)) (o := .lst (((kidsUp t i v).map nI).map SV.p ++ [.p (nI (i + 1))]))
        rw [ins_step hvm ht] at g2
        refine .inl ⟨_, _, rfl, ?_⟩
        exact g2
  · rintro e st ⟨a, b, rfl, rfl⟩
    rw [List.length_map]
    exact hD a b
theorem r_under_k13 (ds : List SV) (s : Store) (R : SV → Store → Prop) (w : Wf s) (h : S_under_k13 ds s R) : w_under_k13 (fnEnds s.length R) (startE 4 ds) s := by
  obtain ⟨t, rfl, T, q⟩ := h
  show w_under_k13 _ [some (.p (.tuple (t.map nI))), none, none, none] s
  unfold w_under_k13
  walk_at "m"
  have hl := T.len
  -- the empty lists
  have hwi : ∀ Q : ItM → Store → Prop, Q { items := rngItems 0 1 (t.length + 1) } s → wiR1 (aCons (wOp mAdd (wCB mLen (aCons (wVar 0) aNil)) (wC (.p (.int 1)))) aNil) [some (.p (.tuple (t.map nI))), none, none, none] s Q := fun Q hQ => by
    unfold wiR1
    walk_at "m"
    have e1 : ((t.length : Int) + 1).toNat = t.length + 1 := by omega
    rw [e1]
    exact ⟨by omega, by omega, hQ⟩
  have hl' : (rngItems 0 1 (t.length + 1)).length = t.length + 1 := by simp [rngItems]
  refine hwi _ ⟨fun i st => st = s ++ outs s.length i :: List.replicate i (.lst []), rfl, fun _ _ _ _ => trivial, ?_, ?_⟩
  · rintro i x st hx rfl
    have hi : i < t.length + 1 := by
      have := (List.getElem?_eq_some_iff.mp hx).1
      rwa [hl'] at this
    walk_at "m"
    have hs : (s ++ outs s.length i :: List.replicate i (MO.lst [])).length = s.length + 1 + i := by simp; omega
    refine ⟨by decide, (List.range i).map fun i => SV.c (s.length + 1 + i), ?_, ?_, .inl ?_⟩
    · simp [outs]
    · simp; rw [sizeLine_eq]; omega
    · simp [outs, List.range_succ, List.replicate_succ']
      omega
  · rintro st rfl
    rw [hl']
    show w_under_k13_L1 _ _ _
    have e2 : List.replicate (t.length + 1) (MO.lst []) = ins_ t 0 (t.length + 1) := by
      refine List.ext_getElem? fun j => ?_
      by_cases hj : j < t.length + 1
      · rw [ins_get hj, List.getElem?_replicate, if_pos hj]; rfl
      · rw [List.getElem?_eq_none (by simp; omega), List.getElem?_eq_none (by simp [ins_]; omega)]
    rw [e2]
    refine under_loop T s _ (fun a b => ?_) none none
    walk_at "m"
    refine ⟨s.length, Nat.le_refl _, by simp, _, under_frz, ?_, .inl ?_⟩
    · rw [List.take_left']; exact w; rfl
    · rw [List.take_left']; exact q; rfl
def wholeOf : SV → Bool
  | .p (.int _) => true
  | _ => false
def S_whole_k02 : MSp := fun ds st R => ∃ x, ds = [x] ∧ (∃ n, tyName st x = some n) ∧ R (.p (.bool (wholeOf x))) st
def w_whole_k02 : WS :=
    (wRet (wAndV (wIsi "int" (wVar 0)) (wNotV (wIsi "bool" (wVar 0)))))
theorem r_whole_k02 (ds : List SV) (s : Store) (R : SV → Store → Prop) (w : Wf s) (h : S_whole_k02 ds s R) : w_whole_k02 (fnEnds s.length R) (startE 1 ds) s := by
  obtain ⟨x, rfl, ⟨n, hn⟩, q⟩ := h
  show w_whole_k02 _ [some x] s
  unfold w_whole_k02
  simp only [s_ret, e_andv, e_isi, v_0, e_notv, fnEnds, hn, Option.some.injEq, exists_eq_left', SV.p.injEq, PyData.bool.injEq, exists_eq_left]
  have big : ∀ b : Bool, isB n "int" = true → isB n "bool" = b → (!b) = wholeOf x → (if isB n "int" = true then RetTo s.length R (.p (.bool (!isB n "bool"))) s else RetTo s.length R (.p (.bool false)) s) := fun b h1 h2 h3 => by
    rw [if_pos h1, h2, h3]; exact .inl q
  have small : isB n "int" = false → wholeOf x = false → (if isB n "int" = true then RetTo s.length R (.p (.bool (!isB n "bool"))) s else RetTo s.length R (.p (.bool false)) s) := fun h1 h2 => by
    rw [if_neg (by rw [h1]; decide)]; rw [h2] at q; exact .inl q
  cases x with
  | p d =>
    cases d with
    | none => cases hn; exact small rfl rfl
    | bool b => cases hn; exact big true rfl rfl rfl
    | int i => cases hn; exact big false rfl rfl rfl
    | str z => cases hn; exact small rfl rfl
    | list l => cases hn; exact small rfl rfl
    | tuple l => cases hn; exact small rfl rfl
    | dict l => cases hn
  | c k =>
    rw [ty_cc] at hn
    cases h : (s[k]?).bind MO.asL with
    | none => rw [h] at hn; cases hn
    | some l => rw [h] at hn; cases hn; exact small rfl rfl
  | t xs => cases hn; exact small rfl rfl
  | ro ns => cases hn
  | x _ _ => cases hn
def S_moved_k13 : MSp := fun ds st R => ∃ n k o t, ds = [.c n, .p (tv t)] ∧ Tr t ∧ st[n]? = some o ∧ Tape k o ∧ k < 2 ^ 39 ∧ ∀ u o', Tr u → u.length = t.length → Tape (k + 2) o' → R (.p (tv u)) (st.set n o')
def w_moved_k13 : WS :=
    (wSeq (wIfS (wTest (wOp mEq (wVar 1) (wTup aNil)))
    (wRet (wVar 1))
    wNext)
    (wSeq (wAsg (wCall S_draw_k13 (aCons (wVar 0) (aCons (wCB mLen (aCons (wVar 1) aNil)) aNil))) (gNm 2))
    (wRet (wOp mAdd (wOp mAdd (wSl (wVar 1) oNone (oSome (wVar 2))) (wTup (aCons (wCall S_draw_k13 (aCons (wVar 0) (aCons (wOp mAdd (wVar 2) (wC (.p (.int 1)))) aNil))) aNil))) (wSl (wVar 1) (oSome (wOp mAdd (wVar 2) (wC (.p (.int 1))))) oNone)))))
theorem tr_set {t : List Nat} (T : Tr t) {a r : Nat} (h : r ≤ a) : Tr (t.set a r) := by
  refine ⟨by rw [List.length_set]; exact T.len, fun i v hv => ?_⟩
  by_cases e : a = i
  · subst e
    have hl := (List.getElem?_eq_some_iff.mp hv).1
    rw [List.length_set] at hl
    rw [List.getElem?_set_self hl] at hv
    cases hv; exact h
  · rw [List.getElem?_set_ne e] at hv
    exact T.le i v hv
theorem low_tv {k : Nat} (t : List Nat) : Low (k + 1) (tv t) := low_tup (low_map fun _ => low_int _ _)
theorem r_moved_k13 (ds : List SV) (s : Store) (R : SV → Store → Prop) (w : Wf s) (h : S_moved_k13 ds s R) : w_moved_k13 (fnEnds s.length R) (startE 3 ds) s := by
  obtain ⟨n, k, o, t, rfl, T, hn, Tp, hk, q⟩ := h
  show w_moved_k13 _ [some (.c n), some (.p (.tuple (t.map nI))), none] s
  have hlt : n < s.length := (List.getElem?_eq_some_iff.mp hn).1
  unfold w_moved_k13
  walk_at "m"
  refine ⟨Nat.zero_le _, sh_low (low_tv (k := 0) t), by decide, ?_⟩
  have e1 : PyData.eqv (.tuple (t.map nI)) (.tuple []) = decide (t = []) := by
    rw [eqv_tup]
    cases t <;> simp [PyData.eqvAll]
  rw [e1]
  have hl := T.len
  refine ite2 (fun h => .inl ?_) (fun h => ?_)
  · have e2 : s.set n o = s := by
      refine List.ext_getElem? fun j => ?_
      by_cases e : n = j
      · subst e; rw [List.getElem?_set_self hlt, hn]
      · rw [List.getElem?_set_ne e]
    have := q t o T rfl (Tp.up (by omega))
    rwa [e2] at this
  · have h0 : t ≠ [] := by simpa using h
    have h1 : 0 < t.length := List.length_pos_iff.mpr h0
    refine draw_use hn Tp (by omega) (by omega) (by omega) fun a o1 ha T1 => ?_
    walk_at "m"
    refine draw_use (tp_at0 hlt) T1 (by omega) (by omega) (by omega) fun r o2 hr T2 => ?_
    walk_at "m"
    have e3 : ((a : Int) + 1) = ((a + 1 : Nat) : Int) := by omega
    rw [cut_to, e3, cut_from]
    have ha' : a < t.length := by omega
    have e4 : (t.map nI).take a ++ [nI r] ++ (t.map nI).drop (a + 1) = (t.set a r).map nI := by
      rw [mid_set _ _ _ (by simpa using ha'), List.map_set]
    refine ⟨by decide, ?_, ?_, .inl ?_⟩
    · simp; rw [sizeLine_eq]; omega
    · simp; rw [sizeLine_eq]; omega
    · have := q (t.set a r) o2 (tr_set T (by omega)) (by simp) T2
      rw [tv, ← e4] at this
      simpa [nI] using this
end M

namespace M
open PySem PySem.Spec PyProof.Rows L2
local macro_rules | `(tactic| walk_at "m") => `(tactic| simp (maxSteps := 2000000) (implicitDefEqProofs := false) only [v_0, v_s, e_c, e_op, e_test, e_and, e_or, e_not, e_andv, e_orv, e_notv, e_ife, e_chain, e_anil, e_acons, e_cb, e_call, e_tup, e_lst, e_lstc, e_sl, e_onone, e_osome, e_mt, e_isi, e_neg, e_rd, s_augs, e_lrg, e_lrgc, e_callx, e_orx, e_isx, e_isxt, e_place, s_raisep, s_raiset, s_try, s_frzv, isNone_x, x_ex, x_pl, xis_pp, xis_pt, xis_pm, xis_pl, xis_V, xis_R, xis_tt, xis_tp, xis_tm, xis_tl, xis_mm, xis_mp, xis_mt, xis_ml, xis_ll, xis_lp, xis_lt, xis_lm, List.any_cons, List.any_nil, in_errs0, in_errs1, in_errs2, in_errs3, m_in, m_notin, m_isb, m_notb,
  s_seq, s_next, s_break, s_cont, s_never, s_drop, s_ret, s_retn, s_if, s_asg, s_par, s_retf, s_retf2, wipeE, List.append_assoc, List.cons_append, List.nil_append, g_nm, g_snil, g_scons, g_tp, g_sb, m_int, m_sub, m_lt, m_le, m_gt, m_ge, m_mod, m_div, m_pow, m_add, m_addt, m_addl, m_adds, m_mul, m_mulc, m_isn, m_notn, m_eq, m_ne, p_p,
  q_t, q_l, q_tt, l_l, t_t, t_tt, m_ixt, m_ixl, m_ixtt, m_lent, m_lenl, m_lentt, m_max2, m_min2, m_intb, m_listt, m_listl, m_tuplel, m_app, m_setl, sl_t, sl_r, sl_l, isNone, tyName, isB, mkTup, allP, allP_map, Option.map_some, map_p_inj,
  q_cc, l_cc, p_cc, ty_cc, m_ixcc, m_lencc, m_tuplecc, m_listcc, asL_l, Option.bind_some, mkTup_p, st_at, st_setk, st_at0, st_set0, st_take, st_atS, st_setS, st_atS0, st_setS0, st_takeS, List.length_set, List.set_set, ix40, ix41, ix42, ix43, Nat.reduceAdd, Nat.zero_add, at_nat', at_succ, at_0, at_1, at_2, at_3, at_4, at_m1, eqv_int, eqv_bool, sh_int, sh_bool, sh_none, fnEnds, wYes, gNm,
  List.getElem?_cons_zero, List.getElem?_cons_succ, List.set_cons_zero, List.set_cons_succ, List.getElem?_map, List.length_map, List.length_cons, List.length_nil, List.length_append, List.map_cons, List.map_nil,
  Option.some.injEq, SV.p.injEq, SV.c.injEq, PyData.int.injEq, PyData.bool.injEq, exists_eq_left', exists_eq_left, exists_eq_right, exists_eq', exists_eq, exists_and_left, true_and, and_true, true_or, or_true, MO.lst.injEq, Bool.not_true, Bool.not_false, if_true, if_false, Bool.false_eq_true, ↓reduceIte, beq_self_eq_true, String.reduceBEq, Bool.or_false, Bool.false_or, Bool.and_false, Bool.false_and, Bool.or_true, Bool.true_or, decide_eq_true_eq, beq_iff_eq, Bool.not_eq_true])
local macro_rules | `(tactic| walk_at "mh") => `(tactic| simp (maxSteps := 2000000) (implicitDefEqProofs := false) only [v_0, v_s, e_c, e_op, e_test, e_and, e_or, e_not, e_andv, e_orv, e_notv, e_ife, e_chain, e_anil, e_acons, e_cb, e_call, e_tup, e_lst, e_lstc, e_sl, e_onone, e_osome, e_mt, e_isi, e_neg, e_rd, s_augs, e_lrg, e_lrgc, e_callx, e_orx, e_isx, e_isxt, e_place, s_raisep, s_raiset, s_try, s_frzv, isNone_x, x_ex, x_pl, xis_pp, xis_pt, xis_pm, xis_pl, xis_V, xis_R, xis_tt, xis_tp, xis_tm, xis_tl, xis_mm, xis_mp, xis_mt, xis_ml, xis_ll, xis_lp, xis_lt, xis_lm, List.any_cons, List.any_nil, in_errs0, in_errs1, in_errs2, in_errs3, m_in, m_notin, m_isb, m_notb,
  s_seq, s_next, s_break, s_cont, s_never, s_drop, s_ret, s_retn, s_if, s_asg, s_par, s_retf, s_retf2, wipeE, List.append_assoc, List.cons_append, List.nil_append, g_nm, g_snil, g_scons, g_tp, g_sb, m_int, m_sub, m_lt, m_le, m_gt, m_ge, m_mod, m_div, m_pow, m_add, m_addt, m_addl, m_adds, m_mul, m_mulc, m_isn, m_notn, m_eq, m_ne, p_p,
  q_t, q_l, q_tt, l_l, t_t, t_tt, m_ixt, m_ixl, m_ixtt, m_lent, m_lenl, m_lentt, m_max2, m_min2, m_intb, m_listt, m_listl, m_tuplel, m_app, m_setl, sl_t, sl_r, sl_l, isNone, tyName, isB, mkTup, allP, allP_map, Option.map_some, map_p_inj,
  q_cc, l_cc, p_cc, ty_cc, m_ixcc, m_lencc, m_tuplecc, m_listcc, asL_l, Option.bind_some, mkTup_p, st_at, st_setk, st_at0, st_set0, st_take, st_atS, st_setS, st_atS0, st_setS0, st_takeS, List.length_set, List.set_set, ix40, ix41, ix42, ix43, Nat.reduceAdd, Nat.zero_add, at_nat', at_succ, at_0, at_1, at_2, at_3, at_4, at_m1, eqv_int, eqv_bool, sh_int, sh_bool, sh_none, fnEnds, wYes, gNm,
  List.getElem?_cons_zero, List.getElem?_cons_succ, List.set_cons_zero, List.set_cons_succ, List.getElem?_map, List.length_map, List.length_cons, List.length_nil, List.length_append, List.map_cons, List.map_nil,
  Option.some.injEq, SV.p.injEq, SV.c.injEq, PyData.int.injEq, PyData.bool.injEq, exists_eq_left', exists_eq_left, exists_eq_right, exists_eq', exists_eq, exists_and_left, true_and, and_true, true_or, or_true, MO.lst.injEq, Bool.not_true, Bool.not_false, if_true, if_false, Bool.false_eq_true, ↓reduceIte, beq_self_eq_true, String.reduceBEq, Bool.or_false, Bool.false_or, Bool.and_false, Bool.false_and, Bool.or_true, Bool.true_or, decide_eq_true_eq, beq_iff_eq, Bool.not_eq_true, tp_at0, tp_at, tp_set, Option.map_none, Option.some.injEq, *])
def S_cuts_counts : MSp := fun ds st R => ∃ t, ds = [.p (tv t)] ∧ Tr t ∧ R (.p (iL (sizesF t))) st
def w_cuts_counts_L1 : WS := wFor (wiR3 (aCons (wCB mLen (aCons (wVar 0) aNil)) (aCons (wC (.p (.int 0))) (aCons (wNeg (wC (.p (.int 1)))) aNil)))) (gNm 2)
    (wAsg (wOp mAdd (wOp mIx (wVar 1) (wOp mIx (wVar 0) (wOp mSub (wVar 2) (wC (.p (.int 1)))))) (wOp mIx (wVar 1) (wVar 2))) (gSb (wVar 1) (wOp mIx (wVar 0) (wOp mSub (wVar 2) (wC (.p (.int 1))))) mSetL))
def w_cuts_counts : WS :=
    (wSeq (wAsg (wOp mMulC (wLst (aCons (wC (.p (.int 1))) aNil)) (wCall S_trees_many (aCons (wVar 0) aNil))) (gNm 1))
    (wSeq w_cuts_counts_L1
    (wRetF (wVar 1))))
theorem r_cuts_counts (ds : List SV) (s : Store) (R : SV → Store → Prop) (w : Wf s) (h : S_cuts_counts ds s R) : w_cuts_counts (fnEnds s.length R) (startE 3 ds) s := by
  obtain ⟨t, rfl, T, q⟩ := h
  show w_cuts_counts _ [some (.p (.tuple (t.map nI))), none, none] s
  unfold w_cuts_counts
  walk_at "m"
  have hl := T.len
  refine ⟨by decide, t, rfl, ?_⟩
  walk_at "m"
  refine ⟨by omega, by omega, by rw [sizeLine_eq]; omega, ?_⟩
  rw [Int.toNat_natCast, rep_one]
  refine sizes_loop T s _ (fun j => ?_) none
  walk_at "m"
  exact ⟨Nat.le_refl _, w, .inl q⟩
def oN : Option Nat → PyData
  | none => .none
  | some n => nI n
def ogStep (t : List Nat) (x : List Int) (p : Nat) (f : List (Option Nat)) : List (Option Nat) :=
  match f.getD (t.getD (p - 1) 0) none with
  | none => f.set (t.getD (p - 1) 0) (some p)
  | some q => if x.getD q 0 < x.getD p 0 then f.set (t.getD (p - 1) 0) (some p) else f
def ogUp (t : List Nat) (x : List Int) : Nat → List (Option Nat)
  | 0 => List.replicate (t.length + 1) none
  | i + 1 => ogStep t x (i + 1) (ogUp t x i)
theorem ogUp_len (t : List Nat) (x : List Int) : ∀ i, (ogUp t x i).length = t.length + 1
  | 0 => by simp [ogUp]
  | i + 1 => by
    show (ogStep t x (i + 1) (ogUp t x i)).length = _
    unfold ogStep
    split
    · rw [List.length_set, ogUp_len t x i]
    · split
      · rw [List.length_set, ogUp_len t x i]
      · exact ogUp_len t x i
theorem ogUp_in {t : List Nat} {x : List Int} : ∀ (i v q : Nat), i ≤ t.length → (ogUp t x i)[v]? = some (some q) → 1 ≤ q ∧ q ≤ i ∧ t[q - 1]? = some v
  | 0, v, q, _, h => by
    rw [ogUp, List.getElem?_replicate] at h
    split at h <;> cases h
  | i + 1, v, q, hi, h => by
    have ih := fun h => ogUp_in (t := t) (x := x) i v q (by omega) h
    have put : (List.set (ogUp t x i) (t.getD (i + 1 - 1) 0) (some (i + 1)))[v]? = some (some q) → 1 ≤ q ∧ q ≤ i + 1 ∧ t[q - 1]? = some v := fun h => by
      by_cases e : t.getD (i + 1 - 1) 0 = v
      · rw [e] at h
        have hv : v < (ogUp t x i).length := by
          have := (List.getElem?_eq_some_iff.mp h).1
          rwa [List.length_set] at this
        rw [List.getElem?_set_self hv] at h
        cases h
        refine ⟨by omega, by omega, ?_⟩
        have h2 : t[i]? = some t[i] := List.getElem?_eq_getElem (by omega)
        rw [Nat.add_sub_cancel] at e ⊢
        rw [List.getD, h2] at e
        rw [h2]; exact congrArg some e
      · rw [List.getElem?_set_ne e] at h
        obtain ⟨a, b, c⟩ := ih h
        exact ⟨a, by omega, c⟩
    rw [ogUp] at h
    unfold ogStep at h
    split at h
    · exact put h
    · split at h
      · exact put h
      · obtain ⟨a, b, c⟩ := ih h
        exact ⟨a, by omega, c⟩
def ogF (t : List Nat) (x : List Int) : List (Option Nat) := ogUp t x t.length
def S_weights_on_to_greatest : MSp := fun ds st R => ∃ t x, ds = [.p (tv t), .p (iL x)] ∧ Tr t ∧ x.length = t.length + 1 ∧ R (.p (.tuple ((ogF t x).map oN))) st
def w_weights_on_to_greatest_L1 : WS := wFor (wiR2 (aCons (wC (.p (.int 1))) (aCons (wOp mAdd (wCB mLen (aCons (wVar 0) aNil)) (wC (.p (.int 1)))) aNil))) (gNm 3)
    (wSeq (wAsg (wOp mIx (wVar 0) (wOp mSub (wVar 3) (wC (.p (.int 1))))) (gNm 4))
    (wIfS (wOr (wTest (wOp mIsN (wOp mIx (wVar 2) (wVar 4)) (wC (.p .none)))) (wTest (wOp mGt (wOp mIx (wVar 1) (wVar 3)) (wOp mIx (wVar 1) (wOp mIx (wVar 2) (wVar 4))))))
    (wAsg (wVar 3) (gSb (wVar 2) (wVar 4) mSetL))
    wNext))
def w_weights_on_to_greatest : WS :=
    (wSeq (wAsg (wOp mMulC (wLst (aCons (wC (.p .none)) aNil)) (wOp mAdd (wCB mLen (aCons (wVar 0) aNil)) (wC (.p (.int 1))))) (gNm 2))
    (wSeq w_weights_on_to_greatest_L1
    (wRet (wCB mTuple (aCons (wVar 2) aNil)))))
theorem og_loop {t : List Nat} {x : List Int} (T : Tr t) (hx : x.length = t.length + 1) (s : Store) (D : ME) (hD : ∀ a b, D.nx [some (.p (.tuple (t.map nI))), some (.p (.list (x.map PyData.int))), some (.c s.length), a, b] (s ++ [.lst (((ogF t x).map oN).map SV.p)])) (a0 b0 : Option SV) :
    w_weights_on_to_greatest_L1 D [some (.p (.tuple (t.map nI))), some (.p (.list (x.map PyData.int))), some (.c s.length), a0, b0] (s ++ [.lst ((List.replicate (t.length + 1) PyData.none).map SV.p)]) := by
  have hl := T.len
  unfold w_weights_on_to_greatest_L1
  refine for_rng 1 1 t.length (fun Q hQ => ?_) (fun i e st => ∃ a b, e = [some (.p (.tuple (t.map nI))), some (.p (.list (x.map PyData.int))), some (.c s.length), a, b] ∧ st = s ++ [.lst (((ogUp t x i).map oN).map SV.p)]) ⟨_, _, rfl, ?_⟩ ?_ ?_
  · unfold wiR2
    walk_at "m"
    refine ⟨by omega, ?_⟩
    have e1 : ((t.length : Int) + 1 - 1).toNat = t.length := by omega
    rw [e1]; exact hQ
  · rw [ogUp, List.map_replicate, List.map_replicate, List.map_replicate]; rfl
  · rintro i e st hi ⟨a, b, rfl, rfl⟩
    have hz : (1 : Int) + (i : Nat) * 1 = (i : Int) + 1 := by omega
    have hz1 : ((i : Int) + 1 - 1) = (i : Int) := by omega
    rw [hz]
    have ht : t[i]? = some t[i] := List.getElem?_eq_getElem (by omega)
    have hv := T.le i _ ht
    have lu := ogUp_len t x i
    have h1 := List.getElem?_eq_getElem (l := ogUp t x i) (i := t[i]) (by omega)
    have h2 := List.getElem?_eq_getElem (l := x) (i := i + 1) (by omega)
    walk_at "m"
    simp only [hz1, at_nat', List.getElem?_map, ht, Option.map_some, nI]
    walk_at "m"
    simp only [h1, Option.map_some]
    walk_at "m"
    have st0 : ogUp t x (i + 1) = ogStep t x (i + 1) (ogUp t x i) := rfl
    unfold ogStep at st0
    simp only [Nat.add_sub_cancel, List.getD, ht, h1, h2, Option.getD_some] at st0
    cases hq : (ogUp t x i)[t[i]] with
    | none =>
      rw [hq] at st0
      simp only at st0
      simp only [oN, isNone]
      walk_at "m"
      refine ⟨t[i], ix_nat (by omega), .inl ⟨_, _, rfl, ?_⟩⟩
      show _ = s ++ [.lst (((ogUp t x (i + 1)).map oN).map SV.p)]
      rw [st0, List.map_set, List.map_set]
      simp [oN, nI]
    | some q =>
      rw [hq] at st0
      simp only at st0
      obtain ⟨q1, q2, q3⟩ := ogUp_in (t := t) (x := x) i t[i] q (by omega) (by rw [h1, hq])
      have h3 := List.getElem?_eq_getElem (l := x) (i := q) (by omega)
      simp only [h3, Option.getD_some] at st0
      simp only [oN, isNone, nI]
      walk_at "m"
      simp only [h2, h3, Option.map_some, Bool.false_eq_true, if_false]
      walk_at "m"
      refine ite2 (fun h => ?_) (fun h => ?_)
      · rw [if_pos h] at st0
        refine ⟨_, ix_nat (by omega), .inl ⟨_, _, rfl, ?_⟩⟩
        show _ = s ++ [.lst (((ogUp t x (i + 1)).map oN).map SV.p)]
        rw [st0, List.map_set, List.map_set]
        simp [oN, nI]
      · rw [if_neg h] at st0
        refine .inl ⟨_, _, rfl, ?_⟩
        show _ = s ++ [.lst (((ogUp t x (i + 1)).map oN).map SV.p)]
        rw [st0]
  · rintro e st ⟨a, b, rfl, rfl⟩
    exact hD a b
theorem r_weights_on_to_greatest (ds : List SV) (s : Store) (R : SV → Store → Prop) (w : Wf s) (h : S_weights_on_to_greatest ds s R) : w_weights_on_to_greatest (fnEnds s.length R) (startE 5 ds) s := by
  obtain ⟨t, x, rfl, T, hx, q⟩ := h
  show w_weights_on_to_greatest _ [some (.p (.tuple (t.map nI))), some (.p (.list (x.map PyData.int))), none, none, none] s
  unfold w_weights_on_to_greatest
  walk_at "m"
  have hl := T.len
  have e0 : ((t.length : Int) + 1).toNat = t.length + 1 := by omega
  refine ⟨by decide, by omega, by omega, by rw [sizeLine_eq]; omega, ?_⟩
  rw [e0, rep_one]
  refine og_loop T hx s _ (fun a b => ?_) none none
  walk_at "m"
  refine .inr ⟨by simp, ?_, rfl, ?_⟩
  · rw [st_take]; exact w
  · rw [st_take]; exact q
theorem sizesF_len (t : List Nat) : (sizesF t).length = t.length + 1 := by
  unfold sizesF
  rw [upTo_len, List.length_replicate]
def S_weights_by_weight : MSp := fun ds st R => ∃ t, ds = [.p (tv t)] ∧ Tr t ∧ R (.p (.tuple ((ogF t (sizesF t)).map oN))) st
def w_weights_by_weight : WS :=
    (wRet (wCall S_weights_on_to_greatest (aCons (wVar 0) (aCons (wCall S_cuts_counts (aCons (wVar 0) aNil)) aNil))))
theorem r_weights_by_weight (ds : List SV) (s : Store) (R : SV → Store → Prop) (w : Wf s) (h : S_weights_by_weight ds s R) : w_weights_by_weight (fnEnds s.length R) (startE 1 ds) s := by
  obtain ⟨t, rfl, T, q⟩ := h
  show w_weights_by_weight _ [some (.p (tv t))] s
  unfold w_weights_by_weight
  walk_at "m"
  exact ⟨t, rfl, T, t, _, rfl, T, sizesF_len t, .inl q⟩
end M

namespace M
open PySem PySem.Spec PyProof.Rows L2
local macro_rules | `(tactic| walk_at "m") => `(tactic| simp (maxSteps := 2000000) (implicitDefEqProofs := false) only [v_0, v_s, e_c, e_op, e_test, e_and, e_or, e_not, e_andv, e_orv, e_notv, e_ife, e_chain, e_anil, e_acons, e_cb, e_call, e_tup, e_lst, e_lstc, e_sl, e_onone, e_osome, e_mt, e_isi, e_neg, e_rd, s_augs, e_lrg, e_lrgc, e_callx, e_orx, e_isx, e_isxt, e_place, s_raisep, s_raiset, s_try, s_frzv, isNone_x, x_ex, x_pl, xis_pp, xis_pt, xis_pm, xis_pl, xis_V, xis_R, xis_tt, xis_tp, xis_tm, xis_tl, xis_mm, xis_mp, xis_mt, xis_ml, xis_ll, xis_lp, xis_lt, xis_lm, List.any_cons, List.any_nil, in_errs0, in_errs1, in_errs2, in_errs3, m_in, m_notin, m_isb, m_notb,
  s_seq, s_next, s_break, s_cont, s_never, s_drop, s_ret, s_retn, s_if, s_asg, s_par, s_retf, s_retf2, wipeE, List.append_assoc, List.cons_append, List.nil_append, g_nm, g_snil, g_scons, g_tp, g_sb, m_int, m_sub, m_lt, m_le, m_gt, m_ge, m_mod, m_div, m_pow, m_add, m_addt, m_addl, m_adds, m_mul, m_mulc, m_isn, m_notn, m_eq, m_ne, p_p,
  q_t, q_l, q_tt, l_l, t_t, t_tt, m_ixt, m_ixl, m_ixtt, m_lent, m_lenl, m_lentt, m_max2, m_min2, m_intb, m_listt, m_listl, m_tuplel, m_app, m_setl, sl_t, sl_r, sl_l, isNone, tyName, isB, mkTup, allP, allP_map, Option.map_some, map_p_inj,
  q_cc, l_cc, p_cc, ty_cc, m_ixcc, m_lencc, m_tuplecc, m_listcc, asL_l, Option.bind_some, mkTup_p, st_at, st_setk, st_at0, st_set0, st_take, st_atS, st_setS, st_atS0, st_setS0, st_takeS, List.length_set, List.set_set, ix40, ix41, ix42, ix43, Nat.reduceAdd, Nat.zero_add, at_nat', at_succ, at_0, at_1, at_2, at_3, at_4, at_m1, eqv_int, eqv_bool, sh_int, sh_bool, sh_none, fnEnds, wYes, gNm,
  List.getElem?_cons_zero, List.getElem?_cons_succ, List.set_cons_zero, List.set_cons_succ, List.getElem?_map, List.length_map, List.length_cons, List.length_nil, List.length_append, List.map_cons, List.map_nil,
  Option.some.injEq, SV.p.injEq, SV.c.injEq, PyData.int.injEq, PyData.bool.injEq, exists_eq_left', exists_eq_left, exists_eq_right, exists_eq', exists_eq, exists_and_left, true_and, and_true, true_or, or_true, MO.lst.injEq, Bool.not_true, Bool.not_false, if_true, if_false, Bool.false_eq_true, ↓reduceIte, beq_self_eq_true, String.reduceBEq, Bool.or_false, Bool.false_or, Bool.and_false, Bool.false_and, Bool.or_true, Bool.true_or, decide_eq_true_eq, beq_iff_eq, Bool.not_eq_true])
local macro_rules | `(tactic| walk_at "mh") => `(tactic| simp (maxSteps := 2000000) (implicitDefEqProofs := false) only [v_0, v_s, e_c, e_op, e_test, e_and, e_or, e_not, e_andv, e_orv, e_notv, e_ife, e_chain, e_anil, e_acons, e_cb, e_call, e_tup, e_lst, e_lstc, e_sl, e_onone, e_osome, e_mt, e_isi, e_neg, e_rd, s_augs, e_lrg, e_lrgc, e_callx, e_orx, e_isx, e_isxt, e_place, s_raisep, s_raiset, s_try, s_frzv, isNone_x, x_ex, x_pl, xis_pp, xis_pt, xis_pm, xis_pl, xis_V, xis_R, xis_tt, xis_tp, xis_tm, xis_tl, xis_mm, xis_mp, xis_mt, xis_ml, xis_ll, xis_lp, xis_lt, xis_lm, List.any_cons, List.any_nil, in_errs0, in_errs1, in_errs2, in_errs3, m_in, m_notin, m_isb, m_notb,
  s_seq, s_next, s_break, s_cont, s_never, s_drop, s_ret, s_retn, s_if, s_asg, s_par, s_retf, s_retf2, wipeE, List.append_assoc, List.cons_append, List.nil_append, g_nm, g_snil, g_scons, g_tp, g_sb, m_int, m_sub, m_lt, m_le, m_gt, m_ge, m_mod, m_div, m_pow, m_add, m_addt, m_addl, m_adds, m_mul, m_mulc, m_isn, m_notn, m_eq, m_ne, p_p,
  q_t, q_l, q_tt, l_l, t_t, t_tt, m_ixt, m_ixl, m_ixtt, m_lent, m_lenl, m_lentt, m_max2, m_min2, m_intb, m_listt, m_listl, m_tuplel, m_app, m_setl, sl_t, sl_r, sl_l, isNone, tyName, isB, mkTup, allP, allP_map, Option.map_some, map_p_inj,
  q_cc, l_cc, p_cc, ty_cc, m_ixcc, m_lencc, m_tuplecc, m_listcc, asL_l, Option.bind_some, mkTup_p, st_at, st_setk, st_at0, st_set0, st_take, st_atS, st_setS, st_atS0, st_setS0, st_takeS, List.length_set, List.set_set, ix40, ix41, ix42, ix43, Nat.reduceAdd, Nat.zero_add, at_nat', at_succ, at_0, at_1, at_2, at_3, at_4, at_m1, eqv_int, eqv_bool, sh_int, sh_bool, sh_none, fnEnds, wYes, gNm,
  List.getElem?_cons_zero, List.getElem?_cons_succ, List.set_cons_zero, List.set_cons_succ, List.getElem?_map, List.length_map, List.length_cons, List.length_nil, List.length_append, List.map_cons, List.map_nil,
  Option.some.injEq, SV.p.injEq, SV.c.injEq, PyData.int.injEq, PyData.bool.injEq, exists_eq_left', exists_eq_left, exists_eq_right, exists_eq', exists_eq, exists_and_left, true_and, and_true, true_or, or_true, MO.lst.injEq, Bool.not_true, Bool.not_false, if_true, if_false, Bool.false_eq_true, ↓reduceIte, beq_self_eq_true, String.reduceBEq, Bool.or_false, Bool.false_or, Bool.and_false, Bool.false_and, Bool.or_true, Bool.true_or, decide_eq_true_eq, beq_iff_eq, Bool.not_eq_true, tp_at0, tp_at, tp_set, Option.map_none, Option.some.injEq, *])
def par (t : List Nat) (p : Nat) : Nat := t.getD (p - 1) 0
theorem par_get {t : List Nat} {p : Nat} (h : p < t.length) : t[p]? = some (par t (p + 1)) := by
  unfold par
  rw [Nat.add_sub_cancel, List.getD, List.getElem?_eq_getElem h]; rfl
theorem par_lt {t : List Nat} (T : Tr t) {p : Nat} (h : 1 ≤ p) (h2 : p ≤ t.length) : par t p < p := by
  obtain ⟨q, rfl⟩ : ∃ q, p = q + 1 := ⟨p - 1, by omega⟩
  have := T.le q _ (par_get (t := t) (by omega))
  omega
def road (t : List Nat) (p : Nat) : List Nat := if h : p = 0 then [0] else p :: road t (min (par t p) (p - 1))
termination_by p
theorem road_0 (t : List Nat) : road t 0 = [0] := by rw [road]; rfl
theorem road_s {t : List Nat} (T : Tr t) {p : Nat} (h : 1 ≤ p) (h2 : p ≤ t.length) : road t p = p :: road t (par t p) := by
  have := par_lt T h h2
  rw [road, dif_neg (by omega), Nat.min_eq_left (by omega)]
theorem road_ne (t : List Nat) (p : Nat) : road t p ≠ [] := by
  rw [road]; split <;> simp
theorem road_le {t : List Nat} (T : Tr t) : ∀ (n p : Nat), p ≤ n → p < t.length + 1 → ∀ a ∈ road t p, a ≤ p
  | n, 0, _, _, a, m => by rw [road_0] at m; simp at m; omega
  | 0, p + 1, h, _, _, _ => by omega
  | n + 1, p + 1, h, h2, a, m => by
    have := par_lt T (p := p + 1) (by omega) (by omega)
    rw [road_s T (by omega) (by omega)] at m
    rcases List.mem_cons.mp m with m | m
    · omega
    · have := road_le T n _ (by omega) (by omega) a m
      omega
theorem road_in {t : List Nat} (T : Tr t) {p a : Nat} (h : p < t.length + 1) (m : a ∈ road t p) : a < t.length + 1 := by
  have := road_le T p p (Nat.le_refl _) h a m
  omega
theorem road_len {t : List Nat} (T : Tr t) : ∀ (n p : Nat), p ≤ n → p < t.length + 1 → (road t p).length ≤ p + 1
  | n, 0, _, _ => by rw [road_0]; simp
  | 0, p + 1, h, _ => by omega
  | n + 1, p + 1, h, h2 => by
    have := par_lt T (p := p + 1) (by omega) (by omega)
    rw [road_s T (by omega) (by omega)]
    have := road_len T n _ (by omega) (by omega : par t (p + 1) < t.length + 1)
    simp; omega
def S_trees_need_place : MSp := fun ds st R => ∃ t p, ds = [.p (tv t), .p (nI p)] ∧ p < t.length + 1 ∧ R (.p .none) st
def w_trees_need_place : WS :=
    (wIfS (wNot (wTest (wChain mLe mLt (wC (.p (.int 0))) (wVar 1) (wCall S_trees_many (aCons (wVar 0) aNil)))))
    wNever
    wNext)
theorem r_trees_need_place (ds : List SV) (s : Store) (R : SV → Store → Prop) (w : Wf s) (h : S_trees_need_place ds s R) : w_trees_need_place (fnEnds s.length R) (startE 2 ds) s := by
  obtain ⟨t, p, rfl, hp, q⟩ := h
  show w_trees_need_place _ [some (.p (tv t)), some (.p (.int p))] s
  unfold w_trees_need_place
  walk_at "m"
  have h0 : (0 : Int) ≤ (p : Int) := by omega
  simp only [h0, decide_true, if_true]
  refine ⟨t, rfl, ?_⟩
  walk_at "m"
  refine ite2 (fun h => ?_) (fun _ => .inl q)
  simp at h
  omega
def S_trees_road_up : MSp := fun ds st R => ∃ t p, ds = [.p (tv t), .p (nI p)] ∧ Tr t ∧ p < t.length + 1 ∧ R (.p (.list ((road t p).map nI))) st
def w_trees_road_up_L1 : WS := wWhile (wTest (wOp mNe (wOp mIx (wVar 2) (wNeg (wC (.p (.int 1))))) (wC (.p (.int 0)))))
    (wDrop (wMt mAppend (wVar 2) (aCons (wOp mIx (wVar 0) (wOp mSub (wOp mIx (wVar 2) (wNeg (wC (.p (.int 1))))) (wC (.p (.int 1))))) aNil)))
def w_trees_road_up : WS :=
    (wSeq (wDrop (wCall S_trees_need_place (aCons (wVar 0) (aCons (wVar 1) aNil))))
    (wSeq (wAsg (wLstC (aCons (wVar 1) aNil)) (gNm 2))
    (wSeq w_trees_road_up_L1
    (wRetF (wVar 2)))))
theorem last_app {l : List Nat} {p : Nat} : (((l ++ [p]).map nI).map SV.p).getLast? = some (.p (nI p)) := by simp
theorem up_loop {t : List Nat} (T : Tr t) {p0 : Nat} (hp0 : p0 < t.length + 1) (s : Store) (D : ME) (hD : D.nx [some (.p (.tuple (t.map nI))), some (.p (.int (p0 : Nat))), some (.c s.length)] (s ++ [.lst (((road t p0).map nI).map SV.p)])) :
    w_trees_road_up_L1 D [some (.p (.tuple (t.map nI))), some (.p (.int (p0 : Nat))), some (.c s.length)] (s ++ [.lst [.p (.int (p0 : Nat))]]) := by
  unfold w_trees_road_up_L1 wWhile
  have hl := T.len
  refine ⟨fun m e st => ∃ pre p, m = p ∧ p < t.length + 1 ∧ pre ++ road t p = road t p0 ∧ e = [some (.p (.tuple (t.map nI))), some (.p (.int (p0 : Nat))), some (.c s.length)] ∧ st = s ++ [.lst (((pre ++ [p]).map nI).map SV.p)], ⟨p0, [], p0, rfl, hp0, rfl, rfl, rfl⟩, ?_⟩
  rintro m e st ⟨pre, p, rfl, hp, hr, rfl, rfl⟩
  walk_at "m"
  have la := last_app (l := pre) (p := m)
  refine ⟨_, la, ?_⟩
  simp only [nI]
  walk_at "m"
  cases m with
  | zero =>
    have e1 : ((((0 : Nat) : Int) == 0)) = true := rfl
    rw [e1]
    simp only [Bool.not_true, Bool.false_eq_true, if_false]
    rw [road_0] at hr
    rw [← hr] at hD
    simpa [nI] using hD
  | succ q =>
    have e1 : ((((q + 1 : Nat) : Int) == 0)) = false := by
      rw [beq_eq_false_iff_ne]; omega
    rw [e1]
    simp only [Bool.not_false, if_true]
    refine ⟨_, la, ?_⟩
    simp only [nI]
    walk_at "m"
    have e2 : ((q + 1 : Nat) : Int) - 1 = (q : Int) := by omega
    have lp := par_lt T (p := q + 1) (by omega) (by omega)
    rw [e2]
    refine ⟨.p (nI (par t (q + 1))), by rw [at_nat', List.getElem?_map, List.getElem?_map, par_get (by omega)]; rfl, ?_⟩
    have hlen : pre.length + (road t (q + 1)).length ≤ 200 := by
      rw [← List.length_append, hr]
      have := road_len T p0 p0 (Nat.le_refl _) hp0
      omega
    have : 1 ≤ (road t (q + 1)).length := List.length_pos_iff.mpr (road_ne _ _)
    refine ⟨by rw [sizeLine_eq]; omega, .inl ⟨par t (q + 1), lp, by omega, pre ++ [q + 1], ?_, rfl, ?_⟩⟩
    · rw [← hr, road_s T (p := q + 1) (by omega) (by omega)]; simp
    · simp [nI]
theorem r_trees_road_up (ds : List SV) (s : Store) (R : SV → Store → Prop) (w : Wf s) (h : S_trees_road_up ds s R) : w_trees_road_up (fnEnds s.length R) (startE 3 ds) s := by
  obtain ⟨t, p, rfl, T, hp, q⟩ := h
  show w_trees_road_up _ [some (.p (.tuple (t.map nI))), some (.p (.int p)), none] s
  unfold w_trees_road_up
  walk_at "m"
  refine ⟨t, p, rfl, hp, by decide, ?_⟩
  refine up_loop T hp s _ ?_
  walk_at "m"
  exact ⟨Nat.le_refl _, w, .inl q⟩
def cv (c : List (Option Nat)) : PyData := .tuple (c.map oN)
def isTop (t : List Nat) (c : List (Option Nat)) (p : Nat) : Bool := p == 0 || !decide (c.getD (par t p) none = some p)
theorem eqv_oN (o : Option Nat) (p : Nat) : PyData.eqv (oN o) (.int (p : Nat)) = decide (o = some p) := by
  cases o with
  | none => exact eqv_ni _
  | some q =>
    show PyData.eqv (.int (q : Nat)) (.int (p : Nat)) = _
    rw [eqv_int]
    rw [Bool.eq_iff_iff]
    simp
    omega
def S_cuts_is_top : MSp := fun ds st R => ∃ t c p, ds = [.p (tv t), .p (cv c), .p (nI p)] ∧ Tr t ∧ c.length = t.length + 1 ∧ p < t.length + 1 ∧ R (.p (.bool (isTop t c p))) st
def w_cuts_is_top : WS :=
    (wRet (wOrV (wOp mEq (wVar 2) (wC (.p (.int 0)))) (wOp mNe (wOp mIx (wVar 1) (wOp mIx (wVar 0) (wOp mSub (wVar 2) (wC (.p (.int 1)))))) (wVar 2))))
theorem r_cuts_is_top (ds : List SV) (s : Store) (R : SV → Store → Prop) (w : Wf s) (h : S_cuts_is_top ds s R) : w_cuts_is_top (fnEnds s.length R) (startE 3 ds) s := by
  obtain ⟨t, c, p, rfl, T, hc, hp, q⟩ := h
  show w_cuts_is_top _ [some (.p (.tuple (t.map nI))), some (.p (.tuple (c.map oN))), some (.p (.int p))] s
  unfold w_cuts_is_top
  walk_at "m"
  cases p with
  | zero => exact .inl q
  | succ p =>
    have e2 : ((p + 1 : Nat) : Int) - 1 = (p : Int) := by omega
    have lp := par_lt T (p := p + 1) (by omega) (by omega)
    rw [if_neg (by omega), e2]
    refine ⟨.p (nI (par t (p + 1))), by rw [at_nat', List.getElem?_map, List.getElem?_map, par_get (by omega)]; rfl, ?_⟩
    simp only [nI]
    walk_at "m"
    have hg : c[par t (p + 1)]? = some (c.getD (par t (p + 1)) none) := by
      rw [List.getD, List.getElem?_eq_getElem (by omega)]; rfl
    refine ⟨.p (oN (c.getD (par t (p + 1)) none)), by rw [hg]; rfl, ?_⟩
    walk_at "m"
    refine ⟨sh_low (k := 0) (by cases c.getD (par t (p + 1)) none <;> first | exact low_none _ | exact low_int _ _), ?_⟩
    rw [eqv_oN]
    exact .inl q
structure Up (c : List (Option Nat)) : Prop where
  up : ∀ (v q : Nat), c[v]? = some (some q) → v < q ∧ q < c.length
def way (c : List (Option Nat)) (p : Nat) : List Nat := p :: match c[p]? with
  | some (some q) => if h : p < q ∧ q < c.length then way c q else []
  | _ => []
termination_by c.length - p
decreasing_by omega
theorem way_none {c : List (Option Nat)} {p : Nat} (h : c[p]? = some none) : way c p = [p] := by
  rw [way, h]
theorem way_some {c : List (Option Nat)} (U : Up c) {p q : Nat} (h : c[p]? = some (some q)) : way c p = p :: way c q := by
  rw [way, h]
  simp only
  rw [dif_pos (U.up _ _ h)]
theorem way_len {c : List (Option Nat)} (U : Up c) : ∀ (m p : Nat), c.length - p ≤ m → p < c.length → (way c p).length ≤ c.length - p
  | 0, p, h, h2 => by omega
  | m + 1, p, h, h2 => by
    have e : c[p]? = some c[p] := List.getElem?_eq_getElem h2
    cases hq : c[p] with
    | none => rw [hq] at e; rw [way_none e]; simp; omega
    | some q =>
      rw [hq] at e
      have := U.up _ _ e
      rw [way_some U e]
      have := way_len U m q (by omega) this.2
      simp; omega
def S_cuts_way_from : MSp := fun ds st R => ∃ c p, ds = [.p (cv c), .p (nI p)] ∧ Up c ∧ p < c.length ∧ c.length ≤ 200 ∧ R (.p (.list ((way c p).map nI))) st
def w_cuts_way_from_L1 : WS := wWhile (wTest (wOp mNotN (wVar 1) (wC (.p .none))))
    (wSeq (wDrop (wMt mAppend (wVar 2) (aCons (wVar 1) aNil)))
    (wAsg (wOp mIx (wVar 0) (wVar 1)) (gNm 1)))
def w_cuts_way_from : WS :=
    (wSeq (wAsg (wLstC aNil) (gNm 2))
    (wSeq w_cuts_way_from_L1
    (wRetF (wVar 2))))
theorem r_cuts_way_from (ds : List SV) (s : Store) (R : SV → Store → Prop) (w : Wf s) (h : S_cuts_way_from ds s R) : w_cuts_way_from (fnEnds s.length R) (startE 3 ds) s := by
  obtain ⟨c, p0, rfl, U, hp0, hc, q⟩ := h
  show w_cuts_way_from _ [some (.p (.tuple (c.map oN))), some (.p (.int p0)), none] s
  unfold w_cuts_way_from
  walk_at "m"
  refine ⟨Nat.zero_le _, ?_⟩
  unfold w_cuts_way_from_L1 wWhile
  refine ⟨fun m e st => ∃ (pre : List Nat) (o : Option Nat), m = (match o with | none => 0 | some p => c.length - p) ∧ (∀ p, o = some p → p < c.length) ∧ pre ++ (match o with | none => [] | some p => way c p) = way c p0 ∧ e = [some (.p (.tuple (c.map oN))), some (.p (oN o)), some (.c s.length)] ∧ st = s ++ [.lst ((pre.map nI).map SV.p)],
    ⟨c.length - p0, [], some p0, rfl, fun p e => by cases e; exact hp0, rfl, rfl, rfl⟩, ?_⟩
  rintro m e st ⟨pre, o, hm, ho, hr, rfl, rfl⟩
  walk_at "m"
  cases o with
  | none =>
    simp only [oN, isNone, Bool.not_true, Bool.false_eq_true, if_false]
    simp only [List.append_nil] at hr
    rw [hr]
    exact ⟨Nat.le_refl _, w, .inl q⟩
  | some p =>
    have hp := ho p rfl
    have e : c[p]? = some c[p] := List.getElem?_eq_getElem hp
    simp only at hr hm
    have hlen : pre.length + (way c p).length ≤ 200 := by
      rw [← List.length_append, hr]
      have := way_len U _ p0 (Nat.le_refl _) hp0
      omega
    have h1 : 1 ≤ (way c p).length := by rw [way]; simp
    simp only [oN, isNone, nI]
    walk_at "m"
    simp only [e, Option.map_some]
    walk_at "m"
    refine ⟨by rw [sizeLine_eq]; omega, .inl ?_⟩
    cases hq : c[p] with
    | none =>
      rw [hq] at e
      rw [way_none e] at hr
      refine ⟨0, by omega, pre ++ [p], none, rfl, (fun p' h => nomatch h), by simpa using hr, rfl, ?_⟩
      simp [nI]
    | some p2 =>
      rw [hq] at e
      have hu := U.up _ _ e
      rw [way_some U e] at hr
      refine ⟨c.length - p2, by omega, pre ++ [p], some p2, rfl, (fun p' h => by injection h with h; subst h; exact hu.2), by simpa using hr, rfl, ?_⟩
      simp [nI]
end M

namespace M
open PySem PySem.Spec PyProof.Rows L2
local macro_rules | `(tactic| walk_at "m") => `(tactic| simp (maxSteps := 2000000) (implicitDefEqProofs := false) only [v_0, v_s, e_c, e_op, e_test, e_and, e_or, e_not, e_andv, e_orv, e_notv, e_ife, e_chain, e_anil, e_acons, e_cb, e_call, e_tup, e_lst, e_lstc, e_sl, e_onone, e_osome, e_mt, e_isi, e_neg, e_rd, s_augs, e_lrg, e_lrgc, e_callx, e_orx, e_isx, e_isxt, e_place, s_raisep, s_raiset, s_try, s_frzv, isNone_x, x_ex, x_pl, xis_pp, xis_pt, xis_pm, xis_pl, xis_V, xis_R, xis_tt, xis_tp, xis_tm, xis_tl, xis_mm, xis_mp, xis_mt, xis_ml, xis_ll, xis_lp, xis_lt, xis_lm, List.any_cons, List.any_nil, in_errs0, in_errs1, in_errs2, in_errs3, m_in, m_notin, m_isb, m_notb,
  s_seq, s_next, s_break, s_cont, s_never, s_drop, s_ret, s_retn, s_if, s_asg, s_par, s_retf, s_retf2, wipeE, List.append_assoc, List.cons_append, List.nil_append, g_nm, g_snil, g_scons, g_tp, g_sb, m_int, m_sub, m_lt, m_le, m_gt, m_ge, m_mod, m_div, m_pow, m_add, m_addt, m_addl, m_adds, m_mul, m_mulc, m_isn, m_notn, m_eq, m_ne, p_p,
  q_t, q_l, q_tt, l_l, t_t, t_tt, m_ixt, m_ixl, m_ixtt, m_lent, m_lenl, m_lentt, m_max2, m_min2, m_intb, m_listt, m_listl, m_tuplel, m_app, m_setl, sl_t, sl_r, sl_l, isNone, tyName, isB, mkTup, allP, allP_map, Option.map_some, map_p_inj,
  q_cc, l_cc, p_cc, ty_cc, m_ixcc, m_lencc, m_tuplecc, m_listcc, asL_l, Option.bind_some, mkTup_p, st_at, st_setk, st_at0, st_set0, st_take, st_atS, st_setS, st_atS0, st_setS0, st_takeS, List.length_set, List.set_set, ix40, ix41, ix42, ix43, Nat.reduceAdd, Nat.zero_add, at_nat', at_succ, at_0, at_1, at_2, at_3, at_4, at_m1, eqv_int, eqv_bool, sh_int, sh_bool, sh_none, fnEnds, wYes, gNm,
  List.getElem?_cons_zero, List.getElem?_cons_succ, List.set_cons_zero, List.set_cons_succ, List.getElem?_map, List.length_map, List.length_cons, List.length_nil, List.length_append, List.map_cons, List.map_nil,
  Option.some.injEq, SV.p.injEq, SV.c.injEq, PyData.int.injEq, PyData.bool.injEq, exists_eq_left', exists_eq_left, exists_eq_right, exists_eq', exists_eq, exists_and_left, true_and, and_true, true_or, or_true, MO.lst.injEq, Bool.not_true, Bool.not_false, if_true, if_false, Bool.false_eq_true, ↓reduceIte, beq_self_eq_true, String.reduceBEq, Bool.or_false, Bool.false_or, Bool.and_false, Bool.false_and, Bool.or_true, Bool.true_or, decide_eq_true_eq, beq_iff_eq, Bool.not_eq_true])
local macro_rules | `(tactic| walk_at "mh") => `(tactic| simp (maxSteps := 2000000) (implicitDefEqProofs := false) only [v_0, v_s, e_c, e_op, e_test, e_and, e_or, e_not, e_andv, e_orv, e_notv, e_ife, e_chain, e_anil, e_acons, e_cb, e_call, e_tup, e_lst, e_lstc, e_sl, e_onone, e_osome, e_mt, e_isi, e_neg, e_rd, s_augs, e_lrg, e_lrgc, e_callx, e_orx, e_isx, e_isxt, e_place, s_raisep, s_raiset, s_try, s_frzv, isNone_x, x_ex, x_pl, xis_pp, xis_pt, xis_pm, xis_pl, xis_V, xis_R, xis_tt, xis_tp, xis_tm, xis_tl, xis_mm, xis_mp, xis_mt, xis_ml, xis_ll, xis_lp, xis_lt, xis_lm, List.any_cons, List.any_nil, in_errs0, in_errs1, in_errs2, in_errs3, m_in, m_notin, m_isb, m_notb,
  s_seq, s_next, s_break, s_cont, s_never, s_drop, s_ret, s_retn, s_if, s_asg, s_par, s_retf, s_retf2, wipeE, List.append_assoc, List.cons_append, List.nil_append, g_nm, g_snil, g_scons, g_tp, g_sb, m_int, m_sub, m_lt, m_le, m_gt, m_ge, m_mod, m_div, m_pow, m_add, m_addt, m_addl, m_adds, m_mul, m_mulc, m_isn, m_notn, m_eq, m_ne, p_p,
  q_t, q_l, q_tt, l_l, t_t, t_tt, m_ixt, m_ixl, m_ixtt, m_lent, m_lenl, m_lentt, m_max2, m_min2, m_intb, m_listt, m_listl, m_tuplel, m_app, m_setl, sl_t, sl_r, sl_l, isNone, tyName, isB, mkTup, allP, allP_map, Option.map_some, map_p_inj,
  q_cc, l_cc, p_cc, ty_cc, m_ixcc, m_lencc, m_tuplecc, m_listcc, asL_l, Option.bind_some, mkTup_p, st_at, st_setk, st_at0, st_set0, st_take, st_atS, st_setS, st_atS0, st_setS0, st_takeS, List.length_set, List.set_set, ix40, ix41, ix42, ix43, Nat.reduceAdd, Nat.zero_add, at_nat', at_succ, at_0, at_1, at_2, at_3, at_4, at_m1, eqv_int, eqv_bool, sh_int, sh_bool, sh_none, fnEnds, wYes, gNm,
  List.getElem?_cons_zero, List.getElem?_cons_succ, List.set_cons_zero, List.set_cons_succ, List.getElem?_map, List.length_map, List.length_cons, List.length_nil, List.length_append, List.map_cons, List.map_nil,
  Option.some.injEq, SV.p.injEq, SV.c.injEq, PyData.int.injEq, PyData.bool.injEq, exists_eq_left', exists_eq_left, exists_eq_right, exists_eq', exists_eq, exists_and_left, true_and, and_true, true_or, or_true, MO.lst.injEq, Bool.not_true, Bool.not_false, if_true, if_false, Bool.false_eq_true, ↓reduceIte, beq_self_eq_true, String.reduceBEq, Bool.or_false, Bool.false_or, Bool.and_false, Bool.false_and, Bool.or_true, Bool.true_or, decide_eq_true_eq, beq_iff_eq, Bool.not_eq_true, tp_at0, tp_at, tp_set, Option.map_none, Option.some.injEq, *])
theorem filter_fm {α β : Type} (P : α → Bool) (f : α → β) : ∀ l : List α, (l.filterMap fun a => if P a = true then some (f a) else none) = (l.filter P).map f
  | [] => rfl
  | x :: l => by
    rw [List.filterMap_cons, List.filter_cons]
    cases h : P x with
    | true => simp [filter_fm P f l]
    | false => simpa using filter_fm P f l
theorem cut_butlast {α : Type} (xs : List α) : cutL xs none (some (-1)) = xs.dropLast := by
  unfold cutL
  rw [HT.sIx_none, List.drop_zero, Nat.sub_zero, List.dropLast_eq_take]
  congr 1
  unfold HT.sIx
  simp
  omega
def chg (t : List Nat) (c : List (Option Nat)) (p : Nat) : Nat := ((road t p).dropLast.filter (isTop t c)).length
theorem chg_0 (t : List Nat) (c : List (Option Nat)) : chg t c 0 = 0 := by unfold chg; rw [road_0]; rfl
theorem chg_s {t : List Nat} (T : Tr t) (c : List (Option Nat)) {p : Nat} (h : 1 ≤ p) (h2 : p ≤ t.length) : chg t c p = chg t c (par t p) + if c.getD (par t p) none = some p then 0 else 1 := by
  unfold chg
  rw [road_s T h h2, List.dropLast_cons_of_ne_nil (road_ne _ _), List.filter_cons]
  have e : isTop t c p = !decide (c.getD (par t p) none = some p) := by
    unfold isTop
    rw [beq_eq_false_iff_ne.mpr (by omega), Bool.false_or]
  rw [e]
  generalize c.getD (par t p) none = o
  by_cases hq : o = some p
  · rw [if_pos hq]; simp [hq]
  · rw [if_neg hq]; simp [hq]
def S_cuts_changes : MSp := fun ds st R => ∃ t c p, ds = [.p (tv t), .p (cv c), .p (nI p)] ∧ Tr t ∧ c.length = t.length + 1 ∧ p < t.length + 1 ∧ R (.p (.int (chg t c p : Nat))) st
def w_cuts_changes : WS :=
    (wRet (wCB mLen (aCons (wLc (wiSeq (wSl (wCall S_trees_road_up (aCons (wVar 0) (aCons (wVar 2) aNil))) oNone (oSome (wNeg (wC (.p (.int 1))))))) (gNm 3) (wTest (wCall S_cuts_is_top (aCons (wVar 0) (aCons (wVar 1) (aCons (wVar 3) aNil))))) (wVar 3) [3]) aNil)))
theorem r_cuts_changes (ds : List SV) (s : Store) (R : SV → Store → Prop) (w : Wf s) (h : S_cuts_changes ds s R) : w_cuts_changes (fnEnds s.length R) (startE 4 ds) s := by
  obtain ⟨t, c, p, rfl, T, hc, hp, q⟩ := h
  show w_cuts_changes _ [some (.p (tv t)), some (.p (cv c)), some (.p (nI p)), none] s
  have hl := T.len
  have hrl := road_len T p p (Nat.le_refl _) hp
  unfold w_cuts_changes
  walk_at "m"
  refine lc_seqL (st1 := s) (.p (.list ((road t p).dropLast.map nI))) (road t p).dropLast nI (fun a => if isTop t c a = true then some (nI a) else none) (fun _ => rfl) (fun Q hQ => ?_) (by rw [List.length_dropLast, sizeLine_eq]; omega) (fun a acc Y Z ha hY hZ => ?_) w ?_
  · walk_at "m"
    refine ⟨t, p, rfl, T, hp, ?_⟩
    walk_at "m"
    rw [cut_butlast, ← List.map_dropLast]
    exact hQ
  · have ha' := road_in T hp (List.dropLast_subset _ ha)
    walk_at "m"
    refine ⟨t, c, a, rfl, T, hc, ha', ?_⟩
    walk_at "m"
    refine ite2 (fun h => hY _ (if_pos h)) (fun h => hZ (if_neg h))
  · walk_at "m"
    have e : ((road t p).dropLast.filterMap fun a => if isTop t c a = true then some (nI a) else none).length = chg t c p := by
      unfold chg
      rw [filter_fm, List.length_map]
    rw [e]
    exact .inl q
def acF (t : List Nat) (c : List (Option Nat)) : List Int := (List.range (t.length + 1)).map fun p => (chg t c p : Int)
def S_cuts_all_changes : MSp := fun ds st R => ∃ t c, ds = [.p (tv t), .p (cv c)] ∧ Tr t ∧ c.length = t.length + 1 ∧ R (.p (iL (acF t c))) st
def w_cuts_all_changes_L1 : WS := wFor (wiR2 (aCons (wC (.p (.int 1))) (aCons (wCall S_trees_many (aCons (wVar 0) aNil)) aNil))) (gNm 3)
    (wSeq (wAsg (wOp mIx (wVar 0) (wOp mSub (wVar 3) (wC (.p (.int 1))))) (gNm 4))
    (wDrop (wMt mAppend (wVar 2) (aCons (wOp mAdd (wOp mIx (wVar 2) (wVar 4)) (wCB mIntB (aCons (wOp mNe (wOp mIx (wVar 1) (wVar 4)) (wVar 3)) aNil))) aNil))))
def w_cuts_all_changes : WS :=
    (wSeq (wAsg (wLstC (aCons (wC (.p (.int 0))) aNil)) (gNm 2))
    (wSeq w_cuts_all_changes_L1
    (wRetF (wVar 2))))
theorem r_cuts_all_changes (ds : List SV) (s : Store) (R : SV → Store → Prop) (w : Wf s) (h : S_cuts_all_changes ds s R) : w_cuts_all_changes (fnEnds s.length R) (startE 5 ds) s := by
  obtain ⟨t, c, rfl, T, hc, q⟩ := h
  show w_cuts_all_changes _ [some (.p (.tuple (t.map nI))), some (.p (.tuple (c.map oN))), none, none, none] s
  have hl := T.len
  unfold w_cuts_all_changes
  walk_at "m"
  refine ⟨by decide, ?_⟩
  unfold w_cuts_all_changes_L1
  refine for_rng 1 1 t.length (fun Q hQ => ?_) (fun i e st => ∃ a b, e = [some (.p (.tuple (t.map nI))), some (.p (.tuple (c.map oN))), some (.c s.length), a, b] ∧ st = s ++ [.lst (((List.range (i + 1)).map fun p => PyData.int (chg t c p : Nat)).map SV.p)]) ⟨_, _, rfl, ?_⟩ ?_ ?_
  · unfold wiR2
    walk_at "m"
    refine ⟨t, rfl, ?_⟩
    have e1 : (((t.length + 1 : Nat) : Int) - 1).toNat = t.length := by omega
    walk_at "m"
    rw [e1]
    exact ⟨by omega, hQ⟩
  · simp [chg_0]
  · rintro i e st hi ⟨a, b, rfl, rfl⟩
    have hz : (1 : Int) + (i : Nat) * 1 = (i : Int) + 1 := by omega
    have hz1 : ((i : Int) + 1 - 1) = (i : Int) := by omega
    rw [hz]
    have lp := par_lt T (p := i + 1) (by omega) (by omega)
    have hg : c[par t (i + 1)]? = some (c.getD (par t (i + 1)) none) := by
      rw [List.getD, List.getElem?_eq_getElem (by omega)]; rfl
    walk_at "m"
    simp only [hz1, at_nat', List.getElem?_map, par_get hi, Option.map_some, nI]
    walk_at "m"
    simp only [hg, List.getElem?_range lp, Option.map_some]
    walk_at "m"
    have sh : SeqAt.shaped (oN (c.getD (par t (i + 1)) none)) = true := sh_low (k := 0) (by cases c.getD (par t (i + 1)) none <;> first | exact low_none _ | exact low_int _ _)
    have e2 : ((i : Int) + 1) = ((i + 1 : Nat) : Int) := by omega
    refine ⟨sh, ?_, .inl ⟨_, _, rfl, ?_⟩⟩
    · simp; rw [sizeLine_eq]; omega
    · rw [e2, eqv_oN, List.range_succ (n := i + 1)]
      have := chg_s T c (p := i + 1) (by omega) (by omega)
      simp only [List.map_append, List.map_cons, List.map_nil]
      congr 6
      rw [this]
      generalize c.getD (par t (i + 1)) none = o
      by_cases hq : o = some (i + 1)
      · simp [hq]
      · simp [hq]
  · rintro e st ⟨a, b, rfl, rfl⟩
    walk_at "m"
    refine ⟨Nat.le_refl _, w, .inl ?_⟩
    have : ((List.range (t.length + 1)).map fun p => PyData.int (chg t c p : Nat)) = (acF t c).map PyData.int := by
      unfold acF; rw [List.map_map]; rfl
    rw [this]; exact q
def topN (f : Nat → Nat) : Nat → Nat
  | 0 => 0
  | n + 1 => max (topN f n) (f n)
theorem topN_ge (f : Nat → Nat) : ∀ (n p : Nat), p < n → f p ≤ topN f n
  | 0, p, h => by omega
  | n + 1, p, h => by
    unfold topN
    by_cases e : p = n
    · subst e; exact Nat.le_max_right _ _
    · exact Nat.le_trans (topN_ge f n p (by omega)) (Nat.le_max_left _ _)
theorem topN_mem (f : Nat → Nat) : ∀ n : Nat, 0 < n → ∃ p, p < n ∧ topN f n = f p
  | 0, h => by omega
  | 1, _ => ⟨0, by omega, by simp [topN]⟩
  | n + 2, _ => by
    obtain ⟨p, h1, h2⟩ := topN_mem f (n + 1) (by omega)
    by_cases h : topN f (n + 1) ≤ f (n + 1)
    · exact ⟨n + 1, by omega, by rw [topN]; exact Nat.max_eq_right h⟩
    · exact ⟨p, by omega, by rw [topN, Nat.max_eq_left (by omega)]; exact h2⟩
def mxc (t : List Nat) (c : List (Option Nat)) : Nat := topN (chg t c) (t.length + 1)
theorem topN_use {f : Nat → Nat} {n : Nat} {st : Store} {Q : SV → Store → Prop} (h : 0 < n) (q : Q (.p (.int (topN f n : Nat))) st) : mMaxL [.p (.list (((List.range n).map fun p => (f p : Int)).map PyData.int))] st Q := by
  refine max_use (m := (topN f n : Nat)) ?_ (fun y hy => ?_) q
  · obtain ⟨p, h1, h2⟩ := topN_mem f n h
    exact List.mem_map.mpr ⟨p, List.mem_range.mpr h1, by rw [h2]⟩
  · obtain ⟨p, h1, rfl⟩ := List.mem_map.mp hy
    have := topN_ge f n p (List.mem_range.mp h1)
    omega
def S_cuts_most_changes : MSp := fun ds st R => ∃ t c, ds = [.p (tv t), .p (cv c)] ∧ Tr t ∧ c.length = t.length + 1 ∧ R (.p (.int (mxc t c : Nat))) st
def w_cuts_most_changes : WS :=
    (wRet (wCB mMaxL (aCons (wCall S_cuts_all_changes (aCons (wVar 0) (aCons (wVar 1) aNil))) aNil)))
theorem r_cuts_most_changes (ds : List SV) (s : Store) (R : SV → Store → Prop) (w : Wf s) (h : S_cuts_most_changes ds s R) : w_cuts_most_changes (fnEnds s.length R) (startE 2 ds) s := by
  obtain ⟨t, c, rfl, T, hc, q⟩ := h
  show w_cuts_most_changes _ [some (.p (tv t)), some (.p (cv c))] s
  unfold w_cuts_most_changes
  walk_at "m"
  exact ⟨t, c, rfl, T, hc, topN_use (by omega) (.inl q)⟩
def tops (t : List Nat) (c : List (Option Nat)) (p : Nat) : List Nat := (road t p).filter (isTop t c)
def metD (t : List Nat) (c : List (Option Nat)) (a : Nat) : PyData := .tuple [nI a, nI (way c a).length, .int ((sizesF t).getD a 0)]
def S_cuts_met : MSp := fun ds st R => ∃ t c p, ds = [.p (tv t), .p (cv c), .p (nI p)] ∧ Tr t ∧ c.length = t.length + 1 ∧ Up c ∧ p < t.length + 1 ∧ R (.p (.list ((tops t c p).map (metD t c)))) st
def w_cuts_met : WS :=
    (wSeq (wAsg (wCall S_cuts_counts (aCons (wVar 0) aNil)) (gNm 3))
    (wSeq (wAsg (wLc (wiSeq (wCall S_trees_road_up (aCons (wVar 0) (aCons (wVar 2) aNil)))) (gNm 5) (wTest (wCall S_cuts_is_top (aCons (wVar 0) (aCons (wVar 1) (aCons (wVar 5) aNil))))) (wVar 5) [5]) (gNm 4))
    (wRet (wLc (wiSeq (wVar 4)) (gNm 6) wYes (wTup (aCons (wVar 6) (aCons (wCB mLen (aCons (wCall S_cuts_way_from (aCons (wVar 1) (aCons (wVar 6) aNil))) aNil)) (aCons (wOp mIx (wVar 3) (wVar 6)) aNil)))) [6]))))
theorem r_cuts_met (ds : List SV) (s : Store) (R : SV → Store → Prop) (w : Wf s) (h : S_cuts_met ds s R) : w_cuts_met (fnEnds s.length R) (startE 7 ds) s := by
  obtain ⟨t, c, p, rfl, T, hc, U, hp, q⟩ := h
  show w_cuts_met _ [some (.p (tv t)), some (.p (cv c)), some (.p (nI p)), none, none, none, none] s
  have hl := T.len
  have hrl := road_len T p p (Nat.le_refl _) hp
  unfold w_cuts_met
  walk_at "m"
  refine ⟨t, rfl, T, ?_⟩
  refine lc_seqL (st1 := s) (.p (.list ((road t p).map nI))) (road t p) nI (fun a => if isTop t c a = true then some (nI a) else none) (fun _ => rfl) (fun Q hQ => ?_) (by rw [sizeLine_eq]; omega) (fun a acc Y Z ha hY hZ => ?_) w ?_
  · walk_at "m"
    exact ⟨t, p, rfl, T, hp, hQ⟩
  · have ha' := road_in T hp ha
    walk_at "m"
    refine ⟨t, c, a, rfl, T, hc, ha', ?_⟩
    walk_at "m"
    exact ite2 (fun h => hY _ (if_pos h)) (fun h => hZ (if_neg h))
  · rw [filter_fm]
    have htl : ((road t p).filter (isTop t c)).length ≤ p + 1 := Nat.le_trans (List.length_filter_le _ _) hrl
    refine lc_seqL (st1 := s) (.p (.list ((tops t c p).map nI))) (tops t c p) nI (fun a => some (metD t c a)) (fun _ => rfl) (fun Q hQ => by walk_at "m"; exact hQ) (by unfold tops; rw [sizeLine_eq]; omega) (fun a acc Y Z ha hY hZ => ?_) w ?_
    · have ha' := road_in T hp ((List.mem_filter.mp ha).1)
      have hx : (sizesF t)[a]? = some ((sizesF t).getD a 0) := by
        rw [List.getD, List.getElem?_eq_getElem (by rw [sizesF_len]; omega)]; rfl
      walk_at "m"
      refine ⟨c, a, rfl, U, by omega, by omega, ?_⟩
      simp only [iL, nI]
      walk_at "m"
      simp only [hx, Option.map_some]
      walk_at "m"
      exact ⟨by decide, hY (metD t c a) rfl⟩
    · rw [filterMap_map]
      exact .inl q
end M

namespace M
open PySem PySem.Spec PyProof.Rows L2
local macro_rules | `(tactic| walk_at "m") => `(tactic| simp (maxSteps := 2000000) (implicitDefEqProofs := false) only [v_0, v_s, e_c, e_op, e_test, e_and, e_or, e_not, e_andv, e_orv, e_notv, e_ife, e_chain, e_anil, e_acons, e_cb, e_call, e_tup, e_lst, e_lstc, e_sl, e_onone, e_osome, e_mt, e_isi, e_neg, e_rd, s_augs, e_lrg, e_lrgc, e_callx, e_orx, e_isx, e_isxt, e_place, s_raisep, s_raiset, s_try, s_frzv, isNone_x, x_ex, x_pl, xis_pp, xis_pt, xis_pm, xis_pl, xis_V, xis_R, xis_tt, xis_tp, xis_tm, xis_tl, xis_mm, xis_mp, xis_mt, xis_ml, xis_ll, xis_lp, xis_lt, xis_lm, List.any_cons, List.any_nil, in_errs0, in_errs1, in_errs2, in_errs3, m_in, m_notin, m_isb, m_notb,
  s_seq, s_next, s_break, s_cont, s_never, s_drop, s_ret, s_retn, s_if, s_asg, s_par, s_retf, s_retf2, wipeE, List.append_assoc, List.cons_append, List.nil_append, g_nm, g_snil, g_scons, g_tp, g_sb, m_int, m_sub, m_lt, m_le, m_gt, m_ge, m_mod, m_div, m_pow, m_add, m_addt, m_addl, m_adds, m_mul, m_mulc, m_isn, m_notn, m_eq, m_ne, p_p,
  q_t, q_l, q_tt, l_l, t_t, t_tt, m_ixt, m_ixl, m_ixtt, m_lent, m_lenl, m_lentt, m_max2, m_min2, m_intb, m_listt, m_listl, m_tuplel, m_app, m_setl, sl_t, sl_r, sl_l, isNone, tyName, isB, mkTup, allP, allP_map, Option.map_some, map_p_inj,
  q_cc, l_cc, p_cc, ty_cc, m_ixcc, m_lencc, m_tuplecc, m_listcc, asL_l, Option.bind_some, mkTup_p, st_at, st_setk, st_at0, st_set0, st_take, st_atS, st_setS, st_atS0, st_setS0, st_takeS, List.length_set, List.set_set, ix40, ix41, ix42, ix43, Nat.reduceAdd, Nat.zero_add, at_nat', at_succ, at_0, at_1, at_2, at_3, at_4, at_m1, eqv_int, eqv_bool, sh_int, sh_bool, sh_none, fnEnds, wYes, gNm,
  List.getElem?_cons_zero, List.getElem?_cons_succ, List.set_cons_zero, List.set_cons_succ, List.getElem?_map, List.length_map, List.length_cons, List.length_nil, List.length_append, List.map_cons, List.map_nil,
  Option.some.injEq, SV.p.injEq, SV.c.injEq, PyData.int.injEq, PyData.bool.injEq, exists_eq_left', exists_eq_left, exists_eq_right, exists_eq', exists_eq, exists_and_left, true_and, and_true, true_or, or_true, MO.lst.injEq, Bool.not_true, Bool.not_false, if_true, if_false, Bool.false_eq_true, ↓reduceIte, beq_self_eq_true, String.reduceBEq, Bool.or_false, Bool.false_or, Bool.and_false, Bool.false_and, Bool.or_true, Bool.true_or, decide_eq_true_eq, beq_iff_eq, Bool.not_eq_true])
local macro_rules | `(tactic| walk_at "mh") => `(tactic| simp (maxSteps := 2000000) (implicitDefEqProofs := false) only [v_0, v_s, e_c, e_op, e_test, e_and, e_or, e_not, e_andv, e_orv, e_notv, e_ife, e_chain, e_anil, e_acons, e_cb, e_call, e_tup, e_lst, e_lstc, e_sl, e_onone, e_osome, e_mt, e_isi, e_neg, e_rd, s_augs, e_lrg, e_lrgc, e_callx, e_orx, e_isx, e_isxt, e_place, s_raisep, s_raiset, s_try, s_frzv, isNone_x, x_ex, x_pl, xis_pp, xis_pt, xis_pm, xis_pl, xis_V, xis_R, xis_tt, xis_tp, xis_tm, xis_tl, xis_mm, xis_mp, xis_mt, xis_ml, xis_ll, xis_lp, xis_lt, xis_lm, List.any_cons, List.any_nil, in_errs0, in_errs1, in_errs2, in_errs3, m_in, m_notin, m_isb, m_notb,
  s_seq, s_next, s_break, s_cont, s_never, s_drop, s_ret, s_retn, s_if, s_asg, s_par, s_retf, s_retf2, wipeE, List.append_assoc, List.cons_append, List.nil_append, g_nm, g_snil, g_scons, g_tp, g_sb, m_int, m_sub, m_lt, m_le, m_gt, m_ge, m_mod, m_div, m_pow, m_add, m_addt, m_addl, m_adds, m_mul, m_mulc, m_isn, m_notn, m_eq, m_ne, p_p,
  q_t, q_l, q_tt, l_l, t_t, t_tt, m_ixt, m_ixl, m_ixtt, m_lent, m_lenl, m_lentt, m_max2, m_min2, m_intb, m_listt, m_listl, m_tuplel, m_app, m_setl, sl_t, sl_r, sl_l, isNone, tyName, isB, mkTup, allP, allP_map, Option.map_some, map_p_inj,
  q_cc, l_cc, p_cc, ty_cc, m_ixcc, m_lencc, m_tuplecc, m_listcc, asL_l, Option.bind_some, mkTup_p, st_at, st_setk, st_at0, st_set0, st_take, st_atS, st_setS, st_atS0, st_setS0, st_takeS, List.length_set, List.set_set, ix40, ix41, ix42, ix43, Nat.reduceAdd, Nat.zero_add, at_nat', at_succ, at_0, at_1, at_2, at_3, at_4, at_m1, eqv_int, eqv_bool, sh_int, sh_bool, sh_none, fnEnds, wYes, gNm,
  List.getElem?_cons_zero, List.getElem?_cons_succ, List.set_cons_zero, List.set_cons_succ, List.getElem?_map, List.length_map, List.length_cons, List.length_nil, List.length_append, List.map_cons, List.map_nil,
  Option.some.injEq, SV.p.injEq, SV.c.injEq, PyData.int.injEq, PyData.bool.injEq, exists_eq_left', exists_eq_left, exists_eq_right, exists_eq', exists_eq, exists_and_left, true_and, and_true, true_or, or_true, MO.lst.injEq, Bool.not_true, Bool.not_false, if_true, if_false, Bool.false_eq_true, ↓reduceIte, beq_self_eq_true, String.reduceBEq, Bool.or_false, Bool.false_or, Bool.and_false, Bool.false_and, Bool.or_true, Bool.true_or, decide_eq_true_eq, beq_iff_eq, Bool.not_eq_true, tp_at0, tp_at, tp_set, Option.map_none, Option.some.injEq, *])
def FM (x : List Int) (ks : List Nat) : Option Nat → Prop
  | none => ks = []
  | some q => q ∈ ks ∧ (∀ k ∈ ks, x.getD k 0 ≤ x.getD q 0) ∧ ks.find? (fun k => decide (x.getD k 0 = x.getD q 0)) = some q
theorem FM.one (x : List Int) (p : Nat) : FM x [p] (some p) := ⟨by simp, fun k h => by simp at h; subst h; exact Int.le_refl _, by simp⟩
theorem FM.more {x : List Int} {ks : List Nat} {q p : Nat} (h : FM x ks (some q)) (hl : x.getD q 0 < x.getD p 0) : FM x (ks ++ [p]) (some p) := by
  obtain ⟨h1, h2, h3⟩ := h
  refine ⟨by simp, fun k m => ?_, ?_⟩
  · rcases List.mem_append.mp m with m | m
    · have := h2 k m; omega
    · simp at m; subst m; exact Int.le_refl _
  · have : ks.find? (fun k => decide (x.getD k 0 = x.getD p 0)) = none := by
      rw [List.find?_eq_none]
      intro k m hc
      have := h2 k m
      simp only [decide_eq_true_eq] at hc
      omega
    rw [List.find?_append, this]
    simp
theorem FM.keep {x : List Int} {ks : List Nat} {q p : Nat} (h : FM x ks (some q)) (hl : ¬ x.getD q 0 < x.getD p 0) : FM x (ks ++ [p]) (some q) := by
  obtain ⟨h1, h2, h3⟩ := h
  refine ⟨by simp [h1], fun k m => ?_, ?_⟩
  · rcases List.mem_append.mp m with m | m
    · exact h2 k m
    · simp at m; subst m; omega
  · rw [List.find?_append, h3]; rfl
theorem ogUp_fm {t : List Nat} {x : List Int} (T : Tr t) : ∀ (i v : Nat), i ≤ t.length → v < t.length + 1 → ∃ o, (ogUp t x i)[v]? = some o ∧ FM x (kidsUp t i v) o
  | 0, v, _, hv => ⟨none, by rw [ogUp, List.getElem?_replicate, if_pos hv], rfl⟩
  | i + 1, v, hi, hv => by
    obtain ⟨o, h1, h2⟩ := ogUp_fm (x := x) T i v (by omega) hv
    have ht : t[i]? = some t[i] := List.getElem?_eq_getElem (by omega)
    have hg : t.getD (i + 1 - 1) 0 = t[i] := by rw [Nat.add_sub_cancel, List.getD, ht]; rfl
    have hti := T.le i _ ht
    have lu := ogUp_len t x i
    rw [kidsUp_succ, ht]
    show ∃ o, (ogStep t x (i + 1) (ogUp t x i))[v]? = some o ∧ _
    unfold ogStep
    rw [hg]
    by_cases e : t[i] = v
    · subst e
      rw [if_pos rfl]
      have e2 : (ogUp t x i).getD t[i] none = o := by rw [List.getD, h1]; rfl
      rw [e2]
      cases o with
      | none =>
        refine ⟨some (i + 1), List.getElem?_set_self (by omega), ?_⟩
        have h2 : kidsUp t i t[i] = [] := h2
        rw [h2]
        exact FM.one _ _
      | some q =>
        simp only
        by_cases hl : x.getD q 0 < x.getD (i + 1) 0
        · rw [if_pos hl]
          exact ⟨some (i + 1), List.getElem?_set_self (by omega), h2.more hl⟩
        · rw [if_neg hl]
          exact ⟨some q, h1, h2.keep hl⟩
    · rw [if_neg (by simpa using e), List.append_nil]
      refine ⟨o, ?_, h2⟩
      split
      · rw [List.getElem?_set_ne e]; exact h1
      · split
        · rw [List.getElem?_set_ne e]; exact h1
        · exact h1
theorem ogF_fm {t : List Nat} (T : Tr t) (x : List Int) {v : Nat} (hv : v < t.length + 1) : ∃ o, (ogF t x)[v]? = some o ∧ FM x (kids t v) o := ogUp_fm T t.length v (Nat.le_refl _) hv
theorem kids_in {t : List Nat} {v k : Nat} (h : k ∈ kids t v) : 1 ≤ k ∧ k < t.length + 1 := by
  obtain ⟨h1, h2⟩ := kids_mem.mp h
  have := (List.getElem?_eq_some_iff.mp h2).1
  omega
theorem low_nIs {k : Nat} (l : List Nat) : LowA k (l.map nI) := low_map fun _ => low_int _ _
theorem eqv_nil (l : List Nat) : PyData.eqv (.list (l.map nI)) (.list []) = decide (l = []) := by
  rw [eqv_lst]
  cases l <;> simp [PyData.eqvAll]
def S_right_k20 : MSp := fun ds st R => ∃ t, ds = [.p (tv t)] ∧ Tr t ∧ R (.p (.bool true)) st
def w_right_k20_L1 : WS := wFor (wiZip (aCons (wCall S_under_k13 (aCons (wVar 0) aNil)) (aCons (wVar 2) aNil))) (gTp 2 (gsCons (gNm 3) (gsCons (gNm 4) gsNil)))
    (wIfS (wTest (wOp mEq (wVar 3) (wLst aNil)))
    (wIfS (wTest (wOp mNotN (wVar 4) (wC (.p .none))))
    (wRet (wC (.p (.bool false))))
    wNext)
    (wSeq (wAsg (wOp mIx (wLc (wiSeq (wVar 3)) (gNm 6) (wTest (wOp mEq (wOp mIx (wVar 1) (wVar 6)) (wCB mMaxL (aCons (wLc (wiSeq (wVar 3)) (gNm 7) wYes (wOp mIx (wVar 1) (wVar 7)) [7]) aNil)))) (wVar 6) [6]) (wC (.p (.int 0)))) (gNm 5))
    (wIfS (wOr (wNot (wTest (wCall S_whole_k02 (aCons (wVar 4) aNil)))) (wTest (wOp mNe (wVar 4) (wVar 5))))
    (wRet (wC (.p (.bool false))))
    wNext)))
def w_right_k20 : WS :=
    (wSeq (wAsg (wCall S_sizes_k16 (aCons (wVar 0) aNil)) (gNm 1))
    (wSeq (wAsg (wCall S_weights_by_weight (aCons (wVar 0) aNil)) (gNm 2))
    (wSeq (wIfS (wOr (wNot (wTest (wIsi "tuple" (wVar 2)))) (wTest (wOp mNe (wCB mLen (aCons (wVar 2) aNil)) (wOp mAdd (wCB mLen (aCons (wVar 0) aNil)) (wC (.p (.int 1)))))))
    (wRet (wC (.p (.bool false))))
    wNext)
    (wSeq w_right_k20_L1
    (wRet (wOp mEq (wCall S_weights_by_weight (aCons (wVar 0) aNil)) (wVar 2)))))))
theorem due_loop {t : List Nat} {x : List Int} (T : Tr t) (hx : x.length = t.length + 1) {s : Store} (w : Wf s) {D : ME} (a b c d e : Option SV) (hD : ∀ a b c d e, D.nx [some (.p (.tuple (t.map nI))), some (.p (iL x)), some (.p (.tuple ((ogF t x).map oN))), a, b, c, d, e] s) :
    w_right_k20_L1 D [some (.p (.tuple (t.map nI))), some (.p (iL x)), some (.p (.tuple ((ogF t x).map oN))), a, b, c, d, e] s := by
  unfold w_right_k20_L1
  have hl := T.len
  refine for_zip (st1 := s) (.p (underF t)) (.p (.tuple ((ogF t x).map oN))) ((List.range (t.length + 1)).map (kD t)) ((ogF t x).map oN) (fun _ => rfl) (fun _ => rfl) (fun Q hQ => by walk_at "m"; exact ⟨t, rfl, T, hQ⟩)
    (fun i e st => ∃ a b c d f, e = [some (.p (.tuple (t.map nI))), some (.p (iL x)), some (.p (.tuple ((ogF t x).map oN))), a, b, c, d, f] ∧ st = s) ⟨_, _, _, _, _, rfl, rfl⟩ ?_ ?_
  · rintro v d u e st hd hu ⟨a, b, c, d', f, rfl, rfl⟩
    have hv : v < t.length + 1 := by
      have := (List.getElem?_eq_some_iff.mp hd).1
      simpa using this
    rw [List.getElem?_map, List.getElem?_range hv] at hd
    cases hd
    obtain ⟨o, h1, h2⟩ := ogF_fm T x hv
    rw [List.getElem?_map, h1] at hu
    cases hu
    have hkl : (kids t v).length ≤ sizeLine := by
      have := kids_len t t.length v
      rw [sizeLine_eq]; unfold kids; omega
    simp only [kD]
    walk_at "m"
    refine ⟨by decide, sh_low (low_lst (k := 0) (low_nIs _)), by decide, ?_⟩
    rw [eqv_nil]
    have nxt : ∀ a b c d f, Wk (List.length st) (fun e st_1 => ∃ a b c d f, e = [some (.p (.tuple (t.map nI))), some (.p (iL x)), some (.p (.tuple ((ogF t x).map oN))), a, b, c, d, f] ∧ st_1 = st)
        [some (.p (.tuple (t.map nI))), some (.p (iL x)), some (.p (.tuple ((ogF t x).map oN))), a, b, c, d, f] st := fun a b c d f => .inl ⟨a, b, c, d, f, rfl, rfl⟩
    refine ite2 (fun h => ?_) (fun h => ?_)
    · have h : kids t v = [] := by simpa using h
      rw [h] at h2
      cases o with
      | none =>
        simp only [oN, isNone]
        walk_at "m"
        exact nxt _ _ _ _ _
      | some q => exact absurd h2.1 (by simp)
    · have h : kids t v ≠ [] := by simpa using h
      cases o with
      | none => exact absurd h2 h
      | some q =>
        obtain ⟨f1, f2, f3⟩ := h2
        have at_k : ∀ k ∈ kids t v, x[k]? = some (x.getD k 0) := fun k hk => by
          have := kids_in hk
          rw [List.getD, List.getElem?_eq_getElem (by omega)]; rfl
        refine lc_seqL (st1 := st) (.p (.list ((kids t v).map nI))) (kids t v) nI (fun k => if decide (x.getD k 0 = x.getD q 0) = true then some (nI k) else none) (fun _ => rfl) (fun Q hQ => by walk_at "m"; exact hQ) hkl (fun k acc Y Z hk hY hZ => ?_) w ?_
        · simp only [iL]
          walk_at "m"
          simp only [nI]
          walk_at "m"
          simp only [at_k k hk, Option.map_some]
          walk_at "m"
          refine lc_seqL (.p (.list ((kids t v).map nI))) (kids t v) nI (fun k => some (.int (x.getD k 0))) (fun _ => rfl) (fun Q hQ => by walk_at "m"; exact hQ) hkl (fun j acc2 Y2 Z2 hj hY2 hZ2 => ?_) (wf_app1 w acc) ?_
          · walk_at "m"
            simp only [nI]
            walk_at "m"
            simp only [at_k j hj, Option.map_some]
            walk_at "m"
            have := hY2 _ rfl
            simpa using this
          · rw [filterMap_map]
            have e1 : List.map (fun k => PyData.int (x.getD k 0)) (kids t v) = ((kids t v).map fun k => x.getD k 0).map PyData.int := by rw [List.map_map]; rfl
            rw [e1]
            refine max_use (m := x.getD q 0) (List.mem_map.mpr ⟨q, f1, rfl⟩) (fun y hy => ?_) ?_
            · obtain ⟨j, hj, rfl⟩ := List.mem_map.mp hy
              exact f2 j hj
            · walk_at "m"
              refine ite2 (fun h => ?_) (fun h => ?_)
              · exact hY _ (if_pos (by simpa using h))
              · exact hZ (if_neg (by simpa using h))
        · walk_at "m"
          refine ⟨.p (nI q), ?_, ?_⟩
          · have := fm_find (fun k => decide (x.getD k 0 = x.getD q 0)) nI (kids t v)
            rw [f3] at this
            simp only [decide_eq_true_eq] at this
            rw [this]; rfl
          · refine ⟨_, rfl, ⟨_, rfl⟩, ?_⟩
            simp only [oN, wholeOf, nI]
            walk_at "m"
            exact nxt _ _ _ _ _
  · rintro e st ⟨a, b, c, d, f, rfl, rfl⟩
    exact hD _ _ _ _ _
theorem low_oN {k : Nat} (o : Option Nat) : Low k (oN o) := by
  cases o
  · exact low_none _
  · exact low_int _ _
theorem ogF_len (t : List Nat) (x : List Int) : (ogF t x).length = t.length + 1 := ogUp_len t x t.length
theorem r_right_k20 (ds : List SV) (s : Store) (R : SV → Store → Prop) (w : Wf s) (h : S_right_k20 ds s R) : w_right_k20 (fnEnds s.length R) (startE 8 ds) s := by
  obtain ⟨t, rfl, T, q⟩ := h
  show w_right_k20 _ [some (.p (tv t)), none, none, none, none, none, none, none] s
  unfold w_right_k20
  walk_at "m"
  refine ⟨t, rfl, T, t, rfl, T, ?_⟩
  simp only [tv]
  walk_at "m"
  rw [ogF_len]
  have e1 : ((t.length + 1 : Nat) : Int) = (t.length : Int) + 1 := by omega
  rw [e1]
  walk_at "m"
  refine due_loop T (sizesF_len t) w _ _ _ _ _ fun a b c d e => ?_
  walk_at "m"
  have lo : Low 1 (.tuple ((ogF t (sizesF t)).map oN)) := low_tup (low_map low_oN)
  refine ⟨t, rfl, T, ?_⟩
  walk_at "m"
  refine ⟨sh_low lo, sh_low lo, ?_⟩
  rw [eqv_low lo]
  exact .inl q
def w_law_k20 : WS :=
    (wSeq (wAsg (wLstC (aCons (wCB mList (aCons (wSl (wVar 0) oNone (oSome (wC (.p (.int 63))))) aNil)) (aCons (wC (.p (.int 0))) (aCons (wC (.p (.int 0))) (aCons (wC (.p (.int 0))) aNil))))) (gNm 1))
    (wSeq (wAsg (wOp mIx (wLst (aCons (wC (.p (.int 30))) (aCons (wC (.p (.int 30))) (aCons (wC (.p (.int 30))) (aCons (wC (.p (.int 200))) aNil))))) (wCall S_draw_k13 (aCons (wVar 1) (aCons (wC (.p (.int 4))) aNil)))) (gNm 2))
    (wSeq (wAsg (wCall S_tree_k13 (aCons (wVar 1) (aCons (wVar 2) aNil))) (gNm 3))
    (wSeq (wAsg (wCall S_moved_k13 (aCons (wVar 1) (aCons (wVar 3) aNil))) (gNm 4))
    (wRet (wAndV (wCall S_right_k20 (aCons (wVar 3) aNil)) (wAndV (wCall S_right_k20 (aCons (wVar 4) aNil)) (wCall S_right_k20 (aCons (wVar 3) aNil)))))))))
theorem most4 {r : Nat} (h : (r : Int) < 4) : ∃ m : Nat, 1 ≤ m ∧ m ≤ 200 ∧ [SV.p (.int 30), SV.p (.int 30), SV.p (.int 30), SV.p (.int 200)][r]? = some (.p (.int (m : Nat))) := by
  have : r = 0 ∨ r = 1 ∨ r = 2 ∨ r = 3 := by omega
  rcases this with rfl | rfl | rfl | rfl
  · exact ⟨30, by decide, by decide, rfl⟩
  · exact ⟨30, by decide, by decide, rfl⟩
  · exact ⟨30, by decide, by decide, rfl⟩
  · exact ⟨200, by decide, by decide, rfl⟩
theorem r_law_k20 (ds : List SV) (s : Store) (R : SV → Store → Prop) (w : Wf s) (h : S_law ds s R) : w_law_k20 (fnEnds s.length R) (startE 5 ds) s := by
  obtain ⟨ns, rfl, hl, q⟩ := h
  show w_law_k20 _ [some (.ro ns), none, none, none, none] s
  unfold w_law_k20
  walk_at "m"
  refine ⟨by decide, by decide, ?_⟩
  refine draw_use (o := TP (cutL ns none (some 63)) 0 0 0) (k := 0) st_last ⟨_, _, _, _, rfl, by decide, by decide⟩ (by decide) (by decide) (by decide) fun r o1 hr T1 => ?_
  obtain ⟨m, m1, m2, m3⟩ := most4 hr
  walk_at "m"
  refine ⟨.p (.int m), m3, ?_⟩
  refine ⟨s.length, 1, o1, m, rfl, m1, m2, st_last, T1, by decide, fun t o2 Ht htl T2 => ?_⟩
  walk_at "m"
  refine ⟨s.length, 501, o2, t, rfl, Ht, st_last, T2, by decide, fun u o3 Hu hul T3 => ?_⟩
  walk_at "m"
  refine ⟨t, rfl, Ht, ?_⟩
  walk_at "m"
  refine ⟨u, rfl, Hu, ?_⟩
  walk_at "m"
  exact ⟨t, rfl, Ht, .inl (q _)⟩
end M

namespace M
open PySem PySem.Spec PyProof.Rows L2
local macro_rules | `(tactic| walk_at "m") => `(tactic| simp (maxSteps := 2000000) (implicitDefEqProofs := false) only [v_0, v_s, e_c, e_op, e_test, e_and, e_or, e_not, e_andv, e_orv, e_notv, e_ife, e_chain, e_anil, e_acons, e_cb, e_call, e_tup, e_lst, e_lstc, e_sl, e_onone, e_osome, e_mt, e_isi, e_neg, e_rd, s_augs, e_lrg, e_lrgc, e_callx, e_orx, e_isx, e_isxt, e_place, s_raisep, s_raiset, s_try, s_frzv, isNone_x, x_ex, x_pl, xis_pp, xis_pt, xis_pm, xis_pl, xis_V, xis_R, xis_tt, xis_tp, xis_tm, xis_tl, xis_mm, xis_mp, xis_mt, xis_ml, xis_ll, xis_lp, xis_lt, xis_lm, List.any_cons, List.any_nil, in_errs0, in_errs1, in_errs2, in_errs3, m_in, m_notin, m_isb, m_notb,
  s_seq, s_next, s_break, s_cont, s_never, s_drop, s_ret, s_retn, s_if, s_asg, s_par, s_retf, s_retf2, wipeE, List.append_assoc, List.cons_append, List.nil_append, g_nm, g_snil, g_scons, g_tp, g_sb, m_int, m_sub, m_lt, m_le, m_gt, m_ge, m_mod, m_div, m_pow, m_add, m_addt, m_addl, m_adds, m_mul, m_mulc, m_isn, m_notn, m_eq, m_ne, p_p,
  q_t, q_l, q_tt, l_l, t_t, t_tt, m_ixt, m_ixl, m_ixtt, m_lent, m_lenl, m_lentt, m_max2, m_min2, m_intb, m_listt, m_listl, m_tuplel, m_app, m_setl, sl_t, sl_r, sl_l, isNone, tyName, isB, mkTup, allP, allP_map, Option.map_some, map_p_inj,
  q_cc, l_cc, p_cc, ty_cc, m_ixcc, m_lencc, m_tuplecc, m_listcc, asL_l, Option.bind_some, mkTup_p, st_at, st_setk, st_at0, st_set0, st_take, st_atS, st_setS, st_atS0, st_setS0, st_takeS, List.length_set, List.set_set, ix40, ix41, ix42, ix43, Nat.reduceAdd, Nat.zero_add, at_nat', at_succ, at_0, at_1, at_2, at_3, at_4, at_m1, eqv_int, eqv_bool, sh_int, sh_bool, sh_none, fnEnds, wYes, gNm,
  List.getElem?_cons_zero, List.getElem?_cons_succ, List.set_cons_zero, List.set_cons_succ, List.getElem?_map, List.length_map, List.length_cons, List.length_nil, List.length_append, List.map_cons, List.map_nil,
  Option.some.injEq, SV.p.injEq, SV.c.injEq, PyData.int.injEq, PyData.bool.injEq, exists_eq_left', exists_eq_left, exists_eq_right, exists_eq', exists_eq, exists_and_left, true_and, and_true, true_or, or_true, MO.lst.injEq, Bool.not_true, Bool.not_false, if_true, if_false, Bool.false_eq_true, ↓reduceIte, beq_self_eq_true, String.reduceBEq, Bool.or_false, Bool.false_or, Bool.and_false, Bool.false_and, Bool.or_true, Bool.true_or, decide_eq_true_eq, beq_iff_eq, Bool.not_eq_true])
local macro_rules | `(tactic| walk_at "mh") => `(tactic| simp (maxSteps := 2000000) (implicitDefEqProofs := false) only [v_0, v_s, e_c, e_op, e_test, e_and, e_or, e_not, e_andv, e_orv, e_notv, e_ife, e_chain, e_anil, e_acons, e_cb, e_call, e_tup, e_lst, e_lstc, e_sl, e_onone, e_osome, e_mt, e_isi, e_neg, e_rd, s_augs, e_lrg, e_lrgc, e_callx, e_orx, e_isx, e_isxt, e_place, s_raisep, s_raiset, s_try, s_frzv, isNone_x, x_ex, x_pl, xis_pp, xis_pt, xis_pm, xis_pl, xis_V, xis_R, xis_tt, xis_tp, xis_tm, xis_tl, xis_mm, xis_mp, xis_mt, xis_ml, xis_ll, xis_lp, xis_lt, xis_lm, List.any_cons, List.any_nil, in_errs0, in_errs1, in_errs2, in_errs3, m_in, m_notin, m_isb, m_notb,
  s_seq, s_next, s_break, s_cont, s_never, s_drop, s_ret, s_retn, s_if, s_asg, s_par, s_retf, s_retf2, wipeE, List.append_assoc, List.cons_append, List.nil_append, g_nm, g_snil, g_scons, g_tp, g_sb, m_int, m_sub, m_lt, m_le, m_gt, m_ge, m_mod, m_div, m_pow, m_add, m_addt, m_addl, m_adds, m_mul, m_mulc, m_isn, m_notn, m_eq, m_ne, p_p,
  q_t, q_l, q_tt, l_l, t_t, t_tt, m_ixt, m_ixl, m_ixtt, m_lent, m_lenl, m_lentt, m_max2, m_min2, m_intb, m_listt, m_listl, m_tuplel, m_app, m_setl, sl_t, sl_r, sl_l, isNone, tyName, isB, mkTup, allP, allP_map, Option.map_some, map_p_inj,
  q_cc, l_cc, p_cc, ty_cc, m_ixcc, m_lencc, m_tuplecc, m_listcc, asL_l, Option.bind_some, mkTup_p, st_at, st_setk, st_at0, st_set0, st_take, st_atS, st_setS, st_atS0, st_setS0, st_takeS, List.length_set, List.set_set, ix40, ix41, ix42, ix43, Nat.reduceAdd, Nat.zero_add, at_nat', at_succ, at_0, at_1, at_2, at_3, at_4, at_m1, eqv_int, eqv_bool, sh_int, sh_bool, sh_none, fnEnds, wYes, gNm,
  List.getElem?_cons_zero, List.getElem?_cons_succ, List.set_cons_zero, List.set_cons_succ, List.getElem?_map, List.length_map, List.length_cons, List.length_nil, List.length_append, List.map_cons, List.map_nil,
  Option.some.injEq, SV.p.injEq, SV.c.injEq, PyData.int.injEq, PyData.bool.injEq, exists_eq_left', exists_eq_left, exists_eq_right, exists_eq', exists_eq, exists_and_left, true_and, and_true, true_or, or_true, MO.lst.injEq, Bool.not_true, Bool.not_false, if_true, if_false, Bool.false_eq_true, ↓reduceIte, beq_self_eq_true, String.reduceBEq, Bool.or_false, Bool.false_or, Bool.and_false, Bool.false_and, Bool.or_true, Bool.true_or, decide_eq_true_eq, beq_iff_eq, Bool.not_eq_true, tp_at0, tp_at, tp_set, Option.map_none, Option.some.injEq, *])
def hg (a b : Int) : Int := max a (b + 1)
def heightsF (t : List Nat) : List Int := upTo hg t (List.replicate (t.length + 1) 1) t.length
theorem heightsF_len (t : List Nat) : (heightsF t).length = t.length + 1 := by
  unfold heightsF
  rw [upTo_len, List.length_replicate]
def S_heights_k21 : MSp := fun ds st R => ∃ t, ds = [.p (tv t)] ∧ Tr t ∧ R (.p (iL (heightsF t))) st
def S_heights_heights : MSp := fun ds st R => ∃ t, ds = [.p (tv t)] ∧ Tr t ∧ R (.p (iL (heightsF t))) st
def w_heights_k21_L1 : WS := wFor (wiR3 (aCons (wCB mLen (aCons (wVar 0) aNil)) (aCons (wC (.p (.int 0))) (aCons (wNeg (wC (.p (.int 1)))) aNil)))) (gNm 2)
    (wAsg (wCB mMax2 (aCons (wOp mIx (wVar 1) (wOp mIx (wVar 0) (wOp mSub (wVar 2) (wC (.p (.int 1)))))) (aCons (wOp mAdd (wOp mIx (wVar 1) (wVar 2)) (wC (.p (.int 1)))) aNil))) (gSb (wVar 1) (wOp mIx (wVar 0) (wOp mSub (wVar 2) (wC (.p (.int 1))))) mSetL))
def w_heights_k21 : WS :=
    (wSeq (wAsg (wOp mMulC (wLst (aCons (wC (.p (.int 1))) aNil)) (wOp mAdd (wCB mLen (aCons (wVar 0) aNil)) (wC (.p (.int 1))))) (gNm 1))
    (wSeq w_heights_k21_L1
    (wRetF (wVar 1))))
def w_heights_heights_L1 : WS := wFor (wiR3 (aCons (wCB mLen (aCons (wVar 0) aNil)) (aCons (wC (.p (.int 0))) (aCons (wNeg (wC (.p (.int 1)))) aNil)))) (gNm 2)
    (wSeq (wAsg (wOp mIx (wVar 0) (wOp mSub (wVar 2) (wC (.p (.int 1))))) (gNm 3))
    (wAsg (wCB mMax2 (aCons (wOp mIx (wVar 1) (wVar 3)) (aCons (wOp mAdd (wOp mIx (wVar 1) (wVar 2)) (wC (.p (.int 1)))) aNil))) (gSb (wVar 1) (wVar 3) mSetL)))
def w_heights_heights : WS :=
    (wSeq (wAsg (wOp mMulC (wLst (aCons (wC (.p (.int 1))) aNil)) (wOp mAdd (wCB mLen (aCons (wVar 0) aNil)) (wC (.p (.int 1))))) (gNm 1))
    (wSeq w_heights_heights_L1
    (wRetF (wVar 1))))
theorem r_heights_k21 (ds : List SV) (s : Store) (R : SV → Store → Prop) (w : Wf s) (h : S_heights_k21 ds s R) : w_heights_k21 (fnEnds s.length R) (startE 3 ds) s := by
  obtain ⟨t, rfl, T, q⟩ := h
  show w_heights_k21 _ [some (.p (.tuple (t.map nI))), none, none] s
  unfold w_heights_k21 w_heights_k21_L1
  walk_at "m"
  have hl := T.len
  refine ⟨by decide, by omega, by omega, by rw [sizeLine_eq]; omega, ?_⟩
  refine for_rng (t.length : Int) (-1) t.length (fun Q hQ => ?_) (fun i e st => ∃ j, e = [some (.p (.tuple (t.map nI))), some (.c s.length), j] ∧ st = s ++ [.lst (((upTo hg t (List.replicate (t.length + 1) 1) i).map PyData.int).map SV.p)]) ⟨_, rfl, ?_⟩ ?_ ?_
  · unfold wiR3
    walk_at "m"
    exact ⟨by omega, by simpa using hQ⟩
  · have e0 : ((t.length : Int) + 1).toNat = t.length + 1 := by omega
    simp [upTo, e0]
  · rintro i e st hi ⟨j, rfl, rfl⟩
    obtain ⟨p, hp⟩ : ∃ p, t.length = p + i + 1 := ⟨t.length - i - 1, by omega⟩
    have hz : ((t.length : Int) + (i : Nat) * (-1)) = (p : Int) + 1 := by omega
    have hz1 : ((p : Int) + 1 - 1) = (p : Int) := by omega
    rw [hz]
    have ht : t[p]? = some t[p] := List.getElem?_eq_getElem (by omega)
    have hv := T.le p _ ht
    have lu := upTo_len hg t (List.replicate (t.length + 1) 1) i
    rw [List.length_replicate] at lu
    have h1 := List.getElem?_eq_getElem (l := upTo hg t (List.replicate (t.length + 1) 1) i) (i := p + 1) (by omega)
    have h2 := List.getElem?_eq_getElem (l := upTo hg t (List.replicate (t.length + 1) 1) i) (i := t[p]) (by omega)
    walk_at "m"
    simp only [hz1, at_nat', List.getElem?_map, ht, Option.map_some, nI]
    walk_at "m"
    simp only [h1, h2, Option.map_some]
    walk_at "m"
    refine ⟨_, ix_nat (by omega), .inl ⟨_, rfl, ?_⟩⟩
    congr 3
    show _ = ((stepAt _ t (t.length - i) _).map PyData.int).map SV.p
    have e1 : t.length - i = p + 1 := by omega
    rw [e1]
    unfold stepAt
    simp only [Nat.add_sub_cancel, List.getD, ht, h1, h2, Option.getD_some, List.map_set, hg]
  · rintro e st ⟨j, rfl, rfl⟩
    walk_at "m"
    exact ⟨Nat.le_refl _, w, .inl q⟩
theorem r_heights_heights (ds : List SV) (s : Store) (R : SV → Store → Prop) (w : Wf s) (h : S_heights_heights ds s R) : w_heights_heights (fnEnds s.length R) (startE 4 ds) s := by
  obtain ⟨t, rfl, T, q⟩ := h
  show w_heights_heights _ [some (.p (.tuple (t.map nI))), none, none, none] s
  unfold w_heights_heights w_heights_heights_L1
  walk_at "m"
  have hl := T.len
  refine ⟨by decide, by omega, by omega, by rw [sizeLine_eq]; omega, ?_⟩
  refine for_rng (t.length : Int) (-1) t.length (fun Q hQ => ?_) (fun i e st => ∃ j j2, e = [some (.p (.tuple (t.map nI))), some (.c s.length), j, j2] ∧ st = s ++ [.lst (((upTo hg t (List.replicate (t.length + 1) 1) i).map PyData.int).map SV.p)]) ⟨_, _, rfl, ?_⟩ ?_ ?_
  · unfold wiR3
    walk_at "m"
    exact ⟨by omega, by simpa using hQ⟩
  · have e0 : ((t.length : Int) + 1).toNat = t.length + 1 := by omega
    simp [upTo, e0]
  · rintro i e st hi ⟨j, j2, rfl, rfl⟩
    obtain ⟨p, hp⟩ : ∃ p, t.length = p + i + 1 := ⟨t.length - i - 1, by omega⟩
    have hz : ((t.length : Int) + (i : Nat) * (-1)) = (p : Int) + 1 := by omega
    have hz1 : ((p : Int) + 1 - 1) = (p : Int) := by omega
    rw [hz]
    have ht : t[p]? = some t[p] := List.getElem?_eq_getElem (by omega)
    have hv := T.le p _ ht
    have lu := upTo_len hg t (List.replicate (t.length + 1) 1) i
    rw [List.length_replicate] at lu
    have h1 := List.getElem?_eq_getElem (l := upTo hg t (List.replicate (t.length + 1) 1) i) (i := p + 1) (by omega)
    have h2 := List.getElem?_eq_getElem (l := upTo hg t (List.replicate (t.length + 1) 1) i) (i := t[p]) (by omega)
    walk_at "m"
    simp only [hz1, at_nat', List.getElem?_map, ht, Option.map_some, nI]
    walk_at "m"
    simp only [h1, h2, Option.map_some]
    walk_at "m"
    refine ⟨_, ix_nat (by omega), .inl ⟨_, _, rfl, ?_⟩⟩
    congr 3
    show _ = ((stepAt _ t (t.length - i) _).map PyData.int).map SV.p
    have e1 : t.length - i = p + 1 := by omega
    rw [e1]
    unfold stepAt
    simp only [Nat.add_sub_cancel, List.getD, ht, h1, h2, Option.getD_some, List.map_set, hg]
  · rintro e st ⟨j, j2, rfl, rfl⟩
    walk_at "m"
    exact ⟨Nat.le_refl _, w, .inl q⟩
def S_heights_by_height : MSp := fun ds st R => ∃ t, ds = [.p (tv t)] ∧ Tr t ∧ R (.p (.tuple ((ogF t (heightsF t)).map oN))) st
def w_heights_by_height : WS :=
    (wRet (wCall S_weights_on_to_greatest (aCons (wVar 0) (aCons (wCall S_heights_heights (aCons (wVar 0) aNil)) aNil))))
theorem r_heights_by_height (ds : List SV) (s : Store) (R : SV → Store → Prop) (w : Wf s) (h : S_heights_by_height ds s R) : w_heights_by_height (fnEnds s.length R) (startE 1 ds) s := by
  obtain ⟨t, rfl, T, q⟩ := h
  show w_heights_by_height _ [some (.p (tv t))] s
  unfold w_heights_by_height
  walk_at "m"
  exact ⟨t, rfl, T, t, _, rfl, T, heightsF_len t, .inl q⟩
end M

namespace M
open PySem PySem.Spec PyProof.Rows L2
def kidsFrom (t : List Nat) (j : Nat) (v : Nat) : List Nat := (kids t v).filter fun k => decide (j < k)
theorem kids_split (t : List Nat) (v : Nat) : ∀ i, i ≤ t.length → kids t v = kidsUp t i v ++ (((List.range (t.length - i)).map (· + i)).filterMap fun k => if t[k]? = some v then some (k + 1) else none) := fun i hi => by
  unfold kids kidsUp
  rw [← List.filterMap_append]
  congr 1
  have : t.length = i + (t.length - i) := by omega
  conv => lhs; rw [this, List.range_add]
  congr 1
  exact List.map_congr_left fun a _ => by omega
def kf (t : List Nat) (v : Nat) : Nat → Nat → List Nat
  | 0, _ => []
  | m + 1, j => if t[j]? = some v then (j + 1) :: kf t v m (j + 1) else kf t v m (j + 1)
theorem kf_up (t : List Nat) (v : Nat) : ∀ (m j : Nat), kidsUp t (j + m) v = kidsUp t j v ++ kf t v m j
  | 0, j => by simp [kf]
  | m + 1, j => by
    have := kf_up t v m (j + 1)
    rw [show j + (m + 1) = j + 1 + m by omega, this, kidsUp_succ, kf]
    split <;> simp
theorem kf_all (t : List Nat) (v : Nat) : kids t v = kf t v t.length 0 := by
  have := kf_up t v t.length 0
  rw [Nat.zero_add] at this
  unfold kids
  rw [this]
  simp [kidsUp]
section
variable {g : Int → Int → Int} {t : List Nat} {l0 : List Int}
theorem stepAt_get {l : List Int} {p v : Nat} : (stepAt g t p l).getD v 0 = if par t p = v ∧ v < l.length then g (l.getD v 0) (l.getD p 0) else l.getD v 0 := by
  unfold stepAt
  show (l.set (par t p) (g (l.getD (par t p) 0) (l.getD p 0))).getD v 0 = _
  by_cases e : par t p = v
  · subst e
    by_cases h : par t p < l.length
    · rw [if_pos ⟨rfl, h⟩, List.getD, List.getElem?_set_self h]; rfl
    · rw [if_neg (fun q => h q.2), List.set_eq_of_length_le (by omega)]
  · rw [if_neg (fun q => e q.1), List.getD, List.getElem?_set_ne e]; rfl
theorem upTo_stay (T : Tr t) (h0 : l0.length = t.length + 1) {v i : Nat} (hv : t.length - i ≤ v) : ∀ m, i + m ≤ t.length → (upTo g t l0 (i + m)).getD v 0 = (upTo g t l0 i).getD v 0
  | 0, _ => rfl
  | m + 1, h => by
    rw [← upTo_stay T h0 hv m (by omega)]
    show (stepAt g t (t.length - (i + m)) (upTo g t l0 (i + m))).getD v 0 = _
    have := par_lt T (p := t.length - (i + m)) (by omega) (by omega)
    rw [stepAt_get, if_neg (fun q => by omega)]
theorem upTo_fold' (T : Tr t) (h0 : l0.length = t.length + 1) {v : Nat} (hv : v < t.length + 1) : ∀ i, i ≤ t.length →
    (upTo g t l0 i).getD v 0 = (kf t v i (t.length - i)).foldr (fun k acc => g acc ((upTo g t l0 t.length).getD k 0)) (l0.getD v 0)
  | 0, _ => rfl
  | i + 1, h => by
    have hp : t.length - (i + 1) < t.length := by omega
    have e1 : t.length - i = t.length - (i + 1) + 1 := by omega
    show (stepAt g t (t.length - i) (upTo g t l0 i)).getD v 0 = _
    rw [stepAt_get, kf, par_get hp, e1]
    have st := upTo_stay (g := g) T h0 (v := t.length - (i + 1) + 1) (i := i) (by omega) (t.length - i) (by omega)
    rw [show i + (t.length - i) = t.length by omega] at st
    have lu := upTo_len g t l0 i
    by_cases e : par t (t.length - (i + 1) + 1) = v
    · rw [if_pos ⟨e, by omega⟩, if_pos (by rw [e]), List.foldr_cons, st, upTo_fold' T h0 hv i (by omega), e1]
    · rw [if_neg (fun q => e q.1), if_neg (by simpa using e), upTo_fold' T h0 hv i (by omega), e1]
theorem upTo_fold (T : Tr t) (h0 : l0.length = t.length + 1) {v : Nat} (hv : v < t.length + 1) :
    (upTo g t l0 t.length).getD v 0 = (kids t v).foldr (fun k acc => g acc ((upTo g t l0 t.length).getD k 0)) (l0.getD v 0) := by
  have := upTo_fold' (g := g) T h0 hv t.length (Nat.le_refl _)
  rw [Nat.sub_self] at this
  rw [kf_all]
  exact this
end
def siz (t : List Nat) (v : Nat) : Int := (sizesF t).getD v 0
theorem rep_get {n v : Nat} (h : v < n) (x : Int) : (List.replicate n x).getD v 0 = x := by
  rw [List.getD, List.getElem?_replicate, if_pos h]; rfl
theorem siz_fold {t : List Nat} (T : Tr t) {v : Nat} (hv : v < t.length + 1) : siz t v = (kids t v).foldr (fun k acc => acc + siz t k) 1 := by
  have := upTo_fold (g := (· + ·)) (l0 := List.replicate (t.length + 1) 1) T (by simp) hv
  rw [rep_get hv] at this
  exact this
theorem fold_sum (f : Nat → Int) (a : Int) : ∀ l : List Nat, l.foldr (fun k acc => acc + f k) a = a + (l.map f).sum
  | [] => by simp
  | x :: l => by simp [fold_sum f a l]; omega
theorem siz_sum {t : List Nat} (T : Tr t) {v : Nat} (hv : v < t.length + 1) : siz t v = 1 + ((kids t v).map (siz t)).sum := by
  rw [siz_fold T hv, fold_sum]
theorem kids_gt {t : List Nat} (T : Tr t) {v k : Nat} (h : k ∈ kids t v) : v < k ∧ k < t.length + 1 := by
  obtain ⟨h1, h2⟩ := kids_mem.mp h
  have := T.le _ _ h2
  have := (List.getElem?_eq_some_iff.mp h2).1
  omega
theorem sum_nn : ∀ {l : List Int}, (∀ x ∈ l, 0 ≤ x) → 0 ≤ l.sum
  | [], _ => by simp
  | x :: l, h => by
    have := h x List.mem_cons_self
    have := sum_nn fun y hy => h y (List.mem_cons_of_mem _ hy)
    rw [List.sum_cons]; omega
theorem siz_pos {t : List Nat} (T : Tr t) : ∀ (m v : Nat), t.length - v ≤ m → v < t.length + 1 → 1 ≤ siz t v
  | m, v, h, hv => by
    rw [siz_sum T hv]
    have : 0 ≤ ((kids t v).map (siz t)).sum := by
      refine sum_nn fun x hx => ?_
      obtain ⟨k, hk, rfl⟩ := List.mem_map.mp hx
      have := kids_gt T hk
      cases m with
      | zero => omega
      | succ m => exact Int.le_trans (by decide) (siz_pos T m k (by omega) this.2)
    omega
theorem siz_pos' {t : List Nat} (T : Tr t) {v : Nat} (hv : v < t.length + 1) : 1 ≤ siz t v := siz_pos T _ v (Nat.le_refl _) hv
theorem sum_two {f : Nat → Int} {a b : Nat} (hab : a ≠ b) : ∀ {l : List Nat}, a ∈ l → b ∈ l → (∀ k ∈ l, 0 ≤ f k) → f a + f b ≤ (l.map f).sum
  | [], h, _, _ => by simp at h
  | x :: l, ha, hb, h => by
    have nn : ∀ {c : Nat} {l : List Nat}, c ∈ l → (∀ k ∈ l, 0 ≤ f k) → f c ≤ (l.map f).sum := fun {c l} => by
      induction l with
      | nil => intro h; simp at h
      | cons x l ih =>
        intro hc hp
        have hs : 0 ≤ (l.map f).sum := sum_nn fun y hy => by
          obtain ⟨k, hk, rfl⟩ := List.mem_map.mp hy
          exact hp k (List.mem_cons_of_mem _ hk)
        have hx := hp x List.mem_cons_self
        rw [List.map_cons, List.sum_cons]
        rcases List.mem_cons.mp hc with rfl | hc
        · omega
        · have := ih hc fun k hk => hp k (List.mem_cons_of_mem _ hk)
          omega
    have hl : ∀ k ∈ l, 0 ≤ f k := fun k hk => h k (List.mem_cons_of_mem _ hk)
    rw [List.map_cons, List.sum_cons]
    rcases List.mem_cons.mp ha with e | ha2
    · rcases List.mem_cons.mp hb with e2 | hb2
      · exact absurd (e.trans e2.symm) hab
      · have := nn hb2 hl; rw [e]; omega
    · rcases List.mem_cons.mp hb with e2 | hb2
      · have := nn ha2 hl; rw [e2]; omega
      · have := sum_two hab ha2 hb2 hl
        have := h x List.mem_cons_self
        omega
theorem par_kid {t : List Nat} {p : Nat} (h : 1 ≤ p) (h2 : p ≤ t.length) : p ∈ kids t (par t p) := by
  obtain ⟨q, rfl⟩ : ∃ q, p = q + 1 := ⟨p - 1, by omega⟩
  exact kids_mem.mpr ⟨h, by rw [Nat.add_sub_cancel]; exact par_get (by omega)⟩
theorem siz_par {t : List Nat} (T : Tr t) {p : Nat} (h : 1 ≤ p) (h2 : p ≤ t.length) : siz t p < siz t (par t p) := by
  have lp := par_lt T h h2
  rw [siz_sum T (v := par t p) (by omega)]
  have pos : ∀ k ∈ kids t (par t p), 0 ≤ siz t k := fun k hk => by
    have := siz_pos' T (kids_gt T hk).2
    omega
  have : siz t p ≤ ((kids t (par t p)).map (siz t)).sum := by
    have hk := par_kid (t := t) h h2
    generalize kids t (par t p) = l at hk pos
    induction l with
    | nil => simp at hk
    | cons x l ih =>
      have hs : 0 ≤ (l.map (siz t)).sum := sum_nn fun y hy => by
        obtain ⟨k, hk, rfl⟩ := List.mem_map.mp hy
        exact pos k (List.mem_cons_of_mem _ hk)
      have hx := pos x List.mem_cons_self
      rw [List.map_cons, List.sum_cons]
      rcases List.mem_cons.mp hk with rfl | hk
      · omega
      · have := ih hk fun k hk => pos k (List.mem_cons_of_mem _ hk)
        omega
  omega
structure Ct (t : List Nat) (c : List (Option Nat)) : Prop where
  len : c.length = t.length + 1
  at_ : ∀ (v q : Nat), c[v]? = some (some q) → 1 ≤ q ∧ t[q - 1]? = some v
theorem Ct.up {t : List Nat} {c : List (Option Nat)} (T : Tr t) (C : Ct t c) : Up c := ⟨fun v q h => by
  obtain ⟨h1, h2⟩ := C.at_ v q h
  have := T.le _ _ h2
  have := (List.getElem?_eq_some_iff.mp h2).1
  have := C.len
  omega⟩
theorem ogF_ct {t : List Nat} (x : List Int) : Ct t (ogF t x) := ⟨ogUp_len t x t.length, fun v q h => by
  obtain ⟨a, b, c⟩ := ogUp_in t.length v q (Nat.le_refl _) h
  exact ⟨a, c⟩⟩
theorem top_double {t : List Nat} (T : Tr t) {p : Nat} (h : 1 ≤ p) (h2 : p ≤ t.length) (hq : (ogF t (sizesF t)).getD (par t p) none ≠ some p) : 2 * siz t p + 1 ≤ siz t (par t p) := by
  have lp := par_lt T h h2
  obtain ⟨o, h1, h3⟩ := ogF_fm T (sizesF t) (v := par t p) (by omega)
  have hg : (ogF t (sizesF t)).getD (par t p) none = o := by rw [List.getD, h1]; rfl
  rw [hg] at hq
  have hk := par_kid (t := t) h h2
  cases o with
  | none =>
    have h3 : kids t (par t p) = [] := h3
    rw [h3] at hk; simp at hk
  | some q =>
    obtain ⟨a1, a2, _⟩ := h3
    have hne : p ≠ q := fun e => hq (by rw [e])
    have := sum_two (f := siz t) hne hk a1 fun k hk => by
      have := siz_pos' T (kids_gt T hk).2
      omega
    have h4 : siz t p ≤ siz t q := a2 p hk
    rw [siz_sum T (v := par t p) (by omega)]
    omega
theorem tops_s {t : List Nat} (T : Tr t) (c : List (Option Nat)) {p : Nat} (h : 1 ≤ p) (h2 : p ≤ t.length) : tops t c p = if c.getD (par t p) none = some p then tops t c (par t p) else p :: tops t c (par t p) := by
  unfold tops
  rw [road_s T h h2, List.filter_cons]
  have e : isTop t c p = !decide (c.getD (par t p) none = some p) := by
    unfold isTop
    rw [beq_eq_false_iff_ne.mpr (by omega), Bool.false_or]
  rw [e]
  generalize c.getD (par t p) none = o
  by_cases hq : o = some p
  · rw [if_pos hq]; simp [hq]
  · rw [if_neg hq]; simp [hq]
theorem tops_0 (t : List Nat) (c : List (Option Nat)) : tops t c 0 = [0] := by
  unfold tops; rw [road_0]; rfl
def Dbl (f : Nat → Int) : List Nat → Prop
  | [] => True
  | [_] => True
  | a :: b :: l => 2 * f a + 1 ≤ f b ∧ Dbl f (b :: l)
theorem tops_dbl {t : List Nat} (T : Tr t) : ∀ (n p : Nat), p ≤ n → p < t.length + 1 → ∃ a l, tops t (ogF t (sizesF t)) p = a :: l ∧ siz t p ≤ siz t a ∧ Dbl (siz t) (a :: l)
  | n, 0, _, _ => ⟨0, [], tops_0 _ _, Int.le_refl _, trivial⟩
  | 0, p + 1, h, _ => by omega
  | n + 1, p + 1, h, h2 => by
    have lp := par_lt T (p := p + 1) (by omega) (by omega)
    obtain ⟨a, l, e1, e2, e3⟩ := tops_dbl T n (par t (p + 1)) (by omega) (by omega)
    have sp := siz_par T (p := p + 1) (by omega) (by omega)
    rw [tops_s T _ (by omega) (by omega)]
    by_cases hq : (ogF t (sizesF t)).getD (par t (p + 1)) none = some (p + 1)
    · rw [if_pos hq]
      exact ⟨a, l, e1, by omega, e3⟩
    · rw [if_neg hq, e1]
      have := top_double T (p := p + 1) (by omega) (by omega) hq
      exact ⟨p + 1, a :: l, rfl, Int.le_refl _, by omega, e3⟩
theorem tops_chg {t : List Nat} (T : Tr t) (c : List (Option Nat)) : ∀ (n p : Nat), p ≤ n → p < t.length + 1 → (tops t c p).length = chg t c p + 1
  | n, 0, _, _ => by rw [tops_0, chg_0]; rfl
  | 0, p + 1, h, _ => by omega
  | n + 1, p + 1, h, h2 => by
    have lp := par_lt T (p := p + 1) (by omega) (by omega)
    have ih := tops_chg T c n (par t (p + 1)) (by omega) (by omega)
    rw [tops_s T _ (by omega) (by omega), chg_s T _ (by omega) (by omega)]
    split
    · omega
    · rw [List.length_cons]; omega
theorem dbl_pow {f : Nat → Int} : ∀ (l : List Nat) (z : Nat), Dbl f l → (∀ a ∈ l, 1 ≤ f a) → l.getLast? = some z → 2 ^ l.length ≤ f z + 1
  | [], _, _, _, h => by simp at h
  | [a], z, _, hp, h => by
    simp at h; subst h
    have := hp a (by simp)
    simp; omega
  | a :: b :: l, z, hd, hp, h => by
    -- the last one from b on, and what stands ahead
    have key : ∀ (l : List Nat) (b z : Nat) (m : Int), Dbl f (b :: l) → 1 ≤ m → m ≤ f b → (b :: l).getLast? = some z → (m + 1) * 2 ^ l.length ≤ f z + 1 := by
      intro l
      induction l with
      | nil =>
        intro b z m _ _ h1 h2
        simp at h2; subst h2; simp; omega
      | cons c l ih =>
        intro b z m hd h0 h1 h2
        have := ih c z (2 * m + 1) hd.2 (by omega) (by have := hd.1; omega) (by rw [List.getLast?_cons_cons] at h2; exact h2)
        rw [List.length_cons, Int.pow_succ]
        have e : (2 * m + 1 + 1) * 2 ^ l.length = (m + 1) * (2 ^ l.length * 2) := by
          rw [← Int.mul_assoc, Int.mul_right_comm]
          congr 1; omega
        rw [← e]; exact this
    have := key (b :: l) a z 1 hd (by decide) (hp a (by simp)) h
    have e : ((1 : Int) + 1) * 2 ^ (b :: l).length = 2 ^ (a :: b :: l).length := by
      rw [List.length_cons (a := a), Int.pow_succ, Int.mul_comm]; rfl
    rw [e] at this
    exact this
theorem tops_last {t : List Nat} (T : Tr t) (c : List (Option Nat)) : ∀ (n p : Nat), p ≤ n → p < t.length + 1 → (tops t c p).getLast? = some 0
  | n, 0, _, _ => by rw [tops_0]; rfl
  | 0, p + 1, h, _ => by omega
  | n + 1, p + 1, h, h2 => by
    have lp := par_lt T (p := p + 1) (by omega) (by omega)
    have ih := tops_last T c n (par t (p + 1)) (by omega) (by omega)
    rw [tops_s T _ (by omega) (by omega)]
    split
    · exact ih
    · rw [List.getLast?_cons, ih]; rfl
end M

namespace M
open PySem PySem.Spec PyProof.Rows L2
local macro_rules | `(tactic| walk_at "m") => `(tactic| simp (maxSteps := 2000000) (implicitDefEqProofs := false) only [v_0, v_s, e_c, e_op, e_test, e_and, e_or, e_not, e_andv, e_orv, e_notv, e_ife, e_chain, e_anil, e_acons, e_cb, e_call, e_tup, e_lst, e_lstc, e_sl, e_onone, e_osome, e_mt, e_isi, e_neg, e_rd, s_augs, e_lrg, e_lrgc, e_callx, e_orx, e_isx, e_isxt, e_place, s_raisep, s_raiset, s_try, s_frzv, isNone_x, x_ex, x_pl, xis_pp, xis_pt, xis_pm, xis_pl, xis_V, xis_R, xis_tt, xis_tp, xis_tm, xis_tl, xis_mm, xis_mp, xis_mt, xis_ml, xis_ll, xis_lp, xis_lt, xis_lm, List.any_cons, List.any_nil, in_errs0, in_errs1, in_errs2, in_errs3, m_in, m_notin, m_isb, m_notb,
  s_seq, s_next, s_break, s_cont, s_never, s_drop, s_ret, s_retn, s_if, s_asg, s_par, s_retf, s_retf2, wipeE, List.append_assoc, List.cons_append, List.nil_append, g_nm, g_snil, g_scons, g_tp, g_sb, m_int, m_sub, m_lt, m_le, m_gt, m_ge, m_mod, m_div, m_pow, m_add, m_addt, m_addl, m_adds, m_mul, m_mulc, m_isn, m_notn, m_eq, m_ne, p_p,
  q_t, q_l, q_tt, l_l, t_t, t_tt, m_ixt, m_ixl, m_ixtt, m_lent, m_lenl, m_lentt, m_max2, m_min2, m_intb, m_listt, m_listl, m_tuplel, m_app, m_setl, sl_t, sl_r, sl_l, isNone, tyName, isB, mkTup, allP, allP_map, Option.map_some, map_p_inj,
  q_cc, l_cc, p_cc, ty_cc, m_ixcc, m_lencc, m_tuplecc, m_listcc, asL_l, Option.bind_some, mkTup_p, st_at, st_setk, st_at0, st_set0, st_take, st_atS, st_setS, st_atS0, st_setS0, st_takeS, List.length_set, List.set_set, ix40, ix41, ix42, ix43, Nat.reduceAdd, Nat.zero_add, at_nat', at_succ, at_0, at_1, at_2, at_3, at_4, at_m1, eqv_int, eqv_bool, sh_int, sh_bool, sh_none, fnEnds, wYes, gNm,
  List.getElem?_cons_zero, List.getElem?_cons_succ, List.set_cons_zero, List.set_cons_succ, List.getElem?_map, List.length_map, List.length_cons, List.length_nil, List.length_append, List.map_cons, List.map_nil,
  Option.some.injEq, SV.p.injEq, SV.c.injEq, PyData.int.injEq, PyData.bool.injEq, exists_eq_left', exists_eq_left, exists_eq_right, exists_eq', exists_eq, exists_and_left, true_and, and_true, true_or, or_true, MO.lst.injEq, Bool.not_true, Bool.not_false, if_true, if_false, Bool.false_eq_true, ↓reduceIte, beq_self_eq_true, String.reduceBEq, Bool.or_false, Bool.false_or, Bool.and_false, Bool.false_and, Bool.or_true, Bool.true_or, decide_eq_true_eq, beq_iff_eq, Bool.not_eq_true])
local macro_rules | `(tactic| walk_at "mh") => `(tactic| simp (maxSteps := 2000000) (implicitDefEqProofs := false) only [v_0, v_s, e_c, e_op, e_test, e_and, e_or, e_not, e_andv, e_orv, e_notv, e_ife, e_chain, e_anil, e_acons, e_cb, e_call, e_tup, e_lst, e_lstc, e_sl, e_onone, e_osome, e_mt, e_isi, e_neg, e_rd, s_augs, e_lrg, e_lrgc, e_callx, e_orx, e_isx, e_isxt, e_place, s_raisep, s_raiset, s_try, s_frzv, isNone_x, x_ex, x_pl, xis_pp, xis_pt, xis_pm, xis_pl, xis_V, xis_R, xis_tt, xis_tp, xis_tm, xis_tl, xis_mm, xis_mp, xis_mt, xis_ml, xis_ll, xis_lp, xis_lt, xis_lm, List.any_cons, List.any_nil, in_errs0, in_errs1, in_errs2, in_errs3, m_in, m_notin, m_isb, m_notb,
  s_seq, s_next, s_break, s_cont, s_never, s_drop, s_ret, s_retn, s_if, s_asg, s_par, s_retf, s_retf2, wipeE, List.append_assoc, List.cons_append, List.nil_append, g_nm, g_snil, g_scons, g_tp, g_sb, m_int, m_sub, m_lt, m_le, m_gt, m_ge, m_mod, m_div, m_pow, m_add, m_addt, m_addl, m_adds, m_mul, m_mulc, m_isn, m_notn, m_eq, m_ne, p_p,
  q_t, q_l, q_tt, l_l, t_t, t_tt, m_ixt, m_ixl, m_ixtt, m_lent, m_lenl, m_lentt, m_max2, m_min2, m_intb, m_listt, m_listl, m_tuplel, m_app, m_setl, sl_t, sl_r, sl_l, isNone, tyName, isB, mkTup, allP, allP_map, Option.map_some, map_p_inj,
  q_cc, l_cc, p_cc, ty_cc, m_ixcc, m_lencc, m_tuplecc, m_listcc, asL_l, Option.bind_some, mkTup_p, st_at, st_setk, st_at0, st_set0, st_take, st_atS, st_setS, st_atS0, st_setS0, st_takeS, List.length_set, List.set_set, ix40, ix41, ix42, ix43, Nat.reduceAdd, Nat.zero_add, at_nat', at_succ, at_0, at_1, at_2, at_3, at_4, at_m1, eqv_int, eqv_bool, sh_int, sh_bool, sh_none, fnEnds, wYes, gNm,
  List.getElem?_cons_zero, List.getElem?_cons_succ, List.set_cons_zero, List.set_cons_succ, List.getElem?_map, List.length_map, List.length_cons, List.length_nil, List.length_append, List.map_cons, List.map_nil,
  Option.some.injEq, SV.p.injEq, SV.c.injEq, PyData.int.injEq, PyData.bool.injEq, exists_eq_left', exists_eq_left, exists_eq_right, exists_eq', exists_eq, exists_and_left, true_and, and_true, true_or, or_true, MO.lst.injEq, Bool.not_true, Bool.not_false, if_true, if_false, Bool.false_eq_true, ↓reduceIte, beq_self_eq_true, String.reduceBEq, Bool.or_false, Bool.false_or, Bool.and_false, Bool.false_and, Bool.or_true, Bool.true_or, decide_eq_true_eq, beq_iff_eq, Bool.not_eq_true, tp_at0, tp_at, tp_set, Option.map_none, Option.some.injEq, *])
theorem set_same' {s : Store} {n : Nat} {o : MO} (h : s[n]? = some o) : s.set n o = s := by
  have hlt : n < s.length := (List.getElem?_eq_some_iff.mp h).1
  refine List.ext_getElem? fun j => ?_
  by_cases e : n = j
  · subst e; rw [List.getElem?_set_self hlt, h]
  · rw [List.getElem?_set_ne e]
def S_cut_k13 : MSp := fun ds st R => ∃ n k o t, ds = [.c n, .p (tv t)] ∧ Tr t ∧ st[n]? = some o ∧ Tape k o ∧ k < 2 ^ 39 ∧ ∀ c o', Ct t c → Tape (k + 200) o' → R (.p (cv c)) (st.set n o')
def w_cut_k13_L1 : WS := wFor (wiSeq (wCall S_under_k13 (aCons (wVar 1) aNil))) (gNm 3)
    (wSeq (wAsg (wCall S_draw_k13 (aCons (wVar 0) (aCons (wOp mAdd (wCB mLen (aCons (wVar 3) aNil)) (wC (.p (.int 1)))) aNil))) (gNm 4))
    (wDrop (wMt mAppend (wVar 2) (aCons (wOp mIx (wOp mAdd (wVar 3) (wLst (aCons (wC (.p .none)) aNil))) (wVar 4)) aNil))))
def w_cut_k13 : WS :=
    (wSeq (wAsg (wLstC aNil) (gNm 2))
    (wSeq w_cut_k13_L1
    (wRet (wCB mTuple (aCons (wVar 2) aNil)))))
theorem r_cut_k13 (ds : List SV) (s : Store) (R : SV → Store → Prop) (w : Wf s) (h : S_cut_k13 ds s R) : w_cut_k13 (fnEnds s.length R) (startE 5 ds) s := by
  obtain ⟨n, k, o, t, rfl, T, hn, Tp, hk, q⟩ := h
  show w_cut_k13 _ [some (.c n), some (.p (tv t)), none, none, none] s
  have hlt : n < s.length := (List.getElem?_eq_some_iff.mp hn).1
  have hl := T.len
  unfold w_cut_k13
  walk_at "m"
  refine ⟨Nat.zero_le _, ?_⟩
  unfold w_cut_k13_L1
  refine for_call (st1 := s ++ [MO.lst []]) (ds := [.p (tv t)]) (fun Q hQ => by walk_at "m"; exact hQ) ⟨t, rfl, T, ?_⟩
  refine for_seq (st1 := s ++ [MO.lst []]) (.p (underF t)) ((List.range (t.length + 1)).map (kD t)) (fun _ => rfl) (fun Q hQ => hQ)
    (fun i e st => ∃ (c : List (Option Nat)) (o' : MO) (a b : Option SV), Tape (k + i) o' ∧ c.length = i ∧ (∀ v q, c[v]? = some (some q) → q ∈ kids t v) ∧ e = [some (.c n), some (.p (tv t)), some (.c s.length), a, b] ∧ st = s.set n o' ++ [.lst ((c.map oN).map SV.p)])
    ⟨[], o, _, _, Tp, rfl, (fun v q h => by simp at h), rfl, by rw [set_same' hn]; rfl⟩ ?_ ?_
  · rintro i d e st hd ⟨c, o', a, b, T', hc, hm, rfl, rfl⟩
    have hi : i < t.length + 1 := by
      have := (List.getElem?_eq_some_iff.mp hd).1
      simpa using this
    rw [List.getElem?_map, List.getElem?_range hi] at hd
    cases hd
    have hkl : (kids t i).length ≤ t.length := kids_len t t.length i
    simp only [kD]
    walk_at "m"
    refine draw_use (tp_at hlt) T' (by omega) (by omega) (by omega) fun r o2 hr T2 => ?_
    rw [tp_set hlt]
    have hln : (s ++ [MO.lst []]).length = s.length + 1 := by simp
    walk_at "m"
    -- what is put
    obtain ⟨x, hx, hx2⟩ : ∃ x : Option Nat, ((kids t i).map nI ++ [PyData.none])[r]? = some (oN x) ∧ ∀ q, x = some q → q ∈ kids t i := by
      by_cases hrk : r < (kids t i).length
      · refine ⟨some (kids t i)[r], ?_, fun q e => by cases e; exact List.getElem_mem hrk⟩
        rw [List.getElem?_append_left (by simpa using hrk), List.getElem?_map, List.getElem?_eq_getElem hrk]; rfl
      · refine ⟨none, ?_, fun q e => by cases e⟩
        have : r = (kids t i).length := by omega
        rw [this, List.getElem?_append_right (by simp)]
        simp [oN]
    refine ⟨by decide, [.none], rfl, by rw [sizeLine_eq]; simp; omega, .p (oN x), congrArg (Option.map SV.p) hx, by rw [sizeLine_eq]; omega, .inl ⟨c ++ [x], o2, T2, by simp [hc], fun v q h => ?_, _, _, rfl, by simp⟩⟩
    by_cases hv : v < c.length
    · rw [List.getElem?_append_left hv] at h
      exact hm v q h
    · rw [List.getElem?_append_right (by omega)] at h
      cases hz : v - c.length with
      | zero =>
        rw [hz] at h
        have e : v = i := by omega
        rw [e]
        exact hx2 q (by simpa using h)
      | succ z => rw [hz] at h; simp at h
  · rintro e st ⟨c, o', a, b, T', hc, hm, rfl, rfl⟩
    rw [List.length_map, List.length_range] at hc T'
    walk_at "m"
    refine .inr ⟨by simp, ?_, rfl, ?_⟩
    · rw [st_takeS]; exact wf_set w T'.under
    · rw [st_takeS]
      exact q c o' ⟨hc, fun v q h => kids_mem.mp (hm v q h)⟩ (T'.up (by omega))
end M

namespace M
open PySem PySem.Spec PyProof.Rows L2
local macro_rules | `(tactic| walk_at "m") => `(tactic| simp (maxSteps := 2000000) (implicitDefEqProofs := false) only [v_0, v_s, e_c, e_op, e_test, e_and, e_or, e_not, e_andv, e_orv, e_notv, e_ife, e_chain, e_anil, e_acons, e_cb, e_call, e_tup, e_lst, e_lstc, e_sl, e_onone, e_osome, e_mt, e_isi, e_neg, e_rd, s_augs, e_lrg, e_lrgc, e_callx, e_orx, e_isx, e_isxt, e_place, s_raisep, s_raiset, s_try, s_frzv, isNone_x, x_ex, x_pl, xis_pp, xis_pt, xis_pm, xis_pl, xis_V, xis_R, xis_tt, xis_tp, xis_tm, xis_tl, xis_mm, xis_mp, xis_mt, xis_ml, xis_ll, xis_lp, xis_lt, xis_lm, List.any_cons, List.any_nil, in_errs0, in_errs1, in_errs2, in_errs3, m_in, m_notin, m_isb, m_notb,
  s_seq, s_next, s_break, s_cont, s_never, s_drop, s_ret, s_retn, s_if, s_asg, s_par, s_retf, s_retf2, wipeE, List.append_assoc, List.cons_append, List.nil_append, g_nm, g_snil, g_scons, g_tp, g_sb, m_int, m_sub, m_lt, m_le, m_gt, m_ge, m_mod, m_div, m_pow, m_add, m_addt, m_addl, m_adds, m_mul, m_mulc, m_isn, m_notn, m_eq, m_ne, p_p,
  q_t, q_l, q_tt, l_l, t_t, t_tt, m_ixt, m_ixl, m_ixtt, m_lent, m_lenl, m_lentt, m_max2, m_min2, m_intb, m_listt, m_listl, m_tuplel, m_app, m_setl, sl_t, sl_r, sl_l, isNone, tyName, isB, mkTup, allP, allP_map, Option.map_some, map_p_inj,
  q_cc, l_cc, p_cc, ty_cc, m_ixcc, m_lencc, m_tuplecc, m_listcc, asL_l, Option.bind_some, mkTup_p, st_at, st_setk, st_at0, st_set0, st_take, st_atS, st_setS, st_atS0, st_setS0, st_takeS, List.length_set, List.set_set, ix40, ix41, ix42, ix43, Nat.reduceAdd, Nat.zero_add, at_nat', at_succ, at_0, at_1, at_2, at_3, at_4, at_m1, eqv_int, eqv_bool, sh_int, sh_bool, sh_none, fnEnds, wYes, gNm,
  List.getElem?_cons_zero, List.getElem?_cons_succ, List.set_cons_zero, List.set_cons_succ, List.getElem?_map, List.length_map, List.length_cons, List.length_nil, List.length_append, List.map_cons, List.map_nil,
  Option.some.injEq, SV.p.injEq, SV.c.injEq, PyData.int.injEq, PyData.bool.injEq, exists_eq_left', exists_eq_left, exists_eq_right, exists_eq', exists_eq, exists_and_left, true_and, and_true, true_or, or_true, MO.lst.injEq, Bool.not_true, Bool.not_false, if_true, if_false, Bool.false_eq_true, ↓reduceIte, beq_self_eq_true, String.reduceBEq, Bool.or_false, Bool.false_or, Bool.and_false, Bool.false_and, Bool.or_true, Bool.true_or, decide_eq_true_eq, beq_iff_eq, Bool.not_eq_true])
local macro_rules | `(tactic| walk_at "mh") => `(tactic| simp (maxSteps := 2000000) (implicitDefEqProofs := false) only [v_0, v_s, e_c, e_op, e_test, e_and, e_or, e_not, e_andv, e_orv, e_notv, e_ife, e_chain, e_anil, e_acons, e_cb, e_call, e_tup, e_lst, e_lstc, e_sl, e_onone, e_osome, e_mt, e_isi, e_neg, e_rd, s_augs, e_lrg, e_lrgc, e_callx, e_orx, e_isx, e_isxt, e_place, s_raisep, s_raiset, s_try, s_frzv, isNone_x, x_ex, x_pl, xis_pp, xis_pt, xis_pm, xis_pl, xis_V, xis_R, xis_tt, xis_tp, xis_tm, xis_tl, xis_mm, xis_mp, xis_mt, xis_ml, xis_ll, xis_lp, xis_lt, xis_lm, List.any_cons, List.any_nil, in_errs0, in_errs1, in_errs2, in_errs3, m_in, m_notin, m_isb, m_notb,
  s_seq, s_next, s_break, s_cont, s_never, s_drop, s_ret, s_retn, s_if, s_asg, s_par, s_retf, s_retf2, wipeE, List.append_assoc, List.cons_append, List.nil_append, g_nm, g_snil, g_scons, g_tp, g_sb, m_int, m_sub, m_lt, m_le, m_gt, m_ge, m_mod, m_div, m_pow, m_add, m_addt, m_addl, m_adds, m_mul, m_mulc, m_isn, m_notn, m_eq, m_ne, p_p,
  q_t, q_l, q_tt, l_l, t_t, t_tt, m_ixt, m_ixl, m_ixtt, m_lent, m_lenl, m_lentt, m_max2, m_min2, m_intb, m_listt, m_listl, m_tuplel, m_app, m_setl, sl_t, sl_r, sl_l, isNone, tyName, isB, mkTup, allP, allP_map, Option.map_some, map_p_inj,
  q_cc, l_cc, p_cc, ty_cc, m_ixcc, m_lencc, m_tuplecc, m_listcc, asL_l, Option.bind_some, mkTup_p, st_at, st_setk, st_at0, st_set0, st_take, st_atS, st_setS, st_atS0, st_setS0, st_takeS, List.length_set, List.set_set, ix40, ix41, ix42, ix43, Nat.reduceAdd, Nat.zero_add, at_nat', at_succ, at_0, at_1, at_2, at_3, at_4, at_m1, eqv_int, eqv_bool, sh_int, sh_bool, sh_none, fnEnds, wYes, gNm,
  List.getElem?_cons_zero, List.getElem?_cons_succ, List.set_cons_zero, List.set_cons_succ, List.getElem?_map, List.length_map, List.length_cons, List.length_nil, List.length_append, List.map_cons, List.map_nil,
  Option.some.injEq, SV.p.injEq, SV.c.injEq, PyData.int.injEq, PyData.bool.injEq, exists_eq_left', exists_eq_left, exists_eq_right, exists_eq', exists_eq, exists_and_left, true_and, and_true, true_or, or_true, MO.lst.injEq, Bool.not_true, Bool.not_false, if_true, if_false, Bool.false_eq_true, ↓reduceIte, beq_self_eq_true, String.reduceBEq, Bool.or_false, Bool.false_or, Bool.and_false, Bool.false_and, Bool.or_true, Bool.true_or, decide_eq_true_eq, beq_iff_eq, Bool.not_eq_true, tp_at0, tp_at, tp_set, Option.map_none, Option.some.injEq, *])
def S_draw_k01 : MSp := fun ds st R => ∃ n u k o, ds = [.c n, .p (.int u)] ∧ 0 < u ∧ u < 2 ^ 1000 ∧ st[n]? = some o ∧ Tape k o ∧ k < 2 ^ 40 ∧ ∀ r o', 0 ≤ r → r < u → Tape (k + 1) o' → R (.p (.int r)) (st.set n o')
def w_draw_k01 : WS :=
    (wSeq (wIfS (wTest (wOp mEq (wOp mIx (wVar 0) (wC (.p (.int 2)))) (wC (.p (.int 0)))))
    (wSeq (wAsg (wOp mIx (wVar 0) (wC (.p (.int 1)))) (gNm 2))
    (wSeq (wAsg (wOp mAdd (wVar 2) (wC (.p (.int 1)))) (gSb (wVar 0) (wC (.p (.int 1))) mSetL))
    (wSeq (wAsg (wC (.p (.int 0))) (gNm 3))
    (wSeq (wIfS (wTest (wOp mNe (wOp mIx (wVar 0) (wC (.p (.int 0)))) (wLst aNil)))
    (wAsg (wOp mIx (wOp mIx (wVar 0) (wC (.p (.int 0)))) (wOp mMod (wVar 2) (wCB mLen (aCons (wOp mIx (wVar 0) (wC (.p (.int 0)))) aNil)))) (gNm 3))
    wNext)
    (wSeq (wIfS (wOr (wTest (wOp mGe (wVar 2) (wCB mLen (aCons (wOp mIx (wVar 0) (wC (.p (.int 0)))) aNil)))) (wTest (wOp mLt (wVar 3) (wOp mPow (wC (.p (.int 10))) (wC (.p (.int 18)))))))
    (wSeq (wAsg (wOp mMod (wOp mMul (wOp mAdd (wOp mMod (wVar 3) (wC (.p (.int 1000033)))) (wC (.p (.int 1009)))) (wOp mAdd (wOp mAdd (wOp mMod (wOp mMul (wVar 2) (wVar 2)) (wC (.p (.int 9973)))) (wOp mMul (wC (.p (.int 137))) (wVar 2))) (wC (.p (.int 7919))))) (wC (.p (.int 2000003)))) (gNm 4))
    (wRet (wOp mMod (wOp mDiv (wOp mMod (wOp mAdd (wOp mMul (wVar 4) (wVar 4)) (wOp mMul (wC (.p (.int 7))) (wVar 2))) (wC (.p (.int 1999993)))) (wC (.p (.int 3)))) (wVar 1))))
    wNext)
    (wSeq (wAsg (wC (.p (.int 30))) (gSb (wVar 0) (wC (.p (.int 2))) mSetL))
    (wAsg (wOp mSub (wVar 3) (wOp mPow (wC (.p (.int 10))) (wC (.p (.int 18))))) (gSb (wVar 0) (wC (.p (.int 3))) mSetL))))))))
    wNext)
    (wSeq (wAsg (wOp mSub (wOp mIx (wVar 0) (wC (.p (.int 2)))) (wC (.p (.int 1)))) (gSb (wVar 0) (wC (.p (.int 2))) mSetL))
    (wSeq (wAsg (wOp mIx (wVar 0) (wC (.p (.int 3)))) (gNm 5))
    (wSeq (wAsg (wOp mDiv (wVar 5) (wVar 1)) (gSb (wVar 0) (wC (.p (.int 3))) mSetL))
    (wRet (wOp mMod (wVar 5) (wVar 1)))))))
theorem low_iL {k : Nat} (l : List Int) : Low (k + 1) (iL l) := low_lst (low_map fun _ => low_int _ _)
theorem eqv_iNil (l : List Int) : PyData.eqv (.list (l.map PyData.int)) (.list []) = decide (l = []) := by
  rw [eqv_lst]
  cases l <;> simp [PyData.eqvAll]
theorem r_draw_k01 (ds : List SV) (s : Store) (R : SV → Store → Prop) (w : Wf s) (h : S_draw_k01 ds s R) : w_draw_k01 (fnEnds s.length R) (startE 6 ds) s := by
  obtain ⟨n, u, k, o, rfl, hu, hu2, hn, ⟨ns, a, b, c, rfl, ha, hak⟩, hk, q⟩ := h
  show w_draw_k01 _ [some (.c n), some (.p (.int u)), none, none, none, none] s
  have hlt : n < s.length := (List.getElem?_eq_some_iff.mp hn).1
  have cp : CPow 10 18 := by unfold CPow; decide
  have hn' : s[n]? = some (.lst [.p (.list (ns.map .int)), .p (.int a), .p (.int b), .p (.int c)]) := hn
  have fin : ∀ (x y z v : Int), 0 ≤ x → x ≤ (k : Int) + 1 → RetTo s.length R (.p (.int (v % u))) (s.set n (.lst [.p (.list (ns.map .int)), .p (.int x), .p (.int y), .p (.int z)])) := fun x y z v h1 h2 =>
    .inl (q _ _ (Int.emod_nonneg _ (by omega)) (Int.emod_lt_of_pos _ hu) ⟨ns, x, y, z, rfl, h1, by omega⟩)
  have lg := lg_small hu hu2
  have bx : ∀ x y : Int, CMul (x % 1000033 + 1009) y := fun x y => .inl ⟨by omega, by omega⟩
  have by_ : ∀ x y : Int, CMul (x % 2000003) y := fun x y => .inl ⟨by omega, by omega⟩
  have bz : ∀ y : Int, CMul a y := fun y => .inl ⟨by omega, by omega⟩
  have bw : ∀ y : Int, CMul 137 y := fun y => .inl ⟨by omega, by omega⟩
  have bv : ∀ y : Int, CMul 7 y := fun y => .inl ⟨by omega, by omega⟩
  have bd : ∀ y : Int, CDv y 3 := fun y => ⟨by decide, by decide⟩
  have bu : ∀ y : Int, CDv y u := fun y => ⟨hu, lg⟩
  have b1 : (0 : Int) < 9973 := by decide
  have b2 : (0 : Int) < 1000033 := by decide
  have b3 : (0 : Int) < 2000003 := by decide
  have b4 : (0 : Int) < 1999993 := by decide
  have sh : SeqAt.shaped (.list (ns.map PyData.int)) = true := sh_low (low_iL (k := 0) ns)
  have sn : SeqAt.shaped (.list []) = true := by decide
  have se : (0 : Nat) ≤ sizeLine := Nat.zero_le _
  have en := eqv_iNil ns
  clear hn q hu2 hk lg
  unfold w_draw_k01
  by_cases hc : b = 0
  · subst hc
    walk_at "mh"
    refine ite2 (fun h0 => ?_) (fun h0 => ?_)
    · have h0' : ns ≠ [] := by simpa using h0
      have h1 : 0 < ns.length := List.length_pos_iff.mpr h0'
      have hm := Int.emod_nonneg a (show (ns.length : Int) ≠ 0 by omega)
      have hm2 := Int.emod_lt_of_pos a (show (0 : Int) < (ns.length : Int) by omega)
      obtain ⟨j, hj⟩ : ∃ j : Nat, a % (ns.length : Int) = j := ⟨(a % (ns.length : Int)).toNat, by omega⟩
      have hjl : j < ns.length := by omega
      rw [hj]
      refine ⟨by omega, .p (.int ns[j]), by simp [at_nat', hjl], ?_⟩
      walk_at "mh"
      refine ite2 (fun _ => ?_) (fun _ => ite2 (fun _ => ?_) (fun _ => ?_))
      · exact fin _ _ _ _ (by omega) (by omega)
      · exact fin _ _ _ _ (by omega) (by omega)
      · exact fin _ _ _ _ (by omega) (by omega)
    · refine ite2 (fun _ => ?_) (fun _ => ite2 (fun _ => ?_) (fun _ => ?_))
      · exact fin _ _ _ _ (by omega) (by omega)
      · exact fin _ _ _ _ (by omega) (by omega)
      · exact fin _ _ _ _ (by omega) (by omega)
  · walk_at "mh"
    exact fin _ _ _ _ ha (by omega)
theorem draw1 {n k : Nat} {u : Int} {o : MO} {st : Store} {R : SV → Store → Prop} (hn : st[n]? = some o) (T : Tape k o) (hk : k < 2 ^ 40) (h0 : 0 < u) (h1 : u < 2 ^ 64) (q : ∀ (r : Nat) o', (r : Int) < u → Tape (k + 1) o' → R (.p (.int (r : Int))) (st.set n o')) : S_draw_k01 [.c n, .p (.int u)] st R :=
  ⟨n, u, k, o, rfl, h0, Int.lt_trans h1 (by decide), hn, T, hk, fun r o' a b t => by
    obtain ⟨j, rfl⟩ : ∃ j : Nat, r = (j : Int) := ⟨r.toNat, by omega⟩
    exact q j o' b t⟩
def S_tree_k01 : MSp := fun ds st R => ∃ n k o m, ds = [.c n, .p (.int ((m : Nat) : Int))] ∧ 1 ≤ m ∧ m ≤ 200 ∧ st[n]? = some o ∧ Tape k o ∧ k < 2 ^ 39 ∧ ∀ t o', Tr t → t.length < m → Tape (k + 500) o' → R (.p (tv t)) (st.set n o')
def w_tree_k01_L1 : WS := wFor (wiR2 (aCons (wC (.p (.int 1))) (aCons (wOp mAdd (wC (.p (.int 1))) (wCall S_draw_k01 (aCons (wVar 0) (aCons (wVar 1) aNil)))) aNil))) (gNm 5)
    (wSeq (wAsg (wCall S_draw_k01 (aCons (wVar 0) (aCons (wVar 5) aNil))) (gNm 6))
    (wSeq (wAsg (wCB mMax2 (aCons (wC (.p (.int 0))) (aCons (wOp mSub (wOp mSub (wVar 5) (wC (.p (.int 1)))) (wCall S_draw_k01 (aCons (wVar 0) (aCons (wVar 3) aNil)))) aNil))) (gNm 7))
    (wSeq (wAsg (wLst (aCons (wVar 6) (aCons (wVar 6) (aCons (wVar 7) (aCons (wVar 7) (aCons (wOp mDiv (wOp mSub (wVar 5) (wC (.p (.int 1)))) (wC (.p (.int 2)))) (aCons (wOp mSub (wVar 5) (wC (.p (.int 1)))) aNil))))))) (gNm 8))
    (wSeq (wAsg (wOp mAdd (wVar 8) (wLst (aCons (wCB mMax2 (aCons (wC (.p (.int 0))) (aCons (wOp mSub (wOp mSub (wVar 5) (wC (.p (.int 1)))) (wOp mMod (wVar 5) (wC (.p (.int 2))))) aNil))) (aCons (wC (.p (.int 0))) aNil)))) (gNm 8))
    (wSeq (wDrop (wMt mAppend (wVar 4) (aCons (wOp mIx (wVar 8) (wVar 2)) aNil)))
    (wIfS (wAnd (wTest (wOp mGt (wVar 2) (wC (.p (.int 3))))) (wTest (wOp mEq (wOp mMod (wVar 7) (wC (.p (.int 5)))) (wC (.p (.int 4))))))
    (wAsg (wVar 6) (gSb (wVar 4) (wNeg (wC (.p (.int 1)))) mSetL))
    wNext))))))
def w_tree_k01 : WS :=
    (wSeq (wAsg (wCall S_draw_k01 (aCons (wVar 0) (aCons (wC (.p (.int 8))) aNil))) (gNm 2))
    (wSeq (wAsg (wOp mAdd (wC (.p (.int 1))) (wCall S_draw_k01 (aCons (wVar 0) (aCons (wC (.p (.int 6))) aNil)))) (gNm 3))
    (wSeq (wAsg (wLstC aNil) (gNm 4))
    (wSeq w_tree_k01_L1
    (wRet (wCB mTuple (aCons (wVar 4) aNil)))))))
theorem ix_m1 (n : Nat) : ixN (n + 1) (-1) = some n := by
  unfold ixN
  rw [if_neg (by omega), if_pos (by omega)]
  congr 1
  omega
theorem app_set {α : Type} (l : List α) (v x : α) : (l ++ [v]).set l.length x = l ++ [x] := by
  rw [List.set_append_right _ _ (Nat.le_refl _), Nat.sub_self]; rfl
theorem tr_app {t : List Nat} (T : Tr t) {v : Nat} (hl : t.length < 199) (h : v ≤ t.length) : Tr (t ++ [v]) := ⟨by simp; omega, fun i' v' hv => by
  by_cases hi' : i' < t.length
  · rw [List.getElem?_append_left hi'] at hv; exact T.le i' v' hv
  · rw [List.getElem?_append_right (by omega)] at hv
    have : i' - t.length = 0 := by
      cases h : i' - t.length with
      | zero => rfl
      | succ q => rw [h] at hv; simp at hv
    rw [this] at hv; simp at hv; subst hv; omega⟩
theorem forms8 {way : Nat} (hw : (way : Int) < 8) {i : Nat} {a b : Nat} (ha : a ≤ i) (hb : b ≤ i) : ∃ v : Nat, v ≤ i ∧
    ([PyData.int (a : Nat), .int (a : Nat), .int (b : Nat), .int (b : Nat), .int (((i : Int) + 1 - 1) / 2), .int ((i : Int) + 1 - 1), .int (max 0 ((i : Int) + 1 - 1 - ((i : Int) + 1) % 2)), .int 0] : List PyData)[way]? = some (.int (v : Nat)) := by
  have : way = 0 ∨ way = 1 ∨ way = 2 ∨ way = 3 ∨ way = 4 ∨ way = 5 ∨ way = 6 ∨ way = 7 := by omega
  rcases this with rfl | rfl | rfl | rfl | rfl | rfl | rfl | rfl
  · exact ⟨a, ha, rfl⟩
  · exact ⟨a, ha, rfl⟩
  · exact ⟨b, hb, rfl⟩
  · exact ⟨b, hb, rfl⟩
  · refine ⟨i / 2, Nat.div_le_self _ _, ?_⟩
    have : ((i : Int) + 1 - 1) / 2 = ((i / 2 : Nat) : Int) := by omega
    rw [this]; rfl
  · refine ⟨i, Nat.le_refl _, ?_⟩
    have : ((i : Int) + 1 - 1) = ((i : Nat) : Int) := by omega
    rw [this]; rfl
  · refine ⟨(max 0 ((i : Int) + 1 - 1 - ((i : Int) + 1) % 2)).toNat, by omega, ?_⟩
    have : ((max 0 ((i : Int) + 1 - 1 - ((i : Int) + 1) % 2)).toNat : Int) = max 0 ((i : Int) + 1 - 1 - ((i : Int) + 1) % 2) := by omega
    rw [this]; rfl
  · exact ⟨0, Nat.zero_le _, rfl⟩
def I_tree_k01 (n m way far k : Nat) (s : Store) (i : Nat) (e : M.Env) (st : Store) : Prop := ∃ t o' a b c d, Tape (k + 2 * i) o' ∧ t.length = i ∧ Tr t ∧ e = [some (.c n), some (.p (.int m)), some (.p (.int way)), some (.p (.int far)), some (.c s.length), a, b, c, d] ∧ st = s.set n o' ++ [.lst ((t.map nI).map SV.p)]
theorem r_tree_k01 (ds : List SV) (s : Store) (R : SV → Store → Prop) (w : Wf s) (h : S_tree_k01 ds s R) : w_tree_k01 (fnEnds s.length R) (startE 9 ds) s := by
  obtain ⟨n, k, o, m, rfl, hm1, hm2, hn, T, hk, q⟩ := h
  show w_tree_k01 _ [some (.c n), some (.p (.int m)), none, none, none, none, none, none, none] s
  have hlt : n < s.length := (List.getElem?_eq_some_iff.mp hn).1
  unfold w_tree_k01
  walk_at "m"
  refine draw1 hn T (by omega) (by decide) (by decide) fun way o1 hway T1 => ?_
  refine draw1 (tp_at0 hlt) T1 (by omega) (by decide) (by decide) fun far o2 hfar T2 => ?_
  walk_at "m"
  refine ⟨Nat.zero_le _, ?_⟩
  have ef : (1 : Int) + (far : Nat) = ((1 + far : Nat) : Int) := by omega
  rw [ef]
  unfold w_tree_k01_L1
  -- how many
  have many : ∀ Q : ItM → Store → Prop, (∀ (z : Nat) o3, z < m → Tape (k + 3) o3 → Q { items := rngItems 1 1 z } (s.set n o3 ++ [.lst []])) →
      wiR2 (aCons (wC (.p (.int 1))) (aCons (wOp mAdd (wC (.p (.int 1))) (wCall S_draw_k01 (aCons (wVar 0) (aCons (wVar 1) aNil)))) aNil)) [some (.c n), some (.p (.int m)), some (.p (.int way)), some (.p (.int ((1 + far : Nat) : Int))), some (.c s.length), none, none, none, none] (s.set n o2 ++ [.lst []]) Q := fun Q hQ => by
    unfold wiR2
    walk_at "m"
    refine draw1 (tp_at hlt) T2 (by omega) (by omega) (by omega) fun z o3 hz T3 => ?_
    walk_at "m"
    rw [tp_set hlt]
    have e1 : ((1 : Int) + (z : Nat) - 1).toNat = z := by omega
    rw [e1]
    exact ⟨by omega, hQ z o3 (by omega) T3⟩
  refine many _ fun z o3 hz T3 => ?_
  refine ⟨I_tree_k01 n m way (1 + far) (k + 3) s, ⟨[], o3, _, _, _, _, T3, rfl, ⟨by decide, fun i v h => by simp at h⟩, rfl, rfl⟩, fun _ _ _ _ _ => trivial, ?_, ?_⟩
  · rintro i x e st hx ⟨t, o', a, b, c, d, T', hl, ht, rfl, rfl⟩
    have hi : i < z := by
      have := (List.getElem?_eq_some_iff.mp hx).1
      simpa [rngItems] using this
    have hx2 : (rngItems 1 1 z)[i]? = some x := hx
    rw [rng_get hi] at hx2
    cases hx2
    have hxi : (1 : Int) + (i : Nat) * 1 = (i : Int) + 1 := by omega
    rw [hxi]
    have hln : (s.set n o3 ++ [MO.lst []]).length = s.length + 1 := by simp
    rw [hln]
    walk_at "m"
    refine draw1 (tp_at hlt) T' (by omega) (by omega) (by omega) fun fr o4 hfr T4 => ?_
    rw [tp_set hlt]
    refine draw1 (tp_at hlt) T4 (by omega) (by omega) (by omega) fun ne o5 hne T5 => ?_
    rw [tp_set hlt]
    have e2 : max (0 : Int) ((i : Int) + 1 - 1 - (ne : Nat)) = ((max (0 : Int) ((i : Int) + 1 - 1 - (ne : Nat))).toNat : Nat) := by omega
    have e3 : (max (0 : Int) ((i : Int) + 1 - 1 - (ne : Nat))).toNat ≤ i := by omega
    walk_at "m"
    rw [e2]
    generalize (max (0 : Int) ((i : Int) + 1 - 1 - (ne : Nat))).toNat = near at e3
    obtain ⟨v, hv, hf⟩ := forms8 hway (i := i) (a := fr) (b := near) (by omega) e3
    have fin : ∀ (v : Nat) (x : SV), v ≤ i → Wk (s.length + 1) (I_tree_k01 n m way (1 + far) (k + 3) s (i + 1)) [some (.c n), some (.p (.int m)), some (.p (.int way)), some (.p (.int ((1 + far : Nat) : Int))), some (.c s.length), some (.p (.int ((i : Int) + 1))), some (.p (.int fr)), some (.p (.int near)), some x] (s.set n o5 ++ [.lst ((t.map nI).map SV.p ++ [.p (.int v)])]) := fun v x hv =>
      .inl ⟨t ++ [v], o5, _, _, _, _, T5.up (by omega), by simp [hl], tr_app ht (by omega) (by omega), rfl, by simp [nI]⟩
    refine ⟨⟨by decide, by decide⟩, by decide, by decide, by decide, [.int (max 0 ((i : Int) + 1 - 1 - ((i : Int) + 1) % 2)), .int 0], rfl, by rw [sizeLine_eq]; simp, .p (.int v), congrArg (Option.map SV.p) hf, by rw [sizeLine_eq]; omega, ?_⟩
    refine ite2 (fun _ => ⟨by decide, ite2 (fun _ => ⟨t.length, ix_m1 _, ?_⟩) (fun _ => fin _ _ hv)⟩) (fun _ => fin _ _ hv)
    have := app_set ((t.map nI).map SV.p) (.p (.int v)) (.p (.int fr))
    rw [List.length_map, List.length_map] at this
    rw [this]
    exact fin fr _ (by omega)
  · rintro e st ⟨t, o', a, b, c, d, T', hl, ht, rfl, rfl⟩
    have hzl : (rngItems 1 1 z).length = z := by simp [rngItems]
    have hl : t.length = z := by rw [hl]; exact hzl
    walk_at "m"
    refine .inr ⟨by simp, ?_, rfl, ?_⟩
    · rw [st_takeS]; exact wf_set w T'.under
    · rw [st_takeS]; exact q t o' ht (by omega) (T'.up (by omega))
def S_some_tree_k01 : MSp := fun ds st R => ∃ n k o, ds = [.c n] ∧ st[n]? = some o ∧ Tape k o ∧ k < 2 ^ 38 ∧ ∀ t o', Tr t → Tape (k + 600) o' → R (.p (tv t)) (st.set n o')
def w_some_tree_k01 : WS :=
    (wRet (wCall S_tree_k01 (aCons (wVar 0) (aCons (wOp mIx (wLst (aCons (wC (.p (.int 3))) (aCons (wC (.p (.int 8))) (aCons (wC (.p (.int 20))) (aCons (wC (.p (.int 60))) (aCons (wC (.p (.int 200))) aNil)))))) (wCall S_draw_k01 (aCons (wVar 0) (aCons (wC (.p (.int 5))) aNil)))) aNil))))
theorem some5 {r : Nat} (h : (r : Int) < 5) : ∃ m : Nat, 1 ≤ m ∧ m ≤ 200 ∧ [SV.p (.int 3), SV.p (.int 8), SV.p (.int 20), SV.p (.int 60), SV.p (.int 200)][r]? = some (.p (.int (m : Nat))) := by
  have : r = 0 ∨ r = 1 ∨ r = 2 ∨ r = 3 ∨ r = 4 := by omega
  rcases this with rfl | rfl | rfl | rfl | rfl
  · exact ⟨3, by decide, by decide, rfl⟩
  · exact ⟨8, by decide, by decide, rfl⟩
  · exact ⟨20, by decide, by decide, rfl⟩
  · exact ⟨60, by decide, by decide, rfl⟩
  · exact ⟨200, by decide, by decide, rfl⟩
theorem r_some_tree_k01 (ds : List SV) (s : Store) (R : SV → Store → Prop) (w : Wf s) (h : S_some_tree_k01 ds s R) : w_some_tree_k01 (fnEnds s.length R) (startE 1 ds) s := by
  obtain ⟨n, k, o, rfl, hn, T, hk, q⟩ := h
  show w_some_tree_k01 _ [some (.c n)] s
  have hlt : n < s.length := (List.getElem?_eq_some_iff.mp hn).1
  unfold w_some_tree_k01
  walk_at "m"
  refine ⟨by decide, ?_⟩
  refine draw1 hn T (by omega) (by decide) (by decide) fun r o1 hr T1 => ?_
  obtain ⟨m, m1, m2, m3⟩ := some5 hr
  walk_at "m"
  refine ⟨_, m3, n, k + 1, o1, m, rfl, m1, m2, tp_at0 hlt, T1, by omega, fun t o2 ht _ T2 => ?_⟩
  rw [List.set_set]
  exact .inl (q t o2 ht (T2.up (by omega)))
def S_moved_k02 : MSp := fun ds st R => ∃ n k o t, ds = [.c n, .p (tv t)] ∧ Tr t ∧ st[n]? = some o ∧ Tape k o ∧ k < 2 ^ 39 ∧ ∀ u o', Tr u → u.length = t.length → Tape (k + 2) o' → R (.p (tv u)) (st.set n o')
def w_moved_k02 : WS :=
    (wSeq (wIfS (wTest (wOp mEq (wVar 1) (wTup aNil)))
    (wRet (wVar 1))
    wNext)
    (wSeq (wAsg (wCall S_draw_k01 (aCons (wVar 0) (aCons (wCB mLen (aCons (wVar 1) aNil)) aNil))) (gNm 2))
    (wRet (wOp mAdd (wOp mAdd (wSl (wVar 1) oNone (oSome (wVar 2))) (wTup (aCons (wCall S_draw_k01 (aCons (wVar 0) (aCons (wOp mAdd (wVar 2) (wC (.p (.int 1)))) aNil))) aNil))) (wSl (wVar 1) (oSome (wOp mAdd (wVar 2) (wC (.p (.int 1))))) oNone)))))
theorem r_moved_k02 (ds : List SV) (s : Store) (R : SV → Store → Prop) (w : Wf s) (h : S_moved_k02 ds s R) : w_moved_k02 (fnEnds s.length R) (startE 3 ds) s := by
  obtain ⟨n, k, o, t, rfl, T, hn, Tp, hk, q⟩ := h
  show w_moved_k02 _ [some (.c n), some (.p (.tuple (t.map nI))), none] s
  have hlt : n < s.length := (List.getElem?_eq_some_iff.mp hn).1
  unfold w_moved_k02
  walk_at "m"
  refine ⟨Nat.zero_le _, sh_low (low_tv (k := 0) t), by decide, ?_⟩
  have e1 : PyData.eqv (.tuple (t.map nI)) (.tuple []) = decide (t = []) := by
    rw [eqv_tup]
    cases t <;> simp [PyData.eqvAll]
  rw [e1]
  have hl := T.len
  refine ite2 (fun h => .inl ?_) (fun h => ?_)
  · have e2 : s.set n o = s := by
      refine List.ext_getElem? fun j => ?_
      by_cases e : n = j
      · subst e; rw [List.getElem?_set_self hlt, hn]
      · rw [List.getElem?_set_ne e]
    have := q t o T rfl (Tp.up (by omega))
    rwa [e2] at this
  · have h0 : t ≠ [] := by simpa using h
    have h1 : 0 < t.length := List.length_pos_iff.mpr h0
    refine draw1 hn Tp (by omega) (by omega) (by omega) fun a o1 ha T1 => ?_
    walk_at "m"
    refine draw1 (tp_at0 hlt) T1 (by omega) (by omega) (by omega) fun r o2 hr T2 => ?_
    walk_at "m"
    have e3 : ((a : Int) + 1) = ((a + 1 : Nat) : Int) := by omega
    rw [cut_to, e3, cut_from]
    have ha' : a < t.length := by omega
    have e4 : (t.map nI).take a ++ [nI r] ++ (t.map nI).drop (a + 1) = (t.set a r).map nI := by
      rw [mid_set _ _ _ (by simpa using ha'), List.map_set]
    refine ⟨by decide, ?_, ?_, .inl ?_⟩
    · simp; rw [sizeLine_eq]; omega
    · simp; rw [sizeLine_eq]; omega
    · have := q (t.set a r) o2 (tr_set T (by omega)) (by simp) T2
      rw [tv, ← e4] at this
      simpa [nI] using this
end M

namespace M
open PySem PySem.Spec PyProof.Rows L2
local macro_rules | `(tactic| walk_at "m") => `(tactic| simp (maxSteps := 2000000) (implicitDefEqProofs := false) only [v_0, v_s, e_c, e_op, e_test, e_and, e_or, e_not, e_andv, e_orv, e_notv, e_ife, e_chain, e_anil, e_acons, e_cb, e_call, e_tup, e_lst, e_lstc, e_sl, e_onone, e_osome, e_mt, e_isi, e_neg, e_rd, s_augs, e_lrg, e_lrgc, e_callx, e_orx, e_isx, e_isxt, e_place, s_raisep, s_raiset, s_try, s_frzv, isNone_x, x_ex, x_pl, xis_pp, xis_pt, xis_pm, xis_pl, xis_V, xis_R, xis_tt, xis_tp, xis_tm, xis_tl, xis_mm, xis_mp, xis_mt, xis_ml, xis_ll, xis_lp, xis_lt, xis_lm, List.any_cons, List.any_nil, in_errs0, in_errs1, in_errs2, in_errs3, m_in, m_notin, m_isb, m_notb,
  s_seq, s_next, s_break, s_cont, s_never, s_drop, s_ret, s_retn, s_if, s_asg, s_par, s_retf, s_retf2, wipeE, List.append_assoc, List.cons_append, List.nil_append, g_nm, g_snil, g_scons, g_tp, g_sb, m_int, m_sub, m_lt, m_le, m_gt, m_ge, m_mod, m_div, m_pow, m_add, m_addt, m_addl, m_adds, m_mul, m_mulc, m_isn, m_notn, m_eq, m_ne, p_p,
  q_t, q_l, q_tt, l_l, t_t, t_tt, m_ixt, m_ixl, m_ixtt, m_lent, m_lenl, m_lentt, m_max2, m_min2, m_intb, m_listt, m_listl, m_tuplel, m_app, m_setl, sl_t, sl_r, sl_l, isNone, tyName, isB, mkTup, allP, allP_map, Option.map_some, map_p_inj,
  q_cc, l_cc, p_cc, ty_cc, m_ixcc, m_lencc, m_tuplecc, m_listcc, asL_l, Option.bind_some, mkTup_p, st_at, st_setk, st_at0, st_set0, st_take, st_atS, st_setS, st_atS0, st_setS0, st_takeS, List.length_set, List.set_set, ix40, ix41, ix42, ix43, Nat.reduceAdd, Nat.zero_add, at_nat', at_succ, at_0, at_1, at_2, at_3, at_4, at_m1, eqv_int, eqv_bool, sh_int, sh_bool, sh_none, fnEnds, wYes, gNm,
  List.getElem?_cons_zero, List.getElem?_cons_succ, List.set_cons_zero, List.set_cons_succ, List.getElem?_map, List.length_map, List.length_cons, List.length_nil, List.length_append, List.map_cons, List.map_nil,
  Option.some.injEq, SV.p.injEq, SV.c.injEq, PyData.int.injEq, PyData.bool.injEq, exists_eq_left', exists_eq_left, exists_eq_right, exists_eq', exists_eq, exists_and_left, true_and, and_true, true_or, or_true, MO.lst.injEq, Bool.not_true, Bool.not_false, if_true, if_false, Bool.false_eq_true, ↓reduceIte, beq_self_eq_true, String.reduceBEq, Bool.or_false, Bool.false_or, Bool.and_false, Bool.false_and, Bool.or_true, Bool.true_or, decide_eq_true_eq, beq_iff_eq, Bool.not_eq_true])
local macro_rules | `(tactic| walk_at "mh") => `(tactic| simp (maxSteps := 2000000) (implicitDefEqProofs := false) only [v_0, v_s, e_c, e_op, e_test, e_and, e_or, e_not, e_andv, e_orv, e_notv, e_ife, e_chain, e_anil, e_acons, e_cb, e_call, e_tup, e_lst, e_lstc, e_sl, e_onone, e_osome, e_mt, e_isi, e_neg, e_rd, s_augs, e_lrg, e_lrgc, e_callx, e_orx, e_isx, e_isxt, e_place, s_raisep, s_raiset, s_try, s_frzv, isNone_x, x_ex, x_pl, xis_pp, xis_pt, xis_pm, xis_pl, xis_V, xis_R, xis_tt, xis_tp, xis_tm, xis_tl, xis_mm, xis_mp, xis_mt, xis_ml, xis_ll, xis_lp, xis_lt, xis_lm, List.any_cons, List.any_nil, in_errs0, in_errs1, in_errs2, in_errs3, m_in, m_notin, m_isb, m_notb,
  s_seq, s_next, s_break, s_cont, s_never, s_drop, s_ret, s_retn, s_if, s_asg, s_par, s_retf, s_retf2, wipeE, List.append_assoc, List.cons_append, List.nil_append, g_nm, g_snil, g_scons, g_tp, g_sb, m_int, m_sub, m_lt, m_le, m_gt, m_ge, m_mod, m_div, m_pow, m_add, m_addt, m_addl, m_adds, m_mul, m_mulc, m_isn, m_notn, m_eq, m_ne, p_p,
  q_t, q_l, q_tt, l_l, t_t, t_tt, m_ixt, m_ixl, m_ixtt, m_lent, m_lenl, m_lentt, m_max2, m_min2, m_intb, m_listt, m_listl, m_tuplel, m_app, m_setl, sl_t, sl_r, sl_l, isNone, tyName, isB, mkTup, allP, allP_map, Option.map_some, map_p_inj,
  q_cc, l_cc, p_cc, ty_cc, m_ixcc, m_lencc, m_tuplecc, m_listcc, asL_l, Option.bind_some, mkTup_p, st_at, st_setk, st_at0, st_set0, st_take, st_atS, st_setS, st_atS0, st_setS0, st_takeS, List.length_set, List.set_set, ix40, ix41, ix42, ix43, Nat.reduceAdd, Nat.zero_add, at_nat', at_succ, at_0, at_1, at_2, at_3, at_4, at_m1, eqv_int, eqv_bool, sh_int, sh_bool, sh_none, fnEnds, wYes, gNm,
  List.getElem?_cons_zero, List.getElem?_cons_succ, List.set_cons_zero, List.set_cons_succ, List.getElem?_map, List.length_map, List.length_cons, List.length_nil, List.length_append, List.map_cons, List.map_nil,
  Option.some.injEq, SV.p.injEq, SV.c.injEq, PyData.int.injEq, PyData.bool.injEq, exists_eq_left', exists_eq_left, exists_eq_right, exists_eq', exists_eq, exists_and_left, true_and, and_true, true_or, or_true, MO.lst.injEq, Bool.not_true, Bool.not_false, if_true, if_false, Bool.false_eq_true, ↓reduceIte, beq_self_eq_true, String.reduceBEq, Bool.or_false, Bool.false_or, Bool.and_false, Bool.false_and, Bool.or_true, Bool.true_or, decide_eq_true_eq, beq_iff_eq, Bool.not_eq_true, tp_at0, tp_at, tp_set, Option.map_none, Option.some.injEq, *])
def S_up_k02 : MSp := fun ds st R => ∃ t p, ds = [.p (tv t), .p (nI p)] ∧ Tr t ∧ p < t.length + 1 ∧ R (.p (.list ((road t p).map nI))) st
def w_up_k02_L1 : WS := wWhile (wTest (wOp mGt (wOp mIx (wVar 2) (wNeg (wC (.p (.int 1))))) (wC (.p (.int 0)))))
    (wDrop (wMt mAppend (wVar 2) (aCons (wOp mIx (wVar 0) (wOp mSub (wOp mIx (wVar 2) (wNeg (wC (.p (.int 1))))) (wC (.p (.int 1))))) aNil)))
def w_up_k02 : WS :=
    (wSeq (wAsg (wLstC (aCons (wVar 1) aNil)) (gNm 2))
    (wSeq w_up_k02_L1
    (wRetF (wVar 2))))
theorem up2_loop {t : List Nat} (T : Tr t) {p0 : Nat} (hp0 : p0 < t.length + 1) (s : Store) (D : ME) (hD : D.nx [some (.p (.tuple (t.map nI))), some (.p (.int (p0 : Nat))), some (.c s.length)] (s ++ [.lst (((road t p0).map nI).map SV.p)])) :
    w_up_k02_L1 D [some (.p (.tuple (t.map nI))), some (.p (.int (p0 : Nat))), some (.c s.length)] (s ++ [.lst [.p (.int (p0 : Nat))]]) := by
  unfold w_up_k02_L1 wWhile
  have hl := T.len
  refine ⟨fun m e st => ∃ pre p, m = p ∧ p < t.length + 1 ∧ pre ++ road t p = road t p0 ∧ e = [some (.p (.tuple (t.map nI))), some (.p (.int (p0 : Nat))), some (.c s.length)] ∧ st = s ++ [.lst (((pre ++ [p]).map nI).map SV.p)], ⟨p0, [], p0, rfl, hp0, rfl, rfl, rfl⟩, ?_⟩
  rintro m e st ⟨pre, p, rfl, hp, hr, rfl, rfl⟩
  walk_at "m"
  have la := last_app (l := pre) (p := m)
  refine ⟨_, la, ?_⟩
  simp only [nI]
  walk_at "m"
  cases m with
  | zero =>
    refine ite2 (fun h => absurd h (by omega)) (fun _ => ?_)
    rw [road_0] at hr
    rw [← hr] at hD
    simpa [nI] using hD
  | succ q =>
    refine ite2 (fun _ => ?_) (fun h => absurd h (by omega))
    refine ⟨_, la, ?_⟩
    simp only [nI]
    walk_at "m"
    have e2 : ((q + 1 : Nat) : Int) - 1 = (q : Int) := by omega
    have lp := par_lt T (p := q + 1) (by omega) (by omega)
    rw [e2]
    refine ⟨.p (nI (par t (q + 1))), by rw [at_nat', List.getElem?_map, List.getElem?_map, par_get (by omega)]; rfl, ?_⟩
    have hlen : pre.length + (road t (q + 1)).length ≤ 200 := by
      rw [← List.length_append, hr]
      have := road_len T p0 p0 (Nat.le_refl _) hp0
      omega
    have : 1 ≤ (road t (q + 1)).length := List.length_pos_iff.mpr (road_ne _ _)
    refine ⟨by rw [sizeLine_eq]; omega, .inl ⟨par t (q + 1), lp, by omega, pre ++ [q + 1], ?_, rfl, ?_⟩⟩
    · rw [← hr, road_s T (p := q + 1) (by omega) (by omega)]; simp
    · simp [nI]
theorem r_up_k02 (ds : List SV) (s : Store) (R : SV → Store → Prop) (w : Wf s) (h : S_up_k02 ds s R) : w_up_k02 (fnEnds s.length R) (startE 3 ds) s := by
  obtain ⟨t, p, rfl, T, hp, q⟩ := h
  show w_up_k02 _ [some (.p (.tuple (t.map nI))), some (.p (.int p)), none] s
  unfold w_up_k02
  walk_at "m"
  refine ⟨by decide, ?_⟩
  refine up2_loop T hp s _ ?_
  walk_at "m"
  exact ⟨Nat.le_refl _, w, .inl q⟩
def S_places_k02 : MSp := fun ds st R => ∃ n k o t, ds = [.c n, .p (tv t)] ∧ Tr t ∧ st[n]? = some o ∧ Tape k o ∧ k < 2 ^ 39 ∧ ∀ (ps : List Nat) o', (∀ p ∈ ps, p < t.length + 1) → ps.length ≤ 25 → Tape (k + 12) o' → R (.p (.list (ps.map nI))) (st.set n o')
def w_places_k02 : WS :=
    (wSeq (wIfS (wTest (wOp mLt (wCB mLen (aCons (wVar 1) aNil)) (wC (.p (.int 25)))))
    (wRet (wListR (wOp mAdd (wCB mLen (aCons (wVar 1) aNil)) (wC (.p (.int 1))))))
    wNext)
    (wRet (wLc (wiR1 (aCons (wC (.p (.int 12))) aNil)) (gNm 2) wYes (wCall S_draw_k01 (aCons (wVar 0) (aCons (wOp mAdd (wCB mLen (aCons (wVar 1) aNil)) (wC (.p (.int 1)))) aNil))) [2])))
theorem set_same {s : Store} {n : Nat} {o : MO} (h : s[n]? = some o) : s.set n o = s := by
  have hlt : n < s.length := (List.getElem?_eq_some_iff.mp h).1
  refine List.ext_getElem? fun j => ?_
  by_cases e : n = j
  · subst e; rw [List.getElem?_set_self hlt, h]
  · rw [List.getElem?_set_ne e]
theorem r_places_k02 (ds : List SV) (s : Store) (R : SV → Store → Prop) (w : Wf s) (h : S_places_k02 ds s R) : w_places_k02 (fnEnds s.length R) (startE 3 ds) s := by
  obtain ⟨n, k, o, t, rfl, T, hn, Tp, hk, q⟩ := h
  show w_places_k02 _ [some (.c n), some (.p (.tuple (t.map nI))), none] s
  have hlt : n < s.length := (List.getElem?_eq_some_iff.mp hn).1
  have hl := T.len
  unfold w_places_k02
  walk_at "m"
  refine ite2 (fun h => ?_) (fun h => ?_)
  · refine ⟨t.length + 1, by omega, by omega, .inl ?_⟩
    have := q (List.range (t.length + 1)) o (fun p hp => List.mem_range.mp hp) (by rw [List.length_range]; omega) (Tp.up (by omega))
    rw [set_same hn] at this
    exact this
  · refine lc_gen (st1 := s) (rngItems 0 1 12) _ (fun i acc st' => ∃ (ps : List Nat) (o' : MO), acc = ps.map nI ∧ (∀ p ∈ ps, p < t.length + 1) ∧ ps.length = i ∧ Tape (k + i) o' ∧ st' = s.set n o') (fun Q hQ => ?_) (by decide) (fun _ => trivial) ⟨[], o, rfl, (fun p hp => by simp at hp), rfl, Tp, (set_same hn).symm⟩ ?_ ?_
    · unfold wiR1
      walk_at "m"
      exact ⟨by decide, by decide, hQ⟩
    · rintro i x acc st' Y Z hx ⟨ps, o', rfl, hps, hpl, T', rfl⟩ hsl hY hZ
      have hi : i < 12 := by
        have := (List.getElem?_eq_some_iff.mp hx).1
        simpa [rngItems] using this
      walk_at "m"
      refine draw1 (tp_at hlt) T' (by omega) (by omega) (by omega) fun r o2 hr T2 => ?_
      rw [tp_set hlt]
      refine hY (nI r) (s.set n o2) (by simp) ⟨ps ++ [r], o2, by simp, fun p hp => ?_, by simp [hpl], T2, rfl⟩
      rcases List.mem_append.mp hp with hp | hp
      · exact hps p hp
      · simp at hp; subst hp; omega
    · rintro acc st' hsl ⟨ps, o', rfl, hps, hpl, T', rfl⟩
      have h12 : ps.length = 12 := hpl
      refine ⟨wf_set w T'.under, .inl (q ps o' hps (by omega) ?_)⟩
      have : (rngItems 0 1 12).length = 12 := by simp [rngItems]
      rw [this] at T'
      exact T'
end M

namespace M
open PySem PySem.Spec PyProof.Rows L2
local macro_rules | `(tactic| walk_at "m") => `(tactic| simp (maxSteps := 2000000) (implicitDefEqProofs := false) only [v_0, v_s, e_c, e_op, e_test, e_and, e_or, e_not, e_andv, e_orv, e_notv, e_ife, e_chain, e_anil, e_acons, e_cb, e_call, e_tup, e_lst, e_lstc, e_sl, e_onone, e_osome, e_mt, e_isi, e_neg, e_rd, s_augs, e_lrg, e_lrgc, e_callx, e_orx, e_isx, e_isxt, e_place, s_raisep, s_raiset, s_try, s_frzv, isNone_x, x_ex, x_pl, xis_pp, xis_pt, xis_pm, xis_pl, xis_V, xis_R, xis_tt, xis_tp, xis_tm, xis_tl, xis_mm, xis_mp, xis_mt, xis_ml, xis_ll, xis_lp, xis_lt, xis_lm, List.any_cons, List.any_nil, in_errs0, in_errs1, in_errs2, in_errs3, m_in, m_notin, m_isb, m_notb,
  s_seq, s_next, s_break, s_cont, s_never, s_drop, s_ret, s_retn, s_if, s_asg, s_par, s_retf, s_retf2, wipeE, List.append_assoc, List.cons_append, List.nil_append, g_nm, g_snil, g_scons, g_tp, g_sb, m_int, m_sub, m_lt, m_le, m_gt, m_ge, m_mod, m_div, m_pow, m_add, m_addt, m_addl, m_adds, m_mul, m_mulc, m_isn, m_notn, m_eq, m_ne, p_p,
  q_t, q_l, q_tt, l_l, t_t, t_tt, m_ixt, m_ixl, m_ixtt, m_lent, m_lenl, m_lentt, m_max2, m_min2, m_intb, m_listt, m_listl, m_tuplel, m_app, m_setl, sl_t, sl_r, sl_l, isNone, tyName, isB, mkTup, allP, allP_map, Option.map_some, map_p_inj,
  q_cc, l_cc, p_cc, ty_cc, m_ixcc, m_lencc, m_tuplecc, m_listcc, asL_l, Option.bind_some, mkTup_p, st_at, st_setk, st_at0, st_set0, st_take, st_atS, st_setS, st_atS0, st_setS0, st_takeS, List.length_set, List.set_set, ix40, ix41, ix42, ix43, Nat.reduceAdd, Nat.zero_add, at_nat', at_succ, at_0, at_1, at_2, at_3, at_4, at_m1, eqv_int, eqv_bool, sh_int, sh_bool, sh_none, fnEnds, wYes, gNm,
  List.getElem?_cons_zero, List.getElem?_cons_succ, List.set_cons_zero, List.set_cons_succ, List.getElem?_map, List.length_map, List.length_cons, List.length_nil, List.length_append, List.map_cons, List.map_nil,
  Option.some.injEq, SV.p.injEq, SV.c.injEq, PyData.int.injEq, PyData.bool.injEq, exists_eq_left', exists_eq_left, exists_eq_right, exists_eq', exists_eq, exists_and_left, true_and, and_true, true_or, or_true, MO.lst.injEq, Bool.not_true, Bool.not_false, if_true, if_false, Bool.false_eq_true, ↓reduceIte, beq_self_eq_true, String.reduceBEq, Bool.or_false, Bool.false_or, Bool.and_false, Bool.false_and, Bool.or_true, Bool.true_or, decide_eq_true_eq, beq_iff_eq, Bool.not_eq_true])
local macro_rules | `(tactic| walk_at "mh") => `(tactic| simp (maxSteps := 2000000) (implicitDefEqProofs := false) only [v_0, v_s, e_c, e_op, e_test, e_and, e_or, e_not, e_andv, e_orv, e_notv, e_ife, e_chain, e_anil, e_acons, e_cb, e_call, e_tup, e_lst, e_lstc, e_sl, e_onone, e_osome, e_mt, e_isi, e_neg, e_rd, s_augs, e_lrg, e_lrgc, e_callx, e_orx, e_isx, e_isxt, e_place, s_raisep, s_raiset, s_try, s_frzv, isNone_x, x_ex, x_pl, xis_pp, xis_pt, xis_pm, xis_pl, xis_V, xis_R, xis_tt, xis_tp, xis_tm, xis_tl, xis_mm, xis_mp, xis_mt, xis_ml, xis_ll, xis_lp, xis_lt, xis_lm, List.any_cons, List.any_nil, in_errs0, in_errs1, in_errs2, in_errs3, m_in, m_notin, m_isb, m_notb,
  s_seq, s_next, s_break, s_cont, s_never, s_drop, s_ret, s_retn, s_if, s_asg, s_par, s_retf, s_retf2, wipeE, List.append_assoc, List.cons_append, List.nil_append, g_nm, g_snil, g_scons, g_tp, g_sb, m_int, m_sub, m_lt, m_le, m_gt, m_ge, m_mod, m_div, m_pow, m_add, m_addt, m_addl, m_adds, m_mul, m_mulc, m_isn, m_notn, m_eq, m_ne, p_p,
  q_t, q_l, q_tt, l_l, t_t, t_tt, m_ixt, m_ixl, m_ixtt, m_lent, m_lenl, m_lentt, m_max2, m_min2, m_intb, m_listt, m_listl, m_tuplel, m_app, m_setl, sl_t, sl_r, sl_l, isNone, tyName, isB, mkTup, allP, allP_map, Option.map_some, map_p_inj,
  q_cc, l_cc, p_cc, ty_cc, m_ixcc, m_lencc, m_tuplecc, m_listcc, asL_l, Option.bind_some, mkTup_p, st_at, st_setk, st_at0, st_set0, st_take, st_atS, st_setS, st_atS0, st_setS0, st_takeS, List.length_set, List.set_set, ix40, ix41, ix42, ix43, Nat.reduceAdd, Nat.zero_add, at_nat', at_succ, at_0, at_1, at_2, at_3, at_4, at_m1, eqv_int, eqv_bool, sh_int, sh_bool, sh_none, fnEnds, wYes, gNm,
  List.getElem?_cons_zero, List.getElem?_cons_succ, List.set_cons_zero, List.set_cons_succ, List.getElem?_map, List.length_map, List.length_cons, List.length_nil, List.length_append, List.map_cons, List.map_nil,
  Option.some.injEq, SV.p.injEq, SV.c.injEq, PyData.int.injEq, PyData.bool.injEq, exists_eq_left', exists_eq_left, exists_eq_right, exists_eq', exists_eq, exists_and_left, true_and, and_true, true_or, or_true, MO.lst.injEq, Bool.not_true, Bool.not_false, if_true, if_false, Bool.false_eq_true, ↓reduceIte, beq_self_eq_true, String.reduceBEq, Bool.or_false, Bool.false_or, Bool.and_false, Bool.false_and, Bool.or_true, Bool.true_or, decide_eq_true_eq, beq_iff_eq, Bool.not_eq_true, tp_at0, tp_at, tp_set, Option.map_none, Option.some.injEq, *])
def S_trees_counts : MSp := fun ds st R => ∃ t, ds = [.p (tv t)] ∧ Tr t ∧ R (.p (iL (sizesF t))) st
def S_trees_heights : MSp := fun ds st R => ∃ t, ds = [.p (tv t)] ∧ Tr t ∧ R (.p (iL (heightsF t))) st
def w_trees_counts_L1 : WS := wFor (wiR3 (aCons (wOp mSub (wCall S_trees_many (aCons (wVar 0) aNil)) (wC (.p (.int 1)))) (aCons (wC (.p (.int 0))) (aCons (wNeg (wC (.p (.int 1)))) aNil)))) (gNm 2)
    (wAugS (wVar 1) (wOp mIx (wVar 0) (wOp mSub (wVar 2) (wC (.p (.int 1))))) (wOp mIx (wVar 1) (wVar 2)))
def w_trees_counts : WS :=
    (wSeq (wAsg (wOp mMulC (wLst (aCons (wC (.p (.int 1))) aNil)) (wCall S_trees_many (aCons (wVar 0) aNil))) (gNm 1))
    (wSeq w_trees_counts_L1
    (wRetF (wVar 1))))
def w_trees_heights_L1 : WS := wFor (wiR3 (aCons (wOp mSub (wCall S_trees_many (aCons (wVar 0) aNil)) (wC (.p (.int 1)))) (aCons (wC (.p (.int 0))) (aCons (wNeg (wC (.p (.int 1)))) aNil)))) (gNm 2)
    (wAsg (wCB mMax2 (aCons (wOp mIx (wVar 1) (wOp mIx (wVar 0) (wOp mSub (wVar 2) (wC (.p (.int 1)))))) (aCons (wOp mAdd (wOp mIx (wVar 1) (wVar 2)) (wC (.p (.int 1)))) aNil))) (gSb (wVar 1) (wOp mIx (wVar 0) (wOp mSub (wVar 2) (wC (.p (.int 1))))) mSetL))
def w_trees_heights : WS :=
    (wSeq (wAsg (wOp mMulC (wLst (aCons (wC (.p (.int 1))) aNil)) (wCall S_trees_many (aCons (wVar 0) aNil))) (gNm 1))
    (wSeq w_trees_heights_L1
    (wRetF (wVar 1))))
theorem r_trees_counts (ds : List SV) (s : Store) (R : SV → Store → Prop) (w : Wf s) (h : S_trees_counts ds s R) : w_trees_counts (fnEnds s.length R) (startE 3 ds) s := by
  obtain ⟨t, rfl, T, q⟩ := h
  show w_trees_counts _ [some (.p (.tuple (t.map nI))), none, none] s
  unfold w_trees_counts w_trees_counts_L1
  walk_at "m"
  have hl := T.len
  refine ⟨by decide, t, rfl, ?_⟩
  walk_at "m"
  refine ⟨by omega, by omega, by rw [sizeLine_eq]; omega, ?_⟩
  rw [Int.toNat_natCast, rep_one]
  refine for_rng (t.length : Int) (-1) t.length (fun Q hQ => ?_) (fun i e st => ∃ j, e = [some (.p (.tuple (t.map nI))), some (.c s.length), j] ∧ st = s ++ [.lst (((upTo (· + ·) t (List.replicate (t.length + 1) 1) i).map PyData.int).map SV.p)]) ⟨_, rfl, ?_⟩ ?_ ?_
  · unfold wiR3
    walk_at "m"
    refine ⟨t, rfl, ?_⟩
    have e1 : (((t.length + 1 : Nat) : Int) - 1) = t.length := by omega
    walk_at "m"
    rw [e1]
    exact ⟨by omega, by simpa using hQ⟩
  · simp [upTo]
  · rintro i e st hi ⟨j, rfl, rfl⟩
    obtain ⟨p, hp⟩ : ∃ p, t.length = p + i + 1 := ⟨t.length - i - 1, by omega⟩
    have hz : ((t.length : Int) + (i : Nat) * (-1)) = (p : Int) + 1 := by omega
    have hz1 : ((p : Int) + 1 - 1) = (p : Int) := by omega
    rw [hz]
    have ht : t[p]? = some t[p] := List.getElem?_eq_getElem (by omega)
    have hv := T.le p _ ht
    have lu := upTo_len (· + ·) t (List.replicate (t.length + 1) 1) i
    rw [List.length_replicate] at lu
    have h1 := List.getElem?_eq_getElem (l := upTo (· + ·) t (List.replicate (t.length + 1) 1) i) (i := p + 1) (by omega)
    have h2 := List.getElem?_eq_getElem (l := upTo (· + ·) t (List.replicate (t.length + 1) 1) i) (i := t[p]) (by omega)
    walk_at "m"
    simp only [hz1, at_nat', List.getElem?_map, ht, Option.map_some, nI]
    walk_at "m"
    refine ⟨_, t[p], rfl, rfl, _, by rw [List.getElem?_map, List.getElem?_map, h2]; rfl, _, by rw [h1]; rfl, _, rfl, by omega, .inl ⟨_, rfl, ?_⟩⟩
    congr 3
    show _ = ((stepAt _ t (t.length - i) _).map PyData.int).map SV.p
    have e1 : t.length - i = p + 1 := by omega
    rw [e1]
    unfold stepAt
    simp only [Nat.add_sub_cancel, List.getD, ht, h1, h2, Option.getD_some, List.map_set]
  · rintro e st ⟨j, rfl, rfl⟩
    walk_at "m"
    exact ⟨Nat.le_refl _, w, .inl q⟩
theorem r_trees_heights (ds : List SV) (s : Store) (R : SV → Store → Prop) (w : Wf s) (h : S_trees_heights ds s R) : w_trees_heights (fnEnds s.length R) (startE 3 ds) s := by
  obtain ⟨t, rfl, T, q⟩ := h
  show w_trees_heights _ [some (.p (.tuple (t.map nI))), none, none] s
  unfold w_trees_heights w_trees_heights_L1
  walk_at "m"
  have hl := T.len
  refine ⟨by decide, t, rfl, ?_⟩
  walk_at "m"
  refine ⟨by omega, by omega, by rw [sizeLine_eq]; omega, ?_⟩
  rw [Int.toNat_natCast, rep_one]
  refine for_rng (t.length : Int) (-1) t.length (fun Q hQ => ?_) (fun i e st => ∃ j, e = [some (.p (.tuple (t.map nI))), some (.c s.length), j] ∧ st = s ++ [.lst (((upTo hg t (List.replicate (t.length + 1) 1) i).map PyData.int).map SV.p)]) ⟨_, rfl, ?_⟩ ?_ ?_
  · unfold wiR3
    walk_at "m"
    refine ⟨t, rfl, ?_⟩
    have e1 : (((t.length + 1 : Nat) : Int) - 1) = t.length := by omega
    walk_at "m"
    rw [e1]
    exact ⟨by omega, by simpa using hQ⟩
  · simp [upTo]
  · rintro i e st hi ⟨j, rfl, rfl⟩
    obtain ⟨p, hp⟩ : ∃ p, t.length = p + i + 1 := ⟨t.length - i - 1, by omega⟩
    have hz : ((t.length : Int) + (i : Nat) * (-1)) = (p : Int) + 1 := by omega
    have hz1 : ((p : Int) + 1 - 1) = (p : Int) := by omega
    rw [hz]
    have ht : t[p]? = some t[p] := List.getElem?_eq_getElem (by omega)
    have hv := T.le p _ ht
    have lu := upTo_len hg t (List.replicate (t.length + 1) 1) i
    rw [List.length_replicate] at lu
    have h1 := List.getElem?_eq_getElem (l := upTo hg t (List.replicate (t.length + 1) 1) i) (i := p + 1) (by omega)
    have h2 := List.getElem?_eq_getElem (l := upTo hg t (List.replicate (t.length + 1) 1) i) (i := t[p]) (by omega)
    walk_at "m"
    simp only [hz1, at_nat', List.getElem?_map, ht, Option.map_some, nI]
    walk_at "m"
    simp only [h1, h2, Option.map_some]
    walk_at "m"
    refine ⟨_, ix_nat (by omega), .inl ⟨_, rfl, ?_⟩⟩
    congr 3
    show _ = ((stepAt _ t (t.length - i) _).map PyData.int).map SV.p
    have e1 : t.length - i = p + 1 := by omega
    rw [e1]
    unfold stepAt
    simp only [Nat.add_sub_cancel, List.getD, ht, h1, h2, Option.getD_some, List.map_set, hg]
  · rintro e st ⟨j, rfl, rfl⟩
    walk_at "m"
    exact ⟨Nat.le_refl _, w, .inl q⟩
def S_trees_beneath : MSp := fun ds st R => ∃ t p, ds = [.p (tv t), .p (nI p)] ∧ Tr t ∧ p < t.length + 1 ∧ R (.p (.int (siz t p))) st
def S_trees_height : MSp := fun ds st R => ∃ t p, ds = [.p (tv t), .p (nI p)] ∧ Tr t ∧ p < t.length + 1 ∧ R (.p (.int ((heightsF t).getD p 0))) st
def w_trees_beneath : WS :=
    (wSeq (wDrop (wCall S_trees_need_place (aCons (wVar 0) (aCons (wVar 1) aNil))))
    (wRet (wOp mIx (wCall S_trees_counts (aCons (wVar 0) aNil)) (wVar 1))))
def w_trees_height : WS :=
    (wSeq (wDrop (wCall S_trees_need_place (aCons (wVar 0) (aCons (wVar 1) aNil))))
    (wRet (wOp mIx (wCall S_trees_heights (aCons (wVar 0) aNil)) (wVar 1))))
theorem r_trees_beneath (ds : List SV) (s : Store) (R : SV → Store → Prop) (w : Wf s) (h : S_trees_beneath ds s R) : w_trees_beneath (fnEnds s.length R) (startE 2 ds) s := by
  obtain ⟨t, p, rfl, T, hp, q⟩ := h
  show w_trees_beneath _ [some (.p (tv t)), some (.p (.int (p : Nat)))] s
  unfold w_trees_beneath
  walk_at "m"
  refine ⟨t, p, rfl, hp, t, rfl, T, ?_⟩
  simp only [iL]
  walk_at "m"
  refine ⟨.p (.int (siz t p)), ?_, .inl q⟩
  unfold siz
  rw [List.getD, List.getElem?_eq_getElem (by rw [sizesF_len]; exact hp)]; rfl
theorem r_trees_height (ds : List SV) (s : Store) (R : SV → Store → Prop) (w : Wf s) (h : S_trees_height ds s R) : w_trees_height (fnEnds s.length R) (startE 2 ds) s := by
  obtain ⟨t, p, rfl, T, hp, q⟩ := h
  show w_trees_height _ [some (.p (tv t)), some (.p (.int (p : Nat)))] s
  unfold w_trees_height
  walk_at "m"
  refine ⟨t, p, rfl, hp, t, rfl, T, ?_⟩
  simp only [iL]
  walk_at "m"
  refine ⟨.p (.int ((heightsF t).getD p 0)), ?_, .inl q⟩
  rw [List.getD, List.getElem?_eq_getElem (by rw [heightsF_len]; exact hp)]; rfl
end M

namespace M
open PySem PySem.Spec PyProof.Rows L2
local macro_rules | `(tactic| walk_at "m") => `(tactic| simp (maxSteps := 2000000) (implicitDefEqProofs := false) only [v_0, v_s, e_c, e_op, e_test, e_and, e_or, e_not, e_andv, e_orv, e_notv, e_ife, e_chain, e_anil, e_acons, e_cb, e_call, e_tup, e_lst, e_lstc, e_sl, e_onone, e_osome, e_mt, e_isi, e_neg, e_rd, s_augs, e_lrg, e_lrgc, e_callx, e_orx, e_isx, e_isxt, e_place, s_raisep, s_raiset, s_try, s_frzv, isNone_x, x_ex, x_pl, xis_pp, xis_pt, xis_pm, xis_pl, xis_V, xis_R, xis_tt, xis_tp, xis_tm, xis_tl, xis_mm, xis_mp, xis_mt, xis_ml, xis_ll, xis_lp, xis_lt, xis_lm, List.any_cons, List.any_nil, in_errs0, in_errs1, in_errs2, in_errs3, m_in, m_notin, m_isb, m_notb,
  s_seq, s_next, s_break, s_cont, s_never, s_drop, s_ret, s_retn, s_if, s_asg, s_par, s_retf, s_retf2, wipeE, List.append_assoc, List.cons_append, List.nil_append, g_nm, g_snil, g_scons, g_tp, g_sb, m_int, m_sub, m_lt, m_le, m_gt, m_ge, m_mod, m_div, m_pow, m_add, m_addt, m_addl, m_adds, m_mul, m_mulc, m_isn, m_notn, m_eq, m_ne, p_p,
  q_t, q_l, q_tt, l_l, t_t, t_tt, m_ixt, m_ixl, m_ixtt, m_lent, m_lenl, m_lentt, m_max2, m_min2, m_intb, m_listt, m_listl, m_tuplel, m_app, m_setl, sl_t, sl_r, sl_l, isNone, tyName, isB, mkTup, allP, allP_map, Option.map_some, map_p_inj,
  q_cc, l_cc, p_cc, ty_cc, m_ixcc, m_lencc, m_tuplecc, m_listcc, asL_l, Option.bind_some, mkTup_p, st_at, st_setk, st_at0, st_set0, st_take, st_atS, st_setS, st_atS0, st_setS0, st_takeS, List.length_set, List.set_set, ix40, ix41, ix42, ix43, Nat.reduceAdd, Nat.zero_add, at_nat', at_succ, at_0, at_1, at_2, at_3, at_4, at_m1, eqv_int, eqv_bool, sh_int, sh_bool, sh_none, fnEnds, wYes, gNm,
  List.getElem?_cons_zero, List.getElem?_cons_succ, List.set_cons_zero, List.set_cons_succ, List.getElem?_map, List.length_map, List.length_cons, List.length_nil, List.length_append, List.map_cons, List.map_nil,
  Option.some.injEq, SV.p.injEq, SV.c.injEq, PyData.int.injEq, PyData.bool.injEq, exists_eq_left', exists_eq_left, exists_eq_right, exists_eq', exists_eq, exists_and_left, true_and, and_true, true_or, or_true, MO.lst.injEq, Bool.not_true, Bool.not_false, if_true, if_false, Bool.false_eq_true, ↓reduceIte, beq_self_eq_true, String.reduceBEq, Bool.or_false, Bool.false_or, Bool.and_false, Bool.false_and, Bool.or_true, Bool.true_or, decide_eq_true_eq, beq_iff_eq, Bool.not_eq_true])
local macro_rules | `(tactic| walk_at "mh") => `(tactic| simp (maxSteps := 2000000) (implicitDefEqProofs := false) only [v_0, v_s, e_c, e_op, e_test, e_and, e_or, e_not, e_andv, e_orv, e_notv, e_ife, e_chain, e_anil, e_acons, e_cb, e_call, e_tup, e_lst, e_lstc, e_sl, e_onone, e_osome, e_mt, e_isi, e_neg, e_rd, s_augs, e_lrg, e_lrgc, e_callx, e_orx, e_isx, e_isxt, e_place, s_raisep, s_raiset, s_try, s_frzv, isNone_x, x_ex, x_pl, xis_pp, xis_pt, xis_pm, xis_pl, xis_V, xis_R, xis_tt, xis_tp, xis_tm, xis_tl, xis_mm, xis_mp, xis_mt, xis_ml, xis_ll, xis_lp, xis_lt, xis_lm, List.any_cons, List.any_nil, in_errs0, in_errs1, in_errs2, in_errs3, m_in, m_notin, m_isb, m_notb,
  s_seq, s_next, s_break, s_cont, s_never, s_drop, s_ret, s_retn, s_if, s_asg, s_par, s_retf, s_retf2, wipeE, List.append_assoc, List.cons_append, List.nil_append, g_nm, g_snil, g_scons, g_tp, g_sb, m_int, m_sub, m_lt, m_le, m_gt, m_ge, m_mod, m_div, m_pow, m_add, m_addt, m_addl, m_adds, m_mul, m_mulc, m_isn, m_notn, m_eq, m_ne, p_p,
  q_t, q_l, q_tt, l_l, t_t, t_tt, m_ixt, m_ixl, m_ixtt, m_lent, m_lenl, m_lentt, m_max2, m_min2, m_intb, m_listt, m_listl, m_tuplel, m_app, m_setl, sl_t, sl_r, sl_l, isNone, tyName, isB, mkTup, allP, allP_map, Option.map_some, map_p_inj,
  q_cc, l_cc, p_cc, ty_cc, m_ixcc, m_lencc, m_tuplecc, m_listcc, asL_l, Option.bind_some, mkTup_p, st_at, st_setk, st_at0, st_set0, st_take, st_atS, st_setS, st_atS0, st_setS0, st_takeS, List.length_set, List.set_set, ix40, ix41, ix42, ix43, Nat.reduceAdd, Nat.zero_add, at_nat', at_succ, at_0, at_1, at_2, at_3, at_4, at_m1, eqv_int, eqv_bool, sh_int, sh_bool, sh_none, fnEnds, wYes, gNm,
  List.getElem?_cons_zero, List.getElem?_cons_succ, List.set_cons_zero, List.set_cons_succ, List.getElem?_map, List.length_map, List.length_cons, List.length_nil, List.length_append, List.map_cons, List.map_nil,
  Option.some.injEq, SV.p.injEq, SV.c.injEq, PyData.int.injEq, PyData.bool.injEq, exists_eq_left', exists_eq_left, exists_eq_right, exists_eq', exists_eq, exists_and_left, true_and, and_true, true_or, or_true, MO.lst.injEq, Bool.not_true, Bool.not_false, if_true, if_false, Bool.false_eq_true, ↓reduceIte, beq_self_eq_true, String.reduceBEq, Bool.or_false, Bool.false_or, Bool.and_false, Bool.false_and, Bool.or_true, Bool.true_or, decide_eq_true_eq, beq_iff_eq, Bool.not_eq_true, tp_at0, tp_at, tp_set, Option.map_none, Option.some.injEq, *])
theorem sum_set : ∀ (l : List Int) (u : Nat) (x : Int), u < l.length → (l.set u x).sum = l.sum + x - l.getD u 0
  | [], _, _, h => by simp at h
  | y :: l, 0, x, _ => by simp; omega
  | y :: l, u + 1, x, h => by
    have := sum_set l u x (by simpa using h)
    rw [List.set_cons_succ, List.sum_cons, List.sum_cons, this]
    have e : (y :: l).getD (u + 1) 0 = l.getD u 0 := rfl
    rw [e]; omega
theorem take_sum (l : List Int) (p : Nat) (h : p < l.length) : (l.take (p + 1)).sum = (l.take p).sum + l.getD p 0 := by
  have e : l[p]? = some (l.getD p 0) := by rw [List.getD, List.getElem?_eq_getElem h]; rfl
  rw [List.take_add_one, e, List.sum_append]
  simp
theorem siz_all {t : List Nat} (T : Tr t) : ∀ i, i ≤ t.length → ((upTo (· + ·) t (List.replicate (t.length + 1) 1) i).take (t.length + 1 - i)).sum = (t.length : Int) + 1
  | 0, _ => by
    show ((List.replicate (t.length + 1) (1 : Int)).take (t.length + 1)).sum = _
    rw [List.take_of_length_le (by simp)]
    have : ∀ n : Nat, (List.replicate n (1 : Int)).sum = n := fun n => by
      induction n with
      | zero => rfl
      | succ n ih => rw [List.replicate_succ, List.sum_cons, ih]; omega
    rw [this]; omega
  | i + 1, h => by
    have ih := siz_all T i (by omega)
    have lu := upTo_len (· + ·) t (List.replicate (t.length + 1) 1) i
    rw [List.length_replicate] at lu
    rw [← ih]
    generalize hl : upTo (· + ·) t (List.replicate (t.length + 1) 1) i = l at lu
    have e1 : upTo (· + ·) t (List.replicate (t.length + 1) 1) (i + 1) = stepAt (· + ·) t (t.length - i) l := by rw [← hl]; rfl
    rw [e1]
    unfold stepAt
    have lp := par_lt T (p := t.length - i) (by omega) (by omega)
    have e2 : t.getD (t.length - i - 1) 0 = par t (t.length - i) := rfl
    rw [e2, show t.length + 1 - (i + 1) = t.length - i by omega, show t.length + 1 - i = t.length - i + 1 by omega, List.take_set, sum_set _ _ _ (by rw [List.length_take]; omega), take_sum _ _ (by omega)]
    have e3 : (l.take (t.length - i)).getD (par t (t.length - i)) 0 = l.getD (par t (t.length - i)) 0 := by
      rw [List.getD, List.getElem?_take, if_pos lp]; rfl
    rw [e3]
    have e4 : ∀ a b : Int, (fun x1 x2 : Int => x1 + x2) a b = a + b := fun _ _ => rfl
    rw [e4]
    omega
theorem siz_root {t : List Nat} (T : Tr t) : siz t 0 = (t.length : Int) + 1 := by
  have := siz_all T t.length (Nat.le_refl _)
  rw [show t.length + 1 - t.length = 0 + 1 by omega, take_sum _ _ (by rw [upTo_len]; simp)] at this
  simp only [List.take_zero, List.sum_nil, Int.zero_add] at this
  exact this
def halves (d : Nat) : List Nat := (List.range (2 ^ (d + 1) - 2)).map fun k => k / 2
theorem halves_len : ∀ d < 7, (halves d).length < 200 := by decide +kernel
theorem halves_tr {d : Nat} (h : d < 7) : Tr (halves d) := ⟨halves_len d h, fun i v hv => by
  unfold halves at hv
  rw [List.getElem?_map] at hv
  by_cases hi : i < 2 ^ (d + 1) - 2
  · rw [List.getElem?_range hi] at hv
    cases hv
    exact Nat.div_le_self _ _
  · rw [List.getElem?_eq_none (by simpa using hi)] at hv
    cases hv⟩
def chL (t : List Nat) (c : List (Option Nat)) : Nat → List Nat
  | 0 => [0]
  | i + 1 => chL t c i ++ [(chL t c i).getD (par t (i + 1)) 0 + if c.getD (par t (i + 1)) none = some (i + 1) then 0 else 1]
theorem chL_eq {t : List Nat} (T : Tr t) (c : List (Option Nat)) : ∀ i, i ≤ t.length → chL t c i = (List.range (i + 1)).map (chg t c)
  | 0, _ => by simp [chL, chg_0]
  | i + 1, h => by
    have lp := par_lt T (p := i + 1) (by omega) (by omega)
    rw [chL, chL_eq T c i (by omega), List.range_succ (n := i + 1), List.map_append, List.map_cons, List.map_nil, chg_s T c (p := i + 1) (by omega) (by omega)]
    congr 2
    rw [List.getD, List.getElem?_map, List.getElem?_range lp]; rfl
def topL (l : List Nat) : Nat := l.foldl max 0
theorem foldl_max (f : Nat → Nat) : ∀ n, ((List.range n).map f).foldl max 0 = topN f n
  | 0 => rfl
  | n + 1 => by rw [List.range_succ, List.map_append, List.foldl_append, foldl_max f n]; rfl
theorem mxc_eq {t : List Nat} (T : Tr t) (c : List (Option Nat)) : mxc t c = topL (chL t c t.length) := by
  rw [chL_eq T c _ (Nat.le_refl _)]
  exact (foldl_max _ _).symm
theorem halves_top : ∀ d < 7, topL (chL (halves d) (ogF (halves d) (sizesF (halves d))) (halves d).length) = d := by decide +kernel
theorem halves_mxc {d : Nat} (h : d < 7) : mxc (halves d) (ogF (halves d) (sizesF (halves d))) = d := by
  rw [mxc_eq (halves_tr h)]; exact halves_top d h
def S_halves_k22 : MSp := fun ds st R => ∃ d, ds = [.p (.int (d : Nat))] ∧ d < 7 ∧ R (.p (tv (halves d))) st
def w_halves_k22_L1 : WS := wFor (wiR1 (aCons (wVar 0) aNil)) (gNm 2)
    (wAsg (wOp mAdd (wOp mMul (wC (.p (.int 2))) (wVar 1)) (wC (.p (.int 1)))) (gNm 1))
def w_halves_k22 : WS :=
    (wSeq (wAsg (wC (.p (.int 1))) (gNm 1))
    (wSeq w_halves_k22_L1
    (wRet (wCB mTuple (aCons (wLc (wiR2 (aCons (wC (.p (.int 1))) (aCons (wVar 1) aNil))) (gNm 2) wYes (wOp mDiv (wOp mSub (wVar 2) (wC (.p (.int 1)))) (wC (.p (.int 2)))) [2]) aNil)))))
theorem r_halves_k22 (ds : List SV) (s : Store) (R : SV → Store → Prop) (w : Wf s) (h : S_halves_k22 ds s R) : w_halves_k22 (fnEnds s.length R) (startE 3 ds) s := by
  obtain ⟨d, rfl, hd, q⟩ := h
  show w_halves_k22 _ [some (.p (.int d)), none, none] s
  unfold w_halves_k22
  walk_at "m"
  unfold w_halves_k22_L1
  have hp : ∀ i : Nat, i ≤ d → (2 : Int) ^ (i + 1) ≤ 256 := fun i hi => by
    have h1 : (2 : Int) ^ (i + 1) = ((2 ^ (i + 1) : Nat) : Int) := by simp
    have h2 : 2 ^ (i + 1) ≤ 2 ^ 8 := Nat.pow_le_pow_right (by decide) (by omega)
    rw [h1]; omega
  refine for_rng 0 1 d (fun Q hQ => ?_) (fun i e st => ∃ a, e = [some (.p (.int d)), some (.p (.int (2 ^ (i + 1) - 1))), a] ∧ st = s) ⟨_, rfl, rfl⟩ ?_ ?_
  · unfold wiR1
    walk_at "m"
    rw [Int.toNat_natCast]
    exact ⟨by omega, by omega, hQ⟩
  · rintro i e st hi ⟨a, rfl, rfl⟩
    walk_at "m"
    have : (2 : Int) * (2 ^ (i + 1) - 1) + 1 = 2 ^ (i + 1 + 1) - 1 := by rw [Int.pow_succ (n := i + 1)]; omega
    rw [this]
    exact ⟨.inl (.inl ⟨by omega, by omega⟩), .inl ⟨_, rfl, rfl⟩⟩
  · rintro e st ⟨a, rfl, rfl⟩
    have h1 : (2 : Int) ^ (d + 1) = ((2 ^ (d + 1) : Nat) : Int) := by simp
    have h2 : 2 ^ (d + 1) ≤ 2 ^ 8 := Nat.pow_le_pow_right (by decide) (by omega)
    have h3 : 2 ^ 1 ≤ 2 ^ (d + 1) := Nat.pow_le_pow_right (by decide) (by omega)
    walk_at "m"
    have e1 : ((2 : Int) ^ (d + 1) - 1 - 1).toNat = 2 ^ (d + 1) - 2 := by omega
    refine lc_rng (st1 := st) 1 1 (2 ^ (d + 1) - 2) (fun i => some (nI (i / 2))) (fun Q hQ => ?_) (by rw [sizeLine_eq]; omega) (fun i acc Y Z hi hY hZ => ?_) w ?_
    · unfold wiR2
      walk_at "m"
      rw [e1]
      exact ⟨by omega, hQ⟩
    · walk_at "m"
      have e2 : ((1 : Int) + (i : Nat) * 1 - 1) / 2 = ((i / 2 : Nat) : Int) := by omega
      rw [e2]
      exact ⟨⟨by decide, by decide⟩, hY _ rfl⟩
    · rw [filterMap_map]
      walk_at "m"
      refine .inl ?_
      unfold halves at q
      rw [tv, List.map_map] at q
      exact q
theorem dbl_at {f : Nat → Int} : ∀ {l : List Nat} {i a b : Nat}, Dbl f l → l[i]? = some a → l[i + 1]? = some b → 2 * f a + 1 ≤ f b
  | [], _, _, _, _, h, _ => by simp at h
  | [x], i, a, b, _, _, h => by simp at h
  | x :: y :: l, 0, a, b, d, h1, h2 => by
    simp at h1 h2; subst h1; subst h2; exact d.1
  | x :: y :: l, i + 1, a, b, d, h1, h2 => dbl_at (l := y :: l) (i := i) d.2 (by simpa using h1) (by simpa using h2)
def w_law_k22_L1 : WS := wFor (wiZip (aCons (wVar 7) (aCons (wSl (wVar 7) (oSome (wC (.p (.int 1)))) oNone) aNil))) (gTp 2 (gsCons (gNm 8) (gsCons (gNm 9) gsNil)))
    (wIfS (wTest (wOp mLt (wOp mIx (wVar 9) (wC (.p (.int 2)))) (wOp mAdd (wOp mMul (wC (.p (.int 2))) (wOp mIx (wVar 8) (wC (.p (.int 2))))) (wC (.p (.int 1))))))
    (wRet (wC (.p (.bool false))))
    wNext)
def w_law_k22_L2 : WS := wFor (wiR1 (aCons (wOp mAdd (wCall S_cuts_changes (aCons (wVar 3) (aCons (wVar 4) (aCons (wVar 6) aNil)))) (wC (.p (.int 1)))) aNil)) (gNm 11)
    (wAsg (wOp mMul (wC (.p (.int 2))) (wVar 10)) (gNm 10))
def w_law_k22_L3 : WS := wFor (wiR1 (aCons (wCB mMin2 (aCons (wC (.p (.int 40))) (aCons (wOp mAdd (wCB mLen (aCons (wVar 3) aNil)) (wC (.p (.int 1)))) aNil))) aNil)) (gNm 5)
    (wSeq (wAsg (wVar 5) (gNm 6))
    (wSeq (wIfS (wTest (wOp mGt (wCB mLen (aCons (wVar 3) aNil)) (wC (.p (.int 39)))))
    (wAsg (wCall S_draw_k13 (aCons (wVar 1) (aCons (wOp mAdd (wCB mLen (aCons (wVar 3) aNil)) (wC (.p (.int 1)))) aNil))) (gNm 6))
    wNext)
    (wSeq (wAsg (wCall S_cuts_met (aCons (wVar 3) (aCons (wVar 4) (aCons (wVar 6) aNil)))) (gNm 7))
    (wSeq w_law_k22_L1
    (wSeq (wAsg (wC (.p (.int 1))) (gNm 10))
    (wSeq w_law_k22_L2
    (wIfS (wTest (wOp mGt (wOp mSub (wVar 10) (wC (.p (.int 1)))) (wOp mAdd (wCB mLen (aCons (wVar 3) aNil)) (wC (.p (.int 1))))))
    (wRet (wC (.p (.bool false))))
    wNext)))))))
def w_law_k22 : WS :=
    (wSeq (wAsg (wLstC (aCons (wCB mList (aCons (wSl (wVar 0) oNone (oSome (wC (.p (.int 63))))) aNil)) (aCons (wC (.p (.int 0))) (aCons (wC (.p (.int 0))) (aCons (wC (.p (.int 0))) aNil))))) (gNm 1))
    (wSeq (wAsg (wCall S_draw_k13 (aCons (wVar 1) (aCons (wC (.p (.int 21))) aNil))) (gNm 2))
    (wSeq (wAsg (wCall S_tree_k13 (aCons (wVar 1) (aCons (wOp mIx (wLst (aCons (wC (.p (.int 60))) (aCons (wC (.p (.int 60))) (aCons (wC (.p (.int 60))) (aCons (wC (.p (.int 200))) aNil))))) (wCall S_draw_k13 (aCons (wVar 1) (aCons (wC (.p (.int 4))) aNil)))) aNil))) (gNm 3))
    (wSeq (wIfS (wTest (wOp mLt (wVar 2) (wC (.p (.int 7)))))
    (wAsg (wCall S_halves_k22 (aCons (wVar 2) aNil)) (gNm 3))
    wNext)
    (wSeq (wAsg (wCall S_weights_by_weight (aCons (wVar 3) aNil)) (gNm 4))
    (wSeq w_law_k22_L3
    (wSeq (wIfS (wAnd (wTest (wOp mLt (wVar 2) (wC (.p (.int 7))))) (wTest (wOp mNe (wCall S_cuts_most_changes (aCons (wVar 3) (aCons (wVar 4) aNil))) (wVar 2))))
    (wRet (wC (.p (.bool false))))
    wNext)
    (wRet (wOp mEq (wCB mLen (aCons (wCall S_cuts_met (aCons (wVar 3) (aCons (wVar 4) (aCons (wC (.p (.int 0))) aNil)))) aNil)) (wC (.p (.int 1))))))))))))
def S0 (s : Store) (o : MO) : Store := s ++ [o]
def I_k22 (ns : List Int) (s : Store) (t : List Nat) (dp k0 : Nat) (i : Nat) (e : M.Env) (st : Store) : Prop := ∃ o a b c d f g h, Tape (k0 + i) o ∧ e = [some (.ro ns), some (.c s.length), some (.p (.int (dp : Nat))), some (.p (tv t)), some (.p (cv (ogF t (sizesF t)))), a, b, c, d, f, g, h] ∧ st = s ++ [o]
def k22_rest : WS := wSeq (wAsg (wCall S_cuts_met (aCons (wVar 3) (aCons (wVar 4) (aCons (wVar 6) aNil)))) (gNm 7))
          (wSeq w_law_k22_L1 (wSeq (wAsg (wC (.p (.int 1))) (gNm 10)) (wSeq w_law_k22_L2 (wIfS (wTest (wOp mGt (wOp mSub (wVar 10) (wC (.p (.int 1)))) (wOp mAdd (wCB mLen (aCons (wVar 3) aNil)) (wC (.p (.int 1))))))
            (wRet (wC (.p (.bool false)))) wNext))))
theorem k22_loop {ns : List Int} {s : Store} {t : List Nat} {dp k0 : Nat} {o : MO} (T : Tr t) (w : Wf s) (hk : k0 < 2 ^ 30) (Tp : Tape k0 o) (D : ME) (a b c d f g h : Option SV)
    (hD : ∀ o a b c d f g h, Tape (k0 + 40) o → D.nx [some (.ro ns), some (.c s.length), some (.p (.int (dp : Nat))), some (.p (tv t)), some (.p (cv (ogF t (sizesF t)))), a, b, c, d, f, g, h] (s ++ [o])) :
    w_law_k22_L3 D [some (.ro ns), some (.c s.length), some (.p (.int (dp : Nat))), some (.p (tv t)), some (.p (cv (ogF t (sizesF t)))), a, b, c, d, f, g, h] (s ++ [o]) := by
  have hl := T.len
  have C := ogF_ct (t := t) (sizesF t)
  unfold w_law_k22_L3
  refine for_rng 0 1 (min 40 (t.length + 1)) (fun Q hQ => ?_) (I_k22 ns s t dp k0) ⟨o, _, _, _, _, _, _, _, Tp, rfl, rfl⟩ ?_ ?_
  · unfold wiR1
    simp only [tv]
    walk_at "m"
    have e1 : (min (40 : Int) ((t.length : Int) + 1)).toNat = min 40 (t.length + 1) := by omega
    rw [e1]
    exact ⟨by omega, by omega, hQ⟩
  · rintro i e st hi ⟨o, a, b, c, d, f, g, h, Tp, rfl, rfl⟩
    -- what is asked of one place
    have go : ∀ (p : Nat) o2 b' (x : Int), x = (p : Nat) → p < t.length + 1 → Tape (k0 + (i + 1)) o2 →
        k22_rest
          { nx := Wk (s.length + 1) (I_k22 ns s t dp k0 (i + 1)), ct := Wk (s.length + 1) (I_k22 ns s t dp k0 (i + 1)), bk := D.nx, rt := D.rt, base := s.length + 1 }
          [some (.ro ns), some (.c s.length), some (.p (.int (dp : Nat))), some (.p (tv t)), some (.p (cv (ogF t (sizesF t)))), b', some (.p (.int x)), c, d, f, g, h] (s ++ [o2]) := fun p o2 b' x hx hp T2 => by
      subst hx
      unfold k22_rest
      obtain ⟨a0, l0, ht, ha, hdb⟩ := tops_dbl T p p (Nat.le_refl _) hp
      have hlen := tops_chg T (ogF t (sizesF t)) p p (Nat.le_refl _) hp
      have hlast := tops_last T (ogF t (sizesF t)) p p (Nat.le_refl _) hp
      have hpos : ∀ a ∈ tops t (ogF t (sizesF t)) p, 1 ≤ siz t a := fun a ha => siz_pos' T (road_in T hp (List.mem_filter.mp ha).1)
      rw [← ht] at hdb
      have hpow := dbl_pow _ _ hdb hpos hlast
      rw [siz_root T, hlen] at hpow
      walk_at "m"
      refine ⟨t, _, p, rfl, T, C.len, C.up T, hp, ?_⟩
      unfold w_law_k22_L1
      generalize htp : tops t (ogF t (sizesF t)) p = tp at hdb hlen
      refine for_zip (st1 := s ++ [o2]) (.p (.list (tp.map (metD t (ogF t (sizesF t)))))) (.p (.list ((tp.map (metD t (ogF t (sizesF t)))).drop 1))) _ _ (fun _ => rfl) (fun _ => rfl) (fun Q hQ => ?_)
        (fun j e st => ∃ d f, e = [some (.ro ns), some (.c s.length), some (.p (.int (dp : Nat))), some (.p (tv t)), some (.p (cv (ogF t (sizesF t)))), b', some (.p (.int p)), some (.p (.list (tp.map (metD t (ogF t (sizesF t)))))), d, f, g, h] ∧ st = s ++ [o2]) ⟨_, _, rfl, rfl⟩ ?_ ?_
      · walk_at "m"
        have := cut_from (tp.map (metD t (ogF t (sizesF t)))) 1
        rw [Int.natCast_one] at this
        rw [this]
        exact hQ
      · rintro j x y e st hx hy ⟨d, f, rfl, rfl⟩
        rw [List.getElem?_drop, List.getElem?_map] at hy
        rw [List.getElem?_map] at hx
        cases hja : tp[j]? with
        | none => rw [hja] at hx; cases hx
        | some a =>
          cases hjb : tp[1 + j]? with
          | none => rw [hjb] at hy; cases hy
          | some b =>
            rw [hja] at hx; rw [hjb] at hy
            cases hx; cases hy
            have := dbl_at hdb hja (by rw [Nat.add_comm]; exact hjb)
            simp only [metD]
            walk_at "m"
            refine ⟨.inl (.inl ⟨by omega, by omega⟩), ?_⟩
            refine ite2 (fun h => ?_) (fun h => .inl ⟨_, _, rfl, rfl⟩)
            unfold siz at this
            omega
      · rintro e st ⟨d, f, rfl, rfl⟩
        walk_at "m"
        unfold w_law_k22_L2
        refine for_rng 0 1 (chg t (ogF t (sizesF t)) p + 1) (fun Q hQ => ?_) (fun j e st => ∃ h, e = [some (.ro ns), some (.c s.length), some (.p (.int (dp : Nat))), some (.p (tv t)), some (.p (cv (ogF t (sizesF t)))), b', some (.p (.int p)), some (.p (.list (tp.map (metD t (ogF t (sizesF t)))))), d, f, some (.p (.int (2 ^ j))), h] ∧ st = s ++ [o2]) ⟨_, rfl, rfl⟩ ?_ ?_
        · unfold wiR1
          walk_at "m"
          refine ⟨t, _, p, rfl, T, C.len, hp, ?_⟩
          walk_at "m"
          have hcl : chg t (ogF t (sizesF t)) p ≤ 200 := by
            have := road_len T p p (Nat.le_refl _) hp
            have h2 : (tops t (ogF t (sizesF t)) p).length ≤ (road t p).length := List.length_filter_le _ _
            rw [htp] at h2
            omega
          have e1 : ((chg t (ogF t (sizesF t)) p : Int) + 1).toNat = chg t (ogF t (sizesF t)) p + 1 := by omega
          rw [e1]
          exact ⟨by omega, by omega, hQ⟩
        · rintro j e st hj ⟨h, rfl, rfl⟩
          walk_at "m"
          have e5 : (2 : Int) * 2 ^ j = 2 ^ (j + 1) := by rw [Int.pow_succ, Int.mul_comm]
          rw [e5]
          exact ⟨.inl (.inl ⟨by omega, by omega⟩), .inl ⟨_, rfl, rfl⟩⟩
        · rintro e st ⟨h, rfl, rfl⟩
          simp only [tv]
          walk_at "m"
          refine ite2 (fun h => ?_) (fun h => .inl ?_)
          · omega
          · exact ⟨o2, _, _, _, _, _, _, _, T2, rfl, rfl⟩
    have hz : (0 : Int) + (i : Nat) * 1 = (i : Nat) := by omega
    rw [hz]
    simp only [tv]
    show gNm 5 _ _ _ fun e' s' => wSeq (wAsg (wVar 5) (gNm 6)) (wSeq (wIfS _ _ _) k22_rest) _ e' s'
    walk_at "m"
    refine ite2 (fun h39 => ?_) (fun h39 => ?_)
    · refine draw_use st_last Tp (by omega) (by omega) (by omega) fun r o2 hr T2 => ?_
      rw [st_set]
      exact go r o2 (some (.p (.int (i : Nat)))) (r : Nat) rfl (by omega) T2
    · exact go i o (some (.p (.int (i : Nat)))) (i : Nat) rfl (by omega) (Tp.up (by omega))
  · rintro e st ⟨o, a, b, c, d, f, g, h, Tp, rfl, rfl⟩
    exact hD o a b c d f g h (Tp.up (by omega))
end M

namespace M
open PySem PySem.Spec PyProof.Rows L2
local macro_rules | `(tactic| walk_at "m") => `(tactic| simp (maxSteps := 2000000) (implicitDefEqProofs := false) only [v_0, v_s, e_c, e_op, e_test, e_and, e_or, e_not, e_andv, e_orv, e_notv, e_ife, e_chain, e_anil, e_acons, e_cb, e_call, e_tup, e_lst, e_lstc, e_sl, e_onone, e_osome, e_mt, e_isi, e_neg, e_rd, s_augs, e_lrg, e_lrgc, e_callx, e_orx, e_isx, e_isxt, e_place, s_raisep, s_raiset, s_try, s_frzv, isNone_x, x_ex, x_pl, xis_pp, xis_pt, xis_pm, xis_pl, xis_V, xis_R, xis_tt, xis_tp, xis_tm, xis_tl, xis_mm, xis_mp, xis_mt, xis_ml, xis_ll, xis_lp, xis_lt, xis_lm, List.any_cons, List.any_nil, in_errs0, in_errs1, in_errs2, in_errs3, m_in, m_notin, m_isb, m_notb,
  s_seq, s_next, s_break, s_cont, s_never, s_drop, s_ret, s_retn, s_if, s_asg, s_par, s_retf, s_retf2, wipeE, List.append_assoc, List.cons_append, List.nil_append, g_nm, g_snil, g_scons, g_tp, g_sb, m_int, m_sub, m_lt, m_le, m_gt, m_ge, m_mod, m_div, m_pow, m_add, m_addt, m_addl, m_adds, m_mul, m_mulc, m_isn, m_notn, m_eq, m_ne, p_p,
  q_t, q_l, q_tt, l_l, t_t, t_tt, m_ixt, m_ixl, m_ixtt, m_lent, m_lenl, m_lentt, m_max2, m_min2, m_intb, m_listt, m_listl, m_tuplel, m_app, m_setl, sl_t, sl_r, sl_l, isNone, tyName, isB, mkTup, allP, allP_map, Option.map_some, map_p_inj,
  q_cc, l_cc, p_cc, ty_cc, m_ixcc, m_lencc, m_tuplecc, m_listcc, asL_l, Option.bind_some, mkTup_p, st_at, st_setk, st_at0, st_set0, st_take, st_atS, st_setS, st_atS0, st_setS0, st_takeS, List.length_set, List.set_set, ix40, ix41, ix42, ix43, Nat.reduceAdd, Nat.zero_add, at_nat', at_succ, at_0, at_1, at_2, at_3, at_4, at_m1, eqv_int, eqv_bool, sh_int, sh_bool, sh_none, fnEnds, wYes, gNm,
  List.getElem?_cons_zero, List.getElem?_cons_succ, List.set_cons_zero, List.set_cons_succ, List.getElem?_map, List.length_map, List.length_cons, List.length_nil, List.length_append, List.map_cons, List.map_nil,
  Option.some.injEq, SV.p.injEq, SV.c.injEq, PyData.int.injEq, PyData.bool.injEq, exists_eq_left', exists_eq_left, exists_eq_right, exists_eq', exists_eq, exists_and_left, true_and, and_true, true_or, or_true, MO.lst.injEq, Bool.not_true, Bool.not_false, if_true, if_false, Bool.false_eq_true, ↓reduceIte, beq_self_eq_true, String.reduceBEq, Bool.or_false, Bool.false_or, Bool.and_false, Bool.false_and, Bool.or_true, Bool.true_or, decide_eq_true_eq, beq_iff_eq, Bool.not_eq_true])
local macro_rules | `(tactic| walk_at "mh") => `(tactic| simp (maxSteps := 2000000) (implicitDefEqProofs := false) only [v_0, v_s, e_c, e_op, e_test, e_and, e_or, e_not, e_andv, e_orv, e_notv, e_ife, e_chain, e_anil, e_acons, e_cb, e_call, e_tup, e_lst, e_lstc, e_sl, e_onone, e_osome, e_mt, e_isi, e_neg, e_rd, s_augs, e_lrg, e_lrgc, e_callx, e_orx, e_isx, e_isxt, e_place, s_raisep, s_raiset, s_try, s_frzv, isNone_x, x_ex, x_pl, xis_pp, xis_pt, xis_pm, xis_pl, xis_V, xis_R, xis_tt, xis_tp, xis_tm, xis_tl, xis_mm, xis_mp, xis_mt, xis_ml, xis_ll, xis_lp, xis_lt, xis_lm, List.any_cons, List.any_nil, in_errs0, in_errs1, in_errs2, in_errs3, m_in, m_notin, m_isb, m_notb,
  s_seq, s_next, s_break, s_cont, s_never, s_drop, s_ret, s_retn, s_if, s_asg, s_par, s_retf, s_retf2, wipeE, List.append_assoc, List.cons_append, List.nil_append, g_nm, g_snil, g_scons, g_tp, g_sb, m_int, m_sub, m_lt, m_le, m_gt, m_ge, m_mod, m_div, m_pow, m_add, m_addt, m_addl, m_adds, m_mul, m_mulc, m_isn, m_notn, m_eq, m_ne, p_p,
  q_t, q_l, q_tt, l_l, t_t, t_tt, m_ixt, m_ixl, m_ixtt, m_lent, m_lenl, m_lentt, m_max2, m_min2, m_intb, m_listt, m_listl, m_tuplel, m_app, m_setl, sl_t, sl_r, sl_l, isNone, tyName, isB, mkTup, allP, allP_map, Option.map_some, map_p_inj,
  q_cc, l_cc, p_cc, ty_cc, m_ixcc, m_lencc, m_tuplecc, m_listcc, asL_l, Option.bind_some, mkTup_p, st_at, st_setk, st_at0, st_set0, st_take, st_atS, st_setS, st_atS0, st_setS0, st_takeS, List.length_set, List.set_set, ix40, ix41, ix42, ix43, Nat.reduceAdd, Nat.zero_add, at_nat', at_succ, at_0, at_1, at_2, at_3, at_4, at_m1, eqv_int, eqv_bool, sh_int, sh_bool, sh_none, fnEnds, wYes, gNm,
  List.getElem?_cons_zero, List.getElem?_cons_succ, List.set_cons_zero, List.set_cons_succ, List.getElem?_map, List.length_map, List.length_cons, List.length_nil, List.length_append, List.map_cons, List.map_nil,
  Option.some.injEq, SV.p.injEq, SV.c.injEq, PyData.int.injEq, PyData.bool.injEq, exists_eq_left', exists_eq_left, exists_eq_right, exists_eq', exists_eq, exists_and_left, true_and, and_true, true_or, or_true, MO.lst.injEq, Bool.not_true, Bool.not_false, if_true, if_false, Bool.false_eq_true, ↓reduceIte, beq_self_eq_true, String.reduceBEq, Bool.or_false, Bool.false_or, Bool.and_false, Bool.false_and, Bool.or_true, Bool.true_or, decide_eq_true_eq, beq_iff_eq, Bool.not_eq_true, tp_at0, tp_at, tp_set, Option.map_none, Option.some.injEq, *])
def hei (t : List Nat) (v : Nat) : Int := (heightsF t).getD v 0
theorem hei_fold {t : List Nat} (T : Tr t) {v : Nat} (hv : v < t.length + 1) : hei t v = (kids t v).foldr (fun k acc => max acc (hei t k + 1)) 1 := by
  have := upTo_fold (g := hg) (l0 := List.replicate (t.length + 1) 1) T (by simp) hv
  rw [rep_get hv] at this
  exact this
theorem fmax_ge (f : Nat → Int) : ∀ l : List Nat, 1 ≤ l.foldr (fun k acc => max acc (f k + 1)) 1 ∧ ∀ k ∈ l, f k + 1 ≤ l.foldr (fun k acc => max acc (f k + 1)) 1
  | [] => ⟨Int.le_refl _, fun _ h => by simp at h⟩
  | x :: l => by
    obtain ⟨h1, h2⟩ := fmax_ge f l
    refine ⟨?_, fun k hk => ?_⟩
    · rw [List.foldr_cons]; omega
    · rw [List.foldr_cons]
      rcases List.mem_cons.mp hk with e | hk
      · rw [e]; omega
      · have := h2 k hk; omega
theorem fmax_le (f : Nat → Int) (b : Int) : ∀ l : List Nat, 1 ≤ b → (∀ k ∈ l, f k + 1 ≤ b) → l.foldr (fun k acc => max acc (f k + 1)) 1 ≤ b
  | [], h, _ => h
  | x :: l, h, hk => by
    have := fmax_le f b l h fun k hm => hk k (List.mem_cons_of_mem _ hm)
    have := hk x List.mem_cons_self
    rw [List.foldr_cons]; omega
theorem hei_pos {t : List Nat} (T : Tr t) {v : Nat} (hv : v < t.length + 1) : 1 ≤ hei t v := by
  rw [hei_fold T hv]; exact (fmax_ge _ _).1
theorem hei_kid {t : List Nat} (T : Tr t) {v k : Nat} (hv : v < t.length + 1) (h : k ∈ kids t v) : hei t k + 1 ≤ hei t v := by
  rw [hei_fold T hv]; exact (fmax_ge _ _).2 k h
theorem hei_leaf {t : List Nat} (T : Tr t) {v : Nat} (hv : v < t.length + 1) (h : kids t v = []) : hei t v = 1 := by
  rw [hei_fold T hv, h]; rfl
theorem hei_top {t : List Nat} (T : Tr t) {v q : Nat} (hv : v < t.length + 1) (h : q ∈ kids t v) (hm : ∀ k ∈ kids t v, hei t k ≤ hei t q) : hei t v = hei t q + 1 := by
  have h1 := hei_kid T hv h
  have h2 : hei t v ≤ hei t q + 1 := by
    rw [hei_fold T hv]
    refine fmax_le _ _ _ ?_ fun k hk => by have := hm k hk; omega
    have := hei_pos T (kids_gt T h).2
    omega
  omega
theorem siz_kid {t : List Nat} (T : Tr t) {v k : Nat} (hv : v < t.length + 1) (h : k ∈ kids t v) : siz t k + 1 ≤ siz t v := by
  obtain ⟨h1, h2⟩ := kids_mem.mp h
  have hl := (List.getElem?_eq_some_iff.mp h2).1
  have e : par t k = v := by
    obtain ⟨q, rfl⟩ : ∃ q, k = q + 1 := ⟨k - 1, by omega⟩
    rw [Nat.add_sub_cancel] at h2 hl
    have := par_get hl
    rw [h2] at this
    exact (Option.some.inj this).symm
  have := siz_par T h1 (by omega)
  rw [e] at this
  omega
theorem hei_siz {t : List Nat} (T : Tr t) : ∀ (m v : Nat), t.length - v ≤ m → v < t.length + 1 → hei t v ≤ siz t v
  | m, v, h, hv => by
    obtain ⟨o, h1, h3⟩ := ogF_fm T (heightsF t) hv
    cases o with
    | none =>
      have h3 : kids t v = [] := h3
      rw [hei_leaf T hv h3]
      exact siz_pos' T hv
    | some q =>
      obtain ⟨a1, a2, _⟩ := h3
      have hq := kids_gt T a1
      rw [hei_top T hv a1 a2]
      have := siz_kid T hv a1
      cases m with
      | zero => omega
      | succ m =>
        have := hei_siz T m q (by omega) hq.2
        omega
theorem hei_siz' {t : List Nat} (T : Tr t) {v : Nat} (hv : v < t.length + 1) : hei t v ≤ siz t v := hei_siz T _ v (Nat.le_refl _) hv
theorem way_hei {t : List Nat} (T : Tr t) : ∀ (m v : Nat), t.length - v ≤ m → v < t.length + 1 → ((way (ogF t (heightsF t)) v).length : Int) = hei t v
  | m, v, h, hv => by
    obtain ⟨o, h1, h3⟩ := ogF_fm T (heightsF t) hv
    have U := (ogF_ct (t := t) (heightsF t)).up T
    cases o with
    | none =>
      rw [way_none h1, hei_leaf T hv h3]; rfl
    | some q =>
      obtain ⟨a1, a2, _⟩ := h3
      have hq := kids_gt T a1
      rw [way_some U h1, hei_top T hv a1 a2, List.length_cons]
      cases m with
      | zero => omega
      | succ m =>
        have := way_hei T m q (by omega) hq.2
        omega
theorem way_hei' {t : List Nat} (T : Tr t) {v : Nat} (hv : v < t.length + 1) : ((way (ogF t (heightsF t)) v).length : Int) = hei t v := way_hei T _ v (Nat.le_refl _) hv
def Inc (f : Nat → Int) : List Nat → Prop
  | [] => True
  | [_] => True
  | a :: b :: l => f a < f b ∧ Inc f (b :: l)
theorem tops_inc {t : List Nat} (T : Tr t) : ∀ (n p : Nat) (k : Int), p ≤ n → p < t.length + 1 → hei t p + k ≤ siz t p → ∃ a l, tops t (ogF t (heightsF t)) p = a :: l ∧ hei t p ≤ hei t a ∧ Inc (hei t) (a :: l) ∧ k + ((a :: l).map (hei t)).sum ≤ (t.length : Int) + 1
  | n, 0, k, _, _, hk => by
    rw [siz_root T] at hk
    exact ⟨0, [], tops_0 _ _, Int.le_refl _, trivial, by simp; omega⟩
  | 0, p + 1, k, h, _, _ => by omega
  | n + 1, p + 1, k, h, h2, hk => by
    have lp := par_lt T (p := p + 1) (by omega) (by omega)
    have hpv : par t (p + 1) < t.length + 1 := by omega
    have kid := par_kid (t := t) (p := p + 1) (by omega) (by omega)
    have sk := siz_kid T hpv kid
    obtain ⟨o, h1, h3⟩ := ogF_fm T (heightsF t) hpv
    have hg : (ogF t (heightsF t)).getD (par t (p + 1)) none = o := by rw [List.getD, h1]; rfl
    rw [tops_s T _ (by omega) (by omega), hg]
    cases o with
    | none =>
      have h3 : kids t (par t (p + 1)) = [] := h3
      rw [h3] at kid; simp at kid
    | some q =>
      obtain ⟨a1, a2, _⟩ := h3
      have ht := hei_top T hpv a1 a2
      by_cases e : q = p + 1
      · subst e
        rw [if_pos rfl]
        obtain ⟨a, l, e1, e2, e3, e4⟩ := tops_inc T n (par t (p + 1)) k (by omega) hpv (by omega)
        exact ⟨a, l, e1, by omega, e3, e4⟩
      · rw [if_neg (fun h => e (Option.some.inj h))]
        have h2s := sum_two (f := siz t) (show p + 1 ≠ q from fun h => e h.symm) kid a1 fun k hk => by
          have := siz_pos' T (kids_gt T hk).2
          omega
        have h4 : hei t (p + 1) ≤ hei t q := a2 _ kid
        have h5 := hei_siz' T (kids_gt T a1).2
        have h6 := siz_sum T hpv
        obtain ⟨a, l, e1, e2, e3, e4⟩ := tops_inc T n (par t (p + 1)) (k + hei t (p + 1)) (by omega) hpv (by omega)
        refine ⟨p + 1, a :: l, by rw [e1], Int.le_refl _, ⟨by omega, e3⟩, ?_⟩
        rw [List.map_cons, List.sum_cons]
        omega
theorem inc_at {f : Nat → Int} : ∀ {l : List Nat} {i a b : Nat}, Inc f l → l[i]? = some a → l[i + 1]? = some b → f a < f b
  | [], _, _, _, _, h, _ => by simp at h
  | [x], i, a, b, _, _, h => by simp at h
  | x :: y :: l, 0, a, b, d, h1, h2 => by
    simp at h1 h2; subst h1; subst h2; exact d.1
  | x :: y :: l, i + 1, a, b, d, h1, h2 => inc_at (l := y :: l) (i := i) d.2 (by simpa using h1) (by simpa using h2)
def gs (s : Nat) : Nat → Nat
  | 0 => 0
  | m + 1 => s + gs (s + 1) m
theorem inc_sum {f : Nat → Int} : ∀ (l : List Nat) (s : Nat), Inc f l → (∀ a ∈ l.head?, (s : Int) ≤ f a) → (gs s l.length : Int) ≤ (l.map f).sum
  | [], s, _, _ => by simp [gs]
  | [a], s, _, h => by
    have := h a (by simp)
    simp [gs]; omega
  | a :: b :: l, s, d, h => by
    have h1 := h a (by simp)
    have := inc_sum (b :: l) (s + 1) d.2 (fun c hc => by simp at hc; subst hc; have := d.1; omega)
    rw [List.map_cons, List.sum_cons]
    show ((s + gs (s + 1) (b :: l).length : Nat) : Int) ≤ _
    omega
theorem gs_sq : ∀ m < 201, m * (m + 1) ≤ 2 * gs 1 m := by decide +kernel
theorem met_sq {t : List Nat} (T : Tr t) {p : Nat} (hp : p < t.length + 1) : (tops t (ogF t (heightsF t)) p).length * ((tops t (ogF t (heightsF t)) p).length + 1) ≤ 2 * (t.length + 1) := by
  obtain ⟨a, l, e1, e2, e3, e4⟩ := tops_inc T p p 0 (Nat.le_refl _) hp (by have := hei_siz' T hp; omega)
  have hl : (tops t (ogF t (heightsF t)) p).length ≤ (road t p).length := List.length_filter_le _ _
  have hr := road_len T p p (Nat.le_refl _) hp
  have := T.len
  have hq := gs_sq (tops t (ogF t (heightsF t)) p).length (by omega)
  rw [e1] at hq ⊢
  have h1 := inc_sum (f := hei t) (a :: l) 1 e3 (fun c hc => by simp at hc; subst hc; have := hei_pos T hp; omega)
  omega
end M

namespace M
open PySem PySem.Spec PyProof.Rows L2
local macro_rules | `(tactic| walk_at "m") => `(tactic| simp (maxSteps := 2000000) (implicitDefEqProofs := false) only [v_0, v_s, e_c, e_op, e_test, e_and, e_or, e_not, e_andv, e_orv, e_notv, e_ife, e_chain, e_anil, e_acons, e_cb, e_call, e_tup, e_lst, e_lstc, e_sl, e_onone, e_osome, e_mt, e_isi, e_neg, e_rd, s_augs, e_lrg, e_lrgc, e_callx, e_orx, e_isx, e_isxt, e_place, s_raisep, s_raiset, s_try, s_frzv, isNone_x, x_ex, x_pl, xis_pp, xis_pt, xis_pm, xis_pl, xis_V, xis_R, xis_tt, xis_tp, xis_tm, xis_tl, xis_mm, xis_mp, xis_mt, xis_ml, xis_ll, xis_lp, xis_lt, xis_lm, List.any_cons, List.any_nil, in_errs0, in_errs1, in_errs2, in_errs3, m_in, m_notin, m_isb, m_notb,
  s_seq, s_next, s_break, s_cont, s_never, s_drop, s_ret, s_retn, s_if, s_asg, s_par, s_retf, s_retf2, wipeE, List.append_assoc, List.cons_append, List.nil_append, g_nm, g_snil, g_scons, g_tp, g_sb, m_int, m_sub, m_lt, m_le, m_gt, m_ge, m_mod, m_div, m_pow, m_add, m_addt, m_addl, m_adds, m_mul, m_mulc, m_isn, m_notn, m_eq, m_ne, p_p,
  q_t, q_l, q_tt, l_l, t_t, t_tt, m_ixt, m_ixl, m_ixtt, m_lent, m_lenl, m_lentt, m_max2, m_min2, m_intb, m_listt, m_listl, m_tuplel, m_app, m_setl, sl_t, sl_r, sl_l, isNone, tyName, isB, mkTup, allP, allP_map, Option.map_some, map_p_inj,
  q_cc, l_cc, p_cc, ty_cc, m_ixcc, m_lencc, m_tuplecc, m_listcc, asL_l, Option.bind_some, mkTup_p, st_at, st_setk, st_at0, st_set0, st_take, st_atS, st_setS, st_atS0, st_setS0, st_takeS, List.length_set, List.set_set, ix40, ix41, ix42, ix43, Nat.reduceAdd, Nat.zero_add, at_nat', at_succ, at_0, at_1, at_2, at_3, at_4, at_m1, eqv_int, eqv_bool, sh_int, sh_bool, sh_none, fnEnds, wYes, gNm,
  List.getElem?_cons_zero, List.getElem?_cons_succ, List.set_cons_zero, List.set_cons_succ, List.getElem?_map, List.length_map, List.length_cons, List.length_nil, List.length_append, List.map_cons, List.map_nil,
  Option.some.injEq, SV.p.injEq, SV.c.injEq, PyData.int.injEq, PyData.bool.injEq, exists_eq_left', exists_eq_left, exists_eq_right, exists_eq', exists_eq, exists_and_left, true_and, and_true, true_or, or_true, MO.lst.injEq, Bool.not_true, Bool.not_false, if_true, if_false, Bool.false_eq_true, ↓reduceIte, beq_self_eq_true, String.reduceBEq, Bool.or_false, Bool.false_or, Bool.and_false, Bool.false_and, Bool.or_true, Bool.true_or, decide_eq_true_eq, beq_iff_eq, Bool.not_eq_true])
local macro_rules | `(tactic| walk_at "mh") => `(tactic| simp (maxSteps := 2000000) (implicitDefEqProofs := false) only [v_0, v_s, e_c, e_op, e_test, e_and, e_or, e_not, e_andv, e_orv, e_notv, e_ife, e_chain, e_anil, e_acons, e_cb, e_call, e_tup, e_lst, e_lstc, e_sl, e_onone, e_osome, e_mt, e_isi, e_neg, e_rd, s_augs, e_lrg, e_lrgc, e_callx, e_orx, e_isx, e_isxt, e_place, s_raisep, s_raiset, s_try, s_frzv, isNone_x, x_ex, x_pl, xis_pp, xis_pt, xis_pm, xis_pl, xis_V, xis_R, xis_tt, xis_tp, xis_tm, xis_tl, xis_mm, xis_mp, xis_mt, xis_ml, xis_ll, xis_lp, xis_lt, xis_lm, List.any_cons, List.any_nil, in_errs0, in_errs1, in_errs2, in_errs3, m_in, m_notin, m_isb, m_notb,
  s_seq, s_next, s_break, s_cont, s_never, s_drop, s_ret, s_retn, s_if, s_asg, s_par, s_retf, s_retf2, wipeE, List.append_assoc, List.cons_append, List.nil_append, g_nm, g_snil, g_scons, g_tp, g_sb, m_int, m_sub, m_lt, m_le, m_gt, m_ge, m_mod, m_div, m_pow, m_add, m_addt, m_addl, m_adds, m_mul, m_mulc, m_isn, m_notn, m_eq, m_ne, p_p,
  q_t, q_l, q_tt, l_l, t_t, t_tt, m_ixt, m_ixl, m_ixtt, m_lent, m_lenl, m_lentt, m_max2, m_min2, m_intb, m_listt, m_listl, m_tuplel, m_app, m_setl, sl_t, sl_r, sl_l, isNone, tyName, isB, mkTup, allP, allP_map, Option.map_some, map_p_inj,
  q_cc, l_cc, p_cc, ty_cc, m_ixcc, m_lencc, m_tuplecc, m_listcc, asL_l, Option.bind_some, mkTup_p, st_at, st_setk, st_at0, st_set0, st_take, st_atS, st_setS, st_atS0, st_setS0, st_takeS, List.length_set, List.set_set, ix40, ix41, ix42, ix43, Nat.reduceAdd, Nat.zero_add, at_nat', at_succ, at_0, at_1, at_2, at_3, at_4, at_m1, eqv_int, eqv_bool, sh_int, sh_bool, sh_none, fnEnds, wYes, gNm,
  List.getElem?_cons_zero, List.getElem?_cons_succ, List.set_cons_zero, List.set_cons_succ, List.getElem?_map, List.length_map, List.length_cons, List.length_nil, List.length_append, List.map_cons, List.map_nil,
  Option.some.injEq, SV.p.injEq, SV.c.injEq, PyData.int.injEq, PyData.bool.injEq, exists_eq_left', exists_eq_left, exists_eq_right, exists_eq', exists_eq, exists_and_left, true_and, and_true, true_or, or_true, MO.lst.injEq, Bool.not_true, Bool.not_false, if_true, if_false, Bool.false_eq_true, ↓reduceIte, beq_self_eq_true, String.reduceBEq, Bool.or_false, Bool.false_or, Bool.and_false, Bool.false_and, Bool.or_true, Bool.true_or, decide_eq_true_eq, beq_iff_eq, Bool.not_eq_true, tp_at0, tp_at, tp_set, Option.map_none, Option.some.injEq, *])
def updF (C : Nat → Int) (v : Nat) (x : Int) : Nat → Int := fun u => if u = v then x else C u
theorem updF_same (C : Nat → Int) (v : Nat) (x : Int) : updF C v x v = x := if_pos rfl
def cel (C H : Nat → Int) (m : Nat) : List MO := (List.range m).map fun v => .lst [.p (.int (C v)), .p (.int (H v))]
theorem cel_get {C H : Nat → Int} {m v : Nat} (h : v < m) : (cel C H m)[v]? = some (.lst [.p (.int (C v)), .p (.int (H v))]) := by
  unfold cel
  rw [List.getElem?_map, List.getElem?_range h]; rfl
theorem cel_set {C H : Nat → Int} {m v : Nat} {x y : Int} (h : v < m) : (cel C H m).set v (.lst [.p (.int x), .p (.int y)]) = cel (updF C v x) (updF H v y) m := by
  refine List.ext_getElem? fun j => ?_
  by_cases hj : j < m
  · rw [cel_get hj]
    by_cases e : v = j
    · subst e
      rw [List.getElem?_set_self (by simpa [cel] using h), updF_same, updF_same]
    · rw [List.getElem?_set_ne e, cel_get hj]
      unfold updF
      rw [if_neg (fun h => e h.symm), if_neg (fun h => e h.symm)]
  · rw [List.getElem?_eq_none (by simp [cel]; omega), List.getElem?_eq_none (by simp [cel]; omega)]
section
variable {s : Store} {C H : Nat → Int} {m a : Nat} {Q : SV → Store → Prop} {P : Store → Prop}
theorem ix_out (h : a < m) {l : List MO} : mIx (.c s.length) (.p (.int (a : Nat))) (s ++ outs s.length m :: l) Q = Q (.c (s.length + 1 + a)) (s ++ outs s.length m :: l) := by
  have e : (s ++ outs s.length m :: l)[s.length]? = some (.lst ((List.range m).map fun i => SV.c (s.length + 1 + i))) := outs_at
  rw [m_ixc _ e, at_nat', List.getElem?_map, List.getElem?_range h]
  simp
theorem ix_in0 (h : a < m) : mIx (.c (s.length + 1 + a)) (.p (.int 0)) (s ++ outs s.length m :: cel C H m) Q = Q (.p (.int (C a))) (s ++ outs s.length m :: cel C H m) := by
  have e := in_at (s := s) (m := m) (v := a) (l := cel C H m)
  rw [cel_get h] at e
  rw [m_ixc _ e, at_0]
  simp
theorem ix_in1 (h : a < m) : mIx (.c (s.length + 1 + a)) (.p (.int 1)) (s ++ outs s.length m :: cel C H m) Q = Q (.p (.int (H a))) (s ++ outs s.length m :: cel C H m) := by
  have e := in_at (s := s) (m := m) (v := a) (l := cel C H m)
  rw [cel_get h] at e
  rw [m_ixc _ e, at_1]
  simp
theorem updF_id (C : Nat → Int) (v : Nat) : updF C v (C v) = C := by
  funext u
  unfold updF
  split
  · next h => rw [h]
  · rfl
theorem set_in0 (h : a < m) {x : Int} (p : P (s ++ outs s.length m :: cel (updF C a x) H m)) : mSetL (.c (s.length + 1 + a)) (.p (.int 0)) (.p (.int x)) (s ++ outs s.length m :: cel C H m) P := by
  have e := in_at (s := s) (m := m) (v := a) (l := cel C H m)
  rw [cel_get h] at e
  refine ⟨_, _, 0, 0, rfl, rfl, e, rfl, ?_⟩
  have : [SV.p (.int (C a)), SV.p (.int (H a))].set 0 (.p (.int x)) = [.p (.int x), .p (.int (H a))] := rfl
  rw [this, in_set, cel_set h, updF_id]
  exact p
theorem set_in1 (h : a < m) {x : Int} (p : P (s ++ outs s.length m :: cel C (updF H a x) m)) : mSetL (.c (s.length + 1 + a)) (.p (.int 1)) (.p (.int x)) (s ++ outs s.length m :: cel C H m) P := by
  have e := in_at (s := s) (m := m) (v := a) (l := cel C H m)
  rw [cel_get h] at e
  refine ⟨_, _, 1, 1, rfl, rfl, e, rfl, ?_⟩
  have : [SV.p (.int (C a)), SV.p (.int (H a))].set 1 (.p (.int x)) = [.p (.int (C a)), .p (.int x)] := rfl
  rw [this, in_set, cel_set h, updF_id]
  exact p
end
def CF (t : List Nat) (i j v : Nat) : Int := (((List.range i).map fun p => (road t p).count v).sum + ((road t i).take j).count v : Nat)
def HP (t : List Nat) (H : Nat → Int) (i j : Nat) : Prop := ∀ v : Nat, (∀ p x : Nat, (p < i ∨ (p = i ∧ x < j)) → (road t p)[x]? = some v → (x : Int) + 1 ≤ H v) ∧ (H v = 0 ∨ ∃ p x : Nat, p < t.length + 1 ∧ (road t p)[x]? = some v ∧ H v = (x : Int) + 1)
theorem CF_step {t : List Nat} {i j a : Nat} (h : (road t i)[j]? = some a) : updF (CF t i j) a (CF t i j a + 1) = CF t i (j + 1) := by
  funext v
  unfold updF CF
  rw [List.take_add_one, h, List.count_append]
  by_cases e : v = a
  · subst e
    rw [if_pos rfl]; simp; omega
  · rw [if_neg e]
    have : List.count v (some a).toList = 0 := by
      simp [List.count_cons, Ne.symm e]
    rw [this]; omega
theorem CF_next (t : List Nat) (i : Nat) : CF t i (road t i).length = CF t (i + 1) 0 := by
  funext v
  unfold CF
  rw [List.range_succ, List.map_append, List.sum_append, List.take_length]
  simp
theorem HP_step {t : List Nat} {H : Nat → Int} {i j a : Nat} (hi : i < t.length + 1) (hp : HP t H i j) (h : (road t i)[j]? = some a) : HP t (updF H a (max (H a) ((j : Int) + 1))) i (j + 1) := fun v => by
  obtain ⟨h1, h2⟩ := hp v
  unfold updF
  by_cases e : v = a
  · subst e
    rw [if_pos rfl]
    refine ⟨fun p x hx hr => ?_, ?_⟩
    · by_cases e2 : p = i ∧ x = j
      · omega
      · have := h1 p x (by omega) hr
        omega
    · by_cases hm : H v ≤ (j : Int) + 1
      · exact .inr ⟨i, j, hi, h, by omega⟩
      · rcases h2 with h2 | ⟨p, x, q1, q2, q3⟩
        · omega
        · exact .inr ⟨p, x, q1, q2, by omega⟩
  · rw [if_neg e]
    refine ⟨fun p x hx hr => ?_, h2⟩
    by_cases e2 : p = i ∧ x = j
    · obtain ⟨rfl, rfl⟩ := e2
      rw [hr] at h
      exact absurd (Option.some.inj h) e
    · exact h1 p x (by omega) hr
theorem HP_next {t : List Nat} {H : Nat → Int} {i : Nat} (hp : HP t H i (road t i).length) : HP t H (i + 1) 0 := fun v => by
  obtain ⟨h1, h2⟩ := hp v
  refine ⟨fun p x hx hr => h1 p x ?_ hr, h2⟩
  by_cases e : p = i
  · subst e
    exact .inr ⟨rfl, (List.getElem?_eq_some_iff.mp hr).1⟩
  · exact .inl (by omega)
theorem road_nodup {t : List Nat} (T : Tr t) : ∀ (n p : Nat), p ≤ n → p < t.length + 1 → ∀ v, (road t p).count v ≤ 1
  | n, 0, _, _, v => by rw [road_0]; simp [List.count_cons]; split <;> omega
  | 0, p + 1, h, _, _ => by omega
  | n + 1, p + 1, h, h2, v => by
    have lp := par_lt T (p := p + 1) (by omega) (by omega)
    rw [road_s T (by omega) (by omega), List.count_cons]
    have ih := road_nodup T n (par t (p + 1)) (by omega) (by omega) v
    by_cases e : v = p + 1
    · subst e
      have : (road t (par t (p + 1))).count (p + 1) = 0 := by
        rw [List.count_eq_zero]
        intro hm
        have := road_le T _ _ (Nat.le_refl _) (by omega) _ hm
        omega
      rw [this]; split <;> omega
    · rw [if_neg (by simpa using Ne.symm e)]; omega
theorem sum_z : ∀ {l : List Nat}, (∀ x ∈ l, x = 0) → l.sum = 0
  | [], _ => rfl
  | x :: l, h => by
    rw [List.sum_cons, h x List.mem_cons_self, sum_z fun y hy => h y (List.mem_cons_of_mem _ hy)]
theorem kidsUp_count (t : List Nat) (v q : Nat) : ∀ i, (kidsUp t i v).count q ≤ 1 ∧ (i < q → (kidsUp t i v).count q = 0)
  | 0 => ⟨by simp [kidsUp], fun _ => by simp [kidsUp]⟩
  | i + 1 => by
    obtain ⟨h1, h2⟩ := kidsUp_count t v q i
    rw [kidsUp_succ, List.count_append]
    by_cases e : q = i + 1
    · have := h2 (by omega)
      refine ⟨?_, fun h => absurd h (by omega)⟩
      split
      · simp only [List.count_cons, List.count_nil]; split <;> omega
      · simp; omega
    · have z : (if t[i]? = some v then [i + 1] else []).count q = 0 := by
        split
        · simp [List.count_cons]; omega
        · simp
      rw [z]
      exact ⟨by omega, fun h => by have := h2 (by omega); omega⟩
theorem kids_once {t : List Nat} {v q : Nat} (h : q ∈ kids t v) : (kids t v).count q = 1 := by
  have h1 := (kidsUp_count t v q t.length).1
  have h2 : 0 < (kids t v).count q := List.count_pos_iff.mpr h
  unfold kids at h2 ⊢
  omega
theorem count_kids {t : List Nat} (T : Tr t) {v : Nat} (hv : v < t.length + 1) : ∀ (n p : Nat), p ≤ n → p < t.length + 1 → (road t p).count v = (if p = v then 1 else 0) + ((kids t v).map fun k => (road t p).count k).sum
  | n, 0, _, _ => by
    have hz : ((kids t v).map fun k => (road t 0).count k).sum = 0 := by
      refine sum_z fun x hx => ?_
      obtain ⟨k, hk, rfl⟩ := List.mem_map.mp hx
      have := (kids_gt T hk).1
      rw [road_0, List.count_eq_zero]
      simp; omega
    rw [hz, road_0]
    by_cases e : v = 0
    · subst e; simp
    · rw [if_neg (fun h => e h.symm), List.count_eq_zero.mpr (by simpa using e)]
  | 0, p + 1, h, _ => by omega
  | n + 1, p + 1, h, h2 => by
    have lp := par_lt T (p := p + 1) (by omega) (by omega)
    have ih := count_kids T hv n (par t (p + 1)) (by omega) (by omega)
    have e1 : ∀ u, (road t (p + 1)).count u = (if p + 1 = u then 1 else 0) + (road t (par t (p + 1))).count u := fun u => by
      rw [road_s T (by omega) (by omega), List.count_cons]
      by_cases e : p + 1 = u
      · simp [e]; omega
      · simp [e]
    have e2 : ((kids t v).map fun k => (road t (p + 1)).count k).sum = (if par t (p + 1) = v then 1 else 0) + ((kids t v).map fun k => (road t (par t (p + 1))).count k).sum := by
      have e3 : ∀ l : List Nat, (l.map fun k => (road t (p + 1)).count k).sum = l.count (p + 1) + (l.map fun k => (road t (par t (p + 1))).count k).sum := fun l => by
        induction l with
        | nil => rfl
        | cons x l ih =>
          rw [List.map_cons, List.sum_cons, ih, e1 x, List.count_cons, List.map_cons, List.sum_cons]
          by_cases e : x = p + 1
          · simp [e]; omega
          · rw [if_neg (fun h => e h.symm), if_neg (by simpa using e)]; omega
      rw [e3]
      congr 1
      by_cases e : par t (p + 1) = v
      · rw [if_pos e]
        have hm : p + 1 ∈ kids t v := by rw [← e]; exact par_kid (by omega) (by omega)
        exact kids_once hm
      · rw [if_neg e, List.count_eq_zero]
        intro hm
        obtain ⟨h1, h3⟩ := kids_mem.mp hm
        rw [Nat.add_sub_cancel, par_get (by omega)] at h3
        exact e (Option.some.inj h3)
    rw [e1 v, ih, e2]
theorem sum_swap (f : Nat → Nat → Nat) : ∀ (ps ks : List Nat), (ps.map fun p => (ks.map fun k => f p k).sum).sum = (ks.map fun k => (ps.map fun p => f p k).sum).sum
  | [], ks => by
    symm
    refine sum_z fun x hx => ?_
    obtain ⟨k, _, rfl⟩ := List.mem_map.mp hx
    rfl
  | p :: ps, ks => by
    rw [List.map_cons, List.sum_cons, sum_swap f ps ks]
    induction ks with
    | nil => rfl
    | cons k ks ih =>
      simp only [List.map_cons, List.sum_cons] at ih ⊢
      omega
theorem one_sum (v : Nat) : ∀ n, v < n → ((List.range n).map fun p => if p = v then 1 else 0).sum = 1
  | 0, h => by omega
  | n + 1, h => by
    rw [List.range_succ, List.map_append, List.sum_append]
    by_cases e : n = v
    · have z : ((List.range n).map fun p => if p = v then 1 else 0).sum = 0 := sum_z fun x hx => by
        obtain ⟨k, hk, rfl⟩ := List.mem_map.mp hx
        rw [if_neg]
        have := List.mem_range.mp hk
        omega
      rw [z]; simp [e]
    · rw [one_sum v n (by omega)]; simp [e]
theorem sum_add (f g : Nat → Nat) : ∀ l : List Nat, (l.map fun p => f p + g p).sum = (l.map f).sum + (l.map g).sum
  | [] => rfl
  | x :: l => by
    simp only [List.map_cons, List.sum_cons, sum_add f g l]; omega
theorem cast_sum (f : Nat → Nat) : ∀ l : List Nat, (((l.map f).sum : Nat) : Int) = (l.map fun k => (f k : Int)).sum
  | [] => rfl
  | x :: l => by
    simp only [List.map_cons, List.sum_cons, ← cast_sum f l]; omega
def cnt (t : List Nat) (v : Nat) : Nat := ((List.range (t.length + 1)).map fun p => (road t p).count v).sum
theorem cnt_siz {t : List Nat} (T : Tr t) : ∀ (m v : Nat), t.length - v ≤ m → v < t.length + 1 → (cnt t v : Int) = siz t v
  | m, v, h, hv => by
    have e1 : cnt t v = 1 + ((kids t v).map (cnt t)).sum := by
      unfold cnt
      have e2 : ((List.range (t.length + 1)).map fun p => (road t p).count v) = (List.range (t.length + 1)).map fun p => (if p = v then 1 else 0) + ((kids t v).map fun k => (road t p).count k).sum :=
        List.map_congr_left fun p hp => count_kids T hv p p (Nat.le_refl _) (List.mem_range.mp hp)
      rw [e2, sum_add, one_sum v _ hv, sum_swap (fun p k => (road t p).count k)]
    rw [e1, siz_sum T hv]
    have e3 : ((kids t v).map fun k => (cnt t k : Int)) = (kids t v).map (siz t) := List.map_congr_left fun k hk => by
      have := kids_gt T hk
      cases m with
      | zero => omega
      | succ m => exact cnt_siz T m k (by omega) this.2
    have := cast_sum (cnt t) (kids t v)
    rw [e3] at this
    omega
theorem cnt_siz' {t : List Nat} (T : Tr t) {v : Nat} (hv : v < t.length + 1) : (cnt t v : Int) = siz t v := cnt_siz T _ v (Nat.le_refl _) hv
theorem road_hei {t : List Nat} (T : Tr t) : ∀ (n p x v : Nat), p ≤ n → p < t.length + 1 → ∀ b : Int, hei t p ≥ b → (road t p)[x]? = some v → (x : Int) + b ≤ hei t v
  | n, 0, x, v, _, _, b, hb, h => by
    rw [road_0] at h
    cases x with
    | zero => simp at h; subst h; simpa using hb
    | succ x => simp at h
  | 0, p + 1, x, v, h, _, _, _, _ => by omega
  | n + 1, p + 1, x, v, h, h2, b, hb, hr => by
    have lp := par_lt T (p := p + 1) (by omega) (by omega)
    rw [road_s T (by omega) (by omega)] at hr
    cases x with
    | zero => simp at hr; subst hr; simpa using hb
    | succ x =>
      have hk := hei_kid T (v := par t (p + 1)) (by omega) (par_kid (t := t) (p := p + 1) (by omega) (by omega))
      have := road_hei T n (par t (p + 1)) x v (by omega) (by omega) (b + 1) (by omega) (by simpa using hr)
      omega
theorem road_next {t : List Nat} (T : Tr t) : ∀ (n p x q : Nat), p ≤ n → p < t.length + 1 → (road t p)[x]? = some q → 1 ≤ q → (road t p)[x + 1]? = some (par t q)
  | n, 0, x, q, _, _, h, hq => by
    rw [road_0] at h
    cases x with
    | zero => simp at h; omega
    | succ x => simp at h
  | 0, p + 1, x, q, h, _, _, _ => by omega
  | n + 1, p + 1, x, q, h, h2, hr, hq => by
    have lp := par_lt T (p := p + 1) (by omega) (by omega)
    rw [road_s T (by omega) (by omega)] at hr ⊢
    cases x with
    | zero =>
      simp at hr; subst hr
      rw [List.getElem?_cons_succ]
      rw [road]; split
      · next h => rw [h]; rfl
      · rfl
    | succ x =>
      rw [List.getElem?_cons_succ]
      exact road_next T n (par t (p + 1)) x q (by omega) (by omega) (by simpa using hr) hq
theorem hei_road {t : List Nat} (T : Tr t) : ∀ (m v : Nat), t.length - v ≤ m → v < t.length + 1 → ∃ p x : Nat, p < t.length + 1 ∧ (road t p)[x]? = some v ∧ (road t p)[x]? = some v ∧ hei t v = (x : Int) + 1
  | m, v, h, hv => by
    obtain ⟨o, h1, h3⟩ := ogF_fm T (heightsF t) hv
    cases o with
    | none =>
      refine ⟨v, 0, hv, ?_, ?_, by rw [hei_leaf T hv h3]; rfl⟩
      all_goals
        rw [road]; split
        · next h => rw [h]; rfl
        · rfl
    | some q =>
      obtain ⟨a1, a2, _⟩ := h3
      have hq := kids_gt T a1
      cases m with
      | zero => omega
      | succ m =>
        obtain ⟨p, x, p1, p2, _, p4⟩ := hei_road T m q (by omega) hq.2
        have nx := road_next T p p x q (Nat.le_refl _) p1 p2 (by omega)
        obtain ⟨k1, k2⟩ := kids_mem.mp a1
        have hpar : par t q = v := by
          obtain ⟨r, rfl⟩ : ∃ r, q = r + 1 := ⟨q - 1, by omega⟩
          rw [Nat.add_sub_cancel] at k2
          rw [par_get (List.getElem?_eq_some_iff.mp k2).1] at k2
          exact Option.some.inj k2
        rw [hpar] at nx
        exact ⟨p, x + 1, p1, nx, nx, by rw [hei_top T hv a1 a2, p4]; omega⟩
theorem HP_end {t : List Nat} (T : Tr t) {H : Nat → Int} (hp : HP t H (t.length + 1) 0) {v : Nat} (hv : v < t.length + 1) : H v = hei t v := by
  obtain ⟨h1, h2⟩ := hp v
  obtain ⟨p, x, p1, p2, _, p4⟩ := hei_road T _ v (Nat.le_refl _) hv
  have := h1 p x (.inl p1) p2
  rcases h2 with h2 | ⟨q, y, q1, q2, q3⟩
  · omega
  · have := road_hei T q q y v (Nat.le_refl _) q1 1 (hei_pos T q1) q2
    omega
end M

namespace M
open PySem PySem.Spec PyProof.Rows L2
local macro_rules | `(tactic| walk_at "m") => `(tactic| simp (maxSteps := 2000000) (implicitDefEqProofs := false) only [v_0, v_s, e_c, e_op, e_test, e_and, e_or, e_not, e_andv, e_orv, e_notv, e_ife, e_chain, e_anil, e_acons, e_cb, e_call, e_tup, e_lst, e_lstc, e_sl, e_onone, e_osome, e_mt, e_isi, e_neg, e_rd, s_augs, e_lrg, e_lrgc, e_callx, e_orx, e_isx, e_isxt, e_place, s_raisep, s_raiset, s_try, s_frzv, isNone_x, x_ex, x_pl, xis_pp, xis_pt, xis_pm, xis_pl, xis_V, xis_R, xis_tt, xis_tp, xis_tm, xis_tl, xis_mm, xis_mp, xis_mt, xis_ml, xis_ll, xis_lp, xis_lt, xis_lm, List.any_cons, List.any_nil, in_errs0, in_errs1, in_errs2, in_errs3, m_in, m_notin, m_isb, m_notb,
  s_seq, s_next, s_break, s_cont, s_never, s_drop, s_ret, s_retn, s_if, s_asg, s_par, s_retf, s_retf2, wipeE, List.append_assoc, List.cons_append, List.nil_append, g_nm, g_snil, g_scons, g_tp, g_sb, m_int, m_sub, m_lt, m_le, m_gt, m_ge, m_mod, m_div, m_pow, m_add, m_addt, m_addl, m_adds, m_mul, m_mulc, m_isn, m_notn, m_eq, m_ne, p_p,
  q_t, q_l, q_tt, l_l, t_t, t_tt, m_ixt, m_ixl, m_ixtt, m_lent, m_lenl, m_lentt, m_max2, m_min2, m_intb, m_listt, m_listl, m_tuplel, m_app, m_setl, sl_t, sl_r, sl_l, isNone, tyName, isB, mkTup, allP, allP_map, Option.map_some, map_p_inj,
  q_cc, l_cc, p_cc, ty_cc, m_ixcc, m_lencc, m_tuplecc, m_listcc, asL_l, Option.bind_some, mkTup_p, st_at, st_setk, st_at0, st_set0, st_take, st_atS, st_setS, st_atS0, st_setS0, st_takeS, List.length_set, List.set_set, ix40, ix41, ix42, ix43, Nat.reduceAdd, Nat.zero_add, at_nat', at_succ, at_0, at_1, at_2, at_3, at_4, at_m1, eqv_int, eqv_bool, sh_int, sh_bool, sh_none, fnEnds, wYes, gNm,
  List.getElem?_cons_zero, List.getElem?_cons_succ, List.set_cons_zero, List.set_cons_succ, List.getElem?_map, List.length_map, List.length_cons, List.length_nil, List.length_append, List.map_cons, List.map_nil,
  Option.some.injEq, SV.p.injEq, SV.c.injEq, PyData.int.injEq, PyData.bool.injEq, exists_eq_left', exists_eq_left, exists_eq_right, exists_eq', exists_eq, exists_and_left, true_and, and_true, true_or, or_true, MO.lst.injEq, Bool.not_true, Bool.not_false, if_true, if_false, Bool.false_eq_true, ↓reduceIte, beq_self_eq_true, String.reduceBEq, Bool.or_false, Bool.false_or, Bool.and_false, Bool.false_and, Bool.or_true, Bool.true_or, decide_eq_true_eq, beq_iff_eq, Bool.not_eq_true])
local macro_rules | `(tactic| walk_at "mh") => `(tactic| simp (maxSteps := 2000000) (implicitDefEqProofs := false) only [v_0, v_s, e_c, e_op, e_test, e_and, e_or, e_not, e_andv, e_orv, e_notv, e_ife, e_chain, e_anil, e_acons, e_cb, e_call, e_tup, e_lst, e_lstc, e_sl, e_onone, e_osome, e_mt, e_isi, e_neg, e_rd, s_augs, e_lrg, e_lrgc, e_callx, e_orx, e_isx, e_isxt, e_place, s_raisep, s_raiset, s_try, s_frzv, isNone_x, x_ex, x_pl, xis_pp, xis_pt, xis_pm, xis_pl, xis_V, xis_R, xis_tt, xis_tp, xis_tm, xis_tl, xis_mm, xis_mp, xis_mt, xis_ml, xis_ll, xis_lp, xis_lt, xis_lm, List.any_cons, List.any_nil, in_errs0, in_errs1, in_errs2, in_errs3, m_in, m_notin, m_isb, m_notb,
  s_seq, s_next, s_break, s_cont, s_never, s_drop, s_ret, s_retn, s_if, s_asg, s_par, s_retf, s_retf2, wipeE, List.append_assoc, List.cons_append, List.nil_append, g_nm, g_snil, g_scons, g_tp, g_sb, m_int, m_sub, m_lt, m_le, m_gt, m_ge, m_mod, m_div, m_pow, m_add, m_addt, m_addl, m_adds, m_mul, m_mulc, m_isn, m_notn, m_eq, m_ne, p_p,
  q_t, q_l, q_tt, l_l, t_t, t_tt, m_ixt, m_ixl, m_ixtt, m_lent, m_lenl, m_lentt, m_max2, m_min2, m_intb, m_listt, m_listl, m_tuplel, m_app, m_setl, sl_t, sl_r, sl_l, isNone, tyName, isB, mkTup, allP, allP_map, Option.map_some, map_p_inj,
  q_cc, l_cc, p_cc, ty_cc, m_ixcc, m_lencc, m_tuplecc, m_listcc, asL_l, Option.bind_some, mkTup_p, st_at, st_setk, st_at0, st_set0, st_take, st_atS, st_setS, st_atS0, st_setS0, st_takeS, List.length_set, List.set_set, ix40, ix41, ix42, ix43, Nat.reduceAdd, Nat.zero_add, at_nat', at_succ, at_0, at_1, at_2, at_3, at_4, at_m1, eqv_int, eqv_bool, sh_int, sh_bool, sh_none, fnEnds, wYes, gNm,
  List.getElem?_cons_zero, List.getElem?_cons_succ, List.set_cons_zero, List.set_cons_succ, List.getElem?_map, List.length_map, List.length_cons, List.length_nil, List.length_append, List.map_cons, List.map_nil,
  Option.some.injEq, SV.p.injEq, SV.c.injEq, PyData.int.injEq, PyData.bool.injEq, exists_eq_left', exists_eq_left, exists_eq_right, exists_eq', exists_eq, exists_and_left, true_and, and_true, true_or, or_true, MO.lst.injEq, Bool.not_true, Bool.not_false, if_true, if_false, Bool.false_eq_true, ↓reduceIte, beq_self_eq_true, String.reduceBEq, Bool.or_false, Bool.false_or, Bool.and_false, Bool.false_and, Bool.or_true, Bool.true_or, decide_eq_true_eq, beq_iff_eq, Bool.not_eq_true, tp_at0, tp_at, tp_set, Option.map_none, Option.some.injEq, *])
def aboveD (t : List Nat) (p : Nat) : PyData := if p = 0 then .none else nI (par t p)
def S_trees_above : MSp := fun ds st R => ∃ t p, ds = [.p (tv t), .p (nI p)] ∧ Tr t ∧ p < t.length + 1 ∧ R (.p (aboveD t p)) st
def w_trees_above : WS :=
    (wSeq (wDrop (wCall S_trees_need_place (aCons (wVar 0) (aCons (wVar 1) aNil))))
    (wSeq (wIfS (wTest (wOp mEq (wVar 1) (wC (.p (.int 0)))))
    (wRet (wC (.p .none)))
    wNext)
    (wRet (wOp mIx (wVar 0) (wOp mSub (wVar 1) (wC (.p (.int 1))))))))
theorem r_trees_above (ds : List SV) (s : Store) (R : SV → Store → Prop) (w : Wf s) (h : S_trees_above ds s R) : w_trees_above (fnEnds s.length R) (startE 2 ds) s := by
  obtain ⟨t, p, rfl, T, hp, q⟩ := h
  show w_trees_above _ [some (.p (.tuple (t.map nI))), some (.p (.int (p : Nat)))] s
  unfold w_trees_above
  walk_at "m"
  refine ⟨t, p, rfl, hp, ?_⟩
  refine ite2 (fun h => .inl ?_) (fun h => ?_)
  · have h : p = 0 := by simpa using h
    unfold aboveD at q
    rwa [if_pos h] at q
  · have h : p ≠ 0 := by simpa using h
    obtain ⟨r, rfl⟩ : ∃ r, p = r + 1 := ⟨p - 1, by omega⟩
    have e2 : ((r + 1 : Nat) : Int) - 1 = (r : Int) := by omega
    rw [e2]
    refine ⟨.p (nI (par t (r + 1))), by rw [at_nat', List.getElem?_map, List.getElem?_map, par_get (by omega)]; rfl, .inl ?_⟩
    unfold aboveD at q
    rwa [if_neg h] at q
def S_trees_below : MSp := fun ds st R => ∃ t p, ds = [.p (tv t), .p (nI p)] ∧ Tr t ∧ p < t.length + 1 ∧ R (.p (kD t p)) st
def w_trees_below : WS :=
    (wSeq (wDrop (wCall S_trees_need_place (aCons (wVar 0) (aCons (wVar 1) aNil))))
    (wRet (wLc (wiEnum (aCons (wVar 0) aNil)) (gTp 2 (gsCons (gNm 2) (gsCons (gNm 3) gsNil))) (wTest (wOp mEq (wVar 3) (wVar 1))) (wOp mAdd (wVar 2) (wC (.p (.int 1)))) [2, 3])))
theorem r_trees_below (ds : List SV) (s : Store) (R : SV → Store → Prop) (w : Wf s) (h : S_trees_below ds s R) : w_trees_below (fnEnds s.length R) (startE 4 ds) s := by
  obtain ⟨t, p, rfl, T, hp, q⟩ := h
  show w_trees_below _ [some (.p (.tuple (t.map nI))), some (.p (.int (p : Nat))), none, none] s
  have hl := T.len
  unfold w_trees_below
  walk_at "m"
  refine ⟨t, p, rfl, hp, ?_⟩
  refine lc_enum (st1 := s) (.p (.tuple (t.map nI))) (t.map nI) (fun i => if t[i]? = some p then some (nI (i + 1)) else none) (fun _ => rfl) (fun Q hQ => by walk_at "m"; exact hQ) (by rw [List.length_map, sizeLine_eq]; omega) (fun i d acc Y Z hd hY hZ => ?_) w ?_
  · rw [List.getElem?_map] at hd
    cases ht : t[i]? with
    | none => rw [ht] at hd; cases hd
    | some v =>
      rw [ht] at hd; cases hd
      rw [ht] at hY hZ
      simp only [nI]
      walk_at "m"
      refine ite2 (fun h => ?_) (fun h => ?_)
      · have h : v = p := by omega
        exact hY (nI (i + 1)) (by rw [h, if_pos rfl])
      · exact hZ (if_neg (by intro e; injection e with e; subst e; exact h rfl))
  · refine .inl ?_
    rw [List.length_map]
    have e : ((List.range t.length).filterMap fun i => if t[i]? = some p then some (nI (i + 1)) else none) = (kids t p).map nI := by
      unfold kids kidsUp
      rw [List.map_filterMap]
      congr 1
      funext i
      split <;> rfl
    rw [e]
    exact q
def roadD (t : List Nat) (p : Nat) : PyData := .list ((road t p).map nI)
def roadsD (t : List Nat) : PyData := .list ((List.range (t.length + 1)).map (roadD t))
theorem any_in (p : Nat) : ∀ l : List Nat, ((l.map nI).any fun z => PyData.eqv z (.int (p : Nat))) = decide (p ∈ l)
  | [] => rfl
  | x :: l => by
    have e : PyData.eqv (nI x) (.int (p : Nat)) = decide (p = x) := by
      show PyData.eqv (.int (x : Nat)) (.int (p : Nat)) = _
      rw [eqv_int, Bool.eq_iff_iff]
      simp
      omega
    rw [List.map_cons, List.any_cons, any_in p l, e, ← Bool.decide_or]
    exact decide_eq_decide.mpr (by rw [List.mem_cons])
theorem cnt_filter {t : List Nat} (T : Tr t) (v : Nat) : ∀ n, n ≤ t.length + 1 → ((List.range n).filter fun p => decide (v ∈ road t p)).length = ((List.range n).map fun p => (road t p).count v).sum
  | 0, _ => rfl
  | n + 1, h => by
    have ih := cnt_filter T v n (by omega)
    rw [List.range_succ, List.filter_append, List.length_append, ih, List.map_append, List.sum_append]
    have h1 := road_nodup T n n (Nat.le_refl _) (by omega) v
    by_cases e : v ∈ road t n
    · have := List.count_pos_iff.mpr e
      simp [e]; omega
    · have := List.count_eq_zero.mpr e
      simp [e]; omega
theorem low_lN {k : Nat} (l : List Nat) : Low (k + 1) (.list (l.map nI)) := low_lst (low_nIs l)
theorem eqv_lN (a b : List Nat) : PyData.eqv (.list (a.map nI)) (.list (b.map nI)) = decide (a = b) := by
  rw [eqv_lst]
  refine eqvAll_map nI (fun x y => ?_) a b
  show PyData.eqv (.int (x : Nat)) (.int (y : Nat)) = _
  rw [eqv_int, Bool.eq_iff_iff]
  simp
  omega
def S_right_k07 : MSp := fun ds st R => ∃ t p, ds = [.p (tv t), .p (nI p), .p (roadsD t)] ∧ Tr t ∧ p < t.length + 1 ∧ R (.p (.bool true)) st
def w_right_k07 : WS :=
    (wSeq (wAsg (wCall S_trees_below (aCons (wVar 0) (aCons (wVar 1) aNil))) (gNm 3))
    (wSeq (wIfS (wTest (wOp mNe (wCall S_trees_beneath (aCons (wVar 0) (aCons (wVar 1) aNil))) (wOp mAdd (wC (.p (.int 1))) (wCB mSum (aCons (wLc (wiSeq (wVar 3)) (gNm 4) wYes (wCall S_trees_beneath (aCons (wVar 0) (aCons (wVar 4) aNil))) [4]) aNil)))))
    (wRet (wC (.p (.bool false))))
    wNext)
    (wSeq (wIfS (wTest (wOp mNe (wCall S_trees_height (aCons (wVar 0) (aCons (wVar 1) aNil))) (wOp mAdd (wC (.p (.int 1))) (wCB mMaxL (aCons (wOp mAdd (wLst (aCons (wC (.p (.int 0))) aNil)) (wLc (wiSeq (wVar 3)) (gNm 4) wYes (wCall S_trees_height (aCons (wVar 0) (aCons (wVar 4) aNil))) [4])) aNil)))))
    (wRet (wC (.p (.bool false))))
    wNext)
    (wSeq (wIfS (wTest (wOp mNe (wCB mLen (aCons (wLc (wiSeq (wVar 2)) (gNm 5) (wTest (wOp mIn (wVar 1) (wVar 5))) (wVar 5) [5]) aNil)) (wCall S_trees_beneath (aCons (wVar 0) (aCons (wVar 1) aNil)))))
    (wRet (wC (.p (.bool false))))
    wNext)
    (wSeq (wAsg (wCall S_trees_above (aCons (wVar 0) (aCons (wVar 1) aNil))) (gNm 6))
    (wSeq (wIfS (wTest (wOp mIsN (wVar 6) (wC (.p .none))))
    (wRet (wAndV (wOp mEq (wVar 1) (wC (.p (.int 0)))) (wOp mEq (wCall S_trees_road_up (aCons (wVar 0) (aCons (wVar 1) aNil))) (wLst (aCons (wC (.p (.int 0))) aNil)))))
    wNext)
    (wRet (wAndV (wOp mEq (wCall S_trees_road_up (aCons (wVar 0) (aCons (wVar 1) aNil))) (wOp mAdd (wLst (aCons (wVar 1) aNil)) (wCall S_trees_road_up (aCons (wVar 0) (aCons (wVar 6) aNil))))) (wOp mIn (wVar 1) (wCall S_trees_below (aCons (wVar 0) (aCons (wVar 6) aNil))))))))))))
def k07_c : WS := (wSeq (wAsg (wCall S_trees_above (aCons (wVar 0) (aCons (wVar 1) aNil))) (gNm 6))
    (wSeq (wIfS (wTest (wOp mIsN (wVar 6) (wC (.p .none))))
    (wRet (wAndV (wOp mEq (wVar 1) (wC (.p (.int 0)))) (wOp mEq (wCall S_trees_road_up (aCons (wVar 0) (aCons (wVar 1) aNil))) (wLst (aCons (wC (.p (.int 0))) aNil)))))
    wNext)
    (wRet (wAndV (wOp mEq (wCall S_trees_road_up (aCons (wVar 0) (aCons (wVar 1) aNil))) (wOp mAdd (wLst (aCons (wVar 1) aNil)) (wCall S_trees_road_up (aCons (wVar 0) (aCons (wVar 6) aNil))))) (wOp mIn (wVar 1) (wCall S_trees_below (aCons (wVar 0) (aCons (wVar 6) aNil))))))))
def k07_b : WS := (wSeq (wIfS (wTest (wOp mNe (wCB mLen (aCons (wLc (wiSeq (wVar 2)) (gNm 5) (wTest (wOp mIn (wVar 1) (wVar 5))) (wVar 5) [5]) aNil)) (wCall S_trees_beneath (aCons (wVar 0) (aCons (wVar 1) aNil)))))
    (wRet (wC (.p (.bool false))))
    wNext) k07_c)
def k07_a : WS := (wSeq (wIfS (wTest (wOp mNe (wCall S_trees_height (aCons (wVar 0) (aCons (wVar 1) aNil))) (wOp mAdd (wC (.p (.int 1))) (wCB mMaxL (aCons (wOp mAdd (wLst (aCons (wC (.p (.int 0))) aNil)) (wLc (wiSeq (wVar 3)) (gNm 4) wYes (wCall S_trees_height (aCons (wVar 0) (aCons (wVar 4) aNil))) [4])) aNil)))))
    (wRet (wC (.p (.bool false))))
    wNext) k07_b)
theorem r_right_k07 (ds : List SV) (s : Store) (R : SV → Store → Prop) (w : Wf s) (h : S_right_k07 ds s R) : w_right_k07 (fnEnds s.length R) (startE 7 ds) s := by
  obtain ⟨t, p, rfl, T, hp, q⟩ := h
  have hl := T.len
  have hkl : (kids t p).length ≤ t.length := kids_len t t.length p
  have hrl := road_len T p p (Nat.le_refl _) hp
  have kin : ∀ k ∈ kids t p, k < t.length + 1 := fun k hk => (kids_gt T hk).2
  -- the last part
  have pc : ∀ x4 x5 : Option SV, k07_c (fnEnds s.length R) [some (.p (tv t)), some (.p (.int (p : Nat))), some (.p (roadsD t)), some (.p (kD t p)), x4, x5, none] s := fun x4 x5 => by
    unfold k07_c
    walk_at "m"
    refine ⟨t, p, rfl, T, hp, ?_⟩
    unfold aboveD
    by_cases h0 : p = 0
    · subst h0
      rw [if_pos rfl]
      walk_at "m"
      refine ⟨t, 0, rfl, T, hp, ?_⟩
      walk_at "m"
      refine ⟨by decide, sh_low (low_lN (k := 0) _), by decide, ?_⟩
      rw [road_0]
      exact .inl q
    · rw [if_neg h0]
      have lp := par_lt T (p := p) (by omega) (by omega)
      simp only [nI]
      walk_at "m"
      refine ⟨t, p, rfl, T, hp, by decide, t, par t p, rfl, T, by omega, ?_⟩
      have hr2 := road_len T (par t p) (par t p) (Nat.le_refl _) (by omega)
      walk_at "m"
      have e1 : PyData.eqv (.list ((road t p).map nI)) (.list ([PyData.int (p : Nat)] ++ (road t (par t p)).map nI)) = true := by
        have := eqv_lN (road t p) (p :: road t (par t p))
        rw [decide_eq_true (road_s T (by omega) (by omega))] at this
        exact this
      refine ⟨[.int (p : Nat)], rfl, by rw [sizeLine_eq]; simp; omega, sh_low (low_lN (k := 0) _), sh_low (low_lN (k := 0) (p :: road t (par t p))), ?_⟩
      rw [e1]
      refine ite2 (fun _ => ?_) (fun h => absurd rfl h)
      refine ⟨t, par t p, rfl, T, by omega, ?_⟩
      simp only [kD]
      walk_at "m"
      refine ⟨_, rfl, sh_low (low_lN (k := 0) _), .inl ?_⟩
      rw [any_in, decide_eq_true (par_kid (by omega) (by omega))]
      exact q
  have pb : ∀ x4 x5 : Option SV, k07_b (fnEnds s.length R) [some (.p (tv t)), some (.p (.int (p : Nat))), some (.p (roadsD t)), some (.p (kD t p)), x4, x5, none] s := fun x4 x5 => by
    unfold k07_b
    walk_at "m"
    refine lc_seqL (st1 := s) (.p (roadsD t)) (List.range (t.length + 1)) (roadD t) (fun a => if decide (p ∈ road t a) = true then some (roadD t a) else none) (fun _ => rfl) (fun Q hQ => by walk_at "m"; exact hQ) (by rw [List.length_range, sizeLine_eq]; omega) (fun a acc Y Z ha hY hZ => ?_) w ?_
    · simp only [roadD] at hY hZ ⊢
      walk_at "m"
      refine ⟨_, rfl, sh_low (low_lN (k := 0) _), ?_⟩
      rw [any_in]
      exact ite2 (fun h => hY _ (if_pos h)) (fun h => hZ (if_neg h))
    · rw [filter_fm]
      walk_at "m"
      refine ⟨t, p, rfl, T, hp, ?_⟩
      have e := cnt_filter T p (t.length + 1) (Nat.le_refl _)
      have e2 := cnt_siz' T hp
      unfold cnt at e2
      rw [← e] at e2
      walk_at "m"
      rw [e2]
      refine ite2 (fun h => absurd h (by simp)) (fun _ => ?_)
      exact pc x4 x5
  have pa : ∀ x4 x5 : Option SV, k07_a (fnEnds s.length R) [some (.p (tv t)), some (.p (.int (p : Nat))), some (.p (roadsD t)), some (.p (kD t p)), x4, x5, none] s := fun x4 x5 => by
    unfold k07_a
    walk_at "m"
    refine ⟨t, p, rfl, T, hp, by decide, ?_⟩
    refine lc_seqL (st1 := s) (.p (kD t p)) (kids t p) nI (fun a => some (.int (hei t a))) (fun _ => rfl) (fun Q hQ => by walk_at "m"; exact hQ) (by rw [sizeLine_eq]; omega) (fun a acc Y Z ha hY hZ => ?_) w ?_
    · simp only [nI]
      walk_at "m"
      exact ⟨t, a, rfl, T, kin a ha, hY _ rfl⟩
    · rw [filterMap_map]
      walk_at "m"
      refine ⟨[.int 0], rfl, by rw [sizeLine_eq]; simp; omega, ?_⟩
      have e1 : [PyData.int 0] ++ ((kids t p).map fun a => PyData.int (hei t a)) = ((0 :: (kids t p).map (hei t)).map PyData.int) := by simp
      rw [e1]
      refine max_use (m := hei t p - 1) ?_ (fun y hy => ?_) ?_
      · obtain ⟨o, h1, h3⟩ := ogF_fm T (heightsF t) hp
        cases o with
        | none =>
          have h3 : kids t p = [] := h3
          rw [hei_leaf T hp h3]
          exact List.mem_cons_self
        | some q =>
          obtain ⟨a1, a2, _⟩ := h3
          rw [hei_top T hp a1 a2]
          exact List.mem_cons_of_mem _ (List.mem_map.mpr ⟨q, a1, by omega⟩)
      · rcases List.mem_cons.mp hy with e | hy
        · have := hei_pos T hp; omega
        · obtain ⟨k, hk, rfl⟩ := List.mem_map.mp hy
          have := hei_kid T hp hk; omega
      · walk_at "m"
        have e2 : ((heightsF t).getD p 0 == 1 + (hei t p - 1)) = true := by
          have : (heightsF t).getD p 0 = hei t p := rfl
          rw [this, beq_iff_eq]; omega
        rw [e2]
        refine ite2 (fun h => absurd h (by decide)) (fun _ => ?_)
        exact pb x4 x5
  show w_right_k07 _ [some (.p (tv t)), some (.p (.int (p : Nat))), some (.p (roadsD t)), none, none, none, none] s
  show wSeq _ (wSeq _ k07_a) _ _ _
  walk_at "m"
  refine ⟨t, p, rfl, T, hp, t, p, rfl, T, hp, ?_⟩
  refine lc_seqL (st1 := s) (.p (kD t p)) (kids t p) nI (fun a => some (.int (siz t a))) (fun _ => rfl) (fun Q hQ => by walk_at "m"; exact hQ) (by rw [sizeLine_eq]; omega) (fun a acc Y Z ha hY hZ => ?_) w ?_
  · simp only [nI]
    walk_at "m"
    exact ⟨t, a, rfl, T, kin a ha, hY _ rfl⟩
  · rw [filterMap_map]
    have e1 : ((kids t p).map fun a => PyData.int (siz t a)) = ((kids t p).map (siz t)).map PyData.int := by rw [List.map_map]; rfl
    rw [e1]
    refine sum_use ?_
    walk_at "m"
    have e2 : (siz t p == 1 + ((kids t p).map (siz t)).sum) = true := by rw [beq_iff_eq]; exact siz_sum T hp
    rw [e2]
    refine ite2 (fun h => absurd h (by decide)) (fun _ => ?_)
    exact pa _ _
end M

namespace M
open PySem PySem.Spec PyProof.Rows L2
local macro_rules | `(tactic| walk_at "m") => `(tactic| simp (maxSteps := 2000000) (implicitDefEqProofs := false) only [e_revs, m_revt, m_revl, e_listrev, m_mult, e_dnew, e_din, e_dnotin, s_dput, m_lend, dct_inj, m_rvs, m_pop0, m_ext1, m_addc, v_0, v_s, e_c, e_op, e_test, e_and, e_or, e_not, e_andv, e_orv, e_notv, e_ife, e_chain, e_anil, e_acons, e_cb, e_call, e_tup, e_lst, e_lstc, e_sl, e_onone, e_osome, e_mt, e_isi, e_neg, e_rd, s_augs, e_lrg, e_lrgc, e_callx, e_orx, e_isx, e_isxt, e_place, s_raisep, s_raiset, s_try, s_frzv, isNone_x, x_ex, x_pl, xis_pp, xis_pt, xis_pm, xis_pl, xis_V, xis_R, xis_tt, xis_tp, xis_tm, xis_tl, xis_mm, xis_mp, xis_mt, xis_ml, xis_ll, xis_lp, xis_lt, xis_lm, List.any_cons, List.any_nil, in_errs0, in_errs1, in_errs2, in_errs3, m_in, m_notin, m_isb, m_notb,
  s_seq, s_next, s_break, s_cont, s_never, s_drop, s_ret, s_retn, s_if, s_asg, s_par, s_retf, s_retf2, wipeE, List.append_assoc, List.cons_append, List.nil_append, g_nm, g_snil, g_scons, g_tp, g_sb, m_int, m_sub, m_lt, m_le, m_gt, m_ge, m_mod, m_div, m_pow, m_add, m_addt, m_addl, m_adds, m_mul, m_mulc, m_isn, m_notn, m_eq, m_ne, p_p,
  q_t, q_l, q_tt, l_l, t_t, t_tt, m_ixt, m_ixl, m_ixtt, m_lent, m_lenl, m_lentt, m_max2, m_min2, m_intb, m_listt, m_listl, m_tuplel, m_app, m_setl, sl_t, sl_r, sl_l, isNone, tyName, isB, mkTup, allP, allP_map, Option.map_some, map_p_inj,
  q_cc, l_cc, p_cc, ty_cc, m_ixcc, m_lencc, m_tuplecc, m_listcc, asL_l, Option.bind_some, mkTup_p, st_at, st_setk, st_at0, st_set0, st_take, st_atS, st_setS, st_atS0, st_setS0, st_takeS, List.length_set, List.set_set, ix40, ix41, ix42, ix43, Nat.reduceAdd, Nat.zero_add, at_nat', at_succ, at_0, at_1, at_2, at_3, at_4, at_m1, eqv_int, eqv_bool, sh_int, sh_bool, sh_none, fnEnds, wYes, gNm,
  List.getElem?_cons_zero, List.getElem?_cons_succ, List.set_cons_zero, List.set_cons_succ, List.getElem?_map, List.length_map, List.length_cons, List.length_nil, List.length_append, List.map_cons, List.map_nil,
  Option.some.injEq, SV.p.injEq, SV.c.injEq, PyData.int.injEq, PyData.bool.injEq, exists_eq_left', exists_eq_left, exists_eq_right, exists_eq', exists_eq, exists_and_left, true_and, and_true, true_or, or_true, MO.lst.injEq, Bool.not_true, Bool.not_false, if_true, if_false, Bool.false_eq_true, ↓reduceIte, beq_self_eq_true, String.reduceBEq, Bool.or_false, Bool.false_or, Bool.and_false, Bool.false_and, Bool.or_true, Bool.true_or, decide_eq_true_eq, beq_iff_eq, Bool.not_eq_true])
local macro_rules | `(tactic| walk_at "mh") => `(tactic| simp (maxSteps := 2000000) (implicitDefEqProofs := false) only [e_revs, m_revt, m_revl, e_listrev, m_mult, e_dnew, e_din, e_dnotin, s_dput, m_lend, dct_inj, m_rvs, m_pop0, m_ext1, m_addc, v_0, v_s, e_c, e_op, e_test, e_and, e_or, e_not, e_andv, e_orv, e_notv, e_ife, e_chain, e_anil, e_acons, e_cb, e_call, e_tup, e_lst, e_lstc, e_sl, e_onone, e_osome, e_mt, e_isi, e_neg, e_rd, s_augs, e_lrg, e_lrgc, e_callx, e_orx, e_isx, e_isxt, e_place, s_raisep, s_raiset, s_try, s_frzv, isNone_x, x_ex, x_pl, xis_pp, xis_pt, xis_pm, xis_pl, xis_V, xis_R, xis_tt, xis_tp, xis_tm, xis_tl, xis_mm, xis_mp, xis_mt, xis_ml, xis_ll, xis_lp, xis_lt, xis_lm, List.any_cons, List.any_nil, in_errs0, in_errs1, in_errs2, in_errs3, m_in, m_notin, m_isb, m_notb,
  s_seq, s_next, s_break, s_cont, s_never, s_drop, s_ret, s_retn, s_if, s_asg, s_par, s_retf, s_retf2, wipeE, List.append_assoc, List.cons_append, List.nil_append, g_nm, g_snil, g_scons, g_tp, g_sb, m_int, m_sub, m_lt, m_le, m_gt, m_ge, m_mod, m_div, m_pow, m_add, m_addt, m_addl, m_adds, m_mul, m_mulc, m_isn, m_notn, m_eq, m_ne, p_p,
  q_t, q_l, q_tt, l_l, t_t, t_tt, m_ixt, m_ixl, m_ixtt, m_lent, m_lenl, m_lentt, m_max2, m_min2, m_intb, m_listt, m_listl, m_tuplel, m_app, m_setl, sl_t, sl_r, sl_l, isNone, tyName, isB, mkTup, allP, allP_map, Option.map_some, map_p_inj,
  q_cc, l_cc, p_cc, ty_cc, m_ixcc, m_lencc, m_tuplecc, m_listcc, asL_l, Option.bind_some, mkTup_p, st_at, st_setk, st_at0, st_set0, st_take, st_atS, st_setS, st_atS0, st_setS0, st_takeS, List.length_set, List.set_set, ix40, ix41, ix42, ix43, Nat.reduceAdd, Nat.zero_add, at_nat', at_succ, at_0, at_1, at_2, at_3, at_4, at_m1, eqv_int, eqv_bool, sh_int, sh_bool, sh_none, fnEnds, wYes, gNm,
  List.getElem?_cons_zero, List.getElem?_cons_succ, List.set_cons_zero, List.set_cons_succ, List.getElem?_map, List.length_map, List.length_cons, List.length_nil, List.length_append, List.map_cons, List.map_nil,
  Option.some.injEq, SV.p.injEq, SV.c.injEq, PyData.int.injEq, PyData.bool.injEq, exists_eq_left', exists_eq_left, exists_eq_right, exists_eq', exists_eq, exists_and_left, true_and, and_true, true_or, or_true, MO.lst.injEq, Bool.not_true, Bool.not_false, if_true, if_false, Bool.false_eq_true, ↓reduceIte, beq_self_eq_true, String.reduceBEq, Bool.or_false, Bool.false_or, Bool.and_false, Bool.false_and, Bool.or_true, Bool.true_or, decide_eq_true_eq, beq_iff_eq, Bool.not_eq_true, tp_at0, tp_at, tp_set, Option.map_none, Option.some.injEq, *])
def mNeF : M2 := fun x y st Q => ∃ d e, Frz st 0 x d ∧ pureOf st y = some e ∧ SeqAt.shaped d = true ∧ SeqAt.shaped e = true ∧ Q (.p (.bool (!PyData.eqv d e))) st
theorem om_neF {X : XM} (hu : X.A.units + 64 < cLine) : OpM X (compareOp .NotEq) mNeF := ⟨_, op_neD hu, fun F cs H st x y v u Q R hs rx ry ⟨d, e, h1, h2, s1, s2, q⟩ k =>
  ⟨d, e, dq_dp (F := frzH F H (cs.drop 0)) (fun a o e => by
    unfold frzH at e
    split at e
    · exact e
    · exact hs.sub _ _ e) _ _ (frz_dq hs h1 rx), rp_pure hs ry h2, s1, s2, k _ _ (.mk hs (.p (.bl _)) q)⟩⟩
theorem lc_keep {wi : WI} {g : WG} {tt : WT} {we : WE} {vs : List Nat} {env : M.Env} {st st1 : Store} {Q : SV → Store → Prop} (xs : List SV) (keep : Store → Prop) (f : Nat → Option PyData) (hwi : ∀ Q : ItM → Store → Prop, Q { items := xs, keep := keep } st1 → wi env st Q) (hl : xs.length ≤ sizeLine) (hk : ∀ o, keep (st1 ++ [o]))
    (step : ∀ i x (acc : List PyData) (Y : SV → Store → Prop) (Z : Store → Prop), xs[i]? = some x → (∀ d, f i = some d → Y (.p d) (st1 ++ [.lst (acc.map SV.p)])) → (f i = none → Z (st1 ++ [.lst (acc.map SV.p)])) →
      g x (wipeE env vs) (st1 ++ [.lst (acc.map SV.p)]) fun e2 s2 => tt e2 s2 fun c s3 => if c = true then we e2 s3 Y else Z s3)
    (w : Wf st1) (q : Q (.p (.list ((List.range xs.length).filterMap f))) st1) : wLc wi g tt we vs env st Q := by
  refine hwi _ ⟨fun i s => s = st1 ++ [.lst (((List.range i).filterMap f).map SV.p)], rfl, fun _ _ _ h => by subst h; exact hk _, ?_, ?_⟩
  · rintro i x s hx rfl
    have hi : i < xs.length := (List.getElem?_eq_some_iff.mp hx).1
    refine step i x _ _ _ hx (fun d hd => ?_) (fun hn => ?_)
    · refine ⟨_, st_last, ?_, .inl ?_⟩
      · rw [List.length_map]
        refine Nat.lt_of_le_of_lt (List.length_filterMap_le _ _) ?_
        rw [List.length_range]; omega
      · show _ = _
        rw [st_set, List.range_succ, List.filterMap_append]
        simp [hd]
    · refine .inl ?_
      show _ = _
      rw [List.range_succ, List.filterMap_append]
      simp [hn]
  · rintro s rfl
    refine ⟨_, st_last, ?_, ?_⟩
    · rw [st_take]; exact w
    · rw [st_take]; exact q
theorem lcC_pure {wi : WI} {g : WG} {tt : WT} {we : WE} {vs : List Nat} {env : M.Env} {st st1 : Store} {Q : SV → Store → Prop} (xs : List SV) (keep : Store → Prop) (f : Nat → Option PyData) (hwi : ∀ Q : ItM → Store → Prop, Q { items := xs, keep := keep } st1 → wi env st Q) (hl : xs.length ≤ sizeLine) (hk : ∀ s, keep s)
    (step : ∀ i x (acc : List PyData) (Y : SV → Store → Prop) (Z : Store → Prop), xs[i]? = some x → (∀ d, f i = some d → Y (.p d) (st1 ++ [.lst (acc.map SV.p)])) → (f i = none → Z (st1 ++ [.lst (acc.map SV.p)])) →
      g x (wipeE env vs) (st1 ++ [.lst (acc.map SV.p)]) fun e2 s2 => tt e2 s2 fun c s3 => if c = true then we e2 s3 Y else Z s3)
    (q : Q (.c st1.length) (st1 ++ [.lst (((List.range xs.length).filterMap f).map SV.p)])) : wLcC wi g tt we vs env st Q := by
  refine hwi _ ⟨fun i s => s = st1 ++ [.lst (((List.range i).filterMap f).map SV.p)], rfl, fun _ _ _ _ => hk _, ?_, ?_⟩
  · rintro i x s hx rfl
    have hi : i < xs.length := (List.getElem?_eq_some_iff.mp hx).1
    refine step i x _ _ _ hx (fun d hd => ?_) (fun hn => ?_)
    · refine ⟨_, st_last, ?_, .inl ?_⟩
      · rw [List.length_map]
        refine Nat.lt_of_le_of_lt (List.length_filterMap_le _ _) ?_
        rw [List.length_range]; omega
      · show _ = _
        rw [st_set, List.range_succ, List.filterMap_append]
        simp [hd]
    · refine .inl ?_
      show _ = _
      rw [List.range_succ, List.filterMap_append]
      simp [hn]
  · rintro s rfl
    exact q
def S_trees_below_own : MSp := fun ds st R => ∃ t p, ds = [.p (tv t), .p (nI p)] ∧ Tr t ∧ p < t.length + 1 ∧ R (.c st.length) (st ++ [.lst (((kids t p).map nI).map SV.p)])
def w_trees_below_own : WS :=
    (wSeq (wDrop (wCall S_trees_need_place (aCons (wVar 0) (aCons (wVar 1) aNil))))
    (wRet (wLcC (wiEnum (aCons (wVar 0) aNil)) (gTp 2 (gsCons (gNm 2) (gsCons (gNm 3) gsNil))) (wTest (wOp mEq (wVar 3) (wVar 1))) (wOp mAdd (wVar 2) (wC (.p (.int 1)))) [2, 3])))
theorem kids_fm (t : List Nat) (p : Nat) : ((List.range t.length).filterMap fun i => if t[i]? = some p then some (nI (i + 1)) else none) = (kids t p).map nI := by
  unfold kids kidsUp
  rw [List.map_filterMap]
  congr 1
  funext i
  split <;> rfl
theorem r_trees_below_own (ds : List SV) (s : Store) (R : SV → Store → Prop) (w : Wf s) (h : S_trees_below_own ds s R) : w_trees_below_own (fnEnds s.length R) (startE 4 ds) s := by
  obtain ⟨t, p, rfl, T, hp, q⟩ := h
  show w_trees_below_own _ [some (.p (.tuple (t.map nI))), some (.p (.int (p : Nat))), none, none] s
  have hl := T.len
  have hl' : (enumItems 0 ((t.map nI).map SV.p)).length = t.length := by rw [enum_len, List.length_map, List.length_map]
  unfold w_trees_below_own
  walk_at "m"
  refine ⟨t, p, rfl, hp, ?_⟩
  refine lcC_pure (st1 := s) (enumItems 0 ((t.map nI).map SV.p)) (fun s' => srcOf s' (.p (.tuple (t.map nI))) = some ((t.map nI).map SV.p)) (fun i => if t[i]? = some p then some (nI (i + 1)) else none) (fun Q hQ => wi_enum _ _ rfl (fun Q hQ => by walk_at "m"; exact hQ) _ hQ) (by rw [hl', sizeLine_eq]; omega) (fun _ => rfl) (fun i y acc Y Z hy hY hZ => ?_) ?_
  · have hi' : i < t.length := by
      have := (List.getElem?_eq_some_iff.mp hy).1
      rw [← hl']; exact this
    have e1 : ((t.map nI).map SV.p)[i]? = some (.p (nI t[i])) := by rw [List.getElem?_map, List.getElem?_map, List.getElem?_eq_getElem hi']; rfl
    have e2 := enum_get (k := 0) e1
    rw [hy] at e2
    cases e2
    rw [Nat.zero_add]
    have ht : t[i]? = some t[i] := List.getElem?_eq_getElem hi'
    rw [ht] at hY hZ
    generalize t[i] = v at hY hZ ⊢
    simp only [nI]
    walk_at "m"
    refine ite2 (fun h => ?_) (fun h => ?_)
    · have h : v = p := by omega
      exact hY (nI (i + 1)) (by rw [h, if_pos rfl])
    · exact hZ (if_neg (by intro e; injection e with e; subst e; exact h rfl))
  · refine .inl ?_
    rw [hl', kids_fm]
    exact q
def S_trees_road_up_own : MSp := fun ds st R => ∃ t p, ds = [.p (tv t), .p (nI p)] ∧ Tr t ∧ p < t.length + 1 ∧ R (.c st.length) (st ++ [.lst (((road t p).map nI).map SV.p)])
def w_trees_road_up_own_L1 : WS := wWhile (wTest (wOp mNe (wOp mIx (wVar 2) (wNeg (wC (.p (.int 1))))) (wC (.p (.int 0)))))
    (wDrop (wMt mAppend (wVar 2) (aCons (wOp mIx (wVar 0) (wOp mSub (wOp mIx (wVar 2) (wNeg (wC (.p (.int 1))))) (wC (.p (.int 1))))) aNil)))
def w_trees_road_up_own : WS :=
    (wSeq (wDrop (wCall S_trees_need_place (aCons (wVar 0) (aCons (wVar 1) aNil))))
    (wSeq (wAsg (wLstC (aCons (wVar 1) aNil)) (gNm 2))
    (wSeq w_trees_road_up_own_L1
    (wRet (wVar 2)))))
theorem r_trees_road_up_own (ds : List SV) (s : Store) (R : SV → Store → Prop) (w : Wf s) (h : S_trees_road_up_own ds s R) : w_trees_road_up_own (fnEnds s.length R) (startE 3 ds) s := by
  obtain ⟨t, p, rfl, T, hp, q⟩ := h
  show w_trees_road_up_own _ [some (.p (.tuple (t.map nI))), some (.p (.int p)), none] s
  unfold w_trees_road_up_own
  walk_at "m"
  refine ⟨t, p, rfl, hp, by decide, ?_⟩
  refine up_loop T hp s _ ?_
  walk_at "m"
  exact .inl q
def S_wholes_k02 : MSp := fun ds st R => ∃ (x : SV) (l : List Int), ds = [x] ∧ listOf st x = some ((l.map PyData.int).map SV.p) ∧ l.length ≤ 2 ^ 20 ∧ R (.p (.bool true)) st
def w_wholes_k02 : WS :=
    (wRet (wAndV (wIsi "list" (wVar 0)) (wOp mEq (wLc (wiSeq (wVar 0)) (gNm 1) (wNot (wTest (wCall S_whole_k02 (aCons (wVar 1) aNil)))) (wVar 1) [1]) (wLst aNil))))
theorem ty_list {st : Store} {x : SV} {xs : List SV} (h : listOf st x = some xs) : tyName st x = some "list" := by
  cases x with
  | p d => cases d <;> first | rfl | cases h
  | c n =>
    rw [l_cc] at h
    rw [ty_cc, h]
    rfl
  | t _ => cases h
  | ro _ => cases h
  | x _ _ => cases h
theorem seq_list {st : Store} {x : SV} {xs : List SV} (h : listOf st x = some xs) : seqOf st x = some xs := by
  cases x with
  | p d => cases d <;> first | exact h | cases h
  | c n => exact h
  | t _ => cases h
  | ro _ => cases h
  | x _ _ => cases h
theorem list_app {st l : Store} {x : SV} {xs : List SV} (h : listOf st x = some xs) : listOf (st ++ l) x = some xs := by
  cases x with
  | p d => cases d <;> first | exact h | cases h
  | c n =>
    rw [l_cc] at h ⊢
    cases q : st[n]? with
    | none => rw [q] at h; cases h
    | some o =>
      have hn := (List.getElem?_eq_some_iff.mp q).1
      rw [List.getElem?_append_left hn]
      rw [q] at h ⊢
      exact h
  | t _ => cases h
  | ro _ => cases h
  | x _ _ => cases h
theorem r_wholes_k02 (ds : List SV) (s : Store) (R : SV → Store → Prop) (w : Wf s) (h : S_wholes_k02 ds s R) : w_wholes_k02 (fnEnds s.length R) (startE 2 ds) s := by
  obtain ⟨x, l, rfl, hx, hl, q⟩ := h
  show w_wholes_k02 _ [some x, none] s
  unfold w_wholes_k02
  walk_at "m"
  refine ⟨"list", ty_list hx, ?_⟩
  walk_at "m"
  refine lc_keep (st1 := s) ((l.map PyData.int).map SV.p) (fun s' => seqOf s' x = some ((l.map PyData.int).map SV.p)) (fun _ => none) (fun Q hQ => wi_seq x _ (seq_list hx) (fun Q hQ => by walk_at "m"; exact hQ) _ hQ) (by rw [List.length_map, List.length_map, sizeLine_eq]; omega) (fun o => seq_list (list_app hx)) (fun i y acc Y Z hy hY hZ => ?_) w ?_
  · rw [List.getElem?_map, List.getElem?_map] at hy
    obtain ⟨d, hd, rfl⟩ := Option.map_eq_some_iff.mp hy
    obtain ⟨a, ha, rfl⟩ := Option.map_eq_some_iff.mp hd
    walk_at "m"
    refine ⟨_, rfl, ⟨_, rfl⟩, ?_⟩
    simp only [wholeOf]
    walk_at "m"
    exact hZ rfl
  · have e : ((List.range ((l.map PyData.int).map SV.p).length).filterMap fun _ => (none : Option PyData)) = [] := by simp
    rw [e]
    walk_at "m"
    exact ⟨by decide, rfl, rfl, .inl q⟩
def S_right_k02 : MSp := fun ds st R => ∃ t p, ds = [.p (tv t), .p (nI p)] ∧ Tr t ∧ p < t.length + 1 ∧ R (.p (.bool true)) st
def w_right_k02 : WS :=
    (wSeq (wAsg (wLstC (aCons (wCall S_trees_below_own (aCons (wVar 0) (aCons (wVar 1) aNil))) (aCons (wCall S_trees_road_up_own (aCons (wVar 0) (aCons (wVar 1) aNil))) aNil))) (gNm 2))
    (wSeq (wAsg (wLc (wiR1 (aCons (wCB mLen (aCons (wVar 0) aNil)) aNil)) (gNm 4) (wTest (wOp mEq (wOp mIx (wVar 0) (wVar 4)) (wVar 1))) (wOp mAdd (wVar 4) (wC (.p (.int 1)))) [4]) (gNm 3))
    (wSeq (wIfS (wOr (wNot (wTest (wCall S_wholes_k02 (aCons (wOp mIx (wVar 2) (wC (.p (.int 0)))) aNil)))) (wOr (wNot (wTest (wCall S_wholes_k02 (aCons (wOp mIx (wVar 2) (wC (.p (.int 1)))) aNil)))) (wTest (wOp mNeF (wVar 2) (wLst (aCons (wVar 3) (aCons (wCall S_up_k02 (aCons (wVar 0) (aCons (wVar 1) aNil))) aNil)))))))
    (wRet (wC (.p (.bool false))))
    wNext)
    (wSeq (wDrop (wMt mAppend (wOp mIx (wVar 2) (wC (.p (.int 0)))) (aCons (wC (.p (.int 0))) aNil)))
    (wSeq (wDrop (wMt mReverse (wOp mIx (wVar 2) (wC (.p (.int 1)))) aNil))
    (wSeq (wIfS (wTest (wOp mEq (wVar 1) (wC (.p (.int 0)))))
    (wRet (wOp mIsN (wCall S_trees_above (aCons (wVar 0) (aCons (wC (.p (.int 0))) aNil))) (wC (.p .none))))
    wNext)
    (wRet (wAndV (wCall S_whole_k02 (aCons (wCall S_trees_above (aCons (wVar 0) (aCons (wVar 1) aNil))) aNil)) (wOp mEq (wCall S_trees_above (aCons (wVar 0) (aCons (wVar 1) aNil))) (wOp mIx (wVar 0) (wOp mSub (wVar 1) (wC (.p (.int 1))))))))))))))
theorem nI_int (l : List Nat) : l.map nI = (l.map fun n : Nat => (n : Int)).map PyData.int := by rw [List.map_map]; rfl
theorem r_right_k02 (ds : List SV) (s : Store) (R : SV → Store → Prop) (w : Wf s) (h : S_right_k02 ds s R) : w_right_k02 (fnEnds s.length R) (startE 5 ds) s := by
  obtain ⟨t, p, rfl, T, hp, q⟩ := h
  show w_right_k02 _ [some (.p (.tuple (t.map nI))), some (.p (.int (p : Nat))), none, none, none] s
  have hl := T.len
  unfold w_right_k02
  walk_at "m"
  refine ⟨t, p, rfl, T, hp, t, p, rfl, T, hp, by decide, ?_⟩
  generalize hK : (kids t p).map nI = K
  generalize hR : (road t p).map nI = Rd
  walk_at "m"
  have w3 : Wf (s ++ [MO.lst (K.map SV.p), MO.lst (Rd.map SV.p), MO.lst [SV.c s.length, SV.c (s.length + 1)]]) := wf_app w fun o m => by
    simp at m
    rcases m with rfl | rfl | rfl
    · exact under_p _ _
    · exact under_p _ _
    · simp [MO.under, underAll, SV.under]
  refine lc_rng (st1 := s ++ [MO.lst (K.map SV.p), MO.lst (Rd.map SV.p), MO.lst [SV.c s.length, SV.c (s.length + 1)]]) 0 1 t.length (fun i => if t[i]? = some p then some (nI (i + 1)) else none) (fun Q hQ => ?_) (by rw [sizeLine_eq]; omega) (fun i acc Y Z hi hY hZ => ?_) w3 ?_
  · unfold wiR1
    walk_at "m"
    exact ⟨by omega, by omega, by simpa using hQ⟩
  · have ht : t[i]? = some t[i] := List.getElem?_eq_getElem hi
    rw [ht] at hY hZ
    have e0 : (0 : Int) + (i : Nat) * 1 = (i : Nat) := by omega
    rw [e0]
    walk_at "m"
    refine ⟨.p (nI t[i]), by rw [ht]; rfl, ?_⟩
    generalize t[i] = v at hY hZ ⊢
    simp only [nI]
    walk_at "m"
    simp only [List.append_assoc, List.cons_append, List.nil_append] at hY hZ
    refine ite2 (fun h => ?_) (fun h => ?_)
    · have h : v = p := by omega
      exact hY (nI (i + 1)) (by rw [h, if_pos rfl])
    · exact hZ (if_neg (by intro e; injection e with e; subst e; exact h rfl))
  · rw [kids_fm, hK]
    walk_at "m"
    have lK : listOf (s ++ [MO.lst (K.map SV.p), MO.lst (Rd.map SV.p), MO.lst [SV.c s.length, SV.c (s.length + 1)]]) (.c s.length) = some (((kids t p).map fun n : Nat => (n : Int)).map PyData.int |>.map SV.p) := by
      rw [l_cc, st_at0, ← nI_int, hK]; rfl
    have lR : listOf (s ++ [MO.lst (K.map SV.p), MO.lst (Rd.map SV.p), MO.lst [SV.c s.length, SV.c (s.length + 1)]]) (.c (s.length + 1)) = some (((road t p).map fun n : Nat => (n : Int)).map PyData.int |>.map SV.p) := by
      rw [l_cc, st_at, ← nI_int, hR]; rfl
    have hkl : (kids t p).length ≤ t.length := kids_len t t.length p
    have hrl := road_len T p p (Nat.le_refl _) hp
    refine ⟨_, _, rfl, lK, by rw [List.length_map]; omega, ?_⟩
    walk_at "m"
    refine ⟨_, _, rfl, lR, by rw [List.length_map]; omega, ?_⟩
    walk_at "m"
    refine ⟨t, p, rfl, T, hp, ?_⟩
    rw [hR]
    walk_at "m"
    have lo : Low 2 (.list [.list K, .list Rd]) := low_lst fun d hd => by
      simp at hd
      rcases hd with rfl | rfl
      · rw [← hK]; exact low_lst (low_map fun _ => low_int _ _)
      · rw [← hR]; exact low_lst (low_map fun _ => low_int _ _)
    refine ⟨by decide, .list [.list K, .list Rd], .list [.list K, .list Rd], .c (Nat.zero_le _) (st_at (k := 2)) (.cons (.c (Nat.zero_le _) st_at0 (frzs_p _)) (.cons (.c (Nat.zero_le _) (st_at (k := 1)) (frzs_p _)) .nil)), rfl, sh_low lo, sh_low lo, ?_⟩
    rw [eqv_low lo]
    walk_at "m"
    have hKl : K.length < sizeLine := by rw [← hK, List.length_map, sizeLine_eq]; omega
    have htk : ∀ x y z : MO, (s ++ [x, y, z]).take s.length = s := fun x y z => st_take
    refine ⟨hKl, ite2 (fun h => ?_) (fun h => ?_)⟩
    · have h : p = 0 := by omega
      subst h
      refine ⟨t, 0, rfl, T, by omega, ?_⟩
      refine .inr ⟨by simp, by rw [htk]; exact w, rfl, by rw [htk]; exact q⟩
    · obtain ⟨r, rfl⟩ : ∃ r, p = r + 1 := ⟨p - 1, by omega⟩
      have e2 : ((r + 1 : Nat) : Int) - 1 = (r : Int) := by omega
      have ea : aboveD t (r + 1) = nI (par t (r + 1)) := if_neg (by omega)
      refine ⟨t, r + 1, rfl, T, hp, ?_⟩
      rw [ea]
      refine ⟨_, rfl, ⟨"int", rfl⟩, ?_⟩
      simp only [wholeOf]
      walk_at "m"
      refine ⟨t, r + 1, rfl, T, hp, ?_⟩
      rw [ea, e2]
      refine ⟨.p (nI (par t (r + 1))), by rw [at_nat', List.getElem?_map, List.getElem?_map, par_get (by omega)]; rfl, ?_⟩
      refine ⟨_, rfl, _, rfl, rfl, rfl, ?_⟩
      have ev : PyData.eqv (nI (par t (r + 1))) (nI (par t (r + 1))) = true := eqv_low (low_int 0 _)
      rw [ev]
      refine .inr ⟨by simp, by rw [htk]; exact w, rfl, by rw [htk]; exact q⟩
def w_law_k02_L1 : WS := wFor (wiSeq (wCall S_places_k02 (aCons (wVar 1) (aCons (wVar 3) aNil)))) (gNm 5)
    (wIfS (wOr (wNot (wTest (wCall S_right_k02 (aCons (wVar 3) (aCons (wVar 5) aNil))))) (wOr (wNot (wTest (wCall S_right_k02 (aCons (wVar 4) (aCons (wVar 5) aNil))))) (wNot (wTest (wCall S_right_k02 (aCons (wVar 3) (aCons (wVar 5) aNil)))))))
    (wRet (wC (.p (.bool false))))
    wNext)
def w_law_k02_L2 : WS := wFor (wiR1 (aCons (wC (.p (.int 2))) aNil)) (gNm 2)
    (wSeq (wAsg (wCall S_some_tree_k01 (aCons (wVar 1) aNil)) (gNm 3))
    (wSeq (wIfS (wOr (wNot (wTest (wCall S_whole_k02 (aCons (wCall S_trees_many (aCons (wVar 3) aNil)) aNil)))) (wTest (wOp mNe (wCall S_trees_many (aCons (wVar 3) aNil)) (wOp mAdd (wCB mLen (aCons (wVar 3) aNil)) (wC (.p (.int 1)))))))
    (wRet (wC (.p (.bool false))))
    wNext)
    (wSeq (wAsg (wCall S_moved_k02 (aCons (wVar 1) (aCons (wVar 3) aNil))) (gNm 4))
    w_law_k02_L1)))
def w_law_k02 : WS :=
    (wSeq (wAsg (wLstC (aCons (wCB mList (aCons (wSl (wVar 0) oNone (oSome (wC (.p (.int 63))))) aNil)) (aCons (wC (.p (.int 0))) (aCons (wC (.p (.int 0))) (aCons (wC (.p (.int 0))) aNil))))) (gNm 1))
    (wSeq w_law_k02_L2
    (wRet (wC (.p (.bool true))))))
def I02 (ns : List Int) (s : Store) (k : Nat) (e : M.Env) (st : Store) : Prop := ∃ (o : MO) (a b c d : Option SV), Tape k o ∧ e = [some (.ro ns), some (.c s.length), a, b, c, d] ∧ st = s ++ [o]
theorem k02_loop {ns : List Int} {s : Store} {t u : List Nat} (T : Tr t) (U : Tr u) (hu : u.length = t.length) {o : MO} {k : Nat} (Tp : Tape k o) (hk : k < 2 ^ 39) (a b0 : Option SV) {D : ME} (hD : ∀ o' b, Tape (k + 12) o' → D.nx [some (.ro ns), some (.c s.length), a, some (.p (tv t)), some (.p (tv u)), b] (s ++ [o'])) :
    w_law_k02_L1 D [some (.ro ns), some (.c s.length), a, some (.p (tv t)), some (.p (tv u)), b0] (s ++ [o]) := by
  unfold w_law_k02_L1
  refine for_call (st1 := s ++ [o]) (ds := [.c s.length, .p (tv t)]) (fun Q hQ => by walk_at "m"; exact hQ) ⟨s.length, k, o, t, rfl, T, st_last, Tp, hk, fun ps o' hps hl T2 => ?_⟩
  rw [st_set]
  refine for_seq (st1 := s ++ [o']) (.p (.list (ps.map nI))) (ps.map nI) (fun _ => rfl) (fun Q hQ => hQ) (fun j e st => ∃ b, e = [some (.ro ns), some (.c s.length), a, some (.p (tv t)), some (.p (tv u)), b] ∧ st = s ++ [o']) ⟨_, rfl, rfl⟩ ?_ ?_
  · rintro j d e st hd ⟨b, rfl, rfl⟩
    rw [List.getElem?_map] at hd
    obtain ⟨p, hp, rfl⟩ := Option.map_eq_some_iff.mp hd
    have hp' := hps p (List.mem_of_getElem? hp)
    walk_at "m"
    refine ⟨t, p, rfl, T, hp', ?_⟩
    walk_at "m"
    refine ⟨u, p, rfl, U, by omega, ?_⟩
    walk_at "m"
    refine ⟨t, p, rfl, T, hp', ?_⟩
    walk_at "m"
    exact .inl ⟨_, rfl, rfl⟩
  · rintro e st ⟨b, rfl, rfl⟩
    exact hD o' b T2
theorem r_law_k02 (ds : List SV) (s : Store) (R : SV → Store → Prop) (w : Wf s) (h : S_law ds s R) : w_law_k02 (fnEnds s.length R) (startE 6 ds) s := by
  obtain ⟨ns, rfl, hl, q⟩ := h
  show w_law_k02 _ [some (.ro ns), none, none, none, none, none] s
  unfold w_law_k02
  walk_at "m"
  refine ⟨by decide, ?_⟩
  unfold w_law_k02_L2
  refine for_rng 0 1 2 (fun Q hQ => ?_) (fun j e st => I02 ns s (j * 700) e st) ⟨_, none, none, none, none, ⟨_, _, _, _, rfl, by decide, by decide⟩, rfl, rfl⟩ ?_ ?_
  · unfold wiR1
    walk_at "m"
    exact ⟨by decide, by decide, hQ⟩
  · rintro j e st hj ⟨o, a, b, c, d, To, rfl, rfl⟩
    walk_at "m"
    refine ⟨s.length, j * 700, o, rfl, st_last, To, by omega, fun t o' T T2 => ?_⟩
    rw [st_set]
    walk_at "m"
    refine ⟨t, rfl, ?_⟩
    refine ⟨_, rfl, ⟨_, rfl⟩, ?_⟩
    simp only [wholeOf]
    walk_at "m"
    refine ⟨t, rfl, ?_⟩
    simp only [tv]
    walk_at "m"
    have e1 : ((t.length + 1 : Nat) : Int) = (t.length : Int) + 1 := by omega
    simp only [e1]
    walk_at "m"
    refine ⟨s.length, j * 700 + 600, o', t, rfl, T, st_last, T2, by omega, fun u o2 U hu T3 => ?_⟩
    rw [st_set]
    refine k02_loop T U hu T3 (by omega) _ _ fun o3 b T4 => .inl ⟨o3, _, _, _, _, T4.up (by omega), rfl, rfl⟩
  · rintro e st ⟨o, a, b, c, d, To, rfl, rfl⟩
    walk_at "m"
    exact .inl (q _)
end M

namespace M
open PySem PySem.Spec PyProof.Rows L2
local macro_rules | `(tactic| walk_at "m") => `(tactic| simp (maxSteps := 2000000) (implicitDefEqProofs := false) only [v_0, v_s, e_c, e_op, e_test, e_and, e_or, e_not, e_andv, e_orv, e_notv, e_ife, e_chain, e_anil, e_acons, e_cb, e_call, e_tup, e_lst, e_lstc, e_sl, e_onone, e_osome, e_mt, e_isi, e_neg, e_rd, s_augs, e_lrg, e_lrgc, e_callx, e_orx, e_isx, e_isxt, e_place, s_raisep, s_raiset, s_try, s_frzv, isNone_x, x_ex, x_pl, xis_pp, xis_pt, xis_pm, xis_pl, xis_V, xis_R, xis_tt, xis_tp, xis_tm, xis_tl, xis_mm, xis_mp, xis_mt, xis_ml, xis_ll, xis_lp, xis_lt, xis_lm, List.any_cons, List.any_nil, in_errs0, in_errs1, in_errs2, in_errs3, m_in, m_notin, m_isb, m_notb,
  s_seq, s_next, s_break, s_cont, s_never, s_drop, s_ret, s_retn, s_if, s_asg, s_par, s_retf, s_retf2, wipeE, List.append_assoc, List.cons_append, List.nil_append, g_nm, g_snil, g_scons, g_tp, g_sb, m_int, m_sub, m_lt, m_le, m_gt, m_ge, m_mod, m_div, m_pow, m_add, m_addt, m_addl, m_adds, m_mul, m_mulc, m_isn, m_notn, m_eq, m_ne, p_p,
  q_t, q_l, q_tt, l_l, t_t, t_tt, m_ixt, m_ixl, m_ixtt, m_lent, m_lenl, m_lentt, m_max2, m_min2, m_intb, m_listt, m_listl, m_tuplel, m_app, m_setl, sl_t, sl_r, sl_l, isNone, tyName, isB, mkTup, allP, allP_map, Option.map_some, map_p_inj,
  q_cc, l_cc, p_cc, ty_cc, m_ixcc, m_lencc, m_tuplecc, m_listcc, asL_l, Option.bind_some, mkTup_p, st_at, st_setk, st_at0, st_set0, st_take, st_atS, st_setS, st_atS0, st_setS0, st_takeS, List.length_set, List.set_set, ix40, ix41, ix42, ix43, Nat.reduceAdd, Nat.zero_add, at_nat', at_succ, at_0, at_1, at_2, at_3, at_4, at_m1, eqv_int, eqv_bool, sh_int, sh_bool, sh_none, fnEnds, wYes, gNm,
  List.getElem?_cons_zero, List.getElem?_cons_succ, List.set_cons_zero, List.set_cons_succ, List.getElem?_map, List.length_map, List.length_cons, List.length_nil, List.length_append, List.map_cons, List.map_nil,
  Option.some.injEq, SV.p.injEq, SV.c.injEq, PyData.int.injEq, PyData.bool.injEq, exists_eq_left', exists_eq_left, exists_eq_right, exists_eq', exists_eq, exists_and_left, true_and, and_true, true_or, or_true, MO.lst.injEq, Bool.not_true, Bool.not_false, if_true, if_false, Bool.false_eq_true, ↓reduceIte, beq_self_eq_true, String.reduceBEq, Bool.or_false, Bool.false_or, Bool.and_false, Bool.false_and, Bool.or_true, Bool.true_or, decide_eq_true_eq, beq_iff_eq, Bool.not_eq_true])
local macro_rules | `(tactic| walk_at "mh") => `(tactic| simp (maxSteps := 2000000) (implicitDefEqProofs := false) only [v_0, v_s, e_c, e_op, e_test, e_and, e_or, e_not, e_andv, e_orv, e_notv, e_ife, e_chain, e_anil, e_acons, e_cb, e_call, e_tup, e_lst, e_lstc, e_sl, e_onone, e_osome, e_mt, e_isi, e_neg, e_rd, s_augs, e_lrg, e_lrgc, e_callx, e_orx, e_isx, e_isxt, e_place, s_raisep, s_raiset, s_try, s_frzv, isNone_x, x_ex, x_pl, xis_pp, xis_pt, xis_pm, xis_pl, xis_V, xis_R, xis_tt, xis_tp, xis_tm, xis_tl, xis_mm, xis_mp, xis_mt, xis_ml, xis_ll, xis_lp, xis_lt, xis_lm, List.any_cons, List.any_nil, in_errs0, in_errs1, in_errs2, in_errs3, m_in, m_notin, m_isb, m_notb,
  s_seq, s_next, s_break, s_cont, s_never, s_drop, s_ret, s_retn, s_if, s_asg, s_par, s_retf, s_retf2, wipeE, List.append_assoc, List.cons_append, List.nil_append, g_nm, g_snil, g_scons, g_tp, g_sb, m_int, m_sub, m_lt, m_le, m_gt, m_ge, m_mod, m_div, m_pow, m_add, m_addt, m_addl, m_adds, m_mul, m_mulc, m_isn, m_notn, m_eq, m_ne, p_p,
  q_t, q_l, q_tt, l_l, t_t, t_tt, m_ixt, m_ixl, m_ixtt, m_lent, m_lenl, m_lentt, m_max2, m_min2, m_intb, m_listt, m_listl, m_tuplel, m_app, m_setl, sl_t, sl_r, sl_l, isNone, tyName, isB, mkTup, allP, allP_map, Option.map_some, map_p_inj,
  q_cc, l_cc, p_cc, ty_cc, m_ixcc, m_lencc, m_tuplecc, m_listcc, asL_l, Option.bind_some, mkTup_p, st_at, st_setk, st_at0, st_set0, st_take, st_atS, st_setS, st_atS0, st_setS0, st_takeS, List.length_set, List.set_set, ix40, ix41, ix42, ix43, Nat.reduceAdd, Nat.zero_add, at_nat', at_succ, at_0, at_1, at_2, at_3, at_4, at_m1, eqv_int, eqv_bool, sh_int, sh_bool, sh_none, fnEnds, wYes, gNm,
  List.getElem?_cons_zero, List.getElem?_cons_succ, List.set_cons_zero, List.set_cons_succ, List.getElem?_map, List.length_map, List.length_cons, List.length_nil, List.length_append, List.map_cons, List.map_nil,
  Option.some.injEq, SV.p.injEq, SV.c.injEq, PyData.int.injEq, PyData.bool.injEq, exists_eq_left', exists_eq_left, exists_eq_right, exists_eq', exists_eq, exists_and_left, true_and, and_true, true_or, or_true, MO.lst.injEq, Bool.not_true, Bool.not_false, if_true, if_false, Bool.false_eq_true, ↓reduceIte, beq_self_eq_true, String.reduceBEq, Bool.or_false, Bool.false_or, Bool.and_false, Bool.false_and, Bool.or_true, Bool.true_or, decide_eq_true_eq, beq_iff_eq, Bool.not_eq_true, tp_at0, tp_at, tp_set, Option.map_none, Option.some.injEq, *])
def OkD : PyData → Prop
  | .dict _ => False
  | _ => True
theorem okD_ty {d : PyData} (h : OkD d) (st : Store) : ∃ n, tyName st (.p d) = some n := by
  cases d with
  | dict _ => exact h.elim
  | _ => exact ⟨_, rfl⟩
def S_cuts_is_whole : MSp := S_whole_k02
def w_cuts_is_whole : WS :=
    (wRet (wAndV (wIsi "int" (wVar 0)) (wNotV (wIsi "bool" (wVar 0)))))
theorem r_cuts_is_whole (ds : List SV) (s : Store) (R : SV → Store → Prop) (w : Wf s) (h : S_cuts_is_whole ds s R) : w_cuts_is_whole (fnEnds s.length R) (startE 1 ds) s := r_whole_k02 ds s R w h
def gbB (t : List Nat) (v : Nat) : PyData → Bool
  | .none => true
  | .int i => decide (0 < i ∧ i ≤ (t.length : Int) ∧ t[(i - 1).toNat]? = some v)
  | _ => false
def S_cuts_goes_below : MSp := fun ds st R => ∃ t v d, ds = [.p (tv t), .p (nI v), .p d] ∧ OkD d ∧ R (.p (.bool (gbB t v d))) st
def w_cuts_goes_below : WS :=
    (wSeq (wIfS (wTest (wOp mIsN (wVar 2) (wC (.p .none))))
    (wRet (wC (.p (.bool true))))
    wNext)
    (wRet (wAndV (wCall S_cuts_is_whole (aCons (wVar 2) aNil)) (wAndV (wChain mLt mLe (wC (.p (.int 0))) (wVar 2) (wCB mLen (aCons (wVar 0) aNil))) (wOp mEq (wOp mIx (wVar 0) (wOp mSub (wVar 2) (wC (.p (.int 1))))) (wVar 1))))))
theorem r_cuts_goes_below (ds : List SV) (s : Store) (R : SV → Store → Prop) (w : Wf s) (h : S_cuts_goes_below ds s R) : w_cuts_goes_below (fnEnds s.length R) (startE 3 ds) s := by
  obtain ⟨t, v, d, rfl, ok, q⟩ := h
  show w_cuts_goes_below _ [some (.p (.tuple (t.map nI))), some (.p (.int (v : Nat))), some (.p d)] s
  unfold w_cuts_goes_below
  have no : wholeOf (.p d) = false → isNone (.p d) = false → gbB t v d = false → wSeq (wIfS (wTest (wOp mIsN (wVar 2) (wC (.p .none)))) (wRet (wC (.p (.bool true)))) wNext)
      (wRet (wAndV (wCall S_cuts_is_whole (aCons (wVar 2) aNil)) (wAndV (wChain mLt mLe (wC (.p (.int 0))) (wVar 2) (wCB mLen (aCons (wVar 0) aNil))) (wOp mEq (wOp mIx (wVar 0) (wOp mSub (wVar 2) (wC (.p (.int 1))))) (wVar 1)))))
      (fnEnds s.length R) [some (.p (.tuple (t.map nI))), some (.p (.int (v : Nat))), some (.p d)] s := fun h1 h2 h3 => by
    simp only [s_seq, s_if, e_test, e_op, v_0, v_s, e_c, m_isn, h2, SV.p.injEq, PyData.bool.injEq, exists_eq_left', Bool.false_eq_true, if_false, s_next, s_ret, e_andv, e_call, e_acons, e_anil]
    refine ⟨_, rfl, okD_ty ok s, ?_⟩
    rw [h1]
    refine ⟨false, rfl, ?_⟩
    rw [if_neg (by decide)]
    rw [h3] at q
    exact .inl q
  cases d with
  | none =>
    walk_at "m"
    exact .inl q
  | bool b => exact no rfl rfl rfl
  | str z => exact no rfl rfl rfl
  | list l => exact no rfl rfl rfl
  | tuple l => exact no rfl rfl rfl
  | dict l => exact ok.elim
  | int i =>
    simp only [s_seq, s_if, e_test, e_op, v_0, v_s, e_c, m_isn, isNone, SV.p.injEq, PyData.bool.injEq, exists_eq_left', Bool.false_eq_true, if_false, s_next, s_ret, e_andv, e_call, e_acons, e_anil]
    refine ⟨_, rfl, okD_ty ok s, ?_⟩
    simp only [wholeOf]
    walk_at "m"
    refine ite2 (fun h0 => ite2 (fun h1 => ?_) (fun h1 => ?_)) (fun h0 => ?_)
    · obtain ⟨j, rfl⟩ : ∃ j : Nat, i = (j : Int) + 1 := ⟨(i - 1).toNat, by omega⟩
      have e1 : (j : Int) + 1 - 1 = (j : Nat) := by omega
      have ht : t[j]? = some t[j] := List.getElem?_eq_getElem (by omega)
      rw [e1]
      refine ⟨.p (nI t[j]), by rw [at_nat', List.getElem?_map, List.getElem?_map, ht]; rfl, ?_⟩
      simp only [nI]
      walk_at "m"
      refine .inl ?_
      have e2 : gbB t v (.int ((j : Int) + 1)) = ((t[j] : Int) == (v : Int)) := by
        show decide (0 < (j : Int) + 1 ∧ (j : Int) + 1 ≤ (t.length : Int) ∧ t[((j : Int) + 1 - 1).toNat]? = some v) = _
        rw [e1, Int.toNat_natCast, ht, Bool.eq_iff_iff, decide_eq_true_iff, beq_iff_eq, Option.some.injEq]
        omega
      rw [e2] at q
      exact q
    · have e2 : gbB t v (.int i) = false := by
        show decide (0 < i ∧ i ≤ (t.length : Int) ∧ t[(i - 1).toNat]? = some v) = false
        rw [decide_eq_false_iff_not]
        omega
      rw [e2] at q
      exact .inl q
    · have e2 : gbB t v (.int i) = false := by
        show decide (0 < i ∧ i ≤ (t.length : Int) ∧ t[(i - 1).toNat]? = some v) = false
        rw [decide_eq_false_iff_not]
        omega
      rw [e2] at q
      exact .inl q
def icB (t : List Nat) : PyData → Bool
  | .tuple ds => ds.length == t.length + 1 && ((List.range ds.length).map fun i => gbB t i (ds.getD i .none)).all id
  | _ => false
def OkT : PyData → Prop
  | .tuple ds => ∀ d ∈ ds, OkD d
  | d => OkD d
theorem okT_ty {d : PyData} (h : OkT d) (st : Store) : ∃ n, tyName st (.p d) = some n := by
  cases d with
  | dict _ => exact h.elim
  | _ => exact ⟨_, rfl⟩
def S_cuts_is_cut : MSp := fun ds st R => ∃ t d, ds = [.p (tv t), .p d] ∧ Tr t ∧ OkT d ∧ R (.p (.bool (icB t d))) st
def w_cuts_is_cut : WS :=
    (wSeq (wIfS (wOr (wNot (wTest (wIsi "tuple" (wVar 1)))) (wTest (wOp mNe (wCB mLen (aCons (wVar 1) aNil)) (wCall S_trees_many (aCons (wVar 0) aNil)))))
    (wRet (wC (.p (.bool false))))
    wNext)
    (wRet (wCB mAll (aCons (wLc (wiEnum (aCons (wVar 1) aNil)) (gTp 2 (gsCons (gNm 2) (gsCons (gNm 3) gsNil))) wYes (wCall S_cuts_goes_below (aCons (wVar 0) (aCons (wVar 2) (aCons (wVar 3) aNil)))) [2, 3]) aNil))))
theorem r_cuts_is_cut (ds : List SV) (s : Store) (R : SV → Store → Prop) (w : Wf s) (h : S_cuts_is_cut ds s R) : w_cuts_is_cut (fnEnds s.length R) (startE 4 ds) s := by
  obtain ⟨t, d, rfl, T, ok, q⟩ := h
  show w_cuts_is_cut _ [some (.p (.tuple (t.map nI))), some (.p d), none, none] s
  have hl := T.len
  unfold w_cuts_is_cut
  have no : ∀ n, tyName s (.p d) = some n → isB n "tuple" = false → icB t d = false → wSeq (wIfS (wOr (wNot (wTest (wIsi "tuple" (wVar 1)))) (wTest (wOp mNe (wCB mLen (aCons (wVar 1) aNil)) (wCall S_trees_many (aCons (wVar 0) aNil))))) (wRet (wC (.p (.bool false)))) wNext)
      (wRet (wCB mAll (aCons (wLc (wiEnum (aCons (wVar 1) aNil)) (gTp 2 (gsCons (gNm 2) (gsCons (gNm 3) gsNil))) wYes (wCall S_cuts_goes_below (aCons (wVar 0) (aCons (wVar 2) (aCons (wVar 3) aNil)))) [2, 3]) aNil)))
      (fnEnds s.length R) [some (.p (.tuple (t.map nI))), some (.p d), none, none] s := fun n h1 h2 h3 => by
    simp only [s_seq, s_if, e_or, e_not, e_test, e_isi, v_0, v_s, h1, h2, Option.some.injEq, SV.p.injEq, PyData.bool.injEq, exists_eq_left', exists_eq_left, Bool.not_false, if_true, s_ret, e_c]
    rw [h3] at q
    exact .inl q
  cases d with
  | none => exact no _ rfl rfl rfl
  | bool b => exact no _ rfl rfl rfl
  | int b => exact no _ rfl rfl rfl
  | str z => exact no _ rfl rfl rfl
  | list l => exact no _ rfl rfl rfl
  | dict l => exact ok.elim
  | tuple l =>
    walk_at "m"
    refine ⟨t, rfl, ?_⟩
    walk_at "m"
    by_cases hn : l.length = t.length + 1
    · refine ite2 (fun h => ?_) (fun _ => ?_)
      · simp at h; omega
      · refine lc_enum (st1 := s) (.p (.tuple l)) l (fun i => some (.bool (gbB t i (l.getD i .none)))) (fun _ => rfl) (fun Q hQ => by walk_at "m"; exact hQ) (by rw [sizeLine_eq]; omega) (fun i d acc Y Z hd hY hZ => ?_) w ?_
        · walk_at "m"
          refine ⟨t, i, d, rfl, ok d (List.mem_of_getElem? hd), ?_⟩
          have := hY _ rfl
          rw [List.getD, hd] at this
          simpa using this
        · rw [filterMap_map]
          refine ⟨(List.range l.length).map fun i => gbB t i (l.getD i .none), congrArg (fun z => some (List.map SV.p z)) List.map_map.symm, .inl ?_⟩
          have q2 : R (.p (.bool (l.length == t.length + 1 && ((List.range l.length).map fun i => gbB t i (l.getD i .none)).all id))) s := q
          rw [beq_iff_eq.mpr hn, Bool.true_and] at q2
          exact q2
    · refine ite2 (fun _ => ?_) (fun h => ?_)
      · have q2 : R (.p (.bool (l.length == t.length + 1 && ((List.range l.length).map fun i => gbB t i (l.getD i .none)).all id))) s := q
        rw [beq_eq_false_iff_ne.mpr hn, Bool.false_and] at q2
        exact .inl q2
      · simp at h; omega
end M

namespace M
open PySem PySem.Spec PyProof.Rows L2
local macro_rules | `(tactic| walk_at "m") => `(tactic| simp (maxSteps := 2000000) (implicitDefEqProofs := false) only [e_revs, m_revt, m_revl, e_listrev, m_mult, e_dnew, e_din, e_dnotin, s_dput, m_lend, dct_inj, m_rvs, m_pop0, m_ext1, m_addc, v_0, v_s, e_c, e_op, e_test, e_and, e_or, e_not, e_andv, e_orv, e_notv, e_ife, e_chain, e_anil, e_acons, e_cb, e_call, e_tup, e_lst, e_lstc, e_sl, e_onone, e_osome, e_mt, e_isi, e_neg, e_rd, s_augs, e_lrg, e_lrgc, e_callx, e_orx, e_isx, e_isxt, e_place, s_raisep, s_raiset, s_try, s_frzv, isNone_x, x_ex, x_pl, xis_pp, xis_pt, xis_pm, xis_pl, xis_V, xis_R, xis_tt, xis_tp, xis_tm, xis_tl, xis_mm, xis_mp, xis_mt, xis_ml, xis_ll, xis_lp, xis_lt, xis_lm, List.any_cons, List.any_nil, in_errs0, in_errs1, in_errs2, in_errs3, m_in, m_notin, m_isb, m_notb,
  s_seq, s_next, s_break, s_cont, s_never, s_drop, s_ret, s_retn, s_if, s_asg, s_par, s_retf, s_retf2, wipeE, List.append_assoc, List.cons_append, List.nil_append, g_nm, g_snil, g_scons, g_tp, g_sb, m_int, m_sub, m_lt, m_le, m_gt, m_ge, m_mod, m_div, m_pow, m_add, m_addt, m_addl, m_adds, m_mul, m_mulc, m_isn, m_notn, m_eq, m_ne, p_p,
  q_t, q_l, q_tt, l_l, t_t, t_tt, m_ixt, m_ixl, m_ixtt, m_lent, m_lenl, m_lentt, m_max2, m_min2, m_intb, m_listt, m_listl, m_tuplel, m_app, m_setl, sl_t, sl_r, sl_l, isNone, tyName, isB, mkTup, allP, allP_map, Option.map_some, map_p_inj,
  q_cc, l_cc, p_cc, ty_cc, m_ixcc, m_lencc, m_tuplecc, m_listcc, asL_l, Option.bind_some, mkTup_p, st_at, st_setk, st_at0, st_set0, st_take, st_atS, st_setS, st_atS0, st_setS0, st_takeS, List.length_set, List.set_set, ix40, ix41, ix42, ix43, Nat.reduceAdd, Nat.zero_add, at_nat', at_succ, at_0, at_1, at_2, at_3, at_4, at_m1, eqv_int, eqv_bool, sh_int, sh_bool, sh_none, fnEnds, wYes, gNm,
  List.getElem?_cons_zero, List.getElem?_cons_succ, List.set_cons_zero, List.set_cons_succ, List.getElem?_map, List.length_map, List.length_cons, List.length_nil, List.length_append, List.map_cons, List.map_nil,
  Option.some.injEq, SV.p.injEq, SV.c.injEq, PyData.int.injEq, PyData.bool.injEq, exists_eq_left', exists_eq_left, exists_eq_right, exists_eq', exists_eq, exists_and_left, true_and, and_true, true_or, or_true, MO.lst.injEq, Bool.not_true, Bool.not_false, if_true, if_false, Bool.false_eq_true, ↓reduceIte, beq_self_eq_true, String.reduceBEq, Bool.or_false, Bool.false_or, Bool.and_false, Bool.false_and, Bool.or_true, Bool.true_or, decide_eq_true_eq, beq_iff_eq, Bool.not_eq_true])
local macro_rules | `(tactic| walk_at "mh") => `(tactic| simp (maxSteps := 2000000) (implicitDefEqProofs := false) only [e_revs, m_revt, m_revl, e_listrev, m_mult, e_dnew, e_din, e_dnotin, s_dput, m_lend, dct_inj, m_rvs, m_pop0, m_ext1, m_addc, v_0, v_s, e_c, e_op, e_test, e_and, e_or, e_not, e_andv, e_orv, e_notv, e_ife, e_chain, e_anil, e_acons, e_cb, e_call, e_tup, e_lst, e_lstc, e_sl, e_onone, e_osome, e_mt, e_isi, e_neg, e_rd, s_augs, e_lrg, e_lrgc, e_callx, e_orx, e_isx, e_isxt, e_place, s_raisep, s_raiset, s_try, s_frzv, isNone_x, x_ex, x_pl, xis_pp, xis_pt, xis_pm, xis_pl, xis_V, xis_R, xis_tt, xis_tp, xis_tm, xis_tl, xis_mm, xis_mp, xis_mt, xis_ml, xis_ll, xis_lp, xis_lt, xis_lm, List.any_cons, List.any_nil, in_errs0, in_errs1, in_errs2, in_errs3, m_in, m_notin, m_isb, m_notb,
  s_seq, s_next, s_break, s_cont, s_never, s_drop, s_ret, s_retn, s_if, s_asg, s_par, s_retf, s_retf2, wipeE, List.append_assoc, List.cons_append, List.nil_append, g_nm, g_snil, g_scons, g_tp, g_sb, m_int, m_sub, m_lt, m_le, m_gt, m_ge, m_mod, m_div, m_pow, m_add, m_addt, m_addl, m_adds, m_mul, m_mulc, m_isn, m_notn, m_eq, m_ne, p_p,
  q_t, q_l, q_tt, l_l, t_t, t_tt, m_ixt, m_ixl, m_ixtt, m_lent, m_lenl, m_lentt, m_max2, m_min2, m_intb, m_listt, m_listl, m_tuplel, m_app, m_setl, sl_t, sl_r, sl_l, isNone, tyName, isB, mkTup, allP, allP_map, Option.map_some, map_p_inj,
  q_cc, l_cc, p_cc, ty_cc, m_ixcc, m_lencc, m_tuplecc, m_listcc, asL_l, Option.bind_some, mkTup_p, st_at, st_setk, st_at0, st_set0, st_take, st_atS, st_setS, st_atS0, st_setS0, st_takeS, List.length_set, List.set_set, ix40, ix41, ix42, ix43, Nat.reduceAdd, Nat.zero_add, at_nat', at_succ, at_0, at_1, at_2, at_3, at_4, at_m1, eqv_int, eqv_bool, sh_int, sh_bool, sh_none, fnEnds, wYes, gNm,
  List.getElem?_cons_zero, List.getElem?_cons_succ, List.set_cons_zero, List.set_cons_succ, List.getElem?_map, List.length_map, List.length_cons, List.length_nil, List.length_append, List.map_cons, List.map_nil,
  Option.some.injEq, SV.p.injEq, SV.c.injEq, PyData.int.injEq, PyData.bool.injEq, exists_eq_left', exists_eq_left, exists_eq_right, exists_eq', exists_eq, exists_and_left, true_and, and_true, true_or, or_true, MO.lst.injEq, Bool.not_true, Bool.not_false, if_true, if_false, Bool.false_eq_true, ↓reduceIte, beq_self_eq_true, String.reduceBEq, Bool.or_false, Bool.false_or, Bool.and_false, Bool.false_and, Bool.or_true, Bool.true_or, decide_eq_true_eq, beq_iff_eq, Bool.not_eq_true, tp_at0, tp_at, tp_set, Option.map_none, Option.some.injEq, *])
def leB (i : Nat) : PyData → Bool
  | .int z => decide (0 ≤ z) && decide (z ≤ (i : Int))
  | _ => false
theorem leB_int (i : Nat) (z : Int) : leB i (.int z) = (decide (0 ≤ z) && decide (z ≤ (i : Int))) := rfl
def itB : PyData → Bool
  | .tuple ds => decide (ds.length < 200) && ((List.range ds.length).map fun i => leB i (ds.getD i .none)).all id
  | _ => false
def S_trees_is_tree : MSp := fun ds st R => ∃ d, ds = [.p d] ∧ OkT d ∧ R (.p (.bool (itB d))) st
def w_trees_is_tree : WS :=
    (wSeq (wIfS (wOr (wNot (wTest (wIsi "tuple" (wVar 0)))) (wTest (wOp mGe (wCB mLen (aCons (wVar 0) aNil)) (wC (.p (.int 200))))))
    (wRet (wC (.p (.bool false))))
    wNext)
    (wRet (wCB mAll (aCons (wLc (wiEnum (aCons (wVar 0) aNil)) (gTp 2 (gsCons (gNm 1) (gsCons (gNm 2) gsNil))) wYes (wAndV (wCall S_cuts_is_whole (aCons (wVar 2) aNil)) (wChain mLe mLe (wC (.p (.int 0))) (wVar 2) (wVar 1))) [1, 2]) aNil))))
theorem r_trees_is_tree (ds : List SV) (s : Store) (R : SV → Store → Prop) (w : Wf s) (h : S_trees_is_tree ds s R) : w_trees_is_tree (fnEnds s.length R) (startE 3 ds) s := by
  obtain ⟨d, rfl, ok, q⟩ := h
  show w_trees_is_tree _ [some (.p d), none, none] s
  unfold w_trees_is_tree
  have no : ∀ n, tyName s (.p d) = some n → isB n "tuple" = false → itB d = false → wSeq (wIfS (wOr (wNot (wTest (wIsi "tuple" (wVar 0)))) (wTest (wOp mGe (wCB mLen (aCons (wVar 0) aNil)) (wC (.p (.int 200)))))) (wRet (wC (.p (.bool false)))) wNext)
      (wRet (wCB mAll (aCons (wLc (wiEnum (aCons (wVar 0) aNil)) (gTp 2 (gsCons (gNm 1) (gsCons (gNm 2) gsNil))) wYes (wAndV (wCall S_cuts_is_whole (aCons (wVar 2) aNil)) (wChain mLe mLe (wC (.p (.int 0))) (wVar 2) (wVar 1))) [1, 2]) aNil)))
      (fnEnds s.length R) [some (.p d), none, none] s := fun n h1 h2 h3 => by
    simp only [s_seq, s_if, e_or, e_not, e_test, e_isi, v_0, v_s, h1, h2, Option.some.injEq, SV.p.injEq, PyData.bool.injEq, exists_eq_left', exists_eq_left, Bool.not_false, if_true, s_ret, e_c]
    rw [h3] at q
    exact .inl q
  cases d with
  | none => exact no _ rfl rfl rfl
  | bool b => exact no _ rfl rfl rfl
  | int b => exact no _ rfl rfl rfl
  | str z => exact no _ rfl rfl rfl
  | list l => exact no _ rfl rfl rfl
  | dict l => exact ok.elim
  | tuple l =>
    walk_at "m"
    refine ite2 (fun h => ?_) (fun h => ?_)
    · have h2 : itB (.tuple l) = false := by
        show (decide (l.length < 200) && _) = false
        rw [decide_eq_false (by omega), Bool.false_and]
      rw [h2] at q
      exact .inl q
    · refine lc_enum (st1 := s) (.p (.tuple l)) l (fun i => some (.bool (leB i (l.getD i .none)))) (fun _ => rfl) (fun Q hQ => by walk_at "m"; exact hQ) (by rw [sizeLine_eq]; omega) (fun i d acc Y Z hd hY hZ => ?_) w ?_
      · have ok2 := ok d (List.mem_of_getElem? hd)
        have hY := hY _ rfl
        rw [List.getD, hd] at hY
        obtain ⟨n, hn⟩ := okD_ty ok2 (s ++ [.lst (acc.map SV.p)])
        walk_at "m"
        refine ⟨_, rfl, ⟨n, hn⟩, ?_⟩
        have no : wholeOf (.p d) = false → leB i d = false → (if wholeOf (.p d) = true then mLe (.p (.int 0)) (.p d) (s ++ [.lst (acc.map SV.p)]) fun z s3 => ∃ k, z = .p (.bool k) ∧ if k = true then mLe (.p d) (.p (.int (i : Nat))) s3 Y else Y (.p (.bool false)) s3 else Y (.p (.bool false)) (s ++ [.lst (acc.map SV.p)])) := fun h1 h2 => by
          rw [h1]
          simp only [Option.getD_some, h2] at hY
          exact hY
        cases d with
        | int z =>
          simp only [wholeOf]
          walk_at "m"
          refine ite2 (fun h => ?_) (fun h => ?_)
          · have : leB i (.int z) = decide (z ≤ (i : Int)) := by rw [leB_int, decide_eq_true h, Bool.true_and]
            simp only [Option.getD_some, this] at hY
            exact hY
          · have : leB i (.int z) = false := by rw [leB_int, decide_eq_false h, Bool.false_and]
            simp only [Option.getD_some, this] at hY
            exact hY
        | _ => first | exact ok2.elim | (simp only [wholeOf]; walk_at "m"; simpa [leB] using hY)
      · rw [filterMap_map]
        refine ⟨(List.range l.length).map fun i => leB i (l.getD i .none), congrArg (fun z => some (List.map SV.p z)) List.map_map.symm, .inl ?_⟩
        have q2 : R (.p (.bool (decide (l.length < 200) && ((List.range l.length).map fun i => leB i (l.getD i .none)).all id))) s := q
        rw [decide_eq_true (by omega), Bool.true_and] at q2
        exact q2
def S_is_tree_k01 : MSp := fun ds st R => ∃ d, ds = [.p d] ∧ OkT d ∧ R (.p (.bool (itB d))) st
def w_is_tree_k01_L1 : WS := wFor (wiR1 (aCons (wCB mLen (aCons (wVar 0) aNil)) aNil)) (gNm 1)
    (wIfS (wOr (wNot (wTest (wIsi "int" (wOp mIx (wVar 0) (wVar 1))))) (wOr (wTest (wIsi "bool" (wOp mIx (wVar 0) (wVar 1)))) (wNot (wTest (wChain mLe mLe (wC (.p (.int 0))) (wOp mIx (wVar 0) (wVar 1)) (wVar 1))))))
    (wRet (wC (.p (.bool false))))
    wNext)
def w_is_tree_k01 : WS :=
    (wSeq (wIfS (wOr (wNot (wTest (wIsi "tuple" (wVar 0)))) (wTest (wOp mGt (wCB mLen (aCons (wVar 0) aNil)) (wC (.p (.int 199))))))
    (wRet (wC (.p (.bool false))))
    wNext)
    (wSeq w_is_tree_k01_L1
    (wRet (wC (.p (.bool true))))))
theorem r_is_tree_k01 (ds : List SV) (s : Store) (R : SV → Store → Prop) (w : Wf s) (h : S_is_tree_k01 ds s R) : w_is_tree_k01 (fnEnds s.length R) (startE 2 ds) s := by
  obtain ⟨d, rfl, ok, q⟩ := h
  show w_is_tree_k01 _ [some (.p d), none] s
  unfold w_is_tree_k01
  have no : ∀ n, tyName s (.p d) = some n → isB n "tuple" = false → itB d = false → wSeq (wIfS (wOr (wNot (wTest (wIsi "tuple" (wVar 0)))) (wTest (wOp mGt (wCB mLen (aCons (wVar 0) aNil)) (wC (.p (.int 199)))))) (wRet (wC (.p (.bool false)))) wNext)
      (wSeq w_is_tree_k01_L1 (wRet (wC (.p (.bool true)))))
      (fnEnds s.length R) [some (.p d), none] s := fun n h1 h2 h3 => by
    simp only [s_seq, s_if, e_or, e_not, e_test, e_isi, v_0, v_s, h1, h2, Option.some.injEq, SV.p.injEq, PyData.bool.injEq, exists_eq_left', exists_eq_left, Bool.not_false, if_true, s_ret, e_c]
    rw [h3] at q
    exact .inl q
  cases d with
  | none => exact no _ rfl rfl rfl
  | bool b => exact no _ rfl rfl rfl
  | int b => exact no _ rfl rfl rfl
  | str z => exact no _ rfl rfl rfl
  | list l => exact no _ rfl rfl rfl
  | dict l => exact ok.elim
  | tuple l =>
    walk_at "m"
    refine ite2 (fun h => ?_) (fun h => ?_)
    · have h2 : itB (.tuple l) = false := by
        show (decide (l.length < 200) && _) = false
        rw [decide_eq_false (by omega), Bool.false_and]
      rw [h2] at q
      exact .inl q
    · have q2 : R (.p (.bool (decide (l.length < 200) && ((List.range l.length).map fun i => leB i (l.getD i .none)).all id))) s := q
      rw [decide_eq_true (by omega), Bool.true_and] at q2
      unfold w_is_tree_k01_L1
      refine for_rng 0 1 l.length (fun Q hQ => ?_) (fun j e st => (∃ b, e = [some (.p (.tuple l)), b] ∧ st = s) ∧ ∀ i, i < j → leB i (l.getD i .none) = true) ⟨⟨none, rfl, rfl⟩, fun i hi => by omega⟩ ?_ ?_
      · unfold wiR1
        walk_at "m"
        exact ⟨by omega, by omega, by simpa using hQ⟩
      · rintro j e st hj ⟨⟨b, rfl, rfl⟩, hb⟩
        have hd : l[j]? = some l[j] := List.getElem?_eq_getElem hj
        have e0 : (0 : Int) + (j : Nat) * 1 = (j : Nat) := by omega
        have hg : l.getD j .none = l[j] := by rw [List.getD, hd]; rfl
        have ok2 := ok l[j] (List.getElem_mem hj)
        have bad : leB j l[j] = false → RetTo st.length R (.p (.bool false)) st := fun hf => by
          have : ((List.range l.length).map fun i => leB i (l.getD i .none)).all id = false := by
            rw [List.all_eq_false]
            exact ⟨false, List.mem_map.mpr ⟨j, List.mem_range.mpr hj, by rw [hg, hf]⟩, by simp⟩
          rw [this] at q2
          exact .inl q2
        have good : ∀ b, leB j l[j] = true → Wk st.length (fun e s1 => (∃ b, e = [some (.p (.tuple l)), b] ∧ s1 = st) ∧ ∀ i, i < j + 1 → leB i (l.getD i .none) = true) [some (.p (.tuple l)), b] st := fun b ht => by
          refine .inl ⟨⟨_, rfl, rfl⟩, fun i hi => ?_⟩
          by_cases hij : i = j
          · subst hij; rw [hg]; exact ht
          · exact hb i (by omega)
        rw [e0]
        generalize l[j] = d at hd ok2 bad good hg
        cases d with
        | dict l => exact ok2.elim
        | bool x =>
          walk_at "m"
          refine ⟨_, by rw [hd]; rfl, "bool", rfl, ?_⟩
          rw [if_neg (by decide)]
          refine ⟨_, by rw [hd]; rfl, "bool", rfl, ?_⟩
          rw [if_pos rfl]
          exact bad rfl
        | int z =>
          walk_at "m"
          refine ⟨_, by rw [hd]; rfl, "int", rfl, ?_⟩
          rw [if_neg (by decide)]
          refine ⟨_, by rw [hd]; rfl, "int", rfl, ?_⟩
          rw [if_neg (by decide)]
          refine ⟨_, by rw [hd]; rfl, ?_⟩
          walk_at "m"
          refine ite2 (fun h => ?_) (fun h => ?_)
          · have : leB j (.int z) = decide (z ≤ (j : Int)) := by rw [leB_int, decide_eq_true h, Bool.true_and]
            rw [this] at bad good
            cases hq : decide (z ≤ (j : Int)) with
            | true => exact good _ hq
            | false => exact bad hq
          · have : leB j (.int z) = false := by rw [leB_int, decide_eq_false h, Bool.false_and]
            exact bad this
        | none => walk_at "m"; exact ⟨_, by rw [hd]; rfl, _, rfl, by rw [if_pos (by decide)]; exact bad rfl⟩
        | str z => walk_at "m"; exact ⟨_, by rw [hd]; rfl, _, rfl, by rw [if_pos (by decide)]; exact bad rfl⟩
        | list z => walk_at "m"; exact ⟨_, by rw [hd]; rfl, _, rfl, by rw [if_pos (by decide)]; exact bad rfl⟩
        | tuple z => walk_at "m"; exact ⟨_, by rw [hd]; rfl, _, rfl, by rw [if_pos (by decide)]; exact bad rfl⟩
      · rintro e st ⟨⟨b, rfl, rfl⟩, hb⟩
        have : ((List.range l.length).map fun i => leB i (l.getD i .none)).all id = true := by
          rw [List.all_eq_true]
          intro x hx
          obtain ⟨i, hi, rfl⟩ := List.mem_map.mp hx
          exact hb i (List.mem_range.mp hi)
        rw [this] at q2
        walk_at "m"
        exact .inl q2
theorem pick_in {l : List PyData} {r : Nat} (h : r < l.length) : atI (l.map SV.p) (r : Int) = some (.p l[r]) := by
  rw [at_nat', List.getElem?_map, List.getElem?_eq_getElem h]; rfl
theorem okD_nI {t : List Nat} {lo hi : Option Int} {d : PyData} (h : d ∈ cutL (t.map nI) lo hi) : OkD d := by
  obtain ⟨n, _, rfl⟩ := List.mem_map.mp (cutL_mem h)
  trivial
theorem okD_nI' {t : List Nat} {d : PyData} (h : d ∈ t.map nI) : OkD d := by
  obtain ⟨n, _, rfl⟩ := List.mem_map.mp h
  trivial
def S_spoilt_k01 : MSp := fun ds st R => ∃ (n k : Nat) (o : MO) (t : List Nat), ds = [.c n, .p (tv t)] ∧ Tr t ∧ st[n]? = some o ∧ Tape k o ∧ k < 2 ^ 39 ∧ ∀ d o', OkT d → Tape (k + 4) o' → R (.p d) (st.set n o')
def w_spoilt_k01 : WS :=
    (wSeq (wAsg (wCall S_draw_k01 (aCons (wVar 0) (aCons (wOp mAdd (wCB mLen (aCons (wVar 1) aNil)) (wC (.p (.int 1)))) aNil))) (gNm 2))
    (wSeq (wAsg (wLst (aCons (wNeg (wC (.p (.int 1)))) (aCons (wVar 2) (aCons (wOp mAdd (wVar 2) (wC (.p (.int 1)))) (aCons (wOp mSub (wVar 2) (wC (.p (.int 1)))) (aCons (wC (.p (.int 0))) (aCons (wC (.p (.bool true))) (aCons (wC (.p (.bool false))) (aCons (wC (.p .none)) (aCons (wC (.p (.str (PySem.Str.ofString "0")))) (aCons (wTup (aCons (wC (.p (.int 0))) aNil)) (aCons (wLst (aCons (wC (.p (.int 0))) aNil)) (aCons (wOp mPow (wC (.p (.int 10))) (wC (.p (.int 59)))) (aCons (wTup aNil) (aCons (wOp mSub (wC (.p (.int 0))) (wOp mPow (wC (.p (.int 10))) (wC (.p (.int 18))))) aNil))))))))))))))) (gNm 3))
    (wSeq (wAsg (wOp mIx (wVar 3) (wCall S_draw_k01 (aCons (wVar 0) (aCons (wC (.p (.int 14))) aNil)))) (gNm 3))
    (wSeq (wAsg (wCall S_draw_k01 (aCons (wVar 0) (aCons (wC (.p (.int 9))) aNil))) (gNm 4))
    (wSeq (wIfS (wTest (wOp mLt (wVar 4) (wC (.p (.int 4)))))
    (wRet (wOp mAdd (wOp mAdd (wSl (wVar 1) oNone (oSome (wVar 2))) (wTup (aCons (wVar 3) aNil))) (wSl (wVar 1) (oSome (wOp mAdd (wVar 2) (wC (.p (.int 1))))) oNone)))
    wNext)
    (wSeq (wIfS (wTest (wOp mLt (wVar 4) (wC (.p (.int 6)))))
    (wRet (wOp mAdd (wOp mAdd (wSl (wVar 1) oNone (oSome (wVar 2))) (wTup (aCons (wVar 3) aNil))) (wSl (wVar 1) (oSome (wVar 2)) oNone)))
    wNext)
    (wSeq (wIfS (wTest (wOp mEq (wVar 4) (wC (.p (.int 6)))))
    (wRet (wOp mAdd (wSl (wVar 1) oNone (oSome (wVar 2))) (wSl (wVar 1) (oSome (wOp mAdd (wVar 2) (wC (.p (.int 1))))) oNone)))
    wNext)
    (wSeq (wAsg (wLst (aCons (wCB mList (aCons (wVar 1) aNil)) (aCons (wRevS (wVar 1)) (aCons (wTup (aCons (wVar 1) aNil)) (aCons (wC (.p .none)) (aCons (wC (.p (.bool true))) (aCons (wC (.p (.int 0))) (aCons (wC (.p (.str (PySem.Str.ofString "")))) (aCons (wC (.p (.str (PySem.Str.ofString "0 1")))) (aCons (wOp mAdd (wVar 1) (wVar 1)) (aCons (wLst (aCons (wVar 1) aNil)) aNil))))))))))) (gNm 5))
    (wRet (wOp mIx (wVar 5) (wCall S_draw_k01 (aCons (wVar 0) (aCons (wC (.p (.int 10))) aNil)))))))))))))
theorem r_spoilt_k01 (ds : List SV) (s : Store) (R : SV → Store → Prop) (w : Wf s) (h : S_spoilt_k01 ds s R) : w_spoilt_k01 (fnEnds s.length R) (startE 6 ds) s := by
  obtain ⟨n, k, o, t, rfl, T, hn, Tp, hk, q⟩ := h
  show w_spoilt_k01 _ [some (.c n), some (.p (.tuple (t.map nI))), none, none, none, none] s
  have hl := T.len
  unfold w_spoilt_k01
  walk_at "m"
  refine draw1 hn Tp (by omega) (by omega) (by omega) fun at_ o1 ha T1 => ?_
  walk_at "m"
  have hlt : n < s.length := (List.getElem?_eq_some_iff.mp hn).1
  have sat : ∀ o' : MO, (s.set n o')[n]? = some o' := fun o' => List.getElem?_set_self hlt
  refine ⟨by decide, by decide, by unfold CPow; decide, by decide, by unfold CPow; decide, by decide, ?_⟩
  refine draw1 (sat _) T1 (by omega) (by omega) (by omega) fun r o2 hr T2 => ?_
  rw [List.set_set]
  generalize hL : [PyData.int (-1), PyData.int at_, PyData.int ((at_ : Int) + 1), PyData.int ((at_ : Int) - 1), PyData.int 0, PyData.bool true, PyData.bool false, PyData.none, PyData.str (Str.ofString "0"),
    PyData.tuple [PyData.int 0], PyData.list [PyData.int 0], PyData.int (10 ^ Int.toNat 59), PyData.tuple [], PyData.int (0 - 10 ^ Int.toNat 18)] = L
  have hLl : L.length = 14 := by rw [← hL]; rfl
  have hLo : ∀ d ∈ L, OkD d := by rw [← hL]; simp [OkD]
  have hp : L[r]? = some L[r] := List.getElem?_eq_getElem (by omega)
  have okd := hLo _ (List.getElem_mem (show r < L.length by omega))
  walk_at "m"
  generalize L[r] = d at hp okd
  refine ⟨.p d, by rw [hp]; rfl, ?_⟩
  refine draw1 (sat _) T2 (by omega) (by omega) (by omega) fun way o3 hw T3 => ?_
  rw [List.set_set]
  have c1 := cutL_le (t.map nI)
  rw [List.length_map] at c1
  have q3 : ∀ d : PyData, OkT d → RetTo s.length R (.p d) (s.set n o3) := fun d hd => .inl (q d o3 hd (T3.up (by omega)))
  walk_at "m"
  refine ite2 (fun h => ?_) (fun h => ite2 (fun h => ?_) (fun h => ?_))
  · have a1 := c1 none (some (at_ : Int))
    have a2 := c1 (some ((at_ : Int) + 1)) none
    refine ⟨by decide, by rw [sizeLine_eq]; omega, by rw [sizeLine_eq]; omega, q3 _ fun x hx => ?_⟩
    simp only [List.mem_append, List.mem_cons, List.not_mem_nil, or_false] at hx
    rcases hx with hx | rfl | hx
    · exact okD_nI hx
    · exact okd
    · exact okD_nI hx
  · have a1 := c1 none (some (at_ : Int))
    have a2 := c1 (some (at_ : Int)) none
    refine ⟨by decide, by rw [sizeLine_eq]; omega, by rw [sizeLine_eq]; omega, q3 _ fun x hx => ?_⟩
    simp only [List.mem_append, List.mem_cons, List.not_mem_nil, or_false] at hx
    rcases hx with hx | rfl | hx
    · exact okD_nI hx
    · exact okd
    · exact okD_nI hx
  · refine ite2 (fun h => ?_) (fun h => ?_)
    · have a1 := c1 none (some (at_ : Int))
      have a2 := c1 (some ((at_ : Int) + 1)) none
      refine ⟨by rw [sizeLine_eq]; omega, q3 _ fun x hx => ?_⟩
      rcases List.mem_append.mp hx with hx | hx <;> exact okD_nI hx
    · refine ⟨by decide, by rw [sizeLine_eq]; omega, by decide, by decide, ?_⟩
      refine draw1 (sat _) T3 (by omega) (by omega) (by omega) fun r2 o4 hr2 T4 => ?_
      rw [List.set_set]
      generalize hM : [PyData.list (List.map nI t), PyData.tuple (List.map nI t).reverse, PyData.tuple [PyData.tuple (List.map nI t)], PyData.none, PyData.bool true, PyData.int 0, PyData.str (Str.ofString ""), PyData.str (Str.ofString "0 1"),
          PyData.tuple (List.map nI t ++ List.map nI t), PyData.list [PyData.tuple (List.map nI t)]] = M10
      have hMl : M10.length = 10 := by rw [← hM]; rfl
      have hMo : ∀ d ∈ M10, OkT d := by
        rw [← hM]
        intro d hd
        simp only [List.mem_cons, List.not_mem_nil, or_false] at hd
        rcases hd with rfl | rfl | rfl | rfl | rfl | rfl | rfl | rfl | rfl | rfl <;> try trivial
        · intro x hx
          exact okD_nI' (List.mem_reverse.mp hx)
        · intro x hx
          simp only [List.mem_cons, List.not_mem_nil, or_false] at hx
          subst hx
          trivial
        · intro x hx
          rcases List.mem_append.mp hx with hx | hx <;> exact okD_nI' hx
      have hp2 : M10[r2]? = some M10[r2] := List.getElem?_eq_getElem (by omega)
      have okd2 := hMo _ (List.getElem_mem (show r2 < M10.length by omega))
      walk_at "m"
      generalize M10[r2] = d2 at hp2 okd2
      refine ⟨.p d2, by rw [hp2]; rfl, .inl (q d2 o4 okd2 (T4.up (by omega)))⟩
def w_law_k01_L1 : WS := wFor (wiSeq (wOp mAdd (wVar 4) (wLst (aCons (wOp mMulT (wTup (aCons (wC (.p (.int 0))) aNil)) (wOp mAdd (wC (.p (.int 197))) (wCall S_draw_k01 (aCons (wVar 1) (aCons (wC (.p (.int 5))) aNil))))) aNil)))) (gNm 6)
    (wSeq (wAsg (wCall S_trees_is_tree (aCons (wVar 6) aNil)) (gNm 7))
    (wIfS (wOr (wNot (wTest (wIsi "bool" (wVar 7)))) (wTest (wOp mNe (wVar 7) (wCall S_is_tree_k01 (aCons (wVar 6) aNil)))))
    (wRet (wC (.p (.bool false))))
    wNext))
def w_law_k01_L2 : WS := wFor (wiR1 (aCons (wC (.p (.int 3))) aNil)) (gNm 2)
    (wSeq (wAsg (wCall S_some_tree_k01 (aCons (wVar 1) aNil)) (gNm 3))
    (wSeq (wAsg (wOp mAddC (wLst (aCons (wVar 3) (aCons (wTup aNil) aNil))) (wLc (wiR1 (aCons (wC (.p (.int 6))) aNil)) (gNm 5) wYes (wCall S_spoilt_k01 (aCons (wVar 1) (aCons (wVar 3) aNil))) [5])) (gNm 4))
    (wSeq (wDrop (wMt mAppend (wVar 4) (aCons (wCall S_spoilt_k01 (aCons (wVar 1) (aCons (wCall S_tree_k01 (aCons (wVar 1) (aCons (wC (.p (.int 4))) aNil))) aNil))) aNil)))
    w_law_k01_L1)))
def w_law_k01 : WS :=
    (wSeq (wAsg (wLstC (aCons (wCB mList (aCons (wSl (wVar 0) oNone (oSome (wC (.p (.int 63))))) aNil)) (aCons (wC (.p (.int 0))) (aCons (wC (.p (.int 0))) (aCons (wC (.p (.int 0))) aNil))))) (gNm 1))
    (wSeq w_law_k01_L2
    (wRet (wC (.p (.bool true))))))
theorem k01_loop {ns : List Int} {s : Store} {things : List PyData} (hth : ∀ d ∈ things, OkT d) (hln : things.length ≤ 100) {o : MO} {k : Nat} (Tp : Tape k o) (hk : k < 2 ^ 39) (a b c k5 : Option SV) {D : ME} (w : ∀ o', Tape (k + 1) o' → Wf (s ++ [o', .lst (things.map SV.p)]))
    (hD : ∀ o' x y, Tape (k + 1) o' → D.nx [some (.ro ns), some (.c s.length), a, b, c, k5, x, y] (s ++ [o', .lst (things.map SV.p)])) (hc : c = some (.c (s.length + 1))) (x0 y0 : Option SV) :
    w_law_k01_L1 D [some (.ro ns), some (.c s.length), a, b, c, k5, x0, y0] (s ++ [o, .lst (things.map SV.p)]) := by
  subst hc
  unfold w_law_k01_L1
  refine for_expr ?_
  walk_at "m"
  refine ⟨by decide, ?_⟩
  refine draw1 st_at0 Tp (by omega) (by omega) (by omega) fun r o' hr T1 => ?_
  rw [st_set0]
  simp only [List.set_cons_zero]
  have hw : Wf (s ++ [o', .lst (things.map SV.p)]) := w o' T1
  walk_at "m"
  refine ⟨by simp, by omega, by omega, by decide, by decide, ?_⟩
  have hx : ∀ d ∈ things ++ [PyData.tuple (List.replicate (197 + (r : Int)).toNat [PyData.int 0]).flatten], OkT d := fun d hd => by
    rcases List.mem_append.mp hd with hd | hd
    · exact hth d hd
    · simp only [List.mem_cons, List.not_mem_nil, or_false] at hd
      subst hd
      intro x hx
      simp at hx
      rw [hx.2]
      trivial
  refine ⟨things, [PyData.tuple (List.replicate (197 + (r : Int)).toNat [PyData.int 0]).flatten], by rw [l_cc, st_at]; rfl, rfl, by rw [sizeLine_eq]; simp; omega, ?_⟩
  generalize things ++ [PyData.tuple (List.replicate (197 + (r : Int)).toNat [PyData.int 0]).flatten] = L at hx
  refine for_seq (st1 := s ++ [o', .lst (things.map SV.p)]) (.p (.list L)) L (fun _ => rfl) (fun Q hQ => hQ) (fun i e st => ∃ x y, e = [some (.ro ns), some (.c s.length), a, b, some (.c (s.length + 1)), k5, x, y] ∧ st = s ++ [o', .lst (things.map SV.p)]) ⟨_, _, rfl, rfl⟩ ?_ ?_
  · rintro i d e st hd ⟨x, y, rfl, rfl⟩
    have ok := hx d (List.mem_of_getElem? hd)
    walk_at "m"
    refine ⟨d, rfl, ok, ?_⟩
    walk_at "m"
    refine ⟨d, rfl, ok, ?_⟩
    have : PyData.eqv (.bool (itB d)) (.bool (itB d)) = true := eqv_low (low_bool 0 _)
    refine ⟨_, rfl, rfl, ?_⟩
    refine ite2 (fun h => ?_) (fun _ => .inl ⟨_, _, rfl, rfl⟩)
    rw [this] at h
    cases h
  · rintro e st ⟨x, y, rfl, rfl⟩
    exact hD o' x y T1
def I01 (ns : List Int) (s : Store) (k : Nat) (e : M.Env) (st : Store) : Prop := ∃ (o : MO) (a b c d f g : Option SV), Tape k o ∧ e = [some (.ro ns), some (.c s.length), a, b, c, d, f, g] ∧ st = s ++ [o]
theorem r_law_k01 (ds : List SV) (s : Store) (R : SV → Store → Prop) (w : Wf s) (h : S_law ds s R) : w_law_k01 (fnEnds s.length R) (startE 8 ds) s := by
  obtain ⟨ns, rfl, hl, q⟩ := h
  show w_law_k01 _ [some (.ro ns), none, none, none, none, none, none, none] s
  unfold w_law_k01
  walk_at "m"
  refine ⟨by decide, ?_⟩
  unfold w_law_k01_L2
  refine for_rng 0 1 3 (fun Q hQ => ?_) (fun j e st => I01 ns s (j * 1400) e st) ⟨_, none, none, none, none, none, none, ⟨_, _, _, _, rfl, by decide, by decide⟩, rfl, rfl⟩ ?_ ?_
  · unfold wiR1
    walk_at "m"
    exact ⟨by decide, by decide, hQ⟩
  · rintro j e st hj ⟨o, a, b, c, d, f, g, To, rfl, rfl⟩
    walk_at "m"
    refine ⟨s.length, j * 1400, o, rfl, st_last, To, by omega, fun t o' T T2 => ?_⟩
    rw [st_set]
    walk_at "m"
    refine ⟨by decide, by decide, ?_⟩
    have hl' := T.len
    refine lc_gen (st1 := s ++ [o']) (rngItems 0 1 6) _ (fun i acc st' => ∃ o2 : MO, (∀ d ∈ acc, OkT d) ∧ acc.length = i ∧ Tape (j * 1400 + 600 + 4 * i) o2 ∧ st' = s ++ [o2]) (fun Q hQ => ?_) (by decide) (fun _ => trivial) ⟨o', (fun p hp => by simp at hp), rfl, T2, rfl⟩ ?_ ?_
    · unfold wiR1
      walk_at "m"
      exact ⟨by decide, by decide, hQ⟩
    · rintro i x acc st' Y Z hx ⟨o2, hacc, hal, T3, rfl⟩ hsl hY hZ
      have hi : i < 6 := by
        have := (List.getElem?_eq_some_iff.mp hx).1
        simpa [rngItems] using this
      walk_at "m"
      refine ⟨s.length, _, o2, t, rfl, T, st_at0, T3, by omega, fun d o3 hd T4 => ?_⟩
      rw [st_set0]
      simp only [List.set_cons_zero]
      have := hY d (s ++ [o3]) (by simp) ⟨o3, fun x hx => ?_, by simp [hal], T4, rfl⟩
      · simpa using this
      · rcases List.mem_append.mp hx with hx | hx
        · exact hacc x hx
        · simp at hx; subst hx; exact hd
    · rintro acc st' hsl ⟨o2, hacc, hal, T3, rfl⟩
      have h6 : acc.length = 6 := hal
      have e6 : (rngItems 0 1 6).length = 6 := by simp [rngItems]
      rw [e6] at T3
      refine ⟨wf_app w fun x m => by simp at m; subst m; exact T3.under, ?_⟩
      walk_at "m"
      refine ⟨by rw [h6]; decide, ?_⟩
      refine ⟨s.length, _, o2, 4, rfl, by decide, by decide, st_at0, T3, by omega, fun u o3 U hu T4 => ?_⟩
      rw [st_set0]
      simp only [List.set_cons_zero]
      refine ⟨s.length, _, o3, u, rfl, U, st_at0, T4, by omega, fun d o4 hd T5 => ?_⟩
      rw [st_set0]
      simp only [List.set_cons_zero]
      walk_at "m"
      refine ⟨by rw [h6]; decide, ?_⟩
      have hth : ∀ x ∈ (tv t :: PyData.tuple [] :: (acc ++ [d])), OkT x := fun x hx => by
        simp only [List.mem_cons, List.mem_append, List.not_mem_nil, or_false] at hx
        rcases hx with rfl | rfl | hx | rfl
        · intro y hy
          exact okD_nI' hy
        · intro y hy
          simp at hy
        · exact hacc x hx
        · exact hd
      have e7 : SV.p (tv t) :: SV.p (PyData.tuple []) :: (acc.map SV.p ++ [SV.p d]) = (tv t :: PyData.tuple [] :: (acc ++ [d])).map SV.p := by simp
      rw [e7]
      have wf2 : ∀ (o' : MO) (l : List PyData) {k}, Tape k o' → Wf (s ++ [o', .lst (l.map SV.p)]) := fun o' l k Tk => wf_app w fun x m => by
        simp at m
        rcases m with rfl | rfl
        · exact Tk.under
        · exact under_p _ _
      refine k01_loop hth (by simp [h6]) T5 (by omega) _ _ _ _ (fun o5 T6 => wf2 _ _ T6) (fun o5 x y T6 => ?_) rfl _ _
      have htk : ∀ z : MO, (s ++ [o5, z]).take (s.length + 1) = s ++ [o5] := fun z => by
        have e : s ++ [o5, z] = (s ++ [o5]) ++ [z] := by simp
        rw [e, show s.length + 1 = (s ++ [o5]).length by simp, st_take]
      have u1 : (SV.c s.length).under (s.length + 1) = true := by simp [SV.under]
      refine .inr ⟨s.length + 1, [some (.ro ns), some (.c s.length), none, none, none, none, none, none], by simp, by simp, ?_, ?_, ?_⟩
      · rw [htk]; exact wf_app w fun x m => by simp at m; subst m; exact T6.under
      · exact weak_some (weak_some (weak_none (weak_none (weak_none (weak_none (weak_none (weak_none weak_nil)))))) u1)
      · rw [htk]
        exact ⟨o5, _, _, _, _, _, _, T6.up (by omega), rfl, rfl⟩
  · rintro e st ⟨o, a, b, c, d, f, g, To, rfl, rfl⟩
    walk_at "m"
    exact .inl (q _)
end M

namespace M
open PySem PySem.Spec PyProof.Rows L2
local macro_rules | `(tactic| walk_at "m") => `(tactic| simp (maxSteps := 2000000) (implicitDefEqProofs := false) only [e_revs, m_revt, m_revl, e_listrev, m_mult, e_dnew, e_din, e_dnotin, s_dput, m_lend, dct_inj, m_rvs, m_pop0, m_ext1, m_addc, g_tl, v_0, v_s, e_c, e_op, e_test, e_and, e_or, e_not, e_andv, e_orv, e_notv, e_ife, e_chain, e_anil, e_acons, e_cb, e_call, e_tup, e_lst, e_lstc, e_sl, e_onone, e_osome, e_mt, e_isi, e_neg, e_rd, s_augs, e_lrg, e_lrgc, e_callx, e_orx, e_isx, e_isxt, e_place, s_raisep, s_raiset, s_try, s_frzv, isNone_x, x_ex, x_pl, xis_pp, xis_pt, xis_pm, xis_pl, xis_V, xis_R, xis_tt, xis_tp, xis_tm, xis_tl, xis_mm, xis_mp, xis_mt, xis_ml, xis_ll, xis_lp, xis_lt, xis_lm, List.any_cons, List.any_nil, in_errs0, in_errs1, in_errs2, in_errs3, m_in, m_notin, m_isb, m_notb,
  s_seq, s_next, s_break, s_cont, s_never, s_drop, s_ret, s_retn, s_if, s_asg, s_par, s_retf, s_retf2, wipeE, List.append_assoc, List.cons_append, List.nil_append, g_nm, g_snil, g_scons, g_tp, g_sb, m_int, m_sub, m_lt, m_le, m_gt, m_ge, m_mod, m_div, m_pow, m_add, m_addt, m_addl, m_adds, m_mul, m_mulc, m_isn, m_notn, m_eq, m_ne, p_p,
  q_t, q_l, q_tt, l_l, t_t, t_tt, m_ixt, m_ixl, m_ixtt, m_lent, m_lenl, m_lentt, m_max2, m_min2, m_intb, m_listt, m_listl, m_tuplel, m_app, m_setl, sl_t, sl_r, sl_l, isNone, tyName, isB, mkTup, allP, allP_map, Option.map_some, map_p_inj,
  q_cc, l_cc, p_cc, ty_cc, m_ixcc, m_lencc, m_tuplecc, m_listcc, asL_l, Option.bind_some, mkTup_p, st_at, st_setk, st_at0, st_set0, st_take, st_atS, st_setS, st_atS0, st_setS0, st_takeS, List.length_set, List.set_set, ix40, ix41, ix42, ix43, Nat.reduceAdd, Nat.zero_add, at_nat', at_succ, at_0, at_1, at_2, at_3, at_4, at_m1, eqv_int, eqv_bool, sh_int, sh_bool, sh_none, fnEnds, wYes, gNm,
  List.getElem?_cons_zero, List.getElem?_cons_succ, List.set_cons_zero, List.set_cons_succ, List.getElem?_map, List.length_map, List.length_cons, List.length_nil, List.length_append, List.map_cons, List.map_nil,
  Option.some.injEq, SV.p.injEq, SV.c.injEq, PyData.int.injEq, PyData.bool.injEq, exists_eq_left', exists_eq_left, exists_eq_right, exists_eq', exists_eq, exists_and_left, true_and, and_true, true_or, or_true, MO.lst.injEq, Bool.not_true, Bool.not_false, if_true, if_false, Bool.false_eq_true, ↓reduceIte, beq_self_eq_true, String.reduceBEq, Bool.or_false, Bool.false_or, Bool.and_false, Bool.false_and, Bool.or_true, Bool.true_or, decide_eq_true_eq, beq_iff_eq, Bool.not_eq_true])
local macro_rules | `(tactic| walk_at "mh") => `(tactic| simp (maxSteps := 2000000) (implicitDefEqProofs := false) only [e_revs, m_revt, m_revl, e_listrev, m_mult, e_dnew, e_din, e_dnotin, s_dput, m_lend, dct_inj, m_rvs, m_pop0, m_ext1, m_addc, g_tl, v_0, v_s, e_c, e_op, e_test, e_and, e_or, e_not, e_andv, e_orv, e_notv, e_ife, e_chain, e_anil, e_acons, e_cb, e_call, e_tup, e_lst, e_lstc, e_sl, e_onone, e_osome, e_mt, e_isi, e_neg, e_rd, s_augs, e_lrg, e_lrgc, e_callx, e_orx, e_isx, e_isxt, e_place, s_raisep, s_raiset, s_try, s_frzv, isNone_x, x_ex, x_pl, xis_pp, xis_pt, xis_pm, xis_pl, xis_V, xis_R, xis_tt, xis_tp, xis_tm, xis_tl, xis_mm, xis_mp, xis_mt, xis_ml, xis_ll, xis_lp, xis_lt, xis_lm, List.any_cons, List.any_nil, in_errs0, in_errs1, in_errs2, in_errs3, m_in, m_notin, m_isb, m_notb,
  s_seq, s_next, s_break, s_cont, s_never, s_drop, s_ret, s_retn, s_if, s_asg, s_par, s_retf, s_retf2, wipeE, List.append_assoc, List.cons_append, List.nil_append, g_nm, g_snil, g_scons, g_tp, g_sb, m_int, m_sub, m_lt, m_le, m_gt, m_ge, m_mod, m_div, m_pow, m_add, m_addt, m_addl, m_adds, m_mul, m_mulc, m_isn, m_notn, m_eq, m_ne, p_p,
  q_t, q_l, q_tt, l_l, t_t, t_tt, m_ixt, m_ixl, m_ixtt, m_lent, m_lenl, m_lentt, m_max2, m_min2, m_intb, m_listt, m_listl, m_tuplel, m_app, m_setl, sl_t, sl_r, sl_l, isNone, tyName, isB, mkTup, allP, allP_map, Option.map_some, map_p_inj,
  q_cc, l_cc, p_cc, ty_cc, m_ixcc, m_lencc, m_tuplecc, m_listcc, asL_l, Option.bind_some, mkTup_p, st_at, st_setk, st_at0, st_set0, st_take, st_atS, st_setS, st_atS0, st_setS0, st_takeS, List.length_set, List.set_set, ix40, ix41, ix42, ix43, Nat.reduceAdd, Nat.zero_add, at_nat', at_succ, at_0, at_1, at_2, at_3, at_4, at_m1, eqv_int, eqv_bool, sh_int, sh_bool, sh_none, fnEnds, wYes, gNm,
  List.getElem?_cons_zero, List.getElem?_cons_succ, List.set_cons_zero, List.set_cons_succ, List.getElem?_map, List.length_map, List.length_cons, List.length_nil, List.length_append, List.map_cons, List.map_nil,
  Option.some.injEq, SV.p.injEq, SV.c.injEq, PyData.int.injEq, PyData.bool.injEq, exists_eq_left', exists_eq_left, exists_eq_right, exists_eq', exists_eq, exists_and_left, true_and, and_true, true_or, or_true, MO.lst.injEq, Bool.not_true, Bool.not_false, if_true, if_false, Bool.false_eq_true, ↓reduceIte, beq_self_eq_true, String.reduceBEq, Bool.or_false, Bool.false_or, Bool.and_false, Bool.false_and, Bool.or_true, Bool.true_or, decide_eq_true_eq, beq_iff_eq, Bool.not_eq_true, tp_at0, tp_at, tp_set, Option.map_none, Option.some.injEq, *])
theorem eqv_str (a b : Str) : PyData.eqv (.str a) (.str b) = (a == b) := by simp only [PyData.eqv]
theorem sh_str {a : Str} (h : PyData.strOk a = true) : SeqAt.shaped (.str a) = true := by
  unfold SeqAt.shaped
  simp [PyData.canLay0, PyData.depth, h]
theorem ok_lit (s : String) : PyData.strOk (Str.ofString s) = true := by
  unfold PyData.strOk
  rw [Array.all_eq_true_iff_forall_mem]
  intro x hx
  have hx : x ∈ (Str.ofString s).cps.toList := Array.mem_toList_iff.mpr hx
  have e := PyProof.Rows.signs_ofString s
  rw [e] at hx
  obtain ⟨c, _, rfl⟩ := List.mem_map.mp hx
  have := c.valid
  have h2 : c.toNat < 0x110000 := by
    rcases this with h | h
    · show c.val.toNat < _
      have : c.val.toNat < 0xd800 := h
      omega
    · exact h.2
  exact decide_eq_true h2
theorem ok_of {a : Str} (h : ∀ c ∈ TL.tl a, c < 0x110000) : PyData.strOk a = true := by
  unfold PyData.strOk
  rw [Array.all_eq_true_iff_forall_mem]
  intro x hx
  exact decide_eq_true (h x (Array.mem_toList_iff.mpr hx))
theorem ok_mem {a : Str} (h : PyData.strOk a = true) : ∀ c ∈ TL.tl a, c < 0x110000 := fun c hc => by
  unfold PyData.strOk at h
  rw [Array.all_eq_true_iff_forall_mem] at h
  exact of_decide_eq_true (h c (Array.mem_toList_iff.mp hc))
def figs : Str := Str.ofString "0123456789"
theorem figs_tl : figs.cps.toList = [48, 49, 50, 51, 52, 53, 54, 55, 56, 57] := by
  have := PyProof.Rows.signs_ofString "0123456789"
  unfold figs
  rw [this]
  decide
def isDig (c : Nat) : Bool := decide (48 ≤ c) && decide (c ≤ 57)
theorem dig_mem (c : Nat) : decide (c ∈ figs.cps.toList) = isDig c := by
  rw [figs_tl]
  unfold isDig
  rw [← Bool.decide_and]
  refine decide_eq_decide.mpr ?_
  simp only [List.mem_cons, List.not_mem_nil, or_false]
  omega
def okNum (l : List Nat) (m : Int) : Bool := decide (1 ≤ (l.length : Int)) && decide ((l.length : Int) ≤ m) && l.all isDig && !(decide (l.head? = some 48) && !decide (l = [48]))
def numD (x : Str) (m : Int) : PyData := if okNum (TL.tl x) m = true then .int ((NumText.digitsVal (TL.tl x) : Nat) : Int) else .none
theorem zero_tl : TL.tl (Str.ofString "0") = [48] := PyProof.Rows.signs_ofString "0"
theorem dash_tl : TL.tl (Str.ofString "-") = [45] := PyProof.Rows.signs_ofString "-"
theorem blank_tl : TL.tl (Str.ofString " ") = [32] := PyProof.Rows.signs_ofString " "
theorem str_beq (a b : Str) : (a == b) = decide (TL.tl a = TL.tl b) := by
  by_cases h : a = b
  · subst h
    simp
  · have : TL.tl a ≠ TL.tl b := fun e => h (TL.ext_tl e)
    rw [decide_eq_false this]
    exact beq_eq_false_iff_ne.mpr h
theorem all_digs {l : List Nat} (h : l.all isDig = true) : NumText.AllDigits l := fun c hc => by
  have := List.all_eq_true.mp h c hc
  unfold isDig at this
  rw [Bool.and_eq_true, decide_eq_true_iff, decide_eq_true_iff] at this
  exact this
theorem flt_mapG {α β : Type} {g : α → β} : ∀ {es : List α}, (List.range es.length).filterMap (fun i => (es[i]?).map g) = es.map g := fun {es} => by
  induction es with
  | nil => rfl
  | cons d es ih =>
    rw [List.length_cons, List.range_succ_eq_map, List.filterMap_cons, List.filterMap_map]
    have e : ((fun i => ((d :: es)[i]?).map g) ∘ Nat.succ) = fun i => es[i]?.map g := by
      funext i
      simp
    rw [e, ih]
    simp
def S_treetexts_number_in : MSp := fun ds st R => ∃ x m, ds = [.p (.str x), .p (.int m)] ∧ x.length ≤ 10000 ∧ PyData.strOk x = true ∧ m ≤ 640 ∧ R (.p (numD x m)) st
def w_treetexts_number_in : WS :=
    (wSeq (wIfS (wOr (wNot (wTest (wChain mLe mLe (wC (.p (.int 1))) (wCB mLen (aCons (wVar 0) aNil)) (wVar 1)))) (wNot (wTest (wCB mAll (aCons (wLc (wiStr (wVar 0)) (gNm 2) wYes (wOp mInS (wVar 2) (wC (.p (.str (PySem.Str.ofString "0123456789"))))) [2]) aNil)))))
    (wRet (wC (.p .none)))
    wNext)
    (wSeq (wIfS (wAnd (wTest (wOp mEq (wOp mIx (wVar 0) (wC (.p (.int 0)))) (wC (.p (.str (PySem.Str.ofString "0")))))) (wTest (wOp mNe (wVar 0) (wC (.p (.str (PySem.Str.ofString "0")))))))
    (wRet (wC (.p .none)))
    wNext)
    (wRet (wCB mIntT (aCons (wVar 0) aNil)))))
theorem r_treetexts_number_in (ds : List SV) (s : Store) (R : SV → Store → Prop) (w : Wf s) (h : S_treetexts_number_in ds s R) : w_treetexts_number_in (fnEnds s.length R) (startE 3 ds) s := by
  obtain ⟨x, m, rfl, hl, ho, hm, q⟩ := h
  show w_treetexts_number_in _ [some (.p (.str x)), some (.p (.int m)), none] s
  have hlen : x.length = (TL.tl x).length := TL.len_tl x
  have no : okNum (TL.tl x) m = false → RetTo s.length R (.p .none) s := fun h => by
    unfold numD at q
    rw [h] at q
    exact .inl q
  unfold w_treetexts_number_in
  rw [s_seq, s_if]
  walk_at "m"
  have hlm : x.length ≤ sizeLine := by rw [sizeLine_eq]; omega
  refine ⟨hlm, ?_⟩
  walk_at "m"
  have hok : okNum (TL.tl x) m = (decide (1 ≤ (x.length : Int)) && decide ((x.length : Int) ≤ m) && (TL.tl x).all isDig && !(decide ((TL.tl x).head? = some 48) && !decide (TL.tl x = [48]))) := by
    unfold okNum
    rw [hlen]
  refine ite2 (fun h1 => ?_) (fun h1 => no (by rw [hok, decide_eq_false h1]; simp))
  refine ite2 (fun h2 => ?_) (fun h2 => ?_)
  · refine no ?_
    rw [hok]
    have : decide ((x.length : Int) ≤ m) = false := by simpa using h2
    rw [this]
    simp
  have h2 : decide ((x.length : Int) ≤ m) = true := by simpa using h2
  rw [decide_eq_true h1, h2] at hok
  refine lc_pure (st1 := s) (x.cps.toList.map fun c => SV.p (.str ⟨#[c]⟩)) (fun _ => True) (fun i => ((TL.tl x)[i]?).map fun c => .bool (isDig c)) (fun Q hQ => by unfold wiStr; walk_at "m"; exact hQ) (by rw [List.length_map, sizeLine_eq]; have : x.cps.toList.length = x.length := hlen.symm; omega) (fun _ => trivial) (fun i y acc Y Z hy hY hZ => ?_) w ?_
  · rw [List.getElem?_map] at hy
    obtain ⟨c, hc, rfl⟩ := Option.map_eq_some_iff.mp hy
    walk_at "m"
    refine ⟨c, figs, rfl, rfl, ?_⟩
    rw [dig_mem]
    exact hY _ (by rw [show (TL.tl x)[i]? = some c from hc]; rfl)
  rw [List.length_map, flt_mapG]
  refine ⟨(TL.tl x).map isDig, by rw [List.map_map (g := PyData.bool)]; rfl, ?_⟩
  rw [List.all_map]
  have e0 : (TL.tl x).all (id ∘ isDig) = (TL.tl x).all isDig := rfl
  rw [e0]
  cases hd : (TL.tl x).all isDig with
  | false => exact ⟨_, rfl, ite2 (fun _ => no (by rw [hok, hd]; simp)) (fun h => absurd rfl h)⟩
  | true =>
    rw [hd] at hok
    refine ⟨_, rfl, ite2 (fun h => by cases h) (fun _ => ?_)⟩
    obtain ⟨c, r, hx⟩ : ∃ c r, TL.tl x = c :: r := by
      cases e : TL.tl x with
      | nil => rw [hlen, e] at h1; exact absurd h1 (by decide)
      | cons c r => exact ⟨c, r, rfl⟩
    refine ⟨c, hlm, by show atI (TL.tl x) ((0 : Nat) : Int) = some c; rw [at_nat', hx]; rfl, ?_⟩
    have yes : okNum (TL.tl x) m = true → mIntT [SV.p (.str x)] s (RetTo s.length R) := fun h => by
      unfold numD at q
      rw [if_pos h] at q
      have hm2 : (x.length : Int) ≤ m := of_decide_eq_true h2
      exact ⟨_, intText_digits (all_digs hd) (by show TL.tl x ≠ []; rw [hx]; simp) (by omega), by omega, .inl q⟩
    have hc : c < 0x110000 := ok_mem ho c (by rw [hx]; simp)
    refine ⟨_, rfl, sh_str (ok_of fun y hy => ?_), sh_str (ok_lit _), ?_⟩
    · have : y ∈ [c] := hy
      rw [List.mem_singleton.mp this]
      exact hc
    rw [eqv_str, str_beq, zero_tl]
    have e1 : TL.tl ⟨#[c]⟩ = [c] := rfl
    rw [e1]
    have e2 : ((TL.tl x).head? = some 48) = ([c] = [48]) := by rw [hx]; simp
    refine ite2 (fun h3 => ?_) (fun h3 => yes ?_)
    · refine ⟨sh_str ho, sh_str (ok_lit _), ?_⟩
      rw [eqv_str, str_beq, zero_tl]
      have h3 : [c] = [48] := of_decide_eq_true h3
      refine ite2 (fun h4 => no ?_) (fun h4 => yes ?_)
      · have h4 : ¬ TL.tl x = [48] := fun e => by rw [decide_eq_true e] at h4; cases h4
        rw [hok, decide_eq_true (e2 ▸ h3), decide_eq_false h4]
        rfl
      · have h4 : TL.tl x = [48] := by
          by_cases e : TL.tl x = [48]
          · exact e
          · rw [decide_eq_false e] at h4
            exact absurd rfl h4
        rw [hok, decide_eq_true h4]
        simp
    · have h3 : ¬ [c] = [48] := fun e => h3 (decide_eq_true e)
      rw [hok, decide_eq_false (e2 ▸ h3)]
      simp
end M

namespace M
open PySem PySem.Spec PyProof.Rows L2
local macro_rules | `(tactic| walk_at "m") => `(tactic| simp (maxSteps := 2000000) (implicitDefEqProofs := false) only [e_revs, m_revt, m_revl, e_listrev, m_mult, e_dnew, e_din, e_dnotin, s_dput, m_lend, dct_inj, m_rvs, m_pop0, m_ext1, m_addc, g_tl, v_0, v_s, e_c, e_op, e_test, e_and, e_or, e_not, e_andv, e_orv, e_notv, e_ife, e_chain, e_anil, e_acons, e_cb, e_call, e_tup, e_lst, e_lstc, e_sl, e_onone, e_osome, e_mt, e_isi, e_neg, e_rd, s_augs, e_lrg, e_lrgc, e_callx, e_orx, e_isx, e_isxt, e_place, s_raisep, s_raiset, s_try, s_frzv, isNone_x, x_ex, x_pl, xis_pp, xis_pt, xis_pm, xis_pl, xis_V, xis_R, xis_tt, xis_tp, xis_tm, xis_tl, xis_mm, xis_mp, xis_mt, xis_ml, xis_ll, xis_lp, xis_lt, xis_lm, List.any_cons, List.any_nil, in_errs0, in_errs1, in_errs2, in_errs3, m_in, m_notin, m_isb, m_notb,
  s_seq, s_next, s_break, s_cont, s_never, s_drop, s_ret, s_retn, s_if, s_asg, s_par, s_retf, s_retf2, wipeE, List.append_assoc, List.cons_append, List.nil_append, g_nm, g_snil, g_scons, g_tp, g_sb, m_int, m_sub, m_lt, m_le, m_gt, m_ge, m_mod, m_div, m_pow, m_add, m_addt, m_addl, m_adds, m_mul, m_mulc, m_isn, m_notn, m_eq, m_ne, p_p,
  q_t, q_l, q_tt, l_l, t_t, t_tt, m_ixt, m_ixl, m_ixtt, m_lent, m_lenl, m_lentt, m_max2, m_min2, m_intb, m_listt, m_listl, m_tuplel, m_app, m_setl, sl_t, sl_r, sl_l, isNone, tyName, isB, mkTup, allP, allP_map, Option.map_some, map_p_inj,
  q_cc, l_cc, p_cc, ty_cc, m_ixcc, m_lencc, m_tuplecc, m_listcc, asL_l, Option.bind_some, mkTup_p, st_at, st_setk, st_at0, st_set0, st_take, st_atS, st_setS, st_atS0, st_setS0, st_takeS, List.length_set, List.set_set, ix40, ix41, ix42, ix43, Nat.reduceAdd, Nat.zero_add, at_nat', at_succ, at_0, at_1, at_2, at_3, at_4, at_m1, eqv_int, eqv_bool, sh_int, sh_bool, sh_none, fnEnds, wYes, gNm,
  List.getElem?_cons_zero, List.getElem?_cons_succ, List.set_cons_zero, List.set_cons_succ, List.getElem?_map, List.length_map, List.length_cons, List.length_nil, List.length_append, List.map_cons, List.map_nil,
  Option.some.injEq, SV.p.injEq, SV.c.injEq, PyData.int.injEq, PyData.bool.injEq, exists_eq_left', exists_eq_left, exists_eq_right, exists_eq', exists_eq, exists_and_left, true_and, and_true, true_or, or_true, MO.lst.injEq, Bool.not_true, Bool.not_false, if_true, if_false, Bool.false_eq_true, ↓reduceIte, beq_self_eq_true, String.reduceBEq, Bool.or_false, Bool.false_or, Bool.and_false, Bool.false_and, Bool.or_true, Bool.true_or, decide_eq_true_eq, beq_iff_eq, Bool.not_eq_true])
local macro_rules | `(tactic| walk_at "mh") => `(tactic| simp (maxSteps := 2000000) (implicitDefEqProofs := false) only [e_revs, m_revt, m_revl, e_listrev, m_mult, e_dnew, e_din, e_dnotin, s_dput, m_lend, dct_inj, m_rvs, m_pop0, m_ext1, m_addc, g_tl, v_0, v_s, e_c, e_op, e_test, e_and, e_or, e_not, e_andv, e_orv, e_notv, e_ife, e_chain, e_anil, e_acons, e_cb, e_call, e_tup, e_lst, e_lstc, e_sl, e_onone, e_osome, e_mt, e_isi, e_neg, e_rd, s_augs, e_lrg, e_lrgc, e_callx, e_orx, e_isx, e_isxt, e_place, s_raisep, s_raiset, s_try, s_frzv, isNone_x, x_ex, x_pl, xis_pp, xis_pt, xis_pm, xis_pl, xis_V, xis_R, xis_tt, xis_tp, xis_tm, xis_tl, xis_mm, xis_mp, xis_mt, xis_ml, xis_ll, xis_lp, xis_lt, xis_lm, List.any_cons, List.any_nil, in_errs0, in_errs1, in_errs2, in_errs3, m_in, m_notin, m_isb, m_notb,
  s_seq, s_next, s_break, s_cont, s_never, s_drop, s_ret, s_retn, s_if, s_asg, s_par, s_retf, s_retf2, wipeE, List.append_assoc, List.cons_append, List.nil_append, g_nm, g_snil, g_scons, g_tp, g_sb, m_int, m_sub, m_lt, m_le, m_gt, m_ge, m_mod, m_div, m_pow, m_add, m_addt, m_addl, m_adds, m_mul, m_mulc, m_isn, m_notn, m_eq, m_ne, p_p,
  q_t, q_l, q_tt, l_l, t_t, t_tt, m_ixt, m_ixl, m_ixtt, m_lent, m_lenl, m_lentt, m_max2, m_min2, m_intb, m_listt, m_listl, m_tuplel, m_app, m_setl, sl_t, sl_r, sl_l, isNone, tyName, isB, mkTup, allP, allP_map, Option.map_some, map_p_inj,
  q_cc, l_cc, p_cc, ty_cc, m_ixcc, m_lencc, m_tuplecc, m_listcc, asL_l, Option.bind_some, mkTup_p, st_at, st_setk, st_at0, st_set0, st_take, st_atS, st_setS, st_atS0, st_setS0, st_takeS, List.length_set, List.set_set, ix40, ix41, ix42, ix43, Nat.reduceAdd, Nat.zero_add, at_nat', at_succ, at_0, at_1, at_2, at_3, at_4, at_m1, eqv_int, eqv_bool, sh_int, sh_bool, sh_none, fnEnds, wYes, gNm,
  List.getElem?_cons_zero, List.getElem?_cons_succ, List.set_cons_zero, List.set_cons_succ, List.getElem?_map, List.length_map, List.length_cons, List.length_nil, List.length_append, List.map_cons, List.map_nil,
  Option.some.injEq, SV.p.injEq, SV.c.injEq, PyData.int.injEq, PyData.bool.injEq, exists_eq_left', exists_eq_left, exists_eq_right, exists_eq', exists_eq, exists_and_left, true_and, and_true, true_or, or_true, MO.lst.injEq, Bool.not_true, Bool.not_false, if_true, if_false, Bool.false_eq_true, ↓reduceIte, beq_self_eq_true, String.reduceBEq, Bool.or_false, Bool.false_or, Bool.and_false, Bool.false_and, Bool.or_true, Bool.true_or, decide_eq_true_eq, beq_iff_eq, Bool.not_eq_true, tp_at0, tp_at, tp_set, Option.map_none, Option.some.injEq, *])
structure Sx (k w : Nat) (d : PyData) : Prop where
  lay : d.canLay0 = true
  dep : d.depth ≤ k
  wgt : d.weight ≤ w
  shr : d.intsShort 13 = true
  sho : d.showable = true
theorem Sx.shw {k w : Nat} {d : PyData} (h : Sx k w d) (hk : k ≤ 64 := by decide) (hw : w ≤ 2 ^ 20 := by decide) : Shw d := ⟨by
  unfold PyData.layable0
  rw [h.lay, decide_eq_true (Nat.le_trans h.dep hk), decide_eq_true (Nat.le_trans h.wgt hw)]
  rfl, h.shr, h.sho⟩
theorem Sx.up {k w k' w' : Nat} {d : PyData} (h : Sx k w d) (hk : k ≤ k') (hw : w ≤ w') : Sx k' w' d := ⟨h.lay, Nat.le_trans h.dep hk, Nat.le_trans h.wgt hw, h.shr, h.sho⟩
theorem sx_none (k w : Nat) : Sx k w .none := ⟨rfl, Nat.zero_le _, Nat.zero_le _, rfl, rfl⟩
theorem sx_bool (k w : Nat) (b : Bool) : Sx k w (.bool b) := ⟨rfl, Nat.zero_le _, Nat.zero_le _, rfl, rfl⟩
theorem sx_nat (k : Nat) {n : Nat} (h : n < 10 ^ 6) : Sx k 20 (.int (n : Nat)) := by
  have hl : n.log2 < 20 := by
    by_cases e : n = 0
    · rw [e]; decide
    · exact (Nat.log2_lt e).mpr (by omega)
  refine ⟨rfl, Nat.zero_le _, ?_, ?_, ?_⟩
  · show (if ((n : Nat) : Int) == 0 then 0 else ((n : Nat) : Int).natAbs.log2 + 1) ≤ 20
    rw [Int.natAbs_natCast]
    split <;> omega
  · show decide ((Str.ofString (toString ((n : Nat) : Int))).length ≤ 13) = true
    refine decide_eq_true ?_
    rw [TL.len_tl, TL.tl_num]
    have := TL.numL_len (n := n) (k := 6) (by decide) h
    omega
  · show decide (((n : Nat) : Int).natAbs.log2 < 1920) = true
    rw [Int.natAbs_natCast]
    exact decide_eq_true (by omega)
theorem sx_m1 (k : Nat) : Sx k 20 (.int (-1)) := ⟨rfl, Nat.zero_le _, by decide, by decide, by decide⟩
theorem sx_str (k : Nat) {s : String} (h : s.toList.length ≤ 20) : Sx k 20 (.str (Str.ofString s)) := ⟨ok_lit s, Nat.zero_le _, by
  show (Str.ofString s).length ≤ 20
  rw [TL.len_tl]
  show ((Str.ofString s).cps.toList).length ≤ 20
  rw [PyProof.Rows.signs_ofString, List.length_map]
  exact h, rfl, rfl⟩
theorem sx_all {k w : Nat} : ∀ {ds : List PyData}, (∀ d ∈ ds, Sx k w d) → PyData.canLayAll0 ds = true ∧ PyData.depthAll ds ≤ k ∧ PyData.weightAll ds ≤ ds.length * (w + 1) ∧ PyData.intsShortAll 13 ds = true ∧ PyData.showableAll ds = true
  | [], _ => ⟨rfl, Nat.zero_le _, Nat.zero_le _, rfl, rfl⟩
  | d :: ds, h => by
    have h1 := h d List.mem_cons_self
    obtain ⟨a1, a2, a3, a4, a5⟩ := sx_all fun x hx => h x (List.mem_cons_of_mem _ hx)
    refine ⟨?_, ?_, ?_, ?_, ?_⟩
    · simp only [PyData.canLayAll0, h1.lay, a1, Bool.and_self]
    · simp only [PyData.depthAll]
      exact Nat.max_le.mpr ⟨h1.dep, a2⟩
    · simp only [PyData.weightAll]
      have := h1.wgt
      rw [List.length_cons, Nat.add_mul]
      omega
    · simp only [PyData.intsShortAll, h1.shr, a4, Bool.and_self]
    · simp only [PyData.showableAll, h1.sho, a5, Bool.and_self]
theorem sx_tup {k w n : Nat} {ds : List PyData} (h : ∀ d ∈ ds, Sx k w d) (hn : ds.length ≤ n) : Sx (k + 1) (n * (w + 1)) (.tuple ds) := by
  obtain ⟨a1, a2, a3, a4, a5⟩ := sx_all h
  exact ⟨a1, by simp only [PyData.depth]; omega, Nat.le_trans a3 (Nat.mul_le_mul_right _ hn), a4, a5⟩
theorem sx_lst {k w n : Nat} {ds : List PyData} (h : ∀ d ∈ ds, Sx k w d) (hn : ds.length ≤ n) : Sx (k + 1) (n * (w + 1)) (.list ds) := by
  obtain ⟨a1, a2, a3, a4, a5⟩ := sx_all h
  exact ⟨a1, by simp only [PyData.depth]; omega, Nat.le_trans a3 (Nat.mul_le_mul_right _ hn), a4, a5⟩
def S_due_k13 : MSp := fun ds st R => ∃ t d, ds = [.p (tv t), .p d] ∧ Tr t ∧ OkT d ∧ R (.p (.bool (icB t d))) st
def w_due_k13_L1 : WS := wFor (wiEnum (aCons (wVar 1) aNil)) (gTp 2 (gsCons (gNm 2) (gsCons (gNm 3) gsNil)))
    (wIfS (wTest (wOp mNotN (wVar 3) (wC (.p .none))))
    (wSeq (wIfS (wOr (wNot (wTest (wCall S_whole_k02 (aCons (wVar 3) aNil)))) (wNot (wTest (wChain mLt mLe (wC (.p (.int 0))) (wVar 3) (wCB mLen (aCons (wVar 0) aNil))))))
    (wRet (wC (.p (.bool false))))
    wNext)
    (wIfS (wTest (wOp mNe (wOp mIx (wVar 0) (wOp mSub (wVar 3) (wC (.p (.int 1))))) (wVar 2)))
    (wRet (wC (.p (.bool false))))
    wNext))
    wNext)
def w_due_k13 : WS :=
    (wSeq (wIfS (wOr (wNot (wTest (wIsi "tuple" (wVar 1)))) (wTest (wOp mNe (wCB mLen (aCons (wVar 1) aNil)) (wOp mAdd (wCB mLen (aCons (wVar 0) aNil)) (wC (.p (.int 1)))))))
    (wRet (wC (.p (.bool false))))
    wNext)
    (wSeq w_due_k13_L1
    (wRet (wC (.p (.bool true))))))
theorem r_due_k13 (ds : List SV) (s : Store) (R : SV → Store → Prop) (w : Wf s) (h : S_due_k13 ds s R) : w_due_k13 (fnEnds s.length R) (startE 4 ds) s := by
  obtain ⟨t, d, rfl, T, ok, q⟩ := h
  show w_due_k13 _ [some (.p (.tuple (t.map nI))), some (.p d), none, none] s
  unfold w_due_k13
  have no : ∀ n, tyName s (.p d) = some n → isB n "tuple" = false → icB t d = false → wSeq (wIfS (wOr (wNot (wTest (wIsi "tuple" (wVar 1)))) (wTest (wOp mNe (wCB mLen (aCons (wVar 1) aNil)) (wOp mAdd (wCB mLen (aCons (wVar 0) aNil)) (wC (.p (.int 1)))))))
      (wRet (wC (.p (.bool false)))) wNext) (wSeq w_due_k13_L1 (wRet (wC (.p (.bool true))))) (fnEnds s.length R) [some (.p (.tuple (t.map nI))), some (.p d), none, none] s := fun n h1 h2 h3 => by
    simp only [s_seq, s_if, e_or, e_not, e_test, e_isi, v_0, v_s, h1, h2, Option.some.injEq, SV.p.injEq, PyData.bool.injEq, exists_eq_left', exists_eq_left, Bool.not_false, if_true, s_ret, e_c]
    rw [h3] at q
    exact .inl q
  cases d with
  | none => exact no _ rfl rfl rfl
  | bool b => exact no _ rfl rfl rfl
  | int b => exact no _ rfl rfl rfl
  | str z => exact no _ rfl rfl rfl
  | list l => exact no _ rfl rfl rfl
  | dict l => exact ok.elim
  | tuple l =>
    walk_at "m"
    have hic : icB t (.tuple l) = (l.length == t.length + 1 && ((List.range l.length).map fun i => gbB t i (l.getD i .none)).all id) := rfl
    refine ite2 (fun h => ?_) (fun h => ?_)
    · have h2 : (l.length == t.length + 1) = false := by
        cases e : l.length == t.length + 1 with
        | false => rfl
        | true =>
          have e := eq_of_beq e
          rw [e] at h
          simp at h
      rw [hic, h2, Bool.false_and] at q
      exact .inl q
    have hlen : l.length = t.length + 1 := by
      by_cases e : l.length = t.length + 1
      · exact e
      · exfalso
        apply h
        have : ¬ (l.length : Int) = (t.length : Int) + 1 := by omega
        simpa using this
    rw [hic, hlen, beq_self_eq_true, Bool.true_and] at q
    have bad : ∀ i d, l[i]? = some d → gbB t i d = false → R (.p (.bool false)) s := fun i d hd hb => by
      have hi := (List.getElem?_eq_some_iff.mp hd).1
      have : ((List.range (t.length + 1)).map fun i => gbB t i (l.getD i .none)).all id = false := by
        rw [List.all_eq_false]
        exact ⟨gbB t i (l.getD i .none), List.mem_map.mpr ⟨i, List.mem_range.mpr (by omega), rfl⟩, by rw [List.getD, hd]; simp [hb]⟩
      rw [this] at q
      exact q
    unfold w_due_k13_L1
    refine for_enum (st1 := s) (.p (.tuple l)) l (fun _ => rfl) (fun Q hQ => by walk_at "m"; exact hQ)
      (fun i e st => (∃ x2 x3 : Option SV, e = [some (.p (.tuple (t.map nI))), some (.p (.tuple l)), x2, x3]) ∧ st = s ∧ ∀ j d, j < i → l[j]? = some d → gbB t j d = true) ⟨⟨_, _, rfl⟩, rfl, fun j d h => absurd h (Nat.not_lt_zero _)⟩ ?_ ?_
    · rintro i d e st hd ⟨⟨x2, x3, rfl⟩, rfl, hg⟩
      have okd := ok d (List.mem_of_getElem? hd)
      obtain ⟨m, hm⟩ := okD_ty okd st
      have good : gbB t i d = true → ∀ j d', j < i + 1 → l[j]? = some d' → gbB t j d' = true := fun h j d' hj hd' => by
        by_cases e : j = i
        · subst e
          rw [hd] at hd'
          cases hd'
          exact h
        · exact hg j d' (by omega) hd'
      cases d with
      | dict _ => exact okd.elim
      | none =>
        walk_at "m"
        exact .inl ⟨⟨_, _, rfl⟩, rfl, good rfl⟩
      | int z =>
        have hgb : gbB t i (.int z) = decide (0 < z ∧ z ≤ (t.length : Int) ∧ t[(z - 1).toNat]? = some i) := rfl
        walk_at "m"
        refine ⟨_, rfl, ⟨m, hm⟩, ?_⟩
        refine ⟨_, rfl, ite2 (fun h => by cases h) (fun _ => ?_)⟩
        refine ite2 (fun h0 => ?_) (fun h0 => .inl (bad i _ hd (by rw [hgb]; exact decide_eq_false fun z => h0 z.1)))
        refine ite2 (fun h1 => .inl (bad i _ hd ?_)) (fun h1 => ?_)
        · rw [hgb]
          refine decide_eq_false fun z => ?_
          rw [decide_eq_true z.2.1] at h1
          cases h1
        have h1 : z ≤ (t.length : Int) := by
          by_cases e : z ≤ (t.length : Int)
          · exact e
          · rw [decide_eq_false e] at h1
            exact absurd rfl h1
        obtain ⟨k, rfl⟩ : ∃ k : Nat, z = (k : Int) + 1 := ⟨(z - 1).toNat, by omega⟩
        have ek : ((k : Int) + 1 - 1) = (k : Nat) := by omega
        have ht := List.getElem?_eq_getElem (l := t) (i := k) (by omega)
        rw [ek]
        refine ⟨_, by rw [at_nat', List.getElem?_map, List.getElem?_map, ht]; rfl, _, rfl, rfl, ?_⟩
        have e2 : PyData.eqv (nI t[k]) (.int (i : Nat)) = decide (t[k] = i) := by
          unfold nI
          rw [eqv_int, Bool.eq_iff_iff]
          simp
          omega
        rw [e2]
        have hgb2 : gbB t i (.int ((k : Int) + 1)) = decide (t[k] = i) := by
          rw [hgb, ek, Int.toNat_natCast, ht, decide_eq_decide]
          simp
          omega
        cases hk : decide (t[k] = i) with
        | false => exact ite2 (fun _ => .inl (bad i _ hd (by rw [hgb2, hk]))) (fun h => absurd rfl h)
        | true => exact ite2 (fun h => by cases h) (fun _ => .inl ⟨⟨_, _, rfl⟩, rfl, good (by rw [hgb2, hk])⟩)
      | bool z =>
        have := bad i _ hd rfl
        walk_at "m"
        refine ⟨_, rfl, ⟨m, hm⟩, ?_⟩
        exact ⟨_, rfl, ite2 (fun _ => .inl this) (fun h => absurd rfl h)⟩
      | str z =>
        have := bad i _ hd rfl
        walk_at "m"
        refine ⟨_, rfl, ⟨m, hm⟩, ?_⟩
        exact ⟨_, rfl, ite2 (fun _ => .inl this) (fun h => absurd rfl h)⟩
      | list z =>
        have := bad i _ hd rfl
        walk_at "m"
        refine ⟨_, rfl, ⟨m, hm⟩, ?_⟩
        exact ⟨_, rfl, ite2 (fun _ => .inl this) (fun h => absurd rfl h)⟩
      | tuple z =>
        have := bad i _ hd rfl
        walk_at "m"
        refine ⟨_, rfl, ⟨m, hm⟩, ?_⟩
        exact ⟨_, rfl, ite2 (fun _ => .inl this) (fun h => absurd rfl h)⟩
    · rintro e st ⟨⟨x2, x3, rfl⟩, rfl, hg⟩
      have : ((List.range (t.length + 1)).map fun i => gbB t i (l.getD i .none)).all id = true := by
        rw [List.all_eq_true]
        intro b hb
        obtain ⟨i, hi, rfl⟩ := List.mem_map.mp hb
        have hi := List.mem_range.mp hi
        have hd := List.getElem?_eq_getElem (l := l) (i := i) (by omega)
        rw [List.getD, hd]
        exact hg i _ (by omega) hd
      rw [this] at q
      walk_at "m"
      exact .inl q
end M

namespace M
open PySem PySem.Spec PyProof.Rows L2
local macro_rules | `(tactic| walk_at "m") => `(tactic| simp (maxSteps := 2000000) (implicitDefEqProofs := false) only [e_revs, m_revt, m_revl, e_listrev, m_mult, e_dnew, e_din, e_dnotin, s_dput, m_lend, dct_inj, m_rvs, m_pop0, m_ext1, m_addc, g_tl, v_0, v_s, e_c, e_op, e_test, e_and, e_or, e_not, e_andv, e_orv, e_notv, e_ife, e_chain, e_anil, e_acons, e_cb, e_call, e_tup, e_lst, e_lstc, e_sl, e_onone, e_osome, e_mt, e_isi, e_neg, e_rd, s_augs, e_lrg, e_lrgc, e_callx, e_orx, e_isx, e_isxt, e_place, s_raisep, s_raiset, s_try, s_frzv, isNone_x, x_ex, x_pl, xis_pp, xis_pt, xis_pm, xis_pl, xis_V, xis_R, xis_tt, xis_tp, xis_tm, xis_tl, xis_mm, xis_mp, xis_mt, xis_ml, xis_ll, xis_lp, xis_lt, xis_lm, List.any_cons, List.any_nil, in_errs0, in_errs1, in_errs2, in_errs3, m_in, m_notin, m_isb, m_notb,
  s_seq, s_next, s_break, s_cont, s_never, s_drop, s_ret, s_retn, s_if, s_asg, s_par, s_retf, s_retf2, wipeE, List.append_assoc, List.cons_append, List.nil_append, g_nm, g_snil, g_scons, g_tp, g_sb, m_int, m_sub, m_lt, m_le, m_gt, m_ge, m_mod, m_div, m_pow, m_add, m_addt, m_addl, m_adds, m_mul, m_mulc, m_isn, m_notn, m_eq, m_ne, p_p,
  q_t, q_l, q_tt, l_l, t_t, t_tt, m_ixt, m_ixl, m_ixtt, m_lent, m_lenl, m_lentt, m_max2, m_min2, m_intb, m_listt, m_listl, m_tuplel, m_app, m_setl, sl_t, sl_r, sl_l, isNone, tyName, isB, mkTup, allP, allP_map, Option.map_some, map_p_inj,
  q_cc, l_cc, p_cc, ty_cc, m_ixcc, m_lencc, m_tuplecc, m_listcc, asL_l, Option.bind_some, mkTup_p, st_at, st_setk, st_at0, st_set0, st_take, st_atS, st_setS, st_atS0, st_setS0, st_takeS, List.length_set, List.set_set, ix40, ix41, ix42, ix43, Nat.reduceAdd, Nat.zero_add, at_nat', at_succ, at_0, at_1, at_2, at_3, at_4, at_m1, eqv_int, eqv_bool, sh_int, sh_bool, sh_none, fnEnds, wYes, gNm,
  List.getElem?_cons_zero, List.getElem?_cons_succ, List.set_cons_zero, List.set_cons_succ, List.getElem?_map, List.length_map, List.length_cons, List.length_nil, List.length_append, List.map_cons, List.map_nil,
  Option.some.injEq, SV.p.injEq, SV.c.injEq, PyData.int.injEq, PyData.bool.injEq, exists_eq_left', exists_eq_left, exists_eq_right, exists_eq', exists_eq, exists_and_left, true_and, and_true, true_or, or_true, MO.lst.injEq, Bool.not_true, Bool.not_false, if_true, if_false, Bool.false_eq_true, ↓reduceIte, beq_self_eq_true, String.reduceBEq, Bool.or_false, Bool.false_or, Bool.and_false, Bool.false_and, Bool.or_true, Bool.true_or, decide_eq_true_eq, beq_iff_eq, Bool.not_eq_true])
local macro_rules | `(tactic| walk_at "mh") => `(tactic| simp (maxSteps := 2000000) (implicitDefEqProofs := false) only [e_revs, m_revt, m_revl, e_listrev, m_mult, e_dnew, e_din, e_dnotin, s_dput, m_lend, dct_inj, m_rvs, m_pop0, m_ext1, m_addc, g_tl, v_0, v_s, e_c, e_op, e_test, e_and, e_or, e_not, e_andv, e_orv, e_notv, e_ife, e_chain, e_anil, e_acons, e_cb, e_call, e_tup, e_lst, e_lstc, e_sl, e_onone, e_osome, e_mt, e_isi, e_neg, e_rd, s_augs, e_lrg, e_lrgc, e_callx, e_orx, e_isx, e_isxt, e_place, s_raisep, s_raiset, s_try, s_frzv, isNone_x, x_ex, x_pl, xis_pp, xis_pt, xis_pm, xis_pl, xis_V, xis_R, xis_tt, xis_tp, xis_tm, xis_tl, xis_mm, xis_mp, xis_mt, xis_ml, xis_ll, xis_lp, xis_lt, xis_lm, List.any_cons, List.any_nil, in_errs0, in_errs1, in_errs2, in_errs3, m_in, m_notin, m_isb, m_notb,
  s_seq, s_next, s_break, s_cont, s_never, s_drop, s_ret, s_retn, s_if, s_asg, s_par, s_retf, s_retf2, wipeE, List.append_assoc, List.cons_append, List.nil_append, g_nm, g_snil, g_scons, g_tp, g_sb, m_int, m_sub, m_lt, m_le, m_gt, m_ge, m_mod, m_div, m_pow, m_add, m_addt, m_addl, m_adds, m_mul, m_mulc, m_isn, m_notn, m_eq, m_ne, p_p,
  q_t, q_l, q_tt, l_l, t_t, t_tt, m_ixt, m_ixl, m_ixtt, m_lent, m_lenl, m_lentt, m_max2, m_min2, m_intb, m_listt, m_listl, m_tuplel, m_app, m_setl, sl_t, sl_r, sl_l, isNone, tyName, isB, mkTup, allP, allP_map, Option.map_some, map_p_inj,
  q_cc, l_cc, p_cc, ty_cc, m_ixcc, m_lencc, m_tuplecc, m_listcc, asL_l, Option.bind_some, mkTup_p, st_at, st_setk, st_at0, st_set0, st_take, st_atS, st_setS, st_atS0, st_setS0, st_takeS, List.length_set, List.set_set, ix40, ix41, ix42, ix43, Nat.reduceAdd, Nat.zero_add, at_nat', at_succ, at_0, at_1, at_2, at_3, at_4, at_m1, eqv_int, eqv_bool, sh_int, sh_bool, sh_none, fnEnds, wYes, gNm,
  List.getElem?_cons_zero, List.getElem?_cons_succ, List.set_cons_zero, List.set_cons_succ, List.getElem?_map, List.length_map, List.length_cons, List.length_nil, List.length_append, List.map_cons, List.map_nil,
  Option.some.injEq, SV.p.injEq, SV.c.injEq, PyData.int.injEq, PyData.bool.injEq, exists_eq_left', exists_eq_left, exists_eq_right, exists_eq', exists_eq, exists_and_left, true_and, and_true, true_or, or_true, MO.lst.injEq, Bool.not_true, Bool.not_false, if_true, if_false, Bool.false_eq_true, ↓reduceIte, beq_self_eq_true, String.reduceBEq, Bool.or_false, Bool.false_or, Bool.and_false, Bool.false_and, Bool.or_true, Bool.true_or, decide_eq_true_eq, beq_iff_eq, Bool.not_eq_true, tp_at0, tp_at, tp_set, Option.map_none, Option.some.injEq, *])
structure Bent (d : PyData) : Prop where
  ok : OkT d
  sx : Sx 3 100000 d
def S_bent_k13 : MSp := fun ds st R => ∃ n k o t c, ds = [.c n, .p (tv t), .p (cv c)] ∧ Tr t ∧ Ct t c ∧ st[n]? = some o ∧ Tape k o ∧ k < 2 ^ 39 ∧ ∀ d o', Bent d → Tape (k + 10) o' → R (.p d) (st.set n o')
def w_bent_k13 : WS :=
    (wSeq (wAsg (wCall S_draw_k13 (aCons (wVar 0) (aCons (wC (.p (.int 8))) aNil))) (gNm 3))
    (wSeq (wAsg (wCall S_draw_k13 (aCons (wVar 0) (aCons (wCB mLen (aCons (wVar 2) aNil)) aNil))) (gNm 4))
    (wSeq (wAsg (wLst (aCons (wVar 4) (aCons (wOp mSub (wC (.p (.int 0))) (wC (.p (.int 1)))) (aCons (wOp mAdd (wCB mLen (aCons (wVar 1) aNil)) (wC (.p (.int 1)))) (aCons (wC (.p (.bool true))) (aCons (wC (.p (.bool false))) (aCons (wC (.p (.str (PySem.Str.ofString "1")))) (aCons (wTup aNil) (aCons (wLst (aCons (wVar 4) aNil)) aNil))))))))) (gNm 5))
    (wSeq (wIfS (wTest (wOp mEq (wVar 3) (wC (.p (.int 0)))))
    (wRet (wOp mAdd (wSl (wVar 2) oNone (oSome (wVar 4))) (wSl (wVar 2) (oSome (wOp mAdd (wVar 4) (wC (.p (.int 1))))) oNone)))
    wNext)
    (wSeq (wIfS (wTest (wOp mEq (wVar 3) (wC (.p (.int 1)))))
    (wRet (wOp mAdd (wOp mAdd (wSl (wVar 2) oNone (oSome (wVar 4))) (wTup (aCons (wOp mIx (wVar 2) (wVar 4)) aNil))) (wSl (wVar 2) (oSome (wVar 4)) oNone)))
    wNext)
    (wSeq (wIfS (wTest (wOp mEq (wVar 3) (wC (.p (.int 2)))))
    (wRet (wOp mIx (wLst (aCons (wCB mList (aCons (wVar 2) aNil)) (aCons (wC (.p .none)) (aCons (wC (.p (.int 7))) (aCons (wC (.p (.str (PySem.Str.ofString "")))) (aCons (wTup aNil) (aCons (wLst (aCons (wC (.p .none)) aNil)) (aCons (wC (.p (.str (PySem.Str.ofString "cut")))) (aCons (wTup (aCons (wC (.p .none)) aNil)) aNil))))))))) (wCall S_draw_k13 (aCons (wVar 0) (aCons (wC (.p (.int 8))) aNil)))))
    wNext)
    (wSeq (wAsg (wOp mIx (wVar 5) (wCall S_draw_k13 (aCons (wVar 0) (aCons (wC (.p (.int 8))) aNil)))) (gNm 6))
    (wSeq (wIfS (wAnd (wTest (wOp mEq (wVar 3) (wC (.p (.int 3))))) (wTest (wOp mGt (wVar 4) (wC (.p (.int 0))))))
    (wAsg (wOp mIx (wVar 1) (wOp mSub (wVar 4) (wC (.p (.int 1))))) (gNm 6))
    wNext)
    (wSeq (wIfS (wTest (wOp mGt (wVar 3) (wC (.p (.int 3)))))
    (wAsg (wOp mIx (wLst (aCons (wC (.p .none)) (aCons (wCall S_draw_k13 (aCons (wVar 0) (aCons (wOp mAdd (wCB mLen (aCons (wVar 1) aNil)) (wC (.p (.int 2)))) aNil))) aNil))) (wOp mMod (wVar 3) (wC (.p (.int 2))))) (gNm 6))
    wNext)
    (wRet (wOp mAdd (wOp mAdd (wSl (wVar 2) oNone (oSome (wVar 4))) (wTup (aCons (wVar 6) aNil))) (wSl (wVar 2) (oSome (wOp mAdd (wVar 4) (wC (.p (.int 1))))) oNone))))))))))))
theorem r_bent_k13 (ds : List SV) (s : Store) (R : SV → Store → Prop) (w : Wf s) (h : S_bent_k13 ds s R) : w_bent_k13 (fnEnds s.length R) (startE 7 ds) s := by
  obtain ⟨n, k, o, t, c, rfl, T, C, hn, To, hk, q⟩ := h
  have hlt : n < s.length := (List.getElem?_eq_some_iff.mp hn).1
  have hl := T.len
  have hc := C.len
  show w_bent_k13 _ [some (.c n), some (.p (.tuple (t.map nI))), some (.p (.tuple (c.map oN))), none, none, none, none] s
  unfold w_bent_k13
  have D : ∀ {k : Nat} {o : MO} {u : Int} {R : SV → Store → Prop} {st : Store}, st[n]? = some o → Tape k o → k < 2 ^ 40 → 0 < u → u < 2 ^ 64 → (∀ (r : Nat) o', (r : Int) < u → Tape (k + 1) o' → R (.p (.int (r : Int))) (st.set n o')) → S_draw_k13 [.c n, .p (.int u)] st R := fun {k o u R st} hn T hk h0 h1 q =>
    ⟨n, u, k, o, rfl, h0, Int.lt_trans h1 (by decide), hn, T, hk, fun r o' a b t => by
      obtain ⟨j, rfl⟩ : ∃ j : Nat, r = (j : Int) := ⟨r.toNat, by omega⟩
      exact q j o' b t⟩
  walk_at "m"
  refine D hn To (by omega) (by omega) (by omega) fun a o1 ha T1 => ?_
  walk_at "m"
  refine D (tp_at0 hlt) T1 (by omega) (by omega) (by omega) fun b o2 hb T2 => ?_
  rw [List.set_set]
  have hT3 : ∀ {j : Nat} {o' : MO}, Tape j o' → j ≤ k + 6 → Tape (k + 10) o' := fun h hj => h.up (by omega)
  have fin : ∀ (d : PyData) (o' : MO) (j : Nat), Tape j o' → j ≤ k + 6 → Bent d → RetTo s.length R (.p d) (s.set n o') := fun d o' j hT hj hd => .inl (q _ _ hd (hT3 hT hj))
  have sc : ∀ x ∈ c.map oN, OkD x ∧ Sx 1 50 x := fun x hx => by
    obtain ⟨y, hy, rfl⟩ := List.mem_map.mp hx
    cases y with
    | none => exact ⟨trivial, sx_none _ _⟩
    | some z =>
      obtain ⟨v, hv⟩ := List.getElem?_of_mem hy
      obtain ⟨h1, h2⟩ := C.at_ v z hv
      have := (List.getElem?_eq_some_iff.mp h2).1
      exact ⟨trivial, (sx_nat 1 (n := z) (by omega)).up (by decide) (by decide)⟩
  have bt : ∀ l : List PyData, l.length ≤ 500 → (∀ x ∈ l, OkD x ∧ Sx 1 50 x) → Bent (.tuple l) := fun l hl h => ⟨fun x hx => (h x hx).1, (sx_tup (fun x hx => (h x hx).2) hl).up (by decide) (by decide)⟩
  have e3 : ((b : Nat) : Int) + 1 = ((b + 1 : Nat) : Int) := by omega
  have lt : (List.take b (c.map oN)).length ≤ 200 := by rw [List.length_take, List.length_map]; omega
  have ld : ∀ z, (List.drop z (c.map oN)).length ≤ 200 := fun z => by rw [List.length_drop, List.length_map]; omega
  have mt : ∀ x ∈ List.take b (c.map oN), OkD x ∧ Sx 1 50 x := fun x hx => sc x (List.mem_of_mem_take hx)
  have md : ∀ z, ∀ x ∈ List.drop z (c.map oN), OkD x ∧ Sx 1 50 x := fun z x hx => sc x (List.mem_of_mem_drop hx)
  have tl : ∀ (d : PyData) (z : Nat) (o' : MO) (j : Nat), Tape j o' → j ≤ k + 6 → OkD d → Sx 1 50 d → (1 ≤ sizeLine ∧ mAdd (SV.p (.tuple (List.take b (c.map oN)))) (SV.p (.tuple [d])) (s.set n o') fun x s1 => mAdd x (SV.p (.tuple (List.drop z (c.map oN)))) s1 (RetTo s.length R)) := fun d z o' j hT hj h1 h2 => by
    refine ⟨by decide, ?_⟩
    rw [m_addt]
    refine ⟨by rw [sizeLine_eq]; simp at lt ⊢; omega, ?_⟩
    rw [m_addt]
    have l2 := ld z
    refine ⟨by rw [sizeLine_eq]; simp at lt l2 ⊢; omega, fin _ o' j hT hj (bt _ (by simp at lt l2 ⊢; omega) fun x hx => ?_)⟩
    rcases List.mem_append.mp hx with hx | hx
    · rcases List.mem_append.mp hx with hx | hx
      · exact mt x hx
      · rw [List.mem_singleton.mp hx]
        exact ⟨h1, h2⟩
    · exact md z x hx
  have hcb : c[b]? = some (c[b]'(by omega)) := List.getElem?_eq_getElem (by omega)
  have scb := sc (oN (c[b]'(by omega))) (List.mem_map_of_mem (List.getElem_mem _))
  walk_at "m"
  rw [e3, cut_to, cut_from, cut_from]
  refine ⟨by decide, by decide, by decide, ?_⟩
  refine ite2 (fun h => ?_) (fun h => ?_)
  · have l2 := ld (b + 1)
    refine ⟨by rw [sizeLine_eq]; omega, fin _ o2 _ T2 (by omega) (bt _ (by rw [List.length_append, List.length_take, List.length_drop, List.length_map]; omega) fun x hx => ?_)⟩
    rcases List.mem_append.mp hx with hx | hx
    · exact mt x hx
    · exact md _ x hx
  refine ite2 (fun h => ?_) (fun h => ?_)
  · rw [hcb]
    exact ⟨_, rfl, tl _ _ o2 _ T2 (by omega) scb.1 scb.2⟩
  refine ite2 (fun h => ?_) (fun h => ?_)
  · refine ⟨by decide, by decide, by decide, by decide, D (tp_at0 hlt) T2 (by omega) (by omega) (by omega) fun r o3 hr T3 => ?_⟩
    rw [List.set_set]
    obtain ⟨L, hL⟩ : ∃ L : List PyData, L = [.list (c.map oN), .none, .int 7, .str (Str.ofString ""), .tuple [], .list [.none], .str (Str.ofString "cut"), .tuple [.none]] := ⟨_, rfl⟩
    have hok : ∀ d ∈ L, Bent d := fun d hd => by
      rw [hL] at hd
      simp only [List.mem_cons, List.not_mem_nil, or_false] at hd
      rcases hd with rfl | rfl | rfl | rfl | rfl | rfl | rfl | rfl
      · exact ⟨trivial, (sx_lst (n := 300) (fun x hx => (sc x hx).2) (by rw [List.length_map]; omega)).up (by decide) (by decide)⟩
      · exact ⟨trivial, sx_none _ _⟩
      · exact ⟨trivial, (sx_nat 3 (n := 7) (by decide)).up (by decide) (by decide)⟩
      · exact ⟨trivial, (sx_str 3 (by decide)).up (by decide) (by decide)⟩
      · exact bt _ (by decide) fun x hx => by simp at hx
      · exact ⟨trivial, (sx_lst (n := 1) (k := 1) (w := 50) (fun x hx => by rw [List.mem_singleton.mp hx]; exact sx_none _ _) (by decide)).up (by decide) (by decide)⟩
      · exact ⟨trivial, (sx_str 3 (by decide)).up (by decide) (by decide)⟩
      · exact bt _ (by decide) fun x hx => by rw [List.mem_singleton.mp hx]; exact ⟨trivial, sx_none _ _⟩
    rw [← hL]
    have hLl : L.length = 8 := by rw [hL]; rfl
    exact ⟨L.map SV.p, .p (L[r]'(by omega)), rfl, by rw [at_nat', List.getElem?_map, List.getElem?_eq_getElem (by omega)]; rfl, fin _ o3 _ T3 (by omega) (hok _ (List.getElem_mem _))⟩
  refine D (tp_at0 hlt) T2 (by omega) (by omega) (by omega) fun r o3 hr T3 => ?_
  rw [List.set_set]
  obtain ⟨L, hL⟩ : ∃ L : List PyData, L = [.int (b : Nat), .int (0 - 1), .int ((t.length : Int) + 1), .bool true, .bool false, .str (Str.ofString "1"), .tuple [], .list [.int (b : Nat)]] := ⟨_, rfl⟩
  have hok : ∀ d ∈ L, OkD d ∧ Sx 1 50 d := fun d hd => by
    rw [hL] at hd
    simp only [List.mem_cons, List.not_mem_nil, or_false] at hd
    rcases hd with rfl | rfl | rfl | rfl | rfl | rfl | rfl | rfl
    · exact ⟨trivial, (sx_nat 1 (n := b) (by omega)).up (by decide) (by decide)⟩
    · exact ⟨trivial, (sx_m1 1).up (by decide) (by decide)⟩
    · exact ⟨trivial, (sx_nat 1 (n := t.length + 1) (by omega)).up (by decide) (by decide)⟩
    · exact ⟨trivial, sx_bool _ _ _⟩
    · exact ⟨trivial, sx_bool _ _ _⟩
    · exact ⟨trivial, (sx_str 1 (by decide)).up (by decide) (by decide)⟩
    · exact ⟨trivial, (sx_tup (n := 0) (k := 0) (w := 0) (fun x hx => by simp at hx) (by decide)).up (by decide) (by decide)⟩
    · exact ⟨trivial, (sx_lst (n := 1) (k := 0) (w := 20) (fun x hx => by rw [List.mem_singleton.mp hx]; exact sx_nat 0 (by omega)) (by show 1 ≤ 1; decide)).up (by decide) (by decide)⟩
  rw [← hL]
  have hLl : L.length = 8 := by rw [hL]; rfl
  refine ⟨L.map SV.p, .p (L[r]'(by omega)), rfl, by rw [at_nat', List.getElem?_map, List.getElem?_eq_getElem (by omega)]; rfl, ?_⟩
  obtain ⟨ok1, ok2⟩ := hok _ (List.getElem_mem (l := L) (n := r) (by omega))
  generalize L[r]'(by omega) = d0 at ok1 ok2 ⊢
  have last : ∀ (d : PyData), OkD d → Sx 1 50 d → (if 3 < (a : Int) then
      S_draw_k13 [SV.c n, SV.p (.int ((t.length : Int) + 2))] (s.set n o3) fun x s_1 => ∃ ds, Option.map (fun x => PyData.none :: x) (allP [x]) = some ds ∧ ds.length ≤ sizeLine ∧ (0 : Int) < 2 ∧ ∃ v, atI (List.map SV.p ds) ((a : Int) % 2) = some v ∧ 1 ≤ sizeLine ∧
        mAdd (SV.p (.tuple (List.take b (c.map oN)))) (match allP [v] with | some ds => SV.p (.tuple ds) | none => SV.t [v]) s_1 fun x s1 => mAdd x (SV.p (.tuple (List.drop (b + 1) (c.map oN)))) s1 (RetTo s.length R)
      else 1 ≤ sizeLine ∧ mAdd (SV.p (.tuple (List.take b (c.map oN)))) (match allP [SV.p d] with | some ds => SV.p (.tuple ds) | none => SV.t [SV.p d]) (s.set n o3) fun x s1 => mAdd x (SV.p (.tuple (List.drop (b + 1) (c.map oN)))) s1 (RetTo s.length R)) := fun d h1 h2 => by
    refine ite2 (fun h3 => ?_) (fun h3 => tl d _ o3 _ T3 (by omega) h1 h2)
    refine D (tp_at0 hlt) T3 (by omega) (by omega) (by omega) fun f o4 hf T4 => ?_
    rw [List.set_set]
    refine ⟨[.none, .int (f : Nat)], rfl, by show 2 ≤ sizeLine; decide, by decide, ?_⟩
    have hm : ((a : Nat) : Int) % 2 = ((a % 2 : Nat) : Int) := by omega
    rw [hm]
    have : a % 2 = 0 ∨ a % 2 = 1 := by omega
    rcases this with h | h
    · rw [h]
      exact ⟨.p .none, rfl, tl .none _ o4 _ T4 (by omega) trivial (sx_none _ _)⟩
    · rw [h]
      exact ⟨.p (.int (f : Nat)), rfl, tl (.int (f : Nat)) _ o4 _ T4 (by omega) trivial ((sx_nat 1 (n := f) (by omega)).up (by decide) (by decide))⟩
  refine ite2 (fun h3 => ite2 (fun h0 => ?_) (fun _ => last d0 ok1 ok2)) (fun _ => last d0 ok1 ok2)
  have hz : ((b : Nat) : Int) - 1 = ((b - 1 : Nat) : Int) := by omega
  have ht := List.getElem?_eq_getElem (l := t) (i := b - 1) (by omega)
  have htl := T.le (b - 1) _ ht
  rw [hz]
  exact ⟨.p (nI (t[b - 1]'(by omega))), by rw [at_nat', List.getElem?_map, List.getElem?_map, ht]; rfl, last (nI (t[b - 1]'(by omega))) trivial ((sx_nat 1 (n := t[b - 1]'(by omega)) (by omega)).up (by decide) (by decide))⟩
end M

namespace M
open PySem PySem.Spec PyProof.Rows L2
def su (n : Nat) (f : Nat → Int) : Int := ((List.range n).map f).sum
theorem su_0 (f : Nat → Int) : su 0 f = 0 := rfl
theorem su_s (n : Nat) (f : Nat → Int) : su (n + 1) f = su n f + f n := by
  unfold su
  rw [List.range_succ, List.map_append, List.sum_append]
  simp
theorem su_congr {n : Nat} {f g : Nat → Int} (h : ∀ i, i < n → f i = g i) : su n f = su n g := by
  unfold su
  congr 1
  exact List.map_congr_left fun i hi => h i (List.mem_range.mp hi)
theorem su_add (n : Nat) (f g : Nat → Int) : su n (fun i => f i + g i) = su n f + su n g := by
  induction n with
  | zero => rfl
  | succ n ih => rw [su_s, su_s, su_s, ih]; omega
theorem su_sub (n : Nat) (f g : Nat → Int) : su n (fun i => f i - g i) = su n f - su n g := by
  induction n with
  | zero => rfl
  | succ n ih => rw [su_s, su_s, su_s, ih]; omega
theorem su_le {n : Nat} {f g : Nat → Int} (h : ∀ i, i < n → f i ≤ g i) : su n f ≤ su n g := by
  induction n with
  | zero => exact Int.le_refl _
  | succ n ih =>
    have := ih fun i hi => h i (by omega)
    have := h n (by omega)
    rw [su_s, su_s]; omega
theorem su_first (n : Nat) (f : Nat → Int) : su (n + 1) f = f 0 + su n fun i => f (i + 1) := by
  induction n with
  | zero => rw [su_s, su_0, su_0]; omega
  | succ n ih => rw [su_s, ih, su_s]; omega
theorem su_zero {n : Nat} {f : Nat → Int} (h : ∀ i, i < n → f i = 0) : su n f = 0 := by
  induction n with
  | zero => rfl
  | succ n ih => rw [su_s, ih fun i hi => h i (by omega), h n (by omega)]; rfl
theorem su_one {n v : Nat} (h : v < n) (x : Int) : su n (fun i => if i = v then x else 0) = x := by
  induction n with
  | zero => omega
  | succ n ih =>
    rw [su_s]
    by_cases e : v = n
    · subst e
      rw [su_zero fun i hi => if_neg (by omega), if_pos rfl]; omega
    · rw [ih (by omega), if_neg (by omega)]; omega
theorem su_get (l : List Int) : su l.length (fun i => l.getD i 0) = l.sum := by
  unfold su
  congr 1
  refine List.ext_getElem? fun i => ?_
  rw [List.getElem?_map]
  by_cases h : i < l.length
  · rw [List.getElem?_range h, List.getElem?_eq_getElem h, Option.map_some, List.getD, List.getElem?_eq_getElem h]; rfl
  · rw [List.getElem?_eq_none (l := List.range _) (by simp; omega), List.getElem?_eq_none (by omega)]; rfl
theorem kidsUp_lt (t : List Nat) (v : Nat) : ∀ (i k : Nat), k ∈ kidsUp t i v → k ≤ i
  | 0, k, h => by simp [kidsUp] at h
  | i + 1, k, h => by
    rw [kidsUp_succ] at h
    rcases List.mem_append.mp h with h | h
    · have := kidsUp_lt t v i k h; omega
    · split at h
      · simp at h; omega
      · simp at h
theorem kidsUp_nd (t : List Nat) (v : Nat) : ∀ i : Nat, (kidsUp t i v).Nodup
  | 0 => by simp [kidsUp]
  | i + 1 => by
    rw [kidsUp_succ, List.nodup_append]
    refine ⟨kidsUp_nd t v i, by split <;> simp, fun a ha b hb e => ?_⟩
    have := kidsUp_lt t v i a ha
    split at hb
    · simp at hb; omega
    · simp at hb
theorem kids_nd (t : List Nat) (v : Nat) : (kids t v).Nodup := kidsUp_nd t v _
theorem kids_sum {t : List Nat} (T : Tr t) (f : Nat → Nat → Int) : ∀ i, i ≤ t.length → su (t.length + 1) (fun v => ((kidsUp t i v).map (f v)).sum) = su i fun k => f (par t (k + 1)) (k + 1)
  | 0, _ => by
    rw [su_0]
    exact su_zero fun i _ => by simp [kidsUp]
  | i + 1, h => by
    have lp := par_lt T (p := i + 1) (by omega) (by omega)
    rw [su_s i, ← kids_sum T f i (by omega), ← su_one (n := t.length + 1) (v := par t (i + 1)) (by omega) (f (par t (i + 1)) (i + 1)), ← su_add]
    refine su_congr fun v _ => ?_
    rw [kidsUp_succ, par_get (by omega), List.map_append, List.sum_append]
    by_cases e : par t (i + 1) = v
    · subst e; simp
    · rw [if_neg (by simpa using e), if_neg (Ne.symm e)]; simp
theorem sel_none {h : Nat → Int} : ∀ {l : List Nat} {o : Option Nat}, (∀ k ∈ l, o ≠ some k) → (l.map fun k => if o = some k then h k else 0).sum = 0
  | [], _, _ => rfl
  | x :: l, o, hn => by
    rw [List.map_cons, List.sum_cons, if_neg (hn x List.mem_cons_self), sel_none fun k hk => hn k (List.mem_cons_of_mem _ hk)]; rfl
theorem sel_one {h : Nat → Int} : ∀ {l : List Nat} {q : Nat}, l.Nodup → q ∈ l → (l.map fun k => if some q = some k then h k else 0).sum = h q
  | [], _, _, hq => by simp at hq
  | x :: l, q, nd, hq => by
    obtain ⟨n1, n2⟩ := List.nodup_cons.mp nd
    rw [List.map_cons, List.sum_cons]
    by_cases e : q = x
    · subst e
      rw [if_pos rfl, sel_none fun k hk e => n1 (by cases e; exact hk)]; omega
    · rw [if_neg (fun z => e (Option.some.inj z)), sel_one n2 (by simpa [e] using hq)]; omega
def mxl (h : Nat → Int) (l : List Nat) : Int := l.foldr (fun k a => max (h k) a) 0
theorem mxl_nn (h : Nat → Int) : ∀ l, 0 ≤ mxl h l
  | [] => Int.le_refl _
  | x :: l => by
    have := mxl_nn h l
    show 0 ≤ max (h x) (mxl h l)
    omega
theorem mxl_ge {h : Nat → Int} : ∀ {l : List Nat} {k : Nat}, k ∈ l → h k ≤ mxl h l
  | [], _, hk => by simp at hk
  | x :: l, k, hk => by
    show h k ≤ max (h x) (mxl h l)
    rcases List.mem_cons.mp hk with rfl | hk
    · omega
    · have := mxl_ge (h := h) hk; omega
theorem mxl_mem (h : Nat → Int) : ∀ l : List Nat, mxl h l = 0 ∨ ∃ k ∈ l, mxl h l = h k
  | [] => .inl rfl
  | x :: l => by
    have e : mxl h (x :: l) = max (h x) (mxl h l) := rfl
    rw [e]
    by_cases c : mxl h l ≤ h x
    · exact .inr ⟨x, List.mem_cons_self, by omega⟩
    · rcases mxl_mem h l with z | ⟨k, hk, z⟩
      · exact .inl (by omega)
      · exact .inr ⟨k, List.mem_cons_of_mem _ hk, by omega⟩
theorem sel_le {h : Nat → Int} {l : List Nat} (nd : l.Nodup) (o : Option Nat) : (l.map fun k => if o = some k then h k else 0).sum ≤ mxl h l := by
  by_cases c : ∃ k ∈ l, o = some k
  · obtain ⟨k, hk, rfl⟩ := c
    rw [sel_one nd hk]
    exact mxl_ge hk
  · rw [sel_none fun k hk e => c ⟨k, hk, e⟩]
    exact mxl_nn h l
def heavyF (t : List Nat) (x : List Int) : List Int := upTo (· + ·) t x t.length
def hv (t : List Nat) (x : List Int) (v : Nat) : Int := (heavyF t x).getD v 0
theorem heavyF_len (t : List Nat) (x : List Int) : (heavyF t x).length = x.length := by
  unfold heavyF
  rw [upTo_len]
theorem hv_sum {t : List Nat} {x : List Int} (T : Tr t) (hx : x.length = t.length + 1) {v : Nat} (h : v < t.length + 1) : hv t x v = x.getD v 0 + ((kids t v).map (hv t x)).sum := by
  have := upTo_fold (g := (· + ·)) T hx h
  rw [← fold_sum]
  exact this
theorem hv_nn {t : List Nat} {x : List Int} (T : Tr t) (hx : x.length = t.length + 1) (h0 : ∀ v, 0 ≤ x.getD v 0) : ∀ (m v : Nat), t.length - v ≤ m → v < t.length + 1 → 0 ≤ hv t x v
  | m, v, h, hv' => by
    rw [hv_sum T hx hv']
    have : 0 ≤ ((kids t v).map (hv t x)).sum := by
      refine sum_nn fun y hy => ?_
      obtain ⟨k, hk, rfl⟩ := List.mem_map.mp hy
      have := kids_gt T hk
      cases m with
      | zero => omega
      | succ m => exact hv_nn T hx h0 m k (by omega) this.2
    have := h0 v
    omega
def wsum (t : List Nat) (c : List (Option Nat)) (x : List Int) : Int := su (t.length + 1) fun p => x.getD p 0 * (chg t c p : Nat)
def selAt (t : List Nat) (c : List (Option Nat)) (x : List Int) (v : Nat) : Int := ((kids t v).map fun k => if c.getD v none = some k then hv t x k else 0).sum
theorem wsum_eq {t : List Nat} {x : List Int} (T : Tr t) (hx : x.length = t.length + 1) (c : List (Option Nat)) : wsum t c x = su (t.length + 1) (hv t x) - hv t x 0 - su (t.length + 1) (selAt t c x) := by
  have e1 : wsum t c x = su (t.length + 1) (fun p => hv t x p * (chg t c p : Nat)) - su (t.length + 1) (fun p => ((kids t p).map fun k => hv t x k * (chg t c p : Nat)).sum) := by
    rw [← su_sub]
    refine su_congr fun p hp => ?_
    have := hv_sum T hx hp
    have e : x.getD p 0 = hv t x p - ((kids t p).map (hv t x)).sum := by omega
    rw [e, Int.sub_mul]
    congr 1
    generalize kids t p = l
    induction l with
    | nil => simp
    | cons a l ih => rw [List.map_cons, List.sum_cons, List.map_cons, List.sum_cons, Int.add_mul, ih]
  have e2 := kids_sum T (fun p k => hv t x k * (chg t c p : Nat)) t.length (Nat.le_refl _)
  have e3 := kids_sum T (fun v k => if c.getD v none = some k then hv t x k else 0) t.length (Nat.le_refl _)
  have e2' : su (t.length + 1) (fun p => ((kids t p).map fun k => hv t x k * (chg t c p : Nat)).sum) = _ := e2
  have e3' : su (t.length + 1) (selAt t c x) = _ := e3
  rw [e1, e2', e3', su_first, su_first (f := hv t x), chg_0]
  have e4 : su t.length (fun i => hv t x (i + 1) * (chg t c (i + 1) : Nat)) = su t.length (fun i => hv t x (i + 1)) + su t.length (fun k => hv t x (k + 1) * (chg t c (par t (k + 1)) : Nat)) - su t.length (fun k => if c.getD (par t (k + 1)) none = some (k + 1) then hv t x (k + 1) else 0) := by
    rw [← su_add, ← su_sub]
    refine su_congr fun i hi => ?_
    rw [chg_s T c (p := i + 1) (by omega) (by omega)]
    split
    · simp
      omega
    · rw [Int.natCast_add, Int.mul_add]; simp; omega
  rw [e4]
  simp
  omega
def dueF (t : List Nat) (x : List Int) : Int := su (t.length + 1) (hv t x) - hv t x 0 - su (t.length + 1) fun v => mxl (hv t x) (kids t v)
theorem wsum_ge {t : List Nat} {x : List Int} (T : Tr t) (hx : x.length = t.length + 1) (c : List (Option Nat)) : dueF t x ≤ wsum t c x := by
  rw [wsum_eq T hx c]
  unfold dueF
  have : su (t.length + 1) (selAt t c x) ≤ su (t.length + 1) fun v => mxl (hv t x) (kids t v) := su_le fun v _ => sel_le (kids_nd t v) _
  omega
theorem wsum_least {t : List Nat} {x : List Int} (T : Tr t) (hx : x.length = t.length + 1) (h0 : ∀ v, 0 ≤ x.getD v 0) : wsum t (ogF t (heavyF t x)) x = dueF t x := by
  rw [wsum_eq T hx]
  unfold dueF
  congr 1
  refine su_congr fun v hv' => ?_
  obtain ⟨o, h1, h2⟩ := ogF_fm T (heavyF t x) hv'
  have hg : (ogF t (heavyF t x)).getD v none = o := by rw [List.getD, h1]; rfl
  unfold selAt
  rw [hg]
  cases o with
  | none =>
    have h2 : kids t v = [] := h2
    rw [h2]; rfl
  | some q =>
    obtain ⟨f1, f2, _⟩ := h2
    rw [sel_one (kids_nd t v) f1]
    have g1 := mxl_ge (h := hv t x) f1
    have g2 := hv_nn T hx h0 _ q (Nat.le_refl _) (kids_gt T f1).2
    rcases mxl_mem (hv t x) (kids t v) with z | ⟨k, hk, z⟩
    · omega
    · have : hv t x k ≤ hv t x q := f2 k hk
      omega
end M

namespace M
open PySem PySem.Spec PyProof.Rows L2
local macro_rules | `(tactic| walk_at "m") => `(tactic| simp (maxSteps := 2000000) (implicitDefEqProofs := false) only [v_0, v_s, e_c, e_op, e_test, e_and, e_or, e_not, e_andv, e_orv, e_notv, e_ife, e_chain, e_anil, e_acons, e_cb, e_call, e_tup, e_lst, e_lstc, e_sl, e_onone, e_osome, e_mt, e_isi, e_neg, e_rd, s_augs, e_lrg, e_lrgc, e_callx, e_orx, e_isx, e_isxt, e_place, s_raisep, s_raiset, s_try, s_frzv, isNone_x, x_ex, x_pl, xis_pp, xis_pt, xis_pm, xis_pl, xis_V, xis_R, xis_tt, xis_tp, xis_tm, xis_tl, xis_mm, xis_mp, xis_mt, xis_ml, xis_ll, xis_lp, xis_lt, xis_lm, List.any_cons, List.any_nil, in_errs0, in_errs1, in_errs2, in_errs3, m_in, m_notin, m_isb, m_notb,
  s_seq, s_next, s_break, s_cont, s_never, s_drop, s_ret, s_retn, s_if, s_asg, s_par, s_retf, s_retf2, wipeE, List.append_assoc, List.cons_append, List.nil_append, g_nm, g_snil, g_scons, g_tp, g_sb, m_int, m_sub, m_lt, m_le, m_gt, m_ge, m_mod, m_div, m_pow, m_add, m_addt, m_addl, m_adds, m_mul, m_mulc, m_isn, m_notn, m_eq, m_ne, p_p,
  q_t, q_l, q_tt, l_l, t_t, t_tt, m_ixt, m_ixl, m_ixtt, m_lent, m_lenl, m_lentt, m_max2, m_min2, m_intb, m_listt, m_listl, m_tuplel, m_app, m_setl, sl_t, sl_r, sl_l, isNone, tyName, isB, mkTup, allP, allP_map, Option.map_some, map_p_inj,
  q_cc, l_cc, p_cc, ty_cc, m_ixcc, m_lencc, m_tuplecc, m_listcc, asL_l, Option.bind_some, mkTup_p, st_at, st_setk, st_at0, st_set0, st_take, st_atS, st_setS, st_atS0, st_setS0, st_takeS, List.length_set, List.set_set, ix40, ix41, ix42, ix43, Nat.reduceAdd, Nat.zero_add, at_nat', at_succ, at_0, at_1, at_2, at_3, at_4, at_m1, eqv_int, eqv_bool, sh_int, sh_bool, sh_none, fnEnds, wYes, gNm,
  List.getElem?_cons_zero, List.getElem?_cons_succ, List.set_cons_zero, List.set_cons_succ, List.getElem?_map, List.length_map, List.length_cons, List.length_nil, List.length_append, List.map_cons, List.map_nil,
  Option.some.injEq, SV.p.injEq, SV.c.injEq, PyData.int.injEq, PyData.bool.injEq, exists_eq_left', exists_eq_left, exists_eq_right, exists_eq', exists_eq, exists_and_left, true_and, and_true, true_or, or_true, MO.lst.injEq, Bool.not_true, Bool.not_false, if_true, if_false, Bool.false_eq_true, ↓reduceIte, beq_self_eq_true, String.reduceBEq, Bool.or_false, Bool.false_or, Bool.and_false, Bool.false_and, Bool.or_true, Bool.true_or, decide_eq_true_eq, beq_iff_eq, Bool.not_eq_true])
local macro_rules | `(tactic| walk_at "mh") => `(tactic| simp (maxSteps := 2000000) (implicitDefEqProofs := false) only [v_0, v_s, e_c, e_op, e_test, e_and, e_or, e_not, e_andv, e_orv, e_notv, e_ife, e_chain, e_anil, e_acons, e_cb, e_call, e_tup, e_lst, e_lstc, e_sl, e_onone, e_osome, e_mt, e_isi, e_neg, e_rd, s_augs, e_lrg, e_lrgc, e_callx, e_orx, e_isx, e_isxt, e_place, s_raisep, s_raiset, s_try, s_frzv, isNone_x, x_ex, x_pl, xis_pp, xis_pt, xis_pm, xis_pl, xis_V, xis_R, xis_tt, xis_tp, xis_tm, xis_tl, xis_mm, xis_mp, xis_mt, xis_ml, xis_ll, xis_lp, xis_lt, xis_lm, List.any_cons, List.any_nil, in_errs0, in_errs1, in_errs2, in_errs3, m_in, m_notin, m_isb, m_notb,
  s_seq, s_next, s_break, s_cont, s_never, s_drop, s_ret, s_retn, s_if, s_asg, s_par, s_retf, s_retf2, wipeE, List.append_assoc, List.cons_append, List.nil_append, g_nm, g_snil, g_scons, g_tp, g_sb, m_int, m_sub, m_lt, m_le, m_gt, m_ge, m_mod, m_div, m_pow, m_add, m_addt, m_addl, m_adds, m_mul, m_mulc, m_isn, m_notn, m_eq, m_ne, p_p,
  q_t, q_l, q_tt, l_l, t_t, t_tt, m_ixt, m_ixl, m_ixtt, m_lent, m_lenl, m_lentt, m_max2, m_min2, m_intb, m_listt, m_listl, m_tuplel, m_app, m_setl, sl_t, sl_r, sl_l, isNone, tyName, isB, mkTup, allP, allP_map, Option.map_some, map_p_inj,
  q_cc, l_cc, p_cc, ty_cc, m_ixcc, m_lencc, m_tuplecc, m_listcc, asL_l, Option.bind_some, mkTup_p, st_at, st_setk, st_at0, st_set0, st_take, st_atS, st_setS, st_atS0, st_setS0, st_takeS, List.length_set, List.set_set, ix40, ix41, ix42, ix43, Nat.reduceAdd, Nat.zero_add, at_nat', at_succ, at_0, at_1, at_2, at_3, at_4, at_m1, eqv_int, eqv_bool, sh_int, sh_bool, sh_none, fnEnds, wYes, gNm,
  List.getElem?_cons_zero, List.getElem?_cons_succ, List.set_cons_zero, List.set_cons_succ, List.getElem?_map, List.length_map, List.length_cons, List.length_nil, List.length_append, List.map_cons, List.map_nil,
  Option.some.injEq, SV.p.injEq, SV.c.injEq, PyData.int.injEq, PyData.bool.injEq, exists_eq_left', exists_eq_left, exists_eq_right, exists_eq', exists_eq, exists_and_left, true_and, and_true, true_or, or_true, MO.lst.injEq, Bool.not_true, Bool.not_false, if_true, if_false, Bool.false_eq_true, ↓reduceIte, beq_self_eq_true, String.reduceBEq, Bool.or_false, Bool.false_or, Bool.and_false, Bool.false_and, Bool.or_true, Bool.true_or, decide_eq_true_eq, beq_iff_eq, Bool.not_eq_true, tp_at0, tp_at, tp_set, Option.map_none, Option.some.injEq, *])
theorem chg_le {t : List Nat} (T : Tr t) (c : List (Option Nat)) {p : Nat} (h : p < t.length + 1) : chg t c p ≤ 200 := by
  have h1 := road_len T p p (Nat.le_refl _) h
  have h2 : (((road t p).dropLast.filter (isTop t c)).length) ≤ (road t p).dropLast.length := List.length_filter_le _ _
  have h3 : (road t p).dropLast.length ≤ (road t p).length := by rw [List.length_dropLast]; omega
  have := T.len
  unfold chg
  omega
def S_least_sum_of : MSp := fun ds st R => ∃ t c x, ds = [.p (tv t), .p (cv c), .p (iL x)] ∧ Tr t ∧ c.length = t.length + 1 ∧ x.length = t.length + 1 ∧ R (.p (.int (wsum t c x))) st
def w_least_sum_of : WS :=
    (wRet (wCB mSum (aCons (wLc (wiZip (aCons (wVar 2) (aCons (wCall S_cuts_all_changes (aCons (wVar 0) (aCons (wVar 1) aNil))) aNil))) (gTp 2 (gsCons (gNm 3) (gsCons (gNm 4) gsNil))) wYes (wOp mMul (wVar 3) (wVar 4)) [3, 4]) aNil)))
theorem r_least_sum_of (ds : List SV) (s : Store) (R : SV → Store → Prop) (w : Wf s) (h : S_least_sum_of ds s R) : w_least_sum_of (fnEnds s.length R) (startE 5 ds) s := by
  obtain ⟨t, c, x, rfl, T, hc, hx, q⟩ := h
  show w_least_sum_of _ [some (.p (tv t)), some (.p (cv c)), some (.p (iL x)), none, none] s
  have hl := T.len
  have la : (acF t c).length = t.length + 1 := by simp [acF]
  have lm : min (x.map PyData.int).length ((acF t c).map PyData.int).length = t.length + 1 := by rw [List.length_map, List.length_map, la, hx]; omega
  unfold w_least_sum_of
  walk_at "m"
  refine lc_zip (st1 := s) (.p (iL x)) (.p (iL (acF t c))) (x.map PyData.int) ((acF t c).map PyData.int) (fun i => some (.int (x.getD i 0 * (chg t c i : Nat)))) (fun _ => rfl) (fun _ => rfl) (fun Q hQ => by walk_at "m"; exact ⟨t, c, rfl, T, hc, hQ⟩) (by rw [List.length_map, sizeLine_eq]; omega) (fun i d u acc Y Z hd hu hY hZ => ?_) w ?_
  · have hi : i < t.length + 1 := by
      have := (List.getElem?_eq_some_iff.mp hd).1
      rw [List.length_map] at this; omega
    have e1 : x[i]? = some (x.getD i 0) := by rw [List.getD, List.getElem?_eq_getElem (by omega)]; rfl
    rw [List.getElem?_map, e1] at hd
    have e2 : (acF t c)[i]? = some (chg t c i : Int) := by unfold acF; rw [List.getElem?_map, List.getElem?_range hi]; rfl
    rw [List.getElem?_map, e2] at hu
    cases hd; cases hu
    have := chg_le T c hi
    walk_at "m"
    exact ⟨.inl (.inr ⟨by omega, by omega⟩), hY _ rfl⟩
  · rw [lm, filterMap_map]
    have e : (List.range (t.length + 1)).map (fun i => PyData.int (x.getD i 0 * (chg t c i : Nat))) = ((List.range (t.length + 1)).map fun i => x.getD i 0 * (chg t c i : Nat)).map PyData.int := by rw [List.map_map]; rfl
    rw [e]
    exact sum_use (.inl q)
def S_least_least_sum : MSp := fun ds st R => ∃ t x, ds = [.p (tv t), .p (iL x)] ∧ Tr t ∧ x.length = t.length + 1 ∧ R (.p (.tuple [.int (wsum t (ogF t (heavyF t x)) x), cv (ogF t (heavyF t x))])) st
def w_least_least_sum_L1 : WS := wFor (wiR3 (aCons (wCB mLen (aCons (wVar 0) aNil)) (aCons (wC (.p (.int 0))) (aCons (wNeg (wC (.p (.int 1)))) aNil)))) (gNm 3)
    (wAsg (wOp mAdd (wOp mIx (wVar 2) (wOp mIx (wVar 0) (wOp mSub (wVar 3) (wC (.p (.int 1)))))) (wOp mIx (wVar 2) (wVar 3))) (gSb (wVar 2) (wOp mIx (wVar 0) (wOp mSub (wVar 3) (wC (.p (.int 1))))) mSetL))
def w_least_least_sum : WS :=
    (wSeq (wAsg (wCB mListC (aCons (wVar 1) aNil)) (gNm 2))
    (wSeq w_least_least_sum_L1
    (wSeq (wFrzV 2)
    (wSeq (wAsg (wCall S_weights_on_to_greatest (aCons (wVar 0) (aCons (wVar 2) aNil))) (gNm 4))
    (wRet (wTup (aCons (wCall S_least_sum_of (aCons (wVar 0) (aCons (wVar 4) (aCons (wVar 1) aNil)))) (aCons (wVar 4) aNil))))))))
theorem heavy_loop {t : List Nat} {x : List Int} (T : Tr t) (hx : x.length = t.length + 1) (s : Store) (D : ME) (y : Option SV) (rest : List (Option SV)) (hD : ∀ j, D.nx (some (.p (.tuple (t.map nI))) :: y :: some (.c s.length) :: j :: rest) (s ++ [.lst (((heavyF t x).map PyData.int).map SV.p)])) (j0 : Option SV) :
    w_least_least_sum_L1 D (some (.p (.tuple (t.map nI))) :: y :: some (.c s.length) :: j0 :: rest) (s ++ [.lst ((x.map PyData.int).map SV.p)]) := by
  have hl := T.len
  unfold w_least_least_sum_L1
  refine for_rng (t.length : Int) (-1) t.length (fun Q hQ => ?_) (fun i e st => ∃ j, e = some (.p (.tuple (t.map nI))) :: y :: some (.c s.length) :: j :: rest ∧ st = s ++ [.lst (((upTo (· + ·) t x i).map PyData.int).map SV.p)]) ⟨_, rfl, rfl⟩ ?_ ?_
  · unfold wiR3
    walk_at "m"
    exact ⟨by omega, by simpa using hQ⟩
  · rintro i e st hi ⟨j, rfl, rfl⟩
    obtain ⟨p, hp⟩ : ∃ p, t.length = p + i + 1 := ⟨t.length - i - 1, by omega⟩
    have hz : ((t.length : Int) + (i : Nat) * (-1)) = (p : Int) + 1 := by omega
    have hz1 : ((p : Int) + 1 - 1) = (p : Int) := by omega
    rw [hz]
    have ht : t[p]? = some t[p] := List.getElem?_eq_getElem (by omega)
    have hv := T.le p _ ht
    have lu := upTo_len (· + ·) t x i
    have h1 := List.getElem?_eq_getElem (l := upTo (· + ·) t x i) (i := p + 1) (by omega)
    have h2 := List.getElem?_eq_getElem (l := upTo (· + ·) t x i) (i := t[p]) (by omega)
    walk_at "m"
    simp only [hz1, at_nat', List.getElem?_map, ht, Option.map_some, nI]
    walk_at "m"
    simp only [h1, h2, Option.map_some]
    walk_at "m"
    refine ⟨_, ix_nat (by omega), .inl ⟨_, rfl, ?_⟩⟩
    congr 3
    show _ = ((stepAt _ t (t.length - i) _).map PyData.int).map SV.p
    have e1 : t.length - i = p + 1 := by omega
    rw [e1]
    unfold stepAt
    simp only [Nat.add_sub_cancel, List.getD, ht, h1, h2, Option.getD_some, List.map_set]
  · rintro e st ⟨j, rfl, rfl⟩
    exact hD j
theorem r_least_least_sum (ds : List SV) (s : Store) (R : SV → Store → Prop) (w : Wf s) (h : S_least_least_sum ds s R) : w_least_least_sum (fnEnds s.length R) (startE 5 ds) s := by
  obtain ⟨t, x, rfl, T, hx, q⟩ := h
  show w_least_least_sum _ [some (.p (.tuple (t.map nI))), some (.p (.list (x.map PyData.int))), none, none, none] s
  unfold w_least_least_sum
  walk_at "m"
  refine ⟨_, rfl, ?_⟩
  refine heavy_loop T hx s _ _ _ (fun j => ?_) none
  refine ⟨.c s.length, s.length, iL (heavyF t x), _, rfl, Nat.le_refl _, by simp, .c (Nat.le_refl _) st_last (frzs_p _), by rw [st_take]; exact w, weak_some (weak_some (weak_none (weak_none (weak_none weak_nil)))), ?_⟩
  rw [st_take]
  walk_at "m"
  refine ⟨t, _, rfl, T, (heavyF_len t x).trans hx, ?_⟩
  refine ⟨t, _, x, rfl, T, ogF_len t _, hx, ?_⟩
  walk_at "m"
  exact ⟨by decide, .inl q⟩
def w_sum_k34_L1 : WS := wFor (wiEnum (aCons (wVar 0) aNil)) (gTp 2 (gsCons (gNm 5) (gsCons (gNm 6) gsNil)))
    (wSeq (wDrop (wMt mAppend (wVar 3) (aCons (wOp mAdd (wOp mIx (wVar 3) (wVar 6)) (wCB mIntB (aCons (wOp mNe (wOp mIx (wVar 1) (wVar 6)) (wOp mAdd (wVar 5) (wC (.p (.int 1))))) aNil))) aNil)))
    (wAsg (wOp mAdd (wVar 4) (wOp mMul (wOp mIx (wVar 3) (wNeg (wC (.p (.int 1))))) (wOp mIx (wVar 2) (wOp mAdd (wVar 5) (wC (.p (.int 1))))))) (gNm 4)))
def w_sum_k34 : WS :=
    (wSeq (wAsg (wLstC (aCons (wC (.p (.int 0))) aNil)) (gNm 3))
    (wSeq (wAsg (wC (.p (.int 0))) (gNm 4))
    (wSeq w_sum_k34_L1
    (wRet (wVar 4)))))
def S_sum_k34 : MSp := S_least_sum_of
theorem r_sum_k34 (ds : List SV) (s : Store) (R : SV → Store → Prop) (w : Wf s) (h : S_sum_k34 ds s R) : w_sum_k34 (fnEnds s.length R) (startE 7 ds) s := by
  obtain ⟨t, c, x, rfl, T, hc, hx, q⟩ := h
  show w_sum_k34 _ [some (.p (.tuple (t.map nI))), some (.p (.tuple (c.map oN))), some (.p (.list (x.map PyData.int))), none, none, none, none] s
  have hl := T.len
  unfold w_sum_k34
  walk_at "m"
  refine ⟨by decide, ?_⟩
  unfold w_sum_k34_L1
  refine for_enum (st1 := s ++ [.lst [.p (.int 0)]]) (.p (.tuple (t.map nI))) (t.map nI) (fun _ => rfl) (fun Q hQ => by walk_at "m"; exact hQ)
    (fun i e st => ∃ a b, e = [some (.p (.tuple (t.map nI))), some (.p (.tuple (c.map oN))), some (.p (.list (x.map PyData.int))), some (.c s.length), some (.p (.int (su (i + 1) fun p => x.getD p 0 * (chg t c p : Nat)))), a, b] ∧ st = s ++ [.lst (((List.range (i + 1)).map fun p => PyData.int (chg t c p : Nat)).map SV.p)]) ⟨none, none, ?_, ?_⟩ ?_ ?_
  · rw [su_s, su_0, chg_0]; simp
  · simp [chg_0]
  · rintro i d e st hd ⟨a, b, rfl, rfl⟩
    have hi : i < t.length := by
      have := (List.getElem?_eq_some_iff.mp hd).1
      rwa [List.length_map] at this
    rw [List.getElem?_map, par_get hi] at hd
    cases hd
    have lp := par_lt T (p := i + 1) (by omega) (by omega)
    have hg : c[par t (i + 1)]? = some (c.getD (par t (i + 1)) none) := by
      rw [List.getD, List.getElem?_eq_getElem (by omega)]; rfl
    have hx1 : x[i + 1]? = some (x.getD (i + 1) 0) := by
      rw [List.getD, List.getElem?_eq_getElem (by omega)]; rfl
    simp only [nI]
    walk_at "m"
    simp only [hg, List.getElem?_range lp, Option.map_some, hx1]
    walk_at "m"
    have sh : SeqAt.shaped (oN (c.getD (par t (i + 1)) none)) = true := sh_low (k := 0) (by cases c.getD (par t (i + 1)) none <;> first | exact low_none _ | exact low_int _ _)
    have e2 : ((i : Int) + 1) = ((i + 1 : Nat) : Int) := by omega
    have e3 : ((chg t c (par t (i + 1)) : Int) + if (!PyData.eqv (oN (c.getD (par t (i + 1)) none)) (.int ((i : Int) + 1))) = true then 1 else 0) = (chg t c (i + 1) : Nat) := by
      rw [e2, eqv_oN, chg_s T c (p := i + 1) (by omega) (by omega)]
      generalize c.getD (par t (i + 1)) none = o
      by_cases hq : o = some (i + 1)
      · simp [hq]
      · simp [hq]
    have := chg_le T c (p := i + 1) (by omega)
    rw [e3]
    refine ⟨sh, by rw [List.length_range, sizeLine_eq]; omega, .p (.int (chg t c (i + 1) : Nat)), by simp, ?_⟩
    walk_at "m"
    have e4 : (su (i + 1) fun p => x.getD p 0 * (chg t c p : Nat)) + (chg t c (i + 1) : Nat) * x.getD (i + 1) 0 = su (i + 1 + 1) fun p => x.getD p 0 * (chg t c p : Nat) := by rw [su_s (i + 1), Int.mul_comm (x.getD (i + 1) 0)]
    rw [e4]
    refine ⟨.inl (.inl ⟨by omega, by omega⟩), .inl ⟨_, _, rfl, ?_⟩⟩
    rw [List.range_succ (n := i + 1)]; simp
  · rintro e st ⟨a, b, rfl, rfl⟩
    walk_at "m"
    refine .inr ⟨by simp, ?_, rfl, ?_⟩
    · rw [st_take]; exact w
    · rw [st_take]; exact q
def w_due_k34_L1 : WS := wFor (wiR3 (aCons (wCB mLen (aCons (wVar 0) aNil)) (aCons (wC (.p (.int 0))) (aCons (wNeg (wC (.p (.int 1)))) aNil)))) (gNm 3)
    (wAsg (wOp mAdd (wOp mIx (wVar 2) (wOp mIx (wVar 0) (wOp mSub (wVar 3) (wC (.p (.int 1)))))) (wOp mIx (wVar 2) (wVar 3))) (gSb (wVar 2) (wOp mIx (wVar 0) (wOp mSub (wVar 3) (wC (.p (.int 1))))) mSetL))
def w_due_k34_L2 : WS := wFor (wiSeq (wCall S_under_k13 (aCons (wVar 0) aNil))) (gNm 5)
    (wAsg (wOp mSub (wVar 4) (wCB mMaxL (aCons (wOp mAdd (wLc (wiSeq (wVar 5)) (gNm 6) wYes (wOp mIx (wVar 2) (wVar 6)) [6]) (wLst (aCons (wC (.p (.int 0))) aNil))) aNil))) (gNm 4))
def w_due_k34 : WS :=
    (wSeq (wAsg (wCB mListC (aCons (wVar 1) aNil)) (gNm 2))
    (wSeq w_due_k34_L1
    (wSeq (wAsg (wOp mSub (wCB mSum (aCons (wVar 2) aNil)) (wOp mIx (wVar 2) (wC (.p (.int 0))))) (gNm 4))
    (wSeq w_due_k34_L2
    (wRet (wVar 4))))))
def S_due_k34 : MSp := fun ds st R => ∃ t x, ds = [.p (tv t), .p (iL x)] ∧ Tr t ∧ x.length = t.length + 1 ∧ R (.p (.int (dueF t x))) st
theorem max_app {h : Nat → Int} {l : List Nat} {st : Store} {Q : SV → Store → Prop} (q : Q (.p (.int (mxl h l))) st) : mMaxL [.p (.list ((l.map h ++ [0]).map PyData.int))] st Q := by
  refine max_use ?_ (fun y hy => ?_) q
  · rcases mxl_mem h l with z | ⟨k, hk, z⟩
    · rw [z]; simp
    · rw [z]; exact List.mem_append_left _ (List.mem_map_of_mem hk)
  · rcases List.mem_append.mp hy with m | m
    · obtain ⟨k, hk, rfl⟩ := List.mem_map.mp m
      exact mxl_ge hk
    · simp at m; subst m; exact mxl_nn h l
theorem r_due_k34 (ds : List SV) (s : Store) (R : SV → Store → Prop) (w : Wf s) (h : S_due_k34 ds s R) : w_due_k34 (fnEnds s.length R) (startE 7 ds) s := by
  obtain ⟨t, x, rfl, T, hx, q⟩ := h
  show w_due_k34 _ [some (.p (.tuple (t.map nI))), some (.p (.list (x.map PyData.int))), none, none, none, none, none] s
  have hl := T.len
  have lh : (heavyF t x).length = t.length + 1 := (heavyF_len t x).trans hx
  unfold w_due_k34
  walk_at "m"
  refine ⟨_, rfl, ?_⟩
  refine heavy_loop T hx s _ _ _ (fun j => ?_) none
  have h0 : (heavyF t x)[0]? = some (hv t x 0) := by unfold hv; rw [List.getD, List.getElem?_eq_getElem (by omega)]; rfl
  walk_at "m"
  refine ⟨heavyF t x, by show listOf _ (.c s.length) = _; rw [l_cc, st_last]; rfl, ?_⟩
  simp only [st_last, Option.bind_some, asL_l]
  refine ⟨_, rfl, ?_⟩
  have e0 : (List.map PyData.int (heavyF t x))[0]? = some (.int (hv t x 0)) := by rw [List.getElem?_map, h0]; rfl
  simp only [List.getElem?_map, h0, Option.map_some]
  walk_at "m"
  have es : (heavyF t x).sum = su (t.length + 1) (hv t x) := by rw [← lh, ← su_get]; rfl
  rw [es]
  unfold w_due_k34_L2
  refine for_call (st1 := s ++ [MO.lst (((heavyF t x).map PyData.int).map SV.p)]) (ds := [.p (tv t)]) (fun Q hQ => by walk_at "m"; exact hQ) ⟨t, rfl, T, ?_⟩
  refine for_seq (st1 := s ++ [MO.lst (((heavyF t x).map PyData.int).map SV.p)]) (.p (underF t)) ((List.range (t.length + 1)).map (kD t)) (fun _ => rfl) (fun Q hQ => hQ)
    (fun i e st => ∃ a b, e = [some (.p (.tuple (t.map nI))), some (.p (.list (x.map PyData.int))), some (.c s.length), j, some (.p (.int (su (t.length + 1) (hv t x) - hv t x 0 - su i fun v => mxl (hv t x) (kids t v)))), a, b] ∧ st = s ++ [.lst (((heavyF t x).map PyData.int).map SV.p)]) ⟨none, none, by rw [su_0, Int.sub_zero], rfl⟩ ?_ ?_
  · rintro i d e st hd ⟨a, b, rfl, rfl⟩
    have hi : i < t.length + 1 := by
      have := (List.getElem?_eq_some_iff.mp hd).1
      simpa using this
    rw [List.getElem?_map, List.getElem?_range hi] at hd
    cases hd
    have hkl : (kids t i).length ≤ t.length := kids_len t t.length i
    simp only [kD]
    walk_at "m"
    refine lc_seqL (.p (.list ((kids t i).map nI))) (kids t i) nI (fun k => some (.int (hv t x k))) (fun _ => rfl) (fun Q hQ => by walk_at "m"; exact hQ) (by rw [sizeLine_eq]; omega) (fun k acc Y Z hk hY hZ => ?_) (wf_app1 w _) ?_
    · have hk2 := kids_in hk
      have hk3 : (heavyF t x)[k]? = some (hv t x k) := by unfold hv; rw [List.getD, List.getElem?_eq_getElem (by omega)]; rfl
      walk_at "m"
      simp only [nI]
      walk_at "m"
      refine ⟨.p (.int (hv t x k)), by rw [hk3]; rfl, ?_⟩
      have := hY _ rfl
      simpa using this
    · rw [filterMap_map]
      walk_at "m"
      have e1 : List.map (fun k => PyData.int (hv t x k)) (kids t i) ++ [PyData.int 0] = ((kids t i).map (hv t x) ++ [0]).map PyData.int := by simp
      refine ⟨by decide, [.int 0], rfl, by rw [sizeLine_eq]; simp; omega, ?_⟩
      rw [e1]
      refine max_app ?_
      walk_at "m"
      have e5 : su (t.length + 1) (hv t x) - hv t x 0 - (su i fun v => mxl (hv t x) (kids t v)) - mxl (hv t x) (kids t i) = su (t.length + 1) (hv t x) - hv t x 0 - su (i + 1) fun v => mxl (hv t x) (kids t v) := by rw [su_s i]; omega
      rw [e5]
      exact .inl ⟨_, _, rfl, rfl⟩
  · rintro e st ⟨a, b, rfl, rfl⟩
    rw [List.length_map, List.length_range]
    walk_at "m"
    refine .inr ⟨by simp, ?_, rfl, ?_⟩
    · rw [st_take]; exact w
    · rw [st_take]; exact q
end M

namespace M
open PySem PySem.Spec PyProof.Rows L2
local macro_rules | `(tactic| walk_at "m") => `(tactic| simp (maxSteps := 2000000) (implicitDefEqProofs := false) only [v_0, v_s, e_c, e_op, e_test, e_and, e_or, e_not, e_andv, e_orv, e_notv, e_ife, e_chain, e_anil, e_acons, e_cb, e_call, e_tup, e_lst, e_lstc, e_sl, e_onone, e_osome, e_mt, e_isi, e_neg, e_rd, s_augs, e_lrg, e_lrgc, e_callx, e_orx, e_isx, e_isxt, e_place, s_raisep, s_raiset, s_try, s_frzv, isNone_x, x_ex, x_pl, xis_pp, xis_pt, xis_pm, xis_pl, xis_V, xis_R, xis_tt, xis_tp, xis_tm, xis_tl, xis_mm, xis_mp, xis_mt, xis_ml, xis_ll, xis_lp, xis_lt, xis_lm, List.any_cons, List.any_nil, in_errs0, in_errs1, in_errs2, in_errs3, m_in, m_notin, m_isb, m_notb,
  s_seq, s_next, s_break, s_cont, s_never, s_drop, s_ret, s_retn, s_if, s_asg, s_par, s_retf, s_retf2, wipeE, List.append_assoc, List.cons_append, List.nil_append, g_nm, g_snil, g_scons, g_tp, g_sb, m_int, m_sub, m_lt, m_le, m_gt, m_ge, m_mod, m_div, m_pow, m_add, m_addt, m_addl, m_adds, m_mul, m_mulc, m_isn, m_notn, m_eq, m_ne, p_p,
  q_t, q_l, q_tt, l_l, t_t, t_tt, m_ixt, m_ixl, m_ixtt, m_lent, m_lenl, m_lentt, m_max2, m_min2, m_intb, m_listt, m_listl, m_tuplel, m_app, m_setl, sl_t, sl_r, sl_l, isNone, tyName, isB, mkTup, allP, allP_map, Option.map_some, map_p_inj,
  q_cc, l_cc, p_cc, ty_cc, m_ixcc, m_lencc, m_tuplecc, m_listcc, asL_l, Option.bind_some, mkTup_p, st_at, st_setk, st_at0, st_set0, st_take, st_atS, st_setS, st_atS0, st_setS0, st_takeS, List.length_set, List.set_set, ix40, ix41, ix42, ix43, Nat.reduceAdd, Nat.zero_add, at_nat', at_succ, at_0, at_1, at_2, at_3, at_4, at_m1, eqv_int, eqv_bool, sh_int, sh_bool, sh_none, fnEnds, wYes, gNm,
  List.getElem?_cons_zero, List.getElem?_cons_succ, List.set_cons_zero, List.set_cons_succ, List.getElem?_map, List.length_map, List.length_cons, List.length_nil, List.length_append, List.map_cons, List.map_nil,
  Option.some.injEq, SV.p.injEq, SV.c.injEq, PyData.int.injEq, PyData.bool.injEq, exists_eq_left', exists_eq_left, exists_eq_right, exists_eq', exists_eq, exists_and_left, true_and, and_true, true_or, or_true, MO.lst.injEq, Bool.not_true, Bool.not_false, if_true, if_false, Bool.false_eq_true, ↓reduceIte, beq_self_eq_true, String.reduceBEq, Bool.or_false, Bool.false_or, Bool.and_false, Bool.false_and, Bool.or_true, Bool.true_or, decide_eq_true_eq, beq_iff_eq, Bool.not_eq_true])
local macro_rules | `(tactic| walk_at "mh") => `(tactic| simp (maxSteps := 2000000) (implicitDefEqProofs := false) only [v_0, v_s, e_c, e_op, e_test, e_and, e_or, e_not, e_andv, e_orv, e_notv, e_ife, e_chain, e_anil, e_acons, e_cb, e_call, e_tup, e_lst, e_lstc, e_sl, e_onone, e_osome, e_mt, e_isi, e_neg, e_rd, s_augs, e_lrg, e_lrgc, e_callx, e_orx, e_isx, e_isxt, e_place, s_raisep, s_raiset, s_try, s_frzv, isNone_x, x_ex, x_pl, xis_pp, xis_pt, xis_pm, xis_pl, xis_V, xis_R, xis_tt, xis_tp, xis_tm, xis_tl, xis_mm, xis_mp, xis_mt, xis_ml, xis_ll, xis_lp, xis_lt, xis_lm, List.any_cons, List.any_nil, in_errs0, in_errs1, in_errs2, in_errs3, m_in, m_notin, m_isb, m_notb,
  s_seq, s_next, s_break, s_cont, s_never, s_drop, s_ret, s_retn, s_if, s_asg, s_par, s_retf, s_retf2, wipeE, List.append_assoc, List.cons_append, List.nil_append, g_nm, g_snil, g_scons, g_tp, g_sb, m_int, m_sub, m_lt, m_le, m_gt, m_ge, m_mod, m_div, m_pow, m_add, m_addt, m_addl, m_adds, m_mul, m_mulc, m_isn, m_notn, m_eq, m_ne, p_p,
  q_t, q_l, q_tt, l_l, t_t, t_tt, m_ixt, m_ixl, m_ixtt, m_lent, m_lenl, m_lentt, m_max2, m_min2, m_intb, m_listt, m_listl, m_tuplel, m_app, m_setl, sl_t, sl_r, sl_l, isNone, tyName, isB, mkTup, allP, allP_map, Option.map_some, map_p_inj,
  q_cc, l_cc, p_cc, ty_cc, m_ixcc, m_lencc, m_tuplecc, m_listcc, asL_l, Option.bind_some, mkTup_p, st_at, st_setk, st_at0, st_set0, st_take, st_atS, st_setS, st_atS0, st_setS0, st_takeS, List.length_set, List.set_set, ix40, ix41, ix42, ix43, Nat.reduceAdd, Nat.zero_add, at_nat', at_succ, at_0, at_1, at_2, at_3, at_4, at_m1, eqv_int, eqv_bool, sh_int, sh_bool, sh_none, fnEnds, wYes, gNm,
  List.getElem?_cons_zero, List.getElem?_cons_succ, List.set_cons_zero, List.set_cons_succ, List.getElem?_map, List.length_map, List.length_cons, List.length_nil, List.length_append, List.map_cons, List.map_nil,
  Option.some.injEq, SV.p.injEq, SV.c.injEq, PyData.int.injEq, PyData.bool.injEq, exists_eq_left', exists_eq_left, exists_eq_right, exists_eq', exists_eq, exists_and_left, true_and, and_true, true_or, or_true, MO.lst.injEq, Bool.not_true, Bool.not_false, if_true, if_false, Bool.false_eq_true, ↓reduceIte, beq_self_eq_true, String.reduceBEq, Bool.or_false, Bool.false_or, Bool.and_false, Bool.false_and, Bool.or_true, Bool.true_or, decide_eq_true_eq, beq_iff_eq, Bool.not_eq_true, tp_at0, tp_at, tp_set, Option.map_none, Option.some.injEq, *])
def S_right_k21 : MSp := fun ds st R => ∃ t, ds = [.p (tv t)] ∧ Tr t ∧ R (.p (.bool true)) st
def w_right_k21_L1 : WS := wFor (wiZip (aCons (wCall S_under_k13 (aCons (wVar 0) aNil)) (aCons (wVar 2) aNil))) (gTp 2 (gsCons (gNm 3) (gsCons (gNm 4) gsNil)))
    (wIfS (wTest (wOp mEq (wVar 3) (wLst aNil)))
    (wIfS (wTest (wOp mNotN (wVar 4) (wC (.p .none))))
    (wRet (wC (.p (.bool false))))
    wNext)
    (wSeq (wAsg (wOp mIx (wLc (wiSeq (wVar 3)) (gNm 6) (wTest (wOp mEq (wOp mIx (wVar 1) (wVar 6)) (wCB mMaxL (aCons (wLc (wiSeq (wVar 3)) (gNm 7) wYes (wOp mIx (wVar 1) (wVar 7)) [7]) aNil)))) (wVar 6) [6]) (wC (.p (.int 0)))) (gNm 5))
    (wIfS (wOr (wNot (wTest (wCall S_whole_k02 (aCons (wVar 4) aNil)))) (wTest (wOp mNe (wVar 4) (wVar 5))))
    (wRet (wC (.p (.bool false))))
    wNext)))
def w_right_k21 : WS :=
    (wSeq (wAsg (wCall S_heights_k21 (aCons (wVar 0) aNil)) (gNm 1))
    (wSeq (wAsg (wCall S_heights_by_height (aCons (wVar 0) aNil)) (gNm 2))
    (wSeq (wIfS (wOr (wNot (wTest (wIsi "tuple" (wVar 2)))) (wTest (wOp mNe (wCB mLen (aCons (wVar 2) aNil)) (wOp mAdd (wCB mLen (aCons (wVar 0) aNil)) (wC (.p (.int 1)))))))
    (wRet (wC (.p (.bool false))))
    wNext)
    (wSeq w_right_k21_L1
    (wRet (wOp mEq (wCall S_heights_by_height (aCons (wVar 0) aNil)) (wVar 2)))))))
theorem r_right_k21 (ds : List SV) (s : Store) (R : SV → Store → Prop) (w : Wf s) (h : S_right_k21 ds s R) : w_right_k21 (fnEnds s.length R) (startE 8 ds) s := by
  obtain ⟨t, rfl, T, q⟩ := h
  show w_right_k21 _ [some (.p (tv t)), none, none, none, none, none, none, none] s
  unfold w_right_k21
  walk_at "m"
  refine ⟨t, rfl, T, t, rfl, T, ?_⟩
  simp only [tv]
  walk_at "m"
  rw [ogF_len]
  have e1 : ((t.length + 1 : Nat) : Int) = (t.length : Int) + 1 := by omega
  rw [e1]
  walk_at "m"
  show w_right_k20_L1 _ _ _
  refine due_loop T (heightsF_len t) w _ _ _ _ _ fun a b c d e => ?_
  walk_at "m"
  have lo : Low 1 (.tuple ((ogF t (heightsF t)).map oN)) := low_tup (low_map low_oN)
  refine ⟨t, rfl, T, ?_⟩
  walk_at "m"
  refine ⟨sh_low lo, sh_low lo, ?_⟩
  rw [eqv_low lo]
  exact .inl q
def w_law_k21 : WS :=
    (wSeq (wAsg (wLstC (aCons (wCB mList (aCons (wSl (wVar 0) oNone (oSome (wC (.p (.int 63))))) aNil)) (aCons (wC (.p (.int 0))) (aCons (wC (.p (.int 0))) (aCons (wC (.p (.int 0))) aNil))))) (gNm 1))
    (wSeq (wAsg (wOp mIx (wLst (aCons (wC (.p (.int 30))) (aCons (wC (.p (.int 30))) (aCons (wC (.p (.int 30))) (aCons (wC (.p (.int 200))) aNil))))) (wCall S_draw_k13 (aCons (wVar 1) (aCons (wC (.p (.int 4))) aNil)))) (gNm 2))
    (wSeq (wAsg (wCall S_tree_k13 (aCons (wVar 1) (aCons (wVar 2) aNil))) (gNm 3))
    (wSeq (wAsg (wCall S_moved_k13 (aCons (wVar 1) (aCons (wVar 3) aNil))) (gNm 4))
    (wRet (wAndV (wCall S_right_k21 (aCons (wVar 3) aNil)) (wAndV (wCall S_right_k21 (aCons (wVar 4) aNil)) (wCall S_right_k21 (aCons (wVar 3) aNil)))))))))
theorem r_law_k21 (ds : List SV) (s : Store) (R : SV → Store → Prop) (w : Wf s) (h : S_law ds s R) : w_law_k21 (fnEnds s.length R) (startE 5 ds) s := by
  obtain ⟨ns, rfl, hl, q⟩ := h
  show w_law_k21 _ [some (.ro ns), none, none, none, none] s
  unfold w_law_k21
  walk_at "m"
  refine ⟨by decide, by decide, ?_⟩
  refine draw_use (o := TP (cutL ns none (some 63)) 0 0 0) (k := 0) st_last ⟨_, _, _, _, rfl, by decide, by decide⟩ (by decide) (by decide) (by decide) fun r o1 hr T1 => ?_
  obtain ⟨m, m1, m2, m3⟩ := most4 hr
  walk_at "m"
  refine ⟨.p (.int m), m3, ?_⟩
  refine ⟨s.length, 1, o1, m, rfl, m1, m2, st_last, T1, by decide, fun t o2 Ht htl T2 => ?_⟩
  walk_at "m"
  refine ⟨s.length, 501, o2, t, rfl, Ht, st_last, T2, by decide, fun u o3 Hu hul T3 => ?_⟩
  walk_at "m"
  refine ⟨t, rfl, Ht, ?_⟩
  walk_at "m"
  refine ⟨u, rfl, Hu, ?_⟩
  walk_at "m"
  exact ⟨t, rfl, Ht, .inl (q _)⟩
end M

namespace M
open PySem PySem.Spec PyProof.Rows L2
local macro_rules | `(tactic| walk_at "m") => `(tactic| simp (maxSteps := 2000000) (implicitDefEqProofs := false) only [v_0, v_s, e_c, e_op, e_test, e_and, e_or, e_not, e_andv, e_orv, e_notv, e_ife, e_chain, e_anil, e_acons, e_cb, e_call, e_tup, e_lst, e_lstc, e_sl, e_onone, e_osome, e_mt, e_isi, e_neg, e_rd, s_augs, e_lrg, e_lrgc, e_callx, e_orx, e_isx, e_isxt, e_place, s_raisep, s_raiset, s_try, s_frzv, isNone_x, x_ex, x_pl, xis_pp, xis_pt, xis_pm, xis_pl, xis_V, xis_R, xis_tt, xis_tp, xis_tm, xis_tl, xis_mm, xis_mp, xis_mt, xis_ml, xis_ll, xis_lp, xis_lt, xis_lm, List.any_cons, List.any_nil, in_errs0, in_errs1, in_errs2, in_errs3, m_in, m_notin, m_isb, m_notb,
  s_seq, s_next, s_break, s_cont, s_never, s_drop, s_ret, s_retn, s_if, s_asg, s_par, s_retf, s_retf2, wipeE, List.append_assoc, List.cons_append, List.nil_append, g_nm, g_snil, g_scons, g_tp, g_sb, m_int, m_sub, m_lt, m_le, m_gt, m_ge, m_mod, m_div, m_pow, m_add, m_addt, m_addl, m_adds, m_mul, m_mulc, m_isn, m_notn, m_eq, m_ne, p_p,
  q_t, q_l, q_tt, l_l, t_t, t_tt, m_ixt, m_ixl, m_ixtt, m_lent, m_lenl, m_lentt, m_max2, m_min2, m_intb, m_listt, m_listl, m_tuplel, m_app, m_setl, sl_t, sl_r, sl_l, isNone, tyName, isB, mkTup, allP, allP_map, Option.map_some, map_p_inj,
  q_cc, l_cc, p_cc, ty_cc, m_ixcc, m_lencc, m_tuplecc, m_listcc, asL_l, Option.bind_some, mkTup_p, st_at, st_setk, st_at0, st_set0, st_take, st_atS, st_setS, st_atS0, st_setS0, st_takeS, List.length_set, List.set_set, ix40, ix41, ix42, ix43, Nat.reduceAdd, Nat.zero_add, at_nat', at_succ, at_0, at_1, at_2, at_3, at_4, at_m1, eqv_int, eqv_bool, sh_int, sh_bool, sh_none, fnEnds, wYes, gNm,
  List.getElem?_cons_zero, List.getElem?_cons_succ, List.set_cons_zero, List.set_cons_succ, List.getElem?_map, List.length_map, List.length_cons, List.length_nil, List.length_append, List.map_cons, List.map_nil,
  Option.some.injEq, SV.p.injEq, SV.c.injEq, PyData.int.injEq, PyData.bool.injEq, exists_eq_left', exists_eq_left, exists_eq_right, exists_eq', exists_eq, exists_and_left, true_and, and_true, true_or, or_true, MO.lst.injEq, Bool.not_true, Bool.not_false, if_true, if_false, Bool.false_eq_true, ↓reduceIte, beq_self_eq_true, String.reduceBEq, Bool.or_false, Bool.false_or, Bool.and_false, Bool.false_and, Bool.or_true, Bool.true_or, decide_eq_true_eq, beq_iff_eq, Bool.not_eq_true])
local macro_rules | `(tactic| walk_at "mh") => `(tactic| simp (maxSteps := 2000000) (implicitDefEqProofs := false) only [v_0, v_s, e_c, e_op, e_test, e_and, e_or, e_not, e_andv, e_orv, e_notv, e_ife, e_chain, e_anil, e_acons, e_cb, e_call, e_tup, e_lst, e_lstc, e_sl, e_onone, e_osome, e_mt, e_isi, e_neg, e_rd, s_augs, e_lrg, e_lrgc, e_callx, e_orx, e_isx, e_isxt, e_place, s_raisep, s_raiset, s_try, s_frzv, isNone_x, x_ex, x_pl, xis_pp, xis_pt, xis_pm, xis_pl, xis_V, xis_R, xis_tt, xis_tp, xis_tm, xis_tl, xis_mm, xis_mp, xis_mt, xis_ml, xis_ll, xis_lp, xis_lt, xis_lm, List.any_cons, List.any_nil, in_errs0, in_errs1, in_errs2, in_errs3, m_in, m_notin, m_isb, m_notb,
  s_seq, s_next, s_break, s_cont, s_never, s_drop, s_ret, s_retn, s_if, s_asg, s_par, s_retf, s_retf2, wipeE, List.append_assoc, List.cons_append, List.nil_append, g_nm, g_snil, g_scons, g_tp, g_sb, m_int, m_sub, m_lt, m_le, m_gt, m_ge, m_mod, m_div, m_pow, m_add, m_addt, m_addl, m_adds, m_mul, m_mulc, m_isn, m_notn, m_eq, m_ne, p_p,
  q_t, q_l, q_tt, l_l, t_t, t_tt, m_ixt, m_ixl, m_ixtt, m_lent, m_lenl, m_lentt, m_max2, m_min2, m_intb, m_listt, m_listl, m_tuplel, m_app, m_setl, sl_t, sl_r, sl_l, isNone, tyName, isB, mkTup, allP, allP_map, Option.map_some, map_p_inj,
  q_cc, l_cc, p_cc, ty_cc, m_ixcc, m_lencc, m_tuplecc, m_listcc, asL_l, Option.bind_some, mkTup_p, st_at, st_setk, st_at0, st_set0, st_take, st_atS, st_setS, st_atS0, st_setS0, st_takeS, List.length_set, List.set_set, ix40, ix41, ix42, ix43, Nat.reduceAdd, Nat.zero_add, at_nat', at_succ, at_0, at_1, at_2, at_3, at_4, at_m1, eqv_int, eqv_bool, sh_int, sh_bool, sh_none, fnEnds, wYes, gNm,
  List.getElem?_cons_zero, List.getElem?_cons_succ, List.set_cons_zero, List.set_cons_succ, List.getElem?_map, List.length_map, List.length_cons, List.length_nil, List.length_append, List.map_cons, List.map_nil,
  Option.some.injEq, SV.p.injEq, SV.c.injEq, PyData.int.injEq, PyData.bool.injEq, exists_eq_left', exists_eq_left, exists_eq_right, exists_eq', exists_eq, exists_and_left, true_and, and_true, true_or, or_true, MO.lst.injEq, Bool.not_true, Bool.not_false, if_true, if_false, Bool.false_eq_true, ↓reduceIte, beq_self_eq_true, String.reduceBEq, Bool.or_false, Bool.false_or, Bool.and_false, Bool.false_and, Bool.or_true, Bool.true_or, decide_eq_true_eq, beq_iff_eq, Bool.not_eq_true, tp_at0, tp_at, tp_set, Option.map_none, Option.some.injEq, *])
theorem okD_oN (o : Option Nat) : OkD (oN o) := by cases o <;> trivial
theorem okT_cv (c : List (Option Nat)) : OkT (cv c) := fun d hd => by
  obtain ⟨o, _, rfl⟩ := List.mem_map.mp hd
  exact okD_oN o
theorem icB_ct {t : List Nat} {c : List (Option Nat)} (C : Ct t c) : icB t (cv c) = true := by
  show ((c.map oN).length == t.length + 1 && ((List.range (c.map oN).length).map fun i => gbB t i ((c.map oN).getD i .none)).all id) = true
  rw [List.length_map, C.len, beq_self_eq_true, Bool.true_and, List.all_eq_true]
  intro b hb
  obtain ⟨i, hi, rfl⟩ := List.mem_map.mp hb
  have hi := List.mem_range.mp hi
  have hc := C.len
  rw [List.getD, List.getElem?_map, List.getElem?_eq_getElem (by omega : i < c.length)]
  cases h : c[i] with
  | none => rfl
  | some q =>
    obtain ⟨h1, h2⟩ := C.at_ i q (by rw [List.getElem?_eq_getElem (by omega : i < c.length), h])
    show decide (0 < (q : Int) ∧ (q : Int) ≤ (t.length : Int) ∧ t[((q : Int) - 1).toNat]? = some i) = true
    have := (List.getElem?_eq_some_iff.mp h2).1
    have e : ((q : Int) - 1).toNat = q - 1 := by omega
    rw [decide_eq_true_iff, e]
    exact ⟨by omega, by omega, h2⟩
theorem for_cell {we : WE} {g : WG} {b : WS} {D : ME} {env : M.Env} {st1 : Store} (n : Nat) (ds : List PyData) (hx : st1[n]? = some (.lst (ds.map SV.p))) (hwe : ∀ Q : SV → Store → Prop, Q (.c n) st1 → we env st1 Q) (Inv : Nat → M.Env → Store → Prop) (h0 : Inv 0 env st1)
    (hk : ∀ i e s, i ≤ ds.length → Inv i e s → s[n]? = some (.lst (ds.map SV.p)))
    (hs : ∀ i d e s, ds[i]? = some d → Inv i e s → g (.p d) e s fun e' s' => b { nx := Wk st1.length (Inv (i + 1)), ct := Wk st1.length (Inv (i + 1)), bk := D.nx, rt := D.rt, base := st1.length } e' s')
    (hd : ∀ e s, Inv ds.length e s → D.nx e s) : wFor (wiSeq we) g b D env st1 := by
  refine for_items (st1 := st1) (ds.map SV.p) (fun s' => seqOf s' (.c n) = some (ds.map SV.p)) (fun Q hQ => ?_) Inv h0 (fun i e s hi h => ?_) (fun i y e s hy hi => ?_) (fun e s h => hd e s (by rw [← List.length_map (f := SV.p)]; exact h))
  · exact hwe _ ⟨_, q_c hx, hQ⟩
  · exact q_c (hk i e s (by rwa [List.length_map] at hi) h)
  · rw [List.getElem?_map] at hy
    cases h : ds[i]? with
    | none => rw [h] at hy; cases hy
    | some d => rw [h] at hy; cases hy; exact hs i d e s h hi
def w_law_k34_L1 : WS := wFor (wiR1 (aCons (wC (.p (.int 3))) aNil)) (gNm 5)
    (wDrop (wMt mAppend (wVar 8) (aCons (wCall S_cut_k13 (aCons (wVar 1) (aCons (wVar 2) aNil))) aNil)))
def w_law_k34_L2 : WS := wFor (wiSeq (wVar 8)) (gNm 9)
    (wSeq (wAsg (wCall S_least_sum_of (aCons (wVar 2) (aCons (wVar 9) (aCons (wVar 4) aNil)))) (gNm 10))
    (wSeq (wIfS (wOr (wNot (wTest (wCall S_whole_k02 (aCons (wVar 10) aNil)))) (wTest (wOp mNe (wVar 10) (wCall S_sum_k34 (aCons (wVar 2) (aCons (wVar 9) (aCons (wVar 4) aNil)))))))
    (wRet (wC (.p (.bool false))))
    wNext)
    (wIfS (wOr (wTest (wOp mLt (wVar 10) (wOp mIx (wVar 7) (wC (.p (.int 0)))))) (wTest (wOp mNe (wVar 4) (wVar 6))))
    (wRet (wC (.p (.bool false))))
    wNext)))
def w_law_k34 : WS :=
    (wSeq (wAsg (wLstC (aCons (wCB mList (aCons (wSl (wVar 0) oNone (oSome (wC (.p (.int 63))))) aNil)) (aCons (wC (.p (.int 0))) (aCons (wC (.p (.int 0))) (aCons (wC (.p (.int 0))) aNil))))) (gNm 1))
    (wSeq (wAsg (wCall S_tree_k13 (aCons (wVar 1) (aCons (wOp mIx (wLst (aCons (wC (.p (.int 40))) (aCons (wC (.p (.int 40))) (aCons (wC (.p (.int 40))) (aCons (wC (.p (.int 200))) aNil))))) (wCall S_draw_k13 (aCons (wVar 1) (aCons (wC (.p (.int 4))) aNil)))) aNil))) (gNm 2))
    (wSeq (wAsg (wOp mIx (wLst (aCons (wC (.p (.int 2))) (aCons (wC (.p (.int 10))) (aCons (wC (.p (.int 10))) (aCons (wOp mAdd (wOp mPow (wC (.p (.int 10))) (wC (.p (.int 18)))) (wC (.p (.int 1)))) aNil))))) (wCall S_draw_k13 (aCons (wVar 1) (aCons (wC (.p (.int 4))) aNil)))) (gNm 3))
    (wSeq (wAsg (wLc (wiR1 (aCons (wOp mAdd (wCB mLen (aCons (wVar 2) aNil)) (wC (.p (.int 1)))) aNil)) (gNm 5) wYes (wCall S_draw_k13 (aCons (wVar 1) (aCons (wVar 3) aNil))) [5]) (gNm 4))
    (wSeq (wAsg (wCB mList (aCons (wVar 4) aNil)) (gNm 6))
    (wSeq (wAsg (wCall S_least_least_sum (aCons (wVar 2) (aCons (wVar 4) aNil))) (gNm 7))
    (wSeq (wIfS (wOr (wNot (wTest (wIsi "tuple" (wVar 7)))) (wOr (wTest (wOp mNe (wCB mLen (aCons (wVar 7) aNil)) (wC (.p (.int 2))))) (wNot (wTest (wCall S_whole_k02 (aCons (wOp mIx (wVar 7) (wC (.p (.int 0)))) aNil))))))
    (wRet (wC (.p (.bool false))))
    wNext)
    (wSeq (wIfS (wOr (wTest (wOp mNotB (wCall S_cuts_is_cut (aCons (wVar 2) (aCons (wOp mIx (wVar 7) (wC (.p (.int 1)))) aNil))) (wC (.p (.bool true))))) (wTest (wOp mNe (wVar 4) (wVar 6))))
    (wRet (wC (.p (.bool false))))
    wNext)
    (wSeq (wIfS (wOr (wTest (wOp mNe (wOp mIx (wVar 7) (wC (.p (.int 0)))) (wCall S_due_k34 (aCons (wVar 2) (aCons (wVar 4) aNil))))) (wTest (wOp mNe (wOp mIx (wVar 7) (wC (.p (.int 0)))) (wCall S_sum_k34 (aCons (wVar 2) (aCons (wOp mIx (wVar 7) (wC (.p (.int 1)))) (aCons (wVar 4) aNil)))))))
    (wRet (wC (.p (.bool false))))
    wNext)
    (wSeq (wAsg (wLstC (aCons (wCall S_weights_by_weight (aCons (wVar 2) aNil)) (aCons (wCall S_heights_by_height (aCons (wVar 2) aNil)) (aCons (wOp mIx (wVar 7) (wC (.p (.int 1)))) aNil)))) (gNm 8))
    (wSeq w_law_k34_L1
    (wSeq w_law_k34_L2
    (wSeq (wAsg (wOp mMul (wLst (aCons (wC (.p (.int 1))) aNil)) (wOp mAdd (wCB mLen (aCons (wVar 2) aNil)) (wC (.p (.int 1))))) (gNm 11))
    (wRet (wOp mEq (wOp mIx (wCall S_least_least_sum (aCons (wVar 2) (aCons (wVar 11) aNil))) (wC (.p (.int 0)))) (wCall S_least_sum_of (aCons (wVar 2) (aCons (wCall S_weights_by_weight (aCons (wVar 2) aNil)) (aCons (wVar 11) aNil)))))))))))))))))))
theorem most40 {r : Nat} (h : (r : Int) < 4) : ∃ m : Nat, 1 ≤ m ∧ m ≤ 200 ∧ [SV.p (.int 40), SV.p (.int 40), SV.p (.int 40), SV.p (.int 200)][r]? = some (.p (.int (m : Nat))) := by
  have : r = 0 ∨ r = 1 ∨ r = 2 ∨ r = 3 := by omega
  rcases this with rfl | rfl | rfl | rfl
  · exact ⟨40, by decide, by decide, rfl⟩
  · exact ⟨40, by decide, by decide, rfl⟩
  · exact ⟨40, by decide, by decide, rfl⟩
  · exact ⟨200, by decide, by decide, rfl⟩
theorem upto34 {r : Nat} (h : (r : Int) < 4) : ∃ u : Int, 0 < u ∧ u < 2 ^ 64 ∧ [SV.p (.int 2), SV.p (.int 10), SV.p (.int 10), SV.p (.int (10 ^ Int.toNat 18 + 1))][r]? = some (.p (.int u)) := by
  have : r = 0 ∨ r = 1 ∨ r = 2 ∨ r = 3 := by omega
  rcases this with rfl | rfl | rfl | rfl
  · exact ⟨2, by decide, by decide, rfl⟩
  · exact ⟨10, by decide, by decide, rfl⟩
  · exact ⟨10, by decide, by decide, rfl⟩
  · exact ⟨_, by decide, by decide, rfl⟩
def I34 (ns : List Int) (s : Store) (t : List Nat) (u : Int) (x : List Int) (i : Nat) (e : M.Env) (st : Store) : Prop := ∃ (o : MO) (cs : List (List (Option Nat))) (a : Option SV), Tape (703 + 200 * i) o ∧ (∀ c ∈ cs, Ct t c) ∧ cs.length = 3 + i ∧ e = [some (.ro ns), some (.c s.length), some (.p (tv t)), some (.p (.int u)), some (.p (.list (x.map PyData.int))), a, some (.p (.list (x.map PyData.int))), some (.p (.tuple [.int (wsum t (ogF t (heavyF t x)) x), cv (ogF t (heavyF t x))])), some (.c (s.length + 1)), none, none, none] ∧ st = s ++ [o, .lst ((cs.map cv).map SV.p)]
theorem r_law_k34 (ds : List SV) (s : Store) (R : SV → Store → Prop) (w : Wf s) (h : S_law ds s R) : w_law_k34 (fnEnds s.length R) (startE 12 ds) s := by
  obtain ⟨ns, rfl, hl, q⟩ := h
  show w_law_k34 _ [some (.ro ns), none, none, none, none, none, none, none, none, none, none, none] s
  unfold w_law_k34
  walk_at "m"
  refine ⟨by decide, by decide, ?_⟩
  refine draw_use (o := TP (cutL ns none (some 63)) 0 0 0) (k := 0) st_last ⟨_, _, _, _, rfl, by decide, by decide⟩ (by decide) (by decide) (by decide) fun r o1 hr T1 => ?_
  rw [st_set]
  obtain ⟨m, m1, m2, m3⟩ := most40 hr
  walk_at "m"
  refine ⟨.p (.int m), m3, ?_⟩
  refine ⟨s.length, 1, o1, m, rfl, m1, m2, st_last, T1, by decide, fun t o2 T htl T2 => ?_⟩
  rw [st_set]
  have cp : CPow 10 18 := by unfold CPow; decide
  walk_at "m"
  refine ⟨cp, by decide, ?_⟩
  refine draw_use st_last T2 (by decide) (by decide) (by decide) fun r o3 hr T3 => ?_
  rw [st_set]
  obtain ⟨u, u1, u2, u3⟩ := upto34 hr
  walk_at "m"
  refine ⟨.p (.int u), u3, ?_⟩
  have hlt := T.len
  have hl' : (rngItems 0 1 (t.length + 1)).length = t.length + 1 := by simp [rngItems]
  refine lc_gen (st1 := s ++ [o3]) (rngItems 0 1 (t.length + 1)) (fun _ => True) (fun i acc st => ∃ o x, st = s ++ [o] ∧ Tape (502 + i) o ∧ acc = x.map PyData.int ∧ x.length = i ∧ ∀ y ∈ x, (0 : Int) ≤ y) (fun Q hQ => ?_) (by rw [hl', sizeLine_eq]; omega) (fun _ => trivial) ⟨o3, [], rfl, T3, rfl, rfl, by simp⟩ ?_ ?_
  · unfold wiR1
    simp only [tv]
    walk_at "m"
    have e1 : ((t.length : Int) + 1).toNat = t.length + 1 := by omega
    rw [e1]
    exact ⟨by omega, by omega, hQ⟩
  · rintro i y acc st Y Z hy ⟨o, x, rfl, To, rfl, hx, hp⟩ hst hY hZ
    have hi : i < t.length + 1 := by
      have := (List.getElem?_eq_some_iff.mp hy).1
      rwa [hl'] at this
    walk_at "m"
    have e1 : (s ++ [o, MO.lst (List.map SV.p (List.map PyData.int x))])[s.length]? = some o := by simp
    refine draw_use e1 To (by omega) u1 u2 fun r o' hr T' => ?_
    have e2 : (s ++ [o, MO.lst (List.map SV.p (List.map PyData.int x))]).set s.length o' = s ++ [o'] ++ [MO.lst (List.map SV.p (List.map PyData.int x))] := by simp
    rw [e2]
    refine hY (.int (r : Nat)) _ (by simp) ⟨o', x ++ [(r : Int)], rfl, T'.up (by omega), by simp, by simp [hx], fun y hy => ?_⟩
    rcases List.mem_append.mp hy with hy | hy
    · exact hp y hy
    · simp at hy; omega
  · rw [hl']
    rintro acc st hst ⟨o, x, rfl, T4, rfl, hx, hp⟩
    refine ⟨wf_app w fun o' hm => by simp at hm; subst hm; exact T4.under, ?_⟩
    have h0 : ∀ v, 0 ≤ x.getD v 0 := fun v => by
      rw [List.getD]
      cases h : x[v]? with
      | none => exact Int.le_refl _
      | some y => exact hp y (List.mem_of_getElem? h)
    walk_at "m"
    have C := ogF_ct (t := t) (heavyF t x)
    have e3 := wsum_least T hx h0
    have lx : Low 1 (.list (x.map PyData.int)) := low_lst (low_map fun _ => low_int _ _)
    refine ⟨t, x, rfl, T, hx, ?_⟩
    walk_at "m"
    refine ite2 (fun h => absurd h (by decide)) (fun _ => ?_)
    refine ⟨_, rfl, ⟨_, rfl⟩, ?_⟩
    simp only [wholeOf]
    walk_at "m"
    refine ⟨t, _, rfl, T, okT_cv _, ?_⟩
    rw [icB_ct C]
    walk_at "m"
    rw [eqv_low lx]
    refine ⟨sh_low lx, sh_low lx, ?_⟩
    refine ite2 (fun h => absurd h (by decide)) (fun _ => ?_)
    refine ⟨t, x, rfl, T, hx, ?_⟩
    walk_at "m"
    refine ite2 (fun h => by rw [e3] at h; simp at h) (fun _ => ?_)
    refine ⟨t, _, x, rfl, T, C.len, hx, ?_⟩
    walk_at "m"
    refine ⟨t, rfl, T, ?_⟩
    refine ⟨t, rfl, T, ?_⟩
    refine ⟨by decide, ?_⟩
    have st2 : ∀ (o o' : MO), (s ++ [o, o'])[s.length]? = some o := fun o o' => by simp
    have st3 : ∀ (o o' : MO), (s ++ [o, o'])[s.length + 1]? = some o' := fun o o' => by simp
    have set2 : ∀ (o o' u : MO), (s ++ [o, o']).set s.length u = s ++ [u, o'] := fun o o' u => by simp
    have set3 : ∀ (o o' u : MO), (s ++ [o, o']).set (s.length + 1) u = s ++ [o, u] := fun o o' u => by simp
    walk_at "m"
    unfold w_law_k34_L1
    refine for_rng 0 1 3 (fun Q hQ => by unfold wiR1; walk_at "m"; exact ⟨by decide, by decide, hQ⟩)
      (I34 ns s t u x)
      ⟨o, [ogF t (sizesF t), ogF t (heightsF t), ogF t (heavyF t x)], _, T4.up (by omega), fun c hc => ?_, rfl, rfl, ?_⟩ ?_ ?_
    · simp at hc
      rcases hc with rfl | rfl | rfl
      · exact ogF_ct _
      · exact ogF_ct _
      · exact ogF_ct _
    · simp [cv]
    · rintro i e st hi ⟨o, cs, a, To, hcs, hcl, rfl, rfl⟩
      walk_at "m"
      refine ⟨s.length, 703 + 200 * i, o, t, rfl, T, st2 _ _, To, by omega, fun c o' hc To' => ?_⟩
      rw [set2]
      walk_at "m"
      refine ⟨by rw [sizeLine_eq]; omega, .inl ⟨o', cs ++ [c], _, To'.up (by omega), fun y hy => ?_, by simp [hcl]; omega, rfl, by simp⟩⟩
      rcases List.mem_append.mp hy with hy | hy
      · exact hcs y hy
      · simp at hy; subst hy; exact hc
    · rintro e st ⟨o, cs, a, To, hcs, hcl, rfl, rfl⟩
      walk_at "m"
      unfold w_law_k34_L2
      refine for_cell (s.length + 1) (cs.map cv) (st3 _ _) (fun Q hQ => by walk_at "m"; exact hQ)
        (fun i e st => ∃ b c, e = [some (.ro ns), some (.c s.length), some (.p (tv t)), some (.p (.int u)), some (.p (.list (x.map PyData.int))), a, some (.p (.list (x.map PyData.int))), some (.p (.tuple [.int (wsum t (ogF t (heavyF t x)) x), cv (ogF t (heavyF t x))])), some (.c (s.length + 1)), b, c, none] ∧ st = s ++ [o, .lst ((cs.map cv).map SV.p)])
        ⟨none, none, rfl, rfl⟩ (fun i e st _ h => by obtain ⟨b, c, rfl, rfl⟩ := h; exact st3 _ _) ?_ ?_
      · rintro i d e st hd ⟨b, f, rfl, rfl⟩
        rw [List.getElem?_map] at hd
        cases hc : cs[i]? with
        | none => rw [hc] at hd; cases hd
        | some c =>
          rw [hc] at hd; cases hd
          have Cc := hcs c (List.mem_of_getElem? hc)
          have ge := wsum_ge T hx c
          walk_at "m"
          refine ⟨t, c, x, rfl, T, Cc.len, hx, ?_⟩
          walk_at "m"
          refine ⟨_, rfl, ⟨_, rfl⟩, ?_⟩
          simp only [wholeOf]
          walk_at "m"
          refine ⟨t, c, x, rfl, T, Cc.len, hx, ?_⟩
          walk_at "m"
          refine ite2 (fun h => by omega) (fun _ => ?_)
          rw [eqv_low lx]
          refine ⟨sh_low lx, sh_low lx, ite2 (fun h => absurd h (by decide)) (fun _ => .inl ⟨_, _, rfl, rfl⟩)⟩
      · rintro e st ⟨b, f, rfl, rfl⟩
        walk_at "m"
        simp only [tv]
        walk_at "m"
        have e5 : ((t.length : Int) + 1).toNat = t.length + 1 := by omega
        refine ⟨by decide, ?_⟩
        refine ⟨[.int 1], rfl, by omega, by omega, by rw [sizeLine_eq]; simp; omega, ?_⟩
        rw [e5]
        have e6 : (List.replicate (t.length + 1) [PyData.int 1]).flatten = (List.replicate (t.length + 1) 1).map PyData.int := by
          rw [List.map_replicate]
          generalize t.length + 1 = n
          induction n with
          | zero => rfl
          | succ n ih => rw [List.replicate_succ, List.flatten_cons, ih, List.replicate_succ]; rfl
        rw [e6]
        refine ⟨t, List.replicate (t.length + 1) 1, rfl, T, by simp, ?_⟩
        walk_at "m"
        refine ⟨t, rfl, T, ?_⟩
        refine ⟨t, ogF t (sizesF t), List.replicate (t.length + 1) 1, rfl, T, ogF_len t _, by simp, ?_⟩
        walk_at "m"
        have e7 : heavyF t (List.replicate (t.length + 1) 1) = sizesF t := rfl
        rw [e7]
        rw [beq_self_eq_true]
        exact .inl (q _)
end M

namespace M
open PySem PySem.Spec PyProof.Rows L2
local macro_rules | `(tactic| walk_at "m") => `(tactic| simp (maxSteps := 2000000) (implicitDefEqProofs := false) only [e_revs, m_revt, m_revl, e_listrev, m_mult, e_dnew, e_din, e_dnotin, s_dput, m_lend, dct_inj, m_rvs, m_pop0, m_ext1, m_addc, g_tl, v_0, v_s, e_c, e_op, e_test, e_and, e_or, e_not, e_andv, e_orv, e_notv, e_ife, e_chain, e_anil, e_acons, e_cb, e_call, e_tup, e_lst, e_lstc, e_sl, e_onone, e_osome, e_mt, e_isi, e_neg, e_rd, s_augs, e_lrg, e_lrgc, e_callx, e_orx, e_isx, e_isxt, e_place, s_raisep, s_raiset, s_try, s_frzv, isNone_x, x_ex, x_pl, xis_pp, xis_pt, xis_pm, xis_pl, xis_V, xis_R, xis_tt, xis_tp, xis_tm, xis_tl, xis_mm, xis_mp, xis_mt, xis_ml, xis_ll, xis_lp, xis_lt, xis_lm, List.any_cons, List.any_nil, in_errs0, in_errs1, in_errs2, in_errs3, m_in, m_notin, m_isb, m_notb,
  s_seq, s_next, s_break, s_cont, s_never, s_drop, s_ret, s_retn, s_if, s_asg, s_par, s_retf, s_retf2, wipeE, List.append_assoc, List.cons_append, List.nil_append, g_nm, g_snil, g_scons, g_tp, g_sb, m_int, m_sub, m_lt, m_le, m_gt, m_ge, m_mod, m_div, m_pow, m_add, m_addt, m_addl, m_adds, m_mul, m_mulc, m_isn, m_notn, m_eq, m_ne, p_p,
  q_t, q_l, q_tt, l_l, t_t, t_tt, m_ixt, m_ixl, m_ixtt, m_lent, m_lenl, m_lentt, m_max2, m_min2, m_intb, m_listt, m_listl, m_tuplel, m_app, m_setl, sl_t, sl_r, sl_l, isNone, tyName, isB, mkTup, allP, allP_map, Option.map_some, map_p_inj,
  q_cc, l_cc, p_cc, ty_cc, m_ixcc, m_lencc, m_tuplecc, m_listcc, asL_l, Option.bind_some, mkTup_p, st_at, st_setk, st_at0, st_set0, st_take, st_atS, st_setS, st_atS0, st_setS0, st_takeS, List.length_set, List.set_set, ix40, ix41, ix42, ix43, Nat.reduceAdd, Nat.zero_add, at_nat', at_succ, at_0, at_1, at_2, at_3, at_4, at_m1, eqv_int, eqv_bool, sh_int, sh_bool, sh_none, fnEnds, wYes, gNm,
  List.getElem?_cons_zero, List.getElem?_cons_succ, List.set_cons_zero, List.set_cons_succ, List.getElem?_map, List.length_map, List.length_cons, List.length_nil, List.length_append, List.map_cons, List.map_nil,
  Option.some.injEq, SV.p.injEq, SV.c.injEq, PyData.int.injEq, PyData.bool.injEq, exists_eq_left', exists_eq_left, exists_eq_right, exists_eq', exists_eq, exists_and_left, true_and, and_true, true_or, or_true, MO.lst.injEq, Bool.not_true, Bool.not_false, if_true, if_false, Bool.false_eq_true, ↓reduceIte, beq_self_eq_true, String.reduceBEq, Bool.or_false, Bool.false_or, Bool.and_false, Bool.false_and, Bool.or_true, Bool.true_or, decide_eq_true_eq, beq_iff_eq, Bool.not_eq_true])
local macro_rules | `(tactic| walk_at "mh") => `(tactic| simp (maxSteps := 2000000) (implicitDefEqProofs := false) only [e_revs, m_revt, m_revl, e_listrev, m_mult, e_dnew, e_din, e_dnotin, s_dput, m_lend, dct_inj, m_rvs, m_pop0, m_ext1, m_addc, g_tl, v_0, v_s, e_c, e_op, e_test, e_and, e_or, e_not, e_andv, e_orv, e_notv, e_ife, e_chain, e_anil, e_acons, e_cb, e_call, e_tup, e_lst, e_lstc, e_sl, e_onone, e_osome, e_mt, e_isi, e_neg, e_rd, s_augs, e_lrg, e_lrgc, e_callx, e_orx, e_isx, e_isxt, e_place, s_raisep, s_raiset, s_try, s_frzv, isNone_x, x_ex, x_pl, xis_pp, xis_pt, xis_pm, xis_pl, xis_V, xis_R, xis_tt, xis_tp, xis_tm, xis_tl, xis_mm, xis_mp, xis_mt, xis_ml, xis_ll, xis_lp, xis_lt, xis_lm, List.any_cons, List.any_nil, in_errs0, in_errs1, in_errs2, in_errs3, m_in, m_notin, m_isb, m_notb,
  s_seq, s_next, s_break, s_cont, s_never, s_drop, s_ret, s_retn, s_if, s_asg, s_par, s_retf, s_retf2, wipeE, List.append_assoc, List.cons_append, List.nil_append, g_nm, g_snil, g_scons, g_tp, g_sb, m_int, m_sub, m_lt, m_le, m_gt, m_ge, m_mod, m_div, m_pow, m_add, m_addt, m_addl, m_adds, m_mul, m_mulc, m_isn, m_notn, m_eq, m_ne, p_p,
  q_t, q_l, q_tt, l_l, t_t, t_tt, m_ixt, m_ixl, m_ixtt, m_lent, m_lenl, m_lentt, m_max2, m_min2, m_intb, m_listt, m_listl, m_tuplel, m_app, m_setl, sl_t, sl_r, sl_l, isNone, tyName, isB, mkTup, allP, allP_map, Option.map_some, map_p_inj,
  q_cc, l_cc, p_cc, ty_cc, m_ixcc, m_lencc, m_tuplecc, m_listcc, asL_l, Option.bind_some, mkTup_p, st_at, st_setk, st_at0, st_set0, st_take, st_atS, st_setS, st_atS0, st_setS0, st_takeS, List.length_set, List.set_set, ix40, ix41, ix42, ix43, Nat.reduceAdd, Nat.zero_add, at_nat', at_succ, at_0, at_1, at_2, at_3, at_4, at_m1, eqv_int, eqv_bool, sh_int, sh_bool, sh_none, fnEnds, wYes, gNm,
  List.getElem?_cons_zero, List.getElem?_cons_succ, List.set_cons_zero, List.set_cons_succ, List.getElem?_map, List.length_map, List.length_cons, List.length_nil, List.length_append, List.map_cons, List.map_nil,
  Option.some.injEq, SV.p.injEq, SV.c.injEq, PyData.int.injEq, PyData.bool.injEq, exists_eq_left', exists_eq_left, exists_eq_right, exists_eq', exists_eq, exists_and_left, true_and, and_true, true_or, or_true, MO.lst.injEq, Bool.not_true, Bool.not_false, if_true, if_false, Bool.false_eq_true, ↓reduceIte, beq_self_eq_true, String.reduceBEq, Bool.or_false, Bool.false_or, Bool.and_false, Bool.false_and, Bool.or_true, Bool.true_or, decide_eq_true_eq, beq_iff_eq, Bool.not_eq_true, tp_at0, tp_at, tp_set, Option.map_none, Option.some.injEq, *])
def w_law_k13_L1 : WS := wFor (wiR1 (aCons (wC (.p (.int 12))) aNil)) (gNm 5)
    (wSeq (wAsg (wCall S_bent_k13 (aCons (wVar 1) (aCons (wVar 3) (aCons (wVar 4) aNil)))) (gNm 6))
    (wSeq (wAsg (wCB mRepr (aCons (wVar 6) aNil)) (gNm 7))
    (wSeq (wAsg (wCall S_cuts_is_cut (aCons (wVar 3) (aCons (wVar 6) aNil))) (gNm 8))
    (wSeq (wIfS (wOr (wNot (wTest (wIsi "bool" (wVar 8)))) (wTest (wOp mNeS (wCB mRepr (aCons (wVar 6) aNil)) (wVar 7))))
    (wRet (wC (.p (.bool false))))
    wNext)
    (wIfS (wTest (wOp mNe (wVar 8) (wCall S_due_k13 (aCons (wVar 3) (aCons (wVar 6) aNil)))))
    (wRet (wC (.p (.bool false))))
    wNext)))))
def w_law_k13_L2 : WS := wFor (wiSeq (wLst (aCons (wVar 9) (aCons (wVar 3) aNil)))) (gNm 10)
    (wIfS (wTest (wOp mNe (wCall S_cuts_is_cut (aCons (wVar 10) (aCons (wVar 4) aNil))) (wCall S_due_k13 (aCons (wVar 10) (aCons (wVar 4) aNil)))))
    (wRet (wC (.p (.bool false))))
    wNext)
def w_law_k13_L3 : WS := wFor (wiR1 (aCons (wC (.p (.int 3))) aNil)) (gNm 5)
    (wSeq (wAsg (wCall S_moved_k13 (aCons (wVar 1) (aCons (wVar 3) aNil))) (gNm 9))
    w_law_k13_L2)
def w_law_k13 : WS :=
    (wSeq (wAsg (wLstC (aCons (wCB mList (aCons (wSl (wVar 0) oNone (oSome (wC (.p (.int 63))))) aNil)) (aCons (wC (.p (.int 0))) (aCons (wC (.p (.int 0))) (aCons (wC (.p (.int 0))) aNil))))) (gNm 1))
    (wSeq (wAsg (wOp mIx (wLst (aCons (wC (.p (.int 30))) (aCons (wC (.p (.int 30))) (aCons (wC (.p (.int 30))) (aCons (wC (.p (.int 200))) aNil))))) (wCall S_draw_k13 (aCons (wVar 1) (aCons (wC (.p (.int 4))) aNil)))) (gNm 2))
    (wSeq (wAsg (wCall S_tree_k13 (aCons (wVar 1) (aCons (wVar 2) aNil))) (gNm 3))
    (wSeq (wAsg (wCall S_cut_k13 (aCons (wVar 1) (aCons (wVar 3) aNil))) (gNm 4))
    (wSeq (wIfS (wTest (wOp mNotB (wCall S_cuts_is_cut (aCons (wVar 3) (aCons (wVar 4) aNil))) (wC (.p (.bool true)))))
    (wRet (wC (.p (.bool false))))
    wNext)
    (wSeq w_law_k13_L1
    (wSeq w_law_k13_L3
    (wRet (wOp mIsB (wCall S_cuts_is_cut (aCons (wVar 3) (aCons (wOp mMulTA (wTup (aCons (wC (.p .none)) aNil)) (wOp mAdd (wCB mLen (aCons (wVar 3) aNil)) (wC (.p (.int 1))))) aNil))) (wC (.p (.bool true))))))))))))
theorem m_repr (d : PyData) {st : Store} {Q : SV → Store → Prop} : mRepr [.p d] st Q = (Shw d ∧ Q (.p (.str d.shown)) st) := rfl
theorem draw13 {n k : Nat} {o : MO} {u : Int} {R : SV → Store → Prop} {st : Store} (hn : st[n]? = some o) (T : Tape k o) (hk : k < 2 ^ 40) (h0 : 0 < u) (h1 : u < 2 ^ 64) (q : ∀ (r : Nat) o', (r : Int) < u → Tape (k + 1) o' → R (.p (.int (r : Int))) (st.set n o')) : S_draw_k13 [.c n, .p (.int u)] st R :=
  ⟨n, u, k, o, rfl, h0, Int.lt_trans h1 (by decide), hn, T, hk, fun r o' a b t => by
    obtain ⟨j, rfl⟩ : ∃ j : Nat, r = (j : Int) := ⟨r.toNat, by omega⟩
    exact q j o' b t⟩
theorem most30 {r : Nat} {a : Int} {m0 : Nat} (ha : a = (m0 : Nat)) (h0 : 1 ≤ m0 ∧ m0 ≤ 200) (h : (r : Int) < 4) : ∃ m : Nat, 1 ≤ m ∧ m ≤ 200 ∧ [SV.p (.int 30), SV.p (.int 30), SV.p (.int 30), SV.p (.int a)][r]? = some (.p (.int (m : Nat))) := by
  subst ha
  have : r = 0 ∨ r = 1 ∨ r = 2 ∨ r = 3 := by omega
  rcases this with rfl | rfl | rfl | rfl
  · exact ⟨30, by decide, by decide, rfl⟩
  · exact ⟨30, by decide, by decide, rfl⟩
  · exact ⟨30, by decide, by decide, rfl⟩
  · exact ⟨m0, h0.1, h0.2, rfl⟩
theorem rep_cut (t : List Nat) : Ct t (List.replicate (t.length + 1) none) := ⟨by simp, fun v q h => by
  rw [List.getElem?_replicate] at h
  split at h <;> cases h⟩
def I13 (ns : List Int) (s : Store) (t : List Nat) (c : List (Option Nat)) (x2 : Option SV) (k i : Nat) (e : M.Env) (st : Store) : Prop := ∃ (o : MO) (x5 x6 x7 x8 x9 x10 : Option SV), Tape (k + 20 * i) o ∧ e = [some (.ro ns), some (.c s.length), x2, some (.p (tv t)), some (.p (cv c)), x5, x6, x7, x8, x9, x10] ∧ st = s ++ [o]
theorem r_law_k13 (ds : List SV) (s : Store) (R : SV → Store → Prop) (w : Wf s) (h : S_law ds s R) : w_law_k13 (fnEnds s.length R) (startE 11 ds) s := by
  obtain ⟨ns, rfl, hl, q⟩ := h
  show w_law_k13 _ [some (.ro ns), none, none, none, none, none, none, none, none, none, none] s
  unfold w_law_k13
  walk_at "m"
  refine ⟨by decide, by decide, ?_⟩
  refine draw13 (k := 0) st_last ⟨_, _, _, _, rfl, by decide, by decide⟩ (by decide) (by decide) (by decide) fun r o1 hr T1 => ?_
  rw [st_set]
  obtain ⟨m, hm1, hm2, hm⟩ := most30 (a := 200) (m0 := 200) rfl (by decide) hr
  walk_at "m"
  refine ⟨_, hm, ?_⟩
  refine ⟨s.length, 1, o1, m, rfl, hm1, hm2, st_last, T1, by decide, fun t o2 T ht T2 => ?_⟩
  rw [st_set]
  refine ⟨s.length, _, o2, t, rfl, T, st_last, T2, by decide, fun c o3 C T3 => ?_⟩
  rw [st_set]
  refine ⟨t, cv c, rfl, T, okT_cv c, ?_⟩
  rw [icB_ct C]
  refine ⟨true, true, rfl, rfl, _, rfl, ite2 (fun h => by cases h) (fun _ => ?_)⟩
  unfold w_law_k13_L1
  refine for_rng 0 1 12 (fun Q hQ => by unfold wiR1; walk_at "m"; exact ⟨by decide, by decide, hQ⟩) (I13 ns s t c (some (.p (.int (m : Nat)))) 701) ⟨_, _, _, _, _, _, _, T3, rfl, rfl⟩ ?_ ?_
  · rintro i e st hi ⟨o, x5, x6, x7, x8, x9, x10, To, rfl, rfl⟩
    walk_at "m"
    refine ⟨s.length, _, o, t, c, rfl, T, C, st_last, To, by omega, fun d o4 hd T4 => ?_⟩
    rw [st_set]
    have hshw := hd.sx.shw
    dsimp only
    rw [m_repr]
    refine ⟨hshw, ?_⟩
    refine ⟨t, d, rfl, T, hd.ok, ?_⟩
    refine ⟨"bool", rfl, ite2 (fun h => absurd h (by decide)) (fun _ => ?_)⟩
    rw [m_repr]
    refine ⟨hshw, _, _, rfl, rfl, _, rfl, ?_⟩
    refine ite2 (fun h => by simp at h) (fun _ => ?_)
    refine ⟨t, d, rfl, T, hd.ok, _, rfl, _, rfl, rfl, rfl, ?_⟩
    rw [eqv_low (low_bool 0 _)]
    exact ite2 (fun h => by cases h) (fun _ => .inl ⟨o4, _, _, _, _, _, _, T4.up (by omega), rfl, rfl⟩)
  · rintro e st ⟨o, x5, x6, x7, x8, x9, x10, To, rfl, rfl⟩
    walk_at "m"
    unfold w_law_k13_L3
    refine for_rng 0 1 3 (fun Q hQ => by unfold wiR1; walk_at "m"; exact ⟨by decide, by decide, hQ⟩) (I13 ns s t c (some (.p (.int (m : Nat)))) 1000) ⟨_, _, _, _, _, _, _, To.up (by decide), rfl, rfl⟩ ?_ ?_
    · rintro i e st hi ⟨o, x5, x6, x7, x8, x9, x10, To, rfl, rfl⟩
      walk_at "m"
      refine ⟨s.length, _, o, t, rfl, T, st_last, To, by omega, fun u o4 U hu T4 => ?_⟩
      rw [st_set]
      walk_at "m"
      unfold w_law_k13_L2
      refine for_seq (st1 := s ++ [o4]) (.p (.list [tv u, tv t])) [tv u, tv t] (fun _ => rfl) (fun Q hQ => by walk_at "m"; exact ⟨by decide, hQ⟩)
        (fun j e st => ∃ x10, e = [some (.ro ns), some (.c s.length), some (.p (.int (m : Nat))), some (.p (tv t)), some (.p (cv c)), some (.p (.int (0 + (i : Int) * 1))), x6, x7, x8, some (.p (tv u)), x10] ∧ st = s ++ [o4]) ⟨_, rfl, rfl⟩ ?_ ?_
      · rintro j p e st hp ⟨x10, rfl, rfl⟩
        obtain ⟨v, V, rfl⟩ : ∃ v, Tr v ∧ p = tv v := by
          have : j = 0 ∨ j = 1 ∨ 2 ≤ j := by omega
          rcases this with rfl | rfl | h
          · cases hp; exact ⟨u, U, rfl⟩
          · cases hp; exact ⟨t, T, rfl⟩
          · rw [List.getElem?_eq_none (by simpa using h)] at hp; cases hp
        walk_at "m"
        refine ⟨v, cv c, rfl, V, okT_cv c, v, cv c, rfl, V, okT_cv c, _, rfl, _, rfl, rfl, rfl, ?_⟩
        rw [eqv_low (low_bool 0 _)]
        exact ite2 (fun h => by cases h) (fun _ => .inl ⟨_, rfl, rfl⟩)
      · rintro e st ⟨x10, rfl, rfl⟩
        exact .inl ⟨o4, _, _, _, _, _, _, T4.up (by omega), rfl, rfl⟩
    · rintro e st ⟨o, x5, x6, x7, x8, x9, x10, To, rfl, rfl⟩
      walk_at "m"
      refine ⟨by decide, (t.map nI).map SV.p, rfl, ?_⟩
      rw [List.length_map, List.length_map]
      dsimp only
      rw [m_add]
      have hlt := T.len
      have key : ∀ k : Nat, k = t.length + 1 → mMulTA (.p (.tuple [.none])) (.p (.int (k : Nat))) (s ++ [o]) fun x s_1 => S_cuts_is_cut [SV.p (tv t), x] s_1 fun x s1 => mIsB x (SV.p (.bool true)) s1 (RetTo s.length R) := fun k hk => by
        have hrep : (List.replicate k [PyData.none]).flatten = (List.replicate k none).map oN := by
          have : ∀ n, (List.replicate n [PyData.none]).flatten = (List.replicate n (none : Option Nat)).map oN := fun n => by
            induction n with
            | zero => rfl
            | succ n ih => rw [List.replicate_succ, List.flatten_cons, ih, List.replicate_succ]; rfl
          exact this k
        have C0 : Ct t (List.replicate k none) := by rw [hk]; exact rep_cut t
        have go : S_cuts_is_cut [SV.p (tv t), .p (cv (List.replicate k none))] (s ++ [o]) fun x s1 => mIsB x (SV.p (.bool true)) s1 (RetTo s.length R) := by
          refine ⟨t, _, rfl, T, okT_cv _, ?_⟩
          rw [icB_ct C0]
          exact ⟨true, true, rfl, rfl, .inl (q _)⟩
        by_cases h1 : k = 1
        · subst h1
          exact .inl ⟨[.none], rfl, rfl, go⟩
        · refine .inr ⟨[.none], k, rfl, rfl, by simp, by omega, by omega, by decide, ?_⟩
          rw [Int.toNat_natCast, hrep]
          exact go
      exact key (t.length + 1) rfl
end M
namespace M
open PySem PySem.Spec PyProof.Rows L2
def top (i : Nat) : Stmt := PySem.Challenge.pw_rootways_k13_cuts_or_not.main.body.getD i (.Pass ⟨0, 0, 0, 0⟩)
abbrev s_draw_k13 : Stmt := top 7
abbrev s_under_k13 : Stmt := top 9
abbrev s_whole_k02 : Stmt := top 11
abbrev s_cuts_is_whole : Stmt := top 3
abbrev s_trees_many : Stmt := top 1
abbrev s_bent_k13 : Stmt := top 13
abbrev s_cut_k13 : Stmt := top 10
abbrev s_due_k13 : Stmt := top 12
abbrev s_moved_k13 : Stmt := top 14
abbrev s_tree_k13 : Stmt := top 8
abbrev s_cuts_goes_below : Stmt := top 4
abbrev s_cuts_is_cut : Stmt := top 5
abbrev s_law_k13 : Stmt := top 15
section
variable {P : Program} {w : World} {K : PySem.W.Frag} {mg : Str → Option Value} {base : Heap}
theorem sc_draw_k13 : FnScope ["tape", "upto", "spot", "cell", "some", "rest"] ["tape", "upto"] (defScope s_draw_k13) := ⟨rfl, rfl, rfl, by decide +kernel, rfl, by decide +kernel, by decide +kernel⟩
theorem ok_draw_k13 {f : Addr} {fd : FuncData} (B : Bn mg) (Fu : Fun K "_law_draw" "_law_draw" s_draw_k13 f fd) : FnOk P w K mg base CX0 1 f fd ["tape", "upto"] (spM K S_draw_k13) :=
  fnM Fu sc_draw_k13 (fun ds s R h => by first | (obtain ⟨rfl, _⟩ := h; rfl) | (obtain ⟨_, rfl, _⟩ := h; rfl) | (obtain ⟨_, _, rfl, _⟩ := h; rfl) | (obtain ⟨_, _, _, rfl, _⟩ := h; rfl) | (obtain ⟨_, _, _, _, rfl, _⟩ := h; rfl) | (obtain ⟨_, _, _, _, _, rfl, _⟩ := h; rfl) | (obtain ⟨_, _, _, _, _, _, rfl, _⟩ := h; rfl) | (obtain ⟨_, _, _, _, _, _, _, rfl, _⟩ := h; rfl) | (obtain ⟨_, _, _, _, _, _, _, _, rfl, _⟩ := h; rfl) | (obtain ⟨_, _, _, _, _, _, _, _, _, rfl, _⟩ := h; rfl) | (obtain ⟨_, _, _, _, _, _, _, _, _, _, rfl, _⟩ := h; rfl) | (obtain ⟨_, _, _, _, _, _, _, _, _, _, _, rfl, _⟩ := h; rfl) | (obtain ⟨_, _, _, _, _, _, _, _, _, _, _, _, rfl, _⟩ := h; rfl) | (obtain ⟨_, _, _, _, _, _, _, _, _, _, _, _, _, rfl, _⟩ := h; rfl)) (fun cdv A outer s H E hr =>
    have nd := sc_draw_k13.nd
    (sss_cons (ss_if (st_cmp (om_eq hr.units) (se_ix (se_var 0) se_int) se_int)
    (sss_cons (ss_set 2 nd (se_ix (se_var 0) se_int))
    (sss_cons (ss_asg (se_op om_add (se_var 2) se_int) (sg_sub sm_list (se_var 0) se_int))
    (sss_cons (ss_set 3 nd se_int)
    (sss_cons (ss_if (st_cmp om_gt (se_callB (id := "len") cm_len (by rfl) B.len (by decide +kernel) (sa_cons (se_ix (se_var 0) se_int) sa_nil)) se_int)
    (sss_one (ss_set 3 nd (se_ix (se_ix (se_var 0) se_int) (se_op om_mod (se_var 2) (se_callB (id := "len") cm_len (by rfl) B.len (by decide +kernel) (sa_cons (se_ix (se_var 0) se_int) sa_nil))))))
    sss_nil)
    (sss_cons (ss_if (st_pw (sw_or (st_cmp om_ge (se_var 2) (se_callB (id := "len") cm_len (by rfl) B.len (by decide +kernel) (sa_cons (se_ix (se_var 0) se_int) sa_nil))) (sw_or1 (st_cmp om_lt (se_var 3) (se_op om_pow se_int se_int)))))
    (sss_cons (ss_set 4 nd (se_op om_add (se_op om_add (se_op om_mod (se_op om_mul (se_var 2) (se_var 2)) se_int) (se_op om_mul se_int (se_var 2))) se_int))
    (sss_cons (ss_set 4 nd (se_op om_mod (se_op om_mul (se_op om_add (se_op om_mod (se_var 3) se_int) se_int) (se_var 4)) se_int))
    (sss_one (ss_ret (se_op om_mod (se_op om_mod (se_op om_add (se_op om_div (se_op om_mod (se_op om_mul (se_var 4) (se_var 4)) se_int) se_int) (se_op om_mul se_int (se_var 2))) se_int) (se_var 1))))))
    sss_nil)
    (sss_cons (ss_asg (se_op om_sub (se_var 3) (se_op om_pow se_int se_int)) (sg_sub sm_list (se_var 0) se_int))
    (sss_one (ss_asg se_int (sg_sub sm_list (se_var 0) se_int)))))))))
    sss_nil)
    (sss_cons (ss_asg (se_op om_sub (se_ix (se_var 0) se_int) se_int) (sg_sub sm_list (se_var 0) se_int))
    (sss_cons (ss_set 5 nd (se_ix (se_var 0) se_int))
    (sss_cons (ss_asg (se_op om_div (se_var 5) (se_var 1)) (sg_sub sm_list (se_var 0) se_int))
    (sss_one (ss_ret (se_op om_mod (se_var 5) (se_var 1))))))))) (fun ds s R w h => r_draw_k13 ds s R w h)
theorem sc_under_k13 : FnScope ["tree", "found", "k", "over"] ["tree"] (defScope s_under_k13) := ⟨rfl, rfl, rfl, by decide +kernel, rfl, by decide +kernel, by decide +kernel⟩
theorem ok_under_k13 {f : Addr} {fd : FuncData} (B : Bn mg) (Fu : Fun K "_law_under" "_law_under" s_under_k13 f fd) : FnOk P w K mg base CX0 1 f fd ["tree"] (spM K S_under_k13) :=
  fnM Fu sc_under_k13 (fun ds s R h => by first | (obtain ⟨rfl, _⟩ := h; rfl) | (obtain ⟨_, rfl, _⟩ := h; rfl) | (obtain ⟨_, _, rfl, _⟩ := h; rfl) | (obtain ⟨_, _, _, rfl, _⟩ := h; rfl) | (obtain ⟨_, _, _, _, rfl, _⟩ := h; rfl) | (obtain ⟨_, _, _, _, _, rfl, _⟩ := h; rfl) | (obtain ⟨_, _, _, _, _, _, rfl, _⟩ := h; rfl) | (obtain ⟨_, _, _, _, _, _, _, rfl, _⟩ := h; rfl) | (obtain ⟨_, _, _, _, _, _, _, _, rfl, _⟩ := h; rfl) | (obtain ⟨_, _, _, _, _, _, _, _, _, rfl, _⟩ := h; rfl) | (obtain ⟨_, _, _, _, _, _, _, _, _, _, rfl, _⟩ := h; rfl) | (obtain ⟨_, _, _, _, _, _, _, _, _, _, _, rfl, _⟩ := h; rfl) | (obtain ⟨_, _, _, _, _, _, _, _, _, _, _, _, rfl, _⟩ := h; rfl) | (obtain ⟨_, _, _, _, _, _, _, _, _, _, _, _, _, rfl, _⟩ := h; rfl)) (fun cdv A outer s H E hr =>
    have nd := sc_under_k13.nd
    (sss_cons (ss_setLcC 1 rfl nd [("k", 2)] (blkOk_by (by rfl)) (si_range1 (by rfl) B.range (sa_cons (se_op om_add (se_callB (id := "len") cm_len (by rfl) B.len (by decide +kernel) (sa_cons (se_var 0) sa_nil)) se_int) sa_nil)) (fun _ => (sgv_name 2 nd)) (fun _ => sts_nil) (fun _ => (se_lstC sa_nil)))
    (sss_cons (ss_for PassesOwn.never rfl (si_enum (by rfl) B.enumerate (sa_cons (se_var 0) sa_nil)) (sg_tup rfl (sgs_cons (sg_name 2 nd) (sgs_cons (sg_name 3 nd) sgs_nil)))
    (sss_one (ss_expr (se_mt PySem.F.plainAttrs_list PySem.F.slot_list_append PySem.F.type_list_append ml_append (se_ix (se_var 1) (se_var 3)) (sa_cons (se_op om_add (se_var 2) se_int) sa_nil)))))
    (sss_one (ss_retF2 (se_var 1)))))) (fun ds s R w h => r_under_k13 ds s R w h)
theorem sc_whole_k02 : FnScope ["thing"] ["thing"] (defScope s_whole_k02) := ⟨rfl, rfl, rfl, by decide +kernel, rfl, by decide +kernel, by decide +kernel⟩
theorem ok_whole_k02 {f : Addr} {fd : FuncData} (B : Bn mg) (Fu : Fun K "_law_whole" "_law_whole" s_whole_k02 f fd) : FnOk P w K mg base CX0 1 f fd ["thing"] (spM K S_whole_k02) :=
  fnM Fu sc_whole_k02 (fun ds s R h => by first | (obtain ⟨rfl, _⟩ := h; rfl) | (obtain ⟨_, rfl, _⟩ := h; rfl) | (obtain ⟨_, _, rfl, _⟩ := h; rfl) | (obtain ⟨_, _, _, rfl, _⟩ := h; rfl) | (obtain ⟨_, _, _, _, rfl, _⟩ := h; rfl) | (obtain ⟨_, _, _, _, _, rfl, _⟩ := h; rfl) | (obtain ⟨_, _, _, _, _, _, rfl, _⟩ := h; rfl) | (obtain ⟨_, _, _, _, _, _, _, rfl, _⟩ := h; rfl) | (obtain ⟨_, _, _, _, _, _, _, _, rfl, _⟩ := h; rfl) | (obtain ⟨_, _, _, _, _, _, _, _, _, rfl, _⟩ := h; rfl) | (obtain ⟨_, _, _, _, _, _, _, _, _, _, rfl, _⟩ := h; rfl) | (obtain ⟨_, _, _, _, _, _, _, _, _, _, _, rfl, _⟩ := h; rfl) | (obtain ⟨_, _, _, _, _, _, _, _, _, _, _, _, rfl, _⟩ := h; rfl) | (obtain ⟨_, _, _, _, _, _, _, _, _, _, _, _, _, rfl, _⟩ := h; rfl)) (fun cdv A outer s H E hr =>
    have nd := sc_whole_k02.nd
    (sss_one (ss_ret (se_and (se_isi (T := "int") (by decide) (by rfl) B.isinstance (se_var 0) (by rfl) B.int (by decide +kernel)) (se_one (se_not (se_isi (T := "bool") (by decide) (by rfl) B.isinstance (se_var 0) (by rfl) B.bool (by decide +kernel)))))))) (fun ds s R w h => r_whole_k02 ds s R w h)
theorem sc_cuts_is_whole : FnScope ["thing"] ["thing"] (defScope s_cuts_is_whole) := ⟨rfl, rfl, rfl, by decide +kernel, rfl, by decide +kernel, by decide +kernel⟩
theorem ok_cuts_is_whole {f : Addr} {fd : FuncData} (B : Bn mg) (Fu : Fun K "is_whole" "is_whole" s_cuts_is_whole f fd) : FnOk P w K mg base CX0 1 f fd ["thing"] (spM K S_cuts_is_whole) :=
  fnM Fu sc_cuts_is_whole (fun ds s R h => by first | (obtain ⟨rfl, _⟩ := h; rfl) | (obtain ⟨_, rfl, _⟩ := h; rfl) | (obtain ⟨_, _, rfl, _⟩ := h; rfl) | (obtain ⟨_, _, _, rfl, _⟩ := h; rfl) | (obtain ⟨_, _, _, _, rfl, _⟩ := h; rfl) | (obtain ⟨_, _, _, _, _, rfl, _⟩ := h; rfl) | (obtain ⟨_, _, _, _, _, _, rfl, _⟩ := h; rfl) | (obtain ⟨_, _, _, _, _, _, _, rfl, _⟩ := h; rfl) | (obtain ⟨_, _, _, _, _, _, _, _, rfl, _⟩ := h; rfl) | (obtain ⟨_, _, _, _, _, _, _, _, _, rfl, _⟩ := h; rfl) | (obtain ⟨_, _, _, _, _, _, _, _, _, _, rfl, _⟩ := h; rfl) | (obtain ⟨_, _, _, _, _, _, _, _, _, _, _, rfl, _⟩ := h; rfl) | (obtain ⟨_, _, _, _, _, _, _, _, _, _, _, _, rfl, _⟩ := h; rfl) | (obtain ⟨_, _, _, _, _, _, _, _, _, _, _, _, _, rfl, _⟩ := h; rfl)) (fun cdv A outer s H E hr =>
    have nd := sc_cuts_is_whole.nd
    (sss_one (ss_ret (se_and (se_isi (T := "int") (by decide) (by rfl) B.isinstance (se_var 0) (by rfl) B.int (by decide +kernel)) (se_one (se_not (se_isi (T := "bool") (by decide) (by rfl) B.isinstance (se_var 0) (by rfl) B.bool (by decide +kernel)))))))) (fun ds s R w h => r_cuts_is_whole ds s R w h)
theorem sc_trees_many : FnScope ["tree"] ["tree"] (defScope s_trees_many) := ⟨rfl, rfl, rfl, by decide +kernel, rfl, by decide +kernel, by decide +kernel⟩
theorem ok_trees_many {f : Addr} {fd : FuncData} (B : Bn mg) (Fu : Fun K "many" "many" s_trees_many f fd) : FnOk P w K mg base CX0 1 f fd ["tree"] (spM K S_trees_many) :=
  fnM Fu sc_trees_many (fun ds s R h => by first | (obtain ⟨rfl, _⟩ := h; rfl) | (obtain ⟨_, rfl, _⟩ := h; rfl) | (obtain ⟨_, _, rfl, _⟩ := h; rfl) | (obtain ⟨_, _, _, rfl, _⟩ := h; rfl) | (obtain ⟨_, _, _, _, rfl, _⟩ := h; rfl) | (obtain ⟨_, _, _, _, _, rfl, _⟩ := h; rfl) | (obtain ⟨_, _, _, _, _, _, rfl, _⟩ := h; rfl) | (obtain ⟨_, _, _, _, _, _, _, rfl, _⟩ := h; rfl) | (obtain ⟨_, _, _, _, _, _, _, _, rfl, _⟩ := h; rfl) | (obtain ⟨_, _, _, _, _, _, _, _, _, rfl, _⟩ := h; rfl) | (obtain ⟨_, _, _, _, _, _, _, _, _, _, rfl, _⟩ := h; rfl) | (obtain ⟨_, _, _, _, _, _, _, _, _, _, _, rfl, _⟩ := h; rfl) | (obtain ⟨_, _, _, _, _, _, _, _, _, _, _, _, rfl, _⟩ := h; rfl) | (obtain ⟨_, _, _, _, _, _, _, _, _, _, _, _, _, rfl, _⟩ := h; rfl)) (fun cdv A outer s H E hr =>
    have nd := sc_trees_many.nd
    (sss_one (ss_ret (se_op om_add (se_callB (id := "len") cm_len (by rfl) B.len (by decide +kernel) (sa_cons (se_var 0) sa_nil)) se_int)))) (fun ds s R w h => r_trees_many ds s R w h)
theorem sc_bent_k13 : FnScope ["tape", "tree", "cut", "way", "at", "some", "other"] ["tape", "tree", "cut"] (defScope s_bent_k13) := ⟨rfl, rfl, rfl, by decide +kernel, rfl, by decide +kernel, by decide +kernel⟩
theorem ok_bent_k13 {f : Addr} {fd : FuncData} (B : Bn mg) (G_draw_k13 : Callee P w K mg base "_law_draw" 1 S_draw_k13) (Fu : Fun K "_law_bent" "_law_bent" s_bent_k13 f fd) : FnOk P w K mg base CX0 2 f fd ["tape", "tree", "cut"] (spM K S_bent_k13) :=
  fnM Fu sc_bent_k13 (fun ds s R h => by first | (obtain ⟨rfl, _⟩ := h; rfl) | (obtain ⟨_, rfl, _⟩ := h; rfl) | (obtain ⟨_, _, rfl, _⟩ := h; rfl) | (obtain ⟨_, _, _, rfl, _⟩ := h; rfl) | (obtain ⟨_, _, _, _, rfl, _⟩ := h; rfl) | (obtain ⟨_, _, _, _, _, rfl, _⟩ := h; rfl) | (obtain ⟨_, _, _, _, _, _, rfl, _⟩ := h; rfl) | (obtain ⟨_, _, _, _, _, _, _, rfl, _⟩ := h; rfl) | (obtain ⟨_, _, _, _, _, _, _, _, rfl, _⟩ := h; rfl) | (obtain ⟨_, _, _, _, _, _, _, _, _, rfl, _⟩ := h; rfl) | (obtain ⟨_, _, _, _, _, _, _, _, _, _, rfl, _⟩ := h; rfl) | (obtain ⟨_, _, _, _, _, _, _, _, _, _, _, rfl, _⟩ := h; rfl) | (obtain ⟨_, _, _, _, _, _, _, _, _, _, _, _, rfl, _⟩ := h; rfl) | (obtain ⟨_, _, _, _, _, _, _, _, _, _, _, _, _, rfl, _⟩ := h; rfl)) (fun cdv A outer s H E hr =>
    have nd := sc_bent_k13.nd
    (sss_cons (ss_set 3 nd (se_call G_draw_k13 (hr.mono (by decide)) (sa_cons (se_var 0) (sa_cons se_int sa_nil))))
    (sss_cons (ss_set 4 nd (se_call G_draw_k13 (hr.mono (by decide)) (sa_cons (se_var 0) (sa_cons (se_callB (id := "len") cm_len (by rfl) B.len (by decide +kernel) (sa_cons (se_var 2) sa_nil)) sa_nil))))
    (sss_cons (ss_set 5 nd (se_lst (sa_cons (se_var 4) (sa_cons (se_op om_sub se_int se_int) (sa_cons (se_op om_add (se_callB (id := "len") cm_len (by rfl) B.len (by decide +kernel) (sa_cons (se_var 1) sa_nil)) se_int) (sa_cons se_bl (sa_cons se_bl (sa_cons se_str (sa_cons (se_tup sa_nil) (sa_cons (se_lst (sa_cons (se_var 4) sa_nil)) sa_nil))))))))))
    (sss_cons (ss_if (st_cmp (om_eq hr.units) (se_var 3) se_int)
    (sss_one (ss_ret (se_op om_add (se_slice (se_var 2) so_none (so_some (se_var 4))) (se_slice (se_var 2) (so_some (se_op om_add (se_var 4) se_int)) so_none))))
    sss_nil)
    (sss_cons (ss_if (st_cmp (om_eq hr.units) (se_var 3) se_int)
    (sss_one (ss_ret (se_op om_add (se_op om_add (se_slice (se_var 2) so_none (so_some (se_var 4))) (se_tup (sa_cons (se_ix (se_var 2) (se_var 4)) sa_nil))) (se_slice (se_var 2) (so_some (se_var 4)) so_none))))
    sss_nil)
    (sss_cons (ss_if (st_cmp (om_eq hr.units) (se_var 3) se_int)
    (sss_one (ss_ret (se_ix (se_lst (sa_cons (se_callTy (T := "list") cm_list (by rfl) B.list (by decide +kernel) (sa_cons (se_var 2) sa_nil)) (sa_cons se_non (sa_cons se_int (sa_cons se_str (sa_cons (se_tup sa_nil) (sa_cons (se_lst (sa_cons se_non sa_nil)) (sa_cons se_str (sa_cons (se_tup (sa_cons se_non sa_nil)) sa_nil))))))))) (se_call G_draw_k13 (hr.mono (by decide)) (sa_cons (se_var 0) (sa_cons se_int sa_nil))))))
    sss_nil)
    (sss_cons (ss_set 6 nd (se_ix (se_var 5) (se_call G_draw_k13 (hr.mono (by decide)) (sa_cons (se_var 0) (sa_cons se_int sa_nil)))))
    (sss_cons (ss_if (st_pw (sw_and (st_cmp (om_eq hr.units) (se_var 3) se_int) (sw_and1 (st_cmp om_gt (se_var 4) se_int))))
    (sss_one (ss_set 6 nd (se_ix (se_var 1) (se_op om_sub (se_var 4) se_int))))
    sss_nil)
    (sss_cons (ss_if (st_cmp om_gt (se_var 3) se_int)
    (sss_one (ss_set 6 nd (se_ix (se_lst (sa_cons se_non (sa_cons (se_call G_draw_k13 (hr.mono (by decide)) (sa_cons (se_var 0) (sa_cons (se_op om_add (se_callB (id := "len") cm_len (by rfl) B.len (by decide +kernel) (sa_cons (se_var 1) sa_nil)) se_int) sa_nil))) sa_nil))) (se_op om_mod (se_var 3) se_int))))
    sss_nil)
    (sss_one (ss_ret (se_op om_add (se_op om_add (se_slice (se_var 2) so_none (so_some (se_var 4))) (se_tup (sa_cons (se_var 6) sa_nil))) (se_slice (se_var 2) (so_some (se_op om_add (se_var 4) se_int)) so_none)))))))))))))) (fun ds s R w h => r_bent_k13 ds s R w h)
theorem sc_cut_k13 : FnScope ["tape", "tree", "found", "some", "at"] ["tape", "tree"] (defScope s_cut_k13) := ⟨rfl, rfl, rfl, by decide +kernel, rfl, by decide +kernel, by decide +kernel⟩
theorem ok_cut_k13 {f : Addr} {fd : FuncData} (B : Bn mg) (G_under_k13 : Callee P w K mg base "_law_under" 1 S_under_k13) (G_draw_k13 : Callee P w K mg base "_law_draw" 1 S_draw_k13) (Fu : Fun K "_law_cut" "_law_cut" s_cut_k13 f fd) : FnOk P w K mg base CX0 2 f fd ["tape", "tree"] (spM K S_cut_k13) :=
  fnM Fu sc_cut_k13 (fun ds s R h => by first | (obtain ⟨rfl, _⟩ := h; rfl) | (obtain ⟨_, rfl, _⟩ := h; rfl) | (obtain ⟨_, _, rfl, _⟩ := h; rfl) | (obtain ⟨_, _, _, rfl, _⟩ := h; rfl) | (obtain ⟨_, _, _, _, rfl, _⟩ := h; rfl) | (obtain ⟨_, _, _, _, _, rfl, _⟩ := h; rfl) | (obtain ⟨_, _, _, _, _, _, rfl, _⟩ := h; rfl) | (obtain ⟨_, _, _, _, _, _, _, rfl, _⟩ := h; rfl) | (obtain ⟨_, _, _, _, _, _, _, _, rfl, _⟩ := h; rfl) | (obtain ⟨_, _, _, _, _, _, _, _, _, rfl, _⟩ := h; rfl) | (obtain ⟨_, _, _, _, _, _, _, _, _, _, rfl, _⟩ := h; rfl) | (obtain ⟨_, _, _, _, _, _, _, _, _, _, _, rfl, _⟩ := h; rfl) | (obtain ⟨_, _, _, _, _, _, _, _, _, _, _, _, rfl, _⟩ := h; rfl) | (obtain ⟨_, _, _, _, _, _, _, _, _, _, _, _, _, rfl, _⟩ := h; rfl)) (fun cdv A outer s H E hr =>
    have nd := sc_cut_k13.nd
    (sss_cons (ss_set 2 nd (se_lstC sa_nil))
    (sss_cons (ss_for PassesOwn.never rfl (si_seq (se_call G_under_k13 (hr.mono (by decide)) (sa_cons (se_var 1) sa_nil))) (sg_name 3 nd)
    (sss_cons (ss_set 4 nd (se_call G_draw_k13 (hr.mono (by decide)) (sa_cons (se_var 0) (sa_cons (se_op om_add (se_callB (id := "len") cm_len (by rfl) B.len (by decide +kernel) (sa_cons (se_var 3) sa_nil)) se_int) sa_nil))))
    (sss_one (ss_expr (se_mt PySem.F.plainAttrs_list PySem.F.slot_list_append PySem.F.type_list_append ml_append (se_var 2) (sa_cons (se_ix (se_op om_add (se_var 3) (se_lst (sa_cons se_non sa_nil))) (se_var 4)) sa_nil))))))
    (sss_one (ss_ret (se_callTy (T := "tuple") cm_tuple (by rfl) B.tuple (by decide +kernel) (sa_cons (se_var 2) sa_nil))))))) (fun ds s R w h => r_cut_k13 ds s R w h)
theorem sc_due_k13 : FnScope ["tree", "thing", "place", "one"] ["tree", "thing"] (defScope s_due_k13) := ⟨rfl, rfl, rfl, by decide +kernel, rfl, by decide +kernel, by decide +kernel⟩
theorem ok_due_k13 {f : Addr} {fd : FuncData} (B : Bn mg) (G_whole_k02 : Callee P w K mg base "_law_whole" 1 S_whole_k02) (Fu : Fun K "_law_due" "_law_due" s_due_k13 f fd) : FnOk P w K mg base CX0 2 f fd ["tree", "thing"] (spM K S_due_k13) :=
  fnM Fu sc_due_k13 (fun ds s R h => by first | (obtain ⟨rfl, _⟩ := h; rfl) | (obtain ⟨_, rfl, _⟩ := h; rfl) | (obtain ⟨_, _, rfl, _⟩ := h; rfl) | (obtain ⟨_, _, _, rfl, _⟩ := h; rfl) | (obtain ⟨_, _, _, _, rfl, _⟩ := h; rfl) | (obtain ⟨_, _, _, _, _, rfl, _⟩ := h; rfl) | (obtain ⟨_, _, _, _, _, _, rfl, _⟩ := h; rfl) | (obtain ⟨_, _, _, _, _, _, _, rfl, _⟩ := h; rfl) | (obtain ⟨_, _, _, _, _, _, _, _, rfl, _⟩ := h; rfl) | (obtain ⟨_, _, _, _, _, _, _, _, _, rfl, _⟩ := h; rfl) | (obtain ⟨_, _, _, _, _, _, _, _, _, _, rfl, _⟩ := h; rfl) | (obtain ⟨_, _, _, _, _, _, _, _, _, _, _, rfl, _⟩ := h; rfl) | (obtain ⟨_, _, _, _, _, _, _, _, _, _, _, _, rfl, _⟩ := h; rfl) | (obtain ⟨_, _, _, _, _, _, _, _, _, _, _, _, _, rfl, _⟩ := h; rfl)) (fun cdv A outer s H E hr =>
    have nd := sc_due_k13.nd
    (sss_cons (ss_if (st_pw (sw_or (st_not (st_val (se_isi (T := "tuple") (by decide) (by rfl) B.isinstance (se_var 1) (by rfl) B.tuple (by decide +kernel)))) (sw_or1 (st_cmp (om_ne hr.units) (se_callB (id := "len") cm_len (by rfl) B.len (by decide +kernel) (sa_cons (se_var 1) sa_nil)) (se_op om_add (se_callB (id := "len") cm_len (by rfl) B.len (by decide +kernel) (sa_cons (se_var 0) sa_nil)) se_int)))))
    (sss_one (ss_ret se_bl))
    sss_nil)
    (sss_cons (ss_for PassesOwn.never rfl (si_enum (by rfl) B.enumerate (sa_cons (se_var 1) sa_nil)) (sg_tup rfl (sgs_cons (sg_name 2 nd) (sgs_cons (sg_name 3 nd) sgs_nil)))
    (sss_one (ss_if (st_cmp om_notN (se_var 3) se_non)
    (sss_cons (ss_if (st_pw (sw_or (st_not (st_val (se_call G_whole_k02 (hr.mono (by decide)) (sa_cons (se_var 3) sa_nil)))) (sw_or1 (st_not (st_chain om_lt om_le se_int (se_var 3) (se_callB (id := "len") cm_len (by rfl) B.len (by decide +kernel) (sa_cons (se_var 0) sa_nil)))))))
    (sss_one (ss_ret se_bl))
    sss_nil)
    (sss_one (ss_if (st_cmp (om_ne hr.units) (se_ix (se_var 0) (se_op om_sub (se_var 3) se_int)) (se_var 2))
    (sss_one (ss_ret se_bl))
    sss_nil)))
    sss_nil)))
    (sss_one (ss_ret se_bl))))) (fun ds s R w h => r_due_k13 ds s R w h)
theorem sc_moved_k13 : FnScope ["tape", "tree", "at"] ["tape", "tree"] (defScope s_moved_k13) := ⟨rfl, rfl, rfl, by decide +kernel, rfl, by decide +kernel, by decide +kernel⟩
theorem ok_moved_k13 {f : Addr} {fd : FuncData} (B : Bn mg) (G_draw_k13 : Callee P w K mg base "_law_draw" 1 S_draw_k13) (Fu : Fun K "_law_moved" "_law_moved" s_moved_k13 f fd) : FnOk P w K mg base CX0 2 f fd ["tape", "tree"] (spM K S_moved_k13) :=
  fnM Fu sc_moved_k13 (fun ds s R h => by first | (obtain ⟨rfl, _⟩ := h; rfl) | (obtain ⟨_, rfl, _⟩ := h; rfl) | (obtain ⟨_, _, rfl, _⟩ := h; rfl) | (obtain ⟨_, _, _, rfl, _⟩ := h; rfl) | (obtain ⟨_, _, _, _, rfl, _⟩ := h; rfl) | (obtain ⟨_, _, _, _, _, rfl, _⟩ := h; rfl) | (obtain ⟨_, _, _, _, _, _, rfl, _⟩ := h; rfl) | (obtain ⟨_, _, _, _, _, _, _, rfl, _⟩ := h; rfl) | (obtain ⟨_, _, _, _, _, _, _, _, rfl, _⟩ := h; rfl) | (obtain ⟨_, _, _, _, _, _, _, _, _, rfl, _⟩ := h; rfl) | (obtain ⟨_, _, _, _, _, _, _, _, _, _, rfl, _⟩ := h; rfl) | (obtain ⟨_, _, _, _, _, _, _, _, _, _, _, rfl, _⟩ := h; rfl) | (obtain ⟨_, _, _, _, _, _, _, _, _, _, _, _, rfl, _⟩ := h; rfl) | (obtain ⟨_, _, _, _, _, _, _, _, _, _, _, _, _, rfl, _⟩ := h; rfl)) (fun cdv A outer s H E hr =>
    have nd := sc_moved_k13.nd
    (sss_cons (ss_if (st_cmp (om_eq hr.units) (se_var 1) (se_tup sa_nil))
    (sss_one (ss_ret (se_var 1)))
    sss_nil)
    (sss_cons (ss_set 2 nd (se_call G_draw_k13 (hr.mono (by decide)) (sa_cons (se_var 0) (sa_cons (se_callB (id := "len") cm_len (by rfl) B.len (by decide +kernel) (sa_cons (se_var 1) sa_nil)) sa_nil))))
    (sss_one (ss_ret (se_op om_add (se_op om_add (se_slice (se_var 1) so_none (so_some (se_var 2))) (se_tup (sa_cons (se_call G_draw_k13 (hr.mono (by decide)) (sa_cons (se_var 0) (sa_cons (se_op om_add (se_var 2) se_int) sa_nil))) sa_nil))) (se_slice (se_var 1) (so_some (se_op om_add (se_var 2) se_int)) so_none))))))) (fun ds s R w h => r_moved_k13 ds s R w h)
theorem sc_tree_k13 : FnScope ["tape", "most", "way", "size", "found", "k", "over"] ["tape", "most"] (defScope s_tree_k13) := ⟨rfl, rfl, rfl, by decide +kernel, rfl, by decide +kernel, by decide +kernel⟩
theorem ok_tree_k13 {f : Addr} {fd : FuncData} (B : Bn mg) (G_draw_k13 : Callee P w K mg base "_law_draw" 1 S_draw_k13) (Fu : Fun K "_law_tree" "_law_tree" s_tree_k13 f fd) : FnOk P w K mg base CX0 2 f fd ["tape", "most"] (spM K S_tree_k13) :=
  fnM Fu sc_tree_k13 (fun ds s R h => by first | (obtain ⟨rfl, _⟩ := h; rfl) | (obtain ⟨_, rfl, _⟩ := h; rfl) | (obtain ⟨_, _, rfl, _⟩ := h; rfl) | (obtain ⟨_, _, _, rfl, _⟩ := h; rfl) | (obtain ⟨_, _, _, _, rfl, _⟩ := h; rfl) | (obtain ⟨_, _, _, _, _, rfl, _⟩ := h; rfl) | (obtain ⟨_, _, _, _, _, _, rfl, _⟩ := h; rfl) | (obtain ⟨_, _, _, _, _, _, _, rfl, _⟩ := h; rfl) | (obtain ⟨_, _, _, _, _, _, _, _, rfl, _⟩ := h; rfl) | (obtain ⟨_, _, _, _, _, _, _, _, _, rfl, _⟩ := h; rfl) | (obtain ⟨_, _, _, _, _, _, _, _, _, _, rfl, _⟩ := h; rfl) | (obtain ⟨_, _, _, _, _, _, _, _, _, _, _, rfl, _⟩ := h; rfl) | (obtain ⟨_, _, _, _, _, _, _, _, _, _, _, _, rfl, _⟩ := h; rfl) | (obtain ⟨_, _, _, _, _, _, _, _, _, _, _, _, _, rfl, _⟩ := h; rfl)) (fun cdv A outer s H E hr =>
    have nd := sc_tree_k13.nd
    (sss_cons (ss_set 2 nd (se_call G_draw_k13 (hr.mono (by decide)) (sa_cons (se_var 0) (sa_cons se_int sa_nil))))
    (sss_cons (ss_set 3 nd (se_op om_add se_int (se_call G_draw_k13 (hr.mono (by decide)) (sa_cons (se_var 0) (sa_cons (se_var 1) sa_nil)))))
    (sss_cons (ss_if (st_cmp (om_eq hr.units) (se_call G_draw_k13 (hr.mono (by decide)) (sa_cons (se_var 0) (sa_cons se_int sa_nil))) se_int)
    (sss_one (ss_set 3 nd (se_var 1)))
    sss_nil)
    (sss_cons (ss_set 4 nd (se_lstC sa_nil))
    (sss_cons (ss_for PassesOwn.never rfl (si_range2 (by rfl) B.range (sa_cons se_int (sa_cons (se_var 3) sa_nil))) (sg_name 5 nd)
    (sss_cons (ss_set 6 nd se_int)
    (sss_cons (ss_if (st_pw (sw_or (st_cmp (om_eq hr.units) (se_var 2) se_int) (sw_or1 (st_pw (sw_and (st_cmp (om_eq hr.units) (se_var 2) se_int) (sw_and1 (st_cmp (om_eq hr.units) (se_call G_draw_k13 (hr.mono (by decide)) (sa_cons (se_var 0) (sa_cons se_int sa_nil))) se_int)))))))
    (sss_one (ss_set 6 nd (se_op om_sub (se_var 5) se_int)))
    (sss_one (ss_if (st_cmp (om_eq hr.units) (se_var 2) se_int)
    (sss_one (ss_set 6 nd (se_op om_div (se_op om_sub (se_var 5) se_int) se_int)))
    (sss_one (ss_if (st_pw (sw_or (st_cmp (om_eq hr.units) (se_var 2) se_int) (sw_or1 (st_cmp (om_eq hr.units) (se_var 2) se_int))))
    (sss_one (ss_set 6 nd (se_callB (id := "max") (cm_max2 rfl) (by rfl) B.max (by decide +kernel) (sa_cons se_int (sa_cons (se_op om_sub (se_var 5) se_int) sa_nil)))))
    (sss_one (ss_if (st_cmp (om_eq hr.units) (se_var 2) se_int)
    (sss_one (ss_set 6 nd (se_op om_sub (se_op om_sub (se_var 5) se_int) (se_call G_draw_k13 (hr.mono (by decide)) (sa_cons (se_var 0) (sa_cons (se_callB (id := "min") (cm_min2 rfl) (by rfl) B.min (by decide +kernel) (sa_cons (se_var 5) (sa_cons se_int sa_nil))) sa_nil))))))
    (sss_one (ss_if (st_cmp om_gt (se_var 2) se_int)
    (sss_one (ss_set 6 nd (se_call G_draw_k13 (hr.mono (by decide)) (sa_cons (se_var 0) (sa_cons (se_var 5) sa_nil)))))
    sss_nil)))))))))
    (sss_one (ss_expr (se_mt PySem.F.plainAttrs_list PySem.F.slot_list_append PySem.F.type_list_append ml_append (se_var 4) (sa_cons (se_var 6) sa_nil)))))))
    (sss_one (ss_ret (se_callTy (T := "tuple") cm_tuple (by rfl) B.tuple (by decide +kernel) (sa_cons (se_var 4) sa_nil)))))))))) (fun ds s R w h => r_tree_k13 ds s R w h)
theorem sc_cuts_goes_below : FnScope ["tree", "place", "thing"] ["tree", "place", "thing"] (defScope s_cuts_goes_below) := ⟨rfl, rfl, rfl, by decide +kernel, rfl, by decide +kernel, by decide +kernel⟩
theorem ok_cuts_goes_below {f : Addr} {fd : FuncData} (B : Bn mg) (G_cuts_is_whole : Callee P w K mg base "is_whole" 1 S_cuts_is_whole) (Fu : Fun K "goes_below" "goes_below" s_cuts_goes_below f fd) : FnOk P w K mg base CX0 2 f fd ["tree", "place", "thing"] (spM K S_cuts_goes_below) :=
  fnM Fu sc_cuts_goes_below (fun ds s R h => by first | (obtain ⟨rfl, _⟩ := h; rfl) | (obtain ⟨_, rfl, _⟩ := h; rfl) | (obtain ⟨_, _, rfl, _⟩ := h; rfl) | (obtain ⟨_, _, _, rfl, _⟩ := h; rfl) | (obtain ⟨_, _, _, _, rfl, _⟩ := h; rfl) | (obtain ⟨_, _, _, _, _, rfl, _⟩ := h; rfl) | (obtain ⟨_, _, _, _, _, _, rfl, _⟩ := h; rfl) | (obtain ⟨_, _, _, _, _, _, _, rfl, _⟩ := h; rfl) | (obtain ⟨_, _, _, _, _, _, _, _, rfl, _⟩ := h; rfl) | (obtain ⟨_, _, _, _, _, _, _, _, _, rfl, _⟩ := h; rfl) | (obtain ⟨_, _, _, _, _, _, _, _, _, _, rfl, _⟩ := h; rfl) | (obtain ⟨_, _, _, _, _, _, _, _, _, _, _, rfl, _⟩ := h; rfl) | (obtain ⟨_, _, _, _, _, _, _, _, _, _, _, _, rfl, _⟩ := h; rfl) | (obtain ⟨_, _, _, _, _, _, _, _, _, _, _, _, _, rfl, _⟩ := h; rfl)) (fun cdv A outer s H E hr =>
    have nd := sc_cuts_goes_below.nd
    (sss_cons (ss_if (st_cmp om_isN (se_var 2) se_non)
    (sss_one (ss_ret se_bl))
    sss_nil)
    (sss_one (ss_ret (se_and (se_call G_cuts_is_whole (hr.mono (by decide)) (sa_cons (se_var 2) sa_nil)) (se_and (se_chain om_lt om_le se_int (se_var 2) (se_callB (id := "len") cm_len (by rfl) B.len (by decide +kernel) (sa_cons (se_var 0) sa_nil))) (se_one (se_cmp (om_eq hr.units) (se_ix (se_var 0) (se_op om_sub (se_var 2) se_int)) (se_var 1))))))))) (fun ds s R w h => r_cuts_goes_below ds s R w h)
theorem sc_cuts_is_cut : FnScope ["tree", "thing", "place", "one"] ["tree", "thing"] (defScope s_cuts_is_cut) := ⟨rfl, rfl, rfl, by decide +kernel, rfl, by decide +kernel, by decide +kernel⟩
theorem ok_cuts_is_cut {f : Addr} {fd : FuncData} (B : Bn mg) (G_trees_many : Callee P w K mg base "many" 1 S_trees_many) (G_cuts_goes_below : Callee P w K mg base "goes_below" 2 S_cuts_goes_below) (Fu : Fun K "is_cut" "is_cut" s_cuts_is_cut f fd) : FnOk P w K mg base CX0 3 f fd ["tree", "thing"] (spM K S_cuts_is_cut) :=
  fnM Fu sc_cuts_is_cut (fun ds s R h => by first | (obtain ⟨rfl, _⟩ := h; rfl) | (obtain ⟨_, rfl, _⟩ := h; rfl) | (obtain ⟨_, _, rfl, _⟩ := h; rfl) | (obtain ⟨_, _, _, rfl, _⟩ := h; rfl) | (obtain ⟨_, _, _, _, rfl, _⟩ := h; rfl) | (obtain ⟨_, _, _, _, _, rfl, _⟩ := h; rfl) | (obtain ⟨_, _, _, _, _, _, rfl, _⟩ := h; rfl) | (obtain ⟨_, _, _, _, _, _, _, rfl, _⟩ := h; rfl) | (obtain ⟨_, _, _, _, _, _, _, _, rfl, _⟩ := h; rfl) | (obtain ⟨_, _, _, _, _, _, _, _, _, rfl, _⟩ := h; rfl) | (obtain ⟨_, _, _, _, _, _, _, _, _, _, rfl, _⟩ := h; rfl) | (obtain ⟨_, _, _, _, _, _, _, _, _, _, _, rfl, _⟩ := h; rfl) | (obtain ⟨_, _, _, _, _, _, _, _, _, _, _, _, rfl, _⟩ := h; rfl) | (obtain ⟨_, _, _, _, _, _, _, _, _, _, _, _, _, rfl, _⟩ := h; rfl)) (fun cdv A outer s H E hr =>
    have nd := sc_cuts_is_cut.nd
    (sss_cons (ss_if (st_pw (sw_or (st_not (st_val (se_isi (T := "tuple") (by decide) (by rfl) B.isinstance (se_var 1) (by rfl) B.tuple (by decide +kernel)))) (sw_or1 (st_cmp (om_ne hr.units) (se_callB (id := "len") cm_len (by rfl) B.len (by decide +kernel) (sa_cons (se_var 1) sa_nil)) (se_call G_trees_many (hr.mono (by decide)) (sa_cons (se_var 0) sa_nil))))))
    (sss_one (ss_ret se_bl))
    sss_nil)
    (sss_one (ss_ret (se_callB (id := "all") (cm_all rfl) (by rfl) B.all (by decide +kernel) (sa_cons (se_lc rfl nd [("place", 2), ("one", 3)] (blkOk_by (by rfl)) (si_enum (by rfl) B.enumerate (sa_cons (se_var 1) sa_nil)) (fun _ => (sgv_tup rfl (sgsv_cons (sgv_name 2 nd) (sgsv_cons (sgv_name 3 nd) sgsv_nil)))) (fun _ => sts_nil) (fun _ => (se_call G_cuts_goes_below (hr.mono (by decide)) (sa_cons (se_var 0) (sa_cons (se_var 2) (sa_cons (se_var 3) sa_nil)))))) sa_nil)))))) (fun ds s R w h => r_cuts_is_cut ds s R w h)
theorem sc_law_k13 : FnScope ["script", "tape", "most", "tree", "cut", "k", "bent", "seen", "found", "other", "some"] ["script"] (defScope s_law_k13) := ⟨rfl, rfl, rfl, by decide +kernel, rfl, by decide +kernel, by decide +kernel⟩
theorem ok_law_k13 {f : Addr} {fd : FuncData} (B : Bn mg) (G_draw_k13 : Callee P w K mg base "_law_draw" 1 S_draw_k13) (G_tree_k13 : Callee P w K mg base "_law_tree" 2 S_tree_k13) (G_cut_k13 : Callee P w K mg base "_law_cut" 2 S_cut_k13) (G_cuts_is_cut : Callee P w K mg base "is_cut" 3 S_cuts_is_cut) (G_bent_k13 : Callee P w K mg base "_law_bent" 2 S_bent_k13) (G_due_k13 : Callee P w K mg base "_law_due" 2 S_due_k13) (G_moved_k13 : Callee P w K mg base "_law_moved" 2 S_moved_k13) (Fu : Fun K "law" "law" s_law_k13 f fd) : LawOk P w K mg base 4 f fd ["script"] (spM K S_law) :=
  fnL Fu sc_law_k13 (fun ds s R h => by first | (obtain ⟨rfl, _⟩ := h; rfl) | (obtain ⟨_, rfl, _⟩ := h; rfl) | (obtain ⟨_, _, rfl, _⟩ := h; rfl) | (obtain ⟨_, _, _, rfl, _⟩ := h; rfl) | (obtain ⟨_, _, _, _, rfl, _⟩ := h; rfl) | (obtain ⟨_, _, _, _, _, rfl, _⟩ := h; rfl) | (obtain ⟨_, _, _, _, _, _, rfl, _⟩ := h; rfl) | (obtain ⟨_, _, _, _, _, _, _, rfl, _⟩ := h; rfl) | (obtain ⟨_, _, _, _, _, _, _, _, rfl, _⟩ := h; rfl) | (obtain ⟨_, _, _, _, _, _, _, _, _, rfl, _⟩ := h; rfl) | (obtain ⟨_, _, _, _, _, _, _, _, _, _, rfl, _⟩ := h; rfl) | (obtain ⟨_, _, _, _, _, _, _, _, _, _, _, rfl, _⟩ := h; rfl) | (obtain ⟨_, _, _, _, _, _, _, _, _, _, _, _, rfl, _⟩ := h; rfl) | (obtain ⟨_, _, _, _, _, _, _, _, _, _, _, _, _, rfl, _⟩ := h; rfl)) (fun cdv A outer s H E hg hr =>
    have nd := sc_law_k13.nd
    (sss_cons (ss_set 1 nd (se_lstC (sa_cons (se_callTy (T := "list") cm_list (by rfl) B.list (by decide +kernel) (sa_cons (se_slice (se_var 0) so_none (so_some se_int)) sa_nil)) (sa_cons se_int (sa_cons se_int (sa_cons se_int sa_nil))))))
    (sss_cons (ss_set 2 nd (se_ix (se_lst (sa_cons se_int (sa_cons se_int (sa_cons se_int (sa_cons se_int sa_nil))))) (se_call G_draw_k13 (hr.mono (by decide)) (sa_cons (se_var 1) (sa_cons se_int sa_nil)))))
    (sss_cons (ss_set 3 nd (se_call G_tree_k13 (hr.mono (by decide)) (sa_cons (se_var 1) (sa_cons (se_var 2) sa_nil))))
    (sss_cons (ss_set 4 nd (se_call G_cut_k13 (hr.mono (by decide)) (sa_cons (se_var 1) (sa_cons (se_var 3) sa_nil))))
    (sss_cons (ss_if (st_cmp om_notB (se_call G_cuts_is_cut (hr.mono (by decide)) (sa_cons (se_var 3) (sa_cons (se_var 4) sa_nil))) se_bl)
    (sss_one (ss_ret se_bl))
    sss_nil)
    (sss_cons (ss_for PassesOwn.never rfl (si_range1 (by rfl) B.range (sa_cons se_int sa_nil)) (sg_name 5 nd)
    (sss_cons (ss_set 6 nd (se_call G_bent_k13 (hr.mono (by decide)) (sa_cons (se_var 1) (sa_cons (se_var 3) (sa_cons (se_var 4) sa_nil)))))
    (sss_cons (ss_set 7 nd (se_callB (id := "repr") (cm_reprR hg hr) (by rfl) B.repr (by decide +kernel) (sa_cons (se_var 6) sa_nil)))
    (sss_cons (ss_set 8 nd (se_call G_cuts_is_cut (hr.mono (by decide)) (sa_cons (se_var 3) (sa_cons (se_var 6) sa_nil))))
    (sss_cons (ss_if (st_pw (sw_or (st_not (st_val (se_isi (T := "bool") (by decide) (by rfl) B.isinstance (se_var 8) (by rfl) B.bool (by decide +kernel)))) (sw_or1 (st_cmp om_neS (se_callB (id := "repr") (cm_reprR hg hr) (by rfl) B.repr (by decide +kernel) (sa_cons (se_var 6) sa_nil)) (se_var 7)))))
    (sss_one (ss_ret se_bl))
    sss_nil)
    (sss_one (ss_if (st_cmp (om_ne hr.units) (se_var 8) (se_call G_due_k13 (hr.mono (by decide)) (sa_cons (se_var 3) (sa_cons (se_var 6) sa_nil))))
    (sss_one (ss_ret se_bl))
    sss_nil)))))))
    (sss_cons (ss_for PassesOwn.never rfl (si_range1 (by rfl) B.range (sa_cons se_int sa_nil)) (sg_name 5 nd)
    (sss_cons (ss_set 9 nd (se_call G_moved_k13 (hr.mono (by decide)) (sa_cons (se_var 1) (sa_cons (se_var 3) sa_nil))))
    (sss_one (ss_for PassesOwn.never rfl (si_seq (se_lst (sa_cons (se_var 9) (sa_cons (se_var 3) sa_nil)))) (sg_name 10 nd)
    (sss_one (ss_if (st_cmp (om_ne hr.units) (se_call G_cuts_is_cut (hr.mono (by decide)) (sa_cons (se_var 10) (sa_cons (se_var 4) sa_nil))) (se_call G_due_k13 (hr.mono (by decide)) (sa_cons (se_var 10) (sa_cons (se_var 4) sa_nil))))
    (sss_one (ss_ret se_bl))
    sss_nil))))))
    (sss_one (ss_ret (se_cmp om_isB (se_call G_cuts_is_cut (hr.mono (by decide)) (sa_cons (se_var 3) (sa_cons (se_op om_mulTA (se_tup (sa_cons se_non sa_nil)) (se_op om_add (se_callB (id := "len") cm_len (by rfl) B.len (by decide +kernel) (sa_cons (se_var 3) sa_nil)) se_int)) sa_nil))) se_bl))))))))))) (fun ds s R w h => r_law_k13 ds s R w h)
end
theorem all_mk {l : PySem.W.OpenLaw} {w : World} {K : PySem.W.Frag} {h : Heap} {mg : Str → Option Value} {fa f0 f1 f2 f3 f4 f5 f6 f7 f8 f9 f10 f11 f12 : Addr} (X : K.In h) (G : h.Ns mainGlobals mg) (hfa : mg "law" = some (.ref fa))
    {od0 an0 : Option Addr} {sl0 : Array (Option Value)} {oc0 kV0 dc0 pm0 cd0 ct0 : Value}
    {od1 an1 : Option Addr} {sl1 : Array (Option Value)} {oc1 kV1 dc1 pm1 cd1 ct1 : Value}
    {od2 an2 : Option Addr} {sl2 : Array (Option Value)} {oc2 kV2 dc2 pm2 cd2 ct2 : Value}
    {od3 an3 : Option Addr} {sl3 : Array (Option Value)} {oc3 kV3 dc3 pm3 cd3 ct3 : Value}
    {od4 an4 : Option Addr} {sl4 : Array (Option Value)} {oc4 kV4 dc4 pm4 cd4 ct4 : Value}
    {od5 an5 : Option Addr} {sl5 : Array (Option Value)} {oc5 kV5 dc5 pm5 cd5 ct5 : Value}
    {od6 an6 : Option Addr} {sl6 : Array (Option Value)} {oc6 kV6 dc6 pm6 cd6 ct6 : Value}
    {od7 an7 : Option Addr} {sl7 : Array (Option Value)} {oc7 kV7 dc7 pm7 cd7 ct7 : Value}
    {od8 an8 : Option Addr} {sl8 : Array (Option Value)} {oc8 kV8 dc8 pm8 cd8 ct8 : Value}
    {od9 an9 : Option Addr} {sl9 : Array (Option Value)} {oc9 kV9 dc9 pm9 cd9 ct9 : Value}
    {od10 an10 : Option Addr} {sl10 : Array (Option Value)} {oc10 kV10 dc10 pm10 cd10 ct10 : Value}
    {od11 an11 : Option Addr} {sl11 : Array (Option Value)} {oc11 kV11 dc11 pm11 cd11 ct11 : Value}
    {od12 an12 : Option Addr} {sl12 : Array (Option Value)} {oc12 kV12 dc12 pm12 cd12 ct12 : Value}
    (a0 : PySem.W.nsIn K mainGlobals "_law_draw" = some (some (.ref f0)))
    (l0 : K.lookup f0 = some ⟨oc0, od0, .func (PySem.W.fnOf "_law_draw" "_law_draw" (defArgs s_draw_k13) (defBody s_draw_k13) (defScope s_draw_k13) .none kV0 dc0 pm0 an0 cd0 ct0), sl0⟩)
    (c0 : PySem.W.codeIn K cd0 "_law_draw" = true)
    (k0 : PySem.W.keepIn K (.ref f0) = true)
    (a1 : PySem.W.nsIn K mainGlobals "_law_under" = some (some (.ref f1)))
    (l1 : K.lookup f1 = some ⟨oc1, od1, .func (PySem.W.fnOf "_law_under" "_law_under" (defArgs s_under_k13) (defBody s_under_k13) (defScope s_under_k13) .none kV1 dc1 pm1 an1 cd1 ct1), sl1⟩)
    (c1 : PySem.W.codeIn K cd1 "_law_under" = true)
    (k1 : PySem.W.keepIn K (.ref f1) = true)
    (a2 : PySem.W.nsIn K mainGlobals "_law_whole" = some (some (.ref f2)))
    (l2 : K.lookup f2 = some ⟨oc2, od2, .func (PySem.W.fnOf "_law_whole" "_law_whole" (defArgs s_whole_k02) (defBody s_whole_k02) (defScope s_whole_k02) .none kV2 dc2 pm2 an2 cd2 ct2), sl2⟩)
    (c2 : PySem.W.codeIn K cd2 "_law_whole" = true)
    (k2 : PySem.W.keepIn K (.ref f2) = true)
    (a3 : PySem.W.nsIn K mainGlobals "is_whole" = some (some (.ref f3)))
    (l3 : K.lookup f3 = some ⟨oc3, od3, .func (PySem.W.fnOf "is_whole" "is_whole" (defArgs s_cuts_is_whole) (defBody s_cuts_is_whole) (defScope s_cuts_is_whole) .none kV3 dc3 pm3 an3 cd3 ct3), sl3⟩)
    (c3 : PySem.W.codeIn K cd3 "is_whole" = true)
    (k3 : PySem.W.keepIn K (.ref f3) = true)
    (a4 : PySem.W.nsIn K mainGlobals "many" = some (some (.ref f4)))
    (l4 : K.lookup f4 = some ⟨oc4, od4, .func (PySem.W.fnOf "many" "many" (defArgs s_trees_many) (defBody s_trees_many) (defScope s_trees_many) .none kV4 dc4 pm4 an4 cd4 ct4), sl4⟩)
    (c4 : PySem.W.codeIn K cd4 "many" = true)
    (k4 : PySem.W.keepIn K (.ref f4) = true)
    (a5 : PySem.W.nsIn K mainGlobals "_law_bent" = some (some (.ref f5)))
    (l5 : K.lookup f5 = some ⟨oc5, od5, .func (PySem.W.fnOf "_law_bent" "_law_bent" (defArgs s_bent_k13) (defBody s_bent_k13) (defScope s_bent_k13) .none kV5 dc5 pm5 an5 cd5 ct5), sl5⟩)
    (c5 : PySem.W.codeIn K cd5 "_law_bent" = true)
    (k5 : PySem.W.keepIn K (.ref f5) = true)
    (a6 : PySem.W.nsIn K mainGlobals "_law_cut" = some (some (.ref f6)))
    (l6 : K.lookup f6 = some ⟨oc6, od6, .func (PySem.W.fnOf "_law_cut" "_law_cut" (defArgs s_cut_k13) (defBody s_cut_k13) (defScope s_cut_k13) .none kV6 dc6 pm6 an6 cd6 ct6), sl6⟩)
    (c6 : PySem.W.codeIn K cd6 "_law_cut" = true)
    (k6 : PySem.W.keepIn K (.ref f6) = true)
    (a7 : PySem.W.nsIn K mainGlobals "_law_due" = some (some (.ref f7)))
    (l7 : K.lookup f7 = some ⟨oc7, od7, .func (PySem.W.fnOf "_law_due" "_law_due" (defArgs s_due_k13) (defBody s_due_k13) (defScope s_due_k13) .none kV7 dc7 pm7 an7 cd7 ct7), sl7⟩)
    (c7 : PySem.W.codeIn K cd7 "_law_due" = true)
    (k7 : PySem.W.keepIn K (.ref f7) = true)
    (a8 : PySem.W.nsIn K mainGlobals "_law_moved" = some (some (.ref f8)))
    (l8 : K.lookup f8 = some ⟨oc8, od8, .func (PySem.W.fnOf "_law_moved" "_law_moved" (defArgs s_moved_k13) (defBody s_moved_k13) (defScope s_moved_k13) .none kV8 dc8 pm8 an8 cd8 ct8), sl8⟩)
    (c8 : PySem.W.codeIn K cd8 "_law_moved" = true)
    (k8 : PySem.W.keepIn K (.ref f8) = true)
    (a9 : PySem.W.nsIn K mainGlobals "_law_tree" = some (some (.ref f9)))
    (l9 : K.lookup f9 = some ⟨oc9, od9, .func (PySem.W.fnOf "_law_tree" "_law_tree" (defArgs s_tree_k13) (defBody s_tree_k13) (defScope s_tree_k13) .none kV9 dc9 pm9 an9 cd9 ct9), sl9⟩)
    (c9 : PySem.W.codeIn K cd9 "_law_tree" = true)
    (k9 : PySem.W.keepIn K (.ref f9) = true)
    (a10 : PySem.W.nsIn K mainGlobals "goes_below" = some (some (.ref f10)))
    (l10 : K.lookup f10 = some ⟨oc10, od10, .func (PySem.W.fnOf "goes_below" "goes_below" (defArgs s_cuts_goes_below) (defBody s_cuts_goes_below) (defScope s_cuts_goes_below) .none kV10 dc10 pm10 an10 cd10 ct10), sl10⟩)
    (c10 : PySem.W.codeIn K cd10 "goes_below" = true)
    (k10 : PySem.W.keepIn K (.ref f10) = true)
    (a11 : PySem.W.nsIn K mainGlobals "is_cut" = some (some (.ref f11)))
    (l11 : K.lookup f11 = some ⟨oc11, od11, .func (PySem.W.fnOf "is_cut" "is_cut" (defArgs s_cuts_is_cut) (defBody s_cuts_is_cut) (defScope s_cuts_is_cut) .none kV11 dc11 pm11 an11 cd11 ct11), sl11⟩)
    (c11 : PySem.W.codeIn K cd11 "is_cut" = true)
    (k11 : PySem.W.keepIn K (.ref f11) = true)
    (a12 : PySem.W.nsIn K mainGlobals "law" = some (some (.ref f12)))
    (l12 : K.lookup f12 = some ⟨oc12, od12, .func (PySem.W.fnOf "law" "law" (defArgs s_law_k13) (defBody s_law_k13) (defScope s_law_k13) .none kV12 dc12 pm12 an12 cd12 ct12), sl12⟩)
    (c12 : PySem.W.codeIn K cd12 "law" = true)
    (k12 : PySem.W.keepIn K (.ref f12) = true)
    (z1 : PySem.W.nsIn K mainGlobals "len" = some none)
    (z2 : PySem.W.nsIn K mainGlobals "range" = some none)
    (z3 : PySem.W.nsIn K mainGlobals "tuple" = some none)
    (z4 : PySem.W.nsIn K mainGlobals "list" = some none)
    (z5 : PySem.W.nsIn K mainGlobals "max" = some none)
    (z6 : PySem.W.nsIn K mainGlobals "min" = some none)
    (z7 : PySem.W.nsIn K mainGlobals "sum" = some none)
    (z8 : PySem.W.nsIn K mainGlobals "sorted" = some none)
    (z9 : PySem.W.nsIn K mainGlobals "isinstance" = some none)
    (z10 : PySem.W.nsIn K mainGlobals "int" = some none)
    (z11 : PySem.W.nsIn K mainGlobals "bool" = some none)
    (z12 : PySem.W.nsIn K mainGlobals "str" = some none)
    (z13 : PySem.W.nsIn K mainGlobals "enumerate" = some none)
    (z14 : PySem.W.nsIn K mainGlobals "zip" = some none)
    (z15 : PySem.W.nsIn K mainGlobals "reversed" = some none)
    (z16 : PySem.W.nsIn K mainGlobals "all" = some none)
    (z17 : PySem.W.nsIn K mainGlobals "repr" = some none)
    (z18 : PySem.W.nsIn K mainGlobals "dict" = some none) :
    ∃ fd : FuncData, (∀ (s : Shared) (v : Value), BindsTo s fd ⟨[v], []⟩ [("script", v)]) ∧ ∀ base : Heap, K.In base → base.Ns mainGlobals mg → LawOk l.prog w K mg base 4 fa fd ["script"] (spLaw K) := by
  have e := hfa.symm.trans (PySem.W.mg_of X G a12)
  cases e
  have B : Bn mg := bn_mk X G z1 z2 z3 z4 z5 z6 z7 z8 z9 z10 z11 z12 z13 z14 z15 z16 z17 z18
  refine ⟨PySem.W.fnOf "law" "law" (defArgs s_law_k13) (defBody s_law_k13) (defScope s_law_k13) .none kV12 dc12 pm12 an12 cd12 ct12, fun s v => .of_eq rfl, fun base _ _ => ?_⟩
  have F0 := fun_mk (st := s_draw_k13) l0 c0 k0
  have b0 := F0.binds (ps := ["tape", "upto"]) fun _ _ _ _ _ _ us hl => match us, hl with | [_, _], _ => rfl
  have okn0 : FnOk l.prog w K mg base CX0 1 f0 _ ["tape", "upto"] (spM K S_draw_k13) := ok_draw_k13 B F0
  have G_draw_k13 : Callee l.prog w K mg base "_law_draw" 1 S_draw_k13 := ⟨_, _, ["tape", "upto"], okn0, PySem.W.mg_of X G a0, k0, b0⟩
  have F1 := fun_mk (st := s_under_k13) l1 c1 k1
  have b1 := F1.binds (ps := ["tree"]) fun _ _ _ _ _ _ us hl => match us, hl with | [_], _ => rfl
  have okn1 : FnOk l.prog w K mg base CX0 1 f1 _ ["tree"] (spM K S_under_k13) := ok_under_k13 B F1
  have G_under_k13 : Callee l.prog w K mg base "_law_under" 1 S_under_k13 := ⟨_, _, ["tree"], okn1, PySem.W.mg_of X G a1, k1, b1⟩
  have F2 := fun_mk (st := s_whole_k02) l2 c2 k2
  have b2 := F2.binds (ps := ["thing"]) fun _ _ _ _ _ _ us hl => match us, hl with | [_], _ => rfl
  have okn2 : FnOk l.prog w K mg base CX0 1 f2 _ ["thing"] (spM K S_whole_k02) := ok_whole_k02 B F2
  have G_whole_k02 : Callee l.prog w K mg base "_law_whole" 1 S_whole_k02 := ⟨_, _, ["thing"], okn2, PySem.W.mg_of X G a2, k2, b2⟩
  have F3 := fun_mk (st := s_cuts_is_whole) l3 c3 k3
  have b3 := F3.binds (ps := ["thing"]) fun _ _ _ _ _ _ us hl => match us, hl with | [_], _ => rfl
  have okn3 : FnOk l.prog w K mg base CX0 1 f3 _ ["thing"] (spM K S_cuts_is_whole) := ok_cuts_is_whole B F3
  have G_cuts_is_whole : Callee l.prog w K mg base "is_whole" 1 S_cuts_is_whole := ⟨_, _, ["thing"], okn3, PySem.W.mg_of X G a3, k3, b3⟩
  have F4 := fun_mk (st := s_trees_many) l4 c4 k4
  have b4 := F4.binds (ps := ["tree"]) fun _ _ _ _ _ _ us hl => match us, hl with | [_], _ => rfl
  have okn4 : FnOk l.prog w K mg base CX0 1 f4 _ ["tree"] (spM K S_trees_many) := ok_trees_many B F4
  have G_trees_many : Callee l.prog w K mg base "many" 1 S_trees_many := ⟨_, _, ["tree"], okn4, PySem.W.mg_of X G a4, k4, b4⟩
  have F5 := fun_mk (st := s_bent_k13) l5 c5 k5
  have b5 := F5.binds (ps := ["tape", "tree", "cut"]) fun _ _ _ _ _ _ us hl => match us, hl with | [_, _, _], _ => rfl
  have okn5 : FnOk l.prog w K mg base CX0 2 f5 _ ["tape", "tree", "cut"] (spM K S_bent_k13) := ok_bent_k13 B G_draw_k13 F5
  have G_bent_k13 : Callee l.prog w K mg base "_law_bent" 2 S_bent_k13 := ⟨_, _, ["tape", "tree", "cut"], okn5, PySem.W.mg_of X G a5, k5, b5⟩
  have F6 := fun_mk (st := s_cut_k13) l6 c6 k6
  have b6 := F6.binds (ps := ["tape", "tree"]) fun _ _ _ _ _ _ us hl => match us, hl with | [_, _], _ => rfl
  have okn6 : FnOk l.prog w K mg base CX0 2 f6 _ ["tape", "tree"] (spM K S_cut_k13) := ok_cut_k13 B G_under_k13 G_draw_k13 F6
  have G_cut_k13 : Callee l.prog w K mg base "_law_cut" 2 S_cut_k13 := ⟨_, _, ["tape", "tree"], okn6, PySem.W.mg_of X G a6, k6, b6⟩
  have F7 := fun_mk (st := s_due_k13) l7 c7 k7
  have b7 := F7.binds (ps := ["tree", "thing"]) fun _ _ _ _ _ _ us hl => match us, hl with | [_, _], _ => rfl
  have okn7 : FnOk l.prog w K mg base CX0 2 f7 _ ["tree", "thing"] (spM K S_due_k13) := ok_due_k13 B G_whole_k02 F7
  have G_due_k13 : Callee l.prog w K mg base "_law_due" 2 S_due_k13 := ⟨_, _, ["tree", "thing"], okn7, PySem.W.mg_of X G a7, k7, b7⟩
  have F8 := fun_mk (st := s_moved_k13) l8 c8 k8
  have b8 := F8.binds (ps := ["tape", "tree"]) fun _ _ _ _ _ _ us hl => match us, hl with | [_, _], _ => rfl
  have okn8 : FnOk l.prog w K mg base CX0 2 f8 _ ["tape", "tree"] (spM K S_moved_k13) := ok_moved_k13 B G_draw_k13 F8
  have G_moved_k13 : Callee l.prog w K mg base "_law_moved" 2 S_moved_k13 := ⟨_, _, ["tape", "tree"], okn8, PySem.W.mg_of X G a8, k8, b8⟩
  have F9 := fun_mk (st := s_tree_k13) l9 c9 k9
  have b9 := F9.binds (ps := ["tape", "most"]) fun _ _ _ _ _ _ us hl => match us, hl with | [_, _], _ => rfl
  have okn9 : FnOk l.prog w K mg base CX0 2 f9 _ ["tape", "most"] (spM K S_tree_k13) := ok_tree_k13 B G_draw_k13 F9
  have G_tree_k13 : Callee l.prog w K mg base "_law_tree" 2 S_tree_k13 := ⟨_, _, ["tape", "most"], okn9, PySem.W.mg_of X G a9, k9, b9⟩
  have F10 := fun_mk (st := s_cuts_goes_below) l10 c10 k10
  have b10 := F10.binds (ps := ["tree", "place", "thing"]) fun _ _ _ _ _ _ us hl => match us, hl with | [_, _, _], _ => rfl
  have okn10 : FnOk l.prog w K mg base CX0 2 f10 _ ["tree", "place", "thing"] (spM K S_cuts_goes_below) := ok_cuts_goes_below B G_cuts_is_whole F10
  have G_cuts_goes_below : Callee l.prog w K mg base "goes_below" 2 S_cuts_goes_below := ⟨_, _, ["tree", "place", "thing"], okn10, PySem.W.mg_of X G a10, k10, b10⟩
  have F11 := fun_mk (st := s_cuts_is_cut) l11 c11 k11
  have b11 := F11.binds (ps := ["tree", "thing"]) fun _ _ _ _ _ _ us hl => match us, hl with | [_, _], _ => rfl
  have okn11 : FnOk l.prog w K mg base CX0 3 f11 _ ["tree", "thing"] (spM K S_cuts_is_cut) := ok_cuts_is_cut B G_trees_many G_cuts_goes_below F11
  have G_cuts_is_cut : Callee l.prog w K mg base "is_cut" 3 S_cuts_is_cut := ⟨_, _, ["tree", "thing"], okn11, PySem.W.mg_of X G a11, k11, b11⟩
  exact (ok_law_k13 B G_draw_k13 G_tree_k13 G_cut_k13 G_cuts_is_cut G_bent_k13 G_due_k13 G_moved_k13 (fun_mk (st := s_law_k13) l12 c12 k12)).imp law_imp
end M
open PySem PySem.W PyProof.Rows in
set_option maxRecDepth 100000 in
set_option maxHeartbeats 0 in
theorem PySem.Challenge.cw_rootways_k13_cuts_or_not_holds : PySem.Challenge.rw_rootways_k13_cuts_or_not.Holds := by
  w_on; o_law; k_head; (case hw => w_witness2)
  k_fill
  refine M.walk_law (l := PySem.Challenge.rw_rootways_k13_cuts_or_not) (n := 63) (k := 4) (x := "script") (sp := fun w => M.spLaw _) rfl (by decide) rfl ⟨rfl, by decide, by decide⟩ (fun w h Y => PySem.W.kIn_of Y) ?F (fun _ _ a ns hl _ hS => ⟨a, ns, rfl, hS, hl, fun _ => rfl⟩) (fun _ _ _ _ _ h => h)
  case F =>
    intro w mg fa h KX G hmg
    refine' M.all_mk KX G hmg ?a0 ?l0 ?c0 ?k0 ?a1 ?l1 ?c1 ?k1 ?a2 ?l2 ?c2 ?k2 ?a3 ?l3 ?c3 ?k3 ?a4 ?l4 ?c4 ?k4 ?a5 ?l5 ?c5 ?k5 ?a6 ?l6 ?c6 ?k6 ?a7 ?l7 ?c7 ?k7 ?a8 ?l8 ?c8 ?k8 ?a9 ?l9 ?c9 ?k9 ?a10 ?l10 ?c10 ?k10 ?a11 ?l11 ?c11 ?k11 ?a12 ?l12 ?c12 ?k12 ?z1 ?z2 ?z3 ?z4 ?z5 ?z6 ?z7 ?z8 ?z9 ?z10 ?z11 ?z12 ?z13 ?z14 ?z15 ?z16 ?z17 ?z18
    (case a0 => k_is)
    (case l0 => k_is)
    (case c0 => k_is)
    (case k0 => k_is)
    (case a1 => k_is)
    (case l1 => k_is)
    (case c1 => k_is)
    (case k1 => k_is)
    (case a2 => k_is)
    (case l2 => k_is)
    (case c2 => k_is)
    (case k2 => k_is)
    (case a3 => k_is)
    (case l3 => k_is)
    (case c3 => k_is)
    (case k3 => k_is)
    (case a4 => k_is)
    (case l4 => k_is)
    (case c4 => k_is)
    (case k4 => k_is)
    (case a5 => k_is)
    (case l5 => k_is)
    (case c5 => k_is)
    (case k5 => k_is)
    (case a6 => k_is)
    (case l6 => k_is)
    (case c6 => k_is)
    (case k6 => k_is)
    (case a7 => k_is)
    (case l7 => k_is)
    (case c7 => k_is)
    (case k7 => k_is)
    (case a8 => k_is)
    (case l8 => k_is)
    (case c8 => k_is)
    (case k8 => k_is)
    (case a9 => k_is)
    (case l9 => k_is)
    (case c9 => k_is)
    (case k9 => k_is)
    (case a10 => k_is)
    (case l10 => k_is)
    (case c10 => k_is)
    (case k10 => k_is)
    (case a11 => k_is)
    (case l11 => k_is)
    (case c11 => k_is)
    (case k11 => k_is)
    (case a12 => k_is)
    (case l12 => k_is)
    (case c12 => k_is)
    (case k12 => k_is)
    (case z1 => k_is)
    (case z2 => k_is)
    (case z3 => k_is)
    (case z4 => k_is)
    (case z5 => k_is)
    (case z6 => k_is)
    (case z7 => k_is)
    (case z8 => k_is)
    (case z9 => k_is)
    (case z10 => k_is)
    (case z11 => k_is)
    (case z12 => k_is)
    (case z13 => k_is)
    (case z14 => k_is)
    (case z15 => k_is)
    (case z16 => k_is)
    (case z17 => k_is)
    (case z18 => k_is)
