import PyProof.Rows.All
import Wide.All
import OpenK.AllK
import Wide.FinOn
import HandS.ForMost
import HandS.Flow
import HandS.TupAny
import HandS.TupMul
import HandS.TupLe
import HandS.IsInst
import HandS.Conv
import HandS.Deep
import HandS.Style
import HandS.RaiseMore
import HandS.SortInts
import HandS.Sort
import KE.SortData
import HandS.Defaults
import HandS.Head0
import HandS.Head1
import HandS.Head2
import HandS.HeadEnd
import HandS.HeadHook1
import HandS.HeadHook2
import HandS.HeadHook4
import HandS.HeadWalk
import KE.KStateDown
import PySem.Challenge.RW_truthwright_k01_functions_told
set_option Elab.async false
set_option linter.all false
set_option maxRecDepth 100000
namespace L2.Ev
open PySem PySem.Spec PyProof.Rows

/-! ### data -/
inductive D where
  | non | bl (b : Bool) | int (i : Int) | str (x : Str) | tup (xs : List D) | lst (xs : List D)
  deriving Inhabited

inductive Wv where
  | val (d : D) | cel (n : Nat) | pool (xs : List D) (n : Nat) | scr (ns : List Int)

inductive Cel where
  | live (xs : List D) | froz (xs : List D)
def Cel.items : Cel → List D
  | .live xs => xs
  | .froz xs => xs
abbrev Sto := List Cel
abbrev M (α : Type) := Sto → Option (α × Sto)

def LiveA (ρ : List Addr) (st : Sto) (a : Addr) : Prop := ∃ (n : Nat) (xs : List D), ρ[n]? = some a ∧ st[n]? = some (Cel.live xs)

section
variable (K : PySem.W.Frag) (Z ρ : List Addr) (st : Sto) (H : Hp)
mutual
def Rep : D → V → Prop
  | .non, v => v = .non
  | .bl b, v => v = .bl b
  | .int i, v => v = .int i
  | .str x, v => v = .str x ∧ x.length ≤ sizeLine
  | .tup xs, v => ∃ a vs, v = .ref a ∧ SqT K H a vs ∧ Reps xs vs ∧ xs.length ≤ sizeLine
  | .lst xs, v => ∃ a vs, v = .ref a ∧ H a = some (.lst vs) ∧ a ∉ Z ∧ ¬ LiveA ρ st a ∧ Reps xs vs ∧ xs.length ≤ sizeLine
def Reps : List D → List V → Prop
  | [], vs => vs = []
  | x :: xs, vs => ∃ v r, vs = v :: r ∧ Rep x v ∧ Reps xs r
end
end

structure Ext (ρ : List Addr) (st : Sto) (H : Hp) (ρ' : List Addr) (st' : Sto) (H' : Hp) : Prop where
  pre : ∃ r, ρ' = ρ ++ r
  keep : ∀ a o, H a = some o → ¬ LiveA ρ st a → H' a = some o
  dom : ∀ a o, H a = some o → ∃ o', H' a = some o'
  live : ∀ a o, H a = some o → LiveA ρ' st' a → LiveA ρ st a

structure SRep (K : PySem.W.Frag) (Z ρ : List Addr) (st : Sto) (H : Hp) : Prop where
  len : ρ.length = st.length
  nd : ρ.Nodup
  zd : ∀ z ∈ Z, ∃ o, H z = some o
  cell : ∀ (n : Nat) (a : Addr) (c : Cel), ρ[n]? = some a → st[n]? = some c → ∃ vs, H a = some (.lst vs) ∧ a ∉ Z ∧ Reps K Z ρ st H c.items vs ∧ c.items.length ≤ sizeLine

section
variable {K : PySem.W.Frag} {Z ρ ρ' ρ'' : List Addr} {st st' st'' : Sto} {H H' H'' : Hp}

theorem Ext.refl : Ext ρ st H ρ st H := ⟨⟨[], (List.append_nil _).symm⟩, fun _ _ h _ => h, fun _ o h => ⟨o, h⟩, fun _ _ _ h => h⟩
theorem Ext.trans (a : Ext ρ st H ρ' st' H') (b : Ext ρ' st' H' ρ'' st'' H'') : Ext ρ st H ρ'' st'' H'' where
  pre := by
    obtain ⟨r, e⟩ := a.pre
    obtain ⟨r', e'⟩ := b.pre
    exact ⟨r ++ r', by rw [e', e, List.append_assoc]⟩
  keep := fun x o h n => b.keep x o (a.keep x o h n) fun l => n (a.live x o h l)
  dom := fun x o h => by
    obtain ⟨o', h'⟩ := a.dom x o h
    exact b.dom x o' h'
  live := fun x o h l => by
    obtain ⟨o', h'⟩ := a.dom x o h
    exact a.live x o h (b.live x o' h' l)

theorem SRep.live_lst (S : SRep K Z ρ st H) {a : Addr} (l : LiveA ρ st a) : ∃ vs, H a = some (.lst vs) := by
  obtain ⟨n, xs, h1, h2⟩ := l
  obtain ⟨vs, h, _⟩ := S.cell n a _ h1 h2
  exact ⟨vs, h⟩
theorem Ext.sqT (S : SRep K Z ρ st H) (e : Ext ρ st H ρ' st' H') {a : Addr} {vs : List V} (h : SqT K H a vs) : SqT K H' a vs := by
  have nl : ∀ o, H a = some o → (∀ ws, o ≠ .lst ws) → ¬ LiveA ρ st a := fun o ho hn l => by
    obtain ⟨ws, q⟩ := S.live_lst l
    rw [ho] at q
    exact hn ws (Option.some.inj q)
  rcases h with (h | ⟨o, h⟩) | h
  · exact .inl (.inl (e.keep _ _ h (nl _ h fun ws z => by cases z)))
  · exact .inl (.inr ⟨o, e.keep _ _ h (nl _ h fun ws z => by cases z)⟩)
  · exact .inr h

mutual
theorem Rep.ext (S : SRep K Z ρ st H) (e : Ext ρ st H ρ' st' H') : ∀ (d : D) (v : V), Rep K Z ρ st H d v → Rep K Z ρ' st' H' d v
  | .non, v, h => by simpa only [Rep] using h
  | .bl b, v, h => by simpa only [Rep] using h
  | .int i, v, h => by simpa only [Rep] using h
  | .str x, v, h => by simpa only [Rep] using h
  | .tup xs, v, h => by
    simp only [Rep] at h ⊢
    obtain ⟨a, vs, h1, h2, h3, h4⟩ := h
    exact ⟨a, vs, h1, e.sqT S h2, Reps.ext S e xs vs h3, h4⟩
  | .lst xs, v, h => by
    simp only [Rep] at h ⊢
    obtain ⟨a, vs, h1, h2, h3, h4, h5, h6⟩ := h
    exact ⟨a, vs, h1, e.keep _ _ h2 h4, h3, fun l => h4 (e.live _ _ h2 l), Reps.ext S e xs vs h5, h6⟩
theorem Reps.ext (S : SRep K Z ρ st H) (e : Ext ρ st H ρ' st' H') : ∀ (ds : List D) (vs : List V), Reps K Z ρ st H ds vs → Reps K Z ρ' st' H' ds vs
  | [], vs, h => by simpa only [Reps] using h
  | x :: xs, vs, h => by
    simp only [Reps] at h ⊢
    obtain ⟨v, r, h1, h2, h3⟩ := h
    exact ⟨v, r, h1, Rep.ext S e x v h2, Reps.ext S e xs r h3⟩
end

theorem Reps.nil : Reps K Z ρ st H [] [] := by simp only [Reps]
theorem Reps.cons {d : D} {ds : List D} {v : V} {vs : List V} (h : Rep K Z ρ st H d v) (t : Reps K Z ρ st H ds vs) : Reps K Z ρ st H (d :: ds) (v :: vs) := by
  simp only [Reps]
  exact ⟨v, vs, rfl, h, t⟩
theorem Reps.length : ∀ {ds : List D} {vs : List V}, Reps K Z ρ st H ds vs → vs.length = ds.length
  | [], vs, h => by
    simp only [Reps] at h
    rw [h]; rfl
  | x :: xs, vs, h => by
    simp only [Reps] at h
    obtain ⟨v, r, rfl, h2, h3⟩ := h
    rw [List.length_cons, List.length_cons, Reps.length h3]
theorem Reps.get : ∀ {ds : List D} {vs : List V} {i : Nat} {d : D}, Reps K Z ρ st H ds vs → ds[i]? = some d → ∃ v, vs[i]? = some v ∧ Rep K Z ρ st H d v
  | [], vs, i, d, h, e => by simp at e
  | x :: xs, vs, 0, d, h, e => by
    simp only [Reps] at h
    obtain ⟨v, r, rfl, h2, h3⟩ := h
    simp at e
    subst e
    exact ⟨v, rfl, h2⟩
  | x :: xs, vs, i + 1, d, h, e => by
    simp only [Reps] at h
    obtain ⟨v, r, rfl, h2, h3⟩ := h
    exact Reps.get (i := i) h3 (by simpa using e)
theorem Reps.get' : ∀ {ds : List D} {vs : List V} {i : Nat} {v : V}, Reps K Z ρ st H ds vs → vs[i]? = some v → ∃ d, ds[i]? = some d ∧ Rep K Z ρ st H d v
  | [], vs, i, d, h, e => by
    simp only [Reps] at h
    subst h
    simp at e
  | x :: xs, vs, 0, d, h, e => by
    simp only [Reps] at h
    obtain ⟨v, r, rfl, h2, h3⟩ := h
    simp at e
    subst e
    exact ⟨x, rfl, h2⟩
  | x :: xs, vs, i + 1, d, h, e => by
    simp only [Reps] at h
    obtain ⟨v, r, rfl, h2, h3⟩ := h
    exact Reps.get' (i := i) h3 (by simpa using e)
theorem Reps.append : ∀ {ds es : List D} {vs ws : List V}, Reps K Z ρ st H ds vs → Reps K Z ρ st H es ws → Reps K Z ρ st H (ds ++ es) (vs ++ ws)
  | [], es, vs, ws, h, t => by
    simp only [Reps] at h
    subst h
    exact t
  | x :: xs, es, vs, ws, h, t => by
    simp only [Reps] at h
    obtain ⟨v, r, rfl, h2, h3⟩ := h
    exact Reps.cons h2 (Reps.append h3 t)
theorem Reps.take : ∀ {ds : List D} {vs : List V} (n : Nat), Reps K Z ρ st H ds vs → Reps K Z ρ st H (ds.take n) (vs.take n)
  | ds, vs, 0, h => by simp only [List.take_zero]; exact Reps.nil
  | [], vs, n + 1, h => by
    simp only [Reps] at h
    subst h
    simp only [List.take_nil]; exact Reps.nil
  | x :: xs, vs, n + 1, h => by
    simp only [Reps] at h
    obtain ⟨v, r, rfl, h2, h3⟩ := h
    rw [List.take_succ_cons, List.take_succ_cons]
    exact Reps.cons h2 (Reps.take n h3)
theorem Reps.drop : ∀ {ds : List D} {vs : List V} (n : Nat), Reps K Z ρ st H ds vs → Reps K Z ρ st H (ds.drop n) (vs.drop n)
  | ds, vs, 0, h => h
  | [], vs, n + 1, h => by
    simp only [Reps] at h
    subst h
    simp only [List.drop_nil]; exact Reps.nil
  | x :: xs, vs, n + 1, h => by
    simp only [Reps] at h
    obtain ⟨v, r, rfl, h2, h3⟩ := h
    exact Reps.drop n h3
theorem Reps.set : ∀ {ds : List D} {vs : List V} (n : Nat) {d : D} {v : V}, Rep K Z ρ st H d v → Reps K Z ρ st H ds vs → Reps K Z ρ st H (ds.set n d) (vs.set n v)
  | [], vs, n, d, v, hd, h => by
    simp only [Reps] at h
    subst h
    simp only [List.set_nil]; exact Reps.nil
  | x :: xs, vs, 0, d, v, hd, h => by
    simp only [Reps] at h
    obtain ⟨w, r, rfl, h2, h3⟩ := h
    exact Reps.cons hd h3
  | x :: xs, vs, n + 1, d, v, hd, h => by
    simp only [Reps] at h
    obtain ⟨w, r, rfl, h2, h3⟩ := h
    exact Reps.cons h2 (Reps.set n hd h3)
theorem Reps.eraseIdx : ∀ {ds : List D} {vs : List V} (n : Nat), Reps K Z ρ st H ds vs → Reps K Z ρ st H (ds.eraseIdx n) (vs.eraseIdx n)
  | [], vs, n, h => by
    simp only [Reps] at h
    subst h
    simp only [List.eraseIdx_nil]; exact Reps.nil
  | x :: xs, vs, 0, h => by
    simp only [Reps] at h
    obtain ⟨w, r, rfl, h2, h3⟩ := h
    exact h3
  | x :: xs, vs, n + 1, h => by
    simp only [Reps] at h
    obtain ⟨w, r, rfl, h2, h3⟩ := h
    exact Reps.cons h2 (Reps.eraseIdx n h3)
theorem Reps.reverse : ∀ {ds : List D} {vs : List V}, Reps K Z ρ st H ds vs → Reps K Z ρ st H ds.reverse vs.reverse
  | [], vs, h => by
    simp only [Reps] at h
    subst h
    exact Reps.nil
  | x :: xs, vs, h => by
    simp only [Reps] at h
    obtain ⟨w, r, rfl, h2, h3⟩ := h
    rw [List.reverse_cons, List.reverse_cons]
    exact Reps.append (Reps.reverse h3) (Reps.cons h2 Reps.nil)
theorem Reps.rep {ds : List D} {vs : List V} (h : Reps K Z ρ st H ds vs) : ∀ n : Nat, Reps K Z ρ st H (List.replicate n ds).flatten (List.replicate n vs).flatten
  | 0 => Reps.nil
  | n + 1 => by
    rw [List.replicate_succ, List.replicate_succ, List.flatten_cons, List.flatten_cons]
    exact Reps.append h (Reps.rep h n)

/-- all that was tracked stands: for what changes no cell -/
theorem Same.ext (e : Same H H') : Ext ρ st H ρ st H' := ⟨⟨[], (List.append_nil _).symm⟩, fun a o h _ => e a o h, fun a o h => ⟨o, e a o h⟩, fun _ _ _ h => h⟩
theorem Same.fresh {p : Addr} {o : HO} (h : H p = none) : Same H (upd H p o) := fun b u e => by
  rw [upd_ne (ne_of_none e h)]
  exact e
theorem SRep.same (S : SRep K Z ρ st H) (e : Same H H') : SRep K Z ρ st H' := by
  refine ⟨S.len, S.nd, fun z hz => ?_, fun n a c h1 h2 => ?_⟩
  · obtain ⟨o, ho⟩ := S.zd z hz
    exact ⟨o, e _ _ ho⟩
  · obtain ⟨vs, h3, h4, h5, h6⟩ := S.cell n a c h1 h2
    exact ⟨vs, e _ _ h3, h4, Reps.ext S (Same.ext e) _ _ h5, h6⟩
theorem SRep.notZ (S : SRep K Z ρ st H) {p : Addr} (h : H p = none) : p ∉ Z := fun z => by
  obtain ⟨o, ho⟩ := S.zd p z
  rw [h] at ho
  cases ho
theorem SRep.notLive (S : SRep K Z ρ st H) {p : Addr} (h : H p = none) : ¬ LiveA ρ st p := fun l => by
  obtain ⟨o, ho⟩ := S.live_lst l
  rw [h] at ho
  cases ho

/-- a value that may be read as data: a cell too -/
def RdR (K : PySem.W.Frag) (Z ρ : List Addr) (st : Sto) (H : Hp) : D → V → Prop
  | .lst xs, v => ∃ a vs, v = .ref a ∧ H a = some (.lst vs) ∧ Reps K Z ρ st H xs vs ∧ xs.length ≤ sizeLine
  | d, v => Rep K Z ρ st H d v
theorem Rep.rd {d : D} {v : V} (h : Rep K Z ρ st H d v) : RdR K Z ρ st H d v := by
  cases d with
  | lst xs =>
    simp only [Rep] at h
    obtain ⟨a, vs, h1, h2, _, _, h5, h6⟩ := h
    exact ⟨a, vs, h1, h2, h5, h6⟩
  | _ => exact h
/-- a value of the evaluator's -/
def WRep (K : PySem.W.Frag) (Z ρ : List Addr) (st : Sto) (H : Hp) : Wv → V → Prop
  | .val d, v => Rep K Z ρ st H d v
  | .cel n, v => ∃ a, ρ[n]? = some a ∧ v = .ref a
  | .pool xs n, v => ∃ a b c vs, v = .ref a ∧ H a = some (.lst [.ref b, .ref c]) ∧ (a ∉ Z ∧ ¬ LiveA ρ st a) ∧ H b = some (.lst vs) ∧ (b ∉ Z ∧ ¬ LiveA ρ st b) ∧ (Reps K Z ρ st H xs vs ∧ xs.length ≤ sizeLine) ∧ ρ[n]? = some c
  | .scr ns, v => ∃ a, v = .ref a ∧ ((∃ o, H a = some (.frz o (.lst (ns.map V.int)))) ∨ ∃ (o : Obj) (its : Array Value) (n : Nat), K.lookup a = some o ∧ o.cls = .type "list" ∧ o.dict = none ∧ o.data = .seq its n ∧ its.size ≤ sizeLine ∧ Vals (ns.map V.int) its.toList)
theorem Ext.rho (e : Ext ρ st H ρ' st' H') {n : Nat} {a : Addr} (h : ρ[n]? = some a) : ρ'[n]? = some a := by
  obtain ⟨r, e⟩ := e.pre
  rw [e, List.getElem?_append_left (List.getElem?_eq_some_iff.mp h).1]
  exact h
theorem WRep.ext (S : SRep K Z ρ st H) (e : Ext ρ st H ρ' st' H') {w : Wv} {v : V} (h : WRep K Z ρ st H w v) : WRep K Z ρ' st' H' w v := by
  cases w with
  | val d => exact Rep.ext S e d v h
  | cel n =>
    obtain ⟨a, h1, h2⟩ := h
    exact ⟨a, e.rho h1, h2⟩
  | pool xs n =>
    obtain ⟨a, b, c, vs, h1, h2, h3, h4, h5, h6, h7⟩ := h
    exact ⟨a, b, c, vs, h1, e.keep _ _ h2 h3.2, ⟨h3.1, fun l => h3.2 (e.live _ _ h2 l)⟩, e.keep _ _ h4 h5.2, ⟨h5.1, fun l => h5.2 (e.live _ _ h4 l)⟩, ⟨Reps.ext S e _ _ h6.1, h6.2⟩, e.rho h7⟩
  | scr ns =>
    obtain ⟨a, h1, h2⟩ := h
    rcases h2 with ⟨o, h2⟩ | h2
    · exact ⟨a, h1, .inl ⟨o, e.keep _ _ h2 fun l => by
        obtain ⟨ws, q⟩ := S.live_lst l
        rw [h2] at q
        cases q⟩⟩
    · exact ⟨a, h1, .inr h2⟩
theorem Rep.newL (S : SRep K Z ρ st H) {p : Addr} {ds : List D} {vs : List V} (hp : H p = none) (h : Reps K Z ρ st H ds vs) (hz : ds.length ≤ sizeLine) : Rep K Z ρ st (upd H p (.lst vs)) (.lst ds) (.ref p) := by
  simp only [Rep]
  exact ⟨p, vs, rfl, upd_same, S.notZ hp, S.notLive hp, Reps.ext S (Same.ext (Same.fresh hp)) _ _ h, hz⟩
theorem Rep.newT (S : SRep K Z ρ st H) {p : Addr} {ds : List D} {vs : List V} (hp : H p = none) (h : Reps K Z ρ st H ds vs) (hz : ds.length ≤ sizeLine) : Rep K Z ρ st (upd H p (.tup vs)) (.tup ds) (.ref p) := by
  simp only [Rep]
  exact ⟨p, vs, rfl, .inl (.inl upd_same), Reps.ext S (Same.ext (Same.fresh hp)) _ _ h, hz⟩
theorem RdR.tup {xs : List D} {v : V} (h : RdR K Z ρ st H (.tup xs) v) : ∃ a vs, v = .ref a ∧ SqT K H a vs ∧ Reps K Z ρ st H xs vs := by
  simp only [RdR, Rep] at h
  obtain ⟨a, vs, h1, h2, h3, _⟩ := h
  exact ⟨a, vs, h1, h2, h3⟩
theorem RdR.lst {xs : List D} {v : V} (h : RdR K Z ρ st H (.lst xs) v) : ∃ a vs, v = .ref a ∧ H a = some (.lst vs) ∧ Reps K Z ρ st H xs vs := by
  obtain ⟨a, vs, h1, h2, h3, _⟩ := h
  exact ⟨a, vs, h1, h2, h3⟩
theorem RdR.tlen {xs : List D} {v : V} (h : RdR K Z ρ st H (.tup xs) v) : xs.length ≤ sizeLine := by
  simp only [RdR, Rep] at h
  obtain ⟨a, vs, h1, h2, h3, h4⟩ := h
  exact h4
theorem RdR.llen {xs : List D} {v : V} (h : RdR K Z ρ st H (.lst xs) v) : xs.length ≤ sizeLine := by
  obtain ⟨a, vs, h1, h2, h3, h4⟩ := h
  exact h4
theorem RdR.int {i : Int} {v : V} (h : RdR K Z ρ st H (.int i) v) : v = .int i := by simpa only [RdR, Rep] using h
theorem RdR.bl {i : Bool} {v : V} (h : RdR K Z ρ st H (.bl i) v) : v = .bl i := by simpa only [RdR, Rep] using h
theorem RdR.non {v : V} (h : RdR K Z ρ st H .non v) : v = .non := by simpa only [RdR, Rep] using h
theorem RdR.str {x : Str} {v : V} (h : RdR K Z ρ st H (.str x) v) : v = .str x ∧ x.length ≤ sizeLine := by simpa only [RdR, Rep] using h
theorem Rep.int {i : Int} : Rep K Z ρ st H (.int i) (.int i) := by simp only [Rep]
theorem Rep.bl {i : Bool} : Rep K Z ρ st H (.bl i) (.bl i) := by simp only [Rep]
theorem Rep.non : Rep K Z ρ st H .non .non := by simp only [Rep]
theorem Rep.str {x : Str} (h : x.length ≤ sizeLine) : Rep K Z ρ st H (.str x) (.str x) := by
  simp only [Rep]
  exact ⟨trivial, h⟩
theorem Rep.tupI {xs : List D} {a : Addr} {vs : List V} (h : SqT K H a vs) (t : Reps K Z ρ st H xs vs) (hz : xs.length ≤ sizeLine) : Rep K Z ρ st H (.tup xs) (.ref a) := by
  simp only [Rep]
  exact ⟨a, vs, rfl, h, t, hz⟩
end
end L2.Ev
set_option Elab.async false
set_option linter.all false
set_option maxRecDepth 100000
set_option maxHeartbeats 4000000
namespace L2.Ev
open PySem PySem.Spec PyProof.Rows

theorem tuple_mul_same (l : Addr) (items : Array Value) (n : Nat) (dd : Option Addr) (sl : Array (Option Value)) (x : Int) (u : Tok) (c0 : (decide (x < -(2 ^ 63)) || decide (x ≥ 2 ^ 63)) = false) (c1 : (items.isEmpty || x == 1) = true) :
    Meets (Builtin.«tuple.__mul__» ⟨[.ref l, .int x u], []⟩) (fun _ R s => s.heap.get? l = some { cls := .type "tuple", dict := dd, data := .seq items n, slots := sl } ∧
      R (.ok (.ret (Value.ref l))) s) :=
  .of_wp fun prog w A R s h => by
    obtain ⟨hp, g, d, tk, os⟩ := s
    obtain ⟨hl, h⟩ := h
    have f1 := AutoSeq1.idx_int
    wp_walk using wpAny_loadPart' hl
    repeat (first
      | (refine wpAny_ite_false (decide_eq_false (by rw [c0]; exact Bool.false_ne_true)) ?_; wp_walk using wpAny_loadPart' hl)
      | (refine wpAny_ite_true (decide_eq_true c1) ?_; wp_walk using wpAny_loadPart' hl))
    exact ⟨_, rfl, h⟩
theorem tuple_mul_none (l : Addr) (items : Array Value) (n : Nat) (dd : Option Addr) (sl : Array (Option Value)) (x : Int) (u : Tok) (c0 : (decide (x < -(2 ^ 63)) || decide (x ≥ 2 ^ 63)) = false) (c1 : (items.isEmpty || x == 1) = false) (c2 : (decide (x ≤ 0) || items.isEmpty) = true) :
    Meets (Builtin.«tuple.__mul__» ⟨[.ref l, .int x u], []⟩) (fun _ R s => s.heap.get? l = some { cls := .type "tuple", dict := dd, data := .seq items n, slots := sl } ∧
      R (.ok (.ret (Value.ref s.heap.objs.size))) { s with heap := s.heap.push { cls := Value.type "tuple", data := Data.seq #[] }, toks := s.toks }) :=
  .of_wp fun prog w A R s h => by
    obtain ⟨hp, g, d, tk, os⟩ := s
    obtain ⟨hl, h⟩ := h
    have f1 := AutoSeq1.idx_int
    wp_walk using wpAny_loadPart' hl
    repeat (first
      | (refine wpAny_ite_false (decide_eq_false (by rw [c0]; exact Bool.false_ne_true)) ?_; wp_walk using wpAny_loadPart' hl)
      | (refine wpAny_ite_false (decide_eq_false (by rw [c1]; exact Bool.false_ne_true)) ?_; wp_walk using wpAny_loadPart' hl)
      | (refine wpAny_ite_true (decide_eq_true c2) ?_; wp_walk using wpAny_loadPart' hl))
    exact ⟨_, rfl, h⟩
/-! ### operators on data -/
/-- a look that is stuck, not long, where the number is not known -/
def sm (i : Int) (n : Nat) : Bool := Nat.ble (i.natAbs + 1) n
theorem sm_iff {i : Int} {n : Nat} : sm i n = true ↔ i.natAbs < n := by
  unfold sm
  rw [Nat.ble_eq]
  exact Iff.rfl
def mulOk (i j : Int) : Bool := sm i 18446744073709551616 || sm j 18446744073709551616
def szOk (n : Nat) : Bool := Nat.ble n 16777216
theorem szOk_of {n : Nat} (h : szOk n = true) : n ≤ sizeLine := by
  have h' : n ≤ 16777216 := Nat.le_of_ble_eq_true h
  rw [sizeLine_eq]
  exact h'

def addD : D → D → Option D
  | .int i, .int j => some (.int (i + j))
  | .str x, .str y => if szOk (x.length + y.length) then some (.str (x ++ y)) else none
  | .tup xs, .tup ys => if szOk (xs.length + ys.length) then some (.tup (xs ++ ys)) else none
  | .lst xs, .lst ys => if szOk (xs.length + ys.length) then some (.lst (xs ++ ys)) else none
  | _, _ => none
def subD : D → D → Option D
  | .int i, .int j => some (.int (i - j))
  | _, _ => none
def repOk (k : Int) (n : Nat) : Bool := decide (0 ≤ k) && sm k 1001 && Nat.ble n 1000
def mulD : D → D → Option D
  | .int i, .int j => if mulOk i j then some (.int (i * j)) else none
  | .tup xs, .int k => if repOk k xs.length then some (.tup (List.replicate k.toNat xs).flatten) else none
  | .lst xs, .int k => if repOk k xs.length then some (.lst (List.replicate k.toNat xs).flatten) else none
  | _, _ => none
def fdivD : D → D → Option D
  | .int i, .int j => if decide (0 < j) && sm j 1073741824 then some (.int (i / j)) else none
  | _, _ => none
def modD : D → D → Option D
  | .int i, .int j => if decide (0 < j) then some (.int (i % j)) else none
  | _, _ => none
def powOk (i j : Int) : Bool := decide (0 ≤ j) && sm j 1001 && sm i 18446744073709551616
def powD : D → D → Option D
  | .int i, .int j => if powOk i j then some (.int (i ^ j.toNat)) else none
  | _, _ => none
def shlD : D → D → Option D
  | .int i, .int j => if powOk i j then some (.int (i * 2 ^ j.toNat)) else none
  | _, _ => none
def shrD : D → D → Option D
  | .int i, .int j => if decide (0 ≤ j) then some (.int (i / 2 ^ j.toNat)) else none
  | _, _ => none
def bandD : D → D → Option D
  | .int i, .int j => some (.int (Builtin.bitAnd i j))
  | _, _ => none
def binD : Operator → D → D → Option D
  | .Add => addD | .Sub => subD | .Mult => mulD | .FloorDiv => fdivD | .Mod => modD | .Pow => powD | .LShift => shlD | .RShift => shrD | .BitAnd => bandD
  | _ => fun _ _ => none
def negD : D → Option D
  | .int i => some (.int (-i))
  | _ => none

/-- what is read is data; what comes is data, and all else stands -/
def rD2 (K : PySem.W.Frag) (f : D → D → Option D) : R2 := fun x y H Q => ∃ Z ρ st a b d, SRep K Z ρ st H ∧ RdR K Z ρ st H a x ∧ RdR K Z ρ st H b y ∧ f a b = some d ∧ ∀ v H', Same H H' → Rep K Z ρ st H' d v → Q v H'
def rD1 (K : PySem.W.Frag) (f : D → Option D) : V → Hp → VK → Prop := fun x H Q => ∃ Z ρ st a d, SRep K Z ρ st H ∧ RdR K Z ρ st H a x ∧ f a = some d ∧ ∀ v H', Same H H' → Rep K Z ρ st H' d v → Q v H'
theorem OpR.imp {X : Cx} {f : Value → Value → Sem Value} {r r' : R2} (h : OpR X f r) (i : ∀ x y H Q, r' x y H Q → r x y H Q) : OpR X f r' := fun pins s σ H x y v u Q I rx ry q => h pins s σ H x y v u Q I rx ry (i x y H Q q)

section
variable {X : Cx}
theorem rep_edge {l : Addr} {xs : List V} {k : Int} {t : Tok} {pins : List (Addr × Obj)} {s : Shared} {σ : St} {H : Hp} {Q : VK} (I : Inv X pins σ H s) (hT : SqT X.K H l xs) (h0 : 0 ≤ k) (h1 : k ≤ 1000)
    (he : k ≤ 1 ∨ xs = []) (q1 : k = 1 ∨ xs = [] → Q (.ref l) H) (q0 : k = 0 → ∀ p, H p = none → Q (.ref p) (upd H p (.tup []))) :
    wpAny (model X.prog X.w) X.A (binaryOp .Mult (.ref l) (.int k t)) (EP X pins σ Q) X.xe s := by
  obtain ⟨its, r, ⟨⟨cls, dd, data, sl⟩, ho, hc, n, hd⟩, hs⟩ := I.tuple hT
  simp only at hc hd
  subst hc hd
  have hle : its.length = xs.length := r.length.symm
  have hi : its.toArray.isEmpty = xs.isEmpty := by
    cases its with
    | nil => cases xs with
      | nil => rfl
      | cons a b => cases hle
    | cons a b => cases xs with
      | nil => cases hle
      | cons a b => rfl
  have c0 : (decide (k < -(2 ^ 63)) || decide (k ≥ 2 ^ 63)) = false := by
    rw [decide_eq_false (by omega), decide_eq_false (by omega)] <;> rfl
  by_cases hs1 : (its.toArray.isEmpty || k == 1) = true
  · refine wpAny_binaryOp_repeat_ref (T := "tuple") (U := "int") (by decide) ⟨_, ho, rfl⟩ (fun s' => typeIs_int s' k t) noFill_tuple_mul F.fills_int_mul F.slot_int_rmul repeat_tuple F.slot_int_index.lookup
      (call_meets F.slot_int_rmul (typeIs_int s k t) F.entry_int_rmul (F.args_int_rmul_2 _ _) (int_rmul_tuple k t l its.toArray n dd sl)
        ⟨ho, rfl, ⟨_, ho, rfl⟩, call_meets F.slot_tuple_mul ⟨_, ho, rfl⟩ F.entry_tuple_mul (F.args_tuple_mul_2 _ _) (tuple_mul_same l its.toArray n dd sl k t c0 hs1) ⟨ho, ?_⟩⟩)
    refine ⟨.ref l, H, I, rfl, q1 ?_⟩
    rw [hi] at hs1
    rcases (Bool.or_eq_true _ _).mp hs1 with z | z
    · exact .inr (List.isEmpty_iff.mp z)
    · exact .inl (by simpa using z)
  · have hs2 : (its.toArray.isEmpty || k == 1) = false := by simpa using hs1
    have hk : k = 0 := by
      rw [hi] at hs2
      have := (Bool.or_eq_false_iff.mp hs2)
      rcases he with z | z
      · have : k ≠ 1 := by simpa using this.2
        omega
      · rw [z] at this
        cases this.1
    have c2 : (decide (k ≤ 0) || its.toArray.isEmpty) = true := by rw [decide_eq_true (by omega)]; rfl
    refine wpAny_binaryOp_repeat_ref (T := "tuple") (U := "int") (by decide) ⟨_, ho, rfl⟩ (fun s' => typeIs_int s' k t) noFill_tuple_mul F.fills_int_mul F.slot_int_rmul repeat_tuple F.slot_int_index.lookup
      (call_meets F.slot_int_rmul (typeIs_int s k t) F.entry_int_rmul (F.args_int_rmul_2 _ _) (int_rmul_tuple k t l its.toArray n dd sl)
        ⟨ho, rfl, ⟨_, ho, rfl⟩, call_meets F.slot_tuple_mul ⟨_, ho, rfl⟩ F.entry_tuple_mul (F.args_tuple_mul_2 _ _) (tuple_mul_none l its.toArray n dd sl k t c0 hs2 c2) ⟨ho, ?_⟩⟩)
    refine ⟨.ref s.heap.objs.size, _, I.laid (t' := s.toks) (o := .tup []) (fun b ob q => Heap.get?_push_of_some _ q) (Nat.le_refl _) ?_, rfl, q0 hk _ (I.hok.fresh (Nat.le_refl _))⟩
    exact ⟨Nat.zero_le _, [], .nil, IsTup.new _ _⟩
theorem rep_len {xs : List D} {k : Int} (hl : xs.length ≤ 1000) (k1 : k ≤ 1000) : (List.replicate k.toNat xs).flatten.length ≤ sizeLine := by
  rw [PyProof.Rows.lm_len_rep_flat, sizeLine_eq]
  have a1 : k.toNat * xs.length ≤ 1000 * 1000 := Nat.mul_le_mul (by omega) hl
  omega
theorem str_app_len (x y : Str) : (x ++ y).length = x.length + y.length := by
  show (x.cps ++ y.cps).size = _
  rw [Array.size_append]
  rfl
theorem op_addD : OpR X (binaryOp .Add) (rD2 X.K addD) := by
  intro pins s σ H x y v u Q I rx ry ⟨Z, ρ, st, a, b, d, S, ra, rb, e, q⟩
  unfold addD at e
  split at e
  · cases e
    obtain rfl := ra.int
    obtain rfl := rb.int
    exact op_add pins s σ H _ _ v u Q I rx ry ⟨_, _, rfl, rfl, q _ _ (Same.refl H) Rep.int⟩
  · split at e
    · rename_i h
      cases e
      obtain ⟨rfl, h1⟩ := ra.str
      obtain ⟨rfl, h2⟩ := rb.str
      have h3 := szOk_of h
      exact op_add_str pins s σ H _ _ v u Q I rx ry ⟨_, _, rfl, rfl, h3, q _ _ (Same.refl H) (Rep.str (by rw [str_app_len]; exact h3))⟩
    · cases e
  · split at e
    · rename_i h
      cases e
      obtain ⟨a, vs, rfl, h1, h2⟩ := ra.tup
      obtain ⟨b, ws, rfl, h3, h4⟩ := rb.tup
      have hz : vs.length + ws.length ≤ sizeLine := by
        rw [h2.length, h4.length]
        exact szOk_of h
      refine op_catA pins s σ H _ _ v u Q I rx ry ⟨a, b, vs, ws, rfl, rfl, h1, h3, hz, fun e0 => ?_, fun _ e1 => ?_, fun _ _ p hp => ?_⟩
      · subst e0
        exact q _ _ (Same.refl H) (Rep.tupI (a := b) (vs := ws) h3 (h2.append h4) (by rw [List.length_append]; exact szOk_of h))
      · subst e1
        exact q _ _ (Same.refl H) (Rep.tupI (a := a) (vs := vs) h1 (by simpa using h2.append h4) (by rw [List.length_append]; exact szOk_of h))
      · exact q _ _ (Same.fresh hp) (Rep.newT S hp (h2.append h4) (by rw [List.length_append]; exact szOk_of h))
    · cases e
  · split at e
    · rename_i h
      cases e
      obtain ⟨a, vs, rfl, h1, h2⟩ := ra.lst
      obtain ⟨b, ws, rfl, h3, h4⟩ := rb.lst
      have hz : vs.length + ws.length ≤ sizeLine := by
        rw [h2.length, h4.length]
        exact szOk_of h
      exact op_cat pins s σ H _ _ v u Q I rx ry ⟨a, b, vs, ws, rfl, rfl, h1, h3, hz, fun p hp => q _ _ (Same.fresh hp) (Rep.newL S hp (h2.append h4) (by rw [List.length_append]; exact szOk_of h))⟩
    · cases e
  · cases e
/-- an operator of two ints -/
theorem op_ints {f : Value → Value → Sem Value} {C : Int → Int → Prop} {g : Int → Int → Int} {h : D → D → Option D} (o : OpR X f (rI C fun i j => .int (g i j)))
    (hh : ∀ a b d, h a b = some d → ∃ i j, a = .int i ∧ b = .int j ∧ C i j ∧ d = .int (g i j)) : OpR X f (rD2 X.K h) := by
  intro pins s σ H x y v u Q I rx ry ⟨Z, ρ, st, a, b, d, S, ra, rb, e, q⟩
  obtain ⟨i, j, rfl, rfl, hc, rfl⟩ := hh _ _ _ e
  obtain rfl := ra.int
  obtain rfl := rb.int
  exact o pins s σ H _ _ v u Q I rx ry ⟨i, j, rfl, rfl, hc, q _ _ (Same.refl H) Rep.int⟩
theorem op_ints0 {f : Value → Value → Sem Value} {g : Int → Int → Int} {h : D → D → Option D} (o : OpR X f (rI0 fun i j => .int (g i j)))
    (hh : ∀ a b d, h a b = some d → ∃ i j, a = .int i ∧ b = .int j ∧ d = .int (g i j)) : OpR X f (rD2 X.K h) := by
  intro pins s σ H x y v u Q I rx ry ⟨Z, ρ, st, a, b, d, S, ra, rb, e, q⟩
  obtain ⟨i, j, rfl, rfl, rfl⟩ := hh _ _ _ e
  obtain rfl := ra.int
  obtain rfl := rb.int
  exact o pins s σ H _ _ v u Q I rx ry ⟨i, j, rfl, rfl, q _ _ (Same.refl H) Rep.int⟩
theorem op_subD : OpR X (binaryOp .Sub) (rD2 X.K subD) := op_ints0 op_sub fun a b d e => by
  unfold subD at e
  split at e
  · cases e; exact ⟨_, _, rfl, rfl, rfl⟩
  · cases e
theorem op_bandD : OpR X (binaryOp .BitAnd) (rD2 X.K bandD) := op_ints0 op_and fun a b d e => by
  unfold bandD at e
  split at e
  · cases e; exact ⟨_, _, rfl, rfl, rfl⟩
  · cases e
theorem op_fdivD : OpR X (binaryOp .FloorDiv) (rD2 X.K fdivD) := op_ints op_fdiv fun a b d e => by
  unfold fdivD at e
  split at e
  · split at e
    · rename_i h
      cases e
      simp only [Bool.and_eq_true, decide_eq_true_eq, sm_iff] at h
      exact ⟨_, _, rfl, rfl, ⟨h.1, by omega⟩, rfl⟩
    · cases e
  · cases e
theorem op_modD : OpR X (binaryOp .Mod) (rD2 X.K modD) := op_ints op_mod fun a b d e => by
  unfold modD at e
  split at e
  · split at e
    · rename_i h
      cases e
      exact ⟨_, _, rfl, rfl, of_decide_eq_true h, rfl⟩
    · cases e
  · cases e
theorem powOk_of {i j : Int} (h : powOk i j = true) : CPow i j := by
  unfold powOk at h
  simp only [Bool.and_eq_true, decide_eq_true_eq, sm_iff] at h
  exact ⟨h.1.1, by omega, by omega⟩
theorem op_powD : OpR X (binaryOp .Pow) (rD2 X.K powD) := op_ints op_pow fun a b d e => by
  unfold powD at e
  split at e
  · split at e
    · rename_i h
      cases e
      exact ⟨_, _, rfl, rfl, powOk_of h, rfl⟩
    · cases e
  · cases e
theorem op_shlD : OpR X (binaryOp .LShift) (rD2 X.K shlD) := op_ints op_shl fun a b d e => by
  unfold shlD at e
  split at e
  · split at e
    · rename_i h
      cases e
      exact ⟨_, _, rfl, rfl, powOk_of h, rfl⟩
    · cases e
  · cases e
theorem op_shrD : OpR X (binaryOp .RShift) (rD2 X.K shrD) := op_ints op_shr fun a b d e => by
  unfold shrD at e
  split at e
  · split at e
    · rename_i h
      cases e
      exact ⟨_, _, rfl, rfl, of_decide_eq_true h, rfl⟩
    · cases e
  · cases e
theorem op_mulD : OpR X (binaryOp .Mult) (rD2 X.K mulD) := by
  intro pins s σ H x y v u Q I rx ry ⟨Z, ρ, st, a, b, d, S, ra, rb, e, q⟩
  unfold mulD at e
  split at e
  · rename_i i j
    split at e
    · rename_i h
      cases e
      obtain rfl := ra.int
      obtain rfl := rb.int
      unfold mulOk at h
      simp only [Bool.or_eq_true, sm_iff] at h
      have h' : (-(2 ^ 64) < i ∧ i < 2 ^ 64) ∨ (-(2 ^ 64) < j ∧ j < 2 ^ 64) := by
        rcases h with h | h
        · exact .inl ⟨by omega, by omega⟩
        · exact .inr ⟨by omega, by omega⟩
      exact op_mul pins s σ H _ _ v u Q I rx ry ⟨_, _, rfl, rfl, h', q _ _ (Same.refl H) Rep.int⟩
    · cases e
  · rename_i xs k
    split at e
    · rename_i h
      cases e
      obtain ⟨a, vs, rfl, h1, h2⟩ := ra.tup
      obtain rfl := rb.int
      unfold repOk at h
      simp only [Bool.and_eq_true, decide_eq_true_eq, sm_iff] at h
      obtain ⟨⟨k0, k1'⟩, hl⟩ := h
      have k1 : k ≤ 1000 := by omega
      have hl := Nat.le_of_ble_eq_true hl
      have hz := rep_len (k := k) hl k1
      rw [← h2.length] at hl
      by_cases hc : k ≤ 1 ∨ vs = []
      · cases rx
        obtain ⟨t, rfl⟩ := ry
        refine rep_edge I h1 k0 k1 hc (fun z => q _ _ (Same.refl H) (Rep.tupI h1 ?_ hz)) fun z p hp => q _ _ (Same.fresh hp) ?_
        · rcases z with rfl | rfl
          · simpa using h2
          · have := h2.rep k.toNat
            simpa using this
        · subst z
          exact Rep.newT S hp Reps.nil (Nat.zero_le _)
      · refine op_repT pins s σ H _ _ v u Q I rx ry ⟨a, k, vs, rfl, rfl, h1, fun z => hc (.inr z), by omega, k1, hl, fun p hp => q _ _ (Same.fresh hp) (Rep.newT S hp (h2.rep _) hz)⟩
    · cases e
  · rename_i xs k
    split at e
    · rename_i h
      cases e
      obtain ⟨a, vs, rfl, h1, h2⟩ := ra.lst
      obtain rfl := rb.int
      unfold repOk at h
      simp only [Bool.and_eq_true, decide_eq_true_eq, sm_iff] at h
      obtain ⟨⟨k0, k1'⟩, hl⟩ := h
      have k1 : k ≤ 1000 := by omega
      have hl := Nat.le_of_ble_eq_true hl
      have hz := rep_len (k := k) hl k1
      rw [← h2.length] at hl
      refine op_rep pins s σ H _ _ v u Q I rx ry ⟨a, k, vs, rfl, rfl, h1, by omega, by omega, ?_, fun p hp => q _ _ (Same.fresh hp) (Rep.newL S hp (h2.rep _) hz)⟩
      rw [sizeLine_eq]
      have a1 : vs.length * k.toNat ≤ 1000 * 1000 := Nat.mul_le_mul hl (by omega)
      omega
    · cases e
  · cases e
theorem op_none {f : Value → Value → Sem Value} : OpR X f (rD2 X.K fun _ _ => none) := by
  intro pins s σ H x y v u Q I rx ry ⟨Z, ρ, st, a, b, d, S, ra, rb, e, q⟩
  cases e
theorem op_binD : ∀ op : Operator, OpR X (binaryOp op) (rD2 X.K (binD op))
  | .Add => op_addD | .Sub => op_subD | .Mult => op_mulD | .FloorDiv => op_fdivD | .Mod => op_modD | .Pow => op_powD | .LShift => op_shlD | .RShift => op_shrD | .BitAnd => op_bandD
  | .MatMult => op_none | .Div => op_none | .BitOr => op_none | .BitXor => op_none
theorem un_negD : UnR X (unaryOp .USub) (rD1 X.K negD) := by
  intro pins s σ H x v Q I rx ⟨Z, ρ, st, a, d, S, ra, e, q⟩
  unfold negD at e
  split at e
  · cases e
    obtain rfl := ra.int
    exact un_neg pins s σ H _ v Q I rx ⟨_, rfl, q _ _ (Same.refl H) Rep.int⟩
  · cases e
end
end L2.Ev
set_option Elab.async false
set_option linter.all false
set_option maxRecDepth 100000
set_option maxHeartbeats 4000000
namespace L2.Ev
open PySem PySem.Spec PyProof.Rows

/-! ### == -/
def eqsBy (f : D → D → Option Bool) : List D → List D → Option Bool
  | [], [] => some true
  | [], _ :: _ => some false
  | _ :: _, [] => some false
  | x :: xs, y :: ys => (f x y).bind fun b => (eqsBy f xs ys).bind fun c => some (b && c)
def eqF : Nat → D → D → Option Bool
  | _, .non, .non => some true
  | _, .bl a, .bl b => some (a == b)
  | _, .bl a, .int j => some ((if a then 1 else 0) == j)
  | _, .int i, .bl b => some (i == (if b then 1 else 0))
  | _, .int i, .int j => some (i == j)
  | _, .str x, .str y => some (x == y)
  | n + 1, .tup xs, .tup ys => eqsBy (eqF n) xs ys
  | 0, .tup _, .tup _ => none
  | n + 1, .lst xs, .lst ys => if xs.length = ys.length then eqsBy (eqF n) xs ys else some false
  | 0, .lst _, .lst _ => none
  | _, _, _ => some false

section
variable {K : PySem.W.Frag} {Z ρ : List Addr} {st : Sto} {H : Hp}
/-- what a value is read as is one -/
theorem V.ref_inj {a b : Addr} (h : V.ref a = V.ref b) : a = b := V.ref.inj h
end

section
variable {X : Cx} {pins : List (Addr × Obj)} {σ : St} {H : Hp} {s : Shared} {Z ρ : List Addr} {st : Sto}
/-- reading, hereditary (nothing asked of what is live) -/
inductive Kd | s | t | l
def kd : D → Kd
  | .tup _ => .t
  | .lst _ => .l
  | _ => .s
/-- the readable value in the machine's heap -/
theorem rd_tup (I : Inv X pins σ H s) {xs : List D} {x : V} {u : Value} (r : RelV x u) (h : RdR X.K Z ρ st H (.tup xs) x) :
    ∃ a vs its, x = .ref a ∧ u = .ref a ∧ SqT X.K H a vs ∧ Reps X.K Z ρ st H xs vs ∧ Vals vs its ∧ IsTup s.heap a its.toArray := by
  obtain ⟨a, vs, rfl, h1, h2⟩ := h.tup
  obtain ⟨its, rv, p, _⟩ := I.tuple h1
  exact ⟨a, vs, its, rfl, r, h1, h2, rv, p⟩
theorem rd_lst (I : Inv X pins σ H s) {xs : List D} {x : V} {u : Value} (r : RelV x u) (h : RdR X.K Z ρ st H (.lst xs) x) :
    ∃ a vs its, x = .ref a ∧ u = .ref a ∧ H a = some (.lst vs) ∧ Reps X.K Z ρ st H xs vs ∧ Vals vs its ∧ PlainL s.heap a its.toArray := by
  obtain ⟨a, vs, rfl, h1, h2⟩ := h.lst
  obtain ⟨its, rv, p, _⟩ := I.list (SqL.of h1)
  exact ⟨a, vs, its, rfl, r, h1, h2, rv, p⟩
theorem no_both (I : Inv X pins σ H s) {a : Addr} {xs ys : List V} (h : H a = some (.lst xs)) (h' : SqT X.K H a ys) : False := by
  obtain ⟨its, _, ⟨o, n, e, c, _⟩, _⟩ := I.list (SqL.of h)
  obtain ⟨its', _, ⟨o', e', c', _⟩, _⟩ := I.tuple h'
  rw [e] at e'
  cases e'
  rw [c] at c'
  exact absurd c' (by decide +kernel)
mutual
/-- a value is read as one datum -/
theorem Rep.inj (I : Inv X pins σ H s) : ∀ (d e : D) (v : V), Rep X.K Z ρ st H d v → Rep X.K Z ρ st H e v → d = e
  | .non, e, v, h, h' => by
    simp only [Rep] at h
    subst h
    cases e <;> simp [Rep] at h' ⊢
  | .bl b, e, v, h, h' => by
    simp only [Rep] at h
    subst h
    cases e <;> simp [Rep] at h' ⊢
    exact h'
  | .int b, e, v, h, h' => by
    simp only [Rep] at h
    subst h
    cases e <;> simp [Rep] at h' ⊢
    exact h'
  | .str b, e, v, h, h' => by
    simp only [Rep] at h
    obtain ⟨rfl, _⟩ := h
    cases e <;> simp [Rep] at h' ⊢
    exact h'.1
  | .tup xs, e, v, h, h' => by
    simp only [Rep] at h
    obtain ⟨a, vs, rfl, h1, h2, _⟩ := h
    cases e with
    | tup ys =>
      simp only [Rep] at h'
      obtain ⟨b, ws, e, h3, h4, _⟩ := h'
      cases V.ref_inj e
      rw [I.tuple_inj h1 h3] at h2
      rw [Reps.inj I xs ys ws h2 h4]
    | lst ys =>
      simp only [Rep] at h'
      obtain ⟨b, ws, e, h3, _⟩ := h'
      cases V.ref_inj e
      exact (no_both I h3 h1).elim
    | _ => simp [Rep] at h'
  | .lst xs, e, v, h, h' => by
    simp only [Rep] at h
    obtain ⟨a, vs, rfl, h1, _, _, h2, _⟩ := h
    cases e with
    | lst ys =>
      simp only [Rep] at h'
      obtain ⟨b, ws, e, h3, _, _, h4, _⟩ := h'
      cases V.ref_inj e
      rw [I.list_inj (SqL.of h1) (SqL.of h3)] at h2
      rw [Reps.inj I xs ys ws h2 h4]
    | tup ys =>
      simp only [Rep] at h'
      obtain ⟨b, ws, e, h3, _⟩ := h'
      cases V.ref_inj e
      exact (no_both I h1 h3).elim
    | _ => simp [Rep] at h'
theorem Reps.inj (I : Inv X pins σ H s) : ∀ (ds es : List D) (vs : List V), Reps X.K Z ρ st H ds vs → Reps X.K Z ρ st H es vs → ds = es
  | [], es, vs, h, h' => by
    simp only [Reps] at h
    subst h
    cases es with
    | nil => rfl
    | cons y ys => simp [Reps] at h'
  | x :: xs, es, vs, h, h' => by
    simp only [Reps] at h
    obtain ⟨v, r, rfl, h2, h3⟩ := h
    cases es with
    | nil => simp [Reps] at h'
    | cons y ys =>
      simp only [Reps] at h'
      obtain ⟨v', r', e, h4, h5⟩ := h'
      cases e
      rw [Rep.inj I x y v h2 h4, Reps.inj I xs ys r h3 h5]
end
theorem RdR.inj (I : Inv X pins σ H s) {d e : D} {v : V} (h : RdR X.K Z ρ st H d v) (h' : RdR X.K Z ρ st H e v) : d = e := by
  cases d with
  | lst xs =>
    obtain ⟨a, vs, rfl, h1, h2⟩ := h.lst
    cases e with
    | lst ys =>
      obtain ⟨b, ws, e, h3, h4⟩ := h'.lst
      cases V.ref_inj e
      rw [I.list_inj (SqL.of h1) (SqL.of h3)] at h2
      rw [Reps.inj I xs ys ws h2 h4]
    | tup ys =>
      obtain ⟨b, ws, e, h3, _⟩ := h'.tup
      cases V.ref_inj e
      exact (no_both I h1 h3).elim
    | _ => simp [RdR, Rep] at h'
  | tup xs =>
    cases e with
    | lst ys =>
      obtain ⟨a, vs, rfl, h1, h2⟩ := h.tup
      obtain ⟨b, ws, e, h3, _⟩ := h'
      cases V.ref_inj e
      exact (no_both I h3 h1).elim
    | _ => exact Rep.inj (Z := Z) (ρ := ρ) (st := st) I _ _ _ h h'
  | _ =>
    cases e with
    | lst ys =>
      obtain ⟨b, ws, rfl, h3, _⟩ := h'
      simp [RdR, Rep] at h
    | _ => exact Rep.inj (Z := Z) (ρ := ρ) (st := st) I _ _ _ h h'
end

theorem eqsBy_same {f : D → D → Option Bool} (hf : ∀ x b, f x x = some b → b = true) : ∀ {xs : List D} {b : Bool}, eqsBy f xs xs = some b → b = true
  | [], b, h => by
    simp only [eqsBy] at h
    cases h
    rfl
  | x :: xs, b, h => by
    simp only [eqsBy] at h
    cases h1 : f x x with
    | none => rw [h1] at h; cases h
    | some c =>
      rw [h1] at h
      cases h2 : eqsBy f xs xs with
      | none => rw [h2] at h; cases h
      | some c' =>
        rw [h2] at h
        have e := Option.some.inj h
        rw [hf x c h1, eqsBy_same hf h2] at e
        exact e.symm
theorem eqF_same : ∀ (n : Nat) (x : D) (b : Bool), eqF n x x = some b → b = true
  | n, .non, b, h => by
    cases n <;> simp [eqF] at h <;> exact h
  | n, .bl c, b, h => by
    cases n <;> simp [eqF] at h <;> exact h
  | n, .int c, b, h => by
    cases n <;> simp [eqF] at h <;> exact h
  | n, .str c, b, h => by
    cases n <;> simp [eqF] at h <;> exact h
  | 0, .tup xs, b, h => by simp [eqF] at h
  | 0, .lst xs, b, h => by simp [eqF] at h
  | n + 1, .tup xs, b, h => by
    simp only [eqF] at h
    exact eqsBy_same (eqF_same n) h
  | n + 1, .lst xs, b, h => by
    simp only [eqF, if_true] at h
    exact eqsBy_same (eqF_same n) h

def atE (f : D → D → Option Bool) (xs ys : List D) (j : Nat) : Bool :=
  match xs[j]?, ys[j]? with
  | some x, some y => (f x y).getD false
  | _, _ => false
theorem eqsBy_all {f : D → D → Option Bool} : ∀ {xs ys : List D} {b : Bool}, eqsBy f xs ys = some b →
    b = ((List.range (min xs.length ys.length)).all (atE f xs ys) && xs.length == ys.length) ∧ ∀ (j : Nat) (x y : D), xs[j]? = some x → ys[j]? = some y → ∃ c, f x y = some c
  | [], [], b, h => by
    simp only [eqsBy] at h
    cases h
    exact ⟨rfl, fun j x y e => by simp at e⟩
  | [], _ :: _, b, h => by
    simp only [eqsBy] at h
    cases h
    exact ⟨by simp, fun j x y e => by simp at e⟩
  | _ :: _, [], b, h => by
    simp only [eqsBy] at h
    cases h
    exact ⟨by simp, fun j x y _ e => by simp at e⟩
  | x :: xs, y :: ys, b, h => by
    simp only [eqsBy] at h
    cases h1 : f x y with
    | none => rw [h1] at h; cases h
    | some c =>
      rw [h1] at h
      cases h2 : eqsBy f xs ys with
      | none => rw [h2] at h; cases h
      | some c' =>
        rw [h2] at h
        have e := Option.some.inj h
        obtain ⟨e1, e2⟩ := eqsBy_all h2
        refine ⟨?_, fun j z w h3 h4 => ?_⟩
        · rw [← e, e1, List.length_cons, List.length_cons, show min (xs.length + 1) (ys.length + 1) = min xs.length ys.length + 1 by omega, List.range_succ_eq_map, List.all_cons, List.all_map]
          have g0 : atE f (x :: xs) (y :: ys) 0 = c := by
            show (f x y).getD false = c
            rw [h1]
            rfl
          have gs : (atE f (x :: xs) (y :: ys) ∘ Nat.succ) = atE f xs ys := by
            funext j
            rfl
          rw [g0, gs, Bool.and_assoc]
          congr 1
          congr 1
          rw [Bool.eq_iff_iff]
          simp
        · cases j with
          | zero =>
            simp at h3 h4
            subst h3 h4
            exact ⟨c, h1⟩
          | succ j => exact e2 j z w (by simpa using h3) (by simpa using h4)

section
variable {X : Cx} {pins : List (Addr × Obj)} {σ : St} {H : Hp} {s : Shared} {Z ρ : List Addr} {st : Sto}
theorem in1_units {A : Around} {n : Nat} (h : A.units + (n + 1) < cLine) : A.in1.units + n < cLine := by
  show A.units + 1 + n < cLine
  omega
theorem seq_eq {A : Around} {a b : Addr} {k : Bool} (hs : a = b → k = true) (R : SeqAt.RcAt A s (.ref a) (.ref b) k) : SeqAt.EqAt A s (.ref a) (.ref b) k := by
  by_cases z : a = b
  · rw [hs z, z]
    exact .same _
  · exact .of_refs z R
theorem seq_at (I : Inv X pins σ H s) {n : Nat} {A : Around}
    (ih : ∀ (A : Around) (x y : D) (v w : V) (u t : Value) (b : Bool), A.units + n < cLine → RelV v u → RelV w t → RdR X.K Z ρ st H x v → RdR X.K Z ρ st H y w → eqF n x y = some b →
      SeqAt.EqAt A s u t b ∧ SeqAt.RcAt A s u t b ∧ SeqAt.RcNeAt A s u t (!b)) (hun : A.units + (n + 1) < cLine)
    {xs ys : List D} {vs ws : List V} {its its2 : List Value} (h1 : Reps X.K Z ρ st H xs vs) (h2 : Reps X.K Z ρ st H ys ws) (r1 : Vals vs its) (r2 : Vals ws its2) {b : Bool} (e : eqsBy (eqF n) xs ys = some b) :
    b = ((List.range (min xs.length ys.length)).all (atE (eqF n) xs ys) && xs.length == ys.length) ∧
    ∀ j (g1 : j < its.toArray.size) (g2 : j < its2.toArray.size), SeqAt.EqAt A.in1 s its.toArray[j] its2.toArray[j] (atE (eqF n) xs ys j) := by
  obtain ⟨e1, e2⟩ := eqsBy_all e
  refine ⟨e1, fun j g1 g2 => ?_⟩
  have l1 := r1.length
  have l2 := r2.length
  have l3 := h1.length
  have l4 := h2.length
  rw [List.size_toArray] at g1 g2
  have hj1 : j < xs.length := by omega
  have hj2 : j < ys.length := by omega
  obtain ⟨v, hv, rv⟩ := h1.get (List.getElem?_eq_getElem hj1)
  obtain ⟨w, hw, rw'⟩ := h2.get (List.getElem?_eq_getElem hj2)
  obtain ⟨u, hu, ru⟩ := r1.get hv
  obtain ⟨t, ht, rt⟩ := r2.get hw
  obtain ⟨c, hc⟩ := e2 j _ _ (List.getElem?_eq_getElem hj1) (List.getElem?_eq_getElem hj2)
  have q := (ih A.in1 _ _ v w u t c (in1_units hun) ru rt rv.rd rw'.rd hc).1
  have ee : atE (eqF n) xs ys j = c := by
    unfold atE
    rw [List.getElem?_eq_getElem hj1, List.getElem?_eq_getElem hj2]
    show (eqF n xs[j] ys[j]).getD false = c
    rw [hc]
    rfl
  rw [ee]
  have eu : its.toArray[j] = u := by
    rw [List.getElem_toArray]
    exact Option.some.inj ((List.getElem?_eq_getElem g1).symm.trans hu)
  have et : its2.toArray[j] = t := by
    rw [List.getElem_toArray]
    exact Option.some.inj ((List.getElem?_eq_getElem g2).symm.trans ht)
  rw [eu, et]
  exact q
/-- == and != of two values that are read as data: within a sequence, at the top -/
theorem eq3 (I : Inv X pins σ H s) : ∀ (n : Nat) (A : Around) (x y : D) (v w : V) (u t : Value) (b : Bool), A.units + n < cLine → RelV v u → RelV w t → RdR X.K Z ρ st H x v → RdR X.K Z ρ st H y w → eqF n x y = some b →
    SeqAt.EqAt A s u t b ∧ SeqAt.RcAt A s u t b ∧ SeqAt.RcNeAt A s u t (!b) := by
  intro n
  induction n with
  | zero =>
    intro A x y v w u t b hun rv rw hx hy e
    have hu : A.units < cLine := by omega
    cases x <;> cases y
    · obtain rfl := hx.non
      cases rv
      obtain rfl := hy.non
      cases rw
      simp only [eqF] at e
      cases e
      exact ⟨.same _, .none_none, .none_none⟩
    · obtain rfl := hx.non
      cases rv
      obtain rfl := hy.bl
      cases rw
      simp only [eqF] at e
      cases e
      exact ⟨.none_bool _, .none_bool _, .none_bool _⟩
    · obtain rfl := hx.non
      cases rv
      obtain rfl := hy.int
      obtain ⟨_, rfl⟩ := rw
      simp only [eqF] at e
      cases e
      exact ⟨.none_int _ _, .none_int _ _, .none_int _ _⟩
    · obtain rfl := hx.non
      cases rv
      obtain ⟨rfl, _⟩ := hy.str
      obtain ⟨_, rfl⟩ := rw
      simp only [eqF] at e
      cases e
      exact ⟨.none_str _ _, .none_str _ _, .none_str _ _⟩
    · obtain rfl := hx.non
      cases rv
      obtain ⟨bb, vsbb, its2, rfl, rfl, qbb, tbb, rbb, hb⟩ := rd_tup I rw hy
      simp only [eqF] at e
      cases e
      exact ⟨.none_tuple  hb hu, .none_tuple  hb hu, .none_tuple  hb hu⟩
    · obtain rfl := hx.non
      cases rv
      obtain ⟨bb, vsbb, its2, rfl, rfl, qbb, tbb, rbb, pbb⟩ := rd_lst I rw hy
      have hb := pbb.isList
      simp only [eqF] at e
      cases e
      exact ⟨.none_list  hb hu, .none_list  hb hu, .none_list  hb hu⟩
    · obtain rfl := hx.bl
      cases rv
      obtain rfl := hy.non
      cases rw
      simp only [eqF] at e
      cases e
      exact ⟨.bool_none _, .bool_none _, .bool_none _⟩
    · obtain rfl := hx.bl
      cases rv
      obtain rfl := hy.bl
      cases rw
      simp only [eqF] at e
      cases e
      exact ⟨.bool_bool _ _, .bool_bool _ _, .bool_bool _ _⟩
    · obtain rfl := hx.bl
      cases rv
      obtain rfl := hy.int
      obtain ⟨_, rfl⟩ := rw
      simp only [eqF] at e
      cases e
      exact ⟨.bool_int _ _ _, .bool_int _ _ _, .bool_int _ _ _⟩
    · obtain rfl := hx.bl
      cases rv
      obtain ⟨rfl, _⟩ := hy.str
      obtain ⟨_, rfl⟩ := rw
      simp only [eqF] at e
      cases e
      exact ⟨.bool_str _ _ _, .bool_str _ _ _, .bool_str _ _ _⟩
    · obtain rfl := hx.bl
      cases rv
      obtain ⟨bb, vsbb, its2, rfl, rfl, qbb, tbb, rbb, hb⟩ := rd_tup I rw hy
      simp only [eqF] at e
      cases e
      exact ⟨.bool_tuple _ hb hu, .bool_tuple _ hb hu, .bool_tuple _ hb hu⟩
    · obtain rfl := hx.bl
      cases rv
      obtain ⟨bb, vsbb, its2, rfl, rfl, qbb, tbb, rbb, pbb⟩ := rd_lst I rw hy
      have hb := pbb.isList
      simp only [eqF] at e
      cases e
      exact ⟨.bool_list _ hb hu, .bool_list _ hb hu, .bool_list _ hb hu⟩
    · obtain rfl := hx.int
      obtain ⟨_, rfl⟩ := rv
      obtain rfl := hy.non
      cases rw
      simp only [eqF] at e
      cases e
      exact ⟨.int_none _ _, .int_none _ _, .int_none _ _⟩
    · obtain rfl := hx.int
      obtain ⟨_, rfl⟩ := rv
      obtain rfl := hy.bl
      cases rw
      simp only [eqF] at e
      cases e
      exact ⟨.int_bool _ _ _, .int_bool _ _ _, .int_bool _ _ _⟩
    · obtain rfl := hx.int
      obtain ⟨_, rfl⟩ := rv
      obtain rfl := hy.int
      obtain ⟨_, rfl⟩ := rw
      simp only [eqF] at e
      cases e
      exact ⟨.int_int _ _ _ _, .int_int _ _ _ _, .int_int _ _ _ _⟩
    · obtain rfl := hx.int
      obtain ⟨_, rfl⟩ := rv
      obtain ⟨rfl, _⟩ := hy.str
      obtain ⟨_, rfl⟩ := rw
      simp only [eqF] at e
      cases e
      exact ⟨.int_str _ _ _ _, .int_str _ _ _ _, .int_str _ _ _ _⟩
    · obtain rfl := hx.int
      obtain ⟨_, rfl⟩ := rv
      obtain ⟨bb, vsbb, its2, rfl, rfl, qbb, tbb, rbb, hb⟩ := rd_tup I rw hy
      simp only [eqF] at e
      cases e
      exact ⟨.int_tuple _ _ hb hu, .int_tuple _ _ hb hu, .int_tuple _ _ hb hu⟩
    · obtain rfl := hx.int
      obtain ⟨_, rfl⟩ := rv
      obtain ⟨bb, vsbb, its2, rfl, rfl, qbb, tbb, rbb, pbb⟩ := rd_lst I rw hy
      have hb := pbb.isList
      simp only [eqF] at e
      cases e
      exact ⟨.int_list _ _ hb hu, .int_list _ _ hb hu, .int_list _ _ hb hu⟩
    · obtain ⟨rfl, _⟩ := hx.str
      obtain ⟨_, rfl⟩ := rv
      obtain rfl := hy.non
      cases rw
      simp only [eqF] at e
      cases e
      exact ⟨.str_none _ _, .str_none _ _, .str_none _ _⟩
    · obtain ⟨rfl, _⟩ := hx.str
      obtain ⟨_, rfl⟩ := rv
      obtain rfl := hy.bl
      cases rw
      simp only [eqF] at e
      cases e
      exact ⟨.str_bool _ _ _, .str_bool _ _ _, .str_bool _ _ _⟩
    · obtain ⟨rfl, _⟩ := hx.str
      obtain ⟨_, rfl⟩ := rv
      obtain rfl := hy.int
      obtain ⟨_, rfl⟩ := rw
      simp only [eqF] at e
      cases e
      exact ⟨.str_int _ _ _ _, .str_int _ _ _ _, .str_int _ _ _ _⟩
    · obtain ⟨rfl, _⟩ := hx.str
      obtain ⟨_, rfl⟩ := rv
      obtain ⟨rfl, _⟩ := hy.str
      obtain ⟨_, rfl⟩ := rw
      simp only [eqF] at e
      cases e
      exact ⟨.str_str _ _ _ _, .str_str _ _ _ _, .str_str _ _ _ _⟩
    · obtain ⟨rfl, _⟩ := hx.str
      obtain ⟨_, rfl⟩ := rv
      obtain ⟨bb, vsbb, its2, rfl, rfl, qbb, tbb, rbb, hb⟩ := rd_tup I rw hy
      simp only [eqF] at e
      cases e
      exact ⟨.str_tuple _ _ hb hu, .str_tuple _ _ hb hu, .str_tuple _ _ hb hu⟩
    · obtain ⟨rfl, _⟩ := hx.str
      obtain ⟨_, rfl⟩ := rv
      obtain ⟨bb, vsbb, its2, rfl, rfl, qbb, tbb, rbb, pbb⟩ := rd_lst I rw hy
      have hb := pbb.isList
      simp only [eqF] at e
      cases e
      exact ⟨.str_list _ _ hb hu, .str_list _ _ hb hu, .str_list _ _ hb hu⟩
    · obtain ⟨aa, vsaa, its, rfl, rfl, qaa, taa, raa, hl⟩ := rd_tup I rv hx
      obtain rfl := hy.non
      cases rw
      simp only [eqF] at e
      cases e
      exact ⟨.tuple_none  hl hu, .tuple_none  hl hu, .tuple_none  hl hu⟩
    · obtain ⟨aa, vsaa, its, rfl, rfl, qaa, taa, raa, hl⟩ := rd_tup I rv hx
      obtain rfl := hy.bl
      cases rw
      simp only [eqF] at e
      cases e
      exact ⟨.tuple_bool _ hl hu, .tuple_bool _ hl hu, .tuple_bool _ hl hu⟩
    · obtain ⟨aa, vsaa, its, rfl, rfl, qaa, taa, raa, hl⟩ := rd_tup I rv hx
      obtain rfl := hy.int
      obtain ⟨_, rfl⟩ := rw
      simp only [eqF] at e
      cases e
      exact ⟨.tuple_int _ _ hl hu, .tuple_int _ _ hl hu, .tuple_int _ _ hl hu⟩
    · obtain ⟨aa, vsaa, its, rfl, rfl, qaa, taa, raa, hl⟩ := rd_tup I rv hx
      obtain ⟨rfl, _⟩ := hy.str
      obtain ⟨_, rfl⟩ := rw
      simp only [eqF] at e
      cases e
      exact ⟨.tuple_str _ _ hl hu, .tuple_str _ _ hl hu, .tuple_str _ _ hl hu⟩
    · obtain ⟨aa, vsaa, its, rfl, rfl, qaa, taa, raa, hl⟩ := rd_tup I rv hx
      obtain ⟨bb, vsbb, its2, rfl, rfl, qbb, tbb, rbb, hb⟩ := rd_tup I rw hy
      simp only [eqF] at e
      cases e
    · obtain ⟨aa, vsaa, its, rfl, rfl, qaa, taa, raa, hl⟩ := rd_tup I rv hx
      obtain ⟨bb, vsbb, its2, rfl, rfl, qbb, tbb, rbb, pbb⟩ := rd_lst I rw hy
      have hb := pbb.isList
      simp only [eqF] at e
      cases e
      exact ⟨.tuple_list hl hb hu, .tuple_list hl hb hu, .tuple_list hl hb hu⟩
    · obtain ⟨aa, vsaa, its, rfl, rfl, qaa, taa, raa, paa⟩ := rd_lst I rv hx
      have hl := paa.isList
      obtain rfl := hy.non
      cases rw
      simp only [eqF] at e
      cases e
      exact ⟨.list_none  hl hu, .list_none  hl hu, .list_none  hl hu⟩
    · obtain ⟨aa, vsaa, its, rfl, rfl, qaa, taa, raa, paa⟩ := rd_lst I rv hx
      have hl := paa.isList
      obtain rfl := hy.bl
      cases rw
      simp only [eqF] at e
      cases e
      exact ⟨.list_bool _ hl hu, .list_bool _ hl hu, .list_bool _ hl hu⟩
    · obtain ⟨aa, vsaa, its, rfl, rfl, qaa, taa, raa, paa⟩ := rd_lst I rv hx
      have hl := paa.isList
      obtain rfl := hy.int
      obtain ⟨_, rfl⟩ := rw
      simp only [eqF] at e
      cases e
      exact ⟨.list_int _ _ hl hu, .list_int _ _ hl hu, .list_int _ _ hl hu⟩
    · obtain ⟨aa, vsaa, its, rfl, rfl, qaa, taa, raa, paa⟩ := rd_lst I rv hx
      have hl := paa.isList
      obtain ⟨rfl, _⟩ := hy.str
      obtain ⟨_, rfl⟩ := rw
      simp only [eqF] at e
      cases e
      exact ⟨.list_str _ _ hl hu, .list_str _ _ hl hu, .list_str _ _ hl hu⟩
    · obtain ⟨aa, vsaa, its, rfl, rfl, qaa, taa, raa, paa⟩ := rd_lst I rv hx
      have hl := paa.isList
      obtain ⟨bb, vsbb, its2, rfl, rfl, qbb, tbb, rbb, hb⟩ := rd_tup I rw hy
      simp only [eqF] at e
      cases e
      exact ⟨.list_tuple hl hb hu, .list_tuple hl hb hu, .list_tuple hl hb hu⟩
    · obtain ⟨aa, vsaa, its, rfl, rfl, qaa, taa, raa, paa⟩ := rd_lst I rv hx
      have hl := paa.isList
      obtain ⟨bb, vsbb, its2, rfl, rfl, qbb, tbb, rbb, pbb⟩ := rd_lst I rw hy
      have hb := pbb.isList
      simp only [eqF] at e
      cases e
  | succ n ih =>
    intro A x y v w u t b hun rv rw hx hy e
    have hu : A.units < cLine := by omega
    cases x <;> cases y
    · obtain rfl := hx.non
      cases rv
      obtain rfl := hy.non
      cases rw
      simp only [eqF] at e
      cases e
      exact ⟨.same _, .none_none, .none_none⟩
    · obtain rfl := hx.non
      cases rv
      obtain rfl := hy.bl
      cases rw
      simp only [eqF] at e
      cases e
      exact ⟨.none_bool _, .none_bool _, .none_bool _⟩
    · obtain rfl := hx.non
      cases rv
      obtain rfl := hy.int
      obtain ⟨_, rfl⟩ := rw
      simp only [eqF] at e
      cases e
      exact ⟨.none_int _ _, .none_int _ _, .none_int _ _⟩
    · obtain rfl := hx.non
      cases rv
      obtain ⟨rfl, _⟩ := hy.str
      obtain ⟨_, rfl⟩ := rw
      simp only [eqF] at e
      cases e
      exact ⟨.none_str _ _, .none_str _ _, .none_str _ _⟩
    · obtain rfl := hx.non
      cases rv
      obtain ⟨bb, vsbb, its2, rfl, rfl, qbb, tbb, rbb, hb⟩ := rd_tup I rw hy
      simp only [eqF] at e
      cases e
      exact ⟨.none_tuple  hb hu, .none_tuple  hb hu, .none_tuple  hb hu⟩
    · obtain rfl := hx.non
      cases rv
      obtain ⟨bb, vsbb, its2, rfl, rfl, qbb, tbb, rbb, pbb⟩ := rd_lst I rw hy
      have hb := pbb.isList
      simp only [eqF] at e
      cases e
      exact ⟨.none_list  hb hu, .none_list  hb hu, .none_list  hb hu⟩
    · obtain rfl := hx.bl
      cases rv
      obtain rfl := hy.non
      cases rw
      simp only [eqF] at e
      cases e
      exact ⟨.bool_none _, .bool_none _, .bool_none _⟩
    · obtain rfl := hx.bl
      cases rv
      obtain rfl := hy.bl
      cases rw
      simp only [eqF] at e
      cases e
      exact ⟨.bool_bool _ _, .bool_bool _ _, .bool_bool _ _⟩
    · obtain rfl := hx.bl
      cases rv
      obtain rfl := hy.int
      obtain ⟨_, rfl⟩ := rw
      simp only [eqF] at e
      cases e
      exact ⟨.bool_int _ _ _, .bool_int _ _ _, .bool_int _ _ _⟩
    · obtain rfl := hx.bl
      cases rv
      obtain ⟨rfl, _⟩ := hy.str
      obtain ⟨_, rfl⟩ := rw
      simp only [eqF] at e
      cases e
      exact ⟨.bool_str _ _ _, .bool_str _ _ _, .bool_str _ _ _⟩
    · obtain rfl := hx.bl
      cases rv
      obtain ⟨bb, vsbb, its2, rfl, rfl, qbb, tbb, rbb, hb⟩ := rd_tup I rw hy
      simp only [eqF] at e
      cases e
      exact ⟨.bool_tuple _ hb hu, .bool_tuple _ hb hu, .bool_tuple _ hb hu⟩
    · obtain rfl := hx.bl
      cases rv
      obtain ⟨bb, vsbb, its2, rfl, rfl, qbb, tbb, rbb, pbb⟩ := rd_lst I rw hy
      have hb := pbb.isList
      simp only [eqF] at e
      cases e
      exact ⟨.bool_list _ hb hu, .bool_list _ hb hu, .bool_list _ hb hu⟩
    · obtain rfl := hx.int
      obtain ⟨_, rfl⟩ := rv
      obtain rfl := hy.non
      cases rw
      simp only [eqF] at e
      cases e
      exact ⟨.int_none _ _, .int_none _ _, .int_none _ _⟩
    · obtain rfl := hx.int
      obtain ⟨_, rfl⟩ := rv
      obtain rfl := hy.bl
      cases rw
      simp only [eqF] at e
      cases e
      exact ⟨.int_bool _ _ _, .int_bool _ _ _, .int_bool _ _ _⟩
    · obtain rfl := hx.int
      obtain ⟨_, rfl⟩ := rv
      obtain rfl := hy.int
      obtain ⟨_, rfl⟩ := rw
      simp only [eqF] at e
      cases e
      exact ⟨.int_int _ _ _ _, .int_int _ _ _ _, .int_int _ _ _ _⟩
    · obtain rfl := hx.int
      obtain ⟨_, rfl⟩ := rv
      obtain ⟨rfl, _⟩ := hy.str
      obtain ⟨_, rfl⟩ := rw
      simp only [eqF] at e
      cases e
      exact ⟨.int_str _ _ _ _, .int_str _ _ _ _, .int_str _ _ _ _⟩
    · obtain rfl := hx.int
      obtain ⟨_, rfl⟩ := rv
      obtain ⟨bb, vsbb, its2, rfl, rfl, qbb, tbb, rbb, hb⟩ := rd_tup I rw hy
      simp only [eqF] at e
      cases e
      exact ⟨.int_tuple _ _ hb hu, .int_tuple _ _ hb hu, .int_tuple _ _ hb hu⟩
    · obtain rfl := hx.int
      obtain ⟨_, rfl⟩ := rv
      obtain ⟨bb, vsbb, its2, rfl, rfl, qbb, tbb, rbb, pbb⟩ := rd_lst I rw hy
      have hb := pbb.isList
      simp only [eqF] at e
      cases e
      exact ⟨.int_list _ _ hb hu, .int_list _ _ hb hu, .int_list _ _ hb hu⟩
    · obtain ⟨rfl, _⟩ := hx.str
      obtain ⟨_, rfl⟩ := rv
      obtain rfl := hy.non
      cases rw
      simp only [eqF] at e
      cases e
      exact ⟨.str_none _ _, .str_none _ _, .str_none _ _⟩
    · obtain ⟨rfl, _⟩ := hx.str
      obtain ⟨_, rfl⟩ := rv
      obtain rfl := hy.bl
      cases rw
      simp only [eqF] at e
      cases e
      exact ⟨.str_bool _ _ _, .str_bool _ _ _, .str_bool _ _ _⟩
    · obtain ⟨rfl, _⟩ := hx.str
      obtain ⟨_, rfl⟩ := rv
      obtain rfl := hy.int
      obtain ⟨_, rfl⟩ := rw
      simp only [eqF] at e
      cases e
      exact ⟨.str_int _ _ _ _, .str_int _ _ _ _, .str_int _ _ _ _⟩
    · obtain ⟨rfl, _⟩ := hx.str
      obtain ⟨_, rfl⟩ := rv
      obtain ⟨rfl, _⟩ := hy.str
      obtain ⟨_, rfl⟩ := rw
      simp only [eqF] at e
      cases e
      exact ⟨.str_str _ _ _ _, .str_str _ _ _ _, .str_str _ _ _ _⟩
    · obtain ⟨rfl, _⟩ := hx.str
      obtain ⟨_, rfl⟩ := rv
      obtain ⟨bb, vsbb, its2, rfl, rfl, qbb, tbb, rbb, hb⟩ := rd_tup I rw hy
      simp only [eqF] at e
      cases e
      exact ⟨.str_tuple _ _ hb hu, .str_tuple _ _ hb hu, .str_tuple _ _ hb hu⟩
    · obtain ⟨rfl, _⟩ := hx.str
      obtain ⟨_, rfl⟩ := rv
      obtain ⟨bb, vsbb, its2, rfl, rfl, qbb, tbb, rbb, pbb⟩ := rd_lst I rw hy
      have hb := pbb.isList
      simp only [eqF] at e
      cases e
      exact ⟨.str_list _ _ hb hu, .str_list _ _ hb hu, .str_list _ _ hb hu⟩
    · obtain ⟨aa, vsaa, its, rfl, rfl, qaa, taa, raa, hl⟩ := rd_tup I rv hx
      obtain rfl := hy.non
      cases rw
      simp only [eqF] at e
      cases e
      exact ⟨.tuple_none  hl hu, .tuple_none  hl hu, .tuple_none  hl hu⟩
    · obtain ⟨aa, vsaa, its, rfl, rfl, qaa, taa, raa, hl⟩ := rd_tup I rv hx
      obtain rfl := hy.bl
      cases rw
      simp only [eqF] at e
      cases e
      exact ⟨.tuple_bool _ hl hu, .tuple_bool _ hl hu, .tuple_bool _ hl hu⟩
    · obtain ⟨aa, vsaa, its, rfl, rfl, qaa, taa, raa, hl⟩ := rd_tup I rv hx
      obtain rfl := hy.int
      obtain ⟨_, rfl⟩ := rw
      simp only [eqF] at e
      cases e
      exact ⟨.tuple_int _ _ hl hu, .tuple_int _ _ hl hu, .tuple_int _ _ hl hu⟩
    · obtain ⟨aa, vsaa, its, rfl, rfl, qaa, taa, raa, hl⟩ := rd_tup I rv hx
      obtain ⟨rfl, _⟩ := hy.str
      obtain ⟨_, rfl⟩ := rw
      simp only [eqF] at e
      cases e
      exact ⟨.tuple_str _ _ hl hu, .tuple_str _ _ hl hu, .tuple_str _ _ hl hu⟩
    · obtain ⟨aa, vsaa, its, rfl, rfl, qaa, taa, raa, hl⟩ := rd_tup I rv hx
      obtain ⟨bb, vsbb, its2, rfl, rfl, qbb, tbb, rbb, hb⟩ := rd_tup I rw hy
      have hs : aa = bb → b = true := fun z => by
        subst z
        rw [RdR.inj I hx hy] at e
        exact eqF_same _ _ _ e
      have key := seq_at (b := b) I ih hun taa tbb raa rbb
      simp only [eqF] at e
      have ls := raa.length
      have ls2 := rbb.length
      have ln := taa.length
      have ln2 := tbb.length
      obtain ⟨g1, g2⟩ := key e
      have R1 := SeqAt.RcAt.tuples hl hb hu g2
      have R2 := SeqAt.RcNeAt.tuples hl hb hu g2
      rw [List.size_toArray, List.size_toArray, ← ls, ← ls2, ln, ln2, ← g1] at R1 R2
      exact ⟨seq_eq hs R1, R1, R2⟩
    · obtain ⟨aa, vsaa, its, rfl, rfl, qaa, taa, raa, hl⟩ := rd_tup I rv hx
      obtain ⟨bb, vsbb, its2, rfl, rfl, qbb, tbb, rbb, pbb⟩ := rd_lst I rw hy
      have hb := pbb.isList
      simp only [eqF] at e
      cases e
      exact ⟨.tuple_list hl hb hu, .tuple_list hl hb hu, .tuple_list hl hb hu⟩
    · obtain ⟨aa, vsaa, its, rfl, rfl, qaa, taa, raa, paa⟩ := rd_lst I rv hx
      have hl := paa.isList
      obtain rfl := hy.non
      cases rw
      simp only [eqF] at e
      cases e
      exact ⟨.list_none  hl hu, .list_none  hl hu, .list_none  hl hu⟩
    · obtain ⟨aa, vsaa, its, rfl, rfl, qaa, taa, raa, paa⟩ := rd_lst I rv hx
      have hl := paa.isList
      obtain rfl := hy.bl
      cases rw
      simp only [eqF] at e
      cases e
      exact ⟨.list_bool _ hl hu, .list_bool _ hl hu, .list_bool _ hl hu⟩
    · obtain ⟨aa, vsaa, its, rfl, rfl, qaa, taa, raa, paa⟩ := rd_lst I rv hx
      have hl := paa.isList
      obtain rfl := hy.int
      obtain ⟨_, rfl⟩ := rw
      simp only [eqF] at e
      cases e
      exact ⟨.list_int _ _ hl hu, .list_int _ _ hl hu, .list_int _ _ hl hu⟩
    · obtain ⟨aa, vsaa, its, rfl, rfl, qaa, taa, raa, paa⟩ := rd_lst I rv hx
      have hl := paa.isList
      obtain ⟨rfl, _⟩ := hy.str
      obtain ⟨_, rfl⟩ := rw
      simp only [eqF] at e
      cases e
      exact ⟨.list_str _ _ hl hu, .list_str _ _ hl hu, .list_str _ _ hl hu⟩
    · obtain ⟨aa, vsaa, its, rfl, rfl, qaa, taa, raa, paa⟩ := rd_lst I rv hx
      have hl := paa.isList
      obtain ⟨bb, vsbb, its2, rfl, rfl, qbb, tbb, rbb, hb⟩ := rd_tup I rw hy
      simp only [eqF] at e
      cases e
      exact ⟨.list_tuple hl hb hu, .list_tuple hl hb hu, .list_tuple hl hb hu⟩
    · obtain ⟨aa, vsaa, its, rfl, rfl, qaa, taa, raa, paa⟩ := rd_lst I rv hx
      have hl := paa.isList
      obtain ⟨bb, vsbb, its2, rfl, rfl, qbb, tbb, rbb, pbb⟩ := rd_lst I rw hy
      have hb := pbb.isList
      have hs : aa = bb → b = true := fun z => by
        subst z
        rw [RdR.inj I hx hy] at e
        exact eqF_same _ _ _ e
      have key := seq_at (b := b) I ih hun taa tbb raa rbb
      simp only [eqF] at e
      have ls := raa.length
      have ls2 := rbb.length
      have ln := taa.length
      have ln2 := tbb.length
      split at e
      · rename_i hlen
        obtain ⟨g1, g2⟩ := key e
        have hsz : its.toArray.size = its2.toArray.size := by rw [List.size_toArray, List.size_toArray]; omega
        rw [← hlen, Nat.min_self, beq_self_eq_true, Bool.and_true] at g1
        have R1 := SeqAt.RcAt.lists hl hb hsz hu g2
        have R2 := SeqAt.RcNeAt.lists hl hb hsz hu g2
        rw [List.size_toArray, ← ls, ln, ← g1] at R1 R2
        exact ⟨seq_eq hs R1, R1, R2⟩
      · rename_i hlen
        cases e
        have hsz : (its.toArray.size != its2.toArray.size) = true := by
          rw [List.size_toArray, List.size_toArray, bne_iff_ne]; omega
        have R1 := SeqAt.RcAt.lists_lengths hl hb hsz hu
        have R2 := SeqAt.RcNeAt.lists_lengths hl hb hsz hu
        exact ⟨seq_eq hs R1, R1, R2⟩

def eqD (x y : D) : Option D := (eqF 48 x y).map .bl
def neD (x y : D) : Option D := (eqF 48 x y).map fun b => .bl (!b)
theorem op_eqD (hu : X.A.units + 64 < cLine) : OpR X (compareOp .Eq) (rD2 X.K eqD) := by
  intro pins s σ H x y v u Q I rx ry ⟨Z, ρ, st, a, b, d, S, ra, rb, e, q⟩
  obtain ⟨k, hk, rfl⟩ := Option.map_eq_some_iff.mp e
  exact (eq3 I 48 X.A a b x y v u k (by omega) rx ry ra rb hk).2.1 _ _ _ _ ⟨.bl k, H, I, rfl, q _ _ (Same.refl H) Rep.bl⟩
theorem op_neD (hu : X.A.units + 64 < cLine) : OpR X (compareOp .NotEq) (rD2 X.K neD) := by
  intro pins s σ H x y v u Q I rx ry ⟨Z, ρ, st, a, b, d, S, ra, rb, e, q⟩
  obtain ⟨k, hk, rfl⟩ := Option.map_eq_some_iff.mp e
  exact (eq3 I 48 X.A a b x y v u k (by omega) rx ry ra rb hk).2.2 _ _ _ _ ⟨.bl (!k), H, I, rfl, q _ _ (Same.refl H) Rep.bl⟩
end
end L2.Ev
set_option Elab.async false
set_option linter.all false
set_option maxRecDepth 100000
set_option maxHeartbeats 4000000
namespace L2.Ev
open PySem PySem.Spec PyProof.Rows

/-! ### in -/
def anyF (f : D → Option Bool) : List D → Option Bool
  | [] => some false
  | x :: xs => (f x).bind fun b => (anyF f xs).bind fun c => some (b || c)
def itemsD : D → Option (List D)
  | .tup xs => some xs
  | .lst xs => some xs
  | _ => none
def inB (x y : D) : Option Bool := (itemsD y).bind fun xs => anyF (fun z => eqF 47 z x) xs
def inD (x y : D) : Option D := (inB x y).map .bl
def notinD (x y : D) : Option D := (inB x y).map fun b => .bl (!b)
theorem anyF_all {f : D → Option Bool} : ∀ {xs : List D} {b : Bool}, anyF f xs = some b → (∀ x ∈ xs, ∃ c, f x = some c) ∧ b = xs.any fun x => (f x).getD false
  | [], b, h => by
    simp only [anyF] at h
    cases h
    exact ⟨fun x hx => by simp at hx, rfl⟩
  | x :: xs, b, h => by
    simp only [anyF] at h
    cases h1 : f x with
    | none => rw [h1] at h; cases h
    | some c =>
      rw [h1] at h
      cases h2 : anyF f xs with
      | none => rw [h2] at h; cases h
      | some c' =>
        rw [h2] at h
        have e := Option.some.inj h
        obtain ⟨e1, e2⟩ := anyF_all h2
        refine ⟨fun y hy => ?_, ?_⟩
        · rcases List.mem_cons.mp hy with rfl | hy
          · exact ⟨c, h1⟩
          · exact e1 y hy
        · rw [List.any_cons, h1, ← e, e2]
          rfl
section
variable {X : Cx} {pins : List (Addr × Obj)} {σ : St} {H : Hp} {s : Shared} {Z ρ : List Addr} {st : Sto}
theorem Reps.mem {K : PySem.W.Frag} : ∀ {ds : List D} {vs : List V} {v : V}, Reps K Z ρ st H ds vs → v ∈ vs → ∃ d ∈ ds, Rep K Z ρ st H d v
  | [], vs, v, h, e => by
    simp only [Reps] at h
    subst h
    simp at e
  | x :: xs, vs, v, h, e => by
    simp only [Reps] at h
    obtain ⟨w, r, rfl, h2, h3⟩ := h
    rcases List.mem_cons.mp e with rfl | e
    · exact ⟨x, List.mem_cons_self, h2⟩
    · obtain ⟨d, hd, q⟩ := Reps.mem h3 e
      exact ⟨d, List.mem_cons_of_mem _ hd, q⟩
theorem Reps.mem' {K : PySem.W.Frag} : ∀ {ds : List D} {vs : List V} {d : D}, Reps K Z ρ st H ds vs → d ∈ ds → ∃ v ∈ vs, Rep K Z ρ st H d v
  | [], vs, v, h, e => by simp at e
  | x :: xs, vs, d, h, e => by
    simp only [Reps] at h
    obtain ⟨w, r, rfl, h2, h3⟩ := h
    rcases List.mem_cons.mp e with rfl | e
    · exact ⟨w, List.mem_cons_self, h2⟩
    · obtain ⟨v, hd, q⟩ := Reps.mem' h3 e
      exact ⟨v, List.mem_cons_of_mem _ hd, q⟩
theorem Vals_mem : ∀ {vs : List V} {us : List Value} {u : Value}, Vals vs us → u ∈ us → ∃ v ∈ vs, RelV v u
  | _, _, u, .nil, h => by simp at h
  | _, _, u, .cons (a := v) r t, h => by
    rcases List.mem_cons.mp h with rfl | h
    · exact ⟨v, List.mem_cons_self, r⟩
    · obtain ⟨w, hw, q⟩ := Vals_mem t h
      exact ⟨w, List.mem_cons_of_mem _ hw, q⟩
theorem Vals_mem' : ∀ {vs : List V} {us : List Value} {v : V}, Vals vs us → v ∈ vs → ∃ u ∈ us, RelV v u
  | _, _, u, .nil, h => by simp at h
  | _, _, u, .cons (b := w) r t, h => by
    rcases List.mem_cons.mp h with rfl | h
    · exact ⟨w, List.mem_cons_self, r⟩
    · obtain ⟨w', hw, q⟩ := Vals_mem' t h
      exact ⟨w', List.mem_cons_of_mem _ hw, q⟩
/-- the test of an item, as a function of the machine's value -/
theorem in_fun (I : Inv X pins σ H s) (hu : X.A.units + 64 < cLine) {ds : List D} {vs : List V} {its : List Value} {x : D} {v : V} {t : Value} (h : Reps X.K Z ρ st H ds vs) (rv : Vals vs its) (rx : RelV v t) (hx : RdR X.K Z ρ st H x v) {b : Bool}
    (hb : anyF (fun z => eqF 47 z x) ds = some b) : ∃ e : Value → Bool, (∀ y, y ∈ its.toArray → SeqAt.EqAt X.A.in1 s y t (e y)) ∧ its.toArray.any e = b ∧ ∀ (d : D) (w : V) (u : Value), d ∈ ds → RelV w u → Rep X.K Z ρ st H d w → e u = (eqF 47 d x).getD false := by
  classical
  obtain ⟨h1, h2⟩ := anyF_all hb
  have key : ∀ (d : D) (w : V) (u : Value), d ∈ ds → RelV w u → Rep X.K Z ρ st H d w → decide (∃ (d : D) (w : V), d ∈ ds ∧ RelV w u ∧ Rep X.K Z ρ st H d w ∧ eqF 47 d x = some true) = (eqF 47 d x).getD false := by
    intro d w u hd ru rd
    obtain ⟨c, hc⟩ := h1 d hd
    have hc' : eqF 47 d x = some c := hc
    rw [hc']
    show _ = c
    cases c with
    | true => exact decide_eq_true ⟨d, w, hd, ru, rd, hc'⟩
    | false =>
      refine decide_eq_false fun ⟨d', w', hd', ru', rd', e'⟩ => ?_
      rw [ru'.inj ru] at rd'
      rw [Rep.inj I d' d w rd' rd, hc'] at e'
      cases e'
  refine ⟨fun u => decide (∃ (d : D) (w : V), d ∈ ds ∧ RelV w u ∧ Rep X.K Z ρ st H d w ∧ eqF 47 d x = some true), fun y hy => ?_, ?_, key⟩
  · obtain ⟨w, hw, ru⟩ := Vals_mem rv (by simpa using hy)
    obtain ⟨d, hd, rd⟩ := h.mem hw
    obtain ⟨c, hc⟩ := h1 d hd
    have q := (eq3 (Z := Z) (ρ := ρ) (st := st) I 47 X.A.in1 d x w v y t c (by show X.A.units + 1 + 47 < cLine; omega) ru rx rd.rd hx hc).1
    have e2 := key d w y hd ru rd
    rw [hc] at e2
    exact Eq.mp (congrArg (SeqAt.EqAt X.A.in1 s y t) (Eq.symm e2)) q
  · rw [h2, List.any_toArray, Bool.eq_iff_iff, List.any_eq_true, List.any_eq_true]
    constructor
    · rintro ⟨u, hu', e⟩
      obtain ⟨w, hw, ru⟩ := Vals_mem rv hu'
      obtain ⟨d, hd, rd⟩ := h.mem hw
      exact ⟨d, hd, (key d w u hd ru rd).symm.trans e⟩
    · rintro ⟨d, hd, e⟩
      obtain ⟨w, hw, rd⟩ := h.mem' hd
      obtain ⟨u, hu', ru⟩ := Vals_mem' rv hw
      exact ⟨u, hu', (key d w u hd ru rd).trans e⟩
theorem op_inD (hu : X.A.units + 64 < cLine) : OpR X (compareOp .In) (rD2 X.K inD) := by
  intro pins s σ H x y v u Q I rx ry ⟨Z, ρ, st, a, b, d, S, ra, rb, e, q⟩
  obtain ⟨k, hk, rfl⟩ := Option.map_eq_some_iff.mp e
  unfold inB at hk
  obtain ⟨xs, hxs, hk⟩ := Option.bind_eq_some_iff.mp hk
  unfold itemsD at hxs
  split at hxs
  · cases hxs
    obtain ⟨p, vs, its, rfl, rfl, q1, t1, r1, p1⟩ := rd_tup I ry rb
    obtain ⟨f, g1, g2, _⟩ := in_fun I hu t1 r1 rx ra hk
    exact SeqAt.in_tupleAt f p1 g1 (by rw [g2]; exact ⟨.bl k, H, I, rfl, q _ _ (Same.refl H) Rep.bl⟩)
  · cases hxs
    obtain ⟨p, vs, its, rfl, rfl, q1, t1, r1, p1⟩ := rd_lst I ry rb
    obtain ⟨f, g1, g2, _⟩ := in_fun I hu t1 r1 rx ra hk
    exact SeqAt.in_listAt f p1.isList g1 (by rw [g2]; exact ⟨.bl k, H, I, rfl, q _ _ (Same.refl H) Rep.bl⟩)
  · cases hxs
theorem op_notinD (hu : X.A.units + 64 < cLine) : OpR X (compareOp .NotIn) (rD2 X.K notinD) := by
  intro pins s σ H x y v u Q I rx ry ⟨Z, ρ, st, a, b, d, S, ra, rb, e, q⟩
  obtain ⟨k, hk, rfl⟩ := Option.map_eq_some_iff.mp e
  unfold inB at hk
  obtain ⟨xs, hxs, hk⟩ := Option.bind_eq_some_iff.mp hk
  unfold itemsD at hxs
  split at hxs
  · cases hxs
    obtain ⟨p, vs, its, rfl, rfl, q1, t1, r1, p1⟩ := rd_tup I ry rb
    obtain ⟨f, g1, g2, _⟩ := in_fun I hu t1 r1 rx ra hk
    exact SeqAt.notIn_tupleAt f p1 g1 (by rw [g2]; exact ⟨.bl (!k), H, I, rfl, q _ _ (Same.refl H) Rep.bl⟩)
  · cases hxs
    obtain ⟨p, vs, its, rfl, rfl, q1, t1, r1, p1⟩ := rd_lst I ry rb
    obtain ⟨f, g1, g2, _⟩ := in_fun I hu t1 r1 rx ra hk
    exact SeqAt.notIn_listAt f p1.isList g1 (by rw [g2]; exact ⟨.bl (!k), H, I, rfl, q _ _ (Same.refl H) Rep.bl⟩)
  · cases hxs
end

/-! ### the other comparisons -/
def ltD : D → D → Option D
  | .int i, .int j => some (.bl (decide (i < j)))
  | _, _ => none
def leD : D → D → Option D
  | .int i, .int j => some (.bl (decide (i ≤ j)))
  | _, _ => none
def gtD : D → D → Option D
  | .int i, .int j => some (.bl (decide (j < i)))
  | _, _ => none
def geD : D → D → Option D
  | .int i, .int j => some (.bl (decide (j ≤ i)))
  | _, _ => none
def isNonD : D → Bool
  | .non => true
  | _ => false
def isD : D → D → Option D
  | x, .non => some (.bl (isNonD x))
  | .bl a, .bl b => some (.bl (decide (a = b)))
  | _, _ => none
def isnotD : D → D → Option D
  | x, .non => some (.bl (!isNonD x))
  | .bl a, .bl b => some (.bl (!decide (a = b)))
  | _, _ => none
def cmpD : CmpOp → D → D → Option D
  | .Eq => eqD | .NotEq => neD | .Lt => ltD | .LtE => leD | .Gt => gtD | .GtE => geD | .Is => isD | .IsNot => isnotD | .In => inD | .NotIn => notinD
section
variable {X : Cx}
theorem op_intsB {f : Value → Value → Sem Value} {g : Int → Int → Bool} {h : D → D → Option D} (o : OpR X f (rI0 fun i j => .bl (g i j)))
    (hh : ∀ a b d, h a b = some d → ∃ i j, a = .int i ∧ b = .int j ∧ d = .bl (g i j)) : OpR X f (rD2 X.K h) := by
  intro pins s σ H x y v u Q I rx ry ⟨Z, ρ, st, a, b, d, S, ra, rb, e, q⟩
  obtain ⟨i, j, rfl, rfl, rfl⟩ := hh _ _ _ e
  obtain rfl := ra.int
  obtain rfl := rb.int
  exact o pins s σ H _ _ v u Q I rx ry ⟨i, j, rfl, rfl, q _ _ (Same.refl H) Rep.bl⟩
theorem op_ltD : OpR X (compareOp .Lt) (rD2 X.K ltD) := op_intsB op_lt fun a b d e => by
  unfold ltD at e
  split at e
  · cases e; exact ⟨_, _, rfl, rfl, rfl⟩
  · cases e
theorem op_leD : OpR X (compareOp .LtE) (rD2 X.K leD) := op_intsB op_le fun a b d e => by
  unfold leD at e
  split at e
  · cases e; exact ⟨_, _, rfl, rfl, rfl⟩
  · cases e
theorem op_gtD : OpR X (compareOp .Gt) (rD2 X.K gtD) := op_intsB op_gt fun a b d e => by
  unfold gtD at e
  split at e
  · cases e; exact ⟨_, _, rfl, rfl, rfl⟩
  · cases e
theorem op_geD : OpR X (compareOp .GtE) (rD2 X.K geD) := op_intsB op_ge fun a b d e => by
  unfold geD at e
  split at e
  · cases e; exact ⟨_, _, rfl, rfl, rfl⟩
  · cases e
theorem isNonD_of {K : PySem.W.Frag} {Z ρ : List Addr} {st : Sto} {H : Hp} {a : D} {x : V} (h : RdR K Z ρ st H a x) : decide (x = .non) = isNonD a := by
  cases a with
  | non => rw [h.non]; rfl
  | bl b => rw [h.bl]; rfl
  | int b => rw [h.int]; rfl
  | str b => rw [h.str.1]; rfl
  | tup b =>
    obtain ⟨_, _, rfl, _⟩ := h.tup
    rfl
  | lst b =>
    obtain ⟨_, _, rfl, _⟩ := h.lst
    rfl
theorem op_isD : OpR X (compareOp .Is) (rD2 X.K isD) := by
  intro pins s σ H x y v u Q I rx ry ⟨Z, ρ, st, a, b, d, S, ra, rb, e, q⟩
  unfold isD at e
  split at e
  · cases e
    obtain rfl := rb.non
    refine op_isN pins s σ H _ _ v u Q I rx ry ⟨rfl, ?_⟩
    rw [isNonD_of ra]
    exact q _ _ (Same.refl H) Rep.bl
  · cases e
    obtain rfl := ra.bl
    obtain rfl := rb.bl
    exact op_isBl pins s σ H _ _ v u Q I rx ry ⟨_, _, rfl, rfl, q _ _ (Same.refl H) Rep.bl⟩
  · cases e
theorem op_isnotD : OpR X (compareOp .IsNot) (rD2 X.K isnotD) := by
  intro pins s σ H x y v u Q I rx ry ⟨Z, ρ, st, a, b, d, S, ra, rb, e, q⟩
  unfold isnotD at e
  split at e
  · cases e
    obtain rfl := rb.non
    refine op_notN pins s σ H _ _ v u Q I rx ry ⟨rfl, ?_⟩
    rw [isNonD_of ra]
    exact q _ _ (Same.refl H) Rep.bl
  · cases e
    obtain rfl := ra.bl
    obtain rfl := rb.bl
    exact op_notBl pins s σ H _ _ v u Q I rx ry ⟨_, _, rfl, rfl, q _ _ (Same.refl H) Rep.bl⟩
  · cases e
theorem op_cmpD (hu : X.A.units + 64 < cLine) : ∀ op : CmpOp, OpR X (compareOp op) (rD2 X.K (cmpD op))
  | .Eq => op_eqD hu | .NotEq => op_neD hu | .Lt => op_ltD | .LtE => op_leD | .Gt => op_gtD | .GtE => op_geD | .Is => op_isD | .IsNot => op_isnotD | .In => op_inD hu | .NotIn => op_notinD hu
end

/-! ### subscripts, slices -/
def idxD : D → D → Option D
  | .tup xs, .int i => atI xs i
  | .lst xs, .int i => atI xs i
  | .str x, .int i => (atI x.cps.toList i).map fun c => .str ⟨#[c]⟩
  | _, _ => none
def cutD {α : Type} (xs : List α) (lo hi : Option Int) : List α := (xs.drop (HT.sIx xs.length 0 lo)).take (HT.sIx xs.length xs.length hi - HT.sIx xs.length 0 lo)
def slcD : D → Option Int → Option Int → Option D
  | .tup xs, lo, hi => some (.tup (cutD xs lo hi))
  | .lst xs, lo, hi => some (.lst (cutD xs lo hi))
  | _, _, _ => none
section
variable {X : Cx}
theorem atI_reps {K : PySem.W.Frag} {Z ρ : List Addr} {st : Sto} {H : Hp} {ds : List D} {vs : List V} {i : Int} {d : D} (h : Reps K Z ρ st H ds vs) (e : atI ds i = some d) : ∃ v, atI vs i = some v ∧ Rep K Z ρ st H d v := by
  unfold atI at e ⊢
  obtain ⟨j, hj, e⟩ := Option.bind_eq_some_iff.mp e
  obtain ⟨v, hv, r⟩ := h.get e
  rw [h.length, hj]
  exact ⟨v, hv, r⟩
theorem ix_D : IxR X (rD2 X.K idxD) := by
  intro value slice pins s σ H x y v u Q I rx ry ⟨Z, ρ, st, a, b, d, S, ra, rb, e, q⟩
  unfold idxD at e
  split at e
  · obtain ⟨p, vs, rfl, h1, h2⟩ := ra.tup
    obtain rfl := rb.int
    obtain ⟨w, hw, rw'⟩ := atI_reps h2 e
    exact ix_tup value slice pins s σ H _ _ v u Q I rx ry ⟨p, vs, _, w, rfl, rfl, h1, hw, q _ _ (Same.refl H) rw'⟩
  · obtain ⟨p, vs, rfl, h1, h2⟩ := ra.lst
    obtain rfl := rb.int
    obtain ⟨w, hw, rw'⟩ := atI_reps h2 e
    exact ix_list value slice pins s σ H _ _ v u Q I rx ry ⟨p, vs, _, w, rfl, rfl, SqL.of h1, hw, q _ _ (Same.refl H) rw'⟩
  · obtain ⟨rfl, hz⟩ := ra.str
    obtain rfl := rb.int
    obtain ⟨c, hc, rfl⟩ := Option.map_eq_some_iff.mp e
    refine ix_str value slice pins s σ H _ _ v u Q I rx ry ⟨_, _, c, rfl, rfl, hz, hc, q _ _ (Same.refl H) (Rep.str ?_)⟩
    show 1 ≤ sizeLine
    decide
  · cases e
theorem cut_reps {K : PySem.W.Frag} {Z ρ : List Addr} {st : Sto} {H : Hp} {ds : List D} {vs : List V} (lo hi : Option Int) (h : Reps K Z ρ st H ds vs) : Reps K Z ρ st H (cutD ds lo hi) (cutV vs lo hi) := by
  unfold cutD cutV
  rw [h.length]
  exact (h.drop _).take _
theorem cutD_len {α : Type} (xs : List α) (lo hi : Option Int) : (cutD xs lo hi).length ≤ xs.length := by
  unfold cutD
  rw [List.length_take, List.length_drop]
  omega
theorem cut_whole {ds : List D} {lo hi : Option Int} (h : HT.sIx ds.length 0 lo = 0 ∧ HT.sIx ds.length ds.length hi = ds.length) : cutD ds lo hi = ds := by
  unfold cutD
  rw [h.1, h.2]
  simp
def rSlD (K : PySem.W.Frag) : V → Option Int → Option Int → Hp → VK → Prop := fun x lo hi H Q => ∃ Z ρ st a d, SRep K Z ρ st H ∧ RdR K Z ρ st H a x ∧ slcD a lo hi = some d ∧ ∀ v H', Same H H' → Rep K Z ρ st H' d v → Q v H'
theorem sl_D : SlR X (rSlD X.K) := by
  intro pins s σ H x v vl vu lo hi sl Q I rx hs pl pu ⟨Z, ρ, st, a, d, S, ra, e, q⟩
  unfold slcD at e
  split at e
  · cases e
    obtain ⟨p, vs, rfl, h1, h2⟩ := ra.tup
    refine sl_tupA pins s σ H _ v vl vu lo hi sl Q I rx hs pl pu ⟨p, vs, rfl, h1, fun hw => ?_, fun _ p hp => ?_⟩
    · rw [h2.length] at hw
      rw [cut_whole hw] at q
      exact q _ _ (Same.refl H) (Rep.tupI h1 h2 ra.tlen)
    · exact q _ _ (Same.fresh hp) (Rep.newT S hp (cut_reps lo hi h2) (Nat.le_trans (cutD_len _ _ _) ra.tlen))
  · cases e
    obtain ⟨p, vs, rfl, h1, h2⟩ := ra.lst
    exact sl_list pins s σ H _ v vl vu lo hi sl Q I rx hs pl pu ⟨p, vs, rfl, SqL.of h1, fun p hp => q _ _ (Same.fresh hp) (Rep.newL S hp (cut_reps lo hi h2) (Nat.le_trans (cutD_len _ _ _) ra.llen))⟩
  · cases e
end
end L2.Ev
set_option Elab.async false
set_option linter.all false
set_option maxRecDepth 100000
set_option maxHeartbeats 4000000
namespace L2.Ev
open PySem PySem.Spec PyProof.Rows

/-! ### built-ins, by values -/
section
variable (K : PySem.W.Frag) (Z ρ : List Addr) (st : Sto) (H : Hp)
def RdRs : List D → List V → Prop
  | [], vs => vs = []
  | x :: xs, vs => ∃ v r, vs = v :: r ∧ RdR K Z ρ st H x v ∧ RdRs xs r
end
def rDn (K : PySem.W.Frag) (f : List D → Option D) : List V → Hp → VK → Prop := fun vs H Q => ∃ Z ρ st ds d, SRep K Z ρ st H ∧ RdRs K Z ρ st H ds vs ∧ f ds = some d ∧ ∀ v H', Same H H' → Rep K Z ρ st H' d v → Q v H'
section
variable {K : PySem.W.Frag} {Z ρ : List Addr} {st : Sto} {H : Hp}
theorem RdRs.one {x : D} {vs : List V} (h : RdRs K Z ρ st H [x] vs) : ∃ v, vs = [v] ∧ RdR K Z ρ st H x v := by
  simp only [RdRs] at h
  obtain ⟨v, r, rfl, h1, rfl⟩ := h
  exact ⟨v, rfl, h1⟩
theorem RdRs.two {x y : D} {vs : List V} (h : RdRs K Z ρ st H [x, y] vs) : ∃ v w, vs = [v, w] ∧ RdR K Z ρ st H x v ∧ RdR K Z ρ st H y w := by
  simp only [RdRs] at h
  obtain ⟨v, r, rfl, h1, w, r', rfl, h2, rfl⟩ := h
  exact ⟨v, w, rfl, h1, h2⟩
end

/-- a list's length, as an int at once -/
def lenI {α : Type} : List α → Int
  | [] => 0
  | _ :: r => lenI r + 1
theorem lenI_eq {α : Type} : ∀ xs : List α, lenI xs = (xs.length : Int)
  | [] => rfl
  | _ :: r => by
    rw [lenI, lenI_eq r, List.length_cons]
    omega
def lenD : List D → Option D
  | [.tup xs] => some (.int (lenI xs))
  | [.lst xs] => some (.int (lenI xs))
  | [.str x] => some (.int x.length)
  | _ => none
def intD : List D → Option D
  | [.int i] => some (.int i)
  | [.bl b] => some (.int (if b then 1 else 0))
  | _ => none
def strD : List D → Option D
  | [.int i] => if decide (i.natAbs.log2 < 1920) && szOk (Str.ofString (toString i)).length then some (.str (Str.ofString (toString i))) else none
  | [.str x] => some (.str x)
  | _ => none
def absD : List D → Option D
  | [.int i] => some (.int (if i < 0 then -i else i))
  | _ => none
def tupleD : List D → Option D
  | [.tup xs] => some (.tup xs)
  | [.lst xs] => some (.tup xs)
  | _ => none
def listD : List D → Option D
  | [.tup xs] => some (.lst xs)
  | [.lst xs] => some (.lst xs)
  | _ => none
def intsOf : List D → Option (List Int)
  | [] => some []
  | .int i :: r => (intsOf r).map (i :: ·)
  | _ :: _ => none
def blsOf : List D → Option (List Bool)
  | [] => some []
  | .bl i :: r => (blsOf r).map (i :: ·)
  | _ :: _ => none
def sumD : List D → Option D
  | [x] => (itemsD x).bind fun xs => (intsOf xs).map fun ns => .int ns.sum
  | _ => none
def allD : List D → Option D
  | [.lst xs] => (blsOf xs).map fun bs => .bl (bs.all id)
  | _ => none
def anyD : List D → Option D
  | [.lst xs] => (blsOf xs).map fun bs => .bl (bs.any id)
  | _ => none
def maxI : List Int → Option Int
  | [] => none
  | x :: r => some (r.foldl (fun m y => if m < y then y else m) x)
def minI : List Int → Option Int
  | [] => none
  | x :: r => some (r.foldl (fun m y => if y < m then y else m) x)
def maxD : List D → Option D
  | [.int i, .int j] => some (.int (if j > i then j else i))
  | [.lst xs] => (intsOf xs).bind fun ns => (maxI ns).map .int
  | _ => none
def minD : List D → Option D
  | [.int i, .int j] => some (.int (if j < i then j else i))
  | [.lst xs] => (intsOf xs).bind fun ns => (minI ns).map .int
  | _ => none

theorem intsOf_eq : ∀ {xs : List D} {ns : List Int}, intsOf xs = some ns → xs = ns.map .int
  | [], ns, h => by
    simp only [intsOf] at h
    cases h
    rfl
  | x :: xs, ns, h => by
    cases x <;> simp only [intsOf] at h <;> try (cases h)
    obtain ⟨r, hr, rfl⟩ := Option.map_eq_some_iff.mp h
    rw [intsOf_eq hr]
    rfl
theorem blsOf_eq : ∀ {xs : List D} {ns : List Bool}, blsOf xs = some ns → xs = ns.map .bl
  | [], ns, h => by
    simp only [blsOf] at h
    cases h
    rfl
  | x :: xs, ns, h => by
    cases x <;> simp only [blsOf] at h <;> try (cases h)
    obtain ⟨r, hr, rfl⟩ := Option.map_eq_some_iff.mp h
    rw [blsOf_eq hr]
    rfl
section
variable {K : PySem.W.Frag} {Z ρ : List Addr} {st : Sto} {H : Hp}
theorem Reps.ints : ∀ {ns : List Int} {vs : List V}, Reps K Z ρ st H (ns.map .int) vs → vs = ns.map V.int
  | [], vs, h => by simpa only [List.map_nil, Reps] using h
  | n :: ns, vs, h => by
    simp only [List.map_cons, Reps] at h
    obtain ⟨v, r, rfl, h1, h2⟩ := h
    simp only [Rep] at h1
    rw [h1, Reps.ints h2]
    rfl
theorem Reps.bls : ∀ {ns : List Bool} {vs : List V}, Reps K Z ρ st H (ns.map .bl) vs → vs = ns.map V.bl
  | [], vs, h => by simpa only [List.map_nil, Reps] using h
  | n :: ns, vs, h => by
    simp only [List.map_cons, Reps] at h
    obtain ⟨v, r, rfl, h1, h2⟩ := h
    simp only [Rep] at h1
    rw [h1, Reps.bls h2]
    rfl
end
theorem maxI_spec : ∀ (r : List Int) (x : Int), (∀ y ∈ x :: r, y ≤ r.foldl (fun m y => if m < y then y else m) x) ∧ r.foldl (fun m y => if m < y then y else m) x ∈ x :: r
  | [], x => by simp
  | y :: r, x => by
    obtain ⟨h1, h2⟩ := maxI_spec r (if x < y then y else x)
    rw [List.foldl_cons]
    have a1 : x ≤ (if x < y then y else x) ∧ y ≤ (if x < y then y else x) := by split <;> omega
    refine ⟨fun z hz => ?_, ?_⟩
    · have h0 := h1 _ List.mem_cons_self
      rcases List.mem_cons.mp hz with rfl | hz
      · exact Int.le_trans a1.1 h0
      · rcases List.mem_cons.mp hz with rfl | hz
        · exact Int.le_trans a1.2 h0
        · exact h1 z (List.mem_cons_of_mem _ hz)
    · rcases List.mem_cons.mp h2 with h2 | h2
      · rw [h2]
        split <;> simp
      · exact List.mem_cons_of_mem _ (List.mem_cons_of_mem _ h2)
theorem minI_spec : ∀ (r : List Int) (x : Int), (∀ y ∈ x :: r, r.foldl (fun m y => if y < m then y else m) x ≤ y) ∧ r.foldl (fun m y => if y < m then y else m) x ∈ x :: r
  | [], x => by simp
  | y :: r, x => by
    obtain ⟨h1, h2⟩ := minI_spec r (if y < x then y else x)
    rw [List.foldl_cons]
    have a1 : (if y < x then y else x) ≤ x ∧ (if y < x then y else x) ≤ y := by split <;> omega
    refine ⟨fun z hz => ?_, ?_⟩
    · have h0 := h1 _ List.mem_cons_self
      rcases List.mem_cons.mp hz with rfl | hz
      · exact Int.le_trans h0 a1.1
      · rcases List.mem_cons.mp hz with rfl | hz
        · exact Int.le_trans h0 a1.2
        · exact h1 z (List.mem_cons_of_mem _ hz)
    · rcases List.mem_cons.mp h2 with h2 | h2
      · rw [h2]
        split <;> simp
      · exact List.mem_cons_of_mem _ (List.mem_cons_of_mem _ h2)

section
variable {X : Cx}
theorem cr_lenD : CallR X (.builtin "len") (rDn X.K lenD) := by
  intro pins s σ H xs us Q I r ⟨Z, ρ, st, ds, d, S, ra, e, q⟩
  unfold lenD at e
  split at e
  · cases e
    obtain ⟨v, rfl, h⟩ := ra.one
    obtain ⟨a, vs, rfl, h1, h2⟩ := h.tup
    refine call_len_seq pins s σ H _ us Q I r ⟨a, vs, rfl, .inr h1, ?_⟩
    rw [h2.length, ← lenI_eq]
    exact q _ _ (Same.refl H) Rep.int
  · cases e
    obtain ⟨v, rfl, h⟩ := ra.one
    obtain ⟨a, vs, rfl, h1, h2⟩ := h.lst
    refine call_len_seq pins s σ H _ us Q I r ⟨a, vs, rfl, .inl (SqL.of h1), ?_⟩
    rw [h2.length, ← lenI_eq]
    exact q _ _ (Same.refl H) Rep.int
  · cases e
    obtain ⟨v, rfl, h⟩ := ra.one
    obtain ⟨rfl, hz⟩ := h.str
    exact call_len_str pins s σ H _ us Q I r ⟨_, rfl, hz, q _ _ (Same.refl H) Rep.int⟩
  · cases e
theorem cr_intD : CallR X (.type "int") (rDn X.K intD) := by
  intro pins s σ H xs us Q I r ⟨Z, ρ, st, ds, d, S, ra, e, q⟩
  unfold intD at e
  split at e
  · cases e
    obtain ⟨v, rfl, h⟩ := ra.one
    obtain rfl := h.int
    exact call_int1 pins s σ H _ us Q I r (.inl ⟨_, rfl, q _ _ (Same.refl H) Rep.int⟩)
  · cases e
    obtain ⟨v, rfl, h⟩ := ra.one
    obtain rfl := h.bl
    exact call_int1 pins s σ H _ us Q I r (.inr ⟨_, rfl, q _ _ (Same.refl H) Rep.int⟩)
  · cases e
theorem cr_absD : CallR X (.builtin "abs") (rDn X.K absD) := by
  intro pins s σ H xs us Q I r ⟨Z, ρ, st, ds, d, S, ra, e, q⟩
  unfold absD at e
  split at e
  · cases e
    obtain ⟨v, rfl, h⟩ := ra.one
    obtain rfl := h.int
    exact call_abs pins s σ H _ us Q I r ⟨_, rfl, q _ _ (Same.refl H) Rep.int⟩
  · cases e
theorem cr_tupleD : CallR X (.type "tuple") (rDn X.K tupleD) := by
  intro pins s σ H xs us Q I r ⟨Z, ρ, st, ds, d, S, ra, e, q⟩
  unfold tupleD at e
  split at e
  · cases e
    obtain ⟨v, rfl, h⟩ := ra.one
    obtain ⟨a, vs, rfl, h1, h2⟩ := h.tup
    exact call_tuple_of pins s σ H _ us Q I r ⟨a, vs, rfl, .inr ⟨h1, q _ _ (Same.refl H) (Rep.tupI h1 h2 h.tlen)⟩⟩
  · cases e
    obtain ⟨v, rfl, h⟩ := ra.one
    obtain ⟨a, vs, rfl, h1, h2⟩ := h.lst
    exact call_tuple_of pins s σ H _ us Q I r ⟨a, vs, rfl, .inl ⟨SqL.of h1, fun p hp => q _ _ (Same.fresh hp) (Rep.newT S hp h2 h.llen)⟩⟩
  · cases e
theorem cr_listD : CallR X (.type "list") (rDn X.K listD) := by
  intro pins s σ H xs us Q I r ⟨Z, ρ, st, ds, d, S, ra, e, q⟩
  unfold listD at e
  split at e
  · cases e
    obtain ⟨v, rfl, h⟩ := ra.one
    obtain ⟨a, vs, rfl, h1, h2⟩ := h.tup
    exact call_list_of pins s σ H _ us Q I r ⟨a, vs, rfl, .inr h1, fun p hp => q _ _ (Same.fresh hp) (Rep.newL S hp h2 h.tlen)⟩
  · cases e
    obtain ⟨v, rfl, h⟩ := ra.one
    obtain ⟨a, vs, rfl, h1, h2⟩ := h.lst
    exact call_list_of pins s σ H _ us Q I r ⟨a, vs, rfl, .inl (SqL.of h1), fun p hp => q _ _ (Same.fresh hp) (Rep.newL S hp h2 h.llen)⟩
  · cases e
theorem cr_allD (hc : X.calm = true) : CallR X (.builtin "all") (rDn X.K allD) := by
  intro pins s σ H xs us Q I r ⟨Z, ρ, st, ds, d, S, ra, e, q⟩
  unfold allD at e
  split at e
  · obtain ⟨bs, hb, rfl⟩ := Option.map_eq_some_iff.mp e
    obtain ⟨v, rfl, h⟩ := ra.one
    obtain ⟨a, vs, rfl, h1, h2⟩ := h.lst
    rw [blsOf_eq hb] at h2
    rw [h2.bls] at h1
    exact cr_all hc pins s σ H _ us Q I r ⟨a, bs, rfl, SqL.of h1, q _ _ (Same.refl H) Rep.bl⟩
  · cases e
theorem cr_anyD (hc : X.calm = true) : CallR X (.builtin "any") (rDn X.K anyD) := by
  intro pins s σ H xs us Q I r ⟨Z, ρ, st, ds, d, S, ra, e, q⟩
  unfold anyD at e
  split at e
  · obtain ⟨bs, hb, rfl⟩ := Option.map_eq_some_iff.mp e
    obtain ⟨v, rfl, h⟩ := ra.one
    obtain ⟨a, vs, rfl, h1, h2⟩ := h.lst
    rw [blsOf_eq hb] at h2
    rw [h2.bls] at h1
    exact cr_any hc pins s σ H _ us Q I r ⟨a, bs, rfl, SqL.of h1, q _ _ (Same.refl H) Rep.bl⟩
  · cases e
theorem cr_maxD (hc : X.calm = true) : CallR X (.builtin "max") (rDn X.K maxD) := by
  intro pins s σ H xs us Q I r ⟨Z, ρ, st, ds, d, S, ra, e, q⟩
  unfold maxD at e
  split at e
  · cases e
    obtain ⟨v, w, rfl, h, h'⟩ := ra.two
    obtain rfl := h.int
    obtain rfl := h'.int
    exact call_max2 hc pins s σ H _ us Q I r ⟨_, _, rfl, q _ _ (Same.refl H) Rep.int⟩
  · obtain ⟨ns, hn, e⟩ := Option.bind_eq_some_iff.mp e
    obtain ⟨m, hm, rfl⟩ := Option.map_eq_some_iff.mp e
    obtain ⟨v, rfl, h⟩ := ra.one
    obtain ⟨a, vs, rfl, h1, h2⟩ := h.lst
    rw [intsOf_eq hn] at h2
    rw [h2.ints] at h1
    cases ns with
    | nil => cases hm
    | cons x t =>
      obtain ⟨g1, g2⟩ := maxI_spec t x
      cases hm
      refine cr_max hc pins s σ H _ us Q I r ⟨a, _, rfl, SqL.of h1, Nat.zero_lt_succ _, fun m m1 m2 => ?_⟩
      have e1 := m2 _ g2
      have e2 := g1 m m1
      rw [show m = _ from Int.le_antisymm e2 e1]
      exact q _ _ (Same.refl H) Rep.int
  · cases e
theorem cr_minD (hc : X.calm = true) : CallR X (.builtin "min") (rDn X.K minD) := by
  intro pins s σ H xs us Q I r ⟨Z, ρ, st, ds, d, S, ra, e, q⟩
  unfold minD at e
  split at e
  · cases e
    obtain ⟨v, w, rfl, h, h'⟩ := ra.two
    obtain rfl := h.int
    obtain rfl := h'.int
    exact call_min2 hc pins s σ H _ us Q I r ⟨_, _, rfl, q _ _ (Same.refl H) Rep.int⟩
  · obtain ⟨ns, hn, e⟩ := Option.bind_eq_some_iff.mp e
    obtain ⟨m, hm, rfl⟩ := Option.map_eq_some_iff.mp e
    obtain ⟨v, rfl, h⟩ := ra.one
    obtain ⟨a, vs, rfl, h1, h2⟩ := h.lst
    rw [intsOf_eq hn] at h2
    rw [h2.ints] at h1
    cases ns with
    | nil => cases hm
    | cons x t =>
      obtain ⟨g1, g2⟩ := minI_spec t x
      cases hm
      refine cr_min hc pins s σ H _ us Q I r ⟨a, _, rfl, SqL.of h1, Nat.zero_lt_succ _, fun m m1 m2 => ?_⟩
      have e1 := m2 _ g2
      have e2 := g1 m m1
      rw [show m = _ from Int.le_antisymm e1 e2]
      exact q _ _ (Same.refl H) Rep.int
  · cases e
/-- sum of a tuple of ints -/
theorem sum_tup {prog : Program} {w : World} {A : Around} {E : Value → Shared → Prop} {s : Shared} {l : Addr} {its : List Value} {ns : List Int} {Q : Value → Shared → Prop} (hh : A.handled = none) (hl : s.heap.IsTuple l its.toArray) (hi : IntsAre its ns)
    (h : ∀ h' tk t', (∀ b o, s.heap.get? b = some o → h'.get? b = some o) → Q (.int ns.sum t') { s with heap := h', toks := tk }) : wpAny (model prog w) A (call (.builtin "sum") [.ref l]) Q E s := by
  obtain ⟨xs, e⟩ := hi.allInts.items
  have hn : numsOf (intItems xs).toList = ns := by rw [← e]; exact hi.numsOf
  rw [nums_intItems] at hn
  rw [e] at hl
  have hlt : l < s.heap.objs.size := by obtain ⟨_, e, _⟩ := hl; exact Heap.lt_size e
  refine PySem.call_sum_walkG (wpAny_pyIter_tuple hl ?_)
  refine ⟨_, [s.heap.objs.size, l], _, _, _, _, numAt xs, rfl, Walks.tuple (A := A.in1) hh _ l (Nat.ne_of_lt hlt) (intItems xs), ⟨⟨_, Heap.get?_push_size _ rfl, rfl, rfl⟩, hl.push _⟩, fun b hb => ?_, (fun _ _ => intItems_at), fun h' tk t' hk => ?_⟩
  · show b < (s.heap.push _).objs.size
    rw [Heap.size_push]
    rcases List.mem_cons.mp hb with rfl | hb
    · exact Nat.lt_succ_self _
    · rcases List.mem_cons.mp hb with rfl | hb
      · exact Nat.lt_succ_of_lt hlt
      · cases hb
  · have := h h' tk t' fun b o ho => by
      refine hk b o (fun hm => ?_) (Heap.get?_push_of_some _ ho)
      rcases List.mem_cons.mp hm with e1 | hm
      · exact absurd (e1 ▸ Heap.lt_size ho) (Nat.lt_irrefl _)
      · cases hm
    rw [← hn] at this
    rw [preSum_eq, List.take_of_length_le (by simp [intItems])]
    exact this
theorem cr_sumD (hc : X.calm = true) : CallR X (.builtin "sum") (rDn X.K sumD) := by
  intro pins s σ H xs us Q I r ⟨Z, ρ, st, ds, d, S, ra, e, q⟩
  unfold sumD at e
  split at e
  · rename_i x
    obtain ⟨xs, hxs, e⟩ := Option.bind_eq_some_iff.mp e
    obtain ⟨ns, hn, rfl⟩ := Option.map_eq_some_iff.mp e
    obtain ⟨v, rfl, h⟩ := ra.one
    unfold itemsD at hxs
    split at hxs
    · cases hxs
      obtain ⟨a, vs, rfl, h1, h2⟩ := h.tup
      rw [intsOf_eq hn] at h2
      rw [h2.ints] at h1
      obtain ⟨its, rv, hl, _⟩ := I.tuple h1
      rw [Vals.ref1 r]
      exact sum_tup (I.ok.hd hc) hl rv.ints fun h' tk t' hk => ⟨.int _, H, I.kept hk, ⟨_, rfl⟩, q _ _ (Same.refl H) Rep.int⟩
    · cases hxs
      obtain ⟨a, vs, rfl, h1, h2⟩ := h.lst
      rw [intsOf_eq hn] at h2
      rw [h2.ints] at h1
      exact cr_sum hc pins s σ H _ us Q I r ⟨a, ns, rfl, SqL.of h1, q _ _ (Same.refl H) Rep.int⟩
    · cases hxs
  · cases e
theorem cr_strD : CallR X (.type "str") (rDn X.K strD) := by
  intro pins s σ H xs us Q I r ⟨Z, ρ, st, ds, d, S, ra, e, q⟩
  unfold strD at e
  split at e
  · split at e
    · rename_i hlog
      cases e
      obtain ⟨v, rfl, h⟩ := ra.one
      obtain rfl := h.int
      simp only [Bool.and_eq_true, decide_eq_true_eq] at hlog
      exact call_str_int pins s σ H _ us Q I r ⟨_, rfl, hlog.1, q _ _ (Same.refl H) (Rep.str (szOk_of hlog.2))⟩
    · cases e
  · cases e
    obtain ⟨v, rfl, h⟩ := ra.one
    obtain ⟨rfl, hz⟩ := h.str
    exact SkE.call_str_str pins s σ H _ us Q I r ⟨_, rfl, q _ _ (Same.refl H) (Rep.str hz)⟩
  · cases e
end

/-! ### isinstance -/
def tyName : D → String
  | .non => "NoneType"
  | .bl _ => "bool"
  | .int _ => "int"
  | .str _ => "str"
  | .tup _ => "tuple"
  | .lst _ => "list"
/-- is a value of a type of the one name one of the other? -/
def subTy (a b : String) : Option Bool := kitB a b
section
variable {X : Cx}
theorem tyX_of {K : PySem.W.Frag} {Z ρ : List Addr} {st : Sto} {H : Hp} {d : D} {v : V} (h : RdR K Z ρ st H d v) : TyX K H v (.type (tyName d)) := by
  cases d with
  | non => rw [h.non]; exact .base .non
  | bl b => rw [h.bl]; exact .base (.bl _)
  | int b => rw [h.int]; exact .base (.int _)
  | str b => rw [h.str.1]; exact .base (.str _)
  | tup b =>
    obtain ⟨a, vs, rfl, h1, h2⟩ := h.tup
    rcases h1 with (h1 | ⟨o, h1⟩) | ⟨o, its, n, h1, h3, _⟩
    · exact .base (.tup h1)
    · exact .fTuple h1
    · exact .kTuple h1 h3
  | lst b =>
    obtain ⟨a, vs, rfl, h1, h2⟩ := h.lst
    exact .base (.lst h1)
def isiD (T : String) : D → Option D := fun d => (kitB (tyName d) T).map .bl
/-- isinstance of a value and a built-in type -/
def rIsiD (K : PySem.W.Frag) (T : String) : List V → Hp → VK → Prop := fun vs H Q => ∃ Z ρ st v d b, vs = [v, .ty T] ∧ SRep K Z ρ st H ∧ RdR K Z ρ st H d v ∧ isiD T d = some (.bl b) ∧ Q (.bl b) H
theorem cr_isiD {T : String} : CallR X (.builtin "isinstance") (rIsiD X.K T) := by
  intro pins s σ H xs us Q I r ⟨Z, ρ, st, v, d, b, e1, S, ra, e, q⟩
  subst e1
  obtain ⟨k, hk, e⟩ := Option.map_eq_some_iff.mp e
  cases e
  exact call_isi pins s σ H _ us Q I r ⟨v, _, _, _, b, rfl, .ty T, tyX_of ra, kit_ty hk, q⟩
end

/-! ### sorted -/
mutual
def toPy : D → PyData
  | .non => .none
  | .bl b => .bool b
  | .int i => .int i
  | .str x => .str x
  | .tup xs => .tuple (toPys xs)
  | .lst xs => .list (toPys xs)
def toPys : List D → List PyData
  | [] => []
  | x :: xs => toPy x :: toPys xs
end
mutual
theorem Rep.dp {K : PySem.W.Frag} {Z ρ : List Addr} {st : Sto} {H : Hp} : ∀ (d : D) (v : V), Rep K Z ρ st H d v → Dp K H v (toPy d)
  | .non, v, h => by
    simp only [Rep] at h
    subst h
    simp only [toPy]
    exact .non
  | .bl b, v, h => by
    simp only [Rep] at h
    subst h
    simp only [toPy]
    exact .bl b
  | .int b, v, h => by
    simp only [Rep] at h
    subst h
    simp only [toPy]
    exact .int b
  | .str b, v, h => by
    simp only [Rep] at h
    obtain ⟨rfl, _⟩ := h
    simp only [toPy]
    exact .str b
  | .tup xs, v, h => by
    simp only [Rep] at h
    obtain ⟨a, vs, rfl, h1, h2, _⟩ := h
    simp only [toPy]
    exact .tup h1 (Reps.dp xs vs h2)
  | .lst xs, v, h => by
    simp only [Rep] at h
    obtain ⟨a, vs, rfl, h1, _, _, h2, _⟩ := h
    simp only [toPy]
    exact .lst (SqL.of h1) (Reps.dp xs vs h2)
theorem Reps.dp {K : PySem.W.Frag} {Z ρ : List Addr} {st : Sto} {H : Hp} : ∀ (ds : List D) (vs : List V), Reps K Z ρ st H ds vs → DpAll K H vs (toPys ds)
  | [], vs, h => by
    simp only [Reps] at h
    subst h
    simp only [toPys]
    exact .nil
  | x :: xs, vs, h => by
    simp only [Reps] at h
    obtain ⟨v, r, rfl, h1, h2⟩ := h
    simp only [toPys]
    exact .cons (Rep.dp x v h1) (Reps.dp xs r h2)
end
def insD (le : D → D → Bool) (x : D) : List D → List D
  | [] => [x]
  | y :: r => if le x y then x :: y :: r else y :: insD le x r
def isrtD (le : D → D → Bool) : List D → List D
  | [] => []
  | x :: r => insD le x (isrtD le r)
def leP : D → D → Bool := PySem.W.dataLe false toPy
def neTup : PyData → Bool
  | .tuple (_ :: _) => true
  | _ => false
def noTup : PyData → Bool
  | .tuple _ => false
  | .none => false
  | _ => true
def srtOk (ds : List D) : Bool := ds.all (fun d => Nat.ble (toPy d).depth 48) && (ds.all fun x => ds.all fun y => PySem.W.alike (toPy x) (toPy y)) && ((ds.all fun d => neTup (toPy d)) || (ds.all fun d => noTup (toPy d)))
theorem leP_total : PySem.W.TotalLe leP := PySem.W.sortLe_total (listOrd itemOrd) false fun d => PySem.W.keyToks (toPy d)
theorem insD_perm {le : D → D → Bool} (x : D) : ∀ xs : List D, (insD le x xs).Perm (x :: xs)
  | [] => .refl _
  | y :: r => by
    unfold insD
    split
    · exact .refl _
    · exact ((insD_perm x r).cons y).trans (.swap x y r)
theorem isrtD_perm {le : D → D → Bool} : ∀ xs : List D, (isrtD le xs).Perm xs
  | [] => .refl _
  | x :: r => (insD_perm x _).trans ((isrtD_perm r).cons x)
theorem insD_sorted {le : D → D → Bool} (h : PySem.W.TotalLe le) (x : D) : ∀ {xs : List D}, xs.Pairwise (fun a b => le a b = true) → (insD le x xs).Pairwise (fun a b => le a b = true)
  | [], _ => by
    unfold insD
    exact List.pairwise_singleton _ _
  | y :: r, hs => by
    unfold insD
    obtain ⟨h1, h2⟩ := List.pairwise_cons.mp hs
    split
    · rename_i hxy
      refine List.pairwise_cons.mpr ⟨fun z hz => ?_, hs⟩
      rcases List.mem_cons.mp hz with rfl | hz
      · exact hxy
      · exact h.trans _ _ _ hxy (h1 z hz)
    · rename_i hxy
      refine List.pairwise_cons.mpr ⟨fun z hz => ?_, insD_sorted h x h2⟩
      rcases List.mem_cons.mp ((insD_perm x r).mem_iff.mp hz) with rfl | hz
      · exact (h.total z y).resolve_left hxy
      · exact h1 z hz
theorem isrtD_sorted {le : D → D → Bool} (h : PySem.W.TotalLe le) : ∀ xs : List D, (isrtD le xs).Pairwise (fun a b => le a b = true)
  | [] => List.Pairwise.nil
  | x :: r => insD_sorted h x (isrtD_sorted h r)
theorem insD_filter {le : D → D → Bool} (h : PySem.W.TotalLe le) (c x : D) : ∀ xs : List D, (insD le x xs).filter (PySem.W.sameRank le c) = (x :: xs).filter (PySem.W.sameRank le c)
  | [] => rfl
  | y :: r => by
    unfold insD
    split
    · rfl
    · rename_i hxy
      rw [List.filter_cons, insD_filter h c x r, List.filter_cons, List.filter_cons (x := x), List.filter_cons (x := y)]
      by_cases hy : PySem.W.sameRank le c y = true
      · have hx : ¬ PySem.W.sameRank le c x = true := fun hx => by
          unfold PySem.W.sameRank at hx hy
          rw [Bool.and_eq_true] at hx hy
          exact hxy (h.trans _ _ _ hx.2 hy.1)
        rw [if_pos hy, if_neg hx, if_neg hx, if_pos hy]
      · rw [if_neg hy, if_neg hy]
theorem isrtD_filter {le : D → D → Bool} (h : PySem.W.TotalLe le) (c : D) : ∀ xs : List D, (isrtD le xs).filter (PySem.W.sameRank le c) = xs.filter (PySem.W.sameRank le c)
  | [] => rfl
  | x :: r => by
    show (insD le x (isrtD le r)).filter _ = _
    rw [insD_filter h c x _, List.filter_cons, isrtD_filter h c r, List.filter_cons]
theorem isrtD_eq {le : D → D → Bool} (h : PySem.W.TotalLe le) (xs : List D) : isrtD le xs = xs.mergeSort le := PySem.W.sort_unique h (isrtD_sorted h xs) fun c => isrtD_filter h c xs
def isNon : D → Bool
  | .non => true
  | _ => false
def oneOk (y : D) : Bool := Nat.ble (toPy y).depth 48 && PySem.W.alike (toPy y) (toPy y) && !isNon y
def oneD : List D → Option D
  | [y] => if oneOk y then some (.lst [y]) else none
  | _ => none
def srt1 (xs : List D) : Option D := if srtOk xs then some (.lst (isrtD leP xs)) else oneD xs
def sortedD : List D → Option D
  | [x] => (itemsD x).bind srt1
  | _ => none
section
variable {X : Cx} {pins : List (Addr × Obj)} {σ : St} {H : Hp} {s : Shared} {Z ρ : List Addr} {st : Sto}
theorem each_zip {vs : List V} {us : List Value} (rv : Vals vs us) : ∀ {ds : List D}, Reps X.K Z ρ st H ds vs → PySem.W.EachIs (fun u (p : D × V) => RelV p.2 u ∧ Rep X.K Z ρ st H p.1 p.2) us (ds.zip vs) := by
  induction rv with
  | nil =>
    intro ds h
    cases ds with
    | nil => exact .nil
    | cons d ds => simp [Reps] at h
  | cons r t ih =>
    intro ds h
    cases ds with
    | nil => simp [Reps] at h
    | cons d ds =>
      simp only [Reps] at h
      obtain ⟨v, w, e, h1, h2⟩ := h
      cases e
      exact .cons ⟨r, h1⟩ (ih h2)
theorem each_back : ∀ {us : List Value} {bs : List (D × V)}, PySem.W.EachIs (fun u (p : D × V) => RelV p.2 u ∧ Rep X.K Z ρ st H p.1 p.2) us bs → Vals (bs.map (·.2)) us ∧ Reps X.K Z ρ st H (bs.map (·.1)) (bs.map (·.2))
  | _, _, .nil => ⟨.nil, Reps.nil⟩
  | _, _, .cons ⟨h1, h2⟩ t => by
    obtain ⟨g1, g2⟩ := each_back t
    exact ⟨.cons h1 g1, Reps.cons h2 g2⟩
theorem zip_fst : ∀ {ds : List D} {vs : List V}, vs.length = ds.length → (ds.zip vs).map (·.1) = ds
  | [], _, _ => rfl
  | d :: ds, [], h => by cases h
  | d :: ds, v :: vs, h => by
    rw [List.zip_cons_cons, List.map_cons, zip_fst (by simpa using h)]
/-- behind sorted: the new list -/
theorem sorted_end {Q : VK} (I : Inv X pins σ H s) (S : SRep X.K Z ρ st H) {vs : List Value} {out : List Value} {ds : List D} {ws : List V} (rv : Vals ws out) (rd : Reps X.K Z ρ st H ds ws) (hz : out.length ≤ sizeLine)
    (q : ∀ v H', Same H H' → Rep X.K Z ρ st H' (.lst ds) v → Q v H') : EP X pins σ Q (.ref (s.heap.objs.size + 1)) { s with heap := sortedAll s.heap vs out.toArray } := by
  obtain ⟨e, he⟩ := sortedAll_at s.heap vs out.toArray
  have hp : H (s.heap.objs.size + 1) = none := I.hok.fresh (Nat.le_succ _)
  refine ⟨.ref (s.heap.objs.size + 1), upd H (s.heap.objs.size + 1) (.lst ws), I.laid (t' := s.toks) (fun b u hb => sortedAll_old hb) (Nat.le_succ _) ?_, rfl, q _ _ (Same.fresh hp) (Rep.newL S hp rd (by rw [← rd.length, rv.length]; exact hz))⟩
  exact ⟨by rw [rv.length]; exact hz, out, e, rv, he⟩
theorem reads_of (I : Inv X pins σ H s) {d : D} {v : V} {u : Value} (r : RelV v u) (h : Rep X.K Z ρ st H d v) : ∃ as, Reads s.heap u (toPy d) as := Dp.reads I _ v u h.dp r
theorem alike_none {d : D} (h : isNon d = false) : toPy d ≠ .none := by
  cases d <;> simp only [toPy] <;> first | (exact absurd h (by decide)) | (intro z; cases z)
theorem general_lt {prog : Program} {w : World} {A : Around} {E : Value → Shared → Prop} {s : Shared} {x y : Value} {b : Bool} {Q : Bool → Shared → Prop} (R : PySem.SeqAt.RcLt A s x y b) (h : Q b s) : wpAny (model prog w) A (keyLt' general' x y) Q E s := by
  have e : keyLt' general' x y = oneLt' false x y := rfl
  rw [e, oneLt'_eq]
  simp only [Bool.false_eq_true, if_false]
  refine wpAny_bind ?_
  refine wpAny_bind (wpAny_pure (R prog w E _ ?_))
  exact wpAny_truthy_bool h
/-- sorted of a tuple: by the same list.sort -/
theorem collect_tup {prog : Program} {w : World} {A : Around} {E : Value → Shared → Prop} {s : Shared} {l : Addr} {vs : List Value} {Q : List Value → Shared → Prop} (hl : s.heap.IsTuple l vs.toArray)
    (h : Q vs { s with heap := (s.heap.push (seqObj "list" #[] 0)).update s.heap.objs.size (Obj.mapSeq (· ++ vs.toArray)) }) (hsz : vs.length ≤ sizeLine) :
    wpAny (model prog w) A (collect (.ref l)) Q E s := by
  obtain ⟨o, ho, hc, n, hd⟩ := id hl
  unfold collect
  refine wpAny_bind (wpAny_runValue (codeAny_builtin entry_proto_collect' ?_))
  show wpAny _ _ (do again (.builtin "list.__iadd__" ⟨[← newList [], .ref l], []⟩)) _ _ s
  refine wpAny_bind (wpAny_newList (wpAny_pure ⟨Code.quiet_builtin _ (by decide +kernel), codeAny_builtin entry_list_iadd' ?_⟩))
  show wpAny _ _ (Builtin.List.listExtendWith (.ref s.heap.objs.size) (.ref l) (.ref s.heap.objs.size)) _ _ { s with heap := s.heap.push (seqObj "list" #[] 0) }
  unfold Builtin.List.listExtendWith
  have ho' : (s.heap.push (seqObj "list" #[] 0)).get? l = some o := Heap.get?_push_of_some _ ho
  refine wpAny_bind (wpAny_typeOf (T := "tuple") ⟨o, ho', hc⟩ ?_)
  have ht : (Value.type "tuple" == Value.type "tuple") = true := by rfl
  rw [if_pos (by rw [ht]; simp)]
  refine wpAny_bind (listItems_at ho' hd ?_)
  refine wpAny_bind (listItems_at (xs := #[]) (n := 0) (Heap.get?_push_size _ rfl) rfl ?_)
  rw [if_neg (by simp)]
  refine wpAny_bind (listUpdate_at (xs := #[]) (n := 0) (Heap.get?_push_size _ rfl) rfl ?_ (Nat.zero_le _) (by show (#[] ++ vs.toArray).size ≤ sizeLine + 1; simp only [Array.size_append, List.size_toArray, List.length_nil]; omega))
  refine wpAny_pure ?_
  show wpAny (model prog w) A (do
      let o ← load s.heap.objs.size
      match o.data with
      | .seq xs _ => pure xs.toList
      | _ => unsupported "internal:collect") Q E { s with heap := (s.heap.push (seqObj "list" #[] 0)).update s.heap.objs.size (Obj.mapSeq (· ++ vs.toArray)) }
  refine wpAny_bind (wpAny_load (get?_update_seq (Heap.get?_push_size _ rfl) _) ?_)
  show wpAny _ _ (pure ((#[] : Array Value) ++ vs.toArray).toList) Q E _
  rw [show ((#[] : Array Value) ++ vs.toArray).toList = vs by simp]
  exact wpAny_pure h
theorem sorted_any {prog : Program} {w : World} {A : Around} {E : Value → Shared → Prop} {s : Shared} {κ : PyProof.Rows.KeyKind} {l : Addr} {vs : List Value} {Q : Value → Shared → Prop} (hl : s.heap.IsList l vs.toArray ∨ s.heap.IsTuple l vs.toArray) (S : PySem.W.SortsAt prog w A.in1.in1 { s with heap := PySem.W.sortingHeap (PySem.W.copyHeap s.heap vs) (s.heap.objs.size + 1) vs } κ vs) (hL : vs.length ≤ sizeLine)
    (h : Q (.ref (s.heap.objs.size + 1)) { s with heap := sortedAll s.heap vs (PySem.W.sortVals κ false vs vs).toArray }) : wpAny (model prog w) A (call (.builtin "sorted") [.ref l]) Q E s := by
  rcases hl with hl | hl
  · exact PySem.W.sorted_vals hl S hL h
  · refine Calls.call_function_entry kind_sorted plain_sorted entry_sorted (args_sorted1 _) ?_
    unfold Builtin.«sorted»
    refine wpAny_bind (m := checkCount "sorted" 1 1 _) (wpAny_pure ?_)
    refine wpAny_bind (collect_tup hl ?_ hL)
    refine wpAny_bind (wpAny_newList ?_ hL)
    have hsz : ((s.heap.push (seqObj "list" #[] 0)).update s.heap.objs.size (Obj.mapSeq (· ++ vs.toArray))).objs.size = s.heap.objs.size + 1 := by
      rw [Heap.size_update, size_push']
    show wpAny _ _ _ _ _ { s with heap := PySem.W.copyHeap s.heap vs }
    rw [hsz]
    refine wpAny_bind (wpAny_holding (wpAny_call_entry_kw slot_list_sort ⟨_, PySem.W.copyHeap_at s.heap vs, rfl⟩ entry_list_sort ?body (args_list_sort _)))
    case body =>
      show wpAny (model prog w) A.in1.in1 (Builtin.«list.sort» ⟨[.ref (s.heap.objs.size + 1)], []⟩) _ _ _
      refine wpAny_mono (PySem.W.list_sort_vals (P := fun f s' => f = .done (.ret .none) ∧ Q (.ref (s.heap.objs.size + 1)) s') (s := { s with heap := PySem.W.copyHeap s.heap vs }) (PySem.W.copyHeap_at s.heap vs) S hL ⟨rfl, h⟩) (fun f s' hf => ?_) fun _ _ e => e
      obtain ⟨rfl, hq⟩ := hf
      exact ⟨_, rfl, wpAny_pure ⟨_, rfl, hq⟩⟩
theorem sorted_run (I : Inv X pins σ H s) (hu : X.A.units + 64 < cLine) (S : SRep X.K Z ρ st H) {l : Addr} {xs : List D} {vs : List V} {its : List Value} {d : D} {Q : VK} (hl : s.heap.IsList l its.toArray ∨ s.heap.IsTuple l its.toArray) (hlen : vs.length ≤ sizeLine) (rv : Vals vs its) (rd : Reps X.K Z ρ st H xs vs)
    (e : srt1 xs = some d)
    (q : ∀ v H', Same H H' → Rep X.K Z ρ st H' d v → Q v H') : wpAny (model X.prog X.w) X.A (call (.builtin "sorted") [.ref l]) (EP X pins σ Q) X.xe s := by
  have hL : its.length ≤ sizeLine := by rw [← rv.length]; exact hlen
  unfold srt1 at e
  split at e
  · rename_i hs
    cases e
    unfold srtOk at hs
    simp only [Bool.and_eq_true, Bool.or_eq_true] at hs
    obtain ⟨⟨hd, ha⟩, hk⟩ := hs
    have ez := each_zip rv rd
    have mem1 : ∀ p ∈ xs.zip vs, p.1 ∈ xs := fun p hp => (List.of_mem_zip (a := p.1) (b := p.2) hp).1
    have dep : ∀ p ∈ xs.zip vs, (toPy p.1).depth ≤ 48 := fun p hp => Nat.le_of_ble_eq_true (List.all_eq_true.mp hd _ (mem1 p hp))
    have er' : PySem.W.EachIs (fun v (p : D × V) => ∃ as, Reads (PySem.W.sortingHeap (PySem.W.copyHeap s.heap its) (s.heap.objs.size + 1) its) v (toPy p.1) as) its (xs.zip vs) := ez.mono fun u p hp => by
      obtain ⟨as, r⟩ := reads_of I hp.1 hp.2
      exact ⟨as, PyProof.Rows.Reads.keeps (fun _ _ => PySem.W.sorting_copy_old) r⟩
    have hal : PySem.W.AllAlike ((xs.zip vs).map fun p => toPy p.1) := ?_
    refine sorted_any hl (PySem.W.SortsAt.data (s := { s with heap := PySem.W.sortingHeap (PySem.W.copyHeap s.heap its) (s.heap.objs.size + 1) its }) (PySem.W.each_map (R := fun v d => ∃ as, Reads (PySem.W.sortingHeap (PySem.W.copyHeap s.heap its) (s.heap.objs.size + 1) its) v d as) (fun (p : D × V) => toPy p.1) er') hal ?_ ?_) hL ?_
    rotate_left 3
    · intro d1 h1 d2 h2
      obtain ⟨p1, hp1, rfl⟩ := List.mem_map.mp h1
      obtain ⟨p2, hp2, rfl⟩ := List.mem_map.mp h2
      exact List.all_eq_true.mp (List.all_eq_true.mp ha _ (mem1 p1 hp1)) _ (mem1 p2 hp2)
    · rcases hk with hk | hk
      · refine .inl fun d1 h1 => ?_
        obtain ⟨p1, hp1, rfl⟩ := List.mem_map.mp h1
        have := List.all_eq_true.mp hk _ (mem1 p1 hp1)
        unfold neTup at this
        split at this
        · rename_i x r e
          exact ⟨x, r, e⟩
        · cases this
      · refine .inr fun d1 h1 => ?_
        obtain ⟨p1, hp1, rfl⟩ := List.mem_map.mp h1
        have := List.all_eq_true.mp hk _ (mem1 p1 hp1)
        unfold noTup at this
        split at this
        · cases this
        · cases this
        · rename_i n1 n2
          exact ⟨n2, fun xs => n1 xs⟩
    · intro d1 h1
      obtain ⟨p1, hp1, rfl⟩ := List.mem_map.mp h1
      have := dep p1 hp1
      show X.A.units + 1 + 1 + _ < cLine
      omega
    · have eo := PySem.W.sortVals_data false ez er' hal
      have ho := PySem.W.sortVals_length (κ := PySem.W.dataKind (PySem.W.sortingHeap (PySem.W.copyHeap s.heap its) (s.heap.objs.size + 1) its) ((xs.zip vs).map fun p => toPy p.1)) false (ks := its) (vs := its) rfl
      obtain ⟨g1, g2⟩ := each_back eo
      have em : ((xs.zip vs).mergeSort (PySem.W.dataLe false fun p => toPy p.1)).map (·.1) = isrtD leP xs := by
        rw [isrtD_eq leP_total, PySem.W.sort_maps (r := PySem.W.dataLe false fun (p : D × V) => toPy p.1) (s := leP) (fun (p : D × V) => p.1) (fun _ _ _ _ => rfl), zip_fst rd.length]
      rw [em] at g2
      exact sorted_end I S g1 g2 (by rw [ho]; exact hL) q
  · unfold oneD at e
    split at e
    · rename_i y _
      split at e
      · rename_i hy
        cases e
        unfold oneOk at hy
        simp only [Bool.and_eq_true] at hy
        obtain ⟨⟨hd, ha⟩, hn⟩ := hy
        have hd := Nat.le_of_ble_eq_true hd
        simp only [Reps] at rd
        obtain ⟨v, r, rfl, h1, rfl⟩ := rd
        obtain ⟨u, rfl, ru⟩ := rv.one
        have hr1 : ∀ h', (∀ b o, s.heap.get? b = some o → h'.get? b = some o) → ∃ as, Reads h' u (toPy y) as := fun h' k => by
          obtain ⟨as, ra⟩ := reads_of I ru h1
          exact ⟨as, PyProof.Rows.Reads.keeps k ra⟩
        refine sorted_any (κ := ⟨listOrd itemOrd, fun z => if z = u then some (PySem.W.keyToks (toPy y)) else none, []⟩) hl ⟨fun z hz => ?_, general', ?_, fun h2 => absurd h2 (by simp)⟩ hL ?_
        · obtain rfl : z = u := by simpa using hz
          exact ⟨_, if_pos rfl⟩
        · intro E x z a b Q' ha' hb' hq
          have ex : x = u := by
            by_cases hx : x = u
            · exact hx
            · have : (if x = u then some (PySem.W.keyToks (toPy y)) else none) = some a := ha'
              rw [if_neg hx] at this
              cases this
          have ez : z = u := by
            by_cases hx : z = u
            · exact hx
            · have : (if z = u then some (PySem.W.keyToks (toPy y)) else none) = some b := hb'
              rw [if_neg hx] at this
              cases this
          rw [ex, ez]
          rw [ex] at ha'
          rw [ez] at hb'
          have e1 : PySem.W.keyToks (toPy y) = a := Option.some.inj ((if_pos rfl).symm.trans ha')
          have e2 : PySem.W.keyToks (toPy y) = b := Option.some.inj ((if_pos rfl).symm.trans hb')
          subst e1
          subst e2
          have hs0 : ∀ b o, s.heap.get? b = some o → (PySem.W.sortingHeap (PySem.W.copyHeap s.heap [u]) (s.heap.objs.size + 1) [u]).get? b = some o := fun _ _ => PySem.W.sorting_copy_old
          obtain ⟨as, r1⟩ := hr1 _ hs0
          refine general_lt ?_ hq
          exact PySem.W.rcLt_alike (toPy y) (toPy y) _ _ _ _ _ _ r1 r1 ha (alike_none (by simpa using hn)) (by show X.A.units + 1 + 1 + min _ _ < cLine; omega)
        · have hsv : PySem.W.sortVals ⟨listOrd itemOrd, fun z => if z = u then some (PySem.W.keyToks (toPy y)) else none, []⟩ false [u] [u] = [u] := by
            simp [PySem.W.sortVals]
          rw [hsv]
          exact sorted_end I S (.cons ru .nil) (Reps.cons h1 Reps.nil) (by show 1 ≤ sizeLine; decide) q
      · cases e
    · cases e
theorem cr_sortedD (hu : X.A.units + 64 < cLine) : CallR X (.builtin "sorted") (rDn X.K sortedD) := by
  intro pins s σ H xs us Q I r ⟨Z, ρ, st, ds, d, S, ra, e, q⟩
  unfold sortedD at e
  split at e
  · obtain ⟨xs, hxs, e⟩ := Option.bind_eq_some_iff.mp e
    obtain ⟨v, rfl, h⟩ := ra.one
    unfold itemsD at hxs
    split at hxs
    · cases hxs
      obtain ⟨a, vs, rfl, h1, h2⟩ := h.tup
      obtain ⟨its, rv, hl, hz⟩ := I.tuple h1
      rw [Vals.ref1 r]
      exact sorted_run I hu S (.inr hl) hz rv h2 e q
    · cases hxs
      obtain ⟨a, vs, rfl, h1, h2⟩ := h.lst
      obtain ⟨its, rv, hl, hz⟩ := I.list (SqL.of h1)
      rw [Vals.ref1 r]
      exact sorted_run I hu S (.inl hl.isList) hz rv h2 e q
    · cases hxs
  · cases e
end
end L2.Ev
set_option Elab.async false
set_option linter.all false
set_option maxRecDepth 100000
set_option maxHeartbeats 4000000
namespace L2.Ev
open PySem PySem.Spec PyProof.Rows

/-! ### what an expression is worth -/
abbrev CF := Str → List Wv → Sto → Option (Wv × Sto)
abbrev En := List (Option Wv)
abbrev Den := CF → En → Sto → Option (Wv × Sto)
abbrev DenL := CF → En → Sto → Option (List Wv × Sto)

/-- a value, read as data -/
def peek : Wv → Sto → Option D
  | .val d, _ => some d
  | .cel n, st => st[n]?.map fun c => .lst c.items
  | _, _ => none
def peeks : List Wv → Sto → Option (List D)
  | [], _ => some []
  | w :: r, st => (peek w st).bind fun d => (peeks r st).map (d :: ·)
/-- a value that becomes a part of data: a cell is closed -/
def froz : Wv → Sto → Option (D × Sto)
  | .val d, st => some (d, st)
  | .cel n, st => st[n]?.map fun c => (.lst c.items, st.set n (.froz c.items))
  | _, _ => none
def truD : D → Bool
  | .non => false
  | .bl b => b
  | .int i => i != 0
  | .str x => (x.length : Int) != 0
  | .tup xs => !xs.isEmpty
  | .lst xs => !xs.isEmpty
def truth (w : Wv) (st : Sto) : Option Bool := (peek w st).map truD

def dVar (i : Nat) : Den := fun _ env st => (env[i]?.bind id).map fun w => (w, st)
def dCon (d : D) : Den := fun _ _ st => some (.val d, st)
def dBin (op : Operator) (a b : Den) : Den := fun cf env st => (a cf env st).bind fun p => (b cf env p.2).bind fun q => (peek p.1 q.2).bind fun x => (peek q.1 q.2).bind fun y => (binD op x y).map fun d => (.val d, q.2)
def dCmp (op : CmpOp) (a b : Den) : Den := fun cf env st => (a cf env st).bind fun p => (b cf env p.2).bind fun q => (peek p.1 q.2).bind fun x => (peek q.1 q.2).bind fun y => (cmpD op x y).map fun d => (.val d, q.2)
def dChain (op op' : CmpOp) (a b c : Den) : Den := fun cf env st => (a cf env st).bind fun p => (b cf env p.2).bind fun q => (peek p.1 q.2).bind fun x => (peek q.1 q.2).bind fun y => (cmpD op x y).bind fun d =>
  match d with
  | .bl true => (c cf env q.2).bind fun r => (peek q.1 r.2).bind fun y => (peek r.1 r.2).bind fun z => (cmpD op' y z).map fun d => (.val d, r.2)
  | .bl false => some (.val (.bl false), q.2)
  | _ => none
def dNeg (a : Den) : Den := fun cf env st => (a cf env st).bind fun p => (peek p.1 p.2).bind fun x => (negD x).map fun d => (.val d, p.2)
def dNot (a : Den) : Den := fun cf env st => (a cf env st).bind fun p => (truth p.1 p.2).map fun b => (.val (.bl (!b)), p.2)
def dAnd (a b : Den) : Den := fun cf env st => (a cf env st).bind fun p => (truth p.1 p.2).bind fun t => if t then b cf env p.2 else some p
def dOr (a b : Den) : Den := fun cf env st => (a cf env st).bind fun p => (truth p.1 p.2).bind fun t => if t then some p else b cf env p.2
def dIte (c a b : Den) : Den := fun cf env st => (c cf env st).bind fun p => (truth p.1 p.2).bind fun t => if t then a cf env p.2 else b cf env p.2
def idxW (w i : Wv) (st : Sto) : Option Wv :=
  match w with
  | .pool xs n => match i with
    | .val (.int 0) => some (.val (.lst xs))
    | .val (.int 1) => some (.cel n)
    | _ => none
  | .scr ns => (peek i st).bind fun y => match y with
    | .int j => (atI ns j).map fun k => .val (.int k)
    | _ => none
  | w => (peek w st).bind fun x => (peek i st).bind fun y => (idxD x y).map .val
def dIdx (a i : Den) : Den := fun cf env st => (a cf env st).bind fun p => (i cf env p.2).bind fun q => (idxW p.1 q.1 q.2).map fun w => (w, q.2)
def dNone : CF → En → Sto → Option (Option Int × Sto) := fun _ _ st => some (none, st)
def dPart (a : Den) : CF → En → Sto → Option (Option Int × Sto) := fun cf env st => (a cf env st).bind fun p => match p.1 with
  | .val (.int i) => some (some i, p.2)
  | _ => none
def dSlc (a : Den) (lo hi : CF → En → Sto → Option (Option Int × Sto)) : Den := fun cf env st => (a cf env st).bind fun p => (lo cf env p.2).bind fun l => (hi cf env l.2).bind fun h => (peek p.1 h.2).bind fun x => (slcD x l.1 h.1).map fun d => (.val d, h.2)
/-- arguments, from the left -/
def dNil : DenL := fun _ _ st => some ([], st)
def dCons (a : Den) (r : DenL) : DenL := fun cf env st => (a cf env st).bind fun p => (r cf env p.2).map fun q => (p.1 :: q.1, q.2)
/-- the values as parts of data -/
def frozs : List Wv → Sto → Option (List D × Sto)
  | [], st => some ([], st)
  | w :: r, st => (froz w st).bind fun p => (frozs r p.2).map fun q => (p.1 :: q.1, q.2)
def dTup (as : DenL) : Den := fun cf env st => (as cf env st).bind fun p => (frozs p.1 p.2).bind fun q => if szOk q.1.length then some (.val (.tup q.1), q.2) else none
def dLst (as : DenL) : Den := fun cf env st => (as cf env st).bind fun p => (frozs p.1 p.2).bind fun q => if szOk q.1.length then some (.val (.lst q.1), q.2) else none
def dCall (f : Str) (as : DenL) : Den := fun cf env st => (as cf env st).bind fun p => cf f p.1 p.2
inductive Prim | len | int | str | abs | tuple | list | sum | all | any | max | min | sorted
def primD : Prim → List D → Option D
  | .len => lenD | .int => intD | .str => strD | .abs => absD | .tuple => tupleD | .list => listD | .sum => sumD | .all => allD | .any => anyD | .max => maxD | .min => minD | .sorted => sortedD
def primW (p : Prim) (ws : List Wv) (st : Sto) : Option Wv :=
  match p, ws with
  | .len, [.scr ns] => some (.val (.int (lenI ns)))
  | p, ws => (peeks ws st).bind fun ds => (primD p ds).map .val
def dPrim (p : Prim) (as : DenL) : Den := fun cf env st => (as cf env st).bind fun q => (primW p q.1 q.2).map fun w => (w, q.2)
def dIsi (a : Den) (T : String) : Den := fun cf env st => (a cf env st).bind fun p => (peek p.1 p.2).bind fun x => (isiD T x).map fun d => (.val d, p.2)
/-- [e, [c]] of the pool -/
def dPool (e : Den) (c : Int) : Den := fun cf env st => (e cf env st).bind fun p => (froz p.1 p.2).bind fun q => match q.1 with
  | .lst xs => some (.pool xs q.2.length, q.2 ++ [.live [.int c]])
  | _ => none

/-! ### how the evaluator's state lies in the machine -/
def ERep (K : PySem.W.Frag) (Z ρ : List Addr) (st : Sto) (H : Hp) (env : En) (σ : St) : Prop := env.length = σ.length ∧ ∀ (i : Nat) (w : Wv), env[i]? = some (some w) → ∃ v, σ[i]? = some (some v) ∧ WRep K Z ρ st H w v
section
variable (K : PySem.W.Frag) (Z ρ : List Addr) (st : Sto) (H : Hp)
def WReps : List Wv → List V → Prop
  | [], vs => vs = []
  | w :: ws, vs => ∃ v r, vs = v :: r ∧ WRep K Z ρ st H w v ∧ WReps ws r
end
/-- the end of an evaluation -/
def Fin (K : PySem.W.Frag) (Z ρ : List Addr) (st : Sto) (H : Hp) (w : Wv) (st' : Sto) (Q : VK) : Prop := ∀ v H' ρ', Ext ρ st H ρ' st' H' → SRep K Z ρ' st' H' → WRep K Z ρ' st' H' w v → Q v H'
def tDen (K : PySem.W.Frag) (cf : CF) (d : Den) : TE := fun σ H Q => ∃ Z ρ st env w st', SRep K Z ρ st H ∧ ERep K Z ρ st H env σ ∧ d cf env st = some (w, st') ∧ Fin K Z ρ st H w st' Q
def tTru (K : PySem.W.Frag) (cf : CF) (d : Den) : TT := fun σ H Q => ∃ Z ρ st env w st' b, SRep K Z ρ st H ∧ ERep K Z ρ st H env σ ∧ d cf env st = some (w, st') ∧ truth w st' = some b ∧ ∀ H' ρ', Ext ρ st H ρ' st' H' → SRep K Z ρ' st' H' → Q b H'
def tDenL (K : PySem.W.Frag) (cf : CF) (d : DenL) : TA := fun σ H Q => ∃ Z ρ st env ws st', SRep K Z ρ st H ∧ ERep K Z ρ st H env σ ∧ d cf env st = some (ws, st') ∧ ∀ vs H' ρ', Ext ρ st H ρ' st' H' → SRep K Z ρ' st' H' → WReps K Z ρ' st' H' ws vs → Q vs H'

theorem _root_.L2.PE.imp {X : Cx} {e : Expr} {t t' : TE} (h : PE X e t) (i : ∀ σ H Q, t' σ H Q → t σ H Q) : PE X e t' := ⟨fun pins s σ H Q I q => h.run pins s σ H Q I (i σ H Q q)⟩
theorem _root_.L2.PT.imp {X : Cx} {e : Expr} {t t' : TT} (h : PT X e t) (i : ∀ σ H Q, t' σ H Q → t σ H Q) : PT X e t' := ⟨fun pins s σ H Q I q => h.run pins s σ H Q I (i σ H Q q)⟩
theorem _root_.L2.PW.imp {X : Cx} {e : Expr} {t t' : TT} (h : PW X e t) (i : ∀ σ H Q, t' σ H Q → t σ H Q) : PW X e t' := ⟨fun wh pins s σ H Q I q => h.run wh pins s σ H Q I (i σ H Q q)⟩
theorem _root_.L2.PA.imp {X : Cx} {e : List Expr} {t t' : TA} (h : PA X e t) (i : ∀ σ H Q, t' σ H Q → t σ H Q) : PA X e t' := ⟨fun pos pins s σ H Q I q => h.run pos pins s σ H Q I (i σ H Q q)⟩

section
variable {K : PySem.W.Frag} {Z ρ ρ' : List Addr} {st st' : Sto} {H H' : Hp}
theorem WRep.bl {b : Bool} : WRep K Z ρ st H (.val (.bl b)) (.bl b) := Rep.bl (K := K) (Z := Z) (ρ := ρ) (st := st) (H := H)
theorem WRep.int {b : Int} : WRep K Z ρ st H (.val (.int b)) (.int b) := Rep.int (K := K) (Z := Z) (ρ := ρ) (st := st) (H := H)
theorem ERep.ext (S : SRep K Z ρ st H) (e : Ext ρ st H ρ' st' H') {env : En} {σ : St} (h : ERep K Z ρ st H env σ) : ERep K Z ρ' st' H' env σ :=
  ⟨h.1, fun i w hw => let ⟨v, h1, h2⟩ := h.2 i w hw; ⟨v, h1, h2.ext S e⟩⟩
theorem peek_rd (S : SRep K Z ρ st H) {w : Wv} {v : V} {d : D} (h : WRep K Z ρ st H w v) (e : peek w st = some d) : RdR K Z ρ st H d v := by
  cases w with
  | val d' =>
    simp only [peek] at e
    cases e
    exact Rep.rd h
  | cel n =>
    obtain ⟨a, h1, rfl⟩ := h
    obtain ⟨c, hc, rfl⟩ := Option.map_eq_some_iff.mp e
    obtain ⟨vs, h2, _, h3, h4⟩ := S.cell n a c h1 hc
    exact ⟨a, vs, rfl, h2, h3, h4⟩
  | pool xs n => cases e
  | scr ns => cases e
theorem peeks_rd (S : SRep K Z ρ st H) : ∀ {ws : List Wv} {vs : List V} {ds : List D}, WReps K Z ρ st H ws vs → peeks ws st = some ds → RdRs K Z ρ st H ds vs
  | [], vs, ds, h, e => by
    simp only [WReps] at h
    simp only [peeks] at e
    cases e
    simp only [RdRs]
    exact h
  | w :: r, vs, ds, h, e => by
    simp only [WReps] at h
    obtain ⟨v, t, rfl, h1, h2⟩ := h
    simp only [peeks] at e
    obtain ⟨d, hd, e⟩ := Option.bind_eq_some_iff.mp e
    obtain ⟨ds', hds, rfl⟩ := Option.map_eq_some_iff.mp e
    simp only [RdRs]
    exact ⟨v, t, rfl, peek_rd S h1 hd, peeks_rd S h2 hds⟩
theorem truV_of (S : SRep K Z ρ st H) {w : Wv} {v : V} {b : Bool} (h : WRep K Z ρ st H w v) (e : truth w st = some b) : TruV K v H b := by
  obtain ⟨d, hd, rfl⟩ := Option.map_eq_some_iff.mp e
  have r := peek_rd S h hd
  cases d with
  | non => rw [r.non]; rfl
  | bl b => rw [r.bl]; rfl
  | int b => rw [r.int]; rfl
  | str b => rw [r.str.1]; exact ⟨r.str.2, rfl⟩
  | tup xs =>
    obtain ⟨a, vs, rfl, h1, h2⟩ := r.tup
    refine .inr (.inl ⟨vs, h1, ?_⟩)
    have := h2.length
    cases vs <;> cases xs <;> first | rfl | (simp at this)
  | lst xs =>
    obtain ⟨a, vs, rfl, h1, h2⟩ := r.lst
    refine .inl ⟨vs, SqL.of h1, ?_⟩
    have := h2.length
    cases vs <;> cases xs <;> first | rfl | (simp at this)
theorem live_set {n : Nat} {xs : List D} (nd : ρ.Nodup) {a : Addr} : LiveA ρ (st.set n (.froz xs)) a ↔ LiveA ρ st a ∧ ρ[n]? ≠ some a := by
  constructor
  · rintro ⟨m, ys, h1, h2⟩
    by_cases hm : n = m
    · subst hm
      by_cases hl : n < st.length
      · rw [List.getElem?_set_self hl] at h2
        cases h2
      · rw [List.getElem?_eq_none (by simpa using hl)] at h2
        cases h2
    · rw [List.getElem?_set_ne hm] at h2
      refine ⟨⟨m, ys, h1, h2⟩, fun z => hm ?_⟩
      obtain ⟨g1, e1⟩ := List.getElem?_eq_some_iff.mp z
      obtain ⟨g2, e2⟩ := List.getElem?_eq_some_iff.mp h1
      exact (List.getElem_inj nd).mp (e1.trans e2.symm)
  · rintro ⟨⟨m, ys, h1, h2⟩, h3⟩
    refine ⟨m, ys, h1, ?_⟩
    rw [List.getElem?_set_ne (fun z => h3 (by rw [z]; exact h1))]
    exact h2
/-- a cell is closed: the heap stands -/
theorem froz_ok (S : SRep K Z ρ st H) {w : Wv} {v : V} {d : D} (h : WRep K Z ρ st H w v) (e : froz w st = some (d, st')) : Ext ρ st H ρ st' H ∧ SRep K Z ρ st' H ∧ Rep K Z ρ st' H d v := by
  cases w with
  | val d' =>
    simp only [froz] at e
    cases e
    exact ⟨Ext.refl, S, h⟩
  | cel n =>
    obtain ⟨a, h1, rfl⟩ := h
    obtain ⟨c, hc, e⟩ := Option.map_eq_some_iff.mp e
    cases e
    have E : Ext ρ st H ρ (st.set n (.froz c.items)) H := ⟨⟨[], (List.append_nil _).symm⟩, fun _ _ h _ => h, fun _ o h => ⟨o, h⟩, fun _ _ _ l => ((live_set S.nd).mp l).1⟩
    obtain ⟨vs, h2, h4, h3, h5⟩ := S.cell n a c h1 hc
    refine ⟨E, ⟨by rw [List.length_set]; exact S.len, S.nd, S.zd, fun m b c' g1 g2 => ?_⟩, ?_⟩
    · by_cases hm : n = m
      · subst hm
        rw [List.getElem?_set_self (List.getElem?_eq_some_iff.mp hc).1] at g2
        cases g2
        rw [h1] at g1
        cases g1
        exact ⟨vs, h2, h4, Reps.ext S E _ _ h3, h5⟩
      · rw [List.getElem?_set_ne hm] at g2
        obtain ⟨ws, k1, k2, k3, k4⟩ := S.cell m b c' g1 g2
        exact ⟨ws, k1, k2, Reps.ext S E _ _ k3, k4⟩
    · simp only [Rep]
      exact ⟨a, vs, rfl, h2, h4, fun l => ((live_set S.nd).mp l).2 h1, Reps.ext S E _ _ h3, h5⟩
  | pool xs n => cases e
  | scr ns => cases e
theorem WReps.ext (S : SRep K Z ρ st H) (e : Ext ρ st H ρ' st' H') : ∀ {ws : List Wv} {vs : List V}, WReps K Z ρ st H ws vs → WReps K Z ρ' st' H' ws vs
  | [], vs, h => by simpa only [WReps] using h
  | w :: r, vs, h => by
    simp only [WReps] at h ⊢
    obtain ⟨v, t, rfl, h1, h2⟩ := h
    exact ⟨v, t, rfl, h1.ext S e, WReps.ext S e h2⟩
theorem WReps.length : ∀ {ws : List Wv} {vs : List V}, WReps K Z ρ st H ws vs → vs.length = ws.length
  | [], vs, h => by
    simp only [WReps] at h
    rw [h]
    rfl
  | w :: r, vs, h => by
    simp only [WReps] at h
    obtain ⟨v, t, rfl, h1, h2⟩ := h
    rw [List.length_cons, List.length_cons, WReps.length h2]
theorem frozs_ok : ∀ {ws : List Wv} {vs : List V} {ds : List D} {st st' : Sto}, SRep K Z ρ st H → WReps K Z ρ st H ws vs → frozs ws st = some (ds, st') → Ext ρ st H ρ st' H ∧ SRep K Z ρ st' H ∧ Reps K Z ρ st' H ds vs
  | [], vs, ds, st, st', S, h, e => by
    simp only [WReps] at h
    simp only [frozs] at e
    cases e
    subst h
    exact ⟨Ext.refl, S, Reps.nil⟩
  | w :: r, vs, ds, st, st', S, h, e => by
    simp only [WReps] at h
    obtain ⟨v, t, rfl, h1, h2⟩ := h
    simp only [frozs] at e
    obtain ⟨⟨d, st1⟩, hd, e⟩ := Option.bind_eq_some_iff.mp e
    obtain ⟨⟨ds', st2⟩, hds, e⟩ := Option.map_eq_some_iff.mp e
    cases e
    obtain ⟨E1, S1, r1⟩ := froz_ok S h1 hd
    obtain ⟨E2, S2, r2⟩ := frozs_ok S1 (h2.ext S E1) hds
    exact ⟨E1.trans E2, S2, Reps.cons (Rep.ext S1 E2 _ _ r1) r2⟩
end
end L2.Ev
set_option Elab.async false
set_option linter.all false
set_option maxRecDepth 100000
set_option maxHeartbeats 4000000
namespace L2.Ev
open PySem PySem.Spec PyProof.Rows

/-! ### the code around, and what is asked of it -/
/-- what a def promises by the evaluator -/
def spD (K : PySem.W.Frag) (cf : CF) (n : Nat) (f : Str) : Sp := fun vs H Q _ => vs.length = n ∧ ∃ Z ρ st ws w st', SRep K Z ρ st H ∧ WReps K Z ρ st H ws vs ∧ cf f ws st = some (w, st') ∧ Fin K Z ρ st H w st' Q
structure Cs where
  N : List Str
  sc : Scope
  T : List (Str × Nat)
  G : List (Str × D)
  isPool : Bool := false
  fnc : Str → Bool := fun _ => true
def bltNames : List Str := ["len", "int", "str", "abs", "tuple", "list", "sum", "all", "any", "max", "min", "sorted", "isinstance", "range", "bool", "dict"]
structure Good (Γ : Cs) (cf : CF) (k : Nat) (X : Cx) : Prop where
  names : X.N = Γ.N
  nd : Γ.N.Nodup
  calm : X.calm = true
  xe : X.xe = fun _ _ => False
  room : Room k X.A
  sc : X.env.scope = Γ.sc
  fn : ∀ x, Γ.fnc x = true → X.fn x = true
  blt : ∀ x ∈ bltNames, X.mg x = none
  tab : ∀ f n, Γ.T.lookup f = some n → ∃ a fd ps, ps.length = n ∧ X.mg f = some (.ref a) ∧ PySem.W.keepIn X.K (.ref a) = true ∧ FnOk X.prog X.w X.K X.mg X.base CX0 k a fd ps (spD X.K cf n f) ∧ Binds X.K fd ps []
  glo : ∀ x d, Γ.G.lookup x = some d → ∃ u v, X.mg x = some u ∧ RelV v u ∧ ∀ Z ρ st H, Rep X.K Z ρ st H d v
def EvE (Γ : Cs) (cf : CF) (k : Nat) (e : Expr) (d : Den) : Prop := ∀ X, Good Γ cf k X → PE X e (tDen X.K cf d)
def EvT (Γ : Cs) (cf : CF) (k : Nat) (e : Expr) (d : Den) : Prop := ∀ X, Good Γ cf k X → PT X e (tTru X.K cf d)
def EvW (Γ : Cs) (cf : CF) (k : Nat) (e : Expr) (d : Den) : Prop := ∀ X, Good Γ cf k X → PW X e (tTru X.K cf d)
/-- a test that is a value -/
def Plain (e : Expr) : Prop := ∀ (env : Env) (whole : Sem Value), isTrue e env whole = (do let v ← whole; standAt e.pos; holding [v] (truthy v))
def NoStar (e : Expr) : Prop := ∀ (es : List Expr) (env : Env), starEach (e :: es) env = (false, eval e env) :: starEach es env

structure EvA (Γ : Cs) (cf : CF) (k : Nat) (es : List Expr) (d : DenL) : Prop where
  pa : ∀ X, Good Γ cf k X → PA X es (tDenL X.K cf d)
  len : ∀ cf env st r, d cf env st = some r → r.1.length = es.length
  ns : ∀ e ∈ es, NoStar e
section
variable {Γ : Cs} {cf : CF} {k : Nat} {e a b c : Expr} {da db dc : Den} {pos : Pos}
theorem Good.hu {X : Cx} (G : Good Γ cf k X) : X.A.units + 64 < cLine := G.room.units
theorem evT_of (h : EvE Γ cf k e da) (hp : Plain e) : EvT Γ cf k e da := fun X G =>
  (pt_truth (h X G) (hp X.env)).imp fun σ H Q ⟨Z, ρ, st, env, w, st', t, S, E, e1, e2, q⟩ =>
    ⟨Z, ρ, st, env, w, st', S, E, e1, fun v H' ρ' x S' r => ⟨t, truV_of S' r e2, q H' ρ' x S'⟩⟩
theorem evW_T (h : EvW Γ cf k e da) : EvT Γ cf k e da := fun X G => (h X G).pt

theorem ev_con (d : D) (v : V) (h : ∀ X : Cx, PE X e (tC v)) (hr : ∀ K Z ρ st H, Rep K Z ρ st H d v) : EvE Γ cf k e (dCon d) := fun X G =>
  (h X).imp fun σ H Q ⟨Z, ρ, st, env, w, st', S, E, e1, q⟩ => by
    cases e1
    exact q v H ρ Ext.refl S (hr _ _ _ _ _)
theorem ev_int {i : Int} {j : Nat} : EvE Γ cf k (.Constant (.int i) j pos) (dCon (.int i)) := ev_con _ (.int i) (fun X => pe_int) fun _ _ _ _ _ => Rep.int
theorem ev_bl {i : Bool} {j : Nat} : EvE Γ cf k (.Constant (.bool i) j pos) (dCon (.bl i)) := ev_con _ (.bl i) (fun X => pe_bl) fun _ _ _ _ _ => Rep.bl
theorem ev_non {j : Nat} : EvE Γ cf k (.Constant .none j pos) (dCon .non) := ev_con _ .non (fun X => pe_non) fun _ _ _ _ _ => Rep.non
theorem ev_str {x : Str} {j : Nat} (h : x.length ≤ sizeLine) : EvE Γ cf k (.Constant (.str x) j pos) (dCon (.str x)) := ev_con _ (.str x) (fun X => pe_str) fun _ _ _ _ _ => Rep.str h
theorem ev_var {i : Nat} {x : Str} (hi : Γ.N[i]? = some x) (hv : Vis Γ.sc x) (hd : (x == ("__debug__" : Str)) = false) (hcd : (x == ("__classdict__" : Str)) = false) : EvE Γ cf k (.Name x pos) (dVar i) := fun X G =>
  (pe_var (i := i) (by rw [G.names]; exact hi) (by rw [G.sc]; exact hv) hd hcd).imp fun σ H Q ⟨Z, ρ, st, env, w, st', S, E, e1, q⟩ => by
    obtain ⟨w', hw, e1⟩ := Option.map_eq_some_iff.mp e1
    cases e1
    obtain ⟨o, ho, hw⟩ := Option.bind_eq_some_iff.mp hw
    have hw' : o = some w := hw
    subst hw'
    obtain ⟨v, h1, h2⟩ := E.2 i w ho
    exact ⟨v, h1, q v H ρ Ext.refl S h2⟩
theorem ev_glob {x : Str} {d : D} (hg : Γ.sc.names.lookup x = some .globalImplicit) (hx : Γ.G.lookup x = some d) (hd : (x == ("__debug__" : Str)) = false) : EvE Γ cf k (.Name x pos) (dCon d) := fun X G => by
  obtain ⟨u, v, h1, h2, h3⟩ := G.glo x d hx
  refine (pe_glob (by show X.env.scope.names.lookup x = _; rw [G.sc]; exact hg) h1 h2 hd).imp fun σ H Q ⟨Z, ρ, st, env, w, st', S, E, e1, q⟩ => ?_
  cases e1
  exact q v H ρ Ext.refl S (h3 _ _ _ _)

/-- two in a row -/
theorem two_den {K : PySem.W.Frag} {σ : St} {H : Hp} {R : V → V → Hp → Prop} {Z ρ : List Addr} {st : Sto} {env : En} {p q : Wv × Sto} (S : SRep K Z ρ st H) (E : ERep K Z ρ st H env σ) (e1 : da cf env st = some p) (e2 : db cf env p.2 = some q)
    (h : ∀ x y H' ρ', Ext ρ st H ρ' q.2 H' → SRep K Z ρ' q.2 H' → WRep K Z ρ' q.2 H' p.1 x → WRep K Z ρ' q.2 H' q.1 y → R x y H') : tDen K cf da σ H fun x H1 => tDen K cf db σ H1 fun y H2 => R x y H2 :=
  ⟨Z, ρ, st, env, p.1, p.2, S, E, e1, fun x H1 ρ1 x1 S1 r1 => ⟨Z, ρ1, p.2, env, q.1, q.2, S1, E.ext S x1, e2, fun y H2 ρ2 x2 S2 r2 => h x y H2 ρ2 (x1.trans x2) S2 (r1.ext S1 x2) r2⟩⟩
theorem fin_same {K : PySem.W.Frag} {Z ρ ρ' : List Addr} {st st' : Sto} {H H' : Hp} {d : D} {Q : VK} (q : Fin K Z ρ st H (.val d) st' Q) (x : Ext ρ st H ρ' st' H') (S : SRep K Z ρ' st' H') :
    ∀ v H'', Same H' H'' → Rep K Z ρ' st' H'' d v → Q v H'' := fun v H'' s r => q v H'' ρ' (x.trans (Same.ext s)) (S.same s) r
theorem ev_bin {op : Operator} (ha : EvE Γ cf k a da) (hb : EvE Γ cf k b db) : EvE Γ cf k (.BinOp a op b pos) (dBin op da db) := fun X G =>
  (pe_op (op_binD op) (ha X G) (hb X G)).imp fun σ H Q ⟨Z, ρ, st, env, w, st', S, E, e, q⟩ => by
    obtain ⟨p, e1, e⟩ := Option.bind_eq_some_iff.mp e
    obtain ⟨r, e2, e⟩ := Option.bind_eq_some_iff.mp e
    obtain ⟨x, e3, e⟩ := Option.bind_eq_some_iff.mp e
    obtain ⟨y, e4, e⟩ := Option.bind_eq_some_iff.mp e
    obtain ⟨d, e5, e⟩ := Option.map_eq_some_iff.mp e
    cases e
    exact two_den S E e1 e2 fun v u H' ρ' X' S' r1 r2 => ⟨Z, ρ', r.2, x, y, d, S', peek_rd S' r1 e3, peek_rd S' r2 e4, e5, fin_same q X' S'⟩
theorem ev_cmp {op : CmpOp} (ha : EvE Γ cf k a da) (hb : EvE Γ cf k b db) (hm : behindInMarks op b = false) : EvE Γ cf k (.Compare a [op] [b] pos) (dCmp op da db) := fun X G =>
  (pe_cmpR (op_cmpD G.hu op) (ha X G) (hb X G) hm).imp fun σ H Q ⟨Z, ρ, st, env, w, st', S, E, e, q⟩ => by
    obtain ⟨p, e1, e⟩ := Option.bind_eq_some_iff.mp e
    obtain ⟨r, e2, e⟩ := Option.bind_eq_some_iff.mp e
    obtain ⟨x, e3, e⟩ := Option.bind_eq_some_iff.mp e
    obtain ⟨y, e4, e⟩ := Option.bind_eq_some_iff.mp e
    obtain ⟨d, e5, e⟩ := Option.map_eq_some_iff.mp e
    cases e
    exact two_den S E e1 e2 fun v u H' ρ' X' S' r1 r2 => ⟨Z, ρ', r.2, x, y, d, S', peek_rd S' r1 e3, peek_rd S' r2 e4, e5, fin_same q X' S'⟩
theorem bl_of {d : D} {st : Sto} {t : Bool} (hd : ∃ b, d = .bl b) (e : truth (.val d) st = some t) : d = .bl t := by
  obtain ⟨b, rfl⟩ := hd
  cases e
  rfl
theorem cmpD_bl {op : CmpOp} {x y d : D} (h : cmpD op x y = some d) : ∃ b, d = .bl b := by
  cases op <;> simp only [cmpD] at h
  · obtain ⟨b, _, rfl⟩ := Option.map_eq_some_iff.mp h; exact ⟨_, rfl⟩
  · obtain ⟨b, _, rfl⟩ := Option.map_eq_some_iff.mp h; exact ⟨_, rfl⟩
  · unfold ltD at h; split at h <;> cases h; exact ⟨_, rfl⟩
  · unfold leD at h; split at h <;> cases h; exact ⟨_, rfl⟩
  · unfold gtD at h; split at h <;> cases h; exact ⟨_, rfl⟩
  · unfold geD at h; split at h <;> cases h; exact ⟨_, rfl⟩
  · unfold isD at h; split at h <;> cases h <;> exact ⟨_, rfl⟩
  · unfold isnotD at h; split at h <;> cases h <;> exact ⟨_, rfl⟩
  · obtain ⟨b, _, rfl⟩ := Option.map_eq_some_iff.mp h; exact ⟨_, rfl⟩
  · obtain ⟨b, _, rfl⟩ := Option.map_eq_some_iff.mp h; exact ⟨_, rfl⟩
theorem evT_cmp {op : CmpOp} (ha : EvE Γ cf k a da) (hb : EvE Γ cf k b db) (hm : behindInMarks op b = false) : EvT Γ cf k (.Compare a [op] [b] pos) (dCmp op da db) := fun X G =>
  (pt_cmpR (op_cmpD G.hu op) (ha X G) (hb X G) hm).imp fun σ H Q ⟨Z, ρ, st, env, w, st', t, S, E, e, et, q⟩ => by
    obtain ⟨p, e1, e⟩ := Option.bind_eq_some_iff.mp e
    obtain ⟨r, e2, e⟩ := Option.bind_eq_some_iff.mp e
    obtain ⟨x, e3, e⟩ := Option.bind_eq_some_iff.mp e
    obtain ⟨y, e4, e⟩ := Option.bind_eq_some_iff.mp e
    obtain ⟨d, e5, e⟩ := Option.map_eq_some_iff.mp e
    cases e
    have hd := bl_of (cmpD_bl e5) et
    subst hd
    exact two_den S E e1 e2 fun v u H' ρ' X' S' r1 r2 => ⟨Z, ρ', r.2, x, y, .bl t, S', peek_rd S' r1 e3, peek_rd S' r2 e4, e5, fun z H'' s rz => by
      simp only [Rep] at rz
      exact ⟨t, rz, q H'' ρ' (X'.trans (Same.ext s)) (S'.same s)⟩⟩
/-- a chain's reading, for any end that takes its bools -/
theorem chain_den {op op' : CmpOp} {K : PySem.W.Frag} {σ : St} {H : Hp} {Q : VK} {Z ρ : List Addr} {st : Sto} {env : En} {w : Wv} {st' : Sto} (S : SRep K Z ρ st H) (E : ERep K Z ρ st H env σ) (e : dChain op op' da db dc cf env st = some (w, st'))
    (q : Fin K Z ρ st H w st' Q) : tChain (rD2 K (cmpD op)) (rD2 K (cmpD op')) (tDen K cf da) (tDen K cf db) (tDen K cf dc) σ H Q := by
  obtain ⟨p, e1, e⟩ := Option.bind_eq_some_iff.mp e
  obtain ⟨r, e2, e⟩ := Option.bind_eq_some_iff.mp e
  obtain ⟨x, e3, e⟩ := Option.bind_eq_some_iff.mp e
  obtain ⟨y, e4, e⟩ := Option.bind_eq_some_iff.mp e
  obtain ⟨d, e5, e⟩ := Option.bind_eq_some_iff.mp e
  refine two_den S E e1 e2 fun v u H' ρ' X' S' r1 r2 => ⟨Z, ρ', r.2, x, y, d, S', peek_rd S' r1 e3, peek_rd S' r2 e4, e5, fun z H'' s rz => ?_⟩
  have S'' := S'.same s
  split at e
  · simp only [Rep] at rz
    refine ⟨true, rz, ?_⟩
    rw [if_pos rfl]
    obtain ⟨t, e6, e⟩ := Option.bind_eq_some_iff.mp e
    obtain ⟨y', e7, e⟩ := Option.bind_eq_some_iff.mp e
    obtain ⟨z', e8, e⟩ := Option.bind_eq_some_iff.mp e
    obtain ⟨d', e9, e⟩ := Option.map_eq_some_iff.mp e
    cases e
    refine ⟨Z, ρ', r.2, env, t.1, t.2, S'', (E.ext S X').ext S' (Same.ext s), e6, fun v3 H3 ρ3 X3 S3 r3 => ?_⟩
    exact ⟨Z, ρ3, t.2, y', z', d', S3, peek_rd S3 ((r2.ext S' (Same.ext s)).ext S'' X3) e7, peek_rd S3 r3 e8, e9, fin_same q ((X'.trans (Same.ext s)).trans X3) S3⟩
  · simp only [Rep] at rz
    refine ⟨false, rz, ?_⟩
    rw [if_neg Bool.false_ne_true]
    cases e
    exact q _ _ _ (X'.trans (Same.ext s)) S'' WRep.bl
  · cases e
theorem ev_chain {op op' : CmpOp} (ha : EvE Γ cf k a da) (hb : EvE Γ cf k b db) (hc : EvE Γ cf k c dc) (hm : lastMarks [op, op'] [b, c] = false) : EvE Γ cf k (.Compare a [op, op'] [b, c] pos) (dChain op op' da db dc) := fun X G =>
  (pe_chain (op_cmpD G.hu op) (op_cmpD G.hu op') (ha X G) (hb X G) (hc X G) hm).imp fun σ H Q ⟨Z, ρ, st, env, w, st', S, E, e, q⟩ => chain_den S E e q
theorem chain_bl {op op' : CmpOp} {env : En} {st st' : Sto} {w : Wv} (e : dChain op op' da db dc cf env st = some (w, st')) : ∃ b, w = .val (.bl b) := by
  obtain ⟨p, e1, e⟩ := Option.bind_eq_some_iff.mp e
  obtain ⟨r, e2, e⟩ := Option.bind_eq_some_iff.mp e
  obtain ⟨x, e3, e⟩ := Option.bind_eq_some_iff.mp e
  obtain ⟨y, e4, e⟩ := Option.bind_eq_some_iff.mp e
  obtain ⟨d, e5, e⟩ := Option.bind_eq_some_iff.mp e
  split at e
  · obtain ⟨t, e6, e⟩ := Option.bind_eq_some_iff.mp e
    obtain ⟨y', e7, e⟩ := Option.bind_eq_some_iff.mp e
    obtain ⟨z', e8, e⟩ := Option.bind_eq_some_iff.mp e
    obtain ⟨d', e9, e⟩ := Option.map_eq_some_iff.mp e
    cases e
    obtain ⟨b, rfl⟩ := cmpD_bl e9
    exact ⟨b, rfl⟩
  · cases e
    exact ⟨_, rfl⟩
  · cases e
theorem evT_chain {op op' : CmpOp} (ha : EvE Γ cf k a da) (hb : EvE Γ cf k b db) (hc : EvE Γ cf k c dc) (hm : lastMarks [op, op'] [b, c] = false) : EvT Γ cf k (.Compare a [op, op'] [b, c] pos) (dChain op op' da db dc) := fun X G =>
  (pt_chain (op_cmpD G.hu op) (op_cmpD G.hu op') (ha X G) (hb X G) (hc X G) hm).imp fun σ H Q ⟨Z, ρ, st, env, w, st', t, S, E, e, et, q⟩ => by
    obtain ⟨b, rfl⟩ := chain_bl e
    cases et
    refine chain_den S E e fun v H' ρ' X' S' r => ?_
    have r' : Rep X.K Z ρ' st' H' (.bl b) v := r
    simp only [Rep] at r'
    exact ⟨b, r', q H' ρ' X' S'⟩
theorem ev_neg (ha : EvE Γ cf k a da) : EvE Γ cf k (.UnaryOp .USub a pos) (dNeg da) := fun X G =>
  (pe_un un_negD (ha X G)).imp fun σ H Q ⟨Z, ρ, st, env, w, st', S, E, e, q⟩ => by
    obtain ⟨p, e1, e⟩ := Option.bind_eq_some_iff.mp e
    obtain ⟨x, e3, e⟩ := Option.bind_eq_some_iff.mp e
    obtain ⟨d, e5, e⟩ := Option.map_eq_some_iff.mp e
    cases e
    exact ⟨Z, ρ, st, env, p.1, p.2, S, E, e1, fun v H' ρ' X' S' r1 => ⟨Z, ρ', p.2, x, d, S', peek_rd S' r1 e3, e5, fin_same q X' S'⟩⟩
theorem ev_not (ha : EvE Γ cf k a da) : EvE Γ cf k (.UnaryOp .Not a pos) (dNot da) := fun X G =>
  (pe_notT (ha X G)).imp fun σ H Q ⟨Z, ρ, st, env, w, st', S, E, e, q⟩ => by
    obtain ⟨p, e1, e⟩ := Option.bind_eq_some_iff.mp e
    obtain ⟨b, e3, e⟩ := Option.map_eq_some_iff.mp e
    cases e
    exact ⟨Z, ρ, st, env, p.1, p.2, S, E, e1, fun v H' ρ' X' S' r1 => ⟨b, truV_of S' r1 e3, q _ _ _ X' S' WRep.bl⟩⟩
theorem evT_not (ha : EvT Γ cf k a da) : EvT Γ cf k (.UnaryOp .Not a pos) (dNot da) := fun X G =>
  (pt_not (ha X G)).imp fun σ H Q ⟨Z, ρ, st, env, w, st', t, S, E, e, et, q⟩ => by
    obtain ⟨p, e1, e⟩ := Option.bind_eq_some_iff.mp e
    obtain ⟨b, e3, e⟩ := Option.map_eq_some_iff.mp e
    cases e
    cases et
    exact ⟨Z, ρ, st, env, p.1, p.2, b, S, E, e1, e3, fun H' ρ' X' S' => q _ _ X' S'⟩
variable {rest : List Expr}
theorem ev_one {op : PySem.BoolOp} (ha : EvE Γ cf k a da) : EvE Γ cf k (.BoolOp op [a] pos) da := fun X G => pe_one (ha X G)
theorem ev_and (ha : EvE Γ cf k a da) (hb : EvE Γ cf k (.BoolOp .And (b :: rest) pos) db) : EvE Γ cf k (.BoolOp .And (a :: b :: rest) pos) (dAnd da db) := fun X G =>
  (pe_andT (ha X G) (hb X G)).imp fun σ H Q ⟨Z, ρ, st, env, w, st', S, E, e, q⟩ => by
    obtain ⟨p, e1, e⟩ := Option.bind_eq_some_iff.mp e
    obtain ⟨t, e3, e⟩ := Option.bind_eq_some_iff.mp e
    refine ⟨Z, ρ, st, env, p.1, p.2, S, E, e1, fun v H' ρ' X' S' r1 => ⟨t, truV_of S' r1 e3, ?_⟩⟩
    cases t with
    | true =>
      rw [if_pos rfl] at e ⊢
      exact ⟨Z, ρ', p.2, env, w, st', S', E.ext S X', e, fun v H'' ρ'' X'' S'' r => q v H'' ρ'' (X'.trans X'') S'' r⟩
    | false =>
      rw [if_neg Bool.false_ne_true] at e ⊢
      cases e
      exact q v H' ρ' X' S' r1
theorem ev_or (ha : EvE Γ cf k a da) (hb : EvE Γ cf k (.BoolOp .Or (b :: rest) pos) db) : EvE Γ cf k (.BoolOp .Or (a :: b :: rest) pos) (dOr da db) := fun X G =>
  (pe_orT (ha X G) (hb X G)).imp fun σ H Q ⟨Z, ρ, st, env, w, st', S, E, e, q⟩ => by
    obtain ⟨p, e1, e⟩ := Option.bind_eq_some_iff.mp e
    obtain ⟨t, e3, e⟩ := Option.bind_eq_some_iff.mp e
    refine ⟨Z, ρ, st, env, p.1, p.2, S, E, e1, fun v H' ρ' X' S' r1 => ⟨t, truV_of S' r1 e3, ?_⟩⟩
    cases t with
    | false =>
      rw [if_neg Bool.false_ne_true] at e ⊢
      exact ⟨Z, ρ', p.2, env, w, st', S', E.ext S X', e, fun v H'' ρ'' X'' S'' r => q v H'' ρ'' (X'.trans X'') S'' r⟩
    | true =>
      rw [if_pos rfl] at e ⊢
      cases e
      exact q v H' ρ' X' S' r1
theorem evW_and1 (ha : EvT Γ cf k a da) : EvW Γ cf k (.BoolOp .And [a] pos) da := fun X G => pw_and1 (ha X G)
theorem evW_or1 (ha : EvT Γ cf k a da) : EvW Γ cf k (.BoolOp .Or [a] pos) da := fun X G => pw_or1 (ha X G)
theorem evW_and (ha : EvT Γ cf k a da) (hb : EvW Γ cf k (.BoolOp .And (b :: rest) pos) db) : EvW Γ cf k (.BoolOp .And (a :: b :: rest) pos) (dAnd da db) := fun X G =>
  (pw_and (ha X G) (hb X G)).imp fun σ H Q ⟨Z, ρ, st, env, w, st', u, S, E, e, et, q⟩ => by
    obtain ⟨p, e1, e⟩ := Option.bind_eq_some_iff.mp e
    obtain ⟨t, e3, e⟩ := Option.bind_eq_some_iff.mp e
    refine ⟨Z, ρ, st, env, p.1, p.2, t, S, E, e1, e3, fun H' ρ' X' S' => ?_⟩
    cases t with
    | true =>
      rw [if_pos rfl] at e ⊢
      exact ⟨Z, ρ', p.2, env, w, st', u, S', E.ext S X', e, et, fun H'' ρ'' X'' S'' => q H'' ρ'' (X'.trans X'') S''⟩
    | false =>
      rw [if_neg Bool.false_ne_true] at e ⊢
      cases e
      rw [e3] at et
      cases et
      exact q H' ρ' X' S'
theorem evW_or (ha : EvT Γ cf k a da) (hb : EvW Γ cf k (.BoolOp .Or (b :: rest) pos) db) : EvW Γ cf k (.BoolOp .Or (a :: b :: rest) pos) (dOr da db) := fun X G =>
  (pw_or (ha X G) (hb X G)).imp fun σ H Q ⟨Z, ρ, st, env, w, st', u, S, E, e, et, q⟩ => by
    obtain ⟨p, e1, e⟩ := Option.bind_eq_some_iff.mp e
    obtain ⟨t, e3, e⟩ := Option.bind_eq_some_iff.mp e
    refine ⟨Z, ρ, st, env, p.1, p.2, t, S, E, e1, e3, fun H' ρ' X' S' => ?_⟩
    cases t with
    | false =>
      rw [if_neg Bool.false_ne_true] at e ⊢
      exact ⟨Z, ρ', p.2, env, w, st', u, S', E.ext S X', e, et, fun H'' ρ'' X'' S'' => q H'' ρ'' (X'.trans X'') S''⟩
    | true =>
      rw [if_pos rfl] at e ⊢
      cases e
      rw [e3] at et
      cases et
      exact q H' ρ' X' S'
theorem ev_ite (hc : EvT Γ cf k c dc) (ha : EvE Γ cf k a da) (hb : EvE Γ cf k b db) : EvE Γ cf k (.IfExp c a b pos) (dIte dc da db) := fun X G =>
  (pe_ifExp (hc X G) (ha X G) (hb X G)).imp fun σ H Q ⟨Z, ρ, st, env, w, st', S, E, e, q⟩ => by
    obtain ⟨p, e1, e⟩ := Option.bind_eq_some_iff.mp e
    obtain ⟨t, e3, e⟩ := Option.bind_eq_some_iff.mp e
    refine ⟨Z, ρ, st, env, p.1, p.2, t, S, E, e1, e3, fun H' ρ' X' S' => ?_⟩
    cases t with
    | true =>
      rw [if_pos rfl] at e ⊢
      exact ⟨Z, ρ', p.2, env, w, st', S', E.ext S X', e, fun v H'' ρ'' X'' S'' r => q v H'' ρ'' (X'.trans X'') S'' r⟩
    | false =>
      rw [if_neg Bool.false_ne_true] at e ⊢
      exact ⟨Z, ρ', p.2, env, w, st', S', E.ext S X', e, fun v H'' ρ'' X'' S'' r => q v H'' ρ'' (X'.trans X'') S'' r⟩
/-- subscripts -/
theorem idx_two {K : PySem.W.Frag} {Z ρ : List Addr} {st : Sto} {H : Hp} {w i r : Wv} {x y : V} {Q : VK} (S : SRep K Z ρ st H) (rw' : WRep K Z ρ st H w x) (ri : WRep K Z ρ st H i y) (e : idxW w i st = some r)
    (q : ∀ v H', Same H H' → WRep K Z ρ st H' r v → Q v H') : (rIx K x y H Q) ∨ rD2 K idxD x y H Q := by
  have gen : ∀ {d d' z : D}, peek w st = some d → peek i st = some d' → idxD d d' = some z → r = .val z → rD2 K idxD x y H Q := fun h1 h2 h3 h4 => by
    subst h4
    exact ⟨Z, ρ, st, _, _, _, S, peek_rd S rw' h1, peek_rd S ri h2, h3, fun v H' s r => q v H' s r⟩
  cases w with
  | pool xs n =>
    obtain ⟨a, b, c, vs, rfl, h1, h2, h3, h4, h5, h6⟩ := rw'
    simp only [idxW] at e
    split at e
    · cases e
      have ri' : Rep K Z ρ st H (.int 0) y := ri
      simp only [Rep] at ri'
      subst ri'
      refine .inl (.inl ⟨a, _, 0, .ref b, rfl, rfl, SqL.of h1, rfl, q _ _ (Same.refl H) ?_⟩)
      show Rep K Z ρ st H (.lst xs) (.ref b)
      simp only [Rep]
      exact ⟨b, vs, rfl, h3, h4.1, h4.2, h5.1, h5.2⟩
    · cases e
      have ri' : Rep K Z ρ st H (.int 1) y := ri
      simp only [Rep] at ri'
      subst ri'
      exact .inl (.inl ⟨a, _, 1, .ref c, rfl, rfl, SqL.of h1, rfl, q _ _ (Same.refl H) ⟨c, h6, rfl⟩⟩)
    · cases e
  | scr ns =>
    obtain ⟨a, rfl, h1⟩ := rw'
    have hq : SqL K H a (ns.map V.int) := by
      rcases h1 with ⟨o, h1⟩ | h1
      · exact .inl (.inr ⟨o, h1⟩)
      · exact .inr h1
    simp only [idxW] at e
    obtain ⟨d, hd, e⟩ := Option.bind_eq_some_iff.mp e
    split at e
    · obtain ⟨m, hm, rfl⟩ := Option.map_eq_some_iff.mp e
      obtain rfl := (peek_rd S ri hd).int
      refine .inl (.inl ⟨a, _, _, .int m, rfl, rfl, hq, ?_, q _ _ (Same.refl H) WRep.int⟩)
      unfold atI at hm ⊢
      obtain ⟨j, hj, hm⟩ := Option.bind_eq_some_iff.mp hm
      rw [List.length_map, hj]
      show (ns.map V.int)[j]? = _
      rw [List.getElem?_map, hm]
      rfl
    · cases e
  | val d =>
    simp only [idxW] at e
    obtain ⟨d1, hd, e⟩ := Option.bind_eq_some_iff.mp e
    obtain ⟨d2, hd2, e⟩ := Option.bind_eq_some_iff.mp e
    obtain ⟨z, hz, rfl⟩ := Option.map_eq_some_iff.mp e
    exact .inr (gen hd hd2 hz rfl)
  | cel n =>
    simp only [idxW] at e
    obtain ⟨d1, hd, e⟩ := Option.bind_eq_some_iff.mp e
    obtain ⟨d2, hd2, e⟩ := Option.bind_eq_some_iff.mp e
    obtain ⟨z, hz, rfl⟩ := Option.map_eq_some_iff.mp e
    exact .inr (gen hd hd2 hz rfl)
theorem ev_idx (ha : EvE Γ cf k a da) (hb : EvE Γ cf k b db) (hs : PlainIx b) : EvE Γ cf k (.Subscript a b pos) (dIdx da db) := fun X G =>
  (pe_ix (ix_seq.or ix_D) (ha X G) (hb X G) hs).imp fun σ H Q ⟨Z, ρ, st, env, w, st', S, E, e, q⟩ => by
    obtain ⟨p, e1, e⟩ := Option.bind_eq_some_iff.mp e
    obtain ⟨r, e2, e⟩ := Option.bind_eq_some_iff.mp e
    obtain ⟨x, e3, e⟩ := Option.map_eq_some_iff.mp e
    cases e
    exact two_den S E e1 e2 fun v u H' ρ' X' S' r1 r2 => idx_two S' r1 r2 e3 fun v H'' s r => q v H'' ρ' (X'.trans (Same.ext s)) (S'.same s) r
end
end L2.Ev
set_option Elab.async false
set_option linter.all false
set_option maxRecDepth 100000
set_option maxHeartbeats 4000000
namespace L2.Ev
open PySem PySem.Spec PyProof.Rows

section
variable {Γ : Cs} {cf : CF} {k : Nat} {e a b c : Expr} {es : List Expr} {da db dc : Den} {as : DenL} {pos : Pos}
/-- parts of a slice -/
def EvO (Γ : Cs) (cf : CF) (k : Nat) (e : Option Expr) (d : CF → En → Sto → Option (Option Int × Sto)) : Prop := ∀ X, Good Γ cf k X → PO X e (fun σ H Q => ∃ Z ρ st env o st', SRep X.K Z ρ st H ∧ ERep X.K Z ρ st H env σ ∧ d cf env st = some (o, st') ∧ ∀ H' ρ', Ext ρ st H ρ' st' H' → SRep X.K Z ρ' st' H' → Q o H')
theorem PO.imp {X : Cx} {e : Option Expr} {t t' : TO} (h : PO X e t) (i : ∀ σ H Q, t' σ H Q → t σ H Q) : PO X e t' := ⟨fun pins s σ H Q I q => h.run pins s σ H Q I (i σ H Q q)⟩
theorem evo_none : EvO Γ cf k none dNone := fun X G => PO.imp po_none fun σ H Q ⟨Z, ρ, st, env, o, st', S, E, e, q⟩ => by
  cases e
  exact q H ρ Ext.refl S
theorem evo_some (ha : EvE Γ cf k a da) : EvO Γ cf k (some a) (dPart da) := fun X G => PO.imp (po_some (ha X G)) fun σ H Q ⟨Z, ρ, st, env, o, st', S, E, e, q⟩ => by
  obtain ⟨p, e1, e⟩ := Option.bind_eq_some_iff.mp e
  refine ⟨Z, ρ, st, env, p.1, p.2, S, E, e1, fun v H' ρ' X' S' r => ?_⟩
  split at e
  · rename_i i hp
    cases e
    rw [hp] at r
    have r' : Rep X.K Z ρ' p.2 H' (.int i) v := r
    simp only [Rep] at r'
    exact ⟨i, r', q H' ρ' X' S'⟩
  · cases e
theorem ev_slc {lo hi : Option Expr} {dl dh : CF → En → Sto → Option (Option Int × Sto)} {p2 : Pos} (ha : EvE Γ cf k a da) (hl : EvO Γ cf k lo dl) (hh : EvO Γ cf k hi dh) : EvE Γ cf k (.Subscript a (.Slice lo hi none p2) pos) (dSlc da dl dh) := fun X G =>
  (pe_slice sl_D (ha X G) (hl X G) (hh X G)).imp fun σ H Q ⟨Z, ρ, st, env, w, st', S, E, e, q⟩ => by
    obtain ⟨p, e1, e⟩ := Option.bind_eq_some_iff.mp e
    obtain ⟨l, e2, e⟩ := Option.bind_eq_some_iff.mp e
    obtain ⟨h, e3, e⟩ := Option.bind_eq_some_iff.mp e
    obtain ⟨x, e4, e⟩ := Option.bind_eq_some_iff.mp e
    obtain ⟨d, e5, e⟩ := Option.map_eq_some_iff.mp e
    cases e
    refine ⟨Z, ρ, st, env, p.1, p.2, S, E, e1, fun v H1 ρ1 X1 S1 r1 => ?_⟩
    refine ⟨Z, ρ1, p.2, env, l.1, l.2, S1, E.ext S X1, e2, fun H2 ρ2 X2 S2 => ?_⟩
    refine ⟨Z, ρ2, l.2, env, h.1, h.2, S2, (E.ext S X1).ext S1 X2, e3, fun H3 ρ3 X3 S3 => ?_⟩
    exact ⟨Z, ρ3, h.2, x, d, S3, peek_rd S3 ((r1.ext S1 X2).ext S2 X3) e4, e5, fin_same q ((X1.trans X2).trans X3) S3⟩

/-! ### arguments, displays, calls -/
theorem eva_nil : EvA Γ cf k [] dNil := ⟨fun X G => pa_nil.imp fun σ H Q ⟨Z, ρ, st, env, ws, st', S, E, e, q⟩ => by
  cases e
  exact q [] H ρ Ext.refl S (by simp only [WReps]), fun cf env st r e => by cases e; rfl, fun e h => by simp at h⟩
theorem eva_cons (hn : NoStar a) (ha : EvE Γ cf k a da) (hr : EvA Γ cf k es as) : EvA Γ cf k (a :: es) (dCons da as) := ⟨fun X G =>
  (pa_cons (ha X G) (hr.pa X G) (hn es X.env)).imp fun σ H Q ⟨Z, ρ, st, env, ws, st', S, E, e, q⟩ => by
    obtain ⟨p, e1, e⟩ := Option.bind_eq_some_iff.mp e
    obtain ⟨r, e2, e⟩ := Option.map_eq_some_iff.mp e
    cases e
    refine ⟨Z, ρ, st, env, p.1, p.2, S, E, e1, fun v H1 ρ1 X1 S1 r1 => ?_⟩
    refine ⟨Z, ρ1, p.2, env, r.1, r.2, S1, E.ext S X1, e2, fun vs H2 ρ2 X2 S2 r2 => q (v :: vs) H2 ρ2 (X1.trans X2) S2 ?_⟩
    simp only [WReps]
    exact ⟨v, vs, rfl, r1.ext S1 X2, r2⟩,
  fun cf env st r e => by
    obtain ⟨p, e1, e⟩ := Option.bind_eq_some_iff.mp e
    obtain ⟨r', e2, e⟩ := Option.map_eq_some_iff.mp e
    cases e
    simp [hr.len _ _ _ _ e2],
  fun e h => by
    rcases List.mem_cons.mp h with rfl | h
    · exact hn
    · exact hr.ns e h⟩
theorem stars_none : ∀ {es : List Expr} (pos : Pos) (env : Env), (∀ e ∈ es, NoStar e) → (backTo pos (starEach es env)).any (·.1) = false
  | [], pos, env, h => rfl
  | e :: es, pos, env, h => by
    rw [h e List.mem_cons_self es env]
    show (false || (backTo pos (starEach es env)).any (·.1)) = false
    rw [stars_none pos env fun x hx => h x (List.mem_cons_of_mem _ hx)]
    rfl
theorem ev_tup {x1 : Nat} (h : EvA Γ cf k es as) : EvE Γ cf k (.Tuple es x1 pos) (dTup as) := fun X G =>
  (pe_tup (h.pa X G)).imp fun σ H Q ⟨Z, ρ, st, env, w, st', S, E, e, q⟩ => by
    obtain ⟨p, e1, e⟩ := Option.bind_eq_some_iff.mp e
    obtain ⟨r, e2, e⟩ := Option.bind_eq_some_iff.mp e
    split at e
    · rename_i hz
      cases e
      refine ⟨Z, ρ, st, env, p.1, p.2, S, E, e1, fun vs H1 ρ1 X1 S1 r1 => ?_⟩
      obtain ⟨E2, S2, r2⟩ := frozs_ok S1 r1 e2
      refine ⟨by rw [r2.length]; exact szOk_of hz, fun pp hp => ?_⟩
      exact q _ _ _ (X1.trans (E2.trans (Same.ext (Same.fresh hp)))) (S2.same (Same.fresh hp)) (Rep.newT S2 hp r2 (szOk_of hz))
    · cases e
theorem ev_lst (h : EvA Γ cf k es as) : EvE Γ cf k (.List es pos) (dLst as) := fun X G =>
  (pe_lst (h.pa X G)).imp fun σ H Q ⟨Z, ρ, st, env, w, st', S, E, e, q⟩ => by
    obtain ⟨p, e1, e⟩ := Option.bind_eq_some_iff.mp e
    obtain ⟨r, e2, e⟩ := Option.bind_eq_some_iff.mp e
    split at e
    · rename_i hz
      cases e
      refine ⟨Z, ρ, st, env, p.1, p.2, S, E, e1, fun vs H1 ρ1 X1 S1 r1 => ?_⟩
      obtain ⟨E2, S2, r2⟩ := frozs_ok S1 r1 e2
      refine ⟨by rw [r2.length]; exact szOk_of hz, fun pp hp => ?_⟩
      exact q _ _ _ (X1.trans (E2.trans (Same.ext (Same.fresh hp)))) (S2.same (Same.fresh hp)) (Rep.newL S2 hp r2 (szOk_of hz))
    · cases e
/-- a new cell, of an object that nothing else is -/
theorem new_cell {K : PySem.W.Frag} {Z ρ : List Addr} {st : Sto} {H : Hp} {p : Addr} {ds : List D} {vs : List V} (S : SRep K Z ρ st H) (hp : H p = none) (h : Reps K Z ρ st H ds vs) (hz : ds.length ≤ sizeLine) :
    Ext ρ st H (ρ ++ [p]) (st ++ [.live ds]) (upd H p (.lst vs)) ∧ SRep K Z (ρ ++ [p]) (st ++ [.live ds]) (upd H p (.lst vs)) := by
  have hρ : p ∉ ρ := fun hm => by
    obtain ⟨n, hn⟩ := List.getElem?_of_mem hm
    have hl : n < st.length := by rw [← S.len]; exact (List.getElem?_eq_some_iff.mp hn).1
    obtain ⟨ws, hw, _⟩ := S.cell n p _ hn (List.getElem?_eq_getElem hl)
    rw [hp] at hw
    cases hw
  have E : Ext ρ st H (ρ ++ [p]) (st ++ [.live ds]) (upd H p (.lst vs)) := by
    refine ⟨⟨[p], rfl⟩, fun a o ha _ => Same.fresh hp a o ha, fun a o ha => ⟨o, Same.fresh hp a o ha⟩, fun a o ha l => ?_⟩
    obtain ⟨n, xs, h1, h2⟩ := l
    by_cases hn : n < ρ.length
    · rw [List.getElem?_append_left hn] at h1
      rw [List.getElem?_append_left (by rw [← S.len]; exact hn)] at h2
      exact ⟨n, xs, h1, h2⟩
    · rw [List.getElem?_append_right (by omega)] at h1
      have e : n - ρ.length = 0 := by
        have := (List.getElem?_eq_some_iff.mp h1).1
        simp at this
        omega
      rw [e] at h1
      cases h1
      rw [hp] at ha
      cases ha
  refine ⟨E, ⟨by simp [S.len], ?_, fun z hz => ?_, fun n a c h1 h2 => ?_⟩⟩
  · rw [List.nodup_append]
    refine ⟨S.nd, by simp, fun a ha b hb => ?_⟩
    simp at hb
    subst hb
    exact fun z => hρ (z ▸ ha)
  · obtain ⟨o, ho⟩ := S.zd z hz
    exact ⟨o, Same.fresh hp z o ho⟩
  · by_cases hn : n < ρ.length
    · rw [List.getElem?_append_left hn] at h1
      rw [List.getElem?_append_left (by rw [← S.len]; exact hn)] at h2
      obtain ⟨ws, k1, k2, k3, k4⟩ := S.cell n a c h1 h2
      exact ⟨ws, Same.fresh hp a _ k1, k2, Reps.ext S E _ _ k3, k4⟩
    · rw [List.getElem?_append_right (by omega)] at h1
      have e : n - ρ.length = 0 := by
        have := (List.getElem?_eq_some_iff.mp h1).1
        simp at this
        omega
      rw [e] at h1
      cases h1
      rw [List.getElem?_append_right (by rw [← S.len]; omega)] at h2
      rw [show n - st.length = 0 by rw [← S.len]; exact e] at h2
      cases h2
      exact ⟨vs, upd_same, S.notZ hp, Reps.ext S E _ _ h, hz⟩
theorem ev_pool {i : Int} {p1 p2 : Pos} {j : Nat} (hn : NoStar a) (ha : EvE Γ cf k a da) : EvE Γ cf k (.List [a, .List [.Constant (.int i) j p1] p2] pos) (dPool da i) := fun X G => by
  have h2 : PE X (.List [.Constant (.int i) j p1] p2) (tLst (tCons (tC (.int i)) tNil)) := pe_lst (pa_cons pe_int pa_nil)
  refine (pe_lst (pa_cons (ha X G) (pa_cons h2 pa_nil) (hn _ X.env))).imp fun σ H Q ⟨Z, ρ, st, env, w, st', S, E, e, q⟩ => ?_
  obtain ⟨p, e1, e⟩ := Option.bind_eq_some_iff.mp e
  obtain ⟨r, e2, e⟩ := Option.bind_eq_some_iff.mp e
  split at e
  · rename_i xs hr
    cases e
    refine ⟨Z, ρ, st, env, p.1, p.2, S, E, e1, fun v H1 ρ1 X1 S1 r1 => ?_⟩
    obtain ⟨r1', r2'⟩ := r
    simp only at hr
    subst hr
    obtain ⟨E2, S2, rr⟩ := froz_ok S1 r1 e2
    refine ⟨by show 1 ≤ sizeLine; decide, fun c hc => ?_⟩
    refine ⟨by show 2 ≤ sizeLine; decide, fun o ho => ?_⟩
    obtain ⟨E3, S3⟩ := new_cell (ds := [.int i]) (vs := [.int i]) S2 hc (Reps.cons Rep.int Reps.nil) (by show 1 ≤ sizeLine; decide)
    have E4 := Same.ext (ρ := ρ1 ++ [c]) (st := r2' ++ [.live [.int i]]) (Same.fresh (o := .lst [v, .ref c]) ho)
    have S4 := S3.same (Same.fresh (o := .lst [v, .ref c]) ho)
    refine q (.ref o) _ (ρ1 ++ [c]) (X1.trans (E2.trans (E3.trans E4))) S4 ?_
    have rr2 := Rep.ext S3 E4 _ _ (Rep.ext S2 E3 _ _ rr)
    simp only [Rep] at rr2
    obtain ⟨b, vs, rfl, g1, g2, g3, g4, g5⟩ := rr2
    refine ⟨o, b, c, vs, rfl, upd_same, ⟨S3.notZ ho, fun l => ?_⟩, g1, ⟨g2, g3⟩, ⟨g4, g5⟩, ?_⟩
    · exact S3.notLive ho l
    · show (ρ1 ++ [c])[r2'.length]? = some c
      rw [List.getElem?_append_right (by rw [← S2.len]; exact Nat.le_refl _), ← S2.len, Nat.sub_self]
      rfl
  · cases e
theorem ev_call0 {f : Str} {p : Pos} (hg : Γ.sc.names.lookup f = some .globalImplicit) (hf : Γ.T.lookup f = some 0) (hd : (f == ("__debug__" : Str)) = false) : EvE Γ cf k (.Call (.Name f p) [] [] pos) (dCall f dNil) := fun X G => by
  obtain ⟨a, fd, ps, hl, hm, hk, F, B⟩ := G.tab f 0 hf
  refine (pe_call0 (E := E0) F G.room (by show X.env.scope.names.lookup f = _; rw [G.sc]; exact hg) hm hk B .nil pass0 hd).imp fun σ H Q ⟨Z, ρ, st, env, w, st', S, E, e, q⟩ => ?_
  have e' : cf f [] st = some (w, st') := e
  exact ⟨rfl, Z, ρ, st, [], w, st', S, (by simp only [WReps]; rfl), e', q⟩
theorem ev_call {f : Str} {n : Nat} {p : Pos} {x : Expr} (hg : Γ.sc.names.lookup f = some .globalImplicit) (hf : Γ.T.lookup f = some n) (hn : (x :: es).length = n) (hd : (f == ("__debug__" : Str)) = false) (ha : EvA Γ cf k (x :: es) as) : EvE Γ cf k (.Call (.Name f p) (x :: es) [] pos) (dCall f as) := fun X G => by
  obtain ⟨a, fd, ps, hl, hm, hk, F, B⟩ := G.tab f n hf
  refine (pe_call (E := E0) F G.room (by show X.env.scope.names.lookup f = _; rw [G.sc]; exact hg) hm hk B .nil pass0 (ha.pa X G) hd (ha.ns x List.mem_cons_self es X.env) (stars_none _ _ fun e h => ha.ns e (List.mem_cons_of_mem _ h))).imp fun σ H Q ⟨Z, ρ, st, env, w, st', S, E, e, q⟩ => ?_
  obtain ⟨p, e1, e⟩ := Option.bind_eq_some_iff.mp e
  refine ⟨Z, ρ, st, env, p.1, p.2, S, E, e1, fun vs H1 ρ1 X1 S1 r1 => ?_⟩
  show spD X.K cf n f (vs ++ []) H1 Q E0
  rw [List.append_nil]
  exact ⟨by rw [r1.length, ha.len _ _ _ _ e1, hn], Z, ρ1, p.2, p.1, w, st', S1, r1, e, fun v H2 ρ2 X2 S2 r2 => q v H2 ρ2 (X1.trans X2) S2 r2⟩

/-! ### built-ins -/
def primFn : Prim → Str × Value
  | .len => ("len", .builtin "len") | .int => ("int", .type "int") | .str => ("str", .type "str") | .abs => ("abs", .builtin "abs") | .tuple => ("tuple", .type "tuple") | .list => ("list", .type "list")
  | .sum => ("sum", .builtin "sum") | .all => ("all", .builtin "all") | .any => ("any", .builtin "any") | .max => ("max", .builtin "max") | .min => ("min", .builtin "min") | .sorted => ("sorted", .builtin "sorted")
theorem cr_primD {X : Cx} (hc : X.calm = true) (hu : X.A.units + 64 < cLine) : ∀ p : Prim, CallR X (primFn p).2 (rDn X.K (primD p))
  | .len => cr_lenD | .int => cr_intD | .str => cr_strD | .abs => cr_absD | .tuple => cr_tupleD | .list => cr_listD | .sum => cr_sumD hc | .all => cr_allD hc | .any => cr_anyD hc | .max => cr_maxD hc | .min => cr_minD hc | .sorted => cr_sortedD hu
/-- by values of the evaluator's -/
def rWn (K : PySem.W.Frag) (f : List Wv → Sto → Option Wv) : List V → Hp → VK → Prop := fun vs H Q => ∃ Z ρ st ws w, SRep K Z ρ st H ∧ WReps K Z ρ st H ws vs ∧ f ws st = some w ∧ ∀ v H', Same H H' → WRep K Z ρ st H' w v → Q v H'
theorem primW_gen {K : PySem.W.Frag} {p : Prim} {vs : List V} {H : Hp} {Q : VK} {Z ρ : List Addr} {st : Sto} {ws : List Wv} {w : Wv} (S : SRep K Z ρ st H) (r : WReps K Z ρ st H ws vs) (e : (peeks ws st).bind (fun ds => (primD p ds).map .val) = some w)
    (q : ∀ v H', Same H H' → WRep K Z ρ st H' w v → Q v H') : rDn K (primD p) vs H Q := by
  obtain ⟨ds, h1, e⟩ := Option.bind_eq_some_iff.mp e
  obtain ⟨d, h2, rfl⟩ := Option.map_eq_some_iff.mp e
  exact ⟨Z, ρ, st, ds, d, S, peeks_rd S r h1, h2, fun v H' s r => q v H' s r⟩
theorem cr_primW {X : Cx} (hc : X.calm = true) (hu : X.A.units + 64 < cLine) (p : Prim) : CallR X (primFn p).2 (rWn X.K (primW p)) := by
  intro pins s σ H xs us Q I r ⟨Z, ρ, st, ws, w, S, rr, e, q⟩
  unfold primW at e
  split at e
  · rename_i ns
    cases e
    simp only [WReps] at rr
    obtain ⟨v, t, rfl, ⟨a, rfl, h1⟩, rfl⟩ := rr
    have hq : SqL X.K H a (ns.map V.int) := by
      rcases h1 with ⟨o, h1⟩ | h1
      · exact .inl (.inr ⟨o, h1⟩)
      · exact .inr h1
    refine call_len_seq pins s σ H _ us Q I r ⟨a, _, rfl, .inl hq, ?_⟩
    rw [List.length_map, ← lenI_eq]
    exact q _ _ (Same.refl H) WRep.int
  · exact cr_primD hc hu _ pins s σ H xs us Q I r (primW_gen S rr e q)
theorem ev_prim {p : Prim} {x : Expr} {p1 : Pos} (hg : Γ.sc.names.lookup (primFn p).1 = some .globalImplicit) (ha : EvA Γ cf k (x :: es) as) : EvE Γ cf k (.Call (.Name (primFn p).1 p1) (x :: es) [] pos) (dPrim p as) := fun X G => by
  have hg' : Gl X (primFn p).1 := by show X.env.scope.names.lookup _ = _; rw [G.sc]; exact hg
  have hm : X.mg (primFn p).1 = none := G.blt _ (by cases p <;> decide +kernel)
  have go : PE X (.Call (.Name (primFn p).1 p1) (x :: es) [] pos) (tCB (rWn X.K (primW p)) (tDenL X.K cf as)) := by
    have hst := ha.ns x List.mem_cons_self es X.env
    have hpl := stars_none pos X.env fun e h => ha.ns e (List.mem_cons_of_mem x h)
    have R := cr_primW G.calm G.hu p
    cases p <;> first
      | exact pe_callB R hg' hm (by decide +kernel) (ha.pa X G) (by decide +kernel) (by decide +kernel) hst hpl
      | exact pe_callTy R hg' hm (by decide +kernel) (ha.pa X G) (by decide +kernel) (by decide +kernel) hst hpl
  refine go.imp fun σ H Q ⟨Z, ρ, st, env, w, st', S, E, e, q⟩ => ?_
  obtain ⟨r, e1, e⟩ := Option.bind_eq_some_iff.mp e
  obtain ⟨w', e2, e⟩ := Option.map_eq_some_iff.mp e
  cases e
  exact ⟨Z, ρ, st, env, r.1, r.2, S, E, e1, fun vs H1 ρ1 X1 S1 r1 => ⟨Z, ρ1, r.2, r.1, _, S1, r1, e2, fun v H2 s r2 => q v H2 ρ1 (X1.trans (Same.ext s)) (S1.same s) r2⟩⟩
/-- isinstance(e, T) -/
def tyNames : List (Str × String) := [("int", "int"), ("bool", "bool"), ("str", "str"), ("tuple", "tuple"), ("list", "list"), ("dict", "dict")]
theorem ty_boot : ∀ p ∈ tyNames, bootBuiltins p.1 = some (.type p.2) ∧ p.1 ∈ bltNames ∧ p.1 ≠ "__name__" ∧ (p.1 == ("__debug__" : Str)) = false := by decide +kernel
theorem ev_isi {x T : Str} {t : String} {p1 p2 : Pos} (hg : Γ.sc.names.lookup (PySem.Str.ofString "isinstance") = some .globalImplicit) (hT : Γ.sc.names.lookup T = some .globalImplicit) (ht : (T, t) ∈ tyNames) (hn : NoStar a) (ha : EvE Γ cf k a da) :
    EvE Γ cf k (.Call (.Name (PySem.Str.ofString "isinstance") p1) [a, .Name T p2] [] pos) (dIsi da t) := fun X G => by
  obtain ⟨b1, b2, b3, b4⟩ := ty_boot _ ht
  have gg : ∀ {x : Str}, Γ.sc.names.lookup x = some .globalImplicit → Gl X x := fun {x} h => by show X.env.scope.names.lookup x = _; rw [G.sc]; exact h
  have hty : PE X (.Name T p2) (tC (.ty t)) := pe_bltn (gg hT) (G.blt _ b2) b1 rfl b3 b4
  have hst : starEach [a, .Name T p2] X.env = (false, eval a X.env) :: starEach [.Name T p2] X.env := hn _ _
  refine (pe_callB (cr_isiD (T := t)) (gg hg) (G.blt _ (by decide +kernel)) (by decide +kernel) (pa_cons (ha X G) (pa_cons hty pa_nil) hst) (by decide +kernel) (by decide +kernel) hst).imp fun σ H Q ⟨Z, ρ, st, env, w, st', S, E, e, q⟩ => ?_
  obtain ⟨p, e1, e⟩ := Option.bind_eq_some_iff.mp e
  obtain ⟨d, e2, e⟩ := Option.bind_eq_some_iff.mp e
  obtain ⟨d', e3, e⟩ := Option.map_eq_some_iff.mp e
  cases e
  refine ⟨Z, ρ, st, env, p.1, p.2, S, E, e1, fun v H1 ρ1 X1 S1 r1 => ?_⟩
  obtain ⟨b, hb, e4⟩ := Option.map_eq_some_iff.mp e3
  subst e4
  exact ⟨Z, ρ1, p.2, v, d, b, rfl, S1, peek_rd S1 r1 e2, e3, q _ _ _ X1 S1 WRep.bl⟩
end
end L2.Ev
set_option Elab.async false
set_option linter.all false
set_option maxRecDepth 100000
set_option maxHeartbeats 4000000
namespace L2.Ev
open PySem PySem.Spec PyProof.Rows

/-! ### what is walked -/
inductive Iv where
  | items (xs : List D) | cel (n : Nat)
abbrev DenI := CF → En → Sto → Option (Iv × Sto)
def rgD (lo : Int) (n : Nat) : List D := (List.range n).map fun i => .int (lo + (i : Nat))
def charsD (x : Str) : List D := x.cps.toList.map fun c => .str ⟨#[c]⟩
def rgOk (lo hi : Int) : Bool := sm lo 4611686018427387904 && sm hi 4611686018427387904 && Nat.ble (hi - lo).toNat 16777216
def iterW : Wv → Sto → Option Iv
  | .val (.lst xs), _ => some (.items xs)
  | .val (.tup xs), _ => some (.items xs)
  | .val (.str x), _ => some (.items (charsD x))
  | .cel n, _ => some (.cel n)
  | _, _ => none
def dIter (a : Den) : DenI := fun cf env st => (a cf env st).bind fun p => (iterW p.1 p.2).map fun v => (v, p.2)
def rngW : List Wv → Option Iv
  | [.val (.int j)] => if rgOk 0 j then some (.items (rgD 0 j.toNat)) else none
  | [.val (.int i), .val (.int j)] => if rgOk i j then some (.items (rgD i (j - i).toNat)) else none
  | _ => none
def dRng (as : DenL) : DenI := fun cf env st => (as cf env st).bind fun p => (rngW p.1).map fun v => (v, p.2)
def itD : Iv → Sto → Option (List D)
  | .items xs, _ => some xs
  | .cel n, st => st[n]?.map Cel.items

def ItRep (K : PySem.W.Frag) (Z ρ : List Addr) (st : Sto) (H : Hp) : Iv → It → Prop
  | .items xs, J => xs.length ≤ sizeLine ∧ ((∃ lo n, J = Itr lo n ∧ xs = rgD lo n) ∨ (∃ a vs, J = Itl K a ∧ H a = some (.lst vs) ∧ a ∉ Z ∧ ¬ LiveA ρ st a ∧ Reps K Z ρ st H xs vs) ∨ (∃ a vs, J = Itt K a ∧ SqT K H a vs ∧ Reps K Z ρ st H xs vs) ∨ ∃ x, J = Its x ∧ xs = charsD x)
  | .cel n, J => ∃ a, J = Itl K a ∧ ρ[n]? = some a
def tIt (K : PySem.W.Frag) (cf : CF) (d : DenI) : TI := fun σ H R => ∃ Z ρ st env v st', SRep K Z ρ st H ∧ ERep K Z ρ st H env σ ∧ d cf env st = some (v, st') ∧ ∀ J H' ρ', Ext ρ st H ρ' st' H' → SRep K Z ρ' st' H' → ItRep K Z ρ' st' H' v J → R J H'
def EvI (Γ : Cs) (cf : CF) (k : Nat) (e : Expr) (d : DenI) : Prop := ∀ X tg, Good Γ cf k X → PI X tg e (tIt X.K cf d)
theorem PI.imp {X : Cx} {tg e : Expr} {t t' : TI} (h : PI X tg e t) (i : ∀ σ H R, t' σ H R → t σ H R) : PI X tg e t' := ⟨fun pins s σ H R I q => h.run pins s σ H R I (i σ H R q)⟩

section
variable {K : PySem.W.Frag} {Z ρ ρ' : List Addr} {st st' : Sto} {H H' : Hp}
theorem ItRep.ext (S : SRep K Z ρ st H) (e : Ext ρ st H ρ' st' H') {v : Iv} {J : It} (h : ItRep K Z ρ st H v J) : ItRep K Z ρ' st' H' v J := by
  cases v with
  | items xs =>
    obtain ⟨hz, h⟩ := h
    refine ⟨hz, ?_⟩
    rcases h with h | ⟨a, vs, h1, h2, h3, h4, h5⟩ | ⟨a, vs, h1, h2, h3⟩ | h
    · exact .inl h
    · exact .inr (.inl ⟨a, vs, h1, e.keep _ _ h2 h4, h3, fun l => h4 (e.live _ _ h2 l), Reps.ext S e _ _ h5⟩)
    · exact .inr (.inr (.inl ⟨a, vs, h1, e.sqT S h2, Reps.ext S e _ _ h3⟩))
    · exact .inr (.inr (.inr h))
  | cel n =>
    obtain ⟨a, h1, h2⟩ := h
    exact ⟨a, h1, e.rho h2⟩
/-- an item of what is walked -/
theorem ItRep.go (S : SRep K Z ρ st H) {v : Iv} {J : It} (h : ItRep K Z ρ st H v J) {xs : List D} (e : itD v st = some xs) {i : Nat} {d : D} (hd : xs[i]? = some d) : J.go i H ∧ i < xs.length ∧ xs.length ≤ sizeLine ∧ ∀ x H', J.yld i H x H' → H' = H ∧ Rep K Z ρ st H d x := by
  have hi : i < xs.length := (List.getElem?_eq_some_iff.mp hd).1
  cases v with
  | items ys =>
    cases e
    obtain ⟨hz, h⟩ := h
    rcases h with ⟨lo, n, rfl, rfl⟩ | ⟨a, vs, rfl, h2, h3, h4, h5⟩ | ⟨a, vs, rfl, h2, h3⟩ | ⟨z, rfl, rfl⟩
    · have hn : i < n := by unfold rgD at hi; simpa using hi
      refine ⟨hn, hi, hz, fun x H' y => ?_⟩
      obtain ⟨e1, e2⟩ := y
      subst e1 e2
      refine ⟨rfl, ?_⟩
      unfold rgD at hd
      rw [List.getElem?_map, List.getElem?_range hn] at hd
      cases hd
      exact Rep.int
    · obtain ⟨w, hw, r⟩ := h5.get hd
      refine ⟨⟨vs, w, SqL.of h2, hw⟩, hi, hz, fun x H' y => ?_⟩
      obtain ⟨e1, e2⟩ := y
      subst e1
      have := (e2 vs (SqL.of h2)).symm.trans hw
      cases this
      exact ⟨rfl, r⟩
    · obtain ⟨w, hw, r⟩ := h3.get hd
      refine ⟨⟨vs, w, h2, hw⟩, hi, hz, fun x H' y => ?_⟩
      obtain ⟨e1, e2⟩ := y
      subst e1
      have := (e2 vs h2).symm.trans hw
      cases this
      exact ⟨rfl, r⟩
    · have hn : i < z.cps.size := by unfold charsD at hi; simpa using hi
      refine ⟨hn, hi, hz, fun x H' y => ?_⟩
      obtain ⟨e1, c, e2, e3⟩ := y
      subst e1 e3
      refine ⟨rfl, ?_⟩
      unfold charsD at hd
      rw [List.getElem?_map, Array.getElem?_toList, e2] at hd
      cases hd
      exact Rep.str (by show 1 ≤ sizeLine; decide)
  | cel n =>
    obtain ⟨a, rfl, ha⟩ := h
    obtain ⟨c, hc, rfl⟩ := Option.map_eq_some_iff.mp e
    obtain ⟨vs, h2, h3, h4, h5⟩ := S.cell n a c ha hc
    obtain ⟨w, hw, r⟩ := h4.get hd
    refine ⟨⟨vs, w, SqL.of h2, hw⟩, hi, h5, fun x H' y => ?_⟩
    obtain ⟨e1, e2⟩ := y
    subst e1
    have := (e2 vs (SqL.of h2)).symm.trans hw
    cases this
    exact ⟨rfl, r⟩
theorem ItRep.stop (S : SRep K Z ρ st H) {v : Iv} {J : It} (h : ItRep K Z ρ st H v J) {xs : List D} (e : itD v st = some xs) {i : Nat} (hi : xs.length ≤ i) : J.stop i H := by
  cases v with
  | items ys =>
    cases e
    obtain ⟨hz, h⟩ := h
    rcases h with ⟨lo, n, rfl, rfl⟩ | ⟨a, vs, rfl, h2, h3, h4, h5⟩ | ⟨a, vs, rfl, h2, h3⟩ | ⟨z, rfl, rfl⟩
    · show n ≤ i
      unfold rgD at hi
      simpa using hi
    · exact ⟨vs, SqL.of h2, by rw [h5.length]; exact hi⟩
    · exact ⟨vs, h2, by rw [h3.length]; exact hi⟩
    · show z.cps.size ≤ i
      unfold charsD at hi
      simpa using hi
  | cel n =>
    obtain ⟨a, rfl, ha⟩ := h
    obtain ⟨c, hc, rfl⟩ := Option.map_eq_some_iff.mp e
    obtain ⟨vs, h2, h3, h4, h5⟩ := S.cell n a c ha hc
    exact ⟨vs, SqL.of h2, by rw [h4.length]; exact hi⟩

/-! ### a list that is being made: out of reach -/
mutual
theorem Rep.lift {D0 : Addr} (S : SRep K Z ρ st H) (e : Ext ρ st H ρ' st' H') (h0 : H D0 = none) : ∀ (d : D) (v : V), Rep K Z ρ st H d v → Rep K (D0 :: Z) ρ' st' H' d v
  | .non, v, h => by simpa only [Rep] using h
  | .bl b, v, h => by simpa only [Rep] using h
  | .int i, v, h => by simpa only [Rep] using h
  | .str x, v, h => by simpa only [Rep] using h
  | .tup xs, v, h => by
    simp only [Rep] at h ⊢
    obtain ⟨a, vs, h1, h2, h3, h4⟩ := h
    exact ⟨a, vs, h1, e.sqT S h2, Reps.lift S e h0 xs vs h3, h4⟩
  | .lst xs, v, h => by
    simp only [Rep] at h ⊢
    obtain ⟨a, vs, h1, h2, h3, h4, h5, h6⟩ := h
    refine ⟨a, vs, h1, e.keep _ _ h2 h4, fun m => ?_, fun l => h4 (e.live _ _ h2 l), Reps.lift S e h0 xs vs h5, h6⟩
    rcases List.mem_cons.mp m with rfl | m
    · rw [h0] at h2
      cases h2
    · exact h3 m
theorem Reps.lift {D0 : Addr} (S : SRep K Z ρ st H) (e : Ext ρ st H ρ' st' H') (h0 : H D0 = none) : ∀ (ds : List D) (vs : List V), Reps K Z ρ st H ds vs → Reps K (D0 :: Z) ρ' st' H' ds vs
  | [], vs, h => by simpa only [Reps] using h
  | x :: xs, vs, h => by
    simp only [Reps] at h ⊢
    obtain ⟨v, r, h1, h2, h3⟩ := h
    exact ⟨v, r, h1, Rep.lift S e h0 x v h2, Reps.lift S e h0 xs r h3⟩
end
theorem WRep.lift {D0 : Addr} (S : SRep K Z ρ st H) (e : Ext ρ st H ρ' st' H') (h0 : H D0 = none) {w : Wv} {v : V} (h : WRep K Z ρ st H w v) : WRep K (D0 :: Z) ρ' st' H' w v := by
  cases w with
  | val d => exact Rep.lift S e h0 d v h
  | cel n =>
    obtain ⟨a, h1, h2⟩ := h
    exact ⟨a, e.rho h1, h2⟩
  | pool xs n =>
    obtain ⟨a, b, c, vs, h1, h2, h3, h4, h5, h6, h7⟩ := h
    have no : ∀ {a : Addr} {o : HO}, H a = some o → a ∉ Z → a ∉ D0 :: Z := fun {a o} ha hz m => by
      rcases List.mem_cons.mp m with rfl | m
      · rw [h0] at ha
        cases ha
      · exact hz m
    exact ⟨a, b, c, vs, h1, e.keep _ _ h2 h3.2, ⟨no h2 h3.1, fun l => h3.2 (e.live _ _ h2 l)⟩, e.keep _ _ h4 h5.2, ⟨no h4 h5.1, fun l => h5.2 (e.live _ _ h4 l)⟩, ⟨Reps.lift S e h0 _ _ h6.1, h6.2⟩, e.rho h7⟩
  | scr ns =>
    have := WRep.ext S e (w := .scr ns) h
    exact this
theorem ERep.lift {D0 : Addr} (S : SRep K Z ρ st H) (e : Ext ρ st H ρ' st' H') (h0 : H D0 = none) {env : En} {σ : St} (h : ERep K Z ρ st H env σ) : ERep K (D0 :: Z) ρ' st' H' env σ :=
  ⟨h.1, fun i w hw => let ⟨v, h1, h2⟩ := h.2 i w hw; ⟨v, h1, h2.lift S e h0⟩⟩
theorem ItRep.lift {D0 : Addr} (S : SRep K Z ρ st H) (e : Ext ρ st H ρ' st' H') (h0 : H D0 = none) {v : Iv} {J : It} (h : ItRep K Z ρ st H v J) : ItRep K (D0 :: Z) ρ' st' H' v J := by
  cases v with
  | items xs =>
    obtain ⟨hz, h⟩ := h
    refine ⟨hz, ?_⟩
    rcases h with h | ⟨a, vs, h1, h2, h3, h4, h5⟩ | ⟨a, vs, h1, h2, h3⟩ | h
    · exact .inl h
    · refine .inr (.inl ⟨a, vs, h1, e.keep _ _ h2 h4, fun m => ?_, fun l => h4 (e.live _ _ h2 l), Reps.lift S e h0 _ _ h5⟩)
      rcases List.mem_cons.mp m with rfl | m
      · rw [h0] at h2
        cases h2
      · exact h3 m
    · exact .inr (.inr (.inl ⟨a, vs, h1, e.sqT S h2, Reps.lift S e h0 _ _ h3⟩))
    · exact .inr (.inr (.inr h))
  | cel n =>
    obtain ⟨a, h1, h2⟩ := h
    exact ⟨a, h1, e.rho h2⟩
/-- the list comes to be -/
theorem SRep.begin {D0 : Addr} (S : SRep K Z ρ st H) (h0 : H D0 = none) (o : HO) : SRep K (D0 :: Z) ρ st (upd H D0 o) := by
  have e : Ext ρ st H ρ st (upd H D0 o) := Same.ext (Same.fresh h0)
  refine ⟨S.len, S.nd, fun z hz => ?_, fun n a c h1 h2 => ?_⟩
  · rcases List.mem_cons.mp hz with rfl | hz
    · exact ⟨o, upd_same⟩
    · obtain ⟨u, hu⟩ := S.zd z hz
      exact ⟨u, Same.fresh h0 z u hu⟩
  · obtain ⟨vs, k1, k2, k3, k4⟩ := S.cell n a c h1 h2
    refine ⟨vs, Same.fresh h0 a _ k1, fun m => ?_, Reps.lift S e h0 _ _ k3, k4⟩
    rcases List.mem_cons.mp m with rfl | m
    · rw [h0] at k1
      cases k1
    · exact k2 m
mutual
/-- it is written: nothing leans on it -/
theorem Rep.upd {D0 : Addr} {xs : List V} {o : HO} (h0 : H D0 = some (.lst xs)) : ∀ (d : D) (v : V), Rep K (D0 :: Z) ρ st H d v → Rep K (D0 :: Z) ρ st (L2.upd H D0 o) d v
  | .non, v, h => by simpa only [Rep] using h
  | .bl b, v, h => by simpa only [Rep] using h
  | .int i, v, h => by simpa only [Rep] using h
  | .str x, v, h => by simpa only [Rep] using h
  | .tup ds, v, h => by
    simp only [Rep] at h ⊢
    obtain ⟨a, vs, h1, h2, h3, h4⟩ := h
    refine ⟨a, vs, h1, ?_, Reps.upd h0 ds vs h3, h4⟩
    rcases h2 with (h2 | ⟨u, h2⟩) | h2
    · exact .inl (.inl (by rw [upd_ne (fun z => by rw [z, h0] at h2; cases h2)]; exact h2))
    · exact .inl (.inr ⟨u, by rw [upd_ne (fun z => by rw [z, h0] at h2; cases h2)]; exact h2⟩)
    · exact .inr h2
  | .lst ds, v, h => by
    simp only [Rep] at h ⊢
    obtain ⟨a, vs, h1, h2, h3, h4, h5, h6⟩ := h
    have hne : a ≠ D0 := fun z => h3 (by rw [z]; exact List.mem_cons_self)
    exact ⟨a, vs, h1, by rw [upd_ne hne]; exact h2, h3, h4, Reps.upd h0 ds vs h5, h6⟩
theorem Reps.upd {D0 : Addr} {xs : List V} {o : HO} (h0 : H D0 = some (.lst xs)) : ∀ (ds : List D) (vs : List V), Reps K (D0 :: Z) ρ st H ds vs → Reps K (D0 :: Z) ρ st (L2.upd H D0 o) ds vs
  | [], vs, h => by simpa only [Reps] using h
  | x :: xs', vs, h => by
    simp only [Reps] at h ⊢
    obtain ⟨v, r, h1, h2, h3⟩ := h
    exact ⟨v, r, h1, Rep.upd h0 x v h2, Reps.upd h0 xs' r h3⟩
end
theorem SRep.upd {D0 : Addr} {xs : List V} {o : HO} (h0 : H D0 = some (.lst xs)) (S : SRep K (D0 :: Z) ρ st H) : SRep K (D0 :: Z) ρ st (L2.upd H D0 o) := by
  refine ⟨S.len, S.nd, fun z hz => ?_, fun n a c h1 h2 => ?_⟩
  · by_cases e : z = D0
    · subst e
      exact ⟨o, upd_same⟩
    · obtain ⟨u, hu⟩ := S.zd z hz
      exact ⟨u, by rw [upd_ne e]; exact hu⟩
  · obtain ⟨vs, k1, k2, k3, k4⟩ := S.cell n a c h1 h2
    have hne : a ≠ D0 := fun z => k2 (by rw [z]; exact List.mem_cons_self)
    exact ⟨vs, by rw [upd_ne hne]; exact k1, k2, Reps.upd h0 _ _ k3, k4⟩
theorem Ext.updN {D0 : Addr} {o : HO} (e : Ext ρ st H ρ' st' H') (h0 : H D0 = none) : Ext ρ st H ρ' st' (L2.upd H' D0 o) := by
  have hne : ∀ {a : Addr} {u : HO}, H a = some u → a ≠ D0 := fun {a u} ha z => by
    rw [z, h0] at ha
    cases ha
  exact ⟨e.pre, fun a u h n => by rw [upd_ne (hne h)]; exact e.keep a u h n, fun a u h => by rw [upd_ne (hne h)]; exact e.dom a u h, e.live⟩
mutual
/-- it is within reach again -/
theorem Rep.drop {D0 : Addr} : ∀ (d : D) (v : V), Rep K (D0 :: Z) ρ st H d v → Rep K Z ρ st H d v
  | .non, v, h => by simpa only [Rep] using h
  | .bl b, v, h => by simpa only [Rep] using h
  | .int i, v, h => by simpa only [Rep] using h
  | .str x, v, h => by simpa only [Rep] using h
  | .tup ds, v, h => by
    simp only [Rep] at h ⊢
    obtain ⟨a, vs, h1, h2, h3, h4⟩ := h
    exact ⟨a, vs, h1, h2, Reps.zdrop ds vs h3, h4⟩
  | .lst ds, v, h => by
    simp only [Rep] at h ⊢
    obtain ⟨a, vs, h1, h2, h3, h4, h5, h6⟩ := h
    exact ⟨a, vs, h1, h2, fun m => h3 (List.mem_cons_of_mem _ m), h4, Reps.zdrop ds vs h5, h6⟩
theorem Reps.zdrop {D0 : Addr} : ∀ (ds : List D) (vs : List V), Reps K (D0 :: Z) ρ st H ds vs → Reps K Z ρ st H ds vs
  | [], vs, h => by simpa only [Reps] using h
  | x :: xs', vs, h => by
    simp only [Reps] at h ⊢
    obtain ⟨v, r, h1, h2, h3⟩ := h
    exact ⟨v, r, h1, Rep.drop x v h2, Reps.zdrop xs' r h3⟩
end
theorem SRep.zdrop {D0 : Addr} (S : SRep K (D0 :: Z) ρ st H) : SRep K Z ρ st H := by
  refine ⟨S.len, S.nd, fun z hz => S.zd z (List.mem_cons_of_mem _ hz), fun n a c h1 h2 => ?_⟩
  obtain ⟨vs, k1, k2, k3, k4⟩ := S.cell n a c h1 h2
  exact ⟨vs, k1, fun m => k2 (List.mem_cons_of_mem _ m), Reps.zdrop _ _ k3, k4⟩
theorem SRep.notLiveZ {a : Addr} (S : SRep K Z ρ st H) (hz : a ∈ Z) : ¬ LiveA ρ st a := fun l => by
  obtain ⟨n, xs, h1, h2⟩ := l
  obtain ⟨vs, k1, k2, _⟩ := S.cell n a _ h1 h2
  exact k2 hz
end

/-! ### the sources -/
section
variable {X : Cx} {tg : Expr}
theorem pi_dyn {l : Expr} {tl : TE} (hl : PE X l tl) : PI X tg l (fun σ H R => tl σ H fun x H1 => (∃ a, x = .ref a ∧ (∃ xs, SqL X.K H1 a xs) ∧ R (Itl X.K a) H1) ∨ (∃ a, x = .ref a ∧ (∃ xs, SqT X.K H1 a xs) ∧ R (Itt X.K a) H1) ∨ ∃ z, x = .str z ∧ R (Its z) H1) := by
  refine ⟨fun pins s σ H R I h => ?_⟩
  refine thn (hl.run pins s σ H _ I h) fun v s1 ⟨x, H1, I1, r1, q1⟩ => ?_
  rcases q1 with ⟨a, e, ⟨xs, hq⟩, q⟩ | ⟨a, e, ⟨xs, hq⟩, q⟩ | ⟨z, e, q⟩
  · subst e
    cases r1
    obtain ⟨its, rv, p, hz⟩ := I1.list hq
    refine wpAny_pyIter_list p.isList ?_
    refine ⟨s1.heap.objs.size, [s1.heap.objs.size], _, _, H1, rfl, I1.kept (t' := s1.toks) fun b o e => Heap.get?_push_of_some _ e, turn_list a _, ⟨_, Heap.get?_push_size _ rfl, rfl, rfl⟩, fun b hb => ?_, q⟩
    have e : b = s1.heap.objs.size := by simpa using hb
    subst e
    exact I1.fpOk (Nat.le_refl _) (I1.hok.fresh (Nat.le_refl _))
  · subst e
    cases r1
    obtain ⟨its, rv, p, hz⟩ := I1.tuple hq
    refine wpAny_pyIter_tuple (show s1.heap.IsTuple a its.toArray from p) ?_
    refine ⟨s1.heap.objs.size, [s1.heap.objs.size], _, _, H1, rfl, I1.kept (t' := s1.toks) fun b o e => Heap.get?_push_of_some _ e, turn_tuple a _, ⟨_, Heap.get?_push_size _ rfl, rfl, rfl⟩, fun b hb => ?_, q⟩
    have e : b = s1.heap.objs.size := by simpa using hb
    subst e
    exact I1.fpOk (Nat.le_refl _) (I1.hok.fresh (Nat.le_refl _))
  · subst e
    obtain ⟨t, rfl⟩ := r1
    cases ha : z.cps.all (· < 128) with
    | true => exact wpAny_pyIter_ascii ha (pi_one (tk := s1.toks) I1 _ (turn_str _ z t "str_ascii_iterator" (.inl rfl)) ⟨_, Heap.get?_push_size _ rfl, rfl, rfl⟩ q)
    | false => exact wpAny_pyIter_wide ha (pi_one (tk := s1.toks) I1 _ (turn_str _ z t "str_iterator" (.inr rfl)) ⟨_, Heap.get?_push_size _ rfl, rfl, rfl⟩ q)
end
section
variable {Γ : Cs} {cf : CF} {k : Nat} {e a b c : Expr} {es : List Expr} {da db dc : Den} {as : DenL} {pos : Pos}
theorem evi_any (ha : EvE Γ cf k a da) : EvI Γ cf k a (dIter da) := fun X tg G => PI.imp (pi_dyn (ha X G)) fun σ H R ⟨Z, ρ, st, env, v, st', S, E, e9, q⟩ => by
  obtain ⟨⟨pw, ps⟩, e1, e8⟩ := Option.bind_eq_some_iff.mp e9
  obtain ⟨v', e2, e7⟩ := Option.map_eq_some_iff.mp e8
  cases e7
  refine ⟨Z, ρ, st, env, pw, ps, S, E, e1, fun x H1 ρ1 X1 S1 r1 => ?_⟩
  simp only at e2
  unfold iterW at e2
  split at e2
  · cases e2
    have r2 := r1
    simp only [WRep, Rep] at r2
    obtain ⟨a, vs, rfl, h1, h2, h3, h4, h5⟩ := r2
    exact .inl ⟨a, rfl, ⟨vs, SqL.of h1⟩, q _ _ _ X1 S1 ⟨h5, .inr (.inl ⟨a, vs, rfl, h1, h2, h3, h4⟩)⟩⟩
  · cases e2
    have r2 := r1
    simp only [WRep, Rep] at r2
    obtain ⟨a, vs, rfl, h1, h2, h3⟩ := r2
    exact .inr (.inl ⟨a, rfl, ⟨vs, h1⟩, q _ _ _ X1 S1 ⟨h3, .inr (.inr (.inl ⟨a, vs, rfl, h1, h2⟩))⟩⟩)
  · cases e2
    have r2 := r1
    simp only [WRep, Rep] at r2
    obtain ⟨rfl, hz⟩ := r2
    refine .inr (.inr ⟨_, rfl, q _ _ _ X1 S1 ⟨?_, .inr (.inr (.inr ⟨_, rfl, rfl⟩))⟩⟩)
    unfold charsD
    rw [List.length_map, Array.length_toList]
    exact hz
  · rename_i n
    cases e2
    obtain ⟨a, h1, rfl⟩ := r1
    have hl : n < ps.length := by rw [← S1.len]; exact (List.getElem?_eq_some_iff.mp h1).1
    obtain ⟨vs, k1, _⟩ := S1.cell _ a _ h1 (List.getElem?_eq_getElem hl)
    exact .inl ⟨a, rfl, ⟨vs, SqL.of k1⟩, q _ _ _ X1 S1 ⟨a, rfl, h1⟩⟩
  · cases e2
theorem rgOk_of {lo hi : Int} (h : rgOk lo hi = true) : -(2 ^ 62) ≤ lo ∧ lo < 2 ^ 62 ∧ -(2 ^ 62) ≤ hi ∧ hi < 2 ^ 62 ∧ (rgD lo (hi - lo).toNat).length ≤ sizeLine := by
  simp only [rgOk, Bool.and_eq_true, sm_iff, Nat.ble_eq] at h
  obtain ⟨⟨a, b⟩, e⟩ := h
  refine ⟨by omega, by omega, by omega, by omega, ?_⟩
  unfold rgD
  rw [List.length_map, List.length_range]
  show _ ≤ 16777216
  omega
theorem WReps.one {K : PySem.W.Frag} {Z ρ : List Addr} {st : Sto} {H : Hp} {w : Wv} {vs : List V} (h : WReps K Z ρ st H [w] vs) : ∃ v, vs = [v] ∧ WRep K Z ρ st H w v := by
  simp only [WReps] at h
  obtain ⟨v, r, rfl, h1, rfl⟩ := h
  exact ⟨v, rfl, h1⟩
theorem WReps.two {K : PySem.W.Frag} {Z ρ : List Addr} {st : Sto} {H : Hp} {w w' : Wv} {vs : List V} (h : WReps K Z ρ st H [w, w'] vs) : ∃ v v', vs = [v, v'] ∧ WRep K Z ρ st H w v ∧ WRep K Z ρ st H w' v' := by
  simp only [WReps] at h
  obtain ⟨v, r, rfl, h1, v', r', rfl, h2, rfl⟩ := h
  exact ⟨v, v', rfl, h1, h2⟩
theorem WRep.int_eq {K : PySem.W.Frag} {Z ρ : List Addr} {st : Sto} {H : Hp} {i : Int} {v : V} (h : WRep K Z ρ st H (.val (.int i)) v) : v = .int i := by simpa only [WRep, Rep] using h
theorem evi_rng1 {p1 : Pos} (hg : Γ.sc.names.lookup (PySem.Str.ofString "range") = some .globalImplicit) (ha : EvA Γ cf k [a] as) : EvI Γ cf k (.Call (.Name (PySem.Str.ofString "range") p1) [a] [] pos) (dRng as) := fun X tg G => by
  have hg' : Gl X "range" := by show X.env.scope.names.lookup _ = _; rw [G.sc]; exact hg
  refine PI.imp (pi_range1 hg' (G.blt _ (by decide +kernel)) (ha.pa X G) (ha.ns a List.mem_cons_self [] X.env)) fun σ H R ⟨Z, ρ, st, env, v, st', S, E, e9, q⟩ => ?_
  obtain ⟨⟨ws, st1⟩, e1, e8⟩ := Option.bind_eq_some_iff.mp e9
  obtain ⟨v', e2, e7⟩ := Option.map_eq_some_iff.mp e8
  cases e7
  have hl := ha.len _ _ _ _ e1
  refine ⟨Z, ρ, st, env, ws, st1, S, E, e1, fun vs H1 ρ1 X1 S1 r1 => ?_⟩
  simp only at e2
  unfold rngW at e2
  split at e2
  · rename_i j
    split at e2
    · rename_i ho
      cases e2
      obtain ⟨w, rfl, r⟩ := r1.one
      obtain rfl := r.int_eq
      obtain ⟨a1, a2, a3, a4, a5⟩ := rgOk_of ho
      simp only [Int.sub_zero] at a5
      exact ⟨j, rfl, a3, a4, q _ _ _ X1 S1 ⟨a5, .inl ⟨0, _, rfl, rfl⟩⟩⟩
    · cases e2
  · simp at hl
  · cases e2
theorem evi_rng2 {p1 : Pos} (hg : Γ.sc.names.lookup (PySem.Str.ofString "range") = some .globalImplicit) (ha : EvA Γ cf k [a, b] as) : EvI Γ cf k (.Call (.Name (PySem.Str.ofString "range") p1) [a, b] [] pos) (dRng as) := fun X tg G => by
  have hg' : Gl X "range" := by show X.env.scope.names.lookup _ = _; rw [G.sc]; exact hg
  have n2 : starEach [b] X.env = [(false, eval b X.env)] := ha.ns b (by simp) [] X.env
  refine PI.imp (pi_range2 hg' (G.blt _ (by decide +kernel)) (ha.pa X G) (by rw [ha.ns a List.mem_cons_self [b] X.env, n2]) n2) fun σ H R ⟨Z, ρ, st, env, v, st', S, E, e9, q⟩ => ?_
  obtain ⟨⟨ws, st1⟩, e1, e8⟩ := Option.bind_eq_some_iff.mp e9
  obtain ⟨v', e2, e7⟩ := Option.map_eq_some_iff.mp e8
  cases e7
  have hl := ha.len _ _ _ _ e1
  refine ⟨Z, ρ, st, env, ws, st1, S, E, e1, fun vs H1 ρ1 X1 S1 r1 => ?_⟩
  simp only at e2
  unfold rngW at e2
  split at e2
  · simp at hl
  · rename_i i j
    split at e2
    · rename_i ho
      cases e2
      obtain ⟨w, w', rfl, r, r'⟩ := r1.two
      obtain rfl := r.int_eq
      obtain rfl := r'.int_eq
      obtain ⟨a1, a2, a3, a4, a5⟩ := rgOk_of ho
      exact ⟨i, j, rfl, ⟨a1, a2, a3, a4⟩, q _ _ _ X1 S1 ⟨a5, .inl ⟨i, _, rfl, rfl⟩⟩⟩
    · cases e2
  · cases e2
end
end L2.Ev
set_option Elab.async false
set_option linter.all false
set_option maxRecDepth 100000
set_option maxHeartbeats 4000000
namespace L2.Ev
open PySem PySem.Spec PyProof.Rows

/-! ### targets -/
inductive Tg where
  | one (i : Nat) | many (is : List Nat)
def sets : List Nat → List D → En → Option En
  | [], [], env => some env
  | i :: is, d :: ds, env => sets is ds (env.set i (some (.val d)))
  | _, _, _ => none
def bindT : Tg → D → En → Option En
  | .one i, d, env => some (env.set i (some (.val d)))
  | .many is, .tup ds, env => sets is ds env
  | _, _, _ => none
def Tg.vars : Tg → List Nat
  | .one i => [i]
  | .many is => is
def wipeE (env : En) : List Nat → En
  | [] => env
  | v :: vs => (wipeE env vs).set v none
/-- the slots outside stand -/
def Out (vs : List Nat) (σ σ' : St) : Prop := σ'.length = σ.length ∧ ∀ j, j ∉ vs → σ'[j]? = σ[j]?
theorem Out.refl {vs : List Nat} {σ : St} : Out vs σ σ := ⟨rfl, fun _ _ => rfl⟩
theorem Out.wipe {vs us : List Nat} {σ σ' : St} (h : Out vs σ σ') (hs : ∀ j ∈ vs, j ∈ us) : wipe σ' us = wipe σ us := by
  apply List.ext_getElem?
  intro j
  by_cases hj : j ∈ us
  · by_cases hl : j < σ.length
    · have e : ∀ τ : St, τ.length = σ.length → (L2.wipe τ us)[j]? = some none := fun τ ht => by
        have hl' : j < (L2.wipe τ us).length := by rw [wipe_length, ht]; exact hl
        cases q : (L2.wipe τ us)[j]? with
        | none =>
          rw [List.getElem?_eq_none_iff] at q
          omega
        | some o =>
          cases o with
          | none => rfl
          | some x => exact absurd hj (wipe_some q).2
      rw [e σ' h.1, e σ rfl]
    · rw [List.getElem?_eq_none (by rw [wipe_length, h.1]; omega), List.getElem?_eq_none (by rw [wipe_length]; omega)]
  · rw [wipe_out hj, wipe_out hj]
    exact h.2 j fun m => hj (hs j m)
theorem wipe_wipe {σ : St} {us : List Nat} : wipe (wipe σ us) us = wipe σ us := Out.wipe (vs := us) ⟨wipe_length σ us, fun j h => wipe_out h⟩ fun _ h => h
section
variable {K : PySem.W.Frag} {Z ρ : List Addr} {st : Sto} {H : Hp}
theorem ERep.set {env : En} {σ : St} {i : Nat} {w : Wv} {v : V} (E : ERep K Z ρ st H env σ) (h : WRep K Z ρ st H w v) : ERep K Z ρ st H (env.set i (some w)) (σ.set i (some v)) := by
  refine ⟨by rw [List.length_set, List.length_set]; exact E.1, fun j u hu => ?_⟩
  by_cases hj : i = j
  · subst hj
    have hl : i < env.length := by
      have := (List.getElem?_eq_some_iff.mp hu).1
      rwa [List.length_set] at this
    rw [List.getElem?_set_self hl] at hu
    cases hu
    exact ⟨v, by rw [List.getElem?_set_self (by rw [← E.1]; exact hl)], h⟩
  · rw [List.getElem?_set_ne hj] at hu
    rw [List.getElem?_set_ne hj]
    exact E.2 j u hu
theorem ERep.none {env : En} {σ : St} {i : Nat} {o : Option V} (E : ERep K Z ρ st H env σ) : ERep K Z ρ st H (env.set i none) (σ.set i o) := by
  refine ⟨by rw [List.length_set, List.length_set]; exact E.1, fun j u hu => ?_⟩
  by_cases hj : i = j
  · subst hj
    have hl : i < env.length := by
      have := (List.getElem?_eq_some_iff.mp hu).1
      rwa [List.length_set] at this
    rw [List.getElem?_set_self hl] at hu
    cases hu
  · rw [List.getElem?_set_ne hj] at hu
    rw [List.getElem?_set_ne hj]
    exact E.2 j u hu
theorem ERep.wipe {env : En} {σ : St} (E : ERep K Z ρ st H env σ) : ∀ vs : List Nat, ERep K Z ρ st H (wipeE env vs) (L2.wipe σ vs)
  | [] => E
  | v :: vs => (ERep.wipe E vs).none
theorem out_set {vs : List Nat} {σ σ' : St} {i : Nat} {o : Option V} (h : Out vs (σ.set i o) σ') (hi : i ∈ vs) : Out vs σ σ' := by
  refine ⟨by rw [h.1, List.length_set], fun j hj => ?_⟩
  rw [h.2 j hj, List.getElem?_set_ne fun e => hj (by rw [← e]; exact hi)]
end
def tBind (K : PySem.W.Frag) (T : Tg) : TG := fun v σ H Q => ∃ Z ρ st env d env', SRep K Z ρ st H ∧ ERep K Z ρ st H env σ ∧ Rep K Z ρ st H d v ∧ bindT T d env = some env' ∧ ∀ σ', ERep K Z ρ st H env' σ' → Out T.vars σ σ' → Q σ' H
def tSets (K : PySem.W.Frag) (is : List Nat) : TGs := fun vs σ H Q => ∃ Z ρ st env ds env', SRep K Z ρ st H ∧ ERep K Z ρ st H env σ ∧ Reps K Z ρ st H ds vs ∧ sets is ds env = some env' ∧ ∀ σ', ERep K Z ρ st H env' σ' → Out is σ σ' → Q σ' H
theorem _root_.L2.PG.imp {X : Cx} {e : Expr} {t t' : TG} (h : PG X e t) (i : ∀ v σ H Q, t' v σ H Q → t v σ H Q) : PG X e t' := ⟨fun pins s σ H v u Q I r q => h.run pins s σ H v u Q I r (i v σ H Q q)⟩
theorem _root_.L2.PGs.imp {X : Cx} {e : List Expr} {t t' : TGs} (h : PGs X e t) (i : ∀ v σ H Q, t' v σ H Q → t v σ H Q) : PGs X e t' := ⟨fun pins s σ H v u Q I r q => h.run pins s σ H v u Q I r (i v σ H Q q)⟩
theorem sets_len : ∀ {is : List Nat} {ds : List D} {env env' : En}, sets is ds env = some env' → ds.length = is.length
  | [], [], env, env', h => rfl
  | i :: is, d :: ds, env, env', h => by
    simp only [sets] at h
    rw [List.length_cons, List.length_cons, sets_len h]
  | [], _ :: _, _, _, h => by cases h
  | _ :: _, [], _, _, h => by cases h
theorem pg_one {X : Cx} {i : Nat} {x : Str} {pos : Pos} (hN : X.N.Nodup) (hi : X.N[i]? = some x) (hx : Loc X.env.scope x) (hf : X.fn x = true ∨ X.env.scope.names.lookup x = some .local) : PG X (.Name x pos) (tBind X.K (.one i)) :=
  (pg_name hN hi hx hf).imp fun v σ H Q ⟨Z, ρ, st, env, d, env', S, E, r, e, q⟩ => by
    cases e
    refine q _ (E.set (w := .val d) r) ⟨by rw [List.length_set], fun j hj => ?_⟩
    rw [List.getElem?_set_ne fun e => hj (by rw [← e]; exact List.mem_cons_self)]
/-- a plain name as a target -/
def NameT (Γ : Cs) : Expr → Nat → Bool
  | .Name x _, i => decide (Γ.N[i]? = some x) && (decide (Γ.sc.names.lookup x = some .local) || (decide (Γ.sc.names.lookup x = some .cell) && Γ.fnc x))
  | _, _ => false
def namesT (Γ : Cs) : List Expr → List Nat → Bool
  | [], [] => true
  | e :: es, i :: is => NameT Γ e i && namesT Γ es is
  | _, _ => false
def tgtT (Γ : Cs) : Expr → Tg → Bool
  | .Tuple es _ _, .many is => namesT Γ es is
  | e, .one i => NameT Γ e i
  | _, _ => false
section
variable {Γ : Cs} {cf : CF} {k : Nat}
theorem nameT_ok {e : Expr} {i : Nat} (h : NameT Γ e i = true) : ∃ x p, e = .Name x p ∧ Γ.N[i]? = some x ∧ Loc Γ.sc x ∧ (Γ.fnc x = true ∨ Γ.sc.names.lookup x = some .local) := by
  unfold NameT at h
  split at h
  · rename_i x p
    simp only [Bool.and_eq_true, Bool.or_eq_true, decide_eq_true_eq] at h
    refine ⟨x, p, rfl, h.1, ?_, ?_⟩
    · rcases h.2 with h | h
      · exact .inl h
      · exact .inr h.1
    · rcases h.2 with h | h
      · exact .inr h
      · exact .inl h.2
  · cases h
theorem nameT_pg {e : Expr} {i : Nat} (h : NameT Γ e i = true) {X : Cx} (G : Good Γ cf k X) : PG X e (tBind X.K (.one i)) := by
  obtain ⟨x, p, rfl, h1, h2, h3⟩ := nameT_ok h
  refine pg_one (by rw [G.names]; exact G.nd) (by rw [G.names]; exact h1) (by rw [G.sc]; exact h2) ?_
  rcases h3 with h | h
  · exact .inl (G.fn x h)
  · exact .inr (by rw [G.sc]; exact h)
theorem sets_vars {is : List Nat} : ∀ {ds : List D} {env env' : En}, sets is ds env = some env' → True := fun _ => trivial
theorem namesT_pg : ∀ {es : List Expr} {is : List Nat}, namesT Γ es is = true → ∀ {X : Cx}, Good Γ cf k X → PGs X es (tSets X.K is)
  | [], [], h, X, G => pgs_nil.imp fun vs σ H Q ⟨Z, ρ, st, env, ds, env', S, E, r, e, q⟩ => by
    cases ds with
    | nil =>
      cases e
      simp only [Reps] at r
      exact ⟨r, q σ E Out.refl⟩
    | cons d ds => cases e
  | e :: es, i :: is, h, X, G => by
    simp only [namesT, Bool.and_eq_true] at h
    obtain ⟨x, p, he, _⟩ := nameT_ok h.1
    subst he
    refine (pgs_cons (nameT_pg h.1 G) (namesT_pg h.2 G)).imp fun vs σ H Q ⟨Z, ρ, st, env, ds, env', S, E, r, e, q⟩ => ?_
    cases ds with
    | nil => cases e
    | cons d ds =>
      simp only [sets] at e
      simp only [Reps] at r
      obtain ⟨v, t, rfl, r1, r2⟩ := r
      refine ⟨v, t, rfl, Z, ρ, st, env, d, _, S, E, r1, rfl, fun σ1 E1 O1 => ?_⟩
      refine ⟨Z, ρ, st, _, ds, env', S, E1, r2, e, fun σ2 E2 O2 => q σ2 E2 ⟨by rw [O2.1, O1.1], fun j hj => ?_⟩⟩
      rw [O2.2 j fun m => hj (List.mem_cons_of_mem _ m), O1.2 j fun m => hj (by
        have : j = i := by simpa [Tg.vars] using m
        rw [this]
        exact List.mem_cons_self)]
  | [], _ :: _, h, X, G => by cases h
  | _ :: _, [], h, X, G => by cases h
theorem namesT_len : ∀ {es : List Expr} {is : List Nat} (env : Env), namesT Γ es is = true → (assignEach es env).length = is.length ∧ (assignEach es env).findIdx? (·.1) = none
  | [], [], env, h => ⟨rfl, rfl⟩
  | e :: es, i :: is, env, h => by
    simp only [namesT, Bool.and_eq_true] at h
    obtain ⟨x, p, rfl, _⟩ := nameT_ok h.1
    obtain ⟨h1, h2⟩ := namesT_len env h.2
    have e1 : assignEach (.Name x p :: es) env = (false, assign (.Name x p) env) :: assignEach es env := rfl
    rw [e1]
    refine ⟨by rw [List.length_cons, List.length_cons, h1], ?_⟩
    rw [List.findIdx?_cons, h2]
    rfl
  | [], _ :: _, _, h => by cases h
  | _ :: _, [], _, h => by cases h
theorem tgtT_pg {e : Expr} {T : Tg} (h : tgtT Γ e T = true) {X : Cx} (G : Good Γ cf k X) : PG X e (tBind X.K T) := by
  unfold tgtT at h
  split at h
  · rename_i es j p is
    obtain ⟨h1, h2⟩ := namesT_len X.env h
    refine (pg_tup (n := is.length) G.calm (namesT_pg h G) h1 h2).imp fun v σ H Q ⟨Z, ρ, st, env, d, env', S, E, r, e, q⟩ => ?_
    unfold bindT at e
    split at e
    · rename_i hh; cases hh
    · rename_i is' ds hh
      cases hh
      simp only [Rep] at r
      obtain ⟨a, vs, rfl, r1, r2, r3⟩ := r
      refine ⟨a, vs, rfl, r1, by rw [r2.length, sets_len e], Z, ρ, st, _, ds, env', S, E, r2, e, q⟩
    · cases e
  · exact nameT_pg h G
  · cases h
end

/-! ### lists by a comprehension -/
abbrev DenT := CF → En → Sto → Option (Bool × Sto)
def dYes : DenT := fun _ _ st => some (true, st)
def dTst (d : Den) : DenT := fun cf env st => (d cf env st).bind fun p => (truth p.1 p.2).map fun b => (b, p.2)
abbrev Step := D → Sto → Option (List D × Sto)
def mapL (f : Step) : List D → Sto → Option (List D × Sto)
  | [], st => some ([], st)
  | d :: ds, st => (f d st).bind fun p => (mapL f ds p.2).map fun q => (p.1 ++ q.1, q.2)
def mapC (f : Step) (n : Nat) : Nat → Nat → Sto → Option (List D × Sto)
  | 0, _, _ => none
  | m + 1, i, st => (st[n]?).bind fun c => match c.items[i]? with
    | none => some ([], st)
    | some d => (f d st).bind fun p => (mapC f n m (i + 1) p.2).map fun q => (p.1 ++ q.1, q.2)
def mapI (f : Step) : Iv → Sto → Option (List D × Sto)
  | .items xs, st => mapL f xs st
  | .cel n, st => (st[n]?).bind fun c => mapC f n (c.items.length + 1) 0 st
def stepC (T : Tg) (t : DenT) (e : Den) (cf : CF) (env : En) : Step := fun d st => (bindT T d env).bind fun env1 => (t cf env1 st).bind fun p =>
  if p.1 then (e cf env1 p.2).bind fun q => (froz q.1 q.2).map fun r => ([r.1], r.2) else some ([], p.2)
def stepC2 (T : Tg) (t : DenT) (i1 : DenI) (vs1 : List Nat) (T1 : Tg) (t1 : DenT) (e : Den) (cf : CF) (env : En) : Step := fun d st => (bindT T d env).bind fun env1 => (t cf env1 st).bind fun p =>
  if p.1 then (i1 cf env1 p.2).bind fun q => mapI (stepC T1 t1 e cf (wipeE env1 vs1)) q.1 q.2 else some ([], p.2)
def fin0 (p : List D × Sto) : Option (Wv × Sto) := if szOk p.1.length then some (.val (.lst p.1), p.2) else none
def dLc (it : DenI) (vs : List Nat) (T : Tg) (t : DenT) (e : Den) : Den := fun cf env st => (it cf env st).bind fun p => (mapI (stepC T t e cf (wipeE env vs)) p.1 p.2).bind fin0
def dLc2 (it : DenI) (vs : List Nat) (T : Tg) (t : DenT) (i1 : DenI) (vs1 : List Nat) (T1 : Tg) (t1 : DenT) (e : Den) : Den := fun cf env st => (it cf env st).bind fun p => (mapI (stepC2 T t i1 vs1 T1 t1 e cf (wipeE env vs)) p.1 p.2).bind fin0

/-- the run of a loop that adds -/
inductive Run (f : Step) (v : Iv) : Nat → Nat → Sto → List D → Sto → Prop where
  | done {m i st xs} : itD v st = some xs → xs.length ≤ i → Run f v m i st [] st
  | next {m i st xs d out st1 ys st2} : itD v st = some xs → xs[i]? = some d → f d st = some (out, st1) → Run f v m (i + 1) st1 ys st2 → Run f v (m + 1) i st (out ++ ys) st2
theorem run_L {f : Step} : ∀ {xs pre : List D} {st st2 : Sto} {ys : List D}, mapL f xs st = some (ys, st2) → Run f (.items (pre ++ xs)) xs.length pre.length st ys st2
  | [], pre, st, st2, ys, h => by
    simp only [mapL] at h
    cases h
    exact .done rfl (by simp)
  | d :: ds, pre, st, st2, ys, h => by
    simp only [mapL] at h
    obtain ⟨p, h1, h⟩ := Option.bind_eq_some_iff.mp h
    obtain ⟨q, h2, h⟩ := Option.map_eq_some_iff.mp h
    cases h
    have ih := run_L (pre := pre ++ [d]) h2
    rw [List.append_assoc, List.length_append] at ih
    exact .next rfl (by simp) h1 ih
theorem run_C {f : Step} {n : Nat} : ∀ {m i : Nat} {st st2 : Sto} {ys : List D}, mapC f n m i st = some (ys, st2) → Run f (.cel n) m i st ys st2
  | 0, i, st, st2, ys, h => by cases h
  | m + 1, i, st, st2, ys, h => by
    simp only [mapC] at h
    obtain ⟨c, hc, h⟩ := Option.bind_eq_some_iff.mp h
    have hi : itD (.cel n) st = some c.items := by simp only [itD, hc]; rfl
    split at h
    · rename_i hn
      cases h
      exact .done hi (by simpa using hn)
    · rename_i d hd
      obtain ⟨p, h1, h⟩ := Option.bind_eq_some_iff.mp h
      obtain ⟨q, h2, h⟩ := Option.map_eq_some_iff.mp h
      cases h
      exact .next hi hd h1 (run_C h2)
theorem run_I {f : Step} {v : Iv} {st st2 : Sto} {ys : List D} (h : mapI f v st = some (ys, st2)) : ∃ m, Run f v m 0 st ys st2 := by
  cases v with
  | items xs => exact ⟨_, run_L (pre := []) h⟩
  | cel n =>
    simp only [mapI] at h
    obtain ⟨c, _, h⟩ := Option.bind_eq_some_iff.mp h
    exact ⟨_, run_C h⟩
def EvG (Γ : Cs) (cf : CF) (k : Nat) (e : Expr) (T : Tg) : Prop := ∀ X, Good Γ cf k X → PG X e (tBind X.K T)
/-- the tests of a clause -/
def tTst (K : PySem.W.Frag) (cf : CF) (d : DenT) : TT := fun σ H Q => ∃ Z ρ st env b st', SRep K Z ρ st H ∧ ERep K Z ρ st H env σ ∧ d cf env st = some (b, st') ∧ ∀ H' ρ', Ext ρ st H ρ' st' H' → SRep K Z ρ' st' H' → Q b H'
def EvTs (Γ : Cs) (cf : CF) (k : Nat) (ifs : List Expr) (d : DenT) : Prop := ∀ X, Good Γ cf k X → PTs X ifs (tTst X.K cf d)
theorem PTs.imp {X : Cx} {e : List Expr} {t t' : TT} (h : PTs X e t) (i : ∀ σ H Q, t' σ H Q → t σ H Q) : PTs X e t' := ⟨fun pins s σ H Q I q => h.run pins s σ H Q I (i σ H Q q)⟩
section
variable {Γ : Cs} {cf : CF} {k : Nat} {e c it : Expr} {de : Den} {pos : Pos}
theorem evts_nil : EvTs Γ cf k [] dYes := fun X G => PTs.imp pts_nil fun σ H Q ⟨Z, ρ, st, env, b, st', S, E, e, q⟩ => by
  cases e
  exact q H ρ Ext.refl S
theorem evts_one {dc : Den} (h : EvT Γ cf k c dc) : EvTs Γ cf k [c] (dTst dc) := fun X G => PTs.imp (pts_one (h X G)) fun σ H Q ⟨Z, ρ, st, env, b, st', S, E, e, q⟩ => by
  obtain ⟨p, e1, e⟩ := Option.bind_eq_some_iff.mp e
  obtain ⟨b', e2, e⟩ := Option.map_eq_some_iff.mp e
  cases e
  exact ⟨Z, ρ, st, env, p.1, p.2, _, S, E, e1, e2, q⟩
/-- inside the block of a comprehension -/
def Cs.blk (Γ : Cs) (scope : Scope) : Cs := { Γ with sc := relS scope Γ.sc, fnc := fun x => scope.names.lookup x == some .cell }
theorem Good.blk {X : Cx} (G : Good Γ cf k X) (scope : Scope) (s : Shared) (H : Hp) (C : Addr) (cl : List (Str × Addr)) (fp : List Addr) : Good (Γ.blk scope) cf k (X.blk s H scope (compEnvC scope cl C X.env) fp) where
  names := G.names
  nd := G.nd
  calm := G.calm
  xe := rfl
  room := G.room
  sc := by
    show relabel scope X.env = relS scope Γ.sc
    rw [← G.sc]
    rfl
  fn := fun x h => h
  blt := G.blt
  tab := G.tab
  glo := G.glo
/-- the list as far as it is made -/
structure Lay (K : PySem.W.Frag) (Z : List Addr) (D0 : Addr) (ρ0 : List Addr) (st0 : Sto) (H0 : Hp) (H : Hp) (ρ : List Addr) (st : Sto) (acc : List D) (vs : List V) : Prop where
  cell : H D0 = some (.lst vs)
  reps : Reps K (D0 :: Z) ρ st H acc vs
  srep : SRep K (D0 :: Z) ρ st H
  ext : Ext ρ0 st0 H0 ρ st H
theorem Reps.snoc {K : PySem.W.Frag} {Z ρ : List Addr} {st : Sto} {H : Hp} {ds : List D} {vs : List V} {d : D} {v : V} (h : Reps K Z ρ st H ds vs) (r : Rep K Z ρ st H d v) : Reps K Z ρ st H (ds ++ [d]) (vs ++ [v]) := h.append (Reps.cons r Reps.nil)
section
variable {K : PySem.W.Frag} {Z : List Addr} {D0 : Addr} {ρ0 ρ1 ρ2 : List Addr} {st0 st1 st2 st3 : Sto} {H0 H1 H2 : Hp} {acc : List D} {vs : List V}
theorem Lay.go (L : Lay K Z D0 ρ0 st0 H0 H1 ρ1 st1 acc vs) (E1 : Ext ρ1 st1 H1 ρ2 st2 H2) (S2 : SRep K (D0 :: Z) ρ2 st2 H2) : Lay K Z D0 ρ0 st0 H0 H2 ρ2 st2 acc vs where
  cell := E1.keep _ _ L.cell (L.srep.notLiveZ List.mem_cons_self)
  reps := Reps.ext L.srep E1 _ _ L.reps
  srep := S2
  ext := L.ext.trans E1
/-- a new item -/
theorem Lay.app {w : Wv} {y : V} {d : D} (h0 : H0 D0 = none) (L : Lay K Z D0 ρ0 st0 H0 H2 ρ2 st2 acc vs) (r : WRep K (D0 :: Z) ρ2 st2 H2 w y) (e : froz w st2 = some (d, st3)) :
    Lay K Z D0 ρ0 st0 H0 (upd H2 D0 (.lst (vs ++ [y]))) ρ2 st3 (acc ++ [d]) (vs ++ [y]) := by
  obtain ⟨E2, S3, r3⟩ := froz_ok L.srep r e
  exact ⟨upd_same, Reps.upd L.cell _ _ ((Reps.ext L.srep E2 _ _ L.reps).snoc r3), SRep.upd L.cell S3, Ext.updN (L.ext.trans E2) h0⟩
theorem WRep.upd {w : Wv} {v : V} {o : HO} {xs : List V} (hc : H1 D0 = some (.lst xs)) (h : WRep K (D0 :: Z) ρ1 st1 H1 w v) : WRep K (D0 :: Z) ρ1 st1 (L2.upd H1 D0 o) w v := by
  cases w with
  | val d => exact Rep.upd hc d v h
  | cel n => exact h
  | pool xs n =>
    obtain ⟨a, b, c, vs, h1, h2, h3, h4, h5, h6, h7⟩ := h
    have no : ∀ {a : Addr}, a ∉ D0 :: Z → a ≠ D0 := fun {a} ha z => ha (by rw [z]; exact List.mem_cons_self)
    exact ⟨a, b, c, vs, h1, by rw [upd_ne (no h3.1)]; exact h2, h3, by rw [upd_ne (no h5.1)]; exact h4, h5, ⟨Reps.upd hc _ _ h6.1, h6.2⟩, h7⟩
  | scr ns =>
    obtain ⟨a, h1, h2⟩ := h
    rcases h2 with ⟨o', h2⟩ | h2
    · exact ⟨a, h1, .inl ⟨o', by rw [upd_ne (fun z => by rw [z, hc] at h2; cases h2)]; exact h2⟩⟩
    · exact ⟨a, h1, .inr h2⟩
theorem ERep.upd {env : En} {σ : St} {o : HO} {xs : List V} (hc : H1 D0 = some (.lst xs)) (h : ERep K (D0 :: Z) ρ1 st1 H1 env σ) : ERep K (D0 :: Z) ρ1 st1 (L2.upd H1 D0 o) env σ :=
  ⟨h.1, fun i w hw => let ⟨v, h1, h2⟩ := h.2 i w hw; ⟨v, h1, h2.upd hc⟩⟩
theorem ItRep.upd {v : Iv} {J : It} {o : HO} {xs : List V} (hc : H1 D0 = some (.lst xs)) (h : ItRep K (D0 :: Z) ρ1 st1 H1 v J) : ItRep K (D0 :: Z) ρ1 st1 (L2.upd H1 D0 o) v J := by
  cases v with
  | items xs =>
    obtain ⟨hz, h⟩ := h
    refine ⟨hz, ?_⟩
    rcases h with h | ⟨a, vs, h1, h2, h3, h4, h5⟩ | ⟨a, vs, h1, h2, h3⟩ | h
    · exact .inl h
    · exact .inr (.inl ⟨a, vs, h1, by rw [upd_ne (fun z => h3 (by rw [z]; exact List.mem_cons_self))]; exact h2, h3, h4, Reps.upd hc _ _ h5⟩)
    · refine .inr (.inr (.inl ⟨a, vs, h1, ?_, Reps.upd hc _ _ h3⟩))
      rcases h2 with (h2 | ⟨u, h2⟩) | h2
      · exact .inl (.inl (by rw [upd_ne (fun z => by rw [z, hc] at h2; cases h2)]; exact h2))
      · exact .inl (.inr ⟨u, by rw [upd_ne (fun z => by rw [z, hc] at h2; cases h2)]; exact h2⟩)
      · exact .inr h2
    · exact .inr (.inr (.inr h))
  | cel n => exact h
/-- what outlives the turns -/
structure Lasts (K : PySem.W.Frag) (Z : List Addr) (D0 : Addr) (P : List Addr → Sto → Hp → Prop) : Prop where
  ext : ∀ {ρ st H ρ' st' H'}, SRep K (D0 :: Z) ρ st H → Ext ρ st H ρ' st' H' → P ρ st H → P ρ' st' H'
  upd : ∀ {ρ st H xs o}, H D0 = some (.lst xs) → P ρ st H → P ρ st (L2.upd H D0 o)
/-- one turn's item, from the target on -/
theorem lc_tail {P : List Addr → Sto → Hp → Prop} (hP : Lasts K Z D0 P) (p0 : P ρ1 st1 H1) {cf : CF} {T : Tg} {t : DenT} {e : Den} {env : En} {d : D} {out : List D} {σ : St} {us : List Nat} {x : V} {Nx : Hp → Prop} (h0 : H0 D0 = none) (stp : stepC T t e cf (wipeE env us) d st1 = some (out, st2)) (L : Lay K Z D0 ρ0 st0 H0 H1 ρ1 st1 acc vs) (E : ERep K (D0 :: Z) ρ1 st1 H1 env σ) (rd : Rep K (D0 :: Z) ρ1 st1 H1 d x)
    (hT : ∀ j ∈ T.vars, j ∈ us) (hsz : (acc ++ out).length ≤ sizeLine) (hNx : ∀ H2 ρ2 vs2, Lay K Z D0 ρ0 st0 H0 H2 ρ2 st2 (acc ++ out) vs2 → P ρ2 st2 H2 → Nx H2) :
    tBind K T x (wipe σ us) H1 fun σ2 H2 => wipe σ2 us = wipe σ us ∧ tTst K cf t σ2 H2 fun b H3 => if b = true then tDen K cf e σ2 H3 fun y H4 => ∃ av, H4 D0 = some (.lst av) ∧ av.length < sizeLine ∧ Nx (upd H4 D0 (.lst (av ++ [y]))) else Nx H3 := by
  obtain ⟨env1, b1, stp⟩ := Option.bind_eq_some_iff.mp stp
  obtain ⟨⟨b, s1⟩, b2, stp⟩ := Option.bind_eq_some_iff.mp stp
  refine ⟨D0 :: Z, ρ1, st1, wipeE env us, d, env1, L.srep, E.wipe us, rd, b1, fun σ2 E2 O2 => ⟨(O2.wipe hT).trans wipe_wipe, ?_⟩⟩
  refine ⟨D0 :: Z, ρ1, st1, env1, b, s1, L.srep, E2, b2, fun H3 ρ3 X3 S3 => ?_⟩
  have L3 := L.go X3 S3
  have p3 := hP.ext L.srep X3 p0
  show ite _ _ _
  cases b with
  | true =>
    rw [if_pos rfl] at stp ⊢
    obtain ⟨⟨w, s2⟩, b3, stp⟩ := Option.bind_eq_some_iff.mp stp
    obtain ⟨⟨d', s3⟩, b4, stp⟩ := Option.map_eq_some_iff.mp stp
    cases stp
    refine ⟨D0 :: Z, ρ3, s1, env1, w, s2, S3, E2.ext L.srep X3, b3, fun y H4 ρ4 X4 S4 r4 => ?_⟩
    have L4 := L3.go X4 S4
    have p4 := hP.ext S3 X4 p3
    refine ⟨vs, L4.cell, ?_, hNx _ _ _ (L4.app h0 r4 b4) (hP.upd L4.cell (hP.ext S4 (froz_ok S4 r4 b4).1 p4))⟩
    rw [L.reps.length]
    rw [List.length_append] at hsz
    exact hsz
  | false =>
    rw [if_neg Bool.false_ne_true] at stp ⊢
    cases stp
    refine hNx _ ρ3 vs ?_ p3
    rw [List.append_nil]
    exact L3
/-- the list is made -/
theorem Lay.fin (h0 : H0 D0 = none) (S0 : SRep K Z ρ0 st0 H0) (L : Lay K Z D0 ρ0 st0 H0 H1 ρ1 st1 acc vs) (hz : acc.length ≤ sizeLine) : SRep K Z ρ1 st1 H1 ∧ WRep K Z ρ1 st1 H1 (.val (.lst acc)) (.ref D0) := by
  refine ⟨L.srep.zdrop, ?_⟩
  show Rep K Z ρ1 st1 H1 (.lst acc) (.ref D0)
  simp only [Rep]
  exact ⟨D0, vs, rfl, L.cell, S0.notZ h0, L.srep.notLiveZ List.mem_cons_self, Reps.zdrop _ _ L.reps, hz⟩
theorem Lay.begin (h0 : H0 D0 = none) (S0 : SRep K Z ρ0 st0 H0) : Lay K Z D0 ρ0 st0 H0 (upd H0 D0 (.lst [])) ρ0 st0 [] [] := ⟨upd_same, Reps.nil, S0.begin h0 _, Same.ext (Same.fresh h0)⟩
end
/-- with the freshness of what was made -/
def tDenF (K : PySem.W.Frag) (cf : CF) (d : Den) : TE := fun σ H Q => ∃ Z ρ st env ds st', SRep K Z ρ st H ∧ ERep K Z ρ st H env σ ∧ d cf env st = some (.val (.lst ds), st') ∧ ∀ p H' ρ' vs, Lay K Z p ρ st H H' ρ' st' ds vs → H p = none → ds.length ≤ sizeLine → Q (.ref p) H'
def EvF (Γ : Cs) (cf : CF) (k : Nat) (e : Expr) (d : Den) : Prop := ∀ X, Good Γ cf k X → PE X e (tDenF X.K cf d)
def Lists (d : Den) : Prop := ∀ cf env st r, d cf env st = some r → ∃ ds, r.1 = .val (.lst ds)
theorem evE_F {e : Expr} {d : Den} (h : EvF Γ cf k e d) (hl : Lists d) : EvE Γ cf k e d := fun X G => (h X G).imp fun σ H Q ⟨Z, ρ, st, env, w, st', S, E, e, q⟩ => by
  obtain ⟨ds, hd⟩ := hl _ _ _ _ e
  simp only at hd
  subst hd
  refine ⟨Z, ρ, st, env, ds, st', S, E, e, fun p H' ρ' vs L h0 hz => ?_⟩
  obtain ⟨f1, f2⟩ := L.fin h0 S hz
  exact q _ _ ρ' L.ext f1 f2
theorem none_of {K : PySem.W.Frag} {ρ ρ' : List Addr} {st st' : Sto} {H H' : Hp} {a : Addr} (E : Ext ρ st H ρ' st' H') (h : H' a = none) : H a = none := by
  cases hh : H a with
  | none => rfl
  | some o =>
    obtain ⟨o', ho'⟩ := E.dom _ _ hh
    rw [h] at ho'
    cases ho'
theorem fin0_lists {p : List D × Sto} {r : Wv × Sto} (h : fin0 p = some r) : ∃ ds, r.1 = .val (.lst ds) := by
  unfold fin0 at h
  split at h
  · cases h
    exact ⟨_, rfl⟩
  · cases h
theorem lists_lc {it : DenI} {vs : List Nat} {T : Tg} {t : DenT} {e : Den} : Lists (dLc it vs T t e) := fun cf env st r h => by
  obtain ⟨p, _, h⟩ := Option.bind_eq_some_iff.mp h
  obtain ⟨q, _, h⟩ := Option.bind_eq_some_iff.mp h
  exact fin0_lists h
theorem lists_lc2 {it : DenI} {vs : List Nat} {T : Tg} {t : DenT} {i1 : DenI} {vs1 : List Nat} {T1 : Tg} {t1 : DenT} {e : Den} : Lists (dLc2 it vs T t i1 vs1 T1 t1 e) := fun cf env st r h => by
  obtain ⟨p, _, h⟩ := Option.bind_eq_some_iff.mp h
  obtain ⟨q, _, h⟩ := Option.bind_eq_some_iff.mp h
  exact fin0_lists h
section
variable {tg it1 tg1 elt iter : Expr} {ifs ifs1 : List Expr} {scope : Scope} {own : List (Str × Nat)} {vs1 : List Nat} {T T1 : Tg} {di di1 : DenI} {dt dt1 : DenT}
theorem lc_all {K : PySem.W.Frag} {σ : St} {H : Hp} {Q : VK} {us : List Nat} (hT : ∀ j ∈ T.vars, j ∈ us) (h : tDenF K cf (dLc di us T dt de) σ H Q) : tLc (tIt K cf di) (tBind K T) (tTst K cf dt) (tDen K cf de) us σ H Q := by
  obtain ⟨Z, ρ, st, env, ys0, st', S, E, e, q⟩ := h
  obtain ⟨⟨v, st1⟩, e1, e⟩ := Option.bind_eq_some_iff.mp e
  obtain ⟨⟨ys, st2⟩, e2, e⟩ := Option.bind_eq_some_iff.mp e
  unfold fin0 at e
  split at e
  · rename_i hz
    have hz' := szOk_of hz
    cases e
    obtain ⟨m, R⟩ := run_I e2
    refine ⟨Z, ρ, st, env, v, st1, S, E, e1, fun J H1 ρ1 X1 S1 J1 D0 h0 => ?_⟩
    have hH : H D0 = none := none_of (K := K) X1 h0
    refine ⟨fun i m H' => ∃ ρ' st' acc rest vs, Run (stepC T dt de cf (wipeE env us)) v m i st' rest st2 ∧ acc ++ rest = ys ∧ Lay K Z D0 ρ1 st1 H1 H' ρ' st' acc vs, ⟨m, ρ1, st1, [], ys, [], R, rfl, Lay.begin h0 S1⟩, fun i m H' hw => ?_⟩
    obtain ⟨ρ', st', acc, rest, vs, R, hall, L⟩ := hw
    have J' := J1.lift S1 L.ext h0
    cases R with
    | done b1 b2 =>
      refine .inl ⟨J'.stop L.srep b1 b2, ?_⟩
      rw [List.append_nil] at hall
      subst hall
      exact q _ _ ρ' vs ⟨L.cell, L.reps, L.srep, X1.trans L.ext⟩ hH hz'
    | @next m' _ _ xs d out st3 ys' _ b1 b2 b3 R' =>
      obtain ⟨g1, g2, g3, g4⟩ := J'.go L.srep b1 b2
      refine .inr ⟨g1, fun H2 => ∃ ρ2 vs2, Lay K Z D0 ρ1 st1 H1 H2 ρ2 st3 (acc ++ out) vs2, fun H2 hn => ?_, fun x H2 hy => ?_⟩
      · obtain ⟨ρ2, vs2, L2⟩ := hn
        exact ⟨m', Nat.lt_succ_self _, ρ2, st3, acc ++ out, ys', vs2, R', by rw [List.append_assoc]; exact hall, L2⟩
      · obtain ⟨rfl, rd⟩ := g4 x H2 hy
        refine lc_tail (P := fun _ _ _ => True) ⟨fun _ _ h => h, fun _ h => h⟩ trivial h0 b3 L ((E.ext S X1).lift S1 L.ext h0) rd hT ?_ fun H3 ρ3 vs3 L3 _ => ⟨ρ3, vs3, L3⟩
        rw [← hall] at hz'
        simp only [List.length_append] at hz' ⊢
        omega
  · cases e
theorem ev_lc (hi : EvI Γ cf k iter di) (ok : blkC Γ.N Γ.sc scope own = true) (hT : ∀ j ∈ T.vars, j ∈ own.map (·.2)) (hg : EvG (Γ.blk scope) cf k tg T) (ht : EvTs (Γ.blk scope) cf k ifs dt) (he : EvE (Γ.blk scope) cf k elt de) (hs : ∀ env x, foldedSetIterable iter env x = pure x) :
    EvF Γ cf k (.ListComp elt [⟨tg, iter, ifs, 0⟩] scope pos) (dLc di (own.map (·.2)) T dt de) := fun X G =>
  (pe_lc G.calm (by rw [G.names]; exact G.nd) (hi X tg G) (blkOk_by (by rw [G.names, G.sc]; exact ok)) (fun s H C cl fp => hg _ (G.blk scope s H C cl fp)) (fun s H C cl fp => ht _ (G.blk scope s H C cl fp)) (fun s H C cl fp => he _ (G.blk scope s H C cl fp)) (hs _)).imp fun σ H Q h => lc_all hT h
theorem lc2_all {K : PySem.W.Frag} {σ : St} {H : Hp} {Q : VK} {us : List Nat} (hT : ∀ j ∈ T.vars, j ∈ us) (hT1 : ∀ j ∈ T1.vars, j ∈ vs1) (h : tDenF K cf (dLc2 di us T dt di1 vs1 T1 dt1 de) σ H Q) :
    tLc2 (tIt K cf di) (tBind K T) (tTst K cf dt) (tIt K cf di1) (tBind K T1) (tTst K cf dt1) (tDen K cf de) us vs1 σ H Q := by
  obtain ⟨Z, ρ, st, env, ys0, st', S, E, e, q⟩ := h
  obtain ⟨⟨v, st1⟩, e1, e⟩ := Option.bind_eq_some_iff.mp e
  obtain ⟨⟨ys, st2⟩, e2, e⟩ := Option.bind_eq_some_iff.mp e
  unfold fin0 at e
  split at e
  · rename_i hz
    have hz' := szOk_of hz
    cases e
    obtain ⟨m, R⟩ := run_I e2
    refine ⟨Z, ρ, st, env, v, st1, S, E, e1, fun J H1 ρ1 X1 S1 J1 D0 h0 => ?_⟩
    have hH : H D0 = none := none_of (K := K) X1 h0
    refine ⟨fun i m H' => ∃ ρ' st' acc rest vs, Run (stepC2 T dt di1 vs1 T1 dt1 de cf (wipeE env us)) v m i st' rest st2 ∧ acc ++ rest = ys ∧ Lay K Z D0 ρ1 st1 H1 H' ρ' st' acc vs, ⟨m, ρ1, st1, [], ys, [], R, rfl, Lay.begin h0 S1⟩, fun i m H' hw => ?_⟩
    obtain ⟨ρ', st', acc, rest, vs, R, hall, L⟩ := hw
    have J' := J1.lift S1 L.ext h0
    cases R with
    | done b1 b2 =>
      refine .inl ⟨J'.stop L.srep b1 b2, ?_⟩
      rw [List.append_nil] at hall
      subst hall
      exact q _ _ ρ' vs ⟨L.cell, L.reps, L.srep, X1.trans L.ext⟩ hH hz'
    | @next m' _ _ xs d out st3 ys' _ b1 b2 b3 R' =>
      obtain ⟨g1, g2, g3, g4⟩ := J'.go L.srep b1 b2
      refine .inr ⟨g1, fun H2 => ∃ ρ2 vs2, Lay K Z D0 ρ1 st1 H1 H2 ρ2 st3 (acc ++ out) vs2, fun H2 hn => ?_, fun x H2 hy => ?_⟩
      · obtain ⟨ρ2, vs2, L2⟩ := hn
        exact ⟨m', Nat.lt_succ_self _, ρ2, st3, acc ++ out, ys', vs2, R', by rw [List.append_assoc]; exact hall, L2⟩
      · obtain ⟨rfl, rd⟩ := g4 x H2 hy
        have E0 := (E.ext S X1).lift S1 L.ext h0
        obtain ⟨env1, c1, b3⟩ := Option.bind_eq_some_iff.mp b3
        obtain ⟨⟨b, s1⟩, c2, b3⟩ := Option.bind_eq_some_iff.mp b3
        refine ⟨D0 :: Z, ρ', st', wipeE env us, d, env1, L.srep, E0.wipe us, rd, c1, fun σ2 E2 O2 => ⟨(O2.wipe hT).trans wipe_wipe, ?_⟩⟩
        refine ⟨D0 :: Z, ρ', st', env1, b, s1, L.srep, E2, c2, fun H3 ρ3 X3 S3 => ?_⟩
        have L3 := L.go X3 S3
        show ite _ _ _
        cases b with
        | false =>
          rw [if_neg Bool.false_ne_true] at b3 ⊢
          cases b3
          refine ⟨ρ3, vs, ?_⟩
          rw [List.append_nil]
          exact L3
        | true =>
          rw [if_pos rfl] at b3 ⊢
          obtain ⟨⟨v1, s2⟩, c3, b3⟩ := Option.bind_eq_some_iff.mp b3
          refine ⟨D0 :: Z, ρ3, s1, env1, v1, s2, S3, E2.ext L.srep X3, c3, fun J1 H4 ρ4 X4 S4 r4 => ?_⟩
          obtain ⟨m1, R1⟩ := run_I b3
          have hP : Lasts K Z D0 fun ρ st H => ERep K (D0 :: Z) ρ st H env1 σ2 ∧ ItRep K (D0 :: Z) ρ st H v1 J1 := ⟨fun S x h => ⟨h.1.ext S x, h.2.ext S x⟩, fun c h => ⟨h.1.upd c, h.2.upd c⟩⟩
          refine ⟨fun j m H' => ∃ ρ' st' acc' rest vs, Run (stepC T1 dt1 de cf (wipeE env1 vs1)) v1 m j st' rest st3 ∧ acc' ++ rest = acc ++ out ∧ Lay K Z D0 ρ1 st1 H1 H' ρ' st' acc' vs ∧ ERep K (D0 :: Z) ρ' st' H' env1 σ2 ∧ ItRep K (D0 :: Z) ρ' st' H' v1 J1,
            ⟨m1, ρ4, s2, acc, out, vs, R1, rfl, L3.go X4 S4, (E2.ext L.srep X3).ext S3 X4, r4⟩, fun j m H' hw => ?_⟩
          obtain ⟨ρ5, st5, acc5, rest5, vs5, R5, hall5, L5, E5, J5⟩ := hw
          cases R5 with
          | done d1 d2 =>
            refine .inl ⟨J5.stop L5.srep d1 d2, ρ5, vs5, ?_⟩
            rw [List.append_nil] at hall5
            rw [← hall5]
            exact L5
          | @next m6 _ _ xs6 d6 out6 st6 ys6 _ d1 d2 d3 R6 =>
            obtain ⟨k1, k2, k3, k4⟩ := J5.go L5.srep d1 d2
            refine .inr ⟨k1, fun H2 => ∃ ρ2 vs2, Lay K Z D0 ρ1 st1 H1 H2 ρ2 st6 (acc5 ++ out6) vs2 ∧ ERep K (D0 :: Z) ρ2 st6 H2 env1 σ2 ∧ ItRep K (D0 :: Z) ρ2 st6 H2 v1 J1, fun H2 hn => ?_, fun x H2 hy => ?_⟩
            · obtain ⟨ρ2, vs2, L2, E6, J6⟩ := hn
              exact ⟨m6, Nat.lt_succ_self _, ρ2, st6, acc5 ++ out6, ys6, vs2, R6, by rw [List.append_assoc]; exact hall5, L2, E6, J6⟩
            · obtain ⟨rfl, rd6⟩ := k4 x H2 hy
              refine lc_tail hP ⟨E5, J5⟩ h0 d3 L5 E5 rd6 hT1 ?_ fun H3 ρ3 vs3 L3 p3 => ⟨ρ3, vs3, L3, p3.1, p3.2⟩
              have : (acc5 ++ (out6 ++ ys6)).length ≤ sizeLine := by
                rw [hall5]
                rw [← hall] at hz'
                simp only [List.length_append] at hz' ⊢
                omega
              simp only [List.length_append] at this ⊢
              omega
  · cases e
theorem ev_lc2 (hi : EvI Γ cf k iter di) (ok : blkC Γ.N Γ.sc scope own = true) (hT : ∀ j ∈ T.vars, j ∈ own.map (·.2)) (hg : EvG (Γ.blk scope) cf k tg T) (ht : EvTs (Γ.blk scope) cf k ifs dt) (hi1 : EvI (Γ.blk scope) cf k it1 di1) (hv : ∀ i ∈ vs1, i ∈ own.map (·.2)) (hT1 : ∀ j ∈ T1.vars, j ∈ vs1) (hg1 : EvG (Γ.blk scope) cf k tg1 T1) (ht1 : EvTs (Γ.blk scope) cf k ifs1 dt1)
    (he : EvE (Γ.blk scope) cf k elt de) (hs : ∀ env x, foldedSetIterable iter env x = pure x) (hs1 : ∀ env x, foldedSetIterable it1 env x = pure x) :
    EvF Γ cf k (.ListComp elt [⟨tg, iter, ifs, 0⟩, ⟨tg1, it1, ifs1, 0⟩] scope pos) (dLc2 di (own.map (·.2)) T dt di1 vs1 T1 dt1 de) := fun X G =>
  (pe_lc2 G.calm (by rw [G.names]; exact G.nd) (hi X tg G) (blkOk_by (by rw [G.names, G.sc]; exact ok)) hv (fun s H C cl fp => hg _ (G.blk scope s H C cl fp)) (fun s H C cl fp => ht _ (G.blk scope s H C cl fp)) (fun s H C cl fp => hi1 _ tg1 (G.blk scope s H C cl fp)) (fun s H C cl fp => hg1 _ (G.blk scope s H C cl fp)) (fun s H C cl fp => ht1 _ (G.blk scope s H C cl fp))
    (fun s H C cl fp => he _ (G.blk scope s H C cl fp)) (hs _) hs1).imp fun σ H Q h => lc2_all hT hT1 h
end
end
end L2.Ev
set_option Elab.async false
set_option linter.all false
set_option maxRecDepth 100000
set_option maxHeartbeats 4000000
namespace L2.Ev
open PySem PySem.Spec PyProof.Rows

/-! ### what is surely a new list -/
section
variable {K : PySem.W.Frag} {Z ρ ρ' : List Addr} {st st' : Sto} {H H' : Hp}
theorem lay_new {p : Addr} {ds : List D} {vs : List V} (S : SRep K Z ρ st H) (E : Ext ρ st H ρ' st' H') (S' : SRep K Z ρ' st' H') (hp : H' p = none) (r : Reps K Z ρ' st' H' ds vs) : Lay K Z p ρ st H (upd H' p (.lst vs)) ρ' st' ds vs :=
  ⟨upd_same, Reps.lift S' (Same.ext (Same.fresh hp)) hp _ _ r, S'.begin hp _, Ext.updN E (none_of (K := K) E hp)⟩
mutual
theorem Rep.adopt {p : Addr} {ys : List D} (hl : ρ.length = st.length) : ∀ (d : D) (v : V), Rep K (p :: Z) ρ st H d v → Rep K Z (ρ ++ [p]) (st ++ [.live ys]) H d v
  | .non, v, h => by simpa only [Rep] using h
  | .bl b, v, h => by simpa only [Rep] using h
  | .int i, v, h => by simpa only [Rep] using h
  | .str x, v, h => by simpa only [Rep] using h
  | .tup ds, v, h => by
    simp only [Rep] at h ⊢
    obtain ⟨a, vs, h1, h2, h3, h4⟩ := h
    exact ⟨a, vs, h1, h2, Reps.adopt hl ds vs h3, h4⟩
  | .lst ds, v, h => by
    simp only [Rep] at h ⊢
    obtain ⟨a, vs, h1, h2, h3, h4, h5, h6⟩ := h
    refine ⟨a, vs, h1, h2, fun m => h3 (List.mem_cons_of_mem _ m), fun l => ?_, Reps.adopt hl ds vs h5, h6⟩
    obtain ⟨n, xs, g1, g2⟩ := l
    by_cases hn : n < ρ.length
    · rw [List.getElem?_append_left hn] at g1
      rw [List.getElem?_append_left (by rw [← hl]; exact hn)] at g2
      exact h4 ⟨n, xs, g1, g2⟩
    · rw [List.getElem?_append_right (by omega)] at g1
      have e : n - ρ.length = 0 := by
        have := (List.getElem?_eq_some_iff.mp g1).1
        simp at this
        omega
      rw [e] at g1
      cases g1
      exact h3 List.mem_cons_self
theorem Reps.adopt {p : Addr} {ys : List D} (hl : ρ.length = st.length) : ∀ (ds : List D) (vs : List V), Reps K (p :: Z) ρ st H ds vs → Reps K Z (ρ ++ [p]) (st ++ [.live ys]) H ds vs
  | [], vs, h => by simpa only [Reps] using h
  | x :: xs', vs, h => by
    simp only [Reps] at h ⊢
    obtain ⟨v, r, h1, h2, h3⟩ := h
    exact ⟨v, r, h1, Rep.adopt hl x v h2, Reps.adopt hl xs' r h3⟩
end
/-- a new list becomes a cell -/
theorem adopt {p : Addr} {ds : List D} {vs : List V} (S0 : SRep K Z ρ st H) (L : Lay K Z p ρ st H H' ρ' st' ds vs) (h0 : H p = none) (hz : ds.length ≤ sizeLine) :
    Ext ρ st H (ρ' ++ [p]) (st' ++ [.live ds]) H' ∧ SRep K Z (ρ' ++ [p]) (st' ++ [.live ds]) H' := by
  have S := L.srep
  have hρ : p ∉ ρ' := fun hm => by
    obtain ⟨n, hn⟩ := List.getElem?_of_mem hm
    have hl : n < st'.length := by rw [← S.len]; exact (List.getElem?_eq_some_iff.mp hn).1
    obtain ⟨ws, _, hw, _⟩ := S.cell n p _ hn (List.getElem?_eq_getElem hl)
    exact hw List.mem_cons_self
  obtain ⟨r, hr⟩ := L.ext.pre
  have split : ∀ {n : Nat} {a : Addr} {c : Cel}, (ρ' ++ [p])[n]? = some a → (st' ++ [Cel.live ds])[n]? = some c → (ρ'[n]? = some a ∧ st'[n]? = some c) ∨ (a = p ∧ c = .live ds) := fun {n a c} h1 h2 => by
    by_cases hn : n < ρ'.length
    · rw [List.getElem?_append_left hn] at h1
      rw [List.getElem?_append_left (by rw [← S.len]; exact hn)] at h2
      exact .inl ⟨h1, h2⟩
    · rw [List.getElem?_append_right (by omega)] at h1
      have e : n - ρ'.length = 0 := by
        have := (List.getElem?_eq_some_iff.mp h1).1
        simp at this
        omega
      rw [e] at h1
      rw [List.getElem?_append_right (by rw [← S.len]; omega), ← S.len, e] at h2
      cases h1
      cases h2
      exact .inr ⟨rfl, rfl⟩
  have E : Ext ρ st H (ρ' ++ [p]) (st' ++ [.live ds]) H' := by
    refine ⟨⟨r ++ [p], by rw [hr, List.append_assoc]⟩, L.ext.keep, L.ext.dom, fun a o ha l => ?_⟩
    obtain ⟨n, xs, h1, h2⟩ := l
    rcases split h1 h2 with ⟨h1, h2⟩ | ⟨rfl, _⟩
    · exact L.ext.live a o ha ⟨n, xs, h1, h2⟩
    · rw [h0] at ha
      cases ha
  refine ⟨E, ⟨by simp [S.len], ?_, fun z hz => S.zd z (List.mem_cons_of_mem _ hz), fun n a c h1 h2 => ?_⟩⟩
  · rw [List.nodup_append]
    refine ⟨S.nd, by simp, fun a ha b hb => ?_⟩
    simp at hb
    subst hb
    exact fun z => hρ (z ▸ ha)
  · rcases split h1 h2 with ⟨h1, h2⟩ | ⟨rfl, rfl⟩
    · obtain ⟨ws, k1, k2, k3, k4⟩ := S.cell n a c h1 h2
      exact ⟨ws, k1, fun m => k2 (List.mem_cons_of_mem _ m), Reps.adopt S.len _ _ k3, k4⟩
    · exact ⟨vs, L.cell, S0.notZ h0, Reps.adopt S.len _ _ L.reps, hz⟩
/-- a cell is written -/
theorem upd_cell {n : Nat} {a : Addr} {xs ys : List D} {vs : List V} (S : SRep K Z ρ st H) (h1 : ρ[n]? = some a) (h2 : st[n]? = some (.live xs)) (r : Reps K Z ρ st H ys vs) (hz : ys.length ≤ sizeLine) :
    Ext ρ st H ρ (st.set n (.live ys)) (upd H a (.lst vs)) ∧ SRep K Z ρ (st.set n (.live ys)) (upd H a (.lst vs)) := by
  have hl : n < st.length := (List.getElem?_eq_some_iff.mp h2).1
  have one : ∀ {m : Nat} {b : Addr}, ρ[m]? = some b → (b = a ↔ m = n) := fun {m b} hb => by
    constructor
    · rintro rfl
      obtain ⟨g1, e1⟩ := List.getElem?_eq_some_iff.mp hb
      obtain ⟨g2, e2⟩ := List.getElem?_eq_some_iff.mp h1
      exact (List.getElem_inj S.nd).mp (e1.trans e2.symm)
    · rintro rfl
      rw [h1] at hb
      cases hb
      rfl
  have lv : LiveA ρ st a := ⟨n, xs, h1, h2⟩
  have E : Ext ρ st H ρ (st.set n (.live ys)) (upd H a (.lst vs)) := by
    refine ⟨⟨[], (List.append_nil _).symm⟩, fun b o hb nl => ?_, fun b o hb => ?_, fun b o hb l => ?_⟩
    · rw [upd_ne (fun z => nl (by rw [z]; exact lv))]
      exact hb
    · by_cases z : b = a
      · subst z
        exact ⟨_, upd_same⟩
      · exact ⟨o, by rw [upd_ne z]; exact hb⟩
    · obtain ⟨m, zs, g1, g2⟩ := l
      by_cases z : n = m
      · subst z
        rw [h1] at g1
        cases g1
        exact lv
      · rw [List.getElem?_set_ne z] at g2
        exact ⟨m, zs, g1, g2⟩
  refine ⟨E, ⟨by rw [List.length_set]; exact S.len, S.nd, fun z hz => ?_, fun m b c g1 g2 => ?_⟩⟩
  · obtain ⟨o, ho⟩ := S.zd z hz
    exact E.dom _ _ ho
  · by_cases z : n = m
    · subst z
      rw [h1] at g1
      cases g1
      rw [List.getElem?_set_self hl] at g2
      cases g2
      obtain ⟨_, _, k2, _⟩ := S.cell n a _ h1 h2
      exact ⟨vs, upd_same, k2, Reps.ext S E _ _ r, hz⟩
    · rw [List.getElem?_set_ne z] at g2
      obtain ⟨ws, k1, k2, k3, k4⟩ := S.cell m b c g1 g2
      have hne : b ≠ a := fun e => z ((one g1).mp e).symm
      exact ⟨ws, by rw [upd_ne hne]; exact k1, k2, Reps.ext S E _ _ k3, k4⟩
theorem live_lt {n : Nat} {xs : List D} (S : SRep K Z ρ st H) (h2 : st[n]? = some (.live xs)) : ∃ a vs, ρ[n]? = some a ∧ H a = some (.lst vs) ∧ Reps K Z ρ st H xs vs ∧ xs.length ≤ sizeLine := by
  have hl : n < ρ.length := by rw [S.len]; exact (List.getElem?_eq_some_iff.mp h2).1
  obtain ⟨vs, k1, k2, k3, k4⟩ := S.cell n _ _ (List.getElem?_eq_getElem hl) h2
  exact ⟨_, vs, List.getElem?_eq_getElem hl, k1, k3, k4⟩
end
section
variable {Γ : Cs} {cf : CF} {k : Nat} {e a b c : Expr} {es : List Expr} {da db dc : Den} {as : DenL} {pos : Pos}
theorem ev_lstF (h : EvA Γ cf k es as) : EvF Γ cf k (.List es pos) (dLst as) := fun X G =>
  (pe_lst (h.pa X G)).imp fun σ H Q ⟨Z, ρ, st, env, ds, st', S, E, e, q⟩ => by
    obtain ⟨p, e1, e⟩ := Option.bind_eq_some_iff.mp e
    obtain ⟨r, e2, e⟩ := Option.bind_eq_some_iff.mp e
    split at e
    · rename_i hz
      cases e
      refine ⟨Z, ρ, st, env, p.1, p.2, S, E, e1, fun vs H1 ρ1 X1 S1 r1 => ?_⟩
      obtain ⟨E2, S2, r2⟩ := frozs_ok S1 r1 e2
      refine ⟨by rw [r2.length]; exact szOk_of hz, fun pp hp => ?_⟩
      exact q _ _ ρ1 vs (lay_new S (X1.trans E2) S2 hp r2) (none_of (K := X.K) X1 hp) (szOk_of hz)
    · cases e
/-- two lists or a list so many times: a new list -/
def rCatF (K : PySem.W.Frag) (f : D → D → Option D) : R2 := fun x y H Q => ∃ Z ρ st a b ds, SRep K Z ρ st H ∧ RdR K Z ρ st H a x ∧ RdR K Z ρ st H b y ∧ f a b = some (.lst ds) ∧ ∀ p vs, H p = none → Reps K Z ρ st H ds vs → ds.length ≤ sizeLine → Q (.ref p) (upd H p (.lst vs))
section
variable {X : Cx}
theorem op_addF : OpR X (binaryOp .Add) (rCatF X.K addD) := by
  intro pins s σ H x y v u Q I rx ry ⟨Z, ρ, st, a, b, d, S, ra, rb, e, q⟩
  unfold addD at e
  split at e
  · cases e
  · split at e <;> cases e
  · split at e <;> cases e
  · split at e
    · rename_i h
      cases e
      obtain ⟨a, vs, rfl, h1, h2⟩ := ra.lst
      obtain ⟨b, ws, rfl, h3, h4⟩ := rb.lst
      have hz : vs.length + ws.length ≤ sizeLine := by
        rw [h2.length, h4.length]
        exact szOk_of h
      exact op_cat pins s σ H _ _ v u Q I rx ry ⟨a, b, vs, ws, rfl, rfl, h1, h3, hz, fun p hp => q _ _ hp (h2.append h4) (by rw [List.length_append]; exact szOk_of h)⟩
    · cases e
  · cases e
theorem op_mulF : OpR X (binaryOp .Mult) (rCatF X.K mulD) := by
  intro pins s σ H x y v u Q I rx ry ⟨Z, ρ, st, a, b, d, S, ra, rb, e, q⟩
  unfold mulD at e
  split at e
  · split at e <;> cases e
  · split at e <;> cases e
  · rename_i xs k
    split at e
    · rename_i h
      cases e
      obtain ⟨a, vs, rfl, h1, h2⟩ := ra.lst
      obtain rfl := rb.int
      unfold repOk at h
      simp only [Bool.and_eq_true, decide_eq_true_eq, sm_iff] at h
      obtain ⟨⟨k0, k1'⟩, hl⟩ := h
      have k1 : k ≤ 1000 := by omega
      have hl := Nat.le_of_ble_eq_true hl
      have hz := rep_len (k := k) hl k1
      rw [← h2.length] at hl
      refine op_rep pins s σ H _ _ v u Q I rx ry ⟨a, k, vs, rfl, rfl, h1, by omega, by omega, ?_, fun p hp => q _ _ hp (h2.rep _) hz⟩
      rw [sizeLine_eq]
      have a1 : vs.length * k.toNat ≤ 1000 * 1000 := Nat.mul_le_mul hl (by omega)
      omega
    · cases e
  · cases e
theorem op_noneF {f : Value → Value → Sem Value} : OpR X f (rCatF X.K fun _ _ => none) := by
  intro pins s σ H x y v u Q I rx ry ⟨Z, ρ, st, a, b, d, S, ra, rb, e, q⟩
  cases e
end
theorem ev_binF {op : Operator} (ho : op = .Add ∨ op = .Mult) (ha : EvE Γ cf k a da) (hb : EvE Γ cf k b db) : EvF Γ cf k (.BinOp a op b pos) (dBin op da db) := fun X G => by
  have R : OpR X (binaryOp op) (rCatF X.K (binD op)) := by
    rcases ho with rfl | rfl
    · exact op_addF
    · exact op_mulF
  refine (pe_op R (ha X G) (hb X G)).imp fun σ H Q ⟨Z, ρ, st, env, ds, st', S, E, e, q⟩ => ?_
  obtain ⟨p, e1, e⟩ := Option.bind_eq_some_iff.mp e
  obtain ⟨r, e2, e⟩ := Option.bind_eq_some_iff.mp e
  obtain ⟨x, e3, e⟩ := Option.bind_eq_some_iff.mp e
  obtain ⟨y, e4, e⟩ := Option.bind_eq_some_iff.mp e
  obtain ⟨d, e5, e⟩ := Option.map_eq_some_iff.mp e
  cases e
  exact two_den S E e1 e2 fun v u H' ρ' X' S' r1 r2 => ⟨Z, ρ', r.2, x, y, ds, S', peek_rd S' r1 e3, peek_rd S' r2 e4, e5, fun p' vs hp rr hz => q p' _ ρ' vs (lay_new S X' S' hp rr) (none_of (K := X.K) X' hp) hz⟩
theorem cr_listF {X : Cx} : CallR X (.type "list") (fun vs H Q => ∃ Z ρ st ws ds, SRep X.K Z ρ st H ∧ WReps X.K Z ρ st H ws vs ∧ primW .list ws st = some (.val (.lst ds)) ∧ ∀ p us, H p = none → Reps X.K Z ρ st H ds us → ds.length ≤ sizeLine → Q (.ref p) (upd H p (.lst us))) := by
  intro pins s σ H xs us Q I r ⟨Z, ρ, st, ws, ds, S, ra, e, q⟩
  unfold primW at e
  split at e
  · cases e
  · obtain ⟨ds', h1, e⟩ := Option.bind_eq_some_iff.mp e
    obtain ⟨d, h2, e⟩ := Option.map_eq_some_iff.mp e
    cases e
    have ra' := peeks_rd S ra h1
    simp only [primD] at h2
    unfold listD at h2
    split at h2
    · cases h2
      obtain ⟨v, rfl, h⟩ := ra'.one
      obtain ⟨a, vs, rfl, h1, h2⟩ := h.tup
      exact call_list_of pins s σ H _ us Q I r ⟨a, vs, rfl, .inr h1, fun p hp => q _ _ hp h2 h.tlen⟩
    · cases h2
      obtain ⟨v, rfl, h⟩ := ra'.one
      obtain ⟨a, vs, rfl, h1, h2⟩ := h.lst
      exact call_list_of pins s σ H _ us Q I r ⟨a, vs, rfl, .inl (SqL.of h1), fun p hp => q _ _ hp h2 h.llen⟩
    · cases h2
theorem ev_listF {x : Expr} {p1 : Pos} (hg : Γ.sc.names.lookup (PySem.Str.ofString "list") = some .globalImplicit) (ha : EvA Γ cf k (x :: es) as) : EvF Γ cf k (.Call (.Name (PySem.Str.ofString "list") p1) (x :: es) [] pos) (dPrim .list as) := fun X G => by
  have hg' : Gl X "list" := by show X.env.scope.names.lookup _ = _; rw [G.sc]; exact hg
  have hm : X.mg "list" = none := G.blt _ (by decide +kernel)
  have hst := ha.ns x List.mem_cons_self es X.env
  have hpl := stars_none pos X.env fun e h => ha.ns e (List.mem_cons_of_mem x h)
  refine (pe_callTy (cr_listF (X := X)) hg' hm (by decide +kernel) (ha.pa X G) (by decide +kernel) (by decide +kernel) hst hpl).imp fun σ H Q ⟨Z, ρ, st, env, ds, st', S, E, e, q⟩ => ?_
  obtain ⟨r, e1, e⟩ := Option.bind_eq_some_iff.mp e
  obtain ⟨w', e2, e⟩ := Option.map_eq_some_iff.mp e
  cases e
  exact ⟨Z, ρ, st, env, r.1, r.2, S, E, e1, fun vs H1 ρ1 X1 S1 r1 => ⟨Z, ρ1, r.2, r.1, ds, S1, r1, e2, fun p us hp rr hz => q p _ ρ1 us (lay_new S X1 S1 hp rr) (none_of (K := X.K) X1 hp) hz⟩⟩

/-! ### methods of a list -/
def getL (n : Nat) (st : Sto) : Option (List D) := (st[n]?).bind fun c => match c with
  | .live xs => some xs
  | .froz _ => none
theorem getL_of {n : Nat} {st : Sto} {xs : List D} (h : getL n st = some xs) : st[n]? = some (.live xs) := by
  obtain ⟨c, hc, h⟩ := Option.bind_eq_some_iff.mp h
  split at h
  · cases h
    exact hc
  · cases h
def putL (n : Nat) (xs : List D) (st : Sto) : Sto := st.set n (.live xs)
def celW : Wv → Option Nat
  | .cel n => some n
  | _ => none
theorem celW_of {w : Wv} {n : Nat} (h : celW w = some n) : w = .cel n := by
  cases w <;> simp only [celW] at h <;> cases h
  rfl
/-- o.append(e) -/
def dApp (o a : Den) : Den := fun cf env st => (o cf env st).bind fun p => (celW p.1).bind fun n => (a cf env p.2).bind fun q => (froz q.1 q.2).bind fun r => (getL n r.2).bind fun xs =>
  if szOk (xs.length + 1) then some (.val .non, putL n (xs ++ [r.1]) r.2) else none
/-- o.extend(e) -/
def dExt (o a : Den) : Den := fun cf env st => (o cf env st).bind fun p => (celW p.1).bind fun n => (a cf env p.2).bind fun q => (peek q.1 q.2).bind fun y => (getL n q.2).bind fun xs => match y with
  | .lst ys => if szOk (xs.length + ys.length) then some (.val .non, putL n (xs ++ ys) q.2) else none
  | _ => none
/-- o.pop() -/
def dPop (o : Den) : Den := fun cf env st => (o cf env st).bind fun p => (celW p.1).bind fun n => (getL n p.2).bind fun xs => (xs[xs.length - 1]?).map fun d => (.val d, putL n xs.dropLast p.2)
/-- o.pop(i) -/
def dPopA (o a : Den) : Den := fun cf env st => (o cf env st).bind fun p => (celW p.1).bind fun n => (a cf env p.2).bind fun q => (peek q.1 q.2).bind fun y => (getL n q.2).bind fun xs => match y with
  | .int i => if sm i 9223372036854775808 then (seqIndex? i xs.length).bind fun j => (xs[j]?).map fun d => (.val d, putL n (xs.eraseIdx j) q.2) else none
  | _ => none
theorem Reps.dropLast {K : PySem.W.Frag} {Z ρ : List Addr} {st : Sto} {H : Hp} {ds : List D} {vs : List V} (h : Reps K Z ρ st H ds vs) : Reps K Z ρ st H ds.dropLast vs.dropLast := by
  rw [List.dropLast_eq_take, List.dropLast_eq_take, h.length]
  exact h.take _
theorem att_base {o : Expr} {m : Str} {env : Env} {x : Sem Value} (h : match o with | .Call .. => False | _ => True) : attributeBase o m env x = x := by
  cases o <;> first | rfl | exact False.elim h
def NoCall (o : Expr) : Prop := match o with | .Call .. => False | _ => True
theorem few1 {a : Expr} {cpos : Pos} {X : Cx} (hn : NoStar a) : ((backTo cpos (starEach [a] X.env)).all (fun x => !x.1) && (backToKw cpos (keywordEach [] X.env)).all (fun x => x.1.isSome)
      && decide (([a] : List Expr).length + ([] : List Keyword).length + (if ([] : List Keyword).isEmpty then 0 else 1) < 30)) = true := by
  rw [hn [] X.env]
  rfl
theorem ev_append {apos : Pos} (ho : EvE Γ cf k a da) (hb : EvE Γ cf k b db) (hc : NoCall a) (hn : NoStar b) (hl : (apos.endLine == pos.line) = true) : EvE Γ cf k (.Call (.Attribute a (PySem.Str.ofString "append") apos) [b] [] pos) (dApp da db) := fun X G => by
  have hs : starEach [b] X.env = (false, eval b X.env) :: starEach [] X.env := hn [] X.env
  refine (pe_bm (T := "list") (id := "list.append") F.plainAttrs_list F.slot_list_append (by rfl) (show MtR X "list.append" rAppend from mt_append) (ho X G) (pa_cons (hb X G) pa_nil hs) (att_base hc) (few1 hn) hl hs (by rfl)).imp fun σ H Q ⟨Z, ρ, st, env, w, st', S, E, e, q⟩ => ?_
  obtain ⟨p, e1, e⟩ := Option.bind_eq_some_iff.mp e
  obtain ⟨n, e2, e⟩ := Option.bind_eq_some_iff.mp e
  obtain ⟨r, e3, e⟩ := Option.bind_eq_some_iff.mp e
  obtain ⟨⟨d, st3⟩, e4, e⟩ := Option.bind_eq_some_iff.mp e
  obtain ⟨xs, e5, e⟩ := Option.bind_eq_some_iff.mp e
  split at e
  · rename_i hz
    cases e
    have hz := szOk_of hz
    refine ⟨Z, ρ, st, env, p.1, p.2, S, E, e1, fun v H1 ρ1 X1 S1 r1 => ?_⟩
    rw [celW_of e2] at r1
    obtain ⟨a0, ha0, rfl⟩ := r1
    have hlt : n < p.2.length := by rw [← S1.len]; exact (List.getElem?_eq_some_iff.mp ha0).1
    obtain ⟨vs1, k1, _⟩ := S1.cell n a0 _ ha0 (List.getElem?_eq_getElem hlt)
    refine ⟨.inl ⟨rfl, vs1, SqL.of k1⟩, ?_⟩
    refine ⟨Z, ρ1, p.2, env, r.1, r.2, S1, E.ext S X1, e3, fun y H2 ρ2 X2 S2 r2 => ?_⟩
    obtain ⟨E3, S3, r3⟩ := froz_ok S2 r2 e4
    have hg := getL_of e5
    obtain ⟨a', vs, g1, g2, g3, g4⟩ := live_lt S3 hg
    have := X2.rho ha0
    rw [g1] at this
    cases this
    obtain ⟨E4, S4⟩ := upd_cell S3 g1 hg (g3.snoc r3) (by rw [List.length_append]; exact hz)
    refine ⟨_, vs, y, rfl, rfl, g2, by rw [g3.length]; exact hz, q _ _ _ (((X1.trans X2).trans E3).trans E4) S4 ?_⟩
    simp only [WRep, Rep]
  · cases e
theorem ev_extend {apos : Pos} (ho : EvE Γ cf k a da) (hb : EvE Γ cf k b db) (hc : NoCall a) (hn : NoStar b) (hl : (apos.endLine == pos.line) = true) : EvE Γ cf k (.Call (.Attribute a (PySem.Str.ofString "extend") apos) [b] [] pos) (dExt da db) := fun X G => by
  have hs : starEach [b] X.env = (false, eval b X.env) :: starEach [] X.env := hn [] X.env
  refine (pe_bm (T := "list") (id := "list.extend") F.plainAttrs_list F.slot_list_extend (by rfl) (show MtR X "list.extend" rExtend from mt_extend) (ho X G) (pa_cons (hb X G) pa_nil hs) (att_base hc) (few1 hn) hl hs (by rfl)).imp fun σ H Q ⟨Z, ρ, st, env, w, st', S, E, e, q⟩ => ?_
  obtain ⟨p, e1, e⟩ := Option.bind_eq_some_iff.mp e
  obtain ⟨n, e2, e⟩ := Option.bind_eq_some_iff.mp e
  obtain ⟨r, e3, e⟩ := Option.bind_eq_some_iff.mp e
  obtain ⟨y, e4, e⟩ := Option.bind_eq_some_iff.mp e
  obtain ⟨xs, e5, e⟩ := Option.bind_eq_some_iff.mp e
  split at e
  · rename_i ys
    split at e
    · rename_i hz
      cases e
      have hz := szOk_of hz
      refine ⟨Z, ρ, st, env, p.1, p.2, S, E, e1, fun v H1 ρ1 X1 S1 r1 => ?_⟩
      rw [celW_of e2] at r1
      obtain ⟨a0, ha0, rfl⟩ := r1
      have hlt : n < p.2.length := by rw [← S1.len]; exact (List.getElem?_eq_some_iff.mp ha0).1
      obtain ⟨vs1, k1, _⟩ := S1.cell n a0 _ ha0 (List.getElem?_eq_getElem hlt)
      refine ⟨.inl ⟨rfl, vs1, SqL.of k1⟩, ?_⟩
      refine ⟨Z, ρ1, p.2, env, r.1, r.2, S1, E.ext S X1, e3, fun y H2 ρ2 X2 S2 r2 => ?_⟩
      obtain ⟨b0, ws, rfl, m1, m2⟩ := (peek_rd S2 r2 e4).lst
      have hg := getL_of e5
      obtain ⟨a', vs, g1, g2, g3, g4⟩ := live_lt S2 hg
      have := X2.rho ha0
      rw [g1] at this
      cases this
      obtain ⟨E4, S4⟩ := upd_cell S2 g1 hg (g3.append m2) (by rw [List.length_append]; exact hz)
      refine ⟨_, b0, vs, ws, rfl, rfl, g2, m1, by rw [g3.length, m2.length]; exact hz, q _ _ _ ((X1.trans X2).trans E4) S4 ?_⟩
      simp only [WRep, Rep]
    · cases e
  · cases e
theorem ev_pop {apos : Pos} (ho : EvE Γ cf k a da) (hc : NoCall a) (hl : (apos.endLine == pos.line) = true) : EvE Γ cf k (.Call (.Attribute a (PySem.Str.ofString "pop") apos) [] [] pos) (dPop da) := fun X G => by
  refine (pe_bm0 (T := "list") (id := "list.pop") F.plainAttrs_list F.slot_list_pop (by rfl) (show MtR X "list.pop" rPop from mt_pop) (ho X G) (att_base hc) hl).imp fun σ H Q ⟨Z, ρ, st, env, w, st', S, E, e, q⟩ => ?_
  obtain ⟨p, e1, e⟩ := Option.bind_eq_some_iff.mp e
  obtain ⟨n, e2, e⟩ := Option.bind_eq_some_iff.mp e
  obtain ⟨xs, e5, e⟩ := Option.bind_eq_some_iff.mp e
  obtain ⟨d, e6, e⟩ := Option.map_eq_some_iff.mp e
  cases e
  refine ⟨Z, ρ, st, env, p.1, p.2, S, E, e1, fun v H1 ρ1 X1 S1 r1 => ?_⟩
  rw [celW_of e2] at r1
  obtain ⟨a0, ha0, rfl⟩ := r1
  have hg := getL_of e5
  obtain ⟨a', vs, g1, g2, g3, g4⟩ := live_lt S1 hg
  rw [g1] at ha0
  cases ha0
  obtain ⟨y, hy, ry⟩ := g3.get e6
  obtain ⟨E4, S4⟩ := upd_cell S1 g1 hg g3.dropLast (by rw [List.length_dropLast]; omega)
  refine ⟨.inl ⟨rfl, vs, SqL.of g2⟩, a0, vs, y, rfl, rfl, g2, by rw [g3.length]; exact hy, q _ _ _ (X1.trans E4) S4 ?_⟩
  exact Rep.ext S1 E4 _ _ ry
theorem ev_popA {apos : Pos} (ho : EvE Γ cf k a da) (hb : EvE Γ cf k b db) (hc : NoCall a) (hn : NoStar b) (hl : (apos.endLine == pos.line) = true) : EvE Γ cf k (.Call (.Attribute a (PySem.Str.ofString "pop") apos) [b] [] pos) (dPopA da db) := fun X G => by
  have hs : starEach [b] X.env = (false, eval b X.env) :: starEach [] X.env := hn [] X.env
  refine (pe_bm (T := "list") (id := "list.pop") F.plainAttrs_list F.slot_list_pop (by rfl) (show MtR X "list.pop" rPopAt from mt_popAt) (ho X G) (pa_cons (hb X G) pa_nil hs) (att_base hc) (few1 hn) hl hs (by rfl)).imp fun σ H Q ⟨Z, ρ, st, env, w, st', S, E, e, q⟩ => ?_
  obtain ⟨p, e1, e⟩ := Option.bind_eq_some_iff.mp e
  obtain ⟨n, e2, e⟩ := Option.bind_eq_some_iff.mp e
  obtain ⟨r, e3, e⟩ := Option.bind_eq_some_iff.mp e
  obtain ⟨y, e4, e⟩ := Option.bind_eq_some_iff.mp e
  obtain ⟨xs, e5, e⟩ := Option.bind_eq_some_iff.mp e
  split at e
  · rename_i i
    split at e
    · rename_i hi
      rw [sm_iff] at hi
      obtain ⟨j, e6, e⟩ := Option.bind_eq_some_iff.mp e
      obtain ⟨d, e7, e⟩ := Option.map_eq_some_iff.mp e
      cases e
      refine ⟨Z, ρ, st, env, p.1, p.2, S, E, e1, fun v H1 ρ1 X1 S1 r1 => ?_⟩
      rw [celW_of e2] at r1
      obtain ⟨a0, ha0, rfl⟩ := r1
      have hlt : n < p.2.length := by rw [← S1.len]; exact (List.getElem?_eq_some_iff.mp ha0).1
      obtain ⟨vs1, k1, _⟩ := S1.cell n a0 _ ha0 (List.getElem?_eq_getElem hlt)
      refine ⟨.inl ⟨rfl, vs1, SqL.of k1⟩, ?_⟩
      refine ⟨Z, ρ1, p.2, env, r.1, r.2, S1, E.ext S X1, e3, fun y H2 ρ2 X2 S2 r2 => ?_⟩
      obtain rfl := (peek_rd S2 r2 e4).int
      have hg := getL_of e5
      obtain ⟨a', vs, g1, g2, g3, g4⟩ := live_lt S2 hg
      have := X2.rho ha0
      rw [g1] at this
      cases this
      obtain ⟨y, hy, ry⟩ := g3.get e7
      obtain ⟨E4, S4⟩ := upd_cell S2 g1 hg (g3.eraseIdx j) (Nat.le_trans (len_erase _ _) g4)
      refine ⟨_, vs, _, j, y, rfl, rfl, g2, by omega, by omega, by rw [g3.length]; exact e6, hy, q _ _ _ ((X1.trans X2).trans E4) S4 ?_⟩
      exact Rep.ext S2 E4 _ _ ry
    · cases e
  · cases e
end
end L2.Ev
set_option Elab.async false
set_option linter.all false
set_option maxRecDepth 100000
set_option maxHeartbeats 4000000
namespace L2.Ev
open PySem PySem.Spec PyProof.Rows

/-! ### statements -/
inductive Fl where
  | nx (env : En) | rt (w : Wv) | bk (env : En) | ct (env : En)
abbrev SDen := CF → En → Sto → Option (Fl × Sto)
def sPass : SDen := fun _ env st => some (.nx env, st)
def sSeq (a b : SDen) : SDen := fun cf env st => (a cf env st).bind fun p => match p.1 with
  | .nx env' => b cf env' p.2
  | f => some (f, p.2)
def sAsg (i : Nat) (d : Den) : SDen := fun cf env st => (d cf env st).map fun p => (.nx (env.set i (some p.1)), p.2)
def lstW : Wv → Option (List D)
  | .val (.lst ds) => some ds
  | _ => none
def sOwn (i : Nat) (d : Den) : SDen := fun cf env st => (d cf env st).bind fun p => (lstW p.1).map fun ds => (.nx (env.set i (some (.cel p.2.length))), p.2 ++ [.live ds])
def sUnp (is : List Nat) (d : Den) : SDen := fun cf env st => (d cf env st).bind fun p => (froz p.1 p.2).bind fun q => (bindT (.many is) q.1 env).map fun env' => (.nx env', q.2)
def sPar (i j : Nat) (a b : Den) : SDen := fun cf env st => (a cf env st).bind fun p => (b cf env p.2).map fun q => (.nx ((env.set i (some p.1)).set j (some q.1)), q.2)
def sSub (o i e : Den) : SDen := fun cf env st => (e cf env st).bind fun p => (o cf env p.2).bind fun q => (celW q.1).bind fun n => (i cf env q.2).bind fun r => (froz p.1 r.2).bind fun x => (peek r.1 x.2).bind fun y => (getL n x.2).bind fun xs => match y with
  | .int k => (ixN xs.length k).map fun j => (.nx env, putL n (xs.set j x.1) x.2)
  | _ => none
def sRet (d : Den) : SDen := fun cf env st => (d cf env st).map fun p => (.rt p.1, p.2)
def sRetN : SDen := fun _ _ st => some (.rt (.val .non), st)
def sIf (c : Den) (a b : SDen) : SDen := fun cf env st => (c cf env st).bind fun p => (truth p.1 p.2).bind fun t => if t then a cf env p.2 else b cf env p.2
def sExp (d : Den) : SDen := fun cf env st => (d cf env st).map fun p => (.nx env, p.2)
def sBrk : SDen := fun _ env st => some (.bk env, st)
def sCnt : SDen := fun _ env st => some (.ct env, st)
def augD : Operator → Int → Int → Option Int
  | .Add, i, j => some (i + j)
  | .Sub, i, j => some (i - j)
  | _, _, _ => none
def intW : Wv → Option Int
  | .val (.int i) => some i
  | _ => none
def sAug (i : Nat) (op : Operator) (d : Den) : SDen := fun cf env st => (env[i]?.bind id).bind fun w => (d cf env st).bind fun p => (intW w).bind fun x => (intW p.1).bind fun y => (augD op x y).map fun z => (.nx (env.set i (some (.val (.int z)))), p.2)
abbrev Body := D → En → Sto → Option (Fl × Sto)
def forL (f : Body) : List D → En → Sto → Option (Fl × Sto)
  | [], env, st => some (.nx env, st)
  | d :: ds, env, st => (f d env st).bind fun p => match p.1 with
    | .nx e => forL f ds e p.2
    | .ct e => forL f ds e p.2
    | .bk e => some (.nx e, p.2)
    | .rt w => some (.rt w, p.2)
def forC (f : Body) (n : Nat) : Nat → Nat → En → Sto → Option (Fl × Sto)
  | 0, _, _, _ => none
  | m + 1, i, env, st => (st[n]?).bind fun c => match c.items[i]? with
    | none => some (.nx env, st)
    | some d => (f d env st).bind fun p => match p.1 with
      | .nx e => forC f n m (i + 1) e p.2
      | .ct e => forC f n m (i + 1) e p.2
      | .bk e => some (.nx e, p.2)
      | .rt w => some (.rt w, p.2)
def bigF : Nat := 1000000
def forI (f : Body) : Iv → En → Sto → Option (Fl × Sto)
  | .items xs, env, st => forL f xs env st
  | .cel n, env, st => forC f n bigF 0 env st
def bodyF (T : Tg) (b : SDen) (cf : CF) : Body := fun d env st => (bindT T d env).bind fun e => b cf e st
def sFor (it : DenI) (T : Tg) (b : SDen) : SDen := fun cf env st => (it cf env st).bind fun p => forI (bodyF T b cf) p.1 env p.2
def whL (c : En → Sto → Option (Bool × Sto)) (f : En → Sto → Option (Fl × Sto)) : Nat → En → Sto → Option (Fl × Sto)
  | 0, _, _ => none
  | m + 1, env, st => (c env st).bind fun p => if p.1 then (f env p.2).bind fun q => match q.1 with
      | .nx e => whL c f m e q.2
      | .ct e => whL c f m e q.2
      | .bk e => some (.nx e, q.2)
      | .rt w => some (.rt w, q.2)
    else some (.nx env, p.2)
def sWh (c : Den) (b : SDen) : SDen := fun cf env st => whL (fun e s => dTst c cf e s) (fun e s => b cf e s) bigF env st

/-! ### in the machine -/
def FlEnd (K : PySem.W.Frag) (Z ρ : List Addr) (st : Sto) (H : Hp) (f : Fl) (st' : Sto) (D : Ends) : Prop := match f with
  | .nx env => ∀ σ' H' ρ', Ext ρ st H ρ' st' H' → SRep K Z ρ' st' H' → ERep K Z ρ' st' H' env σ' → D.nx σ' H'
  | .bk env => ∀ σ' H' ρ', Ext ρ st H ρ' st' H' → SRep K Z ρ' st' H' → ERep K Z ρ' st' H' env σ' → D.bk σ' H'
  | .ct env => ∀ σ' H' ρ', Ext ρ st H ρ' st' H' → SRep K Z ρ' st' H' → ERep K Z ρ' st' H' env σ' → D.ct σ' H'
  | .rt w => ∀ v H' ρ', Ext ρ st H ρ' st' H' → SRep K Z ρ' st' H' → WRep K Z ρ' st' H' w v → D.rt v H'
theorem FlEnd.ext {K : PySem.W.Frag} {Z ρ ρ1 : List Addr} {st st1 st' : Sto} {H H1 : Hp} {f : Fl} {D : Ends} (E : Ext ρ st H ρ1 st1 H1) (h : FlEnd K Z ρ st H f st' D) : FlEnd K Z ρ1 st1 H1 f st' D := by
  cases f <;> exact fun σ' H' ρ' X => h σ' H' ρ' (E.trans X)
def tS (K : PySem.W.Frag) (cf : CF) (d : SDen) : TS := fun D σ H => ∃ Z ρ st env f st', SRep K Z ρ st H ∧ ERep K Z ρ st H env σ ∧ d cf env st = some (f, st') ∧ FlEnd K Z ρ st H f st' D
def EvS (Γ : Cs) (cf : CF) (k : Nat) (s : Stmt) (d : SDen) : Prop := ∀ X, Good Γ cf k X → PS X s (tS X.K cf d)
def EvB (Γ : Cs) (cf : CF) (k : Nat) (ss : List Stmt) (d : SDen) : Prop := ∀ X, Good Γ cf k X → PSs X ss (tS X.K cf d)
theorem _root_.L2.PS.imp {X : Cx} {e : Stmt} {t t' : TS} (h : PS X e t) (i : ∀ D σ H, t' D σ H → t D σ H) : PS X e t' := ⟨fun pins s σ H D I q => h.run pins s σ H D I (i D σ H q)⟩
theorem _root_.L2.PSs.imp {X : Cx} {e : List Stmt} {t t' : TS} (h : PSs X e t) (i : ∀ D σ H, t' D σ H → t D σ H) : PSs X e t' := ⟨fun pins s σ H D I q => h.run pins s σ H D I (i D σ H q)⟩
section
variable {Γ : Cs} {cf : CF} {k : Nat} {e a b c it : Expr} {s : Stmt} {ss ss' : List Stmt} {de da db dc : Den} {d1 d2 : SDen} {pos : Pos} {i j : Nat} {x y : Str} {px py : Pos}
theorem evb_nil : EvB Γ cf k [] sPass := fun X G => pss_nil.imp fun D σ H ⟨Z, ρ, st, env, f, st', S, E, e, q⟩ => by
  cases e
  exact q σ H ρ Ext.refl S E
theorem evb_cons (h1 : EvS Γ cf k s d1) (h2 : EvB Γ cf k ss d2) : EvB Γ cf k (s :: ss) (sSeq d1 d2) := fun X G => (pss_cons (h1 X G) (h2 X G)).imp fun D σ H ⟨Z, ρ, st, env, f, st', S, E, e, q⟩ => by
  obtain ⟨⟨f1, st1⟩, e1, e⟩ := Option.bind_eq_some_iff.mp e
  refine ⟨Z, ρ, st, env, f1, st1, S, E, e1, ?_⟩
  cases f1 with
  | nx env1 => exact fun σ' H' ρ' X1 S1 E1 => ⟨Z, ρ', st1, env1, f, st', S1, E1, e, q.ext X1⟩
  | bk env1 =>
    cases e
    exact q
  | ct env1 =>
    cases e
    exact q
  | rt w =>
    cases e
    exact q
theorem evb_one (h1 : EvS Γ cf k s d1) : EvB Γ cf k [s] d1 := fun X G => pss_one (h1 X G)
theorem ev_pass : EvS Γ cf k (.Pass pos) sPass := fun X G => ps_pass.imp fun D σ H ⟨Z, ρ, st, env, f, st', S, E, e, q⟩ => by
  cases e
  exact q σ H ρ Ext.refl S E
theorem ev_brk : EvS Γ cf k (.Break pos) sBrk := fun X G => ps_break.imp fun D σ H ⟨Z, ρ, st, env, f, st', S, E, e, q⟩ => by
  cases e
  exact q σ H ρ Ext.refl S E
theorem ev_cnt : EvS Γ cf k (.Continue pos) sCnt := fun X G => ps_continue.imp fun D σ H ⟨Z, ρ, st, env, f, st', S, E, e, q⟩ => by
  cases e
  exact q σ H ρ Ext.refl S E
theorem ev_doc {z : Str} {n : Nat} {p2 : Pos} : EvS Γ cf k (.Expr (.Constant (.str z) n p2) pos) sPass := fun X G => ps_doc.imp fun D σ H ⟨Z, ρ, st, env, f, st', S, E, e, q⟩ => by
  cases e
  exact q σ H ρ Ext.refl S E
theorem ev_ret (h : EvE Γ cf k e de) : EvS Γ cf k (.Return (some e) pos) (sRet de) := fun X G => (ps_ret (h X G)).imp fun D σ H ⟨Z, ρ, st, env, f, st', S, E, e, q⟩ => by
  obtain ⟨p, e1, e⟩ := Option.map_eq_some_iff.mp e
  cases e
  exact ⟨Z, ρ, st, env, p.1, p.2, S, E, e1, q⟩
theorem ev_retN : EvS Γ cf k (.Return none pos) sRetN := fun X G => ps_retN.imp fun D σ H ⟨Z, ρ, st, env, f, st', S, E, e, q⟩ => by
  cases e
  exact q .non H ρ Ext.refl S (by simp only [WRep, Rep])
theorem ev_exp (h : EvE Γ cf k e de) (hs : ∀ env, swapsWith e none pos.line env = pure false) : EvS Γ cf k (.Expr e pos) (sExp de) := fun X G => (ps_expr (h X G) (hs _)).imp fun D σ H ⟨Z, ρ, st, env, f, st', S, E, e, q⟩ => by
  obtain ⟨p, e1, e⟩ := Option.map_eq_some_iff.mp e
  cases e
  exact ⟨Z, ρ, st, env, p.1, p.2, S, E, e1, fun v H' ρ' X1 S1 _ => q σ H' ρ' X1 S1 (E.ext S X1)⟩
theorem ev_if (hc : EvT Γ cf k c dc) (h1 : EvB Γ cf k ss d1) (h2 : EvB Γ cf k ss' d2) : EvS Γ cf k (.If c ss ss' pos) (sIf dc d1 d2) := fun X G => (ps_if (hc X G) (h1 X G) (h2 X G)).imp fun D σ H ⟨Z, ρ, st, env, f, st', S, E, e, q⟩ => by
  obtain ⟨p, e1, e⟩ := Option.bind_eq_some_iff.mp e
  obtain ⟨t, e2, e⟩ := Option.bind_eq_some_iff.mp e
  refine ⟨Z, ρ, st, env, p.1, p.2, t, S, E, e1, e2, fun H' ρ' X1 S1 => ?_⟩
  show ite _ _ _
  cases t with
  | true =>
    rw [if_pos rfl] at e ⊢
    exact ⟨Z, ρ', p.2, env, f, st', S1, E.ext S X1, e, q.ext X1⟩
  | false =>
    rw [if_neg Bool.false_ne_true] at e ⊢
    exact ⟨Z, ρ', p.2, env, f, st', S1, E.ext S X1, e, q.ext X1⟩
/-! stores -/
def LocT (Γ : Cs) (x : Str) (i : Nat) : Prop := Γ.N[i]? = some x ∧ Loc Γ.sc x ∧ (Γ.fnc x = true ∨ Γ.sc.names.lookup x = some .local)
theorem locT_of {e : Expr} {i : Nat} (h : NameT Γ e i = true) : ∃ x p, e = .Name x p ∧ LocT Γ x i := nameT_ok h
theorem LocT.fn {X : Cx} (G : Good Γ cf k X) (h : LocT Γ x i) : X.fn x = true ∨ X.env.scope.names.lookup x = some .local := by
  rcases h.2.2 with h | h
  · exact .inl (G.fn x h)
  · exact .inr (by rw [G.sc]; exact h)
/-- name = value, as far as the value goes -/
def AsgOk (X : Cx) (x : Str) (px : Pos) (i : Nat) (e : Expr) (pos : Pos) (te : TE) : Prop := PS X (.Assign [.Name x px] e pos) (tAsg te (gName i))
theorem asg_set {X : Cx} (G : Good Γ cf k X) (hx : LocT Γ x i) {te : TE} (he : PE X e te) (hs : swapsWith e (some (.Name x px)) pos.line X.env = pure false) : AsgOk X x px i e pos te :=
  ps_set (by rw [G.names]; exact G.nd) (by rw [G.names]; exact hx.1) (by rw [G.sc]; exact hx.2.1) he hs (hx.fn G)
theorem asg_D {X : Cx} (h : AsgOk X x px i e pos (tDen X.K cf de)) : PS X (.Assign [.Name x px] e pos) (tS X.K cf (sAsg i de)) := h.imp fun D σ H ⟨Z, ρ, st, env, f, st', S, E, e, q⟩ => by
  obtain ⟨p, e1, e⟩ := Option.map_eq_some_iff.mp e
  cases e
  exact ⟨Z, ρ, st, env, p.1, p.2, S, E, e1, fun v H' ρ' X1 S1 r1 => q _ H' ρ' X1 S1 ((E.ext S X1).set r1)⟩
theorem asg_F {X : Cx} (h : AsgOk X x px i e pos (tDenF X.K cf de)) : PS X (.Assign [.Name x px] e pos) (tS X.K cf (sOwn i de)) := h.imp fun D σ H ⟨Z, ρ, st, env, f, st', S, E, e, q⟩ => by
  obtain ⟨⟨w, st1⟩, e1, e⟩ := Option.bind_eq_some_iff.mp e
  obtain ⟨ds, e2, e⟩ := Option.map_eq_some_iff.mp e
  cases e
  have hw : w = .val (.lst ds) := by
    cases w with
    | val d => cases d <;> simp only [lstW] at e2 <;> cases e2; rfl
    | _ => cases e2
  subst hw
  refine ⟨Z, ρ, st, env, ds, st1, S, E, e1, fun p H' ρ' vs L h0 hz => ?_⟩
  obtain ⟨E2, S2⟩ := adopt S L h0 hz
  refine q _ H' (ρ' ++ [p]) E2 S2 ((E.ext S E2).set ⟨p, ?_, rfl⟩)
  show (ρ' ++ [p])[st1.length]? = some p
  rw [List.getElem?_append_right (by rw [L.srep.len]; exact Nat.le_refl _), L.srep.len, Nat.sub_self]
  rfl
theorem ev_asg (hx : LocT Γ x i) (h : EvE Γ cf k e de) (hs : ∀ env, swapsWith e (some (.Name x px)) pos.line env = pure false) : EvS Γ cf k (.Assign [.Name x px] e pos) (sAsg i de) := fun X G => asg_D (asg_set G hx (h X G) (hs _))
theorem ev_own (hx : LocT Γ x i) (h : EvF Γ cf k e de) (hs : ∀ env, swapsWith e (some (.Name x px)) pos.line env = pure false) : EvS Γ cf k (.Assign [.Name x px] e pos) (sOwn i de) := fun X G => asg_F (asg_set G hx (h X G) (hs _))
theorem ev_unp {es : List Expr} {m : Nat} {is : List Nat} {pt : Pos} (h : EvE Γ cf k e de) (ht : namesT Γ es is = true) (hs : ∀ X, Good Γ cf k X → swapsWithSole [.Tuple es m pt] e pos.line X.env = pure false) (hw : ∀ X, Good Γ cf k X → swappedStores [.Tuple es m pt] e X.env = pure none) :
    EvS Γ cf k (.Assign [.Tuple es m pt] e pos) (sUnp is de) := fun X G => by
  refine (ps_asg (h X G) (tgtT_pg (T := .many is) (show tgtT Γ (.Tuple es m pt) (.many is) = true from ht) G) (hs X G) (hw X G) (by rfl)).imp fun D σ H ⟨Z, ρ, st, env, f, st', S, E, e, q⟩ => ?_
  obtain ⟨p, e1, e⟩ := Option.bind_eq_some_iff.mp e
  obtain ⟨r, e2, e⟩ := Option.bind_eq_some_iff.mp e
  obtain ⟨env', e3, e⟩ := Option.map_eq_some_iff.mp e
  cases e
  refine ⟨Z, ρ, st, env, p.1, p.2, S, E, e1, fun v H' ρ' X1 S1 r1 => ?_⟩
  obtain ⟨E2, S2, r2⟩ := froz_ok S1 r1 e2
  exact ⟨Z, ρ', r.2, env, r.1, env', S2, (E.ext S X1).ext S1 E2, r2, e3, fun σ' E' O' => q σ' H' ρ' (X1.trans E2) S2 E'⟩
theorem ev_par {m m2 : Nat} {pt pt2 : Pos} (hx : LocT Γ x i) (hy : LocT Γ y j) (hlx : Γ.sc.names.lookup x = some .local) (hly : Γ.sc.names.lookup y = some .local) (hij : i ≠ j) (ha : EvE Γ cf k a da) (hb : EvE Γ cf k b db) (na : NoStar a) (nb : NoStar b)
    (hw : ∀ X, Good Γ cf k X → swappedStores [.Tuple [.Name x px, .Name y py] m pt] (.Tuple [a, b] m2 pt2) X.env = pure (some [x, y])) : EvS Γ cf k (.Assign [.Tuple [.Name x px, .Name y py] m pt] (.Tuple [a, b] m2 pt2) pos) (sPar i j da db) := fun X G => by
  refine (ps_par G.calm (by rw [G.names]; exact G.nd) (by rw [G.names]; exact hx.1) (by rw [G.names]; exact hy.1) hij (by rw [G.sc]; exact hlx) (by rw [G.sc]; exact hly) (pa_cons (ha X G) (pa_cons (hb X G) pa_nil (nb _ _)) (na _ _)) (hw X G) (by rfl)).imp fun D σ H ⟨Z, ρ, st, env, f, st', S, E, e, q⟩ => ?_
  obtain ⟨p, e1, e⟩ := Option.bind_eq_some_iff.mp e
  obtain ⟨r, e2, e⟩ := Option.map_eq_some_iff.mp e
  cases e
  refine ⟨Z, ρ, st, env, p.1, p.2, S, E, e1, fun v H' ρ' X1 S1 r1 => ?_⟩
  refine ⟨Z, ρ', p.2, env, r.1, r.2, S1, E.ext S X1, e2, fun u H2 ρ2 X2 S2 r2 => ?_⟩
  exact ⟨v, u, rfl, q _ H2 ρ2 (X1.trans X2) S2 ((((E.ext S X1).ext S1 X2).set (r1.ext S1 X2)).set r2)⟩
theorem ev_sub {pt : Pos} (ha : EvE Γ cf k a da) (hb : EvE Γ cf k b db) (he : EvE Γ cf k e de) (hp : PlainIx b) (hs : ∀ env, swapsWithSole [.Subscript a b pt] e pos.line env = pure false) (hasg : ∀ env v, assign (.Subscript a b pt) env v = (do
      let ov ← holding [v] (eval a env)
      let iv ← holding [v, ov] (eval b env)
      standAt pt
      holding [v, ov, iv] (setItem ov iv v)
      release [v, ov, iv] [])) :
    EvS Γ cf k (.Assign [.Subscript a b pt] e pos) (sSub da db de) := fun X G => by
  refine (ps_asg (he X G) (pg_sub (ha X G) (hb X G) set_list (hasg _)) (hs _) (by rfl) (by rfl)).imp fun D σ H ⟨Z, ρ, st, env, f, st', S, E, e, q⟩ => ?_
  obtain ⟨p, e1, e⟩ := Option.bind_eq_some_iff.mp e
  obtain ⟨r, e2, e⟩ := Option.bind_eq_some_iff.mp e
  obtain ⟨n, e3, e⟩ := Option.bind_eq_some_iff.mp e
  obtain ⟨t, e4, e⟩ := Option.bind_eq_some_iff.mp e
  obtain ⟨z, e5, e⟩ := Option.bind_eq_some_iff.mp e
  obtain ⟨y, e6, e⟩ := Option.bind_eq_some_iff.mp e
  obtain ⟨xs, e7, e⟩ := Option.bind_eq_some_iff.mp e
  split at e
  · obtain ⟨j, e8, e⟩ := Option.map_eq_some_iff.mp e
    cases e
    refine ⟨Z, ρ, st, env, p.1, p.2, S, E, e1, fun v H1 ρ1 X1 S1 r1 => ?_⟩
    refine ⟨Z, ρ1, p.2, env, r.1, r.2, S1, E.ext S X1, e2, fun o H2 ρ2 X2 S2 r2 => ?_⟩
    refine ⟨Z, ρ2, r.2, env, t.1, t.2, S2, (E.ext S X1).ext S1 X2, e4, fun w H3 ρ3 X3 S3 r3 => ?_⟩
    rw [celW_of e3] at r2
    obtain ⟨a0, ha0, rfl⟩ := r2
    obtain ⟨E4, S4, r4⟩ := froz_ok S3 ((r1.ext S1 X2).ext S2 X3) e5
    obtain rfl := (peek_rd S4 (r3.ext S3 E4) e6).int
    have hg := getL_of e7
    obtain ⟨a', vs, g1, g2, g3, g4⟩ := live_lt S4 hg
    have := X3.rho ha0
    rw [g1] at this
    cases this
    obtain ⟨E5, S5⟩ := upd_cell S4 g1 hg (g3.set j r4) (by rw [List.length_set]; exact g4)
    refine ⟨_, vs, _, j, rfl, rfl, g2, by rw [g3.length]; exact e8, q σ _ ρ3 ((((X1.trans X2).trans X3).trans E4).trans E5) S5 ((((E.ext S X1).ext S1 X2).ext S2 X3).ext S3 E4 |>.ext S4 E5)⟩
  · cases e
theorem ev_aug {op : Operator} (hx : LocT Γ x i) (he : EvE Γ cf k e de) : EvS Γ cf k (.AugAssign (.Name x px) op e pos) (sAug i op de) := fun X G => by
  have nd : X.N.Nodup := by rw [G.names]; exact G.nd
  have hi : X.N[i]? = some x := by rw [G.names]; exact hx.1
  have hl : Loc X.env.scope x := by rw [G.sc]; exact hx.2.1
  have key : ∀ {f : Int → Int → Int}, PIp X op (ipI f) → (∀ a b, augD op a b = some (f a b)) → PS X (.AugAssign (.Name x px) op e pos) (tS X.K cf (sAug i op de)) := fun {f} hp hf => by
    refine (ps_aug nd hi hl (he X G) hp (hx.fn G)).imp fun D σ H ⟨Z, ρ, st, env, fl, st', S, E, e, q⟩ => ?_
    obtain ⟨w, e1, e⟩ := Option.bind_eq_some_iff.mp e
    obtain ⟨p, e2, e⟩ := Option.bind_eq_some_iff.mp e
    obtain ⟨x1, e3, e⟩ := Option.bind_eq_some_iff.mp e
    obtain ⟨y1, e4, e⟩ := Option.bind_eq_some_iff.mp e
    obtain ⟨z1, e5, e⟩ := Option.map_eq_some_iff.mp e
    cases e
    have iw : ∀ {w : Wv} {i : Int}, intW w = some i → w = .val (.int i) := fun {w i} h => by
      cases w with
      | val d => cases d <;> simp only [intW] at h <;> cases h; rfl
      | _ => cases h
    obtain ⟨o, ho, hw⟩ := Option.bind_eq_some_iff.mp e1
    have hw' : o = some w := hw
    subst hw'
    obtain ⟨v, h1, h2⟩ := E.2 i w ho
    rw [iw e3] at h2
    obtain rfl := h2.int_eq
    refine ⟨_, h1, Z, ρ, st, env, p.1, p.2, S, E, e2, fun u H1 ρ1 X1 S1 r1 => ?_⟩
    rw [iw e4] at r1
    obtain rfl := r1.int_eq
    rw [hf] at e5
    cases e5
    exact ⟨_, _, rfl, rfl, q _ H1 ρ1 X1 S1 ((E.ext S X1).set WRep.int)⟩
  cases op with
  | Add => exact key ip_add fun _ _ => rfl
  | Sub => exact key ip_sub fun _ _ => rfl
  | _ =>
    exact ⟨fun pins s σ H D I ⟨Z, ρ, st, env, fl, st', S, E, e, q⟩ => by
      obtain ⟨w, e1, e⟩ := Option.bind_eq_some_iff.mp e
      obtain ⟨p, e2, e⟩ := Option.bind_eq_some_iff.mp e
      obtain ⟨x1, e3, e⟩ := Option.bind_eq_some_iff.mp e
      obtain ⟨y1, e4, e⟩ := Option.bind_eq_some_iff.mp e
      obtain ⟨z1, e5, e⟩ := Option.map_eq_some_iff.mp e
      cases e5⟩

/-! ### loops -/
inductive RunF (f : Body) (v : Iv) : Nat → Nat → En → Sto → Fl → Sto → Prop where
  | done {m i env st xs} : itD v st = some xs → xs.length ≤ i → RunF f v m i env st (.nx env) st
  | next {m i env st xs d fl st1 env1 f2 st2} : itD v st = some xs → xs[i]? = some d → f d env st = some (fl, st1) → (fl = .nx env1 ∨ fl = .ct env1) → RunF f v m (i + 1) env1 st1 f2 st2 → RunF f v (m + 1) i env st f2 st2
  | brk {m i env st xs d st1 env1} : itD v st = some xs → xs[i]? = some d → f d env st = some (.bk env1, st1) → RunF f v (m + 1) i env st (.nx env1) st1
  | ret {m i env st xs d st1 w} : itD v st = some xs → xs[i]? = some d → f d env st = some (.rt w, st1) → RunF f v (m + 1) i env st (.rt w) st1
theorem runF_L {f : Body} : ∀ {xs pre : List D} {env : En} {st st2 : Sto} {fl : Fl}, forL f xs env st = some (fl, st2) → RunF f (.items (pre ++ xs)) xs.length pre.length env st fl st2
  | [], pre, env, st, st2, fl, h => by
    simp only [forL] at h
    cases h
    exact .done rfl (by simp)
  | d :: ds, pre, env, st, st2, fl, h => by
    simp only [forL] at h
    obtain ⟨⟨f1, s1⟩, h1, h⟩ := Option.bind_eq_some_iff.mp h
    have step : ∀ {e : En}, forL f ds e s1 = some (fl, st2) → RunF f (.items (pre ++ d :: ds)) ds.length (pre.length + 1) e s1 fl st2 := fun {e} hh => by
      have ih := runF_L (pre := pre ++ [d]) hh
      rw [List.append_assoc, List.length_append] at ih
      exact ih
    cases f1 with
    | nx e => exact .next rfl (by simp) h1 (.inl rfl) (step h)
    | ct e => exact .next rfl (by simp) h1 (.inr rfl) (step h)
    | bk e =>
      cases h
      exact .brk rfl (by simp) h1
    | rt w =>
      cases h
      exact .ret rfl (by simp) h1
theorem runF_C {f : Body} {n : Nat} : ∀ {m i : Nat} {env : En} {st st2 : Sto} {fl : Fl}, forC f n m i env st = some (fl, st2) → RunF f (.cel n) m i env st fl st2
  | 0, i, env, st, st2, fl, h => by cases h
  | m + 1, i, env, st, st2, fl, h => by
    simp only [forC] at h
    obtain ⟨c, hc, h⟩ := Option.bind_eq_some_iff.mp h
    have hi : itD (.cel n) st = some c.items := by simp only [itD, hc]; rfl
    split at h
    · rename_i hn
      cases h
      exact .done hi (by simpa using hn)
    · rename_i d hd
      obtain ⟨⟨f1, s1⟩, h1, h⟩ := Option.bind_eq_some_iff.mp h
      cases f1 with
      | nx e => exact .next hi hd h1 (.inl rfl) (runF_C h)
      | ct e => exact .next hi hd h1 (.inr rfl) (runF_C h)
      | bk e =>
        cases h
        exact .brk hi hd h1
      | rt w =>
        cases h
        exact .ret hi hd h1
theorem runF_I {f : Body} {v : Iv} {env : En} {st st2 : Sto} {fl : Fl} (h : forI f v env st = some (fl, st2)) : ∃ m, RunF f v m 0 env st fl st2 := by
  cases v with
  | items xs => exact ⟨_, runF_L (pre := []) h⟩
  | cel n => exact ⟨_, runF_C h⟩
theorem ev_for {tg : Expr} {di : DenI} {T : Tg} (hi : EvI Γ cf k it di) (hg : EvG Γ cf k tg T) (hb : EvB Γ cf k ss d1) (hs : ∀ env x, foldedSetIterable it env x = pure x) : EvS Γ cf k (.For tg it ss [] pos) (sFor di T d1) := fun X G => by
  refine (ps_for (by rw [G.xe]; exact PassesOwn.never) G.calm (hi X tg G) (hg X G) (hb X G) (hs _)).imp fun D σ H ⟨Z, ρ, st, env, f, st', S, E, e, q⟩ => ?_
  obtain ⟨⟨v, st1⟩, e1, e⟩ := Option.bind_eq_some_iff.mp e
  obtain ⟨m, R⟩ := runF_I e
  refine ⟨Z, ρ, st, env, v, st1, S, E, e1, fun J H1 ρ1 X1 S1 J1 => ?_⟩
  refine ⟨fun i m σ' H' => ∃ ρ' env' st'', SRep X.K Z ρ' st'' H' ∧ ERep X.K Z ρ' st'' H' env' σ' ∧ Ext ρ1 st1 H1 ρ' st'' H' ∧ RunF (bodyF T d1 cf) v m i env' st'' f st', ⟨m, ρ1, env, st1, S1, E.ext S X1, Ext.refl, R⟩, fun i m σ' H' hw => ?_⟩
  obtain ⟨ρ2, env2, st2, S2, E2, X2, R2⟩ := hw
  have J2 := J1.ext S1 X2
  cases R2 with
  | done b1 b2 => exact .inl ⟨J2.stop S2 b1 b2, q σ' H' ρ2 (X1.trans X2) S2 E2⟩
  | @next m' _ _ _ xs d fl st3 env3 _ _ b1 b2 b3 hf R3 =>
    obtain ⟨g1, g2, g3, g4⟩ := J2.go S2 b1 b2
    refine .inr ⟨g1, fun σ' H' => ∃ ρ', SRep X.K Z ρ' st3 H' ∧ ERep X.K Z ρ' st3 H' env3 σ' ∧ Ext ρ1 st1 H1 ρ' st3 H', fun σ' H' hn => ?_, fun x H3 hy => ?_⟩
    · obtain ⟨ρ', S3, E3, X3⟩ := hn
      exact ⟨m', Nat.lt_succ_self _, ρ', env3, st3, S3, E3, X3, R3⟩
    · obtain ⟨rfl, rd⟩ := g4 x H3 hy
      obtain ⟨en, c1, c2⟩ := Option.bind_eq_some_iff.mp b3
      refine ⟨Z, ρ2, st2, env2, d, en, S2, E2, rd, c1, fun σ3 E3 O3 => ⟨Z, ρ2, st2, en, fl, st3, S2, E3, c2, ?_⟩⟩
      rcases hf with rfl | rfl <;> exact fun σ' H' ρ' X3 S3 E3 => ⟨ρ', S3, E3, X2.trans X3⟩
  | @brk m' _ _ _ xs d st3 env3 b1 b2 b3 =>
    obtain ⟨g1, g2, g3, g4⟩ := J2.go S2 b1 b2
    refine .inr ⟨g1, fun _ _ => False, fun σ' H' hn => hn.elim, fun x H3 hy => ?_⟩
    obtain ⟨rfl, rd⟩ := g4 x H3 hy
    obtain ⟨en, c1, c2⟩ := Option.bind_eq_some_iff.mp b3
    exact ⟨Z, ρ2, st2, env2, d, en, S2, E2, rd, c1, fun σ3 E3 O3 => ⟨Z, ρ2, st2, en, _, st', S2, E3, c2, fun σ' H' ρ' X3 S3 E3 => q σ' H' ρ' ((X1.trans X2).trans X3) S3 E3⟩⟩
  | @ret m' _ _ _ xs d st3 w b1 b2 b3 =>
    obtain ⟨g1, g2, g3, g4⟩ := J2.go S2 b1 b2
    refine .inr ⟨g1, fun _ _ => False, fun σ' H' hn => hn.elim, fun x H3 hy => ?_⟩
    obtain ⟨rfl, rd⟩ := g4 x H3 hy
    obtain ⟨en, c1, c2⟩ := Option.bind_eq_some_iff.mp b3
    exact ⟨Z, ρ2, st2, env2, d, en, S2, E2, rd, c1, fun σ3 E3 O3 => ⟨Z, ρ2, st2, en, _, st', S2, E3, c2, fun v H' ρ' X3 S3 r3 => q v H' ρ' ((X1.trans X2).trans X3) S3 r3⟩⟩
theorem ev_while (hc : EvT Γ cf k c dc) (hb : EvB Γ cf k ss d1) : EvS Γ cf k (.While c ss [] pos) (sWh dc d1) := fun X G => by
  refine (ps_while (by rw [G.xe]; exact PassesOwn.never) (hc X G) (hb X G)).imp fun D σ H ⟨Z, ρ, st, env, f, st', S, E, e, q⟩ => ?_
  refine ⟨fun m σ' H' => ∃ ρ' env' st'', SRep X.K Z ρ' st'' H' ∧ ERep X.K Z ρ' st'' H' env' σ' ∧ Ext ρ st H ρ' st'' H' ∧ whL (fun e s => dTst dc cf e s) (fun e s => d1 cf e s) m env' st'' = some (f, st'), ⟨bigF, ρ, env, st, S, E, Ext.refl, e⟩, fun m σ' H' hw => ?_⟩
  obtain ⟨ρ2, env2, st2, S2, E2, X2, R2⟩ := hw
  cases m with
  | zero => cases R2
  | succ m =>
    simp only [whL] at R2
    obtain ⟨⟨t, s3⟩, c1, R2⟩ := Option.bind_eq_some_iff.mp R2
    obtain ⟨p, c2, c3⟩ := Option.bind_eq_some_iff.mp c1
    obtain ⟨t', c4, c5⟩ := Option.map_eq_some_iff.mp c3
    cases c5
    refine ⟨Z, ρ2, st2, env2, p.1, p.2, t, S2, E2, c2, c4, fun H3 ρ3 X3 S3 => ?_⟩
    show ite _ _ _
    cases t with
    | false =>
      rw [if_neg Bool.false_ne_true] at R2 ⊢
      cases R2
      exact q σ' H3 ρ3 (X2.trans X3) S3 (E2.ext S2 X3)
    | true =>
      rw [if_pos rfl] at R2 ⊢
      obtain ⟨⟨fl, s4⟩, b1, R2⟩ := Option.bind_eq_some_iff.mp R2
      cases fl with
      | nx e4 =>
        refine ⟨fun σ' H' => ∃ ρ', SRep X.K Z ρ' s4 H' ∧ ERep X.K Z ρ' s4 H' e4 σ' ∧ Ext ρ st H ρ' s4 H', fun σ' H' hn => ?_, Z, ρ3, p.2, env2, _, s4, S3, E2.ext S2 X3, b1, fun σ' H' ρ' X4 S4 E4 => ⟨ρ', S4, E4, (X2.trans X3).trans X4⟩⟩
        obtain ⟨ρ', S4, E4, X4⟩ := hn
        exact ⟨m, Nat.lt_succ_self _, ρ', e4, s4, S4, E4, X4, R2⟩
      | ct e4 =>
        refine ⟨fun σ' H' => ∃ ρ', SRep X.K Z ρ' s4 H' ∧ ERep X.K Z ρ' s4 H' e4 σ' ∧ Ext ρ st H ρ' s4 H', fun σ' H' hn => ?_, Z, ρ3, p.2, env2, _, s4, S3, E2.ext S2 X3, b1, fun σ' H' ρ' X4 S4 E4 => ⟨ρ', S4, E4, (X2.trans X3).trans X4⟩⟩
        obtain ⟨ρ', S4, E4, X4⟩ := hn
        exact ⟨m, Nat.lt_succ_self _, ρ', e4, s4, S4, E4, X4, R2⟩
      | bk e4 =>
        cases R2
        exact ⟨fun _ _ => False, fun σ' H' hn => hn.elim, Z, ρ3, p.2, env2, _, s4, S3, E2.ext S2 X3, b1, fun σ' H' ρ' X4 S4 E4 => q σ' H' ρ' ((X2.trans X3).trans X4) S4 E4⟩
      | rt w =>
        cases R2
        exact ⟨fun _ _ => False, fun σ' H' hn => hn.elim, Z, ρ3, p.2, env2, _, s4, S3, E2.ext S2 X3, b1, fun v H' ρ' X4 S4 r4 => q v H' ρ' ((X2.trans X3).trans X4) S4 r4⟩
end
end L2.Ev
set_option Elab.async false
set_option linter.all false
set_option maxRecDepth 100000
set_option maxHeartbeats 4000000
namespace L2.Ev
open PySem PySem.Spec PyProof.Rows

/-! ### xs[::-1] -/
section
variable {prog : Program} {w : World} {A : Around} {E : Value → Shared → Prop} {s : Shared}
theorem sliceApplied_rev {sl : Addr} {vs : Value} {n : Nat} {Q : Int × Int × Nat → Shared → Prop} (hs : s.heap.IsSliceOf sl .none .none vs) (ps : IsPart vs (some (-1)))
    (h : Q ((n : Int) - 1, -1, n) s) : wpAny (model prog w) A (Builtin.Slice.sliceApplied (.ref sl) (pure (n : Int))) Q E s := by
  obtain ⟨os, hos, hcs, hds⟩ := id hs
  unfold Builtin.Slice.sliceApplied Builtin.Slice.sliceFields
  refine wpAny_bind (wpAny_bind (wpAny_field hos hds (x := .none) rfl (wpAny_bind (wpAny_field hos hds (x := .none) rfl (wpAny_bind (wpAny_field hos hds (x := vs) rfl (wpAny_pure ?_)))))))
  refine wpAny_bind (HT.slicePart_ ps ?_)
  show wpAny _ _ (if ((-1 : Int) == 0) = true then _ else _) _ _ s
  rw [if_neg (by decide)]
  refine wpAny_bind (slicePart_none (wpAny_bind (slicePart_none (wpAny_bind (wpAny_pure ?_)))))
  have e : Builtin.Slice.sliceAdjust none none (-1) (n : Int) = ((n : Int) - 1, -1) := by
    unfold Builtin.Slice.sliceAdjust
    first | rfl | simp
  show wpAny _ _ (match Builtin.Slice.sliceAdjust none none (-1) (n : Int) with | (lo, hi) => pure (lo, (-1 : Int), Builtin.Slice.slicePlaces lo hi (-1))) _ _ s
  rw [e]
  have e2 : Builtin.Slice.slicePlaces ((n : Int) - 1) (-1) (-1) = n := by
    unfold Builtin.Slice.slicePlaces
    have h1 : ¬ ((-1 : Int) > 0) := by decide
    simp only [h1, if_false]
    split
    · rename_i h
      first | omega | simp
    · rename_i h
      omega
  show wpAny _ _ (pure ((n : Int) - 1, (-1 : Int), Builtin.Slice.slicePlaces ((n : Int) - 1) (-1) (-1))) _ _ s
  rw [e2]
  exact wpAny_pure h
theorem fmCongr {α β : Type} {f g : α → Option β} : ∀ (l : List α), (∀ x ∈ l, f x = g x) → l.filterMap f = l.filterMap g
  | [], _ => rfl
  | a :: l, h => by
    rw [List.filterMap_cons, List.filterMap_cons, h a List.mem_cons_self, fmCongr l fun x hx => h x (List.mem_cons_of_mem _ hx)]
theorem pick_rev (xs : Array Value) : ((List.range xs.size).filterMap fun (m : Nat) => xs[(((xs.size : Int) - 1) + (m : Int) * (-1)).toNat]?).toArray = xs.toList.reverse.toArray := by
  have e : ((List.range xs.size).filterMap fun (m : Nat) => xs[(((xs.size : Int) - 1) + (m : Int) * (-1)).toNat]?) = ((List.range xs.size).map fun k => xs.size - 1 - k).filterMap (xs[·]?) := by
    rw [List.filterMap_map]
    refine fmCongr _ fun m hm => ?_
    have := List.mem_range.mp hm
    have h2 : (((xs.size : Int) - 1) + (m : Int) * (-1)).toNat = xs.size - 1 - m := by omega
    simp only [Function.comp, h2]
  rw [e, PySem.W.krv_range, List.filterMap_reverse, PySem.W.krv_all]
theorem getItem_tuple_rev {t sl : Addr} {items : Array Value} {vs : Value} {Q : Value → Shared → Prop} (ht : IsTup s.heap t items) (hs : s.heap.IsSliceOf sl .none .none vs) (ps : IsPart vs (some (-1)))
    (h : Q (.ref s.heap.objs.size) { s with heap := s.heap.push { cls := .type "tuple", data := .seq items.toList.reverse.toArray } })
    (hsz : items.size ≤ sizeLine) : wpAny (model prog w) A (getItem (.ref t) (.ref sl)) Q E s := by
  have htake : sizeOk (.seq items.toList.reverse.toArray) := by
    show items.toList.reverse.toArray.size ≤ sizeLine
    rw [List.size_toArray, List.length_reverse, Array.length_toList]
    exact hsz
  obtain ⟨os, hos, hcs, hds⟩ := id hs
  have hTs : s.TypeIs (.ref sl) "slice" := ⟨os, hos, hcs⟩
  unfold getItem
  try with_reducible refine wpAny_holding ?_
  first | refine wpAny_bind (wpAny_pure ?_) | skip
  refine wpAny_bind (wpAny_sequenceKey ht.typeIs (by decide) ?_)
  refine wpAny_bind (wpAny_callSpecial?_slot (name := Str.ofString "__getitem__") ht.typeIs PyProof.Rows.slot_tuple_getitem
    (wpAny_call_entry PyProof.Rows.slot_tuple_getitem ht.typeIs entry_tuple_getitem ?_ (args_tuple_getitem _ _)))
  show wpAny _ _ (Builtin.Tuple.tupleItemsOf (.ref t) >>= _) _ _ s
  refine wpAny_bind (tupleItemsOf_ ht ?_)
  refine wpAny_bind (wpAny_typeOf hTs ?_)
  rw [if_pos (by decide)]
  refine wpAny_bind (sliceApplied_rev hs ps ?_)
  show wpAny _ _ (if (((items.size : Int) - 1) == 0 && (-1 : Int) == 1 && items.size == items.size) = true then _ else _) _ _ s
  rw [show (((items.size : Int) - 1) == 0 && (-1 : Int) == 1 && items.size == items.size) = false by simp, if_neg Bool.false_ne_true, pick_rev]
  first
    | exact wpAny_bind (m := Builtin.Tuple.tupleExact _) (wpAny_newObj_type (wpAny_pure ⟨_, rfl, wpAny_pure h⟩) htake)
    | exact wpAny_bind (m := Builtin.Tuple.tupleExact _) (wpAny_newObj_type (wpAny_bind (wpAny_pure (wpAny_pure ⟨_, rfl, wpAny_pure h⟩))) htake)
    | exact wpAny_bind (wpAny_bind (m := Builtin.Tuple.tupleExact _) (wpAny_newObj_type (wpAny_pure (wpAny_pure ⟨_, rfl, wpAny_pure h⟩)) htake))
    | exact wpAny_bind (wpAny_bind (m := Builtin.Tuple.tupleExact _) (wpAny_newObj_type (wpAny_pure ⟨_, rfl, wpAny_pure h⟩) htake))
end
def tRevD (K : PySem.W.Frag) (te : TE) : TE := fun σ H Q => te σ H fun x H1 => (∃ a xs, x = .ref a ∧ SqL K H1 a xs ∧ ∀ p, H1 p = none → Q (.ref p) (upd H1 p (.lst xs.reverse))) ∨ (∃ a xs, x = .ref a ∧ SqT K H1 a xs ∧ ∀ p, H1 p = none → Q (.ref p) (upd H1 p (.tup xs.reverse)))
theorem pe_revD {X : Cx} {e : Expr} {te : TE} {k : Nat} {p1 p2 p3 pos : Pos} (he : PE X e te) : PE X (.Subscript e (.Slice none none (some (.UnaryOp .USub (.Constant (.int 1) k p1) p2)) p3) pos) (tRevD X.K te) := by
  refine ⟨fun pins s σ H Q I h => ?_⟩
  refine Subscript_ (thn (he.run pins s σ H _ I h) fun v s1 ⟨x, H1, I1, r1, q1⟩ => ?_)
  have hst : PO X (some (.UnaryOp .USub (.Constant (.int 1) k p1) p2)) (tPart (tUn (rU fun i => .int (-i)) (tC (.int 1)))) := po_some (pe_un un_neg pe_int)
  refine wpAny_Slice (thn (po_none.run pins s1 σ H1 (fun o H2 => o = none ∧ H2 = H1) I1 ⟨rfl, rfl⟩) fun vl s2 ⟨l, H2, I2, pl, el, e2⟩ => ?_)
  subst el e2
  refine thn (po_none.run pins s2 σ H2 (fun o H3 => o = none ∧ H3 = H2) I2 ⟨rfl, rfl⟩) fun vu s3 ⟨u, H3, I3, pu, eu, e3⟩ => ?_
  subst eu e3
  refine thn (hst.run pins s3 σ H3 (fun o H4 => o = some (-1) ∧ H4 = H3) I3 ⟨1, rfl, -1, rfl, rfl, rfl⟩) fun vs s4 ⟨o, H4, I4, ps, eo, e4⟩ => ?_
  subst eo e4
  have I5 : Inv X pins σ H4 { s4 with heap := s4.heap.push { cls := .type "slice", data := .fields #[vl, vu, vs] } } := I4.kept (t' := s4.toks) fun b ob q => Heap.get?_push_of_some _ q
  rcases q1 with ⟨a, xs, ex, hx, q⟩ | ⟨a, xs, ex, hx, q⟩
  · subst ex
    cases r1
    obtain ⟨its, r, ht, hz⟩ := I5.list hx
    have hlen := r.length
    show wpAny (model X.prog X.w) X.A (subscriptTail e (.Slice none none (some (.UnaryOp .USub (.Constant (.int 1) k p1) p2)) p3) (.ref a) (.ref s4.heap.objs.size)) (EP X pins σ Q) X.xe { s4 with heap := s4.heap.push { cls := .type "slice", data := .fields #[vl, vu, vs] } }
    refine tail_any (ops := [.ref a, .ref s4.heap.objs.size]) ht.isList.typeIs (PySem.slot_list_getitem.lookup) ?_ (by with_unfolding_all rfl)
    refine wpAny_getItem_list_slice ht.isList (Heap.IsSliceOf.new _ vl vu vs) pl pu ps (by decide) ?_ (by rw [List.size_toArray]; omega)
    rw [PySem.W.krv_pick]
    refine ⟨.ref _, _, I5.laid (t' := s4.toks) (o := .lst xs.reverse) (fun b ob q => Heap.get?_push_of_some _ q) (Nat.le_refl _) ?_, rfl, q _ (I5.hok.fresh (Nat.le_refl _))⟩
    exact ⟨by rw [List.length_reverse]; exact hz, _, 0, r.reverse, Heap.get?_push_size _ rfl⟩
  · subst ex
    cases r1
    obtain ⟨its, r, ht, hz⟩ := I5.tuple hx
    have hlen := r.length
    cases pl
    cases pu
    show wpAny (model X.prog X.w) X.A (subscriptTail e (.Slice none none (some (.UnaryOp .USub (.Constant (.int 1) k p1) p2)) p3) (.ref a) (.ref s4.heap.objs.size)) (EP X pins σ Q) X.xe { s4 with heap := s4.heap.push { cls := .type "slice", data := .fields #[.none, .none, vs] } }
    refine tail_any (ops := [.ref a, .ref s4.heap.objs.size]) ht.typeIs (PyProof.Rows.slot_tuple_getitem.lookup) ?_ (by with_unfolding_all rfl)
    refine getItem_tuple_rev ht (Heap.IsSliceOf.new _ .none .none vs) ps ?_ (by rw [List.size_toArray]; omega)
    refine ⟨.ref _, _, I5.laid (t' := s4.toks) (o := .tup xs.reverse) (fun b ob q => Heap.get?_push_of_some _ q) (Nat.le_refl _) ?_, rfl, q _ (I5.hok.fresh (Nat.le_refl _))⟩
    exact ⟨by rw [List.length_reverse]; exact hz, _, r.reverse, IsTup.new _ _⟩
def revD : D → Option D
  | .lst xs => some (.lst xs.reverse)
  | .tup xs => some (.tup xs.reverse)
  | _ => none
def dRev (a : Den) : Den := fun cf env st => (a cf env st).bind fun p => (peek p.1 p.2).bind fun x => (revD x).map fun d => (.val d, p.2)
section
variable {Γ : Cs} {cf : CF} {k : Nat} {a : Expr} {da : Den} {pos p1 p2 p3 : Pos} {j : Nat}
theorem ev_rev (ha : EvE Γ cf k a da) : EvE Γ cf k (.Subscript a (.Slice none none (some (.UnaryOp .USub (.Constant (.int 1) j p1) p2)) p3) pos) (dRev da) := fun X G =>
  (pe_revD (ha X G)).imp fun σ H Q ⟨Z, ρ, st, env, w, st', S, E, e, q⟩ => by
    obtain ⟨p, e1, e⟩ := Option.bind_eq_some_iff.mp e
    obtain ⟨x, e2, e⟩ := Option.bind_eq_some_iff.mp e
    obtain ⟨d, e3, e⟩ := Option.map_eq_some_iff.mp e
    cases e
    refine ⟨Z, ρ, st, env, p.1, p.2, S, E, e1, fun v H1 ρ1 X1 S1 r1 => ?_⟩
    have r2 := peek_rd S1 r1 e2
    cases x with
    | lst xs =>
      cases e3
      obtain ⟨a, vs, rfl, h1, h2⟩ := r2.lst
      exact .inl ⟨a, vs, rfl, SqL.of h1, fun p hp => q _ _ ρ1 (X1.trans (Same.ext (Same.fresh hp))) (S1.same (Same.fresh hp)) (Rep.newL S1 hp h2.reverse (by rw [List.length_reverse]; exact r2.llen))⟩
    | tup xs =>
      cases e3
      obtain ⟨a, vs, rfl, h1, h2⟩ := r2.tup
      exact .inr ⟨a, vs, rfl, h1, fun p hp => q _ _ ρ1 (X1.trans (Same.ext (Same.fresh hp))) (S1.same (Same.fresh hp)) (Rep.newT S1 hp h2.reverse (by rw [List.length_reverse]; exact r2.tlen))⟩
    | _ => cases e3
end
end L2.Ev
set_option Elab.async false
set_option linter.all false
set_option maxRecDepth 100000
set_option maxHeartbeats 4000000
namespace L2.Ev
open PySem PySem.Spec PyProof.Rows

/-! ### the text of the evaluator's -/
mutual
inductive Ex where
  | var (i : Nat) | con (d : D) | bin (op : Operator) (a b : Ex) | cmp (op : CmpOp) (a b : Ex) | chain (op op' : CmpOp) (a b c : Ex) | neg (a : Ex) | not (a : Ex) | and (a b : Ex) | or (a b : Ex) | ite (c a b : Ex)
  | idx (a i : Ex) | slc (a : Ex) (lo hi : Exo) | rev (a : Ex) | tup (as : Exs) | lst (as : Exs) | call (f : Str) (as : Exs) | prim (p : Prim) (as : Exs) | isi (a : Ex) (T : String) | pool (e : Ex) (c : Int)
  | lc (it : Exi) (vs : List Nat) (T : Tg) (t : Exq) (e : Ex) | lc2 (it : Exi) (vs : List Nat) (T : Tg) (t : Exq) (it1 : Exi) (vs1 : List Nat) (T1 : Tg) (t1 : Exq) (e : Ex)
  | app (a b : Ex) | ext (a b : Ex) | pop (a : Ex) | popA (a b : Ex)
inductive Exs where
  | nil | cons (a : Ex) (r : Exs)
inductive Exi where
  | any (a : Ex) | rng (as : Exs)
inductive Exo where
  | no | at (a : Ex)
inductive Exq where
  | yes | tst (a : Ex)
end
mutual
def den : Ex → Den
  | .var i => dVar i
  | .con d => dCon d
  | .bin op a b => dBin op (den a) (den b)
  | .cmp op a b => dCmp op (den a) (den b)
  | .chain op op' a b c => dChain op op' (den a) (den b) (den c)
  | .neg a => dNeg (den a)
  | .not a => dNot (den a)
  | .and a b => dAnd (den a) (den b)
  | .or a b => dOr (den a) (den b)
  | .ite c a b => dIte (den c) (den a) (den b)
  | .idx a i => dIdx (den a) (den i)
  | .slc a lo hi => dSlc (den a) (denO lo) (denO hi)
  | .rev a => dRev (den a)
  | .tup as => dTup (denL as)
  | .lst as => dLst (denL as)
  | .call f as => dCall f (denL as)
  | .prim p as => dPrim p (denL as)
  | .isi a T => dIsi (den a) T
  | .pool e c => dPool (den e) c
  | .lc it vs T t e => dLc (denI it) vs T (denT t) (den e)
  | .lc2 it vs T t it1 vs1 T1 t1 e => dLc2 (denI it) vs T (denT t) (denI it1) vs1 T1 (denT t1) (den e)
  | .app a b => dApp (den a) (den b)
  | .ext a b => dExt (den a) (den b)
  | .pop a => dPop (den a)
  | .popA a b => dPopA (den a) (den b)
def denL : Exs → DenL
  | .nil => dNil
  | .cons a r => dCons (den a) (denL r)
def denI : Exi → DenI
  | .any a => dIter (den a)
  | .rng as => dRng (denL as)
def denO : Exo → CF → En → Sto → Option (Option Int × Sto)
  | .no => dNone
  | .at a => dPart (den a)
def denT : Exq → DenT
  | .yes => dYes
  | .tst a => dTst (den a)
end
mutual
def beqD : D → D → Bool
  | .non, .non => true
  | .bl a, .bl b => a == b
  | .int a, .int b => decide (a = b)
  | .str a, .str b => decide (a = b)
  | .tup xs, .tup ys => beqDs xs ys
  | .lst xs, .lst ys => beqDs xs ys
  | _, _ => false
def beqDs : List D → List D → Bool
  | [], [] => true
  | x :: xs, y :: ys => beqD x y && beqDs xs ys
  | _, _ => false
end
mutual
theorem beqD_eq : ∀ {a b : D}, beqD a b = true → a = b
  | .non, b, h => by cases b <;> simp only [beqD] at h <;> first | rfl | cases h
  | .bl x, b, h => by cases b <;> simp only [beqD] at h <;> first | (rw [eq_of_beq h]) | cases h
  | .int x, b, h => by cases b <;> simp only [beqD] at h <;> first | (rw [of_decide_eq_true h]) | cases h
  | .str x, b, h => by cases b <;> simp only [beqD] at h <;> first | (rw [of_decide_eq_true h]) | cases h
  | .tup x, b, h => by cases b <;> simp only [beqD] at h <;> first | (rw [beqDs_eq h]) | cases h
  | .lst x, b, h => by cases b <;> simp only [beqD] at h <;> first | (rw [beqDs_eq h]) | cases h
theorem beqDs_eq : ∀ {a b : List D}, beqDs a b = true → a = b
  | [], b, h => by cases b <;> simp only [beqDs] at h <;> first | rfl | cases h
  | x :: xs, b, h => by
    cases b with
    | nil => simp only [beqDs] at h; cases h
    | cons y ys =>
      simp only [beqDs, Bool.and_eq_true] at h
      rw [beqD_eq h.1, beqDs_eq h.2]
end
def cOk : Const → D → Bool
  | .none, .non => true
  | .bool a, .bl b => a == b
  | .int a, .int b => decide (a = b)
  | .str a, .str b => decide (a = b) && Nat.ble a.length 16777216
  | _, _ => false
def glB (Γ : Cs) (x : Str) : Bool := decide (Γ.sc.names.lookup x = some .globalImplicit)
def visB (Γ : Cs) (x : Str) : Bool := decide (Γ.sc.names.lookup x = some .local) || decide (Γ.sc.names.lookup x = some .cell) || decide (Γ.sc.names.lookup x = some .free)
def dbgB (x : Str) : Bool := (x == ("__debug__" : Str)) || (x == ("__classdict__" : Str))
def starB : Expr → Bool
  | .Starred .. => true
  | _ => false
def callB : Expr → Bool
  | .Call .. => true
  | _ => false
def ixB : Expr → Bool
  | .Slice .. => false
  | .Tuple .. => false
  | .Starred .. => false
  | _ => true
def setB : Expr → Bool
  | .Set .. => true
  | _ => false
def ownOf (N : List Str) (vs : List Nat) : List (Str × Nat) := vs.filterMap fun v => (N[v]?).map fun x => (x, v)
def subB (a b : List Nat) : Bool := a.all fun x => b.elem x
def tstB : Ex → Bool
  | .ite .. => false
  | .not a => tstB a
  | .and a b => tstB a && tstB b
  | .or a b => tstB a && tstB b
  | _ => true
def andB : Ex → Bool
  | .and .. => true
  | _ => false
def orB : Ex → Bool
  | .or .. => true
  | _ => false
mutual
def chkE (Γ : Cs) : Ex → Expr → Bool
  | .var i, e => match e with
    | .Name x _ => decide (Γ.N[i]? = some x) && visB Γ x && !dbgB x
    | _ => false
  | .con d, e => match e with
    | .Constant c _ _ => cOk c d
    | .Name x _ => glB Γ x && !dbgB x && (match Γ.G.lookup x with | some d' => beqD d' d | none => false)
    | _ => false
  | .bin op a b, e => match e with
    | .BinOp l op' r _ => decide (op = op') && chkE Γ a l && chkE Γ b r
    | _ => false
  | .cmp op a b, e => match e with
    | .Compare l [op'] [r] _ => decide (op = op') && chkE Γ a l && chkE Γ b r && !behindInMarks op r
    | _ => false
  | .chain o1 o2 a b c, e => match e with
    | .Compare l [p1, p2] [r1, r2] _ => decide (o1 = p1) && decide (o2 = p2) && chkE Γ a l && chkE Γ b r1 && chkE Γ c r2 && !lastMarks [o1, o2] [r1, r2]
    | _ => false
  | .neg a, e => match e with
    | .UnaryOp .USub x _ => chkE Γ a x
    | _ => false
  | .not a, e => match e with
    | .UnaryOp .Not x _ => chkE Γ a x
    | _ => false
  | .and a b, e => match e with
    | .BoolOp .And [x, y] _ => chkE Γ a x && chkE Γ b y
    | .BoolOp .And (x :: y :: z :: r) p => chkE Γ a x && chkE Γ b (.BoolOp .And (y :: z :: r) p) && andB b
    | _ => false
  | .or a b, e => match e with
    | .BoolOp .Or [x, y] _ => chkE Γ a x && chkE Γ b y
    | .BoolOp .Or (x :: y :: z :: r) p => chkE Γ a x && chkE Γ b (.BoolOp .Or (y :: z :: r) p) && orB b
    | _ => false
  | .ite c a b, e => match e with
    | .IfExp x y z _ => chkE Γ c x && chkE Γ a y && chkE Γ b z && tstB c
    | _ => false
  | .idx a i, e => match e with
    | .Subscript x y _ => chkE Γ a x && chkE Γ i y && ixB y
    | _ => false
  | .slc a lo hi, e => match e with
    | .Subscript x (.Slice l h none _) _ => chkE Γ a x && chkO Γ lo l && chkO Γ hi h
    | _ => false
  | .rev a, e => match e with
    | .Subscript x (.Slice none none (some (.UnaryOp .USub (.Constant (.int j) _ _) _)) _) _ => chkE Γ a x && decide (j = 1)
    | _ => false
  | .tup as, e => match e with
    | .Tuple es _ _ => chkA Γ as es
    | _ => false
  | .lst as, e => match e with
    | .List es _ => chkA Γ as es
    | _ => false
  | .call f as, e => match e with
    | .Call (.Name g _) es [] _ => decide (f = g) && glB Γ f && !dbgB f && decide (Γ.T.lookup f = some es.length) && chkA Γ as es
    | _ => false
  | .prim p as, e => match e with
    | .Call (.Name g _) es [] _ => decide ((primFn p).1 = g) && glB Γ g && !es.isEmpty && chkA Γ as es
    | _ => false
  | .isi a T, e => match e with
    | .Call (.Name g _) [x, .Name t _] [] _ => decide (g = PySem.Str.ofString "isinstance") && glB Γ g && glB Γ t && decide ((t, T) ∈ tyNames) && chkE Γ a x && !starB x
    | _ => false
  | .pool a c, e => match e with
    | .List [x, .List [.Constant (.int j) _ _] _] _ => decide (j = c) && chkE Γ a x && !starB x
    | _ => false
  | .lc it vs T t el, e => match e with
    | .ListComp elt [⟨tg, iter, ifs, as⟩] scope _ => decide (as = 0) && decide ((ownOf Γ.N vs).map (·.2) = vs) && blkC Γ.N Γ.sc scope (ownOf Γ.N vs) && subB T.vars vs && tgtT (Γ.blk scope) tg T && chkI Γ it iter && !setB iter && chkT (Γ.blk scope) t ifs && chkE (Γ.blk scope) el elt
    | _ => false
  | .lc2 it vs T t it1 vs1 T1 t1 el, e => match e with
    | .ListComp elt [⟨tg, iter, ifs, as⟩, ⟨tg1, iter1, ifs1, as1⟩] scope _ => decide (as = 0) && decide (as1 = 0) && decide ((ownOf Γ.N vs).map (·.2) = vs) && blkC Γ.N Γ.sc scope (ownOf Γ.N vs) && subB T.vars vs && subB vs1 vs && subB T1.vars vs1 && tgtT (Γ.blk scope) tg T && tgtT (Γ.blk scope) tg1 T1 && chkI Γ it iter && !setB iter && !setB iter1 && chkT (Γ.blk scope) t ifs && chkI (Γ.blk scope) it1 iter1 && chkT (Γ.blk scope) t1 ifs1 && chkE (Γ.blk scope) el elt
    | _ => false
  | .app a b, e => match e with
    | .Call (.Attribute x m ap) [y] [] p => decide (m = PySem.Str.ofString "append") && chkE Γ a x && chkE Γ b y && !callB x && !starB y && (ap.endLine == p.line)
    | _ => false
  | .ext a b, e => match e with
    | .Call (.Attribute x m ap) [y] [] p => decide (m = PySem.Str.ofString "extend") && chkE Γ a x && chkE Γ b y && !callB x && !starB y && (ap.endLine == p.line)
    | _ => false
  | .pop a, e => match e with
    | .Call (.Attribute x m ap) [] [] p => decide (m = PySem.Str.ofString "pop") && chkE Γ a x && !callB x && (ap.endLine == p.line)
    | _ => false
  | .popA a b, e => match e with
    | .Call (.Attribute x m ap) [y] [] p => decide (m = PySem.Str.ofString "pop") && chkE Γ a x && chkE Γ b y && !callB x && !starB y && (ap.endLine == p.line)
    | _ => false
def chkA (Γ : Cs) : Exs → List Expr → Bool
  | .nil, es => es.isEmpty
  | .cons a r, es => match es with
    | e :: es => chkE Γ a e && !starB e && chkA Γ r es
    | [] => false
def chkI (Γ : Cs) : Exi → Expr → Bool
  | .any a, e => chkE Γ a e
  | .rng as, e => match e with
    | .Call (.Name g _) [x] [] _ => decide (g = PySem.Str.ofString "range") && glB Γ g && chkA Γ as [x]
    | .Call (.Name g _) [x, y] [] _ => decide (g = PySem.Str.ofString "range") && glB Γ g && chkA Γ as [x, y]
    | _ => false
def chkO (Γ : Cs) : Exo → Option Expr → Bool
  | .no, e => e.isNone
  | .at a, e => match e with
    | some e => chkE Γ a e
    | none => false
def chkT (Γ : Cs) : Exq → List Expr → Bool
  | .yes, es => es.isEmpty
  | .tst a, es => match es with
    | [e] => chkE Γ a e && tstB a
    | _ => false
end
end L2.Ev
set_option Elab.async false
set_option linter.all false
set_option maxRecDepth 100000
set_option maxHeartbeats 4000000
namespace L2.Ev
open PySem PySem.Spec PyProof.Rows

/-! ### the look at a text is right -/
section
variable {Γ : Cs} {cf : CF} {k : Nat}
theorem noStar {e : Expr} (h : starB e = false) : NoStar e := by
  cases e <;> first | exact fun _ _ => rfl | (simp only [starB] at h; cases h)
theorem plainIx {e : Expr} (h : ixB e = true) : PlainIx e := by
  cases e <;> first | exact fun _ _ => rfl | (simp only [ixB] at h; cases h)
theorem noSet {e : Expr} (h : setB e = false) : ∀ (env : Env) x, foldedSetIterable e env x = pure x := by
  cases e <;> first | exact fun _ _ => rfl | (simp only [setB] at h; cases h)
theorem noCall {e : Expr} (h : callB e = false) : NoCall e := by
  cases e <;> first | exact trivial | (simp only [callB] at h; cases h)
theorem gl_of {x : Str} (h : glB Γ x = true) : Γ.sc.names.lookup x = some .globalImplicit := of_decide_eq_true h
theorem vis_of {x : Str} (h : visB Γ x = true) : Vis Γ.sc x := by
  simp only [visB, Bool.or_eq_true, decide_eq_true_eq] at h
  rcases h with (h | h) | h
  · exact .inl h
  · exact .inr (.inl h)
  · exact .inr (.inr h)
theorem dbg_of {x : Str} (h : dbgB x = false) : (x == ("__debug__" : Str)) = false ∧ (x == ("__classdict__" : Str)) = false := by
  simpa [dbgB, Bool.or_eq_false_iff] using h
theorem sub_of {a b : List Nat} (h : subB a b = true) : ∀ j ∈ a, j ∈ b := fun j hj => by
  have := List.all_eq_true.mp h j hj
  simpa using this
/-- what is known of a text -/
structure Snd (Γ : Cs) (cf : CF) (k : Nat) (x : Ex) (e : Expr) : Prop where
  v : EvE Γ cf k e (den x)
  t : tstB x = true → EvT Γ cf k e (den x)
  w : (andB x || orB x) = true → tstB x = true → EvW Γ cf k e (den x)
  a : ∀ (y : Str) (py : Pos) (i : Nat) (pos : Pos), Γ.sc.kind = .function → LocT Γ y i → ∀ X, Good Γ cf k X → AsgOk X y py i e pos (tDen X.K cf (den x))
theorem snd_of {x : Ex} {e : Expr} (h : EvE Γ cf k e (den x)) (p : Plain e) (s : ∀ y py pos (env : Env), swapsWith e (some (.Name y py)) pos env = pure false) (nb : (andB x || orB x) = false := by rfl) : Snd Γ cf k x e :=
  ⟨h, fun _ => evT_of h p, fun z => (by rw [nb] at z; cases z), fun y py i pos _ hx X G => asg_set G hx (h X G) (s y py pos.line X.env)⟩
theorem snd_ofT {x : Ex} {e : Expr} (h : EvE Γ cf k e (den x)) (p : tstB x = true → EvT Γ cf k e (den x)) (s : ∀ y py pos (env : Env), swapsWith e (some (.Name y py)) pos env = pure false) (nb : (andB x || orB x) = false := by rfl) : Snd Γ cf k x e :=
  ⟨h, p, fun z => (by rw [nb] at z; cases z), fun y py i pos _ hx X G => asg_set G hx (h X G) (s y py pos.line X.env)⟩
structure SndF (Γ : Cs) (cf : CF) (k : Nat) (x : Ex) (e : Expr) : Prop where
  f : EvF Γ cf k e (den x)
  a : ∀ (y : Str) (py : Pos) (i : Nat) (pos : Pos), Γ.sc.kind = .function → LocT Γ y i → ∀ X, Good Γ cf k X → AsgOk X y py i e pos (tDenF X.K cf (den x))
theorem sndF_of {x : Ex} {e : Expr} (h : EvF Γ cf k e (den x)) (s : ∀ y py pos (env : Env), swapsWith e (some (.Name y py)) pos env = pure false) : SndF Γ cf k x e :=
  ⟨h, fun y py i pos _ hx X G => asg_set G hx (h X G) (s y py pos.line X.env)⟩
theorem asgOk_imp {X : Cx} {y : Str} {py : Pos} {i : Nat} {e : Expr} {pos : Pos} {t t' : TE} (h : AsgOk X y py i e pos t) (q : ∀ σ H Q, t' σ H Q → t σ H Q) : AsgOk X y py i e pos t' := PS.imp h fun D σ H z => q _ _ _ z
/-- the way by tDenF -/
theorem denF_den {K : PySem.W.Frag} {d : Den} (hl : Lists d) {σ : St} {H : Hp} {Q : VK} (h : tDen K cf d σ H Q) : tDenF K cf d σ H Q := by
  obtain ⟨Z, ρ, st, env, w, st', S, E, e, q⟩ := h
  obtain ⟨ds, hd⟩ := hl _ _ _ _ e
  simp only at hd
  subst hd
  refine ⟨Z, ρ, st, env, ds, st', S, E, e, fun p H' ρ' vs L h0 hz => ?_⟩
  obtain ⟨f1, f2⟩ := L.fin h0 S hz
  exact q _ _ ρ' L.ext f1 f2
theorem snd_B {x : Ex} {e : Expr} (h : EvE Γ cf k e (den x)) (w : tstB x = true → EvW Γ cf k e (den x)) (s : ∀ y py pos (env : Env), swapsWith e (some (.Name y py)) pos env = pure false) : Snd Γ cf k x e :=
  ⟨h, fun t => evW_T (w t), fun _ t => w t, fun y py i pos _ hx X G => asg_set G hx (h X G) (s y py pos.line X.env)⟩
theorem snd_F {x : Ex} {e : Expr} (h : SndF Γ cf k x e) (hl : Lists (den x)) (p : Plain e) (nb : (andB x || orB x) = false := by rfl) : Snd Γ cf k x e :=
  ⟨evE_F h.f hl, fun _ => evT_of (evE_F h.f hl) p, fun z => (by rw [nb] at z; cases z), fun y py i pos hk hx X G => asgOk_imp (h.a y py i pos hk hx X G) fun σ H Q z => denF_den hl z⟩
theorem cOk_ev {c : Const} {d : D} {j : Nat} {pos : Pos} (h : cOk c d = true) : EvE Γ cf k (.Constant c j pos) (dCon d) := by
  unfold cOk at h
  split at h
  · exact ev_non
  · rw [← eq_of_beq h]; exact ev_bl
  · rw [← of_decide_eq_true h]; exact ev_int
  · simp only [Bool.and_eq_true, decide_eq_true_eq] at h
    rw [← h.1]
    exact ev_str (Nat.le_of_ble_eq_true h.2)
  · cases h
/-- of a comprehension: as a new list, and stored -/
theorem sndF_lc {di : Exi} {vs : List Nat} {T : Tg} {dt : Exq} {de : Ex} {elt tg iter : Expr} {ifs : List Expr} {scope : Scope} {own : List (Str × Nat)} {pos : Pos} (hv : own.map (·.2) = vs) (hi : EvI Γ cf k iter (denI di)) (ok : blkC Γ.N Γ.sc scope own = true) (hT : ∀ j ∈ T.vars, j ∈ vs) (hg : EvG (Γ.blk scope) cf k tg T) (ht : EvTs (Γ.blk scope) cf k ifs (denT dt)) (he : EvE (Γ.blk scope) cf k elt (den de)) (hs : ∀ env x, foldedSetIterable iter env x = pure x) :
    SndF Γ cf k (.lc di vs T dt de) (.ListComp elt [⟨tg, iter, ifs, 0⟩] scope pos) := by
  subst hv
  have F := ev_lc (pos := pos) hi ok hT hg ht he hs
  refine ⟨F, fun y py i spos hk hx X G => ?_⟩
  have hsw : swapsWith (.ListComp elt [⟨tg, iter, ifs, 0⟩] scope pos) (some (.Name y py)) spos.line X.env = pure (X.env.blockKind == .function && X.env.kindOf y == some .local && py.line == pos.line
      && !(scope.names.any fun (n, k) => n == y && (k == .local || k == .cell))) := rfl
  cases hb : (X.env.blockKind == .function && X.env.kindOf y == some .local && py.line == pos.line && !(scope.names.any fun (n, k) => n == y && (k == .local || k == .cell)))
  · rw [hb] at hsw
    exact asg_set G hx (F X G) hsw
  · rw [hb] at hsw
    simp only [Bool.and_eq_true] at hb
    have hl : X.env.scope.names.lookup y = some .local := eq_of_beq hb.1.1.2
    exact asgOk_imp (ps_setLc G.calm (by rw [G.names]; exact G.nd) (by rw [G.names]; exact hx.1) hl hsw (hi X tg G) (blkOk_by (by rw [G.names, G.sc]; exact ok)) (fun s H C cl fp => hg _ (G.blk scope s H C cl fp)) (fun s H C cl fp => ht _ (G.blk scope s H C cl fp)) (fun s H C cl fp => he _ (G.blk scope s H C cl fp)) (hs _)) fun σ H Q h => lc_all hT h
theorem sndF_lc2 {di di1 : Exi} {vs vs1 : List Nat} {T T1 : Tg} {dt dt1 : Exq} {de : Ex} {elt tg iter tg1 it1 : Expr} {ifs ifs1 : List Expr} {scope : Scope} {own : List (Str × Nat)} {pos : Pos} (hv : own.map (·.2) = vs) (hi : EvI Γ cf k iter (denI di)) (ok : blkC Γ.N Γ.sc scope own = true) (hT : ∀ j ∈ T.vars, j ∈ vs) (hg : EvG (Γ.blk scope) cf k tg T) (ht : EvTs (Γ.blk scope) cf k ifs (denT dt)) (hi1 : EvI (Γ.blk scope) cf k it1 (denI di1)) (hv1 : ∀ i ∈ vs1, i ∈ vs) (hT1 : ∀ j ∈ T1.vars, j ∈ vs1) (hg1 : EvG (Γ.blk scope) cf k tg1 T1) (ht1 : EvTs (Γ.blk scope) cf k ifs1 (denT dt1)) (he : EvE (Γ.blk scope) cf k elt (den de)) (hs : ∀ env x, foldedSetIterable iter env x = pure x) (hs1 : ∀ env x, foldedSetIterable it1 env x = pure x) :
    SndF Γ cf k (.lc2 di vs T dt di1 vs1 T1 dt1 de) (.ListComp elt [⟨tg, iter, ifs, 0⟩, ⟨tg1, it1, ifs1, 0⟩] scope pos) := by
  subst hv
  have F := ev_lc2 (pos := pos) hi ok hT hg ht hi1 hv1 hT1 hg1 ht1 he hs hs1
  refine ⟨F, fun y py i spos hk hx X G => ?_⟩
  have hsw : swapsWith (.ListComp elt [⟨tg, iter, ifs, 0⟩, ⟨tg1, it1, ifs1, 0⟩] scope pos) (some (.Name y py)) spos.line X.env = pure (X.env.blockKind == .function && X.env.kindOf y == some .local && py.line == pos.line
      && !(scope.names.any fun (n, k) => n == y && (k == .local || k == .cell))) := rfl
  cases hb : (X.env.blockKind == .function && X.env.kindOf y == some .local && py.line == pos.line && !(scope.names.any fun (n, k) => n == y && (k == .local || k == .cell)))
  · rw [hb] at hsw
    exact asg_set G hx (F X G) hsw
  · rw [hb] at hsw
    simp only [Bool.and_eq_true] at hb
    have hl : X.env.scope.names.lookup y = some .local := eq_of_beq hb.1.1.2
    exact asgOk_imp (ps_setLc2 G.calm (by rw [G.names]; exact G.nd) (by rw [G.names]; exact hx.1) hl hsw (hi X tg G) (blkOk_by (by rw [G.names, G.sc]; exact ok)) hv1 (fun s H C cl fp => hg _ (G.blk scope s H C cl fp)) (fun s H C cl fp => ht _ (G.blk scope s H C cl fp)) (fun s H C cl fp => hi1 _ tg1 (G.blk scope s H C cl fp)) (fun s H C cl fp => hg1 _ (G.blk scope s H C cl fp)) (fun s H C cl fp => ht1 _ (G.blk scope s H C cl fp))
      (fun s H C cl fp => he _ (G.blk scope s H C cl fp)) (hs _) hs1) fun σ H Q h => lc2_all hT hT1 h
theorem lists_lst {as : DenL} : Lists (dLst as) := fun cf env st r h => by
  obtain ⟨p, _, h⟩ := Option.bind_eq_some_iff.mp h
  obtain ⟨q, _, h⟩ := Option.bind_eq_some_iff.mp h
  split at h
  · cases h
    exact ⟨_, rfl⟩
  · cases h
end
/-- what may be a new cell's first content -/
def fB : Ex → Bool
  | .lst _ => true
  | .lc .. => true
  | .lc2 .. => true
  | .bin .Add _ _ => true
  | .bin .Mult _ _ => true
  | .prim .list _ => true
  | _ => false
mutual
theorem sndE {cf : CF} {k : Nat} : ∀ (x : Ex) {Γ : Cs} {e : Expr}, chkE Γ x e = true → Snd Γ cf k x e
  | .var i, Γ, e, h => by
    simp only [chkE] at h
    split at h
    · simp only [Bool.and_eq_true, decide_eq_true_eq, Bool.not_eq_true'] at h
      obtain ⟨⟨h1, h2⟩, h3⟩ := h
      obtain ⟨d1, d2⟩ := dbg_of h3
      exact snd_of (ev_var h1 (vis_of h2) d1 d2) (fun _ _ => rfl) fun _ _ _ _ => rfl
    · cases h
  | .con d, Γ, e, h => by
    simp only [chkE] at h
    split at h
    · exact snd_of (cOk_ev h) (fun _ _ => rfl) fun _ _ _ _ => rfl
    · simp only [Bool.and_eq_true, Bool.not_eq_true'] at h
      obtain ⟨⟨h1, h2⟩, h3⟩ := h
      obtain ⟨d1, d2⟩ := dbg_of h2
      split at h3
      · rename_i hl
        rw [beqD_eq h3] at hl
        exact snd_of (ev_glob (gl_of h1) hl d1) (fun _ _ => rfl) fun _ _ _ _ => rfl
      · cases h3
    · cases h
  | .bin op a b, Γ, e, h => by
    simp only [chkE] at h
    split at h
    · simp only [Bool.and_eq_true, decide_eq_true_eq] at h
      obtain ⟨⟨rfl, h1⟩, h2⟩ := h
      exact snd_of (ev_bin (sndE a h1).v (sndE b h2).v) (fun _ _ => rfl) fun _ _ _ _ => rfl
    · cases h
  | .cmp op a b, Γ, e, h => by
    simp only [chkE] at h
    split at h
    · simp only [Bool.and_eq_true, decide_eq_true_eq, Bool.not_eq_true'] at h
      obtain ⟨⟨⟨rfl, h1⟩, h2⟩, h3⟩ := h
      exact snd_ofT (ev_cmp (sndE a h1).v (sndE b h2).v h3) (fun _ => evT_cmp (sndE a h1).v (sndE b h2).v h3) fun _ _ _ _ => rfl
    · cases h
  | .chain o1 o2 a b c, Γ, e, h => by
    simp only [chkE] at h
    split at h
    · simp only [Bool.and_eq_true, decide_eq_true_eq, Bool.not_eq_true'] at h
      obtain ⟨⟨⟨⟨⟨rfl, rfl⟩, h1⟩, h2⟩, h3⟩, h4⟩ := h
      exact snd_ofT (ev_chain (sndE a h1).v (sndE b h2).v (sndE c h3).v h4) (fun _ => evT_chain (sndE a h1).v (sndE b h2).v (sndE c h3).v h4) fun _ _ _ _ => rfl
    · cases h
  | .neg a, Γ, e, h => by
    simp only [chkE] at h
    split at h
    · exact snd_of (ev_neg (sndE a h).v) (fun _ _ => rfl) fun _ _ _ _ => rfl
    · cases h
  | .not a, Γ, e, h => by
    simp only [chkE] at h
    split at h
    · exact snd_ofT (ev_not (sndE a h).v) (fun ht => evT_not ((sndE a h).t ht)) fun _ _ _ _ => rfl
    · cases h
  | .and a b, Γ, e, h => by
    simp only [chkE] at h
    split at h
    · simp only [Bool.and_eq_true] at h
      obtain ⟨h1, h2⟩ := h
      refine snd_B (ev_and (sndE a h1).v (ev_one (sndE b h2).v)) (fun t => ?_) fun _ _ _ _ => rfl
      simp only [tstB, Bool.and_eq_true] at t
      exact evW_and ((sndE a h1).t t.1) (evW_and1 ((sndE b h2).t t.2))
    · simp only [Bool.and_eq_true] at h
      obtain ⟨⟨h1, h2⟩, h3⟩ := h
      refine snd_B (ev_and (sndE a h1).v (sndE b h2).v) (fun t => ?_) fun _ _ _ _ => rfl
      simp only [tstB, Bool.and_eq_true] at t
      exact evW_and ((sndE a h1).t t.1) ((sndE b h2).w (by rw [h3]; first | rfl | simp) t.2)
    · cases h
  | .or a b, Γ, e, h => by
    simp only [chkE] at h
    split at h
    · simp only [Bool.and_eq_true] at h
      obtain ⟨h1, h2⟩ := h
      refine snd_B (ev_or (sndE a h1).v (ev_one (sndE b h2).v)) (fun t => ?_) fun _ _ _ _ => rfl
      simp only [tstB, Bool.and_eq_true] at t
      exact evW_or ((sndE a h1).t t.1) (evW_or1 ((sndE b h2).t t.2))
    · simp only [Bool.and_eq_true] at h
      obtain ⟨⟨h1, h2⟩, h3⟩ := h
      refine snd_B (ev_or (sndE a h1).v (sndE b h2).v) (fun t => ?_) fun _ _ _ _ => rfl
      simp only [tstB, Bool.and_eq_true] at t
      exact evW_or ((sndE a h1).t t.1) ((sndE b h2).w (by rw [h3]; first | rfl | simp) t.2)
    · cases h
  | .ite c a b, Γ, e, h => by
    simp only [chkE] at h
    split at h
    · simp only [Bool.and_eq_true] at h
      obtain ⟨⟨⟨h1, h2⟩, h3⟩, h4⟩ := h
      exact snd_ofT (ev_ite ((sndE c h1).t h4) (sndE a h2).v (sndE b h3).v) (fun z => by cases z) fun _ _ _ _ => rfl
    · cases h
  | .idx a i, Γ, e, h => by
    simp only [chkE] at h
    split at h
    · simp only [Bool.and_eq_true] at h
      obtain ⟨⟨h1, h2⟩, h3⟩ := h
      exact snd_of (ev_idx (sndE a h1).v (sndE i h2).v (plainIx h3)) (fun _ _ => rfl) fun _ _ _ _ => rfl
    · cases h
  | .slc a lo hi, Γ, e, h => by
    simp only [chkE] at h
    split at h
    · simp only [Bool.and_eq_true] at h
      obtain ⟨⟨h1, h2⟩, h3⟩ := h
      exact snd_of (ev_slc (sndE a h1).v (sndO lo h2) (sndO hi h3)) (fun _ _ => rfl) fun _ _ _ _ => rfl
    · cases h
  | .rev a, Γ, e, h => by
    simp only [chkE] at h
    split at h
    · simp only [Bool.and_eq_true, decide_eq_true_eq] at h
      obtain ⟨h1, rfl⟩ := h
      exact snd_of (ev_rev (sndE a h1).v) (fun _ _ => rfl) fun _ _ _ _ => rfl
    · cases h
  | .tup as, Γ, e, h => by
    simp only [chkE] at h
    split at h
    · exact snd_of (ev_tup (sndA as h)) (fun _ _ => rfl) fun _ _ _ _ => rfl
    · cases h
  | .lst as, Γ, e, h => by
    simp only [chkE] at h
    split at h
    · exact snd_of (ev_lst (sndA as h)) (fun _ _ => rfl) fun _ _ _ _ => rfl
    · cases h
  | .call f as, Γ, e, h => by
    simp only [chkE] at h
    split at h
    · simp only [Bool.and_eq_true, decide_eq_true_eq, Bool.not_eq_true'] at h
      obtain ⟨⟨⟨⟨rfl, h1⟩, h2⟩, h3⟩, h4⟩ := h
      obtain ⟨d1, d2⟩ := dbg_of h2
      rename_i es _
      have hA := sndA (cf := cf) (k := k) as h4
      cases es with
      | nil =>
        have e0 : as = .nil := by
          cases as with
          | nil => rfl
          | cons a r => simp only [chkA] at h4; cases h4
        subst e0
        exact snd_of (ev_call0 (gl_of h1) h3 d1) (fun _ _ => rfl) fun _ _ _ _ => rfl
      | cons y ys => exact snd_of (ev_call (gl_of h1) h3 rfl d1 hA) (fun _ _ => rfl) fun _ _ _ _ => rfl
    · cases h
  | .prim p as, Γ, e, h => by
    simp only [chkE] at h
    split at h
    · simp only [Bool.and_eq_true, decide_eq_true_eq, Bool.not_eq_true'] at h
      obtain ⟨⟨⟨rfl, h1⟩, h2⟩, h4⟩ := h
      rename_i es _
      cases es with
      | nil => cases h2
      | cons y ys => exact snd_of (ev_prim (gl_of h1) (sndA as h4)) (fun _ _ => rfl) fun _ _ _ _ => rfl
    · cases h
  | .isi a T, Γ, e, h => by
    simp only [chkE] at h
    split at h
    · simp only [Bool.and_eq_true, decide_eq_true_eq, Bool.not_eq_true'] at h
      obtain ⟨⟨⟨⟨⟨rfl, h1⟩, h2⟩, h3⟩, h4⟩, h5⟩ := h
      exact snd_of (ev_isi (x := T) (gl_of h1) (gl_of h2) h3 (noStar h5) (sndE a h4).v) (fun _ _ => rfl) fun _ _ _ _ => rfl
    · cases h
  | .pool a c, Γ, e, h => by
    simp only [chkE] at h
    split at h
    · simp only [Bool.and_eq_true, decide_eq_true_eq, Bool.not_eq_true'] at h
      obtain ⟨⟨rfl, h1⟩, h2⟩ := h
      exact snd_of (ev_pool (noStar h2) (sndE a h1).v) (fun _ _ => rfl) fun _ _ _ _ => rfl
    · cases h
  | .lc it vs T t el, Γ, e, h => by
    simp only [chkE] at h
    split at h
    · simp only [Bool.and_eq_true, decide_eq_true_eq, Bool.not_eq_true'] at h
      obtain ⟨⟨⟨⟨⟨⟨⟨⟨rfl, h1⟩, h2⟩, h3⟩, h4⟩, h5⟩, h6⟩, h7⟩, h8⟩ := h
      exact snd_F (sndF_lc h1 (sndI it h5) h2 (sub_of h3) (fun X G => tgtT_pg h4 G) (sndT t h7) (sndE el h8).v (noSet h6)) lists_lc fun _ _ => rfl
    · cases h
  | .lc2 it vs T t it1 vs1 T1 t1 el, Γ, e, h => by
    simp only [chkE] at h
    split at h
    · simp only [Bool.and_eq_true, decide_eq_true_eq, Bool.not_eq_true'] at h
      obtain ⟨⟨⟨⟨⟨⟨⟨⟨⟨⟨⟨⟨⟨⟨⟨rfl, rfl⟩, h1⟩, h2⟩, h3⟩, h4⟩, h5⟩, h6⟩, h7⟩, h8⟩, h9⟩, h10⟩, h11⟩, h12⟩, h13⟩, h14⟩ := h
      exact snd_F (sndF_lc2 h1 (sndI it h8) h2 (sub_of h3) (fun X G => tgtT_pg h6 G) (sndT t h11) (sndI it1 h12) (sub_of h4) (sub_of h5) (fun X G => tgtT_pg h7 G) (sndT t1 h13) (sndE el h14).v (noSet h9) (noSet h10)) lists_lc2 fun _ _ => rfl
    · cases h
  | .app a b, Γ, e, h => by
    simp only [chkE] at h
    split at h
    · simp only [Bool.and_eq_true, decide_eq_true_eq, Bool.not_eq_true'] at h
      obtain ⟨⟨⟨⟨⟨rfl, h1⟩, h2⟩, h3⟩, h4⟩, h5⟩ := h
      exact snd_of (ev_append (sndE a h1).v (sndE b h2).v (noCall h3) (noStar h4) h5) (fun _ _ => rfl) fun _ _ _ _ => rfl
    · cases h
  | .ext a b, Γ, e, h => by
    simp only [chkE] at h
    split at h
    · simp only [Bool.and_eq_true, decide_eq_true_eq, Bool.not_eq_true'] at h
      obtain ⟨⟨⟨⟨⟨rfl, h1⟩, h2⟩, h3⟩, h4⟩, h5⟩ := h
      exact snd_of (ev_extend (sndE a h1).v (sndE b h2).v (noCall h3) (noStar h4) h5) (fun _ _ => rfl) fun _ _ _ _ => rfl
    · cases h
  | .pop a, Γ, e, h => by
    simp only [chkE] at h
    split at h
    · simp only [Bool.and_eq_true, decide_eq_true_eq, Bool.not_eq_true'] at h
      obtain ⟨⟨⟨rfl, h1⟩, h3⟩, h5⟩ := h
      exact snd_of (ev_pop (sndE a h1).v (noCall h3) h5) (fun _ _ => rfl) fun _ _ _ _ => rfl
    · cases h
  | .popA a b, Γ, e, h => by
    simp only [chkE] at h
    split at h
    · simp only [Bool.and_eq_true, decide_eq_true_eq, Bool.not_eq_true'] at h
      obtain ⟨⟨⟨⟨⟨rfl, h1⟩, h2⟩, h3⟩, h4⟩, h5⟩ := h
      exact snd_of (ev_popA (sndE a h1).v (sndE b h2).v (noCall h3) (noStar h4) h5) (fun _ _ => rfl) fun _ _ _ _ => rfl
    · cases h
theorem sndA {cf : CF} {k : Nat} : ∀ (x : Exs) {Γ : Cs} {es : List Expr}, chkA Γ x es = true → EvA Γ cf k es (denL x)
  | .nil, Γ, es, h => by
    simp only [chkA, List.isEmpty_iff] at h
    subst h
    exact eva_nil
  | .cons a r, Γ, es, h => by
    simp only [chkA] at h
    split at h
    · simp only [Bool.and_eq_true, Bool.not_eq_true'] at h
      exact eva_cons (noStar h.1.2) (sndE a h.1.1).v (sndA r h.2)
    · cases h
theorem sndI {cf : CF} {k : Nat} : ∀ (x : Exi) {Γ : Cs} {e : Expr}, chkI Γ x e = true → EvI Γ cf k e (denI x)
  | .any a, Γ, e, h => by
    simp only [chkI] at h
    exact evi_any (sndE a h).v
  | .rng as, Γ, e, h => by
    simp only [chkI] at h
    split at h
    · simp only [Bool.and_eq_true, decide_eq_true_eq] at h
      obtain ⟨⟨rfl, h1⟩, h2⟩ := h
      exact evi_rng1 (gl_of h1) (sndA as h2)
    · simp only [Bool.and_eq_true, decide_eq_true_eq] at h
      obtain ⟨⟨rfl, h1⟩, h2⟩ := h
      exact evi_rng2 (gl_of h1) (sndA as h2)
    · cases h
theorem sndO {cf : CF} {k : Nat} : ∀ (x : Exo) {Γ : Cs} {e : Option Expr}, chkO Γ x e = true → EvO Γ cf k e (denO x)
  | .no, Γ, e, h => by
    simp only [chkO, Option.isNone_iff_eq_none] at h
    subst h
    exact evo_none
  | .at a, Γ, e, h => by
    simp only [chkO] at h
    split at h
    · exact evo_some (sndE a h).v
    · cases h
theorem sndT {cf : CF} {k : Nat} : ∀ (x : Exq) {Γ : Cs} {es : List Expr}, chkT Γ x es = true → EvTs Γ cf k es (denT x)
  | .yes, Γ, es, h => by
    simp only [chkT, List.isEmpty_iff] at h
    subst h
    exact evts_nil
  | .tst a, Γ, es, h => by
    simp only [chkT] at h
    split at h
    · simp only [Bool.and_eq_true] at h
      exact evts_one ((sndE a h.1).t h.2)
    · cases h
end
end L2.Ev
set_option Elab.async false
set_option linter.all false
set_option maxRecDepth 100000
set_option maxHeartbeats 4000000
namespace L2.Ev
open PySem PySem.Spec PyProof.Rows

/-! ### statements: the evaluator's text -/
mutual
inductive Sx where
  | pass | asg (i : Nat) (e : Ex) | own (i : Nat) (e : Ex) | unp (is : List Nat) (e : Ex) | par (i j : Nat) (a b : Ex) | sub (o i e : Ex) | ret (e : Ex) | retN | iff (c : Ex) (a b : Sxs) | for' (it : Exi) (T : Tg) (b : Sxs) | wh (c : Ex) (b : Sxs) | exp (e : Ex) | brk | cnt | aug (i : Nat) (op : Operator) (e : Ex)
inductive Sxs where
  | nil | cons (s : Sx) (r : Sxs)
end
mutual
def sden : Sx → SDen
  | .pass => sPass
  | .asg i e => sAsg i (den e)
  | .own i e => sOwn i (den e)
  | .unp is e => sUnp is (den e)
  | .par i j a b => sPar i j (den a) (den b)
  | .sub o i e => sSub (den o) (den i) (den e)
  | .ret e => sRet (den e)
  | .retN => sRetN
  | .iff c a b => sIf (den c) (sdenB a) (sdenB b)
  | .for' it T b => sFor (denI it) T (sdenB b)
  | .wh c b => sWh (den c) (sdenB b)
  | .exp e => sExp (den e)
  | .brk => sBrk
  | .cnt => sCnt
  | .aug i op e => sAug i op (den e)
def sdenB : Sxs → SDen
  | .nil => sPass
  | .cons s r => sSeq (sden s) (sdenB r)
end
def foldsB (e : Expr) : Bool := match e with
  | .Tuple vs _ _ => vs.all (foldedForSure 8)
  | _ => true
def lcB : Expr → Bool
  | .ListComp .. => true
  | .SetComp .. => true
  | .DictComp .. => true
  | _ => false
theorem noLc {e : Expr} (h : lcB e = false) (t : Option Expr) (l : Nat) (env : Env) : swapsWith e t l env = pure false := by
  cases e <;> first | rfl | (simp only [lcB] at h; cases h)
theorem noLcS {e : Expr} (h : lcB e = false) (t : Expr) (l : Nat) (env : Env) : swapsWithSole [t] e l env = pure false := by
  cases e <;> first | rfl | (simp only [lcB] at h; cases h)
/-- of a pair of stores -/
def swapB (Γ : Cs) (ts vs : List Expr) : Option (List Str) :=
  if !(ts.length == 2 || ts.length == 3) || vs.length != ts.length then none
  else if vs.any fun | .Starred .. => true | _ => false then none
  else
    let line := (ts.head?.map (·.pos.line)).getD 0
    let names := ts.filterMap fun
      | .Name id pos => if Γ.sc.names.lookup id == some .local && pos.line == line then some id else none
      | _ => none
    if names.length != ts.length || names.eraseDups.length != names.length then none
    else if vs.all (foldedForSure 8) then none
    else if vs.all (constantsAlone 8) then none
    else some names
mutual
def chkS (Γ : Cs) : Sx → Stmt → Bool
  | .pass, s => match s with
    | .Pass _ => true
    | .Expr (.Constant (.str _) _ _) _ => true
    | _ => false
  | .asg i e, s => match s with
    | .Assign [t] v _ => NameT Γ t i && chkE Γ e v
    | _ => false
  | .own i e, s => match s with
    | .Assign [t] v _ => NameT Γ t i && chkE Γ e v && fB e
    | _ => false
  | .unp is e, s => match s with
    | .Assign [.Tuple es _ _] v _ => namesT Γ es is && chkE Γ e v && foldsB v && !lcB v
    | _ => false
  | .par i j a b, s => match s with
    | .Assign [.Tuple [.Name x px, .Name y py] m pt] (.Tuple [l, r] _ _) _ => NameT Γ (.Name x px) i && NameT Γ (.Name y py) j && decide (Γ.sc.names.lookup x = some .local) && decide (Γ.sc.names.lookup y = some .local) && decide (i ≠ j) && chkE Γ a l && chkE Γ b r && !starB l && !starB r && decide (swapB Γ [.Name x px, .Name y py] [l, r] = some [x, y])
    | _ => false
  | .sub o i e, s => match s with
    | .Assign [.Subscript x y _] v _ => chkE Γ o x && chkE Γ i y && chkE Γ e v && ixB y && !lcB v
    | _ => false
  | .ret e, s => match s with
    | .Return (some v) _ => chkE Γ e v
    | _ => false
  | .retN, s => match s with
    | .Return none _ => true
    | _ => false
  | .iff c a b, s => match s with
    | .If t x y _ => chkE Γ c t && tstB c && chkB Γ a x && chkB Γ b y
    | _ => false
  | .for' it T b, s => match s with
    | .For tg iter body [] _ => chkI Γ it iter && tgtT Γ tg T && chkB Γ b body && !setB iter
    | _ => false
  | .wh c b, s => match s with
    | .While t body [] _ => chkE Γ c t && tstB c && chkB Γ b body
    | _ => false
  | .exp e, s => match s with
    | .Expr v _ => chkE Γ e v && !lcB v
    | _ => false
  | .brk, s => match s with
    | .Break _ => true
    | _ => false
  | .cnt, s => match s with
    | .Continue _ => true
    | _ => false
  | .aug i op e, s => match s with
    | .AugAssign t op' v _ => decide (op = op') && NameT Γ t i && chkE Γ e v
    | _ => false
def chkB (Γ : Cs) : Sxs → List Stmt → Bool
  | .nil, ss => ss.isEmpty
  | .cons s r, ss => match ss with
    | t :: ts => chkS Γ s t && chkB Γ r ts
    | [] => false
end
theorem sndF {cf : CF} {k : Nat} {Γ : Cs} : ∀ {x : Ex} {e : Expr}, chkE Γ x e = true → fB x = true → SndF Γ cf k x e
  | .lst as, e, h, hf => by
    simp only [chkE] at h
    split at h
    · exact sndF_of (ev_lstF (sndA as h)) fun _ _ _ _ => rfl
    · cases h
  | .lc it vs T t el, e, h, hf => by
    simp only [chkE] at h
    split at h
    · simp only [Bool.and_eq_true, decide_eq_true_eq, Bool.not_eq_true'] at h
      obtain ⟨⟨⟨⟨⟨⟨⟨⟨rfl, h1⟩, h2⟩, h3⟩, h4⟩, h5⟩, h6⟩, h7⟩, h8⟩ := h
      exact sndF_lc h1 (sndI it h5) h2 (sub_of h3) (fun X G => tgtT_pg h4 G) (sndT t h7) (sndE el h8).v (noSet h6)
    · cases h
  | .lc2 it vs T t it1 vs1 T1 t1 el, e, h, hf => by
    simp only [chkE] at h
    split at h
    · simp only [Bool.and_eq_true, decide_eq_true_eq, Bool.not_eq_true'] at h
      obtain ⟨⟨⟨⟨⟨⟨⟨⟨⟨⟨⟨⟨⟨⟨⟨rfl, rfl⟩, h1⟩, h2⟩, h3⟩, h4⟩, h5⟩, h6⟩, h7⟩, h8⟩, h9⟩, h10⟩, h11⟩, h12⟩, h13⟩, h14⟩ := h
      exact sndF_lc2 h1 (sndI it h8) h2 (sub_of h3) (fun X G => tgtT_pg h6 G) (sndT t h11) (sndI it1 h12) (sub_of h4) (sub_of h5) (fun X G => tgtT_pg h7 G) (sndT t1 h13) (sndE el h14).v (noSet h9) (noSet h10)
    · cases h
  | .bin op a b, e, h, hf => by
    have ho : op = .Add ∨ op = .Mult := by
      cases op <;> simp only [fB] at hf <;> first | exact .inl rfl | exact .inr rfl | cases hf
    simp only [chkE] at h
    split at h
    · simp only [Bool.and_eq_true, decide_eq_true_eq] at h
      obtain ⟨⟨rfl, h1⟩, h2⟩ := h
      exact sndF_of (ev_binF ho (sndE a h1).v (sndE b h2).v) fun _ _ _ _ => rfl
    · cases h
  | .prim p as, e, h, hf => by
    have hp : p = .list := by
      cases p <;> simp only [fB] at hf <;> first | rfl | cases hf
    subst hp
    simp only [chkE] at h
    split at h
    · simp only [Bool.and_eq_true, decide_eq_true_eq, Bool.not_eq_true'] at h
      obtain ⟨⟨⟨rfl, h1⟩, h2⟩, h4⟩ := h
      rename_i es _
      cases es with
      | nil => cases h2
      | cons y ys => exact sndF_of (ev_listF (gl_of h1) (sndA as h4)) fun _ _ _ _ => rfl
    · cases h
  | .var _, e, h, hf => by cases hf
  | .con _, e, h, hf => by cases hf
  | .cmp .., e, h, hf => by cases hf
  | .chain .., e, h, hf => by cases hf
  | .neg _, e, h, hf => by cases hf
  | .not _, e, h, hf => by cases hf
  | .and .., e, h, hf => by cases hf
  | .or .., e, h, hf => by cases hf
  | .ite .., e, h, hf => by cases hf
  | .idx .., e, h, hf => by cases hf
  | .slc .., e, h, hf => by cases hf
  | .rev _, e, h, hf => by cases hf
  | .tup _, e, h, hf => by cases hf
  | .call .., e, h, hf => by cases hf
  | .isi .., e, h, hf => by cases hf
  | .pool .., e, h, hf => by cases hf
  | .app .., e, h, hf => by cases hf
  | .ext .., e, h, hf => by cases hf
  | .pop _, e, h, hf => by cases hf
  | .popA .., e, h, hf => by cases hf
section
variable {Γ : Cs} {cf : CF} {k : Nat}
theorem swap_of {X : Cx} (G : Good Γ cf k X) (hk : Γ.sc.kind = .function) {ts vs : List Expr} {m m2 : Nat} {pt pt2 : Pos} {names : List Str} (h : swapB Γ ts vs = some names) : swappedStores [.Tuple ts m pt] (.Tuple vs m2 pt2) X.env = pure (some names) := by
  have hb : X.env.blockKind = .function := by
    unfold Env.blockKind
    rw [G.sc, hk]
    rfl
  have hko : ∀ x, X.env.kindOf x = Γ.sc.names.lookup x := fun x => by
    show X.env.scope.names.lookup x = _
    rw [G.sc]
  unfold swapB at h
  split at h
  · cases h
  · rename_i c1
    split at h
    · cases h
    · rename_i c2
      simp only at h
      split at h
      · cases h
      · rename_i c3
        split at h
        · cases h
        · rename_i c4
          split at h
          · cases h
          · rename_i c5
            cases h
            unfold swappedStores
            simp only [pure_bind, hb, hko, bne_self_eq_false, Bool.or_false]
            refine Eq.trans (if_neg (by first | exact c1 | simpa using c1)) ?_
            refine Eq.trans (if_neg c2) ?_
            refine Eq.trans (if_neg (by first | exact c3 | simpa using c3)) ?_
            refine Eq.trans (if_neg c4) ?_
            exact Eq.trans (if_neg c5) rfl
theorem noSwap {X : Cx} (G : Good Γ cf k X) {es : List Expr} {v : Expr} {m : Nat} {pt : Pos} (h : foldsB v = true) : swappedStores [.Tuple es m pt] v X.env = pure none := by
  cases v with
  | Tuple vs k2 p2 =>
    simp only [foldsB] at h
    unfold swappedStores
    simp only [pure_bind]
    split
    · rfl
    · split
      · rfl
      · split
        · rfl
        · first | rfl | (rw [if_pos h]; rfl)
  | _ => rfl
end
mutual
theorem sndS {cf : CF} {k : Nat} : ∀ (x : Sx) {Γ : Cs} {s : Stmt}, Γ.sc.kind = .function → chkS Γ x s = true → EvS Γ cf k s (sden x)
  | .pass, Γ, s, hk, h => by
    simp only [chkS] at h
    split at h
    · exact ev_pass
    · exact ev_doc
    · cases h
  | .asg i e, Γ, s, hk, h => by
    simp only [chkS] at h
    split at h
    · simp only [Bool.and_eq_true] at h
      obtain ⟨y, py, rfl, hl⟩ := locT_of h.1
      exact fun X G => asg_D ((sndE e h.2).a y py i _ hk hl X G)
    · cases h
  | .own i e, Γ, s, hk, h => by
    simp only [chkS] at h
    split at h
    · simp only [Bool.and_eq_true] at h
      obtain ⟨y, py, rfl, hl⟩ := locT_of h.1.1
      exact fun X G => asg_F ((sndF h.1.2 h.2).a y py i _ hk hl X G)
    · cases h
  | .unp is e, Γ, s, hk, h => by
    simp only [chkS] at h
    split at h
    · simp only [Bool.and_eq_true, Bool.not_eq_true'] at h
      exact ev_unp (sndE e h.1.1.2).v h.1.1.1 (fun X G => noLcS h.2 _ _ _) fun X G => noSwap G h.1.2
    · cases h
  | .par i j a b, Γ, s, hk, h => by
    simp only [chkS] at h
    split at h
    · simp only [Bool.and_eq_true, decide_eq_true_eq, Bool.not_eq_true'] at h
      obtain ⟨⟨⟨⟨⟨⟨⟨⟨⟨h1, h2⟩, h3⟩, h4⟩, h5⟩, h6⟩, h7⟩, h8⟩, h9⟩, h10⟩ := h
      obtain ⟨y1, p1, e1, l1⟩ := locT_of h1
      obtain ⟨y2, p2, e2, l2⟩ := locT_of h2
      cases e1
      cases e2
      exact ev_par l1 l2 h3 h4 h5 (sndE a h6).v (sndE b h7).v (noStar h8) (noStar h9) fun X G => swap_of G hk h10
    · cases h
  | .sub o i e, Γ, s, hk, h => by
    simp only [chkS] at h
    split at h
    · simp only [Bool.and_eq_true, Bool.not_eq_true'] at h
      obtain ⟨⟨⟨⟨h1, h2⟩, h3⟩, h4⟩, h5⟩ := h
      exact ev_sub (sndE o h1).v (sndE i h2).v (sndE e h3).v (plainIx h4) (fun env => noLcS h5 _ _ _) fun env v => by
        rename_i y _ _ _
        cases y <;> first | rfl | (simp only [ixB] at h4; cases h4)
    · cases h
  | .ret e, Γ, s, hk, h => by
    simp only [chkS] at h
    split at h
    · exact ev_ret (sndE e h).v
    · cases h
  | .retN, Γ, s, hk, h => by
    simp only [chkS] at h
    split at h
    · exact ev_retN
    · cases h
  | .iff c a b, Γ, s, hk, h => by
    simp only [chkS] at h
    split at h
    · simp only [Bool.and_eq_true] at h
      obtain ⟨⟨⟨h1, h2⟩, h3⟩, h4⟩ := h
      exact ev_if ((sndE c h1).t h2) (sndB a hk h3) (sndB b hk h4)
    · cases h
  | .for' it T b, Γ, s, hk, h => by
    simp only [chkS] at h
    split at h
    · simp only [Bool.and_eq_true, Bool.not_eq_true'] at h
      obtain ⟨⟨⟨h1, h2⟩, h3⟩, h4⟩ := h
      exact ev_for (sndI it h1) (fun X G => tgtT_pg h2 G) (sndB b hk h3) (noSet h4)
    · cases h
  | .wh c b, Γ, s, hk, h => by
    simp only [chkS] at h
    split at h
    · simp only [Bool.and_eq_true] at h
      obtain ⟨⟨h1, h2⟩, h3⟩ := h
      exact ev_while ((sndE c h1).t h2) (sndB b hk h3)
    · cases h
  | .exp e, Γ, s, hk, h => by
    simp only [chkS] at h
    split at h
    · simp only [Bool.and_eq_true, Bool.not_eq_true'] at h
      exact ev_exp (sndE e h.1).v fun env => noLc h.2 _ _ _
    · cases h
  | .brk, Γ, s, hk, h => by
    simp only [chkS] at h
    split at h
    · exact ev_brk
    · cases h
  | .cnt, Γ, s, hk, h => by
    simp only [chkS] at h
    split at h
    · exact ev_cnt
    · cases h
  | .aug i op e, Γ, s, hk, h => by
    simp only [chkS] at h
    split at h
    · simp only [Bool.and_eq_true, decide_eq_true_eq] at h
      obtain ⟨⟨rfl, h1⟩, h2⟩ := h
      obtain ⟨y, py, rfl, hl⟩ := locT_of h1
      exact ev_aug hl (sndE e h2).v
    · cases h
theorem sndB {cf : CF} {k : Nat} : ∀ (x : Sxs) {Γ : Cs} {ss : List Stmt}, Γ.sc.kind = .function → chkB Γ x ss = true → EvB Γ cf k ss (sdenB x)
  | .nil, Γ, ss, hk, h => by
    simp only [chkB, List.isEmpty_iff] at h
    subst h
    exact evb_nil
  | .cons s r, Γ, ss, hk, h => by
    simp only [chkB] at h
    split at h
    · simp only [Bool.and_eq_true] at h
      exact evb_cons (sndS s hk h.1) (sndB r hk h.2)
    · cases h
end
end L2.Ev
set_option Elab.async false
set_option linter.all false
set_option maxRecDepth 100000
set_option maxHeartbeats 4000000
namespace L2.Ev
open PySem PySem.Spec PyProof.Rows

/-! ### defs -/
structure Fn where
  n : Nat
  np : Nat
  body : Sxs
  keep : Bool := false
abbrev Tab := Str → Option Fn
def startE (n : Nat) (ws : List Wv) : En := ws.map some ++ List.replicate (n - ws.length) none
def outW (L : Nat) (st : Sto) : Wv → Option Wv
  | .val d => some (.val d)
  | .cel n => if n < L then some (.cel n) else (st[n]?).map fun c => .val (.lst c.items)
  | .pool xs n => if n < L then some (.pool xs n) else none
  | .scr ns => some (.scr ns)
def endF (keep : Bool) (L : Nat) (p : Fl × Sto) : Option (Wv × Sto) := match p.1 with
  | .nx _ => some (.val .non, if keep then p.2 else p.2.take L)
  | .rt w => if keep then some (w, p.2) else (outW L p.2 w).map fun w => (w, p.2.take L)
  | _ => none
def callF (f : Fn) (cf : CF) (ws : List Wv) (st : Sto) : Option (Wv × Sto) := if ws.length = f.np then (sdenB f.body cf (startE f.n ws) st).bind (endF f.keep st.length) else none
def callT (R : Tab) : Nat → CF
  | 0 => fun _ _ _ => none
  | k + 1 => fun f ws st => (R f).bind fun r => callF r (callT R k) ws st

/-! ### at the end of a def -/
section
variable {K : PySem.W.Frag} {Z ρ ρ1 ρ2 : List Addr} {st st1 st2 : Sto} {H H' : Hp}
mutual
theorem Rep.less (h : ∀ a, LiveA ρ2 st2 a → LiveA ρ1 st1 a) : ∀ (d : D) (v : V), Rep K Z ρ1 st1 H d v → Rep K Z ρ2 st2 H d v
  | .non, v, r => by simpa only [Rep] using r
  | .bl b, v, r => by simpa only [Rep] using r
  | .int i, v, r => by simpa only [Rep] using r
  | .str x, v, r => by simpa only [Rep] using r
  | .tup ds, v, r => by
    simp only [Rep] at r ⊢
    obtain ⟨a, vs, h1, h2, h3, h4⟩ := r
    exact ⟨a, vs, h1, h2, Reps.less h ds vs h3, h4⟩
  | .lst ds, v, r => by
    simp only [Rep] at r ⊢
    obtain ⟨a, vs, h1, h2, h3, h4, h5, h6⟩ := r
    exact ⟨a, vs, h1, h2, h3, fun l => h4 (h a l), Reps.less h ds vs h5, h6⟩
theorem Reps.less (h : ∀ a, LiveA ρ2 st2 a → LiveA ρ1 st1 a) : ∀ (ds : List D) (vs : List V), Reps K Z ρ1 st1 H ds vs → Reps K Z ρ2 st2 H ds vs
  | [], vs, r => by simpa only [Reps] using r
  | x :: xs, vs, r => by
    simp only [Reps] at r ⊢
    obtain ⟨v, t, h1, h2, h3⟩ := r
    exact ⟨v, t, h1, Rep.less h x v h2, Reps.less h xs t h3⟩
end
theorem live_take {L : Nat} {a : Addr} (h : LiveA (ρ1.take L) (st1.take L) a) : LiveA ρ1 st1 a ∧ ∃ n, n < L ∧ ρ1[n]? = some a := by
  obtain ⟨n, xs, h1, h2⟩ := h
  rw [List.getElem?_take] at h1 h2
  by_cases hn : n < L
  · rw [if_pos hn] at h1 h2
    exact ⟨⟨n, xs, h1, h2⟩, n, hn, h1⟩
  · rw [if_neg hn] at h1
    cases h1
theorem SRep.trunc (L : Nat) (S : SRep K Z ρ1 st1 H) : SRep K Z (ρ1.take L) (st1.take L) H := by
  refine ⟨by rw [List.length_take, List.length_take, S.len], S.nd.sublist (List.take_sublist _ _), S.zd, fun n a c h1 h2 => ?_⟩
  rw [List.getElem?_take] at h1 h2
  by_cases hn : n < L
  · rw [if_pos hn] at h1 h2
    obtain ⟨vs, k1, k2, k3, k4⟩ := S.cell n a c h1 h2
    exact ⟨vs, k1, k2, Reps.less (fun _ l => (live_take l).1) _ _ k3, k4⟩
  · rw [if_neg hn] at h1
    cases h1
theorem Ext.trunc {L : Nat} (hL : ρ.length = L) (E : Ext ρ st H ρ1 st1 H') : Ext ρ st H (ρ1.take L) (st1.take L) H' := by
  obtain ⟨r, e⟩ := E.pre
  refine ⟨⟨[], ?_⟩, E.keep, E.dom, fun a o h l => E.live a o h (live_take l).1⟩
  rw [e, ← hL, List.take_append_of_le_length (Nat.le_refl _), List.take_of_length_le (Nat.le_refl _), List.append_nil]
theorem out_rep {L : Nat} {w w' : Wv} {v : V} (S : SRep K Z ρ1 st1 H) (r : WRep K Z ρ1 st1 H w v) (e : outW L st1 w = some w') : WRep K Z (ρ1.take L) (st1.take L) H w' v := by
  cases w with
  | val d =>
    cases e
    exact Rep.less (fun _ l => (live_take l).1) d v r
  | cel n =>
    obtain ⟨a, h1, rfl⟩ := r
    simp only [outW] at e
    split at e
    · rename_i hn
      cases e
      exact ⟨a, by rw [List.getElem?_take, if_pos hn]; exact h1, rfl⟩
    · rename_i hn
      obtain ⟨c, hc, rfl⟩ := Option.map_eq_some_iff.mp e
      obtain ⟨vs, k1, k2, k3, k4⟩ := S.cell n a c h1 hc
      show Rep K Z (ρ1.take L) (st1.take L) H (.lst c.items) (.ref a)
      simp only [Rep]
      refine ⟨a, vs, rfl, k1, k2, fun l => ?_, Reps.less (fun _ l => (live_take l).1) _ _ k3, k4⟩
      obtain ⟨_, m, hm, h2⟩ := live_take l
      obtain ⟨g1, e1⟩ := List.getElem?_eq_some_iff.mp h1
      obtain ⟨g2, e2⟩ := List.getElem?_eq_some_iff.mp h2
      have := (List.getElem_inj S.nd).mp (e1.trans e2.symm)
      omega
  | pool xs n =>
    simp only [outW] at e
    split at e
    · rename_i hn
      cases e
      obtain ⟨a, b, c, vs, h1, h2, h3, h4, h5, h6, h7⟩ := r
      exact ⟨a, b, c, vs, h1, h2, ⟨h3.1, fun l => h3.2 (live_take l).1⟩, h4, ⟨h5.1, fun l => h5.2 (live_take l).1⟩, ⟨Reps.less (fun _ l => (live_take l).1) _ _ h6.1, h6.2⟩, by rw [List.getElem?_take, if_pos hn]; exact h7⟩
    · cases e
  | scr ns =>
    cases e
    exact r
theorem fin_body {f : Fl} {st' : Sto} {keep : Bool} {w : Wv} {st'' : Sto} {Q : VK} (S0 : SRep K Z ρ st H) (e : endF keep st.length (f, st') = some (w, st'')) (q : Fin K Z ρ st H w st'' Q) : FlEnd K Z ρ st H f st' { nx := fun _ H' => Q .non H', rt := Q } := by
  cases f with
  | nx env =>
    intro σ' H' ρ' X S E
    show Q .non H'
    simp only [endF] at e
    cases keep with
    | true =>
      cases e
      exact q _ _ ρ' X S (by simp only [WRep, Rep])
    | false =>
      cases e
      exact q _ _ (ρ'.take st.length) (X.trunc S0.len) (S.trunc _) (by simp only [WRep, Rep])
  | rt w0 =>
    intro v H' ρ' X S r
    show Q v H'
    simp only [endF] at e
    cases keep with
    | true =>
      cases e
      exact q _ _ ρ' X S r
    | false =>
      obtain ⟨w1, e1, e2⟩ := Option.map_eq_some_iff.mp e
      cases e2
      exact q _ _ (ρ'.take st.length) (X.trunc S0.len) (S.trunc _) (out_rep S r e1)
  | bk env => cases e
  | ct env => cases e
end
theorem start_rep {K : PySem.W.Frag} {Z ρ : List Addr} {st : Sto} {H : Hp} (N : List Str) : ∀ {ws : List Wv} {vs : List V}, WReps K Z ρ st H ws vs → ERep K Z ρ st H (startE N.length ws) (start N vs) := fun {ws vs} h => by
  have hl := h.length
  refine ⟨by unfold startE start; simp [hl], fun i w hw => ?_⟩
  have at_ : ∀ {ws : List Wv} {vs : List V}, WReps K Z ρ st H ws vs → ∀ {i : Nat} {w : Wv}, ws[i]? = some w → ∃ v, vs[i]? = some v ∧ WRep K Z ρ st H w v := by
    intro ws
    induction ws with
    | nil => intro vs h i w e; simp at e
    | cons a r ih =>
      intro vs h i w e
      simp only [WReps] at h
      obtain ⟨v, t, rfl, h1, h2⟩ := h
      cases i with
      | zero =>
        cases e
        exact ⟨v, rfl, h1⟩
      | succ i => exact ih h2 (by simpa using e)
  unfold startE at hw
  by_cases hi : i < ws.length
  · rw [List.getElem?_append_left (by simpa using hi), List.getElem?_map] at hw
    obtain ⟨w', e1, e2⟩ := Option.map_eq_some_iff.mp hw
    cases e2
    obtain ⟨v, e3, r⟩ := at_ h e1
    refine ⟨v, ?_, r⟩
    unfold start
    rw [List.getElem?_append_left (by simpa [hl] using hi), List.getElem?_map, e3]
    rfl
  · rw [List.getElem?_append_right (by simpa using hi)] at hw
    have := List.mem_of_getElem? hw
    simp at this

/-! ### the program's defs -/
def scB (N P : List Str) (sc : Scope) : Bool :=
  decide (sc.kind = .function) && (!sc.isCoroutine) && (!sc.isGenerator) && decide N.Nodup && decide (N.take P.length = P) && P.all (fun x => decide (sc.names.lookup x = some .local) || decide (sc.names.lookup x = some .cell)) && sc.names.all (fun y => !decide (y.2 = .free))
theorem scB_of {N P : List Str} {sc : Scope} (h : scB N P sc = true) : FnScope N P sc := by
  simp only [scB, Bool.and_eq_true, Bool.not_eq_true', decide_eq_true_eq, List.all_eq_true, Bool.or_eq_true, decide_eq_false_iff_not] at h
  obtain ⟨⟨⟨⟨⟨⟨h1, h2⟩, h3⟩, h4⟩, h5⟩, h6⟩, h7⟩ := h
  exact ⟨h1, h2, h3, h4, h5, h6, h7⟩
structure Rw where
  d : He.DefD
  N : List Str
  ps : List Str
  body : Sxs
  keep : Bool := false
def Rw.fn (r : Rw) : Fn := ⟨r.N.length, r.ps.length, r.body, r.keep⟩
def rowOf (rows : List Rw) (x : Str) : Option Rw := rows.find? fun r => decide (r.d.name = x)
def tabOf (rows : List Rw) : Tab := fun x => (rowOf rows x).map Rw.fn
def arOf (rows : List Rw) : List (Str × Nat) := rows.map fun r => (r.d.name, r.ps.length)
def csOf (rows : List Rw) (G : List (Str × D)) (r : Rw) : Cs := { N := r.N, sc := r.d.scope, T := arOf rows, G := G }
def chkRow (rows : List Rw) (G : List (Str × D)) (r : Rw) : Bool := scB r.N r.ps r.d.scope && decide (r.d.at_ = (r.d.name, none)) && r.d.dfl.isEmpty && r.d.kwd.isEmpty && chkB (csOf rows G r) r.body r.d.body
def RowB (r : Rw) : Prop := ∀ (kV doc pm : Value) (an : Option Addr) (cdv ct : Value) (us : List Value), us.length = r.ps.length → bindArgs (PySem.W.fnOf r.d.name r.d.qual r.d.params r.d.body r.d.scope .none kV doc pm an cdv ct) ⟨us, []⟩ = pure (r.ps.zip us)
structure World1 (K : PySem.W.Frag) (mg : Str → Option Value) (rows : List Rw) (G : List (Str × D)) : Prop where
  fn : ∀ r ∈ rows, ∃ fd, FunD K r.d.name r.d.qual r.d.params r.d.body r.d.scope [] [] (He.ga K r.d.name) fd
  mgf : ∀ r ∈ rows, mg r.d.name = some (.ref (He.ga K r.d.name))
  blt : ∀ x ∈ bltNames, mg x = none
  glo : ∀ x d, G.lookup x = some d → ∃ u v, mg x = some u ∧ RelV v u ∧ ∀ Z ρ st H, Rep K Z ρ st H d v
theorem ar_row {rows : List Rw} {f : Str} {n : Nat} (h : (arOf rows).lookup f = some n) : ∃ r, rowOf rows f = some r ∧ r.ps.length = n := by
  induction rows with
  | nil => cases h
  | cons r rs ih =>
    unfold arOf at h
    rw [List.map_cons, List.lookup_cons] at h
    unfold rowOf
    rw [List.find?_cons]
    cases hb : f == r.d.name with
    | true =>
      rw [hb] at h
      cases h
      refine ⟨r, ?_, rfl⟩
      rw [show decide (r.d.name = f) = true from decide_eq_true (eq_of_beq hb).symm]
    | false =>
      rw [hb] at h
      rw [show decide (r.d.name = f) = false from decide_eq_false fun e => by rw [e] at hb; simp at hb]
      exact ih h
section
variable {P : Program} {w : World} {K : PySem.W.Frag} {mg : Str → Option Value} {base : Heap} {rows : List Rw} {G : List (Str × D)}
theorem row_at {x : Str} {r : Rw} (h : rowOf rows x = some r) : r ∈ rows ∧ r.d.name = x :=
  ⟨List.mem_of_find?_eq_some h, by have := List.find?_some h; simpa using this⟩
theorem all_ok (W : World1 K mg rows G) (C : ∀ r ∈ rows, chkRow rows G r = true) (B : ∀ r ∈ rows, RowB r) : ∀ (k : Nat) (x : Str) (r : Rw), rowOf rows x = some r → ∀ fd, FunD K r.d.name r.d.qual r.d.params r.d.body r.d.scope [] [] (He.ga K r.d.name) fd →
    FnOk P w K mg base CX0 k (He.ga K r.d.name) fd r.ps (spD K (callT (tabOf rows) k) r.ps.length x)
  | 0, x, r, hr, fd, F => ⟨fun vs H Q E h => h.1, fun A outer s H args us vs Q E _ _ _ _ h => by
      obtain ⟨_, Z, ρ, st, ws, w, st', S, R, e, q⟩ := h
      cases e⟩
  | k + 1, x, r, hr, fd, F => by
    obtain ⟨hm, hx⟩ := row_at hr
    have c := C r hm
    unfold chkRow at c
    simp only [Bool.and_eq_true, decide_eq_true_eq] at c
    obtain ⟨⟨⟨⟨c1, c2⟩, c3⟩, c4⟩, c5⟩ := c
    have SC := scB_of c1
    refine FunD.ok F SC (fun vs H Q E h => h.1) fun cdv A outer s H vs Q E hroom h => ?_
    obtain ⟨hl, Z, ρ, st, ws, w', st', S, R, e, q⟩ := h
    have GD : Good (csOf rows G r) (callT (tabOf rows) k) k (cxOf CX0 P w K mg base r.N r.d.qual r.d.scope (He.ga K r.d.name) cdv A outer s H E).nox := {
      names := rfl
      nd := SC.nd
      calm := rfl
      xe := rfl
      room := hroom
      sc := rfl
      fn := fun x _ => rfl
      blt := W.blt
      tab := fun f n hf => by
        obtain ⟨r2, h2, hn⟩ := ar_row hf
        obtain ⟨hm2, hx2⟩ := row_at h2
        obtain ⟨fd2, F2⟩ := W.fn r2 hm2
        refine ⟨He.ga K r2.d.name, fd2, r2.ps, hn, ?_, F2.kp, ?_, F2.bindsN (B r2 hm2)⟩
        · rw [← hx2]
          exact W.mgf r2 hm2
        · have := all_ok W C B k f r2 h2 fd2 F2
          rw [hn] at this
          exact this
      glo := W.glo }
    refine ⟨_, PSs.nox ((sndB r.body SC.kind c5) _ GD), ?_⟩
    have e' : (tabOf rows x).bind (fun r => callF r (callT (tabOf rows) k) ws st) = some (w', st') := e
    rw [show tabOf rows x = some r.fn by unfold tabOf; rw [hr]; rfl] at e'
    have e2 : callF r.fn (callT (tabOf rows) k) ws st = some (w', st') := e'
    unfold callF at e2
    split at e2
    · obtain ⟨⟨f, st1⟩, e3, e4⟩ := Option.bind_eq_some_iff.mp e2
      exact ⟨Z, ρ, st, startE r.N.length ws, f, st1, S, start_rep r.N R, e3, fin_body S e4 q⟩
    · cases e2
/-- the law's def keeps its promise -/
theorem law_sp {n : Nat} {cf : CF} (h : ∀ ns : List Int, ns.length ≤ n → ∃ st', cf "law" [.scr ns] [] = some (.val (.bl true), st')) {H : Hp} {a : Addr} {ns : List Int} (hl : ns.length ≤ n) (hO : Only H) (hS : SqL K H a (ns.map V.int)) :
    spD K cf 1 "law" [.ref a] H (fun v _ => v = .bl true) fun _ _ _ => False := by
  obtain ⟨st', e⟩ := h ns hl
  refine ⟨rfl, [], [], [], [.scr ns], .val (.bl true), st', ⟨rfl, List.nodup_nil, fun z hz => (by cases hz), fun n a c h1 => (by simp at h1)⟩, ?_, e, fun v H' ρ' _ _ r => ?_⟩
  · simp only [WReps]
    refine ⟨.ref a, [], rfl, ⟨a, rfl, ?_⟩, rfl⟩
    rcases hS with (hS | ⟨o, hS⟩) | ⟨o, its, m, h1, h2, h3, h4, h5, h6⟩
    · rcases hO a with e | ⟨o, xs, e⟩
      · rw [e] at hS; cases hS
      · rw [e] at hS; cases hS
    · exact .inl ⟨o, hS⟩
    · exact .inr ⟨o, its, m, h1, h2, h3, h4, h5, h6⟩
  · have r' : Rep K [] ρ' st' H' (.bl true) v := r
    simpa only [Rep] using r'
end
end L2.Ev
set_option Elab.async false
set_option linter.all false
set_option maxRecDepth 100000
set_option maxHeartbeats 4000000
namespace L2.Ev
open PySem PySem.Spec PyProof.Rows

/-! ### what the top leaves -/
def faOf (rows : List Rw) (gi : List (Str × Int)) : List He.Fa := rows.map (fun r => .glo r.d.name) ++ (bltNames.map .free ++ gi.map fun p => .int p.1 p.2)
def giD (gi : List (Str × Int)) : List (Str × D) := gi.map fun p => (p.1, .int p.2)
theorem look_map {gi : List (Str × Int)} {x : Str} {d : D} (h : (giD gi).lookup x = some d) : ∃ i, (x, i) ∈ gi ∧ d = .int i := by
  induction gi with
  | nil => cases h
  | cons p r ih =>
    unfold giD at h
    rw [List.map_cons, List.lookup_cons] at h
    cases hb : x == p.1 with
    | true =>
      rw [hb] at h
      cases h
      refine ⟨p.2, ?_, rfl⟩
      rw [eq_of_beq hb]
      exact List.mem_cons_self
    | false =>
      rw [hb] at h
      obtain ⟨i, h1, h2⟩ := ih h
      exact ⟨i, List.mem_cons_of_mem _ h1, h2⟩
theorem world1 {K : PySem.W.Frag} {h : Heap} {mg : Str → Option Value} {rows : List Rw} {gi : List (Str × Int)} (X : K.In h) (G : h.Ns mainGlobals mg) (C : ∀ r ∈ rows, chkRow rows (giD gi) r = true) (c : He.SaysD (faOf rows gi) (rows.map (·.d)) K) : World1 K mg rows (giD gi) where
  fn := fun r hr => by
    have c1 := C r hr
    unfold chkRow at c1
    simp only [Bool.and_eq_true, decide_eq_true_eq, List.isEmpty_iff] at c1
    obtain ⟨⟨⟨⟨_, c2⟩, c3⟩, c4⟩, _⟩ := c1
    obtain ⟨fd, F⟩ := He.SaysD.defs c (d := r.d) (List.mem_map.mpr ⟨r, hr, rfl⟩)
    refine ⟨fd, ?_⟩
    have e1 : r.d.dvs K = [] := by unfold He.DefD.dvs; rw [c3]; rfl
    have e2 : r.d.kws K = [] := by unfold He.DefD.kws; rw [c4]; rfl
    have e3 : He.fAd K r.d.at_ = He.ga K r.d.name := by rw [c2]; rfl
    rw [e1, e2, e3] at F
    exact F
  mgf := fun r hr => He.glo_ok X G (He.SaysD.facts c (f := .glo r.d.name) (List.mem_append_left _ (List.mem_map.mpr ⟨r, hr, rfl⟩)))
  blt := fun x hx => He.free_ok X G (He.SaysD.facts c (f := .free x) (List.mem_append_right _ (List.mem_append_left _ (List.mem_map.mpr ⟨x, hx, rfl⟩))))
  glo := fun x d hd => by
    obtain ⟨i, hi, rfl⟩ := look_map hd
    obtain ⟨t, ht⟩ := He.int_ok X G (He.SaysD.facts c (f := .int x i) (List.mem_append_right _ (List.mem_append_right _ (List.mem_map.mpr ⟨(x, i), hi, rfl⟩))))
    exact ⟨_, .int i, ht, ⟨t, rfl⟩, fun _ _ _ _ => Rep.int⟩
/-- the law's promise, of the evaluator's answer -/
theorem law_fn {P : Program} {w : World} {K : PySem.W.Frag} {h : Heap} {mg : Str → Option Value} {rows : List Rw} {gi : List (Str × Int)} {k : Nat} {fa : Addr} {r : Rw} (X : K.In h) (G : h.Ns mainGlobals mg) (C : ∀ r ∈ rows, chkRow rows (giD gi) r = true) (B : ∀ r ∈ rows, RowB r) (c : He.SaysD (faOf rows gi) (rows.map (·.d)) K)
    (hr : rowOf rows "law" = some r) (hp : r.ps = [("script" : Str)]) (hmg : mg "law" = some (.ref fa)) :
    ∃ fd : FuncData, (∀ (s : Shared) (u : Value), BindsTo s fd ⟨[u], []⟩ [("script", u)]) ∧ ∀ base : Heap, K.In base → base.Ns mainGlobals mg → FnOk P w K mg base CX0 k fa fd ["script"] (spD K (callT (tabOf rows) k) 1 "law") := by
  have W := world1 X G C c
  obtain ⟨hm, hx⟩ := row_at hr
  obtain ⟨fd, F⟩ := W.fn r hm
  have e : He.ga K r.d.name = fa := by
    have e := W.mgf r hm
    rw [hx, hmg] at e
    injection e with e
    injection e with e
    rw [hx]; exact e.symm
  subst e
  refine ⟨fd, fun s v => ?_, fun base _ _ => ?_⟩
  · have b := FunD.bindsA F (B r hm) s [v] (by rw [hp]; rfl)
    rw [hp] at b
    exact b
  · have := all_ok (P := P) (w := w) (base := base) W C B k "law" r hr fd F
    rw [hp] at this
    exact this
end L2.Ev
set_option Elab.async false
set_option linter.all false
set_option maxRecDepth 100000
set_option maxHeartbeats 4000000
namespace L2.Ev
open PySem PySem.Spec PyProof.Rows

/-! ### plain words about the evaluator -/
theorem call_eq {R : Tab} {k : Nat} {f : Str} {r : Fn} {ws : List Wv} {st : Sto} (h : R f = some r) : callT R (k + 1) f ws st = callF r (callT R k) ws st := by
  show (R f).bind _ = _
  rw [h]
  rfl
/-- what a def gives, when it leaves the store as it found it -/
theorem call_ret {R : Tab} {k : Nat} {f : Str} {r : Fn} {ws : List Wv} {st : Sto} {d : D} (h : R f = some r) (hk : r.keep = false) (hl : ws.length = r.np) (hb : sdenB r.body (callT R k) (startE r.n ws) st = some (.rt (.val d), st)) : callT R (k + 1) f ws st = some (.val d, st) := by
  rw [call_eq h]
  unfold callF
  rw [if_pos hl, hb]
  simp only [Option.bind_some, endF, hk, outW, List.take_length, Bool.false_eq_true, if_false, Option.map_some]
/-- .. when it wrote the cells that were there, or made new ones -/
theorem call_sto {R : Tab} {k : Nat} {f : Str} {r : Fn} {ws : List Wv} {st st1 g : Sto} {d : D} (h : R f = some r) (hk : r.keep = false) (hl : ws.length = r.np) (hs : st1.length = st.length) (hb : sdenB r.body (callT R k) (startE r.n ws) st = some (.rt (.val d), st1 ++ g)) : callT R (k + 1) f ws st = some (.val d, st1) := by
  rw [call_eq h]
  unfold callF
  rw [if_pos hl, hb]
  simp only [Option.bind_some, endF, hk, outW, Bool.false_eq_true, if_false, Option.map_some]
  rw [List.take_append_of_le_length (by omega), ← hs, List.take_length]
/-- .. when it gives its own list -/
theorem call_cel {R : Tab} {k : Nat} {f : Str} {r : Fn} {ws : List Wv} {st st1 g : Sto} {n : Nat} {c : Cel} (h : R f = some r) (hk : r.keep = false) (hl : ws.length = r.np) (hs : st1.length = st.length) (hn : st.length ≤ n) (hc : (st1 ++ g)[n]? = some c) (hb : sdenB r.body (callT R k) (startE r.n ws) st = some (.rt (.cel n), st1 ++ g)) : callT R (k + 1) f ws st = some (.val (.lst c.items), st1) := by
  rw [call_eq h]
  unfold callF
  rw [if_pos hl, hb]
  simp only [Option.bind_some, endF, hk, outW, Bool.false_eq_true, if_false, Option.map_some]
  rw [if_neg (by omega), hc]
  simp only [Option.map_some]
  rw [List.take_append_of_le_length (by omega), ← hs, List.take_length]
theorem getL_last {st : Sto} {xs : List D} : getL st.length (st ++ [.live xs]) = some xs := by
  unfold getL
  rw [List.getElem?_append_right (Nat.le_refl _), Nat.sub_self]
  rfl
theorem putL_last {st : Sto} {xs ys : List D} : putL st.length ys (st ++ [.live xs]) = st ++ [.live ys] := by
  unfold putL
  rw [List.set_append_right _ _ (Nat.le_refl _), Nat.sub_self]
  rfl
theorem get_last {st : Sto} {c : Cel} : (st ++ [c])[st.length]? = some c := by
  rw [List.getElem?_append_right (Nat.le_refl _), Nat.sub_self]
  rfl
/-! step by step -/
theorem run_nx {s : Sx} {r : Sxs} {cf : CF} {env env' : En} {st st' : Sto} (h : sden s cf env st = some (.nx env', st')) : sdenB (.cons s r) cf env st = sdenB r cf env' st' := by
  simp only [sdenB, sSeq, h, Option.bind_some]
theorem run_rt {s : Sx} {r : Sxs} {cf : CF} {env : En} {st st' : Sto} {w : Wv} (h : sden s cf env st = some (.rt w, st')) : sdenB (.cons s r) cf env st = some (.rt w, st') := by
  simp only [sdenB, sSeq, h, Option.bind_some]
theorem run_nil {cf : CF} {env : En} {st : Sto} : sdenB .nil cf env st = some (.nx env, st) := rfl
theorem run_t {c : Ex} {a b : Sxs} {cf : CF} {env : En} {st st1 : Sto} {w : Wv} (h : den c cf env st = some (w, st1)) (ht : truth w st1 = some true) : sden (.iff c a b) cf env st = sdenB a cf env st1 := by
  simp only [sden, sIf, h, Option.bind_some, ht, if_true]
theorem run_f {c : Ex} {a b : Sxs} {cf : CF} {env : En} {st st1 : Sto} {w : Wv} (h : den c cf env st = some (w, st1)) (ht : truth w st1 = some false) : sden (.iff c a b) cf env st = sdenB b cf env st1 := by
  simp only [sden, sIf, h, Option.bind_some, ht, Bool.false_eq_true, if_false]
theorem run_asg {i : Nat} {e : Ex} {cf : CF} {env : En} {st st1 : Sto} {w : Wv} (h : den e cf env st = some (w, st1)) : sden (.asg i e) cf env st = some (.nx (env.set i (some w)), st1) := by
  simp only [sden, sAsg, h, Option.map_some]
theorem run_own {i : Nat} {e : Ex} {cf : CF} {env : En} {st st1 : Sto} {ds : List D} (h : den e cf env st = some (.val (.lst ds), st1)) : sden (.own i e) cf env st = some (.nx (env.set i (some (.cel st1.length))), st1 ++ [.live ds]) := by
  simp only [sden, sOwn, h, Option.bind_some, lstW, Option.map_some]
theorem run_exp {e : Ex} {cf : CF} {env : En} {st st1 : Sto} {w : Wv} (h : den e cf env st = some (w, st1)) : sden (.exp e) cf env st = some (.nx env, st1) := by
  simp only [sden, sExp, h, Option.map_some]
theorem run_ret {e : Ex} {cf : CF} {env : En} {st st1 : Sto} {w : Wv} (h : den e cf env st = some (w, st1)) : sden (.ret e) cf env st = some (.rt w, st1) := by
  simp only [sden, sRet, h, Option.map_some]
theorem run_for {it : Exi} {T : Tg} {b : Sxs} {cf : CF} {env : En} {st st1 : Sto} {xs : List D} (h : denI it cf env st = some (.items xs, st1)) : sden (.for' it T b) cf env st = forL (bodyF T (sdenB b) cf) xs env st1 := by
  simp only [sden, sFor, h, Option.bind_some, forI]
theorem rng1 {nn : Int} {n : Nat} (h : nn = n) (hn : n ≤ 16777216) : rngW [.val (.int nn)] = some (.items (rgD 0 n)) := by
  have e : rgOk 0 nn = true := by
    unfold rgOk
    rw [sm_iff.mpr (show (0 : Int).natAbs < 4611686018427387904 by decide), sm_iff.mpr (show nn.natAbs < 4611686018427387904 by omega), Nat.ble_eq_true_of_le (show (nn - 0).toNat ≤ 16777216 by omega)]
    rfl
  have e2 : nn.toNat = n := by omega
  simp only [rngW, e, if_true, e2]
/-! expression by expression -/
section
variable {cf : CF} {env : En} {st st1 st2 st3 : Sto} {a b c : Ex} {as : Exs} {d d1 d2 d3 : D} {w w1 w2 : Wv} {ws : List Wv}
theorem den_var {i : Nat} (h : env[i]? = some (some w)) : den (.var i) cf env st = some (w, st) := by
  simp only [den, dVar, h, Option.bind_some, id, Option.map_some]
theorem den_con : den (.con d) cf env st = some (.val d, st) := rfl
theorem den_bin {op : Operator} (h1 : den a cf env st = some (.val d1, st1)) (h2 : den b cf env st1 = some (.val d2, st2)) (h3 : binD op d1 d2 = some d) : den (.bin op a b) cf env st = some (.val d, st2) := by
  simp only [den, dBin, h1, h2, Option.bind_some, peek, h3, Option.map_some]
theorem den_cmp {op : CmpOp} (h1 : den a cf env st = some (.val d1, st1)) (h2 : den b cf env st1 = some (.val d2, st2)) (h3 : cmpD op d1 d2 = some d) : den (.cmp op a b) cf env st = some (.val d, st2) := by
  simp only [den, dCmp, h1, h2, Option.bind_some, peek, h3, Option.map_some]
theorem den_idx (h1 : den a cf env st = some (.val d1, st1)) (h2 : den b cf env st1 = some (.val d2, st2)) (h3 : idxD d1 d2 = some d) : den (.idx a b) cf env st = some (.val d, st2) := by
  simp only [den, dIdx, h1, h2, Option.bind_some, idxW, peek, h3, Option.map_some]
theorem den_not {t : Bool} (h1 : den a cf env st = some (w, st1)) (h2 : truth w st1 = some t) : den (.not a) cf env st = some (.val (.bl (!t)), st1) := by
  simp only [den, dNot, h1, Option.bind_some, h2, Option.map_some]
theorem den_and_t (h1 : den a cf env st = some (w, st1)) (h2 : truth w st1 = some true) : den (.and a b) cf env st = den b cf env st1 := by
  simp only [den, dAnd, h1, Option.bind_some, h2, if_true]
theorem den_and_f (h1 : den a cf env st = some (w, st1)) (h2 : truth w st1 = some false) : den (.and a b) cf env st = some (w, st1) := by
  simp only [den, dAnd, h1, Option.bind_some, h2, if_false, Bool.false_eq_true]
theorem den_or_t (h1 : den a cf env st = some (w, st1)) (h2 : truth w st1 = some true) : den (.or a b) cf env st = some (w, st1) := by
  simp only [den, dOr, h1, Option.bind_some, h2, if_true]
theorem den_or_f (h1 : den a cf env st = some (w, st1)) (h2 : truth w st1 = some false) : den (.or a b) cf env st = den b cf env st1 := by
  simp only [den, dOr, h1, Option.bind_some, h2, if_false, Bool.false_eq_true]
theorem denL_nil : denL .nil cf env st = some ([], st) := rfl
theorem denL_cons {r : Exs} (h1 : den a cf env st = some (w, st1)) (h2 : denL r cf env st1 = some (ws, st2)) : denL (.cons a r) cf env st = some (w :: ws, st2) := by
  simp only [denL, dCons, h1, h2, Option.bind_some, Option.map_some]
theorem denL1 (h1 : den a cf env st = some (w, st1)) : denL (.cons a .nil) cf env st = some ([w], st1) := denL_cons h1 rfl
theorem denL2 (h1 : den a cf env st = some (w, st1)) (h2 : den b cf env st1 = some (w1, st2)) : denL (.cons a (.cons b .nil)) cf env st = some ([w, w1], st2) := denL_cons h1 (denL1 h2)
theorem denL3 (h1 : den a cf env st = some (w, st1)) (h2 : den b cf env st1 = some (w1, st2)) (h3 : den c cf env st2 = some (w2, st3)) : denL (.cons a (.cons b (.cons c .nil))) cf env st = some ([w, w1, w2], st3) := denL_cons h1 (denL2 h2 h3)
theorem den_call {f : Str} {r : Option (Wv × Sto)} (h1 : denL as cf env st = some (ws, st1)) (h2 : cf f ws st1 = r) : den (.call f as) cf env st = r := by
  simp only [den, dCall, h1, Option.bind_some, h2]
theorem den_prim1 {p : Prim} (h1 : den a cf env st = some (.val d, st1)) (h2 : primD p [d] = some d1) : den (.prim p (.cons a .nil)) cf env st = some (.val d1, st1) := by
  have e : primW p [.val d] st1 = some (.val d1) := by
    unfold primW
    split
    · rename_i h; cases h
    · simp only [peeks, peek, Option.bind_some, Option.map_some, h2]
  simp only [den, dPrim, denL1 h1, Option.bind_some, e, Option.map_some]
theorem den_prim2 {p : Prim} (h1 : den a cf env st = some (.val d, st1)) (h2 : den b cf env st1 = some (.val d1, st2)) (h3 : primD p [d, d1] = some d2) : den (.prim p (.cons a (.cons b .nil))) cf env st = some (.val d2, st2) := by
  have e : primW p [.val d, .val d1] st2 = some (.val d2) := by
    unfold primW
    split
    · rename_i h; cases h
    · simp only [peeks, peek, Option.bind_some, Option.map_some, h3]
  simp only [den, dPrim, denL2 h1 h2, Option.bind_some, e, Option.map_some]
theorem den_tup1 (h1 : den a cf env st = some (.val d, st1)) : den (.tup (.cons a .nil)) cf env st = some (.val (.tup [d]), st1) := by
  simp only [den, dTup, denL1 h1, Option.bind_some, frozs, froz, Option.map_some]
  rfl
theorem den_tup2 (h1 : den a cf env st = some (.val d, st1)) (h2 : den b cf env st1 = some (.val d1, st2)) : den (.tup (.cons a (.cons b .nil))) cf env st = some (.val (.tup [d, d1]), st2) := by
  simp only [den, dTup, denL2 h1 h2, Option.bind_some, frozs, froz, Option.map_some]
  rfl
theorem den_tup3 (h1 : den a cf env st = some (.val d, st1)) (h2 : den b cf env st1 = some (.val d1, st2)) (h3 : den c cf env st2 = some (.val d2, st3)) : den (.tup (.cons a (.cons b (.cons c .nil)))) cf env st = some (.val (.tup [d, d1, d2]), st3) := by
  simp only [den, dTup, denL3 h1 h2 h3, Option.bind_some, frozs, froz, Option.map_some]
  rfl
theorem den_rng1 {nn : Int} {n : Nat} (h1 : den a cf env st = some (.val (.int nn), st1)) (h : nn = n) (hn : n ≤ 16777216) : denI (.rng (.cons a .nil)) cf env st = some (.items (rgD 0 n), st1) := by
  simp only [denI, dRng, denL1 h1, Option.bind_some, rng1 h hn, Option.map_some]
theorem den_any {xs : List D} (h1 : den a cf env st = some (.val (.lst xs), st1)) : denI (.any a) cf env st = some (.items xs, st1) := by
  simp only [denI, dIter, h1, Option.bind_some, iterW, Option.map_some]
theorem den_anyT {xs : List D} (h1 : den a cf env st = some (.val (.tup xs), st1)) : denI (.any a) cf env st = some (.items xs, st1) := by
  simp only [denI, dIter, h1, Option.bind_some, iterW, Option.map_some]
theorem den_lc {it : Exi} {vs : List Nat} {T : Tg} {t : Exq} {e : Ex} {xs ys : List D} (h1 : denI it cf env st = some (.items xs, st1)) (h2 : mapL (stepC T (denT t) (den e) cf (wipeE env vs)) xs st1 = some (ys, st2)) (h3 : ys.length ≤ 16777216) : den (.lc it vs T t e) cf env st = some (.val (.lst ys), st2) := by
  simp only [den, dLc, h1, Option.bind_some, mapI, h2, fin0, Nat.ble_eq_true_of_le h3, szOk, if_true]
theorem step_yes {i : Nat} {e : Den} {env : En} (h : e cf (env.set i (some (.val d))) st = some (.val d1, st1)) : stepC (.one i) (denT .yes) e cf env d st = some ([d1], st1) := by
  simp only [stepC, bindT, denT, dYes, Option.bind_some, if_true, h, froz, Option.map_some]
theorem step_t {i : Nat} {e : Den} {env : En} (h : den a cf (env.set i (some (.val d))) st = some (w, st1)) (ht : truth w st1 = some true) (h2 : e cf (env.set i (some (.val d))) st1 = some (.val d1, st2)) : stepC (.one i) (denT (.tst a)) e cf env d st = some ([d1], st2) := by
  simp only [stepC, bindT, denT, dTst, Option.bind_some, h, ht, Option.map_some, if_true, h2, froz]
theorem step_f {i : Nat} {e : Den} {env : En} (h : den a cf (env.set i (some (.val d))) st = some (w, st1)) (ht : truth w st1 = some false) : stepC (.one i) (denT (.tst a)) e cf env d st = some ([], st1) := by
  simp only [stepC, bindT, denT, dTst, Option.bind_some, h, ht, Option.map_some, if_false, Bool.false_eq_true]
end
/-! lists by comprehension -/
theorem mapL_flat {f : Step} {g : D → List D} {st : Sto} : ∀ {xs : List D}, (∀ x ∈ xs, f x st = some (g x, st)) → mapL f xs st = some (xs.flatMap g, st)
  | [], h => rfl
  | x :: xs, h => by
    simp only [List.flatMap_cons, mapL, h x List.mem_cons_self, Option.bind_some, mapL_flat fun y hy => h y (List.mem_cons_of_mem _ hy), Option.map_some]
theorem mapL_flatT {α : Type} {f : Step} {inj : α → D} {g : α → List D} {st : Sto} : ∀ {xs : List α}, (∀ x ∈ xs, f (inj x) st = some (g x, st)) → mapL f (xs.map inj) st = some (xs.flatMap g, st)
  | [], h => rfl
  | x :: xs, h => by
    simp only [List.flatMap_cons, List.map_cons, mapL, h x List.mem_cons_self, Option.bind_some, mapL_flatT fun y hy => h y (List.mem_cons_of_mem _ hy), Option.map_some]
theorem mapL_map {α : Type} {f : Step} {inj : α → D} {g : α → D} {st : Sto} : ∀ {xs : List α}, (∀ x ∈ xs, f (inj x) st = some ([g x], st)) → mapL f (xs.map inj) st = some (xs.map g, st)
  | [], h => rfl
  | x :: xs, h => by
    simp only [List.map_cons, mapL, h x List.mem_cons_self, Option.bind_some, mapL_map fun y hy => h y (List.mem_cons_of_mem _ hy), Option.map_some, List.singleton_append]
theorem mapL_mapD {f : Step} {g : D → D} {st : Sto} : ∀ {xs : List D}, (∀ x ∈ xs, f x st = some ([g x], st)) → mapL f xs st = some (xs.map g, st)
  | [], h => rfl
  | x :: xs, h => by
    simp only [List.map_cons, mapL, h x List.mem_cons_self, Option.bind_some, mapL_mapD fun y hy => h y (List.mem_cons_of_mem _ hy), Option.map_some, List.singleton_append]
theorem mapL_filterD {f : Step} {p : D → Bool} {g : D → D} {st : Sto} : ∀ {xs : List D}, (∀ x ∈ xs, f x st = some (if p x then [g x] else [], st)) → mapL f xs st = some ((xs.filter p).map g, st)
  | [], h => rfl
  | x :: xs, h => by
    simp only [mapL, h x List.mem_cons_self, Option.bind_some, mapL_filterD fun y hy => h y (List.mem_cons_of_mem _ hy), Option.map_some]
    cases hp : p x <;> simp [List.filter_cons, hp]
theorem mapL_filterT {α : Type} {f : Step} {inj : α → D} {p : α → Bool} {g : α → D} {st : Sto} : ∀ {xs : List α}, (∀ x ∈ xs, f (inj x) st = some (if p x then [g x] else [], st)) → mapL f (xs.map inj) st = some ((xs.filter p).map g, st)
  | [], h => rfl
  | x :: xs, h => by
    simp only [List.map_cons, mapL, h x List.mem_cons_self, Option.bind_some, mapL_filterT fun y hy => h y (List.mem_cons_of_mem _ hy), Option.map_some]
    cases hp : p x <;> simp [List.filter_cons, hp]
/-- a list by turns that change the state: what is known of each item -/
theorem mapL_some {f : Step} {I : Nat → Sto → Prop} {P : D → Prop} {m C : Nat} : ∀ {xs : List D} {c : Nat} {st : Sto}, I c st → c + m * xs.length ≤ C → (∀ x ∈ xs, ∀ c st, I c st → c + m ≤ C → ∃ d c' st', f x st = some ([d], st') ∧ P d ∧ I c' st' ∧ c' ≤ c + m) →
    ∃ out c' st', mapL f xs st = some (out, st') ∧ out.length = xs.length ∧ (∀ d ∈ out, P d) ∧ I c' st' ∧ c' ≤ c + m * xs.length
  | [], c, st, h0, hC, h => ⟨[], c, st, rfl, rfl, fun d hd => by simp at hd, h0, by simp⟩
  | x :: xs, c, st, h0, hC, h => by
    rw [List.length_cons, Nat.mul_add, Nat.mul_one] at hC
    obtain ⟨d, c1, s1, e1, p1, i1, b1⟩ := h x List.mem_cons_self c st h0 (by omega)
    obtain ⟨out, c2, s2, e2, l2, p2, i2, b2⟩ := mapL_some (m := m) (C := C) i1 (by omega) fun y hy => h y (List.mem_cons_of_mem _ hy)
    refine ⟨d :: out, c2, s2, ?_, by rw [List.length_cons, List.length_cons, l2], fun y hy => ?_, i2, ?_⟩
    · simp only [mapL, e1, Option.bind_some, e2, Option.map_some, List.singleton_append]
    · rcases List.mem_cons.mp hy with rfl | hy
      · exact p1
      · exact p2 y hy
    · rw [List.length_cons, Nat.mul_add]
      omega
theorem list_of {α : Type} {inj : α → D} : ∀ {out : List D}, (∀ d ∈ out, ∃ x, d = inj x) → ∃ xs : List α, out = xs.map inj
  | [], h => ⟨[], rfl⟩
  | d :: ds, h => by
    obtain ⟨x, rfl⟩ := h d List.mem_cons_self
    obtain ⟨xs, rfl⟩ := list_of fun y hy => h y (List.mem_cons_of_mem _ hy)
    exact ⟨x :: xs, rfl⟩
theorem list_ofP {α : Type} {inj : α → D} {P : α → Prop} : ∀ {out : List D}, (∀ d ∈ out, ∃ x, d = inj x ∧ P x) → ∃ xs : List α, out = xs.map inj ∧ ∀ x ∈ xs, P x
  | [], h => ⟨[], rfl, fun x hx => by simp at hx⟩
  | d :: ds, h => by
    obtain ⟨x, rfl, hp⟩ := h d List.mem_cons_self
    obtain ⟨xs, rfl, hq⟩ := list_ofP fun y hy => h y (List.mem_cons_of_mem _ hy)
    exact ⟨x :: xs, rfl, fun y hy => by
      rcases List.mem_cons.mp hy with rfl | hy
      · exact hp
      · exact hq y hy⟩
/-- over a range, the state as it was -/
theorem mapL_rng {f : Step} {p : Nat → Bool} {g : Nat → D} {st : Sto} {n : Nat} (h : ∀ j, j < n → ∀ jj : Int, jj = j → f (.int jj) st = some (if p j then [g j] else [], st)) : mapL f (rgD 0 n) st = some (((List.range n).filter p).map g, st) := by
  unfold rgD
  exact mapL_filterT fun j hj => h j (List.mem_range.mp hj) _ (by omega)
theorem mapL_rngA {f : Step} {g : Nat → D} {st : Sto} {n : Nat} (h : ∀ j, j < n → ∀ jj : Int, jj = j → f (.int jj) st = some ([g j], st)) : mapL f (rgD 0 n) st = some ((List.range n).map g, st) := by
  unfold rgD
  exact mapL_map fun j hj => h j (List.mem_range.mp hj) _ (by omega)
theorem eqR {a b : Int} : eqD (.int a) (.int b) = some (.bl (a == b)) := rfl
theorem neR {a b : Int} : neD (.int a) (.int b) = some (.bl (!(a == b))) := rfl
/-! loops -/
theorem forL_inv {f : Body} {P : En → Sto → Prop} : ∀ {ds : List D} {env : En} {st : Sto}, P env st → (∀ d ∈ ds, ∀ env st, P env st → ∃ env' st', f d env st = some (.nx env', st') ∧ P env' st') → ∃ env' st', forL f ds env st = some (.nx env', st') ∧ P env' st'
  | [], env, st, h0, h => ⟨env, st, rfl, h0⟩
  | d :: ds, env, st, h0, h => by
    obtain ⟨e1, s1, h1, p1⟩ := h d List.mem_cons_self env st h0
    obtain ⟨e2, s2, h2, p2⟩ := forL_inv p1 fun y hy => h y (List.mem_cons_of_mem _ hy)
    exact ⟨e2, s2, by simp only [forL, h1, Option.bind_some, h2], p2⟩
/-- by a count of the turns -/
theorem forL_cnt {f : Body} {P : Nat → En → Sto → Prop} : ∀ {ds : List D} {i : Nat} {env : En} {st : Sto}, P i env st → (∀ j d, ds[j]? = some d → ∀ env st, P (i + j) env st → ∃ env' st', f d env st = some (.nx env', st') ∧ P (i + j + 1) env' st') → ∃ env' st', forL f ds env st = some (.nx env', st') ∧ P (i + ds.length) env' st'
  | [], i, env, st, h0, h => ⟨env, st, rfl, h0⟩
  | d :: ds, i, env, st, h0, h => by
    obtain ⟨e1, s1, h1, p1⟩ := h 0 d rfl env st h0
    obtain ⟨e2, s2, h2, p2⟩ := forL_cnt (i := i + 1) p1 fun j y hy env st hp => by
      have := h (j + 1) y (by simpa using hy) env st (by rw [show i + (j + 1) = i + 1 + j by omega]; exact hp)
      rw [show i + (j + 1) + 1 = i + 1 + j + 1 by omega] at this
      exact this
    refine ⟨e2, s2, by simp only [forL, h1, Option.bind_some, h2], ?_⟩
    rw [List.length_cons, show i + (ds.length + 1) = i + 1 + ds.length by omega]
    exact p2
theorem rgD_len {lo : Int} {n : Nat} : (rgD lo n).length = n := by unfold rgD; rw [List.length_map, List.length_range]
theorem rgD_at {lo : Int} {n j : Nat} {d : D} (h : (rgD lo n)[j]? = some d) : d = .int (lo + j) ∧ j < n := by
  unfold rgD at h
  rw [List.getElem?_map] at h
  obtain ⟨i, hi, rfl⟩ := Option.map_eq_some_iff.mp h
  obtain ⟨h1, h2⟩ := List.getElem?_eq_some_iff.mp hi
  simp at h1 h2
  subst h2
  exact ⟨rfl, h1⟩
theorem rgD_mem {lo : Int} {n : Nat} {d : D} (h : d ∈ rgD lo n) : ∃ j, j < n ∧ d = .int (lo + (j : Nat)) := by
  obtain ⟨j, hj⟩ := List.getElem?_of_mem h
  obtain ⟨h1, h2⟩ := rgD_at hj
  exact ⟨j, h2, h1⟩
/-! items -/
theorem atI_nat {α : Type} {xs : List α} {i : Nat} : atI xs (i : Int) = xs[i]? := by
  unfold atI ixN
  rw [if_pos (by omega)]
  by_cases h : i < xs.length
  · rw [if_pos (by omega)]
    simp
  · rw [if_neg (by omega), List.getElem?_eq_none (by omega)]
    rfl
theorem atI_map {α β : Type} {f : α → β} {xs : List α} {i : Int} : atI (xs.map f) i = (atI xs i).map f := by
  unfold atI
  rw [List.length_map]
  cases ixN xs.length i with
  | none => rfl
  | some j => simp
theorem atI_in {α : Type} {xs : List α} {i : Int} (h0 : 0 ≤ i) (h1 : i < xs.length) : ∃ x, atI xs i = some x ∧ x ∈ xs := by
  obtain ⟨n, rfl⟩ := Int.eq_ofNat_of_zero_le h0
  have hn : n < xs.length := by exact_mod_cast h1
  have e := atI_nat (xs := xs) (i := n)
  rw [List.getElem?_eq_getElem hn] at e
  exact ⟨xs[n], e, List.getElem_mem hn⟩
theorem atI_getD {α : Type} {xs : List α} {d : α} {j : Nat} {jj : Int} (h : jj = j) (hj : j < xs.length) : atI xs jj = some (xs.getD j d) := by
  subst h
  rw [atI_nat, List.getElem?_eq_getElem hj, List.getD_eq_getElem?_getD, List.getElem?_eq_getElem hj, Option.getD_some]
theorem idx_ints {xs : List Int} {j : Nat} {jj : Int} (h : jj = j) (hj : j < xs.length) : idxD (.tup (xs.map .int)) (.int jj) = some (.int (xs.getD j 0)) := by
  show atI (xs.map D.int) jj = _
  rw [atI_map, atI_getD (d := 0) h hj]
  rfl
theorem idx_intsL {xs : List Int} {j : Nat} {jj : Int} (h : jj = j) (hj : j < xs.length) : idxD (.lst (xs.map .int)) (.int jj) = some (.int (xs.getD j 0)) := by
  show atI (xs.map D.int) jj = _
  rw [atI_map, atI_getD (d := 0) h hj]
  rfl
theorem szOk_le {n : Nat} (h : n ≤ 16777216) : szOk n = true := Nat.ble_eq_true_of_le h
theorem mulOk_l {i j : Int} (h1 : -(2 ^ 64) < i) (h2 : i < 2 ^ 64) : mulOk i j = true := by
  unfold mulOk
  rw [sm_iff.mpr (show i.natAbs < 18446744073709551616 by omega), Bool.true_or]
theorem mulOk_r {i j : Int} (h1 : -(2 ^ 64) < j) (h2 : j < 2 ^ 64) : mulOk i j = true := by
  unfold mulOk
  rw [sm_iff.mpr (show j.natAbs < 18446744073709551616 by omega), Bool.or_true]
theorem modR {a b : Int} (h : 0 < b) : modD (.int a) (.int b) = some (.int (a % b)) := by
  simp only [modD, decide_eq_true h, if_true]
theorem fdivR {a b : Int} (h : 0 < b) (h2 : b < 1073741824) : fdivD (.int a) (.int b) = some (.int (a / b)) := by
  simp only [fdivD, decide_eq_true h, sm_iff.mpr (show b.natAbs < 1073741824 by omega), Bool.and_self, if_true]
theorem mulR {a b : Int} (h : mulOk a b = true) : mulD (.int a) (.int b) = some (.int (a * b)) := by
  simp only [mulD, h, if_true]
theorem addR {a b : Int} : addD (.int a) (.int b) = some (.int (a + b)) := rfl
theorem subR {a b : Int} : subD (.int a) (.int b) = some (.int (a - b)) := rfl
theorem ltR {a b : Int} : ltD (.int a) (.int b) = some (.bl (decide (a < b))) := rfl
theorem leR {a b : Int} : leD (.int a) (.int b) = some (.bl (decide (a ≤ b))) := rfl
theorem gtR {a b : Int} : gtD (.int a) (.int b) = some (.bl (decide (b < a))) := rfl
theorem geR {a b : Int} : geD (.int a) (.int b) = some (.bl (decide (b ≤ a))) := rfl
theorem lenI_map {α β : Type} {f : α → β} : ∀ {xs : List α}, lenI (xs.map f) = lenI xs
  | [] => rfl
  | x :: r => by rw [List.map_cons, lenI, lenI, lenI_map]
theorem len_ex {α : Type} (xs : List α) : ∃ len : Int, lenI xs = len ∧ (xs.length : Int) = len := ⟨_, rfl, (lenI_eq xs).symm⟩
theorem intsOf_map {xs : List Int} : intsOf (xs.map .int) = some xs := by
  induction xs with
  | nil => rfl
  | cons x xs ih => simp only [List.map_cons, intsOf, ih, Option.map_some]
theorem intsOf_mapF {α : Type} {f : α → Int} {xs : List α} : intsOf (xs.map fun x => .int (f x)) = some (xs.map f) := by
  induction xs with
  | nil => rfl
  | cons x xs ih => simp only [List.map_cons, intsOf, ih, Option.map_some]
theorem blsOf_map {α : Type} {xs : List α} {f : α → Bool} : blsOf (xs.map fun x => .bl (f x)) = some (xs.map f) := by
  induction xs with
  | nil => rfl
  | cons x xs ih => simp only [List.map_cons, blsOf, ih, Option.map_some]
section
variable {cf : CF} {env : En} {st st1 st2 : Sto} {a b : Ex} {i j : Int}
theorem den_addI (h1 : den a cf env st = some (.val (.int i), st1)) (h2 : den b cf env st1 = some (.val (.int j), st2)) : den (.bin .Add a b) cf env st = some (.val (.int (i + j)), st2) := den_bin h1 h2 rfl
theorem den_subI (h1 : den a cf env st = some (.val (.int i), st1)) (h2 : den b cf env st1 = some (.val (.int j), st2)) : den (.bin .Sub a b) cf env st = some (.val (.int (i - j)), st2) := den_bin h1 h2 rfl
theorem den_mulI (h1 : den a cf env st = some (.val (.int i), st1)) (h2 : den b cf env st1 = some (.val (.int j), st2)) (h : mulOk i j = true) : den (.bin .Mult a b) cf env st = some (.val (.int (i * j)), st2) := den_bin h1 h2 (mulR h)
theorem den_modI (h1 : den a cf env st = some (.val (.int i), st1)) (h2 : den b cf env st1 = some (.val (.int j), st2)) (h : 0 < j) : den (.bin .Mod a b) cf env st = some (.val (.int (i % j)), st2) := den_bin h1 h2 (modR h)
theorem den_fdivI (h1 : den a cf env st = some (.val (.int i), st1)) (h2 : den b cf env st1 = some (.val (.int j), st2)) (h : 0 < j) (h' : j < 1073741824) : den (.bin .FloorDiv a b) cf env st = some (.val (.int (i / j)), st2) := den_bin h1 h2 (fdivR h h')
theorem den_eqI (h1 : den a cf env st = some (.val (.int i), st1)) (h2 : den b cf env st1 = some (.val (.int j), st2)) : den (.cmp .Eq a b) cf env st = some (.val (.bl (i == j)), st2) := den_cmp h1 h2 rfl
theorem den_neI (h1 : den a cf env st = some (.val (.int i), st1)) (h2 : den b cf env st1 = some (.val (.int j), st2)) : den (.cmp .NotEq a b) cf env st = some (.val (.bl (!(i == j))), st2) := den_cmp h1 h2 rfl
theorem den_ltI (h1 : den a cf env st = some (.val (.int i), st1)) (h2 : den b cf env st1 = some (.val (.int j), st2)) : den (.cmp .Lt a b) cf env st = some (.val (.bl (decide (i < j))), st2) := den_cmp h1 h2 rfl
theorem den_leI (h1 : den a cf env st = some (.val (.int i), st1)) (h2 : den b cf env st1 = some (.val (.int j), st2)) : den (.cmp .LtE a b) cf env st = some (.val (.bl (decide (i ≤ j))), st2) := den_cmp h1 h2 rfl
theorem den_gtI (h1 : den a cf env st = some (.val (.int i), st1)) (h2 : den b cf env st1 = some (.val (.int j), st2)) : den (.cmp .Gt a b) cf env st = some (.val (.bl (decide (j < i))), st2) := den_cmp h1 h2 rfl
theorem den_geI (h1 : den a cf env st = some (.val (.int i), st1)) (h2 : den b cf env st1 = some (.val (.int j), st2)) : den (.cmp .GtE a b) cf env st = some (.val (.bl (decide (j ≤ i))), st2) := den_cmp h1 h2 rfl
theorem den_tupl {xs : List D} (h1 : den a cf env st = some (.val (.lst xs), st1)) : den (.prim .tuple (.cons a .nil)) cf env st = some (.val (.tup xs), st1) := den_prim1 h1 rfl
theorem den_intB {t : Bool} (h1 : den a cf env st = some (.val (.bl t), st1)) : den (.prim .int (.cons a .nil)) cf env st = some (.val (.int (if t then 1 else 0)), st1) := den_prim1 h1 rfl
theorem den_sumR {n : Nat} {f : Nat → Int} (h1 : den a cf env st = some (.val (.lst ((List.range n).map fun j => D.int (f j))), st1)) : den (.prim .sum (.cons a .nil)) cf env st = some (.val (.int ((List.range n).map f).sum), st1) := den_prim1 h1 (by
  show ((itemsD (.lst _)).bind fun xs => (intsOf xs).map fun ns => D.int ns.sum) = _
  simp only [itemsD, Option.bind_some, intsOf_mapF, Option.map_some])
theorem den_lenL {xs : List D} (h1 : den a cf env st = some (.val (.lst xs), st1)) : den (.prim .len (.cons a .nil)) cf env st = some (.val (.int (lenI xs)), st1) := den_prim1 h1 rfl
theorem den_lenT {xs : List D} (h1 : den a cf env st = some (.val (.tup xs), st1)) : den (.prim .len (.cons a .nil)) cf env st = some (.val (.int (lenI xs)), st1) := den_prim1 h1 rfl
end
theorem den_isi {cf : CF} {env : En} {st st1 : Sto} {a : Ex} {d r : D} {T : String} (h1 : den a cf env st = some (.val d, st1)) (h2 : isiD T d = some r) : den (.isi a T) cf env st = some (.val r, st1) := by
  simp only [den, dIsi, h1, Option.bind_some, peek, h2, Option.map_some]
theorem den_allB {cf : CF} {env : En} {st st1 : Sto} {a : Ex} {α : Type} {xs : List α} {f : α → Bool} (h1 : den a cf env st = some (.val (.lst (xs.map fun x => .bl (f x))), st1)) : den (.prim .all (.cons a .nil)) cf env st = some (.val (.bl (xs.all f)), st1) := den_prim1 h1 (by
  show (blsOf _).map (fun bs => D.bl (bs.all id)) = _
  rw [blsOf_map, Option.map_some]
  congr 2
  induction xs with
  | nil => rfl
  | cons x xs ih => simp)
theorem den_chainI {cf : CF} {env : En} {st st1 st2 : Sto} {a b c : Ex} {i j l : Int} (h1 : den a cf env st = some (.val (.int i), st1)) (h2 : den b cf env st1 = some (.val (.int j), st2)) (h3 : den c cf env st2 = some (.val (.int l), st2)) : den (.chain .LtE .LtE a b c) cf env st = some (.val (.bl (decide (i ≤ j) && decide (j ≤ l))), st2) := by
  simp only [den, dChain, h1, h2, Option.bind_some, peek, cmpD, leR, Option.bind_some]
  by_cases h : i ≤ j
  · simp only [h, decide_true, h3, Option.bind_some, leR, Option.map_some, Bool.true_and]
  · simp only [h, decide_false, Bool.false_and]
theorem frozs_vals : ∀ {ds : List D} {st : Sto}, frozs (ds.map .val) st = some (ds, st)
  | [], st => rfl
  | d :: ds, st => by simp only [List.map_cons, frozs, froz, Option.bind_some, frozs_vals, Option.map_some]
theorem den_lstV {cf : CF} {env : En} {st st1 : Sto} {as : Exs} {ds : List D} (h : denL as cf env st = some (ds.map .val, st1)) (hz : ds.length ≤ 16777216) : den (.lst as) cf env st = some (.val (.lst ds), st1) := by
  simp only [den, dLst, h, Option.bind_some, frozs_vals, Nat.ble_eq_true_of_le hz, szOk, if_true]
theorem den_slc {cf : CF} {env : En} {st st1 st2 st3 : Sto} {a : Ex} {lo hi : Exo} {d r : D} {l u : Option Int} (h1 : den a cf env st = some (.val d, st1)) (h2 : denO lo cf env st1 = some (l, st2)) (h3 : denO hi cf env st2 = some (u, st3)) (h4 : slcD d l u = some r) : den (.slc a lo hi) cf env st = some (.val r, st3) := by
  simp only [den, dSlc, h1, Option.bind_some, h2, h3, peek, h4, Option.map_some]
theorem denO_at {cf : CF} {env : En} {st st1 : Sto} {a : Ex} {i : Int} (h1 : den a cf env st = some (.val (.int i), st1)) : denO (.at a) cf env st = some (some i, st1) := by
  simp only [denO, dPart, h1, Option.bind_some]
theorem den_negI {cf : CF} {env : En} {st st1 : Sto} {a : Ex} {i : Int} (h1 : den a cf env st = some (.val (.int i), st1)) : den (.neg a) cf env st = some (.val (.int (-i)), st1) := by
  simp only [den, dNeg, h1, Option.bind_some, peek, negD, Option.map_some]
theorem den_revT {cf : CF} {env : En} {st st1 : Sto} {a : Ex} {xs : List D} (h1 : den a cf env st = some (.val (.tup xs), st1)) : den (.rev a) cf env st = some (.val (.tup xs.reverse), st1) := by
  simp only [den, dRev, h1, Option.bind_some, peek, revD, Option.map_some]
theorem den_catT {cf : CF} {env : En} {st st1 st2 : Sto} {a b : Ex} {xs ys : List D} (h1 : den a cf env st = some (.val (.tup xs), st1)) (h2 : den b cf env st1 = some (.val (.tup ys), st2)) (h : xs.length + ys.length ≤ 16777216) : den (.bin .Add a b) cf env st = some (.val (.tup (xs ++ ys)), st2) := den_bin h1 h2 (by
  show addD (.tup xs) (.tup ys) = _
  simp only [addD, szOk, Nat.ble_eq_true_of_le h, if_true])
theorem cut_len {α : Type} {xs : List α} {lo hi : Option Int} : (cutD xs lo hi).length ≤ xs.length := by
  unfold cutD
  rw [List.length_take, List.length_drop]
  omega
theorem cut_mem {α : Type} {xs : List α} {lo hi : Option Int} {x : α} (h : x ∈ cutD xs lo hi) : x ∈ xs := List.mem_of_mem_drop (List.mem_of_mem_take h)
end L2.Ev
set_option Elab.async false
set_option linter.all false
set_option maxRecDepth 100000
set_option maxHeartbeats 4000000
namespace L2.Ev
open PySem PySem.Spec PyProof.Rows

/-! ### sorted, of data of one kind -/
abbrev lexI := PyProof.Rows.lexLt PyProof.Rows.itemOrd
/-- data of one kind: lt and eq tell how two of them stand -/
structure SrtJ {α : Type} (j : α → D) (lt eq : α → α → Bool) (k : Nat) : Prop where
  al : ∀ a b, PySem.W.alike (toPy (j a)) (toPy (j b)) = true
  dp : ∀ a, (toPy (j a)).depth ≤ k
  lx : ∀ a b r s, lexI (PySem.W.keyToks (toPy (j a)) ++ r) (PySem.W.keyToks (toPy (j b)) ++ s) = (lt a b || (eq a b && lexI r s))
def insT {α : Type} (lt : α → α → Bool) (x : α) : List α → List α
  | [] => [x]
  | y :: r => if lt y x then y :: insT lt x r else x :: y :: r
def isrt {α : Type} (lt : α → α → Bool) : List α → List α
  | [] => []
  | x :: r => insT lt x (isrt lt r)
section
variable {α : Type} {j : α → D} {lt eq : α → α → Bool} {k : Nat}
theorem SrtJ.le (h : SrtJ j lt eq k) (a b : α) : leP (j a) (j b) = !lt b a := by
  have e := h.lx b a [] []
  rw [List.append_nil, List.append_nil] at e
  have e0 : lexI [] [] = false := rfl
  rw [e0, Bool.and_false, Bool.or_false] at e
  show (!lexI (PySem.W.keyToks (toPy (j b))) (PySem.W.keyToks (toPy (j a)))) = _
  rw [e]
theorem SrtJ.ins (h : SrtJ j lt eq k) (x : α) : ∀ ys : List α, insD leP (j x) (ys.map j) = (insT lt x ys).map j
  | [] => rfl
  | y :: r => by
    rw [List.map_cons, insD, insT, h.le]
    cases hl : lt y x with
    | true => simp only [Bool.not_true, Bool.false_eq_true, if_false, if_true, List.map_cons, SrtJ.ins h x r]
    | false => simp only [Bool.not_false, if_true, Bool.false_eq_true, if_false, List.map_cons]
theorem SrtJ.isrt (h : SrtJ j lt eq k) : ∀ ys : List α, isrtD leP (ys.map j) = (isrt lt ys).map j
  | [] => rfl
  | y :: r => by
    rw [List.map_cons, isrtD, SrtJ.isrt h r, h.ins]
    rfl
theorem SrtJ.srt (h : SrtJ j lt eq k) (hk : k ≤ 48) {xs : List α} (hn : (∀ a ∈ xs, neTup (toPy (j a)) = true) ∨ (∀ a ∈ xs, noTup (toPy (j a)) = true)) : srt1 (xs.map j) = some (.lst ((Ev.isrt lt xs).map j)) := by
  have e : srtOk (xs.map j) = true := by
    unfold srtOk
    simp only [Bool.and_eq_true, Bool.or_eq_true, List.all_eq_true, List.mem_map]
    refine ⟨⟨?_, ?_⟩, ?_⟩
    · rintro _ ⟨a, _, rfl⟩
      exact Nat.ble_eq_true_of_le (Nat.le_trans (h.dp a) hk)
    · rintro _ ⟨a, _, rfl⟩ _ ⟨b, _, rfl⟩
      exact h.al a b
    · rcases hn with hn | hn
      · left
        rintro _ ⟨a, ha, rfl⟩
        exact hn a ha
      · right
        rintro _ ⟨a, ha, rfl⟩
        exact hn a ha
  unfold srt1
  rw [if_pos e, h.isrt]
theorem SrtJ.srt0 (h : SrtJ j lt eq k) (hk : k ≤ 48) {x : α} (hn : isNon (j x) = false) : srt1 ([x].map j) = some (.lst ((Ev.isrt lt [x]).map j)) := by
  show srt1 [j x] = some (.lst [j x])
  have e1 : oneD [j x] = some (.lst [j x]) := by
    show (if oneOk (j x) = true then some (D.lst [j x]) else none) = _
    rw [if_pos]
    unfold oneOk
    rw [h.al, hn, Nat.ble_eq_true_of_le (Nat.le_trans (h.dp x) hk)]
    rfl
  unfold srt1
  rw [e1]
  split <;> rfl
end
def iLt (a b : Int) : Bool := decide (a < b)
def iEq (a b : Int) : Bool := decide (a = b)
theorem srtI : SrtJ D.int iLt iEq 0 where
  al a b := rfl
  dp a := Nat.le_refl _
  lx a b r s := by
    show lexI (.inl a :: r) (.inl b :: s) = _
    rw [lexI, lex_cons]
    show (decide (a < b) || (!decide (b < a) && _)) = (iLt a b || (iEq a b && _))
    unfold iLt iEq
    generalize lexLt itemOrd r s = L
    rcases Int.lt_trichotomy a b with h | h | h
    · rw [decide_eq_true h]; rfl
    · subst h; simp
    · rw [decide_eq_false (show ¬ a < b by omega), decide_eq_true h, decide_eq_false (show ¬ a = b by omega)]; rfl
def ltL {α : Type} (lt eq : α → α → Bool) : List α → List α → Bool
  | [], [] => false
  | [], _ :: _ => true
  | _ :: _, [] => false
  | x :: xs, y :: ys => lt x y || (eq x y && ltL lt eq xs ys)
def eqL {α : Type} (eq : α → α → Bool) : List α → List α → Bool
  | [], [] => true
  | x :: xs, y :: ys => eq x y && eqL eq xs ys
  | _, _ => false
section
variable {α β : Type} {j : α → D} {lt eq : α → α → Bool} {k : Nat}
theorem alike_all (h : ∀ a b, PySem.W.alike (toPy (j a)) (toPy (j b)) = true) : ∀ xs ys : List α, PySem.W.alikeAll (toPys (xs.map j)) (toPys (ys.map j)) = true
  | [], _ => by simp only [List.map_nil, toPys, PySem.W.alikeAll]
  | _ :: _, [] => by simp only [List.map_nil, List.map_cons, toPys, PySem.W.alikeAll]
  | x :: xs, y :: ys => by
    simp only [List.map_cons, toPys, PySem.W.alikeAll, h, alike_all h xs ys, Bool.and_self]
theorem lx_all (h : SrtJ j lt eq k) : ∀ (xs ys : List α) r s, lexI (PySem.W.keyToksAll (toPys (xs.map j)) ++ r) (PySem.W.keyToksAll (toPys (ys.map j)) ++ s) = (ltL lt eq xs ys || (eqL eq xs ys && lexI r s))
  | [], [], r, s => by
    simp only [List.map_nil, toPys, PySem.W.keyToksAll, List.singleton_append, ltL, eqL, Bool.false_or, Bool.true_and]
    exact lex_self _ _ _
  | [], y :: ys, r, s => by
    simp only [List.map_nil, List.map_cons, toPys, PySem.W.keyToksAll, List.singleton_append, List.cons_append, ltL, eqL, Bool.true_or]
    rfl
  | x :: xs, [], r, s => by
    simp only [List.map_nil, List.map_cons, toPys, PySem.W.keyToksAll, List.singleton_append, List.cons_append, ltL, eqL, Bool.false_and, Bool.or_self]
    rfl
  | x :: xs, y :: ys, r, s => by
    simp only [List.map_cons, toPys, PySem.W.keyToksAll, List.cons_append, List.append_assoc, ltL, eqL]
    refine (lex_self _ _ _).trans ?_
    refine (h.lx x y _ _).trans ?_
    rw [lx_all h xs ys r s]
    cases lt x y <;> cases eq x y <;> cases ltL lt eq xs ys <;> cases eqL eq xs ys <;> rfl
theorem depth_all (h : ∀ a, (toPy (j a)).depth ≤ k) : ∀ xs : List α, PyData.depthAll (toPys (xs.map j)) ≤ k
  | [] => Nat.zero_le _
  | x :: xs => by
    simp only [List.map_cons, toPys, PyData.depthAll]
    exact Nat.max_le.mpr ⟨h x, depth_all h xs⟩
theorem SrtJ.tup (h : SrtJ j lt eq k) : SrtJ (fun xs : List α => D.tup (xs.map j)) (ltL lt eq) (eqL eq) (k + 1) where
  al xs ys := by simp only [toPy, PySem.W.alike]; exact alike_all h.al xs ys
  dp xs := by
    simp only [toPy, PyData.depth]
    have := depth_all h.dp xs
    omega
  lx xs ys r s := by simp only [toPy, PySem.W.keyToks]; exact lx_all h xs ys r s
end
end L2.Ev
set_option Elab.async false
set_option linter.all false
set_option maxRecDepth 100000
set_option maxHeartbeats 0
namespace L2.L_k01
open PySem PySem.Spec PyProof.Rows L2 L2.Ev
abbrev Pg : Program := PySem.Challenge.pw_truthwright_k01_functions_told
def top (i : Nat) : Stmt := Pg.main.body.getD i (.Pass ⟨0, 0, 0, 0⟩)
def b_is_whole : Sxs :=
  (.cons (.ret (.and (.isi (.var 0) "int") (.not (.isi (.var 0) "bool"))))
    .nil)
def b_is_from : Sxs :=
  (.cons (.ret (.and (.call "is_whole" (.cons (.var 0) .nil)) (.chain .LtE .LtE (.var 1) (.var 0) (.var 2))))
    .nil)
def b_is_numbers : Sxs :=
  (.cons (.ret (.and (.isi (.var 0) "tuple") (.prim .all (.cons (.lc (.any (.var 0)) [1] (.one 1) .yes (.call "is_whole" (.cons (.var 1) .nil))) .nil))))
    .nil)
def b_is_bits : Sxs :=
  (.cons (.ret (.and (.call "is_numbers" (.cons (.var 0) .nil)) (.and (.cmp .Eq (.prim .len (.cons (.var 0) .nil)) (.var 1)) (.prim .all (.cons (.lc (.any (.var 0)) [2] (.one 2) .yes (.chain .LtE .LtE (.con (.int 0)) (.var 2) (.con (.int 1)))) .nil)))))
    .nil)
def b_all_bits_1 : Sxs :=
  (.cons (.asg 1 (.lc2 (.any (.var 1)) [3, 4] (.one 3) .yes (.any (.tup (.cons (.con (.int 0)) (.cons (.con (.int 1)) .nil)))) [4] (.one 4) .yes (.bin .Add (.var 3) (.tup (.cons (.var 4) .nil)))))
    .nil)
def b_all_bits : Sxs :=
  (.cons (.asg 1 (.lst (.cons (.tup .nil) .nil)))
    (.cons (.for' (.rng (.cons (.var 0) .nil)) (.one 2) b_all_bits_1)
    (.cons (.ret (.var 1))
    .nil)))
def b_number_of_1 : Sxs :=
  (.cons (.asg 1 (.bin .Add (.bin .Mult (.con (.int 2)) (.var 1)) (.var 2)))
    .nil)
def b_number_of : Sxs :=
  (.cons (.asg 1 (.con (.int 0)))
    (.cons (.for' (.any (.var 0)) (.one 2) b_number_of_1)
    (.cons (.ret (.var 1))
    .nil)))
def b_is_function : Sxs :=
  (.cons (.iff (.or (.not (.isi (.var 0) "tuple")) (.or (.cmp .NotEq (.prim .len (.cons (.var 0) .nil)) (.con (.int 2))) (.not (.call "is_from" (.cons (.idx (.var 0) (.con (.int 0))) (.cons (.con (.int 0)) (.cons (.con (.int 4)) .nil))))))) (.cons (.ret (.con (.bl false)))
    .nil) .nil)
    (.cons (.ret (.call "is_bits" (.cons (.idx (.var 0) (.con (.int 1))) (.cons (.bin .LShift (.con (.int 1)) (.idx (.var 0) (.con (.int 0)))) .nil))))
    .nil))
def b_value_at : Sxs :=
  (.cons (.ret (.idx (.idx (.var 0) (.con (.int 1))) (.call "number_of" (.cons (.var 1) .nil))))
    .nil)
def b_constant : Sxs :=
  (.cons (.ret (.tup (.cons (.var 0) (.cons (.bin .Mult (.tup (.cons (.var 1) .nil)) (.bin .LShift (.con (.int 1)) (.var 0))) .nil))))
    .nil)
def b_variable : Sxs :=
  (.cons (.ret (.tup (.cons (.var 0) (.cons (.prim .tuple (.cons (.lc (.any (.call "all_bits" (.cons (.var 0) .nil))) [2] (.one 2) .yes (.idx (.var 2) (.var 1))) .nil)) .nil))))
    .nil)
def b_at_least : Sxs :=
  (.cons (.ret (.tup (.cons (.var 0) (.cons (.prim .tuple (.cons (.lc (.any (.call "all_bits" (.cons (.var 0) .nil))) [2] (.one 2) .yes (.prim .int (.cons (.cmp .GtE (.prim .sum (.cons (.var 2) .nil)) (.var 1)) .nil))) .nil)) .nil))))
    .nil)
def b_exactly : Sxs :=
  (.cons (.ret (.tup (.cons (.var 0) (.cons (.prim .tuple (.cons (.lc (.any (.call "all_bits" (.cons (.var 0) .nil))) [2] (.one 2) .yes (.prim .int (.cons (.cmp .Eq (.prim .sum (.cons (.var 2) .nil)) (.var 1)) .nil))) .nil)) .nil))))
    .nil)
def b_at_most : Sxs :=
  (.cons (.ret (.tup (.cons (.var 0) (.cons (.prim .tuple (.cons (.lc (.any (.call "all_bits" (.cons (.var 0) .nil))) [2] (.one 2) .yes (.prim .int (.cons (.cmp .LtE (.prim .sum (.cons (.var 2) .nil)) (.var 1)) .nil))) .nil)) .nil))))
    .nil)
def b_choice : Sxs :=
  (.cons (.ret (.tup (.cons (.con (.int 3)) (.cons (.prim .tuple (.cons (.lc (.any (.call "all_bits" (.cons (.con (.int 3)) .nil))) [0] (.one 0) .yes (.idx (.var 0) (.bin .Sub (.con (.int 2)) (.idx (.var 0) (.con (.int 0)))))) .nil)) .nil))))
    .nil)
def b_parity : Sxs :=
  (.cons (.ret (.tup (.cons (.var 0) (.cons (.prim .tuple (.cons (.lc (.any (.call "all_bits" (.cons (.var 0) .nil))) [1] (.one 1) .yes (.bin .Mod (.prim .sum (.cons (.var 1) .nil)) (.con (.int 2)))) .nil)) .nil))))
    .nil)
def b_all_functions : Sxs :=
  (.cons (.ret (.lc (.any (.call "all_bits" (.cons (.bin .LShift (.con (.int 1)) (.var 0)) .nil))) [1] (.one 1) .yes (.tup (.cons (.var 0) (.cons (.var 1) .nil)))))
    .nil)
def b__law_cell : Sxs :=
  (.cons (.iff (.cmp .Lt (.var 1) (.prim .len (.cons (.var 0) .nil))) (.cons (.ret (.idx (.var 0) (.var 1)))
    .nil) .nil)
    (.cons (.ret (.con (.int 0)))
    .nil))
def b__law_draws_1 : Sxs :=
  (.cons (.iff (.and (.cmp .GtE (.var 0) (.bin .Pow (.con (.int 10)) (.con (.int 18)))) (.cmp .Gt (.var 3) (.con (.int 0)))) (.cons (.exp (.app (.var 2) (.bin .Mod (.prim .int (.cons (.var 3) .nil)) (.con (.int 4096)))))
    (.cons (.asg 3 (.bin .FloorDiv (.var 3) (.con (.int 4096))))
    .nil)) (.cons (.asg 5 (.bin .Mod (.prim .int (.cons (.bin .Add (.bin .Mult (.var 0) (.con (.int 48271))) (.bin .Mult (.bin .Add (.var 4) (.con (.int 1))) (.con (.int 69621)))) .nil)) (.con (.int 2147483647))))
    (.cons (.asg 5 (.bin .Mod (.prim .int (.cons (.bin .Add (.bin .Add (.bin .Mult (.var 5) (.var 5)) (.bin .Mult (.var 5) (.con (.int 16807)))) (.bin .Mult (.var 4) (.con (.int 7919)))) .nil)) (.con (.int 2147483629))))
    (.cons (.asg 5 (.bin .Mod (.prim .int (.cons (.bin .Add (.bin .Add (.bin .Mult (.var 5) (.var 5)) (.var 0)) (.bin .Mult (.con (.int 13)) (.var 4))) .nil)) (.con (.int 2147483587))))
    (.cons (.exp (.app (.var 2) (.bin .Mod (.bin .FloorDiv (.var 5) (.con (.int 7))) (.con (.int 4096)))))
    .nil)))))
    .nil)
def b__law_draws : Sxs :=
  (.cons (.own 2 (.lst .nil))
    (.cons (.asg 3 (.var 0))
    (.cons (.for' (.rng (.cons (.var 1) .nil)) (.one 4) b__law_draws_1)
    (.cons (.ret (.var 2))
    .nil))))
def b__law_is_int : Sxs :=
  (.cons (.ret (.and (.isi (.var 0) "int") (.not (.isi (.var 0) "bool"))))
    .nil)
def b__law_is_bool : Sxs :=
  (.cons (.iff (.var 1) (.cons (.ret (.cmp .Is (.var 0) (.con (.bl true))))
    .nil) .nil)
    (.cons (.ret (.cmp .Is (.var 0) (.con (.bl false))))
    .nil))
def b__law_kind : Sxs :=
  (.cons (.iff (.isi (.var 0) "bool") (.cons (.ret (.con (.int 1)))
    .nil) .nil)
    (.cons (.iff (.isi (.var 0) "int") (.cons (.ret (.con (.int 2)))
    .nil) .nil)
    (.cons (.iff (.isi (.var 0) "str") (.cons (.ret (.con (.int 3)))
    .nil) .nil)
    (.cons (.iff (.isi (.var 0) "tuple") (.cons (.ret (.con (.int 4)))
    .nil) .nil)
    (.cons (.iff (.isi (.var 0) "list") (.cons (.ret (.con (.int 5)))
    .nil) .nil)
    (.cons (.iff (.isi (.var 0) "dict") (.cons (.ret (.con (.int 6)))
    .nil) .nil)
    (.cons (.ret (.con (.int 0)))
    .nil)))))))
def b__law_equal_1 : Sxs :=
  (.cons (.iff (.or (.cmp .NotIn (.var 2) (.var 1)) (.not (.call "_law_equal" (.cons (.idx (.var 0) (.var 2)) (.cons (.idx (.var 1) (.var 2)) .nil))))) (.cons (.ret (.con (.bl false)))
    .nil) .nil)
    (.cons (.iff (.cmp .Eq (.prim .len (.cons (.lc (.any (.var 1)) [4] (.one 4) (.tst (.and (.cmp .Eq (.var 4) (.var 2)) (.call "_law_equal" (.cons (.var 2) (.cons (.var 4) .nil))))) (.var 4)) .nil)) (.con (.int 0))) (.cons (.ret (.con (.bl false)))
    .nil) .nil)
    .nil))
def b__law_equal : Sxs :=
  (.cons (.iff (.cmp .NotEq (.call "_law_kind" (.cons (.var 0) .nil)) (.call "_law_kind" (.cons (.var 1) .nil))) (.cons (.ret (.con (.bl false)))
    .nil) .nil)
    (.cons (.iff (.or (.isi (.var 1) "tuple") (.isi (.var 1) "list")) (.cons (.iff (.cmp .NotEq (.prim .len (.cons (.var 0) .nil)) (.prim .len (.cons (.var 1) .nil))) (.cons (.ret (.con (.bl false)))
    .nil) .nil)
    (.cons (.ret (.cmp .Eq (.prim .len (.cons (.lc (.rng (.cons (.prim .len (.cons (.var 1) .nil)) .nil)) [3] (.one 3) (.tst (.not (.call "_law_equal" (.cons (.idx (.var 0) (.var 3)) (.cons (.idx (.var 1) (.var 3)) .nil))))) (.var 3)) .nil)) (.con (.int 0))))
    .nil)) .nil)
    (.cons (.iff (.isi (.var 1) "dict") (.cons (.iff (.cmp .NotEq (.prim .len (.cons (.var 0) .nil)) (.prim .len (.cons (.var 1) .nil))) (.cons (.ret (.con (.bl false)))
    .nil) .nil)
    (.cons (.for' (.any (.var 0)) (.one 2) b__law_equal_1)
    (.cons (.ret (.con (.bl true)))
    .nil))) .nil)
    (.cons (.ret (.cmp .Eq (.var 0) (.var 1)))
    .nil))))
def b__law_numbers_in : Sxs :=
  (.cons (.iff (.or (.not (.isi (.var 0) "tuple")) (.cmp .NotEq (.prim .len (.cons (.var 0) .nil)) (.var 1))) (.cons (.ret (.con (.bl false)))
    .nil) .nil)
    (.cons (.ret (.cmp .Eq (.prim .len (.cons (.lc (.any (.var 0)) [2] (.one 2) (.tst (.not (.call "_law_is_int" (.cons (.var 2) .nil)))) (.var 2)) .nil)) (.con (.int 0))))
    .nil))
def b__law_bend : Sxs :=
  (.cons (.asg 3 (.prim .int (.cons (.idx (.var 1) (.bin .Mod (.var 2) (.prim .len (.cons (.var 1) .nil)))) .nil)))
    (.cons (.iff (.and (.isi (.var 0) "tuple") (.and (.cmp .Gt (.prim .len (.cons (.var 0) .nil)) (.con (.int 0))) (.cmp .Gt (.bin .Mod (.var 3) (.con (.int 5))) (.con (.int 0))))) (.cons (.asg 4 (.bin .Mod (.bin .FloorDiv (.var 3) (.con (.int 5))) (.prim .len (.cons (.var 0) .nil))))
    (.cons (.ret (.bin .Add (.bin .Add (.slc (.var 0) .no (.at (.var 4))) (.tup (.cons (.call "_law_bend" (.cons (.idx (.var 0) (.var 4)) (.cons (.var 1) (.cons (.bin .Add (.var 2) (.con (.int 1))) .nil)))) .nil))) (.slc (.var 0) (.at (.bin .Add (.var 4) (.con (.int 1)))) .no)))
    .nil)) .nil)
    (.cons (.asg 5 (.bin .Mod (.bin .FloorDiv (.var 3) (.con (.int 5))) (.con (.int 7))))
    (.cons (.iff (.isi (.var 0) "tuple") (.cons (.ret (.idx (.lst (.cons (.bin .Add (.var 0) (.tup (.cons (.con (.int 0)) .nil))) (.cons (.slc (.var 0) .no (.at (.neg (.con (.int 1))))) (.cons (.prim .list (.cons (.var 0) .nil)) (.cons (.rev (.var 0)) (.cons (.con .non) (.cons (.bin .Add (.var 0) (.slc (.var 0) (.at (.neg (.con (.int 1)))) .no)) (.cons (.tup (.cons (.var 0) .nil)) .nil)))))))) (.var 5)))
    .nil) .nil)
    (.cons (.iff (.isi (.var 0) "str") (.cons (.ret (.idx (.lst (.cons (.bin .Add (.var 0) (.con (.str "s"))) (.cons (.con (.str "")) (.cons (.con (.int 0)) (.cons (.con (.str "steps")) (.cons (.con (.str "bits")) (.cons (.con (.str "some")) (.cons (.con .non) .nil)))))))) (.var 5)))
    .nil) .nil)
    (.cons (.iff (.or (.isi (.var 0) "bool") (.not (.isi (.var 0) "int"))) (.cons (.ret (.con (.int 0)))
    .nil) .nil)
    (.cons (.ret (.idx (.lst (.cons (.bin .Add (.var 0) (.con (.int 1))) (.cons (.bin .Sub (.var 0) (.con (.int 1))) (.cons (.bin .Add (.var 0) (.con (.int 2))) (.cons (.cmp .Eq (.var 0) (.con (.int 1))) (.cons (.prim .str (.cons (.var 0) .nil)) (.cons (.neg (.var 0)) (.cons (.bin .Add (.var 0) (.con (.int 9))) .nil)))))))) (.var 5)))
    .nil)))))))
def b__law_pool_1 : Sxs :=
  (.cons (.asg 1 (.bin .Add (.var 1) (.call "_law_draws" (.cons (.bin .Add (.call "_law_cell" (.cons (.var 0) (.cons (.var 2) .nil))) (.bin .Mult (.con (.int 7)) (.var 2))) (.cons (.con (.int 20)) .nil)))))
    .nil)
def b__law_pool : Sxs :=
  (.cons (.asg 1 (.lst .nil))
    (.cons (.for' (.rng (.cons (.prim .min (.cons (.con (.int 4)) (.cons (.prim .max (.cons (.con (.int 1)) (.cons (.prim .len (.cons (.var 0) .nil)) .nil))) .nil))) .nil)) (.one 2) b__law_pool_1)
    (.cons (.ret (.pool (.var 1) 0))
    .nil)))
def b__law_pick : Sxs :=
  (.cons (.asg 2 (.idx (.idx (.var 0) (.con (.int 1))) (.con (.int 0))))
    (.cons (.sub (.idx (.var 0) (.con (.int 1))) (.con (.int 0)) (.bin .Add (.var 2) (.con (.int 1))))
    (.cons (.asg 3 (.bin .FloorDiv (.var 2) (.prim .len (.cons (.idx (.var 0) (.con (.int 0))) .nil))))
    (.cons (.ret (.bin .Mod (.prim .int (.cons (.bin .Add (.bin .Add (.idx (.idx (.var 0) (.con (.int 0))) (.bin .Mod (.var 2) (.prim .len (.cons (.idx (.var 0) (.con (.int 0))) .nil)))) (.bin .Mult (.var 3) (.con (.int 1009)))) (.bin .Mult (.var 3) (.var 2))) .nil)) (.var 1)))
    .nil))))
def b__law_rows_1 : Sxs :=
  (.cons (.asg 1 (.bin .Add (.lc (.any (.var 1)) [3] (.one 3) .yes (.bin .Add (.var 3) (.tup (.cons (.con (.int 0)) .nil)))) (.lc (.any (.var 1)) [3] (.one 3) .yes (.bin .Add (.var 3) (.tup (.cons (.con (.int 1)) .nil))))))
    .nil)
def b__law_rows : Sxs :=
  (.cons (.asg 1 (.lst (.cons (.tup .nil) .nil)))
    (.cons (.for' (.rng (.cons (.var 0) .nil)) (.one 2) b__law_rows_1)
    (.cons (.ret (.prim .sorted (.cons (.var 1) .nil)))
    .nil)))
def b__law_bits : Sxs :=
  (.cons (.ret (.and (.call "_law_numbers_in" (.cons (.var 0) (.cons (.var 1) .nil))) (.cmp .Eq (.prim .len (.cons (.lc (.any (.var 0)) [2] (.one 2) (.tst (.cmp .NotIn (.var 2) (.tup (.cons (.con (.int 0)) (.cons (.con (.int 1)) .nil))))) (.var 2)) .nil)) (.con (.int 0)))))
    .nil)
def b__law_function : Sxs :=
  (.cons (.iff (.or (.not (.isi (.var 0) "tuple")) (.or (.cmp .NotEq (.prim .len (.cons (.var 0) .nil)) (.con (.int 2))) (.or (.not (.call "_law_is_int" (.cons (.idx (.var 0) (.con (.int 0))) .nil))) (.not (.chain .LtE .LtE (.con (.int 0)) (.idx (.var 0) (.con (.int 0))) (.con (.int 4))))))) (.cons (.ret (.con (.bl false)))
    .nil) .nil)
    (.cons (.ret (.call "_law_bits" (.cons (.idx (.var 0) (.con (.int 1))) (.cons (.bin .LShift (.con (.int 1)) (.idx (.var 0) (.con (.int 0)))) .nil))))
    .nil))
def b__law_under : Sxs :=
  (.cons (.ret (.cmp .Eq (.prim .len (.cons (.lc (.rng (.cons (.prim .len (.cons (.var 0) .nil)) .nil)) [2] (.one 2) (.tst (.cmp .Gt (.idx (.var 0) (.var 2)) (.idx (.var 1) (.var 2)))) (.var 2)) .nil)) (.con (.int 0))))
    .nil)
def b__law_drawn : Sxs :=
  (.cons (.asg 3 (.bin .Add (.var 1) (.call "_law_pick" (.cons (.var 0) (.cons (.bin .Add (.bin .Sub (.var 2) (.var 1)) (.con (.int 1))) .nil)))))
    (.cons (.asg 4 (.call "_law_pick" (.cons (.var 0) (.cons (.con (.int 6)) .nil))))
    (.cons (.iff (.cmp .Eq (.var 4) (.con (.int 0))) (.cons (.ret (.call "_law_risen" (.cons (.var 0) (.cons (.var 3) .nil))))
    .nil) .nil)
    (.cons (.iff (.cmp .Eq (.var 4) (.con (.int 1))) (.cons (.asg 5 (.lc (.rng (.cons (.bin .Add (.var 3) (.con (.int 1))) .nil)) [9] (.one 9) .yes (.call "_law_pick" (.cons (.var 0) (.cons (.con (.int 2)) .nil)))))
    (.cons (.ret (.tup (.cons (.var 3) (.cons (.prim .tuple (.cons (.lc (.any (.call "_law_rows" (.cons (.var 3) .nil))) [10] (.one 10) .yes (.bin .Mod (.bin .Add (.idx (.var 5) (.var 3)) (.prim .sum (.cons (.lc (.rng (.cons (.var 3) .nil)) [9] (.one 9) .yes (.bin .Mult (.idx (.var 5) (.var 9)) (.idx (.var 10) (.var 9)))) .nil))) (.con (.int 2)))) .nil)) .nil))))
    .nil)) .nil)
    (.cons (.iff (.cmp .Eq (.var 4) (.con (.int 2))) (.cons (.asg 6 (.lc (.rng (.cons (.var 3) .nil)) [9] (.one 9) .yes (.bin .Sub (.call "_law_pick" (.cons (.var 0) (.cons (.con (.int 5)) .nil))) (.con (.int 2)))))
    (.cons (.asg 7 (.bin .Sub (.call "_law_pick" (.cons (.var 0) (.cons (.con (.int 4)) .nil))) (.con (.int 1))))
    (.cons (.ret (.tup (.cons (.var 3) (.cons (.prim .tuple (.cons (.lc (.any (.call "_law_rows" (.cons (.var 3) .nil))) [10] (.one 10) .yes (.prim .int (.cons (.cmp .GtE (.prim .sum (.cons (.lc (.rng (.cons (.var 3) .nil)) [9] (.one 9) .yes (.bin .Mult (.idx (.var 6) (.var 9)) (.idx (.var 10) (.var 9)))) .nil)) (.var 7)) .nil))) .nil)) .nil))))
    .nil))) .nil)
    (.cons (.asg 8 (.bin .Add (.con (.int 1)) (.call "_law_pick" (.cons (.var 0) (.cons (.con (.int 3)) .nil)))))
    (.cons (.ret (.tup (.cons (.var 3) (.cons (.prim .tuple (.cons (.lc (.any (.call "_law_rows" (.cons (.var 3) .nil))) [10] (.one 10) .yes (.prim .int (.cons (.cmp .GtE (.call "_law_pick" (.cons (.var 0) (.cons (.con (.int 4)) .nil))) (.var 8)) .nil))) .nil)) .nil))))
    .nil)))))))
def b__law_risen : Sxs :=
  (.cons (.asg 2 (.lc (.rng (.cons (.call "_law_pick" (.cons (.var 0) (.cons (.con (.int 4)) .nil))) .nil)) [3] (.one 3) .yes (.prim .tuple (.cons (.lc (.rng (.cons (.var 1) .nil)) [4] (.one 4) .yes (.call "_law_pick" (.cons (.var 0) (.cons (.con (.int 2)) .nil)))) .nil))))
    (.cons (.ret (.tup (.cons (.var 1) (.cons (.prim .tuple (.cons (.lc (.any (.call "_law_rows" (.cons (.var 1) .nil))) [5] (.one 5) .yes (.prim .int (.cons (.cmp .Gt (.prim .len (.cons (.lc (.any (.var 2)) [6] (.one 6) (.tst (.call "_law_under" (.cons (.var 6) (.cons (.var 5) .nil)))) (.var 6)) .nil)) (.con (.int 0))) .nil))) .nil)) .nil))))
    .nil))
def b__law_draw_list : Sxs :=
  (.cons (.ret (.lc (.rng (.cons (.con (.int 40)) .nil)) [1] (.one 1) .yes (.call "_law_pick" (.cons (.var 0) (.cons (.con (.int 4096)) .nil)))))
    .nil)
def b_law_1 : Sxs :=
  (.cons (.iff (.not (.call "_law_equal" (.cons (.call "variable" (.cons (.var 4) (.cons (.var 9) .nil))) (.cons (.tup (.cons (.var 4) (.cons (.prim .tuple (.cons (.lc (.any (.var 7)) [13] (.one 13) .yes (.idx (.var 13) (.var 9))) .nil)) .nil))) .nil)))) (.cons (.ret (.con (.bl false)))
    .nil) .nil)
    .nil)
def b_law_2 : Sxs :=
  (.cons (.iff (.not (.call "_law_equal" (.cons (.call "constant" (.cons (.var 4) (.cons (.var 8) .nil))) (.cons (.tup (.cons (.var 4) (.cons (.prim .tuple (.cons (.lc (.any (.var 7)) [13] (.one 13) .yes (.var 8)) .nil)) .nil))) .nil)))) (.cons (.ret (.con (.bl false)))
    .nil) .nil)
    .nil)
def b_law_3 : Sxs :=
  (.cons (.iff (.not (.call "_law_is_bool" (.cons (.call "is_function" (.cons (.var 6) .nil)) (.cons (.call "_law_function" (.cons (.var 6) .nil)) .nil)))) (.cons (.ret (.con (.bl false)))
    .nil) .nil)
    .nil)
def b_law : Sxs :=
  (.cons (.asg 1 (.call "_law_pool" (.cons (.var 0) .nil)))
    (.cons (.asg 2 (.call "_law_drawn" (.cons (.var 1) (.cons (.con (.int 0)) (.cons (.con (.int 4)) .nil)))))
    (.cons (.asg 3 (.call "_law_draw_list" (.cons (.var 1) .nil)))
    (.cons (.asg 4 (.idx (.var 2) (.con (.int 0))))
    (.cons (.asg 5 (.lst (.cons (.var 2) (.cons (.call "_law_bend" (.cons (.var 2) (.cons (.var 3) (.cons (.con (.int 1)) .nil)))) (.cons (.call "_law_bend" (.cons (.call "_law_bend" (.cons (.var 2) (.cons (.var 3) (.cons (.con (.int 9)) .nil)))) (.cons (.var 3) (.cons (.con (.int 17)) .nil)))) (.cons (.tup (.cons (.bin .Add (.var 4) (.con (.int 1))) (.cons (.idx (.var 2) (.con (.int 1))) .nil))) (.cons (.tup (.cons (.bin .Sub (.var 4) (.con (.int 1))) (.cons (.idx (.var 2) (.con (.int 1))) .nil))) (.cons (.tup (.cons (.var 4) (.cons (.prim .list (.cons (.idx (.var 2) (.con (.int 1))) .nil)) .nil))) (.cons (.prim .list (.cons (.var 2) .nil)) (.cons (.con .non) .nil))))))))))
    (.cons (.asg 5 (.bin .Add (.var 5) (.lst (.cons (.tup (.cons (.var 4) (.cons (.slc (.idx (.var 2) (.con (.int 1))) (.at (.con (.int 1))) .no) .nil))) (.cons (.tup (.cons (.var 4) (.cons (.bin .Add (.idx (.var 2) (.con (.int 1))) (.tup (.cons (.con (.int 0)) .nil))) .nil))) (.cons (.tup (.cons (.var 4) (.cons (.idx (.var 2) (.con (.int 1))) (.cons (.con (.int 0)) .nil)))) (.cons (.tup (.cons (.var 4) (.cons (.bin .Add (.slc (.idx (.var 2) (.con (.int 1))) .no (.at (.neg (.con (.int 1))))) (.tup (.cons (.con (.bl true)) .nil))) .nil))) (.cons (.tup (.cons (.var 4) (.cons (.bin .Add (.slc (.idx (.var 2) (.con (.int 1))) .no (.at (.neg (.con (.int 1))))) (.tup (.cons (.con (.int 2)) .nil))) .nil))) .nil))))))))
    (.cons (.for' (.any (.var 5)) (.one 6) b_law_3)
    (.cons (.asg 7 (.call "_law_rows" (.cons (.var 4) .nil)))
    (.cons (.iff (.cmp .Gt (.prim .len (.cons (.lc (.rng (.cons (.prim .len (.cons (.var 7) .nil)) .nil)) [9] (.one 9) (.tst (.not (.call "_law_equal" (.cons (.call "value_at" (.cons (.var 2) (.cons (.idx (.var 7) (.var 9)) .nil))) (.cons (.idx (.idx (.var 2) (.con (.int 1))) (.var 9)) .nil))))) (.var 9)) .nil)) (.con (.int 0))) (.cons (.ret (.con (.bl false)))
    .nil) .nil)
    (.cons (.for' (.any (.tup (.cons (.con (.int 0)) (.cons (.con (.int 1)) .nil)))) (.one 8) b_law_2)
    (.cons (.for' (.rng (.cons (.var 4) .nil)) (.one 9) b_law_1)
    (.cons (.asg 10 (.bin .Sub (.call "_law_pick" (.cons (.var 1) (.cons (.con (.int 7)) .nil))) (.con (.int 1))))
    (.cons (.asg 11 (.lc (.any (.var 7)) [13] (.one 13) .yes (.prim .sum (.cons (.var 13) .nil))))
    (.cons (.iff (.or (.not (.call "_law_equal" (.cons (.call "at_least" (.cons (.var 4) (.cons (.var 10) .nil))) (.cons (.tup (.cons (.var 4) (.cons (.prim .tuple (.cons (.lc (.any (.var 11)) [14] (.one 14) .yes (.prim .int (.cons (.cmp .GtE (.var 14) (.var 10)) .nil))) .nil)) .nil))) .nil)))) (.not (.call "_law_equal" (.cons (.call "exactly" (.cons (.var 4) (.cons (.var 10) .nil))) (.cons (.tup (.cons (.var 4) (.cons (.prim .tuple (.cons (.lc (.any (.var 11)) [14] (.one 14) .yes (.prim .int (.cons (.cmp .Eq (.var 14) (.var 10)) .nil))) .nil)) .nil))) .nil))))) (.cons (.ret (.con (.bl false)))
    .nil) .nil)
    (.cons (.iff (.or (.not (.call "_law_equal" (.cons (.call "at_most" (.cons (.var 4) (.cons (.var 10) .nil))) (.cons (.tup (.cons (.var 4) (.cons (.prim .tuple (.cons (.lc (.any (.var 11)) [14] (.one 14) .yes (.prim .int (.cons (.cmp .LtE (.var 14) (.var 10)) .nil))) .nil)) .nil))) .nil)))) (.not (.call "_law_equal" (.cons (.call "choice" .nil) (.cons (.tup (.cons (.con (.int 3)) (.cons (.tup (.cons (.con (.int 0)) (.cons (.con (.int 1)) (.cons (.con (.int 0)) (.cons (.con (.int 1)) (.cons (.con (.int 0)) (.cons (.con (.int 0)) (.cons (.con (.int 1)) (.cons (.con (.int 1)) .nil))))))))) .nil))) .nil))))) (.cons (.ret (.con (.bl false)))
    .nil) .nil)
    (.cons (.iff (.not (.call "_law_equal" (.cons (.call "parity" (.cons (.var 4) .nil)) (.cons (.tup (.cons (.var 4) (.cons (.prim .tuple (.cons (.lc (.any (.var 11)) [14] (.one 14) .yes (.bin .Mod (.var 14) (.con (.int 2)))) .nil)) .nil))) .nil)))) (.cons (.ret (.con (.bl false)))
    .nil) .nil)
    (.cons (.asg 12 (.call "_law_pick" (.cons (.var 1) (.cons (.con (.int 4)) .nil))))
    (.cons (.ret (.and (.call "_law_equal" (.cons (.call "all_functions" (.cons (.var 12) .nil)) (.cons (.lc (.any (.call "_law_rows" (.cons (.bin .LShift (.con (.int 1)) (.var 12)) .nil))) [13] (.one 13) .yes (.tup (.cons (.var 12) (.cons (.var 13) .nil)))) .nil))) (.cmp .Is (.call "is_function" (.cons (.tup (.cons (.con (.int 5)) (.cons (.bin .Mult (.tup (.cons (.con (.int 0)) .nil)) (.con (.int 32))) .nil))) .nil)) (.con (.bl false)))))
    .nil))))))))))))))))))
def mk (x : Str) (i : Nat) (N ps : List Str) (b : Sxs) (keep : Bool := false) : Rw := { d := ⟨(x, none), x, x, defArgs (top i), defBody (top i), defScope (top i), [], []⟩, N := N, ps := ps, body := b, keep := keep }
def rows : List Rw := [
  mk "is_whole" 1 ["value"] ["value"] b_is_whole,
  mk "is_from" 2 ["value", "low", "high"] ["value", "low", "high"] b_is_from,
  mk "is_numbers" 3 ["value", "item"] ["value"] b_is_numbers,
  mk "is_bits" 4 ["value", "size", "bit"] ["value", "size"] b_is_bits,
  mk "all_bits" 5 ["n", "found", "_", "row", "bit"] ["n"] b_all_bits,
  mk "number_of" 6 ["bits", "found", "bit"] ["bits"] b_number_of,
  mk "is_function" 9 ["value"] ["value"] b_is_function,
  mk "value_at" 10 ["function", "bits"] ["function", "bits"] b_value_at,
  mk "constant" 11 ["n", "bit"] ["n", "bit"] b_constant,
  mk "variable" 12 ["n", "k", "bits"] ["n", "k"] b_variable,
  mk "at_least" 13 ["n", "size", "bits"] ["n", "size"] b_at_least,
  mk "exactly" 14 ["n", "size", "bits"] ["n", "size"] b_exactly,
  mk "at_most" 15 ["n", "size", "bits"] ["n", "size"] b_at_most,
  mk "choice" 16 ["bits"] [] b_choice,
  mk "parity" 17 ["n", "bits"] ["n"] b_parity,
  mk "all_functions" 18 ["n", "bits"] ["n"] b_all_functions,
  mk "_law_cell" 20 ["script", "k"] ["script", "k"] b__law_cell,
  mk "_law_draws" 21 ["cell", "amount", "rows", "left", "k", "blended"] ["cell", "amount"] b__law_draws,
  mk "_law_is_int" 22 ["x"] ["x"] b__law_is_int,
  mk "_law_is_bool" 23 ["x", "due"] ["x", "due"] b__law_is_bool,
  mk "_law_kind" 24 ["x"] ["x"] b__law_kind,
  mk "_law_equal" 25 ["x", "due", "key", "k", "other"] ["x", "due"] b__law_equal,
  mk "_law_numbers_in" 26 ["value", "amount", "item"] ["value", "amount"] b__law_numbers_in,
  mk "_law_bend" 27 ["value", "draws", "at", "draw", "k", "way"] ["value", "draws", "at"] b__law_bend,
  mk "_law_pool" 28 ["script", "rows", "k"] ["script"] b__law_pool true,
  mk "_law_pick" 29 ["pool", "amount", "at", "turn"] ["pool", "amount"] b__law_pick,
  mk "_law_rows" 30 ["n", "found", "k", "row"] ["n"] b__law_rows,
  mk "_law_bits" 31 ["value", "size", "x"] ["value", "size"] b__law_bits,
  mk "_law_function" 32 ["value"] ["value"] b__law_function,
  mk "_law_under" 33 ["one", "two", "k"] ["one", "two"] b__law_under,
  mk "_law_drawn" 34 ["pool", "low", "most", "n", "way", "lot", "weights", "bound", "share", "k", "bits"] ["pool", "low", "most"] b__law_drawn,
  mk "_law_risen" 35 ["pool", "n", "lows", "j", "k", "bits", "low"] ["pool", "n"] b__law_risen,
  mk "_law_draw_list" 36 ["pool", "k"] ["pool"] b__law_draw_list,
  mk "law" 37 ["script", "pool", "f", "draws", "n", "values", "value", "rows", "bit", "k", "size", "sums", "m", "bits", "x"] ["script"] b_law]
def gi : List (Str × Int) := [("MOST_VARIABLES", 4)]
def RT : Tab := tabOf rows
theorem t_is_whole : RT "is_whole" = some ⟨1, 1, b_is_whole, false⟩ := by kernel_rfl
theorem t_is_from : RT "is_from" = some ⟨3, 3, b_is_from, false⟩ := by kernel_rfl
theorem t_is_numbers : RT "is_numbers" = some ⟨2, 1, b_is_numbers, false⟩ := by kernel_rfl
theorem t_is_bits : RT "is_bits" = some ⟨3, 2, b_is_bits, false⟩ := by kernel_rfl
theorem t_all_bits : RT "all_bits" = some ⟨5, 1, b_all_bits, false⟩ := by kernel_rfl
theorem t_number_of : RT "number_of" = some ⟨3, 1, b_number_of, false⟩ := by kernel_rfl
theorem t_is_function : RT "is_function" = some ⟨1, 1, b_is_function, false⟩ := by kernel_rfl
theorem t_value_at : RT "value_at" = some ⟨2, 2, b_value_at, false⟩ := by kernel_rfl
theorem t_constant : RT "constant" = some ⟨2, 2, b_constant, false⟩ := by kernel_rfl
theorem t_variable : RT "variable" = some ⟨3, 2, b_variable, false⟩ := by kernel_rfl
theorem t_at_least : RT "at_least" = some ⟨3, 2, b_at_least, false⟩ := by kernel_rfl
theorem t_exactly : RT "exactly" = some ⟨3, 2, b_exactly, false⟩ := by kernel_rfl
theorem t_at_most : RT "at_most" = some ⟨3, 2, b_at_most, false⟩ := by kernel_rfl
theorem t_choice : RT "choice" = some ⟨1, 0, b_choice, false⟩ := by kernel_rfl
theorem t_parity : RT "parity" = some ⟨2, 1, b_parity, false⟩ := by kernel_rfl
theorem t_all_functions : RT "all_functions" = some ⟨2, 1, b_all_functions, false⟩ := by kernel_rfl
theorem t__law_cell : RT "_law_cell" = some ⟨2, 2, b__law_cell, false⟩ := by kernel_rfl
theorem t__law_draws : RT "_law_draws" = some ⟨6, 2, b__law_draws, false⟩ := by kernel_rfl
theorem t__law_is_int : RT "_law_is_int" = some ⟨1, 1, b__law_is_int, false⟩ := by kernel_rfl
theorem t__law_is_bool : RT "_law_is_bool" = some ⟨2, 2, b__law_is_bool, false⟩ := by kernel_rfl
theorem t__law_kind : RT "_law_kind" = some ⟨1, 1, b__law_kind, false⟩ := by kernel_rfl
theorem t__law_equal : RT "_law_equal" = some ⟨5, 2, b__law_equal, false⟩ := by kernel_rfl
theorem t__law_numbers_in : RT "_law_numbers_in" = some ⟨3, 2, b__law_numbers_in, false⟩ := by kernel_rfl
theorem t__law_bend : RT "_law_bend" = some ⟨6, 3, b__law_bend, false⟩ := by kernel_rfl
theorem t__law_pool : RT "_law_pool" = some ⟨3, 1, b__law_pool, true⟩ := by kernel_rfl
theorem t__law_pick : RT "_law_pick" = some ⟨4, 2, b__law_pick, false⟩ := by kernel_rfl
theorem t__law_rows : RT "_law_rows" = some ⟨4, 1, b__law_rows, false⟩ := by kernel_rfl
theorem t__law_bits : RT "_law_bits" = some ⟨3, 2, b__law_bits, false⟩ := by kernel_rfl
theorem t__law_function : RT "_law_function" = some ⟨1, 1, b__law_function, false⟩ := by kernel_rfl
theorem t__law_under : RT "_law_under" = some ⟨3, 2, b__law_under, false⟩ := by kernel_rfl
theorem t__law_drawn : RT "_law_drawn" = some ⟨11, 3, b__law_drawn, false⟩ := by kernel_rfl
theorem t__law_risen : RT "_law_risen" = some ⟨7, 2, b__law_risen, false⟩ := by kernel_rfl
theorem t__law_draw_list : RT "_law_draw_list" = some ⟨2, 1, b__law_draw_list, false⟩ := by kernel_rfl
theorem t_law : RT "law" = some ⟨15, 1, b_law, false⟩ := by kernel_rfl
theorem chk : ∀ r ∈ rows, chkRow rows (giD gi) r = true := by
  have h : (rows.all fun r => chkRow rows (giD gi) r) = true := by decide +kernel
  exact List.all_eq_true.mp h
theorem rowB : ∀ r ∈ rows, RowB r := by
  intro r hr
  simp only [rows, List.mem_cons, List.not_mem_nil, or_false] at hr
  rcases hr with rfl | rfl | rfl | rfl | rfl | rfl | rfl | rfl | rfl | rfl | rfl | rfl | rfl | rfl | rfl | rfl | rfl | rfl | rfl | rfl | rfl | rfl | rfl | rfl | rfl | rfl | rfl | rfl | rfl | rfl | rfl | rfl | rfl | rfl
  · exact fun kV doc pm an cdv ct us hl => match us, hl with | [_], _ => rfl
  · exact fun kV doc pm an cdv ct us hl => match us, hl with | [_, _, _], _ => rfl
  · exact fun kV doc pm an cdv ct us hl => match us, hl with | [_], _ => rfl
  · exact fun kV doc pm an cdv ct us hl => match us, hl with | [_, _], _ => rfl
  · exact fun kV doc pm an cdv ct us hl => match us, hl with | [_], _ => rfl
  · exact fun kV doc pm an cdv ct us hl => match us, hl with | [_], _ => rfl
  · exact fun kV doc pm an cdv ct us hl => match us, hl with | [_], _ => rfl
  · exact fun kV doc pm an cdv ct us hl => match us, hl with | [_, _], _ => rfl
  · exact fun kV doc pm an cdv ct us hl => match us, hl with | [_, _], _ => rfl
  · exact fun kV doc pm an cdv ct us hl => match us, hl with | [_, _], _ => rfl
  · exact fun kV doc pm an cdv ct us hl => match us, hl with | [_, _], _ => rfl
  · exact fun kV doc pm an cdv ct us hl => match us, hl with | [_, _], _ => rfl
  · exact fun kV doc pm an cdv ct us hl => match us, hl with | [_, _], _ => rfl
  · exact fun kV doc pm an cdv ct us hl => match us, hl with | [], _ => rfl
  · exact fun kV doc pm an cdv ct us hl => match us, hl with | [_], _ => rfl
  · exact fun kV doc pm an cdv ct us hl => match us, hl with | [_], _ => rfl
  · exact fun kV doc pm an cdv ct us hl => match us, hl with | [_, _], _ => rfl
  · exact fun kV doc pm an cdv ct us hl => match us, hl with | [_, _], _ => rfl
  · exact fun kV doc pm an cdv ct us hl => match us, hl with | [_], _ => rfl
  · exact fun kV doc pm an cdv ct us hl => match us, hl with | [_, _], _ => rfl
  · exact fun kV doc pm an cdv ct us hl => match us, hl with | [_], _ => rfl
  · exact fun kV doc pm an cdv ct us hl => match us, hl with | [_, _], _ => rfl
  · exact fun kV doc pm an cdv ct us hl => match us, hl with | [_, _], _ => rfl
  · exact fun kV doc pm an cdv ct us hl => match us, hl with | [_, _, _], _ => rfl
  · exact fun kV doc pm an cdv ct us hl => match us, hl with | [_], _ => rfl
  · exact fun kV doc pm an cdv ct us hl => match us, hl with | [_, _], _ => rfl
  · exact fun kV doc pm an cdv ct us hl => match us, hl with | [_], _ => rfl
  · exact fun kV doc pm an cdv ct us hl => match us, hl with | [_, _], _ => rfl
  · exact fun kV doc pm an cdv ct us hl => match us, hl with | [_], _ => rfl
  · exact fun kV doc pm an cdv ct us hl => match us, hl with | [_, _], _ => rfl
  · exact fun kV doc pm an cdv ct us hl => match us, hl with | [_, _, _], _ => rfl
  · exact fun kV doc pm an cdv ct us hl => match us, hl with | [_, _], _ => rfl
  · exact fun kV doc pm an cdv ct us hl => match us, hl with | [_], _ => rfl
  · exact fun kV doc pm an cdv ct us hl => match us, hl with | [_], _ => rfl
def loose0 : List Str := ["is_whole", "is_from", "is_numbers", "is_bits", "all_bits", "number_of", "is_function", "value_at", "constant", "variable", "at_least", "exactly", "at_most", "choice", "parity", "all_functions"]
def loose1 : List Str := ["_law_cell", "_law_draws", "_law_is_int", "_law_is_bool", "_law_kind", "_law_equal", "_law_numbers_in", "_law_bend", "_law_pool", "_law_pick", "_law_rows", "_law_bits", "_law_function", "_law_under", "_law_drawn", "_law_risen"]
def loose2 : List Str := ["_law_draw_list", "MOST_VARIABLES"]
def loose : List Str := loose0 ++ loose1 ++ loose2
abbrev R : PySem.W.OpenRow := PySem.W.OpenLaw.row PySem.Challenge.rw_truthwright_k01_functions_told
def fns : List He.DefD := rows.map (·.d)
def fas : List He.Fa := faOf rows gi
abbrev hk : PySem.W.Hook := He.hookD 4 fas fns
def ob (s : PySem.W.SharedT) : He.AlD := He.obsDG 4 fas fns (HandSHeadRun.getT s)
theorem ob_eq (s : PySem.W.SharedT) : ob s = hk.obs s.abs := He.obsDG_eq (HandSHeadRun.getT_eq s)
theorem run (w : World) : HandSHeadRun.RunEq R (PySem.W.view R.prog [37]) hk ob 4000 loose w := by
  intro os
  kernel_rfl
end L2.L_k01

section
open PySem PySem.W PySem.Calls PyProof.Rows
theorem L2.L_k01.holds (hL : ∀ ns : List Int, ns.length ≤ 63 → ∃ st', L2.Ev.callT L2.L_k01.RT 200 ("law" : Str) [.scr ns] [] = some (.val (.bl true), st')) : PySem.Challenge.rw_truthwright_k01_functions_told.Holds := by
  w_on; o_law
  refine HandSHeadRun.head_any (r := OpenLaw.row PySem.Challenge.rw_truthwright_k01_functions_told) (q := view (OpenLaw.row PySem.Challenge.rw_truthwright_k01_functions_told).prog [37]) (H := L2.L_k01.hk) (ob := L2.L_k01.ob) (M := 4000) (loose := L2.L_k01.loose) (d := HandSHeadRun.topDef (OpenLaw.row PySem.Challenge.rw_truthwright_k01_functions_told).prog 37) (kwd := []) L2.L_k01.ob_eq
    (by kernel_rfl) (fun s => by kernel_rfl) L2.L_k01.run (by kernel_rfl) (by kernel_rfl) (by kernel_rfl) (by rfl) (by first | assumption | decide +kernel) (by decide +kernel) ⟨rfl, rfl, rfl, rfl, rfl, by decide +kernel⟩ ?hw ?hc
  case hw => w_witness2
  case hc =>
    refine L2.walk_ofE (l := PySem.Challenge.rw_truthwright_k01_functions_told) (n := 63) (k := 200) (x := "script") (CX := L2.CX0) rfl (by decide) (by kernel_rfl) ⟨rfl, by decide, by decide⟩ ?F (fun _ _ _ _ z => z)
    intro w mg fa h Y G hmg0
    obtain ⟨K, KX, c⟩ := Y
    have hmg : mg ("law" : PySem.Str) = some (.ref fa) := by
      have e : (HandSHeadRun.topDef (OpenLaw.row PySem.Challenge.rw_truthwright_k01_functions_told).prog 37).name = ("law" : PySem.Str) := by kernel_rfl
      rw [← e]
      exact hmg0
    obtain ⟨r, hr, hp⟩ : ∃ r, L2.Ev.rowOf L2.L_k01.rows "law" = some r ∧ r.ps = [("script" : Str)] := ⟨_, by rfl, by rfl⟩
    obtain ⟨fd, hb, hF⟩ := L2.Ev.law_fn (P := (PySem.Challenge.rw_truthwright_k01_functions_told).prog) (w := w) (k := 200) KX G L2.L_k01.chk L2.L_k01.rowB c hr hp hmg
    exact ⟨K, fd, _, KX, hb, fun H a ns hl hO hS => L2.Ev.law_sp hL hl hO hS, hF⟩
end
set_option Elab.async false
set_option linter.all false
set_option maxRecDepth 100000
set_option maxHeartbeats 1000000
namespace L2.L_k01
open PySem PySem.Spec PyProof.Rows L2 L2.Ev
--LIB pool
/-! ### the pool -/
def PS (c : Int) (g : Sto) : Sto := .live [.int c] :: g
def PW (xs : List Int) : Wv := .pool (xs.map .int) 0
def DrawsAt (cell n : Int) (st : Sto) (j : Nat) (env' : En) (st' : Sto) : Prop := ∃ (l : Int) (a b : Option Wv) (rows : List Int), env' = [some (.val (.int cell)), some (.val (.int n)), some (.cel st.length), some (.val (.int l)), a, b] ∧ st' = st ++ [.live (rows.map .int)] ∧ rows.length = j ∧ ∀ r ∈ rows, 0 ≤ r ∧ r < 4096
theorem pow18 : powD (.int 10) (.int 18) = some (.int 1000000000000000000) := by rfl
theorem draws_turn {cf : CF} {cell n : Int} {st : Sto} {j : Nat} {i : Int} {env' : En} {st' : Sto} (hj : j ≤ 1000) (h : DrawsAt cell n st j env' st') : ∃ env2 st2, bodyF (.one 4) (sdenB b__law_draws_1) cf (.int i) env' st' = some (.nx env2, st2) ∧ DrawsAt cell n st (j + 1) env2 st2 := by
  obtain ⟨l, a, b, rows, rfl, rfl, hl, hr⟩ := h
  have hz : szOk ((rows.map D.int).length + 1) = true := szOk_le (by rw [List.length_map]; omega)
  have mod_b : ∀ x y : Int, 0 < y → 0 ≤ x % y ∧ x % y < y := fun x y h => ⟨Int.emod_nonneg _ (by omega), Int.emod_lt_of_pos _ h⟩
  have fin : ∀ (x : Int), 0 ≤ x → x < 4096 → ∀ (l' : Int) (a' b' : Option Wv), DrawsAt cell n st (j + 1) [some (.val (.int cell)), some (.val (.int n)), some (.cel st.length), some (.val (.int l')), a', b'] (st ++ [.live ((rows.map D.int) ++ [D.int x])]) := fun x h0 h1 l' a' b' =>
    ⟨l', a', b', rows ++ [x], rfl, by rw [List.map_append]; rfl, by rw [List.length_append, hl]; rfl, fun r hr' => by
      rcases List.mem_append.mp hr' with h | h
      · exact hr r h
      · simp at h; subst h; exact ⟨h0, h1⟩⟩
  have pos : (1000000000000000000 ≤ cell ∧ 0 < l) → ∃ env2 st2, bodyF (.one 4) (sdenB b__law_draws_1) cf (.int i) [some (.val (.int cell)), some (.val (.int n)), some (.cel st.length), some (.val (.int l)), a, b] (st ++ [.live (rows.map .int)]) = some (.nx env2, st2) ∧ DrawsAt cell n st (j + 1) env2 st2 := fun ⟨h1, h2⟩ => by
    refine ⟨[some (.val (.int cell)), some (.val (.int n)), some (.cel st.length), some (.val (.int (l / 4096))), some (.val (.int i)), b], st ++ [.live ((rows.map D.int) ++ [D.int (l % 4096)])], ?_, fin _ (mod_b _ _ (by decide)).1 (mod_b _ _ (by decide)).2 _ _ _⟩
    unfold b__law_draws_1
    simp only [sdenB, sden, den, denL, denI, denT, denO, sSeq, sPass, sAsg, sRet, sRetN, sIf, sExp, dVar, dCon, dBin, dCmp, dChain, dNeg, dNot, dAnd, dOr, dIte, dIdx, dNone, dPart, dSlc, dNil, dCons, dTup, dLst, dCall, dPrim, dIsi, dYes, dTst, dLc, dIter, dRng, startE, List.map_cons, List.map_nil, List.length_cons, List.length_nil, List.cons_append, List.nil_append, List.replicate, List.getElem?_cons_zero, List.getElem?_cons_succ, Option.bind_some, Option.bind_none, Option.map_some, Option.map_none, id, peek, peeks, froz, frozs, truth, truD, primW, primD, iterW, idxW, mapI, wipeE, List.set_cons_zero, List.set_cons_succ, binD, cmpD, Nat.zero_add, Nat.sub_self, Nat.reduceSub, Nat.reduceAdd, if_true, if_false, Bool.false_eq_true, reduceIte, bodyF, bindT, sets, stepC, fin0, sFor, sOwn, lstW, sSub, dApp, celW, Ev.intD, pow18, gtR, geR, h1, h2, decide_true, modR (show (0 : Int) < 4096 by decide), getL_last, putL_last, hz, fdivR (show (0 : Int) < 4096 by decide) (by decide)]
  have neg : ¬ (1000000000000000000 ≤ cell ∧ 0 < l) → ∃ env2 st2, bodyF (.one 4) (sdenB b__law_draws_1) cf (.int i) [some (.val (.int cell)), some (.val (.int n)), some (.cel st.length), some (.val (.int l)), a, b] (st ++ [.live (rows.map .int)]) = some (.nx env2, st2) ∧ DrawsAt cell n st (j + 1) env2 st2 := fun hn => by
    have k1 : ∀ x : Int, mulD (.int x) (.int 48271) = some (.int (x * 48271)) := fun x => mulR (mulOk_r (by decide) (by decide))
    have k2 : ∀ x : Int, mulD (.int x) (.int 69621) = some (.int (x * 69621)) := fun x => mulR (mulOk_r (by decide) (by decide))
    have k3 : ∀ x : Int, mulD (.int x) (.int 16807) = some (.int (x * 16807)) := fun x => mulR (mulOk_r (by decide) (by decide))
    have k4 : ∀ x : Int, mulD (.int x) (.int 7919) = some (.int (x * 7919)) := fun x => mulR (mulOk_r (by decide) (by decide))
    have k5 : ∀ x : Int, mulD (.int 13) (.int x) = some (.int (13 * x)) := fun x => mulR (mulOk_l (by decide) (by decide))
    have q1 : ∀ x : Int, modD (.int x) (.int 2147483647) = some (.int (x % 2147483647)) := fun x => modR (by decide)
    have q2 : ∀ x : Int, modD (.int x) (.int 2147483629) = some (.int (x % 2147483629)) := fun x => modR (by decide)
    have q3 : ∀ x : Int, modD (.int x) (.int 2147483587) = some (.int (x % 2147483587)) := fun x => modR (by decide)
    have q4 : ∀ x : Int, modD (.int x) (.int 4096) = some (.int (x % 4096)) := fun x => modR (by decide)
    have q5 : ∀ x : Int, fdivD (.int x) (.int 7) = some (.int (x / 7)) := fun x => fdivR (by decide) (by decide)
    obtain ⟨b1, e1⟩ : ∃ b1, (cell * 48271 + (i + 1) * 69621) % 2147483647 = b1 := ⟨_, rfl⟩
    have r1 := mod_b (cell * 48271 + (i + 1) * 69621) 2147483647 (by decide)
    rw [e1] at r1
    obtain ⟨b2, e2⟩ : ∃ b2, (b1 * b1 + b1 * 16807 + i * 7919) % 2147483629 = b2 := ⟨_, rfl⟩
    have r2 := mod_b (b1 * b1 + b1 * 16807 + i * 7919) 2147483629 (by decide)
    rw [e2] at r2
    obtain ⟨b3, e3⟩ : ∃ b3, (b2 * b2 + cell + 13 * i) % 2147483587 = b3 := ⟨_, rfl⟩
    have m1 : mulD (.int b1) (.int b1) = some (.int (b1 * b1)) := mulR (mulOk_l (by omega) (by omega))
    have m2 : mulD (.int b2) (.int b2) = some (.int (b2 * b2)) := mulR (mulOk_l (by omega) (by omega))
    refine ⟨[some (.val (.int cell)), some (.val (.int n)), some (.cel st.length), some (.val (.int l)), some (.val (.int i)), some (.val (.int b3))], st ++ [.live ((rows.map D.int) ++ [D.int (b3 / 7 % 4096)])], ?_, fin _ (mod_b _ _ (by decide)).1 (mod_b _ _ (by decide)).2 _ _ _⟩
    show sdenB b__law_draws_1 cf [some (.val (.int cell)), some (.val (.int n)), some (.cel st.length), some (.val (.int l)), some (.val (.int i)), b] (st ++ [.live (rows.map .int)]) = _
    unfold b__law_draws_1
    refine (run_nx ((run_f (w := .val (.bl false)) (st1 := st ++ [.live (rows.map .int)]) ?_ rfl).trans ?_)).trans run_nil
    · by_cases h1 : 1000000000000000000 ≤ cell
      · have h2 : ¬ 0 < l := fun h => hn ⟨h1, h⟩
        simp only [sdenB, sden, den, denL, denI, denT, denO, sSeq, sPass, sAsg, sRet, sRetN, sIf, sExp, dVar, dCon, dBin, dCmp, dChain, dNeg, dNot, dAnd, dOr, dIte, dIdx, dNone, dPart, dSlc, dNil, dCons, dTup, dLst, dCall, dPrim, dIsi, dYes, dTst, dLc, dIter, dRng, startE, List.map_cons, List.map_nil, List.length_cons, List.length_nil, List.cons_append, List.nil_append, List.replicate, List.getElem?_cons_zero, List.getElem?_cons_succ, Option.bind_some, Option.bind_none, Option.map_some, Option.map_none, id, peek, peeks, froz, frozs, truth, truD, primW, primD, iterW, idxW, mapI, wipeE, List.set_cons_zero, List.set_cons_succ, binD, cmpD, Nat.zero_add, Nat.sub_self, Nat.reduceSub, Nat.reduceAdd, if_true, if_false, Bool.false_eq_true, reduceIte, bodyF, bindT, sets, stepC, fin0, sFor, sOwn, lstW, sSub, dApp, celW, Ev.intD, pow18, gtR, geR, h1, h2, decide_true, decide_false]
      · simp only [sdenB, sden, den, denL, denI, denT, denO, sSeq, sPass, sAsg, sRet, sRetN, sIf, sExp, dVar, dCon, dBin, dCmp, dChain, dNeg, dNot, dAnd, dOr, dIte, dIdx, dNone, dPart, dSlc, dNil, dCons, dTup, dLst, dCall, dPrim, dIsi, dYes, dTst, dLc, dIter, dRng, startE, List.map_cons, List.map_nil, List.length_cons, List.length_nil, List.cons_append, List.nil_append, List.replicate, List.getElem?_cons_zero, List.getElem?_cons_succ, Option.bind_some, Option.bind_none, Option.map_some, Option.map_none, id, peek, peeks, froz, frozs, truth, truD, primW, primD, iterW, idxW, mapI, wipeE, List.set_cons_zero, List.set_cons_succ, binD, cmpD, Nat.zero_add, Nat.sub_self, Nat.reduceSub, Nat.reduceAdd, if_true, if_false, Bool.false_eq_true, reduceIte, bodyF, bindT, sets, stepC, fin0, sFor, sOwn, lstW, sSub, dApp, celW, Ev.intD, pow18, gtR, geR, h1, decide_true, decide_false]
    refine (run_nx (run_asg (w := .val (.int b1)) (st1 := st ++ [.live (rows.map .int)]) ?_)).trans ?_
    · simp only [sdenB, sden, den, denL, denI, denT, denO, sSeq, sPass, sAsg, sRet, sRetN, sIf, sExp, dVar, dCon, dBin, dCmp, dChain, dNeg, dNot, dAnd, dOr, dIte, dIdx, dNone, dPart, dSlc, dNil, dCons, dTup, dLst, dCall, dPrim, dIsi, dYes, dTst, dLc, dIter, dRng, startE, List.map_cons, List.map_nil, List.length_cons, List.length_nil, List.cons_append, List.nil_append, List.replicate, List.getElem?_cons_zero, List.getElem?_cons_succ, Option.bind_some, Option.bind_none, Option.map_some, Option.map_none, id, peek, peeks, froz, frozs, truth, truD, primW, primD, iterW, idxW, mapI, wipeE, List.set_cons_zero, List.set_cons_succ, binD, cmpD, Nat.zero_add, Nat.sub_self, Nat.reduceSub, Nat.reduceAdd, if_true, if_false, Bool.false_eq_true, reduceIte, bodyF, bindT, sets, stepC, fin0, sFor, sOwn, lstW, sSub, dApp, celW, Ev.intD, addR, k1, k2, q1, e1]
    refine (run_nx (run_asg (w := .val (.int b2)) (st1 := st ++ [.live (rows.map .int)]) ?_)).trans ?_
    · simp only [sdenB, sden, den, denL, denI, denT, denO, sSeq, sPass, sAsg, sRet, sRetN, sIf, sExp, dVar, dCon, dBin, dCmp, dChain, dNeg, dNot, dAnd, dOr, dIte, dIdx, dNone, dPart, dSlc, dNil, dCons, dTup, dLst, dCall, dPrim, dIsi, dYes, dTst, dLc, dIter, dRng, startE, List.map_cons, List.map_nil, List.length_cons, List.length_nil, List.cons_append, List.nil_append, List.replicate, List.getElem?_cons_zero, List.getElem?_cons_succ, Option.bind_some, Option.bind_none, Option.map_some, Option.map_none, id, peek, peeks, froz, frozs, truth, truD, primW, primD, iterW, idxW, mapI, wipeE, List.set_cons_zero, List.set_cons_succ, binD, cmpD, Nat.zero_add, Nat.sub_self, Nat.reduceSub, Nat.reduceAdd, if_true, if_false, Bool.false_eq_true, reduceIte, bodyF, bindT, sets, stepC, fin0, sFor, sOwn, lstW, sSub, dApp, celW, Ev.intD, addR, k3, k4, q2, e2, m1]
    refine (run_nx (run_asg (w := .val (.int b3)) (st1 := st ++ [.live (rows.map .int)]) ?_)).trans ?_
    · simp only [sdenB, sden, den, denL, denI, denT, denO, sSeq, sPass, sAsg, sRet, sRetN, sIf, sExp, dVar, dCon, dBin, dCmp, dChain, dNeg, dNot, dAnd, dOr, dIte, dIdx, dNone, dPart, dSlc, dNil, dCons, dTup, dLst, dCall, dPrim, dIsi, dYes, dTst, dLc, dIter, dRng, startE, List.map_cons, List.map_nil, List.length_cons, List.length_nil, List.cons_append, List.nil_append, List.replicate, List.getElem?_cons_zero, List.getElem?_cons_succ, Option.bind_some, Option.bind_none, Option.map_some, Option.map_none, id, peek, peeks, froz, frozs, truth, truD, primW, primD, iterW, idxW, mapI, wipeE, List.set_cons_zero, List.set_cons_succ, binD, cmpD, Nat.zero_add, Nat.sub_self, Nat.reduceSub, Nat.reduceAdd, if_true, if_false, Bool.false_eq_true, reduceIte, bodyF, bindT, sets, stepC, fin0, sFor, sOwn, lstW, sSub, dApp, celW, Ev.intD, addR, k5, q3, e3, m2]
    refine (run_nx (run_exp (w := .val .non) (st1 := st ++ [.live ((rows.map D.int) ++ [D.int (b3 / 7 % 4096)])]) ?_)).trans run_nil
    · simp only [sdenB, sden, den, denL, denI, denT, denO, sSeq, sPass, sAsg, sRet, sRetN, sIf, sExp, dVar, dCon, dBin, dCmp, dChain, dNeg, dNot, dAnd, dOr, dIte, dIdx, dNone, dPart, dSlc, dNil, dCons, dTup, dLst, dCall, dPrim, dIsi, dYes, dTst, dLc, dIter, dRng, startE, List.map_cons, List.map_nil, List.length_cons, List.length_nil, List.cons_append, List.nil_append, List.replicate, List.getElem?_cons_zero, List.getElem?_cons_succ, Option.bind_some, Option.bind_none, Option.map_some, Option.map_none, id, peek, peeks, froz, frozs, truth, truD, primW, primD, iterW, idxW, mapI, wipeE, List.set_cons_zero, List.set_cons_succ, binD, cmpD, Nat.zero_add, Nat.sub_self, Nat.reduceSub, Nat.reduceAdd, if_true, if_false, Bool.false_eq_true, reduceIte, bodyF, bindT, sets, stepC, fin0, sFor, sOwn, lstW, sSub, dApp, celW, Ev.intD, q4, q5, getL_last, putL_last, hz]
  by_cases c : 1000000000000000000 ≤ cell ∧ 0 < l
  · exact pos c
  · exact neg c
theorem ev_law_draws {k : Nat} {cell nn : Int} {n : Nat} {st : Sto} (hnn : nn = n) (hn : n ≤ 1000) : ∃ rows : List Int, rows.length = n ∧ (∀ r ∈ rows, 0 ≤ r ∧ r < 4096) ∧ callT RT (k + 1) "_law_draws" [.val (.int cell), .val (.int nn)] st = some (.val (.lst (rows.map .int)), st) := by
  obtain ⟨env', st', e, l, a, b, rows, rfl, rfl, hl, hr⟩ := forL_cnt (f := bodyF (.one 4) (sdenB b__law_draws_1) (callT RT k)) (ds := rgD 0 n) (i := 0) (P := DrawsAt cell nn st) (env := [some (.val (.int cell)), some (.val (.int nn)), some (.cel st.length), some (.val (.int cell)), none, none]) (st := st ++ [.live []])
    ⟨cell, none, none, [], rfl, rfl, rfl, fun r hr => by simp at hr⟩ (fun j d hd env' st' hp => by
      obtain ⟨rfl, hj⟩ := rgD_at hd
      rw [Int.zero_add]
      exact draws_turn (by omega) hp)
  rw [rgD_len, Nat.zero_add] at hl
  refine ⟨rows, hl, hr, ?_⟩
  refine call_cel (st1 := st) (g := [.live (rows.map .int)]) (n := st.length) (c := .live (rows.map .int)) t__law_draws rfl rfl rfl (Nat.le_refl _) get_last ?_
  have hrg : rngW [.val (.int nn)] = some (.items (rgD 0 n)) := rng1 hnn (by omega)
  have hz : szOk 0 = true := rfl
  unfold b__law_draws
  refine (run_nx (run_own (ds := []) (st1 := st) ?_)).trans ?_
  · simp only [sdenB, sden, den, denL, denI, denT, denO, sSeq, sPass, sAsg, sRet, sRetN, sIf, sExp, dVar, dCon, dBin, dCmp, dChain, dNeg, dNot, dAnd, dOr, dIte, dIdx, dNone, dPart, dSlc, dNil, dCons, dTup, dLst, dCall, dPrim, dIsi, dYes, dTst, dLc, dIter, dRng, startE, List.map_cons, List.map_nil, List.length_cons, List.length_nil, List.cons_append, List.nil_append, List.replicate, List.getElem?_cons_zero, List.getElem?_cons_succ, Option.bind_some, Option.bind_none, Option.map_some, Option.map_none, id, peek, peeks, froz, frozs, truth, truD, primW, primD, iterW, idxW, mapI, wipeE, List.set_cons_zero, List.set_cons_succ, binD, cmpD, Nat.zero_add, Nat.sub_self, Nat.reduceSub, Nat.reduceAdd, if_true, if_false, Bool.false_eq_true, reduceIte, bodyF, bindT, sets, stepC, fin0, sFor, sOwn, lstW, sSub, dApp, celW, Ev.intD, hz]
  refine (run_nx (run_asg (w := .val (.int cell)) (st1 := st ++ [.live []]) rfl)).trans ?_
  refine (run_nx ((run_for (xs := rgD 0 n) (st1 := st ++ [.live []]) ?_).trans e)).trans ?_
  · simp only [sdenB, sden, den, denL, denI, denT, denO, sSeq, sPass, sAsg, sRet, sRetN, sIf, sExp, dVar, dCon, dBin, dCmp, dChain, dNeg, dNot, dAnd, dOr, dIte, dIdx, dNone, dPart, dSlc, dNil, dCons, dTup, dLst, dCall, dPrim, dIsi, dYes, dTst, dLc, dIter, dRng, startE, List.map_cons, List.map_nil, List.length_cons, List.length_nil, List.cons_append, List.nil_append, List.replicate, List.getElem?_cons_zero, List.getElem?_cons_succ, Option.bind_some, Option.bind_none, Option.map_some, Option.map_none, id, peek, peeks, froz, frozs, truth, truD, primW, primD, iterW, idxW, mapI, wipeE, List.set_cons_zero, List.set_cons_succ, binD, cmpD, Nat.zero_add, Nat.sub_self, Nat.reduceSub, Nat.reduceAdd, if_true, if_false, Bool.false_eq_true, reduceIte, bodyF, bindT, sets, stepC, fin0, sFor, sOwn, lstW, sSub, dApp, celW, Ev.intD, hrg]
  exact run_rt (run_ret rfl)
theorem ev_law_cell {k : Nat} {ns : List Int} {j : Int} {st : Sto} (h0 : 0 ≤ j) : ∃ c : Int, callT RT (k + 1) "_law_cell" [.scr ns, .val (.int j)] st = some (.val (.int c), st) := by
  obtain ⟨len, hlen, hlen2⟩ := len_ex ns
  by_cases h : j < len
  · obtain ⟨c, hc, _⟩ := atI_in (xs := ns) (i := j) h0 (by omega)
    refine ⟨c, call_ret t__law_cell rfl rfl ?_⟩
    show sdenB b__law_cell _ [some (.scr ns), some (.val (.int j))] st = _
    unfold b__law_cell
    refine run_rt ((run_t (w := .val (.bl true)) (st1 := st) ?_ rfl).trans (run_rt (run_ret ?_)))
    · simp only [sdenB, sden, den, denL, denI, denT, denO, sSeq, sPass, sAsg, sRet, sRetN, sIf, sExp, dVar, dCon, dBin, dCmp, dChain, dNeg, dNot, dAnd, dOr, dIte, dIdx, dNone, dPart, dSlc, dNil, dCons, dTup, dLst, dCall, dPrim, dIsi, dYes, dTst, dLc, dIter, dRng, startE, List.map_cons, List.map_nil, List.length_cons, List.length_nil, List.cons_append, List.nil_append, List.replicate, List.getElem?_cons_zero, List.getElem?_cons_succ, Option.bind_some, Option.bind_none, Option.map_some, Option.map_none, id, peek, peeks, froz, frozs, truth, truD, primW, primD, iterW, idxW, mapI, wipeE, List.set_cons_zero, List.set_cons_succ, binD, cmpD, Nat.zero_add, Nat.sub_self, Nat.reduceSub, Nat.reduceAdd, if_true, if_false, Bool.false_eq_true, reduceIte, bodyF, bindT, sets, stepC, fin0, sFor, sOwn, lstW, sSub, dApp, celW, Ev.intD, hlen, ltR, h, decide_true]
    · simp only [sdenB, sden, den, denL, denI, denT, denO, sSeq, sPass, sAsg, sRet, sRetN, sIf, sExp, dVar, dCon, dBin, dCmp, dChain, dNeg, dNot, dAnd, dOr, dIte, dIdx, dNone, dPart, dSlc, dNil, dCons, dTup, dLst, dCall, dPrim, dIsi, dYes, dTst, dLc, dIter, dRng, startE, List.map_cons, List.map_nil, List.length_cons, List.length_nil, List.cons_append, List.nil_append, List.replicate, List.getElem?_cons_zero, List.getElem?_cons_succ, Option.bind_some, Option.bind_none, Option.map_some, Option.map_none, id, peek, peeks, froz, frozs, truth, truD, primW, primD, iterW, idxW, mapI, wipeE, List.set_cons_zero, List.set_cons_succ, binD, cmpD, Nat.zero_add, Nat.sub_self, Nat.reduceSub, Nat.reduceAdd, if_true, if_false, Bool.false_eq_true, reduceIte, bodyF, bindT, sets, stepC, fin0, sFor, sOwn, lstW, sSub, dApp, celW, Ev.intD, hc]
  · refine ⟨0, call_ret t__law_cell rfl rfl ?_⟩
    show sdenB b__law_cell _ [some (.scr ns), some (.val (.int j))] st = _
    unfold b__law_cell
    refine (run_nx ((run_f (w := .val (.bl false)) (st1 := st) ?_ rfl).trans run_nil)).trans (run_rt (run_ret rfl))
    simp only [sdenB, sden, den, denL, denI, denT, denO, sSeq, sPass, sAsg, sRet, sRetN, sIf, sExp, dVar, dCon, dBin, dCmp, dChain, dNeg, dNot, dAnd, dOr, dIte, dIdx, dNone, dPart, dSlc, dNil, dCons, dTup, dLst, dCall, dPrim, dIsi, dYes, dTst, dLc, dIter, dRng, startE, List.map_cons, List.map_nil, List.length_cons, List.length_nil, List.cons_append, List.nil_append, List.replicate, List.getElem?_cons_zero, List.getElem?_cons_succ, Option.bind_some, Option.bind_none, Option.map_some, Option.map_none, id, peek, peeks, froz, frozs, truth, truD, primW, primD, iterW, idxW, mapI, wipeE, List.set_cons_zero, List.set_cons_succ, binD, cmpD, Nat.zero_add, Nat.sub_self, Nat.reduceSub, Nat.reduceAdd, if_true, if_false, Bool.false_eq_true, reduceIte, bodyF, bindT, sets, stepC, fin0, sFor, sOwn, lstW, sSub, dApp, celW, Ev.intD, hlen, ltR, h, decide_false]
def PoolOk (xs : List Int) : Prop := 1 ≤ xs.length ∧ xs.length ≤ 100
theorem ev_law_pool {k : Nat} {ns : List Int} : ∃ xs : List Int, PoolOk xs ∧ callT RT (k + 2) "_law_pool" [.scr ns] [] = some (PW xs, PS 0 []) := by
  obtain ⟨len, hlen, hlen2⟩ := len_ex ns
  have hl0 : 0 ≤ len := by omega
  obtain ⟨mm, m, hm, hmm, hm1, hm4⟩ : ∃ (mm : Int) (m : Nat), (if (if len > 1 then len else 1) < 4 then (if len > 1 then len else 1) else 4) = mm ∧ mm = (m : Int) ∧ 1 ≤ m ∧ m ≤ 4 := by
    refine ⟨_, ((if (if len > 1 then len else 1) < 4 then (if len > 1 then len else 1) else 4) : Int).toNat, rfl, ?_, ?_, ?_⟩ <;> split <;> (try split) <;> omega
  have loop := forL_cnt (f := bodyF (.one 2) (sdenB b__law_pool_1) (callT RT (k + 1))) (ds := rgD 0 m) (i := 0) (env := [some (.scr ns), some (.val (.lst [])), none]) (st := [])
    (P := fun j env st => ∃ (rows : List Int) (a : Option Wv), env = [some (.scr ns), some (.val (.lst (rows.map .int))), a] ∧ st = [] ∧ rows.length = 20 * j)
    ⟨[], none, rfl, rfl, rfl⟩ (fun j d hd env st hp => by
      obtain ⟨rows, a, rfl, rfl, hl⟩ := hp
      obtain ⟨rfl, hj⟩ := rgD_at hd
      obtain ⟨jj, hjj⟩ : ∃ jj : Int, 0 + ((j : Nat) : Int) = jj := ⟨_, rfl⟩
      rw [hjj]
      obtain ⟨c, hc⟩ := ev_law_cell (k := k) (ns := ns) (j := jj) (st := []) (by omega)
      obtain ⟨rs, hr1, hr2, hr3⟩ := ev_law_draws (k := k) (cell := c + 7 * jj) (nn := 20) (n := 20) (st := []) rfl (by decide)
      refine ⟨[some (.scr ns), some (.val (.lst ((rows ++ rs).map .int))), some (.val (.int jj))], [], ?_, rows ++ rs, _, rfl, rfl, by rw [List.length_append, hl, hr1]; omega⟩
      have k1 : mulD (.int 7) (.int jj) = some (.int (7 * jj)) := mulR (mulOk_l (by decide) (by decide))
      have hz : szOk ((rows.map D.int).length + (rs.map D.int).length) = true := szOk_le (by rw [List.length_map, List.length_map, hl, hr1]; omega)
      show sdenB b__law_pool_1 (callT RT (k + 1)) [some (.scr ns), some (.val (.lst (rows.map .int))), some (.val (.int jj))] [] = _
      unfold b__law_pool_1
      refine (run_nx (run_asg (w := .val (.lst ((rows ++ rs).map .int))) (st1 := []) ?_)).trans run_nil
      simp only [sdenB, sden, den, denL, denI, denT, denO, sSeq, sPass, sAsg, sRet, sRetN, sIf, sExp, dVar, dCon, dBin, dCmp, dChain, dNeg, dNot, dAnd, dOr, dIte, dIdx, dNone, dPart, dSlc, dNil, dCons, dTup, dLst, dCall, dPrim, dIsi, dYes, dTst, dLc, dIter, dRng, startE, List.map_cons, List.map_nil, List.length_cons, List.length_nil, List.cons_append, List.nil_append, List.replicate, List.getElem?_cons_zero, List.getElem?_cons_succ, Option.bind_some, Option.bind_none, Option.map_some, Option.map_none, id, peek, peeks, froz, frozs, truth, truD, primW, primD, iterW, idxW, mapI, wipeE, List.set_cons_zero, List.set_cons_succ, binD, cmpD, Nat.zero_add, Nat.sub_self, Nat.reduceSub, Nat.reduceAdd, if_true, if_false, Bool.false_eq_true, reduceIte, bodyF, bindT, sets, stepC, fin0, sFor, sOwn, lstW, sSub, dApp, celW, Ev.intD, hc, k1, addR, hr3, addD, hz, List.map_append])
  obtain ⟨env', st', e, rows, a, rfl, rfl, hl⟩ := loop
  rw [rgD_len, Nat.zero_add] at hl
  refine ⟨rows, ⟨by omega, by omega⟩, ?_⟩
  rw [call_eq t__law_pool]
  refine (if_pos rfl).trans ?_
  have hb : sdenB b__law_pool (callT RT (k + 1)) [some (.scr ns), none, none] [] = some (.rt (PW rows), PS 0 []) := by
    unfold b__law_pool
    refine (run_nx (run_asg (w := .val (.lst [])) (st1 := []) rfl)).trans ?_
    refine (run_nx ((run_for (xs := rgD 0 m) (st1 := []) ?_).trans e)).trans ?_
    · simp only [sdenB, sden, den, denL, denI, denT, denO, sSeq, sPass, sAsg, sRet, sRetN, sIf, sExp, dVar, dCon, dBin, dCmp, dChain, dNeg, dNot, dAnd, dOr, dIte, dIdx, dNone, dPart, dSlc, dNil, dCons, dTup, dLst, dCall, dPrim, dIsi, dYes, dTst, dLc, dIter, dRng, startE, List.map_cons, List.map_nil, List.length_cons, List.length_nil, List.cons_append, List.nil_append, List.replicate, List.getElem?_cons_zero, List.getElem?_cons_succ, Option.bind_some, Option.bind_none, Option.map_some, Option.map_none, id, peek, peeks, froz, frozs, truth, truD, primW, primD, iterW, idxW, mapI, wipeE, List.set_cons_zero, List.set_cons_succ, binD, cmpD, Nat.zero_add, Nat.sub_self, Nat.reduceSub, Nat.reduceAdd, if_true, if_false, Bool.false_eq_true, reduceIte, bodyF, bindT, sets, stepC, fin0, sFor, sOwn, lstW, sSub, dApp, celW, Ev.intD, hlen, maxD, minD, hm, rng1 hmm (show m ≤ 16777216 by omega)]
    · exact run_rt (run_ret rfl)
  show (sdenB b__law_pool (callT RT (k + 1)) [some (.scr ns), none, none] []).bind _ = _
  rw [hb]
  rfl
theorem ev_law_pick {k : Nat} {xs : List Int} {a c : Int} {g : Sto} (hx : PoolOk xs) (ha : 0 < a) (h0 : 0 ≤ c) (h1 : c < 2 ^ 60) : ∃ v : Int, 0 ≤ v ∧ v < a ∧ callT RT (k + 1) "_law_pick" [PW xs, .val (.int a)] (PS c g) = some (.val (.int v), PS (c + 1) g) := by
  obtain ⟨len, hlen, hlen2⟩ := len_ex xs
  obtain ⟨hx1, hx2⟩ := hx
  have hl1 : 1 ≤ len := by omega
  have hl2 : len ≤ 100 := by omega
  obtain ⟨r, hr⟩ : ∃ r, c % len = r := ⟨_, rfl⟩
  have r0 : 0 ≤ r := hr ▸ Int.emod_nonneg _ (by omega)
  have r1 : r < len := hr ▸ Int.emod_lt_of_pos _ (by omega)
  obtain ⟨q, hq⟩ : ∃ q, c / len = q := ⟨_, rfl⟩
  have q0 : 0 ≤ q := hq ▸ Int.ediv_nonneg h0 (by omega)
  have q1 : q ≤ c := hq ▸ Int.ediv_le_self _ h0
  obtain ⟨x, hx, _⟩ := atI_in (xs := xs) (i := r) r0 (by omega)
  obtain ⟨v, hv⟩ : ∃ v, (x + q * 1009 + q * c) % a = v := ⟨_, rfl⟩
  refine ⟨v, hv ▸ Int.emod_nonneg _ (by omega), hv ▸ Int.emod_lt_of_pos _ ha, ?_⟩
  refine call_sto (st1 := PS (c + 1) g) (g := []) t__law_pick rfl rfl rfl ?_
  show sdenB b__law_pick _ [some (PW xs), some (.val (.int a)), none, none] (PS c g) = _
  unfold b__law_pick
  have m1 : mulD (.int q) (.int 1009) = some (.int (q * 1009)) := mulR (mulOk_r (by decide) (by decide))
  have m2 : mulD (.int q) (.int c) = some (.int (q * c)) := mulR (mulOk_r (by omega) (by omega))
  have f1 : fdivD (.int c) (.int len) = some (.int (c / len)) := fdivR (by omega) (by omega)
  have f2 : modD (.int c) (.int len) = some (.int (c % len)) := modR (by omega)
  have f3 : ∀ y, modD (.int y) (.int a) = some (.int (y % a)) := fun y => modR ha
  have e0 : idxW (PW xs) (.val (.int 0)) (PS c g) = some (.val (.lst (xs.map .int))) := rfl
  have e0' : idxW (PW xs) (.val (.int 0)) (PS (c + 1) g) = some (.val (.lst (xs.map .int))) := rfl
  have e3 : idxW (.val (.lst (xs.map .int))) (.val (.int r)) (PS (c + 1) g) = some (.val (.int x)) := by
    simp only [idxW, peek, Option.bind_some, idxD, atI_map, hx, Option.map_some]
  have e1 : idxW (PW xs) (.val (.int 1)) (PS c g) = some (.cel 0) := rfl
  have e2 : idxW (.cel 0) (.val (.int 0)) (PS c g) = some (.val (.int c)) := rfl
  refine (run_nx (run_asg (w := .val (.int c)) (st1 := PS c g) ?_)).trans ?_
  · simp only [den, dIdx, dVar, dCon, List.getElem?_cons_zero, Option.bind_some, id, Option.map_some, e1, e2]
  refine (run_nx (env' := [some (PW xs), some (.val (.int a)), some (.val (.int c)), none]) (st' := PS (c + 1) g) ?_).trans ?_
  · have g1 : getL 0 (PS c g) = some [.int c] := rfl
    have g2 : putL 0 [.int (c + 1)] (PS c g) = PS (c + 1) g := rfl
    have g3 : ixN 1 0 = some 0 := by decide
    simp only [sden, sSub, den, dBin, dIdx, dVar, dCon, List.set_cons_zero, List.set_cons_succ, List.getElem?_cons_zero, List.getElem?_cons_succ, Option.bind_some, id, Option.map_some, peek, binD, addR, e1, celW, froz, g1, List.length_cons, List.length_nil, Nat.zero_add, g3, g2]
  refine (run_nx (run_asg (w := .val (.int q)) (st1 := PS (c + 1) g) ?_)).trans ?_
  · simp only [den, denL, dBin, dPrim, dCons, dNil, dIdx, dVar, dCon, List.getElem?_cons_zero, List.getElem?_cons_succ, Option.bind_some, id, Option.map_some, e0', peek, peeks, primW, primD, lenD, lenI_map, hlen, binD, f1, hq]
  refine run_rt (run_ret ?_)
  simp only [den, denL, dBin, dPrim, dCons, dNil, dIdx, dVar, dCon, List.set_cons_zero, List.set_cons_succ, List.getElem?_cons_zero, List.getElem?_cons_succ, Option.bind_some, id, Option.map_some, e0', peek, peeks, primW, primD, lenD, lenI_map, hlen, binD, f2, hr, e3, m1, m2, addR, Ev.intD, f3, hv, List.append_nil]
end L2.L_k01
set_option Elab.async false
set_option linter.all false
set_option maxRecDepth 100000
set_option maxHeartbeats 1000000
namespace L2.L_k01
open PySem PySem.Spec PyProof.Rows L2 L2.Ev
--LIB rows
def rowsI : Nat → List (List Int)
  | 0 => [[]]
  | n + 1 => (rowsI n).flatMap fun r => [r ++ [0], r ++ [1]]
def rowT (r : List Int) : D := .tup (r.map .int)
def rowsD (n : Nat) : D := .lst ((rowsI n).map rowT)
theorem rows0 (cf : CF) (st : Sto) : sdenB b__law_rows cf [some (.val (.int 0)), none, none, none] st = some (.rt (.val (rowsD 0)), st) := by kernel_rfl
theorem rows1 (cf : CF) (st : Sto) : sdenB b__law_rows cf [some (.val (.int 1)), none, none, none] st = some (.rt (.val (rowsD 1)), st) := by kernel_rfl
theorem rows2 (cf : CF) (st : Sto) : sdenB b__law_rows cf [some (.val (.int 2)), none, none, none] st = some (.rt (.val (rowsD 2)), st) := by kernel_rfl
theorem rows3 (cf : CF) (st : Sto) : sdenB b__law_rows cf [some (.val (.int 3)), none, none, none] st = some (.rt (.val (rowsD 3)), st) := by kernel_rfl
theorem rows4 (cf : CF) (st : Sto) : sdenB b__law_rows cf [some (.val (.int 4)), none, none, none] st = some (.rt (.val (rowsD 4)), st) := by kernel_rfl
theorem ev_law_rows {k n : Nat} {nn : Int} {st : Sto} (hnn : nn = n) (hn : n ≤ 4) : callT RT (k + 1) "_law_rows" [.val (.int nn)] st = some (.val (rowsD n), st) := by
  subst hnn
  refine call_ret t__law_rows rfl rfl ?_
  have : n = 0 ∨ n = 1 ∨ n = 2 ∨ n = 3 ∨ n = 4 := by omega
  rcases this with rfl | rfl | rfl | rfl | rfl
  · exact rows0 _ st
  · exact rows1 _ st
  · exact rows2 _ st
  · exact rows3 _ st
  · exact rows4 _ st
end L2.L_k01
set_option Elab.async false
set_option linter.all false
set_option maxRecDepth 100000
set_option maxHeartbeats 1000000
namespace L2.L_k01
open PySem PySem.Spec PyProof.Rows L2 L2.Ev
--LIB drawn
/-- the pool's count in the store -/
def CI (g : Sto) (c : Nat) (st : Sto) : Prop := ∃ cc : Int, cc = c ∧ st = PS cc g
def big : Nat := 1000000
/-- a pick, by the count -/
theorem pick_c {k : Nat} {xs : List Int} {a : Int} {g : Sto} {c : Nat} {st : Sto} (hx : PoolOk xs) (ha : 0 < a) (h : CI g c st) (hc : c + 1 ≤ big) : ∃ (v : Int) (st' : Sto), 0 ≤ v ∧ v < a ∧ CI g (c + 1) st' ∧ callT RT (k + 1) "_law_pick" [PW xs, .val (.int a)] st = some (.val (.int v), st') := by
  obtain ⟨cc, hcc, rfl⟩ := h
  unfold big at hc
  obtain ⟨v, h1, h2, h3⟩ := ev_law_pick (k := k) (xs := xs) (a := a) (c := cc) (g := g) hx ha (by omega) (by omega)
  exact ⟨v, _, h1, h2, ⟨cc + 1, by omega, rfl⟩, h3⟩
/-- a list of so many picks -/
theorem picks {k : Nat} {xs : List Int} {a : Int} {g : Sto} {n : Nat} {f : Ev.Step} {h : Int → Int} {P : Int → Prop} (hx : PoolOk xs) (ha : 0 < a) (hf : ∀ d st v st', callT RT (k + 1) "_law_pick" [PW xs, .val (.int a)] st = some (.val (.int v), st') → f d st = some ([.int (h v)], st'))
    (hP : ∀ v, 0 ≤ v → v < a → P (h v)) {ds : List D} (hd : ds.length = n) {c : Nat} {st : Sto} (hi : CI g c st) (hc : c + n ≤ big) : ∃ (vs : List Int) (c' : Nat) (st' : Sto), mapL f ds st = some (vs.map .int, st') ∧ vs.length = n ∧ (∀ v ∈ vs, P v) ∧ CI g c' st' ∧ c' ≤ c + n := by
  obtain ⟨out, c', st', e1, e2, e3, e4, e5⟩ := mapL_some (f := f) (I := CI g) (P := fun d => ∃ v, d = .int v ∧ P v) (m := 1) (C := big) (xs := ds) hi (by rw [hd]; omega) (fun x _ c st hi hc => by
    obtain ⟨v, st', h1, h2, h3, h4⟩ := pick_c (k := k) (a := a) hx ha hi hc
    refine ⟨.int (h v), c + 1, st', ?_, ⟨_, rfl, hP v h1 h2⟩, h3, Nat.le_refl _⟩
    exact hf _ _ _ _ h4)
  obtain ⟨vs, rfl, hv⟩ := list_ofP e3
  rw [hd] at e2 e5
  exact ⟨vs, c', st', e1, by rw [← e2, List.length_map], hv, e4, by omega⟩
def underI (one two : List Int) : Bool := ((List.range one.length).filter fun j => decide (two.getD j 0 < one.getD j 0)).isEmpty
theorem ev_law_under {k : Nat} {one two : List Int} {st : Sto} (hl : one.length = two.length) (hz : one.length ≤ 1000) : callT RT (k + 1) "_law_under" [.val (rowT one), .val (rowT two)] st = some (.val (.bl (underI one two)), st) := by
  obtain ⟨len, hlen, hlen2⟩ := len_ex one
  refine call_ret t__law_under rfl rfl ?_
  show sdenB b__law_under _ [some (.val (rowT one)), some (.val (rowT two)), none] st = _
  have step := mapL_rng (n := one.length) (st := st) (f := stepC (.one 2) (denT (.tst (.cmp .Gt (.idx (.var 0) (.var 2)) (.idx (.var 1) (.var 2))))) (den (.var 2)) (callT RT k) [some (.val (rowT one)), some (.val (rowT two)), none]) (p := fun j => decide (two.getD j 0 < one.getD j 0)) (g := fun j => .int j) (fun j hj jj hjj => by
    obtain ⟨x, hx⟩ : ∃ x, one.getD j 0 = x := ⟨_, rfl⟩
    obtain ⟨y, hy⟩ : ∃ y, two.getD j 0 = y := ⟨_, rfl⟩
    have e1 : idxD (rowT one) (.int jj) = some (.int x) := hx ▸ idx_ints hjj hj
    have e2 : idxD (rowT two) (.int jj) = some (.int y) := hy ▸ idx_ints hjj (by omega)
    have n1 : ∀ w, idxW (.val (rowT one)) w st = (peek w st).bind fun y => (idxD (rowT one) y).map .val := fun w => rfl
    have n2 : ∀ w, idxW (.val (rowT two)) w st = (peek w st).bind fun y => (idxD (rowT two) y).map .val := fun w => rfl
    have e0 : idxW (.val (rowT one)) (.val (.int jj)) st = some (.val (.int x)) := by rw [n1]; show (idxD (rowT one) (.int jj)).map Wv.val = _; rw [e1]; rfl
    have e9 : idxW (.val (rowT two)) (.val (.int jj)) st = some (.val (.int y)) := by rw [n2]; show (idxD (rowT two) (.int jj)).map Wv.val = _; rw [e2]; rfl
    rw [← hjj, hx, hy]
    by_cases h : y < x
    · simp only [stepC, bindT, den, denT, dTst, dCmp, dIdx, dVar, List.set_cons_zero, List.set_cons_succ, List.getElem?_cons_zero, List.getElem?_cons_succ, Option.bind_some, Option.map_some, id, e0, e9, peek, cmpD, gtR, truth, truD, h, decide_true, if_true, froz]
    · simp only [stepC, bindT, den, denT, dTst, dCmp, dIdx, dVar, List.set_cons_zero, List.set_cons_succ, List.getElem?_cons_zero, List.getElem?_cons_succ, Option.bind_some, Option.map_some, id, e0, e9, peek, cmpD, gtR, truth, truD, h, decide_false, if_false, Bool.false_eq_true, froz])
  obtain ⟨res, hres⟩ : ∃ res, ((List.range one.length).filter fun j => decide (two.getD j 0 < one.getD j 0)) = res := ⟨_, rfl⟩
  rw [hres] at step
  have hsz : szOk (res.map fun j => D.int (j : Nat)).length = true := szOk_le (by
    rw [List.length_map, ← hres]
    exact Nat.le_trans (List.length_filter_le _ _) (by rw [List.length_range]; omega))
  have hl0 : lenD [.lst (res.map fun j => D.int (j : Nat))] = some (.int (lenI res)) := by
    show some (D.int (lenI _)) = _
    rw [lenI_map]
  have hu : underI one two = (lenI res == 0) := by
    unfold underI
    rw [hres, lenI_eq]
    cases res <;> simp
    omega
  unfold b__law_under
  refine run_rt (run_ret ?_)
  rw [hu]
  have hrg := rng1 hlen2.symm (show one.length ≤ 16777216 by omega)
  have hln : lenD [rowT one] = some (.int len) := by
    show some (D.int (lenI _)) = _
    rw [lenI_map, hlen]
  have step' : mapL (stepC (.one 2) (dTst (dCmp .Gt (dIdx (dVar 0) (dVar 2)) (dIdx (dVar 1) (dVar 2)))) (dVar 2) (callT RT k) [some (.val (rowT one)), some (.val (rowT two)), none]) (rgD 0 one.length) st = some (res.map fun j => D.int (j : Nat), st) := step
  simp only [den, denL, denI, denT, dCmp, dPrim, dLc, dRng, dCons, dNil, dVar, dCon, wipeE, List.set_cons_zero, List.set_cons_succ, List.getElem?_cons_zero, List.getElem?_cons_succ, Option.bind_some, Option.map_some, id, peek, peeks, primW, primD, hln, hrg, mapI]
  rw [step']
  simp only [Option.bind_some, Option.map_some, fin0, hsz, if_true, peek, peeks, primW, primD, hl0, cmpD, eqR]
def IsBits (n : Nat) (r : List Int) : Prop := r.length = n ∧ ∀ b ∈ r, b = 0 ∨ b = 1
def fD (nn : Int) (v : List Int) : D := .tup [.int nn, .tup (v.map .int)]
/-- the rising function of lows -/
def risenI (n : Nat) (lows : List (List Int)) : List Int := (rowsI n).map fun bits => if (lows.filter fun low => underI low bits).isEmpty then 0 else 1
theorem rowsI_len : ∀ {n : Nat} {r : List Int}, r ∈ rowsI n → IsBits n r
  | 0, r, h => by
    simp [rowsI] at h
    subst h
    exact ⟨rfl, fun b hb => by simp at hb⟩
  | n + 1, r, h => by
    simp only [rowsI, List.mem_flatMap] at h
    obtain ⟨r0, h0, h1⟩ := h
    obtain ⟨l0, b0⟩ := rowsI_len h0
    simp only [List.mem_cons, List.not_mem_nil, or_false] at h1
    rcases h1 with rfl | rfl
    · exact ⟨by simp [l0], fun b hb => by
        rcases List.mem_append.mp hb with h | h
        · exact b0 b h
        · simp at h; exact .inl h⟩
    · exact ⟨by simp [l0], fun b hb => by
        rcases List.mem_append.mp hb with h | h
        · exact b0 b h
        · simp at h; exact .inr h⟩
theorem rowsI_num : ∀ n : Nat, (rowsI n).length = 2 ^ n
  | 0 => rfl
  | n + 1 => by
    have : ∀ l : List (List Int), (l.flatMap fun r => [r ++ [0], r ++ [1]]).length = 2 * l.length := fun l => by
      induction l with
      | nil => rfl
      | cons a l ih => rw [List.flatMap_cons, List.length_append, ih, List.length_cons, List.length_cons, List.length_cons, List.length_nil]; omega
    rw [rowsI, this, rowsI_num n, Nat.pow_succ, Nat.mul_comm]
theorem tup_of {xs : List D} : primD .tuple [.lst xs] = some (.tup xs) := rfl
theorem ev_law_risen {k n : Nat} {nn : Int} {xs : List Int} {g : Sto} {c : Nat} {st : Sto} (hnn : nn = n) (hn : n ≤ 4) (hx : PoolOk xs) (hi : CI g c st) (hc : c + 20 ≤ big) : ∃ (lows : List (List Int)) (c' : Nat) (st' : Sto), (∀ low ∈ lows, IsBits n low) ∧ CI g c' st' ∧ c' ≤ c + 20 ∧ callT RT (k + 2) "_law_risen" [PW xs, .val (.int nn)] st = some (.val (fD nn (risenI n lows)), st') := by
  obtain ⟨v, st1, v0, v4, i1, e1⟩ := pick_c (k := k) (a := 4) hx (by decide) hi (by omega)
  obtain ⟨m, hm⟩ : ∃ m : Nat, v = m := ⟨v.toNat, by omega⟩
  have inner : ∀ d c st, CI g c st → c + n ≤ big → ∃ (d' : D) (c' : Nat) (st' : Sto), stepC (.one 3) (denT .yes) (den (.prim .tuple (.cons (.lc (.rng (.cons (.var 1) .nil)) [4] (.one 4) .yes (.call "_law_pick" (.cons (.var 0) (.cons (.con (.int 2)) .nil)))) .nil))) (callT RT (k + 1)) [some (PW xs), some (.val (.int nn)), none, none, none, none, none] d st = some ([d'], st') ∧ (∃ r, d' = rowT r ∧ IsBits n r) ∧ CI g c' st' ∧ c' ≤ c + n := fun d c st hi hc => by
    obtain ⟨r, c', st', p1, p2, p3, p4, p5⟩ := picks (k := k) (a := 2) (n := n) (h := fun v => v) (P := fun b => b = 0 ∨ b = 1) (f := stepC (.one 4) (denT .yes) (den (.call "_law_pick" (.cons (.var 0) (.cons (.con (.int 2)) .nil)))) (callT RT (k + 1)) [some (PW xs), some (.val (.int nn)), none, some (.val d), none, none, none]) hx (by decide) (fun d st v st' h =>
      step_yes (den_call (denL2 (den_var rfl) den_con) h)) (fun v h0 h1 => by omega) (ds := rgD 0 n) rgD_len hi hc
    exact ⟨_, c', st', step_yes (den_prim1 (den_lc (den_rng1 (den_var rfl) hnn (by omega)) p1 (by rw [List.length_map]; omega)) tup_of), ⟨r, rfl, p2, p3⟩, p4, p5⟩
  obtain ⟨out, c2, st2, f1, f2, f3, f4, f5⟩ := mapL_some (I := CI g) (P := fun d' => ∃ r, d' = rowT r ∧ IsBits n r) (m := n) (C := big) (xs := rgD 0 m) i1 (by rw [rgD_len]; have : n * m ≤ 4 * 3 := Nat.mul_le_mul hn (by omega); omega) fun d _ c st hi hc => inner d c st hi hc
  obtain ⟨lows, rfl, hl⟩ := list_ofP f3
  rw [rgD_len] at f2 f5
  rw [List.length_map] at f2
  refine ⟨lows, c2, st2, hl, f4, by have : n * m ≤ 4 * 3 := Nat.mul_le_mul hn (by omega); omega, ?_⟩
  refine call_sto (st1 := st2) (g := []) t__law_risen rfl rfl ?_ ?_
  · obtain ⟨_, _, rfl⟩ := f4
    obtain ⟨_, _, rfl⟩ := hi
    rfl
  show sdenB b__law_risen _ [some (PW xs), some (.val (.int nn)), none, none, none, none, none] st = _
  unfold b__law_risen
  refine (run_nx (run_asg (den_lc (den_rng1 (den_call (denL2 (den_var rfl) den_con) e1) hm (by omega)) f1 (by rw [List.length_map]; omega)))).trans ?_
  rw [List.append_nil]
  have last : mapL (stepC (.one 5) (denT .yes) (den (.prim .int (.cons (.cmp .Gt (.prim .len (.cons (.lc (.any (.var 2)) [6] (.one 6) (.tst (.call "_law_under" (.cons (.var 6) (.cons (.var 5) .nil)))) (.var 6)) .nil)) (.con (.int 0))) .nil))) (callT RT (k + 1)) [some (PW xs), some (.val (.int nn)), some (.val (.lst (lows.map rowT))), none, none, none, none]) ((rowsI n).map rowT) st2 = some ((rowsI n).map fun bits => D.int (if (lows.filter fun low => underI low bits).isEmpty then 0 else 1), st2) := mapL_map fun bits hb => by
    have hbl := rowsI_len hb
    have inn : mapL (stepC (.one 6) (denT (.tst (.call "_law_under" (.cons (.var 6) (.cons (.var 5) .nil))))) (den (.var 6)) (callT RT (k + 1)) [some (PW xs), some (.val (.int nn)), some (.val (.lst (lows.map rowT))), none, none, some (.val (rowT bits)), none]) (lows.map rowT) st2 = some ((lows.filter fun low => underI low bits).map rowT, st2) := mapL_filterT fun low hlow => by
      have hu := ev_law_under (k := k) (one := low) (two := bits) (st := st2) (by rw [(hl low hlow).1, hbl.1]) (by rw [(hl low hlow).1]; omega)
      cases h : underI low bits with
      | true =>
        rw [h] at hu
        exact step_t (den_call (denL2 (den_var rfl) (den_var rfl)) hu) rfl (den_var rfl)
      | false =>
        rw [h] at hu
        exact step_f (den_call (denL2 (den_var rfl) (den_var rfl)) hu) rfl
    obtain ⟨res, hres⟩ : ∃ res, (lows.filter fun low => underI low bits) = res := ⟨_, rfl⟩
    rw [hres] at inn ⊢
    have hrl : res.length ≤ 16777216 := by
      rw [← hres]
      exact Nat.le_trans (List.length_filter_le _ _) (by omega)
    refine step_yes (den_prim1 (d := .bl (decide (0 < lenI res))) (den_cmp (den_prim1 (d1 := .int (lenI res)) (den_lc (den_any (den_var rfl)) inn (by rw [List.length_map]; exact hrl)) (by show some (D.int (lenI _)) = _; rw [lenI_map])) den_con gtR) ?_)
    cases res with
    | nil => rfl
    | cons a r =>
      have : 0 < lenI (a :: r) := by rw [lenI_eq, List.length_cons]; omega
      rw [decide_eq_true this]
      rfl
  refine run_rt (run_ret (den_tup2 (den_var rfl) (den_prim1 (den_lc (den_any (den_call (denL1 (den_var rfl)) (ev_law_rows hnn hn))) last (by rw [List.length_map, rowsI_num]; have : 2 ^ n ≤ 2 ^ 4 := Nat.pow_le_pow_right (by decide) hn; omega)) ?_)))
  show some (D.tup _) = some (D.tup _)
  rw [risenI, List.map_map]
  rfl
end L2.L_k01
set_option Elab.async false
set_option linter.all false
set_option maxRecDepth 100000
set_option maxHeartbeats 1000000
namespace L2.L_k01
open PySem PySem.Spec PyProof.Rows L2 L2.Ev
--LIB drawn2
def dotI (n : Nat) (as bits : List Int) : Int := ((List.range n).map fun j => as.getD j 0 * bits.getD j 0).sum
theorem bit_at {n : Nat} {r : List Int} (h : IsBits n r) {j : Nat} (hj : j < n) : r.getD j 0 = 0 ∨ r.getD j 0 = 1 := by
  have : j < r.length := by rw [h.1]; exact hj
  rw [List.getD_eq_getElem?_getD, List.getElem?_eq_getElem this, Option.getD_some]
  exact h.2 _ (List.getElem_mem this)
theorem dot_step {cf : CF} {st : Sto} {env : En} {i n : Nat} {as bits : List Int} (hi : ∀ jj : Int, (env.set 9 (some (.val (.int jj))))[i]? = some (some (.val (.lst (as.map .int))))) (hb : ∀ jj : Int, (env.set 9 (some (.val (.int jj))))[10]? = some (some (.val (rowT bits)))) (h9 : ∀ jj : Int, (env.set 9 (some (.val (.int jj))))[9]? = some (some (.val (.int jj)))) (hl : n ≤ as.length) (hbb : IsBits n bits) :
    mapL (stepC (.one 9) (denT .yes) (den (.bin .Mult (.idx (.var i) (.var 9)) (.idx (.var 10) (.var 9)))) cf env) (rgD 0 n) st = some ((List.range n).map fun j => D.int (as.getD j 0 * bits.getD j 0), st) := mapL_rngA fun j hj jj hjj => by
  have hb1 := bit_at hbb hj
  exact step_yes (den_mulI (den_idx (den_var (hi jj)) (den_var (h9 jj)) (idx_intsL hjj (by omega))) (den_idx (den_var (hb jj)) (den_var (h9 jj)) (idx_ints hjj (by rw [hbb.1]; exact hj))) (mulOk_r (by omega) (by omega)))
theorem sum_of {n : Nat} {f : Nat → Int} : primD .sum [.lst ((List.range n).map fun j => D.int (f j))] = some (.int ((List.range n).map f).sum) := by
  show ((itemsD (.lst _)).bind fun xs => (intsOf xs).map fun ns => D.int ns.sum) = _
  simp only [itemsD, Option.bind_some, intsOf_mapF, Option.map_some]
theorem bits_map {n : Nat} {f : List Int → Int} (h : ∀ r, f r = 0 ∨ f r = 1) : IsBits (2 ^ n) ((rowsI n).map f) := ⟨by rw [List.length_map, rowsI_num], fun b hb => by
  obtain ⟨r, _, rfl⟩ := List.mem_map.mp hb
  exact h r⟩
theorem bits_risen {n : Nat} {lows : List (List Int)} : IsBits (2 ^ n) (risenI n lows) := bits_map fun r => by
  split
  · exact .inl rfl
  · exact .inr rfl
theorem CI.len {g : Sto} {c c' : Nat} {st st' : Sto} (h : CI g c st) (h' : CI g c' st') : st'.length = st.length := by
  obtain ⟨_, _, rfl⟩ := h
  obtain ⟨_, _, rfl⟩ := h'
  rfl
theorem pow_le {n : Nat} (hn : n ≤ 4) : 2 ^ n ≤ 16 := by
  have : 2 ^ n ≤ 2 ^ 4 := Nat.pow_le_pow_right (by decide) hn
  omega
theorem int_bl {b : Bool} : primD .int [.bl b] = some (.int (if b then 1 else 0)) := rfl
theorem ev_law_drawn {k : Nat} {lo hi : Int} {xs : List Int} {g : Sto} {c : Nat} {st : Sto} (h0 : 0 ≤ lo) (h1 : lo ≤ hi) (h4 : hi ≤ 4) (hx : PoolOk xs) (hi0 : CI g c st) (hc : c + 40 ≤ big) : ∃ (n : Nat) (nn : Int) (v : List Int) (c' : Nat) (st' : Sto), nn = n ∧ lo ≤ nn ∧ nn ≤ hi ∧ IsBits (2 ^ n) v ∧ CI g c' st' ∧ c' ≤ c + 40 ∧ callT RT (k + 3) "_law_drawn" [PW xs, .val (.int lo), .val (.int hi)] st = some (.val (fD nn v), st') := by
  obtain ⟨v1, st1, a1, a2, i1, e1⟩ := pick_c (k := k + 1) (a := hi - lo + 1) hx (by omega) hi0 (by omega)
  obtain ⟨w, st2, b1, b2, i2, e2⟩ := pick_c (k := k + 1) (a := 6) hx (by decide) i1 (by omega)
  obtain ⟨nn, hnn⟩ : ∃ nn, lo + v1 = nn := ⟨_, rfl⟩
  obtain ⟨n, hn⟩ : ∃ n : Nat, nn = n := ⟨nn.toNat, by omega⟩
  have hn4 : n ≤ 4 := by omega
  have h2n := pow_le hn4
  have key : ∃ (v : List Int) (c' : Nat) (st' : Sto), IsBits (2 ^ n) v ∧ CI g c' st' ∧ c' ≤ c + 40 ∧ sdenB b__law_drawn (callT RT (k + 2)) [some (PW xs), some (.val (.int lo)), some (.val (.int hi)), none, none, none, none, none, none, none, none] st = some (.rt (.val (fD nn v)), st') := by
    have pre : ∀ {v : List Int} {c' : Nat} {st' : Sto}, IsBits (2 ^ n) v → CI g c' st' → c' ≤ c + 40 → (∀ rest, b__law_drawn = .cons (.asg 3 (.bin .Add (.var 1) (.call "_law_pick" (.cons (.var 0) (.cons (.bin .Add (.bin .Sub (.var 2) (.var 1)) (.con (.int 1))) .nil))))) (.cons (.asg 4 (.call "_law_pick" (.cons (.var 0) (.cons (.con (.int 6)) .nil)))) rest) → sdenB rest (callT RT (k + 2)) [some (PW xs), some (.val (.int lo)), some (.val (.int hi)), some (.val (.int nn)), some (.val (.int w)), none, none, none, none, none, none] st2 = some (.rt (.val (fD nn v)), st')) → ∃ (v : List Int) (c' : Nat) (st' : Sto), IsBits (2 ^ n) v ∧ CI g c' st' ∧ c' ≤ c + 40 ∧ sdenB b__law_drawn (callT RT (k + 2)) [some (PW xs), some (.val (.int lo)), some (.val (.int hi)), none, none, none, none, none, none, none, none] st = some (.rt (.val (fD nn v)), st') := fun {v c' st'} p1 p2 p3 p4 => by
      refine ⟨v, c', st', p1, p2, p3, ?_⟩
      have q := p4 _ (by unfold b__law_drawn; rfl)
      unfold b__law_drawn
      refine (run_nx (run_asg (den_addI (den_var rfl) (den_call (denL2 (den_var rfl) (den_addI (den_subI (den_var rfl) (den_var rfl)) den_con)) e1)))).trans ?_
      rw [hnn]
      exact (run_nx (run_asg (den_call (denL2 (den_var rfl) den_con) e2))).trans q
    by_cases w0 : w = 0
    · subst w0
      obtain ⟨lows, c3, st3, d1, d2, d3, d4⟩ := ev_law_risen (k := k) (n := n) hn hn4 hx i2 (by omega)
      refine pre (bits_risen (lows := lows)) d2 (by omega) fun rest hr => ?_
      unfold b__law_drawn at hr
      injection hr with _ hr
      injection hr with _ hr
      rw [← hr]
      exact run_rt ((run_t (den_eqI (den_var rfl) den_con) rfl).trans (run_rt (run_ret (den_call (denL2 (den_var rfl) (den_var rfl)) d4))))
    have f0 : (w == 0) = false := by simpa using w0
    by_cases w1 : w = 1
    · subst w1
      obtain ⟨lot, c3, st3, d1, d2, d3, d4, d5⟩ := picks (k := k + 1) (a := 2) (n := n + 1) (h := fun v => v) (P := fun b => b = 0 ∨ b = 1) (f := stepC (.one 9) (denT .yes) (den (.call "_law_pick" (.cons (.var 0) (.cons (.con (.int 2)) .nil)))) (callT RT (k + 2)) [some (PW xs), some (.val (.int lo)), some (.val (.int hi)), some (.val (.int nn)), some (.val (.int 1)), none, none, none, none, none, none]) hx (by decide) (fun d st v st' h =>
        step_yes (den_call (denL2 (den_var rfl) den_con) h)) (fun v h0 h1 => by omega) (ds := rgD 0 (n + 1)) rgD_len i2 (by omega)
      have last : mapL (stepC (.one 10) (denT .yes) (den (.bin .Mod (.bin .Add (.idx (.var 5) (.var 3)) (.prim .sum (.cons (.lc (.rng (.cons (.var 3) .nil)) [9] (.one 9) .yes (.bin .Mult (.idx (.var 5) (.var 9)) (.idx (.var 10) (.var 9)))) .nil))) (.con (.int 2)))) (callT RT (k + 2)) [some (PW xs), some (.val (.int lo)), some (.val (.int hi)), some (.val (.int nn)), some (.val (.int 1)), some (.val (.lst (lot.map .int))), none, none, none, none, none]) ((rowsI n).map rowT) st3 = some ((rowsI n).map fun bits => D.int ((lot.getD n 0 + dotI n lot bits) % 2), st3) := mapL_map fun bits hb =>
        step_yes (den_modI (den_addI (den_idx (den_var rfl) (den_var rfl) (idx_intsL hn (by omega))) (den_sumR (den_lc (den_rng1 (den_var rfl) hn (by omega)) (dot_step (fun _ => rfl) (fun _ => rfl) (fun _ => rfl) (by omega) (rowsI_len hb)) (by rw [List.length_map, List.length_range]; omega)))) den_con (by decide))
      refine pre (v := (rowsI n).map fun bits => (lot.getD n 0 + dotI n lot bits) % 2) (bits_map fun r => by omega) d4 (by omega) fun rest hr => ?_
      unfold b__law_drawn at hr
      injection hr with _ hr
      injection hr with _ hr
      rw [← hr]
      refine (run_nx ((run_f (den_eqI (den_var rfl) den_con) rfl).trans run_nil)).trans ?_
      refine run_rt ((run_t (den_eqI (den_var rfl) den_con) rfl).trans ?_)
      refine (run_nx (run_asg (den_lc (den_rng1 (den_addI (den_var rfl) den_con) (show nn + 1 = ((n + 1 : Nat) : Int) by omega) (by omega)) d1 (by rw [List.length_map]; omega)))).trans ?_
      refine run_rt ((run_ret (den_tup2 (den_var rfl) (den_tupl (den_lc (den_any (den_call (denL1 (den_var rfl)) (ev_law_rows hn hn4))) last (by rw [List.length_map, rowsI_num]; omega))))).trans ?_)
      rw [fD, List.map_map]
      rfl
    have f1 : (w == 1) = false := by simpa using w1
    by_cases w2 : w = 2
    · subst w2
      obtain ⟨ws, c3, st3, d1, d2, d3, d4, d5⟩ := picks (k := k + 1) (a := 5) (n := n) (h := fun v => v - 2) (P := fun b => True) (f := stepC (.one 9) (denT .yes) (den (.bin .Sub (.call "_law_pick" (.cons (.var 0) (.cons (.con (.int 5)) .nil))) (.con (.int 2)))) (callT RT (k + 2)) [some (PW xs), some (.val (.int lo)), some (.val (.int hi)), some (.val (.int nn)), some (.val (.int 2)), none, none, none, none, none, none]) hx (by decide) (fun d st v st' h =>
        step_yes (den_subI (den_call (denL2 (den_var rfl) den_con) h) den_con)) (fun v h0 h1 => trivial) (ds := rgD 0 n) rgD_len i2 (by omega)
      obtain ⟨u, st4, u0, u1, i4, e4⟩ := pick_c (k := k + 1) (a := 4) hx (by decide) d4 (by omega)
      have last : mapL (stepC (.one 10) (denT .yes) (den (.prim .int (.cons (.cmp .GtE (.prim .sum (.cons (.lc (.rng (.cons (.var 3) .nil)) [9] (.one 9) .yes (.bin .Mult (.idx (.var 6) (.var 9)) (.idx (.var 10) (.var 9)))) .nil)) (.var 7)) .nil))) (callT RT (k + 2)) [some (PW xs), some (.val (.int lo)), some (.val (.int hi)), some (.val (.int nn)), some (.val (.int 2)), none, some (.val (.lst (ws.map .int))), some (.val (.int (u - 1))), none, none, none]) ((rowsI n).map rowT) st4 = some ((rowsI n).map fun bits => D.int (if decide (u - 1 ≤ dotI n ws bits) then 1 else 0), st4) := mapL_map fun bits hb =>
        step_yes (den_intB (den_geI (den_sumR (den_lc (den_rng1 (den_var rfl) hn (by omega)) (dot_step (fun _ => rfl) (fun _ => rfl) (fun _ => rfl) (by omega) (rowsI_len hb)) (by rw [List.length_map, List.length_range]; omega))) (den_var rfl)))
      refine pre (v := (rowsI n).map fun bits => if decide (u - 1 ≤ dotI n ws bits) then 1 else 0) (bits_map fun r => by split <;> omega) i4 (by omega) fun rest hr => ?_
      unfold b__law_drawn at hr
      injection hr with _ hr
      injection hr with _ hr
      rw [← hr]
      refine (run_nx ((run_f (den_eqI (den_var rfl) den_con) rfl).trans run_nil)).trans ?_
      refine (run_nx ((run_f (den_eqI (den_var rfl) den_con) rfl).trans run_nil)).trans ?_
      refine run_rt ((run_t (den_eqI (den_var rfl) den_con) rfl).trans ?_)
      refine (run_nx (run_asg (den_lc (den_rng1 (den_var rfl) hn (by omega)) d1 (by rw [List.length_map]; omega)))).trans ?_
      refine (run_nx (run_asg (den_subI (den_call (denL2 (den_var rfl) den_con) e4) den_con))).trans ?_
      refine run_rt ((run_ret (den_tup2 (den_var rfl) (den_tupl (den_lc (den_any (den_call (denL1 (den_var rfl)) (ev_law_rows hn hn4))) last (by rw [List.length_map, rowsI_num]; omega))))).trans ?_)
      rw [fD, List.map_map]
      rfl
    have f2 : (w == 2) = false := by simpa using w2
    obtain ⟨u, st4, u0, u1, i4, e4⟩ := pick_c (k := k + 1) (a := 3) hx (by decide) i2 (by omega)
    obtain ⟨vs, c3, st3, d1, d2, d3, d4, d5⟩ := picks (k := k + 1) (a := 4) (n := 2 ^ n) (h := fun v => if decide (1 + u ≤ v) then 1 else 0) (P := fun b => b = 0 ∨ b = 1) (f := stepC (.one 10) (denT .yes) (den (.prim .int (.cons (.cmp .GtE (.call "_law_pick" (.cons (.var 0) (.cons (.con (.int 4)) .nil))) (.var 8)) .nil))) (callT RT (k + 2)) [some (PW xs), some (.val (.int lo)), some (.val (.int hi)), some (.val (.int nn)), some (.val (.int w)), none, none, none, some (.val (.int (1 + u))), none, none]) hx (by decide) (fun d st v st' h =>
      step_yes (den_intB (den_geI (den_call (denL2 (den_var rfl) den_con) h) (den_var rfl)))) (fun v h0 h1 => by split <;> omega) (ds := (rowsI n).map rowT) (by rw [List.length_map, rowsI_num]) i4 (by omega)
    refine pre (v := vs) ⟨d2, d3⟩ d4 (by omega) fun rest hr => ?_
    unfold b__law_drawn at hr
    injection hr with _ hr
    injection hr with _ hr
    rw [← hr]
    refine (run_nx ((run_f (den_eqI (den_var rfl) den_con) (by rw [f0]; rfl)).trans run_nil)).trans ?_
    refine (run_nx ((run_f (den_eqI (den_var rfl) den_con) (by rw [f1]; rfl)).trans run_nil)).trans ?_
    refine (run_nx ((run_f (den_eqI (den_var rfl) den_con) (by rw [f2]; rfl)).trans run_nil)).trans ?_
    refine (run_nx (run_asg (den_addI den_con (den_call (denL2 (den_var rfl) den_con) e4)))).trans ?_
    exact run_rt (run_ret (den_tup2 (den_var rfl) (den_tupl (den_lc (den_any (den_call (denL1 (den_var rfl)) (ev_law_rows hn hn4))) d1 (by rw [List.length_map, d2]; omega)))))
  obtain ⟨v, c', st', p1, p2, p3, p4⟩ := key
  exact ⟨n, nn, v, c', st', hn, by omega, by omega, p1, p2, p3, call_sto (g := []) t__law_drawn rfl rfl (CI.len hi0 p2) (by rw [List.append_nil]; exact p4)⟩
end L2.L_k01
set_option Elab.async false
set_option linter.all false
set_option maxRecDepth 100000
set_option maxHeartbeats 1000000
namespace L2.L_k01
open PySem PySem.Spec PyProof.Rows L2 L2.Ev
--LIB equal
def kindI : D → Int
  | .bl _ => 1
  | .int _ => 2
  | .str _ => 3
  | .tup _ => 4
  | .lst _ => 5
  | .non => 0
theorem ev_law_kind {k : Nat} {d : D} {st : Sto} : callT RT (k + 1) "_law_kind" [.val d] st = some (.val (.int (kindI d)), st) := by
  refine call_ret t__law_kind rfl rfl ?_
  cases d <;> rfl
theorem ev_law_is_int {k : Nat} {d : D} {st : Sto} : callT RT (k + 1) "_law_is_int" [.val d] st = some (.val (.bl (kindI d == 2)), st) := by
  refine call_ret t__law_is_int rfl rfl ?_
  cases d <;> rfl
theorem ev_law_is_bool {k : Nat} {a b : Bool} {st : Sto} : callT RT (k + 1) "_law_is_bool" [.val (.bl a), .val (.bl b)] st = some (.val (.bl (a == b)), st) := by
  refine call_ret t__law_is_bool rfl rfl ?_
  cases a <;> cases b <;> rfl
/-- data of a small depth and size -/
def okD : Nat → D → Bool
  | 0, .tup _ => false
  | 0, .lst _ => false
  | m + 1, .tup xs => Nat.ble xs.length 100000 && xs.all (okD m)
  | m + 1, .lst xs => Nat.ble xs.length 100000 && xs.all (okD m)
  | _, _ => true
theorem beqDs_len : ∀ {xs ys : List D}, beqDs xs ys = true → xs.length = ys.length
  | [], [], _ => rfl
  | x :: xs, y :: ys, h => by
    simp only [beqDs, Bool.and_eq_true] at h
    rw [List.length_cons, List.length_cons, beqDs_len h.2]
  | [], _ :: _, h => by cases h
  | _ :: _, [], h => by cases h
theorem beqDs_all : ∀ {xs ys : List D}, xs.length = ys.length → beqDs xs ys = ((List.range ys.length).filter fun j => !beqD (xs.getD j .non) (ys.getD j .non)).isEmpty
  | [], [], _ => rfl
  | x :: xs, y :: ys, h => by
    simp only [List.length_cons, Nat.add_right_cancel_iff] at h
    rw [beqDs, beqDs_all h, List.length_cons, List.range_succ_eq_map, List.filter_cons]
    have e : ((List.map Nat.succ (List.range ys.length)).filter fun j => !beqD ((x :: xs).getD j .non) ((y :: ys).getD j .non)) = ((List.range ys.length).filter fun j => !beqD (xs.getD j .non) (ys.getD j .non)).map Nat.succ := by
      rw [List.filter_map]
      congr 1
    rw [e]
    cases hb : beqD x y with
    | true => simp [hb]
    | false => simp [hb]
  | [], _ :: _, h => by cases h
  | _ :: _, [], h => by cases h
theorem eqD_flat {x y : D} (h : kindI x = kindI y) (h4 : kindI y ≠ 4) (h5 : kindI y ≠ 5) : eqD x y = some (.bl (beqD x y)) := by
  cases x <;> cases y <;> simp [kindI] at h h4 h5 <;> first | rfl | skip
  all_goals (simp only [eqD, eqF, beqD, Option.map_some]; first | rfl | (congr 2; simp [BEq.beq, decide_eq_decide]) | skip)
theorem kind_ne {x y : D} (h : kindI x ≠ kindI y) : beqD x y = false := by
  cases x <;> cases y <;> simp [kindI] at h <;> rfl
theorem all_at {m : Nat} {ys : List D} (h : ys.all (okD m) = true) {j : Nat} (hj : j < ys.length) : okD m (ys.getD j .non) = true := by
  rw [List.getD_eq_getElem?_getD, List.getElem?_eq_getElem hj, Option.getD_some]
  exact List.all_eq_true.mp h _ (List.getElem_mem hj)
theorem ev_law_equal : ∀ {m k : Nat} {x due : D} {st : Sto}, okD m due = true → callT RT (k + m + 2) "_law_equal" [.val x, .val due] st = some (.val (.bl (beqD x due)), st) := by
  intro m
  induction m with
  | zero =>
    intro k x due st h
    have h4 : kindI due ≠ 4 := by cases due <;> simp [okD, kindI] at h ⊢
    have h5 : kindI due ≠ 5 := by cases due <;> simp [okD, kindI] at h ⊢
    refine call_ret t__law_equal rfl rfl ?_
    show sdenB b__law_equal (callT RT (k + 0 + 1)) [some (.val x), some (.val due), none, none, none] st = _
    unfold b__law_equal
    by_cases hk : kindI x = kindI due
    · have e1 : (!(kindI x == kindI due)) = false := by rw [hk]; simp
      have i1 : isiD "tuple" due = some (.bl false) := by cases due <;> first | rfl | exact absurd rfl h4
      have i2 : isiD "list" due = some (.bl false) := by cases due <;> first | rfl | exact absurd rfl h5
      have i3 : isiD "dict" due = some (.bl false) := by cases due <;> rfl
      refine (run_nx ((run_f (den_neI (den_call (denL1 (den_var rfl)) ev_law_kind) (den_call (denL1 (den_var rfl)) ev_law_kind)) (by rw [e1]; rfl)).trans run_nil)).trans ?_
      refine (run_nx ((run_f ((den_or_f (den_isi (den_var rfl) i1) rfl).trans (den_isi (den_var rfl) i2)) rfl).trans run_nil)).trans ?_
      refine (run_nx ((run_f (den_isi (den_var rfl) i3) rfl).trans run_nil)).trans ?_
      exact run_rt (run_ret (den_cmp (den_var rfl) (den_var rfl) (eqD_flat hk h4 h5)))
    · have e1 : (!(kindI x == kindI due)) = true := by simpa using hk
      rw [kind_ne hk]
      exact run_rt ((run_t (den_neI (den_call (denL1 (den_var rfl)) ev_law_kind) (den_call (denL1 (den_var rfl)) ev_law_kind)) (by rw [e1]; rfl)).trans (run_rt (run_ret den_con)))
  | succ m ih =>
    intro k x due st h
    refine call_ret t__law_equal rfl rfl ?_
    show sdenB b__law_equal (callT RT (k + (m + 1) + 1)) [some (.val x), some (.val due), none, none, none] st = _
    unfold b__law_equal
    by_cases hk : kindI x = kindI due
    · have e1 : (!(kindI x == kindI due)) = false := by rw [hk]; simp
      refine (run_nx ((run_f (den_neI (den_call (denL1 (den_var rfl)) ev_law_kind) (den_call (denL1 (den_var rfl)) ev_law_kind)) (by rw [e1]; rfl)).trans run_nil)).trans ?_
      have cont : ∀ {xs ys : List D}, (∀ j jj, jj = ((j : Nat) : Int) → j < xs.length → idxD x (.int jj) = some (xs.getD j .non)) → (∀ j jj, jj = ((j : Nat) : Int) → j < ys.length → idxD due (.int jj) = some (ys.getD j .non)) → primD .len [x] = some (.int (lenI xs)) → primD .len [due] = some (.int (lenI ys)) → beqD x due = beqDs xs ys → ys.length ≤ 100000 → ys.all (okD m) = true →
          sdenB (.cons (.iff (.cmp .NotEq (.prim .len (.cons (.var 0) .nil)) (.prim .len (.cons (.var 1) .nil))) (.cons (.ret (.con (.bl false))) .nil) .nil) (.cons (.ret (.cmp .Eq (.prim .len (.cons (.lc (.rng (.cons (.prim .len (.cons (.var 1) .nil)) .nil)) [3] (.one 3) (.tst (.not (.call "_law_equal" (.cons (.idx (.var 0) (.var 3)) (.cons (.idx (.var 1) (.var 3)) .nil))))) (.var 3)) .nil)) (.con (.int 0)))) .nil)) (callT RT (k + (m + 1) + 1)) [some (.val x), some (.val due), none, none, none] st = some (.rt (.val (.bl (beqD x due))), st) := fun {xs ys} hx hy lx ly hb hz ha => by
        by_cases hl : xs.length = ys.length
        · have e2 : (!(lenI xs == lenI ys)) = false := by rw [lenI_eq, lenI_eq, hl]; simp
          refine (run_nx ((run_f (den_neI (den_prim1 (den_var rfl) lx) (den_prim1 (den_var rfl) ly)) (by rw [e2]; rfl)).trans run_nil)).trans ?_
          have step := mapL_rng (n := ys.length) (st := st) (f := stepC (.one 3) (denT (.tst (.not (.call "_law_equal" (.cons (.idx (.var 0) (.var 3)) (.cons (.idx (.var 1) (.var 3)) .nil)))))) (den (.var 3)) (callT RT (k + (m + 1) + 1)) [some (.val x), some (.val due), none, none, none]) (p := fun j => !beqD (xs.getD j .non) (ys.getD j .non)) (g := fun j => .int j) (fun j hj jj hjj => by
            have hq := ih (k := k) (x := xs.getD j .non) (due := ys.getD j .non) (st := st) (all_at ha hj)
            have hc := den_call (as := .cons (.idx (.var 0) (.var 3)) (.cons (.idx (.var 1) (.var 3)) .nil)) (env := [some (.val x), some (.val due), none, some (.val (.int jj)), none]) (denL2 (den_idx (den_var rfl) (den_var rfl) (hx j jj hjj (by omega))) (den_idx (den_var rfl) (den_var rfl) (hy j jj hjj hj))) hq
            rw [← hjj]
            cases hbj : beqD (xs.getD j .non) (ys.getD j .non) with
            | true =>
              rw [hbj] at hc
              exact step_f (den_not hc rfl) rfl
            | false =>
              rw [hbj] at hc
              exact step_t (den_not hc rfl) rfl (den_var rfl))
          obtain ⟨res, hres⟩ : ∃ res, ((List.range ys.length).filter fun j => !beqD (xs.getD j .non) (ys.getD j .non)) = res := ⟨_, rfl⟩
          have hb2 := beqDs_all hl
          rw [hres] at step hb2
          have hrl : res.length ≤ 16777216 := by
            rw [← hres]
            refine Nat.le_trans (List.length_filter_le _ _) ?_
            rw [List.length_range]
            omega
          have hfin : (lenI res == 0) = beqD x due := by
            rw [hb, hb2, lenI_eq]
            cases res <;> simp
            omega
          rw [← hfin]
          exact run_rt (run_ret (den_eqI (den_prim1 (d1 := .int (lenI res)) (den_lc (den_rng1 (den_prim1 (den_var rfl) ly) (lenI_eq ys) (by omega)) step (by rw [List.length_map]; exact hrl)) (by show some (D.int (lenI _)) = _; rw [lenI_map])) den_con))
        · have e2 : (!(lenI xs == lenI ys)) = true := by rw [lenI_eq, lenI_eq]; simp; omega
          have hb3 : beqD x due = false := by
            rw [hb]
            cases hq : beqDs xs ys with
            | false => rfl
            | true => exact absurd (beqDs_len hq) hl
          rw [hb3]
          exact run_rt ((run_t (den_neI (den_prim1 (den_var rfl) lx) (den_prim1 (den_var rfl) ly)) (by rw [e2]; rfl)).trans (run_rt (run_ret den_con)))
      cases due with
      | tup ys =>
        cases x <;> simp [kindI] at hk
        rename_i xs
        simp only [okD, Bool.and_eq_true] at h
        refine run_rt ((run_t (w := .val (.bl true)) (den_or_t (den_isi (den_var rfl) rfl) rfl) rfl).trans ?_)
        exact cont (xs := xs) (ys := ys) (fun j jj hjj hj => by show atI xs jj = _; exact atI_getD hjj hj) (fun j jj hjj hj => by show atI ys jj = _; exact atI_getD hjj hj) rfl rfl rfl (Nat.le_of_ble_eq_true h.1) h.2
      | lst ys =>
        cases x <;> simp [kindI] at hk
        rename_i xs
        simp only [okD, Bool.and_eq_true] at h
        refine run_rt ((run_t (w := .val (.bl true)) ((den_or_f (w := .val (.bl false)) (den_isi (den_var rfl) rfl) rfl).trans (den_isi (den_var rfl) rfl)) rfl).trans ?_)
        exact cont (xs := xs) (ys := ys) (fun j jj hjj hj => by show atI xs jj = _; exact atI_getD hjj hj) (fun j jj hjj hj => by show atI ys jj = _; exact atI_getD hjj hj) rfl rfl rfl (Nat.le_of_ble_eq_true h.1) h.2
      | _ =>
        refine (run_nx ((run_f (w := .val (.bl false)) ((den_or_f (w := .val (.bl false)) (den_isi (den_var rfl) rfl) rfl).trans (den_isi (den_var rfl) rfl)) rfl).trans run_nil)).trans ?_
        refine (run_nx ((run_f (w := .val (.bl false)) (den_isi (den_var rfl) rfl) rfl).trans run_nil)).trans ?_
        exact run_rt (run_ret (den_cmp (den_var rfl) (den_var rfl) (eqD_flat hk (by simp [kindI]) (by simp [kindI]))))
    · have e1 : (!(kindI x == kindI due)) = true := by simpa using hk
      rw [kind_ne hk]
      exact run_rt ((run_t (den_neI (den_call (denL1 (den_var rfl)) ev_law_kind) (den_call (denL1 (den_var rfl)) ev_law_kind)) (by rw [e1]; rfl)).trans (run_rt (run_ret den_con)))
end L2.L_k01
set_option Elab.async false
set_option linter.all false
set_option maxRecDepth 100000
set_option maxHeartbeats 1000000
namespace L2.L_k01
open PySem PySem.Spec PyProof.Rows L2 L2.Ev
--LIB isfunction
theorem ev_is_whole {k : Nat} {d : D} {st : Sto} : callT RT (k + 1) "is_whole" [.val d] st = some (.val (.bl (kindI d == 2)), st) := by
  refine call_ret t_is_whole rfl rfl ?_
  cases d <;> rfl
theorem ev_is_from {k : Nat} {d : D} {a b : Int} {st : Sto} : callT RT (k + 2) "is_from" [.val d, .val (.int a), .val (.int b)] st = some (.val (.bl (match d with | .int i => decide (a ≤ i) && decide (i ≤ b) | _ => false)), st) := by
  refine call_ret t_is_from rfl rfl ?_
  show sdenB b_is_from (callT RT (k + 1)) [some (.val d), some (.val (.int a)), some (.val (.int b))] st = _
  unfold b_is_from
  cases d with
  | int i => exact run_rt (run_ret ((den_and_t (w := .val (.bl true)) (den_call (denL1 (den_var rfl)) ev_is_whole) rfl).trans (den_chainI (den_var rfl) (den_var rfl) (den_var rfl))))
  | _ => exact run_rt (run_ret (den_and_f (w := .val (.bl false)) (den_call (denL1 (den_var rfl)) ev_is_whole) rfl))
def numsB : D → Bool
  | .tup xs => xs.all fun x => kindI x == 2
  | _ => false
theorem ev_is_numbers {k m : Nat} {d : D} {st : Sto} (h : okD m d = true) : callT RT (k + 2) "is_numbers" [.val d] st = some (.val (.bl (numsB d)), st) := by
  refine call_ret t_is_numbers rfl rfl ?_
  show sdenB b_is_numbers (callT RT (k + 1)) [some (.val d), none] st = _
  unfold b_is_numbers
  cases d with
  | tup xs =>
    have hz : xs.length ≤ 100000 := by
      cases m with
      | zero => simp [okD] at h
      | succ m =>
        simp only [okD, Bool.and_eq_true] at h
        exact Nat.le_of_ble_eq_true h.1
    exact run_rt (run_ret ((den_and_t (w := .val (.bl true)) (den_isi (den_var rfl) rfl) rfl).trans (den_allB (den_lc (den_anyT (den_var rfl)) (mapL_mapD fun x _ => step_yes (den_call (denL1 (den_var rfl)) ev_is_whole)) (by rw [List.length_map]; omega)))))
  | _ => exact run_rt (run_ret (den_and_f (w := .val (.bl false)) (den_isi (den_var rfl) rfl) rfl))
def bitB : D → Bool
  | .int i => i == 0 || i == 1
  | _ => false
def bitsB (d : D) (m : Int) : Bool := match d with
  | .tup xs => (lenI xs == m) && xs.all bitB
  | _ => false
theorem ok_len {m : Nat} {xs : List D} (h : okD m (.tup xs) = true) : xs.length ≤ 100000 := by
  cases m with
  | zero => simp [okD] at h
  | succ m =>
    simp only [okD, Bool.and_eq_true] at h
    exact Nat.le_of_ble_eq_true h.1
theorem ev_is_bits {k m : Nat} {d : D} {s : Int} {st : Sto} (h : okD m d = true) : callT RT (k + 3) "is_bits" [.val d, .val (.int s)] st = some (.val (.bl (bitsB d s)), st) := by
  refine call_ret t_is_bits rfl rfl ?_
  show sdenB b_is_bits (callT RT (k + 2)) [some (.val d), some (.val (.int s)), none] st = _
  unfold b_is_bits
  have hn := ev_is_numbers (k := k) (st := st) h
  cases d with
  | tup xs =>
    have hz := ok_len h
    cases hx : numsB (.tup xs) with
    | false =>
      rw [hx] at hn
      have : bitsB (.tup xs) s = false := by
        simp only [bitsB, Bool.and_eq_false_iff]
        refine .inr ?_
        simp only [numsB, List.all_eq_false] at hx ⊢
        obtain ⟨x, h1, h2⟩ := hx
        refine ⟨x, h1, ?_⟩
        cases x <;> simp [kindI, bitB] at h2 ⊢
      rw [this]
      exact run_rt (run_ret (den_and_f (den_call (denL1 (den_var rfl)) hn) rfl))
    | true =>
      rw [hx] at hn
      have hall : ∀ x ∈ xs, kindI x == 2 := List.all_eq_true.mp hx
      by_cases hl : lenI xs = s
      · have e : bitsB (.tup xs) s = xs.all bitB := by simp [bitsB, hl]
        rw [e]
        refine run_rt (run_ret ((den_and_t (den_call (denL1 (den_var rfl)) hn) rfl).trans ((den_and_t (w := .val (.bl true)) ?_ rfl).trans (den_allB (den_lc (den_anyT (den_var rfl)) (mapL_mapD fun x hx => step_yes ?_) (by rw [List.length_map]; omega))))))
        · have := den_eqI (cf := callT RT (k + 2)) (env := [some (.val (.tup xs)), some (.val (.int s)), none]) (st := st) (a := .prim .len (.cons (.var 0) .nil)) (b := .var 1) (den_lenT (den_var rfl)) (den_var rfl)
          rw [hl] at this
          simpa using this
        · have hk := hall x hx
          cases x <;> simp [kindI] at hk
          rename_i i
          have := den_chainI (cf := callT RT (k + 2)) (env := [some (.val (.tup xs)), some (.val (.int s)), some (.val (.int i))]) (st := st) (a := .con (.int 0)) (b := .var 2) (c := .con (.int 1)) den_con (den_var rfl) den_con
          have hb : (decide (0 ≤ i) && decide (i ≤ 1)) = bitB (.int i) := by
            rw [Bool.eq_iff_iff]
            simp [bitB]
            omega
          rw [hb] at this
          exact this
      · have e : bitsB (.tup xs) s = false := by simp [bitsB, hl]
        rw [e]
        refine run_rt (run_ret ((den_and_t (den_call (denL1 (den_var rfl)) hn) rfl).trans (den_and_f (w := .val (.bl false)) ?_ rfl)))
        have := den_eqI (cf := callT RT (k + 2)) (env := [some (.val (.tup xs)), some (.val (.int s)), none]) (st := st) (a := .prim .len (.cons (.var 0) .nil)) (b := .var 1) (den_lenT (den_var rfl)) (den_var rfl)
        rw [show (lenI xs == s) = false by simpa using hl] at this
        exact this
  | _ => exact run_rt (run_ret (den_and_f (w := .val (.bl false)) (den_call (denL1 (den_var rfl)) hn) rfl))
theorem ev_law_numbers_in {k m : Nat} {d : D} {s : Int} {st : Sto} (h : okD m d = true) : callT RT (k + 2) "_law_numbers_in" [.val d, .val (.int s)] st = some (.val (.bl (match d with | .tup xs => (lenI xs == s) && xs.all fun x => kindI x == 2 | _ => false)), st) := by
  refine call_ret t__law_numbers_in rfl rfl ?_
  show sdenB b__law_numbers_in (callT RT (k + 1)) [some (.val d), some (.val (.int s)), none] st = _
  unfold b__law_numbers_in
  cases d with
  | tup xs =>
    have hz := ok_len h
    have hne := den_neI (cf := callT RT (k + 1)) (env := [some (.val (.tup xs)), some (.val (.int s)), none]) (st := st) (a := .prim .len (.cons (.var 0) .nil)) (b := .var 1) (den_lenT (den_var rfl)) (den_var rfl)
    by_cases hl : lenI xs = s
    · rw [show (!(lenI xs == s)) = false by simpa using hl] at hne
      refine (run_nx ((run_f ((den_or_f (w := .val (.bl false)) (den_not (t := true) (den_isi (den_var rfl) rfl) rfl) rfl).trans hne) rfl).trans run_nil)).trans ?_
      have step := mapL_filterD (f := stepC (.one 2) (denT (.tst (.not (.call "_law_is_int" (.cons (.var 2) .nil))))) (den (.var 2)) (callT RT (k + 1)) [some (.val (.tup xs)), some (.val (.int s)), none]) (p := fun x => !(kindI x == 2)) (g := fun x => x) (st := st) (xs := xs) (fun x _ => by
        have hc := den_call (cf := callT RT (k + 1)) (env := [some (.val (.tup xs)), some (.val (.int s)), some (.val x)]) (st := st) (as := .cons (.var 2) .nil) (denL1 (den_var rfl)) (ev_law_is_int (k := k) (d := x) (st := st))
        cases hk : kindI x == 2 with
        | true =>
          rw [hk] at hc
          exact step_f (den_not hc rfl) rfl
        | false =>
          rw [hk] at hc
          exact step_t (den_not hc rfl) rfl (den_var rfl))
      obtain ⟨res, hres⟩ : ∃ res, (xs.filter fun x => !(kindI x == 2)) = res := ⟨_, rfl⟩
      rw [hres, List.map_id'] at step
      have hrl : res.length ≤ 16777216 := by
        rw [← hres]
        exact Nat.le_trans (List.length_filter_le _ _) (by omega)
      have hf : (lenI res == 0) = ((lenI xs == s) && xs.all fun x => kindI x == 2) := by
        rw [hl, lenI_eq, ← hres]
        simp only [beq_self_eq_true, Bool.true_and]
        rw [Bool.eq_iff_iff]
        simp
      show _ = some (Fl.rt (.val (.bl ((lenI xs == s) && xs.all fun x => kindI x == 2))), st)
      rw [← hf]
      exact run_rt (run_ret (den_eqI (den_lenL (den_lc (den_anyT (den_var rfl)) step hrl)) den_con))
    · rw [show (!(lenI xs == s)) = true by simpa using hl] at hne
      show _ = some (Fl.rt (.val (.bl ((lenI xs == s) && xs.all fun x => kindI x == 2))), st)
      rw [show (lenI xs == s) = false by simpa using hl]
      exact run_rt ((run_t ((den_or_f (w := .val (.bl false)) (den_not (t := true) (den_isi (den_var rfl) rfl) rfl) rfl).trans hne) rfl).trans (run_rt (run_ret den_con)))
  | _ => exact run_rt ((run_t (den_or_t (w := .val (.bl true)) (den_not (t := false) (den_isi (den_var rfl) rfl) rfl) rfl) rfl).trans (run_rt (run_ret den_con)))
end L2.L_k01
set_option Elab.async false
set_option linter.all false
set_option maxRecDepth 100000
set_option maxHeartbeats 1000000
namespace L2.L_k01
open PySem PySem.Spec PyProof.Rows L2 L2.Ev
--LIB isfunction2
theorem ev_law_bits {k m : Nat} {d : D} {s : Int} {st : Sto} (h : okD m d = true) : callT RT (k + 3) "_law_bits" [.val d, .val (.int s)] st = some (.val (.bl (bitsB d s)), st) := by
  refine call_ret t__law_bits rfl rfl ?_
  show sdenB b__law_bits (callT RT (k + 2)) [some (.val d), some (.val (.int s)), none] st = _
  unfold b__law_bits
  have hn := ev_law_numbers_in (k := k) (s := s) (st := st) h
  cases d with
  | tup xs =>
    have hz := ok_len h
    simp only at hn
    cases hx : ((lenI xs == s) && xs.all fun x => kindI x == 2) with
    | false =>
      rw [hx] at hn
      have : bitsB (.tup xs) s = false := by
        simp only [bitsB]
        rw [Bool.and_eq_false_iff] at hx ⊢
        rcases hx with hx | hx
        · exact .inl hx
        · refine .inr ?_
          simp only [List.all_eq_false] at hx ⊢
          obtain ⟨x, h1, h2⟩ := hx
          refine ⟨x, h1, ?_⟩
          cases x <;> simp [kindI, bitB] at h2 ⊢
      rw [this]
      exact run_rt (run_ret (den_and_f (den_call (denL2 (den_var rfl) (den_var rfl)) hn) rfl))
    | true =>
      rw [hx] at hn
      rw [Bool.and_eq_true] at hx
      have hall : ∀ x ∈ xs, kindI x == 2 := List.all_eq_true.mp hx.2
      have step := mapL_filterD (f := stepC (.one 2) (denT (.tst (.cmp .NotIn (.var 2) (.tup (.cons (.con (.int 0)) (.cons (.con (.int 1)) .nil)))))) (den (.var 2)) (callT RT (k + 2)) [some (.val (.tup xs)), some (.val (.int s)), none]) (p := fun x => !bitB x) (g := fun x => x) (st := st) (xs := xs) (fun x hx => by
        have hk := hall x hx
        cases x <;> simp [kindI] at hk
        rename_i i
        have hc := den_cmp (cf := callT RT (k + 2)) (env := [some (.val (.tup xs)), some (.val (.int s)), some (.val (.int i))]) (st := st) (op := .NotIn) (a := .var 2) (b := .tup (.cons (.con (.int 0)) (.cons (.con (.int 1)) .nil))) (d := .bl (!((0 : Int) == i || ((1 : Int) == i || false)))) (den_var rfl) (den_tup2 den_con den_con) rfl
        have hb : (!((0 : Int) == i || ((1 : Int) == i || false))) = !bitB (.int i) := by
          congr 1
          rw [Bool.eq_iff_iff]
          simp [bitB]
          omega
        rw [hb] at hc
        cases hbi : !bitB (.int i) with
        | true =>
          rw [hbi] at hc
          exact step_t hc rfl (den_var rfl)
        | false =>
          rw [hbi] at hc
          exact step_f hc rfl)
      obtain ⟨res, hres⟩ : ∃ res, (xs.filter fun x => !bitB x) = res := ⟨_, rfl⟩
      rw [hres, List.map_id'] at step
      have hrl : res.length ≤ 16777216 := by
        rw [← hres]
        exact Nat.le_trans (List.length_filter_le _ _) (by omega)
      have hf : (lenI res == 0) = bitsB (.tup xs) s := by
        simp only [bitsB]
        rw [hx.1, lenI_eq, ← hres, Bool.true_and, Bool.eq_iff_iff]
        simp
      rw [← hf]
      exact run_rt (run_ret ((den_and_t (den_call (denL2 (den_var rfl) (den_var rfl)) hn) rfl).trans (den_eqI (den_lenL (den_lc (den_anyT (den_var rfl)) step hrl)) den_con)))
  | _ => exact run_rt (run_ret (den_and_f (w := .val (.bl false)) (den_call (denL2 (den_var rfl) (den_var rfl)) hn) rfl))
def functionB : D → Bool
  | .tup [.int n, b] => (decide (0 ≤ n) && decide (n ≤ 4)) && bitsB b (1 * 2 ^ n.toNat)
  | _ => false
theorem shl_ok {n : Int} (h0 : 0 ≤ n) (h4 : n ≤ 4) : binD .LShift (.int 1) (.int n) = some (.int (1 * 2 ^ n.toNat)) := by
  show shlD (.int 1) (.int n) = _
  have : powOk 1 n = true := by
    unfold powOk
    rw [decide_eq_true h0, sm_iff.mpr (show n.natAbs < 1001 by omega), sm_iff.mpr (show (1 : Int).natAbs < 18446744073709551616 by decide)]
    rfl
  simp only [shlD, this, if_true]
theorem ev_is_function {k m : Nat} {d : D} {st : Sto} (h : okD m d = true) : callT RT (k + 4) "is_function" [.val d] st = some (.val (.bl (functionB d)), st) := by
  refine call_ret t_is_function rfl rfl ?_
  show sdenB b_is_function (callT RT (k + 3)) [some (.val d)] st = _
  unfold b_is_function
  cases d with
  | tup xs =>
    match xs, h with
    | [a, b], h =>
      have hi0 : idxD (.tup [a, b]) (.int 0) = some a := rfl
      have hi1 : idxD (.tup [a, b]) (.int 1) = some b := rfl
      have hb : ∃ m', okD m' b = true := by
        cases m with
        | zero => simp [okD] at h
        | succ m =>
          simp only [okD, Bool.and_eq_true, List.all_cons] at h
          exact ⟨m, h.2.2.1⟩
      obtain ⟨m', hb⟩ := hb
      have hf := ev_is_from (k := k + 1) (d := a) (a := 0) (b := 4) (st := st)
      have hne : den (.cmp .NotEq (.prim .len (.cons (.var 0) .nil)) (.con (.int 2))) (callT RT (k + 3)) [some (.val (.tup [a, b]))] st = some (.val (.bl false), st) := by
        have := den_neI (cf := callT RT (k + 3)) (env := [some (.val (.tup [a, b]))]) (st := st) (a := .prim .len (.cons (.var 0) .nil)) (b := .con (.int 2)) (den_lenT (den_var rfl)) den_con
        exact this
      cases a with
      | int n =>
        simp only at hf
        by_cases hn : 0 ≤ n ∧ n ≤ 4
        · have e : (decide (0 ≤ n) && decide (n ≤ 4)) = true := by simp [hn.1, hn.2]
          rw [e] at hf
          have : functionB (.tup [.int n, b]) = bitsB b (1 * 2 ^ n.toNat) := by simp only [functionB, e, Bool.true_and]
          rw [this]
          refine (run_nx ((run_f ((den_or_f (w := .val (.bl false)) (den_not (t := true) (den_isi (den_var rfl) rfl) rfl) rfl).trans ((den_or_f hne rfl).trans (den_not (den_call (denL3 (den_idx (den_var rfl) den_con hi0) den_con den_con) hf) rfl))) rfl).trans run_nil)).trans ?_
          exact run_rt (run_ret (den_call (denL2 (den_idx (den_var rfl) den_con hi1) (den_bin den_con (den_idx (den_var rfl) den_con hi0) (shl_ok hn.1 hn.2))) (ev_is_bits hb)))
        · have e : (decide (0 ≤ n) && decide (n ≤ 4)) = false := by
            rw [Bool.and_eq_false_iff]
            simp
            omega
          rw [e] at hf
          have : functionB (.tup [.int n, b]) = false := by simp only [functionB, e, Bool.false_and]
          rw [this]
          exact run_rt ((run_t ((den_or_f (w := .val (.bl false)) (den_not (t := true) (den_isi (den_var rfl) rfl) rfl) rfl).trans ((den_or_f hne rfl).trans (den_not (den_call (denL3 (den_idx (den_var rfl) den_con hi0) den_con den_con) hf) rfl))) rfl).trans (run_rt (run_ret den_con)))
      | _ =>
        exact run_rt ((run_t ((den_or_f (w := .val (.bl false)) (den_not (t := true) (den_isi (den_var rfl) rfl) rfl) rfl).trans ((den_or_f hne rfl).trans (den_not (t := false) (den_call (denL3 (den_idx (den_var rfl) den_con hi0) den_con den_con) hf) rfl))) rfl).trans (run_rt (run_ret den_con)))
    | [], h => rfl
    | [a], h => cases a <;> rfl
    | a :: b :: c :: r, h =>
      have hfb : functionB (.tup (a :: b :: c :: r)) = false := by cases a <;> rfl
      rw [hfb]
      have hne : den (.cmp .NotEq (.prim .len (.cons (.var 0) .nil)) (.con (.int 2))) (callT RT (k + 3)) [some (.val (.tup (a :: b :: c :: r)))] st = some (.val (.bl true), st) := by
        have := den_neI (cf := callT RT (k + 3)) (env := [some (.val (.tup (a :: b :: c :: r)))]) (st := st) (a := .prim .len (.cons (.var 0) .nil)) (b := .con (.int 2)) (den_lenT (den_var rfl)) den_con
        rw [show (!(lenI (a :: b :: c :: r) == 2)) = true by
          rw [lenI_eq]
          simp
          omega] at this
        exact this
      exact run_rt ((run_t ((den_or_f (w := .val (.bl false)) (den_not (t := true) (den_isi (den_var rfl) rfl) rfl) rfl).trans (den_or_t hne rfl)) rfl).trans (run_rt (run_ret den_con)))
  | _ => exact run_rt ((run_t (den_or_t (w := .val (.bl true)) (den_not (t := false) (den_isi (den_var rfl) rfl) rfl) rfl) rfl).trans (run_rt (run_ret den_con)))
theorem ev_law_function {k m : Nat} {d : D} {st : Sto} (h : okD m d = true) : callT RT (k + 4) "_law_function" [.val d] st = some (.val (.bl (functionB d)), st) := by
  refine call_ret t__law_function rfl rfl ?_
  show sdenB b__law_function (callT RT (k + 3)) [some (.val d)] st = _
  unfold b__law_function
  cases d with
  | tup xs =>
    match xs, h with
    | [a, b], h =>
      have hi0 : idxD (.tup [a, b]) (.int 0) = some a := rfl
      have hi1 : idxD (.tup [a, b]) (.int 1) = some b := rfl
      have hb : ∃ m', okD m' b = true := by
        cases m with
        | zero => simp [okD] at h
        | succ m =>
          simp only [okD, Bool.and_eq_true, List.all_cons] at h
          exact ⟨m, h.2.2.1⟩
      obtain ⟨m', hb⟩ := hb
      have hf := ev_law_is_int (k := k + 2) (d := a) (st := st)
      have hne : den (.cmp .NotEq (.prim .len (.cons (.var 0) .nil)) (.con (.int 2))) (callT RT (k + 3)) [some (.val (.tup [a, b]))] st = some (.val (.bl false), st) := by
        have := den_neI (cf := callT RT (k + 3)) (env := [some (.val (.tup [a, b]))]) (st := st) (a := .prim .len (.cons (.var 0) .nil)) (b := .con (.int 2)) (den_lenT (den_var rfl)) den_con
        exact this
      cases a with
      | int n =>
        have hc := den_chainI (cf := callT RT (k + 3)) (env := [some (.val (.tup [.int n, b]))]) (st := st) (a := .con (.int 0)) (b := .idx (.var 0) (.con (.int 0))) (c := .con (.int 4)) den_con (den_idx (den_var rfl) den_con hi0) den_con
        by_cases hn : 0 ≤ n ∧ n ≤ 4
        · have e : (decide (0 ≤ n) && decide (n ≤ 4)) = true := by simp [hn.1, hn.2]
          rw [e] at hc
          have : functionB (.tup [.int n, b]) = bitsB b (1 * 2 ^ n.toNat) := by simp only [functionB, e, Bool.true_and]
          rw [this]
          refine (run_nx ((run_f ((den_or_f (w := .val (.bl false)) (den_not (t := true) (den_isi (den_var rfl) rfl) rfl) rfl).trans ((den_or_f hne rfl).trans ((den_or_f (w := .val (.bl false)) (den_not (t := true) (den_call (denL1 (den_idx (den_var rfl) den_con hi0)) hf) rfl) rfl).trans (den_not hc rfl)))) rfl).trans run_nil)).trans ?_
          exact run_rt (run_ret (den_call (denL2 (den_idx (den_var rfl) den_con hi1) (den_bin den_con (den_idx (den_var rfl) den_con hi0) (shl_ok hn.1 hn.2))) (ev_law_bits hb)))
        · have e : (decide (0 ≤ n) && decide (n ≤ 4)) = false := by
            rw [Bool.and_eq_false_iff]
            simp
            omega
          rw [e] at hc
          have : functionB (.tup [.int n, b]) = false := by simp only [functionB, e, Bool.false_and]
          rw [this]
          exact run_rt ((run_t ((den_or_f (w := .val (.bl false)) (den_not (t := true) (den_isi (den_var rfl) rfl) rfl) rfl).trans ((den_or_f hne rfl).trans ((den_or_f (w := .val (.bl false)) (den_not (t := true) (den_call (denL1 (den_idx (den_var rfl) den_con hi0)) hf) rfl) rfl).trans (den_not hc rfl)))) rfl).trans (run_rt (run_ret den_con)))
      | _ =>
        exact run_rt ((run_t ((den_or_f (w := .val (.bl false)) (den_not (t := true) (den_isi (den_var rfl) rfl) rfl) rfl).trans ((den_or_f hne rfl).trans (den_or_t (w := .val (.bl true)) (den_not (t := false) (den_call (denL1 (den_idx (den_var rfl) den_con hi0)) hf) rfl) rfl))) rfl).trans (run_rt (run_ret den_con)))
    | [], h => rfl
    | [a], h => cases a <;> rfl
    | a :: b :: c :: r, h =>
      have hfb : functionB (.tup (a :: b :: c :: r)) = false := by cases a <;> rfl
      rw [hfb]
      have hne : den (.cmp .NotEq (.prim .len (.cons (.var 0) .nil)) (.con (.int 2))) (callT RT (k + 3)) [some (.val (.tup (a :: b :: c :: r)))] st = some (.val (.bl true), st) := by
        have := den_neI (cf := callT RT (k + 3)) (env := [some (.val (.tup (a :: b :: c :: r)))]) (st := st) (a := .prim .len (.cons (.var 0) .nil)) (b := .con (.int 2)) (den_lenT (den_var rfl)) den_con
        rw [show (!(lenI (a :: b :: c :: r) == 2)) = true by
          rw [lenI_eq]
          simp
          omega] at this
        exact this
      exact run_rt ((run_t ((den_or_f (w := .val (.bl false)) (den_not (t := true) (den_isi (den_var rfl) rfl) rfl) rfl).trans (den_or_t hne rfl)) rfl).trans (run_rt (run_ret den_con)))
  | _ => exact run_rt ((run_t (den_or_t (w := .val (.bl true)) (den_not (t := false) (den_isi (den_var rfl) rfl) rfl) rfl) rfl).trans (run_rt (run_ret den_con)))
end L2.L_k01
set_option Elab.async false
set_option linter.all false
set_option maxRecDepth 100000
set_option maxHeartbeats 1000000
namespace L2.L_k01
open PySem PySem.Spec PyProof.Rows L2 L2.Ev
--LIB bend
def okN (B : Nat) : Nat → D → Bool
  | 0, .tup _ => false
  | 0, .lst _ => false
  | m + 1, .tup xs => Nat.ble xs.length B && xs.all (okN B m)
  | m + 1, .lst xs => Nat.ble xs.length B && xs.all (okN B m)
  | _, .int i => Nat.ble i.natAbs B
  | _, .str s => Nat.ble s.length B
  | _, _ => true
theorem okN_okD {B : Nat} (hB : B ≤ 100000) : ∀ {m : Nat} {d : D}, okN B m d = true → okD m d = true
  | 0, d, h => by cases d <;> first | rfl | (simp [okN] at h)
  | m + 1, d, h => by
    have key : ∀ xs : List D, (Nat.ble xs.length B && xs.all (okN B m)) = true → (Nat.ble xs.length 100000 && xs.all (okD m)) = true := fun xs h => by
      rw [Bool.and_eq_true] at h ⊢
      exact ⟨Nat.ble_eq_true_of_le (Nat.le_trans (Nat.le_of_ble_eq_true h.1) hB), List.all_eq_true.mpr fun x hx => okN_okD hB (List.all_eq_true.mp h.2 x hx)⟩
    cases d with
    | tup xs => exact key xs h
    | lst xs => exact key xs h
    | _ => rfl
theorem okN_mono {B B' : Nat} (hB : B ≤ B') : ∀ {m m' : Nat} {d : D}, m ≤ m' → okN B m d = true → okN B' m' d = true
  | 0, 0, d, hm, h => by
    cases d <;> simp only [okN, Nat.ble_eq] at h ⊢ <;> first | omega | cases h
  | 0, m' + 1, d, hm, h => by
    cases d <;> simp only [okN, Nat.ble_eq] at h ⊢ <;> first | omega | cases h
  | m + 1, m' + 1, d, hm, h => by
    have key : ∀ xs : List D, (Nat.ble xs.length B && xs.all (okN B m)) = true → (Nat.ble xs.length B' && xs.all (okN B' m')) = true := fun xs h => by
      rw [Bool.and_eq_true] at h ⊢
      exact ⟨Nat.ble_eq_true_of_le (Nat.le_trans (Nat.le_of_ble_eq_true h.1) hB), List.all_eq_true.mpr fun x hx => okN_mono hB (Nat.le_of_succ_le_succ hm) (List.all_eq_true.mp h.2 x hx)⟩
    cases d with
    | tup xs => exact key xs h
    | lst xs => exact key xs h
    | int i => simp only [okN, Nat.ble_eq] at h ⊢; omega
    | str s => simp only [okN, Nat.ble_eq] at h ⊢; omega
    | _ => rfl
  | m + 1, 0, d, hm, h => by omega
theorem okN_tup {B m : Nat} {xs : List D} : okN B (m + 1) (.tup xs) = true ↔ xs.length ≤ B ∧ ∀ x ∈ xs, okN B m x = true := by
  simp only [okN, Bool.and_eq_true, Nat.ble_eq, List.all_eq_true]
theorem okN_lst {B m : Nat} {xs : List D} : okN B (m + 1) (.lst xs) = true ↔ xs.length ≤ B ∧ ∀ x ∈ xs, okN B m x = true := by
  simp only [okN, Bool.and_eq_true, Nat.ble_eq, List.all_eq_true]
theorem str_tab : ((List.range 1010).all fun n => Nat.ble (Str.ofString (toString (n : Int))).length 5 && Nat.ble (Str.ofString (toString (-(n : Int)))).length 5) = true := by decide +kernel
theorem str_len {i : Int} (h : i.natAbs ≤ 1000) : (Str.ofString (toString i)).length ≤ 5 := by
  have h1 := List.all_eq_true.mp str_tab i.natAbs (List.mem_range.mpr (by omega))
  rw [Bool.and_eq_true] at h1
  rcases Int.natAbs_eq i with e | e
  · rw [e]
    exact Nat.le_of_ble_eq_true h1.1
  · rw [e]
    exact Nat.le_of_ble_eq_true h1.2
theorem log_len {n : Nat} (h : n ≤ 1000) : n.log2 < 1920 := by
  have h0 : n.log2 ≤ n := Nat.log2_le_self n
  omega
theorem den_strI {cf : CF} {env : En} {st st1 : Sto} {a : Ex} {i : Int} (h1 : den a cf env st = some (.val (.int i), st1)) (h : i.natAbs ≤ 1000) : den (.prim .str (.cons a .nil)) cf env st = some (.val (.str (Str.ofString (toString i))), st1) := den_prim1 h1 (by
  show (if decide (i.natAbs.log2 < 1920) && szOk (Str.ofString (toString i)).length then some (D.str (Str.ofString (toString i))) else none) = _
  rw [decide_eq_true (log_len h), szOk_le (Nat.le_trans (str_len h) (by decide))]
  rfl)

def bendRest : Sxs :=
    (.cons (.iff (.isi (.var 0) "tuple") (.cons (.ret (.idx (.lst (.cons (.bin .Add (.var 0) (.tup (.cons (.con (.int 0)) .nil))) (.cons (.slc (.var 0) .no (.at (.neg (.con (.int 1))))) (.cons (.prim .list (.cons (.var 0) .nil)) (.cons (.rev (.var 0)) (.cons (.con .non) (.cons (.bin .Add (.var 0) (.slc (.var 0) (.at (.neg (.con (.int 1)))) .no)) (.cons (.tup (.cons (.var 0) .nil)) .nil)))))))) (.var 5)))
    .nil) .nil)
    (.cons (.iff (.isi (.var 0) "str") (.cons (.ret (.idx (.lst (.cons (.bin .Add (.var 0) (.con (.str "s"))) (.cons (.con (.str "")) (.cons (.con (.int 0)) (.cons (.con (.str "steps")) (.cons (.con (.str "bits")) (.cons (.con (.str "some")) (.cons (.con .non) .nil)))))))) (.var 5)))
    .nil) .nil)
    (.cons (.iff (.or (.isi (.var 0) "bool") (.not (.isi (.var 0) "int"))) (.cons (.ret (.con (.int 0)))
    .nil) .nil)
    (.cons (.ret (.idx (.lst (.cons (.bin .Add (.var 0) (.con (.int 1))) (.cons (.bin .Sub (.var 0) (.con (.int 1))) (.cons (.bin .Add (.var 0) (.con (.int 2))) (.cons (.cmp .Eq (.var 0) (.con (.int 1))) (.cons (.prim .str (.cons (.var 0) .nil)) (.cons (.neg (.var 0)) (.cons (.bin .Add (.var 0) (.con (.int 9))) .nil)))))))) (.var 5)))
    .nil))))
theorem idx_lstI {xs : List D} {w : Int} (h0 : 0 ≤ w) (h1 : w < 7) (hl : xs.length = 7) : ∃ d, idxD (.lst xs) (.int w) = some d ∧ d ∈ xs := by
  obtain ⟨d, h2, h3⟩ := atI_in (xs := xs) (i := w) h0 (by omega)
  exact ⟨d, h2, h3⟩
theorem bend_ways {cf : CF} {B m : Nat} {d : D} {w1 w2 w3 w4 : Option Wv} {w : Int} {st : Sto} (hB : B ≤ 900) (h5 : 5 ≤ B) (h : okN B m d = true) (h0 : 0 ≤ w) (h7 : w < 7) : ∃ d', okN (B + 9) (m + 1) d' = true ∧ sdenB bendRest cf [some (.val d), w1, w2, w3, w4, some (.val (.int w))] st = some (.rt (.val d'), st) := by
  unfold bendRest
  cases d with
  | tup xs =>
    cases m with
    | zero => simp [okN] at h
    | succ m =>
      obtain ⟨hl, hx⟩ := okN_tup.mp h
      obtain ⟨d', e1, e2⟩ := idx_lstI (xs := [.tup (xs ++ [.int 0]), .tup (Ev.cutD xs none (some (-1))), .lst xs, .tup xs.reverse, .non, .tup (xs ++ Ev.cutD xs (some (-1)) none), .tup [.tup xs]]) h0 h7 rfl
      have hcl := cut_len (xs := xs) (lo := none) (hi := some (-1))
      have hcl2 : (Ev.cutD xs (some (-1)) none).length ≤ xs.length := cut_len
      have hx' : ∀ x ∈ xs, okN (B + 9) (m + 1) x = true := fun x hx1 => okN_mono (by omega) (by omega) (hx x hx1)
      have hcl3 : (Ev.cutD xs (some (-1)) none).length ≤ 1 := by
        unfold Ev.cutD HT.sIx
        rw [List.length_take, List.length_drop]
        simp
        omega
      refine ⟨d', ?_, ?_⟩
      · simp only [List.mem_cons, List.not_mem_nil, or_false] at e2
        rcases e2 with rfl | rfl | rfl | rfl | rfl | rfl | rfl
        · refine okN_tup.mpr ⟨by rw [List.length_append]; simp; omega, fun x hx1 => ?_⟩
          rcases List.mem_append.mp hx1 with q | q
          · exact hx' x q
          · simp at q
            subst q
            simp [okN]
        · exact okN_tup.mpr ⟨by omega, fun x hx1 => hx' x (cut_mem hx1)⟩
        · exact okN_lst.mpr ⟨by omega, hx'⟩
        · exact okN_tup.mpr ⟨by rw [List.length_reverse]; omega, fun x hx1 => hx' x (List.mem_reverse.mp hx1)⟩
        · rfl
        · refine okN_tup.mpr ⟨by rw [List.length_append]; omega, fun x hx1 => ?_⟩
          rcases List.mem_append.mp hx1 with q | q
          · exact hx' x q
          · exact hx' x (cut_mem q)
        · refine okN_tup.mpr ⟨by simp, fun x hx1 => ?_⟩
          simp at hx1
          subst hx1
          exact okN_mono (by omega) (by omega) h
      · refine run_rt ((run_t (w := .val (.bl true)) (den_isi (den_var rfl) rfl) rfl).trans (run_rt (run_ret (den_idx (den_lstV ?_ (by simp)) (den_var rfl) e1))))
        exact denL_cons (den_catT (den_var rfl) (den_tup1 den_con) (by simp; omega)) (denL_cons (den_slc (den_var rfl) rfl (denO_at (den_negI den_con)) rfl) (denL_cons (den_prim1 (den_var rfl) rfl) (denL_cons (den_revT (den_var rfl)) (denL_cons den_con (denL_cons (den_catT (den_var rfl) (den_slc (den_var rfl) (denO_at (den_negI den_con)) rfl rfl) (by omega)) (denL1 (den_tup1 (den_var rfl))))))))
  | int i =>
    have hi : i.natAbs ≤ B := by cases m <;> simpa [okN] using h
    have hs := str_len (i := i) (by omega)
    obtain ⟨d', e1, e2⟩ := idx_lstI (xs := [.int (i + 1), .int (i - 1), .int (i + 2), .bl (i == 1), .str (Str.ofString (toString i)), .int (-i), .int (i + 9)]) h0 h7 rfl
    refine ⟨d', ?_, ?_⟩
    · simp only [List.mem_cons, List.not_mem_nil, or_false] at e2
      rcases e2 with rfl | rfl | rfl | rfl | rfl | rfl | rfl <;> simp only [okN, Nat.ble_eq] <;> omega
    · refine (run_nx ((run_f (w := .val (.bl false)) (den_isi (den_var rfl) rfl) rfl).trans run_nil)).trans ?_
      refine (run_nx ((run_f (w := .val (.bl false)) (den_isi (den_var rfl) rfl) rfl).trans run_nil)).trans ?_
      refine (run_nx ((run_f (w := .val (.bl false)) ((den_or_f (w := .val (.bl false)) (den_isi (den_var rfl) rfl) rfl).trans (den_not (t := true) (den_isi (den_var rfl) rfl) rfl)) rfl).trans run_nil)).trans ?_
      refine run_rt (run_ret (den_idx (den_lstV ?_ (by simp)) (den_var rfl) e1))
      exact denL_cons (den_addI (den_var rfl) den_con) (denL_cons (den_subI (den_var rfl) den_con) (denL_cons (den_addI (den_var rfl) den_con) (denL_cons (den_eqI (den_var rfl) den_con) (denL_cons (den_strI (den_var rfl) (by omega)) (denL_cons (den_negI (den_var rfl)) (denL1 (den_addI (den_var rfl) den_con)))))))
  | str x =>
    have hi : x.length ≤ B := by cases m <;> simpa [okN] using h
    obtain ⟨d', e1, e2⟩ := idx_lstI (xs := [.str (x ++ "s"), .str "", .int 0, .str "steps", .str "bits", .str "some", .non]) h0 h7 rfl
    have hxs : (x ++ ("s" : Str)).length = x.length + 1 := by rw [str_app_len]; rfl
    refine ⟨d', ?_, ?_⟩
    · simp only [List.mem_cons, List.not_mem_nil, or_false] at e2
      rcases e2 with rfl | rfl | rfl | rfl | rfl | rfl | rfl
      · simp only [okN, Nat.ble_eq]; omega
      · simp only [okN, Nat.ble_eq]; exact Nat.zero_le _
      · simp [okN]
      · simp only [okN, Nat.ble_eq]; show 5 ≤ B + 9; omega
      · simp only [okN, Nat.ble_eq]; show 4 ≤ B + 9; omega
      · simp only [okN, Nat.ble_eq]; show 4 ≤ B + 9; omega
      · rfl
    · refine (run_nx ((run_f (w := .val (.bl false)) (den_isi (den_var rfl) rfl) rfl).trans run_nil)).trans ?_
      refine run_rt ((run_t (w := .val (.bl true)) (den_isi (den_var rfl) rfl) rfl).trans (run_rt (run_ret (den_idx (den_lstV ?_ (by simp)) (den_var rfl) e1))))
      have ha : addD (.str x) (.str "s") = some (.str (x ++ "s")) := by
        simp only [addD, szOk, Nat.ble_eq_true_of_le (show x.length + ("s" : Str).length ≤ 16777216 from by show x.length + 1 ≤ _; omega), if_true]
      exact denL_cons (den_bin (den_var rfl) den_con ha) (denL_cons den_con (denL_cons den_con (denL_cons den_con (denL_cons den_con (denL_cons den_con (denL1 den_con))))))
  | _ =>
    refine ⟨.int 0, by simp [okN], ?_⟩
    refine (run_nx ((run_f (w := .val (.bl false)) (den_isi (den_var rfl) rfl) rfl).trans run_nil)).trans ?_
    refine (run_nx ((run_f (w := .val (.bl false)) (den_isi (den_var rfl) rfl) rfl).trans run_nil)).trans ?_
    first
      | exact run_rt ((run_t (w := .val (.bl true)) (den_or_t (den_isi (den_var rfl) rfl) rfl) rfl).trans (run_rt (run_ret den_con)))
      | exact run_rt ((run_t (w := .val (.bl true)) ((den_or_f (w := .val (.bl false)) (den_isi (den_var rfl) rfl) rfl).trans (den_not (t := false) (den_isi (den_var rfl) rfl) rfl)) rfl).trans (run_rt (run_ret den_con)))
end L2.L_k01
set_option Elab.async false
set_option linter.all false
set_option maxRecDepth 100000
set_option maxHeartbeats 1000000
namespace L2.L_k01
open PySem PySem.Spec PyProof.Rows L2 L2.Ev
--LIB bend2
theorem bend_end {k B m : Nat} {d : D} {ds : List Int} {a dr : Int} {st : Sto} (hB : B ≤ 900) (h5 : 5 ≤ B) (h : okN B m d = true) (hd : 0 ≤ dr) : ∃ d', okN (B + 9) (m + 1) d' = true ∧ sdenB (.cons (.asg 5 (.bin .Mod (.bin .FloorDiv (.var 3) (.con (.int 5))) (.con (.int 7)))) bendRest) (callT RT k) [some (.val d), some (.val (.lst (ds.map .int))), some (.val (.int a)), some (.val (.int dr)), none, none] st = some (.rt (.val d'), st) := by
  obtain ⟨d', h1, h2⟩ := bend_ways (cf := callT RT k) (w1 := some (.val (.lst (ds.map .int)))) (w2 := some (.val (.int a))) (w3 := some (.val (.int dr))) (w4 := none) (w := dr / 5 % 7) (st := st) hB h5 h (Int.emod_nonneg _ (by decide)) (Int.emod_lt_of_pos _ (by decide))
  exact ⟨d', h1, (run_nx (run_asg (den_modI (den_fdivI (den_var rfl) den_con (by decide) (by decide)) den_con (by decide)))).trans h2⟩
theorem ev_law_bend {B : Nat} {ds : List Int} (hB : B ≤ 900) (h5 : 5 ≤ B) (hds : 1 ≤ ds.length) (hds2 : ds.length ≤ 1000) (hd0 : ∀ x ∈ ds, 0 ≤ x) : ∀ {m k : Nat} {d : D} {a : Int} {st : Sto}, okN B m d = true → 0 ≤ a → ∃ d', okN (B + 9) (m + 1) d' = true ∧ callT RT (k + m + 1) "_law_bend" [.val d, .val (.lst (ds.map .int)), .val (.int a)] st = some (.val d', st) := by
  intro m
  induction m with
  | zero =>
    intro k d a st h ha
    obtain ⟨len, hlen, hlen2⟩ := len_ex ds
    obtain ⟨x, hx1, hx2⟩ := atI_in (xs := ds) (i := a % len) (Int.emod_nonneg _ (by omega)) (by have := Int.emod_lt_of_pos a (show 0 < len by omega); omega)
    have hix : idxD (.lst (ds.map .int)) (.int (a % len)) = some (.int x) := by
      show atI (ds.map D.int) (a % len) = _
      rw [atI_map, hx1]
      rfl
    obtain ⟨d', h1, h2⟩ := bend_end (k := k) (ds := ds) (a := a) (dr := x) (st := st) hB h5 h (hd0 x hx2)
    refine ⟨d', h1, call_ret t__law_bend rfl rfl ?_⟩
    show sdenB b__law_bend (callT RT k) [some (.val d), some (.val (.lst (ds.map .int))), some (.val (.int a)), none, none, none] st = _
    unfold b__law_bend
    have hln : den (.prim .len (.cons (.var 1) .nil)) (callT RT k) [some (.val d), some (.val (.lst (ds.map .int))), some (.val (.int a)), none, none, none] st = some (.val (.int len), st) := by
      have := den_lenL (cf := callT RT k) (env := [some (.val d), some (.val (.lst (ds.map .int))), some (.val (.int a)), none, none, none]) (st := st) (a := .var 1) (den_var rfl)
      rw [lenI_map, hlen] at this
      exact this
    refine (run_nx (run_asg (den_prim1 (d1 := .int x) (den_idx (den_var rfl) (den_modI (den_var rfl) hln (by omega)) hix) rfl))).trans ?_
    have hit : isiD "tuple" d = some (.bl false) := by cases d <;> first | rfl | (simp [okN] at h)
    refine (run_nx ((run_f (w := .val (.bl false)) (den_and_f (den_isi (den_var rfl) hit) rfl) rfl).trans run_nil)).trans ?_
    exact h2
  | succ m ih =>
    intro k d a st h ha
    obtain ⟨len, hlen, hlen2⟩ := len_ex ds
    obtain ⟨x, hx1, hx2⟩ := atI_in (xs := ds) (i := a % len) (Int.emod_nonneg _ (by omega)) (by have := Int.emod_lt_of_pos a (show 0 < len by omega); omega)
    have hix : idxD (.lst (ds.map .int)) (.int (a % len)) = some (.int x) := by
      show atI (ds.map D.int) (a % len) = _
      rw [atI_map, hx1]
      rfl
    obtain ⟨d', h1, h2⟩ := bend_end (k := k + (m + 1)) (ds := ds) (a := a) (dr := x) (st := st) hB h5 h (hd0 x hx2)
    have hln : den (.prim .len (.cons (.var 1) .nil)) (callT RT (k + (m + 1))) [some (.val d), some (.val (.lst (ds.map .int))), some (.val (.int a)), none, none, none] st = some (.val (.int len), st) := by
      have := den_lenL (cf := callT RT (k + (m + 1))) (env := [some (.val d), some (.val (.lst (ds.map .int))), some (.val (.int a)), none, none, none]) (st := st) (a := .var 1) (den_var rfl)
      rw [lenI_map, hlen] at this
      exact this
    have first_ : ∀ {r : Option (Fl × Sto)} {rest : Sxs}, sdenB rest (callT RT (k + (m + 1))) [some (.val d), some (.val (.lst (ds.map .int))), some (.val (.int a)), some (.val (.int x)), none, none] st = r → sdenB (.cons (.asg 3 (.prim .int (.cons (.idx (.var 1) (.bin .Mod (.var 2) (.prim .len (.cons (.var 1) .nil)))) .nil))) rest) (callT RT (k + (m + 1))) [some (.val d), some (.val (.lst (ds.map .int))), some (.val (.int a)), none, none, none] st = r := fun hr =>
      (run_nx (run_asg (den_prim1 (d1 := .int x) (den_idx (den_var rfl) (den_modI (den_var rfl) hln (by omega)) hix) rfl))).trans hr
    by_cases hit : isiD "tuple" d = some (.bl false)
    · refine ⟨d', h1, call_ret t__law_bend rfl rfl ?_⟩
      show sdenB b__law_bend (callT RT (k + (m + 1))) [some (.val d), some (.val (.lst (ds.map .int))), some (.val (.int a)), none, none, none] st = _
      unfold b__law_bend
      refine first_ ?_
      exact (run_nx ((run_f (w := .val (.bl false)) (den_and_f (den_isi (den_var rfl) hit) rfl) rfl).trans run_nil)).trans h2
    · cases d with
      | tup xs =>
        obtain ⟨hl, hxs⟩ := okN_tup.mp h
        obtain ⟨n, hn, hn2⟩ := len_ex xs
        have hlx : ∀ E : En, E[0]? = some (some (.val (.tup xs))) → den (.prim .len (.cons (.var 0) .nil)) (callT RT (k + (m + 1))) E st = some (.val (.int n), st) := fun E hE => by
          have := den_lenT (cf := callT RT (k + (m + 1))) (env := E) (st := st) (a := .var 0) (den_var hE)
          rw [hn] at this
          exact this
        by_cases hc : 0 < n ∧ 0 < x % 5
        · obtain ⟨y, hy1, hy2⟩ := atI_in (xs := xs) (i := x / 5 % n) (Int.emod_nonneg _ (by omega)) (by have := Int.emod_lt_of_pos (x / 5) (show 0 < n by omega); omega)
          obtain ⟨y', hy3, hy4⟩ := ih (k := k) (d := y) (a := a + 1) (st := st) (hxs y hy2) (by omega)
          obtain ⟨j, hj⟩ : ∃ j, x / 5 % n = j := ⟨_, rfl⟩
          rw [hj] at hy1
          have j0 : 0 ≤ j := hj ▸ Int.emod_nonneg _ (by omega)
          have j1 : j < n := hj ▸ Int.emod_lt_of_pos _ hc.1
          have c1 : (Ev.cutD xs none (some j)).length ≤ j.toNat := by
            unfold Ev.cutD HT.sIx
            simp only [List.length_take, List.length_drop]
            split <;> omega
          have c2 : (Ev.cutD xs (some (j + 1)) none).length ≤ xs.length - (j.toNat + 1) := by
            unfold Ev.cutD HT.sIx
            simp only [List.length_take, List.length_drop]
            split <;> omega
          have hlen3 : (Ev.cutD xs none (some j) ++ [y'] ++ Ev.cutD xs (some (j + 1)) none).length ≤ xs.length := by
            rw [List.length_append, List.length_append, List.length_cons, List.length_nil]
            omega
          have hxs' : ∀ z ∈ xs, okN (B + 9) (m + 1) z = true := fun z hz => okN_mono (by omega) (by omega) (hxs z hz)
          refine ⟨.tup (Ev.cutD xs none (some j) ++ [y'] ++ Ev.cutD xs (some (j + 1)) none), okN_tup.mpr ⟨by omega, fun z hz => ?_⟩, call_ret t__law_bend rfl rfl ?_⟩
          · rcases List.mem_append.mp hz with q | q
            · rcases List.mem_append.mp q with q | q
              · exact hxs' z (cut_mem q)
              · simp at q
                subst q
                exact hy3
            · exact hxs' z (cut_mem q)
          show sdenB b__law_bend (callT RT (k + (m + 1))) [some (.val (.tup xs)), some (.val (.lst (ds.map .int))), some (.val (.int a)), none, none, none] st = _
          unfold b__law_bend
          refine first_ ?_
          have hg1 : decide ((0 : Int) < n) = true := decide_eq_true hc.1
          have hg2 : decide ((0 : Int) < x % 5) = true := decide_eq_true hc.2
          refine run_rt ((run_t (w := .val (.bl true)) ((den_and_t (w := .val (.bl true)) (den_isi (den_var rfl) rfl) rfl).trans ((den_and_t (den_gtI (hlx _ rfl) den_con) (by rw [hg1]; rfl)).trans ((den_gtI (den_modI (den_var rfl) den_con (by decide)) den_con).trans (by rw [hg2])))) rfl).trans ?_)
          refine (run_nx (run_asg (w := .val (.int j)) ((den_modI (den_fdivI (den_var rfl) den_con (by decide) (by decide)) (hlx _ rfl) (by omega)).trans (by rw [hj])))).trans ?_
          exact run_rt (run_ret (den_catT (den_catT (den_slc (den_var rfl) rfl (denO_at (den_var rfl)) rfl) (den_tup1 (den_call (denL3 (den_idx (den_var rfl) (den_var rfl) hy1) (den_var rfl) (den_addI (den_var rfl) den_con)) hy4)) (by rw [List.length_cons, List.length_nil]; omega)) (den_slc (den_var rfl) (denO_at (den_addI (den_var rfl) den_con)) rfl rfl) (by rw [List.length_append, List.length_cons, List.length_nil]; omega)))
        · refine ⟨d', h1, call_ret t__law_bend rfl rfl ?_⟩
          show sdenB b__law_bend (callT RT (k + (m + 1))) [some (.val (.tup xs)), some (.val (.lst (ds.map .int))), some (.val (.int a)), none, none, none] st = _
          unfold b__law_bend
          refine first_ ?_
          refine (run_nx ((run_f (w := .val (.bl false)) ((den_and_t (w := .val (.bl true)) (den_isi (den_var rfl) rfl) rfl).trans ?_) rfl).trans run_nil)).trans h2
          by_cases hn0 : 0 < n
          · have hg1 : decide ((0 : Int) < n) = true := decide_eq_true hn0
            have hg2 : decide ((0 : Int) < x % 5) = false := decide_eq_false fun q => hc ⟨hn0, q⟩
            exact (den_and_t (den_gtI (hlx _ rfl) den_con) (by rw [hg1]; rfl)).trans ((den_gtI (den_modI (den_var rfl) den_con (by decide)) den_con).trans (by rw [hg2]))
          · have hg1 : decide ((0 : Int) < n) = false := decide_eq_false hn0
            exact (den_and_f (den_gtI (hlx _ rfl) den_con) (by rw [hg1]; rfl)).trans (by rw [hg1])
      | _ => exact absurd rfl hit
end L2.L_k01
set_option Elab.async false
set_option linter.all false
set_option maxRecDepth 100000
set_option maxHeartbeats 1000000
namespace L2.L_k01
open PySem PySem.Spec PyProof.Rows L2 L2.Ev
--LIB bits
theorem ab0 (cf : CF) (st : Sto) : sdenB b_all_bits cf [some (.val (.int 0)), none, none, none, none] st = some (.rt (.val (rowsD 0)), st) := by kernel_rfl
theorem ab1 (cf : CF) (st : Sto) : sdenB b_all_bits cf [some (.val (.int 1)), none, none, none, none] st = some (.rt (.val (rowsD 1)), st) := by kernel_rfl
theorem ab2 (cf : CF) (st : Sto) : sdenB b_all_bits cf [some (.val (.int 2)), none, none, none, none] st = some (.rt (.val (rowsD 2)), st) := by kernel_rfl
theorem ab3 (cf : CF) (st : Sto) : sdenB b_all_bits cf [some (.val (.int 3)), none, none, none, none] st = some (.rt (.val (rowsD 3)), st) := by kernel_rfl
theorem ab4 (cf : CF) (st : Sto) : sdenB b_all_bits cf [some (.val (.int 4)), none, none, none, none] st = some (.rt (.val (rowsD 4)), st) := by kernel_rfl
theorem ab8 (cf : CF) (st : Sto) : sdenB b_all_bits cf [some (.val (.int 8)), none, none, none, none] st = some (.rt (.val (rowsD 8)), st) := by kernel_rfl
theorem ev_all_bits {k n : Nat} {nn : Int} {st : Sto} (hnn : nn = n) (hn : n ≤ 4 ∨ n = 8) : callT RT (k + 1) "all_bits" [.val (.int nn)] st = some (.val (rowsD n), st) := by
  subst hnn
  refine call_ret t_all_bits rfl rfl ?_
  have : n = 0 ∨ n = 1 ∨ n = 2 ∨ n = 3 ∨ n = 4 ∨ n = 8 := by omega
  rcases this with rfl | rfl | rfl | rfl | rfl | rfl
  · exact ab0 _ st
  · exact ab1 _ st
  · exact ab2 _ st
  · exact ab3 _ st
  · exact ab4 _ st
  · exact ab8 _ st
theorem ev_law_draw_list {k : Nat} {xs : List Int} {g : Sto} {c : Nat} {st : Sto} (hx : PoolOk xs) (hi : CI g c st) (hc : c + 40 ≤ big) : ∃ (ds : List Int) (c' : Nat) (st' : Sto), ds.length = 40 ∧ (∀ x ∈ ds, 0 ≤ x) ∧ CI g c' st' ∧ c' ≤ c + 40 ∧ callT RT (k + 2) "_law_draw_list" [PW xs] st = some (.val (.lst (ds.map .int)), st') := by
  obtain ⟨ds, c3, st3, d1, d2, d3, d4, d5⟩ := picks (k := k) (a := 4096) (n := 40) (h := fun v => v) (P := fun b => 0 ≤ b) (f := stepC (.one 1) (denT .yes) (den (.call "_law_pick" (.cons (.var 0) (.cons (.con (.int 4096)) .nil)))) (callT RT (k + 1)) [some (PW xs), none]) hx (by decide) (fun d st v st' h => step_yes (den_call (denL2 (den_var rfl) den_con) h)) (fun v h0 h1 => h0) (ds := rgD 0 40) rgD_len hi hc
  refine ⟨ds, c3, st3, d2, d3, d4, d5, call_sto (g := []) t__law_draw_list rfl rfl (CI.len hi d4) ?_⟩
  rw [List.append_nil]
  show sdenB b__law_draw_list (callT RT (k + 1)) [some (PW xs), none] st = _
  unfold b__law_draw_list
  exact run_rt (run_ret (den_lc (den_rng1 den_con rfl (by decide)) d1 (by rw [List.length_map, d2]; decide)))
end L2.L_k01
set_option Elab.async false
set_option linter.all false
set_option maxRecDepth 100000
set_option maxHeartbeats 1000000
namespace L2.L_k01
open PySem PySem.Spec PyProof.Rows L2 L2.Ev
--LIB made
theorem rows_le {n : Nat} (hn : n ≤ 4) {α : Type} {f : List Int → α} : ((rowsI n).map f).length ≤ 16777216 := by
  rw [List.length_map, rowsI_num]
  have := pow_le hn
  omega
theorem fD_map {nn : Int} {n : Nat} {f : List Int → Int} : D.tup [.int nn, .tup ((rowsI n).map fun r => D.int (f r))] = fD nn ((rowsI n).map f) := by
  rw [fD, List.map_map]
  rfl
theorem ev_variable {k n j : Nat} {nn jj : Int} {st : Sto} (hnn : nn = n) (hn : n ≤ 4) (hjj : jj = j) (hj : j < n) : callT RT (k + 2) "variable" [.val (.int nn), .val (.int jj)] st = some (.val (fD nn ((rowsI n).map fun r => r.getD j 0)), st) := by
  refine call_ret t_variable rfl rfl ?_
  show sdenB b_variable (callT RT (k + 1)) [some (.val (.int nn)), some (.val (.int jj)), none] st = _
  unfold b_variable
  rw [← fD_map]
  exact run_rt (run_ret (den_tup2 (den_var rfl) (den_tupl (den_lc (den_any (den_call (denL1 (den_var rfl)) (ev_all_bits hnn (.inl hn)))) (mapL_map fun r hr => step_yes (den_idx (den_var rfl) (den_var rfl) (idx_ints hjj (by rw [(rowsI_len hr).1]; exact hj)))) (rows_le hn)))))
theorem sum_row {r : List Int} : primD .sum [rowT r] = some (.int r.sum) := by
  show ((itemsD (.tup _)).bind fun xs => (intsOf xs).map fun ns => D.int ns.sum) = _
  simp only [itemsD, Option.bind_some, intsOf_map, Option.map_some]
theorem ev_at_least {k n : Nat} {nn s : Int} {st : Sto} (hnn : nn = n) (hn : n ≤ 4) : callT RT (k + 2) "at_least" [.val (.int nn), .val (.int s)] st = some (.val (fD nn ((rowsI n).map fun r => if decide (s ≤ r.sum) then 1 else 0)), st) := by
  refine call_ret t_at_least rfl rfl ?_
  show sdenB b_at_least (callT RT (k + 1)) [some (.val (.int nn)), some (.val (.int s)), none] st = _
  unfold b_at_least
  rw [← fD_map]
  exact run_rt (run_ret (den_tup2 (den_var rfl) (den_tupl (den_lc (den_any (den_call (denL1 (den_var rfl)) (ev_all_bits hnn (.inl hn)))) (mapL_map fun r hr => step_yes (den_intB (den_geI (den_prim1 (den_var rfl) sum_row) (den_var rfl)))) (rows_le hn)))))
theorem ev_at_most {k n : Nat} {nn s : Int} {st : Sto} (hnn : nn = n) (hn : n ≤ 4) : callT RT (k + 2) "at_most" [.val (.int nn), .val (.int s)] st = some (.val (fD nn ((rowsI n).map fun r => if decide (r.sum ≤ s) then 1 else 0)), st) := by
  refine call_ret t_at_most rfl rfl ?_
  show sdenB b_at_most (callT RT (k + 1)) [some (.val (.int nn)), some (.val (.int s)), none] st = _
  unfold b_at_most
  rw [← fD_map]
  exact run_rt (run_ret (den_tup2 (den_var rfl) (den_tupl (den_lc (den_any (den_call (denL1 (den_var rfl)) (ev_all_bits hnn (.inl hn)))) (mapL_map fun r hr => step_yes (den_intB (den_leI (den_prim1 (den_var rfl) sum_row) (den_var rfl)))) (rows_le hn)))))
theorem ev_exactly {k n : Nat} {nn s : Int} {st : Sto} (hnn : nn = n) (hn : n ≤ 4) : callT RT (k + 2) "exactly" [.val (.int nn), .val (.int s)] st = some (.val (fD nn ((rowsI n).map fun r => if r.sum == s then 1 else 0)), st) := by
  refine call_ret t_exactly rfl rfl ?_
  show sdenB b_exactly (callT RT (k + 1)) [some (.val (.int nn)), some (.val (.int s)), none] st = _
  unfold b_exactly
  rw [← fD_map]
  exact run_rt (run_ret (den_tup2 (den_var rfl) (den_tupl (den_lc (den_any (den_call (denL1 (den_var rfl)) (ev_all_bits hnn (.inl hn)))) (mapL_map fun r hr => step_yes (den_intB (den_eqI (den_prim1 (den_var rfl) sum_row) (den_var rfl)))) (rows_le hn)))))
theorem ev_parity {k n : Nat} {nn : Int} {st : Sto} (hnn : nn = n) (hn : n ≤ 4) : callT RT (k + 2) "parity" [.val (.int nn)] st = some (.val (fD nn ((rowsI n).map fun r => r.sum % 2)), st) := by
  refine call_ret t_parity rfl rfl ?_
  show sdenB b_parity (callT RT (k + 1)) [some (.val (.int nn)), none] st = _
  unfold b_parity
  rw [← fD_map]
  exact run_rt (run_ret (den_tup2 (den_var rfl) (den_tupl (den_lc (den_any (den_call (denL1 (den_var rfl)) (ev_all_bits hnn (.inl hn)))) (mapL_map fun r hr => step_yes (den_modI (den_prim1 (den_var rfl) sum_row) den_con (by decide))) (rows_le hn)))))
end L2.L_k01
set_option Elab.async false
set_option linter.all false
set_option maxRecDepth 100000
set_option maxHeartbeats 1000000
namespace L2.L_k01
open PySem PySem.Spec PyProof.Rows L2 L2.Ev
--LIB made2
theorem map_const {n : Nat} {x : D} : ((rowsI n).map fun _ => x) = (List.replicate (2 ^ n) [x]).flatten := by
  rw [← rowsI_num]
  generalize rowsI n = l
  induction l with
  | nil => rfl
  | cons a l ih => rw [List.map_cons, List.length_cons, List.replicate_succ, List.flatten_cons, ih]; rfl
theorem two_pow {n : Nat} : (1 * 2 ^ ((n : Nat) : Int).toNat : Int) = ((2 ^ n : Nat) : Int) := by
  rw [Int.one_mul, Int.toNat_natCast]
  norm_cast
theorem ev_constant {k n : Nat} {nn b : Int} {st : Sto} (hnn : nn = n) (hn : n ≤ 4) : callT RT (k + 1) "constant" [.val (.int nn), .val (.int b)] st = some (.val (fD nn ((rowsI n).map fun _ => b)), st) := by
  refine call_ret t_constant rfl rfl ?_
  show sdenB b_constant (callT RT k) [some (.val (.int nn)), some (.val (.int b))] st = _
  unfold b_constant
  rw [← fD_map]
  refine run_rt (run_ret (den_tup2 (den_var rfl) (den_bin (d1 := .tup [.int b]) (den_tup1 (den_var rfl)) (den_bin den_con (den_var rfl) (shl_ok (by omega) (by omega))) ?_)))
  show mulD (.tup [.int b]) (.int (1 * 2 ^ nn.toNat)) = _
  have e : (1 * 2 ^ nn.toNat : Int) = ((2 ^ n : Nat) : Int) := by rw [hnn]; exact two_pow
  obtain ⟨p, hp⟩ : ∃ p : Int, (1 * 2 ^ nn.toNat : Int) = p := ⟨_, rfl⟩
  have h16 := pow_le hn
  rw [hp] at e ⊢
  rw [map_const]
  obtain ⟨q, hq⟩ : ∃ q : Nat, 2 ^ n = q := ⟨_, rfl⟩
  rw [hq] at e h16 ⊢
  have hr : repOk p 1 = true := by
    unfold repOk
    rw [decide_eq_true (show 0 ≤ p by omega), sm_iff.mpr (show p.natAbs < 1001 by omega)]
    rfl
  show (if repOk p 1 then some (D.tup (List.replicate p.toNat [D.int b]).flatten) else none) = _
  rw [hr, if_pos rfl, show p.toNat = q by omega]
theorem ev_all_functions {k m : Nat} {mm : Int} {st : Sto} (hmm : mm = m) (hm : m ≤ 3) : callT RT (k + 2) "all_functions" [.val (.int mm)] st = some (.val (.lst ((rowsI (2 ^ m)).map fun r => fD mm r)), st) := by
  refine call_ret t_all_functions rfl rfl ?_
  show sdenB b_all_functions (callT RT (k + 1)) [some (.val (.int mm)), none] st = _
  unfold b_all_functions
  have e : (1 * 2 ^ mm.toNat : Int) = ((2 ^ m : Nat) : Int) := by rw [hmm]; exact two_pow
  have h8 : 2 ^ m ≤ 4 ∨ 2 ^ m = 8 := by
    have : m = 0 ∨ m = 1 ∨ m = 2 ∨ m = 3 := by omega
    rcases this with rfl | rfl | rfl | rfl <;> decide
  have hl : ((rowsI (2 ^ m)).map fun r => fD mm r).length ≤ 16777216 := by
    rw [List.length_map, rowsI_num]
    have : 2 ^ (2 ^ m) ≤ 2 ^ 8 := Nat.pow_le_pow_right (by decide) (by omega)
    omega
  exact run_rt (run_ret (den_lc (den_any (den_call (denL1 (den_bin den_con (den_var rfl) (shl_ok (by omega) (by omega)))) (ev_all_bits e h8))) (mapL_map fun r hr => step_yes (den_tup2 (den_var rfl) (den_var rfl))) hl))
def numI (r : List Int) : Int := r.foldl (fun a b => 2 * a + b) 0
theorem ev_number_of {k : Nat} {r : List Int} {st : Sto} : callT RT (k + 1) "number_of" [.val (rowT r)] st = some (.val (.int (numI r)), st) := by
  refine call_ret t_number_of rfl rfl ?_
  show sdenB b_number_of (callT RT k) [some (.val (rowT r)), none, none] st = _
  have loop : ∀ (l : List Int) (a : Int) (o : Option Wv), ∃ o', forL (bodyF (.one 2) (sdenB b_number_of_1) (callT RT k)) (l.map .int) [some (.val (rowT r)), some (.val (.int a)), o] st = some (.nx [some (.val (rowT r)), some (.val (.int (l.foldl (fun a b => 2 * a + b) a))), o'], st) := by
    intro l
    induction l with
    | nil => exact fun a o => ⟨o, rfl⟩
    | cons b l ih =>
      intro a o
      obtain ⟨o', ho⟩ := ih (2 * a + b) (some (.val (.int b)))
      refine ⟨o', ?_⟩
      have hb : bodyF (.one 2) (sdenB b_number_of_1) (callT RT k) (.int b) [some (.val (rowT r)), some (.val (.int a)), o] st = some (.nx [some (.val (rowT r)), some (.val (.int (2 * a + b))), some (.val (.int b))], st) := by
        show sdenB b_number_of_1 (callT RT k) [some (.val (rowT r)), some (.val (.int a)), some (.val (.int b))] st = _
        unfold b_number_of_1
        exact (run_nx (run_asg (den_addI (den_mulI den_con (den_var rfl) (mulOk_l (by decide) (by decide))) (den_var rfl)))).trans run_nil
      rw [List.map_cons, forL, hb]
      exact ho
  obtain ⟨o', ho⟩ := loop r 0 none
  unfold b_number_of
  refine (run_nx (run_asg den_con)).trans ?_
  refine (run_nx ((run_for (den_anyT (den_var rfl))).trans ho)).trans ?_
  exact run_rt (run_ret (den_var rfl))
end L2.L_k01
set_option Elab.async false
set_option linter.all false
set_option maxRecDepth 100000
set_option maxHeartbeats 1000000
namespace L2.L_k01
open PySem PySem.Spec PyProof.Rows L2 L2.Ev
--LIB valueat
theorem num_row {n : Nat} (hn : n ≤ 4) {j : Nat} (hj : j < 2 ^ n) : numI ((rowsI n).getD j []) = j := by
  have h : ((List.range 5).all fun n => (List.range (2 ^ n)).all fun j => decide (numI ((rowsI n).getD j []) = j)) = true := by decide +kernel
  have h1 := List.all_eq_true.mp h n (List.mem_range.mpr (by omega))
  have h2 := List.all_eq_true.mp h1 j (List.mem_range.mpr hj)
  exact of_decide_eq_true h2
theorem ev_value_at {k n j : Nat} {nn : Int} {v : List Int} {st : Sto} (hn : n ≤ 4) (hv : IsBits (2 ^ n) v) (hj : j < 2 ^ n) : callT RT (k + 2) "value_at" [.val (fD nn v), .val (rowT ((rowsI n).getD j []))] st = some (.val (.int (v.getD j 0)), st) := by
  refine call_ret t_value_at rfl rfl ?_
  show sdenB b_value_at (callT RT (k + 1)) [some (.val (fD nn v)), some (.val (rowT ((rowsI n).getD j [])))] st = _
  unfold b_value_at
  have h1 : idxD (fD nn v) (.int 1) = some (.tup (v.map .int)) := rfl
  exact run_rt (run_ret (den_idx (den_idx (den_var rfl) den_con h1) (den_call (denL1 (den_var rfl)) ev_number_of) (idx_ints (num_row hn hj) (by rw [hv.1]; exact hj))))
theorem ev_choice {k : Nat} {st : Sto} : callT RT (k + 2) "choice" [] st = some (.val (fD 3 [0, 1, 0, 1, 0, 0, 1, 1]), st) := by
  refine call_ret t_choice rfl rfl ?_
  show sdenB b_choice (callT RT (k + 1)) [none] st = _
  unfold b_choice
  refine run_rt (run_ret (den_tup2 den_con (den_tupl (den_lc (xs := (rowsI 3).map rowT) (ys := [0, 1, 0, 1, 0, 0, 1, 1].map .int) (den_any (den_call (denL1 den_con) (ev_all_bits (n := 3) rfl (.inl (by decide))))) ?_ (by decide)))))
  rfl
end L2.L_k01
set_option Elab.async false
set_option linter.all false
set_option maxRecDepth 100000
set_option maxHeartbeats 1000000
namespace L2.L_k01
open PySem PySem.Spec PyProof.Rows L2 L2.Ev
--LIB lawk01
theorem turn3 {k : Nat} {d : D} {env : En} {st : Sto} (hd : okD 8 d = true) (he : env[6]? = some (some (.val d))) : sdenB b_law_3 (callT RT (k + 4)) env st = some (.nx env, st) := by
  unfold b_law_3
  have h1 := den_call (cf := callT RT (k + 4)) (env := env) (st := st) (as := .cons (.var 6) .nil) (denL1 (den_var he)) (ev_is_function (k := k) (st := st) hd)
  have h2 := den_call (cf := callT RT (k + 4)) (env := env) (st := st) (as := .cons (.var 6) .nil) (denL1 (den_var he)) (ev_law_function (k := k) (st := st) hd)
  have h3 := den_call (cf := callT RT (k + 4)) (env := env) (st := st) (as := .cons (.call "is_function" (.cons (.var 6) .nil)) (.cons (.call "_law_function" (.cons (.var 6) .nil)) .nil)) (denL2 h1 h2) (ev_law_is_bool (k := k + 3))
  rw [beq_self_eq_true] at h3
  exact (run_nx ((run_f (w := .val (.bl false)) (den_not (t := true) h3 rfl) rfl).trans run_nil)).trans run_nil
theorem loop3 {k : Nat} : ∀ {vals : List D} {env : En} {st : Sto}, (∀ d ∈ vals, okD 8 d = true) → 6 < env.length → ∃ o, forL (bodyF (.one 6) (sdenB b_law_3) (callT RT (k + 4))) vals env st = some (.nx (env.set 6 o), st)
  | [], env, st, hv, hl => ⟨env[6], by
      have : env.set 6 env[6] = env := List.set_getElem_self hl
      rw [this]
      rfl⟩
  | d :: vals, env, st, hv, hl => by
    obtain ⟨o, ho⟩ := loop3 (k := k) (vals := vals) (env := env.set 6 (some (.val d))) (st := st) (fun x hx => hv x (List.mem_cons_of_mem _ hx)) (by rw [List.length_set]; exact hl)
    refine ⟨o, ?_⟩
    have hb : bodyF (.one 6) (sdenB b_law_3) (callT RT (k + 4)) d env st = some (.nx (env.set 6 (some (.val d))), st) := turn3 (env := env.set 6 (some (.val d))) (hv d List.mem_cons_self) (List.getElem?_set_self hl)
    rw [forL, hb, List.set_set] at *
    exact ho
theorem ok_fD {nn : Int} {n : Nat} (hn : n ≤ 4) {f : List Int → Int} : okD 2 (fD nn ((rowsI n).map f)) = true := by
  have h16 := pow_le hn
  simp only [fD, okD, List.all_cons, List.all_nil, Bool.and_true, Bool.true_and, List.length_cons, List.length_nil, List.length_map, rowsI_num, Bool.and_eq_true, Nat.ble_eq, List.all_map, List.all_eq_true]
  exact ⟨by omega, by omega, fun x _ => rfl⟩
theorem eq_same {m k : Nat} {d : D} {st : Sto} (h : okD m d = true) (hb : beqD d d = true) : callT RT (k + m + 2) "_law_equal" [.val d, .val d] st = some (.val (.bl true), st) := by
  have := ev_law_equal (m := m) (k := k) (x := d) (due := d) (st := st) h
  rw [hb] at this
  exact this
mutual
theorem beqD_rfl : ∀ d : D, beqD d d = true
  | .non => rfl
  | .bl b => by simp [beqD]
  | .int i => by simp [beqD]
  | .str x => by simp [beqD]
  | .tup xs => by simp only [beqD]; exact beqDs_rfl xs
  | .lst xs => by simp only [beqD]; exact beqDs_rfl xs
theorem beqDs_rfl : ∀ ds : List D, beqDs ds ds = true
  | [] => rfl
  | d :: ds => by simp only [beqDs, Bool.and_eq_true]; exact ⟨beqD_rfl d, beqDs_rfl ds⟩
end
/-- a check of two equal values goes on -/
theorem check_eq {m k : Nat} {a b : Ex} {d : D} {env : En} {st : Sto} {rest : Sxs} {r : Option (Fl × Sto)} (hd : okD m d = true) (h1 : den a (callT RT (k + m + 2)) env st = some (.val d, st)) (h2 : den b (callT RT (k + m + 2)) env st = some (.val d, st)) : den (.not (.call "_law_equal" (.cons a (.cons b .nil)))) (callT RT (k + m + 2)) env st = some (.val (.bl false), st) :=
  den_not (t := true) (den_call (denL2 h1 h2) (eq_same hd (beqD_rfl d))) rfl
theorem look {env : En} {i j : Nat} {o x : Option Wv} (h : env[i]? = some x) (ne : j ≠ i) : (env.set j o)[i]? = some x := by rw [List.getElem?_set_ne ne]; exact h
theorem look_self {env : En} {j : Nat} {o : Option Wv} (h : j < env.length) : (env.set j o)[j]? = some o := List.getElem?_set_self h
/-- a tuple over the rows that stand in slot 7 -/
theorem over_rows {k n : Nat} {env : En} {st : Sto} {nn : Int} {e : Ex} {g : List Int → Int} (hn : n ≤ 4) (h4 : env[4]? = some (some (.val (.int nn)))) (h7 : env[7]? = some (some (.val (rowsD n)))) (h : ∀ r ∈ rowsI n, den e (callT RT k) ((env.set 13 none).set 13 (some (.val (rowT r)))) st = some (.val (.int (g r)), st)) :
    den (.tup (.cons (.var 4) (.cons (.prim .tuple (.cons (.lc (.any (.var 7)) [13] (.one 13) .yes e) .nil)) .nil))) (callT RT k) env st = some (.val (fD nn ((rowsI n).map g)), st) := by
  rw [← fD_map]
  exact den_tup2 (den_var h4) (den_tupl (den_lc (den_any (den_var h7)) (mapL_map fun r hr => step_yes (h r hr)) (rows_le hn)))
theorem turn2 {k n : Nat} {nn b : Int} {env : En} {st : Sto} (hnn : nn = n) (hn : n ≤ 4) (h4 : env[4]? = some (some (.val (.int nn)))) (h7 : env[7]? = some (some (.val (rowsD n)))) (h8 : env[8]? = some (some (.val (.int b)))) : sdenB b_law_2 (callT RT (k + 2 + 2)) env st = some (.nx env, st) := by
  unfold b_law_2
  exact (run_nx ((run_f (w := .val (.bl false)) (check_eq (rest := .nil) (r := none) (ok_fD hn) (den_call (denL2 (den_var h4) (den_var h8)) (ev_constant (k := k + 3) hnn hn)) (over_rows hn h4 h7 fun r _ => den_var (look (look h8 (by decide)) (by decide)))) rfl).trans run_nil)).trans run_nil
theorem turn1 {k n j : Nat} {nn jj : Int} {env : En} {st : Sto} (hnn : nn = n) (hn : n ≤ 4) (hjj : jj = j) (hj : j < n) (h4 : env[4]? = some (some (.val (.int nn)))) (h7 : env[7]? = some (some (.val (rowsD n)))) (h9 : env[9]? = some (some (.val (.int jj)))) (hl : 13 < env.length) : sdenB b_law_1 (callT RT (k + 2 + 2)) env st = some (.nx env, st) := by
  unfold b_law_1
  exact (run_nx ((run_f (w := .val (.bl false)) (check_eq (rest := .nil) (r := none) (ok_fD hn) (den_call (denL2 (den_var h4) (den_var h9)) (ev_variable (k := k + 2) hnn hn hjj hj)) (over_rows hn h4 h7 fun r hr => den_idx (den_var (look_self (by rw [List.length_set]; exact hl))) (den_var (look (look h9 (by decide)) (by decide))) (idx_ints hjj (by rw [(rowsI_len hr).1]; exact hj)))) rfl).trans run_nil)).trans run_nil
end L2.L_k01
set_option Elab.async false
set_option linter.all false
set_option maxRecDepth 100000
set_option maxHeartbeats 1000000
namespace L2.L_k01
open PySem PySem.Spec PyProof.Rows L2 L2.Ev
--LIB lawk01b
theorem loop2 {k n : Nat} {nn : Int} : ∀ {bs : List Int} {env : En} {st : Sto}, nn = n → n ≤ 4 → env[4]? = some (some (.val (.int nn))) → env[7]? = some (some (.val (rowsD n))) → 8 < env.length → ∃ o, forL (bodyF (.one 8) (sdenB b_law_2) (callT RT (k + 2 + 2))) (bs.map .int) env st = some (.nx (env.set 8 o), st)
  | [], env, st, hnn, hn, h4, h7, hl => ⟨env[8], by
      have : env.set 8 env[8] = env := List.set_getElem_self hl
      rw [this]
      rfl⟩
  | b :: bs, env, st, hnn, hn, h4, h7, hl => by
    obtain ⟨o, ho⟩ := loop2 (k := k) (bs := bs) (env := env.set 8 (some (.val (.int b)))) (st := st) hnn hn (look h4 (by decide)) (look h7 (by decide)) (by rw [List.length_set]; exact hl)
    refine ⟨o, ?_⟩
    have hb : bodyF (.one 8) (sdenB b_law_2) (callT RT (k + 2 + 2)) (.int b) env st = some (.nx (env.set 8 (some (.val (.int b)))), st) := turn2 hnn hn (look h4 (by decide)) (look h7 (by decide)) (look_self hl)
    rw [List.map_cons, forL, hb]
    rw [List.set_set] at ho
    exact ho
theorem loop1 {k n : Nat} {nn : Int} : ∀ {ds : List D} {env : En} {st : Sto}, nn = n → n ≤ 4 → (∀ d ∈ ds, ∃ j : Nat, j < n ∧ ∃ jj : Int, jj = j ∧ d = .int jj) → env[4]? = some (some (.val (.int nn))) → env[7]? = some (some (.val (rowsD n))) → 13 < env.length → ∃ o, forL (bodyF (.one 9) (sdenB b_law_1) (callT RT (k + 2 + 2))) ds env st = some (.nx (env.set 9 o), st)
  | [], env, st, hnn, hn, hd, h4, h7, hl => ⟨env[9]'(by omega), by
      have : env.set 9 (env[9]'(by omega)) = env := List.set_getElem_self (by omega)
      rw [this]
      rfl⟩
  | d :: ds, env, st, hnn, hn, hd, h4, h7, hl => by
    obtain ⟨j, hj, jj, hjj, rfl⟩ := hd d List.mem_cons_self
    obtain ⟨o, ho⟩ := loop1 (k := k) (ds := ds) (env := env.set 9 (some (.val (.int jj)))) (st := st) hnn hn (fun x hx => hd x (List.mem_cons_of_mem _ hx)) (look h4 (by decide)) (look h7 (by decide)) (by rw [List.length_set]; exact hl)
    refine ⟨o, ?_⟩
    have hb : bodyF (.one 9) (sdenB b_law_1) (callT RT (k + 2 + 2)) (.int jj) env st = some (.nx (env.set 9 (some (.val (.int jj)))), st) := turn1 hnn hn hjj hj (look h4 (by decide)) (look h7 (by decide)) (look_self (by omega)) (by rw [List.length_set]; exact hl)
    rw [forL, hb]
    rw [List.set_set] at ho
    exact ho
end L2.L_k01
set_option Elab.async false
set_option linter.all false
set_option maxRecDepth 100000
set_option maxHeartbeats 1000000
namespace L2.L_k01
open PySem PySem.Spec PyProof.Rows L2 L2.Ev
--LIB lawk01c
theorem call_any {R : Tab} {k : Nat} {f : Str} {r : Fn} {ws : List Wv} {st st1 : Sto} {d : D} (h : R f = some r) (hk : r.keep = false) (hl : ws.length = r.np) (hb : sdenB r.body (callT R k) (startE r.n ws) st = some (.rt (.val d), st1)) : ∃ st', callT R (k + 1) f ws st = some (.val d, st') := by
  rw [call_eq h]
  unfold callF
  rw [if_pos hl, hb]
  simp only [Option.bind_some, endF, hk, outW, Bool.false_eq_true, if_false, Option.map_some]
  exact ⟨_, rfl⟩
theorem okN_ints {B : Nat} {xs : List Int} (hl : xs.length ≤ B) (h : ∀ x ∈ xs, x.natAbs ≤ B) : okN B 1 (.tup (xs.map .int)) = true := okN_tup.mpr ⟨by rw [List.length_map]; exact hl, fun d hd => by
  obtain ⟨x, hx, rfl⟩ := List.mem_map.mp hd
  simp only [okN, Nat.ble_eq]
  exact h x hx⟩
theorem ok8 {B m : Nat} {d : D} (hB : B ≤ 100000) (hm : m ≤ 8) (h : okN B m d = true) : okD 8 d = true := okN_okD hB (okN_mono (Nat.le_refl _) hm h)
theorem okN_two {B m : Nat} {a b : D} (hB : 2 ≤ B) (ha : okN B m a = true) (hb : okN B m b = true) : okN B (m + 1) (.tup [a, b]) = true := okN_tup.mpr ⟨hB, fun x hx => by
  simp at hx
  rcases hx with rfl | rfl
  · exact ha
  · exact hb⟩
theorem okN_int {B m : Nat} {i : Int} (h : i.natAbs ≤ B) : okN B m (.int i) = true := by
  cases m <;> simpa [okN] using h
theorem okN_up {B m : Nat} {d : D} (h : okN B m d = true) : okN B (m + 1) d = true := okN_mono (Nat.le_refl _) (Nat.le_succ _) h
theorem vals_ok {n : Nat} {nn : Int} {v : List Int} {b1 b2 b3 : D} (hnn : nn = n) (hn : n ≤ 4) (hv : IsBits (2 ^ n) v) (h1 : okN 25 3 b1 = true) (h3 : okN 34 4 b3 = true) :
    ∀ d ∈ [fD nn v, b1, b3, .tup [.int (nn + 1), .tup (v.map .int)], .tup [.int (nn - 1), .tup (v.map .int)], .tup [.int nn, .lst (v.map .int)], .lst [.int nn, .tup (v.map .int)], .non] ++ [.tup [.int nn, .tup (Ev.cutD (v.map .int) (some 1) none)], .tup [.int nn, .tup (v.map .int ++ [.int 0])], .tup [.int nn, .tup (v.map .int), .int 0], .tup [.int nn, .tup (Ev.cutD (v.map .int) none (some (-1)) ++ [.bl true])], .tup [.int nn, .tup (Ev.cutD (v.map .int) none (some (-1)) ++ [.int 2])]], okD 8 d = true := by
  have h16 := pow_le hn
  have hvl : v.length ≤ 20 := by rw [hv.1]; omega
  have hvi : ∀ x ∈ v, x.natAbs ≤ 20 := fun x hx => by
    rcases hv.2 x hx with rfl | rfl <;> decide
  have hvt : okN 20 1 (.tup (v.map .int)) = true := okN_ints hvl hvi
  have hvm : ∀ d ∈ v.map D.int, okN 20 0 d = true := fun d hd => by
    obtain ⟨x, hx, rfl⟩ := List.mem_map.mp hd
    exact okN_int (hvi x hx)
  have hvl16 : (v.map D.int).length ≤ 16 := by rw [List.length_map, hv.1]; exact h16
  have cut : ∀ {lo hi : Option Int} {e : List D}, e.length ≤ 2 → (∀ d ∈ e, okN 20 0 d = true) → okN 20 1 (.tup (Ev.cutD (v.map .int) lo hi ++ e)) = true := fun {lo hi e} he hd => okN_tup.mpr ⟨by
    have := cut_len (xs := v.map D.int) (lo := lo) (hi := hi)
    rw [List.length_append]
    omega, fun d hdd => by
      rcases List.mem_append.mp hdd with q | q
      · exact hvm d (cut_mem q)
      · exact hd d q⟩
  have pr : ∀ {i : Int} {b : D}, i.natAbs ≤ 20 → okN 20 1 b = true → okD 8 (.tup [.int i, b]) = true := fun {i b} hi hb => ok8 (by decide) (by decide) (okN_two (m := 1) (by decide) (okN_int hi) hb)
  intro d hd
  simp only [List.cons_append, List.nil_append, List.mem_cons, List.not_mem_nil, or_false] at hd
  rcases hd with rfl | rfl | rfl | rfl | rfl | rfl | rfl | rfl | rfl | rfl | rfl | rfl | rfl
  · exact pr (by omega) hvt
  · exact ok8 (by decide) (by decide) h1
  · exact ok8 (by decide) (by decide) h3
  · exact pr (by omega) hvt
  · exact pr (by omega) hvt
  · exact pr (by omega) (okN_lst.mpr ⟨by rw [List.length_map]; exact hvl, hvm⟩)
  · refine ok8 (B := 20) (m := 2) (by decide) (by decide) (okN_lst.mpr ⟨by simp, fun x hx => ?_⟩)
    simp at hx
    rcases hx with rfl | rfl
    · exact okN_int (by omega)
    · exact hvt
  · rfl
  · have := cut (lo := some 1) (hi := none) (e := []) (by decide) (fun d hd => by simp at hd)
    rw [List.append_nil] at this
    exact pr (by omega) this
  · refine pr (by omega) (okN_tup.mpr ⟨by rw [List.length_append, List.length_cons, List.length_nil]; omega, fun d hd => ?_⟩)
    rcases List.mem_append.mp hd with q | q
    · exact hvm d q
    · simp at q; subst q; rfl
  · refine ok8 (B := 20) (m := 2) (by decide) (by decide) (okN_tup.mpr ⟨by simp, fun x hx => ?_⟩)
    simp at hx
    rcases hx with rfl | rfl | rfl
    · exact okN_int (by omega)
    · exact hvt
    · exact okN_int (by decide)
  · exact pr (by omega) (cut (by decide) (fun d hd => by simp at hd; subst hd; rfl))
  · exact pr (by omega) (cut (by decide) (fun d hd => by simp at hd; subst hd; rfl))
end L2.L_k01
set_option Elab.async false
set_option linter.all false
set_option maxRecDepth 100000
set_option maxHeartbeats 1000000
namespace L2.L_k01
open PySem PySem.Spec PyProof.Rows L2 L2.Ev
--LIB lawk01d
def rowsU : Nat → List (List Int)
  | 0 => [[]]
  | n + 1 => (rowsU n).map (fun r => r ++ [0]) ++ (rowsU n).map (fun r => r ++ [1])
theorem srtR {U V : List (List Int)} (h : (U.all fun a => !a.isEmpty) = true) (h2 : isrt (ltL iLt iEq) U = V) : primD .sorted [.lst (U.map rowT)] = some (.lst (V.map rowT)) := by
  have h1 := (srtI.tup).srt (by decide) (xs := U) (.inl (by
    intro a ha
    have h2 := List.all_eq_true.mp h a ha
    cases a with
    | nil => simp at h2
    | cons x r => rfl))
  rw [h2] at h1
  exact h1
theorem srt8 : primD .sorted [.lst ((rowsU 8).map rowT)] = some (.lst ((rowsI 8).map rowT)) := srtR (by decide +kernel) (by decide +kernel)
theorem rw8a (cf : CF) (st : Sto) : forL (bodyF (.one 2) (sdenB b__law_rows_1) cf) (rgD 0 8) [some (.val (.int 8)), some (.val (.lst [.tup []])), none, none] st = some (.nx [some (.val (.int 8)), some (.val (.lst ((rowsU 8).map rowT))), some (.val (.int 7)), none], st) := by kernel_rfl
theorem rw8 (cf : CF) (st : Sto) : sdenB b__law_rows cf [some (.val (.int 8)), none, none, none] st = some (.rt (.val (rowsD 8)), st) := by
  have h1 := rw8a cf st
  have h2 := srt8
  generalize (rowsU 8).map rowT = U at h1 h2
  show _ = some (Fl.rt (.val (.lst ((rowsI 8).map rowT))), st)
  generalize (rowsI 8).map rowT = R at h2 ⊢
  unfold b__law_rows
  refine (run_nx (run_asg (den_lstV (ds := [.tup []]) (denL1 rfl) (by decide)))).trans ?_
  refine (run_nx ((run_for (den_rng1 (n := 8) (den_var rfl) rfl (by decide))).trans h1)).trans ?_
  exact run_rt (run_ret (den_prim1 (den_var rfl) h2))
theorem ev_law_rows8 {k n : Nat} {nn : Int} {st : Sto} (hnn : nn = n) (hn : n ≤ 4 ∨ n = 8) : callT RT (k + 1) "_law_rows" [.val (.int nn)] st = some (.val (rowsD n), st) := by
  rcases hn with hn | rfl
  · exact ev_law_rows hnn hn
  · subst hnn
    exact call_ret t__law_rows rfl rfl (rw8 _ st)
/-- sums of the rows stand in slot 11 -/
theorem over_sums {k n : Nat} {env : En} {st : Sto} {nn : Int} {e : Ex} {g : List Int → Int} (hn : n ≤ 4) (h4 : env[4]? = some (some (.val (.int nn)))) (h11 : env[11]? = some (some (.val (.lst ((rowsI n).map fun r => D.int r.sum))))) (h : ∀ r ∈ rowsI n, den e (callT RT k) ((env.set 14 none).set 14 (some (.val (.int r.sum)))) st = some (.val (.int (g r)), st)) :
    den (.tup (.cons (.var 4) (.cons (.prim .tuple (.cons (.lc (.any (.var 11)) [14] (.one 14) .yes e) .nil)) .nil))) (callT RT k) env st = some (.val (fD nn ((rowsI n).map g)), st) := by
  rw [← fD_map]
  exact den_tup2 (den_var h4) (den_tupl (den_lc (den_any (den_var h11)) (mapL_map fun r hr => step_yes (h r hr)) (rows_le hn)))
end L2.L_k01
set_option Elab.async false
set_option linter.all false
set_option maxRecDepth 100000
set_option maxHeartbeats 1000000
namespace L2.L_k01
open PySem PySem.Spec PyProof.Rows L2 L2.Ev
--LIB lawk01e
theorem isbits_okN {n : Nat} {nn : Int} {v : List Int} (hnn : nn = n) (hn : n ≤ 4) (hv : IsBits (2 ^ n) v) : okN 16 2 (fD nn v) = true := by
  have h16 := pow_le hn
  refine okN_two (m := 1) (by decide) (okN_int (by omega)) (okN_ints (by rw [hv.1]; exact h16) fun x hx => ?_)
  rcases hv.2 x hx with rfl | rfl <;> decide
def OkR (o : Option (Fl × Sto)) : Prop := ∃ st1, o = some (.rt (.val (.bl true)), st1)
theorem OkR.of {a b : Option (Fl × Sto)} (h : a = b) (t : OkR b) : OkR a := h ▸ t
theorem ev_law {ns : List Int} : ∃ st', callT RT 200 "law" [.scr ns] [] = some (.val (.bl true), st') := by
  obtain ⟨xs, hx, hpool⟩ := ev_law_pool (k := 197) (ns := ns)
  have hi0 : CI [] 0 (PS 0 []) := ⟨0, rfl, rfl⟩
  obtain ⟨n, nn, v, c1, s1, hnn, hl, hh, hv, hi1, hc1, hdrawn⟩ := ev_law_drawn (k := 196) (lo := 0) (hi := 4) (xs := xs) (by decide) (by decide) (by decide) hx hi0 (by decide)
  have hn : n ≤ 4 := by omega
  have h16 := pow_le hn
  have hbig : big = 1000000 := rfl
  obtain ⟨ds, c2, s2, hdl, hd0, hi2, hc2, hdraw⟩ := ev_law_draw_list (k := 197) hx hi1 (by omega)
  have hok := isbits_okN hnn hn hv
  obtain ⟨b1, hb1, e1⟩ := ev_law_bend (B := 16) (ds := ds) (by decide) (by decide) (by omega) (by omega) hd0 (m := 2) (k := 196) (a := 1) (st := s2) hok (by decide)
  obtain ⟨b2, hb2, e2⟩ := ev_law_bend (B := 16) (ds := ds) (by decide) (by decide) (by omega) (by omega) hd0 (m := 2) (k := 196) (a := 9) (st := s2) hok (by decide)
  obtain ⟨b3, hb3, e3⟩ := ev_law_bend (B := 25) (ds := ds) (by decide) (by decide) (by omega) (by omega) hd0 (m := 3) (k := 195) (a := 17) (st := s2) hb2 (by decide)
  have hvals := vals_ok (b2 := b2) hnn hn hv hb1 hb3
  have hb : OkR (sdenB b_law (callT RT 199) [some (.scr ns), none, none, none, none, none, none, none, none, none, none, none, none, none, none] []) := by
    unfold b_law
    refine OkR.of (run_nx (run_asg (den_call (denL1 (den_var rfl)) hpool))) ?_
    refine OkR.of (run_nx (run_asg (den_call (denL3 (den_var rfl) den_con den_con) hdrawn))) ?_
    refine OkR.of (run_nx (run_asg (den_call (denL1 (den_var rfl)) hdraw))) ?_
    refine OkR.of (run_nx (run_asg (den_idx (d1 := fD nn v) (d2 := .int 0) (d := .int nn) (den_var rfl) den_con rfl))) ?_
    have f1 : ∀ {env : En} {st : Sto}, env[2]? = some (some (.val (fD nn v))) → den (.idx (.var 2) (.con (.int 1))) (callT RT 199) env st = some (.val (.tup (v.map .int)), st) := fun h => den_idx (d1 := fD nn v) (d2 := .int 1) (den_var h) den_con rfl
    have hvl : (v.map D.int).length ≤ 16 := by rw [List.length_map, hv.1]; exact h16
    refine OkR.of (run_nx (run_asg (den_lstV (ds := [fD nn v, b1, b3, .tup [.int (nn + 1), .tup (v.map .int)], .tup [.int (nn - 1), .tup (v.map .int)], .tup [.int nn, .lst (v.map .int)], .lst [.int nn, .tup (v.map .int)], .non])
      (denL_cons (den_var rfl) (denL_cons (den_call (denL3 (den_var rfl) (den_var rfl) den_con) e1) (denL_cons (den_call (denL3 (den_call (denL3 (den_var rfl) (den_var rfl) den_con) e2) (den_var rfl) den_con) e3)
       (denL_cons (den_tup2 (den_addI (den_var rfl) den_con) (f1 rfl)) (denL_cons (den_tup2 (den_subI (den_var rfl) den_con) (f1 rfl)) (denL_cons (den_tup2 (den_var rfl) (den_prim1 (f1 rfl) rfl)) (denL_cons (den_prim1 (d := fD nn v) (den_var rfl) rfl) (denL_cons den_con denL_nil)))))))) (by simp)))) ?_
    refine OkR.of (run_nx (run_asg (den_bin (d := .lst ([fD nn v, b1, b3, .tup [.int (nn + 1), .tup (v.map .int)], .tup [.int (nn - 1), .tup (v.map .int)], .tup [.int nn, .lst (v.map .int)], .lst [.int nn, .tup (v.map .int)], .non] ++ [.tup [.int nn, .tup (Ev.cutD (v.map .int) (some 1) none)], .tup [.int nn, .tup (v.map .int ++ [.int 0])], .tup [.int nn, .tup (v.map .int), .int 0], .tup [.int nn, .tup (Ev.cutD (v.map .int) none (some (-1)) ++ [.bl true])], .tup [.int nn, .tup (Ev.cutD (v.map .int) none (some (-1)) ++ [.int 2])]])) (den_var rfl)
      (den_lstV (ds := [.tup [.int nn, .tup (Ev.cutD (v.map .int) (some 1) none)], .tup [.int nn, .tup (v.map .int ++ [.int 0])], .tup [.int nn, .tup (v.map .int), .int 0], .tup [.int nn, .tup (Ev.cutD (v.map .int) none (some (-1)) ++ [.bl true])], .tup [.int nn, .tup (Ev.cutD (v.map .int) none (some (-1)) ++ [.int 2])]])
        (denL_cons (den_tup2 (den_var rfl) (den_slc (f1 rfl) (denO_at den_con) rfl rfl))
         (denL_cons (den_tup2 (den_var rfl) (den_catT (f1 rfl) (den_tup1 den_con) (by rw [List.length_singleton]; omega)))
         (denL_cons (den_tup3 (den_var rfl) (f1 rfl) den_con)
         (denL_cons (den_tup2 (den_var rfl) (den_catT (den_slc (f1 rfl) rfl (denO_at (den_negI den_con)) rfl) (den_tup1 den_con) (by have := cut_len (xs := v.map D.int) (lo := none) (hi := some (-1)); rw [List.length_singleton]; omega)))
         (denL_cons (den_tup2 (den_var rfl) (den_catT (den_slc (f1 rfl) rfl (denO_at (den_negI den_con)) rfl) (den_tup1 den_con) (by have := cut_len (xs := v.map D.int) (lo := none) (hi := some (-1)); rw [List.length_singleton]; omega)))
          denL_nil))))) (by simp)) rfl))) ?_
    obtain ⟨o3, l3⟩ := loop3 (k := 195) (st := s2) (env := [some (.scr ns), some (PW xs), some (.val (fD nn v)), some (.val (.lst (ds.map .int))), some (.val (.int nn)), some (.val (.lst ([fD nn v, b1, b3, .tup [.int (nn + 1), .tup (v.map .int)], .tup [.int (nn - 1), .tup (v.map .int)], .tup [.int nn, .lst (v.map .int)], .lst [.int nn, .tup (v.map .int)], .non] ++ [.tup [.int nn, .tup (Ev.cutD (v.map .int) (some 1) none)], .tup [.int nn, .tup (v.map .int ++ [.int 0])], .tup [.int nn, .tup (v.map .int), .int 0], .tup [.int nn, .tup (Ev.cutD (v.map .int) none (some (-1)) ++ [.bl true])], .tup [.int nn, .tup (Ev.cutD (v.map .int) none (some (-1)) ++ [.int 2])]]))), none, none, none, none, none, none, none, none, none]) hvals (by simp)
    refine OkR.of (run_nx ((run_for (den_any (den_var rfl))).trans l3)) ?_
    refine OkR.of (run_nx (run_asg (den_call (denL1 (den_var rfl)) (ev_law_rows8 (k := 198) hnn (.inl hn))))) ?_
    have hrl : (rowsI n).length = 2 ^ n := rowsI_num n
    have hiff9 : ∀ {env : En}, env[7]? = some (some (.val (rowsD n))) → env[2]? = some (some (.val (fD nn v))) → 9 < env.length → den (.cmp .Gt (.prim .len (.cons (.lc (.rng (.cons (.prim .len (.cons (.var 7) .nil)) .nil)) [9] (.one 9) (.tst (.not (.call "_law_equal" (.cons (.call "value_at" (.cons (.var 2) (.cons (.idx (.var 7) (.var 9)) .nil))) (.cons (.idx (.idx (.var 2) (.con (.int 1))) (.var 9)) .nil))))) (.var 9)) .nil)) (.con (.int 0))) (callT RT 199) env s2 = some (.val (.bl false), s2) := fun {env} h7 h2 hl => by
      have hm : mapL (stepC (.one 9) (denT (.tst (.not (.call "_law_equal" (.cons (.call "value_at" (.cons (.var 2) (.cons (.idx (.var 7) (.var 9)) .nil))) (.cons (.idx (.idx (.var 2) (.con (.int 1))) (.var 9)) .nil)))))) (den (.var 9)) (callT RT 199) (wipeE env [9])) (rgD 0 (2 ^ n)) s2 = some (((List.range (2 ^ n)).filter fun _ => false).map fun j => D.int (Int.ofNat j), s2) := by
        refine mapL_rng (p := fun _ => false) (g := fun j => D.int (Int.ofNat j)) fun j hj jj hjj => ?_
        refine step_f (w := .val (.bl false)) (den_not (w := .val (.bl true)) (t := true) ?_ rfl) rfl
        have hw : (wipeE env [9]).length = env.length := by simp [wipeE]
        have hwl : ∀ {i : Nat} {o x : Option Wv}, env[i]? = some x → i ≠ 9 → ((wipeE env [9]).set 9 o)[i]? = some x := fun {i o x} h ne => by
          simp only [wipeE]
          exact look (look h (by omega)) (by omega)
        have hj9 : ((wipeE env [9]).set 9 (some (.val (.int jj))))[9]? = some (some (.val (.int jj))) := look_self (by rw [hw]; exact hl)
        have e4 : idxD (rowsD n) (.int jj) = some (rowT ((rowsI n).getD j [])) := by
          show atI ((rowsI n).map rowT) jj = _
          rw [atI_map, atI_getD (d := []) hjj (by omega)]
          rfl
        have e5 := ev_value_at (k := 197) (j := j) (nn := nn) (st := s2) hn hv hj
        have e6 : idxD (.tup (v.map .int)) (.int jj) = some (.int (v.getD j 0)) := idx_ints hjj (by rw [hv.1]; exact hj)
        exact den_call (denL2 (den_call (denL2 (den_var (hwl h2 (by decide))) (den_idx (den_var (hwl h7 (by decide))) (den_var hj9) e4)) e5) (den_idx (f1 (hwl h2 (by decide))) (den_var hj9) e6)) (eq_same (m := 0) (k := 197) (by rfl) (beqD_rfl _))
      have hnil : ((List.range (2 ^ n)).filter fun _ => false) = [] := by simp
      rw [hnil] at hm
      have hlc := den_lc (e := .var 9) (den_rng1 (n := 2 ^ n) (den_lenL (xs := (rowsI n).map rowT) (cf := callT RT 199) (st := s2) (den_var h7)) (by rw [lenI_map, lenI_eq, hrl]) (by omega)) hm (by simp)
      exact den_gtI (i := 0) (den_lenL hlc) den_con
    refine OkR.of (run_nx ((run_f (w := .val (.bl false)) (hiff9 rfl rfl (by simp)) rfl).trans run_nil)) ?_
    obtain ⟨o8, l8⟩ := loop2 (k := 195) (bs := [0, 1]) (st := s2) (env := [some (.scr ns), some (PW xs), some (.val (fD nn v)), some (.val (.lst (ds.map .int))), some (.val (.int nn)), _, o3, some (.val (rowsD n)), none, none, none, none, none, none, none]) hnn hn rfl rfl (by simp)
    refine OkR.of (run_nx ((run_for (den_anyT (den_tup2 den_con den_con))).trans l8)) ?_
    obtain ⟨o9, l9⟩ := loop1 (k := 195) (ds := rgD 0 n) (st := s2) (env := [some (.scr ns), some (PW xs), some (.val (fD nn v)), some (.val (.lst (ds.map .int))), some (.val (.int nn)), _, o3, some (.val (rowsD n)), o8, none, none, none, none, none, none]) hnn hn (fun d hd => by
      obtain ⟨j, hj, rfl⟩ := rgD_mem hd
      exact ⟨j, hj, 0 + (j : Nat), by omega, rfl⟩) rfl rfl (by simp)
    refine OkR.of (run_nx ((run_for (den_rng1 (den_var rfl) hnn (by omega))).trans l9)) ?_
    obtain ⟨cc2, hcc2, rfl⟩ := hi2
    obtain ⟨p1, hp1, hp1', hpick1⟩ := ev_law_pick (k := 198) (xs := xs) (a := 7) (c := cc2) (g := []) hx (by decide) (by omega) (by omega)
    refine OkR.of (run_nx (run_asg (den_subI (den_call (denL2 (den_var rfl) den_con) hpick1) den_con))) ?_
    refine OkR.of (run_nx (run_asg (den_lc (xs := (rowsI n).map rowT) (ys := (rowsI n).map fun r => D.int r.sum) (den_any (den_var rfl)) (mapL_map fun r hr => step_yes (den_prim1 (d := rowT r) (den_var rfl) sum_row)) (rows_le hn)))) ?_
    refine OkR.of (run_nx ((run_f (w := .val (.bl false)) ((den_or_f (w := .val (.bl false))
      (check_eq (m := 2) (k := 195) (rest := .nil) (r := none) (ok_fD hn) (den_call (denL2 (den_var rfl) (den_var rfl)) (ev_at_least (k := 197) hnn hn)) (over_sums (k := 199) (g := fun r => if decide (p1 - 1 ≤ r.sum) then 1 else 0) hn rfl rfl (by intro r hr; exact den_intB (den_geI (den_var rfl) (den_var rfl))))) rfl).trans
      (check_eq (m := 2) (k := 195) (rest := .nil) (r := none) (ok_fD hn) (den_call (denL2 (den_var rfl) (den_var rfl)) (ev_exactly (k := 197) hnn hn)) (over_sums (k := 199) (g := fun r => if r.sum == p1 - 1 then 1 else 0) hn rfl rfl (by intro r hr; exact den_intB (den_eqI (den_var rfl) (den_var rfl)))))) rfl).trans run_nil)) ?_
    refine OkR.of (run_nx ((run_f (w := .val (.bl false)) ((den_or_f (w := .val (.bl false))
      (check_eq (m := 2) (k := 195) (rest := .nil) (r := none) (ok_fD hn) (den_call (denL2 (den_var rfl) (den_var rfl)) (ev_at_most (k := 197) hnn hn)) (over_sums (k := 199) (g := fun r => if decide (r.sum ≤ p1 - 1) then 1 else 0) hn rfl rfl (by intro r hr; exact den_intB (den_leI (den_var rfl) (den_var rfl))))) rfl).trans
      (check_eq (m := 2) (k := 195) (rest := .nil) (r := none) (d := fD 3 [0, 1, 0, 1, 0, 0, 1, 1]) (by rfl) (den_call denL_nil (ev_choice (k := 197))) (den_tup2 den_con (by rfl)))) rfl).trans run_nil)) ?_
    refine OkR.of (run_nx ((run_f (w := .val (.bl false)) (check_eq (m := 2) (k := 195) (rest := .nil) (r := none) (ok_fD hn) (den_call (denL1 (den_var rfl)) (ev_parity (k := 197) hnn hn)) (over_sums (k := 199) (g := fun r => r.sum % 2) hn rfl rfl (by intro r hr; exact den_modI (den_var rfl) den_con (by decide)))) rfl).trans run_nil)) ?_
    obtain ⟨p2, hp2, hp2', hpick2⟩ := ev_law_pick (k := 198) (xs := xs) (a := 4) (c := cc2 + 1) (g := []) hx (by decide) (by omega) (by omega)
    refine OkR.of (run_nx (run_asg (den_call (denL2 (den_var rfl) den_con) hpick2))) ?_
    obtain ⟨m, rfl⟩ := Int.eq_ofNat_of_zero_le hp2
    have hm3 : m ≤ 3 := by omega
    obtain ⟨mm, hmm⟩ : ∃ mm : Int, mm = m := ⟨_, rfl⟩
    rw [← hmm]
    have e2m : (1 * 2 ^ mm.toNat : Int) = ((2 ^ m : Nat) : Int) := by rw [hmm]; exact two_pow
    have h8 : 2 ^ m ≤ 4 ∨ 2 ^ m = 8 := by
      have : m = 0 ∨ m = 1 ∨ m = 2 ∨ m = 3 := by omega
      rcases this with rfl | rfl | rfl | rfl <;> decide
    have hlen : ((rowsI (2 ^ m)).map fun r => fD mm r).length ≤ 16777216 := by
      rw [List.length_map, rowsI_num]
      have : 2 ^ (2 ^ m) ≤ 2 ^ 8 := Nat.pow_le_pow_right (by decide) (by omega)
      omega
    have hokd : okD 3 (.lst ((rowsI (2 ^ m)).map fun r => fD mm r)) = true := by
      have : m = 0 ∨ m = 1 ∨ m = 2 ∨ m = 3 := by omega
      clear hmm hpick2 e2m
      rcases this with rfl | rfl | rfl | rfl <;> rfl
    have hz : mulD (.tup [.int 0]) (.int 32) = some (.tup ((List.replicate 32 (0 : Int)).map .int)) := by rfl
    have hfn := ev_is_function (k := 195) (m := 8) (d := .tup [.int 5, .tup ((List.replicate 32 (0 : Int)).map .int)]) (st := PS (cc2 + 1 + 1) []) (by rfl)
    rw [show functionB (.tup [.int 5, .tup ((List.replicate 32 (0 : Int)).map .int)]) = false from by rfl] at hfn
    exact ⟨_, run_rt (run_ret ((den_and_t (w := .val (.bl true)) (den_call (denL2 (den_call (denL1 (den_var rfl)) (ev_all_functions (k := 197) hmm hm3))
      (den_lc (den_any (den_call (denL1 (den_bin den_con (den_var rfl) (shl_ok (by omega) (by omega)))) (ev_law_rows8 (k := 198) e2m h8))) (mapL_map fun r hr => step_yes (den_tup2 (den_var rfl) (den_var rfl))) hlen))
      (eq_same (m := 3) (k := 194) hokd (beqD_rfl _))) rfl).trans (den_cmp (d := .bl true) (den_call (denL1 (den_tup2 den_con (den_bin (den_tup1 den_con) den_con hz))) hfn) den_con rfl)))⟩
  obtain ⟨st1, hb⟩ := hb
  exact call_any (k := 199) t_law rfl rfl hb
end L2.L_k01
open PySem PySem.W PyProof.Rows
theorem PySem.Challenge.cw_truthwright_k01_functions_told_holds : PySem.Challenge.rw_truthwright_k01_functions_told.Holds := by
  exact L2.L_k01.holds fun ns _ => L2.L_k01.ev_law
