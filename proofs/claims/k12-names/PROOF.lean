import PyProof.Rows.All
import Wide.All
import OpenK.AllK
import Wide.FinOn
import HandS.ForMost
import HandS.Strs
import HandS.Conv
import HandS.IsInst
import HandS.WideBits
import HandS.Zip
import HandS.TupAny
import HandS.Property
import HandS.RaiseMore
import HandS.Small
import HandS.Flow
import KE.GoesMore
import KE.GoesEnum
import HandS.More
import HandS.Style
import HandS.TupLe
import KE.DatumOrd
import PyProof.Rows.RowBridgeK
import PySem.Challenge.RW_neverfewer_k12_whole_names
set_option Elab.async false
set_option linter.all false
set_option maxRecDepth 100000
set_option maxHeartbeats 2000000
/-! The data layer: readings of HandS whose values are plain data. -/
namespace DP
open PySem PySem.Spec PyProof.Rows L2

/-- data -/
inductive Dat where
  | non | bl (b : Bool) | int (i : Int) | str (x : Str)
  | tup (l : List Dat) | lst (l : List Dat) | ins (c : Nat) (ns : List Str) (l : List Dat)

theorem Option.bind_some' {α β : Type} {o : Option α} {f : α → Option β} {b : β} (h : o.bind f = some b) : ∃ a, o = some a ∧ f a = some b := by
  cases o with
  | none => cases h
  | some a => exact ⟨a, rfl, h⟩
theorem Option.map_some' {α β : Type} {o : Option α} {f : α → β} {b : β} (h : o.map f = some b) : ∃ a, o = some a ∧ f a = b := by
  cases o with
  | none => cases h
  | some a => exact ⟨a, rfl, Option.some.inj h⟩
/-- what stays the same through a def's run: the written part, the classes (address, fields), where in-out arguments stand -/
structure Gd where
  K : PySem.W.Frag
  w : World
  cl : Nat → Addr
  io : Nat → Addr

mutual
inductive Is (G : Gd) (Z : Hp) : V → Dat → Prop
  | non : Is G Z .non .non
  | bl (b : Bool) : Is G Z (.bl b) (.bl b)
  | int (i : Int) : Is G Z (.int i) (.int i)
  | str (x : Str) : Is G Z (.str x) (.str x)
  | tup {a : Addr} {xs : List V} {ds : List Dat} : SqT G.K Z a xs → IsAll G Z xs ds → Is G Z (.ref a) (.tup ds)
  | lst {a : Addr} {xs : List V} {ds : List Dat} : Z a = some (.lst xs) → IsAll G Z xs ds → Is G Z (.ref a) (.lst ds)
  | ins {a dx : Addr} {c : Nat} {ns : List Str} {xs : List V} {ds : List Dat} : Z a = some (.ins (G.cl c) dx (ns.zip xs)) → xs.length = ns.length → IsAll G Z xs ds → Is G Z (.ref a) (.ins c ns ds)
inductive IsAll (G : Gd) (Z : Hp) : List V → List Dat → Prop
  | nil : IsAll G Z [] []
  | cons {v : V} {vs : List V} {d : Dat} {ds : List Dat} : Is G Z v d → IsAll G Z vs ds → IsAll G Z (v :: vs) (d :: ds)
end

theorem same_rd {H H' : Hp} {a : Addr} {u : HO} (e : Same H H') (h : Rd H a u) : Rd H' a u := by
  rcases h with h | ⟨o, h⟩
  · exact Or.inl (e a _ h)
  · exact Or.inr ⟨o, e a _ h⟩
theorem same_t {K : PySem.W.Frag} {H H' : Hp} {a : Addr} {xs : List V} (e : Same H H') (h : SqT K H a xs) : SqT K H' a xs := by
  rcases h with h | h
  · exact Or.inl (same_rd e h)
  · exact Or.inr h
section
variable {G : Gd} {Z Z' H H' : Hp}
mutual
theorem Is.mono (e : Same Z Z') : ∀ {v : V} {d : Dat}, Is G Z v d → Is G Z' v d
  | _, _, .non => .non
  | _, _, .bl b => .bl b
  | _, _, .int i => .int i
  | _, _, .str x => .str x
  | _, _, .tup h k => .tup (same_t e h) (IsAll.mono e k)
  | _, _, .lst h k => .lst (e _ _ h) (IsAll.mono e k)
  | _, _, .ins h l k => .ins (e _ _ h) l (IsAll.mono e k)
theorem IsAll.mono (e : Same Z Z') : ∀ {vs : List V} {ds : List Dat}, IsAll G Z vs ds → IsAll G Z' vs ds
  | _, _, .nil => .nil
  | _, _, .cons h k => .cons (Is.mono e h) (IsAll.mono e k)
end
theorem IsAll.len : ∀ {vs : List V} {ds : List Dat}, IsAll G Z vs ds → vs.length = ds.length
  | _, _, .nil => rfl
  | _, _, .cons _ k => congrArg (· + 1) (IsAll.len k)
theorem IsAll.at : ∀ {vs : List V} {ds : List Dat} {i : Nat} {v : V}, IsAll G Z vs ds → vs[i]? = some v → ∃ d, ds[i]? = some d ∧ Is G Z v d
  | _, _, _, _, .nil, h => by simp at h
  | _, _, 0, _, .cons h k, e => by
    simp at e; subst e; exact ⟨_, rfl, h⟩
  | _, _, i + 1, _, .cons h k, e => by
    obtain ⟨d, e1, h1⟩ := IsAll.at (i := i) k (by simpa using e)
    exact ⟨d, by simpa using e1, h1⟩
theorem IsAll.tA : ∀ {vs : List V} {ds : List Dat} {i : Nat} {d : Dat}, IsAll G Z vs ds → ds[i]? = some d → ∃ v, vs[i]? = some v ∧ Is G Z v d
  | _, _, _, _, .nil, h => by simp at h
  | _, _, 0, _, .cons h k, e => by
    simp at e; subst e; exact ⟨_, rfl, h⟩
  | _, _, i + 1, _, .cons h k, e => by
    obtain ⟨d, e1, h1⟩ := IsAll.tA (i := i) k (by simpa using e)
    exact ⟨d, by simpa using e1, h1⟩
theorem IsAll.app : ∀ {vs ws : List V} {ds es : List Dat}, IsAll G Z vs ds → IsAll G Z ws es → IsAll G Z (vs ++ ws) (ds ++ es)
  | _, _, _, _, .nil, k => k
  | _, _, _, _, .cons h r, k => .cons h (IsAll.app r k)
theorem IsAll.one {v : V} {d : Dat} (h : Is G Z v d) : IsAll G Z [v] [d] := .cons h .nil
theorem IsAll.tk : ∀ {vs : List V} {ds : List Dat} (n : Nat), IsAll G Z vs ds → IsAll G Z (vs.take n) (ds.take n)
  | _, _, 0, _ => .nil
  | _, _, _ + 1, .nil => .nil
  | _, _, n + 1, .cons h k => .cons h (IsAll.tk n k)
theorem IsAll.dp : ∀ {vs : List V} {ds : List Dat} (n : Nat), IsAll G Z vs ds → IsAll G Z (vs.drop n) (ds.drop n)
  | _, _, 0, k => k
  | _, _, _ + 1, .nil => .nil
  | _, _, n + 1, .cons _ k => IsAll.dp n k
theorem IsAll.st {v : V} {d : Dat} (q : Is G Z v d) : ∀ {vs : List V} {ds : List Dat} (n : Nat), IsAll G Z vs ds → IsAll G Z (vs.set n v) (ds.set n d)
  | _, _, _, .nil => .nil
  | _, _, 0, .cons _ k => .cons q k
  | _, _, n + 1, .cons h k => .cons h (IsAll.st q n k)
theorem IsAll.rv : ∀ {vs : List V} {ds : List Dat}, IsAll G Z vs ds → IsAll G Z vs.reverse ds.reverse
  | _, _, .nil => .nil
  | _, _, .cons h k => by
    rw [List.reverse_cons, List.reverse_cons]
    exact (IsAll.rv k).app (.one h)
theorem IsAll.int : ∀ {vs : List V} {ns : List Int}, IsAll G Z vs (ns.map Dat.int) → vs = ns.map V.int
  | _, [], .nil => rfl
  | _, n :: ns, .cons h k => by
    cases h
    rw [IsAll.int k]
    rfl
theorem IsAll.ints (Z : Hp) : ∀ (ns : List Int), IsAll G Z (ns.map V.int) (ns.map Dat.int)
  | [] => .nil
  | n :: ns => .cons (.int n) (IsAll.ints Z ns)
theorem IsAll.bls (Z : Hp) : ∀ (ns : List Bool), IsAll G Z (ns.map V.bl) (ns.map Dat.bl)
  | [] => .nil
  | n :: ns => .cons (.bl n) (IsAll.bls Z ns)
theorem IsAll.bl : ∀ {vs : List V} {ns : List Bool}, IsAll G Z vs (ns.map Dat.bl) → vs = ns.map V.bl
  | _, [], .nil => rfl
  | _, n :: ns, .cons h k => by
    cases h
    rw [IsAll.bl k]
    rfl
end

/-- an object that a slot holds alone -/
inductive MO where
  | lst (xs : List Dat) | set (S : Int → Bool) (n : Nat) | dic (kvs : List (Key × Dat)) | obj (c : Nat) (fs : List (Str × Dat))
/-- what a slot holds: nothing that is known; data; the script; an object of its own; an in-out argument's object -/
inductive SD where
  | no | d (x : Dat) | scr (ns : List Int) | own (m : MO) | io (m : MO)
def SD.kd : SD → Nat
  | .own _ => 1
  | .io _ => 2
  | _ => 0

section
variable (G : Gd)
def MoAt (Z H : Hp) (a : Addr) : MO → Prop
  | .lst xs => ∃ vs, H a = some (.lst vs) ∧ IsAll G Z vs xs
  | .set S n => H a = some (SetO G.w a S n)
  | .dic kvs => ∃ ws : List (Key × V), H a = some (.dK ws) ∧ ws.map (·.1) = kvs.map (·.1) ∧ IsAll G Z (ws.map (·.2)) (kvs.map (·.2))
  | .obj c fs => ∃ (dx : Addr) (ws : List (Str × V)), H a = some (.ins (G.cl c) dx ws) ∧ ws.map (·.1) = fs.map (·.1) ∧ IsAll G Z (ws.map (·.2)) (fs.map (·.2))
/-- a value by what it is -/
def ValOk (Z H : Hp) : SD → V → Prop
  | .no, _ => False
  | .d x, v => Is G Z v x
  | .scr ns, v => ∃ a, v = .ref a ∧ SqL G.K Z a (ns.map V.int)
  | .own m, v => ∃ a, v = .ref a ∧ Z a = none ∧ MoAt G Z H a m
  | .io m, v => ∃ a, v = .ref a ∧ Z a = none ∧ MoAt G Z H a m
def SlotOk (Z H : Hp) (i : Nat) : SD → Option V → Prop
  | .no, _ => True
  | .d x, o => ∃ v, o = some v ∧ Is G Z v x
  | .scr ns, o => ∃ a, o = some (.ref a) ∧ SqL G.K Z a (ns.map V.int)
  | .own m, o => ∃ a, o = some (.ref a) ∧ Z a = none ∧ MoAt G Z H a m
  | .io m, o => o = some (.ref (G.io i)) ∧ Z (G.io i) = none ∧ MoAt G Z H (G.io i) m
end
theorem MoAt.there {G : Gd} {Z H : Hp} {a : Addr} {m : MO} (h : MoAt G Z H a m) : H a ≠ none := by
  intro e
  cases m with
  | lst xs => obtain ⟨vs, h, _⟩ := h; rw [e] at h; cases h
  | set S n =>
    have h : H a = some (SetO G.w a S n) := h
    rw [e] at h; cases h
  | dic kvs => obtain ⟨ws, h, _⟩ := h; rw [e] at h; cases h
  | obj c fs => obtain ⟨dx, ws, h, _⟩ := h; rw [e] at h; cases h
theorem MoAt.mono {G : Gd} {Z Z' H H' : Hp} {a : Addr} {m : MO} (e : Same Z Z') (k : ∀ o, H a = some o → H' a = some o) (h : MoAt G Z H a m) : MoAt G Z' H' a m := by
  cases m with
  | lst xs => obtain ⟨vs, h, q⟩ := h; exact ⟨vs, k _ h, q.mono e⟩
  | set S n =>
    have h : H a = some (SetO G.w a S n) := h
    exact k _ h
  | dic kvs => obtain ⟨ws, h, q, r⟩ := h; exact ⟨ws, k _ h, q, r.mono e⟩
  | obj c fs => obtain ⟨dx, ws, h, q, r⟩ := h; exact ⟨dx, ws, k _ h, q, r.mono e⟩

/-- an object's data, where it is seen from now on -/
def MO.dat : MO → Option Dat
  | .lst xs => some (.lst xs)
  | .obj c fs => some (.ins c (fs.map (·.1)) (fs.map (·.2)))
  | _ => none
theorem zip_un {α β : Type} : ∀ (ws : List (α × β)), (ws.map (·.1)).zip (ws.map (·.2)) = ws
  | [] => rfl
  | (a, b) :: r => congrArg ((a, b) :: ·) (zip_un r)
theorem MoAt.dat {G : Gd} {Z H : Hp} {a : Addr} {m : MO} {x : Dat} (e : m.dat = some x) (h : MoAt G Z H a m) : ∃ o, H a = some o ∧ ∀ Z', Same Z Z' → Z' a = some o → Is G Z' (.ref a) x := by
  cases m with
  | set _ _ => cases e
  | dic _ => cases e
  | lst xs =>
    cases e
    obtain ⟨vs, ha, q⟩ := h
    exact ⟨_, ha, fun Z' s e => .lst e (q.mono s)⟩
  | obj c fs =>
    cases e
    obtain ⟨dx, ws, ha, q1, q2⟩ := h
    refine ⟨_, ha, fun Z' s e => .ins (dx := dx) (xs := ws.map (·.2)) ?_ ?_ (q2.mono s)⟩
    · rw [← q1, zip_un]; exact e
    · rw [← q1, List.length_map, List.length_map]

/-- the kind of what slot i holds -/
def kdAt (ρ : List SD) (i : Nat) : Nat := ((ρ[i]?).map SD.kd).getD 0
def Own (ρ : List SD) (σ : L2.St) (b : Addr) : Prop := ∃ i, kdAt ρ i ≠ 0 ∧ σ[i]? = some (some (.ref b))
def OwnL (ρ : List SD) (σ : L2.St) (b : Addr) : Prop := ∃ i, kdAt ρ i = 1 ∧ σ[i]? = some (some (.ref b))
theorem OwnL.own {ρ : List SD} {σ : L2.St} {b : Addr} (h : OwnL ρ σ b) : Own ρ σ b := let ⟨i, h1, h2⟩ := h; ⟨i, by omega, h2⟩

structure Rep (G : Gd) (Z : Hp) (ρ : List SD) (σ : L2.St) (H : Hp) : Prop where
  same : Same Z H
  len : σ.length = ρ.length
  slot : ∀ i s, ρ[i]? = some s → ∃ o, σ[i]? = some o ∧ SlotOk G Z H i s o
  dis : ∀ i j a, i ≠ j → kdAt ρ i ≠ 0 → kdAt ρ j ≠ 0 → σ[i]? = some (some (.ref a)) → σ[j]? ≠ some (some (.ref a))

/-- from one state to a later one -/
structure Step (Z : Hp) (ρ : List SD) (σ : L2.St) (H : Hp) (Z' : Hp) (ρ' : List SD) (σ' : L2.St) (H' : Hp) : Prop where
  zz : Same Z Z'
  fr : ∀ b o, H b = some o → ¬ Own ρ σ b → H' b = some o
  fz : ∀ b, H b ≠ none → Z b = none → ¬ Own ρ σ b → Z' b = none
  dom : ∀ b, H b ≠ none → H' b ≠ none
  ow : ∀ b, Own ρ' σ' b → Own ρ σ b ∨ H b = none
  owl : ∀ b, OwnL ρ' σ' b → OwnL ρ σ b ∨ H b = none
/-- an expression makes no slot hold an object of its own -/
structure ES (ρ ρ' : List SD) : Prop where
  len : ρ'.length = ρ.length
  kd : ∀ i, kdAt ρ' i ≠ 0 → kdAt ρ i = kdAt ρ' i
theorem ES.refl (ρ : List SD) : ES ρ ρ := ⟨rfl, fun _ _ => rfl⟩
theorem ES.trans {a b c : List SD} (h : ES a b) (k : ES b c) : ES a c := ⟨k.len.trans h.len, fun i n => by
  have e := k.kd i n
  rw [← e] at n ⊢
  exact h.kd i n⟩
theorem ES.own {ρ ρ' : List SD} {σ : L2.St} {b : Addr} (h : ES ρ ρ') (o : Own ρ' σ b) : Own ρ σ b := by
  obtain ⟨i, n, e⟩ := o
  exact ⟨i, by rw [h.kd i n]; exact n, e⟩
theorem ES.ownL {ρ ρ' : List SD} {σ : L2.St} {b : Addr} (h : ES ρ ρ') (o : OwnL ρ' σ b) : OwnL ρ σ b := by
  obtain ⟨i, n, e⟩ := o
  exact ⟨i, by rw [h.kd i (by omega)]; exact n, e⟩

section
variable {G : Gd} {Z Z1 Z2 H H1 H2 : Hp} {ρ ρ1 ρ2 : List SD} {σ σ1 σ2 : L2.St}
theorem Step.refl (Z : Hp) (ρ : List SD) (σ : L2.St) (H : Hp) : Step Z ρ σ H Z ρ σ H := ⟨Same.refl _, fun _ _ h _ => h, fun _ _ h _ => h, fun _ h => h, fun _ h => .inl h, fun _ h => .inl h⟩
theorem Step.trans (a : Step Z ρ σ H Z1 ρ1 σ1 H1) (b : Step Z1 ρ1 σ1 H1 Z2 ρ2 σ2 H2) : Step Z ρ σ H Z2 ρ2 σ2 H2 := by
  have no1 : ∀ c, H c ≠ none → ¬ Own ρ σ c → ¬ Own ρ1 σ1 c := fun c h n o => by
    rcases a.ow c o with q | q
    · exact n q
    · exact h q
  have back : ∀ c, H1 c = none → H c = none := fun c h => Classical.byContradiction fun n => a.dom c n h
  refine ⟨a.zz.trans b.zz, fun c o h n => ?_, fun c h z n => ?_, fun c h => b.dom c (a.dom c h), fun c o => ?_, fun c o => ?_⟩
  · exact b.fr c o (a.fr c o h n) (no1 c (by rw [h]; exact fun q => nomatch q) n)
  · exact b.fz c (a.dom c h) (a.fz c h z n) (no1 c h n)
  · rcases b.ow c o with q | q
    · exact a.ow c q
    · exact .inr (back c q)
  · rcases b.owl c o with q | q
    · exact a.owl c q
    · exact .inr (back c q)
theorem Step.back (a : Step Z ρ σ H Z1 ρ1 σ1 H1) {c : Addr} (h : H1 c = none) : H c = none := Classical.byContradiction fun n => a.dom c n h
/-- the heap has grown, nothing else -/
structure Ext (Z H Z' H' : Hp) : Prop where
  zz : Same Z Z'
  hh : Same H H'
  zh : Same Z' H'
  fz : ∀ b, H b ≠ none → Z b = none → Z' b = none
theorem Ext.refl (h : Same Z H) : Ext Z H Z H := ⟨Same.refl _, Same.refl _, h, fun _ _ e => e⟩
theorem Ext.dom (e : Ext Z H Z1 H1) {b : Addr} (h : H b ≠ none) : H1 b ≠ none := by
  cases q : H b with
  | none => exact absurd q h
  | some o => rw [e.hh b o q]; exact fun z => nomatch z
theorem Ext.trans (a : Ext Z H Z1 H1) (b : Ext Z1 H1 Z2 H2) : Ext Z H Z2 H2 := ⟨a.zz.trans b.zz, a.hh.trans b.hh, b.zh, fun c h z => b.fz c (a.dom h) (a.fz c h z)⟩
theorem Ext.step (e : Ext Z H Z1 H1) (ρ : List SD) (σ : L2.St) : Step Z ρ σ H Z1 ρ σ H1 := ⟨e.zz, fun b o h _ => e.hh b o h, fun b h z _ => e.fz b h z, fun b h => e.dom h, fun _ h => .inl h, fun _ h => .inl h⟩
theorem Ext.rep (e : Ext Z H Z1 H1) (r : Rep G Z ρ σ H) : Rep G Z1 ρ σ H1 := by
  refine ⟨e.zh, r.len, fun i s h => ?_, r.dis⟩
  obtain ⟨o, h1, h2⟩ := r.slot i s h
  refine ⟨o, h1, ?_⟩
  cases s with
  | no => trivial
  | d x => obtain ⟨v, e1, k⟩ := h2; exact ⟨v, e1, k.mono e.zz⟩
  | scr ns => obtain ⟨a, e1, k⟩ := h2; exact ⟨a, e1, e.zz.seq k⟩
  | own m => obtain ⟨a, e1, z, k⟩ := h2; exact ⟨a, e1, e.fz a k.there z, k.mono e.zz fun o q => e.hh _ _ q⟩
  | io m => obtain ⟨e1, z, k⟩ := h2; exact ⟨e1, e.fz _ k.there z, k.mono e.zz fun o q => e.hh _ _ q⟩
theorem ValOk.mono {s : SD} {v : V} (e : Ext Z H Z1 H1) (h : ValOk G Z H s v) : ValOk G Z1 H1 s v := by
  cases s with
  | no => exact h
  | d x => exact Is.mono e.zz h
  | scr ns => obtain ⟨a, e1, k⟩ := h; exact ⟨a, e1, e.zz.seq k⟩
  | own m => obtain ⟨a, e1, z, k⟩ := h; exact ⟨a, e1, e.fz a k.there z, k.mono e.zz fun o q => e.hh _ _ q⟩
  | io m => obtain ⟨a, e1, z, k⟩ := h; exact ⟨a, e1, e.fz a k.there z, k.mono e.zz fun o q => e.hh _ _ q⟩
/-- .. behind a step, where it was new ahead of the step -/
theorem ValOk.step {s : SD} {v : V} (S : Step Z1 ρ1 σ1 H1 Z2 ρ2 σ2 H2) (n : s.kd ≠ 0 → ∀ a, v = .ref a → ¬ Own ρ1 σ1 a) (h : ValOk G Z1 H1 s v) : ValOk G Z2 H2 s v := by
  cases s with
  | no => exact h
  | d x => exact Is.mono S.zz h
  | scr ns => obtain ⟨a, e1, k⟩ := h; exact ⟨a, e1, S.zz.seq k⟩
  | own m =>
    obtain ⟨a, e1, z, k⟩ := h
    have no := n (by simp [SD.kd]) a e1
    exact ⟨a, e1, S.fz a k.there z no, k.mono S.zz fun o q => S.fr _ _ q no⟩
  | io m =>
    obtain ⟨a, e1, z, k⟩ := h
    have no := n (by simp [SD.kd]) a e1
    exact ⟨a, e1, S.fz a k.there z no, k.mono S.zz fun o q => S.fr _ _ q no⟩
/-- a result: what it is, and where it is an object of its own, a new one -/
structure New (G : Gd) (H0 Z H : Hp) (s : SD) (v : V) : Prop where
  ok : ValOk G Z H s v
  nw : s.kd ≠ 0 → ∀ a, v = .ref a → H0 a = none
theorem Rep.there (r : Rep G Z ρ σ H) {b : Addr} (o : Own ρ σ b) : H b ≠ none := by
  obtain ⟨i, n, e⟩ := o
  unfold kdAt at n
  cases q : ρ[i]? with
  | none => rw [q] at n; exact absurd rfl n
  | some s =>
    obtain ⟨o, h1, h2⟩ := r.slot i s q
    rw [e] at h1; cases h1
    rw [q] at n
    cases s with
    | no => exact absurd rfl n
    | d x => exact absurd rfl n
    | scr ns => exact absurd rfl n
    | own m => obtain ⟨a, e1, _, k⟩ := h2; cases e1; exact k.there
    | io m => obtain ⟨e1, _, k⟩ := h2; cases e1; exact k.there
theorem Rep.off (r : Rep G Z ρ σ H) {b : Addr} (o : Own ρ σ b) : Z b = none := by
  obtain ⟨i, n, e⟩ := o
  unfold kdAt at n
  cases q : ρ[i]? with
  | none => rw [q] at n; exact absurd rfl n
  | some s =>
    obtain ⟨o, h1, h2⟩ := r.slot i s q
    rw [e] at h1; cases h1
    rw [q] at n
    cases s with
    | no => exact absurd rfl n
    | d x => exact absurd rfl n
    | scr ns => exact absurd rfl n
    | own m => obtain ⟨a, e1, z, k⟩ := h2; cases e1; exact z
    | io m => obtain ⟨e1, z, k⟩ := h2; cases e1; exact z
theorem New.step {s : SD} {v : V} {H0 : Hp} (n : New G H0 Z1 H1 s v) (S : Step Z1 ρ1 σ H1 Z2 ρ2 σ H2) (E : ES ρ ρ1) (R : Rep G Z ρ σ H0) : New G H0 Z2 H2 s v :=
  ⟨n.ok.step S fun k a e o => R.there (E.own o) (n.nw k a e), n.nw⟩
theorem New.ext {s : SD} {v : V} {H0 : Hp} (n : New G H0 Z1 H1 s v) (e : Ext Z1 H1 Z2 H2) : New G H0 Z2 H2 s v := ⟨n.ok.mono e, n.nw⟩
theorem New.back {s : SD} {v : V} (n : New G H1 Z2 H2 s v) (S : Step Z ρ σ H Z1 ρ1 σ1 H1) : New G H Z2 H2 s v := ⟨n.ok, fun k a e => S.back (n.nw k a e)⟩
end
end DP

set_option Elab.async false
set_option linter.all false
set_option maxRecDepth 100000
set_option maxHeartbeats 2000000
namespace DP
open PySem PySem.Spec PyProof.Rows L2

/-! ### a weaker reading -/
section
variable {X : Cx}
theorem pe_to {e : Expr} {t t' : TE} (h : PE X e t) (k : ∀ σ H Q, t' σ H Q → t σ H Q) : PE X e t' := ⟨fun pins s σ H Q I q => h.run pins s σ H Q I (k _ _ _ q)⟩
theorem pt_to {e : Expr} {t t' : TT} (h : PT X e t) (k : ∀ σ H Q, t' σ H Q → t σ H Q) : PT X e t' := ⟨fun pins s σ H Q I q => h.run pins s σ H Q I (k _ _ _ q)⟩
theorem pw_to {e : Expr} {t t' : TT} (h : PW X e t) (k : ∀ σ H Q, t' σ H Q → t σ H Q) : PW X e t' := ⟨fun wh pins s σ H Q I q => h.run wh pins s σ H Q I (k _ _ _ q)⟩
theorem pa_to {es : List Expr} {t t' : TA} (h : PA X es t) (k : ∀ σ H Q, t' σ H Q → t σ H Q) : PA X es t' := ⟨fun pos pins s σ H Q I q => h.run pos pins s σ H Q I (k _ _ _ q)⟩
theorem ps_to {st : Stmt} {t t' : TS} (h : PS X st t) (k : ∀ D σ H, t' D σ H → t D σ H) : PS X st t' := ⟨fun pins s σ H D I q => h.run pins s σ H D I (k _ _ _ q)⟩
theorem pss_to {st : List Stmt} {t t' : TS} (h : PSs X st t) (k : ∀ D σ H, t' D σ H → t D σ H) : PSs X st t' := ⟨fun pins s σ H D I q => h.run pins s σ H D I (k _ _ _ q)⟩
theorem pg_to {e : Expr} {t t' : TG} (h : PG X e t) (k : ∀ v σ H Q, t' v σ H Q → t v σ H Q) : PG X e t' := ⟨fun pins s σ H v u Q I r q => h.run pins s σ H v u Q I r (k _ _ _ _ q)⟩
theorem pgs_to {e : List Expr} {t t' : TGs} (h : PGs X e t) (k : ∀ v σ H Q, t' v σ H Q → t v σ H Q) : PGs X e t' := ⟨fun pins s σ H v u Q I r q => h.run pins s σ H v u Q I r (k _ _ _ _ q)⟩
theorem pi_to {tg e : Expr} {t t' : TI} (h : PI X tg e t) (k : ∀ σ H R, t' σ H R → t σ H R) : PI X tg e t' := ⟨fun pins s σ H R I q => h.run pins s σ H R I (k _ _ _ q)⟩
theorem pts_to {es : List Expr} {t t' : TT} (h : PTs X es t) (k : ∀ σ H Q, t' σ H Q → t σ H Q) : PTs X es t' := ⟨fun pins s σ H Q I q => h.run pins s σ H Q I (k _ _ _ q)⟩
end

/-! ### data programs -/
abbrev DE := List SD → Option (SD × List SD)
abbrev DT := List SD → Option (Bool × List SD)
abbrev DA := List SD → Option (List SD × List SD)
abbrev DG := SD → List SD → Option (List SD)
abbrev DGs := List SD → List SD → Option (List SD)
inductive FD where
  | nx | bk | ct | ret (r : SD)
abbrev DS := List SD → Option (FD × List SD)
abbrev DI := List SD → Option (List Dat × List SD)

inductive ArgsOk (G : Gd) (Z H : Hp) : List SD → List V → Prop where
  | nil : ArgsOk G Z H [] []
  | cons {s : SD} {v : V} {ss : List SD} {vs : List V} : ValOk G Z H s v → s.kd = 0 → ArgsOk G Z H ss vs → ArgsOk G Z H (s :: ss) (v :: vs)
section
variable {G : Gd} {Z Z1 Z2 H H1 H2 : Hp} {ρ ρ1 ρ2 : List SD} {σ σ1 σ2 : L2.St}
theorem ArgsOk.step (S : Step Z1 ρ1 σ1 H1 Z2 ρ2 σ2 H2) : ∀ {ss : List SD} {vs : List V}, ArgsOk G Z1 H1 ss vs → ArgsOk G Z2 H2 ss vs
  | _, _, .nil => .nil
  | _, _, .cons h k r => .cons (h.step S fun n => absurd k n) k (ArgsOk.step S r)
theorem ArgsOk.ext (e : Ext Z1 H1 Z2 H2) : ∀ {ss : List SD} {vs : List V}, ArgsOk G Z1 H1 ss vs → ArgsOk G Z2 H2 ss vs
  | _, _, .nil => .nil
  | _, _, .cons h k r => .cons (h.mono e) k (ArgsOk.ext e r)
theorem ArgsOk.same (e : Same Z1 Z2) : ∀ {ss : List SD} {vs : List V}, ArgsOk G Z1 H1 ss vs → ArgsOk G Z2 H2 ss vs
  | _, _, .nil => .nil
  | .d x :: _, _, .cons h k r => .cons (Is.mono e h) k (ArgsOk.same e r)
  | .scr x :: _, _, .cons ⟨a, h, q⟩ k r => .cons ⟨a, h, e.seq q⟩ k (ArgsOk.same e r)
  | .no :: _, _, .cons h k r => .cons h k (ArgsOk.same e r)
  | .own _ :: _, _, .cons h k r => absurd k (by simp [SD.kd])
  | .io _ :: _, _, .cons h k r => absurd k (by simp [SD.kd])
end

section
variable (G : Gd)
def tE (f : DE) : TE := fun σ H Q => ∃ Z ρ r ρ', f ρ = some (r, ρ') ∧ Rep G Z ρ σ H ∧ ∀ v Z' H', Step Z ρ σ H Z' ρ' σ H' → ES ρ ρ' → Rep G Z' ρ' σ H' → New G H Z' H' r v → Q v H'
def tT (f : DT) : TT := fun σ H Q => ∃ Z ρ r ρ', f ρ = some (r, ρ') ∧ Rep G Z ρ σ H ∧ ∀ Z' H', Step Z ρ σ H Z' ρ' σ H' → ES ρ ρ' → Rep G Z' ρ' σ H' → Q r H'
def tA (f : DA) : TA := fun σ H Q => ∃ Z ρ r ρ', f ρ = some (r, ρ') ∧ Rep G Z ρ σ H ∧ ∀ vs Z' H', Step Z ρ σ H Z' ρ' σ H' → ES ρ ρ' → Rep G Z' ρ' σ H' → ArgsOk G Z' H' r vs → Q vs H'
def tG (f : DG) : TG := fun v σ H Q => ∃ Z0 ρ0 σ0 H0 Z ρ s ρ', f s ρ = some ρ' ∧ Step Z0 ρ0 σ0 H0 Z ρ σ H ∧ Rep G Z ρ σ H ∧ New G H0 Z H s v ∧ (s.kd ≠ 0 → ∀ a, v = .ref a → ¬ Own ρ σ a) ∧
  ∀ σ' Z' H', Step Z0 ρ0 σ0 H0 Z' ρ' σ' H' → Same Z Z' → Rep G Z' ρ' σ' H' → Q σ' H'
/-- several targets: the values are data -/
def tGs (f : DGs) : TGs := fun vs σ H Q => ∃ Z0 ρ0 σ0 H0 Z ρ ss ρ', f ss ρ = some ρ' ∧ Step Z0 ρ0 σ0 H0 Z ρ σ H ∧ Rep G Z ρ σ H ∧ ArgsOk G Z H ss vs ∧
  ∀ σ' Z' H', Step Z0 ρ0 σ0 H0 Z' ρ' σ' H' → Same Z Z' → Rep G Z' ρ' σ' H' → Q σ' H'
def EndOk (D : Ends) (Z : Hp) (ρ : List SD) (σ : L2.St) (H : Hp) (fl : FD) (ρ' : List SD) : Prop := match fl with
  | .nx => ∀ σ' Z' H', Step Z ρ σ H Z' ρ' σ' H' → Rep G Z' ρ' σ' H' → D.nx σ' H'
  | .bk => ∀ σ' Z' H', Step Z ρ σ H Z' ρ' σ' H' → Rep G Z' ρ' σ' H' → D.bk σ' H'
  | .ct => ∀ σ' Z' H', Step Z ρ σ H Z' ρ' σ' H' → Rep G Z' ρ' σ' H' → D.ct σ' H'
  | .ret r => ∀ v σ' Z' H', Step Z ρ σ H Z' ρ' σ' H' → Rep G Z' ρ' σ' H' → ValOk G Z' H' r v → (r.kd ≠ 0 → ∀ a, v = .ref a → OwnL ρ σ a ∨ H a = none) → D.rt v H'
def tS (f : DS) : TS := fun D σ H => ∃ Z ρ fl ρ', f ρ = some (fl, ρ') ∧ Rep G Z ρ σ H ∧ EndOk G D Z ρ σ H fl ρ'
def Walks (Z : Hp) (J : It) (ds : List Dat) : Prop := ∀ Z1 H1, Same Z Z1 → Same Z1 H1 → ∀ i,
  (∀ d, ds[i]? = some d → J.go i H1 ∧ ∀ x H2, J.yld i H1 x H2 → ∃ Z2, Ext Z1 H1 Z2 H2 ∧ Is G Z2 x d) ∧ (ds.length ≤ i → J.stop i H1)
def tI (f : DI) : TI := fun σ H R => ∃ Z ρ r ρ', f ρ = some (r, ρ') ∧ Rep G Z ρ σ H ∧ ∀ J Z' H', Step Z ρ σ H Z' ρ' σ H' → ES ρ ρ' → Rep G Z' ρ' σ H' → Walks G Z' J r → R J H'
end

section
variable {G : Gd} {Z Z1 Z2 H H1 H2 : Hp} {ρ ρ1 ρ2 : List SD} {σ σ1 σ2 : L2.St}
theorem Step.ext (S : Step Z ρ σ H Z1 ρ1 σ1 H1) (e : Ext Z1 H1 Z2 H2) : Step Z ρ σ H Z2 ρ1 σ1 H2 := S.trans (e.step ρ1 σ1)
theorem Ext.new {p : Addr} {o : HO} (h : Same Z H) (hp : H p = none) : Ext Z H Z (upd H p o) := by
  have s : Same H (upd H p o) := fun b u e => by rw [upd_ne (ne_of_none e hp)]; exact e
  exact ⟨Same.refl _, s, h.trans s, fun _ _ z => z⟩
/-- a new object laid, seen as data -/
theorem Ext.newZ {p : Addr} {o : HO} (h : Same Z H) (hp : H p = none) : Ext Z H (upd Z p o) (upd H p o) := by
  have zp : Z p = none := Classical.byContradiction fun n => by
    cases q : Z p with
    | none => exact n q
    | some u => rw [h p u q] at hp; cases hp
  refine ⟨fun b u e => ?_, fun b u e => ?_, fun b u e => ?_, fun b n z => ?_⟩
  · rw [upd_ne (ne_of_none e zp)]; exact e
  · rw [upd_ne (ne_of_none e hp)]; exact e
  · by_cases q : b = p
    · rw [q, upd_same] at e ⊢; exact e
    · rw [upd_ne q] at e ⊢; exact h b u e
  · have q : b ≠ p := fun e => n (e ▸ hp)
    rw [upd_ne q]; exact z
theorem same_off (h : Same Z H) {p : Addr} (hp : H p = none) : Z p = none := Classical.byContradiction fun n => by
    cases q : Z p with
    | none => exact n q
    | some u => rw [h p u q] at hp; cases hp

/-! ### freezing -/
/-- Z with a list (an instance) that was a slot's, or new, known from now on -/
theorem freeze_zz {a : Addr} {o : HO} (z : Z a = none) : Same Z (upd Z a o) := fun b u e => by
  rw [upd_ne (ne_of_none e z)]; exact e
theorem freeze_zh {a : Addr} {o : HO} (s : Same Z H) (h : H a = some o) : Same (upd Z a o) H := fun b u e => by
  by_cases q : b = a
  · rw [q, upd_same] at e; cases e; rw [q]; exact h
  · rw [upd_ne q] at e; exact s b u e
theorem kdAt_set (ρ : List SD) (i : Nat) (s : SD) (j : Nat) : kdAt (ρ.set i s) j = if i = j then (if j < ρ.length then s.kd else 0) else kdAt ρ j := by
  unfold kdAt
  rw [List.getElem?_set]
  by_cases e : i = j
  · subst e
    rw [if_pos rfl, if_pos rfl]
    split <;> rfl
  · rw [if_neg e, if_neg e]
/-- the object of slot i is known from now on -/
theorem freeze_slot {i : Nat} {a : Addr} {m : MO} {o : HO} {x : Dat} (R : Rep G Z ρ σ H) (hi : ρ[i]? = some (.own m)) (hs : σ[i]? = some (some (.ref a))) (h : H a = some o) (q : Is G (upd Z a o) (.ref a) x) :
    Step Z ρ σ H (upd Z a o) (ρ.set i (.d x)) σ H ∧ ES ρ (ρ.set i (.d x)) ∧ Rep G (upd Z a o) (ρ.set i (.d x)) σ H := by
  have ki : kdAt ρ i = 1 := by unfold kdAt; rw [hi]; rfl
  have oa : Own ρ σ a := ⟨i, by omega, hs⟩
  have z : Z a = none := R.off oa
  have hl : i < ρ.length := (List.getElem?_eq_some_iff.mp hi).1
  have es : ES ρ (ρ.set i (.d x)) := ⟨List.length_set, fun j n => by
    rw [kdAt_set] at n ⊢
    by_cases e : i = j
    · rw [if_pos e] at n
      split at n <;> exact absurd rfl n
    · rw [if_neg e]⟩
  refine ⟨⟨freeze_zz z, fun _ _ e _ => e, fun b n e no => ?_, fun _ e => e, fun b o => .inl (es.own o), fun b o => .inl (es.ownL o)⟩, es, ?_⟩
  · have q : b ≠ a := fun e => no (e ▸ oa)
    rw [upd_ne q]; exact e
  · refine ⟨freeze_zh R.same h, by rw [List.length_set]; exact R.len, fun j s e => ?_, fun j k b ne nj nk e1 => ?_⟩
    · rw [List.getElem?_set] at e
      by_cases ij : i = j
      · rw [if_pos ij, if_pos (ij ▸ hl)] at e
        cases e
        subst ij
        exact ⟨_, hs, _, rfl, q⟩
      · rw [if_neg ij] at e
        obtain ⟨u, h1, h2⟩ := R.slot j s e
        refine ⟨u, h1, ?_⟩
        have far : ∀ c, s.kd ≠ 0 → σ[j]? = some (some (.ref c)) → c ≠ a := fun c n e1 e2 => by
          subst e2
          exact R.dis i j c ij (by omega) (by unfold kdAt; rw [e]; exact n) hs e1
        cases s with
        | no => trivial
        | d y => obtain ⟨v, e1, k⟩ := h2; exact ⟨v, e1, k.mono (freeze_zz z)⟩
        | scr ns => obtain ⟨c, e1, k⟩ := h2; exact ⟨c, e1, (freeze_zz z).seq k⟩
        | own m' =>
          obtain ⟨c, e1, zc, k⟩ := h2
          subst e1
          refine ⟨c, rfl, ?_, k.mono (freeze_zz z) fun _ e => e⟩
          rw [upd_ne (far c (by simp [SD.kd]) h1)]; exact zc
        | io m' =>
          obtain ⟨e1, zc, k⟩ := h2
          subst e1
          refine ⟨rfl, ?_, k.mono (freeze_zz z) fun _ e => e⟩
          rw [upd_ne (far _ (by simp [SD.kd]) h1)]; exact zc
    · exact R.dis j k b ne (fun z => nj (Classical.byContradiction fun w => by have := es.kd j w; omega)) (fun z => nk (Classical.byContradiction fun w => by have := es.kd k w; omega)) e1
end
end DP

set_option Elab.async false
set_option linter.all false
set_option maxRecDepth 100000
set_option maxHeartbeats 2000000
namespace DP
open PySem PySem.Spec PyProof.Rows L2
section
variable {G : Gd} {Z Z1 Z2 H H1 H2 : Hp} {ρ ρ1 ρ2 : List SD} {σ σ1 σ2 : L2.St}

def SD.re (s : SD) (m : MO) : SD := match s with
  | .io _ => .io m
  | _ => .own m
def SD.mo : SD → Option MO
  | .own m => some m
  | .io m => some m
  | _ => none
theorem SD.mo_kd {s : SD} {m m' : MO} (h : s.mo = some m) : (s.re m').kd = s.kd ∧ s.kd ≠ 0 := by
  cases s with
  | own x => exact ⟨rfl, by simp [SD.kd]⟩
  | io x => exact ⟨rfl, by simp [SD.kd]⟩
  | no => cases h
  | d x => cases h
  | scr x => cases h
/-- where the object of a slot stands -/
theorem Rep.mo (R : Rep G Z ρ σ H) {i : Nat} {s : SD} {m : MO} (hi : ρ[i]? = some s) (hm : s.mo = some m) : ∃ a, σ[i]? = some (some (.ref a)) ∧ Z a = none ∧ MoAt G Z H a m ∧ Own ρ σ a := by
  obtain ⟨u, h1, h2⟩ := R.slot i s hi
  have k : kdAt ρ i ≠ 0 := by unfold kdAt; rw [hi]; exact (SD.mo_kd (m' := m) hm).2
  cases s with
  | own x =>
    cases hm
    obtain ⟨a, e, z, q⟩ := h2
    subst e
    exact ⟨a, h1, z, q, i, k, h1⟩
  | io x =>
    cases hm
    obtain ⟨e, z, q⟩ := h2
    subst e
    exact ⟨_, h1, z, q, i, k, h1⟩
  | no => cases hm
  | d x => cases hm
  | scr x => cases hm
/-- the object of slot i is changed -/
theorem mut_slot {i : Nat} {a : Addr} {s : SD} {m m' : MO} {o : HO} (R : Rep G Z ρ σ H) (hi : ρ[i]? = some s) (hm : s.mo = some m) (hs : σ[i]? = some (some (.ref a))) (q : MoAt G Z (upd H a o) a m') :
    Step Z ρ σ H Z (ρ.set i (s.re m')) σ (upd H a o) ∧ ES ρ (ρ.set i (s.re m')) ∧ Rep G Z (ρ.set i (s.re m')) σ (upd H a o) := by
  obtain ⟨hk, hn⟩ := SD.mo_kd (m' := m') hm
  have ki : kdAt ρ i = s.kd := by unfold kdAt; rw [hi]; rfl
  have oa : Own ρ σ a := ⟨i, by omega, hs⟩
  have z : Z a = none := R.off oa
  have hl : i < ρ.length := (List.getElem?_eq_some_iff.mp hi).1
  have es : ES ρ (ρ.set i (s.re m')) := ⟨List.length_set, fun j n => by
    rw [kdAt_set]
    by_cases e : i = j
    · rw [if_pos e, if_pos (e ▸ hl), ← e, ki, hk]
    · rw [if_neg e]⟩
  have zh : Same Z (upd H a o) := fun b u e => by
    rw [upd_ne (ne_of_none e z)]; exact R.same b u e
  refine ⟨⟨Same.refl _, fun b u e no => ?_, fun _ _ e _ => e, fun b e => ?_, fun b o => .inl (es.own o), fun b o => .inl (es.ownL o)⟩, es, zh, by rw [List.length_set]; exact R.len, fun j t e => ?_, fun j k b ne nj nk e1 => ?_⟩
  · rw [upd_ne (show b ≠ a from fun e => no (e ▸ oa))]; exact e
  · unfold upd
    split
    · exact fun q => nomatch q
    · exact e
  · rw [List.getElem?_set] at e
    by_cases ij : i = j
    · rw [if_pos ij, if_pos (ij ▸ hl)] at e
      cases e
      subst ij
      refine ⟨_, hs, ?_⟩
      cases s with
      | own x => exact ⟨a, rfl, z, q⟩
      | io x =>
        obtain ⟨u, h1, h2⟩ := R.slot i _ hi
        obtain ⟨e2, _, _⟩ := h2
        rw [hs] at h1
        cases h1
        cases e2
        exact ⟨rfl, z, q⟩
      | no => cases hm
      | d x => cases hm
      | scr x => cases hm
    · rw [if_neg ij] at e
      obtain ⟨u, h1, h2⟩ := R.slot j t e
      refine ⟨u, h1, ?_⟩
      have far : ∀ c, t.kd ≠ 0 → σ[j]? = some (some (.ref c)) → c ≠ a := fun c n e1 e2 => by
        subst e2
        exact R.dis i j c ij (by omega) (by unfold kdAt; rw [e]; exact n) hs e1
      cases t with
      | no => trivial
      | d y => exact h2
      | scr ns => exact h2
      | own x =>
        obtain ⟨c, e1, zc, k⟩ := h2
        subst e1
        have fc := far c (by simp [SD.kd]) h1
        exact ⟨c, rfl, zc, k.mono (Same.refl _) fun w e => by rw [upd_ne fc]; exact e⟩
      | io x =>
        obtain ⟨e1, zc, k⟩ := h2
        subst e1
        have fc := far _ (by simp [SD.kd]) h1
        exact ⟨rfl, zc, k.mono (Same.refl _) fun w e => by rw [upd_ne fc]; exact e⟩
  · exact R.dis j k b ne (by rw [es.kd j nj]; exact nj) (by rw [es.kd k nk]; exact nk) e1

/-! ### expressions: names, constants -/
def dC (x : Dat) : DE := fun ρ => some (.d x, ρ)
def dVar (i : Nat) : DE := fun ρ => match ρ[i]? with
  | some (.d x) => some (.d x, ρ)
  | some (.scr ns) => some (.scr ns, ρ)
  | some (.own m) => m.dat.map fun x => (.d x, ρ.set i (.d x))
  | _ => none
theorem te_var {i : Nat} {Q : VK} (h : tE G (dVar i) σ H Q) : tVar i σ H Q := by
  obtain ⟨Z, ρ, r, ρ', e, R, k⟩ := h
  unfold dVar at e
  split at e
  · rename_i x hx
    cases e
    obtain ⟨o, h1, v, e1, q⟩ := R.slot i _ hx
    subst e1
    exact ⟨v, h1, k v Z H (Step.refl ..) (ES.refl _) R ⟨q, fun n => absurd rfl n⟩⟩
  · rename_i ns hx
    cases e
    obtain ⟨o, h1, a, e1, q⟩ := R.slot i _ hx
    subst e1
    exact ⟨_, h1, k _ Z H (Step.refl ..) (ES.refl _) R ⟨⟨a, rfl, q⟩, fun n => absurd rfl n⟩⟩
  · rename_i m hx
    obtain ⟨x, ex, e⟩ := Option.map_some' e
    cases e
    obtain ⟨a, h1, z, q, ow⟩ := R.mo hx rfl
    obtain ⟨o, ha, q⟩ := q.dat ex
    have q' : Is G (upd Z a o) (.ref a) x := q _ (freeze_zz z) upd_same
    obtain ⟨S, E, R'⟩ := freeze_slot R hx h1 ha q'
    exact ⟨_, h1, k _ _ H S E R' ⟨q', fun n => absurd rfl n⟩⟩
  · cases e
theorem te_c {x : V} {d : Dat} {Q : VK} (hx : ∀ Z, Is G Z x d) (h : tE G (dC d) σ H Q) : tC x σ H Q := by
  obtain ⟨Z, ρ, r, ρ', e, R, k⟩ := h
  cases e
  exact k x Z H (Step.refl ..) (ES.refl _) R ⟨hx Z, fun n => absurd rfl n⟩

/-! ### a new list seen as data -/
def fz : SD → Option SD
  | .own m => m.dat.map SD.d
  | .io _ => none
  | s => some s
def dFz (f : DE) : DE := fun ρ => (f ρ).bind fun p => (fz p.1).map fun s => (s, p.2)
theorem fz_new {H0 : Hp} {s s' : SD} {v : V} (e : fz s = some s') (n : New G H Z1 H1 s v) (S : Step Z ρ σ H Z1 ρ1 σ H1) (E : ES ρ ρ1) (R0 : Rep G Z ρ σ H) (R : Rep G Z1 ρ1 σ H1) :
    ∃ Z2, Step Z ρ σ H Z2 ρ1 σ H1 ∧ Rep G Z2 ρ1 σ H1 ∧ New G H Z2 H1 s' v ∧ Same Z1 Z2 ∧ s'.kd = 0 := by
  cases s with
  | no => cases e; exact ⟨Z1, S, R, n, Same.refl _, rfl⟩
  | d x => cases e; exact ⟨Z1, S, R, n, Same.refl _, rfl⟩
  | scr x => cases e; exact ⟨Z1, S, R, n, Same.refl _, rfl⟩
  | io m => cases e
  | own m =>
    obtain ⟨x, ex, e⟩ := Option.map_some' e
    subst e
    obtain ⟨a, rfl, z, q⟩ := n.ok
    obtain ⟨o, ha, q⟩ := q.dat ex
    have hn : H a = none := n.nw (by simp [SD.kd]) a rfl
    have q' : Is G (upd Z1 a o) (.ref a) x := q _ (freeze_zz z) upd_same
    refine ⟨upd Z1 a o, ⟨S.zz.trans (freeze_zz z), S.fr, fun b h1 h2 h3 => ?_, S.dom, S.ow, S.owl⟩, ?_, ⟨q', fun n => absurd rfl n⟩, freeze_zz z, rfl⟩
    · rw [upd_ne (show b ≠ a from fun e => h1 (by rw [e]; exact hn))]
      exact S.fz b h1 h2 h3
    · refine ⟨freeze_zh R.same ha, R.len, fun j t e => ?_, R.dis⟩
      obtain ⟨u, h1, h2⟩ := R.slot j t e
      refine ⟨u, h1, ?_⟩
      have far : ∀ c, t.kd ≠ 0 → σ[j]? = some (some (.ref c)) → c ≠ a := fun c nk e1 e2 => by
        subst e2
        exact R0.there (E.own (σ := σ) ⟨j, by unfold kdAt; rw [e]; exact nk, e1⟩) hn
      cases t with
      | no => trivial
      | d y => obtain ⟨v, e1, k⟩ := h2; exact ⟨v, e1, k.mono (freeze_zz z)⟩
      | scr ns => obtain ⟨c, e1, k⟩ := h2; exact ⟨c, e1, (freeze_zz z).seq k⟩
      | own x =>
        obtain ⟨c, e1, zc, k⟩ := h2
        subst e1
        refine ⟨c, rfl, ?_, k.mono (freeze_zz z) fun _ e => e⟩
        rw [upd_ne (far c (by simp [SD.kd]) h1)]; exact zc
      | io x =>
        obtain ⟨e1, zc, k⟩ := h2
        subst e1
        refine ⟨rfl, ?_, k.mono (freeze_zz z) fun _ e => e⟩
        rw [upd_ne (far _ (by simp [SD.kd]) h1)]; exact zc
theorem te_fz {f : DE} {Q : VK} (h : tE G (dFz f) σ H Q) : tE G f σ H Q := by
  obtain ⟨Z, ρ, r, ρ', e, R, k⟩ := h
  unfold dFz at e
  cases q : f ρ with
  | none => rw [q] at e; cases e
  | some p =>
    obtain ⟨s, ρ1⟩ := p
    rw [q] at e
    cases w : fz s with
    | none => simp [w] at e
    | some s' =>
      simp [w] at e
      obtain ⟨e1, e2⟩ := e
      subst e1 e2
      refine ⟨Z, ρ, s, ρ1, q, R, fun v Z' H' S E R' n => ?_⟩
      obtain ⟨Z2, S2, R2, n2, _, _⟩ := fz_new (H0 := H) w n S E R R'
      exact k v Z2 H' S2 E R2 n2

/-! ### operations on values -/
/-- a one-, a two-place operation on values and its data -/
def VOp1 (G : Gd) (r : V → Hp → VK → Prop) (g : SD → Option SD) : Prop := ∀ (Z H : Hp) (x : V) (a d : SD) (Q : VK), g a = some d → Same Z H → ValOk G Z H a x → (∀ v Z' H', Ext Z H Z' H' → New G H Z' H' d v → Q v H') → r x H Q
def VOp2 (G : Gd) (r : R2) (g : SD → SD → Option SD) : Prop := ∀ (Z H : Hp) (x y : V) (a b d : SD) (Q : VK), g a b = some d → Same Z H → ValOk G Z H a x → ValOk G Z H b y → (∀ v Z' H', Ext Z H Z' H' → New G H Z' H' d v → Q v H') → r x y H Q
def VOpL (G : Gd) (r : List V → Hp → VK → Prop) (g : List SD → Option SD) : Prop := ∀ (Z H : Hp) (xs : List V) (as : List SD) (d : SD) (Q : VK), g as = some d → Same Z H → ArgsOk G Z H as xs → (∀ v Z' H', Ext Z H Z' H' → New G H Z' H' d v → Q v H') → r xs H Q

def dUn (g : SD → Option SD) (f : DE) : DE := fun ρ => (f ρ).bind fun p => (g p.1).map fun s => (s, p.2)
def dBin (g : SD → SD → Option SD) (f h : DE) : DE := fun ρ => (f ρ).bind fun p => (h p.2).bind fun q => (g p.1 q.1).map fun s => (s, q.2)
theorem New.own_ne {H0 : Hp} {s : SD} {v : V} (n : New G H0 Z1 H1 s v) (E : ES ρ ρ1) (R : Rep G Z ρ σ H0) : s.kd ≠ 0 → ∀ a, v = .ref a → ¬ Own ρ1 σ a := fun k a e o => R.there (E.own o) (n.nw k a e)
theorem te_un {r : V → Hp → VK → Prop} {g : SD → Option SD} {f : DE} {Q : VK} (op : VOp1 G r g) (h : tE G (dUn g f) σ H Q) : tE G f σ H (fun x H1 => r x H1 Q) := by
  obtain ⟨Z, ρ, d, ρ', e, R, k⟩ := h
  obtain ⟨⟨a, ρ1⟩, ea, e⟩ := Option.bind_some' e
  obtain ⟨d', ed, e⟩ := Option.map_some' e
  cases e
  refine ⟨Z, ρ, a, ρ1, ea, R, fun x Z1 H1 S1 E1 R1 n1 => ?_⟩
  refine op Z1 H1 x a d Q ed R1.same n1.ok fun v Z2 H2 X n2 => ?_
  exact k v Z2 H2 (S1.ext X) E1 (X.rep R1) (n2.back S1)
theorem te_bin {r : R2} {g : SD → SD → Option SD} {f h : DE} {Q : VK} (op : VOp2 G r g) (h0 : tE G (dBin g f h) σ H Q) : tOp r (tE G f) (tE G h) σ H Q := by
  obtain ⟨Z, ρ, d, ρ', e, R, k⟩ := h0
  obtain ⟨⟨a, ρ1⟩, ea, e⟩ := Option.bind_some' e
  obtain ⟨⟨b, ρ2⟩, eb, e⟩ := Option.bind_some' e
  obtain ⟨d', ed, e⟩ := Option.map_some' e
  cases e
  refine ⟨Z, ρ, a, ρ1, ea, R, fun x Z1 H1 S1 E1 R1 n1 => ?_⟩
  refine ⟨Z1, ρ1, b, ρ2, eb, R1, fun y Z2 H2 S2 E2 R2 n2 => ?_⟩
  refine op Z2 H2 x y a b d Q ed R2.same (n1.step S2 E1 R).ok n2.ok fun v Z3 H3 X n3 => ?_
  exact k v Z3 H3 ((S1.trans S2).ext X) (E1.trans E2) (X.rep R2) (n3.back (S1.trans S2))

/-! ### arguments, displays, calls of what is built in -/
def dNil : DA := fun ρ => some ([], ρ)
def dCons (f : DE) (h : DA) : DA := fun ρ => (f ρ).bind fun p => (fz p.1).bind fun s => (h p.2).map fun q => (s :: q.1, q.2)
theorem ta_nil {Q : List V → Hp → Prop} (h : tA G dNil σ H Q) : tNil σ H Q := by
  obtain ⟨Z, ρ, d, ρ', e, R, k⟩ := h
  cases e
  exact k [] Z H (Step.refl ..) (ES.refl _) R .nil
theorem ta_cons {f : DE} {h : DA} {Q : List V → Hp → Prop} (h0 : tA G (dCons f h) σ H Q) : tCons (tE G f) (tA G h) σ H Q := by
  obtain ⟨Z, ρ, d, ρ', e, R, k⟩ := h0
  obtain ⟨⟨a, ρ1⟩, ea, e⟩ := Option.bind_some' e
  obtain ⟨a', ef, e⟩ := Option.bind_some' e
  obtain ⟨⟨b, ρ2⟩, eb, e⟩ := Option.map_some' e
  cases e
  refine ⟨Z, ρ, a, ρ1, ea, R, fun x Z1 H1 S1 E1 R1 n1 => ?_⟩
  obtain ⟨Z2, S2, R2, n2, _, k0⟩ := fz_new (H0 := H) ef n1 S1 E1 R R1
  refine ⟨Z2, ρ1, b, ρ2, eb, R2, fun ys Z3 H3 S3 E3 R3 n3 => ?_⟩
  exact k (x :: ys) Z3 H3 (S2.trans S3) (E1.trans E3) R3 (.cons (n2.step S3 E1 R).ok k0 n3)
def dCB (g : List SD → Option SD) (f : DA) : DE := fun ρ => (f ρ).bind fun p => (g p.1).map fun s => (s, p.2)
theorem te_cb {r : List V → Hp → VK → Prop} {g : List SD → Option SD} {f : DA} {Q : VK} (op : VOpL G r g) (h : tE G (dCB g f) σ H Q) : tCB r (tA G f) σ H Q := by
  obtain ⟨Z, ρ, d, ρ', e, R, k⟩ := h
  obtain ⟨⟨a, ρ1⟩, ea, e⟩ := Option.bind_some' e
  obtain ⟨d', ed, e⟩ := Option.map_some' e
  cases e
  refine ⟨Z, ρ, a, ρ1, ea, R, fun xs Z1 H1 S1 E1 R1 n1 => ?_⟩
  refine op Z1 H1 xs a d Q ed R1.same n1 fun v Z2 H2 X n2 => ?_
  exact k v Z2 H2 (S1.ext X) E1 (X.rep R1) (n2.back S1)
/-- data of arguments -/
def dats : List SD → Option (List Dat)
  | [] => some []
  | .d x :: r => (dats r).map (x :: ·)
  | _ => none
theorem args_dats : ∀ {as : List SD} {vs : List V} {ds : List Dat}, dats as = some ds → ArgsOk G Z H as vs → IsAll G Z vs ds
  | [], _, _, e, .nil => by cases e; exact .nil
  | .d x :: r, _, _, e, .cons h k q => by
    obtain ⟨ds, e1, e2⟩ := Option.map_some' e
    cases e2
    exact .cons h (args_dats e1 q)
  | .no :: r, _, _, e, .cons h k q => by cases e
  | .scr _ :: r, _, _, e, .cons h k q => by cases e
  | .own _ :: r, _, _, e, .cons h k q => by cases e
  | .io _ :: r, _, _, e, .cons h k q => by cases e
def dTup (f : DA) : DE := fun ρ => (f ρ).bind fun p => (dats p.1).bind fun ds => if ds.length ≤ 1000 then some (.d (.tup ds), p.2) else none
def dLst (f : DA) : DE := fun ρ => (f ρ).bind fun p => (dats p.1).bind fun ds => if ds.length ≤ 1000 then some (.own (.lst ds), p.2) else none
theorem New.tup {p : Addr} {vs : List V} {ds : List Dat} (h : Same Z H) (q : IsAll G Z vs ds) (hp : H p = none) : Ext Z H (upd Z p (.tup vs)) (upd H p (.tup vs)) ∧ New G H (upd Z p (.tup vs)) (upd H p (.tup vs)) (.d (.tup ds)) (.ref p) := by
  have X : Ext Z H (upd Z p (.tup vs)) (upd H p (.tup vs)) := Ext.newZ h hp
  exact ⟨X, Is.tup (.of upd_same) (q.mono X.zz), fun n => absurd rfl n⟩
theorem New.lst {p : Addr} {vs : List V} {ds : List Dat} (h : Same Z H) (q : IsAll G Z vs ds) (hp : H p = none) : Ext Z H Z (upd H p (.lst vs)) ∧ New G H Z (upd H p (.lst vs)) (.own (.lst ds)) (.ref p) := by
  have X : Ext Z H Z (upd H p (.lst vs)) := Ext.new h hp
  exact ⟨X, ⟨p, rfl, same_off h hp, vs, upd_same, q⟩, fun _ a e => by cases e; exact hp⟩
theorem le_line {n : Nat} (h : n ≤ 100000) : n ≤ sizeLine := Nat.le_trans h (by decide)
theorem lt_line {n : Nat} (h : n < 100000) : n < sizeLine := Nat.lt_of_lt_of_le h (by decide)
theorem te_tup {f : DA} {Q : VK} (h : tE G (dTup f) σ H Q) : tTup (tA G f) σ H Q := by
  obtain ⟨Z, ρ, d, ρ', e, R, k⟩ := h
  obtain ⟨⟨a, ρ1⟩, ea, e⟩ := Option.bind_some' e
  obtain ⟨ds, ed, e⟩ := Option.bind_some' e
  by_cases hl : ds.length ≤ 1000
  · rw [if_pos hl] at e
    cases e
    refine ⟨Z, ρ, a, ρ1, ea, R, fun xs Z1 H1 S1 E1 R1 n1 => ?_⟩
    have q := args_dats ed n1
    refine ⟨le_line (by rw [q.len]; omega), fun p hp => ?_⟩
    obtain ⟨X, n⟩ := New.tup R1.same q hp
    exact k _ _ _ (S1.ext X) E1 (X.rep R1) (n.back S1)
  · rw [if_neg hl] at e; cases e
theorem te_lst {f : DA} {Q : VK} (h : tE G (dLst f) σ H Q) : tLst (tA G f) σ H Q := by
  obtain ⟨Z, ρ, d, ρ', e, R, k⟩ := h
  obtain ⟨⟨a, ρ1⟩, ea, e⟩ := Option.bind_some' e
  obtain ⟨ds, ed, e⟩ := Option.bind_some' e
  by_cases hl : ds.length ≤ 1000
  · rw [if_pos hl] at e
    cases e
    refine ⟨Z, ρ, a, ρ1, ea, R, fun xs Z1 H1 S1 E1 R1 n1 => ?_⟩
    have q := args_dats ed n1
    refine ⟨le_line (by rw [q.len]; omega), fun p hp => ?_⟩
    obtain ⟨X, n⟩ := New.lst R1.same q hp
    exact k _ _ _ (S1.ext X) E1 (X.rep R1) (n.back S1)
  · rw [if_neg hl] at e; cases e
end
end DP

set_option Elab.async false
set_option linter.all false
set_option maxRecDepth 100000
set_option maxHeartbeats 2000000
namespace DP
open PySem PySem.Spec PyProof.Rows L2
section
variable {G : Gd} {Z Z' Z0 Z1 Z2 H H' H0 H1 H2 : Hp} {ρ ρ0 ρ1 ρ2 : List SD} {σ σ0 σ1 σ2 : L2.St}

/-- the object of slot i is changed, others may have come -/
theorem mut_slotX {i : Nat} {a : Addr} {s : SD} {m m' : MO} (R : Rep G Z ρ σ H) (hi : ρ[i]? = some s) (hm : s.mo = some m) (hs : σ[i]? = some (some (.ref a)))
    (zz : Same Z Z') (zh : Same Z' H') (fr : ∀ b o, b ≠ a → H b = some o → H' b = some o) (fz : ∀ b, b ≠ a → H b ≠ none → Z b = none → Z' b = none) (za : Z' a = none) (q : MoAt G Z' H' a m') :
    Step Z ρ σ H Z' (ρ.set i (s.re m')) σ H' ∧ ES ρ (ρ.set i (s.re m')) ∧ Rep G Z' (ρ.set i (s.re m')) σ H' := by
  obtain ⟨hk, hn⟩ := SD.mo_kd (m' := m') hm
  have ki : kdAt ρ i = s.kd := by unfold kdAt; rw [hi]; rfl
  have oa : Own ρ σ a := ⟨i, by omega, hs⟩
  have hl : i < ρ.length := (List.getElem?_eq_some_iff.mp hi).1
  have es : ES ρ (ρ.set i (s.re m')) := ⟨List.length_set, fun j n => by
    rw [kdAt_set]
    by_cases e : i = j
    · rw [if_pos e, if_pos (e ▸ hl), ← e, ki, hk]
    · rw [if_neg e]⟩
  refine ⟨⟨zz, fun b u e no => fr b u (fun e => no (e ▸ oa)) e, fun b n z no => fz b (fun e => no (e ▸ oa)) n z, fun b e => ?_, fun b o => .inl (es.own o), fun b o => .inl (es.ownL o)⟩, es, zh, by rw [List.length_set]; exact R.len, fun j t e => ?_, fun j k b ne nj nk e1 => ?_⟩
  · by_cases c : b = a
    · rw [c]; exact q.there
    · cases w : H b with
      | none => exact absurd w e
      | some o => rw [fr b o c w]; exact fun z => nomatch z
  · rw [List.getElem?_set] at e
    by_cases ij : i = j
    · rw [if_pos ij, if_pos (ij ▸ hl)] at e
      cases e
      subst ij
      refine ⟨_, hs, ?_⟩
      cases s with
      | own x => exact ⟨a, rfl, za, q⟩
      | io x =>
        obtain ⟨u, h1, h2⟩ := R.slot i _ hi
        obtain ⟨e2, _, _⟩ := h2
        rw [hs] at h1
        cases h1
        cases e2
        exact ⟨rfl, za, q⟩
      | no => cases hm
      | d x => cases hm
      | scr x => cases hm
    · rw [if_neg ij] at e
      obtain ⟨u, h1, h2⟩ := R.slot j t e
      refine ⟨u, h1, ?_⟩
      have far : ∀ c, t.kd ≠ 0 → σ[j]? = some (some (.ref c)) → c ≠ a := fun c n e1 e2 => by
        subst e2
        exact R.dis i j c ij (by omega) (by unfold kdAt; rw [e]; exact n) hs e1
      cases t with
      | no => trivial
      | d y => obtain ⟨v, e1, k⟩ := h2; exact ⟨v, e1, k.mono zz⟩
      | scr ns => obtain ⟨c, e1, k⟩ := h2; exact ⟨c, e1, zz.seq k⟩
      | own x =>
        obtain ⟨c, e1, zc, k⟩ := h2
        subst e1
        have fc := far c (by simp [SD.kd]) h1
        exact ⟨c, rfl, fz c fc k.there zc, k.mono zz fun w e => fr c w fc e⟩
      | io x =>
        obtain ⟨e1, zc, k⟩ := h2
        subst e1
        have fc := far _ (by simp [SD.kd]) h1
        exact ⟨rfl, fz _ fc k.there zc, k.mono zz fun w e => fr _ w fc e⟩
  · exact R.dis j k b ne (by rw [es.kd j nj]; exact nj) (by rw [es.kd k nk]; exact nk) e1

/-! ### targets -/
def dgName (i : Nat) : DG := fun s ρ => if i < ρ.length then (match s with
  | .io _ => none
  | s => some (ρ.set i s)) else none
theorem store_slot {i : Nat} {s : SD} {v : V} (S : Step Z0 ρ0 σ0 H0 Z ρ σ H) (R : Rep G Z ρ σ H) (n : New G H0 Z H s v) (no : s.kd ≠ 0 → ∀ a, v = .ref a → ¬ Own ρ σ a) (hl : i < ρ.length) (hio : s.kd ≠ 2) :
    Step Z0 ρ0 σ0 H0 Z (ρ.set i s) (σ.set i (some v)) H ∧ Rep G Z (ρ.set i s) (σ.set i (some v)) H := by
  have hlσ : i < σ.length := by rw [R.len]; exact hl
  have own : ∀ b k, kdAt (ρ.set i s) k ≠ 0 → (σ.set i (some v))[k]? = some (some (.ref b)) → (k = i ∧ s.kd ≠ 0 ∧ v = .ref b) ∨ (k ≠ i ∧ kdAt ρ k ≠ 0 ∧ kdAt (ρ.set i s) k = kdAt ρ k ∧ σ[k]? = some (some (.ref b))) := fun b k h1 h2 => by
    rw [kdAt_set] at h1 ⊢
    rw [List.getElem?_set] at h2
    by_cases e : i = k
    · rw [if_pos e, if_pos (e ▸ hl)] at h1
      rw [if_pos e, if_pos (e ▸ hlσ)] at h2
      exact .inl ⟨e.symm, h1, Option.some.inj (Option.some.inj h2)⟩
    · rw [if_neg e] at h1 h2 ⊢
      exact .inr ⟨fun q => e q.symm, h1, rfl, h2⟩
  refine ⟨⟨S.zz, S.fr, S.fz, S.dom, fun b o => ?_, fun b o => ?_⟩, R.same, by rw [List.length_set, List.length_set]; exact R.len, fun j t e => ?_, fun j k b ne nj nk e1 e2 => ?_⟩
  · obtain ⟨k, h1, h2⟩ := o
    rcases own b k h1 h2 with ⟨_, h3, h4⟩ | ⟨_, h3, _, h4⟩
    · exact .inr (n.nw h3 b h4)
    · exact S.ow b ⟨k, h3, h4⟩
  · obtain ⟨k, h1, h2⟩ := o
    rcases own b k (by omega) h2 with ⟨_, h3, h4⟩ | ⟨_, h3, h5, h4⟩
    · exact .inr (n.nw h3 b h4)
    · exact S.owl b ⟨k, by omega, h4⟩
  · rw [List.getElem?_set] at e
    by_cases ij : i = j
    · rw [if_pos ij, if_pos (ij ▸ hl)] at e
      cases e
      refine ⟨some v, by rw [List.getElem?_set, if_pos ij, if_pos (ij ▸ hlσ)], ?_⟩
      have ok := n.ok
      cases s with
      | no => trivial
      | d x => exact ⟨v, rfl, ok⟩
      | scr ns => obtain ⟨a, e1, q⟩ := ok; exact ⟨a, by rw [e1], q⟩
      | own m => obtain ⟨a, e1, q⟩ := ok; exact ⟨a, by rw [e1], q⟩
      | io m => exact absurd rfl hio
    · rw [if_neg ij] at e
      obtain ⟨u, h1, h2⟩ := R.slot j t e
      exact ⟨u, by rw [List.getElem?_set, if_neg ij]; exact h1, h2⟩
  · rcases own b j nj e1 with ⟨p1, p2, p3⟩ | ⟨p1, p2, _, p4⟩
    · rcases own b k nk e2 with ⟨q1, _, _⟩ | ⟨q1, q2, _, q4⟩
      · exact ne (p1.trans q1.symm)
      · exact no p2 b p3 ⟨k, q2, q4⟩
    · rcases own b k nk e2 with ⟨q1, q2, q3⟩ | ⟨q1, q2, _, q4⟩
      · exact no q2 b q3 ⟨j, p2, p4⟩
      · exact R.dis j k b ne p2 q2 p4 q4
theorem tg_name {i : Nat} {v : V} {Q : L2.St → Hp → Prop} (h : tG G (dgName i) v σ H Q) : gName i v σ H Q := by
  obtain ⟨Z0, ρ0, σ0, H0, Z, ρ, s, ρ', e, S, R, n, no, k⟩ := h
  unfold dgName at e
  by_cases hl : i < ρ.length
  · rw [if_pos hl] at e
    have hh : s.kd ≠ 2 ∧ ρ.set i s = ρ' := by
      cases s with
      | io m => cases e
      | no => cases e; exact ⟨by simp [SD.kd], rfl⟩
      | d x => cases e; exact ⟨by simp [SD.kd], rfl⟩
      | scr x => cases e; exact ⟨by simp [SD.kd], rfl⟩
      | own x => cases e; exact ⟨by simp [SD.kd], rfl⟩
    obtain ⟨h2, e2⟩ := hh
    subst e2
    obtain ⟨S', R'⟩ := store_slot S R n no hl h2
    exact k _ _ _ S' (Same.refl _) R'
  · rw [if_neg hl] at e; cases e
def dgNil : DGs := fun ss ρ => match ss with
  | [] => some ρ
  | _ => none
def dgCons (f : DG) (h : DGs) : DGs := fun ss ρ => match ss with
  | s :: r => (f s ρ).bind fun ρ1 => h r ρ1
  | [] => none
theorem tgs_nil {vs : List V} {Q : L2.St → Hp → Prop} (h : tGs G dgNil vs σ H Q) : gNil vs σ H Q := by
  obtain ⟨Z0, ρ0, σ0, H0, Z, ρ, ss, ρ', e, S, R, n, k⟩ := h
  cases n with
  | nil => cases e; exact ⟨rfl, k _ _ _ S (Same.refl _) R⟩
  | cons _ _ _ => cases e
theorem tgs_cons {f : DG} {g : DGs} {vs : List V} {Q : L2.St → Hp → Prop} (h : tGs G (dgCons f g) vs σ H Q) : gCons (tG G f) (tGs G g) vs σ H Q := by
  obtain ⟨Z0, ρ0, σ0, H0, Z, ρ, ss, ρ', e, S, R, n, k⟩ := h
  cases n with
  | nil => cases e
  | @cons s v ss vs h1 h2 h3 =>
    obtain ⟨ρ1, e1, e2⟩ := Option.bind_some' e
    refine ⟨v, vs, rfl, Z0, ρ0, σ0, H0, Z, ρ, s, ρ1, e1, S, R, ⟨h1, fun z => absurd h2 z⟩, fun z => absurd h2 z, fun σ1 Z1 H1 S1 X1 R1 => ?_⟩
    exact ⟨Z0, ρ0, σ0, H0, Z1, ρ1, ss, ρ', e2, S1, R1, h3.same X1, fun σ2 Z2 H2 S2 X2 R2 => k _ _ _ S2 (X1.trans X2) R2⟩
def dgTup (n : Nat) (h : DGs) : DG := fun s ρ => match s with
  | .d (.tup ds) => if ds.length = n then h (ds.map SD.d) ρ else none
  | _ => none
theorem IsAll.args : ∀ {vs : List V} {ds : List Dat}, IsAll G Z vs ds → ArgsOk G Z H (ds.map SD.d) vs
  | _, _, .nil => .nil
  | _, _, .cons h k => .cons h rfl (IsAll.args k)
theorem tg_tup {n : Nat} {h : DGs} {v : V} {Q : L2.St → Hp → Prop} (h0 : tG G (dgTup n h) v σ H Q) : gTup G.K n (tGs G h) v σ H Q := by
  obtain ⟨Z0, ρ0, σ0, H0, Z, ρ, s, ρ', e, S, R, nw, no, k⟩ := h0
  unfold dgTup at e
  split at e
  · rename_i ds
    by_cases hl : ds.length = n
    · rw [if_pos hl] at e
      cases nw.ok with
      | tup h1 h2 =>
        refine ⟨_, _, rfl, same_t R.same h1, by rw [h2.len]; exact hl, ?_⟩
        exact ⟨Z0, ρ0, σ0, H0, Z, ρ, _, ρ', e, S, R, h2.args, k⟩
    · rw [if_neg hl] at e; cases e
  · cases e

/-- o[i] = v of a list or a dict, by values -/
theorem set_or {X : Cx} {t u : TSet} (h : PSet X t) (k : PSet X u) : PSet X (fun o i v H Q => t o i v H Q ∨ u o i v H Q) := by
  intro pins s σ H o i v ov iv uv Q I ro ri rv q
  rcases q with q | q
  · exact h pins s σ H o i v ov iv uv Q I ro ri rv q
  · exact k pins s σ H o i v ov iv uv Q I ro ri rv q
def keyD : Dat → Option Key
  | .int i => some (.inl i)
  | .str x => some (.inr x)
  | _ => none
theorem keyD_is {d : Dat} {k : Key} {v : V} (e : keyD d = some k) (h : Is G Z v d) : v = kV k := by
  cases h <;> cases e <;> rfl
def valD (kvs : List (Key × Dat)) (k : Key) : Option Dat := (kvs.find? fun kv => decide (kv.1 = k)).map (·.2)
def putD (kvs : List (Key × Dat)) (k : Key) (v : Dat) : List (Key × Dat) :=
  if (kvs.any fun kv => decide (kv.1 = k)) = true then kvs.map (fun kv => if kv.1 = k then (kv.1, v) else kv) else kvs ++ [(k, v)]
theorem valD_ok : ∀ {ws : List (Key × V)} {kvs : List (Key × Dat)} (k : Key), ws.map (·.1) = kvs.map (·.1) → IsAll G Z (ws.map (·.2)) (kvs.map (·.2)) →
    (∀ d, valD kvs k = some d → ∃ v, valV ws k = some v ∧ Is G Z v d) ∧ (valD kvs k = none → valV ws k = none)
  | [], [], k, _, _ => ⟨fun d e => (by cases e), fun _ => rfl⟩
  | [], _ :: _, _, e, _ => by cases e
  | _ :: _, [], _, e, _ => by cases e
  | (k1, w) :: ws, (k2, d) :: kvs, k, e, .cons h q => by
    obtain ⟨e1, e2⟩ := List.cons.inj e
    have e1 : k1 = k2 := e1
    obtain ⟨r1, r2⟩ := valD_ok (ws := ws) (kvs := kvs) k e2 q
    unfold valD valV at r1 r2 ⊢
    rw [List.find?_cons, List.find?_cons]
    subst e1
    by_cases c : k1 = k
    · rw [decide_eq_true c]
      exact ⟨fun d' e => by cases e; exact ⟨w, rfl, h⟩, fun e => by cases e⟩
    · rw [decide_eq_false c]
      exact ⟨r1, r2⟩
theorem putD_any : ∀ {ws : List (Key × V)} {kvs : List (Key × Dat)} (k : Key), ws.map (·.1) = kvs.map (·.1) → (ws.any fun kv => decide (kv.1 = k)) = (kvs.any fun kv => decide (kv.1 = k))
  | [], [], k, _ => rfl
  | [], _ :: _, _, e => by cases e
  | _ :: _, [], _, e => by cases e
  | (k1, w) :: ws, (k2, d) :: kvs, k, e => by
    obtain ⟨e1, e2⟩ := List.cons.inj e
    have e1 : k1 = k2 := e1
    rw [List.any_cons, List.any_cons, putD_any k e2, e1]
theorem putD_map {v : V} {x : Dat} (hx : Is G Z v x) : ∀ {ws : List (Key × V)} {kvs : List (Key × Dat)} (k : Key), ws.map (·.1) = kvs.map (·.1) → IsAll G Z (ws.map (·.2)) (kvs.map (·.2)) →
    (ws.map fun kv => if kv.1 = k then (kv.1, v) else kv).map (·.1) = (kvs.map fun kv => if kv.1 = k then (kv.1, x) else kv).map (·.1) ∧ IsAll G Z ((ws.map fun kv => if kv.1 = k then (kv.1, v) else kv).map (·.2)) ((kvs.map fun kv => if kv.1 = k then (kv.1, x) else kv).map (·.2))
  | [], [], k, _, _ => ⟨rfl, .nil⟩
  | [], _ :: _, _, e, _ => by cases e
  | _ :: _, [], _, e, _ => by cases e
  | (k1, w) :: ws, (k2, d) :: kvs, k, e, .cons h q => by
    obtain ⟨e1, e2⟩ := List.cons.inj e
    have e1 : k1 = k2 := e1
    obtain ⟨r1, r2⟩ := putD_map hx k e2 q
    subst e1
    simp only [List.map_cons]
    by_cases c : k1 = k
    · rw [if_pos c, if_pos c]
      exact ⟨by rw [r1], .cons hx r2⟩
    · rw [if_neg c, if_neg c]
      exact ⟨by rw [r1], .cons h r2⟩
theorem putD_ok {v : V} {x : Dat} (hx : Is G Z v x) {ws : List (Key × V)} {kvs : List (Key × Dat)} (k : Key) (e : ws.map (·.1) = kvs.map (·.1)) (q : IsAll G Z (ws.map (·.2)) (kvs.map (·.2))) :
    (putK ws k v).map (·.1) = (putD kvs k x).map (·.1) ∧ IsAll G Z ((putK ws k v).map (·.2)) ((putD kvs k x).map (·.2)) := by
  unfold putK putD
  rw [putD_any k e]
  split
  · exact putD_map hx k e q
  · rw [List.map_append, List.map_append, List.map_append, List.map_append, e]
    exact ⟨rfl, q.app (.one hx)⟩

/-- name[e] = v -/
def dgSub (i : Nat) (f : DE) : DG := fun s ρ => match s with
  | .d x => (match ρ[i]? with
    | none => none
    | some .no => none
    | some _ => (f ρ).bind fun p => match p.1, p.2[i]? with
      | .d k, some sl => (match sl.mo with
        | some (.lst xs) => (match k with
          | .int k => (ixN xs.length k).map fun j => p.2.set i (sl.re (.lst (xs.set j x)))
          | _ => none)
        | some (.dic kvs) => (keyD k).bind fun k => if kvs.length < 1000 then some (p.2.set i (sl.re (.dic (putD kvs k x)))) else none
        | _ => none)
      | _, _ => none)
  | _ => none
def rSetLD : TSet := fun o i v H Q => rSetL o i v H Q ∨ rSetD o i v H Q
theorem Rep.val (R : Rep G Z ρ σ H) {i : Nat} {s : SD} (h : ρ[i]? = some s) (n : s ≠ .no) : ∃ v, σ[i]? = some (some v) ∧ ValOk G Z H s v := by
  obtain ⟨o, h1, h2⟩ := R.slot i s h
  cases s with
  | no => exact absurd rfl n
  | d x => obtain ⟨v, e, q⟩ := h2; subst e; exact ⟨v, h1, q⟩
  | scr ns => obtain ⟨a, e, q⟩ := h2; subst e; exact ⟨_, h1, a, rfl, q⟩
  | own m => obtain ⟨a, e, q⟩ := h2; subst e; exact ⟨_, h1, a, rfl, q⟩
  | io m => obtain ⟨e, q⟩ := h2; subst e; exact ⟨_, h1, _, rfl, q⟩
theorem tg_sub {i : Nat} {f : DE} {v : V} {Q : L2.St → Hp → Prop} (h : tG G (dgSub i f) v σ H Q) : gSub (tVar i) (tE G f) rSetLD v σ H Q := by
  obtain ⟨Z0, ρ0, σ0, H0, Z, ρ, s, ρ', e, S, R, nw, no, k⟩ := h
  unfold dgSub at e
  split at e
  · rename_i x
    have there : ∃ v0, σ[i]? = some (some v0) := by
      split at e
      · cases e
      · cases e
      · rename_i s0 hn h0
        obtain ⟨w, h1, _⟩ := R.val h0 (fun z => hn z)
        exact ⟨w, h1⟩
    obtain ⟨v0, hv0⟩ := there
    have e : ((f ρ).bind fun p => match p.1, p.2[i]? with
      | .d k, some sl => (match sl.mo with
        | some (.lst xs) => (match k with
          | .int k => (ixN xs.length k).map fun j => p.2.set i (sl.re (.lst (xs.set j x)))
          | _ => none)
        | some (.dic kvs) => (keyD k).bind fun k => if kvs.length < 1000 then some (p.2.set i (sl.re (.dic (putD kvs k x)))) else none
        | _ => none)
      | _, _ => none) = some ρ' := by
      split at e
      · cases e
      · cases e
      · exact e
    obtain ⟨⟨b, ρ1⟩, eb, e⟩ := Option.bind_some' e
    refine ⟨v0, hv0, Z, ρ, b, ρ1, eb, R, fun y Z1 H1 S1 E1 R1 n1 => ?_⟩
    split at e
    · rename_i kd sl hk hs
      have hs : ρ1[i]? = some sl := hs
      have hk : b = .d kd := hk
      subst hk
      have vx : Is G Z1 v x := Is.mono S1.zz nw.ok
      split at e
      · rename_i xs hm
        split at e
        · rename_i kk
          obtain ⟨j, ej, e⟩ := Option.map_some' e
          subst e
          obtain ⟨a, h1, z, ⟨vs, ha, q⟩, o⟩ := R1.mo hs hm
          rw [hv0] at h1
          cases h1
          have yk : y = .int kk := by cases n1.ok; rfl
          subst yk
          refine .inl ⟨a, vs, kk, j, rfl, rfl, ha, by rw [q.len]; exact ej, ?_⟩
          obtain ⟨S2, E2, R2⟩ := mut_slotX (Z' := Z1) (H' := upd H1 a (.lst (vs.set j v))) (m' := .lst (xs.set j x)) R1 hs hm hv0 (Same.refl _) (fun b u e => by rw [upd_ne (ne_of_none e z)]; exact R1.same b u e)
            (fun b u ne e => by rw [upd_ne ne]; exact e) (fun b _ _ e => e) z ⟨_, upd_same, q.st vx j⟩
          exact k _ _ _ (S.trans (S1.trans S2)) S1.zz R2
        · cases e
      · rename_i kvs hm
        obtain ⟨kk, ek, e⟩ := Option.bind_some' e
        by_cases hl : kvs.length < 1000
        · rw [if_pos hl] at e
          cases e
          obtain ⟨a, h1, z, ⟨ws, ha, q1, q2⟩, o⟩ := R1.mo hs hm
          rw [hv0] at h1
          cases h1
          have yk : y = kV kk := keyD_is ek n1.ok
          subst yk
          have hw : ws.length = kvs.length := by have := congrArg List.length q1; simpa using this
          obtain ⟨p1, p2⟩ := putD_ok vx kk q1 q2
          refine .inr ⟨a, _, rfl, DPut.k ha (lt_line (by omega)), ?_⟩
          obtain ⟨S2, E2, R2⟩ := mut_slotX (Z' := Z1) (H' := upd H1 a (.dK (putK ws kk v))) (m' := .dic (putD kvs kk x)) R1 hs hm hv0 (Same.refl _) (fun b u e => by rw [upd_ne (ne_of_none e z)]; exact R1.same b u e)
            (fun b u ne e => by rw [upd_ne ne]; exact e) (fun b _ _ e => e) z ⟨_, upd_same, p1, p2⟩
          exact k _ _ _ (S.trans (S1.trans S2)) S1.zz R2
        · rw [if_neg hl] at e; cases e
      · cases e
    · cases e
  · cases e
end
end DP

set_option Elab.async false
set_option linter.all false
set_option maxRecDepth 100000
set_option maxHeartbeats 2000000
namespace DP
open PySem PySem.Spec PyProof.Rows L2
section
variable {G : Gd} {Z Z' Z0 Z1 Z2 H H' H0 H1 H2 : Hp} {ρ ρ0 ρ1 ρ2 : List SD} {σ σ0 σ1 σ2 : L2.St} {D : Ends}

/-! ### statements -/
def dNext : DS := fun ρ => some (.nx, ρ)
def dSeq (a b : DS) : DS := fun ρ => (a ρ).bind fun p => match p.1 with
  | .nx => b p.2
  | fl => some (fl, p.2)
def dAsg (f : DE) (g : DG) : DS := fun ρ => (f ρ).bind fun p => (g p.1 p.2).map fun ρ' => (.nx, ρ')
def dDrop (f : DE) : DS := fun ρ => (f ρ).map fun p => (.nx, p.2)
def dRet (f : DE) : DS := fun ρ => (f ρ).map fun p => (.ret p.1, p.2)
def dRetV (i : Nat) : DS := fun ρ => match ρ[i]? with
  | some (.d x) => some (.ret (.d x), ρ)
  | some (.scr x) => some (.ret (.scr x), ρ)
  | some (.own m) => some (.ret (.own m), ρ)
  | _ => none
def dRetN : DS := fun ρ => some (.ret (.d .non), ρ)
def dIfS (c : DT) (a b : DS) : DS := fun ρ => (c ρ).bind fun p => if p.1 = true then a p.2 else b p.2
def dBreak : DS := fun ρ => some (.bk, ρ)
def dCont : DS := fun ρ => some (.ct, ρ)
def dNever : DS := fun _ => none
theorem ts_next (h : tS G dNext D σ H) : tNext D σ H := by
  obtain ⟨Z, ρ, fl, ρ', e, R, k⟩ := h
  cases e
  exact k σ Z H (Step.refl ..) R
theorem ts_break (h : tS G dBreak D σ H) : tBreak D σ H := by
  obtain ⟨Z, ρ, fl, ρ', e, R, k⟩ := h
  cases e
  exact k σ Z H (Step.refl ..) R
theorem ts_cont (h : tS G dCont D σ H) : tCont D σ H := by
  obtain ⟨Z, ρ, fl, ρ', e, R, k⟩ := h
  cases e
  exact k σ Z H (Step.refl ..) R
theorem ts_never (h : tS G dNever D σ H) : tNever D σ H := by
  obtain ⟨Z, ρ, fl, ρ', e, R, k⟩ := h
  cases e
/-- what holds at the end of the rest holds at the end of the whole -/
theorem EndOk.after {fl : FD} (S : Step Z ρ σ H Z1 ρ1 σ1 H1) (k : EndOk G D Z ρ σ H fl ρ2) : EndOk G D Z1 ρ1 σ1 H1 fl ρ2 := by
  cases fl with
  | nx => exact fun σ' Z' H' S' R' => k σ' Z' H' (S.trans S') R'
  | bk => exact fun σ' Z' H' S' R' => k σ' Z' H' (S.trans S') R'
  | ct => exact fun σ' Z' H' S' R' => k σ' Z' H' (S.trans S') R'
  | ret r =>
    refine fun v σ' Z' H' S' R' ok w => k v σ' Z' H' (S.trans S') R' ok fun n a e => ?_
    rcases w n a e with q | q
    · exact S.owl a q
    · exact .inr (S.back q)
theorem ts_seq {a b : DS} (h : tS G (dSeq a b) D σ H) : tSeq (tS G a) (tS G b) D σ H := by
  obtain ⟨Z, ρ, fl, ρ', e, R, k⟩ := h
  obtain ⟨⟨fa, ρ1⟩, ea, e⟩ := Option.bind_some' e
  cases fa with
  | nx =>
    have e : b ρ1 = some (fl, ρ') := e
    exact ⟨Z, ρ, .nx, ρ1, ea, R, fun σ1 Z1 H1 S1 R1 => ⟨Z1, ρ1, fl, ρ', e, R1, k.after S1⟩⟩
  | bk => cases e; exact ⟨Z, ρ, .bk, ρ1, ea, R, k⟩
  | ct => cases e; exact ⟨Z, ρ, .ct, ρ1, ea, R, k⟩
  | ret r => cases e; exact ⟨Z, ρ, .ret r, ρ1, ea, R, k⟩
theorem ts_asg {f : DE} {g : DG} (h : tS G (dAsg f g) D σ H) : tAsg (tE G f) (tG G g) D σ H := by
  obtain ⟨Z, ρ, fl, ρ', e, R, k⟩ := h
  obtain ⟨⟨s, ρ1⟩, ea, e⟩ := Option.bind_some' e
  obtain ⟨ρ2, eg, e⟩ := Option.map_some' e
  cases e
  refine ⟨Z, ρ, s, ρ1, ea, R, fun v Z1 H1 S1 E1 R1 n1 => ?_⟩
  exact ⟨Z, ρ, σ, H, Z1, ρ1, s, _, eg, S1, R1, n1, n1.own_ne E1 R, fun σ' Z' H' S' _ R' => k σ' Z' H' S' R'⟩
theorem ts_drop {f : DE} (h : tS G (dDrop f) D σ H) : tDrop (tE G f) D σ H := by
  obtain ⟨Z, ρ, fl, ρ', e, R, k⟩ := h
  obtain ⟨⟨s, ρ1⟩, ea, e⟩ := Option.map_some' e
  cases e
  exact ⟨Z, ρ, s, ρ1, ea, R, fun v Z1 H1 S1 E1 R1 n1 => k σ Z1 H1 S1 R1⟩
theorem ts_ret {f : DE} (h : tS G (dRet f) D σ H) : tRet (tE G f) D σ H := by
  obtain ⟨Z, ρ, fl, ρ', e, R, k⟩ := h
  obtain ⟨⟨s, ρ1⟩, ea, e⟩ := Option.map_some' e
  cases e
  exact ⟨Z, ρ, s, ρ1, ea, R, fun v Z1 H1 S1 E1 R1 n1 => k v σ Z1 H1 S1 R1 n1.ok fun n a e => .inr (n1.nw n a e)⟩
theorem ts_retV {i : Nat} (h : tS G (dRetV i) D σ H) : tRet (tVar i) D σ H := by
  obtain ⟨Z, ρ, fl, ρ', e, R, k⟩ := h
  unfold dRetV at e
  split at e
  · rename_i x hx
    cases e
    obtain ⟨v, h1, q⟩ := R.val hx (fun z => nomatch z)
    exact ⟨v, h1, k v σ Z H (Step.refl ..) R q fun n => absurd rfl n⟩
  · rename_i x hx
    cases e
    obtain ⟨v, h1, q⟩ := R.val hx (fun z => nomatch z)
    exact ⟨v, h1, k v σ Z H (Step.refl ..) R q fun n => absurd rfl n⟩
  · rename_i m hx
    cases e
    obtain ⟨v, h1, q⟩ := R.val hx (fun z => nomatch z)
    exact ⟨v, h1, k v σ Z H (Step.refl ..) R q fun n a e => .inl ⟨i, by unfold kdAt; rw [hx]; rfl, by rw [h1, e]⟩⟩
  · cases e
theorem ts_retN (h : tS G dRetN D σ H) : tRetN D σ H := by
  obtain ⟨Z, ρ, fl, ρ', e, R, k⟩ := h
  cases e
  exact k .non σ Z H (Step.refl ..) R .non fun n => absurd rfl n
theorem ts_if {c : DT} {a b : DS} (h : tS G (dIfS c a b) D σ H) : tIfS (tT G c) (tS G a) (tS G b) D σ H := by
  obtain ⟨Z, ρ, fl, ρ', e, R, k⟩ := h
  obtain ⟨⟨t, ρ1⟩, ec, e⟩ := Option.bind_some' e
  refine ⟨Z, ρ, t, ρ1, ec, R, fun Z1 H1 S1 E1 R1 => ?_⟩
  cases t with
  | true => exact iteT ⟨Z1, ρ1, fl, ρ', e, R1, k.after S1⟩
  | false => exact iteF ⟨Z1, ρ1, fl, ρ', e, R1, k.after S1⟩

/-! ### name op= e -/
def dAug (i : Nat) (g : Int → Int → Int) (f : DE) : DS := fun ρ => match ρ[i]? with
  | some (.d (.int a)) => (f ρ).bind fun p => match p.1 with
    | .d (.int b) => if i < p.2.length then some (.nx, p.2.set i (.d (.int (g a b)))) else none
    | _ => none
  | _ => none
theorem ts_aug {i : Nat} {g : Int → Int → Int} {f : DE} (h : tS G (dAug i g f) D σ H) : tAug i (tE G f) (ipI g) D σ H := by
  obtain ⟨Z, ρ, fl, ρ', e, R, k⟩ := h
  unfold dAug at e
  split at e
  · rename_i a ha
    obtain ⟨⟨s, ρ1⟩, ea, e⟩ := Option.bind_some' e
    obtain ⟨v, h1, q⟩ := R.val ha (fun z => nomatch z)
    cases q
    refine ⟨_, h1, Z, ρ, s, ρ1, ea, R, fun y Z1 H1 S1 E1 R1 n1 => ?_⟩
    split at e
    · rename_i b hb
      have hb : s = .d (.int b) := hb
      subst hb
      split at e
      · rename_i hl
        cases e
        cases n1.ok
        refine ⟨a, b, rfl, rfl, ?_⟩
        obtain ⟨S2, R2⟩ := store_slot (s := .d (.int (g a b))) (v := .int (g a b)) S1 R1 ⟨.int _, fun n => absurd rfl n⟩ (fun n => absurd rfl n) hl (by simp [SD.kd])
        exact k _ _ _ S2 R2
      · cases e
    · cases e
  · cases e

/-! ### for -/
def dLoop (g : DG) (b : DS) : List Dat → DS
  | [], ρ => some (.nx, ρ)
  | x :: r, ρ => (g (.d x) ρ).bind fun ρ1 => (b ρ1).bind fun p => match p.1 with
    | .nx => dLoop g b r p.2
    | .ct => dLoop g b r p.2
    | .bk => some (.nx, p.2)
    | .ret s => some (.ret s, p.2)
def dFor (i : DI) (g : DG) (b : DS) : DS := fun ρ => (i ρ).bind fun p => dLoop g b p.1 p.2
theorem ts_for {i : DI} {g : DG} {b : DS} (h : tS G (dFor i g b) D σ H) : tFor (tI G i) (tG G g) (tS G b) D σ H := by
  obtain ⟨Z, ρ, fl, ρ', e, R, k⟩ := h
  obtain ⟨⟨ds, ρ1⟩, ei, e⟩ := Option.bind_some' e
  refine ⟨Z, ρ, ds, ρ1, ei, R, fun J Z1 H1 S1 E1 R1 wk => ?_⟩
  refine ⟨fun n m σ' H' => m = ds.length - n ∧ n ≤ ds.length ∧ ∃ Za ρa, dLoop g b (ds.drop n) ρa = some (fl, ρ') ∧ Rep G Za ρa σ' H' ∧ Step Z ρ σ H Za ρa σ' H' ∧ Same Z1 Za,
    ⟨ds.length, by omega, by omega, Z1, ρ1, e, R1, S1, Same.refl _⟩, ?_⟩
  rintro n m σ' H' ⟨rfl, hn, Za, ρa, ea, Ra, Sa, Xa⟩
  obtain ⟨w1, w2⟩ := wk Za H' Xa Ra.same n
  by_cases hl : n < ds.length
  · have hx : ds[n]? = some ds[n] := List.getElem?_eq_getElem hl
    obtain ⟨go, yld⟩ := w1 _ hx
    rw [List.drop_eq_getElem_cons hl] at ea
    unfold dLoop at ea
    obtain ⟨ρb, eg, ea⟩ := Option.bind_some' ea
    obtain ⟨⟨fb, ρc⟩, eb, ea⟩ := Option.bind_some' ea
    refine .inr ⟨go, fun σ'' H'' => n + 1 ≤ ds.length ∧ ∃ Za ρa, dLoop g b (ds.drop (n + 1)) ρa = some (fl, ρ') ∧ Rep G Za ρa σ'' H'' ∧ Step Z ρ σ H Za ρa σ'' H'' ∧ Same Z1 Za,
      fun σ'' H'' ⟨p1, p2⟩ => ⟨ds.length - (n + 1), by omega, rfl, p1, p2⟩, fun x H'' hy => ?_⟩
    obtain ⟨Zy, Xy, qy⟩ := yld x H'' hy
    refine ⟨Z, ρ, σ, H, Zy, ρa, .d ds[n], ρb, eg, Sa.ext Xy, Xy.rep Ra, ⟨qy, fun n => absurd rfl n⟩, fun n => absurd rfl n, fun σ3 Z3 H3 S3 X3 R3 => ?_⟩
    have same3 : Same Z1 Z3 := Xa.trans (Xy.zz.trans X3)
    cases fb with
    | nx =>
      refine ⟨Z3, ρb, .nx, ρc, eb, R3, fun σ4 Z4 H4 S4 R4 => ?_⟩
      exact ⟨hl, Z4, ρc, ea, R4, S3.trans S4, same3.trans S4.zz⟩
    | ct =>
      refine ⟨Z3, ρb, .ct, ρc, eb, R3, fun σ4 Z4 H4 S4 R4 => ?_⟩
      exact ⟨hl, Z4, ρc, ea, R4, S3.trans S4, same3.trans S4.zz⟩
    | bk =>
      cases ea
      refine ⟨Z3, ρb, .bk, ρc, eb, R3, fun σ4 Z4 H4 S4 R4 => ?_⟩
      exact k σ4 Z4 H4 (S3.trans S4) R4
    | ret s =>
      cases ea
      refine ⟨Z3, ρb, .ret s, ρc, eb, R3, ?_⟩
      exact EndOk.after (D := D) (fl := .ret s) S3 k
  · have hn' : n = ds.length := by omega
    subst hn'
    rw [List.drop_length] at ea
    cases ea
    exact .inl ⟨w2 (Nat.le_refl _), k σ' Za H' Sa Ra⟩

/-! ### while, with fuel -/
def dWhile (c : DT) (b : DS) : Nat → DS
  | 0, _ => none
  | n + 1, ρ => (c ρ).bind fun p => if p.1 = true then (b p.2).bind fun q => match q.1 with
    | .nx => dWhile c b n q.2
    | .ct => dWhile c b n q.2
    | .bk => some (.nx, q.2)
    | .ret s => some (.ret s, q.2)
    else some (.nx, p.2)
theorem ts_while {c : DT} {b : DS} {n : Nat} (h : tS G (dWhile c b n) D σ H) : tWhile (tT G c) (tS G b) D σ H := by
  obtain ⟨Z, ρ, fl, ρ', e, R, k⟩ := h
  refine ⟨fun m σ' H' => ∃ Za ρa, dWhile c b m ρa = some (fl, ρ') ∧ Rep G Za ρa σ' H' ∧ Step Z ρ σ H Za ρa σ' H', ⟨n, Z, ρ, e, R, Step.refl ..⟩, ?_⟩
  rintro m σ' H' ⟨Za, ρa, ea, Ra, Sa⟩
  cases m with
  | zero => cases ea
  | succ m =>
    unfold dWhile at ea
    obtain ⟨⟨t, ρb⟩, ec, ea⟩ := Option.bind_some' ea
    refine ⟨Za, ρa, t, ρb, ec, Ra, fun Z1 H1 S1 E1 R1 => ?_⟩
    cases t with
    | false =>
      cases ea
      exact iteF (k σ' Z1 H1 (Sa.trans S1) R1)
    | true =>
      have ea : ((b ρb).bind fun q => match q.1 with
        | .nx => dWhile c b m q.2
        | .ct => dWhile c b m q.2
        | .bk => some (.nx, q.2)
        | .ret s => some (.ret s, q.2)) = some (fl, ρ') := ea
      obtain ⟨⟨fb, ρc⟩, eb, ea⟩ := Option.bind_some' ea
      refine iteT ⟨fun σ'' H'' => ∃ Za ρa, dWhile c b m ρa = some (fl, ρ') ∧ Rep G Za ρa σ'' H'' ∧ Step Z ρ σ H Za ρa σ'' H'', fun σ'' H'' p => ⟨m, Nat.lt_succ_self m, p⟩, ?_⟩
      have S01 := Sa.trans S1
      cases fb with
      | nx => exact ⟨Z1, ρb, .nx, ρc, eb, R1, fun σ4 Z4 H4 S4 R4 => ⟨Z4, ρc, ea, R4, S01.trans S4⟩⟩
      | ct => exact ⟨Z1, ρb, .ct, ρc, eb, R1, fun σ4 Z4 H4 S4 R4 => ⟨Z4, ρc, ea, R4, S01.trans S4⟩⟩
      | bk =>
        cases ea
        exact ⟨Z1, ρb, .bk, ρc, eb, R1, fun σ4 Z4 H4 S4 R4 => k σ4 Z4 H4 (S01.trans S4) R4⟩
      | ret s =>
        cases ea
        exact ⟨Z1, ρb, .ret s, ρc, eb, R1, EndOk.after (D := D) (fl := .ret s) S01 k⟩

/-! ### tests -/
def dNotT (c : DT) : DT := fun ρ => (c ρ).map fun p => (!p.1, p.2)
def dAndT (a b : DT) : DT := fun ρ => (a ρ).bind fun p => if p.1 = true then b p.2 else some (false, p.2)
def dOrT (a b : DT) : DT := fun ρ => (a ρ).bind fun p => if p.1 = true then some (true, p.2) else b p.2
def dTestB (f : DE) : DT := fun ρ => (f ρ).bind fun p => match p.1 with
  | .d (.bl b) => some (b, p.2)
  | _ => none
theorem tt_not {c : DT} {Q : Bool → Hp → Prop} (h : tT G (dNotT c) σ H Q) : tNot (tT G c) σ H Q := by
  obtain ⟨Z, ρ, r, ρ', e, R, k⟩ := h
  obtain ⟨⟨t, ρ1⟩, ec, e⟩ := Option.map_some' e
  cases e
  exact ⟨Z, ρ, t, ρ1, ec, R, fun Z1 H1 S1 E1 R1 => k Z1 H1 S1 E1 R1⟩
theorem tt_and {a b : DT} {Q : Bool → Hp → Prop} (h : tT G (dAndT a b) σ H Q) : tAnd (tT G a) (tT G b) σ H Q := by
  obtain ⟨Z, ρ, r, ρ', e, R, k⟩ := h
  obtain ⟨⟨t, ρ1⟩, ec, e⟩ := Option.bind_some' e
  refine ⟨Z, ρ, t, ρ1, ec, R, fun Z1 H1 S1 E1 R1 => ?_⟩
  cases t with
  | true => exact iteT ⟨Z1, ρ1, r, ρ', e, R1, fun Z2 H2 S2 E2 R2 => k Z2 H2 (S1.trans S2) (E1.trans E2) R2⟩
  | false => cases e; exact iteF (k Z1 H1 S1 E1 R1)
theorem tt_or {a b : DT} {Q : Bool → Hp → Prop} (h : tT G (dOrT a b) σ H Q) : tOr (tT G a) (tT G b) σ H Q := by
  obtain ⟨Z, ρ, r, ρ', e, R, k⟩ := h
  obtain ⟨⟨t, ρ1⟩, ec, e⟩ := Option.bind_some' e
  refine ⟨Z, ρ, t, ρ1, ec, R, fun Z1 H1 S1 E1 R1 => ?_⟩
  cases t with
  | false => exact iteF ⟨Z1, ρ1, r, ρ', e, R1, fun Z2 H2 S2 E2 R2 => k Z2 H2 (S1.trans S2) (E1.trans E2) R2⟩
  | true => cases e; exact iteT (k Z1 H1 S1 E1 R1)
theorem tt_b {f : DE} {Q : Bool → Hp → Prop} (h : tT G (dTestB f) σ H Q) : tB (tE G f) σ H Q := by
  obtain ⟨Z, ρ, r, ρ', e, R, k⟩ := h
  obtain ⟨⟨s, ρ1⟩, ec, e⟩ := Option.bind_some' e
  refine ⟨Z, ρ, s, ρ1, ec, R, fun v Z1 H1 S1 E1 R1 n1 => ?_⟩
  split at e
  · rename_i b hb
    have hb : s = .d (.bl b) := hb
    subst hb
    cases e
    cases n1.ok
    exact ⟨r, rfl, k Z1 H1 S1 E1 R1⟩
  · cases e
/-- a value's truth -/
def truD : SD → Option Bool
  | .d .non => some false
  | .d (.bl b) => some b
  | .d (.int i) => some (i != 0)
  | .d (.tup l) => some (!l.isEmpty)
  | .d (.lst l) => some (!l.isEmpty)
  | .own (.lst l) => some (!l.isEmpty)
  | _ => none
def dTru (f : DE) : DT := fun ρ => (f ρ).bind fun p => (truD p.1).map fun b => (b, p.2)
theorem IsAll.emp {vs : List V} {ds : List Dat} (h : IsAll G Z vs ds) : (!ds.isEmpty) = !vs.isEmpty := by cases h <;> rfl
theorem truV_ok {s : SD} {v : V} {b : Bool} (e : truD s = some b) (q : ValOk G Z H s v) (z : Same Z H) : TruV G.K v H b := by
  unfold truD at e
  split at e
  · cases e; cases q; rfl
  · cases e; cases q; rfl
  · cases e; cases q; rfl
  · cases e
    cases q with
    | tup h k => exact .inr (.inl ⟨_, same_t z h, k.emp⟩)
  · cases e
    cases q with
    | lst h k => exact .inl ⟨_, .of (z _ _ h), k.emp⟩
  · cases e
    obtain ⟨a, e1, _, vs, ha, k⟩ := q
    subst e1
    exact .inl ⟨_, .of ha, k.emp⟩
  · cases e
theorem tt_tru {f : DE} {Q : Bool → Hp → Prop} (h : tT G (dTru f) σ H Q) : tE G f σ H (fun x H' => ∃ k, TruV G.K x H' k ∧ Q k H') := by
  obtain ⟨Z, ρ, r, ρ', e, R, k⟩ := h
  obtain ⟨⟨s, ρ1⟩, ec, e⟩ := Option.bind_some' e
  obtain ⟨b, eb, e⟩ := Option.map_some' e
  cases e
  exact ⟨Z, ρ, s, ρ1, ec, R, fun v Z1 H1 S1 E1 R1 n1 => ⟨r, truV_ok eb n1.ok R1.same, k Z1 H1 S1 E1 R1⟩⟩

/-! ### bools as values, a if t else b -/
def dAndV (a b : DE) : DE := fun ρ => (a ρ).bind fun p => match p.1 with
  | .d (.bl c) => if c = true then b p.2 else some (.d (.bl false), p.2)
  | _ => none
def dOrV (a b : DE) : DE := fun ρ => (a ρ).bind fun p => match p.1 with
  | .d (.bl c) => if c = true then some (.d (.bl true), p.2) else b p.2
  | _ => none
def dNotV (a : DE) : DE := fun ρ => (a ρ).bind fun p => match p.1 with
  | .d (.bl c) => some (.d (.bl (!c)), p.2)
  | _ => none
def dIf (c : DT) (a b : DE) : DE := fun ρ => (c ρ).bind fun p => if p.1 = true then a p.2 else b p.2
theorem te_andV {a b : DE} {Q : VK} (h : tE G (dAndV a b) σ H Q) : tAndV (tE G a) (tE G b) σ H Q := by
  obtain ⟨Z, ρ, r, ρ', e, R, k⟩ := h
  obtain ⟨⟨s, ρ1⟩, ec, e⟩ := Option.bind_some' e
  refine ⟨Z, ρ, s, ρ1, ec, R, fun v Z1 H1 S1 E1 R1 n1 => ?_⟩
  split at e
  · rename_i c hb
    have hb : s = .d (.bl c) := hb
    subst hb
    cases n1.ok
    refine ⟨c, rfl, ?_⟩
    cases c with
    | true => exact iteT ⟨Z1, ρ1, r, ρ', e, R1, fun v Z2 H2 S2 E2 R2 n2 => k v Z2 H2 (S1.trans S2) (E1.trans E2) R2 (n2.back S1)⟩
    | false => cases e; exact iteF (k _ Z1 H1 S1 E1 R1 ⟨.bl _, fun n => absurd rfl n⟩)
  · cases e
theorem te_orV {a b : DE} {Q : VK} (h : tE G (dOrV a b) σ H Q) : tOrV (tE G a) (tE G b) σ H Q := by
  obtain ⟨Z, ρ, r, ρ', e, R, k⟩ := h
  obtain ⟨⟨s, ρ1⟩, ec, e⟩ := Option.bind_some' e
  refine ⟨Z, ρ, s, ρ1, ec, R, fun v Z1 H1 S1 E1 R1 n1 => ?_⟩
  split at e
  · rename_i c hb
    have hb : s = .d (.bl c) := hb
    subst hb
    cases n1.ok
    refine ⟨c, rfl, ?_⟩
    cases c with
    | false => exact iteF ⟨Z1, ρ1, r, ρ', e, R1, fun v Z2 H2 S2 E2 R2 n2 => k v Z2 H2 (S1.trans S2) (E1.trans E2) R2 (n2.back S1)⟩
    | true => cases e; exact iteT (k _ Z1 H1 S1 E1 R1 ⟨.bl _, fun n => absurd rfl n⟩)
  · cases e
theorem te_notV {a : DE} {Q : VK} (h : tE G (dNotV a) σ H Q) : tNotV (tE G a) σ H Q := by
  obtain ⟨Z, ρ, r, ρ', e, R, k⟩ := h
  obtain ⟨⟨s, ρ1⟩, ec, e⟩ := Option.bind_some' e
  refine ⟨Z, ρ, s, ρ1, ec, R, fun v Z1 H1 S1 E1 R1 n1 => ?_⟩
  split at e
  · rename_i c hb
    have hb : s = .d (.bl c) := hb
    subst hb
    cases n1.ok
    cases e
    exact ⟨c, rfl, k _ Z1 H1 S1 E1 R1 ⟨.bl _, fun n => absurd rfl n⟩⟩
  · cases e
theorem te_if {c : DT} {a b : DE} {Q : VK} (h : tE G (dIf c a b) σ H Q) : tIf (tT G c) (tE G a) (tE G b) σ H Q := by
  obtain ⟨Z, ρ, r, ρ', e, R, k⟩ := h
  obtain ⟨⟨t, ρ1⟩, ec, e⟩ := Option.bind_some' e
  refine ⟨Z, ρ, t, ρ1, ec, R, fun Z1 H1 S1 E1 R1 => ?_⟩
  cases t with
  | true => exact iteT ⟨Z1, ρ1, r, ρ', e, R1, fun v Z2 H2 S2 E2 R2 n2 => k v Z2 H2 (S1.trans S2) (E1.trans E2) R2 (n2.back S1)⟩
  | false => exact iteF ⟨Z1, ρ1, r, ρ', e, R1, fun v Z2 H2 S2 E2 R2 n2 => k v Z2 H2 (S1.trans S2) (E1.trans E2) R2 (n2.back S1)⟩
end
end DP

set_option Elab.async false
set_option linter.all false
set_option maxRecDepth 100000
set_option maxHeartbeats 2000000
namespace DP
open PySem PySem.Spec PyProof.Rows L2

def Gd.at (G : Gd) (io : Nat → Addr) : Gd := { G with io := io }
section
variable {G : Gd} {io : Nat → Addr} {Z Z' Z0 Z1 Z2 H H' H0 H1 H2 : Hp} {ρ ρ0 ρ1 ρ2 : List SD} {σ σ0 σ1 σ2 : L2.St} {D : Ends}
mutual
theorem Is.to : ∀ {v : V} {d : Dat}, Is G Z v d → Is (G.at io) Z v d
  | _, _, .non => .non
  | _, _, .bl b => .bl b
  | _, _, .int i => .int i
  | _, _, .str x => .str x
  | _, _, .tup h k => .tup h (IsAll.to k)
  | _, _, .lst h k => .lst h (IsAll.to k)
  | _, _, .ins h l k => .ins h l (IsAll.to k)
theorem IsAll.to : ∀ {vs : List V} {ds : List Dat}, IsAll G Z vs ds → IsAll (G.at io) Z vs ds
  | _, _, .nil => .nil
  | _, _, .cons h k => .cons (Is.to h) (IsAll.to k)
end
theorem MoAt.to {a : Addr} {m : MO} (h : MoAt G Z H a m) : MoAt (G.at io) Z H a m := by
  cases m with
  | lst xs => obtain ⟨vs, h, q⟩ := h; exact ⟨vs, h, q.to⟩
  | set S n => exact h
  | dic kvs => obtain ⟨ws, h, q, r⟩ := h; exact ⟨ws, h, q, r.to⟩
  | obj c fs => obtain ⟨dx, ws, h, q, r⟩ := h; exact ⟨dx, ws, h, q, r.to⟩
theorem ValOk.to {s : SD} {v : V} (h : ValOk G Z H s v) : ValOk (G.at io) Z H s v := by
  cases s with
  | no => exact h
  | d x => exact Is.to h
  | scr ns => exact h
  | own m => obtain ⟨a, e, z, q⟩ := h; exact ⟨a, e, z, q.to⟩
  | io m => obtain ⟨a, e, z, q⟩ := h; exact ⟨a, e, z, q.to⟩
theorem New.to {s : SD} {v : V} (h : New G H0 Z H s v) : New (G.at io) H0 Z H s v := ⟨h.ok.to, h.nw⟩

/-- a def's promise by data: from the arguments' data to the result's and the in-out arguments' -/
abbrev DF := List SD → Option (SD × List SD)
def spD (G : Gd) (Φ : DF) : Sp := fun vs H Q _ => ∃ (io : Nat → Addr) (Z : Hp) (as : List SD) (r : SD) (as' : List SD), Φ as = some (r, as') ∧ Rep (G.at io) Z as (vs.map some) H ∧ (∀ i, kdAt as i ≠ 1) ∧
  ∀ v Z' H', Step Z as (vs.map some) H Z' as' (vs.map some) H' → ES as as' → Rep (G.at io) Z' as' (vs.map some) H' → New (G.at io) H Z' H' r v → Q v H'

/-- what an in-out argument is behind the body -/
def keepIo : List SD → List SD → Option (List SD)
  | [], _ => some []
  | .io _ :: as, .io m :: ρ => (keepIo as ρ).map (SD.io m :: ·)
  | .io _ :: _, _ => none
  | a :: as, _ :: ρ => (keepIo as ρ).map (a :: ·)
  | _ :: _, [] => none
theorem keepIo_at : ∀ {as ρ as' : List SD}, keepIo as ρ = some as' → as'.length = as.length ∧ ∀ (i : Nat) (s : SD), as[i]? = some s → (∀ m, s = .io m → ∃ m', ρ[i]? = some (.io m') ∧ as'[i]? = some (.io m')) ∧ ((∀ m, s ≠ .io m) → as'[i]? = some s)
  | [], ρ, as', e => by
    cases e
    exact ⟨rfl, fun i s h => by simp at h⟩
  | .io m0 :: as, [], _, e => by cases e
  | .no :: as, [], _, e => by cases e
  | .d _ :: as, [], _, e => by cases e
  | .scr _ :: as, [], _, e => by cases e
  | .own _ :: as, [], _, e => by cases e
  | .io m0 :: as, .no :: ρ, _, e => by cases e
  | .io m0 :: as, .d _ :: ρ, _, e => by cases e
  | .io m0 :: as, .scr _ :: ρ, _, e => by cases e
  | .io m0 :: as, .own _ :: ρ, _, e => by cases e
  | .io m0 :: as, .io m1 :: ρ, as', e => by
    obtain ⟨bs, e1, e2⟩ := Option.map_some' e
    obtain ⟨h1, h2⟩ := keepIo_at e1
    subst e2
    refine ⟨by simp [h1], fun i s h => ?_⟩
    cases i with
    | zero =>
      simp at h; subst h
      exact ⟨fun m _ => ⟨m1, rfl, rfl⟩, fun n => absurd rfl (n m0)⟩
    | succ i => exact h2 i s (by simpa using h)
  | .no :: as, _ :: ρ, as', e => by
    obtain ⟨bs, e1, e2⟩ := Option.map_some' e
    obtain ⟨h1, h2⟩ := keepIo_at e1
    subst e2
    refine ⟨by simp [h1], fun i s h => ?_⟩
    cases i with
    | zero => simp at h; subst h; exact ⟨fun m q => (by cases q), fun _ => rfl⟩
    | succ i => exact h2 i s (by simpa using h)
  | .d x :: as, _ :: ρ, as', e => by
    obtain ⟨bs, e1, e2⟩ := Option.map_some' e
    obtain ⟨h1, h2⟩ := keepIo_at e1
    subst e2
    refine ⟨by simp [h1], fun i s h => ?_⟩
    cases i with
    | zero => simp at h; subst h; exact ⟨fun m q => (by cases q), fun _ => rfl⟩
    | succ i => exact h2 i s (by simpa using h)
  | .scr x :: as, _ :: ρ, as', e => by
    obtain ⟨bs, e1, e2⟩ := Option.map_some' e
    obtain ⟨h1, h2⟩ := keepIo_at e1
    subst e2
    refine ⟨by simp [h1], fun i s h => ?_⟩
    cases i with
    | zero => simp at h; subst h; exact ⟨fun m q => (by cases q), fun _ => rfl⟩
    | succ i => exact h2 i s (by simpa using h)
  | .own x :: as, _ :: ρ, as', e => by
    obtain ⟨bs, e1, e2⟩ := Option.map_some' e
    obtain ⟨h1, h2⟩ := keepIo_at e1
    subst e2
    refine ⟨by simp [h1], fun i s h => ?_⟩
    cases i with
    | zero => simp at h; subst h; exact ⟨fun m q => (by cases q), fun _ => rfl⟩
    | succ i => exact h2 i s (by simpa using h)
def resF : FD → Option SD
  | .ret r => some r
  | .nx => some (.d .non)
  | _ => none
/-- a def by its body's data program: n parameters, l names -/
def runF (n l : Nat) (F : DS) : DF := fun as => if as.length = n then (F (as ++ List.replicate (l - n) .no)).bind fun p => (resF p.1).bind fun r => (keepIo as p.2).map fun as' => (r, as') else none
theorem fun_ok {P : Program} {w : World} {K : PySem.W.Frag} {mg : Str → Option Value} {base : Heap} {x qual : Str} {st : Stmt} {f : Addr} {fd : FuncData} {N ps : List Str} {k : Nat} {FB : DS} {Φ : DF} (F : Fun K x qual st f fd) (S : FnScope N ps (defScope st))
    (hb : ∀ (cdv : Value) (A : Around) (outer : List Env) (s : Shared) (H : Hp) (E : XK) (io : Nat → Addr), Room k (A.deeper (envOfC qual (defScope st) s.heap.objs.size f cdv)) →
      PSs (cxOf CX0 P w K mg base N qual (defScope st) f cdv A outer s H E).nox (defBody st) (tS (G.at io) FB))
    (hΦ : ∀ as r as', Φ as = some (r, as') → runF ps.length N.length FB as = some (r, as')) : FnOk P w K mg base CX0 (k + 1) f fd ps (spD G Φ) := by
  have hl : ∀ {as : List SD} {r : SD} {as' : List SD}, Φ as = some (r, as') → as.length = ps.length := fun {as r as'} e => by
    have q := hΦ _ _ _ e
    unfold runF at q
    by_cases h : as.length = ps.length
    · exact h
    · rw [if_neg h] at q; cases q
  have hN : ps.length ≤ N.length := by have := congrArg List.length S.pre; rw [List.length_take] at this; omega
  refine F.ok S (fun vs H Q E h => ?_) (fun cdv A outer s H vs Q E hr h => ?_)
  · obtain ⟨io, Z, as, r, as', e, R, _, _⟩ := h
    have q := R.len
    rw [List.length_map] at q
    rw [q]; exact hl e
  · obtain ⟨io, Z, as, r, as', e, R, no1, kk⟩ := h
    refine ⟨_, hb cdv A outer s H E io hr, ?_⟩
    have hla := hl e
    have hlv : vs.length = ps.length := by have q := R.len; rw [List.length_map] at q; rw [q]; exact hla
    have q := hΦ _ _ _ e
    unfold runF at q
    rw [if_pos hla] at q
    obtain ⟨⟨fl, ρ'⟩, e1, q⟩ := Option.bind_some' q
    obtain ⟨r', e2, q⟩ := Option.bind_some' q
    obtain ⟨as2, e3, q⟩ := Option.map_some' q
    cases q
    obtain ⟨hl3, at3⟩ := keepIo_at e3
    -- the start
    have kd0 : ∀ i, kdAt (as ++ List.replicate (N.length - ps.length) SD.no) i = kdAt as i := fun i => by
      unfold kdAt
      by_cases hi : i < as.length
      · rw [List.getElem?_append_left hi]
      · rw [List.getElem?_append_right (by omega), List.getElem?_replicate]
        have : as[i]? = none := List.getElem?_eq_none_iff.mpr (by omega)
        rw [this]
        split <;> rfl
    have st0 : ∀ (i : Nat) (a : Addr), (L2.start N vs)[i]? = some (some (.ref a)) → (vs.map some)[i]? = some (some (.ref a)) := fun i a h => by
      unfold L2.start at h
      by_cases hi : i < (vs.map some).length
      · rw [List.getElem?_append_left hi] at h; exact h
      · rw [List.getElem?_append_right (by omega), List.getElem?_replicate] at h
        split at h <;> cases h
    have ts0 : ∀ (i : Nat) (o : Option V), (vs.map some)[i]? = some o → (L2.start N vs)[i]? = some o := fun i o h => by
      unfold L2.start
      rw [List.getElem?_append_left (List.getElem?_eq_some_iff.mp h).1]; exact h
    have own0 : ∀ b, Own (as ++ List.replicate (N.length - ps.length) SD.no) (L2.start N vs) b → Own as (vs.map some) b := fun b ⟨i, h1, h2⟩ => ⟨i, by rw [← kd0]; exact h1, st0 i b h2⟩
    have R0 : Rep (G.at io) Z (as ++ List.replicate (N.length - ps.length) SD.no) (L2.start N vs) H := by
      refine ⟨R.same, ?_, fun i s h => ?_, fun i j a ne hi hj e1 e2 => ?_⟩
      · unfold L2.start
        rw [List.length_append, List.length_append, List.length_map, List.length_replicate, List.length_replicate]
        omega
      · by_cases hi : i < as.length
        · rw [List.getElem?_append_left hi] at h
          obtain ⟨o, h1, h2⟩ := R.slot i s h
          exact ⟨o, ts0 i o h1, h2⟩
        · rw [List.getElem?_append_right (by omega), List.getElem?_replicate] at h
          split at h
          · cases h
            have hi2 : i < (L2.start N vs).length := by
              unfold L2.start
              rw [List.length_append, List.length_map, List.length_replicate]
              omega
            exact ⟨_, List.getElem?_eq_getElem hi2, trivial⟩
          · cases h
      · rw [kd0] at hi hj
        exact R.dis i j a ne hi hj (st0 _ _ e1) (st0 _ _ e2)
    have fin : ∀ (v : V) (σ' : L2.St) (Z' H' : Hp), Step Z (as ++ List.replicate (N.length - ps.length) SD.no) (L2.start N vs) H Z' ρ' σ' H' → Rep (G.at io) Z' ρ' σ' H' → ValOk (G.at io) Z' H' r v →
        (r.kd ≠ 0 → ∀ a, v = .ref a → OwnL (as ++ List.replicate (N.length - ps.length) SD.no) (L2.start N vs) a ∨ H a = none) → Q v H' := fun v σ' Z' H' S' R' ok nw => by
      have kd3 : ∀ i, kdAt as' i = kdAt as i := fun i => by
        unfold kdAt
        cases h : as[i]? with
        | none =>
          have : as'[i]? = none := List.getElem?_eq_none_iff.mpr (by have := List.getElem?_eq_none_iff.mp h; omega)
          rw [this]
        | some s =>
          obtain ⟨h1, h2⟩ := at3 i s h
          cases s with
          | io m => obtain ⟨m', _, q⟩ := h1 m rfl; rw [q]; rfl
          | no => rw [h2 fun m q => nomatch q]
          | d x => rw [h2 fun m q => nomatch q]
          | scr x => rw [h2 fun m q => nomatch q]
          | own x => rw [h2 fun m q => nomatch q]
      have es : ES as as' := ⟨hl3, fun i _ => (kd3 i).symm⟩
      refine kk v Z' H' ⟨S'.zz, fun b o h n => S'.fr b o h fun q => n (own0 b q), fun b h z n => S'.fz b h z fun q => n (own0 b q), S'.dom, fun b q => .inl (es.own q), fun b q => .inl (es.ownL q)⟩ es ?_ ⟨ok, fun n a e => ?_⟩
      · refine ⟨R'.same, by rw [hl3]; exact R.len, fun i s h => ?_, fun i j a ne hi hj e1 e2 => ?_⟩
        · have hi : i < as.length := by have := (List.getElem?_eq_some_iff.mp h).1; omega
          obtain ⟨o, g1, g2⟩ := R.slot i _ (List.getElem?_eq_getElem hi)
          obtain ⟨h1, h2⟩ := at3 i _ (List.getElem?_eq_getElem hi)
          refine ⟨o, g1, ?_⟩
          cases hs : as[i] with
          | io m =>
            rw [hs] at g2 h1
            obtain ⟨m', q1, q2⟩ := h1 m rfl
            rw [q2] at h; cases h
            obtain ⟨o', p1, p2⟩ := R'.slot i _ q1
            exact ⟨g2.1, p2.2⟩
          | no => rw [hs] at g2 h2; rw [h2 fun m q => nomatch q] at h; cases h; trivial
          | d x => rw [hs] at g2 h2; rw [h2 fun m q => nomatch q] at h; cases h; obtain ⟨v, e, q⟩ := g2; exact ⟨v, e, q.mono S'.zz⟩
          | scr x => rw [hs] at g2 h2; rw [h2 fun m q => nomatch q] at h; cases h; obtain ⟨a, e, q⟩ := g2; exact ⟨a, e, S'.zz.seq q⟩
          | own x =>
            exact absurd (by unfold kdAt; rw [List.getElem?_eq_getElem hi, hs]; rfl) (no1 i)
        · rw [kd3] at hi hj
          exact R.dis i j a ne hi hj e1 e2
      · rcases nw n a e with ⟨i, h1, _⟩ | h
        · rw [kd0] at h1; exact absurd h1 (no1 i)
        · exact h
    refine ⟨Z, _, fl, ρ', e1, R0, ?_⟩
    cases fl with
    | nx =>
      cases e2
      exact fun σ' Z' H' S' R' => fin .non σ' Z' H' S' R' .non fun n => absurd rfl n
    | ret s =>
      cases e2
      exact fun v σ' Z' H' S' R' ok nw => fin v σ' Z' H' S' R' ok nw
    | bk => cases e2
    | ct => cases e2

/-! ### calls -/
def dCall (Φ : DF) (f : DA) : DE := fun ρ => (f ρ).bind fun p => (Φ p.1).map fun q => (q.1, p.2)
theorem args_rep {as : List SD} {vs : List V} (zh : Same Z H) : ArgsOk G Z H as vs → (∀ i, kdAt as i = 0) ∧ as.length = vs.length ∧ ∀ (i : Nat) (s : SD), as[i]? = some s → ∃ o, (vs.map some)[i]? = some o ∧ ∀ j, SlotOk (G.at io) Z H j s o := by
  intro h
  induction h with
  | nil => exact ⟨fun i => rfl, rfl, fun i s e => by simp at e⟩
  | @cons s v ss vs h1 h2 h3 ih =>
    obtain ⟨i1, i2, i3⟩ := ih
    refine ⟨fun i => ?_, by simp [i2], fun i t e => ?_⟩
    · cases i with
      | zero => exact h2
      | succ i => exact i1 i
    · cases i with
      | zero =>
        simp at e; subst e
        refine ⟨some v, rfl, fun j => ?_⟩
        cases s with
        | no => trivial
        | d x => exact ⟨v, rfl, Is.to h1⟩
        | scr ns => obtain ⟨a, e1, q⟩ := h1; exact ⟨a, by rw [e1], q⟩
        | own m => exact absurd h2 (by simp [SD.kd])
        | io m => exact absurd h2 (by simp [SD.kd])
      | succ i => exact i3 i t (by simpa using e)
/-- the callee by data, no in-out arguments -/
theorem sp_call {Φ : DF} {as : List SD} {vs : List V} {r : SD} {as' : List SD} {Q : VK} {E : XK} (e : Φ as = some (r, as')) (zh : Same Z H) (ar : ArgsOk (G.at io) Z H as vs)
    (k : ∀ v Z' H', Ext Z H Z' H' → New (G.at io) H Z' H' r v → Q v H') : spD G Φ vs H Q E := by
  obtain ⟨h1, h2, h3⟩ := args_rep (io := io) zh ar
  have no : ∀ b, ¬ Own as (vs.map some) b := fun b ⟨i, n, _⟩ => n (h1 i)
  refine ⟨io, Z, as, r, as', e, ⟨zh, by rw [List.length_map, h2], fun i s h => ?_, fun i j a ne hi => absurd (h1 i) hi⟩, fun i => by rw [h1 i]; decide, fun v Z' H' S E R n => ?_⟩
  · obtain ⟨o, p1, p2⟩ := h3 i s h
    exact ⟨o, p1, p2 i⟩
  · exact k v Z' H' ⟨S.zz, fun b o h => S.fr b o h (no b), R.same, fun b h z => S.fz b h z (no b)⟩ n
theorem te_call {Φ : DF} {f : DA} {Q : VK} {E : XK} (h : tE (G.at io) (dCall Φ f) σ H Q) : tCall (spD G Φ) [] E (tA (G.at io) f) σ H Q := by
  obtain ⟨Z, ρ, r, ρ', e, R, k⟩ := h
  obtain ⟨⟨as, ρ1⟩, ea, e⟩ := Option.bind_some' e
  obtain ⟨⟨r', as'⟩, er, e⟩ := Option.map_some' e
  cases e
  refine ⟨Z, ρ, as, ρ1, ea, R, fun vs Z1 H1 S1 E1 R1 n1 => ?_⟩
  show spD G Φ (vs ++ []) H1 Q E
  rw [List.append_nil]
  exact sp_call er R1.same n1 fun v Z2 H2 X n => k v Z2 H2 (S1.ext X) E1 (X.rep R1) (n.back S1)

/-- the first argument is the object of a slot and may be changed -/
def dCallIO (Φ : DF) (j : Nat) (f : DA) : DE := fun ρ => match ρ[j]? with
  | some s0 => if s0.kd = 0 then none else (f ρ).bind fun p => (p.2[j]?).bind fun s => s.mo.bind fun m => (Φ (.io m :: p.1)).bind fun q => match q.2 with
    | .io m' :: _ => some (q.1, p.2.set j (s.re m'))
    | _ => none
  | none => none
theorem te_callIO {Φ : DF} {j : Nat} {f : DA} {Q : VK} {E : XK} (h : tE (G.at io) (dCallIO Φ j f) σ H Q) : tCall (spD G Φ) [] E (tCons (tVar j) (tA (G.at io) f)) σ H Q := by
  obtain ⟨Z, ρ, r, ρ', e, R, k⟩ := h
  unfold dCallIO at e
  split at e
  · rename_i s0 h0
    by_cases hk : s0.kd = 0
    · rw [if_pos hk] at e; cases e
    · rw [if_neg hk] at e
      obtain ⟨⟨as, ρ1⟩, ea, e⟩ := Option.bind_some' e
      obtain ⟨s, es, e⟩ := Option.bind_some' e
      obtain ⟨m, em, e⟩ := Option.bind_some' e
      obtain ⟨⟨r', as'⟩, er, e⟩ := Option.bind_some' e
      split at e
      · rename_i m' rest hr
        have hr : as' = .io m' :: rest := hr
        cases e
        obtain ⟨v0, hv0, _⟩ := R.val h0 (fun z => by rw [z] at hk; exact hk rfl)
        refine ⟨v0, hv0, Z, ρ, as, ρ1, ea, R, fun vs Z1 H1 S1 E1 R1 n1 => ?_⟩
        have es : ρ1[j]? = some s := es
        obtain ⟨a, h1, z, q, ow⟩ := R1.mo es em
        rw [hv0] at h1; cases h1
        obtain ⟨g1, g2, g3⟩ := args_rep (io := fun _ => a) R1.same n1
        have kd1 : ∀ i, kdAt (.io m :: as) i = if i = 0 then 2 else 0 := fun i => by
          cases i with
          | zero => rfl
          | succ i => rw [if_neg (Nat.succ_ne_zero i)]; exact g1 i
        have own1 : ∀ b, Own (.io m :: as) ((V.ref a :: (vs ++ [])).map some) b → b = a := fun b ⟨i, n, e⟩ => by
          rw [kd1] at n
          cases i with
          | zero => simp at e; exact e.symm
          | succ i => rw [if_neg (Nat.succ_ne_zero i)] at n; exact absurd rfl n
        show spD G Φ (V.ref a :: (vs ++ [])) H1 Q E
        rw [List.append_nil]
        refine ⟨fun _ => a, Z1, .io m :: as, r', as', er, ⟨R1.same, by simp [g2], fun i t h => ?_, fun i i' b ne hi hi' => ?_⟩, fun i => by rw [kd1]; split <;> decide, fun v Z2 H2 S2 E2 R2 n2 => ?_⟩
        · cases i with
          | zero =>
            simp at h; subst h
            exact ⟨_, rfl, rfl, z, q.to⟩
          | succ i =>
            obtain ⟨o, p1, p2⟩ := g3 i t (by simpa using h)
            exact ⟨o, by simpa using p1, p2 _⟩
        · rw [kd1] at hi hi'
          cases i with
          | zero => cases i' with
            | zero => exact absurd rfl ne
            | succ i' => exact absurd (if_neg (Nat.succ_ne_zero i')) hi'
          | succ i => exact absurd (if_neg (Nat.succ_ne_zero i)) hi
        · have r0 : as'[0]? = some (.io m') := by rw [hr]; rfl
          obtain ⟨o, p1, p2, p3, p4⟩ := R2.slot 0 _ r0
          have no : ∀ b, b ≠ a → ¬ Own (.io m :: as) ((V.ref a :: vs).map some) b := fun b n o => n (own1 b (by rw [List.append_nil]; exact o))
          obtain ⟨S3, E3, R3⟩ := mut_slotX (Z' := Z2) (H' := H2) (m' := m') R1 es em hv0 S2.zz R2.same (fun b o n h => S2.fr b o h (no b n)) (fun b n h z => S2.fz b h z (no b n)) p3 (MoAt.to (G := G.at fun _ => a) (io := io) p4)
          exact k v Z2 H2 (S1.trans S3) (E1.trans E3) R3 (New.back (New.to (G := G.at fun _ => a) (io := io) n2) S1)
      · cases e
  · cases e

/-! ### methods, fields, new objects -/
def dMeth (m : Str) (c : Nat) (Φ : DF) (o : DE) (f : DA) : DE := fun ρ => (o ρ).bind fun p => match p.1 with
  | .d (.ins c' ns ds) => if c' = c ∧ ns.contains m = false then (f p.2).bind fun q => (Φ (.d (.ins c' ns ds) :: q.1)).map fun r => (r.1, q.2) else none
  | _ => none
theorem lookup_zip_none {m : Str} : ∀ {ns : List Str} {xs : List V}, ns.contains m = false → (ns.zip xs).lookup m = none
  | [], _, _ => rfl
  | _ :: _, [], _ => rfl
  | n :: ns, x :: xs, h => by
    rw [List.contains_cons, Bool.or_eq_false_iff] at h
    rw [List.zip_cons_cons, List.lookup_cons, h.1]
    exact lookup_zip_none h.2
theorem te_meth {m : Str} {c : Nat} {Φ : DF} {o : DE} {f : DA} {Q : VK} {E : XK} {C : Addr} (hC : G.cl c = C) (h : tE (G.at io) (dMeth m c Φ o f) σ H Q) : tMeth C m (spD G Φ) [] E (tE (G.at io) o) (tA (G.at io) f) σ H Q := by
  obtain ⟨Z, ρ, r, ρ', e0, R, k⟩ := h
  obtain ⟨⟨s, ρ1⟩, eo, e⟩ := Option.bind_some' e0
  clear e0
  refine ⟨Z, ρ, s, ρ1, eo, R, fun x Z1 H1 S1 E1 R1 n1 => ?_⟩
  split at e
  · rename_i c' ns ds hs
    have hs : s = .d (.ins c' ns ds) := hs
    subst hs
    split at e
    · rename_i hc
      obtain ⟨hc, hm⟩ := hc
      subst hc
      obtain ⟨⟨as, ρ2⟩, ea, e⟩ := Option.bind_some' e
      obtain ⟨⟨r', as'⟩, er, e⟩ := Option.map_some' e
      cases e
      have ok := n1.ok
      cases ok with
      | @ins a dx _ _ xs _ h1 h2 h3 =>
        refine ⟨a, dx, ns.zip xs, rfl, by rw [← hC]; exact R1.same _ _ h1, lookup_zip_none hm, Z1, ρ1, as, ρ2, ea, R1, fun vs Z2 H2 S2 E2 R2 n2 => ?_⟩
        show spD G Φ (V.ref a :: (vs ++ [])) H2 Q E
        rw [List.append_nil]
        refine sp_call er R2.same (.cons (n1.step S2 E1 R).ok rfl n2) fun v Z3 H3 X n => ?_
        exact k v Z3 H3 ((S1.trans S2).ext X) (E1.trans E2) (X.rep R2) (n.back (S1.trans S2))
    · cases e
  · cases e
def dFld (c : Nat) (f : Str) (o : DE) : DE := fun ρ => (o ρ).bind fun p => match p.1 with
  | .d (.ins c' ns ds) => if c' = c then ((ns.zip ds).lookup f).map fun x => (.d x, p.2) else none
  | _ => none
theorem lookup_zip_some {m : Str} {x : Dat} : ∀ {ns : List Str} {xs : List V} {ds : List Dat}, IsAll G Z xs ds → (ns.zip ds).lookup m = some x → ∃ v, (ns.zip xs).lookup m = some v ∧ Is G Z v x
  | [], _, _, _, h => by cases h
  | _ :: _, [], [], _, h => by cases h
  | n :: ns, v :: xs, d :: ds, .cons q r, h => by
    rw [List.zip_cons_cons, List.lookup_cons] at h ⊢
    cases hn : m == n with
    | true => rw [hn] at h; cases h; exact ⟨v, rfl, q⟩
    | false => rw [hn] at h; exact lookup_zip_some r h
theorem te_fld {c : Nat} {f : Str} {o : DE} {Q : VK} {C : Addr} (hC : G.cl c = C) (hc : Cls G.K C) (hn : NoAttr G.K C f) (h : tE G (dFld c f o) σ H Q) : tFld G.K (tE G o) f σ H Q := by
  obtain ⟨Z, ρ, r, ρ', e0, R, k⟩ := h
  obtain ⟨⟨s, ρ1⟩, eo, e⟩ := Option.bind_some' e0
  clear e0
  refine ⟨Z, ρ, s, ρ1, eo, R, fun x Z1 H1 S1 E1 R1 n1 => ?_⟩
  split at e
  · rename_i c' ns ds hs
    have hs : s = .d (.ins c' ns ds) := hs
    subst hs
    split at e
    · rename_i hc'
      subst hc'
      obtain ⟨y, ey, e⟩ := Option.map_some' e
      cases e
      have ok := n1.ok
      cases ok with
      | @ins a dx _ _ xs _ h1 h2 h3 =>
        obtain ⟨v, p1, p2⟩ := lookup_zip_some h3 ey
        exact ⟨a, C, dx, ns.zip xs, v, rfl, by rw [← hC]; exact R1.same _ _ h1, hc, hn, p1, k v Z1 H1 S1 E1 R1 ⟨p2, fun n => absurd rfl n⟩⟩
    · cases e
  · cases e
/-- C(..), seen as data -/
def dMake (c : Nat) (Φ : DF) (f : DA) : DE := fun ρ => (f ρ).bind fun p => (Φ (.io (.obj c []) :: p.1)).bind fun q => match q.1, q.2 with
  | .d .non, .io (.obj c' fs) :: _ => if c' = c then some (.own (.obj c fs), p.2) else none
  | _, _ => none
theorem te_make {c : Nat} {Φ : DF} {f : DA} {Q : VK} {E : XK} {C : Addr} (hC : G.cl c = C) (h : tE (G.at io) (dMake c Φ f) σ H Q) : tMake C (spD G Φ) [] E (tA (G.at io) f) σ H Q := by
  obtain ⟨Z, ρ, r, ρ', e0, R, k⟩ := h
  obtain ⟨⟨as, ρ1⟩, ea, e⟩ := Option.bind_some' e0
  clear e0
  obtain ⟨⟨r', as'⟩, er, e⟩ := Option.bind_some' e
  split at e
  · rename_i c' fs rest hr1 hr2
    have hr1 : r' = .d .non := hr1
    have hr2 : as' = .io (.obj c' fs) :: rest := hr2
    split at e
    · rename_i hc
      subst hc
      cases e
      refine ⟨Z, ρ, as, ρ1, ea, R, fun vs Z1 H1 S1 E1 R1 n1 => ?_⟩
      intro x dx hx hdx ne
      rw [List.append_nil]
      have ne' : x ≠ dx := fun e => ne e.symm
      have sH : Same H1 (upd (upd H1 dx (.own x)) x (.ins C dx [])) := fun b o e => by
        rw [upd_ne (ne_of_none e hx), upd_ne (ne_of_none e hdx)]; exact e
      have X0 : Ext Z1 H1 Z1 (upd (upd H1 dx (.own x)) x (.ins C dx [])) := ⟨Same.refl _, sH, R1.same.trans sH, fun _ _ z => z⟩
      have zx : Z1 x = none := same_off R1.same hx
      obtain ⟨g1, g2, g3⟩ := args_rep (io := fun _ => x) X0.zh (n1.ext X0)
      have kd1 : ∀ i, kdAt (.io (.obj c' []) :: as) i = if i = 0 then 2 else 0 := fun i => by
        cases i with
        | zero => rfl
        | succ i => rw [if_neg (Nat.succ_ne_zero i)]; exact g1 i
      have own1 : ∀ b, Own (.io (.obj c' []) :: as) ((V.ref x :: vs).map some) b → b = x := fun b ⟨i, n, e⟩ => by
        rw [kd1] at n
        cases i with
        | zero => simp at e; exact e.symm
        | succ i => rw [if_neg (Nat.succ_ne_zero i)] at n; exact absurd rfl n
      refine ⟨fun _ => x, Z1, _, r', as', er, ⟨X0.zh, by simp [g2], fun i t h => ?_, fun i i' b nn hi hi' => ?_⟩, fun i => by rw [kd1]; split <;> decide, fun v Z2 H2 S2 E2 R2 n2 => ?_⟩
      · cases i with
        | zero =>
          simp at h; subst h
          exact ⟨_, rfl, rfl, zx, dx, [], by rw [← hC]; exact upd_same, rfl, .nil⟩
        | succ i =>
          obtain ⟨o, p1, p2⟩ := g3 i t (by simpa using h)
          exact ⟨o, by simpa using p1, p2 _⟩
      · rw [kd1] at hi hi'
        cases i with
        | zero => cases i' with
          | zero => exact absurd rfl nn
          | succ i' => exact absurd (if_neg (Nat.succ_ne_zero i')) hi'
        | succ i => exact absurd (if_neg (Nat.succ_ne_zero i)) hi
      · have r0 : as'[0]? = some (.io (.obj c' fs)) := by rw [hr2]; rfl
        obtain ⟨o, p1, p2, p3, p4⟩ := R2.slot 0 _ r0
        have no : ∀ b, b ≠ x → ¬ Own (.io (.obj c' []) :: as) ((V.ref x :: vs).map some) b := fun b n o => n (own1 b o)
        have vn : v = .non := by
          have q := n2.ok
          rw [hr1] at q
          cases q; rfl
        have X1 : Ext Z1 H1 Z2 H2 := ⟨S2.zz, fun b o e => S2.fr b o (sH b o e) (no b (ne_of_none e hx)), R2.same, fun b h z => S2.fz b (X0.dom h) z (no b (fun e => h (e ▸ hx)))⟩
        exact ⟨vn, k _ Z2 H2 (S1.ext X1) E1 (X1.rep R1) ⟨⟨x, rfl, p3, MoAt.to (G := G.at fun _ => x) (io := io) p4⟩, fun _ a e => by cases e; exact S1.back hx⟩⟩
    · cases e
  · cases e
/-- self.f = e, self the in-out object of slot i -/
def putFD (f : Str) (x : Dat) : List (Str × Dat) → List (Str × Dat)
  | [] => [(f, x)]
  | (g, y) :: r => if g = f then (f, x) :: r else (g, y) :: putFD f x r
end
end DP

set_option Elab.async false
set_option linter.all false
set_option maxRecDepth 100000
set_option maxHeartbeats 2000000
namespace DP
open PySem PySem.Spec PyProof.Rows L2
section
variable {G : Gd} {io : Nat → Addr} {Z Z' Z0 Z1 Z2 H H' H0 H1 H2 : Hp} {ρ ρ0 ρ1 ρ2 : List SD} {σ σ0 σ1 σ2 : L2.St} {D : Ends}

/-! ### intsD -/
def gI (c : Int → Int → Bool) (g : Int → Int → Dat) : SD → SD → Option SD
  | .d (.int i), .d (.int j) => if c i j = true then some (.d (g i j)) else none
  | _, _ => none
theorem New.d {x : Dat} {v : V} (h : Is G Z v x) : New G H0 Z H (.d x) v := ⟨h, fun n => absurd rfl n⟩
theorem vop_I {C : Int → Int → Prop} {c : Int → Int → Bool} {g : Int → Int → V} {g' : Int → Int → Dat} (hc : ∀ i j, c i j = true → C i j) (hg : ∀ i j Z, Is G Z (g i j) (g' i j)) : VOp2 G (rI C g) (gI c g') := by
  intro Z H x y a b d Q e z ox oy k
  unfold gI at e
  split at e
  · rename_i i j
    by_cases h : c i j = true
    · rw [if_pos h] at e; cases e
      cases ox; cases oy
      exact ⟨i, j, rfl, rfl, hc i j h, k _ Z H (Ext.refl z) (.d (hg i j Z))⟩
    · rw [if_neg h] at e; cases e
  · cases e
theorem vop_I0 {g : Int → Int → V} {g' : Int → Int → Dat} (hg : ∀ i j Z, Is G Z (g i j) (g' i j)) : VOp2 G (rI0 g) (gI (fun _ _ => true) g') := by
  intro Z H x y a b d Q e z ox oy k
  unfold gI at e
  split at e
  · rename_i i j
    cases e
    cases ox; cases oy
    exact ⟨i, j, rfl, rfl, k _ Z H (Ext.refl z) (.d (hg i j Z))⟩
  · cases e
theorem vop_or {r r' : R2} {g : SD → SD → Option SD} (h : VOp2 G r g) : VOp2 G (fun x y H Q => r x y H Q ∨ r' x y H Q) g := fun Z H x y a b d Q e z ox oy k => .inl (h Z H x y a b d Q e z ox oy k)
/-- the first that is told -/
def gOr (g g' : SD → SD → Option SD) : SD → SD → Option SD := fun a b => match g a b with
  | some d => some d
  | none => g' a b
theorem vop_or2 {r r' : R2} {g g' : SD → SD → Option SD} (h : VOp2 G r g) (h' : VOp2 G r' g') : VOp2 G (fun x y H Q => r x y H Q ∨ r' x y H Q) (gOr g g') := fun Z H x y a b d Q e z ox oy k => by
  unfold gOr at e
  cases q : g a b with
  | some d' => rw [q] at e; cases e; exact .inl (h Z H x y a b d Q q z ox oy k)
  | none => rw [q] at e; exact .inr (h' Z H x y a b d Q e z ox oy k)
/-- a list's data -/
def SD.lst : SD → Option (List Dat)
  | .d (.lst xs) => some xs
  | .own (.lst xs) => some xs
  | .io (.lst xs) => some xs
  | _ => none
def SD.tup : SD → Option (List Dat)
  | .d (.tup xs) => some xs
  | _ => none
theorem ValOk.lst {s : SD} {v : V} {xs : List Dat} (e : s.lst = some xs) (h : ValOk G Z H s v) (z : Same Z H) : ∃ a vs, v = .ref a ∧ H a = some (.lst vs) ∧ IsAll G Z vs xs := by
  unfold SD.lst at e
  split at e
  · cases e; cases h with
    | lst h k => exact ⟨_, _, rfl, z _ _ h, k⟩
  · cases e; obtain ⟨a, e, _, vs, h, q⟩ := h; exact ⟨a, vs, e, h, q⟩
  · cases e; obtain ⟨a, e, _, vs, h, q⟩ := h; exact ⟨a, vs, e, h, q⟩
  · cases e
theorem ValOk.tup {s : SD} {v : V} {xs : List Dat} (e : s.tup = some xs) (h : ValOk G Z H s v) (z : Same Z H) : ∃ a vs, v = .ref a ∧ SqT G.K H a vs ∧ IsAll G Z vs xs := by
  unfold SD.tup at e
  split at e
  · cases e; cases h with
    | tup h k => exact ⟨_, _, rfl, same_t z h, k⟩
  · cases e
def gCat : SD → SD → Option SD := fun a b => a.lst.bind fun xs => b.lst.bind fun ys => if xs.length + ys.length ≤ 100000 then some (.own (.lst (xs ++ ys))) else none
theorem vop_cat : VOp2 G rCat gCat := by
  intro Z H x y a b d Q e z ox oy k
  obtain ⟨xs, e1, e⟩ := Option.bind_some' e
  obtain ⟨ys, e2, e⟩ := Option.bind_some' e
  split at e
  · rename_i hl
    cases e
    obtain ⟨p, vs, rfl, hp, q1⟩ := ox.lst e1 z
    obtain ⟨q, ws, rfl, hq, q2⟩ := oy.lst e2 z
    refine ⟨p, q, vs, ws, rfl, rfl, hp, hq, le_line (by rw [q1.len, q2.len]; omega), fun r hr => ?_⟩
    obtain ⟨X, n⟩ := New.lst z (q1.app q2) hr
    exact k _ _ _ X n
  · cases e
def gCatT : SD → SD → Option SD := fun a b => a.tup.bind fun xs => b.tup.bind fun ys => if xs.length + ys.length ≤ 100000 then some (.d (.tup (xs ++ ys))) else none
theorem vop_catT : VOp2 G (rCatA G.K) gCatT := by
  intro Z H x y a b d Q e z ox oy k
  obtain ⟨xs, e1, e⟩ := Option.bind_some' e
  obtain ⟨ys, e2, e⟩ := Option.bind_some' e
  split at e
  · rename_i hl
    cases e
    have ox' := ox; have oy' := oy
    obtain ⟨p, vs, rfl, hp, q1⟩ := ox.tup e1 z
    obtain ⟨q, ws, rfl, hq, q2⟩ := oy.tup e2 z
    refine ⟨p, q, vs, ws, rfl, rfl, hp, hq, le_line (by rw [q1.len, q2.len]; omega), fun h0 => ?_, fun _ h0 => ?_, fun _ _ r hr => ?_⟩
    · subst h0
      cases q1
      refine k _ Z H (Ext.refl z) (.d ?_)
      unfold SD.tup at e2
      split at e2
      · cases e2; exact oy'
      · cases e2
    · subst h0
      cases q2
      refine k _ Z H (Ext.refl z) (.d ?_)
      unfold SD.tup at e1
      split at e1
      · cases e1; rw [List.append_nil]; exact ox'
      · cases e1
    · obtain ⟨X, n⟩ := New.tup z (q1.app q2) hr
      exact k _ _ _ X n
  · cases e
def gRep : SD → SD → Option SD := fun a b => match b with
  | .d (.int k) => a.lst.bind fun xs => if k ≤ 100000 ∧ -100000 ≤ k ∧ xs.length * k.toNat ≤ 100000 then some (.own (.lst (List.replicate k.toNat xs).flatten)) else none
  | _ => none
theorem IsAll.rep {vs : List V} {xs : List Dat} (h : IsAll G Z vs xs) : ∀ n, IsAll G Z (List.replicate n vs).flatten (List.replicate n xs).flatten
  | 0 => .nil
  | n + 1 => by
    rw [List.replicate_succ, List.replicate_succ, List.flatten_cons, List.flatten_cons]
    exact h.app (IsAll.rep h n)
theorem vop_rep : VOp2 G rRep gRep := by
  intro Z H x y a b d Q e z ox oy k
  unfold gRep at e
  split at e
  · rename_i n
    obtain ⟨xs, e1, e⟩ := Option.bind_some' e
    split at e
    · rename_i hl
      cases e
      obtain ⟨p, vs, rfl, hp, q1⟩ := ox.lst e1 z
      cases oy
      refine ⟨p, n, vs, rfl, rfl, hp, by omega, by omega, le_line (by rw [q1.len]; omega), fun r hr => ?_⟩
      obtain ⟨X, n⟩ := New.lst z (q1.rep n.toNat) hr
      exact k _ _ _ X n
    · cases e
  · cases e

/-! ### ==, !=, in -/
mutual
def Dat.py : Dat → Option PyData
  | .non => some .none
  | .bl b => some (.bool b)
  | .int i => some (.int i)
  | .str x => some (.str x)
  | .tup l => (pyAll l).map .tuple
  | .lst l => (pyAll l).map .list
  | .ins _ _ _ => none
def pyAll : List Dat → Option (List PyData)
  | [] => some []
  | x :: r => (Dat.py x).bind fun a => (pyAll r).map (a :: ·)
end
mutual
theorem Is.py : ∀ {v : V} {d : Dat} {p : PyData}, d.py = some p → Same Z H → Is G Z v d → Dp G.K H v p
  | _, .non, _, e, _, .non => by cases e; exact .non
  | _, .bl b, _, e, _, .bl _ => by cases e; exact .bl _
  | _, .int b, _, e, _, .int _ => by cases e; exact .int _
  | _, .str b, _, e, _, .str _ => by cases e; exact .str _
  | _, .tup l, _, e, z, .tup h k => by
    obtain ⟨ps, e1, e2⟩ := Option.map_some' (show (pyAll l).map PyData.tuple = some _ from e)
    cases e2
    exact .tup (same_t z h) (IsAll.py e1 z k)
  | _, .lst l, _, e, z, .lst h k => by
    obtain ⟨ps, e1, e2⟩ := Option.map_some' (show (pyAll l).map PyData.list = some _ from e)
    cases e2
    exact .lst (.of (z _ _ h)) (IsAll.py e1 z k)
  | _, .ins _ _ _, _, e, _, _ => by cases e
theorem IsAll.py : ∀ {vs : List V} {ds : List Dat} {ps : List PyData}, pyAll ds = some ps → Same Z H → IsAll G Z vs ds → DpAll G.K H vs ps
  | _, [], _, e, _, .nil => by cases e; exact .nil
  | _, d :: ds, _, e, z, .cons h k => by
    obtain ⟨p, e1, e⟩ := Option.bind_some' (show ((Dat.py d).bind fun a => (pyAll ds).map (a :: ·)) = some _ from e)
    obtain ⟨ps, e2, e⟩ := Option.map_some' e
    cases e
    exact .cons (Is.py e1 z h) (IsAll.py e2 z k)
end
/-- seen as data now -/
def SD.dat : SD → Option Dat
  | .d x => some x
  | .own (.lst xs) => some (.lst xs)
  | .io (.lst xs) => some (.lst xs)
  | _ => none
theorem ValOk.py {s : SD} {v : V} {x : Dat} {p : PyData} (e : s.dat = some x) (e2 : x.py = some p) (h : ValOk G Z H s v) (z : Same Z H) : Dp G.K H v p := by
  unfold SD.dat at e
  split at e
  · cases e; exact Is.py e2 z h
  · cases e
    rename_i xs
    obtain ⟨ps, e1, e2⟩ := Option.map_some' (show (pyAll xs).map PyData.list = some _ from e2)
    cases e2
    obtain ⟨a, e, _, vs, h, q⟩ := h
    subst e
    exact .lst (.of h) (IsAll.py e1 z q)
  · cases e
    rename_i xs
    obtain ⟨ps, e1, e2⟩ := Option.map_some' (show (pyAll xs).map PyData.list = some _ from e2)
    cases e2
    obtain ⟨a, e, _, vs, h, q⟩ := h
    subst e
    exact .lst (.of h) (IsAll.py e1 z q)
  · cases e
def gEq (neg : Bool) : SD → SD → Option SD := fun a b => a.dat.bind fun x => b.dat.bind fun y => x.py.bind fun p => y.py.bind fun q => if SeqAt.shaped p = true ∧ SeqAt.shaped q = true then some (.d (.bl (if neg then !PyData.eqv p q else PyData.eqv p q))) else none
theorem vop_eq : VOp2 G (rEqD G.K) (gEq false) := by
  intro Z H x y a b d Q e z ox oy k
  obtain ⟨xd, e1, e⟩ := Option.bind_some' e
  obtain ⟨yd, e2, e⟩ := Option.bind_some' e
  obtain ⟨p, e3, e⟩ := Option.bind_some' e
  obtain ⟨q, e4, e⟩ := Option.bind_some' e
  split at e
  · rename_i hs
    cases e
    exact ⟨p, q, ox.py e1 e3 z, oy.py e2 e4 z, hs.1, hs.2, k _ Z H (Ext.refl z) (.d (.bl _))⟩
  · cases e
theorem vop_ne : VOp2 G (rNeD G.K) (gEq true) := by
  intro Z H x y a b d Q e z ox oy k
  obtain ⟨xd, e1, e⟩ := Option.bind_some' e
  obtain ⟨yd, e2, e⟩ := Option.bind_some' e
  obtain ⟨p, e3, e⟩ := Option.bind_some' e
  obtain ⟨q, e4, e⟩ := Option.bind_some' e
  split at e
  · rename_i hs
    cases e
    exact ⟨p, q, ox.py e1 e3 z, oy.py e2 e4 z, hs.1, hs.2, k _ Z H (Ext.refl z) (.d (.bl _))⟩
  · cases e
/-- an int in a list or tuple of intsD -/
def Dat.int? : Dat → Option Int
  | .int i => some i
  | _ => none
def intsD : List Dat → Option (List Int)
  | [] => some []
  | .int i :: r => (intsD r).map (i :: ·)
  | _ => none
theorem ints_map : ∀ {ds : List Dat} {ns : List Int}, intsD ds = some ns → ds = ns.map Dat.int
  | [], _, e => by cases e; rfl
  | .int i :: r, _, e => by
    obtain ⟨ns, e1, e2⟩ := Option.map_some' e
    cases e2
    rw [ints_map e1]; rfl
  | .non :: r, _, e => by cases e
  | .bl _ :: r, _, e => by cases e
  | .str _ :: r, _, e => by cases e
  | .tup _ :: r, _, e => by cases e
  | .lst _ :: r, _, e => by cases e
  | .ins _ _ _ :: r, _, e => by cases e
theorem map_ints : ∀ (ns : List Int), intsD (ns.map Dat.int) = some ns
  | [] => rfl
  | n :: ns => by
    show (intsD (ns.map Dat.int)).map (n :: ·) = some (n :: ns)
    rw [map_ints ns]; rfl
def SD.seq : SD → Option (List Dat) := fun s => match s.lst with
  | some x => some x
  | none => s.tup
theorem ValOk.seq {s : SD} {v : V} {xs : List Dat} (e : s.seq = some xs) (h : ValOk G Z H s v) (z : Same Z H) : ∃ a vs, v = .ref a ∧ (SqL G.K H a vs ∨ SqT G.K H a vs) ∧ IsAll G Z vs xs := by
  unfold SD.seq at e
  split at e
  · rename_i ys q
    cases e
    obtain ⟨a, vs, e, h, q⟩ := h.lst q z
    exact ⟨a, vs, e, .inl (.of h), q⟩
  · obtain ⟨a, vs, e, h, q⟩ := h.tup e z
    exact ⟨a, vs, e, .inr h, q⟩
def gIn (neg : Bool) : SD → SD → Option SD := fun a b => match a with
  | .d (.int i) => b.seq.bind fun ds => (intsD ds).map fun ns => .d (.bl (if neg then !ns.contains i else ns.contains i))
  | _ => none
theorem flat_ints : ∀ (ns : List Int), (ns.map V.int).all flatV = true
  | [] => rfl
  | n :: ns => by rw [List.map_cons, List.all_cons, flat_ints ns]; rfl
theorem inV_ints (i : Int) : ∀ (ns : List Int), inV (.int i) (ns.map V.int) = ns.contains i
  | [] => rfl
  | n :: ns => by
    show (eqV (.int n) (.int i) || inV (.int i) (ns.map V.int)) = (n :: ns).contains i
    rw [inV_ints i ns, List.contains_cons]
    have : eqV (.int n) (.int i) = (i == n) := by
      show (n == i) = (i == n)
      exact Bool.beq_comm
    rw [this]
theorem vop_in {neg : Bool} : VOp2 G (rIn G.K neg) (gIn neg) := by
  intro Z H x y a b d Q e z ox oy k
  unfold gIn at e
  split at e
  · rename_i i
    obtain ⟨ds, e1, e⟩ := Option.bind_some' e
    obtain ⟨ns, e2, e⟩ := Option.map_some' e
    cases e
    cases ox
    obtain ⟨p, vs, rfl, hs, q⟩ := oy.seq e1 z
    rw [ints_map e2] at q
    have q := q.int
    subst q
    refine ⟨p, _, rfl, hs, rfl, flat_ints ns, ?_⟩
    rw [inV_ints]
    exact k _ Z H (Ext.refl z) (.d (.bl _))
  · cases e

/-! ### subscripts, slices, len -/
def SD.seqS : SD → Option (List Dat)
  | .scr ns => some (ns.map Dat.int)
  | s => s.seq
theorem ValOk.seqS {s : SD} {v : V} {xs : List Dat} (e : s.seqS = some xs) (h : ValOk G Z H s v) (z : Same Z H) : ∃ a vs, v = .ref a ∧ (SqL G.K H a vs ∨ SqT G.K H a vs) ∧ IsAll G Z vs xs := by
  unfold SD.seqS at e
  split at e
  · cases e
    obtain ⟨a, e1, h⟩ := h
    exact ⟨a, _, e1, .inl (z.seq h), .ints Z _⟩
  · exact h.seq e z
def gIx : SD → SD → Option SD := fun a b => match b with
  | .d (.int i) => a.seqS.bind fun xs => (atI xs i).map SD.d
  | _ => none
def rIxS2 (K : PySem.W.Frag) : R2 := fun x y H Q => rIxL K x y H Q ∨ rIxT K x y H Q
theorem IsAll.atI {vs : List V} {ds : List Dat} {i : Int} {d : Dat} (h : IsAll G Z vs ds) (e : atI ds i = some d) : ∃ v, L2.atI vs i = some v ∧ Is G Z v d := by
  unfold L2.atI at e ⊢
  rw [h.len]
  obtain ⟨j, e1, e2⟩ := Option.bind_some' e
  obtain ⟨v, e3, q⟩ := h.tA e2
  exact ⟨v, by rw [e1]; exact e3, q⟩
theorem vop_ix : VOp2 G (rIxS2 G.K) gIx := by
  intro Z H x y a b d Q e z ox oy k
  unfold gIx at e
  split at e
  · rename_i i
    obtain ⟨xs, e1, e⟩ := Option.bind_some' e
    obtain ⟨dd, e2, e⟩ := Option.map_some' e
    cases e
    cases oy
    obtain ⟨p, vs, rfl, hs, q⟩ := ox.seqS e1 z
    obtain ⟨v, e3, qv⟩ := q.atI e2
    have fin := k v Z H (Ext.refl z) (.d qv)
    rcases hs with hs | hs
    · exact .inl ⟨p, vs, i, v, rfl, rfl, hs, e3, fin⟩
    · exact .inr ⟨p, vs, i, v, rfl, rfl, hs, e3, fin⟩
  · cases e
def SD.known : SD → Option SD
  | .no => none
  | s => some s
theorem SD.known_is {s t : SD} (h : s.known = some t) : s ≠ .no ∧ s = t := by
  cases s with
  | no => cases h
  | d x => cases h; exact ⟨(fun z => nomatch z), rfl⟩
  | scr x => cases h; exact ⟨(fun z => nomatch z), rfl⟩
  | own x => cases h; exact ⟨(fun z => nomatch z), rfl⟩
  | io x => cases h; exact ⟨(fun z => nomatch z), rfl⟩
/-- the object of a slot looked at, not handed on -/
def dVarB (i : Nat) (g : SD → SD → Option SD) (f : DE) : DE := fun ρ => match ρ[i]? with
  | none => none
  | some .no => none
  | some _ => (f ρ).bind fun p => (p.2[i]?).bind fun s => (s.known).bind fun s => (g s p.1).map fun d => (d, p.2)
theorem te_varB {i : Nat} {r : R2} {g : SD → SD → Option SD} {f : DE} {Q : VK} (op : VOp2 G r g) (h : tE G (dVarB i g f) σ H Q) : tOp r (tVar i) (tE G f) σ H Q := by
  obtain ⟨Z, ρ, d, ρ', e, R, k⟩ := h
  unfold dVarB at e
  have there : ∃ v0, σ[i]? = some (some v0) := by
    split at e
    · cases e
    · cases e
    · rename_i s0 hn h0
      obtain ⟨w, h1, _⟩ := R.val h0 (fun z => hn z)
      exact ⟨w, h1⟩
  obtain ⟨v0, hv0⟩ := there
  have e : ((f ρ).bind fun p => (p.2[i]?).bind fun s => (s.known).bind fun s => (g s p.1).map fun d => (d, p.2)) = some (d, ρ') := by
    split at e
    · cases e
    · cases e
    · exact e
  obtain ⟨⟨b, ρ1⟩, eb, e⟩ := Option.bind_some' e
  obtain ⟨s, es, e⟩ := Option.bind_some' e
  obtain ⟨s2, ek, e⟩ := Option.bind_some' e
  obtain ⟨d', ed, e⟩ := Option.map_some' e
  cases e
  obtain ⟨hn, ek⟩ := SD.known_is ek
  subst ek
  refine ⟨v0, hv0, Z, ρ, b, ρ1, eb, R, fun y Z1 H1 S1 E1 R1 n1 => ?_⟩
  have es : ρ1[i]? = some s := es
  obtain ⟨w, h1, q⟩ := R1.val es hn
  rw [hv0] at h1; cases h1
  refine op Z1 H1 v0 y _ b d Q ed R1.same q n1.ok fun v Z2 H2 X n2 => ?_
  exact k v Z2 H2 (S1.ext X) E1 (X.rep R1) (n2.back S1)
end
end DP

set_option Elab.async false
set_option linter.all false
set_option maxRecDepth 100000
set_option maxHeartbeats 4000000
namespace DP
open PySem PySem.Spec PyProof.Rows L2
/-! ### sorted of a tuple of ints -/
section
variable {prog : Program} {w : World} {A : Around} {E : Value → Shared → Prop} {s : Shared}
theorem collect_tup {l : Addr} {vs : List Value} {Q : List Value → Shared → Prop} (hl : IsTup s.heap l vs.toArray)
    (h : Q vs { s with heap := (s.heap.push (seqObj "list" #[] 0)).update s.heap.objs.size (Obj.mapSeq (· ++ vs.toArray)) }) (hsz : vs.length ≤ sizeLine) :
    wpAny (model prog w) A (collect (.ref l)) Q E s := by
  obtain ⟨o, ho, hc, n, hd⟩ := id hl
  unfold collect
  refine wpAny_bind (wpAny_runValue (codeAny_builtin entry_proto_collect' ?_))
  show wpAny _ _ (do again (.builtin "list.__iadd__" ⟨[← newList [], .ref l], []⟩)) _ _ s
  refine wpAny_bind (wpAny_newList (wpAny_pure ⟨Code.quiet_builtin _ (by decide +kernel), codeAny_builtin entry_list_iadd' ?_⟩))
  show wpAny _ _ (Builtin.List.listExtendWith (.ref s.heap.objs.size) (.ref l) (.ref s.heap.objs.size)) _ _ { s with heap := s.heap.push (seqObj "list" #[] 0) }
  unfold Builtin.List.listExtendWith
  have ho' : (s.heap.push (seqObj "list" #[] 0)).get? l = some o := Heap.get?_push_of_some _ ho
  refine wpAny_bind (wpAny_typeOf (T := "tuple") ⟨o, ho', hc⟩ ?_)
  have ht : (Value.type "tuple" == Value.type "tuple") = true := by rfl
  rw [if_pos (by rw [ht]; simp)]
  refine wpAny_bind (listItems_at ho' hd ?_)
  refine wpAny_bind (listItems_at (xs := #[]) (n := 0) (Heap.get?_push_size _ rfl) rfl ?_)
  rw [if_neg (by simp)]
  refine wpAny_bind (listUpdate_at (xs := #[]) (n := 0) (Heap.get?_push_size _ rfl) rfl ?_ (Nat.zero_le _) (by show (#[] ++ vs.toArray).size ≤ sizeLine + 1; simp only [Array.size_append, List.size_toArray, List.length_nil]; omega))
  refine wpAny_pure ?_
  show wpAny (model prog w) A (do
      let o ← load s.heap.objs.size
      match o.data with
      | .seq xs _ => pure xs.toList
      | _ => unsupported "internal:collect") Q E { s with heap := (s.heap.push (seqObj "list" #[] 0)).update s.heap.objs.size (Obj.mapSeq (· ++ vs.toArray)) }
  refine wpAny_bind (wpAny_load (get?_update_seq (Heap.get?_push_size _ rfl) _) ?_)
  show wpAny _ _ (pure ((#[] : Array Value) ++ vs.toArray).toList) Q E _
  rw [show ((#[] : Array Value) ++ vs.toArray).toList = vs by simp]
  exact wpAny_pure h
theorem sorted_ints_tup {l : Addr} {vs : List Value} {ns : List Int} {Q : Value → Shared → Prop} (hl : IsTup s.heap l vs.toArray) (hI : IntsAre vs ns) (h64 : vs.length < 64)
    (h : ∀ (out : Array Value) (ns' : List Int), IntsAre out.toList ns' → ns'.Perm ns → ns'.Pairwise (· ≤ ·) → Q (.ref (s.heap.objs.size + 1)) { s with heap := sortedAll s.heap vs out }) :
    wpAny (model prog w) A (call (.builtin "sorted") [.ref l]) Q E s := by
  refine Calls.call_function_entry kind_sorted plain_sorted entry_sorted (args_sorted1 _) ?_
  unfold Builtin.«sorted»
  refine wpAny_bind (m := checkCount "sorted" 1 1 _) (wpAny_pure ?_)
  refine wpAny_bind (collect_tup hl ?_ (by rw [sizeLine_eq]; omega))
  refine wpAny_bind (wpAny_newList ?_)
  have hsz : ((s.heap.push (seqObj "list" #[] 0)).update s.heap.objs.size (Obj.mapSeq (· ++ vs.toArray))).objs.size = s.heap.objs.size + 1 := by
    rw [Heap.size_update, size_push']
  have hoL : (((s.heap.push (seqObj "list" #[] 0)).update s.heap.objs.size (Obj.mapSeq (· ++ vs.toArray))).push (seqObj "list" vs.toArray 0)).get? (s.heap.objs.size + 1) = some (seqObj "list" vs.toArray 0) := by
    rw [← hsz]; exact Heap.get?_push_size _ rfl
  show wpAny _ _ _ _ _ { s with heap := ((s.heap.push (seqObj "list" #[] 0)).update s.heap.objs.size (Obj.mapSeq (· ++ vs.toArray))).push (seqObj "list" vs.toArray 0) }
  rw [hsz]
  refine wpAny_bind (wpAny_holding (wpAny_call_entry slot_list_sort ⟨_, hoL, rfl⟩ entry_list_sort (list_sort_tree hoL hI h64 fun out ns' a1 a2 a3 => ⟨_, rfl, ?_⟩) (args_list_sort _)))
  exact wpAny_pure ⟨_, rfl, h out ns' a1 a2 a3⟩
end
section
variable {X : Cx}
def rSortedTI (K : PySem.W.Frag) : List V → Hp → VK → Prop := fun vs H Q => ∃ (a : Addr) (ns : List Int), vs = [V.ref a] ∧ SqT K H a (ns.map V.int) ∧ ns.length < 64 ∧
  ∀ (ns' : List Int) (p : Addr), ns'.Perm ns → ns'.Pairwise (· ≤ ·) → H p = none → Q (.ref p) (upd H p (.lst (ns'.map V.int)))
theorem cr_sortedTI : CallR X (.builtin "sorted") (rSortedTI X.K) := by
  intro pins s σ H vs us Q I r h
  obtain ⟨a, ns, rfl, hs, h64, q⟩ := h
  obtain ⟨its, rv, hl, _⟩ := I.tuple hs
  rw [Vals.ref1 r]
  have hi := rv.ints
  refine sorted_ints_tup hl hi (by rw [hi.length]; exact h64) fun out ns' h1 h2 h3 => ?_
  obtain ⟨ep, he'⟩ := PyProof.Rows.sortedAll_at s.heap its out
  have hlen : (ns'.map V.int).length ≤ sizeLine := by rw [List.length_map, h2.length_eq]; exact small64 h64
  exact ⟨.ref _, upd H (s.heap.objs.size + 1) (.lst (ns'.map V.int)), I.laid (t' := s.toks) (fun _ _ => PyProof.Rows.sortedAll_old) (Nat.le_succ _) ⟨hlen, out.toList, ep, vals_of_ints h1, he'⟩, rfl, q ns' _ h2 h3 (I.hok.fresh (Nat.le_succ _))⟩
end

/-! ### enumerate of a tuple -/
theorem meets_enumerate_newT (l : Addr) (items : Array Value) :
    Meets (Builtin.«enumerate.__new__» ⟨[.type "enumerate", .ref l], []⟩) (fun _ R s => s.heap.IsTuple l items ∧
      R (.ok (.ret (.ref (s.heap.push { cls := .type "tuple_iterator", data := .fields #[.ref l, .int 0 0] }).objs.size)))
        { s with heap := (s.heap.push { cls := .type "tuple_iterator", data := .fields #[.ref l, .int 0 0] }).push { cls := .type "enumerate", data := .fields #[.none, .bool false, .ref s.heap.objs.size, rawInt 0, .none, .none] } }) :=
  .of_wp fun prog w A R s h => by
    obtain ⟨hp, g, d, tk, os⟩ := s; obtain ⟨hL, h⟩ := h
    have hsub := sub_enumerate
    have q1 : ∀ {A' : Around} {E : Value → Shared → Prop} {Q : Value → Shared → Prop}, Q (.ref hp.objs.size) ⟨hp.push { cls := .type "tuple_iterator", data := .fields #[.ref l, .int 0 0] }, g, d, tk, os⟩ → wpAny (model prog w) A' (pyIter (.ref l)) Q E ⟨hp, g, d, tk, os⟩ :=
      fun q => wpAny_pyIter_tuple (s := ⟨hp, g, d, tk, os⟩) hL q
    wp_walk using q1
    refine wpAny_stack_any fun st => wpAny_pure ?_
    split
    · rename_i c _ _ _ _ _
      cases (c == Value.type "enumerate")
      · wp_walk using q1
        exact ⟨_, rfl, h⟩
      · wp_walk using q1
        exact ⟨_, rfl, h⟩
    · wp_walk using q1
      exact ⟨_, rfl, h⟩
section
variable {prog : Program} {w : World} {A : Around} {E : Value → Shared → Prop} {s : Shared}
theorem call_enumerate_tup {l : Addr} {items : Array Value} {Q : Value → Shared → Prop} (hL : s.heap.IsTuple l items)
    (h : ∀ h', IsEnum h' (s.heap.objs.size + 1) s.heap.objs.size 0 .none → h'.IsTupleIter s.heap.objs.size l 0 → h'.objs.size = s.heap.objs.size + 2 →
      (∀ b o, s.heap.get? b = some o → h'.get? b = some o) → Q (.ref (s.heap.objs.size + 1)) { s with heap := h' }) :
    wpAny (model prog w) A (call (.type "enumerate") [.ref l]) Q E s := by
  refine callType_new F.called_enumerate (by decide) (F.typeCall_enumerate_1 _) (F.newCall_enumerate_1 _) (fun obj => F.args_object_init_2 obj _) F.entry_enumerate_new
    (meets_enumerate_newT l items) ⟨hL, ?_⟩
  have hz : (s.heap.push { cls := .type "tuple_iterator", data := .fields #[.ref l, .int 0 0] }).objs.size = s.heap.objs.size + 1 := Heap.size_push ..
  show _ ∧ _
  rw [hz]
  have he : IsEnum ((s.heap.push { cls := .type "tuple_iterator", data := .fields #[.ref l, .int 0 0] }).push
      { cls := .type "enumerate", data := .fields #[.none, .bool false, .ref s.heap.objs.size, rawInt 0, .none, .none] }) (s.heap.objs.size + 1) s.heap.objs.size 0 .none := by
    have := Heap.get?_push_size (s.heap.push { cls := .type "tuple_iterator", data := .fields #[.ref l, .int 0 0] })
      (o := { cls := .type "enumerate", data := .fields #[.none, .bool false, .ref s.heap.objs.size, rawInt 0, .none, .none] }) rfl
    rw [hz] at this; exact this
  refine ⟨⟨_, he, rfl⟩, h _ he ⟨_, Heap.get?_push_of_some _ (Heap.get?_push_size _ rfl), rfl, rfl⟩ (by rw [Heap.size_push, hz]) fun b o x => Heap.get?_push_of_some _ (Heap.get?_push_of_some _ x)⟩
end
def IteT (K : PySem.W.Frag) (a : Addr) : It :=
  ⟨fun i H => ∃ (xs : List V) (x : V), SqT K H a xs ∧ xs[i]? = some x, fun i H v H' => ∃ T x, v = .ref T ∧ H T = none ∧ H' = upd H T (.tup [.int (i : Nat), x]) ∧ ∀ xs, SqT K H a xs → xs[i]? = some x, fun i H => ∃ xs : List V, SqT K H a xs ∧ xs.length ≤ i⟩
theorem turn_enumT {P : Program} {w : World} {K : PySem.W.Frag} {elts : List Expr} {kk : Nat} {tpos : Pos} (a e it : Addr) (items : Array Value) (hai : a ≠ it) (hae : a ≠ e) :
    Turn P w K (.Tuple elts kk tpos) (IteT K a) [e, it] e (fun i h => (∃ old, IsEnum h e it ((i : Nat) : Int) old) ∧ h.IsTupleIter it a i ∧ e ≠ it) where
  mem := by simp
  obj := fun i h st b hb => by
    obtain ⟨⟨old, he⟩, ⟨o, ho, hc, hd⟩, _⟩ := st
    have e' : b = e ∨ b = it := by simpa using hb
    rcases e' with z | z
    · rw [z]; exact ⟨_, he, fun v q => nomatch q⟩
    · rw [z]; exact ⟨o, ho, fun v q => by rw [hd] at q; cases q⟩
  keep := fun i h h' st k => let ⟨⟨old, he⟩, hi, hne⟩ := st; ⟨⟨old, k e (by simp) _ he⟩, hi.at fun o q => k it (by simp) o q, hne⟩
  item := by
    intro X hP hw hK hc i pins s σ H E I hf st hg
    subst hP hw hK
    obtain ⟨⟨old, he⟩, hit, hne⟩ := st
    obtain ⟨xs, x, hq, hx⟩ := hg
    obtain ⟨its, rv, p, hz⟩ := I.tuple hq
    obtain ⟨u, hu, ru⟩ := rv.get hx
    have hel : e < s.heap.objs.size := Heap.lt_size he
    have hil : it < s.heap.objs.size := by obtain ⟨_, q, _⟩ := hit; exact Heap.lt_size q
    have hi : i < its.toArray.size := by
      rw [List.size_toArray]
      exact (List.getElem?_eq_some_iff.mp hu).1
    have D := Draws.tuple (prog := X.prog) (w := X.w) (A := X.A.in1) (I.ok.hd hc) it a hai its.toArray
    refine wpAny_pyNext_enum_itemD D he ⟨hit, p⟩ hi hne (by simp [hne, Ne.symm hae]) fun x' h' tk hx' ho hst' hT hsz hk => ?_
    have ex : x' = u := by
      have q : its.toArray[i]? = some u := by simpa using hu
      rw [q] at hx'
      exact (Option.some.inj hx').symm
    subst ex
    obtain ⟨hit', _⟩ := hst'
    refine ⟨_, rfl, wpAny_letOwnedTupleGo_enum (s := { s with heap := h', toks := tk + 1 }) ho fun h'' he' sb => ?_⟩
    have hT2 : h''.get? s.heap.objs.size = some { cls := .type "tuple", data := .seq #[.int i tk, x'] } := (sb.2 _ (Nat.ne_of_gt hel)).trans hT
    have new : ObjOk X.prog X.w (upd H s.heap.objs.size (.tup [.int (i : Nat), x])) h'' s.heap.objs.size (.tup [.int (i : Nat), x]) :=
      ⟨by show 2 ≤ sizeLine; decide, [.int i tk, x'], .cons ⟨_, rfl⟩ (.cons ru .nil), ⟨_, hT2, rfl, _, rfl⟩⟩
    have I1 : Inv X pins σ (upd H s.heap.objs.size (.tup [.int (i : Nat), x])) { s with heap := h'', toks := tk + 1 } :=
      I.turnedNew (ch := [e, it]) (fun b ob hb q => (sb.2 b (fun z => hb (by simp [z]))).trans (hk b ob (fun z => hb (by simp [z])) (fun z => hb (by simp [z])) q)) hf (Nat.le_refl _) new
    refine ⟨.ref s.heap.objs.size, _, I1, rfl, ⟨_, x, rfl, I.hok.fresh (Nat.le_refl _), rfl, fun ys hy => by rw [I.tuple_inj hy hq]; exact hx⟩, ⟨⟨x', ?_⟩, hit'.at fun o q => (sb.2 it (Ne.symm hne)).trans q, hne⟩, fun b hb => ?_⟩
    · have e1 : ((i + 1 : Nat) : Int) = (i : Int) + 1 := by omega
      rw [e1]; exact he'
    · have hb' : b < s.heap.objs.size := by
        have e' : b = e ∨ b = it := by simpa using hb
        rcases e' with z | z
        · rw [z]; exact hel
        · rw [z]; exact hil
      rw [upd_ne (Nat.ne_of_lt hb')]
      exact (hf b hb).1
  done := by
    intro X hP hw hK hc i pins s σ H E I hf st hg
    subst hP hw hK
    obtain ⟨⟨old, he⟩, hit, hne⟩ := st
    obtain ⟨xs, hq, hx⟩ := hg
    obtain ⟨its, rv, p, hz⟩ := I.tuple hq
    obtain ⟨f0, f1, f2, f3, f4, f5⟩ := hf it (by simp)
    have hl := rv.length
    have hT : s.TypeIs (.ref e) "enumerate" := ⟨_, he, rfl⟩
    unfold pyNext
    refine wpAny_bind (wpAny_attempt (wpAny_callSpecial?_slot (name := Str.ofString "__next__") hT F.slot_enumerate_next
      (wpAny_call_entry F.slot_enumerate_next hT F.entry_enumerate_next ?_ (F.args_enumerate_next_1 _))))
    show wpAny _ _ (field (.ref e) 2 >>= _) _ _ _
    refine wpAny_bind (wpAny_field he rfl (x := .ref it) rfl ?_)
    refine wpAny_bind (wpAny_nextOf_tuple_end (A := X.A.in1) (I.ok.hd hc) hit p (by simp; omega) fun h' x he' hx' => ?_)
    obtain ⟨o, ho, hc'⟩ := hx'
    refine wpAny_bind (wpAny_isInstance (T := "StopIteration") (b := true) ⟨o, ho, hc'⟩ isSubtype_stop ?_)
    exact wpAny_pure ⟨rfl, I.turned (t' := s.toks) (fun b o hb q => he' b o hb q) f0 f1 f3 f4 f5⟩
  self := fun A i s Q E st h => let ⟨⟨_, he⟩, _⟩ := st; wpAny_pyIter_enum he h
end DP

set_option Elab.async false
set_option linter.all false
set_option maxRecDepth 100000
set_option maxHeartbeats 4000000
namespace DP
open PySem PySem.Spec PyProof.Rows L2
/-! ### what a for walks -/
section
variable {X : Cx} {tg : Expr}
def iSeqA (K : PySem.W.Frag) (tl : TE) : TI := fun σ H R => tl σ H fun x H1 => ∃ a, x = .ref a ∧ (((∃ xs, SqL K H1 a xs) ∧ R (Itl K a) H1) ∨ ((∃ xs, SqT K H1 a xs) ∧ R (Itt K a) H1))
theorem pi_seqA {l : Expr} {tl : TE} (hl : PE X l tl) : PI X tg l (iSeqA X.K tl) := by
  refine ⟨fun pins s σ H R I h => ?_⟩
  refine thn (hl.run pins s σ H _ I h) fun v s1 ⟨x, H1, I1, r1, q1⟩ => ?_
  obtain ⟨a, e, q1⟩ := q1
  subst e
  cases r1
  rcases q1 with ⟨⟨xs, hq⟩, q⟩ | ⟨⟨xs, hq⟩, q⟩
  · obtain ⟨its, rv, p, hz⟩ := I1.list hq
    refine wpAny_pyIter_list p.isList ?_
    refine ⟨s1.heap.objs.size, [s1.heap.objs.size], _, _, H1, rfl, I1.kept (t' := s1.toks) fun b o e => Heap.get?_push_of_some _ e, turn_list a _, ⟨_, Heap.get?_push_size _ rfl, rfl, rfl⟩, fun b hb => ?_, q⟩
    have e : b = s1.heap.objs.size := by simpa using hb
    subst e
    exact I1.fpOk (Nat.le_refl _) (I1.hok.fresh (Nat.le_refl _))
  · obtain ⟨its, rv, p, hz⟩ := I1.tuple hq
    refine wpAny_pyIter_tuple (show s1.heap.IsTuple a its.toArray from p) ?_
    refine ⟨s1.heap.objs.size, [s1.heap.objs.size], _, _, H1, rfl, I1.kept (t' := s1.toks) fun b o e => Heap.get?_push_of_some _ e, turn_tuple a _, ⟨_, Heap.get?_push_size _ rfl, rfl, rfl⟩, fun b hb => ?_, q⟩
    have e : b = s1.heap.objs.size := by simpa using hb
    subst e
    exact I1.fpOk (Nat.le_refl _) (I1.hok.fresh (Nat.le_refl _))
def iEnumA (K : PySem.W.Frag) (ta : TA) : TI := fun σ H R => ta σ H fun vs H1 => ∃ a xs, vs = [.ref a] ∧ ((SqL K H1 a xs ∧ R (Ite K a) H1) ∨ (SqT K H1 a xs ∧ R (IteT K a) H1))
theorem pi_enumA {e : Expr} {ta : TA} {p pos tpos : Pos} {elts : List Expr} {kk : Nat} (hg : Gl X "enumerate") (hm : X.mg "enumerate" = none) (ha : PA X [e] ta) (hs : starEach [e] X.env = [(false, eval e X.env)] := by rfl) :
    PI X (.Tuple elts kk tpos) (.Call (.Name "enumerate" p) [e] [] pos) (iEnumA X.K ta) := by
  refine ⟨fun pins s σ H R I h => ?_⟩
  refine Call_ (ld_blt I hg hm boot_enumerate (PyProof.Rows.callWith_type1 (thn (ha.run pos pins s σ H _ I h) fun us s1 ⟨vs, H1, I1, r1, q1⟩ => ?_) hs rfl))
  obtain ⟨a, xs, ex, q1⟩ := q1
  subst ex
  cases r1 with
  | cons r rr =>
    cases rr
    cases r
    rcases q1 with ⟨hq, q⟩ | ⟨hq, q⟩
    · obtain ⟨its, rv, p', hz⟩ := I1.list hq
      refine call_enumerate_list p'.isList fun h' he hit hsz hk => wpAny_pyIter_enum he ?_
      have I2 : Inv X pins σ H1 { s1 with heap := h' } := I1.kept (t' := s1.toks) hk
      refine ⟨s1.heap.objs.size + 1, [s1.heap.objs.size + 1, s1.heap.objs.size], _, _, H1, rfl, I2, turn_enum a (s1.heap.objs.size + 1) s1.heap.objs.size, ⟨⟨.none, he⟩, hit, Nat.succ_ne_self _⟩, fun b hb => ?_, q⟩
      have e' : b = s1.heap.objs.size + 1 ∨ b = s1.heap.objs.size := by simpa using hb
      rcases e' with z | z
      · rw [z]; exact I1.fpOk (Nat.le_succ _) (I1.hok.fresh (Nat.le_succ _))
      · rw [z]; exact I1.fpOk (Nat.le_refl _) (I1.hok.fresh (Nat.le_refl _))
    · obtain ⟨its, rv, p', hz⟩ := I1.tuple hq
      have hal : a < s1.heap.objs.size := IsTup.lt p'
      refine call_enumerate_tup (show s1.heap.IsTuple a its.toArray from p') fun h' he hit hsz hk => wpAny_pyIter_enum he ?_
      have I2 : Inv X pins σ H1 { s1 with heap := h' } := I1.kept (t' := s1.toks) hk
      refine ⟨s1.heap.objs.size + 1, [s1.heap.objs.size + 1, s1.heap.objs.size], _, _, H1, rfl, I2, turn_enumT a (s1.heap.objs.size + 1) s1.heap.objs.size its.toArray (Nat.ne_of_lt hal) (Nat.ne_of_lt (Nat.lt_succ_of_lt hal)), ⟨⟨.none, he⟩, hit, Nat.succ_ne_self _⟩, fun b hb => ?_, q⟩
      have e' : b = s1.heap.objs.size + 1 ∨ b = s1.heap.objs.size := by simpa using hb
      rcases e' with z | z
      · rw [z]; exact I1.fpOk (Nat.le_succ _) (I1.hok.fresh (Nat.le_succ _))
      · rw [z]; exact I1.fpOk (Nat.le_refl _) (I1.hok.fresh (Nat.le_refl _))
end
section
variable {G : Gd} {io : Nat → Addr} {Z Z' Z0 Z1 Z2 H H' H0 H1 H2 : Hp} {ρ ρ0 ρ1 ρ2 : List SD} {σ σ0 σ1 σ2 : L2.St} {D : Ends}
/-- the items that are walked -/
def itemsD : SD → Option (List Dat)
  | .d (.lst xs) => some xs
  | .d (.tup xs) => some xs
  | .scr ns => some (ns.map Dat.int)
  | _ => none
def dISeq (f : DE) : DI := fun ρ => (f ρ).bind fun p => (fz p.1).bind fun s => (itemsD s).map fun xs => (xs, p.2)
theorem walks_l {a : Addr} {vs : List V} {xs : List Dat} (h : ∀ Z1 H1, Same Z Z1 → Same Z1 H1 → SqL G.K H1 a vs) (q : IsAll G Z vs xs) : Walks G Z (Itl G.K a) xs := by
  intro Z1 H1 z1 z2 i
  refine ⟨fun d hd => ?_, fun hi => ⟨vs, h Z1 H1 z1 z2, by rw [q.len]; exact hi⟩⟩
  obtain ⟨v, hv, qv⟩ := q.tA hd
  refine ⟨⟨vs, v, h Z1 H1 z1 z2, hv⟩, fun x H2 hy => ?_⟩
  obtain ⟨e, hy⟩ := hy
  subst e
  have := hy vs (h Z1 _ z1 z2)
  rw [hv] at this; cases this
  exact ⟨Z1, Ext.refl z2, qv.mono z1⟩
theorem walks_t {a : Addr} {vs : List V} {xs : List Dat} (h : SqT G.K Z a vs) (q : IsAll G Z vs xs) : Walks G Z (Itt G.K a) xs := by
  intro Z1 H1 z1 z2 i
  have h' : SqT G.K H1 a vs := same_t (z1.trans z2) h
  refine ⟨fun d hd => ?_, fun hi => ⟨vs, h', by rw [q.len]; exact hi⟩⟩
  obtain ⟨v, hv, qv⟩ := q.tA hd
  refine ⟨⟨vs, v, h', hv⟩, fun x H2 hy => ?_⟩
  obtain ⟨e, hy⟩ := hy
  subst e
  have := hy vs h'
  rw [hv] at this; cases this
  exact ⟨Z1, Ext.refl z2, qv.mono z1⟩
theorem ti_seq {f : DE} {R : It → Hp → Prop} (h : tI G (dISeq f) σ H R) : iSeqA G.K (tE G f) σ H R := by
  obtain ⟨Z, ρ, r, ρ', e, R0, k⟩ := h
  obtain ⟨⟨s, ρ1⟩, ea, e⟩ := Option.bind_some' e
  obtain ⟨s2, ef, e⟩ := Option.bind_some' e
  obtain ⟨xs, ei, e⟩ := Option.map_some' e
  cases e
  refine ⟨Z, ρ, s, ρ1, ea, R0, fun v Z1 H1 S1 E1 R1 n1 => ?_⟩
  obtain ⟨Z2, S2, R2, n2, _, k0⟩ := fz_new (H0 := H) ef n1 S1 E1 R0 R1
  unfold itemsD at ei
  split at ei
  · cases ei
    have ok := n2.ok
    cases ok with
    | lst h q => exact ⟨_, rfl, .inl ⟨⟨_, .of (R2.same _ _ h)⟩, k _ Z2 H1 S2 E1 R2 (walks_l (fun Z3 H3 z1 z2 => .of (z2 _ _ (z1 _ _ h))) q)⟩⟩
  · cases ei
    have ok := n2.ok
    cases ok with
    | tup h q => exact ⟨_, rfl, .inr ⟨⟨_, same_t R2.same h⟩, k _ Z2 H1 S2 E1 R2 (walks_t h q)⟩⟩
  · cases ei
    obtain ⟨a, e, h⟩ := n2.ok
    subst e
    exact ⟨a, rfl, .inl ⟨⟨_, R2.same.seq h⟩, k _ Z2 H1 S2 E1 R2 (walks_l (fun Z3 H3 z1 z2 => (z1.trans z2).seq h) (IsAll.ints Z2 _))⟩⟩
  · cases ei
/-! ranges -/
def rgD (a b : Int) : List Dat := (List.range (b - a).toNat).map fun i => Dat.int (a + (i : Nat))
theorem walks_r {lo : Int} {n : Nat} : Walks G Z (Itr lo n) ((List.range n).map fun i => Dat.int (lo + (i : Nat))) := by
  intro Z1 H1 z1 z2 i
  refine ⟨fun d hd => ?_, fun hi => ?_⟩
  · rw [List.getElem?_map] at hd
    obtain ⟨j, hj, e⟩ := Option.map_some' hd
    have hi : i < n := by
      have := (List.getElem?_eq_some_iff.mp hj).1
      simpa using this
    have ej : j = i := by
      rw [List.getElem?_range hi] at hj
      exact (Option.some.inj hj).symm
    subst e ej
    refine ⟨hi, fun x H2 hy => ?_⟩
    obtain ⟨e1, e2⟩ := hy
    subst e1 e2
    exact ⟨Z1, Ext.refl z2, .int _⟩
  · show n ≤ i
    simpa using hi
def dIRng1 (f : DA) : DI := fun ρ => (f ρ).bind fun p => match p.1 with
  | [.d (.int j)] => if -1000000 ≤ j ∧ j ≤ 1000000 then some (rgD 0 j, p.2) else none
  | _ => none
def dIRng2 (f : DA) : DI := fun ρ => (f ρ).bind fun p => match p.1 with
  | [.d (.int i), .d (.int j)] => if (-1000000 ≤ i ∧ i ≤ 1000000) ∧ -1000000 ≤ j ∧ j ≤ 1000000 then some (rgD i j, p.2) else none
  | _ => none
theorem ti_rng1 {f : DA} {R : It → Hp → Prop} (h : tI G (dIRng1 f) σ H R) : iRng1 (tA G f) σ H R := by
  obtain ⟨Z, ρ, r, ρ', e, R0, k⟩ := h
  obtain ⟨⟨as, ρ1⟩, ea, e⟩ := Option.bind_some' e
  refine ⟨Z, ρ, as, ρ1, ea, R0, fun vs Z1 H1 S1 E1 R1 n1 => ?_⟩
  split at e
  · rename_i j hs
    have hs : as = [.d (.int j)] := hs
    subst hs
    split at e
    · rename_i hj
      cases e
      cases n1 with
      | cons h1 _ h2 =>
        cases h2; cases h1
        refine ⟨j, rfl, by omega, by omega, k _ Z1 H1 S1 E1 R1 ?_⟩
        have : rgD 0 j = (List.range j.toNat).map fun i => Dat.int (0 + (i : Nat)) := by unfold rgD; rw [Int.sub_zero]
        rw [this]
        exact walks_r
    · cases e
  · cases e
theorem ti_rng2 {f : DA} {R : It → Hp → Prop} (h : tI G (dIRng2 f) σ H R) : iRng2 (tA G f) σ H R := by
  obtain ⟨Z, ρ, r, ρ', e, R0, k⟩ := h
  obtain ⟨⟨as, ρ1⟩, ea, e⟩ := Option.bind_some' e
  refine ⟨Z, ρ, as, ρ1, ea, R0, fun vs Z1 H1 S1 E1 R1 n1 => ?_⟩
  split at e
  · rename_i i j hs
    have hs : as = [.d (.int i), .d (.int j)] := hs
    subst hs
    split at e
    · rename_i hj
      cases e
      cases n1 with
      | cons h1 _ h2 =>
        cases h2 with
        | cons h3 _ h4 =>
          cases h4; cases h1; cases h3
          exact ⟨i, j, rfl, by omega, k _ Z1 H1 S1 E1 R1 walks_r⟩
    · cases e
  · cases e
/-! enumerate, zip -/
def enumD (xs : List Dat) : List Dat := (List.range xs.length).zipWith (fun i x => Dat.tup [.int (i : Nat), x]) xs
theorem enumD_at {xs : List Dat} {i : Nat} {d : Dat} (h : (enumD xs)[i]? = some d) : ∃ x, xs[i]? = some x ∧ d = .tup [.int (i : Nat), x] := by
  unfold enumD at h
  rw [List.getElem?_zipWith] at h
  cases hx : xs[i]? with
  | none => rw [hx] at h; split at h <;> simp_all
  | some x =>
    have hi : i < xs.length := (List.getElem?_eq_some_iff.mp hx).1
    rw [hx, List.getElem?_range hi] at h
    exact ⟨x, rfl, (Option.some.inj h).symm⟩
theorem enumD_len (xs : List Dat) : (enumD xs).length = xs.length := by
  unfold enumD
  rw [List.length_zipWith, List.length_range]; omega
theorem new_pair {T : Addr} {v w : V} {x y : Dat} (z : Same Z H) (hT : H T = none) (h1 : Is G Z v x) (h2 : Is G Z w y) : ∃ Z2, Ext Z H Z2 (upd H T (.tup [v, w])) ∧ Is G Z2 (.ref T) (.tup [x, y]) := by
  obtain ⟨X, n⟩ := New.tup (G := G) z (.cons h1 (.one h2)) hT
  exact ⟨_, X, n.ok⟩
theorem walks_el {a : Addr} {vs : List V} {xs : List Dat} (h : ∀ Z1 H1, Same Z Z1 → Same Z1 H1 → SqL G.K H1 a vs) (q : IsAll G Z vs xs) : Walks G Z (Ite G.K a) (enumD xs) := by
  intro Z1 H1 z1 z2 i
  refine ⟨fun d hd => ?_, fun hi => ⟨vs, h Z1 H1 z1 z2, by rw [q.len]; rw [enumD_len] at hi; exact hi⟩⟩
  obtain ⟨x, hx, e⟩ := enumD_at hd
  subst e
  obtain ⟨v, hv, qv⟩ := q.tA hx
  refine ⟨⟨vs, v, h Z1 H1 z1 z2, hv⟩, fun y H2 hy => ?_⟩
  obtain ⟨T, w, e1, hT, e2, hw⟩ := hy
  subst e1 e2
  have := hw vs (h Z1 _ z1 z2)
  rw [hv] at this; cases this
  exact new_pair z2 hT (.int _) (qv.mono z1)
theorem walks_et {a : Addr} {vs : List V} {xs : List Dat} (h : SqT G.K Z a vs) (q : IsAll G Z vs xs) : Walks G Z (IteT G.K a) (enumD xs) := by
  intro Z1 H1 z1 z2 i
  have h' : SqT G.K H1 a vs := same_t (z1.trans z2) h
  refine ⟨fun d hd => ?_, fun hi => ⟨vs, h', by rw [q.len]; rw [enumD_len] at hi; exact hi⟩⟩
  obtain ⟨x, hx, e⟩ := enumD_at hd
  subst e
  obtain ⟨v, hv, qv⟩ := q.tA hx
  refine ⟨⟨vs, v, h', hv⟩, fun y H2 hy => ?_⟩
  obtain ⟨T, w, e1, hT, e2, hw⟩ := hy
  subst e1 e2
  have := hw vs h'
  rw [hv] at this; cases this
  exact new_pair z2 hT (.int _) (qv.mono z1)
def dIEnum (f : DA) : DI := fun ρ => (f ρ).bind fun p => match p.1 with
  | [s] => (itemsD s).map fun xs => (enumD xs, p.2)
  | _ => none
theorem ti_enum {f : DA} {R : It → Hp → Prop} (h : tI G (dIEnum f) σ H R) : iEnumA G.K (tA G f) σ H R := by
  obtain ⟨Z, ρ, r, ρ', e, R0, k⟩ := h
  obtain ⟨⟨as, ρ1⟩, ea, e⟩ := Option.bind_some' e
  refine ⟨Z, ρ, as, ρ1, ea, R0, fun vs Z1 H1 S1 E1 R1 n1 => ?_⟩
  split at e
  · rename_i s hs
    have hs : as = [s] := hs
    subst hs
    obtain ⟨xs, ei, e⟩ := Option.map_some' e
    cases e
    cases n1 with
    | cons h1 _ h2 =>
      cases h2
      unfold itemsD at ei
      split at ei
      · cases ei
        cases h1 with
        | lst h q => exact ⟨_, _, rfl, .inl ⟨.of (R1.same _ _ h), k _ Z1 H1 S1 E1 R1 (walks_el (fun Z3 H3 z1 z2 => .of (z2 _ _ (z1 _ _ h))) q)⟩⟩
      · cases ei
        cases h1 with
        | tup h q => exact ⟨_, _, rfl, .inr ⟨same_t R1.same h, k _ Z1 H1 S1 E1 R1 (walks_et h q)⟩⟩
      · cases ei
        obtain ⟨a, e, h⟩ := h1
        subst e
        exact ⟨_, _, rfl, .inl ⟨R1.same.seq h, k _ Z1 H1 S1 E1 R1 (walks_el (fun Z3 H3 z1 z2 => (z1.trans z2).seq h) (IsAll.ints Z1 _))⟩⟩
      · cases ei
  · cases e
def zipDD (xs ys : List Dat) : List Dat := xs.zipWith (fun x y => Dat.tup [x, y]) ys
theorem zipDD_at {xs ys : List Dat} {i : Nat} {d : Dat} (h : (zipDD xs ys)[i]? = some d) : ∃ x y, xs[i]? = some x ∧ ys[i]? = some y ∧ d = .tup [x, y] := by
  unfold zipDD at h
  rw [List.getElem?_zipWith] at h
  cases hx : xs[i]? with
  | none => rw [hx] at h; simp at h
  | some x =>
    cases hy : ys[i]? with
    | none => rw [hx, hy] at h; simp at h
    | some y => rw [hx, hy] at h; exact ⟨x, y, rfl, rfl, (Option.some.inj h).symm⟩
theorem walks_zl {a b : Addr} {vs ws : List V} {xs ys : List Dat} (h : ∀ Z1 H1, Same Z Z1 → Same Z1 H1 → SqL G.K H1 a vs) (q : IsAll G Z vs xs) (h' : ∀ Z1 H1, Same Z Z1 → Same Z1 H1 → SqL G.K H1 b ws) (q' : IsAll G Z ws ys) : Walks G Z (Itz G.K a b) (zipDD xs ys) := by
  intro Z1 H1 z1 z2 i
  refine ⟨fun d hd => ?_, fun hi => ⟨vs, ws, h Z1 H1 z1 z2, h' Z1 H1 z1 z2, ?_⟩⟩
  · obtain ⟨x, y, hx, hy, e⟩ := zipDD_at hd
    subst e
    obtain ⟨v, hv, qv⟩ := q.tA hx
    obtain ⟨w, hw, qw⟩ := q'.tA hy
    refine ⟨⟨vs, ws, v, w, h Z1 H1 z1 z2, h' Z1 H1 z1 z2, hv, hw⟩, fun u H2 hu => ?_⟩
    obtain ⟨T, p1, p2, e1, hT, e2, g1, g2⟩ := hu
    subst e1 e2
    have := g1 vs (h Z1 _ z1 z2)
    rw [hv] at this; cases this
    have := g2 ws (h' Z1 _ z1 z2)
    rw [hw] at this; cases this
    exact new_pair z2 hT (qv.mono z1) (qw.mono z1)
  · unfold zipDD at hi
    rw [List.length_zipWith] at hi
    rw [q.len, q'.len]
    omega
theorem walks_zt {a b : Addr} {vs ws : List V} {xs ys : List Dat} (h : SqT G.K Z a vs) (q : IsAll G Z vs xs) (h' : SqT G.K Z b ws) (q' : IsAll G Z ws ys) : Walks G Z (RZ.ItzT G.K a b) (zipDD xs ys) := by
  intro Z1 H1 z1 z2 i
  have k1 : SqT G.K H1 a vs := same_t (z1.trans z2) h
  have k2 : SqT G.K H1 b ws := same_t (z1.trans z2) h'
  refine ⟨fun d hd => ?_, fun hi => ⟨vs, ws, k1, k2, ?_⟩⟩
  · obtain ⟨x, y, hx, hy, e⟩ := zipDD_at hd
    subst e
    obtain ⟨v, hv, qv⟩ := q.tA hx
    obtain ⟨w, hw, qw⟩ := q'.tA hy
    refine ⟨⟨vs, ws, v, w, k1, k2, hv, hw⟩, fun u H2 hu => ?_⟩
    obtain ⟨T, p1, p2, e1, hT, e2, g1, g2⟩ := hu
    subst e1 e2
    have := g1 vs k1
    rw [hv] at this; cases this
    have := g2 ws k2
    rw [hw] at this; cases this
    exact new_pair z2 hT (qv.mono z1) (qw.mono z1)
  · unfold zipDD at hi
    rw [List.length_zipWith] at hi
    rw [q.len, q'.len]
    omega
def dIZip (f : DA) : DI := fun ρ => (f ρ).bind fun p => match p.1 with
  | [.d (.lst xs), .d (.lst ys)] => some (zipDD xs ys, p.2)
  | [.d (.tup xs), .d (.tup ys)] => some (zipDD xs ys, p.2)
  | _ => none
theorem ti_zip {f : DA} {R : It → Hp → Prop} (h : tI G (dIZip f) σ H R) : RZ.iZipA G.K (tA G f) σ H R := by
  obtain ⟨Z, ρ, r, ρ', e, R0, k⟩ := h
  obtain ⟨⟨as, ρ1⟩, ea, e⟩ := Option.bind_some' e
  refine ⟨Z, ρ, as, ρ1, ea, R0, fun vs Z1 H1 S1 E1 R1 n1 => ?_⟩
  split at e
  · rename_i xs ys hs
    have hs : as = _ := hs
    subst hs
    cases e
    cases n1 with
    | cons h1 _ h2 =>
      cases h2 with
      | cons h3 _ h4 =>
        cases h4
        cases h1 with
        | lst p q => cases h3 with
          | lst p' q' => exact ⟨_, _, _, _, rfl, .inl ⟨.of (R1.same _ _ p), .of (R1.same _ _ p'), k _ Z1 H1 S1 E1 R1 (walks_zl (fun Z3 H3 z1 z2 => .of (z2 _ _ (z1 _ _ p))) q (fun Z3 H3 z1 z2 => .of (z2 _ _ (z1 _ _ p'))) q')⟩⟩
  · rename_i xs ys hs
    have hs : as = _ := hs
    subst hs
    cases e
    cases n1 with
    | cons h1 _ h2 =>
      cases h2 with
      | cons h3 _ h4 =>
        cases h4
        cases h1 with
        | tup p q => cases h3 with
          | tup p' q' => exact ⟨_, _, _, _, rfl, .inr ⟨same_t R1.same p, same_t R1.same p', k _ Z1 H1 S1 E1 R1 (walks_zt p q p' q')⟩⟩
  · cases e
end
end DP

set_option Elab.async false
set_option linter.all false
set_option maxRecDepth 100000
set_option maxHeartbeats 4000000
namespace DP
open PySem PySem.Spec PyProof.Rows L2
section
variable {G : Gd} {io : Nat → Addr} {Z Z' Z0 Z1 Z2 H H' H0 H1 H2 : Hp} {ρ ρ0 ρ1 ρ2 : List SD} {σ σ0 σ1 σ2 : L2.St} {D : Ends}
/-! ### list comprehensions -/
def wipeD (ρ : List SD) : List Nat → List SD
  | [] => ρ
  | v :: vs => (wipeD ρ vs).set v .no
theorem wipeD_len (ρ : List SD) : ∀ vs, (wipeD ρ vs).length = ρ.length
  | [] => rfl
  | v :: vs => by unfold wipeD; rw [List.length_set, wipeD_len ρ vs]
theorem wipeD_get (ρ : List SD) (i : Nat) : ∀ vs : List Nat, (wipeD ρ vs)[i]? = if i ∈ vs then (ρ[i]?).map (fun _ => SD.no) else ρ[i]?
  | [] => by rw [if_neg (by simp)]; rfl
  | v :: vs => by
    unfold wipeD
    rw [List.getElem?_set, wipeD_get ρ i vs, wipeD_len]
    by_cases e : v = i
    · subst e
      rw [if_pos rfl, if_pos (List.mem_cons_self ..)]
      split
      · rename_i h; rw [List.getElem?_eq_getElem h]; rfl
      · rename_i h; rw [List.getElem?_eq_none_iff.mpr (by omega)]; rfl
    · rw [if_neg e]
      have : (i ∈ v :: vs) = (i ∈ vs) := by simp [Ne.symm e]
      simp only [this]
theorem wipe_get (σ : L2.St) (i : Nat) : ∀ vs : List Nat, (wipe σ vs)[i]? = if i ∈ vs then (σ[i]?).map (fun _ => none) else σ[i]?
  | [] => by rw [if_neg (by simp)]; rfl
  | v :: vs => by
    unfold wipe
    rw [List.getElem?_set, wipe_get σ i vs, wipe_length]
    by_cases e : v = i
    · subst e
      rw [if_pos rfl, if_pos (List.mem_cons_self ..)]
      split
      · rename_i h; rw [List.getElem?_eq_getElem h]; rfl
      · rename_i h; rw [List.getElem?_eq_none_iff.mpr (by omega)]; rfl
    · rw [if_neg e]
      have : (i ∈ v :: vs) = (i ∈ vs) := by simp [Ne.symm e]
      simp only [this]
theorem wipe_set {σ : L2.St} {j : Nat} {x : Option V} {vs : List Nat} (h : j ∈ vs) : wipe (σ.set j x) vs = wipe σ vs := by
  refine List.ext_getElem? fun i => ?_
  rw [wipe_get, wipe_get]
  by_cases hi : i ∈ vs
  · rw [if_pos hi, if_pos hi, List.getElem?_set]
    by_cases e : j = i
    · rw [if_pos e]
      subst e
      split
      · rename_i hl; rw [List.getElem?_eq_getElem hl]; rfl
      · rename_i hl; rw [List.getElem?_eq_none_iff.mpr (by omega)]
    · rw [if_neg e]
  · rw [if_neg hi, if_neg hi, List.getElem?_set, if_neg (show ¬ j = i from fun e => hi (e ▸ h))]
theorem wipe_wipe (σ : L2.St) (vs : List Nat) : wipe (wipe σ vs) vs = wipe σ vs := by
  refine List.ext_getElem? fun i => ?_
  rw [wipe_get, wipe_get]
  by_cases hi : i ∈ vs
  · rw [if_pos hi, if_pos hi, Option.map_map]; rfl
  · rw [if_neg hi]
theorem kd_wipe (ρ : List SD) (vs : List Nat) (i : Nat) : kdAt (wipeD ρ vs) i = if i ∈ vs then 0 else kdAt ρ i := by
  unfold kdAt
  rw [wipeD_get]
  by_cases h : i ∈ vs
  · rw [if_pos h, if_pos h]; cases ρ[i]? <;> rfl
  · rw [if_neg h, if_neg h]
theorem own_wipe {vs : List Nat} {b : Addr} (o : Own (wipeD ρ vs) (wipe σ vs) b) : Own ρ σ b := by
  obtain ⟨i, n, e⟩ := o
  rw [kd_wipe] at n
  by_cases h : i ∈ vs
  · rw [if_pos h] at n; exact absurd rfl n
  · rw [if_neg h] at n
    rw [wipe_get, if_neg h] at e
    exact ⟨i, n, e⟩
theorem ownL_wipe {vs : List Nat} {b : Addr} (o : OwnL (wipeD ρ vs) (wipe σ vs) b) : OwnL ρ σ b := by
  obtain ⟨i, n, e⟩ := o
  rw [kd_wipe] at n
  by_cases h : i ∈ vs
  · rw [if_pos h] at n; cases n
  · rw [if_neg h] at n
    rw [wipe_get, if_neg h] at e
    exact ⟨i, n, e⟩
theorem rep_wipe (R : Rep G Z ρ σ H) (vs : List Nat) : Rep G Z (wipeD ρ vs) (wipe σ vs) H := by
  refine ⟨R.same, by rw [wipe_length, wipeD_len]; exact R.len, fun i s h => ?_, fun i j a ne hi hj e1 e2 => ?_⟩
  · rw [wipeD_get] at h
    rw [wipe_get]
    by_cases hv : i ∈ vs
    · rw [if_pos hv] at h ⊢
      obtain ⟨t, ht, e⟩ := Option.map_some' h
      subst e
      obtain ⟨o, h1, _⟩ := R.slot i t ht
      rw [h1]
      exact ⟨none, rfl, trivial⟩
    · rw [if_neg hv] at h ⊢
      exact R.slot i s h
  · rw [kd_wipe] at hi hj
    by_cases h1 : i ∈ vs
    · rw [if_pos h1] at hi; exact hi rfl
    · by_cases h2 : j ∈ vs
      · rw [if_pos h2] at hj; exact hj rfl
      · rw [if_neg h1] at hi
        rw [if_neg h2] at hj
        rw [wipe_get, if_neg h1] at e1
        rw [wipe_get, if_neg h2] at e2
        exact R.dis i j a ne hi hj e1 e2
theorem step_wipe (S : Step Z0 ρ0 σ0 H0 Z ρ σ H) (vs : List Nat) : Step Z0 ρ0 σ0 H0 Z (wipeD ρ vs) (wipe σ vs) H := ⟨S.zz, S.fr, S.fz, S.dom, fun b o => S.ow b (own_wipe o), fun b o => S.owl b (ownL_wipe o)⟩
/-- the slots at vs hold no object of their own -/
def plainAt (ρ : List SD) (vs : List Nat) : Bool := vs.all fun i => kdAt ρ i == 0
/-- the slots at vs as they were -/
def restD (ρ0 ρ : List SD) : List Nat → List SD
  | [] => ρ
  | v :: vs => (restD ρ0 ρ vs).set v ((ρ0[v]?).getD .no)
theorem restD_len (ρ0 ρ : List SD) : ∀ vs, (restD ρ0 ρ vs).length = ρ.length
  | [] => rfl
  | v :: vs => by unfold restD; rw [List.length_set, restD_len ρ0 ρ vs]
theorem restD_get {ρ0 ρ : List SD} (hl : ρ0.length = ρ.length) (i : Nat) : ∀ vs : List Nat, (restD ρ0 ρ vs)[i]? = if i ∈ vs then ρ0[i]? else ρ[i]?
  | [] => by rw [if_neg (by simp)]; rfl
  | v :: vs => by
    unfold restD
    rw [List.getElem?_set, restD_get hl i vs, restD_len]
    by_cases e : v = i
    · subst e
      rw [if_pos rfl, if_pos (List.mem_cons_self ..)]
      split
      · rename_i h
        rw [List.getElem?_eq_getElem (show v < ρ0.length by omega)]; rfl
      · rename_i h; rw [List.getElem?_eq_none_iff.mpr (by omega)]
    · rw [if_neg e]
      have : (i ∈ v :: vs) = (i ∈ vs) := by simp [Ne.symm e]
      simp only [this]
/-- behind a comprehension -/
theorem rest_rep {ρc : List SD} {Zc Hc : Hp} {vs : List Nat} (R : Rep G Z ρ σ H) (pl : plainAt ρ vs = true) (S : Step Z (wipeD ρ vs) (wipe σ vs) H Zc ρc (wipe σ vs) Hc) (E : ES (wipeD ρ vs) ρc) (Rc : Rep G Zc ρc (wipe σ vs) Hc) :
    Step Z ρ σ H Zc (restD ρ ρc vs) σ Hc ∧ ES ρ (restD ρ ρc vs) ∧ Rep G Zc (restD ρ ρc vs) σ Hc := by
  have hl : ρ.length = ρc.length := by rw [E.len, wipeD_len]
  have pl : ∀ i ∈ vs, kdAt ρ i = 0 := fun i hi => by
    have := List.all_eq_true.mp pl i hi
    simpa using this
  have kdr : ∀ i, kdAt (restD ρ ρc vs) i = if i ∈ vs then 0 else kdAt ρc i := fun i => by
    by_cases h : i ∈ vs
    · rw [if_pos h, ← pl i h]; unfold kdAt; rw [restD_get hl, if_pos h]
    · rw [if_neg h]; unfold kdAt; rw [restD_get hl, if_neg h]
  have es : ES ρ (restD ρ ρc vs) := ⟨by rw [restD_len]; exact hl.symm, fun i n => by
    rw [kdr] at n ⊢
    by_cases h : i ∈ vs
    · rw [if_pos h] at n; exact absurd rfl n
    · rw [if_neg h] at n ⊢
      have := E.kd i n
      rw [kd_wipe, if_neg h] at this
      exact this⟩
  have ownb : ∀ b, Own ρ σ b → Own (wipeD ρ vs) (wipe σ vs) b := fun b ⟨i, n, e⟩ => by
    have h : i ∉ vs := fun h => n (pl i h)
    exact ⟨i, by rw [kd_wipe, if_neg h]; exact n, by rw [wipe_get, if_neg h]; exact e⟩
  refine ⟨⟨S.zz, fun b o h n => S.fr b o h fun q => n (own_wipe q), fun b h z n => S.fz b h z fun q => n (own_wipe q), S.dom, fun b o => .inl (es.own o), fun b o => .inl (es.ownL o)⟩, es, Rc.same, by rw [restD_len, ← hl]; exact R.len, fun i s h => ?_, fun i j a ne hi hj e1 e2 => ?_⟩
  · rw [restD_get hl] at h
    by_cases hv : i ∈ vs
    · rw [if_pos hv] at h
      obtain ⟨o, h1, h2⟩ := R.slot i s h
      refine ⟨o, h1, ?_⟩
      have k0 : s.kd = 0 := by have := pl i hv; unfold kdAt at this; rw [h] at this; exact this
      cases s with
      | no => trivial
      | d x => obtain ⟨v, e, q⟩ := h2; exact ⟨v, e, q.mono S.zz⟩
      | scr x => obtain ⟨a, e, q⟩ := h2; exact ⟨a, e, S.zz.seq q⟩
      | own m => exact absurd k0 (by simp [SD.kd])
      | io m => exact absurd k0 (by simp [SD.kd])
    · rw [if_neg hv] at h
      obtain ⟨o, h1, h2⟩ := Rc.slot i s h
      rw [wipe_get, if_neg hv] at h1
      exact ⟨o, h1, h2⟩
  · exact R.dis i j a ne (by rw [es.kd i hi]; exact hi) (by rw [es.kd j hj]; exact hj) e1 e2

/-- an object beside is changed -/
theorem side_step {a : Addr} {o : HO} (S : Step Z0 ρ0 σ0 H0 Z ρ σ H) (h : H0 a = none) : Step Z0 ρ0 σ0 H0 Z ρ σ (upd H a o) :=
  ⟨S.zz, fun b u e n => by rw [upd_ne (ne_of_none e h)]; exact S.fr b u e n, S.fz, fun b e => by
    unfold upd
    split
    · exact fun z => nomatch z
    · exact S.dom b e, S.ow, S.owl⟩
theorem side_rep {a : Addr} {o : HO} (R : Rep G Z ρ σ H) (n : ¬ Own ρ σ a) (z : Z a = none) : Rep G Z ρ σ (upd H a o) := by
  refine ⟨fun b u e => by rw [upd_ne (ne_of_none e z)]; exact R.same b u e, R.len, fun i s h => ?_, R.dis⟩
  obtain ⟨w, h1, h2⟩ := R.slot i s h
  refine ⟨w, h1, ?_⟩
  have far : ∀ c, s.kd ≠ 0 → σ[i]? = some (some (.ref c)) → c ≠ a := fun c k e1 e2 => n ⟨i, by unfold kdAt; rw [h]; exact k, e2 ▸ e1⟩
  cases s with
  | no => trivial
  | d y => exact h2
  | scr ns => exact h2
  | own x =>
    obtain ⟨c, e1, zc, k⟩ := h2
    subst e1
    have fc := far c (by simp [SD.kd]) h1
    exact ⟨c, rfl, zc, k.mono (Same.refl _) fun w e => by rw [upd_ne fc]; exact e⟩
  | io x =>
    obtain ⟨e1, zc, k⟩ := h2
    subst e1
    have fc := far _ (by simp [SD.kd]) h1
    exact ⟨rfl, zc, k.mono (Same.refl _) fun w e => by rw [upd_ne fc]; exact e⟩
/-- the turns of a comprehension: slots, items, what is made -/
def lcLoop (vs : List Nat) (g : DG) (t : DT) (f : DE) : List Dat → List SD → List Dat → Option (List Dat × List SD)
  | [], ρ, acc => some (acc, ρ)
  | x :: r, ρ, acc => (g (.d x) ρ).bind fun ρ1 => (t ρ1).bind fun p => if p.1 = true then
      (f p.2).bind fun q => (fz q.1).bind fun s => match s with
        | .d y => if acc.length < 50000 then lcLoop vs g t f r (wipeD q.2 vs) (acc ++ [y]) else none
        | _ => none
      else lcLoop vs g t f r (wipeD p.2 vs) acc
def dLC (vs : List Nat) (i : DI) (g : DG) (t : DT) (f : DE) : DE := fun ρ => (i ρ).bind fun p => if plainAt p.2 vs = true then (lcLoop vs g t f p.1 (wipeD p.2 vs) []).map fun q => (.own (.lst q.1), restD p.2 q.2 vs) else none
/-- a target that stores at the slots vs alone -/
def Within (vs : List Nat) (gr : TG) (g : DG) (G : Gd) : Prop := ∀ (Z0 H0 : Hp) (ρ0 : List SD) (σ0 : L2.St) (Z H : Hp) (ρ : List SD) (σ : L2.St) (v : V) (x : Dat) (ρ1 : List SD) (Q : L2.St → Hp → Prop),
  g (.d x) ρ = some ρ1 → Step Z0 ρ0 σ0 H0 Z ρ σ H → Rep G Z ρ σ H → Is G Z v x → (∀ σ1, wipe σ1 vs = wipe σ vs → ES ρ ρ1 → Step Z0 ρ0 σ0 H0 Z ρ1 σ1 H → Rep G Z ρ1 σ1 H → Q σ1 H) → gr v σ H Q
theorem within_name {j : Nat} {vs : List Nat} (h : j ∈ vs) : Within vs (gName j) (dgName j) G := by
  intro Z0 H0 ρ0 σ0 Z H ρ σ v x ρ1 Q e S R q k
  unfold dgName at e
  split at e
  · rename_i hl
    cases e
    obtain ⟨S', R'⟩ := store_slot (s := .d x) (v := v) S R ⟨q, fun n => absurd rfl n⟩ (fun n => absurd rfl n) hl (by simp [SD.kd])
    exact k _ (wipe_set h) ⟨List.length_set, fun i hi => by
      rw [kdAt_set] at hi ⊢
      by_cases e : j = i
      · rw [if_pos e] at hi
        split at hi <;> exact absurd rfl hi
      · rw [if_neg e]⟩ S' R'
  · cases e
def gNames : List Nat → TGs
  | [] => gNil
  | j :: js => gCons (gName j) (gNames js)
def dgNames : List Nat → DGs
  | [] => dgNil
  | j :: js => dgCons (dgName j) (dgNames js)
theorem names_ok {vs : List Nat} : ∀ (js : List Nat), (∀ j ∈ js, j ∈ vs) → ∀ (Z0 H0 : Hp) (ρ0 : List SD) (σ0 : L2.St) (Z H : Hp) (ρ : List SD) (σ : L2.St) (ws : List V) (xs : List Dat) (ρ1 : List SD) (Q : L2.St → Hp → Prop),
    dgNames js (xs.map SD.d) ρ = some ρ1 → Step Z0 ρ0 σ0 H0 Z ρ σ H → Rep G Z ρ σ H → IsAll G Z ws xs → (∀ σ1, wipe σ1 vs = wipe σ vs → ES ρ ρ1 → Step Z0 ρ0 σ0 H0 Z ρ1 σ1 H → Rep G Z ρ1 σ1 H → Q σ1 H) → gNames js ws σ H Q
  | [], _, Z0, H0, ρ0, σ0, Z, H, ρ, σ, ws, xs, ρ1, Q, e, S, R, q, k => by
    cases q with
    | nil => cases e; exact ⟨rfl, k σ rfl (ES.refl _) S R⟩
    | cons _ _ => cases e
  | j :: js, hj, Z0, H0, ρ0, σ0, Z, H, ρ, σ, ws, xs, ρ1, Q, e, S, R, q, k => by
    cases q with
    | nil => cases e
    | @cons w ws x xs h1 h2 =>
      obtain ⟨ρ2, e1, e2⟩ := Option.bind_some' (show ((dgName j (.d x) ρ).bind fun ρ1 => dgNames js (xs.map SD.d) ρ1) = some ρ1 from e)
      refine ⟨w, ws, rfl, within_name (G := G) (hj j (List.mem_cons_self ..)) Z0 H0 ρ0 σ0 Z H ρ σ w x ρ2 _ e1 S R h1 fun σ1 w1 k1 S1 R1 => ?_⟩
      exact names_ok js (fun j h => hj j (List.mem_cons_of_mem _ h)) Z0 H0 ρ0 σ0 Z H ρ2 σ1 ws xs ρ1 Q e2 S1 R1 h2 fun σ2 w2 k2 S2 R2 => k σ2 (w2.trans w1) (k1.trans k2) S2 R2
theorem within_tup {js : List Nat} {n : Nat} {vs : List Nat} (h : ∀ j ∈ js, j ∈ vs) : Within vs (gTup G.K n (gNames js)) (dgTup n (dgNames js)) G := by
  intro Z0 H0 ρ0 σ0 Z H ρ σ v x ρ1 Q e S R q k
  unfold dgTup at e
  split at e
  · rename_i ds hd
    cases hd
    split at e
    · rename_i hl
      cases q with
      | tup h1 h2 => exact ⟨_, _, rfl, same_t R.same h1, by rw [h2.len]; exact hl, names_ok js h Z0 H0 ρ0 σ0 Z H ρ σ _ _ ρ1 Q e S R h2 k⟩
    · cases e
  · cases e
theorem te_lc {vs : List Nat} {i : DI} {gr : TG} {g : DG} {t : DT} {f : DE} {Q : VK} (hw : Within vs gr g G) (h : tE G (dLC vs i g t f) σ H Q) : tLc (tI G i) gr (tT G t) (tE G f) vs σ H Q := by
  obtain ⟨Z, ρ, r, ρ', e, R, k⟩ := h
  obtain ⟨⟨ds, ρ1⟩, ei, e⟩ := Option.bind_some' e
  split at e
  · rename_i pl
    obtain ⟨⟨ys, ρe⟩, el, e⟩ := Option.map_some' e
    cases e
    refine ⟨Z, ρ, ds, ρ1, ei, R, fun J Z1 H1 S1 E1 R1 wk => ?_⟩
    intro Dl hD
    have S1' := S1
    have Rw := rep_wipe R1 vs
    have ownH : ∀ b, Own (wipeD ρ1 vs) (wipe σ vs) b → H1 b ≠ none := fun b o => Rw.there o
    refine ⟨fun n m H' => m = ds.length - n ∧ n ≤ ds.length ∧ ∃ Zc ρc acc vs', lcLoop vs g t f (ds.drop n) ρc acc = some (ys, ρe) ∧ Step Z1 (wipeD ρ1 vs) (wipe σ vs) H1 Zc ρc (wipe σ vs) H' ∧ ES (wipeD ρ1 vs) ρc ∧ Rep G Zc ρc (wipe σ vs) H' ∧ H' Dl = some (.lst vs') ∧ IsAll G Zc vs' acc ∧ Zc Dl = none,
      ⟨ds.length, by omega, by omega, Z1, wipeD ρ1 vs, [], [], el, ?_, ES.refl _, ?_, upd_same, .nil, same_off R1.same hD⟩, ?_⟩
    · exact (Ext.new R1.same hD).step _ _
    · exact (Ext.new R1.same hD).rep Rw
    · rintro n m H' ⟨rfl, hn, Zc, ρc, acc, vs', ec, Sc, Ec, Rc, hDl, qa, zD⟩
      obtain ⟨w1, w2⟩ := wk Zc H' Sc.zz Rc.same n
      have noD : ∀ {ρx : List SD}, ES (wipeD ρ1 vs) ρx → ¬ Own ρx (wipe σ vs) Dl := fun {ρx} E o => ownH Dl (E.own o) hD
      by_cases hl : n < ds.length
      · have hx : ds[n]? = some ds[n] := List.getElem?_eq_getElem hl
        obtain ⟨go, yld⟩ := w1 _ hx
        rw [List.drop_eq_getElem_cons hl] at ec
        unfold lcLoop at ec
        obtain ⟨ρb, eg, ec⟩ := Option.bind_some' ec
        obtain ⟨⟨b, ρt⟩, et, ec⟩ := Option.bind_some' ec
        refine .inr ⟨go, fun H'' => n + 1 ≤ ds.length ∧ ∃ Zc ρc acc vs', lcLoop vs g t f (ds.drop (n + 1)) ρc acc = some (ys, ρe) ∧ Step Z1 (wipeD ρ1 vs) (wipe σ vs) H1 Zc ρc (wipe σ vs) H'' ∧ ES (wipeD ρ1 vs) ρc ∧ Rep G Zc ρc (wipe σ vs) H'' ∧ H'' Dl = some (.lst vs') ∧ IsAll G Zc vs' acc ∧ Zc Dl = none,
          fun H'' ⟨p1, p2⟩ => ⟨ds.length - (n + 1), by omega, rfl, p1, p2⟩, fun x H'' hy => ?_⟩
        obtain ⟨Zy, Xy, qy⟩ := yld x H'' hy
        refine hw Z1 H1 (wipeD ρ1 vs) (wipe σ vs) Zy H'' ρc (wipe σ vs) x ds[n] ρb _ eg (Sc.ext Xy) (Xy.rep Rc) qy fun σ2 ws2 es2 S2 R2 => ?_
        rw [wipe_wipe] at ws2
        have Eb : ES (wipeD ρ1 vs) ρb := Ec.trans es2
        have E2 : ∀ {ρx : List SD}, ES ρb ρx → ES (wipeD ρ1 vs) (wipeD ρx vs) := fun {ρx} E => by
          have E' := Eb.trans E
          refine ⟨by rw [wipeD_len]; exact E'.len, fun i hi => ?_⟩
          rw [kd_wipe ρx] at hi ⊢
          by_cases hv : i ∈ vs
          · rw [if_pos hv] at hi; exact absurd rfl hi
          · rw [if_neg hv] at hi ⊢
            exact E'.kd i hi
        have noD2 : ∀ {ρx : List SD}, ES ρb ρx → ¬ Own ρx σ2 Dl := fun {ρx} E ⟨i, hi, e⟩ => by
          have k1 := (Eb.trans E).kd i hi
          have hv : i ∉ vs := fun hv => by
            rw [kd_wipe, if_pos hv] at k1
            exact hi k1.symm
          have e2 : (wipe σ vs)[i]? = some (some (.ref Dl)) := by
            rw [← ws2, wipe_get, if_neg hv]; exact e
          exact ownH Dl ⟨i, by rw [k1]; exact hi, e2⟩ hD
        have hDy : H'' Dl = some (.lst vs') := Xy.hh _ _ hDl
        have zDy : Zy Dl = none := Xy.fz Dl (by rw [hDl]; exact fun z => nomatch z) zD
        refine ⟨ws2, Zy, ρb, b, ρt, et, R2, fun Z3 H3 S3 E3 R3 => ?_⟩
        have hD3 : H3 Dl = some (.lst vs') := S3.fr _ _ hDy (noD2 (ES.refl _))
        have zD3 : Z3 Dl = none := S3.fz Dl (by rw [hDy]; exact fun z => nomatch z) zDy (noD2 (ES.refl _))
        have q3 : IsAll G Z3 vs' acc := qa.mono (Xy.zz.trans S3.zz)
        cases b with
        | false =>
          refine iteF ⟨hl, Z3, wipeD ρt vs, acc, vs', ec, ?_, E2 E3, ?_, hD3, q3, zD3⟩
          · have := step_wipe (S2.trans S3) vs
            rw [ws2] at this; exact this
          · have := rep_wipe R3 vs
            rw [ws2] at this; exact this
        | true =>
          have ec : ((f ρt).bind fun q => (fz q.1).bind fun s => match s with
            | .d y => if acc.length < 50000 then lcLoop vs g t f (ds.drop (n + 1)) (wipeD q.2 vs) (acc ++ [y]) else none
            | _ => none) = some (ys, ρe) := ec
          obtain ⟨⟨s, ρf⟩, ef, ec⟩ := Option.bind_some' ec
          obtain ⟨s2, es2, ec⟩ := Option.bind_some' ec
          refine iteT ⟨Z3, ρt, s, ρf, ef, R3, fun y Z4 H4 S4 E4 R4 n4 => ?_⟩
          obtain ⟨Z5, S5, R5, n5, zz5, k5⟩ := fz_new (H0 := H3) es2 n4 S4 E4 R3 R4
          split at ec
          · rename_i yd
            split at ec
            · rename_i hacc
              have hD4 : H4 Dl = some (.lst vs') := S5.fr _ _ hD3 (noD2 E3)
              have zD5 : Z5 Dl = none := S5.fz Dl (by rw [hD3]; exact fun z => nomatch z) zD3 (noD2 E3)
              have q5 : IsAll G Z5 vs' acc := q3.mono S5.zz
              have S6 := step_wipe (S2.trans (S3.trans S5)) vs
              have R6 := rep_wipe R5 vs
              rw [ws2] at S6 R6
              refine ⟨vs', hD4, lt_line (by rw [q5.len]; omega), hl, Z5, wipeD ρf vs, acc ++ [yd], vs' ++ [y], ec, side_step S6 hD, E2 (E3.trans E4), side_rep R6 (fun o => ownH Dl ((E2 (E3.trans E4)).own o) hD) zD5, upd_same, q5.app (.one n5.ok), zD5⟩
            · cases ec
          · cases ec
      · have hn' : n = ds.length := by omega
        subst hn'
        rw [List.drop_length] at ec
        cases ec
        obtain ⟨S6, E6, R6⟩ := rest_rep R1 pl Sc Ec Rc
        refine .inl ⟨w2 (Nat.le_refl _), k _ Zc H' (S1.trans S6) (E1.trans E6) R6 ⟨⟨Dl, rfl, zD, vs', hDl, qa⟩, fun _ a e => ?_⟩⟩
        cases e
        exact S1.back hD
  · cases e
end
end DP

set_option Elab.async false
set_option linter.all false
set_option maxRecDepth 100000
set_option maxHeartbeats 4000000
namespace DP
open PySem PySem.Spec PyProof.Rows L2
section
variable {G : Gd} {io : Nat → Addr} {Z Z' Z0 Z1 Z2 H H' H0 H1 H2 : Hp} {ρ ρ0 ρ1 ρ2 : List SD} {σ σ0 σ1 σ2 : L2.St} {D : Ends}
/-! ### what is built in -/
def rLenA (K : PySem.W.Frag) : List V → Hp → VK → Prop := fun xs H Q => ∃ p ys, xs = [.ref p] ∧ (SqL K H p ys ∨ SqT K H p ys) ∧ Q (.int ys.length) H
def lenD : SD → Option Nat
  | .scr ns => some ns.length
  | s => (s.seq).map List.length
theorem lenD_ok {s : SD} {v : V} {n : Nat} (e : lenD s = some n) (q : ValOk G Z H s v) (z : Same Z H) : ∃ p ys, v = .ref p ∧ (SqL G.K H p ys ∨ SqT G.K H p ys) ∧ ys.length = n := by
  unfold lenD at e
  split at e
  · cases e
    obtain ⟨a, e1, h⟩ := q
    exact ⟨a, _, e1, .inl (z.seq h), by simp⟩
  · obtain ⟨xs, e1, e2⟩ := Option.map_some' e
    obtain ⟨p, vs, e3, h, k⟩ := q.seq e1 z
    exact ⟨p, vs, e3, h, by rw [k.len]; exact e2⟩
def gLen : List SD → Option SD
  | [s] => (lenD s).map fun (n : Nat) => .d (.int (n : Int))
  | _ => none
theorem vopL_len : VOpL G (rLenA G.K) gLen := by
  intro Z H xs as d Q e z ar k
  unfold gLen at e
  split at e
  · rename_i s
    obtain ⟨n, e1, e⟩ := Option.map_some' e
    cases e
    cases ar with
    | cons h1 _ h2 =>
      cases h2
      obtain ⟨p, ys, e2, h, hl⟩ := lenD_ok e1 h1 z
      subst e2 hl
      exact ⟨p, ys, rfl, h, k _ Z H (Ext.refl z) (.d (.int _))⟩
  · cases e
/-- len of what a slot holds -/
def dLenB (i : Nat) : DE := fun ρ => (ρ[i]?).bind fun s => (s.known).bind fun s => (lenD s).map fun (n : Nat) => (.d (.int (n : Int)), ρ)
theorem te_lenB {i : Nat} {Q : VK} (h : tE G (dLenB i) σ H Q) : tCB (rLenA G.K) (tCons (tVar i) tNil) σ H Q := by
  obtain ⟨Z, ρ, r, ρ', e, R, k⟩ := h
  obtain ⟨s, es, e⟩ := Option.bind_some' e
  obtain ⟨s2, ek, e⟩ := Option.bind_some' e
  obtain ⟨n, en, e⟩ := Option.map_some' e
  cases e
  obtain ⟨hn, ek⟩ := SD.known_is ek
  subst ek
  obtain ⟨v, h1, q⟩ := R.val es hn
  obtain ⟨p, ys, e2, h, hl⟩ := lenD_ok en q R.same
  subst e2 hl
  exact ⟨_, h1, p, ys, rfl, h, k _ Z H (Step.refl ..) (ES.refl _) R (.d (.int _))⟩
def gList : List SD → Option SD
  | [.d (.lst xs)] => some (.own (.lst xs))
  | [.d (.tup xs)] => some (.own (.lst xs))
  | [.scr ns] => some (.own (.lst (ns.map Dat.int)))
  | _ => none
def rListA (K : PySem.W.Frag) : List V → Hp → VK → Prop := fun xs H Q => ∃ p ys, xs = [.ref p] ∧ (SqL K H p ys ∨ SqT K H p ys) ∧ ∀ l, H l = none → Q (.ref l) (upd H l (.lst ys))
theorem vopL_list : VOpL G (rListA G.K) gList := by
  intro Z H xs as d Q e z ar k
  unfold gList at e
  split at e
  · cases e
    cases ar with
    | cons h1 _ h2 =>
      cases h2
      cases h1 with
      | lst h q => exact ⟨_, _, rfl, .inl (.of (z _ _ h)), fun l hl => let ⟨X, n⟩ := New.lst z q hl; k _ _ _ X n⟩
  · cases e
    cases ar with
    | cons h1 _ h2 =>
      cases h2
      cases h1 with
      | tup h q => exact ⟨_, _, rfl, .inr (same_t z h), fun l hl => let ⟨X, n⟩ := New.lst z q hl; k _ _ _ X n⟩
  · cases e
    cases ar with
    | cons h1 _ h2 =>
      cases h2
      obtain ⟨a, e1, h⟩ := h1
      subst e1
      exact ⟨_, _, rfl, .inl (z.seq h), fun l hl => let ⟨X, n⟩ := New.lst z (IsAll.ints Z _) hl; k _ _ _ X n⟩
  · cases e
def gTuple : List SD → Option SD
  | [.d (.lst xs)] => some (.d (.tup xs))
  | [.d (.tup xs)] => some (.d (.tup xs))
  | [.scr ns] => some (.d (.tup (ns.map Dat.int)))
  | _ => none
def rTupleA (K : PySem.W.Frag) : List V → Hp → VK → Prop := fun xs H Q => ∃ p ys, xs = [.ref p] ∧ ((SqL K H p ys ∧ ∀ l, H l = none → Q (.ref l) (upd H l (.tup ys))) ∨ (SqT K H p ys ∧ Q (.ref p) H))
theorem vopL_tuple : VOpL G (rTupleA G.K) gTuple := by
  intro Z H xs as d Q e z ar k
  unfold gTuple at e
  split at e
  · cases e
    cases ar with
    | cons h1 _ h2 =>
      cases h2
      cases h1 with
      | lst h q => exact ⟨_, _, rfl, .inl ⟨.of (z _ _ h), fun l hl => let ⟨X, n⟩ := New.tup z q hl; k _ _ _ X n⟩⟩
  · cases e
    cases ar with
    | cons h1 _ h2 =>
      cases h2
      have h1' := h1
      cases h1 with
      | tup h q => exact ⟨_, _, rfl, .inr ⟨same_t z h, k _ Z H (Ext.refl z) (.d h1')⟩⟩
  · cases e
    cases ar with
    | cons h1 _ h2 =>
      cases h2
      obtain ⟨a, e1, h⟩ := h1
      subst e1
      exact ⟨_, _, rfl, .inl ⟨z.seq h, fun l hl => let ⟨X, n⟩ := New.tup z (IsAll.ints Z _) hl; k _ _ _ X n⟩⟩
  · cases e
def gInt : List SD → Option SD
  | [.d (.int i)] => some (.d (.int i))
  | [.d (.bl b)] => some (.d (.int (if b then 1 else 0)))
  | _ => none
def rIntA : List V → Hp → VK → Prop := fun xs H Q => (∃ i, xs = [.int i] ∧ Q (.int i) H) ∨ ∃ k, xs = [.bl k] ∧ Q (.int (if k then 1 else 0)) H
theorem vopL_int : VOpL G rIntA gInt := by
  intro Z H xs as d Q e z ar k
  unfold gInt at e
  split at e
  · cases e
    cases ar with
    | cons h1 _ h2 => cases h2; cases h1; exact .inl ⟨_, rfl, k _ Z H (Ext.refl z) (.d (.int _))⟩
  · cases e
    cases ar with
    | cons h1 _ h2 => cases h2; cases h1; exact .inr ⟨_, rfl, k _ Z H (Ext.refl z) (.d (.int _))⟩
  · cases e
def gAbs : List SD → Option SD
  | [.d (.int i)] => some (.d (.int (if i < 0 then -i else i)))
  | _ => none
def rAbsA : List V → Hp → VK → Prop := fun xs H Q => ∃ i, xs = [.int i] ∧ Q (.int (if i < 0 then -i else i)) H
theorem vopL_abs : VOpL G rAbsA gAbs := by
  intro Z H xs as d Q e z ar k
  unfold gAbs at e
  split at e
  · cases e
    cases ar with
    | cons h1 _ h2 => cases h2; cases h1; exact ⟨_, rfl, k _ Z H (Ext.refl z) (.d (.int _))⟩
  · cases e
def gMax2 : List SD → Option SD
  | [.d (.int i), .d (.int j)] => some (.d (.int (if j > i then j else i)))
  | _ => none
def gMin2 : List SD → Option SD
  | [.d (.int i), .d (.int j)] => some (.d (.int (if j < i then j else i)))
  | _ => none
def rMax2A : List V → Hp → VK → Prop := fun xs H Q => ∃ i j, xs = [.int i, .int j] ∧ Q (.int (if j > i then j else i)) H
def rMin2A : List V → Hp → VK → Prop := fun xs H Q => ∃ i j, xs = [.int i, .int j] ∧ Q (.int (if j < i then j else i)) H
theorem vopL_max2 : VOpL G rMax2A gMax2 := by
  intro Z H xs as d Q e z ar k
  unfold gMax2 at e
  split at e
  · cases e
    cases ar with
    | cons h1 _ h2 => cases h2 with
      | cons h3 _ h4 => cases h4; cases h1; cases h3; exact ⟨_, _, rfl, k _ Z H (Ext.refl z) (.d (.int _))⟩
  · cases e
theorem vopL_min2 : VOpL G rMin2A gMin2 := by
  intro Z H xs as d Q e z ar k
  unfold gMin2 at e
  split at e
  · cases e
    cases ar with
    | cons h1 _ h2 => cases h2 with
      | cons h3 _ h4 => cases h4; cases h1; cases h3; exact ⟨_, _, rfl, k _ Z H (Ext.refl z) (.d (.int _))⟩
  · cases e
/-- a list of ints -/
def intsOf : List SD → Option (List Int)
  | [.d (.lst xs)] => intsD xs
  | [.scr ns] => some ns
  | _ => none
theorem intsOf_ok {as : List SD} {vs : List V} {ns : List Int} (e : intsOf as = some ns) (ar : ArgsOk G Z H as vs) (z : Same Z H) : ∃ a, vs = [.ref a] ∧ SqL G.K H a (ns.map V.int) := by
  unfold intsOf at e
  split at e
  · cases ar with
    | cons h1 _ h2 =>
      cases h2
      cases h1 with
      | lst h q =>
        rw [ints_map e] at q
        have q := q.int
        subst q
        exact ⟨_, rfl, .of (z _ _ h)⟩
  · cases e
    cases ar with
    | cons h1 _ h2 =>
      cases h2
      obtain ⟨a, e1, h⟩ := h1
      subst e1
      exact ⟨a, rfl, z.seq h⟩
  · cases e
def gSum (as : List SD) : Option SD := (intsOf as).map fun ns => .d (.int ns.sum)
theorem vopL_sum : VOpL G (rSum G.K) gSum := by
  intro Z H xs as d Q e z ar k
  obtain ⟨ns, e1, e⟩ := Option.map_some' e
  cases e
  obtain ⟨a, e2, h⟩ := intsOf_ok e1 ar z
  exact ⟨a, ns, e2, h, k _ Z H (Ext.refl z) (.d (.int _))⟩
/-- the least, the greatest -/
def minI : List Int → Option Int
  | [] => none
  | x :: r => some (r.foldl (fun a b => if b < a then b else a) x)
def maxI : List Int → Option Int
  | [] => none
  | x :: r => some (r.foldl (fun a b => if a < b then b else a) x)
theorem fold_min : ∀ (r : List Int) (x : Int), (r.foldl (fun a b => if b < a then b else a) x = x ∨ r.foldl (fun a b => if b < a then b else a) x ∈ r) ∧ r.foldl (fun a b => if b < a then b else a) x ≤ x ∧ ∀ y ∈ r, r.foldl (fun a b => if b < a then b else a) x ≤ y
  | [], x => ⟨.inl rfl, Int.le_refl _, fun y h => by simp at h⟩
  | b :: r, x => by
    obtain ⟨h1, h2, h3⟩ := fold_min r (if b < x then b else x)
    rw [List.foldl_cons]
    refine ⟨?_, ?_, fun y hy => ?_⟩
    · rcases h1 with h | h
      · rw [h]; split
        · exact .inr (List.mem_cons_self ..)
        · exact .inl rfl
      · exact .inr (List.mem_cons_of_mem _ h)
    · refine Int.le_trans h2 ?_
      split <;> omega
    · rcases List.mem_cons.mp hy with e | h
      · rw [e]; refine Int.le_trans h2 ?_
        split <;> omega
      · exact h3 y h
theorem fold_max : ∀ (r : List Int) (x : Int), (r.foldl (fun a b => if a < b then b else a) x = x ∨ r.foldl (fun a b => if a < b then b else a) x ∈ r) ∧ x ≤ r.foldl (fun a b => if a < b then b else a) x ∧ ∀ y ∈ r, y ≤ r.foldl (fun a b => if a < b then b else a) x
  | [], x => ⟨.inl rfl, Int.le_refl _, fun y h => by simp at h⟩
  | b :: r, x => by
    obtain ⟨h1, h2, h3⟩ := fold_max r (if x < b then b else x)
    rw [List.foldl_cons]
    refine ⟨?_, ?_, fun y hy => ?_⟩
    · rcases h1 with h | h
      · rw [h]; split
        · exact .inr (List.mem_cons_self ..)
        · exact .inl rfl
      · exact .inr (List.mem_cons_of_mem _ h)
    · refine Int.le_trans ?_ h2
      split <;> omega
    · rcases List.mem_cons.mp hy with e | h
      · rw [e]; refine Int.le_trans ?_ h2
        split <;> omega
      · exact h3 y h
theorem minI_is {ns : List Int} {m : Int} (e : minI ns = some m) : m ∈ ns ∧ ∀ y ∈ ns, m ≤ y := by
  cases ns with
  | nil => cases e
  | cons x r =>
    cases e
    obtain ⟨h1, h2, h3⟩ := fold_min r x
    refine ⟨?_, fun y hy => ?_⟩
    · rcases h1 with h | h
      · rw [h]; exact List.mem_cons_self ..
      · exact List.mem_cons_of_mem _ h
    · rcases List.mem_cons.mp hy with e | h
      · rw [e]; exact h2
      · exact h3 y h
theorem maxI_is {ns : List Int} {m : Int} (e : maxI ns = some m) : m ∈ ns ∧ ∀ y ∈ ns, y ≤ m := by
  cases ns with
  | nil => cases e
  | cons x r =>
    cases e
    obtain ⟨h1, h2, h3⟩ := fold_max r x
    refine ⟨?_, fun y hy => ?_⟩
    · rcases h1 with h | h
      · rw [h]; exact List.mem_cons_self ..
      · exact List.mem_cons_of_mem _ h
    · rcases List.mem_cons.mp hy with e | h
      · rw [e]; exact h2
      · exact h3 y h
def gMin (as : List SD) : Option SD := (intsOf as).bind fun ns => (minI ns).map fun m => .d (.int m)
def gMax (as : List SD) : Option SD := (intsOf as).bind fun ns => (maxI ns).map fun m => .d (.int m)
theorem vopL_min : VOpL G (rMin G.K) gMin := by
  intro Z H xs as d Q e z ar k
  obtain ⟨ns, e1, e⟩ := Option.bind_some' e
  obtain ⟨m, e3, e⟩ := Option.map_some' e
  cases e
  obtain ⟨a, e2, h⟩ := intsOf_ok e1 ar z
  obtain ⟨m1, m2⟩ := minI_is e3
  refine ⟨a, ns, e2, h, List.length_pos_of_mem m1, fun m' h1 h2 => ?_⟩
  have : m' = m := Int.le_antisymm (h2 m m1) (m2 m' h1)
  subst this
  exact k _ Z H (Ext.refl z) (.d (.int _))
theorem vopL_max : VOpL G (rMax G.K) gMax := by
  intro Z H xs as d Q e z ar k
  obtain ⟨ns, e1, e⟩ := Option.bind_some' e
  obtain ⟨m, e3, e⟩ := Option.map_some' e
  cases e
  obtain ⟨a, e2, h⟩ := intsOf_ok e1 ar z
  obtain ⟨m1, m2⟩ := maxI_is e3
  refine ⟨a, ns, e2, h, List.length_pos_of_mem m1, fun m' h1 h2 => ?_⟩
  have : m' = m := Int.le_antisymm (m2 m' h1) (h2 m m1)
  subst this
  exact k _ Z H (Ext.refl z) (.d (.int _))
/-- sorted, below 64 items -/
def insI (x : Int) : List Int → List Int
  | [] => [x]
  | y :: r => if x ≤ y then x :: y :: r else y :: insI x r
def sortI : List Int → List Int
  | [] => []
  | x :: r => insI x (sortI r)
theorem insI_perm (x : Int) : ∀ r, (insI x r).Perm (x :: r)
  | [] => .refl _
  | y :: r => by
    unfold insI
    split
    · exact .refl _
    · exact ((insI_perm x r).cons y).trans (.swap x y r)
theorem sortI_perm : ∀ ns, (sortI ns).Perm ns
  | [] => .refl _
  | x :: r => (insI_perm x _).trans ((sortI_perm r).cons x)
theorem insI_up (x : Int) : ∀ {r : List Int}, r.Pairwise (· ≤ ·) → (insI x r).Pairwise (· ≤ ·)
  | [], _ => List.pairwise_singleton ..
  | y :: r, h => by
    obtain ⟨h1, h2⟩ := List.pairwise_cons.mp h
    unfold insI
    split
    · rename_i c
      refine List.pairwise_cons.mpr ⟨fun z hz => ?_, h⟩
      rcases List.mem_cons.mp hz with e | e
      · omega
      · have := h1 z e; omega
    · rename_i c
      refine List.pairwise_cons.mpr ⟨fun z hz => ?_, insI_up x h2⟩
      rcases List.mem_cons.mp ((insI_perm x r).mem_iff.mp hz) with e | e
      · omega
      · exact h1 z e
theorem sortI_up : ∀ ns, (sortI ns).Pairwise (· ≤ ·)
  | [] => .nil
  | x :: r => insI_up x (sortI_up r)
theorem sortI_is {ns ns' : List Int} (h1 : ns'.Perm ns) (h2 : ns'.Pairwise (· ≤ ·)) : ns' = sortI ns :=
  PySem.W.ksm_same (h1.trans (sortI_perm ns).symm) h2 (sortI_up ns)
theorem sortI_len (ns : List Int) : (sortI ns).length = ns.length := (sortI_perm ns).length_eq
def seqInts : List SD → Option (List Int)
  | [s] => (itemsD s).bind intsD
  | _ => none
def rSortedA (K : PySem.W.Frag) : List V → Hp → VK → Prop := fun vs H Q => rSorted K vs H Q ∨ rSortedTI K vs H Q
def gSorted (as : List SD) : Option SD := (seqInts as).bind fun ns => if ns.length < 64 then some (.own (.lst ((sortI ns).map Dat.int))) else none
theorem intsD_int (ns : List Int) : intsD (ns.map Dat.int) = some ns := map_ints ns
theorem vopL_sorted : VOpL G (rSortedA G.K) gSorted := by
  intro Z H xs as d Q e z ar k
  obtain ⟨ns, e1, e⟩ := Option.bind_some' e
  split at e
  · rename_i hl
    cases e
    have fin : ∀ (ns' : List Int) (p : Addr), ns'.Perm ns → ns'.Pairwise (· ≤ ·) → H p = none → Q (.ref p) (upd H p (.lst (ns'.map V.int))) := fun ns' p h1 h2 hp => by
      have e := sortI_is h1 h2
      subst e
      obtain ⟨X, n⟩ := New.lst (G := G) z (IsAll.ints Z (sortI ns)) hp
      exact k _ _ _ X n
    unfold seqInts at e1
    split at e1
    · rename_i s
      obtain ⟨ds, e2, e3⟩ := Option.bind_some' e1
      cases ar with
      | cons h1 _ h2 =>
        cases h2
        unfold itemsD at e2
        split at e2
        · cases e2
          cases h1 with
          | lst h q =>
            rw [ints_map e3] at q
            have q := q.int
            subst q
            exact .inl ⟨_, ns, rfl, .of (z _ _ h), hl, fin⟩
        · cases e2
          cases h1 with
          | tup h q =>
            rw [ints_map e3] at q
            have q := q.int
            subst q
            exact .inr ⟨_, ns, rfl, same_t z h, hl, fin⟩
        · cases e2
          rw [intsD_int] at e3
          cases e3
          obtain ⟨a, e1, h⟩ := h1
          subst e1
          exact .inl ⟨a, _, rfl, z.seq h, hl, fin⟩
        · cases e2
    · cases e1
  · cases e
def bools : List Dat → Option (List Bool)
  | [] => some []
  | .bl i :: r => (bools r).map (i :: ·)
  | _ => none
theorem bools_map : ∀ {ds : List Dat} {ns : List Bool}, bools ds = some ns → ds = ns.map Dat.bl
  | [], _, e => by cases e; rfl
  | .bl i :: r, _, e => by
    obtain ⟨ns, e1, e2⟩ := Option.map_some' e
    cases e2
    rw [bools_map e1]; rfl
  | .non :: r, _, e => by cases e
  | .int _ :: r, _, e => by cases e
  | .str _ :: r, _, e => by cases e
  | .tup _ :: r, _, e => by cases e
  | .lst _ :: r, _, e => by cases e
  | .ins _ _ _ :: r, _, e => by cases e
theorem map_bools : ∀ (ns : List Bool), bools (ns.map Dat.bl) = some ns
  | [] => rfl
  | n :: ns => by
    show (bools (ns.map Dat.bl)).map (n :: ·) = some (n :: ns)
    rw [map_bools ns]; rfl
def boolsOf : List SD → Option (List Bool)
  | [.d (.lst xs)] => bools xs
  | _ => none
theorem boolsOf_ok {as : List SD} {vs : List V} {ns : List Bool} (e : boolsOf as = some ns) (ar : ArgsOk G Z H as vs) (z : Same Z H) : ∃ a, vs = [.ref a] ∧ SqL G.K H a (ns.map V.bl) := by
  unfold boolsOf at e
  split at e
  · cases ar with
    | cons h1 _ h2 =>
      cases h2
      cases h1 with
      | lst h q =>
        rw [bools_map e] at q
        have q := q.bl
        subst q
        exact ⟨_, rfl, .of (z _ _ h)⟩
  · cases e
def gAll (as : List SD) : Option SD := (boolsOf as).map fun bs => .d (.bl (bs.all id))
def gAny (as : List SD) : Option SD := (boolsOf as).map fun bs => .d (.bl (bs.any id))
theorem vopL_all : VOpL G (rAll G.K) gAll := by
  intro Z H xs as d Q e z ar k
  obtain ⟨ns, e1, e⟩ := Option.map_some' e
  cases e
  obtain ⟨a, e2, h⟩ := boolsOf_ok e1 ar z
  exact ⟨a, ns, e2, h, k _ Z H (Ext.refl z) (.d (.bl _))⟩
theorem vopL_any : VOpL G (rAny G.K) gAny := by
  intro Z H xs as d Q e z ar k
  obtain ⟨ns, e1, e⟩ := Option.map_some' e
  cases e
  obtain ⟨a, e2, h⟩ := boolsOf_ok e1 ar z
  exact ⟨a, ns, e2, h, k _ Z H (Ext.refl z) (.d (.bl _))⟩
def gDivmod : List SD → Option SD
  | [.d (.int i), .d (.int j)] => if 0 < j ∧ j < 1073741824 then some (.d (.tup [.int (i / j), .int (i % j)])) else none
  | _ => none
def rDivmodA : List V → Hp → VK → Prop := fun xs H Q => ∃ i j, xs = [.int i, .int j] ∧ CDiv i j ∧ ∀ p, H p = none → Q (.ref p) (upd H p (.tup [.int (i / j), .int (i % j)]))
theorem vopL_divmod : VOpL G rDivmodA gDivmod := by
  intro Z H xs as d Q e z ar k
  unfold gDivmod at e
  split at e
  · split at e
    · rename_i hj
      cases e
      cases ar with
      | cons h1 _ h2 => cases h2 with
        | cons h3 _ h4 =>
          cases h4; cases h1; cases h3
          refine ⟨_, _, rfl, hj, fun p hp => ?_⟩
          obtain ⟨X, n⟩ := New.tup (G := G) (vs := [_, _]) (ds := [_, _]) z (.cons (.int _) (.one (.int _))) hp
          exact k _ _ _ X n
    · cases e
  · cases e
def gRepr : List SD → Option SD
  | [.d (.int i)] => if i.natAbs < 2 ^ 1000 then some (.d (.str (toString i))) else none
  | _ => none
def rReprA : List V → Hp → VK → Prop := fun xs H Q => ∃ i, xs = [.int i] ∧ i.natAbs.log2 < 1920 ∧ Q (.str (toString i)) H
theorem vopL_repr : VOpL G rReprA gRepr := by
  intro Z H xs as d Q e z ar k
  unfold gRepr at e
  split at e
  · split at e
    · rename_i hi
      cases e
      cases ar with
      | cons h1 _ h2 =>
        cases h2; cases h1
        rename_i i _
        refine ⟨_, rfl, ?_, k _ Z H (Ext.refl z) (.d (.str _))⟩
        by_cases h0 : i.natAbs = 0
        · rw [h0]; decide
        · have h1 : i.natAbs.log2 < 1000 := (Nat.log2_lt h0).mpr hi
          omega
    · cases e
  · cases e
/-! list(range(..)), tuple(range(..)) -/
def dRg1 (f : DE) : List SD → Option ((Int × Int) × List SD) := fun ρ => (f ρ).bind fun p => match p.1 with
  | .d (.int n) => if -1000000 ≤ n ∧ n ≤ 1000000 then some ((0, n), p.2) else none
  | _ => none
def dLstRg1 (f : DE) : DE := fun ρ => (dRg1 f ρ).map fun p => (.own (.lst (rgD p.1.1 p.1.2)), p.2)
def dTupRg1 (f : DE) : DE := fun ρ => (dRg1 f ρ).map fun p => (.d (.tup (rgD p.1.1 p.1.2)), p.2)
theorem rg_all (a b : Int) : IsAll G Z (rgV a b) (rgD a b) := by
  unfold rgV rgD
  generalize List.range (b - a).toNat = l
  induction l with
  | nil => exact .nil
  | cons x l ih => exact .cons (.int _) ih
theorem te_lstRg1 {f : DE} {Q : VK} (h : tE G (dLstRg1 f) σ H Q) : tLstRg (tRg1 (tE G f)) σ H Q := by
  obtain ⟨Z, ρ, r, ρ', e, R, k⟩ := h
  obtain ⟨⟨⟨a, b⟩, ρ1⟩, er, e⟩ := Option.map_some' e
  cases e
  obtain ⟨⟨s, ρ2⟩, ef, e⟩ := Option.bind_some' er
  refine ⟨Z, ρ, s, ρ2, ef, R, fun v Z1 H1 S1 E1 R1 n1 => ?_⟩
  split at e
  · rename_i n hs
    have hs : s = .d (.int n) := hs
    subst hs
    split at e
    · rename_i hn
      cases e
      cases n1.ok
      refine ⟨_, rfl, ⟨by omega, by omega, by omega, by omega, by omega⟩, fun q hq => ?_⟩
      obtain ⟨X, nw⟩ := New.lst (G := G) R1.same (rg_all _ _) hq
      exact k _ _ _ (S1.ext X) E1 (X.rep R1) (nw.back S1)
    · cases e
  · cases e
theorem te_tupRg1 {f : DE} {Q : VK} (h : tE G (dTupRg1 f) σ H Q) : tTupRg (tRg1 (tE G f)) σ H Q := by
  obtain ⟨Z, ρ, r, ρ', e, R, k⟩ := h
  obtain ⟨⟨⟨a, b⟩, ρ1⟩, er, e⟩ := Option.map_some' e
  cases e
  obtain ⟨⟨s, ρ2⟩, ef, e⟩ := Option.bind_some' er
  refine ⟨Z, ρ, s, ρ2, ef, R, fun v Z1 H1 S1 E1 R1 n1 => ?_⟩
  split at e
  · rename_i n hs
    have hs : s = .d (.int n) := hs
    subst hs
    split at e
    · rename_i hn
      cases e
      cases n1.ok
      refine ⟨_, rfl, ⟨by omega, by omega, by omega, by omega, by omega⟩, fun q hq => ?_⟩
      obtain ⟨X, nw⟩ := New.tup (G := G) R1.same (rg_all _ _) hq
      exact k _ _ _ (S1.ext X) E1 (X.rep R1) (nw.back S1)
    · cases e
  · cases e
/-! slices -/
def cutD (xs : List Dat) (lo hi : Option Int) : List Dat := (xs.drop (HT.sIx xs.length 0 lo)).take (HT.sIx xs.length xs.length hi - HT.sIx xs.length 0 lo)
theorem IsAll.cut {vs : List V} {xs : List Dat} (h : IsAll G Z vs xs) (lo hi : Option Int) : IsAll G Z (cutV vs lo hi) (cutD xs lo hi) := by
  unfold cutV cutD
  rw [h.len]
  exact (h.dp _).tk _
def rSlLT (K : PySem.W.Frag) : V → Option Int → Option Int → Hp → VK → Prop := fun x lo hi H Q => rSlL K x lo hi H Q ∨ rSlA K x lo hi H Q
abbrev DO := List SD → Option (Option Int × List SD)
def tOD (G : Gd) (f : DO) : TO := fun σ H Q => ∃ Z ρ r ρ', f ρ = some (r, ρ') ∧ Rep G Z ρ σ H ∧ ∀ Z' H', Step Z ρ σ H Z' ρ' σ H' → ES ρ ρ' → Rep G Z' ρ' σ H' → Q r H'
def dNoPart : DO := fun ρ => some (none, ρ)
def dPart (f : DE) : DO := fun ρ => (f ρ).bind fun p => match p.1 with
  | .d (.int i) => some (some i, p.2)
  | _ => none
theorem to_none {Q : Option Int → Hp → Prop} (h : tOD G dNoPart σ H Q) : tNoPart σ H Q := by
  obtain ⟨Z, ρ, r, ρ', e, R, k⟩ := h
  cases e
  exact k Z H (Step.refl ..) (ES.refl _) R
theorem to_part {f : DE} {Q : Option Int → Hp → Prop} (h : tOD G (dPart f) σ H Q) : tPart (tE G f) σ H Q := by
  obtain ⟨Z, ρ, r, ρ', e, R, k⟩ := h
  obtain ⟨⟨s, ρ1⟩, ea, e⟩ := Option.bind_some' e
  refine ⟨Z, ρ, s, ρ1, ea, R, fun v Z1 H1 S1 E1 R1 n1 => ?_⟩
  split at e
  · rename_i i hs
    have hs : s = .d (.int i) := hs
    subst hs
    cases e
    cases n1.ok
    exact ⟨i, rfl, k Z1 H1 S1 E1 R1⟩
  · cases e
theorem po_to {X : Cx} {o : Option Expr} {t t' : TO} (h : PO X o t) (k : ∀ σ H Q, t' σ H Q → t σ H Q) : PO X o t' := ⟨fun pins s σ H Q I q => h.run pins s σ H Q I (k _ _ _ q)⟩
def gSl (s : SD) (lo hi : Option Int) : Option SD := match s with
  | .scr ns => some (.own (.lst (cutD (ns.map Dat.int) lo hi)))
  | s => match s.lst with
    | some xs => some (.own (.lst (cutD xs lo hi)))
    | none => s.tup.map fun xs => .d (.tup (cutD xs lo hi))
theorem gSl_ok {s d : SD} {v : V} {lo hi : Option Int} {Q : VK} (e : gSl s lo hi = some d) (z : Same Z H) (ok : ValOk G Z H s v) (k : ∀ v Z' H', Ext Z H Z' H' → New G H Z' H' d v → Q v H') : rSlLT G.K v lo hi H Q := by
  unfold gSl at e
  split at e
  · cases e
    obtain ⟨a, e1, h⟩ := ok
    subst e1
    exact .inl ⟨a, _, rfl, z.seq h, fun p hp => let ⟨X, n⟩ := New.lst z ((IsAll.ints Z _).cut lo hi) hp; k _ _ _ X n⟩
  · split at e
    · rename_i xs hx
      cases e
      obtain ⟨a, vs, e1, h, q⟩ := ok.lst hx z
      subst e1
      exact .inl ⟨a, vs, rfl, .of h, fun p hp => let ⟨X, n⟩ := New.lst z (q.cut lo hi) hp; k _ _ _ X n⟩
    · obtain ⟨xs, hx, e⟩ := Option.map_some' e
      cases e
      have ok' := ok
      obtain ⟨a, vs, e1, h, q⟩ := ok.tup hx z
      subst e1
      refine .inr ⟨a, vs, rfl, h, fun hw => ?_, fun _ p hp => let ⟨X, n⟩ := New.tup z (q.cut lo hi) hp; k _ _ _ X n⟩
      have e2 : cutD xs lo hi = xs := by
        unfold cutD
        rw [← q.len, hw.1, hw.2, List.drop_zero, Nat.sub_zero, q.len, List.take_length]
      rw [e2] at k
      refine k _ Z H (Ext.refl z) (.d ?_)
      unfold SD.tup at hx
      split at hx
      · cases hx; exact ok'
      · cases hx
def dSl (f : DE) (l h : DO) : DE := fun ρ => (f ρ).bind fun p => (l p.2).bind fun q => (h q.2).bind fun r => (gSl p.1 q.1 r.1).map fun d => (d, r.2)
theorem te_sl {f : DE} {l h : DO} {Q : VK} (h0 : tE G (dSl f l h) σ H Q) : tSl (rSlLT G.K) (tE G f) (tOD G l) (tOD G h) σ H Q := by
  obtain ⟨Z, ρ, r, ρ', e, R, k⟩ := h0
  obtain ⟨⟨s, ρ1⟩, ea, e⟩ := Option.bind_some' e
  obtain ⟨⟨lo, ρ2⟩, el, e⟩ := Option.bind_some' e
  obtain ⟨⟨hi, ρ3⟩, eh, e⟩ := Option.bind_some' e
  obtain ⟨d, ed, e⟩ := Option.map_some' e
  cases e
  refine ⟨Z, ρ, s, ρ1, ea, R, fun v Z1 H1 S1 E1 R1 n1 => ⟨Z1, ρ1, lo, ρ2, el, R1, fun Z2 H2 S2 E2 R2 => ⟨Z2, ρ2, hi, ρ3, eh, R2, fun Z3 H3 S3 E3 R3 => ?_⟩⟩⟩
  have n3 := (n1.step S2 E1 R).step S3 (E1.trans E2) R
  refine gSl_ok ed R3.same n3.ok fun v Z4 H4 X n => ?_
  have S := S1.trans (S2.trans S3)
  exact k v Z4 H4 (S.ext X) (E1.trans (E2.trans E3)) (X.rep R3) (n.back S)
end
end DP

set_option Elab.async false
set_option linter.all false
set_option maxRecDepth 100000
set_option maxHeartbeats 4000000
namespace DP
open PySem PySem.Spec PyProof.Rows L2
section
variable {G : Gd} {io : Nat → Addr} {Z Z' Z0 Z1 Z2 H H' H0 H1 H2 : Hp} {ρ ρ0 ρ1 ρ2 : List SD} {σ σ0 σ1 σ2 : L2.St} {D : Ends}
/-! ### name.append(e) -/
def moL (s : SD) : Option (List Dat) := match s.mo with
  | some (.lst xs) => some xs
  | _ => none
def moD (s : SD) : Option (List (Key × Dat)) := match s.mo with
  | some (.dic xs) => some xs
  | _ => none
def moS (s : SD) : Option ((Int → Bool) × Nat) := match s.mo with
  | some (.set S n) => some (S, n)
  | _ => none
def moO (s : SD) : Option (Nat × List (Str × Dat)) := match s.mo with
  | some (.obj c fs) => some (c, fs)
  | _ => none
theorem moL_is {s : SD} {xs : List Dat} (h : moL s = some xs) : s.mo = some (.lst xs) := by
  unfold moL at h
  split at h
  · rename_i ys e; cases h; exact e
  · cases h
theorem moD_is {s : SD} {xs : List (Key × Dat)} (h : moD s = some xs) : s.mo = some (.dic xs) := by
  unfold moD at h
  split at h
  · rename_i ys e; cases h; exact e
  · cases h
theorem moS_is {s : SD} {S : Int → Bool} {n : Nat} (h : moS s = some (S, n)) : s.mo = some (.set S n) := by
  unfold moS at h
  split at h
  · rename_i ys e; cases h; assumption
  · cases h
theorem moO_is {s : SD} {c : Nat} {fs : List (Str × Dat)} (h : moO s = some (c, fs)) : s.mo = some (.obj c fs) := by
  unfold moO at h
  split at h
  · rename_i ys e; cases h; assumption
  · cases h
def asD : SD → Option Dat
  | .d x => some x
  | _ => none
theorem asD_is {s : SD} {x : Dat} (h : asD s = some x) : s = .d x := by
  cases s <;> cases h; rfl
def asI : SD → Option Int
  | .d (.int x) => some x
  | _ => none
theorem asI_is {s : SD} {x : Int} (h : asI s = some x) : s = .d (.int x) := by
  unfold asI at h
  split at h
  · cases h; rfl
  · cases h
def dApp (i : Nat) (f : DE) : DS := fun ρ => (ρ[i]?).bind fun s0 => (moL s0).bind fun _ => (f ρ).bind fun p => (fz p.1).bind fun x => (asD x).bind fun x => (p.2[i]?).bind fun s => (moL s).bind fun xs =>
  if xs.length < 50000 then some (.nx, p.2.set i (s.re (.lst (xs ++ [x])))) else none
theorem ts_app {i : Nat} {f : DE} (h : tS G (dApp i f) D σ H) : tDrop (tBM G.K "list" rAppend (tVar i) (tCons (tE G f) tNil)) D σ H := by
  obtain ⟨Z, ρ, fl, ρ', e, R, k⟩ := h
  obtain ⟨s0, h0, e⟩ := Option.bind_some' e
  obtain ⟨xs0, hx0, e⟩ := Option.bind_some' e
  obtain ⟨⟨b, ρ1⟩, eb, e⟩ := Option.bind_some' e
  obtain ⟨x, ex, e⟩ := Option.bind_some' e
  obtain ⟨xd, hx, e⟩ := Option.bind_some' e
  obtain ⟨s, hs, e⟩ := Option.bind_some' e
  obtain ⟨xs, hm, e9⟩ := Option.bind_some' e
  have hx := asD_is hx
  subst hx
  split at e9
  · rename_i hl
    cases e9
    obtain ⟨a0, h1, z0, ⟨vs0, ha0, _⟩, ow0⟩ := R.mo h0 (moL_is hx0)
    refine ⟨.ref a0, h1, .inl ⟨rfl, vs0, .of ha0⟩, Z, ρ, b, ρ1, eb, R, fun y Z1 H1 S1 E1 R1 n1 => ?_⟩
    obtain ⟨Z2, S2, R2, n2, _, _⟩ := fz_new (H0 := H) ex n1 S1 E1 R R1
    have hs : ρ1[i]? = some s := hs
    obtain ⟨a, h2, z, ⟨vs, ha, q⟩, o⟩ := R2.mo hs (moL_is hm)
    rw [h1] at h2; cases h2
    refine ⟨a0, vs, y, rfl, rfl, ha, lt_line (by rw [q.len]; omega), ?_⟩
    obtain ⟨S3, E3, R3⟩ := mut_slot (m' := .lst (xs ++ [xd])) (o := .lst (vs ++ [y])) R2 hs (moL_is hm) h1 ⟨_, upd_same, q.app (.one n2.ok)⟩
    exact k _ _ _ (S2.trans S3) R3
  · cases e9
/-! ### sets of ints -/
def dSetNew : DE := fun ρ => some (.own (.set (fun _ => false) 0), ρ)
theorem te_setNew {Q : VK} (h : tE G dSetNew σ H Q) : tCB (rSet0 G.w) tNil σ H Q := by
  obtain ⟨Z, ρ, r, ρ', e, R, k⟩ := h
  cases e
  refine ⟨rfl, fun p hp => ?_⟩
  have X : Ext Z H Z (upd H p (SetO G.w p (fun _ => false) 0)) := Ext.new R.same hp
  exact k _ _ _ (X.step ρ σ) (ES.refl _) (X.rep R) ⟨⟨p, rfl, same_off R.same hp, upd_same⟩, fun _ a e => by cases e; exact hp⟩
/-- e op name, what stands at the name looked at alone -/
def dBinB (g : SD → SD → Option SD) (f : DE) (j : Nat) : DE := fun ρ => (f ρ).bind fun p => (p.2[j]?).bind fun s => (s.known).bind fun s => (g p.1 s).map fun d => (d, p.2)
theorem te_binB {j : Nat} {r : R2} {g : SD → SD → Option SD} {f : DE} {Q : VK} (op : VOp2 G r g) (h : tE G (dBinB g f j) σ H Q) : tOp r (tE G f) (tVar j) σ H Q := by
  obtain ⟨Z, ρ, d, ρ', e, R, k⟩ := h
  obtain ⟨⟨b, ρ1⟩, eb, e⟩ := Option.bind_some' e
  obtain ⟨s, es, e⟩ := Option.bind_some' e
  obtain ⟨s2, ek, e⟩ := Option.bind_some' e
  obtain ⟨d', ed, e⟩ := Option.map_some' e
  cases e
  obtain ⟨hn, ek⟩ := SD.known_is ek
  subst ek
  refine ⟨Z, ρ, b, ρ1, eb, R, fun y Z1 H1 S1 E1 R1 n1 => ?_⟩
  have es : ρ1[j]? = some s := es
  obtain ⟨w, h1, q⟩ := R1.val es hn
  refine ⟨w, h1, ?_⟩
  refine op Z1 H1 y w b _ d Q ed R1.same n1.ok q fun v Z2 H2 X n2 => ?_
  exact k v Z2 H2 (S1.ext X) E1 (X.rep R1) (n2.back S1)
def gSIn (neg : Bool) : SD → SD → Option SD := fun a b => (asI a).bind fun i => (moS b).map fun p => .d (.bl (if neg then !p.1 i else p.1 i))
theorem ValOk.set {s : SD} {v : V} {S : Int → Bool} {n : Nat} (e : moS s = some (S, n)) (h : ValOk G Z H s v) : ∃ a, v = .ref a ∧ H a = some (SetO G.w a S n) := by
  have e := moS_is e
  cases s with
  | own m => cases e; obtain ⟨a, e, _, q⟩ := h; exact ⟨a, e, q⟩
  | io m => cases e; obtain ⟨a, e, _, q⟩ := h; exact ⟨a, e, q⟩
  | no => cases e
  | d _ => cases e
  | scr _ => cases e
theorem vop_sin : VOp2 G (rSIn G.w) (gSIn false) := by
  intro Z H x y a b d Q e z ox oy k
  obtain ⟨i, e1, e⟩ := Option.bind_some' e
  obtain ⟨⟨S, n⟩, e2, e⟩ := Option.map_some' e
  cases e
  have e1 := asI_is e1
  subst e1
  cases ox
  obtain ⟨a, ea, h⟩ := oy.set e2
  subst ea
  exact ⟨i, a, S, n, rfl, rfl, h, k _ Z H (Ext.refl z) (.d (.bl _))⟩
theorem vop_snin : VOp2 G (rSNotIn G.w) (gSIn true) := by
  intro Z H x y a b d Q e z ox oy k
  obtain ⟨i, e1, e⟩ := Option.bind_some' e
  obtain ⟨⟨S, n⟩, e2, e⟩ := Option.map_some' e
  cases e
  have e1 := asI_is e1
  subst e1
  cases ox
  obtain ⟨a, ea, h⟩ := oy.set e2
  subst ea
  exact ⟨i, a, S, n, rfl, rfl, h, k _ Z H (Ext.refl z) (.d (.bl _))⟩
def dSAdd (i : Nat) (f : DE) : DS := fun ρ => (ρ[i]?).bind fun s0 => (moS s0).bind fun _ => (f ρ).bind fun p => (asI p.1).bind fun x => (p.2[i]?).bind fun s => (moS s).bind fun q =>
  if q.2 < 4000 then some (.nx, p.2.set i (s.re (.set (fun j => q.1 j || decide (j = x)) (if q.1 x = true then q.2 else q.2 + 1)))) else none
theorem ts_sadd {i : Nat} {f : DE} (h : tS G (dSAdd i f) D σ H) : tDrop (tSAdd G.w (tVar i) (tCons (tE G f) tNil)) D σ H := by
  obtain ⟨Z, ρ, fl, ρ', e, R, k⟩ := h
  obtain ⟨s0, h0, e⟩ := Option.bind_some' e
  obtain ⟨⟨S0, n0⟩, hx0, e⟩ := Option.bind_some' e
  obtain ⟨⟨b, ρ1⟩, eb, e⟩ := Option.bind_some' e
  obtain ⟨x, hx, e⟩ := Option.bind_some' e
  obtain ⟨s, hs, e⟩ := Option.bind_some' e
  obtain ⟨⟨S, n⟩, hm, e⟩ := Option.bind_some' e
  have hx := asI_is hx
  have hx : b = .d (.int x) := hx
  subst hx
  split at e
  · rename_i hl
    cases e
    obtain ⟨a0, h1, z0, ha0, ow0⟩ := R.mo h0 (moS_is hx0)
    refine ⟨.ref a0, h1, ⟨a0, S0, n0, rfl, ha0⟩, Z, ρ, _, ρ1, eb, R, fun y Z1 H1 S1 E1 R1 n1 => ?_⟩
    have hs : ρ1[i]? = some s := hs
    obtain ⟨a, h2, z, ha, o⟩ := R1.mo hs (moS_is hm)
    rw [h1] at h2; cases h2
    cases n1.ok
    have ha : H1 a0 = some (SetO G.w a0 S n) := ha
    refine ⟨a0, x, S, n, rfl, rfl, ha, Nat.lt_of_lt_of_le (show n + 1 < 4002 from by omega) (by decide), ?_⟩
    obtain ⟨S3, E3, R3⟩ := mut_slot (m' := .set (fun j => S j || decide (j = x)) (if S x = true then n else n + 1)) (o := SetO G.w a0 (fun j => S j || decide (j = x)) (if S x = true then n else n + 1)) R1 hs (moS_is hm) h1 upd_same
    exact k _ _ _ (S1.trans S3) R3
  · cases e
/-! ### dicts with keys ints or texts -/
def dDNew : DE := fun ρ => some (.own (.dic []), ρ)
theorem New.dic {p : Addr} {ws : List (Key × V)} {kvs : List (Key × Dat)} (h : Same Z H) (q1 : ws.map (·.1) = kvs.map (·.1)) (q2 : IsAll G Z (ws.map (·.2)) (kvs.map (·.2))) (hp : H p = none) : Ext Z H Z (upd H p (.dK ws)) ∧ New G H Z (upd H p (.dK ws)) (.own (.dic kvs)) (.ref p) := by
  have X : Ext Z H Z (upd H p (.dK ws)) := Ext.new h hp
  exact ⟨X, ⟨p, rfl, same_off h hp, ws, upd_same, q1, q2⟩, fun _ a e => by cases e; exact hp⟩
theorem te_dnew {Q : VK} (h : tE G dDNew σ H Q) : tDNewK σ H Q := by
  obtain ⟨Z, ρ, r, ρ', e, R, k⟩ := h
  cases e
  intro p hp
  obtain ⟨X, n⟩ := New.dic (G := G) (ws := []) (kvs := []) R.same rfl .nil hp
  exact k _ _ _ (X.step ρ σ) (ES.refl _) (X.rep R) n
def dGetB (i : Nat) (f : DE) : DE := fun ρ => (ρ[i]?).bind fun s0 => (moD s0).bind fun _ => (f ρ).bind fun p => (asD p.1).bind fun y => (keyD y).bind fun y => (p.2[i]?).bind fun s => (moD s).bind fun kvs => (valD kvs y).map fun x => (.d x, p.2)
theorem te_get {i : Nat} {f : DE} {Q : VK} (h : tE G (dGetB i f) σ H Q) : tDGet (tVar i) (tE G f) σ H Q := by
  obtain ⟨Z, ρ, r, ρ', e, R, k⟩ := h
  obtain ⟨s0, h0, e⟩ := Option.bind_some' e
  obtain ⟨xs0, hx0, e⟩ := Option.bind_some' e
  obtain ⟨⟨b, ρ1⟩, eb, e⟩ := Option.bind_some' e
  obtain ⟨y, hy, e⟩ := Option.bind_some' e
  obtain ⟨ky, hk, e⟩ := Option.bind_some' e
  obtain ⟨s, hs, e⟩ := Option.bind_some' e
  obtain ⟨kvs, hm, e⟩ := Option.bind_some' e
  obtain ⟨x, hx, e⟩ := Option.map_some' e
  cases e
  have hy : b = .d y := asD_is hy
  subst hy
  obtain ⟨a0, h1, z0, q0, ow0⟩ := R.mo h0 (moD_is hx0)
  refine ⟨.ref a0, h1, Z, ρ, _, ρ1, eb, R, fun v Z1 H1 S1 E1 R1 n1 => ?_⟩
  have hs : ρ1[i]? = some s := hs
  obtain ⟨a, h2, z, ⟨ws, ha, q1, q2⟩, o⟩ := R1.mo hs (moD_is hm)
  rw [h1] at h2; cases h2
  have vk := keyD_is hk n1.ok
  subst vk
  obtain ⟨w, hw, qw⟩ := (valD_ok ky q1 q2).1 x hx
  exact ⟨a0, w, rfl, by rw [← hw]; exact DGet.k ha, k w Z1 H1 S1 E1 R1 (.d qw)⟩
def dInD (neg : Bool) (f : DE) (i : Nat) : DE := fun ρ => (f ρ).bind fun p => (asD p.1).bind fun y => (keyD y).bind fun y => (p.2[i]?).bind fun s => (moD s).map fun kvs => (.d (.bl (if neg then !(valD kvs y).isSome else (valD kvs y).isSome)), p.2)
theorem valD_some {ws : List (Key × V)} {kvs : List (Key × Dat)} (k : Key) (h : ws.map (·.1) = kvs.map (·.1)) (q : IsAll G Z (ws.map (·.2)) (kvs.map (·.2))) : (valV ws k).isSome = (valD kvs k).isSome := by
  obtain ⟨h1, h2⟩ := valD_ok k h q
  cases e : valD kvs k with
  | none => rw [h2 e]; rfl
  | some d => obtain ⟨v, hv, _⟩ := h1 d e; rw [hv]; rfl
theorem te_inD {i : Nat} {f : DE} {Q : VK} (h : tE G (dInD false f i) σ H Q) : tDIn (tE G f) (tVar i) σ H Q := by
  obtain ⟨Z, ρ, r, ρ', e, R, k⟩ := h
  obtain ⟨⟨b, ρ1⟩, eb, e⟩ := Option.bind_some' e
  obtain ⟨y, hy, e⟩ := Option.bind_some' e
  obtain ⟨ky, hk, e⟩ := Option.bind_some' e
  obtain ⟨s, hs, e⟩ := Option.bind_some' e
  obtain ⟨kvs, hm, e⟩ := Option.map_some' e
  cases e
  have hy : b = .d y := asD_is hy
  subst hy
  refine ⟨Z, ρ, _, ρ1, eb, R, fun v Z1 H1 S1 E1 R1 n1 => ?_⟩
  have hs : ρ1[i]? = some s := hs
  obtain ⟨a, h2, z, ⟨ws, ha, q1, q2⟩, o⟩ := R1.mo hs (moD_is hm)
  have vk := keyD_is hk n1.ok
  subst vk
  refine ⟨_, h2, a, _, rfl, DGet.k ha, ?_⟩
  rw [valD_some ky q1 q2]
  exact k _ Z1 H1 S1 E1 R1 (.d (.bl _))
theorem te_ninD {i : Nat} {f : DE} {Q : VK} (h : tE G (dInD true f i) σ H Q) : tDNotIn (tE G f) (tVar i) σ H Q := by
  obtain ⟨Z, ρ, r, ρ', e, R, k⟩ := h
  obtain ⟨⟨b, ρ1⟩, eb, e⟩ := Option.bind_some' e
  obtain ⟨y, hy, e⟩ := Option.bind_some' e
  obtain ⟨ky, hk, e⟩ := Option.bind_some' e
  obtain ⟨s, hs, e⟩ := Option.bind_some' e
  obtain ⟨kvs, hm, e⟩ := Option.map_some' e
  cases e
  have hy : b = .d y := asD_is hy
  subst hy
  refine ⟨Z, ρ, _, ρ1, eb, R, fun v Z1 H1 S1 E1 R1 n1 => ?_⟩
  have hs : ρ1[i]? = some s := hs
  obtain ⟨a, h2, z, ⟨ws, ha, q1, q2⟩, o⟩ := R1.mo hs (moD_is hm)
  have vk := keyD_is hk n1.ok
  subst vk
  refine ⟨_, h2, a, _, rfl, DGet.k ha, ?_⟩
  rw [valD_some ky q1 q2]
  exact k _ Z1 H1 S1 E1 R1 (.d (.bl _))
/-- {k: v, k2: v2} -/
def dDisp2 (f1 g1 f2 g2 : DE) : DE := fun ρ => (f1 ρ).bind fun a => (asD a.1).bind fun a1 => (keyD a1).bind fun k1 => (g1 a.2).bind fun b => (asD b.1).bind fun x1 => (f2 b.2).bind fun c => (asD c.1).bind fun c1 => (keyD c1).bind fun k2 => (g2 c.2).bind fun d => (asD d.1).map fun x2 =>
  (.own (.dic (putD (putD [] k1 x1) k2 x2)), d.2)
theorem te_disp2 {f1 g1 f2 g2 : DE} {Q : VK} (h : tE G (dDisp2 f1 g1 f2 g2) σ H Q) : tDisp [(tE G f1, tE G g1), (tE G f2, tE G g2)] σ H Q := by
  obtain ⟨Z, ρ, r, ρ', e, R, k⟩ := h
  obtain ⟨⟨a, ρ1⟩, e1, e⟩ := Option.bind_some' e
  obtain ⟨a1, h1, e⟩ := Option.bind_some' e
  obtain ⟨k1, hk1, e⟩ := Option.bind_some' e
  obtain ⟨⟨b, ρ2⟩, e2, e⟩ := Option.bind_some' e
  obtain ⟨x1, h2, e⟩ := Option.bind_some' e
  obtain ⟨⟨c, ρ3⟩, e3, e⟩ := Option.bind_some' e
  obtain ⟨c1, h3, e⟩ := Option.bind_some' e
  obtain ⟨k2, hk2, e⟩ := Option.bind_some' e
  obtain ⟨⟨d, ρ4⟩, e4, e⟩ := Option.bind_some' e
  obtain ⟨x2, h4, e⟩ := Option.map_some' e
  cases e
  have h1 : a = .d a1 := asD_is h1
  have h2 : b = .d x1 := asD_is h2
  have h3 : c = .d c1 := asD_is h3
  have h4 : d = .d x2 := asD_is h4
  subst h1 h2 h3 h4
  intro p hp
  have X0 : Ext Z H Z (upd H p (.dK [])) := Ext.new R.same hp
  have R0 := X0.rep R
  have np : ∀ {ρx : List SD}, ES ρ ρx → ¬ Own ρx σ p := fun {ρx} E o => R.there (E.own o) hp
  refine ⟨Z, ρ, _, ρ1, e1, R0, fun u1 Z1 H1 S1 E1 R1 n1 => ⟨Z1, ρ1, _, ρ2, e2, R1, fun u2 Z2 H2 S2 E2 R2 n2 => ⟨Z2, ρ2, _, ρ3, e3, R2, fun u3 Z3 H3 S3 E3 R3 n3 => ⟨Z3, ρ3, _, ρ4, e4, R3, fun u4 Z4 H4 S4 E4 R4 n4 => ?_⟩⟩⟩⟩
  have S := S1.trans (S2.trans (S3.trans S4))
  have E := E1.trans (E2.trans (E3.trans E4))
  have hp4 : H4 p = some (.dK []) := S.fr p _ upd_same (np (ES.refl _))
  have zp4 : Z4 p = none := S.fz p (by rw [upd_same]; exact fun z => nomatch z) (same_off R.same hp) (np (ES.refl _))
  have v1 := keyD_is hk1 n1.ok
  have v3 := keyD_is hk2 n3.ok
  subst v1 v3
  have q1 : Is G Z4 u2 x1 := Is.mono (S3.zz.trans S4.zz) n2.ok
  have q2 : Is G Z4 u4 x2 := n4.ok
  obtain ⟨p1, p2⟩ := putD_ok (G := G) (Z := Z4) q1 k1 (ws := []) (kvs := []) rfl .nil
  obtain ⟨p3, p4⟩ := putD_ok (G := G) (Z := Z4) q2 k2 p1 p2
  refine ⟨hp4, [(k1, u2), (k2, u4)], rfl, (show 2 ≤ 15 from by decide), ?_⟩
  refine k _ Z4 _ (side_step ((X0.step ρ σ).trans S) hp) E (side_rep R4 (np E) zp4) ⟨⟨p, rfl, zp4, _, upd_same, p3, p4⟩, fun _ a e => by cases e; exact hp⟩

/-! ### isinstance -/
def tyn : Dat → String
  | .non => "NoneType"
  | .bl _ => "bool"
  | .int _ => "int"
  | .str _ => "str"
  | .tup _ => "tuple"
  | .lst _ => "list"
  | .ins _ _ _ => ""
def isiB (T : String) : Dat → Option Bool
  | .ins _ _ _ => none
  | d => kitB (tyn d) T
def isiC (c : Nat) : Dat → Option Bool
  | .ins c' _ _ => if c' = c then some true else none
  | _ => some false
theorem is_ty {v : V} {d : Dat} (h : Is G Z v d) (z : Same Z H) (n : ∀ c ns l, d ≠ .ins c ns l) : TyX G.K H v (.type (tyn d)) := by
  cases h with
  | non => exact .base .non
  | bl b => exact .base (.bl b)
  | int i => exact .base (.int i)
  | str x => exact .base (.str x)
  | tup h _ =>
    rcases h with (h | ⟨o, h⟩) | ⟨o, its, n, h, hc, _⟩
    · exact .base (.tup (z _ _ h))
    · exact .fTuple (z _ _ h)
    · exact .kTuple h hc
  | lst h _ => exact .base (.lst (z _ _ h))
  | ins h _ _ => exact absurd rfl (n _ _ _)
/-- an own class, for isinstance -/
structure InsT (K : PySem.W.Frag) (C : Addr) : Prop where
  cl : Cls K C
  ha : PySem.W.findIn K (.ref C) "__class__" = some (some (.builtin "object.__class__"))
  hn : PySem.W.specialIn K (.builtin "object.__class__") "__get__" = some (some (.builtin "getset_descriptor.__get__"))
  htk : PySem.W.takesIn K (.builtin "object.__class__") = some true
  hm : PySem.W.mroIn K C (.type "object") = some true
  no : ∀ a ∈ ["NoneType", "bool", "int", "str", "tuple", "list"], PySem.W.kitOne K (.type a) (.ref C) = some false
def dIsi (ans : Dat → Option Bool) (f : DE) : DE := fun ρ => (f ρ).bind fun p => (fz p.1).bind fun s => (asD s).bind fun x => (ans x).map fun b => (.d (.bl b), p.2)
theorem te_isi {ans : Dat → Option Bool} {f : DE} {cv : V} {u : Value} {Q : VK} (hc : ClsV cv u) (ha : ∀ (Z H : Hp) (v : V) (x : Dat) (b : Bool), Same Z H → Is G Z v x → ans x = some b → ∃ t, TyX G.K H v t ∧ PySem.W.kitOne G.K t u = some b)
    (h : tE G (dIsi ans f) σ H Q) : tCB (rIsi G.K) (tCons (tE G f) (tCons (tC cv) tNil)) σ H Q := by
  obtain ⟨Z, ρ, r, ρ', e, R, k⟩ := h
  obtain ⟨⟨s, ρ1⟩, ef, e⟩ := Option.bind_some' e
  obtain ⟨s2, es, e⟩ := Option.bind_some' e
  obtain ⟨x, hx, e⟩ := Option.bind_some' e
  obtain ⟨b, hb, e⟩ := Option.map_some' e
  cases e
  have hx := asD_is hx
  subst hx
  refine ⟨Z, ρ, s, ρ1, ef, R, fun v Z1 H1 S1 E1 R1 n1 => ?_⟩
  obtain ⟨Z2, S2, R2, n2, _, _⟩ := fz_new (H0 := H) es n1 S1 E1 R R1
  obtain ⟨t, ht, hk⟩ := ha Z2 H1 v x b R2.same n2.ok hb
  exact ⟨v, cv, t, u, b, rfl, hc, ht, hk, k _ Z2 H1 S2 E1 R2 (.d (.bl _))⟩
theorem isiB_ok {T : String} : ∀ (Z H : Hp) (v : V) (x : Dat) (b : Bool), Same Z H → Is G Z v x → isiB T x = some b → ∃ t, TyX G.K H v t ∧ PySem.W.kitOne G.K t (.type T) = some b := by
  intro Z H v x b z q e
  have n : ∀ c ns l, x ≠ .ins c ns l := fun c ns l h => by subst h; cases e
  refine ⟨_, is_ty q z n, kit_ty ?_⟩
  cases x <;> first | exact e | exact absurd rfl (n _ _ _)
theorem isiC_ok {c : Nat} (I : InsT G.K (G.cl c)) : ∀ (Z H : Hp) (v : V) (x : Dat) (b : Bool), Same Z H → Is G Z v x → isiC c x = some b → ∃ t, TyX G.K H v t ∧ PySem.W.kitOne G.K t (.ref (G.cl c)) = some b := by
  intro Z H v x b z q e
  unfold isiC at e
  split at e
  · split at e
    · rename_i hc
      subst hc
      cases e
      cases q with
      | ins h1 h2 h3 =>
        refine ⟨_, .base (.ins (z _ _ h1) I.cl I.ha I.hn I.htk I.hm), ?_⟩
        unfold PySem.W.kitOne
        rw [if_pos (by simp)]
    · cases e
  · rename_i hn
    cases e
    refine ⟨_, is_ty q z (fun c ns l h => hn c ns l h), I.no _ ?_⟩
    cases x with
    | ins c' ns l => exact absurd rfl (hn c' ns l)
    | _ => simp [tyn]

/-! ### self.f = e, o.p -/
def dFldSet (i : Nat) (c : Nat) (f : Str) (e : DE) : DS := fun ρ => (e ρ).bind fun p => (fz p.1).bind fun x => (asD x).bind fun x => (p.2[i]?).bind fun s => (moO s).bind fun q => if q.1 = c ∧ q.2.length < 900 then some (.nx, p.2.set i (s.re (.obj c (putFD f x q.2)))) else none
theorem putFD_ok {f : Str} {v : V} {x : Dat} (h : Is G Z v x) : ∀ {ws : List (Str × V)} {fs : List (Str × Dat)}, ws.map (·.1) = fs.map (·.1) → IsAll G Z (ws.map (·.2)) (fs.map (·.2)) → (putF f v ws).map (·.1) = (putFD f x fs).map (·.1) ∧ IsAll G Z ((putF f v ws).map (·.2)) ((putFD f x fs).map (·.2))
  | [], [], _, _ => ⟨rfl, .one h⟩
  | [], _ :: _, e, _ => by cases e
  | _ :: _, [], e, _ => by cases e
  | (g, w) :: ws, (g', d) :: fs, e, .cons q r => by
    obtain ⟨e1, e2⟩ := List.cons.inj e
    have e1 : g = g' := e1
    subst e1
    obtain ⟨r1, r2⟩ := putFD_ok h e2 r
    unfold putF putFD
    by_cases c : g = f
    · subst c
      rw [if_pos rfl, if_pos rfl]
      exact ⟨congrArg (g :: ·) e2, .cons h r⟩
    · rw [if_neg c, if_neg c]
      exact ⟨congrArg (g :: ·) r1, .cons q r2⟩
theorem ts_fldSet {i c : Nat} {f : Str} {e0 : DE} {C : Addr} (hC : G.cl c = C) (hc : Cls G.K C) (hn : NoAttr G.K C f) (h : tS G (dFldSet i c f e0) D σ H) : sFld G.K (tVar i) (tE G e0) f D σ H := by
  obtain ⟨Z, ρ, fl, ρ', e, R, k⟩ := h
  obtain ⟨⟨b, ρ1⟩, eb, e⟩ := Option.bind_some' e
  obtain ⟨x, ex, e⟩ := Option.bind_some' e
  obtain ⟨xd, hx, e⟩ := Option.bind_some' e
  obtain ⟨s, hs, e⟩ := Option.bind_some' e
  obtain ⟨⟨c', fs⟩, hm, e9⟩ := Option.bind_some' e
  have hx := asD_is hx
  subst hx
  split at e9
  · rename_i hl
    obtain ⟨hcc, hl⟩ := hl
    have hcc : c' = c := hcc
    subst hcc
    cases e9
    refine ⟨Z, ρ, b, ρ1, eb, R, fun y Z1 H1 S1 E1 R1 n1 => ?_⟩
    obtain ⟨Z2, S2, R2, n2, _, _⟩ := fz_new (H0 := H) ex n1 S1 E1 R R1
    have hs : ρ1[i]? = some s := hs
    obtain ⟨a, h2, z, ⟨dx, ws, ha, q1, q2⟩, o⟩ := R2.mo hs (moO_is hm)
    have hw : ws.length = fs.length := by have := congrArg List.length q1; simpa using this
    obtain ⟨p1, p2⟩ := putFD_ok (f := f) n2.ok q1 q2
    refine ⟨_, h2, a, C, dx, ws, rfl, by rw [← hC]; exact ha, hc, hn, (by rw [hw]; have hl : fs.length < 900 := hl; omega), ?_⟩
    obtain ⟨S3, E3, R3⟩ := mut_slot (m' := .obj c' (putFD f xd fs)) (o := .ins C dx (putF f y ws)) R2 hs (moO_is hm) h2 ⟨dx, _, by rw [hC]; exact upd_same, p1, p2⟩
    exact k _ _ _ (S2.trans S3) R3
  · cases e9
def dProp (c : Nat) (Φ : DF) (o : DE) : DE := fun ρ => (o ρ).bind fun p => match p.1 with
  | .d (.ins c' ns ds) => if c' = c then (Φ [.d (.ins c' ns ds)]).map fun r => (r.1, p.2) else none
  | _ => none
theorem te_prop {c : Nat} {Φ : DF} {o : DE} {Q : VK} {E : XK} {C : Addr} (hC : G.cl c = C) (h : tE (G.at io) (dProp c Φ o) σ H Q) : tProp C (spD G Φ) [] E (tE (G.at io) o) σ H Q := by
  obtain ⟨Z, ρ, r, ρ', e0, R, k⟩ := h
  obtain ⟨⟨s, ρ1⟩, eo, e⟩ := Option.bind_some' e0
  clear e0
  refine ⟨Z, ρ, s, ρ1, eo, R, fun x Z1 H1 S1 E1 R1 n1 => ?_⟩
  split at e
  · rename_i c' ns ds hs
    have hs : s = .d (.ins c' ns ds) := hs
    subst hs
    split at e
    · rename_i hc
      subst hc
      obtain ⟨⟨r', as'⟩, er, e⟩ := Option.map_some' e
      cases e
      have ok := n1.ok
      cases ok with
      | @ins a dx _ _ xs _ h1 h2 h3 =>
        refine ⟨a, dx, ns.zip xs, rfl, by rw [← hC]; exact R1.same _ _ h1, ?_⟩
        refine sp_call er R1.same (.cons n1.ok rfl .nil) fun v Z3 H3 X n => ?_
        exact k v Z3 H3 (S1.ext X) E1 (X.rep R1) (n.back S1)
    · cases e
  · cases e
/-! ### xs.index(e), ints -/
def gIndex : SD → Dat → Option SD := fun s x => match x with
  | .int i => s.lst.bind fun ds => (intsD ds).bind fun ns => (ns.findIdx? (· == i)).map fun j => .d (.int (j : Nat))
  | _ => none
def dIndexB (i : Nat) (f : DE) : DE := fun ρ => (ρ[i]?).bind fun s0 => (s0.lst).bind fun _ => (f ρ).bind fun p => (asD p.1).bind fun x => (p.2[i]?).bind fun s => (gIndex s x).map fun d => (d, p.2)
theorem SD.lst_known {s : SD} {xs : List Dat} (h : s.lst = some xs) : s ≠ .no := fun e => by subst e; cases h
theorem te_index {i : Nat} {f : DE} {Q : VK} (h : tE G (dIndexB i f) σ H Q) : tBM G.K "list" (rIndex G.K) (tVar i) (tCons (tE G f) tNil) σ H Q := by
  obtain ⟨Z, ρ, r, ρ', e, R, k⟩ := h
  obtain ⟨s0, h0, e⟩ := Option.bind_some' e
  obtain ⟨xs0, hx0, e⟩ := Option.bind_some' e
  obtain ⟨⟨b, ρ1⟩, eb, e⟩ := Option.bind_some' e
  obtain ⟨x, hx, e⟩ := Option.bind_some' e
  obtain ⟨s, hs, e⟩ := Option.bind_some' e
  obtain ⟨d, hd, e⟩ := Option.map_some' e
  cases e
  have hx : b = .d x := asD_is hx
  subst hx
  obtain ⟨v0, h1, q0⟩ := R.val h0 (SD.lst_known hx0)
  obtain ⟨a0, vs0, e0, ha0, _⟩ := q0.lst hx0 R.same
  subst e0
  refine ⟨_, h1, .inl ⟨rfl, vs0, .of ha0⟩, Z, ρ, _, ρ1, eb, R, fun y Z1 H1 S1 E1 R1 n1 => ?_⟩
  cases x with
  | int n =>
    obtain ⟨ds, e1, hd⟩ := Option.bind_some' hd
    obtain ⟨ns, e2, hd⟩ := Option.bind_some' hd
    obtain ⟨j, e3, hd⟩ := Option.map_some' hd
    cases hd
    have hs : ρ1[i]? = some s := hs
    obtain ⟨v1, h2, q1⟩ := R1.val hs (SD.lst_known e1)
    rw [h1] at h2; cases h2
    obtain ⟨a1, vs, e4, ha, q⟩ := q1.lst e1 R1.same
    cases e4
    rw [ints_map e2] at q
    have q := q.int
    subst q
    cases n1.ok
    obtain ⟨hj, hp, hno⟩ := List.findIdx?_eq_some_iff_getElem.mp e3
    refine ⟨a0, ns.map V.int, .int n, j, .int n, rfl, rfl, .of ha, rfl, flat_ints ns, ?_, ?_, fun m z' hm hz => ?_, k _ Z1 H1 S1 E1 R1 (.d (.int _))⟩
    · rw [List.getElem?_map, List.getElem?_eq_getElem hj]
      have : ns[j] = n := by simpa using hp
      rw [this]; rfl
    · show (n == n) = true
      simp
    · rw [List.getElem?_map, List.getElem?_eq_getElem (by omega)] at hz
      cases hz
      have := hno m hm
      show (ns[m] == n) = false
      simpa using this
  | _ => cases hd
end
end DP

set_option Elab.async false
set_option linter.all false
set_option maxRecDepth 100000
set_option maxHeartbeats 4000000
namespace DP
open PySem PySem.Spec PyProof.Rows L2
section
variable {G : Gd} {io : Nat → Addr} {Z Z' Z0 Z1 Z2 H H' H0 H1 H2 : Hp} {ρ ρ0 ρ1 ρ2 : List SD} {σ σ0 σ1 σ2 : L2.St} {D : Ends}
/-! ### a, b = x, y -/
def okSlot (i : Nat) (s : SD) (ρ : List SD) : Option (List SD) := dgName i s ρ
theorem okSlot_is {i : Nat} {s : SD} {ρ ρ' : List SD} (e : okSlot i s ρ = some ρ') : i < ρ.length ∧ s.kd ≠ 2 ∧ ρ.set i s = ρ' := by
  unfold okSlot dgName at e
  by_cases hl : i < ρ.length
  · rw [if_pos hl] at e
    cases s with
    | io m => cases e
    | no => cases e; exact ⟨hl, by simp [SD.kd], rfl⟩
    | d x => cases e; exact ⟨hl, by simp [SD.kd], rfl⟩
    | scr x => cases e; exact ⟨hl, by simp [SD.kd], rfl⟩
    | own x => cases e; exact ⟨hl, by simp [SD.kd], rfl⟩
  · rw [if_neg hl] at e; cases e
def dPar (i j : Nat) (f h : DE) : DS := fun ρ => (f ρ).bind fun p => (h p.2).bind fun q => (okSlot i p.1 q.2).bind fun ρ1 => (okSlot j q.1 ρ1).map fun ρ2 => (.nx, ρ2)
theorem ValOk.there {s : SD} {v : V} (h : ValOk G Z H s v) (k : s.kd ≠ 0) : ∃ a, v = .ref a ∧ H a ≠ none := by
  cases s with
  | no => exact absurd rfl k
  | d x => exact absurd rfl k
  | scr x => exact absurd rfl k
  | own m => obtain ⟨a, e, _, q⟩ := h; exact ⟨a, e, q.there⟩
  | io m => obtain ⟨a, e, _, q⟩ := h; exact ⟨a, e, q.there⟩
theorem ts_par {i j : Nat} {f h : DE} (h0 : tS G (dPar i j f h) D σ H) : tPar i j (tCons (tE G f) (tCons (tE G h) tNil)) D σ H := by
  obtain ⟨Z, ρ, fl, ρ', e, R, k⟩ := h0
  obtain ⟨⟨s, ρ1⟩, ef, e⟩ := Option.bind_some' e
  obtain ⟨⟨t, ρ2⟩, eh, e⟩ := Option.bind_some' e
  obtain ⟨ρ3, e3, e⟩ := Option.bind_some' e
  obtain ⟨ρ4, e4, e⟩ := Option.map_some' e
  cases e
  refine ⟨Z, ρ, s, ρ1, ef, R, fun v Z1 H1 S1 E1 R1 n1 => ⟨Z1, ρ1, t, ρ2, eh, R1, fun w Z2 H2 S2 E2 R2 n2 => ⟨v, w, rfl, ?_⟩⟩⟩
  obtain ⟨l3, k3, q3⟩ := okSlot_is e3
  obtain ⟨l4, k4, q4⟩ := okSlot_is e4
  have q3 : ρ2.set i s = ρ3 := q3
  subst q3
  subst q4
  have m1 := n1.step S2 E1 R
  have m2 := n2.back S1
  obtain ⟨S3, R3⟩ := store_slot (S1.trans S2) R2 m1 (m1.own_ne (E1.trans E2) R) l3 k3
  have no : t.kd ≠ 0 → ∀ a, w = .ref a → ¬ Own (ρ2.set i s) (σ.set i (some v)) a := fun kt a ea o => by
    have na := n2.nw kt a ea
    obtain ⟨b, hb, eb⟩ := o
    rw [kdAt_set] at hb
    by_cases ib : i = b
    · subst ib
      rw [if_pos rfl, if_pos l3] at hb
      obtain ⟨c, ec, hc⟩ := n1.ok.there hb
      rw [List.getElem?_set, if_pos rfl] at eb
      split at eb
      · cases eb
        cases ec
        exact hc na
      · cases eb
    · rw [if_neg ib] at hb
      rw [List.getElem?_set, if_neg ib] at eb
      exact n2.own_ne E2 R1 kt a ea ⟨b, hb, eb⟩
  obtain ⟨S4, R4⟩ := store_slot S3 R3 m2 no l4 k4
  exact k _ _ _ S4 R4
end
/-! ### the rules, each with its data program -/
structure En (X : Cx) (G : Gd) : Prop where
  k : X.K = G.K
  w : X.w = G.w
  hu : X.A.units + 66 < cLine
  calm : X.calm = true
  nd : X.N.Nodup
theorem En.blk {X : Cx} {G : Gd} (e : En X G) (s : Shared) (H : Hp) (scope : Scope) (cenv : Env) (fp : List Addr) : En (X.blk s H scope cenv fp) G := ⟨e.k, e.w, e.hu, e.calm, e.nd⟩
section
variable {X : Cx} {G : Gd} {pos : Pos}
theorem je_var (i : Nat) {x : Str} (hN : X.N[i]? = some x := by rfl) (hv : Vis X.env.scope x := by first | exact Or.inl rfl | exact Or.inr (Or.inl rfl) | exact Or.inr (Or.inr rfl)) (hd : (x == ("__debug__" : Str)) = false := by decide) (hcd : (x == ("__classdict__" : Str)) = false := by decide) : PE X (.Name x pos) (tE G (dVar i)) :=
  pe_to (pv i hN hv hd hcd) fun _ _ _ h => te_var h
theorem je_int {i : Int} {j} : PE X (.Constant (.int i) j pos) (tE G (dC (.int i))) := pe_to pe_int fun _ _ _ h => te_c (fun _ => .int i) h
theorem je_str {i : Str} {j} : PE X (.Constant (.str i) j pos) (tE G (dC (.str i))) := pe_to pe_str fun _ _ _ h => te_c (fun _ => .str i) h
theorem je_bl {i : Bool} {j} : PE X (.Constant (.bool i) j pos) (tE G (dC (.bl i))) := pe_to pe_bl fun _ _ _ h => te_c (fun _ => .bl i) h
theorem je_non {j} : PE X (.Constant .none j pos) (tE G (dC .non)) := pe_to pe_non fun _ _ _ h => te_c (fun _ => .non) h

/-! binary operations -/
def tr2 : Int → Int → Bool := fun _ _ => true
def gAdd : SD → SD → Option SD := gOr (gI tr2 fun i j => .int (i + j)) (gOr gCat gCatT)
def gSub2 : SD → SD → Option SD := gI tr2 fun i j => .int (i - j)
def small62 (i : Int) : Bool := decide (i.natAbs < 4611686018427387904)
def gMul : SD → SD → Option SD := gOr (gI (fun i j => small62 i) fun i j => .int (i * j)) gRep
def gMod : SD → SD → Option SD := gI (fun _ j => decide (0 < j)) fun i j => .int (i % j)
def gFdiv : SD → SD → Option SD := gI (fun _ j => decide (0 < j ∧ j < 1073741824)) fun i j => .int (i / j)
def gXor : SD → SD → Option SD := gI tr2 fun i j => .int (Builtin.bitXor i j)
def gPow : SD → SD → Option SD := gI (fun i j => decide (i.natAbs ≤ 1000 ∧ 0 ≤ j ∧ j ≤ 30)) fun i j => .int (i ^ j.toNat)
def gLt : SD → SD → Option SD := gI tr2 fun i j => .bl (decide (i < j))
def gLe : SD → SD → Option SD := gI tr2 fun i j => .bl (decide (i ≤ j))
def gGt : SD → SD → Option SD := gI tr2 fun i j => .bl (decide (j < i))
def gGe : SD → SD → Option SD := gI tr2 fun i j => .bl (decide (j ≤ i))
/-- an operation of the data layer and its rule -/
structure OpB (X : Cx) (G : Gd) (op : Operator) (g : SD → SD → Option SD) : Prop where
  ok : ∃ r : R2, OpR X (binaryOp op) r ∧ VOp2 G r g
structure OpC (X : Cx) (G : Gd) (op : CmpOp) (g : SD → SD → Option SD) : Prop where
  ok : ∃ r : R2, OpR X (compareOp op) r ∧ VOp2 G r g
theorem ob_add (e : En X G) : OpB X G .Add gAdd := ⟨_, OpR.or op_add (OpR.or op_cat op_catA), vop_or2 (vop_I0 fun i j _ => .int (i + j)) (vop_or2 vop_cat (by rw [e.k]; exact vop_catT))⟩
theorem ob_sub (e : En X G) : OpB X G .Sub gSub2 := ⟨_, op_sub, vop_I0 fun i j _ => .int (i - j)⟩
theorem ob_mul (e : En X G) : OpB X G .Mult gMul := ⟨_, OpR.or op_mul op_rep, vop_or2 (vop_I (fun i j h => .inl (by simp [small62] at h; omega)) fun i j _ => .int (i * j)) vop_rep⟩
theorem ob_mod (e : En X G) : OpB X G .Mod gMod := ⟨_, op_mod, vop_I (fun i j h => by simpa using h) fun i j _ => .int (i % j)⟩
theorem ob_fdiv (e : En X G) : OpB X G .FloorDiv gFdiv := ⟨_, op_fdiv, vop_I (fun i j h => by simp at h; exact ⟨by omega, by omega⟩) fun i j _ => .int (i / j)⟩
theorem ob_xor (e : En X G) : OpB X G .BitXor gXor := ⟨_, op_xor, vop_I0 fun i j _ => .int _⟩
theorem oc_eq (e : En X G) : OpC X G .Eq (gEq false) := ⟨_, op_eqD (by have := e.hu; omega), by rw [e.k]; exact vop_eq⟩
theorem oc_ne (e : En X G) : OpC X G .NotEq (gEq true) := ⟨_, op_neD (by have := e.hu; omega), by rw [e.k]; exact vop_ne⟩
theorem oc_lt (e : En X G) : OpC X G .Lt gLt := ⟨_, op_lt, vop_I0 fun i j _ => .bl _⟩
theorem oc_le (e : En X G) : OpC X G .LtE gLe := ⟨_, op_le, vop_I0 fun i j _ => .bl _⟩
theorem oc_gt (e : En X G) : OpC X G .Gt gGt := ⟨_, op_gt, vop_I0 fun i j _ => .bl _⟩
theorem oc_ge (e : En X G) : OpC X G .GtE gGe := ⟨_, op_ge, vop_I0 fun i j _ => .bl _⟩
theorem oc_in (e : En X G) : OpC X G .In (gIn false) := ⟨_, op_in_seq, by rw [e.k]; exact vop_in⟩
theorem oc_nin (e : En X G) : OpC X G .NotIn (gIn true) := ⟨_, op_notIn_seq, by rw [e.k]; exact vop_in⟩
variable {a b : Expr} {f h : DE}
theorem je_op {op : Operator} {g : SD → SD → Option SD} (o : OpB X G op g) (ha : PE X a (tE G f)) (hb : PE X b (tE G h)) : PE X (.BinOp a op b pos) (tE G (dBin g f h)) := by
  obtain ⟨r, h1, h2⟩ := o.ok
  exact pe_to (pe_op h1 ha hb) fun _ _ _ q => te_bin h2 q
theorem je_cmp {op : CmpOp} {g : SD → SD → Option SD} (o : OpC X G op g) (ha : PE X a (tE G f)) (hb : PE X b (tE G h)) (hm : behindInMarks op b = false := by rfl) : PE X (.Compare a [op] [b] pos) (tE G (dBin g f h)) := by
  obtain ⟨r, h1, h2⟩ := o.ok
  exact pe_to (pe_cmpR h1 ha hb hm) fun _ _ _ q => te_bin h2 q
theorem jt_cmp {op : CmpOp} {g : SD → SD → Option SD} (o : OpC X G op g) (ha : PE X a (tE G f)) (hb : PE X b (tE G h)) (hm : behindInMarks op b = false := by rfl) : PT X (.Compare a [op] [b] pos) (tT G (dTestB (dBin g f h))) := by
  obtain ⟨r, h1, h2⟩ := o.ok
  exact pt_to (pt_cmpR h1 ha hb hm) fun _ _ _ q => te_bin h2 (tt_b q)
end
end DP

set_option Elab.async false
set_option linter.all false
set_option maxRecDepth 100000
set_option maxHeartbeats 4000000
namespace DP
open PySem PySem.Spec PyProof.Rows L2
section
variable {X : Cx} {G : Gd} {pos : Pos}
variable {a b : Expr} {f h : DE}
/-! ### operations at a name's object -/
theorem je_ix (e : En X G) (ha : PE X a (tE G f)) (hb : PE X b (tE G h)) (hs : PlainIx b := by exact fun _ _ => rfl) : PE X (.Subscript a b pos) (tE G (dBin gIx f h)) :=
  pe_to (pe_ix (IxR.or ix_list ix_tup) ha hb hs) fun _ _ _ q => te_bin (by rw [e.k]; exact vop_ix) q
theorem je_ixB (e : En X G) (i : Nat) {x : Str} {p : Pos} (hb : PE X b (tE G h)) (hs : PlainIx b := by exact fun _ _ => rfl) (hN : X.N[i]? = some x := by rfl) (hv : Vis X.env.scope x := by first | exact Or.inl rfl | exact Or.inr (Or.inl rfl) | exact Or.inr (Or.inr rfl)) (hd : (x == ("__debug__" : Str)) = false := by decide) (hcd : (x == ("__classdict__" : Str)) = false := by decide) :
    PE X (.Subscript (.Name x p) b pos) (tE G (dVarB i gIx h)) :=
  pe_to (pe_ix (IxR.or ix_list ix_tup) (pv i hN hv hd hcd) hb hs) fun _ _ _ q => te_varB (by rw [e.k]; exact vop_ix) q
theorem je_cmpB {op : CmpOp} {g : SD → SD → Option SD} (o : OpC X G op g) (ha : PE X a (tE G f)) (j : Nat) {x : Str} {p : Pos} (hm : behindInMarks op (.Name x p) = false := by rfl) (hN : X.N[j]? = some x := by rfl) (hv : Vis X.env.scope x := by first | exact Or.inl rfl | exact Or.inr (Or.inl rfl) | exact Or.inr (Or.inr rfl)) (hd : (x == ("__debug__" : Str)) = false := by decide) (hcd : (x == ("__classdict__" : Str)) = false := by decide) :
    PE X (.Compare a [op] [.Name x p] pos) (tE G (dBinB g f j)) := by
  obtain ⟨r, h1, h2⟩ := o.ok
  exact pe_to (pe_cmpR h1 ha (pv j hN hv hd hcd) hm) fun _ _ _ q => te_binB h2 q
theorem jt_cmpB {op : CmpOp} {g : SD → SD → Option SD} (o : OpC X G op g) (ha : PE X a (tE G f)) (j : Nat) {x : Str} {p : Pos} (hm : behindInMarks op (.Name x p) = false := by rfl) (hN : X.N[j]? = some x := by rfl) (hv : Vis X.env.scope x := by first | exact Or.inl rfl | exact Or.inr (Or.inl rfl) | exact Or.inr (Or.inr rfl)) (hd : (x == ("__debug__" : Str)) = false := by decide) (hcd : (x == ("__classdict__" : Str)) = false := by decide) :
    PT X (.Compare a [op] [.Name x p] pos) (tT G (dTestB (dBinB g f j))) := by
  obtain ⟨r, h1, h2⟩ := o.ok
  exact pt_to (pt_cmpR h1 ha (pv j hN hv hd hcd) hm) fun _ _ _ q => te_binB h2 (tt_b q)
theorem jt_din (e : En X G) (ha : PE X a (tE G f)) (j : Nat) {x : Str} {p : Pos} (hm : behindInMarks .In (.Name x p) = false := by rfl) (hN : X.N[j]? = some x := by rfl) (hv : Vis X.env.scope x := by first | exact Or.inl rfl | exact Or.inr (Or.inl rfl) | exact Or.inr (Or.inr rfl)) (hd : (x == ("__debug__" : Str)) = false := by decide) (hcd : (x == ("__classdict__" : Str)) = false := by decide) :
    PT X (.Compare a [.In] [.Name x p] pos) (tT G (dTestB (dInD false f j))) :=
  pt_to (pt_cmp (pc_din (by have := e.hu; omega) ha (pv j hN hv hd hcd)) hm) fun _ _ _ q => te_inD (tt_b q)
theorem jt_dnin (e : En X G) (ha : PE X a (tE G f)) (j : Nat) {x : Str} {p : Pos} (hm : behindInMarks .NotIn (.Name x p) = false := by rfl) (hN : X.N[j]? = some x := by rfl) (hv : Vis X.env.scope x := by first | exact Or.inl rfl | exact Or.inr (Or.inl rfl) | exact Or.inr (Or.inr rfl)) (hd : (x == ("__debug__" : Str)) = false := by decide) (hcd : (x == ("__classdict__" : Str)) = false := by decide) :
    PT X (.Compare a [.NotIn] [.Name x p] pos) (tT G (dTestB (dInD true f j))) :=
  pt_to (pt_cmp (pc_dnotin (by have := e.hu; omega) ha (pv j hN hv hd hcd)) hm) fun _ _ _ q => te_ninD (tt_b q)
theorem je_dget (e : En X G) (i : Nat) {x : Str} {p : Pos} (hb : PE X b (tE G h)) (hs : NoSl b := by exact fun _ _ => rfl) (hN : X.N[i]? = some x := by rfl) (hv : Vis X.env.scope x := by first | exact Or.inl rfl | exact Or.inr (Or.inl rfl) | exact Or.inr (Or.inr rfl)) (hd : (x == ("__debug__" : Str)) = false := by decide) (hcd : (x == ("__classdict__" : Str)) = false := by decide) :
    PE X (.Subscript (.Name x p) b pos) (tE G (dGetB i h)) :=
  pe_to (pe_dget (by have := e.hu; omega) (pv i hN hv hd hcd) hb hs) fun _ _ _ q => te_get q
theorem oc_sin (e : En X G) : OpC X G .In (gOr (gSIn false) (gIn false)) := ⟨_, OpR.or (or_sin) op_in_seq, vop_or2 (by rw [e.w]; exact vop_sin) (by rw [e.k]; exact vop_in)⟩
theorem oc_snin (e : En X G) : OpC X G .NotIn (gOr (gSIn true) (gIn true)) := ⟨_, OpR.or (or_snotin) op_notIn_seq, vop_or2 (by rw [e.w]; exact vop_snin) (by rw [e.k]; exact vop_in)⟩
theorem je_neg (e : En X G) (ha : PE X a (tE G f)) : PE X (.UnaryOp .USub a pos) (tE G (dUn (fun s => (asI s).map fun i => .d (.int (-i))) f)) :=
  pe_to (pe_un un_neg ha) fun _ _ _ q => te_un (r := fun x H Q => rU (fun i => .int (-i)) x H Q) (by
    intro Z H x s d Q e z ox k
    obtain ⟨i, e1, e⟩ := Option.map_some' e
    cases e
    have e1 := asI_is e1
    subst e1
    cases ox
    exact ⟨i, rfl, k _ Z H (Ext.refl z) (.d (.int _))⟩) q

/-! slices -/
theorem jo_none : PO X none (tOD G dNoPart) := ⟨fun pins s σ H Q I q => po_none.run pins s σ H Q I (to_none q)⟩
theorem jo_some (hb : PE X b (tE G h)) : PO X (some b) (tOD G (dPart h)) := ⟨fun pins s σ H Q I q => (po_some hb).run pins s σ H Q I (to_part q)⟩
theorem je_sl (e : En X G) {lo hi : Option Expr} {l u : DO} {p2 : Pos} (ha : PE X a (tE G f)) (hl : PO X lo (tOD G l)) (hu : PO X hi (tOD G u)) : PE X (.Subscript a (.Slice lo hi none p2) pos) (tE G (dSl f l u)) :=
  pe_to (pe_slice (SlR.or sl_list sl_tupA) ha hl hu) fun _ _ _ q => by rw [e.k]; exact te_sl q

/-! tests, ands and ors -/
variable {c : Expr} {t u : DT}
theorem jt_tru (e : En X G) (ha : PE X a (tE G f)) (he : ∀ whole, isTrue a X.env whole = (do let v ← whole; standAt a.pos; holding [v] (truthy v)) := by intro _; rfl) : PT X a (tT G (dTru f)) :=
  pt_to (pt_truth ha he) fun _ _ _ q => by rw [e.k]; exact tt_tru q
theorem jt_not (ha : PT X c (tT G t)) : PT X (.UnaryOp .Not c pos) (tT G (dNotT t)) := pt_to (pt_not ha) fun _ _ _ q => tt_not q
theorem jw_and1 (ha : PT X a (tT G t)) : PW X (.BoolOp .And [a] pos) (tT G t) := pw_and1 ha
theorem jw_or1 (ha : PT X a (tT G t)) : PW X (.BoolOp .Or [a] pos) (tT G t) := pw_or1 ha
theorem jw_and {rest : List Expr} (ha : PT X a (tT G t)) (hb : PW X (.BoolOp .And (b :: rest) pos) (tT G u)) : PW X (.BoolOp .And (a :: b :: rest) pos) (tT G (dAndT t u)) := pw_to (pw_and ha hb) fun _ _ _ q => tt_and q
theorem jw_or {rest : List Expr} (ha : PT X a (tT G t)) (hb : PW X (.BoolOp .Or (b :: rest) pos) (tT G u)) : PW X (.BoolOp .Or (a :: b :: rest) pos) (tT G (dOrT t u)) := pw_to (pw_or ha hb) fun _ _ _ q => tt_or q
theorem je_and1 (ha : PE X a (tE G f)) : PE X (.BoolOp .And [a] pos) (tE G f) := pe_one ha
theorem je_or1 (ha : PE X a (tE G f)) : PE X (.BoolOp .Or [a] pos) (tE G f) := pe_one ha
theorem je_and {rest : List Expr} (ha : PE X a (tE G f)) (hb : PE X (.BoolOp .And (b :: rest) pos) (tE G h)) : PE X (.BoolOp .And (a :: b :: rest) pos) (tE G (dAndV f h)) := pe_to (pe_and ha hb) fun _ _ _ q => te_andV q
theorem je_or {rest : List Expr} (ha : PE X a (tE G f)) (hb : PE X (.BoolOp .Or (b :: rest) pos) (tE G h)) : PE X (.BoolOp .Or (a :: b :: rest) pos) (tE G (dOrV f h)) := pe_to (pe_or ha hb) fun _ _ _ q => te_orV q
theorem je_not (ha : PE X a (tE G f)) : PE X (.UnaryOp .Not a pos) (tE G (dNotV f)) := pe_to (pe_not ha) fun _ _ _ q => te_notV q
theorem je_if (hc : PT X c (tT G t)) (ha : PE X a (tE G f)) (hb : PE X b (tE G h)) : PE X (.IfExp c a b pos) (tE G (dIf t f h)) := pe_to (pe_ifExp hc ha hb) fun _ _ _ q => te_if q

/-! arguments, displays -/
variable {es : List Expr} {fa : DA}
theorem ja_nil : PA X [] (tA G dNil) := pa_to pa_nil fun _ _ _ q => ta_nil q
theorem ja_cons (ha : PE X a (tE G f)) (hr : PA X es (tA G fa)) (hs : starEach (a :: es) X.env = (false, eval a X.env) :: starEach es X.env := by rfl) : PA X (a :: es) (tA G (dCons f fa)) := pa_to (pa_cons ha hr hs) fun _ _ _ q => ta_cons q
theorem je_tup {x1} (ha : PA X es (tA G fa)) : PE X (.Tuple es x1 pos) (tE G (dTup fa)) := pe_to (pe_tup ha) fun _ _ _ q => te_tup q
theorem je_lst (ha : PA X es (tA G fa)) : PE X (.List es pos) (tE G (dLst fa)) := pe_to (pe_lst ha) fun _ _ _ q => te_lst q

/-! what is built in -/
structure CallF (X : Cx) (G : Gd) (v : Value) (g : List SD → Option SD) : Prop where
  ok : ∃ r, CallR X v r ∧ VOpL G r g
theorem cf_len (e : En X G) : CallF X G (.builtin "len") gLen := ⟨_, call_len_seq, by rw [e.k]; exact vopL_len⟩
theorem cf_list (e : En X G) : CallF X G (.type "list") gList := ⟨_, call_list_of, by rw [e.k]; exact vopL_list⟩
theorem cf_tuple (e : En X G) : CallF X G (.type "tuple") gTuple := ⟨_, call_tuple_of, by rw [e.k]; exact vopL_tuple⟩
theorem cf_int (e : En X G) : CallF X G (.type "int") gInt := ⟨_, call_int1, vopL_int⟩
theorem cf_abs (e : En X G) : CallF X G (.builtin "abs") gAbs := ⟨_, call_abs, vopL_abs⟩
theorem cf_sum (e : En X G) : CallF X G (.builtin "sum") gSum := ⟨_, cr_sum e.calm, by rw [e.k]; exact vopL_sum⟩
theorem cf_max2 (e : En X G) : CallF X G (.builtin "max") gMax2 := ⟨_, call_max2 e.calm, vopL_max2⟩
theorem cf_min2 (e : En X G) : CallF X G (.builtin "min") gMin2 := ⟨_, call_min2 e.calm, vopL_min2⟩
theorem cf_max (e : En X G) : CallF X G (.builtin "max") gMax := ⟨_, cr_max e.calm, by rw [e.k]; exact vopL_max⟩
theorem cf_min (e : En X G) : CallF X G (.builtin "min") gMin := ⟨_, cr_min e.calm, by rw [e.k]; exact vopL_min⟩
theorem cf_sorted (e : En X G) : CallF X G (.builtin "sorted") gSorted := ⟨_, CallR.or cr_sorted cr_sortedTI, by rw [e.k]; exact vopL_sorted⟩
theorem cf_all (e : En X G) : CallF X G (.builtin "all") gAll := ⟨_, cr_all e.calm, by rw [e.k]; exact vopL_all⟩
theorem cf_any (e : En X G) : CallF X G (.builtin "any") gAny := ⟨_, cr_any e.calm, by rw [e.k]; exact vopL_any⟩
theorem cf_divmod (e : En X G) : CallF X G (.builtin "divmod") gDivmod := ⟨_, call_divmod, vopL_divmod⟩
theorem cf_repr (e : En X G) : CallF X G (.builtin "repr") gRepr := ⟨_, SkE.call_repr_int, vopL_repr⟩
variable {x : Str} {p : Pos} {id : String}
theorem je_cb {g : List SD → Option SD} (c : CallF X G (.builtin id) g) (hm : X.mg x = none) (hv : bootBuiltins x = some (.builtin id)) (ha : PA X (a :: es) (tA G fa)) (hg : Gl X x := by rfl) (hn : x ≠ "__name__" := by decide) (hdb : (x == ("__debug__" : Str)) = false := by decide)
    (he : starEach (a :: es) X.env = (false, eval a X.env) :: starEach es X.env := by rfl) (hpl : (backTo pos (starEach es X.env)).any (·.1) = false := by rfl) : PE X (.Call (.Name x p) (a :: es) [] pos) (tE G (dCB g fa)) := by
  obtain ⟨r, h1, h2⟩ := c.ok
  exact pe_to (pe_callB h1 hg hm hv ha hn hdb he hpl) fun _ _ _ q => te_cb h2 q
theorem je_ct {g : List SD → Option SD} (c : CallF X G (.type id) g) (hm : X.mg x = none) (hv : bootBuiltins x = some (.type id)) (ha : PA X (a :: es) (tA G fa)) (hg : Gl X x := by rfl) (hn : x ≠ "__name__" := by decide) (hdb : (x == ("__debug__" : Str)) = false := by decide)
    (he : starEach (a :: es) X.env = (false, eval a X.env) :: starEach es X.env := by rfl) (hpl : (backTo pos (starEach es X.env)).any (·.1) = false := by rfl) : PE X (.Call (.Name x p) (a :: es) [] pos) (tE G (dCB g fa)) := by
  obtain ⟨r, h1, h2⟩ := c.ok
  exact pe_to (pe_callTy h1 hg hm hv ha hn hdb he hpl) fun _ _ _ q => te_cb h2 q
theorem je_lenB (e : En X G) (i : Nat) {y : Str} {py : Pos} (hm : X.mg "len" = none) (hg : Gl X "len" := by rfl) (hN : X.N[i]? = some y := by rfl) (hvv : Vis X.env.scope y := by first | exact Or.inl rfl | exact Or.inr (Or.inl rfl) | exact Or.inr (Or.inr rfl)) (hd : (y == ("__debug__" : Str)) = false := by decide) (hcd : (y == ("__classdict__" : Str)) = false := by decide)
    (he0 : starEach [.Name y py] X.env = (false, eval (.Name y py) X.env) :: starEach [] X.env := by rfl) (hpl : (backTo pos (starEach [] X.env)).any (·.1) = false := by rfl) : PE X (.Call (.Name "len" p) [.Name y py] [] pos) (tE G (dLenB i)) :=
  pe_to (pe_callB call_len_seq hg hm PySem.boot_len (pa_cons (pv i hN hvv hd hcd) pa_nil he0) (by decide) (by decide) he0 hpl) fun _ _ _ q => by
    have q := te_lenB q
    rw [← e.k] at q
    exact q
theorem je_setNew (e : En X G) (hm : X.mg "set" = none) (hg : Gl X "set" := by rfl) : PE X (.Call (.Name "set" p) [] [] pos) (tE G dSetNew) :=
  pe_to (pe_callTy0 cr_set0 hg hm PyProof.Rows.boot_set) fun _ _ _ q => by
    rw [e.w]; exact te_setNew q
theorem je_dnew : PE X (.Dict [] [] pos) (tE G dDNew) := pe_to pe_dnewK fun _ _ _ q => te_dnew q
theorem je_disp2 {k1 v1 k2 v2 : Expr} {f1 g1 f2 g2 : DE} (h1 : PE X k1 (tE G f1)) (h2 : PE X v1 (tE G g1)) (h3 : PE X k2 (tE G f2)) (h4 : PE X v2 (tE G g2)) : PE X (.Dict [some k1, some k2] [v1, v2] pos) (tE G (dDisp2 f1 g1 f2 g2)) :=
  pe_to (pe_disp (pps_cons h1 h2 (pps_cons h3 h4 pps_nil)) rfl rfl (by simp) (by show 2 ≤ 15; decide)) fun _ _ _ q => te_disp2 q
theorem je_lstRg1 (e : En X G) (h1 : X.mg "list" = none) (h2 : X.mg "range" = none) {pr p2 : Pos} (hb : PE X b (tE G h)) (hg1 : Gl X "list" := by rfl) (hg2 : Gl X "range" := by rfl) (n1 : starEach [b] X.env = (false, eval b X.env) :: starEach [] X.env := by rfl)
    (n2 : starEach [.Call (.Name "range" pr) [b] [] p2] X.env = (false, eval (.Call (.Name "range" pr) [b] [] p2) X.env) :: starEach [] X.env := by rfl) : PE X (.Call (.Name "list" p) [.Call (.Name "range" pr) [b] [] p2] [] pos) (tE G (dLstRg1 h)) :=
  pe_to (pe_listRg e.calm hg1 h1 (prg_1 hg2 h2 hb n1) n2) fun _ _ _ q => te_lstRg1 q
theorem je_tupRg1 (e : En X G) (h1 : X.mg "tuple" = none) (h2 : X.mg "range" = none) {pr p2 : Pos} (hb : PE X b (tE G h)) (hg1 : Gl X "tuple" := by rfl) (hg2 : Gl X "range" := by rfl) (n1 : starEach [b] X.env = (false, eval b X.env) :: starEach [] X.env := by rfl)
    (n2 : starEach [.Call (.Name "range" pr) [b] [] p2] X.env = (false, eval (.Call (.Name "range" pr) [b] [] p2) X.env) :: starEach [] X.env := by rfl) : PE X (.Call (.Name "tuple" p) [.Call (.Name "range" pr) [b] [] p2] [] pos) (tE G (dTupRg1 h)) :=
  pe_to (pe_tupRg e.calm hg1 h1 (prg_1 hg2 h2 hb n1) n2) fun _ _ _ q => te_tupRg1 q
end
end DP

set_option Elab.async false
set_option linter.all false
set_option maxRecDepth 100000
set_option maxHeartbeats 4000000
namespace DP
open PySem PySem.Spec PyProof.Rows L2
section
variable {G : Gd} {io : Nat → Addr} {Z Z' Z0 Z1 Z2 H H' H0 H1 H2 : Hp} {ρ ρ0 ρ1 ρ2 : List SD} {σ σ0 σ1 σ2 : L2.St} {D : Ends}
theorem far_rep {a : Addr} (R : Rep G Z1 ρ σ H1) (n : ¬ Own ρ σ a) (zz : Same Z1 Z2) (zh : Same Z2 H2) (fr : ∀ b o, H1 b = some o → b ≠ a → H2 b = some o) (fz : ∀ b, H1 b ≠ none → Z1 b = none → b ≠ a → Z2 b = none) : Rep G Z2 ρ σ H2 := by
  refine ⟨zh, R.len, fun i s h => ?_, R.dis⟩
  obtain ⟨w, h1, h2⟩ := R.slot i s h
  refine ⟨w, h1, ?_⟩
  have far : ∀ c, s.kd ≠ 0 → σ[i]? = some (some (.ref c)) → c ≠ a := fun c k e1 e2 => n ⟨i, by unfold kdAt; rw [h]; exact k, e2 ▸ e1⟩
  cases s with
  | no => trivial
  | d y => obtain ⟨v, e, q⟩ := h2; exact ⟨v, e, Is.mono zz q⟩
  | scr ns => obtain ⟨c, e, q⟩ := h2; exact ⟨c, e, zz.seq q⟩
  | own x =>
    obtain ⟨c, e1, zc, k⟩ := h2
    subst e1
    have fc := far c (by simp [SD.kd]) h1
    exact ⟨c, rfl, fz c k.there zc fc, k.mono zz fun w e => fr _ _ e fc⟩
  | io x =>
    obtain ⟨e1, zc, k⟩ := h2
    subst e1
    have fc := far _ (by simp [SD.kd]) h1
    exact ⟨rfl, fz _ k.there zc fc, k.mono zz fun w e => fr _ _ e fc⟩
theorem far_step {a : Addr} (S : Step Z ρ σ H Z1 ρ1 σ1 H1) (na : H a = none) (zz : Same Z1 Z2) (fr : ∀ b o, H1 b = some o → b ≠ a → H2 b = some o) (fz : ∀ b, H1 b ≠ none → Z1 b = none → b ≠ a → Z2 b = none) : Step Z ρ σ H Z2 ρ1 σ1 H2 := by
  have ne : ∀ b, H b ≠ none → b ≠ a := fun b h e => h (e ▸ na)
  refine ⟨S.zz.trans zz, fun b o e n => fr b o (S.fr b o e n) (ne b (by rw [e]; exact fun z => nomatch z)), fun b h z n => fz b (S.dom b h) (S.fz b h z n) (ne b h), fun b h => ?_, S.ow, S.owl⟩
  cases q : H1 b with
  | none => exact absurd q (S.dom b h)
  | some o => rw [fr b o q (ne b h)]; exact fun z => nomatch z
/-! ### f(e, ..): e makes a new object that f may change -/
def dCallF (Φ : DF) (g : DE) (f : DA) : DE := fun ρ => (g ρ).bind fun p0 => match p0.1 with
  | .own m => (f p0.2).bind fun p => (Φ (.io m :: p.1)).bind fun q => match q.2 with
    | .io _ :: _ => some (q.1, p.2)
    | _ => none
  | _ => none
theorem te_callF {Φ : DF} {g : DE} {f : DA} {Q : VK} {E : XK} (h : tE (G.at io) (dCallF Φ g f) σ H Q) : tCall (spD G Φ) [] E (tCons (tE (G.at io) g) (tA (G.at io) f)) σ H Q := by
  obtain ⟨Z, ρ, r, ρ', e, R, k⟩ := h
  obtain ⟨⟨s0, ρ0⟩, eg, e9⟩ := Option.bind_some' e
  split at e9
  · rename_i m hm
    have hm : s0 = .own m := hm
    subst hm
    obtain ⟨⟨as, ρ1⟩, ea, e8⟩ := Option.bind_some' e9
    obtain ⟨⟨r', as'⟩, er, e7⟩ := Option.bind_some' e8
    clear e8 e9 e
    split at e7
    · rename_i m' rest hr
      have hr : as' = .io m' :: rest := hr
      cases e7
      refine ⟨Z, ρ, _, ρ0, eg, R, fun u Z0 H0 S0 E0 R0 n0 => ⟨Z0, ρ0, as, ρ1, ea, R0, fun vs Z1 H1 S1 E1 R1 n1 => ?_⟩⟩
      have n2 := n0.step S1 E0 R
      obtain ⟨a, ua, za, qa⟩ := n2.ok
      subst ua
      have na : H a = none := n2.nw (by simp [SD.kd]) a rfl
      obtain ⟨g1, g2, g3⟩ := args_rep (io := fun _ => a) R1.same n1
      have kd1 : ∀ i, kdAt (.io m :: as) i = if i = 0 then 2 else 0 := fun i => by
        cases i with
        | zero => rfl
        | succ i => rw [if_neg (Nat.succ_ne_zero i)]; exact g1 i
      have own1 : ∀ b, Own (.io m :: as) ((V.ref a :: (vs ++ [])).map some) b → b = a := fun b ⟨i, n, e⟩ => by
        rw [kd1] at n
        cases i with
        | zero => simp at e; exact e.symm
        | succ i => rw [if_neg (Nat.succ_ne_zero i)] at n; exact absurd rfl n
      show spD G Φ (V.ref a :: (vs ++ [])) H1 Q E
      rw [List.append_nil]
      have no1 : ¬ Own ρ1 σ a := n2.own_ne (E0.trans E1) R (by simp [SD.kd]) a rfl
      refine ⟨fun _ => a, Z1, .io m :: as, r', as', er, ⟨R1.same, by simp [g2], fun i t h => ?_, fun i i' b ne hi hi' => ?_⟩, fun i => by rw [kd1]; split <;> decide, fun v Z2 H2 S2 E2 R2 n3 => ?_⟩
      · cases i with
        | zero =>
          simp at h; subst h
          exact ⟨_, rfl, rfl, za, qa.to⟩
        | succ i =>
          obtain ⟨o, p1, p2⟩ := g3 i t (by simpa using h)
          exact ⟨o, by simpa using p1, p2 _⟩
      · rw [kd1] at hi hi'
        cases i with
        | zero => cases i' with
          | zero => exact absurd rfl ne
          | succ i' => exact absurd (if_neg (Nat.succ_ne_zero i')) hi'
        | succ i => exact absurd (if_neg (Nat.succ_ne_zero i)) hi
      · have no : ∀ b, b ≠ a → ¬ Own (.io m :: as) ((V.ref a :: vs).map some) b := fun b n o => n (own1 b (by rw [List.append_nil]; exact o))
        have fr : ∀ b o, H1 b = some o → b ≠ a → H2 b = some o := fun b o e n => S2.fr b o e (no b n)
        have fz : ∀ b, H1 b ≠ none → Z1 b = none → b ≠ a → Z2 b = none := fun b e z n => S2.fz b e z (no b n)
        have R3 : Rep (G.at io) Z2 ρ1 σ H2 := far_rep R1 no1 S2.zz R2.same fr fz
        have S3 : Step Z ρ σ H Z2 ρ1 σ H2 := far_step (S0.trans S1) na S2.zz fr fz
        exact k v Z2 H2 S3 (E0.trans E1) R3 (New.back (New.to (G := G.at fun _ => a) (io := io) n3) (S0.trans S1))
    · cases e7
  · cases e9
end
end DP

set_option Elab.async false
set_option linter.all false
set_option maxRecDepth 100000
set_option maxHeartbeats 4000000
namespace DP
open PySem PySem.Spec PyProof.Rows L2
section
variable {G : Gd} {io : Nat → Addr} {Z Z' Z0 Z1 Z2 H H' H0 H1 H2 : Hp} {ρ ρ0 ρ1 ρ2 : List SD} {σ σ0 σ1 σ2 : L2.St} {D : Ends}
/-! ### len(set(e)), e a list of ints -/
def SetN (a : Addr) (n : Nat) : HO := .ext fun h => ∃ o es ep t, h.get? a = some o ∧ o.ExactSet ∧ o.data = .set es ep t ∧ t.fits es.size = true ∧ es.size = n ∧ n < 100000
/-- how many different ones -/
def metN (ns : List Int) : Nat := (PyProof.Rows.firstMet (fun i => ns.getD i 0) ns.length).length
def rSetOfN (K : PySem.W.Frag) : List V → Hp → VK → Prop := fun vs H Q => ∃ a ns, vs = [V.ref a] ∧ SqL K H a (ns.map V.int) ∧ ns.length < 4000 ∧ ∀ p, H p = none → Q (.ref p) (upd H p (SetN p (metN ns)))
def rLenN : List V → Hp → VK → Prop := fun vs H Q => ∃ a n, vs = [V.ref a] ∧ H a = some (SetN a n) ∧ Q (.int (n : Nat)) H
section
variable {X : Cx}
theorem cr_setOfN (hc : X.calm = true) : CallR X (.type "set") (rSetOfN X.K) := by
  intro pins s σ H vs us Q I r h
  obtain ⟨a, ns, rfl, hs, hl, q⟩ := h
  obtain ⟨its, rv, hls, _⟩ := I.list hs
  rw [Vals.ref1 r]
  have hsz : its.toArray.size = ns.length := by
    have := rv.length
    simp at this
    simp
    omega
  refine PySem.call_set_list (items := its.toArray) (ns := ns) (I.ok.hd hc) hls.isList (by simpa using rv.ints) (by rw [hsz]; unfold scanBound; omega) fun h' tk hS hk => ?_
  rw [hsz] at hS
  obtain ⟨o, es, ep, t, ho, hx, hd, _, _, hb, hf, hn⟩ := hS
  have new : ObjOk X.prog X.w (upd H s.heap.objs.size (SetN s.heap.objs.size (metN ns))) h' s.heap.objs.size (SetN s.heap.objs.size (metN ns)) := by
    refine ⟨⟨o, es, ep, t, ho, hx, hd, hf, hn, ?_⟩, ⟨o, ho⟩, fun h1 h2 p k => ?_⟩
    · have hn : es.size = metN ns := hn
      unfold scanBound at hb
      omega
    · obtain ⟨o, es, ep, t, ho, r⟩ := p
      exact ⟨o, es, ep, t, k o ho, r⟩
  exact ⟨.ref _, _, I.laid (t' := tk) (fun b u e => hk b u (Heap.lt_size e) e) (Nat.le_refl _) new, rfl, q _ (I.hok.fresh (Nat.le_refl _))⟩
theorem cr_lenN : CallR X (.builtin "len") rLenN := by
  intro pins s σ H vs us Q I r h
  obtain ⟨a, n, rfl, ha, q⟩ := h
  rw [Vals.ref1 r]
  obtain ⟨o, es, ep, t, ho, hx, hd, hf, hn, hb⟩ := (I.hok a _ ha).1
  refine PySem.call_len_set ho hx hd hf (by omega) ?_
  rw [hn]
  exact ⟨.int n, H, I.tok _, ⟨_, rfl⟩, q⟩
end
def dLenSet (f : DA) : DE := fun ρ => (f ρ).bind fun p => (intsOf p.1).bind fun ns => if ns.length < 4000 then some (.d (.int (metN ns : Nat)), p.2) else none
theorem te_lenSet {f : DA} {Q : VK} (h : tE G (dLenSet f) σ H Q) : tCB rLenN (tCons (tCB (rSetOfN G.K) (tA G f)) tNil) σ H Q := by
  obtain ⟨Z, ρ, r, ρ', e, R, k⟩ := h
  obtain ⟨⟨as, ρ1⟩, ea, e⟩ := Option.bind_some' e
  obtain ⟨ns, en, e9⟩ := Option.bind_some' e
  split at e9
  · rename_i hl
    cases e9
    refine ⟨Z, ρ, as, ρ1, ea, R, fun vs Z1 H1 S1 E1 R1 n1 => ?_⟩
    obtain ⟨a, ev, hq⟩ := intsOf_ok en n1 R1.same
    refine ⟨a, ns, ev, hq, hl, fun p hp => ⟨p, _, rfl, upd_same, ?_⟩⟩
    have X : Ext Z1 H1 Z1 (upd H1 p (SetN p (metN ns))) := Ext.new R1.same hp
    exact k _ Z1 _ (S1.ext X) E1 (X.rep R1) (New.d (.int _))
  · cases e9
/-! ### f(x=e, y=d) for a def f(y, x) -/
def dCallRev (Φ : DF) (f : DA) : DE := fun ρ => (f ρ).bind fun p => (Φ p.1.reverse).map fun q => (q.1, p.2)
theorem ArgsOk.app : ∀ {as bs : List SD} {vs ws : List V}, ArgsOk G Z H as vs → ArgsOk G Z H bs ws → ArgsOk G Z H (as ++ bs) (vs ++ ws)
  | _, _, _, _, .nil, k => k
  | _, _, _, _, .cons h1 h2 r, k => .cons h1 h2 (ArgsOk.app r k)
theorem ArgsOk.rev : ∀ {as : List SD} {vs : List V}, ArgsOk G Z H as vs → ArgsOk G Z H as.reverse vs.reverse
  | _, _, .nil => .nil
  | _, _, .cons h1 h2 r => by
    rw [List.reverse_cons, List.reverse_cons]
    exact (ArgsOk.rev r).app (.cons h1 h2 .nil)
theorem te_callRev {Φ : DF} {f : DA} {Q : VK} {E : XK} (h : tE (G.at io) (dCallRev Φ f) σ H Q) : tCallK (spD G Φ) (fun vs zs => vs ++ zs.reverse) E tNil (tA (G.at io) f) σ H Q := by
  obtain ⟨Z, ρ, r, ρ', e, R, k⟩ := h
  obtain ⟨⟨as, ρ1⟩, ea, e⟩ := Option.bind_some' e
  obtain ⟨⟨r', as'⟩, er, e⟩ := Option.map_some' e
  cases e
  refine ⟨Z, ρ, as, ρ1, ea, R, fun vs Z1 H1 S1 E1 R1 n1 => ?_⟩
  show spD G Φ ([] ++ vs.reverse) H1 Q E
  rw [List.nil_append]
  exact sp_call er R1.same n1.rev fun v Z3 H3 X n => k v Z3 H3 (S1.ext X) E1 (X.rep R1) (n.back S1)
end
section
variable {X : Cx} {CX : CXT} {k : Nat} {f C : Addr} {fd : FuncData} {ps ks : List Str} {sp : Sp} {E : XK} {x m : Str} {p pos apos kpos : Pos} {kws : List Keyword} {tk : TA} {g : List Value → List Value → List Value} {gV : List V → List V → List V}
theorem pe_callK0 (F : FnOk X.prog X.w X.K X.mg X.base CX k f fd ps sp) (hr : Room k X.A) (hg : Gl X x) (hm : X.mg x = some (.ref f)) (hk : PySem.W.keepIn X.K (.ref f) = true) (hb : KBinds X.K fd ps ks g gV) (hx : Passes CX X E)
    (hkw : PK X kws tk) (hall : (backToKw pos (keywordEach kws X.env)).all (·.1.isSome) = true := by rfl) (hks : (backToKw pos (keywordEach kws X.env)).filterMap (·.1) = ks := by rfl)
    (hdb : (x == ("__debug__" : Str)) = false := by decide) (hpl : ((backTo pos (starEach [] X.env)).any (·.1) || (backToKw pos (keywordEach kws X.env)).any (·.1.isNone)) = false := by rfl) :
    PE X (.Call (.Name x p) [] kws pos) (tCallK sp gV E tNil tk) := by
  refine ⟨fun pins s σ H Q I h => wpAny_Call_Name_kw (ld_glob I hg hm ?_ hdb)⟩
  refine PySem.W.callWith_KW0 (h₀ := X.base) I.ok.mod.kin hk hall (thn (hkw.run pos pins s σ H _ I h) fun ws s2 ⟨zs, H2, I2, rz, q2⟩ => ⟨I2.kIn, ?_⟩) hpl
  rw [hks]
  exact run_fnk (us := []) (vs := []) F hr hb hx I2 .nil rz q2
end
end DP

set_option Elab.async false
set_option linter.all false
set_option maxRecDepth 100000
set_option maxHeartbeats 4000000
namespace DP
open PySem PySem.Spec PyProof.Rows L2
section
variable {G : Gd} {σ : L2.St} {H : Hp}
def dYes : DT := fun ρ => some (true, ρ)
theorem tt_yes {Q : Bool → Hp → Prop} (h : tT G dYes σ H Q) : tYes σ H Q := by
  obtain ⟨Z, ρ, r, ρ', e, R, k⟩ := h
  cases e
  exact k Z H (Step.refl ..) (ES.refl _) R
end
/-- a def of the text, known by its data program -/
structure FnAt (P : Program) (w : World) (K : PySem.W.Frag) (mg : Str → Option Value) (base : Heap) (G : Gd) (x : Str) (k : Nat) (ps : List Str) (Φ : DF) : Prop where
  ok : ∃ (f : Addr) (fd : FuncData), FnOk P w K mg base CX0 k f fd ps (spD G Φ) ∧ mg x = some (.ref f) ∧ PySem.W.keepIn K (.ref f) = true ∧ Binds K fd ps []
/-- a class of the text, and its maker -/
structure ClAt (K : PySem.W.Frag) (mg : Str → Option Value) (G : Gd) (x : Str) (c : Nat) : Prop where
  cl : Cls K (G.cl c)
  mg : mg x = some (.ref (G.cl c))
structure MkAt (P : Program) (w : World) (K : PySem.W.Frag) (mg : Str → Option Value) (base : Heap) (G : Gd) (c : Nat) (k : Nat) (ps : List Str) (Φ : DF) : Prop where
  ok : ∃ (f : Addr) (fd : FuncData), FnOk P w K mg base CX0 k f fd ps (spD G Φ) ∧ Mk K (G.cl c) f ∧ Binds K fd ps []
/-- a method -/
structure MeAt (P : Program) (w : World) (K : PySem.W.Frag) (mg : Str → Option Value) (base : Heap) (G : Gd) (c : Nat) (m : Str) (k : Nat) (ps : List Str) (Φ : DF) : Prop where
  ok : ∃ (f : Addr) (fd : FuncData), FnOk P w K mg base CX0 k f fd ps (spD G Φ) ∧ Meth K (G.cl c) m f ∧ Binds K fd ps []
structure PrAt (P : Program) (w : World) (K : PySem.W.Frag) (mg : Str → Option Value) (base : Heap) (G : Gd) (c : Nat) (m : Str) (k : Nat) (ps : List Str) (Φ : DF) : Prop where
  ok : ∃ (f p : Addr) (fd : FuncData), FnOk P w K mg base CX0 k f fd ps (spD G Φ) ∧ PropOf K (G.cl c) m p f ∧ Binds K fd ps []
section
variable {X : Cx} {G : Gd} {io : Nat → Addr} {pos : Pos} {a b o : Expr} {f h : DE} {es : List Expr} {fa : DA} {x m : Str} {p apos : Pos} {k n c : Nat} {ps : List Str} {Φ : DF}
/-! calls -/
theorem je_call (F : FnAt X.prog X.w X.K X.mg X.base G x k ps Φ) (hr : Room n X.A) (ha : PA X (a :: es) (tA (G.at io) fa)) (hk : k ≤ n := by decide) (hg : Gl X x := by rfl) (hdb : (x == ("__debug__" : Str)) = false := by decide)
    (he : starEach (a :: es) X.env = (false, eval a X.env) :: starEach es X.env := by rfl) (hpl : (backTo pos (starEach es X.env)).any (·.1) = false := by rfl) : PE X (.Call (.Name x p) (a :: es) [] pos) (tE (G.at io) (dCall Φ fa)) := by
  obtain ⟨f, fd, h1, h2, h3, h4⟩ := F.ok
  exact pe_to (pe_call h1 (hr.mono hk) hg h2 h3 h4 .nil pass0 ha hdb he hpl) fun _ _ _ q => te_call q
theorem je_callIO (F : FnAt X.prog X.w X.K X.mg X.base G x k ps Φ) (hr : Room n X.A) (j : Nat) {y : Str} {py : Pos} (ha : PA X es (tA (G.at io) fa)) (hk : k ≤ n := by decide) (hg : Gl X x := by rfl) (hdb : (x == ("__debug__" : Str)) = false := by decide)
    (he : starEach (.Name y py :: es) X.env = (false, eval (.Name y py) X.env) :: starEach es X.env := by rfl) (hpl : (backTo pos (starEach es X.env)).any (·.1) = false := by rfl)
    (hN : X.N[j]? = some y := by rfl) (hv : Vis X.env.scope y := by first | exact Or.inl rfl | exact Or.inr (Or.inl rfl) | exact Or.inr (Or.inr rfl)) (hd : (y == ("__debug__" : Str)) = false := by decide) (hcd : (y == ("__classdict__" : Str)) = false := by decide) :
    PE X (.Call (.Name x p) (.Name y py :: es) [] pos) (tE (G.at io) (dCallIO Φ j fa)) := by
  obtain ⟨f, fd, h1, h2, h3, h4⟩ := F.ok
  exact pe_to (pe_call h1 (hr.mono hk) hg h2 h3 h4 .nil pass0 (pa_cons (pv j hN hv hd hcd) ha he) hdb he hpl) fun _ _ _ q => te_callIO q
theorem je_callF (F : FnAt X.prog X.w X.K X.mg X.base G x k ps Φ) (hr : Room n X.A) (hb : PE X a (tE (G.at io) f)) (ha : PA X es (tA (G.at io) fa)) (hk : k ≤ n := by decide) (hg : Gl X x := by rfl) (hdb : (x == ("__debug__" : Str)) = false := by decide)
    (he : starEach (a :: es) X.env = (false, eval a X.env) :: starEach es X.env := by rfl) (hpl : (backTo pos (starEach es X.env)).any (·.1) = false := by rfl) : PE X (.Call (.Name x p) (a :: es) [] pos) (tE (G.at io) (dCallF Φ f fa)) := by
  obtain ⟨f, fd, h1, h2, h3, h4⟩ := F.ok
  exact pe_to (pe_call h1 (hr.mono hk) hg h2 h3 h4 .nil pass0 (pa_cons hb ha he) hdb he hpl) fun _ _ _ q => te_callF q
/-- f(x=e, y=d), the parameters y, x -/
theorem je_callRev {kws : List Keyword} {ks : List Str} (F : FnAt X.prog X.w X.K X.mg X.base G x k ps Φ) (hr : Room n X.A) (ha : PK X kws (tA (G.at io) fa)) (hb : ∀ (f : Addr) (fd : FuncData), X.mg x = some (.ref f) → Binds X.K fd ps [] → KBinds X.K fd ps ks (fun us ws => us ++ ws.reverse) (fun us ws => us ++ ws.reverse)) (hk : k ≤ n := by decide) (hg : Gl X x := by rfl) (hdb : (x == ("__debug__" : Str)) = false := by decide)
    (hall : (backToKw pos (keywordEach kws X.env)).all (·.1.isSome) = true := by rfl) (hks : (backToKw pos (keywordEach kws X.env)).filterMap (·.1) = ks := by rfl)
    (hpl : ((backTo pos (starEach [] X.env)).any (·.1) || (backToKw pos (keywordEach kws X.env)).any (·.1.isNone)) = false := by rfl) : PE X (.Call (.Name x p) [] kws pos) (tE (G.at io) (dCallRev Φ fa)) := by
  obtain ⟨f, fd, h1, h2, h3, h4⟩ := F.ok
  exact pe_to (pe_callK0 h1 (hr.mono hk) hg h2 h3 (hb f fd h2 h4) pass0 ha hall hks hdb hpl) fun _ _ _ q => te_callRev q
theorem jk_nil : PK X [] (tA G dNil) := ⟨fun pos pins s σ H Q I q => pk_nil.run pos pins s σ H Q I (ta_nil q)⟩
theorem jk_cons {nm : Str} {kpos : Pos} {kws : List Keyword} (ha : PE X a (tE G f)) (hr : PK X kws (tA G fa)) : PK X (⟨nm, a, kpos⟩ :: kws) (tA G (dCons f fa)) := ⟨fun pos pins s σ H Q I q => (pk_cons ha hr).run pos pins s σ H Q I (ta_cons q)⟩
theorem je_meth {pl : Sem Bool} (C : ClAt X.K X.mg G y c) (M : MeAt X.prog X.w X.K X.mg X.base G c m k ps Φ) (hr : Room n X.A) (ho : PE X o (tE (G.at io) f)) (ha : PA X (a :: es) (tA (G.at io) fa)) (hk : k ≤ n := by decide)
    (hst : starEach (a :: es) X.env = (false, eval a X.env) :: starEach es X.env := by rfl) (hpl : (backTo pos (starEach es X.env)).any (·.1) = false := by rfl)
    (ht : eval (.Call (.Attribute o m apos) (a :: es) [] pos) X.env = (do
      let ov ← eval o X.env
      standAt apos.atName
      let (f, first) ← holding [ov] (getMethod ov m pl)
      callWith pos f first (backTo pos (starEach (a :: es) X.env)) (backToKw pos (keywordEach [] X.env))) := by rfl) :
    PE X (.Call (.Attribute o m apos) (a :: es) [] pos) (tE (G.at io) (dMeth m c Φ f fa)) := by
  obtain ⟨f, fd, h1, h2, h4⟩ := M.ok
  exact pe_to (pe_meth (pl := pl) ho C.cl h2 h1 (hr.mono hk) h4 .nil pass0 ha hst hpl ht) fun _ _ _ q => te_meth rfl q
theorem je_meth0 {y : Str} {pl : Sem Bool} (C : ClAt X.K X.mg G y c) (M : MeAt X.prog X.w X.K X.mg X.base G c m k ps Φ) (hr : Room n X.A) (ho : PE X o (tE (G.at io) f)) (hk : k ≤ n := by decide)
    (ht : eval (.Call (.Attribute o m apos) [] [] pos) X.env = (do
      let ov ← eval o X.env
      standAt apos.atName
      let (f, first) ← holding [ov] (getMethod ov m pl)
      callWith pos f first (backTo pos (starEach [] X.env)) (backToKw pos (keywordEach [] X.env))) := by rfl) :
    PE X (.Call (.Attribute o m apos) [] [] pos) (tE (G.at io) (dMeth m c Φ f dNil)) := by
  obtain ⟨f, fd, h1, h2, h4⟩ := M.ok
  refine pe_to (pe_meth0 (pl := pl) ho C.cl h2 h1 (hr.mono hk) h4 .nil pass0 ht) fun σ H Q q => ?_
  have q := te_meth (E := E0) (C := G.cl c) rfl q
  obtain ⟨Z, ρ, r, ρ', e, R, kk⟩ := q
  exact ⟨Z, ρ, r, ρ', e, R, fun v Z' H' S E R' n => by
    obtain ⟨a, dx, fs, e1, e2, e3, q⟩ := kk v Z' H' S E R' n
    exact ⟨a, dx, fs, e1, e2, e3, ta_nil q⟩⟩
theorem je_make (C : ClAt X.K X.mg G x c) (M : MkAt X.prog X.w X.K X.mg X.base G c k ps Φ) (hr : Room n X.A) (ha : PA X (a :: es) (tA (G.at io) fa)) (hk : k + 1 ≤ n := by decide) (hg : Gl X x := by rfl) (hdb : (x == ("__debug__" : Str)) = false := by decide)
    (he : starEach (a :: es) X.env = (false, eval a X.env) :: starEach es X.env := by rfl) (hpl : (backTo pos (starEach es X.env)).any (·.1) = false := by rfl) : PE X (.Call (.Name x p) (a :: es) [] pos) (tE (G.at io) (dMake c Φ fa)) := by
  obtain ⟨f, fd, h1, h2, h4⟩ := M.ok
  exact pe_to (pe_make h2 h1 (hr.mono hk) hg C.mg h4 .nil pass0 ha hdb he hpl) fun _ _ _ q => te_make rfl q
theorem je_prop {y : Str} (C : ClAt X.K X.mg G y c) (M : PrAt X.prog X.w X.K X.mg X.base G c m k ps Φ) (hr : Room n X.A) (ho : PE X o (tE (G.at io) f)) (hk : k + 1 ≤ n := by decide) (hab : attributeBase o m X.env (eval o X.env) = eval o X.env := by rfl) :
    PE X (.Attribute o m pos) (tE (G.at io) (dProp c Φ f)) := by
  obtain ⟨f, pp, fd, h1, h2, h4⟩ := M.ok
  exact pe_to (pe_prop ho C.cl h2 h1 (hr.mono hk) h4 .nil pass0 hab) fun _ _ _ q => te_prop rfl q
theorem je_fld {y : Str} (e : En X (G.at io)) (C : ClAt X.K X.mg G y c) (hn : NoAttr X.K (G.cl c) m) (ho : PE X o (tE (G.at io) f)) (hab : attributeBase o m X.env (eval o X.env) = eval o X.env := by rfl) : PE X (.Attribute o m pos) (tE (G.at io) (dFld c m f)) :=
  pe_to (pe_fld ho hab) fun _ _ _ q => by
    have q := te_fld (G := G.at io) (C := G.cl c) rfl (by rw [← e.k]; exact C.cl) (by rw [← e.k]; exact hn) q
    rw [← e.k] at q
    exact q
theorem je_isiB (e : En X G) {T : String} {t : Str} {pt : Pos} (ha : PE X a (tE G f)) (hm : X.mg "isinstance" = none) (hmt : X.mg t = none) (hvt : bootBuiltins t = some (.type T)) (hg : Gl X "isinstance" := by rfl) (hgt : Gl X t := by rfl) (hnt : t ≠ "__name__" := by decide) (hdt : (t == ("__debug__" : Str)) = false := by decide)
    (h1 : starEach [a, .Name t pt] X.env = (false, eval a X.env) :: starEach [.Name t pt] X.env := by rfl) (h2 : starEach [.Name t pt] X.env = (false, eval (.Name t pt) X.env) :: starEach [] X.env := by rfl) (hpl : (backTo pos (starEach [.Name t pt] X.env)).any (·.1) = false := by rfl) :
    PE X (.Call (.Name "isinstance" p) [a, .Name t pt] [] pos) (tE G (dIsi (isiB T) f)) :=
  pe_to (pe_callB call_isi hg hm boot_isinstance (pa_cons ha (pa_cons (pe_bltn (v := .ty T) hgt hmt hvt rfl hnt hdt) pa_nil h2) h1) (by decide) (by decide) h1 hpl) fun _ _ _ q => by
    rw [e.k]; exact te_isi (.ty T) isiB_ok q
theorem je_isiC (e : En X (G.at io)) {t : Str} {pt : Pos} (ha : PE X a (tE (G.at io) f)) (hm : X.mg "isinstance" = none) (C : ClAt X.K X.mg G t c) (I : InsT X.K (G.cl c)) (hg : Gl X "isinstance" := by rfl) (hgt : Gl X t := by rfl) (hdt : (t == ("__debug__" : Str)) = false := by decide)
    (h1 : starEach [a, .Name t pt] X.env = (false, eval a X.env) :: starEach [.Name t pt] X.env := by rfl) (h2 : starEach [.Name t pt] X.env = (false, eval (.Name t pt) X.env) :: starEach [] X.env := by rfl) (hpl : (backTo pos (starEach [.Name t pt] X.env)).any (·.1) = false := by rfl) :
    PE X (.Call (.Name "isinstance" p) [a, .Name t pt] [] pos) (tE (G.at io) (dIsi (isiC c) f)) :=
  pe_to (pe_callB call_isi hg hm boot_isinstance (pa_cons ha (pa_cons (pe_glob (v := .ref (G.cl c)) hgt C.mg rfl hdt) pa_nil h2) h1) (by decide) (by decide) h1 hpl) fun _ _ _ q => by
    rw [e.k]; exact te_isi (.own _) (isiC_ok (G := G.at io) (by rw [← e.k]; exact I)) q
theorem je_lenSet (e : En X G) (h1 : X.mg "len" = none) (h2 : X.mg "set" = none) {pr p2 : Pos} (ha : PA X [b] (tA G fa)) (hg1 : Gl X "len" := by rfl) (hg2 : Gl X "set" := by rfl) (n1 : starEach [b] X.env = (false, eval b X.env) :: starEach [] X.env := by rfl)
    (n2 : starEach [.Call (.Name "set" pr) [b] [] p2] X.env = (false, eval (.Call (.Name "set" pr) [b] [] p2) X.env) :: starEach [] X.env := by rfl) (hpl : (backTo p2 (starEach [] X.env)).any (·.1) = false := by rfl) (hpl2 : (backTo pos (starEach [] X.env)).any (·.1) = false := by rfl) : PE X (.Call (.Name "len" p) [.Call (.Name "set" pr) [b] [] p2] [] pos) (tE G (dLenSet fa)) :=
  pe_to (pe_callB cr_lenN hg1 h1 PySem.boot_len (pa_cons (pe_callTy (cr_setOfN e.calm) hg2 h2 PyProof.Rows.boot_set ha (by decide) (by decide) n1 hpl) pa_nil n2) (by decide) (by decide) n2 hpl2) fun _ _ _ q => by
    rw [e.k]; exact te_lenSet q

/-! methods of what is built in -/
theorem js_app (i : Nat) {y : Str} {py ep : Pos} (e : En X G) (ha : PE X a (tE G f)) (hN : X.N[i]? = some y := by rfl) (hv : Vis X.env.scope y := by first | exact Or.inl rfl | exact Or.inr (Or.inl rfl) | exact Or.inr (Or.inr rfl)) (hd : (y == ("__debug__" : Str)) = false := by decide) (hcd : (y == ("__classdict__" : Str)) = false := by decide)
    (hbase : attributeBase (.Name y py) "append" X.env (eval (.Name y py) X.env) = eval (.Name y py) X.env := by rfl)
    (hfew : ((backTo pos (starEach [a] X.env)).all (fun x => !x.1) && (backToKw pos (keywordEach [] X.env)).all (fun x => x.1.isSome)
      && decide ([a].length + ([] : List Keyword).length + (if ([] : List Keyword).isEmpty then 0 else 1) < 30)) = true := by rfl)
    (hline : (apos.endLine == pos.line) = true := by rfl) (hs : starEach [a] X.env = (false, eval a X.env) :: starEach [] X.env := by rfl) (hplain : (backTo pos (starEach [] X.env)).any (·.1) = false := by rfl)
    (hsw : swapsWith (.Call (.Attribute (.Name y py) "append" apos) [a] [] pos) none ep.line X.env = pure false := by rfl) :
    PS X (.Expr (.Call (.Attribute (.Name y py) "append" apos) [a] [] pos) ep) (tS G (dApp i f)) :=
  ps_to (ps_expr (pe_bm PySem.F.plainAttrs_list PySem.F.slot_list_append PySem.F.type_list_append mt_append (pv i hN hv hd hcd) (pa_cons ha pa_nil hs) hbase hfew hline hs hplain) hsw) fun _ _ _ q => by
    rw [e.k]; exact ts_app q
theorem js_sadd (i : Nat) {y : Str} {py ep : Pos} (e : En X G) (ha : PE X a (tE G f)) (hN : X.N[i]? = some y := by rfl) (hv : Vis X.env.scope y := by first | exact Or.inl rfl | exact Or.inr (Or.inl rfl) | exact Or.inr (Or.inr rfl)) (hd : (y == ("__debug__" : Str)) = false := by decide) (hcd : (y == ("__classdict__" : Str)) = false := by decide)
    (hbase : attributeBase (.Name y py) "add" X.env (eval (.Name y py) X.env) = eval (.Name y py) X.env := by rfl)
    (hfew : ((backTo pos (starEach [a] X.env)).all (fun x => !x.1) && (backToKw pos (keywordEach [] X.env)).all (fun x => x.1.isSome)
      && decide ([a].length + ([] : List Keyword).length + (if ([] : List Keyword).isEmpty then 0 else 1) < 30)) = true := by rfl)
    (hline : (apos.endLine == pos.line) = true := by rfl) (hs : starEach [a] X.env = (false, eval a X.env) :: starEach [] X.env := by rfl) (hplain : (backTo pos (starEach [] X.env)).any (·.1) = false := by rfl)
    (hsw : swapsWith (.Call (.Attribute (.Name y py) "add" apos) [a] [] pos) none ep.line X.env = pure false := by rfl) :
    PS X (.Expr (.Call (.Attribute (.Name y py) "add" apos) [a] [] pos) ep) (tS G (dSAdd i f)) :=
  ps_to (ps_expr (pe_sadd (pv i hN hv hd hcd) (pa_cons ha pa_nil hs) hbase hfew hline hs hplain) hsw) fun _ _ _ q => by
    rw [e.w]; exact ts_sadd q
theorem je_index (i : Nat) {y : Str} {py : Pos} (e : En X G) (ha : PE X a (tE G f)) (hN : X.N[i]? = some y := by rfl) (hv : Vis X.env.scope y := by first | exact Or.inl rfl | exact Or.inr (Or.inl rfl) | exact Or.inr (Or.inr rfl)) (hd : (y == ("__debug__" : Str)) = false := by decide) (hcd : (y == ("__classdict__" : Str)) = false := by decide)
    (hbase : attributeBase (.Name y py) "index" X.env (eval (.Name y py) X.env) = eval (.Name y py) X.env := by rfl)
    (hfew : ((backTo pos (starEach [a] X.env)).all (fun x => !x.1) && (backToKw pos (keywordEach [] X.env)).all (fun x => x.1.isSome)
      && decide ([a].length + ([] : List Keyword).length + (if ([] : List Keyword).isEmpty then 0 else 1) < 30)) = true := by rfl)
    (hline : (apos.endLine == pos.line) = true := by rfl) (hs : starEach [a] X.env = (false, eval a X.env) :: starEach [] X.env := by rfl) (hplain : (backTo pos (starEach [] X.env)).any (·.1) = false := by rfl) :
    PE X (.Call (.Attribute (.Name y py) "index" apos) [a] [] pos) (tE G (dIndexB i f)) :=
  pe_to (pe_bm PySem.F.plainAttrs_list PySem.F.slot_list_index PySem.F.type_list_index mt_index (pv i hN hv hd hcd) (pa_cons ha pa_nil hs) hbase hfew hline hs hplain) fun _ _ _ q => by
    rw [e.k]; exact te_index q
end
end DP

set_option Elab.async false
set_option linter.all false
set_option maxRecDepth 100000
set_option maxHeartbeats 4000000
namespace DP
open PySem PySem.Spec PyProof.Rows L2
section
variable {X : Cx} {G : Gd} {pos : Pos} {a b : Expr} {f h : DE} {t : DT} {es : List Expr} {fa : DA} {x y : Str} {p apos pos' : Pos} {tg : Expr} {d : DI} {g : DG} {gs : DGs} {s u : DS} {st : Stmt} {rest as bs : List Stmt}
/-! iterators -/
theorem ji_seq (e : En X G) (ha : PE X a (tE G f)) : PI X tg a (tI G (dISeq f)) := pi_to (pi_seqA ha) fun _ _ _ q => by rw [e.k]; exact ti_seq q
theorem ji_rng1 (hm : X.mg "range" = none) (ha : PA X [a] (tA G fa)) (hg : Gl X "range" := by rfl) (hs : starEach [a] X.env = [(false, eval a X.env)] := by rfl) : PI X tg (.Call (.Name "range" p) [a] [] pos) (tI G (dIRng1 fa)) := pi_to (pi_range1 hg hm ha hs) fun _ _ _ q => ti_rng1 q
theorem ji_rng2 (hm : X.mg "range" = none) (ha : PA X [a, b] (tA G fa)) (hg : Gl X "range" := by rfl) (hs : starEach [a, b] X.env = [(false, eval a X.env), (false, eval b X.env)] := by rfl) (hs2 : starEach [b] X.env = [(false, eval b X.env)] := by rfl) : PI X tg (.Call (.Name "range" p) [a, b] [] pos) (tI G (dIRng2 fa)) := pi_to (pi_range2 hg hm ha hs hs2) fun _ _ _ q => ti_rng2 q
theorem ji_enum (e : En X G) {elts : List Expr} {kk : Nat} {tpos : Pos} (hm : X.mg "enumerate" = none) (ha : PA X [a] (tA G fa)) (hg : Gl X "enumerate" := by rfl) (hs : starEach [a] X.env = [(false, eval a X.env)] := by rfl) : PI X (.Tuple elts kk tpos) (.Call (.Name "enumerate" p) [a] [] pos) (tI G (dIEnum fa)) := pi_to (pi_enumA hg hm ha hs) fun _ _ _ q => by rw [e.k]; exact ti_enum q
theorem ji_zip (e : En X G) {elts : List Expr} {kk : Nat} {tpos : Pos} (hm : X.mg "zip" = none) (ha : PA X [a, b] (tA G fa)) (hg : Gl X "zip" := by rfl) (hs : starEach [a, b] X.env = (false, eval a X.env) :: starEach [b] X.env := by rfl) (hpl : (backTo pos (starEach [b] X.env)).any (·.1) = false := by rfl) : PI X (.Tuple elts kk tpos) (.Call (.Name "zip" p) [a, b] [] pos) (tI G (dIZip fa)) := pi_to (RZ.pi_zipA hg hm ha hs hpl) fun _ _ _ q => by rw [e.k]; exact ti_zip q
/-! targets -/
theorem jg_name (e : En X G) (i : Nat) (hi : X.N[i]? = some x := by rfl) (hx : Loc X.env.scope x := by first | exact .inl rfl | exact .inr rfl) (hf : X.fn x = true ∨ X.env.scope.names.lookup x = some .local := by first | exact .inl rfl | exact .inr rfl) : PG X (.Name x pos) (tG G (dgName i)) := pg_to (pg_name e.nd hi hx hf) fun _ _ _ _ q => tg_name q
theorem jgs_nil : PGs X [] (tGs G dgNil) := pgs_to pgs_nil fun _ _ _ _ q => tgs_nil q
theorem jgs_cons (h1 : PG X a (tG G g)) (h2 : PGs X es (tGs G gs)) (hs : (assignEach (a :: es) X.env).map (·.2) = assign a X.env :: (assignEach es X.env).map (·.2) := by rfl) : PGs X (a :: es) (tGs G (dgCons g gs)) := pgs_to (pgs_cons h1 h2 hs) fun _ _ _ _ q => tgs_cons q
theorem jg_tup (e : En X G) {k n : Nat} (hh : PGs X es (tGs G gs)) (hn : (assignEach es X.env).length = n := by rfl) (hst : (assignEach es X.env).findIdx? (·.1) = none := by rfl) : PG X (.Tuple es k pos) (tG G (dgTup n gs)) := pg_to (pg_tup e.calm hh hn hst) fun _ _ _ _ q => by rw [e.k]; exact tg_tup q
theorem jg_sub (e : En X G) (i : Nat) {py : Pos} (hi : PE X b (tE G h)) (hN : X.N[i]? = some y := by rfl) (hv : Vis X.env.scope y := by first | exact Or.inl rfl | exact Or.inr (Or.inl rfl) | exact Or.inr (Or.inr rfl)) (hd : (y == ("__debug__" : Str)) = false := by decide) (hcd : (y == ("__classdict__" : Str)) = false := by decide)
    (ha : ∀ v, assign (.Subscript (.Name y py) b pos) X.env v = (do
      let ov ← holding [v] (eval (.Name y py) X.env)
      let iv ← holding [v, ov] (eval b X.env)
      standAt pos
      holding [v, ov, iv] (setItem ov iv v)
      release [v, ov, iv] []) := by intro _; rfl) : PG X (.Subscript (.Name y py) b pos) (tG G (dgSub i h)) :=
  pg_to (pg_sub (pv i hN hv hd hcd) hi (set_or set_list (set_dict (by have := e.hu; omega))) ha) fun _ _ _ _ q => tg_sub q
/-! comprehensions -/
theorem jts_nil : PTs X [] (tT G dYes) := pts_to pts_nil fun _ _ _ q => tt_yes q
theorem jts_one (hc : PT X a (tT G t)) : PTs X [a] (tT G t) := pts_one hc
theorem je_lc {elt iter : Expr} {ifs : List Expr} {scope : Scope} (own : List (Str × Nat)) {gr : TG} (e : En X G) (hi : PI X tg iter (tI G d)) (ok : BlkOk X.N X.env.scope scope own) (hw : Within (own.map (·.2)) gr g G)
    (hg : ∀ (s : Shared) (H : Hp) (C : Addr) (cl : List (Str × Addr)) (fp : List Addr), PG (X.blk s H scope (compEnvC scope cl C X.env) fp) tg gr) (ht : ∀ (s : Shared) (H : Hp) (C : Addr) (cl : List (Str × Addr)) (fp : List Addr), PTs (X.blk s H scope (compEnvC scope cl C X.env) fp) ifs (tT G t))
    (he : ∀ (s : Shared) (H : Hp) (C : Addr) (cl : List (Str × Addr)) (fp : List Addr), PE (X.blk s H scope (compEnvC scope cl C X.env) fp) elt (tE G f)) (hs : ∀ x, foldedSetIterable iter X.env x = pure x := by intro _; rfl) :
    PE X (.ListComp elt [⟨tg, iter, ifs, 0⟩] scope pos) (tE G (dLC (own.map (·.2)) d g t f)) :=
  pe_to (pe_lc e.calm e.nd hi ok hg ht he hs) fun _ _ _ q => te_lc hw q
/-! statements -/
theorem jss_nil : PSs X [] (tS G dNext) := pss_to pss_nil fun _ _ _ q => ts_next q
theorem jss_cons (h1 : PS X st (tS G s)) (h2 : PSs X rest (tS G u)) : PSs X (st :: rest) (tS G (dSeq s u)) := pss_to (pss_cons h1 h2) fun _ _ _ q => ts_seq q
theorem jss_never : PSs X rest (tS G dNever) := pss_to pss_never fun _ _ _ q => ts_never q
theorem js_never : PS X st (tS G dNever) := ps_to ps_never fun _ _ _ q => ts_never q
theorem js_break : PS X (.Break pos) (tS G dBreak) := ps_to ps_break fun _ _ _ q => ts_break q
theorem js_cont : PS X (.Continue pos) (tS G dCont) := ps_to ps_continue fun _ _ _ q => ts_cont q
theorem js_pass : PS X (.Pass pos) (tS G dNext) := ps_to ps_pass fun _ _ _ q => ts_next q
theorem js_expr (ha : PE X a (tE G f)) (hs : swapsWith a none pos.line X.env = pure false := by rfl) : PS X (.Expr a pos) (tS G (dDrop f)) := ps_to (ps_expr ha hs) fun _ _ _ q => ts_drop q
theorem js_ret (ha : PE X a (tE G f)) : PS X (.Return (some a) pos) (tS G (dRet f)) := ps_to (ps_ret ha) fun _ _ _ q => ts_ret q
theorem js_retV (i : Nat) (hN : X.N[i]? = some x := by rfl) (hv : Vis X.env.scope x := by first | exact Or.inl rfl | exact Or.inr (Or.inl rfl) | exact Or.inr (Or.inr rfl)) (hd : (x == ("__debug__" : Str)) = false := by decide) (hcd : (x == ("__classdict__" : Str)) = false := by decide) : PS X (.Return (some (.Name x p)) pos) (tS G (dRetV i)) := ps_to (ps_ret (pv i hN hv hd hcd)) fun _ _ _ q => ts_retV q
theorem js_retN : PS X (.Return none pos) (tS G dRetN) := ps_to ps_retN fun _ _ _ q => ts_retN q
theorem js_if (hc : PT X a (tT G t)) (h1 : PSs X as (tS G s)) (h2 : PSs X bs (tS G u)) : PS X (.If a as bs pos) (tS G (dIfS t s u)) := ps_to (ps_if hc h1 h2) fun _ _ _ q => ts_if q
theorem js_set (e : En X G) (i : Nat) (ha : PE X a (tE G f)) (hi : X.N[i]? = some x := by rfl) (hx : Loc X.env.scope x := by first | exact .inl rfl | exact .inr rfl) (hs : swapsWith a (some (.Name x pos')) pos.line X.env = pure false := by rfl) (hf : X.fn x = true ∨ X.env.scope.names.lookup x = some .local := by first | exact .inl rfl | exact .inr rfl) :
    PS X (.Assign [.Name x pos'] a pos) (tS G (dAsg f (dgName i))) := ps_to (ps_set e.nd hi hx ha hs hf) fun _ _ _ q => by
  obtain ⟨Z, ρ, r, ρ', e, R, k⟩ := ts_asg q
  exact ⟨Z, ρ, r, ρ', e, R, fun v Z' H' S E R' n => tg_name (k v Z' H' S E R' n)⟩
theorem js_asg (ha : PE X a (tE G f)) (hg : PG X tg (tG G g)) (hs : swapsWithSole [tg] a pos.line X.env = pure false := by rfl) (hw : swappedStores [tg] a X.env = pure none := by rfl) (h1 : (assignEach [tg] X.env).map (·.2) = [assign tg X.env] := by rfl) : PS X (.Assign [tg] a pos) (tS G (dAsg f g)) := ps_to (ps_asg ha hg hs hw h1) fun _ _ _ q => ts_asg q
theorem js_par (e : En X G) (i j : Nat) {px py pt pt2 : Pos} {kt k2} (ha : PE X a (tE G f)) (hb : PE X b (tE G h)) (hij : i ≠ j := by decide) (hi : X.N[i]? = some x := by rfl) (hj : X.N[j]? = some y := by rfl)
    (hx : X.env.scope.names.lookup x = some .local := by rfl) (hy : X.env.scope.names.lookup y = some .local := by rfl) (h1 : starEach [a, b] X.env = (false, eval a X.env) :: starEach [b] X.env := by rfl) (h2 : starEach [b] X.env = (false, eval b X.env) :: starEach [] X.env := by rfl)
    (hw : swappedStores [.Tuple [.Name x px, .Name y py] kt pt] (.Tuple [a, b] k2 pt2) X.env = pure (some [x, y]) := by rfl)
    (hs : swapsWithSole [.Tuple [.Name x px, .Name y py] kt pt] (.Tuple [a, b] k2 pt2) pos.line X.env = pure false := by rfl) :
    PS X (.Assign [.Tuple [.Name x px, .Name y py] kt pt] (.Tuple [a, b] k2 pt2) pos) (tS G (dPar i j f h)) :=
  ps_to (ps_par e.calm e.nd hi hj hij hx hy (pa_cons ha (pa_cons hb pa_nil h2) h1) hw hs) fun _ _ _ q => ts_par q
theorem js_augAdd (e : En X G) (i : Nat) (ha : PE X a (tE G f)) (hi : X.N[i]? = some x := by rfl) (hx : Loc X.env.scope x := by first | exact .inl rfl | exact .inr rfl) (hf : X.fn x = true ∨ X.env.scope.names.lookup x = some .local := by first | exact .inl rfl | exact .inr rfl) :
    PS X (.AugAssign (.Name x pos') .Add a pos) (tS G (dAug i (fun i j => i + j) f)) := ps_to (ps_aug e.nd hi hx ha ip_add hf) fun _ _ _ q => ts_aug q
theorem js_for {iter : Expr} (e : En X.nox G) (hi : PI X.nox tg iter (tI G d)) (hg : PG X.nox tg (tG G g)) (hb : PSs X.nox as (tS G s)) (hs : ∀ x, foldedSetIterable iter X.nox.env x = pure x := by intro _; rfl) : PS X.nox (.For tg iter as [] pos) (tS G (dFor d g s)) :=
  ps_to (ps_for PassesOwn.never e.calm hi hg hb hs) fun _ _ _ q => ts_for q
theorem js_while (n : Nat) (hc : PT X.nox a (tT G t)) (hb : PSs X.nox as (tS G s)) : PS X.nox (.While a as [] pos) (tS G (dWhile t s n)) := ps_to (ps_while PassesOwn.never hc hb) fun _ _ _ q => ts_while q
theorem js_fldSet {io : Nat → Addr} (e : En X (G.at io)) (i : Nat) {c : Nat} {m cx : Str} {py : Pos} (C : ClAt X.K X.mg G cx c) (hn : NoAttr X.K (G.cl c) m) (ha : PE X a (tE (G.at io) f)) (hN : X.N[i]? = some y := by rfl) (hv : Vis X.env.scope y := by first | exact Or.inl rfl | exact Or.inr (Or.inl rfl) | exact Or.inr (Or.inr rfl)) (hd : (y == ("__debug__" : Str)) = false := by decide) (hcd : (y == ("__classdict__" : Str)) = false := by decide)
    (hs : swapsWith a (some (.Attribute (.Name y py) m pos')) pos.line X.env = pure false := by rfl) : PS X (.Assign [.Attribute (.Name y py) m pos'] a pos) (tS (G.at io) (dFldSet i c m f)) :=
  ps_to (ps_fld (pv i hN hv hd hcd) ha hs) fun _ _ _ q => by
    have q := ts_fldSet (G := G.at io) (C := G.cl c) rfl (by rw [← e.k]; exact C.cl) (by rw [← e.k]; exact hn) q
    rw [← e.k] at q
    exact q
theorem js_setLc {elt iter : Expr} {ifs : List Expr} {scope : Scope} {py spos : Pos} (i : Nat) (own : List (Str × Nat)) {gr : TG} (e : En X G) (hi : PI X tg iter (tI G d)) (ok : BlkOk X.N X.env.scope scope own) (hw : Within (own.map (·.2)) gr g G)
    (hg : ∀ (s : Shared) (H : Hp) (C : Addr) (cl : List (Str × Addr)) (fp : List Addr), PG (X.blk s H scope (compEnvC scope cl C X.env) fp) tg gr) (ht : ∀ (s : Shared) (H : Hp) (C : Addr) (cl : List (Str × Addr)) (fp : List Addr), PTs (X.blk s H scope (compEnvC scope cl C X.env) fp) ifs (tT G t))
    (he : ∀ (s : Shared) (H : Hp) (C : Addr) (cl : List (Str × Addr)) (fp : List Addr), PE (X.blk s H scope (compEnvC scope cl C X.env) fp) elt (tE G f)) (hy : X.N[i]? = some y := by rfl) (hyl : X.env.scope.names.lookup y = some .local := by rfl) (hk : X.env.scope.kind = .function := by rfl) (hl : (py.line == pos.line) = true := by rfl)
    (ha : (scope.names.any fun (n, k) => n == y && (k == .local || k == .cell)) = false := by rfl) (hs : ∀ x, foldedSetIterable iter X.env x = pure x := by intro _; rfl) :
    PS X (.Assign [.Name y py] (.ListComp elt [⟨tg, iter, ifs, 0⟩] scope pos) spos) (tS G (dAsg (dLC (own.map (·.2)) d g t f) (dgName i))) :=
  ps_to (ps_setLc e.calm e.nd hy hyl (sw_true hk hyl hl ha) hi ok hg ht he hs) fun _ _ _ q => by
    obtain ⟨Z, ρ, r, ρ', e, R, k⟩ := ts_asg q
    exact te_lc hw ⟨Z, ρ, r, ρ', e, R, fun v Z' H' S E R' n => tg_name (k v Z' H' S E R' n)⟩
end
end DP

set_option Elab.async false
set_option linter.all false
set_option maxRecDepth 100000
set_option maxHeartbeats 4000000
namespace DP
open PySem PySem.Spec PyProof.Rows L2
theorem bt_abs : bootBuiltins "abs" = some (.builtin "abs") := by decide +kernel
theorem bt_sum : bootBuiltins "sum" = some (.builtin "sum") := by decide +kernel
theorem bt_sorted : bootBuiltins "sorted" = some (.builtin "sorted") := by decide +kernel
theorem bt_all : bootBuiltins "all" = some (.builtin "all") := by decide +kernel
theorem bt_any : bootBuiltins "any" = some (.builtin "any") := by decide +kernel
theorem bt_divmod : bootBuiltins "divmod" = some (.builtin "divmod") := by decide +kernel
theorem bt_repr : bootBuiltins "repr" = some (.builtin "repr") := by decide +kernel
theorem bt_len : bootBuiltins "len" = some (.builtin "len") := by decide +kernel
theorem bt_max : bootBuiltins "max" = some (.builtin "max") := by decide +kernel
theorem bt_min : bootBuiltins "min" = some (.builtin "min") := by decide +kernel
theorem bt_list : bootBuiltins "list" = some (.type "list") := by decide +kernel
theorem bt_tuple : bootBuiltins "tuple" = some (.type "tuple") := by decide +kernel
theorem bt_int : bootBuiltins "int" = some (.type "int") := by decide +kernel
theorem bt_set : bootBuiltins "set" = some (.type "set") := by decide +kernel
theorem bt_bool : bootBuiltins "bool" = some (.type "bool") := by decide +kernel
theorem bt_str : bootBuiltins "str" = some (.type "str") := by decide +kernel
def fuel : Nat := 100000
def gNeg : SD → Option SD := fun s => (asI s).map fun i => .d (.int (-i))
theorem en_of {P : Program} {G : Gd} {mg : Str → Option Value} {base : Heap} {N ps : List Str} {qual : Str} {sc : Scope} {f : Addr} {cdv : Value} {A : Around} {outer : List Env} {s : Shared} {H : Hp} {E : XK} {k : Nat} {io : Nat → Addr} (S : FnScope N ps sc) (hr : Room k (A.deeper (envOfC qual sc s.heap.objs.size f cdv))) :
    En (cxOf CX0 P G.w G.K mg base N qual sc f cdv A outer s H E).nox (G.at io) := ⟨rfl, rfl, by have := hr.un; show (A.deeper (envOfC qual sc s.heap.objs.size f cdv)).units + 66 < cLine; omega, rfl, S.nd⟩
/-- a def that is called by keywords, too -/
structure FnAtK (P : Program) (w : World) (K : PySem.W.Frag) (mg : Str → Option Value) (base : Heap) (G : Gd) (x : Str) (k : Nat) (ps ks : List Str) (Φ : DF) : Prop where
  ok : ∃ (f : Addr) (fd : FuncData), FnOk P w K mg base CX0 k f fd ps (spD G Φ) ∧ mg x = some (.ref f) ∧ PySem.W.keepIn K (.ref f) = true ∧ KBinds K fd ps ks (fun us ws => us ++ ws.reverse) (fun us ws => us ++ ws.reverse)
section
variable {X : Cx} {G : Gd} {io : Nat → Addr} {pos : Pos} {a b o : Expr} {f h : DE} {es : List Expr} {fa : DA} {x m : Str} {p apos : Pos} {k n c : Nat} {ps : List Str} {Φ : DF}
theorem je_callRv {kws : List Keyword} {ks : List Str} (F : FnAtK X.prog X.w X.K X.mg X.base G x k ps ks Φ) (hr : Room n X.A) (ha : PK X kws (tA (G.at io) fa)) (hk : k ≤ n := by decide) (hg : Gl X x := by rfl) (hdb : (x == ("__debug__" : Str)) = false := by decide)
    (hall : (backToKw pos (keywordEach kws X.env)).all (·.1.isSome) = true := by rfl) (hks : (backToKw pos (keywordEach kws X.env)).filterMap (·.1) = ks := by rfl)
    (hpl : ((backTo pos (starEach [] X.env)).any (·.1) || (backToKw pos (keywordEach kws X.env)).any (·.1.isNone)) = false := by rfl) : PE X (.Call (.Name x p) [] kws pos) (tE (G.at io) (dCallRev Φ fa)) := by
  obtain ⟨f, fd, h1, h2, h3, h4⟩ := F.ok
  exact pe_to (pe_callK0 h1 (hr.mono hk) hg h2 h3 h4 pass0 ha hall hks hdb hpl) fun _ _ _ q => te_callRev q
theorem ob_pow (e : En X G) : OpB X G .Pow gPow := ⟨_, op_pow, vop_I (fun i j h => by simp at h; exact ⟨by omega, by omega, by omega⟩) fun i j _ => .int _⟩
end
end DP

set_option Elab.async false
set_option linter.all false
/-! Classes of numbers below n, counted; permutations. -/
namespace WM
/-! ### lists -/
theorem sub_len {α : Type} [DecidableEq α] : ∀ {l l' : List α}, l.Nodup → (∀ x ∈ l, x ∈ l') → l.length ≤ l'.length
  | [], _, _, _ => Nat.zero_le _
  | x :: r, l', nd, h => by
    obtain ⟨n1, n2⟩ := List.nodup_cons.mp nd
    have hx : x ∈ l' := h x (List.mem_cons_self ..)
    have := sub_len (l := r) (l' := l'.erase x) n2 fun y hy => by
      have ne : y ≠ x := fun e => n1 (e ▸ hy)
      exact (List.mem_erase_of_ne ne).mpr (h y (List.mem_cons_of_mem _ hy))
    rw [List.length_erase_of_mem hx] at this
    have hp : 0 < l'.length := List.length_pos_of_mem hx
    rw [List.length_cons]
    omega
theorem filter_drop {α : Type} [DecidableEq α] {p q : α → Bool} {m : α} : ∀ {l : List α}, l.Nodup → m ∈ l → p m = true → (∀ x ∈ l, q x = true ↔ p x = true ∧ x ≠ m) → (l.filter q).length + 1 = (l.filter p).length
  | [], _, h, _, _ => by simp at h
  | x :: r, nd, h, hp, hq => by
    obtain ⟨n1, n2⟩ := List.nodup_cons.mp nd
    rw [List.filter_cons, List.filter_cons]
    by_cases e : x = m
    · subst e
      have qx : ¬ q x = true := fun z => ((hq x (List.mem_cons_self ..)).mp z).2 rfl
      rw [if_neg qx, if_pos hp]
      have : r.filter q = r.filter p := List.filter_congr fun y hy => by
        have ne : y ≠ x := fun e => n1 (e ▸ hy)
        have := hq y (List.mem_cons_of_mem _ hy)
        cases hqy : q y <;> cases hpy : p y <;> simp_all
      rw [this]; rfl
    · have hr : m ∈ r := (List.mem_cons.mp h).resolve_left fun z => e z.symm
      have ih := filter_drop n2 hr hp fun y hy => hq y (List.mem_cons_of_mem _ hy)
      have hx := hq x (List.mem_cons_self ..)
      by_cases px : p x = true
      · rw [if_pos (hx.mpr ⟨px, e⟩), if_pos px, List.length_cons, List.length_cons, ih]
      · rw [if_neg fun z => px (hx.mp z).1, if_neg px, ih]
/-! ### classes -/
structure Eqv (n : Nat) (R : Nat → Nat → Prop) : Prop where
  rf : ∀ x, x < n → R x x
  sy : ∀ x y, x < n → y < n → R x y → R y x
  tr : ∀ x y z, x < n → y < n → z < n → R x y → R y z → R x z
/-- no smaller one of its class -/
def Mn (R : Nat → Nat → Prop) (x : Nat) : Prop := ∀ y, y < x → ¬ R y x
open Classical in
/-- how many classes there are below n -/
noncomputable def ncl (n : Nat) (R : Nat → Nat → Prop) : Nat := ((List.range n).filter fun x => decide (Mn R x)).length
theorem ncl_ext {n : Nat} {R R' : Nat → Nat → Prop} (h : ∀ x y, x < n → y < n → (R x y ↔ R' x y)) : ncl n R = ncl n R' := by
  unfold ncl
  congr 1
  refine List.filter_congr fun x hx => ?_
  have hx := List.mem_range.mp hx
  have : Mn R x ↔ Mn R' x := ⟨fun k y hy z => k y hy ((h y x (by omega) hx).mpr z), fun k y hy z => k y hy ((h y x (by omega) hx).mp z)⟩
  simp [this]
theorem rep {n : Nat} {R : Nat → Nat → Prop} (E : Eqv n R) : ∀ x, x < n → ∃ m, m ≤ x ∧ R m x ∧ Mn R m := by
  intro x
  induction x using Nat.strongRecOn with
  | ind x ih =>
    intro hx
    by_cases h : Mn R x
    · exact ⟨x, Nat.le_refl _, E.rf x hx, h⟩
    · have : ∃ y, y < x ∧ R y x := Classical.byContradiction fun k => h fun y hy z => k ⟨y, hy, z⟩
      obtain ⟨y, hy, r⟩ := this
      obtain ⟨m, h1, h2, h3⟩ := ih y hy (by omega)
      exact ⟨m, by omega, E.tr m y x (by omega) (by omega) hx h2 r, h3⟩
theorem mn_eq {n : Nat} {R : Nat → Nat → Prop} (E : Eqv n R) {x y : Nat} (hx : x < n) (hy : y < n) (mx : Mn R x) (my : Mn R y) (r : R x y) : x = y := by
  rcases Nat.lt_trichotomy x y with h | h | h
  · exact absurd r (my x h)
  · exact h
  · exact absurd (E.sy x y hx hy r) (mx y h)
theorem ncl_le {n m : Nat} {R R' : Nat → Nat → Prop} (E : Eqv n R) (E' : Eqv m R') (h : Nat → Nat) (hb : ∀ x, x < n → h x < m) (hi : ∀ x y, x < n → y < n → R' (h x) (h y) → R x y) : ncl n R ≤ ncl m R' := by
  classical
  have ex : ∀ x, ∃ z, x < n → z ≤ h x ∧ R' z (h x) ∧ Mn R' z := fun x => by
    by_cases hx : x < n
    · obtain ⟨z, q⟩ := rep E' (h x) (hb x hx)
      exact ⟨z, fun _ => q⟩
    · exact ⟨0, fun k => absurd k hx⟩
  let f : Nat → Nat := fun x => Classical.choose (ex x)
  have hf : ∀ x, x < n → f x ≤ h x ∧ R' (f x) (h x) ∧ Mn R' (f x) := fun x hx => Classical.choose_spec (ex x) hx
  unfold ncl
  rw [← List.length_map (f := f) (as := (List.range n).filter fun x => decide (Mn R x))]
  refine sub_len ?_ fun z hz => ?_
  · rw [List.nodup_iff_pairwise_ne, List.pairwise_map]
    have nd : ((List.range n).filter fun x => decide (Mn R x)).Nodup := List.nodup_range.filter _
    rw [List.nodup_iff_pairwise_ne] at nd
    refine List.Pairwise.imp_of_mem (fun {a b} ha hb' ne e => ne ?_) nd
    obtain ⟨a1, a2⟩ := List.mem_filter.mp ha
    obtain ⟨b1, b2⟩ := List.mem_filter.mp hb'
    have a1 := List.mem_range.mp a1
    have b1 := List.mem_range.mp b1
    obtain ⟨p1, p2, p3⟩ := hf a a1
    obtain ⟨q1, q2, q3⟩ := hf b b1
    have hha := hb a a1
    have hhb := hb b b1
    refine mn_eq E a1 b1 (by simpa using a2) (by simpa using b2) (hi a b a1 b1 ?_)
    refine E'.tr _ (f a) _ hha (by omega) hhb (E'.sy _ _ (by omega) hha p2) ?_
    rw [e]
    exact q2
  · obtain ⟨x, hx, e⟩ := List.mem_map.mp hz
    subst e
    obtain ⟨x1, x2⟩ := List.mem_filter.mp hx
    have x1 := List.mem_range.mp x1
    obtain ⟨p1, p2, p3⟩ := hf x x1
    have := hb x x1
    exact List.mem_filter.mpr ⟨List.mem_range.mpr (by omega), by simpa using p3⟩
/-- two counts by a map that meets every class once -/
theorem ncl_eq {n m : Nat} {R R' : Nat → Nat → Prop} (E : Eqv n R) (E' : Eqv m R') (h : Nat → Nat) (hb : ∀ x, x < n → h x < m) (hi : ∀ x y, x < n → y < n → (R x y ↔ R' (h x) (h y))) (hs : ∀ y, y < m → ∃ x, x < n ∧ R' (h x) y) : ncl n R = ncl m R' := by
  classical
  refine Nat.le_antisymm (ncl_le E E' h hb fun x y hx hy r => (hi x y hx hy).mpr r) ?_
  have ex : ∀ y, ∃ x, y < m → x < n ∧ R' (h x) y := fun y => by
    by_cases hy : y < m
    · obtain ⟨x, q⟩ := hs y hy; exact ⟨x, fun _ => q⟩
    · exact ⟨0, fun k => absurd k hy⟩
  let g : Nat → Nat := fun y => Classical.choose (ex y)
  have hg : ∀ y, y < m → g y < n ∧ R' (h (g y)) y := fun y hy => Classical.choose_spec (ex y) hy
  refine ncl_le E' E g (fun y hy => (hg y hy).1) fun y z hy hz r => ?_
  obtain ⟨y1, y2⟩ := hg y hy
  obtain ⟨z1, z2⟩ := hg z hz
  have r' := (hi _ _ y1 z1).mp r
  exact E'.tr _ (h (g y)) _ hy (hb _ y1) hz (E'.sy _ _ (hb _ y1) hy y2) (E'.tr _ _ _ (hb _ y1) (hb _ z1) hz r' z2)
/-! ### one link more -/
def jn (R : Nat → Nat → Prop) (a b : Nat) : Nat → Nat → Prop := fun x y => R x y ∨ (R x a ∧ R b y) ∨ (R x b ∧ R a y)
theorem jn_eqv {n : Nat} {R : Nat → Nat → Prop} (E : Eqv n R) {a b : Nat} (ha : a < n) (hb : b < n) : Eqv n (jn R a b) := by
  refine ⟨fun x hx => .inl (E.rf x hx), fun x y hx hy r => ?_, fun x y z hx hy hz r s => ?_⟩
  · rcases r with r | ⟨r, s⟩ | ⟨r, s⟩
    · exact .inl (E.sy x y hx hy r)
    · exact .inr (.inr ⟨E.sy _ _ hb hy s, E.sy _ _ hx ha r⟩)
    · exact .inr (.inl ⟨E.sy _ _ ha hy s, E.sy _ _ hx hb r⟩)
  · rcases r with r | ⟨r, r2⟩ | ⟨r, r2⟩
    · rcases s with s | ⟨s, s2⟩ | ⟨s, s2⟩
      · exact .inl (E.tr _ _ _ hx hy hz r s)
      · exact .inr (.inl ⟨E.tr _ _ _ hx hy ha r s, s2⟩)
      · exact .inr (.inr ⟨E.tr _ _ _ hx hy hb r s, s2⟩)
    · rcases s with s | ⟨s, s2⟩ | ⟨s, s2⟩
      · exact .inr (.inl ⟨r, E.tr _ _ _ hb hy hz r2 s⟩)
      · exact .inr (.inl ⟨r, s2⟩)
      · exact .inl (E.tr _ _ _ hx ha hz r s2)
    · rcases s with s | ⟨s, s2⟩ | ⟨s, s2⟩
      · exact .inr (.inr ⟨r, E.tr _ _ _ ha hy hz r2 s⟩)
      · exact .inl (E.tr _ _ _ hx hb hz r s2)
      · exact .inr (.inr ⟨r, s2⟩)
theorem jn_same {n : Nat} {R : Nat → Nat → Prop} (E : Eqv n R) {a b : Nat} (ha : a < n) (hb : b < n) (h : R a b) : ncl n (jn R a b) = ncl n R := by
  refine ncl_ext fun x y hx hy => ⟨fun r => ?_, .inl⟩
  rcases r with r | ⟨r, s⟩ | ⟨r, s⟩
  · exact r
  · exact E.tr _ _ _ hx ha hy r (E.tr _ _ _ ha hb hy h s)
  · exact E.tr _ _ _ hx hb hy r (E.tr _ _ _ hb ha hy (E.sy _ _ ha hb h) s)
theorem jn_less {n : Nat} {R : Nat → Nat → Prop} (E : Eqv n R) {a b : Nat} (ha : a < n) (hb : b < n) (h : ¬ R a b) : ncl n (jn R a b) + 1 = ncl n R := by
  classical
  obtain ⟨p, p1, p2, p3⟩ := rep E a ha
  obtain ⟨q, q1, q2, q3⟩ := rep E b hb
  have hp : p < n := by omega
  have hq : q < n := by omega
  have ne : p ≠ q := fun e => h (E.tr _ _ _ ha hp hb (E.sy _ _ hp ha p2) (e ▸ q2))
  -- the greater of the two falls away
  have key : ∀ x, x < n → (Mn (jn R a b) x ↔ Mn R x ∧ x ≠ max p q) := fun x hx => by
    constructor
    · intro k
      refine ⟨fun y hy r => k y hy (.inl r), fun e => ?_⟩
      by_cases c : p < q
      · have e : x = q := by omega
        subst e
        exact k p c (.inr (.inl ⟨p2, E.sy _ _ hx hb q2⟩))
      · have e : x = p := by omega
        subst e
        exact k q (by omega) (.inr (.inr ⟨q2, E.sy _ _ hx ha p2⟩))
    · rintro ⟨k, e⟩ y hy r
      have hyn : y < n := by omega
      rcases r with r | ⟨r, s⟩ | ⟨r, s⟩
      · exact k y hy r
      · -- y in a's class, x in b's: x = q
        have : x = q := (mn_eq E hq hx q3 k (E.tr _ _ _ hq hb hx q2 s)).symm
        subst this
        have py : p ≤ y := by
          rcases Nat.lt_or_ge y p with z | z
          · exact absurd (E.tr _ _ _ hyn ha hp r (E.sy _ _ hp ha p2)) (p3 y z)
          · exact z
        omega
      · have : x = p := (mn_eq E hp hx p3 k (E.tr _ _ _ hp ha hx p2 s)).symm
        subst this
        have py : q ≤ y := by
          rcases Nat.lt_or_ge y q with z | z
          · exact absurd (E.tr _ _ _ hyn hb hq r (E.sy _ _ hq hb q2)) (q3 y z)
          · exact z
        omega
  unfold ncl
  refine filter_drop (m := max p q) List.nodup_range (List.mem_range.mpr (by omega)) ?_ fun x hx => ?_
  · have : Mn R (max p q) := by
      rcases Nat.lt_or_ge p q with c | c
      · rw [Nat.max_eq_right (by omega)]; exact q3
      · rw [Nat.max_eq_left (by omega)]; exact p3
    simpa using this
  · simp [key x (List.mem_range.mp hx)]
/-! ### the classes that links make -/
inductive EC (r : Nat → Nat → Prop) : Nat → Nat → Prop where
  | rf (x : Nat) : EC r x x
  | fw {x y z : Nat} : EC r x y → r y z → EC r x z
  | bw {x y z : Nat} : EC r x y → r z y → EC r x z
theorem EC.tr {r : Nat → Nat → Prop} {x y z : Nat} (h : EC r x y) (k : EC r y z) : EC r x z := by
  induction k with
  | rf => exact h
  | fw _ s ih => exact .fw ih s
  | bw _ s ih => exact .bw ih s
theorem EC.sy {r : Nat → Nat → Prop} {x y : Nat} (h : EC r x y) : EC r y x := by
  induction h with
  | rf => exact .rf _
  | fw _ s ih => exact EC.tr (.bw (.rf _) s) ih
  | bw _ s ih => exact EC.tr (.fw (.rf _) s) ih
theorem EC.one {r : Nat → Nat → Prop} {x y : Nat} (h : r x y) : EC r x y := .fw (.rf _) h
theorem EC.eqv (n : Nat) (r : Nat → Nat → Prop) : Eqv n (EC r) := ⟨fun x _ => .rf x, fun _ _ _ _ h => h.sy, fun _ _ _ _ _ _ h k => h.tr k⟩
theorem EC.mono {r s : Nat → Nat → Prop} (h : ∀ x y, r x y → EC s x y) {x y : Nat} (k : EC r x y) : EC s x y := by
  induction k with
  | rf => exact .rf _
  | fw _ q ih => exact ih.tr (h _ _ q)
  | bw _ q ih => exact ih.tr (h _ _ q).sy
/-- along a map -/
theorem EC.map {r s : Nat → Nat → Prop} (f : Nat → Nat) (h : ∀ x y, r x y → EC s (f x) (f y)) {x y : Nat} (k : EC r x y) : EC s (f x) (f y) := by
  induction k with
  | rf => exact .rf _
  | fw _ q ih => exact ih.tr (h _ _ q)
  | bw _ q ih => exact ih.tr (h _ _ q).sy
/-- a set that no link leaves -/
theorem EC.stay {r : Nat → Nat → Prop} {S : Nat → Prop} (h : ∀ x y, r x y → (S x ↔ S y)) {x y : Nat} (k : EC r x y) : S x ↔ S y := by
  induction k with
  | rf => exact .rfl
  | fw _ q ih => exact ih.trans (h _ _ q)
  | bw _ q ih => exact ih.trans (h _ _ q).symm
theorem EC.jn {r : Nat → Nat → Prop} {a b : Nat} {x y : Nat} : EC (fun u v => r u v ∨ (u = a ∧ v = b)) x y ↔ jn (EC r) a b x y := by
  constructor
  · intro h
    have E := jn_eqv (EC.eqv (x + y + a + b + 1) r) (a := a) (b := b) (by omega) (by omega)
    -- no bound is needed: the relation is closed by hand
    have tr : ∀ {u v w : Nat}, WM.jn (EC r) a b u v → WM.jn (EC r) a b v w → WM.jn (EC r) a b u w := fun {u v w} p q => by
      have E := jn_eqv (EC.eqv (u + v + w + a + b + 1) r) (a := a) (b := b) (by omega) (by omega)
      exact E.tr u v w (by omega) (by omega) (by omega) p q
    have sy : ∀ {u v : Nat}, WM.jn (EC r) a b u v → WM.jn (EC r) a b v u := fun {u v} p => by
      have E := jn_eqv (EC.eqv (u + v + a + b + 1) r) (a := a) (b := b) (by omega) (by omega)
      exact E.sy u v (by omega) (by omega) p
    have one : ∀ {u v : Nat}, (r u v ∨ (u = a ∧ v = b)) → WM.jn (EC r) a b u v := fun {u v} p => by
      rcases p with p | ⟨rfl, rfl⟩
      · exact .inl (.one p)
      · exact .inr (.inl ⟨.rf _, .rf _⟩)
    induction h with
    | rf => exact .inl (.rf _)
    | fw _ q ih => exact tr (ih (jn_eqv (EC.eqv _ r) (by omega) (by omega))) (one q)
    | bw _ q ih => exact tr (ih (jn_eqv (EC.eqv _ r) (by omega) (by omega))) (sy (one q))
  · intro h
    have up : ∀ {u v : Nat}, EC r u v → EC (fun u v => r u v ∨ (u = a ∧ v = b)) u v := fun k => EC.mono (fun _ _ q => .one (.inl q)) k
    have l : EC (fun u v => r u v ∨ (u = a ∧ v = b)) a b := .one (.inr ⟨rfl, rfl⟩)
    rcases h with h | ⟨h, k⟩ | ⟨h, k⟩
    · exact up h
    · exact (up h).tr (l.tr (up k))
    · exact (up h).tr (l.sy.tr (up k))
end WM

set_option Elab.async false
set_option linter.all false
namespace WM
structure Pm (n : Nat) (f : Nat → Nat) : Prop where
  lt : ∀ x, x < n → f x < n
  inj : ∀ x y, x < n → y < n → f x = f y → x = y
def itr (f : Nat → Nat) : Nat → Nat → Nat
  | 0, x => x
  | k + 1, x => f (itr f k x)
theorem itr_add (f : Nat → Nat) (j : Nat) : ∀ k x, itr f (j + k) x = itr f j (itr f k x) := by
  induction j with
  | zero => intro k x; rw [Nat.zero_add]; rfl
  | succ j ih => intro k x; rw [Nat.succ_add]; exact congrArg f (ih k x)
theorem itr_one (f : Nat → Nat) (k x : Nat) : itr f (k + 1) x = itr f k (f x) := itr_add f k 1 x
section
variable {n : Nat} {f : Nat → Nat}
theorem Pm.itr (P : Pm n f) : ∀ k x, x < n → itr f k x < n
  | 0, _, h => h
  | k + 1, x, h => P.lt _ (Pm.itr P k x h)
theorem Pm.itr_inj (P : Pm n f) : ∀ k x y, x < n → y < n → WM.itr f k x = WM.itr f k y → x = y
  | 0, _, _, _, _, e => e
  | k + 1, x, y, hx, hy, e => Pm.itr_inj P k x y hx hy (P.inj _ _ (P.itr k x hx) (P.itr k y hy) e)
theorem Pm.surj (P : Pm n f) {y : Nat} (hy : y < n) : ∃ x, x < n ∧ f x = y := by
  refine Classical.byContradiction fun h => ?_
  have h1 : ((List.range n).map f).length ≤ ((List.range n).erase y).length := by
    refine sub_len ?_ fun z hz => ?_
    · rw [List.nodup_iff_pairwise_ne, List.pairwise_map]
      have nd : (List.range n).Nodup := List.nodup_range
      rw [List.nodup_iff_pairwise_ne] at nd
      exact List.Pairwise.imp_of_mem (fun {a b} ha hb ne e => ne (P.inj a b (List.mem_range.mp ha) (List.mem_range.mp hb) e)) nd
    · obtain ⟨x, hx, e⟩ := List.mem_map.mp hz
      have hx := List.mem_range.mp hx
      subst e
      exact (List.mem_erase_of_ne fun e => h ⟨x, hx, e⟩).mpr (List.mem_range.mpr (P.lt x hx))
  rw [List.length_map, List.length_erase_of_mem (List.mem_range.mpr hy), List.length_range] at h1
  omega
theorem Pm.back (P : Pm n f) {x : Nat} (hx : x < n) : ∃ k, WM.itr f (k + 1) x = x ∧ k < n := by
  refine Classical.byContradiction fun h => ?_
  have h1 : ((List.range (n + 1)).map fun k => WM.itr f k x).length ≤ (List.range n).length := by
    refine sub_len ?_ fun z hz => ?_
    · rw [List.nodup_iff_pairwise_ne, List.pairwise_map]
      have nd : (List.range (n + 1)).Pairwise (· < ·) := List.pairwise_lt_range
      refine List.Pairwise.imp_of_mem (fun {i j} hi hj lt e => h ?_) nd
      have hj := List.mem_range.mp hj
      obtain ⟨d, e2⟩ : ∃ d, j = i + (d + 1) := ⟨j - i - 1, by omega⟩
      subst e2
      rw [itr_add] at e
      exact ⟨d, (P.itr_inj i _ _ hx (P.itr _ x hx) e).symm, by omega⟩
    · obtain ⟨k, _, e⟩ := List.mem_map.mp hz
      subst e
      exact List.mem_range.mpr (P.itr k x hx)
  rw [List.length_map, List.length_range, List.length_range] at h1
  omega
/-- of one cycle -/
def Cy (n : Nat) (f : Nat → Nat) : Nat → Nat → Prop := EC fun x y => x < n ∧ f x = y
theorem Cy.eqv : Eqv n (Cy n f) := EC.eqv n _
theorem Cy.st {x : Nat} (h : x < n) : Cy n f x (f x) := .one ⟨h, rfl⟩
theorem Cy.itr (P : Pm n f) {x : Nat} (h : x < n) : ∀ k, Cy n f x (WM.itr f k x)
  | 0 => .rf _
  | k + 1 => (Cy.itr P h k).tr (Cy.st (P.itr k x h))
/-- a and b met at the end alone -/
def To (n : Nat) (f : Nat → Nat) (a b : Nat) (x : Nat) : Prop := ∃ k, itr f k x = a ∧ ∀ j, j < k → itr f j x ≠ a ∧ itr f j x ≠ b
theorem To.rf (a b : Nat) : To n f a b a := ⟨0, rfl, fun j h => absurd h (Nat.not_lt_zero j)⟩
theorem To.no {a b : Nat} (ne : a ≠ b) : ¬ To n f a b b := fun ⟨k, e, h⟩ => by
  cases k with
  | zero => exact ne e.symm
  | succ k => exact (h 0 (Nat.succ_pos k)).2 rfl
theorem To.iff {a b x : Nat} (ha : x ≠ a) (hb : x ≠ b) : To n f a b x ↔ To n f a b (f x) := by
  constructor
  · rintro ⟨k, e, h⟩
    cases k with
    | zero => exact absurd e ha
    | succ k => exact ⟨k, by rw [← itr_one]; exact e, fun j hj => by rw [← itr_one]; exact h (j + 1) (by omega)⟩
  · rintro ⟨k, e, h⟩
    refine ⟨k + 1, by rw [itr_one]; exact e, fun j hj => ?_⟩
    cases j with
    | zero => exact ⟨ha, hb⟩
    | succ j => rw [itr_one]; exact h j (by omega)
/-- the links without those of a and b -/
def Li (n : Nat) (f : Nat → Nat) (a b : Nat) : Nat → Nat → Prop := fun x y => x < n ∧ x ≠ a ∧ x ≠ b ∧ f x = y
theorem Li.to {a b x : Nat} (P : Pm n f) (hx : x < n) (h : To n f a b x) : EC (Li n f a b) x a := by
  obtain ⟨k, e, h⟩ := h
  have : ∀ j, j ≤ k → EC (Li n f a b) x (itr f j x) := fun j => by
    induction j with
    | zero => intro _; exact .rf _
    | succ j ih => intro hj; exact (ih (by omega)).fw ⟨P.itr j x hx, (h j (by omega)).1, (h j (by omega)).2, rfl⟩
  have q := this k (Nat.le_refl k)
  rw [e] at q
  exact q
theorem Li.apart {a b : Nat} (ne : a ≠ b) : ¬ EC (Li n f a b) a b := fun h => by
  have := EC.stay (S := To n f a b) (fun x y ⟨_, h1, h2, e⟩ => by rw [← e]; exact To.iff h1 h2) h
  exact To.no ne (this.mp (To.rf a b))
theorem Li.swap {a b x y : Nat} (h : EC (Li n f a b) x y) : EC (Li n f b a) x y := EC.mono (fun _ _ ⟨p, q, r, s⟩ => .one ⟨p, r, q, s⟩) h
theorem first_hit (P : Pm n f) {a b : Nat} (ha : a < n) : To n f a b (f a) ∨ To n f b a (f a) := by
  obtain ⟨k, e, _⟩ := P.back ha
  -- the least number of steps from f a to a or b
  have ex : ∃ j, itr f j (f a) = a ∨ itr f j (f a) = b := ⟨k, .inl (by rw [← itr_one]; exact e)⟩
  have least : ∃ j, (itr f j (f a) = a ∨ itr f j (f a) = b) ∧ ∀ i, i < j → ¬ (itr f i (f a) = a ∨ itr f i (f a) = b) := by
    obtain ⟨j, hj⟩ := ex
    induction j using Nat.strongRecOn with
    | ind j ih =>
      by_cases c : ∃ i, i < j ∧ (itr f i (f a) = a ∨ itr f i (f a) = b)
      · obtain ⟨i, hi, q⟩ := c
        exact ih i hi q
      · exact ⟨j, hj, fun i hi q => c ⟨i, hi, q⟩⟩
  obtain ⟨j, h1, h2⟩ := least
  rcases h1 with h1 | h1
  · exact .inl ⟨j, h1, fun i hi => ⟨fun e => h2 i hi (.inl e), fun e => h2 i hi (.inr e)⟩⟩
  · exact .inr ⟨j, h1, fun i hi => ⟨fun e => h2 i hi (.inr e), fun e => h2 i hi (.inl e)⟩⟩
theorem not_both (P : Pm n f) {a b : Nat} (ha : a < n) (hb : b < n) (ne : a ≠ b) : ∀ {c d : Nat}, (c = a ∧ d = b ∨ c = b ∧ d = a) → To n f c d (f a) → To n f c d (f b) → False := by
  have key : ∀ {u v c d : Nat}, u < n → v < n → (u = c ∨ u = d) → u ≠ v → (v = c ∨ v = d) → ∀ k1 k2, itr f k1 (f u) = c → itr f k2 (f v) = c → k1 ≤ k2 → (∀ j, j < k2 → itr f j (f v) ≠ c ∧ itr f j (f v) ≠ d) → False := by
    intro u v c d hu hv hcu nuv hcv k1 k2 e1 e2 hle h
    obtain ⟨q, rfl⟩ : ∃ q, k2 = k1 + q := ⟨k2 - k1, by omega⟩
    rw [itr_add] at e2
    have e3 := P.itr_inj k1 _ _ (P.lt u hu) (P.itr q _ (P.lt v hv)) (e1.trans e2.symm)
    cases q with
    | zero => exact nuv (P.inj u v hu hv e3)
    | succ q =>
      have e4 : u = itr f q (f v) := P.inj _ _ hu (P.itr q _ (P.lt v hv)) e3
      have hq := h q (by omega)
      rcases hcu with z | z
      · exact hq.1 (e4.symm.trans z)
      · exact hq.2 (e4.symm.trans z)
  rintro c d hcd ⟨k1, e1, h1⟩ ⟨k2, e2, h2⟩
  rcases Nat.le_total k1 k2 with hle | hle
  · exact key ha hb (by rcases hcd with ⟨rfl, rfl⟩ | ⟨rfl, rfl⟩ <;> simp) ne (by rcases hcd with ⟨rfl, rfl⟩ | ⟨rfl, rfl⟩ <;> simp) k1 k2 e1 e2 hle h2
  · exact key hb ha (by rcases hcd with ⟨rfl, rfl⟩ | ⟨rfl, rfl⟩ <;> simp) ne.symm (by rcases hcd with ⟨rfl, rfl⟩ | ⟨rfl, rfl⟩ <;> simp) k2 k1 e2 e1 hle h1
/-- f with what a and b go to exchanged -/
def swp (f : Nat → Nat) (a b : Nat) : Nat → Nat := fun x => if x = a then f b else if x = b then f a else f x
theorem swp_a (a b : Nat) : swp f a b a = f b := if_pos rfl
theorem swp_b (a b : Nat) : swp f a b b = f a := by
  unfold swp
  by_cases h : b = a
  · rw [if_pos h, h]
  · rw [if_neg h, if_pos rfl]
theorem swp_o {a b x : Nat} (h1 : x ≠ a) (h2 : x ≠ b) : swp f a b x = f x := by unfold swp; rw [if_neg h1, if_neg h2]
theorem cy_links {a b : Nat} (ha : a < n) (hb : b < n) {x y : Nat} : Cy n f x y ↔ jn (jn (EC (Li n f a b)) a (f a)) b (f b) x y := by
  have step : ∀ {u v : Nat}, Cy n f u v ↔ EC (fun u v => (Li n f a b u v ∨ (u = a ∧ v = f a)) ∨ (u = b ∧ v = f b)) u v := fun {u v} => by
    constructor
    · refine EC.mono fun x y ⟨hx, e⟩ => .one ?_
      by_cases h1 : x = a
      · subst h1; exact .inl (.inr ⟨rfl, e.symm⟩)
      · by_cases h2 : x = b
        · subst h2; exact .inr ⟨rfl, e.symm⟩
        · exact .inl (.inl ⟨hx, h1, h2, e⟩)
    · refine EC.mono fun x y h => ?_
      rcases h with (⟨hx, _, _, e⟩ | ⟨rfl, rfl⟩) | ⟨rfl, rfl⟩
      · rw [← e]; exact Cy.st hx
      · exact Cy.st ha
      · exact Cy.st hb
  rw [step, EC.jn]
  have e : ∀ u v, EC (fun u v => Li n f a b u v ∨ (u = a ∧ v = f a)) u v ↔ jn (EC (Li n f a b)) a (f a) u v := fun u v => EC.jn
  unfold jn at e ⊢
  rw [e, e, e, e, e]
theorem li_swp {a b : Nat} {x y : Nat} : EC (Li n (swp f a b) a b) x y ↔ EC (Li n f a b) x y :=
  ⟨EC.mono fun _ _ ⟨p, q, r, s⟩ => .one ⟨p, q, r, (swp_o (f := f) q r).symm.trans s⟩, EC.mono fun _ _ ⟨p, q, r, s⟩ => .one ⟨p, q, r, (swp_o (f := f) q r).trans s⟩⟩
theorem Pm.swp (P : Pm n f) {a b : Nat} (ha : a < n) (hb : b < n) : Pm n (swp f a b) := by
  refine ⟨fun x hx => ?_, fun x y hx hy e => ?_⟩
  · unfold WM.swp
    split
    · exact P.lt b hb
    · split
      · exact P.lt a ha
      · exact P.lt x hx
  · unfold WM.swp at e
    by_cases x1 : x = a
    · rw [if_pos x1] at e
      by_cases y1 : y = a
      · rw [x1, y1]
      · rw [if_neg y1] at e
        by_cases y2 : y = b
        · rw [if_pos y2] at e
          have := P.inj b a hb ha e
          omega
        · rw [if_neg y2] at e
          have := P.inj b y hb hy e
          omega
    · rw [if_neg x1] at e
      by_cases x2 : x = b
      · rw [if_pos x2] at e
        by_cases y1 : y = a
        · rw [if_pos y1] at e
          have := P.inj a b ha hb e
          omega
        · rw [if_neg y1] at e
          by_cases y2 : y = b
          · rw [x2, y2]
          · rw [if_neg y2] at e
            have := P.inj a y ha hy e
            omega
      · rw [if_neg x2] at e
        by_cases y1 : y = a
        · rw [if_pos y1] at e
          have := P.inj x b hx hb e
          omega
        · rw [if_neg y1] at e
          by_cases y2 : y = b
          · rw [if_pos y2] at e
            have := P.inj x a hx ha e
            omega
          · rw [if_neg y2] at e
            exact P.inj x y hx hy e
/-- exchanged within one cycle: one cycle more; of two cycles: one less -/
theorem swap_law (P : Pm n f) {a b : Nat} (ha : a < n) (hb : b < n) (ne : a ≠ b) :
    (¬ Cy n f a b ∧ ncl n (Cy n (swp f a b)) + 1 = ncl n (Cy n f)) ∨ (Cy n f a b ∧ ncl n (Cy n (swp f a b)) = ncl n (Cy n f) + 1) := by
  have L : Eqv n (EC (Li n f a b)) := EC.eqv n _
  have hfa := P.lt a ha
  have hfb := P.lt b hb
  have ap := Li.apart (n := n) (f := f) ne
  have e1 : ncl n (Cy n f) = ncl n (jn (jn (EC (Li n f a b)) a (f a)) b (f b)) := ncl_ext fun x y _ _ => cy_links ha hb
  have e2 : ncl n (Cy n (swp f a b)) = ncl n (jn (jn (EC (Li n f a b)) a (f b)) b (f a)) := ncl_ext fun x y _ _ => by
    rw [cy_links (f := swp f a b) ha hb, swp_a, swp_b]
    have e : ∀ u v, EC (Li n (swp f a b) a b) u v ↔ EC (Li n f a b) u v := fun u v => li_swp
    unfold jn
    simp only [e]
  have two : (To n f a b (f a) ∧ To n f b a (f b)) ∨ (To n f b a (f a) ∧ To n f a b (f b)) := by
    have h1 := first_hit P (b := b) ha
    have h2 := first_hit P (b := a) hb
    rcases h1 with h1 | h1
    · rcases h2 with h2 | h2
      · exact .inl ⟨h1, h2⟩
      · exact absurd h2 fun h2 => not_both P ha hb ne (.inl ⟨rfl, rfl⟩) h1 h2
    · rcases h2 with h2 | h2
      · exact absurd h2 fun h2 => not_both P ha hb ne (.inr ⟨rfl, rfl⟩) h1 h2
      · exact .inr ⟨h1, h2⟩
  rcases two with ⟨t1, t2⟩ | ⟨t1, t2⟩
  · have la : EC (Li n f a b) (f a) a := Li.to P hfa t1
    have lb : EC (Li n f a b) (f b) b := Li.swap (Li.to P hfb t2)
    left
    have c1 : ncl n (Cy n f) = ncl n (EC (Li n f a b)) := by
      rw [e1, jn_same (jn_eqv L ha hfa) hb hfb (.inl lb.sy), jn_same L ha hfa la.sy]
    constructor
    · intro h
      have h := (cy_links (f := f) ha hb).mp h
      have q : ∀ u v, jn (EC (Li n f a b)) a (f a) u v → EC (Li n f a b) u v := fun u v h => by
        rcases h with h | ⟨h, k⟩ | ⟨h, k⟩
        · exact h
        · exact h.tr (la.sy.tr k)
        · exact h.tr (la.tr k)
      rcases h with h | ⟨h, k⟩ | ⟨h, k⟩
      · exact ap (q _ _ h)
      · exact ap ((q _ _ h).tr (lb.sy.tr (q _ _ k)))
      · exact ap ((q _ _ h).tr (lb.tr (q _ _ k)))
    · have c2 : ncl n (jn (EC (Li n f a b)) a (f b)) + 1 = ncl n (EC (Li n f a b)) := jn_less L ha hfb fun h => ap (h.tr lb)
      have c3 : ncl n (jn (jn (EC (Li n f a b)) a (f b)) b (f a)) = ncl n (jn (EC (Li n f a b)) a (f b)) := by
        refine jn_same (jn_eqv L ha hfb) hb hfa ?_
        exact .inr (.inr ⟨lb.sy, la.sy⟩)
      omega
  · have la : EC (Li n f a b) (f a) b := Li.swap (Li.to P hfa t1)
    have lb : EC (Li n f a b) (f b) a := Li.to P hfb t2
    right
    have c1 : ncl n (Cy n (swp f a b)) = ncl n (EC (Li n f a b)) := by
      rw [e2, jn_same (jn_eqv L ha hfb) hb hfa (.inl la.sy), jn_same L ha hfb lb.sy]
    constructor
    · exact (Cy.st ha).tr (EC.mono (fun x y ⟨p, _, _, s⟩ => .one ⟨p, s⟩) la)
    · have c2 : ncl n (jn (EC (Li n f a b)) a (f a)) + 1 = ncl n (EC (Li n f a b)) := jn_less L ha hfa fun h => ap (h.tr la)
      have c3 : ncl n (jn (jn (EC (Li n f a b)) a (f a)) b (f b)) = ncl n (jn (EC (Li n f a b)) a (f a)) := by
        refine jn_same (jn_eqv L ha hfa) hb hfb ?_
        exact .inr (.inr ⟨la.sy, lb.sy⟩)
      omega
end
end WM

set_option Elab.async false
set_option linter.all false
namespace WM
section
variable {n m : Nat} {f g : Nat → Nat}
theorem Cy.congr (h : ∀ x, x < n → f x = g x) {x y : Nat} : Cy n f x y ↔ Cy n g x y :=
  ⟨EC.mono fun u v ⟨p, q⟩ => .one ⟨p, (h u p).symm.trans q⟩, EC.mono fun u v ⟨p, q⟩ => .one ⟨p, (h u p).trans q⟩⟩
theorem Cy.ncl (h : ∀ x, x < n → f x = g x) : ncl n (Cy n f) = ncl n (Cy n g) := ncl_ext fun _ _ _ _ => Cy.congr h
theorem Pm.congr (P : Pm n f) (h : ∀ x, x < n → g x = f x) : Pm n g := ⟨fun x hx => by rw [h x hx]; exact P.lt x hx, fun x y hx hy e => P.inj x y hx hy (by rw [← h x hx, ← h y hy]; exact e)⟩
theorem Cy.lt (P : Pm n f) {x y : Nat} (h : Cy n f x y) : x < n ↔ y < n := EC.stay (S := fun z => z < n) (fun u v ⟨p, q⟩ => ⟨fun _ => q ▸ P.lt u p, fun _ => p⟩) h
/-- m behind a -/
def ins (f : Nat → Nat) (a m : Nat) : Nat → Nat := fun x => if x = a then m else if x = m then f a else f x
theorem ins_a (a m : Nat) : ins f a m a = m := if_pos rfl
theorem ins_m {a m : Nat} (h : m ≠ a) : ins f a m m = f a := by unfold ins; rw [if_neg h, if_pos rfl]
theorem ins_o {a m x : Nat} (h1 : x ≠ a) (h2 : x ≠ m) : ins f a m x = f x := by unfold ins; rw [if_neg h1, if_neg h2]
theorem Pm.ins (P : Pm n f) {a : Nat} (ha : a < n) : Pm (n + 1) (ins f a n) := by
  refine ⟨fun x hx => ?_, fun x y hx hy e => ?_⟩
  · by_cases h1 : x = a
    · rw [h1, ins_a]; omega
    · by_cases h2 : x = n
      · rw [h2, ins_m (by omega)]; have := P.lt a ha; omega
      · rw [ins_o h1 h2]; have := P.lt x (by omega); omega
  · by_cases x1 : x = a
    · subst x1
      rw [ins_a] at e
      by_cases y1 : y = x
      · exact y1.symm
      · by_cases y2 : y = n
        · subst y2; rw [ins_m (by omega)] at e; have := P.lt x ha; omega
        · rw [ins_o y1 y2] at e; have := P.lt y (by omega); omega
    · by_cases x2 : x = n
      · subst x2
        rw [ins_m (by omega)] at e
        by_cases y1 : y = a
        · subst y1; rw [ins_a] at e; have := P.lt y ha; omega
        · by_cases y2 : y = x
          · exact y2.symm
          · rw [ins_o y1 y2] at e
            have := P.inj a y ha (by omega) e
            omega
      · rw [ins_o x1 x2] at e
        by_cases y1 : y = a
        · subst y1; rw [ins_a] at e; have := P.lt x (by omega); omega
        · by_cases y2 : y = n
          · subst y2; rw [ins_m (by omega)] at e
            have := P.inj x a (by omega) ha e
            omega
          · rw [ins_o y1 y2] at e
            exact P.inj x y (by omega) (by omega) e
theorem Cy.ins_new {a : Nat} (ha : a < n) : Cy (n + 1) (ins f a n) a n := .one ⟨by omega, ins_a a n⟩
theorem Cy.ins (P : Pm n f) {a : Nat} (ha : a < n) {x y : Nat} (hx : x < n) (hy : y < n) : Cy (n + 1) (ins f a n) x y ↔ Cy n f x y := by
  constructor
  · intro h
    have := EC.map (s := fun x y => x < n ∧ f x = y) (fun z => if z = n then a else z) (fun u v ⟨p, q⟩ => by
      by_cases h1 : u = a
      · subst h1
        rw [ins_a] at q
        rw [if_neg (by omega), ← q, if_pos rfl]
        exact .rf _
      · by_cases h2 : u = n
        · subst h2
          rw [ins_m (by omega)] at q
          have := P.lt a ha
          rw [if_pos rfl, ← q, if_neg (by omega)]
          exact Cy.st ha
        · rw [ins_o h1 h2] at q
          have := P.lt u (by omega)
          rw [if_neg h2, ← q, if_neg (by omega)]
          exact Cy.st (by omega)) h
    rw [if_neg (by omega), if_neg (by omega)] at this
    exact this
  · refine EC.mono fun u v ⟨p, q⟩ => ?_
    by_cases h1 : u = a
    · subst h1
      refine (Cy.ins_new ha).tr (.one ⟨by omega, ?_⟩)
      rw [ins_m (by omega)]; exact q
    · exact .one ⟨by omega, by rw [ins_o h1 (by omega)]; exact q⟩
theorem ncl_ins (P : Pm n f) {a : Nat} (ha : a < n) : ncl (n + 1) (Cy (n + 1) (ins f a n)) = ncl n (Cy n f) := by
  refine (ncl_eq Cy.eqv Cy.eqv (fun x => x) (fun x hx => by omega) (fun x y hx hy => (Cy.ins P ha hx hy).symm) fun y hy => ?_).symm
  by_cases h : y = n
  · rw [h]; exact ⟨a, ha, Cy.ins_new ha⟩
  · exact ⟨y, by omega, .rf _⟩
/-- m alone -/
def fx (f : Nat → Nat) (m : Nat) : Nat → Nat := fun x => if x = m then m else f x
theorem fx_m (m : Nat) : fx f m m = m := if_pos rfl
theorem fx_o {m x : Nat} (h : x ≠ m) : fx f m x = f x := if_neg h
theorem Pm.fx (P : Pm n f) : Pm (n + 1) (fx f n) := by
  refine ⟨fun x hx => ?_, fun x y hx hy e => ?_⟩
  · by_cases h : x = n
    · rw [h, fx_m]; omega
    · rw [fx_o h]; have := P.lt x (by omega); omega
  · by_cases h : x = n
    · subst h
      rw [fx_m] at e
      by_cases k : y = x
      · exact k.symm
      · rw [fx_o k] at e; have := P.lt y (by omega); omega
    · rw [fx_o h] at e
      by_cases k : y = n
      · subst k; rw [fx_m] at e; have := P.lt x (by omega); omega
      · rw [fx_o k] at e; exact P.inj x y (by omega) (by omega) e
theorem Cy.fx (P : Pm n f) {x y : Nat} (hx : x < n) (hy : y < n) : Cy (n + 1) (WM.fx f n) x y ↔ Cy n f x y := by
  constructor
  · intro h
    have h0 : 0 < n := by omega
    have := EC.map (s := fun x y => x < n ∧ f x = y) (fun z => if z = n then 0 else z) (fun u v ⟨p, q⟩ => by
      by_cases h2 : u = n
      · subst h2
        rw [fx_m] at q
        rw [if_pos rfl, ← q, if_pos rfl]
        exact .rf _
      · rw [fx_o h2] at q
        have := P.lt u (by omega)
        rw [if_neg h2, ← q, if_neg (by omega)]
        exact Cy.st (by omega)) h
    rw [if_neg (by omega), if_neg (by omega)] at this
    exact this
  · exact EC.mono fun u v ⟨p, q⟩ => .one ⟨by omega, by rw [fx_o (by omega)]; exact q⟩
theorem Cy.fx_new (P : Pm n f) {x : Nat} (hx : x < n) : ¬ Cy (n + 1) (WM.fx f n) x n := fun h => by
  have := EC.stay (S := fun z => z < n) (fun u v ⟨p, q⟩ => by
    by_cases e : u = n
    · subst e; rw [fx_m] at q; omega
    · rw [fx_o e] at q
      have := P.lt u (by omega)
      omega) h
  omega
theorem ncl_fx (P : Pm n f) : ncl (n + 1) (Cy (n + 1) (fx f n)) = ncl n (Cy n f) + 1 := by
  classical
  have e : ncl n (Cy (n + 1) (fx f n)) = ncl n (Cy n f) := ncl_ext fun x y hx hy => Cy.fx P hx hy
  rw [← e]
  unfold ncl
  rw [List.range_succ, List.filter_append, List.length_append]
  congr 1
  have : Mn (Cy (n + 1) (WM.fx f n)) n := fun y hy h => Cy.fx_new P hy h
  simp [this]
/-- the same cycles under other names -/
theorem ncl_conj (h : Nat → Nat) (hb : ∀ x, x < n → h x < n) (hh : ∀ x, x < n → h (h x) = x) (P : Pm n f) (e : ∀ x, x < n → g (h x) = h (f x)) : ncl n (Cy n f) = ncl n (Cy n g) := by
  refine ncl_eq Cy.eqv Cy.eqv h hb (fun x y hx hy => ⟨fun r => ?_, fun r => ?_⟩) fun y hy => ⟨h y, hb y hy, by rw [hh y hy]; exact .rf _⟩
  · exact EC.map h (fun u v ⟨p, q⟩ => .one ⟨hb u p, by rw [e u p, q]⟩) r
  · have := EC.map (s := fun x y => x < n ∧ f x = y) h (fun u v ⟨p, q⟩ => by
      have e1 := e (h u) (hb u p)
      rw [hh u p, q] at e1
      rw [e1, hh _ (P.lt _ (hb u p))]
      exact Cy.st (hb u p)) r
    rw [hh x hx, hh y hy] at this
    exact this
/-! ### darts -/
def fl (x : Nat) : Nat := if x % 2 = 0 then x + 1 else x - 1
theorem fl_fl (x : Nat) : fl (fl x) = x := by unfold fl; split <;> split <;> omega
theorem fl_lt {x : Nat} (h : x < 2 * n) : fl x < 2 * n := by unfold fl; split <;> omega
theorem fl_ne (x : Nat) : fl x ≠ x := by unfold fl; split <;> omega
theorem fl_2 (n : Nat) : fl (2 * n) = 2 * n + 1 := by unfold fl; rw [if_pos (by omega)]
theorem fl_21 (n : Nat) : fl (2 * n + 1) = 2 * n := by unfold fl; rw [if_neg (by omega)]; omega
theorem fl_half (x : Nat) : fl x / 2 = x / 2 := by unfold fl; split <;> omega
theorem fl_eq {x y : Nat} (h : fl x = y) : x = fl y := by rw [← h, fl_fl]
def ab (T : Nat → Nat) : Nat → Nat := fun d => T (fl d)
theorem Pm.ab {T : Nat → Nat} (P : Pm (2 * n) T) : Pm (2 * n) (ab T) := ⟨fun x hx => P.lt _ (fl_lt hx), fun x y hx hy e => by
  have := P.inj _ _ (fl_lt hx) (fl_lt hy) e
  rw [← fl_fl x, this, fl_fl]⟩
/-- a web on a ball in one piece, with V places -/
structure Wb (n : Nat) (T : Nat → Nat) (V : Nat) : Prop where
  pm : Pm (2 * n) T
  vs : ncl (2 * n) (Cy (2 * n) T) = V
  fs : V + ncl (2 * n) (Cy (2 * n) (ab T)) = n + 2
  con : ∀ S : Nat → Prop, S 0 → (∀ x, x < 2 * n → S x → S (T x)) → (∀ x, x < 2 * n → S x → S (fl x)) → ∀ x, x < 2 * n → S x
theorem Wb.congr {T T' : Nat → Nat} {V : Nat} (W : Wb n T V) (h : ∀ x, x < 2 * n → T' x = T x) : Wb n T' V :=
  ⟨W.pm.congr h, by rw [Cy.ncl h]; exact W.vs, by rw [Cy.ncl (f := ab T') (g := ab T) fun x hx => h _ (fl_lt hx)]; exact W.fs, fun S s0 s1 s2 => W.con S s0 (fun x hx q => by rw [← h x hx]; exact s1 x hx q) s2⟩
variable {T : Nat → Nat} {V : Nat}
theorem two_succ (n : Nat) : 2 * (n + 1) = 2 * n + 1 + 1 := by omega
/-- closed under the new turn: closed under the old one -/
theorem con_of (W : Wb n T V) {T' : Nat → Nat} (hn : 0 < n) (old : ∀ S : Nat → Prop, (∀ x, x < 2 * (n + 1) → S x → S (T' x)) → (∀ x, x < 2 * (n + 1) → S x → S (fl x)) → ∀ x, x < 2 * n → S x → S (T x))
    (new : ∀ S : Nat → Prop, (∀ x, x < 2 * (n + 1) → S x → S (T' x)) → (∀ x, x < 2 * n → S x) → S (2 * n)) :
    ∀ S : Nat → Prop, S 0 → (∀ x, x < 2 * (n + 1) → S x → S (T' x)) → (∀ x, x < 2 * (n + 1) → S x → S (fl x)) → ∀ x, x < 2 * (n + 1) → S x := fun S s0 s1 s2 x hx => by
  have all := W.con S s0 (old S s1 s2) fun x hx q => s2 x (by omega) q
  have a := new S s1 all
  have b := s2 (2 * n) (by omega) a
  rw [fl_2] at b
  by_cases h1 : x < 2 * n
  · exact all x h1
  · by_cases h2 : x = 2 * n
    · rw [h2]; exact a
    · have : x = 2 * n + 1 := by omega
      rw [this]; exact b
/-- a tie that hangs -/
theorem Wb.hang (W : Wb n T V) {c : Nat} (hc : c < 2 * n) : Wb (n + 1) (fx (ins T c (2 * n)) (2 * n + 1)) (V + 1) := by
  have P1 := W.pm.ins hc
  have hfc := fl_lt hc
  refine ⟨by rw [two_succ]; exact P1.fx, by rw [two_succ, ncl_fx P1, ncl_ins W.pm hc, W.vs], ?_, con_of W (by omega) (fun S s1 s2 x hx q => ?_) (fun S s1 all => ?_)⟩
  · have PA := W.pm.ab
    have PB := PA.ins hfc
    have e : ∀ x, x < 2 * n + 1 + 1 → WM.ab (fx (ins T c (2 * n)) (2 * n + 1)) x = ins (ins (WM.ab T) (fl c) (2 * n)) (2 * n) (2 * n + 1) x := fun x hx => by
      unfold WM.ab
      by_cases h1 : x = 2 * n
      · rw [h1, fl_2, fx_m, ins_a]
      · by_cases h2 : x = 2 * n + 1
        · rw [h2, fl_21, fx_o (by omega), ins_m (by omega), ins_m (by omega), ins_m (by omega), fl_fl]
        · have hl := fl_lt (n := n) (x := x) (by omega)
          rw [fx_o (by omega), ins_o h1 h2]
          by_cases h3 : x = fl c
          · rw [h3, fl_fl, ins_a, ins_a]
          · rw [ins_o (fun e => h3 (fl_eq e)) (by omega), ins_o h3 (by omega)]
    rw [two_succ, Cy.ncl e, ncl_ins PB (by omega), ncl_ins PA hfc]
    have := W.fs; omega
  · by_cases h : x = c
    · subst h
      have a := s1 x (by omega) q
      rw [fx_o (by omega), ins_a] at a
      have b := s1 (2 * n) (by omega) a
      rw [fx_o (by omega), ins_m (by omega)] at b
      exact b
    · have a := s1 x (by omega) q
      rw [fx_o (by omega), ins_o h (by omega)] at a
      exact a
  · have a := s1 c (by omega) (all c hc)
    rw [fx_o (by omega), ins_a] at a
    exact a
/-- a loop -/
theorem Wb.loop (W : Wb n T V) {c : Nat} (hc : c < 2 * n) : Wb (n + 1) (ins (ins T c (2 * n)) (2 * n) (2 * n + 1)) V := by
  have P1 := W.pm.ins hc
  have hfc := fl_lt hc
  refine ⟨by rw [two_succ]; exact P1.ins (by omega), by rw [two_succ, ncl_ins P1 (by omega), ncl_ins W.pm hc, W.vs], ?_, con_of W (by omega) (fun S s1 s2 x hx q => ?_) (fun S s1 all => ?_)⟩
  · have PA := W.pm.ab
    have PB := PA.ins hfc
    have e : ∀ x, x < 2 * n + 1 + 1 → WM.ab (ins (ins T c (2 * n)) (2 * n) (2 * n + 1)) x = fx (ins (WM.ab T) (fl c) (2 * n)) (2 * n + 1) x := fun x hx => by
      unfold WM.ab
      by_cases h1 : x = 2 * n
      · rw [h1, fl_2, ins_m (by omega), ins_m (by omega), fx_o (by omega), ins_m (by omega), fl_fl]
      · by_cases h2 : x = 2 * n + 1
        · rw [h2, fl_21, ins_a, fx_m]
        · have hl := fl_lt (n := n) (x := x) (by omega)
          rw [fx_o h2, ins_o (by omega) (by omega)]
          by_cases h3 : x = fl c
          · rw [h3, fl_fl, ins_a, ins_a]
          · rw [ins_o (fun e => h3 (fl_eq e)) (by omega), ins_o h3 (by omega)]
    rw [two_succ, Cy.ncl e, ncl_fx PB, ncl_ins PA hfc]
    have := W.fs; omega
  · by_cases h : x = c
    · subst h
      have a := s1 x (by omega) q
      rw [ins_o (by omega) (by omega), ins_a] at a
      have b := s1 (2 * n) (by omega) a
      rw [ins_a] at b
      have d := s1 (2 * n + 1) (by omega) b
      rw [ins_m (by omega), ins_m (by omega)] at d
      exact d
    · have a := s1 x (by omega) q
      rw [ins_o (by omega) (by omega), ins_o h (by omega)] at a
      exact a
  · have a := s1 c (by omega) (all c hc)
    rw [ins_o (by omega) (by omega), ins_a] at a
    exact a
/-- a tie through a face -/
theorem Wb.chord (W : Wb n T V) {c d : Nat} (hc : c < 2 * n) (hd : d < 2 * n) (ne : c ≠ d) (face : Cy (2 * n) (WM.ab T) (fl c) (fl d)) : Wb (n + 1) (ins (ins T c (2 * n)) d (2 * n + 1)) V := by
  have P1 := W.pm.ins hc
  have hfc := fl_lt hc
  have hfd := fl_lt hd
  have P2 := P1.ins (a := d) (by omega)
  refine ⟨by rw [two_succ]; exact P2, by rw [two_succ, ncl_ins P1 (by omega), ncl_ins W.pm hc, W.vs], ?_, con_of W (by omega) (fun S s1 s2 x hx q => ?_) (fun S s1 all => ?_)⟩
  · have PA := W.pm.ab
    have PB := PA.ins hfc
    have PC := PB.ins (a := fl d) (by omega)
    have nfe : fl d ≠ fl c := fun e => ne (by rw [← fl_fl c, ← e, fl_fl])
    have e : ∀ x, x < 2 * n + 1 + 1 → WM.ab (ins (ins T c (2 * n)) d (2 * n + 1)) x = swp (ins (ins (WM.ab T) (fl c) (2 * n)) (fl d) (2 * n + 1)) (2 * n) (2 * n + 1) x := fun x hx => by
      by_cases h1 : x = 2 * n
      · rw [h1, swp_a, ins_m (by omega), ins_o nfe (by omega)]
        unfold WM.ab
        rw [fl_2, ins_m (by omega), ins_o (fun e => ne e.symm) (by omega), fl_fl]
      · by_cases h2 : x = 2 * n + 1
        · rw [h2, swp_b, ins_o (by omega) (by omega), ins_m (by omega)]
          unfold WM.ab
          rw [fl_21, ins_o (by omega) (by omega), ins_m (by omega), fl_fl]
        · have hl := fl_lt (n := n) (x := x) (by omega)
          rw [swp_o h1 h2]
          unfold WM.ab
          by_cases h3 : x = fl d
          · rw [h3, fl_fl, ins_a, ins_a]
          · rw [ins_o (fun e => h3 (fl_eq e)) (by omega), ins_o h3 (by omega)]
            by_cases h4 : x = fl c
            · rw [h4, fl_fl, ins_a, ins_a]
            · rw [ins_o (fun e => h4 (fl_eq e)) (by omega), ins_o h4 (by omega)]
    have one : Cy (2 * n + 1 + 1) (ins (ins (WM.ab T) (fl c) (2 * n)) (fl d) (2 * n + 1)) (2 * n) (2 * n + 1) := by
      have k1 : Cy (2 * n + 1) (ins (WM.ab T) (fl c) (2 * n)) (2 * n) (fl d) := (Cy.ins_new hfc).sy.tr ((Cy.ins PA hfc hfc hfd).mpr face)
      exact ((Cy.ins PB (by omega) (by omega) (by omega)).mpr k1).tr (Cy.ins_new (by omega))
    rw [two_succ, Cy.ncl e]
    rcases swap_law PC (a := 2 * n) (b := 2 * n + 1) (by omega) (by omega) (by omega) with ⟨z, _⟩ | ⟨_, z⟩
    · exact absurd one z
    · rw [z, ncl_ins PB (by omega), ncl_ins PA hfc]
      have := W.fs; omega
  · have two : S (ins T c (2 * n) x) → S (T x) := fun z => by
      by_cases h : x = c
      · subst h
        rw [ins_a] at z
        have b := s1 (2 * n) (by omega) z
        rw [ins_o (by omega) (by omega), ins_m (by omega)] at b
        exact b
      · rw [ins_o h (by omega)] at z; exact z
    have a := s1 x (by omega) q
    by_cases h : x = d
    · subst h
      rw [ins_a] at a
      have b := s1 (2 * n + 1) (by omega) a
      rw [ins_m (by omega)] at b
      exact two b
    · rw [ins_o h (by omega)] at a
      exact two a
  · have a := s1 c (by omega) (all c hc)
    rw [ins_o ne (by omega), ins_a] at a
    exact a
end
end WM

set_option Elab.async false
set_option linter.all false
set_option maxRecDepth 100000
set_option maxHeartbeats 4000000
/-! Data programs at plain values. -/
namespace DP
open PySem PySem.Spec PyProof.Rows L2
abbrev nI (x : Nat) : Dat := .int (x : Int)
/-! ### statements -/
section
variable {a b : DS} {c t u : DT} {f h : DE} {g : DG} {ρ ρ1 ρ2 : List SD} {s : SD} {k : Bool}
theorem q_seq (e : a ρ = some (.nx, ρ1)) : dSeq a b ρ = b ρ1 := by unfold dSeq; rw [e]; rfl
theorem q_ret {r : SD} (e : a ρ = some (.ret r, ρ1)) : dSeq a b ρ = some (.ret r, ρ1) := by unfold dSeq; rw [e]; rfl
theorem q_bk (e : a ρ = some (.bk, ρ1)) : dSeq a b ρ = some (.bk, ρ1) := by unfold dSeq; rw [e]; rfl
theorem q_next : dSeq a dNext ρ = a ρ := by
  unfold dSeq
  cases h : a ρ with
  | none => rfl
  | some p => obtain ⟨fl, ρ1⟩ := p; cases fl <;> rfl
theorem q_if (e : c ρ = some (k, ρ1)) : dIfS c a b ρ = if k = true then a ρ1 else b ρ1 := by unfold dIfS; rw [e]; rfl
theorem q_ifT (e : c ρ = some (true, ρ1)) : dIfS c a b ρ = a ρ1 := by unfold dIfS; rw [e]; rfl
theorem q_ifF (e : c ρ = some (false, ρ1)) : dIfS c a b ρ = b ρ1 := by unfold dIfS; rw [e]; rfl
theorem q_asg (e : f ρ = some (s, ρ1)) (e2 : g s ρ1 = some ρ2) : dAsg f g ρ = some (.nx, ρ2) := by unfold dAsg; rw [e]; show (g s ρ1).map _ = _; rw [e2]; rfl
theorem q_retE (e : f ρ = some (s, ρ1)) : dRet f ρ = some (.ret s, ρ1) := by unfold dRet; rw [e]; rfl
theorem q_drop (e : f ρ = some (s, ρ1)) : dDrop f ρ = some (.nx, ρ1) := by unfold dDrop; rw [e]; rfl
theorem q_for {d : DI} {xs : List Dat} (e : d ρ = some (xs, ρ1)) : dFor d g b ρ = dLoop g b xs ρ1 := by unfold dFor; rw [e]; rfl
theorem q_notT (e : c ρ = some (k, ρ1)) : dNotT c ρ = some (!k, ρ1) := by unfold dNotT; rw [e]; rfl
theorem q_andT (e : t ρ = some (true, ρ1)) : dAndT t u ρ = u ρ1 := by unfold dAndT; rw [e]; rfl
theorem q_andF (e : t ρ = some (false, ρ1)) : dAndT t u ρ = some (false, ρ1) := by unfold dAndT; rw [e]; rfl
theorem q_orT (e : t ρ = some (true, ρ1)) : dOrT t u ρ = some (true, ρ1) := by unfold dOrT; rw [e]; rfl
theorem q_orF (e : t ρ = some (false, ρ1)) : dOrT t u ρ = u ρ1 := by unfold dOrT; rw [e]; rfl
theorem q_testB (e : f ρ = some (.d (.bl k), ρ1)) : dTestB f ρ = some (k, ρ1) := by unfold dTestB; rw [e]; rfl
theorem q_tru (e : f ρ = some (s, ρ1)) (e2 : truD s = some k) : dTru f ρ = some (k, ρ1) := by unfold dTru; rw [e]; show (truD s).map _ = _; rw [e2]; rfl
theorem q_bin {g : SD → SD → Option SD} {s1 s2 d : SD} (e : f ρ = some (s1, ρ1)) (e2 : h ρ1 = some (s2, ρ2)) (e3 : g s1 s2 = some d) : dBin g f h ρ = some (d, ρ2) := by
  unfold dBin; rw [e]; show (h ρ1).bind _ = _; rw [e2]; show (g s1 s2).map _ = _; rw [e3]; rfl
theorem q_call {Φ : DF} {fa : DA} {as as' : List SD} {r : SD} (e : fa ρ = some (as, ρ1)) (e2 : Φ as = some (r, as')) : dCall Φ fa ρ = some (r, ρ1) := by
  unfold dCall; rw [e]; show (Φ as).map _ = _; rw [e2]; rfl
theorem q_cb {g : List SD → Option SD} {fa : DA} {as : List SD} {d : SD} (e : fa ρ = some (as, ρ1)) (e2 : g as = some d) : dCB g fa ρ = some (d, ρ1) := by
  unfold dCB; rw [e]; show (g as).map _ = _; rw [e2]; rfl
theorem q_cons {fa : DA} {s' : SD} {as : List SD} (e : f ρ = some (s, ρ1)) (e2 : fz s = some s') (e3 : fa ρ1 = some (as, ρ2)) : dCons f fa ρ = some (s' :: as, ρ2) := by
  unfold dCons; rw [e]; show (fz s).bind _ = _; rw [e2]; show (fa ρ1).map _ = _; rw [e3]; rfl
theorem q_runF {n l : Nat} {F : DS} {as as' : List SD} {fl : FD} {ρ' : List SD} {r : SD} (hn : as.length = n) (e : F (as ++ List.replicate (l - n) .no) = some (fl, ρ')) (e2 : resF fl = some r) (e3 : keepIo as ρ' = some as') : runF n l F as = some (r, as') := by
  unfold runF; rw [if_pos hn, e]; show (resF fl).bind _ = _; rw [e2]; show (keepIo as ρ').map _ = _; rw [e3]; rfl
end
/-! ### loops -/
def goOn (k : List SD → Option (FD × List SD)) (ρ' : List SD) : FD → Option (FD × List SD)
  | .nx => k ρ'
  | .ct => k ρ'
  | .bk => some (.nx, ρ')
  | .ret r => some (.ret r, ρ')
theorem loop_cons {g : DG} {b : DS} {x : Dat} {r : List Dat} {ρ ρ' : List SD} {fl : FD} (e : (g (.d x) ρ).bind b = some (fl, ρ')) : dLoop g b (x :: r) ρ = goOn (dLoop g b r) ρ' fl := by
  obtain ⟨ρ1, e1, e2⟩ := Option.bind_some' e
  clear e
  show (g (.d x) ρ).bind _ = _
  rw [e1]
  show (b ρ1).bind _ = _
  rw [e2]
  cases fl <;> rfl
theorem loop_inv {g : DG} {b : DS} {xs : List Dat} (P : Nat → List SD → Prop) (R : FD → List SD → Prop)
    (h : ∀ i x ρ, xs[i]? = some x → P i ρ → ∃ fl ρ', (g (.d x) ρ).bind b = some (fl, ρ') ∧ ((fl = .nx ∨ fl = .ct) ∧ P (i + 1) ρ' ∨ fl = .bk ∧ R .nx ρ' ∨ (∃ r, fl = .ret r) ∧ R fl ρ')) {ρ : List SD} (h0 : P 0 ρ) (he : ∀ ρ', P xs.length ρ' → R .nx ρ') :
    ∃ fl ρ', dLoop g b xs ρ = some (fl, ρ') ∧ R fl ρ' := by
  have key : ∀ (n : Nat) (ρ : List SD), n ≤ xs.length → P n ρ → ∃ fl ρ', dLoop g b (xs.drop n) ρ = some (fl, ρ') ∧ R fl ρ' := by
    intro n
    induction hk : xs.length - n generalizing n with
    | zero =>
      intro ρ hn p
      have : n = xs.length := by omega
      rw [this, List.drop_length]
      exact ⟨.nx, ρ, rfl, he ρ (this ▸ p)⟩
    | succ k ih =>
      intro ρ hn p
      have hlt : n < xs.length := by omega
      obtain ⟨fl, ρ', e, q⟩ := h n _ ρ (List.getElem?_eq_getElem hlt) p
      rw [List.drop_eq_getElem_cons hlt, loop_cons e]
      rcases q with ⟨z | z, p'⟩ | ⟨z, p'⟩ | ⟨⟨r, z⟩, p'⟩
      · subst z; exact ih (n + 1) (by omega) ρ' (by omega) p'
      · subst z; exact ih (n + 1) (by omega) ρ' (by omega) p'
      · subst z; exact ⟨.nx, ρ', rfl, p'⟩
      · subst z; exact ⟨_, ρ', rfl, p'⟩
  exact key 0 ρ (Nat.zero_le _) h0
/-- a loop without break, return -/
theorem loop_all {g : DG} {b : DS} {xs : List Dat} (P : Nat → List SD → Prop)
    (h : ∀ i x ρ, xs[i]? = some x → P i ρ → ∃ ρ', (g (.d x) ρ).bind b = some (.nx, ρ') ∧ P (i + 1) ρ') {ρ : List SD} (h0 : P 0 ρ) : ∃ ρ', dLoop g b xs ρ = some (.nx, ρ') ∧ P xs.length ρ' := by
  obtain ⟨fl, ρ', e, q⟩ := loop_inv (g := g) (b := b) P (fun fl ρ' => fl = .nx ∧ P xs.length ρ') (fun i x ρ hx p => by
    obtain ⟨ρ', e, q⟩ := h i x ρ hx p
    exact ⟨.nx, ρ', e, .inl ⟨.inl rfl, q⟩⟩) h0 fun ρ' p => ⟨rfl, p⟩
  obtain ⟨z, q⟩ := q
  subst z
  exact ⟨ρ', e, q⟩
theorem while_inv {c : DT} {b : DS} (P : Nat → List SD → Prop) (Q : List SD → Prop)
    (h : ∀ m ρ, P m ρ → (∃ ρ1, c ρ = some (false, ρ1) ∧ Q ρ1) ∨ (∃ ρ1 ρ2 m', c ρ = some (true, ρ1) ∧ b ρ1 = some (.nx, ρ2) ∧ m' < m ∧ P m' ρ2)) : ∀ (n m : Nat) (ρ : List SD), m < n → P m ρ → ∃ ρ', dWhile c b n ρ = some (.nx, ρ') ∧ Q ρ' := by
  intro n
  induction n with
  | zero => intro m ρ hm; omega
  | succ n ih =>
    intro m ρ hm p
    rcases h m ρ p with ⟨ρ1, e, q⟩ | ⟨ρ1, ρ2, m', e1, e2, hl, p'⟩
    · refine ⟨ρ1, ?_, q⟩
      show (c ρ).bind _ = _
      rw [e]; rfl
    · obtain ⟨ρ', e, q⟩ := ih m' ρ2 (by omega) p'
      refine ⟨ρ', ?_, q⟩
      rw [← e]
      show (c ρ).bind _ = _
      rw [e1]
      show (b ρ1).bind _ = _
      rw [e2]; rfl
/-! ### comprehensions -/
/-- one turn -/
def lcStep (vs : List Nat) (g : DG) (t : DT) (f : DE) (x : Dat) (ρ : List SD) : Option (Option Dat × List SD) := (g (.d x) ρ).bind fun ρ1 => (t ρ1).bind fun p => if p.1 = true then
    (f p.2).bind fun q => (fz q.1).bind fun s => match s with
      | .d y => some (some y, wipeD q.2 vs)
      | _ => none
    else some (none, wipeD p.2 vs)
theorem lc_step {vs : List Nat} {g : DG} {t : DT} {f : DE} {x : Dat} {r : List Dat} {ρ ρ' : List SD} {acc : List Dat} {o : Option Dat} (e : lcStep vs g t f x ρ = some (o, ρ')) (hl : acc.length < 50000) : lcLoop vs g t f (x :: r) ρ acc = lcLoop vs g t f r ρ' (acc ++ o.toList) := by
  unfold lcStep at e
  obtain ⟨ρ1, e1, e⟩ := Option.bind_some' e
  obtain ⟨⟨k, ρ2⟩, e2, e⟩ := Option.bind_some' e
  show (g (.d x) ρ).bind _ = _
  rw [e1]
  show (t ρ1).bind _ = _
  rw [e2]
  cases k with
  | false =>
    rw [if_neg (by simp)] at e
    cases e
    show lcLoop vs g t f r (wipeD ρ2 vs) acc = _
    simp
  | true =>
    rw [if_pos rfl] at e
    obtain ⟨⟨s, ρ3⟩, e3, e⟩ := Option.bind_some' e
    obtain ⟨s', e4, e⟩ := Option.bind_some' e
    cases s' with
    | d y =>
      cases e
      show (f ρ2).bind _ = _
      rw [e3]
      show (fz s).bind _ = _
      rw [e4]
      show (if acc.length < 50000 then _ else _) = _
      rw [if_pos hl]
      rfl
    | no => cases e
    | scr _ => cases e
    | own _ => cases e
    | io _ => cases e
theorem lc_inv {vs : List Nat} {g : DG} {t : DT} {f : DE} (P : Nat → List Dat → List SD → Prop) {xs : List Dat}
    (h : ∀ i x acc ρ, xs[i]? = some x → P i acc ρ → ∃ o ρ', lcStep vs g t f x ρ = some (o, ρ') ∧ P (i + 1) (acc ++ o.toList) ρ') {ρ : List SD} (h0 : P 0 [] ρ) (hl : xs.length < 50000) : ∃ acc ρ', lcLoop vs g t f xs ρ [] = some (acc, ρ') ∧ P xs.length acc ρ' := by
  have key : ∀ (n : Nat) (acc : List Dat) (ρ : List SD), n ≤ xs.length → acc.length ≤ n → P n acc ρ → ∃ acc' ρ', lcLoop vs g t f (xs.drop n) ρ acc = some (acc', ρ') ∧ P xs.length acc' ρ' := by
    intro n
    induction hk : xs.length - n generalizing n with
    | zero =>
      intro acc ρ hn ha p
      have : n = xs.length := by omega
      rw [this, List.drop_length]
      exact ⟨acc, ρ, rfl, this ▸ p⟩
    | succ k ih =>
      intro acc ρ hn ha p
      have hlt : n < xs.length := by omega
      obtain ⟨o, ρ', e, q⟩ := h n _ acc ρ (List.getElem?_eq_getElem hlt) p
      rw [List.drop_eq_getElem_cons hlt, lc_step e (by omega)]
      refine ih (n + 1) (by omega) _ _ (by omega) ?_ q
      rw [List.length_append]
      cases o <;> simp <;> omega
  exact key 0 [] ρ (Nat.zero_le _) (Nat.zero_le _) h0
/-- nothing but the comprehension's own slots is touched -/
theorem lc_map {vs : List Nat} {g : DG} {t : DT} {f : DE} {ρ : List SD} {xs : List Dat} (F : Dat → Option Dat) (h : ∀ x ∈ xs, lcStep vs g t f x ρ = some (F x, ρ)) (hl : xs.length < 50000) : lcLoop vs g t f xs ρ [] = some (xs.filterMap F, ρ) := by
  obtain ⟨acc, ρ', e, p⟩ := lc_inv (vs := vs) (g := g) (t := t) (f := f) (fun i acc ρ' => ρ' = ρ ∧ acc = (xs.take i).filterMap F) (fun i x acc ρ' hx ⟨p1, p2⟩ => by
    subst p1 p2
    refine ⟨F x, ρ', h x (List.mem_of_getElem? hx), rfl, ?_⟩
    have hi := (List.getElem?_eq_some_iff.mp hx)
    obtain ⟨hi, e⟩ := hi
    rw [List.take_succ, hx, List.filterMap_append]
    congr 1
    all_goals (cases hf : F x <;> simp [hf])) (ρ := ρ) ⟨rfl, by simp⟩ hl
  obtain ⟨p1, p2⟩ := p
  subst p1 p2
  rw [e, List.take_length]
/-! ### values -/
theorem g_eqI {neg : Bool} {i j : Int} : gEq neg (.d (.int i)) (.d (.int j)) = some (.d (.bl (if neg then !(i == j) else i == j))) := by
  have h : ∀ i : Int, SeqAt.shaped (.int i) = true := fun i => rfl
  show (if SeqAt.shaped (.int i) = true ∧ SeqAt.shaped (.int j) = true then some (SD.d (.bl (if neg then !PyData.eqv (.int i) (.int j) else PyData.eqv (.int i) (.int j)))) else none) = _
  rw [if_pos ⟨h i, h j⟩]
  rfl
theorem g_ix {s : SD} {xs : List Dat} {k : Nat} {y : Dat} (e : s.seqS = some xs) (h : xs[k]? = some y) : gIx s (.d (.int (k : Nat))) = some (.d y) := by
  show s.seqS.bind _ = _
  rw [e]
  show (L2.atI xs (k : Int)).map SD.d = _
  rw [atI_nat h]; rfl
theorem g_ixL {s : SD} {xs : List Dat} {y : Dat} (e : s.seqS = some (xs ++ [y])) : gIx s (.d (.int (-1))) = some (.d y) := by
  show s.seqS.bind _ = _
  rw [e]
  show (L2.atI (xs ++ [y]) (-1)).map SD.d = _
  rw [atI_last]; rfl
theorem g_xor1 {x : Nat} : gXor (.d (.int (x : Nat))) (.d (.int 1)) = some (.d (.int (WM.fl x : Nat))) := by
  have : Builtin.bitXor (x : Int) 1 = ((WM.fl x : Nat) : Int) := by
    have a1 : x &&& 1 = x % 2 := Nat.and_one_is_mod x
    have a2 : Builtin.bitAnd (x : Int) 1 = ((x % 2 : Nat) : Int) := by
      unfold Builtin.bitAnd
      rw [decide_eq_true (show (0 : Int) ≤ (x : Int) by omega), decide_eq_true (show (0 : Int) ≤ 1 by omega)]
      show ((x &&& 1 : Nat) : Int) = _
      rw [a1]
    rw [bitXor_and, a2]
    unfold WM.fl
    split <;> omega
  show some (SD.d (.int (Builtin.bitXor (x : Int) 1))) = _
  rw [this]
end DP

set_option Elab.async false
set_option linter.all false
set_option maxRecDepth 100000
set_option maxHeartbeats 4000000
/-! More of the data layer: is None, name.extend(e). -/
namespace DP
open PySem PySem.Spec PyProof.Rows L2
section
variable {G : Gd} {io : Nat → Addr} {Z Z' Z0 Z1 Z2 H H' H0 H1 H2 : Hp} {ρ ρ0 ρ1 ρ2 : List SD} {σ σ0 σ1 σ2 : L2.St} {D : Ends}
def gIsN (neg : Bool) : SD → SD → Option SD := fun a b => match a, b with
  | .no, _ => none
  | .d .non, .d .non => some (.d (.bl !neg))
  | _, .d .non => some (.d (.bl neg))
  | _, _ => none
theorem non_iff {s : SD} {v : V} (h : ValOk G Z H s v) : v = .non ↔ s = .d .non := by
  cases s with
  | no => exact h.elim
  | d x => cases h <;> simp
  | scr ns => obtain ⟨a, e, _⟩ := h; subst e; simp
  | own m => obtain ⟨a, e, _⟩ := h; subst e; simp
  | io m => obtain ⟨a, e, _⟩ := h; subst e; simp
theorem gIsN_is {neg : Bool} {a b d : SD} (e : gIsN neg a b = some d) : b = .d .non ∧ ((a = .d .non ∧ d = .d (.bl !neg)) ∨ (a ≠ .d .non ∧ d = .d (.bl neg))) := by
  unfold gIsN at e
  split at e
  · cases e
  · cases e; exact ⟨rfl, .inl ⟨rfl, rfl⟩⟩
  · rename_i h1 h2
    cases e
    refine ⟨rfl, .inr ⟨fun z => ?_, rfl⟩⟩
    subst z
    exact h2 rfl
  · cases e
theorem vop_isN : VOp2 G (fun x y H Q => y = .non ∧ Q (.bl (decide (x = .non))) H) (gIsN false) := by
  intro Z H x y a b d Q e z ox oy k
  obtain ⟨hb, h⟩ := gIsN_is e
  refine ⟨(non_iff oy).mpr hb, ?_⟩
  rcases h with ⟨ha, hd⟩ | ⟨ha, hd⟩
  · rw [decide_eq_true ((non_iff ox).mpr ha)]
    subst hd
    exact k _ Z H (Ext.refl z) (.d (.bl _))
  · rw [decide_eq_false fun w => ha ((non_iff ox).mp w)]
    subst hd
    exact k _ Z H (Ext.refl z) (.d (.bl _))
theorem vop_notN : VOp2 G (fun x y H Q => y = .non ∧ Q (.bl (!decide (x = .non))) H) (gIsN true) := by
  intro Z H x y a b d Q e z ox oy k
  obtain ⟨hb, h⟩ := gIsN_is e
  refine ⟨(non_iff oy).mpr hb, ?_⟩
  rcases h with ⟨ha, hd⟩ | ⟨ha, hd⟩
  · rw [decide_eq_true ((non_iff ox).mpr ha)]
    subst hd
    exact k _ Z H (Ext.refl z) (.d (.bl _))
  · rw [decide_eq_false fun w => ha ((non_iff ox).mp w)]
    subst hd
    exact k _ Z H (Ext.refl z) (.d (.bl _))
end
section
variable {X : Cx} {G : Gd}
theorem oc_is (e : En X G) : OpC X G .Is (gIsN false) := ⟨_, op_isN, vop_isN⟩
theorem oc_isnot (e : En X G) : OpC X G .IsNot (gIsN true) := ⟨_, op_notN, vop_notN⟩
end
end DP

set_option Elab.async false
set_option linter.all false
set_option maxRecDepth 100000
set_option maxHeartbeats 4000000
/-! name.extend(e), e a list -/
namespace DP
open PySem PySem.Spec PyProof.Rows L2
section
variable {G : Gd} {H : Hp} {σ : L2.St} {D : Ends}
def dExt (i : Nat) (f : DE) : DS := fun ρ => (ρ[i]?).bind fun s0 => (moL s0).bind fun _ => (f ρ).bind fun p => (p.1.lst).bind fun ys => (p.2[i]?).bind fun s => (moL s).bind fun xs =>
  if xs.length + ys.length < 50000 then some (.nx, p.2.set i (s.re (.lst (xs ++ ys)))) else none
theorem ts_ext {i : Nat} {f : DE} (h : tS G (dExt i f) D σ H) : tDrop (tBM G.K "list" rExtend (tVar i) (tCons (tE G f) tNil)) D σ H := by
  obtain ⟨Z, ρ, fl, ρ', e, R, k⟩ := h
  obtain ⟨s0, h0, e⟩ := Option.bind_some' e
  obtain ⟨xs0, hx0, e⟩ := Option.bind_some' e
  obtain ⟨⟨b, ρ1⟩, eb, e⟩ := Option.bind_some' e
  obtain ⟨ys, ey, e⟩ := Option.bind_some' e
  obtain ⟨s, hs, e⟩ := Option.bind_some' e
  obtain ⟨xs, hm, e9⟩ := Option.bind_some' e
  split at e9
  · rename_i hl
    cases e9
    obtain ⟨a0, h1, z0, ⟨vs0, ha0, _⟩, ow0⟩ := R.mo h0 (moL_is hx0)
    refine ⟨.ref a0, h1, .inl ⟨rfl, vs0, .of ha0⟩, Z, ρ, b, ρ1, eb, R, fun y Z1 H1 S1 E1 R1 n1 => ?_⟩
    have hs : ρ1[i]? = some s := hs
    obtain ⟨a, h2, z, ⟨vs, ha, q⟩, o⟩ := R1.mo hs (moL_is hm)
    rw [h1] at h2; cases h2
    obtain ⟨c, zs, ec, hc, qz⟩ := n1.ok.lst ey R1.same
    subst ec
    refine ⟨a0, c, vs, zs, rfl, rfl, ha, hc, le_line (by rw [q.len, qz.len]; omega), ?_⟩
    obtain ⟨S3, E3, R3⟩ := mut_slot (m' := .lst (xs ++ ys)) (o := .lst (vs ++ zs)) R1 hs (moL_is hm) h1 ⟨_, upd_same, q.app qz⟩
    exact k _ _ _ (S1.trans S3) R3
  · cases e9
end
section
variable {X : Cx} {G : Gd} {pos : Pos} {a : Expr} {f : DE} {apos : Pos}
theorem js_ext (i : Nat) {y : Str} {py ep : Pos} (e : En X G) (ha : PE X a (tE G f)) (hN : X.N[i]? = some y := by rfl) (hv : Vis X.env.scope y := by first | exact Or.inl rfl | exact Or.inr (Or.inl rfl) | exact Or.inr (Or.inr rfl)) (hd : (y == ("__debug__" : Str)) = false := by decide) (hcd : (y == ("__classdict__" : Str)) = false := by decide)
    (hbase : attributeBase (.Name y py) "extend" X.env (eval (.Name y py) X.env) = eval (.Name y py) X.env := by rfl)
    (hfew : ((backTo pos (starEach [a] X.env)).all (fun x => !x.1) && (backToKw pos (keywordEach [] X.env)).all (fun x => x.1.isSome)
      && decide ([a].length + ([] : List Keyword).length + (if ([] : List Keyword).isEmpty then 0 else 1) < 30)) = true := by rfl)
    (hline : (apos.endLine == pos.line) = true := by rfl) (hs : starEach [a] X.env = (false, eval a X.env) :: starEach [] X.env := by rfl) (hplain : (backTo pos (starEach [] X.env)).any (·.1) = false := by rfl)
    (hsw : swapsWith (.Call (.Attribute (.Name y py) "extend" apos) [a] [] pos) none ep.line X.env = pure false := by rfl) :
    PS X (.Expr (.Call (.Attribute (.Name y py) "extend" apos) [a] [] pos) ep) (tS G (dExt i f)) :=
  ps_to (ps_expr (pe_bm PySem.F.plainAttrs_list PySem.F.slot_list_extend PySem.F.type_list_extend mt_extend (pv i hN hv hd hcd) (pa_cons ha pa_nil hs) hbase hfew hline hs hplain) hsw) fun _ _ _ q => by
    rw [e.k]; exact ts_ext q
end
end DP

set_option Elab.async false
set_option linter.all false
set_option maxRecDepth 100000
set_option maxHeartbeats 4000000
/-! name.insert(i, e) -/
namespace DP
open PySem PySem.Spec PyProof.Rows L2
section
variable {G : Gd} {H : Hp} {σ : L2.St} {D : Ends}
def rInsA : V → List V → Hp → VK → Prop := fun x vs H Q => ∃ (l : Addr) (xs : List V) (i : Int) (y : V), x = .ref l ∧ vs = [.int i, y] ∧ H l = some (.lst xs) ∧ xs.length < sizeLine ∧ 0 ≤ i ∧ i < 2 ^ 63 ∧
    Q .non (upd H l (.lst (xs.take i.toNat ++ [y] ++ xs.drop i.toNat)))
def dIns (i : Nat) (f : DA) : DS := fun ρ => (ρ[i]?).bind fun s0 => (moL s0).bind fun _ => (f ρ).bind fun p => match p.1 with
  | [.d (.int k), .d x] => (p.2[i]?).bind fun s => (moL s).bind fun xs => if xs.length < 50000 ∧ 0 ≤ k ∧ k < 1000000 then some (.nx, p.2.set i (s.re (.lst (xs.take k.toNat ++ [x] ++ xs.drop k.toNat)))) else none
  | _ => none
theorem ts_ins {i : Nat} {f : DA} (h : tS G (dIns i f) D σ H) : tDrop (tBM G.K "list" rInsA (tVar i) (tA G f)) D σ H := by
  obtain ⟨Z, ρ, fl, ρ', e, R, k⟩ := h
  obtain ⟨s0, h0, e⟩ := Option.bind_some' e
  obtain ⟨xs0, hx0, e⟩ := Option.bind_some' e
  obtain ⟨⟨as, ρ1⟩, eb, e⟩ := Option.bind_some' e
  split at e
  · rename_i j x has
    have has : as = [.d (.int j), .d x] := has
    subst has
    obtain ⟨s, hs, e⟩ := Option.bind_some' e
    obtain ⟨xs, hm, e9⟩ := Option.bind_some' e
    split at e9
    · rename_i hl
      obtain ⟨hl, hj0, hj1⟩ := hl
      cases e9
      obtain ⟨a0, h1, z0, ⟨vs0, ha0, _⟩, ow0⟩ := R.mo h0 (moL_is hx0)
      refine ⟨.ref a0, h1, .inl ⟨rfl, vs0, .of ha0⟩, Z, ρ, _, ρ1, eb, R, fun ys Z1 H1 S1 E1 R1 n1 => ?_⟩
      cases n1 with
      | cons q1 _ n1 =>
        cases n1 with
        | @cons _ y _ _ q2 _ n1 =>
          cases n1
          cases q1
          have hs : ρ1[i]? = some s := hs
          obtain ⟨a, h2, z, ⟨vs, ha, q⟩, o⟩ := R1.mo hs (moL_is hm)
          rw [h1] at h2; cases h2
          refine ⟨a0, vs, j, y, rfl, rfl, ha, lt_line (by rw [q.len]; omega), hj0, by omega, ?_⟩
          obtain ⟨S3, E3, R3⟩ := mut_slot (m' := .lst (xs.take j.toNat ++ [x] ++ xs.drop j.toNat)) (o := .lst (vs.take j.toNat ++ [y] ++ vs.drop j.toNat)) R1 hs (moL_is hm) h1 ⟨_, upd_same, ((q.tk _).app (.one q2)).app (q.dp _)⟩
          exact k _ _ _ (S1.trans S3) R3
    · cases e9
  · cases e
end
section
variable {X : Cx} {G : Gd} {pos : Pos} {a b : Expr} {fa : DA} {apos : Pos}
theorem js_ins (i : Nat) {y : Str} {py ep : Pos} (e : En X G) (ha : PA X [a, b] (tA G fa)) (hN : X.N[i]? = some y := by rfl) (hv : Vis X.env.scope y := by first | exact Or.inl rfl | exact Or.inr (Or.inl rfl) | exact Or.inr (Or.inr rfl)) (hd : (y == ("__debug__" : Str)) = false := by decide) (hcd : (y == ("__classdict__" : Str)) = false := by decide)
    (hbase : attributeBase (.Name y py) "insert" X.env (eval (.Name y py) X.env) = eval (.Name y py) X.env := by rfl)
    (hfew : ((backTo pos (starEach [a, b] X.env)).all (fun x => !x.1) && (backToKw pos (keywordEach [] X.env)).all (fun x => x.1.isSome)
      && decide ([a, b].length + ([] : List Keyword).length + (if ([] : List Keyword).isEmpty then 0 else 1) < 30)) = true := by rfl)
    (hline : (apos.endLine == pos.line) = true := by rfl) (hs : starEach [a, b] X.env = (false, eval a X.env) :: starEach [b] X.env := by rfl) (hplain : (backTo pos (starEach [b] X.env)).any (·.1) = false := by rfl)
    (hsw : swapsWith (.Call (.Attribute (.Name y py) "insert" apos) [a, b] [] pos) none ep.line X.env = pure false := by rfl) :
    PS X (.Expr (.Call (.Attribute (.Name y py) "insert" apos) [a, b] [] pos) ep) (tS G (dIns i fa)) :=
  ps_to (ps_expr (pe_bm PySem.F.plainAttrs_list PySem.F.slot_list_insert PySem.F.type_list_insert mt_insert (pv i hN hv hd hcd) ha hbase hfew hline hs hplain) hsw) fun _ _ _ q => by
    rw [e.k]; exact ts_ins q
end
end DP

set_option Elab.async false
set_option linter.all false
set_option maxRecDepth 100000
set_option maxHeartbeats 4000000
/-! a, b, c = x, y, z: the values as data -/
namespace DP
open PySem PySem.Spec PyProof.Rows L2
section
variable {G : Gd} {Z Z0 Z1 H H0 H1 : Hp} {ρ ρ0 ρ1 : List SD} {σ σ0 σ1 : L2.St} {D : Ends}
def dPar3 (i j l : Nat) (f : DA) : DS := fun ρ => (f ρ).bind fun p => match p.1 with
  | [a, b, c] => if i < p.2.length ∧ j < p.2.length ∧ l < p.2.length then some (.nx, ((p.2.set i a).set j b).set l c) else none
  | _ => none
theorem store_d {i : Nat} {s : SD} {v : V} (S : Step Z0 ρ0 σ0 H0 Z ρ σ H) (R : Rep G Z ρ σ H) (q : ValOk G Z H s v) (k : s.kd = 0) (hl : i < ρ.length) :
    Step Z0 ρ0 σ0 H0 Z (ρ.set i s) (σ.set i (some v)) H ∧ Rep G Z (ρ.set i s) (σ.set i (some v)) H :=
  store_slot S R ⟨q, fun n => absurd k n⟩ (fun n => absurd k n) hl (by omega)
theorem ts_par3 {i j l : Nat} {f : DA} (h : tS G (dPar3 i j l f) D σ H) : tPar3 i j l (tA G f) D σ H := by
  obtain ⟨Z, ρ, fl, ρ', e, R, k⟩ := h
  obtain ⟨⟨as, ρ1⟩, ea, e⟩ := Option.bind_some' e
  split at e
  · rename_i a b c has
    have has : as = [a, b, c] := has
    subst has
    split at e
    · rename_i hl
      obtain ⟨l1, l2, l3⟩ := hl
      cases e
      refine ⟨Z, ρ, _, ρ1, ea, R, fun vs Z1 H1 S1 E1 R1 n1 => ?_⟩
      cases n1 with
      | @cons _ u _ _ q1 k1 n1 => cases n1 with
        | @cons _ v _ _ q2 k2 n1 => cases n1 with
          | @cons _ w _ _ q3 k3 n1 =>
            cases n1
            refine ⟨u, v, w, rfl, ?_⟩
            obtain ⟨S2, R2⟩ := store_d S1 R1 q1 k1 l1
            obtain ⟨S3, R3⟩ := store_d S2 R2 q2 k2 (by rw [List.length_set]; exact l2)
            obtain ⟨S4, R4⟩ := store_d S3 R3 q3 k3 (by rw [List.length_set, List.length_set]; exact l3)
            exact k _ _ _ S4 R4
    · cases e
  · cases e
end
section
variable {X : Cx} {G : Gd} {pos : Pos} {a b c : Expr} {fa : DA} {x y z : Str}
theorem js_par3 (e : En X G) (i j l : Nat) {px py pz pt pt2 : Pos} {kt k2} (ha : PA X [a, b, c] (tA G fa)) (hij : i ≠ j := by decide) (hil : i ≠ l := by decide) (hjl : j ≠ l := by decide) (hi : X.N[i]? = some x := by rfl) (hj : X.N[j]? = some y := by rfl) (hl : X.N[l]? = some z := by rfl)
    (hx : X.env.scope.names.lookup x = some .local := by rfl) (hy : X.env.scope.names.lookup y = some .local := by rfl) (hz : X.env.scope.names.lookup z = some .local := by rfl)
    (hw : swappedStores [.Tuple [.Name x px, .Name y py, .Name z pz] kt pt] (.Tuple [a, b, c] k2 pt2) X.env = pure (some [x, y, z]) := by rfl)
    (hs : swapsWithSole [.Tuple [.Name x px, .Name y py, .Name z pz] kt pt] (.Tuple [a, b, c] k2 pt2) pos.line X.env = pure false := by rfl) :
    PS X (.Assign [.Tuple [.Name x px, .Name y py, .Name z pz] kt pt] (.Tuple [a, b, c] k2 pt2) pos) (tS G (dPar3 i j l fa)) :=
  ps_to (ps_par3 e.calm e.nd hi hj hl hij hil hjl hx hy hz ha hw hs) fun _ _ _ q => ts_par3 q
end
end DP

set_option Elab.async false
set_option linter.all false
set_option maxRecDepth 100000
set_option maxHeartbeats 4000000
/-! f(x=e, y=d): all by keywords, in the parameters' order -/
namespace DP
open PySem PySem.Spec PyProof.Rows L2
def kw0 {α : Type} : List α → List α → List α
  | [], ws => ws
  | _ :: _, _ => []
theorem kw0_rel : ∀ {vs : List V} {us : List Value} {zs : List V} {ws : List Value}, Vals vs us → Vals zs ws → Vals (kw0 vs zs) (kw0 us ws)
  | _, _, _, _, .nil, k => k
  | _, _, _, _, .cons _ _, _ => .nil
section
variable {G : Gd} {io : Nat → Addr} {H : Hp} {σ : L2.St}
theorem te_callKi {Φ : DF} {f : DA} {Q : VK} {E : XK} (h : tE (G.at io) (dCall Φ f) σ H Q) : tCallK (spD G Φ) kw0 E tNil (tA (G.at io) f) σ H Q := by
  obtain ⟨Z, ρ, r, ρ', e, R, k⟩ := h
  obtain ⟨⟨as, ρ1⟩, ea, e⟩ := Option.bind_some' e
  obtain ⟨⟨r', as'⟩, er, e⟩ := Option.map_some' e
  cases e
  refine ⟨Z, ρ, as, ρ1, ea, R, fun vs Z1 H1 S1 E1 R1 n1 => ?_⟩
  show spD G Φ vs H1 Q E
  exact sp_call er R1.same n1 fun v Z3 H3 X n => k v Z3 H3 (S1.ext X) E1 (X.rep R1) (n.back S1)
end
structure FnAtKi (P : Program) (w : World) (K : PySem.W.Frag) (mg : Str → Option Value) (base : Heap) (G : Gd) (x : Str) (k : Nat) (ps ks : List Str) (Φ : DF) : Prop where
  ok : ∃ (f : Addr) (fd : FuncData), FnOk P w K mg base CX0 k f fd ps (spD G Φ) ∧ mg x = some (.ref f) ∧ PySem.W.keepIn K (.ref f) = true ∧ KBinds K fd ps ks kw0 kw0
section
variable {X : Cx} {G : Gd} {io : Nat → Addr} {pos : Pos} {fa : DA} {x : Str} {p : Pos} {k n : Nat} {ps : List Str} {Φ : DF}
theorem je_callKi {kws : List Keyword} {ks : List Str} (F : FnAtKi X.prog X.w X.K X.mg X.base G x k ps ks Φ) (hr : Room n X.A) (ha : PK X kws (tA (G.at io) fa)) (hk : k ≤ n := by decide) (hg : Gl X x := by rfl) (hdb : (x == ("__debug__" : Str)) = false := by decide)
    (hall : (backToKw pos (keywordEach kws X.env)).all (·.1.isSome) = true := by rfl) (hks : (backToKw pos (keywordEach kws X.env)).filterMap (·.1) = ks := by rfl)
    (hpl : ((backTo pos (starEach [] X.env)).any (·.1) || (backToKw pos (keywordEach kws X.env)).any (·.1.isNone)) = false := by rfl) : PE X (.Call (.Name x p) [] kws pos) (tE (G.at io) (dCall Φ fa)) := by
  obtain ⟨f, fd, h1, h2, h3, h4⟩ := F.ok
  exact pe_to (pe_callK0 h1 (hr.mono hk) hg h2 h3 h4 pass0 ha hall hks hdb hpl) fun _ _ _ q => te_callKi q
end
end DP

set_option Elab.async false
set_option linter.all false
set_option maxRecDepth 100000
set_option maxHeartbeats 4000000
/-! e[::-1], e a list -/
namespace DP
open PySem PySem.Spec PyProof.Rows L2
section
variable {G : Gd} {H : Hp} {σ : L2.St}
def dRevL (f : DE) : DE := fun ρ => (f ρ).bind fun p => (p.1.lst).map fun xs => (.own (.lst xs.reverse), p.2)
theorem te_revL {f : DE} {Q : VK} (h : tE G (dRevL f) σ H Q) : tRevL G.K (tE G f) σ H Q := by
  obtain ⟨Z, ρ, r, ρ', e, R, k⟩ := h
  obtain ⟨⟨s, ρ1⟩, ef, e⟩ := Option.bind_some' e
  obtain ⟨xs, hx, e⟩ := Option.map_some' e
  cases e
  refine ⟨Z, ρ, s, ρ1, ef, R, fun v Z1 H1 S1 E1 R1 n1 => ?_⟩
  obtain ⟨a, vs, ea, ha, q⟩ := n1.ok.lst hx R1.same
  refine ⟨a, vs, ea, .of ha, fun p hp => ?_⟩
  obtain ⟨X, n⟩ := New.lst (G := G) R1.same q.rv hp
  exact k _ _ _ (S1.ext X) E1 (X.rep R1) (n.back S1)
end
section
variable {X : Cx} {G : Gd} {e0 : Expr} {f : DE}
theorem je_revL (e : En X G) {k : Nat} {p1 p2 p3 pos : Pos} (he : PE X e0 (tE G f)) : PE X (.Subscript e0 (.Slice none none (some (.UnaryOp .USub (.Constant (.int 1) k p1) p2)) p3) pos) (tE G (dRevL f)) :=
  pe_to (pe_revL he) fun _ _ _ q => by rw [e.k]; exact te_revL q
end
end DP

set_option Elab.async false
set_option linter.all false
set_option maxRecDepth 100000
set_option maxHeartbeats 4000000
/-! x is True, x is False -/
namespace DP
open PySem PySem.Spec PyProof.Rows L2
theorem op_isBl {X : Cx} : OpR X (compareOp .Is) (fun x y H Q => (∃ b, y = .bl b) ∧ Q (.bl (decide (x = y))) H) := by
  intro pins s σ H x y v u Q I rx ry h
  obtain ⟨⟨b, rfl⟩, q⟩ := h
  cases (show u = Value.bool b from ry)
  cases x with
  | bl a =>
    cases (show v = Value.bool a from rx)
    by_cases e : a = b
    · subst e
      exact wpAny_is_self rfl ⟨.bl true, H, I, rfl, by simpa using q⟩
    · exact wpAny_is_other rfl (fun z => e (Value.bool.inj z)) ⟨.bl false, H, I, rfl, by simpa [e] using q⟩
  | non => cases rx; exact wpAny_is_other rfl (fun z => nomatch z) ⟨.bl false, H, I, rfl, by simpa using q⟩
  | int i => obtain ⟨t, rfl⟩ := rx; exact wpAny_is_other rfl (fun z => nomatch z) ⟨.bl false, H, I, rfl, by simpa using q⟩
  | str i => obtain ⟨t, rfl⟩ := rx; exact wpAny_is_other rfl (fun z => nomatch z) ⟨.bl false, H, I, rfl, by simpa using q⟩
  | byt i => obtain ⟨t, rfl⟩ := rx; exact wpAny_is_other rfl (fun z => nomatch z) ⟨.bl false, H, I, rfl, by simpa using q⟩
  | flt i => obtain ⟨t, rfl⟩ := rx; exact wpAny_is_other rfl (fun z => nomatch z) ⟨.bl false, H, I, rfl, by simpa using q⟩
  | ref a => cases rx; exact wpAny_is_other rfl (fun z => nomatch z) ⟨.bl false, H, I, rfl, by simpa using q⟩
  | ty n => cases rx; exact wpAny_is_other rfl (fun z => nomatch z) ⟨.bl false, H, I, rfl, by simpa using q⟩
theorem op_isnotBl {X : Cx} : OpR X (compareOp .IsNot) (fun x y H Q => (∃ b, y = .bl b) ∧ Q (.bl (!decide (x = y))) H) := by
  intro pins s σ H x y v u Q I rx ry h
  obtain ⟨⟨b, rfl⟩, q⟩ := h
  cases (show u = Value.bool b from ry)
  cases x with
  | bl a =>
    cases (show v = Value.bool a from rx)
    by_cases e : a = b
    · subst e
      exact wpAny_isNot_self rfl ⟨.bl false, H, I, rfl, by simpa using q⟩
    · exact wpAny_isNot_other rfl (fun z => e (Value.bool.inj z)) ⟨.bl true, H, I, rfl, by simpa [e] using q⟩
  | non => cases rx; exact wpAny_isNot_other rfl (fun z => nomatch z) ⟨.bl true, H, I, rfl, by simpa using q⟩
  | int i => obtain ⟨t, rfl⟩ := rx; exact wpAny_isNot_other rfl (fun z => nomatch z) ⟨.bl true, H, I, rfl, by simpa using q⟩
  | str i => obtain ⟨t, rfl⟩ := rx; exact wpAny_isNot_other rfl (fun z => nomatch z) ⟨.bl true, H, I, rfl, by simpa using q⟩
  | byt i => obtain ⟨t, rfl⟩ := rx; exact wpAny_isNot_other rfl (fun z => nomatch z) ⟨.bl true, H, I, rfl, by simpa using q⟩
  | flt i => obtain ⟨t, rfl⟩ := rx; exact wpAny_isNot_other rfl (fun z => nomatch z) ⟨.bl true, H, I, rfl, by simpa using q⟩
  | ref a => cases rx; exact wpAny_isNot_other rfl (fun z => nomatch z) ⟨.bl true, H, I, rfl, by simpa using q⟩
  | ty n => cases rx; exact wpAny_isNot_other rfl (fun z => nomatch z) ⟨.bl true, H, I, rfl, by simpa using q⟩
section
variable {G : Gd} {Z Z' Z0 Z1 Z2 H H' H0 H1 H2 : Hp} {ρ ρ0 ρ1 ρ2 : List SD} {σ σ0 σ1 σ2 : L2.St}
def isB : SD → Bool → Bool
  | .d (.bl a), b => a == b
  | _, _ => false
def gIsB (neg : Bool) : SD → SD → Option SD := fun a b => match a, b with
  | .no, _ => none
  | a, .d (.bl b) => some (.d (.bl (isB a b != neg)))
  | _, _ => none
theorem bl_iff {s : SD} {v : V} {b : Bool} (h : ValOk G Z H s v) : decide (v = .bl b) = isB s b := by
  cases s with
  | no => exact h.elim
  | d x => cases h with
    | bl b2 => cases b2 <;> cases b <;> rfl
    | _ => simp [isB]
  | scr ns => obtain ⟨a, e, _⟩ := h; subst e; simp [isB]
  | own m => obtain ⟨a, e, _⟩ := h; subst e; simp [isB]
  | io m => obtain ⟨a, e, _⟩ := h; subst e; simp [isB]
theorem gIsB_is {neg : Bool} {a b d : SD} (e : gIsB neg a b = some d) : ∃ c, b = .d (.bl c) ∧ d = .d (.bl (isB a c != neg)) := by
  unfold gIsB at e
  split at e
  · cases e
  · cases e; exact ⟨_, rfl, rfl⟩
  · cases e
theorem vop_isB : VOp2 G (fun x y H Q => (∃ b, y = .bl b) ∧ Q (.bl (decide (x = y))) H) (gIsB false) := by
  intro Z H x y a b d Q e z ox oy k
  obtain ⟨c, rfl, rfl⟩ := gIsB_is e
  cases oy
  refine ⟨⟨c, rfl⟩, ?_⟩
  rw [bl_iff ox]
  exact k _ Z H (Ext.refl z) ⟨by
    have : (isB a c != false) = isB a c := by cases isB a c <;> rfl
    rw [this]; exact .bl _, fun n => absurd rfl n⟩
theorem vop_isnotB : VOp2 G (fun x y H Q => (∃ b, y = .bl b) ∧ Q (.bl (!decide (x = y))) H) (gIsB true) := by
  intro Z H x y a b d Q e z ox oy k
  obtain ⟨c, rfl, rfl⟩ := gIsB_is e
  cases oy
  refine ⟨⟨c, rfl⟩, ?_⟩
  rw [bl_iff ox]
  exact k _ Z H (Ext.refl z) ⟨by
    have : (isB a c != true) = !isB a c := by cases isB a c <;> rfl
    rw [this]; exact .bl _, fun n => absurd rfl n⟩
end
section
variable {X : Cx} {G : Gd}
theorem oc_isB (e : En X G) : OpC X G .Is (gIsB false) := ⟨_, op_isBl, vop_isB⟩
theorem oc_isnotB (e : En X G) : OpC X G .IsNot (gIsB true) := ⟨_, op_isnotBl, vop_isnotB⟩
end
end DP

set_option Elab.async false
set_option linter.all false
set_option maxRecDepth 100000
set_option maxHeartbeats 4000000
/-! min of a list of tuples of ints -/
namespace DP
open PySem PySem.Spec PyProof.Rows L2
abbrev TI (l : List Int) : PySem.W.Tup Int := ⟨l⟩
def minT (l : List Int) (ls : List (List Int)) : List Int := ls.foldl (fun a y => if PySem.W.listLt y a = true then y else a) l
theorem minT_of : ∀ (ls : List (List Int)) (l : List Int), PySem.W.minOf (TI l) (ls.map TI) = TI (minT l ls)
  | [], l => rfl
  | y :: ys, l => by
    show PySem.W.minOf (if PySem.W.listLt y l = true then TI y else TI l) (ys.map TI) = TI (minT (if PySem.W.listLt y l = true then y else l) ys)
    by_cases h : PySem.W.listLt y l = true
    · rw [if_pos h, if_pos h]; exact minT_of ys y
    · rw [if_neg h, if_neg h]; exact minT_of ys l
def pyT (l : List Int) : PyData := .tuple (l.map PyData.int)
theorem pyT_inj {l l' : List Int} (h : pyT l = pyT l') : l = l' := by
  have h : l.map PyData.int = l'.map PyData.int := PyData.tuple.inj h
  exact List.map_inj_right (fun x y e => PyData.int.inj e) |>.mp h
def rMinT (K : PySem.W.Frag) : List V → Hp → VK → Prop := fun vs H Q => ∃ (a : Addr) (xs : List V) (l : List Int) (ls : List (List Int)), vs = [V.ref a] ∧ SqL K H a xs ∧ DpAll K H xs ((l :: ls).map pyT) ∧
  ∀ (i : Nat) (v : V), xs[i]? = some v → (l :: ls)[i]? = some (minT l ls) → Q v H
theorem readsAll_ix {h : Heap} : ∀ {vs : List Value} {xs : List PyData} {as : List Addr}, ReadsAll h vs xs as → ∀ (i : Nat) (v : Value), vs[i]? = some v → ∃ d bs, xs[i]? = some d ∧ Reads h v d bs
  | _, _, _, .nil, _, _, hv => by simp at hv
  | _, _, _, .cons r rs, 0, v, hv => by
    simp at hv; subst hv
    exact ⟨_, _, rfl, r⟩
  | _, _, _, .cons r rs, i + 1, v, hv => by
    obtain ⟨d, bs, h1, h2⟩ := readsAll_ix rs i v (by simpa using hv)
    exact ⟨d, bs, by simpa using h1, h2⟩
section
variable {X : Cx}
theorem cr_minT (hc : X.calm = true) (hu : X.A.units + 66 < cLine) : CallR X (.builtin "min") (rMinT X.K) := by
  intro pins s σ H vs us Q I r h
  obtain ⟨a, xs, l, ls, rfl, hs, hd, q⟩ := h
  obtain ⟨its, rv, hl, _⟩ := I.list hs
  rw [Vals.ref1 r]
  obtain ⟨as, hr⟩ := Dp.readsAll I ((l :: ls).map pyT) _ its hd rv
  have e1 : (l :: ls).map pyT = (TI l :: ls.map TI).map PySem.W.Datum.toD := by
    show _ = ((l :: ls).map TI).map PySem.W.Datum.toD
    rw [List.map_map]; rfl
  have HA : PySem.W.HoldAll s.heap its.toArray.toList (TI l :: ls.map TI) := ⟨as, by rw [← e1]; exact hr⟩
  refine PySem.W.min_list_datum (I.ok.hd hc) hl.isList HA (by show _ + 1 + (0 + 1) < _; omega) fun i v h' tk hi hv hk => ?_
  rw [minT_of] at hv
  obtain ⟨bs, hv⟩ := hv
  have hi : its[i]? = some v := by simpa using hi
  obtain ⟨d, cs, hd1, hd2⟩ := readsAll_ix hr i v hi
  have det := (reads_det (fun b o e _ => hk b o e) hd2 hv).1
  have hil : i < its.length := (List.getElem?_eq_some_iff.mp hi).1
  have hxl : i < xs.length := by rw [rv.length]; exact hil
  obtain ⟨u, hu1, hu2⟩ := rv.get (List.getElem?_eq_getElem hxl)
  rw [hi] at hu1
  cases hu1
  refine ⟨_, H, I.kept hk, hu2, q i _ (List.getElem?_eq_getElem hxl) ?_⟩
  rw [List.getElem?_map] at hd1
  obtain ⟨m, hm1, hm2⟩ := Option.map_some' hd1
  rw [hm1]
  have : pyT m = pyT (minT l ls) := by
    rw [hm2]; first | exact det | exact det.symm
  rw [pyT_inj this]
end
def tupsI : List Dat → Option (List (List Int))
  | [] => some []
  | .tup l :: r => (intsD l).bind fun ns => (tupsI r).map (ns :: ·)
  | _ => none
abbrev datT (l : List Int) : Dat := .tup (l.map Dat.int)
theorem tupsI_is : ∀ {l : List Dat} {ns : List (List Int)}, tupsI l = some ns → l = ns.map datT
  | [], _, e => by cases e; rfl
  | .tup l :: r, _, e => by
    obtain ⟨i, e1, e⟩ := Option.bind_some' e
    obtain ⟨js, e2, e⟩ := Option.map_some' e
    subst e
    rw [List.map_cons, ← tupsI_is e2, ints_map e1]
  | .non :: _, _, e => by cases e
  | .bl _ :: _, _, e => by cases e
  | .int _ :: _, _, e => by cases e
  | .str _ :: _, _, e => by cases e
  | .lst _ :: _, _, e => by cases e
  | .ins _ _ _ :: _, _, e => by cases e
theorem py_intsI : ∀ l : List Int, pyAll (l.map Dat.int) = some (l.map PyData.int)
  | [] => rfl
  | x :: r => by
    show ((Dat.py (.int x)).bind fun a => (pyAll (r.map Dat.int)).map (a :: ·)) = _
    rw [py_intsI r]; rfl
theorem py_tups : ∀ l : List (List Int), pyAll (l.map datT) = some (l.map pyT)
  | [] => rfl
  | x :: r => by
    show ((Dat.py (datT x)).bind fun a => (pyAll (r.map datT)).map (a :: ·)) = _
    have : Dat.py (datT x) = some (pyT x) := by
      show (pyAll (x.map Dat.int)).map PyData.tuple = _
      rw [py_intsI]; rfl
    rw [this, py_tups r]; rfl
def gMinT : List SD → Option SD
  | [s] => (s.lst).bind fun ds => (tupsI ds).bind fun L => match L with
    | l :: ls => some (.d (datT (minT l ls)))
    | [] => none
  | _ => none
def gMinB : List SD → Option SD := fun as => match gMin as with
  | some d => some d
  | none => gMinT as
section
variable {G : Gd}
theorem vopL_minT : VOpL G (rMinT G.K) gMinT := by
  intro Z H xs as d Q e z ar k
  unfold gMinT at e
  split at e
  · obtain ⟨ds, e1, e⟩ := Option.bind_some' e
    obtain ⟨L, e2, e⟩ := Option.bind_some' e
    cases ar with
    | @cons s v _ _ h1 h2 h3 =>
      cases h3
      obtain ⟨a, vs, ea, ha, q⟩ := ValOk.lst e1 h1 z
      subst ea
      split at e
      · rename_i l ls
        cases e
        have hds := tupsI_is e2
        subst hds
        refine ⟨a, vs, l, ls, rfl, .of ha, IsAll.py (py_tups _) z q, fun i v hv hi => ?_⟩
        obtain ⟨d, hd, iv⟩ := q.at hv
        rw [List.getElem?_map, hi] at hd
        cases hd
        exact k _ Z H (Ext.refl z) ⟨iv, fun n => absurd rfl n⟩
      · cases e
  · cases e
theorem vopL_minB : VOpL G (fun vs H Q => rMin G.K vs H Q ∨ rMinT G.K vs H Q) gMinB := by
  intro Z H xs as d Q e z ar k
  unfold gMinB at e
  split at e
  · rename_i d' h
    cases e
    exact .inl (vopL_min Z H xs as _ Q h z ar k)
  · exact .inr (vopL_minT Z H xs as _ Q e z ar k)
end
section
variable {X : Cx} {G : Gd}
theorem cf_minB (e : En X G) : CallF X G (.builtin "min") gMinB := ⟨_, CallR.or (cr_min e.calm) (cr_minT e.calm e.hu), by rw [e.k]; exact vopL_minB⟩
end
end DP

set_option Elab.async false
set_option linter.all false
set_option maxRecDepth 100000
set_option maxHeartbeats 4000000
/-! a, b = e, f where a comprehension reads a or b: a tuple is made and taken apart -/
namespace DP
open PySem PySem.Spec PyProof.Rows L2
section
variable {G : Gd} {H : Hp} {σ : L2.St} {D : Ends}
theorem ts_parC {i j : Nat} {f h : DE} (h0 : tS G (dPar i j f h) D σ H) : tAsg (tTup (tCons (tE G f) (tCons (tE G h) tNil))) (gTup G.K 2 (gCons (gName i) (gCons (gName j) gNil))) D σ H := by
  obtain ⟨Z, ρ, fl, ρ', e, R, k⟩ := h0
  obtain ⟨⟨s, ρ1⟩, ef, e⟩ := Option.bind_some' e
  obtain ⟨⟨t, ρ2⟩, eh, e⟩ := Option.bind_some' e
  obtain ⟨ρ3, e3, e⟩ := Option.bind_some' e
  obtain ⟨ρ4, e4, e⟩ := Option.map_some' e
  cases e
  refine ⟨Z, ρ, s, ρ1, ef, R, fun v Z1 H1 S1 E1 R1 n1 => ⟨Z1, ρ1, t, ρ2, eh, R1, fun w Z2 H2 S2 E2 R2 n2 => ⟨le_line (by simp), fun p hp => ?_⟩⟩⟩
  have X : Ext Z2 H2 Z2 (upd H2 p (.tup [v, w])) := Ext.new R2.same hp
  obtain ⟨l3, k3, q3⟩ := okSlot_is e3
  obtain ⟨l4, k4, q4⟩ := okSlot_is e4
  have q3 : ρ2.set i s = ρ3 := q3
  subst q3
  subst q4
  have m1 := (n1.step S2 E1 R).ext X
  have m2 := (n2.back S1).ext X
  refine ⟨p, [v, w], rfl, .inl (.of upd_same), rfl, v, [w], rfl, w, [], rfl, rfl, ?_⟩
  have R2' := X.rep R2
  obtain ⟨S3, R3⟩ := store_slot ((S1.trans S2).ext X) R2' m1 (m1.own_ne (E1.trans E2) R) l3 k3
  have no : t.kd ≠ 0 → ∀ a, w = .ref a → ¬ Own (ρ2.set i s) (σ.set i (some v)) a := fun kt a ea o => by
    have na := n2.nw kt a ea
    obtain ⟨b, hb, eb⟩ := o
    rw [kdAt_set] at hb
    by_cases ib : i = b
    · subst ib
      rw [if_pos rfl, if_pos l3] at hb
      obtain ⟨c, ec, hc⟩ := n1.ok.there hb
      rw [List.getElem?_set, if_pos rfl] at eb
      split at eb
      · cases eb
        cases ec
        exact hc na
      · cases eb
    · rw [if_neg ib] at hb
      rw [List.getElem?_set, if_neg ib] at eb
      exact n2.own_ne E2 R1 kt a ea ⟨b, hb, eb⟩
  obtain ⟨S4, R4⟩ := store_slot S3 R3 m2 no l4 k4
  exact k _ _ _ S4 R4
end
section
variable {X : Cx} {G : Gd} {pos : Pos} {a b : Expr} {f h : DE} {x y : Str}
theorem js_parC (e : En X G) (i j : Nat) {px py pt pt2 : Pos} {kt k2} (ha : PE X a (tE G f)) (hb : PE X b (tE G h)) (hi : X.N[i]? = some x := by rfl) (hj : X.N[j]? = some y := by rfl)
    (hx : Loc X.env.scope x := by first | exact .inl rfl | exact .inr rfl) (hfx : X.fn x = true ∨ X.env.scope.names.lookup x = some .local := by first | exact .inl rfl | exact .inr rfl)
    (hy : Loc X.env.scope y := by first | exact .inl rfl | exact .inr rfl) (hfy : X.fn y = true ∨ X.env.scope.names.lookup y = some .local := by first | exact .inl rfl | exact .inr rfl)
    (h1 : starEach [a, b] X.env = (false, eval a X.env) :: starEach [b] X.env := by rfl) (h2 : starEach [b] X.env = (false, eval b X.env) :: starEach [] X.env := by rfl)
    (hn : (assignEach [.Name x px, .Name y py] X.env).length = 2 := by rfl) (hst : (assignEach [.Name x px, .Name y py] X.env).findIdx? (·.1) = none := by rfl)
    (hs1 : (assignEach [.Name x px, .Name y py] X.env).map (·.2) = assign (.Name x px) X.env :: (assignEach [.Name y py] X.env).map (·.2) := by rfl) (hs2 : (assignEach [.Name y py] X.env).map (·.2) = assign (.Name y py) X.env :: (assignEach [] X.env).map (·.2) := by rfl)
    (hw : swappedStores [.Tuple [.Name x px, .Name y py] kt pt] (.Tuple [a, b] k2 pt2) X.env = pure none := by rfl)
    (hs : swapsWithSole [.Tuple [.Name x px, .Name y py] kt pt] (.Tuple [a, b] k2 pt2) pos.line X.env = pure false := by rfl) (he : (assignEach [.Tuple [.Name x px, .Name y py] kt pt] X.env).map (·.2) = [assign (.Tuple [.Name x px, .Name y py] kt pt) X.env] := by rfl) :
    PS X (.Assign [.Tuple [.Name x px, .Name y py] kt pt] (.Tuple [a, b] k2 pt2) pos) (tS G (dPar i j f h)) :=
  ps_to (ps_asg (pe_tup (pa_cons ha (pa_cons hb pa_nil h2) h1)) (pg_tup e.calm (pgs_cons (pg_name e.nd hi hx hfx) (pgs_cons (pg_name e.nd hj hy hfy) pgs_nil hs2) hs1) hn hst) hs hw he) fun _ _ _ q => by
    rw [e.k]; exact ts_parC q
end
end DP
namespace DP
open PySem PySem.Spec PyProof.Rows L2
theorem je_fz {X : Cx} {G : Gd} {e : Expr} {f : DE} (h : PE X e (tE G f)) : PE X e (tE G (dFz f)) := pe_to h fun _ _ _ q => te_fz q
end DP

set_option Elab.async false
set_option linter.all false
set_option maxRecDepth 100000
set_option maxHeartbeats 4000000
namespace K62
open PySem PySem.Spec PyProof.Rows L2 DP
def F__law_draw : DS := (dSeq (dIfS (dTestB (dBin gGt (dVarB 0 gIx (dC (.int 0))) (dC (.int 0)))) (dSeq (dAsg (dCB gDivmod (dCons (dVarB 0 gIx (dC (.int 0))) (dCons (dVar 1) dNil))) (dgTup 2 (dgCons (dgSub 0 (dC (.int 0))) (dgCons (dgName 2) dgNil))))
    (dSeq (dRetV 2)
    dNext)) dNext)
    (dSeq (dAsg (dBin gMod (dCB gInt (dCons (dBin gAdd (dBin gMul (dVarB 0 gIx (dC (.int 1))) (dC (.int 39409))) (dC (.int 1361))) dNil)) (dC (.int 2147483587))) (dgSub 0 (dC (.int 1))))
    (dSeq (dRet (dBin gMod (dCB gInt (dCons (dBin gFdiv (dBin gMod (dCB gInt (dCons (dBin gMul (dVarB 0 gIx (dC (.int 1))) (dVarB 0 gIx (dC (.int 1)))) dNil)) (dC (.int 2147483563))) (dC (.int 17))) dNil)) (dVar 1)))
    dNext)))
def Φ__law_draw : DF := runF 2 3 F__law_draw
def F__law_pick : DS := (dSeq (dRet (dVarB 1 gIx (dCallIO Φ__law_draw 0 (dCons (dLenB 1) dNil))))
    dNext)
def Φ__law_pick : DF := runF 2 2 F__law_pick
def F__law_behind : DS := (dSeq (dAsg (dLst dNil) (dgName 3))
    (dSeq (dFor (dISeq (dVar 0)) (dgName 4) (dSeq (dIfS (dTestB (dBinB (gOr (gSIn false) (gIn false)) (dVar 1) 4)) (dSeq (dAsg (dBin gAdd (dIndexB 4 (dVar 1)) (dC (.int 1))) (dgName 5))
    (dSeq (dAsg (dBin gAdd (dBin gAdd (dSl (dVar 4) dNoPart (dPart (dVar 5))) (dVar 2)) (dSl (dVar 4) (dPart (dVar 5)) dNoPart)) (dgName 4))
    dNext)) dNext)
    (dSeq (dApp 3 (dVar 4))
    dNext)))
    (dSeq (dRetV 3)
    dNext)))
def Φ__law_behind : DF := runF 3 6 F__law_behind
def F__law_facing : DS := (dSeq (dAsg (dLst (dCons (dVar 1) dNil)) (dgName 2))
    (dSeq (dWhile (dTestB (dBin (gEq true) (dBin gXor (dVarB 0 gIx (dVarB 2 gIx (dUn gNeg (dC (.int 1))))) (dC (.int 1))) (dVar 1))) (dSeq (dApp 2 (dBin gXor (dVarB 0 gIx (dVarB 2 gIx (dUn gNeg (dC (.int 1))))) (dC (.int 1))))
    dNext) fuel)
    (dSeq (dRetV 2)
    dNext)))
def Φ__law_facing : DF := runF 2 3 F__law_facing
def F__law_turn : DS := (dSeq (dAsg (dBin gMul (dLst (dCons (dC (.int 0)) dNil)) (dCB gSum (dCons (dLC [2] (dISeq (dVar 0)) (dgName 2) dYes (dLenB 2)) dNil))) (dgName 1))
    (dSeq (dFor (dISeq (dVar 0)) (dgName 2) (dSeq (dFor (dIRng1 (dCons (dLenB 2) dNil)) (dgName 3) (dSeq (dAsg (dVarB 2 gIx (dVar 3)) (dgSub 1 (dVarB 2 gIx (dBin gSub2 (dVar 3) (dC (.int 1))))))
    dNext))
    dNext))
    (dSeq (dRet (dCB gTuple (dCons (dVar 1) dNil)))
    dNext)))
def Φ__law_turn : DF := runF 1 4 F__law_turn
def F__law_grown : DS := (dSeq (dAsg (dLst (dCons (dLst dNil) dNil)) (dgName 2))
    (dSeq (dFor (dIRng1 (dCons (dVar 1) dNil)) (dgName 3) (dSeq (dPar 4 5 (dCallIO Φ__law_draw 0 (dCons (dC (.int 8)) dNil)) (dCallIO Φ__law_draw 0 (dCons (dCB gMax2 (dCons (dC (.int 1)) (dCons (dBin gMul (dC (.int 2)) (dVar 3)) dNil))) dNil)))
    (dSeq (dIfS (dTestB (dBin (gEq false) (dVar 3) (dC (.int 0)))) (dSeq (dAsg (dIf (dTestB (dBin gLt (dVar 4) (dC (.int 2)))) (dLst (dCons (dLst (dCons (dC (.int 0)) (dCons (dC (.int 1)) dNil))) dNil)) (dLst (dCons (dLst (dCons (dC (.int 0)) dNil)) (dCons (dLst (dCons (dC (.int 1)) dNil)) dNil)))) (dgName 2))
    dNext) (dSeq (dIfS (dTestB (dBin (gEq false) (dVar 4) (dC (.int 0)))) (dSeq (dAsg (dBin gAdd (dCall Φ__law_behind (dCons (dVar 2) (dCons (dVar 5) (dCons (dLst (dCons (dBin gMul (dC (.int 2)) (dVar 3)) dNil)) dNil)))) (dLst (dCons (dLst (dCons (dBin gAdd (dBin gMul (dC (.int 2)) (dVar 3)) (dC (.int 1))) dNil)) dNil))) (dgName 2))
    dNext) (dSeq (dIfS (dTestB (dBin gLt (dVar 4) (dC (.int 4)))) (dSeq (dAsg (dBin gFdiv (dVar 5) (dC (.int 2))) (dgName 6))
    (dSeq (dAsg (dLC [8] (dISeq (dVar 2)) (dgName 8) dYes (dLC [9] (dISeq (dVar 8)) (dgName 9) dYes (dIf (dTestB (dBin (gEq false) (dVar 9) (dBin gAdd (dBin gMul (dC (.int 2)) (dVar 6)) (dC (.int 1))))) (dBin gAdd (dBin gMul (dC (.int 2)) (dVar 3)) (dC (.int 1))) (dVar 9)))) (dgName 2))
    (dSeq (dAsg (dBin gAdd (dVar 2) (dLst (dCons (dLst (dCons (dBin gAdd (dBin gMul (dC (.int 2)) (dVar 6)) (dC (.int 1))) (dCons (dBin gMul (dC (.int 2)) (dVar 3)) dNil))) dNil))) (dgName 2))
    dNext))) (dSeq (dAsg (dCallIO Φ__law_pick 0 (dCons (dCall Φ__law_facing (dCons (dCall Φ__law_turn (dCons (dVar 2) dNil)) (dCons (dVar 5) dNil))) dNil)) (dgName 7))
    (dSeq (dIfS (dTestB (dBin (gEq false) (dVar 7) (dVar 5))) (dSeq (dAsg (dCall Φ__law_behind (dCons (dVar 2) (dCons (dVar 5) (dCons (dLst (dCons (dBin gMul (dC (.int 2)) (dVar 3)) (dCons (dBin gAdd (dBin gMul (dC (.int 2)) (dVar 3)) (dC (.int 1))) dNil))) dNil)))) (dgName 2))
    dNext) (dSeq (dAsg (dCall Φ__law_behind (dCons (dCall Φ__law_behind (dCons (dVar 2) (dCons (dVar 5) (dCons (dLst (dCons (dBin gMul (dC (.int 2)) (dVar 3)) dNil)) dNil)))) (dCons (dVar 7) (dCons (dLst (dCons (dBin gAdd (dBin gMul (dC (.int 2)) (dVar 3)) (dC (.int 1))) dNil)) dNil)))) (dgName 2))
    dNext))
    dNext)))
    dNext))
    dNext))
    dNext)))
    (dSeq (dRetV 2)
    dNext)))
def Φ__law_grown : DF := runF 2 10 F__law_grown
def F_is_integer : DS := (dSeq (dRet (dAndV (dIsi (isiB "int") (dVar 0)) (dNotV (dIsi (isiB "bool") (dVar 0)))))
    dNext)
def Φ_is_integer : DF := runF 1 1 F_is_integer
def F_is_count : DS := (dSeq (dRet (dAndV (dCall Φ_is_integer (dCons (dVar 0) dNil)) (dBin gGe (dVar 0) (dC (.int 0)))))
    dNext)
def Φ_is_count : DF := runF 1 1 F_is_count
def F_is_permutation : DS := (dSeq (dIfS (dOrT (dTestB (dBin (gEq true) (dLenB 0) (dVar 1))) (dNotT (dTru (dCB gAll (dCons (dLC [2] (dISeq (dVar 0)) (dgName 2) dYes (dCall Φ_is_count (dCons (dVar 2) dNil))) dNil))))) (dSeq (dRet (dC (.bl false)))
    dNext) dNext)
    (dSeq (dRet (dBin (gEq false) (dCB gSorted (dCons (dVar 0) dNil)) (dLstRg1 (dVar 1))))
    dNext))
def Φ_is_permutation : DF := runF 2 3 F_is_permutation
def F_read_from : DS := (dSeq (dAsg (dLst (dCons (dVar 1) (dCons (dBin gXor (dVar 1) (dC (.int 1))) dNil))) (dgName 2))
    (dSeq (dAsg (dDisp2 (dVar 1) (dC (.int 0)) (dBin gXor (dVar 1) (dC (.int 1))) (dC (.int 1))) (dgName 3))
    (dSeq (dAsg (dLst dNil) (dgName 4))
    (dSeq (dWhile (dTestB (dBin gLt (dLenB 4) (dLenB 2))) (dSeq (dAsg (dVarB 0 gIx (dVarB 2 gIx (dLenB 4))) (dgName 5))
    (dSeq (dIfS (dTestB (dInD true (dVar 5) 3)) (dSeq (dAsg (dLenB 2) (dgSub 3 (dVar 5)))
    (dSeq (dAsg (dBin gAdd (dLenB 2) (dC (.int 1))) (dgSub 3 (dBin gXor (dVar 5) (dC (.int 1)))))
    (dSeq (dApp 2 (dVar 5))
    (dSeq (dApp 2 (dBin gXor (dVar 5) (dC (.int 1))))
    dNext)))) dNext)
    (dSeq (dApp 4 (dGetB 3 (dVar 5)))
    dNext))) fuel)
    (dSeq (dRet (dTup (dCons (dCB gTuple (dCons (dVar 4) dNil)) (dCons (dVar 2) dNil))))
    dNext)))))
def Φ_read_from : DF := runF 2 6 F_read_from
def F_is_one_piece : DS := (dSeq (dRet (dOrV (dBin (gEq false) (dVar 0) (dTup dNil)) (dBin (gEq false) (dCB gLen (dCons (dBin gIx (dCall Φ_read_from (dCons (dVar 0) (dCons (dC (.int 0)) dNil))) (dC (.int 1))) dNil)) (dLenB 0))))
    dNext)
def Φ_is_one_piece : DF := runF 1 1 F_is_one_piece
def F_cycles_of : DS := (dSeq (dAsg dSetNew (dgName 1))
    (dSeq (dAsg (dLst dNil) (dgName 2))
    (dSeq (dFor (dIRng1 (dCons (dLenB 0) dNil)) (dgName 3) (dSeq (dIfS (dTestB (dBinB (gOr (gSIn true) (gIn true)) (dVar 3) 1)) (dSeq (dAsg (dLst (dCons (dVar 3) dNil)) (dgName 4))
    (dSeq (dWhile (dTestB (dBin (gEq true) (dVarB 0 gIx (dVarB 4 gIx (dUn gNeg (dC (.int 1))))) (dVar 3))) (dSeq (dApp 4 (dVarB 0 gIx (dVarB 4 gIx (dUn gNeg (dC (.int 1))))))
    dNext) fuel)
    (dSeq (dFor (dISeq (dVar 4)) (dgName 5) (dSeq (dSAdd 1 (dVar 5))
    dNext))
    (dSeq (dApp 2 (dCB gTuple (dCons (dVar 4) dNil)))
    dNext)))) dNext)
    dNext))
    (dSeq (dRetV 2)
    dNext))))
def Φ_cycles_of : DF := runF 1 6 F_cycles_of
def F_about_of : DS := (dSeq (dRet (dCB gTuple (dCons (dLC [1] (dIRng1 (dCons (dLenB 0) dNil)) (dgName 1) dYes (dVarB 0 gIx (dBin gXor (dVar 1) (dC (.int 1))))) dNil)))
    dNext)
def Φ_about_of : DF := runF 1 2 F_about_of
def F_is_web_turn : DS := (dSeq (dIfS (dOrT (dNotT (dTru (dIsi (isiB "tuple") (dVar 0)))) (dOrT (dTestB (dBin (gEq false) (dBin gMod (dLenB 0) (dC (.int 2))) (dC (.int 1)))) (dTestB (dBin gGt (dLenB 0) (dC (.int 28)))))) (dSeq (dRet (dC (.bl false)))
    dNext) dNext)
    (dSeq (dIfS (dOrT (dNotT (dTru (dCall Φ_is_permutation (dCons (dVar 0) (dCons (dLenB 0) dNil))))) (dNotT (dTru (dCall Φ_is_one_piece (dCons (dVar 0) dNil))))) (dSeq (dRet (dC (.bl false)))
    dNext) dNext)
    (dSeq (dIfS (dTestB (dBin (gEq false) (dVar 0) (dTup dNil))) (dSeq (dRet (dC (.bl true)))
    dNext) dNext)
    (dSeq (dRet (dBin (gEq false) (dBin gAdd (dBin gSub2 (dCB gLen (dCons (dCall Φ_cycles_of (dCons (dVar 0) dNil)) dNil)) (dBin gFdiv (dLenB 0) (dC (.int 2)))) (dCB gLen (dCons (dCall Φ_cycles_of (dCons (dCall Φ_about_of (dCons (dVar 0) dNil)) dNil)) dNil))) (dC (.int 2))))
    dNext))))
def Φ_is_web_turn : DF := runF 1 1 F_is_web_turn
def F_Web_init : DS := (dSeq (dIfS (dNotT (dTru (dCall Φ_is_web_turn (dCons (dVar 1) dNil)))) dNever dNext)
    (dSeq (dFldSet 0 0 "_turn" (dVar 1))
    (dSeq (dFldSet 0 0 "_places" (dIf (dTru (dVar 1)) (dCall Φ_cycles_of (dCons (dVar 1) dNil)) (dLst (dCons (dTup dNil) dNil))))
    (dSeq (dFldSet 0 0 "_faces" (dIf (dTru (dVar 1)) (dCall Φ_cycles_of (dCons (dCall Φ_about_of (dCons (dVar 1) dNil)) dNil)) (dLst (dCons (dTup dNil) dNil))))
    dNext))))
def Φ_Web_init : DF := runF 2 2 F_Web_init
def F_check_web : DS := (dSeq (dIfS (dNotT (dTru (dIsi (isiC 0) (dVar 0)))) dNever dNext)
    dNext)
def Φ_check_web : DF := runF 1 1 F_check_web
def F_is_ties : DS := (dSeq (dIfS (dOrT (dNotT (dTru (dIsi (isiB "tuple") (dVar 0)))) (dNotT (dTru (dCB gAll (dCons (dLC [2] (dISeq (dVar 0)) (dgName 2) dYes (dAndV (dCall Φ_is_count (dCons (dVar 2) dNil)) (dBin gLt (dVar 2) (dVar 1)))) dNil))))) (dSeq (dRet (dC (.bl false)))
    dNext) dNext)
    (dSeq (dRet (dCB gAll (dCons (dLC [3, 4] (dIZip (dCons (dVar 0) (dCons (dSl (dVar 0) (dPart (dC (.int 1))) dNoPart) dNil))) (dgTup 2 (dgNames [3, 4])) dYes (dBin gLt (dVar 3) (dVar 4))) dNil)))
    dNext))
def Φ_is_ties : DF := runF 2 5 F_is_ties
def F_Web_many : DS := (dSeq (dRet (dBin gFdiv (dCB gLen (dCons (dFld 0 "_turn" (dVar 0)) dNil)) (dC (.int 2))))
    dNext)
def Φ_Web_many : DF := runF 1 1 F_Web_many
def F_joined_ends : DS := (dSeq (dAsg (dBin gMul (dLst (dCons (dC (.int 0)) dNil)) (dBin gMul (dC (.int 2)) (dLenB 0))) (dgName 1))
    (dSeq (dFor (dIEnum (dCons (dVar 0) dNil)) (dgTup 2 (dgCons (dgName 2) (dgCons (dgName 3) dgNil))) (dSeq (dAsg (dBin gAdd (dBin gMul (dC (.int 2)) (dVar 3)) (dC (.int 1))) (dgSub 1 (dBin gMul (dC (.int 2)) (dVar 2))))
    (dSeq (dAsg (dBin gMul (dC (.int 2)) (dVar 2)) (dgSub 1 (dBin gAdd (dBin gMul (dC (.int 2)) (dVar 3)) (dC (.int 1)))))
    dNext)))
    (dSeq (dRetV 1)
    dNext)))
def Φ_joined_ends : DF := runF 1 4 F_joined_ends
def F_Web_turn : DS := (dSeq (dRet (dFld 0 "_turn" (dVar 0)))
    dNext)
def Φ_Web_turn : DF := runF 1 1 F_Web_turn
def F_circles : DS := (dSeq (dDrop (dCall Φ_check_web (dCons (dVar 0) dNil)))
    (dSeq (dIfS (dNotT (dTru (dCall Φ_is_ties (dCons (dVar 1) (dCons (dProp 0 Φ_Web_many (dVar 0)) dNil))))) dNever dNext)
    (dSeq (dIfS (dTestB (dBin (gEq false) (dProp 0 Φ_Web_many (dVar 0)) (dC (.int 0)))) (dSeq (dRet (dC (.int 1)))
    dNext) dNext)
    (dSeq (dAsg (dCall Φ_joined_ends (dCons (dMeth "turn" 0 Φ_Web_turn (dVar 0) dNil) dNil)) (dgName 2))
    (dSeq (dPar 3 4 dDNew (dC (.int 0)))
    (dSeq (dFor (dIRng1 (dCons (dLenB 2) dNil)) (dgName 5) (dSeq (dAsg (dVar 5) (dgName 6))
    (dSeq (dIfS (dTestB (dInD true (dVar 5) 3)) (dSeq (dAug 4 (fun i j => i + j) (dC (.int 1)))
    dNext) dNext)
    (dSeq (dWhile (dTestB (dInD true (dVar 6) 3)) (dSeq (dAsg (dC (.bl true)) (dgSub 3 (dVar 6)))
    (dSeq (dAsg (dIf (dTestB (dBinB (gOr (gSIn false) (gIn false)) (dBin gFdiv (dVar 6) (dC (.int 4))) 1)) (dBin gXor (dVar 6) (dC (.int 3))) (dBin gXor (dVar 6) (dC (.int 1)))) (dgName 7))
    (dSeq (dAsg (dC (.bl true)) (dgSub 3 (dVar 7)))
    (dSeq (dAsg (dVarB 2 gIx (dVar 7)) (dgName 6))
    dNext)))) fuel)
    dNext))))
    (dSeq (dRetV 4)
    dNext)))))))
def Φ_circles : DF := runF 2 8 F_circles
def F__law_walked : DS := (dSeq (dAsg (dBin gMul (dC (.int 2)) (dLenB 0)) (dgName 2))
    (dSeq (dIfS (dTestB (dBin (gEq false) (dVar 2) (dC (.int 0)))) (dSeq (dRet (dC (.int 1)))
    dNext) dNext)
    (dSeq (dPar 3 4 (dBin gMul (dLst (dCons (dC (.int 0)) dNil)) (dVar 2)) (dBin gMul (dLst (dCons (dC (.int 0)) dNil)) (dVar 2)))
    (dSeq (dFor (dIRng1 (dCons (dBin gFdiv (dLenB 0) (dC (.int 2))) dNil)) (dgName 5) (dSeq (dAsg (dLst (dCons (dTup (dCons (dC (.int 0)) (dCons (dC (.int 1)) dNil))) (dCons (dTup (dCons (dC (.int 2)) (dCons (dC (.int 3)) dNil))) dNil))) (dgName 6))
    (dSeq (dIfS (dTestB (dBinB (gOr (gSIn false) (gIn false)) (dVar 5) 1)) (dSeq (dAsg (dLst (dCons (dTup (dCons (dC (.int 1)) (dCons (dC (.int 2)) dNil))) (dCons (dTup (dCons (dC (.int 3)) (dCons (dC (.int 0)) dNil))) dNil))) (dgName 6))
    dNext) dNext)
    (dSeq (dFor (dISeq (dVar 6)) (dgTup 2 (dgCons (dgName 7) (dgCons (dgName 8) dgNil))) (dSeq (dAsg (dTup (dCons (dBin gAdd (dBin gMul (dC (.int 4)) (dVar 5)) (dVar 8)) (dCons (dBin gAdd (dBin gMul (dC (.int 4)) (dVar 5)) (dVar 7)) dNil))) (dgTup 2 (dgCons (dgSub 3 (dBin gAdd (dBin gMul (dC (.int 4)) (dVar 5)) (dVar 7))) (dgCons (dgSub 3 (dBin gAdd (dBin gMul (dC (.int 4)) (dVar 5)) (dVar 8))) dgNil))))
    dNext))
    dNext))))
    (dSeq (dFor (dIRng1 (dCons (dLenB 0) dNil)) (dgName 9) (dSeq (dAsg (dTup (dCons (dBin gAdd (dBin gMul (dC (.int 2)) (dVarB 0 gIx (dVar 9))) (dC (.int 1))) (dCons (dBin gMul (dC (.int 2)) (dVar 9)) dNil))) (dgTup 2 (dgCons (dgSub 4 (dBin gMul (dC (.int 2)) (dVar 9))) (dgCons (dgSub 4 (dBin gAdd (dBin gMul (dC (.int 2)) (dVarB 0 gIx (dVar 9))) (dC (.int 1)))) dgNil))))
    dNext))
    (dSeq (dPar 10 11 (dBin gMul (dLst (dCons (dC (.bl false)) dNil)) (dVar 2)) (dC (.int 0)))
    (dSeq (dFor (dIRng1 (dCons (dVar 2) dNil)) (dgName 12) (dSeq (dIfS (dNotT (dTru (dVarB 10 gIx (dVar 12)))) (dSeq (dPar 11 13 (dBin gAdd (dVar 11) (dC (.int 1))) (dVar 12))
    (dSeq (dFor (dIRng1 (dCons (dVar 2) dNil)) (dgName 14) (dSeq (dIfS (dTru (dVarB 10 gIx (dVar 13))) (dSeq dBreak
    dNext) dNext)
    (dSeq (dAsg (dTup (dCons (dC (.bl true)) (dCons (dC (.bl true)) dNil))) (dgTup 2 (dgCons (dgSub 10 (dVar 13)) (dgCons (dgSub 10 (dVarB 3 gIx (dVar 13))) dgNil))))
    (dSeq (dAsg (dVarB 4 gIx (dVarB 3 gIx (dVar 13))) (dgName 13))
    dNext))))
    dNext)) dNext)
    dNext))
    (dSeq (dRetV 11)
    dNext))))))))
def Φ__law_walked : DF := runF 2 15 F__law_walked
def F__law_pieces : DS := (dSeq (dAsg (dLstRg1 (dLenB 0)) (dgName 2))
    (dSeq (dFor (dISeq (dVar 1)) (dgName 3) (dSeq (dAsg (dBin gIx (dLC [6] (dIRng1 (dCons (dLenB 0) dNil)) (dgName 6) (dTestB (dBin (gIn false) (dBin gMul (dC (.int 2)) (dVar 3)) (dVarB 0 gIx (dVar 6)))) (dVar 6)) (dC (.int 0))) (dgName 4))
    (dSeq (dAsg (dBin gIx (dLC [6] (dIRng1 (dCons (dLenB 0) dNil)) (dgName 6) (dTestB (dBin (gIn false) (dBin gAdd (dBin gMul (dC (.int 2)) (dVar 3)) (dC (.int 1))) (dVarB 0 gIx (dVar 6)))) (dVar 6)) (dC (.int 0))) (dgName 5))
    (dSeq (dAsg (dTup (dCons (dVarB 2 gIx (dVar 4)) (dCons (dVarB 2 gIx (dVar 5)) dNil))) (dgTup 2 (dgCons (dgName 4) (dgCons (dgName 5) dgNil))))
    (dSeq (dAsg (dLC [7] (dISeq (dVar 2)) (dgName 7) dYes (dIf (dTestB (dBin (gEq false) (dVar 7) (dVar 5))) (dVar 4) (dVar 7))) (dgName 2))
    dNext)))))
    (dSeq (dRet (dLenSet (dCons (dVar 2) dNil)))
    dNext)))
def Φ__law_pieces : DF := runF 2 8 F__law_pieces
def F_about : DS := (dSeq (dDrop (dCall Φ_check_web (dCons (dVar 0) dNil)))
    (dSeq (dRet (dMake 0 Φ_Web_init (dCons (dCall Φ_about_of (dCons (dMeth "turn" 0 Φ_Web_turn (dVar 0) dNil) dNil)) dNil)))
    dNext))
def Φ_about : DF := runF 1 1 F_about
def F__law_right : DS := (dSeq (dAsg (dCallIO Φ__law_pick 0 (dCons (dLst (dCons (dC (.int 0)) (dCons (dC (.int 1)) (dCons (dC (.int 3)) (dCons (dC (.int 6)) (dCons (dC (.int 10)) (dCons (dC (.int 14)) dNil))))))) dNil)) (dgName 1))
    (dSeq (dAsg (dCallIO Φ__law_grown 0 (dCons (dVar 1) dNil)) (dgName 2))
    (dSeq (dAsg (dCall Φ__law_turn (dCons (dVar 2) dNil)) (dgName 3))
    (dSeq (dAsg (dTup (dCons (dMake 0 Φ_Web_init (dCons (dVar 3) dNil)) (dCons (dCallIO Φ__law_pick 0 (dCons (dLst (dCons (dC (.int 2)) (dCons (dC (.int 3)) (dCons (dC (.int 5)) dNil)))) dNil)) dNil))) (dgTup 2 (dgCons (dgName 4) (dgCons (dgName 5) dgNil))))
    (dSeq (dAsg (dCB gTuple (dCons (dLC [11] (dIRng1 (dCons (dVar 1) dNil)) (dgName 11) (dTestB (dBin (gEq false) (dCallIO Φ__law_draw 0 (dCons (dVar 5) dNil)) (dC (.int 0)))) (dVar 11)) dNil)) (dgName 6))
    (dSeq (dFor (dISeq (dLst (dCons (dTup dNil) (dCons (dTupRg1 (dVar 1)) (dCons (dVar 6) dNil))))) (dgName 7) (dSeq (dAsg (dCall Φ_circles (dCons (dVar 4) (dCons (dVar 7) dNil))) (dgName 8))
    (dSeq (dIfS (dTestB (dBin (gEq true) (dCB gRepr (dCons (dVar 8) dNil)) (dCB gRepr (dCons (dCall Φ__law_walked (dCons (dVar 3) (dCons (dVar 7) dNil))) dNil)))) (dSeq (dRet (dC (.bl false)))
    dNext) dNext)
    (dSeq (dIfS (dTestB (dBin (gEq true) (dVar 8) (dBin gSub2 (dBin gAdd (dBin gMul (dC (.int 2)) (dCall Φ__law_pieces (dCons (dVar 2) (dCons (dVar 7) dNil)))) (dLenB 7)) (dLenB 2)))) (dSeq (dRet (dC (.bl false)))
    dNext) dNext)
    dNext))))
    (dSeq (dAsg (dCB gTuple (dCons (dLC [11] (dIRng1 (dCons (dVar 1) dNil)) (dgName 11) (dTestB (dBinB (gOr (gSIn true) (gIn true)) (dVar 11) 6)) (dVar 11)) dNil)) (dgName 9))
    (dSeq (dIfS (dTestB (dBin (gEq true) (dCB gRepr (dCons (dCall Φ_circles (dCons (dCall Φ_about (dCons (dVar 4) dNil)) (dCons (dVar 9) dNil))) dNil)) (dCB gRepr (dCons (dCallRev Φ_circles (dCons (dVar 6) (dCons (dVar 4) dNil))) dNil)))) (dSeq (dRet (dC (.bl false)))
    dNext) dNext)
    (dSeq (dIfS (dTestB (dBin (gEq true) (dVar 9) (dTup dNil))) (dSeq (dAsg (dCB gTuple (dCons (dCB gSorted (dCons (dBin gAdd (dVar 6) (dTup (dCons (dCallIO Φ__law_pick 0 (dCons (dVar 9) dNil)) dNil))) dNil)) dNil)) (dgName 10))
    (dSeq (dIfS (dTestB (dBin (gEq true) (dCB gAbs (dCons (dBin gSub2 (dCall Φ_circles (dCons (dVar 4) (dCons (dVar 10) dNil))) (dCall Φ_circles (dCons (dVar 4) (dCons (dVar 6) dNil)))) dNil)) (dC (.int 1)))) (dSeq (dRet (dC (.bl false)))
    dNext) dNext)
    dNext)) dNext)
    (dSeq (dRet (dBin (gEq false) (dMeth "turn" 0 Φ_Web_turn (dVar 4) dNil) (dVar 3)))
    dNext))))))))))
def Φ__law_right : DF := runF 1 12 F__law_right
def F__law_pot : DS := (dSeq (dAsg (dBin gAdd (dBin gMul (dC (.int 1361)) (dVar 1)) (dC (.int 211))) (dgName 2))
    (dSeq (dIfS (dTestB (dBin gLt (dVar 1) (dLenB 0))) (dSeq (dAsg (dCB gAbs (dCons (dVarB 0 gIx (dVar 1)) dNil)) (dgName 2))
    dNext) dNext)
    (dSeq (dAsg (dBin gAdd (dBin gAdd (dBin gMul (dBin gMod (dCB gInt (dCons (dVar 2) dNil)) (dC (.int 2147483549))) (dC (.int 40063))) (dBin gMul (dC (.int 1361)) (dVar 1))) (dC (.int 83))) (dgName 3))
    (dSeq (dRet (dLst (dCons (dCB gMax2 (dCons (dC (.int 0)) (dCons (dBin gSub2 (dVar 2) (dBin gPow (dC (.int 10)) (dC (.int 18)))) dNil))) (dCons (dBin gAdd (dBin gMod (dCB gInt (dCons (dVar 3) dNil)) (dC (.int 2147483563))) (dC (.int 1))) dNil))))
    dNext))))
def Φ__law_pot : DF := runF 2 4 F__law_pot
def F_law : DS := (dSeq (dRet (dCallF Φ__law_right (dCall Φ__law_pot (dCons (dVar 0) (dCons (dC (.int 0)) dNil))) dNil))
    dNext)
def Φ_law : DF := runF 1 1 F_law
end K62

set_option Elab.async false
set_option linter.all false
set_option maxRecDepth 100000
set_option maxHeartbeats 4000000
namespace K12
open PySem PySem.Spec PyProof.Rows L2 DP
open K62 (Φ_is_integer F_is_integer Φ_is_count F_is_count Φ_is_permutation F_is_permutation Φ_read_from F_read_from Φ_is_one_piece F_is_one_piece Φ_cycles_of F_cycles_of Φ_about_of F_about_of Φ_is_web_turn F_is_web_turn Φ_Web_init F_Web_init Φ_check_web F_check_web Φ_Web_many F_Web_many Φ_Web_turn F_Web_turn Φ_about F_about)
def F__law_pot : DS := (dSeq (dAsg (dIf (dTestB (dBin gLt (dVar 1) (dLenB 0))) (dCB gAbs (dCons (dVarB 0 gIx (dVar 1)) dNil)) (dBin gAdd (dBin gAdd (dBin gMul (dC (.int 1319)) (dVar 1)) (dC (.int 641))) (dBin gMod (dCB gSum (dCons (dSl (dVar 0) dNoPart (dPart (dC (.int 1)))) dNil)) (dC (.int 1000003))))) (dgName 2))
    (dSeq (dAsg (dBin gAdd (dBin gMod (dCB gInt (dCons (dBin gAdd (dBin gAdd (dBin gMul (dBin gMod (dCB gInt (dCons (dVar 2) dNil)) (dC (.int 2147483549))) (dC (.int 40692))) (dBin gMul (dC (.int 3331)) (dVar 1))) (dC (.int 641))) dNil)) (dC (.int 2147483563))) (dC (.int 1))) (dgName 3))
    (dSeq (dRet (dLst (dCons (dCB gMax2 (dCons (dC (.int 0)) (dCons (dBin gSub2 (dVar 2) (dBin gPow (dC (.int 10)) (dC (.int 18)))) dNil))) (dCons (dVar 3) dNil))))
    dNext)))
def Φ__law_pot : DF := runF 2 4 F__law_pot
def F__law_draw : DS := (dSeq (dIfS (dTestB (dBin gGt (dVarB 0 gIx (dC (.int 0))) (dC (.int 0)))) (dSeq (dAsg (dCB gDivmod (dCons (dVarB 0 gIx (dC (.int 0))) (dCons (dVar 1) dNil))) (dgTup 2 (dgCons (dgSub 0 (dC (.int 0))) (dgCons (dgName 2) dgNil))))
    (dSeq (dRetV 2)
    dNext)) dNext)
    (dSeq (dAsg (dBin gMod (dCB gInt (dCons (dBin gAdd (dBin gMul (dVarB 0 gIx (dC (.int 1))) (dC (.int 40692))) (dC (.int 3331))) dNil)) (dC (.int 2147483587))) (dgSub 0 (dC (.int 1))))
    (dSeq (dRet (dBin gMod (dCB gInt (dCons (dBin gFdiv (dBin gMod (dCB gInt (dCons (dBin gMul (dVarB 0 gIx (dC (.int 1))) (dVarB 0 gIx (dC (.int 1)))) dNil)) (dC (.int 2147483563))) (dC (.int 29))) dNil)) (dVar 1)))
    dNext)))
def Φ__law_draw : DF := runF 2 3 F__law_draw
def F__law_turn : DS := (dSeq (dAsg (dBin gMul (dLst (dCons (dC (.int 0)) dNil)) (dCB gSum (dCons (dLC [2] (dISeq (dVar 0)) (dgName 2) dYes (dLenB 2)) dNil))) (dgName 1))
    (dSeq (dFor (dISeq (dVar 0)) (dgName 2) (dSeq (dFor (dIEnum (dCons (dVar 2) dNil)) (dgTup 2 (dgCons (dgName 3) (dgCons (dgName 4) dgNil))) (dSeq (dAsg (dVarB 2 gIx (dBin gSub2 (dBin gAdd (dVar 3) (dC (.int 1))) (dLenB 2))) (dgSub 1 (dVar 4)))
    dNext))
    dNext))
    (dSeq (dRetV 1)
    dNext)))
def Φ__law_turn : DF := runF 1 5 F__law_turn
def F__law_about : DS := (dSeq (dRet (dLC [1] (dIRng1 (dCons (dLenB 0) dNil)) (dgName 1) dYes (dVarB 0 gIx (dBin gXor (dVar 1) (dC (.int 1))))))
    dNext)
def Φ__law_about : DF := runF 1 2 F__law_about
def F__law_round : DS := (dSeq (dAsg (dCallIO Φ__law_draw 0 (dCons (dC (.int 6)) dNil)) (dgName 1))
    (dSeq (dAsg (dBin gAdd (dCallIO Φ__law_draw 0 (dCons (dBin gIx (dLst (dCons (dC (.int 13)) (dCons (dC (.int 13)) (dCons (dC (.int 14)) (dCons (dC (.int 5)) (dCons (dC (.int 2)) (dCons (dC (.int 6)) dNil))))))) (dVar 1)) dNil)) (dBin gIx (dLst (dCons (dC (.int 2)) (dCons (dC (.int 2)) (dCons (dC (.int 1)) (dCons (dC (.int 3)) (dCons (dC (.int 3)) (dCons (dC (.int 2)) dNil))))))) (dVar 1))) (dgName 2))
    (dSeq (dAsg (dTup (dCons (dLstRg1 (dVar 2)) (dCons (dBin gMul (dC (.int 2)) (dVar 2)) dNil))) (dgTup 2 (dgCons (dgName 3) (dgCons (dgName 4) dgNil))))
    (dSeq (dAsg (dLC [9] (dISeq (dVar 3)) (dgName 9) dYes (dBin gMul (dC (.int 2)) (dVar 9))) (dgName 5))
    (dSeq (dIfS (dTestB (dBin (gEq false) (dVar 1) (dC (.int 0)))) (dSeq (dAsg (dLC [9] (dISeq (dVar 3)) (dgName 9) dYes (dLst (dCons (dBin gSub2 (dBin gSub2 (dBin gAdd (dBin gMul (dC (.int 2)) (dVar 9)) (dVar 4)) (dC (.int 1))) (dBin gMul (dVar 4) (dCB gInt (dCons (dBin gGt (dVar 9) (dC (.int 0))) dNil)))) (dCons (dBin gMul (dC (.int 2)) (dVar 9)) dNil)))) (dgName 6))
    dNext) (dSeq (dIfS (dTestB (dBin (gEq false) (dVar 1) (dC (.int 1)))) (dSeq (dAsg (dLst (dCons (dVar 5) (dCons (dRevL (dLC [9] (dISeq (dVar 3)) (dgName 9) dYes (dBin gAdd (dBin gMul (dC (.int 2)) (dVar 9)) (dC (.int 1))))) dNil))) (dgName 6))
    dNext) (dSeq (dIfS (dTestB (dBin (gEq false) (dVar 1) (dC (.int 2)))) (dSeq (dAsg (dBin gAdd (dLst (dCons (dVar 5) dNil)) (dLC [9] (dISeq (dVar 3)) (dgName 9) dYes (dLst (dCons (dBin gAdd (dBin gMul (dC (.int 2)) (dVar 9)) (dC (.int 1))) dNil)))) (dgName 6))
    dNext) (dSeq (dIfS (dTestB (dBin gLt (dVar 1) (dC (.int 5)))) (dSeq (dAsg (dLC [9] (dISeq (dVar 3)) (dgName 9) dYes (dLst (dCons (dBin gAdd (dBin gMul (dC (.int 2)) (dVar 9)) (dC (.int 1))) (dCons (dBin gAdd (dBin gSub2 (dBin gAdd (dBin gMul (dC (.int 2)) (dVar 9)) (dVar 4)) (dC (.int 1))) (dBin gMul (dVar 4) (dCB gInt (dCons (dBin (gEq false) (dVar 9) (dC (.int 0))) dNil)))) (dCons (dBin gAdd (dBin gMul (dC (.int 2)) (dVar 9)) (dVar 4)) dNil))))) (dgName 7))
    (dSeq (dAsg (dBin gAdd (dLst (dCons (dVar 5) dNil)) (dVar 7)) (dgName 6))
    (dSeq (dIfS (dTestB (dBin (gEq false) (dVar 1) (dC (.int 4)))) (dSeq (dAsg (dLst (dCons (dVar 5) (dCons (dRevL (dLC [9] (dISeq (dVar 3)) (dgName 9) dYes (dBin gAdd (dBin gAdd (dBin gMul (dC (.int 2)) (dVar 9)) (dBin gMul (dC (.int 2)) (dVar 4))) (dC (.int 1))))) dNil))) (dgName 6))
    (dSeq (dAsg (dBin gAdd (dVar 6) (dLC [9, 10] (dIEnum (dCons (dVar 7) dNil)) (dgTup 2 (dgNames [9, 10])) dYes (dLst (dCons (dVarB 10 gIx (dC (.int 0))) (dCons (dVarB 10 gIx (dC (.int 1))) (dCons (dBin gAdd (dBin gMul (dC (.int 2)) (dVar 9)) (dBin gMul (dC (.int 2)) (dVar 4))) (dCons (dVarB 10 gIx (dC (.int 2))) dNil))))))) (dgName 6))
    dNext)) dNext)
    dNext))) (dSeq (dAsg (dLC [9] (dISeq (dVar 3)) (dgName 9) dYes (dLst (dCons (dBin gAdd (dBin gSub2 (dBin gMul (dC (.int 4)) (dVar 9)) (dC (.int 3))) (dBin gMul (dBin gMul (dC (.int 2)) (dVar 4)) (dCB gInt (dCons (dBin (gEq false) (dVar 9) (dC (.int 0))) dNil)))) (dCons (dBin gAdd (dBin gSub2 (dBin gMul (dC (.int 4)) (dVar 9)) (dC (.int 1))) (dBin gMul (dBin gMul (dC (.int 2)) (dVar 4)) (dCB gInt (dCons (dBin (gEq false) (dVar 9) (dC (.int 0))) dNil)))) (dCons (dBin gAdd (dBin gMul (dC (.int 4)) (dVar 9)) (dC (.int 2))) (dCons (dBin gMul (dC (.int 4)) (dVar 9)) dNil)))))) (dgName 6))
    dNext))
    dNext))
    dNext))
    dNext))
    (dSeq (dAsg (dCall Φ__law_turn (dCons (dVar 6) dNil)) (dgName 8))
    (dSeq (dRet (dIf (dTestB (dBin (gEq false) (dCallIO Φ__law_draw 0 (dCons (dC (.int 2)) dNil)) (dC (.int 0)))) (dVar 8) (dCall Φ__law_about (dCons (dVar 8) dNil))))
    dNext)))))))
def Φ__law_round : DF := runF 1 11 F__law_round
def F__law_hung : DS := (dSeq (dAsg (dLenB 0) (dgName 2))
    (dSeq (dIfS (dTestB (dBin (gEq false) (dVar 2) (dC (.int 0)))) (dSeq (dRet (dLst (dCons (dC (.int 0)) (dCons (dC (.int 1)) dNil))))
    dNext) dNext)
    (dSeq (dAsg (dBin gAdd (dVar 0) (dLst (dCons (dVarB 0 gIx (dVar 1)) (dCons (dBin gAdd (dVar 2) (dC (.int 1))) dNil)))) (dgName 3))
    (dSeq (dAsg (dVar 2) (dgSub 3 (dVar 1)))
    (dSeq (dRetV 3)
    dNext)))))
def Φ__law_hung : DF := runF 2 4 F__law_hung
def F__law_stretched : DS := (dSeq (dPar 2 3 (dLenB 0) (dBin gAdd (dBin gMul (dC (.int 2)) (dVar 1)) (dC (.int 1))))
    (dSeq (dAsg (dBin gAdd (dVar 0) (dLst (dCons (dVar 3) (dCons (dVarB 0 gIx (dVar 3)) dNil)))) (dgName 4))
    (dSeq (dIfS (dTestB (dBin (gEq false) (dVarB 0 gIx (dVar 3)) (dVar 3))) (dSeq (dAsg (dBin gAdd (dVar 2) (dC (.int 1))) (dgSub 4 (dBin gAdd (dVar 2) (dC (.int 1)))))
    dNext) (dSeq (dAsg (dBin gAdd (dVar 2) (dC (.int 1))) (dgSub 4 (dIndexB 0 (dVar 3))))
    dNext))
    (dSeq (dAsg (dVar 2) (dgSub 4 (dVar 3)))
    (dSeq (dRetV 4)
    dNext)))))
def Φ__law_stretched : DF := runF 2 5 F__law_stretched
def F__law_laid : DS := (dSeq (dPar 3 4 (dLenB 0) (dVar 1))
    (dSeq (dIfS (dTestB (dBin (gEq false) (dVar 3) (dC (.int 0)))) (dSeq (dRet (dLst (dCons (dC (.int 1)) (dCons (dC (.int 0)) dNil))))
    dNext) dNext)
    (dSeq (dFor (dIRng1 (dCons (dVar 2) dNil)) (dgName 5) (dSeq (dAsg (dBin gXor (dVarB 0 gIx (dVar 4)) (dC (.int 1))) (dgName 4))
    dNext))
    (dSeq (dAsg (dBin gAdd (dVar 0) (dLst (dCons (dVarB 0 gIx (dVar 1)) (dCons (dVarB 0 gIx (dVar 4)) dNil)))) (dgName 6))
    (dSeq (dIfS (dTestB (dBin (gEq false) (dVar 4) (dVar 1))) (dSeq (dAsg (dBin gAdd (dVar 3) (dC (.int 1))) (dgSub 6 (dVar 3)))
    (dSeq (dAsg (dVar 3) (dgSub 6 (dVar 1)))
    dNext)) (dSeq (dAsg (dTup (dCons (dVar 3) (dCons (dBin gAdd (dVar 3) (dC (.int 1))) dNil))) (dgTup 2 (dgCons (dgSub 6 (dVar 1)) (dgCons (dgSub 6 (dVar 4)) dgNil))))
    dNext))
    (dSeq (dRetV 6)
    dNext))))))
def Φ__law_laid : DF := runF 3 7 F__law_laid
def F__law_any : DS := (dSeq (dAsg (dIf (dTestB (dBin gLt (dVar 2) (dC (.int 2)))) (dLst dNil) (dLst (dCons (dC (.int 2)) (dCons (dC (.int 3)) (dCons (dC (.int 0)) (dCons (dC (.int 1)) dNil)))))) (dgName 3))
    (dSeq (dFor (dIRng1 (dCons (dBin gSub2 (dVar 1) (dBin gFdiv (dLenB 3) (dC (.int 2)))) dNil)) (dgName 4) (dSeq (dPar 5 6 (dLenB 3) (dCallIO Φ__law_draw 0 (dCons (dC (.int 4)) dNil)))
    (dSeq (dAsg (dCallIO Φ__law_draw 0 (dCons (dCB gMax2 (dCons (dC (.int 1)) (dCons (dVar 5) dNil))) dNil)) (dgName 7))
    (dSeq (dIfS (dAndT (dTestB (dBin (gEq false) (dVar 6) (dC (.int 0)))) (dTestB (dBin gLt (dVar 2) (dC (.int 2))))) (dSeq (dAsg (dCall Φ__law_hung (dCons (dVar 3) (dCons (dVar 7) dNil))) (dgName 3))
    dNext) (dSeq (dIfS (dAndT (dTestB (dBin (gEq false) (dVar 6) (dC (.int 1)))) (dTestB (dBin gGt (dVar 5) (dC (.int 0))))) (dSeq (dAsg (dCall Φ__law_stretched (dCons (dVar 3) (dCons (dBin gFdiv (dVar 7) (dC (.int 2))) dNil))) (dgName 3))
    dNext) (dSeq (dAsg (dCall Φ__law_laid (dCons (dVar 3) (dCons (dVar 7) (dCons (dBin gAdd (dCB gMin2 (dCons (dVar 2) (dCons (dC (.int 1)) dNil))) (dCallIO Φ__law_draw 0 (dCons (dC (.int 4)) dNil))) dNil)))) (dgName 3))
    dNext))
    dNext))
    dNext))))
    (dSeq (dRetV 3)
    dNext)))
def Φ__law_any : DF := runF 3 8 F__law_any
def F__law_two : DS := (dSeq (dRet (dMake 0 Φ_Web_init (dCons (dCB gTuple (dCons (dVar 0) dNil)) dNil)))
    dNext)
def Φ__law_two : DF := runF 1 1 F__law_two
def F__law_read : DS := (dSeq (dPar 2 3 (dDisp2 (dVar 1) (dC (.int 0)) (dBin gXor (dVar 1) (dC (.int 1))) (dC (.int 1))) (dLst (dCons (dVar 1) (dCons (dBin gXor (dVar 1) (dC (.int 1))) dNil))))
    (dSeq (dFor (dIRng1 (dCons (dLenB 0) dNil)) (dgName 4) (dSeq (dAsg (dVarB 0 gIx (dVarB 3 gIx (dVar 4))) (dgName 5))
    (dSeq (dIfS (dTestB (dInD true (dVar 5) 2)) (dSeq (dAsg (dTup (dCons (dLenB 3) (dCons (dBin gAdd (dLenB 3) (dC (.int 1))) dNil))) (dgTup 2 (dgCons (dgSub 2 (dVar 5)) (dgCons (dgSub 2 (dBin gXor (dVar 5) (dC (.int 1)))) dgNil))))
    (dSeq (dExt 3 (dLst (dCons (dVar 5) (dCons (dBin gXor (dVar 5) (dC (.int 1))) dNil))))
    dNext)) dNext)
    dNext)))
    (dSeq (dRet (dCB gTuple (dCons (dLC [6] (dISeq (dVar 3)) (dgName 6) dYes (dGetB 2 (dVarB 0 gIx (dVar 6)))) dNil)))
    dNext)))
def Φ__law_read : DF := runF 2 7 F__law_read
def F__law_name : DS := (dSeq (dRet (dCB gMinB (dCons (dBin gAdd (dLC [1] (dIRng1 (dCons (dLenB 0) dNil)) (dgName 1) dYes (dCall Φ__law_read (dCons (dVar 0) (dCons (dVar 1) dNil)))) (dBin gMul (dLst (dCons (dTup dNil) dNil)) (dCB gInt (dCons (dBin (gEq false) (dVar 0) (dLst dNil)) dNil)))) dNil)))
    dNext)
def Φ__law_name : DF := runF 1 2 F__law_name
def FR__law_same (Φ__law_same : DF) : DS := (dSeq (dIfS (dTestB (dBin (gIsN false) (dVar 1) (dC .non))) (dSeq (dRet (dBin (gIsN false) (dVar 0) (dC .non)))
    dNext) dNext)
    (dSeq (dIfS (dTestB (dBin (gIsB false) (dVar 1) (dC (.bl true)))) (dSeq (dRet (dBin (gIsB false) (dVar 0) (dC (.bl true))))
    dNext) dNext)
    (dSeq (dIfS (dTestB (dBin (gIsB false) (dVar 1) (dC (.bl false)))) (dSeq (dRet (dBin (gIsB false) (dVar 0) (dC (.bl false))))
    dNext) dNext)
    (dSeq (dIfS (dTru (dIsi (isiB "int") (dVar 1))) (dSeq (dRet (dAndV (dIsi (isiB "int") (dVar 0)) (dAndV (dNotV (dIsi (isiB "bool") (dVar 0))) (dBin (gEq false) (dVar 0) (dVar 1)))))
    dNext) dNext)
    (dSeq (dIfS (dTru (dIsi (isiB "str") (dVar 1))) (dSeq (dRet (dAndV (dIsi (isiB "str") (dVar 0)) (dBin (gEq false) (dVar 0) (dVar 1))))
    dNext) dNext)
    (dSeq (dIfS (dOrT (dAndT (dTru (dIsi (isiB "list") (dVar 1))) (dNotT (dTru (dIsi (isiB "list") (dVar 0))))) (dAndT (dTru (dIsi (isiB "tuple") (dVar 1))) (dNotT (dTru (dIsi (isiB "tuple") (dVar 0)))))) (dSeq (dRet (dC (.bl false)))
    dNext) dNext)
    (dSeq (dRet (dAndV (dBin (gEq false) (dLenB 0) (dLenB 1)) (dCB gAll (dCons (dLC [2, 3] (dIZip (dCons (dVar 0) (dCons (dVar 1) dNil))) (dgTup 2 (dgNames [2, 3])) dYes (dCall Φ__law_same (dCons (dVar 2) (dCons (dVar 3) dNil)))) dNil))))
    dNext)))))))
def Φn__law_same : Nat → DF
  | 0 => fun _ => none
  | n + 1 => runF 2 4 (FR__law_same (Φn__law_same n))
def Φ__law_same : DF := Φn__law_same 6
def F_check_dart : DS := (dSeq (dIfS (dOrT (dNotT (dTru (dCall Φ_is_count (dCons (dVar 1) dNil)))) (dTestB (dBin gGe (dVar 1) (dBin gMul (dC (.int 2)) (dProp 0 Φ_Web_many (dVar 0)))))) dNever dNext)
    dNext)
def Φ_check_dart : DF := runF 2 2 F_check_dart
def F_turn_from : DS := (dSeq (dDrop (dCall Φ_check_web (dCons (dVar 0) dNil)))
    (dSeq (dDrop (dCall Φ_check_dart (dCons (dVar 0) (dCons (dVar 1) dNil))))
    (dSeq (dRet (dBin gIx (dCall Φ_read_from (dCons (dMeth "turn" 0 Φ_Web_turn (dVar 0) dNil) (dCons (dVar 1) dNil))) (dC (.int 0))))
    dNext)))
def Φ_turn_from : DF := runF 2 2 F_turn_from
def F_name : DS := (dSeq (dDrop (dCall Φ_check_web (dCons (dVar 0) dNil)))
    (dSeq (dAsg (dMeth "turn" 0 Φ_Web_turn (dVar 0) dNil) (dgName 1))
    (dSeq (dIfS (dTestB (dBin (gEq false) (dVar 1) (dTup dNil))) (dSeq (dRet (dTup dNil))
    dNext) dNext)
    (dSeq (dRet (dCB gMinB (dCons (dLC [2] (dIRng1 (dCons (dLenB 1) dNil)) (dgName 2) dYes (dBin gIx (dCall Φ_read_from (dCons (dVar 1) (dCons (dVar 2) dNil))) (dC (.int 0)))) dNil)))
    dNext))))
def Φ_name : DF := runF 1 3 F_name
def F__law_called : DS := (dSeq (dAsg (dLst dNil) (dgName 2))
    (dSeq (dFor (dIRng1 (dCons (dBin gFdiv (dLenB 1) (dC (.int 2))) dNil)) (dgName 3) (dSeq (dIns 2 (dCons (dCallIO Φ__law_draw 0 (dCons (dBin gAdd (dVar 3) (dC (.int 1))) dNil)) (dCons (dBin gAdd (dBin gMul (dC (.int 2)) (dVar 3)) (dCallIO Φ__law_draw 0 (dCons (dC (.int 2)) dNil))) dNil)))
    dNext))
    (dSeq (dAsg (dBin gMul (dLst (dCons (dC (.int 0)) dNil)) (dLenB 1)) (dgName 4))
    (dSeq (dFor (dIEnum (dCons (dVar 2) dNil)) (dgTup 2 (dgCons (dgName 5) (dgCons (dgName 6) dgNil))) (dSeq (dAsg (dTup (dCons (dBin gMul (dC (.int 2)) (dVar 5)) (dCons (dBin gAdd (dBin gMul (dC (.int 2)) (dVar 5)) (dC (.int 1))) dNil))) (dgTup 2 (dgCons (dgSub 4 (dVar 6)) (dgCons (dgSub 4 (dBin gXor (dVar 6) (dC (.int 1)))) dgNil))))
    dNext))
    (dSeq (dAsg (dBin gMul (dLst (dCons (dC (.int 0)) dNil)) (dLenB 1)) (dgName 7))
    (dSeq (dFor (dIEnum (dCons (dVar 1) dNil)) (dgTup 2 (dgCons (dgName 6) (dgCons (dgName 8) dgNil))) (dSeq (dAsg (dVarB 4 gIx (dVar 8)) (dgSub 7 (dVarB 4 gIx (dVar 6))))
    dNext))
    (dSeq (dRetV 7)
    dNext)))))))
def Φ__law_called : DF := runF 2 9 F__law_called
def F__law_back : DS := (dSeq (dAsg (dBin gMul (dLst (dCons (dC (.int 0)) dNil)) (dLenB 0)) (dgName 1))
    (dSeq (dFor (dIEnum (dCons (dVar 0) dNil)) (dgTup 2 (dgCons (dgName 2) (dgCons (dgName 3) dgNil))) (dSeq (dAsg (dVar 2) (dgSub 1 (dVar 3)))
    dNext))
    (dSeq (dRetV 1)
    dNext)))
def Φ__law_back : DF := runF 1 4 F__law_back
def F_back_of : DS := (dSeq (dAsg (dBin gMul (dLst (dCons (dC (.int 0)) dNil)) (dLenB 0)) (dgName 1))
    (dSeq (dFor (dIEnum (dCons (dVar 0) dNil)) (dgTup 2 (dgCons (dgName 2) (dgCons (dgName 3) dgNil))) (dSeq (dAsg (dVar 2) (dgSub 1 (dVar 3)))
    dNext))
    (dSeq (dRet (dCB gTuple (dCons (dVar 1) dNil)))
    dNext)))
def Φ_back_of : DF := runF 1 4 F_back_of
def F_behind : DS := (dSeq (dDrop (dCall Φ_check_web (dCons (dVar 0) dNil)))
    (dSeq (dRet (dMake 0 Φ_Web_init (dCons (dCall Φ_back_of (dCons (dMeth "turn" 0 Φ_Web_turn (dVar 0) dNil) dNil)) dNil)))
    dNext))
def Φ_behind : DF := runF 1 1 F_behind
def F_are_alike : DS := (dSeq (dDrop (dCall Φ_check_web (dCons (dVar 0) dNil)))
    (dSeq (dDrop (dCall Φ_check_web (dCons (dVar 1) dNil)))
    (dSeq (dRet (dAndV (dBin (gEq false) (dProp 0 Φ_Web_many (dVar 0)) (dProp 0 Φ_Web_many (dVar 1))) (dBin (gEq false) (dCall Φ_name (dCons (dVar 0) dNil)) (dCall Φ_name (dCons (dVar 1) dNil)))))
    dNext)))
def Φ_are_alike : DF := runF 2 2 F_are_alike
def F_law : DS := (dSeq (dAsg (dCall Φ__law_pot (dCons (dVar 0) (dCons (dC (.int 0)) dNil))) (dgName 1))
    (dSeq (dAsg (dIf (dTestB (dBin (gEq false) (dCallIO Φ__law_draw 1 (dCons (dC (.int 4)) dNil)) (dC (.int 0)))) (dCallIO Φ__law_round 1 dNil) (dCallIO Φ__law_any 1 (dCons (dCallIO Φ__law_draw 1 (dCons (dC (.int 15)) dNil)) (dCons (dCallIO Φ__law_draw 1 (dCons (dC (.int 3)) dNil)) dNil)))) (dgName 2))
    (dSeq (dPar3 3 4 5 (dCons (dCall Φ__law_two (dCons (dVar 2) dNil)) (dCons (dLenB 2) (dCons (dCall Φ__law_name (dCons (dVar 2) dNil)) dNil))))
    (dSeq (dFor (dIRng1 (dCons (dCB gMin2 (dCons (dVar 4) (dCons (dC (.int 5)) dNil))) dNil)) (dgName 6) (dSeq (dAsg (dCallIO Φ__law_draw 1 (dCons (dVar 4) dNil)) (dgName 7))
    (dSeq (dIfS (dNotT (dTru (dCall Φ__law_same (dCons (dIf (dTestB (dBin gGt (dVar 6) (dC (.int 0)))) (dCall Φ_turn_from (dCons (dVar 3) (dCons (dVar 7) dNil))) (dCall Φ_turn_from (dCons (dVar 3) (dCons (dVar 7) dNil)))) (dCons (dCall Φ__law_read (dCons (dVar 2) (dCons (dVar 7) dNil))) dNil))))) (dSeq (dRet (dC (.bl false)))
    dNext) dNext)
    dNext)))
    (dSeq (dIfS (dOrT (dNotT (dTru (dCall Φ__law_same (dCons (dCall Φ_name (dCons (dVar 3) dNil)) (dCons (dVar 5) dNil))))) (dNotT (dTru (dCall Φ__law_same (dCons (dCall Φ_name (dCons (dCall Φ__law_two (dCons (dCallIO Φ__law_called 1 (dCons (dVar 2) dNil)) dNil)) dNil)) (dCons (dVar 5) dNil)))))) (dSeq (dRet (dC (.bl false)))
    dNext) dNext)
    (dSeq (dIfS (dOrT (dNotT (dTru (dCall Φ__law_same (dCons (dCall Φ_name (dCons (dMake 0 Φ_Web_init (dCons (dVar 5) dNil)) dNil)) (dCons (dVar 5) dNil))))) (dAndT (dTestB (dBin gLt (dVar 4) (dC (.int 22)))) (dNotT (dTru (dCall Φ__law_same (dCons (dCall Φ_name (dCons (dVar 3) dNil)) (dCons (dVar 5) dNil))))))) (dSeq (dRet (dC (.bl false)))
    dNext) dNext)
    (dSeq (dPar 8 9 (dCall Φ__law_back (dCons (dVar 2) dNil)) (dCall Φ__law_about (dCons (dVar 2) dNil)))
    (dSeq (dIfS (dNotT (dTru (dCall Φ__law_same (dCons (dLst (dCons (dMeth "turn" 0 Φ_Web_turn (dFz (dCall Φ_behind (dCons (dVar 3) dNil))) dNil) (dCons (dMeth "turn" 0 Φ_Web_turn (dFz (dCall Φ_about (dCons (dVar 3) dNil))) dNil) dNil))) (dCons (dLst (dCons (dCB gTuple (dCons (dVar 8) dNil)) (dCons (dCB gTuple (dCons (dVar 9) dNil)) dNil))) dNil))))) (dSeq (dRet (dC (.bl false)))
    dNext) dNext)
    (dSeq (dIfS (dNotT (dTru (dCall Φ__law_same (dCons (dLst (dCons (dMeth "turn" 0 Φ_Web_turn (dFz (dCall Φ_about (dCons (dCall Φ_behind (dCons (dVar 3) dNil)) dNil))) dNil) (dCons (dMeth "turn" 0 Φ_Web_turn (dFz (dCall Φ_behind (dCons (dCall Φ_about (dCons (dVar 3) dNil)) dNil))) dNil) dNil))) (dCons (dLst (dCons (dCB gTuple (dCons (dCall Φ__law_about (dCons (dVar 8) dNil)) dNil)) (dCons (dCB gTuple (dCons (dCall Φ__law_back (dCons (dVar 9) dNil)) dNil)) dNil))) dNil))))) (dSeq (dRet (dC (.bl false)))
    dNext) dNext)
    (dSeq (dAsg (dCall Φ__law_pot (dCons (dVar 0) (dCons (dC (.int 1)) dNil))) (dgName 1))
    (dSeq (dAsg (dCallIO Φ__law_draw 1 (dCons (dC (.int 4)) dNil)) (dgName 10))
    (dSeq (dAsg (dBin gIx (dLst (dCons (dVar 8) (dCons (dVar 9) (dCons (dCall Φ__law_about (dCons (dVar 8) dNil)) (dCons (dIf (dTestB (dBin gLt (dVar 4) (dC (.int 28)))) (dCall Φ__law_laid (dCons (dVar 2) (dCons (dC (.int 0)) (dCons (dCallIO Φ__law_draw 1 (dCons (dC (.int 3)) dNil)) dNil)))) (dVar 2)) dNil))))) (dVar 10)) (dgName 11))
    (dSeq (dAsg (dCall Φ__law_name (dCons (dVar 11) dNil)) (dgName 12))
    (dSeq (dAsg (dBin gIx (dLst (dCons (dCall Φ_behind (dCons (dVar 3) dNil)) (dCons (dCall Φ_about (dCons (dVar 3) dNil)) (dCons (dCall Φ_about (dCons (dCall Φ_behind (dCons (dVar 3) dNil)) dNil)) (dCons (dCall Φ__law_two (dCons (dVar 11) dNil)) dNil))))) (dVar 10)) (dgName 13))
    (dSeq (dIfS (dOrT (dNotT (dTru (dCall Φ__law_same (dCons (dCall Φ_name (dCons (dVar 13) dNil)) (dCons (dVar 12) dNil))))) (dNotT (dTru (dCall Φ__law_same (dCons (dMeth "turn" 0 Φ_Web_turn (dVar 3) dNil) (dCons (dCB gTuple (dCons (dVar 2) dNil)) dNil)))))) (dSeq (dRet (dC (.bl false)))
    dNext) dNext)
    (dSeq (dIfS (dAndT (dTestB (dBin gLt (dVar 4) (dC (.int 22)))) (dNotT (dTru (dCall Φ__law_same (dCons (dCall Φ_are_alike (dCons (dVar 3) (dCons (dVar 13) dNil))) (dCons (dBin (gEq false) (dVar 12) (dVar 5)) dNil)))))) (dSeq (dRet (dC (.bl false)))
    dNext) dNext)
    (dSeq (dRet (dCall Φ__law_same (dCons (dCall Φ_are_alike (dCons (dVar 13) (dCons (dVar 3) dNil))) (dCons (dBin (gEq false) (dVar 12) (dVar 5)) dNil))))
    dNext)))))))))))))))))
def Φ_law : DF := runF 1 14 F_law
end K12

set_option Elab.async false
set_option linter.all false
set_option maxRecDepth 100000
set_option maxHeartbeats 4000000
namespace K12
open PySem PySem.Spec PyProof.Rows L2 DP
open K62 (Φ_is_integer F_is_integer Φ_is_count F_is_count Φ_is_permutation F_is_permutation Φ_read_from F_read_from Φ_is_one_piece F_is_one_piece Φ_cycles_of F_cycles_of Φ_about_of F_about_of Φ_is_web_turn F_is_web_turn Φ_Web_init F_Web_init Φ_check_web F_check_web Φ_Web_many F_Web_many Φ_Web_turn F_Web_turn Φ_about F_about)
def top (i : Nat) : Stmt := PySem.Challenge.pw_neverfewer_k12_whole_names.main.body.getD i (.Pass ⟨0, 0, 0, 0⟩)
abbrev st__law_pot : Stmt := top 28
abbrev st__law_draw : Stmt := top 29
abbrev st__law_turn : Stmt := top 34
abbrev st__law_about : Stmt := top 36
abbrev st__law_round : Stmt := top 37
abbrev st__law_hung : Stmt := top 30
abbrev st__law_stretched : Stmt := top 32
abbrev st__law_laid : Stmt := top 31
abbrev st__law_any : Stmt := top 33
abbrev st_is_integer : Stmt := top 2
abbrev st_is_count : Stmt := top 3
abbrev st_is_permutation : Stmt := top 4
abbrev st_read_from : Stmt := top 8
abbrev st_is_one_piece : Stmt := top 9
abbrev st_cycles_of : Stmt := top 5
abbrev st_about_of : Stmt := top 7
abbrev st_is_web_turn : Stmt := top 10
abbrev st_Web_init : Stmt := inClass (top 17) 0
abbrev st__law_two : Stmt := top 42
abbrev st__law_read : Stmt := top 40
abbrev st__law_name : Stmt := top 41
abbrev st__law_same : Stmt := top 39
abbrev st_check_web : Stmt := top 19
abbrev st_Web_many : Stmt := inClass (top 17) 2
abbrev st_check_dart : Stmt := top 20
abbrev st_Web_turn : Stmt := inClass (top 17) 3
abbrev st_turn_from : Stmt := top 24
abbrev st_name : Stmt := top 25
abbrev st__law_called : Stmt := top 38
abbrev st__law_back : Stmt := top 35
abbrev st_back_of : Stmt := top 6
abbrev st_behind : Stmt := top 21
abbrev st_about : Stmt := top 22
abbrev st_are_alike : Stmt := top 26
abbrev st_law : Stmt := top 43
structure Tx (G : Gd) (mg : Str → Option Value) : Prop where
  abs : mg "abs" = none
  len : mg "len" = none
  sum : mg "sum" = none
  int : mg "int" = none
  max : mg "max" = none
  divmod : mg "divmod" = none
  enumerate : mg "enumerate" = none
  range : mg "range" = none
  list : mg "list" = none
  min : mg "min" = none
  isinstance : mg "isinstance" = none
  bool : mg "bool" = none
  all : mg "all" = none
  sorted : mg "sorted" = none
  tuple : mg "tuple" = none
  set : mg "set" = none
  str : mg "str" = none
  zip : mg "zip" = none
  cWeb : ClAt G.K mg G "Web" 0
  iWeb : InsT G.K (G.cl 0)
  nWeb_turn : NoAttr G.K (G.cl 0) "_turn"
  nWeb_places : NoAttr G.K (G.cl 0) "_places"
  nWeb_faces : NoAttr G.K (G.cl 0) "_faces"
section
variable {P : Program} {G : Gd} {mg : Str → Option Value} {base : Heap}
theorem sc__law_pot : FnScope ["script", "k", "cell", "mixed"] ["script", "k"] (defScope st__law_pot) := ⟨rfl, rfl, rfl, by decide +kernel, rfl, by decide +kernel, by decide +kernel⟩
theorem ok__law_pot (T : Tx G mg) {f : Addr} {fd : FuncData} (F : Fun G.K "_law_pot" "_law_pot" st__law_pot f fd) :
    FnOk P G.w G.K mg base CX0 1 f fd ["script", "k"] (spD G Φ__law_pot) :=
  fun_ok F sc__law_pot (fun cdv A outer s H E io hr => by
    have e := en_of (P := P) (G := G) (mg := mg) (base := base) (f := f) (cdv := cdv) (outer := outer) (H := H) (E := E) (io := io) sc__law_pot hr
    exact (jss_cons (js_set e 2 (je_if (jt_cmp (oc_lt e) (je_var 1) (je_lenB e 0 T.len)) (je_cb (cf_abs e) T.abs bt_abs (ja_cons (je_ixB e 0 (je_var 1)) ja_nil)) (je_op (ob_add e) (je_op (ob_add e) (je_op (ob_mul e) je_int (je_var 1)) je_int) (je_op (ob_mod e) (je_cb (cf_sum e) T.sum bt_sum (ja_cons (je_sl e (je_var 0) jo_none (jo_some je_int)) ja_nil)) je_int))))
    (jss_cons (js_set e 3 (je_op (ob_add e) (je_op (ob_mod e) (je_ct (cf_int e) T.int bt_int (ja_cons (je_op (ob_add e) (je_op (ob_add e) (je_op (ob_mul e) (je_op (ob_mod e) (je_ct (cf_int e) T.int bt_int (ja_cons (je_var 2) ja_nil)) je_int) je_int) (je_op (ob_mul e) je_int (je_var 1))) je_int) ja_nil)) je_int) je_int))
    (jss_cons (js_ret (je_lst (ja_cons (je_cb (cf_max2 e) T.max bt_max (ja_cons je_int (ja_cons (je_op (ob_sub e) (je_var 2) (je_op (ob_pow e) je_int je_int)) ja_nil))) (ja_cons (je_var 3) ja_nil))))
    jss_nil)))) (fun _ _ _ h => h)
theorem sc__law_draw : FnScope ["pot", "many", "digit"] ["pot", "many"] (defScope st__law_draw) := ⟨rfl, rfl, rfl, by decide +kernel, rfl, by decide +kernel, by decide +kernel⟩
theorem ok__law_draw (T : Tx G mg) {f : Addr} {fd : FuncData} (F : Fun G.K "_law_draw" "_law_draw" st__law_draw f fd) :
    FnOk P G.w G.K mg base CX0 1 f fd ["pot", "many"] (spD G Φ__law_draw) :=
  fun_ok F sc__law_draw (fun cdv A outer s H E io hr => by
    have e := en_of (P := P) (G := G) (mg := mg) (base := base) (f := f) (cdv := cdv) (outer := outer) (H := H) (E := E) (io := io) sc__law_draw hr
    exact (jss_cons (js_if (jt_cmp (oc_gt e) (je_ixB e 0 je_int) je_int) (jss_cons (js_asg (je_cb (cf_divmod e) T.divmod bt_divmod (ja_cons (je_ixB e 0 je_int) (ja_cons (je_var 1) ja_nil))) (jg_tup e (jgs_cons (jg_sub e 0 je_int) (jgs_cons (jg_name e 2) jgs_nil))))
    (jss_cons (js_retV 2)
    jss_nil)) jss_nil)
    (jss_cons (js_asg (je_op (ob_mod e) (je_ct (cf_int e) T.int bt_int (ja_cons (je_op (ob_add e) (je_op (ob_mul e) (je_ixB e 0 je_int) je_int) je_int) ja_nil)) je_int) (jg_sub e 0 je_int))
    (jss_cons (js_ret (je_op (ob_mod e) (je_ct (cf_int e) T.int bt_int (ja_cons (je_op (ob_fdiv e) (je_op (ob_mod e) (je_ct (cf_int e) T.int bt_int (ja_cons (je_op (ob_mul e) (je_ixB e 0 je_int) (je_ixB e 0 je_int)) ja_nil)) je_int) je_int) ja_nil)) (je_var 1)))
    jss_nil)))) (fun _ _ _ h => h)
theorem sc__law_turn : FnScope ["places", "turn", "place", "at", "dart"] ["places"] (defScope st__law_turn) := ⟨rfl, rfl, rfl, by decide +kernel, rfl, by decide +kernel, by decide +kernel⟩
theorem ok__law_turn (T : Tx G mg) {f : Addr} {fd : FuncData} (F : Fun G.K "_law_turn" "_law_turn" st__law_turn f fd) :
    FnOk P G.w G.K mg base CX0 1 f fd ["places"] (spD G Φ__law_turn) :=
  fun_ok F sc__law_turn (fun cdv A outer s H E io hr => by
    have e := en_of (P := P) (G := G) (mg := mg) (base := base) (f := f) (cdv := cdv) (outer := outer) (H := H) (E := E) (io := io) sc__law_turn hr
    exact (jss_cons (js_set e 1 (je_op (ob_mul e) (je_lst (ja_cons je_int ja_nil)) (je_cb (cf_sum e) T.sum bt_sum (ja_cons (je_lc (own := [("place", 2)]) e (ji_seq e (je_var 0)) (blkOk_by (by kernel_rfl)) (within_name (by decide)) (fun _ _ _ _ _ => (pg_name (i := 2) (e.blk _ _ _ _ _).nd rfl (Or.inl rfl))) (fun _ _ _ _ _ => jts_nil) (fun _ _ _ _ _ => (je_lenB (e.blk _ _ _ _ _) 2 T.len))) ja_nil))))
    (jss_cons (js_for e (ji_seq e (je_var 0)) (jg_name e 2) (jss_cons (js_for e (ji_enum e T.enumerate (ja_cons (je_var 2) ja_nil)) (jg_tup e (jgs_cons (jg_name e 3) (jgs_cons (jg_name e 4) jgs_nil))) (jss_cons (js_asg (je_ixB e 2 (je_op (ob_sub e) (je_op (ob_add e) (je_var 3) je_int) (je_lenB e 2 T.len))) (jg_sub e 1 (je_var 4)))
    jss_nil))
    jss_nil))
    (jss_cons (js_retV 1)
    jss_nil)))) (fun _ _ _ h => h)
theorem sc__law_about : FnScope ["turn", "dart"] ["turn"] (defScope st__law_about) := ⟨rfl, rfl, rfl, by decide +kernel, rfl, by decide +kernel, by decide +kernel⟩
theorem ok__law_about (T : Tx G mg) {f : Addr} {fd : FuncData} (F : Fun G.K "_law_about" "_law_about" st__law_about f fd) :
    FnOk P G.w G.K mg base CX0 1 f fd ["turn"] (spD G Φ__law_about) :=
  fun_ok F sc__law_about (fun cdv A outer s H E io hr => by
    have e := en_of (P := P) (G := G) (mg := mg) (base := base) (f := f) (cdv := cdv) (outer := outer) (H := H) (E := E) (io := io) sc__law_about hr
    exact (jss_cons (js_ret (je_lc (own := [("dart", 1)]) e (ji_rng1 T.range (ja_cons (je_lenB e 0 T.len) ja_nil)) (blkOk_by (by kernel_rfl)) (within_name (by decide)) (fun _ _ _ _ _ => (pg_name (i := 1) (e.blk _ _ _ _ _).nd rfl (Or.inl rfl))) (fun _ _ _ _ _ => jts_nil) (fun _ _ _ _ _ => (je_ixB (e.blk _ _ _ _ _) 0 (je_op (ob_xor (e.blk _ _ _ _ _)) (je_var 1) je_int)))))
    jss_nil)) (fun _ _ _ h => h)
theorem sc__law_round : FnScope ["pot", "way", "many", "steps", "size", "hub", "rows", "rims", "turn", "k", "rim"] ["pot"] (defScope st__law_round) := ⟨rfl, rfl, rfl, by decide +kernel, rfl, by decide +kernel, by decide +kernel⟩
theorem ok__law_round (T : Tx G mg) {f : Addr} {fd : FuncData} (F : Fun G.K "_law_round" "_law_round" st__law_round f fd)
    (c__law_draw : FnAt P G.w G.K mg base G "_law_draw" 1 ["pot", "many"] Φ__law_draw)
    (c__law_turn : FnAt P G.w G.K mg base G "_law_turn" 1 ["places"] Φ__law_turn)
    (c__law_about : FnAt P G.w G.K mg base G "_law_about" 1 ["turn"] Φ__law_about) :
    FnOk P G.w G.K mg base CX0 2 f fd ["pot"] (spD G Φ__law_round) :=
  fun_ok F sc__law_round (fun cdv A outer s H E io hr => by
    have e := en_of (P := P) (G := G) (mg := mg) (base := base) (f := f) (cdv := cdv) (outer := outer) (H := H) (E := E) (io := io) sc__law_round hr
    exact (jss_cons (js_set e 1 (je_callIO c__law_draw hr 0 (ja_cons je_int ja_nil)))
    (jss_cons (js_set e 2 (je_op (ob_add e) (je_callIO c__law_draw hr 0 (ja_cons (je_ix e (je_lst (ja_cons je_int (ja_cons je_int (ja_cons je_int (ja_cons je_int (ja_cons je_int (ja_cons je_int ja_nil))))))) (je_var 1)) ja_nil)) (je_ix e (je_lst (ja_cons je_int (ja_cons je_int (ja_cons je_int (ja_cons je_int (ja_cons je_int (ja_cons je_int ja_nil))))))) (je_var 1))))
    (jss_cons (js_asg (je_tup (ja_cons (je_lstRg1 e T.list T.range (je_var 2)) (ja_cons (je_op (ob_mul e) je_int (je_var 2)) ja_nil))) (jg_tup e (jgs_cons (jg_name e 3) (jgs_cons (jg_name e 4) jgs_nil))))
    (jss_cons (js_setLc 5 (own := [("k", 9)]) e (ji_seq e (je_var 3)) (blkOk_by (by kernel_rfl)) (within_name (by decide)) (fun _ _ _ _ _ => (pg_name (i := 9) (e.blk _ _ _ _ _).nd rfl (Or.inl rfl))) (fun _ _ _ _ _ => jts_nil) (fun _ _ _ _ _ => (je_op (ob_mul (e.blk _ _ _ _ _)) je_int (je_var 9))))
    (jss_cons (js_if (jt_cmp (oc_eq e) (je_var 1) je_int) (jss_cons (js_setLc 6 (own := [("k", 9)]) e (ji_seq e (je_var 3)) (blkOk_by (by kernel_rfl)) (within_name (by decide)) (fun _ _ _ _ _ => (pg_name (i := 9) (e.blk _ _ _ _ _).nd rfl (Or.inl rfl))) (fun _ _ _ _ _ => jts_nil) (fun _ _ _ _ _ => (je_lst (ja_cons (je_op (ob_sub (e.blk _ _ _ _ _)) (je_op (ob_sub (e.blk _ _ _ _ _)) (je_op (ob_add (e.blk _ _ _ _ _)) (je_op (ob_mul (e.blk _ _ _ _ _)) je_int (je_var 9)) (je_var 4)) je_int) (je_op (ob_mul (e.blk _ _ _ _ _)) (je_var 4) (je_ct (cf_int (e.blk _ _ _ _ _)) T.int bt_int (ja_cons (je_cmp (oc_gt (e.blk _ _ _ _ _)) (je_var 9) je_int) ja_nil)))) (ja_cons (je_op (ob_mul (e.blk _ _ _ _ _)) je_int (je_var 9)) ja_nil)))))
    jss_nil) (jss_cons (js_if (jt_cmp (oc_eq e) (je_var 1) je_int) (jss_cons (js_set e 6 (je_lst (ja_cons (je_var 5) (ja_cons (je_revL e (je_lc (own := [("k", 9)]) e (ji_seq e (je_var 3)) (blkOk_by (by kernel_rfl)) (within_name (by decide)) (fun _ _ _ _ _ => (pg_name (i := 9) (e.blk _ _ _ _ _).nd rfl (Or.inl rfl))) (fun _ _ _ _ _ => jts_nil) (fun _ _ _ _ _ => (je_op (ob_add (e.blk _ _ _ _ _)) (je_op (ob_mul (e.blk _ _ _ _ _)) je_int (je_var 9)) je_int)))) ja_nil))))
    jss_nil) (jss_cons (js_if (jt_cmp (oc_eq e) (je_var 1) je_int) (jss_cons (js_set e 6 (je_op (ob_add e) (je_lst (ja_cons (je_var 5) ja_nil)) (je_lc (own := [("k", 9)]) e (ji_seq e (je_var 3)) (blkOk_by (by kernel_rfl)) (within_name (by decide)) (fun _ _ _ _ _ => (pg_name (i := 9) (e.blk _ _ _ _ _).nd rfl (Or.inl rfl))) (fun _ _ _ _ _ => jts_nil) (fun _ _ _ _ _ => (je_lst (ja_cons (je_op (ob_add (e.blk _ _ _ _ _)) (je_op (ob_mul (e.blk _ _ _ _ _)) je_int (je_var 9)) je_int) ja_nil))))))
    jss_nil) (jss_cons (js_if (jt_cmp (oc_lt e) (je_var 1) je_int) (jss_cons (js_setLc 7 (own := [("k", 9)]) e (ji_seq e (je_var 3)) (blkOk_by (by kernel_rfl)) (within_name (by decide)) (fun _ _ _ _ _ => (pg_name (i := 9) (e.blk _ _ _ _ _).nd rfl (Or.inl rfl))) (fun _ _ _ _ _ => jts_nil) (fun _ _ _ _ _ => (je_lst (ja_cons (je_op (ob_add (e.blk _ _ _ _ _)) (je_op (ob_mul (e.blk _ _ _ _ _)) je_int (je_var 9)) je_int) (ja_cons (je_op (ob_add (e.blk _ _ _ _ _)) (je_op (ob_sub (e.blk _ _ _ _ _)) (je_op (ob_add (e.blk _ _ _ _ _)) (je_op (ob_mul (e.blk _ _ _ _ _)) je_int (je_var 9)) (je_var 4)) je_int) (je_op (ob_mul (e.blk _ _ _ _ _)) (je_var 4) (je_ct (cf_int (e.blk _ _ _ _ _)) T.int bt_int (ja_cons (je_cmp (oc_eq (e.blk _ _ _ _ _)) (je_var 9) je_int) ja_nil)))) (ja_cons (je_op (ob_add (e.blk _ _ _ _ _)) (je_op (ob_mul (e.blk _ _ _ _ _)) je_int (je_var 9)) (je_var 4)) ja_nil))))))
    (jss_cons (js_set e 6 (je_op (ob_add e) (je_lst (ja_cons (je_var 5) ja_nil)) (je_var 7)))
    (jss_cons (js_if (jt_cmp (oc_eq e) (je_var 1) je_int) (jss_cons (js_set e 6 (je_lst (ja_cons (je_var 5) (ja_cons (je_revL e (je_lc (own := [("k", 9)]) e (ji_seq e (je_var 3)) (blkOk_by (by kernel_rfl)) (within_name (by decide)) (fun _ _ _ _ _ => (pg_name (i := 9) (e.blk _ _ _ _ _).nd rfl (Or.inl rfl))) (fun _ _ _ _ _ => jts_nil) (fun _ _ _ _ _ => (je_op (ob_add (e.blk _ _ _ _ _)) (je_op (ob_add (e.blk _ _ _ _ _)) (je_op (ob_mul (e.blk _ _ _ _ _)) je_int (je_var 9)) (je_op (ob_mul (e.blk _ _ _ _ _)) je_int (je_var 4))) je_int)))) ja_nil))))
    (jss_cons (js_set e 6 (je_op (ob_add e) (je_var 6) (je_lc (own := [("k", 9), ("rim", 10)]) e (ji_enum e T.enumerate (ja_cons (je_var 7) ja_nil)) (blkOk_by (by kernel_rfl)) (within_tup (js := [9, 10]) (by decide)) (fun _ _ _ _ _ => (pg_tup (e.blk _ _ _ _ _).calm (pgs_cons (pg_name (i := 9) (e.blk _ _ _ _ _).nd rfl (Or.inl rfl)) (pgs_cons (pg_name (i := 10) (e.blk _ _ _ _ _).nd rfl (Or.inl rfl)) pgs_nil)))) (fun _ _ _ _ _ => jts_nil) (fun _ _ _ _ _ => (je_lst (ja_cons (je_ixB (e.blk _ _ _ _ _) 10 je_int) (ja_cons (je_ixB (e.blk _ _ _ _ _) 10 je_int) (ja_cons (je_op (ob_add (e.blk _ _ _ _ _)) (je_op (ob_mul (e.blk _ _ _ _ _)) je_int (je_var 9)) (je_op (ob_mul (e.blk _ _ _ _ _)) je_int (je_var 4))) (ja_cons (je_ixB (e.blk _ _ _ _ _) 10 je_int) ja_nil)))))))))
    jss_nil)) jss_nil)
    jss_nil))) (jss_cons (js_setLc 6 (own := [("k", 9)]) e (ji_seq e (je_var 3)) (blkOk_by (by kernel_rfl)) (within_name (by decide)) (fun _ _ _ _ _ => (pg_name (i := 9) (e.blk _ _ _ _ _).nd rfl (Or.inl rfl))) (fun _ _ _ _ _ => jts_nil) (fun _ _ _ _ _ => (je_lst (ja_cons (je_op (ob_add (e.blk _ _ _ _ _)) (je_op (ob_sub (e.blk _ _ _ _ _)) (je_op (ob_mul (e.blk _ _ _ _ _)) je_int (je_var 9)) je_int) (je_op (ob_mul (e.blk _ _ _ _ _)) (je_op (ob_mul (e.blk _ _ _ _ _)) je_int (je_var 4)) (je_ct (cf_int (e.blk _ _ _ _ _)) T.int bt_int (ja_cons (je_cmp (oc_eq (e.blk _ _ _ _ _)) (je_var 9) je_int) ja_nil)))) (ja_cons (je_op (ob_add (e.blk _ _ _ _ _)) (je_op (ob_sub (e.blk _ _ _ _ _)) (je_op (ob_mul (e.blk _ _ _ _ _)) je_int (je_var 9)) je_int) (je_op (ob_mul (e.blk _ _ _ _ _)) (je_op (ob_mul (e.blk _ _ _ _ _)) je_int (je_var 4)) (je_ct (cf_int (e.blk _ _ _ _ _)) T.int bt_int (ja_cons (je_cmp (oc_eq (e.blk _ _ _ _ _)) (je_var 9) je_int) ja_nil)))) (ja_cons (je_op (ob_add (e.blk _ _ _ _ _)) (je_op (ob_mul (e.blk _ _ _ _ _)) je_int (je_var 9)) je_int) (ja_cons (je_op (ob_mul (e.blk _ _ _ _ _)) je_int (je_var 9)) ja_nil)))))))
    jss_nil))
    jss_nil))
    jss_nil))
    jss_nil))
    (jss_cons (js_set e 8 (je_call c__law_turn hr (ja_cons (je_var 6) ja_nil)))
    (jss_cons (js_ret (je_if (jt_cmp (oc_eq e) (je_callIO c__law_draw hr 0 (ja_cons je_int ja_nil)) je_int) (je_var 8) (je_call c__law_about hr (ja_cons (je_var 8) ja_nil))))
    jss_nil)))))))) (fun _ _ _ h => h)
theorem sc__law_hung : FnScope ["turn", "corner", "many", "found"] ["turn", "corner"] (defScope st__law_hung) := ⟨rfl, rfl, rfl, by decide +kernel, rfl, by decide +kernel, by decide +kernel⟩
theorem ok__law_hung (T : Tx G mg) {f : Addr} {fd : FuncData} (F : Fun G.K "_law_hung" "_law_hung" st__law_hung f fd) :
    FnOk P G.w G.K mg base CX0 1 f fd ["turn", "corner"] (spD G Φ__law_hung) :=
  fun_ok F sc__law_hung (fun cdv A outer s H E io hr => by
    have e := en_of (P := P) (G := G) (mg := mg) (base := base) (f := f) (cdv := cdv) (outer := outer) (H := H) (E := E) (io := io) sc__law_hung hr
    exact (jss_cons (js_set e 2 (je_lenB e 0 T.len))
    (jss_cons (js_if (jt_cmp (oc_eq e) (je_var 2) je_int) (jss_cons (js_ret (je_lst (ja_cons je_int (ja_cons je_int ja_nil))))
    jss_nil) jss_nil)
    (jss_cons (js_set e 3 (je_op (ob_add e) (je_var 0) (je_lst (ja_cons (je_ixB e 0 (je_var 1)) (ja_cons (je_op (ob_add e) (je_var 2) je_int) ja_nil)))))
    (jss_cons (js_asg (je_var 2) (jg_sub e 3 (je_var 1)))
    (jss_cons (js_retV 3)
    jss_nil)))))) (fun _ _ _ h => h)
theorem sc__law_stretched : FnScope ["turn", "tie", "many", "dart", "found"] ["turn", "tie"] (defScope st__law_stretched) := ⟨rfl, rfl, rfl, by decide +kernel, rfl, by decide +kernel, by decide +kernel⟩
theorem ok__law_stretched (T : Tx G mg) {f : Addr} {fd : FuncData} (F : Fun G.K "_law_stretched" "_law_stretched" st__law_stretched f fd) :
    FnOk P G.w G.K mg base CX0 1 f fd ["turn", "tie"] (spD G Φ__law_stretched) :=
  fun_ok F sc__law_stretched (fun cdv A outer s H E io hr => by
    have e := en_of (P := P) (G := G) (mg := mg) (base := base) (f := f) (cdv := cdv) (outer := outer) (H := H) (E := E) (io := io) sc__law_stretched hr
    exact (jss_cons (js_par e 2 3 (je_lenB e 0 T.len) (je_op (ob_add e) (je_op (ob_mul e) je_int (je_var 1)) je_int))
    (jss_cons (js_set e 4 (je_op (ob_add e) (je_var 0) (je_lst (ja_cons (je_var 3) (ja_cons (je_ixB e 0 (je_var 3)) ja_nil)))))
    (jss_cons (js_if (jt_cmp (oc_eq e) (je_ixB e 0 (je_var 3)) (je_var 3)) (jss_cons (js_asg (je_op (ob_add e) (je_var 2) je_int) (jg_sub e 4 (je_op (ob_add e) (je_var 2) je_int)))
    jss_nil) (jss_cons (js_asg (je_op (ob_add e) (je_var 2) je_int) (jg_sub e 4 (je_index 0 e (je_var 3))))
    jss_nil))
    (jss_cons (js_asg (je_var 2) (jg_sub e 4 (je_var 3)))
    (jss_cons (js_retV 4)
    jss_nil)))))) (fun _ _ _ h => h)
theorem sc__law_laid : FnScope ["turn", "corner", "steps", "many", "other", "step", "found"] ["turn", "corner", "steps"] (defScope st__law_laid) := ⟨rfl, rfl, rfl, by decide +kernel, rfl, by decide +kernel, by decide +kernel⟩
theorem ok__law_laid (T : Tx G mg) {f : Addr} {fd : FuncData} (F : Fun G.K "_law_laid" "_law_laid" st__law_laid f fd) :
    FnOk P G.w G.K mg base CX0 1 f fd ["turn", "corner", "steps"] (spD G Φ__law_laid) :=
  fun_ok F sc__law_laid (fun cdv A outer s H E io hr => by
    have e := en_of (P := P) (G := G) (mg := mg) (base := base) (f := f) (cdv := cdv) (outer := outer) (H := H) (E := E) (io := io) sc__law_laid hr
    exact (jss_cons (js_par e 3 4 (je_lenB e 0 T.len) (je_var 1))
    (jss_cons (js_if (jt_cmp (oc_eq e) (je_var 3) je_int) (jss_cons (js_ret (je_lst (ja_cons je_int (ja_cons je_int ja_nil))))
    jss_nil) jss_nil)
    (jss_cons (js_for e (ji_rng1 T.range (ja_cons (je_var 2) ja_nil)) (jg_name e 5) (jss_cons (js_set e 4 (je_op (ob_xor e) (je_ixB e 0 (je_var 4)) je_int))
    jss_nil))
    (jss_cons (js_set e 6 (je_op (ob_add e) (je_var 0) (je_lst (ja_cons (je_ixB e 0 (je_var 1)) (ja_cons (je_ixB e 0 (je_var 4)) ja_nil)))))
    (jss_cons (js_if (jt_cmp (oc_eq e) (je_var 4) (je_var 1)) (jss_cons (js_asg (je_op (ob_add e) (je_var 3) je_int) (jg_sub e 6 (je_var 3)))
    (jss_cons (js_asg (je_var 3) (jg_sub e 6 (je_var 1)))
    jss_nil)) (jss_cons (js_asg (je_tup (ja_cons (je_var 3) (ja_cons (je_op (ob_add e) (je_var 3) je_int) ja_nil))) (jg_tup e (jgs_cons (jg_sub e 6 (je_var 1)) (jgs_cons (jg_sub e 6 (je_var 4)) jgs_nil))))
    jss_nil))
    (jss_cons (js_retV 6)
    jss_nil))))))) (fun _ _ _ h => h)
theorem sc__law_any : FnScope ["pot", "many", "kind", "turn", "step", "size", "way", "corner"] ["pot", "many", "kind"] (defScope st__law_any) := ⟨rfl, rfl, rfl, by decide +kernel, rfl, by decide +kernel, by decide +kernel⟩
theorem ok__law_any (T : Tx G mg) {f : Addr} {fd : FuncData} (F : Fun G.K "_law_any" "_law_any" st__law_any f fd)
    (c__law_draw : FnAt P G.w G.K mg base G "_law_draw" 1 ["pot", "many"] Φ__law_draw)
    (c__law_hung : FnAt P G.w G.K mg base G "_law_hung" 1 ["turn", "corner"] Φ__law_hung)
    (c__law_stretched : FnAt P G.w G.K mg base G "_law_stretched" 1 ["turn", "tie"] Φ__law_stretched)
    (c__law_laid : FnAt P G.w G.K mg base G "_law_laid" 1 ["turn", "corner", "steps"] Φ__law_laid) :
    FnOk P G.w G.K mg base CX0 2 f fd ["pot", "many", "kind"] (spD G Φ__law_any) :=
  fun_ok F sc__law_any (fun cdv A outer s H E io hr => by
    have e := en_of (P := P) (G := G) (mg := mg) (base := base) (f := f) (cdv := cdv) (outer := outer) (H := H) (E := E) (io := io) sc__law_any hr
    exact (jss_cons (js_set e 3 (je_if (jt_cmp (oc_lt e) (je_var 2) je_int) (je_lst ja_nil) (je_lst (ja_cons je_int (ja_cons je_int (ja_cons je_int (ja_cons je_int ja_nil)))))))
    (jss_cons (js_for e (ji_rng1 T.range (ja_cons (je_op (ob_sub e) (je_var 1) (je_op (ob_fdiv e) (je_lenB e 3 T.len) je_int)) ja_nil)) (jg_name e 4) (jss_cons (js_par e 5 6 (je_lenB e 3 T.len) (je_callIO c__law_draw hr 0 (ja_cons je_int ja_nil)))
    (jss_cons (js_set e 7 (je_callIO c__law_draw hr 0 (ja_cons (je_cb (cf_max2 e) T.max bt_max (ja_cons je_int (ja_cons (je_var 5) ja_nil))) ja_nil)))
    (jss_cons (js_if (jw_and (jt_cmp (oc_eq e) (je_var 6) je_int) (jw_and1 (jt_cmp (oc_lt e) (je_var 2) je_int))).pt (jss_cons (js_set e 3 (je_call c__law_hung hr (ja_cons (je_var 3) (ja_cons (je_var 7) ja_nil))))
    jss_nil) (jss_cons (js_if (jw_and (jt_cmp (oc_eq e) (je_var 6) je_int) (jw_and1 (jt_cmp (oc_gt e) (je_var 5) je_int))).pt (jss_cons (js_set e 3 (je_call c__law_stretched hr (ja_cons (je_var 3) (ja_cons (je_op (ob_fdiv e) (je_var 7) je_int) ja_nil))))
    jss_nil) (jss_cons (js_set e 3 (je_call c__law_laid hr (ja_cons (je_var 3) (ja_cons (je_var 7) (ja_cons (je_op (ob_add e) (je_cb (cf_min2 e) T.min bt_min (ja_cons (je_var 2) (ja_cons je_int ja_nil))) (je_callIO c__law_draw hr 0 (ja_cons je_int ja_nil))) ja_nil)))))
    jss_nil))
    jss_nil))
    jss_nil))))
    (jss_cons (js_retV 3)
    jss_nil)))) (fun _ _ _ h => h)
theorem sc_is_integer : FnScope ["value"] ["value"] (defScope st_is_integer) := ⟨rfl, rfl, rfl, by decide +kernel, rfl, by decide +kernel, by decide +kernel⟩
theorem ok_is_integer (T : Tx G mg) {f : Addr} {fd : FuncData} (F : Fun G.K "is_integer" "is_integer" st_is_integer f fd) :
    FnOk P G.w G.K mg base CX0 1 f fd ["value"] (spD G Φ_is_integer) :=
  fun_ok F sc_is_integer (fun cdv A outer s H E io hr => by
    have e := en_of (P := P) (G := G) (mg := mg) (base := base) (f := f) (cdv := cdv) (outer := outer) (H := H) (E := E) (io := io) sc_is_integer hr
    exact (jss_cons (js_ret (je_and (je_isiB e (je_var 0) T.isinstance T.int bt_int) (je_and1 (je_not (je_isiB e (je_var 0) T.isinstance T.bool bt_bool)))))
    jss_nil)) (fun _ _ _ h => h)
theorem sc_is_count : FnScope ["value"] ["value"] (defScope st_is_count) := ⟨rfl, rfl, rfl, by decide +kernel, rfl, by decide +kernel, by decide +kernel⟩
theorem ok_is_count (T : Tx G mg) {f : Addr} {fd : FuncData} (F : Fun G.K "is_count" "is_count" st_is_count f fd)
    (c_is_integer : FnAt P G.w G.K mg base G "is_integer" 1 ["value"] Φ_is_integer) :
    FnOk P G.w G.K mg base CX0 2 f fd ["value"] (spD G Φ_is_count) :=
  fun_ok F sc_is_count (fun cdv A outer s H E io hr => by
    have e := en_of (P := P) (G := G) (mg := mg) (base := base) (f := f) (cdv := cdv) (outer := outer) (H := H) (E := E) (io := io) sc_is_count hr
    exact (jss_cons (js_ret (je_and (je_call c_is_integer hr (ja_cons (je_var 0) ja_nil)) (je_and1 (je_cmp (oc_ge e) (je_var 0) je_int))))
    jss_nil)) (fun _ _ _ h => h)
theorem sc_is_permutation : FnScope ["value", "many", "one"] ["value", "many"] (defScope st_is_permutation) := ⟨rfl, rfl, rfl, by decide +kernel, rfl, by decide +kernel, by decide +kernel⟩
theorem ok_is_permutation (T : Tx G mg) {f : Addr} {fd : FuncData} (F : Fun G.K "is_permutation" "is_permutation" st_is_permutation f fd)
    (c_is_count : FnAt P G.w G.K mg base G "is_count" 2 ["value"] Φ_is_count) :
    FnOk P G.w G.K mg base CX0 3 f fd ["value", "many"] (spD G Φ_is_permutation) :=
  fun_ok F sc_is_permutation (fun cdv A outer s H E io hr => by
    have e := en_of (P := P) (G := G) (mg := mg) (base := base) (f := f) (cdv := cdv) (outer := outer) (H := H) (E := E) (io := io) sc_is_permutation hr
    exact (jss_cons (js_if (jw_or (jt_cmp (oc_ne e) (je_lenB e 0 T.len) (je_var 1)) (jw_or1 (jt_not (jt_tru e (je_cb (cf_all e) T.all bt_all (ja_cons (je_lc (own := [("one", 2)]) e (ji_seq e (je_var 0)) (blkOk_by (by kernel_rfl)) (within_name (by decide)) (fun _ _ _ _ _ => (pg_name (i := 2) (e.blk _ _ _ _ _).nd rfl (Or.inl rfl))) (fun _ _ _ _ _ => jts_nil) (fun _ _ _ _ _ => (je_call c_is_count hr (ja_cons (je_var 2) ja_nil)))) ja_nil)))))).pt (jss_cons (js_ret je_bl)
    jss_nil) jss_nil)
    (jss_cons (js_ret (je_cmp (oc_eq e) (je_cb (cf_sorted e) T.sorted bt_sorted (ja_cons (je_var 0) ja_nil)) (je_lstRg1 e T.list T.range (je_var 1))))
    jss_nil))) (fun _ _ _ h => h)
theorem sc_read_from : FnScope ["turn", "dart", "order", "names", "told", "near"] ["turn", "dart"] (defScope st_read_from) := ⟨rfl, rfl, rfl, by decide +kernel, rfl, by decide +kernel, by decide +kernel⟩
theorem ok_read_from (T : Tx G mg) {f : Addr} {fd : FuncData} (F : Fun G.K "read_from" "read_from" st_read_from f fd) :
    FnOk P G.w G.K mg base CX0 1 f fd ["turn", "dart"] (spD G Φ_read_from) :=
  fun_ok F sc_read_from (fun cdv A outer s H E io hr => by
    have e := en_of (P := P) (G := G) (mg := mg) (base := base) (f := f) (cdv := cdv) (outer := outer) (H := H) (E := E) (io := io) sc_read_from hr
    exact (jss_cons (js_set e 2 (je_lst (ja_cons (je_var 1) (ja_cons (je_op (ob_xor e) (je_var 1) je_int) ja_nil))))
    (jss_cons (js_set e 3 (je_disp2 (je_var 1) je_int (je_op (ob_xor e) (je_var 1) je_int) je_int))
    (jss_cons (js_set e 4 (je_lst ja_nil))
    (jss_cons (js_while fuel (jt_cmp (oc_lt e) (je_lenB e 4 T.len) (je_lenB e 2 T.len)) (jss_cons (js_set e 5 (je_ixB e 0 (je_ixB e 2 (je_lenB e 4 T.len))))
    (jss_cons (js_if (jt_dnin e (je_var 5) 3) (jss_cons (js_asg (je_lenB e 2 T.len) (jg_sub e 3 (je_var 5)))
    (jss_cons (js_asg (je_op (ob_add e) (je_lenB e 2 T.len) je_int) (jg_sub e 3 (je_op (ob_xor e) (je_var 5) je_int)))
    (jss_cons (js_app 2 e (je_var 5))
    (jss_cons (js_app 2 e (je_op (ob_xor e) (je_var 5) je_int))
    jss_nil)))) jss_nil)
    (jss_cons (js_app 4 e (je_dget e 3 (je_var 5)))
    jss_nil))))
    (jss_cons (js_ret (je_tup (ja_cons (je_ct (cf_tuple e) T.tuple bt_tuple (ja_cons (je_var 4) ja_nil)) (ja_cons (je_var 2) ja_nil))))
    jss_nil)))))) (fun _ _ _ h => h)
theorem sc_is_one_piece : FnScope ["turn"] ["turn"] (defScope st_is_one_piece) := ⟨rfl, rfl, rfl, by decide +kernel, rfl, by decide +kernel, by decide +kernel⟩
theorem ok_is_one_piece (T : Tx G mg) {f : Addr} {fd : FuncData} (F : Fun G.K "is_one_piece" "is_one_piece" st_is_one_piece f fd)
    (c_read_from : FnAt P G.w G.K mg base G "read_from" 1 ["turn", "dart"] Φ_read_from) :
    FnOk P G.w G.K mg base CX0 2 f fd ["turn"] (spD G Φ_is_one_piece) :=
  fun_ok F sc_is_one_piece (fun cdv A outer s H E io hr => by
    have e := en_of (P := P) (G := G) (mg := mg) (base := base) (f := f) (cdv := cdv) (outer := outer) (H := H) (E := E) (io := io) sc_is_one_piece hr
    exact (jss_cons (js_ret (je_or (je_cmp (oc_eq e) (je_var 0) (je_tup ja_nil)) (je_or1 (je_cmp (oc_eq e) (je_cb (cf_len e) T.len bt_len (ja_cons (je_ix e (je_call c_read_from hr (ja_cons (je_var 0) (ja_cons je_int ja_nil))) je_int) ja_nil)) (je_lenB e 0 T.len)))))
    jss_nil)) (fun _ _ _ h => h)
theorem sc_cycles_of : FnScope ["step", "seen", "rows", "start", "row", "one"] ["step"] (defScope st_cycles_of) := ⟨rfl, rfl, rfl, by decide +kernel, rfl, by decide +kernel, by decide +kernel⟩
theorem ok_cycles_of (T : Tx G mg) {f : Addr} {fd : FuncData} (F : Fun G.K "cycles_of" "cycles_of" st_cycles_of f fd) :
    FnOk P G.w G.K mg base CX0 1 f fd ["step"] (spD G Φ_cycles_of) :=
  fun_ok F sc_cycles_of (fun cdv A outer s H E io hr => by
    have e := en_of (P := P) (G := G) (mg := mg) (base := base) (f := f) (cdv := cdv) (outer := outer) (H := H) (E := E) (io := io) sc_cycles_of hr
    exact (jss_cons (js_set e 1 (je_setNew e T.set))
    (jss_cons (js_set e 2 (je_lst ja_nil))
    (jss_cons (js_for e (ji_rng1 T.range (ja_cons (je_lenB e 0 T.len) ja_nil)) (jg_name e 3) (jss_cons (js_if (jt_cmpB (oc_snin e) (je_var 3) 1) (jss_cons (js_set e 4 (je_lst (ja_cons (je_var 3) ja_nil)))
    (jss_cons (js_while fuel (jt_cmp (oc_ne e) (je_ixB e 0 (je_ixB e 4 (je_neg e je_int))) (je_var 3)) (jss_cons (js_app 4 e (je_ixB e 0 (je_ixB e 4 (je_neg e je_int))))
    jss_nil))
    (jss_cons (js_for e (ji_seq e (je_var 4)) (jg_name e 5) (jss_cons (js_sadd 1 e (je_var 5))
    jss_nil))
    (jss_cons (js_app 2 e (je_ct (cf_tuple e) T.tuple bt_tuple (ja_cons (je_var 4) ja_nil)))
    jss_nil)))) jss_nil)
    jss_nil))
    (jss_cons (js_retV 2)
    jss_nil))))) (fun _ _ _ h => h)
theorem sc_about_of : FnScope ["turn", "dart"] ["turn"] (defScope st_about_of) := ⟨rfl, rfl, rfl, by decide +kernel, rfl, by decide +kernel, by decide +kernel⟩
theorem ok_about_of (T : Tx G mg) {f : Addr} {fd : FuncData} (F : Fun G.K "about_of" "about_of" st_about_of f fd) :
    FnOk P G.w G.K mg base CX0 1 f fd ["turn"] (spD G Φ_about_of) :=
  fun_ok F sc_about_of (fun cdv A outer s H E io hr => by
    have e := en_of (P := P) (G := G) (mg := mg) (base := base) (f := f) (cdv := cdv) (outer := outer) (H := H) (E := E) (io := io) sc_about_of hr
    exact (jss_cons (js_ret (je_ct (cf_tuple e) T.tuple bt_tuple (ja_cons (je_lc (own := [("dart", 1)]) e (ji_rng1 T.range (ja_cons (je_lenB e 0 T.len) ja_nil)) (blkOk_by (by kernel_rfl)) (within_name (by decide)) (fun _ _ _ _ _ => (pg_name (i := 1) (e.blk _ _ _ _ _).nd rfl (Or.inl rfl))) (fun _ _ _ _ _ => jts_nil) (fun _ _ _ _ _ => (je_ixB (e.blk _ _ _ _ _) 0 (je_op (ob_xor (e.blk _ _ _ _ _)) (je_var 1) je_int)))) ja_nil)))
    jss_nil)) (fun _ _ _ h => h)
theorem sc_is_web_turn : FnScope ["value"] ["value"] (defScope st_is_web_turn) := ⟨rfl, rfl, rfl, by decide +kernel, rfl, by decide +kernel, by decide +kernel⟩
theorem ok_is_web_turn (T : Tx G mg) {f : Addr} {fd : FuncData} (F : Fun G.K "is_web_turn" "is_web_turn" st_is_web_turn f fd)
    (c_is_permutation : FnAt P G.w G.K mg base G "is_permutation" 3 ["value", "many"] Φ_is_permutation)
    (c_is_one_piece : FnAt P G.w G.K mg base G "is_one_piece" 2 ["turn"] Φ_is_one_piece)
    (c_cycles_of : FnAt P G.w G.K mg base G "cycles_of" 1 ["step"] Φ_cycles_of)
    (c_about_of : FnAt P G.w G.K mg base G "about_of" 1 ["turn"] Φ_about_of) :
    FnOk P G.w G.K mg base CX0 4 f fd ["value"] (spD G Φ_is_web_turn) :=
  fun_ok F sc_is_web_turn (fun cdv A outer s H E io hr => by
    have e := en_of (P := P) (G := G) (mg := mg) (base := base) (f := f) (cdv := cdv) (outer := outer) (H := H) (E := E) (io := io) sc_is_web_turn hr
    exact (jss_cons (js_if (jw_or (jt_not (jt_tru e (je_isiB e (je_var 0) T.isinstance T.tuple bt_tuple))) (jw_or (jt_cmp (oc_eq e) (je_op (ob_mod e) (je_lenB e 0 T.len) je_int) je_int) (jw_or1 (jt_cmp (oc_gt e) (je_lenB e 0 T.len) je_int)))).pt (jss_cons (js_ret je_bl)
    jss_nil) jss_nil)
    (jss_cons (js_if (jw_or (jt_not (jt_tru e (je_call c_is_permutation hr (ja_cons (je_var 0) (ja_cons (je_lenB e 0 T.len) ja_nil))))) (jw_or1 (jt_not (jt_tru e (je_call c_is_one_piece hr (ja_cons (je_var 0) ja_nil)))))).pt (jss_cons (js_ret je_bl)
    jss_nil) jss_nil)
    (jss_cons (js_if (jt_cmp (oc_eq e) (je_var 0) (je_tup ja_nil)) (jss_cons (js_ret je_bl)
    jss_nil) jss_nil)
    (jss_cons (js_ret (je_cmp (oc_eq e) (je_op (ob_add e) (je_op (ob_sub e) (je_cb (cf_len e) T.len bt_len (ja_cons (je_call c_cycles_of hr (ja_cons (je_var 0) ja_nil)) ja_nil)) (je_op (ob_fdiv e) (je_lenB e 0 T.len) je_int)) (je_cb (cf_len e) T.len bt_len (ja_cons (je_call c_cycles_of hr (ja_cons (je_call c_about_of hr (ja_cons (je_var 0) ja_nil)) ja_nil)) ja_nil))) je_int))
    jss_nil))))) (fun _ _ _ h => h)
theorem sc_Web_init : FnScope ["self", "turn"] ["self", "turn"] (defScope st_Web_init) := ⟨rfl, rfl, rfl, by decide +kernel, rfl, by decide +kernel, by decide +kernel⟩
theorem ok_Web_init (T : Tx G mg) {f : Addr} {fd : FuncData} (F : Fun G.K "__init__" "Web.__init__" st_Web_init f fd)
    (c_is_web_turn : FnAt P G.w G.K mg base G "is_web_turn" 4 ["value"] Φ_is_web_turn)
    (c_cycles_of : FnAt P G.w G.K mg base G "cycles_of" 1 ["step"] Φ_cycles_of)
    (c_about_of : FnAt P G.w G.K mg base G "about_of" 1 ["turn"] Φ_about_of) :
    FnOk P G.w G.K mg base CX0 5 f fd ["self", "turn"] (spD G Φ_Web_init) :=
  fun_ok F sc_Web_init (fun cdv A outer s H E io hr => by
    have e := en_of (P := P) (G := G) (mg := mg) (base := base) (f := f) (cdv := cdv) (outer := outer) (H := H) (E := E) (io := io) sc_Web_init hr
    exact (jss_cons (js_if (jt_not (jt_tru e (je_call c_is_web_turn hr (ja_cons (je_var 1) ja_nil)))) jss_never jss_nil)
    (jss_cons (js_fldSet e 0 T.cWeb T.nWeb_turn (je_var 1))
    (jss_cons (js_fldSet e 0 T.cWeb T.nWeb_places (je_if (jt_tru e (je_var 1)) (je_call c_cycles_of hr (ja_cons (je_var 1) ja_nil)) (je_lst (ja_cons (je_tup ja_nil) ja_nil))))
    (jss_cons (js_fldSet e 0 T.cWeb T.nWeb_faces (je_if (jt_tru e (je_var 1)) (je_call c_cycles_of hr (ja_cons (je_call c_about_of hr (ja_cons (je_var 1) ja_nil)) ja_nil)) (je_lst (ja_cons (je_tup ja_nil) ja_nil))))
    jss_nil))))) (fun _ _ _ h => h)
theorem sc__law_two : FnScope ["turn"] ["turn"] (defScope st__law_two) := ⟨rfl, rfl, rfl, by decide +kernel, rfl, by decide +kernel, by decide +kernel⟩
theorem ok__law_two (T : Tx G mg) {f : Addr} {fd : FuncData} (F : Fun G.K "_law_two" "_law_two" st__law_two f fd)
    (c_Web_init : MkAt P G.w G.K mg base G 0 5 ["self", "turn"] Φ_Web_init) :
    FnOk P G.w G.K mg base CX0 7 f fd ["turn"] (spD G Φ__law_two) :=
  fun_ok F sc__law_two (fun cdv A outer s H E io hr => by
    have e := en_of (P := P) (G := G) (mg := mg) (base := base) (f := f) (cdv := cdv) (outer := outer) (H := H) (E := E) (io := io) sc__law_two hr
    exact (jss_cons (js_ret (je_make T.cWeb c_Web_init hr (ja_cons (je_ct (cf_tuple e) T.tuple bt_tuple (ja_cons (je_var 0) ja_nil)) ja_nil)))
    jss_nil)) (fun _ _ _ h => h)
theorem sc__law_read : FnScope ["turn", "dart", "new", "order", "k", "after", "one"] ["turn", "dart"] (defScope st__law_read) := ⟨rfl, rfl, rfl, by decide +kernel, rfl, by decide +kernel, by decide +kernel⟩
theorem ok__law_read (T : Tx G mg) {f : Addr} {fd : FuncData} (F : Fun G.K "_law_read" "_law_read" st__law_read f fd) :
    FnOk P G.w G.K mg base CX0 1 f fd ["turn", "dart"] (spD G Φ__law_read) :=
  fun_ok F sc__law_read (fun cdv A outer s H E io hr => by
    have e := en_of (P := P) (G := G) (mg := mg) (base := base) (f := f) (cdv := cdv) (outer := outer) (H := H) (E := E) (io := io) sc__law_read hr
    exact (jss_cons (js_parC e 2 3 (je_disp2 (je_var 1) je_int (je_op (ob_xor e) (je_var 1) je_int) je_int) (je_lst (ja_cons (je_var 1) (ja_cons (je_op (ob_xor e) (je_var 1) je_int) ja_nil))))
    (jss_cons (js_for e (ji_rng1 T.range (ja_cons (je_lenB e 0 T.len) ja_nil)) (jg_name e 4) (jss_cons (js_set e 5 (je_ixB e 0 (je_ixB e 3 (je_var 4))))
    (jss_cons (js_if (jt_dnin e (je_var 5) 2) (jss_cons (js_asg (je_tup (ja_cons (je_lenB e 3 T.len) (ja_cons (je_op (ob_add e) (je_lenB e 3 T.len) je_int) ja_nil))) (jg_tup e (jgs_cons (jg_sub e 2 (je_var 5)) (jgs_cons (jg_sub e 2 (je_op (ob_xor e) (je_var 5) je_int)) jgs_nil))))
    (jss_cons (js_ext 3 e (je_lst (ja_cons (je_var 5) (ja_cons (je_op (ob_xor e) (je_var 5) je_int) ja_nil))))
    jss_nil)) jss_nil)
    jss_nil)))
    (jss_cons (js_ret (je_ct (cf_tuple e) T.tuple bt_tuple (ja_cons (je_lc (own := [("one", 6)]) e (ji_seq e (je_var 3)) (blkOk_by (by kernel_rfl)) (within_name (by decide)) (fun _ _ _ _ _ => (pg_name (i := 6) (e.blk _ _ _ _ _).nd rfl (Or.inl rfl))) (fun _ _ _ _ _ => jts_nil) (fun _ _ _ _ _ => (je_dget (e.blk _ _ _ _ _) 2 (je_ixB (e.blk _ _ _ _ _) 0 (je_var 6))))) ja_nil)))
    jss_nil)))) (fun _ _ _ h => h)
theorem sc__law_name : FnScope ["turn", "dart"] ["turn"] (defScope st__law_name) := ⟨rfl, rfl, rfl, by decide +kernel, rfl, by decide +kernel, by decide +kernel⟩
theorem ok__law_name (T : Tx G mg) {f : Addr} {fd : FuncData} (F : Fun G.K "_law_name" "_law_name" st__law_name f fd)
    (c__law_read : FnAt P G.w G.K mg base G "_law_read" 1 ["turn", "dart"] Φ__law_read) :
    FnOk P G.w G.K mg base CX0 2 f fd ["turn"] (spD G Φ__law_name) :=
  fun_ok F sc__law_name (fun cdv A outer s H E io hr => by
    have e := en_of (P := P) (G := G) (mg := mg) (base := base) (f := f) (cdv := cdv) (outer := outer) (H := H) (E := E) (io := io) sc__law_name hr
    exact (jss_cons (js_ret (je_cb (cf_minB e) T.min bt_min (ja_cons (je_op (ob_add e) (je_lc (own := [("dart", 1)]) e (ji_rng1 T.range (ja_cons (je_lenB e 0 T.len) ja_nil)) (blkOk_by (by kernel_rfl)) (within_name (by decide)) (fun _ _ _ _ _ => (pg_name (i := 1) (e.blk _ _ _ _ _).nd rfl (Or.inl rfl))) (fun _ _ _ _ _ => jts_nil) (fun _ _ _ _ _ => (je_call c__law_read hr (ja_cons (je_var 0) (ja_cons (je_var 1) ja_nil))))) (je_op (ob_mul e) (je_lst (ja_cons (je_tup ja_nil) ja_nil)) (je_ct (cf_int e) T.int bt_int (ja_cons (je_cmp (oc_eq e) (je_var 0) (je_lst ja_nil)) ja_nil)))) ja_nil)))
    jss_nil)) (fun _ _ _ h => h)
theorem sc__law_same : FnScope ["told", "due", "one", "other"] ["told", "due"] (defScope st__law_same) := ⟨rfl, rfl, rfl, by decide +kernel, rfl, by decide +kernel, by decide +kernel⟩
theorem ok__law_same (T : Tx G mg) {f : Addr} {fd : FuncData} (F : Fun G.K "_law_same" "_law_same" st__law_same f fd) (hm : mg "_law_same" = some (.ref f)) (hkp : PySem.W.keepIn G.K (.ref f) = true) (hb : Binds G.K fd ["told", "due"] []) :
    ∀ j : Nat, FnOk P G.w G.K mg base CX0 (1 + j) f fd ["told", "due"] (spD G (Φn__law_same j))
  | 0 => F.ok sc__law_same (fun vs H Q E h => by obtain ⟨_, _, _, _, _, e, _⟩ := h; cases e) (fun cdv A outer s H vs Q E hr h => by obtain ⟨_, _, _, _, _, e, _⟩ := h; cases e)
  | j + 1 => fun_ok F sc__law_same (fun cdv A outer s H E io hr => by
    have e := en_of (P := P) (G := G) (mg := mg) (base := base) (f := f) (cdv := cdv) (outer := outer) (H := H) (E := E) (io := io) sc__law_same hr
    have c__law_same : FnAt P G.w G.K mg base G "_law_same" (1 + j) ["told", "due"] (Φn__law_same j) := ⟨f, fd, ok__law_same T F hm hkp hb j, hm, hkp, hb⟩
    exact (jss_cons (js_if (jt_cmp (oc_is e) (je_var 1) je_non) (jss_cons (js_ret (je_cmp (oc_is e) (je_var 0) je_non))
    jss_nil) jss_nil)
    (jss_cons (js_if (jt_cmp (oc_isB e) (je_var 1) je_bl) (jss_cons (js_ret (je_cmp (oc_isB e) (je_var 0) je_bl))
    jss_nil) jss_nil)
    (jss_cons (js_if (jt_cmp (oc_isB e) (je_var 1) je_bl) (jss_cons (js_ret (je_cmp (oc_isB e) (je_var 0) je_bl))
    jss_nil) jss_nil)
    (jss_cons (js_if (jt_tru e (je_isiB e (je_var 1) T.isinstance T.int bt_int)) (jss_cons (js_ret (je_and (je_isiB e (je_var 0) T.isinstance T.int bt_int) (je_and (je_not (je_isiB e (je_var 0) T.isinstance T.bool bt_bool)) (je_and1 (je_cmp (oc_eq e) (je_var 0) (je_var 1))))))
    jss_nil) jss_nil)
    (jss_cons (js_if (jt_tru e (je_isiB e (je_var 1) T.isinstance T.str bt_str)) (jss_cons (js_ret (je_and (je_isiB e (je_var 0) T.isinstance T.str bt_str) (je_and1 (je_cmp (oc_eq e) (je_var 0) (je_var 1)))))
    jss_nil) jss_nil)
    (jss_cons (js_if (jw_or (jw_and (jt_tru e (je_isiB e (je_var 1) T.isinstance T.list bt_list)) (jw_and1 (jt_not (jt_tru e (je_isiB e (je_var 0) T.isinstance T.list bt_list))))).pt (jw_or1 (jw_and (jt_tru e (je_isiB e (je_var 1) T.isinstance T.tuple bt_tuple)) (jw_and1 (jt_not (jt_tru e (je_isiB e (je_var 0) T.isinstance T.tuple bt_tuple))))).pt)).pt (jss_cons (js_ret je_bl)
    jss_nil) jss_nil)
    (jss_cons (js_ret (je_and (je_cmp (oc_eq e) (je_lenB e 0 T.len) (je_lenB e 1 T.len)) (je_and1 (je_cb (cf_all e) T.all bt_all (ja_cons (je_lc (own := [("one", 2), ("other", 3)]) e (ji_zip e T.zip (ja_cons (je_var 0) (ja_cons (je_var 1) ja_nil))) (blkOk_by (by kernel_rfl)) (within_tup (js := [2, 3]) (by decide)) (fun _ _ _ _ _ => (pg_tup (e.blk _ _ _ _ _).calm (pgs_cons (pg_name (i := 2) (e.blk _ _ _ _ _).nd rfl (Or.inl rfl)) (pgs_cons (pg_name (i := 3) (e.blk _ _ _ _ _).nd rfl (Or.inl rfl)) pgs_nil)))) (fun _ _ _ _ _ => jts_nil) (fun _ _ _ _ _ => (je_call c__law_same hr (ja_cons (je_var 2) (ja_cons (je_var 3) ja_nil)) (hk := Nat.le_refl _)))) ja_nil)))))
    jss_nil)))))))) (fun _ _ _ h => h)
theorem sc_check_web : FnScope ["web"] ["web"] (defScope st_check_web) := ⟨rfl, rfl, rfl, by decide +kernel, rfl, by decide +kernel, by decide +kernel⟩
theorem ok_check_web (T : Tx G mg) {f : Addr} {fd : FuncData} (F : Fun G.K "check_web" "check_web" st_check_web f fd) :
    FnOk P G.w G.K mg base CX0 1 f fd ["web"] (spD G Φ_check_web) :=
  fun_ok F sc_check_web (fun cdv A outer s H E io hr => by
    have e := en_of (P := P) (G := G) (mg := mg) (base := base) (f := f) (cdv := cdv) (outer := outer) (H := H) (E := E) (io := io) sc_check_web hr
    exact (jss_cons (js_if (jt_not (jt_tru e (je_isiC e (je_var 0) T.isinstance T.cWeb T.iWeb))) jss_never jss_nil)
    jss_nil)) (fun _ _ _ h => h)
theorem sc_Web_many : FnScope ["self"] ["self"] (defScope st_Web_many) := ⟨rfl, rfl, rfl, by decide +kernel, rfl, by decide +kernel, by decide +kernel⟩
theorem ok_Web_many (T : Tx G mg) {f : Addr} {fd : FuncData} (F : Fun G.K "many" "Web.many" st_Web_many f fd) :
    FnOk P G.w G.K mg base CX0 1 f fd ["self"] (spD G Φ_Web_many) :=
  fun_ok F sc_Web_many (fun cdv A outer s H E io hr => by
    have e := en_of (P := P) (G := G) (mg := mg) (base := base) (f := f) (cdv := cdv) (outer := outer) (H := H) (E := E) (io := io) sc_Web_many hr
    exact (jss_cons (js_ret (je_op (ob_fdiv e) (je_cb (cf_len e) T.len bt_len (ja_cons (je_fld e T.cWeb T.nWeb_turn (je_var 0)) ja_nil)) je_int))
    jss_nil)) (fun _ _ _ h => h)
theorem sc_check_dart : FnScope ["web", "dart"] ["web", "dart"] (defScope st_check_dart) := ⟨rfl, rfl, rfl, by decide +kernel, rfl, by decide +kernel, by decide +kernel⟩
theorem ok_check_dart (T : Tx G mg) {f : Addr} {fd : FuncData} (F : Fun G.K "check_dart" "check_dart" st_check_dart f fd)
    (c_is_count : FnAt P G.w G.K mg base G "is_count" 2 ["value"] Φ_is_count)
    (c_Web_many : PrAt P G.w G.K mg base G 0 "many" 1 ["self"] Φ_Web_many) :
    FnOk P G.w G.K mg base CX0 3 f fd ["web", "dart"] (spD G Φ_check_dart) :=
  fun_ok F sc_check_dart (fun cdv A outer s H E io hr => by
    have e := en_of (P := P) (G := G) (mg := mg) (base := base) (f := f) (cdv := cdv) (outer := outer) (H := H) (E := E) (io := io) sc_check_dart hr
    exact (jss_cons (js_if (jw_or (jt_not (jt_tru e (je_call c_is_count hr (ja_cons (je_var 1) ja_nil)))) (jw_or1 (jt_cmp (oc_ge e) (je_var 1) (je_op (ob_mul e) je_int (je_prop T.cWeb c_Web_many hr (je_var 0)))))).pt jss_never jss_nil)
    jss_nil)) (fun _ _ _ h => h)
theorem sc_Web_turn : FnScope ["self"] ["self"] (defScope st_Web_turn) := ⟨rfl, rfl, rfl, by decide +kernel, rfl, by decide +kernel, by decide +kernel⟩
theorem ok_Web_turn (T : Tx G mg) {f : Addr} {fd : FuncData} (F : Fun G.K "turn" "Web.turn" st_Web_turn f fd) :
    FnOk P G.w G.K mg base CX0 1 f fd ["self"] (spD G Φ_Web_turn) :=
  fun_ok F sc_Web_turn (fun cdv A outer s H E io hr => by
    have e := en_of (P := P) (G := G) (mg := mg) (base := base) (f := f) (cdv := cdv) (outer := outer) (H := H) (E := E) (io := io) sc_Web_turn hr
    exact (jss_cons (js_ret (je_fld e T.cWeb T.nWeb_turn (je_var 0)))
    jss_nil)) (fun _ _ _ h => h)
theorem sc_turn_from : FnScope ["web", "dart"] ["web", "dart"] (defScope st_turn_from) := ⟨rfl, rfl, rfl, by decide +kernel, rfl, by decide +kernel, by decide +kernel⟩
theorem ok_turn_from (T : Tx G mg) {f : Addr} {fd : FuncData} (F : Fun G.K "turn_from" "turn_from" st_turn_from f fd)
    (c_check_web : FnAt P G.w G.K mg base G "check_web" 1 ["web"] Φ_check_web)
    (c_check_dart : FnAt P G.w G.K mg base G "check_dart" 3 ["web", "dart"] Φ_check_dart)
    (c_read_from : FnAt P G.w G.K mg base G "read_from" 1 ["turn", "dart"] Φ_read_from)
    (c_Web_turn : MeAt P G.w G.K mg base G 0 "turn" 1 ["self"] Φ_Web_turn) :
    FnOk P G.w G.K mg base CX0 4 f fd ["web", "dart"] (spD G Φ_turn_from) :=
  fun_ok F sc_turn_from (fun cdv A outer s H E io hr => by
    have e := en_of (P := P) (G := G) (mg := mg) (base := base) (f := f) (cdv := cdv) (outer := outer) (H := H) (E := E) (io := io) sc_turn_from hr
    exact (jss_cons (js_expr (je_call c_check_web hr (ja_cons (je_var 0) ja_nil)))
    (jss_cons (js_expr (je_call c_check_dart hr (ja_cons (je_var 0) (ja_cons (je_var 1) ja_nil))))
    (jss_cons (js_ret (je_ix e (je_call c_read_from hr (ja_cons (je_meth0 T.cWeb c_Web_turn hr (je_var 0)) (ja_cons (je_var 1) ja_nil))) je_int))
    jss_nil)))) (fun _ _ _ h => h)
theorem sc_name : FnScope ["web", "turn", "dart"] ["web"] (defScope st_name) := ⟨rfl, rfl, rfl, by decide +kernel, rfl, by decide +kernel, by decide +kernel⟩
theorem ok_name (T : Tx G mg) {f : Addr} {fd : FuncData} (F : Fun G.K "name" "name" st_name f fd)
    (c_check_web : FnAt P G.w G.K mg base G "check_web" 1 ["web"] Φ_check_web)
    (c_Web_turn : MeAt P G.w G.K mg base G 0 "turn" 1 ["self"] Φ_Web_turn)
    (c_read_from : FnAt P G.w G.K mg base G "read_from" 1 ["turn", "dart"] Φ_read_from) :
    FnOk P G.w G.K mg base CX0 2 f fd ["web"] (spD G Φ_name) :=
  fun_ok F sc_name (fun cdv A outer s H E io hr => by
    have e := en_of (P := P) (G := G) (mg := mg) (base := base) (f := f) (cdv := cdv) (outer := outer) (H := H) (E := E) (io := io) sc_name hr
    exact (jss_cons (js_expr (je_call c_check_web hr (ja_cons (je_var 0) ja_nil)))
    (jss_cons (js_set e 1 (je_meth0 T.cWeb c_Web_turn hr (je_var 0)))
    (jss_cons (js_if (jt_cmp (oc_eq e) (je_var 1) (je_tup ja_nil)) (jss_cons (js_ret (je_tup ja_nil))
    jss_nil) jss_nil)
    (jss_cons (js_ret (je_cb (cf_minB e) T.min bt_min (ja_cons (je_lc (own := [("dart", 2)]) e (ji_rng1 T.range (ja_cons (je_lenB e 1 T.len) ja_nil)) (blkOk_by (by kernel_rfl)) (within_name (by decide)) (fun _ _ _ _ _ => (pg_name (i := 2) (e.blk _ _ _ _ _).nd rfl (Or.inl rfl))) (fun _ _ _ _ _ => jts_nil) (fun _ _ _ _ _ => (je_ix (e.blk _ _ _ _ _) (je_call c_read_from hr (ja_cons (je_var 1) (ja_cons (je_var 2) ja_nil))) je_int))) ja_nil)))
    jss_nil))))) (fun _ _ _ h => h)
theorem sc__law_called : FnScope ["pot", "turn", "names", "tie", "new", "at", "dart", "told", "after"] ["pot", "turn"] (defScope st__law_called) := ⟨rfl, rfl, rfl, by decide +kernel, rfl, by decide +kernel, by decide +kernel⟩
theorem ok__law_called (T : Tx G mg) {f : Addr} {fd : FuncData} (F : Fun G.K "_law_called" "_law_called" st__law_called f fd)
    (c__law_draw : FnAt P G.w G.K mg base G "_law_draw" 1 ["pot", "many"] Φ__law_draw) :
    FnOk P G.w G.K mg base CX0 2 f fd ["pot", "turn"] (spD G Φ__law_called) :=
  fun_ok F sc__law_called (fun cdv A outer s H E io hr => by
    have e := en_of (P := P) (G := G) (mg := mg) (base := base) (f := f) (cdv := cdv) (outer := outer) (H := H) (E := E) (io := io) sc__law_called hr
    exact (jss_cons (js_set e 2 (je_lst ja_nil))
    (jss_cons (js_for e (ji_rng1 T.range (ja_cons (je_op (ob_fdiv e) (je_lenB e 1 T.len) je_int) ja_nil)) (jg_name e 3) (jss_cons (js_ins 2 e (ja_cons (je_callIO c__law_draw hr 0 (ja_cons (je_op (ob_add e) (je_var 3) je_int) ja_nil)) (ja_cons (je_op (ob_add e) (je_op (ob_mul e) je_int (je_var 3)) (je_callIO c__law_draw hr 0 (ja_cons je_int ja_nil))) ja_nil)))
    jss_nil))
    (jss_cons (js_set e 4 (je_op (ob_mul e) (je_lst (ja_cons je_int ja_nil)) (je_lenB e 1 T.len)))
    (jss_cons (js_for e (ji_enum e T.enumerate (ja_cons (je_var 2) ja_nil)) (jg_tup e (jgs_cons (jg_name e 5) (jgs_cons (jg_name e 6) jgs_nil))) (jss_cons (js_asg (je_tup (ja_cons (je_op (ob_mul e) je_int (je_var 5)) (ja_cons (je_op (ob_add e) (je_op (ob_mul e) je_int (je_var 5)) je_int) ja_nil))) (jg_tup e (jgs_cons (jg_sub e 4 (je_var 6)) (jgs_cons (jg_sub e 4 (je_op (ob_xor e) (je_var 6) je_int)) jgs_nil))))
    jss_nil))
    (jss_cons (js_set e 7 (je_op (ob_mul e) (je_lst (ja_cons je_int ja_nil)) (je_lenB e 1 T.len)))
    (jss_cons (js_for e (ji_enum e T.enumerate (ja_cons (je_var 1) ja_nil)) (jg_tup e (jgs_cons (jg_name e 6) (jgs_cons (jg_name e 8) jgs_nil))) (jss_cons (js_asg (je_ixB e 4 (je_var 8)) (jg_sub e 7 (je_ixB e 4 (je_var 6))))
    jss_nil))
    (jss_cons (js_retV 7)
    jss_nil)))))))) (fun _ _ _ h => h)
theorem sc__law_back : FnScope ["turn", "back", "dart", "after"] ["turn"] (defScope st__law_back) := ⟨rfl, rfl, rfl, by decide +kernel, rfl, by decide +kernel, by decide +kernel⟩
theorem ok__law_back (T : Tx G mg) {f : Addr} {fd : FuncData} (F : Fun G.K "_law_back" "_law_back" st__law_back f fd) :
    FnOk P G.w G.K mg base CX0 1 f fd ["turn"] (spD G Φ__law_back) :=
  fun_ok F sc__law_back (fun cdv A outer s H E io hr => by
    have e := en_of (P := P) (G := G) (mg := mg) (base := base) (f := f) (cdv := cdv) (outer := outer) (H := H) (E := E) (io := io) sc__law_back hr
    exact (jss_cons (js_set e 1 (je_op (ob_mul e) (je_lst (ja_cons je_int ja_nil)) (je_lenB e 0 T.len)))
    (jss_cons (js_for e (ji_enum e T.enumerate (ja_cons (je_var 0) ja_nil)) (jg_tup e (jgs_cons (jg_name e 2) (jgs_cons (jg_name e 3) jgs_nil))) (jss_cons (js_asg (je_var 2) (jg_sub e 1 (je_var 3)))
    jss_nil))
    (jss_cons (js_retV 1)
    jss_nil)))) (fun _ _ _ h => h)
theorem sc_back_of : FnScope ["turn", "back", "dart", "far"] ["turn"] (defScope st_back_of) := ⟨rfl, rfl, rfl, by decide +kernel, rfl, by decide +kernel, by decide +kernel⟩
theorem ok_back_of (T : Tx G mg) {f : Addr} {fd : FuncData} (F : Fun G.K "back_of" "back_of" st_back_of f fd) :
    FnOk P G.w G.K mg base CX0 1 f fd ["turn"] (spD G Φ_back_of) :=
  fun_ok F sc_back_of (fun cdv A outer s H E io hr => by
    have e := en_of (P := P) (G := G) (mg := mg) (base := base) (f := f) (cdv := cdv) (outer := outer) (H := H) (E := E) (io := io) sc_back_of hr
    exact (jss_cons (js_set e 1 (je_op (ob_mul e) (je_lst (ja_cons je_int ja_nil)) (je_lenB e 0 T.len)))
    (jss_cons (js_for e (ji_enum e T.enumerate (ja_cons (je_var 0) ja_nil)) (jg_tup e (jgs_cons (jg_name e 2) (jgs_cons (jg_name e 3) jgs_nil))) (jss_cons (js_asg (je_var 2) (jg_sub e 1 (je_var 3)))
    jss_nil))
    (jss_cons (js_ret (je_ct (cf_tuple e) T.tuple bt_tuple (ja_cons (je_var 1) ja_nil)))
    jss_nil)))) (fun _ _ _ h => h)
theorem sc_behind : FnScope ["web"] ["web"] (defScope st_behind) := ⟨rfl, rfl, rfl, by decide +kernel, rfl, by decide +kernel, by decide +kernel⟩
theorem ok_behind (T : Tx G mg) {f : Addr} {fd : FuncData} (F : Fun G.K "behind" "behind" st_behind f fd)
    (c_check_web : FnAt P G.w G.K mg base G "check_web" 1 ["web"] Φ_check_web)
    (c_Web_init : MkAt P G.w G.K mg base G 0 5 ["self", "turn"] Φ_Web_init)
    (c_back_of : FnAt P G.w G.K mg base G "back_of" 1 ["turn"] Φ_back_of)
    (c_Web_turn : MeAt P G.w G.K mg base G 0 "turn" 1 ["self"] Φ_Web_turn) :
    FnOk P G.w G.K mg base CX0 7 f fd ["web"] (spD G Φ_behind) :=
  fun_ok F sc_behind (fun cdv A outer s H E io hr => by
    have e := en_of (P := P) (G := G) (mg := mg) (base := base) (f := f) (cdv := cdv) (outer := outer) (H := H) (E := E) (io := io) sc_behind hr
    exact (jss_cons (js_expr (je_call c_check_web hr (ja_cons (je_var 0) ja_nil)))
    (jss_cons (js_ret (je_make T.cWeb c_Web_init hr (ja_cons (je_call c_back_of hr (ja_cons (je_meth0 T.cWeb c_Web_turn hr (je_var 0)) ja_nil)) ja_nil)))
    jss_nil))) (fun _ _ _ h => h)
theorem sc_about : FnScope ["web"] ["web"] (defScope st_about) := ⟨rfl, rfl, rfl, by decide +kernel, rfl, by decide +kernel, by decide +kernel⟩
theorem ok_about (T : Tx G mg) {f : Addr} {fd : FuncData} (F : Fun G.K "about" "about" st_about f fd)
    (c_check_web : FnAt P G.w G.K mg base G "check_web" 1 ["web"] Φ_check_web)
    (c_Web_init : MkAt P G.w G.K mg base G 0 5 ["self", "turn"] Φ_Web_init)
    (c_about_of : FnAt P G.w G.K mg base G "about_of" 1 ["turn"] Φ_about_of)
    (c_Web_turn : MeAt P G.w G.K mg base G 0 "turn" 1 ["self"] Φ_Web_turn) :
    FnOk P G.w G.K mg base CX0 7 f fd ["web"] (spD G Φ_about) :=
  fun_ok F sc_about (fun cdv A outer s H E io hr => by
    have e := en_of (P := P) (G := G) (mg := mg) (base := base) (f := f) (cdv := cdv) (outer := outer) (H := H) (E := E) (io := io) sc_about hr
    exact (jss_cons (js_expr (je_call c_check_web hr (ja_cons (je_var 0) ja_nil)))
    (jss_cons (js_ret (je_make T.cWeb c_Web_init hr (ja_cons (je_call c_about_of hr (ja_cons (je_meth0 T.cWeb c_Web_turn hr (je_var 0)) ja_nil)) ja_nil)))
    jss_nil))) (fun _ _ _ h => h)
theorem sc_are_alike : FnScope ["web", "other"] ["web", "other"] (defScope st_are_alike) := ⟨rfl, rfl, rfl, by decide +kernel, rfl, by decide +kernel, by decide +kernel⟩
theorem ok_are_alike (T : Tx G mg) {f : Addr} {fd : FuncData} (F : Fun G.K "are_alike" "are_alike" st_are_alike f fd)
    (c_check_web : FnAt P G.w G.K mg base G "check_web" 1 ["web"] Φ_check_web)
    (c_Web_many : PrAt P G.w G.K mg base G 0 "many" 1 ["self"] Φ_Web_many)
    (c_name : FnAt P G.w G.K mg base G "name" 2 ["web"] Φ_name) :
    FnOk P G.w G.K mg base CX0 3 f fd ["web", "other"] (spD G Φ_are_alike) :=
  fun_ok F sc_are_alike (fun cdv A outer s H E io hr => by
    have e := en_of (P := P) (G := G) (mg := mg) (base := base) (f := f) (cdv := cdv) (outer := outer) (H := H) (E := E) (io := io) sc_are_alike hr
    exact (jss_cons (js_expr (je_call c_check_web hr (ja_cons (je_var 0) ja_nil)))
    (jss_cons (js_expr (je_call c_check_web hr (ja_cons (je_var 1) ja_nil)))
    (jss_cons (js_ret (je_and (je_cmp (oc_eq e) (je_prop T.cWeb c_Web_many hr (je_var 0)) (je_prop T.cWeb c_Web_many hr (je_var 1))) (je_and1 (je_cmp (oc_eq e) (je_call c_name hr (ja_cons (je_var 0) ja_nil)) (je_call c_name hr (ja_cons (je_var 1) ja_nil))))))
    jss_nil)))) (fun _ _ _ h => h)
theorem sc_law : FnScope ["script", "pot", "turn", "web", "size", "due", "step", "dart", "back", "side", "way", "other", "late", "told"] ["script"] (defScope st_law) := ⟨rfl, rfl, rfl, by decide +kernel, rfl, by decide +kernel, by decide +kernel⟩
theorem ok_law (T : Tx G mg) {f : Addr} {fd : FuncData} (F : Fun G.K "law" "law" st_law f fd)
    (c__law_pot : FnAt P G.w G.K mg base G "_law_pot" 1 ["script", "k"] Φ__law_pot)
    (c__law_draw : FnAt P G.w G.K mg base G "_law_draw" 1 ["pot", "many"] Φ__law_draw)
    (c__law_round : FnAt P G.w G.K mg base G "_law_round" 2 ["pot"] Φ__law_round)
    (c__law_any : FnAt P G.w G.K mg base G "_law_any" 2 ["pot", "many", "kind"] Φ__law_any)
    (c__law_two : FnAt P G.w G.K mg base G "_law_two" 7 ["turn"] Φ__law_two)
    (c__law_name : FnAt P G.w G.K mg base G "_law_name" 2 ["turn"] Φ__law_name)
    (c__law_same : FnAt P G.w G.K mg base G "_law_same" 7 ["told", "due"] Φ__law_same)
    (c_turn_from : FnAt P G.w G.K mg base G "turn_from" 4 ["web", "dart"] Φ_turn_from)
    (c__law_read : FnAt P G.w G.K mg base G "_law_read" 1 ["turn", "dart"] Φ__law_read)
    (c_name : FnAt P G.w G.K mg base G "name" 2 ["web"] Φ_name)
    (c__law_called : FnAt P G.w G.K mg base G "_law_called" 2 ["pot", "turn"] Φ__law_called)
    (c_Web_init : MkAt P G.w G.K mg base G 0 5 ["self", "turn"] Φ_Web_init)
    (c__law_back : FnAt P G.w G.K mg base G "_law_back" 1 ["turn"] Φ__law_back)
    (c__law_about : FnAt P G.w G.K mg base G "_law_about" 1 ["turn"] Φ__law_about)
    (c_Web_turn : MeAt P G.w G.K mg base G 0 "turn" 1 ["self"] Φ_Web_turn)
    (c_behind : FnAt P G.w G.K mg base G "behind" 7 ["web"] Φ_behind)
    (c_about : FnAt P G.w G.K mg base G "about" 7 ["web"] Φ_about)
    (c__law_laid : FnAt P G.w G.K mg base G "_law_laid" 1 ["turn", "corner", "steps"] Φ__law_laid)
    (c_are_alike : FnAt P G.w G.K mg base G "are_alike" 3 ["web", "other"] Φ_are_alike)
    (ki_are_alike : FnAtKi P G.w G.K mg base G "are_alike" 3 ["web", "other"] ["web", "other"] Φ_are_alike)
    (ki_name : FnAtKi P G.w G.K mg base G "name" 2 ["web"] ["web"] Φ_name)
    (ki_turn_from : FnAtKi P G.w G.K mg base G "turn_from" 4 ["web", "dart"] ["web", "dart"] Φ_turn_from)
    (ki_about : FnAtKi P G.w G.K mg base G "about" 7 ["web"] ["web"] Φ_about)
    (ki_behind : FnAtKi P G.w G.K mg base G "behind" 7 ["web"] ["web"] Φ_behind) :
    FnOk P G.w G.K mg base CX0 8 f fd ["script"] (spD G Φ_law) :=
  fun_ok F sc_law (fun cdv A outer s H E io hr => by
    have e := en_of (P := P) (G := G) (mg := mg) (base := base) (f := f) (cdv := cdv) (outer := outer) (H := H) (E := E) (io := io) sc_law hr
    exact (jss_cons (js_set e 1 (je_call c__law_pot hr (ja_cons (je_var 0) (ja_cons je_int ja_nil))))
    (jss_cons (js_set e 2 (je_if (jt_cmp (oc_eq e) (je_callIO c__law_draw hr 1 (ja_cons je_int ja_nil)) je_int) (je_callIO c__law_round hr 1 ja_nil) (je_callIO c__law_any hr 1 (ja_cons (je_callIO c__law_draw hr 1 (ja_cons je_int ja_nil)) (ja_cons (je_callIO c__law_draw hr 1 (ja_cons je_int ja_nil)) ja_nil)))))
    (jss_cons (js_par3 e 3 4 5 (ja_cons (je_call c__law_two hr (ja_cons (je_var 2) ja_nil)) (ja_cons (je_lenB e 2 T.len) (ja_cons (je_call c__law_name hr (ja_cons (je_var 2) ja_nil)) ja_nil))))
    (jss_cons (js_for e (ji_rng1 T.range (ja_cons (je_cb (cf_min2 e) T.min bt_min (ja_cons (je_var 4) (ja_cons je_int ja_nil))) ja_nil)) (jg_name e 6) (jss_cons (js_set e 7 (je_callIO c__law_draw hr 1 (ja_cons (je_var 4) ja_nil)))
    (jss_cons (js_if (jt_not (jt_tru e (je_call c__law_same hr (ja_cons (je_if (jt_cmp (oc_gt e) (je_var 6) je_int) (je_call c_turn_from hr (ja_cons (je_var 3) (ja_cons (je_var 7) ja_nil))) (je_callKi ki_turn_from hr (jk_cons (je_var 3) (jk_cons (je_var 7) jk_nil)))) (ja_cons (je_call c__law_read hr (ja_cons (je_var 2) (ja_cons (je_var 7) ja_nil))) ja_nil))))) (jss_cons (js_ret je_bl)
    jss_nil) jss_nil)
    jss_nil)))
    (jss_cons (js_if (jw_or (jt_not (jt_tru e (je_call c__law_same hr (ja_cons (je_call c_name hr (ja_cons (je_var 3) ja_nil)) (ja_cons (je_var 5) ja_nil))))) (jw_or1 (jt_not (jt_tru e (je_call c__law_same hr (ja_cons (je_call c_name hr (ja_cons (je_call c__law_two hr (ja_cons (je_callIO c__law_called hr 1 (ja_cons (je_var 2) ja_nil)) ja_nil)) ja_nil)) (ja_cons (je_var 5) ja_nil))))))).pt (jss_cons (js_ret je_bl)
    jss_nil) jss_nil)
    (jss_cons (js_if (jw_or (jt_not (jt_tru e (je_call c__law_same hr (ja_cons (je_callKi ki_name hr (jk_cons (je_make T.cWeb c_Web_init hr (ja_cons (je_var 5) ja_nil)) jk_nil)) (ja_cons (je_var 5) ja_nil))))) (jw_or1 (jw_and (jt_cmp (oc_lt e) (je_var 4) je_int) (jw_and1 (jt_not (jt_tru e (je_call c__law_same hr (ja_cons (je_call c_name hr (ja_cons (je_var 3) ja_nil)) (ja_cons (je_var 5) ja_nil))))))).pt)).pt (jss_cons (js_ret je_bl)
    jss_nil) jss_nil)
    (jss_cons (js_par e 8 9 (je_call c__law_back hr (ja_cons (je_var 2) ja_nil)) (je_call c__law_about hr (ja_cons (je_var 2) ja_nil)))
    (jss_cons (js_if (jt_not (jt_tru e (je_call c__law_same hr (ja_cons (je_lst (ja_cons (je_meth0 T.cWeb c_Web_turn hr (je_fz (je_call c_behind hr (ja_cons (je_var 3) ja_nil)))) (ja_cons (je_meth0 T.cWeb c_Web_turn hr (je_fz (je_callKi ki_about hr (jk_cons (je_var 3) jk_nil)))) ja_nil))) (ja_cons (je_lst (ja_cons (je_ct (cf_tuple e) T.tuple bt_tuple (ja_cons (je_var 8) ja_nil)) (ja_cons (je_ct (cf_tuple e) T.tuple bt_tuple (ja_cons (je_var 9) ja_nil)) ja_nil))) ja_nil))))) (jss_cons (js_ret je_bl)
    jss_nil) jss_nil)
    (jss_cons (js_if (jt_not (jt_tru e (je_call c__law_same hr (ja_cons (je_lst (ja_cons (je_meth0 T.cWeb c_Web_turn hr (je_fz (je_call c_about hr (ja_cons (je_call c_behind hr (ja_cons (je_var 3) ja_nil)) ja_nil)))) (ja_cons (je_meth0 T.cWeb c_Web_turn hr (je_fz (je_callKi ki_behind hr (jk_cons (je_call c_about hr (ja_cons (je_var 3) ja_nil)) jk_nil)))) ja_nil))) (ja_cons (je_lst (ja_cons (je_ct (cf_tuple e) T.tuple bt_tuple (ja_cons (je_call c__law_about hr (ja_cons (je_var 8) ja_nil)) ja_nil)) (ja_cons (je_ct (cf_tuple e) T.tuple bt_tuple (ja_cons (je_call c__law_back hr (ja_cons (je_var 9) ja_nil)) ja_nil)) ja_nil))) ja_nil))))) (jss_cons (js_ret je_bl)
    jss_nil) jss_nil)
    (jss_cons (js_set e 1 (je_call c__law_pot hr (ja_cons (je_var 0) (ja_cons je_int ja_nil))))
    (jss_cons (js_set e 10 (je_callIO c__law_draw hr 1 (ja_cons je_int ja_nil)))
    (jss_cons (js_set e 11 (je_ix e (je_lst (ja_cons (je_var 8) (ja_cons (je_var 9) (ja_cons (je_call c__law_about hr (ja_cons (je_var 8) ja_nil)) (ja_cons (je_if (jt_cmp (oc_lt e) (je_var 4) je_int) (je_call c__law_laid hr (ja_cons (je_var 2) (ja_cons je_int (ja_cons (je_callIO c__law_draw hr 1 (ja_cons je_int ja_nil)) ja_nil)))) (je_var 2)) ja_nil))))) (je_var 10)))
    (jss_cons (js_set e 12 (je_call c__law_name hr (ja_cons (je_var 11) ja_nil)))
    (jss_cons (js_set e 13 (je_ix e (je_lst (ja_cons (je_call c_behind hr (ja_cons (je_var 3) ja_nil)) (ja_cons (je_call c_about hr (ja_cons (je_var 3) ja_nil)) (ja_cons (je_call c_about hr (ja_cons (je_call c_behind hr (ja_cons (je_var 3) ja_nil)) ja_nil)) (ja_cons (je_call c__law_two hr (ja_cons (je_var 11) ja_nil)) ja_nil))))) (je_var 10)))
    (jss_cons (js_if (jw_or (jt_not (jt_tru e (je_call c__law_same hr (ja_cons (je_call c_name hr (ja_cons (je_var 13) ja_nil)) (ja_cons (je_var 12) ja_nil))))) (jw_or1 (jt_not (jt_tru e (je_call c__law_same hr (ja_cons (je_meth0 T.cWeb c_Web_turn hr (je_var 3)) (ja_cons (je_ct (cf_tuple e) T.tuple bt_tuple (ja_cons (je_var 2) ja_nil)) ja_nil))))))).pt (jss_cons (js_ret je_bl)
    jss_nil) jss_nil)
    (jss_cons (js_if (jw_and (jt_cmp (oc_lt e) (je_var 4) je_int) (jw_and1 (jt_not (jt_tru e (je_call c__law_same hr (ja_cons (je_call c_are_alike hr (ja_cons (je_var 3) (ja_cons (je_var 13) ja_nil))) (ja_cons (je_cmp (oc_eq e) (je_var 12) (je_var 5)) ja_nil))))))).pt (jss_cons (js_ret je_bl)
    jss_nil) jss_nil)
    (jss_cons (js_ret (je_call c__law_same hr (ja_cons (je_callKi ki_are_alike hr (jk_cons (je_var 13) (jk_cons (je_var 3) jk_nil))) (ja_cons (je_cmp (oc_eq e) (je_var 12) (je_var 5)) ja_nil))))
    jss_nil)))))))))))))))))) (fun _ _ _ h => h)
end
end K12

set_option Elab.async false
set_option linter.all false
namespace WM
section
variable {n m : Nat} {f g T : Nat → Nat} {V : Nat}
theorem Pm.conj (P : Pm n f) (h : Nat → Nat) (hb : ∀ x, x < n → h x < n) (hh : ∀ x, x < n → h (h x) = x) (e : ∀ x, x < n → g (h x) = h (f x)) : Pm n g := by
  have k : ∀ x, x < n → g x = h (f (h x)) := fun x hx => by rw [← e _ (hb x hx), hh x hx]
  refine ⟨fun x hx => by rw [k x hx]; exact hb _ (P.lt _ (hb x hx)), fun x y hx hy q => ?_⟩
  rw [k x hx, k y hy] at q
  have q2 : h (h (f (h x))) = h (h (f (h y))) := by rw [q]
  rw [hh _ (P.lt _ (hb x hx)), hh _ (P.lt _ (hb y hy))] at q2
  have q3 := P.inj _ _ (hb x hx) (hb y hy) q2
  have q4 : h (h x) = h (h y) := by rw [q3]
  rw [hh x hx, hh y hy] at q4
  exact q4
/-- a tie made two -/
def sb (T : Nat → Nat) (n r : Nat) : Nat → Nat := fun x => if x = 2 * n then r else if x = 2 * n + 1 then (if T r = r then 2 * n + 1 else T r) else if x = r then 2 * n else if T x = r then 2 * n + 1 else T x
theorem Wb.sub (W : Wb n T V) {t : Nat} (ht : t < n) : Wb (n + 1) (sb T n (2 * t + 1)) (V + 1) := by
  have hr : 2 * t + 1 < 2 * n := by omega
  have s0 : sb T n (2 * t + 1) (2 * n) = 2 * t + 1 := if_pos rfl
  have s1 : sb T n (2 * t + 1) (2 * n + 1) = if T (2 * t + 1) = 2 * t + 1 then 2 * n + 1 else T (2 * t + 1) := by unfold sb; rw [if_neg (by omega), if_pos rfl]
  have sr : sb T n (2 * t + 1) (2 * t + 1) = 2 * n := by unfold sb; rw [if_neg (by omega), if_neg (by omega), if_pos rfl]
  have so : ∀ x, x < 2 * n → x ≠ 2 * t + 1 → sb T n (2 * t + 1) x = if T x = 2 * t + 1 then 2 * n + 1 else T x := fun x h1 h2 => by unfold sb; rw [if_neg (by omega), if_neg (by omega), if_neg h2]
  have P1 := W.pm.fx
  have P2 := P1.ins (a := 2 * n) (by omega)
  let h : Nat → Nat := fun x => if x = 2 * t + 1 then 2 * n + 1 else if x = 2 * n + 1 then 2 * t + 1 else x
  have h_r : h (2 * t + 1) = 2 * n + 1 := if_pos rfl
  have h_n : h (2 * n + 1) = 2 * t + 1 := by show (if _ then _ else _) = _; rw [if_neg (by omega), if_pos rfl]
  have h_o : ∀ x, x ≠ 2 * t + 1 → x ≠ 2 * n + 1 → h x = x := fun x a b => by show (if _ then _ else _) = _; rw [if_neg a, if_neg b]
  have hb : ∀ x, x < 2 * n + 1 + 1 → h x < 2 * n + 1 + 1 := fun x hx => by
    by_cases a : x = 2 * t + 1
    · rw [a, h_r]; omega
    · by_cases b : x = 2 * n + 1
      · rw [b, h_n]; omega
      · rw [h_o x a b]; exact hx
  have hh : ∀ x, x < 2 * n + 1 + 1 → h (h x) = x := fun x hx => by
    by_cases a : x = 2 * t + 1
    · rw [a, h_r, h_n]
    · by_cases b : x = 2 * n + 1
      · rw [b, h_n, h_r]
      · rw [h_o x a b, h_o x a b]
  have he : ∀ x, x < 2 * n + 1 + 1 → sb T n (2 * t + 1) (h x) = h (ins (fx T (2 * n)) (2 * n) (2 * n + 1) x) := fun x hx => by
    by_cases a : x = 2 * n
    · rw [a, h_o _ (by omega) (by omega), s0, ins_a, h_n]
    · by_cases b : x = 2 * n + 1
      · rw [b, h_n, sr, ins_m (by omega), fx_m, h_o _ (by omega) (by omega)]
      · rw [ins_o a b, fx_o a]
        have hx2 := W.pm.lt x (by omega)
        by_cases c : x = 2 * t + 1
        · rw [c, h_r, s1]
          rw [c] at hx2
          by_cases d : T (2 * t + 1) = 2 * t + 1
          · rw [if_pos d, d, h_r]
          · rw [if_neg d, h_o _ d (by omega)]
        · rw [h_o x c b, so x (by omega) c]
          by_cases d : T x = 2 * t + 1
          · rw [if_pos d, d, h_r]
          · rw [if_neg d, h_o _ d (by omega)]
  refine ⟨by rw [two_succ]; exact P2.conj h hb hh he, by rw [two_succ, ← ncl_conj h hb hh P2 he, ncl_ins P1 (by omega), ncl_fx W.pm, W.vs], ?_, con_of W (by omega) (fun S c1 c2 x hx q => ?_) (fun S c1 all => ?_)⟩
  · have PA := W.pm.ab
    have PB := PA.ins (a := 2 * t) (by omega)
    obtain ⟨y, hy, ey⟩ := PB.surj (y := 2 * t + 1) (by omega)
    have PC := PB.ins hy
    have f2t : fl (2 * t) = 2 * t + 1 := fl_2 t
    have b2n : ins (WM.ab T) (2 * t) (2 * n) (2 * n) = T (2 * t + 1) := by rw [ins_m (by omega)]; unfold WM.ab; rw [f2t]
    have e : ∀ x, x < 2 * n + 1 + 1 → WM.ab (sb T n (2 * t + 1)) x = ins (ins (WM.ab T) (2 * t) (2 * n)) y (2 * n + 1) x := fun x hx => by
      by_cases a : x = 2 * n
      · have el : WM.ab (sb T n (2 * t + 1)) x = sb T n (2 * t + 1) (2 * n + 1) := by rw [a]; unfold WM.ab; rw [fl_2]
        rw [el, s1, a]
        by_cases d : T (2 * t + 1) = 2 * t + 1
        · have : y = 2 * n := PB.inj _ _ hy (by omega) (by rw [ey, b2n, d])
          rw [if_pos d, this, ins_a]
        · have : 2 * n ≠ y := fun z => d (b2n.symm.trans ((congrArg _ z).trans ey))
          rw [if_neg d, ins_o this (by omega), b2n]
      · by_cases b : x = 2 * n + 1
        · have el : WM.ab (sb T n (2 * t + 1)) x = sb T n (2 * t + 1) (2 * n) := by rw [b]; unfold WM.ab; rw [fl_21]
          rw [el, s0, b, ins_m (by omega), ey]
        · have hl := fl_lt (n := n) (x := x) (by omega)
          by_cases c : x = 2 * t
          · have el : WM.ab (sb T n (2 * t + 1)) x = 2 * n := by rw [c]; unfold WM.ab; rw [f2t, sr]
            have ny : x ≠ y := fun z => by rw [← z, c, ins_a] at ey; omega
            rw [el, ins_o ny b, c, ins_a]
          · have nf : fl x ≠ 2 * t + 1 := fun z => c (by rw [← fl_fl x, z, fl_21])
            have el : WM.ab (sb T n (2 * t + 1)) x = if T (fl x) = 2 * t + 1 then 2 * n + 1 else T (fl x) := so _ hl nf
            have bx : ins (WM.ab T) (2 * t) (2 * n) x = T (fl x) := by rw [ins_o c a]; rfl
            rw [el]
            by_cases d : T (fl x) = 2 * t + 1
            · have : x = y := PB.inj _ _ (by omega) hy (by rw [bx, d, ey])
              rw [if_pos d, this, ins_a]
            · have : x ≠ y := fun z => d (bx.symm.trans ((congrArg _ z).trans ey))
              rw [if_neg d, ins_o this b, bx]
    rw [two_succ, Cy.ncl e, ncl_ins PB hy, ncl_ins PA (by omega)]
    have := W.fs; omega
  · by_cases a : x = 2 * t + 1
    · have b := c1 x (by omega) q
      rw [a, sr] at b
      have d := c2 _ (by omega) b
      rw [fl_2] at d
      have e := c1 _ (by omega) d
      rw [s1] at e
      by_cases z : T (2 * t + 1) = 2 * t + 1
      · rw [a, z, ← a]; exact q
      · rw [if_neg z] at e; rw [a]; exact e
    · have b := c1 x (by omega) q
      rw [so x hx a] at b
      by_cases d : T x = 2 * t + 1
      · rw [if_pos d] at b
        have e := c2 _ (by omega) b
        rw [fl_21] at e
        have k := c1 _ (by omega) e
        rw [s0] at k
        rw [d]; exact k
      · rw [if_neg d] at b; exact b
  · have b := c1 (2 * t + 1) (by omega) (all _ hr)
    rw [sr] at b
    exact b
/-! ### the first tie -/
theorem ncl_one {R : Nat → Nat → Prop} (hn : 0 < n) (h : ∀ x, x < n → R 0 x) : ncl n R = 1 := by
  classical
  unfold ncl
  have : (List.range n).filter (fun x => decide (Mn R x)) = [0] := by
    obtain ⟨k, rfl⟩ : ∃ k, n = k + 1 := ⟨n - 1, by omega⟩
    rw [List.range_succ_eq_map, List.filter_cons]
    rw [if_pos (by simp [Mn])]
    congr 1
    refine List.filter_eq_nil_iff.mpr fun x hx => ?_
    obtain ⟨y, hy, e⟩ := List.mem_map.mp hx
    have hy := List.mem_range.mp hy
    subst e
    simp only [decide_eq_true_eq]
    exact fun q => q 0 (Nat.succ_pos y) (h _ (by omega))
  rw [this]; rfl
theorem ncl_id (h : ∀ x, x < n → f x = x) : ncl n (Cy n f) = n := by
  classical
  unfold ncl
  have e : (List.range n).filter (fun x => decide (Mn (Cy n f) x)) = List.range n := by
    refine List.filter_eq_self.mpr fun x hx => ?_
    simp only [decide_eq_true_eq]
    intro y hy r
    have := EC.stay (S := fun z => z = y) (fun u v ⟨p, q⟩ => by rw [h u p] at q; rw [q]) r
    have := this.mp rfl
    omega
  rw [e, List.length_range]
theorem lt2 {x : Nat} (h : x < 2 * 1) : x = 0 ∨ x = 1 := by omega
theorem Wb.one (h0 : T 0 = 1) (h1 : T 1 = 0) : Wb 1 T 1 := by
  refine ⟨⟨fun x hx => ?_, fun x y hx hy e => ?_⟩, ncl_one (by omega) fun x hx => ?_, ?_, fun S s0 s1 s2 x hx => ?_⟩
  · rcases lt2 hx with rfl | rfl <;> omega
  · rcases lt2 hx with rfl | rfl <;> rcases lt2 hy with rfl | rfl <;> omega
  · rcases lt2 hx with rfl | rfl
    · exact .rf _
    · exact .one ⟨by omega, h0⟩
  · rw [ncl_id fun x hx => ?_]
    rcases lt2 hx with rfl | rfl
    · exact h1
    · exact h0
  · rcases lt2 hx with rfl | rfl
    · exact s0
    · exact s2 0 (by omega) s0
theorem Wb.two (h0 : T 0 = 0) (h1 : T 1 = 1) : Wb 1 T 2 := by
  refine ⟨⟨fun x hx => ?_, fun x y hx hy e => ?_⟩, ncl_id fun x hx => ?_, ?_, fun S s0 s1 s2 x hx => ?_⟩
  · rcases lt2 hx with rfl | rfl <;> omega
  · rcases lt2 hx with rfl | rfl <;> rcases lt2 hy with rfl | rfl <;> omega
  · rcases lt2 hx with rfl | rfl <;> assumption
  · rw [ncl_one (by omega) fun x hx => ?_]
    rcases lt2 hx with rfl | rfl
    · exact .rf _
    · exact .one ⟨by omega, h1⟩
  · rcases lt2 hx with rfl | rfl
    · exact s0
    · exact s2 0 (by omega) s0
/-- behind, about -/
theorem Wb.about (W : Wb n T V) (hn : 0 < n) : Wb n (WM.ab T) (n + 2 - V) := by
  have h := W.fs
  have e : ∀ x, x < 2 * n → WM.ab (WM.ab T) x = T x := fun x hx => by unfold WM.ab; rw [fl_fl]
  refine ⟨W.pm.ab, by omega, ?_, fun S s0 s1 s2 => W.con S s0 (fun x hx q => ?_) s2⟩
  · rw [Cy.ncl e, W.vs]
    omega
  · have a := s2 x hx q
    have b := s1 _ (fl_lt hx) a
    unfold WM.ab at b
    rw [fl_fl] at b
    exact b
end
end WM

set_option Elab.async false
set_option linter.all false
namespace WM
section
variable {n : Nat} {T : Nat → Nat} {V : Nat} {K : Nat → Bool}
/-! ### states: the ties kept are K -/
def pi (T : Nat → Nat) (K : Nat → Bool) : Nat → Nat := fun x => if K (T x / 2) = true then fl (T x) else T x
/-- joined by places and ties kept -/
def Pl (n : Nat) (T : Nat → Nat) (K : Nat → Bool) : Nat → Nat → Prop := EC fun x y => x < 2 * n ∧ (T x = y ∨ (K (x / 2) = true ∧ fl x = y))
noncomputable def cn (n : Nat) (T : Nat → Nat) (K : Nat → Bool) : Nat := ncl (2 * n) (Cy (2 * n) (pi T K))
noncomputable def pn (n : Nat) (T : Nat → Nat) (K : Nat → Bool) : Nat := ncl (2 * n) (Pl n T K)
theorem pi_half (x : Nat) : pi T K x / 2 = T x / 2 := by unfold pi; split; exact fl_half _; rfl
theorem Pm.pi (P : Pm (2 * n) T) : Pm (2 * n) (pi T K) := by
  refine ⟨fun x hx => ?_, fun x y hx hy e => ?_⟩
  · unfold WM.pi; split
    · exact fl_lt (P.lt x hx)
    · exact P.lt x hx
  · have h : T x / 2 = T y / 2 := by rw [← pi_half (K := K), e, pi_half]
    unfold WM.pi at e
    rw [h] at e
    split at e
    · refine P.inj x y hx hy ?_
      rw [← fl_fl (T x), e, fl_fl]
    · exact P.inj x y hx hy e
def add (K : Nat → Bool) (t : Nat) : Nat → Bool := fun x => K x || decide (x = t)
theorem pi_add (P : Pm (2 * n) T) {t : Nat} (ht : t < n) (hK : K t = false) : ∃ a b, a < 2 * n ∧ b < 2 * n ∧ a ≠ b ∧ pi T K a = 2 * t ∧ pi T K b = 2 * t + 1 ∧ ∀ x, x < 2 * n → pi T (add K t) x = swp (pi T K) a b x := by
  have Q := P.pi (K := K)
  obtain ⟨a, ha, ea⟩ := Q.surj (y := 2 * t) (by omega)
  obtain ⟨b, hb, eb⟩ := Q.surj (y := 2 * t + 1) (by omega)
  have ne : a ≠ b := fun e => by rw [e, eb] at ea; omega
  refine ⟨a, b, ha, hb, ne, ea, eb, fun x hx => ?_⟩
  have at_t : ∀ y, T y / 2 = t → pi T (add K t) y = fl (T y) ∧ pi T K y = T y := fun y h => by
    unfold pi add
    rw [h, hK]
    exact ⟨by simp, by simp⟩
  have off : ∀ y, T y / 2 ≠ t → pi T (add K t) y = pi T K y := fun y h => by
    unfold pi add
    simp [h]
  by_cases h : T x / 2 = t
  · obtain ⟨e1, e2⟩ := at_t x h
    rw [e1]
    rcases (by omega : T x = 2 * t ∨ T x = 2 * t + 1) with z | z
    · have : x = a := Q.inj _ _ hx ha (by rw [e2, z, ea])
      rw [this, swp_a, eb, ← this, z, fl_2]
    · have : x = b := Q.inj _ _ hx hb (by rw [e2, z, eb])
      rw [this, swp_b, ea, ← this, z, fl_21]
  · rw [off x h]
    have na : x ≠ a := fun z => by have := pi_half (T := T) (K := K) x; rw [z, ea, ← z] at this; omega
    have nb : x ≠ b := fun z => by have := pi_half (T := T) (K := K) x; rw [z, eb, ← z] at this; omega
    rw [swp_o na nb]
theorem cy_pl (P : Pm (2 * n) T) {x y : Nat} (h : Cy (2 * n) (pi T K) x y) : Pl n T K x y := by
  refine EC.mono (fun u v ⟨p, q⟩ => ?_) h
  have s : EC (fun x y => x < 2 * n ∧ (T x = y ∨ (K (x / 2) = true ∧ fl x = y))) u (T u) := .one ⟨p, .inl rfl⟩
  rw [← q]
  unfold pi
  split
  · rename_i k
    exact s.tr (.one ⟨P.lt u p, .inr ⟨k, rfl⟩⟩)
  · exact s
theorem pl_add {t : Nat} (ht : t < n) {x y : Nat} : Pl n T (add K t) x y ↔ jn (Pl n T K) (2 * t) (2 * t + 1) x y := by
  unfold Pl
  rw [← EC.jn]
  constructor
  · refine EC.mono fun u v ⟨p, q⟩ => ?_
    rcases q with q | ⟨q, r⟩
    · exact .one (.inl ⟨p, .inl q⟩)
    · unfold add at q
      by_cases k : K (u / 2) = true
      · exact .one (.inl ⟨p, .inr ⟨k, r⟩⟩)
      · have hu : u / 2 = t := by simpa [k] using q
        rcases (by omega : u = 2 * t ∨ u = 2 * t + 1) with z | z
        · refine .one (.inr ⟨z, ?_⟩)
          rw [← r, z, fl_2]
        · refine (EC.one (.inr ⟨?_, z⟩)).sy
          rw [← r, z, fl_21]
  · refine EC.mono fun u v h => ?_
    rcases h with ⟨p, q⟩ | ⟨rfl, rfl⟩
    · refine .one ⟨p, ?_⟩
      rcases q with q | ⟨q, r⟩
      · exact .inl q
      · exact .inr ⟨by unfold add; simp [q], r⟩
    · refine .one ⟨by omega, .inr ⟨?_, fl_2 t⟩⟩
      unfold add
      simp
/-- a tie more -/
theorem step_law (P : Pm (2 * n) T) {t : Nat} (ht : t < n) (hK : K t = false) :
    (pn n T (add K t) + 1 = pn n T K ∧ cn n T (add K t) + 1 = cn n T K) ∨ (pn n T (add K t) = pn n T K ∧ (cn n T (add K t) + 1 = cn n T K ∨ cn n T (add K t) = cn n T K + 1)) := by
  obtain ⟨a, b, ha, hb, ne, ea, eb, hs⟩ := pi_add P ht hK
  have ec : cn n T (add K t) = ncl (2 * n) (Cy (2 * n) (swp (pi T K) a b)) := Cy.ncl hs
  have ep : pn n T (add K t) = ncl (2 * n) (jn (Pl n T K) (2 * t) (2 * t + 1)) := ncl_ext fun x y _ _ => pl_add ht
  have E : Eqv (2 * n) (Pl n T K) := EC.eqv _ _
  have sw := swap_law (P.pi (K := K)) ha hb ne
  unfold cn pn at *
  by_cases h : Pl n T K (2 * t) (2 * t + 1)
  · right
    refine ⟨by rw [ep, jn_same E (by omega) (by omega) h], ?_⟩
    rw [ec]
    rcases sw with ⟨_, z⟩ | ⟨_, z⟩
    · exact .inl z
    · exact .inr z
  · left
    refine ⟨by rw [ep, jn_less E (by omega) (by omega) h], ?_⟩
    rw [ec]
    rcases sw with ⟨_, z⟩ | ⟨z, _⟩
    · exact z
    · refine absurd ?_ h
      have a1 : Cy (2 * n) (pi T K) a (2 * t) := by rw [← ea]; exact Cy.st ha
      have b1 : Cy (2 * n) (pi T K) b (2 * t + 1) := by rw [← eb]; exact Cy.st hb
      exact cy_pl P (a1.sy.tr (z.tr b1))
/-- the ties of a list -/
def inl (ks : List Nat) : Nat → Bool := fun t => ks.contains t
theorem inl_cons (t : Nat) (ks : List Nat) : inl (t :: ks) = add (inl ks) t := by
  funext x
  unfold inl add
  rw [List.contains_cons, Bool.or_comm]
  congr 1
noncomputable def gz (n : Nat) (T : Nat → Nat) (V : Nat) (ks : List Nat) : Int := 2 * (pn n T (inl ks) : Int) + ks.length - V - (cn n T (inl ks) : Int)
theorem gz_step (P : Pm (2 * n) T) {t : Nat} {ks : List Nat} (ht : t < n) (h : t ∉ ks) : gz n T V ks ≤ gz n T V (t :: ks) := by
  have hK : inl ks t = false := by unfold inl; simpa using h
  unfold gz
  rw [inl_cons, List.length_cons]
  rcases step_law P ht hK with ⟨a, b⟩ | ⟨a, b | b⟩ <;> omega
theorem gz_app (P : Pm (2 * n) T) {ks : List Nat} : ∀ {l : List Nat}, (l ++ ks).Nodup → (∀ t ∈ l, t < n) → gz n T V ks ≤ gz n T V (l ++ ks)
  | [], _, _ => Int.le_refl _
  | t :: l, nd, h => by
    have nd : (t :: (l ++ ks)).Nodup := nd
    obtain ⟨n1, n2⟩ := List.nodup_cons.mp nd
    exact Int.le_trans (gz_app P n2 fun x hx => h x (List.mem_cons_of_mem _ hx)) (gz_step P (h t (List.mem_cons_self ..)) n1)
theorem cn_dual (P : Pm (2 * n) T) {K' : Nat → Bool} (h : ∀ t, t < n → K' t = !K t) : cn n (ab T) K' = cn n T K := by
  refine ncl_conj fl (fun x hx => fl_lt hx) (fun x _ => fl_fl x) P.ab.pi fun x hx => ?_
  have hl := P.lt _ (fl_lt hx)
  have hk := h (T (fl x) / 2) (by omega)
  unfold pi ab
  rw [hk]
  cases q : K (T (fl x) / 2) with
  | true => simp [q]
  | false => simp [q, fl_fl]
theorem cn_none (h : ∀ t, t < n → K t = false) (P : Pm (2 * n) T) : cn n T K = ncl (2 * n) (Cy (2 * n) T) := Cy.ncl fun x hx => by
  have hl := P.lt x hx
  unfold pi
  rw [h _ (by omega)]
  simp
theorem cn_all (h : ∀ t, t < n → K t = true) (P : Pm (2 * n) T) : cn n T K = ncl (2 * n) (Cy (2 * n) (ab T)) := by
  rw [← cn_dual (K' := fun _ => false) P fun t ht => by rw [h t ht]; rfl]
  exact cn_none (fun _ _ => rfl) P.ab
theorem pn_none (h : ∀ t, t < n → K t = false) : pn n T K = ncl (2 * n) (Cy (2 * n) T) := ncl_ext fun x y _ _ => by
  unfold Pl Cy
  constructor
  · refine EC.mono fun u v ⟨p, q⟩ => ?_
    rcases q with q | ⟨q, _⟩
    · exact .one ⟨p, q⟩
    · rw [h _ (by omega)] at q; cases q
  · exact EC.mono fun u v ⟨p, q⟩ => .one ⟨p, .inl q⟩
theorem pn_all (h : ∀ t, t < n → K t = true) (W : Wb n T V) (hn : 0 < n) : pn n T K = 1 := by
  refine ncl_one (by omega) (W.con _ (.rf _) (fun x hx q => q.tr (.one ⟨hx, .inl rfl⟩)) fun x hx q => q.tr (.one ⟨hx, .inr ⟨h _ (by omega), rfl⟩⟩))
/-- circles, pieces, ties kept, places -/
theorem state_law (W : Wb n T V) (hn : 0 < n) {ks : List Nat} (nd : ks.Nodup) (hk : ∀ t ∈ ks, t < n) : cn n T (inl ks) + V = 2 * pn n T (inl ks) + ks.length := by
  let l := (List.range n).filter fun t => !ks.contains t
  have nd2 : (l ++ ks).Nodup := by
    rw [List.nodup_append]
    refine ⟨List.nodup_range.filter _, nd, fun x hx y hy e => ?_⟩
    have := (List.mem_filter.mp hx).2
    subst e
    simp at this
    exact this hy
  have hl : ∀ t ∈ l, t < n := fun t ht => List.mem_range.mp (List.mem_filter.mp ht).1
  have all : ∀ t, t < n → t ∈ l ++ ks := fun t ht => by
    by_cases h : t ∈ ks
    · exact List.mem_append_right _ h
    · exact List.mem_append_left _ (List.mem_filter.mpr ⟨List.mem_range.mpr ht, by simpa using h⟩)
  have len : (l ++ ks).length = n := by
    refine Nat.le_antisymm ?_ ?_
    · have := sub_len (l' := List.range n) nd2 fun x hx => List.mem_range.mpr (by
        rcases List.mem_append.mp hx with h | h
        · exact hl x h
        · exact hk x h)
      rwa [List.length_range] at this
    · have := sub_len (l := List.range n) (l' := l ++ ks) List.nodup_range fun x hx => all x (List.mem_range.mp hx)
      rwa [List.length_range] at this
  have g0 : gz n T V [] = 0 := by
    have h : ∀ t, t < n → inl [] t = false := fun _ _ => rfl
    unfold gz
    rw [cn_none h W.pm, pn_none h, W.vs]
    simp
    omega
  have g1 : gz n T V (l ++ ks) = 0 := by
    have h : ∀ t, t < n → inl (l ++ ks) t = true := fun t ht => by unfold inl; simpa using all t ht
    unfold gz
    rw [cn_all h W.pm, pn_all h W hn, len]
    have := W.fs
    omega
  have u : gz n T V [] ≤ gz n T V ks := by
    have := gz_app (V := V) W.pm (ks := []) (l := ks) (by rw [List.append_nil]; exact nd) hk
    rwa [List.append_nil] at this
  have v : gz n T V ks ≤ gz n T V (l ++ ks) := gz_app W.pm nd2 hl
  have z : gz n T V ks = 0 := by omega
  unfold gz at z
  omega
end
end WM

set_option Elab.async false
set_option linter.all false
set_option maxHeartbeats 4000000
/-! Webs as rows of darts, and how they grow. -/
namespace WM
def tf (t : List Nat) : Nat → Nat := fun d => t.getD d 0
structure Wd (n : Nat) (t : List Nat) : Prop where
  len : t.length = 2 * n
  web : n = 0 ∨ ∃ V, Wb n (tf t) V
theorem getD_set (l : List Nat) (i v x : Nat) : (l.set i v).getD x 0 = if i = x ∧ x < l.length then v else l.getD x 0 := by
  rw [List.getD_eq_getElem?_getD, List.getD_eq_getElem?_getD, List.getElem?_set]
  by_cases h : i = x
  · subst h
    by_cases k : i < l.length
    · simp [k]
    · simp [k]
  · simp [h]
theorem getD_app2 (t : List Nat) (a b x : Nat) : (t ++ [a, b]).getD x 0 = if x < t.length then t.getD x 0 else if x = t.length then a else if x = t.length + 1 then b else 0 := by
  rw [List.getD_eq_getElem?_getD, List.getD_eq_getElem?_getD]
  by_cases h : x < t.length
  · rw [List.getElem?_append_left h, if_pos h]
  · rw [List.getElem?_append_right (by omega), if_neg h]
    by_cases h1 : x = t.length
    · subst h1; simp
    · rw [if_neg h1]
      by_cases h2 : x = t.length + 1
      · subst h2
        have : t.length + 1 - t.length = 1 := by omega
        rw [this]; simp
      · rw [if_neg h2]
        have : x - t.length = (x - t.length - 2) + 2 := by omega
        rw [this]; simp
def hungL (t : List Nat) (c : Nat) : List Nat := if t.length = 0 then [0, 1] else (t ++ [t.getD c 0, t.length + 1]).set c t.length
def stretL (t : List Nat) (tie : Nat) : List Nat :=
  let d := 2 * tie + 1
  let u := t ++ [d, t.getD d 0]
  (if t.getD d 0 = d then u.set (t.length + 1) (t.length + 1) else u.set (t.idxOf d) (t.length + 1)).set d t.length
def layL (t : List Nat) (c o : Nat) : List Nat := if t.length = 0 then [1, 0] else
  let u := t ++ [t.getD c 0, t.getD o 0]
  if o = c then (u.set t.length (t.length + 1)).set c t.length else (u.set c t.length).set o (t.length + 1)
theorem Wd.hung {n : Nat} {t : List Nat} (W : Wd n t) {c : Nat} (hc : c < 2 * n ∨ n = 0) : Wd (n + 1) (hungL t c) := by
  have hl := W.len
  unfold hungL
  by_cases h0 : t.length = 0
  · rw [if_pos h0]
    have : n = 0 := by omega
    subst this
    exact ⟨rfl, .inr ⟨2, Wb.two rfl rfl⟩⟩
  · rw [if_neg h0]
    obtain ⟨V, Wt⟩ := W.web.resolve_left (by omega)
    have hc : c < 2 * n := by omega
    refine ⟨by simp; omega, .inr ⟨V + 1, (Wt.hang hc).congr fun x hx => ?_⟩⟩
    show List.getD _ x 0 = _
    rw [getD_set, getD_app2]
    unfold fx ins tf
    simp only [List.length_append, List.length_cons, List.length_nil, hl]
    have cx : x = c → t.getD x 0 = t.getD c 0 := fun e => by rw [e]
    generalize t.getD x 0 = u at *
    generalize t.getD c 0 = v at *
    repeat' split
    all_goals omega
theorem mem_tf {n : Nat} {t : List Nat} {V : Nat} (hl : t.length = 2 * n) (W : Wb n (tf t) V) {d : Nat} (hd : d < 2 * n) : d ∈ t := by
  obtain ⟨x, hx, e⟩ := W.pm.surj hd
  have : t[x]? = some (t.getD x 0) := by rw [List.getD_eq_getElem?_getD, List.getElem?_eq_getElem (by omega)]; rfl
  rw [show t.getD x 0 = d from e] at this
  exact List.mem_of_getElem? this
theorem getD_idx {t : List Nat} {d : Nat} (h : d ∈ t) : t.getD (t.idxOf d) 0 = d := by
  have hi := List.idxOf_lt_length_iff.mpr h
  rw [List.getD_eq_getElem?_getD, List.getElem?_eq_getElem hi]
  simp
theorem Wd.stretched {n : Nat} {t : List Nat} (W : Wd n t) {tie : Nat} (hc : tie < n) : Wd (n + 1) (stretL t tie) := by
  have hl := W.len
  obtain ⟨V, Wt⟩ := W.web.resolve_left (by omega)
  have hm := mem_tf hl Wt (d := 2 * tie + 1) (by omega)
  have hi := List.idxOf_lt_length_iff.mpr hm
  have hid := getD_idx hm
  have inj : ∀ x, x < 2 * n → t.getD x 0 = 2 * tie + 1 → x = t.idxOf (2 * tie + 1) := fun x hx e => Wt.pm.inj x _ hx (by omega) (e.trans hid.symm)
  refine ⟨?_, .inr ⟨V + 1, (Wt.sub hc).congr fun x hx => ?_⟩⟩
  · unfold stretL
    dsimp only
    split <;> simp <;> omega
  · show List.getD _ x 0 = _
    unfold stretL sb
    dsimp only
    rw [getD_set]
    have len : ∀ i v, ((t ++ [2 * tie + 1, t.getD (2 * tie + 1) 0]).set i v).length = 2 * n + 2 := fun i v => by simp; omega
    have c1 : x = 2 * tie + 1 → t.getD x 0 = t.getD (2 * tie + 1) 0 := fun e => by rw [e]
    have c2 : x = t.idxOf (2 * tie + 1) → t.getD x 0 = 2 * tie + 1 := fun e => by rw [e]; exact hid
    have c3 := inj x
    have c4 : t.idxOf (2 * tie + 1) = 2 * tie + 1 → t.getD (2 * tie + 1) 0 = 2 * tie + 1 := fun e => by rw [e] at hid; exact hid
    have c5 := inj (2 * tie + 1) (by omega)
    by_cases q : t.getD (2 * tie + 1) 0 = 2 * tie + 1
    · rw [if_pos q, len, getD_set, getD_app2, hl]
      simp only [List.length_append, List.length_cons, List.length_nil, hl]
      unfold tf
      generalize t.getD x 0 = u at *
      generalize t.getD (2 * tie + 1) 0 = v at *
      generalize t.idxOf (2 * tie + 1) = w at *
      repeat' split
      all_goals omega
    · rw [if_neg q, len, getD_set, getD_app2, hl]
      simp only [List.length_append, List.length_cons, List.length_nil, hl]
      unfold tf
      generalize t.getD x 0 = u at *
      generalize t.getD (2 * tie + 1) 0 = v at *
      generalize t.idxOf (2 * tie + 1) = w at *
      repeat' split
      all_goals omega
theorem Wd.laid {n : Nat} {t : List Nat} (W : Wd n t) {c k : Nat} (hc : c < 2 * n ∨ n = 0) : Wd (n + 1) (layL t c (itr (fun x => fl (tf t x)) k c)) := by
  have hl := W.len
  unfold layL
  by_cases h0 : t.length = 0
  · rw [if_pos h0]
    have : n = 0 := by omega
    subst this
    exact ⟨rfl, .inr ⟨1, Wb.one rfl rfl⟩⟩
  · rw [if_neg h0]
    obtain ⟨V, Wt⟩ := W.web.resolve_left (by omega)
    have hc : c < 2 * n := by omega
    have lt : ∀ j, itr (fun x => fl (tf t x)) j c < 2 * n := fun j => by
      induction j with
      | zero => exact hc
      | succ j ih => exact fl_lt (Wt.pm.lt _ ih)
    have ho := lt k
    have face : ∀ j, Cy (2 * n) (WM.ab (tf t)) (fl c) (fl (itr (fun x => fl (tf t x)) j c)) := fun j => by
      induction j with
      | zero => exact .rf _
      | succ j ih =>
        refine ih.tr (EC.one ⟨fl_lt (lt j), ?_⟩)
        show tf t (fl (fl _)) = fl (fl (tf t _))
        rw [fl_fl, fl_fl]
    generalize ho' : itr (fun x => fl (tf t x)) k c = o at *
    have fc := face k
    rw [ho'] at fc
    by_cases e : o = c
    · simp only [if_pos e]
      refine ⟨by simp; omega, .inr ⟨V, (Wt.loop hc).congr fun x hx => ?_⟩⟩
      show List.getD _ x 0 = _
      rw [getD_set, getD_set, getD_app2]
      unfold ins tf
      simp only [List.length_append, List.length_cons, List.length_nil, List.length_set, hl, eq_self, if_true]
      have c1 : x = c → t.getD x 0 = t.getD c 0 := fun e => by rw [e]
      have c2 : o = c → t.getD o 0 = t.getD c 0 := fun e => by rw [e]
      generalize t.getD x 0 = u at *
      generalize t.getD c 0 = v at *
      generalize t.getD o 0 = w at *
      repeat' split
      all_goals omega
    · simp only [if_neg e]
      refine ⟨by simp; omega, .inr ⟨V, (Wt.chord hc ho (fun z => e z.symm) fc).congr fun x hx => ?_⟩⟩
      show List.getD _ x 0 = _
      rw [getD_set, getD_set, getD_app2]
      unfold ins tf
      simp only [List.length_append, List.length_cons, List.length_nil, List.length_set, hl, eq_self, if_true]
      have c1 : x = c → t.getD x 0 = t.getD c 0 := fun e => by rw [e]
      have c2 : x = o → t.getD x 0 = t.getD o 0 := fun e => by rw [e]
      generalize t.getD x 0 = u at *
      generalize t.getD c 0 = v at *
      generalize t.getD o 0 = w at *
      repeat' split
      all_goals omega
end WM

set_option Elab.async false
set_option linter.all false
set_option maxHeartbeats 4000000
/-! A web read from a dart; webs called otherwise, from behind. -/
namespace WM
def rdS (f : Nat → Nat) (o : List Nat) (k : Nat) : List Nat := if f (o.getD k 0) ∈ o then o else o ++ [f (o.getD k 0), fl (f (o.getD k 0))]
def rdN (f : Nat → Nat) (d : Nat) : Nat → List Nat
  | 0 => [d, fl d]
  | k + 1 => rdS f (rdN f d k) k
/-- the turn read from a dart -/
def told (f : Nat → Nat) (o : List Nat) : List Nat := o.map fun x => o.idxOf (f x)
theorem rdS_pre (f : Nat → Nat) (o : List Nat) (k : Nat) : ∃ r, rdS f o k = o ++ r := by
  unfold rdS
  split
  · exact ⟨[], by simp⟩
  · exact ⟨_, rfl⟩
theorem rdN_pre (f : Nat → Nat) (d : Nat) : ∀ {j k : Nat}, j ≤ k → ∃ r, rdN f d k = rdN f d j ++ r := by
  intro j k h
  induction k with
  | zero => obtain rfl : j = 0 := by omega
            exact ⟨[], by simp⟩
  | succ k ih =>
    by_cases e : j = k + 1
    · subst e; exact ⟨[], by simp⟩
    · obtain ⟨r, hr⟩ := ih (by omega)
      obtain ⟨r2, hr2⟩ := rdS_pre f (rdN f d k) k
      exact ⟨r ++ r2, by rw [show rdN f d (k + 1) = rdS f (rdN f d k) k from rfl, hr2, hr, List.append_assoc]⟩
theorem getD_pre {o r : List Nat} {i : Nat} (h : i < o.length) : (o ++ r).getD i 0 = o.getD i 0 := by
  rw [List.getD_eq_getElem?_getD, List.getD_eq_getElem?_getD, List.getElem?_append_left h]
theorem getD_mem {o : List Nat} {i : Nat} (h : i < o.length) : o.getD i 0 ∈ o := by
  rw [List.getD_eq_getElem?_getD, List.getElem?_eq_getElem h]; exact List.getElem_mem h
section
variable {n : Nat} {f : Nat → Nat}
structure Rd (n : Nat) (f : Nat → Nat) (d : Nat) (o : List Nat) (k : Nat) : Prop where
  nd : o.Nodup
  lt : ∀ x ∈ o, x < 2 * n
  cl : ∀ x ∈ o, fl x ∈ o
  st : d ∈ o
  go : ∀ i, i < k → i < o.length → f (o.getD i 0) ∈ o
theorem Rd.len {d k : Nat} {o : List Nat} (R : Rd n f d o k) : o.length ≤ 2 * n := by
  have := sub_len (l' := List.range (2 * n)) R.nd fun x hx => List.mem_range.mpr (R.lt x hx)
  rwa [List.length_range] at this
theorem rd_start (P : Pm (2 * n) f) {d : Nat} (hd : d < 2 * n) : Rd n f d [d, fl d] 0 := by
  have := fl_ne d
  refine ⟨by simp; exact fun z => this z.symm, fun x hx => ?_, fun x hx => ?_, by simp, fun i hi => by omega⟩
  · simp at hx
    rcases hx with rfl | rfl
    · exact hd
    · exact fl_lt hd
  · simp at hx
    rcases hx with rfl | rfl
    · simp
    · rw [fl_fl]; simp
theorem Rd.step (P : Pm (2 * n) f) {d k : Nat} {o : List Nat} (R : Rd n f d o k) (hk : k < o.length) : Rd n f d (rdS f o k) (k + 1) := by
  have hx := getD_mem hk
  have hlt := R.lt _ hx
  have hf := P.lt _ hlt
  unfold rdS
  by_cases h : f (o.getD k 0) ∈ o
  · rw [if_pos h]
    refine ⟨R.nd, R.lt, R.cl, R.st, fun i hi hl => ?_⟩
    by_cases e : i = k
    · subst e; exact h
    · exact R.go i (by omega) hl
  · rw [if_neg h]
    have nf : fl (f (o.getD k 0)) ∉ o := fun z => h (by have := R.cl _ z; rwa [fl_fl] at this)
    have ne := fl_ne (f (o.getD k 0))
    refine ⟨?_, fun x hx => ?_, fun x hx => ?_, by simp [R.st], fun i hi hl => ?_⟩
    · rw [List.nodup_append]
      refine ⟨R.nd, by simp; exact fun z => ne z.symm, fun a ha b hb z => ?_⟩
      simp at hb
      rcases hb with rfl | rfl
      · exact h (z ▸ ha)
      · exact nf (z ▸ ha)
    · rw [List.mem_append] at hx
      rcases hx with hx | hx
      · exact R.lt x hx
      · simp at hx
        rcases hx with rfl | rfl
        · exact hf
        · exact fl_lt hf
    · rw [List.mem_append] at hx ⊢
      rcases hx with hx | hx
      · exact .inl (R.cl x hx)
      · right
        simp at hx
        rcases hx with rfl | rfl
        · simp
        · rw [fl_fl]; simp
    · by_cases e : i = k
      · subst e
        rw [getD_pre hk]; simp
      · have hil : i < o.length := by omega
        rw [getD_pre hil]
        exact List.mem_append_left _ (R.go i (by omega) hil)
/-- .. comes to an end only when all darts are there -/
theorem Rd.full (W : ∃ V, Wb n f V) {d k : Nat} {o : List Nat} (R : Rd n f d o k) (h : o.length ≤ k) : o.length = 2 * n ∧ ∀ x, x < 2 * n → x ∈ o := by
  obtain ⟨V, W⟩ := W
  have clf : ∀ x, x ∈ o → f x ∈ o := fun x hx => by
    have hi := List.idxOf_lt_length_iff.mpr hx
    have := R.go _ (by omega) hi
    rwa [getD_idx hx] at this
  have orb : ∀ k x, x ∈ o → itr f k x ∈ o := fun k x hx => by
    induction k with
    | zero => exact hx
    | succ k ih => exact clf _ ih
  have iff : ∀ x, x < 2 * n → (x ∈ o ↔ f x ∈ o) := fun x hx => ⟨clf x, fun h => by
    obtain ⟨k, e, _⟩ := W.pm.back hx
    rw [itr_one] at e
    rw [← e]
    exact orb k _ h⟩
  have ifl : ∀ x, x ∈ o ↔ fl x ∈ o := fun x => ⟨R.cl x, fun h => by have := R.cl _ h; rwa [fl_fl] at this⟩
  have all := W.con (fun x => x ∈ o ↔ 0 ∈ o) Iff.rfl (fun x hx h => (iff x hx).symm.trans h) (fun x hx h => (ifl x).symm.trans h)
  have h0 : 0 ∈ o := (all d (R.lt d R.st)).mp R.st
  have al : ∀ x, x < 2 * n → x ∈ o := fun x hx => (all x hx).mpr h0
  refine ⟨?_, al⟩
  have := sub_len (l := List.range (2 * n)) (l' := o) List.nodup_range fun x hx => al x (List.mem_range.mp hx)
  rw [List.length_range] at this
  have := R.len
  omega
theorem Rd.more (W : ∃ V, Wb n f V) {d k : Nat} {o : List Nat} (R : Rd n f d o k) (h : k < 2 * n) : k < o.length := Nat.lt_of_not_le fun z => by
  have := (R.full W z).1
  omega
theorem rd_at (W : ∃ V, Wb n f V) {d : Nat} (hd : d < 2 * n) : ∀ k, k ≤ 2 * n → Rd n f d (rdN f d k) k
  | 0, _ => by obtain ⟨V, W⟩ := W; exact rd_start W.pm hd
  | k + 1, h => by
    have R := rd_at W hd k (by omega)
    have hm := R.more W (by omega)
    obtain ⟨V, W⟩ := W
    exact R.step W.pm hm
/-- the whole order -/
abbrev ord (n : Nat) (f : Nat → Nat) (d : Nat) : List Nat := rdN f d (2 * n)
theorem ord_full (W : ∃ V, Wb n f V) {d : Nat} (hd : d < 2 * n) : (ord n f d).Nodup ∧ (ord n f d).length = 2 * n ∧ (∀ x, x ∈ ord n f d ↔ x < 2 * n) := by
  have R := rd_at W hd (2 * n) (Nat.le_refl _)
  obtain ⟨h1, h2⟩ := R.full W R.len
  exact ⟨R.nd, h1, fun x => ⟨R.lt x, h2 x⟩⟩
theorem rdN_end (W : ∃ V, Wb n f V) {d : Nat} (hd : d < 2 * n) {k : Nat} (hk : k ≤ 2 * n) (h : (rdN f d k).length ≤ k) : rdN f d k = ord n f d ∧ k = 2 * n := by
  have R := rd_at W hd k hk
  have h1 := (R.full W h).1
  have : k = 2 * n := by omega
  exact ⟨by rw [this], this⟩
/-! called otherwise -/
structure Cal (n : Nat) (f g p : Nat → Nat) : Prop where
  pm : Pm (2 * n) p
  fl : ∀ x, x < 2 * n → p (WM.fl x) = WM.fl (p x)
  st : ∀ x, x < 2 * n → g (p x) = p (f x)
theorem idxOf_map {p : Nat → Nat} : ∀ {o : List Nat} {x : Nat}, (∀ y ∈ o, p y = p x → y = x) → (o.map p).idxOf (p x) = o.idxOf x
  | [], _, _ => rfl
  | y :: r, x, h => by
    rw [List.map_cons, List.idxOf_cons, List.idxOf_cons]
    by_cases e : y = x
    · subst e; simp
    · have h1 : (p y == p x) = false := beq_eq_false_iff_ne.mpr fun z => e (h y (List.mem_cons_self ..) z)
      have h2 : (y == x) = false := beq_eq_false_iff_ne.mpr e
      rw [h1, h2, idxOf_map fun z hz => h z (List.mem_cons_of_mem _ hz)]
theorem Cal.order {g p : Nat → Nat} (C : Cal n f g p) (W : ∃ V, Wb n f V) {d : Nat} (hd : d < 2 * n) : ∀ k, k ≤ 2 * n → rdN g (p d) k = (rdN f d k).map p
  | 0, _ => by show [p d, WM.fl (p d)] = [p d, p (WM.fl d)]; rw [C.fl d hd]
  | k + 1, h => by
    have R := rd_at W hd k (by omega)
    have hm := R.more W (by omega)
    have ih := C.order W hd k (by omega)
    show rdS g (rdN g (p d) k) k = (rdS f (rdN f d k) k).map p
    rw [ih]
    have hx := getD_mem hm
    have hlt := R.lt _ hx
    have e : ((rdN f d k).map p).getD k 0 = p ((rdN f d k).getD k 0) := by
      rw [List.getD_eq_getElem?_getD, List.getElem?_map, List.getD_eq_getElem?_getD, List.getElem?_eq_getElem hm]; rfl
    obtain ⟨V, W⟩ := W
    have hf := W.pm.lt _ hlt
    unfold rdS
    rw [e, C.st _ hlt]
    have mem : p (f ((rdN f d k).getD k 0)) ∈ (rdN f d k).map p ↔ f ((rdN f d k).getD k 0) ∈ rdN f d k := by
      rw [List.mem_map]
      constructor
      · rintro ⟨y, hy, e⟩
        rw [← C.pm.inj y _ (R.lt y hy) hf e]; exact hy
      · intro h; exact ⟨_, h, rfl⟩
    by_cases h : f ((rdN f d k).getD k 0) ∈ rdN f d k
    · rw [if_pos h, if_pos (mem.mpr h)]
    · rw [if_neg h, if_neg fun z => h (mem.mp z), List.map_append]
      simp only [List.map_cons, List.map_nil]
      rw [C.fl _ hf]
theorem Cal.told_eq {g p : Nat → Nat} (C : Cal n f g p) (W : ∃ V, Wb n f V) {d : Nat} (hd : d < 2 * n) : told g (ord n g (p d)) = told f (ord n f d) := by
  unfold told ord
  rw [C.order W hd _ (Nat.le_refl _), List.map_map]
  have R := rd_at W hd (2 * n) (Nat.le_refl _)
  obtain ⟨V, W⟩ := W
  apply List.map_congr_left
  intro x hx
  show (List.map p _).idxOf (g (p x)) = _
  have hlt := R.lt x hx
  rw [C.st x hlt]
  exact idxOf_map fun y hy e => C.pm.inj y _ (R.lt y hy) (W.pm.lt _ hlt) e
/-- what is called otherwise is a web -/
theorem Cal.web {g p : Nat → Nat} (C : Cal n f g p) {V : Nat} (W : Wb n f V) (Pg : Pm (2 * n) g) : Wb n g V := by
  have bij : ∀ y, y < 2 * n → ∃ x, x < 2 * n ∧ p x = y := fun y hy => C.pm.surj hy
  have cyc : ∀ {f g : Nat → Nat}, Pm (2 * n) f → Pm (2 * n) g → (∀ x, x < 2 * n → g (p x) = p (f x)) → ncl (2 * n) (Cy (2 * n) g) = ncl (2 * n) (Cy (2 * n) f) := by
    intro f g Pf Pg st
    symm
    refine ncl_eq Cy.eqv Cy.eqv p (fun x hx => C.pm.lt x hx) (fun x y hx hy => ⟨fun h => ?_, fun h => ?_⟩) fun y hy => ?_
    · exact EC.map p (fun u v ⟨hu, e⟩ => by
        subst e
        exact .one ⟨C.pm.lt u hu, st u hu⟩) h
    · -- back along the calling
      let q : Nat → Nat := fun y => if h : ∃ x, x < 2 * n ∧ p x = y then Classical.choose h else y
      have hq : ∀ x, x < 2 * n → q (p x) = x := fun x hx => by
        have h : ∃ z, z < 2 * n ∧ p z = p x := ⟨x, hx, rfl⟩
        have hs := Classical.choose_spec h
        show (if h : _ then _ else _) = _
        rw [dif_pos h]
        exact C.pm.inj _ _ hs.1 hx hs.2
      have := EC.map (s := fun x y => x < 2 * n ∧ f x = y) q (fun u v ⟨hu, e⟩ => by
        subst e
        obtain ⟨w, hw, rfl⟩ := bij u hu
        rw [st w hw, hq w hw, hq _ (Pf.lt w hw)]
        exact .one ⟨hw, rfl⟩) h
      rw [hq x hx, hq y hy] at this
      exact this
    · obtain ⟨x, hx, e⟩ := bij y hy
      exact ⟨x, hx, by rw [e]; exact .rf _⟩
  have h1 := cyc W.pm Pg C.st
  have h2 := cyc W.pm.ab Pg.ab (fun x hx => by
    show g (WM.fl (p x)) = p (f (WM.fl x))
    rw [← C.fl x hx, C.st _ (fl_lt hx)])
  refine ⟨Pg, by rw [h1]; exact W.vs, by rw [h2]; exact W.fs, fun S s0 cT cF => ?_⟩
  by_cases hn : n = 0
  · intro x hx; omega
  -- S is closed backward, too
  have orb : ∀ k x, x < 2 * n → S x → S (itr g k x) := fun k x hx hs => by
    induction k with
    | zero => exact hs
    | succ k ih => exact cT _ (Pg.itr k x hx) ih
  have iT : ∀ x, x < 2 * n → (S x ↔ S (g x)) := fun x hx => ⟨cT x hx, fun h => by
    obtain ⟨k, e, _⟩ := Pg.back hx
    rw [itr_one] at e
    rw [← e]
    exact orb k _ (Pg.lt x hx) h⟩
  have iF : ∀ x, x < 2 * n → (S x ↔ S (WM.fl x)) := fun x hx => ⟨cF x hx, fun h => by have := cF _ (fl_lt hx) h; rwa [fl_fl] at this⟩
  have all := W.con (fun x => S (p x) ↔ S (p 0)) Iff.rfl (fun x hx h => by
    rw [← C.st x hx]; exact (iT _ (C.pm.lt x hx)).symm.trans h) (fun x hx h => by
    rw [C.fl x hx]; exact (iF _ (C.pm.lt x hx)).symm.trans h)
  obtain ⟨z, hz, ez⟩ := bij 0 (by omega)
  have s1 : S (p 0) := (all z hz).mp (by rw [ez]; exact s0)
  intro x hx
  obtain ⟨y, hy, rfl⟩ := bij x hx
  exact (all y hy).mpr s1
/-! from behind -/
theorem Wb.back {V : Nat} (W : Wb n f V) {g : Nat → Nat} (hg : ∀ x, x < 2 * n → g (f x) = x) : Wb n g V := by
  have hg2 : ∀ y, y < 2 * n → g y < 2 * n ∧ f (g y) = y := fun y hy => by
    obtain ⟨x, hx, rfl⟩ := W.pm.surj hy
    rw [hg x hx]; exact ⟨hx, rfl⟩
  have Pg : Pm (2 * n) g := ⟨fun x hx => (hg2 x hx).1, fun x y hx hy e => by rw [← (hg2 x hx).2, ← (hg2 y hy).2, e]⟩
  have inv : ∀ {a b : Nat → Nat}, (∀ x, x < 2 * n → a x < 2 * n ∧ b (a x) = x) → ∀ x y, Cy (2 * n) a x y → Cy (2 * n) b x y := by
    intro a b h x y c
    exact EC.mono (fun u v ⟨hu, e⟩ => by
      subst e
      exact (EC.one (r := fun x y => x < 2 * n ∧ b x = y) ⟨(h u hu).1, (h u hu).2⟩).sy) c
  have h1 : ncl (2 * n) (Cy (2 * n) g) = ncl (2 * n) (Cy (2 * n) f) := ncl_ext fun x y _ _ => ⟨inv hg2 x y, inv (fun x hx => ⟨W.pm.lt x hx, hg x hx⟩) x y⟩
  -- faces: g after the other end is f after the other end, backward and seen from there
  have P2 : Pm (2 * n) (fun x => fl (f x)) := ⟨fun x hx => fl_lt (W.pm.lt x hx), fun x y hx hy e => W.pm.inj x y hx hy (by have := congrArg fl e; rwa [fl_fl, fl_fl] at this)⟩
  have h2 : ncl (2 * n) (Cy (2 * n) (ab g)) = ncl (2 * n) (Cy (2 * n) fun x => fl (f x)) := ncl_ext fun x y _ _ => ⟨inv (a := ab g) (b := fun x => fl (f x)) (fun x hx => ⟨(hg2 _ (fl_lt hx)).1, by show fl (f (g (fl x))) = x; rw [(hg2 _ (fl_lt hx)).2, fl_fl]⟩) x y,
    inv (a := fun x => fl (f x)) (b := ab g) (fun x hx => ⟨fl_lt (W.pm.lt x hx), by show g (fl (fl (f x))) = x; rw [fl_fl]; exact hg x hx⟩) x y⟩
  have h3 : ncl (2 * n) (Cy (2 * n) (fun x => fl (f x))) = ncl (2 * n) (Cy (2 * n) (ab f)) := ncl_conj fl (fun x hx => fl_lt hx) (fun x _ => fl_fl x) P2 (fun x hx => by show f (fl (fl x)) = fl (fl (f x)); rw [fl_fl, fl_fl])
  refine ⟨Pg, by rw [h1]; exact W.vs, by rw [h2, h3]; exact W.fs, fun S s0 cT cF => ?_⟩
  have orb : ∀ k x, x < 2 * n → S x → S (itr g k x) := fun k x hx hs => by
    induction k with
    | zero => exact hs
    | succ k ih => exact cT _ (Pg.itr k x hx) ih
  refine W.con S s0 (fun x hx hs => ?_) cF
  obtain ⟨k, e, _⟩ := Pg.back (W.pm.lt x hx)
  rw [itr_one, hg x hx] at e
  rw [← e]
  exact orb k x hx hs
end
end WM

set_option Elab.async false
set_option linter.all false
set_option maxHeartbeats 4000000
/-! A web read from a dart is the web called otherwise; a row of ties, one dart of each, as a calling. -/
namespace WM
theorem idx_at : ∀ {o : List Nat}, o.Nodup → ∀ {i : Nat}, i < o.length → o.idxOf (o.getD i 0) = i
  | [], _, _, h => by cases h
  | a :: r, _, 0, _ => by simp
  | a :: r, nd, i + 1, h => by
    have hi : i < r.length := by simpa using h
    have hm : r.getD i 0 ∈ r := getD_mem hi
    have ne : a ≠ r.getD i 0 := fun e => (List.nodup_cons.mp nd).1 (e ▸ hm)
    show (a :: r).idxOf (r.getD i 0) = i + 1
    rw [List.idxOf_cons, beq_eq_false_iff_ne.mpr ne, idx_at (List.nodup_cons.mp nd).2 hi]; rfl
def Prs (o : List Nat) : Prop := o.length % 2 = 0 ∧ ∀ i, 2 * i + 1 < o.length → o.getD (2 * i + 1) 0 = fl (o.getD (2 * i) 0)
theorem prs_app {o : List Nat} (h : Prs o) (x : Nat) : Prs (o ++ [x, fl x]) := by
  obtain ⟨h1, h2⟩ := h
  refine ⟨by simp; omega, fun i hi => ?_⟩
  rw [getD_app2, getD_app2]
  by_cases k : 2 * i + 1 < o.length
  · rw [if_pos k, if_pos (by omega)]; exact h2 i k
  · simp at hi
    have : 2 * i = o.length := by omega
    rw [if_neg (by omega), if_neg (by omega), if_pos (by omega), if_neg (by omega), if_pos this]
theorem prs_rd (f : Nat → Nat) (d : Nat) : ∀ k, Prs (rdN f d k)
  | 0 => by
    show Prs [d, fl d]
    refine ⟨by simp, fun i hi => ?_⟩
    have : i = 0 := by simp at hi; omega
    subst this; rfl
  | k + 1 => by
    show Prs (rdS f (rdN f d k) k)
    unfold rdS
    split
    · exact prs_rd f d k
    · exact prs_app (prs_rd f d k) _
theorem prs_idx {o : List Nat} (nd : o.Nodup) (h : Prs o) {x : Nat} (hx : x ∈ o) : o.idxOf (fl x) = fl (o.idxOf x) := by
  obtain ⟨h1, h2⟩ := h
  have hl := List.idxOf_lt_length_iff.mpr hx
  have e := getD_idx hx
  by_cases k : o.idxOf x % 2 = 0
  · have h3 := h2 (o.idxOf x / 2) (by omega)
    rw [show 2 * (o.idxOf x / 2) = o.idxOf x by omega, e] at h3
    rw [← h3, idx_at nd (by omega)]
    unfold fl; rw [if_pos k]
  · have h3 := h2 (o.idxOf x / 2) (by omega)
    rw [show 2 * (o.idxOf x / 2) + 1 = o.idxOf x by omega, e] at h3
    rw [h3, fl_fl, idx_at nd (by omega), ← h3]
    unfold fl; rw [if_neg k]; omega
section
variable {n : Nat} {f : Nat → Nat}
theorem told_getD {o : List Nat} {i : Nat} (hi : i < o.length) : (told f o).getD i 0 = o.idxOf (f (o.getD i 0)) := by
  unfold told
  rw [List.getD_eq_getElem?_getD, List.getElem?_map, List.getD_eq_getElem?_getD, List.getElem?_eq_getElem hi]; rfl
theorem cal_read (W : ∃ V, Wb n f V) {d : Nat} (hd : d < 2 * n) : Cal n f (tf (told f (ord n f d))) (ord n f d).idxOf := by
  obtain ⟨nd, hl, hm⟩ := ord_full W hd
  obtain ⟨V, W⟩ := W
  refine ⟨⟨fun x hx => ?_, fun x y hx hy e => ?_⟩, fun x hx => prs_idx nd (prs_rd f d _) ((hm x).mpr hx), fun x hx => ?_⟩
  · rw [← hl]; exact List.idxOf_lt_length_iff.mpr ((hm x).mpr hx)
  · have h1 := getD_idx ((hm x).mpr hx)
    have h2 := getD_idx ((hm y).mpr hy)
    rw [← h1, ← h2, e]
  · have hi : (ord n f d).idxOf x < (ord n f d).length := List.idxOf_lt_length_iff.mpr ((hm x).mpr hx)
    show (told f (ord n f d)).getD _ 0 = _
    rw [told_getD hi, getD_idx ((hm x).mpr hx)]
theorem pm_of_list {t : List Nat} (hl : t.length = 2 * n) (hlt : ∀ x ∈ t, x < 2 * n) (nd : t.Nodup) : Pm (2 * n) (tf t) := by
  refine ⟨fun x hx => hlt _ (getD_mem (by omega)), fun x y hx hy e => ?_⟩
  have h1 := idx_at nd (show x < t.length by omega)
  have h2 := idx_at nd (show y < t.length by omega)
  rw [← h1, ← h2]
  exact congrArg (fun z => t.idxOf z) e
theorem cal_pm {g p : Nat → Nat} (C : Cal n f g p) (P : Pm (2 * n) f) : Pm (2 * n) g := by
  refine ⟨fun x hx => ?_, fun x y hx hy e => ?_⟩
  · obtain ⟨z, hz, rfl⟩ := C.pm.surj hx
    rw [C.st z hz]; exact C.pm.lt _ (P.lt z hz)
  · obtain ⟨z, hz, rfl⟩ := C.pm.surj hx
    obtain ⟨w, hw, rfl⟩ := C.pm.surj hy
    rw [C.st z hz, C.st w hw] at e
    rw [P.inj z w hz hw (C.pm.inj _ _ (P.lt z hz) (P.lt w hw) e)]
theorem Wd.cal {t u : List Nat} {p : Nat → Nat} (W : Wd n t) (hu : u.length = 2 * n) (C : Cal n (tf t) (tf u) p) : Wd n u := by
  refine ⟨hu, ?_⟩
  rcases W.web with h | ⟨V, Wt⟩
  · exact .inl h
  · exact .inr ⟨V, C.web Wt (cal_pm C Wt.pm)⟩
/-! ### a row of darts, one of each tie -/
/-- of each tie below n just one dart -/
structure Tr (n : Nat) (o : List Nat) : Prop where
  len : o.length = n
  nd : (o.map (· / 2)).Nodup
  lt : ∀ x ∈ o, x / 2 < n
def callP (o : List Nat) (x : Nat) : Nat := if x ∈ o then 2 * o.idxOf x else 2 * o.idxOf (fl x) + 1
theorem nd_half : ∀ {o : List Nat}, (o.map (· / 2)).Nodup → ∀ {x y : Nat}, x ∈ o → y ∈ o → x / 2 = y / 2 → x = y
  | [], _, _, _, h, _, _ => by cases h
  | a :: r, nd, x, y, hx, hy, e => by
    rw [List.map_cons, List.nodup_cons] at nd
    obtain ⟨n1, n2⟩ := nd
    rcases List.mem_cons.mp hx with h1 | h1 <;> rcases List.mem_cons.mp hy with h2 | h2
    · rw [h1, h2]
    · exact absurd (List.mem_map.mpr ⟨y, h2, by rw [← e, h1]⟩) n1
    · exact absurd (List.mem_map.mpr ⟨x, h1, by rw [e, h2]⟩) n1
    · exact nd_half n2 h1 h2 e
theorem half_eq {x y : Nat} (h : x / 2 = y / 2) : y = x ∨ y = fl x := by unfold fl; split <;> omega
theorem Tr.nodup {o : List Nat} (T : Tr n o) : o.Nodup := by
  have := T.nd
  rw [List.nodup_iff_pairwise_ne, List.pairwise_map] at this
  rw [List.nodup_iff_pairwise_ne]
  exact this.imp fun h e => h (by rw [e])
theorem Tr.mem {o : List Nat} (T : Tr n o) {x : Nat} (hx : x < 2 * n) : x ∈ o ∨ fl x ∈ o := by
  have h : x / 2 ∈ o.map (· / 2) := by
    have all : ∀ t, t < n → t ∈ o.map (· / 2) := fun t ht => Classical.byContradiction fun no => by
      have := sub_len (l := t :: o.map (· / 2)) (l' := List.range n) (List.nodup_cons.mpr ⟨no, T.nd⟩) fun z hz => by
        rcases List.mem_cons.mp hz with e | e
        · rw [e]; exact List.mem_range.mpr ht
        · obtain ⟨w, hw, e2⟩ := List.mem_map.mp e
          rw [← e2]; exact List.mem_range.mpr (T.lt w hw)
      rw [List.length_cons, List.length_map, List.length_range, T.len] at this
      omega
    exact all _ (by omega)
  obtain ⟨y, hy, e⟩ := List.mem_map.mp h
  rcases half_eq e.symm with q | q
  · left; rw [← q]; exact hy
  · right; rw [← q]; exact hy
theorem Tr.not_both {o : List Nat} (T : Tr n o) {x : Nat} (h : x ∈ o) : fl x ∉ o := fun h2 => fl_ne x (nd_half T.nd h2 h (fl_half x))
theorem callP_fl {o : List Nat} (T : Tr n o) {x : Nat} (hx : x < 2 * n) : callP o (fl x) = fl (callP o x) := by
  unfold callP
  rcases T.mem hx with h | h
  · rw [if_neg (T.not_both h), if_pos h, fl_fl, fl_2]
  · have h2 : x ∉ o := fun z => T.not_both z h
    rw [if_pos h, if_neg h2, fl_21]
theorem callP_half {o : List Nat} (T : Tr n o) {x : Nat} (hx : x < 2 * n) : ∃ y ∈ o, (y = x ∨ y = fl x) ∧ callP o x / 2 = o.idxOf y ∧ (callP o x % 2 = 0 ↔ y = x) := by
  unfold callP
  have ne := fl_ne x
  rcases T.mem hx with h | h
  · exact ⟨x, h, .inl rfl, by rw [if_pos h]; omega, by rw [if_pos h]; simp⟩
  · have h2 : x ∉ o := fun z => T.not_both z h
    exact ⟨fl x, h, .inr rfl, by rw [if_neg h2]; omega, by rw [if_neg h2]; constructor <;> intro z <;> omega⟩
theorem callP_pm {o : List Nat} (T : Tr n o) : Pm (2 * n) (callP o) := by
  refine ⟨fun x hx => ?_, fun x y hx hy e => ?_⟩
  · obtain ⟨z, hz, _, h, _⟩ := callP_half T hx
    have := List.idxOf_lt_length_iff.mpr hz
    rw [T.len] at this
    omega
  · obtain ⟨z, hz, h1, h2, h3⟩ := callP_half T hx
    obtain ⟨w, hw, k1, k2, k3⟩ := callP_half T hy
    rw [e] at h2 h3
    have ezw : z = w := by
      have a := getD_idx hz
      have b := getD_idx hw
      rw [← a, ← b, ← h2, k2]
    subst ezw
    by_cases q : callP o y % 2 = 0
    · rw [← h3.mp q, ← k3.mp q]
    · have a1 : ¬ z = x := fun z => q (h3.mpr z)
      have a2 : ¬ z = y := fun z => q (k3.mpr z)
      have b1 := h1.resolve_left a1
      have b2 := k1.resolve_left a2
      have := b1.symm.trans b2
      have := congrArg fl this
      rwa [fl_fl, fl_fl] at this
theorem tr_ins {n : Nat} {o : List Nat} (T : Tr n o) {k b : Nat} (hb : b < 2) : Tr (n + 1) (o.take k ++ [2 * n + b] ++ o.drop k) := by
  have hp : (o.take k ++ [2 * n + b] ++ o.drop k).Perm ((2 * n + b) :: o) := by
    rw [List.append_assoc]
    exact (List.perm_middle (l₁ := o.take k) (l₂ := o.drop k) (a := 2 * n + b)).trans (by rw [List.take_append_drop])
  refine ⟨by rw [hp.length_eq, List.length_cons, T.len], ?_, fun x hx => ?_⟩
  · rw [(hp.map _).nodup_iff, List.map_cons, List.nodup_cons]
    refine ⟨fun z => ?_, T.nd⟩
    obtain ⟨w, hw, e⟩ := List.mem_map.mp z
    have := T.lt w hw
    omega
  · rcases List.mem_cons.mp (hp.mem_iff.mp hx) with e | e
    · rw [e]; omega
    · have := T.lt x e; omega
end
end WM

set_option Elab.async false
set_option linter.all false
set_option maxRecDepth 100000
set_option maxHeartbeats 4000000
namespace K62
open PySem PySem.Spec PyProof.Rows L2 DP WM
abbrev tupN (l : List Nat) : Dat := .tup (l.map nI)
abbrev lstN (l : List Nat) : Dat := .lst (l.map nI)
abbrev rowsD (l : List (List Nat)) : Dat := .lst (l.map fun r => lstN r)
theorem rgD_nat (k : Nat) : rgD 0 (k : Int) = (List.range k).map nI := by
  unfold rgD
  have : ((k : Int) - 0).toNat = k := by omega
  rw [this]
  exact List.map_congr_left fun i _ => by rw [Int.zero_add]
theorem q_lc {vs : List Nat} {i : DI} {g : DG} {t : DT} {f : DE} {ρ ρ1 ρ2 : List SD} {xs ys : List Dat} (e : i ρ = some (xs, ρ1)) (hp : plainAt ρ1 vs = true) (hl : lcLoop vs g t f xs (wipeD ρ1 vs) [] = some (ys, ρ2)) : dLC vs i g t f ρ = some (.own (.lst ys), restD ρ1 ρ2 vs) := by
  unfold dLC; rw [e]; show (if plainAt ρ1 vs = true then _ else _) = _; rw [if_pos hp, hl]; rfl
theorem q_rng1 {fa : DA} {ρ ρ1 : List SD} {k : Nat} (e : fa ρ = some ([.d (nI k)], ρ1)) (h : k ≤ 1000000) : dIRng1 fa ρ = some ((List.range k).map nI, ρ1) := by
  unfold dIRng1; rw [e]
  show (if -1000000 ≤ (k : Int) ∧ (k : Int) ≤ 1000000 then some (rgD 0 (k : Int), ρ1) else none) = _
  rw [if_pos ⟨by omega, by omega⟩, rgD_nat]
theorem v_is_integer (i : Int) : Φ_is_integer [.d (.int i)] = some (.d (.bl true), [.d (.int i)]) := by rfl
theorem v_is_count (i : Int) (h : 0 ≤ i) : Φ_is_count [.d (.int i)] = some (.d (.bl true), [.d (.int i)]) := by
  have e : decide (0 ≤ i) = true := by simpa using h
  show ((some (Dat.bl (decide (0 ≤ i)), [SD.d (.int i)]) : Option (Dat × List SD)).map fun p => (SD.d p.1, p.2)) = _
  rw [e]; rfl
def aboutL (t : List Nat) : List Nat := (List.range t.length).map fun d => t.getD (fl d) 0
theorem getN {t : List Nat} {k : Nat} (h : k < t.length) : (t.map nI)[k]? = some (nI (t.getD k 0)) := by
  rw [List.getElem?_map, List.getElem?_eq_getElem h, List.getD_eq_getElem?_getD, List.getElem?_eq_getElem h]; rfl
theorem filterMap_some {α β : Type} (f : α → β) : ∀ l : List α, (l.filterMap fun x => some (f x)) = l.map f
  | [] => rfl
  | x :: r => by simp
theorem v_about_of {t : List Nat} {n : Nat} (hn : t.length = 2 * n) (h : n ≤ 1000) : Φ_about_of [.d (tupN t)] = some (.d (tupN (aboutL t)), [.d (tupN t)]) := by
  have lp : lcLoop [1] (dgName 1) dYes (dVarB 0 gIx (dBin gXor (dVar 1) (dC (.int 1)))) ((List.range t.length).map nI) [.d (tupN t), .no] [] = some ((aboutL t).map nI, [.d (tupN t), .no]) := by
    rw [lc_map (fun x => match x with
      | .int i => some (nI (t.getD (fl i.toNat) 0))
      | _ => none) (fun x hx => ?_) (by simp; omega)]
    · congr 2
      unfold aboutL
      rw [List.filterMap_map, List.map_map]
      exact filterMap_some (fun d => nI (t.getD (fl d) 0)) _
    · obtain ⟨d, hd, rfl⟩ := List.mem_map.mp hx
      have hd := List.mem_range.mp hd
      have e2 := g_ix (s := .d (tupN t)) (k := fl d) rfl (getN (by rw [hn] at hd ⊢; exact fl_lt hd))
      have e1 := g_xor1 (x := d)
      simp [dSeq, dNext, dAsg, dDrop, dRet, dRetV, dRetN, dIfS, dBreak, dCont, dNotT, dAndT, dOrT, dTestB, dTru, dAndV, dOrV, dNotV, dIf, dVar, dC, dUn, dBin, dNil, dCons, dCB, dTup, dLst, dats, dgName, dgCons, dgNil, dgTup, dYes, dVarB, dBinB, dLenB, SD.known, fz, SD.mo, SD.re, MO.dat, okSlot, dPar, dApp, dSAdd, dISeq, itemsD, dIRng1, dIRng2, dFor, dCall, runF, resF, keepIo, asD, asI, moL, moS, moD, wipeD, restD, plainAt, kdAt, SD.kd, lcStep, Option.bind, Option.map, List.set, List.getElem?_cons_zero, List.getElem?_cons_succ, e1, e2]
  have r1 : dIRng1 (dCons (dLenB 0) dNil) [.d (tupN t), .no] = some ((List.range t.length).map nI, [.d (tupN t), .no]) := q_rng1 (by simp [dSeq, dNext, dAsg, dDrop, dRet, dRetV, dRetN, dIfS, dBreak, dCont, dNotT, dAndT, dOrT, dTestB, dTru, dAndV, dOrV, dNotV, dIf, dVar, dC, dUn, dBin, dNil, dCons, dCB, dTup, dLst, dats, dgName, dgCons, dgNil, dgTup, dYes, dVarB, dBinB, dLenB, SD.known, fz, SD.mo, SD.re, MO.dat, okSlot, dPar, dApp, dSAdd, dISeq, itemsD, dIRng1, dIRng2, dFor, dCall, runF, resF, keepIo, asD, asI, moL, moS, moD, wipeD, restD, plainAt, kdAt, SD.kd, lcStep, Option.bind, Option.map, List.set, List.getElem?_cons_zero, List.getElem?_cons_succ, lenD, SD.seq, SD.lst, SD.tup]) (by omega)
  exact q_runF rfl (q_next.trans (q_retE (q_cb (q_cons (q_lc r1 rfl lp) rfl rfl) rfl))) rfl rfl
end K62

set_option Elab.async false
set_option linter.all false
set_option maxRecDepth 100000
set_option maxHeartbeats 4000000
namespace K62
open PySem PySem.Spec PyProof.Rows L2 DP WM
/-! ### cycles_of -/
/-- a set of numbers below N -/
def SetIs (N : Nat) (S : Int → Bool) (k : Nat) (P : Nat → Prop) : Prop := ∃ L : List Nat, L.Nodup ∧ L.length = k ∧ (∀ y ∈ L, y < N) ∧ (∀ y : Nat, S (y : Int) = true ↔ y ∈ L) ∧ ∀ y : Nat, y ∈ L ↔ P y
theorem SetIs.small {N k : Nat} {S : Int → Bool} {P : Nat → Prop} (h : SetIs N S k P) : k ≤ N := by
  obtain ⟨L, nd, hl, hb, _⟩ := h
  have := sub_len (l' := List.range N) nd fun x hx => List.mem_range.mpr (hb x hx)
  rw [List.length_range] at this
  omega
theorem SetIs.mem {N k : Nat} {S : Int → Bool} {P : Nat → Prop} (h : SetIs N S k P) (y : Nat) : S (y : Int) = true ↔ P y := by
  obtain ⟨L, nd, hl, hb, hs, hp⟩ := h
  exact (hs y).trans (hp y)
theorem SetIs.empty (N : Nat) : SetIs N (fun _ => false) 0 fun _ => False := ⟨[], List.nodup_nil, rfl, by simp, by simp, by simp⟩
theorem SetIs.add {N k : Nat} {S : Int → Bool} {P : Nat → Prop} (h : SetIs N S k P) {x : Nat} (hx : x < N) : SetIs N (fun j => S j || decide (j = (x : Int))) (if S (x : Int) = true then k else k + 1) (fun y => P y ∨ y = x) := by
  obtain ⟨L, nd, hl, hb, hs, hp⟩ := h
  by_cases c : S (x : Int) = true
  · rw [if_pos c]
    refine ⟨L, nd, hl, hb, fun y => ?_, fun y => ?_⟩
    · rw [Bool.or_eq_true, hs y, decide_eq_true_eq]
      constructor
      · rintro (z | z)
        · exact z
        · have : y = x := by omega
          rw [this]; exact (hs x).mp c
      · exact .inl
    · rw [hp y]
      constructor
      · exact .inl
      · rintro (z | z)
        · exact z
        · rw [z]; exact (hp x).mp ((hs x).mp c)
  · rw [if_neg c]
    have nx : x ∉ L := fun z => c ((hs x).mpr z)
    refine ⟨x :: L, List.nodup_cons.mpr ⟨nx, nd⟩, by simp [hl], fun y hy => ?_, fun y => ?_, fun y => ?_⟩
    · rcases List.mem_cons.mp hy with z | z
      · omega
      · exact hb y z
    · rw [Bool.or_eq_true, hs y, decide_eq_true_eq, List.mem_cons]
      constructor
      · rintro (z | z)
        · exact .inr z
        · exact .inl (by omega)
      · rintro (z | z)
        · exact .inr (by omega)
        · exact .inl z
    · rw [List.mem_cons, hp y, or_comm]
theorem SetIs.congr {N k : Nat} {S : Int → Bool} {P Q : Nat → Prop} (h : SetIs N S k P) (e : ∀ y, P y ↔ Q y) : SetIs N S k Q := by
  obtain ⟨L, nd, hl, hb, hs, hp⟩ := h
  exact ⟨L, nd, hl, hb, hs, fun y => (hp y).trans (e y)⟩
theorem getT {t : List Nat} {T : Nat → Nat} {N x : Nat} (ht : t.length = N) (hT : ∀ d, d < N → t.getD d 0 = T d) (hx : x < N) : (t.map nI)[x]? = some (nI (T x)) := by
  rw [getN (by omega), hT x hx]
/-- the row of a cycle -/
def cyc (T : Nat → Nat) (s j : Nat) : List Nat := (List.range (j + 1)).map fun k => itr T k s
theorem cyc_succ (T : Nat → Nat) (s j : Nat) : cyc T s (j + 1) = cyc T s j ++ [itr T (j + 1) s] := by unfold cyc; rw [List.range_succ, List.map_append]; rfl
theorem cyc_last (T : Nat → Nat) (s j : Nat) : ∃ r, cyc T s j = r ++ [itr T j s] := ⟨(List.range j).map fun k => itr T k s, by unfold cyc; rw [List.range_succ, List.map_append]; rfl⟩
theorem cyc_mem {N : Nat} {T : Nat → Nat} (P : Pm N T) {s j : Nat} (hs : s < N) (h : itr T (j + 1) s = s) (y : Nat) : y ∈ cyc T s j ↔ Cy N T s y := by
  have m : ∀ z, z ∈ cyc T s j ↔ ∃ k, k ≤ j ∧ itr T k s = z := fun z => by
    unfold cyc
    rw [List.mem_map]
    exact ⟨fun ⟨k, hk, e⟩ => ⟨k, by have := List.mem_range.mp hk; omega, e⟩, fun ⟨k, hk, e⟩ => ⟨k, List.mem_range.mpr (by omega), e⟩⟩
  rw [m]
  constructor
  · rintro ⟨k, _, rfl⟩
    exact Cy.itr P hs k
  · intro r
    have := EC.stay (S := fun z => ∃ k, k ≤ j ∧ itr T k s = z) (fun u v ⟨p, q⟩ => by
      constructor
      · rintro ⟨k, hk, rfl⟩
        by_cases c : k = j
        · subst c
          exact ⟨0, Nat.zero_le _, by rw [← q]; exact h.symm⟩
        · exact ⟨k + 1, by omega, q⟩
      · rintro ⟨k, hk, e⟩
        cases k with
        | zero =>
          have e : s = v := e
          refine ⟨j, Nat.le_refl j, P.inj _ _ (P.itr j s hs) p ?_⟩
          rw [q, ← e]; exact h
        | succ k =>
          refine ⟨k, by omega, P.inj _ _ (P.itr k s hs) p ?_⟩
          rw [q]; exact e) r
    exact this.mp ⟨0, Nat.zero_le _, rfl⟩
theorem ncl_range (R : Nat → Nat → Prop) (i : Nat) : ncl (i + 1) R = ncl i R + (if (open Classical in decide (Mn R i)) = true then 1 else 0) := by
  classical
  unfold ncl
  rw [List.range_succ, List.filter_append, List.length_append]
  congr 1
  by_cases c : Mn R i <;> simp [c]
/-- while step[row[-1]] != start -/
theorem w_cyc {t : List Nat} {T : Nat → Nat} {N : Nat} (ht : t.length = N) (hT : ∀ d, d < N → t.getD d 0 = T d) (P : Pm N T) (hN : N ≤ 1000) {s : Nat} (hs : s < N) (s1 s2 s5 : SD) :
    ∃ j, itr T (j + 1) s = s ∧ j < N ∧ dWhile (dTestB (dBin (gEq true) (dVarB 0 gIx (dVarB 4 gIx (dUn gNeg (dC (.int 1))))) (dVar 3))) (dSeq (dApp 4 (dVarB 0 gIx (dVarB 4 gIx (dUn gNeg (dC (.int 1)))))) dNext) fuel
      [.d (tupN t), s1, s2, .d (nI s), .own (.lst [nI s]), s5] = some (.nx, [.d (tupN t), s1, s2, .d (nI s), .own (.lst ((cyc T s j).map nI)), s5]) := by
  obtain ⟨K, hK, hKN⟩ := P.back hs
  obtain ⟨ρ', e, j, q1, q2, q3⟩ := while_inv
    (fun m ρ => ∃ j, j ≤ K ∧ m = K - j ∧ ρ = [.d (tupN t), s1, s2, .d (nI s), .own (.lst ((cyc T s j).map nI)), s5])
    (fun ρ => ∃ j, itr T (j + 1) s = s ∧ j < N ∧ ρ = [.d (tupN t), s1, s2, .d (nI s), .own (.lst ((cyc T s j).map nI)), s5])
    (c := dTestB (dBin (gEq true) (dVarB 0 gIx (dVarB 4 gIx (dUn gNeg (dC (.int 1))))) (dVar 3)))
    (b := dSeq (dApp 4 (dVarB 0 gIx (dVarB 4 gIx (dUn gNeg (dC (.int 1)))))) dNext)
    (fun m ρ ⟨j, hj, hm, hρ⟩ => by
      subst hρ
      obtain ⟨r, hr⟩ := cyc_last T s j
      have hx := P.itr j s hs
      have f1 : gIx (.own (.lst ((cyc T s j).map nI))) (.d (.int (-1))) = some (.d (nI (itr T j s))) := g_ixL (by rw [hr, List.map_append]; rfl)
      have f2 : gIx (.d (tupN t)) (.d (nI (itr T j s))) = some (.d (nI (itr T (j + 1) s))) := g_ix rfl (getT ht hT hx)
      have f3 : gNeg (.d (.int 1)) = some (.d (.int (-1))) := rfl
      have f4 : gEq true (.d (nI (itr T (j + 1) s))) (.d (nI s)) = some (.d (.bl (!(((itr T (j + 1) s : Nat) : Int) == (s : Int))))) := g_eqI
      have tc : dTestB (dBin (gEq true) (dVarB 0 gIx (dVarB 4 gIx (dUn gNeg (dC (.int 1))))) (dVar 3)) [.d (tupN t), s1, s2, .d (nI s), .own (.lst ((cyc T s j).map nI)), s5] = some (!(((itr T (j + 1) s : Nat) : Int) == (s : Int)), [.d (tupN t), s1, s2, .d (nI s), .own (.lst ((cyc T s j).map nI)), s5]) := by
        simp [dSeq, dNext, dAsg, dDrop, dRet, dRetV, dRetN, dIfS, dBreak, dCont, dNotT, dAndT, dOrT, dTestB, dTru, dAndV, dOrV, dNotV, dIf, dVar, dC, dUn, dBin, dNil, dCons, dCB, dTup, dLst, dats, dgName, dgCons, dgNil, dgTup, dYes, dVarB, dBinB, dLenB, SD.known, fz, SD.mo, SD.re, MO.dat, okSlot, dPar, dApp, dSAdd, dISeq, itemsD, dIRng1, dIRng2, dFor, dCall, runF, resF, keepIo, asD, asI, moL, moS, moD, wipeD, restD, plainAt, kdAt, SD.kd, lcStep, Option.bind, Option.map, List.set, List.getElem?_cons_zero, List.getElem?_cons_succ, f1, f2, f3, f4]
      by_cases c : itr T (j + 1) s = s
      · left
        refine ⟨_, ?_, j, c, by omega, rfl⟩
        rw [tc]
        simp [c]
      · right
        have hlt : j < K := by
          rcases Nat.lt_or_ge j K with z | z
          · exact z
          · have : j = K := by omega
            rw [this] at c; exact absurd hK c
        refine ⟨[.d (tupN t), s1, s2, .d (nI s), .own (.lst ((cyc T s j).map nI)), s5], [.d (tupN t), s1, s2, .d (nI s), .own (.lst ((cyc T s (j + 1)).map nI)), s5], K - (j + 1), tc.trans ?_, ?_, by omega, j + 1, by omega, rfl, rfl⟩
        · have : (((itr T (j + 1) s : Nat) : Int) == (s : Int)) = false := by simpa using fun z => c (by omega)
          rw [this]; rfl
        · have hlen : (cyc T s j).length < 50000 := by unfold cyc; simp; omega
          simp [dSeq, dNext, dAsg, dDrop, dRet, dRetV, dRetN, dIfS, dBreak, dCont, dNotT, dAndT, dOrT, dTestB, dTru, dAndV, dOrV, dNotV, dIf, dVar, dC, dUn, dBin, dNil, dCons, dCB, dTup, dLst, dats, dgName, dgCons, dgNil, dgTup, dYes, dVarB, dBinB, dLenB, SD.known, fz, SD.mo, SD.re, MO.dat, okSlot, dPar, dApp, dSAdd, dISeq, itemsD, dIRng1, dIRng2, dFor, dCall, runF, resF, keepIo, asD, asI, moL, moS, moD, wipeD, restD, plainAt, kdAt, SD.kd, lcStep, Option.bind, Option.map, List.set, List.getElem?_cons_zero, List.getElem?_cons_succ, f1, f2, f3, hlen, cyc_succ])
    fuel (K - 0) _ (by unfold fuel; omega) ⟨0, Nat.zero_le _, rfl, rfl⟩
  subst q3
  exact ⟨j, q1, q2, e⟩
/-- for one in row: seen.add(one) -/
theorem w_adds {N : Nat} (hN : N ≤ 1000) (s0 s2 s3 s4 : SD) : ∀ (row : List Nat) {S : Int → Bool} {k : Nat} {P : Nat → Prop} (s5 : SD), SetIs N S k P → (∀ y ∈ row, y < N) →
    ∃ S' k' s5', SetIs N S' k' (fun y => P y ∨ y ∈ row) ∧ dLoop (dgName 5) (dSeq (dSAdd 1 (dVar 5)) dNext) (row.map nI) [s0, .own (.set S k), s2, s3, s4, s5] = some (.nx, [s0, .own (.set S' k'), s2, s3, s4, s5'])
  | [], S, k, P, s5, h, _ => ⟨S, k, s5, h.congr fun y => by simp, rfl⟩
  | x :: r, S, k, P, s5, h, hb => by
    have hx := hb x (List.mem_cons_self ..)
    have sm := h.small
    obtain ⟨S', k', s5', h', e⟩ := w_adds hN s0 s2 s3 s4 r (.d (nI x)) (h.add hx) fun y hy => hb y (List.mem_cons_of_mem _ hy)
    refine ⟨S', k', s5', h'.congr fun y => ?_, ?_⟩
    · rw [List.mem_cons, or_assoc]
    · have hk : k < 4000 := by omega
      have st : ((dgName 5) (.d (nI x)) [s0, .own (.set S k), s2, s3, s4, s5]).bind (dSeq (dSAdd 1 (dVar 5)) dNext) = some (.nx, [s0, .own (.set (fun j => S j || decide (j = (x : Int))) (if S (x : Int) = true then k else k + 1)), s2, s3, s4, .d (nI x)]) := by
        simp [dSeq, dNext, dAsg, dDrop, dRet, dRetV, dRetN, dIfS, dBreak, dCont, dNotT, dAndT, dOrT, dTestB, dTru, dAndV, dOrV, dNotV, dIf, dVar, dC, dUn, dBin, dNil, dCons, dCB, dTup, dLst, dats, dgName, dgCons, dgNil, dgTup, dYes, dVarB, dBinB, dLenB, SD.known, fz, SD.mo, SD.re, MO.dat, okSlot, dPar, dApp, dSAdd, dISeq, itemsD, dIRng1, dIRng2, dFor, dCall, runF, resF, keepIo, asD, asI, moL, moS, moD, wipeD, restD, plainAt, kdAt, SD.kd, lcStep, Option.bind, Option.map, List.set, List.getElem?_cons_zero, List.getElem?_cons_succ, hk]
      show dLoop _ _ (nI x :: r.map nI) _ = _
      rw [loop_cons st]
      exact e
open Classical in
theorem v_cycles_of {t : List Nat} {T : Nat → Nat} {N : Nat} (ht : t.length = N) (hT : ∀ d, d < N → t.getD d 0 = T d) (P : Pm N T) (hN : N ≤ 1000) :
    ∃ rows : List Dat, Φ_cycles_of [.d (tupN t)] = some (.own (.lst rows), [.d (tupN t)]) ∧ rows.length = ncl N (Cy N T) := by
  let B : DS := dSeq (dIfS (dTestB (dBinB (gOr (gSIn true) (gIn true)) (dVar 3) 1)) (dSeq (dAsg (dLst (dCons (dVar 3) dNil)) (dgName 4))
    (dSeq (dWhile (dTestB (dBin (gEq true) (dVarB 0 gIx (dVarB 4 gIx (dUn gNeg (dC (.int 1))))) (dVar 3))) (dSeq (dApp 4 (dVarB 0 gIx (dVarB 4 gIx (dUn gNeg (dC (.int 1)))))) dNext) fuel)
    (dSeq (dFor (dISeq (dVar 4)) (dgName 5) (dSeq (dSAdd 1 (dVar 5)) dNext))
    (dSeq (dApp 2 (dCB gTuple (dCons (dVar 4) dNil))) dNext)))) dNext) dNext
  obtain ⟨ρ', e, S, k, rows, s3, s4, s5, q1, q2, q3, q4⟩ := loop_all (g := dgName 3) (b := B) (xs := (List.range N).map nI)
    (fun i ρ => ∃ (S : Int → Bool) (k : Nat) (rows : List Dat) (s3 s4 s5 : SD), ρ = [.d (tupN t), .own (.set S k), .own (.lst rows), s3, s4, s5] ∧ SetIs N S k (fun y => ∃ s, s < i ∧ Cy N T s y) ∧ rows.length = ncl i (Cy N T) ∧ i ≤ N)
    (fun i x ρ hx ⟨S, k, rows, s3, s4, s5, hρ, hS, hr, hi⟩ => by
      subst hρ
      rw [List.getElem?_map] at hx
      obtain ⟨i', hi', ex⟩ := Option.map_some' hx
      obtain ⟨hlt, ei⟩ := List.getElem?_eq_some_iff.mp hi'
      rw [List.length_range] at hlt
      rw [List.getElem_range] at ei
      subst ei
      subst ex
      by_cases c : S (i : Int) = true
      · have hm : ¬ Mn (Cy N T) i := by
          obtain ⟨s, hs, r⟩ := (hS.mem i).mp c
          exact fun z => z s hs r
        refine ⟨[.d (tupN t), .own (.set S k), .own (.lst rows), .d (nI i), s4, s5], ?_, S, k, rows, _, s4, s5, rfl, hS.congr fun y => ?_, ?_, by omega⟩
        · simp [B, dSeq, dNext, dAsg, dDrop, dRet, dRetV, dRetN, dIfS, dBreak, dCont, dNotT, dAndT, dOrT, dTestB, dTru, dAndV, dOrV, dNotV, dIf, dVar, dC, dUn, dBin, dNil, dCons, dCB, dTup, dLst, dats, dgName, dgCons, dgNil, dgTup, dYes, dVarB, dBinB, dLenB, SD.known, fz, SD.mo, SD.re, MO.dat, okSlot, dPar, dApp, dSAdd, dISeq, itemsD, dIRng1, dIRng2, dFor, dCall, runF, resF, keepIo, asD, asI, moL, moS, moD, wipeD, restD, plainAt, kdAt, SD.kd, lcStep, Option.bind, Option.map, List.set, List.getElem?_cons_zero, List.getElem?_cons_succ, gOr, gSIn, c]
        · constructor
          · rintro ⟨s, hs, r⟩; exact ⟨s, by omega, r⟩
          · rintro ⟨s, hs, r⟩
            by_cases z : s = i
            · subst z
              obtain ⟨s', hs', r'⟩ := (hS.mem s).mp c
              exact ⟨s', hs', r'.tr r⟩
            · exact ⟨s, by omega, r⟩
        · rw [ncl_range, if_neg (by simpa using hm), hr]; rfl
      · have c' : S (i : Int) = false := by simpa using c
        have hm : Mn (Cy N T) i := fun y hy r => c ((hS.mem i).mpr ⟨y, hy, r⟩)
        obtain ⟨j, j1, j2, ew⟩ := w_cyc ht hT P hN hlt (.own (.set S k)) (.own (.lst rows)) s5
        have cb : ∀ y ∈ cyc T i j, y < N := fun y hy => (Cy.lt P ((cyc_mem P hlt j1 y).mp hy)).mp hlt
        obtain ⟨S', k', s5', hS', ea⟩ := w_adds hN (.d (tupN t)) (.own (.lst rows)) (.d (nI i)) (.d (lstN (cyc T i j))) (cyc T i j) s5 hS cb
        have hrl : rows.length < 50000 := by
          rw [hr]
          have : ncl i (Cy N T) ≤ i := by
            unfold ncl
            have := List.length_filter_le (fun x => decide (Mn (Cy N T) x)) (List.range i)
            rwa [List.length_range] at this
          omega
        have hf : dFor (dISeq (dVar 4)) (dgName 5) (dSeq (dSAdd 1 (dVar 5)) dNext) [.d (tupN t), .own (.set S k), .own (.lst rows), .d (nI i), .own (.lst ((cyc T i j).map nI)), s5] = some (.nx, [.d (tupN t), .own (.set S' k'), .own (.lst rows), .d (nI i), .d (lstN (cyc T i j)), s5']) := (q_for rfl).trans ea
        refine ⟨[.d (tupN t), .own (.set S' k'), .own (.lst (rows ++ [tupN (cyc T i j)])), .d (nI i), .d (lstN (cyc T i j)), s5'], ?_, S', k', _, _, _, _, rfl, hS'.congr fun y => ?_, ?_, by omega⟩
        · show B [.d (tupN t), .own (.set S k), .own (.lst rows), .d (nI i), s4, s5] = _
          refine q_next.trans ((q_ifT (ρ1 := [.d (tupN t), .own (.set S k), .own (.lst rows), .d (nI i), s4, s5]) ?_).trans ((q_seq (ρ1 := [.d (tupN t), .own (.set S k), .own (.lst rows), .d (nI i), .own (.lst [nI i]), s5]) rfl).trans ((q_seq ew).trans ((q_seq hf).trans (q_next.trans ?_)))))
          · simp [dSeq, dNext, dAsg, dDrop, dRet, dRetV, dRetN, dIfS, dBreak, dCont, dNotT, dAndT, dOrT, dTestB, dTru, dAndV, dOrV, dNotV, dIf, dVar, dC, dUn, dBin, dNil, dCons, dCB, dTup, dLst, dats, dgName, dgCons, dgNil, dgTup, dYes, dVarB, dBinB, dLenB, SD.known, fz, SD.mo, SD.re, MO.dat, okSlot, dPar, dApp, dSAdd, dISeq, itemsD, dIRng1, dIRng2, dFor, dCall, runF, resF, keepIo, asD, asI, moL, moS, moD, wipeD, restD, plainAt, kdAt, SD.kd, lcStep, Option.bind, Option.map, List.set, List.getElem?_cons_zero, List.getElem?_cons_succ, gOr, gSIn, c']
          · simp [dSeq, dNext, dAsg, dDrop, dRet, dRetV, dRetN, dIfS, dBreak, dCont, dNotT, dAndT, dOrT, dTestB, dTru, dAndV, dOrV, dNotV, dIf, dVar, dC, dUn, dBin, dNil, dCons, dCB, dTup, dLst, dats, dgName, dgCons, dgNil, dgTup, dYes, dVarB, dBinB, dLenB, SD.known, fz, SD.mo, SD.re, MO.dat, okSlot, dPar, dApp, dSAdd, dISeq, itemsD, dIRng1, dIRng2, dFor, dCall, runF, resF, keepIo, asD, asI, moL, moS, moD, wipeD, restD, plainAt, kdAt, SD.kd, lcStep, Option.bind, Option.map, List.set, List.getElem?_cons_zero, List.getElem?_cons_succ, gTuple, hrl]
        · rw [cyc_mem P hlt j1]
          constructor
          · rintro (⟨s, hs, r⟩ | r)
            · exact ⟨s, by omega, r⟩
            · exact ⟨i, by omega, r⟩
          · rintro ⟨s, hs, r⟩
            by_cases z : s = i
            · exact .inr (z ▸ r)
            · exact .inl ⟨s, by omega, r⟩
        · rw [ncl_range, if_pos (by simpa using hm), List.length_append, hr]; rfl)
    (ρ := [.d (tupN t), .own (.set (fun _ => false) 0), .own (.lst []), .no, .no, .no])
    ⟨_, _, _, _, _, _, rfl, (SetIs.empty N).congr fun y => by simp, by rfl, Nat.zero_le _⟩
  subst q1
  refine ⟨rows, ?_, ?_⟩
  · have hf : dFor (dIRng1 (dCons (dLenB 0) dNil)) (dgName 3) B [.d (tupN t), .own (.set (fun _ => false) 0), .own (.lst []), .no, .no, .no] = _ := (q_for (q_rng1 (k := N) (ρ1 := [.d (tupN t), .own (.set (fun _ => false) 0), .own (.lst []), .no, .no, .no]) (by simp [dSeq, dNext, dAsg, dDrop, dRet, dRetV, dRetN, dIfS, dBreak, dCont, dNotT, dAndT, dOrT, dTestB, dTru, dAndV, dOrV, dNotV, dIf, dVar, dC, dUn, dBin, dNil, dCons, dCB, dTup, dLst, dats, dgName, dgCons, dgNil, dgTup, dYes, dVarB, dBinB, dLenB, SD.known, fz, SD.mo, SD.re, MO.dat, okSlot, dPar, dApp, dSAdd, dISeq, itemsD, dIRng1, dIRng2, dFor, dCall, runF, resF, keepIo, asD, asI, moL, moS, moD, wipeD, restD, plainAt, kdAt, SD.kd, lcStep, Option.bind, Option.map, List.set, List.getElem?_cons_zero, List.getElem?_cons_succ, lenD, SD.seq, SD.lst, SD.tup, ht]) (by omega))).trans e
    refine q_runF rfl ((q_seq (ρ1 := [.d (tupN t), .own (.set (fun _ => false) 0), .no, .no, .no, .no]) rfl).trans ((q_seq (ρ1 := [.d (tupN t), .own (.set (fun _ => false) 0), .own (.lst []), .no, .no, .no]) rfl).trans ((q_seq hf).trans (q_next.trans (show dRetV 2 _ = some (.ret (.own (.lst rows)), _) from rfl))))) rfl rfl
  · rw [q3]
    simp
end K62

set_option Elab.async false
set_option linter.all false
set_option maxRecDepth 100000
set_option maxHeartbeats 4000000
namespace K62
open PySem PySem.Spec PyProof.Rows L2 DP WM
/-! ### equal rows of ints -/
theorem py_ints : ∀ l : List Int, pyAll (l.map Dat.int) = some (l.map PyData.int)
  | [] => rfl
  | x :: r => by
    show ((Dat.py (.int x)).bind fun a => (pyAll (r.map Dat.int)).map (a :: ·)) = _
    rw [py_ints r]; rfl
theorem eqv_ints : ∀ l l' : List Int, PyData.eqvAll (l.map PyData.int) (l'.map PyData.int) = (l == l')
  | [], [] => rfl
  | [], _ :: _ => rfl
  | _ :: _, [] => rfl
  | x :: r, y :: r' => by
    show (PyData.eqv (.int x) (.int y) && PyData.eqvAll (r.map PyData.int) (r'.map PyData.int)) = _
    rw [eqv_ints r r']; rfl
theorem lay_ints : ∀ l : List Int, PyData.canLayAll0 (l.map PyData.int) = true
  | [] => rfl
  | x :: r => by
    show (PyData.canLay0 (.int x) && PyData.canLayAll0 (r.map PyData.int)) = true
    rw [lay_ints r]; rfl
theorem dep_ints : ∀ l : List Int, PyData.depthAll (l.map PyData.int) = 0
  | [] => rfl
  | x :: r => by
    show max (PyData.depth (.int x)) (PyData.depthAll (r.map PyData.int)) = 0
    rw [dep_ints r]; rfl
theorem sh_l (l : List Int) : SeqAt.shaped (.list (l.map PyData.int)) = true := by
  unfold SeqAt.shaped
  show (PyData.canLayAll0 (l.map PyData.int) && decide (PyData.depthAll (l.map PyData.int) + 1 ≤ 64)) = true
  rw [lay_ints, dep_ints]; rfl
theorem sh_t (l : List Int) : SeqAt.shaped (.tuple (l.map PyData.int)) = true := by
  unfold SeqAt.shaped
  show (PyData.canLayAll0 (l.map PyData.int) && decide (PyData.depthAll (l.map PyData.int) + 1 ≤ 64)) = true
  rw [lay_ints, dep_ints]; rfl
theorem g_eqL {neg : Bool} {s s' : SD} {l l' : List Int} (e : s.dat = some (.lst (l.map Dat.int))) (e' : s'.dat = some (.lst (l'.map Dat.int))) : gEq neg s s' = some (.d (.bl (if neg then !(l == l') else l == l'))) := by
  unfold gEq
  rw [e, e']
  show ((pyAll (l.map Dat.int)).map PyData.list).bind (fun p => ((pyAll (l'.map Dat.int)).map PyData.list).bind fun q => if SeqAt.shaped p = true ∧ SeqAt.shaped q = true then some (SD.d (.bl (if neg then !PyData.eqv p q else PyData.eqv p q))) else none) = _
  rw [py_ints, py_ints]
  show (if SeqAt.shaped (.list (l.map PyData.int)) = true ∧ SeqAt.shaped (.list (l'.map PyData.int)) = true then some (SD.d (.bl (if neg then !PyData.eqvAll (l.map PyData.int) (l'.map PyData.int) else PyData.eqvAll (l.map PyData.int) (l'.map PyData.int)))) else none) = _
  rw [if_pos ⟨sh_l l, sh_l l'⟩, eqv_ints]
theorem g_eqT {neg : Bool} {l l' : List Int} : gEq neg (.d (.tup (l.map Dat.int))) (.d (.tup (l'.map Dat.int))) = some (.d (.bl (if neg then !(l == l') else l == l'))) := by
  show ((pyAll (l.map Dat.int)).map PyData.tuple).bind (fun p => ((pyAll (l'.map Dat.int)).map PyData.tuple).bind fun q => if SeqAt.shaped p = true ∧ SeqAt.shaped q = true then some (SD.d (.bl (if neg then !PyData.eqv p q else PyData.eqv p q))) else none) = _
  rw [py_ints, py_ints]
  show (if SeqAt.shaped (.tuple (l.map PyData.int)) = true ∧ SeqAt.shaped (.tuple (l'.map PyData.int)) = true then some (SD.d (.bl (if neg then !PyData.eqvAll (l.map PyData.int) (l'.map PyData.int) else PyData.eqvAll (l.map PyData.int) (l'.map PyData.int)))) else none) = _
  rw [if_pos ⟨sh_t l, sh_t l'⟩, eqv_ints]
theorem mapN (l : List Nat) : l.map nI = (l.map fun x : Nat => (x : Int)).map Dat.int := by rw [List.map_map]; rfl
theorem g_eqTN {neg : Bool} {l l' : List Nat} : gEq neg (.d (tupN l)) (.d (tupN l')) = some (.d (.bl (if neg then !(decide (l = l')) else decide (l = l')))) := by
  have inj : ∀ a b : List Nat, (a.map (fun x : Nat => (x : Int)) == b.map (fun x : Nat => (x : Int))) = decide (a = b) := fun a b => by
    by_cases h : a = b
    · subst h; simp
    · have : a.map (fun x : Nat => (x : Int)) ≠ b.map (fun x : Nat => (x : Int)) := fun e => h (List.map_inj_right (fun x y z => by omega) |>.mp e)
      simp [h, this]
  rw [← inj]
  unfold tupN
  rw [mapN, mapN]
  exact g_eqT
/-! ### is_permutation -/
theorem ints_nI (l : List Nat) : intsD (l.map nI) = some (l.map fun x : Nat => (x : Int)) := by rw [mapN]; exact map_ints _
theorem all_true : ∀ l : List Nat, bools (l.map fun _ => Dat.bl true) = some (l.map fun _ => true)
  | [] => rfl
  | _ :: r => by
    show (bools (r.map fun _ => Dat.bl true)).map (true :: ·) = _
    rw [all_true r]; rfl
theorem sort_perm {t : List Nat} {T : Nat → Nat} {N : Nat} (ht : t.length = N) (hT : ∀ d, d < N → t.getD d 0 = T d) (P : Pm N T) : sortI (t.map fun x : Nat => (x : Int)) = (List.range N).map fun x : Nat => (x : Int) := by
  have et : t = (List.range N).map T := by
    apply List.ext_getElem
    · simp [ht]
    · intro i h1 h2
      have := hT i (by omega)
      rw [List.getD_eq_getElem?_getD, List.getElem?_eq_getElem h1] at this
      simp at this
      simp [this]
  symm
  apply sortI_is
  · rw [et]
    apply List.Perm.map
    rw [List.perm_ext_iff_of_nodup List.nodup_range]
    · intro a
      rw [List.mem_range, List.mem_map]
      constructor
      · intro h
        obtain ⟨x, hx, e⟩ := P.surj h
        exact ⟨x, List.mem_range.mpr hx, e⟩
      · rintro ⟨x, hx, e⟩
        rw [← e]; exact P.lt x (List.mem_range.mp hx)
    · rw [List.nodup_iff_pairwise_ne, List.pairwise_map]
      have nd : (List.range N).Nodup := List.nodup_range
      rw [List.nodup_iff_pairwise_ne] at nd
      exact List.Pairwise.imp_of_mem (fun {a b} ha hb ne e => ne (P.inj a b (List.mem_range.mp ha) (List.mem_range.mp hb) e)) nd
  · rw [List.pairwise_map]
    have : (List.range N).Pairwise (· < ·) := List.pairwise_lt_range
    exact this.imp fun h => by omega
theorem v_is_permutation {t : List Nat} {T : Nat → Nat} {N : Nat} (ht : t.length = N) (hT : ∀ d, d < N → t.getD d 0 = T d) (P : Pm N T) (hN : N < 64) : Φ_is_permutation [.d (tupN t), .d (nI N)] = some (.d (.bl true), [.d (tupN t), .d (nI N)]) := by
  have lp : lcLoop [2] (dgName 2) dYes (dCall Φ_is_count (dCons (dVar 2) dNil)) (t.map nI) [.d (tupN t), .d (nI N), .no] [] = some (t.map fun _ => Dat.bl true, [.d (tupN t), .d (nI N), .no]) := by
    rw [lc_map (fun _ => some (.bl true)) (fun x hx => ?_) (by simp; omega)]
    · congr 2
      rw [List.filterMap_map]
      exact filterMap_some (fun _ => Dat.bl true) t
    · obtain ⟨d, hd, rfl⟩ := List.mem_map.mp hx
      have e := v_is_count (d : Int) (by omega)
      simp [dSeq, dNext, dAsg, dDrop, dRet, dRetV, dRetN, dIfS, dBreak, dCont, dNotT, dAndT, dOrT, dTestB, dTru, dAndV, dOrV, dNotV, dIf, dVar, dC, dUn, dBin, dNil, dCons, dCB, dTup, dLst, dats, dgName, dgCons, dgNil, dgTup, dYes, dVarB, dBinB, dLenB, SD.known, fz, SD.mo, SD.re, MO.dat, okSlot, dPar, dApp, dSAdd, dISeq, itemsD, dIRng1, dIRng2, dFor, dCall, runF, resF, keepIo, asD, asI, moL, moS, moD, wipeD, restD, plainAt, kdAt, SD.kd, lcStep, Option.bind, Option.map, List.set, List.getElem?_cons_zero, List.getElem?_cons_succ, e]
  have e1 : gEq true (.d (nI N)) (.d (nI N)) = some (.d (.bl (!((N : Int) == (N : Int))))) := g_eqI
  have c1 : dTestB (dBin (gEq true) (dLenB 0) (dVar 1)) [.d (tupN t), .d (nI N), .no] = some (false, [.d (tupN t), .d (nI N), .no]) := by
    simp [dSeq, dNext, dAsg, dDrop, dRet, dRetV, dRetN, dIfS, dBreak, dCont, dNotT, dAndT, dOrT, dTestB, dTru, dAndV, dOrV, dNotV, dIf, dVar, dC, dUn, dBin, dNil, dCons, dCB, dTup, dLst, dats, dgName, dgCons, dgNil, dgTup, dYes, dVarB, dBinB, dLenB, SD.known, fz, SD.mo, SD.re, MO.dat, okSlot, dPar, dApp, dSAdd, dISeq, itemsD, dIRng1, dIRng2, dFor, dCall, runF, resF, keepIo, asD, asI, moL, moS, moD, wipeD, restD, plainAt, kdAt, SD.kd, lcStep, Option.bind, Option.map, List.set, List.getElem?_cons_zero, List.getElem?_cons_succ, lenD, SD.seq, SD.lst, SD.tup, ht, e1]
  have c2 : dTru (dCB gAll (dCons (dLC [2] (dISeq (dVar 0)) (dgName 2) dYes (dCall Φ_is_count (dCons (dVar 2) dNil))) dNil)) [.d (tupN t), .d (nI N), .no] = some (true, [.d (tupN t), .d (nI N), .no]) := by
    refine q_tru (s := .d (.bl true)) (q_cb (q_cons (q_lc (ρ1 := [.d (tupN t), .d (nI N), .no]) rfl rfl lp) rfl rfl) ?_) rfl
    show (bools (t.map fun _ => Dat.bl true)).map _ = _
    rw [all_true]
    simp
  have hs : gSorted [.d (tupN t)] = some (.own (.lst (((List.range N).map fun x : Nat => (x : Int)).map Dat.int))) := by
    show (intsD (t.map nI)).bind _ = _
    rw [ints_nI]
    show (if (t.map fun x : Nat => (x : Int)).length < 64 then some (SD.own (.lst ((sortI (t.map fun x : Nat => (x : Int))).map Dat.int))) else none) = _
    rw [if_pos (by simp; omega), sort_perm ht hT P]
  have hr : dLstRg1 (dVar 1) [.d (tupN t), .d (nI N), .no] = some (.own (.lst (((List.range N).map fun x : Nat => (x : Int)).map Dat.int)), [.d (tupN t), .d (nI N), .no]) := by
    show (if -1000000 ≤ (N : Int) ∧ (N : Int) ≤ 1000000 then some (((0 : Int), (N : Int)), [SD.d (tupN t), .d (nI N), .no]) else none).map _ = _
    rw [if_pos ⟨by omega, by omega⟩]
    show some (SD.own (.lst (rgD 0 (N : Int))), _) = _
    rw [rgD_nat, mapN]
  refine q_runF rfl ((q_seq ((q_ifF ((q_orF c1).trans (q_notT c2))).trans rfl)).trans (q_next.trans (q_retE (q_bin (q_cb (q_cons (ρ1 := [.d (tupN t), .d (nI N), .no]) rfl rfl rfl) hs) hr ((g_eqL rfl rfl).trans ?_))))) rfl rfl
  simp
end K62

set_option Elab.async false
set_option linter.all false
set_option maxRecDepth 100000
set_option maxHeartbeats 4000000
namespace K62
open PySem PySem.Spec PyProof.Rows L2 DP WM
/-! ### dicts by their keys -/
theorem valD_key (kvs : List (Key × Dat)) (k : Key) : (valD kvs k).isSome = true ↔ k ∈ kvs.map (·.1) := by
  unfold valD
  rw [Option.isSome_map, List.find?_isSome, List.mem_map]
  constructor
  · rintro ⟨x, hx, e⟩; exact ⟨x, hx, by simpa using e⟩
  · rintro ⟨x, hx, e⟩; exact ⟨x, hx, by simpa using e⟩
theorem putD_key (kvs : List (Key × Dat)) (k : Key) (v : Dat) (k' : Key) : k' ∈ (putD kvs k v).map (·.1) ↔ k' ∈ kvs.map (·.1) ∨ k' = k := by
  unfold putD
  split
  · rename_i h
    have : (kvs.map fun kv => if kv.1 = k then (kv.1, v) else kv).map (·.1) = kvs.map (·.1) := by
      rw [List.map_map]
      apply List.map_congr_left
      intro a _
      show (if a.1 = k then (a.1, v) else a).1 = a.1
      split <;> rfl
    rw [this]
    constructor
    · exact .inl
    · rintro (z | z)
      · exact z
      · obtain ⟨x, hx, e⟩ := List.any_eq_true.mp h
        rw [z]
        exact List.mem_map.mpr ⟨x, hx, by simpa using e⟩
  · rw [List.map_append, List.mem_append]
    simp
theorem putD_len (kvs : List (Key × Dat)) (k : Key) (v : Dat) : (putD kvs k v).length ≤ kvs.length + 1 := by
  unfold putD
  split
  · rw [List.length_map]; omega
  · rw [List.length_append]; exact Nat.le_refl _
/-- the keys are the numbers of o -/
def Keys (kvs : List (Key × Dat)) (o : List Nat) : Prop := (∀ y : Nat, (Sum.inl (y : Int) : Key) ∈ kvs.map (·.1) ↔ y ∈ o) ∧ kvs.length ≤ o.length
theorem Keys.put {kvs : List (Key × Dat)} {o : List Nat} (h : Keys kvs o) (x : Nat) (v : Dat) : Keys (putD kvs (.inl (x : Int)) v) (o ++ [x]) := by
  refine ⟨fun y => ?_, ?_⟩
  · rw [putD_key, h.1 y, List.mem_append, List.mem_singleton]
    constructor
    · rintro (z | z)
      · exact .inl z
      · right
        have z : (y : Int) = (x : Int) := Sum.inl.inj z
        omega
    · rintro (z | z)
      · exact .inl z
      · exact .inr (by rw [z])
  · have := putD_len kvs (.inl (x : Int)) v
    have := h.2
    rw [List.length_append]
    simp
    omega
theorem Keys.val {kvs : List (Key × Dat)} {o : List Nat} (h : Keys kvs o) (x : Nat) : (valD kvs (.inl (x : Int))).isSome = decide (x ∈ o) := by
  by_cases c : x ∈ o
  · rw [decide_eq_true c]; exact (valD_key _ _).mpr ((h.1 x).mpr c)
  · rw [decide_eq_false c]
    cases e : (valD kvs (.inl (x : Int))).isSome with
    | false => rfl
    | true => exact absurd ((h.1 x).mp ((valD_key _ _).mp e)) c
/-! ### read_from -/
theorem g_lt {i j : Int} : gLt (.d (.int i)) (.d (.int j)) = some (.d (.bl (decide (i < j)))) := rfl
theorem v_read_from {t : List Nat} {T : Nat → Nat} {n : Nat} (hn : 0 < n) (ht : t.length = 2 * n) (hT : ∀ d, d < 2 * n → t.getD d 0 = T d) (P : Pm (2 * n) T) (hN : n ≤ 100)
    (con : ∀ S : Nat → Prop, S 0 → (∀ x, x < 2 * n → S x → S (T x)) → (∀ x, x < 2 * n → S x → S (fl x)) → ∀ x, x < 2 * n → S x) :
    ∃ (told : Dat) (o : List Nat), Φ_read_from [.d (tupN t), .d (nI 0)] = some (.d (.tup [told, lstN o]), [.d (tupN t), .d (nI 0)]) ∧ o.length = 2 * n := by
  let C : DT := dTestB (dBin gLt (dLenB 4) (dLenB 2))
  let B : DS := dSeq (dAsg (dVarB 0 gIx (dVarB 2 gIx (dLenB 4))) (dgName 5))
    (dSeq (dIfS (dTestB (dInD true (dVar 5) 3)) (dSeq (dAsg (dLenB 2) (dgSub 3 (dVar 5)))
    (dSeq (dAsg (dBin gAdd (dLenB 2) (dC (.int 1))) (dgSub 3 (dBin gXor (dVar 5) (dC (.int 1)))))
    (dSeq (dApp 2 (dVar 5))
    (dSeq (dApp 2 (dBin gXor (dVar 5) (dC (.int 1))))
    dNext)))) dNext)
    (dSeq (dApp 4 (dGetB 3 (dVar 5)))
    dNext))
  obtain ⟨ρ', e, o, kvs, told, s5, q1, q2, q3, q4⟩ := while_inv (c := C) (b := B)
    (fun m ρ => ∃ (o : List Nat) (kvs : List (Key × Dat)) (told : List Dat) (s5 : SD), ρ = [.d (tupN t), .d (nI 0), .own (.lst (o.map nI)), .own (.dic kvs), .own (.lst told), s5] ∧ m = 2 * n - told.length ∧ Keys kvs o ∧ o.Nodup ∧ (∀ x ∈ o, x < 2 * n ∧ fl x ∈ o) ∧ 0 ∈ o ∧ told.length ≤ o.length ∧ ∀ i x, i < told.length → o[i]? = some x → T x ∈ o)
    (fun ρ => ∃ (o : List Nat) (kvs : List (Key × Dat)) (told : List Dat) (s5 : SD), ρ = [.d (tupN t), .d (nI 0), .own (.lst (o.map nI)), .own (.dic kvs), .own (.lst told), s5] ∧ o.length = 2 * n ∧ True ∧ True)
    (fun m ρ ⟨o, kvs, told, s5, hρ, hm, hk, nd, ho, h0, hl, hc⟩ => by
      subst hρ
      have olen : o.length ≤ 2 * n := by
        have := sub_len (l' := List.range (2 * n)) nd fun x hx => List.mem_range.mpr (ho x hx).1
        rwa [List.length_range] at this
      have tc : C [.d (tupN t), .d (nI 0), .own (.lst (o.map nI)), .own (.dic kvs), .own (.lst told), s5] = some (decide ((told.length : Int) < (o.length : Int)), [.d (tupN t), .d (nI 0), .own (.lst (o.map nI)), .own (.dic kvs), .own (.lst told), s5]) := by
        simp [C, dSeq, dNext, dAsg, dDrop, dRet, dRetV, dRetN, dIfS, dBreak, dCont, dNotT, dAndT, dOrT, dTestB, dTru, dAndV, dOrV, dNotV, dIf, dVar, dC, dUn, dBin, dNil, dCons, dCB, dTup, dLst, dats, dgName, dgCons, dgNil, dgTup, dYes, dVarB, dBinB, dLenB, SD.known, fz, SD.mo, SD.re, MO.dat, okSlot, dPar, dApp, dSAdd, dISeq, itemsD, dIRng1, dIRng2, dFor, dCall, runF, resF, keepIo, asD, asI, moL, moS, moD, wipeD, restD, plainAt, kdAt, SD.kd, lcStep, Option.bind, Option.map, List.set, List.getElem?_cons_zero, List.getElem?_cons_succ, lenD, SD.seq, SD.lst, SD.tup, g_lt]
      by_cases c : told.length < o.length
      · right
        obtain ⟨x, hx⟩ : ∃ x, o[told.length]? = some x := ⟨_, List.getElem?_eq_getElem c⟩
        have hxo : x ∈ o := List.mem_of_getElem? hx
        have hx2 := (ho x hxo).1
        have hTx := P.lt x hx2
        have f1 : gIx (.own (.lst (o.map nI))) (.d (.int (told.length : Nat))) = some (.d (nI x)) := g_ix rfl (by rw [List.getElem?_map, hx]; rfl)
        have f2 : gIx (.d (tupN t)) (.d (nI x)) = some (.d (nI (T x))) := g_ix rfl (getT ht hT hx2)
        have fx : gXor (.d (nI (T x))) (.d (.int 1)) = some (.d (nI (fl (T x)))) := g_xor1
        have lo : o.length < 50000 := by omega
        have lo2 : o.length + 1 < 50000 := by omega
        have lt2 : told.length < 50000 := by omega
        have a1 : dAsg (dVarB 0 gIx (dVarB 2 gIx (dLenB 4))) (dgName 5) [.d (tupN t), .d (nI 0), .own (.lst (o.map nI)), .own (.dic kvs), .own (.lst told), s5] = some (.nx, [.d (tupN t), .d (nI 0), .own (.lst (o.map nI)), .own (.dic kvs), .own (.lst told), .d (nI (T x))]) := by
          simp [dSeq, dNext, dAsg, dDrop, dRet, dRetV, dRetN, dIfS, dBreak, dCont, dNotT, dAndT, dOrT, dTestB, dTru, dAndV, dOrV, dNotV, dIf, dVar, dC, dUn, dBin, dNil, dCons, dCB, dTup, dLst, dats, dgName, dgCons, dgNil, dgTup, dYes, dVarB, dBinB, dLenB, SD.known, fz, SD.mo, SD.re, MO.dat, okSlot, dPar, dApp, dSAdd, dISeq, itemsD, dIRng1, dIRng2, dFor, dCall, runF, resF, keepIo, asD, asI, moL, moS, moD, wipeD, restD, plainAt, kdAt, SD.kd, lcStep, Option.bind, Option.map, List.set, List.getElem?_cons_zero, List.getElem?_cons_succ, lenD, SD.seq, SD.lst, SD.tup, f1, f2]
        have hval := hk.val (T x)
        by_cases d : T x ∈ o
        · -- known
          have dt : dTestB (dInD true (dVar 5) 3) [.d (tupN t), .d (nI 0), .own (.lst (o.map nI)), .own (.dic kvs), .own (.lst told), .d (nI (T x))] = some (false, [.d (tupN t), .d (nI 0), .own (.lst (o.map nI)), .own (.dic kvs), .own (.lst told), .d (nI (T x))]) := by
            rw [decide_eq_true d] at hval
            simp [dSeq, dNext, dAsg, dDrop, dRet, dRetV, dRetN, dIfS, dBreak, dCont, dNotT, dAndT, dOrT, dTestB, dTru, dAndV, dOrV, dNotV, dIf, dVar, dC, dUn, dBin, dNil, dCons, dCB, dTup, dLst, dats, dgName, dgCons, dgNil, dgTup, dYes, dVarB, dBinB, dLenB, SD.known, fz, SD.mo, SD.re, MO.dat, okSlot, dPar, dApp, dSAdd, dISeq, itemsD, dIRng1, dIRng2, dFor, dCall, runF, resF, keepIo, asD, asI, moL, moS, moD, wipeD, restD, plainAt, kdAt, SD.kd, lcStep, Option.bind, Option.map, List.set, List.getElem?_cons_zero, List.getElem?_cons_succ, dInD, keyD, hval]
          obtain ⟨v, hv⟩ := Option.isSome_iff_exists.mp (hval.trans (decide_eq_true d))
          refine ⟨[.d (tupN t), .d (nI 0), .own (.lst (o.map nI)), .own (.dic kvs), .own (.lst told), s5], [.d (tupN t), .d (nI 0), .own (.lst (o.map nI)), .own (.dic kvs), .own (.lst (told ++ [v])), .d (nI (T x))], 2 * n - (told.length + 1), tc.trans ?_, ?_, by omega, o, kvs, told ++ [v], _, rfl, by simp, hk, nd, ho, h0, by simp; omega, fun i y hi hy => ?_⟩
          · rw [decide_eq_true (by omega)]
          · refine (q_seq a1).trans ((q_seq ((q_ifF dt).trans rfl)).trans (q_next.trans ?_))
            simp [dSeq, dNext, dAsg, dDrop, dRet, dRetV, dRetN, dIfS, dBreak, dCont, dNotT, dAndT, dOrT, dTestB, dTru, dAndV, dOrV, dNotV, dIf, dVar, dC, dUn, dBin, dNil, dCons, dCB, dTup, dLst, dats, dgName, dgCons, dgNil, dgTup, dYes, dVarB, dBinB, dLenB, SD.known, fz, SD.mo, SD.re, MO.dat, okSlot, dPar, dApp, dSAdd, dISeq, itemsD, dIRng1, dIRng2, dFor, dCall, runF, resF, keepIo, asD, asI, moL, moS, moD, wipeD, restD, plainAt, kdAt, SD.kd, lcStep, Option.bind, Option.map, List.set, List.getElem?_cons_zero, List.getElem?_cons_succ, dGetB, keyD, hv, lt2]
          · rw [List.length_append] at hi
            by_cases z : i < told.length
            · exact hc i y z hy
            · have : i = told.length := by simp at hi; omega
              rw [this, hx] at hy
              cases hy
              exact d
        · have dt : dTestB (dInD true (dVar 5) 3) [.d (tupN t), .d (nI 0), .own (.lst (o.map nI)), .own (.dic kvs), .own (.lst told), .d (nI (T x))] = some (true, [.d (tupN t), .d (nI 0), .own (.lst (o.map nI)), .own (.dic kvs), .own (.lst told), .d (nI (T x))]) := by
            rw [decide_eq_false d] at hval
            have hval : valD kvs (.inl ((T x : Nat) : Int)) = none := by simpa using hval
            simp [dSeq, dNext, dAsg, dDrop, dRet, dRetV, dRetN, dIfS, dBreak, dCont, dNotT, dAndT, dOrT, dTestB, dTru, dAndV, dOrV, dNotV, dIf, dVar, dC, dUn, dBin, dNil, dCons, dCB, dTup, dLst, dats, dgName, dgCons, dgNil, dgTup, dYes, dVarB, dBinB, dLenB, SD.known, fz, SD.mo, SD.re, MO.dat, okSlot, dPar, dApp, dSAdd, dISeq, itemsD, dIRng1, dIRng2, dFor, dCall, runF, resF, keepIo, asD, asI, moL, moS, moD, wipeD, restD, plainAt, kdAt, SD.kd, lcStep, Option.bind, Option.map, List.set, List.getElem?_cons_zero, List.getElem?_cons_succ, dInD, keyD, hval]
          have nf : fl (T x) ∉ o := fun z => d (by have := (ho _ z).2; rwa [fl_fl] at this)
          have nfe := fl_ne (T x)
          have hflt := fl_lt hTx
          let kv1 := putD kvs (.inl ((T x : Nat) : Int)) (nI o.length)
          let kv2 := putD kv1 (.inl ((fl (T x) : Nat) : Int)) (.int ((o.length : Int) + 1))
          have hk1 : Keys kv1 (o ++ [T x]) := hk.put _ _
          have hk2 : Keys kv2 (o ++ [T x] ++ [fl (T x)]) := hk1.put _ _
          have m1 : T x ∈ o ++ [T x] ++ [fl (T x)] := by simp
          obtain ⟨v, hv⟩ := Option.isSome_iff_exists.mp ((hk2.val (T x)).trans (decide_eq_true m1))
          have nd2 : (o ++ [T x] ++ [fl (T x)]).Nodup := by
            rw [List.append_assoc, List.nodup_append]
            refine ⟨nd, ?_, fun a ha b hb z => ?_⟩
            · have : ¬ T x = fl (T x) := fun z => nfe z.symm
              simp [this]
            · simp at hb
              rcases hb with w | w
              · exact d (w ▸ z ▸ ha)
              · exact nf (w ▸ z ▸ ha)
          have kl : kvs.length < 1000 := by have := hk.2; omega
          have kl1 : kv1.length < 1000 := by
            have := hk1.2
            rw [List.length_append] at this
            simp at this
            omega
          refine ⟨[.d (tupN t), .d (nI 0), .own (.lst (o.map nI)), .own (.dic kvs), .own (.lst told), s5], [.d (tupN t), .d (nI 0), .own (.lst ((o ++ [T x] ++ [fl (T x)]).map nI)), .own (.dic kv2), .own (.lst (told ++ [v])), .d (nI (T x))], 2 * n - (told.length + 1), tc.trans ?_, ?_, by omega, _, kv2, told ++ [v], _, rfl, by simp, hk2, nd2, fun y hy => ?_, by simp [h0], by simp; omega, fun i y hi hy => ?_⟩
          · rw [decide_eq_true (by omega)]
          · refine (q_seq a1).trans ((q_seq (ρ1 := [.d (tupN t), .d (nI 0), .own (.lst ((o ++ [T x] ++ [fl (T x)]).map nI)), .own (.dic kv2), .own (.lst told), .d (nI (T x))]) ((q_ifT dt).trans ?_)).trans (q_next.trans ?_))
            · have s1 : dAsg (dLenB 2) (dgSub 3 (dVar 5)) [.d (tupN t), .d (nI 0), .own (.lst (o.map nI)), .own (.dic kvs), .own (.lst told), .d (nI (T x))] = some (.nx, [.d (tupN t), .d (nI 0), .own (.lst (o.map nI)), .own (.dic kv1), .own (.lst told), .d (nI (T x))]) := by
                simp [dSeq, dNext, dAsg, dDrop, dRet, dRetV, dRetN, dIfS, dBreak, dCont, dNotT, dAndT, dOrT, dTestB, dTru, dAndV, dOrV, dNotV, dIf, dVar, dC, dUn, dBin, dNil, dCons, dCB, dTup, dLst, dats, dgName, dgCons, dgNil, dgTup, dYes, dVarB, dBinB, dLenB, SD.known, fz, SD.mo, SD.re, MO.dat, okSlot, dPar, dApp, dSAdd, dISeq, itemsD, dIRng1, dIRng2, dFor, dCall, runF, resF, keepIo, asD, asI, moL, moS, moD, wipeD, restD, plainAt, kdAt, SD.kd, lcStep, Option.bind, Option.map, List.set, List.getElem?_cons_zero, List.getElem?_cons_succ, dgSub, keyD, lenD, SD.seq, SD.lst, SD.tup, kl, kv1]
              have s2 : dAsg (dBin gAdd (dLenB 2) (dC (.int 1))) (dgSub 3 (dBin gXor (dVar 5) (dC (.int 1)))) [.d (tupN t), .d (nI 0), .own (.lst (o.map nI)), .own (.dic kv1), .own (.lst told), .d (nI (T x))] = some (.nx, [.d (tupN t), .d (nI 0), .own (.lst (o.map nI)), .own (.dic kv2), .own (.lst told), .d (nI (T x))]) := by
                simp [dSeq, dNext, dAsg, dDrop, dRet, dRetV, dRetN, dIfS, dBreak, dCont, dNotT, dAndT, dOrT, dTestB, dTru, dAndV, dOrV, dNotV, dIf, dVar, dC, dUn, dBin, dNil, dCons, dCB, dTup, dLst, dats, dgName, dgCons, dgNil, dgTup, dYes, dVarB, dBinB, dLenB, SD.known, fz, SD.mo, SD.re, MO.dat, okSlot, dPar, dApp, dSAdd, dISeq, itemsD, dIRng1, dIRng2, dFor, dCall, runF, resF, keepIo, asD, asI, moL, moS, moD, wipeD, restD, plainAt, kdAt, SD.kd, lcStep, Option.bind, Option.map, List.set, List.getElem?_cons_zero, List.getElem?_cons_succ, dgSub, keyD, lenD, SD.seq, SD.lst, SD.tup, kl1, fx, gAdd, gOr, gI, tr2, kv2]
              refine (q_seq s1).trans ((q_seq s2).trans ?_)
              simp [dSeq, dNext, dAsg, dDrop, dRet, dRetV, dRetN, dIfS, dBreak, dCont, dNotT, dAndT, dOrT, dTestB, dTru, dAndV, dOrV, dNotV, dIf, dVar, dC, dUn, dBin, dNil, dCons, dCB, dTup, dLst, dats, dgName, dgCons, dgNil, dgTup, dYes, dVarB, dBinB, dLenB, SD.known, fz, SD.mo, SD.re, MO.dat, okSlot, dPar, dApp, dSAdd, dISeq, itemsD, dIRng1, dIRng2, dFor, dCall, runF, resF, keepIo, asD, asI, moL, moS, moD, wipeD, restD, plainAt, kdAt, SD.kd, lcStep, Option.bind, Option.map, List.set, List.getElem?_cons_zero, List.getElem?_cons_succ, fx, lo, lo2]
            · simp [dSeq, dNext, dAsg, dDrop, dRet, dRetV, dRetN, dIfS, dBreak, dCont, dNotT, dAndT, dOrT, dTestB, dTru, dAndV, dOrV, dNotV, dIf, dVar, dC, dUn, dBin, dNil, dCons, dCB, dTup, dLst, dats, dgName, dgCons, dgNil, dgTup, dYes, dVarB, dBinB, dLenB, SD.known, fz, SD.mo, SD.re, MO.dat, okSlot, dPar, dApp, dSAdd, dISeq, itemsD, dIRng1, dIRng2, dFor, dCall, runF, resF, keepIo, asD, asI, moL, moS, moD, wipeD, restD, plainAt, kdAt, SD.kd, lcStep, Option.bind, Option.map, List.set, List.getElem?_cons_zero, List.getElem?_cons_succ, dGetB, keyD, hv, lt2]
          · simp at hy
            rcases hy with z | z | z
            · obtain ⟨z1, z2⟩ := ho y z
              exact ⟨z1, by simp [z2]⟩
            · rw [z]; exact ⟨hTx, by simp⟩
            · rw [z]; exact ⟨hflt, by rw [fl_fl]; simp⟩
          · rw [List.length_append] at hi
            have hi : i ≤ told.length := by simp at hi; omega
            have hy2 : o[i]? = some y := by
              rw [List.append_assoc, List.getElem?_append_left (by omega)] at hy
              exact hy
            by_cases z : i < told.length
            · have := hc i y z hy2
              simp [this]
            · have : i = told.length := by omega
              rw [this, hx] at hy2
              cases hy2
              simp
      · left
        refine ⟨_, tc.trans ?_, o, kvs, told, s5, rfl, ?_, trivial, trivial⟩
        · rw [decide_eq_false (by omega)]
        · have all : ∀ x, x < 2 * n → x ∈ o := con (fun x => x ∈ o) h0 (fun x hx hxo => by
            obtain ⟨i, hi, ei⟩ := List.getElem_of_mem hxo
            exact hc i x (by omega) (by rw [List.getElem?_eq_getElem hi, ei])) fun x hx hxo => (ho x hxo).2
          have := sub_len (l := List.range (2 * n)) (l' := o) List.nodup_range fun x hx => all x (List.mem_range.mp hx)
          rw [List.length_range] at this
          omega)
    fuel (2 * n - 0) _ (by unfold fuel; omega) ⟨[0, 1], [(.inl 0, .int 0), (.inl 1, .int 1)], [], .no, rfl, rfl, ⟨fun y => by simp; omega, by simp⟩, by decide, fun x hx => by
      simp at hx
      rcases hx with rfl | rfl
      · exact ⟨by omega, by decide⟩
      · exact ⟨by omega, by decide⟩, by simp, by simp, fun i x hi => by simp at hi⟩
  subst q1
  refine ⟨.tup told, o, ?_, q2⟩
  refine q_runF rfl ((q_seq (ρ1 := [.d (tupN t), .d (nI 0), .own (.lst [nI 0, nI 1]), .no, .no, .no]) rfl).trans ((q_seq (ρ1 := [.d (tupN t), .d (nI 0), .own (.lst [nI 0, nI 1]), .own (.dic [(.inl 0, .int 0), (.inl 1, .int 1)]), .no, .no]) rfl).trans ((q_seq (ρ1 := [.d (tupN t), .d (nI 0), .own (.lst [nI 0, nI 1]), .own (.dic [(.inl 0, .int 0), (.inl 1, .int 1)]), .own (.lst []), .no]) rfl).trans ((q_seq e).trans (q_next.trans (q_retE rfl)))))) rfl rfl
end K62

set_option Elab.async false
set_option linter.all false
set_option maxRecDepth 100000
set_option maxHeartbeats 4000000
namespace K62
open PySem PySem.Spec PyProof.Rows L2 DP WM
/-- the row t of the turn T -/
structure Tn (n : Nat) (T : Nat → Nat) (t : List Nat) : Prop where
  len : t.length = 2 * n
  at_ : ∀ d, d < 2 * n → t.getD d 0 = T d
theorem v_is_one_piece {t : List Nat} {T : Nat → Nat} {n V : Nat} (hn : 0 < n) (h : Tn n T t) (W : Wb n T V) (hN : n ≤ 14) : Φ_is_one_piece [.d (tupN t)] = some (.d (.bl true), [.d (tupN t)]) := by
  obtain ⟨told, o, e, hl⟩ := v_read_from hn h.len h.at_ W.pm (by omega) W.con
  have ht := h.len
  have e1 : gEq false (.d (tupN t)) (.d (tupN [])) = some (.d (.bl (decide (t = [])))) := g_eqTN
  have ne : t ≠ [] := fun z => by rw [z] at ht; simp at ht; omega
  have a : dBin (gEq false) (dVar 0) (dTup dNil) [.d (tupN t)] = some (.d (.bl false), [.d (tupN t)]) := q_bin rfl rfl (e1.trans (by rw [decide_eq_false ne]))
  have b : dBin (gEq false) (dCB gLen (dCons (dBin gIx (dCall Φ_read_from (dCons (dVar 0) (dCons (dC (.int 0)) dNil))) (dC (.int 1))) dNil)) (dLenB 0) [.d (tupN t)] = some (.d (.bl true), [.d (tupN t)]) := by
    refine q_bin (s1 := .d (nI o.length)) (s2 := .d (nI t.length)) (ρ1 := [.d (tupN t)]) (q_cb (q_cons (q_bin (ρ1 := [.d (tupN t)]) (q_call rfl e) rfl (g_ix (k := 1) rfl rfl)) rfl rfl) ?_) ?_ ?_
    · simp [gLen, lenD, SD.seq, SD.lst, SD.tup]
    · simp [dSeq, dNext, dAsg, dDrop, dRet, dRetV, dRetN, dIfS, dBreak, dCont, dNotT, dAndT, dOrT, dTestB, dTru, dAndV, dOrV, dNotV, dIf, dVar, dC, dUn, dBin, dNil, dCons, dCB, dTup, dLst, dats, dgName, dgCons, dgNil, dgTup, dYes, dVarB, dBinB, dLenB, SD.known, fz, SD.mo, SD.re, MO.dat, okSlot, dPar, dApp, dSAdd, dISeq, itemsD, dIRng1, dIRng2, dFor, dCall, runF, resF, keepIo, asD, asI, moL, moS, moD, wipeD, restD, plainAt, kdAt, SD.kd, lcStep, Option.bind, Option.map, List.set, List.getElem?_cons_zero, List.getElem?_cons_succ, lenD, SD.seq, SD.lst, SD.tup]
    · rw [g_eqI, hl, ht]; simp
  refine q_runF rfl (q_next.trans (q_retE (s := .d (.bl true)) (ρ1 := [.d (tupN t)]) ?_)) rfl rfl
  unfold dOrV
  show (dBin (gEq false) (dVar 0) (dTup dNil) [.d (tupN t)]).bind _ = _
  rw [a]
  exact b
theorem aboutL_tn {t : List Nat} {T : Nat → Nat} {n : Nat} (h : Tn n T t) : Tn n (ab T) (aboutL t) := by
  refine ⟨by unfold aboutL; simp [h.len], fun d hd => ?_⟩
  unfold aboutL
  rw [List.getD_eq_getElem?_getD, List.getElem?_map, List.getElem?_range (by rw [h.len]; exact hd)]
  exact h.at_ _ (fl_lt hd)
theorem v_is_web_turn {t : List Nat} {T : Nat → Nat} {n V : Nat} (hn : 0 < n) (h : Tn n T t) (W : Wb n T V) (hN : n ≤ 14) : Φ_is_web_turn [.d (tupN t)] = some (.d (.bl true), [.d (tupN t)]) := by
  have ht := h.len
  have hl : dLenB 0 [.d (tupN t)] = some (.d (nI (2 * n)), [.d (tupN t)]) := by simp [dSeq, dNext, dAsg, dDrop, dRet, dRetV, dRetN, dIfS, dBreak, dCont, dNotT, dAndT, dOrT, dTestB, dTru, dAndV, dOrV, dNotV, dIf, dVar, dC, dUn, dBin, dNil, dCons, dCB, dTup, dLst, dats, dgName, dgCons, dgNil, dgTup, dYes, dVarB, dBinB, dLenB, SD.known, fz, SD.mo, SD.re, MO.dat, okSlot, dPar, dApp, dSAdd, dISeq, itemsD, dIRng1, dIRng2, dFor, dCall, runF, resF, keepIo, asD, asI, moL, moS, moD, wipeD, restD, plainAt, kdAt, SD.kd, lcStep, Option.bind, Option.map, List.set, List.getElem?_cons_zero, List.getElem?_cons_succ, lenD, SD.seq, SD.lst, SD.tup, ht]
  have ha := aboutL_tn h
  obtain ⟨r1, e1, l1⟩ := v_cycles_of h.len h.at_ W.pm (by omega)
  obtain ⟨r2, e2, l2⟩ := v_cycles_of ha.len ha.at_ W.pm.ab (by omega)
  have ea := v_about_of h.len (by omega)
  have ep := v_is_permutation h.len h.at_ W.pm (by omega)
  have eo := v_is_one_piece hn h W hN
  have ne : t ≠ [] := fun z => by rw [z] at ht; simp at ht; omega
  have eq0 : gEq false (.d (tupN t)) (.d (tupN [])) = some (.d (.bl (decide (t = [])))) := g_eqTN
  have c1 : dNotT (dTru (dIsi (isiB "tuple") (dVar 0))) [.d (tupN t)] = some (false, [.d (tupN t)]) := rfl
  have c2 : dTestB (dBin (gEq false) (dBin gMod (dLenB 0) (dC (.int 2))) (dC (.int 1))) [.d (tupN t)] = some (false, [.d (tupN t)]) := by
    refine q_testB (q_bin (s2 := .d (.int 1)) (q_bin (s2 := .d (.int 2)) (d := .d (.int (((2 * n : Nat) : Int) % 2))) hl rfl rfl) rfl (g_eqI.trans ?_))
    have : ((2 * n : Nat) : Int) % 2 = 0 := by omega
    rw [this]; rfl
  have c3 : dTestB (dBin gGt (dLenB 0) (dC (.int 28))) [.d (tupN t)] = some (false, [.d (tupN t)]) := by
    refine q_testB (q_bin (s2 := .d (.int 28)) (d := .d (.bl (decide ((28 : Int) < ((2 * n : Nat) : Int))))) hl rfl rfl) |>.trans ?_
    rw [decide_eq_false (by omega)]
  have c4 : dNotT (dTru (dCall Φ_is_permutation (dCons (dVar 0) (dCons (dLenB 0) dNil)))) [.d (tupN t)] = some (false, [.d (tupN t)]) := q_notT (q_tru (q_call (q_cons rfl rfl (q_cons hl rfl rfl)) ep) rfl)
  have c5 : dNotT (dTru (dCall Φ_is_one_piece (dCons (dVar 0) dNil))) [.d (tupN t)] = some (false, [.d (tupN t)]) := q_notT (q_tru (q_call (q_cons rfl rfl rfl) eo) rfl)
  have c6 : dTestB (dBin (gEq false) (dVar 0) (dTup dNil)) [.d (tupN t)] = some (false, [.d (tupN t)]) := q_testB (q_bin rfl rfl (eq0.trans (by rw [decide_eq_false ne])))
  have k1 : dCB gLen (dCons (dCall Φ_cycles_of (dCons (dVar 0) dNil)) dNil) [.d (tupN t)] = some (.d (.int (r1.length : Nat)), [.d (tupN t)]) := q_cb (q_cons (q_call (q_cons rfl rfl rfl) e1) rfl rfl) (by simp [gLen, lenD, SD.seq, SD.lst, SD.tup])
  have k2 : dCB gLen (dCons (dCall Φ_cycles_of (dCons (dCall Φ_about_of (dCons (dVar 0) dNil)) dNil)) dNil) [.d (tupN t)] = some (.d (.int (r2.length : Nat)), [.d (tupN t)]) := q_cb (q_cons (q_call (q_cons (q_call (q_cons rfl rfl rfl) ea) rfl rfl) e2) rfl rfl) (by simp [gLen, lenD, SD.seq, SD.lst, SD.tup])
  have kf : dBin gFdiv (dLenB 0) (dC (.int 2)) [.d (tupN t)] = some (.d (.int (((2 * n : Nat) : Int) / 2)), [.d (tupN t)]) := q_bin hl rfl rfl
  refine q_runF rfl ((q_seq ((q_ifF ((q_orF c1).trans ((q_orF c2).trans c3))).trans rfl)).trans ((q_seq ((q_ifF ((q_orF c4).trans c5)).trans rfl)).trans ((q_seq ((q_ifF c6).trans rfl)).trans (q_next.trans (q_retE (q_bin (q_bin (q_bin k1 kf rfl) k2 rfl) rfl (g_eqI.trans ?_))))))) rfl rfl
  have : (r1.length : Int) - ((2 * n : Nat) : Int) / 2 + (r2.length : Int) = 2 := by
    have := W.fs
    have hv := W.vs
    omega
  rw [this]; rfl
/-- a web's object -/
abbrev webD (t : List Nat) (p q : Dat) : Dat := .ins 0 ["_turn", "_places", "_faces"] [tupN t, p, q]
theorem v_web_of {t : List Nat} {p q : Dat} (hw : Φ_is_web_turn [.d (tupN t)] = some (.d (.bl true), [.d (tupN t)]))
    (hp : ∀ x : Dat, ∃ s, fz s = some (.d p) ∧ dIf (dTru (dVar 1)) (dCall Φ_cycles_of (dCons (dVar 1) dNil)) (dLst (dCons (dTup dNil) dNil)) [.io (.obj 0 [("_turn", tupN t)]), .d (tupN t)] = some (s, [.io (.obj 0 [("_turn", tupN t)]), .d (tupN t)]))
    (hq : ∃ s, fz s = some (.d q) ∧ dIf (dTru (dVar 1)) (dCall Φ_cycles_of (dCons (dCall Φ_about_of (dCons (dVar 1) dNil)) dNil)) (dLst (dCons (dTup dNil) dNil)) [.io (.obj 0 [("_turn", tupN t), ("_places", p)]), .d (tupN t)] = some (s, [.io (.obj 0 [("_turn", tupN t), ("_places", p)]), .d (tupN t)])) :
    Φ_Web_init [.io (.obj 0 []), .d (tupN t)] = some (.d .non, [.io (.obj 0 [("_turn", tupN t), ("_places", p), ("_faces", q)]), .d (tupN t)]) := by
  obtain ⟨s1, f1, e1⟩ := hp .non
  obtain ⟨s2, f2, e2⟩ := hq
  have c1 : dNotT (dTru (dCall Φ_is_web_turn (dCons (dVar 1) dNil))) [.io (.obj 0 []), .d (tupN t)] = some (false, [.io (.obj 0 []), .d (tupN t)]) := q_notT (q_tru (q_call (q_cons rfl rfl rfl) hw) rfl)
  have st : ∀ {i c : Nat} {f : Str} {e : DE} {ρ ρ1 ρ2 : List SD} {s : SD} {x : Dat} {c' : Nat} {fs : List (Str × Dat)} {sl : SD}, e ρ = some (s, ρ1) → fz s = some (.d x) → ρ1[i]? = some sl → moO sl = some (c, fs) → fs.length < 900 → ρ1.set i (sl.re (.obj c (putFD f x fs))) = ρ2 → dFldSet i c f e ρ = some (.nx, ρ2) := by
    intro i c f e ρ ρ1 ρ2 s x c' fs sl h1 h2 h3 h4 h5 h6
    unfold dFldSet
    rw [h1]
    show (fz s).bind _ = _
    rw [h2]
    show (ρ1[i]?).bind _ = _
    rw [h3]
    show (moO sl).bind _ = _
    rw [h4]
    show (if c = c ∧ fs.length < 900 then some (FD.nx, ρ1.set i (sl.re (.obj c (putFD f x fs)))) else none) = _
    rw [if_pos ⟨rfl, h5⟩, h6]
  refine q_runF rfl ((q_seq ((q_ifF c1).trans rfl)).trans ((q_seq (st (c' := 0) rfl rfl rfl rfl (by decide) rfl)).trans ((q_seq (st (c' := 0) (ρ2 := [.io (.obj 0 [("_turn", tupN t), ("_places", p)]), .d (tupN t)]) (fs := [("_turn", tupN t)]) e1 f1 rfl rfl (show 1 < 900 by decide) ?_)).trans (q_next.trans (st (c' := 0) (ρ2 := [.io (.obj 0 [("_turn", tupN t), ("_places", p), ("_faces", q)]), .d (tupN t)]) (fs := [("_turn", tupN t), ("_places", p)]) e2 f2 rfl rfl (show 2 < 900 by decide) ?_))))) rfl rfl
  · rfl
  · rfl
theorem v_Web_init {t : List Nat} {T : Nat → Nat} {n V : Nat} (hn : 0 < n) (h : Tn n T t) (W : Wb n T V) (hN : n ≤ 14) : ∃ p q, Φ_Web_init [.io (.obj 0 []), .d (tupN t)] = some (.d .non, [.io (.obj 0 [("_turn", tupN t), ("_places", p), ("_faces", q)]), .d (tupN t)]) := by
  have ht := h.len
  have ha := aboutL_tn h
  obtain ⟨r1, e1, l1⟩ := v_cycles_of h.len h.at_ W.pm (by omega)
  obtain ⟨r2, e2, l2⟩ := v_cycles_of ha.len ha.at_ W.pm.ab (by omega)
  have ea := v_about_of h.len (by omega)
  have tr : truD (.d (tupN t)) = some true := by
    cases t with
    | nil => simp at ht; omega
    | cons x r => rfl
  refine ⟨.lst r1, .lst r2, v_web_of (v_is_web_turn hn h W hN) (fun _ => ⟨.own (.lst r1), rfl, ?_⟩) ⟨.own (.lst r2), rfl, ?_⟩⟩
  · unfold dIf
    rw [q_tru (s := .d (tupN t)) (ρ1 := [.io (.obj 0 [("_turn", tupN t)]), .d (tupN t)]) rfl tr]
    have k : dCall Φ_cycles_of (dCons (dVar 1) dNil) [.io (.obj 0 [("_turn", tupN t)]), .d (tupN t)] = some (.own (.lst r1), [.io (.obj 0 [("_turn", tupN t)]), .d (tupN t)]) := q_call (q_cons rfl rfl rfl) e1
    exact k
  · unfold dIf
    rw [q_tru (s := .d (tupN t)) (ρ1 := [.io (.obj 0 [("_turn", tupN t), ("_places", .lst r1)]), .d (tupN t)]) rfl tr]
    have k : dCall Φ_about_of (dCons (dVar 1) dNil) [.io (.obj 0 [("_turn", tupN t), ("_places", .lst r1)]), .d (tupN t)] = some (.d (tupN (aboutL t)), [.io (.obj 0 [("_turn", tupN t), ("_places", .lst r1)]), .d (tupN t)]) := q_call (q_cons rfl rfl rfl) ea
    have k2 : dCall Φ_cycles_of (dCons (dCall Φ_about_of (dCons (dVar 1) dNil)) dNil) [.io (.obj 0 [("_turn", tupN t), ("_places", .lst r1)]), .d (tupN t)] = some (.own (.lst r2), [.io (.obj 0 [("_turn", tupN t), ("_places", .lst r1)]), .d (tupN t)]) := q_call (q_cons k rfl rfl) e2
    exact k2
theorem q_make {c : Nat} {Φ : DF} {f : DA} {ρ ρ1 as rest : List SD} {fs : List (Str × Dat)} (e : f ρ = some (as, ρ1)) (e2 : Φ (.io (.obj c []) :: as) = some (.d .non, .io (.obj c fs) :: rest)) : dMake c Φ f ρ = some (.own (.obj c fs), ρ1) := by
  unfold dMake
  rw [e]
  show (Φ (.io (.obj c []) :: as)).bind _ = _
  rw [e2]
  show (if c = c then some (SD.own (.obj c fs), ρ1) else none) = _
  rw [if_pos rfl]
theorem v_Web_turn (t : List Nat) (p q : Dat) : Φ_Web_turn [.d (webD t p q)] = some (.d (tupN t), [.d (webD t p q)]) := rfl
theorem v_check_web (t : List Nat) (p q : Dat) : Φ_check_web [.d (webD t p q)] = some (.d .non, [.d (webD t p q)]) := rfl
theorem v_Web_many {n : Nat} {t : List Nat} (p q : Dat) (h : t.length = 2 * n) : Φ_Web_many [.d (webD t p q)] = some (.d (nI n), [.d (webD t p q)]) := by
  refine q_runF rfl (q_next.trans (q_retE (q_bin (s1 := .d (nI (2 * n))) (s2 := .d (.int 2)) (q_cb (q_cons (s := .d (tupN t)) (ρ1 := [.d (webD t p q)]) rfl rfl rfl) ?_) rfl (show gFdiv (.d (.int ((2 * n : Nat) : Int))) (.d (.int 2)) = some (.d (.int (((2 * n : Nat) : Int) / 2))) from rfl)))) (r := .d (.int (((2 * n : Nat) : Int) / 2))) rfl rfl |>.trans ?_
  · simp [gLen, lenD, SD.seq, SD.lst, SD.tup, h]
  · have : ((2 * n : Nat) : Int) / 2 = (n : Int) := by omega
    rw [this]
theorem q_meth0 {m : Str} {Φ : DF} {o : DE} {ρ ρ1 : List SD} {ns : List Str} {ds : List Dat} {c : Nat} {r : SD} {as' : List SD} (e : o ρ = some (.d (.ins c ns ds), ρ1)) (hm : ns.contains m = false) (e2 : Φ [.d (.ins c ns ds)] = some (r, as')) : dMeth m c Φ o dNil ρ = some (r, ρ1) := by
  unfold dMeth
  rw [e]
  show (if c = c ∧ ns.contains m = false then (some (([] : List SD), ρ1)).bind (fun q => (Φ (.d (.ins c ns ds) :: q.1)).map fun r => (r.1, q.2)) else none) = _
  rw [if_pos ⟨rfl, hm⟩]
  show (Φ [.d (.ins c ns ds)]).map _ = _
  rw [e2]; rfl
theorem q_prop {Φ : DF} {o : DE} {ρ ρ1 : List SD} {ns : List Str} {ds : List Dat} {c : Nat} {r : SD} {as' : List SD} (e : o ρ = some (.d (.ins c ns ds), ρ1)) (e2 : Φ [.d (.ins c ns ds)] = some (r, as')) : dProp c Φ o ρ = some (r, ρ1) := by
  unfold dProp
  rw [e]
  show (if c = c then (Φ [.d (.ins c ns ds)]).map (fun r => (r.1, ρ1)) else none) = _
  rw [if_pos rfl, e2]; rfl
theorem m_turn : (["_turn", "_places", "_faces"] : List Str).contains "turn" = false := by decide +kernel
theorem v_about {t : List Nat} {T : Nat → Nat} {n V : Nat} (hn : 0 < n) (h : Tn n T t) (W : Wb n T V) (hN : n ≤ 14) (p q : Dat) : ∃ p' q', Φ_about [.d (webD t p q)] = some (.own (.obj 0 [("_turn", tupN (aboutL t)), ("_places", p'), ("_faces", q')]), [.d (webD t p q)]) := by
  obtain ⟨p', q', e⟩ := v_Web_init hn (aboutL_tn h) (W.about hn) hN
  have ea := v_about_of h.len (by omega)
  refine ⟨p', q', ?_⟩
  have k0 : dMeth "turn" 0 Φ_Web_turn (dVar 0) dNil [.d (webD t p q)] = some (.d (tupN t), [.d (webD t p q)]) := q_meth0 rfl m_turn (v_Web_turn t p q)
  have k1 : dCall Φ_about_of (dCons (dMeth "turn" 0 Φ_Web_turn (dVar 0) dNil) dNil) [.d (webD t p q)] = some (.d (tupN (aboutL t)), [.d (webD t p q)]) := q_call (q_cons k0 rfl rfl) ea
  have k2 := q_make (f := dCons (dCall Φ_about_of (dCons (dMeth "turn" 0 Φ_Web_turn (dVar 0) dNil) dNil)) dNil) (ρ := [.d (webD t p q)]) (q_cons k1 rfl rfl) e
  exact q_runF rfl ((q_seq (q_drop (q_call (q_cons rfl rfl rfl) (v_check_web t p q)))).trans (q_next.trans (q_retE k2))) rfl rfl
end K62

set_option Elab.async false
set_option linter.all false
set_option maxRecDepth 100000
set_option maxHeartbeats 4000000
/-! Running data programs by rules. -/
namespace DP
open PySem PySem.Spec PyProof.Rows L2
def Wp {α : Type} (o : Option (α × List SD)) (Q : α → List SD → Prop) : Prop := ∃ r ρ', o = some (r, ρ') ∧ Q r ρ'
def Wo {α : Type} (o : Option α) (Q : α → Prop) : Prop := ∃ r, o = some r ∧ Q r
theorem Wp.mono {α : Type} {o : Option (α × List SD)} {Q Q' : α → List SD → Prop} (h : Wp o Q) (k : ∀ r ρ, Q r ρ → Q' r ρ) : Wp o Q' := let ⟨r, ρ, e, q⟩ := h; ⟨r, ρ, e, k r ρ q⟩
theorem w_of {α : Type} {o : Option (α × List SD)} {Q : α → List SD → Prop} {r : α} {ρ : List SD} (e : o = some (r, ρ)) (h : Q r ρ) : Wp o Q := ⟨r, ρ, e, h⟩
theorem wo_of {α : Type} {o : Option α} {Q : α → Prop} {r : α} (e : o = some r) (h : Q r) : Wo o Q := ⟨r, e, h⟩
theorem wp_eq {α : Type} {o : Option (α × List SD)} {r : α} {ρ : List SD} (h : Wp o fun r' ρ' => r' = r ∧ ρ' = ρ) : o = some (r, ρ) := by
  obtain ⟨r', ρ', e, rfl, rfl⟩ := h; exact e
section
variable {α : Type} {a b x y : DS} {c t u : DT} {f h : DE} {g : DG} {gs : DGs} {fa : DA} {di : DI} {ρ : List SD} {s : SD} {Q : FD → List SD → Prop} {QE : SD → List SD → Prop} {QT : Bool → List SD → Prop} {QA QI : List SD → List SD → Prop} {QD : List Dat → List SD → Prop} {QG : List SD → Prop}
theorem w_bind {α β : Type} {o : Option (α × List SD)} {k : α × List SD → Option (β × List SD)} {Q : β → List SD → Prop} (h : Wp o fun r ρ => Wp (k (r, ρ)) Q) : Wp (o.bind k) Q := by
  obtain ⟨r, ρ1, e, r2, ρ2, e2, q⟩ := h
  exact ⟨r2, ρ2, by rw [e]; exact e2, q⟩
theorem w_map {α β : Type} {o : Option (α × List SD)} {k : α × List SD → β × List SD} {Q : β → List SD → Prop} (h : Wp o fun r ρ => Q (k (r, ρ)).1 (k (r, ρ)).2) : Wp (o.map k) Q := by
  obtain ⟨r, ρ1, e, q⟩ := h
  exact ⟨_, _, by rw [e]; rfl, q⟩
theorem w_obind {α β : Type} {o : Option α} {k : α → Option (β × List SD)} {Q : β → List SD → Prop} (h : Wo o fun r => Wp (k r) Q) : Wp (o.bind k) Q := by
  obtain ⟨r, e, r2, ρ2, e2, q⟩ := h
  exact ⟨r2, ρ2, by rw [e]; exact e2, q⟩
theorem w_omap {α β : Type} {o : Option α} {k : α → β × List SD} {Q : β → List SD → Prop} (h : Wo o fun r => Q (k r).1 (k r).2) : Wp (o.map k) Q := by
  obtain ⟨r, e, q⟩ := h
  exact ⟨_, _, by rw [e]; rfl, q⟩
theorem wo_bind {α β : Type} {o : Option α} {k : α → Option β} {Q : β → Prop} (h : Wo o fun r => Wo (k r) Q) : Wo (o.bind k) Q := by
  obtain ⟨r, e, r2, e2, q⟩ := h
  exact ⟨r2, by rw [e]; exact e2, q⟩
theorem wo_map {α β : Type} {o : Option α} {k : α → β} {Q : β → Prop} (h : Wo o fun r => Q (k r)) : Wo (o.map k) Q := by
  obtain ⟨r, e, q⟩ := h
  exact ⟨_, by rw [e]; rfl, q⟩
theorem wo_pbind {α β : Type} {o : Option (α × List SD)} {k : α × List SD → Option β} {Q : β → Prop} (h : Wp o fun r ρ => Wo (k (r, ρ)) Q) : Wo (o.bind k) Q := by
  obtain ⟨r, ρ, e, r2, e2, q⟩ := h
  exact ⟨r2, by rw [e]; exact e2, q⟩
theorem w_some {α : Type} {r : α} {Q : α → List SD → Prop} (h : Q r ρ) : Wp (some (r, ρ)) Q := ⟨r, ρ, rfl, h⟩
theorem wo_some {α : Type} {r : α} {Q : α → Prop} (h : Q r) : Wo (some r) Q := ⟨r, rfl, h⟩
theorem w_if {α : Type} {p : Prop} [Decidable p] {o : Option (α × List SD)} {Q : α → List SD → Prop} (hp : p) (h : Wp o Q) : Wp (if p then o else none) Q := by rw [if_pos hp]; exact h
theorem wo_if {α : Type} {p : Prop} [Decidable p] {o : Option α} {Q : α → Prop} (hp : p) (h : Wo o Q) : Wo (if p then o else none) Q := by rw [if_pos hp]; exact h
theorem w_ite {α : Type} {k : Bool} {o o' : Option (α × List SD)} {Q : α → List SD → Prop} (h : (k = true → Wp o Q) ∧ (k = false → Wp o' Q)) : Wp (if k = true then o else o') Q := by
  cases k with
  | true => exact h.1 rfl
  | false => exact h.2 rfl
theorem br_T {A B : Prop} (h : A) : (true = true → A) ∧ (true = false → B) := ⟨fun _ => h, fun e => nomatch e⟩
theorem br_F {A B : Prop} (h : B) : (false = true → A) ∧ (false = false → B) := ⟨fun e => Bool.noConfusion e, fun _ => h⟩
theorem br_nT {A B : Prop} (h : B) : ((!true) = true → A) ∧ ((!true) = false → B) := br_F h
theorem br_nF {A B : Prop} (h : A) : ((!false) = true → A) ∧ ((!false) = false → B) := br_T h
theorem br_dec {A B p : Prop} [Decidable p] (h : (p → A) ∧ (¬ p → B)) : (decide p = true → A) ∧ (decide p = false → B) := ⟨fun e => h.1 (of_decide_eq_true e), fun e => h.2 (of_decide_eq_false e)⟩
theorem br_ndec {A B p : Prop} [Decidable p] (h : (¬ p → A) ∧ (p → B)) : ((!decide p) = true → A) ∧ ((!decide p) = false → B) := ⟨fun e => h.1 (by simpa using e), fun e => h.2 (by simpa using e)⟩
/-! statements -/
theorem w_seqA (h : Wp (dSeq x (dSeq y b) ρ) Q) : Wp (dSeq (dSeq x y) b ρ) Q := by
  have : dSeq (dSeq x y) b ρ = dSeq x (dSeq y b) ρ := by
    unfold dSeq
    cases x ρ with
    | none => rfl
    | some p =>
      obtain ⟨fl, ρ1⟩ := p
      cases fl <;> rfl
  rw [this]; exact h
theorem w_seqN (h : Wp (b ρ) Q) : Wp (dSeq dNext b ρ) Q := h
theorem w_next (h : Q .nx ρ) : Wp (dNext ρ) Q := ⟨_, _, rfl, h⟩
/-- behind a statement -/
def aft (b : DS) (Q : FD → List SD → Prop) : FD → List SD → Prop
  | .nx, ρ => Wp (b ρ) Q
  | fl, ρ => Q fl ρ
theorem w_aft (h : Wp (a ρ) (aft b Q)) : Wp (dSeq a b ρ) Q := by
  obtain ⟨fl, ρ1, e, q⟩ := h
  cases fl with
  | nx => obtain ⟨r, ρ2, e2, q⟩ := q; exact ⟨r, ρ2, by unfold dSeq; rw [e]; exact e2, q⟩
  | bk => exact ⟨_, _, by unfold dSeq; rw [e]; rfl, q⟩
  | ct => exact ⟨_, _, by unfold dSeq; rw [e]; rfl, q⟩
  | ret r => exact ⟨_, _, by unfold dSeq; rw [e]; rfl, q⟩
theorem w_seqX {P : FD → List SD → Prop} (h : Wp (a ρ) P) (k : ∀ fl ρ1, P fl ρ1 → fl = .nx ∧ Wp (b ρ1) Q) : Wp (dSeq a b ρ) Q := by
  refine w_aft (h.mono fun fl ρ1 p => ?_)
  obtain ⟨rfl, q⟩ := k fl ρ1 p
  exact q
theorem w_asg0 (h : Wp (f ρ) fun s ρ1 => Wo (g s ρ1) fun ρ2 => Q .nx ρ2) : Wp (dAsg f g ρ) Q := w_bind (h.mono fun s ρ1 ⟨ρ2, e, q⟩ => ⟨_, _, by show (g s ρ1).map _ = _; rw [e]; rfl, q⟩)
theorem w_asg (h : Wp (f ρ) fun s ρ1 => Wo (g s ρ1) fun ρ2 => Wp (b ρ2) Q) : Wp (dSeq (dAsg f g) b ρ) Q := w_aft (w_asg0 h)
theorem w_drop (h : Wp (f ρ) fun s ρ1 => Wp (b ρ1) Q) : Wp (dSeq (dDrop f) b ρ) Q := w_aft (w_map h)
theorem w_ret (h : Wp (f ρ) fun s ρ1 => Q (.ret s) ρ1) : Wp (dSeq (dRet f) b ρ) Q := w_aft (w_map h)
def retOk : SD → Bool
  | .d _ => true
  | .scr _ => true
  | .own _ => true
  | _ => false
theorem w_retV {i : Nat} (e : ρ[i]? = some s) (k : retOk s = true) (h : Q (.ret s) ρ) : Wp (dSeq (dRetV i) b ρ) Q := by
  refine w_aft ⟨.ret s, ρ, ?_, h⟩
  unfold dRetV
  rw [e]
  cases s with
  | no => cases k
  | io _ => cases k
  | d _ => rfl
  | scr _ => rfl
  | own _ => rfl
theorem w_retN (h : Q (.ret (.d .non)) ρ) : Wp (dSeq dRetN b ρ) Q := ⟨_, _, rfl, h⟩
theorem w_brk (h : Q .bk ρ) : Wp (dSeq dBreak b ρ) Q := ⟨_, _, rfl, h⟩
theorem w_cont (h : Q .ct ρ) : Wp (dSeq dCont b ρ) Q := ⟨_, _, rfl, h⟩
theorem w_ifS (h : Wp (c ρ) fun k ρ1 => (k = true → Wp (dSeq x b ρ1) Q) ∧ (k = false → Wp (dSeq y b ρ1) Q)) : Wp (dSeq (dIfS c x y) b ρ) Q := by
  obtain ⟨k, ρ1, e, q⟩ := h
  have : dSeq (dIfS c x y) b ρ = if k = true then dSeq x b ρ1 else dSeq y b ρ1 := by
    unfold dSeq dIfS
    rw [e]
    cases k <;> rfl
  rw [this]
  exact w_ite q
theorem w_for (h : Wp (di ρ) fun xs ρ1 => Wp (dLoop g a xs ρ1) (aft b Q)) : Wp (dSeq (dFor di g a) b ρ) Q := w_aft (w_bind h)
theorem w_whileS {n : Nat} (h : Wp (dWhile c a n ρ) (aft b Q)) : Wp (dSeq (dWhile c a n) b ρ) Q := w_aft h
theorem w_aug {i : Nat} {o : Int → Int → Int} {m : Int} (e : ρ[i]? = some (.d (.int m))) (h : Wp (f ρ) fun s ρ1 => ∃ j, s = .d (.int j) ∧ Nat.blt i ρ1.length = true ∧ Wp (b (ρ1.set i (.d (.int (o m j))))) Q) : Wp (dSeq (dAug i o f) b ρ) Q := by
  obtain ⟨s, ρ1, e1, j, rfl, hl, h⟩ := h
  refine w_aft ⟨.nx, _, ?_, h⟩
  unfold dAug
  rw [e]
  show (f ρ).bind _ = _
  rw [e1]
  show (if i < ρ1.length then _ else _) = _
  rw [if_pos (by simpa using hl)]
theorem w_par {i j : Nat} (k : Wp (f ρ) fun s1 ρ1 => Wp (h ρ1) fun s2 ρ2 => Wo (dgName i s1 ρ2) fun ρ3 => Wo (dgName j s2 ρ3) fun ρ4 => Wp (b ρ4) Q) : Wp (dSeq (dPar i j f h) b ρ) Q := by
  obtain ⟨s1, ρ1, e1, s2, ρ2, e2, ρ3, e3, ρ4, e4, q⟩ := k
  refine w_aft ⟨.nx, ρ4, ?_, q⟩
  unfold dPar okSlot
  rw [e1]
  show (h ρ1).bind _ = _
  rw [e2]
  show (dgName i s1 ρ2).bind _ = _
  rw [e3]
  show (dgName j s2 ρ3).map _ = _
  rw [e4]; rfl
theorem w_par3 {i j l : Nat} (k : Wp (fa ρ) fun as ρ1 => ∃ s1 s2 s3, as = [s1, s2, s3] ∧ (Nat.blt i ρ1.length && (Nat.blt j ρ1.length && Nat.blt l ρ1.length)) = true ∧ Wp (b (((ρ1.set i s1).set j s2).set l s3)) Q) : Wp (dSeq (dPar3 i j l fa) b ρ) Q := by
  obtain ⟨as, ρ1, e1, s1, s2, s3, rfl, hl, q⟩ := k
  refine w_aft ⟨.nx, _, ?_, q⟩
  unfold dPar3
  rw [e1]
  show (if _ then _ else _) = _
  rw [if_pos (by simpa using hl)]
theorem w_app {i : Nat} {s0 : SD} {xs0 : List Dat} (e : ρ[i]? = some s0) (e0 : moL s0 = some xs0) (k : Wp (f ρ) fun s1 ρ1 => Wo (fz s1) fun s2 => ∃ v, s2 = .d v ∧ Wo (ρ1[i]?) fun s => ∃ xs, moL s = some xs ∧ xs.length < 50000 ∧ Wp (b (ρ1.set i (s.re (.lst (xs ++ [v]))))) Q) : Wp (dSeq (dApp i f) b ρ) Q := by
  obtain ⟨s1, ρ1, e1, s2, e2, v, rfl, s, e3, xs, e4, hl, q⟩ := k
  refine w_aft ⟨.nx, _, ?_, q⟩
  unfold dApp
  rw [e]
  show (moL s0).bind _ = _
  rw [e0]
  show (f ρ).bind _ = _
  rw [e1]
  show (fz s1).bind _ = _
  rw [e2]
  show (ρ1[i]?).bind _ = _
  rw [e3]
  show (moL s).bind _ = _
  rw [e4]
  show (if _ then _ else _) = _
  rw [if_pos hl]
theorem w_ext {i : Nat} {s0 : SD} {xs0 : List Dat} (e : ρ[i]? = some s0) (e0 : moL s0 = some xs0) (k : Wp (f ρ) fun s1 ρ1 => ∃ ys, s1.lst = some ys ∧ Wo (ρ1[i]?) fun s => ∃ xs, moL s = some xs ∧ xs.length + ys.length < 50000 ∧ Wp (b (ρ1.set i (s.re (.lst (xs ++ ys))))) Q) : Wp (dSeq (dExt i f) b ρ) Q := by
  obtain ⟨s1, ρ1, e1, ys, e2, s, e3, xs, e4, hl, q⟩ := k
  refine w_aft ⟨.nx, _, ?_, q⟩
  unfold dExt
  rw [e]
  show (moL s0).bind _ = _
  rw [e0]
  show (f ρ).bind _ = _
  rw [e1]
  show (s1.lst).bind _ = _
  rw [e2]
  show (ρ1[i]?).bind _ = _
  rw [e3]
  show (moL s).bind _ = _
  rw [e4]
  show (if _ then _ else _) = _
  rw [if_pos hl]
theorem w_ins {i : Nat} {s0 : SD} {xs0 : List Dat} (e : ρ[i]? = some s0) (e0 : moL s0 = some xs0) (k : Wp (fa ρ) fun as ρ1 => ∃ (k : Nat) (v : Dat), as = [.d (.int (k : Int)), .d v] ∧ Wo (ρ1[i]?) fun s => ∃ xs, moL s = some xs ∧ (xs.length < 50000 ∧ k < 1000000) ∧ Wp (b (ρ1.set i (s.re (.lst (xs.take k ++ [v] ++ xs.drop k))))) Q) : Wp (dSeq (dIns i fa) b ρ) Q := by
  obtain ⟨as, ρ1, e1, k, v, rfl, s, e3, xs, e4, hl, q⟩ := k
  refine w_aft ⟨.nx, _, ?_, q⟩
  unfold dIns
  rw [e]
  show (moL s0).bind _ = _
  rw [e0]
  show (fa ρ).bind _ = _
  rw [e1]
  show (ρ1[i]?).bind _ = _
  rw [e3]
  show (moL s).bind _ = _
  rw [e4]
  show (if _ then _ else _) = _
  rw [if_pos ⟨hl.1, by omega, by omega⟩]
  rfl
theorem w_sadd {i : Nat} {s0 : SD} {p0 : (Int → Bool) × Nat} (e : ρ[i]? = some s0) (e0 : moS s0 = some p0) (k : Wp (f ρ) fun s1 ρ1 => ∃ j, s1 = .d (.int j) ∧ Wp (dSAdd i (dC (.int j)) ρ1) fun fl ρ2 => fl = .nx ∧ Wp (b ρ2) Q) : Wp (dSeq (dSAdd i f) b ρ) Q := by
  obtain ⟨s1, ρ1, e1, j, rfl, fl, ρ2, e2, rfl, q⟩ := k
  refine w_aft ⟨.nx, ρ2, ?_, q⟩
  unfold dSAdd at e2 ⊢
  rw [e]
  show (moS s0).bind _ = _
  rw [e0]
  show (f ρ).bind _ = _
  rw [e1]
  obtain ⟨a1, h1, e2⟩ := Option.bind_some' e2
  obtain ⟨a2, h2, e2⟩ := Option.bind_some' e2
  exact e2
theorem w_fldSet {i n : Nat} {m : Str} (k : Wp (f ρ) fun s1 ρ1 => Wo (fz s1) fun s2 => ∃ v, s2 = .d v ∧ Wo (ρ1[i]?) fun s => ∃ fs, moO s = some (n, fs) ∧ fs.length < 900 ∧ Wp (b (ρ1.set i (s.re (.obj n (putFD m v fs))))) Q) : Wp (dSeq (dFldSet i n m f) b ρ) Q := by
  obtain ⟨s1, ρ1, e1, s2, e2, v, rfl, s, e3, fs, e4, hl, q⟩ := k
  refine w_aft ⟨.nx, _, ?_, q⟩
  unfold dFldSet
  rw [e1]
  show (fz s1).bind _ = _
  rw [e2]
  show (ρ1[i]?).bind _ = _
  rw [e3]
  show (moO s).bind _ = _
  rw [e4]
  show (if _ then _ else _) = _
  rw [if_pos ⟨rfl, hl⟩]
end
end DP

set_option Elab.async false
set_option linter.all false
set_option maxRecDepth 100000
set_option maxHeartbeats 4000000
namespace DP
open PySem PySem.Spec PyProof.Rows L2
section
variable {a b x y : DS} {c t u : DT} {f h o : DE} {g : DG} {gs : DGs} {fa : DA} {di : DI} {ρ : List SD} {s : SD} {Q : FD → List SD → Prop} {QE : SD → List SD → Prop} {QT : Bool → List SD → Prop} {QA QI : List SD → List SD → Prop} {QD : List Dat → List SD → Prop} {QG : List SD → Prop}
/-! expressions -/
theorem w_c {v : Dat} (k : QE (.d v) ρ) : Wp (dC v ρ) QE := ⟨_, _, rfl, k⟩
theorem w_varD {i : Nat} {v : Dat} (e : ρ[i]? = some (.d v)) (k : QE (.d v) ρ) : Wp (dVar i ρ) QE := ⟨_, _, by unfold dVar; rw [e], k⟩
theorem w_varS {i : Nat} {v : List Int} (e : ρ[i]? = some (.scr v)) (k : QE (.scr v) ρ) : Wp (dVar i ρ) QE := ⟨_, _, by unfold dVar; rw [e], k⟩
theorem w_varL {i : Nat} {xs : List Dat} (e : ρ[i]? = some (.own (.lst xs))) (k : QE (.d (.lst xs)) (ρ.set i (.d (.lst xs)))) : Wp (dVar i ρ) QE := ⟨_, _, by unfold dVar; rw [e]; rfl, k⟩
theorem w_varI {i n : Nat} {fs : List (Str × Dat)} (e : ρ[i]? = some (.own (.obj n fs))) (k : QE (.d (.ins n (fs.map (·.1)) (fs.map (·.2)))) (ρ.set i (.d (.ins n (fs.map (·.1)) (fs.map (·.2)))))) : Wp (dVar i ρ) QE := ⟨_, _, by unfold dVar; rw [e]; rfl, k⟩
theorem w_un {g : SD → Option SD} (k : Wp (f ρ) fun s ρ1 => Wo (g s) fun d => QE d ρ1) : Wp (dUn g f ρ) QE := w_bind (k.mono fun _ _ q => w_omap q)
theorem w_bin {g : SD → SD → Option SD} (k : Wp (f ρ) fun s1 ρ1 => Wp (h ρ1) fun s2 ρ2 => Wo (g s1 s2) fun d => QE d ρ2) : Wp (dBin g f h ρ) QE := w_bind (k.mono fun _ _ q => w_bind (q.mono fun _ _ q => w_omap q))
theorem w_fz (k : Wp (f ρ) fun s ρ1 => Wo (fz s) fun s' => QE s' ρ1) : Wp (dFz f ρ) QE := w_bind (k.mono fun _ _ q => w_omap q)
theorem w_nil (k : QA [] ρ) : Wp (dNil ρ) QA := ⟨_, _, rfl, k⟩
theorem w_cons (k : Wp (f ρ) fun s ρ1 => Wo (fz s) fun s' => Wp (fa ρ1) fun as ρ2 => QA (s' :: as) ρ2) : Wp (dCons f fa ρ) QA := w_bind (k.mono fun _ _ q => w_obind (let ⟨r, e, q⟩ := q; ⟨r, e, w_map q⟩))
theorem z_d {v : Dat} {QO : SD → Prop} (k : QO (.d v)) : Wo (fz (.d v)) QO := ⟨_, rfl, k⟩
theorem z_s {v : List Int} {QO : SD → Prop} (k : QO (.scr v)) : Wo (fz (.scr v)) QO := ⟨_, rfl, k⟩
theorem z_l {v : List Dat} {QO : SD → Prop} (k : QO (.d (.lst v))) : Wo (fz (.own (.lst v))) QO := ⟨_, rfl, k⟩
theorem z_i {n : Nat} {fs : List (Str × Dat)} {QO : SD → Prop} (k : QO (.d (.ins n (fs.map (·.1)) (fs.map (·.2))))) : Wo (fz (.own (.obj n fs))) QO := ⟨_, rfl, k⟩
theorem w_cb {g : List SD → Option SD} (k : Wp (fa ρ) fun as ρ1 => Wo (g as) fun d => QE d ρ1) : Wp (dCB g fa ρ) QE := w_bind (k.mono fun _ _ q => w_omap q)
theorem w_tup (k : Wp (fa ρ) fun as ρ1 => ∃ ds, dats as = some ds ∧ ds.length ≤ 1000 ∧ QE (.d (.tup ds)) ρ1) : Wp (dTup fa ρ) QE := w_bind (k.mono fun _ _ ⟨ds, e, hl, q⟩ => ⟨_, _, by show (dats _).bind _ = _; rw [e]; show (if _ then _ else _) = _; rw [if_pos hl], q⟩)
theorem w_lst (k : Wp (fa ρ) fun as ρ1 => ∃ ds, dats as = some ds ∧ ds.length ≤ 1000 ∧ QE (.own (.lst ds)) ρ1) : Wp (dLst fa ρ) QE := w_bind (k.mono fun _ _ ⟨ds, e, hl, q⟩ => ⟨_, _, by show (dats _).bind _ = _; rw [e]; show (if _ then _ else _) = _; rw [if_pos hl], q⟩)
def isNo : SD → Bool
  | .no => true
  | _ => false
theorem known_no {s : SD} (h : isNo s = false) : s.known = some s := by cases s <;> first | rfl | cases h
theorem w_varB {i : Nat} {g : SD → SD → Option SD} {s0 : SD} (e : ρ[i]? = some s0) (e0 : isNo s0 = false) (k : Wp (f ρ) fun s1 ρ1 => Wo (ρ1[i]?) fun s => isNo s = false ∧ Wo (g s s1) fun d => QE d ρ1) : Wp (dVarB i g f ρ) QE := by
  obtain ⟨s1, ρ1, e1, s, e2, e3, d, e4, q⟩ := k
  refine ⟨d, ρ1, ?_, q⟩
  unfold dVarB
  rw [e]
  cases s0 with
  | no => cases e0
  | _ =>
    show (f ρ).bind _ = _
    rw [e1]
    show (ρ1[i]?).bind _ = _
    rw [e2]
    show (s.known).bind _ = _
    rw [known_no e3]
    show (g s s1).map _ = _
    rw [e4]; rfl
theorem w_binB {j : Nat} {g : SD → SD → Option SD} (k : Wp (f ρ) fun s1 ρ1 => Wo (ρ1[j]?) fun s => isNo s = false ∧ Wo (g s1 s) fun d => QE d ρ1) : Wp (dBinB g f j ρ) QE := by
  obtain ⟨s1, ρ1, e1, s, e2, e3, d, e4, q⟩ := k
  refine ⟨d, ρ1, ?_, q⟩
  unfold dBinB
  rw [e1]
  show (ρ1[j]?).bind _ = _
  rw [e2]
  show (s.known).bind _ = _
  rw [known_no e3]
  show (g s1 s).map _ = _
  rw [e4]; rfl
theorem w_lenB {i : Nat} {s0 : SD} (e : ρ[i]? = some s0) (e0 : isNo s0 = false) (k : Wo (lenD s0) fun n => QE (.d (nI n)) ρ) : Wp (dLenB i ρ) QE := by
  obtain ⟨n, e1, q⟩ := k
  refine ⟨_, ρ, ?_, q⟩
  unfold dLenB
  rw [e]
  show (s0.known).bind _ = _
  rw [known_no e0]
  show (lenD s0).map _ = _
  rw [e1]; rfl
theorem wo_get {i : Nat} {QO : SD → Prop} (e : ρ[i]? = some s) (k : QO s) : Wo (ρ[i]?) QO := ⟨_, e, k⟩
/-! tests -/
theorem w_notT (k : Wp (c ρ) fun r ρ1 => QT (!r) ρ1) : Wp (dNotT c ρ) QT := w_map k
theorem w_andT (k : Wp (t ρ) fun r ρ1 => (r = true → Wp (u ρ1) QT) ∧ (r = false → QT false ρ1)) : Wp (dAndT t u ρ) QT := w_bind (k.mono fun r ρ1 q => w_ite ⟨q.1, fun e => w_some (q.2 e)⟩)
theorem w_orT (k : Wp (t ρ) fun r ρ1 => (r = true → QT true ρ1) ∧ (r = false → Wp (u ρ1) QT)) : Wp (dOrT t u ρ) QT := w_bind (k.mono fun r ρ1 q => w_ite ⟨fun e => w_some (q.1 e), q.2⟩)
theorem w_testB (k : Wp (f ρ) fun s ρ1 => ∃ r, s = .d (.bl r) ∧ QT r ρ1) : Wp (dTestB f ρ) QT := w_bind (k.mono fun s ρ1 ⟨r, e, q⟩ => ⟨r, ρ1, by subst e; rfl, q⟩)
theorem w_tru (k : Wp (f ρ) fun s ρ1 => Wo (truD s) fun r => QT r ρ1) : Wp (dTru f ρ) QT := w_bind (k.mono fun _ _ q => w_omap q)
theorem w_yes (k : QT true ρ) : Wp (dYes ρ) QT := ⟨_, _, rfl, k⟩
theorem w_andV (k : Wp (f ρ) fun s ρ1 => ∃ r, s = .d (.bl r) ∧ (r = true → Wp (h ρ1) QE) ∧ (r = false → QE (.d (.bl false)) ρ1)) : Wp (dAndV f h ρ) QE := w_bind (k.mono fun s ρ1 ⟨r, e, q⟩ => by
  subst e
  exact w_ite ⟨q.1, fun e => w_some (q.2 e)⟩)
theorem w_orV (k : Wp (f ρ) fun s ρ1 => ∃ r, s = .d (.bl r) ∧ (r = true → QE (.d (.bl true)) ρ1) ∧ (r = false → Wp (h ρ1) QE)) : Wp (dOrV f h ρ) QE := w_bind (k.mono fun s ρ1 ⟨r, e, q⟩ => by
  subst e
  exact w_ite ⟨fun e => w_some (q.1 e), q.2⟩)
theorem w_notV (k : Wp (f ρ) fun s ρ1 => ∃ r, s = .d (.bl r) ∧ QE (.d (.bl (!r))) ρ1) : Wp (dNotV f ρ) QE := w_bind (k.mono fun s ρ1 ⟨r, e, q⟩ => by
  subst e
  exact w_some q)
theorem w_ifE (k : Wp (c ρ) fun r ρ1 => (r = true → Wp (f ρ1) QE) ∧ (r = false → Wp (h ρ1) QE)) : Wp (dIf c f h ρ) QE := w_bind (k.mono fun _ _ q => w_ite q)
/-! calls -/
theorem w_runF {n l : Nat} {F : DS} {as : List SD} (hn : as.length = n) (k : Wp (F (as ++ List.replicate (l - n) .no)) fun fl ρ' => Wo (resF fl) fun r => Wo (keepIo as ρ') fun as' => QE r as') : Wp (runF n l F as) QE := by
  obtain ⟨fl, ρ', e, r, e2, as', e3, q⟩ := k
  exact ⟨r, as', q_runF hn e e2 e3, q⟩
theorem r_ret {r : SD} {QO : SD → Prop} (k : QO r) : Wo (resF (.ret r)) QO := ⟨_, rfl, k⟩
theorem r_nx {QO : SD → Prop} (k : QO (.d .non)) : Wo (resF .nx) QO := ⟨_, rfl, k⟩
theorem k_nil (k : QG []) : Wo (keepIo [] ρ) QG := ⟨_, rfl, k⟩
theorem k_d {v : Dat} {s : SD} {as : List SD} (k : Wo (keepIo as ρ) fun as' => QG (.d v :: as')) : Wo (keepIo (.d v :: as) (s :: ρ)) QG := by
  obtain ⟨r, e, q⟩ := k
  exact ⟨_, by show (keepIo as ρ).map _ = _; rw [e]; rfl, q⟩
theorem k_s {v : List Int} {s : SD} {as : List SD} (k : Wo (keepIo as ρ) fun as' => QG (.scr v :: as')) : Wo (keepIo (.scr v :: as) (s :: ρ)) QG := by
  obtain ⟨r, e, q⟩ := k
  exact ⟨_, by show (keepIo as ρ).map _ = _; rw [e]; rfl, q⟩
theorem k_io {m m' : MO} {as : List SD} (k : Wo (keepIo as ρ) fun as' => QG (.io m' :: as')) : Wo (keepIo (.io m :: as) (.io m' :: ρ)) QG := by
  obtain ⟨r, e, q⟩ := k
  exact ⟨_, by show (keepIo as ρ).map _ = _; rw [e]; rfl, q⟩
theorem w_call {Φ : DF} (k : Wp (fa ρ) fun as ρ1 => Wp (Φ as) fun r _ => QE r ρ1) : Wp (dCall Φ fa ρ) QE := w_bind (k.mono fun _ _ q => w_map q)
theorem w_callRev {Φ : DF} (k : Wp (fa ρ) fun as ρ1 => Wp (Φ as.reverse) fun r _ => QE r ρ1) : Wp (dCallRev Φ fa ρ) QE := w_bind (k.mono fun _ _ q => w_map q)
theorem w_callIO {Φ : DF} {j : Nat} {s0 : SD} (e : ρ[j]? = some s0) (e0 : Nat.beq s0.kd 0 = false) (k : Wp (fa ρ) fun as ρ1 => Wo (ρ1[j]?) fun s => Wo s.mo fun m => Wp (Φ (.io m :: as)) fun r as' => ∃ m' rest, as' = .io m' :: rest ∧ QE r (ρ1.set j (s.re m'))) : Wp (dCallIO Φ j fa ρ) QE := by
  obtain ⟨as, ρ1, e1, s, e2, m, e3, r, as', e4, m', rest, rfl, q⟩ := k
  refine ⟨r, _, ?_, q⟩
  unfold dCallIO
  rw [e]
  show (if s0.kd = 0 then _ else _) = _
  rw [if_neg (fun z => by rw [z] at e0; cases e0), e1]
  show (ρ1[j]?).bind _ = _
  rw [e2]
  show (s.mo).bind _ = _
  rw [e3]
  show (Φ (.io m :: as)).bind _ = _
  rw [e4]; rfl
theorem w_callF {Φ : DF} (k : Wp (f ρ) fun s ρ1 => ∃ m, s = .own m ∧ Wp (fa ρ1) fun as ρ2 => Wp (Φ (.io m :: as)) fun r as' => ∃ m' rest, as' = .io m' :: rest ∧ QE r ρ2) : Wp (dCallF Φ f fa ρ) QE := by
  obtain ⟨s, ρ1, e1, m, rfl, as, ρ2, e2, r, as', e4, m', rest, rfl, q⟩ := k
  refine ⟨r, _, ?_, q⟩
  unfold dCallF
  rw [e1]
  show (fa ρ1).bind _ = _
  rw [e2]
  show (Φ (.io m :: as)).bind _ = _
  rw [e4]; rfl
theorem mo_io {m : MO} {QO : MO → Prop} (k : QO m) : Wo (SD.mo (.io m)) QO := ⟨_, rfl, k⟩
theorem mo_own {m : MO} {QO : MO → Prop} (k : QO m) : Wo (SD.mo (.own m)) QO := ⟨_, rfl, k⟩
theorem w_meth {Φ : DF} {m : Str} {n : Nat} (k : Wp (o ρ) fun s ρ1 => ∃ ns ds, s = .d (.ins n ns ds) ∧ ns.contains m = false ∧ Wp (fa ρ1) fun as ρ2 => Wp (Φ (.d (.ins n ns ds) :: as)) fun r _ => QE r ρ2) : Wp (dMeth m n Φ o fa ρ) QE := by
  obtain ⟨s, ρ1, e1, ns, ds, rfl, hm, as, ρ2, e2, r, as', e3, q⟩ := k
  refine ⟨r, ρ2, ?_, q⟩
  unfold dMeth
  rw [e1]
  show (if n = n ∧ ns.contains m = false then _ else _) = _
  rw [if_pos ⟨rfl, hm⟩, e2]
  show (Φ (.d (.ins n ns ds) :: as)).map _ = _
  rw [e3]; rfl
theorem w_prop {Φ : DF} {n : Nat} (k : Wp (o ρ) fun s ρ1 => ∃ ns ds, s = .d (.ins n ns ds) ∧ Wp (Φ [.d (.ins n ns ds)]) fun r _ => QE r ρ1) : Wp (dProp n Φ o ρ) QE := by
  obtain ⟨s, ρ1, e1, ns, ds, rfl, r, as', e3, q⟩ := k
  refine ⟨r, ρ1, ?_, q⟩
  unfold dProp
  rw [e1]
  show (if n = n then _ else _) = _
  rw [if_pos rfl, e3]; rfl
theorem w_fld {n : Nat} {m : Str} (k : Wp (o ρ) fun s ρ1 => ∃ ns ds, s = .d (.ins n ns ds) ∧ Wo ((ns.zip ds).lookup m) fun v => QE (.d v) ρ1) : Wp (dFld n m o ρ) QE := by
  obtain ⟨s, ρ1, e1, ns, ds, rfl, v, e3, q⟩ := k
  refine ⟨_, ρ1, ?_, q⟩
  unfold dFld
  rw [e1]
  show (if n = n then _ else _) = _
  rw [if_pos rfl, e3]; rfl
theorem w_make {Φ : DF} {n : Nat} (k : Wp (fa ρ) fun as ρ1 => Wp (Φ (.io (.obj n []) :: as)) fun r as' => ∃ fs rest, r = .d .non ∧ as' = .io (.obj n fs) :: rest ∧ QE (.own (.obj n fs)) ρ1) : Wp (dMake n Φ fa ρ) QE := by
  obtain ⟨as, ρ1, e1, r, as', e2, fs, rest, rfl, rfl, q⟩ := k
  refine ⟨_, ρ1, ?_, q⟩
  unfold dMake
  rw [e1]
  show (Φ (.io (.obj n []) :: as)).bind _ = _
  rw [e2]
  show (if n = n then _ else _) = _
  rw [if_pos rfl]
theorem w_isi {ans : Dat → Option Bool} (k : Wp (f ρ) fun s ρ1 => Wo (fz s) fun s' => ∃ v, s' = .d v ∧ Wo (ans v) fun r => QE (.d (.bl r)) ρ1) : Wp (dIsi ans f ρ) QE := by
  obtain ⟨s, ρ1, e1, s', e2, v, rfl, r, e3, q⟩ := k
  refine ⟨_, ρ1, ?_, q⟩
  unfold dIsi
  rw [e1]
  show (fz s).bind _ = _
  rw [e2]
  show (ans v).map _ = _
  rw [e3]; rfl
/-! slices, positions -/
theorem w_noPart {QO : Option Int → List SD → Prop} (k : QO none ρ) : Wp (dNoPart ρ) QO := ⟨_, _, rfl, k⟩
theorem w_part {QO : Option Int → List SD → Prop} (k : Wp (f ρ) fun s ρ1 => ∃ i, s = .d (.int i) ∧ QO (some i) ρ1) : Wp (dPart f ρ) QO := w_bind (k.mono fun s ρ1 ⟨i, e, q⟩ => ⟨_, _, by subst e; rfl, q⟩)
theorem w_sl {l r : DO} (k : Wp (f ρ) fun s ρ1 => Wp (l ρ1) fun lo ρ2 => Wp (r ρ2) fun hi ρ3 => Wo (gSl s lo hi) fun d => QE d ρ3) : Wp (dSl f l r ρ) QE := w_bind (k.mono fun _ _ q => w_bind (q.mono fun _ _ q => w_bind (q.mono fun _ _ q => w_omap q)))
theorem w_revL (k : Wp (f ρ) fun s ρ1 => ∃ xs, s.lst = some xs ∧ QE (.own (.lst xs.reverse)) ρ1) : Wp (dRevL f ρ) QE := w_bind (k.mono fun s ρ1 ⟨xs, e, q⟩ => ⟨_, _, by show (s.lst).map _ = _; rw [e]; rfl, q⟩)
theorem w_index {i : Nat} {s0 : SD} {xs0 : List Dat} (e : ρ[i]? = some s0) (e0 : s0.lst = some xs0) (k : Wp (f ρ) fun s1 ρ1 => ∃ v, s1 = .d v ∧ Wo (ρ1[i]?) fun s => Wo (gIndex s v) fun d => QE d ρ1) : Wp (dIndexB i f ρ) QE := by
  obtain ⟨s1, ρ1, e1, v, rfl, s, e3, d, e4, q⟩ := k
  refine ⟨_, ρ1, ?_, q⟩
  unfold dIndexB
  rw [e]
  show (s0.lst).bind _ = _
  rw [e0]
  show (f ρ).bind _ = _
  rw [e1]
  show (ρ1[i]?).bind _ = _
  rw [e3]
  show (gIndex s v).map _ = _
  rw [e4]; rfl
/-! dicts, sets -/
theorem w_dnew (k : QE (.own (.dic [])) ρ) : Wp (dDNew ρ) QE := ⟨_, _, rfl, k⟩
theorem w_setNew (k : QE (.own (.set (fun _ => false) 0)) ρ) : Wp (dSetNew ρ) QE := ⟨_, _, rfl, k⟩
theorem w_getB {i : Nat} {s0 : SD} {kv0 : List (Key × Dat)} (e : ρ[i]? = some s0) (e0 : moD s0 = some kv0) (k : Wp (f ρ) fun s1 ρ1 => ∃ v, s1 = .d v ∧ Wo (keyD v) fun y => Wo (ρ1[i]?) fun s => ∃ kvs, moD s = some kvs ∧ Wo (valD kvs y) fun v => QE (.d v) ρ1) : Wp (dGetB i f ρ) QE := by
  obtain ⟨s1, ρ1, e1, v, rfl, y, e2, s, e3, kvs, e4, w, e5, q⟩ := k
  refine ⟨_, ρ1, ?_, q⟩
  unfold dGetB
  rw [e]
  show (moD s0).bind _ = _
  rw [e0]
  show (f ρ).bind _ = _
  rw [e1]
  show (keyD v).bind _ = _
  rw [e2]
  show (ρ1[i]?).bind _ = _
  rw [e3]
  show (moD s).bind _ = _
  rw [e4]
  show (valD kvs y).map _ = _
  rw [e5]; rfl
theorem w_inD {i : Nat} {neg : Bool} (k : Wp (f ρ) fun s1 ρ1 => ∃ v, s1 = .d v ∧ Wo (keyD v) fun y => Wo (ρ1[i]?) fun s => ∃ kvs, moD s = some kvs ∧ QE (.d (.bl (if neg then !(valD kvs y).isSome else (valD kvs y).isSome))) ρ1) : Wp (dInD neg f i ρ) QE := by
  obtain ⟨s1, ρ1, e1, v, rfl, y, e2, s, e3, kvs, e4, q⟩ := k
  refine ⟨_, ρ1, ?_, q⟩
  unfold dInD
  rw [e1]
  show (keyD v).bind _ = _
  rw [e2]
  show (ρ1[i]?).bind _ = _
  rw [e3]
  show (moD s).map _ = _
  rw [e4]; rfl
theorem w_disp2 {f1 g1 f2 g2 : DE} (k : Wp (f1 ρ) fun a ρ1 => ∃ av, a = .d av ∧ Wo (keyD av) fun k1 => Wp (g1 ρ1) fun b ρ2 => ∃ x1, b = .d x1 ∧ Wp (f2 ρ2) fun c ρ3 => ∃ cv, c = .d cv ∧ Wo (keyD cv) fun k2 => Wp (g2 ρ3) fun d ρ4 => ∃ x2, d = .d x2 ∧ QE (.own (.dic (putD (putD [] k1 x1) k2 x2))) ρ4) : Wp (dDisp2 f1 g1 f2 g2 ρ) QE := by
  obtain ⟨a, ρ1, e1, av, rfl, k1, e2, b, ρ2, e3, x1, rfl, c, ρ3, e4, cv, rfl, k2, e5, d, ρ4, e6, x2, rfl, q⟩ := k
  refine ⟨_, ρ4, ?_, q⟩
  unfold dDisp2
  rw [e1]
  show (keyD av).bind _ = _
  rw [e2]
  show (g1 ρ1).bind _ = _
  rw [e3]
  show (f2 ρ2).bind _ = _
  rw [e4]
  show (keyD cv).bind _ = _
  rw [e5]
  show (g2 ρ3).bind _ = _
  rw [e6]; rfl
/-! rows that are walked -/
theorem w_iseq (k : Wp (f ρ) fun s ρ1 => Wo (fz s) fun s' => Wo (itemsD s') fun xs => QD xs ρ1) : Wp (dISeq f ρ) QD := w_bind (k.mono fun _ _ q => w_obind (let ⟨r, e, q⟩ := q; ⟨r, e, w_omap q⟩))
theorem w_irngN (k : Wp (fa ρ) fun as ρ1 => ∃ n : Nat, as = [.d (nI n)] ∧ n ≤ 1000000 ∧ QD ((List.range n).map nI) ρ1) : Wp (dIRng1 fa ρ) QD := by
  obtain ⟨as, ρ1, e1, n, rfl, hn, q⟩ := k
  refine ⟨_, ρ1, ?_, q⟩
  unfold dIRng1
  rw [e1]
  show (if -1000000 ≤ (n : Int) ∧ (n : Int) ≤ 1000000 then some (rgD 0 (n : Int), ρ1) else none) = _
  rw [if_pos ⟨by omega, by omega⟩]
  unfold rgD
  have : ((n : Int) - 0).toNat = n := by omega
  rw [this]
  congr 2
  exact List.map_congr_left fun i _ => by rw [Int.zero_add]
theorem w_lrgN (k : Wp (f ρ) fun s ρ1 => ∃ n : Nat, s = .d (nI n) ∧ n ≤ 1000000 ∧ QE (.own (.lst ((List.range n).map nI))) ρ1) : Wp (dLstRg1 f ρ) QE := by
  obtain ⟨as, ρ1, e1, n, rfl, hn, q⟩ := k
  refine ⟨_, ρ1, ?_, q⟩
  unfold dLstRg1 dRg1
  rw [e1]
  show (if -1000000 ≤ (n : Int) ∧ (n : Int) ≤ 1000000 then some (((0 : Int), (n : Int)), ρ1) else none).map _ = _
  rw [if_pos ⟨by omega, by omega⟩]
  show some (SD.own (.lst (rgD 0 (n : Int))), ρ1) = _
  unfold rgD
  have : ((n : Int) - 0).toNat = n := by omega
  rw [this]
  congr 4
  exact List.map_congr_left fun i _ => by rw [Int.zero_add]
theorem w_ienum (k : Wp (fa ρ) fun as ρ1 => ∃ s, as = [s] ∧ Wo (itemsD s) fun xs => QD (enumD xs) ρ1) : Wp (dIEnum fa ρ) QD := by
  obtain ⟨as, ρ1, e1, s, rfl, xs, e2, q⟩ := k
  refine ⟨_, ρ1, ?_, q⟩
  unfold dIEnum
  rw [e1]
  show (itemsD s).map _ = _
  rw [e2]; rfl
theorem w_izipL (k : Wp (fa ρ) fun as ρ1 => ∃ xs ys, as = [.d (.lst xs), .d (.lst ys)] ∧ QD (zipDD xs ys) ρ1) : Wp (dIZip fa ρ) QD := by
  obtain ⟨as, ρ1, e1, xs, ys, rfl, q⟩ := k
  exact ⟨_, ρ1, by unfold dIZip; rw [e1]; rfl, q⟩
theorem w_izipT (k : Wp (fa ρ) fun as ρ1 => ∃ xs ys, as = [.d (.tup xs), .d (.tup ys)] ∧ QD (zipDD xs ys) ρ1) : Wp (dIZip fa ρ) QD := by
  obtain ⟨as, ρ1, e1, xs, ys, rfl, q⟩ := k
  exact ⟨_, ρ1, by unfold dIZip; rw [e1]; rfl, q⟩
/-! comprehensions -/
theorem w_lc {vs : List Nat} (k : Wp (di ρ) fun xs ρ1 => plainAt ρ1 vs = true ∧ Wp (lcLoop vs g t f xs (wipeD ρ1 vs) []) fun ys ρ2 => QE (.own (.lst ys)) (restD ρ1 ρ2 vs)) : Wp (dLC vs di g t f ρ) QE := by
  obtain ⟨xs, ρ1, e1, hp, ys, ρ2, e2, q⟩ := k
  refine ⟨_, _, ?_, q⟩
  unfold dLC
  rw [e1]
  show (if plainAt ρ1 vs = true then _ else _) = _
  rw [if_pos hp, e2]; rfl
theorem lc_stepW {vs : List Nat} {v : Dat} {r : Option Dat} (k : Wo (g (.d v) ρ) fun ρ1 => Wp (t ρ1) fun b ρ2 => (b = true → Wp (f ρ2) fun s ρ3 => Wo (fz s) fun s' => ∃ y, s' = .d y ∧ r = some y ∧ wipeD ρ3 vs = ρ) ∧ (b = false → r = none ∧ wipeD ρ2 vs = ρ)) : lcStep vs g t f v ρ = some (r, ρ) := by
  obtain ⟨ρ1, e1, b, ρ2, e2, h1, h2⟩ := k
  unfold lcStep
  rw [e1]
  show (t ρ1).bind _ = _
  rw [e2]
  cases b with
  | true =>
    obtain ⟨s, ρ3, e3, s', e4, y, rfl, rfl, e5⟩ := h1 rfl
    show (f ρ2).bind _ = _
    rw [e3]
    show (fz s).bind _ = _
    rw [e4]
    show some (some y, wipeD ρ3 vs) = _
    rw [e5]
  | false =>
    obtain ⟨rfl, e5⟩ := h2 rfl
    show some (none, wipeD ρ2 vs) = _
    rw [e5]
/-- every item gives one -/
theorem w_lcY {α : Type} {l : List α} {e : α → Dat} (F : α → Dat) {vs : List Nat} (k : ∀ x ∈ l, Wo (g (.d (e x)) ρ) fun ρ1 => Wp (f ρ1) fun s ρ3 => Wo (fz s) fun s' => s' = .d (F x) ∧ wipeD ρ3 vs = ρ) (hl : l.length < 50000) (q : QD (l.map F) ρ) : Wp (lcLoop vs g dYes f (l.map e) ρ []) QD := by
  refine ⟨_, _, ?_, q⟩
  have key : ∀ (l : List α) (acc : List Dat), (∀ x ∈ l, lcStep vs g dYes f (e x) ρ = some (some (F x), ρ)) → acc.length + l.length < 50000 → lcLoop vs g dYes f (l.map e) ρ acc = some (acc ++ l.map F, ρ) := by
    intro l
    induction l with
    | nil => intro acc _ _; simp [lcLoop]
    | cons x r ih =>
      intro acc hx hl
      simp only [List.length_cons] at hl
      rw [List.map_cons, lc_step (hx x (List.mem_cons_self ..)) (by omega), ih _ (fun y hy => hx y (List.mem_cons_of_mem _ hy)) (by simp; omega)]
      simp
  rw [key l [] (fun x hx => lc_stepW (let ⟨ρ1, e1, s, ρ3, e3, s', e4, e5, e6⟩ := k x hx; ⟨ρ1, e1, true, ρ1, rfl, fun _ => ⟨s, ρ3, e3, s', e4, F x, e5, rfl, e6⟩, fun z => nomatch z⟩)) (by simpa using hl)]
  rfl
/-- .. those that pass -/
theorem w_lcF {α : Type} {l : List α} {e : α → Dat} (F : α → Option Dat) {vs : List Nat} (k : ∀ x ∈ l, Wo (g (.d (e x)) ρ) fun ρ1 => Wp (t ρ1) fun b ρ2 => (b = true → Wp (f ρ2) fun s ρ3 => Wo (fz s) fun s' => ∃ y, s' = .d y ∧ F x = some y ∧ wipeD ρ3 vs = ρ) ∧ (b = false → F x = none ∧ wipeD ρ2 vs = ρ)) (hl : l.length < 50000) (q : QD (l.filterMap F) ρ) : Wp (lcLoop vs g t f (l.map e) ρ []) QD := by
  refine ⟨_, _, ?_, q⟩
  have key : ∀ (l : List α) (acc : List Dat), (∀ x ∈ l, lcStep vs g t f (e x) ρ = some (F x, ρ)) → acc.length + l.length < 50000 → lcLoop vs g t f (l.map e) ρ acc = some (acc ++ l.filterMap F, ρ) := by
    intro l
    induction l with
    | nil => intro acc _ _; simp [lcLoop]
    | cons x r ih =>
      intro acc hx hl
      simp only [List.length_cons] at hl
      have hle : (F x).toList.length ≤ 1 := by cases F x <;> simp
      rw [List.map_cons, lc_step (hx x (List.mem_cons_self ..)) (by omega), ih _ (fun y hy => hx y (List.mem_cons_of_mem _ hy)) (by rw [List.length_append]; omega)]
      cases hF : F x <;> simp [hF]
  rw [key l [] (fun x hx => lc_stepW (k x hx)) (by simpa using hl)]
  rfl
/-! targets -/
def isIo : SD → Bool
  | .io _ => true
  | _ => false
theorem g_name {i : Nat} (e : Nat.blt i ρ.length = true) (e0 : isIo s = false) (k : QG (ρ.set i s)) : Wo (dgName i s ρ) QG := by
  refine ⟨_, ?_, k⟩
  have hl : i < ρ.length := by simpa using e
  unfold dgName
  rw [if_pos hl]
  cases s <;> first | rfl | cases e0
theorem g_tup {n : Nat} {ds : List Dat} (e : ds.length = n) (k : Wo (gs (ds.map SD.d) ρ) QG) : Wo (dgTup n gs (.d (.tup ds)) ρ) QG := by
  obtain ⟨r, e1, q⟩ := k
  exact ⟨r, by unfold dgTup; show (if ds.length = n then _ else _) = _; rw [if_pos e]; exact e1, q⟩
theorem g_cons {ss : List SD} (k : Wo (g s ρ) fun ρ1 => Wo (gs ss ρ1) QG) : Wo (dgCons g gs (s :: ss) ρ) QG := wo_bind k
theorem g_nil (k : QG ρ) : Wo (dgNil [] ρ) QG := ⟨_, rfl, k⟩
theorem g_subL {i : Nat} {v : Dat} {s0 : SD} (e : ρ[i]? = some s0) (e0 : isNo s0 = false) (k : Wp (f ρ) fun s1 ρ1 => ∃ j : Nat, s1 = .d (nI j) ∧ Wo (ρ1[i]?) fun sl => ∃ xs, moL sl = some xs ∧ j < xs.length ∧ QG (ρ1.set i (sl.re (.lst (xs.set j v))))) : Wo (dgSub i f (.d v) ρ) QG := by
  obtain ⟨s1, ρ1, e1, j, rfl, sl, e2, xs, e3, hl, q⟩ := k
  refine ⟨_, ?_, q⟩
  unfold dgSub
  rw [e]
  have hm := moL_is e3
  have hx : ixN xs.length ((j : Nat) : Int) = some j := by
    unfold ixN
    simp
    omega
  cases s0 with
  | no => cases e0
  | _ =>
    simp only [e1, Option.bind_some, e2, hm, hx, Option.map_some]
theorem g_subLN {i : Nat} {v : Nat} {s0 : SD} (e : ρ[i]? = some s0) (e0 : isNo s0 = false) (k : Wp (f ρ) fun s1 ρ1 => ∃ j : Nat, s1 = .d (nI j) ∧ Wo (ρ1[i]?) fun sl => ∃ xs : List Nat, moL sl = some (xs.map nI) ∧ j < xs.length ∧ QG (ρ1.set i (sl.re (.lst ((xs.set j v).map nI))))) : Wo (dgSub i f (.d (nI v)) ρ) QG :=
  g_subL e e0 (k.mono fun s1 ρ1 ⟨j, h1, sl, e2, xs, e3, hl, q⟩ => ⟨j, h1, sl, e2, xs.map nI, e3, by rw [List.length_map]; exact hl, by rw [List.map_set] at q; exact q⟩)
theorem g_subD {i : Nat} {v : Dat} {s0 : SD} (e : ρ[i]? = some s0) (e0 : isNo s0 = false) (k : Wp (f ρ) fun s1 ρ1 => ∃ kv, s1 = .d kv ∧ Wo (keyD kv) fun y => Wo (ρ1[i]?) fun sl => ∃ kvs, moD sl = some kvs ∧ kvs.length < 1000 ∧ QG (ρ1.set i (sl.re (.dic (putD kvs y v))))) : Wo (dgSub i f (.d v) ρ) QG := by
  obtain ⟨s1, ρ1, e1, kv, rfl, y, e5, sl, e2, kvs, e3, hl, q⟩ := k
  refine ⟨_, ?_, q⟩
  unfold dgSub
  rw [e]
  have hm := moD_is e3
  cases s0 with
  | no => cases e0
  | _ =>
    simp only [e1, Option.bind_some, e2, hm, e5, if_pos hl]
theorem g_subLNk {i : Nat} {v : Nat} {s0 : SD} (e : ρ[i]? = some s0) (e0 : (moL s0).isSome = true) (k : Wp (f ρ) fun s1 ρ1 => ∃ j : Nat, s1 = .d (nI j) ∧ Wo (ρ1[i]?) fun sl => ∃ xs : List Nat, moL sl = some (xs.map nI) ∧ j < xs.length ∧ QG (ρ1.set i (sl.re (.lst ((xs.set j v).map nI))))) : Wo (dgSub i f (.d (nI v)) ρ) QG :=
  g_subLN e (by cases s0 <;> first | rfl | cases e0) k
theorem g_subLk {i : Nat} {v : Dat} {s0 : SD} (e : ρ[i]? = some s0) (e0 : (moL s0).isSome = true) (k : Wp (f ρ) fun s1 ρ1 => ∃ j : Nat, s1 = .d (nI j) ∧ Wo (ρ1[i]?) fun sl => ∃ xs, moL sl = some xs ∧ j < xs.length ∧ QG (ρ1.set i (sl.re (.lst (xs.set j v))))) : Wo (dgSub i f (.d v) ρ) QG :=
  g_subL e (by cases s0 <;> first | rfl | cases e0) k
theorem g_subDk {i : Nat} {v : Dat} {s0 : SD} (e : ρ[i]? = some s0) (e0 : (moD s0).isSome = true) (k : Wp (f ρ) fun s1 ρ1 => ∃ kv, s1 = .d kv ∧ Wo (keyD kv) fun y => Wo (ρ1[i]?) fun sl => ∃ kvs, moD sl = some kvs ∧ kvs.length < 1000 ∧ QG (ρ1.set i (sl.re (.dic (putD kvs y v))))) : Wo (dgSub i f (.d v) ρ) QG :=
  g_subD e (by cases s0 <;> first | rfl | cases e0) k
/-! loops -/
def lpN (P : List SD → Prop) : FD → List SD → Prop
  | .nx, ρ => P ρ
  | .ct, ρ => P ρ
  | _, _ => False
theorem w_loop {xs : List Dat} (P : Nat → List SD → Prop) (h0 : P 0 ρ) (hs : ∀ i v ρ, xs[i]? = some v → P i ρ → Wo (g (.d v) ρ) fun ρ1 => Wp (b ρ1) (lpN (P (i + 1)))) (he : ∀ ρ, P xs.length ρ → Q .nx ρ) : Wp (dLoop g b xs ρ) Q := by
  obtain ⟨fl, ρ', e, h⟩ := loop_inv (g := g) (b := b) (xs := xs) P (fun fl ρ' => fl = .nx ∧ P xs.length ρ') (fun i v ρ hv p => by
    obtain ⟨ρ1, e1, fl, ρ2, e2, q⟩ := hs i v ρ hv p
    refine ⟨fl, ρ2, by rw [e1]; exact e2, ?_⟩
    cases fl with
    | nx => exact .inl ⟨.inl rfl, q⟩
    | ct => exact .inl ⟨.inr rfl, q⟩
    | bk => exact q.elim
    | ret r => exact q.elim) h0 fun ρ' p => ⟨rfl, p⟩
  obtain ⟨rfl, p⟩ := h
  exact ⟨_, _, e, he _ p⟩
/-- with break or return -/
theorem w_loopR {xs : List Dat} (P : Nat → List SD → Prop) (h0 : P 0 ρ) (hs : ∀ i v ρ, xs[i]? = some v → P i ρ → Wo (g (.d v) ρ) fun ρ1 => Wp (b ρ1) fun fl ρ2 => match fl with
    | .nx => P (i + 1) ρ2
    | .ct => P (i + 1) ρ2
    | .bk => Q .nx ρ2
    | .ret r => Q (.ret r) ρ2) (he : ∀ ρ, P xs.length ρ → Q .nx ρ) : Wp (dLoop g b xs ρ) Q := by
  obtain ⟨fl, ρ', e, h⟩ := loop_inv (g := g) (b := b) (xs := xs) P Q (fun i v ρ hv p => by
    obtain ⟨ρ1, e1, fl, ρ2, e2, q⟩ := hs i v ρ hv p
    refine ⟨fl, ρ2, by rw [e1]; exact e2, ?_⟩
    cases fl with
    | nx => exact .inl ⟨.inl rfl, q⟩
    | ct => exact .inl ⟨.inr rfl, q⟩
    | bk => exact .inr (.inl ⟨rfl, q⟩)
    | ret r => exact .inr (.inr ⟨⟨r, rfl⟩, q⟩)) h0 he
  exact ⟨_, _, e, h⟩
theorem w_while {n m0 : Nat} (P : Nat → List SD → Prop) (h0 : P m0 ρ) (hn : m0 < n) (hs : ∀ m ρ, P m ρ → Wp (c ρ) fun k ρ1 => (k = true → Wp (b ρ1) (lpN fun ρ2 => ∃ m', m' < m ∧ P m' ρ2)) ∧ (k = false → Q .nx ρ1)) : Wp (dWhile c b n ρ) Q := by
  induction n generalizing m0 ρ with
  | zero => omega
  | succ n ih =>
    obtain ⟨k, ρ1, e1, hT, hF⟩ := hs m0 ρ h0
    cases k with
    | false => exact ⟨_, _, by unfold dWhile; rw [e1]; rfl, hF rfl⟩
    | true =>
      obtain ⟨fl, ρ2, e2, q⟩ := hT rfl
      have go : ∀ (m' : Nat), m' < m0 ∧ P m' ρ2 → (fl = .nx ∨ fl = .ct) → Wp (dWhile c b (n + 1) ρ) Q := fun m' ⟨h1, h2⟩ hfl => by
        obtain ⟨fl', ρ3, e3, q3⟩ := ih h2 (by omega)
        refine ⟨fl', ρ3, ?_, q3⟩
        unfold dWhile
        rw [e1]
        show (b ρ1).bind _ = _
        rw [e2]
        rcases hfl with rfl | rfl <;> exact e3
      cases fl with
      | nx => obtain ⟨m', q⟩ := q; exact go m' q (.inl rfl)
      | ct => obtain ⟨m', q⟩ := q; exact go m' q (.inr rfl)
      | bk => exact q.elim
      | ret r => exact q.elim
end
end DP

set_option Elab.async false
set_option linter.all false
set_option maxRecDepth 100000
set_option maxHeartbeats 4000000
namespace DP
open PySem PySem.Spec PyProof.Rows L2 WM
section
variable {ρ : List SD} {QE : SD → List SD → Prop}
theorem w_cN {n : Nat} (k : QE (.d (nI (@OfNat.ofNat Nat n (instOfNatNat n)))) ρ) : Wp (dC (.int (@OfNat.ofNat Int n (@instOfNat n))) ρ) QE := ⟨_, _, rfl, k⟩
/-! operations on values -/
theorem e_addN (a b : Nat) : gAdd (.d (nI a)) (.d (nI b)) = some (.d (nI (a + b))) := rfl
theorem e_addI (a b : Int) : gAdd (.d (.int a)) (.d (.int b)) = some (.d (.int (a + b))) := rfl
theorem e_subN {a b : Nat} (h : b ≤ a) : gSub2 (.d (nI a)) (.d (nI b)) = some (.d (nI (a - b))) := by
  show some (SD.d (.int ((a : Int) - b))) = _
  rw [show ((a : Int) - b) = ((a - b : Nat) : Int) by omega]
theorem e_subI (a b : Int) : gSub2 (.d (.int a)) (.d (.int b)) = some (.d (.int (a - b))) := rfl
theorem small_nat {a : Nat} (h : a < 4611686018427387904) : small62 (a : Int) = true := by unfold small62; simp; omega
theorem e_mulN {a b : Nat} (h : a < 4611686018427387904) : gMul (.d (nI a)) (.d (nI b)) = some (.d (nI (a * b))) := by
  show (match (if small62 (a : Int) = true then some (SD.d (.int ((a : Int) * b))) else none) with | some d => some d | none => gRep (.d (nI a)) (.d (nI b))) = _
  rw [if_pos (small_nat h)]
  show some (SD.d (.int ((a : Int) * b))) = _
  rw [show ((a : Int) * b) = ((a * b : Nat) : Int) by push_cast; rfl]
theorem e_mulI {a b : Int} (h : small62 a = true) : gMul (.d (.int a)) (.d (.int b)) = some (.d (.int (a * b))) := by
  show (match (if small62 a = true then some (SD.d (.int (a * b))) else none) with | some d => some d | none => gRep (.d (.int a)) (.d (.int b))) = _
  rw [if_pos h]
theorem e_modN {a b : Nat} (h : 0 < b) : gMod (.d (nI a)) (.d (nI b)) = some (.d (nI (a % b))) := by
  show (if decide (0 < (b : Int)) = true then some (SD.d (.int ((a : Int) % b))) else none) = _
  rw [if_pos (by simp; omega)]; rfl
theorem e_modI {a b : Int} (h : 0 < b) : gMod (.d (.int a)) (.d (.int b)) = some (.d (.int (a % b))) := by
  show (if decide (0 < b) = true then some (SD.d (.int (a % b))) else none) = _
  rw [if_pos (by simpa using h)]
theorem e_fdivN {a b : Nat} (h : 0 < b ∧ b < 1073741824) : gFdiv (.d (nI a)) (.d (nI b)) = some (.d (nI (a / b))) := by
  show (if decide (0 < (b : Int) ∧ (b : Int) < 1073741824) = true then some (SD.d (.int ((a : Int) / b))) else none) = _
  rw [if_pos (by simp; omega)]; rfl
theorem e_fdivI {a b : Int} (h : 0 < b ∧ b < 1073741824) : gFdiv (.d (.int a)) (.d (.int b)) = some (.d (.int (a / b))) := by
  show (if decide (0 < b ∧ b < 1073741824) = true then some (SD.d (.int (a / b))) else none) = _
  rw [if_pos (by simpa using h)]
theorem e_xor1 (a : Nat) : gXor (.d (nI a)) (.d (nI 1)) = some (.d (nI (fl a))) := g_xor1
theorem e_neg1 : gNeg (.d (nI 1)) = some (.d (.int (-1))) := rfl
theorem e_negI (a : Int) : gNeg (.d (.int a)) = some (.d (.int (-a))) := rfl
theorem e_ltN (a b : Nat) : gLt (.d (nI a)) (.d (nI b)) = some (.d (.bl (decide (a < b)))) := by
  show some (SD.d (.bl (decide ((a : Int) < b)))) = _
  congr 3; exact decide_eq_decide.mpr (by omega)
theorem e_leN (a b : Nat) : gLe (.d (nI a)) (.d (nI b)) = some (.d (.bl (decide (a ≤ b)))) := by
  show some (SD.d (.bl (decide ((a : Int) ≤ b)))) = _
  congr 3; exact decide_eq_decide.mpr (by omega)
theorem e_gtN (a b : Nat) : gGt (.d (nI a)) (.d (nI b)) = some (.d (.bl (decide (b < a)))) := by
  show some (SD.d (.bl (decide ((b : Int) < a)))) = _
  congr 3; exact decide_eq_decide.mpr (by omega)
theorem e_geN (a b : Nat) : gGe (.d (nI a)) (.d (nI b)) = some (.d (.bl (decide (b ≤ a)))) := by
  show some (SD.d (.bl (decide ((b : Int) ≤ a)))) = _
  congr 3; exact decide_eq_decide.mpr (by omega)
theorem e_ltI (a b : Int) : gLt (.d (.int a)) (.d (.int b)) = some (.d (.bl (decide (a < b)))) := rfl
theorem e_leI (a b : Int) : gLe (.d (.int a)) (.d (.int b)) = some (.d (.bl (decide (a ≤ b)))) := rfl
theorem e_gtI (a b : Int) : gGt (.d (.int a)) (.d (.int b)) = some (.d (.bl (decide (b < a)))) := rfl
theorem e_geI (a b : Int) : gGe (.d (.int a)) (.d (.int b)) = some (.d (.bl (decide (b ≤ a)))) := rfl
theorem e_eqN (a b : Nat) : gEq false (.d (nI a)) (.d (nI b)) = some (.d (.bl (decide (a = b)))) := by
  rw [g_eqI]
  by_cases h : a = b
  · subst h; simp
  · have : ((a : Int) == (b : Int)) = false := beq_eq_false_iff_ne.mpr (by omega)
    simp [h, this]
theorem e_neN (a b : Nat) : gEq true (.d (nI a)) (.d (nI b)) = some (.d (.bl (!decide (a = b)))) := by
  rw [g_eqI]
  by_cases h : a = b
  · subst h; simp
  · have : ((a : Int) == (b : Int)) = false := beq_eq_false_iff_ne.mpr (by omega)
    simp [h, this]
theorem e_eqI (a b : Int) : gEq false (.d (.int a)) (.d (.int b)) = some (.d (.bl (decide (a = b)))) := by
  rw [g_eqI]
  by_cases h : a = b
  · subst h; simp
  · have : (a == b) = false := beq_eq_false_iff_ne.mpr h
    simp [h, this]
theorem e_neI (a b : Int) : gEq true (.d (.int a)) (.d (.int b)) = some (.d (.bl (!decide (a = b)))) := by
  rw [g_eqI]
  by_cases h : a = b
  · subst h; simp
  · have : (a == b) = false := beq_eq_false_iff_ne.mpr h
    simp [h, this]
theorem seq_ix {s : SD} {l : List Nat} {k : Nat} (e : s.seqS = some (l.map nI)) (h : k < l.length) : gIx s (.d (nI k)) = some (.d (nI (l.getD k 0))) := by
  refine g_ix e ?_
  rw [List.getElem?_map, List.getElem?_eq_getElem h, List.getD_eq_getElem?_getD, List.getElem?_eq_getElem h]; rfl
theorem e_ixL {l : List Nat} {k : Nat} (h : k < l.length) : gIx (.d (.lst (l.map nI))) (.d (nI k)) = some (.d (nI (l.getD k 0))) := seq_ix rfl h
theorem e_ixT {l : List Nat} {k : Nat} (h : k < l.length) : gIx (.d (.tup (l.map nI))) (.d (nI k)) = some (.d (nI (l.getD k 0))) := seq_ix rfl h
theorem e_ixO {l : List Nat} {k : Nat} (h : k < l.length) : gIx (.own (.lst (l.map nI))) (.d (nI k)) = some (.d (nI (l.getD k 0))) := seq_ix rfl h
theorem e_ixM {l : List Nat} {k : Nat} (h : k < l.length) : gIx (.io (.lst (l.map nI))) (.d (nI k)) = some (.d (nI (l.getD k 0))) := seq_ix rfl h
theorem cat_eq {s t : SD} {xs ys : List Dat} (h1 : s.lst = some xs) (h2 : t.lst = some ys) (h3 : gI tr2 (fun i j => .int (i + j)) s t = none) (h4 : xs.length + ys.length ≤ 100000) : gAdd s t = some (.own (.lst (xs ++ ys))) := by
  show (match gI tr2 (fun i j => Dat.int (i + j)) s t with | some d => some d | none => (match gCat s t with | some d => some d | none => gCatT s t)) = _
  rw [h3]
  have : gCat s t = some (.own (.lst (xs ++ ys))) := by
    unfold gCat
    rw [h1, h2]
    show (if xs.length + ys.length ≤ 100000 then _ else _) = _
    rw [if_pos h4]
  show (match gCat s t with | some d => some d | none => gCatT s t) = _
  rw [this]
theorem e_catDD {xs ys : List Dat} (h4 : xs.length + ys.length ≤ 100000) : gAdd (.d (.lst xs)) (.d (.lst ys)) = some (.own (.lst (xs ++ ys))) := cat_eq rfl rfl rfl h4
theorem e_catDO {xs ys : List Dat} (h4 : xs.length + ys.length ≤ 100000) : gAdd (.d (.lst xs)) (.own (.lst ys)) = some (.own (.lst (xs ++ ys))) := cat_eq rfl rfl rfl h4
theorem e_catOD {xs ys : List Dat} (h4 : xs.length + ys.length ≤ 100000) : gAdd (.own (.lst xs)) (.d (.lst ys)) = some (.own (.lst (xs ++ ys))) := cat_eq rfl rfl rfl h4
theorem e_catOO {xs ys : List Dat} (h4 : xs.length + ys.length ≤ 100000) : gAdd (.own (.lst xs)) (.own (.lst ys)) = some (.own (.lst (xs ++ ys))) := cat_eq rfl rfl rfl h4
/-- with what comes behind told in numbers -/
theorem e_catN2 {l : List Nat} {a b : Nat} (h4 : l.length + 2 ≤ 100000) : gAdd (.d (.lst (l.map nI))) (.own (.lst [nI a, nI b])) = some (.own (.lst ((l ++ [a, b]).map nI))) := by
  rw [e_catDO (by simpa using h4), List.map_append]; rfl
theorem e_repO {x : Dat} {n : Nat} (h : n ≤ 100000) : gMul (.own (.lst [x])) (.d (nI n)) = some (.own (.lst (List.replicate n x))) := by
  show (if (n : Int) ≤ 100000 ∧ -100000 ≤ (n : Int) ∧ [x].length * (n : Int).toNat ≤ 100000 then some (SD.own (.lst (List.replicate (n : Int).toNat [x]).flatten)) else none) = _
  rw [if_pos ⟨by omega, by omega, by simp; omega⟩]
  rw [Int.toNat_natCast]
  congr 3
  induction n with
  | zero => rfl
  | succ n ih => rw [List.replicate_succ, List.flatten_cons, ih (by omega), List.replicate_succ]; rfl
theorem e_repN {a n : Nat} (h : n ≤ 100000) : gMul (.own (.lst [nI a])) (.d (nI n)) = some (.own (.lst ((List.replicate n a).map nI))) := by
  rw [e_repO h, List.map_replicate]
theorem e_max2 (a b : Nat) : gMax2 [.d (nI a), .d (nI b)] = some (.d (nI (max a b))) := by
  show some (SD.d (.int (if (b : Int) > a then (b : Int) else a))) = _
  by_cases h : a < b
  · rw [if_pos (by omega), Nat.max_eq_right (by omega)]
  · rw [if_neg (by omega), Nat.max_eq_left (by omega)]
theorem e_min2 (a b : Nat) : gMin2 [.d (nI a), .d (nI b)] = some (.d (nI (min a b))) := by
  show some (SD.d (.int (if (b : Int) < a then (b : Int) else a))) = _
  by_cases h : b < a
  · rw [if_pos (by omega), Nat.min_eq_right (by omega)]
  · rw [if_neg (by omega), Nat.min_eq_left (by omega)]
theorem bools_mapP {α : Type} (p : α → Bool) : ∀ l : List α, bools (l.map fun x => Dat.bl (p x)) = some (l.map p)
  | [] => rfl
  | x :: r => by
    show (bools (r.map fun x => Dat.bl (p x))).map (p x :: ·) = _
    rw [bools_mapP p r]; rfl
theorem e_all {α : Type} {p : α → Bool} {l : List α} : gAll [.d (.lst (l.map fun x => Dat.bl (p x)))] = some (.d (.bl (l.all p))) := by
  show (bools (l.map fun x => Dat.bl (p x))).map _ = _
  rw [bools_mapP]
  show some (SD.d (.bl ((l.map p).all id))) = _
  rw [List.all_map]; rfl
theorem e_any {α : Type} {p : α → Bool} {l : List α} : gAny [.d (.lst (l.map fun x => Dat.bl (p x)))] = some (.d (.bl (l.any p))) := by
  show (bools (l.map fun x => Dat.bl (p x))).map _ = _
  rw [bools_mapP]
  show some (SD.d (.bl ((l.map p).any id))) = _
  rw [List.any_map]; rfl
theorem e_sum {l : List Nat} : gSum [.d (.lst (l.map nI))] = some (.d (nI l.sum)) := by
  have e : l.map nI = (l.map fun x : Nat => (x : Int)).map Dat.int := by rw [List.map_map]; rfl
  show (intsD (l.map nI)).map _ = _
  rw [e, map_ints]
  show some (SD.d (.int (l.map fun x : Nat => (x : Int)).sum)) = _
  have : ∀ l : List Nat, (l.map fun x : Nat => (x : Int)).sum = ((l.sum : Nat) : Int) := fun l => by
    induction l with
    | nil => rfl
    | cons x r ih => rw [List.map_cons, List.sum_cons, ih, List.sum_cons]; push_cast; rfl
  rw [this]
theorem e_lenL (xs : List Dat) : lenD (.d (.lst xs)) = some xs.length := rfl
theorem e_lenO (xs : List Dat) : lenD (.own (.lst xs)) = some xs.length := rfl
theorem e_lenT (xs : List Dat) : lenD (.d (.tup xs)) = some xs.length := rfl
theorem e_lenS (xs : List Int) : lenD (.scr xs) = some xs.length := rfl
theorem e_glenL (xs : List Dat) : gLen [.d (.lst xs)] = some (.d (nI xs.length)) := rfl
theorem e_glenT (xs : List Dat) : gLen [.d (.tup xs)] = some (.d (nI xs.length)) := rfl
theorem e_int (a : Int) : gInt [.d (.int a)] = some (.d (.int a)) := rfl
theorem e_tupL (xs : List Dat) : gTuple [.d (.lst xs)] = some (.d (.tup xs)) := rfl
theorem e_tupT (xs : List Dat) : gTuple [.d (.tup xs)] = some (.d (.tup xs)) := rfl
theorem e_listL (xs : List Dat) : gList [.d (.lst xs)] = some (.own (.lst xs)) := rfl
theorem e_listT (xs : List Dat) : gList [.d (.tup xs)] = some (.own (.lst xs)) := rfl
theorem e_truB (b : Bool) : truD (.d (.bl b)) = some b := rfl
theorem e_truI (a : Int) : truD (.d (.int a)) = some (a != 0) := rfl
theorem e_truT (l : List Dat) : truD (.d (.tup l)) = some (!l.isEmpty) := rfl
theorem e_truL (l : List Dat) : truD (.d (.lst l)) = some (!l.isEmpty) := rfl
theorem e_keyI (a : Int) : keyD (.int a) = some (.inl a) := rfl
theorem enum_map (l : List Nat) : enumD (l.map nI) = (List.range l.length).map fun i => .tup [nI i, nI (l.getD i 0)] := by
  unfold enumD
  apply List.ext_getElem
  · simp
  · intro i h1 h2
    simp at h1 h2
    simp [List.getElem?_eq_getElem h2]
theorem range_it {N i : Nat} {v : Dat} {e : Nat → Dat} (hx : ((List.range N).map e)[i]? = some v) : i < N ∧ v = e i := by
  rw [List.getElem?_map] at hx
  obtain ⟨a, h1, h2⟩ := Option.map_some' hx
  have hi := (List.getElem?_eq_some_iff.mp h1).1
  rw [List.length_range] at hi
  rw [List.getElem?_range hi] at h1
  cases h1
  exact ⟨hi, h2.symm⟩
theorem map_it {α : Type} {l : List α} {i : Nat} {v : Dat} {e : α → Dat} (hx : (l.map e)[i]? = some v) : ∃ a, l[i]? = some a ∧ v = e a := by
  rw [List.getElem?_map] at hx
  obtain ⟨a, h1, h2⟩ := Option.map_some' hx
  exact ⟨a, h1, h2.symm⟩
end
theorem w_andP {t u : DT} {ρ : List SD} {QT : Bool → List SD → Prop} (k : Wp (t ρ) fun a ρ1 => Wp (u ρ1) fun b ρ2 => ρ2 = ρ1 ∧ QT (a && b) ρ1) : Wp (dAndT t u ρ) QT := by
  obtain ⟨a, ρ1, e1, b, ρ2, e2, rfl, q⟩ := k
  refine ⟨a && b, ρ2, ?_, q⟩
  unfold dAndT
  rw [e1]
  show (if a = true then u ρ2 else some (false, ρ2)) = _
  cases a with
  | true => rw [if_pos rfl, e2]; rfl
  | false => rfl
theorem w_orP {t u : DT} {ρ : List SD} {QT : Bool → List SD → Prop} (k : Wp (t ρ) fun a ρ1 => Wp (u ρ1) fun b ρ2 => ρ2 = ρ1 ∧ QT (a || b) ρ1) : Wp (dOrT t u ρ) QT := by
  obtain ⟨a, ρ1, e1, b, ρ2, e2, rfl, q⟩ := k
  refine ⟨a || b, ρ2, ?_, q⟩
  unfold dOrT
  rw [e1]
  show (if a = true then some (true, ρ2) else u ρ2) = _
  cases a with
  | true => rfl
  | false => rw [if_neg (by simp), e2]; rfl
theorem br_and {A B p q : Prop} [Decidable p] [Decidable q] (h : (p ∧ q → A) ∧ (¬ (p ∧ q) → B)) : ((decide p && decide q) = true → A) ∧ ((decide p && decide q) = false → B) := ⟨fun e => h.1 (by simpa using e), fun e => h.2 (by simpa using e)⟩
theorem br_or {A B p q : Prop} [Decidable p] [Decidable q] (h : (p ∨ q → A) ∧ (¬ (p ∨ q) → B)) : ((decide p || decide q) = true → A) ∧ ((decide p || decide q) = false → B) := ⟨fun e => h.1 (by simpa using e), fun e => h.2 (by simpa using e)⟩
theorem s_rfl {ρ : List SD} {A : Prop} (k : A) : ρ = ρ ∧ A := ⟨rfl, k⟩
theorem w_irng {fa : DA} {ρ : List SD} {QD : List Dat → List SD → Prop} (k : Wp (fa ρ) fun as ρ1 => ∃ (j : Int) (m : Nat), as = [.d (.int j)] ∧ (-1000000 ≤ j ∧ j ≤ 1000000 ∧ j.toNat = m) ∧ QD ((List.range m).map nI) ρ1) : Wp (dIRng1 fa ρ) QD := by
  obtain ⟨as, ρ1, e1, j, m, rfl, ⟨h1, h2, rfl⟩, q⟩ := k
  refine ⟨_, ρ1, ?_, q⟩
  unfold dIRng1
  rw [e1]
  show (if -1000000 ≤ j ∧ j ≤ 1000000 then some (rgD 0 j, ρ1) else none) = _
  rw [if_pos ⟨h1, h2⟩]
  unfold rgD
  rw [Int.sub_zero]
  congr 2
  exact List.map_congr_left fun i _ => by rw [Int.zero_add]
theorem s_rngN {n : Nat} {P : Nat → Prop} (h : n ≤ 1000000) (k : P n) : ∃ (j : Int) (m : Nat), [SD.d (nI n)] = [.d (.int j)] ∧ (-1000000 ≤ j ∧ j ≤ 1000000 ∧ j.toNat = m) ∧ P m := ⟨n, n, rfl, ⟨by omega, by omega, by omega⟩, k⟩
theorem s_rngI {j : Int} {P : Nat → Prop} (h : -1000000 ≤ j ∧ j ≤ 1000000) (k : P j.toNat) : ∃ (i : Int) (m : Nat), [SD.d (.int j)] = [.d (.int i)] ∧ (-1000000 ≤ i ∧ i ≤ 1000000 ∧ i.toNat = m) ∧ P m := ⟨j, _, rfl, ⟨h.1, h.2, rfl⟩, k⟩
theorem g_names {i : Nat} {is : List Nat} {ss ρ : List SD} {QG : List SD → Prop} (k : Wo (dgCons (dgName i) (dgNames is) ss ρ) QG) : Wo (dgNames (i :: is) ss ρ) QG := k
theorem g_names0 {ss ρ : List SD} {QG : List SD → Prop} (k : Wo (dgNil ss ρ) QG) : Wo (dgNames [] ss ρ) QG := k
def zipA : List SD → Option (List Dat)
  | [.d (.lst xs), .d (.lst ys)] => some (zipDD xs ys)
  | [.d (.tup xs), .d (.tup ys)] => some (zipDD xs ys)
  | _ => none
theorem w_izip {fa : DA} {ρ : List SD} {QD : List Dat → List SD → Prop} (k : Wp (fa ρ) fun as ρ1 => Wo (zipA as) fun l => QD l ρ1) : Wp (dIZip fa ρ) QD := by
  obtain ⟨as, ρ1, e1, l, e2, q⟩ := k
  refine ⟨l, ρ1, ?_, q⟩
  unfold dIZip
  rw [e1]
  unfold zipA at e2
  split at e2
  · cases e2; rfl
  · cases e2; rfl
  · cases e2
theorem e_zipL (xs ys : List Dat) : zipA [.d (.lst xs), .d (.lst ys)] = some (zipDD xs ys) := rfl
theorem e_zipT (xs ys : List Dat) : zipA [.d (.tup xs), .d (.tup ys)] = some (zipDD xs ys) := rfl
/-! shapes -/
section
variable {ρ : List SD}
theorem s_d {v : Dat} {P : Dat → Prop} (k : P v) : ∃ w, SD.d v = .d w ∧ P w := ⟨v, rfl, k⟩
theorem s_bl {v : Bool} {P : Bool → Prop} (k : P v) : ∃ w, SD.d (.bl v) = .d (.bl w) ∧ P w := ⟨v, rfl, k⟩
theorem s_int {v : Int} {P : Int → Prop} (k : P v) : ∃ w, SD.d (.int v) = .d (.int w) ∧ P w := ⟨v, rfl, k⟩
theorem s_nat {v : Nat} {P : Nat → Prop} (k : P v) : ∃ w : Nat, SD.d (nI v) = .d (nI w) ∧ P w := ⟨v, rfl, k⟩
theorem s_own {v : MO} {P : MO → Prop} (k : P v) : ∃ w, SD.own v = .own w ∧ P w := ⟨v, rfl, k⟩
theorem s_oneN {v : Nat} {P : Nat → Prop} (k : P v) : ∃ w : Nat, [SD.d (nI v)] = [.d (nI w)] ∧ P w := ⟨v, rfl, k⟩
theorem s_one {v : SD} {P : SD → Prop} (k : P v) : ∃ w, [v] = [w] ∧ P w := ⟨v, rfl, k⟩
theorem s_insK {n : Nat} {v : Dat} {P : Nat → Dat → Prop} (k : P n v) : ∃ (m : Nat) (w : Dat), [SD.d (nI n), .d v] = [.d (.int (m : Int)), .d w] ∧ P m w := ⟨n, v, rfl, k⟩
theorem s_three {a b c : SD} {P : SD → SD → SD → Prop} (k : P a b c) : ∃ x y z, [a, b, c] = [x, y, z] ∧ P x y z := ⟨a, b, c, rfl, k⟩
theorem s_ins {n : Nat} {ns : List Str} {l : List Dat} {P : List Str → List Dat → Prop} (k : P ns l) : ∃ x y, SD.d (.ins n ns l) = .d (.ins n x y) ∧ P x y := ⟨ns, l, rfl, k⟩
theorem s_io {m : MO} {r : List SD} {P : MO → List SD → Prop} (k : P m r) : ∃ m' rest, (SD.io m :: r) = .io m' :: rest ∧ P m' rest := ⟨m, r, rfl, k⟩
theorem s_mk {n : Nat} {fs : List (Str × Dat)} {r : List SD} {P : List (Str × Dat) → List SD → Prop} (k : P fs r) : ∃ fs' rest, SD.d .non = .d .non ∧ (SD.io (.obj n fs) :: r) = .io (.obj n fs') :: rest ∧ P fs' rest := ⟨fs, r, rfl, rfl, k⟩
theorem s_zipL {a b : List Dat} {P : List Dat → List Dat → Prop} (k : P a b) : ∃ x y, [SD.d (.lst a), .d (.lst b)] = [.d (.lst x), .d (.lst y)] ∧ P x y := ⟨a, b, rfl, k⟩
theorem s_zipT {a b : List Dat} {P : List Dat → List Dat → Prop} (k : P a b) : ∃ x y, [SD.d (.tup a), .d (.tup b)] = [.d (.tup x), .d (.tup y)] ∧ P x y := ⟨a, b, rfl, k⟩
theorem s_isNo {s : SD} {A : Prop} (e : isNo s = false) (k : A) : isNo s = false ∧ A := ⟨e, k⟩
theorem s_blt {a b : Nat} {A : Prop} (e : Nat.blt a b = true) (k : A) : Nat.blt a b = true ∧ A := ⟨e, k⟩
theorem s_blt3 {a b c d e f : Nat} {A : Prop} (h : (Nat.blt a b && (Nat.blt c d && Nat.blt e f)) = true) (k : A) : (Nat.blt a b && (Nat.blt c d && Nat.blt e f)) = true ∧ A := ⟨h, k⟩
theorem s_plain {vs : List Nat} {A : Prop} (e : plainAt ρ vs = true) (k : A) : plainAt ρ vs = true ∧ A := ⟨e, k⟩
theorem s_con {ns : List Str} {m : Str} {A : Prop} (e : ns.contains m = false) (k : A) : ns.contains m = false ∧ A := ⟨e, k⟩
theorem s_dats {as : List SD} {ds : List Dat} {P : List Dat → Prop} (e : dats as = some ds) (hl : Nat.ble ds.length 1000 = true) (k : P ds) : ∃ ds, dats as = some ds ∧ ds.length ≤ 1000 ∧ P ds := ⟨ds, e, by simpa using hl, k⟩
theorem s_moLN {s : SD} {xs : List Nat} {j : Nat} {P : List Nat → Prop} (e : moL s = some (xs.map nI)) (hl : j < xs.length) (k : P xs) : ∃ xs : List Nat, moL s = some (xs.map nI) ∧ j < xs.length ∧ P xs := ⟨xs, e, hl, k⟩
theorem s_moL {s : SD} {xs : List Dat} {A : List Dat → Prop} {P : List Dat → Prop} (e : moL s = some xs) (hl : A xs) (k : P xs) : ∃ xs, moL s = some xs ∧ A xs ∧ P xs := ⟨xs, e, hl, k⟩
theorem s_moD {s : SD} {xs : List (Key × Dat)} {P : List (Key × Dat) → Prop} (e : moD s = some xs) (k : P xs) : ∃ xs, moD s = some xs ∧ P xs := ⟨xs, e, k⟩
theorem s_moDl {s : SD} {xs : List (Key × Dat)} {P : List (Key × Dat) → Prop} (e : moD s = some xs) (hl : xs.length < 1000) (k : P xs) : ∃ xs, moD s = some xs ∧ xs.length < 1000 ∧ P xs := ⟨xs, e, hl, k⟩
theorem s_moO {s : SD} {n : Nat} {xs : List (Str × Dat)} {P : List (Str × Dat) → Prop} (e : moO s = some (n, xs)) (hl : Nat.blt xs.length 900 = true) (k : P xs) : ∃ xs, moO s = some (n, xs) ∧ xs.length < 900 ∧ P xs := ⟨xs, e, by simpa using hl, k⟩
theorem s_lst {s : SD} {xs : List Dat} {P : List Dat → Prop} (e : s.lst = some xs) (k : P xs) : ∃ xs, s.lst = some xs ∧ P xs := ⟨xs, e, k⟩
theorem s_lt {a b : Nat} {A : Prop} (e : a < b) (k : A) : a < b ∧ A := ⟨e, k⟩
theorem s_le {a b : Nat} {A : Prop} (e : a ≤ b) (k : A) : a ≤ b ∧ A := ⟨e, k⟩
theorem it_l {xs : List Dat} {QO : List Dat → Prop} (k : QO xs) : Wo (itemsD (.d (.lst xs))) QO := ⟨_, rfl, k⟩
theorem it_t {xs : List Dat} {QO : List Dat → Prop} (k : QO xs) : Wo (itemsD (.d (.tup xs))) QO := ⟨_, rfl, k⟩
theorem e_lookup {ns : List Str} {ds : List Dat} {m : Str} {v : Dat} {QO : Dat → Prop} (e : (ns.zip ds).lookup m = some v) (k : QO v) : Wo ((ns.zip ds).lookup m) QO := ⟨_, e, k⟩
theorem idx_nat {l : List Nat} {c : Nat} (h : c ∈ l) : (l.map fun x : Nat => (x : Int)).findIdx? (· == (c : Int)) = some (l.idxOf c) := by
  induction l with
  | nil => cases h
  | cons a r ih =>
    rw [List.map_cons, List.findIdx?_cons, List.idxOf_cons]
    by_cases e : a = c
    · subst e; simp
    · have h1 : ((a : Int) == (c : Int)) = false := beq_eq_false_iff_ne.mpr (by omega)
      have h2 : (a == c) = false := beq_eq_false_iff_ne.mpr e
      rw [h1, h2]
      have hr : c ∈ r := by
        rcases List.mem_cons.mp h with z | z
        · exact absurd z.symm e
        · exact z
      rw [if_neg (by simp), ih hr]
      simp
theorem e_index {s : SD} {l : List Nat} {c : Nat} {QO : SD → Prop} (e : s.lst = some (l.map nI)) (h : c ∈ l) (k : QO (.d (nI (l.idxOf c)))) : Wo (gIndex s (nI c)) QO := by
  refine ⟨_, ?_, k⟩
  unfold gIndex
  show s.lst.bind _ = _
  rw [e]
  show (intsD (l.map nI)).bind _ = _
  have e2 : l.map nI = (l.map fun x : Nat => (x : Int)).map Dat.int := by rw [List.map_map]; rfl
  rw [e2, map_ints]
  show ((l.map fun x : Nat => (x : Int)).findIdx? (· == (c : Int))).map _ = _
  rw [idx_nat h]; rfl
end
end DP

set_option Elab.async false
set_option linter.all false
set_option maxRecDepth 100000
set_option maxHeartbeats 4000000
namespace DP
open PySem PySem.Spec PyProof.Rows L2 WM
theorem inj_nat (a b : List Nat) : (a.map (fun x : Nat => (x : Int)) == b.map (fun x : Nat => (x : Int))) = decide (a = b) := by
  by_cases h : a = b
  · subst h; simp
  · have : a.map (fun x : Nat => (x : Int)) ≠ b.map (fun x : Nat => (x : Int)) := fun e => h (List.map_inj_right (fun x y z => by omega) |>.mp e)
    simp [h, this]
theorem e_eqT (l l' : List Nat) : gEq false (.d (.tup (l.map nI))) (.d (.tup (l'.map nI))) = some (.d (.bl (decide (l = l')))) := K62.g_eqTN
theorem e_neT (l l' : List Nat) : gEq true (.d (.tup (l.map nI))) (.d (.tup (l'.map nI))) = some (.d (.bl (!decide (l = l')))) := K62.g_eqTN
theorem e_eqT0 (l : List Nat) : gEq false (.d (.tup (l.map nI))) (.d (.tup [])) = some (.d (.bl (decide (l = [])))) := e_eqT l []
theorem e_eqLs {neg : Bool} {s s' : SD} {l l' : List Nat} (e : s.dat = some (.lst (l.map nI))) (e' : s'.dat = some (.lst (l'.map nI))) : gEq neg s s' = some (.d (.bl (if neg then !decide (l = l') else decide (l = l')))) := by
  rw [← inj_nat]
  exact K62.g_eqL (e.trans (by rw [K62.mapN])) (e'.trans (by rw [K62.mapN]))
theorem e_eqL0 (l : List Nat) : gEq false (.d (.lst (l.map nI))) (.own (.lst [])) = some (.d (.bl (decide (l = [])))) := e_eqLs (l' := []) rfl rfl
theorem e_eqLL (l l' : List Nat) : gEq false (.d (.lst (l.map nI))) (.d (.lst (l'.map nI))) = some (.d (.bl (decide (l = l')))) := e_eqLs rfl rfl
theorem e_neLL (l l' : List Nat) : gEq true (.d (.lst (l.map nI))) (.d (.lst (l'.map nI))) = some (.d (.bl (!decide (l = l')))) := e_eqLs rfl rfl
theorem e_intB (p : Prop) [Decidable p] : gInt [.d (.bl (decide p))] = some (.d (nI (if p then 1 else 0))) := by
  by_cases h : p
  · rw [if_pos h, decide_eq_true h]; rfl
  · rw [if_neg h, decide_eq_false h]; rfl
/-! ### kinds -/
section
variable {QO : SD → Prop} {QB : Bool → Prop}
theorem wo_isNT {neg : Bool} {x : Dat} (e : gIsN neg (.d x) (.d .non) = some (.d (.bl true))) (k : QO (.d (.bl true))) : Wo (gIsN neg (.d x) (.d .non)) QO := ⟨_, e, k⟩
theorem wo_isNF {neg : Bool} {x : Dat} (e : gIsN neg (.d x) (.d .non) = some (.d (.bl false))) (k : QO (.d (.bl false))) : Wo (gIsN neg (.d x) (.d .non)) QO := ⟨_, e, k⟩
theorem wo_isBT {neg : Bool} {x : Dat} {b : Bool} (e : gIsB neg (.d x) (.d (.bl b)) = some (.d (.bl true))) (k : QO (.d (.bl true))) : Wo (gIsB neg (.d x) (.d (.bl b))) QO := ⟨_, e, k⟩
theorem wo_isBF {neg : Bool} {x : Dat} {b : Bool} (e : gIsB neg (.d x) (.d (.bl b)) = some (.d (.bl false))) (k : QO (.d (.bl false))) : Wo (gIsB neg (.d x) (.d (.bl b))) QO := ⟨_, e, k⟩
theorem wo_isBb {x b : Bool} (k : QO (.d (.bl (x == b)))) : Wo (gIsB false (.d (.bl x)) (.d (.bl b))) QO := ⟨.d (.bl (x == b)), by cases x <;> cases b <;> rfl, k⟩
theorem wo_isiT {T : String} {x : Dat} (e : isiB T x = some true) (k : QB true) : Wo (isiB T x) QB := ⟨_, e, k⟩
theorem wo_isiF {T : String} {x : Dat} (e : isiB T x = some false) (k : QB false) : Wo (isiB T x) QB := ⟨_, e, k⟩
theorem wo_iscT {c : Nat} {x : Dat} (e : isiC c x = some true) (k : QB true) : Wo (isiC c x) QB := ⟨_, e, k⟩
theorem wo_iscF {c : Nat} {x : Dat} (e : isiC c x = some false) (k : QB false) : Wo (isiC c x) QB := ⟨_, e, k⟩
end
/-! ### min of tuples -/
abbrev toI (l : List Nat) : List Int := l.map fun x : Nat => (x : Int)
abbrev ltL (a b : List Nat) : Bool := PySem.W.listLt (toI a) (toI b)
theorem lt_irr : ∀ a : List Int, PySem.W.listLt a a = false
  | [] => rfl
  | x :: r => by rw [PySem.W.listLt, if_pos rfl, lt_irr r]
theorem lt_tri : ∀ a b : List Int, PySem.W.listLt a b = false → PySem.W.listLt b a = false → a = b
  | [], [], _, _ => rfl
  | [], _ :: _, h, _ => by cases h
  | _ :: _, [], _, h => by cases h
  | x :: r, y :: s, h1, h2 => by
    rw [PySem.W.listLt] at h1 h2
    by_cases e : x = y
    · subst e
      rw [if_pos rfl] at h1 h2
      rw [lt_tri r s h1 h2]
    · rw [if_neg e] at h1
      rw [if_neg (fun z => e z.symm)] at h2
      have a1 : ¬ x < y := of_decide_eq_false h1
      have a2 : ¬ y < x := of_decide_eq_false h2
      omega
theorem lt_tr : ∀ a b c : List Int, PySem.W.listLt a b = true → PySem.W.listLt b c = true → PySem.W.listLt a c = true
  | [], [], _, h, _ => by cases h
  | [], _ :: _, [], _, h => by cases h
  | [], _ :: _, _ :: _, _, _ => rfl
  | _ :: _, [], _, h, _ => by cases h
  | _ :: _, _ :: _, [], _, h => by cases h
  | x :: r, y :: s, z :: t, h1, h2 => by
    rw [PySem.W.listLt] at h1 h2 ⊢
    by_cases e : x = y
    · subst e
      rw [if_pos rfl] at h1
      by_cases e2 : x = z
      · subst e2
        rw [if_pos rfl] at h2 ⊢
        exact lt_tr r s t h1 h2
      · rw [if_neg e2] at h2 ⊢
        exact h2
    · rw [if_neg e] at h1
      have a1 : x < y := of_decide_eq_true h1
      by_cases e2 : y = z
      · subst e2
        rw [if_neg e]
        exact h1
      · rw [if_neg e2] at h2
        have a2 : y < z := of_decide_eq_true h2
        rw [if_neg (by omega)]
        exact decide_eq_true (show x < z by omega)
def minN (l : List Nat) (ls : List (List Nat)) : List Nat := ls.foldl (fun a y => if ltL y a = true then y else a) l
theorem minN_minT : ∀ (ls : List (List Nat)) (l : List Nat), minT (toI l) (ls.map toI) = toI (minN l ls)
  | [], _ => rfl
  | y :: ys, l => by
    show minT (if PySem.W.listLt (toI y) (toI l) = true then toI y else toI l) (ys.map toI) = toI (minN (if ltL y l = true then y else l) ys)
    by_cases h : PySem.W.listLt (toI y) (toI l) = true
    · rw [if_pos h, if_pos h]; exact minN_minT ys y
    · rw [if_neg h, if_neg h]; exact minN_minT ys l
theorem minN_mem : ∀ (ls : List (List Nat)) (l : List Nat), minN l ls ∈ l :: ls
  | [], _ => List.mem_cons_self ..
  | y :: ys, l => by
    show minN (if ltL y l = true then y else l) ys ∈ _
    by_cases h : ltL y l = true
    · rw [if_pos h]; exact List.mem_cons_of_mem _ (minN_mem ys y)
    · rw [if_neg h]
      rcases List.mem_cons.mp (minN_mem ys l) with e | e
      · rw [e]; exact List.mem_cons_self ..
      · exact List.mem_cons_of_mem _ (List.mem_cons_of_mem _ e)
theorem minN_le : ∀ (ls : List (List Nat)) (l : List Nat), ∀ y ∈ l :: ls, ltL y (minN l ls) = false
  | [], l, y, h => by
    rw [List.mem_singleton] at h
    subst h
    exact lt_irr _
  | z :: zs, l, y, h => by
    show ltL y (minN (if ltL z l = true then z else l) zs) = false
    have self : ∀ a, ltL a (minN a zs) = false := fun a => minN_le zs a a (List.mem_cons_self ..)
    by_cases hz : ltL z l = true
    · rw [if_pos hz]
      rcases List.mem_cons.mp h with e | e
      · subst e
        cases q : ltL y (minN z zs) with
        | false => rfl
        | true =>
          have := lt_tr _ _ _ hz q
          rw [show PySem.W.listLt (toI z) (toI (minN z zs)) = false from self z] at this
          cases this
      · exact minN_le zs z y e
    · rw [if_neg hz]
      rcases List.mem_cons.mp h with e | e
      · subst e; exact self y
      · rcases List.mem_cons.mp e with e | e
        · subst e
          cases q : ltL y (minN l zs) with
          | false => rfl
          | true =>
            have hn := minN_mem zs l
            -- y below the least, l not below it, y not below l
            cases q2 : ltL (minN l zs) l with
            | true => exact absurd (lt_tr _ _ _ q q2) hz
            | false =>
              have := lt_tri _ _ q2 (self l)
              rw [show ltL y (minN l zs) = PySem.W.listLt (toI y) (toI (minN l zs)) from rfl, this] at q
              exact absurd q hz
        · exact minN_le zs l y (List.mem_cons_of_mem _ e)
theorem toI_inj {a b : List Nat} (h : toI a = toI b) : a = b := List.map_inj_right (fun x y z => by omega) |>.mp h
/-- the least depends on what is there alone -/
theorem minN_set {l l' : List Nat} {ls ls' : List (List Nat)} (h : ∀ x, x ∈ l :: ls ↔ x ∈ l' :: ls') : minN l ls = minN l' ls' :=
  toI_inj (lt_tri _ _ (minN_le ls' l' _ ((h _).mp (minN_mem ls l))) (minN_le ls l _ ((h _).mpr (minN_mem ls' l'))))
def leastN : List (List Nat) → List Nat
  | [] => []
  | l :: ls => minN l ls
theorem leastN_mem {L : List (List Nat)} (h : L ≠ []) : leastN L ∈ L := by
  cases L with
  | nil => exact absurd rfl h
  | cons l ls => exact minN_mem ls l
theorem leastN_set {L L' : List (List Nat)} (h : ∀ x, x ∈ L ↔ x ∈ L') : leastN L = leastN L' := by
  cases L with
  | nil => cases L' with
    | nil => rfl
    | cons l ls => exact absurd ((h l).mpr (List.mem_cons_self ..)) (by simp)
  | cons l ls => cases L' with
    | nil => exact absurd ((h l).mp (List.mem_cons_self ..)) (by simp)
    | cons l' ls' => exact minN_set h
theorem tupsI_map : ∀ L : List (List Int), tupsI (L.map datT) = some L
  | [] => rfl
  | l :: ls => by
    show (intsD (l.map Dat.int)).bind _ = _
    rw [map_ints]
    show (tupsI (ls.map datT)).map _ = _
    rw [tupsI_map ls]; rfl
theorem e_minT {L : List (List Nat)} (h : L ≠ []) : gMinB [.d (.lst (L.map fun l => Dat.tup (l.map nI)))] = some (.d (.tup ((leastN L).map nI))) := by
  cases L with
  | nil => exact absurd rfl h
  | cons l ls =>
    have e : ((l :: ls).map fun l => Dat.tup (l.map nI)) = ((l :: ls).map toI).map datT := by
      rw [List.map_map]
      apply List.map_congr_left
      intro a _
      show Dat.tup (a.map nI) = Dat.tup ((toI a).map Dat.int)
      rw [K62.mapN]
    rw [e]
    show (match (none : Option SD) with | some d => some d | none => gMinT [.d (.lst (((l :: ls).map toI).map datT))]) = _
    show (tupsI (((l :: ls).map toI).map datT)).bind _ = _
    rw [tupsI_map]
    show some (SD.d (datT (minT (toI l) (ls.map toI)))) = _
    rw [minN_minT]
    show some (SD.d (Dat.tup ((toI (minN l ls)).map Dat.int))) = _
    rw [← K62.mapN]; rfl
end DP

set_option Elab.async false
set_option linter.all false
set_option maxRecDepth 100000
set_option maxHeartbeats 4000000
namespace K12
open PySem PySem.Spec PyProof.Rows L2 DP WM
open K62 (Tn tupN lstN)
local macro_rules | `(tactic| k_ownIn) => `(tactic| focus first | assumption | omega | (simp; done) | (simp; omega) | (simp_all; done))
local macro_rules | `(tactic| k_allIn) => `(tactic| try simp only [List.set_cons_succ, List.set_cons_zero, SD.re, List.length_map, List.length_replicate, List.length_range, List.length_cons, List.length_nil, Nat.zero_add, Nat.reduceAdd])
local macro_rules | `(tactic| k_memK) => `(tactic| first
  | ((with_reducible refine (?_ : Wp (dSeq _ _ _) _)); first
    | with_reducible refine w_seqA ?_
    | with_reducible refine w_seqN ?_
    | with_reducible refine w_asg ?_
    | with_reducible refine w_drop ?_
    | with_reducible refine w_ret ?_
    | ((with_reducible apply w_retV); exact rfl; exact rfl)
    | with_reducible refine w_retN ?_
    | with_reducible refine w_brk ?_
    | with_reducible refine w_cont ?_
    | with_reducible refine w_ifS ?_
    | with_reducible refine w_for ?_
    | with_reducible refine w_whileS ?_
    | ((with_reducible apply w_aug); exact rfl)
    | with_reducible refine w_par ?_
    | with_reducible refine w_par3 ?_
    | ((with_reducible apply w_app); exact rfl; exact rfl)
    | ((with_reducible apply w_ext); exact rfl; exact rfl)
    | ((with_reducible apply w_ins); exact rfl; exact rfl)
    | with_reducible refine w_fldSet ?_)
  | ((with_reducible refine (?_ : Wo _ _)); first
    | with_reducible refine z_d ?_
    | with_reducible refine z_l ?_
    | with_reducible refine z_s ?_
    | with_reducible refine z_i ?_
    | ((with_reducible apply wo_get); exact rfl)
    | with_reducible refine r_ret ?_
    | with_reducible refine r_nx ?_
    | with_reducible refine k_nil ?_
    | with_reducible refine k_d ?_
    | with_reducible refine k_s ?_
    | with_reducible refine k_io ?_
    | with_reducible refine mo_io ?_
    | with_reducible refine mo_own ?_
    | ((with_reducible apply g_name); exact rfl; exact rfl; k_allIn)
    | ((with_reducible apply g_tup); exact rfl; (try simp only [List.map_cons, List.map_nil]))
    | with_reducible refine g_cons ?_
    | with_reducible refine g_names ?_
    | with_reducible refine g_names0 ?_
    | with_reducible refine wo_of (e_zipL _ _) ?_
    | with_reducible refine wo_of (e_zipT _ _) ?_
    | with_reducible refine g_nil ?_
    | ((with_reducible apply g_subLNk); exact rfl; exact rfl)
    | ((with_reducible apply g_subLk); exact rfl; exact rfl)
    | ((with_reducible apply g_subDk); exact rfl; exact rfl)
    | with_reducible refine wo_of (e_addN _ _) ?_
    | with_reducible refine wo_of (e_addI _ _) ?_
    | with_reducible refine wo_of (e_subN (by omega)) ?_
    | with_reducible refine wo_of (e_subI _ _) ?_
    | with_reducible refine wo_of (e_mulN (by omega)) ?_
    | with_reducible refine wo_of (e_modN (by omega)) ?_
    | with_reducible refine wo_of (e_modI (by omega)) ?_
    | with_reducible refine wo_of (e_fdivN (by omega)) ?_
    | with_reducible refine wo_of (e_fdivI (by omega)) ?_
    | with_reducible refine wo_of (e_xor1 _) ?_
    | with_reducible refine wo_of e_neg1 ?_
    | with_reducible refine wo_of (e_negI _) ?_
    | with_reducible refine wo_of (e_ltN _ _) ?_
    | with_reducible refine wo_of (e_leN _ _) ?_
    | with_reducible refine wo_of (e_gtN _ _) ?_
    | with_reducible refine wo_of (e_geN _ _) ?_
    | with_reducible refine wo_of (e_ltI _ _) ?_
    | with_reducible refine wo_of (e_leI _ _) ?_
    | with_reducible refine wo_of (e_gtI _ _) ?_
    | with_reducible refine wo_of (e_geI _ _) ?_
    | with_reducible refine wo_of (e_eqN _ _) ?_
    | with_reducible refine wo_of (e_eqT0 _) ?_
    | with_reducible refine wo_of (e_eqT _ _) ?_
    | with_reducible refine wo_of (e_neT _ _) ?_
    | with_reducible refine wo_of (e_eqL0 _) ?_
    | with_reducible refine wo_of (e_eqLL _ _) ?_
    | with_reducible refine wo_of (e_neLL _ _) ?_
    | with_reducible refine wo_of (e_intB _) ?_
    | with_reducible refine wo_of (e_neN _ _) ?_
    | with_reducible refine wo_of (e_eqI _ _) ?_
    | with_reducible refine wo_of (e_neI _ _) ?_
    | with_reducible refine wo_of (e_ixL (by k_ownIn)) ?_
    | with_reducible refine wo_of (e_ixT (by k_ownIn)) ?_
    | with_reducible refine wo_of (e_ixO (by k_ownIn)) ?_
    | with_reducible refine wo_of (e_ixM (by k_ownIn)) ?_
    | with_reducible refine wo_of (e_catN2 (by k_ownIn)) ?_
    | with_reducible refine wo_of (e_catDD (by k_ownIn)) ?_
    | with_reducible refine wo_of (e_catDO (by k_ownIn)) ?_
    | with_reducible refine wo_of (e_catOD (by k_ownIn)) ?_
    | with_reducible refine wo_of (e_catOO (by k_ownIn)) ?_
    | with_reducible refine wo_of (e_repN (by k_ownIn)) ?_
    | with_reducible refine wo_of (e_repO (by k_ownIn)) ?_
    | with_reducible refine wo_of (e_max2 _ _) ?_
    | with_reducible refine wo_of (e_min2 _ _) ?_
    | with_reducible refine wo_of e_all ?_
    | with_reducible refine wo_of e_any ?_
    | with_reducible refine wo_of e_sum ?_
    | ((with_reducible refine wo_of (e_lenL _) ?_); k_allIn)
    | ((with_reducible refine wo_of (e_lenO _) ?_); k_allIn)
    | ((with_reducible refine wo_of (e_lenT _) ?_); k_allIn)
    | ((with_reducible refine wo_of (e_lenS _) ?_); k_allIn)
    | ((with_reducible refine wo_of (e_glenL _) ?_); k_allIn)
    | ((with_reducible refine wo_of (e_glenT _) ?_); k_allIn)
    | with_reducible refine wo_of (e_int _) ?_
    | with_reducible refine wo_of (e_tupL _) ?_
    | with_reducible refine wo_of (e_tupT _) ?_
    | with_reducible refine wo_of (e_listL _) ?_
    | with_reducible refine wo_of (e_listT _) ?_
    | with_reducible refine wo_of (e_truB _) ?_
    | with_reducible refine wo_of (e_truI _) ?_
    | with_reducible refine wo_of (e_truT _) ?_
    | with_reducible refine wo_of (e_truL _) ?_
    | with_reducible refine wo_of (e_keyI _) ?_
    | with_reducible refine it_l ?_
    | ((with_reducible apply wo_isNT); exact rfl)
    | ((with_reducible apply wo_isNF); exact rfl)
    | ((with_reducible apply wo_isBT); exact rfl)
    | ((with_reducible apply wo_isBF); exact rfl)
    | ((with_reducible apply wo_isiT); exact rfl)
    | ((with_reducible apply wo_isiF); exact rfl)
    | ((with_reducible apply wo_iscT); exact rfl)
    | ((with_reducible apply wo_iscF); exact rfl)
    | with_reducible refine it_t ?_
    | ((with_reducible apply e_lookup); exact rfl)
    | ((with_reducible apply e_index); exact rfl; k_ownIn))
  | ((with_reducible refine (?_ : Wp _ _)); first
    | with_reducible refine w_next ?_
    | with_reducible refine w_cN ?_
    | with_reducible refine w_c ?_
    | ((with_reducible apply w_varD); exact rfl)
    | ((with_reducible apply w_varL); exact rfl; k_allIn)
    | ((with_reducible apply w_varS); exact rfl)
    | ((with_reducible apply w_varI); exact rfl; k_allIn)
    | with_reducible refine w_un ?_
    | with_reducible refine w_fz ?_
    | with_reducible refine w_bin ?_
    | with_reducible refine w_nil ?_
    | with_reducible refine w_cons ?_
    | with_reducible refine w_cb ?_
    | with_reducible refine w_tup ?_
    | with_reducible refine w_lst ?_
    | ((with_reducible apply w_varB); exact rfl; exact rfl)
    | with_reducible refine w_binB ?_
    | ((with_reducible apply w_lenB); exact rfl; exact rfl)
    | with_reducible refine w_notT ?_
    | with_reducible refine w_andT ?_
    | with_reducible refine w_orT ?_
    | with_reducible refine w_testB ?_
    | with_reducible refine w_tru ?_
    | with_reducible refine w_yes ?_
    | with_reducible refine w_andV ?_
    | with_reducible refine w_orV ?_
    | with_reducible refine w_notV ?_
    | with_reducible refine w_ifE ?_
    | with_reducible refine w_call ?_
    | with_reducible refine w_callRev ?_
    | ((with_reducible apply w_callIO); exact rfl; exact rfl)
    | with_reducible refine w_callF ?_
    | with_reducible refine w_meth ?_
    | with_reducible refine w_prop ?_
    | with_reducible refine w_fld ?_
    | with_reducible refine w_make ?_
    | with_reducible refine w_isi ?_
    | with_reducible refine w_noPart ?_
    | with_reducible refine w_part ?_
    | with_reducible refine w_sl ?_
    | with_reducible refine w_revL ?_
    | ((with_reducible apply w_index); exact rfl; exact rfl)
    | with_reducible refine w_dnew ?_
    | with_reducible refine w_disp2 ?_
    | with_reducible refine w_setNew ?_
    | ((with_reducible apply w_getB); exact rfl; exact rfl)
    | with_reducible refine w_inD ?_
    | with_reducible refine w_iseq ?_
    | with_reducible refine w_irng ?_
    | with_reducible refine w_lrgN ?_
    | with_reducible refine w_ienum ?_
    | with_reducible refine w_izip ?_
    | with_reducible refine w_lc ?_)
  | with_reducible refine br_T ?_
  | with_reducible refine br_F ?_
  | with_reducible refine br_nT ?_
  | with_reducible refine br_nF ?_
  | with_reducible refine br_dec ?_
  | with_reducible refine br_and ?_
  | with_reducible refine br_or ?_
  | with_reducible refine s_rfl ?_
  | with_reducible refine br_ndec ?_
  | with_reducible apply s_bl
  | with_reducible apply s_nat
  | with_reducible apply s_int
  | with_reducible apply s_ins
  | with_reducible apply s_d
  | with_reducible apply s_own
  | with_reducible apply s_oneN
  | ((with_reducible apply s_rngN); k_ownIn)
  | ((with_reducible apply s_rngI); k_ownIn)
  | with_reducible apply s_one
  | with_reducible apply s_insK
  | with_reducible apply s_three
  | (with_reducible apply s_mk; k_allIn)
  | (with_reducible apply s_io; k_allIn)
  | with_reducible apply s_zipL
  | with_reducible apply s_zipT
  | ((with_reducible apply s_isNo); exact rfl)
  | ((with_reducible apply s_blt); exact rfl; k_allIn)
  | ((with_reducible apply s_blt3); exact rfl; k_allIn)
  | ((with_reducible apply s_plain); exact rfl; (try simp only [wipeD, restD, List.set_cons_succ, List.set_cons_zero, List.getElem?_cons_zero, List.getElem?_cons_succ, Option.getD_some]))
  | ((with_reducible apply s_con); decide +kernel)
  | ((with_reducible apply s_dats); exact rfl; exact rfl)
  | ((with_reducible apply s_moLN); exact rfl; k_ownIn; k_allIn)
  | ((with_reducible apply s_moL); exact rfl; k_ownIn; k_allIn)
  | ((with_reducible apply s_moDl); exact rfl; k_ownIn; k_allIn)
  | ((with_reducible apply s_moD); exact rfl)
  | ((with_reducible apply s_moO); exact rfl; exact rfl; k_allIn)
  | ((with_reducible apply s_lst); exact rfl)
  | ((with_reducible apply s_lt); k_ownIn; k_allIn)
  | ((with_reducible apply s_le); k_ownIn))
local macro_rules | `(tactic| k_places) => `(tactic| repeat k_memK)
local macro_rules | `(tactic| k_clsL) => `(tactic| repeat first | with_reducible refine w_andP ?_ | with_reducible refine w_orP ?_ | k_memK)
theorem v_hung {t : List Nat} {c : Nat} (hl : t.length < 100) (hc : c < t.length ∨ t.length = 0) : Wp (Φ__law_hung [.d (lstN t), .d (nI c)]) fun r as' => r = .own (.lst ((hungL t c).map nI)) ∧ as' = [.d (lstN t), .d (nI c)] := by
  unfold Φ__law_hung F__law_hung
  refine w_runF rfl ?_
  simp only [List.replicate, List.cons_append, List.nil_append, Nat.reduceSub]
  k_places
  refine ⟨fun h => ?_, fun h => ?_⟩
  · k_places
    unfold hungL
    rw [if_pos h]
    exact ⟨rfl, rfl⟩
  · k_places
    unfold hungL
    rw [if_neg h]
    exact ⟨rfl, rfl⟩
theorem v_stretched {t : List Nat} {tie : Nat} (hl : t.length < 100) (hc : 2 * tie + 1 < t.length) (hm : 2 * tie + 1 ∈ t) : Wp (Φ__law_stretched [.d (lstN t), .d (nI tie)]) fun r as' => r = .own (.lst ((stretL t tie).map nI)) ∧ as' = [.d (lstN t), .d (nI tie)] := by
  unfold Φ__law_stretched F__law_stretched
  refine w_runF rfl ?_
  simp only [List.replicate, List.cons_append, List.nil_append, Nat.reduceSub]
  k_places
  refine ⟨fun h => ?_, fun h => ?_⟩
  · k_places
    refine ⟨?_, rfl⟩
    simp only [stretL, if_pos h]
  · have hi := List.idxOf_lt_length_iff.mpr hm
    k_places
    refine ⟨?_, rfl⟩
    simp only [stretL, if_neg h]
theorem v_laid {t : List Nat} {n c k : Nat} (W : Wd n t) (hn : n ≤ 14) (hk : k < 100) (hc : c < 2 * n ∨ n = 0) : Wp (Φ__law_laid [.d (lstN t), .d (nI c), .d (nI k)]) fun r as' => r = .own (.lst ((layL t c (itr (fun x => fl (tf t x)) k c)).map nI)) ∧ as' = [.d (lstN t), .d (nI c), .d (nI k)] := by
  have hl := W.len
  unfold Φ__law_laid F__law_laid
  refine w_runF rfl ?_
  simp only [List.replicate, List.cons_append, List.nil_append, Nat.reduceSub]
  k_places
  refine ⟨fun h0 => ?_, fun h0 => ?_⟩
  · k_places
    unfold layL
    rw [if_pos h0]
    exact ⟨rfl, rfl⟩
  · k_places
    have hc : c < 2 * n := by omega
    obtain ⟨V, Wt⟩ := W.web.resolve_left (by omega)
    have P := Wt.pm
    have lt : ∀ j, itr (fun x => fl (tf t x)) j c < 2 * n := fun j => by
      induction j with
      | zero => exact hc
      | succ j ih => exact fl_lt (P.lt _ ih)
    refine w_loop (fun i ρ => ∃ s5, ρ = [.d (lstN t), .d (nI c), .d (nI k), .d (nI t.length), .d (nI (itr (fun x => fl (tf t x)) i c)), s5, .no]) ⟨_, rfl⟩ ?_ ?_
    · rintro i v ρ hv ⟨s5, rfl⟩
      obtain ⟨hi, rfl⟩ := range_it hv
      have := lt i
      k_places
      exact ⟨.d (nI i), rfl⟩
    · rintro ρ ⟨s5, rfl⟩
      have := lt k
      simp only [List.length_map, List.length_range]
      show Wp _ _
      k_places
      refine ⟨fun z => ?_, fun z => ?_⟩
      · k_places
        refine ⟨?_, rfl⟩
        simp only [layL, if_neg h0, if_pos z]
      · k_places
        refine ⟨?_, rfl⟩
        simp only [layL, if_neg h0, if_neg z]
/-! ### draws -/
def PotOk (p0 p1 : Int) : Prop := 0 ≤ p0 ∧ 0 ≤ p1 ∧ p1 < 2147483648
abbrev pot (p0 p1 : Int) : SD := .io (.lst [.int p0, .int p1])
theorem nat_of {i : Int} (h : 0 ≤ i) : ∃ d : Nat, i = (d : Int) := ⟨i.toNat, by omega⟩
theorem w_draw {p0 p1 : Int} (hp : PotOk p0 p1) {size : Nat} (h1 : 1 ≤ size) (h2 : size < 1073741824) {Q : SD → List SD → Prop} (k : ∀ (d : Nat) (q0 q1 : Int), d < size → PotOk q0 q1 → Q (.d (nI d)) [pot q0 q1, .d (nI size)]) : Wp (Φ__law_draw [pot p0 p1, .d (nI size)]) Q := by
  obtain ⟨a0, a1, a2⟩ := hp
  unfold Φ__law_draw F__law_draw
  refine w_runF rfl ?_
  simp only [List.replicate, List.cons_append, List.nil_append, Nat.reduceSub]
  k_places
  refine wo_of (show gIx (pot p0 p1) (.d (nI 0)) = some (.d (.int p0)) from rfl) ?_
  k_places
  refine ⟨fun h => ?_, fun h => ?_⟩
  · k_places
    refine wo_of (show gIx (pot p0 p1) (.d (nI 0)) = some (.d (.int p0)) from rfl) ?_
    k_places
    obtain ⟨d, hd⟩ := nat_of (Int.emod_nonneg p0 (show (size : Int) ≠ 0 by omega))
    have hlt := Int.emod_lt_of_pos p0 (show (0 : Int) < size by omega)
    refine wo_of (show gDivmod [.d (.int p0), .d (nI size)] = some (.d (.tup [.int (p0 / size), nI d])) from ?_) ?_
    · show (if 0 < (size : Int) ∧ (size : Int) < 1073741824 then some (SD.d (.tup [.int (p0 / size), .int (p0 % size)])) else none) = _
      rw [if_pos ⟨by omega, by omega⟩, hd]
    k_places
    exact k d (p0 / size) p1 (by omega) ⟨Int.ediv_nonneg a0 (by omega), a1, a2⟩
  · k_places
    refine wo_of (show gIx (pot p0 p1) (.d (nI 1)) = some (.d (.int p1)) from rfl) ?_
    k_places
    refine wo_of (e_mulI (by unfold small62; simp; omega)) ?_
    k_places
    obtain ⟨x, hx⟩ := nat_of (Int.emod_nonneg (p1 * ((40692 : Nat) : Int) + ((3331 : Nat) : Int)) (show (((2147483587 : Nat) : Int)) ≠ 0 by omega))
    have xl := Int.emod_lt_of_pos (p1 * ((40692 : Nat) : Int) + ((3331 : Nat) : Int)) (show (0 : Int) < ((2147483587 : Nat) : Int) by omega)
    rw [hx] at xl ⊢
    refine wo_of (show gIx (pot p0 (x : Int)) (.d (nI 1)) = some (.d (nI x)) from rfl) ?_
    k_places
    refine wo_of (show gIx (pot p0 (x : Int)) (.d (nI 1)) = some (.d (nI x)) from rfl) ?_
    k_places
    have hd : x * x % 2147483563 / 29 % size < size := Nat.mod_lt _ (by omega)
    exact k _ p0 (x : Int) hd ⟨a0, by omega, by omega⟩
end K12

set_option Elab.async false
set_option linter.all false
set_option maxRecDepth 100000
set_option maxHeartbeats 4000000
namespace K12
open PySem PySem.Spec PyProof.Rows L2 DP WM
open K62 (Tn tupN lstN)
local macro_rules | `(tactic| k_ownIn) => `(tactic| focus first | assumption | omega | (simp; done) | (simp; omega) | (simp_all; done))
local macro_rules | `(tactic| k_allIn) => `(tactic| try simp only [List.set_cons_succ, List.set_cons_zero, SD.re, List.length_map, List.length_replicate, List.length_range, List.length_cons, List.length_nil, Nat.zero_add, Nat.reduceAdd])
local macro_rules | `(tactic| k_memK) => `(tactic| first
  | ((with_reducible refine (?_ : Wp (dSeq _ _ _) _)); first
    | with_reducible refine w_seqA ?_
    | with_reducible refine w_seqN ?_
    | with_reducible refine w_asg ?_
    | with_reducible refine w_drop ?_
    | with_reducible refine w_ret ?_
    | ((with_reducible apply w_retV); exact rfl; exact rfl)
    | with_reducible refine w_retN ?_
    | with_reducible refine w_brk ?_
    | with_reducible refine w_cont ?_
    | with_reducible refine w_ifS ?_
    | with_reducible refine w_for ?_
    | with_reducible refine w_whileS ?_
    | ((with_reducible apply w_aug); exact rfl)
    | with_reducible refine w_par ?_
    | with_reducible refine w_par3 ?_
    | ((with_reducible apply w_app); exact rfl; exact rfl)
    | ((with_reducible apply w_ext); exact rfl; exact rfl)
    | ((with_reducible apply w_ins); exact rfl; exact rfl)
    | with_reducible refine w_fldSet ?_)
  | ((with_reducible refine (?_ : Wo _ _)); first
    | with_reducible refine z_d ?_
    | with_reducible refine z_l ?_
    | with_reducible refine z_s ?_
    | with_reducible refine z_i ?_
    | ((with_reducible apply wo_get); exact rfl)
    | with_reducible refine r_ret ?_
    | with_reducible refine r_nx ?_
    | with_reducible refine k_nil ?_
    | with_reducible refine k_d ?_
    | with_reducible refine k_s ?_
    | with_reducible refine k_io ?_
    | with_reducible refine mo_io ?_
    | with_reducible refine mo_own ?_
    | ((with_reducible apply g_name); exact rfl; exact rfl; k_allIn)
    | ((with_reducible apply g_tup); exact rfl; (try simp only [List.map_cons, List.map_nil]))
    | with_reducible refine g_cons ?_
    | with_reducible refine g_names ?_
    | with_reducible refine g_names0 ?_
    | with_reducible refine wo_of (e_zipL _ _) ?_
    | with_reducible refine wo_of (e_zipT _ _) ?_
    | with_reducible refine g_nil ?_
    | ((with_reducible apply g_subLNk); exact rfl; exact rfl)
    | ((with_reducible apply g_subLk); exact rfl; exact rfl)
    | ((with_reducible apply g_subDk); exact rfl; exact rfl)
    | with_reducible refine wo_of (e_addN _ _) ?_
    | with_reducible refine wo_of (e_addI _ _) ?_
    | with_reducible refine wo_of (e_subN (by omega)) ?_
    | with_reducible refine wo_of (e_subI _ _) ?_
    | with_reducible refine wo_of (e_mulN (by omega)) ?_
    | with_reducible refine wo_of (e_modN (by omega)) ?_
    | with_reducible refine wo_of (e_modI (by omega)) ?_
    | with_reducible refine wo_of (e_fdivN (by omega)) ?_
    | with_reducible refine wo_of (e_fdivI (by omega)) ?_
    | with_reducible refine wo_of (e_xor1 _) ?_
    | with_reducible refine wo_of e_neg1 ?_
    | with_reducible refine wo_of (e_negI _) ?_
    | with_reducible refine wo_of (e_ltN _ _) ?_
    | with_reducible refine wo_of (e_leN _ _) ?_
    | with_reducible refine wo_of (e_gtN _ _) ?_
    | with_reducible refine wo_of (e_geN _ _) ?_
    | with_reducible refine wo_of (e_ltI _ _) ?_
    | with_reducible refine wo_of (e_leI _ _) ?_
    | with_reducible refine wo_of (e_gtI _ _) ?_
    | with_reducible refine wo_of (e_geI _ _) ?_
    | with_reducible refine wo_of (e_eqN _ _) ?_
    | with_reducible refine wo_of (e_eqT0 _) ?_
    | with_reducible refine wo_of (e_eqT _ _) ?_
    | with_reducible refine wo_of (e_neT _ _) ?_
    | with_reducible refine wo_of (e_eqL0 _) ?_
    | with_reducible refine wo_of (e_eqLL _ _) ?_
    | with_reducible refine wo_of (e_neLL _ _) ?_
    | with_reducible refine wo_of (e_intB _) ?_
    | with_reducible refine wo_of (e_neN _ _) ?_
    | with_reducible refine wo_of (e_eqI _ _) ?_
    | with_reducible refine wo_of (e_neI _ _) ?_
    | with_reducible refine wo_of (e_ixL (by k_ownIn)) ?_
    | with_reducible refine wo_of (e_ixT (by k_ownIn)) ?_
    | with_reducible refine wo_of (e_ixO (by k_ownIn)) ?_
    | with_reducible refine wo_of (e_ixM (by k_ownIn)) ?_
    | with_reducible refine wo_of (e_catN2 (by k_ownIn)) ?_
    | with_reducible refine wo_of (e_catDD (by k_ownIn)) ?_
    | with_reducible refine wo_of (e_catDO (by k_ownIn)) ?_
    | with_reducible refine wo_of (e_catOD (by k_ownIn)) ?_
    | with_reducible refine wo_of (e_catOO (by k_ownIn)) ?_
    | with_reducible refine wo_of (e_repN (by k_ownIn)) ?_
    | with_reducible refine wo_of (e_repO (by k_ownIn)) ?_
    | with_reducible refine wo_of (e_max2 _ _) ?_
    | with_reducible refine wo_of (e_min2 _ _) ?_
    | with_reducible refine wo_of e_all ?_
    | with_reducible refine wo_of e_any ?_
    | with_reducible refine wo_of e_sum ?_
    | ((with_reducible refine wo_of (e_lenL _) ?_); k_allIn)
    | ((with_reducible refine wo_of (e_lenO _) ?_); k_allIn)
    | ((with_reducible refine wo_of (e_lenT _) ?_); k_allIn)
    | ((with_reducible refine wo_of (e_lenS _) ?_); k_allIn)
    | ((with_reducible refine wo_of (e_glenL _) ?_); k_allIn)
    | ((with_reducible refine wo_of (e_glenT _) ?_); k_allIn)
    | with_reducible refine wo_of (e_int _) ?_
    | with_reducible refine wo_of (e_tupL _) ?_
    | with_reducible refine wo_of (e_tupT _) ?_
    | with_reducible refine wo_of (e_listL _) ?_
    | with_reducible refine wo_of (e_listT _) ?_
    | with_reducible refine wo_of (e_truB _) ?_
    | with_reducible refine wo_of (e_truI _) ?_
    | with_reducible refine wo_of (e_truT _) ?_
    | with_reducible refine wo_of (e_truL _) ?_
    | with_reducible refine wo_of (e_keyI _) ?_
    | with_reducible refine it_l ?_
    | ((with_reducible apply wo_isNT); exact rfl)
    | ((with_reducible apply wo_isNF); exact rfl)
    | ((with_reducible apply wo_isBT); exact rfl)
    | ((with_reducible apply wo_isBF); exact rfl)
    | ((with_reducible apply wo_isiT); exact rfl)
    | ((with_reducible apply wo_isiF); exact rfl)
    | ((with_reducible apply wo_iscT); exact rfl)
    | ((with_reducible apply wo_iscF); exact rfl)
    | with_reducible refine it_t ?_
    | ((with_reducible apply e_lookup); exact rfl)
    | ((with_reducible apply e_index); exact rfl; k_ownIn))
  | ((with_reducible refine (?_ : Wp _ _)); first
    | with_reducible refine w_next ?_
    | with_reducible refine w_cN ?_
    | with_reducible refine w_c ?_
    | ((with_reducible apply w_varD); exact rfl)
    | ((with_reducible apply w_varL); exact rfl; k_allIn)
    | ((with_reducible apply w_varS); exact rfl)
    | ((with_reducible apply w_varI); exact rfl; k_allIn)
    | with_reducible refine w_un ?_
    | with_reducible refine w_fz ?_
    | with_reducible refine w_bin ?_
    | with_reducible refine w_nil ?_
    | with_reducible refine w_cons ?_
    | with_reducible refine w_cb ?_
    | with_reducible refine w_tup ?_
    | with_reducible refine w_lst ?_
    | ((with_reducible apply w_varB); exact rfl; exact rfl)
    | with_reducible refine w_binB ?_
    | ((with_reducible apply w_lenB); exact rfl; exact rfl)
    | with_reducible refine w_notT ?_
    | with_reducible refine w_andT ?_
    | with_reducible refine w_orT ?_
    | with_reducible refine w_testB ?_
    | with_reducible refine w_tru ?_
    | with_reducible refine w_yes ?_
    | with_reducible refine w_andV ?_
    | with_reducible refine w_orV ?_
    | with_reducible refine w_notV ?_
    | with_reducible refine w_ifE ?_
    | with_reducible refine w_call ?_
    | with_reducible refine w_callRev ?_
    | ((with_reducible apply w_callIO); exact rfl; exact rfl)
    | with_reducible refine w_callF ?_
    | with_reducible refine w_meth ?_
    | with_reducible refine w_prop ?_
    | with_reducible refine w_fld ?_
    | with_reducible refine w_make ?_
    | with_reducible refine w_isi ?_
    | with_reducible refine w_noPart ?_
    | with_reducible refine w_part ?_
    | with_reducible refine w_sl ?_
    | with_reducible refine w_revL ?_
    | ((with_reducible apply w_index); exact rfl; exact rfl)
    | with_reducible refine w_dnew ?_
    | with_reducible refine w_disp2 ?_
    | with_reducible refine w_setNew ?_
    | ((with_reducible apply w_getB); exact rfl; exact rfl)
    | with_reducible refine w_inD ?_
    | with_reducible refine w_iseq ?_
    | with_reducible refine w_irng ?_
    | with_reducible refine w_lrgN ?_
    | with_reducible refine w_ienum ?_
    | with_reducible refine w_izip ?_
    | with_reducible refine w_lc ?_)
  | with_reducible refine br_T ?_
  | with_reducible refine br_F ?_
  | with_reducible refine br_nT ?_
  | with_reducible refine br_nF ?_
  | with_reducible refine br_dec ?_
  | with_reducible refine br_and ?_
  | with_reducible refine br_or ?_
  | with_reducible refine s_rfl ?_
  | with_reducible refine br_ndec ?_
  | with_reducible apply s_bl
  | with_reducible apply s_nat
  | with_reducible apply s_int
  | with_reducible apply s_ins
  | with_reducible apply s_d
  | with_reducible apply s_own
  | with_reducible apply s_oneN
  | ((with_reducible apply s_rngN); k_ownIn)
  | ((with_reducible apply s_rngI); k_ownIn)
  | with_reducible apply s_one
  | with_reducible apply s_insK
  | with_reducible apply s_three
  | (with_reducible apply s_mk; k_allIn)
  | (with_reducible apply s_io; k_allIn)
  | with_reducible apply s_zipL
  | with_reducible apply s_zipT
  | ((with_reducible apply s_isNo); exact rfl)
  | ((with_reducible apply s_blt); exact rfl; k_allIn)
  | ((with_reducible apply s_blt3); exact rfl; k_allIn)
  | ((with_reducible apply s_plain); exact rfl; (try simp only [wipeD, restD, List.set_cons_succ, List.set_cons_zero, List.getElem?_cons_zero, List.getElem?_cons_succ, Option.getD_some]))
  | ((with_reducible apply s_con); decide +kernel)
  | ((with_reducible apply s_dats); exact rfl; exact rfl)
  | ((with_reducible apply s_moLN); exact rfl; k_ownIn; k_allIn)
  | ((with_reducible apply s_moL); exact rfl; k_ownIn; k_allIn)
  | ((with_reducible apply s_moDl); exact rfl; k_ownIn; k_allIn)
  | ((with_reducible apply s_moD); exact rfl)
  | ((with_reducible apply s_moO); exact rfl; exact rfl; k_allIn)
  | ((with_reducible apply s_lst); exact rfl)
  | ((with_reducible apply s_lt); k_ownIn; k_allIn)
  | ((with_reducible apply s_le); k_ownIn))
local macro_rules | `(tactic| k_places) => `(tactic| repeat k_memK)
local macro_rules | `(tactic| k_clsL) => `(tactic| repeat first | with_reducible refine w_andP ?_ | with_reducible refine w_orP ?_ | k_memK)
theorem wb22 : Wd 2 [2, 3, 0, 1] := Wd.laid (n := 1) (t := [0, 1]) ⟨rfl, .inr ⟨2, Wb.two rfl rfl⟩⟩ (c := 0) (k := 1) (by omega)
theorem w_any {p0 p1 : Int} (hp : PotOk p0 p1) {many kind : Nat} (hm : many ≤ 14) (hk : kind < 3) {Q : SD → List SD → Prop} (k : ∀ n t q0 q1, n ≤ 14 → Wd n t → PotOk q0 q1 → Q (.own (.lst (t.map nI))) [pot q0 q1, .d (nI many), .d (nI kind)]) : Wp (Φ__law_any [pot p0 p1, .d (nI many), .d (nI kind)]) Q := by
  unfold Φ__law_any F__law_any
  refine w_runF rfl ?_
  simp only [List.replicate, List.cons_append, List.nil_append, Nat.reduceSub]
  have body : ∀ (n0 r : Nat) (t0 : List Nat), n0 + r ≤ 14 → Wd n0 t0 → Wp (dLoop (dgName 4) (dSeq (dPar 5 6 (dLenB 3) (dCallIO Φ__law_draw 0 (dCons (dC (.int 4)) dNil)))
    (dSeq (dAsg (dCallIO Φ__law_draw 0 (dCons (dCB gMax2 (dCons (dC (.int 1)) (dCons (dVar 5) dNil))) dNil)) (dgName 7))
    (dSeq (dIfS (dAndT (dTestB (dBin (gEq false) (dVar 6) (dC (.int 0)))) (dTestB (dBin gLt (dVar 2) (dC (.int 2))))) (dSeq (dAsg (dCall Φ__law_hung (dCons (dVar 3) (dCons (dVar 7) dNil))) (dgName 3))
    dNext) (dSeq (dIfS (dAndT (dTestB (dBin (gEq false) (dVar 6) (dC (.int 1)))) (dTestB (dBin gGt (dVar 5) (dC (.int 0))))) (dSeq (dAsg (dCall Φ__law_stretched (dCons (dVar 3) (dCons (dBin gFdiv (dVar 7) (dC (.int 2))) dNil))) (dgName 3))
    dNext) (dSeq (dAsg (dCall Φ__law_laid (dCons (dVar 3) (dCons (dVar 7) (dCons (dBin gAdd (dCB gMin2 (dCons (dVar 2) (dCons (dC (.int 1)) dNil))) (dCallIO Φ__law_draw 0 (dCons (dC (.int 4)) dNil))) dNil)))) (dgName 3))
    dNext))
    dNext))
    dNext))) ((List.range r).map nI) [pot p0 p1, .d (nI many), .d (nI kind), .own (.lst (t0.map nI)), .no, .no, .no, .no])
      (fun fl ρ => ∃ q0 q1 t s4 s5 s6 s7, fl = .nx ∧ ρ = [pot q0 q1, .d (nI many), .d (nI kind), .own (.lst (t.map nI)), s4, s5, s6, s7] ∧ PotOk q0 q1 ∧ Wd (n0 + r) t) := by
    intro n0 r t0 hr W0
    refine w_loop (fun i ρ => ∃ q0 q1 t s4 s5 s6 s7, ρ = [pot q0 q1, .d (nI many), .d (nI kind), .own (.lst (t.map nI)), s4, s5, s6, s7] ∧ PotOk q0 q1 ∧ Wd (n0 + i) t) ⟨_, _, _, _, _, _, _, rfl, hp, W0⟩ ?_ ?_
    · rintro i v ρ hv ⟨q0, q1, t, s4, s5, s6, s7, rfl, hq, W⟩
      obtain ⟨hi, rfl⟩ := range_it hv
      have hl := W.len
      k_places
      refine w_draw hq (by omega) (by omega) fun w a0 a1 hw ha => ?_
      k_places
      refine w_draw ha (by omega) (by omega) fun c b0 b1 hc hb => ?_
      k_clsL
      refine ⟨fun h => ?_, fun h => ?_⟩
      · k_places
        refine Wp.mono (v_hung (by omega) (by omega)) ?_
        rintro r as' ⟨rfl, rfl⟩
        k_places
        exact ⟨_, _, _, _, _, _, _, rfl, hb, W.hung (by omega)⟩
      · k_clsL
        refine ⟨fun h2 => ?_, fun h2 => ?_⟩
        · obtain ⟨V, Wt⟩ := W.web.resolve_left (by omega)
          have hm := mem_tf hl Wt (d := 2 * (c / 2) + 1) (by omega)
          k_places
          refine Wp.mono (v_stretched (by omega) (by omega) hm) ?_
          rintro r as' ⟨rfl, rfl⟩
          k_places
          exact ⟨_, _, _, _, _, _, _, rfl, hb, W.stretched (by omega)⟩
        · k_places
          refine w_draw hb (by omega) (by omega) fun x c0 c1 hx hc2 => ?_
          k_places
          refine Wp.mono (v_laid W (by omega) (by omega) (by omega)) ?_
          rintro r as' ⟨rfl, rfl⟩
          k_places
          exact ⟨_, _, _, _, _, _, _, rfl, hc2, W.laid (by omega)⟩
    · rintro ρ ⟨q0, q1, t, s4, s5, s6, s7, rfl, hq, W⟩
      simp only [List.length_map, List.length_range] at W
      exact ⟨_, _, _, _, _, _, _, rfl, rfl, hq, W⟩
  k_places
  refine ⟨fun h => ?_, fun h => ?_⟩
  · k_places
    refine (body 0 _ [] (by omega) ⟨rfl, .inl rfl⟩).mono ?_
    rintro fl ρ ⟨q0, q1, t, s4, s5, s6, s7, rfl, rfl, hq, W⟩
    show Wp _ _
    k_places
    exact k _ _ _ _ (by omega) W hq
  · k_places
    refine (body 2 _ [2, 3, 0, 1] (by omega) wb22).mono ?_
    rintro fl ρ ⟨q0, q1, t, s4, s5, s6, s7, rfl, rfl, hq, W⟩
    show Wp _ _
    k_places
    exact k _ _ _ _ (by omega) W hq
end K12

set_option Elab.async false
set_option linter.all false
set_option maxRecDepth 100000
set_option maxHeartbeats 4000000
namespace K12
open PySem PySem.Spec PyProof.Rows L2 DP WM
open K62 (Tn tupN lstN)
local macro_rules | `(tactic| k_ownIn) => `(tactic| focus first | assumption | omega | (simp; done) | (simp; omega) | (simp_all; done))
local macro_rules | `(tactic| k_allIn) => `(tactic| try simp only [List.set_cons_succ, List.set_cons_zero, SD.re, List.length_map, List.length_replicate, List.length_range, List.length_cons, List.length_nil, Nat.zero_add, Nat.reduceAdd])
local macro_rules | `(tactic| k_memK) => `(tactic| first
  | ((with_reducible refine (?_ : Wp (dSeq _ _ _) _)); first
    | with_reducible refine w_seqA ?_
    | with_reducible refine w_seqN ?_
    | with_reducible refine w_asg ?_
    | with_reducible refine w_drop ?_
    | with_reducible refine w_ret ?_
    | ((with_reducible apply w_retV); exact rfl; exact rfl)
    | with_reducible refine w_retN ?_
    | with_reducible refine w_brk ?_
    | with_reducible refine w_cont ?_
    | with_reducible refine w_ifS ?_
    | with_reducible refine w_for ?_
    | with_reducible refine w_whileS ?_
    | ((with_reducible apply w_aug); exact rfl)
    | with_reducible refine w_par ?_
    | with_reducible refine w_par3 ?_
    | ((with_reducible apply w_app); exact rfl; exact rfl)
    | ((with_reducible apply w_ext); exact rfl; exact rfl)
    | ((with_reducible apply w_ins); exact rfl; exact rfl)
    | with_reducible refine w_fldSet ?_)
  | ((with_reducible refine (?_ : Wo _ _)); first
    | with_reducible refine z_d ?_
    | with_reducible refine z_l ?_
    | with_reducible refine z_s ?_
    | with_reducible refine z_i ?_
    | ((with_reducible apply wo_get); exact rfl)
    | with_reducible refine r_ret ?_
    | with_reducible refine r_nx ?_
    | with_reducible refine k_nil ?_
    | with_reducible refine k_d ?_
    | with_reducible refine k_s ?_
    | with_reducible refine k_io ?_
    | with_reducible refine mo_io ?_
    | with_reducible refine mo_own ?_
    | ((with_reducible apply g_name); exact rfl; exact rfl; k_allIn)
    | ((with_reducible apply g_tup); exact rfl; (try simp only [List.map_cons, List.map_nil]))
    | with_reducible refine g_cons ?_
    | with_reducible refine g_names ?_
    | with_reducible refine g_names0 ?_
    | with_reducible refine wo_of (e_zipL _ _) ?_
    | with_reducible refine wo_of (e_zipT _ _) ?_
    | with_reducible refine g_nil ?_
    | ((with_reducible apply g_subLNk); exact rfl; exact rfl)
    | ((with_reducible apply g_subLk); exact rfl; exact rfl)
    | ((with_reducible apply g_subDk); exact rfl; exact rfl)
    | with_reducible refine wo_of (e_addN _ _) ?_
    | with_reducible refine wo_of (e_addI _ _) ?_
    | with_reducible refine wo_of (e_subN (by omega)) ?_
    | with_reducible refine wo_of (e_subI _ _) ?_
    | with_reducible refine wo_of (e_mulN (by omega)) ?_
    | with_reducible refine wo_of (e_modN (by omega)) ?_
    | with_reducible refine wo_of (e_modI (by omega)) ?_
    | with_reducible refine wo_of (e_fdivN (by omega)) ?_
    | with_reducible refine wo_of (e_fdivI (by omega)) ?_
    | with_reducible refine wo_of (e_xor1 _) ?_
    | with_reducible refine wo_of e_neg1 ?_
    | with_reducible refine wo_of (e_negI _) ?_
    | with_reducible refine wo_of (e_ltN _ _) ?_
    | with_reducible refine wo_of (e_leN _ _) ?_
    | with_reducible refine wo_of (e_gtN _ _) ?_
    | with_reducible refine wo_of (e_geN _ _) ?_
    | with_reducible refine wo_of (e_ltI _ _) ?_
    | with_reducible refine wo_of (e_leI _ _) ?_
    | with_reducible refine wo_of (e_gtI _ _) ?_
    | with_reducible refine wo_of (e_geI _ _) ?_
    | with_reducible refine wo_of (e_eqN _ _) ?_
    | with_reducible refine wo_of (e_eqT0 _) ?_
    | with_reducible refine wo_of (e_eqT _ _) ?_
    | with_reducible refine wo_of (e_neT _ _) ?_
    | with_reducible refine wo_of (e_eqL0 _) ?_
    | with_reducible refine wo_of (e_eqLL _ _) ?_
    | with_reducible refine wo_of (e_neLL _ _) ?_
    | with_reducible refine wo_of (e_intB _) ?_
    | with_reducible refine wo_of (e_neN _ _) ?_
    | with_reducible refine wo_of (e_eqI _ _) ?_
    | with_reducible refine wo_of (e_neI _ _) ?_
    | with_reducible refine wo_of (e_ixL (by k_ownIn)) ?_
    | with_reducible refine wo_of (e_ixT (by k_ownIn)) ?_
    | with_reducible refine wo_of (e_ixO (by k_ownIn)) ?_
    | with_reducible refine wo_of (e_ixM (by k_ownIn)) ?_
    | with_reducible refine wo_of (e_catN2 (by k_ownIn)) ?_
    | with_reducible refine wo_of (e_catDD (by k_ownIn)) ?_
    | with_reducible refine wo_of (e_catDO (by k_ownIn)) ?_
    | with_reducible refine wo_of (e_catOD (by k_ownIn)) ?_
    | with_reducible refine wo_of (e_catOO (by k_ownIn)) ?_
    | with_reducible refine wo_of (e_repN (by k_ownIn)) ?_
    | with_reducible refine wo_of (e_repO (by k_ownIn)) ?_
    | with_reducible refine wo_of (e_max2 _ _) ?_
    | with_reducible refine wo_of (e_min2 _ _) ?_
    | with_reducible refine wo_of e_all ?_
    | with_reducible refine wo_of e_any ?_
    | with_reducible refine wo_of e_sum ?_
    | ((with_reducible refine wo_of (e_lenL _) ?_); k_allIn)
    | ((with_reducible refine wo_of (e_lenO _) ?_); k_allIn)
    | ((with_reducible refine wo_of (e_lenT _) ?_); k_allIn)
    | ((with_reducible refine wo_of (e_lenS _) ?_); k_allIn)
    | ((with_reducible refine wo_of (e_glenL _) ?_); k_allIn)
    | ((with_reducible refine wo_of (e_glenT _) ?_); k_allIn)
    | with_reducible refine wo_of (e_int _) ?_
    | with_reducible refine wo_of (e_tupL _) ?_
    | with_reducible refine wo_of (e_tupT _) ?_
    | with_reducible refine wo_of (e_listL _) ?_
    | with_reducible refine wo_of (e_listT _) ?_
    | with_reducible refine wo_of (e_truB _) ?_
    | with_reducible refine wo_of (e_truI _) ?_
    | with_reducible refine wo_of (e_truT _) ?_
    | with_reducible refine wo_of (e_truL _) ?_
    | with_reducible refine wo_of (e_keyI _) ?_
    | with_reducible refine it_l ?_
    | ((with_reducible apply wo_isNT); exact rfl)
    | ((with_reducible apply wo_isNF); exact rfl)
    | ((with_reducible apply wo_isBT); exact rfl)
    | ((with_reducible apply wo_isBF); exact rfl)
    | ((with_reducible apply wo_isiT); exact rfl)
    | ((with_reducible apply wo_isiF); exact rfl)
    | ((with_reducible apply wo_iscT); exact rfl)
    | ((with_reducible apply wo_iscF); exact rfl)
    | with_reducible refine it_t ?_
    | ((with_reducible apply e_lookup); exact rfl)
    | ((with_reducible apply e_index); exact rfl; k_ownIn))
  | ((with_reducible refine (?_ : Wp _ _)); first
    | with_reducible refine w_next ?_
    | with_reducible refine w_cN ?_
    | with_reducible refine w_c ?_
    | ((with_reducible apply w_varD); exact rfl)
    | ((with_reducible apply w_varL); exact rfl; k_allIn)
    | ((with_reducible apply w_varS); exact rfl)
    | ((with_reducible apply w_varI); exact rfl; k_allIn)
    | with_reducible refine w_un ?_
    | with_reducible refine w_fz ?_
    | with_reducible refine w_bin ?_
    | with_reducible refine w_nil ?_
    | with_reducible refine w_cons ?_
    | with_reducible refine w_cb ?_
    | with_reducible refine w_tup ?_
    | with_reducible refine w_lst ?_
    | ((with_reducible apply w_varB); exact rfl; exact rfl)
    | with_reducible refine w_binB ?_
    | ((with_reducible apply w_lenB); exact rfl; exact rfl)
    | with_reducible refine w_notT ?_
    | with_reducible refine w_andT ?_
    | with_reducible refine w_orT ?_
    | with_reducible refine w_testB ?_
    | with_reducible refine w_tru ?_
    | with_reducible refine w_yes ?_
    | with_reducible refine w_andV ?_
    | with_reducible refine w_orV ?_
    | with_reducible refine w_notV ?_
    | with_reducible refine w_ifE ?_
    | with_reducible refine w_call ?_
    | with_reducible refine w_callRev ?_
    | ((with_reducible apply w_callIO); exact rfl; exact rfl)
    | with_reducible refine w_callF ?_
    | with_reducible refine w_meth ?_
    | with_reducible refine w_prop ?_
    | with_reducible refine w_fld ?_
    | with_reducible refine w_make ?_
    | with_reducible refine w_isi ?_
    | with_reducible refine w_noPart ?_
    | with_reducible refine w_part ?_
    | with_reducible refine w_sl ?_
    | with_reducible refine w_revL ?_
    | ((with_reducible apply w_index); exact rfl; exact rfl)
    | with_reducible refine w_dnew ?_
    | with_reducible refine w_disp2 ?_
    | with_reducible refine w_setNew ?_
    | ((with_reducible apply w_getB); exact rfl; exact rfl)
    | with_reducible refine w_inD ?_
    | with_reducible refine w_iseq ?_
    | with_reducible refine w_irng ?_
    | with_reducible refine w_lrgN ?_
    | with_reducible refine w_ienum ?_
    | with_reducible refine w_izip ?_
    | with_reducible refine w_lc ?_)
  | with_reducible refine br_T ?_
  | with_reducible refine br_F ?_
  | with_reducible refine br_nT ?_
  | with_reducible refine br_nF ?_
  | with_reducible refine br_dec ?_
  | with_reducible refine br_and ?_
  | with_reducible refine br_or ?_
  | with_reducible refine s_rfl ?_
  | with_reducible refine br_ndec ?_
  | with_reducible apply s_bl
  | with_reducible apply s_nat
  | with_reducible apply s_int
  | with_reducible apply s_ins
  | with_reducible apply s_d
  | with_reducible apply s_own
  | with_reducible apply s_oneN
  | ((with_reducible apply s_rngN); k_ownIn)
  | ((with_reducible apply s_rngI); k_ownIn)
  | with_reducible apply s_one
  | with_reducible apply s_insK
  | with_reducible apply s_three
  | (with_reducible apply s_mk; k_allIn)
  | (with_reducible apply s_io; k_allIn)
  | with_reducible apply s_zipL
  | with_reducible apply s_zipT
  | ((with_reducible apply s_isNo); exact rfl)
  | ((with_reducible apply s_blt); exact rfl; k_allIn)
  | ((with_reducible apply s_blt3); exact rfl; k_allIn)
  | ((with_reducible apply s_plain); exact rfl; (try simp only [wipeD, restD, List.set_cons_succ, List.set_cons_zero, List.getElem?_cons_zero, List.getElem?_cons_succ, Option.getD_some]))
  | ((with_reducible apply s_con); decide +kernel)
  | ((with_reducible apply s_dats); exact rfl; exact rfl)
  | ((with_reducible apply s_moLN); exact rfl; k_ownIn; k_allIn)
  | ((with_reducible apply s_moL); exact rfl; k_ownIn; k_allIn)
  | ((with_reducible apply s_moDl); exact rfl; k_ownIn; k_allIn)
  | ((with_reducible apply s_moD); exact rfl)
  | ((with_reducible apply s_moO); exact rfl; exact rfl; k_allIn)
  | ((with_reducible apply s_lst); exact rfl)
  | ((with_reducible apply s_lt); k_ownIn; k_allIn)
  | ((with_reducible apply s_le); k_ownIn))
local macro_rules | `(tactic| k_places) => `(tactic| repeat k_memK)
local macro_rules | `(tactic| k_clsL) => `(tactic| repeat first | with_reducible refine w_andP ?_ | with_reducible refine w_orP ?_ | k_memK)
/-! ### dicts from darts to their places in a row -/
def dic : List Nat → Nat → List (Key × Dat)
  | [], _ => []
  | x :: r, k => (.inl (x : Int), nI k) :: dic r (k + 1)
theorem dic_len : ∀ (o : List Nat) (k : Nat), (dic o k).length = o.length
  | [], _ => rfl
  | _ :: r, k => congrArg (· + 1) (dic_len r (k + 1))
theorem inl_ne {x y : Nat} (h : x ≠ y) : (Sum.inl (x : Int) : Key) ≠ .inl (y : Int) := fun e => h (by have := Sum.inl.inj e; omega)
theorem dic_in : ∀ {o : List Nat} {k x : Nat}, x ∈ o → valD (dic o k) (.inl (x : Int)) = some (nI (k + o.idxOf x))
  | [], _, _, h => by cases h
  | y :: r, k, x, h => by
    unfold valD dic
    rw [List.find?_cons, List.idxOf_cons]
    by_cases e : y = x
    · subst e; simp
    · have h1 : decide ((Sum.inl (y : Int) : Key) = .inl (x : Int)) = false := decide_eq_false (inl_ne e)
      have h2 : (y == x) = false := beq_eq_false_iff_ne.mpr e
      rw [h1, h2]
      have hr : x ∈ r := by
        rcases List.mem_cons.mp h with z | z
        · exact absurd z.symm e
        · exact z
      have := dic_in (k := k + 1) hr
      unfold valD at this
      rw [this]
      simp
      omega
theorem dic_no : ∀ {o : List Nat} {k x : Nat}, x ∉ o → valD (dic o k) (.inl (x : Int)) = none
  | [], _, _, _ => rfl
  | y :: r, k, x, h => by
    rw [List.mem_cons, not_or] at h
    unfold valD dic
    rw [List.find?_cons, decide_eq_false (inl_ne fun e => h.1 e.symm)]
    exact dic_no (k := k + 1) h.2
theorem dic_app : ∀ (o p : List Nat) (k : Nat), dic (o ++ p) k = dic o k ++ dic p (k + o.length)
  | [], _, _ => by simp [dic]
  | x :: r, p, k => by
    rw [List.cons_append, dic, dic, dic_app r p (k + 1), List.cons_append, List.length_cons]
    congr 3
    omega
theorem dic_put {o : List Nat} {x : Nat} (h : x ∉ o) : putD (dic o 0) (.inl (x : Int)) (nI o.length) = dic (o ++ [x]) 0 := by
  have : ((dic o 0).any fun kv => decide (kv.1 = (.inl (x : Int) : Key))) = false := by
    rw [List.any_eq_false]
    intro kv hkv
    have key : ∀ (o : List Nat) (k : Nat), kv ∈ dic o k → ∃ y ∈ o, kv.1 = .inl (y : Int) := fun o => by
      induction o with
      | nil => intro k h; cases h
      | cons y r ih =>
        intro k h
        rcases List.mem_cons.mp h with e | e
        · exact ⟨y, List.mem_cons_self .., by rw [e]⟩
        · obtain ⟨z, hz, e2⟩ := ih _ e
          exact ⟨z, List.mem_cons_of_mem _ hz, e2⟩
    obtain ⟨y, hy, e⟩ := key o 0 hkv
    rw [e]
    simp only [decide_eq_true_eq]
    exact inl_ne fun z => h (z ▸ hy)
  unfold putD
  rw [if_neg (by rw [this]; simp), dic_app, Nat.zero_add]
  rfl
theorem dic_putL {s : SD} {o : List Nat} {x : Nat} (h : x ∉ o) {v : Dat} (hv : v = nI o.length) : putD (dic o 0) (.inl (x : Int)) v = dic (o ++ [x]) 0 := by rw [hv]; exact dic_put h
theorem rdS_len {f : Nat → Nat} {o : List Nat} {k : Nat} : (rdS f o k).length ≤ o.length + 2 := by
  unfold rdS; split <;> simp
/-! ### _law_read -/
theorem w_lread {n : Nat} {t : List Nat} (W : Wd n t) (hn : n ≤ 14) {d : Nat} (hd : d < 2 * n) {Q : SD → List SD → Prop} (k : Q (.d (tupN (told (tf t) (ord n (tf t) d)))) [.d (lstN t), .d (nI d)]) : Wp (Φ__law_read [.d (lstN t), .d (nI d)]) Q := by
  have hl := W.len
  have Wt := W.web.resolve_left (by omega)
  unfold Φ__law_read F__law_read
  refine w_runF rfl ?_
  simp only [List.replicate, List.cons_append, List.nil_append, Nat.reduceSub]
  k_places
  have ne := fl_ne d
  have st : putD (putD [] (Sum.inl (d : Int)) (nI 0)) (Sum.inl ((fl d : Nat) : Int)) (nI 1) = dic [d, fl d] 0 := by
    have e1 : putD [] (Sum.inl (d : Int)) (nI 0) = dic [d] 0 := dic_put (o := []) (x := d) (by simp)
    rw [e1]
    exact dic_put (o := [d]) (x := fl d) (by simpa using ne)
  rw [st]
  refine w_loop (fun i ρ => ∃ s4 s5, ρ = [.d (lstN t), .d (nI d), .own (.dic (dic (rdN (tf t) d i) 0)), .own (.lst ((rdN (tf t) d i).map nI)), s4, s5, .no]) ⟨_, _, rfl⟩ ?_ ?_
  · rintro i v ρ hv ⟨s4, s5, rfl⟩
    obtain ⟨hi, rfl⟩ := range_it hv
    have R := rd_at Wt hd i (by omega)
    have hm := R.more Wt (by omega)
    have hlen := R.len
    have hlt := R.lt _ (getD_mem hm)
    have hdl := dic_len (rdN (tf t) d i) 0
    k_places
    show _
    have hft : t.getD ((rdN (tf t) d i).getD i 0) 0 = tf t ((rdN (tf t) d i).getD i 0) := rfl
    rw [hft]
    have e0 : rdN (tf t) d (i + 1) = rdS (tf t) (rdN (tf t) d i) i := rfl
    by_cases h : tf t ((rdN (tf t) d i).getD i 0) ∈ rdN (tf t) d i
    · rw [dic_in h]
      refine br_F ?_
      k_places
      exact ⟨_, _, by rw [e0, rdS, if_pos h]⟩
    · rw [dic_no h]
      refine br_T ?_
      have nf : fl (tf t ((rdN (tf t) d i).getD i 0)) ∉ rdN (tf t) d i ++ [tf t ((rdN (tf t) d i).getD i 0)] := fun z => by
        rw [List.mem_append] at z
        rcases z with z | z
        · exact h (by have := R.cl _ z; rwa [fl_fl] at this)
        · have := fl_ne (tf t ((rdN (tf t) d i).getD i 0))
          simp at z
          exact this z
      have hdl2 := dic_len (rdN (tf t) d i ++ [tf t ((rdN (tf t) d i).getD i 0)]) 0
      rw [List.length_append, List.length_singleton] at hdl2
      k_places
      rw [dic_put h]
      k_places
      rw [dic_putL (s := .no) nf (by simp)]
      k_places
      exact ⟨.d (nI i), .d (nI (tf t ((rdN (tf t) d i).getD i 0))), by rw [e0, rdS, if_neg h]; simp⟩
  · rintro ρ ⟨s4, s5, rfl⟩
    simp only [List.length_map, List.length_range]
    show Wp _ _
    rw [hl]
    k_places
    obtain ⟨_, h2, h3⟩ := ord_full Wt hd
    refine w_lcY (fun x => nI ((ord n (tf t) d).idxOf (tf t x))) (fun x hx => ?_) (show (ord n (tf t) d).length < 50000 by omega) ?_
    · have hxl := (h3 x).mp hx
      obtain ⟨V, Wb'⟩ := Wt
      have hm := (h3 _).mpr (Wb'.pm.lt x hxl)
      k_places
      rw [show t.getD x 0 = tf t x from rfl, dic_in hm]
      refine wo_some ?_
      k_places
      exact ⟨by rw [Nat.zero_add], rfl⟩
    · k_allIn
      k_places
      rw [show (ord n (tf t) d).map (fun x => nI ((ord n (tf t) d).idxOf (tf t x))) = (told (tf t) (ord n (tf t) d)).map nI by unfold told; rw [List.map_map]; rfl]
      exact k
theorem idx_pre {o r : List Nat} {x : Nat} (h : x ∈ o) : (o ++ r).idxOf x = o.idxOf x := by simp [List.idxOf_append, h]
/-! ### read_from -/
theorem w_read {n : Nat} {t : List Nat} (W : Wd n t) (hn : n ≤ 14) {d : Nat} (hd : d < 2 * n) {Q : SD → List SD → Prop} (k : Q (.d (.tup [tupN (told (tf t) (ord n (tf t) d)), lstN (ord n (tf t) d)])) [.d (tupN t), .d (nI d)]) : Wp (K62.Φ_read_from [.d (tupN t), .d (nI d)]) Q := by
  have hl := W.len
  have Wt := W.web.resolve_left (by omega)
  have ne := fl_ne d
  have st : putD (putD [] (Sum.inl (d : Int)) (nI 0)) (Sum.inl ((fl d : Nat) : Int)) (nI 1) = dic [d, fl d] 0 := by
    have e1 : putD [] (Sum.inl (d : Int)) (nI 0) = dic [d] 0 := dic_put (o := []) (x := d) (by simp)
    rw [e1]
    exact dic_put (o := [d]) (x := fl d) (by simpa using ne)
  unfold K62.Φ_read_from K62.F_read_from
  refine w_runF rfl ?_
  simp only [List.replicate, List.cons_append, List.nil_append, Nat.reduceSub]
  k_places
  rw [st]
  refine w_while (m0 := 2 * n) (fun m ρ => ∃ i s5, i ≤ 2 * n ∧ m = 2 * n - i ∧ ρ = [.d (tupN t), .d (nI d), .own (.lst ((rdN (tf t) d i).map nI)), .own (.dic (dic (rdN (tf t) d i) 0)), .own (.lst (((List.range i).map fun j => (ord n (tf t) d).idxOf (tf t ((ord n (tf t) d).getD j 0))).map nI)), s5]) ⟨0, _, by omega, rfl, rfl⟩ (by unfold fuel; omega) ?_
  rintro m ρ ⟨i, s5, hi, hm, rfl⟩
  have R := rd_at Wt hd i hi
  have hlen := R.len
  k_places
  refine ⟨fun h => ?_, fun h => ?_⟩
  · have hi2 : i < 2 * n := by omega
    have hlt := R.lt _ (getD_mem h)
    have hdl := dic_len (rdN (tf t) d i) 0
    have e0 : rdN (tf t) d (i + 1) = rdS (tf t) (rdN (tf t) d i) i := rfl
    obtain ⟨r, hr⟩ := rdN_pre (tf t) d hi
    have eo : (ord n (tf t) d).getD i 0 = (rdN (tf t) d i).getD i 0 := by unfold ord; rw [hr]; exact getD_pre h
    obtain ⟨r2, hr2⟩ := rdN_pre (tf t) d (show i + 1 ≤ 2 * n by omega)
    have mem1 : tf t ((rdN (tf t) d i).getD i 0) ∈ rdN (tf t) d (i + 1) := by
      rw [e0, rdS]
      split
      · assumption
      · simp
    have val : (ord n (tf t) d).idxOf (tf t ((ord n (tf t) d).getD i 0)) = (rdN (tf t) d (i + 1)).idxOf (tf t ((rdN (tf t) d i).getD i 0)) := by
      rw [eo]; unfold ord; rw [hr2]; exact idx_pre mem1
    have rr : ((List.range (i + 1)).map fun j => (ord n (tf t) d).idxOf (tf t ((ord n (tf t) d).getD j 0))).map nI = ((List.range i).map fun j => (ord n (tf t) d).idxOf (tf t ((ord n (tf t) d).getD j 0))).map nI ++ [nI ((rdN (tf t) d (i + 1)).idxOf (tf t ((rdN (tf t) d i).getD i 0)))] := by
      rw [List.range_succ, List.map_append, List.map_append, ← val]; rfl
    k_places
    have hft : t.getD ((rdN (tf t) d i).getD i 0) 0 = tf t ((rdN (tf t) d i).getD i 0) := rfl
    rw [hft]
    by_cases h3 : tf t ((rdN (tf t) d i).getD i 0) ∈ rdN (tf t) d i
    · have e1 : rdN (tf t) d (i + 1) = rdN (tf t) d i := by rw [e0, rdS, if_pos h3]
      rw [dic_in h3]
      refine br_F ?_
      k_places
      rw [dic_in h3]
      refine wo_some ?_
      k_places
      refine ⟨2 * n - (i + 1), by omega, i + 1, .d (nI (tf t ((rdN (tf t) d i).getD i 0))), by omega, rfl, ?_⟩
      rw [rr, e1]
    · have e1 : rdN (tf t) d (i + 1) = rdN (tf t) d i ++ [tf t ((rdN (tf t) d i).getD i 0), fl (tf t ((rdN (tf t) d i).getD i 0))] := by rw [e0, rdS, if_neg h3]
      rw [dic_no h3]
      refine br_T ?_
      have nf : fl (tf t ((rdN (tf t) d i).getD i 0)) ∉ rdN (tf t) d i ++ [tf t ((rdN (tf t) d i).getD i 0)] := fun z => by
        rw [List.mem_append] at z
        rcases z with z | z
        · exact h3 (by have := R.cl _ z; rwa [fl_fl] at this)
        · have := fl_ne (tf t ((rdN (tf t) d i).getD i 0))
          simp at z
          exact this z
      have hdl2 := dic_len (rdN (tf t) d i ++ [tf t ((rdN (tf t) d i).getD i 0)]) 0
      rw [List.length_append, List.length_singleton] at hdl2
      have e2 : rdN (tf t) d i ++ [tf t ((rdN (tf t) d i).getD i 0)] ++ [fl (tf t ((rdN (tf t) d i).getD i 0))] = rdN (tf t) d (i + 1) := by rw [e1]; simp
      k_places
      rw [dic_put h3]
      k_places
      rw [dic_putL (s := .no) nf (by simp), e2]
      k_places
      rw [dic_in mem1]
      refine wo_some ?_
      k_places
      refine ⟨2 * n - (i + 1), by omega, i + 1, .d (nI (tf t ((rdN (tf t) d i).getD i 0))), by omega, rfl, ?_⟩
      rw [rr, ← e2, List.map_append, List.map_append]
      rfl
  · obtain ⟨h1, h2⟩ := rdN_end Wt hd hi (by omega)
    subst h2
    obtain ⟨_, l2, _⟩ := ord_full Wt hd
    have et : ((List.range (2 * n)).map fun j => (ord n (tf t) d).idxOf (tf t ((ord n (tf t) d).getD j 0))) = told (tf t) (ord n (tf t) d) := by
      unfold told
      apply List.ext_getElem
      · simp [l2]
      · intro j h1 h2
        simp at h1 h2
        simp [List.getD_eq_getElem?_getD, List.getElem?_eq_getElem h2]
    rw [et]
    show Wp _ _
    k_places
    exact k
end K12
set_option Elab.async false
set_option linter.all false
set_option maxRecDepth 100000
set_option maxHeartbeats 4000000
namespace K12
open PySem PySem.Spec PyProof.Rows L2 DP WM
open K62 (Tn tupN lstN webD)
local macro_rules | `(tactic| k_ownIn) => `(tactic| focus first | assumption | omega | (simp; done) | (simp; omega) | (simp_all; done))
local macro_rules | `(tactic| k_allIn) => `(tactic| try simp only [List.set_cons_succ, List.set_cons_zero, SD.re, List.length_map, List.length_replicate, List.length_range, List.length_cons, List.length_nil, Nat.zero_add, Nat.reduceAdd])
local macro_rules | `(tactic| k_memK) => `(tactic| first
  | ((with_reducible refine (?_ : Wp (dSeq _ _ _) _)); first
    | with_reducible refine w_seqA ?_
    | with_reducible refine w_seqN ?_
    | with_reducible refine w_asg ?_
    | with_reducible refine w_drop ?_
    | with_reducible refine w_ret ?_
    | ((with_reducible apply w_retV); exact rfl; exact rfl)
    | with_reducible refine w_retN ?_
    | with_reducible refine w_brk ?_
    | with_reducible refine w_cont ?_
    | with_reducible refine w_ifS ?_
    | with_reducible refine w_for ?_
    | with_reducible refine w_whileS ?_
    | ((with_reducible apply w_aug); exact rfl)
    | with_reducible refine w_par ?_
    | with_reducible refine w_par3 ?_
    | ((with_reducible apply w_app); exact rfl; exact rfl)
    | ((with_reducible apply w_ext); exact rfl; exact rfl)
    | ((with_reducible apply w_ins); exact rfl; exact rfl)
    | with_reducible refine w_fldSet ?_)
  | ((with_reducible refine (?_ : Wo _ _)); first
    | with_reducible refine z_d ?_
    | with_reducible refine z_l ?_
    | with_reducible refine z_s ?_
    | with_reducible refine z_i ?_
    | ((with_reducible apply wo_get); exact rfl)
    | with_reducible refine r_ret ?_
    | with_reducible refine r_nx ?_
    | with_reducible refine k_nil ?_
    | with_reducible refine k_d ?_
    | with_reducible refine k_s ?_
    | with_reducible refine k_io ?_
    | with_reducible refine mo_io ?_
    | with_reducible refine mo_own ?_
    | ((with_reducible apply g_name); exact rfl; exact rfl; k_allIn)
    | ((with_reducible apply g_tup); exact rfl; (try simp only [List.map_cons, List.map_nil]))
    | with_reducible refine g_cons ?_
    | with_reducible refine g_names ?_
    | with_reducible refine g_names0 ?_
    | with_reducible refine wo_of (e_zipL _ _) ?_
    | with_reducible refine wo_of (e_zipT _ _) ?_
    | with_reducible refine g_nil ?_
    | ((with_reducible apply g_subLNk); exact rfl; exact rfl)
    | ((with_reducible apply g_subLk); exact rfl; exact rfl)
    | ((with_reducible apply g_subDk); exact rfl; exact rfl)
    | with_reducible refine wo_of (e_addN _ _) ?_
    | with_reducible refine wo_of (e_addI _ _) ?_
    | with_reducible refine wo_of (e_subN (by omega)) ?_
    | with_reducible refine wo_of (e_subI _ _) ?_
    | with_reducible refine wo_of (e_mulN (by omega)) ?_
    | with_reducible refine wo_of (e_modN (by omega)) ?_
    | with_reducible refine wo_of (e_modI (by omega)) ?_
    | with_reducible refine wo_of (e_fdivN (by omega)) ?_
    | with_reducible refine wo_of (e_fdivI (by omega)) ?_
    | with_reducible refine wo_of (e_xor1 _) ?_
    | with_reducible refine wo_of e_neg1 ?_
    | with_reducible refine wo_of (e_negI _) ?_
    | with_reducible refine wo_of (e_ltN _ _) ?_
    | with_reducible refine wo_of (e_leN _ _) ?_
    | with_reducible refine wo_of (e_gtN _ _) ?_
    | with_reducible refine wo_of (e_geN _ _) ?_
    | with_reducible refine wo_of (e_ltI _ _) ?_
    | with_reducible refine wo_of (e_leI _ _) ?_
    | with_reducible refine wo_of (e_gtI _ _) ?_
    | with_reducible refine wo_of (e_geI _ _) ?_
    | with_reducible refine wo_of (e_eqN _ _) ?_
    | with_reducible refine wo_of (e_eqT0 _) ?_
    | with_reducible refine wo_of (e_eqT _ _) ?_
    | with_reducible refine wo_of (e_neT _ _) ?_
    | with_reducible refine wo_of (e_eqL0 _) ?_
    | with_reducible refine wo_of (e_eqLL _ _) ?_
    | with_reducible refine wo_of (e_neLL _ _) ?_
    | with_reducible refine wo_of (e_intB _) ?_
    | with_reducible refine wo_of (e_neN _ _) ?_
    | with_reducible refine wo_of (e_eqI _ _) ?_
    | with_reducible refine wo_of (e_neI _ _) ?_
    | with_reducible refine wo_of (e_ixL (by k_ownIn)) ?_
    | with_reducible refine wo_of (e_ixT (by k_ownIn)) ?_
    | with_reducible refine wo_of (e_ixO (by k_ownIn)) ?_
    | with_reducible refine wo_of (e_ixM (by k_ownIn)) ?_
    | with_reducible refine wo_of (e_catN2 (by k_ownIn)) ?_
    | with_reducible refine wo_of (e_catDD (by k_ownIn)) ?_
    | with_reducible refine wo_of (e_catDO (by k_ownIn)) ?_
    | with_reducible refine wo_of (e_catOD (by k_ownIn)) ?_
    | with_reducible refine wo_of (e_catOO (by k_ownIn)) ?_
    | with_reducible refine wo_of (e_repN (by k_ownIn)) ?_
    | with_reducible refine wo_of (e_repO (by k_ownIn)) ?_
    | with_reducible refine wo_of (e_max2 _ _) ?_
    | with_reducible refine wo_of (e_min2 _ _) ?_
    | with_reducible refine wo_of e_all ?_
    | with_reducible refine wo_of e_any ?_
    | with_reducible refine wo_of e_sum ?_
    | ((with_reducible refine wo_of (e_lenL _) ?_); k_allIn)
    | ((with_reducible refine wo_of (e_lenO _) ?_); k_allIn)
    | ((with_reducible refine wo_of (e_lenT _) ?_); k_allIn)
    | ((with_reducible refine wo_of (e_lenS _) ?_); k_allIn)
    | ((with_reducible refine wo_of (e_glenL _) ?_); k_allIn)
    | ((with_reducible refine wo_of (e_glenT _) ?_); k_allIn)
    | with_reducible refine wo_of (e_int _) ?_
    | with_reducible refine wo_of (e_tupL _) ?_
    | with_reducible refine wo_of (e_tupT _) ?_
    | with_reducible refine wo_of (e_listL _) ?_
    | with_reducible refine wo_of (e_listT _) ?_
    | with_reducible refine wo_of (e_truB _) ?_
    | with_reducible refine wo_of (e_truI _) ?_
    | with_reducible refine wo_of (e_truT _) ?_
    | with_reducible refine wo_of (e_truL _) ?_
    | with_reducible refine wo_of (e_keyI _) ?_
    | with_reducible refine it_l ?_
    | ((with_reducible apply wo_isNT); exact rfl)
    | ((with_reducible apply wo_isNF); exact rfl)
    | ((with_reducible apply wo_isBT); exact rfl)
    | ((with_reducible apply wo_isBF); exact rfl)
    | ((with_reducible apply wo_isiT); exact rfl)
    | ((with_reducible apply wo_isiF); exact rfl)
    | ((with_reducible apply wo_iscT); exact rfl)
    | ((with_reducible apply wo_iscF); exact rfl)
    | with_reducible refine it_t ?_
    | ((with_reducible apply e_lookup); exact rfl)
    | ((with_reducible apply e_index); exact rfl; k_ownIn))
  | ((with_reducible refine (?_ : Wp _ _)); first
    | with_reducible refine w_next ?_
    | with_reducible refine w_cN ?_
    | with_reducible refine w_c ?_
    | ((with_reducible apply w_varD); exact rfl)
    | ((with_reducible apply w_varL); exact rfl; k_allIn)
    | ((with_reducible apply w_varS); exact rfl)
    | ((with_reducible apply w_varI); exact rfl; k_allIn)
    | with_reducible refine w_un ?_
    | with_reducible refine w_fz ?_
    | with_reducible refine w_bin ?_
    | with_reducible refine w_nil ?_
    | with_reducible refine w_cons ?_
    | with_reducible refine w_cb ?_
    | with_reducible refine w_tup ?_
    | with_reducible refine w_lst ?_
    | ((with_reducible apply w_varB); exact rfl; exact rfl)
    | with_reducible refine w_binB ?_
    | ((with_reducible apply w_lenB); exact rfl; exact rfl)
    | with_reducible refine w_notT ?_
    | with_reducible refine w_andT ?_
    | with_reducible refine w_orT ?_
    | with_reducible refine w_testB ?_
    | with_reducible refine w_tru ?_
    | with_reducible refine w_yes ?_
    | with_reducible refine w_andV ?_
    | with_reducible refine w_orV ?_
    | with_reducible refine w_notV ?_
    | with_reducible refine w_ifE ?_
    | with_reducible refine w_call ?_
    | with_reducible refine w_callRev ?_
    | ((with_reducible apply w_callIO); exact rfl; exact rfl)
    | with_reducible refine w_callF ?_
    | with_reducible refine w_meth ?_
    | with_reducible refine w_prop ?_
    | with_reducible refine w_fld ?_
    | with_reducible refine w_make ?_
    | with_reducible refine w_isi ?_
    | with_reducible refine w_noPart ?_
    | with_reducible refine w_part ?_
    | with_reducible refine w_sl ?_
    | with_reducible refine w_revL ?_
    | ((with_reducible apply w_index); exact rfl; exact rfl)
    | with_reducible refine w_dnew ?_
    | with_reducible refine w_disp2 ?_
    | with_reducible refine w_setNew ?_
    | ((with_reducible apply w_getB); exact rfl; exact rfl)
    | with_reducible refine w_inD ?_
    | with_reducible refine w_iseq ?_
    | with_reducible refine w_irng ?_
    | with_reducible refine w_lrgN ?_
    | with_reducible refine w_ienum ?_
    | with_reducible refine w_izip ?_
    | with_reducible refine w_lc ?_)
  | with_reducible refine br_T ?_
  | with_reducible refine br_F ?_
  | with_reducible refine br_nT ?_
  | with_reducible refine br_nF ?_
  | with_reducible refine br_dec ?_
  | with_reducible refine br_and ?_
  | with_reducible refine br_or ?_
  | with_reducible refine s_rfl ?_
  | with_reducible refine br_ndec ?_
  | with_reducible apply s_bl
  | with_reducible apply s_nat
  | with_reducible apply s_int
  | with_reducible apply s_ins
  | with_reducible apply s_d
  | with_reducible apply s_own
  | with_reducible apply s_oneN
  | ((with_reducible apply s_rngN); k_ownIn)
  | ((with_reducible apply s_rngI); k_ownIn)
  | with_reducible apply s_one
  | with_reducible apply s_insK
  | with_reducible apply s_three
  | (with_reducible apply s_mk; k_allIn)
  | (with_reducible apply s_io; k_allIn)
  | with_reducible apply s_zipL
  | with_reducible apply s_zipT
  | ((with_reducible apply s_isNo); exact rfl)
  | ((with_reducible apply s_blt); exact rfl; k_allIn)
  | ((with_reducible apply s_blt3); exact rfl; k_allIn)
  | ((with_reducible apply s_plain); exact rfl; (try simp only [wipeD, restD, List.set_cons_succ, List.set_cons_zero, List.getElem?_cons_zero, List.getElem?_cons_succ, Option.getD_some]))
  | ((with_reducible apply s_con); decide +kernel)
  | ((with_reducible apply s_dats); exact rfl; exact rfl)
  | ((with_reducible apply s_moLN); exact rfl; k_ownIn; k_allIn)
  | ((with_reducible apply s_moL); exact rfl; k_ownIn; k_allIn)
  | ((with_reducible apply s_moDl); exact rfl; k_ownIn; k_allIn)
  | ((with_reducible apply s_moD); exact rfl)
  | ((with_reducible apply s_moO); exact rfl; exact rfl; k_allIn)
  | ((with_reducible apply s_lst); exact rfl)
  | ((with_reducible apply s_lt); k_ownIn; k_allIn)
  | ((with_reducible apply s_le); k_ownIn))
local macro_rules | `(tactic| k_places) => `(tactic| repeat k_memK)
local macro_rules | `(tactic| k_clsL) => `(tactic| repeat first | with_reducible refine w_andP ?_ | with_reducible refine w_orP ?_ | k_memK)
/-! ### names -/
def reads (n : Nat) (t : List Nat) : List (List Nat) := (List.range (2 * n)).map fun d => told (tf t) (ord n (tf t) d)
def nameL (n : Nat) (t : List Nat) : List Nat := leastN (reads n t)
theorem w_lname {n : Nat} {t : List Nat} (W : Wd n t) (hn : n ≤ 14) {Q : SD → List SD → Prop} (k : Q (.d (tupN (nameL n t))) [.d (lstN t)]) : Wp (Φ__law_name [.d (lstN t)]) Q := by
  have hl := W.len
  unfold Φ__law_name F__law_name
  refine w_runF rfl ?_
  simp only [List.replicate, List.cons_append, List.nil_append, Nat.reduceSub]
  k_places
  refine w_lcY (fun d => Dat.tup ((told (tf t) (ord n (tf t) d)).map nI)) (fun d hd => ?_) (by simp; omega) ?_
  · have hd := List.mem_range.mp hd
    k_places
    refine w_lread W hn (by omega) ?_
    k_places
    exact ⟨rfl, rfl⟩
  · k_allIn
    k_places
    have h1 : (if t = [] then 1 else 0) ≤ 100000 := by split <;> omega
    k_places
    refine wo_of (e_catOO (by simp; split <;> omega)) ?_
    k_places
    by_cases h0 : t = []
    · subst h0
      obtain rfl : n = 0 := by simp at hl; omega
      refine wo_of (show gMinB _ = some (.d (.tup [])) from rfl) ?_
      k_places
      exact k
    · rw [if_neg h0, List.replicate_zero, List.append_nil, hl]
      have e : ((List.range (2 * n)).map fun d => Dat.tup ((told (tf t) (ord n (tf t) d)).map nI)) = (reads n t).map fun l => Dat.tup (l.map nI) := by unfold reads; rw [List.map_map]; rfl
      have hn0 : n ≠ 0 := fun z => h0 (List.eq_nil_of_length_eq_zero (by omega))
      rw [e]
      refine wo_of (e_minT (fun z => ?_)) ?_
      · have := congrArg List.length z
        unfold reads at this
        simp at this
        omega
      k_places
      exact k
/-! ### webs -/
theorem w_init {n : Nat} {t : List Nat} (W : Wd n t) (hn : n ≤ 14) {Q : SD → List SD → Prop} (k : ∀ p q, Q (.d .non) [.io (.obj 0 [("_turn", tupN t), ("_places", p), ("_faces", q)]), .d (tupN t)]) : Wp (K62.Φ_Web_init [.io (.obj 0 []), .d (tupN t)]) Q := by
  rcases Nat.eq_zero_or_pos n with h | h
  · subst h
    obtain rfl : t = [] := List.eq_nil_of_length_eq_zero W.len
    exact w_of (show K62.Φ_Web_init [.io (.obj 0 []), .d (tupN [])] = some (.d .non, [.io (.obj 0 [("_turn", tupN []), ("_places", .lst [.tup []]), ("_faces", .lst [.tup []])]), .d (tupN [])]) by kernel_rfl) (k _ _)
  · obtain ⟨V, Wt⟩ := W.web.resolve_left (by omega)
    obtain ⟨p, q, e⟩ := K62.v_Web_init h (⟨W.len, fun _ _ => rfl⟩ : Tn n (tf t) t) Wt hn
    exact w_of e (k _ _)
theorem w_web {n : Nat} {t : List Nat} (W : Wd n t) (hn : n ≤ 14) {Q : SD → List SD → Prop} (k : ∀ p q, Q (.own (.obj 0 [("_turn", tupN t), ("_places", p), ("_faces", q)])) [.d (lstN t)]) : Wp (Φ__law_two [.d (lstN t)]) Q := by
  unfold Φ__law_two F__law_two
  refine w_runF rfl ?_
  simp only [List.replicate, List.cons_append, List.nil_append, Nat.reduceSub]
  k_places
  refine w_init W hn fun p q => ?_
  k_places
  exact k p q
theorem w_turn {t : List Nat} {p q : Dat} {Q : SD → List SD → Prop} (k : Q (.d (tupN t)) [.d (webD t p q)]) : Wp (K62.Φ_Web_turn [.d (webD t p q)]) Q := w_of (K62.v_Web_turn t p q) k
theorem w_check {t : List Nat} {p q : Dat} {Q : SD → List SD → Prop} (k : Q (.d .non) [.d (webD t p q)]) : Wp (K62.Φ_check_web [.d (webD t p q)]) Q := w_of (K62.v_check_web t p q) k
theorem w_many {n : Nat} {t : List Nat} {p q : Dat} (h : t.length = 2 * n) {Q : SD → List SD → Prop} (k : Q (.d (nI n)) [.d (webD t p q)]) : Wp (K62.Φ_Web_many [.d (webD t p q)]) Q := w_of (K62.v_Web_many p q h) k
theorem w_name {n : Nat} {t : List Nat} {p q : Dat} (W : Wd n t) (hn : n ≤ 14) {Q : SD → List SD → Prop} (k : Q (.d (tupN (nameL n t))) [.d (webD t p q)]) : Wp (Φ_name [.d (webD t p q)]) Q := by
  have hl := W.len
  unfold Φ_name F_name
  refine w_runF rfl ?_
  simp only [List.replicate, List.cons_append, List.nil_append, Nat.reduceSub]
  k_places
  refine w_check ?_
  k_places
  refine w_turn ?_
  k_places
  refine ⟨fun h0 => ?_, fun h0 => ?_⟩
  · subst h0
    obtain rfl : n = 0 := by simp at hl; omega
    k_places
    exact k
  · k_places
    rw [hl]
    refine w_lcY (fun d => Dat.tup ((told (tf t) (ord n (tf t) d)).map nI)) (fun d hd => ?_) (by simp; omega) ?_
    · have hd := List.mem_range.mp hd
      k_places
      refine w_read W hn (by omega) ?_
      k_places
      refine wo_of (show gIx (.d (.tup [tupN (told (tf t) (ord n (tf t) d)), lstN (ord n (tf t) d)])) (.d (nI 0)) = some (.d (tupN (told (tf t) (ord n (tf t) d)))) from rfl) ?_
      k_places
      exact ⟨rfl, rfl⟩
    · k_allIn
      k_places
      have e : ((List.range (2 * n)).map fun d => Dat.tup ((told (tf t) (ord n (tf t) d)).map nI)) = (reads n t).map fun l => Dat.tup (l.map nI) := by unfold reads; rw [List.map_map]; rfl
      have hn0 : n ≠ 0 := fun z => h0 (List.eq_nil_of_length_eq_zero (by omega))
      rw [e]
      refine wo_of (e_minT (fun z => ?_)) ?_
      · have := congrArg List.length z
        unfold reads at this
        simp at this
        omega
      k_places
      exact k
end K12

set_option Elab.async false
set_option linter.all false
set_option maxRecDepth 100000
set_option maxHeartbeats 4000000
namespace K12
open PySem PySem.Spec PyProof.Rows L2 DP WM
open K62 (Tn tupN lstN webD)
local macro_rules | `(tactic| k_ownIn) => `(tactic| focus first | assumption | omega | (simp; done) | (simp; omega) | (simp_all; done))
local macro_rules | `(tactic| k_allIn) => `(tactic| try simp only [List.set_cons_succ, List.set_cons_zero, SD.re, List.length_map, List.length_replicate, List.length_range, List.length_cons, List.length_nil, Nat.zero_add, Nat.reduceAdd])
local macro_rules | `(tactic| k_memK) => `(tactic| first
  | ((with_reducible refine (?_ : Wp (dSeq _ _ _) _)); first
    | with_reducible refine w_seqA ?_
    | with_reducible refine w_seqN ?_
    | with_reducible refine w_asg ?_
    | with_reducible refine w_drop ?_
    | with_reducible refine w_ret ?_
    | ((with_reducible apply w_retV); exact rfl; exact rfl)
    | with_reducible refine w_retN ?_
    | with_reducible refine w_brk ?_
    | with_reducible refine w_cont ?_
    | with_reducible refine w_ifS ?_
    | with_reducible refine w_for ?_
    | with_reducible refine w_whileS ?_
    | ((with_reducible apply w_aug); exact rfl)
    | with_reducible refine w_par ?_
    | with_reducible refine w_par3 ?_
    | ((with_reducible apply w_app); exact rfl; exact rfl)
    | ((with_reducible apply w_ext); exact rfl; exact rfl)
    | ((with_reducible apply w_ins); exact rfl; exact rfl)
    | with_reducible refine w_fldSet ?_)
  | ((with_reducible refine (?_ : Wo _ _)); first
    | with_reducible refine z_d ?_
    | with_reducible refine z_l ?_
    | with_reducible refine z_s ?_
    | with_reducible refine z_i ?_
    | ((with_reducible apply wo_get); exact rfl)
    | with_reducible refine r_ret ?_
    | with_reducible refine r_nx ?_
    | with_reducible refine k_nil ?_
    | with_reducible refine k_d ?_
    | with_reducible refine k_s ?_
    | with_reducible refine k_io ?_
    | with_reducible refine mo_io ?_
    | with_reducible refine mo_own ?_
    | ((with_reducible apply g_name); exact rfl; exact rfl; k_allIn)
    | ((with_reducible apply g_tup); exact rfl; (try simp only [List.map_cons, List.map_nil]))
    | with_reducible refine g_cons ?_
    | with_reducible refine g_names ?_
    | with_reducible refine g_names0 ?_
    | with_reducible refine wo_of (e_zipL _ _) ?_
    | with_reducible refine wo_of (e_zipT _ _) ?_
    | with_reducible refine g_nil ?_
    | ((with_reducible apply g_subLNk); exact rfl; exact rfl)
    | ((with_reducible apply g_subLk); exact rfl; exact rfl)
    | ((with_reducible apply g_subDk); exact rfl; exact rfl)
    | with_reducible refine wo_of (e_addN _ _) ?_
    | with_reducible refine wo_of (e_addI _ _) ?_
    | with_reducible refine wo_of (e_subN (by omega)) ?_
    | with_reducible refine wo_of (e_subI _ _) ?_
    | with_reducible refine wo_of (e_mulN (by omega)) ?_
    | with_reducible refine wo_of (e_modN (by omega)) ?_
    | with_reducible refine wo_of (e_modI (by omega)) ?_
    | with_reducible refine wo_of (e_fdivN (by omega)) ?_
    | with_reducible refine wo_of (e_fdivI (by omega)) ?_
    | with_reducible refine wo_of (e_xor1 _) ?_
    | with_reducible refine wo_of e_neg1 ?_
    | with_reducible refine wo_of (e_negI _) ?_
    | with_reducible refine wo_of (e_ltN _ _) ?_
    | with_reducible refine wo_of (e_leN _ _) ?_
    | with_reducible refine wo_of (e_gtN _ _) ?_
    | with_reducible refine wo_of (e_geN _ _) ?_
    | with_reducible refine wo_of (e_ltI _ _) ?_
    | with_reducible refine wo_of (e_leI _ _) ?_
    | with_reducible refine wo_of (e_gtI _ _) ?_
    | with_reducible refine wo_of (e_geI _ _) ?_
    | with_reducible refine wo_of (e_eqN _ _) ?_
    | with_reducible refine wo_of (e_eqT0 _) ?_
    | with_reducible refine wo_of (e_eqT _ _) ?_
    | with_reducible refine wo_of (e_neT _ _) ?_
    | with_reducible refine wo_of (e_eqL0 _) ?_
    | with_reducible refine wo_of (e_eqLL _ _) ?_
    | with_reducible refine wo_of (e_neLL _ _) ?_
    | with_reducible refine wo_of (e_intB _) ?_
    | with_reducible refine wo_of (e_neN _ _) ?_
    | with_reducible refine wo_of (e_eqI _ _) ?_
    | with_reducible refine wo_of (e_neI _ _) ?_
    | with_reducible refine wo_of (e_ixL (by k_ownIn)) ?_
    | with_reducible refine wo_of (e_ixT (by k_ownIn)) ?_
    | with_reducible refine wo_of (e_ixO (by k_ownIn)) ?_
    | with_reducible refine wo_of (e_ixM (by k_ownIn)) ?_
    | with_reducible refine wo_of (e_catN2 (by k_ownIn)) ?_
    | with_reducible refine wo_of (e_catDD (by k_ownIn)) ?_
    | with_reducible refine wo_of (e_catDO (by k_ownIn)) ?_
    | with_reducible refine wo_of (e_catOD (by k_ownIn)) ?_
    | with_reducible refine wo_of (e_catOO (by k_ownIn)) ?_
    | with_reducible refine wo_of (e_repN (by k_ownIn)) ?_
    | with_reducible refine wo_of (e_repO (by k_ownIn)) ?_
    | with_reducible refine wo_of (e_max2 _ _) ?_
    | with_reducible refine wo_of (e_min2 _ _) ?_
    | with_reducible refine wo_of e_all ?_
    | with_reducible refine wo_of e_any ?_
    | with_reducible refine wo_of e_sum ?_
    | ((with_reducible refine wo_of (e_lenL _) ?_); k_allIn)
    | ((with_reducible refine wo_of (e_lenO _) ?_); k_allIn)
    | ((with_reducible refine wo_of (e_lenT _) ?_); k_allIn)
    | ((with_reducible refine wo_of (e_lenS _) ?_); k_allIn)
    | ((with_reducible refine wo_of (e_glenL _) ?_); k_allIn)
    | ((with_reducible refine wo_of (e_glenT _) ?_); k_allIn)
    | with_reducible refine wo_of (e_int _) ?_
    | with_reducible refine wo_of (e_tupL _) ?_
    | with_reducible refine wo_of (e_tupT _) ?_
    | with_reducible refine wo_of (e_listL _) ?_
    | with_reducible refine wo_of (e_listT _) ?_
    | with_reducible refine wo_of (e_truB _) ?_
    | with_reducible refine wo_of (e_truI _) ?_
    | with_reducible refine wo_of (e_truT _) ?_
    | with_reducible refine wo_of (e_truL _) ?_
    | with_reducible refine wo_of (e_keyI _) ?_
    | with_reducible refine it_l ?_
    | ((with_reducible apply wo_isNT); exact rfl)
    | ((with_reducible apply wo_isNF); exact rfl)
    | ((with_reducible apply wo_isBT); exact rfl)
    | ((with_reducible apply wo_isBF); exact rfl)
    | ((with_reducible apply wo_isiT); exact rfl)
    | ((with_reducible apply wo_isiF); exact rfl)
    | ((with_reducible apply wo_iscT); exact rfl)
    | ((with_reducible apply wo_iscF); exact rfl)
    | with_reducible refine it_t ?_
    | ((with_reducible apply e_lookup); exact rfl)
    | ((with_reducible apply e_index); exact rfl; k_ownIn))
  | ((with_reducible refine (?_ : Wp _ _)); first
    | with_reducible refine w_next ?_
    | with_reducible refine w_cN ?_
    | with_reducible refine w_c ?_
    | ((with_reducible apply w_varD); exact rfl)
    | ((with_reducible apply w_varL); exact rfl; k_allIn)
    | ((with_reducible apply w_varS); exact rfl)
    | ((with_reducible apply w_varI); exact rfl; k_allIn)
    | with_reducible refine w_un ?_
    | with_reducible refine w_fz ?_
    | with_reducible refine w_bin ?_
    | with_reducible refine w_nil ?_
    | with_reducible refine w_cons ?_
    | with_reducible refine w_cb ?_
    | with_reducible refine w_tup ?_
    | with_reducible refine w_lst ?_
    | ((with_reducible apply w_varB); exact rfl; exact rfl)
    | with_reducible refine w_binB ?_
    | ((with_reducible apply w_lenB); exact rfl; exact rfl)
    | with_reducible refine w_notT ?_
    | with_reducible refine w_andT ?_
    | with_reducible refine w_orT ?_
    | with_reducible refine w_testB ?_
    | with_reducible refine w_tru ?_
    | with_reducible refine w_yes ?_
    | with_reducible refine w_andV ?_
    | with_reducible refine w_orV ?_
    | with_reducible refine w_notV ?_
    | with_reducible refine w_ifE ?_
    | with_reducible refine w_call ?_
    | with_reducible refine w_callRev ?_
    | ((with_reducible apply w_callIO); exact rfl; exact rfl)
    | with_reducible refine w_callF ?_
    | with_reducible refine w_meth ?_
    | with_reducible refine w_prop ?_
    | with_reducible refine w_fld ?_
    | with_reducible refine w_make ?_
    | with_reducible refine w_isi ?_
    | with_reducible refine w_noPart ?_
    | with_reducible refine w_part ?_
    | with_reducible refine w_sl ?_
    | with_reducible refine w_revL ?_
    | ((with_reducible apply w_index); exact rfl; exact rfl)
    | with_reducible refine w_dnew ?_
    | with_reducible refine w_disp2 ?_
    | with_reducible refine w_setNew ?_
    | ((with_reducible apply w_getB); exact rfl; exact rfl)
    | with_reducible refine w_inD ?_
    | with_reducible refine w_iseq ?_
    | with_reducible refine w_irng ?_
    | with_reducible refine w_lrgN ?_
    | with_reducible refine w_ienum ?_
    | with_reducible refine w_izip ?_
    | with_reducible refine w_lc ?_)
  | with_reducible refine br_T ?_
  | with_reducible refine br_F ?_
  | with_reducible refine br_nT ?_
  | with_reducible refine br_nF ?_
  | with_reducible refine br_dec ?_
  | with_reducible refine br_and ?_
  | with_reducible refine br_or ?_
  | with_reducible refine s_rfl ?_
  | with_reducible refine br_ndec ?_
  | with_reducible apply s_bl
  | with_reducible apply s_nat
  | with_reducible apply s_int
  | with_reducible apply s_ins
  | with_reducible apply s_d
  | with_reducible apply s_own
  | with_reducible apply s_oneN
  | ((with_reducible apply s_rngN); k_ownIn)
  | ((with_reducible apply s_rngI); k_ownIn)
  | with_reducible apply s_one
  | with_reducible apply s_insK
  | with_reducible apply s_three
  | (with_reducible apply s_mk; k_allIn)
  | (with_reducible apply s_io; k_allIn)
  | with_reducible apply s_zipL
  | with_reducible apply s_zipT
  | ((with_reducible apply s_isNo); exact rfl)
  | ((with_reducible apply s_blt); exact rfl; k_allIn)
  | ((with_reducible apply s_blt3); exact rfl; k_allIn)
  | ((with_reducible apply s_plain); exact rfl; (try simp only [wipeD, restD, List.set_cons_succ, List.set_cons_zero, List.getElem?_cons_zero, List.getElem?_cons_succ, Option.getD_some]))
  | ((with_reducible apply s_con); decide +kernel)
  | ((with_reducible apply s_dats); exact rfl; exact rfl)
  | ((with_reducible apply s_moLN); exact rfl; k_ownIn; k_allIn)
  | ((with_reducible apply s_moL); exact rfl; k_ownIn; k_allIn)
  | ((with_reducible apply s_moDl); exact rfl; k_ownIn; k_allIn)
  | ((with_reducible apply s_moD); exact rfl)
  | ((with_reducible apply s_moO); exact rfl; exact rfl; k_allIn)
  | ((with_reducible apply s_lst); exact rfl)
  | ((with_reducible apply s_lt); k_ownIn; k_allIn)
  | ((with_reducible apply s_le); k_ownIn))
local macro_rules | `(tactic| k_places) => `(tactic| repeat k_memK)
local macro_rules | `(tactic| k_clsL) => `(tactic| repeat first | with_reducible refine w_andP ?_ | with_reducible refine w_orP ?_ | k_memK)
/-! ### called otherwise -/
theorem enum_it {l : List Nat} {i : Nat} {v : Dat} (h : (enumD (l.map nI))[i]? = some v) : i < l.length ∧ v = .tup [nI i, nI (l.getD i 0)] := by
  rw [enum_map] at h
  exact range_it h
/-- the new names of the first j of the darts o -/
def newL (N : Nat) (o : List Nat) (j : Nat) : List Nat := (List.range N).map fun x => if x ∈ o.take j ∨ fl x ∈ o.take j then callP o x else 0
theorem getD_map_range {N x : Nat} (f : Nat → Nat) (h : x < N) : ((List.range N).map f).getD x 0 = f x := by
  rw [List.getD_eq_getElem?_getD, List.getElem?_map, List.getElem?_range h]; rfl
theorem ext_getD {l l' : List Nat} (hl : l.length = l'.length) (h : ∀ x, x < l'.length → l.getD x 0 = l'.getD x 0) : l = l' := by
  apply List.ext_getElem hl
  intro i h1 h2
  have := h i h2
  rw [List.getD_eq_getElem?_getD, List.getD_eq_getElem?_getD, List.getElem?_eq_getElem h1, List.getElem?_eq_getElem h2] at this
  exact this
theorem newL_step {n : Nat} {o : List Nat} (T : Tr n o) {j : Nat} (hj : j < n) : ((newL (2 * n) o j).set (o.getD j 0) (2 * j)).set (fl (o.getD j 0)) (2 * j + 1) = newL (2 * n) o (j + 1) := by
  have hl : j < o.length := by rw [T.len]; exact hj
  have hm := getD_mem hl
  have hidx := idx_at T.nodup hl
  have hlt := T.lt _ hm
  refine ext_getD (by simp [newL]) fun x h2 => ?_
  · have hx : x < 2 * n := by simpa [newL] using h2
    · 
      rw [getD_set, getD_set]
      unfold newL
      rw [getD_map_range _ hx, getD_map_range _ hx]
      simp only [List.length_map, List.length_range, List.length_set]
      have tk : ∀ y, y ∈ o.take (j + 1) ↔ y ∈ o.take j ∨ y = o.getD j 0 := fun y => by
        rw [List.take_succ, List.mem_append, List.getElem?_eq_getElem hl, List.getD_eq_getElem?_getD, List.getElem?_eq_getElem hl]
        simp
      simp only [tk]
      by_cases a : fl (o.getD j 0) = x
      · have c1 : callP o x = 2 * j + 1 := by
          rw [← a, callP_fl T (by omega)]
          unfold callP
          rw [if_pos hm, hidx, fl_2]
        have c2 : fl x = o.getD j 0 := by rw [← a, fl_fl]
        rw [if_pos ⟨a, hx⟩, if_pos (.inr (.inr c2)), c1]
      · rw [if_neg (fun z => a z.1)]
        by_cases b : o.getD j 0 = x
        · have c1 : callP o x = 2 * j := by
            rw [← b]
            unfold callP
            rw [if_pos hm, hidx]
          rw [if_pos ⟨b, hx⟩, if_pos (.inl (.inr b.symm)), c1]
        · rw [if_neg (fun z => b z.1)]
          have d1 : ¬ x = o.getD j 0 := fun z => b z.symm
          have d2 : ¬ fl x = o.getD j 0 := fun z => a (by rw [← z, fl_fl])
          simp only [d1, d2, or_false]
theorem newL_all {n : Nat} {o : List Nat} (T : Tr n o) {x : Nat} (hx : x < 2 * n) : (newL (2 * n) o n).getD x 0 = callP o x := by
  unfold newL
  rw [getD_map_range _ hx, show o.take n = o by rw [← T.len, List.take_length]]
  rw [if_pos (T.mem hx)]
theorem newL_zero (N : Nat) (o : List Nat) : newL N o 0 = List.replicate N 0 := by
  unfold newL
  apply List.ext_getElem
  · simp
  · intro i h1 h2; simp
/-- what comes of a turn whose first j darts are told by the new names -/
def toldL (t : List Nat) (p : Nat → Nat) (q : List Nat) : Nat → List Nat
  | 0 => q
  | j + 1 => (toldL t p q j).set (p j) (p (t.getD j 0))
theorem toldL_len (t : List Nat) (p : Nat → Nat) (q : List Nat) : ∀ j, (toldL t p q j).length = q.length
  | 0 => rfl
  | j + 1 => by show (List.set _ _ _).length = _; rw [List.length_set, toldL_len t p q j]
theorem toldL_get {N : Nat} {t : List Nat} {p : Nat → Nat} {q : List Nat} (P : Pm N p) (hq : q.length = N) : ∀ j, j ≤ N → ∀ x, x < j → (toldL t p q j).getD (p x) 0 = p (t.getD x 0)
  | 0, _, x, h => by omega
  | j + 1, hj, x, h => by
    show (List.set _ _ _).getD _ _ = _
    rw [getD_set, toldL_len, hq]
    by_cases e : x = j
    · subst e; rw [if_pos ⟨rfl, P.lt x (by omega)⟩]
    · rw [if_neg (fun z => e (P.inj j x (by omega) (by omega) z.1).symm)]
      exact toldL_get P hq j (by omega) x (by omega)
theorem w_called {p0 p1 : Int} (hp : PotOk p0 p1) {n : Nat} {t : List Nat} (W : Wd n t) (hn : n ≤ 14) {Q : SD → List SD → Prop} (k : ∀ u p q0 q1, Wd n u → Cal n (tf t) (tf u) p → PotOk q0 q1 → Q (.own (.lst (u.map nI))) [pot q0 q1, .d (lstN t)]) : Wp (Φ__law_called [pot p0 p1, .d (lstN t)]) Q := by
  have hl := W.len
  unfold Φ__law_called F__law_called
  refine w_runF rfl ?_
  simp only [List.replicate, List.cons_append, List.nil_append, Nat.reduceSub]
  k_places
  refine w_loop (fun i ρ => ∃ q0 q1 o s3, ρ = [pot q0 q1, .d (lstN t), .own (.lst (o.map nI)), s3, .no, .no, .no, .no, .no] ∧ PotOk q0 q1 ∧ Tr i o) ⟨_, _, [], _, rfl, hp, ⟨rfl, by simp, by simp⟩⟩ ?_ ?_
  · rintro i v ρ hv ⟨q0, q1, o, s3, rfl, hq, T⟩
    obtain ⟨hi, rfl⟩ := range_it hv
    have hol := T.len
    k_places
    refine w_draw hq (by omega) (by omega) fun a a0 a1 ha hqa => ?_
    k_places
    refine w_draw hqa (by omega) (by omega) fun b b0 b1 hb hqb => ?_
    k_places
    exact ⟨_, _, o.take a ++ [2 * i + b] ++ o.drop a, .d (nI i), by rw [List.map_append, List.map_append, List.map_take, List.map_drop]; rfl, hqb, tr_ins T hb⟩
  · rintro ρ ⟨q0, q1, o, s3, rfl, hq, T⟩
    have en : t.length / 2 = n := by omega
    simp only [List.length_map, List.length_range, en] at T
    have hol := T.len
    show Wp _ _
    k_places
    refine w_loop (fun j ρ => ∃ s5 s6, ρ = [pot q0 q1, .d (lstN t), .d (lstN o), s3, .own (.lst ((newL (2 * n) o j).map nI)), s5, s6, .no, .no]) ⟨_, _, by rw [newL_zero, hl]⟩ ?_ ?_
    · rintro j v ρ hv ⟨s5, s6, rfl⟩
      obtain ⟨hj, rfl⟩ := enum_it hv
      have hlt := T.lt _ (getD_mem hj)
      have hfl : fl (o.getD j 0) < 2 * n := fl_lt (by omega)
      have hnl : (newL (2 * n) o j).length = 2 * n := by simp [newL]
      k_places
      exact ⟨.d (nI j), .d (nI (o.getD j 0)), by rw [newL_step T (by omega)]⟩
    · rintro ρ ⟨s5, s6, rfl⟩
      rw [enum_map]
      simp only [List.length_map, List.length_range, hol]
      show Wp _ _
      have P := callP_pm T
      have hnl : (newL (2 * n) o n).length = 2 * n := by simp [newL]
      k_places
      refine w_loop (fun j ρ => ∃ s6 s8, ρ = [pot q0 q1, .d (lstN t), .d (lstN o), s3, .own (.lst ((newL (2 * n) o n).map nI)), s5, s6, .own (.lst ((toldL t (callP o) (List.replicate (2 * n) 0) j).map nI)), s8]) ⟨_, _, by rw [hl]; rfl⟩ ?_ ?_
      · rintro j v ρ hv ⟨s6, s8, rfl⟩
        obtain ⟨hj, rfl⟩ := enum_it hv
        have htl := toldL_len t (callP o) (List.replicate (2 * n) 0) j
        rw [List.length_replicate] at htl
        have hn0 : n ≠ 0 := by omega
        obtain ⟨V, Wt⟩ := W.web.resolve_left hn0
        have htj : t.getD j 0 < 2 * n := Wt.pm.lt j (by omega)
        have e1 := newL_all T (show j < 2 * n by omega)
        have e2 := newL_all T htj
        have h1 := P.lt j (by omega)
        have h2 := P.lt _ htj
        k_places
        rw [e1, e2]
        k_places
        exact ⟨.d (nI j), .d (nI (t.getD j 0)), rfl⟩
      · rintro ρ ⟨s6, s8, rfl⟩
        rw [enum_map]
        simp only [List.length_map, List.length_range, hl]
        show Wp _ _
        k_places
        have C : Cal n (tf t) (tf (toldL t (callP o) (List.replicate (2 * n) 0) (2 * n))) (callP o) := ⟨P, fun x hx => callP_fl T hx, fun x hx => toldL_get P (by simp) (2 * n) (Nat.le_refl _) x hx⟩
        exact k _ _ _ _ (W.cal (by rw [toldL_len, List.length_replicate]) C) C hq
end K12

set_option Elab.async false
set_option linter.all false
set_option maxRecDepth 100000
set_option maxHeartbeats 4000000
namespace K12
open PySem PySem.Spec PyProof.Rows L2 DP WM
open K62 (Tn tupN lstN webD)
local macro_rules | `(tactic| k_ownIn) => `(tactic| focus first | assumption | omega | (simp; done) | (simp; omega) | (simp_all; done))
local macro_rules | `(tactic| k_allIn) => `(tactic| try simp only [List.set_cons_succ, List.set_cons_zero, SD.re, List.length_map, List.length_replicate, List.length_range, List.length_cons, List.length_nil, Nat.zero_add, Nat.reduceAdd])
local macro_rules | `(tactic| k_memK) => `(tactic| first
  | ((with_reducible refine (?_ : Wp (dSeq _ _ _) _)); first
    | with_reducible refine w_seqA ?_
    | with_reducible refine w_seqN ?_
    | with_reducible refine w_asg ?_
    | with_reducible refine w_drop ?_
    | with_reducible refine w_ret ?_
    | ((with_reducible apply w_retV); exact rfl; exact rfl)
    | with_reducible refine w_retN ?_
    | with_reducible refine w_brk ?_
    | with_reducible refine w_cont ?_
    | with_reducible refine w_ifS ?_
    | with_reducible refine w_for ?_
    | with_reducible refine w_whileS ?_
    | ((with_reducible apply w_aug); exact rfl)
    | with_reducible refine w_par ?_
    | with_reducible refine w_par3 ?_
    | ((with_reducible apply w_app); exact rfl; exact rfl)
    | ((with_reducible apply w_ext); exact rfl; exact rfl)
    | ((with_reducible apply w_ins); exact rfl; exact rfl)
    | with_reducible refine w_fldSet ?_)
  | ((with_reducible refine (?_ : Wo _ _)); first
    | with_reducible refine z_d ?_
    | with_reducible refine z_l ?_
    | with_reducible refine z_s ?_
    | with_reducible refine z_i ?_
    | ((with_reducible apply wo_get); exact rfl)
    | with_reducible refine r_ret ?_
    | with_reducible refine r_nx ?_
    | with_reducible refine k_nil ?_
    | with_reducible refine k_d ?_
    | with_reducible refine k_s ?_
    | with_reducible refine k_io ?_
    | with_reducible refine mo_io ?_
    | with_reducible refine mo_own ?_
    | ((with_reducible apply g_name); exact rfl; exact rfl; k_allIn)
    | ((with_reducible apply g_tup); exact rfl; (try simp only [List.map_cons, List.map_nil]))
    | with_reducible refine g_cons ?_
    | with_reducible refine g_names ?_
    | with_reducible refine g_names0 ?_
    | with_reducible refine wo_of (e_zipL _ _) ?_
    | with_reducible refine wo_of (e_zipT _ _) ?_
    | with_reducible refine g_nil ?_
    | ((with_reducible apply g_subLNk); exact rfl; exact rfl)
    | ((with_reducible apply g_subLk); exact rfl; exact rfl)
    | ((with_reducible apply g_subDk); exact rfl; exact rfl)
    | with_reducible refine wo_of (e_addN _ _) ?_
    | with_reducible refine wo_of (e_addI _ _) ?_
    | with_reducible refine wo_of (e_subN (by omega)) ?_
    | with_reducible refine wo_of (e_subI _ _) ?_
    | with_reducible refine wo_of (e_mulN (by omega)) ?_
    | with_reducible refine wo_of (e_modN (by omega)) ?_
    | with_reducible refine wo_of (e_modI (by omega)) ?_
    | with_reducible refine wo_of (e_fdivN (by omega)) ?_
    | with_reducible refine wo_of (e_fdivI (by omega)) ?_
    | with_reducible refine wo_of (e_xor1 _) ?_
    | with_reducible refine wo_of e_neg1 ?_
    | with_reducible refine wo_of (e_negI _) ?_
    | with_reducible refine wo_of (e_ltN _ _) ?_
    | with_reducible refine wo_of (e_leN _ _) ?_
    | with_reducible refine wo_of (e_gtN _ _) ?_
    | with_reducible refine wo_of (e_geN _ _) ?_
    | with_reducible refine wo_of (e_ltI _ _) ?_
    | with_reducible refine wo_of (e_leI _ _) ?_
    | with_reducible refine wo_of (e_gtI _ _) ?_
    | with_reducible refine wo_of (e_geI _ _) ?_
    | with_reducible refine wo_of (e_eqN _ _) ?_
    | with_reducible refine wo_of (e_eqT0 _) ?_
    | with_reducible refine wo_of (e_eqT _ _) ?_
    | with_reducible refine wo_of (e_neT _ _) ?_
    | with_reducible refine wo_of (e_eqL0 _) ?_
    | with_reducible refine wo_of (e_eqLL _ _) ?_
    | with_reducible refine wo_of (e_neLL _ _) ?_
    | with_reducible refine wo_of (e_intB _) ?_
    | with_reducible refine wo_of (e_neN _ _) ?_
    | with_reducible refine wo_of (e_eqI _ _) ?_
    | with_reducible refine wo_of (e_neI _ _) ?_
    | with_reducible refine wo_of (e_ixL (by k_ownIn)) ?_
    | with_reducible refine wo_of (e_ixT (by k_ownIn)) ?_
    | with_reducible refine wo_of (e_ixO (by k_ownIn)) ?_
    | with_reducible refine wo_of (e_ixM (by k_ownIn)) ?_
    | with_reducible refine wo_of (e_catN2 (by k_ownIn)) ?_
    | with_reducible refine wo_of (e_catDD (by k_ownIn)) ?_
    | with_reducible refine wo_of (e_catDO (by k_ownIn)) ?_
    | with_reducible refine wo_of (e_catOD (by k_ownIn)) ?_
    | with_reducible refine wo_of (e_catOO (by k_ownIn)) ?_
    | with_reducible refine wo_of (e_repN (by k_ownIn)) ?_
    | with_reducible refine wo_of (e_repO (by k_ownIn)) ?_
    | with_reducible refine wo_of (e_max2 _ _) ?_
    | with_reducible refine wo_of (e_min2 _ _) ?_
    | with_reducible refine wo_of e_all ?_
    | with_reducible refine wo_of e_any ?_
    | with_reducible refine wo_of e_sum ?_
    | ((with_reducible refine wo_of (e_lenL _) ?_); k_allIn)
    | ((with_reducible refine wo_of (e_lenO _) ?_); k_allIn)
    | ((with_reducible refine wo_of (e_lenT _) ?_); k_allIn)
    | ((with_reducible refine wo_of (e_lenS _) ?_); k_allIn)
    | ((with_reducible refine wo_of (e_glenL _) ?_); k_allIn)
    | ((with_reducible refine wo_of (e_glenT _) ?_); k_allIn)
    | with_reducible refine wo_of (e_int _) ?_
    | with_reducible refine wo_of (e_tupL _) ?_
    | with_reducible refine wo_of (e_tupT _) ?_
    | with_reducible refine wo_of (e_listL _) ?_
    | with_reducible refine wo_of (e_listT _) ?_
    | with_reducible refine wo_of (e_truB _) ?_
    | with_reducible refine wo_of (e_truI _) ?_
    | with_reducible refine wo_of (e_truT _) ?_
    | with_reducible refine wo_of (e_truL _) ?_
    | with_reducible refine wo_of (e_keyI _) ?_
    | with_reducible refine it_l ?_
    | ((with_reducible apply wo_isNT); exact rfl)
    | ((with_reducible apply wo_isNF); exact rfl)
    | ((with_reducible apply wo_isBT); exact rfl)
    | ((with_reducible apply wo_isBF); exact rfl)
    | ((with_reducible apply wo_isiT); exact rfl)
    | ((with_reducible apply wo_isiF); exact rfl)
    | ((with_reducible apply wo_iscT); exact rfl)
    | ((with_reducible apply wo_iscF); exact rfl)
    | with_reducible refine it_t ?_
    | ((with_reducible apply e_lookup); exact rfl)
    | ((with_reducible apply e_index); exact rfl; k_ownIn))
  | ((with_reducible refine (?_ : Wp _ _)); first
    | with_reducible refine w_next ?_
    | with_reducible refine w_cN ?_
    | with_reducible refine w_c ?_
    | ((with_reducible apply w_varD); exact rfl)
    | ((with_reducible apply w_varL); exact rfl; k_allIn)
    | ((with_reducible apply w_varS); exact rfl)
    | ((with_reducible apply w_varI); exact rfl; k_allIn)
    | with_reducible refine w_un ?_
    | with_reducible refine w_fz ?_
    | with_reducible refine w_bin ?_
    | with_reducible refine w_nil ?_
    | with_reducible refine w_cons ?_
    | with_reducible refine w_cb ?_
    | with_reducible refine w_tup ?_
    | with_reducible refine w_lst ?_
    | ((with_reducible apply w_varB); exact rfl; exact rfl)
    | with_reducible refine w_binB ?_
    | ((with_reducible apply w_lenB); exact rfl; exact rfl)
    | with_reducible refine w_notT ?_
    | with_reducible refine w_andT ?_
    | with_reducible refine w_orT ?_
    | with_reducible refine w_testB ?_
    | with_reducible refine w_tru ?_
    | with_reducible refine w_yes ?_
    | with_reducible refine w_andV ?_
    | with_reducible refine w_orV ?_
    | with_reducible refine w_notV ?_
    | with_reducible refine w_ifE ?_
    | with_reducible refine w_call ?_
    | with_reducible refine w_callRev ?_
    | ((with_reducible apply w_callIO); exact rfl; exact rfl)
    | with_reducible refine w_callF ?_
    | with_reducible refine w_meth ?_
    | with_reducible refine w_prop ?_
    | with_reducible refine w_fld ?_
    | with_reducible refine w_make ?_
    | with_reducible refine w_isi ?_
    | with_reducible refine w_noPart ?_
    | with_reducible refine w_part ?_
    | with_reducible refine w_sl ?_
    | with_reducible refine w_revL ?_
    | ((with_reducible apply w_index); exact rfl; exact rfl)
    | with_reducible refine w_dnew ?_
    | with_reducible refine w_disp2 ?_
    | with_reducible refine w_setNew ?_
    | ((with_reducible apply w_getB); exact rfl; exact rfl)
    | with_reducible refine w_inD ?_
    | with_reducible refine w_iseq ?_
    | with_reducible refine w_irng ?_
    | with_reducible refine w_lrgN ?_
    | with_reducible refine w_ienum ?_
    | with_reducible refine w_izip ?_
    | with_reducible refine w_lc ?_)
  | with_reducible refine br_T ?_
  | with_reducible refine br_F ?_
  | with_reducible refine br_nT ?_
  | with_reducible refine br_nF ?_
  | with_reducible refine br_dec ?_
  | with_reducible refine br_and ?_
  | with_reducible refine br_or ?_
  | with_reducible refine s_rfl ?_
  | with_reducible refine br_ndec ?_
  | with_reducible apply s_bl
  | with_reducible apply s_nat
  | with_reducible apply s_int
  | with_reducible apply s_ins
  | with_reducible apply s_d
  | with_reducible apply s_own
  | with_reducible apply s_oneN
  | ((with_reducible apply s_rngN); k_ownIn)
  | ((with_reducible apply s_rngI); k_ownIn)
  | with_reducible apply s_one
  | with_reducible apply s_insK
  | with_reducible apply s_three
  | (with_reducible apply s_mk; k_allIn)
  | (with_reducible apply s_io; k_allIn)
  | with_reducible apply s_zipL
  | with_reducible apply s_zipT
  | ((with_reducible apply s_isNo); exact rfl)
  | ((with_reducible apply s_blt); exact rfl; k_allIn)
  | ((with_reducible apply s_blt3); exact rfl; k_allIn)
  | ((with_reducible apply s_plain); exact rfl; (try simp only [wipeD, restD, List.set_cons_succ, List.set_cons_zero, List.getElem?_cons_zero, List.getElem?_cons_succ, Option.getD_some]))
  | ((with_reducible apply s_con); decide +kernel)
  | ((with_reducible apply s_dats); exact rfl; exact rfl)
  | ((with_reducible apply s_moLN); exact rfl; k_ownIn; k_allIn)
  | ((with_reducible apply s_moL); exact rfl; k_ownIn; k_allIn)
  | ((with_reducible apply s_moDl); exact rfl; k_ownIn; k_allIn)
  | ((with_reducible apply s_moD); exact rfl)
  | ((with_reducible apply s_moO); exact rfl; exact rfl; k_allIn)
  | ((with_reducible apply s_lst); exact rfl)
  | ((with_reducible apply s_lt); k_ownIn; k_allIn)
  | ((with_reducible apply s_le); k_ownIn))
local macro_rules | `(tactic| k_places) => `(tactic| repeat k_memK)
local macro_rules | `(tactic| k_clsL) => `(tactic| repeat first | with_reducible refine w_andP ?_ | with_reducible refine w_orP ?_ | k_memK)
/-! ### told, value by value -/
def plainD : Nat → Dat → Bool
  | _, .non => true
  | _, .bl _ => true
  | _, .int _ => true
  | k + 1, .tup l => decide (l.length < 1000) && l.all (plainD k)
  | k + 1, .lst l => decide (l.length < 1000) && l.all (plainD k)
  | _, _ => false
theorem zip_self (l : List Dat) : zipDD l l = l.map fun x => Dat.tup [x, x] := by
  unfold zipDD
  induction l with
  | nil => rfl
  | cons x r ih => rw [List.zipWith_cons_cons, ih]; rfl
theorem all_true (l : List Dat) : gAll [.d (.lst (l.map fun _ => Dat.bl true))] = some (.d (.bl true)) := by
  rw [e_all (p := fun _ => true)]
  simp
theorem same_step (k : Nat) (x : Dat) (hx : plainD k x = true) (ih : ∀ j, k = j + 1 → ∀ (y : Dat), plainD j y = true → ∀ {Q : SD → List SD → Prop}, Q (.d (.bl true)) [.d y, .d y] → Wp (Φn__law_same k [.d y, .d y]) Q) {Q : SD → List SD → Prop} (h : Q (.d (.bl true)) [.d x, .d x]) : Wp (Φn__law_same (k + 1) [.d x, .d x]) Q := by
  show Wp (runF 2 4 (FR__law_same (Φn__law_same k)) [.d x, .d x]) Q
  unfold FR__law_same
  refine w_runF rfl ?_
  simp only [List.replicate, List.cons_append, List.nil_append, Nat.reduceSub]
  cases x with
  | non => k_places; exact h
  | bl b => cases b with
    | true => k_places; exact h
    | false => k_places; exact h
  | int i =>
    k_places
    rw [decide_eq_true rfl]
    exact h
  | str _ => cases k <;> cases hx
  | ins _ _ _ => cases k <;> cases hx
  | tup l => cases k with
    | zero => cases hx
    | succ k =>
      have hx : (decide (l.length < 1000) && l.all (plainD k)) = true := hx
      rw [Bool.and_eq_true, decide_eq_true_eq, List.all_eq_true] at hx
      obtain ⟨hl, ha⟩ := hx
      k_places
      refine ⟨fun _ => ?_, fun z => absurd rfl z⟩
      k_places
      rw [zip_self]
      refine w_lcY (fun _ => .bl true) (fun y hy => ?_) (by omega) ?_
      · k_places
        refine ih k rfl y (ha y hy) ?_
        k_places
        exact ⟨rfl, rfl⟩
      · k_allIn
        k_places
        rw [show (l.all fun _ => true) = true by simp]
        exact h
  | lst l => cases k with
    | zero => cases hx
    | succ k =>
      have hx : (decide (l.length < 1000) && l.all (plainD k)) = true := hx
      rw [Bool.and_eq_true, decide_eq_true_eq, List.all_eq_true] at hx
      obtain ⟨hl, ha⟩ := hx
      k_places
      refine ⟨fun _ => ?_, fun z => absurd rfl z⟩
      k_places
      rw [zip_self]
      refine w_lcY (fun _ => .bl true) (fun y hy => ?_) (by omega) ?_
      · k_places
        refine ih k rfl y (ha y hy) ?_
        k_places
        exact ⟨rfl, rfl⟩
      · k_allIn
        k_places
        rw [show (l.all fun _ => true) = true by simp]
        exact h
theorem same_ok : ∀ (k : Nat) (x : Dat), plainD k x = true → ∀ {Q : SD → List SD → Prop}, Q (.d (.bl true)) [.d x, .d x] → Wp (Φn__law_same (k + 1) [.d x, .d x]) Q
  | 0, x, hx, Q, h => same_step 0 x hx (fun j z => nomatch z) h
  | k + 1, x, hx, Q, h => same_step (k + 1) x hx (fun j z y hy Q' h' => by cases z; exact same_ok k y hy h') h
theorem plain_all (l : List Nat) : (l.map nI).all (plainD 4) = true := by rw [List.all_eq_true]; intro x hx; obtain ⟨y, _, rfl⟩ := List.mem_map.mp hx; rfl
theorem plain_tup {l : List Nat} (h : l.length < 1000) : plainD 5 (tupN l) = true := by
  show (decide ((l.map nI).length < 1000) && (l.map nI).all (plainD 4)) = true
  rw [plain_all, Bool.and_true]; simpa using h
theorem same_tup {l : List Nat} (h : l.length < 1000) {Q : SD → List SD → Prop} (k : Q (.d (.bl true)) [.d (tupN l), .d (tupN l)]) : Wp (Φ__law_same [.d (tupN l), .d (tupN l)]) Q := same_ok 5 _ (plain_tup h) k
theorem same_two {l m : List Nat} (h : l.length < 1000) (h2 : m.length < 1000) {Q : SD → List SD → Prop} (k : Q (.d (.bl true)) [.d (.lst [tupN l, tupN m]), .d (.lst [tupN l, tupN m])]) : Wp (Φ__law_same [.d (.lst [tupN l, tupN m]), .d (.lst [tupN l, tupN m])]) Q := by
  refine same_ok 5 _ ?_ k
  have p : ∀ {l : List Nat}, l.length < 1000 → plainD 4 (tupN l) = true := fun {l} h => by
    show (decide ((l.map nI).length < 1000) && (l.map nI).all (plainD 3)) = true
    have : (l.map nI).all (plainD 3) = true := by rw [List.all_eq_true]; intro x hx; obtain ⟨y, _, rfl⟩ := List.mem_map.mp hx; rfl
    rw [this, Bool.and_true]; simpa using h
  show (decide (2 < 1000) && [tupN l, tupN m].all (plainD 4)) = true
  rw [List.all_cons, List.all_cons, p h, p h2]; rfl
theorem same_bl (b : Bool) {Q : SD → List SD → Prop} (k : Q (.d (.bl true)) [.d (.bl b), .d (.bl b)]) : Wp (Φ__law_same [.d (.bl b), .d (.bl b)]) Q := same_ok 5 _ (by rfl) k
end K12

set_option Elab.async false
set_option linter.all false
set_option maxRecDepth 100000
set_option maxHeartbeats 4000000
namespace K12
open PySem PySem.Spec PyProof.Rows L2 DP WM
open K62 (Tn tupN lstN webD aboutL)
local macro_rules | `(tactic| k_ownIn) => `(tactic| focus first | assumption | omega | (simp; done) | (simp; omega) | (simp_all; done))
local macro_rules | `(tactic| k_allIn) => `(tactic| try simp only [List.set_cons_succ, List.set_cons_zero, SD.re, List.length_map, List.length_replicate, List.length_range, List.length_cons, List.length_nil, Nat.zero_add, Nat.reduceAdd])
local macro_rules | `(tactic| k_memK) => `(tactic| first
  | ((with_reducible refine (?_ : Wp (dSeq _ _ _) _)); first
    | with_reducible refine w_seqA ?_
    | with_reducible refine w_seqN ?_
    | with_reducible refine w_asg ?_
    | with_reducible refine w_drop ?_
    | with_reducible refine w_ret ?_
    | ((with_reducible apply w_retV); exact rfl; exact rfl)
    | with_reducible refine w_retN ?_
    | with_reducible refine w_brk ?_
    | with_reducible refine w_cont ?_
    | with_reducible refine w_ifS ?_
    | with_reducible refine w_for ?_
    | with_reducible refine w_whileS ?_
    | ((with_reducible apply w_aug); exact rfl)
    | with_reducible refine w_par ?_
    | with_reducible refine w_par3 ?_
    | ((with_reducible apply w_app); exact rfl; exact rfl)
    | ((with_reducible apply w_ext); exact rfl; exact rfl)
    | ((with_reducible apply w_ins); exact rfl; exact rfl)
    | with_reducible refine w_fldSet ?_)
  | ((with_reducible refine (?_ : Wo _ _)); first
    | with_reducible refine z_d ?_
    | with_reducible refine z_l ?_
    | with_reducible refine z_s ?_
    | with_reducible refine z_i ?_
    | ((with_reducible apply wo_get); exact rfl)
    | with_reducible refine r_ret ?_
    | with_reducible refine r_nx ?_
    | with_reducible refine k_nil ?_
    | with_reducible refine k_d ?_
    | with_reducible refine k_s ?_
    | with_reducible refine k_io ?_
    | with_reducible refine mo_io ?_
    | with_reducible refine mo_own ?_
    | ((with_reducible apply g_name); exact rfl; exact rfl; k_allIn)
    | ((with_reducible apply g_tup); exact rfl; (try simp only [List.map_cons, List.map_nil]))
    | with_reducible refine g_cons ?_
    | with_reducible refine g_names ?_
    | with_reducible refine g_names0 ?_
    | with_reducible refine wo_of (e_zipL _ _) ?_
    | with_reducible refine wo_of (e_zipT _ _) ?_
    | with_reducible refine g_nil ?_
    | ((with_reducible apply g_subLNk); exact rfl; exact rfl)
    | ((with_reducible apply g_subLk); exact rfl; exact rfl)
    | ((with_reducible apply g_subDk); exact rfl; exact rfl)
    | with_reducible refine wo_of (e_addN _ _) ?_
    | with_reducible refine wo_of (e_addI _ _) ?_
    | with_reducible refine wo_of (e_subN (by omega)) ?_
    | with_reducible refine wo_of (e_subI _ _) ?_
    | with_reducible refine wo_of (e_mulN (by omega)) ?_
    | with_reducible refine wo_of (e_modN (by omega)) ?_
    | with_reducible refine wo_of (e_modI (by omega)) ?_
    | with_reducible refine wo_of (e_fdivN (by omega)) ?_
    | with_reducible refine wo_of (e_fdivI (by omega)) ?_
    | with_reducible refine wo_of (e_xor1 _) ?_
    | with_reducible refine wo_of e_neg1 ?_
    | with_reducible refine wo_of (e_negI _) ?_
    | with_reducible refine wo_of (e_ltN _ _) ?_
    | with_reducible refine wo_of (e_leN _ _) ?_
    | with_reducible refine wo_of (e_gtN _ _) ?_
    | with_reducible refine wo_of (e_geN _ _) ?_
    | with_reducible refine wo_of (e_ltI _ _) ?_
    | with_reducible refine wo_of (e_leI _ _) ?_
    | with_reducible refine wo_of (e_gtI _ _) ?_
    | with_reducible refine wo_of (e_geI _ _) ?_
    | with_reducible refine wo_of (e_eqN _ _) ?_
    | with_reducible refine wo_of (e_eqT0 _) ?_
    | with_reducible refine wo_of (e_eqT _ _) ?_
    | with_reducible refine wo_of (e_neT _ _) ?_
    | with_reducible refine wo_of (e_eqL0 _) ?_
    | with_reducible refine wo_of (e_eqLL _ _) ?_
    | with_reducible refine wo_of (e_neLL _ _) ?_
    | with_reducible refine wo_of (e_intB _) ?_
    | with_reducible refine wo_of (e_neN _ _) ?_
    | with_reducible refine wo_of (e_eqI _ _) ?_
    | with_reducible refine wo_of (e_neI _ _) ?_
    | with_reducible refine wo_of (e_ixL (by k_ownIn)) ?_
    | with_reducible refine wo_of (e_ixT (by k_ownIn)) ?_
    | with_reducible refine wo_of (e_ixO (by k_ownIn)) ?_
    | with_reducible refine wo_of (e_ixM (by k_ownIn)) ?_
    | with_reducible refine wo_of (e_catN2 (by k_ownIn)) ?_
    | with_reducible refine wo_of (e_catDD (by k_ownIn)) ?_
    | with_reducible refine wo_of (e_catDO (by k_ownIn)) ?_
    | with_reducible refine wo_of (e_catOD (by k_ownIn)) ?_
    | with_reducible refine wo_of (e_catOO (by k_ownIn)) ?_
    | with_reducible refine wo_of (e_repN (by k_ownIn)) ?_
    | with_reducible refine wo_of (e_repO (by k_ownIn)) ?_
    | with_reducible refine wo_of (e_max2 _ _) ?_
    | with_reducible refine wo_of (e_min2 _ _) ?_
    | with_reducible refine wo_of e_all ?_
    | with_reducible refine wo_of e_any ?_
    | with_reducible refine wo_of e_sum ?_
    | ((with_reducible refine wo_of (e_lenL _) ?_); k_allIn)
    | ((with_reducible refine wo_of (e_lenO _) ?_); k_allIn)
    | ((with_reducible refine wo_of (e_lenT _) ?_); k_allIn)
    | ((with_reducible refine wo_of (e_lenS _) ?_); k_allIn)
    | ((with_reducible refine wo_of (e_glenL _) ?_); k_allIn)
    | ((with_reducible refine wo_of (e_glenT _) ?_); k_allIn)
    | with_reducible refine wo_of (e_int _) ?_
    | with_reducible refine wo_of (e_tupL _) ?_
    | with_reducible refine wo_of (e_tupT _) ?_
    | with_reducible refine wo_of (e_listL _) ?_
    | with_reducible refine wo_of (e_listT _) ?_
    | with_reducible refine wo_of (e_truB _) ?_
    | with_reducible refine wo_of (e_truI _) ?_
    | with_reducible refine wo_of (e_truT _) ?_
    | with_reducible refine wo_of (e_truL _) ?_
    | with_reducible refine wo_of (e_keyI _) ?_
    | with_reducible refine it_l ?_
    | ((with_reducible apply wo_isNT); exact rfl)
    | ((with_reducible apply wo_isNF); exact rfl)
    | ((with_reducible apply wo_isBT); exact rfl)
    | ((with_reducible apply wo_isBF); exact rfl)
    | ((with_reducible apply wo_isiT); exact rfl)
    | ((with_reducible apply wo_isiF); exact rfl)
    | ((with_reducible apply wo_iscT); exact rfl)
    | ((with_reducible apply wo_iscF); exact rfl)
    | with_reducible refine it_t ?_
    | ((with_reducible apply e_lookup); exact rfl)
    | ((with_reducible apply e_index); exact rfl; k_ownIn))
  | ((with_reducible refine (?_ : Wp _ _)); first
    | with_reducible refine w_next ?_
    | with_reducible refine w_cN ?_
    | with_reducible refine w_c ?_
    | ((with_reducible apply w_varD); exact rfl)
    | ((with_reducible apply w_varL); exact rfl; k_allIn)
    | ((with_reducible apply w_varS); exact rfl)
    | ((with_reducible apply w_varI); exact rfl; k_allIn)
    | with_reducible refine w_un ?_
    | with_reducible refine w_fz ?_
    | with_reducible refine w_bin ?_
    | with_reducible refine w_nil ?_
    | with_reducible refine w_cons ?_
    | with_reducible refine w_cb ?_
    | with_reducible refine w_tup ?_
    | with_reducible refine w_lst ?_
    | ((with_reducible apply w_varB); exact rfl; exact rfl)
    | with_reducible refine w_binB ?_
    | ((with_reducible apply w_lenB); exact rfl; exact rfl)
    | with_reducible refine w_notT ?_
    | with_reducible refine w_andT ?_
    | with_reducible refine w_orT ?_
    | with_reducible refine w_testB ?_
    | with_reducible refine w_tru ?_
    | with_reducible refine w_yes ?_
    | with_reducible refine w_andV ?_
    | with_reducible refine w_orV ?_
    | with_reducible refine w_notV ?_
    | with_reducible refine w_ifE ?_
    | with_reducible refine w_call ?_
    | with_reducible refine w_callRev ?_
    | ((with_reducible apply w_callIO); exact rfl; exact rfl)
    | with_reducible refine w_callF ?_
    | with_reducible refine w_meth ?_
    | with_reducible refine w_prop ?_
    | with_reducible refine w_fld ?_
    | with_reducible refine w_make ?_
    | with_reducible refine w_isi ?_
    | with_reducible refine w_noPart ?_
    | with_reducible refine w_part ?_
    | with_reducible refine w_sl ?_
    | with_reducible refine w_revL ?_
    | ((with_reducible apply w_index); exact rfl; exact rfl)
    | with_reducible refine w_dnew ?_
    | with_reducible refine w_disp2 ?_
    | with_reducible refine w_setNew ?_
    | ((with_reducible apply w_getB); exact rfl; exact rfl)
    | with_reducible refine w_inD ?_
    | with_reducible refine w_iseq ?_
    | with_reducible refine w_irng ?_
    | with_reducible refine w_lrgN ?_
    | with_reducible refine w_ienum ?_
    | with_reducible refine w_izip ?_
    | with_reducible refine w_lc ?_)
  | with_reducible refine br_T ?_
  | with_reducible refine br_F ?_
  | with_reducible refine br_nT ?_
  | with_reducible refine br_nF ?_
  | with_reducible refine br_dec ?_
  | with_reducible refine br_and ?_
  | with_reducible refine br_or ?_
  | with_reducible refine s_rfl ?_
  | with_reducible refine br_ndec ?_
  | with_reducible apply s_bl
  | with_reducible apply s_nat
  | with_reducible apply s_int
  | with_reducible apply s_ins
  | with_reducible apply s_d
  | with_reducible apply s_own
  | with_reducible apply s_oneN
  | ((with_reducible apply s_rngN); k_ownIn)
  | ((with_reducible apply s_rngI); k_ownIn)
  | with_reducible apply s_one
  | with_reducible apply s_insK
  | with_reducible apply s_three
  | (with_reducible apply s_mk; k_allIn)
  | (with_reducible apply s_io; k_allIn)
  | with_reducible apply s_zipL
  | with_reducible apply s_zipT
  | ((with_reducible apply s_isNo); exact rfl)
  | ((with_reducible apply s_blt); exact rfl; k_allIn)
  | ((with_reducible apply s_blt3); exact rfl; k_allIn)
  | ((with_reducible apply s_plain); exact rfl; (try simp only [wipeD, restD, List.set_cons_succ, List.set_cons_zero, List.getElem?_cons_zero, List.getElem?_cons_succ, Option.getD_some]))
  | ((with_reducible apply s_con); decide +kernel)
  | ((with_reducible apply s_dats); exact rfl; exact rfl)
  | ((with_reducible apply s_moLN); exact rfl; k_ownIn; k_allIn)
  | ((with_reducible apply s_moL); exact rfl; k_ownIn; k_allIn)
  | ((with_reducible apply s_moDl); exact rfl; k_ownIn; k_allIn)
  | ((with_reducible apply s_moD); exact rfl)
  | ((with_reducible apply s_moO); exact rfl; exact rfl; k_allIn)
  | ((with_reducible apply s_lst); exact rfl)
  | ((with_reducible apply s_lt); k_ownIn; k_allIn)
  | ((with_reducible apply s_le); k_ownIn))
local macro_rules | `(tactic| k_places) => `(tactic| repeat k_memK)
local macro_rules | `(tactic| k_clsL) => `(tactic| repeat first | with_reducible refine w_andP ?_ | with_reducible refine w_orP ?_ | k_memK)
/-! ### from behind, turned about -/
def bkL (t : List Nat) : Nat → List Nat
  | 0 => List.replicate t.length 0
  | j + 1 => (bkL t j).set (t.getD j 0) j
def backL (t : List Nat) : List Nat := bkL t t.length
theorem bkL_len (t : List Nat) : ∀ j, (bkL t j).length = t.length
  | 0 => by simp [bkL]
  | j + 1 => by show (List.set _ _ _).length = _; rw [List.length_set, bkL_len t j]
theorem bkL_get {N : Nat} {t : List Nat} (hl : t.length = N) (P : Pm N (tf t)) : ∀ j, j ≤ N → ∀ x, x < j → (bkL t j).getD (tf t x) 0 = x
  | 0, _, x, h => by omega
  | j + 1, hj, x, h => by
    show (List.set _ _ _).getD _ _ = _
    rw [getD_set, bkL_len, hl]
    by_cases e : x = j
    · subst e; rw [if_pos ⟨rfl, P.lt x (by omega)⟩]
    · rw [if_neg (fun z => e (P.inj j x (by omega) (by omega) z.1).symm)]
      exact bkL_get hl P j (by omega) x (by omega)
theorem back_wd {n : Nat} {t : List Nat} (W : Wd n t) : Wd n (backL t) := by
  have hl := W.len
  refine ⟨by unfold backL; rw [bkL_len]; exact hl, ?_⟩
  rcases W.web with h | ⟨V, Wt⟩
  · exact .inl h
  · refine .inr ⟨V, Wt.back fun x hx => ?_⟩
    unfold backL
    rw [hl]
    exact bkL_get hl Wt.pm (2 * n) (Nat.le_refl _) x hx
theorem tf_about {n : Nat} {t : List Nat} (hl : t.length = 2 * n) {x : Nat} (hx : x < 2 * n) : tf (aboutL t) x = ab (tf t) x := by
  unfold aboutL
  show List.getD _ _ _ = _
  rw [getD_map_range _ (by omega)]; rfl
theorem about_wd {n : Nat} {t : List Nat} (W : Wd n t) : Wd n (aboutL t) := by
  have hl := W.len
  refine ⟨by unfold aboutL; simp [hl], ?_⟩
  rcases W.web with h | ⟨V, Wt⟩
  · exact .inl h
  · by_cases h0 : n = 0
    · exact .inl h0
    · exact .inr ⟨_, (Wt.about (by omega)).congr fun x hx => tf_about hl hx⟩
theorem w_lback {n : Nat} {t : List Nat} (W : Wd n t) (hn : n ≤ 14) {Q : SD → List SD → Prop} (k : Q (.own (.lst ((backL t).map nI))) [.d (lstN t)]) : Wp (Φ__law_back [.d (lstN t)]) Q := by
  have hl := W.len
  unfold Φ__law_back F__law_back
  refine w_runF rfl ?_
  simp only [List.replicate, List.cons_append, List.nil_append, Nat.reduceSub]
  k_places
  refine w_loop (fun j ρ => ∃ s2 s3, ρ = [.d (lstN t), .own (.lst ((bkL t j).map nI)), s2, s3]) ⟨_, _, rfl⟩ ?_ ?_
  · rintro j v ρ hv ⟨s2, s3, rfl⟩
    obtain ⟨hj, rfl⟩ := enum_it hv
    have hb := bkL_len t j
    obtain ⟨V, Wt⟩ := W.web.resolve_left (by omega)
    have htj : t.getD j 0 < 2 * n := Wt.pm.lt j (by omega)
    k_places
    exact ⟨.d (nI j), .d (nI (t.getD j 0)), rfl⟩
  · rintro ρ ⟨s2, s3, rfl⟩
    rw [enum_map]
    simp only [List.length_map, List.length_range]
    show Wp _ _
    k_places
    exact k
theorem w_back {n : Nat} {t : List Nat} (W : Wd n t) (hn : n ≤ 14) {Q : SD → List SD → Prop} (k : Q (.d (tupN (backL t))) [.d (tupN t)]) : Wp (Φ_back_of [.d (tupN t)]) Q := by
  have hl := W.len
  unfold Φ_back_of F_back_of
  refine w_runF rfl ?_
  simp only [List.replicate, List.cons_append, List.nil_append, Nat.reduceSub]
  k_places
  refine w_loop (fun j ρ => ∃ s2 s3, ρ = [.d (tupN t), .own (.lst ((bkL t j).map nI)), s2, s3]) ⟨_, _, rfl⟩ ?_ ?_
  · rintro j v ρ hv ⟨s2, s3, rfl⟩
    obtain ⟨hj, rfl⟩ := enum_it hv
    have hb := bkL_len t j
    obtain ⟨V, Wt⟩ := W.web.resolve_left (by omega)
    have htj : t.getD j 0 < 2 * n := Wt.pm.lt j (by omega)
    k_places
    exact ⟨.d (nI j), .d (nI (t.getD j 0)), rfl⟩
  · rintro ρ ⟨s2, s3, rfl⟩
    rw [enum_map]
    simp only [List.length_map, List.length_range]
    show Wp _ _
    k_places
    exact k
theorem w_labout {n : Nat} {t : List Nat} (hl : t.length = 2 * n) (hn : n ≤ 14) {Q : SD → List SD → Prop} (k : Q (.own (.lst ((aboutL t).map nI))) [.d (lstN t)]) : Wp (Φ__law_about [.d (lstN t)]) Q := by
  unfold Φ__law_about F__law_about
  refine w_runF rfl ?_
  simp only [List.replicate, List.cons_append, List.nil_append, Nat.reduceSub]
  k_places
  refine w_lcY (fun d => nI (t.getD (fl d) 0)) (fun d hd => ?_) (by simp; omega) ?_
  · have hd := List.mem_range.mp hd
    have := fl_lt (n := n) (x := d) (by omega)
    k_places
    exact ⟨rfl, rfl⟩
  · k_allIn
    k_places
    rw [show (List.range t.length).map (fun d => nI (t.getD (fl d) 0)) = (aboutL t).map nI by unfold aboutL; rw [List.map_map]; rfl]
    exact k
theorem w_about {n : Nat} {t : List Nat} (hl : t.length = 2 * n) (hn : n ≤ 14) {Q : SD → List SD → Prop} (k : Q (.d (tupN (aboutL t))) [.d (tupN t)]) : Wp (K62.Φ_about_of [.d (tupN t)]) Q := w_of (K62.v_about_of hl (by omega)) k
theorem w_behind {n : Nat} {t : List Nat} (W : Wd n t) (hn : n ≤ 14) (p q : Dat) {Q : SD → List SD → Prop} (k : ∀ p' q', Q (.own (.obj 0 [("_turn", tupN (backL t)), ("_places", p'), ("_faces", q')])) [.d (webD t p q)]) : Wp (Φ_behind [.d (webD t p q)]) Q := by
  unfold Φ_behind F_behind
  refine w_runF rfl ?_
  simp only [List.replicate, List.cons_append, List.nil_append, Nat.reduceSub]
  k_places
  refine w_check ?_
  k_places
  refine w_turn ?_
  k_places
  refine w_back W hn ?_
  k_places
  refine w_init (back_wd W) hn fun p' q' => ?_
  k_places
  exact k p' q'
theorem w_wabout {n : Nat} {t : List Nat} (W : Wd n t) (hn : n ≤ 14) (p q : Dat) {Q : SD → List SD → Prop} (k : ∀ p' q', Q (.own (.obj 0 [("_turn", tupN (aboutL t)), ("_places", p'), ("_faces", q')])) [.d (webD t p q)]) : Wp (K62.Φ_about [.d (webD t p q)]) Q := by
  unfold K62.Φ_about K62.F_about
  refine w_runF rfl ?_
  simp only [List.replicate, List.cons_append, List.nil_append, Nat.reduceSub]
  k_places
  refine w_check ?_
  k_places
  refine w_turn ?_
  k_places
  refine w_about W.len hn ?_
  k_places
  refine w_init (about_wd W) hn fun p' q' => ?_
  k_places
  exact k p' q'
theorem w_count (d : Nat) {Q : SD → List SD → Prop} (k : Q (.d (.bl true)) [.d (nI d)]) : Wp (K62.Φ_is_count [.d (nI d)]) Q := w_of (K62.v_is_count d (by omega)) k
theorem w_dart {n : Nat} {t : List Nat} (hl : t.length = 2 * n) {d : Nat} (hd : d < 2 * n) (hn : n ≤ 14) (p q : Dat) {Q : SD → List SD → Prop} (k : Q (.d .non) [.d (webD t p q), .d (nI d)]) : Wp (Φ_check_dart [.d (webD t p q), .d (nI d)]) Q := by
  unfold Φ_check_dart F_check_dart
  refine w_runF rfl ?_
  simp only [List.replicate, List.cons_append, List.nil_append, Nat.reduceSub]
  k_places
  refine w_count d ?_
  k_places
  refine w_many hl ?_
  k_places
  refine ⟨fun h => by omega, fun h => ?_⟩
  k_places
  exact k
theorem w_turnFrom {n : Nat} {t : List Nat} (W : Wd n t) (hn : n ≤ 14) {d : Nat} (hd : d < 2 * n) (p q : Dat) {Q : SD → List SD → Prop} (k : Q (.d (tupN (told (tf t) (ord n (tf t) d)))) [.d (webD t p q), .d (nI d)]) : Wp (Φ_turn_from [.d (webD t p q), .d (nI d)]) Q := by
  unfold Φ_turn_from F_turn_from
  refine w_runF rfl ?_
  simp only [List.replicate, List.cons_append, List.nil_append, Nat.reduceSub]
  k_places
  refine w_check ?_
  k_places
  refine w_dart W.len hd hn p q ?_
  k_places
  refine w_turn ?_
  k_places
  refine w_read W hn hd ?_
  k_places
  refine wo_of (show gIx (.d (.tup [tupN (told (tf t) (ord n (tf t) d)), lstN (ord n (tf t) d)])) (.d (nI 0)) = some (.d (tupN (told (tf t) (ord n (tf t) d)))) from rfl) ?_
  k_places
  exact k
theorem told_len {f : Nat → Nat} {o : List Nat} : (told f o).length = o.length := by unfold told; simp
theorem nameL_len {n : Nat} {t : List Nat} (W : Wd n t) : (nameL n t).length = 2 * n := by
  by_cases h : n = 0
  · subst h; rfl
  · have Wt := W.web.resolve_left h
    have hne : reads n t ≠ [] := fun z => by
      have := congrArg List.length z
      unfold reads at this
      simp at this
      omega
    obtain ⟨d, hd, e⟩ := List.mem_map.mp (leastN_mem hne)
    have e : told (tf t) (ord n (tf t) d) = leastN (reads n t) := e
    show (leastN (reads n t)).length = _
    rw [← e, told_len, (ord_full Wt (List.mem_range.mp hd)).2.1]
theorem w_alike {n m : Nat} {t u : List Nat} (W : Wd n t) (U : Wd m u) (hn : n ≤ 14) (hm : m ≤ 14) (p q p' q' : Dat) {Q : SD → List SD → Prop} (k : Q (.d (.bl (decide (nameL n t = nameL m u)))) [.d (webD t p q), .d (webD u p' q')]) : Wp (Φ_are_alike [.d (webD t p q), .d (webD u p' q')]) Q := by
  unfold Φ_are_alike F_are_alike
  refine w_runF rfl ?_
  simp only [List.replicate, List.cons_append, List.nil_append, Nat.reduceSub]
  k_places
  refine w_check ?_
  k_places
  refine w_check ?_
  k_places
  refine w_many W.len ?_
  k_places
  refine w_many U.len ?_
  k_places
  refine ⟨fun h => ?_, fun h => ?_⟩
  · subst h
    k_places
    refine w_name W hn ?_
    k_places
    refine w_name U hm ?_
    k_places
    exact k
  · k_places
    have : ¬ nameL n t = nameL m u := fun z => by
      have := congrArg List.length z
      rw [nameL_len W, nameL_len U] at this
      omega
    rw [decide_eq_false this] at k
    exact k
/-! ### the name is one for all callings -/
theorem name_cal {n : Nat} {t u : List Nat} {p : Nat → Nat} (W : Wd n t) (C : Cal n (tf t) (tf u) p) : nameL n u = nameL n t := by
  by_cases h : n = 0
  · subst h; rfl
  · have Wt := W.web.resolve_left h
    unfold nameL reads
    apply leastN_set
    intro x
    rw [List.mem_map, List.mem_map]
    constructor
    · rintro ⟨e, he, rfl⟩
      obtain ⟨d, hd, rfl⟩ := C.pm.surj (List.mem_range.mp he)
      exact ⟨d, List.mem_range.mpr hd, (C.told_eq Wt hd).symm⟩
    · rintro ⟨d, hd, rfl⟩
      have hd := List.mem_range.mp hd
      exact ⟨p d, List.mem_range.mpr (C.pm.lt d hd), C.told_eq Wt hd⟩
/-- the name is a turn, and its own name -/
theorem name_wd {n : Nat} {t : List Nat} (W : Wd n t) : Wd n (nameL n t) ∧ nameL n (nameL n t) = nameL n t := by
  by_cases h : n = 0
  · subst h; exact ⟨⟨rfl, .inl rfl⟩, rfl⟩
  · have Wt := W.web.resolve_left h
    have hne : reads n t ≠ [] := fun z => by
      have := congrArg List.length z
      unfold reads at this
      simp at this
      omega
    obtain ⟨d, hd, e⟩ := List.mem_map.mp (leastN_mem hne)
    have hd := List.mem_range.mp hd
    have C := cal_read Wt hd
    have e : told (tf t) (ord n (tf t) d) = nameL n t := e
    rw [e] at C
    exact ⟨W.cal (nameL_len W) C, name_cal W C⟩
end K12

set_option Elab.async false
set_option linter.all false
set_option maxRecDepth 100000
set_option maxHeartbeats 4000000
namespace K12
open PySem PySem.Spec PyProof.Rows L2 DP WM
open K62 (Tn tupN lstN webD aboutL)
local macro_rules | `(tactic| k_ownIn) => `(tactic| focus first | assumption | omega | (simp; done) | (simp; omega) | (simp_all; done))
local macro_rules | `(tactic| k_allIn) => `(tactic| try simp only [List.set_cons_succ, List.set_cons_zero, SD.re, List.length_map, List.length_replicate, List.length_range, List.length_cons, List.length_nil, Nat.zero_add, Nat.reduceAdd])
local macro_rules | `(tactic| k_memK) => `(tactic| first
  | ((with_reducible refine (?_ : Wp (dSeq _ _ _) _)); first
    | with_reducible refine w_seqA ?_
    | with_reducible refine w_seqN ?_
    | with_reducible refine w_asg ?_
    | with_reducible refine w_drop ?_
    | with_reducible refine w_ret ?_
    | ((with_reducible apply w_retV); exact rfl; exact rfl)
    | with_reducible refine w_retN ?_
    | with_reducible refine w_brk ?_
    | with_reducible refine w_cont ?_
    | with_reducible refine w_ifS ?_
    | with_reducible refine w_for ?_
    | with_reducible refine w_whileS ?_
    | ((with_reducible apply w_aug); exact rfl)
    | with_reducible refine w_par ?_
    | with_reducible refine w_par3 ?_
    | ((with_reducible apply w_app); exact rfl; exact rfl)
    | ((with_reducible apply w_ext); exact rfl; exact rfl)
    | ((with_reducible apply w_ins); exact rfl; exact rfl)
    | with_reducible refine w_fldSet ?_)
  | ((with_reducible refine (?_ : Wo _ _)); first
    | with_reducible refine z_d ?_
    | with_reducible refine z_l ?_
    | with_reducible refine z_s ?_
    | with_reducible refine z_i ?_
    | ((with_reducible apply wo_get); exact rfl)
    | with_reducible refine r_ret ?_
    | with_reducible refine r_nx ?_
    | with_reducible refine k_nil ?_
    | with_reducible refine k_d ?_
    | with_reducible refine k_s ?_
    | with_reducible refine k_io ?_
    | with_reducible refine mo_io ?_
    | with_reducible refine mo_own ?_
    | ((with_reducible apply g_name); exact rfl; exact rfl; k_allIn)
    | ((with_reducible apply g_tup); exact rfl; (try simp only [List.map_cons, List.map_nil]))
    | with_reducible refine g_cons ?_
    | with_reducible refine g_names ?_
    | with_reducible refine g_names0 ?_
    | with_reducible refine wo_of (e_zipL _ _) ?_
    | with_reducible refine wo_of (e_zipT _ _) ?_
    | with_reducible refine g_nil ?_
    | ((with_reducible apply g_subLNk); exact rfl; exact rfl)
    | ((with_reducible apply g_subLk); exact rfl; exact rfl)
    | ((with_reducible apply g_subDk); exact rfl; exact rfl)
    | with_reducible refine wo_of (e_addN _ _) ?_
    | with_reducible refine wo_of (e_addI _ _) ?_
    | with_reducible refine wo_of (e_subN (by omega)) ?_
    | with_reducible refine wo_of (e_subI _ _) ?_
    | with_reducible refine wo_of (e_mulN (by omega)) ?_
    | with_reducible refine wo_of (e_modN (by omega)) ?_
    | with_reducible refine wo_of (e_modI (by omega)) ?_
    | with_reducible refine wo_of (e_fdivN (by omega)) ?_
    | with_reducible refine wo_of (e_fdivI (by omega)) ?_
    | with_reducible refine wo_of (e_xor1 _) ?_
    | with_reducible refine wo_of e_neg1 ?_
    | with_reducible refine wo_of (e_negI _) ?_
    | with_reducible refine wo_of (e_ltN _ _) ?_
    | with_reducible refine wo_of (e_leN _ _) ?_
    | with_reducible refine wo_of (e_gtN _ _) ?_
    | with_reducible refine wo_of (e_geN _ _) ?_
    | with_reducible refine wo_of (e_ltI _ _) ?_
    | with_reducible refine wo_of (e_leI _ _) ?_
    | with_reducible refine wo_of (e_gtI _ _) ?_
    | with_reducible refine wo_of (e_geI _ _) ?_
    | with_reducible refine wo_of (e_eqN _ _) ?_
    | with_reducible refine wo_of (e_eqT0 _) ?_
    | with_reducible refine wo_of (e_eqT _ _) ?_
    | with_reducible refine wo_of (e_neT _ _) ?_
    | with_reducible refine wo_of (e_eqL0 _) ?_
    | with_reducible refine wo_of (e_eqLL _ _) ?_
    | with_reducible refine wo_of (e_neLL _ _) ?_
    | with_reducible refine wo_of (e_intB _) ?_
    | with_reducible refine wo_of (e_neN _ _) ?_
    | with_reducible refine wo_of (e_eqI _ _) ?_
    | with_reducible refine wo_of (e_neI _ _) ?_
    | with_reducible refine wo_of (e_ixL (by k_ownIn)) ?_
    | with_reducible refine wo_of (e_ixT (by k_ownIn)) ?_
    | with_reducible refine wo_of (e_ixO (by k_ownIn)) ?_
    | with_reducible refine wo_of (e_ixM (by k_ownIn)) ?_
    | with_reducible refine wo_of (e_catN2 (by k_ownIn)) ?_
    | with_reducible refine wo_of (e_catDD (by k_ownIn)) ?_
    | with_reducible refine wo_of (e_catDO (by k_ownIn)) ?_
    | with_reducible refine wo_of (e_catOD (by k_ownIn)) ?_
    | with_reducible refine wo_of (e_catOO (by k_ownIn)) ?_
    | with_reducible refine wo_of (e_repN (by k_ownIn)) ?_
    | with_reducible refine wo_of (e_repO (by k_ownIn)) ?_
    | with_reducible refine wo_of (e_max2 _ _) ?_
    | with_reducible refine wo_of (e_min2 _ _) ?_
    | with_reducible refine wo_of e_all ?_
    | with_reducible refine wo_of e_any ?_
    | with_reducible refine wo_of e_sum ?_
    | ((with_reducible refine wo_of (e_lenL _) ?_); k_allIn)
    | ((with_reducible refine wo_of (e_lenO _) ?_); k_allIn)
    | ((with_reducible refine wo_of (e_lenT _) ?_); k_allIn)
    | ((with_reducible refine wo_of (e_lenS _) ?_); k_allIn)
    | ((with_reducible refine wo_of (e_glenL _) ?_); k_allIn)
    | ((with_reducible refine wo_of (e_glenT _) ?_); k_allIn)
    | with_reducible refine wo_of (e_int _) ?_
    | with_reducible refine wo_of (e_tupL _) ?_
    | with_reducible refine wo_of (e_tupT _) ?_
    | with_reducible refine wo_of (e_listL _) ?_
    | with_reducible refine wo_of (e_listT _) ?_
    | with_reducible refine wo_of (e_truB _) ?_
    | with_reducible refine wo_of (e_truI _) ?_
    | with_reducible refine wo_of (e_truT _) ?_
    | with_reducible refine wo_of (e_truL _) ?_
    | with_reducible refine wo_of (e_keyI _) ?_
    | with_reducible refine it_l ?_
    | ((with_reducible apply wo_isNT); exact rfl)
    | ((with_reducible apply wo_isNF); exact rfl)
    | ((with_reducible apply wo_isBT); exact rfl)
    | ((with_reducible apply wo_isBF); exact rfl)
    | ((with_reducible apply wo_isiT); exact rfl)
    | ((with_reducible apply wo_isiF); exact rfl)
    | ((with_reducible apply wo_iscT); exact rfl)
    | ((with_reducible apply wo_iscF); exact rfl)
    | with_reducible refine it_t ?_
    | ((with_reducible apply e_lookup); exact rfl)
    | ((with_reducible apply e_index); exact rfl; k_ownIn))
  | ((with_reducible refine (?_ : Wp _ _)); first
    | with_reducible refine w_next ?_
    | with_reducible refine w_cN ?_
    | with_reducible refine w_c ?_
    | ((with_reducible apply w_varD); exact rfl)
    | ((with_reducible apply w_varL); exact rfl; k_allIn)
    | ((with_reducible apply w_varS); exact rfl)
    | ((with_reducible apply w_varI); exact rfl; k_allIn)
    | with_reducible refine w_un ?_
    | with_reducible refine w_fz ?_
    | with_reducible refine w_bin ?_
    | with_reducible refine w_nil ?_
    | with_reducible refine w_cons ?_
    | with_reducible refine w_cb ?_
    | with_reducible refine w_tup ?_
    | with_reducible refine w_lst ?_
    | ((with_reducible apply w_varB); exact rfl; exact rfl)
    | with_reducible refine w_binB ?_
    | ((with_reducible apply w_lenB); exact rfl; exact rfl)
    | with_reducible refine w_notT ?_
    | with_reducible refine w_andT ?_
    | with_reducible refine w_orT ?_
    | with_reducible refine w_testB ?_
    | with_reducible refine w_tru ?_
    | with_reducible refine w_yes ?_
    | with_reducible refine w_andV ?_
    | with_reducible refine w_orV ?_
    | with_reducible refine w_notV ?_
    | with_reducible refine w_ifE ?_
    | with_reducible refine w_call ?_
    | with_reducible refine w_callRev ?_
    | ((with_reducible apply w_callIO); exact rfl; exact rfl)
    | with_reducible refine w_callF ?_
    | with_reducible refine w_meth ?_
    | with_reducible refine w_prop ?_
    | with_reducible refine w_fld ?_
    | with_reducible refine w_make ?_
    | with_reducible refine w_isi ?_
    | with_reducible refine w_noPart ?_
    | with_reducible refine w_part ?_
    | with_reducible refine w_sl ?_
    | with_reducible refine w_revL ?_
    | ((with_reducible apply w_index); exact rfl; exact rfl)
    | with_reducible refine w_dnew ?_
    | with_reducible refine w_disp2 ?_
    | with_reducible refine w_setNew ?_
    | ((with_reducible apply w_getB); exact rfl; exact rfl)
    | with_reducible refine w_inD ?_
    | with_reducible refine w_iseq ?_
    | with_reducible refine w_irng ?_
    | with_reducible refine w_lrgN ?_
    | with_reducible refine w_ienum ?_
    | with_reducible refine w_izip ?_
    | with_reducible refine w_lc ?_)
  | with_reducible refine br_T ?_
  | with_reducible refine br_F ?_
  | with_reducible refine br_nT ?_
  | with_reducible refine br_nF ?_
  | with_reducible refine br_dec ?_
  | with_reducible refine br_and ?_
  | with_reducible refine br_or ?_
  | with_reducible refine s_rfl ?_
  | with_reducible refine br_ndec ?_
  | with_reducible apply s_bl
  | with_reducible apply s_nat
  | with_reducible apply s_int
  | with_reducible apply s_ins
  | with_reducible apply s_d
  | with_reducible apply s_own
  | with_reducible apply s_oneN
  | ((with_reducible apply s_rngN); k_ownIn)
  | ((with_reducible apply s_rngI); k_ownIn)
  | with_reducible apply s_one
  | with_reducible apply s_insK
  | with_reducible apply s_three
  | (with_reducible apply s_mk; k_allIn)
  | (with_reducible apply s_io; k_allIn)
  | with_reducible apply s_zipL
  | with_reducible apply s_zipT
  | ((with_reducible apply s_isNo); exact rfl)
  | ((with_reducible apply s_blt); exact rfl; k_allIn)
  | ((with_reducible apply s_blt3); exact rfl; k_allIn)
  | ((with_reducible apply s_plain); exact rfl; (try simp only [wipeD, restD, List.set_cons_succ, List.set_cons_zero, List.getElem?_cons_zero, List.getElem?_cons_succ, Option.getD_some]))
  | ((with_reducible apply s_con); decide +kernel)
  | ((with_reducible apply s_dats); exact rfl; exact rfl)
  | ((with_reducible apply s_moLN); exact rfl; k_ownIn; k_allIn)
  | ((with_reducible apply s_moL); exact rfl; k_ownIn; k_allIn)
  | ((with_reducible apply s_moDl); exact rfl; k_ownIn; k_allIn)
  | ((with_reducible apply s_moD); exact rfl)
  | ((with_reducible apply s_moO); exact rfl; exact rfl; k_allIn)
  | ((with_reducible apply s_lst); exact rfl)
  | ((with_reducible apply s_lt); k_ownIn; k_allIn)
  | ((with_reducible apply s_le); k_ownIn))
local macro_rules | `(tactic| k_places) => `(tactic| repeat k_memK)
local macro_rules | `(tactic| k_clsL) => `(tactic| repeat first | with_reducible refine w_andP ?_ | with_reducible refine w_orP ?_ | k_memK)
/-! ### rings, stars, wheels .. -/
theorem orb_mem {N : Nat} {f : Nat → Nat} (P : Pm N f) {x y : Nat} (hx : x < N) (h : Cy N f x y) : ∃ k, k < N ∧ itr f k x = y := by
  obtain ⟨j, e, hj⟩ := P.back hx
  obtain ⟨k, hk, e2⟩ := List.mem_map.mp ((K62.cyc_mem P hx e y).mpr h)
  have := List.mem_range.mp hk
  exact ⟨k, by omega, e2⟩
def orbL (f : Nat → Nat) : Nat → Nat → List Nat
  | 0, _ => []
  | k + 1, x => x :: orbL f k (f x)
theorem orbL_mem (f : Nat → Nat) : ∀ (N x y : Nat), y ∈ orbL f N x ↔ ∃ k, k < N ∧ itr f k x = y
  | 0, x, y => by simp [orbL]
  | N + 1, x, y => by
    rw [orbL, List.mem_cons, orbL_mem f N (f x) y]
    constructor
    · rintro (e | ⟨k, hk, e⟩)
      · exact ⟨0, by omega, e.symm⟩
      · exact ⟨k + 1, by omega, by rw [itr_one]; exact e⟩
    · rintro ⟨k, hk, e⟩
      cases k with
      | zero => exact .inl e.symm
      | succ k => exact .inr ⟨k, by omega, by rw [itr_one] at e; exact e⟩
def cntL (N : Nat) (f : Nat → Nat) : Nat := ((List.range N).filter fun x => (orbL f N x).all fun y => decide (x ≤ y)).length
open Classical in
theorem cnt_ncl {N : Nat} {f : Nat → Nat} (P : Pm N f) : ncl N (Cy N f) = cntL N f := by
  unfold ncl cntL
  congr 1
  apply List.filter_congr
  intro x hx
  have hx := List.mem_range.mp hx
  rw [Bool.eq_iff_iff, decide_eq_true_eq, List.all_eq_true]
  constructor
  · intro h y hy
    obtain ⟨k, hk, e⟩ := (orbL_mem f N x y).mp hy
    refine decide_eq_true (Nat.le_of_not_lt fun z => h y z ?_)
    have c := Cy.itr P hx k
    rw [e] at c
    exact c.sy
  · intro h y hy c
    have := of_decide_eq_true (h y ((orbL_mem f N x y).mpr (orb_mem P hx c.sy)))
    omega
/-- a web, looked at by a rule -/
def wdB (n : Nat) (t : List Nat) : Bool := t.length == 2 * n && t.all (fun x => decide (x < 2 * n)) && decide t.Nodup && (cntL (2 * n) (tf t) + cntL (2 * n) (ab (tf t)) == n + 2) && decide (∀ x < 2 * n, x ∈ rdN (tf t) 0 (2 * n))
theorem rdN_in (f : Nat → Nat) (S : Nat → Prop) (hf : ∀ x, S x → S (f x)) (hF : ∀ x, S x → S (fl x)) (h0 : S 0) : ∀ k, (∀ x ∈ rdN f 0 k, S x)
  | 0 => by
    intro x hx
    have hx : x ∈ [0, fl 0] := hx
    simp at hx
    rcases hx with rfl | rfl
    · exact h0
    · exact hF 0 h0
  | k + 1 => by
    intro x hx
    have ih := rdN_in f S hf hF h0 k
    have hx : x ∈ rdS f (rdN f 0 k) k := hx
    have key : S ((rdN f 0 k).getD k 0) := by
      by_cases hk : k < (rdN f 0 k).length
      · exact ih _ (getD_mem hk)
      · rw [List.getD_eq_getElem?_getD, List.getElem?_eq_none_iff.mpr (by omega)]; exact h0
    unfold rdS at hx
    split at hx
    · exact ih x hx
    · rw [List.mem_append] at hx
      rcases hx with hx | hx
      · exact ih x hx
      · simp at hx
        rcases hx with rfl | rfl
        · exact hf _ key
        · exact hF _ (hf _ key)
theorem wd_of {n : Nat} {t : List Nat} (h : wdB n t = true) (hn : 0 < n) : Wd n t := by
  unfold wdB at h
  rw [Bool.and_eq_true, Bool.and_eq_true, Bool.and_eq_true, Bool.and_eq_true] at h
  obtain ⟨⟨⟨⟨h1, h2⟩, h3⟩, h4⟩, h5⟩ := h
  have hl : t.length = 2 * n := by simpa using h1
  have P : Pm (2 * n) (tf t) := pm_of_list hl (fun x hx => of_decide_eq_true (List.all_eq_true.mp h2 x hx)) (of_decide_eq_true h3)
  have hc : cntL (2 * n) (tf t) + cntL (2 * n) (ab (tf t)) = n + 2 := by simpa using h4
  have ha := of_decide_eq_true h5
  refine ⟨hl, .inr ⟨cntL (2 * n) (tf t), ⟨P, cnt_ncl P, ?_, fun S s0 cT cF x hx => ?_⟩⟩⟩
  · rw [cnt_ncl P.ab]; exact hc
  · refine (rdN_in (tf t) (fun x => x < 2 * n ∧ S x) (fun x hx => ⟨P.lt x hx.1, cT x hx.1 hx.2⟩) (fun x hx => ⟨fl_lt hx.1, cF x hx.1 hx.2⟩) ⟨by omega, s0⟩ (2 * n) x (ha x hx)).2
/-- the turns by kind and number -/
def RT : Nat → Nat → List Nat
  | 0, 2 => [3, 2, 1, 0]
  | 0, 3 => [5, 2, 1, 4, 3, 0]
  | 0, 4 => [7, 2, 1, 4, 3, 6, 5, 0]
  | 0, 5 => [9, 2, 1, 4, 3, 6, 5, 8, 7, 0]
  | 0, 6 => [11, 2, 1, 4, 3, 6, 5, 8, 7, 10, 9, 0]
  | 0, 7 => [13, 2, 1, 4, 3, 6, 5, 8, 7, 10, 9, 12, 11, 0]
  | 0, 8 => [15, 2, 1, 4, 3, 6, 5, 8, 7, 10, 9, 12, 11, 14, 13, 0]
  | 0, 9 => [17, 2, 1, 4, 3, 6, 5, 8, 7, 10, 9, 12, 11, 14, 13, 16, 15, 0]
  | 0, 10 => [19, 2, 1, 4, 3, 6, 5, 8, 7, 10, 9, 12, 11, 14, 13, 16, 15, 18, 17, 0]
  | 0, 11 => [21, 2, 1, 4, 3, 6, 5, 8, 7, 10, 9, 12, 11, 14, 13, 16, 15, 18, 17, 20, 19, 0]
  | 0, 12 => [23, 2, 1, 4, 3, 6, 5, 8, 7, 10, 9, 12, 11, 14, 13, 16, 15, 18, 17, 20, 19, 22, 21, 0]
  | 0, 13 => [25, 2, 1, 4, 3, 6, 5, 8, 7, 10, 9, 12, 11, 14, 13, 16, 15, 18, 17, 20, 19, 22, 21, 24, 23, 0]
  | 0, 14 => [27, 2, 1, 4, 3, 6, 5, 8, 7, 10, 9, 12, 11, 14, 13, 16, 15, 18, 17, 20, 19, 22, 21, 24, 23, 26, 25, 0]
  | 1, 2 => [2, 3, 0, 1]
  | 1, 3 => [2, 5, 4, 1, 0, 3]
  | 1, 4 => [2, 7, 4, 1, 6, 3, 0, 5]
  | 1, 5 => [2, 9, 4, 1, 6, 3, 8, 5, 0, 7]
  | 1, 6 => [2, 11, 4, 1, 6, 3, 8, 5, 10, 7, 0, 9]
  | 1, 7 => [2, 13, 4, 1, 6, 3, 8, 5, 10, 7, 12, 9, 0, 11]
  | 1, 8 => [2, 15, 4, 1, 6, 3, 8, 5, 10, 7, 12, 9, 14, 11, 0, 13]
  | 1, 9 => [2, 17, 4, 1, 6, 3, 8, 5, 10, 7, 12, 9, 14, 11, 16, 13, 0, 15]
  | 1, 10 => [2, 19, 4, 1, 6, 3, 8, 5, 10, 7, 12, 9, 14, 11, 16, 13, 18, 15, 0, 17]
  | 1, 11 => [2, 21, 4, 1, 6, 3, 8, 5, 10, 7, 12, 9, 14, 11, 16, 13, 18, 15, 20, 17, 0, 19]
  | 1, 12 => [2, 23, 4, 1, 6, 3, 8, 5, 10, 7, 12, 9, 14, 11, 16, 13, 18, 15, 20, 17, 22, 19, 0, 21]
  | 1, 13 => [2, 25, 4, 1, 6, 3, 8, 5, 10, 7, 12, 9, 14, 11, 16, 13, 18, 15, 20, 17, 22, 19, 24, 21, 0, 23]
  | 1, 14 => [2, 27, 4, 1, 6, 3, 8, 5, 10, 7, 12, 9, 14, 11, 16, 13, 18, 15, 20, 17, 22, 19, 24, 21, 26, 23, 0, 25]
  | 2, 1 => [0, 1]
  | 2, 2 => [2, 1, 0, 3]
  | 2, 3 => [2, 1, 4, 3, 0, 5]
  | 2, 4 => [2, 1, 4, 3, 6, 5, 0, 7]
  | 2, 5 => [2, 1, 4, 3, 6, 5, 8, 7, 0, 9]
  | 2, 6 => [2, 1, 4, 3, 6, 5, 8, 7, 10, 9, 0, 11]
  | 2, 7 => [2, 1, 4, 3, 6, 5, 8, 7, 10, 9, 12, 11, 0, 13]
  | 2, 8 => [2, 1, 4, 3, 6, 5, 8, 7, 10, 9, 12, 11, 14, 13, 0, 15]
  | 2, 9 => [2, 1, 4, 3, 6, 5, 8, 7, 10, 9, 12, 11, 14, 13, 16, 15, 0, 17]
  | 2, 10 => [2, 1, 4, 3, 6, 5, 8, 7, 10, 9, 12, 11, 14, 13, 16, 15, 18, 17, 0, 19]
  | 2, 11 => [2, 1, 4, 3, 6, 5, 8, 7, 10, 9, 12, 11, 14, 13, 16, 15, 18, 17, 20, 19, 0, 21]
  | 2, 12 => [2, 1, 4, 3, 6, 5, 8, 7, 10, 9, 12, 11, 14, 13, 16, 15, 18, 17, 20, 19, 22, 21, 0, 23]
  | 2, 13 => [2, 1, 4, 3, 6, 5, 8, 7, 10, 9, 12, 11, 14, 13, 16, 15, 18, 17, 20, 19, 22, 21, 24, 23, 0, 25]
  | 2, 14 => [2, 1, 4, 3, 6, 5, 8, 7, 10, 9, 12, 11, 14, 13, 16, 15, 18, 17, 20, 19, 22, 21, 24, 23, 26, 25, 0, 27]
  | 3, 3 => [2, 11, 4, 7, 0, 9, 1, 8, 3, 10, 5, 6]
  | 3, 4 => [2, 15, 4, 9, 6, 11, 0, 13, 1, 10, 3, 12, 5, 14, 7, 8]
  | 3, 5 => [2, 19, 4, 11, 6, 13, 8, 15, 0, 17, 1, 12, 3, 14, 5, 16, 7, 18, 9, 10]
  | 3, 6 => [2, 23, 4, 13, 6, 15, 8, 17, 10, 19, 0, 21, 1, 14, 3, 16, 5, 18, 7, 20, 9, 22, 11, 12]
  | 3, 7 => [2, 27, 4, 15, 6, 17, 8, 19, 10, 21, 12, 23, 0, 25, 1, 16, 3, 18, 5, 20, 7, 22, 9, 24, 11, 26, 13, 14]
  | 4, 3 => [2, 11, 4, 7, 0, 9, 1, 14, 3, 16, 5, 12, 6, 17, 8, 13, 10, 15]
  | 4, 4 => [2, 15, 4, 9, 6, 11, 0, 13, 1, 18, 3, 20, 5, 22, 7, 16, 8, 23, 10, 17, 12, 19, 14, 21]
  | 5, 2 => [5, 3, 0, 6, 1, 7, 4, 2]
  | 5, 3 => [9, 3, 0, 6, 1, 7, 4, 10, 5, 11, 8, 2]
  | 5, 4 => [13, 3, 0, 6, 1, 7, 4, 10, 5, 11, 8, 14, 9, 15, 12, 2]
  | 5, 5 => [17, 3, 0, 6, 1, 7, 4, 10, 5, 11, 8, 14, 9, 15, 12, 18, 13, 19, 16, 2]
  | 5, 6 => [21, 3, 0, 6, 1, 7, 4, 10, 5, 11, 8, 14, 9, 15, 12, 18, 13, 19, 16, 22, 17, 23, 20, 2]
  | 5, 7 => [25, 3, 0, 6, 1, 7, 4, 10, 5, 11, 8, 14, 9, 15, 12, 18, 13, 19, 16, 22, 17, 23, 20, 26, 21, 27, 24, 2]
  | _, _ => []
def RTn : List (Nat × Nat) := [(0, 2), (0, 3), (0, 4), (0, 5), (0, 6), (0, 7), (0, 8), (0, 9), (0, 10), (0, 11), (0, 12), (0, 13), (0, 14), (1, 2), (1, 3), (1, 4), (1, 5), (1, 6), (1, 7), (1, 8), (1, 9), (1, 10), (1, 11), (1, 12), (1, 13), (1, 14), (2, 1), (2, 2), (2, 3), (2, 4), (2, 5), (2, 6), (2, 7), (2, 8), (2, 9), (2, 10), (2, 11), (2, 12), (2, 13), (2, 14), (3, 3), (3, 4), (3, 5), (3, 6), (3, 7), (4, 3), (4, 4), (5, 2), (5, 3), (5, 4), (5, 5), (5, 6), (5, 7)]
theorem RT_ok : (RTn.all fun p => wdB ((RT p.1 p.2).length / 2) (RT p.1 p.2) && decide (0 < (RT p.1 p.2).length / 2) && decide ((RT p.1 p.2).length / 2 ≤ 14)) = true := by decide +kernel
end K12

set_option Elab.async false
set_option linter.all false
set_option maxRecDepth 100000
set_option maxHeartbeats 4000000
namespace K12
open PySem PySem.Spec PyProof.Rows L2 DP WM
open K62 (Tn tupN lstN webD aboutL)
local macro_rules | `(tactic| k_ownIn) => `(tactic| focus first | assumption | omega | (simp; done) | (simp; omega) | (simp_all; done))
local macro_rules | `(tactic| k_allIn) => `(tactic| try simp only [List.set_cons_succ, List.set_cons_zero, SD.re, List.length_map, List.length_replicate, List.length_range, List.length_cons, List.length_nil, Nat.zero_add, Nat.reduceAdd])
local macro_rules | `(tactic| k_memK) => `(tactic| first
  | ((with_reducible refine (?_ : Wp (dSeq _ _ _) _)); first
    | with_reducible refine w_seqA ?_
    | with_reducible refine w_seqN ?_
    | with_reducible refine w_asg ?_
    | with_reducible refine w_drop ?_
    | with_reducible refine w_ret ?_
    | ((with_reducible apply w_retV); exact rfl; exact rfl)
    | with_reducible refine w_retN ?_
    | with_reducible refine w_brk ?_
    | with_reducible refine w_cont ?_
    | with_reducible refine w_ifS ?_
    | with_reducible refine w_for ?_
    | with_reducible refine w_whileS ?_
    | ((with_reducible apply w_aug); exact rfl)
    | with_reducible refine w_par ?_
    | with_reducible refine w_par3 ?_
    | ((with_reducible apply w_app); exact rfl; exact rfl)
    | ((with_reducible apply w_ext); exact rfl; exact rfl)
    | ((with_reducible apply w_ins); exact rfl; exact rfl)
    | with_reducible refine w_fldSet ?_)
  | ((with_reducible refine (?_ : Wo _ _)); first
    | with_reducible refine z_d ?_
    | with_reducible refine z_l ?_
    | with_reducible refine z_s ?_
    | with_reducible refine z_i ?_
    | ((with_reducible apply wo_get); exact rfl)
    | with_reducible refine r_ret ?_
    | with_reducible refine r_nx ?_
    | with_reducible refine k_nil ?_
    | with_reducible refine k_d ?_
    | with_reducible refine k_s ?_
    | with_reducible refine k_io ?_
    | with_reducible refine mo_io ?_
    | with_reducible refine mo_own ?_
    | ((with_reducible apply g_name); exact rfl; exact rfl; k_allIn)
    | ((with_reducible apply g_tup); exact rfl; (try simp only [List.map_cons, List.map_nil]))
    | with_reducible refine g_cons ?_
    | with_reducible refine g_names ?_
    | with_reducible refine g_names0 ?_
    | with_reducible refine wo_of (e_zipL _ _) ?_
    | with_reducible refine wo_of (e_zipT _ _) ?_
    | with_reducible refine g_nil ?_
    | ((with_reducible apply g_subLNk); exact rfl; exact rfl)
    | ((with_reducible apply g_subLk); exact rfl; exact rfl)
    | ((with_reducible apply g_subDk); exact rfl; exact rfl)
    | with_reducible refine wo_of (e_addN _ _) ?_
    | with_reducible refine wo_of (e_addI _ _) ?_
    | with_reducible refine wo_of (e_subN (by omega)) ?_
    | with_reducible refine wo_of (e_subI _ _) ?_
    | with_reducible refine wo_of (e_mulN (by omega)) ?_
    | with_reducible refine wo_of (e_modN (by omega)) ?_
    | with_reducible refine wo_of (e_modI (by omega)) ?_
    | with_reducible refine wo_of (e_fdivN (by omega)) ?_
    | with_reducible refine wo_of (e_fdivI (by omega)) ?_
    | with_reducible refine wo_of (e_xor1 _) ?_
    | with_reducible refine wo_of e_neg1 ?_
    | with_reducible refine wo_of (e_negI _) ?_
    | with_reducible refine wo_of (e_ltN _ _) ?_
    | with_reducible refine wo_of (e_leN _ _) ?_
    | with_reducible refine wo_of (e_gtN _ _) ?_
    | with_reducible refine wo_of (e_geN _ _) ?_
    | with_reducible refine wo_of (e_ltI _ _) ?_
    | with_reducible refine wo_of (e_leI _ _) ?_
    | with_reducible refine wo_of (e_gtI _ _) ?_
    | with_reducible refine wo_of (e_geI _ _) ?_
    | with_reducible refine wo_of (e_eqN _ _) ?_
    | with_reducible refine wo_of (e_eqT0 _) ?_
    | with_reducible refine wo_of (e_eqT _ _) ?_
    | with_reducible refine wo_of (e_neT _ _) ?_
    | with_reducible refine wo_of (e_eqL0 _) ?_
    | with_reducible refine wo_of (e_eqLL _ _) ?_
    | with_reducible refine wo_of (e_neLL _ _) ?_
    | with_reducible refine wo_of (e_intB _) ?_
    | with_reducible refine wo_of (e_neN _ _) ?_
    | with_reducible refine wo_of (e_eqI _ _) ?_
    | with_reducible refine wo_of (e_neI _ _) ?_
    | with_reducible refine wo_of (e_ixL (by k_ownIn)) ?_
    | with_reducible refine wo_of (e_ixT (by k_ownIn)) ?_
    | with_reducible refine wo_of (e_ixO (by k_ownIn)) ?_
    | with_reducible refine wo_of (e_ixM (by k_ownIn)) ?_
    | with_reducible refine wo_of (e_catN2 (by k_ownIn)) ?_
    | with_reducible refine wo_of (e_catDD (by k_ownIn)) ?_
    | with_reducible refine wo_of (e_catDO (by k_ownIn)) ?_
    | with_reducible refine wo_of (e_catOD (by k_ownIn)) ?_
    | with_reducible refine wo_of (e_catOO (by k_ownIn)) ?_
    | with_reducible refine wo_of (e_repN (by k_ownIn)) ?_
    | with_reducible refine wo_of (e_repO (by k_ownIn)) ?_
    | with_reducible refine wo_of (e_max2 _ _) ?_
    | with_reducible refine wo_of (e_min2 _ _) ?_
    | with_reducible refine wo_of e_all ?_
    | with_reducible refine wo_of e_any ?_
    | with_reducible refine wo_of e_sum ?_
    | ((with_reducible refine wo_of (e_lenL _) ?_); k_allIn)
    | ((with_reducible refine wo_of (e_lenO _) ?_); k_allIn)
    | ((with_reducible refine wo_of (e_lenT _) ?_); k_allIn)
    | ((with_reducible refine wo_of (e_lenS _) ?_); k_allIn)
    | ((with_reducible refine wo_of (e_glenL _) ?_); k_allIn)
    | ((with_reducible refine wo_of (e_glenT _) ?_); k_allIn)
    | with_reducible refine wo_of (e_int _) ?_
    | with_reducible refine wo_of (e_tupL _) ?_
    | with_reducible refine wo_of (e_tupT _) ?_
    | with_reducible refine wo_of (e_listL _) ?_
    | with_reducible refine wo_of (e_listT _) ?_
    | with_reducible refine wo_of (e_truB _) ?_
    | with_reducible refine wo_of (e_truI _) ?_
    | with_reducible refine wo_of (e_truT _) ?_
    | with_reducible refine wo_of (e_truL _) ?_
    | with_reducible refine wo_of (e_keyI _) ?_
    | with_reducible refine it_l ?_
    | ((with_reducible apply wo_isNT); exact rfl)
    | ((with_reducible apply wo_isNF); exact rfl)
    | ((with_reducible apply wo_isBT); exact rfl)
    | ((with_reducible apply wo_isBF); exact rfl)
    | ((with_reducible apply wo_isiT); exact rfl)
    | ((with_reducible apply wo_isiF); exact rfl)
    | ((with_reducible apply wo_iscT); exact rfl)
    | ((with_reducible apply wo_iscF); exact rfl)
    | with_reducible refine it_t ?_
    | ((with_reducible apply e_lookup); exact rfl)
    | ((with_reducible apply e_index); exact rfl; k_ownIn))
  | ((with_reducible refine (?_ : Wp _ _)); first
    | with_reducible refine w_next ?_
    | with_reducible refine w_cN ?_
    | with_reducible refine w_c ?_
    | ((with_reducible apply w_varD); exact rfl)
    | ((with_reducible apply w_varL); exact rfl; k_allIn)
    | ((with_reducible apply w_varS); exact rfl)
    | ((with_reducible apply w_varI); exact rfl; k_allIn)
    | with_reducible refine w_un ?_
    | with_reducible refine w_fz ?_
    | with_reducible refine w_bin ?_
    | with_reducible refine w_nil ?_
    | with_reducible refine w_cons ?_
    | with_reducible refine w_cb ?_
    | with_reducible refine w_tup ?_
    | with_reducible refine w_lst ?_
    | ((with_reducible apply w_varB); exact rfl; exact rfl)
    | with_reducible refine w_binB ?_
    | ((with_reducible apply w_lenB); exact rfl; exact rfl)
    | with_reducible refine w_notT ?_
    | with_reducible refine w_andT ?_
    | with_reducible refine w_orT ?_
    | with_reducible refine w_testB ?_
    | with_reducible refine w_tru ?_
    | with_reducible refine w_yes ?_
    | with_reducible refine w_andV ?_
    | with_reducible refine w_orV ?_
    | with_reducible refine w_notV ?_
    | with_reducible refine w_ifE ?_
    | with_reducible refine w_call ?_
    | with_reducible refine w_callRev ?_
    | ((with_reducible apply w_callIO); exact rfl; exact rfl)
    | with_reducible refine w_callF ?_
    | with_reducible refine w_meth ?_
    | with_reducible refine w_prop ?_
    | with_reducible refine w_fld ?_
    | with_reducible refine w_make ?_
    | with_reducible refine w_isi ?_
    | with_reducible refine w_noPart ?_
    | with_reducible refine w_part ?_
    | with_reducible refine w_sl ?_
    | with_reducible refine w_revL ?_
    | ((with_reducible apply w_index); exact rfl; exact rfl)
    | with_reducible refine w_dnew ?_
    | with_reducible refine w_disp2 ?_
    | with_reducible refine w_setNew ?_
    | ((with_reducible apply w_getB); exact rfl; exact rfl)
    | with_reducible refine w_inD ?_
    | with_reducible refine w_iseq ?_
    | with_reducible refine w_irng ?_
    | with_reducible refine w_lrgN ?_
    | with_reducible refine w_ienum ?_
    | with_reducible refine w_izip ?_
    | with_reducible refine w_lc ?_)
  | with_reducible refine br_T ?_
  | with_reducible refine br_F ?_
  | with_reducible refine br_nT ?_
  | with_reducible refine br_nF ?_
  | with_reducible refine br_dec ?_
  | with_reducible refine br_and ?_
  | with_reducible refine br_or ?_
  | with_reducible refine s_rfl ?_
  | with_reducible refine br_ndec ?_
  | with_reducible apply s_bl
  | with_reducible apply s_nat
  | with_reducible apply s_int
  | with_reducible apply s_ins
  | with_reducible apply s_d
  | with_reducible apply s_own
  | with_reducible apply s_oneN
  | ((with_reducible apply s_rngN); k_ownIn)
  | ((with_reducible apply s_rngI); k_ownIn)
  | with_reducible apply s_one
  | with_reducible apply s_insK
  | with_reducible apply s_three
  | (with_reducible apply s_mk; k_allIn)
  | (with_reducible apply s_io; k_allIn)
  | with_reducible apply s_zipL
  | with_reducible apply s_zipT
  | ((with_reducible apply s_isNo); exact rfl)
  | ((with_reducible apply s_blt); exact rfl; k_allIn)
  | ((with_reducible apply s_blt3); exact rfl; k_allIn)
  | ((with_reducible apply s_plain); exact rfl; (try simp only [wipeD, restD, List.set_cons_succ, List.set_cons_zero, List.getElem?_cons_zero, List.getElem?_cons_succ, Option.getD_some]))
  | ((with_reducible apply s_con); decide +kernel)
  | ((with_reducible apply s_dats); exact rfl; exact rfl)
  | ((with_reducible apply s_moLN); exact rfl; k_ownIn; k_allIn)
  | ((with_reducible apply s_moL); exact rfl; k_ownIn; k_allIn)
  | ((with_reducible apply s_moDl); exact rfl; k_ownIn; k_allIn)
  | ((with_reducible apply s_moD); exact rfl)
  | ((with_reducible apply s_moO); exact rfl; exact rfl; k_allIn)
  | ((with_reducible apply s_lst); exact rfl)
  | ((with_reducible apply s_lt); k_ownIn; k_allIn)
  | ((with_reducible apply s_le); k_ownIn))
local macro_rules | `(tactic| k_places) => `(tactic| repeat k_memK)
local macro_rules | `(tactic| k_clsL) => `(tactic| repeat first | with_reducible refine w_andP ?_ | with_reducible refine w_orP ?_ | k_memK)
def natD : Dat → Option Nat
  | .int i => if 0 ≤ i then some i.toNat else none
  | _ => none
def natsD : List Dat → Option (List Nat)
  | [] => some []
  | x :: r => (natD x).bind fun a => (natsD r).map (a :: ·)
theorem natsD_is : ∀ {xs : List Dat} {l : List Nat}, natsD xs = some l → xs = l.map nI
  | [], _, e => by cases e; rfl
  | x :: r, _, e => by
    obtain ⟨a, e1, e⟩ := Option.bind_some' e
    obtain ⟨b, e2, e⟩ := Option.map_some' e
    subst e
    rw [natsD_is e2]
    cases x with
    | int i =>
      have e1 : (if 0 ≤ i then some i.toNat else none) = some a := e1
      split at e1
      · cases e1
        rw [List.map_cons]
        congr 1
        show Dat.int i = Dat.int ((i.toNat : Nat) : Int)
        rw [Int.toNat_of_nonneg (by assumption)]
      · cases e1
    | _ => cases e1
/-- the rows of a kind, and their turn -/
def RP : DS := (dSeq (dAsg (dTup (dCons (dLstRg1 (dVar 2)) (dCons (dBin gMul (dC (.int 2)) (dVar 2)) dNil))) (dgTup 2 (dgCons (dgName 3) (dgCons (dgName 4) dgNil))))
    (dSeq (dAsg (dLC [9] (dISeq (dVar 3)) (dgName 9) dYes (dBin gMul (dC (.int 2)) (dVar 9))) (dgName 5))
    (dSeq (dIfS (dTestB (dBin (gEq false) (dVar 1) (dC (.int 0)))) (dSeq (dAsg (dLC [9] (dISeq (dVar 3)) (dgName 9) dYes (dLst (dCons (dBin gSub2 (dBin gSub2 (dBin gAdd (dBin gMul (dC (.int 2)) (dVar 9)) (dVar 4)) (dC (.int 1))) (dBin gMul (dVar 4) (dCB gInt (dCons (dBin gGt (dVar 9) (dC (.int 0))) dNil)))) (dCons (dBin gMul (dC (.int 2)) (dVar 9)) dNil)))) (dgName 6))
    dNext) (dSeq (dIfS (dTestB (dBin (gEq false) (dVar 1) (dC (.int 1)))) (dSeq (dAsg (dLst (dCons (dVar 5) (dCons (dRevL (dLC [9] (dISeq (dVar 3)) (dgName 9) dYes (dBin gAdd (dBin gMul (dC (.int 2)) (dVar 9)) (dC (.int 1))))) dNil))) (dgName 6))
    dNext) (dSeq (dIfS (dTestB (dBin (gEq false) (dVar 1) (dC (.int 2)))) (dSeq (dAsg (dBin gAdd (dLst (dCons (dVar 5) dNil)) (dLC [9] (dISeq (dVar 3)) (dgName 9) dYes (dLst (dCons (dBin gAdd (dBin gMul (dC (.int 2)) (dVar 9)) (dC (.int 1))) dNil)))) (dgName 6))
    dNext) (dSeq (dIfS (dTestB (dBin gLt (dVar 1) (dC (.int 5)))) (dSeq (dAsg (dLC [9] (dISeq (dVar 3)) (dgName 9) dYes (dLst (dCons (dBin gAdd (dBin gMul (dC (.int 2)) (dVar 9)) (dC (.int 1))) (dCons (dBin gAdd (dBin gSub2 (dBin gAdd (dBin gMul (dC (.int 2)) (dVar 9)) (dVar 4)) (dC (.int 1))) (dBin gMul (dVar 4) (dCB gInt (dCons (dBin (gEq false) (dVar 9) (dC (.int 0))) dNil)))) (dCons (dBin gAdd (dBin gMul (dC (.int 2)) (dVar 9)) (dVar 4)) dNil))))) (dgName 7))
    (dSeq (dAsg (dBin gAdd (dLst (dCons (dVar 5) dNil)) (dVar 7)) (dgName 6))
    (dSeq (dIfS (dTestB (dBin (gEq false) (dVar 1) (dC (.int 4)))) (dSeq (dAsg (dLst (dCons (dVar 5) (dCons (dRevL (dLC [9] (dISeq (dVar 3)) (dgName 9) dYes (dBin gAdd (dBin gAdd (dBin gMul (dC (.int 2)) (dVar 9)) (dBin gMul (dC (.int 2)) (dVar 4))) (dC (.int 1))))) dNil))) (dgName 6))
    (dSeq (dAsg (dBin gAdd (dVar 6) (dLC [9, 10] (dIEnum (dCons (dVar 7) dNil)) (dgTup 2 (dgNames [9, 10])) dYes (dLst (dCons (dVarB 10 gIx (dC (.int 0))) (dCons (dVarB 10 gIx (dC (.int 1))) (dCons (dBin gAdd (dBin gMul (dC (.int 2)) (dVar 9)) (dBin gMul (dC (.int 2)) (dVar 4))) (dCons (dVarB 10 gIx (dC (.int 2))) dNil))))))) (dgName 6))
    dNext)) dNext)
    dNext))) (dSeq (dAsg (dLC [9] (dISeq (dVar 3)) (dgName 9) dYes (dLst (dCons (dBin gAdd (dBin gSub2 (dBin gMul (dC (.int 4)) (dVar 9)) (dC (.int 3))) (dBin gMul (dBin gMul (dC (.int 2)) (dVar 4)) (dCB gInt (dCons (dBin (gEq false) (dVar 9) (dC (.int 0))) dNil)))) (dCons (dBin gAdd (dBin gSub2 (dBin gMul (dC (.int 4)) (dVar 9)) (dC (.int 1))) (dBin gMul (dBin gMul (dC (.int 2)) (dVar 4)) (dCB gInt (dCons (dBin (gEq false) (dVar 9) (dC (.int 0))) dNil)))) (dCons (dBin gAdd (dBin gMul (dC (.int 4)) (dVar 9)) (dC (.int 2))) (dCons (dBin gMul (dC (.int 4)) (dVar 9)) dNil)))))) (dgName 6))
    dNext))
    dNext))
    dNext))
    dNext))
    (dSeq (dAsg (dCall Φ__law_turn (dCons (dVar 6) dNil)) (dgName 8))
    dNext))))
def pk : Option (FD × List SD) → Option (SD × List Nat)
  | some (.nx, [a0, _, _, _, _, _, _, _, .own (.lst xs), _, _]) => (natsD xs).map fun l => (a0, l)
  | _ => none
theorem pk_is {o : Option (FD × List SD)} {s : SD} {l : List Nat} (h : pk o = some (s, l)) : ∃ a1 a2 a3 a4 a5 a6 a7 a9 a10, o = some (.nx, [s, a1, a2, a3, a4, a5, a6, a7, .own (.lst (l.map nI)), a9, a10]) := by
  unfold pk at h
  split at h
  · obtain ⟨l', e1, e⟩ := Option.map_some' h
    cases e
    rw [natsD_is e1]
    exact ⟨_, _, _, _, _, _, _, _, _, rfl⟩
  · cases h
theorem RP_ok (s : SD) : ∀ p ∈ RTn, pk (RP [s, .d (nI p.1), .d (nI p.2), .no, .no, .no, .no, .no, .no, .no, .no]) = some (s, RT p.1 p.2) := by
  unfold RTn
  refine List.forall_mem_cons.mpr ⟨?_, ?_⟩
  · kernel_rfl
  refine List.forall_mem_cons.mpr ⟨?_, ?_⟩
  · kernel_rfl
  refine List.forall_mem_cons.mpr ⟨?_, ?_⟩
  · kernel_rfl
  refine List.forall_mem_cons.mpr ⟨?_, ?_⟩
  · kernel_rfl
  refine List.forall_mem_cons.mpr ⟨?_, ?_⟩
  · kernel_rfl
  refine List.forall_mem_cons.mpr ⟨?_, ?_⟩
  · kernel_rfl
  refine List.forall_mem_cons.mpr ⟨?_, ?_⟩
  · kernel_rfl
  refine List.forall_mem_cons.mpr ⟨?_, ?_⟩
  · kernel_rfl
  refine List.forall_mem_cons.mpr ⟨?_, ?_⟩
  · kernel_rfl
  refine List.forall_mem_cons.mpr ⟨?_, ?_⟩
  · kernel_rfl
  refine List.forall_mem_cons.mpr ⟨?_, ?_⟩
  · kernel_rfl
  refine List.forall_mem_cons.mpr ⟨?_, ?_⟩
  · kernel_rfl
  refine List.forall_mem_cons.mpr ⟨?_, ?_⟩
  · kernel_rfl
  refine List.forall_mem_cons.mpr ⟨?_, ?_⟩
  · kernel_rfl
  refine List.forall_mem_cons.mpr ⟨?_, ?_⟩
  · kernel_rfl
  refine List.forall_mem_cons.mpr ⟨?_, ?_⟩
  · kernel_rfl
  refine List.forall_mem_cons.mpr ⟨?_, ?_⟩
  · kernel_rfl
  refine List.forall_mem_cons.mpr ⟨?_, ?_⟩
  · kernel_rfl
  refine List.forall_mem_cons.mpr ⟨?_, ?_⟩
  · kernel_rfl
  refine List.forall_mem_cons.mpr ⟨?_, ?_⟩
  · kernel_rfl
  refine List.forall_mem_cons.mpr ⟨?_, ?_⟩
  · kernel_rfl
  refine List.forall_mem_cons.mpr ⟨?_, ?_⟩
  · kernel_rfl
  refine List.forall_mem_cons.mpr ⟨?_, ?_⟩
  · kernel_rfl
  refine List.forall_mem_cons.mpr ⟨?_, ?_⟩
  · kernel_rfl
  refine List.forall_mem_cons.mpr ⟨?_, ?_⟩
  · kernel_rfl
  refine List.forall_mem_cons.mpr ⟨?_, ?_⟩
  · kernel_rfl
  refine List.forall_mem_cons.mpr ⟨?_, ?_⟩
  · kernel_rfl
  refine List.forall_mem_cons.mpr ⟨?_, ?_⟩
  · kernel_rfl
  refine List.forall_mem_cons.mpr ⟨?_, ?_⟩
  · kernel_rfl
  refine List.forall_mem_cons.mpr ⟨?_, ?_⟩
  · kernel_rfl
  refine List.forall_mem_cons.mpr ⟨?_, ?_⟩
  · kernel_rfl
  refine List.forall_mem_cons.mpr ⟨?_, ?_⟩
  · kernel_rfl
  refine List.forall_mem_cons.mpr ⟨?_, ?_⟩
  · kernel_rfl
  refine List.forall_mem_cons.mpr ⟨?_, ?_⟩
  · kernel_rfl
  refine List.forall_mem_cons.mpr ⟨?_, ?_⟩
  · kernel_rfl
  refine List.forall_mem_cons.mpr ⟨?_, ?_⟩
  · kernel_rfl
  refine List.forall_mem_cons.mpr ⟨?_, ?_⟩
  · kernel_rfl
  refine List.forall_mem_cons.mpr ⟨?_, ?_⟩
  · kernel_rfl
  refine List.forall_mem_cons.mpr ⟨?_, ?_⟩
  · kernel_rfl
  refine List.forall_mem_cons.mpr ⟨?_, ?_⟩
  · kernel_rfl
  refine List.forall_mem_cons.mpr ⟨?_, ?_⟩
  · kernel_rfl
  refine List.forall_mem_cons.mpr ⟨?_, ?_⟩
  · kernel_rfl
  refine List.forall_mem_cons.mpr ⟨?_, ?_⟩
  · kernel_rfl
  refine List.forall_mem_cons.mpr ⟨?_, ?_⟩
  · kernel_rfl
  refine List.forall_mem_cons.mpr ⟨?_, ?_⟩
  · kernel_rfl
  refine List.forall_mem_cons.mpr ⟨?_, ?_⟩
  · kernel_rfl
  refine List.forall_mem_cons.mpr ⟨?_, ?_⟩
  · kernel_rfl
  refine List.forall_mem_cons.mpr ⟨?_, ?_⟩
  · kernel_rfl
  refine List.forall_mem_cons.mpr ⟨?_, ?_⟩
  · kernel_rfl
  refine List.forall_mem_cons.mpr ⟨?_, ?_⟩
  · kernel_rfl
  refine List.forall_mem_cons.mpr ⟨?_, ?_⟩
  · kernel_rfl
  refine List.forall_mem_cons.mpr ⟨?_, ?_⟩
  · kernel_rfl
  refine List.forall_mem_cons.mpr ⟨?_, ?_⟩
  · kernel_rfl
  exact fun p hp => by cases hp
theorem w_cut4 {a b c d r : DS} {ρ : List SD} {Q : FD → List SD → Prop} (h : Wp (dSeq a (dSeq b (dSeq c (dSeq d dNext))) ρ) (aft r Q)) : Wp (dSeq a (dSeq b (dSeq c (dSeq d r))) ρ) Q := by
  have as : ∀ (x y z : DS), dSeq (dSeq x y) z = dSeq x (dSeq y z) := fun x y z => by
    funext ρ
    unfold dSeq
    cases x ρ with
    | none => rfl
    | some p =>
      obtain ⟨fl, ρ1⟩ := p
      cases fl <;> rfl
  have e : dSeq (dSeq a (dSeq b (dSeq c (dSeq d dNext)))) r = dSeq a (dSeq b (dSeq c (dSeq d r))) := by
    rw [as, as, as, as]; rfl
  rw [← e]
  exact w_aft h
theorem RT_wd {w m : Nat} (h : (w, m) ∈ RTn) : ∃ n, n ≤ 14 ∧ Wd n (RT w m) := by
  have := List.all_eq_true.mp RT_ok _ h
  rw [Bool.and_eq_true, Bool.and_eq_true] at this
  obtain ⟨⟨h1, h2⟩, h3⟩ := this
  exact ⟨_, of_decide_eq_true h3, wd_of h1 (of_decide_eq_true h2)⟩
theorem RT_all : ((List.range 6).all fun w => (List.range (([13, 13, 14, 5, 2, 6] : List Nat).getD w 0)).all fun m => RTn.contains (w, m + ([2, 2, 1, 3, 3, 2] : List Nat).getD w 0)) = true := by decide +kernel
theorem RT_in {w m : Nat} (hw : w < 6) (hm : m < ([13, 13, 14, 5, 2, 6] : List Nat).getD w 0) : (w, m + ([2, 2, 1, 3, 3, 2] : List Nat).getD w 0) ∈ RTn := by
  have h := List.all_eq_true.mp (List.all_eq_true.mp RT_all w (List.mem_range.mpr hw)) m (List.mem_range.mpr hm)
  simpa using h
theorem w_round {p0 p1 : Int} (hp : PotOk p0 p1) {Q : SD → List SD → Prop} (k : ∀ s n t q0 q1, (s = .own (.lst (t.map nI)) ∨ s = .d (lstN t)) → n ≤ 14 → Wd n t → PotOk q0 q1 → Q s [pot q0 q1]) : Wp (Φ__law_round [pot p0 p1]) Q := by
  unfold Φ__law_round F__law_round
  refine w_runF rfl ?_
  simp only [List.replicate, List.cons_append, List.nil_append, Nat.reduceSub]
  k_places
  refine w_draw hp (by omega) (by omega) fun w a0 a1 hw ha => ?_
  k_places
  have hN : ∀ w < 6, 1 ≤ ([13, 13, 14, 5, 2, 6] : List Nat).getD w 0 ∧ ([13, 13, 14, 5, 2, 6] : List Nat).getD w 0 < 100 := by decide
  have hR : ∀ w < 6, ∀ m, m < ([13, 13, 14, 5, 2, 6] : List Nat).getD w 0 → (w, m + ([2, 2, 1, 3, 3, 2] : List Nat).getD w 0) ∈ RTn := fun w hw m hm => RT_in hw hm
  have h1 := hN w hw
  refine wo_of (seq_ix (l := [13, 13, 14, 5, 2, 6]) rfl (by simpa using hw)) ?_
  k_places
  refine w_draw ha h1.1 (by omega) fun m b0 b1 hm hb => ?_
  k_places
  refine wo_of (seq_ix (l := [2, 2, 1, 3, 3, 2]) rfl (by simpa using hw)) ?_
  k_memK
  k_memK
  refine w_cut4 ?_
  have hin := hR w hw m hm
  generalize m + ([2, 2, 1, 3, 3, 2] : List Nat).getD w 0 = mm at *
  obtain ⟨c1, c2, c3, c4, c5, c6, c7, c9, c10, e⟩ := pk_is (RP_ok (.io (.lst [.int b0, .int b1])) _ hin)
  obtain ⟨n, hn, W⟩ := RT_wd hin
  refine w_of e ?_
  show Wp _ _
  generalize RT w mm = t at W e
  have hl := W.len
  k_places
  refine w_draw hb (by omega) (by omega) fun x d0 d1 hx hd => ?_
  k_places
  refine ⟨fun h => ?_, fun h => ?_⟩
  · k_places
    exact k _ n t _ _ (.inr rfl) hn W hd
  · k_places
    refine w_labout hl hn ?_
    k_places
    exact k _ n _ _ _ (.inl rfl) hn (about_wd W) hd
end K12

set_option Elab.async false
set_option linter.all false
set_option maxRecDepth 100000
set_option maxHeartbeats 4000000
namespace K12
open PySem PySem.Spec PyProof.Rows L2 DP WM
open K62 (Tn tupN lstN webD aboutL)
local macro_rules | `(tactic| k_ownIn) => `(tactic| focus first | assumption | omega | (simp; done) | (simp; omega) | (simp_all; done))
local macro_rules | `(tactic| k_allIn) => `(tactic| try simp only [List.set_cons_succ, List.set_cons_zero, SD.re, List.length_map, List.length_replicate, List.length_range, List.length_cons, List.length_nil, Nat.zero_add, Nat.reduceAdd])
local macro_rules | `(tactic| k_memK) => `(tactic| first
  | ((with_reducible refine (?_ : Wp (dSeq _ _ _) _)); first
    | with_reducible refine w_seqA ?_
    | with_reducible refine w_seqN ?_
    | with_reducible refine w_asg ?_
    | with_reducible refine w_drop ?_
    | with_reducible refine w_ret ?_
    | ((with_reducible apply w_retV); exact rfl; exact rfl)
    | with_reducible refine w_retN ?_
    | with_reducible refine w_brk ?_
    | with_reducible refine w_cont ?_
    | with_reducible refine w_ifS ?_
    | with_reducible refine w_for ?_
    | with_reducible refine w_whileS ?_
    | ((with_reducible apply w_aug); exact rfl)
    | with_reducible refine w_par ?_
    | with_reducible refine w_par3 ?_
    | ((with_reducible apply w_app); exact rfl; exact rfl)
    | ((with_reducible apply w_ext); exact rfl; exact rfl)
    | ((with_reducible apply w_ins); exact rfl; exact rfl)
    | with_reducible refine w_fldSet ?_)
  | ((with_reducible refine (?_ : Wo _ _)); first
    | with_reducible refine z_d ?_
    | with_reducible refine z_l ?_
    | with_reducible refine z_s ?_
    | ((with_reducible refine z_i ?_); (try simp only [List.map_cons, List.map_nil]))
    | ((with_reducible apply wo_get); exact rfl)
    | with_reducible refine r_ret ?_
    | with_reducible refine r_nx ?_
    | with_reducible refine k_nil ?_
    | with_reducible refine k_d ?_
    | with_reducible refine k_s ?_
    | with_reducible refine k_io ?_
    | with_reducible refine mo_io ?_
    | with_reducible refine mo_own ?_
    | ((with_reducible apply g_name); exact rfl; exact rfl; k_allIn)
    | ((with_reducible apply g_tup); exact rfl; (try simp only [List.map_cons, List.map_nil]))
    | with_reducible refine g_cons ?_
    | with_reducible refine g_names ?_
    | with_reducible refine g_names0 ?_
    | with_reducible refine wo_of (e_zipL _ _) ?_
    | with_reducible refine wo_of (e_zipT _ _) ?_
    | with_reducible refine g_nil ?_
    | ((with_reducible apply g_subLNk); exact rfl; exact rfl)
    | ((with_reducible apply g_subLk); exact rfl; exact rfl)
    | ((with_reducible apply g_subDk); exact rfl; exact rfl)
    | with_reducible refine wo_of (e_addN _ _) ?_
    | with_reducible refine wo_of (e_addI _ _) ?_
    | with_reducible refine wo_of (e_subN (by omega)) ?_
    | with_reducible refine wo_of (e_subI _ _) ?_
    | with_reducible refine wo_of (e_mulN (by omega)) ?_
    | with_reducible refine wo_of (e_modN (by omega)) ?_
    | with_reducible refine wo_of (e_modI (by omega)) ?_
    | with_reducible refine wo_of (e_fdivN (by omega)) ?_
    | with_reducible refine wo_of (e_fdivI (by omega)) ?_
    | with_reducible refine wo_of (e_xor1 _) ?_
    | with_reducible refine wo_of e_neg1 ?_
    | with_reducible refine wo_of (e_negI _) ?_
    | with_reducible refine wo_of (e_ltN _ _) ?_
    | with_reducible refine wo_of (e_leN _ _) ?_
    | with_reducible refine wo_of (e_gtN _ _) ?_
    | with_reducible refine wo_of (e_geN _ _) ?_
    | with_reducible refine wo_of (e_ltI _ _) ?_
    | with_reducible refine wo_of (e_leI _ _) ?_
    | with_reducible refine wo_of (e_gtI _ _) ?_
    | with_reducible refine wo_of (e_geI _ _) ?_
    | with_reducible refine wo_of (e_eqN _ _) ?_
    | with_reducible refine wo_of (e_eqT0 _) ?_
    | with_reducible refine wo_of (e_eqT _ _) ?_
    | with_reducible refine wo_of (e_neT _ _) ?_
    | with_reducible refine wo_of (e_eqL0 _) ?_
    | with_reducible refine wo_of (e_eqLL _ _) ?_
    | with_reducible refine wo_of (e_neLL _ _) ?_
    | with_reducible refine wo_of (e_intB _) ?_
    | with_reducible refine wo_of (e_neN _ _) ?_
    | with_reducible refine wo_of (e_eqI _ _) ?_
    | with_reducible refine wo_of (e_neI _ _) ?_
    | with_reducible refine wo_of (e_ixL (by k_ownIn)) ?_
    | with_reducible refine wo_of (e_ixT (by k_ownIn)) ?_
    | with_reducible refine wo_of (e_ixO (by k_ownIn)) ?_
    | with_reducible refine wo_of (e_ixM (by k_ownIn)) ?_
    | with_reducible refine wo_of (e_catN2 (by k_ownIn)) ?_
    | with_reducible refine wo_of (e_catDD (by k_ownIn)) ?_
    | with_reducible refine wo_of (e_catDO (by k_ownIn)) ?_
    | with_reducible refine wo_of (e_catOD (by k_ownIn)) ?_
    | with_reducible refine wo_of (e_catOO (by k_ownIn)) ?_
    | with_reducible refine wo_of (e_repN (by k_ownIn)) ?_
    | with_reducible refine wo_of (e_repO (by k_ownIn)) ?_
    | with_reducible refine wo_of (e_max2 _ _) ?_
    | with_reducible refine wo_of (e_min2 _ _) ?_
    | with_reducible refine wo_of e_all ?_
    | with_reducible refine wo_of e_any ?_
    | with_reducible refine wo_of e_sum ?_
    | ((with_reducible refine wo_of (e_lenL _) ?_); k_allIn)
    | ((with_reducible refine wo_of (e_lenO _) ?_); k_allIn)
    | ((with_reducible refine wo_of (e_lenT _) ?_); k_allIn)
    | ((with_reducible refine wo_of (e_lenS _) ?_); k_allIn)
    | ((with_reducible refine wo_of (e_glenL _) ?_); k_allIn)
    | ((with_reducible refine wo_of (e_glenT _) ?_); k_allIn)
    | with_reducible refine wo_of (e_int _) ?_
    | with_reducible refine wo_of (e_tupL _) ?_
    | with_reducible refine wo_of (e_tupT _) ?_
    | with_reducible refine wo_of (e_listL _) ?_
    | with_reducible refine wo_of (e_listT _) ?_
    | with_reducible refine wo_of (e_truB _) ?_
    | with_reducible refine wo_of (e_truI _) ?_
    | with_reducible refine wo_of (e_truT _) ?_
    | with_reducible refine wo_of (e_truL _) ?_
    | with_reducible refine wo_of (e_keyI _) ?_
    | with_reducible refine it_l ?_
    | ((with_reducible apply wo_isNT); exact rfl)
    | ((with_reducible apply wo_isNF); exact rfl)
    | ((with_reducible apply wo_isBT); exact rfl)
    | ((with_reducible apply wo_isBF); exact rfl)
    | ((with_reducible apply wo_isiT); exact rfl)
    | ((with_reducible apply wo_isiF); exact rfl)
    | ((with_reducible apply wo_iscT); exact rfl)
    | ((with_reducible apply wo_iscF); exact rfl)
    | with_reducible refine it_t ?_
    | ((with_reducible apply e_lookup); exact rfl)
    | ((with_reducible apply e_index); exact rfl; k_ownIn))
  | ((with_reducible refine (?_ : Wp _ _)); first
    | with_reducible refine w_next ?_
    | with_reducible refine w_cN ?_
    | with_reducible refine w_c ?_
    | ((with_reducible apply w_varD); exact rfl)
    | ((with_reducible apply w_varL); exact rfl; k_allIn)
    | ((with_reducible apply w_varS); exact rfl)
    | ((with_reducible apply w_varI); exact rfl; k_allIn)
    | with_reducible refine w_un ?_
    | with_reducible refine w_fz ?_
    | with_reducible refine w_bin ?_
    | with_reducible refine w_nil ?_
    | with_reducible refine w_cons ?_
    | with_reducible refine w_cb ?_
    | with_reducible refine w_tup ?_
    | with_reducible refine w_lst ?_
    | ((with_reducible apply w_varB); exact rfl; exact rfl)
    | with_reducible refine w_binB ?_
    | ((with_reducible apply w_lenB); exact rfl; exact rfl)
    | with_reducible refine w_notT ?_
    | with_reducible refine w_andT ?_
    | with_reducible refine w_orT ?_
    | with_reducible refine w_testB ?_
    | with_reducible refine w_tru ?_
    | with_reducible refine w_yes ?_
    | with_reducible refine w_andV ?_
    | with_reducible refine w_orV ?_
    | with_reducible refine w_notV ?_
    | with_reducible refine w_ifE ?_
    | with_reducible refine w_call ?_
    | with_reducible refine w_callRev ?_
    | ((with_reducible apply w_callIO); exact rfl; exact rfl)
    | with_reducible refine w_callF ?_
    | with_reducible refine w_meth ?_
    | with_reducible refine w_prop ?_
    | with_reducible refine w_fld ?_
    | with_reducible refine w_make ?_
    | with_reducible refine w_isi ?_
    | with_reducible refine w_noPart ?_
    | with_reducible refine w_part ?_
    | with_reducible refine w_sl ?_
    | with_reducible refine w_revL ?_
    | ((with_reducible apply w_index); exact rfl; exact rfl)
    | with_reducible refine w_dnew ?_
    | with_reducible refine w_disp2 ?_
    | with_reducible refine w_setNew ?_
    | ((with_reducible apply w_getB); exact rfl; exact rfl)
    | with_reducible refine w_inD ?_
    | with_reducible refine w_iseq ?_
    | with_reducible refine w_irng ?_
    | with_reducible refine w_lrgN ?_
    | with_reducible refine w_ienum ?_
    | with_reducible refine w_izip ?_
    | with_reducible refine w_lc ?_)
  | with_reducible refine br_T ?_
  | with_reducible refine br_F ?_
  | with_reducible refine br_nT ?_
  | with_reducible refine br_nF ?_
  | with_reducible refine br_dec ?_
  | with_reducible refine br_and ?_
  | with_reducible refine br_or ?_
  | with_reducible refine s_rfl ?_
  | with_reducible refine br_ndec ?_
  | with_reducible apply s_bl
  | with_reducible apply s_nat
  | with_reducible apply s_int
  | with_reducible apply s_ins
  | with_reducible apply s_d
  | with_reducible apply s_own
  | with_reducible apply s_oneN
  | ((with_reducible apply s_rngN); k_ownIn)
  | ((with_reducible apply s_rngI); k_ownIn)
  | with_reducible apply s_one
  | with_reducible apply s_insK
  | with_reducible apply s_three
  | (with_reducible apply s_mk; k_allIn)
  | (with_reducible apply s_io; k_allIn)
  | with_reducible apply s_zipL
  | with_reducible apply s_zipT
  | ((with_reducible apply s_isNo); exact rfl)
  | ((with_reducible apply s_blt); exact rfl; k_allIn)
  | ((with_reducible apply s_blt3); exact rfl; k_allIn)
  | ((with_reducible apply s_plain); exact rfl; (try simp only [wipeD, restD, List.set_cons_succ, List.set_cons_zero, List.getElem?_cons_zero, List.getElem?_cons_succ, Option.getD_some]))
  | ((with_reducible apply s_con); kernel_rfl)
  | ((with_reducible apply s_dats); exact rfl; exact rfl)
  | ((with_reducible apply s_moLN); exact rfl; k_ownIn; k_allIn)
  | ((with_reducible apply s_moL); exact rfl; k_ownIn; k_allIn)
  | ((with_reducible apply s_moDl); exact rfl; k_ownIn; k_allIn)
  | ((with_reducible apply s_moD); exact rfl)
  | ((with_reducible apply s_moO); exact rfl; exact rfl; k_allIn)
  | ((with_reducible apply s_lst); exact rfl)
  | ((with_reducible apply s_lt); k_ownIn; k_allIn)
  | ((with_reducible apply s_le); k_ownIn))
local macro_rules | `(tactic| k_places) => `(tactic| repeat k_memK)
local macro_rules | `(tactic| k_clsL) => `(tactic| repeat first | with_reducible refine w_andP ?_ | with_reducible refine w_orP ?_ | k_memK)
theorem e_ixS {ns : List Int} {k : Nat} (h : k < ns.length) : gIx (.scr ns) (.d (nI k)) = some (.d (.int (ns.getD k 0))) := by
  refine g_ix rfl ?_
  rw [List.getElem?_map, List.getElem?_eq_getElem h, List.getD_eq_getElem?_getD, List.getElem?_eq_getElem h]; rfl
theorem e_abs (i : Int) : gAbs [.d (.int i)] = some (.d (nI i.natAbs)) := by
  show some (SD.d (.int (if i < 0 then -i else i))) = _
  have : (if i < 0 then -i else i) = ((i.natAbs : Nat) : Int) := by split <;> omega
  rw [this]
theorem sum_cut (ns : List Int) (lo hi : Option Int) : ∃ s, gSum [.d (.lst (DP.cutD (ns.map Dat.int) lo hi))] = some (.d (.int s)) := by
  have : ∃ ms : List Int, DP.cutD (ns.map Dat.int) lo hi = ms.map Dat.int := by
    unfold DP.cutD
    rw [← List.map_drop, ← List.map_take]
    exact ⟨_, rfl⟩
  obtain ⟨ms, e⟩ := this
  rw [e]
  refine ⟨ms.sum, ?_⟩
  show (intsD (ms.map Dat.int)).map _ = _
  rw [map_ints]; rfl
theorem e_max2I (a b : Int) : gMax2 [.d (.int a), .d (.int b)] = some (.d (.int (if b > a then b else a))) := rfl
theorem e_pow18 : gPow (.d (nI 10)) (.d (nI 18)) = some (.d (nI 1000000000000000000)) := by kernel_rfl
theorem w_pot {ns : List Int} {k : Nat} (hk : k < 1000) {Q : SD → List SD → Prop} (h : ∀ p0 p1, PotOk p0 p1 → Q (.own (.lst [.int p0, .int p1])) [.scr ns, .d (nI k)]) : Wp (Φ__law_pot [.scr ns, .d (nI k)]) Q := by
  unfold Φ__law_pot F__law_pot
  refine w_runF rfl ?_
  simp only [List.replicate, List.cons_append, List.nil_append, Nat.reduceSub]
  k_places
  refine ⟨fun hl => ?_, fun hl => ?_⟩
  · k_places
    refine wo_of (e_ixS hl) ?_
    k_places
    refine wo_of (e_abs _) ?_
    generalize (ns.getD k 0).natAbs = c
    k_places
    refine wo_of e_pow18 ?_
    k_places
    refine wo_of (e_max2I _ _) ?_
    k_places
    exact h _ _ ⟨by split <;> omega, by omega, by omega⟩
  · k_places
    obtain ⟨s, e⟩ := sum_cut ns none (some ((1 : Nat) : Int))
    refine wo_of (show gSl (.scr ns) none (some ((1 : Nat) : Int)) = some (.own (.lst (DP.cutD (ns.map Dat.int) none (some ((1 : Nat) : Int))))) from rfl) ?_
    k_places
    refine wo_of e ?_
    k_places
    obtain ⟨c, hc⟩ := nat_of (show 0 ≤ ((1319 * k + 641 : Nat) : Int) + s % ((1000003 : Nat) : Int) by omega)
    rw [hc]
    rw [show ((c : Int) % ((2147483549 : Nat) : Int)) = ((c % 2147483549 : Nat) : Int) from rfl]
    k_places
    refine wo_of e_pow18 ?_
    k_places
    refine wo_of (e_max2I _ _) ?_
    k_places
    exact h _ _ ⟨by split <;> omega, by omega, by omega⟩
theorem w_varX {s : SD} {t : List Nat} (hs : s = .own (.lst (t.map nI)) ∨ s = .d (lstN t)) {i : Nat} {ρ : List SD} {Q : SD → List SD → Prop} (e : ρ[i]? = some s) (k : Q (.d (lstN t)) (ρ.set i (.d (lstN t)))) : Wp (dVar i ρ) Q := by
  rcases hs with rfl | rfl
  · exact w_varL e k
  · refine w_varD e ?_
    have : ρ.set i (.d (lstN t)) = ρ := by
      apply List.ext_getElem?
      intro j
      rw [List.getElem?_set]
      by_cases h : i = j
      · subst h
        rw [if_pos rfl, e]
        split
        · rfl
        · rename_i h2
          rw [List.getElem?_eq_none_iff.mpr (by omega)] at e; cases e
      · rw [if_neg h]
    rw [this] at k
    exact k
theorem br_join {p : Prop} {x y : DE} {ρ : List SD} {K P : SD → List SD → Prop} (h1 : p → Wp (x ρ) P) (h2 : ¬ p → Wp (y ρ) P) (h : ∀ s ρ', P s ρ' → K s ρ') : (p → Wp (x ρ) K) ∧ (¬ p → Wp (y ρ) K) := ⟨fun z => (h1 z).mono h, fun z => (h2 z).mono h⟩
def sel (a b c d : List Nat) : Nat → List Nat
  | 0 => a
  | 1 => b
  | 2 => c
  | _ => d
theorem four {w : Nat} (h : w < 4) : w = 0 ∨ w = 1 ∨ w = 2 ∨ w = 3 := by omega
theorem sel_ix (a b c d : List Nat) {w : Nat} (h : w < 4) : gIx (.own (.lst [lstN a, lstN b, lstN c, lstN d])) (.d (nI w)) = some (.d (lstN (sel a b c d w))) := by
  rcases four h with rfl | rfl | rfl | rfl <;> rfl
theorem selw_ix (a b c d : List Nat) (a1 a2 b1 b2 c1 c2 d1 d2 : Dat) {w : Nat} (h : w < 4) : ∃ p q, gIx (.own (.lst [webD a a1 a2, webD b b1 b2, webD c c1 c2, webD d d1 d2])) (.d (nI w)) = some (.d (webD (sel a b c d w) p q)) := by
  rcases four h with rfl | rfl | rfl | rfl
  · exact ⟨a1, a2, rfl⟩
  · exact ⟨b1, b2, rfl⟩
  · exact ⟨c1, c2, rfl⟩
  · exact ⟨d1, d2, rfl⟩
theorem sel_sel (a b c d : List Nat) (w : Nat) : sel a b c (sel a b c d w) w = sel a b c d w := by
  rcases w with _ | _ | _ | w <;> rfl
theorem sel_wd {a b c d : List Nat} {n m : Nat} (ha : Wd n a) (hb : Wd n b) (hc : Wd n c) (hd : Wd m d) (hn : n ≤ 14) (hm : m ≤ 14) (w : Nat) : ∃ k, k ≤ 14 ∧ Wd k (sel a b c d w) := by
  rcases w with _ | _ | _ | w
  · exact ⟨n, hn, ha⟩
  · exact ⟨n, hn, hb⟩
  · exact ⟨n, hn, hc⟩
  · exact ⟨m, hm, hd⟩
theorem law_ok (ns : List Int) : Φ_law [.scr ns] = some (.d (.bl true), [.scr ns]) := by
  refine wp_eq ?_
  unfold Φ_law F_law
  refine w_runF rfl ?_
  simp only [List.replicate, List.cons_append, List.nil_append, Nat.reduceSub]
  k_memK
  k_memK
  k_places
  refine w_pot (by omega) fun p0 p1 hp => ?_
  k_memK
  k_memK
  refine Wp.mono (Q := fun s ρ => ∃ n t q0 q1, (s = .own (.lst (t.map nI)) ∨ s = .d (lstN t)) ∧ ρ = [.scr ns, .own (.lst [.int q0, .int q1]), .no, .no, .no, .no, .no, .no, .no, .no, .no, .no, .no, .no] ∧ n ≤ 14 ∧ Wd n t ∧ PotOk q0 q1) ?_ ?_
  · k_places
    refine w_draw hp (by omega) (by omega) fun w a0 a1 hw ha => ?_
    k_places
    refine ⟨fun h => ?_, fun h => ?_⟩
    · k_places
      refine w_round ha fun s n t q0 q1 hs hn W hq => ?_
      k_places
      exact ⟨n, t, q0, q1, hs, rfl, hn, W, hq⟩
    · k_places
      refine w_draw ha (by omega) (by omega) fun m b0 b1 hm hb => ?_
      k_places
      refine w_draw hb (by omega) (by omega) fun kd c0 c1 hkd hc => ?_
      k_places
      refine w_any hc (by omega) hkd fun n t q0 q1 hn W hq => ?_
      k_places
      exact ⟨n, t, q0, q1, .inl rfl, rfl, hn, W, hq⟩
  rintro s ρ ⟨n, t, q0, q1, hs, rfl, hn, W, hq⟩
  have hl := W.len
  have hio : isIo s = false := by rcases hs with rfl | rfl <;> rfl
  refine g_name rfl hio ?_
  k_allIn
  k_memK
  k_memK
  k_memK
  k_memK
  refine w_varX hs rfl ?_
  k_allIn
  k_places
  refine w_web W hn fun p q => ?_
  k_places
  refine w_lname W hn ?_
  k_places
  refine w_loop (fun i ρ => ∃ q0 q1 s6 s7, ρ = [.scr ns, .own (.lst [.int q0, .int q1]), .d (lstN t), .d (webD t p q), .d (nI t.length), .d (tupN (nameL n t)), s6, s7, .no, .no, .no, .no, .no, .no] ∧ PotOk q0 q1) ⟨_, _, _, _, rfl, hq⟩ ?_ ?_
  · rintro i v ρ hv ⟨a0, a1, s6, s7, rfl, ha⟩
    obtain ⟨hi, rfl⟩ := range_it hv
    k_places
    refine w_draw ha (by omega) (by omega) fun d b0 b1 hd hb => ?_
    k_places
    refine ⟨fun h => ?_, fun h => ?_⟩
    · k_places
      refine w_turnFrom W hn (by omega) p q ?_
      k_places
      refine w_lread W hn (by omega) ?_
      k_places
      have hlen : (told (tf t) (ord n (tf t) d)).length < 1000 := by rw [told_len, (ord_full (W.web.resolve_left (by omega)) (by omega)).2.1]; omega
      refine same_tup hlen ?_
      k_places
      exact ⟨_, _, _, _, rfl, hb⟩
    · k_places
      refine w_turnFrom W hn (by omega) p q ?_
      k_places
      refine w_lread W hn (by omega) ?_
      k_places
      have hlen : (told (tf t) (ord n (tf t) d)).length < 1000 := by rw [told_len, (ord_full (W.web.resolve_left (by omega)) (by omega)).2.1]; omega
      refine same_tup hlen ?_
      k_places
      exact ⟨_, _, _, _, rfl, hb⟩
  rintro ρ ⟨a0, a1, s6, s7, rfl, ha⟩
  show Wp _ _
  have hnl : (nameL n t).length < 1000 := by rw [nameL_len W]; omega
  k_places
  refine w_name W hn ?_
  k_places
  refine same_tup hnl ?_
  k_places
  refine w_called ha W hn fun u pp b0 b1 U C hb => ?_
  k_places
  refine w_web U hn fun p1 q1 => ?_
  k_places
  refine w_name U hn ?_
  rw [name_cal W C]
  k_places
  refine same_tup hnl ?_
  k_clsL
  obtain ⟨N, eN⟩ := name_wd W
  refine w_init N hn fun p2 q2 => ?_
  k_clsL
  refine w_name N hn ?_
  rw [eN]
  k_clsL
  refine same_tup hnl ?_
  k_clsL
  refine w_name W hn ?_
  k_clsL
  refine same_tup hnl ?_
  k_clsL
  rw [Bool.not_true, Bool.and_false, Bool.or_false]
  k_places
  have B := back_wd W
  have A := about_wd W
  have AB := about_wd B
  have BA := back_wd A
  have bl : ∀ {n : Nat} {t : List Nat}, Wd n t → n ≤ 14 → t.length < 1000 := fun W h => by have := W.len; omega
  refine w_lback W hn ?_
  k_places
  refine w_labout hl hn ?_
  k_places
  refine w_behind W hn p q fun p3 q3 => ?_
  k_places
  refine w_turn ?_
  k_places
  refine w_wabout W hn p q fun p4 q4 => ?_
  k_places
  refine w_turn ?_
  k_places
  refine same_two (bl B hn) (bl A hn) ?_
  k_places
  refine w_behind W hn p q fun p5 q5 => ?_
  k_places
  refine w_wabout B hn p5 q5 fun p6 q6 => ?_
  k_places
  refine w_turn ?_
  k_places
  refine w_wabout W hn p q fun p7 q7 => ?_
  k_places
  refine w_behind A hn p7 q7 fun p8 q8 => ?_
  k_places
  refine w_turn ?_
  k_places
  refine w_labout B.len hn ?_
  k_places
  refine w_lback A hn ?_
  k_places
  refine same_two (bl AB hn) (bl BA hn) ?_
  k_places
  refine w_pot (by omega) fun e0 e1 he => ?_
  k_places
  refine w_draw he (by omega) (by omega) fun way g0 g1 hway hg => ?_
  k_places
  refine w_labout B.len hn ?_
  k_places
  refine br_join (P := fun s ρ => ∃ m u h0 h1, m ≤ 14 ∧ Wd m u ∧ (s = .own (.lst (u.map nI)) ∨ s = .d (lstN u)) ∧ ρ = [.scr ns, .own (.lst [.int h0, .int h1]), .d (lstN t), .d (webD t p q), .d (nI t.length), .d (tupN (nameL n t)), s6, s7, .d (lstN (backL t)), .d (lstN (aboutL t)), .d (nI way), .no, .no, .no] ∧ PotOk h0 h1) (fun h => ?_) (fun h => ?_) ?_
  · k_places
    refine w_draw hg (by omega) (by omega) fun kk h0 h1 hkk hh => ?_
    k_places
    refine Wp.mono (v_laid W hn (by omega) (by omega)) ?_
    rintro r as' ⟨rfl, rfl⟩
    exact ⟨n + 1, _, h0, h1, by omega, W.laid (by omega), .inl rfl, rfl, hh⟩
  · k_places
    exact ⟨n, t, g0, g1, hn, W, .inr rfl, rfl, hg⟩
  rintro s2 ρ ⟨m, u2, h0, h1, hm, U2, hs2, rfl, hh⟩
  have hz : fz s2 = some (.d (lstN u2)) := by rcases hs2 with rfl | rfl <;> rfl
  refine wo_of hz ?_
  k_places
  refine wo_of (sel_ix _ _ _ _ hway) ?_
  obtain ⟨m3, hm3, U3⟩ := sel_wd B A AB U2 hn hm way
  generalize hsel : sel (backL t) (aboutL t) (aboutL (backL t)) u2 way = u3 at *
  k_places
  refine w_lname U3 hm3 ?_
  k_places
  refine w_behind W hn p q fun p9 q9 => ?_
  k_places
  refine w_wabout W hn p q fun p10 q10 => ?_
  k_places
  refine w_behind W hn p q fun p11 q11 => ?_
  k_places
  refine w_wabout B hn p11 q11 fun p12 q12 => ?_
  k_places
  refine w_web U3 hm3 fun p13 q13 => ?_
  k_places
  obtain ⟨p14, q14, e14⟩ := selw_ix (backL t) (aboutL t) (aboutL (backL t)) u3 p9 q9 p10 q10 p12 q12 p13 q13 hway
  have e15 : sel (backL t) (aboutL t) (aboutL (backL t)) u3 way = u3 := by rw [← hsel]; exact sel_sel _ _ _ _ _
  rw [e15] at e14
  refine wo_of e14 ?_
  k_places
  refine w_name U3 hm3 ?_
  k_places
  have hnl3 : (nameL m3 u3).length < 1000 := by rw [nameL_len U3]; omega
  refine same_tup hnl3 ?_
  k_places
  refine w_turn ?_
  k_places
  refine same_tup (bl W hn) ?_
  k_clsL
  refine w_alike W U3 hn hm3 p q p14 q14 ?_
  k_clsL
  rw [show decide (nameL n t = nameL m3 u3) = decide (nameL m3 u3 = nameL n t) from decide_eq_decide.mpr ⟨Eq.symm, Eq.symm⟩]
  refine same_bl _ ?_
  k_clsL
  rw [Bool.not_true, Bool.and_false]
  k_places
  refine w_alike U3 W hm3 hn p14 q14 p q ?_
  k_places
  refine same_bl _ ?_
  k_places
  exact ⟨rfl, rfl⟩
end K12

set_option Elab.async false
set_option linter.all false
set_option maxRecDepth 100000
set_option maxHeartbeats 4000000
namespace K12
open PySem PySem.Spec PyProof.Rows L2 DP
open K62 (Φ_is_integer F_is_integer Φ_is_count F_is_count Φ_is_permutation F_is_permutation Φ_read_from F_read_from Φ_is_one_piece F_is_one_piece Φ_cycles_of F_cycles_of Φ_about_of F_about_of Φ_is_web_turn F_is_web_turn Φ_Web_init F_Web_init Φ_check_web F_check_web Φ_Web_many F_Web_many Φ_Web_turn F_Web_turn Φ_about F_about)
/-- a list of ints is handed in, True comes out -/
def spLaw (K : PySem.W.Frag) : Sp := fun vs H Q _ => ∃ (a : Addr) (ns : List Int), vs = [.ref a] ∧ SqL K H a (ns.map V.int) ∧ ns.length ≤ 63 ∧ ∀ v H', v = .bl true → Q v H'
theorem vals_app : ∀ {a c : List V} {b d : List Value}, Vals a b → Vals c d → Vals (a ++ c) (b ++ d)
  | _, _, _, _, .nil, k => k
  | _, _, _, _, .cons h r, k => .cons h (vals_app r k)
theorem vals_rev : ∀ {a : List V} {b : List Value}, Vals a b → Vals a.reverse b.reverse
  | _, _, .nil => .nil
  | _, _, .cons h r => by
    rw [List.reverse_cons, List.reverse_cons]
    exact vals_app (vals_rev r) (.cons h .nil)
theorem kit_no {K : PySem.W.Frag} {C : Addr} {a : String} (h1 : PySem.W.isClsIn K C = true) (h2 : PySem.W.typeIn K (.ref C) = some (.type "type")) (h3 : PySem.W.subIn K (.type a) (.ref C) = some false) : PySem.W.kitOne K (.type a) (.ref C) = some false := by
  unfold PySem.W.kitOne
  rw [if_neg (fun h => by have := beq_iff_eq.mp h; cases this)]
  have h1 : (PySem.W.clsIn K C).isSome = true := h1
  show (if ((PySem.W.clsIn K C).isSome && PySem.W.typeIn K (.ref C) == some (.type "type")) = true then PySem.W.subIn K (.type a) (.ref C) else none) = _
  rw [if_pos (by rw [h1, h2]; simp), h3]
theorem all_mk {l : PySem.W.OpenLaw} {w : World} {K : PySem.W.Frag} {h : Heap} {mg : Str → Option Value} {fa C0 f1 f2 f3 f4 f5 f6 f7 f8 f9 f10 f11 f12 f13 f14 f15 f16 f17 f18 f19 f20 f21 f22 f23 f24 p24 f25 f26 f27 f28 f29 f30 f31 f32 f33 f34 f35 : Addr} (X : K.In h) (GG : h.Ns mainGlobals mg) (hfa : mg "law" = some (.ref fa))
    {od1 an1 od2 an2 od3 an3 od4 an4 od5 an5 od6 an6 od7 an7 od8 an8 od9 an9 od10 an10 od11 an11 od12 an12 od13 an13 od14 an14 od15 an15 od16 an16 od17 an17 od18 an18 od19 an19 od20 an20 od21 an21 od22 an22 od23 an23 od24 an24 od25 an25 od26 an26 od27 an27 od28 an28 od29 an29 od30 an30 od31 an31 od32 an32 od33 an33 od34 an34 od35 an35 : Option Addr} {sl1 sl2 sl3 sl4 sl5 sl6 sl7 sl8 sl9 sl10 sl11 sl12 sl13 sl14 sl15 sl16 sl17 sl18 sl19 sl20 sl21 sl22 sl23 sl24 sl25 sl26 sl27 sl28 sl29 sl30 sl31 sl32 sl33 sl34 sl35 : Array (Option Value)} {oc1 kV1 dc1 pm1 cd1 ct1 oc2 kV2 dc2 pm2 cd2 ct2 oc3 kV3 dc3 pm3 cd3 ct3 oc4 kV4 dc4 pm4 cd4 ct4 oc5 kV5 dc5 pm5 cd5 ct5 oc6 kV6 dc6 pm6 cd6 ct6 oc7 kV7 dc7 pm7 cd7 ct7 oc8 kV8 dc8 pm8 cd8 ct8 oc9 kV9 dc9 pm9 cd9 ct9 oc10 kV10 dc10 pm10 cd10 ct10 oc11 kV11 dc11 pm11 cd11 ct11 oc12 kV12 dc12 pm12 cd12 ct12 oc13 kV13 dc13 pm13 cd13 ct13 oc14 kV14 dc14 pm14 cd14 ct14 oc15 kV15 dc15 pm15 cd15 ct15 oc16 kV16 dc16 pm16 cd16 ct16 oc17 kV17 dc17 pm17 cd17 ct17 oc18 kV18 dc18 pm18 cd18 ct18 oc19 kV19 dc19 pm19 cd19 ct19 oc20 kV20 dc20 pm20 cd20 ct20 oc21 kV21 dc21 pm21 cd21 ct21 oc22 kV22 dc22 pm22 cd22 ct22 oc23 kV23 dc23 pm23 cd23 ct23 oc24 kV24 dc24 pm24 cd24 ct24 oc25 kV25 dc25 pm25 cd25 ct25 oc26 kV26 dc26 pm26 cd26 ct26 oc27 kV27 dc27 pm27 cd27 ct27 oc28 kV28 dc28 pm28 cd28 ct28 oc29 kV29 dc29 pm29 cd29 ct29 oc30 kV30 dc30 pm30 cd30 ct30 oc31 kV31 dc31 pm31 cd31 ct31 oc32 kV32 dc32 pm32 cd32 ct32 oc33 kV33 dc33 pm33 cd33 ct33 oc34 kV34 dc34 pm34 cd34 ct34 oc35 kV35 dc35 pm35 cd35 ct35 : Value}
    (aC0 : PySem.W.nsIn K mainGlobals "Web" = some (some (.ref C0)))
    (pg0 : PySem.W.plainGet K C0 Str.empty = true)
    (hd0 : PySem.W.hasDictIn K C0 = true)
    (po0 : PySem.W.plainOver K C0 = true)
    (sa0 : PySem.W.findIn K (.ref C0) "__setattr__" = some (some (.builtin "object.__setattr__")))
    (mk0 : PySem.W.makesIn K C0 = true)
    (kc0 : PySem.W.keepIn K (.ref C0) = true)
    (na0_0 : PySem.W.findIn K (.ref C0) "_turn" = some none)
    (na0_1 : PySem.W.findIn K (.ref C0) "_places" = some none)
    (na0_2 : PySem.W.findIn K (.ref C0) "_faces" = some none)
    (ia0 : PySem.W.findIn K (.ref C0) "__class__" = some (some (.builtin "object.__class__")))
    (ib0 : PySem.W.specialIn K (.builtin "object.__class__") "__get__" = some (some (.builtin "getset_descriptor.__get__")))
    (ic0 : PySem.W.takesIn K (.builtin "object.__class__") = some true)
    (id0 : PySem.W.mroIn K C0 (.type "object") = some true)
    (ik0 : PySem.W.isClsIn K C0 = true)
    (it0 : PySem.W.typeIn K (.ref C0) = some (.type "type"))
    (ie0_0 : PySem.W.subIn K (.type "NoneType") (.ref C0) = some false)
    (ie0_1 : PySem.W.subIn K (.type "bool") (.ref C0) = some false)
    (ie0_2 : PySem.W.subIn K (.type "int") (.ref C0) = some false)
    (ie0_3 : PySem.W.subIn K (.type "str") (.ref C0) = some false)
    (ie0_4 : PySem.W.subIn K (.type "tuple") (.ref C0) = some false)
    (ie0_5 : PySem.W.subIn K (.type "list") (.ref C0) = some false)
    (a1 : PySem.W.nsIn K mainGlobals "_law_pot" = some (some (.ref f1)))
    (l1 : K.lookup f1 = some ⟨oc1, od1, .func (PySem.W.fnOf "_law_pot" "_law_pot" (defArgs st__law_pot) (defBody st__law_pot) (defScope st__law_pot) .none kV1 dc1 pm1 an1 cd1 ct1), sl1⟩)
    (c1 : PySem.W.codeIn K cd1 "_law_pot" = true)
    (k1 : PySem.W.keepIn K (.ref f1) = true)
    (a2 : PySem.W.nsIn K mainGlobals "_law_draw" = some (some (.ref f2)))
    (l2 : K.lookup f2 = some ⟨oc2, od2, .func (PySem.W.fnOf "_law_draw" "_law_draw" (defArgs st__law_draw) (defBody st__law_draw) (defScope st__law_draw) .none kV2 dc2 pm2 an2 cd2 ct2), sl2⟩)
    (c2 : PySem.W.codeIn K cd2 "_law_draw" = true)
    (k2 : PySem.W.keepIn K (.ref f2) = true)
    (a3 : PySem.W.nsIn K mainGlobals "_law_turn" = some (some (.ref f3)))
    (l3 : K.lookup f3 = some ⟨oc3, od3, .func (PySem.W.fnOf "_law_turn" "_law_turn" (defArgs st__law_turn) (defBody st__law_turn) (defScope st__law_turn) .none kV3 dc3 pm3 an3 cd3 ct3), sl3⟩)
    (c3 : PySem.W.codeIn K cd3 "_law_turn" = true)
    (k3 : PySem.W.keepIn K (.ref f3) = true)
    (a4 : PySem.W.nsIn K mainGlobals "_law_about" = some (some (.ref f4)))
    (l4 : K.lookup f4 = some ⟨oc4, od4, .func (PySem.W.fnOf "_law_about" "_law_about" (defArgs st__law_about) (defBody st__law_about) (defScope st__law_about) .none kV4 dc4 pm4 an4 cd4 ct4), sl4⟩)
    (c4 : PySem.W.codeIn K cd4 "_law_about" = true)
    (k4 : PySem.W.keepIn K (.ref f4) = true)
    (a5 : PySem.W.nsIn K mainGlobals "_law_round" = some (some (.ref f5)))
    (l5 : K.lookup f5 = some ⟨oc5, od5, .func (PySem.W.fnOf "_law_round" "_law_round" (defArgs st__law_round) (defBody st__law_round) (defScope st__law_round) .none kV5 dc5 pm5 an5 cd5 ct5), sl5⟩)
    (c5 : PySem.W.codeIn K cd5 "_law_round" = true)
    (k5 : PySem.W.keepIn K (.ref f5) = true)
    (a6 : PySem.W.nsIn K mainGlobals "_law_hung" = some (some (.ref f6)))
    (l6 : K.lookup f6 = some ⟨oc6, od6, .func (PySem.W.fnOf "_law_hung" "_law_hung" (defArgs st__law_hung) (defBody st__law_hung) (defScope st__law_hung) .none kV6 dc6 pm6 an6 cd6 ct6), sl6⟩)
    (c6 : PySem.W.codeIn K cd6 "_law_hung" = true)
    (k6 : PySem.W.keepIn K (.ref f6) = true)
    (a7 : PySem.W.nsIn K mainGlobals "_law_stretched" = some (some (.ref f7)))
    (l7 : K.lookup f7 = some ⟨oc7, od7, .func (PySem.W.fnOf "_law_stretched" "_law_stretched" (defArgs st__law_stretched) (defBody st__law_stretched) (defScope st__law_stretched) .none kV7 dc7 pm7 an7 cd7 ct7), sl7⟩)
    (c7 : PySem.W.codeIn K cd7 "_law_stretched" = true)
    (k7 : PySem.W.keepIn K (.ref f7) = true)
    (a8 : PySem.W.nsIn K mainGlobals "_law_laid" = some (some (.ref f8)))
    (l8 : K.lookup f8 = some ⟨oc8, od8, .func (PySem.W.fnOf "_law_laid" "_law_laid" (defArgs st__law_laid) (defBody st__law_laid) (defScope st__law_laid) .none kV8 dc8 pm8 an8 cd8 ct8), sl8⟩)
    (c8 : PySem.W.codeIn K cd8 "_law_laid" = true)
    (k8 : PySem.W.keepIn K (.ref f8) = true)
    (a9 : PySem.W.nsIn K mainGlobals "_law_any" = some (some (.ref f9)))
    (l9 : K.lookup f9 = some ⟨oc9, od9, .func (PySem.W.fnOf "_law_any" "_law_any" (defArgs st__law_any) (defBody st__law_any) (defScope st__law_any) .none kV9 dc9 pm9 an9 cd9 ct9), sl9⟩)
    (c9 : PySem.W.codeIn K cd9 "_law_any" = true)
    (k9 : PySem.W.keepIn K (.ref f9) = true)
    (a10 : PySem.W.nsIn K mainGlobals "is_integer" = some (some (.ref f10)))
    (l10 : K.lookup f10 = some ⟨oc10, od10, .func (PySem.W.fnOf "is_integer" "is_integer" (defArgs st_is_integer) (defBody st_is_integer) (defScope st_is_integer) .none kV10 dc10 pm10 an10 cd10 ct10), sl10⟩)
    (c10 : PySem.W.codeIn K cd10 "is_integer" = true)
    (k10 : PySem.W.keepIn K (.ref f10) = true)
    (a11 : PySem.W.nsIn K mainGlobals "is_count" = some (some (.ref f11)))
    (l11 : K.lookup f11 = some ⟨oc11, od11, .func (PySem.W.fnOf "is_count" "is_count" (defArgs st_is_count) (defBody st_is_count) (defScope st_is_count) .none kV11 dc11 pm11 an11 cd11 ct11), sl11⟩)
    (c11 : PySem.W.codeIn K cd11 "is_count" = true)
    (k11 : PySem.W.keepIn K (.ref f11) = true)
    (a12 : PySem.W.nsIn K mainGlobals "is_permutation" = some (some (.ref f12)))
    (l12 : K.lookup f12 = some ⟨oc12, od12, .func (PySem.W.fnOf "is_permutation" "is_permutation" (defArgs st_is_permutation) (defBody st_is_permutation) (defScope st_is_permutation) .none kV12 dc12 pm12 an12 cd12 ct12), sl12⟩)
    (c12 : PySem.W.codeIn K cd12 "is_permutation" = true)
    (k12 : PySem.W.keepIn K (.ref f12) = true)
    (a13 : PySem.W.nsIn K mainGlobals "read_from" = some (some (.ref f13)))
    (l13 : K.lookup f13 = some ⟨oc13, od13, .func (PySem.W.fnOf "read_from" "read_from" (defArgs st_read_from) (defBody st_read_from) (defScope st_read_from) .none kV13 dc13 pm13 an13 cd13 ct13), sl13⟩)
    (c13 : PySem.W.codeIn K cd13 "read_from" = true)
    (k13 : PySem.W.keepIn K (.ref f13) = true)
    (a14 : PySem.W.nsIn K mainGlobals "is_one_piece" = some (some (.ref f14)))
    (l14 : K.lookup f14 = some ⟨oc14, od14, .func (PySem.W.fnOf "is_one_piece" "is_one_piece" (defArgs st_is_one_piece) (defBody st_is_one_piece) (defScope st_is_one_piece) .none kV14 dc14 pm14 an14 cd14 ct14), sl14⟩)
    (c14 : PySem.W.codeIn K cd14 "is_one_piece" = true)
    (k14 : PySem.W.keepIn K (.ref f14) = true)
    (a15 : PySem.W.nsIn K mainGlobals "cycles_of" = some (some (.ref f15)))
    (l15 : K.lookup f15 = some ⟨oc15, od15, .func (PySem.W.fnOf "cycles_of" "cycles_of" (defArgs st_cycles_of) (defBody st_cycles_of) (defScope st_cycles_of) .none kV15 dc15 pm15 an15 cd15 ct15), sl15⟩)
    (c15 : PySem.W.codeIn K cd15 "cycles_of" = true)
    (k15 : PySem.W.keepIn K (.ref f15) = true)
    (a16 : PySem.W.nsIn K mainGlobals "about_of" = some (some (.ref f16)))
    (l16 : K.lookup f16 = some ⟨oc16, od16, .func (PySem.W.fnOf "about_of" "about_of" (defArgs st_about_of) (defBody st_about_of) (defScope st_about_of) .none kV16 dc16 pm16 an16 cd16 ct16), sl16⟩)
    (c16 : PySem.W.codeIn K cd16 "about_of" = true)
    (k16 : PySem.W.keepIn K (.ref f16) = true)
    (a17 : PySem.W.nsIn K mainGlobals "is_web_turn" = some (some (.ref f17)))
    (l17 : K.lookup f17 = some ⟨oc17, od17, .func (PySem.W.fnOf "is_web_turn" "is_web_turn" (defArgs st_is_web_turn) (defBody st_is_web_turn) (defScope st_is_web_turn) .none kV17 dc17 pm17 an17 cd17 ct17), sl17⟩)
    (c17 : PySem.W.codeIn K cd17 "is_web_turn" = true)
    (k17 : PySem.W.keepIn K (.ref f17) = true)
    (a18 : PySem.W.findIn K (.ref C0) "__init__" = some (some (.ref f18)))
    (i18 : PySem.W.isFn K (.ref f18) = true)
    (l18 : K.lookup f18 = some ⟨oc18, od18, .func (PySem.W.fnOf "__init__" "Web.__init__" (defArgs st_Web_init) (defBody st_Web_init) (defScope st_Web_init) .none kV18 dc18 pm18 an18 cd18 ct18), sl18⟩)
    (c18 : PySem.W.codeIn K cd18 "Web.__init__" = true)
    (k18 : PySem.W.keepIn K (.ref f18) = true)
    (a19 : PySem.W.nsIn K mainGlobals "_law_two" = some (some (.ref f19)))
    (l19 : K.lookup f19 = some ⟨oc19, od19, .func (PySem.W.fnOf "_law_two" "_law_two" (defArgs st__law_two) (defBody st__law_two) (defScope st__law_two) .none kV19 dc19 pm19 an19 cd19 ct19), sl19⟩)
    (c19 : PySem.W.codeIn K cd19 "_law_two" = true)
    (k19 : PySem.W.keepIn K (.ref f19) = true)
    (a20 : PySem.W.nsIn K mainGlobals "_law_read" = some (some (.ref f20)))
    (l20 : K.lookup f20 = some ⟨oc20, od20, .func (PySem.W.fnOf "_law_read" "_law_read" (defArgs st__law_read) (defBody st__law_read) (defScope st__law_read) .none kV20 dc20 pm20 an20 cd20 ct20), sl20⟩)
    (c20 : PySem.W.codeIn K cd20 "_law_read" = true)
    (k20 : PySem.W.keepIn K (.ref f20) = true)
    (a21 : PySem.W.nsIn K mainGlobals "_law_name" = some (some (.ref f21)))
    (l21 : K.lookup f21 = some ⟨oc21, od21, .func (PySem.W.fnOf "_law_name" "_law_name" (defArgs st__law_name) (defBody st__law_name) (defScope st__law_name) .none kV21 dc21 pm21 an21 cd21 ct21), sl21⟩)
    (c21 : PySem.W.codeIn K cd21 "_law_name" = true)
    (k21 : PySem.W.keepIn K (.ref f21) = true)
    (a22 : PySem.W.nsIn K mainGlobals "_law_same" = some (some (.ref f22)))
    (l22 : K.lookup f22 = some ⟨oc22, od22, .func (PySem.W.fnOf "_law_same" "_law_same" (defArgs st__law_same) (defBody st__law_same) (defScope st__law_same) .none kV22 dc22 pm22 an22 cd22 ct22), sl22⟩)
    (c22 : PySem.W.codeIn K cd22 "_law_same" = true)
    (k22 : PySem.W.keepIn K (.ref f22) = true)
    (a23 : PySem.W.nsIn K mainGlobals "check_web" = some (some (.ref f23)))
    (l23 : K.lookup f23 = some ⟨oc23, od23, .func (PySem.W.fnOf "check_web" "check_web" (defArgs st_check_web) (defBody st_check_web) (defScope st_check_web) .none kV23 dc23 pm23 an23 cd23 ct23), sl23⟩)
    (c23 : PySem.W.codeIn K cd23 "check_web" = true)
    (k23 : PySem.W.keepIn K (.ref f23) = true)
    (a24 : PySem.W.findIn K (.ref C0) "many" = some (some (.ref p24)))
    (pa24 : PySem.W.specialIn K (.ref p24) "__get__" = some (some (.builtin "property.__get__")))
    (pb24 : PySem.W.takesIn K (.ref p24) = some true)
    (pc24 : ∃ rest, PySem.W.recIn K p24 "property" = some (.ref f24 :: rest))
    (l24 : K.lookup f24 = some ⟨oc24, od24, .func (PySem.W.fnOf "many" "Web.many" (defArgs st_Web_many) (defBody st_Web_many) (defScope st_Web_many) .none kV24 dc24 pm24 an24 cd24 ct24), sl24⟩)
    (c24 : PySem.W.codeIn K cd24 "Web.many" = true)
    (k24 : PySem.W.keepIn K (.ref f24) = true)
    (a25 : PySem.W.nsIn K mainGlobals "check_dart" = some (some (.ref f25)))
    (l25 : K.lookup f25 = some ⟨oc25, od25, .func (PySem.W.fnOf "check_dart" "check_dart" (defArgs st_check_dart) (defBody st_check_dart) (defScope st_check_dart) .none kV25 dc25 pm25 an25 cd25 ct25), sl25⟩)
    (c25 : PySem.W.codeIn K cd25 "check_dart" = true)
    (k25 : PySem.W.keepIn K (.ref f25) = true)
    (a26 : PySem.W.findIn K (.ref C0) "turn" = some (some (.ref f26)))
    (i26 : PySem.W.isFn K (.ref f26) = true)
    (l26 : K.lookup f26 = some ⟨oc26, od26, .func (PySem.W.fnOf "turn" "Web.turn" (defArgs st_Web_turn) (defBody st_Web_turn) (defScope st_Web_turn) .none kV26 dc26 pm26 an26 cd26 ct26), sl26⟩)
    (c26 : PySem.W.codeIn K cd26 "Web.turn" = true)
    (k26 : PySem.W.keepIn K (.ref f26) = true)
    (a27 : PySem.W.nsIn K mainGlobals "turn_from" = some (some (.ref f27)))
    (l27 : K.lookup f27 = some ⟨oc27, od27, .func (PySem.W.fnOf "turn_from" "turn_from" (defArgs st_turn_from) (defBody st_turn_from) (defScope st_turn_from) .none kV27 dc27 pm27 an27 cd27 ct27), sl27⟩)
    (c27 : PySem.W.codeIn K cd27 "turn_from" = true)
    (k27 : PySem.W.keepIn K (.ref f27) = true)
    (a28 : PySem.W.nsIn K mainGlobals "name" = some (some (.ref f28)))
    (l28 : K.lookup f28 = some ⟨oc28, od28, .func (PySem.W.fnOf "name" "name" (defArgs st_name) (defBody st_name) (defScope st_name) .none kV28 dc28 pm28 an28 cd28 ct28), sl28⟩)
    (c28 : PySem.W.codeIn K cd28 "name" = true)
    (k28 : PySem.W.keepIn K (.ref f28) = true)
    (a29 : PySem.W.nsIn K mainGlobals "_law_called" = some (some (.ref f29)))
    (l29 : K.lookup f29 = some ⟨oc29, od29, .func (PySem.W.fnOf "_law_called" "_law_called" (defArgs st__law_called) (defBody st__law_called) (defScope st__law_called) .none kV29 dc29 pm29 an29 cd29 ct29), sl29⟩)
    (c29 : PySem.W.codeIn K cd29 "_law_called" = true)
    (k29 : PySem.W.keepIn K (.ref f29) = true)
    (a30 : PySem.W.nsIn K mainGlobals "_law_back" = some (some (.ref f30)))
    (l30 : K.lookup f30 = some ⟨oc30, od30, .func (PySem.W.fnOf "_law_back" "_law_back" (defArgs st__law_back) (defBody st__law_back) (defScope st__law_back) .none kV30 dc30 pm30 an30 cd30 ct30), sl30⟩)
    (c30 : PySem.W.codeIn K cd30 "_law_back" = true)
    (k30 : PySem.W.keepIn K (.ref f30) = true)
    (a31 : PySem.W.nsIn K mainGlobals "back_of" = some (some (.ref f31)))
    (l31 : K.lookup f31 = some ⟨oc31, od31, .func (PySem.W.fnOf "back_of" "back_of" (defArgs st_back_of) (defBody st_back_of) (defScope st_back_of) .none kV31 dc31 pm31 an31 cd31 ct31), sl31⟩)
    (c31 : PySem.W.codeIn K cd31 "back_of" = true)
    (k31 : PySem.W.keepIn K (.ref f31) = true)
    (a32 : PySem.W.nsIn K mainGlobals "behind" = some (some (.ref f32)))
    (l32 : K.lookup f32 = some ⟨oc32, od32, .func (PySem.W.fnOf "behind" "behind" (defArgs st_behind) (defBody st_behind) (defScope st_behind) .none kV32 dc32 pm32 an32 cd32 ct32), sl32⟩)
    (c32 : PySem.W.codeIn K cd32 "behind" = true)
    (k32 : PySem.W.keepIn K (.ref f32) = true)
    (a33 : PySem.W.nsIn K mainGlobals "about" = some (some (.ref f33)))
    (l33 : K.lookup f33 = some ⟨oc33, od33, .func (PySem.W.fnOf "about" "about" (defArgs st_about) (defBody st_about) (defScope st_about) .none kV33 dc33 pm33 an33 cd33 ct33), sl33⟩)
    (c33 : PySem.W.codeIn K cd33 "about" = true)
    (k33 : PySem.W.keepIn K (.ref f33) = true)
    (a34 : PySem.W.nsIn K mainGlobals "are_alike" = some (some (.ref f34)))
    (l34 : K.lookup f34 = some ⟨oc34, od34, .func (PySem.W.fnOf "are_alike" "are_alike" (defArgs st_are_alike) (defBody st_are_alike) (defScope st_are_alike) .none kV34 dc34 pm34 an34 cd34 ct34), sl34⟩)
    (c34 : PySem.W.codeIn K cd34 "are_alike" = true)
    (k34 : PySem.W.keepIn K (.ref f34) = true)
    (a35 : PySem.W.nsIn K mainGlobals "law" = some (some (.ref f35)))
    (l35 : K.lookup f35 = some ⟨oc35, od35, .func (PySem.W.fnOf "law" "law" (defArgs st_law) (defBody st_law) (defScope st_law) .none kV35 dc35 pm35 an35 cd35 ct35), sl35⟩)
    (c35 : PySem.W.codeIn K cd35 "law" = true)
    (k35 : PySem.W.keepIn K (.ref f35) = true)
    (z_abs : PySem.W.nsIn K mainGlobals "abs" = some none)
    (z_len : PySem.W.nsIn K mainGlobals "len" = some none)
    (z_sum : PySem.W.nsIn K mainGlobals "sum" = some none)
    (z_int : PySem.W.nsIn K mainGlobals "int" = some none)
    (z_max : PySem.W.nsIn K mainGlobals "max" = some none)
    (z_divmod : PySem.W.nsIn K mainGlobals "divmod" = some none)
    (z_enumerate : PySem.W.nsIn K mainGlobals "enumerate" = some none)
    (z_range : PySem.W.nsIn K mainGlobals "range" = some none)
    (z_list : PySem.W.nsIn K mainGlobals "list" = some none)
    (z_min : PySem.W.nsIn K mainGlobals "min" = some none)
    (z_isinstance : PySem.W.nsIn K mainGlobals "isinstance" = some none)
    (z_bool : PySem.W.nsIn K mainGlobals "bool" = some none)
    (z_all : PySem.W.nsIn K mainGlobals "all" = some none)
    (z_sorted : PySem.W.nsIn K mainGlobals "sorted" = some none)
    (z_tuple : PySem.W.nsIn K mainGlobals "tuple" = some none)
    (z_set : PySem.W.nsIn K mainGlobals "set" = some none)
    (z_str : PySem.W.nsIn K mainGlobals "str" = some none)
    (z_zip : PySem.W.nsIn K mainGlobals "zip" = some none) :
    ∃ fd : FuncData, (∀ (s : Shared) (v : Value), BindsTo s fd ⟨[v], []⟩ [("script", v)]) ∧ ∀ base : Heap, K.In base → base.Ns mainGlobals mg → FnOk l.prog w K mg base CX0 8 fa fd ["script"] (spLaw K) := by
  have e := hfa.symm.trans (PySem.W.mg_of X GG a35)
  cases e
  let G : Gd := ⟨K, w, fun c =>  C0, fun _ => 0⟩
  have T : Tx G mg := {
    abs := PySem.W.mg_none_of X GG z_abs,
    len := PySem.W.mg_none_of X GG z_len,
    sum := PySem.W.mg_none_of X GG z_sum,
    int := PySem.W.mg_none_of X GG z_int,
    max := PySem.W.mg_none_of X GG z_max,
    divmod := PySem.W.mg_none_of X GG z_divmod,
    enumerate := PySem.W.mg_none_of X GG z_enumerate,
    range := PySem.W.mg_none_of X GG z_range,
    list := PySem.W.mg_none_of X GG z_list,
    min := PySem.W.mg_none_of X GG z_min,
    isinstance := PySem.W.mg_none_of X GG z_isinstance,
    bool := PySem.W.mg_none_of X GG z_bool,
    all := PySem.W.mg_none_of X GG z_all,
    sorted := PySem.W.mg_none_of X GG z_sorted,
    tuple := PySem.W.mg_none_of X GG z_tuple,
    set := PySem.W.mg_none_of X GG z_set,
    str := PySem.W.mg_none_of X GG z_str,
    zip := PySem.W.mg_none_of X GG z_zip,
    cWeb := ⟨⟨pg0, hd0, po0, sa0⟩, PySem.W.mg_of X GG aC0⟩,
    iWeb := ⟨⟨pg0, hd0, po0, sa0⟩, ia0, ib0, ic0, id0, fun a ha => by
      simp only [List.mem_cons, List.not_mem_nil, or_false] at ha
      rcases ha with h | h | h | h | h | h <;> subst h
      · exact kit_no ik0 it0 ie0_0
      · exact kit_no ik0 it0 ie0_1
      · exact kit_no ik0 it0 ie0_2
      · exact kit_no ik0 it0 ie0_3
      · exact kit_no ik0 it0 ie0_4
      · exact kit_no ik0 it0 ie0_5⟩,
    nWeb_turn := na0_0,
    nWeb_places := na0_1,
    nWeb_faces := na0_2 }
  have F1 := fun_mk (st := st__law_pot) l1 c1 k1
  have b1 := F1.binds (ps := ["script", "k"]) fun _ _ _ _ _ _ us hl => match us, hl with | [_, _], _ => rfl
  have F2 := fun_mk (st := st__law_draw) l2 c2 k2
  have b2 := F2.binds (ps := ["pot", "many"]) fun _ _ _ _ _ _ us hl => match us, hl with | [_, _], _ => rfl
  have F3 := fun_mk (st := st__law_turn) l3 c3 k3
  have b3 := F3.binds (ps := ["places"]) fun _ _ _ _ _ _ us hl => match us, hl with | [_], _ => rfl
  have F4 := fun_mk (st := st__law_about) l4 c4 k4
  have b4 := F4.binds (ps := ["turn"]) fun _ _ _ _ _ _ us hl => match us, hl with | [_], _ => rfl
  have F5 := fun_mk (st := st__law_round) l5 c5 k5
  have b5 := F5.binds (ps := ["pot"]) fun _ _ _ _ _ _ us hl => match us, hl with | [_], _ => rfl
  have F6 := fun_mk (st := st__law_hung) l6 c6 k6
  have b6 := F6.binds (ps := ["turn", "corner"]) fun _ _ _ _ _ _ us hl => match us, hl with | [_, _], _ => rfl
  have F7 := fun_mk (st := st__law_stretched) l7 c7 k7
  have b7 := F7.binds (ps := ["turn", "tie"]) fun _ _ _ _ _ _ us hl => match us, hl with | [_, _], _ => rfl
  have F8 := fun_mk (st := st__law_laid) l8 c8 k8
  have b8 := F8.binds (ps := ["turn", "corner", "steps"]) fun _ _ _ _ _ _ us hl => match us, hl with | [_, _, _], _ => rfl
  have F9 := fun_mk (st := st__law_any) l9 c9 k9
  have b9 := F9.binds (ps := ["pot", "many", "kind"]) fun _ _ _ _ _ _ us hl => match us, hl with | [_, _, _], _ => rfl
  have F10 := fun_mk (st := st_is_integer) l10 c10 k10
  have b10 := F10.binds (ps := ["value"]) fun _ _ _ _ _ _ us hl => match us, hl with | [_], _ => rfl
  have F11 := fun_mk (st := st_is_count) l11 c11 k11
  have b11 := F11.binds (ps := ["value"]) fun _ _ _ _ _ _ us hl => match us, hl with | [_], _ => rfl
  have F12 := fun_mk (st := st_is_permutation) l12 c12 k12
  have b12 := F12.binds (ps := ["value", "many"]) fun _ _ _ _ _ _ us hl => match us, hl with | [_, _], _ => rfl
  have F13 := fun_mk (st := st_read_from) l13 c13 k13
  have b13 := F13.binds (ps := ["turn", "dart"]) fun _ _ _ _ _ _ us hl => match us, hl with | [_, _], _ => rfl
  have F14 := fun_mk (st := st_is_one_piece) l14 c14 k14
  have b14 := F14.binds (ps := ["turn"]) fun _ _ _ _ _ _ us hl => match us, hl with | [_], _ => rfl
  have F15 := fun_mk (st := st_cycles_of) l15 c15 k15
  have b15 := F15.binds (ps := ["step"]) fun _ _ _ _ _ _ us hl => match us, hl with | [_], _ => rfl
  have F16 := fun_mk (st := st_about_of) l16 c16 k16
  have b16 := F16.binds (ps := ["turn"]) fun _ _ _ _ _ _ us hl => match us, hl with | [_], _ => rfl
  have F17 := fun_mk (st := st_is_web_turn) l17 c17 k17
  have b17 := F17.binds (ps := ["value"]) fun _ _ _ _ _ _ us hl => match us, hl with | [_], _ => rfl
  have F18 := fun_mk (st := st_Web_init) l18 c18 k18
  have b18 := F18.binds (ps := ["self", "turn"]) fun _ _ _ _ _ _ us hl => match us, hl with | [_, _], _ => rfl
  have F19 := fun_mk (st := st__law_two) l19 c19 k19
  have b19 := F19.binds (ps := ["turn"]) fun _ _ _ _ _ _ us hl => match us, hl with | [_], _ => rfl
  have F20 := fun_mk (st := st__law_read) l20 c20 k20
  have b20 := F20.binds (ps := ["turn", "dart"]) fun _ _ _ _ _ _ us hl => match us, hl with | [_, _], _ => rfl
  have F21 := fun_mk (st := st__law_name) l21 c21 k21
  have b21 := F21.binds (ps := ["turn"]) fun _ _ _ _ _ _ us hl => match us, hl with | [_], _ => rfl
  have F22 := fun_mk (st := st__law_same) l22 c22 k22
  have b22 := F22.binds (ps := ["told", "due"]) fun _ _ _ _ _ _ us hl => match us, hl with | [_, _], _ => rfl
  have F23 := fun_mk (st := st_check_web) l23 c23 k23
  have b23 := F23.binds (ps := ["web"]) fun _ _ _ _ _ _ us hl => match us, hl with | [_], _ => rfl
  have F24 := fun_mk (st := st_Web_many) l24 c24 k24
  have b24 := F24.binds (ps := ["self"]) fun _ _ _ _ _ _ us hl => match us, hl with | [_], _ => rfl
  have F25 := fun_mk (st := st_check_dart) l25 c25 k25
  have b25 := F25.binds (ps := ["web", "dart"]) fun _ _ _ _ _ _ us hl => match us, hl with | [_, _], _ => rfl
  have F26 := fun_mk (st := st_Web_turn) l26 c26 k26
  have b26 := F26.binds (ps := ["self"]) fun _ _ _ _ _ _ us hl => match us, hl with | [_], _ => rfl
  have F27 := fun_mk (st := st_turn_from) l27 c27 k27
  have b27 := F27.binds (ps := ["web", "dart"]) fun _ _ _ _ _ _ us hl => match us, hl with | [_, _], _ => rfl
  have F28 := fun_mk (st := st_name) l28 c28 k28
  have b28 := F28.binds (ps := ["web"]) fun _ _ _ _ _ _ us hl => match us, hl with | [_], _ => rfl
  have F29 := fun_mk (st := st__law_called) l29 c29 k29
  have b29 := F29.binds (ps := ["pot", "turn"]) fun _ _ _ _ _ _ us hl => match us, hl with | [_, _], _ => rfl
  have F30 := fun_mk (st := st__law_back) l30 c30 k30
  have b30 := F30.binds (ps := ["turn"]) fun _ _ _ _ _ _ us hl => match us, hl with | [_], _ => rfl
  have F31 := fun_mk (st := st_back_of) l31 c31 k31
  have b31 := F31.binds (ps := ["turn"]) fun _ _ _ _ _ _ us hl => match us, hl with | [_], _ => rfl
  have F32 := fun_mk (st := st_behind) l32 c32 k32
  have b32 := F32.binds (ps := ["web"]) fun _ _ _ _ _ _ us hl => match us, hl with | [_], _ => rfl
  have F33 := fun_mk (st := st_about) l33 c33 k33
  have b33 := F33.binds (ps := ["web"]) fun _ _ _ _ _ _ us hl => match us, hl with | [_], _ => rfl
  have F34 := fun_mk (st := st_are_alike) l34 c34 k34
  have b34 := F34.binds (ps := ["web", "other"]) fun _ _ _ _ _ _ us hl => match us, hl with | [_, _], _ => rfl
  have F35 := fun_mk (st := st_law) l35 c35 k35
  have b35 := F35.binds (ps := ["script"]) fun _ _ _ _ _ _ us hl => match us, hl with | [_], _ => rfl
  refine ⟨PySem.W.fnOf "law" "law" (defArgs st_law) (defBody st_law) (defScope st_law) .none kV35 dc35 pm35 an35 cd35 ct35, fun s v => .of_eq rfl, fun base _ _ => ?_⟩
  have o1 : FnOk l.prog G.w G.K mg base CX0 1 _ _ ["script", "k"] (spD G Φ__law_pot) := ok__law_pot T F1
  have w__law_pot : FnAt l.prog G.w G.K mg base G "_law_pot" 1 ["script", "k"] Φ__law_pot := ⟨⟨_, _, o1, PySem.W.mg_of X GG a1, k1, b1⟩⟩
  have o2 : FnOk l.prog G.w G.K mg base CX0 1 _ _ ["pot", "many"] (spD G Φ__law_draw) := ok__law_draw T F2
  have w__law_draw : FnAt l.prog G.w G.K mg base G "_law_draw" 1 ["pot", "many"] Φ__law_draw := ⟨⟨_, _, o2, PySem.W.mg_of X GG a2, k2, b2⟩⟩
  have o3 : FnOk l.prog G.w G.K mg base CX0 1 _ _ ["places"] (spD G Φ__law_turn) := ok__law_turn T F3
  have w__law_turn : FnAt l.prog G.w G.K mg base G "_law_turn" 1 ["places"] Φ__law_turn := ⟨⟨_, _, o3, PySem.W.mg_of X GG a3, k3, b3⟩⟩
  have o4 : FnOk l.prog G.w G.K mg base CX0 1 _ _ ["turn"] (spD G Φ__law_about) := ok__law_about T F4
  have w__law_about : FnAt l.prog G.w G.K mg base G "_law_about" 1 ["turn"] Φ__law_about := ⟨⟨_, _, o4, PySem.W.mg_of X GG a4, k4, b4⟩⟩
  have o5 : FnOk l.prog G.w G.K mg base CX0 2 _ _ ["pot"] (spD G Φ__law_round) := ok__law_round T F5 w__law_draw w__law_turn w__law_about
  have w__law_round : FnAt l.prog G.w G.K mg base G "_law_round" 2 ["pot"] Φ__law_round := ⟨⟨_, _, o5, PySem.W.mg_of X GG a5, k5, b5⟩⟩
  have o6 : FnOk l.prog G.w G.K mg base CX0 1 _ _ ["turn", "corner"] (spD G Φ__law_hung) := ok__law_hung T F6
  have w__law_hung : FnAt l.prog G.w G.K mg base G "_law_hung" 1 ["turn", "corner"] Φ__law_hung := ⟨⟨_, _, o6, PySem.W.mg_of X GG a6, k6, b6⟩⟩
  have o7 : FnOk l.prog G.w G.K mg base CX0 1 _ _ ["turn", "tie"] (spD G Φ__law_stretched) := ok__law_stretched T F7
  have w__law_stretched : FnAt l.prog G.w G.K mg base G "_law_stretched" 1 ["turn", "tie"] Φ__law_stretched := ⟨⟨_, _, o7, PySem.W.mg_of X GG a7, k7, b7⟩⟩
  have o8 : FnOk l.prog G.w G.K mg base CX0 1 _ _ ["turn", "corner", "steps"] (spD G Φ__law_laid) := ok__law_laid T F8
  have w__law_laid : FnAt l.prog G.w G.K mg base G "_law_laid" 1 ["turn", "corner", "steps"] Φ__law_laid := ⟨⟨_, _, o8, PySem.W.mg_of X GG a8, k8, b8⟩⟩
  have o9 : FnOk l.prog G.w G.K mg base CX0 2 _ _ ["pot", "many", "kind"] (spD G Φ__law_any) := ok__law_any T F9 w__law_draw w__law_hung w__law_stretched w__law_laid
  have w__law_any : FnAt l.prog G.w G.K mg base G "_law_any" 2 ["pot", "many", "kind"] Φ__law_any := ⟨⟨_, _, o9, PySem.W.mg_of X GG a9, k9, b9⟩⟩
  have o10 : FnOk l.prog G.w G.K mg base CX0 1 _ _ ["value"] (spD G Φ_is_integer) := ok_is_integer T F10
  have w_is_integer : FnAt l.prog G.w G.K mg base G "is_integer" 1 ["value"] Φ_is_integer := ⟨⟨_, _, o10, PySem.W.mg_of X GG a10, k10, b10⟩⟩
  have o11 : FnOk l.prog G.w G.K mg base CX0 2 _ _ ["value"] (spD G Φ_is_count) := ok_is_count T F11 w_is_integer
  have w_is_count : FnAt l.prog G.w G.K mg base G "is_count" 2 ["value"] Φ_is_count := ⟨⟨_, _, o11, PySem.W.mg_of X GG a11, k11, b11⟩⟩
  have o12 : FnOk l.prog G.w G.K mg base CX0 3 _ _ ["value", "many"] (spD G Φ_is_permutation) := ok_is_permutation T F12 w_is_count
  have w_is_permutation : FnAt l.prog G.w G.K mg base G "is_permutation" 3 ["value", "many"] Φ_is_permutation := ⟨⟨_, _, o12, PySem.W.mg_of X GG a12, k12, b12⟩⟩
  have o13 : FnOk l.prog G.w G.K mg base CX0 1 _ _ ["turn", "dart"] (spD G Φ_read_from) := ok_read_from T F13
  have w_read_from : FnAt l.prog G.w G.K mg base G "read_from" 1 ["turn", "dart"] Φ_read_from := ⟨⟨_, _, o13, PySem.W.mg_of X GG a13, k13, b13⟩⟩
  have o14 : FnOk l.prog G.w G.K mg base CX0 2 _ _ ["turn"] (spD G Φ_is_one_piece) := ok_is_one_piece T F14 w_read_from
  have w_is_one_piece : FnAt l.prog G.w G.K mg base G "is_one_piece" 2 ["turn"] Φ_is_one_piece := ⟨⟨_, _, o14, PySem.W.mg_of X GG a14, k14, b14⟩⟩
  have o15 : FnOk l.prog G.w G.K mg base CX0 1 _ _ ["step"] (spD G Φ_cycles_of) := ok_cycles_of T F15
  have w_cycles_of : FnAt l.prog G.w G.K mg base G "cycles_of" 1 ["step"] Φ_cycles_of := ⟨⟨_, _, o15, PySem.W.mg_of X GG a15, k15, b15⟩⟩
  have o16 : FnOk l.prog G.w G.K mg base CX0 1 _ _ ["turn"] (spD G Φ_about_of) := ok_about_of T F16
  have w_about_of : FnAt l.prog G.w G.K mg base G "about_of" 1 ["turn"] Φ_about_of := ⟨⟨_, _, o16, PySem.W.mg_of X GG a16, k16, b16⟩⟩
  have o17 : FnOk l.prog G.w G.K mg base CX0 4 _ _ ["value"] (spD G Φ_is_web_turn) := ok_is_web_turn T F17 w_is_permutation w_is_one_piece w_cycles_of w_about_of
  have w_is_web_turn : FnAt l.prog G.w G.K mg base G "is_web_turn" 4 ["value"] Φ_is_web_turn := ⟨⟨_, _, o17, PySem.W.mg_of X GG a17, k17, b17⟩⟩
  have o18 : FnOk l.prog G.w G.K mg base CX0 5 _ _ ["self", "turn"] (spD G Φ_Web_init) := ok_Web_init T F18 w_is_web_turn w_cycles_of w_about_of
  have w_Web_init : MkAt l.prog G.w G.K mg base G 0 5 ["self", "turn"] Φ_Web_init := ⟨⟨_, _, o18, ⟨mk0, a18, i18, kc0⟩, b18⟩⟩
  have o19 : FnOk l.prog G.w G.K mg base CX0 7 _ _ ["turn"] (spD G Φ__law_two) := ok__law_two T F19 w_Web_init
  have w__law_two : FnAt l.prog G.w G.K mg base G "_law_two" 7 ["turn"] Φ__law_two := ⟨⟨_, _, o19, PySem.W.mg_of X GG a19, k19, b19⟩⟩
  have o20 : FnOk l.prog G.w G.K mg base CX0 1 _ _ ["turn", "dart"] (spD G Φ__law_read) := ok__law_read T F20
  have w__law_read : FnAt l.prog G.w G.K mg base G "_law_read" 1 ["turn", "dart"] Φ__law_read := ⟨⟨_, _, o20, PySem.W.mg_of X GG a20, k20, b20⟩⟩
  have o21 : FnOk l.prog G.w G.K mg base CX0 2 _ _ ["turn"] (spD G Φ__law_name) := ok__law_name T F21 w__law_read
  have w__law_name : FnAt l.prog G.w G.K mg base G "_law_name" 2 ["turn"] Φ__law_name := ⟨⟨_, _, o21, PySem.W.mg_of X GG a21, k21, b21⟩⟩
  have o22 : FnOk l.prog G.w G.K mg base CX0 7 _ _ ["told", "due"] (spD G Φ__law_same) := ok__law_same T F22 (PySem.W.mg_of X GG a22) k22 b22 6
  have w__law_same : FnAt l.prog G.w G.K mg base G "_law_same" 7 ["told", "due"] Φ__law_same := ⟨⟨_, _, o22, PySem.W.mg_of X GG a22, k22, b22⟩⟩
  have o23 : FnOk l.prog G.w G.K mg base CX0 1 _ _ ["web"] (spD G Φ_check_web) := ok_check_web T F23
  have w_check_web : FnAt l.prog G.w G.K mg base G "check_web" 1 ["web"] Φ_check_web := ⟨⟨_, _, o23, PySem.W.mg_of X GG a23, k23, b23⟩⟩
  have o24 : FnOk l.prog G.w G.K mg base CX0 1 _ _ ["self"] (spD G Φ_Web_many) := ok_Web_many T F24
  have w_Web_many : PrAt l.prog G.w G.K mg base G 0 "many" 1 ["self"] Φ_Web_many := ⟨⟨_, _, _, o24, ⟨a24, pa24, pb24, pc24⟩, b24⟩⟩
  have o25 : FnOk l.prog G.w G.K mg base CX0 3 _ _ ["web", "dart"] (spD G Φ_check_dart) := ok_check_dart T F25 w_is_count w_Web_many
  have w_check_dart : FnAt l.prog G.w G.K mg base G "check_dart" 3 ["web", "dart"] Φ_check_dart := ⟨⟨_, _, o25, PySem.W.mg_of X GG a25, k25, b25⟩⟩
  have o26 : FnOk l.prog G.w G.K mg base CX0 1 _ _ ["self"] (spD G Φ_Web_turn) := ok_Web_turn T F26
  have w_Web_turn : MeAt l.prog G.w G.K mg base G 0 "turn" 1 ["self"] Φ_Web_turn := ⟨⟨_, _, o26, ⟨a26, i26, k26⟩, b26⟩⟩
  have o27 : FnOk l.prog G.w G.K mg base CX0 4 _ _ ["web", "dart"] (spD G Φ_turn_from) := ok_turn_from T F27 w_check_web w_check_dart w_read_from w_Web_turn
  have w_turn_from : FnAt l.prog G.w G.K mg base G "turn_from" 4 ["web", "dart"] Φ_turn_from := ⟨⟨_, _, o27, PySem.W.mg_of X GG a27, k27, b27⟩⟩
  have ki_turn_from : FnAtKi l.prog G.w G.K mg base G "turn_from" 4 ["web", "dart"] ["web", "dart"] Φ_turn_from := ⟨_, _, o27, PySem.W.mg_of X GG a27, k27, ⟨fun s us ws _ hl => match us, ws, hl with | [], [_, _], _ => .of_eq rfl, fun r q => kw0_rel r q⟩⟩
  have o28 : FnOk l.prog G.w G.K mg base CX0 2 _ _ ["web"] (spD G Φ_name) := ok_name T F28 w_check_web w_Web_turn w_read_from
  have w_name : FnAt l.prog G.w G.K mg base G "name" 2 ["web"] Φ_name := ⟨⟨_, _, o28, PySem.W.mg_of X GG a28, k28, b28⟩⟩
  have ki_name : FnAtKi l.prog G.w G.K mg base G "name" 2 ["web"] ["web"] Φ_name := ⟨_, _, o28, PySem.W.mg_of X GG a28, k28, ⟨fun s us ws _ hl => match us, ws, hl with | [], [_], _ => .of_eq rfl, fun r q => kw0_rel r q⟩⟩
  have o29 : FnOk l.prog G.w G.K mg base CX0 2 _ _ ["pot", "turn"] (spD G Φ__law_called) := ok__law_called T F29 w__law_draw
  have w__law_called : FnAt l.prog G.w G.K mg base G "_law_called" 2 ["pot", "turn"] Φ__law_called := ⟨⟨_, _, o29, PySem.W.mg_of X GG a29, k29, b29⟩⟩
  have o30 : FnOk l.prog G.w G.K mg base CX0 1 _ _ ["turn"] (spD G Φ__law_back) := ok__law_back T F30
  have w__law_back : FnAt l.prog G.w G.K mg base G "_law_back" 1 ["turn"] Φ__law_back := ⟨⟨_, _, o30, PySem.W.mg_of X GG a30, k30, b30⟩⟩
  have o31 : FnOk l.prog G.w G.K mg base CX0 1 _ _ ["turn"] (spD G Φ_back_of) := ok_back_of T F31
  have w_back_of : FnAt l.prog G.w G.K mg base G "back_of" 1 ["turn"] Φ_back_of := ⟨⟨_, _, o31, PySem.W.mg_of X GG a31, k31, b31⟩⟩
  have o32 : FnOk l.prog G.w G.K mg base CX0 7 _ _ ["web"] (spD G Φ_behind) := ok_behind T F32 w_check_web w_Web_init w_back_of w_Web_turn
  have w_behind : FnAt l.prog G.w G.K mg base G "behind" 7 ["web"] Φ_behind := ⟨⟨_, _, o32, PySem.W.mg_of X GG a32, k32, b32⟩⟩
  have ki_behind : FnAtKi l.prog G.w G.K mg base G "behind" 7 ["web"] ["web"] Φ_behind := ⟨_, _, o32, PySem.W.mg_of X GG a32, k32, ⟨fun s us ws _ hl => match us, ws, hl with | [], [_], _ => .of_eq rfl, fun r q => kw0_rel r q⟩⟩
  have o33 : FnOk l.prog G.w G.K mg base CX0 7 _ _ ["web"] (spD G Φ_about) := ok_about T F33 w_check_web w_Web_init w_about_of w_Web_turn
  have w_about : FnAt l.prog G.w G.K mg base G "about" 7 ["web"] Φ_about := ⟨⟨_, _, o33, PySem.W.mg_of X GG a33, k33, b33⟩⟩
  have ki_about : FnAtKi l.prog G.w G.K mg base G "about" 7 ["web"] ["web"] Φ_about := ⟨_, _, o33, PySem.W.mg_of X GG a33, k33, ⟨fun s us ws _ hl => match us, ws, hl with | [], [_], _ => .of_eq rfl, fun r q => kw0_rel r q⟩⟩
  have o34 : FnOk l.prog G.w G.K mg base CX0 3 _ _ ["web", "other"] (spD G Φ_are_alike) := ok_are_alike T F34 w_check_web w_Web_many w_name
  have w_are_alike : FnAt l.prog G.w G.K mg base G "are_alike" 3 ["web", "other"] Φ_are_alike := ⟨⟨_, _, o34, PySem.W.mg_of X GG a34, k34, b34⟩⟩
  have ki_are_alike : FnAtKi l.prog G.w G.K mg base G "are_alike" 3 ["web", "other"] ["web", "other"] Φ_are_alike := ⟨_, _, o34, PySem.W.mg_of X GG a34, k34, ⟨fun s us ws _ hl => match us, ws, hl with | [], [_, _], _ => .of_eq rfl, fun r q => kw0_rel r q⟩⟩
  have o35 : FnOk l.prog G.w G.K mg base CX0 8 _ _ ["script"] (spD G Φ_law) := ok_law T F35 w__law_pot w__law_draw w__law_round w__law_any w__law_two w__law_name w__law_same w_turn_from w__law_read w_name w__law_called w_Web_init w__law_back w__law_about w_Web_turn w_behind w_about w__law_laid w_are_alike ki_are_alike ki_name ki_turn_from ki_about ki_behind
  have w_law : FnAt l.prog G.w G.K mg base G "law" 8 ["script"] Φ_law := ⟨⟨_, _, o35, PySem.W.mg_of X GG a35, k35, b35⟩⟩
  refine o35.imp fun vs H Q E hsp => ?_
  obtain ⟨a, ns, e, hS, hlen, k⟩ := hsp
  refine ⟨fun _ => 0, H, [.scr ns], .d (.bl true), [.scr ns], law_ok ns, ⟨Same.refl _, by rw [e]; rfl, fun i s hi => ?_, fun i j b _ hi _ _ => ?_⟩, fun i => ?_, fun v Z' H' S E' R n => ?_⟩
  · rw [e]
    cases i with
    | zero => simp at hi; subst hi; exact ⟨_, rfl, a, rfl, hS⟩
    | succ i => simp at hi
  · cases i with
    | zero => exact absurd rfl hi
    | succ i => exact absurd rfl hi
  · cases i with
    | zero => exact fun z => nomatch z
    | succ i => exact fun z => nomatch z
  · refine k v H' ?_
    have q := n.ok
    cases q; rfl
theorem walk {l : PySem.W.OpenLaw} {q : Program} {loose : List Str} {XP : (Str → Option Value) → Heap → Prop} {YP : World → Heap → Prop} {d : DefRec} {K : Params → PySem.W.Frag} (hn : l.most = some 63) (hdf : d.params.defaults = [])
    (hY : ∀ (w : World) (h : Heap), YP w h → (K w.params).In h)
    (F : ∀ (w : World) (mg : Str → Option Value) (fa : Addr) (h : Heap), (K w.params).In h → h.Ns mainGlobals mg → mg d.name = some (.ref fa) →
      ∃ fd : FuncData, (∀ (s : Shared) (u : Value), BindsTo s fd ⟨[u], []⟩ [("script", u)]) ∧ ∀ base : Heap, (K w.params).In base → base.Ns mainGlobals mg → FnOk l.prog w (K w.params) mg base CX0 8 fa fd ["script"] (spLaw (K w.params))) :
    PySem.W.WalkO q loose XP YP l.row.toRowW d [] (fun f vs => PySem.call f vs) :=
  L2.walk_of (n := 63) (k := 8) (x := "script") (CX := fun _ => CX0) (sp := fun w => spLaw (K w.params)) hn (by decide) hdf ⟨rfl, by decide, by decide⟩ hY F (fun _ _ a ns hl _ hS => ⟨a, ns, rfl, hS, hl, fun _ _ e => e⟩) fun _ _ _ _ _ z => z
end K12
open PySem PySem.W PyProof.Rows
set_option maxRecDepth 100000 in
set_option maxHeartbeats 0 in
theorem PySem.Challenge.cw_neverfewer_k12_whole_names_holds : PySem.Challenge.rw_neverfewer_k12_whole_names.Holds := by
  w_on; o_law; k_head; (case hw => w_witness2)
  k_fill
  refine K12.walk (l := PySem.Challenge.rw_neverfewer_k12_whole_names) rfl rfl (fun w h Y => PySem.W.kIn_of Y) ?F
  case F =>
    intro w mg fa h KX G hmg
    refine' K12.all_mk KX G hmg ?aC0 ?pg0 ?hd0 ?po0 ?sa0 ?mk0 ?kc0 ?na0_0 ?na0_1 ?na0_2 ?ia0 ?ib0 ?ic0 ?id0 ?ik0 ?it0 ?ie0_0 ?ie0_1 ?ie0_2 ?ie0_3 ?ie0_4 ?ie0_5 ?a1 ?l1 ?c1 ?k1 ?a2 ?l2 ?c2 ?k2 ?a3 ?l3 ?c3 ?k3 ?a4 ?l4 ?c4 ?k4 ?a5 ?l5 ?c5 ?k5 ?a6 ?l6 ?c6 ?k6 ?a7 ?l7 ?c7 ?k7 ?a8 ?l8 ?c8 ?k8 ?a9 ?l9 ?c9 ?k9 ?a10 ?l10 ?c10 ?k10 ?a11 ?l11 ?c11 ?k11 ?a12 ?l12 ?c12 ?k12 ?a13 ?l13 ?c13 ?k13 ?a14 ?l14 ?c14 ?k14 ?a15 ?l15 ?c15 ?k15 ?a16 ?l16 ?c16 ?k16 ?a17 ?l17 ?c17 ?k17 ?a18 ?i18 ?l18 ?c18 ?k18 ?a19 ?l19 ?c19 ?k19 ?a20 ?l20 ?c20 ?k20 ?a21 ?l21 ?c21 ?k21 ?a22 ?l22 ?c22 ?k22 ?a23 ?l23 ?c23 ?k23 ?a24 ?pa24 ?pb24 ?pc24 ?l24 ?c24 ?k24 ?a25 ?l25 ?c25 ?k25 ?a26 ?i26 ?l26 ?c26 ?k26 ?a27 ?l27 ?c27 ?k27 ?a28 ?l28 ?c28 ?k28 ?a29 ?l29 ?c29 ?k29 ?a30 ?l30 ?c30 ?k30 ?a31 ?l31 ?c31 ?k31 ?a32 ?l32 ?c32 ?k32 ?a33 ?l33 ?c33 ?k33 ?a34 ?l34 ?c34 ?k34 ?a35 ?l35 ?c35 ?k35 ?z_abs ?z_len ?z_sum ?z_int ?z_max ?z_divmod ?z_enumerate ?z_range ?z_list ?z_min ?z_isinstance ?z_bool ?z_all ?z_sorted ?z_tuple ?z_set ?z_str ?z_zip
    (case aC0 => k_is)
    (case pg0 => k_is)
    (case hd0 => k_is)
    (case po0 => k_is)
    (case sa0 => k_is)
    (case mk0 => k_is)
    (case kc0 => k_is)
    (case na0_0 => k_is)
    (case na0_1 => k_is)
    (case na0_2 => k_is)
    (case ia0 => k_is)
    (case ib0 => k_is)
    (case ic0 => k_is)
    (case id0 => k_is)
    (case ik0 => k_is)
    (case it0 => k_is)
    (case ie0_0 => k_is)
    (case ie0_1 => k_is)
    (case ie0_2 => k_is)
    (case ie0_3 => k_is)
    (case ie0_4 => k_is)
    (case ie0_5 => k_is)
    (case a1 => k_is)
    (case l1 => k_is)
    (case c1 => k_is)
    (case k1 => k_is)
    (case a2 => k_is)
    (case l2 => k_is)
    (case c2 => k_is)
    (case k2 => k_is)
    (case a3 => k_is)
    (case l3 => k_is)
    (case c3 => k_is)
    (case k3 => k_is)
    (case a4 => k_is)
    (case l4 => k_is)
    (case c4 => k_is)
    (case k4 => k_is)
    (case a5 => k_is)
    (case l5 => k_is)
    (case c5 => k_is)
    (case k5 => k_is)
    (case a6 => k_is)
    (case l6 => k_is)
    (case c6 => k_is)
    (case k6 => k_is)
    (case a7 => k_is)
    (case l7 => k_is)
    (case c7 => k_is)
    (case k7 => k_is)
    (case a8 => k_is)
    (case l8 => k_is)
    (case c8 => k_is)
    (case k8 => k_is)
    (case a9 => k_is)
    (case l9 => k_is)
    (case c9 => k_is)
    (case k9 => k_is)
    (case a10 => k_is)
    (case l10 => k_is)
    (case c10 => k_is)
    (case k10 => k_is)
    (case a11 => k_is)
    (case l11 => k_is)
    (case c11 => k_is)
    (case k11 => k_is)
    (case a12 => k_is)
    (case l12 => k_is)
    (case c12 => k_is)
    (case k12 => k_is)
    (case a13 => k_is)
    (case l13 => k_is)
    (case c13 => k_is)
    (case k13 => k_is)
    (case a14 => k_is)
    (case l14 => k_is)
    (case c14 => k_is)
    (case k14 => k_is)
    (case a15 => k_is)
    (case l15 => k_is)
    (case c15 => k_is)
    (case k15 => k_is)
    (case a16 => k_is)
    (case l16 => k_is)
    (case c16 => k_is)
    (case k16 => k_is)
    (case a17 => k_is)
    (case l17 => k_is)
    (case c17 => k_is)
    (case k17 => k_is)
    (case a18 => k_is)
    (case i18 => k_is)
    (case l18 => k_is)
    (case c18 => k_is)
    (case k18 => k_is)
    (case a19 => k_is)
    (case l19 => k_is)
    (case c19 => k_is)
    (case k19 => k_is)
    (case a20 => k_is)
    (case l20 => k_is)
    (case c20 => k_is)
    (case k20 => k_is)
    (case a21 => k_is)
    (case l21 => k_is)
    (case c21 => k_is)
    (case k21 => k_is)
    (case a22 => k_is)
    (case l22 => k_is)
    (case c22 => k_is)
    (case k22 => k_is)
    (case a23 => k_is)
    (case l23 => k_is)
    (case c23 => k_is)
    (case k23 => k_is)
    (case a24 => k_is)
    (case pa24 => k_is)
    (case pb24 => k_is)
    (case pc24 => exact ⟨_, by k_is⟩)
    (case l24 => k_is)
    (case c24 => k_is)
    (case k24 => k_is)
    (case a25 => k_is)
    (case l25 => k_is)
    (case c25 => k_is)
    (case k25 => k_is)
    (case a26 => k_is)
    (case i26 => k_is)
    (case l26 => k_is)
    (case c26 => k_is)
    (case k26 => k_is)
    (case a27 => k_is)
    (case l27 => k_is)
    (case c27 => k_is)
    (case k27 => k_is)
    (case a28 => k_is)
    (case l28 => k_is)
    (case c28 => k_is)
    (case k28 => k_is)
    (case a29 => k_is)
    (case l29 => k_is)
    (case c29 => k_is)
    (case k29 => k_is)
    (case a30 => k_is)
    (case l30 => k_is)
    (case c30 => k_is)
    (case k30 => k_is)
    (case a31 => k_is)
    (case l31 => k_is)
    (case c31 => k_is)
    (case k31 => k_is)
    (case a32 => k_is)
    (case l32 => k_is)
    (case c32 => k_is)
    (case k32 => k_is)
    (case a33 => k_is)
    (case l33 => k_is)
    (case c33 => k_is)
    (case k33 => k_is)
    (case a34 => k_is)
    (case l34 => k_is)
    (case c34 => k_is)
    (case k34 => k_is)
    (case a35 => k_is)
    (case l35 => k_is)
    (case c35 => k_is)
    (case k35 => k_is)
    (case z_abs => k_is)
    (case z_len => k_is)
    (case z_sum => k_is)
    (case z_int => k_is)
    (case z_max => k_is)
    (case z_divmod => k_is)
    (case z_enumerate => k_is)
    (case z_range => k_is)
    (case z_list => k_is)
    (case z_min => k_is)
    (case z_isinstance => k_is)
    (case z_bool => k_is)
    (case z_all => k_is)
    (case z_sorted => k_is)
    (case z_tuple => k_is)
    (case z_set => k_is)
    (case z_str => k_is)
    (case z_zip => k_is)
#print axioms PySem.Challenge.cw_neverfewer_k12_whole_names_holds
