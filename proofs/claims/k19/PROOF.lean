import PyProof.Rows.All
import Wide.All
import OpenK.AllK
import Wide.FinOn
import HandS.ForMost
import HandS.Exc
import HandS.Wide
import HandS.WideBits
import HandS.Defaults
import HandS.Style
import HandS.Deep
import HandS.TupAny
import HandS.Text
import HandS.IsInst
import HandS.Flow
import HandS.Property
import HandS.ClsMeth
import HandS.Iter
import HandS.Comp
import HandS.Head0
import HandS.Head1
import HandS.Head2
import HandS.HeadHook1
import HandS.HeadHook2
import HandS.HeadNt
import HandS.Codes
import PySem.Challenge.RW_exactroom_k19_names_and_numbers_judged
set_option Elab.async false
set_option linter.all false
set_option maxRecDepth 100000
/-! Deep data, the store, and how they stand for the layer's values and heaps. -/
namespace DL
open PySem PySem.Spec PyProof.Rows L2

inductive D where
  | non | bl (b : Bool) | int (i : Int) | str (s : Str) | ty (n : String)
  | lst (xs : List D) | tup (xs : List D) | dic (kvs : List (Key × D)) | ins (c : Nat) (fs : List (Str × D))
  | rol (xs : List D) | glo (g : Nat) | loc (a : Addr) | exn (c : Nat) (fs : List (Str × D))
  deriving Inhabited
/-- a changing object -/
inductive SO where
  | lst (xs : List D) | dK (kvs : List (Key × D)) | dT (kvs : List (List Key × D)) | ins (c : Nat) (fs : List (Str × D))
abbrev Sto := Addr → Option SO
abbrev En := List (Option D)
abbrev Xn := Nat × List (Str × D)
def ups (st : Sto) (a : Addr) (o : SO) : Sto := fun b => if b = a then some o else st b
def era (st : Sto) (a : Addr) : Sto := fun b => if b = a then none else st b
@[simp] theorem ups_same {st : Sto} {a : Addr} {o : SO} : ups st a o a = some o := if_pos rfl
theorem ups_ne {st : Sto} {a b : Addr} {o : SO} (h : b ≠ a) : ups st a o b = st b := if_neg h
@[simp] theorem era_same {st : Sto} {a : Addr} : era st a a = none := if_pos rfl
theorem era_ne {st : Sto} {a b : Addr} (h : b ≠ a) : era st a b = st b := if_neg h
@[simp] theorem ups_ups {st : Sto} {a : Addr} {o u : SO} : ups (ups st a o) a u = ups st a u := by
  funext b; unfold ups; split <;> rfl
@[simp] theorem era_ups {st : Sto} {a : Addr} {o : SO} : era (ups st a o) a = era st a := by
  funext b; unfold era ups; split <;> rfl
theorem era_free {st : Sto} {a : Addr} (h : st a = none) : era st a = st := by
  funext b; unfold era; split
  · rename_i e; rw [e, h]
  · rfl
theorem era_new {st : Sto} {a : Addr} {o : SO} (h : st a = none) : era (ups st a o) a = st := by rw [era_ups, era_free h]

structure Wd where
  K : PySem.W.Frag
  tau : Nat → Addr
def Le (G G' : Hp) : Prop := ∀ a o, G a = some o → G' a = some o
theorem Le.refl (G : Hp) : Le G G := fun _ _ h => h
theorem Le.trans {G G1 G2 : Hp} (a : Le G G1) (b : Le G1 G2) : Le G G2 := fun c o h => b c o (a c o h)
theorem Le.new {G : Hp} {p : Addr} {o : HO} (h : G p = none) : Le G (upd G p o) := fun a u e => by
  rw [upd_ne (ne_of_none e h)]; exact e
theorem Le.rd {G G' : Hp} (e : Le G G') {a : Addr} {o : HO} (h : Rd G a o) : Rd G' a o := by
  rcases h with h | ⟨x, h⟩
  · exact .inl (e _ _ h)
  · exact .inr ⟨x, e _ _ h⟩
theorem Le.sqL {K : PySem.W.Frag} {G G' : Hp} (e : Le G G') {a : Addr} {vs : List V} (h : SqL K G a vs) : SqL K G' a vs := h.imp e.rd id
theorem Le.sqT {K : PySem.W.Frag} {G G' : Hp} (e : Le G G') {a : Addr} {vs : List V} (h : SqT K G a vs) : SqT K G' a vs := h.imp e.rd id

mutual
inductive Rp (W : Wd) (G : Hp) : V → D → Prop
  | non : Rp W G .non .non
  | bl (b : Bool) : Rp W G (.bl b) (.bl b)
  | int (i : Int) : Rp W G (.int i) (.int i)
  | str (s : Str) : Rp W G (.str s) (.str s)
  | ty (n : String) : Rp W G (.ty n) (.ty n)
  | lst {a : Addr} {vs : List V} {ds : List D} : G a = some (.lst vs) → RpL W G vs ds → ds.length ≤ sizeLine → Rp W G (.ref a) (.lst ds)
  | rol {a : Addr} {vs : List V} {ds : List D} : SqL W.K G a vs → RpL W G vs ds → ds.length ≤ sizeLine → Rp W G (.ref a) (.rol ds)
  | tup {a : Addr} {vs : List V} {ds : List D} : SqT W.K G a vs → RpL W G vs ds → ds.length ≤ sizeLine → Rp W G (.ref a) (.tup ds)
  | dic {a : Addr} {kvs : List (Key × V)} {ds : List (Key × D)} : Rd G a (.dK kvs) → kvs.map (·.1) = ds.map (·.1) → RpL W G (kvs.map (·.2)) (ds.map (·.2)) → Rp W G (.ref a) (.dic ds)
  | ins {a dx : Addr} {c : Nat} {fs : List (Str × V)} {ds : List (Str × D)} : G a = some (.ins (W.tau c) dx fs) → fs.map (·.1) = ds.map (·.1) → RpL W G (fs.map (·.2)) (ds.map (·.2)) → Rp W G (.ref a) (.ins c ds)
  | glo (g : Nat) : Rp W G (.ref (W.tau g)) (.glo g)
  | loc (a : Addr) : Rp W G (.ref a) (.loc a)
inductive RpL (W : Wd) (G : Hp) : List V → List D → Prop
  | nil : RpL W G [] []
  | cons {v : V} {d : D} {vs : List V} {ds : List D} : Rp W G v d → RpL W G vs ds → RpL W G (v :: vs) (d :: ds)
end
def RpF {κ : Type} (W : Wd) (G : Hp) (kvs : List (κ × V)) (ds : List (κ × D)) : Prop := kvs.map (·.1) = ds.map (·.1) ∧ RpL W G (kvs.map (·.2)) (ds.map (·.2))

section
variable {W : Wd} {G G' : Hp}
mutual
theorem Rp.mono (e : Le G G') : ∀ {v : V} {d : D}, Rp W G v d → Rp W G' v d
  | _, _, .non => .non
  | _, _, .bl b => .bl b
  | _, _, .int i => .int i
  | _, _, .str s => .str s
  | _, _, .ty s => .ty s
  | _, _, .lst h r z => .lst (e _ _ h) (RpL.mono e r) z
  | _, _, .rol h r z => .rol (e.sqL h) (RpL.mono e r) z
  | _, _, .tup h r z => .tup (e.sqT h) (RpL.mono e r) z
  | _, _, .dic h k r => .dic (e.rd h) k (RpL.mono e r)
  | _, _, .ins h k r => .ins (e _ _ h) k (RpL.mono e r)
  | _, _, .glo g => .glo g
  | _, _, .loc g => .loc g
theorem RpL.mono (e : Le G G') : ∀ {vs : List V} {ds : List D}, RpL W G vs ds → RpL W G' vs ds
  | _, _, .nil => .nil
  | _, _, .cons h r => .cons (Rp.mono e h) (RpL.mono e r)
end
theorem RpF.mono {κ : Type} {kvs : List (κ × V)} {ds : List (κ × D)} (e : Le G G') (h : RpF W G kvs ds) : RpF W G' kvs ds := ⟨h.1, h.2.mono e⟩
theorem RpL.length : ∀ {vs : List V} {ds : List D}, RpL W G vs ds → vs.length = ds.length
  | _, _, .nil => rfl
  | _, _, .cons _ r => congrArg Nat.succ r.length
theorem RpL.append : ∀ {vs us : List V} {ds es : List D}, RpL W G vs ds → RpL W G us es → RpL W G (vs ++ us) (ds ++ es)
  | _, _, _, _, .nil, s => s
  | _, _, _, _, .cons h r, s => .cons h (r.append s)
theorem RpL.get : ∀ {vs : List V} {ds : List D} {i : Nat} {d : D}, RpL W G vs ds → ds[i]? = some d → ∃ v, vs[i]? = some v ∧ Rp W G v d
  | _, _, _, _, .nil, e => by simp at e
  | _, _, 0, _, .cons h r, e => by
    obtain rfl : _ = _ := Option.some.inj e
    exact ⟨_, rfl, h⟩
  | _, _, i + 1, _, .cons h r, e => by
    obtain ⟨v, a, b⟩ := r.get (i := i) (by simpa using e)
    exact ⟨v, by simpa using a, b⟩
theorem RpL.get' : ∀ {vs : List V} {ds : List D} {i : Nat} {v : V}, RpL W G vs ds → vs[i]? = some v → ∃ d, ds[i]? = some d ∧ Rp W G v d
  | _, _, _, _, .nil, e => by simp at e
  | _, _, 0, _, .cons h r, e => by
    obtain rfl : _ = _ := Option.some.inj e
    exact ⟨_, rfl, h⟩
  | _, _, i + 1, _, .cons h r, e => by
    obtain ⟨v, a, b⟩ := r.get' (i := i) (by simpa using e)
    exact ⟨v, by simpa using a, b⟩
theorem RpL.set : ∀ {vs : List V} {ds : List D} {v : V} {d : D} (i : Nat), RpL W G vs ds → Rp W G v d → RpL W G (vs.set i v) (ds.set i d)
  | _, _, _, _, _, .nil, _ => .nil
  | _, _, _, _, 0, .cons _ r, x => .cons x r
  | _, _, _, _, i + 1, .cons h r, x => .cons h (r.set i x)
theorem RpL.take : ∀ {vs : List V} {ds : List D} (n : Nat), RpL W G vs ds → RpL W G (vs.take n) (ds.take n)
  | _, _, 0, _ => .nil
  | _, _, _ + 1, .nil => .nil
  | _, _, n + 1, .cons h r => .cons h (r.take n)
theorem RpL.drop : ∀ {vs : List V} {ds : List D} (n : Nat), RpL W G vs ds → RpL W G (vs.drop n) (ds.drop n)
  | _, _, 0, r => r
  | _, _, _ + 1, .nil => .nil
  | _, _, n + 1, .cons _ r => r.drop n
theorem RpL.snoc {vs : List V} {ds : List D} {v : V} {d : D} (r : RpL W G vs ds) (h : Rp W G v d) : RpL W G (vs ++ [v]) (ds ++ [d]) := r.append (.cons h .nil)
theorem RpL.reverse : ∀ {vs : List V} {ds : List D}, RpL W G vs ds → RpL W G vs.reverse ds.reverse
  | _, _, .nil => .nil
  | _, _, .cons h r => by
    rw [List.reverse_cons, List.reverse_cons]
    exact r.reverse.snoc h
theorem RpL.ints : ∀ (ns : List Int), RpL W G (ns.map V.int) (ns.map D.int)
  | [] => .nil
  | n :: ns => .cons (.int n) (RpL.ints ns)
theorem RpL.strs : ∀ (ns : List Str), RpL W G (ns.map V.str) (ns.map D.str)
  | [] => .nil
  | n :: ns => .cons (.str n) (RpL.strs ns)
theorem RpL.bls : ∀ (ns : List Bool), RpL W G (ns.map V.bl) (ns.map D.bl)
  | [] => .nil
  | n :: ns => .cons (.bl n) (RpL.bls ns)
theorem RpL.ints_eq : ∀ {vs : List V} {ns : List Int}, RpL W G vs (ns.map D.int) → vs = ns.map V.int
  | vs, [], h => by cases h; rfl
  | vs, n :: ns, h => by
    cases h with
    | cons h r => cases h; rw [r.ints_eq]; rfl
theorem RpL.strs_eq : ∀ {vs : List V} {ns : List Str}, RpL W G vs (ns.map D.str) → vs = ns.map V.str
  | vs, [], h => by cases h; rfl
  | vs, n :: ns, h => by
    cases h with
    | cons h r => cases h; rw [r.strs_eq]; rfl
theorem RpL.bls_eq : ∀ {vs : List V} {ns : List Bool}, RpL W G vs (ns.map D.bl) → vs = ns.map V.bl
  | vs, [], h => by cases h; rfl
  | vs, n :: ns, h => by
    cases h with
    | cons h r => cases h; rw [r.bls_eq]; rfl
theorem map_pair_lookup {κ α β : Type} [BEq κ] {f : κ} : ∀ {kvs : List (κ × α)} {ds : List (κ × β)}, kvs.map (·.1) = ds.map (·.1) → ∀ {d : β}, ds.lookup f = some d →
    ∃ (i : Nat) (v : α), kvs.lookup f = some v ∧ (kvs.map (·.2))[i]? = some v ∧ (ds.map (·.2))[i]? = some d
  | [], [], _, _, e => by simp at e
  | [], _ :: _, h, _, _ => by simp at h
  | _ :: _, [], h, _, _ => by simp at h
  | (k, v) :: r, (k', d') :: r', h, d, e => by
    simp only [List.map_cons, List.cons.injEq] at h
    obtain ⟨rfl, h⟩ := h
    rw [List.lookup_cons] at e
    rw [List.lookup_cons]
    cases q : f == k with
    | true =>
      rw [q] at e
      obtain rfl : d' = d := Option.some.inj e
      exact ⟨0, v, rfl, rfl, rfl⟩
    | false =>
      rw [q] at e
      obtain ⟨i, w, a, b, c⟩ := map_pair_lookup h e
      exact ⟨i + 1, w, a, by simpa using b, by simpa using c⟩
theorem map_pair_none {κ α β : Type} [BEq κ] {f : κ} : ∀ {kvs : List (κ × α)} {ds : List (κ × β)}, kvs.map (·.1) = ds.map (·.1) → ds.lookup f = none → kvs.lookup f = none
  | [], [], _, _ => rfl
  | [], _ :: _, h, _ => by simp at h
  | _ :: _, [], h, _ => by simp at h
  | (k, v) :: r, (k', d') :: r', h, e => by
    simp only [List.map_cons, List.cons.injEq] at h
    obtain ⟨rfl, h⟩ := h
    rw [List.lookup_cons] at e
    rw [List.lookup_cons]
    cases q : f == k with
    | true => rw [q] at e; cases e
    | false => rw [q] at e; exact map_pair_none h e
theorem RpF.look {κ : Type} [BEq κ] {kvs : List (κ × V)} {ds : List (κ × D)} (h : RpF W G kvs ds) {f : κ} {d : D} (e : ds.lookup f = some d) : ∃ v, kvs.lookup f = some v ∧ Rp W G v d := by
  obtain ⟨i, v, a, b, c⟩ := map_pair_lookup h.1 e
  obtain ⟨v', x, y⟩ := h.2.get c
  rw [b] at x
  obtain rfl : v = v' := Option.some.inj x
  exact ⟨v, a, y⟩
theorem RpF.none {κ : Type} [BEq κ] {kvs : List (κ × V)} {ds : List (κ × D)} (h : RpF W G kvs ds) {f : κ} (e : ds.lookup f = none) : kvs.lookup f = none := map_pair_none h.1 e
theorem RpF.length {κ : Type} {kvs : List (κ × V)} {ds : List (κ × D)} (h : RpF W G kvs ds) : kvs.length = ds.length := by
  have e := congrArg List.length h.1
  rw [List.length_map, List.length_map] at e
  exact e
end

/-- an object of the heap for an object of the store -/
inductive RpO (W : Wd) (G : Hp) : HO → SO → Prop
  | lst {vs : List V} {ds : List D} : RpL W G vs ds → ds.length ≤ sizeLine → RpO W G (.lst vs) (.lst ds)
  | dK {kvs : List (Key × V)} {ds : List (Key × D)} : RpF W G kvs ds → RpO W G (.dK kvs) (.dK ds)
  | dT {kvs : List (List Key × V)} {ds : List (List Key × D)} : RpF W G kvs ds → RpO W G (.dT kvs) (.dT ds)
  | ins {C dx : Addr} {c : Nat} {fs : List (Str × V)} {ds : List (Str × D)} : C = W.tau c → RpF W G fs ds → RpO W G (.ins C dx fs) (.ins c ds)
theorem RpO.mono {W : Wd} {G G' : Hp} (e : Le G G') {h : HO} {o : SO} (r : RpO W G h o) : RpO W G' h o := by
  cases r with
  | lst r z => exact .lst (r.mono e) z
  | dK r => exact .dK (r.mono e)
  | dT r => exact .dT (r.mono e)
  | ins c r => exact .ins c (r.mono e)
/-- G: what is frozen; B: what else stands, unchanged; st: what may change -/
structure Rel (W : Wd) (B G : Hp) (st : Sto) (H : Hp) : Prop where
  sub : Le G H
  bas : Le B H
  obj : ∀ a o, st a = some o → ∃ h, H a = some h ∧ RpO W G h o
  sep : ∀ a o, st a = some o → G a = none ∧ B a = none
  gb : ∀ a o, B a = some o → G a = none
  /-- the dict of the loaded modules is locked, so nothing new stands there -/
  low : ∃ o, H sysModules = some (.frz o (.ext fun _ => True))
section
variable {W : Wd} {B G : Hp} {st : Sto} {H : Hp} {p : Addr}
theorem Rel.free (R : Rel W B G st H) (hp : H p = none) : G p = none ∧ B p = none ∧ st p = none := by
  refine ⟨?_, ?_, ?_⟩
  · cases e : G p with
    | none => rfl
    | some o => rw [R.sub _ _ e] at hp; cases hp
  · cases e : B p with
    | none => rfl
    | some o => rw [R.bas _ _ e] at hp; cases hp
  · cases e : st p with
    | none => rfl
    | some o =>
      obtain ⟨h, a, _⟩ := R.obj _ _ e
      rw [a] at hp; cases hp
theorem Rel.low_new (R : Rel W B G st H) (hp : H p = none) (o : HO) : ∃ o', upd H p o sysModules = some (.frz o' (.ext fun _ => True)) := by
  obtain ⟨o', e⟩ := R.low
  exact ⟨o', by rw [upd_ne (ne_of_none e hp)]; exact e⟩
theorem Rel.not_low (R : Rel W B G st H) {a : Addr} {h : HO} (e : H a = some h) (ne : ∀ o, h ≠ .frz o (.ext fun _ => True)) : a ≠ sysModules := by
  obtain ⟨o, q⟩ := R.low
  rintro rfl
  rw [q] at e
  cases e
  exact ne _ rfl
theorem Rel.low_ne (R : Rel W B G st H) (hp : p ≠ sysModules) (o : HO) : ∃ o', upd H p o sysModules = some (.frz o' (.ext fun _ => True)) := by
  obtain ⟨o', e⟩ := R.low
  exact ⟨o', by rw [upd_ne (Ne.symm hp)]; exact e⟩
theorem Rel.low_put (R : Rel W B G st H) {o0 : SO} (e0 : st p = some o0) (o : HO) : ∃ o', upd H p o sysModules = some (.frz o' (.ext fun _ => True)) := by
  obtain ⟨h, x, y⟩ := R.obj _ _ e0
  refine R.low_ne (R.not_low x fun o q => ?_) o
  subst q
  cases y
/-- a new object, frozen at once -/
theorem Rel.frz (R : Rel W B G st H) (hp : H p = none) (o : HO) : Rel W B (upd G p o) st (upd H p o) ∧ Le G (upd G p o) := by
  obtain ⟨g, b, s⟩ := R.free hp
  have le := Le.new (o := o) g
  have ne : ∀ a u, st a = some u → a ≠ p := fun a u e z => by subst z; rw [s] at e; cases e
  refine ⟨⟨fun a u e => ?_, fun a u e => ?_, fun a u e => ?_, fun a u e => ?_, fun a u e => ?_, R.low_new hp o⟩, le⟩
  · by_cases ha : a = p
    · subst ha; rw [upd_same] at e ⊢; exact e
    · rw [upd_ne ha] at e ⊢; exact R.sub _ _ e
  · rw [upd_ne (ne_of_none e b)]; exact R.bas _ _ e
  · obtain ⟨h, x, y⟩ := R.obj _ _ e
    exact ⟨h, by rw [upd_ne (ne a u e)]; exact x, y.mono le⟩
  · rw [upd_ne (ne a u e)]; exact R.sep _ _ e
  · rw [upd_ne (ne_of_none e b)]; exact R.gb _ _ e
/-- an object laid where neither G nor B has one -/
theorem Rel.lay (R : Rel W B G st H) (g : G p = none) (b : B p = none) {h : HO} (lw : ∃ o', upd H p h sysModules = some (.frz o' (.ext fun _ => True))) {o : SO} (r : RpO W G h o) : Rel W B G (ups st p o) (upd H p h) := by
  refine ⟨fun a u e => ?_, fun a u e => ?_, fun a u e => ?_, fun a u e => ?_, R.gb, lw⟩
  · rw [upd_ne (ne_of_none e g)]; exact R.sub _ _ e
  · rw [upd_ne (ne_of_none e b)]; exact R.bas _ _ e
  · by_cases ha : a = p
    · subst ha
      rw [ups_same] at e
      cases e
      exact ⟨h, upd_same, r⟩
    · rw [ups_ne ha] at e
      obtain ⟨h, x, y⟩ := R.obj _ _ e
      exact ⟨h, by rw [upd_ne ha]; exact x, y⟩
  · by_cases ha : a = p
    · subst ha; exact ⟨g, b⟩
    · rw [ups_ne ha] at e; exact R.sep _ _ e
/-- a new object of the store -/
theorem Rel.new (R : Rel W B G st H) (hp : H p = none) {h : HO} {o : SO} (r : RpO W G h o) : Rel W B G (ups st p o) (upd H p h) := R.lay (R.free hp).1 (R.free hp).2.1 (R.low_new hp h) r
/-- an object of the store is changed -/
theorem Rel.put (R : Rel W B G st H) {o0 : SO} (e0 : st p = some o0) {h : HO} {o : SO} (r : RpO W G h o) : Rel W B G (ups st p o) (upd H p h) := R.lay (R.sep _ _ e0).1 (R.sep _ _ e0).2 (R.low_put e0 h) r
/-- an object of the store is frozen -/
theorem Rel.freeze (R : Rel W B G st H) {o0 : SO} (e0 : st p = some o0) {h : HO} (e1 : H p = some h) : Rel W B (upd G p h) (era st p) H ∧ Le G (upd G p h) := by
  obtain ⟨g, b⟩ := R.sep _ _ e0
  have le := Le.new (o := h) g
  refine ⟨⟨fun a u e => ?_, R.bas, fun a u e => ?_, fun a u e => ?_, fun a u e => ?_, R.low⟩, le⟩
  · by_cases ha : a = p
    · subst ha; rw [upd_same] at e; cases e; exact e1
    · rw [upd_ne ha] at e; exact R.sub _ _ e
  · have ha : a ≠ p := fun z => by subst z; rw [era_same] at e; cases e
    rw [era_ne ha] at e
    obtain ⟨h, x, y⟩ := R.obj _ _ e
    exact ⟨h, x, y.mono le⟩
  · have ha : a ≠ p := fun z => by subst z; rw [era_same] at e; cases e
    rw [era_ne ha] at e
    rw [upd_ne ha]; exact R.sep _ _ e
  · rw [upd_ne (ne_of_none e b)]; exact R.gb _ _ e
/-- .. or thrown away -/
theorem Rel.drop (R : Rel W B G st H) (p : Addr) : Rel W B G (era st p) H := by
  refine ⟨R.sub, R.bas, fun a u e => ?_, fun a u e => ?_, R.gb, R.low⟩
  · by_cases ha : a = p
    · subst ha; rw [era_same] at e; cases e
    · rw [era_ne ha] at e; exact R.obj _ _ e
  · by_cases ha : a = p
    · subst ha; rw [era_same] at e; cases e
    · rw [era_ne ha] at e; exact R.sep _ _ e
/-- a new object beside -/
theorem Rel.side (R : Rel W B G st H) (hp : H p = none) (o : HO) : Rel W (upd B p o) G st (upd H p o) := by
  obtain ⟨g, b, s⟩ := R.free hp
  have ne : ∀ a u, st a = some u → a ≠ p := fun a u e z => by subst z; rw [s] at e; cases e
  refine ⟨fun a u e => ?_, fun a u e => ?_, fun a u e => ?_, fun a u e => ?_, fun a u e => ?_, R.low_new hp o⟩
  · rw [upd_ne (ne_of_none e g)]; exact R.sub _ _ e
  · by_cases ha : a = p
    · subst ha; rw [upd_same] at e ⊢; exact e
    · rw [upd_ne ha] at e ⊢; exact R.bas _ _ e
  · obtain ⟨h, x, y⟩ := R.obj _ _ e
    exact ⟨h, by rw [upd_ne (ne a u e)]; exact x, y⟩
  · rw [upd_ne (ne a u e)]; exact R.sep _ _ e
  · by_cases ha : a = p
    · subst ha; exact g
    · rw [upd_ne ha] at e; exact R.gb _ _ e
/-- .. changed -/
theorem Rel.side_put {o o' : HO} (R : Rel W (upd B p o) G st H) (hp : p ≠ sysModules) : Rel W (upd B p o') G st (upd H p o') := by
  have g : G p = none := R.gb p o upd_same
  have ne : ∀ a u, st a = some u → a ≠ p := fun a u e z => by subst z; have := (R.sep _ _ e).2; rw [upd_same] at this; cases this
  refine ⟨fun a u e => ?_, fun a u e => ?_, fun a u e => ?_, fun a u e => ?_, fun a u e => ?_, R.low_ne hp o'⟩
  · rw [upd_ne (ne_of_none e g)]; exact R.sub _ _ e
  · by_cases ha : a = p
    · subst ha; rw [upd_same] at e ⊢; exact e
    · rw [upd_ne ha] at e ⊢; exact R.bas a u (by rw [upd_ne ha]; exact e)
  · obtain ⟨h, x, y⟩ := R.obj _ _ e
    exact ⟨h, by rw [upd_ne (ne a u e)]; exact x, y⟩
  · have q := R.sep _ _ e
    rw [upd_ne (ne a u e)] at q ⊢; exact q
  · by_cases ha : a = p
    · subst ha; exact g
    · rw [upd_ne ha] at e; exact R.gb a u (by rw [upd_ne ha]; exact e)
/-- .. no longer looked at -/
theorem Rel.unside {o : HO} (R : Rel W (upd B p o) G st H) (b : B p = none) : Rel W B G st H ∧ G p = none ∧ st p = none ∧ H p = some o := by
  have le := Le.new (o := o) b
  refine ⟨⟨R.sub, fun a u e => R.bas a u (le _ _ e), R.obj, fun a u e => ⟨(R.sep _ _ e).1, ?_⟩, fun a u e => R.gb a u (le _ _ e), R.low⟩, R.gb p o upd_same, ?_, R.bas p o upd_same⟩
  · cases q : B a with
    | none => rfl
    | some z => have := (R.sep _ _ e).2; rw [le _ _ q] at this; cases this
  · cases q : st p with
    | none => rfl
    | some z => have := (R.sep _ _ q).2; rw [upd_same] at this; cases this
/-- what stands beside is taken in, frozen -/
theorem Rel.adopt {o : HO} (R : Rel W B G st H) (g : G p = none) (b : B p = none) (s : st p = none) (h : H p = some o) : Rel W B (upd G p o) st H ∧ Le G (upd G p o) := by
  have le := Le.new (o := o) g
  have ne : ∀ a u, st a = some u → a ≠ p := fun a u e z => by subst z; rw [s] at e; cases e
  refine ⟨⟨fun a u e => ?_, R.bas, fun a u e => ?_, fun a u e => ?_, fun a u e => ?_, R.low⟩, le⟩
  · by_cases ha : a = p
    · subst ha; rw [upd_same] at e; cases e; exact h
    · rw [upd_ne ha] at e; exact R.sub _ _ e
  · obtain ⟨h, x, y⟩ := R.obj _ _ e
    exact ⟨h, x, y.mono le⟩
  · rw [upd_ne (ne a u e)]; exact R.sep _ _ e
  · rw [upd_ne (ne_of_none e b)]; exact R.gb _ _ e
/-- .. into the store -/
theorem Rel.adoptS {o : HO} {so : SO} (R : Rel W B G st H) (g : G p = none) (b : B p = none) (h : H p = some o) (r : RpO W G o so) : Rel W B G (ups st p so) H := by
  refine ⟨R.sub, R.bas, fun a u e => ?_, fun a u e => ?_, R.gb, R.low⟩
  · by_cases ha : a = p
    · subst ha; rw [ups_same] at e; cases e; exact ⟨_, h, r⟩
    · rw [ups_ne ha] at e; exact R.obj _ _ e
  · by_cases ha : a = p
    · subst ha; exact ⟨g, b⟩
    · rw [ups_ne ha] at e; exact R.sep _ _ e
end
/-- a caught exception, pinned: its class, its fields -/
def RpX (W : Wd) (pn : List (Addr × Obj)) (G : Hp) (v : V) (c : Nat) (ds : List (Str × D)) : Prop :=
  ∃ (a : Addr) (oe : Obj), v = .ref a ∧ (a, oe) ∈ pn ∧ oe.cls = .ref (W.tau c) ∧ (∃ vs, oe.data = .fields vs) ∧ ((∃ d fs, oe.dict = some d ∧ G d = some (.xd fs) ∧ RpF W G fs ds) ∨ (oe.dict = none ∧ ds = []))
/-- a slot's value: data, or a caught exception -/
def RpV (W : Wd) (pn : List (Addr × Obj)) (G : Hp) (v : V) (d : D) : Prop := match d with
  | .exn c ds => RpX W pn G v c ds
  | d => Rp W G v d
theorem RpV.mono {W : Wd} {pn : List (Addr × Obj)} {G G' : Hp} (e : Le G G') {v : V} {d : D} (r : RpV W pn G v d) : RpV W pn G' v d := by
  cases d <;> first | exact Rp.mono e r | skip
  obtain ⟨a, oe, h1, h2, h3, h4, h5⟩ := r
  refine ⟨a, oe, h1, h2, h3, h4, ?_⟩
  rcases h5 with ⟨d, fs, k1, k2, k3⟩ | k
  · exact .inl ⟨d, fs, k1, e _ _ k2, k3.mono e⟩
  · exact .inr k
theorem RpV.pins {W : Wd} {pn pn' : List (Addr × Obj)} {G : Hp} (e : ∀ p ∈ pn, p ∈ pn') {v : V} {d : D} (r : RpV W pn G v d) : RpV W pn' G v d := by
  cases d <;> first | exact r | skip
  obtain ⟨a, oe, h1, h2, h⟩ := r
  exact ⟨a, oe, h1, e _ h2, h⟩
theorem Rp.toV {W : Wd} {pn : List (Addr × Obj)} {G : Hp} {v : V} {d : D} (r : Rp W G v d) : RpV W pn G v d := by
  cases r <;> first | exact .non | exact .bl _ | exact .int _ | exact .str _ | exact .ty _ | exact .glo _ | exact .loc _ | skip
  · rename_i a b c; exact Rp.lst a b c
  · rename_i a b c; exact Rp.rol a b c
  · rename_i a b c; exact Rp.tup a b c
  · rename_i a b c; exact Rp.dic a b c
  · rename_i a b c; exact Rp.ins a b c
/-- slots -/
def RpS (W : Wd) (pn : List (Addr × Obj)) (G : Hp) (σ : L2.St) (env : En) : Prop := σ.length = env.length ∧ ∀ (i : Nat) (d : D), env[i]? = some (some d) → ∃ v, σ[i]? = some (some v) ∧ RpV W pn G v d
section
variable {W : Wd} {pn : List (Addr × Obj)} {G G' : Hp} {σ : L2.St} {env : En}
theorem RpS.mono (r : RpS W pn G σ env) (e : Le G G') : RpS W pn G' σ env := ⟨r.1, fun i d h => by
  obtain ⟨v, a, b⟩ := r.2 i d h
  exact ⟨v, a, b.mono e⟩⟩
theorem RpS.pins {pn' : List (Addr × Obj)} (r : RpS W pn G σ env) (e : ∀ p ∈ pn, p ∈ pn') : RpS W pn' G σ env := ⟨r.1, fun i d h => by
  obtain ⟨v, a, b⟩ := r.2 i d h
  exact ⟨v, a, b.pins e⟩⟩
theorem RpS.set (r : RpS W pn G σ env) {v : V} {d : D} (i : Nat) (h : RpV W pn G v d) : RpS W pn G (σ.set i (some v)) (env.set i (some d)) := by
  refine ⟨by simpa using r.1, fun j e q => ?_⟩
  by_cases hj : i = j
  · subst hj
    by_cases hi : i < env.length
    · rw [List.getElem?_set_self hi] at q
      obtain rfl : d = e := Option.some.inj (Option.some.inj q)
      exact ⟨v, List.getElem?_set_self (by rw [r.1]; exact hi), h⟩
    · rw [List.getElem?_eq_none (by simpa using hi)] at q; cases q
  · rw [List.getElem?_set_ne hj] at q
    rw [List.getElem?_set_ne hj]
    exact r.2 j e q
theorem RpS.unset (r : RpS W pn G σ env) (i : Nat) : RpS W pn G (σ.set i none) (env.set i none) := by
  refine ⟨by simpa using r.1, fun j e q => ?_⟩
  by_cases hj : i = j
  · subst hj
    by_cases hi : i < env.length
    · rw [List.getElem?_set_self hi] at q; cases q
    · rw [List.getElem?_eq_none (by simpa using hi)] at q; cases q
  · rw [List.getElem?_set_ne hj] at q
    rw [List.getElem?_set_ne hj]
    exact r.2 j e q
/-- the slots of a comprehension's own names, forgotten -/
def wipeD (env : En) : List Nat → En
  | [] => env
  | v :: vs => (wipeD env vs).set v none
theorem RpS.wipe (r : RpS W pn G σ env) : ∀ vs : List Nat, RpS W pn G (wipe σ vs) (wipeD env vs)
  | [] => r
  | v :: vs => (r.wipe vs).unset v
/-- slots that hold plain data alone need no pins -/
theorem RpS.start {N : List Str} : ∀ {vs : List V} {ds : List D}, RpL W G vs ds → RpS W pn G (L2.start N vs) (ds.map some ++ List.replicate (N.length - ds.length) none) := fun {vs ds} r => by
  have hl := r.length
  refine ⟨by unfold L2.start; simp [hl], fun i d q => ?_⟩
  by_cases hi : i < ds.length
  · rw [List.getElem?_append_left (by simpa using hi), List.getElem?_map] at q
    cases e : ds[i]? with
    | none => rw [e] at q; cases q
    | some d' =>
      rw [e] at q
      obtain rfl : d' = d := Option.some.inj (Option.some.inj q)
      obtain ⟨v, a, b⟩ := r.get e
      refine ⟨v, ?_, b.toV⟩
      unfold L2.start
      rw [List.getElem?_append_left (by simpa [hl] using hi), List.getElem?_map, a] <;> rfl
  · rw [List.getElem?_append_right (by simpa using hi), List.getElem?_replicate] at q
    split at q <;> cases q
end
end DL
/-! Defs that are called where no repr is under way (guards known), with what they may raise. -/
namespace DL
open PySem PySem.Spec PyProof.Rows L2

structure FnG (P : Program) (w : World) (K : PySem.W.Frag) (mg : Str → Option Value) (base : Heap) (k : Nat) (f : Addr) (fd : FuncData) (ps : List Str) (sp : Sp) : Prop where
  len : ∀ vs H Q E, sp vs H Q E → vs.length = ps.length
  run : ∀ (A : Around) (outer : List PySem.Env) (s : Shared) (H : Hp) (args : Args) (us : List Value) (vs : List V) (Q : VK) (E : XK),
    A.guards = some [] → Room k A → Env0 P w K mg base A outer s H → BindsTo s fd args (ps.zip us) → Vals vs us → sp vs H Q E → codeAny (model P w) A (.call (.ref f) args) (CR (L2.CX P w) outer P w H s Q E) s
theorem FnG.mono {P : Program} {w : World} {K : PySem.W.Frag} {mg : Str → Option Value} {base : Heap} {j k : Nat} {f : Addr} {fd : FuncData} {ps : List Str} {sp : Sp} (F : FnG P w K mg base j f fd ps sp) (h : j ≤ k) :
    FnG P w K mg base k f fd ps sp where
  len := F.len
  run := fun A outer s H args us vs Q E hg hr => F.run A outer s H args us vs Q E hg (hr.mono h)

section
variable {X : Cx} {pins : List (Addr × Obj)} {σ : L2.St} {H : Hp} {s : Shared} {k : Nat} {f C : Addr} {fd : FuncData} {ps : List Str} {sp : Sp} {Wx : WX}
/-- what a call leaves, for one who takes what is raised -/
theorem after_call {Q : VK} (tk : Takes X Wx) (I : Inv X pins σ H s) {r : Result} {s' : Shared} (hq : CR (L2.CX X.prog X.w) X.stack X.prog X.w H s Q (fun c d H' => Wx c d σ H') r s') :
    match r with
    | .ok (.ret u) => EP X pins σ Q u s'
    | .ok _ => False
    | .error e => X.xe e s' := by
  cases r with
  | error e => exact tk _ _ (XE.of_call I (fun _ _ _ q => q) hq)
  | ok fl => cases fl <;> first | exact I.after hq | exact hq
/-- the callee runs, its arguments bound -/
theorem code_g (F : FnG X.prog X.w X.K X.mg X.base k f fd ps sp) (hg : X.A.guards = some []) (hr : Room k X.A) (tk : Takes X Wx) (I : Inv X pins σ H s) {Q : VK} {pos all : List Value} {kw : List (Str × Value)} {vs : List V}
    (hb : BindsTo s fd ⟨pos, kw⟩ (ps.zip all)) (r : Vals vs all) (h : sp vs H Q fun c d H' => Wx c d σ H') :
    codeAny (model X.prog X.w) X.A (.call (.ref f) ⟨pos, kw⟩) (fun r s' => match r with
      | .ok (.ret u) => EP X pins σ Q u s'
      | .ok _ => False
      | .error e => X.xe e s') s :=
  codeAny_mono (F.run X.A X.stack s H ⟨pos, kw⟩ all vs Q _ hg hr I.env0 hb r h) fun res s' hq => by
    have q := after_call tk I hq
    cases res with
    | error e => exact q
    | ok fl => cases fl <;> exact q
theorem run_g (F : FnG X.prog X.w X.K X.mg X.base k f fd ps sp) (hg : X.A.guards = some []) (hr : Room k X.A) (tk : Takes X Wx) (I : Inv X pins σ H s) {Q : VK} {pos all : List Value} {kw : List (Str × Value)} {vs : List V}
    (hb : BindsTo s fd ⟨pos, kw⟩ (ps.zip all)) (r : Vals vs all) (h : sp vs H Q fun c d H' => Wx c d σ H') : wpAny (model X.prog X.w) X.A (call (.ref f) pos kw) (EP X pins σ Q) X.xe s := by
  refine wpAny_call (codeAny_mono (code_g F hg hr tk I hb r h) fun res s' q => ?_)
  cases res with
  | error e => exact q
  | ok fl => cases fl <;> first | exact q | exact q.elim
theorem guards_make {A : Around} {us : List Value} {kw : List (Str × Value)} (h : A.guards = some []) : (A.under (.builtin "type.__call__" ⟨.ref C :: us, kw⟩)).guards = some [] := by
  simp [Around.under, Code.guards, Code.isGuard, guardIds, pushGuards, h]
/-- C(..): a new instance, then its __init__ -/
theorem make_g (M : Mk X.K C f) (F : FnG X.prog X.w X.K X.mg X.base k f fd ps sp) (hg : X.A.guards = some []) (hr : Room (k + 1) X.A) (tk : Takes X Wx) (I : Inv X pins σ H s) {Q : VK} {us : List Value} {vs : List V}
    (hb : ∀ (s : Shared) (u : Value), X.K.In s.heap → BindsTo s fd ⟨u :: us, []⟩ (ps.zip (u :: us))) (r : Vals vs us)
    (h : ∀ x dx, H x = none → H dx = none → dx ≠ x → sp (.ref x :: vs) (upd (upd H dx (.own x)) x (.ins C dx [])) (fun v H2 => v = .non ∧ Q (.ref x) H2) fun c d H' => Wx c d σ H') :
    wpAny (model X.prog X.w) X.A (call (.ref C) us) (EP X pins σ Q) X.xe s := by
  have n1 : H (s.heap.objs.size + 1) = none := I.hok.fresh (Nat.le_succ _)
  have n2 : H s.heap.objs.size = none := I.hok.fresh (Nat.le_refl _)
  have I2 := Inv.made (C := C) I
  have go := F.run (X.A.under (.builtin "type.__call__" ⟨.ref C :: us, []⟩)) X.stack _ _ ⟨.ref (s.heap.objs.size + 1) :: us, []⟩ (.ref (s.heap.objs.size + 1) :: us) (.ref (s.heap.objs.size + 1) :: vs) _ _ (guards_make hg) (hr.make C us [])
    (I2.env0.make C us []) (hb _ _ I2.kIn) (.cons rfl r) (h _ _ n1 n2 (Nat.ne_of_lt (Nat.lt_succ_self _)))
  refine wpAny_call (make_map (f := f) I.kIn M.makes M.init (beq_iff_eq.mp M.fn) (codeAny_mono go fun res s' hq => ?_))
  have q := after_call tk I2 hq
  cases res with
  | error e => exact q
  | ok fl =>
    cases fl with
    | ret u =>
      obtain ⟨v, H', I3, rv, ev, q3⟩ := q
      cases ev
      exact ⟨rv, V.ref (s.heap.objs.size + 1), H', I3, rfl, q3⟩
    | next => exact q.elim
    | brk => exact q.elim
    | cont => exact q.elim
end

/-- the context of a def's body -/
abbrev bodyX (P : Program) (w : World) (K : PySem.W.Frag) (mg : Str → Option Value) (base : Heap) (N : List Str) (qual : Str) (sc : Scope) (f : Addr) (cdv : Value) (A : Around) (outer : List PySem.Env) (s : Shared) (H : Hp) (E : XK) : Cx :=
  cxOf (L2.CX P w) P w K mg base N qual sc f cdv A outer s H E

/-- a def of the text, by its body -/
theorem fnG_of {P : Program} {w : World} {K : PySem.W.Frag} {mg : Str → Option Value} {base : Heap} {k : Nat} {x qual : Str} {params : Arguments} {body : List Stmt} {sc : Scope} {dvs : List V} {kws : List (Str × V)} {f : Addr} {fd : FuncData}
    {N ps : List Str} {sp : Sp} (F : FunD K x qual params body sc dvs kws f fd) (S : FnScope N ps sc) (len : ∀ vs H Q E, sp vs H Q E → vs.length = ps.length)
    (hbody : ∀ (cdv : Value) (A : Around) (outer : List PySem.Env) (s : Shared) (H : Hp) (vs : List V) (Q : VK) (E : XK), A.guards = some [] → Room k (A.deeper (envOfC qual sc s.heap.objs.size f cdv)) → sp vs H Q E →
      ∃ t, PSs (bodyX P w K mg base N qual sc f cdv A outer s H E) body t ∧ t { nx := fun _ H' => Q .non H', rt := Q } (L2.start N vs) H) : FnG P w K mg base (k + 1) f fd ps sp := by
  obtain ⟨oc, od, dV, kV, doc, pm, an, cdv, ct, osl, rfl, lk, hcd, _, _⟩ := F.ex
  constructor
  · exact len
  intro A outer s H args us vs Q E hgd hr e0 hb rv hsp
  have hl := len _ _ _ _ hsp
  have inK : K.In s.heap := e0.mod.kin.keeps fun b o z => (e0.bs b o z).1
  have lim : s.heap.NoLimit := e0.mod.nolimit.keeps fun b o z => (e0.bs b o z).1
  refine codeAny_call_function hr.depth (inK _ _ lk) rfl S.co S.gen rfl (PySem.W.codeRec_of inK hcd) (hb _ _ _ _ ?_)
  refine wpAny_newFunctionEnv_cells S.kind ?_ ?_
  · rintro ⟨n, v⟩ hm
    have hp := S.par n (List.of_mem_zip hm).1
    exact hp.imp id fun q => ⟨q, PySem.W.cellsFrom_some _ _ _ (.inl q)⟩
  · rintro env rfl s1 hs1
    refine ⟨lim.keeps hs1.toInCall.keep, codeAny_func ?_⟩
    have I := inv_start (CX := L2.CX P w) (E := E) S hr.hd e0 hl rv hs1
    obtain ⟨t, ht, hq⟩ := hbody cdv A outer s H vs Q E hgd (hr.deeper _) hsp
    refine wpAny_mono (ht.run [] s1 _ H _ I hq) ?_ fun e s' z => z
    intro fl s' hs
    cases fl with
    | ret u =>
      obtain ⟨v, σ', H', J, r', q⟩ := hs
      exact ⟨v, H', J.os, J.bare, J.base, J.hok, r', q⟩
    | next =>
      obtain ⟨σ', H', J, q⟩ := hs
      exact ⟨.non, H', J.os, J.bare, J.base, J.hok, rfl, q⟩
    | brk =>
      obtain ⟨_, _, _, q⟩ := hs
      exact q.elim
    | cont =>
      obtain ⟨_, _, _, q⟩ := hs
      exact q.elim

/-- a dict stands where the loaded modules are kept -/
def SysD (h : Heap) : Prop := ∃ o es ep, h.get? sysModules = some o ∧ o.data = .dict es ep
/-- the law's own call: the script is locked, or written; the dict of the loaded modules is locked -/
theorem law_g {P : Program} {w : World} {K : PySem.W.Frag} {mg mb : Str → Option Value} {k : Nat} {fa a : Addr} {fd : FuncData} {x : Str} {sp : Sp} {s1 : Shared} {vs : List Value} {ns : List Int}
    (KX : K.In s1.heap) (hns : s1.heap.Ns mainGlobals mg) (hb : s1.heap.Ns builtinsNs mb) (hbb : ∀ x : Str, x ≠ "__name__" → mb x = bootBuiltins x) (hlim : s1.heap.NoLimit) (hg : s1.gens = #[]) (hsys : K.lookup sysModules = none) (hSD : SysD s1.heap)
    (ha : s1.heap.get? a = some { cls := .type "list", data := .seq vs.toArray }) (hi : IntsAre vs ns) (hl : ns.length ≤ sizeLine) (hr : Room k callerA)
    (F : ∀ base : Heap, K.In base → base.Ns mainGlobals mg → FnG P w K mg base k fa fd [x] sp) (hbind : ∀ (s : Shared) (u : Value), BindsTo s fd ⟨[u], []⟩ [(x, u)])
    (hsp : ∀ H : Hp, (∃ o, H sysModules = some (.frz o (.ext fun _ => True))) → SqL K H a (ns.map V.int) → sp [.ref a] H (fun v _ => v = .bl true) fun _ _ _ => False) :
    codeAny (model P w) callerA (.call (.ref fa) ⟨[.ref a], []⟩) (fun r s' => r = .ok (.ret (.bool true)) ∧ OldK s1.heap s'.heap ∧ s'.os = s1.os ∧ AllBare s'.gens) s1 := by
  have rv := vals_ints hi
  have nL := hi.length
  have nofr : ∀ b : Addr, b ∉ ([] : List Addr) := fun b z => by cases z
  obtain ⟨oS, esS, epS, hS0, hS1⟩ := hSD
  have hsa : a ≠ sysModules := by
    rintro rfl
    rw [ha] at hS0
    obtain rfl := Option.some.inj hS0
    cases hS1
  -- H tracks the script and the modules' dict at most, and keeps them locked
  suffices core : ∀ H : Hp, H sysModules = some (.frz oS (.ext fun _ => True)) → SqL K H a (ns.map V.int) → HOk P w H s1.heap → (∀ b u, H b = some u → (b = a ∨ b = sysModules) ∧ ∃ o u', u = .frz o u') → (∀ b u, H b = some u → K.lookup b = none) →
      codeAny (model P w) callerA (.call (.ref fa) ⟨[.ref a], []⟩) (fun r s' => r = .ok (.ret (.bool true)) ∧ OldK s1.heap s'.heap ∧ s'.os = s1.os ∧ AllBare s'.gens) s1 by
    have lowOk : ∀ H : Hp, ObjOk P w H s1.heap sysModules (.frz oS (.ext fun _ => True)) := fun H => ⟨hS0, trivial, ⟨_, hS0⟩, fun _ _ _ _ => trivial⟩
    cases hk : K.lookup a with
    | some o =>
      have e := KX a o hk
      rw [ha] at e
      obtain rfl := Option.some.inj e
      have only : ∀ b u, upd (fun _ => none) sysModules (HO.frz oS (.ext fun _ => True)) b = some u → b = sysModules ∧ u = .frz oS (.ext fun _ => True) := fun b u z => by
        by_cases q : b = sysModules
        · subst q
          rw [upd_same] at z
          exact ⟨rfl, (Option.some.inj z).symm⟩
        · rw [upd_ne q] at z; cases z
      refine core (upd (fun _ => none) sysModules (.frz oS (.ext fun _ => True))) upd_same (.inr ⟨_, vs.toArray, _, hk, rfl, rfl, rfl, ?_, ?_⟩) (fun b u z => ?_) (fun b u z => ?_) (fun b u z => ?_)
      · rw [List.size_toArray, nL]; exact hl
      · simpa using rv
      · obtain ⟨rfl, rfl⟩ := only b u z
        exact lowOk _
      · obtain ⟨rfl, rfl⟩ := only b u z
        exact ⟨.inr rfl, _, _, rfl⟩
      · obtain ⟨rfl, rfl⟩ := only b u z
        exact hsys
    | none =>
      let o0 : Obj := { cls := .type "list", data := .seq vs.toArray }
      have only : ∀ b u, upd (upd (fun _ => none) sysModules (HO.frz oS (.ext fun _ => True))) a (.frz o0 (.lst (ns.map V.int))) b = some u → (b = sysModules ∧ u = .frz oS (.ext fun _ => True)) ∨ (b = a ∧ u = .frz o0 (.lst (ns.map V.int))) := fun b u z => by
        by_cases q : b = a
        · subst q
          rw [upd_same] at z
          exact .inr ⟨rfl, (Option.some.inj z).symm⟩
        rw [upd_ne q] at z
        by_cases q : b = sysModules
        · subst q
          rw [upd_same] at z
          exact .inl ⟨rfl, (Option.some.inj z).symm⟩
        · rw [upd_ne q] at z; cases z
      refine core (upd (upd (fun _ => none) sysModules (.frz oS (.ext fun _ => True))) a (.frz o0 (.lst (ns.map V.int)))) (by rw [upd_ne hsa.symm, upd_same]) (.inl (.inr ⟨o0, upd_same⟩)) (fun b u z => ?_) (fun b u z => ?_) (fun b u z => ?_)
      · rcases only b u z with ⟨rfl, rfl⟩ | ⟨rfl, rfl⟩
        · exact lowOk _
        · exact ⟨ha, by rw [List.length_map]; exact hl, vs, _, rv, ha⟩
      · rcases only b u z with ⟨rfl, rfl⟩ | ⟨rfl, rfl⟩
        · exact ⟨.inr rfl, _, _, rfl⟩
        · exact ⟨.inl rfl, _, _, rfl⟩
      · rcases only b u z with ⟨rfl, rfl⟩ | ⟨rfl, rfl⟩
        · exact hsys
        · exact hk
  intro H hL hS hok only off
  have nd : ∀ {b : Addr} {m : Str → Option Value}, b ≠ sysModules → s1.heap.Ns b m → H b = none := fun {b m} nb e => by
    obtain ⟨o, es, ep, e, d, _⟩ := e
    cases q : H b with
    | none => rfl
    | some u =>
      obtain ⟨rfl | rfl, _⟩ := only b u q
      · rw [ha] at e
        obtain rfl := Option.some.inj e
        cases d
      · exact absurd rfl nb
  have ns' : ∀ {b : Addr} {m : Str → Option Value}, b ≠ sysModules → s1.heap.Ns b m → (hidT s1.heap H).Ns b m := fun {b m} nb h => by
    have h0 := nd nb h
    obtain ⟨o, es, ep, e, r⟩ := h
    exact ⟨o, es, ep, hidT_get e h0, r⟩
  have inK : K.In (hidT s1.heap H) := fun b o e => hidT_get (KX b o e) (by
    cases q : H b with
    | none => rfl
    | some u => rw [off b u q] at e; cases e)
  obtain ⟨mc, l1, l2⟩ := hlim
  have md : Mod K mg (hidT s1.heap H) := ⟨inK, ns' (by decide) hns, ⟨mb, ns' (by decide) hb, hbb⟩, mc, ns' (by decide) l1, l2⟩
  have e0 : Env0 P w K mg (hidT s1.heap H) callerA [] s1 H := ⟨rfl, md, fun b o e => of_hidT e, Nat.le_of_eq (hidT_size _ _), trivial, fun b z => absurd z (nofr b), hok, .of_eq hg⟩
  have run := (F _ inK (ns' (by decide) hns)).run callerA [] s1 H ⟨[.ref a], []⟩ [.ref a] [.ref a] _ _ rfl hr e0 (hbind s1 (.ref a)) (.cons rfl .nil) (hsp H ⟨_, hL⟩ hS)
  refine codeAny_mono run fun r s' h => ?_
  match r, h with
  | .error e, h =>
    obtain ⟨_, _, _, _, _, _, _, _, _, _, _, _, z⟩ := h
    exact z.elim
  | .ok .next, h => exact h.elim
  | .ok .brk, h => exact h.elim
  | .ok .cont, h => exact h.elim
  | .ok (.ret u), h =>
    obtain ⟨v, H', os, bare, un, hok', r', q⟩ := h
    cases (show v = .bl true from q)
    cases (show u = Value.bool true from r')
    refine ⟨rfl, OldK.of_keep fun b o e => ?_, os, bare⟩
    cases q : H b with
    | none => exact un.keep b o e q (nofr b) (nofr b)
    | some u =>
      obtain ⟨_, ob, xs, rfl⟩ := only b u q
      have b1 := (hok b _ q).1
      have b2 := (hok' b _ (un.frzs b ob _ q)).1
      rw [e] at b1
      obtain rfl := Option.some.inj b1
      exact b2
/-- the law's row, from facts that the head left -/
theorem walk_g {l : PySem.W.OpenLaw} {n k : Nat} {q : Program} {loose : List Str} {XP : (Str → Option Value) → Heap → Prop} {YP : World → Heap → Prop} {d : DefRec} {x : Str}
    (hn : l.most = some n) (hn2 : n ≤ sizeLine) (hdf : d.params.defaults = []) (hr : Room k callerA)
    (F : ∀ (w : World) (mg : Str → Option Value) (fa : Addr) (h : Heap), YP w h → h.Ns mainGlobals mg → mg d.name = some (.ref fa) →
      ∃ (K : PySem.W.Frag) (fd : FuncData) (sp : Sp), K.In h ∧ K.lookup sysModules = none ∧ SysD h ∧ (∀ (s : Shared) (u : Value), BindsTo s fd ⟨[u], []⟩ [(x, u)]) ∧
        (∀ (H : Hp) (a : Addr) (ns : List Int), ns.length ≤ n → (∃ o, H sysModules = some (.frz o (.ext fun _ => True))) → SqL K H a (ns.map V.int) → sp [.ref a] H (fun v _ => v = .bl true) fun _ _ _ => False) ∧
        ∀ base : Heap, K.In base → base.Ns mainGlobals mg → FnG l.prog w K mg base k fa fd [x] sp) :
    PySem.W.WalkO q loose XP YP l.row.toRowW d [] (fun f vs => PySem.call f vs) := by
  refine Att.attach_call hn hdf fun w s0 s1 mg mb fa o pm cd doc a vs ns G Y ho hd hcd hmg hobj hints hlen hg => ?_
  obtain ⟨K, fd, sp, KX, hs1, hs2, hb, hsp, hF⟩ := F w mg fa _ Y G.T.g hmg
  exact law_g KX G.T.g G.T.b G.T.builtins G.T.nolimit hg hs1 hs2 hobj hints (Nat.le_trans hlen hn2) hr hF hb fun H hL hS => hsp H a ns hlen hL hS
end DL
/-! Operations on deep data. -/
namespace DL
open PySem PySem.Spec PyProof.Rows L2

/-! ### plain data -/
def keyP : Key → PyData
  | .inl i => .int i
  | .inr s => .str s
mutual
def toP : D → Option PyData
  | .non => some .none
  | .bl b => some (.bool b)
  | .int i => some (.int i)
  | .str s => some (.str s)
  | .lst ds => (toPL ds).map .list
  | .tup ds => (toPL ds).map .tuple
  | .dic kvs => (toPK kvs).map .dict
  | _ => none
def toPL : List D → Option (List PyData)
  | [] => some []
  | d :: ds => (toP d).bind fun p => (toPL ds).map fun ps => p :: ps
def toPK : List (Key × D) → Option (List (PyData × PyData))
  | [] => some []
  | (k, d) :: r => (toP d).bind fun p => (toPK r).map fun ps => (keyP k, p) :: ps
end
/-- .. of a changing list or dict, too -/
def toPs (st : Sto) : D → Option PyData
  | .loc a => match st a with
    | some (.lst ds) => (toPL ds).map .list
    | some (.dK kvs) => (toPK kvs).map .dict
    | _ => none
  | d => toP d
/-- the items of a list, frozen or not -/
def asL (st : Sto) : D → Option (List D)
  | .lst xs => some xs
  | .loc a => match st a with
    | some (.lst xs) => some xs
    | _ => none
  | _ => none
/-- .. to be read alone: of the script, too -/
def asR (st : Sto) : D → Option (List D)
  | .rol xs => some xs
  | d => asL st d

section
variable {X : Cx} {W : Wd} {B G : Hp} {st : Sto} {H : Hp} {pins : List (Addr × Obj)} {σ : L2.St} {s : Shared} {v : V} {d : D}
theorem Rp.asL (R : Rel W B G st H) (r : Rp W G v d) {xs : List D} (h : asL st d = some xs) : ∃ a vs, v = .ref a ∧ H a = some (.lst vs) ∧ RpL W G vs xs ∧ xs.length ≤ sizeLine := by
  unfold DL.asL at h
  split at h
  · cases h
    cases r with
    | lst e r z => exact ⟨_, _, rfl, R.sub _ _ e, r, z⟩
  · rename_i a
    cases r
    cases e : st a with
    | none => rw [e] at h; cases h
    | some o =>
      rw [e] at h
      obtain ⟨ho, x, y⟩ := R.obj _ _ e
      cases y with
      | lst y z => cases h; exact ⟨_, _, rfl, x, y, z⟩
      | _ => cases h
  · cases h
theorem Rp.asR (R : Rel W B G st H) (r : Rp W G v d) {xs : List D} (h : asR st d = some xs) : ∃ a vs, v = .ref a ∧ SqL W.K H a vs ∧ RpL W G vs xs ∧ xs.length ≤ sizeLine := by
  unfold DL.asR at h
  split at h
  · cases h
    cases r with
    | rol e r z => exact ⟨_, _, rfl, Le.sqL R.sub e, r, z⟩
  · obtain ⟨a, vs, e, x, y⟩ := r.asL R h
    exact ⟨a, vs, e, .inl (.inl x), y⟩

/-- entries of a dict, read -/
theorem pairs_reads {P : Program} {w : World} {h : Heap} : ∀ {es : List DictEntry} {vs : List (Key × Value)}, Pairs (mixKind P w) es vs → ReadsAll h (es.map (·.key)) (vs.map fun q => keyP q.1) []
  | _, _, .nil => .nil
  | _, _, .cons (e := e) (kv := kv) k _ r => by
    have q := pairs_reads (h := h) r
    have k' : keyIs kv.1 e.key = true := k
    rcases keyIs_shape k' with ⟨i, t, e1, e2⟩ | ⟨i, t, e1, e2⟩
    · simp only [List.map_cons, e1, e2]
      exact ReadsAll.cons (as := []) (Reads.int i t) q
    · simp only [List.map_cons, e1, e2]
      exact ReadsAll.cons (as := []) (Reads.str i t) q
theorem pairs_vals {P : Program} {w : World} : ∀ {es : List DictEntry} {vs : List (Key × Value)}, Pairs (mixKind P w) es vs → es.map (·.val) = vs.map (·.2)
  | _, _, .nil => rfl
  | _, _, .cons _ e r => by simp only [List.map_cons, e, pairs_vals r]
theorem kv_vals : ∀ {kvs : List (Key × V)} {vs : List (Key × Value)}, KV kvs vs → kvs.map (·.1) = vs.map (·.1) ∧ Vals (kvs.map (·.2)) (vs.map (·.2))
  | _, _, .nil => ⟨rfl, .nil⟩
  | _, _, .cons h r => by
    obtain ⟨a, b⟩ := kv_vals r
    exact ⟨by simp only [List.map_cons, a, h.1], .cons h.2 b⟩
theorem toPK_keys : ∀ {kvs : List (Key × D)} {ps : List (PyData × PyData)}, toPK kvs = some ps → ps.map (·.1) = kvs.map (fun q => keyP q.1) ∧ toPL (kvs.map (·.2)) = some (ps.map (·.2))
  | [], ps, h => by simp only [toPK, Option.some.injEq] at h; subst h; exact ⟨rfl, by simp [toPL]⟩
  | (k, d) :: r, ps, h => by
    simp only [toPK] at h
    cases e : toP d with
    | none => rw [e] at h; cases h
    | some p =>
      rw [e] at h
      simp only [Option.bind_some] at h
      cases e2 : toPK r with
      | none => rw [e2] at h; cases h
      | some qs =>
        rw [e2] at h
        simp only [Option.map_some, Option.some.injEq] at h
        subst h
        obtain ⟨a, b⟩ := toPK_keys e2
        exact ⟨by simp only [List.map_cons, a], by simp [toPL, e, b]⟩
theorem readsAll_map {h : Heap} {ks : List Value} {xs ys : List PyData} {as : List Addr} (e : xs = ys) (r : ReadsAll h ks xs as) : ReadsAll h ks ys as := e ▸ r
/-- a dict of the abstract heap, read: its values by their own reading -/
theorem dict_reads (I : L2.Inv X pins σ H s) {a : Addr} {kvs : List (Key × V)} {ds : List (Key × D)} {ps : List (PyData × PyData)} (hd : Rd H a (.dK kvs)) (hk : kvs.map (·.1) = ds.map (·.1)) (hp : toPK ds = some ps)
    (rec : ∀ us, Vals (kvs.map (·.2)) us → ∃ as, ReadsAll s.heap us (ps.map (·.2)) as ∧ sysModules ∉ as) : ∃ as, Reads s.heap (.ref a) (.dict ps) as ∧ sysModules ∉ as := by
  obtain ⟨z, ns, vs, rel, o, es, ep, ho, ⟨hc, hdi, hsl⟩, hdata, _, hpairs, _⟩ := hd.ok I.hok
  obtain ⟨k1, k2⟩ := kv_vals rel
  obtain ⟨p1, p2⟩ := toPK_keys hp
  obtain ⟨bs, rb, nb⟩ := rec _ k2
  have rk : ReadsAll s.heap (es.toList.map (·.key)) (ps.map (·.1)) [] := readsAll_map (by
    have e := congrArg (List.map keyP) (k1.symm.trans hk)
    simp only [List.map_map] at e
    rw [p1]; exact e) (pairs_reads hpairs)
  refine ⟨a :: [] ++ bs, Reads.dict ho hc hdata rk ?_, ?_⟩
  · rw [pairs_vals hpairs]
    exact rb
  · intro hm
    rcases List.mem_cons.mp hm with e | hm
    · rw [← e] at ns
      simp at ns
    · exact nb hm
mutual
theorem Rp.reads (I : L2.Inv X pins σ H s) (R : Rel W B G st H) (hK : W.K = X.K) : ∀ (d : D) (v : V) (u : Value) (p : PyData), toP d = some p → Rp W G v d → RelV v u → ∃ as, Reads s.heap u p as ∧ sysModules ∉ as
  | .non, v, u, p, hp, r, ru => by
    simp only [toP, Option.some.injEq] at hp; subst hp
    cases r; cases ru
    exact ⟨_, .none, by simp⟩
  | .bl b, v, u, p, hp, r, ru => by
    simp only [toP, Option.some.injEq] at hp; subst hp
    cases r; cases ru
    exact ⟨_, .bool b, by simp⟩
  | .int i, v, u, p, hp, r, ru => by
    simp only [toP, Option.some.injEq] at hp; subst hp
    cases r; obtain ⟨t, rfl⟩ := ru
    exact ⟨_, .int i t, by simp⟩
  | .str i, v, u, p, hp, r, ru => by
    simp only [toP, Option.some.injEq] at hp; subst hp
    cases r; obtain ⟨t, rfl⟩ := ru
    exact ⟨_, .str i t, by simp⟩
  | .lst ds, v, u, p, hp, r, ru => by
    simp only [toP] at hp
    cases e : toPL ds with
    | none => rw [e] at hp; cases hp
    | some ps =>
      rw [e] at hp
      simp only [Option.map_some, Option.some.injEq] at hp; subst hp
      cases r with
      | lst h r zz =>
        cases ru
        have hH := R.sub _ _ h
        obtain ⟨z, its, n, rv, eo⟩ := (Rd.of hH).ok I.hok
        obtain ⟨as, q1, q2⟩ := Rp.readsL I R hK ds _ _ ps e r rv
        exact ⟨_, .list eo rfl rfl q1, fun hm => (List.mem_cons.mp hm).elim (fun z => R.not_low hH (fun o => by intro q; cases q) z.symm) q2⟩
  | .tup ds, v, u, p, hp, r, ru => by
    simp only [toP] at hp
    cases e : toPL ds with
    | none => rw [e] at hp; cases hp
    | some ps =>
      rw [e] at hp
      simp only [Option.map_some, Option.some.injEq] at hp; subst hp
      cases r with
      | tup h r zz =>
        cases ru
        obtain ⟨its, rv, ⟨o, ho, hc, n, hd⟩, _⟩ := I.tuple (hK ▸ Le.sqT R.sub h)
        obtain ⟨as, q1, q2⟩ := Rp.readsL I R hK ds _ _ ps e r rv
        exact ⟨_, .tuple ho hc hd q1, q2⟩
  | .dic ds, v, u, p, hp, r, ru => by
    simp only [toP] at hp
    cases e : toPK ds with
    | none => rw [e] at hp; cases hp
    | some ps =>
      rw [e] at hp
      simp only [Option.map_some, Option.some.injEq] at hp; subst hp
      cases r with
      | dic h k r =>
        cases ru
        exact dict_reads I (Le.rd R.sub h) k e fun us ru => Rp.readsK I R hK ds _ us ps e r ru
  | .ins _ _, _, _, _, hp, _, _ => by simp [toP] at hp
  | .rol _, _, _, _, hp, _, _ => by simp [toP] at hp
  | .glo _, _, _, _, hp, _, _ => by simp [toP] at hp
  | .loc _, _, _, _, hp, _, _ => by simp [toP] at hp
  | .exn _ _, _, _, _, hp, _, _ => by simp [toP] at hp
  | .ty _, _, _, _, hp, _, _ => by simp [toP] at hp
theorem Rp.readsL (I : L2.Inv X pins σ H s) (R : Rel W B G st H) (hK : W.K = X.K) : ∀ (ds : List D) (vs : List V) (us : List Value) (ps : List PyData), toPL ds = some ps → RpL W G vs ds → Vals vs us → ∃ as, ReadsAll s.heap us ps as ∧ sysModules ∉ as
  | [], _, _, ps, hp, r, ru => by
    simp only [toPL, Option.some.injEq] at hp; subst hp
    cases r; cases ru
    exact ⟨_, .nil, by simp⟩
  | d :: ds, _, _, ps, hp, r, ru => by
    simp only [toPL] at hp
    cases e : toP d with
    | none => rw [e] at hp; cases hp
    | some p =>
      rw [e] at hp
      simp only [Option.bind_some] at hp
      cases e2 : toPL ds with
      | none => rw [e2] at hp; cases hp
      | some qs =>
        rw [e2] at hp
        simp only [Option.map_some, Option.some.injEq] at hp
        subst hp
        cases r with
        | cons h r =>
          cases ru with
          | cons a b =>
            obtain ⟨as, x1, x2⟩ := Rp.reads I R hK d _ _ p e h a
            obtain ⟨bs, y1, y2⟩ := Rp.readsL I R hK ds _ _ qs e2 r b
            exact ⟨_, .cons x1 y1, fun hm => (List.mem_append.mp hm).elim x2 y2⟩
theorem Rp.readsK (I : L2.Inv X pins σ H s) (R : Rel W B G st H) (hK : W.K = X.K) : ∀ (ds : List (Key × D)) (vs : List V) (us : List Value) (ps : List (PyData × PyData)), toPK ds = some ps → RpL W G vs (ds.map (·.2)) → Vals vs us → ∃ as, ReadsAll s.heap us (ps.map (·.2)) as ∧ sysModules ∉ as
  | [], _, _, ps, hp, r, ru => by
    simp only [toPK, Option.some.injEq] at hp; subst hp
    cases r; cases ru
    exact ⟨_, .nil, by simp⟩
  | (k, d) :: ds, _, _, ps, hp, r, ru => by
    simp only [toPK] at hp
    cases e : toP d with
    | none => rw [e] at hp; cases hp
    | some p =>
      rw [e] at hp
      simp only [Option.bind_some] at hp
      cases e2 : toPK ds with
      | none => rw [e2] at hp; cases hp
      | some qs =>
        rw [e2] at hp
        simp only [Option.map_some, Option.some.injEq] at hp
        subst hp
        cases r with
        | cons h r =>
          cases ru with
          | cons a b =>
            obtain ⟨as, x1, x2⟩ := Rp.reads I R hK d _ _ p e h a
            obtain ⟨bs, y1, y2⟩ := Rp.readsK I R hK ds _ _ qs e2 r b
            exact ⟨_, .cons x1 y1, fun hm => (List.mem_append.mp hm).elim x2 y2⟩
end
theorem Rp.readsS (I : L2.Inv X pins σ H s) (R : Rel W B G st H) (hK : W.K = X.K) {u : Value} {p : PyData} (hp : toPs st d = some p) (r : Rp W G v d) (ru : RelV v u) : ∃ as, Reads s.heap u p as ∧ sysModules ∉ as := by
  unfold toPs at hp
  split at hp
  · rename_i a
    cases r
    cases ru
    cases e : st a with
    | none => rw [e] at hp; cases hp
    | some o =>
      obtain ⟨ho, x, y⟩ := R.obj _ _ e
      rw [e] at hp
      cases y with
      | lst y zz =>
        rename_i vs ds
        have hp : (toPL ds).map .list = some p := hp
        cases e2 : toPL ds with
        | none => rw [e2] at hp; cases hp
        | some ps =>
          rw [e2] at hp
          simp only [Option.map_some, Option.some.injEq] at hp; subst hp
          obtain ⟨z, its, n, rv, eo⟩ := (Rd.of x).ok I.hok
          obtain ⟨as, q1, q2⟩ := Rp.readsL I R hK ds _ _ ps e2 y rv
          exact ⟨_, .list eo rfl rfl q1, fun hm => (List.mem_cons.mp hm).elim (fun z => R.not_low x (fun o => by intro q; cases q) z.symm) q2⟩
      | dK y =>
        rename_i kvs ds
        have hp : (toPK ds).map .dict = some p := hp
        cases e2 : toPK ds with
        | none => rw [e2] at hp; cases hp
        | some ps =>
          rw [e2] at hp
          simp only [Option.map_some, Option.some.injEq] at hp; subst hp
          exact dict_reads I (.inl x) y.1 e2 fun us ru => Rp.readsK I R hK ds _ us ps e2 y.2 ru
      | _ => cases hp
  · exact Rp.reads I R hK _ _ _ _ hp r ru
end
end DL
/-! Operators on deep data. -/
namespace DL
open PySem PySem.Spec PyProof.Rows L2

abbrev DK := D → Sto → Prop
def Post (W : Wd) (B G : Hp) (Q : VK) : DK := fun d st => ∀ v G' H', Le G G' → Rel W B G' st H' → Rp W G' v d → Q v H'
theorem Post.le {W : Wd} {B G G1 : Hp} {Q : VK} {d : D} {st : Sto} (h : Post W B G Q d st) (e : Le G G1) : Post W B G1 Q d st := fun v G' H' a b c => h v G' H' (e.trans a) b c
/-- a new list, frozen or in the store -/
def newL (m : Bool) (ds : List D) (st : Sto) (Q : DK) : Prop := match m with
  | true => ∀ p, st p = none → Q (.loc p) (ups st p (.lst ds))
  | false => Q (.lst ds) st
theorem newL_ok {W : Wd} {B G : Hp} {st : Sto} {H : Hp} {m : Bool} {vs : List V} {ds : List D} {Q : VK} (R : Rel W B G st H) (r : RpL W G vs ds) (hz : ds.length ≤ sizeLine) (h : newL m ds st (Post W B G Q)) : ∀ p, H p = none → Q (.ref p) (upd H p (.lst vs)) := by
  intro p hp
  cases m with
  | true => exact h p (R.free hp).2.2 _ G _ (Le.refl G) (R.new hp (.lst r hz)) (.loc p)
  | false =>
    obtain ⟨R', le⟩ := R.frz hp (.lst vs)
    exact h _ _ _ le R' (.lst upd_same (r.mono le) hz)
theorem newT_ok {W : Wd} {B G : Hp} {st : Sto} {H : Hp} {vs : List V} {ds : List D} {Q : VK} (R : Rel W B G st H) (r : RpL W G vs ds) (hz : ds.length ≤ sizeLine) (h : Post W B G Q (.tup ds) st) : ∀ p, H p = none → Q (.ref p) (upd H p (.tup vs)) := by
  intro p hp
  obtain ⟨R', le⟩ := R.frz hp (.tup vs)
  exact h _ _ _ le R' (.tup (.inl (.inl upd_same)) (r.mono le) hz)

/-! ### comparisons -/
def eqP (st : Sto) (x y : D) (Q : Bool → Prop) : Prop := match x, y with
  | .int i, .int j => Q (decide (i = j))
  | .str a, .str b => Q (decide (a = b))
  | .bl a, .bl b => Q (decide (a = b))
  | x, y => ∃ p q, toPs st x = some p ∧ toPs st y = some q ∧ SeqAt.shaped p = true ∧ SeqAt.shaped q = true ∧ Q (PyData.eqv p q)
def isNonD : D → Bool
  | .non => true
  | _ => false
def isBlD (b : Bool) : D → Bool
  | .bl c => c == b
  | _ => false
/-- x is y, y None or a truth -/
def isP (st : Sto) (x y : D) (Q : Bool → Prop) : Prop := match y with
  | .non => Q (isNonD x)
  | .bl b => Q (isBlD b x)
  | _ => False
def strIn (a z : Str) : Bool := if a.cps.toList.length = 1 then decide (a.cps.toList.headD 0 ∈ z.cps.toList) else !(Builtin.Str.occurrences z a 0 z.length 1).isEmpty
def inP (st : Sto) (x y : D) (Q : Bool → Prop) : Prop := match y with
  | .str z => match x with
    | .str a => Q (strIn a z)
    | _ => False
  | .tup ds => ∃ p ps, toPs st x = some p ∧ toPL ds = some ps ∧ SeqAt.shaped p = true ∧ SeqAt.shaped (.tuple ps) = true ∧ Q (ps.any fun z => PyData.eqv z p)
  | y => ∃ p ps, toPs st x = some p ∧ toPs st y = some (.list ps) ∧ SeqAt.shaped p = true ∧ SeqAt.shaped (.list ps) = true ∧ Q (ps.any fun z => PyData.eqv z p)
def cmpP (op : CmpOp) (x y : D) (st : Sto) (Q : DK) : Prop := match op with
  | .Eq => eqP st x y fun b => Q (.bl b) st
  | .NotEq => eqP st x y fun b => Q (.bl (!b)) st
  | .Is => isP st x y fun b => Q (.bl b) st
  | .IsNot => isP st x y fun b => Q (.bl (!b)) st
  | .In => inP st x y fun b => Q (.bl b) st
  | .NotIn => inP st x y fun b => Q (.bl (!b)) st
  | .Lt => match x, y with
    | .int i, .int j => Q (.bl (decide (i < j))) st
    | _, _ => False
  | .LtE => match x, y with
    | .int i, .int j => Q (.bl (decide (i ≤ j))) st
    | _, _ => False
  | .Gt => match x, y with
    | .int i, .int j => Q (.bl (decide (j < i))) st
    | _, _ => False
  | .GtE => match x, y with
    | .int i, .int j => Q (.bl (decide (j ≤ i))) st
    | _, _ => False

/-- a two-place rule on deep data -/
def rD2 (W : Wd) (f : D → D → Sto → DK → Prop) : R2 := fun x y H Q => ∃ B G st d e, Rel W B G st H ∧ Rp W G x d ∧ Rp W G y e ∧ f d e st (Post W B G Q)
section
variable {X : Cx} {W : Wd}
theorem Post.bl {B G : Hp} {Q : VK} {b : Bool} {st : Sto} {H : Hp} (h : Post W B G Q (.bl b) st) (R : Rel W B G st H) : Q (.bl b) H := h _ G _ (Le.refl G) R (.bl b)
theorem Post.int {B G : Hp} {Q : VK} {i : Int} {st : Sto} {H : Hp} (h : Post W B G Q (.int i) st) (R : Rel W B G st H) : Q (.int i) H := h _ G _ (Le.refl G) R (.int i)
theorem Post.str {B G : Hp} {Q : VK} {i : Str} {st : Sto} {H : Hp} (h : Post W B G Q (.str i) st) (R : Rel W B G st H) : Q (.str i) H := h _ G _ (Le.refl G) R (.str i)
theorem eq_ok (hK : W.K = X.K) (hu : X.A.units + 64 < cLine) {ng : Bool} : OpR X (compareOp (if ng then .NotEq else .Eq)) (rD2 W fun x y st Q => eqP st x y fun b => Q (.bl (if ng then !b else b)) st) := by
  intro pins s σ H x y v u Q I rx ry h
  obtain ⟨B, G, st, d, e, R, hd, he, h⟩ := h
  have gen : (∃ p q, toPs st d = some p ∧ toPs st e = some q ∧ SeqAt.shaped p = true ∧ SeqAt.shaped q = true ∧ Post W B G Q (.bl (if ng then !PyData.eqv p q else PyData.eqv p q)) st) → wpAny (model X.prog X.w) X.A (compareOp (if ng then .NotEq else .Eq) v u) (EP X pins σ Q) X.xe s := by
    rintro ⟨p, q, e1, e2, s1, s2, k⟩
    obtain ⟨as, r1, _⟩ := Rp.readsS I R hK e1 hd rx
    obtain ⟨bs, r2, _⟩ := Rp.readsS I R hK e2 he ry
    cases ng with
    | true => exact SeqAt.compareNe_shaped r1 r2 s1 s2 hu ⟨.bl _, H, I, rfl, Post.bl k R⟩
    | false => exact SeqAt.compareEq_shaped r1 r2 s1 s2 hu ⟨.bl _, H, I, rfl, Post.bl k R⟩
  unfold eqP at h
  split at h
  · cases hd; cases he
    cases ng with
    | true => exact op_ne pins s σ H _ _ v u Q I rx ry ⟨rfl, by have := Post.bl h R; simpa using this⟩
    | false => exact op_eq pins s σ H _ _ v u Q I rx ry ⟨rfl, by have := Post.bl h R; simpa using this⟩
  · cases hd; cases he
    cases ng with
    | true => exact op_ne pins s σ H _ _ v u Q I rx ry ⟨rfl, by have := Post.bl h R; simpa using this⟩
    | false => exact op_eq pins s σ H _ _ v u Q I rx ry ⟨rfl, by have := Post.bl h R; simpa using this⟩
  · cases hd; cases he
    cases ng with
    | true => exact op_ne pins s σ H _ _ v u Q I rx ry ⟨rfl, by have := Post.bl h R; simpa using this⟩
    | false => exact op_eq pins s σ H _ _ v u Q I rx ry ⟨rfl, by have := Post.bl h R; simpa using this⟩
  · exact gen h
theorem plain_non (v : Value) : plainIs v .none = true ∨ ∃ i, v = .builtin i := by cases v <;> first | exact .inl rfl | exact .inr ⟨_, rfl⟩
theorem plain_bl (v : Value) (b : Bool) : plainIs v (.bool b) = true ∨ ∃ i, v = .builtin i := by cases v <;> first | exact .inl rfl | exact .inr ⟨_, rfl⟩
theorem relV_notB {x : V} {v : Value} (r : RelV x v) : ∀ i, v ≠ .builtin i := by
  intro i e
  subst e
  cases x <;> first | (obtain ⟨t, e⟩ := (r : ∃ t, Value.builtin i = _); cases e) | cases r
theorem is_ok {ng : Bool} : OpR X (compareOp (if ng then .IsNot else .Is)) (rD2 W fun x y st Q => isP st x y fun b => Q (.bl (if ng then !b else b)) st) := by
  intro pins s σ H x y v u Q I rx ry h
  obtain ⟨B, G, st, d, e, R, hd, he, h⟩ := h
  have plain : ∀ b : Bool, plainIs v u = true → (b = true ↔ v = u) → Post W B G Q (.bl (if ng then !b else b)) st → wpAny (model X.prog X.w) X.A (compareOp (if ng then .IsNot else .Is) v u) (EP X pins σ Q) X.xe s := by
    intro b hp hb k
    have q := Post.bl k R
    cases b with
    | true =>
      have e := hb.mp rfl
      subst e
      cases ng with
      | true => exact wpAny_isNot_self hp ⟨.bl false, H, I, rfl, by simpa using q⟩
      | false => exact wpAny_is_self hp ⟨.bl true, H, I, rfl, by simpa using q⟩
    | false =>
      have e : v ≠ u := fun z => by have := hb.mpr z; cases this
      cases ng with
      | true => exact wpAny_isNot_other hp e ⟨.bl true, H, I, rfl, by simpa using q⟩
      | false => exact wpAny_is_other hp e ⟨.bl false, H, I, rfl, by simpa using q⟩
  unfold isP at h
  split at h
  · cases he
    cases (show u = Value.none from ry)
    refine plain _ ((plain_non v).resolve_right fun ⟨i, z⟩ => relV_notB rx i z) ?_ h
    cases hd <;> simp only [isNonD] <;> first | (obtain ⟨t, rfl⟩ := rx; simp) | (cases rx; simp)
  · rename_i b
    cases he
    cases (show u = Value.bool b from ry)
    refine plain _ ((plain_bl v b).resolve_right fun ⟨i, z⟩ => relV_notB rx i z) ?_ h
    cases hd <;> simp only [isBlD] <;> first | (obtain ⟨t, rfl⟩ := rx; simp) | (cases rx; simp)
  · exact h.elim
theorem tuple_reads {I : L2.Inv X pins σ H s} {B G : Hp} {st : Sto} (R : Rel W B G st H) (hK : W.K = X.K) {ds : List D} {ps : List PyData} {y : V} {u : Value} (e : toPL ds = some ps) (r : Rp W G y (.tup ds)) (ru : RelV y u) : ∃ as, Reads s.heap u (.tuple ps) as := by
  obtain ⟨as, q, _⟩ := Rp.reads I R hK (.tup ds) y u (.tuple ps) (by simp [toP, e]) r ru
  exact ⟨as, q⟩
theorem strIn_ok {ng : Bool} {a z : Str} {pins : List (Addr × Obj)} {s : Shared} {σ : L2.St} {H : Hp} {v u : Value} {Q : VK} (I : L2.Inv X pins σ H s) (rx : RelV (.str a) v) (ry : RelV (.str z) u) (q : Q (.bl (if ng then !strIn a z else strIn a z)) H) :
    wpAny (model X.prog X.w) X.A (compareOp (if ng then .NotIn else .In) v u) (EP X pins σ Q) X.xe s := by
  unfold strIn at q
  by_cases hl : a.cps.toList.length = 1
  · rw [if_pos hl] at q
    obtain ⟨c, hc⟩ := List.length_eq_one_iff.mp hl
    have ea : a = ⟨#[c]⟩ := by
      obtain ⟨cps⟩ := a
      have : cps = #[c] := by rw [← Array.toList_inj]; exact hc
      rw [this]
    subst ea
    cases ng with
    | true => exact op_notIn_sign pins s σ H _ _ v u Q I rx ry ⟨c, z, rfl, rfl, by simpa using q⟩
    | false => exact op_in_sign pins s σ H _ _ v u Q I rx ry ⟨c, z, rfl, rfl, by simpa using q⟩
  · rw [if_neg hl] at q
    cases ng with
    | true => exact op_notin_str pins s σ H _ _ v u Q I rx ry ⟨a, z, rfl, rfl, by simpa using q⟩
    | false => exact op_in_str pins s σ H _ _ v u Q I rx ry ⟨a, z, rfl, rfl, by simpa using q⟩

theorem in_room {p : PyData} (h : SeqAt.shaped p = true) (hu : X.A.units + 66 < cLine) (n : Nat) : X.A.units + 1 + min n p.depth < cLine := by
  have h1 := SeqAt.depth_of_shaped h
  have h2 : min n p.depth ≤ p.depth := Nat.min_le_right _ _
  omega
theorem in_ok (hK : W.K = X.K) (hu : X.A.units + 66 < cLine) {ng : Bool} : OpR X (compareOp (if ng then .NotIn else .In)) (rD2 W fun x y st Q => inP st x y fun b => Q (.bl (if ng then !b else b)) st) := by
  intro pins s σ H x y v u Q I rx ry h
  obtain ⟨B, G, st, d, e, R, hd, he, h⟩ := h
  unfold inP at h
  split at h
  · split at h
    · cases hd; cases he
      exact strIn_ok I rx ry (by cases ng <;> exact Post.bl h R)
    · exact h.elim
  · obtain ⟨p, ps, e1, e2, s1, s2, k⟩ := h
    obtain ⟨as, r1, _⟩ := Rp.readsS I R hK e1 hd rx
    obtain ⟨bs, r2, _⟩ := Rp.reads I R hK _ y u (.tuple ps) (by simp [toP, e2]) he ry
    have c2 : PyData.canLayAll0 ps = true := SeqAt.canLay_of_shaped s2
    cases ng with
    | true => exact SeqAt.notIn_tuple_reads r2 r1 c2 (SeqAt.canLay_of_shaped s1) (in_room s1 hu _) ⟨.bl _, H, I, rfl, Post.bl k R⟩
    | false => exact SeqAt.in_tuple_reads r2 r1 c2 (SeqAt.canLay_of_shaped s1) (in_room s1 hu _) ⟨.bl _, H, I, rfl, Post.bl k R⟩
  · obtain ⟨p, ps, e1, e2, s1, s2, k⟩ := h
    obtain ⟨as, r1, _⟩ := Rp.readsS I R hK e1 hd rx
    obtain ⟨bs, r2, _⟩ := Rp.readsS I R hK e2 he ry
    have c2 : PyData.canLayAll0 ps = true := SeqAt.canLay_of_shaped s2
    cases ng with
    | true => exact SeqAt.notIn_list_reads r2 r1 c2 (SeqAt.canLay_of_shaped s1) (in_room s1 hu _) ⟨.bl _, H, I, rfl, Post.bl k R⟩
    | false => exact SeqAt.in_list_reads r2 r1 c2 (SeqAt.canLay_of_shaped s1) (in_room s1 hu _) ⟨.bl _, H, I, rfl, Post.bl k R⟩
theorem cmp_ok (hK : W.K = X.K) (hu : X.A.units + 66 < cLine) (op : CmpOp) : OpR X (compareOp op) (rD2 W (cmpP op)) := by
  have u64 : X.A.units + 64 < cLine := by omega
  cases op with
  | Eq => exact eq_ok (ng := false) hK u64
  | NotEq => exact eq_ok (ng := true) hK u64
  | Is => exact is_ok (ng := false)
  | IsNot => exact is_ok (ng := true)
  | In => exact in_ok (ng := false) hK hu
  | NotIn => exact in_ok (ng := true) hK hu
  | Lt =>
    intro pins s σ H x y v u Q I rx ry h
    obtain ⟨B, G, st, d, e, R, hd, he, h⟩ := h
    simp only [cmpP] at h
    split at h
    · cases hd; cases he
      exact op_lt pins s σ H _ _ v u Q I rx ry ⟨_, _, rfl, rfl, Post.bl h R⟩
    · exact h.elim
  | LtE =>
    intro pins s σ H x y v u Q I rx ry h
    obtain ⟨B, G, st, d, e, R, hd, he, h⟩ := h
    simp only [cmpP] at h
    split at h
    · cases hd; cases he
      exact op_le pins s σ H _ _ v u Q I rx ry ⟨_, _, rfl, rfl, Post.bl h R⟩
    · exact h.elim
  | Gt =>
    intro pins s σ H x y v u Q I rx ry h
    obtain ⟨B, G, st, d, e, R, hd, he, h⟩ := h
    simp only [cmpP] at h
    split at h
    · cases hd; cases he
      exact op_gt pins s σ H _ _ v u Q I rx ry ⟨_, _, rfl, rfl, Post.bl h R⟩
    · exact h.elim
  | GtE =>
    intro pins s σ H x y v u Q I rx ry h
    obtain ⟨B, G, st, d, e, R, hd, he, h⟩ := h
    simp only [cmpP] at h
    split at h
    · cases hd; cases he
      exact op_ge pins s σ H _ _ v u Q I rx ry ⟨_, _, rfl, rfl, Post.bl h R⟩
    · exact h.elim
end

/-! ### binary operators -/
def binP (m : Bool) (op : Operator) (x y : D) (st : Sto) (Q : DK) : Prop := match op with
  | .Add => match x, y with
    | .int i, .int j => Q (.int (i + j)) st
    | .str a, .str b => a.length + b.length ≤ sizeLine ∧ Q (.str (a ++ b)) st
    | .tup a, .tup b => a.length + b.length ≤ sizeLine ∧ Q (.tup (a ++ b)) st
    | x, y => ∃ a b, asL st x = some a ∧ asL st y = some b ∧ a.length + b.length ≤ sizeLine ∧ newL m (a ++ b) st Q
  | .Sub => match x, y with
    | .int i, .int j => Q (.int (i - j)) st
    | _, _ => False
  | .Mult => match x, y with
    | .int i, .int j => CMulX i j ∧ Q (.int (i * j)) st
    | x, .int k => ∃ a, asL st x = some a ∧ (-(2 ^ 63) ≤ k ∧ k < 2 ^ 63 ∧ a.length * k.toNat ≤ sizeLine) ∧ newL m (List.replicate k.toNat a).flatten st Q
    | _, _ => False
  | .FloorDiv => match x, y with
    | .int i, .int j => CDivW i j ∧ Q (.int (i / j)) st
    | _, _ => False
  | .Mod => match x, y with
    | .int i, .int j => 0 < j ∧ Q (.int (i % j)) st
    | _, _ => False
  | .Pow => match x, y with
    | .int i, .int j => CPow i j ∧ Q (.int (i ^ j.toNat)) st
    | _, _ => False
  | _ => False
section
variable {X : Cx} {W : Wd} {B G : Hp}
theorem RpL.rep {vs : List V} {ds : List D} (r : RpL W G vs ds) : ∀ n : Nat, RpL W G (List.replicate n vs).flatten (List.replicate n ds).flatten
  | 0 => .nil
  | n + 1 => by
    simp only [List.replicate_succ, List.flatten_cons]
    exact r.append (r.rep n)
theorem bin_ok (hK : W.K = X.K) (m : Bool) (op : Operator) : OpR X (binaryOp op) (rD2 W (binP m op)) := by
  intro pins s σ H x y v u Q I rx ry h
  obtain ⟨B, G, st, d, e, R, hd, he, h⟩ := h
  unfold binP at h
  split at h
  · split at h
    · cases hd; cases he
      exact op_add pins s σ H _ _ v u Q I rx ry ⟨_, _, rfl, rfl, Post.int h R⟩
    · cases hd; cases he
      exact op_add_str pins s σ H _ _ v u Q I rx ry ⟨_, _, rfl, rfl, h.1, Post.str h.2 R⟩
    · rename_i a b
      cases hd with
      | tup ha ra za =>
        cases he with
        | tup hb rb zb =>
          have hl1 := ra.length
          have hl2 := rb.length
          refine op_catA pins s σ H _ _ v u Q I rx ry ⟨_, _, _, _, rfl, rfl, hK ▸ Le.sqT R.sub ha, hK ▸ Le.sqT R.sub hb, by rw [hl1, hl2]; exact h.1, fun z => ?_, fun _ z => ?_, fun _ _ => newT_ok R (ra.append rb) (by rw [List.length_append]; exact h.1) h.2⟩
          · subst z
            cases ra
            exact h.2 _ G _ (Le.refl G) R (by rw [List.nil_append]; exact .tup hb rb zb)
          · subst z
            cases rb
            exact h.2 _ G _ (Le.refl G) R (by rw [List.append_nil]; exact .tup ha ra za)
    · obtain ⟨a, b, e1, e2, hl, k⟩ := h
      obtain ⟨p, vs, rfl, hp, r1, z1⟩ := hd.asL R e1
      obtain ⟨q, us, rfl, hq, r2, z2⟩ := he.asL R e2
      have l1 := r1.length
      have l2 := r2.length
      exact op_cat pins s σ H _ _ v u Q I rx ry ⟨_, _, _, _, rfl, rfl, hp, hq, by rw [l1, l2]; exact hl, newL_ok R (r1.append r2) (by rw [List.length_append]; exact hl) k⟩
  · split at h
    · cases hd; cases he
      exact op_sub pins s σ H _ _ v u Q I rx ry ⟨_, _, rfl, rfl, Post.int h R⟩
    · exact h.elim
  · split at h
    · cases hd; cases he
      exact op_mulX pins s σ H _ _ v u Q I rx ry ⟨_, _, rfl, rfl, h.1, Post.int h.2 R⟩
    · obtain ⟨a, e1, ⟨h1, h2, h3⟩, k⟩ := h
      obtain ⟨p, vs, rfl, hp, r1, z1⟩ := hd.asL R e1
      cases he
      exact op_rep pins s σ H _ _ v u Q I rx ry ⟨_, _, _, rfl, rfl, hp, h1, h2, by rw [r1.length]; exact h3, newL_ok R (r1.rep _) (by simpa [Nat.mul_comm] using h3) k⟩
    · exact h.elim
  · split at h
    · cases hd; cases he
      exact op_fdivW pins s σ H _ _ v u Q I rx ry ⟨_, _, rfl, rfl, h.1, Post.int h.2 R⟩
    · exact h.elim
  · split at h
    · cases hd; cases he
      exact op_mod pins s σ H _ _ v u Q I rx ry ⟨_, _, rfl, rfl, h.1, Post.int h.2 R⟩
    · exact h.elim
  · split at h
    · cases hd; cases he
      exact op_pow pins s σ H _ _ v u Q I rx ry ⟨_, _, rfl, rfl, h.1, Post.int h.2 R⟩
    · exact h.elim
  · exact h.elim

/-! ### truth -/
def truP (d : D) (st : Sto) (Q : Bool → Prop) : Prop := match d with
  | .non => Q false
  | .bl b => Q b
  | .int i => Q (decide (i ≠ 0))
  | .str x => x.length ≤ sizeLine ∧ Q (decide (x.length ≠ 0))
  | .tup ds => Q (!ds.isEmpty)
  | .dic ds => False
  | .loc a => match st a with
    | some (.lst ds) => Q (!ds.isEmpty)
    | some (.dK ds) => Q (!ds.isEmpty)
    | _ => False
  | .lst ds => Q (!ds.isEmpty)
  | _ => False
theorem RpL.empty {vs : List V} {ds : List D} (r : RpL W G vs ds) : vs.isEmpty = ds.isEmpty := by cases r <;> rfl
theorem RpF.empty {κ : Type} {vs : List (κ × V)} {ds : List (κ × D)} (r : RpF W G vs ds) : vs.isEmpty = ds.isEmpty := by
  have := r.length
  cases vs <;> cases ds <;> first | rfl | simp at this
theorem tru_ok' {B : Hp} (hK : W.K = X.K) {st : Sto} {H : Hp} (R : Rel W B G st H) {d : D} {x : V} (hd : Rp W G x d) {Q : Bool → Prop} (h : truP d st Q) : ∃ k, TruV X.K x H k ∧ Q k := by
  unfold truP at h
  split at h
  · cases hd; exact ⟨_, rfl, h⟩
  · cases hd; exact ⟨_, rfl, h⟩
  · cases hd
    rename_i i
    refine ⟨_, rfl, ?_⟩
    have e : (i != 0) = decide (i ≠ 0) := by
      by_cases z : i = 0
      · subst z; rfl
      · simp [z]
    rw [e]; exact h
  · cases hd
    rename_i x
    refine ⟨_, ⟨h.1, rfl⟩, ?_⟩
    have e : ((x.length : Int) != 0) = decide (x.length ≠ 0) := by
      by_cases z : x.length = 0
      · rw [z]; rfl
      · have : (x.length : Int) ≠ 0 := by omega
        simp [z]
    rw [e]; exact h.2
  · cases hd with
    | tup ha ra _ => exact ⟨_, .inr (.inl ⟨_, hK ▸ Le.sqT R.sub ha, rfl⟩), by rw [ra.empty]; exact h⟩
  · exact h.elim
  · rename_i a
    cases hd
    split at h
    · rename_i ds e
      obtain ⟨ho, x1, y1⟩ := R.obj _ _ e
      cases y1 with
      | lst r _ => exact ⟨_, .inl ⟨_, .inl (.inl x1), rfl⟩, by rw [r.empty]; exact h⟩
    · rename_i ds e
      obtain ⟨ho, x1, y1⟩ := R.obj _ _ e
      cases y1 with
      | dK r => exact ⟨_, .inr (.inr ⟨_, x1, rfl⟩), by rw [r.empty]; exact h⟩
    · exact h.elim
  · cases hd with
    | lst ha ra _ => exact ⟨_, .inl ⟨_, .inl (.inl (R.sub _ _ ha)), rfl⟩, by rw [ra.empty]; exact h⟩
  · exact h.elim
end
end DL
/-! The small language, and what must hold so that a piece of it does what is wanted. -/
namespace DL
open PySem PySem.Spec PyProof.Rows L2

inductive BI where
  | len | abs | max | min | divmod | repr | str | int | all | any | sum | list | tuple | isinstance | sorted | bool | dict | set
  deriving DecidableEq
inductive MT where
  | join | append | extend | pop | insert | reverse | clear | remove | index | count | get | items | values | keys | split | update
  deriving DecidableEq
mutual
inductive E where
  | var (i : Nat)
  | cst (d : D)
  | gcon (x : Str) (d : D)
  | gref (x : Str) (g : Nat)
  | bty (x : Str) (n : String)
  | bin (m : Bool) (op : Operator) (a b : E)
  | neg (a : E)
  | not (a : E)
  | and (a b : E)
  | or (a b : E)
  | cmp (op : CmpOp) (a b : E)
  | chain (op op' : CmpOp) (a b c : E)
  | ife (c a b : E)
  | tup (es : Es)
  | lst (m : Bool) (es : Es)
  | dct (m : Bool) (kvs : Es)
  | idx (a b : E)
  | slc (m : Bool) (a lo hi : E)
  | call (x : Str) (g : Nat) (es : Es)
  | callk (x : Str) (g : Nat) (es : Es) (ks : List Str) (kes : Es) (sel : List (Nat ⊕ D))
  | make (x : Str) (c : Nat) (es : Es)
  | bi (m : Bool) (x : Str) (b : BI) (es : Es)
  | bm (m : Bool) (t : MT) (o : E) (es : Es)
  | meth (x : Str) (o : E) (es : Es)
  | attr (x : Str) (o : E)
  | comp (m : Bool) (elt : E) (tg : Pt) (it : It) (ifs : Es) (own : List Nat)
  | frz (e : E)
  | exf (i : Nat) (x : Str)
  | nv
inductive Es where
  | nil
  | cons (e : E) (es : Es)
inductive Pt where
  | nm (i : Nat)
  | tup (ps : Pts)
  | sub (o i : E)
inductive Pts where
  | nil
  | cons (p : Pt) (ps : Pts)
inductive It where
  | ex (e : E)
  | range1 (a : E)
  | range2 (a b : E)
  | enum (e : E)
  | zip (a b : E)
end
def Es.len : Es → Nat
  | .nil => 0
  | .cons _ es => es.len + 1

def Pts.len : Pts → Nat
  | .nil => 0
  | .cons _ ps => ps.len + 1
structure Ci where
  flds : List Str := []
  mts : List (Str × Nat) := []
  prs : List (Str × Nat) := []
  cms : List (Str × Nat) := []
  cns : List (Str × D) := []
  init : Nat := 0
  deriving Inhabited
structure Tb where
  cls : Nat → Ci
  /-- defs and classes by their names -/
  fns : List (Str × Nat)
  /-- constants of the module -/
  cons : List (Str × D)
  /-- names of built-ins that the module leaves alone -/
  blts : List Str
  /-- how many parameters a def has -/
  ar : Nat → Nat
  isFn : Nat → Bool
  isCls : Nat → Bool
  /-- isinstance between types of which one is a class of the text -/
  kit : String ⊕ Nat → String ⊕ Nat → Option Bool
  /-- calls with names or with defaults: the def, how many values stand first, the names, where each parameter comes from -/
  kws : List (Nat × Nat × List Str × List (Nat ⊕ D)) := []
abbrev XC := Xn → Sto → Prop
structure Cw where
  T : Tb
  F : Nat → List D → Sto → DK → XC → Prop
  mono : ∀ {g : Nat} {ds : List D} {st : Sto} {Q Q' : DK} {X X' : XC}, (∀ d s, Q d s → Q' d s) → (∀ x s, X x s → X' x s) → F g ds st Q X → F g ds st Q' X'
  ok : ∀ {g : Nat} {ds : List D} {st : Sto} {Q : DK} {X : XC}, F g ds st Q X → T.isFn g = true ∧ ds.length = T.ar g

/-! ### values -/
def getV (env : En) (i : Nat) : Option D := (env[i]?).join
/-- slots that hold exceptions are not seen -/
def noX (env : En) : En := env.map fun o => match o with
  | some (.exn _ _) => none
  | o => o
def notX : D → Bool
  | .exn _ _ => false
  | _ => true
def insOf (st : Sto) : D → Option (Nat × List (Str × D))
  | .ins c fs => some (c, fs)
  | .loc a => match st a with
    | some (.ins c fs) => some (c, fs)
    | _ => none
  | _ => none
/-- the items of a list or a tuple -/
def asRT (st : Sto) : D → Option (List D)
  | .tup xs => some xs
  | d => asR st d
def lenP (d : D) (st : Sto) (Q : Nat → Prop) : Prop := match d with
  | .str s => s.length ≤ sizeLine ∧ Q s.length
  | d => ∃ xs, asRT st d = some xs ∧ Q xs.length
/-- a value's type: a built-in one, or a class of the text -/
def tyOf (st : Sto) : D → Option (String ⊕ Nat)
  | .non => some (.inl "NoneType")
  | .bl _ => some (.inl "bool")
  | .int _ => some (.inl "int")
  | .str _ => some (.inl "str")
  | .lst _ => some (.inl "list")
  | .tup _ => some (.inl "tuple")
  | .dic _ => some (.inl "dict")
  | .ins c _ => some (.inr c)
  | .loc a => match st a with
    | some (.lst _) => some (.inl "list")
    | some (.dK _) => some (.inl "dict")
    | some (.dT _) => some (.inl "dict")
    | some (.ins c _) => some (.inr c)
    | none => none
  | _ => none
def clsD : D → Option (String ⊕ Nat)
  | .ty n => some (.inl n)
  | .glo c => some (.inr c)
  | _ => none
/-- isinstance by types: built-in ones by the library, others by the table -/
def kitD (T : Tb) : String ⊕ Nat → String ⊕ Nat → Option Bool
  | .inl a, .inl b => kitB a b
  | t, c => T.kit t c
def kitAnyT (T : Tb) (t : String ⊕ Nat) : List (String ⊕ Nat) → Option Bool
  | [] => some false
  | c :: r => match kitD T t c with
    | some true => some true
    | some false => kitAnyT T t r
    | none => none
def clsL : List D → Option (List (String ⊕ Nat))
  | [] => some []
  | c :: r => (clsD c).bind fun t => (clsL r).map (t :: ·)
def kitAnyD (T : Tb) (t : String ⊕ Nat) (cs : List D) : Option Bool := (clsL cs).bind (kitAnyT T t)
def okT (T : Tb) : String ⊕ Nat → Bool
  | .inl _ => true
  | .inr c => T.isCls c
def isiD (T : Tb) (st : Sto) (d c : D) : Option Bool := match c with
  | .tup cs => (tyOf st d).bind fun t => if okT T t then kitAnyD T t cs else none
  | c => (tyOf st d).bind fun t => if okT T t then (clsD c).bind (kitD T t) else none
def biP (T : Tb) (m : Bool) (b : BI) (ds : List D) (st : Sto) (Q : DK) : Prop := match b, ds with
  | .len, [d] => lenP d st fun n => Q (.int n) st
  | .abs, [.int i] => Q (.int (if i < 0 then -i else i)) st
  | .max, [.int i, .int j] => Q (.int (if j > i then j else i)) st
  | .min, [.int i, .int j] => Q (.int (if j < i then j else i)) st
  | .divmod, [.int i, .int j] => CDivP i j ∧ Q (.tup [.int (i / j), .int (i % j)]) st
  | .repr, [d] => ∃ p, toPs st d = some p ∧ p.showable = true ∧ p.shown.length ≤ sizeLine ∧ p.depth ≤ 64 ∧ Q (.str p.shown) st
  | .str, [.int i] => i.natAbs.log2 < 1920 ∧ Q (.str (toString i)) st
  | .all, [d] => ∃ bs : List Bool, asR st d = some (bs.map D.bl) ∧ Q (.bl (bs.all id)) st
  | .any, [d] => ∃ bs : List Bool, asR st d = some (bs.map D.bl) ∧ Q (.bl (bs.any id)) st
  | .sum, [d] => ∃ ns : List Int, asR st d = some (ns.map D.int) ∧ Q (.int ns.sum) st
  | .list, [d] => ∃ xs : List D, asRT st d = some xs ∧ newL m xs st Q
  | .isinstance, [d, c] => match isiD T st d c with
    | some b => Q (.bl b) st
    | none => False
  | _, _ => False
def mtP (m : Bool) (t : MT) (o : D) (ds : List D) (st : Sto) (Q : DK) : Prop := match t, o, ds with
  | .join, .str s, [d] => ∃ ys : List Str, asRT st d = some (ys.map D.str) ∧ (ys.map (·.length)).sum + ys.length * s.length ≤ 16777216 ∧ Q (.str (Txt.join s ys)) st
  | .append, .loc a, [d] => match st a with
    | some (.lst xs) => xs.length < sizeLine ∧ Q .non (ups st a (.lst (xs ++ [d])))
    | _ => False
  | _, _, _ => False
/-- the receiver is of the method's type -/
def mtyB (t : MT) (o : D) (st : Sto) : Bool := match t with
  | .join => (match o with
    | .str _ => true
    | _ => false)
  | .split => (match o with
    | .str _ => true
    | _ => false)
  | .get => false
  | .items => false
  | .values => false
  | .keys => false
  | .update => false
  | _ => (asR st o).isSome
def idxP (o i : D) (st : Sto) (Q : DK) : Prop := match i with
  | .int k => match o with
    | .str z => z.length ≤ sizeLine ∧ (match atI z.cps.toList k with
      | some c => Q (.str ⟨#[c]⟩) st
      | none => False)
    | o => ∃ xs, asRT st o = some xs ∧ (match atI xs k with
      | some d => Q d st
      | none => False)
  | _ => False
def setP (o i d : D) (st : Sto) (K : Sto → Prop) : Prop := match o, i with
  | .loc a, .int k => match st a with
    | some (.lst xs) => (match ixN xs.length k with
      | some j => K (ups st a (.lst (xs.set j d)))
      | none => False)
    | _ => False
  | _, _ => False
def prtP (d : D) (K : Option Int → Prop) : Prop := match d with
  | .non => K none
  | .int i => K (some i)
  | _ => False
def cutL {α : Type} (xs : List α) (lo hi : Option Int) : List α := (xs.drop (HT.sIx xs.length 0 lo)).take (HT.sIx xs.length xs.length hi - HT.sIx xs.length 0 lo)
def slcP (m : Bool) (o : D) (lo hi : Option Int) (st : Sto) (Q : DK) : Prop := match o with
  | .str z => z.length ≤ sizeLine ∧ Q (.str (cutS z lo hi)) st
  | .tup _ => False
  | o => ∃ xs, asR st o = some xs ∧ newL m (cutL xs lo hi) st Q
def attrP (C : Cw) (x : Str) (d : D) (st : Sto) (Q : DK) : Prop := match insOf st d with
  | some (c, fs) => C.T.isCls c = true ∧ match (C.T.cls c).prs.lookup x with
    | some g => C.F g [d] st Q fun _ _ => False
    | none => match (C.T.cls c).cns.lookup x with
      | some e => fs.lookup x = none ∧ Q e st
      | none => x ∈ (C.T.cls c).flds ∧ (match fs.lookup x with
        | some e => Q e st
        | none => False)
  | none => match d with
    | .glo c => C.T.isCls c = true ∧ (match (C.T.cls c).cns.lookup x with
      | some e => Q e st
      | none => False)
    | _ => False
/-- the def that o.x is, and what is passed ahead of the arguments -/
def methD (T : Tb) (x : Str) (d : D) (st : Sto) (n : Nat) : Option Nat := match insOf st d with
  | some (c, fs) => if T.isCls c = true ∧ (fs.lookup x).isNone = true then (T.cls c).mts.lookup x else none
  | none => match d with
    | .glo c => if T.isCls c = true ∧ n ≠ 0 then (T.cls c).cms.lookup x else none
    | _ => none
def methP (C : Cw) (g : Option Nat) (ds : List D) (st : Sto) (Q : DK) (X : XC) : Prop := match g with
  | some g => C.F g ds st Q X
  | none => False
def makeP (C : Cw) (c : Nat) (ds : List D) (st : Sto) (Q : DK) (X : XC) : Prop :=
  C.T.isCls c = true ∧ ∀ p, st p = none → C.F (C.T.cls c).init (.loc p :: ds) (ups st p (.ins c [])) (fun d st' => isNonD d = true ∧ Q (.loc p) st') X
def frzP (d : D) (st : Sto) (Q : DK) : Prop := match d with
  | .loc a => match st a with
    | some (.lst xs) => Q (.lst xs) (era st a)
    | some (.dK kvs) => Q (.dic kvs) (era st a)
    | some (.ins c fs) => Q (.ins c fs) (era st a)
    | _ => False
  | d => Q d st
/-- what is walked: the items, and what must stand while it is walked -/
def itemsP (d : D) (st : Sto) (K : List D → (Sto → Prop) → Prop) : Prop := match d with
  | .lst xs => K xs fun _ => True
  | .rol xs => K xs fun _ => True
  | .tup xs => K xs fun _ => True
  | .str s => K (s.cps.toList.map fun c => .str ⟨#[c]⟩) fun _ => True
  | .loc a => match st a with
    | some (.lst xs) => K xs fun st' => st' a = some (.lst xs)
    | _ => False
  | _ => False
def foldP {α : Type} (stb : Sto → Prop) (f : D → α → Sto → (α → Sto → Prop) → Prop) : List D → α → Sto → (α → Sto → Prop) → Prop
  | [], a, st, K => stb st ∧ K a st
  | x :: xs, a, st, K => stb st ∧ f x a st fun a' st' => foldP stb f xs a' st' K
def rngD (lo : Int) (n : Nat) : List D := (List.range n).map fun i => .int (lo + (i : Nat))
def enumD (xs : List D) : List D := xs.zipIdx.map fun q => .tup [.int (q.2 : Nat), q.1]
def zipD (xs ys : List D) : List D := (xs.zip ys).map fun q => .tup [q.1, q.2]
def selD (ds ks : List D) : List (Nat ⊕ D) → Option (List D)
  | [] => some []
  | .inl i :: r => match (ds ++ ks)[i]? with
    | some d => (selD ds ks r).map (d :: ·)
    | none => none
  | .inr d :: r => (selD ds ks r).map (d :: ·)

/-- keys and values, one behind another -/
def pairD : List D → Option (List (Key × D))
  | [] => some []
  | .int i :: d :: r => (pairD r).map ((.inl i, d) :: ·)
  | .str s :: d :: r => (pairD r).map ((.inr s, d) :: ·)
  | _ => none
def putKD {κ : Type} [DecidableEq κ] (kvs : List (κ × D)) (k : κ) (d : D) : List (κ × D) :=
  if (kvs.any fun kv => decide (kv.1 = k)) = true then kvs.map (fun kv => if kv.1 = k then (kv.1, d) else kv) else kvs ++ [(k, d)]
def mergeD (kvs more : List (Key × D)) : List (Key × D) := more.foldl (fun acc kv => putKD acc kv.1 kv.2) kvs
def newD (m : Bool) (kvs : List (Key × D)) (st : Sto) (Q : DK) : Prop := match m with
  | true => ∀ p, st p = none → Q (.loc p) (ups st p (.dK kvs))
  | false => Q (.dic kvs) st
mutual
def wpE (C : Cw) : E → En → Sto → DK → XC → Prop
  | .var i, env, st, Q, _ => match getV env i with
    | some d => notX d = true ∧ Q d st
    | none => False
  | .exf i x, env, st, Q, _ => match getV env i with
    | some (.exn _ ds) => (match ds.lookup x with
      | some d => Q d st
      | none => False)
    | _ => False
  | .nv, _, _, _, _ => False
  | .cst d, _, st, Q, _ => Q d st
  | .gcon _ d, _, st, Q, _ => Q d st
  | .gref _ g, _, st, Q, _ => Q (.glo g) st
  | .bty _ n, _, st, Q, _ => Q (.ty n) st
  | .bin m op a b, env, st, Q, X => wpE C a env st (fun x st1 => wpE C b env st1 (fun y st2 => binP m op x y st2 Q) X) X
  | .neg a, env, st, Q, X => wpE C a env st (fun x st1 => match x with
    | .int i => Q (.int (-i)) st1
    | _ => False) X
  | .not a, env, st, Q, X => wpE C a env st (fun x st1 => truP x st1 fun c => Q (.bl (!c)) st1) X
  | .and a b, env, st, Q, X => wpE C a env st (fun x st1 => truP x st1 fun c => if c = true then wpE C b env st1 Q X else Q x st1) X
  | .or a b, env, st, Q, X => wpE C a env st (fun x st1 => truP x st1 fun c => if c = true then Q x st1 else wpE C b env st1 Q X) X
  | .cmp op a b, env, st, Q, X => wpE C a env st (fun x st1 => wpE C b env st1 (fun y st2 => cmpP op x y st2 Q) X) X
  | .chain op op' a b c, env, st, Q, X => wpE C a env st (fun x st1 => wpE C b env st1 (fun y st2 => cmpP op x y st2 fun z st3 => match z with
    | .bl k => if k = true then wpE C c env st3 (fun w st4 => cmpP op' y w st4 Q) X else Q (.bl false) st3
    | _ => False) X) X
  | .ife c a b, env, st, Q, X => wpE C c env st (fun x st1 => truP x st1 fun k => if k = true then wpE C a env st1 Q X else wpE C b env st1 Q X) X
  | .tup es, env, st, Q, X => wpEs C es env st (fun ds st1 => Q (.tup ds) st1) X
  | .lst m es, env, st, Q, X => wpEs C es env st (fun ds st1 => newL m ds st1 Q) X
  | .dct m kvs, env, st, Q, X => wpEs C kvs env st (fun ds st1 => match pairD ds with
    | some kvs => newD m (mergeD [] kvs) st1 Q
    | none => False) X
  | .idx a b, env, st, Q, X => wpE C a env st (fun x st1 => wpE C b env st1 (fun y st2 => idxP x y st2 Q) X) X
  | .slc m a lo hi, env, st, Q, X => wpE C a env st (fun x st1 => wpE C lo env st1 (fun l st2 => prtP l fun l => wpE C hi env st2 (fun h st3 => prtP h fun h => slcP m x l h st3 Q) X) X) X
  | .call _ g es, env, st, Q, X => wpEs C es env st (fun ds st1 => C.F g ds st1 Q X) X
  | .callk _ g es _ kes sel, env, st, Q, X => wpEs C es env st (fun ds st1 => wpEs C kes env st1 (fun ks st2 => match selD ds ks sel with
    | some all => C.F g all st2 Q X
    | none => False) X) X
  | .make _ c es, env, st, Q, X => wpEs C es env st (fun ds st1 => makeP C c ds st1 Q X) X
  | .bi m _ b es, env, st, Q, X => wpEs C es env st (fun ds st1 => biP C.T m b ds st1 Q) X
  | .bm m t o es, env, st, Q, X => wpE C o env st (fun x st1 => mtyB t x st1 = true ∧ wpEs C es env st1 (fun ds st2 => mtP m t x ds st2 Q) X) X
  | .meth x o es, env, st, Q, X => wpE C o env st (fun d st1 => (methD C.T x d st1 es.len).any C.T.isFn = true ∧ wpEs C es env st1 (fun ds st2 => methP C (methD C.T x d st1 es.len) (d :: ds) st2 Q X) X) X
  | .attr x o, env, st, Q, X => wpE C o env st (fun d st1 => attrP C x d st1 Q) X
  | .comp m elt tg it ifs own, env, st, Q, X => wpIt C it env st (fun xs stb st1 => xs.length ≤ sizeLine ∧ foldP stb (fun x acc st2 k =>
      asgP C tg x (noX (wipeD env own)) st2 (fun env' st3 => wpIfs C ifs env' st3 (fun b st4 => if b = true then wpE C elt env' st4 (fun d st5 => k (acc ++ [d]) st5) (fun _ _ => False) else k acc st4)) (fun _ _ _ => False))
      xs [] st1 fun acc st' => newL m acc st' Q) X
  | .frz e, env, st, Q, X => wpE C e env st (fun d st1 => frzP d st1 Q) X
def wpEs (C : Cw) : Es → En → Sto → (List D → Sto → Prop) → XC → Prop
  | .nil, _, st, Q, _ => Q [] st
  | .cons e es, env, st, Q, X => wpE C e env st (fun d st1 => wpEs C es env st1 (fun ds st2 => Q (d :: ds) st2) X) X
/-- the tests of a comprehension: none, or one -/
def wpIfs (C : Cw) : Es → En → Sto → (Bool → Sto → Prop) → Prop
  | .nil, _, st, Q => Q true st
  | .cons e .nil, env, st, Q => wpE C e env st (fun d st1 => truP d st1 fun c => Q c st1) fun _ _ => False
  | .cons _ (.cons _ _), _, _, _ => False
def asgP (C : Cw) : Pt → D → En → Sto → (En → Sto → Prop) → (Xn → En → Sto → Prop) → Prop
  | .nm i, d, env, st, k, _ => k (env.set i (some d)) st
  | .tup ps, d, env, st, k, X => match d with
    | .tup ds => ds.length = ps.len ∧ asgPs C ps ds env st k X
    | _ => False
  | .sub o i, d, env, st, k, X => wpE C o env st (fun od st1 => wpE C i env st1 (fun id st2 => setP od id d st2 fun st3 => k env st3) fun x s => X x env s) fun x s => X x env s
def asgPs (C : Cw) : Pts → List D → En → Sto → (En → Sto → Prop) → (Xn → En → Sto → Prop) → Prop
  | .nil, ds, env, st, k, _ => match ds with
    | [] => k env st
    | _ => False
  | .cons p ps, ds, env, st, k, X => match ds with
    | d :: r => asgP C p d env st (fun env' st' => asgPs C ps r env' st' k X) X
    | [] => False
def wpIt (C : Cw) : It → En → Sto → (List D → (Sto → Prop) → Sto → Prop) → XC → Prop
  | .ex e, env, st, Q, X => wpE C e env st (fun d st1 => itemsP d st1 fun xs stb => Q xs stb st1) X
  | .range1 a, env, st, Q, X => wpE C a env st (fun d st1 => match d with
    | .int n => (-(2 ^ 62) ≤ n ∧ n < 2 ^ 62) ∧ Q (rngD 0 n.toNat) (fun _ => True) st1
    | _ => False) X
  | .range2 a b, env, st, Q, X => wpE C a env st (fun d st1 => wpE C b env st1 (fun e st2 => match d, e with
    | .int i, .int j => (-(2 ^ 62) ≤ i ∧ i < 2 ^ 62 ∧ -(2 ^ 62) ≤ j ∧ j < 2 ^ 62) ∧ Q (rngD i (j - i).toNat) (fun _ => True) st2
    | _, _ => False) X) X
  | .enum e, env, st, Q, X => wpE C e env st (fun d st1 => ∃ xs, asR st1 d = some xs ∧ Q (enumD xs) (fun st' => asR st' d = some xs) st1) X
  | .zip a b, env, st, Q, X => wpE C a env st (fun d st1 => wpE C b env st1 (fun e st2 => ∃ xs ys, asR st2 d = some xs ∧ asR st2 e = some ys ∧ Q (zipD xs ys) (fun st' => asR st' d = some xs ∧ asR st' e = some ys) st2) X) X
end
end DL
/-! What is wanted may be weakened. -/
namespace DL
open PySem PySem.Spec PyProof.Rows L2
section
variable {Q Q' : DK} {X X' : XC} {st : Sto} {d x y o i : D} {ds : List D} {m : Bool}
theorem newL_mono (f : ∀ d s, Q d s → Q' d s) (h : newL m ds st Q) : newL m ds st Q' := by
  cases m with
  | true => exact fun p hp => f _ _ (h p hp)
  | false => exact f _ _ h
theorem newD_mono {kvs : List (Key × D)} (f : ∀ d s, Q d s → Q' d s) (h : newD m kvs st Q) : newD m kvs st Q' := by
  cases m with
  | true => exact fun p hp => f _ _ (h p hp)
  | false => exact f _ _ h
theorem truP_mono {R R' : Bool → Prop} (f : ∀ b, R b → R' b) (h : truP d st R) : truP d st R' := by
  cases d <;> first | exact f _ h | exact ⟨h.1, f _ h.2⟩ | exact h.elim | skip
  rename_i a
  revert h
  unfold truP
  dsimp only
  cases st a with
  | none => exact id
  | some o => cases o <;> first | exact f _ | exact id
theorem eqP_mono {R R' : Bool → Prop} (f : ∀ b, R b → R' b) (h : eqP st x y R) : eqP st x y R' := by
  unfold eqP at h ⊢
  split at h
  · exact f _ h
  · exact f _ h
  · exact f _ h
  · obtain ⟨p, q, a, b, c, d, e⟩ := h
    exact ⟨p, q, a, b, c, d, f _ e⟩
theorem isP_mono {R R' : Bool → Prop} (f : ∀ b, R b → R' b) (h : isP st x y R) : isP st x y R' := by
  cases y <;> first | exact f _ h | exact h.elim
theorem inP_mono {R R' : Bool → Prop} (f : ∀ b, R b → R' b) (h : inP st x y R) : inP st x y R' := by
  cases y <;> first
    | (obtain ⟨p, ps, a, b, c, d, e⟩ := h; exact ⟨p, ps, a, b, c, d, f _ e⟩)
    | (cases x <;> first | exact f _ h | exact h.elim)
theorem cmpP_mono {op : CmpOp} (f : ∀ d s, Q d s → Q' d s) (h : cmpP op x y st Q) : cmpP op x y st Q' := by
  cases op with
  | Eq => exact eqP_mono (fun _ => f _ _) h
  | NotEq => exact eqP_mono (R := fun b => Q (.bl (!b)) st) (fun _ => f _ _) h
  | Is => exact isP_mono (st := st) (fun _ => f _ _) h
  | IsNot => exact isP_mono (st := st) (R := fun b => Q (.bl (!b)) st) (fun _ => f _ _) h
  | In => exact inP_mono (fun _ => f _ _) h
  | NotIn => exact inP_mono (R := fun b => Q (.bl (!b)) st) (fun _ => f _ _) h
  | _ => cases x <;> first | exact h.elim | (cases y <;> first | exact f _ _ h | exact h.elim)
theorem binP_mono {op : Operator} (f : ∀ d s, Q d s → Q' d s) (h : binP m op x y st Q) : binP m op x y st Q' := by
  cases op with
  | Add => cases x <;> cases y <;> first
      | exact f _ _ h
      | exact ⟨h.1, f _ _ h.2⟩
      | (obtain ⟨a, b, e1, e2, e3, k⟩ := h; exact ⟨a, b, e1, e2, e3, newL_mono f k⟩)
  | Mult => cases x <;> cases y <;> first
      | exact ⟨h.1, f _ _ h.2⟩
      | (obtain ⟨a, e1, e2, k⟩ := h; exact ⟨a, e1, e2, newL_mono f k⟩)
      | exact h.elim
  | _ => first | exact h.elim | (cases x <;> first | exact h.elim | (cases y <;> first | exact f _ _ h | exact ⟨h.1, f _ _ h.2⟩ | exact h.elim))
theorem lenP_mono {R R' : Nat → Prop} (f : ∀ b, R b → R' b) (h : lenP d st R) : lenP d st R' := by
  cases d <;> first | exact ⟨h.1, f _ h.2⟩ | (obtain ⟨a, b, c⟩ := h; exact ⟨a, b, f _ c⟩)
theorem biP_mono {T : Tb} {b : BI} (f : ∀ d s, Q d s → Q' d s) (h : biP T m b ds st Q) : biP T m b ds st Q' := by
  unfold biP at h
  split at h
  · exact lenP_mono (fun _ => f _ _) h
  · exact f _ _ h
  · exact f _ _ h
  · exact f _ _ h
  · exact ⟨h.1, f _ _ h.2⟩
  · obtain ⟨p, a, b, c, d, e⟩ := h
    exact ⟨p, a, b, c, d, f _ _ e⟩
  · exact ⟨h.1, f _ _ h.2⟩
  · obtain ⟨p, a, e⟩ := h
    exact ⟨p, a, f _ _ e⟩
  · obtain ⟨p, a, e⟩ := h
    exact ⟨p, a, f _ _ e⟩
  · obtain ⟨p, a, e⟩ := h
    exact ⟨p, a, f _ _ e⟩
  · obtain ⟨p, a, e⟩ := h
    exact ⟨p, a, newL_mono f e⟩
  · revert h
    unfold biP
    dsimp only
    rename_i d c
    cases isiD T st d c with
    | none => exact id
    | some b => exact f _ _
  · exact h.elim
theorem mtP_mono {t : MT} (f : ∀ d s, Q d s → Q' d s) (h : mtP m t o ds st Q) : mtP m t o ds st Q' := by
  unfold mtP at h
  split at h
  · obtain ⟨p, a, b, e⟩ := h
    exact ⟨p, a, b, f _ _ e⟩
  · revert h
    unfold mtP
    dsimp only
    rename_i a d
    cases st a with
    | none => exact id
    | some o => cases o <;> first | exact fun h => ⟨h.1, f _ _ h.2⟩ | exact id
  · exact h.elim
theorem idxP_mono (f : ∀ d s, Q d s → Q' d s) (h : idxP o i st Q) : idxP o i st Q' := by
  cases i <;> first | exact h.elim | skip
  rename_i k
  have at' : ∀ xs : List D, (match atI xs k with
      | some d => Q d st
      | none => False) → (match atI xs k with
      | some d => Q' d st
      | none => False) := fun xs => by
    cases atI xs k with
    | none => exact id
    | some d => exact f _ _
  cases o <;> first
    | (obtain ⟨xs, a, b⟩ := h; exact ⟨xs, a, at' xs b⟩)
    | skip
  rename_i z
  obtain ⟨h1, h⟩ := h
  refine ⟨h1, ?_⟩
  revert h
  cases atI z.cps.toList k with
  | none => exact id
  | some d => exact f _ _
theorem setP_mono {K K' : Sto → Prop} (f : ∀ s, K s → K' s) (h : setP o i d st K) : setP o i d st K' := by
  unfold setP at h
  split at h
  · rename_i a k
    revert h
    unfold setP
    dsimp only
    cases st a with
    | none => exact id
    | some o =>
      cases o <;> first | exact id | skip
      rename_i xs
      dsimp only
      cases ixN xs.length k with
      | none => exact id
      | some j => exact f _
  · exact h.elim
theorem prtP_mono {d : D} {K K' : Option Int → Prop} (f : ∀ o, K o → K' o) (h : prtP d K) : prtP d K' := by
  cases d <;> first | exact f _ h | exact h.elim
theorem slcP_mono {lo hi : Option Int} (f : ∀ d s, Q d s → Q' d s) (h : slcP m o lo hi st Q) : slcP m o lo hi st Q' := by
  cases o <;> first
    | exact h.elim
    | exact ⟨h.1, f _ _ h.2⟩
    | (obtain ⟨p, a, e⟩ := h; exact ⟨p, a, newL_mono f e⟩)
theorem frzP_mono (f : ∀ d s, Q d s → Q' d s) (h : frzP d st Q) : frzP d st Q' := by
  cases d <;> first | exact f _ _ h | skip
  rename_i a
  revert h
  unfold frzP
  dsimp only
  cases st a with
  | none => exact id
  | some o => cases o <;> first | exact f _ _ | exact id
theorem itemsP_mono {K K' : List D → (Sto → Prop) → Prop} (f : ∀ xs s, K xs s → K' xs s) (h : itemsP d st K) : itemsP d st K' := by
  cases d <;> first | exact f _ _ h | exact h.elim | skip
  rename_i a
  revert h
  unfold itemsP
  dsimp only
  cases st a with
  | none => exact id
  | some o => cases o <;> first | exact f _ _ | exact id
theorem foldP_mono {α : Type} {stb : Sto → Prop} {g g' : D → α → Sto → (α → Sto → Prop) → Prop} (hg : ∀ x a s K K', (∀ a s, K a s → K' a s) → g x a s K → g' x a s K') :
    ∀ {xs : List D} {a : α} {st : Sto} {K K' : α → Sto → Prop}, (∀ a s, K a s → K' a s) → foldP stb g xs a st K → foldP stb g' xs a st K'
  | [], _, _, _, _, f, h => ⟨h.1, f _ _ h.2⟩
  | _ :: _, _, _, _, _, f, h => ⟨h.1, hg _ _ _ _ _ (fun _ _ z => foldP_mono hg f z) h.2⟩
variable {C : Cw} {z : Str}
theorem attrP_mono (f : ∀ d s, Q d s → Q' d s) (h : attrP C z d st Q) : attrP C z d st Q' := by
  have look : ∀ o : Option D, (match o with
        | some e => Q e st
        | none => False) → (match o with
        | some e => Q' e st
        | none => False) := fun o => by
    cases o with
    | none => exact id
    | some e => exact f _ _
  revert h
  unfold attrP
  cases insOf st d with
  | some q =>
    obtain ⟨c, fs⟩ := q
    dsimp only
    cases (C.T.cls c).prs.lookup z with
    | some k => exact fun h => ⟨h.1, C.mono f (fun _ _ => id) h.2⟩
    | none =>
      dsimp only
      cases (C.T.cls c).cns.lookup z with
      | some e => exact fun h => ⟨h.1, h.2.1, f _ _ h.2.2⟩
      | none => exact fun h => ⟨h.1, h.2.1, look _ h.2.2⟩
  | none => cases d <;> first | exact id | exact fun h => ⟨h.1, look _ h.2⟩
theorem methP_mono {k : Option Nat} (f : ∀ d s, Q d s → Q' d s) (g : ∀ x s, X x s → X' x s) (h : methP C k ds st Q X) : methP C k ds st Q' X' := by
  cases k with
  | none => exact h
  | some k => exact C.mono f g h
theorem makeP_mono {c : Nat} (f : ∀ d s, Q d s → Q' d s) (g : ∀ x s, X x s → X' x s) (h : makeP C c ds st Q X) : makeP C c ds st Q' X' :=
  ⟨h.1, fun p hp => C.mono (fun _ _ z => ⟨z.1, f _ _ z.2⟩) g (h.2 p hp)⟩
end

mutual
theorem wpE_mono {C : Cw} : ∀ (e : E) {env : En} {st : Sto} {Q Q' : DK} {X X' : XC}, (∀ d s, Q d s → Q' d s) → (∀ x s, X x s → X' x s) → wpE C e env st Q X → wpE C e env st Q' X'
  | .nv, _, _, _, _, _, _, _, _, h => h.elim
  | .var i, env, st, Q, Q', X, X', f, g, h => by
    revert h
    simp only [wpE]
    cases getV env i with
    | none => exact id
    | some d => exact fun h => ⟨h.1, f _ _ h.2⟩
  | .exf i x, env, st, Q, Q', X, X', f, g, h => by
    revert h
    simp only [wpE]
    cases getV env i with
    | none => exact id
    | some d =>
      cases d <;> first | exact id | skip
      rename_i c ds
      dsimp only
      cases ds.lookup x with
      | none => exact id
      | some d => exact f _ _
  | .cst d, env, st, Q, Q', X, X', f, g, h => f _ _ h
  | .gcon _ d, env, st, Q, Q', X, X', f, g, h => f _ _ h
  | .gref _ _, env, st, Q, Q', X, X', f, g, h => f _ _ h
  | .bty _ _, env, st, Q, Q', X, X', f, g, h => f _ _ h
  | .bin m op a b, env, st, Q, Q', X, X', f, g, h => by
    simp only [wpE] at h ⊢
    exact wpE_mono a (fun _ _ h => wpE_mono b (fun _ _ h => binP_mono f h) g h) g h
  | .neg a, env, st, Q, Q', X, X', f, g, h => by
    simp only [wpE] at h ⊢
    exact wpE_mono a (fun d s h => by cases d <;> first | exact f _ _ h | exact h.elim) g h
  | .not a, env, st, Q, Q', X, X', f, g, h => by
    simp only [wpE] at h ⊢
    exact wpE_mono a (fun d s h => truP_mono (fun _ => f _ _) h) g h
  | .and a b, env, st, Q, Q', X, X', f, g, h => by
    simp only [wpE] at h ⊢
    exact wpE_mono a (fun d s h => truP_mono (fun c h => by
      cases c with
      | true => exact wpE_mono b f g h
      | false => exact f _ _ h) h) g h
  | .or a b, env, st, Q, Q', X, X', f, g, h => by
    simp only [wpE] at h ⊢
    exact wpE_mono a (fun d s h => truP_mono (fun c h => by
      cases c with
      | true => exact f _ _ h
      | false => exact wpE_mono b f g h) h) g h
  | .cmp op a b, env, st, Q, Q', X, X', f, g, h => by
    simp only [wpE] at h ⊢
    exact wpE_mono a (fun _ _ h => wpE_mono b (fun _ _ h => cmpP_mono f h) g h) g h
  | .chain op op' a b c, env, st, Q, Q', X, X', f, g, h => by
    simp only [wpE] at h ⊢
    exact wpE_mono a (fun _ _ h => wpE_mono b (fun _ _ h => cmpP_mono (fun d s h => by
      cases d <;> first | exact h.elim | skip
      rename_i k
      cases k with
      | true => exact wpE_mono c (fun _ _ h => cmpP_mono f h) g h
      | false => exact f _ _ h) h) g h) g h
  | .ife c a b, env, st, Q, Q', X, X', f, g, h => by
    simp only [wpE] at h ⊢
    exact wpE_mono c (fun d s h => truP_mono (fun k h => by
      cases k with
      | true => exact wpE_mono a f g h
      | false => exact wpE_mono b f g h) h) g h
  | .tup es, env, st, Q, Q', X, X', f, g, h => by
    simp only [wpE] at h ⊢
    exact wpEs_mono es (fun _ _ => f _ _) g h
  | .lst m es, env, st, Q, Q', X, X', f, g, h => by
    simp only [wpE] at h ⊢
    exact wpEs_mono es (fun _ _ h => newL_mono f h) g h
  | .dct m kvs, env, st, Q, Q', X, X', f, g, h => by
    simp only [wpE] at h ⊢
    refine wpEs_mono kvs (fun ds s h => ?_) g h
    cases e : pairD ds with
    | none => rw [e] at h; exact h.elim
    | some p => rw [e] at h; exact newD_mono f h
  | .idx a b, env, st, Q, Q', X, X', f, g, h => by
    simp only [wpE] at h ⊢
    exact wpE_mono a (fun _ _ h => wpE_mono b (fun _ _ h => idxP_mono f h) g h) g h
  | .slc m a lo hi, env, st, Q, Q', X, X', f, g, h => by
    simp only [wpE] at h ⊢
    exact wpE_mono a (fun _ _ h => wpE_mono lo (fun l _ h => prtP_mono (fun _ h => wpE_mono hi (fun u _ h => prtP_mono (fun _ h => slcP_mono f h) h) g h) h) g h) g h
  | .call _ k es, env, st, Q, Q', X, X', f, g, h => by
    simp only [wpE] at h ⊢
    exact wpEs_mono es (fun _ _ h => C.mono f g h) g h
  | .callk _ k es _ kes sel, env, st, Q, Q', X, X', f, g, h => by
    simp only [wpE] at h ⊢
    exact wpEs_mono es (fun ds _ h => wpEs_mono kes (fun ks _ h => by
      cases e1 : selD ds ks sel with
      | none => rw [e1] at h; exact h.elim
      | some p =>
        rw [e1] at h
        exact C.mono f g h) g h) g h
  | .make _ c es, env, st, Q, Q', X, X', f, g, h => by
    simp only [wpE] at h ⊢
    exact wpEs_mono es (fun _ _ h => makeP_mono f g h) g h
  | .bi m _ b es, env, st, Q, Q', X, X', f, g, h => by
    simp only [wpE] at h ⊢
    exact wpEs_mono es (fun _ _ h => biP_mono f h) g h
  | .bm m t o es, env, st, Q, Q', X, X', f, g, h => by
    simp only [wpE] at h ⊢
    exact wpE_mono o (fun _ _ h => ⟨h.1, wpEs_mono es (fun _ _ h => mtP_mono f h) g h.2⟩) g h
  | .meth x o es, env, st, Q, Q', X, X', f, g, h => by
    simp only [wpE] at h ⊢
    exact wpE_mono o (fun _ _ h => ⟨h.1, wpEs_mono es (fun _ _ h => methP_mono f g h) g h.2⟩) g h
  | .attr x o, env, st, Q, Q', X, X', f, g, h => by
    simp only [wpE] at h ⊢
    exact wpE_mono o (fun _ _ h => attrP_mono f h) g h
  | .comp m elt tg it ifs own, env, st, Q, Q', X, X', f, g, h => by
    simp only [wpE] at h ⊢
    exact wpIt_mono it (fun xs stb s h => ⟨h.1, foldP_mono (fun x a s K K' k h => asgP_mono tg (fun en s h => wpIfs_mono ifs (fun b s h => by
      cases b with
      | true => exact wpE_mono elt (fun _ _ => k _ _) (fun _ _ => id) h
      | false => exact k _ _ h) h) (fun _ _ _ => id) h) (fun _ _ h => newL_mono f h) h.2⟩) g h
  | .frz e, env, st, Q, Q', X, X', f, g, h => by
    simp only [wpE] at h ⊢
    exact wpE_mono e (fun _ _ h => frzP_mono f h) g h
theorem wpEs_mono {C : Cw} : ∀ (es : Es) {env : En} {st : Sto} {Q Q' : List D → Sto → Prop} {X X' : XC}, (∀ d s, Q d s → Q' d s) → (∀ x s, X x s → X' x s) → wpEs C es env st Q X → wpEs C es env st Q' X'
  | .nil, env, st, Q, Q', X, X', f, g, h => f _ _ h
  | .cons e es, env, st, Q, Q', X, X', f, g, h => by
    simp only [wpEs] at h ⊢
    exact wpE_mono e (fun _ _ h => wpEs_mono es (fun _ _ => f _ _) g h) g h
theorem wpIfs_mono {C : Cw} : ∀ (es : Es) {env : En} {st : Sto} {Q Q' : Bool → Sto → Prop}, (∀ d s, Q d s → Q' d s) → wpIfs C es env st Q → wpIfs C es env st Q'
  | .nil, env, st, Q, Q', f, h => f _ _ h
  | .cons e .nil, env, st, Q, Q', f, h => by
    simp only [wpIfs] at h ⊢
    exact wpE_mono e (fun _ _ h => truP_mono (fun _ => f _ _) h) (fun _ _ => id) h
  | .cons _ (.cons _ _), env, st, Q, Q', f, h => by
    simp only [wpIfs] at h
theorem asgP_mono {C : Cw} : ∀ (p : Pt) {d : D} {env : En} {st : Sto} {K K' : En → Sto → Prop} {X X' : Xn → En → Sto → Prop}, (∀ d s, K d s → K' d s) → (∀ x e s, X x e s → X' x e s) → asgP C p d env st K X → asgP C p d env st K' X'
  | .nm i, d, env, st, K, K', X, X', f, g, h => f _ _ h
  | .tup ps, d, env, st, K, K', X, X', f, g, h => by
    cases d <;> simp only [asgP] at h ⊢
    exact ⟨h.1, asgPs_mono ps f g h.2⟩
  | .sub o i, d, env, st, K, K', X, X', f, g, h => by
    simp only [asgP] at h ⊢
    exact wpE_mono o (fun _ _ h => wpE_mono i (fun _ _ h => setP_mono (fun _ => f _ _) h) (fun _ _ => g _ _ _) h) (fun _ _ => g _ _ _) h
theorem asgPs_mono {C : Cw} : ∀ (p : Pts) {ds : List D} {env : En} {st : Sto} {K K' : En → Sto → Prop} {X X' : Xn → En → Sto → Prop}, (∀ d s, K d s → K' d s) → (∀ x e s, X x e s → X' x e s) → asgPs C p ds env st K X → asgPs C p ds env st K' X'
  | .nil, ds, env, st, K, K', X, X', f, g, h => by
    cases ds <;> simp only [asgPs] at h ⊢
    exact f _ _ h
  | .cons p ps, ds, env, st, K, K', X, X', f, g, h => by
    cases ds <;> simp only [asgPs] at h ⊢
    exact asgP_mono p (fun _ _ h => asgPs_mono ps f g h) g h
theorem wpIt_mono {C : Cw} : ∀ (it : It) {env : En} {st : Sto} {Q Q' : List D → (Sto → Prop) → Sto → Prop} {X X' : XC}, (∀ xs b s, Q xs b s → Q' xs b s) → (∀ x s, X x s → X' x s) → wpIt C it env st Q X → wpIt C it env st Q' X'
  | .ex e, env, st, Q, Q', X, X', f, g, h => by
    simp only [wpIt] at h ⊢
    exact wpE_mono e (fun _ _ h => itemsP_mono (fun _ _ => f _ _ _) h) g h
  | .range1 a, env, st, Q, Q', X, X', f, g, h => by
    simp only [wpIt] at h ⊢
    exact wpE_mono a (fun d _ h => by cases d <;> first | exact h.elim | exact ⟨h.1, f _ _ _ h.2⟩) g h
  | .range2 a b, env, st, Q, Q', X, X', f, g, h => by
    simp only [wpIt] at h ⊢
    exact wpE_mono a (fun d _ h => wpE_mono b (fun e _ h => by
      cases d <;> first | exact h.elim | (cases e <;> first | exact h.elim | exact ⟨h.1, f _ _ _ h.2⟩)) g h) g h
  | .enum e, env, st, Q, Q', X, X', f, g, h => by
    simp only [wpIt] at h ⊢
    exact wpE_mono e (fun d _ ⟨xs, a, b⟩ => ⟨xs, a, f _ _ _ b⟩) g h
  | .zip a b, env, st, Q, Q', X, X', f, g, h => by
    simp only [wpIt] at h ⊢
    exact wpE_mono a (fun d _ h => wpE_mono b (fun e _ ⟨xs, ys, p, q, r⟩ => ⟨xs, ys, p, q, f _ _ _ r⟩) g h) g h
end
end DL
/-! The text against the small language; readings; calls. -/
namespace DL
open PySem PySem.Spec PyProof.Rows L2

/-! ### forms of expressions -/
def plainX : Expr → Bool
  | .BoolOp _ _ _ => true
  | .BinOp _ _ _ _ => true
  | .UnaryOp _ _ _ => true
  | .IfExp _ _ _ _ => true
  | .Dict _ _ _ => true
  | .ListComp _ _ _ _ => true
  | .Compare _ _ _ _ => true
  | .Call _ _ _ _ => true
  | .JoinedStr _ _ => true
  | .Constant _ _ _ => true
  | .Attribute _ _ _ => true
  | .Subscript _ _ _ => true
  | .Name _ _ => true
  | .List _ _ => true
  | .Tuple _ _ _ => true
  | _ => false
/-- tests whose truth is asked plainly -/
def plainT : Expr → Bool
  | .Call _ _ _ _ => true
  | .Attribute _ _ _ => true
  | .Subscript _ _ _ => true
  | .Name _ _ => true
  | .BinOp _ _ _ _ => true
  | .Constant _ _ _ => true
  | .List _ _ => true
  | .Tuple _ _ _ => true
  | .Dict _ _ _ => true
  | .JoinedStr _ _ => true
  | .ListComp _ _ _ _ => true
  | _ => false
def boolX : Expr → Bool
  | .BoolOp _ _ _ => true
  | _ => false
def notX1 : Expr → Bool
  | .UnaryOp .Not _ _ => true
  | _ => false
def superX : Expr → Bool
  | .Call (.Name id _) [] [] _ => id == "super"
  | _ => false
theorem star_plain {e : Expr} (h : plainX e = true) (es : List Expr) (env : PySem.Env) : starEach (e :: es) env = (false, eval e env) :: starEach es env := by
  cases e <;> first | rfl | cases h
theorem star_any {pos : Pos} {env : PySem.Env} : ∀ {es : List Expr}, es.all plainX = true → (backTo pos (starEach es env)).any (·.1) = false
  | [], _ => rfl
  | e :: es, h => by
    simp only [List.all_cons, Bool.and_eq_true] at h
    rw [star_plain h.1]
    show (false || (backTo pos (starEach es env)).any (·.1)) = false
    rw [Bool.false_or]
    exact star_any h.2
theorem tru_plain {e : Expr} (h : plainT e = true) (env : PySem.Env) (whole : Sem Value) : isTrue e env whole = (do let v ← whole; standAt e.pos; holding [v] (truthy v)) := by
  cases e <;> first | rfl | cases h
theorem mark_plain {e : Expr} (h : plainX e = true) (op : CmpOp) : behindInMarks op e = false := by
  cases e <;> first | rfl | cases h
theorem marks_plain {b c : Expr} (h : plainX c = true) (op op' : CmpOp) : lastMarks [op, op'] [b, c] = false := mark_plain h op'
theorem ix_plain {e : Expr} (h : plainX e = true) : PlainIx e := by
  intro o i
  cases e <;> first | rfl | cases h
theorem fold_plain {e : Expr} (h : plainX e = true) (env : PySem.Env) (x : Value) : foldedSetIterable e env x = pure x := by
  cases e <;> first | rfl | cases h
theorem base_plain {o : Expr} (h : superX o = false) (name : Str) (env : PySem.Env) (whole : Sem Value) : attributeBase o name env whole = whole := by
  unfold attributeBase
  split
  · rename_i id p pos
    have h' : (id == "super") = false := h
    simp [bne, h']
  · rfl

/-! ### names -/
def visB (sc : Scope) (x : Str) : Bool := match sc.names.lookup x with
  | some .local => true
  | some .cell => true
  | some .free => true
  | _ => false
def locB (sc : Scope) (x : Str) : Bool := match sc.names.lookup x with
  | some .local => true
  | _ => false
def celB (sc : Scope) (x : Str) : Bool := match sc.names.lookup x with
  | some .cell => true
  | _ => false
def glB (sc : Scope) (x : Str) : Bool := match sc.names.lookup x with
  | some .globalImplicit => true
  | _ => false
theorem visB_ok {sc : Scope} {x : Str} (h : visB sc x = true) : Vis sc x := by
  unfold visB at h
  split at h
  · exact .inl (by assumption)
  · exact .inr (.inl (by assumption))
  · exact .inr (.inr (by assumption))
  · cases h
theorem locB_ok {sc : Scope} {x : Str} (h : locB sc x = true) : sc.names.lookup x = some .local := by
  unfold locB at h
  split at h
  · assumption
  · cases h
theorem celB_ok {sc : Scope} {x : Str} (h : celB sc x = true) : sc.names.lookup x = some .cell := by
  unfold celB at h
  split at h
  · assumption
  · cases h
theorem glB_ok {X : Cx} {x : Str} (h : glB X.env.scope x = true) : Gl X x := by
  unfold glB at h
  split at h
  · assumption
  · cases h

/-! ### readings -/
def RpXn (W : Wd) (G : Hp) (cls : Value) (d : Option Addr) (x : Xn) : Prop := cls = .ref (W.tau x.1) ∧ ((∃ a fs, d = some a ∧ G a = some (.xd fs) ∧ RpF W G fs x.2) ∨ (d = none ∧ x.2 = []))
def PostX (W : Wd) (B G : Hp) (E : XK) : XC := fun x st => ∀ cls d G' H', Le G G' → Rel W B G' st H' → RpXn W G' cls d x → E cls d H'
theorem PostX.le {W : Wd} {B G G1 : Hp} {E : XK} (e : Le G G1) {x : Xn} {st : Sto} (h : PostX W B G E x st) : PostX W B G1 E x st := fun cls d G' H' a b c => h cls d G' H' (e.trans a) b c
section
variable (C : Cw) (W : Wd) (pn : List (Addr × Obj)) (Wx : WX)
def TEof (e : E) : TE := fun σ H Q => ∃ B G st env, Rel W B G st H ∧ RpS W pn G σ env ∧ wpE C e env st (Post W B G Q) (PostX W B G fun c d H' => Wx c d σ H')
def TTof (e : E) : TT := fun σ H Q => ∃ B G st env, Rel W B G st H ∧ RpS W pn G σ env ∧ wpE C e env st (fun d st1 => truP d st1 fun b => ∀ G' H', Le G G' → Rel W B G' st1 H' → Q b H') (PostX W B G fun c d H' => Wx c d σ H')
def TAof (es : Es) : TA := fun σ H Q => ∃ B G st env, Rel W B G st H ∧ RpS W pn G σ env ∧ wpEs C es env st (fun ds st1 => ∀ vs G' H', Le G G' → Rel W B G' st1 H' → RpL W G' vs ds → Q vs H') (PostX W B G fun c d H' => Wx c d σ H')
end
/-- what the def g promises -/
def spG (C : Cw) (W : Wd) (g : Nat) : Sp := fun vs H Q E => ∃ B G st ds, Rel W B G st H ∧ RpL W G vs ds ∧ C.F g ds st (Post W B G Q) (PostX W B G E)
/-- a type as a value -/
def tyV (W : Wd) : String ⊕ Nat → Value
  | .inl n => .type n
  | .inr c => .ref (W.tau c)
/-- what isinstance of an instance asks of its class -/
structure TyC (K : PySem.W.Frag) (C : Addr) : Prop where
  cl : Cls K C
  ha : PySem.W.findIn K (.ref C) "__class__" = some (some (.builtin "object.__class__"))
  hn : PySem.W.specialIn K (.builtin "object.__class__") "__get__" = some (some (.builtin "getset_descriptor.__get__"))
  htk : PySem.W.takesIn K (.builtin "object.__class__") = some true
  hm : PySem.W.mroIn K C (.type "object") = some true
/-- what the text makes of a class -/
structure ClsOk (T : Tb) (W : Wd) (c : Nat) : Prop where
  ty : TyC W.K (W.tau c)
  fld : ∀ f, f ∈ (T.cls c).flds → NoAttr W.K (W.tau c) f
  con : ∀ f d, (T.cls c).cns.lookup f = some d → ∃ v u mc, Con W.K (W.tau c) f v u ∧ (∀ G, Rp W G v d) ∧ ClX.CRead W.K (W.tau c) mc ∧ ClX.CVal W.K (W.tau c) mc f v u
  prp : ∀ f g, (T.cls c).prs.lookup f = some g → ∃ p, PropOf W.K (W.tau c) f p (W.tau g)
  mth : ∀ m g, (T.cls c).mts.lookup m = some g → Meth W.K (W.tau c) m (W.tau g)
  cmt : ∀ m g, (T.cls c).cms.lookup m = some g → ∃ mc p, ClX.CRead W.K (W.tau c) mc ∧ ClX.CMet W.K (W.tau c) mc m p (W.tau g)
  mkr : T.isFn (T.cls c).init = true → Mk W.K (W.tau c) (W.tau (T.cls c).init)
/-- how a call with names, or with defaults, binds -/
def KwOk (W : Wd) (fd : FuncData) (ps : List Str) (n : Nat) (ks : List Str) (sel : List (Nat ⊕ D)) : Prop := ∀ (s : Shared) (us ws : List Value) (vs zs : List V), W.K.In s.heap → us.length = n → ws.length = ks.length → Vals vs us → Vals zs ws →
  ∃ all av, BindsTo s fd ⟨us, ks.zip ws⟩ (ps.zip all) ∧ Vals av all ∧ ∀ G ds es dd, RpL W G vs ds → RpL W G zs es → selD ds es sel = some dd → RpL W G av dd
structure Glob (C : Cw) (W : Wd) (k : Nat) (P : Program) (w : World) (mg : Str → Option Value) (base : Heap) : Prop where
  nam : ∀ x g, C.T.fns.lookup x = some g → mg x = some (.ref (W.tau g)) ∧ PySem.W.keepIn W.K (.ref (W.tau g)) = true
  con : ∀ x d, C.T.cons.lookup x = some d → ∃ u v, mg x = some u ∧ RelV v u ∧ ∀ G, Rp W G v d
  blt : ∀ x, x ∈ C.T.blts → mg x = none
  kit : ∀ t c b, kitD C.T t c = some b → PySem.W.kitOne W.K (tyV W t) (tyV W c) = some b
  cls : ∀ c, C.T.isCls c = true → ClsOk C.T W c
  fn : ∀ g, C.T.isFn g = true → ∃ fd ps, FnG P w W.K mg base k (W.tau g) fd ps (spG C W g) ∧ ps.length = C.T.ar g ∧ (∀ n ks sel, (g, n, ks, sel) ∈ C.T.kws → KwOk W fd ps n ks sel) ∧ ∀ (s : Shared) (us : List Value), W.K.In s.heap → us.length = ps.length → BindsTo s fd ⟨us, []⟩ (ps.zip us)
structure Gd (C : Cw) (W : Wd) (pn : List (Addr × Obj)) (Wx : WX) (k : Nat) (N : List Str) (sc : Scope) (X : Cx) : Prop where
  hN : X.N = N
  hsc : X.env.scope = sc
  nd : N.Nodup
  hK : W.K = X.K
  calm : X.calm = true
  gds : X.A.guards = some []
  room : Room (k + 1) X.A
  tk : Takes X Wx
  pins : ∀ p ∈ pn, p ∈ X.pn
  glob : Glob C W k X.prog X.w X.mg X.base
theorem Gd.units {C : Cw} {W : Wd} {pn : List (Addr × Obj)} {Wx : WX} {k : Nat} {N : List Str} {sc : Scope} {X : Cx} (g : Gd C W pn Wx k N sc X) : X.A.units + 66 < cLine := by
  have := g.room.un; omega

section
variable {C : Cw} {W : Wd} {pn : List (Addr × Obj)} {Wx : WX} {σ : L2.St} {B G0 G : Hp} {st : Sto} {H : Hp} {env : En}
theorem TEof.intro {e : E} {Q1 : DK} {K : VK} (R : Rel W B G st H) (S : RpS W pn G σ env) (le0 : Le G0 G) (h : wpE C e env st Q1 (PostX W B G0 fun c d H' => Wx c d σ H'))
    (f : ∀ v d G1 st1 H1, Le G G1 → Rel W B G1 st1 H1 → Rp W G1 v d → Q1 d st1 → K v H1) : TEof C W pn Wx e σ H K :=
  ⟨B, G, st, env, R, S, wpE_mono e (fun d st1 q v G1 H1 le R1 r => f v d G1 st1 H1 le R1 r q) (fun _ _ q => q.le le0) h⟩
theorem TTof.intro {e : E} {Q1 : DK} {K : Bool → Hp → Prop} (R : Rel W B G st H) (S : RpS W pn G σ env) (le0 : Le G0 G) (h : wpE C e env st Q1 (PostX W B G0 fun c d H' => Wx c d σ H'))
    (f : ∀ d st1, Q1 d st1 → truP d st1 fun b => ∀ G1 H1, Le G G1 → Rel W B G1 st1 H1 → K b H1) : TTof C W pn Wx e σ H K :=
  ⟨B, G, st, env, R, S, wpE_mono e f (fun _ _ q => q.le le0) h⟩
theorem TAof.intro {es : Es} {Q1 : List D → Sto → Prop} {K : List V → Hp → Prop} (R : Rel W B G st H) (S : RpS W pn G σ env) (le0 : Le G0 G) (h : wpEs C es env st Q1 (PostX W B G0 fun c d H' => Wx c d σ H'))
    (f : ∀ vs ds G1 st1 H1, Le G G1 → Rel W B G1 st1 H1 → RpL W G1 vs ds → Q1 ds st1 → K vs H1) : TAof C W pn Wx es σ H K :=
  ⟨B, G, st, env, R, S, wpEs_mono es (fun d st1 q vs G1 H1 le R1 r => f vs d G1 st1 H1 le R1 r q) (fun _ _ q => q.le le0) h⟩
end
theorem PE.imp' {X : Cx} {e : Expr} {t t' : TE} (h : PE X e t) (f : ∀ σ H Q, t' σ H Q → t σ H Q) : PE X e t' := ⟨fun pins s σ H Q I q => h.run pins s σ H Q I (f _ _ _ q)⟩
theorem PT.imp' {X : Cx} {e : Expr} {t t' : TT} (h : PT X e t) (f : ∀ σ H Q, t' σ H Q → t σ H Q) : PT X e t' := ⟨fun pins s σ H Q I q => h.run pins s σ H Q I (f _ _ _ q)⟩
theorem PW.imp' {X : Cx} {e : Expr} {t t' : TT} (h : PW X e t) (f : ∀ σ H Q, t' σ H Q → t σ H Q) : PW X e t' := ⟨fun whole pins s σ H Q I q => h.run whole pins s σ H Q I (f _ _ _ q)⟩
theorem PA.imp' {X : Cx} {e : List Expr} {t t' : TA} (h : PA X e t) (f : ∀ σ H Q, t' σ H Q → t σ H Q) : PA X e t' := ⟨fun pos pins s σ H Q I q => h.run pos pins s σ H Q I (f _ _ _ q)⟩

/-! ### calls -/
section
variable {X : Cx} {k : Nat} {f : Addr} {fd : FuncData} {ps : List Str} {sp : Sp} {Wx : WX} {x : Str} {p pos apos : Pos} {es : List Expr} {t : TA}
/-- x(e, ..), x a def of the module -/
theorem pe_callG (F : FnG X.prog X.w X.K X.mg X.base k f fd ps sp) (gds : X.A.guards = some []) (room : Room k X.A) (tk : Takes X Wx) (gl : Gl X x) (at_ : X.mg x = some (.ref f)) (kp : PySem.W.keepIn X.K (.ref f) = true)
    (bind : ∀ (s : Shared) (us : List Value), X.K.In s.heap → us.length = ps.length → BindsTo s fd ⟨us, []⟩ (ps.zip us)) (args : PA X es t) (pl : es.all plainX = true) (dbg : (x == ("__debug__" : Str)) = false) (nn : es = [] → ∀ σ H Q, t σ H Q → Q [] H) :
    PE X (.Call (.Name x p) es [] pos) (fun σ H Q => t σ H fun vs H1 => sp vs H1 Q fun c d H' => Wx c d σ H') := by
  constructor
  intro pins s σ H Q I h
  have run : ∀ (s1 : Shared) (H1 : Hp) (us : List Value) (vs : List V), L2.Inv X pins σ H1 s1 → Vals vs us → (sp vs H1 Q fun c d H' => Wx c d σ H') → wpAny (model X.prog X.w) X.A (call (.ref f) us) (EP X pins σ Q) X.xe s1 :=
    fun s1 H1 us vs I1 r q => run_g F gds room tk I1 (bind s1 us I1.kIn (by rw [← r.length]; exact F.len _ _ _ _ q)) r q
  apply wpAny_Call_Name_kw
  apply ld_glob I gl at_ _ dbg
  cases es with
  | nil => exact PySem.W.callWith_K0 I.kIn kp (run s H [] [] I .nil (nn rfl _ _ _ h))
  | cons e es =>
    simp only [List.all_cons, Bool.and_eq_true] at pl
    apply PySem.W.callWith_K I.ok.mod.kin kp _ (star_plain pl.1 es X.env) (star_any pl.2)
    exact thn (args.run pos pins s σ H _ I h) fun us s1 ⟨vs, H1, I1, r, q⟩ => ⟨I1.kIn, run s1 H1 us vs I1 r q⟩
/-- x(e, ..), x a class whose instances are made by an __init__ of the text -/
theorem pe_makeG {c f : Addr} (M : Mk X.K c f) (F : FnG X.prog X.w X.K X.mg X.base k f fd ps sp) (gds : X.A.guards = some []) (room : Room (k + 1) X.A) (tk : Takes X Wx) (gl : Gl X x) (at_ : X.mg x = some (.ref c))
    (bind : ∀ (s : Shared) (us : List Value), X.K.In s.heap → us.length = ps.length → BindsTo s fd ⟨us, []⟩ (ps.zip us)) (args : PA X es t) (pl : es.all plainX = true) (dbg : (x == ("__debug__" : Str)) = false) (nn : es = [] → ∀ σ H Q, t σ H Q → Q [] H) :
    PE X (.Call (.Name x p) es [] pos) (fun σ H Q => t σ H fun vs H1 => ∀ y dx, H1 y = none → H1 dx = none → dx ≠ y →
      sp (.ref y :: vs) (upd (upd H1 dx (.own y)) y (.ins c dx [])) (fun v H2 => v = .non ∧ Q (.ref y) H2) fun c d H' => Wx c d σ H') := by
  constructor
  intro pins s σ H Q I h
  apply wpAny_Call_Name_kw
  apply ld_glob I gl at_ _ dbg
  have len : ∀ {s1 : Shared} {H1 : Hp} {vs : List V}, L2.Inv X pins σ H1 s1 → (∀ y dx, H1 y = none → H1 dx = none → dx ≠ y → sp (.ref y :: vs) (upd (upd H1 dx (.own y)) y (.ins c dx [])) (fun v H2 => v = .non ∧ Q (.ref y) H2) fun c d H' => Wx c d σ H') → vs.length + 1 = ps.length := fun {s1 H1 vs} I1 q => by
    have n1 : H1 (s1.heap.objs.size + 1) = none := I1.hok.fresh (Nat.le_succ _)
    have n2 : H1 s1.heap.objs.size = none := I1.hok.fresh (Nat.le_refl _)
    exact F.len _ _ _ _ (q _ _ n1 n2 (Nat.ne_of_lt (Nat.lt_succ_self _)))
  cases es with
  | nil =>
    have q := nn rfl _ _ _ h
    have hl := len I q
    exact PySem.W.callWith_K0 I.kIn M.kp (make_g (us := []) (vs := []) M F gds room tk I (fun s u z => bind s _ z (by simpa using hl)) .nil q)
  | cons e es =>
    simp only [List.all_cons, Bool.and_eq_true] at pl
    apply PySem.W.callWith_K I.ok.mod.kin M.kp _ (star_plain pl.1 es X.env) (star_any pl.2)
    refine thn (args.run pos pins s σ H _ I h) fun us s1 ⟨vs, H1, I1, r, q⟩ => ⟨I1.kIn, make_g M F gds room tk I1 (fun s u z => bind s _ z ?_) r q⟩
    show us.length + 1 = ps.length
    rw [← r.length]; exact len I1 q
end
end DL
/-! Built-in functions and methods, subscripts, slices. -/
namespace DL
open PySem PySem.Spec PyProof.Rows L2
def rDL (W : Wd) (f : List D → Sto → DK → Prop) : List V → Hp → VK → Prop := fun xs H Q => ∃ B G st ds, Rel W B G st H ∧ RpL W G xs ds ∧ f ds st (Post W B G Q)
def BI.val : BI → Value
  | .len => .builtin "len"
  | .abs => .builtin "abs"
  | .max => .builtin "max"
  | .min => .builtin "min"
  | .divmod => .builtin "divmod"
  | .repr => .builtin "repr"
  | .str => .type "str"
  | .int => .type "int"
  | .all => .builtin "all"
  | .any => .builtin "any"
  | .sum => .builtin "sum"
  | .list => .type "list"
  | .tuple => .type "tuple"
  | .isinstance => .builtin "isinstance"
  | .sorted => .builtin "sorted"
  | .bool => .type "bool"
  | .dict => .type "dict"
  | .set => .type "set"
section
variable {X : Cx} {W : Wd} {B G : Hp} {st : Sto} {H : Hp} {pins : List (Addr × Obj)} {σ : L2.St} {s : Shared} {v : V} {d : D}
theorem RpL.one {vs : List V} {d : D} (r : RpL W G vs [d]) : ∃ v, vs = [v] ∧ Rp W G v d := by
  cases r with
  | cons h r => cases r; exact ⟨_, rfl, h⟩
theorem RpL.two {vs : List V} {d e : D} (r : RpL W G vs [d, e]) : ∃ v u, vs = [v, u] ∧ Rp W G v d ∧ Rp W G u e := by
  cases r with
  | cons h r => cases r with
    | cons h2 r => cases r; exact ⟨_, _, rfl, h, h2⟩
theorem Rp.asRT (R : Rel W B G st H) (r : Rp W G v d) {xs : List D} (h : asRT st d = some xs) : ∃ a vs, v = .ref a ∧ (SqL W.K H a vs ∨ SqT W.K H a vs) ∧ RpL W G vs xs ∧ xs.length ≤ sizeLine := by
  unfold DL.asRT at h
  split at h
  · cases h
    cases r with
    | tup e r z => exact ⟨_, _, rfl, .inr (Le.sqT R.sub e), r, z⟩
  · obtain ⟨a, vs, e, x, y⟩ := r.asR R h
    exact ⟨a, vs, e, .inl x, y⟩
/-- the value's type, for isinstance -/
theorem Rp.tyX (hK : W.K = X.K) (hc : ∀ c, okT T (.inr c) = true → TyC W.K (W.tau c)) (R : Rel W B G st H) (r : Rp W G v d) {t : String ⊕ Nat} (h : tyOf st d = some t) (ok : okT T t = true) : TyX X.K H v (tyV W t) := by
  cases r <;> simp only [tyOf, Option.some.injEq, reduceCtorEq] at h <;> try subst h
  · exact .base .non
  · exact .base (.bl _)
  · exact .base (.int _)
  · exact .base (.str _)
  · rename_i e z r; exact .base (.lst (R.sub _ _ e))
  · rename_i a vs ds e r z
    rcases Le.sqT R.sub e with (e | ⟨o, e⟩) | ⟨o, its, n, h1, h2, _⟩
    · exact .base (.tup e)
    · exact .fTuple e
    · exact .kTuple (hK ▸ h1) h2
  · rename_i a kvs ds e h1 h2
    rcases Le.rd R.sub e with e | ⟨o, e⟩
    · exact .base (.dK e)
    · exact .fDict e
  · rename_i a dx c fs ds e h1 h2
    obtain ⟨c1, c2, c3, c4, c5⟩ := hK ▸ hc _ ok
    exact .base (.ins (R.sub _ _ e) c1 c2 c3 c4 c5)
  · rename_i a
    cases e : st a with
    | none => rw [e] at h; cases h
    | some o =>
      rw [e] at h
      obtain ⟨ho, x, y⟩ := R.obj _ _ e
      cases y with
      | lst _ => cases h; exact .base (.lst x)
      | dK _ => cases h; exact .base (.dK x)
      | dT _ => cases h; exact .base (.dT x)
      | ins ec _ =>
        cases h
        obtain ⟨c1, c2, c3, c4, c5⟩ := hK ▸ hc _ ok
        subst ec
        exact .base (.ins x c1 c2 c3 c4 c5)
theorem Rp.cls (r : Rp W G v d) {t : String ⊕ Nat} (h : clsD d = some t) : ClsV v (tyV W t) := by
  cases r <;> simp only [clsD, Option.some.injEq, reduceCtorEq] at h <;> subst h
  · exact .ty _
  · exact .own _
theorem kitAny_of {T : Tb} (kit : ∀ t c b, kitD T t c = some b → PySem.W.kitOne W.K (tyV W t) (tyV W c) = some b) {t : String ⊕ Nat} : ∀ {tcs : List (String ⊕ Nat)} {b : Bool}, kitAnyT T t tcs = some b →
    PySem.W.kitAny W.K (tyV W t) (tcs.map (tyV W)) = some b
  | [], b, h => by
    simp only [kitAnyT, Option.some.injEq] at h
    subst h
    rfl
  | c :: cs, b, h => by
    simp only [kitAnyT] at h
    cases e2 : kitD T t c with
    | none => rw [e2] at h; cases h
    | some k =>
      rw [e2] at h
      have k1 := kit _ _ _ e2
      cases k with
      | true =>
        simp only [Option.some.injEq] at h
        subst h
        simp [PySem.W.kitAny, k1]
      | false => exact kitAny_cons k1 (fun _ => kitAny_of kit h) (fun z => by cases z)
theorem clsL_of : ∀ {cs : List D} {vs : List V} {tcs : List (String ⊕ Nat)}, RpL W G vs cs → clsL cs = some tcs → Paired ClsV vs (tcs.map (tyV W))
  | [], vs, tcs, r, h => by
    cases r
    simp only [clsL, Option.some.injEq] at h
    subst h
    exact .nil
  | c :: cs, vs, tcs, r, h => by
    cases r with
    | cons h1 r =>
      simp only [clsL] at h
      cases e : clsD c with
      | none => rw [e] at h; cases h
      | some tc =>
        rw [e] at h
        simp only [Option.bind_some] at h
        cases e2 : clsL cs with
        | none => rw [e2] at h; cases h
        | some ts =>
          rw [e2] at h
          simp only [Option.map_some, Option.some.injEq] at h
          subst h
          exact .cons (h1.cls e) (clsL_of r e2)
theorem Post.go {Q : VK} {v : V} {d : D} (h : Post W B G Q d st) (R : Rel W B G st H) (r : Rp W G v d) : Q v H := h _ G _ (Le.refl G) R r
theorem call_isiG {T : Tb} (hK : W.K = X.K) (hc : ∀ c, okT T (.inr c) = true → TyC W.K (W.tau c)) (kit : ∀ t c b, kitD T t c = some b → PySem.W.kitOne W.K (tyV W t) (tyV W c) = some b) {m : Bool} {d c : D} {x y : V} {us : List Value} {Q : VK}
    (I : L2.Inv X pins σ H s) (R : Rel W B G st H) (rd : Rp W G x d) (rc : Rp W G y c) (rv : Vals [x, y] us) (h : biP T m .isinstance [d, c] st (Post W B G Q)) : wpAny (model X.prog X.w) X.A (call (.builtin "isinstance") us) (EP X pins σ Q) X.xe s := by
  have one : ∀ {b : Bool}, ((tyOf st d).bind fun t => if okT T t then (clsD c).bind (kitD T t) else none) = some b → Post W B G Q (.bl b) st → wpAny (model X.prog X.w) X.A (call (.builtin "isinstance") us) (EP X pins σ Q) X.xe s := by
    intro b e k
    cases e1 : tyOf st d with
    | none => rw [e1] at e; cases e
    | some t =>
      rw [e1] at e
      simp only [Option.bind_some] at e
      cases ok : okT T t with
      | false => rw [ok] at e; cases e
      | true =>
        rw [ok] at e
        simp only [if_true] at e
        cases e2 : clsD c with
        | none => rw [e2] at e; cases e
        | some tc =>
          rw [e2] at e
          exact call_isi pins s σ H _ us Q I rv ⟨x, y, _, _, b, rfl, rc.cls e2, rd.tyX hK hc R e1 ok, hK ▸ kit _ _ _ e, k.bl R⟩
  cases e : isiD T st d c with
  | none => simp only [biP, e] at h
  | some b =>
    simp only [biP, e] at h
    cases c with
    | tup cs =>
      simp only [isiD] at e
      cases e1 : tyOf st d with
      | none => rw [e1] at e; cases e
      | some t =>
        rw [e1] at e
        simp only [Option.bind_some] at e
        cases ok : okT T t with
        | false => rw [ok] at e; cases e
        | true =>
          rw [ok] at e
          simp only [if_true, kitAnyD] at e
          cases e2 : clsL cs with
          | none => rw [e2] at e; cases e
          | some tcs =>
            rw [e2] at e
            simp only [Option.bind_some] at e
            cases rc with
            | tup ha ra za =>
              have k2 := kitAny_of kit e
              have k3 := clsL_of ra e2
              obtain ⟨u1, u2, rfl, r1, r2⟩ := vals2 rv
              cases (show u2 = Value.ref _ from r2)
              obtain ⟨P, Z, p, hx⟩ := kit_of I r1 (rd.tyX hK hc R e1 ok)
              obtain ⟨its, r', ⟨⟨oc, od, dt, sl⟩, ho, hcl, n, hdd⟩, _⟩ := I.tuple (hK ▸ Le.sqT R.sub ha)
              simp only at hcl hdd
              subst hcl hdd
              have e3 := ClsV.all k3 r'
              subst e3
              exact PySem.W.kia_tup Z I.kIn p ho (hK ▸ k2) hx fun tk => ⟨.bl b, H, I.tok tk, rfl, h.bl R⟩
    | _ => exact one e h
/-- repr of plain data -/
theorem call_reprG (hK : W.K = X.K) (gds : X.A.guards = some []) (hu : X.A.units + 66 < cLine) {p : PyData} {x : V} {us : List Value} {Q : VK} (I : L2.Inv X pins σ H s) (R : Rel W B G st H) (rd : Rp W G x d) (rv : Vals [x] us)
    (e : toPs st d = some p) (h1 : p.showable = true) (h2 : p.shown.length ≤ sizeLine) (h3 : p.depth ≤ 64) (q : Q (.str p.shown) H) : wpAny (model X.prog X.w) X.A (call (.builtin "repr") us) (EP X pins σ Q) X.xe s := by
  obtain ⟨u, rfl, ru⟩ := vals1 rv
  obtain ⟨as, r, ns⟩ := Rp.readsS I R hK e rd ru
  have byRef : ∀ a : Addr, u = .ref a → wpAny (model X.prog X.w) X.A (call (.builtin "repr") [u]) (EP X pins σ Q) X.xe s := by
    rintro a rfl
    exact repr_of_reads' r h1 (fun _ => ns) gds (by omega) (fun _ _ z => z) (fun h' u tk hk => ⟨.str p.shown, H, I.kept hk, ⟨_, rfl⟩, q⟩) h2
  cases r with
  | none => exact PySem.P.repr_of_none ⟨.str _, H, I.tok _, ⟨_, rfl⟩, by simpa [PyData.shown] using q⟩
  | bool b => exact PySem.P.repr_of_bool ⟨.str _, H, I.tok _, ⟨_, rfl⟩, by simpa [PyData.shown] using q⟩
  | int i t => exact PySem.P.repr_of_int (by simpa [PyData.showable] using h1) ⟨.str _, H, I.tok _, ⟨_, rfl⟩, by simpa [PyData.shown] using q⟩
  | str i t => exact PySem.P.repr_of_str ⟨.str _, H, I.tok _, ⟨_, rfl⟩, by simpa [PyData.shown] using q⟩ (by simpa [PyData.shown] using h2)
  | list _ _ _ _ => exact byRef _ rfl
  | tuple _ _ _ _ => exact byRef _ rfl
  | dict _ _ _ _ _ => exact byRef _ rfl
end
end DL
/-! Built-ins called, subscripts, slices, stores. -/
namespace DL
open PySem PySem.Spec PyProof.Rows L2
section
variable {X : Cx} {W : Wd}
theorem len_ok (hK : W.K = X.K) {T : Tb} {m : Bool} : CallR X (.builtin "len") (rDL W (biP T m .len)) := by
  intro pins s σ H xs us Q I r h
  obtain ⟨B, G, st, ds, R, rd, h⟩ := h
  match ds, h with
  | [d], h =>
    obtain ⟨x, rfl, rx⟩ := rd.one
    have seq : (∃ xs, asRT st d = some xs ∧ Post W B G Q (.int (xs.length : Nat)) st) → wpAny (model X.prog X.w) X.A (call (.builtin "len") us) (EP X pins σ Q) X.xe s := by
      rintro ⟨ys, e, k⟩
      obtain ⟨a, vs, rfl, ha, ra, _⟩ := rx.asRT R e
      refine call_len pins s σ H _ us Q I r ⟨_, ys.length, rfl, ?_, k.int R⟩
      rw [← ra.length]
      rcases ha with ha | ha
      · exact .inl ⟨vs, hK ▸ ha, rfl⟩
      · exact .inr ⟨vs, hK ▸ ha, rfl⟩
    simp only [biP] at h
    cases d <;> first | exact seq h | skip
    cases rx
    exact call_len pins s σ H _ us Q I r ⟨_, _, rfl, ⟨h.1, rfl⟩, Post.int h.2 R⟩
  | [], h => exact h.elim
  | _ :: _ :: _, h => exact h.elim
theorem bi_ok (hK : W.K = X.K) (hc : X.calm = true) (gds : X.A.guards = some []) (hu : X.A.units + 66 < cLine) {T : Tb} (tc : ∀ c, okT T (.inr c) = true → TyC W.K (W.tau c)) (kit : ∀ t c b, kitD T t c = some b → PySem.W.kitOne W.K (tyV W t) (tyV W c) = some b) {m : Bool} (b : BI) :
    CallR X b.val (rDL W (biP T m b)) := by
  intro pins s σ H xs us Q I r h
  have h0 := h
  obtain ⟨B, G, st, ds, R, rd, h⟩ := h
  unfold biP at h
  split at h
  · exact len_ok hK (T := T) (m := m) pins s σ H xs us Q I r h0
  · obtain ⟨x, rfl, rx⟩ := rd.one
    cases rx
    exact call_abs pins s σ H _ us Q I r ⟨_, rfl, Post.int h R⟩
  · obtain ⟨x, y, rfl, rx, ry⟩ := rd.two
    cases rx; cases ry
    exact call_max2 hc pins s σ H _ us Q I r ⟨_, _, rfl, Post.int h R⟩
  · obtain ⟨x, y, rfl, rx, ry⟩ := rd.two
    cases rx; cases ry
    exact call_min2 hc pins s σ H _ us Q I r ⟨_, _, rfl, Post.int h R⟩
  · obtain ⟨x, y, rfl, rx, ry⟩ := rd.two
    cases rx; cases ry
    exact call_divmodW pins s σ H _ us Q I r ⟨_, _, rfl, h.1, newT_ok R (.cons (.int _) (.cons (.int _) .nil)) (by show 2 ≤ sizeLine; decide) h.2⟩
  · obtain ⟨p, e, h1, h2, h3, k⟩ := h
    obtain ⟨x, rfl, rx⟩ := rd.one
    exact call_reprG hK gds hu I R rx r e h1 h2 h3 (Post.str k R)
  · obtain ⟨x, rfl, rx⟩ := rd.one
    cases rx
    exact call_str_int pins s σ H _ us Q I r ⟨_, rfl, h.1, Post.str h.2 R⟩
  · obtain ⟨bs, e, k⟩ := h
    obtain ⟨x, rfl, rx⟩ := rd.one
    obtain ⟨a, vs, rfl, ha, ra, _⟩ := rx.asR R e
    obtain rfl := ra.bls_eq
    exact cr_all hc pins s σ H _ us Q I r ⟨a, bs, rfl, hK ▸ ha, Post.bl k R⟩
  · obtain ⟨bs, e, k⟩ := h
    obtain ⟨x, rfl, rx⟩ := rd.one
    obtain ⟨a, vs, rfl, ha, ra, _⟩ := rx.asR R e
    obtain rfl := ra.bls_eq
    exact cr_any hc pins s σ H _ us Q I r ⟨a, bs, rfl, hK ▸ ha, Post.bl k R⟩
  · obtain ⟨ns, e, k⟩ := h
    obtain ⟨x, rfl, rx⟩ := rd.one
    obtain ⟨a, vs, rfl, ha, ra, _⟩ := rx.asR R e
    obtain rfl := ra.ints_eq
    exact cr_sum hc pins s σ H _ us Q I r ⟨a, ns, rfl, hK ▸ ha, Post.int k R⟩
  · obtain ⟨ys, e, k⟩ := h
    obtain ⟨x, rfl, rx⟩ := rd.one
    obtain ⟨a, vs, rfl, ha, ra, hz⟩ := rx.asRT R e
    exact call_list_of pins s σ H _ us Q I r ⟨a, vs, rfl, hK ▸ ha, newL_ok R ra hz k⟩
  · obtain ⟨x, y, rfl, rx, ry⟩ := rd.two
    refine call_isiG (m := m) hK tc kit I R rx ry r ?_
    simp only [biP]
    exact h
  · exact h.elim
theorem atI_rp {G : Hp} {vs : List V} {ds : List D} {k : Int} {d : D} (r : RpL W G vs ds) (h : atI ds k = some d) : ∃ v, atI vs k = some v ∧ Rp W G v d := by
  unfold atI at h ⊢
  rw [r.length]
  cases e : ixN ds.length k with
  | none => rw [e] at h; cases h
  | some j =>
    rw [e] at h
    exact r.get h
/-- xs[i], t[i], s[i] -/
theorem ix_ok (hK : W.K = X.K) : IxR X (rD2 W idxP) := by
  intro value slice pins s σ H x y v u Q I rx ry h hs
  obtain ⟨B, G, st, d, e, R, hd, he, h⟩ := h
  cases e <;> first | exact h.elim | skip
  rename_i k
  have seq : (∃ xs : List D, asRT st d = some xs ∧ (match atI xs k with
      | some d => Post W B G Q d st
      | none => False)) → wpAny (model X.prog X.w) X.A (subscriptTail value slice v u) (EP X pins σ Q) X.xe s := by
    rintro ⟨ys, e, q⟩
    obtain ⟨a, vs, rfl, ha, ra, _⟩ := hd.asRT R e
    cases he
    cases e2 : atI ys k with
    | none => rw [e2] at q; exact q.elim
    | some z =>
      rw [e2] at q
      obtain ⟨w, e3, rw'⟩ := atI_rp ra e2
      rcases ha with ha | ha
      · exact ix_list value slice pins s σ H _ _ v u Q I rx ry ⟨a, vs, k, w, rfl, rfl, hK ▸ ha, e3, q.go R rw'⟩ hs
      · exact ix_tup value slice pins s σ H _ _ v u Q I rx ry ⟨a, vs, k, w, rfl, rfl, hK ▸ ha, e3, q.go R rw'⟩ hs
  cases d <;> first | exact seq h | skip
  cases hd; cases he
  rename_i z
  obtain ⟨h1, q⟩ := h
  cases e2 : atI z.cps.toList k with
  | none => rw [e2] at q; exact q.elim
  | some c =>
    rw [e2] at q
    exact ix_str value slice pins s σ H _ _ v u Q I rx ry ⟨z, k, c, rfl, rfl, h1, e2, Post.str q R⟩ hs
theorem RpL.cut {G : Hp} {vs : List V} {ds : List D} (r : RpL W G vs ds) (lo hi : Option Int) : RpL W G (cutV vs lo hi) (cutL ds lo hi) := by
  unfold cutV cutL
  rw [r.length]
  exact (r.drop _).take _
def rSlD (W : Wd) (m : Bool) : V → Option Int → Option Int → Hp → VK → Prop := fun x lo hi H Q => ∃ B G st d, Rel W B G st H ∧ Rp W G x d ∧ slcP m d lo hi st (Post W B G Q)
theorem cutL_length {α : Type} (xs : List α) (lo hi : Option Int) : (cutL xs lo hi).length ≤ xs.length := by
  unfold cutL
  rw [List.length_take, List.length_drop]
  omega
theorem sl_ok (hK : W.K = X.K) (m : Bool) : SlR X (rSlD W m) := by
  intro pins s σ H x v vl vu lo hi sl Q I rx hs pl pu h
  obtain ⟨B, G, st, d, R, hd, h⟩ := h
  have seq : (∃ xs : List D, asR st d = some xs ∧ newL m (cutL xs lo hi) st (Post W B G Q)) → ∃ T id, typeLookup (.type T) "__getitem__" = pure (some (.builtin id)) ∧ s.TypeIs v T ∧ wpAny (model X.prog X.w) X.A (getItem v (.ref sl)) (EP X pins σ Q) X.xe s := by
    rintro ⟨ys, e, k⟩
    obtain ⟨a, vs, rfl, ha, ra, hz⟩ := hd.asR R e
    exact sl_list pins s σ H _ v vl vu lo hi sl Q I rx hs pl pu ⟨a, vs, rfl, hK ▸ ha, newL_ok R (ra.cut lo hi) (Nat.le_trans (cutL_length _ _ _) hz) k⟩
  cases d <;> first | exact seq h | exact h.elim | skip
  cases hd
  exact sl_str pins s σ H _ v vl vu lo hi sl Q I rx hs pl pu ⟨_, rfl, h.1, Post.str h.2 R⟩
/-- o[i] = d -/
def rSetD (W : Wd) : TSet := fun o i v H K => ∃ B G st od id d, Rel W B G st H ∧ Rp W G o od ∧ Rp W G i id ∧ Rp W G v d ∧ setP od id d st fun st' => ∀ G' H', Le G G' → Rel W B G' st' H' → K H'
theorem set_ok : PSet X (rSetD W) := by
  intro pins s σ H o i v ov iv u Q I ro ri rv h
  obtain ⟨B, G, st, od, id, d, R, hod, hid, hd, h⟩ := h
  unfold setP at h
  split at h
  · rename_i a k
    cases hod; cases hid
    cases e : st a with
    | none => rw [e] at h; exact h.elim
    | some so =>
      rw [e] at h
      obtain ⟨ho, x, y⟩ := R.obj _ _ e
      cases y with
      | lst r hz =>
        rename_i vs ds
        dsimp only at h
        cases e2 : ixN ds.length k with
        | none => rw [e2] at h; exact h.elim
        | some j =>
          rw [e2] at h
          refine set_list pins s σ H _ _ _ ov iv u Q I ro ri rv ⟨a, vs, k, j, rfl, rfl, x, by rw [r.length]; exact e2, h G _ (Le.refl G) ?_⟩
          exact R.put e (.lst (r.set j hd) (by rw [List.length_set]; exact hz))
      | _ => exact h.elim
  · exact h.elim
/-! ### methods of built-in types -/
def rBM (W : Wd) (m : Bool) (t : MT) : V → List V → Hp → VK → Prop := fun x xs H Q => ∃ B G st d ds, Rel W B G st H ∧ Rp W G x d ∧ RpL W G xs ds ∧ mtP m t d ds st (Post W B G Q)
theorem join_ok (hK : W.K = X.K) (m : Bool) : MtR X "str.join" (rBM W m .join) := by
  intro pins s σ H x xs v us Q I rx rv h
  obtain ⟨B, G, st, d, ds, R, hd, hds, h⟩ := h
  unfold mtP at h
  split at h
  · obtain ⟨ys, e, hz, k⟩ := h
    obtain ⟨y, rfl, ry⟩ := hds.one
    cases hd
    obtain ⟨a, vs, rfl, ha, ra, _⟩ := ry.asRT R e
    obtain rfl := ra.strs_eq
    exact mt_join pins s σ H _ _ v us Q I rx rv ⟨_, a, ys, rfl, rfl, hK ▸ ha, hz, Post.str k R⟩
  · exact absurd ‹MT.join = MT.append› (by decide)
  · exact h.elim
theorem append_ok (m : Bool) : MtR X "list.append" (rBM W m .append) := by
  intro pins s σ H x xs v us Q I rx rv h
  obtain ⟨B, G, st, d, ds, R, hd, hds, h⟩ := h
  unfold mtP at h
  split at h
  · exact absurd ‹MT.append = MT.join› (by decide)
  · rename_i a dd _
    obtain ⟨y, rfl, ry⟩ := hds.one
    cases hd
    cases e : st a with
    | none => rw [e] at h; exact h.elim
    | some so =>
      rw [e] at h
      obtain ⟨ho, x1, y1⟩ := R.obj _ _ e
      cases y1 with
      | lst r hz =>
        dsimp only at h
        refine mt_append pins s σ H _ _ v us Q I rx rv ⟨a, _, y, rfl, rfl, x1, by rw [r.length]; exact h.1, h.2 _ G _ (Le.refl G) ?_ .non⟩
        exact R.put e (.lst (r.snoc ry) (by rw [List.length_append]; exact h.1))
      | _ => exact h.elim
  · exact h.elim
end
end DL
/-! Attributes and methods. -/
namespace DL
open PySem PySem.Spec PyProof.Rows L2
section
variable {C : Cw} {W : Wd} {B G : Hp} {st : Sto} {H : Hp} {X : Cx} {pins : List (Addr × Obj)} {σ : L2.St} {s : Shared} {v : V} {d : D} {k : Nat}
theorem Rp.insOf (R : Rel W B G st H) (r : Rp W G v d) {c : Nat} {fs : List (Str × D)} (h : insOf st d = some (c, fs)) : ∃ a dx vs, v = .ref a ∧ H a = some (.ins (W.tau c) dx vs) ∧ RpF W G vs fs := by
  unfold DL.insOf at h
  split at h
  · cases h
    cases r with
    | ins e k r => exact ⟨_, _, _, rfl, R.sub _ _ e, k, r⟩
  · rename_i a
    cases r
    cases e : st a with
    | none => rw [e] at h; cases h
    | some o =>
      rw [e] at h
      obtain ⟨ho, x, y⟩ := R.obj _ _ e
      cases y with
      | ins ec r =>
        cases h
        subst ec
        exact ⟨_, _, _, rfl, x, r⟩
      | _ => cases h
  · cases h
/-- a property's getter -/
theorem getprop_g {f : Addr} {fd : FuncData} {ps : List Str} {sp : Sp} {a c p dx : Addr} {fs : List (Str × V)} {x : Str} {b : Bool} {E' : Value → Shared → Prop} {Q : VK} (F : FnG X.prog X.w X.K X.mg X.base k f fd ps sp) (gds : X.A.guards = some []) (room : Room (k + 1) X.A)
    (I : L2.Inv X pins σ H s) (at_ : H a = some (.ins c dx fs)) (cl : Cls X.K c) (pr : PropOf X.K c x p f) (bind : ∀ (s : Shared) (us : List Value), X.K.In s.heap → us.length = ps.length → BindsTo s fd ⟨us, []⟩ (ps.zip us))
    (h : sp [.ref a] H Q fun _ _ _ => False) : wpAny (model X.prog X.w) X.A (getAttr (.ref a) x b) (EP X pins σ Q) E' s := by
  obtain ⟨mA, O, _⟩ := ins_get I.hok at_
  obtain ⟨od, J, _⟩ := O.look
  obtain ⟨rest, hrec⟩ := pr.rec_
  have I1 := I.tok (s.toks + 1)
  obtain ⟨cd, hcd, _⟩ := PySem.W.any_some cl.hd
  have isc : (PySem.W.clsIn X.K c).isSome = true := by rw [hcd]; rfl
  have pg := PySem.W.plainGet_of (cl.get x)
  have len1 : [Value.ref a].length = ps.length := (F.len _ _ _ _ h)
  have go := F.run X.A.in1 X.stack { s with toks := s.toks + 1 } H ⟨[.ref a], []⟩ [.ref a] [.ref a] Q _ gds room.in1 I1.env0.in1 (bind _ _ I1.kIn len1) (.cons rfl .nil) h
  refine PySem.W.get_bind I.kIn J pg.1 (PySem.W.findObj_data isc pr.at_ pr.get pr.tak) pg.2 ?_
  refine wpAny_call (PySem.W.prop_get (s := { s with toks := s.toks + 1 }) I.kIn hrec (codeAny_mono go ?_))
  intro r s' hq
  match r, hq with
  | .error e, hq =>
    obtain ⟨_, _, _, _, _, _, _, _, _, _, _, _, z⟩ := hq
    exact z.elim
  | .ok .next, hq => exact hq.elim
  | .ok .brk, hq => exact hq.elim
  | .ok .cont, hq => exact hq.elim
  | .ok (.ret u), hq =>
    obtain ⟨v, H', I3, rv, q3⟩ := I1.after hq
    show wpAny _ _ (handedOut u) _ _ _
    rw [PySem.W.handedOut_of (handed_of rv)]
    exact wpAny_pure ⟨v, H', I3, rv, q3⟩
/-- d.x by values -/
theorem attr_ok (GL : Glob C W k X.prog X.w X.mg X.base) (hK : W.K = X.K) (gds : X.A.guards = some []) (room : Room (k + 1) X.A) {x : Str} {b : Bool} {u : Value} {E' : Value → Shared → Prop} {Q : VK}
    (I : L2.Inv X pins σ H s) (R : Rel W B G st H) (rd : Rp W G v d) (ru : RelV v u) (h : attrP C x d st (Post W B G Q)) : wpAny (model X.prog X.w) X.A (getAttr u x b) (EP X pins σ Q) E' s := by
  unfold attrP at h
  cases e : insOf st d with
  | some q =>
    obtain ⟨c, fs⟩ := q
    rw [e] at h
    dsimp only at h
    obtain ⟨hc, h⟩ := h
    obtain ⟨a, dx, vs, rfl, ha, rf⟩ := rd.insOf R e
    cases ru
    have co := GL.cls c hc
    cases e1 : (C.T.cls c).prs.lookup x with
    | some g =>
      rw [e1] at h
      obtain ⟨p, hp⟩ := co.prp x g e1
      obtain ⟨fd, ps, F, h1, _, h2⟩ := GL.fn g (C.ok h).1
      refine getprop_g (hK ▸ F) gds room I ha (hK ▸ co.ty.cl) (hK ▸ hp) (fun s us i => h2 s us (hK ▸ i)) ?_
      exact ⟨B, G, st, [d], R, .cons rd .nil, C.mono (fun _ _ z => z) (fun _ _ z => z.elim) h⟩
    | none =>
      rw [e1] at h
      dsimp only at h
      cases e2 : (C.T.cls c).cns.lookup x with
      | some dd =>
        rw [e2] at h
        obtain ⟨v, u, mc, k1, k2, k3, k4⟩ := co.con x dd e2
        exact getcon_ok I ha (hK ▸ co.ty.cl) (hK ▸ k1) (rf.none h.1) fun s2 I2 => ⟨v, H, I2, k1.rel, h.2.go R (k2 G)⟩
      | none =>
        rw [e2] at h
        dsimp only at h
        obtain ⟨hf, h⟩ := h
        cases e3 : fs.lookup x with
        | none => rw [e3] at h; exact h.elim
        | some dd =>
          rw [e3] at h
          obtain ⟨w, e4, r4⟩ := rf.look e3
          exact getattr_ok I ha (hK ▸ co.ty.cl) (hK ▸ co.fld x hf) e4 fun u' s2 I2 ru => ⟨w, H, I2, ru, h.go R r4⟩
  | none =>
    rw [e] at h
    cases d <;> first | exact h.elim | skip
    rename_i c
    obtain ⟨hc, h⟩ := h
    cases rd
    cases ru
    have co := GL.cls c hc
    cases e2 : (C.T.cls c).cns.lookup x with
    | none => rw [e2] at h; exact h.elim
    | some dd =>
      rw [e2] at h
      obtain ⟨v, u, mc, k1, k2, k3, k4⟩ := co.con x dd e2
      exact ClX.getcval_ok I (hK ▸ k3) (hK ▸ k4) fun s2 I2 => ⟨v, H, I2, k1.rel, h.go R (k2 G)⟩
end
end DL
/-! Calls of methods. -/
namespace DL
open PySem PySem.Spec PyProof.Rows L2
theorem star_all {pos : Pos} {env : PySem.Env} : ∀ {es : List Expr}, es.all plainX = true → (backTo pos (starEach es env)).all (fun x => !x.1) = true
  | [], _ => rfl
  | e :: es, h => by
    simp only [List.all_cons, Bool.and_eq_true] at h
    rw [star_plain h.1]
    show (true && (backTo pos (starEach es env)).all (fun x => !x.1)) = true
    rw [Bool.true_and]
    exact star_all h.2
theorem few_ok {pos : Pos} {env : PySem.Env} {es : List Expr} (h : es.all plainX = true) (hn : es.length < 30) : methodCallForm (es.length + ([] : List Keyword).length) (backTo pos (starEach es env)) (backToKw pos (keywordEach [] env)) = true := by
  unfold methodCallForm
  rw [star_all h]
  show (true && true && decide (es.length + 0 + 0 < 30)) = true
  simp [hn]
/-- o.m(..) by the method that is found -/
theorem call_meth_eq {o : Expr} {m : Str} {apos pos : Pos} {es : List Expr} {env : PySem.Env} (h : es.all plainX = true) (hn : es.length < 30) (hs : superX o = false) (hl : (apos.endLine == pos.line) = true) :
    eval (.Call (.Attribute o m apos) es [] pos) env = (do
      let ov ← eval o env
      standAt apos.atName
      let (f, first) ← holding [ov] (getMethod ov m (do return (← importBound o env).getD true))
      callWith pos f first (backTo pos (starEach es env)) (backToKw pos (keywordEach [] env))) := by
  show (do
    let ov ← attributeBase o m env (eval o env)
    standAt apos.atName
    methodCall o m apos pos env ov (es.length + ([] : List Keyword).length) (backTo pos (starEach es env)) (backToKw pos (keywordEach [] env))) = _
  rw [base_plain hs]
  have few := few_ok (pos := pos) (env := env) h hn
  simp only [methodCall, few, calleeOf, methodCallPos, hl, if_true, Bool.not_true, Bool.false_or, pure_bind]
section
variable {C : Cw} {W : Wd} {X : Cx} {k : Nat} {Wx : WX} {o : Expr} {m : Str} {apos pos : Pos} {es : List Expr} {to : TE} {t : TA}
/-- o.m(e, ..), a def of o's class, or a classmethod of the class o: the def g and the arguments' reading t are told behind o -/
theorem pe_methG (GL : Glob C W k X.prog X.w X.mg X.base) (hK : W.K = X.K) (gds : X.A.guards = some []) (room : Room k X.A) (tk : Takes X Wx) (ho : PE X o to) (args : PA X es t) (pl : es.all plainX = true) (hn : es.length < 30) (hs : superX o = false) (hl : (apos.endLine == pos.line) = true)
    (nn : es = [] → ∀ σ H Q, t σ H Q → Q [] H) :
    PE X (.Call (.Attribute o m apos) es [] pos) (fun σ H Q => to σ H fun v H1 => ∃ B G st d g, Rel W B G st H1 ∧ Rp W G v d ∧ methD C.T m d st es.length = some g ∧ C.T.isFn g = true ∧ t σ H1 fun vs H2 => spG C W g (v :: vs) H2 Q fun c d H' => Wx c d σ H') := by
  constructor
  intro pins s σ H Q I h
  refine PySem.W.methodCall_KW (thn (ho.run pins s σ H _ I h) fun u s1 ⟨v, H1, I1, rv, q⟩ => ?_) (call_meth_eq pl hn hs hl)
  obtain ⟨B, G, st, d, g, R, rd, hm, hf, q⟩ := q
  obtain ⟨fd, ps, F, h1, _, h2⟩ := GL.fn g hf
  rw [hK] at F
  rw [hK] at h2
  unfold methD at hm
  cases e : insOf st d with
  | some z =>
    obtain ⟨c, fs⟩ := z
    rw [e] at hm
    dsimp only at hm
    split at hm
    · rename_i hc
      obtain ⟨a, dx, ws, rfl, ha, rf⟩ := rd.insOf R e
      cases rv
      have co := GL.cls c hc.1
      have mt := co.mth m g hm
      rw [hK] at mt
      have nof : ws.lookup m = none := rf.none (Option.isNone_iff_eq_none.mp hc.2)
      refine getmeth_ok I1 ha (hK ▸ co.ty.cl) mt nof ?_
      have run : ∀ (s2 : Shared) (H2 : Hp) (us : List Value) (vs : List V), L2.Inv X pins σ H2 s2 → Vals vs us → (spG C W g (.ref a :: vs) H2 Q fun c d H' => Wx c d σ H') → wpAny (model X.prog X.w) X.A (call (.ref (W.tau g)) (.ref a :: us)) (EP X pins σ Q) X.xe s2 :=
        fun s2 H2 us vs I2 r z => run_g F gds room tk I2 (h2 s2 _ I2.kIn (by rw [List.length_cons, ← r.length]; exact F.len _ _ _ _ z)) (.cons (show RelV (.ref a) (.ref a) from rfl) r) z
      cases es with
      | nil => exact PySem.W.callWith_K0 (first := [.ref a]) I1.kIn mt.kp (run s1 H1 [] [] I1 .nil (nn rfl _ _ _ q))
      | cons x es =>
        simp only [List.all_cons, Bool.and_eq_true] at pl
        apply PySem.W.callWith_K (first := [.ref a]) I.ok.mod.kin mt.kp _ (star_plain pl.1 es X.env) (star_any pl.2)
        exact thn (args.run pos pins s1 σ H1 _ I1 q) fun us s2 ⟨vs, H2, I2, r, z⟩ => ⟨I2.kIn, run s2 H2 us vs I2 r z⟩
    · cases hm
  | none =>
    rw [e] at hm
    cases d <;> first | cases hm | skip
    rename_i c
    dsimp only at hm
    split at hm
    · rename_i hc
      cases rd
      cases rv
      have co := GL.cls c hc.1
      obtain ⟨mc, p, cr, cm⟩ := co.cmt m g hm
      rw [hK] at cr cm
      refine ClX.getmethcm_ok I1 cr cm fun s2 I2 => ?_
      have run : ∀ (s3 : Shared) (H2 : Hp) (us : List Value) (vs : List V), L2.Inv X ((s1.heap.objs.size, PySem.W.methodObj (.ref (W.tau g)) (.ref (W.tau c))) :: pins) σ H2 s3 → Vals vs us → (spG C W g (.ref (W.tau c) :: vs) H2 Q fun c d H' => Wx c d σ H') →
          wpAny (model X.prog X.w) X.A (call (.ref s1.heap.objs.size) us) (EP X pins σ Q) X.xe s3 :=
        fun s3 H2 us vs I3 r z => by
          have go := code_g F gds room tk I3 (h2 s3 (.ref (W.tau c) :: us) I3.kIn (by rw [List.length_cons, ← r.length]; exact F.len _ _ _ _ z)) (.cons (show RelV (.ref (W.tau c)) (.ref (W.tau c)) from rfl) r) z
          have z : wpAny (model X.prog X.w) X.A (call (.ref s1.heap.objs.size) us) (EP X ((s1.heap.objs.size, PySem.W.methodObj (.ref (W.tau g)) (.ref (W.tau c))) :: pins) σ Q) X.xe s3 :=
            wpAny_call (PySem.W.method_call (ClX.pin_at I3) (codeAny_mono go fun res s' q => by
              cases res with
              | error e => exact q
              | ok fl => cases fl <;> first | exact q | exact q.elim))
          exact thn z fun _ _ y => ClX.unpinE y
      cases es with
      | nil => exact absurd rfl hc.2
      | cons x es =>
        simp only [List.all_cons, Bool.and_eq_true] at pl
        refine ClX.callwith_cm I2 (ClX.base_none I1 (Nat.le_refl _)) cm.fi (thn (args.run pos _ s2 σ H1 _ I2 q) fun us s3 ⟨vs, H2, I3, r, z⟩ => ⟨⟨ClX.pin_at I3, I3.kIn⟩, run s3 H2 us vs I3 r z⟩) (star_plain pl.1 es X.env) (star_any pl.2)
    · cases hm
end
end DL
/-! The text against the small language: a test that can be run. -/
namespace DL
open PySem PySem.Spec PyProof.Rows L2
mutual
def eqD : D → D → Bool
  | .non, .non => true
  | .bl a, .bl b => a == b
  | .int a, .int b => a == b
  | .str a, .str b => a == b
  | .ty a, .ty b => a == b
  | .lst a, .lst b => eqDs a b
  | .tup a, .tup b => eqDs a b
  | .rol a, .rol b => eqDs a b
  | .glo a, .glo b => a == b
  | .ins a b, .ins c d => a == c && eqFs b d
  | _, _ => false
def eqDs : List D → List D → Bool
  | [], [] => true
  | a :: r, b :: s => eqD a b && eqDs r s
  | _, _ => false
def eqFs : List (Str × D) → List (Str × D) → Bool
  | [], [] => true
  | (x, a) :: r, (y, b) :: s => x == y && eqD a b && eqFs r s
  | _, _ => false
end
mutual
theorem eqD_ok : ∀ (a b : D), eqD a b = true → a = b
  | .non, b, h => by cases b <;> first | rfl | cases h
  | .bl a, b, h => by cases b <;> first | (cases h; done) | (rw [eqD, beq_iff_eq] at h; rw [h])
  | .int a, b, h => by cases b <;> first | (cases h; done) | (rw [eqD, beq_iff_eq] at h; rw [h])
  | .str a, b, h => by cases b <;> first | (cases h; done) | (rw [eqD, beq_iff_eq] at h; rw [h])
  | .ty a, b, h => by cases b <;> first | (cases h; done) | (rw [eqD, beq_iff_eq] at h; rw [h])
  | .glo a, b, h => by cases b <;> first | (cases h; done) | (rw [eqD, beq_iff_eq] at h; rw [h])
  | .lst a, b, h => by cases b <;> first | (cases h; done) | (rw [eqD] at h; rw [eqDs_ok a _ h])
  | .tup a, b, h => by cases b <;> first | (cases h; done) | (rw [eqD] at h; rw [eqDs_ok a _ h])
  | .rol a, b, h => by cases b <;> first | (cases h; done) | (rw [eqD] at h; rw [eqDs_ok a _ h])
  | .ins a fs, b, h => by
    cases b <;> first | (cases h; done) | skip
    rw [eqD, Bool.and_eq_true, beq_iff_eq] at h
    rw [h.1, eqFs_ok fs _ h.2]
  | .dic _, b, h => by cases b <;> cases h
  | .loc _, b, h => by cases b <;> cases h
  | .exn _ _, b, h => by cases b <;> cases h
theorem eqDs_ok : ∀ (a b : List D), eqDs a b = true → a = b
  | [], b, h => by cases b <;> first | rfl | cases h
  | a :: r, b, h => by
    cases b with
    | nil => cases h
    | cons b s =>
      rw [eqDs, Bool.and_eq_true] at h
      rw [eqD_ok a b h.1, eqDs_ok r s h.2]
theorem eqFs_ok : ∀ (a b : List (Str × D)), eqFs a b = true → a = b
  | [], b, h => by cases b <;> first | rfl | cases h
  | (x, a) :: r, b, h => by
    cases b with
    | nil => cases h
    | cons b s =>
      obtain ⟨y, b⟩ := b
      rw [eqFs, Bool.and_eq_true, Bool.and_eq_true, beq_iff_eq] at h
      rw [h.1.1, eqD_ok a b h.1.2, eqFs_ok r s h.2]
end
def eqSel : List (Nat ⊕ D) → List (Nat ⊕ D) → Bool
  | [], [] => true
  | .inl i :: r, .inl j :: s => i == j && eqSel r s
  | .inr a :: r, .inr b :: s => eqD a b && eqSel r s
  | _, _ => false
theorem eqSel_ok : ∀ (a b : List (Nat ⊕ D)), eqSel a b = true → a = b
  | [], [], _ => rfl
  | .inl i :: r, .inl j :: s, h => by
    rw [eqSel, Bool.and_eq_true, beq_iff_eq] at h
    rw [h.1, eqSel_ok r s h.2]
  | .inr a :: r, .inr b :: s, h => by
    rw [eqSel, Bool.and_eq_true] at h
    rw [eqD_ok a b h.1, eqSel_ok r s h.2]
  | [], _ :: _, h => by cases h
  | .inl _ :: _, [], h => by cases h
  | .inr _ :: _, [], h => by cases h
  | .inl _ :: _, .inr _ :: _, h => by cases h
  | .inr _ :: _, .inl _ :: _, h => by cases h
/-- such a call is in the table -/
def kwB (T : Tb) (g n : Nat) (ks : List Str) (sel : List (Nat ⊕ D)) : Bool := T.kws.any fun q => q.1 == g && q.2.1 == n && decide (q.2.2.1 = ks) && eqSel q.2.2.2 sel
theorem kwB_ok {T : Tb} {g n : Nat} {ks : List Str} {sel : List (Nat ⊕ D)} (h : kwB T g n ks sel = true) : (g, n, ks, sel) ∈ T.kws := by
  unfold kwB at h
  rw [List.any_eq_true] at h
  obtain ⟨⟨g', n', ks', sel'⟩, hm, h⟩ := h
  simp only [Bool.and_eq_true, beq_iff_eq, decide_eq_true_eq] at h
  obtain ⟨⟨⟨rfl, rfl⟩, rfl⟩, h⟩ := h
  rw [← eqSel_ok _ _ h]
  exact hm
def tyName (x : Str) (n : String) : Bool := match bootBuiltins x with
  | some (.type m) => m == n
  | _ => false
def biName (x : Str) (b : BI) : Bool := match bootBuiltins x, b.val with
  | some (.builtin a), .builtin c => a == c
  | some (.type a), .type c => a == c
  | _, _ => false
def cstB : D → Const → Bool
  | .non, .none => true
  | .bl a, .bool b => a == b
  | .int a, .int b => a == b
  | .str a, .str b => a == b
  | _, _ => false
def Es.isNil : Es → Bool
  | .nil => true
  | _ => false
def isNone : E → Bool
  | .cst .non => true
  | _ => false
def MT.name : MT → Str
  | .join => "join"
  | .append => "append"
  | .extend => "extend"
  | .pop => "pop"
  | .insert => "insert"
  | .reverse => "reverse"
  | .clear => "clear"
  | .remove => "remove"
  | .index => "index"
  | .count => "count"
  | .get => "get"
  | .items => "items"
  | .split => "split"
  | .values => "values"
  | .keys => "keys"
  | .update => "update"
/-- what the rules are there for -/
def MT.known : MT → Bool
  | .join => true
  | .append => true
  | _ => false
def BI.known : BI → Bool
  | .tuple => false
  | .sorted => false
  | .bool => false
  | .int => false
  | .dict => false
  | .set => false
  | _ => true
def namB (x : Str) : Bool := !(x == ("__debug__" : Str)) && !(x == ("__classdict__" : Str)) && !(x == ("__name__" : Str))
/-- a test that is asked by its own form, or plainly -/
def tstB : E → Expr → Bool
  | .not a, x => match x with
    | .UnaryOp .Not y _ => tstB a y
    | _ => false
  | .and a b, x => match x with
    | .BoolOp .And (y :: z :: r) pos => tstB a y && (if r.isEmpty then tstB b z else tstB b (.BoolOp .And (z :: r) pos))
    | _ => false
  | .or a b, x => match x with
    | .BoolOp .Or (y :: z :: r) pos => tstB a y && (if r.isEmpty then tstB b z else tstB b (.BoolOp .Or (z :: r) pos))
    | _ => false
  | .nv, _ => true
  | .cmp _ _ _, _ => true
  | .chain _ _ _ _ _, _ => true
  | _, x => plainT x
mutual
def slotsP : Pt → List Nat
  | .nm i => [i]
  | .tup ps => slotsPs ps
  | .sub _ _ => []
def slotsPs : Pts → List Nat
  | .nil => []
  | .cons p ps => slotsP p ++ slotsPs ps
end
/-- the keys and values of a display, in the order they are worked out -/
def interX : List (Option Expr) → List Expr → List Expr
  | some k :: ks, v :: vs => k :: v :: interX ks vs
  | _, _ => []
section
variable (T : Tb) (N : List Str)
mutual
def chkE : Scope → E → Expr → Bool
  | sc, .var i, x => match x with
    | .Name y _ => N[i]? == some y && visB sc y && namB y
    | _ => false
  | _, .exf _ _, _ => false
  | _, .nv, _ => true
  | _, .cst d, x => match x with
    | .Constant c _ _ => cstB d c
    | _ => false
  | sc, .gcon n d, x => match x with
    | .Name y _ => y == n && glB sc y && namB y && (match T.cons.lookup y with
      | some d' => eqD d d'
      | none => false)
    | _ => false
  | sc, .gref n g, x => match x with
    | .Name y _ => y == n && glB sc y && namB y && T.fns.lookup y == some g
    | _ => false
  | sc, .bty n t, x => match x with
    | .Name y _ => y == n && glB sc y && namB y && T.blts.contains y && tyName y t
    | _ => false
  | sc, .bin _ op a b, x => match x with
    | .BinOp y op' z _ => decide (op = op') && chkE sc a y && chkE sc b z
    | _ => false
  | sc, .neg a, x => match x with
    | .UnaryOp .USub y _ => chkE sc a y
    | _ => false
  | sc, .not a, x => match x with
    | .UnaryOp .Not y _ => chkE sc a y
    | _ => false
  | sc, .and a b, x => match x with
    | .BoolOp .And (y :: z :: r) pos => chkE sc a y && (if r.isEmpty then chkE sc b z else chkE sc b (.BoolOp .And (z :: r) pos))
    | _ => false
  | sc, .or a b, x => match x with
    | .BoolOp .Or (y :: z :: r) pos => chkE sc a y && (if r.isEmpty then chkE sc b z else chkE sc b (.BoolOp .Or (z :: r) pos))
    | _ => false
  | sc, .cmp op a b, x => match x with
    | .Compare y [op'] [z] _ => decide (op = op') && plainX z && chkE sc a y && chkE sc b z
    | _ => false
  | sc, .chain op1 op2 a b c, x => match x with
    | .Compare y [op1', op2'] [z, w] _ => decide (op1 = op1') && decide (op2 = op2') && plainX w && chkE sc a y && chkE sc b z && chkE sc c w
    | _ => false
  | sc, .ife c a b, x => match x with
    | .IfExp z y w _ => tstB c z && chkE sc c z && chkE sc a y && chkE sc b w
    | _ => false
  | sc, .tup es, x => match x with
    | .Tuple xs _ _ => chkEs sc es xs && xs.all plainX && decide (xs.length ≤ 1000)
    | _ => false
  | sc, .lst _ es, x => match x with
    | .List xs _ => chkEs sc es xs && xs.all plainX && decide (xs.length ≤ 1000)
    | _ => false
  | sc, .dct _ kvs, x => match x with
    | .Dict ks vs _ => ks.all (·.isSome) && ks.length == vs.length && decide (ks.length ≤ 15) && chkEs sc kvs (interX ks vs)
    | _ => false
  | sc, .idx a b, x => match x with
    | .Subscript y z _ => plainX z && chkE sc a y && chkE sc b z
    | _ => false
  | sc, .slc _ a lo hi, x => match x with
    | .Subscript y (.Slice l h none _) _ => chkE sc a y && (match l with
        | none => isNone lo
        | some l => chkE sc lo l) && (match h with
        | none => isNone hi
        | some h => chkE sc hi h)
    | _ => false
  | sc, .call n g es, x => match x with
    | .Call (.Name y _) xs [] _ => y == n && glB sc y && namB y && T.fns.lookup y == some g && T.isFn g && xs.all plainX && chkEs sc es xs
    | _ => false
  | sc, .callk n g es ks kes sel, x => match x with
    | .Call (.Name y _) xs kws _ => y == n && glB sc y && namB y && T.fns.lookup y == some g && T.isFn g && xs.all plainX && chkEs sc es xs && chkKs sc kes ks kws && kwB T g es.len ks sel
    | _ => false
  | sc, .make n g es, x => match x with
    | .Call (.Name y _) xs [] _ => y == n && glB sc y && namB y && T.fns.lookup y == some g && T.isCls g && T.isFn (T.cls g).init && xs.all plainX && chkEs sc es xs
    | _ => false
  | sc, .bi _ n b es, x => match x with
    | .Call (.Name y _) xs [] _ => y == n && glB sc y && namB y && T.blts.contains y && biName y b && b.known && !xs.isEmpty && xs.all plainX && chkEs sc es xs
    | _ => false
  | sc, .bm _ t o es, x => match x with
    | .Call (.Attribute y m ap) xs [] pos => m == t.name && t.known && !superX y && (ap.endLine == pos.line) && !xs.isEmpty && decide (xs.length < 30) && xs.all plainX && chkE sc o y && chkEs sc es xs
    | _ => false
  | sc, .meth m o es, x => match x with
    | .Call (.Attribute y m' ap) xs [] pos => m == m' && !superX y && (ap.endLine == pos.line) && decide (xs.length < 30) && xs.all plainX && chkE sc o y && chkEs sc es xs
    | _ => false
  | sc, .attr n o, x => match x with
    | .Attribute y m _ => m == n && !superX y && chkE sc o y
    | _ => false
  | sc, .comp _ elt tg it ifs own, x => match x with
    | .ListComp e [⟨t, i, fs, 0⟩] scope _ => chkIt sc it t i && plainX i && own.all (fun j => decide (j < N.length) && (locB scope (N.getD j "") || celB scope (N.getD j ""))) && blkC N sc scope (own.map fun j => (N.getD j "", j)) && (match fs with
        | [] => ifs.isNil
        | [f] => (match ifs with
          | .cons c .nil => tstB c f
          | _ => false)
        | _ => false) && chkEs (relS scope sc) ifs fs && chkP (relS scope sc) tg t && (slotsP tg).all (fun j => own.contains j) && chkE (relS scope sc) elt e
    | _ => false
  | sc, .frz a, x => chkE sc a x
def chkEs : Scope → Es → List Expr → Bool
  | _, .nil, [] => true
  | sc, .cons e es, x :: xs => chkE sc e x && chkEs sc es xs
  | _, _, _ => false
def chkKs : Scope → Es → List Str → List Keyword → Bool
  | _, .nil, [], [] => true
  | sc, .cons e es, k :: ks, x :: xs => decide (x.arg = some k) && chkE sc e x.value && chkKs sc es ks xs
  | _, _, _, _ => false
def chkP : Scope → Pt → Expr → Bool
  | sc, .nm i, x => match x with
    | .Name y _ => N[i]? == some y && (locB sc y || celB sc y)
    | _ => false
  | sc, .tup ps, x => match x with
    | .Tuple xs _ _ => xs.all plainX && chkPs sc ps xs
    | _ => false
  | sc, .sub o i, x => match x with
    | .Subscript y z _ => plainX z && chkE sc o y && chkE sc i z
    | _ => false
def chkPs : Scope → Pts → List Expr → Bool
  | _, .nil, [] => true
  | sc, .cons p ps, x :: xs => chkP sc p x && chkPs sc ps xs
  | _, _, _ => false
def chkIt : Scope → It → Expr → Expr → Bool
  | sc, .ex e, _, x => chkE sc e x
  | sc, .range1 a, _, x => match x with
    | .Call (.Name y _) [z] [] _ => y == ("range" : Str) && glB sc y && T.blts.contains y && plainX z && chkE sc a z
    | _ => false
  | sc, .range2 a b, _, x => match x with
    | .Call (.Name y _) [z, w] [] _ => y == ("range" : Str) && glB sc y && T.blts.contains y && plainX z && plainX w && chkE sc a z && chkE sc b w
    | _ => false
  | sc, .enum e, tg, x => match tg with
    | .Tuple _ _ _ => (match x with
      | .Call (.Name y _) [z] [] _ => y == ("enumerate" : Str) && glB sc y && T.blts.contains y && plainX z && chkE sc e z
      | _ => false)
    | _ => false
  | sc, .zip a b, tg, x => match tg with
    | .Tuple _ _ _ => (match x with
      | .Call (.Name y _) [z, w] [] _ => y == ("zip" : Str) && glB sc y && T.blts.contains y && plainX z && plainX w && chkE sc a z && chkE sc b w
      | _ => false)
    | _ => false
end
end
end DL
/-! What a loop or a list comprehension walks. -/
namespace DL
open PySem PySem.Spec PyProof.Rows L2
/-- the walk J is over xs, as long as stb holds -/
def WkJ (W : Wd) (G0 : Hp) (J : L2.It) (xs : List D) (stb : Sto → Prop) : Prop := ∀ i B G st H, Le G0 G → Rel W B G st H → stb st →
  (xs.length ≤ i → J.stop i H) ∧ ∀ d, xs[i]? = some d → J.go i H ∧ ∀ v H', J.yld i H v H' → ∃ G', Le G G' ∧ Rel W B G' st H' ∧ Rp W G' v d
theorem RpL.at {W : Wd} {G : Hp} {vs : List V} {ds : List D} (r : RpL W G vs ds) {i : Nat} {v : V} {d : D} (hv : vs[i]? = some v) (hd : ds[i]? = some d) : Rp W G v d := by
  obtain ⟨d', e, q⟩ := r.get' hv
  rw [hd] at e; cases e
  exact q
section
variable {W : Wd} {G0 : Hp} {K : PySem.W.Frag} {a b : Addr} {xs ys : List D} {stb : Sto → Prop}
theorem wk_list (h : ∀ B G st H, Le G0 G → Rel W B G st H → stb st → ∃ vs, SqL K H a vs ∧ RpL W G vs xs) : WkJ W G0 (Itl K a) xs stb := by
  intro i B G st H e R k
  obtain ⟨vs, hq, r⟩ := h B G st H e R k
  refine ⟨fun hl => ⟨vs, hq, by rw [r.length]; exact hl⟩, fun d hd => ?_⟩
  obtain ⟨v, hv, _⟩ := r.get hd
  refine ⟨⟨vs, v, hq, hv⟩, fun u H' ⟨e1, e2⟩ => ?_⟩
  subst e1
  exact ⟨G, Le.refl G, R, r.at (e2 vs hq) hd⟩
theorem wk_tuple (h : ∀ B G st H, Le G0 G → Rel W B G st H → stb st → ∃ vs, SqT K H a vs ∧ RpL W G vs xs) : WkJ W G0 (Itt K a) xs stb := by
  intro i B G st H e R k
  obtain ⟨vs, hq, r⟩ := h B G st H e R k
  refine ⟨fun hl => ⟨vs, hq, by rw [r.length]; exact hl⟩, fun d hd => ?_⟩
  obtain ⟨v, hv, _⟩ := r.get hd
  refine ⟨⟨vs, v, hq, hv⟩, fun u H' ⟨e1, e2⟩ => ?_⟩
  subst e1
  exact ⟨G, Le.refl G, R, r.at (e2 vs hq) hd⟩
theorem wk_str {s : Str} : WkJ W G0 (Its s) (s.cps.toList.map fun c => .str ⟨#[c]⟩) stb := by
  intro i B G st H e R k
  refine ⟨fun hl => (show s.cps.size ≤ i by simpa using hl), fun d hd => ?_⟩
  rw [List.getElem?_map, Option.map_eq_some_iff] at hd
  obtain ⟨c, hc, rfl⟩ := hd
  have hc' : s.cps[i]? = some c := by rw [← hc]; simp
  refine ⟨?_, fun u H' ⟨e1, c', e2, e3⟩ => ?_⟩
  · obtain ⟨hlt, _⟩ := Array.getElem?_eq_some_iff.mp hc'
    exact hlt
  · subst e1 e3
    rw [hc'] at e2; cases e2
    exact ⟨G, Le.refl G, R, .str _⟩
theorem rngD_at {lo : Int} {n i : Nat} {d : D} (h : (rngD lo n)[i]? = some d) : i < n ∧ d = .int (lo + (i : Nat)) := by
  unfold rngD at h
  rw [List.getElem?_map, Option.map_eq_some_iff] at h
  obtain ⟨j, hj, rfl⟩ := h
  rw [List.getElem?_eq_some_iff] at hj
  obtain ⟨hlt, e⟩ := hj
  rw [List.getElem_range] at e
  rw [List.length_range] at hlt
  exact ⟨hlt, by rw [e]⟩
theorem rngD_length (lo : Int) (n : Nat) : (rngD lo n).length = n := by unfold rngD; simp
theorem wk_range {lo : Int} {n : Nat} : WkJ W G0 (Itr lo n) (rngD lo n) stb := by
  intro i B G st H e R k
  refine ⟨fun hl => by rw [rngD_length] at hl; exact hl, fun d hd => ?_⟩
  obtain ⟨h1, rfl⟩ := rngD_at hd
  refine ⟨h1, fun u H' ⟨e1, e2⟩ => ?_⟩
  subst e1 e2
  exact ⟨G, Le.refl G, R, .int _⟩
theorem pair_new {B G : Hp} {st : Sto} {H : Hp} {p : Addr} {x y : V} {d e : D} (R : Rel W B G st H) (hp : H p = none) (rx : Rp W G x d) (ry : Rp W G y e) :
    ∃ G', Le G G' ∧ Rel W B G' st (upd H p (.tup [x, y])) ∧ Rp W G' (.ref p) (.tup [d, e]) := by
  obtain ⟨R2, le⟩ := R.frz hp (.tup [x, y])
  exact ⟨_, le, R2, .tup (.inl (.inl (upd_same ..))) (.cons (rx.mono le) (.cons (ry.mono le) .nil)) (by show 2 ≤ sizeLine; decide)⟩
theorem wk_enum (h : ∀ B G st H, Le G0 G → Rel W B G st H → stb st → ∃ vs, SqL K H a vs ∧ RpL W G vs xs) : WkJ W G0 (Ite K a) (enumD xs) stb := by
  intro i B G st H e R k
  obtain ⟨vs, hq, r⟩ := h B G st H e R k
  refine ⟨fun hl => ⟨vs, hq, by rw [r.length]; simpa [enumD] using hl⟩, fun d hd => ?_⟩
  unfold enumD at hd
  rw [List.getElem?_map, Option.map_eq_some_iff] at hd
  obtain ⟨⟨x, j⟩, hx, rfl⟩ := hd
  rw [List.getElem?_zipIdx, Option.map_eq_some_iff] at hx
  obtain ⟨x', hx', e'⟩ := hx
  cases e'
  obtain ⟨v, hv, _⟩ := r.get hx'
  refine ⟨⟨vs, v, hq, hv⟩, fun u H' ⟨p, y, e1, e2, e3, e4⟩ => ?_⟩
  subst e1 e3
  have := r.at (e4 vs hq) hx'
  simpa using pair_new R e2 (.int (i : Nat)) this
theorem wk_zip (h : ∀ B G st H, Le G0 G → Rel W B G st H → stb st → (∃ vs, SqL K H a vs ∧ RpL W G vs xs) ∧ ∃ us, SqL K H b us ∧ RpL W G us ys) : WkJ W G0 (Itz K a b) (zipD xs ys) stb := by
  intro i B G st H e R k
  obtain ⟨⟨vs, hq, r⟩, us, hq2, r2⟩ := h B G st H e R k
  refine ⟨fun hl => ⟨vs, us, hq, hq2, ?_⟩, fun d hd => ?_⟩
  · rw [r.length, r2.length]
    unfold zipD at hl
    rw [List.length_map, List.length_zip] at hl
    omega
  · unfold zipD at hd
    rw [List.getElem?_map, Option.map_eq_some_iff] at hd
    obtain ⟨⟨x, y⟩, hx, rfl⟩ := hd
    rw [List.getElem?_zip_eq_some] at hx
    obtain ⟨v, hv, _⟩ := r.get hx.1
    obtain ⟨u, hu, _⟩ := r2.get hx.2
    refine ⟨⟨vs, us, v, u, hq, hq2, hv, hu⟩, fun w H' ⟨p, x', y', e1, e2, e3, e4, e5⟩ => ?_⟩
    subst e1 e3
    exact pair_new R e2 (r.at (e4 vs hq) hx.1) (r2.at (e5 us hq2) hx.2)
end
/-- slots that alone may have changed -/
def Same (vs : List Nat) (σ σ' : L2.St) : Prop := σ'.length = σ.length ∧ ∀ i, i ∉ vs → σ'[i]? = σ[i]?
theorem Same.refl (vs : List Nat) (σ : L2.St) : Same vs σ σ := ⟨rfl, fun _ _ => rfl⟩
theorem Same.mono {vs us : List Nat} {σ σ' : L2.St} (h : Same vs σ σ') (e : ∀ i ∈ vs, i ∈ us) : Same us σ σ' := ⟨h.1, fun i hi => h.2 i fun z => hi (e i z)⟩
theorem Same.trans {vs us : List Nat} {σ σ1 σ2 : L2.St} (h : Same vs σ σ1) (k : Same us σ1 σ2) : Same (vs ++ us) σ σ2 :=
  ⟨k.1.trans h.1, fun i hi => by rw [List.mem_append, not_or] at hi; exact (k.2 i hi.2).trans (h.2 i hi.1)⟩
theorem wipe_at {σ : L2.St} : ∀ {vs : List Nat} {i : Nat}, (wipe σ vs)[i]? = if i ∈ vs ∧ i < σ.length then some none else σ[i]?
  | [], i => by simp [wipe]
  | v :: vs, i => by
    unfold wipe
    rw [List.getElem?_set]
    by_cases h : v = i
    · subst h
      by_cases hl : v < σ.length
      · simp [hl, wipe_length]
      · simp [hl, wipe_length, List.getElem?_eq_none (Nat.le_of_not_lt hl)]
    · rw [if_neg h, wipe_at]
      have : ¬ i = v := fun e => h e.symm
      simp [this]
theorem wipe_same {vs : List Nat} {σ σ' : L2.St} (h : Same vs (wipe σ vs) σ') : wipe σ' vs = wipe σ vs := by
  have hl : σ'.length = σ.length := h.1.trans (wipe_length σ vs)
  apply List.ext_getElem?
  intro i
  rw [wipe_at, wipe_at, hl]
  by_cases hi : i ∈ vs ∧ i < σ.length
  · rw [if_pos hi, if_pos hi]
  · rw [if_neg hi, if_neg hi]
    by_cases hv : i ∈ vs
    · have : σ.length ≤ i := Nat.le_of_not_lt fun z => hi ⟨hv, z⟩
      rw [List.getElem?_eq_none this, List.getElem?_eq_none (by rw [hl]; exact this)]
    · rw [h.2 i hv, wipe_at, if_neg (fun z => hv z.1)]
theorem RpS.noX {W : Wd} {pn : List (Addr × Obj)} {G : Hp} {σ : L2.St} {env : En} (r : RpS W pn G σ env) : RpS W [] G σ (DL.noX env) := by
  refine ⟨by unfold DL.noX; rw [List.length_map]; exact r.1, fun i d h => ?_⟩
  unfold DL.noX at h
  rw [List.getElem?_map, Option.map_eq_some_iff] at h
  obtain ⟨o, ho, e⟩ := h
  cases o with
  | none => cases e
  | some d' =>
    cases d' <;> first | (cases e; done) | skip
    all_goals
      cases e
      obtain ⟨v, hv, rv⟩ := r.2 i _ ho
      exact ⟨v, hv, rv⟩
section
variable (C : Cw) (W : Wd) (pn : List (Addr × Obj)) (Wx : WX)
def TGof (p : Pt) : TG := fun v σ H k => ∃ B G st env d, Rel W B G st H ∧ RpS W pn G σ env ∧ Rp W G v d ∧
  asgP C p d env st (fun env' st' => ∀ σ' G' H', Le G G' → Rel W B G' st' H' → RpS W pn G' σ' env' → Same (slotsP p) σ σ' → k σ' H') (fun x env' st' => ∀ cls dx σ' G' H', Le G G' → Rel W B G' st' H' → RpS W pn G' σ' env' → RpXn W G' cls dx x → Wx cls dx σ' H')
def TGsof (ps : Pts) : TGs := fun vs σ H k => ∃ B G st env ds, Rel W B G st H ∧ RpS W pn G σ env ∧ RpL W G vs ds ∧
  asgPs C ps ds env st (fun env' st' => ∀ σ' G' H', Le G G' → Rel W B G' st' H' → RpS W pn G' σ' env' → Same (slotsPs ps) σ σ' → k σ' H') (fun x env' st' => ∀ cls dx σ' G' H', Le G G' → Rel W B G' st' H' → RpS W pn G' σ' env' → RpXn W G' cls dx x → Wx cls dx σ' H')
def TIof (it : It) : TI := fun σ H R => ∃ B G st env, Rel W B G st H ∧ RpS W pn G σ env ∧ wpIt C it env st (fun xs stb st1 => ∀ G' H' J, Le G G' → Rel W B G' st1 H' → (stb st1 → WkJ W G' J xs stb) → R J H') (PostX W B G fun c d H' => Wx c d σ H')
end
end DL
/-! List comprehensions; what is walked, by values; targets. -/
namespace DL
open PySem PySem.Spec PyProof.Rows L2
abbrev WF : WX := fun _ _ _ _ => False
def TTif (C : Cw) (W : Wd) (es : Es) : TT := fun σ H Q => ∃ B G st env, Rel W B G st H ∧ RpS W [] G σ env ∧ wpIfs C es env st (fun b st1 => ∀ G' H', Le G G' → Rel W B G' st1 H' → Q b H')
section
variable {C : Cw} {W : Wd} {pn : List (Addr × Obj)} {Wx : WX} {X : Cx} {k : Nat}
theorem stb_of {α : Type} {stb : Sto → Prop} {f : D → α → Sto → (α → Sto → Prop) → Prop} {xs : List D} {a : α} {st : Sto} {K : α → Sto → Prop} (h : foldP stb f xs a st K) : stb st := by
  cases xs with
  | nil => exact h.1
  | cons x xs => exact h.1
theorem comp_imp {m : Bool} {elt : E} {tg : Pt} {it : It} {ifs : Es} {own : List Nat} (hs : ∀ j ∈ slotsP tg, j ∈ own) (σ : L2.St) (H : Hp) (Q : VK) (h : TEof C W pn Wx (.comp m elt tg it ifs own) σ H Q) :
    tLc (TIof C W pn Wx it) (TGof C W [] WF tg) (TTif C W ifs) (TEof C W [] WF elt) own σ H Q := by
  obtain ⟨B, G, st, env, R, S, h⟩ := h
  simp only [wpE] at h
  refine ⟨B, G, st, env, R, S, wpIt_mono it (fun xs stb st1 h G' H' J le R' wk => ?_) (fun _ _ => id) h⟩
  obtain ⟨hz, hf⟩ := h
  have wk := wk (stb_of hf)
  intro D hD
  have hB := (R'.free hD).2.1
  refine ⟨fun i n H2 => n = xs.length - i ∧ i ≤ xs.length ∧ ∃ G2 st2 vs acc, Le G' G2 ∧ Rel W (upd B D (.lst vs)) G2 st2 H2 ∧ RpL W G2 vs acc ∧ acc.length ≤ i ∧ foldP stb _ (xs.drop i) acc st2 _,
    ⟨_, rfl, Nat.zero_le _, G', st1, [], [], Le.refl _, R'.side hD _, .nil, Nat.le_refl _, hf⟩, ?_⟩
  rintro i n H2 ⟨rfl, hi, G2, st2, vs, acc, le2, R2, rv, hl, hf⟩
  by_cases hlt : i < xs.length
  · right
    rw [List.drop_eq_getElem_cons hlt] at hf
    obtain ⟨hb, hf⟩ := hf
    obtain ⟨go, yl⟩ := (wk i _ G2 st2 H2 le2 R2 hb).2 _ (List.getElem?_eq_getElem hlt)
    refine ⟨go, fun H3 => ∃ G2 st2 vs acc, Le G' G2 ∧ Rel W (upd B D (.lst vs)) G2 st2 H3 ∧ RpL W G2 vs acc ∧ acc.length ≤ i + 1 ∧ foldP stb _ (xs.drop (i + 1)) acc st2 _, fun H3 h3 => ⟨xs.length - (i + 1), by omega, rfl, hlt, h3⟩, fun x H3 hy => ?_⟩
    obtain ⟨G3, le3, R3, r3⟩ := yl x H3 hy
    refine ⟨_, G3, st2, _, _, R3, (((S.mono le).mono (le2.trans le3)).wipe own).noX, r3, asgP_mono tg (fun env' st3 hq σ2 G4 H4 le4 R4 S4 same => ?_) (fun _ _ _ => False.elim) hf⟩
    refine ⟨wipe_same (same.mono hs), _, G4, st3, env', R4, S4, wpIfs_mono ifs (fun b st4 hb G5 H5 le5 R5 => ?_) hq⟩
    have leA := (le3.trans le4).trans le5
    cases b with
    | false =>
      simp only [Bool.false_eq_true, if_false] at hb ⊢
      exact ⟨G5, st4, vs, acc, le2.trans leA, R5, rv.mono leA, Nat.le_succ_of_le hl, hb⟩
    | true =>
      simp only [if_true] at hb ⊢
      refine ⟨_, G5, st4, env', R5, S4.mono le5, wpE_mono elt (fun d' st5 hk v G6 H6 le6 R6 r6 => ?_) (fun _ _ => False.elim) hb⟩
      have e6 : H6 D = some (.lst vs) := R6.bas _ _ upd_same
      refine ⟨vs, e6, by rw [rv.length]; omega, G6, st5, vs ++ [v], acc ++ [d'], (le2.trans leA).trans le6, R6.side_put (R6.not_low e6 (fun _ z => by cases z)), (rv.mono (leA.trans le6)).snoc r6, by rw [List.length_append]; exact Nat.succ_le_succ hl, hk⟩
  · left
    have hi' : i = xs.length := by omega
    rw [List.drop_eq_nil_of_le (by omega)] at hf
    obtain ⟨hb, hK⟩ := hf
    refine ⟨(wk i _ G2 st2 H2 le2 R2 hb).1 (by omega), ?_⟩
    obtain ⟨R3, g, s, hD3⟩ := R2.unside hB
    cases m with
    | true => exact hK D s _ G2 _ (le.trans le2) (R3.adoptS g hB hD3 (.lst rv (by omega))) (.loc D)
    | false =>
      obtain ⟨R4, le4⟩ := R3.adopt g hB s hD3
      exact hK _ _ _ ((le.trans le2).trans le4) R4 (.lst upd_same (rv.mono le4) (by omega))
theorem asR_loc {st st' : Sto} {d : D} {xs : List D} : asR st d = some xs → asR st' d = some xs ∨ ∃ a, d = .loc a := by
  intro h
  cases d <;> first | exact .inl h | exact .inr ⟨_, rfl⟩
theorem pi_ex (gd : W.K = X.K) {e : E} {a tg : Expr} (he : PE X a (TEof C W pn Wx e)) : PI X tg a (TIof C W pn Wx (.ex e)) := by
  refine ⟨fun pins s σ H R I h => ?_⟩
  obtain ⟨B, G, st, env, Rl, S, h⟩ := h
  simp only [wpIt] at h
  refine thn (he.run pins s σ H (fun v H1 => ∃ (G1 : Hp) (st1 : Sto) (d : D), Rel W B G1 st1 H1 ∧ Rp W G1 v d ∧ itemsP d st1 fun xs stb => ∀ G' H' J, Le G1 G' → Rel W B G' st1 H' → (stb st1 → WkJ W G' J xs stb) → R J H') I
    ⟨B, G, st, env, Rl, S, wpE_mono e (fun d st1 q v G1 H1 le R1 r => ⟨G1, st1, d, R1, r, itemsP_mono (fun xs stb z G' H' J a b c => z G' H' J (le.trans a) b c) q⟩) (fun _ _ => id) h⟩) fun u s1 ⟨x, H1, I1, rx, G1, st1, d, R1, rd, q⟩ => ?_
  unfold itemsP at q
  have lst : ∀ {p : Addr} {vs : List V} {xs : List D} {stb : Sto → Prop}, SqL W.K H1 p vs → (∀ G' H' J, Le G1 G' → Rel W B G' st1 H' → (stb st1 → WkJ W G' J xs stb) → R J H') → (stb st1 → WkJ W G1 (Itl X.K p) xs stb) → wpAny (model X.prog X.w) X.A (pyIter (.ref p)) (PIE X pins σ tg R) X.xe s1 := by
    intro p vs xs stb hq q wk
    obtain ⟨its, rv, pl, hz⟩ := I1.list (gd ▸ hq)
    exact wpAny_pyIter_list pl.isList (pi_one (tk := s1.toks) I1 _ (turn_list p _) ⟨_, Heap.get?_push_size _ rfl, rfl, rfl⟩ (q G1 H1 _ (Le.refl _) R1 wk))
  split at q
  · cases rd with
    | lst ha ra _ =>
      cases rx
      exact lst (stb := fun _ => True) (.inl (.inl (R1.sub _ _ ha))) q fun _ => wk_list fun B' G' st' H' e R' _ => ⟨_, .inl (.inl (R'.sub _ _ (e _ _ ha))), ra.mono e⟩
  · cases rd with
    | rol ha ra _ =>
      cases rx
      exact lst (stb := fun _ => True) (Le.sqL R1.sub ha) q fun _ => wk_list fun B' G' st' H' e R' _ => ⟨_, gd ▸ Le.sqL (e.trans R'.sub) ha, ra.mono e⟩
  · cases rd with
    | @tup p vs _ ha ra _ =>
      cases rx
      obtain ⟨its, rv, pl, hz⟩ := I1.tuple (gd ▸ Le.sqT R1.sub ha)
      exact wpAny_pyIter_tuple pl (pi_one (tk := s1.toks) I1 _ (turn_tuple p _) ⟨_, Heap.get?_push_size _ rfl, rfl, rfl⟩ (q G1 H1 _ (Le.refl _) R1 fun _ => wk_tuple fun B' G' st' H' e R' _ => ⟨_, gd ▸ Le.sqT (e.trans R'.sub) ha, ra.mono e⟩))
  · cases rd
    rename_i z
    obtain ⟨t, rfl⟩ := rx
    have q' := q G1 H1 (Its z) (Le.refl _) R1 fun _ => wk_str
    cases ha : z.cps.all (· < 128)
    · exact wpAny_pyIter_wide ha (pi_one (tk := s1.toks) I1 _ (turn_str _ z t "str_iterator" (.inr rfl)) ⟨_, Heap.get?_push_size _ rfl, rfl, rfl⟩ q')
    · exact wpAny_pyIter_ascii ha (pi_one (tk := s1.toks) I1 _ (turn_str _ z t "str_ascii_iterator" (.inl rfl)) ⟨_, Heap.get?_push_size _ rfl, rfl, rfl⟩ q')
  · rename_i p
    cases rd
    cases rx
    cases e : st1 p with
    | none => rw [e] at q; exact q.elim
    | some o =>
      rw [e] at q
      obtain ⟨ho, x1, y1⟩ := R1.obj _ _ e
      cases o <;> first | exact q.elim | skip
      cases y1 with
      | lst ra _ =>
        dsimp only at q
        refine lst (stb := fun st' => st' p = some (.lst _)) (.inl (.inl x1)) q fun _ => wk_list fun B' G' st' H' e' R' k => ?_
        obtain ⟨ho, x2, y2⟩ := R'.obj _ _ k
        cases y2 with
        | lst ra' _ => exact ⟨_, .inl (.inl x2), ra'⟩
  · exact q.elim
end
end DL
/-! The small language read by the text's judgements: one lemma for each form. -/
namespace DL
open PySem PySem.Spec PyProof.Rows L2
section
variable {C : Cw} {W : Wd} {pn : List (Addr × Obj)} {Wx : WX} {X : Cx} {k : Nat} {σ : L2.St} {H : Hp}
theorem op_imp {e a b : E} {f : D → D → Sto → DK → Prop} (mono : ∀ {d1 d2 st Q Q'}, (∀ d s, Q d s → Q' d s) → f d1 d2 st Q → f d1 d2 st Q') {Q : VK}
    (he : ∀ env st Q E, wpE C e env st Q E → wpE C a env st (fun x st1 => wpE C b env st1 (fun y st2 => f x y st2 Q) E) E) (h : TEof C W pn Wx e σ H Q) : tOp (rD2 W f) (TEof C W pn Wx a) (TEof C W pn Wx b) σ H Q := by
  obtain ⟨B, G, st, env, R, S, h⟩ := h
  exact TEof.intro R S (Le.refl G) (he _ _ _ _ h) fun v d G1 st1 H1 le R1 r q => TEof.intro R1 (S.mono le) le q fun w e G2 st2 H2 le2 R2 r2 q2 => ⟨B, G2, st2, d, e, R2, r.mono le2, r2, mono (fun _ _ z => z.le (le.trans le2)) q2⟩
theorem chain_imp {op op' : CmpOp} {a b c : E} {Q : VK} (h : TEof C W pn Wx (.chain op op' a b c) σ H Q) : tChain (rD2 W (cmpP op)) (rD2 W (cmpP op')) (TEof C W pn Wx a) (TEof C W pn Wx b) (TEof C W pn Wx c) σ H Q := by
  obtain ⟨B, G, st, env, R, S, h⟩ := h
  simp only [wpE] at h
  refine TEof.intro R S (Le.refl G) h fun v d G1 st1 H1 le R1 r q => TEof.intro R1 (S.mono le) le q fun w e G2 st2 H2 le2 R2 r2 q2 => ⟨B, G2, st2, d, e, R2, r.mono le2, r2, cmpP_mono (fun z s hz v G3 H3 le3 R3 r3 => ?_) q2⟩
  have l3 := (le.trans le2).trans le3
  cases z <;> first | exact hz.elim | skip
  rename_i kk
  cases r3
  refine ⟨kk, rfl, ?_⟩
  cases kk with
  | false =>
    simp only [Bool.false_eq_true, if_false] at hz ⊢
    exact hz _ _ _ l3 R3 (.bl _)
  | true =>
    simp only [if_true] at hz ⊢
    exact TEof.intro R3 (S.mono l3) l3 hz fun u f G4 st4 H4 le4 R4 r4 q4 => ⟨B, G4, st4, e, f, R4, r2.mono (le3.trans le4), r4, cmpP_mono (fun _ _ z => z.le (l3.trans le4)) q4⟩
theorem tTest_of {t : TE} {Q : Bool → Hp → Prop} (h : t σ H fun x H' => ∃ k, x = .bl k ∧ Q k H') : tTest t σ H Q := h
end
section
variable {C : Cw} {W : Wd} {pn : List (Addr × Obj)} {Wx : WX} {X : Cx} {k : Nat}
/-- a test's reading as its value's -/
theorem TT_TE {e : E} {σ : L2.St} {H : Hp} {Q : Bool → Hp → Prop} (h : TTof C W pn Wx e σ H Q) (hK : W.K = X.K) : TEof C W pn Wx e σ H fun x H' => ∃ k, TruV X.K x H' k ∧ Q k H' := by
  obtain ⟨B, G, st, env, R, S, h⟩ := h
  exact TEof.intro R S (Le.refl G) h fun v d G1 st1 H1 le R1 r q => tru_ok' hK R1 r (truP_mono (fun b z => z G1 H1 le R1) q)
/-- a form whose value is always a bool -/
theorem TT_bl {e : E} {σ : L2.St} {H : Hp} {Q : Bool → Hp → Prop} (h : TTof C W pn Wx e σ H Q) (hb : ∀ {env st Q E}, wpE C e env st Q E → wpE C e env st (fun d s => (∃ b, d = .bl b) ∧ Q d s) E) : TEof C W pn Wx e σ H fun x H' => ∃ k, x = .bl k ∧ Q k H' := by
  obtain ⟨B, G, st, env, R, S, h⟩ := h
  refine TEof.intro R S (Le.refl G) (hb h) fun v d G1 st1 H1 le R1 r q => ?_
  obtain ⟨⟨b, rfl⟩, q⟩ := q
  cases r
  exact ⟨b, rfl, q G1 H1 le R1⟩
theorem eqP_bl {x y : D} {st st' : Sto} {Q : DK} {f : Bool → Bool} (h : eqP st x y fun b => Q (.bl (f b)) st') : eqP st x y fun b => (∃ c, D.bl (f b) = .bl c) ∧ Q (.bl (f b)) st' := eqP_mono (fun b z => ⟨⟨_, rfl⟩, z⟩) h
theorem cmpP_bl {op : CmpOp} {x y : D} {st : Sto} {Q : DK} (h : cmpP op x y st Q) : cmpP op x y st fun d s => (∃ b, d = .bl b) ∧ Q d s := by
  unfold cmpP at h ⊢
  split at h <;> first
    | exact h.elim
    | exact eqP_mono (fun b z => ⟨⟨_, rfl⟩, z⟩) h
    | exact isP_mono (fun b z => ⟨⟨_, rfl⟩, z⟩) h
    | exact inP_mono (fun b z => ⟨⟨_, rfl⟩, z⟩) h
    | (split at h <;> first | exact h.elim | exact ⟨⟨_, rfl⟩, h⟩)
theorem wp_cmp_bl {op : CmpOp} {a b : E} {env : En} {st : Sto} {Q : DK} {E : XC} (h : wpE C (.cmp op a b) env st Q E) : wpE C (.cmp op a b) env st (fun d s => (∃ b, d = .bl b) ∧ Q d s) E := by
  simp only [wpE] at h ⊢
  exact wpE_mono a (fun _ _ h => wpE_mono b (fun _ _ h => cmpP_bl h) (fun _ _ => id) h) (fun _ _ => id) h
theorem wp_chain_bl {op op' : CmpOp} {a b c : E} {env : En} {st : Sto} {Q : DK} {E : XC} (h : wpE C (.chain op op' a b c) env st Q E) : wpE C (.chain op op' a b c) env st (fun d s => (∃ b, d = .bl b) ∧ Q d s) E := by
  simp only [wpE] at h ⊢
  refine wpE_mono a (fun _ _ h => wpE_mono b (fun _ _ h => cmpP_mono (fun z s hz => ?_) h) (fun _ _ => id) h) (fun _ _ => id) h
  cases z <;> first | exact hz.elim | skip
  rename_i kk
  cases kk with
  | false => exact ⟨⟨_, rfl⟩, hz⟩
  | true => exact wpE_mono c (fun _ _ h => cmpP_bl h) (fun _ _ => id) hz
theorem wp_not_bl {a : E} {env : En} {st : Sto} {Q : DK} {E : XC} (h : wpE C (.not a) env st Q E) : wpE C (.not a) env st (fun d s => (∃ b, d = .bl b) ∧ Q d s) E := by
  simp only [wpE] at h ⊢
  exact wpE_mono a (fun _ _ h => truP_mono (fun b z => ⟨⟨_, rfl⟩, z⟩) h) (fun _ _ => id) h
end
end DL
/-! Calls, attributes, displays, subscripts, targets: one lemma for each form. -/
namespace DL
open PySem PySem.Spec PyProof.Rows L2
theorem str_dbg {x : Str} (h : namB x = true) : (x == ("__debug__" : Str)) = false ∧ (x == ("__classdict__" : Str)) = false ∧ x ≠ "__name__" := by
  unfold namB at h
  simp only [Bool.and_eq_true, Bool.not_eq_true'] at h
  exact ⟨h.1.1, h.1.2, fun e => by rw [e] at h; exact absurd h.2 (by decide)⟩
section
variable {C : Cw} {W : Wd} {pn : List (Addr × Obj)} {Wx : WX} {X : Cx} {k : Nat} {N : List Str} {sc : Scope}
theorem snd_var (g : Gd C W pn Wx k N sc X) {i : Nat} {x : Str} {pos : Pos} (h1 : N[i]? = some x) (h2 : visB sc x = true) (h3 : namB x = true) : PE X (.Name x pos) (TEof C W pn Wx (.var i)) := by
  obtain ⟨d1, d2, _⟩ := str_dbg h3
  refine PE.imp' (pe_var (i := i) (by rw [g.hN]; exact h1) (by rw [g.hsc]; exact visB_ok h2) d1 d2) fun σ H Q h => ?_
  obtain ⟨B, G, st, env, R, S, h⟩ := h
  simp only [wpE, getV] at h
  cases e : env[i]? with
  | none => rw [e] at h; exact h.elim
  | some o =>
    rw [e] at h
    cases o with
    | none => exact h.elim
    | some d =>
      obtain ⟨nx, q⟩ := (h : notX d = true ∧ Post W B G Q d st)
      obtain ⟨v, hv, r⟩ := S.2 i d e
      refine ⟨v, hv, q.go R ?_⟩
      cases d <;> first | exact r | cases nx
theorem rp_of_cst {d : D} {c : Const} {j : Nat} {pos : Pos} (h : cstB d c = true) (G : Hp) : ∃ v, Rp W G v d ∧ PE X (.Constant c j pos) (tC v) := by
  cases d <;> cases c <;> first | (cases h; done) | skip
  · exact ⟨_, .non, pe_non⟩
  · simp only [cstB, beq_iff_eq] at h; subst h; exact ⟨_, .bl _, pe_bl⟩
  · simp only [cstB, beq_iff_eq] at h; subst h; exact ⟨_, .int _, pe_int⟩
  · simp only [cstB, beq_iff_eq] at h; subst h; exact ⟨_, .str _, pe_str⟩
theorem snd_cst {d : D} {c : Const} {j : Nat} {pos : Pos} (h : cstB d c = true) : PE X (.Constant c j pos) (TEof C W pn Wx (.cst d)) := by
  constructor
  intro pins s σ H Q I hw
  obtain ⟨B, G, st, env, R, S, hw⟩ := hw
  obtain ⟨v, r, p⟩ := rp_of_cst (W := W) (X := X) (j := j) (pos := pos) h G
  exact p.run pins s σ H Q I (show Q v H from Post.go hw R r)
theorem snd_gcon (g : Gd C W pn Wx k N sc X) {x : Str} {d : D} {pos : Pos} (h1 : glB sc x = true) (h2 : namB x = true) (h3 : C.T.cons.lookup x = some d) : PE X (.Name x pos) (TEof C W pn Wx (.gcon x d)) := by
  obtain ⟨u, v, hm, rv, hr⟩ := g.glob.con x d h3
  exact PE.imp' (pe_glob (glB_ok (by rw [g.hsc]; exact h1)) hm rv (str_dbg h2).1) fun σ H Q ⟨B, G, st, env, R, S, h⟩ => Post.go h R (hr G)
theorem snd_gref (g : Gd C W pn Wx k N sc X) {x : Str} {f : Nat} {pos : Pos} (h1 : glB sc x = true) (h2 : namB x = true) (h3 : C.T.fns.lookup x = some f) : PE X (.Name x pos) (TEof C W pn Wx (.gref x f)) :=
  PE.imp' (pe_glob (v := .ref (W.tau f)) (glB_ok (by rw [g.hsc]; exact h1)) (g.glob.nam x f h3).1 rfl (str_dbg h2).1) fun σ H Q ⟨B, G, st, env, R, S, h⟩ => Post.go h R (.glo f)
theorem tyName_ok {x : Str} {n : String} (h : tyName x n = true) : bootBuiltins x = some (.type n) := by
  unfold tyName at h
  split at h
  · rename_i m e
    rw [beq_iff_eq] at h
    rw [e, h]
  · cases h
theorem snd_bty (g : Gd C W pn Wx k N sc X) {x : Str} {n : String} {pos : Pos} (h1 : glB sc x = true) (h2 : namB x = true) (h3 : C.T.blts.contains x = true) (h4 : tyName x n = true) : PE X (.Name x pos) (TEof C W pn Wx (.bty x n)) :=
  PE.imp' (pe_bltn (v := .ty n) (glB_ok (by rw [g.hsc]; exact h1)) (g.glob.blt x (by simpa using h3)) (tyName_ok h4) rfl (str_dbg h2).2.2 (str_dbg h2).1) fun σ H Q ⟨B, G, st, env, R, S, h⟩ => Post.go h R (.ty n)
theorem snd_bin (g : Gd C W pn Wx k N sc X) {m : Bool} {op : Operator} {a b : E} {x y : Expr} {pos : Pos} (ha : PE X x (TEof C W pn Wx a)) (hb : PE X y (TEof C W pn Wx b)) : PE X (.BinOp x op y pos) (TEof C W pn Wx (.bin m op a b)) :=
  PE.imp' (pe_op (bin_ok g.hK m op) ha hb) fun σ H Q h => op_imp (f := binP m op) (fun f h => binP_mono f h) (fun _ _ _ _ h => by simpa only [wpE] using h) h
theorem snd_cmp (g : Gd C W pn Wx k N sc X) {op : CmpOp} {a b : E} {x y : Expr} {pos : Pos} (ha : PE X x (TEof C W pn Wx a)) (hb : PE X y (TEof C W pn Wx b)) (hy : plainX y = true) :
    PE X (.Compare x [op] [y] pos) (TEof C W pn Wx (.cmp op a b)) ∧ PT X (.Compare x [op] [y] pos) (TTof C W pn Wx (.cmp op a b)) := by
  have o := cmp_ok (X := X) g.hK g.units op
  refine ⟨PE.imp' (pe_cmpR o ha hb (mark_plain hy op)) fun σ H Q h => op_imp (f := cmpP op) (fun f h => cmpP_mono f h) (fun _ _ _ _ h => by simpa only [wpE] using h) h, PT.imp' (pt_cmpR o ha hb (mark_plain hy op)) fun σ H Q h => ?_⟩
  exact op_imp (f := cmpP op) (fun f h => cmpP_mono f h) (fun _ _ _ _ h => by simpa only [wpE] using h) (TT_bl h wp_cmp_bl)
theorem snd_chain (g : Gd C W pn Wx k N sc X) {op op' : CmpOp} {a b c : E} {x y z : Expr} {pos : Pos} (ha : PE X x (TEof C W pn Wx a)) (hb : PE X y (TEof C W pn Wx b)) (hc : PE X z (TEof C W pn Wx c)) (hz : plainX z = true) :
    PE X (.Compare x [op, op'] [y, z] pos) (TEof C W pn Wx (.chain op op' a b c)) ∧ PT X (.Compare x [op, op'] [y, z] pos) (TTof C W pn Wx (.chain op op' a b c)) := by
  have o := cmp_ok (X := X) g.hK g.units op
  have o' := cmp_ok (X := X) g.hK g.units op'
  exact ⟨PE.imp' (pe_chain o o' ha hb hc (marks_plain hz op op')) fun σ H Q h => chain_imp h, PT.imp' (pt_chain o o' ha hb hc (marks_plain hz op op')) fun σ H Q h => chain_imp (TT_bl h wp_chain_bl)⟩
theorem snd_neg {a : E} {x : Expr} {pos : Pos} (ha : PE X x (TEof C W pn Wx a)) : PE X (.UnaryOp .USub x pos) (TEof C W pn Wx (.neg a)) := by
  refine PE.imp' (pe_un un_neg ha) fun σ H Q h => ?_
  obtain ⟨B, G, st, env, R, S, h⟩ := h
  simp only [wpE] at h
  refine TEof.intro R S (Le.refl G) h fun v d G1 st1 H1 le R1 r q => ?_
  cases d <;> first | exact q.elim | skip
  cases r
  exact ⟨_, rfl, q _ _ _ le R1 (.int _)⟩
theorem snd_not (g : Gd C W pn Wx k N sc X) {a : E} {x : Expr} {pos : Pos} (ha : PE X x (TEof C W pn Wx a)) : PE X (.UnaryOp .Not x pos) (TEof C W pn Wx (.not a)) := by
  refine PE.imp' (pe_notT ha) fun σ H Q h => ?_
  obtain ⟨B, G, st, env, R, S, h⟩ := h
  simp only [wpE] at h
  exact TEof.intro R S (Le.refl G) h fun v d G1 st1 H1 le R1 r q => tru_ok' g.hK R1 r (truP_mono (fun b z => z _ _ _ le R1 (.bl _)) q)
theorem snd_notT {a : E} {x : Expr} {pos : Pos} (ha : PT X x (TTof C W pn Wx a)) : PT X (.UnaryOp .Not x pos) (TTof C W pn Wx (.not a)) := by
  refine PT.imp' (pt_not ha) fun σ H Q h => ?_
  obtain ⟨B, G, st, env, R, S, h⟩ := h
  simp only [wpE] at h
  exact ⟨B, G, st, env, R, S, wpE_mono a (fun d st1 q => truP_mono (fun b z => z) q) (fun _ _ => id) h⟩
theorem snd_and (g : Gd C W pn Wx k N sc X) {a b : E} {x y : Expr} {r : List Expr} {pos : Pos} (ha : PE X x (TEof C W pn Wx a)) (hb : PE X (.BoolOp .And (y :: r) pos) (TEof C W pn Wx b)) : PE X (.BoolOp .And (x :: y :: r) pos) (TEof C W pn Wx (.and a b)) := by
  refine PE.imp' (pe_andT ha hb) fun σ H Q h => ?_
  obtain ⟨B, G, st, env, R, S, h⟩ := h
  simp only [wpE] at h
  refine TEof.intro R S (Le.refl G) h fun v d G1 st1 H1 le R1 r q => ?_
  obtain ⟨c, ht, q⟩ := tru_ok' g.hK R1 r q
  refine ⟨c, ht, ?_⟩
  cases c with
  | false => exact q _ _ _ le R1 r
  | true => exact TEof.intro R1 (S.mono le) le q fun w e G2 st2 H2 le2 R2 r2 q2 => q2 _ _ _ (le.trans le2) R2 r2
theorem snd_or (g : Gd C W pn Wx k N sc X) {a b : E} {x y : Expr} {r : List Expr} {pos : Pos} (ha : PE X x (TEof C W pn Wx a)) (hb : PE X (.BoolOp .Or (y :: r) pos) (TEof C W pn Wx b)) : PE X (.BoolOp .Or (x :: y :: r) pos) (TEof C W pn Wx (.or a b)) := by
  refine PE.imp' (pe_orT ha hb) fun σ H Q h => ?_
  obtain ⟨B, G, st, env, R, S, h⟩ := h
  simp only [wpE] at h
  refine TEof.intro R S (Le.refl G) h fun v d G1 st1 H1 le R1 r q => ?_
  obtain ⟨c, ht, q⟩ := tru_ok' g.hK R1 r q
  refine ⟨c, ht, ?_⟩
  cases c with
  | true => exact q _ _ _ le R1 r
  | false => exact TEof.intro R1 (S.mono le) le q fun w e G2 st2 H2 le2 R2 r2 q2 => q2 _ _ _ (le.trans le2) R2 r2
theorem truP_self {d : D} {st : Sto} {P : Bool → Prop} (h : truP d st P) : truP d st fun b => P b ∧ ∀ R : Bool → Prop, truP d st R → R b := by
  unfold truP at h ⊢
  split at h <;> first
    | exact h.elim
    | exact ⟨h.1, h.2, fun R z => z.2⟩
    | exact ⟨h, fun R z => z⟩
    | (split at h <;> first
      | exact h.elim
      | (rename_i e; exact ⟨h, fun R z => by simpa only [e] using z⟩))
theorem snd_andT {a b : E} {x y : Expr} {r : List Expr} {pos : Pos} (ha : PT X x (TTof C W pn Wx a)) (hb : PW X (.BoolOp .And (y :: r) pos) (TTof C W pn Wx b)) : PW X (.BoolOp .And (x :: y :: r) pos) (TTof C W pn Wx (.and a b)) := by
  refine PW.imp' (pw_and ha hb) fun σ H Q h => ?_
  obtain ⟨B, G, st, env, R, S, h⟩ := h
  simp only [wpE] at h
  refine TTof.intro R S (Le.refl G) h fun d st1 q => truP_mono (fun c ⟨q, det⟩ G1 H1 le R1 => ?_) (truP_self q)
  cases c with
  | false =>
    simp only [Bool.false_eq_true, if_false] at q ⊢
    exact det _ q G1 H1 le R1
  | true =>
    simp only [if_true] at q ⊢
    exact TTof.intro R1 (S.mono le) le q fun d st1 q => truP_mono (fun b z G2 H2 l2 R2 => z _ _ (le.trans l2) R2) q
theorem snd_orT {a b : E} {x y : Expr} {r : List Expr} {pos : Pos} (ha : PT X x (TTof C W pn Wx a)) (hb : PW X (.BoolOp .Or (y :: r) pos) (TTof C W pn Wx b)) : PW X (.BoolOp .Or (x :: y :: r) pos) (TTof C W pn Wx (.or a b)) := by
  refine PW.imp' (pw_or ha hb) fun σ H Q h => ?_
  obtain ⟨B, G, st, env, R, S, h⟩ := h
  simp only [wpE] at h
  refine TTof.intro R S (Le.refl G) h fun d st1 q => truP_mono (fun c ⟨q, det⟩ G1 H1 le R1 => ?_) (truP_self q)
  cases c with
  | true =>
    simp only [if_true] at q ⊢
    exact det _ q G1 H1 le R1
  | false =>
    simp only [Bool.false_eq_true, if_false] at q ⊢
    exact TTof.intro R1 (S.mono le) le q fun d st1 q => truP_mono (fun b z G2 H2 l2 R2 => z _ _ (le.trans l2) R2) q
theorem snd_ife {c a b : E} {x y z : Expr} {pos : Pos} (hc : PT X x (TTof C W pn Wx c)) (ha : PE X y (TEof C W pn Wx a)) (hb : PE X z (TEof C W pn Wx b)) : PE X (.IfExp x y z pos) (TEof C W pn Wx (.ife c a b)) := by
  refine PE.imp' (pe_ifExp hc ha hb) fun σ H Q h => ?_
  obtain ⟨B, G, st, env, R, S, h⟩ := h
  simp only [wpE] at h
  refine TTof.intro R S (Le.refl G) h fun d st1 q => truP_mono (fun c q G1 H1 le R1 => ?_) q
  cases c with
  | true => exact TEof.intro R1 (S.mono le) le q fun w e G2 st2 H2 le2 R2 r2 q2 => q2 _ _ _ (le.trans le2) R2 r2
  | false => exact TEof.intro R1 (S.mono le) le q fun w e G2 st2 H2 le2 R2 r2 q2 => q2 _ _ _ (le.trans le2) R2 r2
/-- a test by its value -/
theorem snd_truth (g : Gd C W pn Wx k N sc X) {a : E} {x : Expr} (ha : PE X x (TEof C W pn Wx a)) (hp : plainT x = true) : PT X x (TTof C W pn Wx a) :=
  PT.imp' (pt_truth ha fun whole => tru_plain hp _ whole) fun σ H Q h => TT_TE h g.hK
theorem snd_nil : PA X [] (TAof C W pn Wx .nil) := PA.imp' pa_nil fun σ H Q ⟨B, G, st, env, R, S, h⟩ => h _ _ _ (Le.refl G) R .nil
theorem snd_cons {e : E} {es : Es} {x : Expr} {xs : List Expr} (he : PE X x (TEof C W pn Wx e)) (hs : PA X xs (TAof C W pn Wx es)) (hp : plainX x = true) : PA X (x :: xs) (TAof C W pn Wx (.cons e es)) := by
  refine PA.imp' (pa_cons he hs (star_plain hp xs X.env)) fun σ H Q h => ?_
  obtain ⟨B, G, st, env, R, S, h⟩ := h
  simp only [wpEs] at h
  exact TEof.intro R S (Le.refl G) h fun v d G1 st1 H1 le R1 r q => TAof.intro R1 (S.mono le) le q fun vs ds G2 st2 H2 le2 R2 rs q2 => q2 _ _ _ (le.trans le2) R2 (.cons (r.mono le2) rs)
theorem snd_tup {es : Es} {xs : List Expr} {j : Nat} {pos : Pos} (h : PA X xs (TAof C W pn Wx es)) (hz : ∀ {env st Q E}, wpEs C es env st Q E → wpEs C es env st (fun ds s => ds.length ≤ 1000 ∧ Q ds s) E) : PE X (.Tuple xs j pos) (TEof C W pn Wx (.tup es)) := by
  refine PE.imp' (pe_tup h) fun σ H Q hw => ?_
  obtain ⟨B, G, st, env, R, S, hw⟩ := hw
  simp only [wpE] at hw
  refine TAof.intro R S (Le.refl G) (hz hw) fun vs ds G1 st1 H1 le R1 r q => ?_
  have sz : ds.length ≤ sizeLine := Nat.le_trans q.1 (by decide)
  exact ⟨by rw [r.length]; exact sz, newT_ok R1 r sz (q.2.le le)⟩
theorem snd_lst {m : Bool} {es : Es} {xs : List Expr} {pos : Pos} (h : PA X xs (TAof C W pn Wx es)) (hz : ∀ {env st Q E}, wpEs C es env st Q E → wpEs C es env st (fun ds s => ds.length ≤ 1000 ∧ Q ds s) E) : PE X (.List xs pos) (TEof C W pn Wx (.lst m es)) := by
  refine PE.imp' (pe_lst h) fun σ H Q hw => ?_
  obtain ⟨B, G, st, env, R, S, hw⟩ := hw
  simp only [wpE] at hw
  refine TAof.intro R S (Le.refl G) (hz hw) fun vs ds G1 st1 H1 le R1 r q => ?_
  have sz : ds.length ≤ sizeLine := Nat.le_trans q.1 (by decide)
  exact ⟨by rw [r.length]; exact sz, newL_ok R1 r sz (newL_mono (fun _ _ z => z.le le) q.2)⟩
theorem snd_idx (g : Gd C W pn Wx k N sc X) {a b : E} {x y : Expr} {pos : Pos} (ha : PE X x (TEof C W pn Wx a)) (hb : PE X y (TEof C W pn Wx b)) (hy : plainX y = true) : PE X (.Subscript x y pos) (TEof C W pn Wx (.idx a b)) :=
  PE.imp' (pe_ix (ix_ok g.hK) ha hb (ix_plain hy)) fun σ H Q h => op_imp (f := idxP) (fun f h => idxP_mono f h) (fun _ _ _ _ h => by simpa only [wpE] using h) h
/-- a slice's part -/
def TOof (C : Cw) (W : Wd) (pn : List (Addr × Obj)) (Wx : WX) (e : E) : TO := fun σ H Q => ∃ B G st env, Rel W B G st H ∧ RpS W pn G σ env ∧ wpE C e env st (fun d st1 => prtP d fun o => ∀ G' H', Le G G' → Rel W B G' st1 H' → Q o H') (PostX W B G fun c d H' => Wx c d σ H')
theorem snd_part {e : E} {x : Expr} (h : PE X x (TEof C W pn Wx e)) : PO X (some x) (TOof C W pn Wx e) := by
  refine ⟨fun pins s σ H Q I hw => ?_⟩
  rw [evalPart_some]
  obtain ⟨B, G, st, env, R, S, hw⟩ := hw
  refine thn (h.run pins s σ H (fun v H1 => ∃ (G1 : Hp) (d : D), Rp W G1 v d ∧ prtP d fun o => Q o H1) I (TEof.intro R S (Le.refl G) hw fun v d G1 st1 H1 le R1 r q => ⟨G1, d, r, prtP_mono (fun o z => z _ _ le R1) q⟩)) fun u s1 ⟨x, H1, I1, rx, G1, d, rd, q⟩ => ?_
  cases d <;> first | exact q.elim | skip
  · cases rd; cases rx; exact ⟨none, H1, I1, .none, q⟩
  · cases rd
    obtain ⟨t, rfl⟩ := rx
    exact ⟨_, H1, I1, .int _ t, q⟩
theorem snd_nopart {e : E} (h : isNone e = true) : PO X none (TOof C W pn Wx e) := by
  refine ⟨fun pins s σ H Q I hw => ?_⟩
  rw [evalPart_none]
  obtain ⟨B, G, st, env, R, S, hw⟩ := hw
  cases e <;> first | (cases h; done) | skip
  rename_i d
  cases d <;> first | (cases h; done) | skip
  simp only [wpE] at hw
  exact wpAny_pure ⟨none, H, I, .none, hw _ _ (Le.refl G) R⟩
theorem snd_slc (g : Gd C W pn Wx k N sc X) {m : Bool} {a lo hi : E} {x : Expr} {l u : Option Expr} {p pos : Pos} (ha : PE X x (TEof C W pn Wx a)) (hl : PO X l (TOof C W pn Wx lo)) (hu : PO X u (TOof C W pn Wx hi)) : PE X (.Subscript x (.Slice l u none p) pos) (TEof C W pn Wx (.slc m a lo hi)) := by
  refine PE.imp' (pe_slice (sl_ok g.hK m) ha hl hu) fun σ H Q h => ?_
  obtain ⟨B, G, st, env, R, S, h⟩ := h
  simp only [wpE] at h
  refine TEof.intro R S (Le.refl G) h fun v d G1 st1 H1 le R1 r q => ⟨B, G1, st1, env, R1, S.mono le, wpE_mono lo (fun l st2 q => prtP_mono (fun o q G2 H2 le2 R2 => ?_) q) (fun _ _ z => z.le le) q⟩
  refine ⟨B, G2, st2, env, R2, S.mono (le.trans le2), wpE_mono hi (fun u st3 q => prtP_mono (fun o' q G3 H3 le3 R3 => ?_) q) (fun _ _ z => z.le (le.trans le2)) q⟩
  exact ⟨B, G3, st3, d, R3, r.mono (le2.trans le3), slcP_mono (fun _ _ z => z.le ((le.trans le2).trans le3)) q⟩
/-! ### calls -/
theorem TA_nil (σ : L2.St) (H : Hp) (Q : List V → Hp → Prop) (h : TAof C W pn Wx .nil σ H Q) : Q [] H := by
  obtain ⟨B, G, st, env, R, S, h⟩ := h
  exact h _ _ _ (Le.refl G) R .nil
theorem snd_call (g : Gd C W pn Wx k N sc X) {x : Str} {f : Nat} {es : Es} {xs : List Expr} {p pos : Pos} (h1 : glB sc x = true) (h2 : namB x = true) (h3 : C.T.fns.lookup x = some f) (h4 : C.T.isFn f = true) (pl : xs.all plainX = true) (nn : xs = [] → es = .nil) (h : PA X xs (TAof C W pn Wx es)) :
    PE X (.Call (.Name x p) xs [] pos) (TEof C W pn Wx (.call x f es)) := by
  obtain ⟨fd, ps, F, hl, _, hb⟩ := g.glob.fn f h4
  rw [g.hK] at F hb
  obtain ⟨nm, kp⟩ := g.glob.nam x f h3
  refine PE.imp' (pe_callG F g.gds (g.room.mono (Nat.le_succ k)) g.tk (glB_ok (by rw [g.hsc]; exact h1)) nm (by rw [← g.hK]; exact kp) hb h pl (str_dbg h2).1 (fun e σ H Q q => by have z := nn e; subst z; exact TA_nil σ H Q q)) fun σ H Q hw => ?_
  obtain ⟨B, G, st, env, R, S, hw⟩ := hw
  simp only [wpE] at hw
  exact TAof.intro R S (Le.refl G) hw fun vs ds G1 st1 H1 le R1 r q => ⟨B, G1, st1, ds, R1, r, C.mono (fun _ _ z => z.le le) (fun _ _ z => z.le le) q⟩
theorem kw_each {pos : Pos} {env : PySem.Env} : ∀ {es : Es} {ks : List Str} {kws : List Keyword}, chkKs C.T N sc es ks kws = true →
    (backToKw pos (keywordEach kws env)).all (·.1.isSome) = true ∧ (backToKw pos (keywordEach kws env)).filterMap (·.1) = ks ∧ (backToKw pos (keywordEach kws env)).any (·.1.isNone) = false
  | .nil, [], [], _ => ⟨rfl, rfl, rfl⟩
  | .nil, _ :: _, _, h => by simp [chkKs] at h
  | .nil, [], _ :: _, h => by simp [chkKs] at h
  | .cons _ _, [], _, h => by simp [chkKs] at h
  | .cons _ _, _ :: _, [], h => by simp [chkKs] at h
  | .cons e es, k :: ks, ⟨a, v, p⟩ :: kws, h => by
    simp only [chkKs, Bool.and_eq_true, decide_eq_true_eq] at h
    obtain ⟨⟨rfl, _⟩, h⟩ := h
    obtain ⟨h1, h2, h3⟩ := kw_each (pos := pos) (env := env) h
    refine ⟨?_, ?_, ?_⟩
    · show (true && (backToKw pos (keywordEach kws env)).all (·.1.isSome)) = true
      rw [h1]; rfl
    · show k :: (backToKw pos (keywordEach kws env)).filterMap (·.1) = k :: ks
      rw [h2]
    · show (false || (backToKw pos (keywordEach kws env)).any (·.1.isNone)) = false
      rw [h3]; rfl
theorem snd_callk (g : Gd C W pn Wx k N sc X) {x : Str} {f : Nat} {es kes : Es} {ks : List Str} {sel : List (Nat ⊕ D)} {xs : List Expr} {kws : List Keyword} {p pos : Pos} (h1 : glB sc x = true) (h2 : namB x = true) (h3 : C.T.fns.lookup x = some f) (h4 : C.T.isFn f = true) (pl : xs.all plainX = true)
    (nn : xs = [] → es = .nil) (ln : es.len = xs.length) (wl : ∀ {env st Q E}, wpEs C es env st Q E → wpEs C es env st (fun ds s => ds.length = es.len ∧ Q ds s) E) (wk : ∀ {env st Q E}, wpEs C kes env st Q E → wpEs C kes env st (fun ds s => ds.length = ks.length ∧ Q ds s) E)
    (h : PA X xs (TAof C W pn Wx es)) (hk : PK X kws (TAof C W pn Wx kes)) (hc : chkKs C.T N sc kes ks kws = true) (hkw : kwB C.T f es.len ks sel = true) : PE X (.Call (.Name x p) xs kws pos) (TEof C W pn Wx (.callk x f es ks kes sel)) := by
  obtain ⟨fd, ps, F, hl, hkws, hb⟩ := g.glob.fn f h4
  have kw := hkws _ _ _ (kwB_ok hkw)
  rw [g.hK] at F
  obtain ⟨nm, kp⟩ := g.glob.nam x f h3
  rw [g.hK] at kp
  constructor
  intro pins s σ H Q I hw
  obtain ⟨B, G, st, env, R, S, hw⟩ := hw
  simp only [wpE] at hw
  obtain ⟨k1, k2, k3⟩ := kw_each (pos := pos) (env := X.env) hc
  have run : ∀ (s1 : Shared) (G1 : Hp) (st1 : Sto) (H1 : Hp) (us : List Value) (vs : List V) (ds : List D), Le G G1 → Rel W B G1 st1 H1 → L2.Inv X pins σ H1 s1 → Vals vs us → RpL W G1 vs ds → ds.length = es.len →
      wpEs C kes env st1 (fun ks' st2 => match selD ds ks' sel with
        | some all => C.F f all st2 (Post W B G Q) (PostX W B G fun c d H' => Wx c d σ H')
        | none => False) (PostX W B G fun c d H' => Wx c d σ H') →
      wpAny (model X.prog X.w) X.A (evalAll ((backToKw pos (keywordEach kws X.env)).map (·.2))) (fun ws s2 => X.K.In s2.heap ∧ wpAny (model X.prog X.w) X.A (call (.ref (W.tau f)) us (((backToKw pos (keywordEach kws X.env)).filterMap (·.1)).zip ws)) (EP X pins σ Q) X.xe s2) X.xe s1 := by
    intro s1 G1 st1 H1 us vs ds le R1 I1 r rd hl hw
    refine thn (hk.run pos pins s1 σ H1 (fun zs H2 => ∃ G2 st2 ks', Le G1 G2 ∧ Rel W B G2 st2 H2 ∧ RpL W G2 zs ks' ∧ ks'.length = ks.length ∧ (match selD ds ks' sel with
        | some all => C.F f all st2 (Post W B G Q) (PostX W B G fun c d H' => Wx c d σ H')
        | none => False)) I1
      ⟨B, G1, st1, env, R1, S.mono le, wpEs_mono kes (fun ks' st2 q zs G2 H2 le2 R2 rz => ⟨G2, st2, ks', le2, R2, rz, q⟩) (fun _ _ (z : PostX W B G _ _ _) => z.le le) (wk hw)⟩) fun ws s2 ⟨zs, H2, I2, rz, G2, st2, ks', le2, R2, rzd, kl, q⟩ => ⟨I2.kIn, ?_⟩
    rw [k2]
    obtain ⟨all, av, bt, ra, rr⟩ := kw s2 us ws vs zs (g.hK ▸ I2.kIn) (by rw [← r.length, rd.length, hl]) (by rw [← rz.length, rzd.length, kl]) r rz
    cases e : selD ds ks' sel with
    | none => rw [e] at q; exact q.elim
    | some dd =>
      rw [e] at q
      exact run_g F g.gds (g.room.mono (Nat.le_succ k)) g.tk I2 bt ra ⟨B, G2, st2, dd, R2, rr G2 ds ks' dd (rd.mono le2) rzd e, C.mono (fun _ _ z => z.le (le.trans le2)) (fun _ _ z => z.le (le.trans le2)) q⟩
  apply wpAny_Call_Name_kw
  apply ld_glob I (glB_ok (by rw [g.hsc]; exact h1)) nm _ (str_dbg h2).1
  cases xs with
  | nil =>
    have e := nn rfl
    subst e
    simp only [wpEs] at hw
    exact PySem.W.callWith_KW0 I.kIn kp k1 (run s G st H [] [] [] (Le.refl G) R I .nil .nil rfl hw) (by rw [k3]; rfl)
  | cons e xs =>
    have pl' := pl
    simp only [List.all_cons, Bool.and_eq_true] at pl
    refine PySem.W.callWith_KW I.ok.mod.kin kp k1 (thn (h.run pos pins s σ H (fun vs H1 => ∃ G1 st1 ds, Le G G1 ∧ Rel W B G1 st1 H1 ∧ RpL W G1 vs ds ∧ ds.length = es.len ∧ wpEs C kes env st1 (fun ks' st2 => match selD ds ks' sel with
        | some all => C.F f all st2 (Post W B G Q) (PostX W B G fun c d H' => Wx c d σ H')
        | none => False) (PostX W B G fun c d H' => Wx c d σ H')) I
      ⟨B, G, st, env, R, S, wpEs_mono es (fun ds st1 q vs G1 H1 le R1 r => ⟨G1, st1, ds, le, R1, r, q⟩) (fun _ _ z => z) (wl hw)⟩) fun us s1 ⟨vs, H1, I1, r, G1, st1, ds, le, R1, rd, hl, q⟩ => run s1 G1 st1 H1 us vs ds le R1 I1 r rd hl q) (by rw [star_any pl', k3]; rfl) (star_plain pl.1 xs X.env)
theorem snd_make (g : Gd C W pn Wx k N sc X) {x : Str} {c : Nat} {es : Es} {xs : List Expr} {p pos : Pos} (h1 : glB sc x = true) (h2 : namB x = true) (h3 : C.T.fns.lookup x = some c) (h4 : C.T.isCls c = true) (pl : xs.all plainX = true) (nn : xs = [] → es = .nil) (h : PA X xs (TAof C W pn Wx es))
    (h5 : C.T.isFn (C.T.cls c).init = true) : PE X (.Call (.Name x p) xs [] pos) (TEof C W pn Wx (.make x c es)) := by
  obtain ⟨fd, ps, F, hl, _, hb⟩ := g.glob.fn _ h5
  have M := (g.glob.cls c h4).mkr h5
  rw [g.hK] at F hb M
  obtain ⟨nm, kp⟩ := g.glob.nam x c h3
  refine PE.imp' (pe_makeG M F g.gds g.room g.tk (glB_ok (by rw [g.hsc]; exact h1)) nm hb h pl (str_dbg h2).1 (fun e σ H Q q => by have z := nn e; subst z; exact TA_nil σ H Q q)) fun σ H Q hw => ?_
  obtain ⟨B, G, st, env, R, S, hw⟩ := hw
  simp only [wpE] at hw
  refine TAof.intro R S (Le.refl G) hw fun vs ds G1 st1 H1 le R1 r q => ?_
  intro y dx hy hd ne
  have q := q.2 y (R1.free hy).2.2
  have R2 := (R1.side hd (.own y)).unside (R1.free hd).2.1
  have R3 := R2.1.new (p := y) (by rw [upd_ne (Ne.symm ne)]; exact hy) (h := .ins (W.tau c) dx []) (o := .ins c []) (.ins rfl ⟨rfl, .nil⟩)
  refine ⟨B, G1, _, _, R3, .cons (.loc y) r, C.mono (fun d st2 z v G2 H2 le2 R4 r4 => ?_) (fun _ _ z => z.le le) q⟩
  obtain ⟨hn, z⟩ := z
  cases d <;> first | (cases hn; done) | skip
  cases r4
  exact ⟨rfl, z _ _ _ (le.trans le2) R4 (.loc y)⟩
theorem snd_meth (g : Gd C W pn Wx k N sc X) {m : Str} {o : E} {es : Es} {x : Expr} {xs : List Expr} {ap pos : Pos} (ho : PE X x (TEof C W pn Wx o)) (h : PA X xs (TAof C W pn Wx es)) (pl : xs.all plainX = true) (hn : xs.length < 30) (hs : superX x = false) (hl : (ap.endLine == pos.line) = true) (nn : xs = [] → es = .nil) (ln : es.len = xs.length) :
    PE X (.Call (.Attribute x m ap) xs [] pos) (TEof C W pn Wx (.meth m o es)) := by
  refine PE.imp' (pe_methG g.glob g.hK g.gds (g.room.mono (Nat.le_succ k)) g.tk ho h pl hn hs hl (fun e σ H Q q => by have z := nn e; subst z; exact TA_nil σ H Q q)) fun σ H Q hw => ?_
  obtain ⟨B, G, st, env, R, S, hw⟩ := hw
  simp only [wpE] at hw
  refine TEof.intro R S (Le.refl G) hw fun v d G1 st1 H1 le R1 r q => ?_
  obtain ⟨hm, q⟩ := q
  rw [ln] at hm q
  cases e : methD C.T m d st1 xs.length with
  | none => rw [e] at hm; cases hm
  | some f =>
    rw [e] at q hm
    exact ⟨B, G1, st1, d, f, R1, r, e, hm, TAof.intro R1 (S.mono le) le q fun vs ds G2 st2 H2 le2 R2 rs q2 => ⟨B, G2, st2, _, R2, .cons (r.mono le2) rs, C.mono (fun _ _ z => z.le (le.trans le2)) (fun _ _ z => z.le (le.trans le2)) q2⟩⟩
theorem snd_attr (g : Gd C W pn Wx k N sc X) {n : Str} {o : E} {x : Expr} {pos : Pos} (ho : PE X x (TEof C W pn Wx o)) (hs : superX x = false) : PE X (.Attribute x n pos) (TEof C W pn Wx (.attr n o)) := by
  constructor
  intro pins s σ H Q I hw
  obtain ⟨B, G, st, env, R, S, hw⟩ := hw
  simp only [wpE] at hw
  refine attr_of (base_plain hs _ _ _) (thn (ho.run pins s σ H (fun v H1 => ∃ (G1 : Hp) (st1 : Sto) (d : D), Rel W B G1 st1 H1 ∧ Rp W G1 v d ∧ attrP C n d st1 (Post W B G1 Q)) I
    (TEof.intro R S (Le.refl G) hw fun v d G1 st1 H1 le R1 r q => ⟨G1, st1, d, R1, r, attrP_mono (fun _ _ z => z.le le) q⟩)) fun u s1 ⟨v, H1, I1, rv, G1, st1, d, R1, rd, q⟩ => ?_)
  exact attr_ok g.glob g.hK g.gds g.room I1 R1 rd rv q
theorem biName_ok {x : Str} {b : BI} (h : biName x b = true) : bootBuiltins x = some b.val := by
  unfold biName at h
  split at h
  · rename_i e1 e2; rw [beq_iff_eq] at h; rw [e1, e2, h]
  · rename_i e1 e2; rw [beq_iff_eq] at h; rw [e1, e2, h]
  · cases h
theorem okT_ty (g : Gd C W pn Wx k N sc X) : ∀ c, okT C.T (.inr c) = true → TyC W.K (W.tau c) := fun c h => (g.glob.cls c h).ty
theorem snd_bi (g : Gd C W pn Wx k N sc X) {m : Bool} {x : Str} {b : BI} {es : Es} {e : Expr} {xs : List Expr} {p pos : Pos} (h1 : glB sc x = true) (h2 : namB x = true) (h3 : C.T.blts.contains x = true) (h4 : biName x b = true) (pl : (e :: xs).all plainX = true) (h : PA X (e :: xs) (TAof C W pn Wx es)) :
    PE X (.Call (.Name x p) (e :: xs) [] pos) (TEof C W pn Wx (.bi m x b es)) := by
  have c := bi_ok (X := X) (m := m) g.hK g.calm g.gds g.units (okT_ty g) g.glob.kit b
  have gl := glB_ok (X := X) (x := x) (by rw [g.hsc]; exact h1)
  have nb := g.glob.blt x (by simpa using h3)
  have bn := biName_ok h4
  obtain ⟨d1, _, d3⟩ := str_dbg h2
  simp only [List.all_cons, Bool.and_eq_true] at pl
  have im : ∀ (σ : L2.St) (H : Hp) (Q : VK), TEof C W pn Wx (.bi m x b es) σ H Q → tCB (rDL W (biP C.T m b)) (TAof C W pn Wx es) σ H Q := fun σ H Q hw => by
    obtain ⟨B, G, st, env, R, S, hw⟩ := hw
    simp only [wpE] at hw
    exact TAof.intro R S (Le.refl G) hw fun vs ds G1 st1 H1 le R1 r q => ⟨B, G1, st1, ds, R1, r, biP_mono (fun _ _ z => z.le le) q⟩
  cases hv : b.val with
  | builtin i =>
    rw [hv] at c bn
    exact PE.imp' (pe_callB c gl nb bn h d3 d1 (star_plain pl.1 xs X.env) (star_any pl.2)) im
  | type i =>
    rw [hv] at c bn
    exact PE.imp' (pe_callTy c gl nb bn h d3 d1 (star_plain pl.1 xs X.env) (star_any pl.2)) im
  | _ => cases b <;> cases hv
/-! ### displays of dicts -/
theorem RpF.cons {κ : Type} {G : Hp} {k : κ} {v : V} {d : D} {kvs : List (κ × V)} {ds : List (κ × D)} (r : Rp W G v d) (h : RpF W G kvs ds) : RpF W G ((k, v) :: kvs) ((k, d) :: ds) := ⟨by simp [h.1], .cons r h.2⟩
theorem RpF.uncons {κ : Type} {G : Hp} {k k' : κ} {v : V} {d : D} {kvs : List (κ × V)} {ds : List (κ × D)} (h : RpF W G ((k, v) :: kvs) ((k', d) :: ds)) : k = k' ∧ Rp W G v d ∧ RpF W G kvs ds := by
  obtain ⟨h1, h2⟩ := h
  simp only [List.map_cons, List.cons.injEq] at h1
  cases h2 with
  | cons a b => exact ⟨h1.1, a, h1.2, b⟩
theorem any_keys {κ α : Type} (f : κ → Bool) : ∀ (l : List (κ × α)), (l.any fun kv => f kv.1) = (l.map (·.1)).any f
  | [] => rfl
  | a :: l => by simp only [List.any_cons, List.map_cons, any_keys f l]
theorem RpF.mapP {κ : Type} [DecidableEq κ] {G : Hp} {k : κ} {v : V} {d : D} (r : Rp W G v d) : ∀ {kvs : List (κ × V)} {ds : List (κ × D)}, RpF W G kvs ds → RpF W G (kvs.map fun kv => if kv.1 = k then (kv.1, v) else kv) (ds.map fun kv => if kv.1 = k then (kv.1, d) else kv)
  | [], [], _ => ⟨rfl, .nil⟩
  | [], _ :: _, h => by cases h.1
  | _ :: _, [], h => by cases h.1
  | (y, u) :: fs, (z, e) :: ds, h => by
    obtain ⟨rfl, ra, h⟩ := h.uncons
    have ih := RpF.mapP (k := k) r h
    simp only [List.map_cons]
    by_cases hx : y = k
    · simp only [if_pos hx]; exact ih.cons r
    · simp only [if_neg hx]; exact ih.cons ra
theorem RpF.snoc {κ : Type} {G : Hp} {k : κ} {v : V} {d : D} {kvs : List (κ × V)} {ds : List (κ × D)} (h : RpF W G kvs ds) (r : Rp W G v d) : RpF W G (kvs ++ [(k, v)]) (ds ++ [(k, d)]) := by
  refine ⟨by rw [List.map_append, List.map_append, h.1]; rfl, ?_⟩
  rw [List.map_append, List.map_append]
  exact h.2.snoc r
theorem RpF.putK {κ : Type} [DecidableEq κ] {G : Hp} {k : κ} {v : V} {d : D} {kvs : List (κ × V)} {ds : List (κ × D)} (h : RpF W G kvs ds) (r : Rp W G v d) : RpF W G (L2.putK kvs k v) (putKD ds k d) := by
  unfold L2.putK putKD
  rw [any_keys (fun x => decide (x = k)), any_keys (fun x => decide (x = k)), h.1]
  by_cases hx : ((ds.map (·.1)).any fun x => decide (x = k)) = true
  · rw [if_pos hx, if_pos hx]; exact h.mapP r
  · rw [if_neg hx, if_neg hx]; exact h.snoc r
theorem RpF.merge {G : Hp} : ∀ {more : List (Key × V)} {dm : List (Key × D)} {kvs : List (Key × V)} {ds : List (Key × D)}, RpF W G more dm → RpF W G kvs ds → RpF W G (mergeK kvs more) (mergeD ds dm)
  | [], [], _, _, _, h => h
  | [], _ :: _, _, _, h, _ => by cases h.1
  | _ :: _, [], _, _, h, _ => by cases h.1
  | (k, v) :: more, (k', d) :: dm, kvs, ds, h, h0 => by
    obtain ⟨rfl, r, h⟩ := h.uncons
    show RpF W G (mergeK (L2.putK kvs k v) more) (mergeD (putKD ds k d) dm)
    exact RpF.merge h (h0.putK r)
theorem pairD_len : ∀ {ds : List D} {kvs : List (Key × D)}, pairD ds = some kvs → ds.length = 2 * kvs.length
  | [], kvs, h => by cases h; rfl
  | .int i :: d :: r, kvs, h => by
    simp only [pairD, Option.map_eq_some_iff] at h
    obtain ⟨q, h, rfl⟩ := h
    have := pairD_len h
    simp only [List.length_cons]; omega
  | .str i :: d :: r, kvs, h => by
    simp only [pairD, Option.map_eq_some_iff] at h
    obtain ⟨q, h, rfl⟩ := h
    have := pairD_len h
    simp only [List.length_cons]; omega
/-- the values of the pairs, flat -/
def flatV : List (V × V) → List V
  | [] => []
  | (x, y) :: r => x :: y :: flatV r
theorem pairs_rp {G : Hp} : ∀ {ps : List (V × V)} {ds : List D} {kvs : List (Key × D)}, RpL W G (flatV ps) ds → pairD ds = some kvs → ∃ vs : List (Key × V), ps = vs.map (fun kv => (kV kv.1, kv.2)) ∧ RpF W G vs kvs
  | [], ds, kvs, r, h => by
    cases r
    cases h
    exact ⟨[], rfl, rfl, .nil⟩
  | (x, y) :: ps, ds, kvs, r, h => by
    cases r with
    | cons r1 r =>
      cases r with
      | cons r2 r =>
        rename_i d1 d2 ds
        cases d1 <;> first | (cases h; done) | skip
        all_goals
          simp only [pairD, Option.map_eq_some_iff] at h
          obtain ⟨q, h, rfl⟩ := h
          obtain ⟨vs, rfl, rf⟩ := pairs_rp r h
          cases r1
        · exact ⟨(.inl _, y) :: vs, rfl, rf.cons r2⟩
        · exact ⟨(.inr _, y) :: vs, rfl, rf.cons r2⟩
/-- the readings of the pairs -/
def trsOf (C : Cw) (W : Wd) (pn : List (Addr × Obj)) (Wx : WX) : Es → List (TE × TE)
  | .cons a (.cons b r) => (TEof C W pn Wx a, TEof C W pn Wx b) :: trsOf C W pn Wx r
  | _ => []
theorem pairs_imp {σ : L2.St} {B : Hp} {env : En} : ∀ {es : Es} {ks : List (Option Expr)} {vs : List Expr} {sc : Scope} {G : Hp} {st : Sto} {H : Hp} {K : List (V × V) → Hp → Prop}, chkEs C.T N sc es (interX ks vs) = true → Rel W B G st H → RpS W pn G σ env →
    wpEs C es env st (fun ds st1 => ∀ ps G1 H1, Le G G1 → Rel W B G1 st1 H1 → RpL W G1 (flatV ps) ds → K ps H1) (PostX W B G fun c d H' => Wx c d σ H') → tPairs (trsOf C W pn Wx es) σ H K
  | .nil, ks, vs, sc, G, st, H, K, c, R, S, h => h [] G H (Le.refl G) R .nil
  | .cons a .nil, ks, vs, sc, G, st, H, K, c, R, S, h => by
    exfalso
    unfold interX at c
    split at c <;> simp [chkEs] at c
  | .cons a (.cons b r), ks, vs, sc, G, st, H, K, c, R, S, h => by
    unfold interX at c
    split at c
    · simp only [chkEs, Bool.and_eq_true] at c
      simp only [wpEs] at h
      refine TEof.intro R S (Le.refl G) h fun v d G1 st1 H1 le R1 rv q => TEof.intro R1 (S.mono le) le q fun u e G2 st2 H2 le2 R2 ru q2 => ?_
      refine pairs_imp c.2.2 R2 (S.mono (le.trans le2)) (wpEs_mono r (fun ds st3 z ps G3 H3 le3 R3 rr => ?_) (fun _ _ z => z.le (le.trans le2)) q2)
      exact z ((v, u) :: ps) G3 H3 ((le.trans le2).trans le3) R3 (.cons (rv.mono (le2.trans le3)) (.cons (ru.mono le3) rr))
    · simp [chkEs] at c
theorem PostX.side {B G : Hp} {E : XK} {p : Addr} {o : HO} (hp : B p = none) {x : Xn} {st : Sto} (h : PostX W B G E x st) : PostX W (upd B p o) G E x st := fun cls d G' H' a b c => h cls d G' H' a (b.unside hp).1 c
theorem snd_dct (g : Gd C W pn Wx k N sc X) {m : Bool} {es : Es} {ks : List (Option Expr)} {vs : List Expr} {pos : Pos} (h1 : ks.all (·.isSome) = true) (h2 : ks.length = vs.length) (h3 : ks.length ≤ 15) (hc : chkEs C.T N sc es (interX ks vs) = true) (h : PPs X pos ks vs (trsOf C W pn Wx es))
    (ln : es.len = 2 * ks.length) (wl : ∀ {env st Q E}, wpEs C es env st Q E → wpEs C es env st (fun ds s => ds.length = es.len ∧ Q ds s) E) : PE X (.Dict ks vs pos) (TEof C W pn Wx (.dct m es)) := by
  have fin : ∀ {B G0 G2 : Hp} {st2 : Sto} {H2 : Hp} {Q : VK} {p : Addr} {kvs : List (Key × V)} {ds : List (Key × D)}, Le G0 G2 → Rel W B G2 st2 H2 → H2 p = none ∨ (G2 p = none ∧ B p = none ∧ st2 p = none) → RpF W G2 kvs ds → newD m ds st2 (Post W B G0 Q) → (H2 p = none → Q (.ref p) (upd H2 p (.dK kvs))) := by
    intro B G0 G2 st2 H2 Q p kvs ds le R _ rf hq hp
    cases m with
    | true => exact hq p (R.free hp).2.2 _ G2 _ le (R.new hp (.dK rf)) (.loc p)
    | false =>
      obtain ⟨R', le'⟩ := R.frz hp (.dK kvs)
      exact hq _ _ _ (le.trans le') R' (.dic (.inl upd_same) rf.1 (rf.2.mono le'))
  cases ks with
  | nil =>
    cases vs with
    | cons v vs => cases h2
    | nil =>
      cases es with
      | cons e es => simp [interX, chkEs] at hc
      | nil =>
        refine PE.imp' pe_dnewK fun σ H Q hw => ?_
        obtain ⟨B, G, st, env, R, S, hw⟩ := hw
        simp only [wpE, wpEs, pairD] at hw
        intro p hp
        exact fin (Le.refl G) R (.inl hp) ⟨rfl, .nil⟩ hw hp
  | cons k0 ks0 =>
    refine PE.imp' (pe_disp h h1 h2 (by simp) h3) fun σ H Q hw => ?_
    obtain ⟨B, G, st, env, R, S, hw⟩ := hw
    simp only [wpE] at hw
    intro p hp
    have hB := (R.free hp).2.1
    refine pairs_imp (N := N) hc (R.side hp (.dK [])) S (wpEs_mono es (fun ds st1 q ps G1 H1 le R1 rr => ?_) (fun _ _ z => z.side hB) (wl hw))
    obtain ⟨hl, q⟩ := q
    refine ⟨R1.bas _ _ upd_same, ?_⟩
    cases e : pairD ds with
    | none => rw [e] at q; exact q.elim
    | some kvs =>
      rw [e] at q
      obtain ⟨kv, rfl, rf⟩ := pairs_rp rr e
      have l1 := pairD_len e
      have l2 := rf.length
      refine ⟨kv, rfl, by omega, ?_⟩
      have R2 := R1.side_put (o' := .dK (mergeK [] kv)) (R1.not_low (R1.bas _ _ upd_same) (fun _ z => by cases z))
      obtain ⟨R3, g3, s3, h3⟩ := R2.unside hB
      have rm : RpF W G1 (mergeK [] kv) (mergeD [] kvs) := rf.merge ⟨rfl, .nil⟩
      cases m with
      | true => exact q p s3 _ G1 _ le (R3.adoptS g3 hB h3 (.dK rm)) (.loc p)
      | false =>
        obtain ⟨R4, le4⟩ := R3.adopt g3 hB s3 h3
        exact q _ _ _ (le.trans le4) R4 (.dic (.inl upd_same) rm.1 (rm.2.mono le4))
end
end DL
/-! Methods of built-in types, targets, what is walked; then all forms together. -/
namespace DL
open PySem PySem.Spec PyProof.Rows L2
section
variable {C : Cw} {W : Wd} {pn : List (Addr × Obj)} {Wx : WX} {X : Cx} {k : Nat} {N : List Str} {sc : Scope}
theorem few_plain {pos : Pos} {env : PySem.Env} {es : List Expr} (h : es.all plainX = true) (hn : es.length < 30) : ((backTo pos (starEach es env)).all (fun x => !x.1) && (backToKw pos (keywordEach [] env)).all (fun x => x.1.isSome)
      && decide (es.length + ([] : List Keyword).length + (if ([] : List Keyword).isEmpty then 0 else 1) < 30)) = true := by
  rw [star_all h]
  show (true && true && decide (es.length + 0 + 0 < 30)) = true
  simp [hn]
/-- a built-in method: its type, its function -/
structure BmOk (X : Cx) (W : Wd) (m : Bool) (t : MT) (T id : String) : Prop where
  pa : PlainAttrs T
  sl : Slot T t.name id
  ty : typeOf (.builtin id) = pure (.type "method_descriptor")
  run : MtR X id (rBM W m t)
  is : ∀ {B G st H v d}, Rel W B G st H → Rp W G v d → mtyB t d st = true → L2.tyV X.K T v H
theorem bm_ok (hK : W.K = X.K) (m : Bool) (t : MT) (h : t.known = true) : ∃ T id, BmOk X W m t T id := by
  cases t <;> first | (cases h; done) | skip
  · refine ⟨_, _, PySem.F.plainAttrs_str, PySem.F.slot_str_join, PySem.F.type_str_join, join_ok hK m, fun R r h => ?_⟩
    simp only [mtyB] at h
    split at h
    · cases r; rfl
    · cases h
  · refine ⟨_, _, PySem.F.plainAttrs_list, PySem.F.slot_list_append, PySem.F.type_list_append, append_ok m, fun R r h => ?_⟩
    simp only [mtyB, Option.isSome_iff_exists] at h
    obtain ⟨xs, e⟩ := h
    obtain ⟨a, vs, rfl, ha, _⟩ := r.asR R e
    exact .inl ⟨rfl, vs, hK ▸ ha⟩
theorem snd_bm (g : Gd C W pn Wx k N sc X) {m : Bool} {t : MT} {o : E} {es : Es} {x e : Expr} {xs : List Expr} {ap pos : Pos} (kn : t.known = true) (ho : PE X x (TEof C W pn Wx o)) (h : PA X (e :: xs) (TAof C W pn Wx es)) (pl : (e :: xs).all plainX = true) (hn : (e :: xs).length < 30) (hs : superX x = false) (hl : (ap.endLine == pos.line) = true) :
    PE X (.Call (.Attribute x t.name ap) (e :: xs) [] pos) (TEof C W pn Wx (.bm m t o es)) := by
  obtain ⟨T, id, bm⟩ := bm_ok (X := X) g.hK m t kn
  have pl' := pl
  simp only [List.all_cons, Bool.and_eq_true] at pl
  refine PE.imp' (pe_bm bm.pa bm.sl bm.ty bm.run ho h (base_plain hs _ _ _) (few_plain pl' hn) hl (star_plain pl.1 xs X.env) (star_any pl.2)) fun σ H Q hw => ?_
  obtain ⟨B, G, st, env, R, S, hw⟩ := hw
  simp only [wpE] at hw
  exact TEof.intro R S (Le.refl G) hw fun v d G1 st1 H1 le R1 r q => ⟨bm.is R1 r q.1, TAof.intro R1 (S.mono le) le q.2 fun vs ds G2 st2 H2 le2 R2 rs q2 => ⟨B, G2, st2, d, ds, R2, r.mono le2, rs, mtP_mono (fun _ _ z => z.le (le.trans le2)) q2⟩⟩
theorem snd_frz {e : E} {x : Expr} (he : PE X x (TEof C W pn Wx e)) : PE X x (TEof C W pn Wx (.frz e)) := by
  refine PE.imp' he fun σ H Q hw => ?_
  obtain ⟨B, G, st, env, R, S, hw⟩ := hw
  simp only [wpE] at hw
  refine TEof.intro R S (Le.refl G) hw fun v d G1 st1 H1 le R1 r q => ?_
  unfold frzP at q
  split at q
  · rename_i a
    cases r
    cases e1 : st1 a with
    | none => rw [e1] at q; exact q.elim
    | some o =>
      rw [e1] at q
      obtain ⟨ho, x1, y1⟩ := R1.obj _ _ e1
      obtain ⟨R2, le2⟩ := R1.freeze e1 x1
      cases y1 with
      | lst r hz => exact q _ _ _ (le.trans le2) R2 (.lst upd_same (r.mono le2) hz)
      | dK r => exact q _ _ _ (le.trans le2) R2 (.dic (.inl upd_same) r.1 (r.2.mono le2))
      | dT r => exact q.elim
      | ins ec r => exact q _ _ _ (le.trans le2) R2 (by subst ec; exact .ins upd_same r.1 (r.2.mono le2))
  · exact q _ _ _ le R1 r
/-! ### targets -/
theorem snd_gnm (g : Gd C W pn Wx k N sc X) {i : Nat} {x : Str} {pos : Pos} (h1 : N[i]? = some x) (h2 : locB sc x = true ∨ celB sc x = true) (hf : celB sc x = true → X.fn x = true) : PG X (.Name x pos) (TGof C W pn Wx (.nm i)) := by
  have lo : Loc X.env.scope x := by
    rw [g.hsc]
    exact h2.imp locB_ok celB_ok
  have fo : X.fn x = true ∨ X.env.scope.names.lookup x = some .local := by
    rw [g.hsc]
    exact h2.elim (fun z => .inr (locB_ok z)) fun z => .inl (hf z)
  constructor
  intro pins s σ H v u Q I r hw
  obtain ⟨B, G, st, env, d, R, S, rd, hw⟩ := hw
  refine (pg_name (i := i) (by rw [g.hN]; exact g.nd) (by rw [g.hN]; exact h1) lo fo).run pins s σ H v u Q I r ?_
  exact hw _ G H (Le.refl G) R (S.set i rd.toV) ⟨by simp, fun j hj => by rw [List.getElem?_set_ne]; intro e; exact hj (by simp [slotsP, e])⟩
theorem assign_plain {x : Expr} {xs : List Expr} (h : plainX x = true) (env : PySem.Env) : (assignEach (x :: xs) env) = (false, assign x env) :: assignEach xs env := by
  cases x <;> first | rfl | cases h
theorem assign_len {env : PySem.Env} : ∀ {xs : List Expr}, xs.all plainX = true → (assignEach xs env).length = xs.length ∧ (assignEach xs env).findIdx? (·.1) = none
  | [], _ => ⟨rfl, rfl⟩
  | x :: xs, h => by
    simp only [List.all_cons, Bool.and_eq_true] at h
    rw [assign_plain h.1]
    obtain ⟨h1, h2⟩ := assign_len (env := env) h.2
    exact ⟨by simp [h1], by rw [List.findIdx?_cons]; simp [h2]⟩
theorem snd_gnil : PGs X [] (TGsof C W pn Wx .nil) := by
  constructor
  intro pins s σ H vs us Q I r hw
  obtain ⟨B, G, st, env, ds, R, S, rd, hw⟩ := hw
  cases ds with
  | nil =>
    cases rd
    exact pgs_nil.run pins s σ H _ us Q I r ⟨rfl, hw _ G H (Le.refl G) R S (Same.refl _ _)⟩
  | cons d ds => exact hw.elim
theorem snd_gcons {p : Pt} {ps : Pts} {x : Expr} {xs : List Expr} (hp : PG X x (TGof C W pn Wx p)) (hps : PGs X xs (TGsof C W pn Wx ps)) (pl : plainX x = true) : PGs X (x :: xs) (TGsof C W pn Wx (.cons p ps)) := by
  constructor
  intro pins s σ H vs us Q I r hw
  obtain ⟨B, G, st, env, ds, R, S, rd, hw⟩ := hw
  cases ds with
  | nil => exact hw.elim
  | cons d ds =>
    cases rd with
    | cons r1 r2 =>
      rename_i v vr
      refine (pgs_cons hp hps (by rw [assign_plain pl]; rfl)).run pins s σ H _ us Q I r ⟨v, vr, rfl, B, G, st, env, d, R, S, r1, asgP_mono p (fun env1 st1 q σ1 G1 H1 le1 R1 S1 same1 => ?_) (fun x e s z cls dx σ' G' H' a b c d => z cls dx σ' G' H' a b c d) hw⟩
      refine ⟨B, G1, st1, env1, ds, R1, S1, r2.mono le1, asgPs_mono ps (fun env2 st2 q σ2 G2 H2 le2 R2 S2 same2 => q σ2 G2 H2 (le1.trans le2) R2 S2 (same1.trans same2)) (fun x e s z cls dx σ' G' H' a b c d => z cls dx σ' G' H' (le1.trans a) b c d) q⟩
theorem snd_gtup (g : Gd C W pn Wx k N sc X) {ps : Pts} {xs : List Expr} {j : Nat} {pos : Pos} (h : PGs X xs (TGsof C W pn Wx ps)) (pl : xs.all plainX = true) (ln : ps.len = xs.length) : PG X (.Tuple xs j pos) (TGof C W pn Wx (.tup ps)) := by
  constructor
  intro pins s σ H v u Q I r hw
  obtain ⟨B, G, st, env, d, R, S, rd, hw⟩ := hw
  cases d <;> first | exact hw.elim | skip
  obtain ⟨hl, hw⟩ := hw
  cases rd with
  | tup ha ra _ =>
    obtain ⟨h1, h2⟩ := assign_len (env := X.env) pl
    refine (pg_tup g.calm h h1 h2).run pins s σ H _ u Q I r ⟨_, _, rfl, g.hK ▸ Le.sqT R.sub ha, by rw [ra.length, hl]; exact ln, B, G, st, env, _, R, S, ra, hw⟩
theorem snd_gsub (g : Gd C W pn Wx k N sc X) {o i : E} {x y : Expr} {pos : Pos} (ho : PE X x (TEof C W pn Wx o)) (hi : PE X y (TEof C W pn Wx i)) (hy : plainX y = true) : PG X (.Subscript x y pos) (TGof C W pn Wx (.sub o i)) := by
  constructor
  intro pins s σ H v u Q I r hw
  obtain ⟨B, G, st, env, d, R, S, rd, hw⟩ := hw
  simp only [asgP] at hw
  have ex : ∀ {G1 : Hp} (_ : Le G G1) (x : Xn) (s : Sto), (∀ cls dx σ' G' H', Le G G' → Rel W B G' s H' → RpS W pn G' σ' env → RpXn W G' cls dx x → Wx cls dx σ' H') → PostX W B G1 (fun c d H' => Wx c d σ H') x s :=
    fun l x s z cls dx G' H' a b c => z cls dx σ G' H' (l.trans a) b (S.mono (l.trans a)) c
  refine (pg_sub ho hi (set_ok (W := W)) (by intro v; cases y <;> first | rfl | cases hy)).run pins s σ H v u Q I r ⟨B, G, st, env, R, S, wpE_mono o (fun od st1 q ov G1 H1 le1 R1 ro => ?_) (ex (Le.refl G)) hw⟩
  refine ⟨B, G1, st1, env, R1, S.mono le1, wpE_mono i (fun id st2 q iv G2 H2 le2 R2 ri => ?_) (ex le1) q⟩
  exact ⟨B, G2, st2, od, id, d, R2, ro.mono le2, ri, rd.mono (le1.trans le2), setP_mono (fun st3 z G3 H3 le3 R3 => z σ G3 H3 ((le1.trans le2).trans le3) R3 (S.mono ((le1.trans le2).trans le3)) (Same.refl _ _)) q⟩
/-! ### what is walked -/
theorem TA_one {a : E} {σ : L2.St} {B G G0 : Hp} {st : Sto} {H : Hp} {env : En} {Q1 : DK} {K : List V → Hp → Prop} (R : Rel W B G st H) (S : RpS W pn G σ env) (le0 : Le G0 G) (h : wpE C a env st Q1 (PostX W B G0 fun c d H' => Wx c d σ H'))
    (f : ∀ v d G1 st1 H1, Le G G1 → Rel W B G1 st1 H1 → Rp W G1 v d → Q1 d st1 → K [v] H1) : TAof C W pn Wx (.cons a .nil) σ H K :=
  ⟨B, G, st, env, R, S, by simp only [wpEs]; exact wpE_mono a (fun d st1 q vs G1 H1 le R1 r => by obtain ⟨v, rfl, rv⟩ := r.one; exact f v d G1 st1 H1 le R1 rv q) (fun _ _ q => q.le le0) h⟩
theorem TA_two {a b : E} {σ : L2.St} {B G G0 : Hp} {st : Sto} {H : Hp} {env : En} {Q1 : D → D → Sto → Prop} {K : List V → Hp → Prop} (R : Rel W B G st H) (S : RpS W pn G σ env) (le0 : Le G0 G)
    (h : wpE C a env st (fun d st1 => wpE C b env st1 (fun e st2 => Q1 d e st2) (PostX W B G0 fun c d H' => Wx c d σ H')) (PostX W B G0 fun c d H' => Wx c d σ H'))
    (f : ∀ v u d e G1 st1 H1, Le G G1 → Rel W B G1 st1 H1 → Rp W G1 v d → Rp W G1 u e → Q1 d e st1 → K [v, u] H1) : TAof C W pn Wx (.cons a (.cons b .nil)) σ H K :=
  ⟨B, G, st, env, R, S, by
    simp only [wpEs]
    exact wpE_mono a (fun d st1 q => wpE_mono b (fun e st2 q vs G1 H1 le R1 r => by obtain ⟨v, u, rfl, rv, ru⟩ := r.two; exact f v u d e G1 st2 H1 le R1 rv ru q) (fun _ _ q => q.le le0) q) (fun _ _ q => q.le le0) h⟩
theorem rng_ok (g : Gd C W pn Wx k N sc X) {y : Str} (h1 : glB sc y = true) (h2 : C.T.blts.contains y = true) : Gl X y ∧ X.mg y = none := ⟨glB_ok (by rw [g.hsc]; exact h1), g.glob.blt y (by simpa using h2)⟩
theorem snd_range1 (g : Gd C W pn Wx k N sc X) {a : E} {tg x : Expr} {p pos : Pos} (ha : PE X x (TEof C W pn Wx a)) (hx : plainX x = true) (h1 : glB sc "range" = true) (h2 : C.T.blts.contains "range" = true) : PI X tg (.Call (.Name "range" p) [x] [] pos) (TIof C W pn Wx (.range1 a)) := by
  obtain ⟨gl, nb⟩ := rng_ok g h1 h2
  constructor
  intro pins s σ H R I hw
  refine (pi_range1 gl nb (snd_cons ha snd_nil hx) (star_plain hx [] X.env)).run pins s σ H R I ?_
  obtain ⟨B, G, st, env, Rl, S, hw⟩ := hw
  simp only [wpIt] at hw
  refine TA_one Rl S (Le.refl G) hw fun v d G1 st1 H1 le R1 rv q => ?_
  cases d <;> first | exact q.elim | skip
  cases rv
  exact ⟨_, rfl, q.1.1, q.1.2, q.2 _ _ _ le R1 fun _ => wk_range⟩
theorem snd_range2 (g : Gd C W pn Wx k N sc X) {a b : E} {tg x y : Expr} {p pos : Pos} (ha : PE X x (TEof C W pn Wx a)) (hb : PE X y (TEof C W pn Wx b)) (hx : plainX x = true) (hy : plainX y = true) (h1 : glB sc "range" = true) (h2 : C.T.blts.contains "range" = true) :
    PI X tg (.Call (.Name "range" p) [x, y] [] pos) (TIof C W pn Wx (.range2 a b)) := by
  obtain ⟨gl, nb⟩ := rng_ok g h1 h2
  constructor
  intro pins s σ H R I hw
  refine (pi_range2 gl nb (snd_cons ha (snd_cons hb snd_nil hy) hx) (by rw [star_plain hx, star_plain hy]; rfl) (star_plain hy [] X.env)).run pins s σ H R I ?_
  obtain ⟨B, G, st, env, Rl, S, hw⟩ := hw
  simp only [wpIt] at hw
  refine TA_two Rl S (Le.refl G) hw fun v u d e G1 st1 H1 le R1 rv ru q => ?_
  cases d <;> first | exact q.elim | skip
  cases e <;> first | exact q.elim | skip
  cases rv
  cases ru
  exact ⟨_, _, rfl, q.1, q.2 _ _ _ le R1 fun _ => wk_range⟩
theorem sq_stb {G1 : Hp} {v : V} {d : D} {xs : List D} {a : Addr} (hK : W.K = X.K) (r : Rp W G1 v d) (ev : v = .ref a) : ∀ B G st H, Le G1 G → Rel W B G st H → asR st d = some xs → ∃ vs, SqL X.K H a vs ∧ RpL W G vs xs := by
  intro B G st H e R h
  obtain ⟨a', vs, e', ha, ra, _⟩ := (r.mono e).asR R h
  rw [ev] at e'; cases e'
  exact ⟨vs, hK ▸ ha, ra⟩
theorem snd_enum (g : Gd C W pn Wx k N sc X) {a : E} {x : Expr} {ts : List Expr} {j : Nat} {p pos tp : Pos} (ha : PE X x (TEof C W pn Wx a)) (hx : plainX x = true) (h1 : glB sc "enumerate" = true) (h2 : C.T.blts.contains "enumerate" = true) :
    PI X (.Tuple ts j tp) (.Call (.Name "enumerate" p) [x] [] pos) (TIof C W pn Wx (.enum a)) := by
  obtain ⟨gl, nb⟩ := rng_ok g h1 h2
  constructor
  intro pins s σ H R I hw
  refine (pi_enum gl nb (snd_cons ha snd_nil hx) (star_plain hx [] X.env)).run pins s σ H R I ?_
  obtain ⟨B, G, st, env, Rl, S, hw⟩ := hw
  simp only [wpIt] at hw
  refine TA_one Rl S (Le.refl G) hw fun v d G1 st1 H1 le R1 rv q => ?_
  obtain ⟨xs, e, q⟩ := q
  obtain ⟨a, vs, rfl, hq, _⟩ := rv.asR R1 e
  exact ⟨a, vs, rfl, g.hK ▸ hq, q _ _ _ le R1 fun _ => wk_enum (sq_stb g.hK rv rfl)⟩
theorem snd_zip (g : Gd C W pn Wx k N sc X) {a b : E} {x y : Expr} {ts : List Expr} {j : Nat} {p pos tp : Pos} (ha : PE X x (TEof C W pn Wx a)) (hb : PE X y (TEof C W pn Wx b)) (hx : plainX x = true) (hy : plainX y = true) (h1 : glB sc "zip" = true) (h2 : C.T.blts.contains "zip" = true) :
    PI X (.Tuple ts j tp) (.Call (.Name "zip" p) [x, y] [] pos) (TIof C W pn Wx (.zip a b)) := by
  obtain ⟨gl, nb⟩ := rng_ok g h1 h2
  constructor
  intro pins s σ H R I hw
  refine (pi_zip gl nb (snd_cons ha (snd_cons hb snd_nil hy) hx) (star_plain hx [y] X.env) (star_any (by simp [hy]))).run pins s σ H R I ?_
  obtain ⟨B, G, st, env, Rl, S, hw⟩ := hw
  simp only [wpIt] at hw
  refine TA_two Rl S (Le.refl G) hw fun v u d e G1 st1 H1 le R1 rv ru q => ?_
  obtain ⟨xs, ys, e1, e2, q⟩ := q
  obtain ⟨a, vs, rfl, hq, _⟩ := rv.asR R1 e1
  obtain ⟨b, us, rfl, hq2, _⟩ := ru.asR R1 e2
  exact ⟨a, b, vs, us, rfl, g.hK ▸ hq, g.hK ▸ hq2, q _ _ _ le R1 fun _ => wk_zip fun B G st H e R k => ⟨sq_stb g.hK rv rfl B G st H e R k.1, sq_stb g.hK ru rfl B G st H e R k.2⟩⟩
end
end DL
set_option maxHeartbeats 1000000
/-! All forms of expressions together. -/
namespace DL
open PySem PySem.Spec PyProof.Rows L2
theorem es_len {T : Tb} {N : List Str} : ∀ {es : Es} {sc : Scope} {xs : List Expr}, chkEs T N sc es xs = true → es.len = xs.length
  | .nil, _, [], _ => rfl
  | .nil, _, _ :: _, h => by simp [chkEs] at h
  | .cons e es, _, [], h => by simp [chkEs] at h
  | .cons e es, _, x :: xs, h => by
    simp only [chkEs, Bool.and_eq_true] at h
    show es.len + 1 = xs.length + 1
    rw [es_len h.2]
theorem wpEs_len {C : Cw} : ∀ {es : Es} {env : En} {st : Sto} {Q : List D → Sto → Prop} {E : XC}, wpEs C es env st Q E → wpEs C es env st (fun ds s => ds.length = es.len ∧ Q ds s) E
  | .nil, _, _, _, _, h => ⟨rfl, h⟩
  | .cons e es, _, _, _, _, h => by
    simp only [wpEs] at h ⊢
    exact wpE_mono e (fun d s h => wpEs_mono es (fun ds s ⟨a, b⟩ => ⟨by rw [List.length_cons, a]; rfl, b⟩) (fun _ _ => id) (wpEs_len h)) (fun _ _ => id) h
theorem ps_len {T : Tb} {N : List Str} : ∀ {ps : Pts} {sc : Scope} {xs : List Expr}, chkPs T N sc ps xs = true → ps.len = xs.length
  | .nil, _, [], _ => rfl
  | .nil, _, _ :: _, h => by simp [chkPs] at h
  | .cons p ps, _, [], h => by simp [chkPs] at h
  | .cons p ps, _, x :: xs, h => by
    simp only [chkPs, Bool.and_eq_true] at h
    show ps.len + 1 = xs.length + 1
    rw [ps_len h.2]
section
variable {C : Cw} {W : Wd} {k : Nat} {N : List Str}
def SndE (C : Cw) (W : Wd) (k : Nat) (N : List Str) (e : E) : Prop := ∀ (pn : List (Addr × Obj)) (Wx : WX) (sc : Scope) (X : Cx) (x : Expr), Gd C W pn Wx k N sc X → chkE C.T N sc e x = true →
  PE X x (TEof C W pn Wx e) ∧ (tstB e x = true → PT X x (TTof C W pn Wx e)) ∧ (boolX x = true → tstB e x = true → PW X x (TTof C W pn Wx e))
def SndEs (C : Cw) (W : Wd) (k : Nat) (N : List Str) (es : Es) : Prop := ∀ (pn : List (Addr × Obj)) (Wx : WX) (sc : Scope) (X : Cx) (xs : List Expr), Gd C W pn Wx k N sc X → chkEs C.T N sc es xs = true → xs.all plainX = true → PA X xs (TAof C W pn Wx es)
theorem Gd.blk {pn : List (Addr × Obj)} {Wx : WX} {sc : Scope} {X : Cx} (g : Gd C W pn Wx k N sc X) (s : Shared) (H : Hp) (scope : Scope) (A : Addr) (cl : List (Str × Addr)) (fp : List Addr) : Gd C W [] WF k N (relS scope sc) (X.blk s H scope (compEnvC scope cl A X.env) fp) where
  hN := g.hN
  hsc := by rw [← g.hsc]; rfl
  nd := g.nd
  hK := g.hK
  calm := g.calm
  gds := g.gds
  room := g.room
  tk := fun u s' ⟨_, _, _, _, _, _, _, _, _, _, _, _, _, _, _, _, w⟩ => w.elim
  pins := fun p hp => by cases hp
  glob := g.glob
/-- the names at these places may be stored -/
def Sto1 (N : List Str) (sc : Scope) (X : Cx) (l : List Nat) : Prop := ∀ i ∈ l, ∀ x, N[i]? = some x → celB sc x = true → X.fn x = true
def SndP (C : Cw) (W : Wd) (k : Nat) (N : List Str) (p : Pt) : Prop := ∀ (pn : List (Addr × Obj)) (Wx : WX) (sc : Scope) (X : Cx) (x : Expr), Gd C W pn Wx k N sc X → Sto1 N sc X (slotsP p) → chkP C.T N sc p x = true → PG X x (TGof C W pn Wx p)
def SndPs (C : Cw) (W : Wd) (k : Nat) (N : List Str) (ps : Pts) : Prop := ∀ (pn : List (Addr × Obj)) (Wx : WX) (sc : Scope) (X : Cx) (xs : List Expr), Gd C W pn Wx k N sc X → Sto1 N sc X (slotsPs ps) → chkPs C.T N sc ps xs = true → xs.all plainX = true → PGs X xs (TGsof C W pn Wx ps)
def SndI (C : Cw) (W : Wd) (k : Nat) (N : List Str) (it : It) : Prop := ∀ (pn : List (Addr × Obj)) (Wx : WX) (sc : Scope) (X : Cx) (tg x : Expr), Gd C W pn Wx k N sc X → chkIt C.T N sc it tg x = true → PI X tg x (TIof C W pn Wx it)
def SndKs (C : Cw) (W : Wd) (k : Nat) (N : List Str) (es : Es) : Prop := ∀ (pn : List (Addr × Obj)) (Wx : WX) (sc : Scope) (X : Cx) (ks : List Str) (kws : List Keyword), Gd C W pn Wx k N sc X → chkKs C.T N sc es ks kws = true → PK X kws (TAof C W pn Wx es)
theorem ks_len {T : Tb} {N : List Str} : ∀ {es : Es} {sc : Scope} {ks : List Str} {kws : List Keyword}, chkKs T N sc es ks kws = true → es.len = ks.length
  | .nil, _, [], [], _ => rfl
  | .nil, _, _ :: _, _, h => by simp [chkKs] at h
  | .nil, _, [], _ :: _, h => by simp [chkKs] at h
  | .cons _ _, _, [], _, h => by simp [chkKs] at h
  | .cons _ _, _, _ :: _, [], h => by simp [chkKs] at h
  | .cons e es, _, k :: ks, x :: xs, h => by
    simp only [chkKs, Bool.and_eq_true] at h
    show es.len + 1 = ks.length + 1
    rw [ks_len h.2]
def SndKv (C : Cw) (W : Wd) (k : Nat) (N : List Str) (es : Es) : Prop := ∀ (pn : List (Addr × Obj)) (Wx : WX) (sc : Scope) (X : Cx) (pos : Pos) (ks : List (Option Expr)) (vs : List Expr), Gd C W pn Wx k N sc X → ks.all (·.isSome) = true → ks.length = vs.length →
  chkEs C.T N sc es (interX ks vs) = true → PPs X pos ks vs (trsOf C W pn Wx es)
theorem inter_len : ∀ {ks : List (Option Expr)} {vs : List Expr}, ks.all (·.isSome) = true → ks.length = vs.length → (interX ks vs).length = 2 * ks.length
  | [], [], _, _ => rfl
  | [], _ :: _, _, h => by cases h
  | none :: _, _, h, _ => by cases h
  | some _ :: _, [], _, h => by cases h
  | some _ :: ks, _ :: vs, h1, h2 => by
    have := inter_len (ks := ks) (vs := vs) (by simpa using h1) (by simpa using h2)
    simp only [interX, List.length_cons]; omega
theorem relS_cell {sc scope : Scope} {x : Str} (h1 : locB scope x = true ∨ celB scope x = true) (h2 : celB (relS scope sc) x = true) : celB scope x = true := by
  rcases h1 with h1 | h1
  · have := lookup_relS_keep (sc := sc) (by decide) (locB_ok h1)
    have h2 := celB_ok h2
    have h3 : (relS scope sc).names.lookup x = some .local := this
    rw [h3] at h2; cases h2
  · exact h1
theorem sto_blk {sc scope : Scope} {X : Cx} {s : Shared} {H : Hp} {cenv : PySem.Env} {fp : List Addr} {l own : List Nat} (h1 : ∀ j ∈ l, j ∈ own) (h2 : ∀ j ∈ own, locB scope (N.getD j "") = true ∨ celB scope (N.getD j "") = true) : Sto1 N (relS scope sc) (X.blk s H scope cenv fp) l := by
  intro i hi x hx hc
  have h := h2 i (h1 i hi)
  have e : N.getD i "" = x := by rw [List.getD_eq_getElem?_getD, hx]; rfl
  rw [e] at h
  have := celB_ok (relS_cell h hc)
  show (scope.names.lookup x == some .cell) = true
  rw [this]; rfl
/-- the tests of a comprehension -/
def ifsB : Es → List Expr → Bool
  | ifs, [] => ifs.isNil
  | .cons c .nil, [f] => tstB c f
  | _, _ => false
theorem own_map (own : List Nat) : (own.map fun j => (N.getD j "", j)).map (·.2) = own := by
  rw [List.map_map]
  exact List.map_id' own
/-- a form that is asked plainly -/
theorem snd_plain {pn : List (Addr × Obj)} {Wx : WX} {sc : Scope} {X : Cx} {e : E} {x : Expr} (g : Gd C W pn Wx k N sc X) (h : PE X x (TEof C W pn Wx e)) (ht : tstB e x = true → plainT x = true) :
    PE X x (TEof C W pn Wx e) ∧ (tstB e x = true → PT X x (TTof C W pn Wx e)) ∧ (boolX x = true → tstB e x = true → PW X x (TTof C W pn Wx e)) :=
  ⟨h, fun t => snd_truth g h (ht t), fun b t => by
    have := ht t
    cases x <;> first | (cases b; done) | (cases this; done)⟩
mutual
theorem sndE : ∀ (e : E), SndE C W k N e
  | .var i, pn, Wx, sc, X, x, g, h => by
    simp only [chkE] at h
    split at h
    · simp only [Bool.and_eq_true, beq_iff_eq] at h
      exact snd_plain g (snd_var g h.1.1 h.1.2 h.2) id
    · cases h
  | .exf _ _, pn, Wx, sc, X, x, g, h => by simp [chkE] at h
  | .nv, pn, Wx, sc, X, x, g, h => ⟨⟨fun pins s σ H Q I ⟨B, G, st, env, R, S, hw⟩ => hw.elim⟩, fun _ => ⟨fun pins s σ H Q I ⟨B, G, st, env, R, S, hw⟩ => hw.elim⟩, fun _ _ => ⟨fun whole pins s σ H Q I ⟨B, G, st, env, R, S, hw⟩ => hw.elim⟩⟩
  | .cst d, pn, Wx, sc, X, x, g, h => by
    simp only [chkE] at h
    split at h
    · exact snd_plain g (snd_cst h) id
    · cases h
  | .gcon n d, pn, Wx, sc, X, x, g, h => by
    simp only [chkE] at h
    split at h
    · simp only [Bool.and_eq_true, beq_iff_eq] at h
      obtain ⟨⟨⟨rfl, h1⟩, h2⟩, h3⟩ := h
      split at h3
      · rename_i e
        rw [eqD_ok _ _ h3]
        exact snd_plain g (snd_gcon g h1 h2 e) id
      · cases h3
    · cases h
  | .gref n f, pn, Wx, sc, X, x, g, h => by
    simp only [chkE] at h
    split at h
    · simp only [Bool.and_eq_true, beq_iff_eq] at h
      obtain ⟨⟨⟨rfl, h1⟩, h2⟩, h3⟩ := h
      exact snd_plain g (snd_gref g h1 h2 h3) id
    · cases h
  | .bty n t, pn, Wx, sc, X, x, g, h => by
    simp only [chkE] at h
    split at h
    · simp only [Bool.and_eq_true, beq_iff_eq] at h
      obtain ⟨⟨⟨⟨rfl, h1⟩, h2⟩, h3⟩, h4⟩ := h
      exact snd_plain g (snd_bty g h1 h2 h3 h4) id
    · cases h
  | .bin m op a b, pn, Wx, sc, X, x, g, h => by
    simp only [chkE] at h
    split at h
    · simp only [Bool.and_eq_true, decide_eq_true_eq] at h
      obtain ⟨⟨rfl, h1⟩, h2⟩ := h
      exact snd_plain g (snd_bin g (sndE a _ _ _ _ _ g h1).1 (sndE b _ _ _ _ _ g h2).1) id
    · cases h
  | .neg a, pn, Wx, sc, X, x, g, h => by
    simp only [chkE] at h
    split at h
    · exact snd_plain g (snd_neg (sndE a _ _ _ _ _ g h).1) id
    · cases h
  | .not a, pn, Wx, sc, X, x, g, h => by
    simp only [chkE] at h
    split at h
    · have ih := sndE a _ _ _ _ _ g h
      exact ⟨snd_not g ih.1, fun t => snd_notT (ih.2.1 (by simpa only [tstB] using t)), fun b => by cases b⟩
    · cases h
  | .and a b, pn, Wx, sc, X, x, g, h => by
    simp only [chkE] at h
    split at h
    · rename_i y z r pos
      simp only [Bool.and_eq_true] at h
      have iha := sndE a _ _ _ _ _ g h.1
      cases r with
      | nil =>
        have ihb := sndE b _ _ _ _ _ g (by simpa using h.2)
        have w : tstB (.and a b) (.BoolOp .And [y, z] pos) = true → PW X (.BoolOp .And [y, z] pos) (TTof C W pn Wx (.and a b)) := fun t => by
          simp only [tstB, Bool.and_eq_true] at t
          exact snd_andT (iha.2.1 t.1) (pw_and1 (ihb.2.1 (by simpa using t.2)))
        exact ⟨snd_and g iha.1 (pe_one ihb.1), fun t => (w t).pt, fun _ t => w t⟩
      | cons v r =>
        have ihb := sndE b _ _ _ _ _ g (by simpa using h.2)
        have w : tstB (.and a b) (.BoolOp .And (y :: z :: v :: r) pos) = true → PW X (.BoolOp .And (y :: z :: v :: r) pos) (TTof C W pn Wx (.and a b)) := fun t => by
          simp only [tstB, Bool.and_eq_true] at t
          exact snd_andT (iha.2.1 t.1) (ihb.2.2 rfl (by simpa using t.2))
        exact ⟨snd_and g iha.1 ihb.1, fun t => (w t).pt, fun _ t => w t⟩
    · cases h
  | .or a b, pn, Wx, sc, X, x, g, h => by
    simp only [chkE] at h
    split at h
    · rename_i y z r pos
      simp only [Bool.and_eq_true] at h
      have iha := sndE a _ _ _ _ _ g h.1
      cases r with
      | nil =>
        have ihb := sndE b _ _ _ _ _ g (by simpa using h.2)
        have w : tstB (.or a b) (.BoolOp .Or [y, z] pos) = true → PW X (.BoolOp .Or [y, z] pos) (TTof C W pn Wx (.or a b)) := fun t => by
          simp only [tstB, Bool.and_eq_true] at t
          exact snd_orT (iha.2.1 t.1) (pw_or1 (ihb.2.1 (by simpa using t.2)))
        exact ⟨snd_or g iha.1 (pe_one ihb.1), fun t => (w t).pt, fun _ t => w t⟩
      | cons v r =>
        have ihb := sndE b _ _ _ _ _ g (by simpa using h.2)
        have w : tstB (.or a b) (.BoolOp .Or (y :: z :: v :: r) pos) = true → PW X (.BoolOp .Or (y :: z :: v :: r) pos) (TTof C W pn Wx (.or a b)) := fun t => by
          simp only [tstB, Bool.and_eq_true] at t
          exact snd_orT (iha.2.1 t.1) (ihb.2.2 rfl (by simpa using t.2))
        exact ⟨snd_or g iha.1 ihb.1, fun t => (w t).pt, fun _ t => w t⟩
    · cases h
  | .cmp op a b, pn, Wx, sc, X, x, g, h => by
    simp only [chkE] at h
    split at h
    · simp only [Bool.and_eq_true, decide_eq_true_eq] at h
      obtain ⟨⟨⟨rfl, hp⟩, h1⟩, h2⟩ := h
      have z := snd_cmp (op := op) (pos := by assumption) g (sndE a _ _ _ _ _ g h1).1 (sndE b _ _ _ _ _ g h2).1 hp
      exact ⟨z.1, fun _ => z.2, fun b => by cases b⟩
    · cases h
  | .chain op op' a b c, pn, Wx, sc, X, x, g, h => by
    simp only [chkE] at h
    split at h
    · simp only [Bool.and_eq_true, decide_eq_true_eq] at h
      obtain ⟨⟨⟨⟨⟨rfl, rfl⟩, hp⟩, h1⟩, h2⟩, h3⟩ := h
      have z := snd_chain (op := op) (op' := op') (pos := by assumption) g (sndE a _ _ _ _ _ g h1).1 (sndE b _ _ _ _ _ g h2).1 (sndE c _ _ _ _ _ g h3).1 hp
      exact ⟨z.1, fun _ => z.2, fun b => by cases b⟩
    · cases h
  | .ife c a b, pn, Wx, sc, X, x, g, h => by
    simp only [chkE] at h
    split at h
    · simp only [Bool.and_eq_true] at h
      obtain ⟨⟨⟨ht, h1⟩, h2⟩, h3⟩ := h
      exact snd_plain g (snd_ife ((sndE c _ _ _ _ _ g h1).2.1 ht) (sndE a _ _ _ _ _ g h2).1 (sndE b _ _ _ _ _ g h3).1) id
    · cases h
  | .tup es, pn, Wx, sc, X, x, g, h => by
    simp only [chkE] at h
    split at h
    · simp only [Bool.and_eq_true, decide_eq_true_eq] at h
      obtain ⟨⟨h1, h2⟩, h3⟩ := h
      have ln := es_len h1
      exact snd_plain g (snd_tup (sndEs es _ _ _ _ _ g h1 h2) fun q => wpEs_mono es (fun ds s ⟨a, b⟩ => ⟨by omega, b⟩) (fun _ _ => id) (wpEs_len q)) id
    · cases h
  | .lst m es, pn, Wx, sc, X, x, g, h => by
    simp only [chkE] at h
    split at h
    · simp only [Bool.and_eq_true, decide_eq_true_eq] at h
      obtain ⟨⟨h1, h2⟩, h3⟩ := h
      have ln := es_len h1
      exact snd_plain g (snd_lst (sndEs es _ _ _ _ _ g h1 h2) fun q => wpEs_mono es (fun ds s ⟨a, b⟩ => ⟨by omega, b⟩) (fun _ _ => id) (wpEs_len q)) id
    · cases h
  | .dct m es, pn, Wx, sc, X, x, g, h => by
    simp only [chkE] at h
    split at h
    · simp only [Bool.and_eq_true, beq_iff_eq, decide_eq_true_eq] at h
      obtain ⟨⟨⟨h1, h2⟩, h3⟩, h4⟩ := h
      exact snd_plain g (snd_dct g h1 h2 h3 h4 (sndKv es pn Wx sc X _ _ _ g h1 h2 h4) (by rw [es_len h4, inter_len h1 h2]) wpEs_len) id
    · cases h
  | .idx a b, pn, Wx, sc, X, x, g, h => by
    simp only [chkE] at h
    split at h
    · simp only [Bool.and_eq_true] at h
      exact snd_plain g (snd_idx g (sndE a _ _ _ _ _ g h.1.2).1 (sndE b _ _ _ _ _ g h.2).1 h.1.1) id
    · cases h
  | .slc m a lo hi, pn, Wx, sc, X, x, g, h => by
    simp only [chkE] at h
    split at h
    · rename_i y l u p pos
      simp only [Bool.and_eq_true] at h
      obtain ⟨⟨h1, h2⟩, h3⟩ := h
      have p1 : PO X l (TOof C W pn Wx lo) := by
        cases l with
        | none => exact snd_nopart h2
        | some l => exact snd_part (sndE lo _ _ _ _ _ g h2).1
      have p2 : PO X u (TOof C W pn Wx hi) := by
        cases u with
        | none => exact snd_nopart h3
        | some u => exact snd_part (sndE hi _ _ _ _ _ g h3).1
      exact snd_plain g (snd_slc g (sndE a _ _ _ _ _ g h1).1 p1 p2) id
    · cases h
  | .call n f es, pn, Wx, sc, X, x, g, h => by
    simp only [chkE] at h
    split at h
    · simp only [Bool.and_eq_true, beq_iff_eq] at h
      obtain ⟨⟨⟨⟨⟨⟨rfl, h1⟩, h2⟩, h3⟩, h4⟩, h5⟩, h6⟩ := h
      exact snd_plain g (snd_call g h1 h2 h3 h4 h5 (fun e => by subst e; cases es <;> first | rfl | (simp [chkEs] at h6)) (sndEs es _ _ _ _ _ g h6 h5)) id
    · cases h
  | .callk n f es ks kes sel, pn, Wx, sc, X, x, g, h => by
    simp only [chkE] at h
    split at h
    · simp only [Bool.and_eq_true, beq_iff_eq] at h
      obtain ⟨⟨⟨⟨⟨⟨⟨⟨rfl, h1⟩, h2⟩, h3⟩, h4⟩, h5⟩, h6⟩, h7⟩, h8⟩ := h
      exact snd_plain g (snd_callk g h1 h2 h3 h4 h5 (fun e => by subst e; cases es <;> first | rfl | (simp [chkEs] at h6)) (es_len h6) wpEs_len (fun q => by rw [← ks_len h7]; exact wpEs_len q) (sndEs es _ _ _ _ _ g h6 h5) (sndKs kes _ _ _ _ _ _ g h7) h7 h8) id
    · cases h
  | .make n f es, pn, Wx, sc, X, x, g, h => by
    simp only [chkE] at h
    split at h
    · simp only [Bool.and_eq_true, beq_iff_eq] at h
      obtain ⟨⟨⟨⟨⟨⟨⟨rfl, h1⟩, h2⟩, h3⟩, h4⟩, h7⟩, h5⟩, h6⟩ := h
      exact snd_plain g (snd_make g h1 h2 h3 h4 h5 (fun e => by subst e; cases es <;> first | rfl | (simp [chkEs] at h6)) (sndEs es _ _ _ _ _ g h6 h5) h7) id
    · cases h
  | .bi m n b es, pn, Wx, sc, X, x, g, h => by
    simp only [chkE] at h
    split at h
    · rename_i y p1 xs p2
      simp only [Bool.and_eq_true, beq_iff_eq, Bool.not_eq_true'] at h
      obtain ⟨⟨⟨⟨⟨⟨⟨⟨rfl, h1⟩, h2⟩, h3⟩, h4⟩, _⟩, h7⟩, h5⟩, h6⟩ := h
      cases xs with
      | nil => cases h7
      | cons e xs => exact snd_plain g (snd_bi g h1 h2 h3 h4 h5 (sndEs es _ _ _ _ _ g h6 h5)) id
    · cases h
  | .bm m t o es, pn, Wx, sc, X, x, g, h => by
    simp only [chkE] at h
    split at h
    · rename_i y n ap xs pos
      simp only [Bool.and_eq_true, beq_iff_eq, Bool.not_eq_true', decide_eq_true_eq] at h
      obtain ⟨⟨⟨⟨⟨⟨⟨⟨rfl, h1⟩, h2⟩, h3⟩, h4⟩, h5⟩, h6⟩, h7⟩, h8⟩ := h
      cases xs with
      | nil => cases h4
      | cons e xs => exact snd_plain g (snd_bm g h1 (sndE o _ _ _ _ _ g h7).1 (sndEs es _ _ _ _ _ g h8 h6) h6 h5 h2 (by rw [h3]; exact beq_self_eq_true _)) id
    · cases h
  | .meth m o es, pn, Wx, sc, X, x, g, h => by
    simp only [chkE] at h
    split at h
    · simp only [Bool.and_eq_true, beq_iff_eq, Bool.not_eq_true', decide_eq_true_eq] at h
      obtain ⟨⟨⟨⟨⟨⟨rfl, h2⟩, h3⟩, h5⟩, h6⟩, h7⟩, h8⟩ := h
      exact snd_plain g (snd_meth g (sndE o _ _ _ _ _ g h7).1 (sndEs es _ _ _ _ _ g h8 h6) h6 h5 h2 (by rw [h3]; exact beq_self_eq_true _) (fun e => by subst e; cases es <;> first | rfl | (simp [chkEs] at h8)) (es_len h8)) id
    · cases h
  | .attr n o, pn, Wx, sc, X, x, g, h => by
    simp only [chkE] at h
    split at h
    · simp only [Bool.and_eq_true, beq_iff_eq, Bool.not_eq_true'] at h
      obtain ⟨⟨rfl, h2⟩, h3⟩ := h
      exact snd_plain g (snd_attr g (sndE o _ _ _ _ _ g h3).1 h2) id
    · cases h
  | .comp m elt tg it ifs own, pn, Wx, sc, X, x, g, h => by
    simp only [chkE] at h
    split at h
    · rename_i e t i fs scope pos
      simp only [Bool.and_eq_true, List.all_eq_true, decide_eq_true_eq, Bool.or_eq_true] at h
      obtain ⟨⟨⟨⟨⟨⟨⟨⟨h1, h2⟩, h3⟩, h4⟩, h5⟩, h6⟩, h7⟩, h8⟩, h9⟩ := h
      have pi := sndI it _ _ _ _ t _ g h1
      have ok : BlkOk X.N X.env.scope scope (own.map fun j => (N.getD j "", j)) := by rw [g.hN, g.hsc]; exact blkOk_by h4
      have r := pe_lc (pos := pos) (elt := e) (ifs := fs) (tt := TTif C W ifs) g.calm (by rw [g.hN]; exact g.nd) pi ok (fun s H A cl fp => sndP tg _ _ _ _ _ (g.blk s H scope A cl fp) (sto_blk (fun j hj => by simpa using h8 j hj) (fun j hj => (h3 j hj).2)) h7) (fun s H A cl fp => ?_) (fun s H A cl fp => (sndE elt _ _ _ _ _ (g.blk s H scope A cl fp) h9).1) (fun x => fold_plain h2 X.env x)
      · refine snd_plain g (PE.imp' r fun σ H Q hw => ?_) id
        rw [own_map]
        exact comp_imp (fun j hj => by simpa using h8 j hj) σ H Q hw
      · cases fs with
        | nil =>
          cases ifs with
          | nil => exact ⟨fun pins s σ H Q I hw => pts_nil.run pins s σ H Q I (by obtain ⟨B, G, st, env, R, S, q⟩ := hw; exact q _ _ (Le.refl G) R)⟩
          | cons c r => cases h5
        | cons f fs =>
          cases fs with
          | cons f' fs => cases h5
          | nil =>
            cases ifs with
            | nil => cases h5
            | cons c r =>
              cases r with
              | cons c' r => cases h5
              | nil =>
                simp only [chkEs, Bool.and_true] at h6
                have pt := (sndE c _ _ _ _ _ (g.blk s H scope A cl fp) h6).2.1 h5
                exact ⟨fun pins s σ H Q I hw => (pts_one pt).run pins s σ H Q I (by
                  obtain ⟨B, G, st, env, R, S, q⟩ := hw
                  exact ⟨B, G, st, env, R, S, wpE_mono c (fun d st1 q => q) (fun _ _ z => z.elim) q⟩)⟩
    · cases h
  | .frz a, pn, Wx, sc, X, x, g, h => by
    simp only [chkE] at h
    have ih := sndE a _ _ _ _ _ g h
    exact snd_plain g (snd_frz ih.1) fun t => by simpa only [tstB] using t
theorem sndEs : ∀ (es : Es), SndEs C W k N es
  | .nil, pn, Wx, sc, X, [], g, h, pl => snd_nil
  | .nil, pn, Wx, sc, X, _ :: _, g, h, pl => by simp [chkEs] at h
  | .cons e es, pn, Wx, sc, X, [], g, h, pl => by simp [chkEs] at h
  | .cons e es, pn, Wx, sc, X, x :: xs, g, h, pl => by
    simp only [chkEs, Bool.and_eq_true] at h
    simp only [List.all_cons, Bool.and_eq_true] at pl
    exact snd_cons (sndE e _ _ _ _ _ g h.1).1 (sndEs es _ _ _ _ _ g h.2 pl.2) pl.1
theorem sndKs : ∀ (es : Es), SndKs C W k N es
  | .nil, pn, Wx, sc, X, [], [], g, h => ⟨fun pos pins s σ H Q I hw => pk_nil.run pos pins s σ H Q I (TA_nil σ H Q hw)⟩
  | .nil, pn, Wx, sc, X, _ :: _, _, g, h => by simp [chkKs] at h
  | .nil, pn, Wx, sc, X, [], _ :: _, g, h => by simp [chkKs] at h
  | .cons _ _, pn, Wx, sc, X, [], _, g, h => by simp [chkKs] at h
  | .cons _ _, pn, Wx, sc, X, _ :: _, [], g, h => by simp [chkKs] at h
  | .cons e es, pn, Wx, sc, X, _ :: ks, ⟨a, v, p⟩ :: kws, g, h => by
    simp only [chkKs, Bool.and_eq_true] at h
    have r := pk_cons (nm := a) (kpos := p) (sndE e pn Wx sc X v g h.1.2).1 (sndKs es pn Wx sc X ks kws g h.2)
    exact ⟨fun pos pins s σ H Q I hw => r.run pos pins s σ H Q I (by
      obtain ⟨B, G, st, env, R, S, hw⟩ := hw
      simp only [wpEs] at hw
      exact TEof.intro R S (Le.refl G) hw fun v d G1 st1 H1 le R1 r q => TAof.intro R1 (S.mono le) le q fun vs ds G2 st2 H2 le2 R2 rs q2 => q2 _ _ _ (le.trans le2) R2 (.cons (r.mono le2) rs))⟩
theorem sndKv : ∀ (es : Es), SndKv C W k N es
  | .nil, pn, Wx, sc, X, pos, [], [], g, h1, h2, h => pps_nil
  | .nil, pn, Wx, sc, X, pos, [], _ :: _, g, h1, h2, h => by cases h2
  | .nil, pn, Wx, sc, X, pos, _ :: _, [], g, h1, h2, h => by cases h2
  | .nil, pn, Wx, sc, X, pos, none :: _, _ :: _, g, h1, h2, h => by cases h1
  | .nil, pn, Wx, sc, X, pos, some _ :: _, _ :: _, g, h1, h2, h => by simp [interX, chkEs] at h
  | .cons a .nil, pn, Wx, sc, X, pos, ks, vs, g, h1, h2, h => by
    exfalso
    unfold interX at h
    split at h <;> simp [chkEs] at h
  | .cons a (.cons b r), pn, Wx, sc, X, pos, [], vs, g, h1, h2, h => by simp [interX, chkEs] at h
  | .cons a (.cons b r), pn, Wx, sc, X, pos, none :: _, vs, g, h1, h2, h => by cases h1
  | .cons a (.cons b r), pn, Wx, sc, X, pos, some _ :: _, [], g, h1, h2, h => by cases h2
  | .cons a (.cons b r), pn, Wx, sc, X, pos, some x :: ks, v :: vs, g, h1, h2, h => by
    simp only [interX, chkEs, Bool.and_eq_true] at h
    exact pps_cons (sndE a pn Wx sc X x g h.1).1 (sndE b pn Wx sc X v g h.2.1).1 (sndKv r pn Wx sc X pos ks vs g (by simpa using h1) (by simpa using h2) h.2.2)
theorem sndP : ∀ (p : Pt), SndP C W k N p
  | .nm i, pn, Wx, sc, X, x, g, so, h => by
    simp only [chkP] at h
    split at h
    · simp only [Bool.and_eq_true, beq_iff_eq, Bool.or_eq_true] at h
      exact snd_gnm g h.1 h.2 (so i (by simp [slotsP]) _ h.1)
    · cases h
  | .tup ps, pn, Wx, sc, X, x, g, so, h => by
    simp only [chkP] at h
    split at h
    · simp only [Bool.and_eq_true] at h
      exact snd_gtup g (sndPs ps _ _ _ _ _ g so h.2 h.1) h.1 (ps_len h.2)
    · cases h
  | .sub o i, pn, Wx, sc, X, x, g, so, h => by
    simp only [chkP] at h
    split at h
    · simp only [Bool.and_eq_true] at h
      exact snd_gsub g (sndE o _ _ _ _ _ g h.1.2).1 (sndE i _ _ _ _ _ g h.2).1 h.1.1
    · cases h
theorem sndPs : ∀ (ps : Pts), SndPs C W k N ps
  | .nil, pn, Wx, sc, X, [], g, so, h, pl => snd_gnil
  | .nil, pn, Wx, sc, X, _ :: _, g, so, h, pl => by simp [chkPs] at h
  | .cons p ps, pn, Wx, sc, X, [], g, so, h, pl => by simp [chkPs] at h
  | .cons p ps, pn, Wx, sc, X, x :: xs, g, so, h, pl => by
    simp only [chkPs, Bool.and_eq_true] at h
    simp only [List.all_cons, Bool.and_eq_true] at pl
    exact snd_gcons (sndP p _ _ _ _ _ g (fun i hi => so i (by simp only [slotsPs, List.mem_append]; exact .inl hi)) h.1) (sndPs ps _ _ _ _ _ g (fun i hi => so i (by simp only [slotsPs, List.mem_append]; exact .inr hi)) h.2 pl.2) pl.1
theorem sndI : ∀ (it : It), SndI C W k N it
  | .ex e, pn, Wx, sc, X, tg, x, g, h => by
    simp only [chkIt] at h
    exact pi_ex g.hK (sndE e _ _ _ _ _ g h).1
  | .range1 a, pn, Wx, sc, X, tg, x, g, h => by
    simp only [chkIt] at h
    split at h
    · simp only [Bool.and_eq_true, beq_iff_eq] at h
      obtain ⟨⟨⟨⟨rfl, h1⟩, h2⟩, h3⟩, h4⟩ := h
      exact snd_range1 g (sndE a _ _ _ _ _ g h4).1 h3 h1 h2
    · cases h
  | .range2 a b, pn, Wx, sc, X, tg, x, g, h => by
    simp only [chkIt] at h
    split at h
    · simp only [Bool.and_eq_true, beq_iff_eq] at h
      obtain ⟨⟨⟨⟨⟨⟨rfl, h1⟩, h2⟩, h3⟩, h5⟩, h4⟩, h6⟩ := h
      exact snd_range2 g (sndE a _ _ _ _ _ g h4).1 (sndE b _ _ _ _ _ g h6).1 h3 h5 h1 h2
    · cases h
  | .enum a, pn, Wx, sc, X, tg, x, g, h => by
    simp only [chkIt] at h
    split at h
    · split at h
      · simp only [Bool.and_eq_true, beq_iff_eq] at h
        obtain ⟨⟨⟨⟨rfl, h1⟩, h2⟩, h3⟩, h4⟩ := h
        exact snd_enum g (sndE a _ _ _ _ _ g h4).1 h3 h1 h2
      · cases h
    · cases h
  | .zip a b, pn, Wx, sc, X, tg, x, g, h => by
    simp only [chkIt] at h
    split at h
    · split at h
      · simp only [Bool.and_eq_true, beq_iff_eq] at h
        obtain ⟨⟨⟨⟨⟨⟨rfl, h1⟩, h2⟩, h3⟩, h5⟩, h4⟩, h6⟩ := h
        exact snd_zip g (sndE a _ _ _ _ _ g h4).1 (sndE b _ _ _ _ _ g h6).1 h3 h5 h1 h2
      · cases h
    · cases h
end
end
end DL
/-! Statements: the small language, what must hold, its monotony. -/
namespace DL
open PySem PySem.Spec PyProof.Rows L2
mutual
inductive S where
  | pass
  | ex (e : E)
  | asg (p : Pt) (e : E)
  | ret (e : E)
  | retN
  | ifs (c : E) (a b : Ss)
  | fr (tg : Pt) (it : It) (body : Ss)
  | wh (c : E) (body : Ss)
  | brk
  | cont
  | fld (o : E) (x : Str) (e : E)
  | nv
inductive Ss where
  | nil
  | cons (s : S) (ss : Ss)
end
structure KS where
  nx : En → Sto → Prop
  rt : D → Sto → Prop
  bk : En → Sto → Prop
  ct : En → Sto → Prop
  ex : Xn → En → Sto → Prop
structure KS.Le (k k' : KS) : Prop where
  nx : ∀ e s, k.nx e s → k'.nx e s
  rt : ∀ d s, k.rt d s → k'.rt d s
  bk : ∀ e s, k.bk e s → k'.bk e s
  ct : ∀ e s, k.ct e s → k'.ct e s
  ex : ∀ x e s, k.ex x e s → k'.ex x e s
/-- the ends of a loop's body -/
def KS.loop (k : KS) (go : En → Sto → Prop) : KS := ⟨go, k.rt, k.nx, go, k.ex⟩
/-- .. of a statement that others follow -/
def KS.then (k : KS) (nx : En → Sto → Prop) : KS := ⟨nx, k.rt, k.bk, k.ct, k.ex⟩
theorem KS.Le.loop {k k' : KS} (l : k.Le k') {g g' : En → Sto → Prop} (h : ∀ e s, g e s → g' e s) : (k.loop g).Le (k'.loop g') := ⟨h, l.rt, l.nx, h, l.ex⟩
theorem KS.Le.then {k k' : KS} (l : k.Le k') {g g' : En → Sto → Prop} (h : ∀ e s, g e s → g' e s) : (k.then g).Le (k'.then g') := ⟨h, l.rt, l.bk, l.ct, l.ex⟩
def putD (x : Str) (d : D) (fs : List (Str × D)) : List (Str × D) := match fs with
  | [] => [(x, d)]
  | (y, e) :: r => if y = x then (y, d) :: r else (y, e) :: putD x d r
def fldP (T : Tb) (o : D) (x : Str) (d : D) (st : Sto) (K : Sto → Prop) : Prop := match o with
  | .loc a => match st a with
    | some (.ins c fs) => T.isCls c = true ∧ x ∈ (T.cls c).flds ∧ fs.length < 1000 ∧ K (ups st a (.ins c (putD x d fs)))
    | _ => False
  | _ => False
def loopP (stb : Sto → Prop) (f : D → En → Sto → (En → Sto → Prop) → Prop) (nx : En → Sto → Prop) : List D → En → Sto → Prop
  | [], env, st => stb st ∧ nx env st
  | x :: xs, env, st => stb st ∧ f x env st (loopP stb f nx xs)
mutual
def wpS (C : Cw) : S → En → Sto → KS → Prop
  | .pass, env, st, k => k.nx env st
  | .ex e, env, st, k => wpE C e env st (fun _ st1 => k.nx env st1) fun x s => k.ex x env s
  | .asg p e, env, st, k => wpE C e env st (fun d st1 => asgP C p d env st1 k.nx k.ex) fun x s => k.ex x env s
  | .ret e, env, st, k => wpE C e env st k.rt fun x s => k.ex x env s
  | .retN, _, st, k => k.rt .non st
  | .ifs c a b, env, st, k => wpE C c env st (fun d st1 => truP d st1 fun t => if t = true then wpSs C a env st1 k else wpSs C b env st1 k) fun x s => k.ex x env s
  | .fr tg it body, env, st, k => wpIt C it env st (fun xs stb st1 => loopP stb (fun x env1 st2 go => asgP C tg x env1 st2 (fun env2 st3 => wpSs C body env2 st3 (k.loop go)) k.ex) k.nx xs env st1) fun x s => k.ex x env s
  | .wh c body, env, st, k => ∃ I : Nat → En → Sto → Prop, (∃ n, I n env st) ∧ ∀ n env st, I n env st → wpE C c env st (fun d st1 => truP d st1 fun t =>
      if t = true then wpSs C body env st1 (k.loop fun e s => ∃ m, m < n ∧ I m e s) else k.nx env st1) fun x s => k.ex x env s
  | .brk, env, st, k => k.bk env st
  | .cont, env, st, k => k.ct env st
  | .fld o x e, env, st, k => wpE C e env st (fun d st1 => wpE C o env st1 (fun od st2 => fldP C.T od x d st2 fun st3 => k.nx env st3) fun x s => k.ex x env s) fun x s => k.ex x env s
  | .nv, _, _, _ => False
def wpSs (C : Cw) : Ss → En → Sto → KS → Prop
  | .nil, env, st, k => k.nx env st
  | .cons s ss, env, st, k => wpS C s env st (k.then fun env1 st1 => wpSs C ss env1 st1 k)
end
theorem fldP_mono {T : Tb} {o : D} {x : Str} {d : D} {st : Sto} {K K' : Sto → Prop} (f : ∀ s, K s → K' s) (h : fldP T o x d st K) : fldP T o x d st K' := by
  unfold fldP at h ⊢
  split at h
  · split at h
    · exact ⟨h.1, h.2.1, h.2.2.1, f _ h.2.2.2⟩
    · exact h.elim
  · exact h.elim
theorem loopP_mono {stb : Sto → Prop} {f f' : D → En → Sto → (En → Sto → Prop) → Prop} {nx nx' : En → Sto → Prop} (hn : ∀ e s, nx e s → nx' e s) (hf : ∀ x e s g g', (∀ e s, g e s → g' e s) → f x e s g → f' x e s g') :
    ∀ {xs : List D} {env : En} {st : Sto}, loopP stb f nx xs env st → loopP stb f' nx' xs env st
  | [], _, _, h => ⟨h.1, hn _ _ h.2⟩
  | _ :: _, _, _, h => ⟨h.1, hf _ _ _ _ _ (fun _ _ z => loopP_mono hn hf z) h.2⟩
mutual
theorem wpS_mono {C : Cw} : ∀ (s : S) {env : En} {st : Sto} {k k' : KS}, k.Le k' → wpS C s env st k → wpS C s env st k'
  | .pass, _, _, _, _, l, h => l.nx _ _ h
  | .ex e, _, _, _, _, l, h => by simp only [wpS] at h ⊢; exact wpE_mono e (fun _ _ => l.nx _ _) (fun _ _ => l.ex _ _ _) h
  | .asg p e, _, _, _, _, l, h => by simp only [wpS] at h ⊢; exact wpE_mono e (fun _ _ => asgP_mono p l.nx l.ex) (fun _ _ => l.ex _ _ _) h
  | .ret e, _, _, _, _, l, h => by simp only [wpS] at h ⊢; exact wpE_mono e l.rt (fun _ _ => l.ex _ _ _) h
  | .retN, _, _, _, _, l, h => l.rt _ _ h
  | .ifs c a b, _, _, _, _, l, h => by
    simp only [wpS] at h ⊢
    refine wpE_mono c (fun _ _ => truP_mono fun t q => ?_) (fun _ _ => l.ex _ _ _) h
    split at q
    · rw [if_pos (by assumption)]; exact wpSs_mono a l q
    · rw [if_neg (by assumption)]; exact wpSs_mono b l q
  | .fr tg it body, _, _, k, k', l, h => by
    simp only [wpS] at h ⊢
    refine wpIt_mono it (fun xs stb st1 q => ?_) (fun _ _ => l.ex _ _ _) h
    refine loopP_mono l.nx (fun x e s g g' hg q => ?_) q
    exact asgP_mono tg (fun e s q => wpSs_mono body (l.loop hg) q) l.ex q
  | .wh c body, _, _, _, _, l, h => by
    simp only [wpS] at h ⊢
    obtain ⟨I, h0, h⟩ := h
    refine ⟨I, h0, fun n env st i => wpE_mono c (fun _ _ => truP_mono fun t q => ?_) (fun _ _ => l.ex _ _ _) (h n env st i)⟩
    split at q
    · rw [if_pos (by assumption)]; exact wpSs_mono body (l.loop fun _ _ => id) q
    · rw [if_neg (by assumption)]; exact l.nx _ _ q
  | .brk, _, _, _, _, l, h => l.bk _ _ h
  | .cont, _, _, _, _, l, h => l.ct _ _ h
  | .fld o x e, _, _, _, _, l, h => by
    simp only [wpS] at h ⊢
    exact wpE_mono e (fun _ _ => wpE_mono o (fun _ _ => fldP_mono fun _ => l.nx _ _) fun _ _ => l.ex _ _ _) (fun _ _ => l.ex _ _ _) h
  | .nv, _, _, _, _, _, h => h.elim
theorem wpSs_mono {C : Cw} : ∀ (ss : Ss) {env : En} {st : Sto} {k k' : KS}, k.Le k' → wpSs C ss env st k → wpSs C ss env st k'
  | .nil, _, _, _, _, l, h => l.nx _ _ h
  | .cons s ss, _, _, _, _, l, h => by
    simp only [wpSs] at h ⊢
    exact wpS_mono s (l.then fun _ _ => wpSs_mono ss l) h
end
/-! ### the text against the statements -/
def compX : Expr → Bool
  | .ListComp _ _ _ _ => true
  | .SetComp _ _ _ _ => true
  | .DictComp _ _ _ _ _ => true
  | _ => false
/-- a comprehension goes straight into the local name -/
def straightB (sc : Scope) : Expr → Expr → Bool
  | .Name y py, .ListComp _ _ scope pos => (sc.kind == .function) && locB sc y && (py.line == pos.line) && !(scope.names.any fun (n, k) => n == y && (k == .local || k == .cell))
  | _, _ => false
def tupX : Expr → Bool
  | .Tuple _ _ _ => true
  | .List _ _ => true
  | _ => false
/-- a, b = x, y by the stores alone -/
def parB (sc : Scope) : Expr → Expr → Bool
  | .Tuple [.Name x px, .Name y py] _ _, .Tuple [a, b] _ _ => (sc.kind == .function) && locB sc x && locB sc y && (py.line == px.line) && !(x == y) && plainX a && plainX b && !([a, b].all (foldedForSure 8)) && !([a, b].all (constantsAlone 8))
  | _, _ => false
def compE : E → Bool
  | .comp _ _ _ _ _ _ => true
  | _ => false
def tupE : E → Bool
  | .tup _ => true
  | _ => false
def nameX (sc : Scope) : Expr → Bool
  | .Name x _ => locB sc x
  | _ => false
/-- the stores are the plain ones -/
def noParB (sc : Scope) : Expr → Expr → Bool
  | .Tuple ts _ _, .Tuple vs _ _ => !(ts.length == 2 || ts.length == 3) || vs.length != ts.length || !(ts.all (nameX sc))
  | .List _ _, _ => false
  | _, _ => true
section
variable (T : Tb) (N : List Str) (sc : Scope)
def chkA (p : Pt) (e : E) (tg x : Expr) : Bool := chkP T N sc p tg && chkE T N sc e x && plainX tg && ((!compX x && noParB sc tg x) || (compE e && straightB sc tg x) || (tupE e && parB sc tg x))
mutual
def chkS : S → Stmt → Bool
  | .pass, x => match x with
    | .Pass _ => true
    | _ => false
  | .ex e, x => match x with
    | .Expr y _ => !compX y && chkE T N sc e y
    | _ => false
  | .asg p e, x => match x with
    | .Assign [tg] y _ => chkA T N sc p e tg y
    | _ => false
  | .ret e, x => match x with
    | .Return (some y) _ => chkE T N sc e y
    | _ => false
  | .retN, x => match x with
    | .Return none _ => true
    | _ => false
  | .ifs c a b, x => match x with
    | .If z y w _ => tstB c z && chkE T N sc c z && chkSs a y && chkSs b w
    | _ => false
  | .fr tg it body, x => match x with
    | .For t i b [] _ => plainX i && chkIt T N sc it t i && chkP T N sc tg t && chkSs body b
    | _ => false
  | .wh c body, x => match x with
    | .While y b [] _ => tstB c y && chkE T N sc c y && chkSs body b
    | _ => false
  | .brk, x => match x with
    | .Break _ => true
    | _ => false
  | .cont, x => match x with
    | .Continue _ => true
    | _ => false
  | .fld o f e, x => match x with
    | .Assign [.Attribute y m _] z _ => m == f && !compX z && chkE T N sc o y && chkE T N sc e z
    | _ => false
  | .nv, _ => true
def chkSs : Ss → List Stmt → Bool
  | .nil, [] => true
  | .nil, _ :: _ => false
  | .cons _ _, [] => false
  | .cons s ss, x :: xs => chkS s x && chkSs ss xs
end
end
end DL
/-! Statements read by the text's judgements. -/
namespace DL
open PySem PySem.Spec PyProof.Rows L2
/-- what is wanted behind a statement, by deep data -/
def KofD (W : Wd) (pn : List (Addr × Obj)) (Wx : WX) (B G : Hp) (D : Ends) : KS where
  nx := fun env st => ∀ σ' G' H', Le G G' → Rel W B G' st H' → RpS W pn G' σ' env → D.nx σ' H'
  rt := Post W B G D.rt
  bk := fun env st => ∀ σ' G' H', Le G G' → Rel W B G' st H' → RpS W pn G' σ' env → D.bk σ' H'
  ct := fun env st => ∀ σ' G' H', Le G G' → Rel W B G' st H' → RpS W pn G' σ' env → D.ct σ' H'
  ex := fun x env st => ∀ cls dx σ' G' H', Le G G' → Rel W B G' st H' → RpS W pn G' σ' env → RpXn W G' cls dx x → Wx cls dx σ' H'
theorem KofD.le {W : Wd} {pn : List (Addr × Obj)} {Wx : WX} {B G G1 : Hp} {D : Ends} (e : Le G G1) : (KofD W pn Wx B G D).Le (KofD W pn Wx B G1 D) where
  nx := fun _ _ h σ' G' H' a => h σ' G' H' (e.trans a)
  rt := fun _ _ h => h.le e
  bk := fun _ _ h σ' G' H' a => h σ' G' H' (e.trans a)
  ct := fun _ _ h σ' G' H' a => h σ' G' H' (e.trans a)
  ex := fun _ _ _ h cls dx σ' G' H' a => h cls dx σ' G' H' (e.trans a)
section
variable (C : Cw) (W : Wd) (pn : List (Addr × Obj)) (Wx : WX)
def TSof (s : S) : TS := fun D σ H => ∃ B G st env, Rel W B G st H ∧ RpS W pn G σ env ∧ wpS C s env st (KofD W pn Wx B G D)
def TSsof (ss : Ss) : TS := fun D σ H => ∃ B G st env, Rel W B G st H ∧ RpS W pn G σ env ∧ wpSs C ss env st (KofD W pn Wx B G D)
structure Gs (k : Nat) (N : List Str) (sc : Scope) (X : Cx) : Prop extends Gd C W pn Wx k N sc X where
  pas : PassesOwn (model X.prog X.w) X.A X.env X.xe
  fnT : ∀ x, X.fn x = true
end
theorem PS.imp' {X : Cx} {s : Stmt} {t t' : TS} (h : PS X s t) (f : ∀ D σ H, t' D σ H → t D σ H) : PS X s t' := ⟨fun pins s σ H D I q => h.run pins s σ H D I (f _ _ _ q)⟩
theorem PSs.imp' {X : Cx} {s : List Stmt} {t t' : TS} (h : PSs X s t) (f : ∀ D σ H, t' D σ H → t D σ H) : PSs X s t' := ⟨fun pins s σ H D I q => h.run pins s σ H D I (f _ _ _ q)⟩
theorem swaps_plain {x : Expr} (h : compX x = false) (t : Option Expr) (l : Nat) (env : PySem.Env) : swapsWith x t l env = pure false := by
  cases x <;> first | rfl | cases h
theorem names_short {sc : Scope} {f : Expr → Option Str} : ∀ {ts : List Expr}, (∀ t, nameX sc t = false → f t = none) → ts.all (nameX sc) = false → (ts.filterMap f).length < ts.length
  | [], _, h => by cases h
  | t :: ts, hf, h => by
    cases e : nameX sc t with
    | false =>
      rw [List.filterMap_cons, hf t e]
      exact Nat.lt_succ_of_le (List.length_filterMap_le f ts)
    | true =>
      simp only [List.all_cons, e, Bool.true_and] at h
      have := names_short hf h
      rw [List.filterMap_cons]
      split
      · exact Nat.lt_succ_of_lt this
      · exact Nat.succ_lt_succ this
theorem stores_plain {sc : Scope} {tg x : Expr} (h : noParB sc tg x = true) (env : PySem.Env) (hs : env.scope = sc) : swappedStores [tg] x env = pure none := by
  unfold noParB at h
  split at h
  · rename_i ts _ _ vs _ _
    unfold swappedStores
    simp only []
    simp only [Bool.or_eq_true, Bool.not_eq_true'] at h
    by_cases c1 : ((!(ts.length == 2 || ts.length == 3) || vs.length != ts.length) || env.blockKind != .function) = true
    · rw [if_pos c1]
    · rw [if_neg c1]
      simp only [Bool.or_eq_true, not_or, Bool.not_eq_true] at c1
      have h3 : ts.all (nameX sc) = false := by
        rcases h with h | h
        · exfalso
          rcases h with h | h
          · have := c1.1.1; rw [h] at this; cases this
          · have := c1.1.2; rw [h] at this; cases this
        · exact h
      split
      · rfl
      · rw [if_pos]
        simp only [Bool.or_eq_true]
        left
        rw [bne_iff_ne]
        refine Nat.ne_of_lt (names_short (fun t ht => ?_) h3)
        cases t <;> first | rfl | skip
        rename_i y py
        have hk : ¬ env.kindOf y = some .local := fun z => by
          have z' : env.scope.names.lookup y = some .local := z
          rw [hs] at z'
          have ht' : locB sc y = false := ht
          unfold locB at ht'
          rw [z'] at ht'
          cases ht'
        have hk' : (env.kindOf y == some NameKind.local) = false := by simpa using hk
        simp only [hk', Bool.false_and]
        rfl
  · cases h
  · unfold swappedStores
    cases tg <;> first | rfl | skip
    all_goals (cases x <;> first | rfl | skip)
    all_goals
      rename_i h1 _ _ _ hh
      first | exact (hh _ _ _ _ _ _ rfl rfl).elim | exact (h1 _ _ rfl).elim
/-- two stores alone -/
theorem stores_par {sc : Scope} {x y : Str} {px py : Pos} {j1 j2 : Nat} {p1 p2 : Pos} {a b : Expr} {env : PySem.Env} (hs : env.scope = sc) (h : parB sc (.Tuple [.Name x px, .Name y py] j1 p1) (.Tuple [a, b] j2 p2) = true) :
    swappedStores [.Tuple [.Name x px, .Name y py] j1 p1] (.Tuple [a, b] j2 p2) env = pure (some [x, y]) ∧ env.scope.names.lookup x = some .local ∧ env.scope.names.lookup y = some .local ∧ x ≠ y := by
  simp only [parB, Bool.and_eq_true, beq_iff_eq, Bool.not_eq_true', beq_eq_false_iff_ne] at h
  obtain ⟨⟨⟨⟨⟨⟨⟨⟨h1, h2⟩, h3⟩, h4⟩, h5⟩, h6⟩, h7⟩, h8⟩, h9⟩ := h
  have l1 := locB_ok h2
  have l2 := locB_ok h3
  rw [← hs] at l1 l2 h1
  have k1 : env.kindOf x = some .local := l1
  have k2 : env.kindOf y = some .local := l2
  have hb : env.blockKind = .function := by unfold Env.blockKind; rw [h1]; rfl
  refine ⟨?_, l1, l2, h5⟩
  unfold swappedStores
  simp only [hb, List.length_cons, List.length_nil, List.any_cons, List.any_nil, List.filterMap_cons, List.filterMap_nil, k1, k2, Expr.pos, List.head?_cons, Option.map_some, Option.getD_some, h4, h8, h9, beq_self_eq_true, Bool.and_true]
  have d : ([x, y] : List Str).eraseDups = [x, y] := by
    have h5' : (y == x) = false := by simpa using Ne.symm h5
    simp [List.eraseDups_cons, h5']
  rw [if_neg (by decide)]
  simp only [if_true, d]
  cases a <;> first | (cases h6; done) | (cases b <;> first | (cases h7; done) | rfl)
section
variable {C : Cw} {W : Wd} {pn : List (Addr × Obj)} {Wx : WX} {X : Cx} {k : Nat} {N : List Str} {sc : Scope}
/-- a statement's exception as an expression's -/
theorem exE {B G G0 : Hp} {D : Ends} {env : En} {σ : L2.St} (le : Le G0 G) (S : RpS W pn G σ env) (x : Xn) (s : Sto) (h : (KofD W pn Wx B G0 D).ex x env s) : PostX W B G (fun c d H' => Wx c d σ H') x s :=
  fun cls d G' H' a b c => h cls d σ G' H' (le.trans a) b (S.mono a) c
theorem TE_S {e : E} {σ : L2.St} {B G G0 : Hp} {D : Ends} {st : Sto} {H : Hp} {env : En} {Q1 : DK} {K : VK} (R : Rel W B G st H) (S : RpS W pn G σ env) (le : Le G0 G) (h : wpE C e env st Q1 fun x s => (KofD W pn Wx B G0 D).ex x env s)
    (f : ∀ v d G1 st1 H1, Le G G1 → Rel W B G1 st1 H1 → Rp W G1 v d → Q1 d st1 → K v H1) : TEof C W pn Wx e σ H K :=
  TEof.intro R S (Le.refl G) (wpE_mono e (fun _ _ => id) (exE le S) h) f
theorem TT_S {e : E} {σ : L2.St} {B G G0 : Hp} {D : Ends} {st : Sto} {H : Hp} {env : En} {Q1 : Bool → Sto → Prop} {K : Bool → Hp → Prop} (R : Rel W B G st H) (S : RpS W pn G σ env) (le : Le G0 G) (h : wpE C e env st (fun d st1 => truP d st1 fun b => Q1 b st1) fun x s => (KofD W pn Wx B G0 D).ex x env s)
    (f : ∀ b G1 st1 H1, Le G G1 → Rel W B G1 st1 H1 → Q1 b st1 → K b H1) : TTof C W pn Wx e σ H K :=
  TTof.intro R S (Le.refl G) (wpE_mono e (fun _ _ => id) (exE le S) h) fun d st1 q => truP_mono (fun b z G1 H1 l R1 => f b G1 st1 H1 l R1 z) q
theorem asgK {p : Pt} {d : D} {v : V} {B G G0 : Hp} {D : Ends} {σ : L2.St} {H : Hp} {st : Sto} {env : En} {nx : En → Sto → Prop} {Z : L2.St → Hp → Prop} (R : Rel W B G st H) (S : RpS W pn G σ env) (le : Le G0 G) (r : Rp W G v d) (h : asgP C p d env st nx (KofD W pn Wx B G0 D).ex)
    (f : ∀ env' st' σ' G' H', Le G G' → Rel W B G' st' H' → RpS W pn G' σ' env' → nx env' st' → Z σ' H') : TGof C W pn Wx p v σ H Z :=
  ⟨B, G, st, env, d, R, S, r, asgP_mono p (fun env' st' q σ' G' H' a b c _ => f env' st' σ' G' H' a b c q) (fun x e s q cls dx σ' G' H' a => q cls dx σ' G' H' (le.trans a)) h⟩
/-- a comprehension straight into a local name -/
theorem snd_straight (g : Gs C W pn Wx k N sc X) {p : Pt} {e : E} {tg x : Expr} {pos : Pos} (hp : chkP C.T N sc p tg = true) (he : chkE C.T N sc e x = true) (ce : compE e = true) (hs : straightB sc tg x = true) : PS X (.Assign [tg] x pos) (TSof C W pn Wx (.asg p e)) := by
  cases e <;> first | (cases ce; done) | skip
  rename_i m elt pt it ifs own
  simp only [chkE] at he
  split at he
  · rename_i ex t i fs scope lpos
    simp only [Bool.and_eq_true, List.all_eq_true, decide_eq_true_eq, Bool.or_eq_true] at he
    obtain ⟨⟨⟨⟨⟨⟨⟨⟨h1, h2⟩, h3⟩, h4⟩, h5⟩, h6⟩, h7⟩, h8⟩, h9⟩ := he
    cases tg <;> first | (cases hs; done) | skip
    rename_i y py
    simp only [straightB, Bool.and_eq_true, Bool.not_eq_true', beq_iff_eq] at hs
    obtain ⟨⟨⟨s1, s2⟩, s3⟩, s4⟩ := hs
    cases p <;> first | (simp [chkP] at hp; done) | skip
    rename_i j
    simp only [chkP, Bool.and_eq_true, beq_iff_eq] at hp
    have lo := locB_ok s2
    rw [← g.hsc] at lo s1
    have ok : BlkOk X.N X.env.scope scope (own.map fun j => (N.getD j "", j)) := by rw [g.hN, g.hsc]; exact blkOk_by h4
    have r := ps_setLc (spos := pos) (py := py) (pos := lpos) (elt := ex) (ifs := fs) (tt := TTif C W ifs) g.calm (by rw [g.hN]; exact g.nd) (by rw [g.hN]; exact hp.1) lo (sw_true s1 lo (by rw [s3]; exact beq_self_eq_true _) s4) (sndI it pn Wx sc X t i g.toGd h1) ok (fun s H A cl fp => sndP pt _ _ _ _ _ (g.toGd.blk s H scope A cl fp) (sto_blk (fun j hj => by simpa using h8 j hj) (fun j hj => (h3 j hj).2)) h7) (fun s H A cl fp => ?_) (fun s H A cl fp => (sndE elt _ _ _ _ _ (g.toGd.blk s H scope A cl fp) h9).1) (fun x => fold_plain h2 X.env x)
    · refine PS.imp' r fun D σ H ⟨B, G, st, env, R, S, hw⟩ => ?_
      rw [own_map]
      simp only [wpS, asgP] at hw
      show tLc _ _ _ _ _ σ H fun v H1 => gName j v σ H1 D.nx
      refine comp_imp (m := m) (fun j hj => by simpa using h8 j hj) σ H _ ?_
      exact TE_S R S (Le.refl G) hw fun v d G1 st1 H1 le R1 r q => q _ G1 H1 le R1 ((S.mono le).set j r.toV)
    · cases fs with
      | nil =>
        cases ifs with
        | nil => exact ⟨fun pins s σ H Q I hw => pts_nil.run pins s σ H Q I (by obtain ⟨B, G, st, env, R, S, q⟩ := hw; exact q _ _ (Le.refl G) R)⟩
        | cons c r => cases h5
      | cons f fs =>
        cases fs with
        | cons f' fs => cases h5
        | nil =>
          cases ifs with
          | nil => cases h5
          | cons c r =>
            cases r with
            | cons c' r => cases h5
            | nil =>
              simp only [chkEs, Bool.and_true] at h6
              have pt := (sndE c _ _ _ _ _ (g.toGd.blk s H scope A cl fp) h6).2.1 h5
              exact ⟨fun pins s σ H Q I hw => (pts_one pt).run pins s σ H Q I (by
                obtain ⟨B, G, st, env, R, S, q⟩ := hw
                exact ⟨B, G, st, env, R, S, wpE_mono c (fun d st1 q => q) (fun _ _ z => z.elim) q⟩)⟩
  · cases he
/-- two names, stored alone -/
theorem snd_par (g : Gs C W pn Wx k N sc X) {p : Pt} {e : E} {tg x : Expr} {pos : Pos} (hp : chkP C.T N sc p tg = true) (he : chkE C.T N sc e x = true) (te : tupE e = true) (hs : parB sc tg x = true) : PS X (.Assign [tg] x pos) (TSof C W pn Wx (.asg p e)) := by
  have hs0 := hs
  unfold parB at hs
  split at hs
  · rename_i y1 p1 y2 p2 j1 q1 a b j2 q2
    obtain ⟨sw, l1, l2, ne⟩ := stores_par g.hsc hs0
    cases p <;> first | (simp [chkP] at hp; done) | skip
    rename_i ps
    simp only [chkP, Bool.and_eq_true] at hp
    obtain ⟨_, hp⟩ := hp
    cases ps with
    | nil => simp [chkPs] at hp
    | cons u ps =>
      cases ps with
      | nil => simp [chkPs] at hp
      | cons v ps =>
        cases ps with
        | cons w ps => simp [chkPs] at hp
        | nil =>
          simp only [chkPs, Bool.and_eq_true] at hp
          obtain ⟨hu, hv, _⟩ := hp
          cases u <;> first | (simp [chkP] at hu; done) | skip
          cases v <;> first | (simp [chkP] at hv; done) | skip
          rename_i i j
          simp only [chkP, Bool.and_eq_true, beq_iff_eq] at hu hv
          cases e <;> first | (cases te; done) | skip
          rename_i es
          simp only [chkE, Bool.and_eq_true] at he
          have hij : i ≠ j := fun z => by
            rw [z, hv.1] at hu
            exact ne (Option.some.inj hu.1).symm
          refine PS.imp' (ps_par g.calm (by rw [g.hN]; exact g.nd) (by rw [g.hN]; exact hu.1) (by rw [g.hN]; exact hv.1) hij l1 l2 (sndEs es pn Wx sc X _ g.toGd he.1.1 he.1.2) sw) fun D σ H ⟨B, G, st, env, R, S, hw⟩ => ?_
          simp only [wpS, wpE, asgP] at hw
          refine TAof.intro R S (Le.refl G) (wpEs_mono es (fun _ _ => id) (exE (Le.refl G) S) hw) fun vs ds G1 st1 H1 le R1 r q => ?_
          obtain ⟨hl, q⟩ := q
          match ds, hl with
          | [d1, d2], _ =>
            obtain ⟨v, u, rfl, rv, ru⟩ := r.two
            simp only [asgPs, asgP] at q
            exact ⟨v, u, rfl, q _ G1 H1 le R1 (((S.mono le).set i rv.toV).set j ru.toV)⟩
  · cases hs
theorem snd_asg (g : Gs C W pn Wx k N sc X) {p : Pt} {e : E} {tg x : Expr} {pos : Pos} (h : chkA C.T N sc p e tg x = true) : PS X (.Assign [tg] x pos) (TSof C W pn Wx (.asg p e)) := by
  simp only [chkA, Bool.and_eq_true, Bool.or_eq_true] at h
  obtain ⟨⟨⟨h1, h2⟩, h3⟩, h4⟩ := h
  have pg := sndP p pn Wx sc X tg g.toGd (fun _ _ x _ _ => g.fnT x) h1
  have pe := (sndE e pn Wx sc X x g.toGd h2).1
  have im : ∀ (D : Ends) (σ : L2.St) (H : Hp), TSof C W pn Wx (.asg p e) D σ H → tAsg (TEof C W pn Wx e) (TGof C W pn Wx p) D σ H := fun D σ H ⟨B, G, st, env, R, S, hw⟩ => by
    simp only [wpS] at hw
    exact TE_S R S (Le.refl G) hw fun v d G1 st1 H1 le R1 r q => asgK R1 (S.mono le) le r q fun env' st' σ' G' H' a b c z => z σ' G' H' (le.trans a) b c
  rcases h4 with (⟨h4, h5⟩ | ⟨h4, h5⟩) | h4
  · exact PS.imp' (ps_asg pe pg (swaps_plain (by simpa using h4) _ _ _) (stores_plain h5 _ g.hsc) (by rw [assign_plain h3]; rfl)) im
  · exact snd_straight g h1 h2 h4 h5
  · exact snd_par g h1 h2 h4.1 h4.2
theorem snd_fr (g : Gs C W pn Wx k N sc X) {tg : Pt} {it : It} {body : Ss} {t i : Expr} {b : List Stmt} {pos : Pos} (h1 : plainX i = true) (h3 : chkIt C.T N sc it t i = true) (h4 : chkP C.T N sc tg t = true) (hb : PSs X b (TSsof C W pn Wx body)) :
    PS X (.For t i b [] pos) (TSof C W pn Wx (.fr tg it body)) := by
  refine PS.imp' (ps_for g.pas g.calm (sndI it pn Wx sc X t i g.toGd h3) (sndP tg pn Wx sc X t g.toGd (fun _ _ x _ _ => g.fnT x) h4) hb (fun x => fold_plain h1 X.env x)) fun D σ H ⟨B, G, st, env, R, S, hw⟩ => ?_
  simp only [wpS] at hw
  refine ⟨B, G, st, env, R, S, wpIt_mono it (fun xs stb st1 q G' H' J le R' wk => ?_) (exE (Le.refl G) S) hw⟩
  have stb1 : stb st1 := by
    cases xs with
    | nil => exact q.1
    | cons x xs => exact q.1
  have wk := wk stb1
  refine ⟨fun i m σ2 H2 => m = xs.length - i ∧ i ≤ xs.length ∧ ∃ G2 st2 env2, Le G' G2 ∧ Rel W B G2 st2 H2 ∧ RpS W pn G2 σ2 env2 ∧ loopP stb _ _ (xs.drop i) env2 st2, ⟨_, rfl, Nat.zero_le _, G', st1, env, Le.refl _, R', S.mono le, q⟩, ?_⟩
  rintro i m σ2 H2 ⟨rfl, hi, G2, st2, env2, le2, R2, S2, hf⟩
  by_cases hlt : i < xs.length
  · right
    rw [List.drop_eq_getElem_cons hlt] at hf
    obtain ⟨hb2, hf⟩ := hf
    obtain ⟨go, yl⟩ := (wk i _ G2 st2 H2 le2 R2 hb2).2 _ (List.getElem?_eq_getElem hlt)
    refine ⟨go, fun σ3 H3 => ∃ G2 st2 env2, Le G' G2 ∧ Rel W B G2 st2 H3 ∧ RpS W pn G2 σ3 env2 ∧ loopP stb _ _ (xs.drop (i + 1)) env2 st2, fun σ3 H3 h3 => ⟨xs.length - (i + 1), by omega, rfl, hlt, h3⟩, fun x H3 hy => ?_⟩
    obtain ⟨G3, le3, R3, r3⟩ := yl x H3 hy
    refine asgK R3 (S2.mono le3) ((le.trans le2).trans le3) r3 hf fun env4 st4 σ4 G4 H4 le4 R4 S4 q4 => ⟨B, G4, st4, env4, R4, S4, wpSs_mono body ?_ q4⟩
    have lA := ((le.trans le2).trans le3).trans le4
    exact ⟨fun e s z σ' G5 H5 a b c => ⟨G5, s, e, ((le2.trans le3).trans le4).trans a, b, c, z⟩, fun d s z => z.le lA, fun e s z σ' G5 H5 a b c => z σ' G5 H5 (lA.trans a) b c, fun e s z σ' G5 H5 a b c => ⟨G5, s, e, ((le2.trans le3).trans le4).trans a, b, c, z⟩, fun x e s z cls dx σ' G5 H5 a b c d => z cls dx σ' G5 H5 (lA.trans a) b c d⟩
  · left
    rw [List.drop_eq_nil_of_le (by omega)] at hf
    obtain ⟨hb2, hf⟩ := hf
    exact ⟨(wk i _ G2 st2 H2 le2 R2 hb2).1 (by omega), hf σ2 G2 H2 (le.trans le2) R2 S2⟩
theorem snd_wh (g : Gs C W pn Wx k N sc X) {c : E} {body : Ss} {x : Expr} {b : List Stmt} {pos : Pos} (hc : PT X x (TTof C W pn Wx c)) (hb : PSs X b (TSsof C W pn Wx body)) : PS X (.While x b [] pos) (TSof C W pn Wx (.wh c body)) := by
  refine PS.imp' (ps_while g.pas hc hb) fun D σ H ⟨B, G, st, env, R, S, hw⟩ => ?_
  simp only [wpS] at hw
  obtain ⟨I, ⟨n0, h0⟩, hw⟩ := hw
  refine ⟨fun n σ2 H2 => ∃ G2 st2 env2, Le G G2 ∧ Rel W B G2 st2 H2 ∧ RpS W pn G2 σ2 env2 ∧ I n env2 st2, ⟨n0, G, st, env, Le.refl G, R, S, h0⟩, fun n σ2 H2 ⟨G2, st2, env2, le2, R2, S2, i2⟩ => ?_⟩
  refine TT_S R2 S2 le2 (hw n env2 st2 i2) fun t G3 st3 H3 le3 R3 q => ?_
  have lA := le2.trans le3
  cases t with
  | false => exact q σ2 G3 H3 lA R3 (S2.mono le3)
  | true =>
    refine ⟨fun σ4 H4 => ∃ m, m < n ∧ ∃ G2 st2 env2, Le G G2 ∧ Rel W B G2 st2 H4 ∧ RpS W pn G2 σ4 env2 ∧ I m env2 st2, fun σ4 H4 h4 => h4, B, G3, st3, env2, R3, S2.mono le3, wpSs_mono body ?_ q⟩
    exact ⟨fun e s ⟨m, hm, z⟩ σ' G5 H5 a b c => ⟨m, hm, G5, s, e, lA.trans a, b, c, z⟩, fun d s z => z.le lA, fun e s z σ' G5 H5 a b c => z σ' G5 H5 (lA.trans a) b c, fun e s ⟨m, hm, z⟩ σ' G5 H5 a b c => ⟨m, hm, G5, s, e, lA.trans a, b, c, z⟩, fun x e s z cls dx σ' G5 H5 a b c d => z cls dx σ' G5 H5 (lA.trans a) b c d⟩
theorem RpF.put {G : Hp} {x : Str} {v : V} {d : D} (r : Rp W G v d) : ∀ {fs : List (Str × V)} {ds : List (Str × D)}, RpF W G fs ds → RpF W G (putF x v fs) (putD x d ds)
  | [], [], _ => ⟨rfl, .cons r .nil⟩
  | [], _ :: _, h => by cases h.1
  | _ :: _, [], h => by cases h.1
  | (y, u) :: fs, (z, e) :: ds, h => by
    obtain ⟨h1, h2⟩ := h
    simp only [List.map_cons, List.cons.injEq] at h1
    obtain ⟨rfl, h1⟩ := h1
    cases h2 with
    | cons ra rb =>
      unfold putF putD
      by_cases hx : y = x
      · rw [if_pos hx, if_pos hx]
        exact ⟨by simp [h1], .cons r rb⟩
      · rw [if_neg hx, if_neg hx]
        obtain ⟨i1, i2⟩ := RpF.put r (fs := fs) (ds := ds) ⟨h1, rb⟩
        exact ⟨by simp [i1], .cons ra i2⟩
theorem snd_fld (g : Gs C W pn Wx k N sc X) {o e : E} {x : Str} {y z : Expr} {p pos : Pos} (ho : PE X y (TEof C W pn Wx o)) (he : PE X z (TEof C W pn Wx e)) (hz : compX z = false) : PS X (.Assign [.Attribute y x p] z pos) (TSof C W pn Wx (.fld o x e)) := by
  refine PS.imp' (ps_fld ho he (swaps_plain hz _ _ _)) fun D σ H ⟨B, G, st, env, R, S, hw⟩ => ?_
  simp only [wpS] at hw
  refine TE_S R S (Le.refl G) hw fun v d G1 st1 H1 le R1 r q => TE_S R1 (S.mono le) le q fun ov od G2 st2 H2 le2 R2 r2 q2 => ?_
  unfold fldP at q2
  split at q2
  · rename_i a
    cases r2
    cases e1 : st2 a with
    | none => rw [e1] at q2; exact q2.elim
    | some so =>
      rw [e1] at q2
      obtain ⟨hO, x1, y1⟩ := R2.obj _ _ e1
      cases y1 with
      | ins ec rf =>
        obtain ⟨hc, hf, hl, q2⟩ := q2
        have co := g.glob.cls _ hc
        subst ec
        refine ⟨a, _, _, _, rfl, x1, g.hK ▸ co.ty.cl, g.hK ▸ co.fld _ hf, by rw [rf.length]; exact hl, q2 σ G2 _ (le.trans le2) (R2.put e1 (.ins rfl (RpF.put (r.mono le2) rf))) (S.mono (le.trans le2))⟩
      | _ => exact q2.elim
  · exact q2.elim
mutual
theorem sndS : ∀ (s : S) {x : Stmt}, Gs C W pn Wx k N sc X → chkS C.T N sc s x = true → PS X x (TSof C W pn Wx s)
  | .pass, x, g, h => by
    cases x <;> first | (simp [chkS] at h; done) | skip
    exact PS.imp' ps_pass fun D σ H ⟨B, G, st, env, R, S, hw⟩ => hw σ G H (Le.refl G) R S
  | .ex e, x, g, h => by
    simp only [chkS] at h
    split at h
    · simp only [Bool.and_eq_true, Bool.not_eq_true'] at h
      refine PS.imp' (ps_expr (sndE e pn Wx sc X _ g.toGd h.2).1 (swaps_plain h.1 _ _ _)) fun D σ H ⟨B, G, st, env, R, S, hw⟩ => ?_
      simp only [wpS] at hw
      exact TE_S R S (Le.refl G) hw fun v d G1 st1 H1 le R1 r q => q σ G1 H1 le R1 (S.mono le)
    · cases h
  | .asg p e, x, g, h => by
    simp only [chkS] at h
    split at h
    · exact snd_asg g h
    · cases h
  | .ret e, x, g, h => by
    simp only [chkS] at h
    split at h
    · refine PS.imp' (ps_ret (sndE e pn Wx sc X _ g.toGd h).1) fun D σ H ⟨B, G, st, env, R, S, hw⟩ => ?_
      simp only [wpS] at hw
      exact TE_S R S (Le.refl G) hw fun v d G1 st1 H1 le R1 r q => q v G1 H1 le R1 r
    · cases h
  | .retN, x, g, h => by
    simp only [chkS] at h
    split at h
    · exact PS.imp' ps_retN fun D σ H ⟨B, G, st, env, R, S, hw⟩ => hw _ G H (Le.refl G) R .non
    · cases h
  | .ifs c a b, x, g, h => by
    simp only [chkS] at h
    split at h
    · simp only [Bool.and_eq_true] at h
      obtain ⟨⟨⟨h1, h2⟩, h3⟩, h4⟩ := h
      refine PS.imp' (ps_if ((sndE c pn Wx sc X _ g.toGd h2).2.1 h1) (sndSs a g h3) (sndSs b g h4)) fun D σ H ⟨B, G, st, env, R, S, hw⟩ => ?_
      simp only [wpS] at hw
      refine TT_S R S (Le.refl G) hw fun t G1 st1 H1 le R1 q => ?_
      cases t with
      | true => exact ⟨B, G1, st1, env, R1, S.mono le, wpSs_mono a (KofD.le le) q⟩
      | false => exact ⟨B, G1, st1, env, R1, S.mono le, wpSs_mono b (KofD.le le) q⟩
    · cases h
  | .fr tg it body, x, g, h => by
    simp only [chkS] at h
    split at h
    · simp only [Bool.and_eq_true] at h
      obtain ⟨⟨⟨h1, h2⟩, h3⟩, h4⟩ := h
      exact snd_fr g h1 h2 h3 (sndSs body g h4)
    · cases h
  | .wh c body, x, g, h => by
    simp only [chkS] at h
    split at h
    · simp only [Bool.and_eq_true] at h
      obtain ⟨⟨h1, h2⟩, h3⟩ := h
      exact snd_wh g ((sndE c pn Wx sc X _ g.toGd h2).2.1 h1) (sndSs body g h3)
    · cases h
  | .brk, x, g, h => by
    simp only [chkS] at h
    split at h
    · exact PS.imp' ps_break fun D σ H ⟨B, G, st, env, R, S, hw⟩ => hw σ G H (Le.refl G) R S
    · cases h
  | .cont, x, g, h => by
    simp only [chkS] at h
    split at h
    · exact PS.imp' ps_continue fun D σ H ⟨B, G, st, env, R, S, hw⟩ => hw σ G H (Le.refl G) R S
    · cases h
  | .fld o f e, x, g, h => by
    simp only [chkS] at h
    split at h
    · simp only [Bool.and_eq_true, beq_iff_eq, Bool.not_eq_true'] at h
      obtain ⟨⟨⟨rfl, h1⟩, h2⟩, h3⟩ := h
      exact snd_fld g (sndE o pn Wx sc X _ g.toGd h2).1 (sndE e pn Wx sc X _ g.toGd h3).1 h1
    · cases h
  | .nv, x, g, h => PS.imp' ps_never fun D σ H ⟨B, G, st, env, R, S, hw⟩ => hw
theorem sndSs : ∀ (ss : Ss) {xs : List Stmt}, Gs C W pn Wx k N sc X → chkSs C.T N sc ss xs = true → PSs X xs (TSsof C W pn Wx ss)
  | .nil, [], g, h => PSs.imp' pss_nil fun D σ H ⟨B, G, st, env, R, S, hw⟩ => hw σ G H (Le.refl G) R S
  | .nil, _ :: _, g, h => by simp [chkSs] at h
  | .cons s ss, [], g, h => by simp [chkSs] at h
  | .cons s ss, x :: xs, g, h => by
    simp only [chkSs, Bool.and_eq_true] at h
    refine PSs.imp' (pss_cons (sndS s g h.1) (sndSs ss g h.2)) fun D σ H ⟨B, G, st, env, R, S, hw⟩ => ?_
    simp only [wpSs] at hw
    have l : ((KofD W pn Wx B G D).then fun env1 st1 => wpSs C ss env1 st1 (KofD W pn Wx B G D)).Le (KofD W pn Wx B G { D with nx := TSsof C W pn Wx ss D }) :=
      ⟨fun e1 s1 z σ' G1 H1 a b c => ⟨B, G1, s1, e1, b, c, wpSs_mono ss (KofD.le a) z⟩, fun _ _ z => z, fun _ _ z => z, fun _ _ z => z, fun _ _ _ z => z⟩
    exact ⟨B, G, st, env, R, S, wpS_mono s l hw⟩
end
end
end DL
/-! The defs of the text, by their bodies, to any depth of calls. -/
namespace DL
open PySem PySem.Spec PyProof.Rows L2
structure Fd where
  /-- how many names its body has -/
  nN : Nat
  ss : Ss
def KS.of (Q : DK) (X : XC) : KS := ⟨fun _ st => Q .non st, Q, fun _ _ => False, fun _ _ => False, fun x _ st => X x st⟩
/-- what a def's body must do, the calls in it n deep -/
def semC (T : Tb) (fs : Nat → Fd) : Nat → Cw
  | 0 => ⟨T, fun _ _ _ _ _ => False, fun _ _ h => h, fun h => h.elim⟩
  | n + 1 => ⟨T, fun g ds st Q X => T.isFn g = true ∧ ds.length = T.ar g ∧ wpSs (semC T fs n) (fs g).ss (ds.map some ++ List.replicate ((fs g).nN - ds.length) none) st (KS.of Q X),
      fun {_ _ _ Q _ X _} hq hx h => ⟨h.1, h.2.1, wpSs_mono (k := KS.of Q X) _ ⟨fun _ _ z => hq _ _ z, fun _ _ z => hq _ _ z, fun _ _ z => z, fun _ _ z => z, fun _ _ _ z => hx _ _ z⟩ h.2.2⟩, fun h => ⟨h.1, h.2.1⟩⟩
theorem semC_T (T : Tb) (fs : Nat → Fd) (n : Nat) : (semC T fs n).T = T := by cases n <;> rfl
/-- what must be known of the text's defs, whatever they compute -/
structure Facts (T : Tb) (fs : Nat → Fd) (W : Wd) (mg : Str → Option Value) : Prop where
  nam : ∀ x g, T.fns.lookup x = some g → mg x = some (.ref (W.tau g)) ∧ PySem.W.keepIn W.K (.ref (W.tau g)) = true
  con : ∀ x d, T.cons.lookup x = some d → ∃ u v, mg x = some u ∧ RelV v u ∧ ∀ G, Rp W G v d
  blt : ∀ x, x ∈ T.blts → mg x = none
  kit : ∀ t c b, kitD T t c = some b → PySem.W.kitOne W.K (tyV W t) (tyV W c) = some b
  cls : ∀ c, T.isCls c = true → ClsOk T W c
  fn : ∀ g, T.isFn g = true → ∃ x qual params body sc dvs kws fd N ps, FunD W.K x qual params body sc dvs kws (W.tau g) fd ∧ FnScope N ps sc ∧ chkSs T N sc (fs g).ss body = true ∧ N.length = (fs g).nN ∧ ps.length = T.ar g ∧
    (∀ n ks sel, (g, n, ks, sel) ∈ T.kws → KwOk W fd ps n ks sel) ∧ ∀ (s : Shared) (us : List Value), W.K.In s.heap → us.length = ps.length → BindsTo s fd ⟨us, []⟩ (ps.zip us)
section
variable {T : Tb} {fs : Nat → Fd} {W : Wd} {P : Program} {w : World} {mg : Str → Option Value} {base : Heap}
theorem glob_of (F : Facts T fs W mg) (n : Nat) (h : ∀ g, T.isFn g = true → ∃ fd ps, FnG P w W.K mg base (2 * n) (W.tau g) fd ps (spG (semC T fs n) W g) ∧ ps.length = T.ar g ∧ (∀ n ks sel, (g, n, ks, sel) ∈ T.kws → KwOk W fd ps n ks sel) ∧
    ∀ (s : Shared) (us : List Value), W.K.In s.heap → us.length = ps.length → BindsTo s fd ⟨us, []⟩ (ps.zip us)) : Glob (semC T fs n) W (2 * n) P w mg base := by
  cases n with
  | zero => exact ⟨F.nam, F.con, F.blt, F.kit, F.cls, h⟩
  | succ n => exact ⟨F.nam, F.con, F.blt, F.kit, F.cls, h⟩
theorem fnG_step {n : Nat} (ih : Glob (semC T fs n) W (2 * n) P w mg base) {g : Nat} {x qual : Str} {params : Arguments} {body : List Stmt} {sc : Scope} {dvs : List V} {kws : List (Str × V)} {fd : FuncData} {N ps : List Str} (h1 : FunD W.K x qual params body sc dvs kws (W.tau g) fd) (h2 : FnScope N ps sc)
    (h3 : chkSs T N sc (fs g).ss body = true) (h4 : N.length = (fs g).nN) (h5 : ps.length = T.ar g) : FnG P w W.K mg base (2 * (n + 1)) (W.tau g) fd ps (spG (semC T fs (n + 1)) W g) := by
  have len : ∀ (vs : List V) (H : Hp) (Q : VK) (E : XK), spG (semC T fs (n + 1)) W g vs H Q E → vs.length = ps.length := fun vs H Q E ⟨B, G, st, ds, R, r, z⟩ => by rw [r.length, z.2.1, h5]
  refine fnG_of (k := 2 * n + 1) h1 h2 len fun cdv A outer s H vs Q E gd room sp => ?_
  obtain ⟨B, G, st, ds, R, r, z⟩ := sp
  have hl : ds.length = T.ar g := z.2.1
  refine ⟨TSsof (semC T fs n) W [] (fun c d _ H' => E c d H') (fs g).ss, sndSs (N := N) (sc := sc) (fs g).ss ⟨⟨rfl, rfl, h2.nd, rfl, rfl, gd, room, takes_of rfl rfl rfl rfl, (fun p hp => by cases hp), ih⟩, passes_of rfl, fun _ => rfl⟩ (by rw [semC_T]; exact h3), ?_⟩
  refine ⟨B, G, st, _, R, RpS.start r, ?_⟩
  rw [h4]
  exact wpSs_mono (k := KS.of (Post W B G Q) (PostX W B G E)) _ ⟨fun e s z σ' G' H' a b c => z _ G' H' a b .non, fun d s z => z, fun _ _ z => z.elim, fun _ _ z => z.elim, fun x e s z cls dx σ' G' H' a b c d => z cls dx G' H' a b d⟩ z.2.2
theorem glob_all (F : Facts T fs W mg) : ∀ n : Nat, Glob (semC T fs n) W (2 * n) P w mg base
  | 0 => glob_of F 0 fun g hg => by
    obtain ⟨x, qual, params, body, sc, dvs, kws, fd, N, ps, h1, h2, h3, h4, h5, h6, h7⟩ := F.fn g hg
    refine ⟨fd, ps, ⟨fun vs H Q E z => ?_, fun A outer s H args us vs Q E _ _ _ _ _ z => ?_⟩, h5, h6, h7⟩
    · obtain ⟨_, _, _, _, _, _, z⟩ := z; exact z.elim
    · obtain ⟨_, _, _, _, _, _, z⟩ := z; exact z.elim
  | n + 1 => glob_of F (n + 1) fun g hg => by
    have ih := glob_all F n
    obtain ⟨x, qual, params, body, sc, dvs, kws, fd, N, ps, h1, h2, h3, h4, h5, h6, h7⟩ := F.fn g hg
    exact ⟨fd, ps, fnG_step ih h1 h2 h3 h4 h5, h5, h6, h7⟩
end
end DL
/-! What the head tells of the text's names, by one run; the facts that the defs need. -/
namespace DL
open PySem PySem.Spec PyProof.Rows L2
/-- where an object stands: a global's, a method, a property's getter, a classmethod's def -/
inductive Adr where
  | glo (x : Str)
  | meth (C m : Str)
  | prop (C m : Str)
  | cm (C m : Str)
def Adr.at (K : PySem.W.Frag) : Adr → Addr
  | .glo x => He.ga K x
  | .meth C m => He.ma K (He.ga K C) m
  | .prop C m => He5.wf K (He.ga K C) "property" m
  | .cm C m => He5.wf K (He.ga K C) "classmethod" m
structure DefI where
  at_ : Adr
  name : Str
  qual : Str
  params : Arguments
  body : List Stmt
  scope : Scope
  N : List Str
  ps : List Str
  ss : Ss
  dfl : List He.Dv := []
  kwd : List (Str × He.Dv) := []
def DefI.a (d : DefI) : He5.DefA := ⟨fun K => d.at_.at K, d.name, d.qual, d.params, d.body, d.scope, d.dfl, d.kwd⟩
structure LawT where
  defs : List (Nat × DefI)
  clss : List (Nat × Str × Ci)
  fns : List (Str × Nat)
  cons : List (Str × D)
  blts : List Str
  kts : List ((String ⊕ Nat) × (String ⊕ Nat) × Bool)
  kws : List (Nat × Nat × List Str × List (Nat ⊕ D))
def tyEq : String ⊕ Nat → String ⊕ Nat → Bool
  | .inl a, .inl b => a == b
  | .inr a, .inr b => a == b
  | _, _ => false
def ktLook (l : List ((String ⊕ Nat) × (String ⊕ Nat) × Bool)) (t c : String ⊕ Nat) : Option Bool := match l with
  | [] => none
  | (t', c', b) :: r => if tyEq t' t && tyEq c' c then some b else ktLook r t c
namespace LawT
def T (L : LawT) : Tb where
  cls := fun c => ((L.clss.lookup c).map (·.2)).getD {}
  fns := L.fns
  cons := L.cons
  blts := L.blts
  ar := fun g => ((L.defs.lookup g).map (·.ps.length)).getD 0
  isFn := fun g => (L.defs.lookup g).isSome
  isCls := fun c => (L.clss.lookup c).isSome
  kit := ktLook L.kts
  kws := L.kws
def fs (L : LawT) (g : Nat) : Fd := match L.defs.lookup g with
  | some d => ⟨d.N.length, d.ss⟩
  | none => ⟨0, .nil⟩
def tau (L : LawT) (K : PySem.W.Frag) (g : Nat) : Addr := match L.defs.lookup g with
  | some d => d.at_.at K
  | none => match L.clss.lookup g with
    | some (x, _) => He.ga K x
    | none => 0
def W (L : LawT) (K : PySem.W.Frag) : Wd := ⟨K, L.tau K⟩
end LawT
/-! ### values that the module, or a class, holds -/
mutual
def dvB (K : PySem.W.Frag) (tau : Nat → Addr) : D → Value → Bool
  | .non, .none => true
  | .bl a, .bool b => a == b
  | .int a, .int b _ => a == b
  | .str a, .str b _ => a == b
  | .ty a, .type b => a == b
  | .glo g, .ref a => a == tau g
  | .rol ds, .ref a => match K.lookup a with
    | some ⟨.type c, none, .seq its _, _⟩ => c == "list" && decide (its.size ≤ sizeLine) && dvBs K tau ds its.toList
    | _ => false
  | .tup ds, .ref a => match K.lookup a with
    | some ⟨.type c, _, .seq its _, _⟩ => c == "tuple" && decide (its.size ≤ sizeLine) && dvBs K tau ds its.toList
    | _ => false
  | _, _ => false
def dvBs (K : PySem.W.Frag) (tau : Nat → Addr) : List D → List Value → Bool
  | [], [] => true
  | d :: ds, u :: us => dvB K tau d u && dvBs K tau ds us
  | _, _ => false
end
section
variable {W : Wd} {K : PySem.W.Frag} {tau : Nat → Addr}
mutual
theorem dvB_ok : ∀ (d : D) (u : Value), dvB K tau d u = true → ∃ v, RelV v u ∧ ∀ G, Rp ⟨K, tau⟩ G v d
  | .non, u, h => by cases u <;> first | exact ⟨.non, rfl, fun G => .non⟩ | (simp [dvB] at h; done)
  | .bl a, u, h => by
    cases u <;> first | (simp [dvB] at h; done) | skip
    rw [dvB, beq_iff_eq] at h; subst h
    exact ⟨.bl _, rfl, fun G => .bl _⟩
  | .int a, u, h => by
    cases u <;> first | (simp [dvB] at h; done) | skip
    rw [dvB, beq_iff_eq] at h; subst h
    exact ⟨.int _, ⟨_, rfl⟩, fun G => .int _⟩
  | .str a, u, h => by
    cases u <;> first | (simp [dvB] at h; done) | skip
    rw [dvB, beq_iff_eq] at h; subst h
    exact ⟨.str _, ⟨_, rfl⟩, fun G => .str _⟩
  | .ty a, u, h => by
    cases u <;> first | (simp [dvB] at h; done) | skip
    rw [dvB, beq_iff_eq] at h; subst h
    exact ⟨.ty _, rfl, fun G => .ty _⟩
  | .glo g, u, h => by
    cases u <;> first | (simp [dvB] at h; done) | skip
    rw [dvB, beq_iff_eq] at h; subst h
    exact ⟨.ref _, rfl, fun G => .glo g⟩
  | .rol ds, u, h => by
    cases u <;> first | (simp [dvB] at h; done) | skip
    rename_i a
    rw [dvB] at h
    split at h
    · rename_i c its n sl e
      simp only [Bool.and_eq_true, beq_iff_eq, decide_eq_true_eq] at h
      obtain ⟨⟨rfl, hz⟩, h⟩ := h
      obtain ⟨vs, rv, rp⟩ := dvBs_ok ds its.toList h
      exact ⟨.ref a, rfl, fun G => .rol (.inr ⟨_, its, n, e, rfl, rfl, rfl, hz, rv⟩) (rp G) (by rw [← (rp G).length, rv.length]; simpa using hz)⟩
    · cases h
  | .tup ds, u, h => by
    cases u <;> first | (simp [dvB] at h; done) | skip
    rename_i a
    rw [dvB] at h
    split at h
    · rename_i c od its n sl e
      simp only [Bool.and_eq_true, beq_iff_eq, decide_eq_true_eq] at h
      obtain ⟨⟨rfl, hz⟩, h⟩ := h
      obtain ⟨vs, rv, rp⟩ := dvBs_ok ds its.toList h
      exact ⟨.ref a, rfl, fun G => .tup (.inr ⟨_, its, n, e, rfl, rfl, hz, rv⟩) (rp G) (by rw [← (rp G).length, rv.length]; simpa using hz)⟩
    · cases h
  | .lst _, u, h => by cases u <;> simp [dvB] at h
  | .dic _, u, h => by cases u <;> simp [dvB] at h
  | .ins _ _, u, h => by cases u <;> simp [dvB] at h
  | .loc _, u, h => by cases u <;> simp [dvB] at h
  | .exn _ _, u, h => by cases u <;> simp [dvB] at h
theorem dvBs_ok : ∀ (ds : List D) (us : List Value), dvBs K tau ds us = true → ∃ vs, Vals vs us ∧ ∀ G, RpL ⟨K, tau⟩ G vs ds
  | [], [], _ => ⟨[], .nil, fun G => .nil⟩
  | [], _ :: _, h => by cases h
  | _ :: _, [], h => by cases h
  | d :: ds, u :: us, h => by
    rw [dvBs, Bool.and_eq_true] at h
    obtain ⟨v, rv, rp⟩ := dvB_ok d u h.1
    obtain ⟨vs, rvs, rps⟩ := dvBs_ok ds us h.2
    exact ⟨v :: vs, .cons rv rvs, fun G => .cons (rp G) (rps G)⟩
end
end
/-! ### what is looked at -/
def tyFB (K : PySem.W.Frag) (x : Str) : Bool := (He.Fa.cls x).ok K && He.eqO (PySem.W.findIn K (.ref (He.ga K x)) "__class__") (some (some (.builtin "object.__class__"))) && He.eqO (PySem.W.specialIn K (.builtin "object.__class__") "__get__") (some (some (.builtin "getset_descriptor.__get__"))) &&
  decide (PySem.W.takesIn K (.builtin "object.__class__") = some true) && decide (PySem.W.mroIn K (He.ga K x) (.type "object") = some true)
def creadB (K : PySem.W.Frag) (x : Str) : Bool := PySem.W.readsIn K (He.ga K x) (.type "type") && He.eqO (PySem.W.specialIn K (.ref (He.ga K x)) "__getattribute__") (some (some (.builtin "type.__getattribute__")))
def conFB (K : PySem.W.Frag) (tau : Nat → Addr) (x f : Str) (d : D) : Bool := (match PySem.W.findIn K (.ref (He.ga K x)) f with
    | some (some u) => dvB K tau d u && He.eqO (PySem.W.specialIn K u "__get__") (some none) && (match PySem.W.findCls K (.ref (He.ga K x)) (.type "type") f with
      | some (.val u') => decide (u' = u)
      | _ => false)
    | _ => false) && !(PySem.W.copiedNames.contains f)
def prpFB (K : PySem.W.Frag) (x f : Str) (g : Addr) : Bool := He.eqO (PySem.W.findIn K (.ref (He.ga K x)) f) (some (some (.ref (He.ma K (He.ga K x) f)))) && He.eqO (PySem.W.specialIn K (.ref (He.ma K (He.ga K x) f)) "__get__") (some (some (.builtin "property.__get__"))) &&
  decide (PySem.W.takesIn K (.ref (He.ma K (He.ga K x) f)) = some true) && (match PySem.W.recIn K (He.ma K (He.ga K x) f) "property" with
    | some (.ref g' :: _) => g' == g
    | _ => false)
def clsFB (K : PySem.W.Frag) (tau : Nat → Addr) (isFn : Nat → Bool) (x : Str) (ci : Ci) : Bool := tyFB K x && ci.flds.all (fun f => He.eqO (PySem.W.findIn K (.ref (He.ga K x)) f) (some none)) && (ci.cns.isEmpty || creadB K x) && ci.cns.all (fun q => conFB K tau x q.1 q.2) &&
  ci.prs.all (fun q => prpFB K x q.1 (tau q.2)) && ci.mts.all (fun q => (He.Fa.meth x q.1).ok K && tau q.2 == He.ma K (He.ga K x) q.1) &&
  (ci.cms.isEmpty || creadB K x) && ci.cms.all (fun q => He5.wrapB K (He.ga K x) "classmethod" "classmethod.__get__" q.1 && PySem.W.fnIn K (He5.wf K (He.ga K x) "classmethod" q.1) && tau q.2 == He5.wf K (He.ga K x) "classmethod" q.1) &&
  (!isFn ci.init || ((He.Fa.mkr x).ok K && tau ci.init == He.ma K (He.ga K x) "__init__"))
def exB (L : LawT) (K : PySem.W.Frag) : Bool :=
  L.fns.all (fun q => He.eqO (PySem.W.nsIn K mainGlobals q.1) (some (some (.ref (L.tau K q.2)))) && PySem.W.keepIn K (.ref (L.tau K q.2))) &&
  L.cons.all (fun q => match PySem.W.nsIn K mainGlobals q.1 with
    | some (some u) => dvB K (L.tau K) q.2 u
    | _ => false) &&
  L.blts.all (fun x => He.eqO (PySem.W.nsIn K mainGlobals x) (some none)) &&
  L.kts.all (fun q => decide (PySem.W.kitOne K (tyV (L.W K) q.1) (tyV (L.W K) q.2.1) = some q.2.2)) &&
  L.clss.all (fun q => clsFB K (L.tau K) L.T.isFn q.2.1 q.2.2) && (K.lookup sysModules).isNone
abbrev AlB : Type := Bool × List He5.FnW
def obsB (L : LawT) (K : PySem.W.Frag) : AlB := (exB L K && L.defs.all fun q => q.2.a.ok K, L.defs.map fun q => He5.fnA K (q.2.a.at_ K))
def valB (L : LawT) : AlB := (true, L.defs.map fun q => q.2.a.val)
def sysB (g : Addr → Option Obj) : Bool := match g sysModules with
  | some o => match o.data with
    | .dict _ _ => true
    | _ => false
  | none => false
def obsBG (n : Nat) (L : LawT) (g : Addr → Option Obj) : Bool × AlB := (sysB g, obsB L (He.frG g (He5.asA g n)))
theorem sysB_ok {h : Heap} (e : sysB h.get? = true) : SysD h := by
  unfold sysB at e
  split at e
  · rename_i o eo
    split at e
    · rename_i es ep ed
      exact ⟨o, es, ep, eo, ed⟩
    · cases e
  · cases e
def hookB (n : Nat) (L : LawT) : PySem.W.Hook where
  α := Bool × AlB
  obs := fun s => obsBG n L s.heap.get?
  val := fun _ => (true, valB L)
  says := fun _ h => SysD h ∧ ∃ K : PySem.W.Frag, K.In h ∧ obsB L K = valB L
  of := fun _ _ e => ⟨sysB_ok (congrArg (·.1) e), _, He.frG_in, congrArg (·.2) e⟩
  keeps := fun _ _ _ ⟨⟨o, es, ep, e1, e2⟩, K, hK, c⟩ k => ⟨⟨o, es, ep, k _ _ e1, e2⟩, K, PySem.W.Frag.In.keeps hK k, c⟩
theorem obsBG_eq {n : Nat} {L : LawT} {g : Addr → Option Obj} {s : Shared} (h : ∀ a, g a = s.heap.get? a) : obsBG n L g = (hookB n L).obs s := by
  have e : g = s.heap.get? := funext h
  rw [e] <;> rfl
end DL
/-! From the run's facts to the defs' promises; the law's row. -/
namespace DL
open PySem PySem.Spec PyProof.Rows L2
theorem tyEq_ok {a b : String ⊕ Nat} (h : tyEq a b = true) : a = b := by
  cases a <;> cases b <;> first | (cases h; done) | (simp only [tyEq, beq_iff_eq] at h; rw [h])
theorem ktLook_ok {l : List ((String ⊕ Nat) × (String ⊕ Nat) × Bool)} {t c : String ⊕ Nat} {b : Bool} (h : ktLook l t c = some b) : (t, c, b) ∈ l := by
  induction l with
  | nil => cases h
  | cons q r ih =>
    obtain ⟨t', c', b'⟩ := q
    unfold ktLook at h
    split at h
    · rename_i e
      rw [Bool.and_eq_true] at e
      cases h
      rw [tyEq_ok e.1, tyEq_ok e.2]
      exact List.mem_cons_self
    · exact List.mem_cons_of_mem _ (ih h)
theorem mem_look {α : Type} {l : List (Nat × α)} {g : Nat} {d : α} (h : l.lookup g = some d) : (g, d) ∈ l := by
  induction l with
  | nil => cases h
  | cons q r ih =>
    obtain ⟨g', d'⟩ := q
    rw [List.lookup_cons] at h
    split at h
    · rename_i e
      cases h
      rw [beq_iff_eq] at e
      rw [e]
      exact List.mem_cons_self
    · exact List.mem_cons_of_mem _ (ih h)
theorem mem_lookS {α : Type} {l : List (Str × α)} {g : Str} {d : α} (h : l.lookup g = some d) : (g, d) ∈ l := PySem.mem_of_lookup h
/-- binding of a call whose arguments all stand by place -/
def BndOk (d : DefI) : Prop := ∀ (K : PySem.W.Frag) (f : Addr) (fd : FuncData), FunD K d.name d.qual d.params d.body d.scope (d.a.dvs K) (d.a.kws K) f fd → ∀ (s : Shared) (us : List Value), K.In s.heap → us.length = d.ps.length → BindsTo s fd ⟨us, []⟩ (d.ps.zip us)
def KwsOk (L : LawT) (q : Nat × Nat × List Str × List (Nat ⊕ D)) : Prop := ∀ d, L.defs.lookup q.1 = some d → ∀ (K : PySem.W.Frag) (f : Addr) (fd : FuncData), FunD K d.name d.qual d.params d.body d.scope (d.a.dvs K) (d.a.kws K) f fd → KwOk (L.W K) fd d.ps q.2.1 q.2.2.1 q.2.2.2
/-- what the text alone says -/
def stB (L : LawT) : Bool := L.defs.all (fun q => C8.scC q.2.N q.2.ps q.2.scope && chkSs L.T q.2.N q.2.scope q.2.ss q.2.body) && L.clss.all fun q => (L.defs.lookup q.1).isNone
/-- a def that takes its arguments by place, no defaults -/
theorem bnd_plain {d : DefI} (h0 : d.dfl = []) (h : ∀ (kV doc pm : Value) (an : Option Addr) (cdv ct : Value) (us : List Value), us.length = d.ps.length → bindArgs (PySem.W.fnOf d.name d.qual d.params d.body d.scope .none kV doc pm an cdv ct) ⟨us, []⟩ = pure (d.ps.zip us)) : BndOk d := by
  intro K f fd F s us _ hl
  have e : d.a.dvs K = [] := by show d.dfl.map _ = []; rw [h0]; rfl
  rw [e] at F
  exact F.bindsA h s us hl
/-- .. with names, no defaults -/
theorem kw_plain {L : LawT} {g n : Nat} {ks : List Str} {sel : List (Nat ⊕ D)} {d : DefI} (hd : L.defs.lookup g = some d) (h0 : d.dfl = []) (go : {α : Type} → List α → List α → List α)
    (h : ∀ (kV doc pm : Value) (an : Option Addr) (cdv ct : Value) (us ws : List Value), us.length = n → ws.length = ks.length → bindArgs (PySem.W.fnOf d.name d.qual d.params d.body d.scope .none kV doc pm an cdv ct) ⟨us, ks.zip ws⟩ = pure (d.ps.zip (go us ws)))
    (hv : ∀ {vs zs : List V} {us ws : List Value}, Vals vs us → Vals zs ws → us.length = n → ws.length = ks.length → Vals (go vs zs) (go us ws))
    (hr : ∀ {W : Wd} {G : Hp} {vs zs : List V} {ds es dd : List D}, RpL W G vs ds → RpL W G zs es → vs.length = n → zs.length = ks.length → selD ds es sel = some dd → RpL W G (go vs zs) dd) : KwsOk L (g, n, ks, sel) := by
  intro d' hd' K f fd F
  rw [hd] at hd'
  cases hd'
  have e : d.a.dvs K = [] := by show d.dfl.map _ = []; rw [h0]; rfl
  rw [e] at F
  intro s us ws vs zs X l1 l2 r1 r2
  obtain ⟨oc, od, dV, kV, doc, pm, an, cdv, ct, osl, rfl, lk, hcd, hD, hK⟩ := F.ex
  rcases hD with ⟨_, rfl⟩ | ⟨e, _⟩
  · exact ⟨go us ws, go vs zs, .of_eq (h kV doc pm an cdv ct us ws l1 l2), hv r1 r2 l1 l2, fun G ds es dd a b c => hr a b (r1.length.trans l1) (r2.length.trans l2) c⟩
  · exact absurd rfl e
/-- items by their places -/
def pick {α : Type} (p : List Nat) (l : List α) : List α := p.filterMap (l[·]?)
theorem pick_vals {vs : List V} {us : List Value} (r : Vals vs us) : ∀ p : List Nat, Vals (pick p vs) (pick p us)
  | [] => .nil
  | i :: p => by
    unfold pick
    rw [List.filterMap_cons, List.filterMap_cons]
    cases e : vs[i]? with
    | none =>
      have : us[i]? = none := by rw [List.getElem?_eq_none_iff] at e ⊢; rw [← r.length]; exact e
      rw [this]
      exact pick_vals r p
    | some v =>
      obtain ⟨u, hu, ru⟩ := r.get e
      rw [hu]
      exact .cons ru (pick_vals r p)
theorem pick_rp {W : Wd} {G : Hp} {vs : List V} {ds : List D} (r : RpL W G vs ds) : ∀ p : List Nat, RpL W G (pick p vs) (pick p ds)
  | [] => .nil
  | i :: p => by
    unfold pick
    rw [List.filterMap_cons, List.filterMap_cons]
    cases e : ds[i]? with
    | none =>
      have : vs[i]? = none := by rw [List.getElem?_eq_none_iff] at e ⊢; rw [r.length]; exact e
      rw [this]
      exact pick_rp r p
    | some d =>
      obtain ⟨u, hu, ru⟩ := r.get e
      rw [hu]
      exact .cons ru (pick_rp r p)
theorem selD_pick {ds es : List D} : ∀ {p : List Nat} {dd : List D}, selD ds es (p.map .inl) = some dd → dd = pick p (ds ++ es)
  | [], dd, h => by cases h; rfl
  | i :: p, dd, h => by
    simp only [List.map_cons, selD] at h
    unfold pick
    rw [List.filterMap_cons]
    cases e : (ds ++ es)[i]? with
    | none => rw [e] at h; cases h
    | some d =>
      rw [e] at h
      simp only [Option.map_eq_some_iff] at h
      obtain ⟨r, hr, rfl⟩ := h
      rw [selD_pick hr]; rfl
theorem vals_app {vs zs : List V} {us ws : List Value} (r1 : Vals vs us) (r2 : Vals zs ws) : Vals (vs ++ zs) (us ++ ws) := r1.append r2
/-- a call with names, no defaults -/
theorem kw_pick {L : LawT} {g n : Nat} {ks : List Str} {p : List Nat} {d : DefI} (hd : L.defs.lookup g = some d) (h0 : d.dfl = [])
    (h : ∀ (kV doc pm : Value) (an : Option Addr) (cdv ct : Value) (us ws : List Value), us.length = n → ws.length = ks.length → bindArgs (PySem.W.fnOf d.name d.qual d.params d.body d.scope .none kV doc pm an cdv ct) ⟨us, ks.zip ws⟩ = pure (d.ps.zip (pick p (us ++ ws)))) : KwsOk L (g, n, ks, p.map .inl) :=
  kw_plain hd h0 (fun us ws => pick p (us ++ ws)) h (fun r1 r2 _ _ => pick_vals (vals_app r1 r2) p) fun r1 r2 _ _ e => by rw [selD_pick e]; exact pick_rp (r1.append r2) p
section
variable {L : LawT} {K : PySem.W.Frag} {h : Heap} {mg : Str → Option Value}
theorem clsOk_of (c : Nat) (x : Str) (ci : Ci) (ht : L.T.cls c = ci) (ta : L.tau K c = He.ga K x) (hc : clsFB K (L.tau K) L.T.isFn x ci = true) : ClsOk L.T (L.W K) c := by
  unfold clsFB at hc
  simp only [Bool.and_eq_true, List.all_eq_true, Bool.or_eq_true, Bool.not_eq_true', beq_iff_eq] at hc
  obtain ⟨⟨⟨⟨⟨⟨⟨⟨h1, h2⟩, h3⟩, h4⟩, h5⟩, h6⟩, h7⟩, h8⟩, h9⟩ := hc
  have tc : (L.W K).tau c = He.ga K x := ta
  have ty : TyC (L.W K).K ((L.W K).tau c) := by
    rw [tc]
    unfold tyFB at h1
    simp only [Bool.and_eq_true, decide_eq_true_eq] at h1
    obtain ⟨⟨⟨⟨k1, k2⟩, k3⟩, k4⟩, k5⟩ := h1
    exact ⟨He.cls_ok k1, He.eqO_ok k2, He.eqO_ok k3, k4, k5⟩
  have rd : creadB K x = true → ClX.CRead K (He.ga K x) (.type "type") := fun z => by
    unfold creadB at z
    simp only [Bool.and_eq_true] at z
    exact ⟨z.1, He.eqO_ok z.2⟩
  refine ⟨ty, fun f hf => ?_, fun f d hd => ?_, fun f g hg => ?_, fun m g hg => ?_, fun m g hg => ?_, fun hi => ?_⟩
  · rw [ht] at hf
    rw [tc]
    exact He.eqO_ok (h2 f hf)
  · rw [ht] at hd
    rw [tc]
    have hm := mem_lookS hd
    have k := h4 _ hm
    unfold conFB at k
    simp only [Bool.and_eq_true, Bool.not_eq_true'] at k
    obtain ⟨k, kc⟩ := k
    split at k
    · rename_i u e
      simp only [Bool.and_eq_true] at k
      obtain ⟨⟨k1, k2⟩, k3⟩ := k
      obtain ⟨v, rv, rp⟩ := dvB_ok d u k1
      split at k3
      · rename_i u' e'
        rw [decide_eq_true_eq] at k3
        subst k3
        have cr : creadB K x = true := by
          rcases h3 with h3 | h3
          · rw [List.isEmpty_iff] at h3
            rw [h3] at hm; cases hm
          · exact h3
        exact ⟨v, u', _, ⟨e, rv, He.eqO_ok k2, kc⟩, rp, rd cr, ⟨e', rv⟩⟩
      · cases k3
    · cases k
  · rw [ht] at hg
    rw [tc]
    have k := h5 _ (mem_lookS hg)
    unfold prpFB at k
    simp only [Bool.and_eq_true, decide_eq_true_eq] at k
    obtain ⟨⟨⟨k1, k2⟩, k3⟩, k4⟩ := k
    refine ⟨_, He.eqO_ok k1, He.eqO_ok k2, k3, ?_⟩
    split at k4
    · rename_i g' r e
      rw [beq_iff_eq] at k4
      exact ⟨r, by show PySem.W.recIn K _ _ = _; rw [e, k4]; rfl⟩
    · cases k4
  · rw [ht] at hg
    rw [tc]
    have k := h6 _ (mem_lookS hg)
    show Meth K _ m (L.tau K g)
    rw [k.2]
    exact He.meth_ok k.1
  · rw [ht] at hg
    rw [tc]
    have hm := mem_lookS hg
    have k := h8 _ hm
    have cr : creadB K x = true := by
      rcases h7 with h7 | h7
      · rw [List.isEmpty_iff] at h7
        rw [h7] at hm; cases hm
      · exact h7
    refine ⟨.type "type", He.ma K (He.ga K x) m, rd cr, ?_⟩
    show ClX.CMet K _ _ m _ (L.tau K g)
    rw [k.2]
    exact He5.cmet_of k.1.1 k.1.2
  · rw [ht] at hi ⊢
    rw [tc]
    rcases h9 with h9 | h9
    · rw [hi] at h9; cases h9
    · show Mk K _ (L.tau K ci.init)
      rw [h9.2]
      exact He.mkr_ok h9.1
theorem facts_of (st : stB L = true) (hb : ∀ q ∈ L.defs, BndOk q.2) (hk : ∀ q ∈ L.kws, KwsOk L q) (c : obsB L K = valB L) (X : K.In h) (G : h.Ns mainGlobals mg) : Facts L.T L.fs (L.W K) mg := by
  have c1 : (exB L K && L.defs.all (fun q => q.2.a.ok K)) = true := congrArg (·.1) c
  have c2 : L.defs.map (fun q => He5.fnA K (q.2.a.at_ K)) = L.defs.map fun q => q.2.a.val := congrArg (·.2) c
  unfold exB at c1
  simp only [Bool.and_eq_true, List.all_eq_true] at c1
  obtain ⟨⟨⟨⟨⟨⟨e1, e2⟩, e3⟩, e4⟩, e5⟩, _⟩, e6⟩ := c1
  unfold stB at st
  simp only [Bool.and_eq_true, List.all_eq_true] at st
  obtain ⟨s1, s2⟩ := st
  refine ⟨fun x g hx => ?_, fun x d hx => ?_, fun x hx => ?_, fun t c b hx => ?_, fun c hc => ?_, fun g hg => ?_⟩
  · have k := e1 _ (mem_lookS hx)
    exact ⟨PySem.W.mg_of X G (He.eqO_ok k.1), k.2⟩
  · have k := e2 _ (mem_lookS hx)
    split at k
    · rename_i u e
      obtain ⟨v, rv, rp⟩ := dvB_ok d u k
      exact ⟨u, v, PySem.W.mg_of X G e, rv, rp⟩
    · cases k
  · exact PySem.W.mg_none_of X G (He.eqO_ok (e3 x hx))
  · have tab : L.T.kit t c = some b → PySem.W.kitOne (L.W K).K (tyV (L.W K) t) (tyV (L.W K) c) = some b := fun z => by
      have k := e4 _ (ktLook_ok z)
      rw [decide_eq_true_eq] at k
      exact k
    unfold kitD at hx
    split at hx
    · exact kit_ty hx
    · exact tab hx
  · obtain ⟨⟨x, ci⟩, e⟩ := Option.isSome_iff_exists.mp (show (L.clss.lookup c).isSome = true from hc)
    have hm := mem_look e
    have k := e5 _ hm
    have n := s2 _ hm
    refine clsOk_of c x ci ?_ ?_ k
    · show ((L.clss.lookup c).map (·.2)).getD {} = ci
      rw [e]; rfl
    · unfold LawT.tau
      rw [Option.isNone_iff_eq_none.mp n, e]
  · obtain ⟨d, e⟩ := Option.isSome_iff_exists.mp (show (L.defs.lookup g).isSome = true from hg)
    have hm := mem_look e
    have k := e6 _ hm
    have s := s1 _ hm
    have ta : (L.W K).tau g = d.at_.at K := by
      show L.tau K g = _
      unfold LawT.tau
      rw [e]
    have fe : He5.fnA K (d.a.at_ K) = d.a.val := by
      have : ∀ q ∈ L.defs, He5.fnA K (q.2.a.at_ K) = q.2.a.val := List.map_inj_left.mp c2
      exact this _ hm
    obtain ⟨fd, F⟩ := He5.DefA.funD fe k
    have ar : d.ps.length = L.T.ar g := by
      show _ = ((L.defs.lookup g).map (·.ps.length)).getD 0
      rw [e]; rfl
    have F' : FunD K d.name d.qual d.params d.body d.scope (d.a.dvs K) (d.a.kws K) ((L.W K).tau g) fd := by rw [ta]; exact F
    refine ⟨_, _, _, _, _, _, _, fd, d.N, d.ps, F', C8.fnScope_by s.1, ?_, ?_, ar, fun n ks sel hq => hk _ hq d e K _ fd F', hb _ hm K _ fd F'⟩
    · unfold LawT.fs
      rw [e]
      exact s.2
    · unfold LawT.fs
      rw [e]
theorem walk_of {l : PySem.W.OpenLaw} {n m k : Nat} {q : Program} {loose : List Str} {XP : (Str → Option Value) → Heap → Prop} {d : DefRec} {x : Str} {g : Nat} {dI : DefI} (hn : l.most = some n) (hn2 : n ≤ sizeLine) (hdf : d.params.defaults = []) (hr : Room (2 * (k + 1)) callerA)
    (st : stB L = true) (hb : ∀ q ∈ L.defs, BndOk q.2) (hk : ∀ q ∈ L.kws, KwsOk L q) (hL : L.defs.lookup g = some dI) (hf : L.fns.lookup d.name = some g) (hp : dI.ps = [x])
    (bnd : ∀ (K : PySem.W.Frag) (f : Addr) (fd : FuncData), FunD K dI.name dI.qual dI.params dI.body dI.scope (dI.a.dvs K) (dI.a.kws K) f fd → ∀ (s : Shared) (u : Value), BindsTo s fd ⟨[u], []⟩ [(x, u)])
    (sem : ∀ ns : List Int, ns.length ≤ n → (semC L.T L.fs (k + 1)).F g [.rol (ns.map D.int)] (fun _ => none) (fun d _ => d = .bl true) fun _ _ => False) :
    PySem.W.WalkO q loose XP (hookB m L).says l.row.toRowW d [] (fun f vs => PySem.call f vs) := by
  refine walk_g (k := 2 * (k + 1)) (x := x) hn hn2 hdf hr fun w mg fa h Y G hmg => ?_
  obtain ⟨hS, K, KX, c⟩ := Y
  have F := facts_of st hb hk c KX G
  have sys : K.lookup sysModules = none := by
    have c1 : (exB L K && L.defs.all (fun q => q.2.a.ok K)) = true := congrArg (·.1) c
    unfold exB at c1
    simp only [Bool.and_eq_true] at c1
    exact Option.isNone_iff_eq_none.mp c1.1.2
  have hg : L.T.isFn g = true := by
    show (L.defs.lookup g).isSome = true
    rw [hL]; rfl
  have ef : fa = (L.W K).tau g := by
    have := (F.nam _ _ hf).1
    rw [hmg] at this
    cases this; rfl
  have ta : (L.W K).tau g = dI.at_.at K := by
    show L.tau K g = _
    unfold LawT.tau
    rw [hL]
  have hm := mem_look hL
  have c1 : (exB L K && L.defs.all (fun q => q.2.a.ok K)) = true := congrArg (·.1) c
  simp only [Bool.and_eq_true, List.all_eq_true] at c1
  have c2 : L.defs.map (fun q => He5.fnA K (q.2.a.at_ K)) = L.defs.map fun q => q.2.a.val := congrArg (·.2) c
  have fe : He5.fnA K (dI.a.at_ K) = dI.a.val := (show ∀ q ∈ L.defs, He5.fnA K (q.2.a.at_ K) = q.2.a.val from List.map_inj_left.mp c2) _ hm
  obtain ⟨fd, F1⟩ := He5.DefA.funD fe (c1.2 _ hm)
  have st0 := st
  unfold stB at st0
  simp only [Bool.and_eq_true, List.all_eq_true] at st0
  have s1 := st0.1 _ hm
  have ar : dI.ps.length = L.T.ar g := by
    show _ = ((L.defs.lookup g).map (·.ps.length)).getD 0
    rw [hL]; rfl
  have F' : FunD (L.W K).K dI.name dI.qual dI.params dI.body dI.scope (dI.a.dvs K) (dI.a.kws K) ((L.W K).tau g) fd := by rw [ta]; exact F1
  have e1 : (L.fs g).ss = dI.ss := by unfold LawT.fs; rw [hL]
  have e2 : (L.fs g).nN = dI.N.length := by unfold LawT.fs; rw [hL]
  refine ⟨K, fd, spG (semC L.T L.fs (k + 1)) (L.W K) g, KX, sys, hS, bnd K _ fd F', fun H a ns hl low hS => ?_, fun base hK hN => ?_⟩
  · refine ⟨fun _ => none, H, fun _ => none, _, ⟨Le.refl H, (fun _ _ e => by cases e), (fun _ _ e => by cases e), (fun _ _ e => by cases e), (fun _ _ e => by cases e), low⟩, .cons (.rol hS (RpL.ints ns) (by rw [List.length_map]; exact Nat.le_trans hl hn2)) .nil, ?_⟩
    exact (semC L.T L.fs (k + 1)).mono (fun d s (e : d = .bl true) v G' H' _ _ r => by subst e; cases r; rfl) (fun _ _ z => z.elim) (sem ns hl)
  · subst ef
    have := fnG_step (P := l.prog) (w := w) (base := base) (glob_all F k) F' (C8.fnScope_by s1.1) (by rw [e1]; exact s1.2) e2.symm ar
    rw [hp] at this
    exact this
end
end DL
/-! Words for the mathematics: the small language's preconditions at plain data. -/
namespace DL
open PySem PySem.Spec PyProof.Rows L2
theorem notX_non : notX .non = true := rfl
theorem notX_bl {b : Bool} : notX (.bl b) = true := rfl
theorem notX_int {i : Int} : notX (.int i) = true := rfl
theorem notX_str {s : Str} : notX (.str s) = true := rfl
theorem notX_lst {l : List D} : notX (.lst l) = true := rfl
theorem notX_tup {l : List D} : notX (.tup l) = true := rfl
theorem notX_rol {l : List D} : notX (.rol l) = true := rfl
theorem notX_dic {l : List (Key × D)} : notX (.dic l) = true := rfl
theorem notX_loc {a : Addr} : notX (.loc a) = true := rfl
theorem notX_ins {c : Nat} {l : List (Str × D)} : notX (.ins c l) = true := rfl
theorem notX_glo {c : Nat} : notX (.glo c) = true := rfl
/-- a walk that leaves the store as it is: each item gives one more -/
theorem foldP_map {stb : Sto → Prop} {f : D → List D → Sto → (List D → Sto → Prop) → Prop} {st : Sto} (g : D → D) (hs : stb st) {K : List D → Sto → Prop} :
    ∀ {xs : List D} {acc : List D}, (∀ x ∈ xs, ∀ acc k, k (acc ++ [g x]) st → f x acc st k) → K (acc ++ xs.map g) st → foldP stb f xs acc st K
  | [], acc, _, h => ⟨hs, by simpa using h⟩
  | x :: xs, acc, hf, h => ⟨hs, hf x List.mem_cons_self acc _ (foldP_map g hs (fun y hy => hf y (List.mem_cons_of_mem _ hy)) (by rw [List.append_assoc]; exact h))⟩
/-- .. or none -/
theorem foldP_filter {stb : Sto → Prop} {f : D → List D → Sto → (List D → Sto → Prop) → Prop} {st : Sto} (p : D → Bool) (g : D → D) (hs : stb st) {K : List D → Sto → Prop} :
    ∀ {xs : List D} {acc : List D}, (∀ x ∈ xs, ∀ acc k, k (if p x then acc ++ [g x] else acc) st → f x acc st k) → K (acc ++ (xs.filter p).map g) st → foldP stb f xs acc st K
  | [], acc, _, h => ⟨hs, by simpa using h⟩
  | x :: xs, acc, hf, h => by
    refine ⟨hs, hf x List.mem_cons_self acc _ (foldP_filter p g hs (fun y hy => hf y (List.mem_cons_of_mem _ hy)) ?_)⟩
    rw [List.filter_cons] at h
    by_cases hp : p x = true
    · rw [if_pos hp] at h ⊢
      rw [List.append_assoc]
      exact h
    · rw [if_neg hp] at h ⊢
      exact h
/-- a walk by an invariant of the list so far and the store -/
theorem foldP_inv {α : Type} {stb : Sto → Prop} {f : D → α → Sto → (α → Sto → Prop) → Prop} {K : α → Sto → Prop} (I : Nat → α → Sto → Prop) (hs : ∀ i a s, I i a s → stb s) :
    ∀ {xs : List D} {i : Nat} {a : α} {st : Sto}, (∀ x ∈ xs, ∀ i a s k, I i a s → (∀ a' s', I (i + 1) a' s' → k a' s') → f x a s k) → (∀ a s, I (i + xs.length) a s → K a s) → I i a st → foldP stb f xs a st K
  | [], i, a, st, _, h, h0 => ⟨hs _ _ _ h0, h _ _ h0⟩
  | x :: xs, i, a, st, hf, h, h0 => ⟨hs _ _ _ h0, hf x List.mem_cons_self i a st _ h0 fun a' s' h1 => foldP_inv I hs (fun y hy => hf y (List.mem_cons_of_mem _ hy)) (fun a s z => h a s (by rw [List.length_cons]; rw [show i + (xs.length + 1) = i + 1 + xs.length by omega]; exact z)) h1⟩
/-- a for by an invariant -/
theorem loopP_inv {stb : Sto → Prop} {f : D → En → Sto → (En → Sto → Prop) → Prop} {nx : En → Sto → Prop} (I : Nat → En → Sto → Prop) (hs : ∀ i e s, I i e s → stb s) :
    ∀ {xs : List D} {i : Nat} {e : En} {st : Sto}, (∀ j x, xs[j]? = some x → ∀ e s go, I (i + j) e s → (∀ e' s', I (i + j + 1) e' s' → go e' s') → f x e s go) → (∀ e s, I (i + xs.length) e s → nx e s) → I i e st → loopP stb f nx xs e st
  | [], i, e, st, _, h, h0 => ⟨hs _ _ _ h0, h _ _ h0⟩
  | x :: xs, i, e, st, hf, h, h0 => ⟨hs _ _ _ h0, hf 0 x rfl e st _ h0 fun e' s' h1 => loopP_inv I hs (i := i + 1) (fun j y hy e s go z k => hf (j + 1) y hy e s go (by rw [show i + (j + 1) = i + 1 + j by omega]; exact z) (fun e' s' q => k e' s' (by rw [show i + 1 + j + 1 = i + (j + 1) + 1 by omega]; exact q)))
      (fun e s z => h e s (by rw [List.length_cons, show i + (xs.length + 1) = i + 1 + xs.length by omega]; exact z)) h1⟩
theorem toPL_map {α : Type} {f : α → D} {g : α → PyData} (h : ∀ a, toP (f a) = some (g a)) : ∀ l : List α, toPL (l.map f) = some (l.map g)
  | [] => rfl
  | a :: l => by simp only [List.map_cons, toPL, h, toPL_map h l, Option.bind_some, Option.map_some]
theorem eqvAll_refl_bool : ∀ l : List Bool, PyData.eqvAll (l.map PyData.bool) (l.map PyData.bool) = true
  | [] => rfl
  | b :: l => by simp [PyData.eqvAll, PyData.eqv, eqvAll_refl_bool l]
theorem bits_le {i : Int} {k : Nat} (h : i.natAbs < 2 ^ k) : Builtin.Int.intBits i ≤ k := by
  unfold Builtin.Int.intBits
  split
  · exact Nat.zero_le _
  · rename_i z
    have hne : i.natAbs ≠ 0 := by
      intro e
      apply z
      rw [beq_iff_eq]
      exact Int.natAbs_eq_zero.mp e
    have := (Nat.log2_lt hne).mpr h
    omega
theorem mulx {i j : Int} (h1 : i.natAbs < 2 ^ 1000) (h2 : j.natAbs < 2 ^ 1000) : CMulX i j := by
  have a := bits_le h1
  have b := bits_le h2
  unfold CMulX
  omega
theorem divp {i j : Int} (h0 : 0 < j) (h1 : j.natAbs < 2 ^ 1000) : CDivP i j := by
  refine ⟨h0, ?_⟩
  unfold Builtin.divisionGoesByPylong
  have hne : j.natAbs ≠ 0 := by omega
  have := (Nat.log2_lt hne).mpr h1
  have e : (j == 0) = false := by simpa using (show j ≠ 0 by omega)
  simp only [e, Bool.false_eq_true, if_false, Bool.and_eq_false_iff]
  left
  simp only [decide_eq_false_iff_not, gt_iff_lt, Nat.not_lt]
  omega
def takeS : Nat → Ss → Ss
  | 0, _ => .nil
  | n + 1, .cons s ss => .cons s (takeS n ss)
  | _ + 1, .nil => .nil
def dropS : Nat → Ss → Ss
  | 0, ss => ss
  | n + 1, .cons _ ss => dropS n ss
  | _ + 1, .nil => .nil
theorem KS.then_then (k : KS) (f g : En → Sto → Prop) : (k.then f).then g = k.then g := rfl
theorem wpSs_split {C : Cw} : ∀ (n : Nat) {ss : Ss} {env : En} {st : Sto} {k : KS}, wpSs C (takeS n ss) env st (k.then fun e s => wpSs C (dropS n ss) e s k) → wpSs C ss env st k
  | 0, ss, env, st, k, h => h
  | n + 1, .nil, env, st, k, h => h
  | n + 1, .cons s ss, env, st, k, h => by
    simp only [takeS, wpSs] at h ⊢
    exact wpS_mono (k := (k.then fun e s1 => wpSs C (dropS (n + 1) (.cons s ss)) e s1 k).then fun env1 st1 => wpSs C (takeS n ss) env1 st1 (k.then fun e s1 => wpSs C (dropS (n + 1) (.cons s ss)) e s1 k)) s ⟨fun e s z => wpSs_split n z, fun _ _ z => z, fun _ _ z => z, fun _ _ z => z, fun _ _ _ z => z⟩ h
/-- a body in two parts, R between -/
theorem wpSs_at {C : Cw} (n : Nat) {ss : Ss} {env : En} {st : Sto} {k : KS} (R : En → Sto → Prop) (h : ∀ K : En → Sto → Prop, (∀ e s, R e s → K e s) → wpSs C (takeS n ss) env st (k.then K)) (hr : ∀ e s, R e s → wpSs C (dropS n ss) e s k) : wpSs C ss env st k :=
  wpSs_split n (h _ hr)
section
variable {st : Sto} {Q : DK} {R : Bool → Prop} {m : Bool}
theorem tr_non : truP .non st R = R false := rfl
theorem tr_bl {b : Bool} : truP (.bl b) st R = R b := rfl
theorem tr_int {i : Int} : truP (.int i) st R = R (decide (i ≠ 0)) := rfl
theorem tr_str {s : Str} : truP (.str s) st R = (s.length ≤ sizeLine ∧ R (decide (s.length ≠ 0))) := rfl
theorem tr_lst {l : List D} : truP (.lst l) st R = R (!l.isEmpty) := rfl
theorem tr_tup {l : List D} : truP (.tup l) st R = R (!l.isEmpty) := rfl
theorem c_lt {i j : Int} : cmpP .Lt (.int i) (.int j) st Q = Q (.bl (decide (i < j))) st := rfl
theorem c_le {i j : Int} : cmpP .LtE (.int i) (.int j) st Q = Q (.bl (decide (i ≤ j))) st := rfl
theorem c_gt {i j : Int} : cmpP .Gt (.int i) (.int j) st Q = Q (.bl (decide (j < i))) st := rfl
theorem c_ge {i j : Int} : cmpP .GtE (.int i) (.int j) st Q = Q (.bl (decide (j ≤ i))) st := rfl
theorem c_eqi {i j : Int} : cmpP .Eq (.int i) (.int j) st Q = Q (.bl (decide (i = j))) st := rfl
theorem c_nei {i j : Int} : cmpP .NotEq (.int i) (.int j) st Q = Q (.bl (!decide (i = j))) st := rfl
theorem c_eqs {i j : Str} : cmpP .Eq (.str i) (.str j) st Q = Q (.bl (decide (i = j))) st := rfl
theorem c_nes {i j : Str} : cmpP .NotEq (.str i) (.str j) st Q = Q (.bl (!decide (i = j))) st := rfl
theorem c_eq {x y : D} : cmpP .Eq x y st Q = eqP st x y fun b => Q (.bl b) st := rfl
theorem c_ne {x y : D} : cmpP .NotEq x y st Q = eqP st x y fun b => Q (.bl (!b)) st := rfl
theorem c_isn {x : D} : cmpP .Is x .non st Q = Q (.bl (isNonD x)) st := rfl
theorem c_isnn {x : D} : cmpP .IsNot x .non st Q = Q (.bl (!isNonD x)) st := rfl
theorem c_isb {x : D} {b : Bool} : cmpP .Is x (.bl b) st Q = Q (.bl (isBlD b x)) st := rfl
theorem c_isnb {x : D} {b : Bool} : cmpP .IsNot x (.bl b) st Q = Q (.bl (!isBlD b x)) st := rfl
theorem c_in {x y : D} : cmpP .In x y st Q = inP st x y fun b => Q (.bl b) st := rfl
theorem c_nin {x y : D} : cmpP .NotIn x y st Q = inP st x y fun b => Q (.bl (!b)) st := rfl
theorem b_add {i j : Int} : binP m .Add (.int i) (.int j) st Q = Q (.int (i + j)) st := rfl
theorem b_adds {i j : Str} : binP m .Add (.str i) (.str j) st Q = (i.length + j.length ≤ sizeLine ∧ Q (.str (i ++ j)) st) := rfl
theorem b_addl {a b : List D} : binP m .Add (.lst a) (.lst b) st Q = (∃ x y, asL st (.lst a) = some x ∧ asL st (.lst b) = some y ∧ x.length + y.length ≤ sizeLine ∧ newL m (x ++ y) st Q) := rfl
theorem b_sub {i j : Int} : binP m .Sub (.int i) (.int j) st Q = Q (.int (i - j)) st := rfl
theorem b_mul {i j : Int} : binP m .Mult (.int i) (.int j) st Q = (CMulX i j ∧ Q (.int (i * j)) st) := rfl
theorem b_div {i j : Int} : binP m .FloorDiv (.int i) (.int j) st Q = (CDivW i j ∧ Q (.int (i / j)) st) := rfl
theorem b_mod {i j : Int} : binP m .Mod (.int i) (.int j) st Q = (0 < j ∧ Q (.int (i % j)) st) := rfl
theorem b_pow {i j : Int} : binP m .Pow (.int i) (.int j) st Q = (CPow i j ∧ Q (.int (i ^ j.toNat)) st) := rfl
theorem nl_f {l : List D} : newL false l st Q = Q (.lst l) st := rfl
theorem isb_int {i : Int} {b : Bool} : isBlD b (.int i) = false := rfl
theorem isb_bl {b c : Bool} : isBlD b (.bl c) = (c == b) := rfl
end
theorem noX_nil : noX [] = [] := rfl
theorem noX_none {e : En} : noX (none :: e) = none :: noX e := rfl
theorem noX_some {d : D} {e : En} (h : notX d = true) : noX (some d :: e) = some d :: noX e := by
  cases d <;> first | rfl | cases h
theorem wipe_nil {e : En} : wipeD e [] = e := rfl
theorem wipe_cons {e : En} {v : Nat} {vs : List Nat} : wipeD e (v :: vs) = (wipeD e vs).set v none := rfl
theorem idx_loc {st : Sto} {a : Addr} {xs : List D} {k : Int} {d : D} {Q : DK} (h : st a = some (.lst xs)) (hd : atI xs k = some d) (q : Q d st) : idxP (.loc a) (.int k) st Q := by
  refine ⟨xs, ?_, ?_⟩
  · show asL st (.loc a) = _
    unfold asL
    simp only [h]
  · rw [hd]; exact q
theorem set_loc {st : Sto} {a : Addr} {xs : List D} {k : Int} {j : Nat} {d : D} {K : Sto → Prop} (h : st a = some (.lst xs)) (hj : ixN xs.length k = some j) (q : K (ups st a (.lst (xs.set j d)))) : setP (.loc a) (.int k) d st K := by
  unfold setP
  simp only [h, hj]
  exact q
theorem idx_lst {st : Sto} {xs : List D} {k : Int} {d : D} {Q : DK} (hd : atI xs k = some d) (q : Q d st) : idxP (.lst xs) (.int k) st Q := ⟨xs, rfl, by rw [hd]; exact q⟩
theorem idx_rol {st : Sto} {xs : List D} {k : Int} {d : D} {Q : DK} (hd : atI xs k = some d) (q : Q d st) : idxP (.rol xs) (.int k) st Q := ⟨xs, rfl, by rw [hd]; exact q⟩
theorem idx_str {st : Sto} {s : Str} {k : Int} {c : Nat} {Q : DK} (hl : s.length ≤ sizeLine) (hd : atI s.cps.toList k = some c) (q : Q (.str ⟨#[c]⟩) st) : idxP (.str s) (.int k) st Q := ⟨hl, by rw [hd]; exact q⟩
theorem atI_nat {α : Type} {xs : List α} {k : Int} (h0 : 0 ≤ k) (h1 : k < xs.length) : ∃ d, atI xs k = some d ∧ d ∈ xs := by
  have hk : k.toNat < xs.length := by omega
  refine ⟨xs[k.toNat], ?_, List.getElem_mem hk⟩
  unfold atI ixN
  rw [if_pos h0, if_pos h1]
  exact List.getElem?_eq_getElem hk
theorem divw {i j : Int} (h0 : 0 < j) (h1 : j.natAbs < 2 ^ 1000) : CDivW i j := by
  refine ⟨h0, ?_⟩
  have := (Nat.log2_lt (show j.natAbs ≠ 0 by omega)).mpr h1
  omega
theorem pr_non {K : Option Int → Prop} : prtP .non K = K none := rfl
theorem pr_int {i : Int} {K : Option Int → Prop} : prtP (.int i) K = K (some i) := rfl
theorem sl_strE {m : Bool} {z : Str} {lo hi : Option Int} {st : Sto} {Q : DK} : slcP m (.str z) lo hi st Q = (z.length ≤ sizeLine ∧ Q (.str (cutS z lo hi)) st) := rfl
theorem add_lst {m : Bool} {a b : List D} {st : Sto} {Q : DK} (h : a.length + b.length ≤ sizeLine) (q : newL m (a ++ b) st Q) : binP m .Add (.lst a) (.lst b) st Q := ⟨a, b, rfl, rfl, h, q⟩
end DL
namespace K19
open PySem PySem.Spec PyProof.Rows L2 DL
abbrev top (i : Nat) : Stmt := PySem.Challenge.pw_exactroom_k19_names_and_numbers_judged.main.body.getD i (.Pass ⟨0, 0, 0, 0⟩)
abbrev mem (i j : Nat) : Stmt := match top i with
  | .ClassDef _ _ _ b _ _ _ _ _ _ _ => b.getD j (.Pass ⟨0, 0, 0, 0⟩)
  | s => s
/-- law -/
def b1 : Ss := .cons (.fr (.nm 1) (.range1 (.bi false "max" .max (.cons (.cst (.int 1)) (.cons (.bi false "min" .min (.cons (.bi false "len" .len (.cons (.var 0) .nil)) (.cons (.cst (.int 4)) .nil))) .nil)))) (.cons (.asg (.nm 2) (.call "_law_rng" 6 (.cons (.var 0) (.cons (.var 1) .nil)))) (.cons (.fr (.nm 3) (.range1 (.cst (.int 12))) (.cons (.ifs (.not (.bi false "all" .all (.cons (.comp false (.call "_law_right" 2 (.cons (.var 4) .nil)) (.nm 4) (.ex (.lst false (.cons (.call "_law_word" 5 (.cons (.var 2) .nil)) (.cons (.call "_law_number" 4 (.cons (.var 2) .nil)) (.cons (.call "_law_thing" 3 (.cons (.var 2) .nil)) .nil))))) .nil [4]) .nil))) (.cons (.ret (.cst (.bl false))) .nil) (.nil)) .nil)) .nil))) (.cons (.ret (.bi false "all" .all (.cons (.comp false (.call "_law_right" 2 (.cons (.var 4) .nil)) (.nm 4) (.ex (.lst false (.cons (.cst (.str "")) (.cons (.cst (.str "a")) (.cons (.cst (.str "z")) (.cons (.cst (.str "abcdefgh")) (.cons (.cst (.str "abcdefghi")) (.cons (.cst (.bl true)) (.cons (.cst (.bl false)) (.cons (.cst (.int 1)) (.cons (.bin false .Pow (.cst (.int 10)) (.cst (.int 12))) .nil))))))))))) .nil [4]) .nil))) .nil)
def d1 : DefI := ⟨.glo "law", "law", "law", defArgs (top 23), defBody (top 23), defScope (top 23), ["_law_script", "_law_k", "_law_rng_here", "_law_turn", "_law_thing_here"], ["_law_script"], b1, [], []⟩
/-- _law_right -/
def b2 : Ss := .cons (.asg (.tup (.cons (.nm 2) (.cons (.nm 3) .nil))) (.tup (.cons (.bi false "repr" .repr (.cons (.var 0) .nil)) (.cons (.bi false "repr" .repr (.cons (.call "_law_judged" 10 (.cons (.var 0) .nil)) .nil)) .nil)))) (.cons (.asg (.nm 1) (.comp true (.lst false (.cons (.call "is_integer" 9 (.cons (.var 0) .nil)) (.cons (.call "is_name" 8 (.cons (.var 0) .nil)) (.cons (.call "is_cells" 7 (.cons (.var 0) .nil)) .nil)))) (.nm 4) (.range1 (.cst (.int 2))) .nil [4])) (.cons (.ex (.bm false .append (.var 1) (.cons (.lst false (.cons (.callk "is_integer" 9 .nil ["value"] (.cons (.var 0) .nil) [.inl 0]) (.cons (.callk "is_name" 8 .nil ["value"] (.cons (.var 0) .nil) [.inl 0]) (.cons (.callk "is_cells" 7 .nil ["value"] (.cons (.var 0) .nil) [.inl 0]) .nil)))) .nil))) (.cons (.ret (.and (.cmp .Eq (.comp false (.bi false "repr" .repr (.cons (.var 5) .nil)) (.nm 5) (.ex (.var 1)) .nil [5]) (.bin false .Mult (.lst false (.cons (.var 3) .nil)) (.cst (.int 3)))) (.cmp .Eq (.bi false "repr" .repr (.cons (.var 0) .nil)) (.var 2)))) .nil)))
def d2 : DefI := ⟨.glo "_law_right", "_law_right", "_law_right", defArgs (top 22), defBody (top 22), defScope (top 22), ["_law_thing_here", "_law_told", "_law_shown", "_law_due", "_law_turn", "_law_row"], ["_law_thing_here"], b2, [], []⟩
/-- _law_thing -/
def b3 : Ss := .cons (.asg (.tup (.cons (.nm 2) (.cons (.nm 3) .nil))) (.tup (.cons (.call "_law_word" 5 (.cons (.var 0) .nil)) (.cons (.call "_law_number" 4 (.cons (.var 0) .nil)) .nil)))) (.cons (.asg (.nm 1) (.lst false (.cons (.cst (.non)) (.cons (.cst (.bl true)) (.cons (.cst (.bl false)) (.cons (.lst false .nil) (.cons (.dct false .nil) (.cons (.tup .nil) (.cons (.lst false (.cons (.var 2) .nil)) (.cons (.tup (.cons (.var 2) .nil)) (.cons (.dct false (.cons (.var 2) (.cons (.cst (.int 1)) .nil))) (.cons (.lst false (.cons (.var 3) .nil)) (.cons (.tup (.cons (.var 3) .nil)) (.cons (.bi false "str" .str (.cons (.var 3) .nil)) (.cons (.dct false (.cons (.cst (.int 1)) (.cons (.var 2) .nil))) .nil))))))))))))))) (.cons (.ret (.call "_law_choice" 11 (.cons (.var 0) (.cons (.var 1) .nil)))) .nil))
def d3 : DefI := ⟨.glo "_law_thing", "_law_thing", "_law_thing", defArgs (top 20), defBody (top 20), defScope (top 20), ["_law_rng_here", "_law_some", "_law_word_here", "_law_number_here"], ["_law_rng_here"], b3, [], []⟩
/-- _law_number -/
def b4 : Ss := .cons (.asg (.nm 1) (.call "_law_draw" 12 (.cons (.var 0) (.cons (.bin false .Pow (.cst (.int 10)) (.cst (.int 39))) .nil)))) (.cons (.asg (.nm 2) (.lst false (.cons (.cst (.int 0)) (.cons (.cst (.int 1)) (.cons (.neg (.cst (.int 1))) (.cons (.bin false .Pow (.cst (.int 10)) (.cst (.int 12))) (.cons (.bin false .Add (.bin false .Pow (.cst (.int 10)) (.cst (.int 12))) (.cst (.int 1))) (.cons (.bin false .Sub (.bin false .Pow (.cst (.int 10)) (.cst (.int 12))) (.cst (.int 1))) (.cons (.neg (.bin false .Pow (.cst (.int 10)) (.cst (.int 12)))) (.cons (.var 1) (.cons (.neg (.var 1)) (.cons (.bin false .Add (.cst (.int 1)) (.call "_law_draw" 12 (.cons (.var 0) (.cons (.bin false .Pow (.cst (.int 10)) (.cst (.int 12))) .nil)))) .nil)))))))))))) (.cons (.ret (.call "_law_choice" 11 (.cons (.var 0) (.cons (.bin false .Add (.var 2) (.lst false (.cons (.bin false .Sub (.call "_law_draw" 12 (.cons (.var 0) (.cons (.cst (.int 100)) .nil))) (.cst (.int 50))) .nil))) .nil)))) .nil))
def d4 : DefI := ⟨.glo "_law_number", "_law_number", "_law_number", defArgs (top 19), defBody (top 19), defScope (top 19), ["_law_rng_here", "_law_far", "_law_some"], ["_law_rng_here"], b4, [], []⟩
/-- _law_word -/
def b5 : Ss := .cons (.asg (.nm 1) (.cst (.str "abcdefghijklmnopqrstuvwxyz"))) (.cons (.asg (.nm 2) (.bm false .join (.cst (.str "")) (.cons (.comp false (.idx (.var 1) (.call "_law_draw" 12 (.cons (.var 0) (.cons (.cst (.int 26)) .nil)))) (.nm 6) (.range1 (.call "_law_draw" 12 (.cons (.var 0) (.cons (.cst (.int 11)) .nil)))) .nil [6]) .nil))) (.cons (.asg (.tup (.cons (.nm 4) (.cons (.nm 5) .nil))) (.tup (.cons (.call "_law_draw" 12 (.cons (.var 0) (.cons (.bin false .Add (.bi false "len" .len (.cons (.var 2) .nil)) (.cst (.int 1))) .nil))) (.cons (.call "_law_choice" 11 (.cons (.var 0) (.cons (.lst false (.cons (.cst (.str "A")) (.cons (.cst (.str "Z")) (.cons (.cst (.str "0")) (.cons (.cst (.str "9")) (.cons (.cst (.str " ")) (.cons (.cst (.str "\n")) (.cons (.cst (.str "`")) (.cons (.cst (.str "{")) (.cons (.cst (.str "_")) (.cons (.cst (.str "-")) (.cons (.cst (.str ".")) .nil)))))))))))) .nil))) .nil)))) (.cons (.asg (.nm 3) (.lst false (.cons (.bin false .Add (.bin false .Add (.slc false (.var 2) (.cst .non) (.var 4)) (.var 5)) (.slc false (.var 2) (.var 4) (.cst .non))) (.cons (.bin false .Add (.bin false .Add (.slc false (.var 2) (.cst .non) (.var 4)) (.var 5)) (.slc false (.var 2) (.bin false .Add (.var 4) (.cst (.int 1))) (.cst .non))) .nil)))) (.cons (.ret (.call "_law_choice" 11 (.cons (.var 0) (.cons (.bin false .Add (.lst false (.cons (.var 2) (.cons (.var 2) (.cons (.slc false (.var 2) (.cst .non) (.cst (.int 8))) .nil)))) (.var 3)) .nil)))) .nil))))
def d5 : DefI := ⟨.glo "_law_word", "_law_word", "_law_word", defArgs (top 18), defBody (top 18), defScope (top 18), ["_law_rng_here", "_law_letters", "_law_word_here", "_law_bent", "_law_at", "_law_odd", "_law_turn"], ["_law_rng_here"], b5, [], []⟩
/-- _law_rng -/
def b6 : Ss := .cons (.asg (.nm 2) (.ife (.cmp .Lt (.var 1) (.bi false "len" .len (.cons (.var 0) .nil))) (.bi false "abs" .abs (.cons (.idx (.var 0) (.var 1)) .nil)) (.cst (.int 0)))) (.cons (.ret (.lst true (.cons (.bi false "max" .max (.cons (.cst (.int 0)) (.cons (.bin false .Sub (.var 2) (.bin false .Pow (.cst (.int 10)) (.cst (.int 18)))) .nil))) (.cons (.bin false .Add (.bin false .Mod (.bin false .Pow (.bin false .Add (.bin false .Add (.bin false .Mod (.var 2) (.cst (.int 2147483543))) (.bin false .Mult (.cst (.int 101)) (.var 1))) (.cst (.int 7))) (.cst (.int 2))) (.cst (.int 2147483497))) (.cst (.int 1))) .nil)))) .nil)
def d6 : DefI := ⟨.glo "_law_rng", "_law_rng", "_law_rng", defArgs (top 15), defBody (top 15), defScope (top 15), ["_law_script", "_law_k", "_law_cell"], ["_law_script", "_law_k"], b6, [], []⟩
/-- is_cells -/
def b7 : Ss := .cons (.ret (.and (.call "is_integer" 9 (.cons (.var 0) .nil)) (.chain .LtE .LtE (.cst (.int 1)) (.var 0) (.attr "MAX_CELLS" (.gref "Sizes" 13))))) .nil
def d7 : DefI := ⟨.glo "is_cells", "is_cells", "is_cells", defArgs (top 10), defBody (top 10), defScope (top 10), ["value"], ["value"], b7, [], []⟩
/-- is_name -/
def b8 : Ss := .cons (.ifs (.or (.not (.bi false "isinstance" .isinstance (.cons (.var 0) (.cons (.bty "str" "str") .nil)))) (.not (.chain .LtE .LtE (.cst (.int 1)) (.bi false "len" .len (.cons (.var 0) .nil)) (.gcon "MAX_LETTERS" (.int 8))))) (.cons (.ret (.cst (.bl false))) .nil) (.nil)) (.cons (.ret (.bi false "all" .all (.cons (.comp false (.cmp .In (.var 1) (.gcon "LETTERS" (.str "abcdefghijklmnopqrstuvwxyz"))) (.nm 1) (.ex (.var 0)) .nil [1]) .nil))) .nil)
def d8 : DefI := ⟨.glo "is_name", "is_name", "is_name", defArgs (top 9), defBody (top 9), defScope (top 9), ["value", "letter"], ["value"], b8, [], []⟩
/-- is_integer -/
def b9 : Ss := .cons (.ret (.and (.bi false "isinstance" .isinstance (.cons (.var 0) (.cons (.bty "int" "int") .nil))) (.not (.bi false "isinstance" .isinstance (.cons (.var 0) (.cons (.bty "bool" "bool") .nil)))))) .nil
def d9 : DefI := ⟨.glo "is_integer", "is_integer", "is_integer", defArgs (top 8), defBody (top 8), defScope (top 8), ["value"], ["value"], b9, [], []⟩
/-- _law_judged -/
def b10 : Ss := .cons (.asg (.nm 1) (.cst (.str "abcdefghijklmnopqrstuvwxyz"))) (.cons (.asg (.nm 2) (.and (.bi false "isinstance" .isinstance (.cons (.var 0) (.cons (.bty "str" "str") .nil))) (.and (.chain .Lt .Lt (.cst (.int 0)) (.bi false "len" .len (.cons (.var 0) .nil)) (.cst (.int 9))) (.cmp .Eq (.comp false (.var 4) (.nm 4) (.ex (.var 0)) (.cons (.cmp .NotIn (.var 4) (.var 1)) .nil) [4]) (.lst false .nil))))) (.cons (.asg (.nm 3) (.and (.bi false "isinstance" .isinstance (.cons (.var 0) (.cons (.bty "int" "int") .nil))) (.and (.cmp .IsNot (.var 0) (.cst (.bl true))) (.cmp .IsNot (.var 0) (.cst (.bl false)))))) (.cons (.ret (.lst false (.cons (.var 3) (.cons (.var 2) (.cons (.and (.var 3) (.chain .Lt .LtE (.cst (.int 0)) (.var 0) (.bin false .Pow (.cst (.int 10)) (.cst (.int 12))))) .nil))))) .nil)))
def d10 : DefI := ⟨.glo "_law_judged", "_law_judged", "_law_judged", defArgs (top 21), defBody (top 21), defScope (top 21), ["_law_held", "_law_letters", "_law_is_named", "_law_is_whole", "_law_sign"], ["_law_held"], b10, [], []⟩
/-- _law_choice -/
def b11 : Ss := .cons (.ret (.idx (.var 1) (.call "_law_draw" 12 (.cons (.var 0) (.cons (.bi false "len" .len (.cons (.var 1) .nil)) .nil))))) .nil
def d11 : DefI := ⟨.glo "_law_choice", "_law_choice", "_law_choice", defArgs (top 17), defBody (top 17), defScope (top 17), ["_law_rng_here", "_law_options"], ["_law_rng_here", "_law_options"], b11, [], []⟩
/-- _law_draw -/
def b12 : Ss := .cons (.ifs (.cmp .Gt (.idx (.var 0) (.cst (.int 0))) (.cst (.int 0))) (.cons (.asg (.tup (.cons (.sub (.var 0) (.cst (.int 0))) (.cons (.nm 3) .nil))) (.bi false "divmod" .divmod (.cons (.idx (.var 0) (.cst (.int 0))) (.cons (.var 1) .nil)))) (.cons (.ret (.var 3)) .nil)) (.nil)) (.cons (.asg (.sub (.var 0) (.cst (.int 1))) (.bin false .Mod (.bin false .Add (.bin false .Mult (.idx (.var 0) (.cst (.int 1))) (.cst (.int 48271))) (.cst (.int 10007))) (.cst (.int 2147483587)))) (.cons (.asg (.nm 2) (.bin false .FloorDiv (.bin false .Mod (.bin false .Mult (.idx (.var 0) (.cst (.int 1))) (.idx (.var 0) (.cst (.int 1)))) (.cst (.int 2147483549))) (.cst (.int 11)))) (.cons (.ret (.ife (.cmp .Lt (.var 1) (.bin false .Pow (.cst (.int 2)) (.cst (.int 20)))) (.bin false .Mod (.var 2) (.var 1)) (.bin false .Mod (.bin false .Mult (.bin false .Add (.bin false .Mult (.var 2) (.cst (.int 2147483563))) (.idx (.var 0) (.cst (.int 1)))) (.cst (.int 2147483563))) (.var 1)))) .nil)))
def d12 : DefI := ⟨.glo "_law_draw", "_law_draw", "_law_draw", defArgs (top 16), defBody (top 16), defScope (top 16), ["_law_rng_here", "_law_many", "_law_mixed", "_law_digit"], ["_law_rng_here", "_law_many"], b12, [], []⟩
def L : LawT := { defs := [(1, d1), (2, d2), (3, d3), (4, d4), (5, d5), (6, d6), (7, d7), (8, d8), (9, d9), (10, d10), (11, d11), (12, d12)], clss := [(13, "Sizes", { cns := [("MAX_CELLS", .int 1000000000000)] })], fns := [("law", 1), ("_law_right", 2), ("_law_thing", 3), ("_law_number", 4), ("_law_word", 5), ("_law_rng", 6), ("is_cells", 7), ("is_name", 8), ("is_integer", 9), ("_law_judged", 10), ("_law_choice", 11), ("_law_draw", 12), ("Sizes", 13)], cons := [("LETTERS", .str "abcdefghijklmnopqrstuvwxyz"), ("MAX_LETTERS", .int 8)], blts := ["abs", "all", "bool", "divmod", "int", "isinstance", "len", "max", "min", "range", "repr", "str"], kts := [], kws := [(7, 0, ["value"], [.inl 0]), (8, 0, ["value"], [.inl 0]), (9, 0, ["value"], [.inl 0])] }
theorem static : stB L = true := by decide +kernel
theorem bnd1 : BndOk d1 := bnd_plain rfl fun _ _ _ _ _ _ us hl => match us, hl with
  | [_], _ => rfl
theorem bnd2 : BndOk d2 := bnd_plain rfl fun _ _ _ _ _ _ us hl => match us, hl with
  | [_], _ => rfl
theorem bnd3 : BndOk d3 := bnd_plain rfl fun _ _ _ _ _ _ us hl => match us, hl with
  | [_], _ => rfl
theorem bnd4 : BndOk d4 := bnd_plain rfl fun _ _ _ _ _ _ us hl => match us, hl with
  | [_], _ => rfl
theorem bnd5 : BndOk d5 := bnd_plain rfl fun _ _ _ _ _ _ us hl => match us, hl with
  | [_], _ => rfl
theorem bnd6 : BndOk d6 := bnd_plain rfl fun _ _ _ _ _ _ us hl => match us, hl with
  | [_, _], _ => rfl
theorem bnd7 : BndOk d7 := bnd_plain rfl fun _ _ _ _ _ _ us hl => match us, hl with
  | [_], _ => rfl
theorem bnd8 : BndOk d8 := bnd_plain rfl fun _ _ _ _ _ _ us hl => match us, hl with
  | [_], _ => rfl
theorem bnd9 : BndOk d9 := bnd_plain rfl fun _ _ _ _ _ _ us hl => match us, hl with
  | [_], _ => rfl
theorem bnd10 : BndOk d10 := bnd_plain rfl fun _ _ _ _ _ _ us hl => match us, hl with
  | [_], _ => rfl
theorem bnd11 : BndOk d11 := bnd_plain rfl fun _ _ _ _ _ _ us hl => match us, hl with
  | [_, _], _ => rfl
theorem bnd12 : BndOk d12 := bnd_plain rfl fun _ _ _ _ _ _ us hl => match us, hl with
  | [_, _], _ => rfl
theorem bnds : ∀ q ∈ L.defs, BndOk q.2 := List.forall_mem_cons.mpr ⟨bnd1, List.forall_mem_cons.mpr ⟨bnd2, List.forall_mem_cons.mpr ⟨bnd3, List.forall_mem_cons.mpr ⟨bnd4, List.forall_mem_cons.mpr ⟨bnd5, List.forall_mem_cons.mpr ⟨bnd6, List.forall_mem_cons.mpr ⟨bnd7, List.forall_mem_cons.mpr ⟨bnd8, List.forall_mem_cons.mpr ⟨bnd9, List.forall_mem_cons.mpr ⟨bnd10, List.forall_mem_cons.mpr ⟨bnd11, List.forall_mem_cons.mpr ⟨bnd12, (fun _ hq => by cases hq)⟩⟩⟩⟩⟩⟩⟩⟩⟩⟩⟩⟩
theorem kw0 : KwsOk L (7, 0, ["value"], [.inl 0]) := kw_pick (p := [0]) (d := d7) rfl rfl fun _ _ _ _ _ _ us ws h1 h2 => match us, ws, h1, h2 with
  | [], [_], _, _ => rfl
theorem kw1 : KwsOk L (8, 0, ["value"], [.inl 0]) := kw_pick (p := [0]) (d := d8) rfl rfl fun _ _ _ _ _ _ us ws h1 h2 => match us, ws, h1, h2 with
  | [], [_], _, _ => rfl
theorem kw2 : KwsOk L (9, 0, ["value"], [.inl 0]) := kw_pick (p := [0]) (d := d9) rfl rfl fun _ _ _ _ _ _ us ws h1 h2 => match us, ws, h1, h2 with
  | [], [_], _, _ => rfl
theorem kws : ∀ q ∈ L.kws, KwsOk L q := List.forall_mem_cons.mpr ⟨kw0, List.forall_mem_cons.mpr ⟨kw1, List.forall_mem_cons.mpr ⟨kw2, (fun _ hq => by cases hq)⟩⟩⟩
abbrev loose : List Str := (["_wall", "__name__", "RoomError", "InvalidSizes", "InvalidLevel", "LETTERS", "MAX_LETTERS", "is_integer", "is_name", "is_cells", "size_problem", "Sizes", "require_level", "_law_rng", "_law_draw", "_law_choice", "_law_word", "_law_number", "_law_thing", "_law_judged", "_law_right"] : List Str)
abbrev R : PySem.W.OpenRow := PySem.W.OpenLaw.row PySem.Challenge.rw_exactroom_k19_names_and_numbers_judged
abbrev hk : PySem.W.Hook := hookB 5 L
def ob (s : PySem.W.SharedT) : Bool × AlB := obsBG 5 L (HandSHeadRun.getT s)
theorem ob_eq (s : PySem.W.SharedT) : ob s = hk.obs s.abs := obsBG_eq (HandSHeadRun.getT_eq s)
end K19
set_option maxHeartbeats 1000000
namespace K19
open PySem PySem.Spec PyProof.Rows L2 DL
abbrev F (n g : Nat) (ds : List D) (st : Sto) (Q : DK) (X : XC) : Prop := (semC L.T L.fs n).F g ds st Q X
theorem kb : ∀ t ∈ ["NoneType", "bool", "int", "str", "list", "tuple", "dict"], kitB t "int" = some (t == "int" || t == "bool") ∧ kitB t "bool" = some (t == "bool") ∧ kitB t "str" = some (t == "str") := by decide +kernel
/-- values that can be shown -/
def Sh (d : D) : Prop := ∃ p, toP d = some p ∧ p.showable = true ∧ p.leavesShort 42 = true ∧ p.weight ≤ 1000 ∧ p.depth ≤ 64 ∧ ∀ s, d = .str s → ∀ c ∈ s.cps.toList, c < 0x110000
def tyN : D → String
  | .non => "NoneType"
  | .bl _ => "bool"
  | .int _ => "int"
  | .str _ => "str"
  | .lst _ => "list"
  | .tup _ => "tuple"
  | _ => "dict"
theorem Sh.ty {d : D} (h : Sh d) (st : Sto) : tyOf st d = some (.inl (tyN d)) ∧ tyN d ∈ ["NoneType", "bool", "int", "str", "list", "tuple", "dict"] := by
  obtain ⟨p, e, _⟩ := h
  cases d <;> first | (cases e; done) | exact ⟨rfl, by simp [tyN]⟩
theorem Sh.isi {d : D} (h : Sh d) (st : Sto) : isiD L.T st d (.ty "int") = some (tyN d == "int" || tyN d == "bool") ∧ isiD L.T st d (.ty "bool") = some (tyN d == "bool") ∧ isiD L.T st d (.ty "str") = some (tyN d == "str") := by
  obtain ⟨e, m⟩ := h.ty st
  obtain ⟨k1, k2, k3⟩ := kb _ m
  refine ⟨?_, ?_, ?_⟩
  · show (tyOf st d).bind _ = _
    rw [e]; exact k1
  · show (tyOf st d).bind _ = _
    rw [e]; exact k2
  · show (tyOf st d).bind _ = _
    rw [e]; exact k3
theorem Sh.nx {d : D} (h : Sh d) : notX d = true := by
  obtain ⟨p, e, _⟩ := h
  cases d <;> first | rfl | cases e
theorem un9 {n : Nat} {v : D} {st : Sto} {Q : DK} {X : XC} (h : wpSs (semC L.T L.fs n) b9 [some v] st (KS.of Q X)) : F (n + 1) 9 [v] st Q X := ⟨rfl, rfl, h⟩
def isI (d : D) : Bool := tyN d == "int"
theorem is_integer {n : Nat} {d : D} {st : Sto} {Q : DK} {X : XC} (h : Sh d) (q : Q (.bl (isI d)) st) : F (n + 1) 9 [d] st Q X := by
  obtain ⟨h1, h2, h3⟩ := h.isi st
  have nx := h.nx
  apply un9
  simp only [b9, wpSs, DL.wpS, wpE, wpEs, asgP, asgPs, wpIt, wpIfs, KS.then, KS.of, KS.loop, getV, List.getElem?_cons_zero, List.getElem?_cons_succ, Option.join_some, notX_non, notX_bl, notX_int, notX_str, notX_lst, notX_tup, notX_rol, notX_dic, notX_loc, notX_ins, notX_glo, true_and, and_true, semC_T, List.set_cons_zero, List.set_cons_succ, Bool.not_true, Bool.not_false, noX_nil, noX_none, noX_some, wipe_nil, wipe_cons, pr_non, pr_int, sl_strE, tr_non, tr_bl, tr_int, tr_str, tr_lst, tr_tup, c_lt, c_le, c_gt, c_ge, c_eqi, c_nei, c_eqs, c_nes, c_isn, c_isnn, c_isb, c_isnb, b_add, b_adds, b_sub, b_mul, b_div, b_mod, b_pow, nl_f, isb_int, isb_bl, if_true, Bool.false_eq_true, if_false, nx, biP, h1, h2]
  have m := (h.ty st).2
  unfold isI at q
  simp only [List.mem_cons, List.not_mem_nil, or_false] at m
  rcases m with m | m | m | m | m | m | m <;> rw [m] at q ⊢ <;> exact q
theorem un10 {n : Nat} {v : D} {st : Sto} {Q : DK} {X : XC} (h : wpSs (semC L.T L.fs n) b10 [some v, none, none, none, none] st (KS.of Q X)) : F (n + 1) 10 [v] st Q X := ⟨rfl, rfl, h⟩
theorem un8 {n : Nat} {v : D} {st : Sto} {Q : DK} {X : XC} (h : wpSs (semC L.T L.fs n) b8 [some v, none] st (KS.of Q X)) : F (n + 1) 8 [v] st Q X := ⟨rfl, rfl, h⟩
theorem un7 {n : Nat} {v : D} {st : Sto} {Q : DK} {X : XC} (h : wpSs (semC L.T L.fs n) b7 [some v] st (KS.of Q X)) : F (n + 1) 7 [v] st Q X := ⟨rfl, rfl, h⟩
abbrev letters : Str := "abcdefghijklmnopqrstuvwxyz"
def inL (c : Nat) : Bool := strIn ⟨#[c]⟩ letters
/-- a name: one to eight signs, each a letter -/
def isN : D → Bool
  | .str s => decide (1 ≤ s.length) && decide (s.length ≤ 8) && s.cps.toList.all inL
  | _ => false
def isC : D → Bool
  | .int i => decide (1 ≤ i) && decide (i ≤ 1000000000000)
  | _ => false
theorem Sh.len {s : Str} (h : Sh (.str s)) : s.length ≤ sizeLine := by
  obtain ⟨p, e, _, _, hw, _, _⟩ := h
  cases e
  have : s.cps.size ≤ 1000 := hw
  exact Nat.le_trans this (by decide)
theorem maxc : (L.T.cls 13).cns.lookup ("MAX_CELLS" : Str) = some (D.int 1000000000000) := rfl
theorem is_cells {n : Nat} {d : D} {st : Sto} {Q : DK} {X : XC} (h : Sh d) (q : Q (.bl (isC d)) st) : F (n + 2) 7 [d] st Q X := by
  have nx := h.nx
  apply un7
  simp only [b7, wpSs, DL.wpS, wpE, wpEs, asgP, asgPs, wpIt, wpIfs, KS.then, KS.of, KS.loop, getV, List.getElem?_cons_zero, List.getElem?_cons_succ, Option.join_some, notX_non, notX_bl, notX_int, notX_str, notX_lst, notX_tup, notX_rol, notX_dic, notX_loc, notX_ins, notX_glo, true_and, and_true, semC_T, List.set_cons_zero, List.set_cons_succ, Bool.not_true, Bool.not_false, noX_nil, noX_none, noX_some, wipe_nil, wipe_cons, pr_non, pr_int, sl_strE, tr_non, tr_bl, tr_int, tr_str, tr_lst, tr_tup, c_lt, c_le, c_gt, c_ge, c_eqi, c_nei, c_eqs, c_nes, c_isn, c_isnn, c_isb, c_isnb, b_add, b_adds, b_sub, b_mul, b_div, b_mod, b_pow, nl_f, isb_int, isb_bl, if_true, Bool.false_eq_true, if_false, nx]
  refine is_integer h ?_
  simp only [tr_bl]
  by_cases hi : isI d = true
  · rw [if_pos hi]
    cases d <;> first | (cases hi; done) | skip
    rename_i i
    simp only [c_le]
    by_cases h1 : 1 ≤ i
    · simp only [h1, decide_true, if_true, attrP, insOf, semC_T, maxc]
      refine ⟨rfl, ?_⟩
      simp only [c_le]
      simpa [isC, h1] using q
    · simp only [h1, decide_false, Bool.false_eq_true, if_false]
      simpa [isC, h1] using q
  · rw [if_neg hi]
    have : isC d = false := by cases d <;> first | rfl | exact absurd rfl hi
    rw [this] at q
    have e : isI d = false := by simpa using hi
    rw [e]; exact q

/-- a sign's place among the letters -/
def chr : D → D
  | .str y => .bl (strIn y letters)
  | _ => .non
def chrB : D → Bool
  | .str y => strIn y letters
  | _ => false
theorem in_str {a z : Str} {st : Sto} {Q : Bool → Prop} : inP st (.str a) (.str z) Q = Q (strIn a z) := rfl
theorem is_name {n : Nat} {d : D} {st : Sto} {Q : DK} {X : XC} (h : Sh d) (q : Q (.bl (isN d)) st) : F (n + 1) 8 [d] st Q X := by
  obtain ⟨h1, h2, h3⟩ := h.isi st
  have nx := h.nx
  apply un8
  simp only [b8, wpSs, DL.wpS, wpE, wpEs, asgP, asgPs, wpIt, wpIfs, KS.then, KS.of, KS.loop, getV, List.getElem?_cons_zero, List.getElem?_cons_succ, Option.join_some, notX_non, notX_bl, notX_int, notX_str, notX_lst, notX_tup, notX_rol, notX_dic, notX_loc, notX_ins, notX_glo, true_and, and_true, semC_T, List.set_cons_zero, List.set_cons_succ, Bool.not_true, Bool.not_false, noX_nil, noX_none, noX_some, wipe_nil, wipe_cons, pr_non, pr_int, sl_strE, tr_non, tr_bl, tr_int, tr_str, tr_lst, tr_tup, c_lt, c_le, c_gt, c_ge, c_eqi, c_nei, c_eqs, c_nes, c_isn, c_isnn, c_isb, c_isnb, b_add, b_adds, b_sub, b_mul, b_div, b_mod, b_pow, nl_f, isb_int, isb_bl, if_true, Bool.false_eq_true, if_false, nx, biP, h3]
  by_cases hs : (tyN d == "str") = true
  · cases d <;> first | (simp [tyN] at hs; done) | skip
    rename_i s
    have hl := h.len
    simp only [hs, wpSs, DL.wpS, wpE, wpEs, asgP, asgPs, wpIt, wpIfs, KS.then, KS.of, KS.loop, getV, List.getElem?_cons_zero, List.getElem?_cons_succ, Option.join_some, notX_non, notX_bl, notX_int, notX_str, notX_lst, notX_tup, notX_rol, notX_dic, notX_loc, notX_ins, notX_glo, true_and, and_true, semC_T, List.set_cons_zero, List.set_cons_succ, Bool.not_true, Bool.not_false, noX_nil, noX_none, noX_some, wipe_nil, wipe_cons, pr_non, pr_int, sl_strE, tr_non, tr_bl, tr_int, tr_str, tr_lst, tr_tup, c_lt, c_le, c_gt, c_ge, c_eqi, c_nei, c_eqs, c_nes, c_isn, c_isnn, c_isb, c_isnb, b_add, b_adds, b_sub, b_mul, b_div, b_mod, b_pow, nl_f, isb_int, isb_bl, if_true, Bool.false_eq_true, if_false, lenP]
    refine ⟨hl, ?_⟩
    by_cases a1 : (1 : Int) ≤ (s.length : Int)
    · by_cases a2 : (s.length : Int) ≤ 8
      · simp only [a1, a2, decide_true, decide_false, wpSs, DL.wpS, wpE, wpEs, asgP, asgPs, wpIt, wpIfs, KS.then, KS.of, KS.loop, getV, List.getElem?_cons_zero, List.getElem?_cons_succ, Option.join_some, notX_non, notX_bl, notX_int, notX_str, notX_lst, notX_tup, notX_rol, notX_dic, notX_loc, notX_ins, notX_glo, true_and, and_true, semC_T, List.set_cons_zero, List.set_cons_succ, Bool.not_true, Bool.not_false, noX_nil, noX_none, noX_some, wipe_nil, wipe_cons, pr_non, pr_int, sl_strE, tr_non, tr_bl, tr_int, tr_str, tr_lst, tr_tup, c_lt, c_le, c_gt, c_ge, c_eqi, c_nei, c_eqs, c_nes, c_isn, c_isnn, c_isb, c_isnb, b_add, b_adds, b_sub, b_mul, b_div, b_mod, b_pow, nl_f, isb_int, isb_bl, if_true, Bool.false_eq_true, if_false, itemsP]
        have hl' : s.cps.toList.length ≤ sizeLine := by rw [Array.length_toList]; exact hl
        refine ⟨by rw [List.length_map]; exact hl', foldP_map chr trivial (fun x hx acc k hk => ?_) ?_⟩
        · obtain ⟨c, _, rfl⟩ := List.mem_map.mp hx
          exact ⟨rfl, hk⟩
        · refine ⟨s.cps.toList.map inL, ?_, ?_⟩
          · show some _ = some _
            rw [List.nil_append, List.map_map, List.map_map]
            rfl
          · have e : isN (.str s) = (s.cps.toList.map inL).all id := by
              have b1 : 1 ≤ s.length := by omega
              have b2 : s.length ≤ 8 := by omega
              simp [isN, b1, b2, List.all_map, Function.comp_def]
            rw [← e]; exact q
      · simp only [a1, a2, decide_true, decide_false, wpSs, DL.wpS, wpE, wpEs, asgP, asgPs, wpIt, wpIfs, KS.then, KS.of, KS.loop, getV, List.getElem?_cons_zero, List.getElem?_cons_succ, Option.join_some, notX_non, notX_bl, notX_int, notX_str, notX_lst, notX_tup, notX_rol, notX_dic, notX_loc, notX_ins, notX_glo, true_and, and_true, semC_T, List.set_cons_zero, List.set_cons_succ, Bool.not_true, Bool.not_false, noX_nil, noX_none, noX_some, wipe_nil, wipe_cons, pr_non, pr_int, sl_strE, tr_non, tr_bl, tr_int, tr_str, tr_lst, tr_tup, c_lt, c_le, c_gt, c_ge, c_eqi, c_nei, c_eqs, c_nes, c_isn, c_isnn, c_isb, c_isnb, b_add, b_adds, b_sub, b_mul, b_div, b_mod, b_pow, nl_f, isb_int, isb_bl, if_true, Bool.false_eq_true, if_false]
        have e : isN (.str s) = false := by
          have b2 : ¬ s.length ≤ 8 := by omega
          simp [isN, b2]
        rw [e] at q; exact q
    · simp only [a1, decide_true, decide_false, wpSs, DL.wpS, wpE, wpEs, asgP, asgPs, wpIt, wpIfs, KS.then, KS.of, KS.loop, getV, List.getElem?_cons_zero, List.getElem?_cons_succ, Option.join_some, notX_non, notX_bl, notX_int, notX_str, notX_lst, notX_tup, notX_rol, notX_dic, notX_loc, notX_ins, notX_glo, true_and, and_true, semC_T, List.set_cons_zero, List.set_cons_succ, Bool.not_true, Bool.not_false, noX_nil, noX_none, noX_some, wipe_nil, wipe_cons, pr_non, pr_int, sl_strE, tr_non, tr_bl, tr_int, tr_str, tr_lst, tr_tup, c_lt, c_le, c_gt, c_ge, c_eqi, c_nei, c_eqs, c_nes, c_isn, c_isnn, c_isb, c_isnb, b_add, b_adds, b_sub, b_mul, b_div, b_mod, b_pow, nl_f, isb_int, isb_bl, if_true, Bool.false_eq_true, if_false]
      have e : isN (.str s) = false := by
        have b2 : ¬ 1 ≤ s.length := by omega
        simp [isN, b2]
      rw [e] at q; exact q
  · have hs' : (tyN d == "str") = false := by simpa using hs
    simp only [hs', wpSs, DL.wpS, wpE, wpEs, asgP, asgPs, wpIt, wpIfs, KS.then, KS.of, KS.loop, getV, List.getElem?_cons_zero, List.getElem?_cons_succ, Option.join_some, notX_non, notX_bl, notX_int, notX_str, notX_lst, notX_tup, notX_rol, notX_dic, notX_loc, notX_ins, notX_glo, true_and, and_true, semC_T, List.set_cons_zero, List.set_cons_succ, Bool.not_true, Bool.not_false, noX_nil, noX_none, noX_some, wipe_nil, wipe_cons, pr_non, pr_int, sl_strE, tr_non, tr_bl, tr_int, tr_str, tr_lst, tr_tup, c_lt, c_le, c_gt, c_ge, c_eqi, c_nei, c_eqs, c_nes, c_isn, c_isnn, c_isb, c_isnb, b_add, b_adds, b_sub, b_mul, b_div, b_mod, b_pow, nl_f, isb_int, isb_bl, if_true, Bool.false_eq_true, if_false]
    have e : isN d = false := by cases d <;> first | rfl | (exfalso; exact hs rfl)
    rw [e] at q; exact q
theorem pow1012 : (10 : Int) ^ (12 : Int).toNat = 1000000000000 := by decide
theorem cpow {i j : Int} (h0 : 0 ≤ j) (h1 : j ≤ 1000) (h2 : i.natAbs < 2 ^ 64) : CPow i j := ⟨h0, by omega, h2⟩
theorem eq_nil {l : List D} {st : Sto} {Q : Bool → Prop} {ps : List PyData} (h : toPL l = some ps) (hs : SeqAt.shaped (.list ps) = true) (q : Q l.isEmpty) : eqP st (.lst l) (.lst []) Q := by
  refine ⟨.list ps, .list [], by show (toPL l).map _ = _; rw [h]; rfl, rfl, hs, rfl, ?_⟩
  have e : PyData.eqv (.list ps) (.list []) = l.isEmpty := by
    cases l with
    | nil => cases h; rfl
    | cons d l =>
      cases ps with
      | nil =>
        simp only [toPL, Option.bind_eq_some_iff, Option.map_eq_some_iff] at h
        obtain ⟨_, _, _, _, z⟩ := h
        cases z
      | cons p ps => rfl
  rw [e]; exact q
theorem Sh.cp {s : Str} (h : Sh (.str s)) : ∀ c ∈ s.cps.toList, c < 0x110000 := by
  obtain ⟨p, e, _, _, _, _, h⟩ := h
  exact h s rfl
theorem lay_strs : ∀ {l : List Nat}, (∀ c ∈ l, c < 0x110000) → PyData.canLayAll0 (l.map fun c => PyData.str ⟨#[c]⟩) = true ∧ PyData.depthAll (l.map fun c => PyData.str ⟨#[c]⟩) = 0
  | [], _ => ⟨rfl, rfl⟩
  | c :: l, h => by
    obtain ⟨h1, h2⟩ := lay_strs fun x hx => h x (List.mem_cons_of_mem c hx)
    have hc := h c List.mem_cons_self
    refine ⟨?_, ?_⟩
    · simp only [List.map_cons, PyData.canLayAll0, PyData.canLay0, h1, Bool.and_true]
      show (#[c].all fun c => decide (c < 0x110000)) = true
      simp [hc]
    · simp only [List.map_cons, PyData.depthAll, PyData.depth, h2]
      rfl
theorem shaped_strs {l : List Nat} (h : ∀ c ∈ l, c < 0x110000) : SeqAt.shaped (.list (l.map fun c => PyData.str ⟨#[c]⟩)) = true := by
  obtain ⟨h1, h2⟩ := lay_strs h
  unfold SeqAt.shaped
  simp only [PyData.canLay0, PyData.depth, h1, h2]
  rfl
theorem judged {n : Nat} {d : D} {st : Sto} {Q : DK} {X : XC} (h : Sh d) (q : Q (.lst [.bl (isI d), .bl (isN d), .bl (isC d)]) st) : F (n + 1) 10 [d] st Q X := by
  obtain ⟨h1, h2, h3⟩ := h.isi st
  have nx := h.nx
  apply un10
  refine wpSs_at 2 (fun e s => s = st ∧ e = [some d, some (.str letters), some (.bl (isN d)), none, none]) (fun K hK => ?_) ?_
  · simp only [b10, takeS, wpSs, DL.wpS, wpE, wpEs, asgP, asgPs, wpIt, wpIfs, KS.then, KS.of, KS.loop, getV, List.getElem?_cons_zero, List.getElem?_cons_succ, Option.join_some, notX_non, notX_bl, notX_int, notX_str, notX_lst, notX_tup, notX_rol, notX_dic, notX_loc, notX_ins, notX_glo, true_and, and_true, semC_T, List.set_cons_zero, List.set_cons_succ, Bool.not_true, Bool.not_false, noX_nil, noX_none, noX_some, wipe_nil, wipe_cons, pr_non, pr_int, sl_strE, tr_non, tr_bl, tr_int, tr_str, tr_lst, tr_tup, c_lt, c_le, c_gt, c_ge, c_eqi, c_nei, c_eqs, c_nes, c_isn, c_isnn, c_isb, c_isnb, b_add, b_adds, b_sub, b_mul, b_div, b_mod, b_pow, nl_f, isb_int, isb_bl, if_true, Bool.false_eq_true, if_false, nx, biP, h3]
    by_cases hs : (tyN d == "str") = true
    · cases d <;> first | (simp [tyN] at hs; done) | skip
      rename_i s
      have hl := h.len
      simp only [hs, wpSs, DL.wpS, wpE, wpEs, asgP, asgPs, wpIt, wpIfs, KS.then, KS.of, KS.loop, getV, List.getElem?_cons_zero, List.getElem?_cons_succ, Option.join_some, notX_non, notX_bl, notX_int, notX_str, notX_lst, notX_tup, notX_rol, notX_dic, notX_loc, notX_ins, notX_glo, true_and, and_true, semC_T, List.set_cons_zero, List.set_cons_succ, Bool.not_true, Bool.not_false, noX_nil, noX_none, noX_some, wipe_nil, wipe_cons, pr_non, pr_int, sl_strE, tr_non, tr_bl, tr_int, tr_str, tr_lst, tr_tup, c_lt, c_le, c_gt, c_ge, c_eqi, c_nei, c_eqs, c_nes, c_isn, c_isnn, c_isb, c_isnb, b_add, b_adds, b_sub, b_mul, b_div, b_mod, b_pow, nl_f, isb_int, isb_bl, if_true, Bool.false_eq_true, if_false, lenP]
      refine ⟨hl, ?_⟩
      by_cases a1 : (0 : Int) < (s.length : Int)
      · by_cases a2 : (s.length : Int) < 9
        · simp only [a1, a2, decide_true, decide_false, wpSs, DL.wpS, wpE, wpEs, asgP, asgPs, wpIt, wpIfs, KS.then, KS.of, KS.loop, getV, List.getElem?_cons_zero, List.getElem?_cons_succ, Option.join_some, notX_non, notX_bl, notX_int, notX_str, notX_lst, notX_tup, notX_rol, notX_dic, notX_loc, notX_ins, notX_glo, true_and, and_true, semC_T, List.set_cons_zero, List.set_cons_succ, Bool.not_true, Bool.not_false, noX_nil, noX_none, noX_some, wipe_nil, wipe_cons, pr_non, pr_int, sl_strE, tr_non, tr_bl, tr_int, tr_str, tr_lst, tr_tup, c_lt, c_le, c_gt, c_ge, c_eqi, c_nei, c_eqs, c_nes, c_isn, c_isnn, c_isb, c_isnb, b_add, b_adds, b_sub, b_mul, b_div, b_mod, b_pow, nl_f, isb_int, isb_bl, if_true, Bool.false_eq_true, if_false, itemsP]
          have hl' : s.cps.toList.length ≤ sizeLine := by rw [Array.length_toList]; exact hl
          refine ⟨by rw [List.length_map]; exact hl', foldP_filter (fun x => !chrB x) id trivial (fun x hx acc k hk => ?_) ?_⟩
          · obtain ⟨c, _, rfl⟩ := List.mem_map.mp hx
            refine ⟨rfl, rfl, ?_⟩
            show if (!strIn ⟨#[c]⟩ letters) = true then _ else _
            have hk' : k (if (!strIn ⟨#[c]⟩ letters) = true then acc ++ [.str ⟨#[c]⟩] else acc) st := hk
            by_cases z : (!strIn ⟨#[c]⟩ letters) = true
            · rw [if_pos z] at hk' ⊢; exact ⟨rfl, hk'⟩
            · rw [if_neg z] at hk' ⊢; exact hk'
          · have el : ((s.cps.toList.map fun c => D.str ⟨#[c]⟩).filter fun x => !chrB x).map id = (s.cps.toList.filter fun c => !inL c).map fun c => D.str ⟨#[c]⟩ := by
              rw [List.map_id, List.filter_map]
              rfl
            rw [List.nil_append, el]
            rw [c_eq]
            refine eq_nil (toPL_map (f := fun c => D.str ⟨#[c]⟩) (g := fun c => PyData.str ⟨#[c]⟩) (fun _ => rfl) (s.cps.toList.filter fun c => !inL c)) ?_ ?_
            · exact shaped_strs fun c hc => h.cp c (List.mem_filter.mp hc).1
            · have b1 : 1 ≤ s.length := by omega
              have b2 : s.length ≤ 8 := by omega
              have e : isN (.str s) = ((s.cps.toList.filter fun c => !inL c).map fun c => D.str ⟨#[c]⟩).isEmpty := by
                simp only [isN, b1, b2, decide_true, Bool.true_and, List.isEmpty_map]
                generalize s.cps.toList = l
                induction l with
                | nil => rfl
                | cons c l ih =>
                  rw [List.all_cons, List.filter_cons]
                  by_cases z : inL c = true
                  · simp [z, ih]
                  · simp [z]
              exact hK _ _ ⟨rfl, by rw [← e]⟩
        · simp only [a1, a2, decide_true, decide_false, wpSs, DL.wpS, wpE, wpEs, asgP, asgPs, wpIt, wpIfs, KS.then, KS.of, KS.loop, getV, List.getElem?_cons_zero, List.getElem?_cons_succ, Option.join_some, notX_non, notX_bl, notX_int, notX_str, notX_lst, notX_tup, notX_rol, notX_dic, notX_loc, notX_ins, notX_glo, true_and, and_true, semC_T, List.set_cons_zero, List.set_cons_succ, Bool.not_true, Bool.not_false, noX_nil, noX_none, noX_some, wipe_nil, wipe_cons, pr_non, pr_int, sl_strE, tr_non, tr_bl, tr_int, tr_str, tr_lst, tr_tup, c_lt, c_le, c_gt, c_ge, c_eqi, c_nei, c_eqs, c_nes, c_isn, c_isnn, c_isb, c_isnb, b_add, b_adds, b_sub, b_mul, b_div, b_mod, b_pow, nl_f, isb_int, isb_bl, if_true, Bool.false_eq_true, if_false]
          have e : isN (.str s) = false := by
            have b2 : ¬ s.length ≤ 8 := by omega
            simp [isN, b2]
          exact hK _ _ ⟨rfl, by rw [e]⟩
      · simp only [a1, decide_true, decide_false, wpSs, DL.wpS, wpE, wpEs, asgP, asgPs, wpIt, wpIfs, KS.then, KS.of, KS.loop, getV, List.getElem?_cons_zero, List.getElem?_cons_succ, Option.join_some, notX_non, notX_bl, notX_int, notX_str, notX_lst, notX_tup, notX_rol, notX_dic, notX_loc, notX_ins, notX_glo, true_and, and_true, semC_T, List.set_cons_zero, List.set_cons_succ, Bool.not_true, Bool.not_false, noX_nil, noX_none, noX_some, wipe_nil, wipe_cons, pr_non, pr_int, sl_strE, tr_non, tr_bl, tr_int, tr_str, tr_lst, tr_tup, c_lt, c_le, c_gt, c_ge, c_eqi, c_nei, c_eqs, c_nes, c_isn, c_isnn, c_isb, c_isnb, b_add, b_adds, b_sub, b_mul, b_div, b_mod, b_pow, nl_f, isb_int, isb_bl, if_true, Bool.false_eq_true, if_false]
        have e : isN (.str s) = false := by
          have b2 : ¬ 1 ≤ s.length := by omega
          simp [isN, b2]
        exact hK _ _ ⟨rfl, by rw [e]⟩
    · have hs' : (tyN d == "str") = false := by simpa using hs
      simp only [hs', wpSs, DL.wpS, wpE, wpEs, asgP, asgPs, wpIt, wpIfs, KS.then, KS.of, KS.loop, getV, List.getElem?_cons_zero, List.getElem?_cons_succ, Option.join_some, notX_non, notX_bl, notX_int, notX_str, notX_lst, notX_tup, notX_rol, notX_dic, notX_loc, notX_ins, notX_glo, true_and, and_true, semC_T, List.set_cons_zero, List.set_cons_succ, Bool.not_true, Bool.not_false, noX_nil, noX_none, noX_some, wipe_nil, wipe_cons, pr_non, pr_int, sl_strE, tr_non, tr_bl, tr_int, tr_str, tr_lst, tr_tup, c_lt, c_le, c_gt, c_ge, c_eqi, c_nei, c_eqs, c_nes, c_isn, c_isnn, c_isb, c_isnb, b_add, b_adds, b_sub, b_mul, b_div, b_mod, b_pow, nl_f, isb_int, isb_bl, if_true, Bool.false_eq_true, if_false]
      have e : isN d = false := by cases d <;> first | rfl | (exfalso; exact hs rfl)
      exact hK _ _ ⟨rfl, by rw [e]⟩
  · rintro e s ⟨rfl, rfl⟩
    simp only [b10, dropS, wpSs, DL.wpS, wpE, wpEs, asgP, asgPs, wpIt, wpIfs, KS.then, KS.of, KS.loop, getV, List.getElem?_cons_zero, List.getElem?_cons_succ, Option.join_some, notX_non, notX_bl, notX_int, notX_str, notX_lst, notX_tup, notX_rol, notX_dic, notX_loc, notX_ins, notX_glo, true_and, and_true, semC_T, List.set_cons_zero, List.set_cons_succ, Bool.not_true, Bool.not_false, noX_nil, noX_none, noX_some, wipe_nil, wipe_cons, pr_non, pr_int, sl_strE, tr_non, tr_bl, tr_int, tr_str, tr_lst, tr_tup, c_lt, c_le, c_gt, c_ge, c_eqi, c_nei, c_eqs, c_nes, c_isn, c_isnn, c_isb, c_isnb, b_add, b_adds, b_sub, b_mul, b_div, b_mod, b_pow, nl_f, isb_int, isb_bl, if_true, Bool.false_eq_true, if_false, nx, biP, h1]
    by_cases hi : isI d = true
    · cases d <;> first | (cases hi; done) | skip
      rename_i i
      simp only [show (tyN (D.int i) == "int" || tyN (D.int i) == "bool") = true from rfl, wpSs, DL.wpS, wpE, wpEs, asgP, asgPs, wpIt, wpIfs, KS.then, KS.of, KS.loop, getV, List.getElem?_cons_zero, List.getElem?_cons_succ, Option.join_some, notX_non, notX_bl, notX_int, notX_str, notX_lst, notX_tup, notX_rol, notX_dic, notX_loc, notX_ins, notX_glo, true_and, and_true, semC_T, List.set_cons_zero, List.set_cons_succ, Bool.not_true, Bool.not_false, noX_nil, noX_none, noX_some, wipe_nil, wipe_cons, pr_non, pr_int, sl_strE, tr_non, tr_bl, tr_int, tr_str, tr_lst, tr_tup, c_lt, c_le, c_gt, c_ge, c_eqi, c_nei, c_eqs, c_nes, c_isn, c_isnn, c_isb, c_isnb, b_add, b_adds, b_sub, b_mul, b_div, b_mod, b_pow, nl_f, isb_int, isb_bl, if_true, Bool.false_eq_true, if_false]
      by_cases a1 : (0 : Int) < i
      · simp only [a1, decide_true, wpSs, DL.wpS, wpE, wpEs, asgP, asgPs, wpIt, wpIfs, KS.then, KS.of, KS.loop, getV, List.getElem?_cons_zero, List.getElem?_cons_succ, Option.join_some, notX_non, notX_bl, notX_int, notX_str, notX_lst, notX_tup, notX_rol, notX_dic, notX_loc, notX_ins, notX_glo, true_and, and_true, semC_T, List.set_cons_zero, List.set_cons_succ, Bool.not_true, Bool.not_false, noX_nil, noX_none, noX_some, wipe_nil, wipe_cons, pr_non, pr_int, sl_strE, tr_non, tr_bl, tr_int, tr_str, tr_lst, tr_tup, c_lt, c_le, c_gt, c_ge, c_eqi, c_nei, c_eqs, c_nes, c_isn, c_isnn, c_isb, c_isnb, b_add, b_adds, b_sub, b_mul, b_div, b_mod, b_pow, nl_f, isb_int, isb_bl, if_true, Bool.false_eq_true, if_false]
        refine ⟨cpow (by decide) (by decide) (by decide), ?_⟩
        have e : isC (.int i) = decide (i ≤ 10 ^ (12 : Int).toNat) := by
          rw [pow1012]
          simp [isC, show (1 : Int) ≤ i by omega]
        rw [← e]; exact q
      · simp only [a1, decide_false, wpSs, DL.wpS, wpE, wpEs, asgP, asgPs, wpIt, wpIfs, KS.then, KS.of, KS.loop, getV, List.getElem?_cons_zero, List.getElem?_cons_succ, Option.join_some, notX_non, notX_bl, notX_int, notX_str, notX_lst, notX_tup, notX_rol, notX_dic, notX_loc, notX_ins, notX_glo, true_and, and_true, semC_T, List.set_cons_zero, List.set_cons_succ, Bool.not_true, Bool.not_false, noX_nil, noX_none, noX_some, wipe_nil, wipe_cons, pr_non, pr_int, sl_strE, tr_non, tr_bl, tr_int, tr_str, tr_lst, tr_tup, c_lt, c_le, c_gt, c_ge, c_eqi, c_nei, c_eqs, c_nes, c_isn, c_isnn, c_isb, c_isnb, b_add, b_adds, b_sub, b_mul, b_div, b_mod, b_pow, nl_f, isb_int, isb_bl, if_true, Bool.false_eq_true, if_false]
        have e : isC (.int i) = false := by simp [isC, show ¬ (1 : Int) ≤ i by omega]
        rw [e] at q; exact q
    · have e1 : isI d = false := by simpa using hi
      have e2 : isC d = false := by cases d <;> first | rfl | exact absurd rfl hi
      rw [e1, e2] at q
      by_cases hb : (tyN d == "bool") = true
      · cases d <;> first | (simp [tyN] at hb; done) | skip
        rename_i b
        simp only [show (tyN (D.bl b) == "int" || tyN (D.bl b) == "bool") = true from rfl, wpSs, DL.wpS, wpE, wpEs, asgP, asgPs, wpIt, wpIfs, KS.then, KS.of, KS.loop, getV, List.getElem?_cons_zero, List.getElem?_cons_succ, Option.join_some, notX_non, notX_bl, notX_int, notX_str, notX_lst, notX_tup, notX_rol, notX_dic, notX_loc, notX_ins, notX_glo, true_and, and_true, semC_T, List.set_cons_zero, List.set_cons_succ, Bool.not_true, Bool.not_false, noX_nil, noX_none, noX_some, wipe_nil, wipe_cons, pr_non, pr_int, sl_strE, tr_non, tr_bl, tr_int, tr_str, tr_lst, tr_tup, c_lt, c_le, c_gt, c_ge, c_eqi, c_nei, c_eqs, c_nes, c_isn, c_isnn, c_isb, c_isnb, b_add, b_adds, b_sub, b_mul, b_div, b_mod, b_pow, nl_f, isb_int, isb_bl, if_true, Bool.false_eq_true, if_false]
        cases b <;> simpa using q
      · have hb' : (tyN d == "int" || tyN d == "bool") = false := by
          have : (tyN d == "int") = false := e1
          simp [this]
          simpa using hb
        simp only [hb', wpSs, DL.wpS, wpE, wpEs, asgP, asgPs, wpIt, wpIfs, KS.then, KS.of, KS.loop, getV, List.getElem?_cons_zero, List.getElem?_cons_succ, Option.join_some, notX_non, notX_bl, notX_int, notX_str, notX_lst, notX_tup, notX_rol, notX_dic, notX_loc, notX_ins, notX_glo, true_and, and_true, semC_T, List.set_cons_zero, List.set_cons_succ, Bool.not_true, Bool.not_false, noX_nil, noX_none, noX_some, wipe_nil, wipe_cons, pr_non, pr_int, sl_strE, tr_non, tr_bl, tr_int, tr_str, tr_lst, tr_tup, c_lt, c_le, c_gt, c_ge, c_eqi, c_nei, c_eqs, c_nes, c_isn, c_isnn, c_isb, c_isnb, b_add, b_adds, b_sub, b_mul, b_div, b_mod, b_pow, nl_f, isb_int, isb_bl, if_true, Bool.false_eq_true, if_false]
        exact q
theorem un2 {n : Nat} {v : D} {st : Sto} {Q : DK} {X : XC} (h : wpSs (semC L.T L.fs n) b2 [some v, none, none, none, none, none] st (KS.of Q X)) : F (n + 1) 2 [v] st Q X := ⟨rfl, rfl, h⟩
theorem rep_shown {d : D} {p : PyData} (e : toP d = some p) (h2 : p.leavesShort 42 = true) (h3 : p.weight ≤ 1000) : p.shown.length ≤ sizeLine := by
  have := PyData.shown_le 42 (by decide) p h2
  have e : sizeLine = 16777216 := sizeLine_eq
  omega
theorem bl3 (a b c : Bool) : (PyData.list [.bool a, .bool b, .bool c]).shown.length ≤ 100 := by
  cases a <;> cases b <;> cases c <;> decide +kernel
theorem bl3s (a b c : Bool) : PyData.canLay0 (.str (PyData.list [.bool a, .bool b, .bool c]).shown) = true := by
  cases a <;> cases b <;> cases c <;> decide +kernel
theorem ps_st {d : D} {p : PyData} {st : Sto} (e : toP d = some p) : toPs st d = some p := by
  cases d <;> first | exact e | cases e
def row (d : D) : D := .lst [.bl (isI d), .bl (isN d), .bl (isC d)]
theorem right {n : Nat} {d : D} {st : Sto} {Q : DK} {X : XC} (h : Sh d) (q : ∀ st', (∀ a o, st a = some o → st' a = some o) → Q (.bl true) st') : F (n + 3) 2 [d] st Q X := by
  have nx := h.nx
  have h0 := h
  obtain ⟨p, e, k1, k2, k3, k4, _⟩ := h0
  apply un2
  have r3 : ∀ {K : D → D → D → Sto → Prop} {st : Sto} {E : XC}, K (.bl (isI d)) (.bl (isN d)) (.bl (isC d)) st → (semC L.T L.fs (n + 2)).F 9 [d] st (fun x s => (semC L.T L.fs (n + 2)).F 8 [d] s (fun y s => (semC L.T L.fs (n + 2)).F 7 [d] s (fun z s => K x y z s) E) E) E := fun hk => is_integer h (is_name h (is_cells h hk))
  generalize hdue : (PyData.list [.bool (isI d), .bool (isN d), .bool (isC d)]).shown = due
  refine wpSs_at 1 (fun e s => s = st ∧ e = [some d, none, some (.str p.shown), some (.str due), none, none]) (fun K hK => ?_) ?_
  · simp only [b2, takeS, wpSs, DL.wpS, wpE, wpEs, asgP, asgPs, wpIt, wpIfs, KS.then, KS.of, KS.loop, getV, List.getElem?_cons_zero, List.getElem?_cons_succ, Option.join_some, notX_non, notX_bl, notX_int, notX_str, notX_lst, notX_tup, notX_rol, notX_dic, notX_loc, notX_ins, notX_glo, true_and, and_true, semC_T, List.set_cons_zero, List.set_cons_succ, Bool.not_true, Bool.not_false, noX_nil, noX_none, noX_some, wipe_nil, wipe_cons, pr_non, pr_int, sl_strE, tr_non, tr_bl, tr_int, tr_str, tr_lst, tr_tup, c_lt, c_le, c_gt, c_ge, c_eqi, c_nei, c_eqs, c_nes, c_isn, c_isnn, c_isb, c_isnb, b_add, b_adds, b_sub, b_mul, b_div, b_mod, b_pow, nl_f, isb_int, isb_bl, if_true, Bool.false_eq_true, if_false, nx, biP]
    refine ⟨p, ps_st e, k1, rep_shown e k2 k3, k4, judged h ?_⟩
    refine ⟨.list [.bool (isI d), .bool (isN d), .bool (isC d)], rfl, rfl, Nat.le_trans (bl3 _ _ _) (by decide), by simp [PyData.depth, PyData.depthAll], ?_⟩
    exact ⟨rfl, hK _ _ ⟨rfl, by rw [hdue]⟩⟩
  rintro e1 s1 ⟨rfl, rfl⟩
  refine wpSs_at 1 (fun e s => ∃ a, s1 a = none ∧ s = ups s1 a (.lst [row d, row d]) ∧ e = [some d, some (.loc a), some (.str p.shown), some (.str due), none, none]) (fun K hK => ?_) ?_
  · simp only [b2, takeS, dropS, wpSs, DL.wpS, wpE, wpEs, asgP, asgPs, wpIt, wpIfs, KS.then, KS.of, KS.loop, getV, List.getElem?_cons_zero, List.getElem?_cons_succ, Option.join_some, notX_non, notX_bl, notX_int, notX_str, notX_lst, notX_tup, notX_rol, notX_dic, notX_loc, notX_ins, notX_glo, true_and, and_true, semC_T, List.set_cons_zero, List.set_cons_succ, Bool.not_true, Bool.not_false, noX_nil, noX_none, noX_some, wipe_nil, wipe_cons, pr_non, pr_int, sl_strE, tr_non, tr_bl, tr_int, tr_str, tr_lst, tr_tup, c_lt, c_le, c_gt, c_ge, c_eqi, c_nei, c_eqs, c_nes, c_isn, c_isnn, c_isb, c_isnb, b_add, b_adds, b_sub, b_mul, b_div, b_mod, b_pow, nl_f, isb_int, isb_bl, if_true, Bool.false_eq_true, if_false, nx]
    refine ⟨by decide, by decide, ?_⟩
    refine foldP_map (fun _ => row d) trivial (fun x hx acc k hk => r3 hk) ?_
    intro a ha
    exact hK _ _ ⟨a, ha, rfl, rfl⟩
  rintro e2 s2 ⟨a, ha, rfl, rfl⟩
  refine wpSs_at 1 (fun e s => s = ups s1 a (.lst [row d, row d, row d]) ∧ e = [some d, some (.loc a), some (.str p.shown), some (.str due), none, none]) (fun K hK => ?_) ?_
  · simp only [b2, takeS, dropS, wpSs, DL.wpS, wpE, wpEs, asgP, asgPs, wpIt, wpIfs, KS.then, KS.of, KS.loop, getV, List.getElem?_cons_zero, List.getElem?_cons_succ, Option.join_some, notX_non, notX_bl, notX_int, notX_str, notX_lst, notX_tup, notX_rol, notX_dic, notX_loc, notX_ins, notX_glo, true_and, and_true, semC_T, List.set_cons_zero, List.set_cons_succ, Bool.not_true, Bool.not_false, noX_nil, noX_none, noX_some, wipe_nil, wipe_cons, pr_non, pr_int, sl_strE, tr_non, tr_bl, tr_int, tr_str, tr_lst, tr_tup, c_lt, c_le, c_gt, c_ge, c_eqi, c_nei, c_eqs, c_nes, c_isn, c_isnn, c_isb, c_isnb, b_add, b_adds, b_sub, b_mul, b_div, b_mod, b_pow, nl_f, isb_int, isb_bl, if_true, Bool.false_eq_true, if_false, nx, selD, Option.map_some, List.nil_append]
    refine ⟨?_, ?_⟩
    · simp [mtyB, asR, asL]
    · refine r3 ?_
      simp only [mtP, ups_same]
      refine ⟨by show 2 < sizeLine; decide, hK _ _ ⟨?_, rfl⟩⟩
      rw [ups_ups]; rfl
  rintro e2 s2 ⟨rfl, rfl⟩
  simp only [b2, dropS, wpSs, DL.wpS, wpE, wpEs, asgP, asgPs, wpIt, wpIfs, KS.then, KS.of, KS.loop, getV, List.getElem?_cons_zero, List.getElem?_cons_succ, Option.join_some, notX_non, notX_bl, notX_int, notX_str, notX_lst, notX_tup, notX_rol, notX_dic, notX_loc, notX_ins, notX_glo, true_and, and_true, semC_T, List.set_cons_zero, List.set_cons_succ, Bool.not_true, Bool.not_false, noX_nil, noX_none, noX_some, wipe_nil, wipe_cons, pr_non, pr_int, sl_strE, tr_non, tr_bl, tr_int, tr_str, tr_lst, tr_tup, c_lt, c_le, c_gt, c_ge, c_eqi, c_nei, c_eqs, c_nes, c_isn, c_isnn, c_isb, c_isnb, b_add, b_adds, b_sub, b_mul, b_div, b_mod, b_pow, nl_f, isb_int, isb_bl, if_true, Bool.false_eq_true, if_false, nx, biP]
  simp only [itemsP, ups_same]
  refine ⟨by show 3 ≤ sizeLine; decide, ?_⟩
  refine foldP_map (fun _ => .str due) ups_same (fun x hx acc k hk => ?_) ?_
  · have ex : x = row d := by simpa using hx
    subst ex
    refine ⟨rfl, .list [.bool (isI d), .bool (isN d), .bool (isC d)], rfl, rfl, Nat.le_trans (bl3 _ _ _) (by decide), by simp [PyData.depth, PyData.depthAll], ?_⟩
    rw [hdue]; exact hk
  · refine ⟨[.str due], rfl, ⟨by decide, by decide, by show 1 * 3 ≤ sizeLine; decide⟩, ?_⟩
    have so : PyData.canLay0 (.str due) = true := by rw [← hdue]; exact bl3s _ _ _
    simp only [nl_f, c_eq]
    refine ⟨.list [.str due, .str due, .str due], .list [.str due, .str due, .str due], rfl, rfl, ?_, ?_, ?_⟩
    · simp [SeqAt.shaped, PyData.canLay0, PyData.canLayAll0, PyData.depth, PyData.depthAll] at so ⊢
      exact so
    · simp [SeqAt.shaped, PyData.canLay0, PyData.canLayAll0, PyData.depth, PyData.depthAll] at so ⊢
      exact so
    · simp only [PyData.eqv, PyData.eqvAll, beq_self_eq_true, Bool.and_self, tr_bl, if_true]
      refine ⟨p, ps_st e, k1, rep_shown e k2 k3, k4, ?_⟩
      simp only [decide_true]
      exact q _ fun b o hb => by
        rw [ups_ne]
        · exact hb
        · rintro rfl; rw [ha] at hb; cases hb
/-! ### draws -/
def RngOk (st : Sto) (a : Addr) : Prop := ∃ r0 r1 : Int, st a = some (.lst [.int r0, .int r1]) ∧ 0 ≤ r0 ∧ 0 ≤ r1 ∧ r1 < 2147483587
theorem un12 {n : Nat} {v w : D} {st : Sto} {Q : DK} {X : XC} (h : wpSs (semC L.T L.fs n) b12 [some v, some w, none, none] st (KS.of Q X)) : F (n + 1) 12 [v, w] st Q X := ⟨rfl, rfl, h⟩
theorem abs_lt {i : Int} {k : Nat} (h0 : 0 ≤ i) (h1 : i < 2 ^ k) : i.natAbs < 2 ^ k := by
  have : ((i.natAbs : Nat) : Int) = i := Int.natAbs_of_nonneg h0
  have h2 : ((i.natAbs : Nat) : Int) < ((2 ^ k : Nat) : Int) := by
    rw [this]; simpa using h1
  exact Int.ofNat_lt.mp h2
theorem draw {n : Nat} {a : Addr} {m : Int} {st : Sto} {Q : DK} {X : XC} (h : RngOk st a) (h0 : 0 < m) (h1 : m < 2 ^ 200) (q : ∀ (v : Int) st', 0 ≤ v → v < m → RngOk st' a → Q (.int v) st') : F (n + 1) 12 [.loc a, .int m] st Q X := by
  obtain ⟨r0, r1, hs, p0, p1, p2⟩ := h
  apply un12
  simp only [b12, wpSs, DL.wpS, wpE, wpEs, asgP, asgPs, wpIt, wpIfs, KS.then, KS.of, KS.loop, getV, List.getElem?_cons_zero, List.getElem?_cons_succ, Option.join_some, notX_non, notX_bl, notX_int, notX_str, notX_lst, notX_tup, notX_rol, notX_dic, notX_loc, notX_ins, notX_glo, true_and, and_true, semC_T, List.set_cons_zero, List.set_cons_succ, Bool.not_true, Bool.not_false, noX_nil, noX_none, noX_some, wipe_nil, wipe_cons, pr_non, pr_int, sl_strE, tr_non, tr_bl, tr_int, tr_str, tr_lst, tr_tup, c_lt, c_le, c_gt, c_ge, c_eqi, c_nei, c_eqs, c_nes, c_isn, c_isnn, c_isb, c_isnb, b_add, b_adds, b_sub, b_mul, b_div, b_mod, b_pow, nl_f, isb_int, isb_bl, if_true, Bool.false_eq_true, if_false]
  refine idx_loc hs (d := .int r0) rfl ?_
  simp only [wpSs, DL.wpS, wpE, wpEs, asgP, asgPs, wpIt, wpIfs, KS.then, KS.of, KS.loop, getV, List.getElem?_cons_zero, List.getElem?_cons_succ, Option.join_some, notX_non, notX_bl, notX_int, notX_str, notX_lst, notX_tup, notX_rol, notX_dic, notX_loc, notX_ins, notX_glo, true_and, and_true, semC_T, List.set_cons_zero, List.set_cons_succ, Bool.not_true, Bool.not_false, noX_nil, noX_none, noX_some, wipe_nil, wipe_cons, pr_non, pr_int, sl_strE, tr_non, tr_bl, tr_int, tr_str, tr_lst, tr_tup, c_lt, c_le, c_gt, c_ge, c_eqi, c_nei, c_eqs, c_nes, c_isn, c_isnn, c_isb, c_isnb, b_add, b_adds, b_sub, b_mul, b_div, b_mod, b_pow, nl_f, isb_int, isb_bl, if_true, Bool.false_eq_true, if_false]
  by_cases hr : 0 < r0
  · simp only [hr, decide_true, wpSs, DL.wpS, wpE, wpEs, asgP, asgPs, wpIt, wpIfs, KS.then, KS.of, KS.loop, getV, List.getElem?_cons_zero, List.getElem?_cons_succ, Option.join_some, notX_non, notX_bl, notX_int, notX_str, notX_lst, notX_tup, notX_rol, notX_dic, notX_loc, notX_ins, notX_glo, true_and, and_true, semC_T, List.set_cons_zero, List.set_cons_succ, Bool.not_true, Bool.not_false, noX_nil, noX_none, noX_some, wipe_nil, wipe_cons, pr_non, pr_int, sl_strE, tr_non, tr_bl, tr_int, tr_str, tr_lst, tr_tup, c_lt, c_le, c_gt, c_ge, c_eqi, c_nei, c_eqs, c_nes, c_isn, c_isnn, c_isb, c_isnb, b_add, b_adds, b_sub, b_mul, b_div, b_mod, b_pow, nl_f, isb_int, isb_bl, if_true, Bool.false_eq_true, if_false, biP]
    refine idx_loc hs (d := .int r0) rfl ?_
    refine ⟨divp h0 (Nat.lt_of_lt_of_le (abs_lt (k := 200) (by omega) h1) (Nat.pow_le_pow_right (by decide) (by decide))), rfl, ?_⟩
    refine set_loc hs (j := 0) rfl ?_
    refine q _ _ (Int.emod_nonneg _ (by omega)) (Int.emod_lt_of_pos _ h0) ⟨r0 / m, r1, ups_same, Int.ediv_nonneg p0 (by omega), p1, p2⟩
  · simp only [hr, decide_false, wpSs, DL.wpS, wpE, wpEs, asgP, asgPs, wpIt, wpIfs, KS.then, KS.of, KS.loop, getV, List.getElem?_cons_zero, List.getElem?_cons_succ, Option.join_some, notX_non, notX_bl, notX_int, notX_str, notX_lst, notX_tup, notX_rol, notX_dic, notX_loc, notX_ins, notX_glo, true_and, and_true, semC_T, List.set_cons_zero, List.set_cons_succ, Bool.not_true, Bool.not_false, noX_nil, noX_none, noX_some, wipe_nil, wipe_cons, pr_non, pr_int, sl_strE, tr_non, tr_bl, tr_int, tr_str, tr_lst, tr_tup, c_lt, c_le, c_gt, c_ge, c_eqi, c_nei, c_eqs, c_nes, c_isn, c_isnn, c_isb, c_isnb, b_add, b_adds, b_sub, b_mul, b_div, b_mod, b_pow, nl_f, isb_int, isb_bl, if_true, Bool.false_eq_true, if_false]
    refine idx_loc hs (d := .int r1) rfl ?_
    simp only [wpSs, DL.wpS, wpE, wpEs, asgP, asgPs, wpIt, wpIfs, KS.then, KS.of, KS.loop, getV, List.getElem?_cons_zero, List.getElem?_cons_succ, Option.join_some, notX_non, notX_bl, notX_int, notX_str, notX_lst, notX_tup, notX_rol, notX_dic, notX_loc, notX_ins, notX_glo, true_and, and_true, semC_T, List.set_cons_zero, List.set_cons_succ, Bool.not_true, Bool.not_false, noX_nil, noX_none, noX_some, wipe_nil, wipe_cons, pr_non, pr_int, sl_strE, tr_non, tr_bl, tr_int, tr_str, tr_lst, tr_tup, c_lt, c_le, c_gt, c_ge, c_eqi, c_nei, c_eqs, c_nes, c_isn, c_isnn, c_isb, c_isnb, b_add, b_adds, b_sub, b_mul, b_div, b_mod, b_pow, nl_f, isb_int, isb_bl, if_true, Bool.false_eq_true, if_false]
    refine ⟨mulx (Nat.lt_of_lt_of_le (abs_lt (k := 40) p1 (by omega)) (Nat.pow_le_pow_right (by decide) (by decide))) (by decide), by decide, ?_⟩
    generalize e1 : (r1 * 48271 + 10007) % 2147483587 = r
    have b0 : 0 ≤ r := by rw [← e1]; exact Int.emod_nonneg _ (by decide)
    have b1 : r < 2147483587 := by rw [← e1]; exact Int.emod_lt_of_pos _ (by decide)
    refine set_loc hs (j := 1) rfl ?_
    have hs2 : ups st a (.lst ([.int r0, .int r1].set 1 (.int r))) a = some (.lst [.int r0, .int r]) := ups_same
    generalize ups st a (.lst ([D.int r0, .int r1].set 1 (.int r))) = st2 at hs2
    refine idx_loc hs2 (d := .int r) rfl ?_
    refine idx_loc hs2 (d := .int r) rfl ?_
    have rb : r.natAbs < 2 ^ 1000 := Nat.lt_of_lt_of_le (abs_lt (k := 40) b0 (by omega)) (Nat.pow_le_pow_right (by decide) (by decide))
    simp only [wpSs, DL.wpS, wpE, wpEs, asgP, asgPs, wpIt, wpIfs, KS.then, KS.of, KS.loop, getV, List.getElem?_cons_zero, List.getElem?_cons_succ, Option.join_some, notX_non, notX_bl, notX_int, notX_str, notX_lst, notX_tup, notX_rol, notX_dic, notX_loc, notX_ins, notX_glo, true_and, and_true, semC_T, List.set_cons_zero, List.set_cons_succ, Bool.not_true, Bool.not_false, noX_nil, noX_none, noX_some, wipe_nil, wipe_cons, pr_non, pr_int, sl_strE, tr_non, tr_bl, tr_int, tr_str, tr_lst, tr_tup, c_lt, c_le, c_gt, c_ge, c_eqi, c_nei, c_eqs, c_nes, c_isn, c_isnn, c_isb, c_isnb, b_add, b_adds, b_sub, b_mul, b_div, b_mod, b_pow, nl_f, isb_int, isb_bl, if_true, Bool.false_eq_true, if_false]
    refine ⟨mulx rb rb, by decide, divw (by decide) (by decide), ?_⟩
    generalize e2 : r * r % 2147483549 / 11 = x
    have x0 : 0 ≤ x := by rw [← e2]; exact Int.ediv_nonneg (Int.emod_nonneg _ (by decide)) (by decide)
    have x1 : x < 2 ^ 40 := by
      have : r * r % 2147483549 < 2147483549 := Int.emod_lt_of_pos _ (by decide)
      rw [← e2]; omega
    have ok : RngOk st2 a := ⟨r0, r, hs2, p0, b0, b1⟩
    refine ⟨cpow (by decide) (by decide) (by decide), ?_⟩
    by_cases hm : m < 2 ^ (20 : Int).toNat
    · simp only [hm, decide_true, wpSs, DL.wpS, wpE, wpEs, asgP, asgPs, wpIt, wpIfs, KS.then, KS.of, KS.loop, getV, List.getElem?_cons_zero, List.getElem?_cons_succ, Option.join_some, notX_non, notX_bl, notX_int, notX_str, notX_lst, notX_tup, notX_rol, notX_dic, notX_loc, notX_ins, notX_glo, true_and, and_true, semC_T, List.set_cons_zero, List.set_cons_succ, Bool.not_true, Bool.not_false, noX_nil, noX_none, noX_some, wipe_nil, wipe_cons, pr_non, pr_int, sl_strE, tr_non, tr_bl, tr_int, tr_str, tr_lst, tr_tup, c_lt, c_le, c_gt, c_ge, c_eqi, c_nei, c_eqs, c_nes, c_isn, c_isnn, c_isb, c_isnb, b_add, b_adds, b_sub, b_mul, b_div, b_mod, b_pow, nl_f, isb_int, isb_bl, if_true, Bool.false_eq_true, if_false]
      exact ⟨h0, q _ _ (Int.emod_nonneg _ (by omega)) (Int.emod_lt_of_pos _ h0) ok⟩
    · simp only [hm, decide_false, wpSs, DL.wpS, wpE, wpEs, asgP, asgPs, wpIt, wpIfs, KS.then, KS.of, KS.loop, getV, List.getElem?_cons_zero, List.getElem?_cons_succ, Option.join_some, notX_non, notX_bl, notX_int, notX_str, notX_lst, notX_tup, notX_rol, notX_dic, notX_loc, notX_ins, notX_glo, true_and, and_true, semC_T, List.set_cons_zero, List.set_cons_succ, Bool.not_true, Bool.not_false, noX_nil, noX_none, noX_some, wipe_nil, wipe_cons, pr_non, pr_int, sl_strE, tr_non, tr_bl, tr_int, tr_str, tr_lst, tr_tup, c_lt, c_le, c_gt, c_ge, c_eqi, c_nei, c_eqs, c_nes, c_isn, c_isnn, c_isb, c_isnb, b_add, b_adds, b_sub, b_mul, b_div, b_mod, b_pow, nl_f, isb_int, isb_bl, if_true, Bool.false_eq_true, if_false]
      refine ⟨mulx (Nat.lt_of_lt_of_le (abs_lt (k := 40) x0 x1) (Nat.pow_le_pow_right (by decide) (by decide))) (by decide), ?_⟩
      refine idx_loc hs2 (d := .int r) rfl ?_
      simp only [wpSs, DL.wpS, wpE, wpEs, asgP, asgPs, wpIt, wpIfs, KS.then, KS.of, KS.loop, getV, List.getElem?_cons_zero, List.getElem?_cons_succ, Option.join_some, notX_non, notX_bl, notX_int, notX_str, notX_lst, notX_tup, notX_rol, notX_dic, notX_loc, notX_ins, notX_glo, true_and, and_true, semC_T, List.set_cons_zero, List.set_cons_succ, Bool.not_true, Bool.not_false, noX_nil, noX_none, noX_some, wipe_nil, wipe_cons, pr_non, pr_int, sl_strE, tr_non, tr_bl, tr_int, tr_str, tr_lst, tr_tup, c_lt, c_le, c_gt, c_ge, c_eqi, c_nei, c_eqs, c_nes, c_isn, c_isnn, c_isb, c_isnb, b_add, b_adds, b_sub, b_mul, b_div, b_mod, b_pow, nl_f, isb_int, isb_bl, if_true, Bool.false_eq_true, if_false]
      refine ⟨mulx ?_ (by decide), h0, q _ _ (Int.emod_nonneg _ (by omega)) (Int.emod_lt_of_pos _ h0) ok⟩
      exact Nat.lt_of_lt_of_le (abs_lt (k := 100) (by omega) (by omega)) (Nat.pow_le_pow_right (by decide) (by decide))
theorem un11 {n : Nat} {v w : D} {st : Sto} {Q : DK} {X : XC} (h : wpSs (semC L.T L.fs n) b11 [some v, some w] st (KS.of Q X)) : F (n + 1) 11 [v, w] st Q X := ⟨rfl, rfl, h⟩
theorem choice {n : Nat} {a : Addr} {ds : List D} {st : Sto} {Q : DK} {X : XC} (h : RngOk st a) (hn : 0 < ds.length) (hl : ds.length ≤ 1000) (q : ∀ d ∈ ds, ∀ st', RngOk st' a → Q d st') : F (n + 2) 11 [.loc a, .lst ds] st Q X := by
  apply un11
  simp only [b11, wpSs, DL.wpS, wpE, wpEs, asgP, asgPs, wpIt, wpIfs, KS.then, KS.of, KS.loop, getV, List.getElem?_cons_zero, List.getElem?_cons_succ, Option.join_some, notX_non, notX_bl, notX_int, notX_str, notX_lst, notX_tup, notX_rol, notX_dic, notX_loc, notX_ins, notX_glo, true_and, and_true, semC_T, List.set_cons_zero, List.set_cons_succ, Bool.not_true, Bool.not_false, noX_nil, noX_none, noX_some, wipe_nil, wipe_cons, pr_non, pr_int, sl_strE, tr_non, tr_bl, tr_int, tr_str, tr_lst, tr_tup, c_lt, c_le, c_gt, c_ge, c_eqi, c_nei, c_eqs, c_nes, c_isn, c_isnn, c_isb, c_isnb, b_add, b_adds, b_sub, b_mul, b_div, b_mod, b_pow, nl_f, isb_int, isb_bl, if_true, Bool.false_eq_true, if_false, biP]
  refine ⟨ds, rfl, draw h (by omega) (by omega) fun v st' h0 h1 ok => ?_⟩
  obtain ⟨d, e, m⟩ := atI_nat (xs := ds) h0 h1
  exact idx_lst e (q d m st' ok)
theorem un6 {n : Nat} {v w : D} {st : Sto} {Q : DK} {X : XC} (h : wpSs (semC L.T L.fs n) b6 [some v, some w, none] st (KS.of Q X)) : F (n + 1) 6 [v, w] st Q X := ⟨rfl, rfl, h⟩
theorem mkrng {n : Nat} {ns : List Int} {k : Int} {st : Sto} {Q : DK} {X : XC} (h0 : 0 ≤ k) (h1 : k < 100) (q : ∀ p st', RngOk st' p → Q (.loc p) st') : F (n + 1) 6 [.rol (ns.map D.int), .int k] st Q X := by
  apply un6
  refine wpSs_at 1 (fun e s => ∃ c : Int, 0 ≤ c ∧ e = [some (.rol (ns.map D.int)), some (.int k), some (.int c)]) (fun K hK => ?_) ?_
  · simp only [b6, takeS, wpSs, DL.wpS, wpE, wpEs, asgP, asgPs, wpIt, wpIfs, KS.then, KS.of, KS.loop, getV, List.getElem?_cons_zero, List.getElem?_cons_succ, Option.join_some, notX_non, notX_bl, notX_int, notX_str, notX_lst, notX_tup, notX_rol, notX_dic, notX_loc, notX_ins, notX_glo, true_and, and_true, semC_T, List.set_cons_zero, List.set_cons_succ, Bool.not_true, Bool.not_false, noX_nil, noX_none, noX_some, wipe_nil, wipe_cons, pr_non, pr_int, sl_strE, tr_non, tr_bl, tr_int, tr_str, tr_lst, tr_tup, c_lt, c_le, c_gt, c_ge, c_eqi, c_nei, c_eqs, c_nes, c_isn, c_isnn, c_isb, c_isnb, b_add, b_adds, b_sub, b_mul, b_div, b_mod, b_pow, nl_f, isb_int, isb_bl, if_true, Bool.false_eq_true, if_false, biP, lenP]
    refine ⟨_, rfl, ?_⟩
    simp only [wpSs, DL.wpS, wpE, wpEs, asgP, asgPs, wpIt, wpIfs, KS.then, KS.of, KS.loop, getV, List.getElem?_cons_zero, List.getElem?_cons_succ, Option.join_some, notX_non, notX_bl, notX_int, notX_str, notX_lst, notX_tup, notX_rol, notX_dic, notX_loc, notX_ins, notX_glo, true_and, and_true, semC_T, List.set_cons_zero, List.set_cons_succ, Bool.not_true, Bool.not_false, noX_nil, noX_none, noX_some, wipe_nil, wipe_cons, pr_non, pr_int, sl_strE, tr_non, tr_bl, tr_int, tr_str, tr_lst, tr_tup, c_lt, c_le, c_gt, c_ge, c_eqi, c_nei, c_eqs, c_nes, c_isn, c_isnn, c_isb, c_isnb, b_add, b_adds, b_sub, b_mul, b_div, b_mod, b_pow, nl_f, isb_int, isb_bl, if_true, Bool.false_eq_true, if_false, List.length_map]
    by_cases hk : k < (ns.length : Int)
    · simp only [hk, decide_true, wpSs, DL.wpS, wpE, wpEs, asgP, asgPs, wpIt, wpIfs, KS.then, KS.of, KS.loop, getV, List.getElem?_cons_zero, List.getElem?_cons_succ, Option.join_some, notX_non, notX_bl, notX_int, notX_str, notX_lst, notX_tup, notX_rol, notX_dic, notX_loc, notX_ins, notX_glo, true_and, and_true, semC_T, List.set_cons_zero, List.set_cons_succ, Bool.not_true, Bool.not_false, noX_nil, noX_none, noX_some, wipe_nil, wipe_cons, pr_non, pr_int, sl_strE, tr_non, tr_bl, tr_int, tr_str, tr_lst, tr_tup, c_lt, c_le, c_gt, c_ge, c_eqi, c_nei, c_eqs, c_nes, c_isn, c_isnn, c_isb, c_isnb, b_add, b_adds, b_sub, b_mul, b_div, b_mod, b_pow, nl_f, isb_int, isb_bl, if_true, Bool.false_eq_true, if_false]
      obtain ⟨d, e, m⟩ := atI_nat (xs := ns.map D.int) h0 (by rw [List.length_map]; exact hk)
      obtain ⟨i, _, rfl⟩ := List.mem_map.mp m
      refine idx_rol e (hK _ _ ⟨_, ?_, rfl⟩)
      split <;> omega
    · simp only [hk, decide_false, wpSs, DL.wpS, wpE, wpEs, asgP, asgPs, wpIt, wpIfs, KS.then, KS.of, KS.loop, getV, List.getElem?_cons_zero, List.getElem?_cons_succ, Option.join_some, notX_non, notX_bl, notX_int, notX_str, notX_lst, notX_tup, notX_rol, notX_dic, notX_loc, notX_ins, notX_glo, true_and, and_true, semC_T, List.set_cons_zero, List.set_cons_succ, Bool.not_true, Bool.not_false, noX_nil, noX_none, noX_some, wipe_nil, wipe_cons, pr_non, pr_int, sl_strE, tr_non, tr_bl, tr_int, tr_str, tr_lst, tr_tup, c_lt, c_le, c_gt, c_ge, c_eqi, c_nei, c_eqs, c_nes, c_isn, c_isnn, c_isb, c_isnb, b_add, b_adds, b_sub, b_mul, b_div, b_mod, b_pow, nl_f, isb_int, isb_bl, if_true, Bool.false_eq_true, if_false]
      exact hK _ _ ⟨0, by omega, rfl⟩
  · rintro e s ⟨c, hc, rfl⟩
    simp only [b6, dropS, wpSs, DL.wpS, wpE, wpEs, asgP, asgPs, wpIt, wpIfs, KS.then, KS.of, KS.loop, getV, List.getElem?_cons_zero, List.getElem?_cons_succ, Option.join_some, notX_non, notX_bl, notX_int, notX_str, notX_lst, notX_tup, notX_rol, notX_dic, notX_loc, notX_ins, notX_glo, true_and, and_true, semC_T, List.set_cons_zero, List.set_cons_succ, Bool.not_true, Bool.not_false, noX_nil, noX_none, noX_some, wipe_nil, wipe_cons, pr_non, pr_int, sl_strE, tr_non, tr_bl, tr_int, tr_str, tr_lst, tr_tup, c_lt, c_le, c_gt, c_ge, c_eqi, c_nei, c_eqs, c_nes, c_isn, c_isnn, c_isb, c_isnb, b_add, b_adds, b_sub, b_mul, b_div, b_mod, b_pow, nl_f, isb_int, isb_bl, if_true, Bool.false_eq_true, if_false, biP]
    refine ⟨cpow (by decide) (by decide) (by decide), by decide, mulx (by decide) (Nat.lt_of_lt_of_le (abs_lt (k := 40) h0 (by omega)) (Nat.pow_le_pow_right (by decide) (by decide))), ?_⟩
    have m1 : 0 ≤ c % 2147483543 := Int.emod_nonneg _ (by decide)
    have m2 : c % 2147483543 < 2147483543 := Int.emod_lt_of_pos _ (by decide)
    refine ⟨cpow (by decide) (by decide) (abs_lt (k := 64) (by omega) (by omega)), by decide, ?_⟩
    intro p hp
    refine q p _ ⟨_, _, ups_same, ?_, ?_, ?_⟩
    · split <;> omega
    · have : 0 ≤ (c % 2147483543 + 101 * k + 7) ^ (2 : Int).toNat % 2147483497 := Int.emod_nonneg _ (by decide)
      omega
    · have : (c % 2147483543 + 101 * k + 7) ^ (2 : Int).toNat % 2147483497 < 2147483497 := Int.emod_lt_of_pos _ (by decide)
      omega
/-! ### words -/
def WS (k : Nat) (s : Str) : Prop := s.length ≤ k ∧ ∀ c ∈ s.cps.toList, c < 128
theorem WS.cut {k : Nat} {s : Str} (h : WS k s) (lo hi : Option Int) : WS k (cutS s lo hi) :=
  ⟨Nat.le_trans (cutS_length s lo hi) h.1, fun c hc => h.2 c (List.mem_of_mem_drop (List.mem_of_mem_take (by simpa [cutS] using hc)))⟩
theorem WS.app {j k : Nat} {a b : Str} (h : WS j a) (h2 : WS k b) : WS (j + k) (a ++ b) := by
  refine ⟨?_, fun c hc => ?_⟩
  · rw [show (a ++ b).length = a.length + b.length from Array.size_append]
    exact Nat.add_le_add h.1 h2.1
  · have : c ∈ (a.cps ++ b.cps).toList := hc
    rw [Array.toList_append, List.mem_append] at this
    exact this.elim (h.2 c) (h2.2 c)
theorem WS.mono {j k : Nat} {s : Str} (h : WS j s) (e : j ≤ k) : WS k s := ⟨Nat.le_trans h.1 e, h.2⟩
theorem WS.line {k : Nat} {s : Str} (h : WS k s) (e : k ≤ 1000) : s.length ≤ sizeLine := Nat.le_trans h.1 (Nat.le_trans e (by decide))
theorem join1 : ∀ cs : List Nat, TL.joinL [] (cs.map fun c => [c]) = cs
  | [] => rfl
  | [c] => rfl
  | c :: d :: r => by
    show [c] ++ ([] ++ TL.joinL [] ((d :: r).map fun c => [c])) = _
    rw [join1 (d :: r)]; rfl
theorem joined (cs : List Nat) : Txt.join "" (cs.map fun c => (⟨#[c]⟩ : Str)) = ⟨cs.toArray⟩ := by
  have := SX.join_S [] (cs.map fun c => [c])
  rw [join1, List.map_map] at this
  exact this
theorem lets : ∀ c ∈ letters.cps.toList, c < 128 := by decide +kernel
theorem letl : letters.cps.toList.length = 26 := by decide +kernel
theorem un5 {n : Nat} {v : D} {st : Sto} {Q : DK} {X : XC} (h : wpSs (semC L.T L.fs n) b5 [some v, none, none, none, none, none, none] st (KS.of Q X)) : F (n + 1) 5 [v] st Q X := ⟨rfl, rfl, h⟩
theorem word {n : Nat} {a : Addr} {st : Sto} {Q : DK} {X : XC} (h : RngOk st a) (q : ∀ w st', WS 21 w → RngOk st' a → Q (.str w) st') : F (n + 3) 5 [.loc a] st Q X := by
  apply un5
  refine wpSs_at 2 (fun e s => ∃ w, WS 10 w ∧ RngOk s a ∧ e = [some (.loc a), some (.str letters), some (.str w), none, none, none, none]) (fun K hK => ?_) ?_
  · simp only [b5, takeS, wpSs, DL.wpS, wpE, wpEs, asgP, asgPs, wpIt, wpIfs, KS.then, KS.of, KS.loop, getV, List.getElem?_cons_zero, List.getElem?_cons_succ, Option.join_some, notX_non, notX_bl, notX_int, notX_str, notX_lst, notX_tup, notX_rol, notX_dic, notX_loc, notX_ins, notX_glo, true_and, and_true, semC_T, List.set_cons_zero, List.set_cons_succ, Bool.not_true, Bool.not_false, noX_nil, noX_none, noX_some, wipe_nil, wipe_cons, pr_non, pr_int, sl_strE, tr_non, tr_bl, tr_int, tr_str, tr_lst, tr_tup, c_lt, c_le, c_gt, c_ge, c_eqi, c_nei, c_eqs, c_nes, c_isn, c_isnn, c_isb, c_isnb, b_add, b_adds, b_sub, b_mul, b_div, b_mod, b_pow, nl_f, isb_int, isb_bl, if_true, Bool.false_eq_true, if_false]
    refine ⟨rfl, draw h (by decide) (by decide) fun v s v0 v1 ok => ?_⟩
    refine ⟨⟨by omega, by omega⟩, by rw [rngD_length]; exact Nat.le_trans (show v.toNat ≤ 11 by omega) (by decide), ?_⟩
    refine foldP_inv (fun i acc s => RngOk s a ∧ ∃ cs : List Nat, acc = cs.map (fun c => D.str ⟨#[c]⟩) ∧ cs.length = i ∧ ∀ c ∈ cs, c < 128) (fun _ _ _ _ => trivial) (i := 0) ?_ ?_ ⟨ok, [], rfl, rfl, fun _ z => by cases z⟩
    · rintro x hx i acc s k ⟨ok, cs, rfl, hl, hc⟩ hk
      refine ⟨rfl, rfl, draw (m := 26) ok (by decide) (by decide) fun v s v0 v1 ok => ?_⟩
      obtain ⟨c, e, m⟩ := atI_nat (xs := letters.cps.toList) v0 (by rw [letl]; exact v1)
      refine idx_str (by decide +kernel) e (hk _ _ ⟨ok, cs ++ [c], by rw [List.map_append]; rfl, by rw [List.length_append, hl]; rfl, fun c' hc' => ?_⟩)
      rw [List.mem_append, List.mem_singleton] at hc'
      rcases hc' with hc' | rfl
      · exact hc c' hc'
      · exact lets _ m
    · rintro acc s ⟨ok, cs, rfl, hl, hc⟩
      simp only [wpSs, DL.wpS, wpE, wpEs, asgP, asgPs, wpIt, wpIfs, KS.then, KS.of, KS.loop, getV, List.getElem?_cons_zero, List.getElem?_cons_succ, Option.join_some, notX_non, notX_bl, notX_int, notX_str, notX_lst, notX_tup, notX_rol, notX_dic, notX_loc, notX_ins, notX_glo, true_and, and_true, semC_T, List.set_cons_zero, List.set_cons_succ, Bool.not_true, Bool.not_false, noX_nil, noX_none, noX_some, wipe_nil, wipe_cons, pr_non, pr_int, sl_strE, tr_non, tr_bl, tr_int, tr_str, tr_lst, tr_tup, c_lt, c_le, c_gt, c_ge, c_eqi, c_nei, c_eqs, c_nes, c_isn, c_isnn, c_isb, c_isnb, b_add, b_adds, b_sub, b_mul, b_div, b_mod, b_pow, nl_f, isb_int, isb_bl, if_true, Bool.false_eq_true, if_false, mtP]
      have hz : cs.length ≤ 10 := by rw [hl, rngD_length]; omega
      refine ⟨cs.map fun c => ⟨#[c]⟩, ?_, ?_, hK _ _ ⟨_, ?_, ok, rfl⟩⟩
      · show some _ = some _
        rw [List.map_map]; rfl
      · rw [List.map_map, List.length_map]
        have e1 : (cs.map ((fun s : Str => s.length) ∘ fun c => (⟨#[c]⟩ : Str))).sum = cs.length := by
          clear hl hc hz
          induction cs with
          | nil => rfl
          | cons c cs ih => simp only [List.map_cons, List.sum_cons, ih, List.length_cons, Function.comp]; show 1 + cs.length = _; omega
        rw [e1]
        show cs.length + cs.length * 0 ≤ 16777216
        omega
      · have e := joined cs
        refine ⟨?_, fun c hc' => ?_⟩
        · rw [e]; show cs.toArray.size ≤ 10
          simpa using hz
        · rw [e] at hc'
          exact hc c (by simpa using hc')
  rintro e s ⟨w, hw, ok, rfl⟩
  have hwl := hw.line (by decide)
  simp only [b5, dropS, wpSs, DL.wpS, wpE, wpEs, asgP, asgPs, wpIt, wpIfs, KS.then, KS.of, KS.loop, getV, List.getElem?_cons_zero, List.getElem?_cons_succ, Option.join_some, notX_non, notX_bl, notX_int, notX_str, notX_lst, notX_tup, notX_rol, notX_dic, notX_loc, notX_ins, notX_glo, true_and, and_true, semC_T, List.set_cons_zero, List.set_cons_succ, Bool.not_true, Bool.not_false, noX_nil, noX_none, noX_some, wipe_nil, wipe_cons, pr_non, pr_int, sl_strE, tr_non, tr_bl, tr_int, tr_str, tr_lst, tr_tup, c_lt, c_le, c_gt, c_ge, c_eqi, c_nei, c_eqs, c_nes, c_isn, c_isnn, c_isb, c_isnb, b_add, b_adds, b_sub, b_mul, b_div, b_mod, b_pow, nl_f, isb_int, isb_bl, if_true, Bool.false_eq_true, if_false, biP, lenP]
  refine ⟨hwl, draw ok (by omega) ?_ fun v s1 v0 v1 ok1 => ?_⟩
  · have := hw.1
    omega
  · refine choice ok1 (by decide) (by decide) fun o ho s2 ok2 => ?_
    have wo : ∃ z, o = .str z ∧ WS 1 z := by
      simp only [List.mem_cons, List.not_mem_nil, or_false] at ho
      rcases ho with rfl | rfl | rfl | rfl | rfl | rfl | rfl | rfl | rfl | rfl | rfl <;> exact ⟨_, rfl, by unfold WS; decide +kernel⟩
    obtain ⟨z, rfl, hz⟩ := wo
    have c1 := hw.cut none (some v)
    have c2 := hw.cut (some v) none
    have c3 := hw.cut (some (v + 1)) none
    have c4 := hw.cut none (some 8)
    have d1 := c1.app hz
    have d2 := d1.app c2
    have d3 := d1.app c3
    have ln : ∀ {x y : Str} {j k : Nat}, WS j x → WS k y → j + k ≤ 1000 → x.length + y.length ≤ sizeLine := fun hx hy e => Nat.le_trans (Nat.add_le_add hx.1 hy.1) (Nat.le_trans e (by decide))
    simp only [wpSs, DL.wpS, wpE, wpEs, asgP, asgPs, wpIt, wpIfs, KS.then, KS.of, KS.loop, getV, List.getElem?_cons_zero, List.getElem?_cons_succ, Option.join_some, notX_non, notX_bl, notX_int, notX_str, notX_lst, notX_tup, notX_rol, notX_dic, notX_loc, notX_ins, notX_glo, true_and, and_true, semC_T, List.set_cons_zero, List.set_cons_succ, Bool.not_true, Bool.not_false, noX_nil, noX_none, noX_some, wipe_nil, wipe_cons, pr_non, pr_int, sl_strE, tr_non, tr_bl, tr_int, tr_str, tr_lst, tr_tup, c_lt, c_le, c_gt, c_ge, c_eqi, c_nei, c_eqs, c_nes, c_isn, c_isnn, c_isb, c_isnb, b_add, b_adds, b_sub, b_mul, b_div, b_mod, b_pow, nl_f, isb_int, isb_bl, if_true, Bool.false_eq_true, if_false]
    refine ⟨rfl, hwl, ln c1 hz (by decide), hwl, ln d1 c2 (by decide), hwl, ln c1 hz (by decide), hwl, ln d1 c3 (by decide), hwl, add_lst (by show 3 + 2 ≤ sizeLine; decide) ?_⟩
    simp only [wpSs, DL.wpS, wpE, wpEs, asgP, asgPs, wpIt, wpIfs, KS.then, KS.of, KS.loop, getV, List.getElem?_cons_zero, List.getElem?_cons_succ, Option.join_some, notX_non, notX_bl, notX_int, notX_str, notX_lst, notX_tup, notX_rol, notX_dic, notX_loc, notX_ins, notX_glo, true_and, and_true, semC_T, List.set_cons_zero, List.set_cons_succ, Bool.not_true, Bool.not_false, noX_nil, noX_none, noX_some, wipe_nil, wipe_cons, pr_non, pr_int, sl_strE, tr_non, tr_bl, tr_int, tr_str, tr_lst, tr_tup, c_lt, c_le, c_gt, c_ge, c_eqi, c_nei, c_eqs, c_nes, c_isn, c_isnn, c_isb, c_isnb, b_add, b_adds, b_sub, b_mul, b_div, b_mod, b_pow, nl_f, isb_int, isb_bl, if_true, Bool.false_eq_true, if_false]
    refine choice ok2 (by simp) (by simp) fun o ho s3 ok3 => ?_
    simp only [List.cons_append, List.nil_append, List.mem_cons, List.not_mem_nil, or_false] at ho
    rcases ho with rfl | rfl | rfl | rfl | rfl
    · exact q _ _ (hw.mono (by decide)) ok3
    · exact q _ _ (hw.mono (by decide)) ok3
    · exact q _ _ (c4.mono (by decide)) ok3
    · exact q _ _ (d2.mono (by decide)) ok3
    · exact q _ _ (d3.mono (by decide)) ok3
/-! ### numbers and things -/
theorem un4 {n : Nat} {v : D} {st : Sto} {Q : DK} {X : XC} (h : wpSs (semC L.T L.fs n) b4 [some v, none, none] st (KS.of Q X)) : F (n + 1) 4 [v] st Q X := ⟨rfl, rfl, h⟩
theorem number {n : Nat} {a : Addr} {st : Sto} {Q : DK} {X : XC} (h : RngOk st a) (q : ∀ i st', i.natAbs < 10 ^ 40 → RngOk st' a → Q (.int i) st') : F (n + 3) 4 [.loc a] st Q X := by
  apply un4
  have c1 : ∀ {i j : Int}, 0 ≤ j → j ≤ 1000 → i.natAbs < 2 ^ 64 → CPow i j := fun a b c => cpow a b c
  simp only [b4, wpSs, DL.wpS, wpE, wpEs, asgP, asgPs, wpIt, wpIfs, KS.then, KS.of, KS.loop, getV, List.getElem?_cons_zero, List.getElem?_cons_succ, Option.join_some, notX_non, notX_bl, notX_int, notX_str, notX_lst, notX_tup, notX_rol, notX_dic, notX_loc, notX_ins, notX_glo, true_and, and_true, semC_T, List.set_cons_zero, List.set_cons_succ, Bool.not_true, Bool.not_false, noX_nil, noX_none, noX_some, wipe_nil, wipe_cons, pr_non, pr_int, sl_strE, tr_non, tr_bl, tr_int, tr_str, tr_lst, tr_tup, c_lt, c_le, c_gt, c_ge, c_eqi, c_nei, c_eqs, c_nes, c_isn, c_isnn, c_isb, c_isnb, b_add, b_adds, b_sub, b_mul, b_div, b_mod, b_pow, nl_f, isb_int, isb_bl, if_true, Bool.false_eq_true, if_false]
  refine ⟨c1 (by decide) (by decide) (by decide), draw h (by decide +kernel) (by decide +kernel) fun v s1 v0 v1 ok1 => ?_⟩
  simp only [wpSs, DL.wpS, wpE, wpEs, asgP, asgPs, wpIt, wpIfs, KS.then, KS.of, KS.loop, getV, List.getElem?_cons_zero, List.getElem?_cons_succ, Option.join_some, notX_non, notX_bl, notX_int, notX_str, notX_lst, notX_tup, notX_rol, notX_dic, notX_loc, notX_ins, notX_glo, true_and, and_true, semC_T, List.set_cons_zero, List.set_cons_succ, Bool.not_true, Bool.not_false, noX_nil, noX_none, noX_some, wipe_nil, wipe_cons, pr_non, pr_int, sl_strE, tr_non, tr_bl, tr_int, tr_str, tr_lst, tr_tup, c_lt, c_le, c_gt, c_ge, c_eqi, c_nei, c_eqs, c_nes, c_isn, c_isnn, c_isb, c_isnb, b_add, b_adds, b_sub, b_mul, b_div, b_mod, b_pow, nl_f, isb_int, isb_bl, if_true, Bool.false_eq_true, if_false]
  refine ⟨c1 (by decide) (by decide) (by decide), c1 (by decide) (by decide) (by decide), c1 (by decide) (by decide) (by decide), c1 (by decide) (by decide) (by decide), c1 (by decide) (by decide) (by decide), draw ok1 (by decide +kernel) (by decide +kernel) fun u s2 u0 u1 ok2 => ?_⟩
  simp only [wpSs, DL.wpS, wpE, wpEs, asgP, asgPs, wpIt, wpIfs, KS.then, KS.of, KS.loop, getV, List.getElem?_cons_zero, List.getElem?_cons_succ, Option.join_some, notX_non, notX_bl, notX_int, notX_str, notX_lst, notX_tup, notX_rol, notX_dic, notX_loc, notX_ins, notX_glo, true_and, and_true, semC_T, List.set_cons_zero, List.set_cons_succ, Bool.not_true, Bool.not_false, noX_nil, noX_none, noX_some, wipe_nil, wipe_cons, pr_non, pr_int, sl_strE, tr_non, tr_bl, tr_int, tr_str, tr_lst, tr_tup, c_lt, c_le, c_gt, c_ge, c_eqi, c_nei, c_eqs, c_nes, c_isn, c_isnn, c_isb, c_isnb, b_add, b_adds, b_sub, b_mul, b_div, b_mod, b_pow, nl_f, isb_int, isb_bl, if_true, Bool.false_eq_true, if_false]
  refine draw (m := 100) ok2 (by decide) (by decide) fun w s3 w0 w1 ok3 => ?_
  refine add_lst (by show 10 + 1 ≤ sizeLine; decide) ?_
  simp only [wpSs, DL.wpS, wpE, wpEs, asgP, asgPs, wpIt, wpIfs, KS.then, KS.of, KS.loop, getV, List.getElem?_cons_zero, List.getElem?_cons_succ, Option.join_some, notX_non, notX_bl, notX_int, notX_str, notX_lst, notX_tup, notX_rol, notX_dic, notX_loc, notX_ins, notX_glo, true_and, and_true, semC_T, List.set_cons_zero, List.set_cons_succ, Bool.not_true, Bool.not_false, noX_nil, noX_none, noX_some, wipe_nil, wipe_cons, pr_non, pr_int, sl_strE, tr_non, tr_bl, tr_int, tr_str, tr_lst, tr_tup, c_lt, c_le, c_gt, c_ge, c_eqi, c_nei, c_eqs, c_nes, c_isn, c_isnn, c_isb, c_isnb, b_add, b_adds, b_sub, b_mul, b_div, b_mod, b_pow, nl_f, isb_int, isb_bl, if_true, Bool.false_eq_true, if_false]
  refine choice ok3 (by simp) (by simp) fun o ho s4 ok4 => ?_
  simp only [List.cons_append, List.nil_append, List.mem_cons, List.not_mem_nil, or_false] at ho
  have e39 : (10 : Int) ^ (39 : Int).toNat = 10 ^ 39 := rfl
  have e12 : (10 : Int) ^ (12 : Int).toNat = 10 ^ 12 := rfl
  rw [e39] at v1
  rw [e12] at u1
  simp only [e12] at ho
  have big : ∀ i : Int, -(10 ^ 39) - 10 ≤ i → i ≤ 10 ^ 39 + 10 → i.natAbs < 10 ^ 40 := fun i a b => by omega
  rcases ho with rfl | rfl | rfl | rfl | rfl | rfl | rfl | rfl | rfl | rfl | rfl <;> exact q _ _ (big _ (by omega) (by omega)) ok4
def Leaf (p : PyData) : Prop := p.showable = true ∧ p.leavesShort 42 = true ∧ p.weight ≤ 400 ∧ p.depth = 0
theorem ofs_len (s : String) : (Str.ofString s).length = s.length := by
  rw [Str.ofString_eq_toList]
  show ((s.toList.map Char.toNat).toArray).size = s.length
  rw [List.size_toArray, List.length_map, String.length_toList]
theorem ofs_cp (s : String) : ∀ c ∈ (Str.ofString s).cps.toList, c < 0x110000 := by
  rw [Str.ofString_eq_toList]
  intro c hc
  simp only [List.mem_map] at hc
  obtain ⟨d, _, rfl⟩ := hc
  have := d.valid
  rcases this with h | h
  · exact Nat.lt_trans h (by decide)
  · exact h.2
theorem log_small {i : Int} (h : i.natAbs < 10 ^ 40) : i.natAbs.log2 < 140 := by
  by_cases z : i.natAbs = 0
  · rw [z]; decide
  · exact (Nat.log2_lt z).mpr (Nat.lt_of_lt_of_le h (by decide))
theorem leaf_int {i : Int} (h : i.natAbs < 10 ^ 40) : Leaf (.int i) := by
  have := log_small h
  refine ⟨decide_eq_true (by omega), ?_, ?_, rfl⟩
  · have e := int_text_length_le10 (k := 40) (by decide) h
    have e2 : (PyData.shown (.int i)).length = (toString i).length := ofs_len _
    simp only [PyData.leavesShort, decide_eq_true_eq]
    omega
  · simp only [PyData.weight]
    split <;> omega
theorem leaf_str {s : Str} (h : s.length ≤ 400) (h2 : ∀ c ∈ s.cps.toList, c < 0x110000) : Leaf (.str s) := by
  refine ⟨rfl, ?_, h, rfl⟩
  simp only [PyData.leavesShort, List.all_eq_true, decide_eq_true_eq]
  exact fun c hc => Nat.lt_trans (h2 c hc) (by decide)
theorem Leaf.sh {d : D} {p : PyData} (e : toP d = some p) (h : Leaf p) (hs : ∀ s, d = .str s → ∀ c ∈ s.cps.toList, c < 0x110000) : Sh d := ⟨p, e, h.1, h.2.1, Nat.le_trans h.2.2.1 (by decide), by rw [h.2.2.2]; decide, hs⟩
theorem Leaf.lst {d : D} {p : PyData} (e : toP d = some p) (h : Leaf p) : Sh (.lst [d]) := by
  obtain ⟨h1, h2, h3, h4⟩ := h
  refine ⟨.list [p], by simp [toP, toPL, e], ?_, ?_, ?_, ?_, fun s z => by cases z⟩
  · simp [PyData.showable, PyData.showableAll, h1]
  · simp [PyData.leavesShort, PyData.leavesShortAll, h2]
  · simp only [PyData.weight, PyData.weightAll]; omega
  · simp [PyData.depth, PyData.depthAll, h4]
theorem Leaf.tup {d : D} {p : PyData} (e : toP d = some p) (h : Leaf p) : Sh (.tup [d]) := by
  obtain ⟨h1, h2, h3, h4⟩ := h
  refine ⟨.tuple [p], by simp [toP, toPL, e], ?_, ?_, ?_, ?_, fun s z => by cases z⟩
  · simp [PyData.showable, PyData.showableAll, h1]
  · simp [PyData.leavesShort, PyData.leavesShortAll, h2]
  · simp only [PyData.weight, PyData.weightAll]; omega
  · simp [PyData.depth, PyData.depthAll, h4]
theorem Leaf.dic {k : Key} {d : D} {p : PyData} (e : toP d = some p) (h : Leaf p) (hk : Leaf (keyP k)) : Sh (.dic [(k, d)]) := by
  obtain ⟨h1, h2, h3, h4⟩ := h
  obtain ⟨g1, g2, g3, g4⟩ := hk
  refine ⟨.dict [(keyP k, p)], by simp [toP, toPK, e], ?_, ?_, ?_, ?_, fun s z => by cases z⟩
  · simp [PyData.showable, PyData.showableKv, h1, g1]
  · simp [PyData.leavesShort, PyData.leavesShortKv, h2, g2]
  · simp only [PyData.weight, PyData.weightKv]; omega
  · simp [PyData.depth, PyData.depthKv, h4, g4]
theorem sh_int {i : Int} (h : i.natAbs < 10 ^ 40) : Sh (.int i) := (leaf_int h).sh rfl fun s z => by cases z
theorem WS.leaf {k : Nat} {s : Str} (h : WS k s) (e : k ≤ 400) : Leaf (.str s) := leaf_str (Nat.le_trans h.1 e) fun c hc => Nat.lt_trans (h.2 c hc) (by decide)
theorem WS.sh {k : Nat} {s : Str} (h : WS k s) (e : k ≤ 400) : Sh (.str s) := (h.leaf e).sh rfl fun t z c hc => by cases z; exact Nat.lt_trans (h.2 c hc) (by decide)
theorem sh_bl (b : Bool) : Sh (.bl b) := ⟨.bool b, rfl, rfl, rfl, by show 0 ≤ 1000; decide, by show 0 ≤ 64; decide, fun s z => by cases z⟩
theorem sh_non : Sh .non := ⟨.none, rfl, rfl, rfl, by decide, by decide, fun s z => by cases z⟩
theorem un3 {n : Nat} {v : D} {st : Sto} {Q : DK} {X : XC} (h : wpSs (semC L.T L.fs n) b3 [some v, none, none, none] st (KS.of Q X)) : F (n + 1) 3 [v] st Q X := ⟨rfl, rfl, h⟩
theorem thing {n : Nat} {a : Addr} {st : Sto} {Q : DK} {X : XC} (h : RngOk st a) (q : ∀ d st', Sh d → RngOk st' a → Q d st') : F (n + 4) 3 [.loc a] st Q X := by
  apply un3
  simp only [b3, wpSs, DL.wpS, wpE, wpEs, asgP, asgPs, wpIt, wpIfs, KS.then, KS.of, KS.loop, getV, List.getElem?_cons_zero, List.getElem?_cons_succ, Option.join_some, notX_non, notX_bl, notX_int, notX_str, notX_lst, notX_tup, notX_rol, notX_dic, notX_loc, notX_ins, notX_glo, true_and, and_true, semC_T, List.set_cons_zero, List.set_cons_succ, Bool.not_true, Bool.not_false, noX_nil, noX_none, noX_some, wipe_nil, wipe_cons, pr_non, pr_int, sl_strE, tr_non, tr_bl, tr_int, tr_str, tr_lst, tr_tup, c_lt, c_le, c_gt, c_ge, c_eqi, c_nei, c_eqs, c_nes, c_isn, c_isnn, c_isb, c_isnb, b_add, b_adds, b_sub, b_mul, b_div, b_mod, b_pow, nl_f, isb_int, isb_bl, if_true, Bool.false_eq_true, if_false]
  refine word h fun w s1 hw ok1 => number ok1 fun i s2 hi ok2 => ?_
  simp only [wpSs, DL.wpS, wpE, wpEs, asgP, asgPs, wpIt, wpIfs, KS.then, KS.of, KS.loop, getV, List.getElem?_cons_zero, List.getElem?_cons_succ, Option.join_some, notX_non, notX_bl, notX_int, notX_str, notX_lst, notX_tup, notX_rol, notX_dic, notX_loc, notX_ins, notX_glo, true_and, and_true, semC_T, List.set_cons_zero, List.set_cons_succ, Bool.not_true, Bool.not_false, noX_nil, noX_none, noX_some, wipe_nil, wipe_cons, pr_non, pr_int, sl_strE, tr_non, tr_bl, tr_int, tr_str, tr_lst, tr_tup, c_lt, c_le, c_gt, c_ge, c_eqi, c_nei, c_eqs, c_nes, c_isn, c_isnn, c_isb, c_isnb, b_add, b_adds, b_sub, b_mul, b_div, b_mod, b_pow, nl_f, isb_int, isb_bl, if_true, Bool.false_eq_true, if_false, biP, DL.pairD, Option.map_some, newD]
  refine ⟨rfl, by have := log_small hi; omega, ?_⟩
  refine choice ok2 (by simp) (by simp) fun o ho s3 ok3 => q o s3 ?_ ok3
  simp only [List.mem_cons, List.not_mem_nil, or_false] at ho
  have lw := hw.leaf (show 21 ≤ 400 by decide)
  have li := leaf_int hi
  have l1 : Leaf (.int 1) := leaf_int (by decide)
  rcases ho with rfl | rfl | rfl | rfl | rfl | rfl | rfl | rfl | rfl | rfl | rfl | rfl | rfl
  · exact sh_non
  · exact sh_bl _
  · exact sh_bl _
  · exact ⟨.list [], rfl, rfl, rfl, by decide, by decide, fun s z => by cases z⟩
  · exact ⟨.dict [], rfl, rfl, rfl, by decide, by decide, fun s z => by cases z⟩
  · exact ⟨.tuple [], rfl, rfl, rfl, by decide, by decide, fun s z => by cases z⟩
  · exact lw.lst rfl
  · exact lw.tup rfl
  · exact Leaf.dic (k := .inr w) rfl l1 lw
  · exact li.lst rfl
  · exact li.tup rfl
  · exact (leaf_str (by rw [ofs_len]; have := int_text_length_le10 (k := 40) (by decide) hi; omega) (ofs_cp _)).sh rfl fun s z c hc => by cases z; exact ofs_cp _ c hc
  · exact Leaf.dic (k := .inl 1) rfl lw l1
/-! ### the law -/
theorem un1 {n : Nat} {v : D} {st : Sto} {Q : DK} {X : XC} (h : wpSs (semC L.T L.fs n) b1 [some v, none, none, none, none] st (KS.of Q X)) : F (n + 1) 1 [v] st Q X := ⟨rfl, rfl, h⟩
/-- all of them are right -/
theorem all_right {n : Nat} {xs : List D} {st : Sto} {a : Option Addr} (hx : ∀ d ∈ xs, Sh d) (ok : ∀ b, a = some b → RngOk st b) {f : D → List D → Sto → (List D → Sto → Prop) → Prop} (hf : ∀ d ∈ xs, ∀ acc s k, F (n + 3) 2 [d] s (fun v s' => k (acc ++ [v]) s') (fun _ _ => False) → f d acc s k)
    {K : List D → Sto → Prop} (hK : ∀ s, (∀ b, a = some b → RngOk s b) → K ((List.replicate xs.length true).map D.bl) s) : foldP (fun _ => True) f xs [] st K := by
  refine foldP_inv (fun i acc s => (∀ b, a = some b → RngOk s b) ∧ acc = (List.replicate i true).map D.bl) (fun _ _ _ _ => trivial) (i := 0) ?_ ?_ ⟨ok, rfl⟩
  · rintro x hx' i acc s k ⟨ok, rfl⟩ hk
    refine hf x hx' _ _ _ (right (hx x hx') fun s' keep => hk _ _ ⟨fun b hb => ?_, ?_⟩)
    · obtain ⟨r0, r1, e, z⟩ := ok b hb
      exact ⟨r0, r1, keep _ _ e, z⟩
    · rw [List.replicate_succ', List.map_append]; rfl
  · rintro acc s ⟨ok, rfl⟩
    have := hK s ok
    rw [Nat.zero_add]; exact this
theorem sem (ns : List Int) (hl : ns.length ≤ 63) : (semC L.T L.fs 10).F 1 [.rol (ns.map D.int)] (fun _ => none) (fun d _ => d = .bl true) fun _ _ => False := by
  apply un1 (n := 9)
  refine wpSs_at 1 (fun e s => ∃ o1 o2 o3, e = [some (.rol (ns.map D.int)), o1, o2, o3, none] ∧ noX [o1, o2, o3] = [o1, o2, o3]) (fun K hK => ?_) ?_
  · simp only [b1, takeS, wpSs, DL.wpS, wpE, wpEs, asgP, asgPs, wpIt, wpIfs, KS.then, KS.of, KS.loop, getV, List.getElem?_cons_zero, List.getElem?_cons_succ, Option.join_some, notX_non, notX_bl, notX_int, notX_str, notX_lst, notX_tup, notX_rol, notX_dic, notX_loc, notX_ins, notX_glo, true_and, and_true, semC_T, List.set_cons_zero, List.set_cons_succ, Bool.not_true, Bool.not_false, noX_nil, noX_none, noX_some, wipe_nil, wipe_cons, pr_non, pr_int, sl_strE, tr_non, tr_bl, tr_int, tr_str, tr_lst, tr_tup, c_lt, c_le, c_gt, c_ge, c_eqi, c_nei, c_eqs, c_nes, c_isn, c_isnn, c_isb, c_isnb, b_add, b_adds, b_sub, b_mul, b_div, b_mod, b_pow, nl_f, isb_int, isb_bl, if_true, Bool.false_eq_true, if_false, biP, lenP]
    refine ⟨_, rfl, ?_⟩
    simp only [wpSs, DL.wpS, wpE, wpEs, asgP, asgPs, wpIt, wpIfs, KS.then, KS.of, KS.loop, getV, List.getElem?_cons_zero, List.getElem?_cons_succ, Option.join_some, notX_non, notX_bl, notX_int, notX_str, notX_lst, notX_tup, notX_rol, notX_dic, notX_loc, notX_ins, notX_glo, true_and, and_true, semC_T, List.set_cons_zero, List.set_cons_succ, Bool.not_true, Bool.not_false, noX_nil, noX_none, noX_some, wipe_nil, wipe_cons, pr_non, pr_int, sl_strE, tr_non, tr_bl, tr_int, tr_str, tr_lst, tr_tup, c_lt, c_le, c_gt, c_ge, c_eqi, c_nei, c_eqs, c_nes, c_isn, c_isnn, c_isb, c_isnb, b_add, b_adds, b_sub, b_mul, b_div, b_mod, b_pow, nl_f, isb_int, isb_bl, if_true, Bool.false_eq_true, if_false, List.length_map]
    refine ⟨⟨by split <;> split <;> omega, by split <;> split <;> omega⟩, ?_⟩
    refine loopP_inv (fun i e s => ∃ o1 o2 o3, e = [some (.rol (ns.map D.int)), o1, o2, o3, none] ∧ noX [o1, o2, o3] = [o1, o2, o3]) (fun _ _ _ _ => trivial) (i := 0) ?_ (fun e s z => hK e s z) ⟨none, none, none, rfl, rfl⟩
    rintro j x hj e s go ⟨o1, o2, o3, rfl, hx⟩ hgo
    obtain ⟨hjm, rfl⟩ := rngD_at hj
    have hj4 : j < 4 := by
      revert hjm
      split <;> split <;> omega
    clear hjm
    simp only [wpSs, DL.wpS, wpE, wpEs, asgP, asgPs, wpIt, wpIfs, KS.then, KS.of, KS.loop, getV, List.getElem?_cons_zero, List.getElem?_cons_succ, Option.join_some, notX_non, notX_bl, notX_int, notX_str, notX_lst, notX_tup, notX_rol, notX_dic, notX_loc, notX_ins, notX_glo, true_and, and_true, semC_T, List.set_cons_zero, List.set_cons_succ, Bool.not_true, Bool.not_false, noX_nil, noX_none, noX_some, wipe_nil, wipe_cons, pr_non, pr_int, sl_strE, tr_non, tr_bl, tr_int, tr_str, tr_lst, tr_tup, c_lt, c_le, c_gt, c_ge, c_eqi, c_nei, c_eqs, c_nes, c_isn, c_isnn, c_isb, c_isnb, b_add, b_adds, b_sub, b_mul, b_div, b_mod, b_pow, nl_f, isb_int, isb_bl, if_true, Bool.false_eq_true, if_false]
    refine mkrng (by omega) (by omega) fun p s1 ok1 => ?_
    refine ⟨⟨by decide, by decide⟩, ?_⟩
    refine loopP_inv (fun i e s => RngOk s p ∧ ∃ o3, e = [some (.rol (ns.map D.int)), some (.int (0 + (j : Nat))), some (.loc p), o3, none] ∧ noX [o3] = [o3]) (fun _ _ _ _ => trivial) (i := 0) ?_ (fun e s ⟨_, o3, ee, z⟩ => hgo e s ⟨_, _, _, ee, ?_⟩) ⟨ok1, o3, rfl, ?_⟩
    · rintro j2 x2 hj2 e s2 go2 ⟨ok2, o3', rfl, hx3⟩ hgo2
      obtain ⟨hjm2, rfl⟩ := rngD_at hj2
      simp only [wpSs, DL.wpS, wpE, wpEs, asgP, asgPs, wpIt, wpIfs, KS.then, KS.of, KS.loop, getV, List.getElem?_cons_zero, List.getElem?_cons_succ, Option.join_some, notX_non, notX_bl, notX_int, notX_str, notX_lst, notX_tup, notX_rol, notX_dic, notX_loc, notX_ins, notX_glo, true_and, and_true, semC_T, List.set_cons_zero, List.set_cons_succ, Bool.not_true, Bool.not_false, noX_nil, noX_none, noX_some, wipe_nil, wipe_cons, pr_non, pr_int, sl_strE, tr_non, tr_bl, tr_int, tr_str, tr_lst, tr_tup, c_lt, c_le, c_gt, c_ge, c_eqi, c_nei, c_eqs, c_nes, c_isn, c_isnn, c_isb, c_isnb, b_add, b_adds, b_sub, b_mul, b_div, b_mod, b_pow, nl_f, isb_int, isb_bl, if_true, Bool.false_eq_true, if_false, biP]
      refine word ok2 fun w s3 hw ok3 => number ok3 fun i s4 hi ok4 => thing ok4 fun d s5 hd ok5 => ?_
      simp only [itemsP]
      refine ⟨by show 3 ≤ sizeLine; decide, ?_⟩
      have sh : ∀ x ∈ [D.str w, .int i, d], Sh x := by
        intro x hx
        simp only [List.mem_cons, List.not_mem_nil, or_false] at hx
        rcases hx with rfl | rfl | rfl
        · exact hw.sh (by decide)
        · exact sh_int hi
        · exact hd
      refine all_right (n := 6) (a := some p) sh (fun b hb => by cases hb; exact ok5) (fun x hx acc s k z => ⟨(sh x hx).nx, z⟩) fun s6 ok6 => ?_
      refine ⟨List.replicate 3 true, rfl, ?_⟩
      exact hgo2 _ _ ⟨ok6 p rfl, _, rfl, rfl⟩
    · show noX ([some (.int _), some (.loc p)] ++ [o3]) = _
      unfold noX at z ⊢
      rw [List.map_append, z]; rfl
    · have : noX ([o1, o2] ++ [o3]) = [o1, o2] ++ [o3] := hx
      unfold noX at this ⊢
      rw [List.map_append] at this
      exact (List.append_inj this (by simp)).2
  · rintro e s ⟨o1, o2, o3, rfl, hx⟩
    simp only [b1, dropS, wpSs, DL.wpS, wpE, wpEs, asgP, asgPs, wpIt, wpIfs, KS.then, KS.of, KS.loop, getV, List.getElem?_cons_zero, List.getElem?_cons_succ, Option.join_some, notX_non, notX_bl, notX_int, notX_str, notX_lst, notX_tup, notX_rol, notX_dic, notX_loc, notX_ins, notX_glo, true_and, and_true, semC_T, List.set_cons_zero, List.set_cons_succ, Bool.not_true, Bool.not_false, noX_nil, noX_none, noX_some, wipe_nil, wipe_cons, pr_non, pr_int, sl_strE, tr_non, tr_bl, tr_int, tr_str, tr_lst, tr_tup, c_lt, c_le, c_gt, c_ge, c_eqi, c_nei, c_eqs, c_nes, c_isn, c_isnn, c_isb, c_isnb, b_add, b_adds, b_sub, b_mul, b_div, b_mod, b_pow, nl_f, isb_int, isb_bl, if_true, Bool.false_eq_true, if_false, biP]
    have he : noX [some (D.rol (ns.map D.int)), o1, o2, o3, none] = [some (D.rol (ns.map D.int)), o1, o2, o3, none] := by
      show noX ([some (D.rol (ns.map D.int))] ++ ([o1, o2, o3] ++ [none])) = _
      unfold noX at hx ⊢
      rw [List.map_append, List.map_append, hx]; rfl
    rw [he]
    refine ⟨cpow (by decide) (by decide) (by decide), ?_⟩
    simp only [itemsP]
    refine ⟨by show 9 ≤ sizeLine; decide, ?_⟩
    have sh : ∀ x ∈ [D.str "", D.str "a", D.str "z", D.str "abcdefgh", D.str "abcdefghi", D.bl true, D.bl false, D.int 1, D.int (10 ^ (12 : Int).toNat)], Sh x := by
      intro x hx
      simp only [List.mem_cons, List.not_mem_nil, or_false] at hx
      rcases hx with rfl | rfl | rfl | rfl | rfl | rfl | rfl | rfl | rfl
      · exact WS.sh (k := 10) (by unfold WS; decide +kernel) (by decide)
      · exact WS.sh (k := 10) (by unfold WS; decide +kernel) (by decide)
      · exact WS.sh (k := 10) (by unfold WS; decide +kernel) (by decide)
      · exact WS.sh (k := 10) (by unfold WS; decide +kernel) (by decide)
      · exact WS.sh (k := 10) (by unfold WS; decide +kernel) (by decide)
      · exact sh_bl _
      · exact sh_bl _
      · exact sh_int (by decide)
      · exact sh_int (by decide)
    refine all_right (n := 6) (a := none) sh (fun b hb => by cases hb) (fun x hx acc s k z => ⟨(sh x hx).nx, z⟩) fun s6 ok6 => ?_
    exact ⟨List.replicate 9 true, rfl, rfl⟩
end K19
set_option maxHeartbeats 0
namespace K19
open PySem PySem.Spec PyProof.Rows L2 DL
theorem run (w : World) : HandSHeadRun.RunEq R (PySem.W.view R.prog [23]) hk ob 4000 loose w := by
  intro os
  kernel_rfl
end K19
set_option maxHeartbeats 0
open PySem PySem.W PySem.Calls PyProof.Rows
theorem PySem.Challenge.cw_exactroom_k19_names_and_numbers_judged_holds : PySem.Challenge.rw_exactroom_k19_names_and_numbers_judged.Holds := by
  w_on; o_law
  refine HandSHeadRun.head_any (r := K19.R) (q := view K19.R.prog [23]) (H := K19.hk) (ob := K19.ob) (M := 4000) (loose := K19.loose) (d := HandSHeadRun.topDef K19.R.prog 23) (kwd := []) K19.ob_eq
    (by kernel_rfl) (fun s => by kernel_rfl) K19.run (by kernel_rfl) (by kernel_rfl) (by kernel_rfl) (by rfl) (by first | assumption | decide +kernel) (by decide +kernel) ⟨rfl, rfl, rfl, rfl, rfl, by decide +kernel⟩ ?hw ?hc
  case hw => w_witness2
  case hc =>
    refine DL.walk_of (L := K19.L) (l := PySem.Challenge.rw_exactroom_k19_names_and_numbers_judged) (n := 63) (m := 5) (k := 9) (x := "_law_script") (g := 1) (dI := K19.d1) rfl (by decide) (by kernel_rfl) ⟨rfl, by decide, by decide⟩ K19.static K19.bnds K19.kws rfl ?fn rfl ?b K19.sem
    case fn => kernel_rfl
    case b =>
      intro K f fd F s u
      exact L2.FunD.bindsA (ps := ["_law_script"]) F (fun _ _ _ _ _ _ us hl => match us, hl with | [_], _ => rfl) s [u] rfl
