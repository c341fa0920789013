import PyProof.Rows.All
import Wide.All
import OpenK.AllK
import Wide.FinOn
import HandS.ForMost
import HandS.ForExc
import HandS.Evl
import HandS.Deep
import HandS.TupAny
import HandS.Wide
import HandS.Style
import HandS.Flow
import HandS.ExcIs
import HandS.Conv
import HandS.SetKeys
import HandS.ExcOwn
import HandS.Defaults
import HandS.HeadEnd
import PyProof.ReprBulk
import HandS.RevTup
import HandS.TupMul
import HandS.DictTup
import PyProof.DictMoreH
import HandS.Iter
import HandS.Walk
import KE.KDictWalk
import KE.KDictCopyH
import HandS.SortInts
import HandS.TupSets
import HandS.SetFor
import HandS.Strs
import HandS.More
import HandS.Head0
import HandS.Head1
import HandS.Head2
import HandS.HeadHook1
import HandS.HeadHook2
import KE.KStateDown
import HandS.ExcBuiltin
import PySem.Challenge.RW_whatledhere_k03_machine_accepts
set_option Elab.async false
set_option linter.all false
set_option maxRecDepth 100000
set_option maxHeartbeats 4000000
/-! AW: values as data D over a frozen part F of the abstract heap H; owned objects in a table T. -/
namespace AW
open PySem L2 Evl

/-- data: what a value stands for. adr: an object by its address alone (an owned one, or one of which nothing is said) -/
inductive D where
  | non | bl (b : Bool) | int (i : Int) | str (x : Str)
  | tup (ds : List D) | lst (ds : List D) | frl (ds : List D)
  | dK (ks : List Key) (ds : List D) | dT (ks : List (List Key)) (ds : List D)
  | ins (C : Addr) (ns : List Str) (ds : List D)
  | adr (a : Addr)

mutual
inductive Is (K : PySem.W.Frag) (F : Hp) : V → D → Prop
  | non : Is K F .non .non
  | bl (b : Bool) : Is K F (.bl b) (.bl b)
  | int (i : Int) : Is K F (.int i) (.int i)
  | str (x : Str) : Is K F (.str x) (.str x)
  | tup {a : Addr} {vs : List V} {ds : List D} : F a = some (.tup vs) → IsA K F vs ds → Is K F (.ref a) (.tup ds)
  | lst {a : Addr} {vs : List V} {ds : List D} : F a = some (.lst vs) → IsA K F vs ds → Is K F (.ref a) (.lst ds)
  | frl {a : Addr} {vs : List V} {ds : List D} : SqL K F a vs → IsA K F vs ds → Is K F (.ref a) (.frl ds)
  | dK {a : Addr} {ks : List Key} {vs : List V} {ds : List D} : F a = some (.dK (ks.zip vs)) → ks.length = vs.length → IsA K F vs ds → Is K F (.ref a) (.dK ks ds)
  | dT {a : Addr} {ks : List (List Key)} {vs : List V} {ds : List D} : F a = some (.dT (ks.zip vs)) → ks.length = vs.length → IsA K F vs ds → Is K F (.ref a) (.dT ks ds)
  | ins {a C dx : Addr} {ns : List Str} {vs : List V} {ds : List D} : F a = some (.ins C dx (ns.zip vs)) → ns.length = vs.length → IsA K F vs ds → Is K F (.ref a) (.ins C ns ds)
  | adr (a : Addr) : Is K F (.ref a) (.adr a)
inductive IsA (K : PySem.W.Frag) (F : Hp) : List V → List D → Prop
  | nil : IsA K F [] []
  | cons {v : V} {d : D} {vs : List V} {ds : List D} : Is K F v d → IsA K F vs ds → IsA K F (v :: vs) (d :: ds)
end

section
variable {K : PySem.W.Frag} {F F' : Hp}
mutual
theorem Is.mono (e : Ex F F') : ∀ {v : V} {d : D}, Is K F v d → Is K F' v d
  | _, _, .non => .non
  | _, _, .bl b => .bl b
  | _, _, .int i => .int i
  | _, _, .str x => .str x
  | _, _, .tup h t => .tup (e _ _ h) (IsA.mono e t)
  | _, _, .lst h t => .lst (e _ _ h) (IsA.mono e t)
  | _, _, .frl h t => .frl (ex_l e h) (IsA.mono e t)
  | _, _, .dK h l t => .dK (e _ _ h) l (IsA.mono e t)
  | _, _, .dT h l t => .dT (e _ _ h) l (IsA.mono e t)
  | _, _, .ins h l t => .ins (e _ _ h) l (IsA.mono e t)
  | _, _, .adr a => .adr a
theorem IsA.mono (e : Ex F F') : ∀ {vs : List V} {ds : List D}, IsA K F vs ds → IsA K F' vs ds
  | _, _, .nil => .nil
  | _, _, .cons h t => .cons (Is.mono e h) (IsA.mono e t)
end
theorem IsA.len : ∀ {vs : List V} {ds : List D}, IsA K F vs ds → vs.length = ds.length
  | _, _, .nil => rfl
  | _, _, .cons _ t => by rw [List.length_cons, List.length_cons, t.len]
theorem IsA.get : ∀ {vs : List V} {ds : List D} {i : Nat} {d : D}, IsA K F vs ds → ds[i]? = some d → ∃ v, vs[i]? = some v ∧ Is K F v d
  | _, _, i, d, .nil, h => by simp at h
  | _, _, 0, d, .cons h t, e => by
    simp at e
    subst e
    exact ⟨_, rfl, h⟩
  | _, _, i + 1, d, .cons h t, e => by
    obtain ⟨v, h1, h2⟩ := t.get (i := i) (d := d) (by simpa using e)
    exact ⟨v, by simpa using h1, h2⟩
theorem IsA.getV : ∀ {vs : List V} {ds : List D} {i : Nat} {v : V}, IsA K F vs ds → vs[i]? = some v → ∃ d, ds[i]? = some d ∧ Is K F v d
  | _, _, i, d, .nil, h => by simp at h
  | _, _, 0, d, .cons h t, e => by
    simp at e
    subst e
    exact ⟨_, rfl, h⟩
  | _, _, i + 1, d, .cons h t, e => by
    obtain ⟨v, h1, h2⟩ := t.getV (i := i) (v := d) (by simpa using e)
    exact ⟨v, by simpa using h1, h2⟩
theorem IsA.append : ∀ {vs ws : List V} {ds es : List D}, IsA K F vs ds → IsA K F ws es → IsA K F (vs ++ ws) (ds ++ es)
  | _, _, _, _, .nil, s => s
  | _, _, _, _, .cons h t, s => .cons h (t.append s)
theorem IsA.one {v : V} {d : D} (h : Is K F v d) : IsA K F [v] [d] := .cons h .nil
theorem IsA.take : ∀ {vs : List V} {ds : List D} (n : Nat), IsA K F vs ds → IsA K F (vs.take n) (ds.take n)
  | _, _, 0, _ => .nil
  | _, _, _ + 1, .nil => .nil
  | _, _, n + 1, .cons h t => .cons h (t.take n)
theorem IsA.drop : ∀ {vs : List V} {ds : List D} (n : Nat), IsA K F vs ds → IsA K F (vs.drop n) (ds.drop n)
  | _, _, 0, r => r
  | _, _, _ + 1, .nil => .nil
  | _, _, n + 1, .cons _ t => t.drop n
theorem IsA.set {v : V} {d : D} (h : Is K F v d) : ∀ {vs : List V} {ds : List D} (n : Nat), IsA K F vs ds → IsA K F (vs.set n v) (ds.set n d)
  | _, _, _, .nil => .nil
  | _, _, 0, .cons _ t => .cons h t
  | _, _, n + 1, .cons g t => .cons g (IsA.set h n t)
theorem IsA.reverse : ∀ {vs : List V} {ds : List D}, IsA K F vs ds → IsA K F vs.reverse ds.reverse
  | _, _, .nil => .nil
  | _, _, .cons h t => by
    rw [List.reverse_cons, List.reverse_cons]
    exact t.reverse.append (.one h)
theorem IsA.dropLast {vs : List V} {ds : List D} (h : IsA K F vs ds) : IsA K F vs.dropLast ds.dropLast := by
  rw [List.dropLast_eq_take, List.dropLast_eq_take, h.len]
  exact h.take _
theorem IsA.ints : ∀ {vs : List V} {ns : List Int}, IsA K F vs (ns.map D.int) → vs = ns.map V.int
  | _, [], .nil => rfl
  | _, n :: ns, .cons h t => by
    cases h
    rw [t.ints]
    rfl
theorem IsA.of_ints : ∀ (ns : List Int), IsA K F (ns.map V.int) (ns.map D.int)
  | [] => .nil
  | n :: ns => .cons (.int n) (IsA.of_ints ns)
theorem IsA.cutV {vs : List V} {ds : List D} (h : IsA K F vs ds) (n k : Nat) : IsA K F ((vs.drop n).take k) ((ds.drop n).take k) := (h.drop n).take k
theorem IsA.flat {vs : List V} {ds : List D} (h : IsA K F vs ds) : ∀ n : Nat, IsA K F (List.replicate n vs).flatten (List.replicate n ds).flatten
  | 0 => .nil
  | n + 1 => by
    rw [List.replicate_succ, List.replicate_succ, List.flatten_cons, List.flatten_cons]
    exact h.append (h.flat n)

/-- an owned object's content -/
inductive OB where
  | lst (ds : List D)
  | dK (ks : List Key) (ds : List D)
  | dT (ks : List (List Key)) (ds : List D)
  | ins (C : Addr) (ns : List Str) (ds : List D)
def OB.d : OB → D
  | .lst ds => .lst ds
  | .dK ks ds => .dK ks ds
  | .dT ks ds => .dT ks ds
  | .ins C ns ds => .ins C ns ds
def IsO (K : PySem.W.Frag) (F H : Hp) (a : Addr) : OB → Prop
  | .lst ds => ∃ vs, H a = some (.lst vs) ∧ IsA K F vs ds
  | .dK ks ds => ∃ vs, H a = some (.dK (ks.zip vs)) ∧ ks.length = vs.length ∧ IsA K F vs ds
  | .dT ks ds => ∃ vs, H a = some (.dT (ks.zip vs)) ∧ ks.length = vs.length ∧ IsA K F vs ds
  | .ins C ns ds => ∃ dx vs, H a = some (.ins C dx (ns.zip vs)) ∧ ns.length = vs.length ∧ IsA K F vs ds
theorem IsO.there {H : Hp} {a : Addr} {ob : OB} (h : IsO K F H a ob) : ∃ o, H a = some o := by
  cases ob with
  | lst ds => exact ⟨_, h.choose_spec.1⟩
  | dK ks ds => exact ⟨_, h.choose_spec.1⟩
  | dT ks ds => exact ⟨_, h.choose_spec.1⟩
  | ins C ns ds => exact ⟨_, h.choose_spec.choose_spec.1⟩
theorem IsO.mono {H H' : Hp} {a : Addr} {ob : OB} (e : Ex F F') (k : ∀ o, H a = some o → H' a = some o) (h : IsO K F H a ob) : IsO K F' H' a ob := by
  cases ob with
  | lst ds =>
    obtain ⟨vs, h1, h2⟩ := h
    exact ⟨vs, k _ h1, h2.mono e⟩
  | dK ks ds =>
    obtain ⟨vs, h1, h2, h3⟩ := h
    exact ⟨vs, k _ h1, h2, h3.mono e⟩
  | dT ks ds =>
    obtain ⟨vs, h1, h2, h3⟩ := h
    exact ⟨vs, k _ h1, h2, h3.mono e⟩
  | ins C ns ds =>
    obtain ⟨dx, vs, h1, h2, h3⟩ := h
    exact ⟨dx, vs, k _ h1, h2, h3.mono e⟩
/-- an owned object, frozen, is data -/
theorem IsO.froz {H : Hp} {a : Addr} {ob : OB} {o : HO} (h : IsO K F H a ob) (hn : F a = none) (ho : H a = some o) : Is K (upd F a o) (.ref a) ob.d := by
  have e : Ex F (upd F a o) := Ex.new hn
  cases ob with
  | lst ds =>
    obtain ⟨vs, h1, h2⟩ := h
    rw [ho] at h1
    cases h1
    exact .lst upd_same (h2.mono e)
  | dK ks ds =>
    obtain ⟨vs, h1, h2, h3⟩ := h
    rw [ho] at h1
    cases h1
    exact .dK upd_same h2 (h3.mono e)
  | dT ks ds =>
    obtain ⟨vs, h1, h2, h3⟩ := h
    rw [ho] at h1
    cases h1
    exact .dT upd_same h2 (h3.mono e)
  | ins C ns ds =>
    obtain ⟨dx, vs, h1, h2, h3⟩ := h
    rw [ho] at h1
    cases h1
    exact .ins upd_same h2 (h3.mono e)
end

structure Ow where
  a : Addr
  loc : Bool
  ob : OB
abbrev Tb := List Ow
abbrev Sls := List (Option D)
/-- a def's entry: its frozen heap, its heap, the addresses that it may write -/
structure Ent where
  F : Hp
  H : Hp
  O : List Addr

/-- what a stretch of code leaves -/
structure Post (F H : Hp) (O : List Addr) (F' H' : Hp) : Prop where
  ff : Ex F F'
  hh : ∀ a o, H a = some o → a ∉ O → H' a = some o
  al : ∀ a o, H a = some o → ∃ o', H' a = some o'
  fh : Ex F' H'
  nw : ∀ a o, F a = none → H a = some o → F' a = none

def Sl (K : PySem.W.Frag) (F : Hp) (σ : L2.St) (ds : Sls) : Prop := ∀ (i : Nat) (d : D), ds[i]? = some (some d) → ∃ v, σ[i]? = some (some v) ∧ Is K F v d
structure OwOk (K : PySem.W.Frag) (E : Ent) (F H : Hp) (e : Ow) : Prop where
  f : F e.a = none
  o : IsO K F H e.a e.ob
  l : e.loc = true → E.H e.a = none
  g : e.loc = false → e.a ∈ E.O ∧ ∃ o, E.H e.a = some o
/-- the state: slots ds, owned objects T -/
structure Ok (K : PySem.W.Frag) (E : Ent) (F : Hp) (ds : Sls) (T : Tb) (σ : L2.St) (H : Hp) : Prop where
  p : Post E.F E.H E.O F H
  ln : σ.length = ds.length
  sl : Sl K F σ ds
  ow : ∀ e ∈ T, OwOk K E F H e
  nd : (T.map (·.a)).Nodup

section
variable {K : PySem.W.Frag} {E : Ent} {F F' H H' : Hp} {ds : Sls} {T : Tb} {σ : L2.St} {p : Addr} {o : HO}
theorem Sl.mono (e : Ex F F') (h : Sl K F σ ds) : Sl K F' σ ds := fun i d hd => let ⟨v, a, b⟩ := h i d hd; ⟨v, a, b.mono e⟩
theorem Sl.set {v : V} {d : D} (h : Sl K F σ ds) (hl : σ.length = ds.length) (hv : Is K F v d) (i : Nat) : Sl K F (σ.set i (some v)) (ds.set i (some d)) := by
  intro j e he
  by_cases hj : i = j
  · subst hj
    have hi : i < ds.length := by
      have := (List.getElem?_eq_some_iff.mp he).1
      rw [List.length_set] at this
      exact this
    rw [List.getElem?_set_self hi] at he
    cases he
    exact ⟨v, List.getElem?_set_self (by omega), hv⟩
  · rw [List.getElem?_set_ne hj] at he
    obtain ⟨w, h1, h2⟩ := h j e he
    exact ⟨w, by rw [List.getElem?_set_ne hj]; exact h1, h2⟩
theorem Sl.none_ (h : Sl K F σ ds) (i : Nat) : Sl K F (σ.set i none) (ds.set i none) := by
  intro j e he
  by_cases hj : i = j
  · subst hj
    have hi : i < ds.length := by
      have := (List.getElem?_eq_some_iff.mp he).1
      rw [List.length_set] at this
      exact this
    rw [List.getElem?_set_self hi] at he
    cases he
  · rw [List.getElem?_set_ne hj] at he
    obtain ⟨w, h1, h2⟩ := h j e he
    exact ⟨w, by rw [List.getElem?_set_ne hj]; exact h1, h2⟩
/-- a new object, frozen at once -/
theorem Ok.newF (h : Ok K E F ds T σ H) (hp : H p = none) : Ok K E (upd F p o) ds T σ (upd H p o) ∧ Ex F (upd F p o) := by
  have hf : F p = none := fresh_back h.p.fh hp
  have hE : E.H p = none := by
    cases q : E.H p with
    | none => rfl
    | some u =>
      obtain ⟨o', e⟩ := h.p.al p u q
      rw [hp] at e
      cases e
  have e1 : Ex F (upd F p o) := Ex.new hf
  refine ⟨⟨⟨h.p.ff.trans e1, fun a u ha hO => ?_, fun a u ha => ?_, fun a u ha => ?_, fun a u hn ha => ?_⟩, h.ln, h.sl.mono e1, fun e he => ?_, h.nd⟩, e1⟩
  · have := h.p.hh a u ha hO
    rw [upd_ne (ne_of_none this hp)]
    exact this
  · obtain ⟨o', q⟩ := h.p.al a u ha
    exact ⟨o', by rw [upd_ne (ne_of_none q hp)]; exact q⟩
  · by_cases hap : a = p
    · subst hap
      rw [upd_same] at ha
      rw [upd_same]
      exact ha
    · rw [upd_ne hap] at ha
      rw [upd_ne hap]
      exact h.p.fh a u ha
  · have hap : a ≠ p := fun z => by subst z; rw [hE] at ha; cases ha
    rw [upd_ne hap]
    exact h.p.nw a u hn ha
  · obtain ⟨f, ob, l, g⟩ := h.ow e he
    obtain ⟨u, hu⟩ := ob.there
    have hap : e.a ≠ p := ne_of_none hu hp
    exact ⟨by rw [upd_ne hap]; exact f, ob.mono e1 fun o' q => by rw [upd_ne hap]; exact q, l, g⟩
/-- a new object, owned -/
theorem Ok.newO {ob : OB} (h : Ok K E F ds T σ H) (hp : H p = none) (hob : IsO K F (upd H p o) p ob) : Ok K E F ds (⟨p, true, ob⟩ :: T) σ (upd H p o) := by
  have hf : F p = none := fresh_back h.p.fh hp
  have hE : E.H p = none := by
    cases q : E.H p with
    | none => rfl
    | some u =>
      obtain ⟨o', e⟩ := h.p.al p u q
      rw [hp] at e
      cases e
  have hne : ∀ e ∈ T, e.a ≠ p := fun e he => by
    obtain ⟨u, hu⟩ := (h.ow e he).o.there
    exact ne_of_none hu hp
  refine ⟨⟨h.p.ff, fun a u ha hO => ?_, fun a u ha => ?_, fun a u ha => ?_, h.p.nw⟩, h.ln, h.sl, fun e he => ?_, ?_⟩
  · have := h.p.hh a u ha hO
    rw [upd_ne (ne_of_none this hp)]
    exact this
  · obtain ⟨o', q⟩ := h.p.al a u ha
    exact ⟨o', by rw [upd_ne (ne_of_none q hp)]; exact q⟩
  · rw [upd_ne (ne_of_none ha hf)]
    exact h.p.fh a u ha
  · rcases List.mem_cons.mp he with rfl | he
    · exact ⟨hf, hob, fun _ => hE, fun z => by cases z⟩
    · obtain ⟨f, ob, l, g⟩ := h.ow e he
      exact ⟨f, ob.mono (Ex.refl F) fun o' q => by rw [upd_ne (hne e he)]; exact q, l, g⟩
  · rw [List.map_cons, List.nodup_cons]
    refine ⟨fun hm => ?_, h.nd⟩
    obtain ⟨e, he, q⟩ := List.mem_map.mp hm
    exact hne e he q
theorem nodup_at {xs : List Addr} (h : xs.Nodup) {i j : Nat} {a : Addr} (hi : xs[i]? = some a) (hj : xs[j]? = some a) : i = j := by
  have h1 := (List.getElem?_eq_some_iff.mp hi).1
  exact (List.getElem?_inj h1 h).mp (hi.trans hj.symm)
/-- an owned object changes -/
theorem Ok.mut {j : Nat} {e : Ow} {ob' : OB} (h : Ok K E F ds T σ H) (hj : T[j]? = some e) (hob : IsO K F (upd H e.a o) e.a ob') : Ok K E F ds (T.set j { e with ob := ob' }) σ (upd H e.a o) := by
  have he := h.ow e (List.mem_of_getElem? hj)
  have hjl := (List.getElem?_eq_some_iff.mp hj).1
  have hmap : (T.set j { e with ob := ob' }).map (·.a) = T.map (·.a) := by
    rw [List.map_set]
    apply List.ext_getElem?
    intro i
    by_cases hi : j = i
    · subst hi
      rw [List.getElem?_set_self (by rw [List.length_map]; exact hjl), List.getElem?_map, hj]
      rfl
    · rw [List.getElem?_set_ne hi]
  refine ⟨⟨h.p.ff, fun a u ha hO => ?_, fun a u ha => ?_, fun a u ha => ?_, h.p.nw⟩, h.ln, h.sl, fun e' he' => ?_, by rw [hmap]; exact h.nd⟩
  · have hne : a ≠ e.a := fun z => by
      subst z
      cases q : e.loc with
      | true => rw [he.l q] at ha; cases ha
      | false => exact hO (he.g q).1
    rw [upd_ne hne]
    exact h.p.hh a u ha hO
  · by_cases hae : a = e.a
    · exact ⟨o, by rw [hae]; exact upd_same⟩
    · obtain ⟨o', q⟩ := h.p.al a u ha
      exact ⟨o', by rw [upd_ne hae]; exact q⟩
  · rw [upd_ne (ne_of_none ha he.f)]
    exact h.p.fh a u ha
  · obtain ⟨i, hi⟩ := List.getElem?_of_mem he'
    by_cases hij : j = i
    · subst hij
      rw [List.getElem?_set_self hjl] at hi
      cases hi
      exact ⟨he.f, hob, he.l, he.g⟩
    · rw [List.getElem?_set_ne hij] at hi
      obtain ⟨f, ob, l, g⟩ := h.ow e' (List.mem_of_getElem? hi)
      have hne : e'.a ≠ e.a := fun z => hij (nodup_at h.nd (i := j) (j := i) (a := e.a) (by rw [List.getElem?_map, hj]; rfl) (by rw [List.getElem?_map, hi]; exact congrArg some z))
      exact ⟨f, ob.mono (Ex.refl F) fun o' q => by rw [upd_ne hne]; exact q, l, g⟩
/-- an owned object of one's own is frozen -/
theorem Ok.froz {j : Nat} {e : Ow} (h : Ok K E F ds T σ H) (hj : T[j]? = some e) (hl : e.loc = true) : ∃ F', Ok K E F' ds (T.eraseIdx j) σ H ∧ Ex F F' ∧ Is K F' (.ref e.a) e.ob.d ∧ ∀ a, a ≠ e.a → F' a = F a := by
  have he := h.ow e (List.mem_of_getElem? hj)
  obtain ⟨o, ho⟩ := he.o.there
  have e1 : Ex F (upd F e.a o) := Ex.new he.f
  refine ⟨upd F e.a o, ⟨⟨h.p.ff.trans e1, h.p.hh, h.p.al, fun a u ha => ?_, fun a u hn ha => ?_⟩, h.ln, h.sl.mono e1, fun e' he' => ?_, ?_⟩, e1, he.o.froz he.f ho, fun a ha => upd_ne ha⟩
  · by_cases hap : a = e.a
    · subst hap
      rw [upd_same] at ha
      cases ha
      exact ho
    · rw [upd_ne hap] at ha
      exact h.p.fh a u ha
  · have hap : a ≠ e.a := fun z => by subst z; rw [he.l hl] at ha; cases ha
    rw [upd_ne hap]
    exact h.p.nw a u hn ha
  · obtain ⟨i, hi⟩ := List.getElem?_of_mem he'
    obtain ⟨k, hk, hkj⟩ : ∃ k, T[k]? = some e' ∧ k ≠ j := by
      by_cases hij : i < j
      · exact ⟨i, by rw [List.getElem?_eraseIdx_of_lt hij] at hi; exact hi, by omega⟩
      · exact ⟨i + 1, by rw [List.getElem?_eraseIdx_of_ge (by omega)] at hi; exact hi, by omega⟩
    obtain ⟨f, ob, l, g⟩ := h.ow e' (List.mem_of_getElem? hk)
    have hne : e'.a ≠ e.a := fun z => hkj (nodup_at h.nd (a := e.a) (by rw [List.getElem?_map, hk]; exact congrArg some z) (by rw [List.getElem?_map, hj]; rfl))
    exact ⟨by rw [upd_ne hne]; exact f, ob.mono e1 fun _ q => q, l, g⟩
  · exact h.nd.sublist ((List.eraseIdx_sublist ..).map _)
theorem Ok.slot (h : Ok K E F ds T σ H) {v : V} {d : D} (hv : Is K F v d) (i : Nat) : Ok K E F (ds.set i (some d)) T (σ.set i (some v)) H :=
  ⟨h.p, by rw [List.length_set, List.length_set]; exact h.ln, h.sl.set h.ln hv i, h.ow, h.nd⟩
theorem Ok.slot0 (h : Ok K E F ds T σ H) (i : Nat) : Ok K E F (ds.set i none) T (σ.set i none) H :=
  ⟨h.p, by rw [List.length_set, List.length_set]; exact h.ln, h.sl.none_ i, h.ow, h.nd⟩
/-- fewer owned objects -/
theorem Ok.less {T' : Tb} (h : Ok K E F ds T σ H) (s : T'.Sublist T) : Ok K E F ds T' σ H := ⟨h.p, h.ln, h.sl, fun e he => h.ow e (s.subset he), h.nd.sublist (s.map _)⟩
end
end AW

/-! AW: expressions as predicate transformers over data. -/
namespace AW
open PySem L2 Evl

abbrev PD := D → Tb → Prop
abbrev ads (T : Tb) : List Addr := T.map (·.a)
/-- what an expression's run leaves alone -/
structure Fr (T : Tb) (F H : Hp) (T' : Tb) (F' H' : Hp) : Prop where
  ff : Ex F F'
  hh : ∀ a o, H a = some o → a ∉ ads T → H' a = some o
  nw : ∀ a o, F a = none → H a = some o → a ∉ ads T → F' a = none
  tt : ∀ e ∈ T', e.a ∈ ads T ∨ H e.a = none
theorem Fr.refl (T : Tb) (F H : Hp) : Fr T F H T F H := ⟨Ex.refl F, fun _ _ h _ => h, fun _ _ h _ _ => h, fun e he => .inl (List.mem_map.mpr ⟨e, he, rfl⟩)⟩
theorem Fr.trans {T T1 T2 : Tb} {F H F1 H1 F2 H2 : Hp} (a : Fr T F H T1 F1 H1) (b : Fr T1 F1 H1 T2 F2 H2) (al : ∀ x o, H x = some o → ∃ o', H1 x = some o') : Fr T F H T2 F2 H2 := by
  have nin : ∀ x o, H x = some o → x ∉ ads T → x ∉ ads T1 := fun x o hx hn hm => by
    obtain ⟨e, he, q⟩ := List.mem_map.mp hm
    rcases a.tt e he with h | h
    · rw [q] at h
      exact hn h
    · rw [q, hx] at h
      cases h
  refine ⟨a.ff.trans b.ff, fun x o hx hn => b.hh x o (a.hh x o hx hn) (nin x o hx hn), fun x o hf hx hn => b.nw x o (a.nw x o hf hx hn) (a.hh x o hx hn) (nin x o hx hn), fun e he => ?_⟩
  rcases b.tt e he with h | h
  · obtain ⟨e1, he1, q⟩ := List.mem_map.mp h
    have := a.tt e1 he1
    rw [show e.a = e1.a from q.symm]
    exact this
  · refine .inr ?_
    cases q : H e.a with
    | none => rfl
    | some o =>
      obtain ⟨o', q'⟩ := al _ _ q
      rw [h] at q'
      cases q'

section
variable {K : PySem.W.Frag} {E : Ent}
/-- Q may be told of a value that stands for d with P -/
def Rs (K : PySem.W.Frag) (E : Ent) (P : PD) (ds : Sls) (T : Tb) (σ : L2.St) (F H : Hp) (Q : VK) : Prop :=
  ∀ v d T' F' H', P d T' → Ok K E F' ds T' σ H' → Fr T F H T' F' H' → (∀ x o, H x = some o → ∃ o', H' x = some o') → Is K F' v d → Q v H'
def AE (K : PySem.W.Frag) (E : Ent) (te : TE) (ds : Sls) (T : Tb) (P : PD) : Prop := ∀ F σ H Q, Ok K E F ds T σ H → Rs K E P ds T σ F H Q → te σ H Q
def AA (K : PySem.W.Frag) (E : Ent) (ta : TA) (ds : Sls) (T : Tb) (P : List D → Tb → Prop) : Prop :=
  ∀ F σ H (Q : List V → Hp → Prop), Ok K E F ds T σ H → (∀ vs dd T' F' H', P dd T' → Ok K E F' ds T' σ H' → Fr T F H T' F' H' → (∀ x o, H x = some o → ∃ o', H' x = some o') → IsA K F' vs dd → Q vs H') → ta σ H Q
def AT (K : PySem.W.Frag) (E : Ent) (tt : TT) (ds : Sls) (T : Tb) (P : Bool → Tb → Prop) : Prop :=
  ∀ F σ H (Q : Bool → Hp → Prop), Ok K E F ds T σ H → (∀ b T' F' H', P b T' → Ok K E F' ds T' σ H' → Fr T F H T' F' H' → (∀ x o, H x = some o → ∃ o', H' x = some o') → Q b H') → tt σ H Q
/-- a two-place operation, a call, a method's call, a slice on data -/
def RD (K : PySem.W.Frag) (E : Ent) (r : R2) (T : Tb) (d1 d2 : D) (P : PD) : Prop :=
  ∀ F σ ds H v1 v2 Q, Ok K E F ds T σ H → Is K F v1 d1 → Is K F v2 d2 → Rs K E P ds T σ F H Q → r v1 v2 H Q
def RU (K : PySem.W.Frag) (E : Ent) (r : V → Hp → VK → Prop) (T : Tb) (d1 : D) (P : PD) : Prop :=
  ∀ F σ ds H v1 Q, Ok K E F ds T σ H → Is K F v1 d1 → Rs K E P ds T σ F H Q → r v1 H Q
def RC (K : PySem.W.Frag) (E : Ent) (r : List V → Hp → VK → Prop) (T : Tb) (dd : List D) (P : PD) : Prop :=
  ∀ F σ ds H vs Q, Ok K E F ds T σ H → IsA K F vs dd → Rs K E P ds T σ F H Q → r vs H Q
def RM (K : PySem.W.Frag) (E : Ent) (r : V → List V → Hp → VK → Prop) (T : Tb) (d : D) (dd : List D) (P : PD) : Prop :=
  ∀ F σ ds H v vs Q, Ok K E F ds T σ H → Is K F v d → IsA K F vs dd → Rs K E P ds T σ F H Q → r v vs H Q
def RS (K : PySem.W.Frag) (E : Ent) (r : V → Option Int → Option Int → Hp → VK → Prop) (T : Tb) (d : D) (lo hi : Option Int) (P : PD) : Prop :=
  ∀ F σ ds H v Q, Ok K E F ds T σ H → Is K F v d → Rs K E P ds T σ F H Q → r v lo hi H Q
def Tru (K : PySem.W.Frag) (E : Ent) (T : Tb) (d : D) (k : Bool) : Prop := ∀ F σ ds H v, Ok K E F ds T σ H → Is K F v d → TruV K v H k

variable {te ta tb : TE} {tr : TA} {tt tu : TT} {ds : Sls} {T : Tb} {P P' : PD} {σ : L2.St} {F H F1 H1 : Hp} {Q : VK} {d d1 d2 : D} {r : R2} {v : V} {T1 : Tb}
theorem id_al {H : Hp} : ∀ x o, H x = some o → ∃ o', H x = some o' := fun _ o h => ⟨o, h⟩
theorem al_new {H : Hp} {p : Addr} {o : HO} : ∀ x u, H x = some u → ∃ o', upd H p o x = some o' := fun x u h => by
  by_cases e : x = p
  · exact ⟨o, by rw [e]; exact upd_same⟩
  · exact ⟨u, by rw [upd_ne e]; exact h⟩
theorem Fr.newF {p : Addr} {o : HO} (hF : F p = none) (hp : H p = none) : Fr T F H T (upd F p o) (upd H p o) :=
  ⟨Ex.new hF, fun a u h _ => by rw [upd_ne (ne_of_none h hp)]; exact h, fun a u hf h _ => by rw [upd_ne (ne_of_none h hp)]; exact hf, fun e he => .inl (List.mem_map.mpr ⟨e, he, rfl⟩)⟩
theorem Fr.newO {p : Addr} {o : HO} {ob : OB} (hp : H p = none) : Fr T F H (⟨p, true, ob⟩ :: T) F (upd H p o) :=
  ⟨Ex.refl F, fun a u h _ => by rw [upd_ne (ne_of_none h hp)]; exact h, fun a u hf h _ => hf, fun e he => by
    rcases List.mem_cons.mp he with rfl | he
    · exact .inr hp
    · exact .inl (List.mem_map.mpr ⟨e, he, rfl⟩)⟩
theorem Fr.mut {j : Nat} {e : Ow} {ob : OB} {o : HO} (hj : T[j]? = some e) : Fr T F H (T.set j { e with ob := ob }) F (upd H e.a o) :=
  ⟨Ex.refl F, fun a u h hn => by rw [upd_ne (fun z => hn (by rw [z]; exact List.mem_map.mpr ⟨e, List.mem_of_getElem? hj, rfl⟩))]; exact h, fun a u hf h _ => hf, fun e' he' => by
    rcases List.mem_or_eq_of_mem_set he' with h | h
    · exact .inl (List.mem_map.mpr ⟨e', h, rfl⟩)
    · exact .inl (by rw [h]; exact List.mem_map.mpr ⟨e, List.mem_of_getElem? hj, rfl⟩)⟩
theorem Rs.step (h : Rs K E P ds T σ F H Q) (f : Fr T F H T1 F1 H1) (al : ∀ x o, H x = some o → ∃ o', H1 x = some o') : Rs K E P ds T1 σ F1 H1 Q :=
  fun v d T' F' H' p ok fr al2 i => h v d T' F' H' p ok (f.trans fr al) (fun x o hx => let ⟨o1, h1⟩ := al x o hx; al2 x o1 h1) i
theorem Rs.ret (h : Rs K E P ds T σ F H Q) (ok : Ok K E F ds T σ H) (p : P d T) (i : Is K F v d) : Q v H := h v d T F H p ok (Fr.refl T F H) id_al i
theorem Rs.newF {p : Addr} {o : HO} (h : Rs K E P ds T σ F H Q) (ok : Ok K E F ds T σ H) (hp : H p = none) (q : P d T) (i : Is K (upd F p o) (.ref p) d) : Q (.ref p) (upd H p o) :=
  h _ d T _ _ q (ok.newF hp).1 (Fr.newF (fresh_back ok.p.fh hp) hp) al_new i
theorem Rs.newO {p : Addr} {o : HO} {ob : OB} (h : Rs K E P ds T σ F H Q) (ok : Ok K E F ds T σ H) (hp : H p = none) (q : P (.adr p) (⟨p, true, ob⟩ :: T)) (i : IsO K F (upd H p o) p ob) : Q (.ref p) (upd H p o) :=
  h _ (.adr p) _ _ _ q (ok.newO hp i) (Fr.newO hp) al_new (.adr p)
theorem Rs.mut {j : Nat} {e : Ow} {ob : OB} {o : HO} (h : Rs K E P ds T σ F H Q) (ok : Ok K E F ds T σ H) (hj : T[j]? = some e) (q : P d (T.set j { e with ob := ob })) (i : IsO K F (upd H e.a o) e.a ob) (hv : Is K F v d) : Q v (upd H e.a o) :=
  h v d _ _ _ q (ok.mut hj i) (Fr.mut hj) al_new hv
theorem Rs.newF' {p : Addr} {o : HO} (h : Rs K E P ds T σ F H Q) (ok : Ok K E F ds T σ H) (hp : H p = none) (q : P d T) (i : Ex F (upd F p o) → Is K (upd F p o) (.ref p) d) : Q (.ref p) (upd H p o) :=
  h.newF ok hp q (i (ok.newF hp).2)

/-! ### consequence, frame -/
theorem AE.imp (h : AE K E te ds T P) (k : ∀ d T', P d T' → P' d T') : AE K E te ds T P' := fun F σ H Q ok q => h F σ H Q ok fun v d T' F' H' p => q v d T' F' H' (k d T' p)
theorem AA.imp {P P' : List D → Tb → Prop} (h : AA K E tr ds T P) (k : ∀ d T', P d T' → P' d T') : AA K E tr ds T P' := fun F σ H Q ok q => h F σ H Q ok fun v d T' F' H' p => q v d T' F' H' (k d T' p)
theorem AT.imp {P P' : Bool → Tb → Prop} (h : AT K E tt ds T P) (k : ∀ d T', P d T' → P' d T') : AT K E tt ds T P' := fun F σ H Q ok q => h F σ H Q ok fun d T' F' H' p => q d T' F' H' (k d T' p)
/-- the value's owned object is frozen -/
theorem AE.froz (h : AE K E te ds T fun d T' => ∃ j e, T'[j]? = some e ∧ e.loc = true ∧ d = .adr e.a ∧ P e.ob.d (T'.eraseIdx j)) : AE K E te ds T P := fun F σ H Q ok q => h F σ H Q ok fun v d T' F' H' ⟨j, e, hj, hl, hd, p⟩ ok' fr al i => by
  subst hd
  cases i
  obtain ⟨F2, ok2, e2, i2, same⟩ := ok'.froz hj hl
  refine q _ _ _ F2 H' p ok2 ⟨fr.ff.trans e2, fr.hh, fun a o hf hx hn => ?_, fun e' he' => fr.tt e' ((List.eraseIdx_sublist ..).subset he')⟩ al i2
  have hne : a ≠ e.a := fun z => by
    rcases fr.tt e (List.mem_of_getElem? hj) with h2 | h2
    · rw [← z] at h2
      exact hn h2
    · rw [← z, hx] at h2
      cases h2
  rw [same a hne]
  exact fr.nw a o hf hx hn
theorem Ok.tail {e : Ow} (ok : Ok K E F ds (e :: T) σ H) : Ok K E F ds T σ H := ok.less (List.sublist_cons_self ..)
theorem Ok.notin {e : Ow} (ok : Ok K E F ds (e :: T) σ H) : e.a ∉ ads T := by
  have := ok.nd
  rw [List.map_cons, List.nodup_cons] at this
  exact this.1
/-- an owned object that is not touched is put back -/
theorem Ok.back {e : Ow} {T' : Tb} {F' H' : Hp} {ds' : Sls} {σ' : L2.St} (ok : Ok K E F ds (e :: T) σ H) (ok' : Ok K E F' ds' T' σ' H') (fr : Fr T F H T' F' H') : Ok K E F' ds' (e :: T') σ' H' := by
  have he := ok.ow e (List.mem_cons_self ..)
  have hn := ok.notin
  obtain ⟨o, ho⟩ := he.o.there
  have hn' : e.a ∉ ads T' := fun hm => by
    obtain ⟨e1, h1, q⟩ := List.mem_map.mp hm
    rcases fr.tt e1 h1 with h | h
    · rw [q] at h
      exact hn h
    · rw [q, ho] at h
      cases h
  refine ⟨ok'.p, ok'.ln, ok'.sl, fun x hx => ?_, ?_⟩
  · rcases List.mem_cons.mp hx with rfl | hx
    · exact ⟨fr.nw _ _ he.f ho hn, he.o.mono fr.ff fun u hu => fr.hh _ u hu hn, he.l, he.g⟩
    · exact ok'.ow x hx
  · rw [List.map_cons, List.nodup_cons]
    exact ⟨hn', ok'.nd⟩
theorem Fr.back {e : Ow} {T' : Tb} {F' H' : Hp} (fr : Fr T F H T' F' H') : Fr (e :: T) F H (e :: T') F' H' := by
  refine ⟨fr.ff, fun a o h hn => fr.hh a o h fun z => hn (List.mem_cons_of_mem _ z), fun a o hf h hn => fr.nw a o hf h fun z => hn (List.mem_cons_of_mem _ z), fun x hx => ?_⟩
  rcases List.mem_cons.mp hx with rfl | hx
  · exact .inl (List.mem_cons_self ..)
  · rcases fr.tt x hx with h | h
    · exact .inl (List.mem_cons_of_mem _ h)
    · exact .inr h
theorem AE.frame {e : Ow} (h : AE K E te ds T P) : AE K E te ds (e :: T) fun d T'' => ∃ T', T'' = e :: T' ∧ P d T' := fun F σ H Q ok q =>
  h F σ H Q ok.tail fun v d T' F' H' p ok' fr al i => q v d (e :: T') F' H' ⟨T', rfl, p⟩ (ok.back ok' fr) fr.back al i

/-! ### expressions -/
theorem ae_var {i : Nat} (h : ds[i]? = some (some d)) (p : P d T) : AE K E (tVar i) ds T P := fun F σ H Q ok q => by
  obtain ⟨v, h1, h2⟩ := ok.sl i d h
  exact ⟨v, h1, q.ret ok p h2⟩
theorem ae_int {i : Int} (p : P (.int i) T) : AE K E (tC (.int i)) ds T P := fun F σ H Q ok q => q.ret ok p (.int i)
theorem ae_bl {b : Bool} (p : P (.bl b) T) : AE K E (tC (.bl b)) ds T P := fun F σ H Q ok q => q.ret ok p (.bl b)
theorem ae_str {b : Str} (p : P (.str b) T) : AE K E (tC (.str b)) ds T P := fun F σ H Q ok q => q.ret ok p (.str b)
theorem ae_non (p : P .non T) : AE K E (tC .non) ds T P := fun F σ H Q ok q => q.ret ok p .non
theorem ae_op (h : AE K E ta ds T fun d1 T1 => AE K E tb ds T1 fun d2 T2 => RD K E r T2 d1 d2 P) : AE K E (tOp r ta tb) ds T P := fun F σ H Q ok q =>
  h F σ H _ ok fun v1 d1 T1 F1 H1 p1 ok1 fr1 al1 i1 => p1 F1 σ H1 _ ok1 fun v2 d2 T2 F2 H2 p2 ok2 fr2 al2 i2 =>
    p2 F2 σ ds H2 v1 v2 Q ok2 (i1.mono fr2.ff) i2 ((q.step fr1 al1).step fr2 al2)
theorem ae_un {r : V → Hp → VK → Prop} (h : AE K E ta ds T fun d1 T1 => RU K E r T1 d1 P) : AE K E (tUn r ta) ds T P := fun F σ H Q ok q =>
  h F σ H _ ok fun v1 d1 T1 F1 H1 p1 ok1 fr1 al1 i1 => p1 F1 σ ds H1 v1 Q ok1 i1 (q.step fr1 al1)
theorem aa_nil {P : List D → Tb → Prop} (p : P [] T) : AA K E tNil ds T P := fun F σ H Q ok q => q [] [] T F H p ok (Fr.refl T F H) id_al .nil
theorem aa_cons {P : List D → Tb → Prop} (h : AE K E ta ds T fun d T1 => AA K E tr ds T1 fun dd T2 => P (d :: dd) T2) : AA K E (tCons ta tr) ds T P := fun F σ H Q ok q =>
  h F σ H _ ok fun v1 d1 T1 F1 H1 p1 ok1 fr1 al1 i1 => p1 F1 σ H1 _ ok1 fun vs dd T2 F2 H2 p2 ok2 fr2 al2 i2 =>
    q (v1 :: vs) (d1 :: dd) T2 F2 H2 p2 ok2 (fr1.trans fr2 al1) (fun x o hx => let ⟨o1, h1⟩ := al1 x o hx; al2 x o1 h1) (.cons (i1.mono fr2.ff) i2)
theorem ae_lst (h : AA K E tr ds T fun dd T' => dd.length ≤ 100000 ∧ P (.lst dd) T') : AE K E (tLst tr) ds T P := fun F σ H Q ok q =>
  h F σ H _ ok fun vs dd T1 F1 H1 ⟨hl, p1⟩ ok1 fr1 al1 i1 => ⟨by rw [i1.len]; exact sz_of hl, fun p hp => (q.step fr1 al1).newF' ok1 hp p1 fun e => .lst upd_same (i1.mono e)⟩
theorem ae_lstO (h : AA K E tr ds T fun dd T' => dd.length ≤ 100000 ∧ ∀ p, P (.adr p) (⟨p, true, .lst dd⟩ :: T')) : AE K E (tLst tr) ds T P := fun F σ H Q ok q =>
  h F σ H _ ok fun vs dd T1 F1 H1 ⟨hl, p1⟩ ok1 fr1 al1 i1 => ⟨by rw [i1.len]; exact sz_of hl, fun p hp => (q.step fr1 al1).newO ok1 hp (p1 p) ⟨vs, upd_same, i1⟩⟩
theorem ae_tup (h : AA K E tr ds T fun dd T' => dd.length ≤ 100000 ∧ P (.tup dd) T') : AE K E (tTup tr) ds T P := fun F σ H Q ok q =>
  h F σ H _ ok fun vs dd T1 F1 H1 ⟨hl, p1⟩ ok1 fr1 al1 i1 => ⟨by rw [i1.len]; exact sz_of hl, fun p hp => (q.step fr1 al1).newF' ok1 hp p1 fun e => .tup upd_same (i1.mono e)⟩
theorem ae_cb {r : List V → Hp → VK → Prop} (h : AA K E tr ds T fun dd T' => RC K E r T' dd P) : AE K E (tCB r tr) ds T P := fun F σ H Q ok q =>
  h F σ H _ ok fun vs dd T1 F1 H1 p1 ok1 fr1 al1 i1 => p1 F1 σ ds H1 vs Q ok1 i1 (q.step fr1 al1)
theorem ae_if (h : AT K E tt ds T fun b T' => if b = true then AE K E ta ds T' P else AE K E tb ds T' P) : AE K E (tIf tt ta tb) ds T P := fun F σ H Q ok q =>
  h F σ H _ ok fun b T1 F1 H1 p1 ok1 fr1 al1 => by
    cases b with
    | true => exact p1 F1 σ H1 Q ok1 (q.step fr1 al1)
    | false => exact p1 F1 σ H1 Q ok1 (q.step fr1 al1)
theorem ae_andV (h : AE K E ta ds T fun d T' => ∃ b, d = .bl b ∧ (b = true → AE K E tb ds T' P) ∧ (b = false → P (.bl false) T')) : AE K E (tAndV ta tb) ds T P := fun F σ H Q ok q =>
  h F σ H _ ok fun v d T1 F1 H1 ⟨b, hd, h1, h2⟩ ok1 fr1 al1 i => by
    subst hd
    cases i
    refine ⟨b, rfl, ?_⟩
    cases b with
    | true => exact h1 rfl F1 σ H1 Q ok1 (q.step fr1 al1)
    | false => exact (q.step fr1 al1).ret ok1 (h2 rfl) (.bl false)
theorem ae_orV (h : AE K E ta ds T fun d T' => ∃ b, d = .bl b ∧ (b = true → P (.bl true) T') ∧ (b = false → AE K E tb ds T' P)) : AE K E (tOrV ta tb) ds T P := fun F σ H Q ok q =>
  h F σ H _ ok fun v d T1 F1 H1 ⟨b, hd, h1, h2⟩ ok1 fr1 al1 i => by
    subst hd
    cases i
    refine ⟨b, rfl, ?_⟩
    cases b with
    | true => exact (q.step fr1 al1).ret ok1 (h1 rfl) (.bl true)
    | false => exact h2 rfl F1 σ H1 Q ok1 (q.step fr1 al1)
theorem ae_notV (h : AE K E ta ds T fun d T' => ∃ b, d = .bl b ∧ P (.bl (!b)) T') : AE K E (tNotV ta) ds T P := fun F σ H Q ok q =>
  h F σ H _ ok fun v d T1 F1 H1 ⟨b, hd, h1⟩ ok1 fr1 al1 i => by
    subst hd
    cases i
    exact ⟨b, rfl, (q.step fr1 al1).ret ok1 h1 (.bl _)⟩
theorem ae_notT (h : AE K E ta ds T fun d T' => ∃ k, Tru K E T' d k ∧ P (.bl (!k)) T') : AE K E (tNotT K ta) ds T P := fun F σ H Q ok q =>
  h F σ H _ ok fun v d T1 F1 H1 ⟨k, hk, h1⟩ ok1 fr1 al1 i => ⟨k, hk F1 σ ds H1 v ok1 i, (q.step fr1 al1).ret ok1 h1 (.bl _)⟩
theorem ae_andT (h : AE K E ta ds T fun d T' => ∃ k, Tru K E T' d k ∧ (k = true → AE K E tb ds T' P) ∧ (k = false → P d T')) : AE K E (tAndT K ta tb) ds T P := fun F σ H Q ok q =>
  h F σ H _ ok fun v d T1 F1 H1 ⟨k, hk, h1, h2⟩ ok1 fr1 al1 i => ⟨k, hk F1 σ ds H1 v ok1 i, by
    cases k with
    | true => exact h1 rfl F1 σ H1 Q ok1 (q.step fr1 al1)
    | false => exact (q.step fr1 al1).ret ok1 (h2 rfl) i⟩
theorem ae_orT (h : AE K E ta ds T fun d T' => ∃ k, Tru K E T' d k ∧ (k = true → P d T') ∧ (k = false → AE K E tb ds T' P)) : AE K E (tOrT K ta tb) ds T P := fun F σ H Q ok q =>
  h F σ H _ ok fun v d T1 F1 H1 ⟨k, hk, h1, h2⟩ ok1 fr1 al1 i => ⟨k, hk F1 σ ds H1 v ok1 i, by
    cases k with
    | true => exact (q.step fr1 al1).ret ok1 (h1 rfl) i
    | false => exact h2 rfl F1 σ H1 Q ok1 (q.step fr1 al1)⟩
/-! ### tests -/
theorem at_test {P : Bool → Tb → Prop} (h : AE K E ta ds T fun d T' => ∃ b, d = .bl b ∧ P b T') : AT K E (tTest ta) ds T P := fun F σ H Q ok q =>
  h F σ H _ ok fun v d T1 F1 H1 ⟨b, hd, h1⟩ ok1 fr1 al1 i => by
    subst hd
    cases i
    exact ⟨b, rfl, q b T1 F1 H1 h1 ok1 fr1 al1⟩
theorem at_B {P : Bool → Tb → Prop} (h : AE K E ta ds T fun d T' => ∃ b, d = .bl b ∧ P b T') : AT K E (tB ta) ds T P := fun F σ H Q ok q =>
  h F σ H _ ok fun v d T1 F1 H1 ⟨b, hd, h1⟩ ok1 fr1 al1 i => by
    subst hd
    cases i
    exact ⟨b, rfl, q b T1 F1 H1 h1 ok1 fr1 al1⟩
def tTru (K : PySem.W.Frag) (ta : TE) : TT := fun σ H Q => ta σ H fun x H' => ∃ k, TruV K x H' k ∧ Q k H'
theorem at_tru {P : Bool → Tb → Prop} (h : AE K E ta ds T fun d T' => ∃ k, Tru K E T' d k ∧ P k T') : AT K E (tTru K ta) ds T P := fun F σ H Q ok q =>
  h F σ H _ ok fun v d T1 F1 H1 ⟨k, hk, h1⟩ ok1 fr1 al1 i => ⟨k, hk F1 σ ds H1 v ok1 i, q k T1 F1 H1 h1 ok1 fr1 al1⟩
theorem at_and {P : Bool → Tb → Prop} (h : AT K E tt ds T fun b T' => if b = true then AT K E tu ds T' P else P false T') : AT K E (tAnd tt tu) ds T P := fun F σ H Q ok q =>
  h F σ H _ ok fun b T1 F1 H1 h1 ok1 fr1 al1 => by
    cases b with
    | true => exact h1 F1 σ H1 Q ok1 fun b2 T2 F2 H2 h2 ok2 fr2 al2 => q b2 T2 F2 H2 h2 ok2 (fr1.trans fr2 al1) fun x o hx => let ⟨o1, h1⟩ := al1 x o hx; al2 x o1 h1
    | false => exact q false T1 F1 H1 h1 ok1 fr1 al1
theorem at_or {P : Bool → Tb → Prop} (h : AT K E tt ds T fun b T' => if b = true then P true T' else AT K E tu ds T' P) : AT K E (tOr tt tu) ds T P := fun F σ H Q ok q =>
  h F σ H _ ok fun b T1 F1 H1 h1 ok1 fr1 al1 => by
    cases b with
    | true => exact q true T1 F1 H1 h1 ok1 fr1 al1
    | false => exact h1 F1 σ H1 Q ok1 fun b2 T2 F2 H2 h2 ok2 fr2 al2 => q b2 T2 F2 H2 h2 ok2 (fr1.trans fr2 al1) fun x o hx => let ⟨o1, h1⟩ := al1 x o hx; al2 x o1 h1
theorem at_not {P : Bool → Tb → Prop} (h : AT K E tt ds T fun b T' => P (!b) T') : AT K E (tNot tt) ds T P := fun F σ H Q ok q =>
  h F σ H _ ok fun b T1 F1 H1 h1 ok1 fr1 al1 => q (!b) T1 F1 H1 h1 ok1 fr1 al1

/-! ### lists as they may lie: frozen, locked, owned -/
inductive LV (T : Tb) : D → List D → Prop
  | f (ds : List D) : LV T (.lst ds) ds
  | r (ds : List D) : LV T (.frl ds) ds
  | o {j : Nat} {e : Ow} {ds : List D} : T[j]? = some e → e.ob = .lst ds → LV T (.adr e.a) ds
theorem LV.own {T : Tb} {a : Addr} {l : Bool} {ds : List D} (j : Nat) (h : T[j]? = some ⟨a, l, .lst ds⟩) : LV T (.adr a) ds := .o h rfl
theorem LV.sq {xs : List D} (l : LV T d xs) (ok : Ok K E F ds T σ H) (i : Is K F v d) : ∃ a vs, v = .ref a ∧ SqL K H a vs ∧ IsA K F vs xs := by
  cases l with
  | f =>
    cases i with
    | lst h t => exact ⟨_, _, rfl, sq_of (ok.p.fh _ _ h), t⟩
  | r =>
    cases i with
    | frl h t => exact ⟨_, _, rfl, ex_l ok.p.fh h, t⟩
  | @o j e _ hj he =>
    cases i
    have w := (ok.ow e (List.mem_of_getElem? hj)).o
    rw [he] at w
    obtain ⟨vs, h1, h2⟩ := w
    exact ⟨_, vs, rfl, sq_of h1, h2⟩
/-- a list that the heap tracks -/
inductive LW (T : Tb) : D → List D → Prop
  | f (ds : List D) : LW T (.lst ds) ds
  | o {j : Nat} {e : Ow} {ds : List D} : T[j]? = some e → e.ob = .lst ds → LW T (.adr e.a) ds
theorem LW.own {T : Tb} {a : Addr} {l : Bool} {ds : List D} (j : Nat) (h : T[j]? = some ⟨a, l, .lst ds⟩) : LW T (.adr a) ds := .o h rfl
theorem LW.trk {xs : List D} (l : LW T d xs) (ok : Ok K E F ds T σ H) (i : Is K F v d) : ∃ a vs, v = .ref a ∧ H a = some (.lst vs) ∧ IsA K F vs xs := by
  cases l with
  | f =>
    cases i with
    | lst h t => exact ⟨_, _, rfl, ok.p.fh _ _ h, t⟩
  | @o j e _ hj he =>
    cases i
    have w := (ok.ow e (List.mem_of_getElem? hj)).o
    rw [he] at w
    obtain ⟨vs, h1, h2⟩ := w
    exact ⟨_, vs, rfl, h1, h2⟩
theorem LW.lv {xs : List D} (l : LW T d xs) : LV T d xs := by
  cases l with
  | f => exact .f _
  | o h1 h2 => exact .o h1 h2
theorem Is.tupE {xs : List D} (i : Is K F v (.tup xs)) : ∃ a vs, v = .ref a ∧ SqT K F a vs ∧ IsA K F vs xs := by
  cases i with
  | tup h t => exact ⟨_, _, rfl, st_of h, t⟩
theorem Is.tupT {xs : List D} (i : Is K F v (.tup xs)) : ∃ a vs, v = .ref a ∧ F a = some (.tup vs) ∧ IsA K F vs xs := by
  cases i with
  | tup h t => exact ⟨_, _, rfl, h, t⟩

/-! ### truth -/
theorem tru_bl {b : Bool} : Tru K E T (.bl b) b := fun F σ ds H v ok i => by
  cases i
  rfl
theorem tru_non : Tru K E T .non false := fun F σ ds H v ok i => by
  cases i
  rfl
theorem tru_int {n : Int} : Tru K E T (.int n) (n != 0) := fun F σ ds H v ok i => by
  cases i
  rfl
theorem tru_list {xs : List D} (l : LV T d xs) : Tru K E T d (!xs.isEmpty) := fun F σ ds H v ok i => by
  obtain ⟨a, vs, rfl, h1, h2⟩ := l.sq ok i
  refine .inl ⟨vs, h1, ?_⟩
  cases h2 <;> rfl
theorem tru_tup {xs : List D} : Tru K E T (.tup xs) (!xs.isEmpty) := fun F σ ds H v ok i => by
  obtain ⟨a, vs, rfl, h1, h2⟩ := i.tupE
  refine .inr (.inl ⟨vs, ex_t ok.p.fh h1, ?_⟩)
  cases h2 <;> rfl
end
end AW

/-! AwG: promises of defs that are kept where no repr is under way (so that repr of lists may be used in them). -/
namespace AW
open PySem PySem.Spec PyProof.Rows L2 Evl

/-- as FnOk, for surroundings without guards -/
structure FnG (P : Program) (w : World) (K : PySem.W.Frag) (mg : Str → Option Value) (base : Heap) (CX : CXT) (k : Nat) (f : Addr) (fd : FuncData) (ps : List Str) (sp : Sp) : Prop where
  ln : ∀ vs H Q E, sp vs H Q E → vs.length = ps.length
  go : ∀ (A : Around) (ou : List Env) (s : Shared) (H : Hp) (ar : Args) (us : List Value) (vs : List V) (Q : VK) (E : XK), A.guards = some [] → Room k A → Env0 P w K mg base A ou s H → BindsTo s fd ar (ps.zip us) → Vals vs us →
    sp vs H Q E → codeAny (model P w) A (.call (.ref f) ar) (CR CX ou P w H s Q E) s
theorem FnOk.g {P : Program} {w : World} {K : PySem.W.Frag} {mg : Str → Option Value} {base : Heap} {CX : CXT} {k : Nat} {f : Addr} {fd : FuncData} {ps : List Str} {sp : Sp} (F : FnOk P w K mg base CX k f fd ps sp) : FnG P w K mg base CX k f fd ps sp :=
  ⟨F.len, fun A ou s H ar us vs Q E _ hr => F.run A ou s H ar us vs Q E hr⟩
theorem FnG.up {P : Program} {w : World} {K : PySem.W.Frag} {mg : Str → Option Value} {base : Heap} {CX : CXT} {j k : Nat} {f : Addr} {fd : FuncData} {ps : List Str} {sp : Sp} (F : FnG P w K mg base CX j f fd ps sp) (h : j ≤ k) : FnG P w K mg base CX k f fd ps sp :=
  ⟨F.ln, fun A ou s H ar us vs Q E hg hr => F.go A ou s H ar us vs Q E hg (hr.mono h)⟩

theorem result_of {X : Cx} {CX : CXT} {E : XK} {Q : VK} {pins : List (Addr × Obj)} {σ : L2.St} {H : Hp} {s : Shared} (I : Inv X pins σ H s) (hx : ∀ e s', CX X.stack H s E e s' → X.xe e s')
    {R : Result → Shared → Prop} (hR : ∀ u s', EP X pins σ Q u s' → R (.ok (.ret u)) s') (hE : ∀ e s', X.xe e s' → R (.error e) s') {z : Result} {s' : Shared} (h : CR CX X.stack X.prog X.w H s Q E z s') : R z s' := by
  match z, h with
  | .error e, h => exact hE e s' (hx e s' h)
  | .ok (.ret u), h => exact hR u s' (I.after h)
  | .ok .next, h => exact h.elim
  | .ok .brk, h => exact h.elim
  | .ok .cont, h => exact h.elim

section
variable {X : Cx} {CX : CXT} {k : Nat} {f C : Addr} {fd : FuncData} {ps : List Str} {sp : Sp} {E : XK} {x m : Str} {p pos apos : Pos} {e o : Expr} {es : List Expr} {ta : TE} {t : TA}
theorem go_fn {pins : List (Addr × Obj)} {σ : L2.St} {H : Hp} {s : Shared} {Q : VK} {us : List Value} {vs : List V} (F : FnG X.prog X.w X.K X.mg X.base CX k f fd ps sp) (gu : X.A.guards = some []) (hr : Room k X.A) (hb : Binds X.K fd ps [])
    (I : Inv X pins σ H s) (hx : ∀ e s', CX X.stack H s E e s' → X.xe e s') (r : Vals vs us) (h : sp vs H Q E) : wpAny (model X.prog X.w) X.A (call (.ref f) us) (EP X pins σ Q) X.xe s := by
  have lu : us.length = ps.length := r.length.symm.trans (F.ln vs H Q E h)
  have bt : BindsTo s fd ⟨us, []⟩ (ps.zip us) := by
    have q := hb s us I.kIn (by rw [List.append_nil]; exact lu)
    rw [List.append_nil] at q
    exact q
  refine wpAny_call (codeAny_mono (F.go X.A X.stack s H ⟨us, []⟩ us vs Q E gu hr I.env0 bt r h) fun z s' hz => ?_)
  exact result_of I hx (R := fun z s' => match z with
    | .ok (.ret u) => EP X pins σ Q u s'
    | .error e => X.xe e s'
    | _ => False) (fun _ _ q => q) (fun _ _ q => q) hz |> fun q => by
      match z, q with
      | .error e, q => exact q
      | .ok (.ret u), q => exact q
/-- f(..); E: what is wanted of an exception, at the caller's slots -/
def tCallG (sp : Sp) (E : L2.St → XK) (t : TA) : TE := fun σ H Q => t σ H fun vs H1 => sp vs H1 Q (E σ)
def tMethG (C : Addr) (m : Str) (sp : Sp) (E : L2.St → XK) (ta : TE) (t : TA) : TE := fun σ H Q =>
  ta σ H fun x H1 => ∃ a dx fs, x = .ref a ∧ H1 a = some (.ins C dx fs) ∧ fs.lookup m = none ∧ t σ H1 fun vs H2 => sp (x :: vs) H2 Q (E σ)
def tMakeG (C : Addr) (sp : Sp) (E : L2.St → XK) (t : TA) : TE := fun σ H Q => t σ H fun vs H1 =>
  ∀ x dx, H1 x = none → H1 dx = none → dx ≠ x → sp (.ref x :: vs) (upd (upd H1 dx (.own x)) x (.ins C dx [])) (fun v H2 => v = .non ∧ Q (.ref x) H2) (E σ)
variable {EE : L2.St → XK}
theorem pe_callG (F : FnG X.prog X.w X.K X.mg X.base CX k f fd ps sp) (gu : X.A.guards = some []) (hr : Room k X.A) (hg : Gl X x) (hm : X.mg x = some (.ref f)) (hk : PySem.W.keepIn X.K (.ref f) = true) (hb : Binds X.K fd ps [])
    (hx : ∀ σ, PassesAt CX X σ (EE σ)) (ha : PA X (e :: es) t) (hdb : (x == ("__debug__" : Str)) = false := by decide)
    (he : starEach (e :: es) X.env = (false, eval e X.env) :: starEach es X.env := by rfl) (hpl : (backTo pos (starEach es X.env)).any (·.1) = false := by rfl) : PE X (.Call (.Name x p) (e :: es) [] pos) (tCallG sp EE t) := by
  constructor
  intro pins s σ H Q I h
  refine wpAny_Call_Name_kw (ld_glob I hg hm (PySem.W.callWith_K (h₀ := X.base) I.ok.mod.kin hk (thn (ha.run pos pins s σ H _ I h) ?_) he hpl) hdb)
  rintro us s1 ⟨vs, H1, I1, r, q⟩
  exact ⟨I1.kIn, go_fn F gu hr hb I1 (fun e s' => hx σ pins H1 s1 e s' I1) r q⟩
theorem pe_call0G (F : FnG X.prog X.w X.K X.mg X.base CX k f fd ps sp) (gu : X.A.guards = some []) (hr : Room k X.A) (hg : Gl X x) (hm : X.mg x = some (.ref f)) (hk : PySem.W.keepIn X.K (.ref f) = true) (hb : Binds X.K fd ps [])
    (hx : ∀ σ, PassesAt CX X σ (EE σ)) (hdb : (x == ("__debug__" : Str)) = false := by decide) : PE X (.Call (.Name x p) [] [] pos) (tCallG sp EE tNil) := by
  constructor
  intro pins s σ H Q I h
  exact wpAny_Call_Name_kw (ld_glob I hg hm (PySem.W.callWith_K0 I.kIn hk (go_fn (us := []) F gu hr hb I (fun e s' => hx σ pins H s e s' I) .nil h)) hdb)
theorem pe_methG {pl : Sem Bool} (he : PE X o ta) (c : Cls X.K C) (hm : Meth X.K C m f) (F : FnG X.prog X.w X.K X.mg X.base CX k f fd ps sp) (gu : X.A.guards = some []) (hr : Room k X.A) (hb : Binds X.K fd ps [])
    (hx : ∀ σ, PassesAt CX X σ (EE σ)) (ha : PA X (e :: es) t)
    (hst : starEach (e :: es) X.env = (false, eval e X.env) :: starEach es X.env := by rfl) (hpl : (backTo pos (starEach es X.env)).any (·.1) = false := by rfl)
    (ht : eval (.Call (.Attribute o m apos) (e :: es) [] pos) X.env = (eval o X.env >>= fun ov => standAt apos.atName >>= fun _ => holding [ov] (getMethod ov m pl) >>= fun z =>
      callWith pos z.1 z.2 (backTo pos (starEach (e :: es) X.env)) (backToKw pos (keywordEach [] X.env))) := by rfl) : PE X (.Call (.Attribute o m apos) (e :: es) [] pos) (tMethG C m sp EE ta t) := by
  constructor
  intro pins s σ H Q I h
  refine PySem.W.methodCall_KW (pl := pl) (thn (he.run pins s σ H _ I h) ?_) ht
  rintro u s1 ⟨x, H1, I1, rx, a, dx, fs, rfl, ea, l, q⟩
  obtain rfl : u = Value.ref a := rx
  refine getmeth_ok I1 ea c hm l (PySem.W.callWith_K (first := [.ref a]) (h₀ := X.base) I.ok.mod.kin hm.kp (thn (ha.run pos pins s1 σ H1 _ I1 q) ?_) hst hpl)
  rintro us s2 ⟨vs, H2, I2, r, q2⟩
  exact ⟨I2.kIn, go_fn (us := .ref a :: us) (vs := .ref a :: vs) F gu hr hb I2 (fun e s' => hx σ pins H2 s2 e s' I2) (.cons rfl r) q2⟩
theorem pe_meth0G {pl : Sem Bool} (he : PE X o ta) (c : Cls X.K C) (hm : Meth X.K C m f) (F : FnG X.prog X.w X.K X.mg X.base CX k f fd ps sp) (gu : X.A.guards = some []) (hr : Room k X.A) (hb : Binds X.K fd ps [])
    (hx : ∀ σ, PassesAt CX X σ (EE σ))
    (ht : eval (.Call (.Attribute o m apos) [] [] pos) X.env = (eval o X.env >>= fun ov => standAt apos.atName >>= fun _ => holding [ov] (getMethod ov m pl) >>= fun z =>
      callWith pos z.1 z.2 (backTo pos (starEach [] X.env)) (backToKw pos (keywordEach [] X.env))) := by rfl) : PE X (.Call (.Attribute o m apos) [] [] pos) (tMethG C m sp EE ta tNil) := by
  constructor
  intro pins s σ H Q I h
  refine PySem.W.methodCall_KW (pl := pl) (thn (he.run pins s σ H _ I h) ?_) ht
  rintro u s1 ⟨x, H1, I1, rx, a, dx, fs, rfl, ea, l, q⟩
  obtain rfl : u = Value.ref a := rx
  exact getmeth_ok I1 ea c hm l (PySem.W.callWith_K0 (first := [.ref a]) I1.kIn hm.kp (go_fn (us := [.ref a]) (vs := [.ref a]) F gu hr hb I1 (fun e s' => hx σ pins H1 s1 e s' I1) (.cons rfl .nil) q))
theorem under_call_guards {A : Around} {C : Addr} {us : List Value} (gu : A.guards = some []) : (A.under (.builtin "type.__call__" ⟨.ref C :: us, []⟩)).guards = some [] := by
  simp [Around.under, Code.guards, Code.isGuard, guardIds, pushGuards, gu]
theorem go_make {pins : List (Addr × Obj)} {σ : L2.St} {H : Hp} {s : Shared} {Q : VK} {E : XK} {us : List Value} {vs : List V} (M : Mk X.K C f) (F : FnG X.prog X.w X.K X.mg X.base CX k f fd ps sp) (gu : X.A.guards = some []) (hr : Room (k + 1) X.A)
    (hb : Binds X.K fd ps []) (I : Inv X pins σ H s) (hx : PassesAt CX X σ E) (r : Vals vs us)
    (h : ∀ x dx, H x = none → H dx = none → dx ≠ x → sp (.ref x :: vs) (upd (upd H dx (.own x)) x (.ins C dx [])) (fun v H2 => v = .non ∧ Q (.ref x) H2) E) :
    wpAny (model X.prog X.w) X.A (call (.ref C) us) (EP X pins σ Q) X.xe s := by
  have q0 := h (s.heap.objs.size + 1) s.heap.objs.size (I.hok.fresh (Nat.le_add_right _ 1)) (I.hok.fresh (Nat.le_refl _)) (Nat.ne_of_lt (Nat.lt_add_one _))
  have J := Inv.made (C := C) I
  have r2 : Vals (V.ref (s.heap.objs.size + 1) :: vs) (Value.ref (s.heap.objs.size + 1) :: us) := .cons rfl r
  have lu : (Value.ref (s.heap.objs.size + 1) :: us).length = ps.length := r2.length.symm.trans (F.ln _ _ _ _ q0)
  have bt := hb _ (Value.ref (s.heap.objs.size + 1) :: us) J.kIn (by rw [List.append_nil]; exact lu)
  rw [List.append_nil] at bt
  refine wpAny_call (make_map (f := f) I.kIn M.makes M.init (beq_iff_eq.mp M.fn) (codeAny_mono (F.go _ X.stack _ _ _ _ _ _ E (under_call_guards gu) (hr.make C us []) (J.env0.make C us []) bt r2 q0) ?_))
  intro z s' hz
  match z, hz with
  | .error e, hz => exact hx pins _ _ e s' J hz
  | .ok (.ret u), hz =>
    obtain ⟨v, H', J3, rv, ev, q3⟩ := J.after hz
    subst ev
    exact ⟨rv, ⟨V.ref (s.heap.objs.size + 1), H', J3, rfl, q3⟩⟩
  | .ok .next, hz => exact hz.elim
  | .ok .brk, hz => exact hz.elim
  | .ok .cont, hz => exact hz.elim
theorem pe_makeG (M : Mk X.K C f) (F : FnG X.prog X.w X.K X.mg X.base CX k f fd ps sp) (gu : X.A.guards = some []) (hr : Room (k + 1) X.A) (hg : Gl X x) (hm : X.mg x = some (.ref C)) (hb : Binds X.K fd ps []) (hx : ∀ σ, PassesAt CX X σ (EE σ))
    (ha : PA X (e :: es) t) (hdb : (x == ("__debug__" : Str)) = false := by decide)
    (he : starEach (e :: es) X.env = (false, eval e X.env) :: starEach es X.env := by rfl) (hpl : (backTo pos (starEach es X.env)).any (·.1) = false := by rfl) : PE X (.Call (.Name x p) (e :: es) [] pos) (tMakeG C sp EE t) := by
  constructor
  intro pins s σ H Q I h
  refine wpAny_Call_Name_kw (ld_glob I hg hm (PySem.W.callWith_K (h₀ := X.base) I.ok.mod.kin M.kp (thn (ha.run pos pins s σ H _ I h) ?_) he hpl) hdb)
  rintro us s1 ⟨vs, H1, I1, r, q⟩
  exact ⟨I1.kIn, go_make M F gu hr hb I1 (hx σ) r q⟩
end

/-- a def by its body, run where no repr is under way -/
theorem okG {CX : CXT} {P : Program} {w : World} {K : PySem.W.Frag} {mg : Str → Option Value} {base : Heap} {k : Nat} {f : Addr} {x qual : Str} {params : Arguments} {body : List Stmt} {scope : Scope} {dvs : List V} {kws : List (Str × V)} {fd : FuncData}
    {N ps : List Str} {sp : Sp} (F : FunD K x qual params body scope dvs kws f fd) (S : FnScope N ps scope) (ln : ∀ vs H Q E, sp vs H Q E → vs.length = ps.length)
    (hb : ∀ (cdv : Value) (A : Around) (ou : List Env) (s : Shared) (H : Hp) (vs : List V) (Q : VK) (E : XK), A.guards = some [] → Room k (A.deeper (envOfC qual scope s.heap.objs.size f cdv)) → sp vs H Q E →
      ∃ t, PSs (cxOf CX P w K mg base N qual scope f cdv A ou s H E) body t ∧ t { nx := fun _ H' => Q .non H', rt := Q } (start N vs) H) : FnG P w K mg base CX (k + 1) f fd ps sp := by
  obtain ⟨oc, od, dV, kV, doc, pm, an, cdv, ct, osl, rfl, lk, hcd, _, _⟩ := F.ex
  constructor
  · exact ln
  intro A ou s H ar us vs Q E gu hr e0 bt r hsp
  have up : ∀ b o, base.get? b = some o → s.heap.get? b = some o := fun b o e => (e0.bs b o e).1
  have KX := e0.mod.kin.keeps up
  have lim := e0.mod.nolimit.keeps up
  have hk : ∀ y ∈ ps.zip us, scope.names.lookup y.1 = some .local ∨ (scope.names.lookup y.1 = some .cell ∧ ((cellsFrom (s.heap.objs.size + 1) scope.names []).lookup y.1).isSome = true) := by
    rintro ⟨n, v⟩ hy
    exact (S.par n (List.of_mem_zip hy).1).imp id fun q => ⟨q, PySem.W.cellsFrom_some _ _ _ (.inl q)⟩
  refine codeAny_call_function hr.depth (KX _ _ lk) rfl S.co S.gen rfl (PySem.W.codeRec_of KX hcd) (bt _ _ _ _ (wpAny_newFunctionEnv_cells S.kind hk ?_))
  intro env he s1 x1
  subst he
  refine ⟨lim.keeps x1.toInCall.keep, codeAny_func ?_⟩
  obtain ⟨t, ht, q⟩ := hb cdv A ou s H vs Q E gu (hr.deeper _) hsp
  have J := inv_start (CX := CX) (P := P) (K := K) (mg := mg) (base := base) (E := E) S hr.hd e0 (ln _ _ _ _ hsp) r x1
  refine wpAny_mono (ht.run [] s1 (start N vs) H _ J q) ?_ fun e s' z => z
  intro fl s' z
  match fl, z with
  | .ret u, ⟨v, σ', H', J2, rv, q2⟩ => exact ⟨v, H', J2.os, J2.bare, J2.base, J2.hok, rv, q2⟩
  | .next, ⟨σ', H', J2, q2⟩ => exact ⟨V.non, H', J2.os, J2.bare, J2.base, J2.hok, rfl, q2⟩
  | .brk, ⟨_, _, _, q2⟩ => exact q2.elim
  | .cont, ⟨_, _, _, q2⟩ => exact q2.elim

/-- the law's call, behind the top -/
theorem callG {P : Program} {w : World} {K : PySem.W.Frag} {mg mb : Str → Option Value} {CX : CXT} {k : Nat} {fa a : Addr} {fd : FuncData} {x : Str} {sp : Sp} {s : Shared} {vs : List Value} {ns : List Int}
    (KX : K.In s.heap) (hns : s.heap.Ns mainGlobals mg) (hb : s.heap.Ns builtinsNs mb) (hbb : ∀ x : Str, x ≠ "__name__" → mb x = bootBuiltins x) (hlim : s.heap.NoLimit) (hg : s.gens = #[])
    (ha : s.heap.get? a = some { cls := .type "list", data := .seq vs.toArray }) (hi : IntsAre vs ns) (hl : ns.length ≤ sizeLine) (hr : Room k callerA)
    (F : ∀ base : Heap, K.In base → base.Ns mainGlobals mg → FnG P w K mg base CX k fa fd [x] sp) (hbind : ∀ (s : Shared) (u : Value), BindsTo s fd ⟨[u], []⟩ [(x, u)])
    (hsp : ∀ H : Hp, SqL K H a (ns.map V.int) → sp [.ref a] H (fun v _ => v = .bl true) fun _ _ _ => False) (hCX : ∀ H e s', CX [] H s (fun _ _ _ => False) e s' → False) :
    codeAny (model P w) callerA (.call (.ref fa) ⟨[.ref a], []⟩) (fun r s' => r = .ok (.ret (.bool true)) ∧ OldK s.heap s'.heap ∧ s'.os = s.os ∧ AllBare s'.gens) s := by
  have rv := vals_ints hi
  have lenV := hi.length
  have main : ∀ H : Hp, SqL K H a (ns.map V.int) → HOk P w H s.heap → (∀ b u, H b = some u → b = a ∧ K.lookup a = none ∧ ∃ o xs, u = .frz o (.lst xs)) →
      codeAny (model P w) callerA (.call (.ref fa) ⟨[.ref a], []⟩) (fun r s' => r = .ok (.ret (.bool true)) ∧ OldK s.heap s'.heap ∧ s'.os = s.os ∧ AllBare s'.gens) s := by
    intro H hS hok only
    have none_of : ∀ {b : Addr} {o : Obj}, s.heap.get? b = some o → (b = a → ∀ es ep, o.data ≠ .dict es ep → False) → H b = none := by
      intro b o e hd
      cases q : H b with
      | none => rfl
      | some u =>
        obtain ⟨rfl, _, _⟩ := only b u q
        rw [ha] at e
        cases e
        exact (hd rfl #[] 0 (fun z => by cases z)).elim
    have nsK : ∀ {b : Addr} {m : Str → Option Value}, s.heap.Ns b m → (hidT s.heap H).Ns b m := by
      rintro b m ⟨o, es, ep, e, d, r⟩
      refine ⟨o, es, ep, hidT_get e ?_, d, r⟩
      cases q : H b with
      | none => rfl
      | some u =>
        obtain ⟨rfl, _, _⟩ := only b u q
        rw [ha] at e
        cases e
        exact absurd d (fun z => by cases z)
    have hKb : K.In (hidT s.heap H) := by
      intro b o e
      refine hidT_get (KX b o e) ?_
      cases q : H b with
      | none => rfl
      | some u =>
        obtain ⟨rfl, h2, _⟩ := only b u q
        rw [h2] at e
        cases e
    have hM : Mod K mg (hidT s.heap H) := ⟨hKb, nsK hns, ⟨mb, nsK hb, hbb⟩, hlim.imp fun _ z => ⟨nsK z.1, z.2⟩⟩
    have e0 : Env0 P w K mg (hidT s.heap H) callerA [] s H := ⟨rfl, hM, fun b o e => of_hidT e, Nat.le_of_eq (hidT_size _ _), trivial, fun b hb => (List.not_mem_nil hb).elim, hok, .of_eq hg⟩
    refine codeAny_mono ((F _ hKb (nsK hns)).go callerA [] s H ⟨[.ref a], []⟩ [.ref a] [.ref a] _ _ rfl hr e0 (hbind s (.ref a)) (.cons rfl .nil) (hsp H hS)) ?_
    intro r s' h
    match r, h with
    | .error e, h => exact (hCX H e s' h).elim
    | .ok .next, h => exact h.elim
    | .ok .brk, h => exact h.elim
    | .ok .cont, h => exact h.elim
    | .ok (.ret u), ⟨v, H', os, bare, un, hok', rv', q⟩ =>
      have q' : v = .bl true := q
      subst q'
      obtain rfl : u = Value.bool true := rv'
      refine ⟨rfl, OldK.of_keep fun b o e => ?_, os, bare⟩
      cases q : H b with
      | none => exact un.keep b o e q (fun z => List.not_mem_nil z) (fun z => List.not_mem_nil z)
      | some u =>
        obtain ⟨_, _, ob, xs, rfl⟩ := only b u q
        have e1 := (hok b _ q).1
        have e2 := (hok' b _ (un.frzs b ob _ q)).1
        rw [e] at e1
        cases e1
        exact e2
  cases hk : K.lookup a with
  | some o =>
    have e := KX a o hk
    rw [ha] at e
    cases e
    exact main (fun _ => none) (.inr ⟨_, vs.toArray, _, hk, rfl, rfl, rfl, by rw [List.size_toArray, lenV]; exact hl, by simpa using rv⟩) (fun b u z => by cases z) fun b u z => by cases z
  | none =>
    obtain ⟨H, hH⟩ : ∃ H : Hp, H = fun b => if b = a then some (.frz { cls := .type "list", data := .seq vs.toArray } (.lst (ns.map V.int))) else none := ⟨_, rfl⟩
    have at_a : H a = some (.frz { cls := .type "list", data := .seq vs.toArray } (.lst (ns.map V.int))) := by
      rw [hH]
      exact if_pos rfl
    have only : ∀ b u, H b = some u → b = a ∧ u = .frz { cls := .type "list", data := .seq vs.toArray } (.lst (ns.map V.int)) := fun b u z => by
      by_cases hb : b = a
      · subst hb
        rw [at_a] at z
        exact ⟨rfl, (Option.some.inj z).symm⟩
      · rw [hH] at z
        have z' := (if_neg hb).symm.trans z
        cases z'
    refine main H (.inl (.inr ⟨_, at_a⟩)) (fun b u z => ?_) fun b u z => ⟨(only b u z).1, hk, _, _, (only b u z).2⟩
    obtain ⟨rfl, rfl⟩ := only b u z
    exact ⟨ha, by rw [List.length_map]; exact hl, vs, _, rv, ha⟩
theorem walkG {l : PySem.W.OpenLaw} {n k : Nat} {q : Program} {loose : List Str} {XP : (Str → Option Value) → Heap → Prop} {YP : World → Heap → Prop} {d : DefRec} {CX : World → CXT} {x : Str}
    (hn : l.most = some n) (hn2 : n ≤ sizeLine) (hdf : d.params.defaults = []) (hr : Room k callerA)
    (F : ∀ (w : World) (mg : Str → Option Value) (fa : Addr) (h : Heap), YP w h → h.Ns mainGlobals mg → mg d.name = some (.ref fa) →
      ∃ (K : PySem.W.Frag) (fd : FuncData) (sp : Sp), K.In h ∧ (∀ (s : Shared) (u : Value), BindsTo s fd ⟨[u], []⟩ [(x, u)]) ∧
        (∀ (H : Hp) (a : Addr) (ns : List Int), ns.length ≤ n → SqL K H a (ns.map V.int) → sp [.ref a] H (fun v _ => v = .bl true) fun _ _ _ => False) ∧ ∀ base : Heap, K.In base → base.Ns mainGlobals mg → FnG l.prog w K mg base (CX w) k fa fd [x] sp)
    (hCX : ∀ (w : World) (H : Hp) (s : Shared) (e : Value) (s' : Shared), CX w [] H s (fun _ _ _ => False) e s' → False) : PySem.W.WalkO q loose XP YP l.row.toRowW d [] (fun f vs => PySem.call f vs) := by
  refine Att.attach_call hn hdf ?_
  intro w s₀ s₁ mg mb fa o pm cd doc a vs ns G Y ho hd hcd hmg hobj hints hlen hg
  obtain ⟨K, fd, sp, KX, hb, hsp, hF⟩ := F w mg fa _ Y G.T.g hmg
  exact callG KX G.T.g G.T.b G.T.builtins G.T.nolimit hg hobj hints (Nat.le_trans hlen hn2) hr hF hb (fun H hS => hsp H a ns hlen hS) fun H e s' => hCX w H s₁ e s'
end AW

/-! AW: data as the library's PyData: ==, repr. -/
namespace AW
open PySem PySem.Spec PyProof.Rows L2 Evl

mutual
def D.py : D → PyData
  | .non => .none
  | .bl b => .bool b
  | .int i => .int i
  | .str x => .str x
  | .tup ds => .tuple (D.pys ds)
  | .lst ds => .list (D.pys ds)
  | .frl ds => .list (D.pys ds)
  | .dK _ _ => .none
  | .dT _ _ => .none
  | .ins _ _ _ => .none
  | .adr _ => .none
def D.pys : List D → List PyData
  | [] => []
  | d :: ds => D.py d :: D.pys ds
end
theorem D.pys_map : ∀ ds : List D, D.pys ds = ds.map D.py
  | [] => rfl
  | d :: ds => by rw [D.pys, D.pys_map ds, List.map_cons]
mutual
def D.plain : D → Bool
  | .non => true
  | .bl _ => true
  | .int _ => true
  | .str _ => true
  | .tup ds => D.plains ds
  | .lst ds => D.plains ds
  | .frl ds => D.plains ds
  | .dK _ _ => false
  | .dT _ _ => false
  | .ins _ _ _ => false
  | .adr _ => false
def D.plains : List D → Bool
  | [] => true
  | d :: ds => D.plain d && D.plains ds
end
theorem D.plains_iff : ∀ {ds : List D}, D.plains ds = true ↔ ∀ d ∈ ds, d.plain = true
  | [] => by simp [D.plains]
  | d :: ds => by simp [D.plains, D.plains_iff (ds := ds)]
@[simp] theorem D.py_non : D.py .non = .none := by simp only [D.py]
@[simp] theorem D.py_bl (b : Bool) : D.py (.bl b) = .bool b := by simp only [D.py]
@[simp] theorem D.py_int (i : Int) : D.py (.int i) = .int i := by simp only [D.py]
@[simp] theorem D.py_str (x : Str) : D.py (.str x) = .str x := by simp only [D.py]
@[simp] theorem D.py_tup (ds : List D) : D.py (.tup ds) = .tuple (ds.map D.py) := by simp only [D.py, D.pys_map]
@[simp] theorem D.py_lst (ds : List D) : D.py (.lst ds) = .list (ds.map D.py) := by simp only [D.py, D.pys_map]
@[simp] theorem D.plain_non : D.plain .non = true := by simp only [D.plain]
@[simp] theorem D.plain_bl (b : Bool) : D.plain (.bl b) = true := by simp only [D.plain]
@[simp] theorem D.plain_int (i : Int) : D.plain (.int i) = true := by simp only [D.plain]
@[simp] theorem D.plain_str (x : Str) : D.plain (.str x) = true := by simp only [D.plain]
@[simp] theorem D.plain_tup (ds : List D) : D.plain (.tup ds) = true ↔ ∀ d ∈ ds, d.plain = true := by rw [D.plain]; exact D.plains_iff
@[simp] theorem D.plain_lst (ds : List D) : D.plain (.lst ds) = true ↔ ∀ d ∈ ds, d.plain = true := by rw [D.plain]; exact D.plains_iff

/-- d, its owned lists read through the table -/
inductive Dv (T : Tb) : D → PyData → Prop
  | p {d : D} : d.plain = true → Dv T d d.py
  | o {j : Nat} {e : Ow} {ds : List D} : T[j]? = some e → e.ob = .lst ds → (∀ d ∈ ds, d.plain = true) → Dv T (.adr e.a) (.list (ds.map D.py))
/-- a list or tuple display of such -/
theorem Dv.own {T : Tb} {a : Addr} {l : Bool} {ds : List D} (j : Nat) (h : T[j]? = some ⟨a, l, .lst ds⟩) (hp : ∀ d ∈ ds, d.plain = true) : Dv T (.adr a) (.list (ds.map D.py)) := .o h rfl hp

section
variable {K : PySem.W.Frag} {E : Ent} {F H : Hp} {ds : Sls} {T : Tb} {σ : L2.St} {v : V} {d d1 d2 : D} {P : PD}
mutual
theorem Is.dp (e : Ex F H) : ∀ {d : D} {v : V}, Is K F v d → d.plain = true → Dp K H v d.py
  | .non, _, .non, _ => by rw [D.py]; exact .non
  | .bl _, _, .bl b, _ => by rw [D.py]; exact .bl b
  | .int _, _, .int i, _ => by rw [D.py]; exact .int i
  | .str _, _, .str x, _ => by rw [D.py]; exact .str x
  | .tup ds, _, .tup h t, p => by
    rw [D.py]
    rw [D.plain] at p
    exact .tup (st_of (e _ _ h)) (IsA.dp e t p)
  | .lst ds, _, .lst h t, p => by
    rw [D.py]
    rw [D.plain] at p
    exact .lst (sq_of (e _ _ h)) (IsA.dp e t p)
  | .frl ds, _, .frl h t, p => by
    rw [D.py]
    rw [D.plain] at p
    exact .lst (ex_l e h) (IsA.dp e t p)
  | .dK _ _, _, _, p => by rw [D.plain] at p; cases p
  | .dT _ _, _, _, p => by rw [D.plain] at p; cases p
  | .ins _ _ _, _, _, p => by rw [D.plain] at p; cases p
  | .adr _, _, _, p => by rw [D.plain] at p; cases p
theorem IsA.dp (e : Ex F H) : ∀ {ds : List D} {vs : List V}, IsA K F vs ds → D.plains ds = true → DpAll K H vs (D.pys ds)
  | [], _, .nil, _ => by rw [D.pys]; exact .nil
  | d :: ds, _, .cons h t, p => by
    rw [D.plains, Bool.and_eq_true] at p
    rw [D.pys]
    exact .cons (Is.dp e h p.1) (IsA.dp e t p.2)
end
theorem Dv.dp {q : PyData} (x : Dv T d q) (ok : Ok K E F ds T σ H) (i : Is K F v d) : Dp K H v q := by
  cases x with
  | p h => exact i.dp ok.p.fh h
  | @o j e xs hj he hp =>
    cases i
    have w := (ok.ow e (List.mem_of_getElem? hj)).o
    rw [he] at w
    obtain ⟨vs, h1, h2⟩ := w
    rw [← D.pys_map]
    exact .lst (sq_of h1) (h2.dp ok.p.fh (D.plains_iff.mpr hp))
end

/-! ### sizes -/
/-- q is shown in few signs: depth at most n, at most k places -/
structure Fit (n k : Nat) (q : PyData) : Prop where
  c : q.canLay0 = true
  d : q.depth ≤ n
  s : q.showable = true
  l : q.leavesShort 24 = true
  b : q.bulk ≤ k
theorem Fit.up {n k n' k' : Nat} {q : PyData} (f : Fit n k q) (h1 : n ≤ n') (h2 : k ≤ k') : Fit n' k' q := ⟨f.c, Nat.le_trans f.d h1, f.s, f.l, Nat.le_trans f.b h2⟩
theorem fit_none : Fit 0 0 .none := ⟨by simp [PyData.canLay0], by simp [PyData.depth], by simp [PyData.showable], by simp [PyData.leavesShort], by simp [PyData.bulk]⟩
theorem fit_bool (b : Bool) : Fit 0 0 (.bool b) := ⟨by simp [PyData.canLay0], by simp [PyData.depth], by simp [PyData.showable], by simp [PyData.leavesShort], by simp [PyData.bulk]⟩
theorem fit_int {i : Int} (h : i.natAbs < 10 ^ 20) : Fit 0 0 (.int i) := by
  refine ⟨by simp [PyData.canLay0], by simp [PyData.depth], ?_, ?_, by simp [PyData.bulk]⟩
  · simp only [PyData.showable, decide_eq_true_eq]
    by_cases h0 : i.natAbs = 0
    · rw [h0]
      decide
    · exact Nat.lt_of_lt_of_le ((Nat.log2_lt h0).mpr (Nat.lt_trans h (by decide : 10 ^ 20 < 2 ^ 67))) (by decide)
  · simp only [PyData.leavesShort, PyData.shown]
    have e := int_text_length_le10 (k := 20) (by decide) h
    refine decide_eq_true ?_
    show (Str.ofString (toString i)).length ≤ 24
    rw [PySem.ofString_length]
    omega
theorem all_fit {n k : Nat} : ∀ {xs : List PyData}, (∀ x ∈ xs, Fit n k x) → PyData.canLayAll0 xs = true ∧ PyData.depthAll xs ≤ n ∧ PyData.showableAll xs = true ∧ PyData.leavesShortAll 24 xs = true ∧ PyData.bulkAll xs ≤ xs.length * (k + 1)
  | [], _ => by simp [PyData.canLayAll0, PyData.depthAll, PyData.showableAll, PyData.leavesShortAll, PyData.bulkAll]
  | x :: xs, h => by
    obtain ⟨a1, a2, a3, a4, a5⟩ := all_fit (xs := xs) fun y hy => h y (List.mem_cons_of_mem _ hy)
    have f := h x (List.mem_cons_self ..)
    refine ⟨by simp [PyData.canLayAll0, f.c, a1], ?_, by simp [PyData.showableAll, f.s, a3], by simp [PyData.leavesShortAll, f.l, a4], ?_⟩
    · simp only [PyData.depthAll]
      have := f.d
      omega
    · simp only [PyData.bulkAll, List.length_cons]
      have := f.b
      rw [Nat.add_mul]
      omega
theorem fit_tuple {n k : Nat} {xs : List PyData} (h : ∀ x ∈ xs, Fit n k x) : Fit (n + 1) (xs.length * (k + 1)) (.tuple xs) := by
  obtain ⟨a1, a2, a3, a4, a5⟩ := all_fit h
  exact ⟨by simp [PyData.canLay0, a1], by simp only [PyData.depth]; omega, by simp [PyData.showable, a3], by simp [PyData.leavesShort, a4], by simp only [PyData.bulk]; exact a5⟩
theorem fit_list {n k : Nat} {xs : List PyData} (h : ∀ x ∈ xs, Fit n k x) : Fit (n + 1) (xs.length * (k + 1)) (.list xs) := by
  obtain ⟨a1, a2, a3, a4, a5⟩ := all_fit h
  exact ⟨by simp [PyData.canLay0, a1], by simp only [PyData.depth]; omega, by simp [PyData.showable, a3], by simp [PyData.leavesShort, a4], by simp only [PyData.bulk]; exact a5⟩
theorem Fit.shown {n k : Nat} {q : PyData} (f : Fit n k q) (h : k ≤ 600000) : q.shown.length ≤ sizeLine := by
  have h1 := PyData.shown_le_bulk 24 (by decide) q f.l
  have h2 := f.b
  have : sizeLine = 16777216 := by decide
  omega
theorem Fit.shaped {n k : Nat} {q : PyData} (f : Fit n k q) (h : n ≤ 60) : SeqAt.shaped q = true := by
  unfold SeqAt.shaped
  rw [f.c, Bool.true_and]
  exact decide_eq_true (by have := f.d; omega)

/-! ### repr -/
def rRepr (K : PySem.W.Frag) : List V → Hp → VK → Prop := fun vs H Q => ∃ v q, vs = [v] ∧ Dp K H v q ∧ q.showable = true ∧ q.canLay0 = true ∧ q.depth ≤ 60 ∧ q.shown.length ≤ sizeLine ∧ Q (.str q.shown) H
theorem call_repr {X : Cx} (gu : X.A.guards = some []) (hu : X.A.units + 64 < cLine) : CallR X (.builtin "repr") (rRepr X.K) := by
  intro pins s σ H xs us Q I r h
  obtain ⟨v, q, rfl, dp, sh, cl, dep, sz, k⟩ := h
  cases r with
  | cons ru rn =>
    cases rn
    rename_i u
    have fin : ∀ (t : Tok) (t' : Nat), EP X pins σ Q (.str q.shown t) { s with toks := t' } := fun t t' => ⟨.str q.shown, H, I.tok _, ⟨t, rfl⟩, k⟩
    obtain ⟨as, rd⟩ := Dp.reads I q v u dp ru
    cases dp with
    | non =>
      cases ru
      have fin' := fin
      simp only [PyData.shown] at fin'
      exact PySem.P.repr_of_none (fin' _ _)
    | bl b =>
      cases ru
      have fin' := fin
      simp only [PyData.shown] at fin'
      exact PySem.P.repr_of_bool (fin' _ _)
    | int i =>
      obtain ⟨t, rfl⟩ := ru
      have fin' := fin
      simp only [PyData.shown] at fin'
      exact PySem.P.repr_of_int (by simpa [PyData.showable] using sh) (fin' _ _)
    | str x =>
      obtain ⟨t, rfl⟩ := ru
      have fin' := fin
      simp only [PyData.shown] at fin' sz
      exact PySem.P.repr_of_str (fin' _ _) sz
    | lst h1 h2 =>
      cases ru
      exact repr_of_reads' rd sh (PyData.noDict_hsm (PyData.hasDict_of_canLay _ cl)) gu (by omega) (fun _ _ z => z) (fun h' u tk hk => ⟨.str _, H, I.kept hk, ⟨u, rfl⟩, k⟩) sz
    | tup h1 h2 =>
      cases ru
      exact repr_of_reads' rd sh (PyData.noDict_hsm (PyData.hasDict_of_canLay _ cl)) gu (by omega) (fun _ _ z => z) (fun h' u tk hk => ⟨.str _, H, I.kept hk, ⟨u, rfl⟩, k⟩) sz
end AW

/-! AW: operators, items, slices, built-ins, methods on data. -/
namespace AW
open PySem PySem.Spec PyProof.Rows L2 Evl

/-! ### unions of rules -/
theorem opr_or {X : Cx} {f : Value → Value → Sem Value} {r r' : R2} (h : OpR X f r) (h' : OpR X f r') : OpR X f (fun x y H Q => r x y H Q ∨ r' x y H Q) :=
  fun pins s σ H x y v u Q I rx ry q => q.elim (h pins s σ H x y v u Q I rx ry) (h' pins s σ H x y v u Q I rx ry)
theorem callr_or {X : Cx} {f : Value} {r r' : List V → Hp → VK → Prop} (h : CallR X f r) (h' : CallR X f r') : CallR X f (fun xs H Q => r xs H Q ∨ r' xs H Q) :=
  fun pins s σ H xs us Q I r q => q.elim (h pins s σ H xs us Q I r) (h' pins s σ H xs us Q I r)
def rStrAdd : R2 := fun x y H Q => ∃ i j, x = .str i ∧ y = .str j ∧ i.length + j.length ≤ sizeLine ∧ Q (.str (i ++ j)) H
def rAdd (K : PySem.W.Frag) : R2 := fun x y H Q => rI0 (fun i j => .int (i + j)) x y H Q ∨ rCatA K x y H Q ∨ rCat x y H Q ∨ rStrAdd x y H Q
def rMul (K : PySem.W.Frag) : R2 := fun x y H Q => rI CMulW (fun i j => .int (i * j)) x y H Q ∨ rRepT K x y H Q ∨ rRep x y H Q
def rInU (K : PySem.W.Frag) : R2 := fun x y H Q => rInD K x y H Q ∨ rIn K false x y H Q
def rNinU (K : PySem.W.Frag) : R2 := fun x y H Q => rNotInD K x y H Q ∨ rIn K true x y H Q
def rEqU (K : PySem.W.Frag) : R2 := fun x y H Q => rEqD K x y H Q ∨ rEq x y H Q
def rNeU (K : PySem.W.Frag) : R2 := fun x y H Q => rNeD K x y H Q ∨ rNe x y H Q
abbrev rSub : R2 := rI0 fun i j => .int (i - j)
abbrev rMod : R2 := rI (fun _ j => 0 < j) fun i j => .int (i % j)
abbrev rDiv : R2 := rI CDiv fun i j => .int (i / j)
abbrev rPow : R2 := rI CPow fun i j => .int (i ^ j.toNat)
abbrev rLt : R2 := rI0 fun i j => .bl (decide (i < j))
abbrev rLe : R2 := rI0 fun i j => .bl (decide (i ≤ j))
abbrev rGt : R2 := rI0 fun i j => .bl (decide (j < i))
abbrev rGe : R2 := rI0 fun i j => .bl (decide (j ≤ i))
abbrev rIsN : R2 := fun x y H Q => y = .non ∧ Q (.bl (decide (x = .non))) H
section
variable {X : Cx}
theorem opAdd : OpR X (binaryOp .Add) (rAdd X.K) := opr_or op_add (opr_or op_catA (opr_or op_cat op_add_str))
theorem opMul : OpR X (binaryOp .Mult) (rMul X.K) := opr_or op_mulW (opr_or op_repT op_rep)
theorem opEq (hu : X.A.units + 64 < cLine) : OpR X (compareOp .Eq) (rEqU X.K) := opr_or (op_eqD hu) op_eq
theorem opNe (hu : X.A.units + 64 < cLine) : OpR X (compareOp .NotEq) (rNeU X.K) := opr_or (op_neD hu) op_ne
theorem opIn (hu : X.A.units + 65 < cLine) : OpR X (compareOp .In) (rInU X.K) := opr_or (op_inD hu) op_in_seq
theorem opNin (hu : X.A.units + 65 < cLine) : OpR X (compareOp .NotIn) (rNinU X.K) := opr_or (op_notInD hu) op_notIn_seq
def rSlU (K : PySem.W.Frag) : V → Option Int → Option Int → Hp → VK → Prop := fun x lo hi H Q => rSlL K x lo hi H Q ∨ rSlA K x lo hi H Q
theorem slU : SlR X (rSlU X.K) := sl_list.or sl_tupA
end

section
variable {K : PySem.W.Frag} {E : Ent} {F H : Hp} {ds : Sls} {T : Tb} {σ : L2.St} {v : V} {d d1 d2 : D} {P : PD} {i j : Int} {xs ys : List D}
theorem atI_is {vs : List V} (h : IsA K F vs xs) (e : atI xs i = some d) : ∃ v, atI vs i = some v ∧ Is K F v d := by
  unfold atI at e ⊢
  rw [h.len]
  cases q : ixN xs.length i with
  | none => rw [q] at e; cases e
  | some k =>
    rw [q] at e
    exact h.get e
theorem atI_of {α : Type} {xs : List α} {k : Nat} {x : α} (h : xs[k]? = some x) : atI xs (k : Int) = some x := by
  unfold atI ixN
  have hk := (List.getElem?_eq_some_iff.mp h).1
  rw [if_pos (by omega), if_pos (by omega)]
  exact h
theorem atI_to {α : Type} {xs : List α} {i : Int} {x : α} (h0 : 0 ≤ i) (h : xs[i.toNat]? = some x) : atI xs i = some x := by
  have := atI_of h
  rwa [Int.toNat_of_nonneg h0] at this
theorem atI_last {α : Type} {xs : List α} {x : α} (h : xs.getLast? = some x) : atI xs (-1) = some x := by
  unfold atI ixN
  have hne : xs ≠ [] := fun z => by rw [z] at h; cases h
  have hl : 0 < xs.length := List.length_pos_iff.mpr hne
  rw [if_neg (by omega), if_pos (by omega)]
  rw [List.getLast?_eq_getElem?] at h
  show xs[(-1 + (xs.length : Int)).toNat]? = some x
  rw [show (-1 + (xs.length : Int)).toNat = xs.length - 1 by omega]
  exact h
/-! ### ints -/
theorem rd_I0 {g : Int → Int → V} {z : D} (hz : ∀ F, Is K F (g i j) z) (p : P z T) : RD K E (rI0 g) T (.int i) (.int j) P := fun F σ ds H v1 v2 Q ok i1 i2 q => by
  cases i1
  cases i2
  exact ⟨i, j, rfl, rfl, q.ret ok p (hz F)⟩
theorem rd_I {C : Int → Int → Prop} {g : Int → Int → V} {z : D} (hc : C i j) (hz : ∀ F, Is K F (g i j) z) (p : P z T) : RD K E (rI C g) T (.int i) (.int j) P := fun F σ ds H v1 v2 Q ok i1 i2 q => by
  cases i1
  cases i2
  exact ⟨i, j, rfl, rfl, hc, q.ret ok p (hz F)⟩
theorem RD.l {r r' : R2} (h : RD K E r T d1 d2 P) : RD K E (fun x y H Q => r x y H Q ∨ r' x y H Q) T d1 d2 P := fun F σ ds H v1 v2 Q ok i1 i2 q => .inl (h F σ ds H v1 v2 Q ok i1 i2 q)
theorem RD.r {r r' : R2} (h : RD K E r' T d1 d2 P) : RD K E (fun x y H Q => r x y H Q ∨ r' x y H Q) T d1 d2 P := fun F σ ds H v1 v2 Q ok i1 i2 q => .inr (h F σ ds H v1 v2 Q ok i1 i2 q)
theorem rd_add (p : P (.int (i + j)) T) : RD K E (rAdd K) T (.int i) (.int j) P := RD.l (rd_I0 (fun _ => .int _) p)
theorem rd_sub (p : P (.int (i - j)) T) : RD K E rSub T (.int i) (.int j) P := rd_I0 (fun _ => .int _) p
theorem rd_mul (hc : CMulW i j) (p : P (.int (i * j)) T) : RD K E (rMul K) T (.int i) (.int j) P := RD.l (rd_I hc (fun _ => .int _) p)
theorem rd_mod (hc : 0 < j) (p : P (.int (i % j)) T) : RD K E rMod T (.int i) (.int j) P := rd_I hc (fun _ => .int _) p
theorem rd_div (hc : CDiv i j) (p : P (.int (i / j)) T) : RD K E rDiv T (.int i) (.int j) P := rd_I hc (fun _ => .int _) p
theorem rd_pow (hc : CPow i j) (p : P (.int (i ^ j.toNat)) T) : RD K E rPow T (.int i) (.int j) P := rd_I hc (fun _ => .int _) p
theorem rd_lt (p : P (.bl (decide (i < j))) T) : RD K E rLt T (.int i) (.int j) P := rd_I0 (fun _ => .bl _) p
theorem rd_le (p : P (.bl (decide (i ≤ j))) T) : RD K E rLe T (.int i) (.int j) P := rd_I0 (fun _ => .bl _) p
theorem rd_gt (p : P (.bl (decide (j < i))) T) : RD K E rGt T (.int i) (.int j) P := rd_I0 (fun _ => .bl _) p
theorem rd_ge (p : P (.bl (decide (j ≤ i))) T) : RD K E rGe T (.int i) (.int j) P := rd_I0 (fun _ => .bl _) p
theorem ru_neg (p : P (.int (-i)) T) : RU K E (rU fun i => .int (-i)) T (.int i) P := fun F σ ds H v1 Q ok i1 q => by
  cases i1
  exact ⟨i, rfl, q.ret ok p (.int _)⟩
theorem rd_isN (hd : d ≠ .non) (p : P (.bl false) T) : RD K E rIsN T d .non P := fun F σ ds H v1 v2 Q ok i1 i2 q => by
  cases i2
  refine ⟨rfl, ?_⟩
  have : decide (v1 = .non) = false := decide_eq_false fun z => by
    subst z
    cases i1
    exact hd rfl
  rw [this]
  exact q.ret ok p (.bl _)
theorem rd_isNN (p : P (.bl true) T) : RD K E rIsN T .non .non P := fun F σ ds H v1 v2 Q ok i1 i2 q => by
  cases i2
  cases i1
  exact ⟨rfl, q.ret ok p (.bl _)⟩
/-! ### ==, in on data -/
theorem rd_eq {a b : PyData} (h1 : Dv T d1 a) (h2 : Dv T d2 b) (s1 : SeqAt.shaped a = true) (s2 : SeqAt.shaped b = true) (p : P (.bl (PyData.eqv a b)) T) : RD K E (rEqU K) T d1 d2 P := RD.l fun F σ ds H v1 v2 Q ok i1 i2 q =>
  ⟨a, b, h1.dp ok i1, h2.dp ok i2, s1, s2, q.ret ok p (.bl _)⟩
theorem rd_ne {a b : PyData} (h1 : Dv T d1 a) (h2 : Dv T d2 b) (s1 : SeqAt.shaped a = true) (s2 : SeqAt.shaped b = true) (p : P (.bl (!PyData.eqv a b)) T) : RD K E (rNeU K) T d1 d2 P := RD.l fun F σ ds H v1 v2 Q ok i1 i2 q =>
  ⟨a, b, h1.dp ok i1, h2.dp ok i2, s1, s2, q.ret ok p (.bl _)⟩
theorem eqv_int (i j : Int) : PyData.eqv (.int i) (.int j) = decide (i = j) := by
  simp only [PyData.eqv]
  by_cases h : i = j
  · subst h; simp
  · rw [decide_eq_false h]
    exact beq_eq_false_iff_ne.mpr h
theorem shaped_int (i : Int) : SeqAt.shaped (.int i) = true := by simp [SeqAt.shaped, PyData.canLay0, PyData.depth]
theorem rd_eqI (p : P (.bl (decide (i = j))) T) : RD K E (rEqU K) T (.int i) (.int j) P := by
  have h : ∀ i : Int, Dv T (.int i) (.int i) := fun i => by
    have := Dv.p (T := T) (d := .int i) (by simp)
    rwa [D.py_int] at this
  refine rd_eq (h i) (h j) (shaped_int i) (shaped_int j) ?_
  rw [eqv_int]
  exact p
theorem rd_neI (p : P (.bl (!decide (i = j))) T) : RD K E (rNeU K) T (.int i) (.int j) P := by
  have h : ∀ i : Int, Dv T (.int i) (.int i) := fun i => by
    have := Dv.p (T := T) (d := .int i) (by simp)
    rwa [D.py_int] at this
  refine rd_ne (h i) (h j) (shaped_int i) (shaped_int j) ?_
  rw [eqv_int]
  exact p
/-- a text and itself -/
theorem rd_eqS {x : Str} (p : P (.bl true) T) : RD K E (rEqU K) T (.str x) (.str x) P := RD.r fun F σ ds H v1 v2 Q ok i1 i2 q => by
  cases i1
  cases i2
  refine ⟨rfl, ?_⟩
  rw [decide_eq_true rfl]
  exact q.ret ok p (.bl _)
theorem rd_in {a : PyData} {bs : List PyData} (h1 : Dv T d1 a) (h2 : Dv T d2 (.list bs)) (s1 : SeqAt.shaped a = true) (s2 : SeqAt.shaped (.list bs) = true) (p : P (.bl (bs.any fun z => PyData.eqv z a)) T) : RD K E (rInU K) T d1 d2 P :=
  RD.l fun F σ ds H v1 v2 Q ok i1 i2 q => ⟨a, bs, h1.dp ok i1, h2.dp ok i2, s1, s2, q.ret ok p (.bl _)⟩
theorem rd_nin {a : PyData} {bs : List PyData} (h1 : Dv T d1 a) (h2 : Dv T d2 (.list bs)) (s1 : SeqAt.shaped a = true) (s2 : SeqAt.shaped (.list bs) = true) (p : P (.bl (!bs.any fun z => PyData.eqv z a)) T) : RD K E (rNinU K) T d1 d2 P :=
  RD.l fun F σ ds H v1 v2 Q ok i1 i2 q => ⟨a, bs, h1.dp ok i1, h2.dp ok i2, s1, s2, q.ret ok p (.bl _)⟩
/-- x in a list of ints -/
theorem any_int (i : Int) (ns : List Int) : ((ns.map PyData.int).any fun z => PyData.eqv z (.int i)) = decide (i ∈ ns) := by
  induction ns with
  | nil => rfl
  | cons n ns ih =>
    rw [List.map_cons, List.any_cons, ih, eqv_int]
    by_cases h : n = i
    · subst h; simp
    · simp [h, show ¬ i = n from fun z => h z.symm]
theorem shaped_ints (ns : List Int) : SeqAt.shaped (.list (ns.map PyData.int)) = true := by
  have h := all_fit (n := 0) (k := 0) (xs := []) (by simp)
  have : ∀ ns : List Int, PyData.canLayAll0 (ns.map PyData.int) = true ∧ PyData.depthAll (ns.map PyData.int) = 0 := fun ns => by
    induction ns with
    | nil => simp [PyData.canLayAll0, PyData.depthAll]
    | cons n ns ih => simp [PyData.canLayAll0, PyData.depthAll, PyData.canLay0, PyData.depth, ih.1, ih.2]
  simp [SeqAt.shaped, PyData.canLay0, PyData.depth, (this ns).1, (this ns).2]
theorem dv_int (i : Int) : Dv T (.int i) (.int i) := by
  have := Dv.p (T := T) (d := .int i) (by simp)
  rwa [D.py_int] at this
theorem map_py_int (ns : List Int) : (ns.map D.int).map D.py = ns.map PyData.int := by
  rw [List.map_map]
  exact List.map_congr_left fun x _ => by simp
theorem dv_of_lv {d : D} {xs : List D} (l : LV T d xs) (hp : ∀ x ∈ xs, x.plain = true) : Dv T d (.list (xs.map D.py)) := by
  cases l with
  | f =>
    have := Dv.p (T := T) (d := .lst xs) (by rw [D.plain_lst]; exact hp)
    rwa [D.py_lst] at this
  | r =>
    have := Dv.p (T := T) (d := .frl xs) (by rw [D.plain]; exact D.plains_iff.mpr hp)
    rwa [D.py, D.pys_map] at this
  | o h1 h2 => exact .o h1 h2 hp
theorem rd_inI {ns : List Int} (l : LV T d2 (ns.map D.int)) (p : P (.bl (decide (i ∈ ns))) T) : RD K E (rInU K) T (.int i) d2 P := by
  have h := dv_of_lv l (fun x hx => by obtain ⟨n, _, rfl⟩ := List.mem_map.mp hx; simp)
  rw [map_py_int] at h
  refine rd_in (dv_int i) h (shaped_int i) (shaped_ints ns) ?_
  rw [any_int]
  exact p
theorem rd_ninI {ns : List Int} (l : LV T d2 (ns.map D.int)) (p : P (.bl (!decide (i ∈ ns))) T) : RD K E (rNinU K) T (.int i) d2 P := by
  have h := dv_of_lv l (fun x hx => by obtain ⟨n, _, rfl⟩ := List.mem_map.mp hx; simp)
  rw [map_py_int] at h
  refine rd_nin (dv_int i) h (shaped_int i) (shaped_ints ns) ?_
  rw [any_int]
  exact p
/-! ### +, * of lists and tuples -/
theorem rd_catT (hl : xs.length + ys.length ≤ 100000) (p : P (.tup (xs ++ ys)) T) : RD K E (rAdd K) T (.tup xs) (.tup ys) P := RD.r (RD.l fun F σ ds H v1 v2 Q ok i1 i2 q => by
  obtain ⟨a, vs, rfl, h1, t1⟩ := i1.tupT
  obtain ⟨b, ws, rfl, h2, t2⟩ := i2.tupT
  refine ⟨a, b, vs, ws, rfl, rfl, st_of (ok.p.fh _ _ h1), st_of (ok.p.fh _ _ h2), by rw [t1.len, t2.len]; exact sz_of hl, fun e => ?_, fun _ e => ?_, fun _ _ pp hp => ?_⟩
  · subst e
    cases t1
    exact q.ret ok p (.tup h2 t2)
  · subst e
    cases t2
    refine q.ret ok p (.tup h1 ?_)
    rw [List.append_nil]
    exact t1
  · exact q.newF' ok hp p fun e => .tup upd_same ((t1.append t2).mono e))
theorem rd_catL (l1 : LW T d1 xs) (l2 : LW T d2 ys) (hl : xs.length + ys.length ≤ 100000) (p : P (.lst (xs ++ ys)) T) : RD K E (rAdd K) T d1 d2 P := RD.r (RD.r (RD.l fun F σ ds H v1 v2 Q ok i1 i2 q => by
  obtain ⟨a, vs, rfl, h1, t1⟩ := l1.trk ok i1
  obtain ⟨b, ws, rfl, h2, t2⟩ := l2.trk ok i2
  exact ⟨a, b, vs, ws, rfl, rfl, h1, h2, by rw [t1.len, t2.len]; exact sz_of hl, fun pp hp => q.newF' ok hp p fun e => .lst upd_same ((t1.append t2).mono e)⟩))
theorem rd_catLO (l1 : LW T d1 xs) (l2 : LW T d2 ys) (hl : xs.length + ys.length ≤ 100000) (p : ∀ a, P (.adr a) (⟨a, true, .lst (xs ++ ys)⟩ :: T)) : RD K E (rAdd K) T d1 d2 P := RD.r (RD.r (RD.l fun F σ ds H v1 v2 Q ok i1 i2 q => by
  obtain ⟨a, vs, rfl, h1, t1⟩ := l1.trk ok i1
  obtain ⟨b, ws, rfl, h2, t2⟩ := l2.trk ok i2
  exact ⟨a, b, vs, ws, rfl, rfl, h1, h2, by rw [t1.len, t2.len]; exact sz_of hl, fun pp hp => q.newO ok hp (p pp) ⟨vs ++ ws, upd_same, t1.append t2⟩⟩))
/-! ### items, slices -/
theorem rd_ixL (l : LV T d1 xs) (e : atI xs i = some d) (p : P d T) : RD K E (rIx K) T d1 (.int i) P := fun F σ ds H v1 v2 Q ok i1 i2 q => by
  obtain ⟨a, vs, rfl, h1, t1⟩ := l.sq ok i1
  cases i2
  obtain ⟨v, e1, iv⟩ := atI_is t1 e
  exact .inl ⟨a, vs, i, v, rfl, rfl, h1, e1, q.ret ok p iv⟩
theorem rd_ixT (e : atI xs i = some d) (p : P d T) : RD K E (rIx K) T (.tup xs) (.int i) P := fun F σ ds H v1 v2 Q ok i1 i2 q => by
  obtain ⟨a, vs, rfl, h1, t1⟩ := i1.tupE
  cases i2
  obtain ⟨v, e1, iv⟩ := atI_is t1 e
  exact .inr (.inl ⟨a, vs, i, v, rfl, rfl, ex_t ok.p.fh h1, e1, q.ret ok p iv⟩)
def cutX {α : Type} (xs : List α) (lo hi : Option Int) : List α := (xs.drop (HT.sIx xs.length 0 lo)).take (HT.sIx xs.length xs.length hi - HT.sIx xs.length 0 lo)
theorem cut_is {vs : List V} (h : IsA K F vs xs) (lo hi : Option Int) : IsA K F (cutV vs lo hi) (cutX xs lo hi) := by
  unfold cutV cutX
  rw [h.len]
  exact (h.drop _).take _
theorem rs_L {lo hi : Option Int} (l : LV T d xs) (p : P (.lst (cutX xs lo hi)) T) : RS K E (rSlU K) T d lo hi P := fun F σ ds H v Q ok i q => by
  obtain ⟨a, vs, rfl, h1, t1⟩ := l.sq ok i
  exact .inl ⟨a, vs, rfl, h1, fun pp hp => q.newF' ok hp p fun e => .lst upd_same ((cut_is t1 lo hi).mono e)⟩
theorem rs_LO {lo hi : Option Int} (l : LV T d xs) (p : ∀ a, P (.adr a) (⟨a, true, .lst (cutX xs lo hi)⟩ :: T)) : RS K E (rSlU K) T d lo hi P := fun F σ ds H v Q ok i q => by
  obtain ⟨a, vs, rfl, h1, t1⟩ := l.sq ok i
  exact .inl ⟨a, vs, rfl, h1, fun pp hp => q.newO ok hp (p pp) ⟨_, upd_same, cut_is t1 lo hi⟩⟩
theorem rs_T {lo hi : Option Int} (p : P (.tup (cutX xs lo hi)) T) : RS K E (rSlU K) T (.tup xs) lo hi P := fun F σ ds H v Q ok i q => by
  obtain ⟨a, vs, rfl, h1, t1⟩ := i.tupT
  refine .inr ⟨a, vs, rfl, st_of (ok.p.fh _ _ h1), fun hw => ?_, fun _ pp hp => q.newF' ok hp p fun e => .tup upd_same ((cut_is t1 lo hi).mono e)⟩
  have e : cutX xs lo hi = xs := by
    unfold cutX
    rw [t1.len] at hw
    rw [hw.1, hw.2, List.drop_zero, Nat.sub_zero, List.take_length]
  rw [e] at p
  exact q.ret ok p (.tup h1 t1)
def AO (K : PySem.W.Frag) (E : Ent) (to : TO) (ds : Sls) (T : Tb) (P : Option Int → Tb → Prop) : Prop :=
  ∀ F σ H (Q : Option Int → Hp → Prop), Ok K E F ds T σ H → (∀ b T' F' H', P b T' → Ok K E F' ds T' σ H' → Fr T F H T' F' H' → (∀ x o, H x = some o → ∃ o', H' x = some o') → Q b H') → to σ H Q
variable {te ta tb : TE} {tr : TA}
theorem ao_none {P : Option Int → Tb → Prop} (p : P none T) : AO K E tNoPart ds T P := fun F σ H Q ok q => q none T F H p ok (Fr.refl T F H) id_al
theorem ao_some {P : Option Int → Tb → Prop} (h : AE K E te ds T fun d T' => ∃ i, d = .int i ∧ P (some i) T') : AO K E (tPart te) ds T P := fun F σ H Q ok q =>
  h F σ H _ ok fun v d T1 F1 H1 ⟨i, hd, h1⟩ ok1 fr1 al1 iv => by
    subst hd
    cases iv
    exact ⟨i, rfl, q (some i) T1 F1 H1 h1 ok1 fr1 al1⟩
theorem ae_sl {r : V → Option Int → Option Int → Hp → VK → Prop} {tl th : TO} (h : AE K E te ds T fun d T1 => AO K E tl ds T1 fun lo T2 => AO K E th ds T2 fun hi T3 => RS K E r T3 d lo hi P) : AE K E (tSl r te tl th) ds T P := fun F σ H Q ok q =>
  h F σ H _ ok fun v d T1 F1 H1 p1 ok1 fr1 al1 i => p1 F1 σ H1 _ ok1 fun lo T2 F2 H2 p2 ok2 fr2 al2 => p2 F2 σ H2 _ ok2 fun hi T3 F3 H3 p3 ok3 fr3 al3 =>
    p3 F3 σ ds H3 v Q ok3 (i.mono (fr2.ff.trans fr3.ff)) (((q.step fr1 al1).step fr2 al2).step fr3 al3)
theorem ae_revL (h : AE K E te ds T fun d T1 => ∃ xs, LV T1 d xs ∧ P (.lst xs.reverse) T1) : AE K E (tRevL K te) ds T P := fun F σ H Q ok q =>
  h F σ H _ ok fun v d T1 F1 H1 ⟨xs, l, p⟩ ok1 fr1 al1 i => by
    obtain ⟨a, vs, rfl, h1, t1⟩ := l.sq ok1 i
    exact ⟨a, vs, rfl, h1, fun pp hp => (q.step fr1 al1).newF' ok1 hp p fun e => .lst upd_same (t1.reverse.mono e)⟩
theorem ae_revLO (h : AE K E te ds T fun d T1 => ∃ xs, LV T1 d xs ∧ ∀ a, P (.adr a) (⟨a, true, .lst xs.reverse⟩ :: T1)) : AE K E (tRevL K te) ds T P := fun F σ H Q ok q =>
  h F σ H _ ok fun v d T1 F1 H1 ⟨xs, l, p⟩ ok1 fr1 al1 i => by
    obtain ⟨a, vs, rfl, h1, t1⟩ := l.sq ok1 i
    exact ⟨a, vs, rfl, h1, fun pp hp => (q.step fr1 al1).newO ok1 hp (p pp) ⟨_, upd_same, t1.reverse⟩⟩
/-! ### built-ins -/
abbrev rLenU (K : PySem.W.Frag) : List V → Hp → VK → Prop := fun xs H Q => ∃ p ys, xs = [.ref p] ∧ (SqL K H p ys ∨ SqT K H p ys) ∧ Q (.int ys.length) H
theorem rc_lenL (l : LV T d xs) (p : P (.int xs.length) T) : RC K E (rLenU K) T [d] P := fun F σ ds H vs Q ok i q => by
  cases i with
  | cons i t =>
    cases t
    obtain ⟨a, vs, rfl, h1, t1⟩ := l.sq ok i
    refine ⟨a, vs, rfl, .inl h1, ?_⟩
    rw [t1.len]
    exact q.ret ok p (.int _)
theorem rc_lenT (p : P (.int xs.length) T) : RC K E (rLenU K) T [.tup xs] P := fun F σ ds H vs Q ok i q => by
  cases i with
  | cons i t =>
    cases t
    obtain ⟨a, vs, rfl, h1, t1⟩ := i.tupE
    refine ⟨a, vs, rfl, .inr (ex_t ok.p.fh h1), ?_⟩
    rw [t1.len]
    exact q.ret ok p (.int _)
abbrev rListU (K : PySem.W.Frag) : List V → Hp → VK → Prop := fun xs H Q => ∃ p ys, xs = [.ref p] ∧ (SqL K H p ys ∨ SqT K H p ys) ∧ ∀ l, H l = none → Q (.ref l) (upd H l (.lst ys))
theorem rc_listL (l : LV T d xs) (p : P (.lst xs) T) : RC K E (rListU K) T [d] P := fun F σ ds H vs Q ok i q => by
  cases i with
  | cons i t =>
    cases t
    obtain ⟨a, vs, rfl, h1, t1⟩ := l.sq ok i
    exact ⟨a, vs, rfl, .inl h1, fun pp hp => q.newF' ok hp p fun e => .lst upd_same (t1.mono e)⟩
theorem rc_listLO (l : LV T d xs) (p : ∀ a, P (.adr a) (⟨a, true, .lst xs⟩ :: T)) : RC K E (rListU K) T [d] P := fun F σ ds H vs Q ok i q => by
  cases i with
  | cons i t =>
    cases t
    obtain ⟨a, vs, rfl, h1, t1⟩ := l.sq ok i
    exact ⟨a, vs, rfl, .inl h1, fun pp hp => q.newO ok hp (p pp) ⟨_, upd_same, t1⟩⟩
abbrev rTupleU (K : PySem.W.Frag) : List V → Hp → VK → Prop := fun xs H Q => ∃ p ys, xs = [.ref p] ∧ ((SqL K H p ys ∧ ∀ l, H l = none → Q (.ref l) (upd H l (.tup ys))) ∨ (SqT K H p ys ∧ Q (.ref p) H))
theorem rc_tupL (l : LV T d xs) (p : P (.tup xs) T) : RC K E (rTupleU K) T [d] P := fun F σ ds H vs Q ok i q => by
  cases i with
  | cons i t =>
    cases t
    obtain ⟨a, vs, rfl, h1, t1⟩ := l.sq ok i
    exact ⟨a, vs, rfl, .inl ⟨h1, fun pp hp => q.newF' ok hp p fun e => .tup upd_same (t1.mono e)⟩⟩
abbrev rMin2 : List V → Hp → VK → Prop := fun xs H Q => ∃ i j, xs = [.int i, .int j] ∧ Q (.int (if j < i then j else i)) H
theorem rc_min2 (p : P (.int (min i j)) T) : RC K E rMin2 T [.int i, .int j] P := fun F σ ds H vs Q ok h q => by
  cases h with
  | cons h1 t =>
    cases h1
    cases t with
    | cons h2 t =>
      cases h2
      cases t
      refine ⟨i, j, rfl, ?_⟩
      have e : (if j < i then j else i) = min i j := by
        by_cases z : j < i
        · rw [if_pos z]; omega
        · rw [if_neg z]; omega
      rw [e]
      exact q.ret ok p (.int _)
abbrev rAbs : List V → Hp → VK → Prop := fun xs H Q => ∃ i, xs = [.int i] ∧ Q (.int (if i < 0 then -i else i)) H
theorem rc_abs (p : P (.int (i.natAbs : Int)) T) : RC K E rAbs T [.int i] P := fun F σ ds H vs Q ok h q => by
  cases h with
  | cons h1 t =>
    cases h1
    cases t
    refine ⟨i, rfl, ?_⟩
    have e : (if i < 0 then -i else i) = (i.natAbs : Int) := by
      by_cases z : i < 0
      · rw [if_pos z]; omega
      · rw [if_neg z]; omega
    rw [e]
    exact q.ret ok p (.int _)
abbrev rInt1 : List V → Hp → VK → Prop := fun xs H Q => (∃ i, xs = [.int i] ∧ Q (.int i) H) ∨ ∃ k, xs = [.bl k] ∧ Q (.int (if k then 1 else 0)) H
theorem rc_int (p : P (.int i) T) : RC K E rInt1 T [.int i] P := fun F σ ds H vs Q ok h q => by
  cases h with
  | cons h1 t =>
    cases h1
    cases t
    exact .inl ⟨i, rfl, q.ret ok p (.int _)⟩
theorem rc_intB {b : Bool} (p : P (.int (if b then 1 else 0)) T) : RC K E rInt1 T [.bl b] P := fun F σ ds H vs Q ok h q => by
  cases h with
  | cons h1 t =>
    cases h1
    cases t
    exact .inr ⟨b, rfl, q.ret ok p (.int _)⟩
theorem rc_repr {a : PyData} (hv : Dv T d a) (sh : a.showable = true) (cl : a.canLay0 = true) (dep : a.depth ≤ 60) (sz : a.shown.length ≤ sizeLine) (p : P (.str a.shown) T) : RC K E (rRepr K) T [d] P := fun F σ ds H vs Q ok h q => by
  cases h with
  | cons h1 t =>
    cases t
    exact ⟨_, a, rfl, hv.dp ok h1, sh, cl, dep, sz, q.ret ok p (.str _)⟩
/-! ### methods -/
def TyL (T : Tb) (d : D) : Prop := ∃ xs, LV T d xs
theorem ty_list (l : LV T d xs) (ok : Ok K E F ds T σ H) (i : Is K F v d) : tyV K "list" v H := by
  obtain ⟨a, vs, rfl, h1, t1⟩ := l.sq ok i
  exact .inl ⟨rfl, vs, h1⟩
theorem ae_bmL {r : V → List V → Hp → VK → Prop} (h : AE K E ta ds T fun d T1 => (∃ xs, LV T1 d xs) ∧ AA K E tr ds T1 fun dd T2 => RM K E r T2 d dd P) : AE K E (tBM K "list" r ta tr) ds T P := fun F σ H Q ok q =>
  h F σ H _ ok fun v d T1 F1 H1 ⟨⟨xs, l⟩, p1⟩ ok1 fr1 al1 i => ⟨ty_list l ok1 i, p1 F1 σ H1 _ ok1 fun vs dd T2 F2 H2 p2 ok2 fr2 al2 i2 => p2 F2 σ ds H2 v vs Q ok2 (i.mono fr2.ff) i2 ((q.step fr1 al1).step fr2 al2)⟩
theorem ae_bm0L {r : V → List V → Hp → VK → Prop} (h : AE K E ta ds T fun d T1 => (∃ xs, LV T1 d xs) ∧ RM K E r T1 d [] P) : AE K E (tBM0 K "list" r ta) ds T P := fun F σ H Q ok q =>
  h F σ H _ ok fun v d T1 F1 H1 ⟨⟨xs, l⟩, p1⟩ ok1 fr1 al1 i => ⟨ty_list l ok1 i, p1 F1 σ ds H1 v [] Q ok1 i .nil (q.step fr1 al1)⟩
theorem Ok.lst_at {j : Nat} {a : Addr} {l : Bool} (ok : Ok K E F ds T σ H) (hj : T[j]? = some ⟨a, l, .lst xs⟩) : ∃ vs, H a = some (.lst vs) ∧ IsA K F vs xs := (ok.ow _ (List.mem_of_getElem? hj)).o
theorem rm_append {a : Addr} {l : Bool} (j : Nat) (hj : T[j]? = some ⟨a, l, .lst xs⟩) (hl : xs.length < 100000) (p : P .non (T.set j ⟨a, l, .lst (xs ++ [d])⟩)) : RM K E rAppend T (.adr a) [d] P := fun F σ ds H v vs Q ok i is q => by
  cases i
  cases is with
  | cons i1 t =>
    cases t
    obtain ⟨ws, h1, t1⟩ := ok.lst_at hj
    exact ⟨a, ws, _, rfl, rfl, h1, by rw [t1.len]; exact sz_lt hl, q.mut ok hj p ⟨_, upd_same, t1.append (.one i1)⟩ .non⟩
theorem rm_pop {a : Addr} {l : Bool} (j : Nat) (hj : T[j]? = some ⟨a, l, .lst xs⟩) (hl : xs.getLast? = some d) (p : P d (T.set j ⟨a, l, .lst xs.dropLast⟩)) : RM K E rPop T (.adr a) [] P := fun F σ ds H v vs Q ok i is q => by
  cases i
  cases is
  obtain ⟨ws, h1, t1⟩ := ok.lst_at hj
  rw [List.getLast?_eq_getElem?] at hl
  obtain ⟨w, e, iw⟩ := t1.get hl
  exact ⟨a, ws, w, rfl, rfl, h1, by rw [t1.len]; exact e, q.mut ok hj p ⟨_, upd_same, t1.dropLast⟩ iw⟩
theorem rm_reverse {a : Addr} {l : Bool} (j : Nat) (hj : T[j]? = some ⟨a, l, .lst xs⟩) (p : P .non (T.set j ⟨a, l, .lst xs.reverse⟩)) : RM K E rReverse T (.adr a) [] P := fun F σ ds H v vs Q ok i is q => by
  cases i
  cases is
  obtain ⟨ws, h1, t1⟩ := ok.lst_at hj
  exact ⟨a, ws, rfl, rfl, h1, q.mut ok hj p ⟨_, upd_same, t1.reverse⟩ .non⟩
/-! ### fields -/
/-- the field f of a frozen or owned instance -/
inductive FV (T : Tb) (f : Str) (d' : D) : D → Addr → Prop
  | f {C : Addr} {ns : List Str} {xs : List D} : (ns.zip xs).lookup f = some d' → FV T f d' (.ins C ns xs) C
  | o {j : Nat} {e : Ow} {C : Addr} {ns : List Str} {xs : List D} : T[j]? = some e → e.ob = .ins C ns xs → (ns.zip xs).lookup f = some d' → FV T f d' (.adr e.a) C
theorem lookup_is {ns : List Str} {f : Str} : ∀ {ns : List Str} {vs : List V} {xs : List D}, IsA K F vs xs → (ns.zip xs).lookup f = some d → ∃ v, (ns.zip vs).lookup f = some v ∧ Is K F v d
  | [], _, _, _, h => by simp at h
  | n :: ns, _, _, .nil, h => by simp at h
  | n :: ns, _, _, .cons (v := v) (d := d) i t, h => by
    rw [List.zip_cons_cons, List.lookup_cons] at h ⊢
    cases q : f == n with
    | true =>
      rw [q] at h
      cases h
      exact ⟨v, rfl, i⟩
    | false =>
      rw [q] at h
      exact lookup_is (ns := ns) t h
theorem ae_fld {f : Str} {C : Addr} (cl : Cls K C) (na : NoAttr K C f) (h : AE K E ta ds T fun d T1 => ∃ d', FV T1 f d' d C ∧ P d' T1) : AE K E (tFld K ta f) ds T P := fun F σ H Q ok q =>
  h F σ H _ ok fun v d T1 F1 H1 ⟨d', fv, p⟩ ok1 fr1 al1 i => by
    cases fv with
    | f hl =>
      cases i with
      | ins h1 h2 t =>
        obtain ⟨w, e, iw⟩ := lookup_is (ns := []) t hl
        exact ⟨_, _, _, _, w, rfl, ok1.p.fh _ _ h1, cl, na, e, (q.step fr1 al1).ret ok1 p iw⟩
    | @o j e _ ns xs hj he hl =>
      cases i
      have w := (ok1.ow e (List.mem_of_getElem? hj)).o
      rw [he] at w
      obtain ⟨dx, vs, h1, h2, t⟩ := w
      obtain ⟨w, e, iw⟩ := lookup_is (ns := []) t hl
      exact ⟨_, _, _, _, w, rfl, h1, cl, na, e, (q.step fr1 al1).ret ok1 p iw⟩
end
end AW

/-! AW: targets, statements, loops, comprehensions. -/
namespace AW
open PySem PySem.Spec PyProof.Rows L2 Evl

abbrev PS2 := Sls → Tb → Prop
section
variable {K : PySem.W.Frag} {E : Ent} {F H : Hp} {ds : Sls} {T : Tb} {σ : L2.St} {v : V} {d : D} {P : PD} {te tl : TE} {ta : TA} {t u tb : TS} {tt : TT} {g : TG} {gs : TGs} {N B C : PS2} {R : PD}

/-! ### targets: slots of is are stored -/
def Off (is : List Nat) (σ σ' : L2.St) : Prop := σ'.length = σ.length ∧ ∀ i, i ∉ is → σ'[i]? = σ[i]?
def AG (K : PySem.W.Frag) (E : Ent) (is : List Nat) (g : TG) (ds : Sls) (T : Tb) (d : D) (N : PS2) : Prop :=
  ∀ F σ H v (Q : L2.St → Hp → Prop), Ok K E F ds T σ H → Is K F v d → (∀ ds' σ', N ds' T → Ok K E F ds' T σ' H → Off is σ σ' → Q σ' H) → g v σ H Q
def AGs (K : PySem.W.Frag) (E : Ent) (is : List Nat) (g : TGs) (ds : Sls) (T : Tb) (dd : List D) (N : PS2) : Prop :=
  ∀ F σ H vs (Q : L2.St → Hp → Prop), Ok K E F ds T σ H → IsA K F vs dd → (∀ ds' σ', N ds' T → Ok K E F ds' T σ' H → Off is σ σ' → Q σ' H) → g vs σ H Q
theorem ag_name {i : Nat} (h : N (ds.set i (some d)) T) : AG K E [i] (gName i) ds T d N := fun F σ H v Q ok iv q =>
  q _ _ h (ok.slot iv i) ⟨by rw [List.length_set], fun j hj => List.getElem?_set_ne (fun z => hj (by rw [z]; exact List.mem_cons_self ..))⟩
theorem ags_nil (h : N ds T) : AGs K E [] gNil ds T [] N := fun F σ H vs Q ok iv q => by
  cases iv
  exact ⟨rfl, q ds σ h ok ⟨rfl, fun _ _ => rfl⟩⟩
theorem ags_cons {is js : List Nat} {dd : List D} (h : AG K E is g ds T d fun ds1 T1 => AGs K E js gs ds1 T1 dd N) : AGs K E (is ++ js) (gCons g gs) ds T (d :: dd) N := fun F σ H vs Q ok iv q => by
  cases iv with
  | cons i1 i2 =>
    exact ⟨_, _, rfl, h F σ H _ _ ok i1 fun ds1 σ1 p1 ok1 e1 => p1 F σ1 H _ _ ok1 i2 fun ds2 σ2 p2 ok2 e2 => q ds2 σ2 p2 ok2 ⟨e2.1.trans e1.1, fun j hj =>
      (e2.2 j fun z => hj (List.mem_append_right _ z)).trans (e1.2 j fun z => hj (List.mem_append_left _ z))⟩⟩
theorem ag_tup {is : List Nat} {dd : List D} {n : Nat} (hn : dd.length = n) (h : AGs K E is gs ds T dd N) : AG K E is (gTup K n gs) ds T (.tup dd) N := fun F σ H v Q ok iv q => by
  obtain ⟨a, vs, rfl, h1, t1⟩ := iv.tupE
  exact ⟨a, vs, rfl, ex_t ok.p.fh h1, by rw [t1.len]; exact hn, h F σ H vs Q ok t1 q⟩

/-! ### statements -/
structure Cont (K : PySem.W.Frag) (E : Ent) (F : Hp) (D : Ends) (N : PS2) (R : PD) (B C : PS2) : Prop where
  n : ∀ ds' T' F' σ' H', N ds' T' → Ok K E F' ds' T' σ' H' → Ex F F' → D.nx σ' H'
  r : ∀ d T' v F' ds' σ' H', R d T' → Ok K E F' ds' T' σ' H' → Ex F F' → Is K F' v d → D.rt v H'
  b : ∀ ds' T' F' σ' H', B ds' T' → Ok K E F' ds' T' σ' H' → Ex F F' → D.bk σ' H'
  c : ∀ ds' T' F' σ' H', C ds' T' → Ok K E F' ds' T' σ' H' → Ex F F' → D.ct σ' H'
theorem Cont.up {F' : Hp} {D : Ends} (k : Cont K E F D N R B C) (e : Ex F F') : Cont K E F' D N R B C :=
  ⟨fun a b c x y p ok q => k.n a b c x y p ok (e.trans q), fun a b c x y z w p ok q => k.r a b c x y z w p ok (e.trans q), fun a b c x y p ok q => k.b a b c x y p ok (e.trans q), fun a b c x y p ok q => k.c a b c x y p ok (e.trans q)⟩
def AS (K : PySem.W.Frag) (E : Ent) (t : TS) (ds : Sls) (T : Tb) (N : PS2) (R : PD) (B C : PS2) : Prop := ∀ F σ H (D : Ends), Ok K E F ds T σ H → Cont K E F D N R B C → t D σ H
theorem as_next (h : N ds T) : AS K E tNext ds T N R B C := fun F σ H D ok k => k.n ds T F σ H h ok (Ex.refl F)
theorem as_seq (h : AS K E t ds T (fun ds' T' => AS K E u ds' T' N R B C) R B C) : AS K E (tSeq t u) ds T N R B C := fun F σ H D ok k =>
  h F σ H _ ok ⟨fun ds' T' F' σ' H' p ok' e => p F' σ' H' D ok' (k.up e), k.r, k.b, k.c⟩
theorem as_asgG {is : List Nat} (h : AE K E te ds T fun d T' => AG K E is g ds T' d N) : AS K E (tAsg te g) ds T N R B C := fun F σ H D ok k =>
  h F σ H _ ok fun v d T' F' H' p ok' fr al iv => p F' σ H' v _ ok' iv fun ds2 σ2 p2 ok2 _ => k.n ds2 T' F' σ2 H' p2 ok2 fr.ff
theorem as_asg {i : Nat} (h : AE K E te ds T fun d T' => N (ds.set i (some d)) T') : AS K E (tAsg te (gName i)) ds T N R B C := as_asgG (is := [i]) (h.imp fun d T' p => ag_name p)
theorem as_ret (h : AE K E te ds T R) : AS K E (tRet te) ds T N R B C := fun F σ H D ok k => h F σ H _ ok fun v d T' F' H' p ok' fr al iv => k.r d T' v F' ds σ H' p ok' fr.ff iv
theorem as_retN (h : R .non T) : AS K E tRetN ds T N R B C := fun F σ H D ok k => k.r .non T .non F ds σ H h ok (Ex.refl F) .non
theorem as_drop (h : AE K E te ds T fun _ T' => N ds T') : AS K E (tDrop te) ds T N R B C := fun F σ H D ok k => h F σ H _ ok fun v d T' F' H' p ok' fr al iv => k.n ds T' F' σ H' p ok' fr.ff
theorem as_brk (h : B ds T) : AS K E tBreak ds T N R B C := fun F σ H D ok k => k.b ds T F σ H h ok (Ex.refl F)
theorem as_cont (h : C ds T) : AS K E tCont ds T N R B C := fun F σ H D ok k => k.c ds T F σ H h ok (Ex.refl F)
theorem as_if (h : AT K E tt ds T fun b T' => (b = true → AS K E t ds T' N R B C) ∧ (b = false → AS K E u ds T' N R B C)) : AS K E (tIfS tt t u) ds T N R B C := fun F σ H D ok k =>
  h F σ H _ ok fun b T' F' H' p ok' fr al => by
    cases b with
    | true => exact p.1 rfl F' σ H' D ok' (k.up fr.ff)
    | false => exact p.2 rfl F' σ H' D ok' (k.up fr.ff)
theorem AS.imp {N' : PS2} (h : AS K E t ds T N R B C) (k : ∀ ds' T', N ds' T' → N' ds' T') : AS K E t ds T N' R B C := fun F σ H D ok c => h F σ H D ok ⟨fun a b x y z p => c.n a b x y z (k a b p), c.r, c.b, c.c⟩
/-- x op= e -/
theorem as_aug {i : Nat} {d0 : D} {r : R2} (hx : ds[i]? = some (some d0)) (h : AE K E te ds T fun d T' => RD K E r T' d0 d fun d' T2 => N (ds.set i (some d')) T2) : AS K E (tAug i te r) ds T N R B C := fun F σ H D ok k => by
  obtain ⟨v0, h1, h2⟩ := ok.sl i d0 hx
  refine ⟨v0, h1, h F σ H _ ok fun v d T' F' H' p ok' fr al iv => p F' σ ds H' v0 v _ ok' (h2.mono fr.ff) iv fun v2 d2 T2 F2 H2 p2 ok2 fr2 al2 iv2 => ?_⟩
  exact k.n _ T2 F2 _ H2 p2 (ok2.slot iv2 i) (fr.ff.trans fr2.ff)

/-! ### loops -/
theorem as_forL {is : List Nat} (h : AE K E tl ds T fun d T1 => ∃ xs, LV T1 d xs ∧ ∃ I : Nat → PS2, I 0 ds T1 ∧ (∀ i ds' T', i ≤ xs.length → I i ds' T' → LV T' d xs) ∧
      (∀ i x ds' T', xs[i]? = some x → I i ds' T' → AG K E is g ds' T' x fun ds2 T2 => AS K E tb ds2 T2 (I (i + 1)) R N (I (i + 1))) ∧ ∀ ds' T', I xs.length ds' T' → N ds' T') :
    AS K E (tFor (iList K tl) g tb) ds T N R B C := fun F σ H D ok k => h F σ H _ ok fun v d T1 F1 H1 ⟨xs, l, I, i0, il, ist, iend⟩ ok1 fr1 al1 iv => by
  obtain ⟨a, vs, rfl, h1, t1⟩ := l.sq ok1 iv
  refine ⟨a, rfl, ⟨vs, h1⟩, fun i m σ' H' => ∃ ds' T' F', I i ds' T' ∧ Ok K E F' ds' T' σ' H' ∧ Ex F1 F' ∧ i ≤ xs.length ∧ m = xs.length - i, ⟨_, ds, T1, F1, i0, ok1, Ex.refl F1, Nat.zero_le _, rfl⟩, ?_⟩
  rintro i m σ' H' ⟨ds', T', F', p, ok', e, hi, rfl⟩
  obtain ⟨b, ws, eb, hb, tw⟩ := (il i ds' T' hi p).sq ok' (iv.mono e)
  cases eb
  by_cases hlt : i < xs.length
  · obtain ⟨w, hw, iw⟩ := tw.get (List.getElem?_eq_getElem hlt)
    refine .inr ⟨⟨ws, w, hb, hw⟩, fun σ2 H2 => ∃ ds2 T2 F2, I (i + 1) ds2 T2 ∧ Ok K E F2 ds2 T2 σ2 H2 ∧ Ex F1 F2, ?_, ?_⟩
    · rintro σ2 H2 ⟨ds2, T2, F2, p2, ok2, e2⟩
      exact ⟨xs.length - (i + 1), by omega, ds2, T2, F2, p2, ok2, e2, hlt, rfl⟩
    · rintro x H2 ⟨rfl, hx⟩
      have hx2 : w = x := Option.some.inj (hw.symm.trans (hx ws hb))
      subst hx2
      refine ist i _ ds' T' (List.getElem?_eq_getElem hlt) p F' σ' H2 w _ ok' iw fun ds2 σ2 p2 ok2 _ => ?_
      exact p2 F' σ2 H2 _ ok2 ⟨fun ds3 T3 F3 σ3 H3 p3 ok3 e3 => ⟨ds3, T3, F3, p3, ok3, e.trans e3⟩, fun d3 T3 v3 F3 ds3 σ3 H3 p3 ok3 e3 => k.r d3 T3 v3 F3 ds3 σ3 H3 p3 ok3 ((fr1.ff.trans e).trans e3),
        fun ds3 T3 F3 σ3 H3 p3 ok3 e3 => k.n ds3 T3 F3 σ3 H3 p3 ok3 ((fr1.ff.trans e).trans e3), fun ds3 T3 F3 σ3 H3 p3 ok3 e3 => ⟨ds3, T3, F3, p3, ok3, e.trans e3⟩⟩
  · have hn : i = xs.length := by omega
    subst hn
    exact .inl ⟨⟨ws, hb, by rw [tw.len]; exact Nat.le_refl _⟩, k.n ds' T' F' σ' H' (iend ds' T' p) ok' (fr1.ff.trans e)⟩
theorem as_forT {is : List Nat} (h : AE K E tl ds T fun d T1 => ∃ xs, d = .tup xs ∧ ∃ I : Nat → PS2, I 0 ds T1 ∧
      (∀ i x ds' T', xs[i]? = some x → I i ds' T' → AG K E is g ds' T' x fun ds2 T2 => AS K E tb ds2 T2 (I (i + 1)) R N (I (i + 1))) ∧ ∀ ds' T', I xs.length ds' T' → N ds' T') :
    AS K E (tFor (iTup K tl) g tb) ds T N R B C := fun F σ H D ok k => h F σ H _ ok fun v d T1 F1 H1 ⟨xs, hd, I, i0, ist, iend⟩ ok1 fr1 al1 iv => by
  subst hd
  obtain ⟨a, vs, rfl, h1, t1⟩ := iv.tupE
  refine ⟨a, rfl, ⟨vs, ex_t ok1.p.fh h1⟩, for_tup (K := K) (a := a) (xs := vs) (fun i σ' H' => ∃ ds' T' F', I i ds' T' ∧ Ok K E F' ds' T' σ' H' ∧ Ex F1 F') ⟨ds, T1, F1, i0, ok1, Ex.refl F1⟩ ?_ ?_ ?_⟩
  · rintro i σ' H' hi ⟨ds', T', F', p, ok', e⟩
    exact ex_t ok'.p.fh (ex_t e h1)
  · rintro i x σ' H' hx ⟨ds', T', F', p, ok', e⟩
    obtain ⟨y, hy, iy⟩ := t1.getV hx
    refine ist i y ds' T' hy p F' σ' H' x _ ok' (iy.mono e) fun ds2 σ2 p2 ok2 _ => ?_
    exact p2 F' σ2 H' _ ok2 ⟨fun ds3 T3 F3 σ3 H3 p3 ok3 e3 => ⟨ds3, T3, F3, p3, ok3, e.trans e3⟩, fun d3 T3 v3 F3 ds3 σ3 H3 p3 ok3 e3 => k.r d3 T3 v3 F3 ds3 σ3 H3 p3 ok3 ((fr1.ff.trans e).trans e3),
        fun ds3 T3 F3 σ3 H3 p3 ok3 e3 => k.n ds3 T3 F3 σ3 H3 p3 ok3 ((fr1.ff.trans e).trans e3), fun ds3 T3 F3 σ3 H3 p3 ok3 e3 => ⟨ds3, T3, F3, p3, ok3, e.trans e3⟩⟩
  · rintro σ' H' ⟨ds', T', F', p, ok', e⟩
    rw [t1.len] at p
    exact k.n ds' T' F' σ' H' (iend ds' T' p) ok' (fr1.ff.trans e)
theorem forR_core {is : List Nat} {lo : Int} {n : Nat} {F0 F1 H1 : Hp} {T1 : Tb} {D : Ends} (I : Nat → PS2) (i0 : I 0 ds T1) (ok1 : Ok K E F1 ds T1 σ H1) (e0 : Ex F0 F1) (k : Cont K E F0 D N R B C)
    (ist : ∀ i ds' T', i < n → I i ds' T' → AG K E is g ds' T' (.int (lo + i)) fun ds2 T2 => AS K E tb ds2 T2 (I (i + 1)) R N (I (i + 1))) (iend : ∀ ds' T', I n ds' T' → N ds' T') :
    ∃ W : Nat → Nat → L2.St → Hp → Prop, (∃ m, W 0 m σ H1) ∧ ∀ i m σ H, W i m σ H →
      ((Itr lo n).stop i H ∧ D.nx σ H) ∨ ((Itr lo n).go i H ∧ ∃ N : L2.St → Hp → Prop, (∀ σ' H', N σ' H' → ∃ m', m' < m ∧ W (i + 1) m' σ' H') ∧ ∀ x H', (Itr lo n).yld i H x H' → g x σ H' fun σ2 H2 => tb { D with nx := N, ct := N, bk := D.nx } σ2 H2) := by
  refine for_range (lo := lo) (n := n) (fun i σ' H' => ∃ ds' T' F', I i ds' T' ∧ Ok K E F' ds' T' σ' H' ∧ Ex F1 F') ⟨ds, T1, F1, i0, ok1, Ex.refl F1⟩ ?_ ?_
  · rintro i σ' H' hi ⟨ds', T', F', p, ok', e⟩
    refine ist i ds' T' hi p F' σ' H' _ _ ok' (.int _) fun ds2 σ2 p2 ok2 _ => ?_
    exact p2 F' σ2 H' _ ok2 ⟨fun ds3 T3 F3 σ3 H3 p3 ok3 e3 => ⟨ds3, T3, F3, p3, ok3, e.trans e3⟩, fun d3 T3 v3 F3 ds3 σ3 H3 p3 ok3 e3 => k.r d3 T3 v3 F3 ds3 σ3 H3 p3 ok3 ((e0.trans e).trans e3),
        fun ds3 T3 F3 σ3 H3 p3 ok3 e3 => k.n ds3 T3 F3 σ3 H3 p3 ok3 ((e0.trans e).trans e3), fun ds3 T3 F3 σ3 H3 p3 ok3 e3 => ⟨ds3, T3, F3, p3, ok3, e.trans e3⟩⟩
  · rintro σ' H' ⟨ds', T', F', p, ok', e⟩
    exact k.n ds' T' F' σ' H' (iend ds' T' p) ok' (e0.trans e)
/-- for .. in range(n): n at most 2^61 in size -/
theorem as_forR {is : List Nat} (h : AA K E ta ds T fun dd T1 => ∃ n : Int, dd = [.int n] ∧ n.natAbs ≤ 2000000000000000000 ∧ ∃ I : Nat → PS2, I 0 ds T1 ∧
      (∀ i ds' T', i < n.toNat → I i ds' T' → AG K E is g ds' T' (.int (i : Int)) fun ds2 T2 => AS K E tb ds2 T2 (I (i + 1)) R N (I (i + 1))) ∧ ∀ ds' T', I n.toNat ds' T' → N ds' T') :
    AS K E (tFor (iRng1 ta) g tb) ds T N R B C := fun F σ H D ok k => h F σ H _ ok fun vs dd T1 F1 H1 ⟨n, hd, hn, I, i0, ist, iend⟩ ok1 fr1 al1 iv => by
  subst hd
  cases iv with
  | cons i1 t =>
    cases i1
    cases t
    refine ⟨n, rfl, by omega, by omega, forR_core (is := is) I i0 ok1 fr1.ff k (fun i ds' T' hi p => ?_) iend⟩
    rw [Int.zero_add]
    exact ist i ds' T' hi p
theorem as_forR2 {is : List Nat} (h : AA K E ta ds T fun dd T1 => ∃ lo n : Int, dd = [.int lo, .int n] ∧ lo.natAbs ≤ 2000000000000000000 ∧ n.natAbs ≤ 2000000000000000000 ∧ ∃ I : Nat → PS2, I 0 ds T1 ∧
      (∀ i ds' T', i < (n - lo).toNat → I i ds' T' → AG K E is g ds' T' (.int (lo + (i : Int))) fun ds2 T2 => AS K E tb ds2 T2 (I (i + 1)) R N (I (i + 1))) ∧ ∀ ds' T', I (n - lo).toNat ds' T' → N ds' T') :
    AS K E (tFor (iRng2 ta) g tb) ds T N R B C := fun F σ H D ok k => h F σ H _ ok fun vs dd T1 F1 H1 ⟨lo, n, hd, hlo, hn, I, i0, ist, iend⟩ ok1 fr1 al1 iv => by
  subst hd
  cases iv with
  | cons i1 t =>
    cases i1
    cases t with
    | cons i2 t =>
      cases i2
      cases t
      exact ⟨lo, n, rfl, ⟨by omega, by omega, by omega, by omega⟩, forR_core (is := is) I i0 ok1 fr1.ff k ist iend⟩
/-- while: m falls -/
theorem as_while (I : Nat → PS2) (m0 : Nat) (i0 : I m0 ds T)
    (ist : ∀ m ds' T', I m ds' T' → AT K E tt ds' T' fun b T2 => (b = true → AS K E tb ds' T2 (fun a b => ∃ m', m' < m ∧ I m' a b) R N (fun a b => ∃ m', m' < m ∧ I m' a b)) ∧ (b = false → N ds' T2)) :
    AS K E (tWhile tt tb) ds T N R B C := fun F σ H D ok k => by
  refine ⟨fun m σ' H' => ∃ ds' T' F', I m ds' T' ∧ Ok K E F' ds' T' σ' H' ∧ Ex F F', ⟨m0, ds, T, F, i0, ok, Ex.refl F⟩, ?_⟩
  rintro m σ' H' ⟨ds', T', F', p, ok', e⟩
  refine ist m ds' T' p F' σ' H' _ ok' fun b T2 F2 H2 p2 ok2 fr2 al2 => ?_
  cases b with
  | true =>
    refine ⟨fun σ3 H3 => ∃ m', m' < m ∧ ∃ ds3 T3 F3, I m' ds3 T3 ∧ Ok K E F3 ds3 T3 σ3 H3 ∧ Ex F F3, fun _ _ z => z, p2.1 rfl F2 σ' H2 _ ok2 ?_⟩
    have e2 := e.trans fr2.ff
    refine ⟨?_, fun d3 T3 v3 F3 ds3 σ3 H3 p3 ok3 e3 => k.r d3 T3 v3 F3 ds3 σ3 H3 p3 ok3 (e2.trans e3), fun ds3 T3 F3 σ3 H3 p3 ok3 e3 => k.n ds3 T3 F3 σ3 H3 p3 ok3 (e2.trans e3), ?_⟩
    · rintro ds3 T3 F3 σ3 H3 ⟨m', hm, p3⟩ ok3 e3
      exact ⟨m', hm, ds3, T3, F3, p3, ok3, e2.trans e3⟩
    · rintro ds3 T3 F3 σ3 H3 ⟨m', hm, p3⟩ ok3 e3
      exact ⟨m', hm, ds3, T3, F3, p3, ok3, e2.trans e3⟩
  | false => exact k.n ds' T2 F2 σ' H2 (p2.2 rfl) ok2 (e.trans fr2.ff)

/-! ### list comprehensions -/
def wipeD (ds : Sls) : List Nat → Sls
  | [] => ds
  | v :: vs => (wipeD ds vs).set v none
theorem Ok.reslot {ds2 : Sls} {σ2 : L2.St} {F2 H2 : Hp} {T2 : Tb} (ok : Ok K E F ds T σ H) (ok2 : Ok K E F2 ds2 T2 σ2 H2) (e : Ex F F2) : Ok K E F2 ds T2 σ H2 := ⟨ok2.p, ok.ln, ok.sl.mono e, ok2.ow, ok2.nd⟩
theorem Ok.wipe (ok : Ok K E F ds T σ H) : ∀ vs : List Nat, Ok K E F (wipeD ds vs) T (wipe σ vs) H
  | [] => ok
  | v :: vs => (ok.wipe vs).slot0 v
theorem wipe_len (σ : L2.St) : ∀ vs : List Nat, (wipe σ vs).length = σ.length
  | [] => rfl
  | v :: vs => by rw [wipe, List.length_set, wipe_len σ vs]
theorem wipe_off {σ : L2.St} {i : Nat} : ∀ {vs : List Nat}, i ∉ vs → (wipe σ vs)[i]? = σ[i]?
  | [], _ => rfl
  | v :: vs, h => by
    rw [wipe, List.getElem?_set_ne (fun z => h (by rw [z]; exact List.mem_cons_self ..))]
    exact wipe_off fun z => h (List.mem_cons_of_mem _ z)
theorem wipe_on {σ : L2.St} {i : Nat} (hi : i < σ.length) : ∀ {vs : List Nat}, i ∈ vs → (wipe σ vs)[i]? = some none
  | v :: vs, h => by
    rw [wipe]
    by_cases e : v = i
    · subst e
      exact List.getElem?_set_self (by rw [wipe_len]; exact hi)
    · rw [List.getElem?_set_ne e]
      exact wipe_on hi ((List.mem_cons.mp h).resolve_left fun z => e z.symm)
theorem wipe_eq {σ σ' : L2.St} {vs is : List Nat} (hl : σ'.length = σ.length) (hs : ∀ i ∈ is, i ∈ vs) (h : ∀ i, i ∉ is → σ'[i]? = (wipe σ vs)[i]?) : L2.wipe σ' vs = L2.wipe σ vs := by
  apply List.ext_getElem?
  intro i
  by_cases hv : i ∈ vs
  · by_cases hi : i < σ.length
    · rw [wipe_on hi hv, wipe_on (by omega) hv]
    · rw [List.getElem?_eq_none (by rw [wipe_len]; omega), List.getElem?_eq_none (by rw [wipe_len]; omega)]
  · rw [wipe_off hv, h i fun z => hv (hs i z)]
/-- the state within a comprehension: its list ahead of the table -/
def LcS (K : PySem.W.Frag) (E : Ent) (ds : Sls) (σ : L2.St) (T1 : Tb) (F1 H1 : Hp) (Dl : Addr) (J : Nat → List D → Tb → Prop) (i : Nat) (H' : Hp) : Prop :=
  ∃ F' T' acc, J i acc T' ∧ Ok K E F' ds (⟨Dl, true, .lst acc⟩ :: T') σ H' ∧ Fr T1 F1 H1 (⟨Dl, true, .lst acc⟩ :: T') F' H' ∧ ∀ x o, H1 x = some o → ∃ o', H' x = some o'
theorem lc_turn {vs is : List Nat} {T1 : Tb} {F1 H1 : Hp} {Dl : Addr} {J : Nat → List D → Tb → Prop} {i : Nat} {acc : List D} {F' H' : Hp} {T' : Tb} {x : D} {v : V} (hs : ∀ i ∈ is, i ∈ vs)
    (ok : Ok K E F' ds (⟨Dl, true, .lst acc⟩ :: T') σ H') (fr : Fr T1 F1 H1 (⟨Dl, true, .lst acc⟩ :: T') F' H') (al : ∀ x o, H1 x = some o → ∃ o', H' x = some o') (iv : Is K F' v x)
    (h : AG K E is g (wipeD ds vs) T' x fun ds2 T2 => AT K E tt ds2 T2 fun b T3 => if b = true then AE K E te ds2 T3 fun y T4 => acc.length < 100000 ∧ J (i + 1) (acc ++ [y]) T4 else J (i + 1) acc T3) :
    g v (wipe σ vs) H' fun σ2 H2 => wipe σ2 vs = wipe σ vs ∧ tt σ2 H2 fun b H3 => if b = true then te σ2 H3 fun y H4 => ∃ acc, H4 Dl = some (.lst acc) ∧ acc.length < sizeLine ∧
      LcS K E ds σ T1 F1 H1 Dl J (i + 1) (upd H4 Dl (.lst (acc ++ [y]))) else LcS K E ds σ T1 F1 H1 Dl J (i + 1) H3 := by
  refine h F' (wipe σ vs) H' v _ (ok.wipe vs).tail iv fun ds2 σ2 p2 ok2 off => ⟨wipe_eq (by rw [off.1, wipe_len]) hs off.2, ?_⟩
  refine p2 F' σ2 H' _ ok2 fun b T3 F3 H3 p3 ok3 fr3 al3 => ?_
  cases b with
  | true =>
    refine p3 F3 σ2 H3 _ ok3 ?_
    rintro y d T4 F4 H4 ⟨hlen, p4⟩ ok4 fr4 al4 iy
    have fr' := fr3.trans fr4 al3
    have al' : ∀ x o, H' x = some o → ∃ o', H4 x = some o' := fun x o hx => let ⟨o1, h1⟩ := al3 x o hx; al4 x o1 h1
    have okb := ok.back (ok.tail.reslot ok4 fr'.ff) fr'
    obtain ⟨ws, h1, t1⟩ := okb.lst_at (j := 0) rfl
    refine ⟨ws, h1, by rw [t1.len]; exact sz_lt hlen, ?_⟩
    refine ⟨F4, T4, acc ++ [d], p4, okb.mut (j := 0) rfl ⟨_, upd_same, t1.append (.one iy)⟩, (fr.trans fr'.back al).trans (Fr.mut (T := ⟨Dl, true, .lst acc⟩ :: T4) (j := 0) (e := ⟨Dl, true, .lst acc⟩) (ob := .lst (acc ++ [d])) (o := .lst (ws ++ [y])) rfl) fun x o hx => ?_, fun x o hx => ?_⟩
    · obtain ⟨o1, h1⟩ := al x o hx
      exact al' x o1 h1
    · obtain ⟨o1, h1⟩ := al x o hx
      obtain ⟨o2, h2⟩ := al' x o1 h1
      exact al_new x o2 h2
  | false =>
    have okb := ok.back (ok.tail.reslot ok3 fr3.ff) fr3
    exact ⟨F3, T3, acc, p3, okb, fr.trans fr3.back al, fun x o hx => let ⟨o1, h1⟩ := al x o hx; al3 x o1 h1⟩
/-- what a comprehension over n things leaves -/
abbrev LcP (J : Nat → List D → Tb → Prop) (n : Nat) (P : PD) : Prop := ∀ acc T' a, J n acc T' → P (.adr a) (⟨a, true, .lst acc⟩ :: T')
theorem ae_lcL {is vs : List Nat} (hs : ∀ i ∈ is, i ∈ vs) (h : AE K E tl ds T fun d T1 => ∃ xs, LV T1 d xs ∧ ∃ J : Nat → List D → Tb → Prop, J 0 [] T1 ∧ (∀ i acc T', i ≤ xs.length → J i acc T' → LV T' d xs) ∧
      (∀ i x acc T', xs[i]? = some x → J i acc T' → AG K E is g (wipeD ds vs) T' x fun ds2 T2 => AT K E tt ds2 T2 fun b T3 => if b = true then AE K E te ds2 T3 fun y T4 => acc.length < 100000 ∧ J (i + 1) (acc ++ [y]) T4 else J (i + 1) acc T3) ∧
      LcP J xs.length P) : AE K E (tLc (iList K tl) g tt te vs) ds T P := fun F σ H Q ok q => h F σ H _ ok fun v d T1 F1 H1 ⟨xs, l, J, j0, jl, jst, jend⟩ ok1 fr1 al1 iv => by
  obtain ⟨a, us, rfl, h1, t1⟩ := l.sq ok1 iv
  refine ⟨a, rfl, ⟨us, h1⟩, fun Dl hD => ⟨fun i m H' => LcS K E ds σ T1 F1 H1 Dl J i H' ∧ i ≤ xs.length ∧ m = xs.length - i, ⟨_, ⟨F1, T1, [], j0, ok1.newO hD ⟨[], upd_same, .nil⟩, Fr.newO hD, al_new⟩, Nat.zero_le _, rfl⟩, ?_⟩⟩
  rintro i m H' ⟨⟨F', T', acc, p, ok', fr', al'⟩, hi, rfl⟩
  obtain ⟨b, ws, eb, hb, tw⟩ := (jl i acc T' hi p).sq ok'.tail (iv.mono fr'.ff)
  cases eb
  by_cases hlt : i < xs.length
  · obtain ⟨w, hw, iw⟩ := tw.get (List.getElem?_eq_getElem hlt)
    refine .inr ⟨⟨ws, w, hb, hw⟩, fun H2 => LcS K E ds σ T1 F1 H1 Dl J (i + 1) H2, fun H2 z => ⟨xs.length - (i + 1), by omega, z, hlt, rfl⟩, ?_⟩
    rintro x H2 ⟨rfl, hx⟩
    have hx2 : w = x := Option.some.inj (hw.symm.trans (hx ws hb))
    subst hx2
    exact lc_turn hs ok' fr' al' iw (jst i _ acc T' (List.getElem?_eq_getElem hlt) p)
  · have hn : i = xs.length := by omega
    subst hn
    refine .inl ⟨⟨ws, hb, by rw [tw.len]; exact Nat.le_refl _⟩, ?_⟩
    exact (q.step fr1 al1) _ (.adr Dl) _ F' H' (jend acc T' Dl p) ok' fr' al' (.adr Dl)
theorem lcR_core {is vs : List Nat} {lo : Int} {n : Nat} {T1 : Tb} {F1 H1 : Hp} {Q : VK} (hs : ∀ i ∈ is, i ∈ vs) (J : Nat → List D → Tb → Prop) (j0 : J 0 [] T1) (ok1 : Ok K E F1 ds T1 σ H1)
    (jst : ∀ i acc T', i < n → J i acc T' → AG K E is g (wipeD ds vs) T' (.int (lo + i)) fun ds2 T2 => AT K E tt ds2 T2 fun b T3 => if b = true then AE K E te ds2 T3 fun y T4 => acc.length < 100000 ∧ J (i + 1) (acc ++ [y]) T4 else J (i + 1) acc T3)
    (q : Rs K E P ds T1 σ F1 H1 Q) (jend : LcP J n P) (Dl : Addr) (hD : H1 Dl = none) : ∃ W : Nat → Nat → Hp → Prop, (∃ m, W 0 m (upd H1 Dl (.lst []))) ∧ ∀ i m H, W i m H →
      ((Itr lo n).stop i H ∧ Q (.ref Dl) H) ∨ ((Itr lo n).go i H ∧ ∃ Nx : Hp → Prop, (∀ H', Nx H' → ∃ m', m' < m ∧ W (i + 1) m' H') ∧ ∀ x H', (Itr lo n).yld i H x H' → g x (wipe σ vs) H' fun σ2 H2 => wipe σ2 vs = wipe σ vs ∧ tt σ2 H2 fun b H3 =>
        if b = true then te σ2 H3 fun y H4 => ∃ acc, H4 Dl = some (.lst acc) ∧ acc.length < sizeLine ∧ Nx (upd H4 Dl (.lst (acc ++ [y]))) else Nx H3) := by
  refine lc_range (lo := lo) (n := n) (Qd := fun H => Q (.ref Dl) H) (fun i H' => LcS K E ds σ T1 F1 H1 Dl J i H') ⟨F1, T1, [], j0, ok1.newO hD ⟨[], upd_same, .nil⟩, Fr.newO hD, al_new⟩ ?_ ?_
  · rintro i H' hi ⟨F', T', acc, p, ok', fr', al'⟩
    exact lc_turn hs ok' fr' al' (.int _) (jst i acc T' hi p)
  · rintro H' ⟨F', T', acc, p, ok', fr', al'⟩
    exact q _ (.adr Dl) _ F' H' (jend acc T' Dl p) ok' fr' al' (.adr Dl)
theorem ae_lcR {is vs : List Nat} (hs : ∀ i ∈ is, i ∈ vs) (h : AA K E ta ds T fun dd T1 => ∃ n : Int, dd = [.int n] ∧ n.natAbs ≤ 2000000000000000000 ∧ ∃ J : Nat → List D → Tb → Prop, J 0 [] T1 ∧
      (∀ i acc T', i < n.toNat → J i acc T' → AG K E is g (wipeD ds vs) T' (.int (i : Int)) fun ds2 T2 => AT K E tt ds2 T2 fun b T3 => if b = true then AE K E te ds2 T3 fun y T4 => acc.length < 100000 ∧ J (i + 1) (acc ++ [y]) T4 else J (i + 1) acc T3) ∧
      LcP J n.toNat P) : AE K E (tLc (iRng1 ta) g tt te vs) ds T P := fun F σ H Q ok q => h F σ H _ ok fun us dd T1 F1 H1 ⟨n, hd, hn, J, j0, jst, jend⟩ ok1 fr1 al1 iv => by
  subst hd
  cases iv with
  | cons i1 t =>
    cases i1
    cases t
    refine ⟨n, rfl, by omega, by omega, fun Dl hD => lcR_core hs J j0 ok1 (fun i acc T' hi p => ?_) (q.step fr1 al1) jend Dl hD⟩
    rw [Int.zero_add]
    exact jst i acc T' hi p
theorem ae_lcT {is vs : List Nat} (hs : ∀ i ∈ is, i ∈ vs) (h : AE K E tl ds T fun d T1 => ∃ xs, d = .tup xs ∧ ∃ J : Nat → List D → Tb → Prop, J 0 [] T1 ∧
      (∀ i x acc T', xs[i]? = some x → J i acc T' → AG K E is g (wipeD ds vs) T' x fun ds2 T2 => AT K E tt ds2 T2 fun b T3 => if b = true then AE K E te ds2 T3 fun y T4 => acc.length < 100000 ∧ J (i + 1) (acc ++ [y]) T4 else J (i + 1) acc T3) ∧
      LcP J xs.length P) : AE K E (tLc (iTup K tl) g tt te vs) ds T P := fun F σ H Q ok q => h F σ H _ ok fun v d T1 F1 H1 ⟨xs, hd, J, j0, jst, jend⟩ ok1 fr1 al1 iv => by
  subst hd
  obtain ⟨a, us, rfl, h1, t1⟩ := iv.tupE
  refine ⟨a, rfl, ⟨us, ex_t ok1.p.fh h1⟩, fun Dl hD => lc_tup (K := K) (a := a) (xs := us) (Qd := fun H => Q (.ref Dl) H) (fun i H' => LcS K E ds σ T1 F1 H1 Dl J i H') ⟨F1, T1, [], j0, ok1.newO hD ⟨[], upd_same, .nil⟩, Fr.newO hD, al_new⟩ ?_ ?_ ?_⟩
  · rintro i H' hi ⟨F', T', acc, p, ok', fr', al'⟩
    exact ex_t ok'.p.fh (ex_t fr'.ff h1)
  · rintro i x H' hx ⟨F', T', acc, p, ok', fr', al'⟩
    obtain ⟨y, hy, iy⟩ := t1.getV hx
    exact lc_turn hs ok' fr' al' (iy.mono fr'.ff) (jst i y acc T' hy p)
  · rintro H' ⟨F', T', acc, p, ok', fr', al'⟩
    rw [t1.len] at p
    exact (q.step fr1 al1) _ (.adr Dl) _ F' H' (jend acc T' Dl p) ok' fr' al' (.adr Dl)
/-- the new list is frozen -/
theorem lcP_froz {J : Nat → List D → Tb → Prop} {n : Nat} (h : ∀ acc T', J n acc T' → P (.lst acc) T') : LcP J n fun d T' => ∃ j e, T'[j]? = some e ∧ e.loc = true ∧ d = .adr e.a ∧ P e.ob.d (T'.eraseIdx j) :=
  fun acc T' a p => ⟨0, _, rfl, rfl, rfl, h acc T' p⟩
end
end AW

/-! AW: promises of defs in terms of data, and calls by them. -/
namespace AW
open PySem PySem.Spec PyProof.Rows L2 Evl

/-- owned objects handed in, or handed out -/
abbrev Foot := List (Addr × OB)
def Owns (K : PySem.W.Frag) (F H : Hp) (T : Foot) : Prop := ∀ e ∈ T, F e.1 = none ∧ IsO K F H e.1 e.2
/-- a contract: arguments, owned objects; then what must hold of each end: its value, the owned objects' contents, new owned objects; of each exception: its class, the contents -/
abbrev Con0 := List D → Foot → (D → List OB → Foot → Prop) → (Value → List OB → Prop) → Prop
structure EndP (K : PySem.W.Frag) (F H : Hp) (T : Foot) (os : List OB) (new : Foot) (F' H' : Hp) : Prop where
  po : Post F H (T.map (·.1)) F' H'
  ln : os.length = T.length
  ow : Owns K F' H' ((T.map (·.1)).zip os)
  nw : ∀ e ∈ new, H e.1 = none ∧ F' e.1 = none ∧ IsO K F' H' e.1 e.2
  nd : (new.map (·.1)).Nodup
def spA (K : PySem.W.Frag) (A : Con0) : Sp := fun vs H Q X => ∃ F dd T P PX, Ex F H ∧ IsA K F vs dd ∧ Owns K F H T ∧ (T.map (·.1)).Nodup ∧ A dd T P PX ∧
  (∀ v d os new F' H', P d os new → EndP K F H T os new F' H' → Is K F' v d → Q v H') ∧ (∀ cls os F' H', PX cls os → EndP K F H T os [] F' H' → X cls none H')

abbrev news (l : Foot) : Tb := l.map fun e => ⟨e.1, true, e.2⟩
section
variable {K : PySem.W.Frag} {E : Ent} {F H F' H' : Hp} {ds : Sls} {T : Tb} {σ : L2.St} {v : V} {d : D} {P : PD} {ta : TA} {te : TE} {A : Con0} {EE : L2.St → XK}
theorem Ok.called {O : List Addr} {T' : Tb} (ok : Ok K E F ds T σ H) (po : Post F H O F' H') (hO : ∀ a ∈ O, a ∈ ads T) (h1 : T'.map (·.a) = T.map (·.a)) (h2 : T'.map (·.loc) = T.map (·.loc))
    (hob : ∀ (i : Nat) (e e' : Ow), T[i]? = some e → T'[i]? = some e' → (e.a ∉ O ∧ e'.ob = e.ob) ∨ IsO K F' H' e.a e'.ob) : Ok K E F' ds T' σ H' ∧ Fr T F H T' F' H' := by
  have notO : ∀ a o, E.H a = some o → a ∉ E.O → a ∉ O := fun a o ha hn hm => by
    obtain ⟨e, he, q⟩ := List.mem_map.mp (hO a hm)
    have w := ok.ow e he
    cases l : e.loc with
    | true => rw [← q, w.l l] at ha; cases ha
    | false => exact hn (q ▸ (w.g l).1)
  refine ⟨⟨⟨ok.p.ff.trans po.ff, fun a o ha hn => po.hh a o (ok.p.hh a o ha hn) (notO a o ha hn), fun a o ha => ?_, po.fh, fun a o hf ha => ?_⟩, ok.ln, ok.sl.mono po.ff, fun e' he' => ?_, by rw [h1]; exact ok.nd⟩, po.ff, fun a o ha hn => po.hh a o ha fun z => hn (hO a z),
    fun a o hf ha _ => po.nw a o hf ha, fun e' he' => ?_⟩
  · obtain ⟨o1, q⟩ := ok.p.al a o ha
    exact po.al a o1 q
  · obtain ⟨o1, q⟩ := ok.p.al a o ha
    exact po.nw a o1 (ok.p.nw a o hf ha) q
  · obtain ⟨i, hi⟩ := List.getElem?_of_mem he'
    have hl : T'.length = T.length := by
      have := congrArg List.length h1
      rwa [List.length_map, List.length_map] at this
    have hi2 : i < T.length := by have := (List.getElem?_eq_some_iff.mp hi).1; omega
    have e0 := List.getElem?_eq_getElem hi2
    have ea : e'.a = T[i].a := by
      have := congrArg (fun l => l[i]?) h1
      simp only [List.getElem?_map, hi, e0, Option.map_some] at this
      exact Option.some.inj this
    have el : e'.loc = T[i].loc := by
      have := congrArg (fun l => l[i]?) h2
      simp only [List.getElem?_map, hi, e0, Option.map_some] at this
      exact Option.some.inj this
    have w := ok.ow T[i] (List.mem_of_getElem? e0)
    obtain ⟨u, hu⟩ := w.o.there
    refine ⟨?_, ?_, ?_, ?_⟩
    · rw [ea]
      exact po.nw _ u w.f hu
    · rw [ea]
      rcases hob i _ _ e0 hi with ⟨hn, q⟩ | q
      · rw [q]
        exact w.o.mono po.ff fun o ho => po.hh _ o ho hn
      · exact q
    · rw [ea, el]
      exact w.l
    · rw [ea, el]
      exact w.g
  · refine .inl ?_
    show e'.a ∈ T.map (·.a)
    rw [← h1]
    exact List.mem_map.mpr ⟨e', he', rfl⟩
theorem Ok.adopt {new : Foot} (ok : Ok K E F ds T σ H) (hE : ∀ e ∈ new, E.H e.1 = none) (hn : ∀ e ∈ new, F e.1 = none ∧ IsO K F H e.1 e.2) (hd : ∀ e ∈ new, e.1 ∉ ads T) (nd : (new.map (·.1)).Nodup) : Ok K E F ds (news new ++ T) σ H := by
  refine ⟨ok.p, ok.ln, ok.sl, fun e he => ?_, ?_⟩
  · rcases List.mem_append.mp he with he | he
    · obtain ⟨x, hx, rfl⟩ := List.mem_map.mp he
      exact ⟨(hn x hx).1, (hn x hx).2, fun _ => hE x hx, fun z => by cases z⟩
    · exact ok.ow e he
  · have e1 : (news new).map (·.a) = new.map (·.1) := by rw [List.map_map]; rfl
    rw [List.map_append, e1, List.nodup_append]
    refine ⟨nd, ok.nd, fun a ha b hb z => ?_⟩
    obtain ⟨x, hx, rfl⟩ := List.mem_map.mp ha
    subst z
    exact hd x hx hb
/-- behind a call: T' is T with the footprint's new contents -/
theorem Rs.called {Tf : Foot} {os : List OB} {new : Foot} {T' : Tb} {Q : VK} (q : Rs K E P ds T σ F H Q) (ok : Ok K E F ds T σ H) (ep : EndP K F H Tf os new F' H') (hO : ∀ a ∈ Tf.map (·.1), a ∈ ads T) (h1 : T'.map (·.a) = T.map (·.a)) (h2 : T'.map (·.loc) = T.map (·.loc))
    (hob : ∀ (i : Nat) (e e' : Ow), T[i]? = some e → T'[i]? = some e' → (e.a ∉ Tf.map (·.1) ∧ e'.ob = e.ob) ∨ IsO K F' H' e.a e'.ob) (iv : Is K F' v d) (p : P d (news new ++ T')) : Q v H' := by
  obtain ⟨ok1, fr1⟩ := ok.called ep.po hO h1 h2 hob
  have hT : ∀ e ∈ new, e.1 ∉ ads T' := fun e he hm => by
    have hm' : e.1 ∈ T.map (·.a) := by
      rw [← h1]
      exact hm
    obtain ⟨x, hx, z⟩ := List.mem_map.mp hm'
    obtain ⟨u, hu⟩ := (ok.ow x hx).o.there
    rw [z, (ep.nw e he).1] at hu
    cases hu
  have ok2 := ok1.adopt (new := new) (fun e he => by
    cases z : E.H e.1 with
    | none => rfl
    | some o =>
      obtain ⟨o1, z1⟩ := ok.p.al _ o z
      rw [(ep.nw e he).1] at z1
      cases z1) (fun e he => (ep.nw e he).2) hT ep.nd
  refine q v d _ F' H' p ok2 ⟨fr1.ff, fr1.hh, fr1.nw, fun e he => ?_⟩ ep.po.al iv
  rcases List.mem_append.mp he with he | he
  · obtain ⟨x, hx, rfl⟩ := List.mem_map.mp he
    exact .inr (ep.nw x hx).1
  · exact fr1.tt e he
/-- an exception behind a call -/
def Exc (K : PySem.W.Frag) (E : Ent) (EE : L2.St → XK) (PX : Value → Tb → Prop) (ds : Sls) : Prop := ∀ cls T F σ H, PX cls T → Ok K E F ds T σ H → EE σ cls none H
theorem no_exc : Exc K E EE (fun _ _ => False) ds := fun _ _ _ _ _ h _ => h.elim
abbrev NoX : Value → List OB → Prop := fun _ _ => False
/-- f(..) that owns nothing -/
theorem ae_call0 {PX : Value → Tb → Prop} (hx : Exc K E EE PX ds) (h : AA K E ta ds T fun dd T' => A dd [] (fun d os new => P d (news new ++ T')) (fun cls _ => PX cls T')) : AE K E (tCallG (spA K A) EE ta) ds T P := fun F σ H Q ok q =>
  h F σ H _ ok fun vs dd T1 F1 H1 p1 ok1 fr1 al1 i1 => ⟨F1, dd, [], _, _, ok1.p.fh, i1, (fun e he => by cases he), List.nodup_nil, p1,
    fun v d os new F2 H2 p ep iv => (q.step fr1 al1).called ok1 ep (fun a ha => by cases ha) rfl rfl (fun i e e' h1 h2 => .inl ⟨(fun z => by cases z), by rw [h1] at h2; cases h2; rfl⟩) iv p,
    fun cls os F2 H2 p ep => hx cls T1 F2 σ H2 p (ok1.called ep.po (fun a ha => by cases ha) rfl rfl fun i e e' h1 h2 => .inl ⟨(fun z => by cases z), by rw [h1] at h2; cases h2; rfl⟩).1⟩
theorem set_maps {j : Nat} {e : Ow} {ob : OB} (hj : T[j]? = some e) : (T.set j ⟨e.a, e.loc, ob⟩).map (·.a) = T.map (·.a) ∧ (T.set j ⟨e.a, e.loc, ob⟩).map (·.loc) = T.map (·.loc) := by
  have hl := (List.getElem?_eq_some_iff.mp hj).1
  constructor
  · apply List.ext_getElem?
    intro i
    by_cases hi : j = i
    · subst hi
      rw [List.getElem?_map, List.getElem?_set_self hl, List.getElem?_map, hj]
      rfl
    · rw [List.getElem?_map, List.getElem?_set_ne hi, List.getElem?_map]
  · apply List.ext_getElem?
    intro i
    by_cases hi : j = i
    · subst hi
      rw [List.getElem?_map, List.getElem?_set_self hl, List.getElem?_map, hj]
      rfl
    · rw [List.getElem?_map, List.getElem?_set_ne hi, List.getElem?_map]
theorem one_ob {j : Nat} {e : Ow} {os : List OB} {new : Foot} {ob' : OB} (ok : Ok K E F ds T σ H) (hj : T[j]? = some e) (hos : os = [ob']) (ep : EndP K F H [(e.a, e.ob)] os new F' H') :
    ∀ (i : Nat) (x x' : Ow), T[i]? = some x → (T.set j ⟨e.a, e.loc, ob'⟩)[i]? = some x' → (x.a ∉ ([(e.a, e.ob)] : Foot).map (·.1) ∧ x'.ob = x.ob) ∨ IsO K F' H' x.a x'.ob := by
  intro i x x' h1 h2
  subst hos
  by_cases hi : j = i
  · subst hi
    rw [List.getElem?_set_self (List.getElem?_eq_some_iff.mp hj).1] at h2
    cases h2
    rw [hj] at h1
    cases h1
    exact .inr (ep.ow (e.a, ob') (List.mem_cons_self ..)).2
  · rw [List.getElem?_set_ne hi, h1] at h2
    cases h2
    refine .inl ⟨fun z => hi ?_, rfl⟩
    have z' : x.a = e.a := by
      have : x.a ∈ [e.a] := z
      exact List.mem_singleton.mp this
    exact nodup_at ok.nd (a := e.a) (by rw [List.getElem?_map, hj]; rfl) (by rw [List.getElem?_map, h1]; exact congrArg some z')
/-- f(..) that owns the object at place j of the table -/
theorem ae_call1 (j : Nat) {PX : Value → Tb → Prop} (hx : Exc K E EE PX ds) (h : AA K E ta ds T fun dd T' => ∃ e, T'[j]? = some e ∧ A dd [(e.a, e.ob)] (fun d os new => ∃ ob', os = [ob'] ∧ P d (news new ++ T'.set j ⟨e.a, e.loc, ob'⟩)) (fun cls os => ∃ ob', os = [ob'] ∧ PX cls (T'.set j ⟨e.a, e.loc, ob'⟩))) :
    AE K E (tCallG (spA K A) EE ta) ds T P := fun F σ H Q ok q =>
  h F σ H _ ok fun vs dd T1 F1 H1 ⟨e, hj, p1⟩ ok1 fr1 al1 i1 => by
    have he := ok1.ow e (List.mem_of_getElem? hj)
    have hO : ∀ a ∈ ([(e.a, e.ob)] : Foot).map (·.1), a ∈ ads T1 := fun a ha => by
      have : a ∈ [e.a] := ha
      rw [List.mem_singleton.mp this]
      exact List.mem_map.mpr ⟨e, List.mem_of_getElem? hj, rfl⟩
    refine ⟨F1, dd, [(e.a, e.ob)], _, _, ok1.p.fh, i1, fun x hx => ?_, by simp, p1, ?_, ?_⟩
    · rw [List.mem_singleton.mp hx]
      exact ⟨he.f, he.o⟩
    · rintro v d os new F2 H2 ⟨ob', hos, p⟩ ep iv
      exact (q.step fr1 al1).called ok1 ep hO (set_maps hj).1 (set_maps hj).2 (one_ob ok1 hj hos ep) iv p
    · rintro cls os F2 H2 ⟨ob', hos, p⟩ ep
      exact hx cls _ F2 σ H2 p (ok1.called ep.po hO (set_maps hj).1 (set_maps hj).2 (one_ob ok1 hj hos ep)).1
/-! ### a def's body against its contract -/
def slots (N : List Str) (dd : List D) : Sls := dd.map some ++ List.replicate (N.length - dd.length) none
/-- what a return must show -/
inductive Ret (P : D → List OB → Foot → Prop) (T : Foot) (d : D) (T' : Tb) : Prop
  | mk (os : List OB) (new : Foot) : P d os new → os.length = T.length → (∀ (m : Nat) (a : Addr) (o : OB), (T.map (·.1))[m]? = some a → os[m]? = some o → ⟨a, false, o⟩ ∈ T') → (∀ e ∈ new, ⟨e.1, true, e.2⟩ ∈ T') → (new.map (·.1)).Nodup → Ret P T d T'
def foot (T : Foot) : Tb := T.map fun e => ⟨e.1, false, e.2⟩
theorem ret0 {Pd : D → List OB → Foot → Prop} (h : Pd d [] []) : Ret Pd [] d T := .mk [] [] h rfl (fun _ _ _ z => by cases z) (fun _ z => by cases z) List.nodup_nil
theorem ret1 {Pd : D → List OB → Foot → Prop} {a : Addr} {o o' : OB} (h : Pd d [o'] []) (hm : ⟨a, false, o'⟩ ∈ T) : Ret Pd [(a, o)] d T := .mk [o'] [] h rfl (fun m b x h1 h2 => by
  match m, h1, h2 with
  | 0, h1, h2 =>
    cases h1
    cases h2
    exact hm
  | m + 1, h1, h2 => simp at h2) (fun _ z => by cases z) List.nodup_nil
theorem retN {Pd : D → List OB → Foot → Prop} {a : Addr} {o : OB} (h : Pd (.adr a) [] [(a, o)]) (hm : ⟨a, true, o⟩ ∈ T) : Ret Pd [] (.adr a) T := .mk [] [(a, o)] h rfl (fun _ _ _ z => by cases z) (fun e z => by
  rw [List.mem_singleton.mp z]
  exact hm) (by simp)
theorem ret1N {Pd : D → List OB → Foot → Prop} {a b : Addr} {o o' ob : OB} (h : Pd d [o'] [(b, ob)]) (hm : ⟨a, false, o'⟩ ∈ T) (hb : ⟨b, true, ob⟩ ∈ T) : Ret Pd [(a, o)] d T := .mk [o'] [(b, ob)] h rfl (fun m c x h1 h2 => by
  match m, h1, h2 with
  | 0, h1, h2 =>
    cases h1
    cases h2
    exact hm
  | m + 1, h1, h2 => simp at h2) (fun e z => by
  rw [List.mem_singleton.mp z]
  exact hb) (by simp)
theorem EndP.of {Tf : Foot} {os : List OB} {new : Foot} (nd : (Tf.map (·.1)).Nodup) (ok : Ok K ⟨F, H, Tf.map (·.1)⟩ F' ds T σ H') (ln : os.length = Tf.length) (h1 : ∀ (m : Nat) (a : Addr) (o : OB), (Tf.map (·.1))[m]? = some a → os[m]? = some o → ⟨a, false, o⟩ ∈ T)
    (h2 : ∀ e ∈ new, ⟨e.1, true, e.2⟩ ∈ T) (nd2 : (new.map (·.1)).Nodup) : EndP K F H Tf os new F' H' := by
  refine ⟨ok.p, ln, fun e he => ?_, fun e he => ?_, nd2⟩
  · obtain ⟨m, hm⟩ := List.getElem?_of_mem he
    rw [List.getElem?_zip_eq_some] at hm
    have w := ok.ow _ (h1 m e.1 e.2 hm.1 hm.2)
    exact ⟨w.f, w.o⟩
  · have w := ok.ow _ (h2 e he)
    exact ⟨w.l rfl, w.f, w.o⟩
/-- the entry: from the promise's premise to the state of the body -/
theorem enter {N : List Str} {vs : List V} {Q : VK} {X : XK} (h : spA K A vs H Q X) : ∃ F dd T P PX, A dd T P PX ∧ vs.length = dd.length ∧ Ok K ⟨F, H, T.map (·.1)⟩ F (slots N dd) (foot T) (L2.start N vs) H ∧
    (∀ d T' v F' ds' σ' H', Ret P T d T' → Ok K ⟨F, H, T.map (·.1)⟩ F' ds' T' σ' H' → Is K F' v d → Q v H') ∧ (∀ cls T' F' ds' σ' H', Ret (fun _ os _ => PX cls os) T .non T' → Ok K ⟨F, H, T.map (·.1)⟩ F' ds' T' σ' H' → X cls none H') := by
  obtain ⟨F, dd, T, P, PX, hF, ia, ow, nd, hA, hQ, hX⟩ := h
  have e1 : (foot T).map (·.a) = T.map (·.1) := by unfold foot; rw [List.map_map]; rfl
  refine ⟨F, dd, T, P, PX, hA, ia.len, ⟨⟨Ex.refl F, fun _ _ z _ => z, fun a o z => ⟨o, z⟩, hF, fun _ _ z _ => z⟩, ?_, ?_, ?_, by rw [e1]; exact nd⟩, ?_, ?_⟩
  · unfold L2.start slots
    rw [List.length_append, List.length_append, List.length_map, List.length_map, List.length_replicate, List.length_replicate, ia.len]
  · intro i d hd
    unfold slots at hd
    have hi : i < dd.length := by
      by_cases z : i < dd.length
      · exact z
      · rw [List.getElem?_append_right (by rw [List.length_map]; omega), List.getElem?_replicate] at hd
        split at hd <;> cases hd
    rw [List.getElem?_append_left (by rw [List.length_map]; exact hi), List.getElem?_map, List.getElem?_eq_getElem hi] at hd
    obtain ⟨v, h1, h2⟩ := ia.get (List.getElem?_eq_getElem hi)
    have hd' : dd[i] = d := by
      have := Option.some.inj hd
      exact Option.some.inj this
    rw [hd'] at h2
    refine ⟨v, ?_, h2⟩
    unfold L2.start
    rw [List.getElem?_append_left (by rw [List.length_map, ia.len]; exact hi), List.getElem?_map, h1]
    rfl
  · intro e he
    obtain ⟨x, hx, rfl⟩ := List.mem_map.mp he
    have w := ow x hx
    exact ⟨w.1, w.2, (fun z => by cases z), fun _ => ⟨List.mem_map.mpr ⟨x, hx, rfl⟩, w.2.there⟩⟩
  · rintro d T' v F' ds' σ' H' ⟨os, new, p, ln, h1, h2, nd2⟩ ok iv
    exact hQ v d os new F' H' p (EndP.of nd ok ln h1 h2 nd2) iv
  · rintro cls T' F' ds' σ' H' ⟨os, new, p, ln, h1, h2, nd2⟩ ok
    exact hX cls os F' H' p (EndP.of nd ok ln h1 (new := []) (fun _ z => by cases z) List.nodup_nil)
/-- the body, from its reading -/
theorem body {N : List Str} {vs : List V} {Q : VK} {X : XK} {t : TS} (h : spA K A vs H Q X)
    (hb : ∀ (F : Hp) (dd : List D) (Tf : Foot) (P : D → List OB → Foot → Prop) (PX : Value → List OB → Prop), A dd Tf P PX → vs.length = dd.length →
      (∀ cls T' F' ds' σ' H', Ret (fun _ os _ => PX cls os) Tf .non T' → Ok K ⟨F, H, Tf.map (·.1)⟩ F' ds' T' σ' H' → X cls none H') →
      AS K ⟨F, H, Tf.map (·.1)⟩ t (slots N dd) (foot Tf) (fun _ T' => Ret P Tf .non T') (fun d T' => Ret P Tf d T') (fun _ _ => False) (fun _ _ => False)) : t { nx := fun _ H' => Q .non H', rt := Q } (L2.start N vs) H := by
  obtain ⟨F, dd, Tf, P, PX, hA, hl, ok, hr, hx⟩ := enter (N := N) h
  exact hb F dd Tf P PX hA hl hx F (L2.start N vs) H _ ok ⟨fun ds' T' F' σ' H' p ok' _ => hr .non T' .non F' ds' σ' H' p ok' .non, fun d T' v F' ds' σ' H' p ok' _ iv => hr d T' v F' ds' σ' H' p ok' iv, fun _ _ _ _ _ p => p.elim, fun _ _ _ _ _ p => p.elim⟩
end
end AW

/-! AW: rules as the printer of terms writes them; the steps of a proof as short words. -/
namespace AW
open PySem PySem.Spec PyProof.Rows L2 Evl
section
variable {X : Cx}
theorem ptT {a : Expr} {ta : TE} (ha : PE X a ta) (he : ∀ whole, isTrue a X.env whole = (do let v ← whole; standAt a.pos; holding [v] (truthy v))) : PT X a (tTru X.K ta) := pt_truth ha he
/-- a walk over a list or a tuple -/
def iU (K : PySem.W.Frag) (tl : TE) : TI := fun σ H R => iList K tl σ H R ∨ iTup K tl σ H R
theorem pi_u {tg l : Expr} {tl : TE} (h : PE X l tl) : PI X tg l (iU X.K tl) := ⟨fun pins s σ H R I q => q.elim ((pi_list h).run pins s σ H R I) ((pi_tup h).run pins s σ H R I)⟩
theorem passN (σ : L2.St) {E : XK} : PassesAt CX0 X σ E := fun _ _ _ _ _ _ h => h.elim
end
section
variable {K : PySem.W.Frag} {E : Ent} {ds : Sls} {T : Tb} {P : PD} {te tl : TE} {tb : TS} {tt : TT} {g : TG} {N B C : PS2} {R : PD}
theorem as_uL (h : AS K E (tFor (iList K tl) g tb) ds T N R B C) : AS K E (tFor (iU K tl) g tb) ds T N R B C := fun F σ H D ok k => .inl (h F σ H D ok k)
theorem as_uT (h : AS K E (tFor (iTup K tl) g tb) ds T N R B C) : AS K E (tFor (iU K tl) g tb) ds T N R B C := fun F σ H D ok k => .inr (h F σ H D ok k)
theorem ae_uL {vs : List Nat} (h : AE K E (tLc (iList K tl) g tt te vs) ds T P) : AE K E (tLc (iU K tl) g tt te vs) ds T P := fun F σ H Q ok q => .inl (h F σ H Q ok q)
theorem ae_uT {vs : List Nat} (h : AE K E (tLc (iTup K tl) g tt te vs) ds T P) : AE K E (tLc (iU K tl) g tt te vs) ds T P := fun F σ H Q ok q => .inr (h F σ H Q ok q)
theorem at_yes {P : Bool → Tb → Prop} (p : P true T) : AT K E tYes ds T P := fun F σ H Q ok q => q true T F H p ok (Fr.refl T F H) id_al
theorem spA_ln {A : Con0} {n : Nat} (h : ∀ dd T P PX, A dd T P PX → dd.length = n) : ∀ (vs : List V) (H : Hp) (Q : VK) (X : XK), spA K A vs H Q X → vs.length = n := fun vs H Q X ⟨F, dd, Tf, P, PX, _, ia, _, _, hA, _⟩ => ia.len.trans (h dd Tf P PX hA)
end

theorem hu5_of {A : Around} {k : Nat} (hr : Room k A) : A.units + 65 < cLine := by
  have := hr.un
  omega
/-! ### calls that read what is owned, and change nothing of it -/
def toFoot (T : Tb) : Foot := T.map fun e => (e.a, e.ob)
section
variable {K : PySem.W.Frag} {E : Ent} {F H F' H' : Hp} {ds : Sls} {T : Tb} {σ : L2.St} {v : V} {d : D} {P : PD} {ta : TA} {te : TE} {A : Con0} {EE : L2.St → XK}
theorem foot_get {j : Nat} {e : Ow} (h : T[j]? = some e) : (foot (toFoot T))[j]? = some ⟨e.a, false, e.ob⟩ := by
  unfold foot toFoot
  rw [List.map_map, List.getElem?_map, h]
  rfl
theorem LV.foot {xs : List D} (l : LV T d xs) : LV (foot (toFoot T)) d xs := by
  cases l with
  | f => exact .f _
  | r => exact .r _
  | @o j e _ h1 h2 => exact .o (e := ⟨e.a, false, e.ob⟩) (foot_get h1) h2
theorem LW.foot {xs : List D} (l : LW T d xs) : LW (foot (toFoot T)) d xs := by
  cases l with
  | f => exact .f _
  | @o j e _ h1 h2 => exact .o (e := ⟨e.a, false, e.ob⟩) (foot_get h1) h2
theorem Dv.foot {q : PyData} (l : Dv T d q) : Dv (foot (toFoot T)) d q := by
  cases l with
  | p h => exact .p h
  | @o j e _ h1 h2 h3 => exact .o (e := ⟨e.a, false, e.ob⟩) (foot_get h1) h2 h3
theorem toFoot_fst : (toFoot T).map (·.1) = T.map (·.a) := by unfold toFoot; rw [List.map_map]; rfl
theorem all_ob {os : List OB} {new : Foot} (hos : os = T.map (·.ob)) (ep : EndP K F H (toFoot T) os new F' H') : ∀ (i : Nat) (x x' : Ow), T[i]? = some x → T[i]? = some x' → (x.a ∉ (toFoot T).map (·.1) ∧ x'.ob = x.ob) ∨ IsO K F' H' x.a x'.ob := by
  intro i x x' h1 h2
  rw [h1] at h2
  cases h2
  refine .inr (ep.ow (x.a, x.ob) ?_).2
  rw [hos, toFoot_fst]
  refine List.mem_of_getElem? (i := i) ?_
  rw [List.getElem?_zip_eq_some]
  exact ⟨by rw [List.getElem?_map, h1]; rfl, by rw [List.getElem?_map, h1]; rfl⟩
theorem ae_callT {PX : Value → Tb → Prop} (hx : Exc K E EE PX ds) (h : AA K E ta ds T fun dd T' => A dd (toFoot T') (fun d os new => os = T'.map (·.ob) ∧ P d (news new ++ T')) (fun cls os => os = T'.map (·.ob) ∧ PX cls T')) :
    AE K E (tCallG (spA K A) EE ta) ds T P := fun F σ H Q ok q =>
  h F σ H _ ok fun vs dd T1 F1 H1 p1 ok1 fr1 al1 i1 => by
    have hO : ∀ a ∈ (toFoot T1).map (·.1), a ∈ ads T1 := fun a ha => by
      rw [toFoot_fst] at ha
      exact ha
    refine ⟨F1, dd, toFoot T1, _, _, ok1.p.fh, i1, fun x hx => ?_, by rw [toFoot_fst]; exact ok1.nd, p1, ?_, ?_⟩
    · obtain ⟨e, he, rfl⟩ := List.mem_map.mp hx
      exact ⟨(ok1.ow e he).f, (ok1.ow e he).o⟩
    · rintro v d os new F2 H2 ⟨hos, p⟩ ep iv
      exact (q.step fr1 al1).called ok1 ep hO rfl rfl (all_ob hos ep) iv p
    · rintro cls os F2 H2 ⟨hos, p⟩ ep
      exact hx cls _ F2 σ H2 p (ok1.called ep.po hO rfl rfl (all_ob hos ep)).1
/-- o.m(..) on a frozen instance -/
theorem is_ins {C : Addr} {ns : List Str} {xs : List D} (i : Is K F v (.ins C ns xs)) : ∃ a dx vs, v = .ref a ∧ F a = some (.ins C dx (ns.zip vs)) ∧ ns.length = vs.length ∧ IsA K F vs xs := by
  cases i with
  | ins h1 h2 h3 => exact ⟨_, _, _, rfl, h1, h2, h3⟩
theorem zip_none {m : Str} : ∀ {ns : List Str} {vs : List V}, m ∉ ns → (ns.zip vs).lookup m = none
  | [], _, _ => rfl
  | _ :: _, [], _ => rfl
  | n :: ns, v :: vs, h => by
    rw [List.zip_cons_cons, List.lookup_cons, beq_false_of_ne (fun z => h (by rw [z]; exact List.mem_cons_self ..))]
    exact zip_none fun z => h (List.mem_cons_of_mem _ z)
theorem ae_methT {C : Addr} {m : Str} {PX : Value → Tb → Prop} (hx : Exc K E EE PX ds) (h : AE K E te ds T fun d0 T0 => ∃ ns xs, d0 = .ins C ns xs ∧ m ∉ ns ∧
      AA K E ta ds T0 fun dd T' => A (d0 :: dd) (toFoot T') (fun d os new => os = T'.map (·.ob) ∧ P d (news new ++ T')) (fun cls os => os = T'.map (·.ob) ∧ PX cls T')) :
    AE K E (tMethG C m (spA K A) EE te ta) ds T P := fun F σ H Q ok q =>
  h F σ H _ ok fun v0 d0 T0 F0 H0 ⟨ns, xs, hd, hm, p0⟩ ok0 fr0 al0 i0 => by
    subst hd
    obtain ⟨a, dx, vs0, rfl, h1, h2, h3⟩ := is_ins i0
    refine ⟨a, dx, _, rfl, ok0.p.fh _ _ h1, zip_none hm, ?_⟩
    refine p0 F0 σ H0 _ ok0 fun vs dd T1 F1 H1 p1 ok1 fr1 al1 i1 => ?_
    have hO : ∀ a ∈ (toFoot T1).map (·.1), a ∈ ads T1 := fun a ha => by
      rw [toFoot_fst] at ha
      exact ha
    refine ⟨F1, _ :: dd, toFoot T1, _, _, ok1.p.fh, .cons (i0.mono fr1.ff) i1, fun x hx => ?_, by rw [toFoot_fst]; exact ok1.nd, p1, ?_, ?_⟩
    · obtain ⟨e, he, rfl⟩ := List.mem_map.mp hx
      exact ⟨(ok1.ow e he).f, (ok1.ow e he).o⟩
    · rintro v d os new F2 H2 ⟨hos, p⟩ ep iv
      exact ((q.step fr0 al0).step fr1 al1).called ok1 ep hO rfl rfl (all_ob hos ep) iv p
    · rintro cls os F2 H2 ⟨hos, p⟩ ep
      exact hx cls _ F2 σ H2 p (ok1.called ep.po hO rfl rfl (all_ob hos ep)).1
/-- a return that has changed nothing owned -/
theorem foot_mem {Tf : Foot} {m : Nat} {a : Addr} {o : OB} (h1 : (Tf.map (·.1))[m]? = some a) (h2 : (Tf.map (·.2))[m]? = some o) : ⟨a, false, o⟩ ∈ foot Tf := by
  rw [List.getElem?_map] at h1 h2
  cases e : Tf[m]? with
  | none => rw [e] at h1; cases h1
  | some x =>
    rw [e] at h1 h2
    cases h1
    cases h2
    exact List.mem_map.mpr ⟨x, List.mem_of_getElem? e, rfl⟩
theorem retT {Pd : D → List OB → Foot → Prop} {Tf : Foot} (h : Pd d (Tf.map (·.2)) []) (hs : ∀ e ∈ foot Tf, e ∈ T) : Ret Pd Tf d T :=
  .mk _ [] h (by rw [List.length_map]) (fun m a o h1 h2 => hs _ (foot_mem h1 h2)) (fun _ z => by cases z) List.nodup_nil
theorem retTN {Pd : D → List OB → Foot → Prop} {Tf : Foot} {a : Addr} {o : OB} (h : Pd (.adr a) (Tf.map (·.2)) [(a, o)]) (hs : ∀ e ∈ foot Tf, e ∈ T) (hm : ⟨a, true, o⟩ ∈ T) : Ret Pd Tf (.adr a) T :=
  .mk _ [(a, o)] h (by rw [List.length_map]) (fun m a o h1 h2 => hs _ (foot_mem h1 h2)) (fun e z => by
    rw [List.mem_singleton.mp z]
    exact hm) (by simp)
end
/-! ### the words of a proof -/
theorem rd_any {K : PySem.W.Frag} {E : Ent} {r : R2} {T : Tb} {d1 d2 : D} {P P' : PD} (h : RD K E r T d1 d2 P') (k : ∀ d T', P' d T' → P d T') : RD K E r T d1 d2 P := fun F σ ds H v1 v2 Q ok i1 i2 q => h F σ ds H v1 v2 Q ok i1 i2 fun v d T' F' H' p => q v d T' F' H' (k d T' p)
end AW

/-! AW: dicts whose keys are tuples, instances, ghost steps. -/
namespace AW
open PySem PySem.Spec PyProof.Rows L2 Evl

/-! ### d.setdefault(key, x), the key a tuple -/
def tSetdT (td ty tx : TE) : TE := fun σ H Q => td σ H fun x H1 => ∃ a, x = .ref a ∧ IsD H1 a ∧ ty σ H1 fun y H2 => tx σ H2 fun z H3 =>
  ∃ (kvs : List (List Key × V)) (k : List Key) (b : Addr), H3 a = some (.dT kvs) ∧ y = .ref b ∧ H3 b = some (.tup (k.map kV)) ∧ kvs.length < sizeLine ∧ (∀ v, valV kvs k = some v → Q v H3) ∧ (valV kvs k = none → Q z (upd H3 a (.dT (putK kvs k z))))
section
variable {X : Cx} {pins : List (Addr × Obj)} {σ : L2.St} {H : Hp} {s : Shared} {a b : Addr} {r : Value} {d : V} {k : List Key} {A : Around} {E : Value → Shared → Prop}
theorem setdT {kvs : List (List Key × V)} {Q : Value → Shared → Prop} (hu : A.units + 1 < cLine) (I : Inv X pins σ H s) (e : H a = some (.dT kvs)) (eb : H b = some (.tup (k.map kV))) (rd : RelV d r) (hl : kvs.length < sizeLine)
    (h1 : ∀ v, valV kvs k = some v → ∀ (u : Value) (s' : Shared), Inv X pins σ H s' → RelV v u → Q u s') (h2 : valV kvs k = none → ∀ (u : Value) (s' : Shared), Inv X pins σ (upd H a (.dT (putK kvs k d))) s' → RelV d u → Q u s') :
    wpAny (model X.prog X.w) A (call (.builtin "dict.setdefault") [.ref a, .ref b, r]) Q E s := by
  obtain ⟨z, hd, xs, rel, dd⟩ := dt_of I.hok e
  have hz : xs.length ≤ sizeLine := Nat.le_trans (Nat.le_of_eq (Paired.length rel).symm) z
  refine call_setdefault_heap (hsz := hz) (knd := tupleKind (mixKind X.prog X.w)) (tupleKind_room_in1 hu) (key_of I.hok eb) hd dd (fun p hp => ?_) fun hn h' dd' hs => ?_
  · have q := rel.val k
    rw [hp] at q
    cases q0 : valV kvs k with
    | none => rw [q0] at q; exact (show False from q).elim
    | some v => rw [q0] at q; exact h1 v q0 _ _ (I.tok _) q
  · have q := rel.val k
    rw [hn] at q
    cases q0 : valV kvs k with
    | some v => rw [q0] at q; exact (show False from q).elim
    | none =>
      have hl2 : (putK kvs k d).length ≤ sizeLine := by
        have := length_putK kvs k d
        omega
      obtain ⟨ob, es, ep, hq, g2, g3, g4, _, g5⟩ := dd'
      refine h2 q0 _ _ (d_write I (by rw [e]; trivial) hs ⟨ob, hq⟩ ⟨hl2, hd, _, (rel.put k eb rd).keeps fun c ys ec => ?_, ob, es, ep, hq, g2, g3, g4, g5⟩) rd
      rw [upd_ne (ne_of ec e nofun)]
      exact ec
variable {o e f : Expr} {td ty tx : TE} {apos cpos : Pos}
theorem pe_setdT (hu : X.A.units + 1 < cLine) (ho : PE X o td) (he : PE X e ty) (hf : PE X f tx) (m : M2 X o "setdefault" apos e f cpos) : PE X (.Call (.Attribute o "setdefault" apos) [e, f] [] cpos) (tSetdT td ty tx) := by
  constructor
  intro pins s σ H Q I h
  refine wpAny_Call_method m.base m.few m.line PySem.F.plainAttrs_dict PySem.F.slot_dict_setdefault PySem.F.type_dict_setdefault (thn (ho.run pins s σ H _ I h) ?_)
  rintro u s1 ⟨x, H1, I1, rx, a, rfl, d, q1⟩
  obtain rfl : u = Value.ref a := rx
  obtain ⟨t1, t2, _⟩ := isD_at I1 d
  refine ⟨t1, t2, ?_⟩
  rw [m.trees]
  refine Calls.callWith_builtin rfl (Calls.evalArgs_plain (Calls.spliced_cons (thn (he.run pins s1 σ H1 _ I1 q1) ?_)))
  rintro iv s2 ⟨y, H2, I2, ry, q2⟩
  refine Calls.spliced_cons (thn (hf.run pins s2 σ H2 _ I2 q2) ?_)
  rintro fv s3 ⟨z, H3, I3, rz, kvs, k, b, ea, rfl, eb, hl, q3, q4⟩
  obtain rfl : iv = Value.ref b := ry
  exact Calls.spliced_nil (setdT hu I3 ea eb rz hl (fun v hv w' s4 I4 rw' => ⟨v, _, I4, rw', q3 v hv⟩) fun hn w' s4 I4 rw' => ⟨z, _, I4, rw', q4 hn⟩)
end

/-! ### keys as data -/
def kD : Key → D
  | .inl i => .int i
  | .inr x => .str x
def getD (ks : List (List Key)) (ds : List D) (k : List Key) : Option D := ((ks.zip ds).find? fun kv => decide (kv.1 = k)).map (·.2)
section
variable {K : PySem.W.Frag} {E : Ent} {F H : Hp} {ds : Sls} {T : Tb} {σ : L2.St} {v : V} {d : D} {P : PD} {te td ty tx tv : TE} {ta : TA} {N B C : PS2} {R : PD} {t : TS}
theorem keys_are : ∀ {k : List Key} {vs : List V}, IsA K F vs (k.map kD) → vs = k.map kV
  | [], _, .nil => rfl
  | .inl i :: k, _, .cons h t => by
    cases h
    rw [keys_are t]
    rfl
  | .inr x :: k, _, .cons h t => by
    cases h
    rw [keys_are t]
    rfl
theorem key_is {k : List Key} (i : Is K F v (.tup (k.map kD))) : ∃ b, v = .ref b ∧ F b = some (.tup (k.map kV)) := by
  obtain ⟨b, vs, rfl, h1, t1⟩ := i.tupT
  rw [keys_are t1] at h1
  exact ⟨b, rfl, h1⟩
theorem get_is {k : List Key} : ∀ {ks : List (List Key)} {vs : List V} {xs : List D}, IsA K F vs xs → (∀ d, getD ks xs k = some d → ∃ v, valV (ks.zip vs) k = some v ∧ Is K F v d) ∧ (getD ks xs k = none → valV (ks.zip vs) k = none)
  | [], _, _, _ => ⟨fun d h => by simp [getD] at h, fun _ => rfl⟩
  | k0 :: ks, _, _, .nil => ⟨fun d h => by simp [getD] at h, fun _ => rfl⟩
  | k0 :: ks, _, _, .cons (v := v) (d := d0) (vs := vs) (ds := xs) h t => by
    by_cases e : k0 = k
    · constructor
      · intro d hd
        unfold getD at hd
        rw [List.zip_cons_cons, List.find?_cons_of_pos (by simp [e])] at hd
        have hd' : d0 = d := Option.some.inj hd
        subst hd'
        exact ⟨v, by rw [List.zip_cons_cons]; exact valV_pos e, h⟩
      · intro hd
        unfold getD at hd
        rw [List.zip_cons_cons, List.find?_cons_of_pos (by simp [e])] at hd
        cases hd
    · obtain ⟨g1, g2⟩ := get_is (k := k) (ks := ks) t
      have e1 : getD (k0 :: ks) (d0 :: xs) k = getD ks xs k := by
        unfold getD
        rw [List.zip_cons_cons, List.find?_cons_of_neg (by simp [e])]
      have e2 : valV ((k0 :: ks).zip (v :: vs)) k = valV (ks.zip vs) k := by rw [List.zip_cons_cons]; exact valV_neg e
      rw [e1, e2]
      exact ⟨g1, g2⟩
/-- {}: to be filled with keys that are tuples -/
theorem ae_newT (p : ∀ a, P (.adr a) (⟨a, true, .dT [] []⟩ :: T)) : AE K E tDNewT ds T P := fun F σ H Q ok q => fun a ha => q.newO ok ha (p a) ⟨[], upd_same, rfl, .nil⟩
theorem Ok.dT_at {j : Nat} {a : Addr} {l : Bool} {ks : List (List Key)} {xs : List D} (ok : Ok K E F ds T σ H) (hj : T[j]? = some ⟨a, l, .dT ks xs⟩) : ∃ vs, H a = some (.dT (ks.zip vs)) ∧ ks.length = vs.length ∧ IsA K F vs xs := (ok.ow _ (List.mem_of_getElem? hj)).o
theorem ae_setdT (h : AE K E td ds T fun d T1 => ∃ a, d = .adr a ∧ (∃ (j : Nat) (l : Bool) (ks : List (List Key)) (xs : List D), T1[j]? = some ⟨a, l, .dT ks xs⟩) ∧ AE K E ty ds T1 fun d2 T2 => AE K E tx ds T2 fun d3 T3 => ∃ (k : List Key) (j : Nat) (l : Bool) (ks : List (List Key)) (xs : List D), d2 = .tup (k.map kD) ∧ T3[j]? = some ⟨a, l, .dT ks xs⟩ ∧ ks.length < 100000 ∧
      (∀ d, getD ks xs k = some d → P d T3) ∧ (getD ks xs k = none → P d3 (T3.set j ⟨a, l, .dT (ks ++ [k]) (xs ++ [d3])⟩))) : AE K E (tSetdT td ty tx) ds T P := fun F σ H Q ok q =>
  h F σ H _ ok fun v1 d1 T1 F1 H1 ⟨a, hd, ⟨j0, l0, ks0, xs0, hj0⟩, p1⟩ ok1 fr1 al1 i1 => by
    subst hd
    cases i1
    obtain ⟨vs0, e0, _, _⟩ := ok1.dT_at hj0
    refine ⟨a, rfl, .inr ⟨_, .inl e0⟩, p1 F1 σ H1 _ ok1 fun v2 d2 T2 F2 H2 p2 ok2 fr2 al2 i2 => p2 F2 σ H2 _ ok2 fun v3 d3 T3 F3 H3 p3 ok3 fr3 al3 i3 => ?_⟩
    obtain ⟨k, j, l, ks, xs, rfl, hj, hlen, c1, c2⟩ := p3
    obtain ⟨b, rfl, hb⟩ := key_is (i2.mono fr3.ff)
    obtain ⟨vs, e3, hl, t3⟩ := ok3.dT_at hj
    obtain ⟨g1, g2⟩ := get_is (k := k) (ks := ks) t3
    have q3 := ((q.step fr1 al1).step fr2 al2).step fr3 al3
    have zl : (ks.zip vs).length = ks.length := by rw [List.length_zip]; omega
    refine ⟨ks.zip vs, k, b, e3, rfl, ok3.p.fh _ _ hb, by rw [zl]; exact sz_lt hlen, fun v hv => ?_, fun hn => ?_⟩
    · cases z : getD ks xs k with
      | none => rw [g2 z] at hv; cases hv
      | some d =>
        obtain ⟨w, hw, iw⟩ := g1 d z
        rw [hv] at hw
        cases hw
        exact q3.ret ok3 (c1 d z) iw
    · cases z : getD ks xs k with
      | some d =>
        obtain ⟨w, hw, _⟩ := g1 d z
        rw [hn] at hw
        cases hw
      | none =>
        have e : putK (ks.zip vs) k v3 = (ks ++ [k]).zip (vs ++ [v3]) := by
          rw [putK_new _ hn, List.zip_append hl]
          rfl
        rw [e]
        exact q3.mut ok3 hj (c2 z) ⟨vs ++ [v3], upd_same, by rw [List.length_append, List.length_append, hl]; rfl, t3.append (.one i3)⟩ i3
/-- a dict as it may lie -/
inductive TV (T : Tb) : D → List (List Key) → List D → Prop
  | f (ks : List (List Key)) (xs : List D) : TV T (.dT ks xs) ks xs
  | o {j : Nat} {e : Ow} {ks : List (List Key)} {xs : List D} : T[j]? = some e → e.ob = .dT ks xs → TV T (.adr e.a) ks xs
theorem TV.at {ks : List (List Key)} {xs : List D} (l : TV T d ks xs) (ok : Ok K E F ds T σ H) (i : Is K F v d) : ∃ a vs, v = .ref a ∧ H a = some (.dT (ks.zip vs)) ∧ IsA K F vs xs := by
  cases l with
  | f =>
    cases i with
    | dT h1 h2 t => exact ⟨_, _, rfl, ok.p.fh _ _ h1, t⟩
  | @o j e _ _ hj he =>
    cases i
    have w := (ok.ow e (List.mem_of_getElem? hj)).o
    rw [he] at w
    obtain ⟨vs, h1, _, h2⟩ := w
    exact ⟨_, vs, rfl, h1, h2⟩
theorem ae_get2T (h : AE K E td ds T fun d T1 => (∃ ks xs, TV T1 d ks xs) ∧ AE K E ty ds T1 fun d2 T2 => AE K E tx ds T2 fun d3 T3 => ∃ (k : List Key) (ks : List (List Key)) (xs : List D), d2 = .tup (k.map kD) ∧ TV T3 d ks xs ∧ P ((getD ks xs k).getD d3) T3) :
    AE K E (tDGet2 td ty tx) ds T P := fun F σ H Q ok q =>
  h F σ H _ ok fun v1 d1 T1 F1 H1 ⟨⟨ks0, xs0, tv0⟩, p1⟩ ok1 fr1 al1 i1 => by
    obtain ⟨a, vs0, rfl, e0, _⟩ := tv0.at ok1 i1
    refine ⟨a, rfl, .inr ⟨_, .inl e0⟩, p1 F1 σ H1 _ ok1 fun v2 d2 T2 F2 H2 p2 ok2 fr2 al2 i2 => p2 F2 σ H2 _ ok2 fun v3 d3 T3 F3 H3 p3 ok3 fr3 al3 i3 => ?_⟩
    obtain ⟨k, ks, xs, rfl, tv, p⟩ := p3
    obtain ⟨b, rfl, hb⟩ := key_is (i2.mono fr3.ff)
    obtain ⟨a', vs, ea, e3, t3⟩ := tv.at ok3 (i1.mono (fr2.ff.trans fr3.ff))
    cases ea
    obtain ⟨g1, g2⟩ := get_is (k := k) (ks := ks) t3
    have q3 := ((q.step fr1 al1).step fr2 al2).step fr3 al3
    refine ⟨valV (ks.zip vs) k, DGet.t e3 (ok3.p.fh _ _ hb), ?_⟩
    cases z : getD ks xs k with
    | none =>
      rw [z] at p
      rw [g2 z]
      exact q3.ret ok3 p i3
    | some d =>
      obtain ⟨w, hw, iw⟩ := g1 d z
      rw [z] at p
      rw [hw]
      exact q3.ret ok3 p iw

/-! ### instances -/
theorem lookup_putF_zip {f : Str} {y : V} : ∀ {ns : List Str} {vs : List V}, ns.length = vs.length → f ∉ ns → putF f y (ns.zip vs) = (ns ++ [f]).zip (vs ++ [y])
  | [], [], _, _ => rfl
  | n :: ns, v :: vs, hl, h => by
    have hn : ¬ n = f := fun z => h (by rw [z]; exact List.mem_cons_self ..)
    have ih := lookup_putF_zip (f := f) (y := y) (ns := ns) (vs := vs) (by simpa using hl) fun z => h (List.mem_cons_of_mem _ z)
    show (if n = f then _ else (n, v) :: putF f y (ns.zip vs)) = _
    rw [if_neg hn, ih]
    rfl
/-- o.f = e, a field that is new -/
theorem as_fld {f : Str} {C0 : Addr} (cl : Cls K C0) (na : NoAttr K C0 f) (h : AE K E tv ds T fun d T1 => AE K E te ds T1 fun d2 T2 => ∃ (a : Addr) (j : Nat) (l : Bool) (ns : List Str) (xs : List D), d2 = .adr a ∧ T2[j]? = some ⟨a, l, .ins C0 ns xs⟩ ∧ f ∉ ns ∧ ns.length < 1000 ∧
      N ds (T2.set j ⟨a, l, .ins C0 (ns ++ [f]) (xs ++ [d])⟩)) : AS K E (sFld K te tv f) ds T N R B C := fun F σ H D ok k =>
  h F σ H _ ok fun v1 d1 T1 F1 H1 p1 ok1 fr1 al1 i1 => p1 F1 σ H1 _ ok1 fun v2 d2 T2 F2 H2 ⟨a, j, l, ns, xs, hd, hj, hf, hn, p⟩ ok2 fr2 al2 i2 => by
    subst hd
    cases i2
    obtain ⟨dx, vs, e1, e2, t⟩ : ∃ dx vs, H2 a = some (.ins C0 dx (ns.zip vs)) ∧ ns.length = vs.length ∧ IsA K F2 vs xs := (ok2.ow _ (List.mem_of_getElem? hj)).o
    refine ⟨a, C0, dx, _, rfl, e1, cl, na, by rw [List.length_zip]; omega, ?_⟩
    rw [lookup_putF_zip e2 hf]
    exact k.n ds _ F2 σ _ p (ok2.mut hj ⟨dx, vs ++ [v1], upd_same, by rw [List.length_append, List.length_append, e2]; rfl, t.append (.one (i1.mono fr2.ff))⟩) (fr1.ff.trans fr2.ff)
/-- C(..) -/
theorem ae_make {C0 : Addr} {A : Con0} {EE : L2.St → XK} {PX : Value → Tb → Prop} (hx : Exc K E EE PX ds) (h : AA K E ta ds T fun dd T' => ∀ x, A (.adr x :: dd) ((x, .ins C0 [] []) :: toFoot T')
      (fun d os new => d = .non ∧ ∃ ob, os = ob :: T'.map (·.ob) ∧ P (.adr x) (news new ++ ⟨x, true, ob⟩ :: T')) (fun cls os => ∃ ob, os = ob :: T'.map (·.ob) ∧ PX cls (⟨x, true, ob⟩ :: T'))) : AE K E (tMakeG C0 (spA K A) EE ta) ds T P := fun F σ H Q ok q =>
  h F σ H _ ok fun vs dd T1 F1 H1 p1 ok1 fr1 al1 i1 => by
    intro x dx nx ndx ne
    have okd := (ok1.newF (p := dx) (o := .own x) ndx).1
    have frd : Fr T1 F1 H1 T1 (upd F1 dx (.own x)) (upd H1 dx (.own x)) := Fr.newF (fresh_back ok1.p.fh ndx) ndx
    have nx2 : (upd H1 dx (.own x)) x = none := by rw [upd_ne (fun z => ne z.symm)]; exact nx
    have okx := okd.newO (p := x) (o := .ins C0 dx []) (ob := .ins C0 [] []) nx2 ⟨dx, [], upd_same, rfl, .nil⟩
    have q2 := ((q.step fr1 al1).step frd al_new).step (Fr.newO (ob := .ins C0 [] []) (o := .ins C0 dx []) nx2) al_new
    have hO : ∀ a ∈ ((x, OB.ins C0 [] []) :: toFoot T1).map (·.1), a ∈ ads (⟨x, true, .ins C0 [] []⟩ :: T1) := fun a ha => by
      rw [List.map_cons, toFoot_fst] at ha
      exact ha
    have hob : ∀ {os : List OB} {new : Foot} {ob : OB} {F2 H2 : Hp}, os = ob :: T1.map (·.ob) → EndP K (upd F1 dx (.own x)) (upd (upd H1 dx (.own x)) x (.ins C0 dx [])) ((x, OB.ins C0 [] []) :: toFoot T1) os new F2 H2 →
        ∀ (i : Nat) (e e' : Ow), (⟨x, true, .ins C0 [] []⟩ :: T1 : Tb)[i]? = some e → (⟨x, true, ob⟩ :: T1 : Tb)[i]? = some e' → (e.a ∉ ((x, OB.ins C0 [] []) :: toFoot T1).map (·.1) ∧ e'.ob = e.ob) ∨ IsO K F2 H2 e.a e'.ob := by
      intro os new ob F2 H2 hos ep i e e' h1 h2
      refine .inr ?_
      have z : e'.a = e.a := by
        match i, h1, h2 with
        | 0, h1, h2 => cases h1; cases h2; rfl
        | i + 1, h1, h2 =>
          have h1' : T1[i]? = some e := h1
          have h2' : T1[i]? = some e' := h2
          rw [h1'] at h2'
          cases h2'
          rfl
      have w := (ep.ow (e.a, e'.ob) ?_).2
      · exact w
      · rw [hos, List.map_cons, toFoot_fst]
        refine List.mem_of_getElem? (i := i) ?_
        rw [List.getElem?_zip_eq_some]
        match i, h1, h2 with
        | 0, h1, h2 => cases h1; cases h2; exact ⟨rfl, rfl⟩
        | i + 1, h1, h2 =>
          have h1' : T1[i]? = some e := h1
          have h2' : T1[i]? = some e' := h2
          exact ⟨by simp [h1'], by simp [h2']⟩
    refine ⟨upd F1 dx (.own x), .adr x :: dd, (x, .ins C0 [] []) :: toFoot T1, _, _, okx.p.fh, .cons (.adr x) (i1.mono (okd.p.ff |> fun _ => (ok1.newF (p := dx) (o := .own x) ndx).2)), fun e he => ?_, ?_, p1 x, ?_, ?_⟩
    · rcases List.mem_cons.mp he with rfl | he
      · have w := okx.ow _ (List.mem_cons_self ..)
        exact ⟨w.f, w.o⟩
      · obtain ⟨e0, he0, rfl⟩ := List.mem_map.mp he
        have w := okx.ow e0 (List.mem_cons_of_mem _ he0)
        exact ⟨w.f, w.o⟩
    · rw [List.map_cons, toFoot_fst]
      exact okx.nd
    · rintro v d os new F2 H2 ⟨rfl, ob, hos, p⟩ ep iv
      cases iv
      exact ⟨rfl, q2.called (T' := ⟨x, true, ob⟩ :: T1) okx ep hO rfl rfl (hob hos ep) (.adr x) p⟩
    · rintro cls os F2 H2 ⟨ob, hos, p⟩ ep
      exact hx cls _ F2 σ H2 p (okx.called (T' := ⟨x, true, ob⟩ :: T1) ep.po hO rfl rfl (hob hos ep)).1
/-- __init__'s return -/
theorem retI {Pd : D → List OB → Foot → Prop} {Tr : Foot} {x : Addr} {o ob : OB} (h : Pd .non (ob :: Tr.map (·.2)) []) (hm : ⟨x, false, ob⟩ ∈ T) (hs : ∀ e ∈ foot Tr, e ∈ T) : Ret Pd ((x, o) :: Tr) .non T :=
  .mk _ [] h (by simp) (fun m a y h1 h2 => by
    match m, h1, h2 with
    | 0, h1, h2 =>
      cases h1
      cases h2
      exact hm
    | m + 1, h1, h2 => exact hs _ (foot_mem (Tf := Tr) h1 h2)) (fun _ z => by cases z) List.nodup_nil

/-! ### ghost steps -/
theorem AS.ghost (h : ∀ F σ H, Ok K E F ds T σ H → ∃ F' ds' T', Ex F F' ∧ Ok K E F' ds' T' σ H ∧ AS K E t ds' T' N R B C) : AS K E t ds T N R B C := fun F σ H D ok k => by
  obtain ⟨F', ds', T', e, ok', q⟩ := h F σ H ok
  exact q F' σ H D ok' (k.up e)
/-- the owned objects behind the first are frozen -/
theorem Ok.frozAll {pre : Tb} : ∀ {L : Tb} {F : Hp}, Ok K E F ds (pre ++ L) σ H → (∀ e ∈ L, e.loc = true) → ∃ F', Ex F F' ∧ Ok K E F' ds pre σ H ∧ ∀ e ∈ L, Is K F' (.ref e.a) e.ob.d
  | [], F, ok, _ => ⟨F, Ex.refl F, by rw [List.append_nil] at ok; exact ok, fun e he => by cases he⟩
  | e :: L, F, ok, hl => by
    have hj : (pre ++ e :: L)[pre.length]? = some e := by rw [List.getElem?_append_right (Nat.le_refl _), Nat.sub_self]; rfl
    obtain ⟨F1, ok1, e1, i1, _⟩ := ok.froz hj (hl e (List.mem_cons_self ..))
    have er : (pre ++ e :: L).eraseIdx pre.length = pre ++ L := by
      rw [List.eraseIdx_append_of_length_le (Nat.le_refl _), Nat.sub_self]
      rfl
    rw [er] at ok1
    obtain ⟨F2, e2, ok2, i2⟩ := ok1.frozAll fun x hx => hl x (List.mem_cons_of_mem _ hx)
    refine ⟨F2, e1.trans e2, ok2, fun x hx => ?_⟩
    rcases List.mem_cons.mp hx with rfl | hx
    · exact i1.mono e2
    · exact i2 x hx
theorem Ok.retell {j : Nat} {e : Ow} {ob : OB} (ok : Ok K E F ds T σ H) (hj : T[j]? = some e) (h : IsO K F H e.a e.ob → IsO K F H e.a ob) : Ok K E F ds (T.set j { e with ob := ob }) σ H := by
  have e1 := (set_maps (T := T) (ob := ob) hj).1
  refine ⟨ok.p, ok.ln, ok.sl, fun x hx => ?_, by rw [e1]; exact ok.nd⟩
  rcases List.mem_or_eq_of_mem_set hx with hx | rfl
  · exact ok.ow x hx
  · have w := ok.ow e (List.mem_of_getElem? hj)
    exact ⟨w.f, h w.o, w.l, w.g⟩
end
theorem foot_cons (a : Addr) (o : OB) (T : Foot) : foot ((a, o) :: T) = ⟨a, false, o⟩ :: foot T := rfl
theorem foot_nil : foot [] = [] := rfl
theorem cmul64 {i j : Int} (h1 : i.natAbs < 2 ^ 64) (h2 : j.natAbs < 2 ^ 64) : CMulW i j := wide_mul h1 h2 (by decide) (by decide) (by decide)
section
variable {K : PySem.W.Frag} {E : Ent} {T : Tb} {d : D} {xs : List D}
theorem tru_listE {Q : Bool → Prop} (l : LV T d xs) (p : Q (!xs.isEmpty)) : ∃ k, Tru K E T d k ∧ Q k := ⟨_, tru_list l, p⟩
theorem lvE {Q : Prop} (l : LV T d xs) (p : Q) : (∃ xs, LV T d xs) ∧ Q := ⟨⟨xs, l⟩, p⟩
end
section
variable {K : PySem.W.Frag} {E : Ent} {ds : Sls} {T : Tb} {P : PD} {ta : TA} {te : TE} {tt : TT} {g : TG}
theorem ae_lcR2 {is vs : List Nat} (hs : ∀ i ∈ is, i ∈ vs) (h : AA K E ta ds T fun dd T1 => ∃ lo n : Int, dd = [.int lo, .int n] ∧ lo.natAbs ≤ 2000000000000000000 ∧ n.natAbs ≤ 2000000000000000000 ∧ ∃ J : Nat → List D → Tb → Prop, J 0 [] T1 ∧
      (∀ i acc T', i < (n - lo).toNat → J i acc T' → AG K E is g (wipeD ds vs) T' (.int (lo + (i : Int))) fun ds2 T2 => AT K E tt ds2 T2 fun b T3 => if b = true then AE K E te ds2 T3 fun y T4 => acc.length < 100000 ∧ J (i + 1) (acc ++ [y]) T4 else J (i + 1) acc T3) ∧
      LcP J (n - lo).toNat P) : AE K E (tLc (iRng2 ta) g tt te vs) ds T P := fun F σ H Q ok q => h F σ H _ ok fun us dd T1 F1 H1 ⟨lo, n, hd, hlo, hn, J, j0, jst, jend⟩ ok1 fr1 al1 iv => by
  subst hd
  cases iv with
  | cons i1 t =>
    cases i1
    cases t with
    | cons i2 t =>
      cases i2
      cases t
      exact ⟨lo, n, rfl, ⟨by omega, by omega, by omega, by omega⟩, fun Dl hD => lcR_core hs J j0 ok1 jst (q.step fr1 al1) jend Dl hD⟩
theorem cutX_from {α : Type} (xs : List α) (k : Nat) : cutX xs (some (k : Int)) none = xs.drop k := by
  unfold cutX
  rw [HT.sIx_nat, HT.sIx_none]
  by_cases h : k ≤ xs.length
  · rw [Nat.min_eq_left h, List.take_of_length_le (by rw [List.length_drop]; exact Nat.le_refl _)]
  · rw [Nat.min_eq_right (by omega), List.drop_of_length_le (Nat.le_refl _), List.drop_of_length_le (by omega), List.take_nil]
theorem cutX_to {α : Type} (xs : List α) (k : Nat) : cutX xs none (some (k : Int)) = xs.take k := by
  unfold cutX
  rw [HT.sIx_nat, HT.sIx_none, List.drop_zero, Nat.sub_zero]
  by_cases h : k ≤ xs.length
  · rw [Nat.min_eq_left h]
  · rw [Nat.min_eq_right (by omega), List.take_length, List.take_of_length_le (by omega)]
end
section
variable {K : PySem.W.Frag} {E : Ent} {ds : Sls} {T : Tb} {P : PD} {ta : TA} {te tl : TE} {tt : TT} {g : TG}
abbrev LcTurn (K : PySem.W.Frag) (E : Ent) (g : TG) (tt : TT) (te : TE) (is vs : List Nat) (ds : Sls) (J : Nat → List D → Tb → Prop) (i : Nat) (acc : List D) (T' : Tb) (x : D) : Prop :=
  AG K E is g (wipeD ds vs) T' x fun ds2 T2 => AT K E tt ds2 T2 fun b T3 => if b = true then AE K E te ds2 T3 fun y T4 => acc.length < 100000 ∧ J (i + 1) (acc ++ [y]) T4 else J (i + 1) acc T3
theorem lcRF {is vs : List Nat} (hs : ∀ i ∈ is, i ∈ vs) (h : AA K E ta ds T fun dd T1 => ∃ n : Int, dd = [.int n] ∧ n.natAbs ≤ 2000000000000000000 ∧ ∃ J : Nat → List D → Tb → Prop, J 0 [] T1 ∧
      (∀ i acc T', i < n.toNat → J i acc T' → LcTurn K E g tt te is vs ds J i acc T' (.int (i : Int))) ∧ ∀ acc T', J n.toNat acc T' → P (.lst acc) T') : AE K E (tLc (iRng1 ta) g tt te vs) ds T P :=
  AE.froz (ae_lcR hs (h.imp fun dd T1 ⟨n, hd, hn, J, j0, jst, jend⟩ => ⟨n, hd, hn, J, j0, jst, lcP_froz jend⟩))
theorem lcR2F {is vs : List Nat} (hs : ∀ i ∈ is, i ∈ vs) (h : AA K E ta ds T fun dd T1 => ∃ lo n : Int, dd = [.int lo, .int n] ∧ lo.natAbs ≤ 2000000000000000000 ∧ n.natAbs ≤ 2000000000000000000 ∧ ∃ J : Nat → List D → Tb → Prop, J 0 [] T1 ∧
      (∀ i acc T', i < (n - lo).toNat → J i acc T' → LcTurn K E g tt te is vs ds J i acc T' (.int (lo + (i : Int)))) ∧ ∀ acc T', J (n - lo).toNat acc T' → P (.lst acc) T') : AE K E (tLc (iRng2 ta) g tt te vs) ds T P :=
  AE.froz (ae_lcR2 hs (h.imp fun dd T1 ⟨lo, n, hd, hlo, hn, J, j0, jst, jend⟩ => ⟨lo, n, hd, hlo, hn, J, j0, jst, lcP_froz jend⟩))
theorem lcLF {is vs : List Nat} (hs : ∀ i ∈ is, i ∈ vs) (h : AE K E tl ds T fun d T1 => ∃ xs, LV T1 d xs ∧ ∃ J : Nat → List D → Tb → Prop, J 0 [] T1 ∧ (∀ i acc T', i ≤ xs.length → J i acc T' → LV T' d xs) ∧
      (∀ i x acc T', xs[i]? = some x → J i acc T' → LcTurn K E g tt te is vs ds J i acc T' x) ∧ ∀ acc T', J xs.length acc T' → P (.lst acc) T') : AE K E (tLc (iU K tl) g tt te vs) ds T P :=
  ae_uL (AE.froz (ae_lcL hs (h.imp fun d T1 ⟨xs, l, J, j0, jl, jst, jend⟩ => ⟨xs, l, J, j0, jl, jst, lcP_froz jend⟩)))
theorem lcTF {is vs : List Nat} (hs : ∀ i ∈ is, i ∈ vs) (h : AE K E tl ds T fun d T1 => ∃ xs, d = .tup xs ∧ ∃ J : Nat → List D → Tb → Prop, J 0 [] T1 ∧
      (∀ i x acc T', xs[i]? = some x → J i acc T' → LcTurn K E g tt te is vs ds J i acc T' x) ∧ ∀ acc T', J xs.length acc T' → P (.lst acc) T') : AE K E (tLc (iU K tl) g tt te vs) ds T P :=
  ae_uT (AE.froz (ae_lcT hs (h.imp fun d T1 ⟨xs, hd, J, j0, jst, jend⟩ => ⟨xs, hd, J, j0, jst, lcP_froz jend⟩)))
theorem if_t {p q : Prop} {b : Bool} (hb : b = true) (h : p) : if b = true then p else q := by rw [if_pos hb]; exact h
theorem if_f {p q : Prop} {b : Bool} (hb : b = false) (h : q) : if b = true then p else q := by rw [if_neg (by rw [hb]; exact Bool.false_ne_true)]; exact h
theorem if_b {p q : Prop} {b : Bool} (h1 : b = true → p) (h2 : b = false → q) : if b = true then p else q := by
  cases b with
  | true => exact h1 rfl
  | false => exact h2 rfl
/-- a name whose owned list is frozen as it is read -/
theorem ae_take {i : Nat} (j : Nat) {a : Addr} {ob : OB} (h : ds[i]? = some (some (.adr a))) (hj : T[j]? = some ⟨a, true, ob⟩) (p : P ob.d (T.eraseIdx j)) : AE K E (tVar i) ds T P := AE.froz (ae_var h ⟨j, _, hj, rfl, rfl, p⟩)
end
theorem as_mid {K : PySem.W.Frag} {E : Ent} {ds : Sls} {T : Tb} {t u : TS} {N B C : PS2} {R : PD} (M : PS2) (h : AS K E t ds T M R B C) (k : ∀ ds' T', M ds' T' → AS K E u ds' T' N R B C) : AS K E (tSeq t u) ds T N R B C := as_seq (h.imp k)
theorem toFoot_snd {T : Tb} : (toFoot T).map (·.2) = T.map (·.ob) := by unfold toFoot; rw [List.map_map]; rfl
section
variable {K : PySem.W.Frag} {E : Ent} {F H : Hp} {ds : Sls} {T : Tb} {σ : L2.St} {P : PD} {tr : TA} {v : V}
theorem Ok.fresh_ads {p : Addr} (ok : Ok K E F ds T σ H) (hp : H p = none) : p ∉ ads T := fun hm => by
  obtain ⟨e, he, q⟩ := List.mem_map.mp hm
  obtain ⟨u, hu⟩ := (ok.ow e he).o.there
  rw [q, hp] at hu
  cases hu
/-- a new owned list, apart from all that is owned -/
theorem ae_lstN (h : AA K E tr ds T fun dd T' => dd.length ≤ 100000 ∧ ∀ p, p ∉ ads T' → P (.adr p) (⟨p, true, .lst dd⟩ :: T')) : AE K E (tLst tr) ds T P := fun F σ H Q ok q =>
  h F σ H _ ok fun vs dd T1 F1 H1 ⟨hl, p1⟩ ok1 fr1 al1 i1 => ⟨by rw [i1.len]; exact sz_of hl, fun p hp => (q.step fr1 al1).newO ok1 hp (p1 p (ok1.fresh_ads hp)) ⟨vs, upd_same, i1⟩⟩
/-- the owned objects in front are frozen -/
theorem Ok.frozFront : ∀ {L pre : Tb} {F : Hp}, Ok K E F ds (L ++ pre) σ H → (∀ e ∈ L, e.loc = true) → ∃ F', Ex F F' ∧ Ok K E F' ds pre σ H ∧ ∀ e ∈ L, Is K F' (.ref e.a) e.ob.d
  | [], pre, F, ok, _ => ⟨F, Ex.refl F, ok, fun e he => by cases he⟩
  | e :: L, pre, F, ok, hl => by
    obtain ⟨F1, ok1, e1, i1, _⟩ := ok.froz (j := 0) rfl (hl e (List.mem_cons_self ..))
    obtain ⟨F2, e2, ok2, i2⟩ := Ok.frozFront (L := L) (pre := pre) ok1 fun x hx => hl x (List.mem_cons_of_mem _ hx)
    refine ⟨F2, e1.trans e2, ok2, fun x hx => ?_⟩
    rcases List.mem_cons.mp hx with rfl | hx
    · exact i1.mono e2
    · exact i2 x hx
theorem adrs_are : ∀ {as : List Addr} {vs : List V}, IsA K F vs (as.map D.adr) → vs = as.map V.ref
  | [], _, .nil => rfl
  | a :: as, _, .cons h t => by
    cases h
    rw [adrs_are t]
    rfl
theorem isA_refs : ∀ {as : List Addr} {xs : List D}, as.length = xs.length → (∀ (n : Nat) (a : Addr) (d : D), as[n]? = some a → xs[n]? = some d → Is K F (.ref a) d) → IsA K F (as.map V.ref) xs
  | [], [], _, _ => .nil
  | a :: as, x :: xs, h, k => .cons (k 0 a x rfl rfl) (isA_refs (by simpa using h) fun n b d h1 h2 => k (n + 1) b d h1 h2)
end
theorem as_end {K : PySem.W.Frag} {E : Ent} {ds : Sls} {T : Tb} {t : TS} {N B C : PS2} {R : PD} (M : PS2) (h : AS K E t ds T M R B C) (k : ∀ ds' T', M ds' T' → AS K E tNext ds' T' N R B C) : AS K E t ds T N R B C := fun F σ H D ok c =>
  h F σ H D ok ⟨fun ds' T' F' σ' H' m ok' e => k ds' T' m F' σ' H' D ok' (c.up e), c.r, c.b, c.c⟩
end AW

/-! Kv: the values of a locked dict whose keys are tuples. -/
namespace AW
open PySem PySem.Spec PySem.W PyProof.Rows L2
section
variable {X : Cx} {pins : List (Addr × Obj)} {σ : L2.St} {H : Hp} {s : Shared} {d : Addr} {o : Obj}
theorem frzTV {kvs : List (List L2.Key × V)} (I : Inv X pins σ H s) (h : H d = some (.frz o (.dT kvs))) :
    (d == sysModules) = false ∧ ∃ (es : Array DictEntry) (ep : Nat), o.data = .dict es ep ∧ es.size = kvs.length ∧ s.heap.DictRaw d es ep ∧ ∀ (i : Nat) (hi : i < es.size) (k : List L2.Key) (v : V), kvs[i]? = some (k, v) → RelV v es[i].val := by
  obtain ⟨hd, z, hs, xs, pr, o', es, ep, ho, hx, hdt, he, _⟩ := I.hok d _ h
  rw [hd] at ho
  cases ho
  refine ⟨hs, es, ep, hdt, ?_, ⟨o, hd, hx, hdt⟩, fun i hi k v e => ?_⟩
  · have l1 : es.size = xs.length := size_of_entries he
    have l2 : kvs.length = xs.length := Paired.length pr
    omega
  · obtain ⟨b, hb, e1, e2, e3⟩ := paired_get pr e
    have q := entry_at he i
    rw [hb, Array.getElem?_eq_getElem hi] at q
    rw [Option.some.inj q]
    exact e3
end
def ItdT (d : Addr) (o : Obj) (kvs : List (List L2.Key × V)) : It :=
  ⟨fun i H => H d = some (.frz o (.dT kvs)) ∧ i < kvs.length, fun i H x H' => H' = H ∧ ∃ k, kvs[i]? = some (k, x), fun i H => H d = some (.frz o (.dT kvs)) ∧ kvs.length ≤ i⟩
section
variable {P : Program} {w : World} {K : PySem.W.Frag} {tg : Expr} {d : Addr} {o : Obj} {es : Array DictEntry} {ep : Nat}
theorem turn_valsT {kvs : List (List L2.Key × V)} (it : Addr) (hod : o.data = .dict es ep) : Turn P w K tg (ItdT d o kvs) [it] it (fun i h => h.IsValIter it d i kvs.length ep) where
  mem := by simp
  obj := fun i h st b hb => by
    have q : b = it := by simpa using hb
    subst q
    obtain ⟨oi, e, c, dd⟩ := st
    exact ⟨oi, e, fun v z => by rw [dd] at z; cases z⟩
  keep := fun i h h' st k => st.at fun oi e => k it (by simp) oi e
  item := by
    intro X hP hw hK hc i pins s σ H E I hf st hg
    subst hP hw hK
    obtain ⟨hd, hi⟩ := hg
    obtain ⟨f0, f1, f2, f3, f4, f5⟩ := hf it (by simp)
    obtain ⟨hs, es', ep', hdt, hsz, hm, hv⟩ := frzTV I hd
    obtain ⟨rfl, rfl⟩ := dict_ep hod hdt
    obtain ⟨⟨k, v⟩, hkv⟩ : ∃ p, kvs[i]? = some p := ⟨kvs[i], List.getElem?_eq_getElem hi⟩
    have hi' : i < es'.size := by omega
    rw [← hsz] at st
    refine wpAny_pyNext_values_item_raw st hm hi' fun h' st' sb => ?_
    have I1 : Inv X pins σ H { s with heap := h' } := I.turned (t' := s.toks) (fun b ob hb e => (sb.2 b hb).trans e) f0 f1 f3 f4 f5
    obtain ⟨oi, e, c, dd⟩ := id st'
    refine ⟨_, rfl, go_of (s := { s with heap := h' }) e c dd (by decide) ⟨v, H, I1, hv i hi' k v hkv, ⟨rfl, k, hkv⟩, ?_, fun b hb => (hf b hb).1⟩⟩
    show h'.IsValIter it d (i + 1) kvs.length _
    rw [← hsz]
    exact st'
  done := by
    intro X hP hw hK hc i pins s σ H E I hf st hg
    subst hP hw hK
    obtain ⟨hd, hi⟩ := hg
    obtain ⟨f0, f1, f2, f3, f4, f5⟩ := hf it (by simp)
    obtain ⟨hs, es', ep', hdt, hsz, hm, hv⟩ := frzTV I hd
    obtain ⟨rfl, rfl⟩ := dict_ep hod hdt
    rw [← hsz] at st
    exact wpAny_pyNext_values_end_raw (I.ok.hd hc) st hm (by omega) fun h' eb => ⟨rfl, I.turned (t' := s.toks) (fun b ob hb e => eb b ob hb e) f0 f1 f3 f4 f5⟩
  self := fun A i s Q E st h => wpAny_pyIter_valiter st h
end
def iValsT (td : TE) : TI := fun σ H R => td σ H fun x H1 => ∃ d o kvs, x = .ref d ∧ H1 d = some (.frz o (.dT kvs)) ∧ R (ItdT d o kvs) H1
theorem pi_valuesT {X : Cx} {e tg : Expr} {td : TE} {apos cpos : Pos} (he : PE X e td) (hbase : attributeBase e "values" X.env (eval e X.env) = eval e X.env := by rfl) (hline : (apos.endLine == cpos.line) = true := by rfl) : PI X tg (.Call (.Attribute e "values" apos) [] [] cpos) (iValsT td) := by
  refine ⟨fun pins s σ H R I h => ?_⟩
  refine wpAny_Call_method (T := "dict") (id := "dict.values") hbase rfl hline F.plainAttrs_dict F.slot_dict_values F.type_dict_values (thn (he.run pins s σ H _ I h) fun u s1 ⟨x, H1, I1, rx, d, o, kvs, ex, hd, q⟩ => ?_)
  subst ex
  have eu : u = Value.ref d := rx
  subst eu
  obtain ⟨hs, es, ep, hdt, hsz, hm, hv⟩ := frzTV I1 hd
  have I2 : Inv X pins σ H1 { s1 with heap := s1.heap.push { cls := .type "dict_values", data := .fields #[.ref d] } } := I1.kept (t' := s1.toks) fun b ob q => Heap.get?_push_of_some _ q
  have fin : wpAny (model X.prog X.w) X.A (pyIter (.ref s1.heap.objs.size)) (PIE X pins σ tg R) X.xe { s1 with heap := s1.heap.push { cls := .type "dict_values", data := .fields #[.ref d] } } := by
    refine wpAny_pyIter_values_raw (d := d) ⟨_, Heap.get?_push_size _ rfl, rfl, rfl⟩ (hm.push _) (pi_one (tk := s1.toks) I2 _ (turn_valsT _ hdt) ⟨_, Heap.get?_push_size _ rfl, rfl, ?_⟩ q)
    rw [hsz] <;> rfl
  obtain ⟨od, hod, hcd, hdd⟩ := id hm
  refine ⟨hm.typeIs, fun a z => (by cases z; exact ⟨od, hod, hcd.2.1⟩), ?_⟩
  show wpAny _ _ (callWith cpos (.builtin "dict.values") [.ref d] [] []) _ X.xe s1
  exact method_meetsIn F.slot_dict_values F.entry_dict_values rfl (PySem.evalArgs_none ⟨rfl, hm.typeIs, F.args_dict_values_1 _, _, meets_dict_values_raw d hs, ⟨es, ep, hm⟩, fin⟩)
theorem walk_valuesT {d : Addr} {o : Obj} {kvs : List (List L2.Key × V)} : Walk (ItdT d o kvs) kvs.length (fun H => H d = some (.frz o (.dT kvs))) (fun i H x H' => H' = H ∧ ∃ k, kvs[i]? = some (k, x)) :=
  ⟨fun _ _ hi q => ⟨q, hi⟩, fun _ q => ⟨q, Nat.le_refl _⟩, fun _ _ _ _ _ _ y => y⟩
end AW

/-! Aw9: all, any, sorted of ints and of tuples of ints, sorted(set(..)) of tuples of ints. -/
namespace AW
open PySem PySem.Spec PyProof.Rows L2 Evl
section
variable {K : PySem.W.Frag} {E : Ent} {ds : Sls} {T : Tb} {P : PD} {d : D}
theorem isA_bls {F : Hp} : ∀ {bs : List Bool} {vs : List V}, IsA K F vs (bs.map D.bl) → vs = bs.map V.bl
  | [], _, h => by cases h; rfl
  | b :: bs, _, h => by
    cases h with
    | cons i t =>
      cases i
      rw [isA_bls t]
      rfl
theorem isA_nts {F : Hp} : ∀ {ns : List Int} {vs : List V}, IsA K F vs (ns.map D.int) → vs = ns.map V.int
  | [], _, h => by cases h; rfl
  | b :: bs, _, h => by
    cases h with
    | cons i t =>
      cases i
      rw [isA_nts t]
      rfl
theorem isA_ofInts {F : Hp} : ∀ ns : List Int, IsA K F (ns.map V.int) (ns.map D.int)
  | [] => .nil
  | n :: ns => .cons (.int n) (isA_ofInts ns)
theorem rc_all {bs : List Bool} (l : LV T d (bs.map D.bl)) (p : P (.bl (bs.all id)) T) : RC K E (rAll K) T [d] P := fun F σ ds H vs Q ok i q => by
  cases i with
  | cons i t =>
    cases t
    obtain ⟨a, vs, rfl, h1, t1⟩ := l.sq ok i
    rw [isA_bls t1] at h1
    exact ⟨a, bs, rfl, h1, q.ret ok p (.bl _)⟩
theorem rc_any {bs : List Bool} (l : LV T d (bs.map D.bl)) (p : P (.bl (bs.any id)) T) : RC K E (rAny K) T [d] P := fun F σ ds H vs Q ok i q => by
  cases i with
  | cons i t =>
    cases t
    obtain ⟨a, vs, rfl, h1, t1⟩ := l.sq ok i
    rw [isA_bls t1] at h1
    exact ⟨a, bs, rfl, h1, q.ret ok p (.bl _)⟩
theorem rc_sortI {ns : List Int} (l : LV T d (ns.map D.int)) (p : ∀ ns' : List Int, ns'.Perm ns → ns'.Pairwise (· ≤ ·) → P (.lst (ns'.map .int)) T) : RC K E (rSortedI K) T [d] P := fun F σ ds H vs Q ok i q => by
  cases i with
  | cons i t =>
    cases t
    obtain ⟨a, vs, rfl, h1, t1⟩ := l.sq ok i
    rw [isA_nts t1] at h1
    exact ⟨a, ns, rfl, h1, fun ns' pp g1 g2 hp => q.newF' ok hp (p ns' g1 g2) fun e => .lst upd_same ((isA_ofInts ns').mono e)⟩
theorem rc_sortIO {ns : List Int} (l : LV T d (ns.map D.int)) (p : ∀ (ns' : List Int) (a : Addr), ns'.Perm ns → ns'.Pairwise (· ≤ ·) → P (.adr a) (⟨a, true, .lst (ns'.map .int)⟩ :: T)) : RC K E (rSortedI K) T [d] P := fun F σ ds H vs Q ok i q => by
  cases i with
  | cons i t =>
    cases t
    obtain ⟨a, vs, rfl, h1, t1⟩ := l.sq ok i
    rw [isA_nts t1] at h1
    exact ⟨a, ns, rfl, h1, fun ns' pp g1 g2 hp => q.newO ok hp (p ns' pp g1 g2) ⟨_, upd_same, isA_ofInts ns'⟩⟩
end
end AW

/-! Ks: set(list of ints). -/
namespace AW
open PySem PySem.Spec PyProof.Rows L2
section
variable {P : Program} {w : World} {A : Around} {E : Value → Shared → Prop} {s : Shared}
theorem call_set_lisI {l : Addr} {items : Array Value} (ns : List Int) {Q : Value → Shared → Prop} (hh : A.handled = none) (hl : s.heap.IsList l items) (hit : IntsAre items.toList ns) (hb : ns.length + 1 < scanBound)
    (h : ∀ (h' : Heap) (tk c : Nat), SetR w h' s.heap.objs.size (fun j => decide (j ∈ ns)) c → c ≤ ns.length → (∀ b o, s.heap.get? b = some o → h'.get? b = some o) → Q (.ref s.heap.objs.size) { s with heap := h', toks := tk }) :
    wpAny (model P w) A (call (.type "set") [.ref l]) Q E s := by
  have hisz : items.size = ns.length := by
    have q := IntsAre.length hit
    rw [Array.length_toList] at q
    exact q
  obtain ⟨c, tl, hmro⟩ := F.called_set.mro
  have hmade := F.called_set.made
  have hsub := F.called_set.sub
  refine wpAny_call (codeAny_of_tree ?_)
  show wpAny _ _ (callAny (.type "set") _) _ _ _
  refine wpAny_pure ⟨Code.quiet_builtin _ (by decide +kernel), codeAny_builtin F.entry_type_call ?_⟩
  rw [Around.under_plain (weight_type_call_type "set" [.ref l] []) rfl]
  have h1 := F.called_set.notType
  have h2 := F.called_set.canCreate
  have hct := F.typeCall_set_1 (.ref l)
  repeat (any_goals (first | assumption | wp_step))

  refine codeAny_mono (code_set_led1 (.ref l) (E := E) (Q₁ := fun obj s₁ => obj = .ref s.heap.objs.size ∧ s₁ = { s with heap := s.heap.push { cls := .type "set", dict := none, data := .set #[] 0 (.fresh 0 0 (!w.params.followText "set-order")) } }) ⟨rfl, rfl⟩) fun r s₁ hr => ?_
  cases r with
  | error e => exact hr
  | ok fl =>
    cases fl with
    | ret obj =>
      obtain ⟨rfl, rfl⟩ := hr
      have hS : (s.heap.push { cls := .type "set", dict := none, data := .set #[] 0 (.fresh 0 0 (!w.params.followText "set-order")) }).get? s.heap.objs.size = some { cls := .type "set", dict := none, data := .set #[] 0 (.fresh 0 0 (!w.params.followText "set-order")) } := Heap.get?_push_size _ rfl
      have hT : Shared.TypeIs { s with heap := s.heap.push { cls := .type "set", dict := none, data := .set #[] 0 (.fresh 0 0 (!w.params.followText "set-order")) } } (.ref s.heap.objs.size) "set" := ⟨_, hS, rfl⟩
      have hli := F.called_set.init.lookup
      have hbi := F.called_set.init.bind (.ref s.heap.objs.size)
      repeat (any_goals (first | assumption | wp_step))

      refine codeAny_mono (codeAny_call_builtin (R := wants (fun r s₂ => r = .none ∧ ∃ h' tk c, s₂ = { s with heap := h', toks := tk } ∧ SetR w h' s.heap.objs.size (fun j => decide (j ∈ ns)) c ∧ c ≤ ns.length ∧
          (∀ b o, s.heap.get? b = some o → h'.get? b = some o)) E) F.called_set.init.plain F.entry_set_init (check_set_init_1 hT ?_)) fun r₂ s₂ hr₂ => ?_
      · obtain ⟨ol, hol, hcl, nl, hdl⟩ := hl
        obtain ⟨ocls, odict, odata, oslots⟩ := ol
        simp only at hcl hdl
        subst hcl; subst hdl
        have hol' : (s.heap.push { cls := .type "set", dict := none, data := .set #[] 0 (.fresh 0 0 (!w.params.followText "set-order")) }).get? l = some { cls := .type "list", dict := odict, data := .seq items nl, slots := oslots } := Heap.get?_push_of_some _ hol
        have hsls := F.sub_list_set
        have hslf := F.sub_list_frozenset
        have hne : (Value.type "list" == Value.type "dict") = false := by decide
        have hl1 : (s.heap.push { cls := .type "set", dict := none, data := .set #[] 0 (.fresh 0 0 (!w.params.followText "set-order")) }).IsList l items := ⟨_, hol', rfl, nl, rfl⟩
        unfold Builtin.«set.__init__» noKeywords Builtin.Frozenset.updateFrom
        generalize hPI : pyIter = PI
        wp_walk
        subst hPI

        refine wpAny_pyIter_list hl1 ?_
        refine wpAny_bind (wpAny_runValue ?_)
        have hlS : l < s.heap.objs.size := Heap.lt_size hol
        have hh3 : A.in1.in1.in1.handled = none := by simp [hh]
        have hz1 : (s.heap.push { cls := .type "set", dict := none, data := .set #[] 0 (.fresh 0 0 (!w.params.followText "set-order")) }).objs.size = s.heap.objs.size + 1 := Heap.size_push ..
        have hneI : l ≠ (s.heap.push { cls := .type "set", dict := none, data := .set #[] 0 (.fresh 0 0 (!w.params.followText "set-order")) }).objs.size := by
          rw [Heap.size_push]; exact Nat.ne_of_lt (Nat.lt_succ_of_lt hlS)
        have hSf : s.heap.objs.size ∉ [(s.heap.push { cls := .type "set", dict := none, data := .set #[] 0 (.fresh 0 0 (!w.params.followText "set-order")) }).objs.size, l] := by
          rw [Heap.size_push]; simp only [List.mem_cons, List.mem_singleton, List.not_mem_nil, or_false, not_or]
          exact ⟨Nat.ne_of_lt (Nat.lt_succ_self _), Nat.ne_of_gt hlS⟩
        have hval : ∀ (i : Nat) (v : Value), items[i]? = some v → ∃ k t, ns[i]? = some k ∧ v = .int k t := fun i v hv => by
          have hi : i < ns.length := by rw [← hisz]; exact (Array.getElem?_eq_some_iff.mp hv).1
          obtain ⟨t, e⟩ := PyProof.Rows.IntsAre.int_at hit i v (by rw [Array.getElem?_toList]; exact hv)
          refine ⟨ns[i], t, List.getElem?_eq_getElem hi, ?_⟩
          rw [e, List.getD_eq_getElem?_getD, List.getElem?_eq_getElem hi] <;> rfl
        refine set_update_ints ((Walks.list hh3 _ l hneI items).toS) s.heap.objs.size
          hSf ns hisz hb hval (items.size - 0) 0 _ (by omega) (Nat.zero_le _)
          ⟨⟨_, Heap.get?_push_size _ rfl, rfl, rfl⟩, (hl1.push _)⟩ ?hS0 ?hR
        case hS0 =>
          have hget : ((s.heap.push { cls := .type "set", dict := none, data := .set #[] 0 (.fresh 0 0 (!w.params.followText "set-order")) }).push { cls := .type "list_iterator", data := .fields #[.ref l, .int 0 0] }).get? s.heap.objs.size
              = some { cls := .type "set", dict := none, data := .set #[] 0 (.fresh 0 0 (!w.params.followText "set-order")) } := Heap.get?_push_of_some _ hS
          exact ⟨0, Nat.le_refl 0, setR_new_at hget⟩
        case hR =>
          intro s' c' hm hc' hS'
          obtain ⟨h', g2, d', tk', os'⟩ := s'
          have eg : g2 = s.gens := hm.gens
          have ed : d' = s.drawn := hm.drawn
          have eo : os' = s.os := hm.os
          subst eg; subst ed; subst eo
          show wpAny _ _ _ _ _ _
          refine wpAny_pure ?_
          show wpAny _ _ (ret Value.none) _ _ _
          rw [hisz] at hc'
          refine wpAny_pure ⟨rfl, h', tk', c', rfl, hS', hc', fun b o e => ?_⟩
          have hb0 : b < s.heap.objs.size := Heap.lt_size e
          have hb1 : b ≠ s.heap.objs.size := Nat.ne_of_lt hb0
          have hb2 : b ≠ (s.heap.push { cls := .type "set", dict := none, data := .set #[] 0 (.fresh 0 0 (!w.params.followText "set-order")) }).objs.size := by
            rw [Heap.size_push]; exact Nat.ne_of_lt (Nat.lt_succ_of_lt hb0)
          exact hm.heap b o (by simp only [List.mem_cons, List.mem_singleton, List.not_mem_nil, or_false, not_or]; exact ⟨hb1, hb2⟩) (Heap.get?_push_of_some _ (Heap.get?_push_of_some _ e))

      · cases r₂ with
        | error e => exact hr₂
        | ok fl₂ =>
          cases fl₂ with
          | ret r =>
            obtain ⟨rfl, h', tk, c', rfl, hS', hc', hk'⟩ := hr₂
            repeat (any_goals (first | assumption | wp_step))
            exact h _ _ _ hS' hc' hk'
          | _ => exact hr₂.elim
    | _ => exact hr.elim

end
def rSetOfI (K : PySem.W.Frag) (w : World) : List V → Hp → VK → Prop := fun xs H Q => ∃ (l : Addr) (ns : List Int), xs = [V.ref l] ∧ SqL K H l (ns.map V.int) ∧ ns.length < 1000 ∧ ∀ a c, H a = none → c ≤ ns.length → Q (.ref a) (upd H a (SetO w a (fun j => decide (j ∈ ns)) c))
theorem cr_setOfI {X : Cx} (hc : X.calm = true) : CallR X (.type "set") (rSetOfI X.K X.w) := by
  intro pins s σ H xs us Q I r h
  obtain ⟨l, ns, rfl, hl, hn, q⟩ := h
  rw [Vals.ref1 r]
  obtain ⟨its, rv, pl, hz⟩ := I.list hl
  have hi : IntsAre its.toArray.toList ns := ints_of_vals rv
  refine call_set_lisI ns (I.ok.hd hc) pl.isList hi (by unfold scanBound; omega) fun h' tk c R hcn k => ?_
  exact ⟨.ref s.heap.objs.size, upd H s.heap.objs.size (SetO X.w s.heap.objs.size (fun j => decide (j ∈ ns)) c), I.laid (t' := tk) k (Nat.le_refl _) (setO_new R), rfl, q _ c (I.hok.fresh (Nat.le_refl _)) hcn⟩
end AW

/-! Aw10: sorted(set(..)) of ints, of tuples of ints. -/
namespace AW
open PySem PySem.Spec PyProof.Rows L2 Evl
section
variable {K : PySem.W.Frag} {E : Ent} {ds : Sls} {T : Tb} {P : PD} {ta : TA}
theorem ae_sortSetI {w : World} (h : AA K E ta ds T fun dd T1 => ∃ (d : D) (ns : List Int), dd = [d] ∧ LV T1 d (ns.map .int) ∧ ns.length < 64 ∧ ∀ ns' : List Int, ns'.Pairwise (· < ·) → (∀ k, k ∈ ns' ↔ k ∈ ns) → P (.lst (ns'.map .int)) T1) :
    AE K E (tCB (rSortedSet w) (tCons (tCB (rSetOfI K w) ta) tNil)) ds T P := fun F σ H Q ok q =>
  h F σ H _ ok fun vs dd T1 F1 H1 ⟨d, ns, hd, l, hn, p⟩ ok1 fr1 al1 i1 => by
    subst hd
    cases i1 with
    | cons i t =>
      cases t
      obtain ⟨a, us, rfl, h1, t1⟩ := l.sq ok1 i
      rw [isA_nts t1] at h1
      refine ⟨a, ns, rfl, h1, by omega, fun b c hb hc => ?_⟩
      have okd := (ok1.newF (p := b) (o := SetO w b (fun j => decide (j ∈ ns)) c) hb).1
      have frd : Fr T1 F1 H1 T1 (upd F1 b (SetO w b (fun j => decide (j ∈ ns)) c)) (upd H1 b (SetO w b (fun j => decide (j ∈ ns)) c)) := Fr.newF (fresh_back ok1.p.fh hb) hb
      have q2 := (q.step fr1 al1).step frd al_new
      refine ⟨b, _, c, rfl, upd_same, by omega, fun ns2 p0 g1 g2 g3 hp => ?_⟩
      exact q2.newF' okd hp (p ns2 g1 fun k => (g2 k).trans (by simp)) fun e => .lst upd_same ((isA_ofInts ns2).mono e)
abbrev tp (t : List Int) : D := .tup (t.map .int)
theorem isA_tps {F : Hp} : ∀ {xs : List (List Int)} {vs : List V}, IsA K F vs (xs.map tp) → ∃ ks : List (Addr × List Int), vs = ks.map (fun p => V.ref p.1) ∧ ks.map (·.2) = xs ∧ ∀ p ∈ ks, F p.1 = some (.tup (p.2.map V.int))
  | [], _, h => by
    cases h
    exact ⟨[], rfl, rfl, fun _ z => by cases z⟩
  | x :: xs, _, h => by
    cases h with
    | cons i t =>
      obtain ⟨ks, rfl, h2, h3⟩ := isA_tps t
      cases i with
      | tup e g =>
        rename_i a us
        refine ⟨(a, x) :: ks, rfl, by rw [List.map_cons, h2], fun p hp => ?_⟩
        rcases List.mem_cons.mp hp with rfl | hp
        · rw [isA_nts g] at e
          exact e
        · exact h3 p hp
theorem isA_ofTps {F : Hp} : ∀ {ks : List (Addr × List Int)}, (∀ p ∈ ks, F p.1 = some (.tup (p.2.map V.int))) → IsA K F (ks.map fun p => V.ref p.1) ((ks.map (·.2)).map tp)
  | [], _ => .nil
  | p :: ks, h => .cons (.tup (h p (List.mem_cons_self ..)) (isA_ofInts _)) (isA_ofTps fun q hq => h q (List.mem_cons_of_mem _ hq))
theorem ae_sortSetT {Pr : Program} {w : World} {n : Nat} {B : Int} (hn1 : 1 ≤ n) (h : AA K E ta ds T fun dd T1 => ∃ (d : D) (xs : List (List Int)), dd = [d] ∧ LV T1 d (xs.map tp) ∧ xs.length < 64 ∧ (∀ t ∈ xs, t.length = n ∧ TS.Bd B t) ∧
      ∀ ys : List (List Int), ys.Nodup → (∀ t, t ∈ ys ↔ t ∈ xs) → ys.Pairwise (fun a b => TS.code B a ≤ TS.code B b) → ys.length < 64 → P (.lst (ys.map tp)) T1) :
    AE K E (tCB (rSortedT K Pr w) (tCons (tCB (rSetOfT K Pr w) ta) tNil)) ds T P := fun F σ H Q ok q =>
  h F σ H _ ok fun vs dd T1 F1 H1 ⟨d, xs, hd, l, hn, hB, p⟩ ok1 fr1 al1 i1 => by
    subst hd
    cases i1 with
    | cons i t =>
      cases t
      obtain ⟨a, us, rfl, h1, t1⟩ := l.sq ok1 i
      obtain ⟨ks, rfl, hks, hF⟩ := isA_tps t1
      have hmem : ∀ p ∈ ks, p.2 ∈ xs := fun p hp => by rw [← hks]; exact List.mem_map.mpr ⟨p, hp, rfl⟩
      refine ⟨a, ks, rfl, h1, fun p hp => .inl (.inl (ok1.p.fh _ _ (hF p hp))), by rw [← hks, List.length_map] at hn; exact hn, fun b L hb hL1 hL2 => ?_⟩
      have okd := (ok1.newF (p := b) (o := SetTO Pr w b L) hb).1
      have frd : Fr T1 F1 H1 T1 (upd F1 b (SetTO Pr w b L)) (upd H1 b (SetTO Pr w b L)) := Fr.newF (fresh_back ok1.p.fh hb) hb
      have q2 := (q.step fr1 al1).step frd al_new
      have hF2 : ∀ p ∈ L, upd F1 b (SetTO Pr w b L) p.1 = some (.tup (p.2.map V.int)) := fun p hp => by
        rw [upd_ne (fun z => ?_)]
        · exact hF p (hL1 p hp)
        · have := ok1.p.fh _ _ (hF p (hL1 p hp))
          rw [z, hb] at this
          cases this
      refine ⟨b, L, n, B, rfl, upd_same, fun p hp => .inl (.inl (okd.p.fh _ _ (hF2 p hp))), hn1, fun p hp => hB _ (hmem p (hL1 p hp)), fun L' p0 g1 g2 g3 g4 hp => ?_⟩
      have hm : ∀ t, t ∈ L'.map (·.2) ↔ t ∈ xs := fun t => by
        rw [← hks]
        constructor
        · intro z
          obtain ⟨p, hp, rfl⟩ := List.mem_map.mp z
          exact List.mem_map.mpr ⟨p, hL1 p (g1.mem_iff.mp hp), rfl⟩
        · intro z
          obtain ⟨p, hp, rfl⟩ := List.mem_map.mp z
          obtain ⟨r, hr, e⟩ := List.mem_map.mp (hL2 p hp)
          exact List.mem_map.mpr ⟨r, g1.mem_iff.mpr hr, e⟩
      exact q2.newF' okd hp (p _ g2 hm (List.pairwise_map.mpr g4) (by rw [List.length_map]; exact g3)) fun e => .lst upd_same ((isA_ofTps fun p hp => hF2 p (g1.mem_iff.mp hp)).mono e)
end
end AW

/-! Aw11: sorted(xs), xs ints, tuples of ints, or a dict with int keys. -/
namespace AW
open PySem PySem.Spec PyProof.Rows L2 Evl
theorem perm_map {α β : Type} {f : α → β} {ys zs : List β} (h : ys.Perm zs) : ∀ ks : List α, zs = ks.map f → ∃ ks' : List α, ks'.Perm ks ∧ ys = ks'.map f := by
  induction h with
  | nil => exact fun ks e => ⟨ks, .refl _, e⟩
  | cons x h ih =>
    intro ks e
    cases ks with
    | nil => cases e
    | cons k ks =>
      injection e with e1 e2
      obtain ⟨ks', p, rfl⟩ := ih ks e2
      exact ⟨k :: ks', p.cons k, by rw [List.map_cons, e1]⟩
  | swap x y l =>
    intro ks e
    match ks, e with
    | k1 :: k2 :: ks, e =>
      injection e with e1 e2
      injection e2 with e2 e3
      exact ⟨k2 :: k1 :: ks, .swap .., by rw [List.map_cons, List.map_cons, e1, e2, e3]⟩
  | trans h1 h2 ih1 ih2 =>
    intro ks e
    obtain ⟨k1, p1, rfl⟩ := ih2 ks e
    obtain ⟨k2, p2, e2⟩ := ih1 k1 rfl
    exact ⟨k2, p2.trans p1, e2⟩
def rSortDI : List V → Hp → VK → Prop := fun xs H Q => ∃ (a : Addr) (kvs : List (L2.Key × V)) (ks : List Int), xs = [.ref a] ∧ Rd H a (.dK kvs) ∧ kvs.map (·.1) = ks.map Sum.inl ∧ ks.length < 64 ∧ ∀ (ys : List Int) (p : Addr), ys.Perm ks → ys.Pairwise (· ≤ ·) → H p = none → Q (.ref p) (upd H p (.lst (ys.map V.int)))
def rSortA (K : PySem.W.Frag) : List V → Hp → VK → Prop := fun vs H Q => rSortedI K vs H Q ∨ (∃ (n : Nat) (B : Int), 1 ≤ n ∧ rSortU K n B vs H Q) ∨ rSortDI vs H Q
theorem cr_sortA {X : Cx} (hc : X.calm = true) : CallR X (.builtin "sorted") (rSortA X.K) := by
  intro pins s σ H xs us Q I r h
  rcases h with h | ⟨n, B, hn, h⟩ | h
  · exact cr_sortedI pins s σ H xs us Q I r h
  · exact cr_sortT hn pins s σ H xs us Q I r h
  · exact call_sortedDI hc pins s σ H xs us Q I r h
section
variable {K : PySem.W.Frag} {E : Ent} {ds : Sls} {T : Tb} {P : PD} {d : D}
theorem rc_sortAI {ns : List Int} (l : LV T d (ns.map D.int)) (p : ∀ ns' : List Int, ns'.Perm ns → ns'.Pairwise (· ≤ ·) → P (.lst (ns'.map .int)) T) : RC K E (rSortA K) T [d] P := fun F σ ds H vs Q ok i q => .inl (rc_sortI l p F σ ds H vs Q ok i q)
theorem rc_sortAT {xs : List (List Int)} {n : Nat} {B : Int} (l : LV T d (xs.map tp)) (hn : 1 ≤ n) (h64 : xs.length < 64) (hB : ∀ t ∈ xs, t.length = n ∧ TS.Bd B t) (p : ∀ ys : List (List Int), ys.Perm xs → ys.Pairwise (fun a b => TS.code B a ≤ TS.code B b) → P (.lst (ys.map tp)) T) : RC K E (rSortA K) T [d] P := fun F σ ds H vs Q ok i q => by
  cases i with
  | cons i t =>
    cases t
    obtain ⟨a, us, rfl, h1, t1⟩ := l.sq ok i
    obtain ⟨ks, rfl, hks, hF⟩ := isA_tps t1
    have hmem : ∀ p ∈ ks, p.2 ∈ xs := fun p hp => by rw [← hks]; exact List.mem_map.mpr ⟨p, hp, rfl⟩
    have hT : ∀ p ∈ ks, TupI K H (V.ref p.1) p.2 := fun p hp => ⟨p.1, rfl, .inl (.inl (ok.p.fh _ _ (hF p hp)))⟩
    refine .inr (.inl ⟨n, B, hn, a, ks.map (fun p => V.ref p.1), rfl, h1, by rw [← hks, List.length_map] at h64; rw [List.length_map]; exact h64, fun x hx => ?_, fun ys p0 g1 g2 hp => ?_⟩)
    · obtain ⟨p, hp, rfl⟩ := List.mem_map.mp hx
      exact ⟨p.2, hT p hp, hB _ (hmem p hp)⟩
    · obtain ⟨k2, p2, rfl⟩ := perm_map g1 ks rfl
      refine q.newF' ok hp (p (k2.map (·.2)) (by rw [← hks]; exact p2.map _) ?_) fun e => .lst upd_same ((isA_ofTps fun p hp => hF p (p2.mem_iff.mp hp)).mono e)
      rw [List.pairwise_map] at g2 ⊢
      exact g2.imp_of_mem fun {x y} hx hy z => z _ _ (hT x (p2.mem_iff.mp hx)) (hT y (p2.mem_iff.mp hy))
end
end AW

/-! Aw12: d[k] = v of an owned dict whose keys are ints and texts. -/
namespace AW
open PySem PySem.Spec PyProof.Rows L2 Evl
section
variable {K : PySem.W.Frag} {E : Ent} {ds : Sls} {T : Tb} {N B C : PS2} {R : PD} {td ty tv : TE}
def putD {κ α : Type} [DecidableEq κ] (ks : List κ) (xs : List α) (k : κ) (x : α) : List α := if k ∈ ks then List.zipWith (fun k' y => if k' = k then x else y) ks xs else xs ++ [x]
def putKs {κ : Type} [DecidableEq κ] (ks : List κ) (k : κ) : List κ := if k ∈ ks then ks else ks ++ [k]
theorem putK_map {κ : Type} [DecidableEq κ] {k : κ} {v : V} : ∀ {ks : List κ} {vs : List V}, (ks.zip vs).map (fun kv => if kv.1 = k then (kv.1, v) else kv) = ks.zip (List.zipWith (fun k' y => if k' = k then v else y) ks vs)
  | [], _ => rfl
  | _ :: _, [] => rfl
  | k1 :: ks, v1 :: vs => by
    rw [List.zip_cons_cons, List.map_cons, List.zipWith_cons_cons, List.zip_cons_cons, putK_map]
    congr 1
    by_cases h : k1 = k
    · rw [if_pos h, if_pos h]
    · rw [if_neg h, if_neg h]
theorem putK_zip {κ : Type} [DecidableEq κ] {k : κ} {v : V} {ks : List κ} {vs : List V} (hl : ks.length = vs.length) : putK (ks.zip vs) k v = (putKs ks k).zip (putD ks vs k v) := by
  have e : ((ks.zip vs).any fun kv => decide (kv.1 = k)) = decide (k ∈ ks) := by
    rw [Bool.eq_iff_iff, List.any_eq_true, decide_eq_true_eq]
    constructor
    · rintro ⟨⟨a, b⟩, h1, h2⟩
      have h3 := of_decide_eq_true h2
      subst h3
      exact (List.of_mem_zip h1).1
    · intro h
      obtain ⟨n, hn, e⟩ := List.getElem_of_mem h
      refine ⟨(ks[n], vs[n]), ?_, decide_eq_true e⟩
      exact List.mem_of_getElem? (i := n) (by rw [List.getElem?_zip_eq_some]; exact ⟨List.getElem?_eq_getElem hn, List.getElem?_eq_getElem (by omega)⟩)
  unfold putK putKs putD
  rw [e]
  by_cases h : k ∈ ks
  · rw [if_pos (decide_eq_true h), if_pos h, if_pos h]
    exact putK_map
  · rw [if_neg (by simpa using h), if_neg h, if_neg h, List.zip_append hl]
    rfl
theorem putD_is {F : Hp} {k : L2.Key} {v : V} {d : D} (i : Is K F v d) : ∀ {ks : List L2.Key} {vs : List V} {xs : List D}, IsA K F vs xs → IsA K F (List.zipWith (fun k' y => if k' = k then v else y) ks vs) (List.zipWith (fun k' y => if k' = k then d else y) ks xs)
  | [], _, _, _ => .nil
  | _ :: _, _, _, .nil => .nil
  | k1 :: ks, _, _, .cons j t => by
    rw [List.zipWith_cons_cons, List.zipWith_cons_cons]
    refine .cons ?_ (putD_is i t)
    by_cases h : k1 = k
    · rw [if_pos h, if_pos h]
      exact i
    · rw [if_neg h, if_neg h]
      exact j
theorem putD_isA {F : Hp} {k : L2.Key} {v : V} {d : D} {ks : List L2.Key} {vs : List V} {xs : List D} (i : Is K F v d) (t : IsA K F vs xs) : IsA K F (putD ks vs k v) (putD ks xs k d) := by
  unfold putD
  by_cases h : k ∈ ks
  · rw [if_pos h, if_pos h]
    exact putD_is i t
  · rw [if_neg h, if_neg h]
    exact t.append (.one i)
theorem putD_len {κ α : Type} [DecidableEq κ] {ks : List κ} {xs : List α} {k : κ} {x : α} (h : ks.length = xs.length) : (putKs ks k).length = (putD ks xs k x).length := by
  unfold putKs putD
  by_cases hk : k ∈ ks
  · rw [if_pos hk, if_pos hk, List.length_zipWith]
    omega
  · rw [if_neg hk, if_neg hk, List.length_append, List.length_append, h]
    rfl
theorem as_dputK (h : AE K E tv ds T fun d T1 => AE K E td ds T1 fun d2 T2 => AE K E ty ds T2 fun d3 T3 => ∃ (a : Addr) (j : Nat) (l : Bool) (ks : List L2.Key) (xs : List D) (k : L2.Key), d2 = .adr a ∧ d3 = kD k ∧ T3[j]? = some ⟨a, l, .dK ks xs⟩ ∧ ks.length < 100000 ∧
      N ds (T3.set j ⟨a, l, .dK (putKs ks k) (putD ks xs k d)⟩)) : AS K E (sDPut td ty tv) ds T N R B C := fun F σ H D ok c =>
  h F σ H _ ok fun v1 d1 T1 F1 H1 p1 ok1 fr1 al1 i1 => p1 F1 σ H1 _ ok1 fun v2 d2 T2 F2 H2 p2 ok2 fr2 al2 i2 => p2 F2 σ H2 _ ok2 fun v3 d3 T3 F3 H3 ⟨a, j, l, ks, xs, k, hd, hk, hj, hn, p⟩ ok3 fr3 al3 i3 => by
    subst hd hk
    cases i2
    have ek : v3 = kV k := by
      cases k with
      | inl i => cases i3; rfl
      | inr z => cases i3; rfl
    subst ek
    obtain ⟨vs, e1, e2, t⟩ : ∃ vs, H3 a = some (.dK (ks.zip vs)) ∧ ks.length = vs.length ∧ IsA K F3 vs xs := (ok3.ow _ (List.mem_of_getElem? hj)).o
    refine ⟨a, _, rfl, DPut.k e1 (sz_lt (by rw [List.length_zip]; omega)), ?_⟩
    have i1' := i1.mono (fr2.ff.trans fr3.ff)
    exact c.n ds _ F3 σ _ p (ok3.mut hj ⟨putD ks vs k v1, by rw [upd_same, putK_zip e2], putD_len e2, putD_isA i1' t⟩) ((fr1.ff.trans fr2.ff).trans fr3.ff)
theorem rc_sortAD {P : PD} {a : Addr} {l : Bool} {is : List Int} {xs : List D} (j : Nat) (hj : T[j]? = some ⟨a, l, .dK (is.map Sum.inl) xs⟩) (h64 : is.length < 64) (p : ∀ ns : List Int, ns.Perm is → ns.Pairwise (· ≤ ·) → P (.lst (ns.map .int)) T) : RC K E (rSortA K) T [.adr a] P := fun F σ ds H vs Q ok i q => by
  cases i with
  | cons i t =>
    cases t
    cases i
    obtain ⟨us, e1, e2, t⟩ : ∃ us, H a = some (.dK ((is.map Sum.inl).zip us)) ∧ (is.map (Sum.inl (β := Str))).length = us.length ∧ IsA K F us xs := (ok.ow _ (List.mem_of_getElem? hj)).o
    exact .inr (.inr ⟨a, _, is, rfl, .inl e1, List.map_fst_zip (by omega), h64, fun ns p0 g1 g2 hp => q.newF' ok hp (p ns g1 g2) fun e => .lst upd_same ((isA_ofInts ns).mono e)⟩)
end
end AW

/-! Mi1: mirrors: a def as a plain function that may give nothing; loops, comprehensions; typed data. -/
namespace AW
open PySem PySem.Spec PyProof.Rows L2 Evl

/-- m gives a value of which Q holds -/
def G {α : Type} (m : Option α) (Q : α → Prop) : Prop := ∃ a, m = some a ∧ Q a
section
variable {α β S R : Type}
theorem gbind {m : Option α} {k : α → Option β} {Q : β → Prop} (h : G (m.bind k) Q) : G m fun a => G (k a) Q := by
  obtain ⟨b, e, q⟩ := h
  cases m with
  | none => cases e
  | some a => exact ⟨a, rfl, b, e, q⟩
theorem gsome {a : α} {Q : α → Prop} (h : G (some a) Q) : Q a := by
  obtain ⟨b, e, q⟩ := h
  cases e
  exact q
theorem gmk {a : α} {Q : α → Prop} (h : Q a) : G (some a) Q := ⟨a, rfl, h⟩
theorem G.imp {m : Option α} {Q Q' : α → Prop} (h : G m Q) (k : ∀ a, Q a → Q' a) : G m Q' := by
  obtain ⟨b, e, q⟩ := h
  exact ⟨b, e, k b q⟩
theorem gif_t {c : Bool} {a b : Option α} {Q : α → Prop} (h : G (if c = true then a else b) Q) (hc : c = true) : G a Q := by rwa [if_pos hc] at h
theorem gif_f {c : Bool} {a b : Option α} {Q : α → Prop} (h : G (if c = true then a else b) Q) (hc : c = false) : G b Q := by rwa [if_neg (by rw [hc]; exact Bool.false_ne_true)] at h
/-- a step that must hold -/
def chk (c : Prop) [Decidable c] (m : Option α) : Option α := if c then m else none
theorem gchk {c : Prop} [Decidable c] {m : Option α} {Q : α → Prop} (h : G (chk c m) Q) : c ∧ G m Q := by
  unfold chk at h
  by_cases hc : c
  · rw [if_pos hc] at h
    exact ⟨hc, h⟩
  · rw [if_neg hc] at h
    obtain ⟨_, e, _⟩ := h
    cases e
theorem chk_t {c : Prop} [Decidable c] {m : Option α} (h : c) : chk c m = m := if_pos h

/-! ### loops -/
inductive Fl (S R : Type) | nx (s : S) | rt (r : R)
inductive Lp (S R : Type) | nx (s : S) | bk (s : S) | rt (r : R)
def lpQ (M B : S → Prop) (C : R → Prop) : Lp S R → Prop
  | .nx s => M s
  | .bk s => B s
  | .rt r => C r
def forO (xs : List α) (s : S) (f : α → S → Option S) : Option S := match xs with
  | [] => some s
  | x :: xs => (f x s).bind fun s => forO xs s f
def lpK (s : Lp S R) (k : S → Option (Fl S R)) : Option (Fl S R) := match s with
  | .nx s => k s
  | .bk s => some (.nx s)
  | .rt r => some (.rt r)
def forF (xs : List α) (s : S) (f : α → S → Option (Lp S R)) : Option (Fl S R) := match xs with
  | [] => some (.nx s)
  | x :: xs => (f x s).bind fun l => lpK l fun s => forF xs s f
def whl (n : Nat) (s : S) (f : S → Option (Lp S R)) : Option (Fl S R) := match n with
  | 0 => none
  | n + 1 => (f s).bind fun l => lpK l fun s => whl n s f
theorem glp {l : Lp S R} {k : S → Option (Fl S R)} {Q : Fl S R → Prop} (h : G (lpK l k) Q) : lpQ (fun s => G (k s) Q) (fun s => Q (.nx s)) (fun r => Q (.rt r)) l := by
  cases l with
  | nx s => exact h
  | bk s => exact gsome (a := Fl.nx s) (Q := Q) h
  | rt r => exact gsome (a := Fl.rt r) (Q := Q) h
open Classical in
noncomputable def whlE (s : S) (f : S → Option (Lp S R)) : Option (Fl S R) := if h : ∃ n r, whl n s f = some r then some h.choose_spec.choose else none
theorem whl_mono {s : S} {f : S → Option (Lp S R)} {r : Fl S R} : ∀ {n m : Nat} {s : S}, whl n s f = some r → n ≤ m → whl m s f = some r
  | 0, _, _, h, _ => by cases h
  | n + 1, 0, _, _, h => by omega
  | n + 1, m + 1, s, h, hm => by
    unfold whl at h ⊢
    cases e : f s with
    | none => rw [e] at h; cases h
    | some l =>
      rw [e] at h
      cases l with
      | nx s' => exact whl_mono (n := n) (m := m) (s := s') h (by omega)
      | bk s' => exact h
      | rt r' => exact h
theorem whlE_eq {s : S} {f : S → Option (Lp S R)} {r : Fl S R} {n : Nat} (h : whl n s f = some r) : whlE s f = some r := by
  have hx : ∃ n r, whl n s f = some r := ⟨n, r, h⟩
  unfold whlE
  rw [dif_pos hx]
  obtain ⟨m, q, e1⟩ : ∃ m q, hx.choose_spec.choose = q ∧ whl m s f = some q := ⟨_, _, rfl, hx.choose_spec.choose_spec⟩
  obtain ⟨e1, e2⟩ := e1
  rw [e1]
  have a := whl_mono (s := s) h (Nat.le_max_left n m)
  have b := whl_mono (s := s) e2 (Nat.le_max_right n m)
  rw [a] at b
  exact congrArg some (Option.some.inj b).symm
theorem gwhl {s : S} {f : S → Option (Lp S R)} {Q : Fl S R → Prop} (h : G (whlE s f) Q) : ∃ n, G (whl n s f) Q := by
  obtain ⟨r, e, q⟩ := h
  unfold whlE at e
  by_cases hx : ∃ n r, whl n s f = some r
  · rw [dif_pos hx] at e
    refine ⟨hx.choose, _, hx.choose_spec.choose_spec, ?_⟩
    rw [Option.some.inj e]
    exact q
  · rw [dif_neg hx] at e
    cases e
/-! ### comprehensions -/
def lcM (xs : List α) (s : S) (f : α → S → Option (Option β × S)) : Option (List β × S) := match xs with
  | [] => some ([], s)
  | x :: xs => (f x s).bind fun o => (lcM xs o.2 f).bind fun r => some (o.1.toList ++ r.1, r.2)
def lcO (xs : List α) (s : S) (f : α → S → Option (Option β × S)) : Option (List β × S) := chk (xs.length ≤ 100000) (lcM xs s f)
def lcP (xs : List α) (c : α → Bool) (f : α → β) : Option (List β) := chk (xs.length ≤ 100000) (some ((xs.filter c).map f))
theorem lcM_pure {c : α → Bool} {f : α → β} : ∀ xs : List α, lcM xs () (fun x _ => some (if c x = true then some (f x) else none, ())) = some ((xs.filter c).map f, ())
  | [] => rfl
  | x :: xs => by
    unfold lcM
    rw [Option.bind_some, lcM_pure xs, Option.bind_some]
    by_cases h : c x = true
    · rw [if_pos h, List.filter_cons_of_pos h]
      rfl
    · rw [if_neg h, List.filter_cons_of_neg h]
      rfl
theorem glcP {xs : List α} {c : α → Bool} {f : α → β} {Q : List β → Prop} (h : G (lcP xs c f) Q) : G (lcO xs () (fun x _ => some (if c x = true then some (f x) else none, ()))) fun r => Q r.1 := by
  obtain ⟨h1, h2⟩ := gchk h
  unfold lcO
  rw [chk_t h1, lcM_pure]
  exact gmk (gsome h2)
theorem pst_t {c : Bool} {v : β} {M : Option β × Unit → Prop} (h : G (some (if c = true then some v else none, ())) M) (hc : c = true) : M (some v, ()) := by
  have := gsome h
  rwa [if_pos hc] at this
theorem pst_f {c : Bool} {v : β} {M : Option β × Unit → Prop} (h : G (some (if c = true then some v else none, ())) M) (hc : c = false) : M (none, ()) := by
  have := gsome h
  rwa [if_neg (by rw [hc]; exact Bool.false_ne_true)] at this
end

/-! ### items of a list by an int -/
theorem atI_map {α β : Type} {f : α → β} {xs : List α} {i : Int} {v : α} (h : atI xs i = some v) : atI (xs.map f) i = some (f v) := by
  unfold atI at h ⊢
  rw [List.length_map]
  cases e : ixN xs.length i with
  | none => rw [e] at h; cases h
  | some k =>
    rw [e] at h
    show (xs.map f)[k]? = _
    rw [List.getElem?_map]
    have h' : xs[k]? = some v := h
    rw [h']
    rfl
theorem cutX_map {α β : Type} {f : α → β} {xs : List α} {lo hi : Option Int} : cutX (xs.map f) lo hi = (cutX xs lo hi).map f := by
  unfold cutX
  rw [List.length_map, ← List.map_drop, ← List.map_take]
theorem isEmpty_map {α β : Type} {f : α → β} {xs : List α} : (xs.map f).isEmpty = xs.isEmpty := by cases xs <;> rfl

/-! ### typed data -/
abbrev eTL {α : Type} (e : α → D) : List α → D := fun l => .tup (l.map e)
abbrev eL {α : Type} (e : α → D) : List α → D := fun l => .lst (l.map e)
abbrev eN : Unit → D := fun _ => .non
abbrev eT0 : Unit → D := fun _ => .tup []
abbrev eT1 {α : Type} (a : α → D) : α → D := fun x => .tup [a x]
abbrev eT2 {α β : Type} (a : α → D) (b : β → D) : α × β → D := fun x => .tup [a x.1, b x.2]
abbrev eT3 {α β γ : Type} (a : α → D) (b : β → D) (c : γ → D) : α × β × γ → D := fun x => .tup [a x.1, b x.2.1, c x.2.2]
abbrev eT4 {α β γ δ : Type} (a : α → D) (b : β → D) (c : γ → D) (d : δ → D) : α × β × γ × δ → D := fun x => .tup [a x.1, b x.2.1, c x.2.2.1, d x.2.2.2]
abbrev eT5 {α β γ δ ε : Type} (a : α → D) (b : β → D) (c : γ → D) (d : δ → D) (e : ε → D) : α × β × γ × δ × ε → D := fun x => .tup [a x.1, b x.2.1, c x.2.2.1, d x.2.2.2.1, e x.2.2.2.2]
abbrev eT6 {α β γ δ ε ζ : Type} (a : α → D) (b : β → D) (c : γ → D) (d : δ → D) (e : ε → D) (f : ζ → D) : α × β × γ × δ × ε × ζ → D := fun x => .tup [a x.1, b x.2.1, c x.2.2.1, d x.2.2.2.1, e x.2.2.2.2.1, f x.2.2.2.2.2]
def eOp {α : Type} (e : α → D) : Option α → D
  | none => .non
  | some x => e x

/-! ### == of typed data -/
structure Pl {α : Type} [DecidableEq α] (n : Nat) (e : α → D) : Prop where
  pl : ∀ x, (e x).plain = true
  cl : ∀ x, (e x).py.canLay0 = true
  dp : ∀ x, (e x).py.depth ≤ n
  eq : ∀ x y, PyData.eqv (e x).py (e y).py = decide (x = y)
section
variable {α β γ δ ε ζ : Type} [DecidableEq α] [DecidableEq β] [DecidableEq γ] [DecidableEq δ] [DecidableEq ε] [DecidableEq ζ] {n m k l i j : Nat} {a : α → D} {b : β → D} {c : γ → D} {d : δ → D} {e : ε → D} {f : ζ → D}
theorem pl_I : Pl 0 D.int := ⟨fun x => by simp, fun x => by simp [PyData.canLay0], fun x => by simp [PyData.depth], fun x y => by simp [PyData.eqv]; exact Bool.eq_iff_iff.mpr (by simp)⟩
theorem pl_B : Pl 0 D.bl := ⟨fun x => by simp, fun x => by simp [PyData.canLay0], fun x => by simp [PyData.depth], fun x y => by simp [PyData.eqv]; exact Bool.eq_iff_iff.mpr (by simp)⟩
theorem pl_N : Pl 0 eN := ⟨fun x => by simp, fun x => by simp [PyData.canLay0], fun x => by simp [PyData.depth], fun x y => by simp [PyData.eqv]⟩
theorem pl_T0 : Pl 1 eT0 := ⟨fun x => by simp, fun x => by simp [PyData.canLay0, PyData.canLayAll0], fun x => by simp [PyData.depth, PyData.depthAll], fun x y => by simp [PyData.eqv, PyData.eqvAll]⟩
theorem pl_T1 (ha : Pl n a) : Pl (n + 1) (eT1 a) := ⟨fun x => by simp [ha.pl], fun x => by simp [PyData.canLay0, PyData.canLayAll0, ha.cl], fun x => by
  simp only [D.py_tup, List.map_cons, List.map_nil, PyData.depth, PyData.depthAll]
  have := ha.dp x
  omega, fun x y => by simp [PyData.eqv, PyData.eqvAll, ha.eq]⟩
theorem pl_T2 (ha : Pl n a) (hb : Pl n b) : Pl (n + 1) (eT2 a b) := ⟨fun x => by simp [ha.pl, hb.pl], fun x => by simp [PyData.canLay0, PyData.canLayAll0, ha.cl, hb.cl], fun x => by
  simp only [D.py_tup, List.map_cons, List.map_nil, PyData.depth, PyData.depthAll]
  have := ha.dp x.1
  have := hb.dp x.2
  omega, fun x y => by
    obtain ⟨x1, x2⟩ := x
    obtain ⟨y1, y2⟩ := y
    simp [PyData.eqv, PyData.eqvAll, ha.eq, hb.eq]⟩
theorem pl_T3 (ha : Pl n a) (hb : Pl n b) (hc : Pl n c) : Pl (n + 1) (eT3 a b c) := ⟨fun x => by simp [ha.pl, hb.pl, hc.pl], fun x => by simp [PyData.canLay0, PyData.canLayAll0, ha.cl, hb.cl, hc.cl], fun x => by
  simp only [D.py_tup, List.map_cons, List.map_nil, PyData.depth, PyData.depthAll]
  have := ha.dp x.1
  have := hb.dp x.2.1
  have := hc.dp x.2.2
  omega, fun x y => by
    obtain ⟨x1, x2, x3⟩ := x
    obtain ⟨y1, y2, y3⟩ := y
    simp [PyData.eqv, PyData.eqvAll, ha.eq, hb.eq, hc.eq]⟩
theorem pl_T4 (ha : Pl n a) (hb : Pl n b) (hc : Pl n c) (hd : Pl n d) : Pl (n + 1) (eT4 a b c d) := ⟨fun x => by simp [ha.pl, hb.pl, hc.pl, hd.pl], fun x => by simp [PyData.canLay0, PyData.canLayAll0, ha.cl, hb.cl, hc.cl, hd.cl], fun x => by
  simp only [D.py_tup, List.map_cons, List.map_nil, PyData.depth, PyData.depthAll]
  have := ha.dp x.1
  have := hb.dp x.2.1
  have := hc.dp x.2.2.1
  have := hd.dp x.2.2.2
  omega, fun x y => by
    obtain ⟨x1, x2, x3, x4⟩ := x
    obtain ⟨y1, y2, y3, y4⟩ := y
    simp [PyData.eqv, PyData.eqvAll, ha.eq, hb.eq, hc.eq, hd.eq]⟩
theorem pl_T5 (ha : Pl n a) (hb : Pl n b) (hc : Pl n c) (hd : Pl n d) (he : Pl n e) : Pl (n + 1) (eT5 a b c d e) := ⟨fun x => by simp [ha.pl, hb.pl, hc.pl, hd.pl, he.pl], fun x => by simp [PyData.canLay0, PyData.canLayAll0, ha.cl, hb.cl, hc.cl, hd.cl, he.cl], fun x => by
  simp only [D.py_tup, List.map_cons, List.map_nil, PyData.depth, PyData.depthAll]
  have := ha.dp x.1
  have := hb.dp x.2.1
  have := hc.dp x.2.2.1
  have := hd.dp x.2.2.2.1
  have := he.dp x.2.2.2.2
  omega, fun x y => by
    obtain ⟨x1, x2, x3, x4, x5⟩ := x
    obtain ⟨y1, y2, y3, y4, y5⟩ := y
    simp [PyData.eqv, PyData.eqvAll, ha.eq, hb.eq, hc.eq, hd.eq, he.eq]⟩
theorem pl_T6 (ha : Pl n a) (hb : Pl n b) (hc : Pl n c) (hd : Pl n d) (he : Pl n e) (hf : Pl n f) : Pl (n + 1) (eT6 a b c d e f) := ⟨fun x => by simp [ha.pl, hb.pl, hc.pl, hd.pl, he.pl, hf.pl], fun x => by simp [PyData.canLay0, PyData.canLayAll0, ha.cl, hb.cl, hc.cl, hd.cl, he.cl, hf.cl], fun x => by
  simp only [D.py_tup, List.map_cons, List.map_nil, PyData.depth, PyData.depthAll]
  have := ha.dp x.1
  have := hb.dp x.2.1
  have := hc.dp x.2.2.1
  have := hd.dp x.2.2.2.1
  have := he.dp x.2.2.2.2.1
  have := hf.dp x.2.2.2.2.2
  omega, fun x y => by
    obtain ⟨x1, x2, x3, x4, x5, x6⟩ := x
    obtain ⟨y1, y2, y3, y4, y5, y6⟩ := y
    simp [PyData.eqv, PyData.eqvAll, ha.eq, hb.eq, hc.eq, hd.eq, he.eq, hf.eq]⟩
theorem Pl.up (ha : Pl n a) (h : n ≤ m) : Pl m a := ⟨ha.pl, ha.cl, fun x => Nat.le_trans (ha.dp x) h, ha.eq⟩
theorem pl_cl (ha : Pl n a) : ∀ xs : List α, PyData.canLayAll0 ((xs.map a).map D.py) = true
  | [] => by simp [PyData.canLayAll0]
  | x :: xs => by simp only [List.map_cons, PyData.canLayAll0, ha.cl, pl_cl ha xs, Bool.and_self]
theorem pl_dp (ha : Pl n a) : ∀ xs : List α, PyData.depthAll ((xs.map a).map D.py) ≤ n
  | [] => by simp [PyData.depthAll]
  | x :: xs => by
    simp only [List.map_cons, PyData.depthAll]
    have := ha.dp x
    have := pl_dp ha xs
    omega
theorem pl_eq (ha : Pl n a) : ∀ xs ys : List α, PyData.eqvAll ((xs.map a).map D.py) ((ys.map a).map D.py) = decide (xs = ys)
  | [], [] => by simp [PyData.eqvAll]
  | x :: xs, [] => by simp [PyData.eqvAll]
  | [], y :: ys => by simp [PyData.eqvAll]
  | x :: xs, y :: ys => by
    simp only [List.map_cons, PyData.eqvAll, ha.eq, pl_eq ha xs ys]
    simp
theorem pl_TL (ha : Pl n a) : Pl (n + 1) (eTL a) := ⟨fun x => by
  rw [D.plain_tup]
  intro d hd
  obtain ⟨y, _, rfl⟩ := List.mem_map.mp hd
  exact ha.pl y, fun x => by simp only [D.py_tup, PyData.canLay0]; exact pl_cl ha x, fun x => by
  simp only [D.py_tup, PyData.depth]
  have := pl_dp ha x
  omega, fun x y => by simp only [D.py_tup, PyData.eqv]; exact pl_eq ha x y⟩
theorem pl_L (ha : Pl n a) : Pl (n + 1) (eL a) := ⟨fun x => by
  rw [D.plain_lst]
  intro d hd
  obtain ⟨y, _, rfl⟩ := List.mem_map.mp hd
  exact ha.pl y, fun x => by simp only [D.py_lst, PyData.canLay0]; exact pl_cl ha x, fun x => by
  simp only [D.py_lst, PyData.depth]
  have := pl_dp ha x
  omega, fun x y => by simp only [D.py_lst, PyData.eqv]; exact pl_eq ha x y⟩
theorem pl_Op (ha : Pl n a) (h1 : ∀ x, PyData.eqv .none (a x).py = false) (h2 : ∀ x, PyData.eqv (a x).py .none = false) : Pl n (eOp a) := ⟨fun x => by
  cases x with
  | none => simp [eOp]
  | some x => exact ha.pl x, fun x => by
  cases x with
  | none => simp [eOp, PyData.canLay0]
  | some x => exact ha.cl x, fun x => by
  cases x with
  | none => simp [eOp, PyData.depth]
  | some x => exact ha.dp x, fun x y => by
  cases x with
  | none =>
    cases y with
    | none => simp [eOp, PyData.eqv]
    | some y => simp [eOp, h1]
  | some x =>
    cases y with
    | none => simp [eOp, h2]
    | some y => simp [eOp, ha.eq]⟩
end
end AW

/-! Mi2: rules of loops, joins, comprehensions by mirrors. -/
namespace AW
open PySem PySem.Spec PyProof.Rows L2 Evl
section
variable {K : PySem.W.Frag} {E : Ent} {F H : Hp} {ds : Sls} {T : Tb} {σ : L2.St} {v : V} {d : D} {P P' : PD} {te tl : TE} {ta : TA} {t u tb : TS} {tt tu : TT} {g : TG} {N N' B B' C C' : PS2} {R R' : PD} {α β S Rt : Type}
theorem Cont.mono {D : Ends} (c : Cont K E F D N' R' B' C') (kn : ∀ a b, N a b → N' a b) (kr : ∀ a b, R a b → R' a b) (kb : ∀ a b, B a b → B' a b) (kc : ∀ a b, C a b → C' a b) : Cont K E F D N R B C :=
  ⟨fun a b x y z p => c.n a b x y z (kn a b p), fun a b x y z w u p => c.r a b x y z w u (kr a b p), fun a b x y z p => c.b a b x y z (kb a b p), fun a b x y z p => c.c a b x y z (kc a b p)⟩
theorem AS.mono (h : AS K E t ds T N R B C) (kn : ∀ a b, N a b → N' a b) (kr : ∀ a b, R a b → R' a b) (kb : ∀ a b, B a b → B' a b) (kc : ∀ a b, C a b → C' a b) : AS K E t ds T N' R' B' C' :=
  fun F σ H D ok c => h F σ H D ok (c.mono kn kr kb kc)
theorem AG.imp {is : List Nat} {N N' : PS2} (h : AG K E is g ds T d N) (k : ∀ a b, N a b → N' a b) : AG K E is g ds T d N' := fun F σ H v Q ok iv q => h F σ H v Q ok iv fun ds' σ' p => q ds' σ' (k _ _ p)
/-- joins -/
theorem AE.mid (M : PD) (h : AE K E te ds T M) (k : ∀ d T', M d T' → P d T') : AE K E te ds T P := h.imp k
theorem AT.mid {P : Bool → Tb → Prop} (M : Bool → Tb → Prop) (h : AT K E tt ds T M) (k : ∀ d T', M d T' → P d T') : AT K E tt ds T P := h.imp k
theorem AS.mid (M : PS2) (h : AS K E t ds T M R B C) (k : ∀ ds' T', M ds' T' → N ds' T') : AS K E t ds T N R B C := h.imp k
/-- tests whose answer is one of plain data -/
theorem atp {P : Bool → Tb → Prop} (c : Bool) (h : AT K E tt ds T fun b T' => b = c ∧ T' = T) (p : P c T) : AT K E tt ds T P := h.imp fun b T' ⟨e1, e2⟩ => by rw [e1, e2]; exact p
theorem aep (x : D) (h : AE K E te ds T fun b T' => b = x ∧ T' = T) (p : P x T) : AE K E te ds T P := h.imp fun b T' ⟨e1, e2⟩ => by rw [e1, e2]; exact p
theorem at_andP {a b : Bool} (ha : AT K E tt ds T fun z T' => z = a ∧ T' = T) (hb : AT K E tu ds T fun z T' => z = b ∧ T' = T) : AT K E (tAnd tt tu) ds T fun z T' => z = (a && b) ∧ T' = T :=
  at_and (ha.imp fun z T' ⟨e1, e2⟩ => by
    subst e1 e2
    cases z with
    | true => exact (if_pos rfl).symm ▸ hb.imp fun y T2 ⟨e1, e2⟩ => ⟨by rw [e1]; rfl, e2⟩
    | false => exact ⟨rfl, rfl⟩)
theorem at_orP {a b : Bool} (ha : AT K E tt ds T fun z T' => z = a ∧ T' = T) (hb : AT K E tu ds T fun z T' => z = b ∧ T' = T) : AT K E (tOr tt tu) ds T fun z T' => z = (a || b) ∧ T' = T :=
  at_or (ha.imp fun z T' ⟨e1, e2⟩ => by
    subst e1 e2
    cases z with
    | true => exact ⟨rfl, rfl⟩
    | false => exact (if_neg Bool.false_ne_true).symm ▸ hb.imp fun y T2 ⟨e1, e2⟩ => ⟨by rw [e1]; rfl, e2⟩)
theorem ae_andB {a b : Bool} (ha : AE K E te ds T fun z T' => z = .bl a ∧ T' = T) {tf : TE} (hb : AE K E tf ds T fun z T' => z = .bl b ∧ T' = T) : AE K E (tAndT K te tf) ds T fun z T' => z = .bl (a && b) ∧ T' = T :=
  ae_andT (ha.imp fun z T' ⟨e1, e2⟩ => by
    subst e1 e2
    refine ⟨_, tru_bl, fun h => ?_, fun h => ?_⟩
    · subst h
      exact hb.imp fun y T2 ⟨e1, e2⟩ => ⟨by rw [e1]; rfl, e2⟩
    · subst h
      exact ⟨rfl, rfl⟩)
theorem ae_orB {a b : Bool} (ha : AE K E te ds T fun z T' => z = .bl a ∧ T' = T) {tf : TE} (hb : AE K E tf ds T fun z T' => z = .bl b ∧ T' = T) : AE K E (tOrT K te tf) ds T fun z T' => z = .bl (a || b) ∧ T' = T :=
  ae_orT (ha.imp fun z T' ⟨e1, e2⟩ => by
    subst e1 e2
    refine ⟨_, tru_bl, fun h => ?_, fun h => ?_⟩
    · subst h
      exact ⟨rfl, rfl⟩
    · subst h
      exact hb.imp fun y T2 ⟨e1, e2⟩ => ⟨by rw [e1]; rfl, e2⟩)
/-- a step of an if -/
theorem as_ifG {c : Bool} (h1 : c = true → AS K E t ds T N R B C) (h2 : c = false → AS K E u ds T N R B C) : (c = true → AS K E t ds T N R B C) ∧ (c = false → AS K E u ds T N R B C) := ⟨h1, h2⟩

/-! ### loops -/
/-- what a turn of a loop must show -/
abbrev TurnF (K : PySem.W.Frag) (E : Ent) (is : List Nat) (g : TG) (tb : TS) (R : PD) (e : D) (fx : S → Option (Lp S Rt)) (QF : Fl S Rt → Prop) (Sx : S → PS2) : Prop :=
  ∀ (s : S) (M : S → Prop), G (fx s) (lpQ M (fun s => QF (.nx s)) (fun r => QF (.rt r))) → ∀ ds' T', Sx s ds' T' → AG K E is g ds' T' e fun ds2 T2 =>
    AS K E tb ds2 T2 (fun a b => ∃ s', M s' ∧ Sx s' a b) R (fun a b => ∃ s', QF (.nx s') ∧ Sx s' a b) (fun a b => ∃ s', M s' ∧ Sx s' a b)
abbrev TurnO (K : PySem.W.Frag) (E : Ent) (is : List Nat) (g : TG) (tb : TS) (R : PD) (e : D) (fx : S → Option S) (Sx : S → PS2) : Prop :=
  ∀ (s : S) (M : S → Prop), G (fx s) M → ∀ ds' T', Sx s ds' T' → AG K E is g ds' T' e fun ds2 T2 =>
    AS K E tb ds2 T2 (fun a b => ∃ s', M s' ∧ Sx s' a b) R (fun _ _ => False) (fun a b => ∃ s', M s' ∧ Sx s' a b)
theorem forF_drop {xs : List α} {s : S} {f : α → S → Option (Lp S Rt)} {i : Nat} {x : α} (h : xs[i]? = some x) : forF (xs.drop i) s f = (f x s).bind fun l => lpK l fun s => forF (xs.drop (i + 1)) s f := by
  have e : xs.drop i = x :: xs.drop (i + 1) := by
    have hi := (List.getElem?_eq_some_iff.mp h).1
    rw [List.drop_eq_getElem_cons hi]
    have := (List.getElem?_eq_some_iff.mp h).2
    rw [this]
  rw [e]
  rfl
theorem turnF_step {is : List Nat} {xs : List α} {f : α → S → Option (Lp S Rt)} {QF : Fl S Rt → Prop} {Sx : S → PS2} {e : α → D} {i : Nat} {x : α} {s : S} {ds' : Sls} {T' : Tb} (ht : TurnF K E is g tb R (e x) (f x) QF Sx) (hx : xs[i]? = some x)
    (hg : G (forF (xs.drop i) s f) QF) (hs : Sx s ds' T') (fin : ∀ s, QF (.nx s) → ∀ ds' T', Sx s ds' T' → N ds' T') :
    AG K E is g ds' T' (e x) fun ds2 T2 => AS K E tb ds2 T2 (fun a b => ∃ s, G (forF (xs.drop (i + 1)) s f) QF ∧ Sx s a b) R N (fun a b => ∃ s, G (forF (xs.drop (i + 1)) s f) QF ∧ Sx s a b) := by
  rw [forF_drop hx] at hg
  have h1 := (gbind hg).imp fun l hl => glp hl
  exact (ht s _ h1 ds' T' hs).imp fun a b h => h.mono (fun _ _ z => z) (fun _ _ z => z) (fun a b ⟨s', q, z⟩ => fin s' q a b z) (fun _ _ z => z)
theorem for_LF {is : List Nat} (h : AE K E tl ds T fun d T1 => ∃ (α S Rt : Type) (xs : List α) (e : α → D) (s0 : S) (f : α → S → Option (Lp S Rt)) (QF : Fl S Rt → Prop) (Sx : S → PS2), G (forF xs s0 f) QF ∧ LV T1 d (xs.map e) ∧ Sx s0 ds T1 ∧ (∀ s ds' T', Sx s ds' T' → LV T' d (xs.map e)) ∧
      (∀ x, x ∈ xs → TurnF K E is g tb R (e x) (f x) QF Sx) ∧ ∀ s, QF (.nx s) → ∀ ds' T', Sx s ds' T' → N ds' T') : AS K E (tFor (iU K tl) g tb) ds T N R B C := by
  refine as_uL (as_forL (is := is) (h.imp fun d T1 ⟨α, S, Rt, xs, e, s0, f, QF, Sx, hG, lv, i0, stab, step, fin⟩ => ⟨_, lv, fun i ds' T' => ∃ s, G (forF (xs.drop i) s f) QF ∧ Sx s ds' T', ⟨s0, hG, i0⟩, fun i ds' T' _ ⟨s, _, z⟩ => stab s ds' T' z, ?_, ?_⟩))
  · rintro i dx ds' T' hx ⟨s, hg, hs⟩
    rw [List.getElem?_map] at hx
    cases e1 : xs[i]? with
    | none => rw [e1] at hx; cases hx
    | some x =>
      rw [e1] at hx
      cases hx
      exact turnF_step (step x (List.mem_of_getElem? e1)) e1 hg hs fin
  · rintro ds' T' ⟨s, hg, hs⟩
    rw [List.length_map, List.drop_length] at hg
    exact fin s (gsome (a := Fl.nx s) (Q := QF) hg) ds' T' hs
theorem for_TF {is : List Nat} (h : AE K E tl ds T fun d T1 => ∃ (α S Rt : Type) (xs : List α) (e : α → D) (s0 : S) (f : α → S → Option (Lp S Rt)) (QF : Fl S Rt → Prop) (Sx : S → PS2), G (forF xs s0 f) QF ∧ d = .tup (xs.map e) ∧ Sx s0 ds T1 ∧
      (∀ x, x ∈ xs → TurnF K E is g tb R (e x) (f x) QF Sx) ∧ ∀ s, QF (.nx s) → ∀ ds' T', Sx s ds' T' → N ds' T') : AS K E (tFor (iU K tl) g tb) ds T N R B C := by
  refine as_uT (as_forT (is := is) (h.imp fun d T1 ⟨α, S, Rt, xs, e, s0, f, QF, Sx, hG, lv, i0, step, fin⟩ => ⟨_, lv, fun i ds' T' => ∃ s, G (forF (xs.drop i) s f) QF ∧ Sx s ds' T', ⟨s0, hG, i0⟩, ?_, ?_⟩))
  · rintro i dx ds' T' hx ⟨s, hg, hs⟩
    rw [List.getElem?_map] at hx
    cases e1 : xs[i]? with
    | none => rw [e1] at hx; cases hx
    | some x =>
      rw [e1] at hx
      cases hx
      exact turnF_step (step x (List.mem_of_getElem? e1)) e1 hg hs fin
  · rintro ds' T' ⟨s, hg, hs⟩
    rw [List.length_map, List.drop_length] at hg
    exact fin s (gsome (a := Fl.nx s) (Q := QF) hg) ds' T' hs
/-- the ints of range(lo, hi) -/
def irng (lo hi : Int) : List Int := (List.range (hi - lo).toNat).map fun (k : Nat) => lo + (k : Int)
theorem irng_len (lo hi : Int) : (irng lo hi).length = (hi - lo).toNat := by unfold irng; rw [List.length_map, List.length_range]
theorem irng_at {lo hi : Int} {i : Nat} (h : i < (hi - lo).toNat) : (irng lo hi)[i]? = some (lo + (i : Int)) := by
  unfold irng
  rw [List.getElem?_map, List.getElem?_eq_getElem (by rw [List.length_range]; exact h), List.getElem_range]
  rfl
theorem irng_mem {lo hi k : Int} : k ∈ irng lo hi ↔ lo ≤ k ∧ k < hi := by
  unfold irng
  rw [List.mem_map]
  constructor
  · rintro ⟨n, hn, rfl⟩
    have := List.mem_range.mp hn
    omega
  · rintro ⟨h1, h2⟩
    exact ⟨(k - lo).toNat, List.mem_range.mpr (by omega), by omega⟩

theorem for_RF {is : List Nat} (h : AA K E ta ds T fun dd T1 => ∃ (S Rt : Type) (n : Int) (s0 : S) (f : Int → S → Option (Lp S Rt)) (QF : Fl S Rt → Prop) (Sx : S → PS2), dd = [.int n] ∧ n.natAbs ≤ 1000000000000000000 ∧ G (forF (irng 0 n) s0 f) QF ∧ Sx s0 ds T1 ∧
      (∀ x, x ∈ irng 0 n → TurnF K E is g tb R (.int x) (f x) QF Sx) ∧ ∀ s, QF (.nx s) → ∀ ds' T', Sx s ds' T' → N ds' T') : AS K E (tFor (iRng1 ta) g tb) ds T N R B C := by
  refine as_forR (is := is) (h.imp fun dd T1 ⟨S, Rt, n, s0, f, QF, Sx, hd, hn, hG, i0, step, fin⟩ => ⟨n, hd, by omega, fun i ds' T' => ∃ s, G (forF ((irng 0 n).drop i) s f) QF ∧ Sx s ds' T', ⟨s0, hG, i0⟩, ?_, ?_⟩)
  · rintro i ds' T' hi ⟨s, hg, hs⟩
    have e1 : (irng 0 n)[i]? = some (i : Int) := by rw [irng_at (by omega)]; simp
    exact turnF_step (e := D.int) (step _ (List.mem_of_getElem? e1)) e1 hg hs fin
  · rintro ds' T' ⟨s, hg, hs⟩
    rw [List.drop_of_length_le (by rw [irng_len]; omega)] at hg
    exact fin s (gsome (a := Fl.nx s) (Q := QF) hg) ds' T' hs
theorem for_R2F {is : List Nat} (h : AA K E ta ds T fun dd T1 => ∃ (S Rt : Type) (lo n : Int) (s0 : S) (f : Int → S → Option (Lp S Rt)) (QF : Fl S Rt → Prop) (Sx : S → PS2), dd = [.int lo, .int n] ∧ lo.natAbs ≤ 1000000000000000000 ∧ n.natAbs ≤ 1000000000000000000 ∧ G (forF (irng lo n) s0 f) QF ∧ Sx s0 ds T1 ∧
      (∀ x, x ∈ irng lo n → TurnF K E is g tb R (.int x) (f x) QF Sx) ∧ ∀ s, QF (.nx s) → ∀ ds' T', Sx s ds' T' → N ds' T') : AS K E (tFor (iRng2 ta) g tb) ds T N R B C := by
  refine as_forR2 (is := is) (h.imp fun dd T1 ⟨S, Rt, lo, n, s0, f, QF, Sx, hd, hn, hn2, hG, i0, step, fin⟩ => ⟨lo, n, hd, by omega, by omega, fun i ds' T' => ∃ s, G (forF ((irng lo n).drop i) s f) QF ∧ Sx s ds' T', ⟨s0, hG, i0⟩, ?_, ?_⟩)
  · rintro i ds' T' hi ⟨s, hg, hs⟩
    have e1 : (irng lo n)[i]? = some (lo + (i : Int)) := by rw [irng_at (by omega)]
    exact turnF_step (e := D.int) (step _ (List.mem_of_getElem? e1)) e1 hg hs fin
  · rintro ds' T' ⟨s, hg, hs⟩
    rw [List.drop_of_length_le (by rw [irng_len]; omega)] at hg
    exact fin s (gsome (a := Fl.nx s) (Q := QF) hg) ds' T' hs
/-! ### loops without returns and breaks -/
def toF (f : α → S → Option S) : α → S → Option (Lp S Unit) := fun x s => (f x s).bind fun s => some (.nx s)
theorem forO_F {f : α → S → Option S} : ∀ (xs : List α) (s : S), forF xs s (toF f) = (forO xs s f).bind fun s => some (.nx s)
  | [], s => rfl
  | x :: xs, s => by
    unfold forF forO
    show ((f x s).bind _ |>.bind _) = _
    cases f x s with
    | none => rfl
    | some s' => exact forO_F xs s'
def QO (Q : S → Prop) : Fl S Unit → Prop
  | .nx s => Q s
  | .rt _ => False
theorem gO {xs : List α} {s : S} {f : α → S → Option S} {Q : S → Prop} (h : G (forO xs s f) Q) : G (forF xs s (toF f)) (QO Q) := by
  obtain ⟨s', e, q⟩ := h
  rw [forO_F, e]
  exact gmk q
theorem turnO_F {is : List Nat} {e : D} {fx : S → Option S} {Sx : S → PS2} {Q : S → Prop} (h : TurnO K E is g tb R e fx Sx) : TurnF K E is g tb R e (fun s => (fx s).bind fun s => some (Lp.nx (R := Unit) s)) (QO Q) Sx := fun s M hG ds' T' hs =>
  (h s M ((gbind hG).imp fun a q => gsome (a := Lp.nx a) (Q := lpQ M (fun s => QO Q (.nx s)) (fun r => QO Q (.rt r))) q) ds' T' hs).imp fun a b q => q.mono (fun _ _ z => z) (fun _ _ z => z) (fun _ _ z => z.elim) (fun _ _ z => z)
theorem for_LO {is : List Nat} (h : AE K E tl ds T fun d T1 => ∃ (α S : Type) (xs : List α) (e : α → D) (s0 : S) (f : α → S → Option S) (Q : S → Prop) (Sx : S → PS2), G (forO xs s0 f) Q ∧ LV T1 d (xs.map e) ∧ Sx s0 ds T1 ∧ (∀ s ds' T', Sx s ds' T' → LV T' d (xs.map e)) ∧
      (∀ x, x ∈ xs → TurnO K E is g tb R (e x) (f x) Sx) ∧ ∀ s, Q s → ∀ ds' T', Sx s ds' T' → N ds' T') : AS K E (tFor (iU K tl) g tb) ds T N R B C :=
  for_LF (is := is) (h.imp fun d T1 ⟨α, S, xs, e, s0, f, Q, Sx, hG, lv, i0, stab, step, fin⟩ => ⟨α, S, Unit, xs, e, s0, _, _, Sx, gO hG, lv, i0, stab, fun x hx => turnO_F (step x hx), fin⟩)
theorem for_TO {is : List Nat} (h : AE K E tl ds T fun d T1 => ∃ (α S : Type) (xs : List α) (e : α → D) (s0 : S) (f : α → S → Option S) (Q : S → Prop) (Sx : S → PS2), G (forO xs s0 f) Q ∧ d = .tup (xs.map e) ∧ Sx s0 ds T1 ∧
      (∀ x, x ∈ xs → TurnO K E is g tb R (e x) (f x) Sx) ∧ ∀ s, Q s → ∀ ds' T', Sx s ds' T' → N ds' T') : AS K E (tFor (iU K tl) g tb) ds T N R B C :=
  for_TF (is := is) (h.imp fun d T1 ⟨α, S, xs, e, s0, f, Q, Sx, hG, lv, i0, step, fin⟩ => ⟨α, S, Unit, xs, e, s0, _, _, Sx, gO hG, lv, i0, fun x hx => turnO_F (step x hx), fin⟩)
theorem for_RO {is : List Nat} (h : AA K E ta ds T fun dd T1 => ∃ (S : Type) (n : Int) (s0 : S) (f : Int → S → Option S) (Q : S → Prop) (Sx : S → PS2), dd = [.int n] ∧ n.natAbs ≤ 1000000000000000000 ∧ G (forO (irng 0 n) s0 f) Q ∧ Sx s0 ds T1 ∧
      (∀ x, x ∈ irng 0 n → TurnO K E is g tb R (.int x) (f x) Sx) ∧ ∀ s, Q s → ∀ ds' T', Sx s ds' T' → N ds' T') : AS K E (tFor (iRng1 ta) g tb) ds T N R B C :=
  for_RF (is := is) (h.imp fun d T1 ⟨S, n, s0, f, Q, Sx, hd, hn, hG, i0, step, fin⟩ => ⟨S, Unit, n, s0, _, _, Sx, hd, hn, gO hG, i0, fun x hx => turnO_F (step x hx), fin⟩)
theorem for_R2O {is : List Nat} (h : AA K E ta ds T fun dd T1 => ∃ (S : Type) (lo n : Int) (s0 : S) (f : Int → S → Option S) (Q : S → Prop) (Sx : S → PS2), dd = [.int lo, .int n] ∧ lo.natAbs ≤ 1000000000000000000 ∧ n.natAbs ≤ 1000000000000000000 ∧ G (forO (irng lo n) s0 f) Q ∧ Sx s0 ds T1 ∧
      (∀ x, x ∈ irng lo n → TurnO K E is g tb R (.int x) (f x) Sx) ∧ ∀ s, Q s → ∀ ds' T', Sx s ds' T' → N ds' T') : AS K E (tFor (iRng2 ta) g tb) ds T N R B C :=
  for_R2F (is := is) (h.imp fun d T1 ⟨S, lo, n, s0, f, Q, Sx, hd, hn, hn2, hG, i0, step, fin⟩ => ⟨S, Unit, lo, n, s0, _, _, Sx, hd, hn, hn2, gO hG, i0, fun x hx => turnO_F (step x hx), fin⟩)
/-- while -/
theorem while_F {s0 : S} {f : S → Option (Lp S Rt)} {QF : Fl S Rt → Prop} (Sx : S → PS2) (hG : G (whlE s0 f) QF) (i0 : Sx s0 ds T)
    (step : ∀ (s : S) (M : S → Prop), G (f s) (lpQ M (fun s => QF (.nx s)) (fun r => QF (.rt r))) → ∀ ds' T', Sx s ds' T' → AT K E tt ds' T' fun b T2 =>
      (b = true → AS K E tb ds' T2 (fun a b => ∃ s', M s' ∧ Sx s' a b) R (fun a b => ∃ s', QF (.nx s') ∧ Sx s' a b) (fun a b => ∃ s', M s' ∧ Sx s' a b)) ∧ (b = false → ∃ s', QF (.nx s') ∧ Sx s' ds' T2))
    (fin : ∀ s, QF (.nx s) → ∀ ds' T', Sx s ds' T' → N ds' T') : AS K E (tWhile tt tb) ds T N R B C := by
  obtain ⟨n, hn⟩ := gwhl hG
  refine as_while (fun m ds' T' => ∃ s, G (whl m s f) QF ∧ Sx s ds' T') n ⟨s0, hn, i0⟩ ?_
  rintro m ds' T' ⟨s, hg, hs⟩
  cases m with
  | zero => obtain ⟨_, e, _⟩ := hg; cases e
  | succ m =>
    have h1 := (gbind hg).imp fun l hl => glp hl
    refine (step s _ h1 ds' T' hs).imp fun b T2 ⟨p1, p2⟩ => ⟨fun hb => (p1 hb).mono (fun a b ⟨s', q, z⟩ => ⟨m, Nat.lt_succ_self _, s', q, z⟩) (fun _ _ z => z) (fun a b ⟨s', q, z⟩ => fin s' q a b z) (fun a b ⟨s', q, z⟩ => ⟨m, Nat.lt_succ_self _, s', q, z⟩), fun hb => ?_⟩
    obtain ⟨s', q, z⟩ := p2 hb
    exact fin s' q ds' T2 z
/-! ### comprehensions -/
abbrev TurnL (K : PySem.W.Frag) (E : Ent) (is vs : List Nat) (g : TG) (tt : TT) (te : TE) (ds : Sls) (e : D) (e' : β → D) (fx : S → Option (Option β × S)) (Sx : S → Tb → Prop) : Prop :=
  ∀ (s : S) (M : Option β × S → Prop), G (fx s) M → ∀ T', Sx s T' → AG K E is g (wipeD ds vs) T' e fun ds2 T2 => AT K E tt ds2 T2 fun b T3 =>
    if b = true then AE K E te ds2 T3 fun y T4 => ∃ v s', M (some v, s') ∧ y = e' v ∧ Sx s' T4 else ∃ s', M (none, s') ∧ Sx s' T3
abbrev LcI (xs : List α) (f : α → S → Option (Option β × S)) (e' : β → D) (Q : List β × S → Prop) (Sx : S → Tb → Prop) (i : Nat) (acc : List D) (T' : Tb) : Prop :=
  ∃ (s : S) (bs : List β), acc = bs.map e' ∧ bs.length ≤ i ∧ G (lcM (xs.drop i) s f) (fun r => Q (bs ++ r.1, r.2)) ∧ Sx s T'
theorem lc_step {is vs : List Nat} {xs : List α} {f : α → S → Option (Option β × S)} {e : α → D} {e' : β → D} {Q : List β × S → Prop} {Sx : S → Tb → Prop} {i : Nat} {acc : List D} {T' : Tb} {x : α} (hl : xs.length ≤ 100000) (hx : xs[i]? = some x) (ht : TurnL K E is vs g tt te ds (e x) e' (f x) Sx) (hi : LcI xs f e' Q Sx i acc T') :
    LcTurn K E g tt te is vs ds (LcI xs f e' Q Sx) i acc T' (e x) := by
  obtain ⟨s, bs, rfl, hb, hg, hs⟩ := hi
  have hlt := (List.getElem?_eq_some_iff.mp hx).1
  have ed : xs.drop i = x :: xs.drop (i + 1) := by
    rw [List.drop_eq_getElem_cons hlt]
    rw [(List.getElem?_eq_some_iff.mp hx).2]
  rw [ed] at hg
  have h1 := gbind hg
  refine (ht s _ h1 T' hs).imp fun ds2 T2 h => h.imp fun b T3 h => ?_
  cases b with
  | true =>
    refine (if_pos rfl).symm ▸ AE.imp (if_pos rfl ▸ h) fun y T4 ⟨v, s', hm, ey, hs'⟩ => ⟨by rw [List.length_map]; omega, s', bs ++ [v], by rw [ey, List.map_append]; rfl, by rw [List.length_append]; exact Nat.succ_le_succ hb, (gbind hm).imp fun r q => ?_, hs'⟩
    have q' := gsome (a := ((some v).toList ++ r.1, r.2)) (Q := fun r => Q (bs ++ r.1, r.2)) q
    rw [List.append_assoc]
    exact q'
  | false =>
    obtain ⟨s', hm, hs'⟩ : ∃ s', _ ∧ _ := (if_neg Bool.false_ne_true) ▸ h
    refine (if_neg Bool.false_ne_true).symm ▸ ⟨s', bs, rfl, by omega, (gbind hm).imp fun r q => ?_, hs'⟩
    exact gsome (a := ((none : Option β).toList ++ r.1, r.2)) (Q := fun r => Q (bs ++ r.1, r.2)) q
theorem lc_end {xs : List α} {f : α → S → Option (Option β × S)} {e' : β → D} {Q : List β × S → Prop} {Sx : S → Tb → Prop} {i : Nat} {acc : List D} {T' : Tb} (h : xs.length ≤ i) (hi : LcI xs f e' Q Sx i acc T') : ∃ bs s, acc = bs.map e' ∧ Q (bs, s) ∧ Sx s T' := by
  obtain ⟨s, bs, rfl, hb, hg, hs⟩ := hi
  rw [List.drop_of_length_le h] at hg
  have := gsome (a := (([] : List β), s)) (Q := fun r => Q (bs ++ r.1, r.2)) hg
  rw [List.append_nil] at this
  exact ⟨bs, s, rfl, this, hs⟩
theorem lc_zero {xs : List α} {f : α → S → Option (Option β × S)} {e' : β → D} {Q : List β × S → Prop} {Sx : S → Tb → Prop} {s : S} {T' : Tb} (hg : G (lcM xs s f) Q) (hs : Sx s T') : LcI xs f e' Q Sx 0 [] T' := ⟨s, [], rfl, Nat.le_refl _, hg.imp fun r q => by rw [List.nil_append]; exact q, hs⟩
theorem lcL_G {is vs : List Nat} (hs : ∀ i ∈ is, i ∈ vs) (h : AE K E tl ds T fun d T1 => ∃ (α β S : Type) (xs : List α) (e : α → D) (e' : β → D) (s0 : S) (f : α → S → Option (Option β × S)) (Q : List β × S → Prop) (Sx : S → Tb → Prop), G (lcO xs s0 f) Q ∧ LV T1 d (xs.map e) ∧ Sx s0 T1 ∧ (∀ s T', Sx s T' → LV T' d (xs.map e)) ∧
      (∀ x, x ∈ xs → TurnL K E is vs g tt te ds (e x) e' (f x) Sx) ∧ ∀ r s, Q (r, s) → ∀ T', Sx s T' → P (.lst (r.map e')) T') : AE K E (tLc (iU K tl) g tt te vs) ds T P := by
  refine lcLF hs (h.imp fun d T1 ⟨α, β, S, xs, e, e', s0, f, Q, Sx, hG, lv, i0, stab, step, fin⟩ => ⟨_, lv, LcI xs f e' Q Sx, lc_zero (gchk hG).2 i0, fun i acc T' _ ⟨s, _, _, _, _, z⟩ => stab s T' z, ?_, ?_⟩)
  · intro i dx acc T' hx hi
    rw [List.getElem?_map] at hx
    cases e1 : xs[i]? with
    | none => rw [e1] at hx; cases hx
    | some x =>
      rw [e1] at hx
      cases hx
      exact lc_step (gchk hG).1 e1 (step x (List.mem_of_getElem? e1)) hi
  · intro acc T' hi
    rw [List.length_map] at hi
    obtain ⟨bs, s, rfl, q, hs⟩ := lc_end (Nat.le_refl _) hi
    exact fin bs s q T' hs
theorem lcT_G {is vs : List Nat} (hs : ∀ i ∈ is, i ∈ vs) (h : AE K E tl ds T fun d T1 => ∃ (α β S : Type) (xs : List α) (e : α → D) (e' : β → D) (s0 : S) (f : α → S → Option (Option β × S)) (Q : List β × S → Prop) (Sx : S → Tb → Prop), G (lcO xs s0 f) Q ∧ d = .tup (xs.map e) ∧ Sx s0 T1 ∧
      (∀ x, x ∈ xs → TurnL K E is vs g tt te ds (e x) e' (f x) Sx) ∧ ∀ r s, Q (r, s) → ∀ T', Sx s T' → P (.lst (r.map e')) T') : AE K E (tLc (iU K tl) g tt te vs) ds T P := by
  refine lcTF hs (h.imp fun d T1 ⟨α, β, S, xs, e, e', s0, f, Q, Sx, hG, lv, i0, step, fin⟩ => ⟨_, lv, LcI xs f e' Q Sx, lc_zero (gchk hG).2 i0, ?_, ?_⟩)
  · intro i dx acc T' hx hi
    rw [List.getElem?_map] at hx
    cases e1 : xs[i]? with
    | none => rw [e1] at hx; cases hx
    | some x =>
      rw [e1] at hx
      cases hx
      exact lc_step (gchk hG).1 e1 (step x (List.mem_of_getElem? e1)) hi
  · intro acc T' hi
    rw [List.length_map] at hi
    obtain ⟨bs, s, rfl, q, hs⟩ := lc_end (Nat.le_refl _) hi
    exact fin bs s q T' hs
theorem lcR_G {is vs : List Nat} (hs : ∀ i ∈ is, i ∈ vs) (h : AA K E ta ds T fun dd T1 => ∃ (β S : Type) (n : Int) (e' : β → D) (s0 : S) (f : Int → S → Option (Option β × S)) (Q : List β × S → Prop) (Sx : S → Tb → Prop), dd = [.int n] ∧ n.natAbs ≤ 1000000000000000000 ∧ G (lcO (irng 0 n) s0 f) Q ∧ Sx s0 T1 ∧
      (∀ x, x ∈ irng 0 n → TurnL K E is vs g tt te ds (.int x) e' (f x) Sx) ∧ ∀ r s, Q (r, s) → ∀ T', Sx s T' → P (.lst (r.map e')) T') : AE K E (tLc (iRng1 ta) g tt te vs) ds T P := by
  refine lcRF hs (h.imp fun dd T1 ⟨β, S, n, e', s0, f, Q, Sx, hd, hn, hG, i0, step, fin⟩ => ⟨n, hd, by omega, LcI (irng 0 n) f e' Q Sx, lc_zero (gchk hG).2 i0, ?_, ?_⟩)
  · intro i acc T' hi hj
    have e1 : (irng 0 n)[i]? = some (i : Int) := by rw [irng_at (by omega)]; simp
    exact lc_step (e := D.int) (gchk hG).1 e1 (step _ (List.mem_of_getElem? e1)) hj
  · intro acc T' hi
    obtain ⟨bs, s, rfl, q, hs⟩ := lc_end (by rw [irng_len]; omega) hi
    exact fin bs s q T' hs
theorem lcR2_G {is vs : List Nat} (hs : ∀ i ∈ is, i ∈ vs) (h : AA K E ta ds T fun dd T1 => ∃ (β S : Type) (lo n : Int) (e' : β → D) (s0 : S) (f : Int → S → Option (Option β × S)) (Q : List β × S → Prop) (Sx : S → Tb → Prop), dd = [.int lo, .int n] ∧ lo.natAbs ≤ 1000000000000000000 ∧ n.natAbs ≤ 1000000000000000000 ∧ G (lcO (irng lo n) s0 f) Q ∧ Sx s0 T1 ∧
      (∀ x, x ∈ irng lo n → TurnL K E is vs g tt te ds (.int x) e' (f x) Sx) ∧ ∀ r s, Q (r, s) → ∀ T', Sx s T' → P (.lst (r.map e')) T') : AE K E (tLc (iRng2 ta) g tt te vs) ds T P := by
  refine lcR2F hs (h.imp fun dd T1 ⟨β, S, lo, n, e', s0, f, Q, Sx, hd, hn, hn2, hG, i0, step, fin⟩ => ⟨lo, n, hd, by omega, by omega, LcI (irng lo n) f e' Q Sx, lc_zero (gchk hG).2 i0, ?_, ?_⟩)
  · intro i acc T' hi hj
    have e1 : (irng lo n)[i]? = some (lo + (i : Int)) := by rw [irng_at (by omega)]
    exact lc_step (e := D.int) (gchk hG).1 e1 (step _ (List.mem_of_getElem? e1)) hj
  · intro acc T' hi
    obtain ⟨bs, s, rfl, q, hs⟩ := lc_end (by rw [irng_len]; omega) hi
    exact fin bs s q T' hs
end
end AW

/-! Mi3: typed rules, sorts, calls, freezing. -/
namespace AW
open PySem PySem.Spec PyProof.Rows L2 Evl

/-! ### sorting -/
structure STO {α : Type} (lt : α → α → Bool) : Prop where
  ir : ∀ x, lt x x = false
  tr : ∀ x y z, lt x y = true → lt y z = true → lt x z = true
  tc : ∀ x y, lt x y = false → lt y x = false → x = y
section
variable {α : Type} {lt : α → α → Bool}
def uins (lt : α → α → Bool) (x : α) : List α → List α
  | [] => [x]
  | y :: ys => if lt x y = true then x :: y :: ys else if lt y x = true then y :: uins lt x ys else y :: ys
/-- the strictly ascending list of the items -/
def usort (lt : α → α → Bool) (xs : List α) : List α := xs.foldr (uins lt) []
def iins (lt : α → α → Bool) (x : α) : List α → List α
  | [] => [x]
  | y :: ys => if lt y x = true then y :: iins lt x ys else x :: y :: ys
/-- the ascending list of the items -/
def isort (lt : α → α → Bool) (xs : List α) : List α := xs.foldr (iins lt) []
theorem uins_mem (h : STO lt) {x z : α} : ∀ {ys : List α}, z ∈ uins lt x ys ↔ z = x ∨ z ∈ ys
  | [] => by simp [uins]
  | y :: ys => by
    unfold uins
    by_cases h1 : lt x y = true
    · rw [if_pos h1]; simp
    · rw [if_neg h1]
      by_cases h2 : lt y x = true
      · rw [if_pos h2, List.mem_cons, uins_mem h, List.mem_cons]
        constructor
        · rintro (a | a | a)
          · exact .inr (.inl a)
          · exact .inl a
          · exact .inr (.inr a)
        · rintro (a | a | a)
          · exact .inr (.inl a)
          · exact .inl a
          · exact .inr (.inr a)
      · rw [if_neg h2]
        have : x = y := h.tc x y (by simpa using h1) (by simpa using h2)
        subst this
        simp
theorem uins_pw (h : STO lt) {x : α} : ∀ {ys : List α}, ys.Pairwise (fun a b => lt a b = true) → (uins lt x ys).Pairwise (fun a b => lt a b = true)
  | [], _ => by simp [uins]
  | y :: ys, hp => by
    unfold uins
    rw [List.pairwise_cons] at hp
    by_cases h1 : lt x y = true
    · rw [if_pos h1, List.pairwise_cons, List.pairwise_cons]
      refine ⟨fun z hz => ?_, hp⟩
      rcases List.mem_cons.mp hz with rfl | hz
      · exact h1
      · exact h.tr _ _ _ h1 (hp.1 z hz)
    · rw [if_neg h1]
      by_cases h2 : lt y x = true
      · rw [if_pos h2, List.pairwise_cons]
        refine ⟨fun z hz => ?_, uins_pw h hp.2⟩
        rcases (uins_mem h).mp hz with rfl | hz
        · exact h2
        · exact hp.1 z hz
      · rw [if_neg h2, List.pairwise_cons]
        exact hp
theorem usort_mem (h : STO lt) {z : α} : ∀ {xs : List α}, z ∈ usort lt xs ↔ z ∈ xs
  | [] => Iff.rfl
  | x :: xs => by
    show z ∈ uins lt x (usort lt xs) ↔ _
    rw [uins_mem h, usort_mem h, List.mem_cons]
theorem usort_pw (h : STO lt) : ∀ xs : List α, (usort lt xs).Pairwise (fun a b => lt a b = true)
  | [] => List.Pairwise.nil
  | x :: xs => uins_pw h (usort_pw h xs)
theorem usort_uniq (h : STO lt) : ∀ {xs ys : List α}, xs.Pairwise (fun a b => lt a b = true) → ys.Pairwise (fun a b => lt a b = true) → (∀ z, z ∈ xs ↔ z ∈ ys) → xs = ys
  | [], [], _, _, _ => rfl
  | [], y :: ys, _, _, e => by have := (e y).mpr (List.mem_cons_self ..); cases this
  | x :: xs, [], _, _, e => by have := (e x).mp (List.mem_cons_self ..); cases this
  | x :: xs, y :: ys, hx, hy, e => by
    rw [List.pairwise_cons] at hx hy
    have exy : x = y := by
      rcases List.mem_cons.mp ((e x).mp (List.mem_cons_self ..)) with a | a
      · exact a
      · rcases List.mem_cons.mp ((e y).mpr (List.mem_cons_self ..)) with b | b
        · exact b.symm
        · have := h.tr _ _ _ (hx.1 y b) (hy.1 x a)
          rw [h.ir] at this
          cases this
    subst exy
    rw [usort_uniq h hx.2 hy.2 fun z => ?_]
    constructor
    · intro hz
      rcases List.mem_cons.mp ((e z).mp (List.mem_cons_of_mem _ hz)) with a | a
      · subst a
        have := hx.1 z hz
        rw [h.ir] at this
        cases this
      · exact a
    · intro hz
      rcases List.mem_cons.mp ((e z).mpr (List.mem_cons_of_mem _ hz)) with a | a
      · subst a
        have := hy.1 z hz
        rw [h.ir] at this
        cases this
      · exact a
theorem iins_perm {x : α} : ∀ {ys : List α}, (iins lt x ys).Perm (x :: ys)
  | [] => .refl _
  | y :: ys => by
    unfold iins
    by_cases h1 : lt y x = true
    · rw [if_pos h1]
      exact (iins_perm.cons y).trans (.swap ..)
    · rw [if_neg h1]
theorem isort_perm : ∀ xs : List α, (isort lt xs).Perm xs
  | [] => .refl _
  | x :: xs => iins_perm.trans ((isort_perm xs).cons x)
theorem iins_pw (h : STO lt) {x : α} : ∀ {ys : List α}, ys.Pairwise (fun a b => lt b a = false) → (iins lt x ys).Pairwise (fun a b => lt b a = false)
  | [], _ => by simp [iins]
  | y :: ys, hp => by
    unfold iins
    rw [List.pairwise_cons] at hp
    by_cases h1 : lt y x = true
    · rw [if_pos h1, List.pairwise_cons]
      refine ⟨fun z hz => ?_, iins_pw h hp.2⟩
      rcases List.mem_cons.mp (iins_perm.mem_iff.mp hz) with rfl | hz
      · cases e : lt z y with
        | false => rfl
        | true => have := h.tr _ _ _ h1 e; rw [h.ir] at this; cases this
      · exact hp.1 z hz
    · rw [if_neg h1, List.pairwise_cons, List.pairwise_cons]
      refine ⟨fun z hz => ?_, hp⟩
      have h1' : lt y x = false := by simpa using h1
      rcases List.mem_cons.mp hz with rfl | hz
      · exact h1'
      · have h3 := hp.1 z hz
        cases e : lt z x with
        | false => rfl
        | true =>
          cases e2 : lt x y with
          | true => have := h.tr _ _ _ e e2; rw [h3] at this; cases this
          | false =>
            have : x = y := h.tc _ _ e2 h1'
            subst this
            rw [h3] at e
            cases e
theorem isort_pw (h : STO lt) : ∀ xs : List α, (isort lt xs).Pairwise (fun a b => lt b a = false)
  | [] => List.Pairwise.nil
  | x :: xs => iins_pw h (isort_pw h xs)
theorem isort_uniq (h : STO lt) : ∀ {xs ys : List α}, xs.Pairwise (fun a b => lt b a = false) → ys.Pairwise (fun a b => lt b a = false) → xs.Perm ys → xs = ys
  | [], ys, _, _, e => (List.Perm.nil_eq e)
  | x :: xs, [], _, _, e => by have := e.length_eq; simp at this
  | x :: xs, y :: ys, hx, hy, e => by
    rw [List.pairwise_cons] at hx hy
    have exy : x = y := by
      rcases List.mem_cons.mp (e.mem_iff.mp (List.mem_cons_self ..)) with a | a
      · exact a
      · rcases List.mem_cons.mp (e.mem_iff.mpr (List.mem_cons_self ..)) with b | b
        · exact b.symm
        · exact h.tc _ _ (hy.1 x a) (hx.1 y b)
    subst exy
    rw [isort_uniq h hx.2 hy.2 (List.perm_cons x |>.mp e)]
theorem sto_irr (h : STO lt) {x y : α} (e : lt x y = true) : x ≠ y := fun z => by rw [z, h.ir] at e; cases e
end
def ltI : Int → Int → Bool := fun a b => decide (a < b)
theorem sto_I : STO ltI := ⟨fun x => by simp [ltI], fun x y z h1 h2 => by simp [ltI] at *; omega, fun x y h1 h2 => by simp [ltI] at *; omega⟩
def ltT2 {α β : Type} [DecidableEq α] (la : α → α → Bool) (lb : β → β → Bool) : α × β → α × β → Bool := fun x y => la x.1 y.1 || (decide (x.1 = y.1) && lb x.2 y.2)
theorem sto_T2 {α β : Type} [DecidableEq α] {la : α → α → Bool} {lb : β → β → Bool} (ha : STO la) (hb : STO lb) : STO (ltT2 la lb) := by
  refine ⟨fun x => ?_, fun x y z h1 h2 => ?_, fun x y h1 h2 => ?_⟩
  · simp [ltT2, ha.ir, hb.ir]
  · simp only [ltT2, Bool.or_eq_true, Bool.and_eq_true, decide_eq_true_eq] at *
    rcases h1 with h1 | ⟨e1, h1⟩
    · rcases h2 with h2 | ⟨e2, h2⟩
      · exact .inl (ha.tr _ _ _ h1 h2)
      · exact .inl (by rw [← e2]; exact h1)
    · rcases h2 with h2 | ⟨e2, h2⟩
      · exact .inl (by rw [e1]; exact h2)
      · exact .inr ⟨e1.trans e2, hb.tr _ _ _ h1 h2⟩
  · simp only [ltT2, Bool.or_eq_false_iff, Bool.and_eq_false_iff, decide_eq_false_iff_not] at *
    have e1 := ha.tc _ _ h1.1 h2.1
    have e2 : x.2 = y.2 := hb.tc _ _ (h1.2.resolve_left fun z => z e1) (h2.2.resolve_left fun z => z e1.symm)
    exact Prod.ext e1 e2
abbrev ltT3 : Int × Int × Int → Int × Int × Int → Bool := ltT2 ltI (ltT2 ltI ltI)
theorem sto_T3 : STO ltT3 := sto_T2 sto_I (sto_T2 sto_I sto_I)
abbrev ltP : Int × Int → Int × Int → Bool := ltT2 ltI ltI
theorem sto_P : STO ltP := sto_T2 sto_I sto_I

section
variable {K : PySem.W.Frag} {E : Ent} {F H F' H' : Hp} {ds : Sls} {T T' : Tb} {σ : L2.St} {v : V} {d d1 d2 : D} {P P' : PD} {te tl : TE} {ta tr : TA} {t u tb : TS} {tt tu : TT} {g : TG} {N N' B B' C C' : PS2} {R R' : PD} {α β S Rt : Type} {e : α → D} {xs ys : List α} {i j : Int}
/-! ### views -/
theorem LV.w {ds : List D} {x : Ow} (l : LV T d ds) : LV (x :: T) d ds := by
  cases l with
  | f => exact .f _
  | r => exact .r _
  | @o j e _ h1 h2 => exact .o (j := j + 1) (by simpa using h1) h2
theorem LV.ws {ds : List D} {G : Tb} (l : LV T d ds) : LV (G ++ T) d ds := by
  induction G with
  | nil => exact l
  | cons x G ih => exact ih.w
theorem LW.w {ds : List D} {x : Ow} (l : LW T d ds) : LW (x :: T) d ds := by
  cases l with
  | f => exact .f _
  | @o j e _ h1 h2 => exact .o (j := j + 1) (by simpa using h1) h2
theorem Dv.w {q : PyData} {x : Ow} (l : Dv T d q) : Dv (x :: T) d q := by
  cases l with
  | p h => exact .p h
  | @o j e _ h1 h2 h3 => exact .o (j := j + 1) (by simpa using h1) h2 h3
/-! ### typed rules -/
theorem rd_ixLM {x : α} (l : LV T d1 (xs.map e)) (h : atI xs i = some x) (p : P (e x) T) : RD K E (rIx K) T d1 (.int i) P := rd_ixL l (atI_map h) p
theorem rd_ixTM {x : α} (h : atI xs i = some x) (p : P (e x) T) : RD K E (rIx K) T (.tup (xs.map e)) (.int i) P := rd_ixT (atI_map h) p
theorem rs_LM {lo hi : Option Int} (l : LV T d (xs.map e)) (p : P (.lst ((cutX xs lo hi).map e)) T) : RS K E (rSlU K) T d lo hi P := rs_L l (by rw [cutX_map]; exact p)
theorem rs_LMO {lo hi : Option Int} (l : LV T d (xs.map e)) (p : ∀ a, P (.adr a) (⟨a, true, .lst ((cutX xs lo hi).map e)⟩ :: T)) : RS K E (rSlU K) T d lo hi P := rs_LO l (by rw [cutX_map]; exact p)
theorem rs_TM {lo hi : Option Int} (p : P (.tup ((cutX xs lo hi).map e)) T) : RS K E (rSlU K) T (.tup (xs.map e)) lo hi P := rs_T (by rw [cutX_map]; exact p)
theorem rc_lenLM (l : LV T d (xs.map e)) (p : P (.int xs.length) T) : RC K E (rLenU K) T [d] P := rc_lenL l (by rw [List.length_map]; exact p)
theorem rc_lenTM (p : P (.int xs.length) T) : RC K E (rLenU K) T [.tup (xs.map e)] P := rc_lenT (by rw [List.length_map]; exact p)
theorem tru_LM {Q : Bool → Prop} (l : LV T d (xs.map e)) (p : Q (!xs.isEmpty)) : ∃ k, Tru K E T d k ∧ Q k := ⟨_, tru_list l, by rw [isEmpty_map]; exact p⟩
theorem tru_TM {Q : Bool → Prop} (p : Q (!xs.isEmpty)) : ∃ k, Tru K E T (.tup (xs.map e)) k ∧ Q k := ⟨_, tru_tup, by rw [isEmpty_map]; exact p⟩
theorem rm_appendM {a : Addr} {l : Bool} {x : α} (j : Nat) (hj : T[j]? = some ⟨a, l, .lst (xs.map e)⟩) (hl : xs.length < 100000) (hd : d = e x) (p : P .non (T.set j ⟨a, l, .lst ((xs ++ [x]).map e)⟩)) : RM K E rAppend T (.adr a) [d] P :=
  rm_append j hj (by rw [List.length_map]; exact hl) (by rw [List.map_append, ← show [x].map e = [d] by rw [hd]; rfl] at *; exact p)
theorem rm_popM {a : Addr} {l : Bool} {x : α} (j : Nat) (hj : T[j]? = some ⟨a, l, .lst (xs.map e)⟩) (hl : xs.getLast? = some x) (p : P (e x) (T.set j ⟨a, l, .lst (xs.dropLast.map e)⟩)) : RM K E rPop T (.adr a) [] P :=
  rm_pop j hj (by rw [List.getLast?_map, hl]; rfl) (by rw [← List.map_dropLast]; exact p)
theorem rd_catLM (l1 : LW T d1 (xs.map e)) (l2 : LW T d2 (ys.map e)) (hl : xs.length + ys.length ≤ 100000) (p : P (.lst ((xs ++ ys).map e)) T) : RD K E (rAdd K) T d1 d2 P := rd_catL l1 l2 (by rw [List.length_map, List.length_map]; exact hl) (by rw [← List.map_append]; exact p)
theorem rd_catLMO (l1 : LW T d1 (xs.map e)) (l2 : LW T d2 (ys.map e)) (hl : xs.length + ys.length ≤ 100000) (p : ∀ a, P (.adr a) (⟨a, true, .lst ((xs ++ ys).map e)⟩ :: T)) : RD K E (rAdd K) T d1 d2 P := rd_catLO l1 l2 (by rw [List.length_map, List.length_map]; exact hl) (by rw [← List.map_append]; exact p)
theorem rd_catTM (hl : xs.length + ys.length ≤ 100000) (p : P (.tup ((xs ++ ys).map e)) T) : RD K E (rAdd K) T (.tup (xs.map e)) (.tup (ys.map e)) P := rd_catT (by rw [List.length_map, List.length_map]; exact hl) (by rw [← List.map_append]; exact p)
theorem ae_revLM (h : AE K E te ds T fun d T1 => ∃ (α : Type) (e : α → D) (xs : List α), LV T1 d (xs.map e) ∧ P (.lst (xs.reverse.map e)) T1) : AE K E (tRevL K te) ds T P :=
  ae_revL (h.imp fun d T1 ⟨α, e, xs, l, p⟩ => ⟨_, l, by rw [← List.map_reverse]; exact p⟩)
theorem ae_revLMO (h : AE K E te ds T fun d T1 => ∃ (α : Type) (e : α → D) (xs : List α), LV T1 d (xs.map e) ∧ ∀ a, P (.adr a) (⟨a, true, .lst (xs.reverse.map e)⟩ :: T1)) : AE K E (tRevL K te) ds T P :=
  ae_revLO (h.imp fun d T1 ⟨α, e, xs, l, p⟩ => ⟨_, l, by rw [← List.map_reverse]; exact p⟩)
/-- == of typed data -/
theorem dv_f [DecidableEq α] {n : Nat} (pl : Pl n e) (x : α) : Dv T (e x) (e x).py := .p (pl.pl x)
theorem shaped_of {q : PyData} (h1 : q.canLay0 = true) (h2 : q.depth ≤ 60) : SeqAt.shaped q = true := by
  unfold SeqAt.shaped
  rw [h1, Bool.true_and]
  exact decide_eq_true (by omega)
theorem rd_eqM [DecidableEq α] {n : Nat} (pl : Pl n e) (hn : n ≤ 60) {x y : α} (h1 : Dv T d1 (e x).py) (h2 : Dv T d2 (e y).py) (p : P (.bl (decide (x = y))) T) : RD K E (rEqU K) T d1 d2 P :=
  rd_eq h1 h2 (shaped_of (pl.cl x) (Nat.le_trans (pl.dp x) hn)) (shaped_of (pl.cl y) (Nat.le_trans (pl.dp y) hn)) (by rw [pl.eq]; exact p)
theorem rd_neM [DecidableEq α] {n : Nat} (pl : Pl n e) (hn : n ≤ 60) {x y : α} (h1 : Dv T d1 (e x).py) (h2 : Dv T d2 (e y).py) (p : P (.bl (!decide (x = y))) T) : RD K E (rNeU K) T d1 d2 P :=
  rd_ne h1 h2 (shaped_of (pl.cl x) (Nat.le_trans (pl.dp x) hn)) (shaped_of (pl.cl y) (Nat.le_trans (pl.dp y) hn)) (by rw [pl.eq]; exact p)
/-- a typed list, as it may lie, for == -/
theorem dv_LV [DecidableEq α] {n : Nat} (pl : Pl n e) (l : LV T d (xs.map e)) : Dv T d (eL e xs).py := by
  have := dv_of_lv l (fun x hx => by
    obtain ⟨y, _, rfl⟩ := List.mem_map.mp hx
    exact pl.pl y)
  rwa [D.py_lst]
theorem any_eqM [DecidableEq α] {n : Nat} (pl : Pl n e) (x : α) : ∀ xs : List α, ((xs.map e).map D.py).any (fun z => PyData.eqv z (e x).py) = decide (x ∈ xs)
  | [] => by simp
  | y :: ys => by
    rw [List.map_cons, List.map_cons, List.any_cons, any_eqM pl x ys, pl.eq]
    rw [Bool.eq_iff_iff]
    simp only [Bool.or_eq_true, decide_eq_true_eq, List.mem_cons]
    exact ⟨fun h => h.imp (fun z => z.symm) id, fun h => h.imp (fun z => z.symm) id⟩
theorem rd_inM [DecidableEq α] {n : Nat} (pl : Pl n e) (hn : n ≤ 59) {x : α} (h1 : Dv T d1 (e x).py) (l : LV T d2 (xs.map e)) (p : P (.bl (decide (x ∈ xs))) T) : RD K E (rInU K) T d1 d2 P := by
  have h := dv_of_lv l (fun x hx => by
    obtain ⟨y, _, rfl⟩ := List.mem_map.mp hx
    exact pl.pl y)
  refine rd_in h1 h (shaped_of (pl.cl x) (by have := pl.dp x; omega)) (shaped_of (by simp only [PyData.canLay0]; exact pl_cl pl xs) (by simp only [PyData.depth]; have := pl_dp pl xs; omega)) ?_
  rw [any_eqM pl]
  exact p
theorem rd_ninM [DecidableEq α] {n : Nat} (pl : Pl n e) (hn : n ≤ 59) {x : α} (h1 : Dv T d1 (e x).py) (l : LV T d2 (xs.map e)) (p : P (.bl (!decide (x ∈ xs))) T) : RD K E (rNinU K) T d1 d2 P := by
  have h := dv_of_lv l (fun x hx => by
    obtain ⟨y, _, rfl⟩ := List.mem_map.mp hx
    exact pl.pl y)
  refine rd_nin h1 h (shaped_of (pl.cl x) (by have := pl.dp x; omega)) (shaped_of (by simp only [PyData.canLay0]; exact pl_cl pl xs) (by simp only [PyData.depth]; have := pl_dp pl xs; omega)) ?_
  rw [any_eqM pl]
  exact p
/-! ### sorted, typed -/
theorem rc_sortIM {ns : List Int} (l : LV T d (ns.map D.int)) (p : P (.lst ((isort ltI ns).map .int)) T) : RC K E (rSortA K) T [d] P := rc_sortAI l fun ns' h1 h2 => by
  have : ns' = isort ltI ns := isort_uniq sto_I (h2.imp fun h => by simp [ltI]; omega) (isort_pw sto_I ns) (h1.trans (isort_perm ns).symm)
  rw [this]
  exact p
/-! ### freezing -/
theorem as_frz {a : Addr} {ob : OB} (i : Nat) (j : Nat) (hi : ds[i]? = some (some (.adr a))) (hj : T[j]? = some ⟨a, true, ob⟩) (h : AS K E t (ds.set i (some ob.d)) (T.eraseIdx j) N R B C) : AS K E t ds T N R B C := AS.ghost fun F σ H ok => by
  obtain ⟨F2, ok2, e2, i2, same⟩ := ok.froz hj rfl
  refine ⟨F2, _, _, e2, ⟨ok2.p, by rw [List.length_set]; exact ok2.ln, ?_, ok2.ow, ok2.nd⟩, h⟩
  intro k d hd
  by_cases hk : i = k
  · subst hk
    have hl : i < ds.length := (List.getElem?_eq_some_iff.mp hi).1
    rw [List.getElem?_set_self hl] at hd
    cases hd
    obtain ⟨v, h1, h2⟩ := ok2.sl i _ hi
    cases h2
    exact ⟨_, h1, i2⟩
  · rw [List.getElem?_set_ne hk] at hd
    exact ok2.sl k d hd
theorem Ok.perm (ok : Ok K E F ds T σ H) (h : T.Perm T') : Ok K E F ds T' σ H := ⟨ok.p, ok.ln, ok.sl, fun e he => ok.ow e (h.mem_iff.mpr he), (h.map _).nodup_iff.mp ok.nd⟩
theorem AE.sub (h : AE K E te ds T fun d T' => ∃ T2 T3, T'.Perm T3 ∧ T2.Sublist T3 ∧ P d T2) : AE K E te ds T P := fun F σ H Q ok q => h F σ H Q ok fun v d T' F' H' ⟨T2, T3, hp, hs, p⟩ ok' fr al i =>
  q v d T2 F' H' p ((ok'.perm hp).less hs) ⟨fr.ff, fr.hh, fr.nw, fun e he => fr.tt e (hp.mem_iff.mpr (hs.subset he))⟩ al i
theorem as_sub (T2 T3 : Tb) (hp : T.Perm T3) (hs : T2.Sublist T3) (h : AS K E t ds T2 N R B C) : AS K E t ds T N R B C := fun F σ H D ok k => h F σ H D ((ok.perm hp).less hs) k
theorem as_less (T2 : Tb) (hs : T2.Sublist T) (h : AS K E t ds T2 N R B C) : AS K E t ds T N R B C := as_sub T2 T (.refl _) hs h
/-! ### calls -/
/-- f(..) that changes the object at place j, and reads the others -/
theorem ae_callM (j : Nat) {A : Con0} {EE : L2.St → XK} {PX : Value → Tb → Prop} (hx : Exc K E EE PX ds) (h : AA K E ta ds T fun dd T' => ∃ e, T'[j]? = some e ∧ A dd ((e.a, e.ob) :: toFoot (T'.eraseIdx j))
      (fun d os new => ∃ ob', os = ob' :: (T'.eraseIdx j).map (·.ob) ∧ P d (news new ++ T'.set j ⟨e.a, e.loc, ob'⟩)) (fun cls os => ∃ ob', os = ob' :: (T'.eraseIdx j).map (·.ob) ∧ PX cls (T'.set j ⟨e.a, e.loc, ob'⟩))) :
    AE K E (tCallG (spA K A) EE ta) ds T P := fun F σ H Q ok q =>
  h F σ H _ ok fun vs dd T1 F1 H1 ⟨e, hj, p1⟩ ok1 fr1 al1 i1 => by
    have hjl := (List.getElem?_eq_some_iff.mp hj).1
    have hp : T1.Perm (e :: T1.eraseIdx j) := by
      have h1 : T1 = T1.take j ++ e :: T1.drop (j + 1) := by
        conv => lhs; rw [← List.take_append_drop j T1, List.drop_eq_getElem_cons hjl, (List.getElem?_eq_some_iff.mp hj).2]
      rw [List.eraseIdx_eq_take_drop_succ]
      conv => lhs; rw [h1]
      exact List.perm_middle
    have hfst : (((e.a, e.ob) :: toFoot (T1.eraseIdx j) : Foot).map (·.1)) = (e :: T1.eraseIdx j).map (·.a) := by rw [List.map_cons, toFoot_fst]; rfl
    have hO : ∀ a ∈ ((e.a, e.ob) :: toFoot (T1.eraseIdx j) : Foot).map (·.1), a ∈ ads T1 := fun a ha => by
      rw [hfst] at ha
      exact (hp.map _).mem_iff.mpr ha
    have hob : ∀ {os : List OB} {new : Foot} {ob' : OB} {F2 H2 : Hp}, os = ob' :: (T1.eraseIdx j).map (·.ob) → EndP K F1 H1 ((e.a, e.ob) :: toFoot (T1.eraseIdx j)) os new F2 H2 →
        ∀ (i : Nat) (x x' : Ow), T1[i]? = some x → (T1.set j ⟨e.a, e.loc, ob'⟩)[i]? = some x' → (x.a ∉ ((e.a, e.ob) :: toFoot (T1.eraseIdx j) : Foot).map (·.1) ∧ x'.ob = x.ob) ∨ IsO K F2 H2 x.a x'.ob := by
      intro os new ob' F2 H2 hos ep i x x' h1 h2
      refine .inr ?_
      by_cases hij : j = i
      · subst hij
        rw [List.getElem?_set_self hjl] at h2
        rw [hj] at h1
        cases h1
        cases h2
        refine (ep.ow (e.a, ob') ?_).2
        rw [hos]
        exact List.mem_cons_self ..
      · rw [List.getElem?_set_ne hij, h1] at h2
        cases h2
        refine (ep.ow (x.a, x.ob) ?_).2
        rw [hos, List.map_cons, toFoot_fst]
        refine List.mem_cons_of_mem _ ?_
        have hm : x ∈ T1.eraseIdx j := by
          by_cases hlt : i < j
          · exact List.mem_of_getElem? (i := i) (by rw [List.getElem?_eraseIdx_of_lt hlt]; exact h1)
          · exact List.mem_of_getElem? (i := i - 1) (by rw [List.getElem?_eraseIdx_of_ge (by omega), show i - 1 + 1 = i by omega]; exact h1)
        obtain ⟨n, hn⟩ := List.getElem?_of_mem hm
        refine List.mem_of_getElem? (i := n) ?_
        show (List.zip _ _)[n]? = _
        rw [List.getElem?_zip_eq_some]
        exact ⟨by rw [List.getElem?_map, hn]; rfl, by rw [List.getElem?_map, hn]; rfl⟩
    refine ⟨F1, dd, _, _, _, ok1.p.fh, i1, fun x hx => ?_, ?_, p1, ?_, ?_⟩
    · rcases List.mem_cons.mp hx with rfl | hx
      · have w := ok1.ow e (List.mem_of_getElem? hj)
        exact ⟨w.f, w.o⟩
      · obtain ⟨x0, hx0, rfl⟩ := List.mem_map.mp hx
        have w := ok1.ow x0 ((List.eraseIdx_sublist ..).subset hx0)
        exact ⟨w.f, w.o⟩
    · rw [hfst]
      exact (hp.map _).nodup_iff.mp ok1.nd
    · rintro v d os new F2 H2 ⟨ob', hos, p⟩ ep iv
      exact (q.step fr1 al1).called ok1 ep hO (set_maps hj).1 (set_maps hj).2 (hob hos ep) iv p
    · rintro cls os F2 H2 ⟨ob', hos, p⟩ ep
      exact hx cls _ F2 σ H2 p (ok1.called ep.po hO (set_maps hj).1 (set_maps hj).2 (hob hos ep)).1
/-- a return that has changed the first of what it owns -/
theorem retM {Pd : D → List OB → Foot → Prop} {Tr : Foot} {x : Addr} {o ob : OB} (h : Pd d (ob :: Tr.map (·.2)) []) (hm : ⟨x, false, ob⟩ ∈ T) (hs : ∀ e ∈ foot Tr, e ∈ T) : Ret Pd ((x, o) :: Tr) d T :=
  .mk _ [] h (by simp) (fun m a y h1 h2 => by
    match m, h1, h2 with
    | 0, h1, h2 =>
      cases h1
      cases h2
      exact hm
    | m + 1, h1, h2 => exact hs _ (foot_mem (Tf := Tr) h1 h2)) (fun _ z => by cases z) List.nodup_nil
theorem retMN {Pd : D → List OB → Foot → Prop} {Tr : Foot} {x b : Addr} {o ob o2 : OB} (h : Pd (.adr b) (ob :: Tr.map (·.2)) [(b, o2)]) (hm : ⟨x, false, ob⟩ ∈ T) (hs : ∀ e ∈ foot Tr, e ∈ T) (hb : ⟨b, true, o2⟩ ∈ T) : Ret Pd ((x, o) :: Tr) (.adr b) T :=
  .mk _ [(b, o2)] h (by simp) (fun m a y h1 h2 => by
    match m, h1, h2 with
    | 0, h1, h2 =>
      cases h1
      cases h2
      exact hm
    | m + 1, h1, h2 => exact hs _ (foot_mem (Tf := Tr) h1 h2)) (fun e z => by
    rw [List.mem_singleton.mp z]
    exact hb) (by simp)
end
end AW

/-! Mi4: typed dicts, tables up to order, the standard helpers' promises. -/
namespace AW
open PySem PySem.Spec PyProof.Rows L2 Evl

/-! ### dicts as lists of pairs -/
section
variable {κ β : Type} [DecidableEq κ]
def dlk (kvs : List (κ × β)) (k : κ) : Option β := (kvs.find? fun p => decide (p.1 = k)).map (·.2)
def dset (kvs : List (κ × β)) (k : κ) (v : β) : List (κ × β) := if k ∈ kvs.map (·.1) then kvs.map fun p => if p.1 = k then (p.1, v) else p else kvs ++ [(k, v)]
/-- setdefault(k, []).append(v) -/
def dpush (kvs : List (κ × List β)) (k : κ) (v : β) : List (κ × List β) := match kvs with
  | [] => [(k, [v])]
  | p :: kvs => if p.1 = k then (p.1, p.2 ++ [v]) :: kvs else p :: dpush kvs k v
end
abbrev kI : Int → L2.Key := Sum.inl
abbrev kS : Str → L2.Key := Sum.inr
abbrev kT2 : Int × Int → List L2.Key := fun p => [.inl p.1, .inl p.2]
abbrev kT3 : Int × Int × Int → List L2.Key := fun p => [.inl p.1, .inl p.2.1, .inl p.2.2]
theorem kI_inj : ∀ a b, kI a = kI b → a = b := fun a b h => Sum.inl.inj h
theorem kS_inj : ∀ a b, kS a = kS b → a = b := fun a b h => Sum.inr.inj h
theorem kT2_inj : ∀ a b, kT2 a = kT2 b → a = b := fun a b h => by
  injection h with h1 h2
  injection h2 with h2 _
  exact Prod.ext (Sum.inl.inj h1) (Sum.inl.inj h2)
theorem kT3_inj : ∀ a b, kT3 a = kT3 b → a = b := fun a b h => by
  injection h with h1 h2
  injection h2 with h2 h3
  injection h3 with h3 _
  exact Prod.ext (Sum.inl.inj h1) (Prod.ext (Sum.inl.inj h2) (Sum.inl.inj h3))
abbrev obK {κ β : Type} (kk : κ → L2.Key) (ev : β → D) (kvs : List (κ × β)) : OB := .dK (kvs.map fun p => kk p.1) (kvs.map fun p => ev p.2)
abbrev obT {κ β : Type} (kt : κ → List L2.Key) (ev : β → D) (kvs : List (κ × β)) : OB := .dT (kvs.map fun p => kt p.1) (kvs.map fun p => ev p.2)
abbrev eK {κ β : Type} (kk : κ → L2.Key) (ev : β → D) : List (κ × β) → D := fun kvs => .dK (kvs.map fun p => kk p.1) (kvs.map fun p => ev p.2)
abbrev eT {κ β : Type} (kt : κ → List L2.Key) (ev : β → D) : List (κ × β) → D := fun kvs => .dT (kvs.map fun p => kt p.1) (kvs.map fun p => ev p.2)
section
variable {κ β : Type} [DecidableEq κ] {ρ : Type} [DecidableEq ρ] {kk : κ → ρ} {ev : β → D}
theorem putK_map' (hi : ∀ a b, kk a = kk b → a = b) (k : κ) (v : β) (kvs : List (κ × β)) : putKs (kvs.map fun p => kk p.1) (kk k) = (dset kvs k v).map (fun p => kk p.1) ∧ putD (kvs.map fun p => kk p.1) (kvs.map fun p => ev p.2) (kk k) (ev v) = (dset kvs k v).map (fun p => ev p.2) := by
  have hm : kk k ∈ (kvs.map fun p => kk p.1) ↔ k ∈ kvs.map (·.1) := by
    rw [List.mem_map, List.mem_map]
    exact ⟨fun ⟨p, hp, e⟩ => ⟨p, hp, hi _ _ e⟩, fun ⟨p, hp, e⟩ => ⟨p, hp, by rw [e]⟩⟩
  unfold putKs putD dset
  by_cases h : k ∈ kvs.map (·.1)
  · rw [if_pos (hm.mpr h), if_pos (hm.mpr h), if_pos h]
    constructor
    · rw [List.map_map]
      apply List.map_congr_left
      intro p _
      show kk p.1 = kk (if p.1 = k then (p.1, v) else p).1
      split <;> rfl
    · clear h hm
      induction kvs with
      | nil => rfl
      | cons p kvs ih =>
        simp only [List.map_cons, List.zipWith_cons_cons]
        rw [ih]
        congr 1
        by_cases hp : p.1 = k
        · rw [if_pos hp, if_pos (by rw [hp])]
        · rw [if_neg hp, if_neg (fun z => hp (hi _ _ z))]
  · rw [if_neg (fun z => h (hm.mp z)), if_neg (fun z => h (hm.mp z)), if_neg h]
    constructor
    · rw [List.map_append]; rfl
    · rw [List.map_append]; rfl
theorem getD_map' {kt : κ → List L2.Key} (hi : ∀ a b, kt a = kt b → a = b) (k : κ) : ∀ kvs : List (κ × β), getD (kvs.map fun p => kt p.1) (kvs.map fun p => ev p.2) (kt k) = (dlk kvs k).map ev
  | [] => rfl
  | p :: kvs => by
    have ih := getD_map' hi k kvs
    unfold getD dlk at ih ⊢
    rw [List.map_cons, List.map_cons, List.zip_cons_cons]
    by_cases e : p.1 = k
    · rw [List.find?_cons_of_pos (by simp [e]), List.find?_cons_of_pos (by simp [e])]
      rfl
    · rw [List.find?_cons_of_neg (by simp only [decide_eq_true_eq]; exact fun z => e (hi _ _ z)), List.find?_cons_of_neg (by simpa using e)]
      exact ih
end
section
variable {K : PySem.W.Frag} {E : Ent} {F H F' H' : Hp} {ds : Sls} {T T' : Tb} {σ : L2.St} {v : V} {d d1 d2 : D} {P P' : PD} {te tl td ty tx tv : TE} {ta tr : TA} {t u tb : TS} {tt tu : TT} {g : TG} {N N' B B' C C' : PS2} {R R' : PD} {κ β : Type} [DecidableEq κ]
theorem ae_newKM (p : ∀ a, P (.adr a) (⟨a, true, .dK [] []⟩ :: T)) : AE K E tDNewK ds T P := fun F σ H Q ok q => fun a ha => q.newO ok ha (p a) ⟨[], upd_same, rfl, .nil⟩
/-- d[k] = v -/
theorem as_dputM (h : AE K E tv ds T fun d T1 => AE K E td ds T1 fun d2 T2 => AE K E ty ds T2 fun d3 T3 => ∃ (κ β : Type) (_ : DecidableEq κ) (kk : κ → L2.Key) (ev : β → D) (a : Addr) (j : Nat) (l : Bool) (kvs : List (κ × β)) (k : κ) (v : β), (∀ a b, kk a = kk b → a = b) ∧ d = ev v ∧ d2 = .adr a ∧ d3 = kD (kk k) ∧
      T3[j]? = some ⟨a, l, obK kk ev kvs⟩ ∧ kvs.length < 100000 ∧ N ds (T3.set j ⟨a, l, obK kk ev (dset kvs k v)⟩)) : AS K E (sDPut td ty tv) ds T N R B C :=
  as_dputK (h.imp fun d T1 h => h.imp fun d2 T2 h => h.imp fun d3 T3 ⟨κ, β, _, kk, ev, a, j, l, kvs, k, v, hi, h1, h2, h3, hj, hl, p⟩ => ⟨a, j, l, _, _, kk k, h2, h3, hj, by rw [List.length_map]; exact hl, by
    subst h1
    rw [(putK_map' (ev := ev) hi k v kvs).1, (putK_map' (ev := ev) hi k v kvs).2]
    exact p⟩)
/-- d.get(k, x), tuple keys -/
theorem ae_get2TM (h : AE K E td ds T fun d T1 => (∃ ks xs, TV T1 d ks xs) ∧ AE K E ty ds T1 fun d2 T2 => AE K E tx ds T2 fun d3 T3 => ∃ (κ β : Type) (_ : DecidableEq κ) (kt : κ → List L2.Key) (ev : β → D) (kvs : List (κ × β)) (k : κ) (x : β), (∀ a b, kt a = kt b → a = b) ∧
      d2 = .tup ((kt k).map kD) ∧ d3 = ev x ∧ TV T3 d (kvs.map fun p => kt p.1) (kvs.map fun p => ev p.2) ∧ P (ev ((dlk kvs k).getD x)) T3) : AE K E (tDGet2 td ty tx) ds T P :=
  ae_get2T (h.imp fun d T1 ⟨tv, h⟩ => ⟨tv, h.imp fun d2 T2 h => h.imp fun d3 T3 ⟨κ, β, _, kt, ev, kvs, k, x, hi, h2, h3, tv, p⟩ => ⟨kt k, _, _, h2, tv, by
    rw [getD_map' hi, h3]
    cases e : dlk kvs k with
    | none => rw [e] at p; exact p
    | some y => rw [e] at p; exact p⟩⟩)
/-- sorted(d), int keys -/
theorem rc_sortADM {a : Addr} {l : Bool} {kvs : List (Int × β)} {ev : β → D} (j : Nat) (hj : T[j]? = some ⟨a, l, obK kI ev kvs⟩) (h64 : kvs.length < 64) (p : P (.lst ((isort ltI (kvs.map (·.1))).map .int)) T) : RC K E (rSortA K) T [.adr a] P := by
  have e : (kvs.map fun p => kI p.1) = (kvs.map (·.1)).map Sum.inl := by rw [List.map_map]; rfl
  rw [obK, e] at hj
  refine rc_sortAD j hj (by rw [List.length_map]; exact h64) fun ns h1 h2 => ?_
  have : ns = isort ltI (kvs.map (·.1)) := isort_uniq sto_I (h2.imp fun h => by simp [ltI]; omega) (isort_pw sto_I _) (h1.trans (isort_perm _).symm)
  rw [this]
  exact p
/-! ### tables up to order -/
/-- T has at least the entries L -/
def Sb (L T : Tb) : Prop := ∃ T3, T.Perm T3 ∧ L.Sublist T3
theorem Sb.r (T : Tb) : Sb T T := ⟨T, .refl _, .refl _⟩
theorem Sb.s {L T : Tb} (h : L.Sublist T) : Sb L T := ⟨T, .refl _, h⟩
theorem Sb.p {L T : Tb} (h : T.Perm L) : Sb L T := ⟨L, h, .refl _⟩
theorem sub_perm {L T T' : Tb} (h : L.Sublist T) (p : T.Perm T') : ∃ L', L.Perm L' ∧ L'.Sublist T' := by
  induction p generalizing L with
  | nil => exact ⟨L, .refl _, h⟩
  | cons x p ih =>
    cases h with
    | cons _ h =>
      obtain ⟨L', h1, h2⟩ := ih h
      exact ⟨L', h1, h2.cons _⟩
    | cons_cons _ h =>
      obtain ⟨L', h1, h2⟩ := ih h
      exact ⟨_ :: L', h1.cons _, h2.cons_cons _⟩
  | swap x y l =>
    cases h with
    | cons _ h =>
      cases h with
      | cons _ h => exact ⟨L, .refl _, (h.cons _).cons _⟩
      | cons_cons _ h => exact ⟨_, .refl _, (h.cons _).cons_cons _⟩
    | cons_cons _ h =>
      cases h with
      | cons _ h => exact ⟨_, .refl _, (h.cons_cons _).cons _⟩
      | cons_cons _ h => exact ⟨_, .swap .., (h.cons_cons _).cons_cons _⟩
  | trans p1 p2 ih1 ih2 =>
    obtain ⟨L1, h1, h2⟩ := ih1 h
    obtain ⟨L2, h3, h4⟩ := ih2 h2
    exact ⟨L2, h1.trans h3, h4⟩
theorem perm_sub {L L' T : Tb} (p : L.Perm L') (h : L.Sublist T) : ∃ T', T.Perm T' ∧ L'.Sublist T' := by
  induction h generalizing L' with
  | slnil => exact ⟨[], .refl _, by rw [List.Perm.nil_eq p]; exact .refl _⟩
  | cons a h ih =>
    obtain ⟨T', h1, h2⟩ := ih p
    exact ⟨a :: T', h1.cons a, h2.cons a⟩
  | cons_cons a h ih =>
    rename_i l1 l2
    obtain ⟨T3, h3⟩ : ∃ T3 : Tb, (a :: l2).Perm (L' ++ T3) := by
      clear ih
      obtain ⟨X, hX⟩ : ∃ X : Tb, l2.Perm (l1 ++ X) := by
        clear p
        induction h with
        | slnil => exact ⟨[], .refl _⟩
        | cons b h ih => 
          obtain ⟨X, hX⟩ := ih
          exact ⟨b :: X, (hX.cons b).trans List.perm_middle.symm⟩
        | cons_cons b h ih =>
          obtain ⟨X, hX⟩ := ih
          exact ⟨X, hX.cons b⟩
      exact ⟨X, (hX.cons a).trans (p.append_right X)⟩
    exact ⟨L' ++ T3, h3, List.sublist_append_left ..⟩
theorem Sb.trans {L T T' : Tb} (h1 : Sb L T) (h2 : Sb T T') : Sb L T' := by
  obtain ⟨T3, p, s⟩ := h1
  obtain ⟨T4, p2, s2⟩ := h2
  obtain ⟨T5, p3, s3⟩ := perm_sub p s2
  exact ⟨T5, p2.trans p3, s.trans s3⟩
/-- the entry at j in front -/
theorem Sb.mv {T : Tb} {x : Ow} (j : Nat) (h : T[j]? = some x) : Sb (x :: T.eraseIdx j) T := by
  have hjl := (List.getElem?_eq_some_iff.mp h).1
  have h1 : T = T.take j ++ x :: T.drop (j + 1) := by
    conv => lhs; rw [← List.take_append_drop j T, List.drop_eq_getElem_cons hjl, (List.getElem?_eq_some_iff.mp h).2]
  refine .p ?_
  rw [List.eraseIdx_eq_take_drop_succ]
  conv => lhs; rw [h1]
  exact List.perm_middle
theorem Sb.cons {L T : Tb} {x : Ow} (h : Sb L T) : Sb (x :: L) (x :: T) := by
  obtain ⟨T3, p, s⟩ := h
  exact ⟨x :: T3, p.cons x, s.cons_cons x⟩
theorem Sb.drop {L T : Tb} {x : Ow} (h : Sb L T) : Sb L (x :: T) := by
  obtain ⟨T3, p, s⟩ := h
  exact ⟨x :: T3, p.cons x, s.cons x⟩
theorem as_sb {L : Tb} (h : Sb L T) (k : AS K E t ds L N R B C) : AS K E t ds T N R B C := by
  obtain ⟨T3, p, s⟩ := h
  exact as_sub L T3 p s k
theorem ag_sb {L : Tb} {is : List Nat} (h : Sb L T) (k : ∀ M : PS2, (∀ ds', N ds' L → M ds' L) → AG K E is g ds L d M) (f : ∀ ds', N ds' L → N ds' T) : AG K E is g ds T d N := fun F σ H v Q ok iv q => by
  obtain ⟨T3, p, s⟩ := h
  exact k N (fun _ z => z) F σ H v Q ((ok.perm p).less s) iv fun ds' σ' n ok' off => q ds' σ' (f ds' n) ⟨ok.p, ok'.ln, ok'.sl, ok.ow, ok.nd⟩ off
theorem ag_sbS {L : Tb} {is : List Nat} (h : Sb L T) (k : AG K E is g ds L d fun ds2 T2 => AS K E t ds2 T2 N R B C) : AG K E is g ds T d fun ds2 T2 => AS K E t ds2 T2 N R B C :=
  fun F σ H v Q ok iv q => by
    obtain ⟨T3, p, s⟩ := h
    exact k F σ H v Q ((ok.perm p).less s) iv fun ds' σ' n ok' off => q ds' σ' (as_sub L T3 p s n) ⟨ok.p, ok'.ln, ok'.sl, ok.ow, ok.nd⟩ off
theorem at_sb {P : Bool → Tb → Prop} {L : Tb} (h : Sb L T) (k : AT K E tt ds L P) : AT K E tt ds T P := fun F σ H Q ok q => by
  obtain ⟨T3, p, s⟩ := h
  exact k F σ H Q ((ok.perm p).less s) fun b T' F' H' pb ok' fr al => q b T' F' H' pb ok' ⟨fr.ff, fun a o h1 h2 => fr.hh a o h1 fun z => h2 ((p.map _).mem_iff.mpr ((s.map _).subset z)), fun a o h0 h1 h2 => fr.nw a o h0 h1 fun z => h2 ((p.map _).mem_iff.mpr ((s.map _).subset z)), fun x hx => (fr.tt x hx).imp (fun z => (p.map _).mem_iff.mpr ((s.map _).subset z)) id⟩ al
/-! ### _law_same -/
def okR (q : PyData) : Bool := q.canLay0 && decide (q.depth ≤ 60) && q.showable && q.leavesShort 24 && decide (q.bulk ≤ 600000)
theorem okR_fit {q : PyData} (h : okR q = true) : Fit 60 600000 q := by
  unfold okR at h
  simp only [Bool.and_eq_true, decide_eq_true_eq] at h
  exact ⟨h.1.1.1.1, h.1.1.1.2, h.1.1.2, h.1.2, h.2⟩
theorem okR_of {q : PyData} {n k : Nat} (h : Fit n k q) (h1 : n ≤ 60) (h2 : k ≤ 600000) : okR q = true := by
  unfold okR
  simp only [Bool.and_eq_true, decide_eq_true_eq]
  exact ⟨⟨⟨⟨h.c, Nat.le_trans h.d h1⟩, h.s⟩, h.l⟩, Nat.le_trans h.b h2⟩
/-- actual == expected and repr(actual) == repr(expected), of one type -/
def sameO {α : Type} [DecidableEq α] (e : α → D) (x y : α) : Option Bool := chk (okR (e x).py = true ∧ okR (e y).py = true) (some (decide (x = y)))
abbrev con_same2 : Con0 := fun dd T P PX => dd.length = 2 ∧ ∃ (α : Type) (_ : DecidableEq α) (e : α → D) (n : Nat) (d1 d2 : D) (x y : α), Pl n e ∧ dd = [d1, d2] ∧ Dv (foot T) d1 (e x).py ∧ Dv (foot T) d2 (e y).py ∧ G (sameO e x y) fun b => P (.bl b) (T.map (·.2)) []
end
end AW

/-! Mi5: more typed rules. -/
namespace AW
open PySem PySem.Spec PyProof.Rows L2 Evl
theorem lv_sb {L T : Tb} {d : D} {xs : List D} (h : Sb L T) (l : LV L d xs) : LV T d xs := by
  obtain ⟨T3, p, s⟩ := h
  cases l with
  | f => exact .f _
  | r => exact .r _
  | @o j e _ h1 h2 =>
    have hm : e ∈ T := p.mem_iff.mpr (s.subset (List.mem_of_getElem? h1))
    obtain ⟨i, hi⟩ := List.getElem?_of_mem hm
    exact .o hi h2
theorem grt {S R : Type} {r : R} {M B : S → Prop} {C : R → Prop} (h : G (some (Lp.rt r)) (lpQ M B C)) : C r := gsome (Q := lpQ M B C) h
theorem at_notP {K : PySem.W.Frag} {E : Ent} {ds : Sls} {T : Tb} {tt : TT} {a : Bool} (h : AT K E tt ds T fun z T' => z = a ∧ T' = T) : AT K E (tNot tt) ds T fun z T' => z = (!a) ∧ T' = T := at_not (h.imp fun z T' ⟨e1, e2⟩ => ⟨by rw [e1], e2⟩)
/-- a dict with int or text keys, as it may lie -/
inductive KV (T : Tb) : D → List L2.Key → List D → Prop
  | f (ks : List L2.Key) (xs : List D) : KV T (.dK ks xs) ks xs
  | o {j : Nat} {e : Ow} {ks : List L2.Key} {xs : List D} : T[j]? = some e → e.ob = .dK ks xs → KV T (.adr e.a) ks xs
theorem KV.own {T : Tb} {a : Addr} {l : Bool} {ks : List L2.Key} {xs : List D} (j : Nat) (h : T[j]? = some ⟨a, l, .dK ks xs⟩) : KV T (.adr a) ks xs := .o h rfl
theorem KV.at {K : PySem.W.Frag} {E : Ent} {F H : Hp} {ds : Sls} {T : Tb} {σ : L2.St} {d : D} {v : V} {ks : List L2.Key} {xs : List D} (l : KV T d ks xs) (ok : Ok K E F ds T σ H) (i : Is K F v d) : ∃ a vs, v = .ref a ∧ H a = some (.dK (ks.zip vs)) ∧ ks.length = vs.length ∧ IsA K F vs xs := by
  cases l with
  | f =>
    cases i with
    | dK h1 h2 t => exact ⟨_, _, rfl, ok.p.fh _ _ h1, h2, t⟩
  | @o j e _ _ hj he =>
    cases i
    have w := (ok.ow e (List.mem_of_getElem? hj)).o
    rw [he] at w
    obtain ⟨vs, h1, h3, h2⟩ := w
    exact ⟨_, vs, rfl, h1, h3, h2⟩
theorem TV.own {T : Tb} {a : Addr} {l : Bool} {ks : List (List L2.Key)} {xs : List D} (j : Nat) (h : T[j]? = some ⟨a, l, .dT ks xs⟩) : TV T (.adr a) ks xs := .o h rfl
/-! ### sorted of tuples of ints -/
def bd3 (x : Int × Int × Int) : Bool := decide (0 ≤ x.1 ∧ x.1 < 1000000000 ∧ 0 ≤ x.2.1 ∧ x.2.1 < 1000000000 ∧ 0 ≤ x.2.2 ∧ x.2.2 < 1000000000)
def bd2 (x : Int × Int) : Bool := decide (0 ≤ x.1 ∧ x.1 < 1000000000 ∧ 0 ≤ x.2 ∧ x.2 < 1000000000)
abbrev l3 (x : Int × Int × Int) : List Int := [x.1, x.2.1, x.2.2]
abbrev l2 (x : Int × Int) : List Int := [x.1, x.2]
theorem bd3_ok {x : Int × Int × Int} (h : bd3 x = true) : (l3 x).length = 3 ∧ TS.Bd 1000000000 (l3 x) := by
  have h := of_decide_eq_true h
  refine ⟨rfl, fun m hm => ?_⟩
  simp only [l3, List.mem_cons, List.not_mem_nil, or_false] at hm
  rcases hm with rfl | rfl | rfl
  · exact ⟨h.1, h.2.1⟩
  · exact ⟨h.2.2.1, h.2.2.2.1⟩
  · exact ⟨h.2.2.2.2.1, h.2.2.2.2.2⟩
theorem bd2_ok {x : Int × Int} (h : bd2 x = true) : (l2 x).length = 2 ∧ TS.Bd 1000000000 (l2 x) := by
  have h := of_decide_eq_true h
  refine ⟨rfl, fun m hm => ?_⟩
  simp only [l2, List.mem_cons, List.not_mem_nil, or_false] at hm
  rcases hm with rfl | rfl
  · exact ⟨h.1, h.2.1⟩
  · exact ⟨h.2.2.1, h.2.2.2⟩
theorem code3_le {x y : Int × Int × Int} (hx : bd3 x = true) (hy : bd3 y = true) : (TS.code 1000000000 (l3 x) ≤ TS.code 1000000000 (l3 y)) ↔ ltT3 y x = false := by
  have hx := of_decide_eq_true hx
  have hy := of_decide_eq_true hy
  obtain ⟨a, b, c⟩ := x
  obtain ⟨d, e, f⟩ := y
  simp only [l3, TS.code, List.length_cons, List.length_nil, ltT3, ltT2, ltI] at *
  simp only [Nat.zero_add, Nat.reduceAdd, Int.pow_succ, Int.pow_zero, Bool.or_eq_false_iff, Bool.and_eq_false_iff, decide_eq_false_iff_not, Int.one_mul, Int.mul_one, Int.add_zero]
  omega
theorem code2_le {x y : Int × Int} (hx : bd2 x = true) (hy : bd2 y = true) : (TS.code 1000000000 (l2 x) ≤ TS.code 1000000000 (l2 y)) ↔ ltP y x = false := by
  have hx := of_decide_eq_true hx
  have hy := of_decide_eq_true hy
  obtain ⟨a, b⟩ := x
  obtain ⟨d, e⟩ := y
  simp only [l2, TS.code, List.length_cons, List.length_nil, ltP, ltT2, ltI] at *
  simp only [Nat.zero_add, Nat.reduceAdd, Int.pow_succ, Int.pow_zero, Bool.or_eq_false_iff, Bool.and_eq_false_iff, decide_eq_false_iff_not, Int.one_mul, Int.mul_one, Int.add_zero]
  omega
theorem l3_map (xs : List (Int × Int × Int)) : xs.map (eT3 D.int D.int D.int) = (xs.map l3).map tp := by rw [List.map_map]; rfl
theorem l2_map (xs : List (Int × Int)) : xs.map (eT2 D.int D.int) = (xs.map l2).map tp := by rw [List.map_map]; rfl
/-- ys, perhaps of other form, is the image of its own items -/
theorem back_map {α β : Type} {f : α → β} : ∀ {xs : List α} {ys : List β}, (∀ y ∈ ys, ∃ x ∈ xs, f x = y) → ∃ zs : List α, ys = zs.map f ∧ ∀ z ∈ zs, z ∈ xs
  | xs, [], _ => ⟨[], rfl, fun _ h => by cases h⟩
  | xs, y :: ys, h => by
    obtain ⟨x, hx, e⟩ := h y (List.mem_cons_self ..)
    obtain ⟨zs, e2, h2⟩ := back_map (xs := xs) (ys := ys) fun y hy => h y (List.mem_cons_of_mem _ hy)
    refine ⟨x :: zs, by rw [List.map_cons, e, e2], fun z hz => ?_⟩
    rcases List.mem_cons.mp hz with rfl | hz
    · exact hx
    · exact h2 z hz
section
variable {K : PySem.W.Frag} {E : Ent} {ds : Sls} {T : Tb} {P : PD} {ta : TA} {d : D}
theorem l3_inj {x y : Int × Int × Int} (h : l3 x = l3 y) : x = y := by
  injection h with h1 h2
  injection h2 with h2 h3
  injection h3 with h3 _
  exact Prod.ext h1 (Prod.ext h2 h3)
theorem l2_inj {x y : Int × Int} (h : l2 x = l2 y) : x = y := by
  injection h with h1 h2
  injection h2 with h2 _
  exact Prod.ext h1 h2
theorem rc_sortT3M {xs : List (Int × Int × Int)} (l : LV T d (xs.map (eT3 D.int D.int D.int))) (h64 : xs.length < 64) (hb : xs.all bd3 = true) (p : P (.lst ((isort ltT3 xs).map (eT3 D.int D.int D.int))) T) : RC K E (rSortA K) T [d] P := by
  rw [l3_map] at l
  have hb' := List.all_eq_true.mp hb
  refine rc_sortAT (n := 3) (B := 1000000000) l (by decide) (by rw [List.length_map]; exact h64) (fun t ht => ?_) fun ys h1 h2 => ?_
  · obtain ⟨x, hx, rfl⟩ := List.mem_map.mp ht
    exact bd3_ok (hb' x hx)
  · obtain ⟨zs, p1, rfl⟩ := perm_map h1 xs rfl
    have hz : ∀ z ∈ zs, bd3 z = true := fun z hz => hb' z (p1.mem_iff.mp hz)
    have : zs = isort ltT3 xs := isort_uniq sto_T3 ((List.pairwise_map.mp h2).imp_of_mem fun ha hb h => (code3_le (hz _ ha) (hz _ hb)).mp h) (isort_pw sto_T3 xs) (p1.trans (isort_perm xs).symm)
    rw [this, ← l3_map]
    exact p
theorem rc_sortT2M {xs : List (Int × Int)} (l : LV T d (xs.map (eT2 D.int D.int))) (h64 : xs.length < 64) (hb : xs.all bd2 = true) (p : P (.lst ((isort ltP xs).map (eT2 D.int D.int))) T) : RC K E (rSortA K) T [d] P := by
  rw [l2_map] at l
  have hb' := List.all_eq_true.mp hb
  refine rc_sortAT (n := 2) (B := 1000000000) l (by decide) (by rw [List.length_map]; exact h64) (fun t ht => ?_) fun ys h1 h2 => ?_
  · obtain ⟨x, hx, rfl⟩ := List.mem_map.mp ht
    exact bd2_ok (hb' x hx)
  · obtain ⟨zs, p1, rfl⟩ := perm_map h1 xs rfl
    have hz : ∀ z ∈ zs, bd2 z = true := fun z hz => hb' z (p1.mem_iff.mp hz)
    have : zs = isort ltP xs := isort_uniq sto_P ((List.pairwise_map.mp h2).imp_of_mem fun ha hb h => (code2_le (hz _ ha) (hz _ hb)).mp h) (isort_pw sto_P xs) (p1.trans (isort_perm xs).symm)
    rw [this, ← l2_map]
    exact p
theorem rc_sortIMO {ns : List Int} (l : LV T d (ns.map D.int)) (p : ∀ a, P (.adr a) (⟨a, true, .lst ((isort ltI ns).map .int)⟩ :: T)) : RC K E (rSortA K) T [d] P := fun F σ ds H vs Q ok i q => .inl (rc_sortIO l (fun ns' a h1 h2 => by
  have : ns' = isort ltI ns := isort_uniq sto_I (h2.imp fun h => by simp [ltI]; omega) (isort_pw sto_I ns) (h1.trans (isort_perm ns).symm)
  rw [this]
  exact p a) F σ ds H vs Q ok i q)
theorem rc_sortADMO {β : Type} {kvs : List (Int × β)} {ev : β → D} (l : KV T d (kvs.map fun p => kI p.1) (kvs.map fun p => ev p.2)) (h64 : kvs.length < 64) (p : ∀ a, P (.adr a) (⟨a, true, .lst ((isort ltI (kvs.map (·.1))).map .int)⟩ :: T)) : RC K E (rSortA K) T [d] P := fun F σ ds H vs Q ok i q => by
  have e : (kvs.map fun p => kI p.1) = (kvs.map (·.1)).map Sum.inl := by rw [List.map_map]; rfl
  rw [e] at l
  cases i with
  | cons i t =>
    cases t
    obtain ⟨a, us, rfl, e1, e2, t⟩ := l.at ok i
    rw [List.length_map, List.length_map] at e2
    refine .inr (.inr ⟨a, _, kvs.map (·.1), rfl, .inl e1, List.map_fst_zip (by simp; omega), by rw [List.length_map]; exact h64, fun ns p0 g1 g2 hp => ?_⟩)
    have : ns = isort ltI (kvs.map (·.1)) := isort_uniq sto_I (g2.imp fun h => by simp [ltI]; omega) (isort_pw sto_I _) (g1.trans (isort_perm _).symm)
    rw [this]
    exact q.newO ok hp (p p0) ⟨_, upd_same, isA_ofInts _⟩
/-- sorted(set(xs)) -/
theorem ae_sortSet3 {Pr : Program} {w : World} (h : AA K E ta ds T fun dd T1 => ∃ (d : D) (xs : List (Int × Int × Int)), dd = [d] ∧ LV T1 d (xs.map (eT3 D.int D.int D.int)) ∧ xs.length < 64 ∧ xs.all bd3 = true ∧ P (.lst ((usort ltT3 xs).map (eT3 D.int D.int D.int))) T1) :
    AE K E (tCB (rSortedT K Pr w) (tCons (tCB (rSetOfT K Pr w) ta) tNil)) ds T P := ae_sortSetT (n := 3) (B := 1000000000) (by decide) (h.imp fun dd T1 ⟨d, xs, hd, l, h64, hb, p⟩ => by
  have hb' := List.all_eq_true.mp hb
  rw [l3_map] at l
  refine ⟨d, _, hd, l, by rw [List.length_map]; exact h64, fun t ht => ?_, fun ys g1 g2 g3 g4 => ?_⟩
  · obtain ⟨x, hx, rfl⟩ := List.mem_map.mp ht
    exact bd3_ok (hb' x hx)
  · obtain ⟨zs, rfl, hz⟩ := back_map (f := l3) (xs := xs) fun y hy => List.mem_map.mp ((g2 y).mp hy)
    have nd : zs.Nodup := (List.pairwise_map.mp g1).imp fun h z => h (by rw [z])
    have : zs = usort ltT3 xs := by
      refine usort_uniq sto_T3 ?_ (usort_pw sto_T3 xs) fun z => ?_
      · have q := (List.pairwise_map.mp g3).imp_of_mem (S := fun a b => ltT3 b a = false) fun ha hb h => (code3_le (hb' _ (hz _ ha)) (hb' _ (hz _ hb))).mp h
        refine (nd.and q).imp fun {a b} ⟨h1, h2⟩ => ?_
        cases e : ltT3 a b with
        | true => rfl
        | false => exact (h1 (sto_T3.tc _ _ e h2)).elim
      · rw [usort_mem sto_T3]
        constructor
        · exact hz z
        · intro hx
          obtain ⟨y, hy, e⟩ := List.mem_map.mp ((g2 (l3 z)).mpr (List.mem_map.mpr ⟨z, hx, rfl⟩))
          rw [← l3_inj e]
          exact hy
    rw [this, ← l3_map]
    exact p)
theorem ae_sortSet1 {w : World} (h : AA K E ta ds T fun dd T1 => ∃ (d : D) (ns : List Int), dd = [d] ∧ LV T1 d (ns.map .int) ∧ ns.length < 64 ∧ P (.lst ((usort ltI ns).map .int)) T1) :
    AE K E (tCB (rSortedSet w) (tCons (tCB (rSetOfI K w) ta) tNil)) ds T P := ae_sortSetI (h.imp fun dd T1 ⟨d, ns, hd, l, h64, p⟩ => ⟨d, ns, hd, l, h64, fun ns' g1 g2 => by
  have : ns' = usort ltI ns := usort_uniq sto_I (g1.imp fun h => by simp [ltI]; omega) (usort_pw sto_I ns) fun z => (g2 z).trans (usort_mem sto_I).symm
  rw [this]
  exact p⟩)
end
end AW

/-! Mi6: dicts of owned lists. -/
namespace AW
open PySem PySem.Spec PyProof.Rows L2 Evl
section
variable {κ β : Type}
def inner (e : β → D) (as : List Addr) (kvs : List (κ × List β)) : Tb := List.zipWith (fun b (p : κ × List β) => ⟨b, true, .lst (p.2.map e)⟩) as kvs
/-- a dict whose values are owned lists -/
def dlG (a : Addr) (l : Bool) (kt : κ → List L2.Key) (e : β → D) (kvs : List (κ × List β)) (as : List Addr) : Tb := ⟨a, l, .dT (kvs.map fun p => kt p.1) (as.map .adr)⟩ :: inner e as kvs
theorem inner_app {e : β → D} {as bs : List Addr} {kvs lvs : List (κ × List β)} (h : as.length = kvs.length) : inner e (as ++ bs) (kvs ++ lvs) = inner e as kvs ++ inner e bs lvs := by
  unfold inner
  exact List.zipWith_append h
theorem inner_loc {e : β → D} : ∀ {as : List Addr} {kvs : List (κ × List β)} {x : Ow}, x ∈ inner e as kvs → x.loc = true
  | [], _, x, h => by cases h
  | _ :: _, [], x, h => by cases h
  | a :: as, p :: kvs, x, h => by
    rcases List.mem_cons.mp h with rfl | h
    · rfl
    · exact inner_loc (as := as) (kvs := kvs) h
theorem inner_at {e : β → D} {as : List Addr} {kvs : List (κ × List β)} {n : Nat} {a : Addr} {p : κ × List β} (h1 : as[n]? = some a) (h2 : kvs[n]? = some p) : (inner e as kvs)[n]? = some ⟨a, true, .lst (p.2.map e)⟩ := by
  unfold inner
  rw [List.getElem?_zipWith, h1, h2]
variable [DecidableEq κ]
theorem dpush_new {kvs : List (κ × List β)} {k : κ} {v : β} (h : k ∉ kvs.map (·.1)) : dpush kvs k v = kvs ++ [(k, [v])] := by
  induction kvs with
  | nil => rfl
  | cons p kvs ih =>
    rw [List.map_cons, List.mem_cons, not_or] at h
    unfold dpush
    rw [if_neg (fun z => h.1 z.symm), ih h.2]
    rfl
theorem dpush_at {K1 K2 : List (κ × List β)} {k : κ} {l : List β} {v : β} (h : k ∉ K1.map (·.1)) : dpush (K1 ++ (k, l) :: K2) k v = K1 ++ (k, l ++ [v]) :: K2 := by
  induction K1 with
  | nil =>
    show (if k = k then _ else _) = _
    rw [if_pos rfl]
    rfl
  | cons p K1 ih =>
    rw [List.map_cons, List.mem_cons, not_or] at h
    rw [List.cons_append]
    unfold dpush
    rw [if_neg (fun z => h.1 z.symm), ih h.2]
    rfl
theorem split_at {kvs : List (κ × List β)} {k : κ} (h : k ∈ kvs.map (·.1)) : ∃ K1 l K2, kvs = K1 ++ (k, l) :: K2 ∧ k ∉ K1.map (·.1) := by
  induction kvs with
  | nil => cases h
  | cons p kvs ih =>
    by_cases e : p.1 = k
    · subst e
      exact ⟨[], p.2, kvs, rfl, by simp⟩
    · rw [List.map_cons, List.mem_cons] at h
      obtain ⟨K1, l, K2, e1, e2⟩ := ih (h.resolve_left fun z => e z.symm)
      exact ⟨p :: K1, l, K2, by rw [e1]; rfl, by rw [List.map_cons, List.mem_cons, not_or]; exact ⟨fun z => e z.symm, e2⟩⟩
theorem getD_none {kt : κ → List L2.Key} (hi : ∀ a b, kt a = kt b → a = b) {k : κ} : ∀ {kvs : List (κ × List β)} {xs : List D}, k ∉ kvs.map (·.1) → getD (kvs.map fun p => kt p.1) xs (kt k) = none
  | [], _, _ => rfl
  | p :: kvs, [], _ => by unfold getD; rw [List.zip_nil_right]; rfl
  | p :: kvs, x :: xs, h => by
    rw [List.map_cons, List.mem_cons, not_or] at h
    have ih := getD_none hi (kvs := kvs) (xs := xs) h.2
    unfold getD at ih ⊢
    rw [List.map_cons, List.zip_cons_cons, List.find?_cons_of_neg (by simp only [decide_eq_true_eq]; exact fun z => h.1 (hi _ _ z).symm)]
    exact ih
theorem getD_at' {kt : κ → List L2.Key} (hi : ∀ a b, kt a = kt b → a = b) {k : κ} {l : List β} {K2 : List (κ × List β)} {x : D} {X2 : List D} : ∀ {K1 : List (κ × List β)} {X1 : List D}, K1.length = X1.length → k ∉ K1.map (·.1) → getD ((K1 ++ (k, l) :: K2).map fun p => kt p.1) (X1 ++ x :: X2) (kt k) = some x
  | [], [], _, _ => by
    unfold getD
    rw [List.nil_append, List.nil_append, List.map_cons, List.zip_cons_cons, List.find?_cons_of_pos (by simp)]
    rfl
  | p :: K1, y :: X1, hl, h => by
    rw [List.map_cons, List.mem_cons, not_or] at h
    have ih := getD_at' hi (l := l) (K2 := K2) (x := x) (X2 := X2) (K1 := K1) (X1 := X1) (by simpa using hl) h.2
    unfold getD at ih ⊢
    rw [List.cons_append, List.cons_append, List.map_cons, List.zip_cons_cons, List.find?_cons_of_neg (by simp only [decide_eq_true_eq]; exact fun z => h.1 (hi _ _ z).symm)]
    exact ih
theorem getD_ad {kt : κ → List L2.Key} (hi : ∀ a b, kt a = kt b → a = b) {k : κ} {l : List β} {K1 K2 : List (κ × List β)} {b : Addr} {A1 A3 : List Addr} (h : A1.length = K1.length) (hk : k ∉ K1.map (·.1)) : getD ((K1 ++ (k, l) :: K2).map fun p => kt p.1) ((A1 ++ b :: A3).map D.adr) (kt k) = some (.adr b) := by
  have := getD_at' (kt := kt) hi (k := k) (l := l) (K2 := K2) (x := D.adr b) (X2 := A3.map D.adr) (K1 := K1) (X1 := A1.map D.adr) (by rw [List.length_map]; exact h.symm) hk
  rw [show (A1 ++ b :: A3).map D.adr = A1.map D.adr ++ D.adr b :: A3.map D.adr by simp]
  exact this
end
theorem set_mid {α : Type} {X Y : List α} {y z : α} : (X ++ y :: Y).set X.length z = X ++ z :: Y := by rw [List.set_append, if_neg (Nat.lt_irrefl _), Nat.sub_self]; rfl
theorem get_mid {α : Type} {X Y : List α} {y : α} : (X ++ y :: Y)[X.length]? = some y := by rw [List.getElem?_append_right (Nat.le_refl _), Nat.sub_self]; rfl
section
variable {K : PySem.W.Frag} {E : Ent} {F H F' H' : Hp} {ds : Sls} {T T' : Tb} {σ : L2.St} {v : V} {d d1 d2 : D} {P P' : PD} {te tl td ty tx tv ta : TE} {t u tb : TS} {N N' B B' C C' : PS2} {R R' : PD} {κ β : Type} [DecidableEq κ]
/-- d.setdefault(k, []).append(v) -/
theorem ae_grp {mk : Tb → Tb} {pre post : Tb} {a : Addr} {l : Bool} {kt : κ → List L2.Key} {e : β → D} {kvs : List (κ × List β)} {as : List Addr} {k : κ} {v : β} (hi : ∀ a b, kt a = kt b → a = b) (hmk : ∀ X, mk X = pre ++ (X ++ post)) (hl : as.length = kvs.length) (hs : kvs.length < 100000) (hs2 : ∀ p ∈ kvs, p.2.length < 100000)
    (htd : AE K E td ds (mk (dlG a l kt e kvs as)) fun d T' => d = .adr a ∧ T' = mk (dlG a l kt e kvs as)) (hty : AE K E ty ds (mk (dlG a l kt e kvs as)) fun d T' => d = .tup ((kt k).map kD) ∧ T' = mk (dlG a l kt e kvs as)) (hta : ∀ T', AE K E ta ds T' fun d T2 => d = e v ∧ T2 = T')
    (p : ∀ as' : List Addr, as'.length = (dpush kvs k v).length → P .non (mk (dlG a l kt e (dpush kvs k v) as'))) : AE K E (tBM K "list" rAppend (tSetdT td ty (tLst tNil)) (tCons ta tNil)) ds (mk (dlG a l kt e kvs as)) P := by
  have hdict : ∀ X : Tb, (X ++ (mk (dlG a l kt e kvs as)))[X.length + pre.length]? = some ⟨a, l, .dT (kvs.map fun p => kt p.1) (as.map .adr)⟩ := fun X => by
    rw [hmk, List.getElem?_append_right (by omega), show X.length + pre.length - X.length = pre.length by omega]
    exact get_mid
  refine AE.sub (ae_bmL (ae_setdT (htd.imp fun d T1 ⟨hd, hT⟩ => ?_)))
  subst hT
  refine ⟨a, hd, ⟨pre.length, l, _, _, by have := hdict []; rwa [List.nil_append, List.length_nil, Nat.zero_add] at this⟩, hty.imp fun d2 T2 ⟨hd2, hT2⟩ => ?_⟩
  subst hT2
  refine ae_lstN (aa_nil ⟨Nat.zero_le _, fun q hq => ?_⟩)
  refine ⟨kt k, 1 + pre.length, l, _, _, hd2, by have := hdict [⟨q, true, .lst []⟩]; exact this, by rw [List.length_map]; exact hs, fun x hx => ?_, fun hn => ?_⟩
  · by_cases hk : k ∈ kvs.map (·.1)
    · obtain ⟨K1, ls, K2, rfl, hk1⟩ := split_at hk
      obtain ⟨A1, A2, eA, hA1⟩ : ∃ A1 A2, as = A1 ++ A2 ∧ A1.length = K1.length := ⟨as.take K1.length, as.drop K1.length, (List.take_append_drop ..).symm, by rw [List.length_take, hl, List.length_append]; omega⟩
      obtain ⟨b, A3, rfl⟩ : ∃ b A3, A2 = b :: A3 := by
        cases A2 with
        | nil => rw [eA] at hl; simp at hl; omega
        | cons b A3 => exact ⟨b, A3, rfl⟩
      subst eA
      have hA3 : A3.length = K2.length := by simp at hl; omega
      rw [getD_ad hi hA1 hk1] at hx
      cases hx
      have eT : ∀ z : List D, (mk (dlG a l kt e (K1 ++ (k, ls) :: K2) (A1 ++ b :: A3))) = (pre ++ (⟨a, l, .dT ((K1 ++ (k, ls) :: K2).map fun p => kt p.1) ((A1 ++ b :: A3).map .adr)⟩ :: inner e A1 K1)) ++ ⟨b, true, .lst (ls.map e)⟩ :: (inner e A3 K2 ++ post) := fun _ => by
        rw [hmk]
        unfold dlG
        rw [inner_app hA1]
        simp [inner]
      rw [eT []]
      have hg : (⟨q, true, .lst []⟩ :: (pre ++ (⟨a, l, .dT ((K1 ++ (k, ls) :: K2).map fun p => kt p.1) ((A1 ++ b :: A3).map .adr)⟩ :: inner e A1 K1)) ++ ⟨b, true, .lst (ls.map e)⟩ :: (inner e A3 K2 ++ post) : Tb)[(⟨q, true, .lst []⟩ :: (pre ++ (⟨a, l, .dT ((K1 ++ (k, ls) :: K2).map fun p => kt p.1) ((A1 ++ b :: A3).map .adr)⟩ :: inner e A1 K1)) : Tb).length]? = some ⟨b, true, .lst (ls.map e)⟩ := get_mid
      refine ⟨⟨_, .o hg rfl⟩, aa_cons ((hta _).imp fun d T2 ⟨hd, hT⟩ => ?_)⟩
      subst hT hd
      refine aa_nil (rm_append _ hg (by rw [List.length_map]; exact hs2 _ (List.mem_append_right _ (List.mem_cons_self ..))) ?_)
      refine ⟨mk (dlG a l kt e (dpush (K1 ++ (k, ls) :: K2) k v) (A1 ++ b :: A3)), _, .refl _, ?_, p _ (by rw [dpush_at hk1, hl]; simp)⟩
      have e2 : (mk (dlG a l kt e (dpush (K1 ++ (k, ls) :: K2) k v) (A1 ++ b :: A3))) = (pre ++ (⟨a, l, .dT ((K1 ++ (k, ls) :: K2).map fun p => kt p.1) ((A1 ++ b :: A3).map .adr)⟩ :: inner e A1 K1)) ++ ⟨b, true, .lst (ls.map e ++ [e v])⟩ :: (inner e A3 K2 ++ post) := by
        rw [hmk, dpush_at hk1]
        unfold dlG
        rw [inner_app hA1]
        simp [inner]
      rw [e2]
      have e3 := set_mid (X := (⟨q, true, .lst []⟩ :: (pre ++ (⟨a, l, .dT ((K1 ++ (k, ls) :: K2).map fun p => kt p.1) ((A1 ++ b :: A3).map .adr)⟩ :: inner e A1 K1)) : Tb)) (y := ⟨b, true, .lst (ls.map e)⟩) (z := ⟨b, true, .lst (ls.map e ++ [e v])⟩) (Y := inner e A3 K2 ++ post)
      rw [List.cons_append, List.cons_append] at e3
      rw [e3]
      exact List.sublist_cons_self ..
    · rw [getD_none hi hk] at hx
      cases hx
  · by_cases hk : k ∈ kvs.map (·.1)
    · obtain ⟨K1, ls, K2, rfl, hk1⟩ := split_at hk
      obtain ⟨A1, A2, eA, hA1⟩ : ∃ A1 A2, as = A1 ++ A2 ∧ A1.length = K1.length := ⟨as.take K1.length, as.drop K1.length, (List.take_append_drop ..).symm, by rw [List.length_take, hl, List.length_append]; omega⟩
      obtain ⟨b, A3, rfl⟩ : ∃ b A3, A2 = b :: A3 := by
        cases A2 with
        | nil => rw [eA] at hl; simp at hl; omega
        | cons b A3 => exact ⟨b, A3, rfl⟩
      subst eA
      rw [getD_ad hi hA1 hk1] at hn
      cases hn
    · have e1 : ((⟨q, true, .lst []⟩ :: mk (dlG a l kt e kvs as) : Tb).set (1 + pre.length) ⟨a, l, .dT ((kvs.map fun p => kt p.1) ++ [kt k]) (as.map .adr ++ [.adr q])⟩) = ⟨q, true, .lst []⟩ :: (pre ++ ⟨a, l, .dT ((kvs.map fun p => kt p.1) ++ [kt k]) (as.map .adr ++ [.adr q])⟩ :: (inner e as kvs ++ post)) := by
        rw [hmk, Nat.add_comm, List.set_cons_succ]
        exact congrArg _ set_mid
      rw [e1]
      refine ⟨⟨_, .o (j := 0) (e := ⟨q, true, .lst []⟩) rfl rfl⟩, aa_cons ((hta _).imp fun d T2 ⟨hd, hT⟩ => ?_)⟩
      subst hT hd
      refine aa_nil (rm_append 0 rfl (Nat.zero_lt_of_lt hs) ?_)
      rw [List.set_cons_zero]
      refine ⟨mk (dlG a l kt e (dpush kvs k v) (as ++ [q])), _, ?_, .refl _, p _ (by rw [dpush_new hk, List.length_append, List.length_append, hl]; rfl)⟩
      rw [hmk, dpush_new hk]
      unfold dlG
      rw [inner_app hl]
      have e2 : pre ++ (⟨a, l, .dT (List.map (fun p => kt p.fst) (kvs ++ [(k, [v])])) (List.map D.adr (as ++ [q]))⟩ :: (inner e as kvs ++ inner e [q] [(k, [v])]) ++ post) = (pre ++ (⟨a, l, .dT ((kvs.map fun p => kt p.1) ++ [kt k]) (as.map .adr ++ [.adr q])⟩ :: inner e as kvs)) ++ (⟨q, true, .lst [e v]⟩ :: post) := by
        simp [inner]
      rw [e2]
      have e3 : (⟨q, true, .lst ([] ++ [e v])⟩ :: (pre ++ ⟨a, l, .dT ((kvs.map fun p => kt p.1) ++ [kt k]) (as.map .adr ++ [.adr q])⟩ :: (inner e as kvs ++ post)) : Tb) = ⟨q, true, .lst [e v]⟩ :: ((pre ++ (⟨a, l, .dT ((kvs.map fun p => kt p.1) ++ [kt k]) (as.map .adr ++ [.adr q])⟩ :: inner e as kvs)) ++ post) := by simp
      rw [e3]
      exact List.perm_middle.symm
/-- such a dict, frozen -/
theorem Ok.frzG {pre post : Tb} {a : Addr} {kt : κ → List L2.Key} {e : β → D} {kvs : List (κ × List β)} {as : List Addr} (hl : as.length = kvs.length) (ok : Ok K E F ds (pre ++ (dlG a true kt e kvs as ++ post)) σ H) : ∃ F', Ex F F' ∧ Ok K E F' ds (pre ++ post) σ H ∧ Is K F' (.ref a) (eT kt (eL e) kvs) := by
  have ok1 : Ok K E F ds (inner e as kvs ++ (⟨a, true, .dT (kvs.map fun p => kt p.1) (as.map .adr)⟩ :: (pre ++ post))) σ H := ok.perm (by
    unfold dlG
    refine List.perm_append_comm.trans ?_
    rw [List.cons_append, List.cons_append, List.append_assoc]
    refine (List.Perm.cons _ ?_).trans List.perm_middle.symm
    refine (List.perm_append_left_iff _).mpr List.perm_append_comm)
  obtain ⟨F1, e1, ok2, i2⟩ := ok1.frozFront fun x hx => inner_loc hx
  have w := ok2.ow _ (List.mem_cons_self ..)
  obtain ⟨vs, h1, h2, h3⟩ : ∃ vs, H a = some (.dT ((kvs.map fun p => kt p.1).zip vs)) ∧ (kvs.map fun p => kt p.1).length = vs.length ∧ IsA K F1 vs (as.map D.adr) := w.o
  have hv := adrs_are h3
  subst hv
  have h3' : IsA K F1 (as.map V.ref) (kvs.map fun p => (eL e) p.2) := isA_refs (by rw [List.length_map]; exact hl) fun n b x g1 g2 => by
    rw [List.getElem?_map] at g2
    cases g3 : kvs[n]? with
    | none => rw [g3] at g2; cases g2
    | some p =>
      rw [g3] at g2
      cases g2
      exact i2 _ (List.mem_of_getElem? (inner_at (e := e) g1 g3))
  have ok3 : Ok K E F1 ds (⟨a, true, .dT (kvs.map fun p => kt p.1) (kvs.map fun p => (eL e) p.2)⟩ :: (pre ++ post)) σ H := ok2.retell (j := 0) (e := ⟨a, true, .dT (kvs.map fun p => kt p.1) (as.map .adr)⟩) rfl fun _ => ⟨_, h1, h2, h3'⟩
  obtain ⟨F2, ok4, e4, i4, _⟩ := ok3.froz (j := 0) rfl rfl
  exact ⟨F2, e1.trans e4, ok4, i4⟩
/-- a frozen field of an owned instance, told anew -/
theorem Ok.reIns {j f : Nat} {x : Addr} {l : Bool} {C : Addr} {ns : List Str} {xs : List D} {a : Addr} {d : D} (ok : Ok K E F ds T σ H) (hj : T[j]? = some ⟨x, l, .ins C ns xs⟩) (hf : xs[f]? = some (.adr a)) (i : Is K F (.ref a) d) : Ok K E F ds (T.set j ⟨x, l, .ins C ns (xs.set f d)⟩) σ H :=
  ok.retell (e := ⟨x, l, .ins C ns xs⟩) hj fun h => by
    obtain ⟨dx, vs, h1, h2, h3⟩ := h
    refine ⟨dx, vs, h1, h2, ?_⟩
    obtain ⟨v, g1, g2⟩ := h3.get hf
    cases g2
    have := IsA.set i f h3
    have e : vs.set f (.ref a) = vs := by
      apply List.ext_getElem?
      intro n
      by_cases hn : f = n
      · subst hn
        rw [List.getElem?_set_self (List.getElem?_eq_some_iff.mp g1).1, g1]
      · rw [List.getElem?_set_ne hn]
    rwa [e] at this
/-- a field of self, a dict of lists, frozen -/
theorem as_frzGI {pre post : Tb} {j f : Nat} {x : Addr} {l : Bool} {C0 : Addr} {ns : List Str} {xs : List D} {a : Addr} {kt : κ → List L2.Key} {e : β → D} {kvs : List (κ × List β)} {as : List Addr} (hl : as.length = kvs.length) (hT : T = pre ++ (dlG a true kt e kvs as ++ post)) (hj : (pre ++ post)[j]? = some ⟨x, l, .ins C0 ns xs⟩) (hf : xs[f]? = some (.adr a))
    (h : AS K E t ds ((pre ++ post).set j ⟨x, l, .ins C0 ns (xs.set f (eT kt (eL e) kvs))⟩) N R B C) : AS K E t ds T N R B C := AS.ghost fun F σ H ok => by
  subst hT
  obtain ⟨F2, e2, ok2, i2⟩ := ok.frzG hl
  exact ⟨F2, _, _, e2, ok2.reIns hj hf i2, h⟩
/-- a local dict of lists, frozen -/
theorem as_frzGS {pre post : Tb} {a : Addr} {kt : κ → List L2.Key} {e : β → D} {kvs : List (κ × List β)} {as : List Addr} (i : Nat) (hi : ds[i]? = some (some (.adr a))) (hl : as.length = kvs.length) (hT : T = pre ++ (dlG a true kt e kvs as ++ post))
    (h : AS K E t (ds.set i (some (eT kt (eL e) kvs))) (pre ++ post) N R B C) : AS K E t ds T N R B C := AS.ghost fun F σ H ok => by
  subst hT
  obtain ⟨F2, e2, ok2, i2⟩ := ok.frzG hl
  refine ⟨F2, _, _, e2, ⟨ok2.p, by rw [List.length_set]; exact ok2.ln, ?_, ok2.ow, ok2.nd⟩, h⟩
  intro k d hd
  by_cases hk : i = k
  · subst hk
    have hl : i < ds.length := (List.getElem?_eq_some_iff.mp hi).1
    rw [List.getElem?_set_self hl] at hd
    cases hd
    obtain ⟨v, h1, h2⟩ := ok2.sl i _ hi
    cases h2
    exact ⟨_, h1, i2⟩
  · rw [List.getElem?_set_ne hk] at hd
    exact ok2.sl k d hd
end
theorem as_endA {K : PySem.W.Frag} {E : Ent} {ds : Sls} {T : Tb} {t : TS} {N B C : PS2} {R : PD} (h : AS K E t ds T (fun ds' T' => AS K E tNext ds' T' N R B C) R B C) : AS K E t ds T N R B C := as_end _ h fun _ _ z => z
theorem FV.ow {T : Tb} {f : Str} {d' : D} {a C : Addr} {l : Bool} {ns : List Str} {xs : List D} (j : Nat) (hj : T[j]? = some ⟨a, l, .ins C ns xs⟩) (h : (ns.zip xs).lookup f = some d') : FV T f d' (.adr a) C := .o hj rfl h
theorem Sb.grp0 {L T es post : Tb} {a : Addr} {κ β : Type} {kt : κ → List L2.Key} {e : β → D} (h : T = ⟨a, true, .dT [] []⟩ :: (es ++ post)) (hL : L = es ++ (dlG a true kt e [] [] ++ post)) : Sb L T := by
  subst h hL
  refine .p ?_
  exact (List.perm_middle (l₁ := es) (l₂ := post)).symm
theorem all_len {κ β : Type} {kvs : List (κ × List β)} (h : kvs.all (fun p => decide (p.2.length < 100000)) = true) : ∀ p ∈ kvs, p.2.length < 100000 := fun p hp => of_decide_eq_true (List.all_eq_true.mp h p hp)
end AW

/-! Mi7: a comprehension over the values of a frozen dict. -/
namespace AW
open PySem PySem.Spec PyProof.Rows L2 Evl
section
variable {K : PySem.W.Frag} {E : Ent} {F H F' H' : Hp} {ds : Sls} {T T' : Tb} {σ : L2.St} {v : V} {d : D} {P : PD} {te : TE} {tt : TT} {g : TG}
theorem Ok.more (ok : Ok K E F ds T σ H) (h : ∀ a o, H a = some o → H' a = some o) : Ok K E F ds T σ H' :=
  ⟨⟨ok.p.ff, fun a o h1 h2 => h a o (ok.p.hh a o h1 h2), fun a o h1 => let ⟨o', e⟩ := ok.p.al a o h1; ⟨o', h a o' e⟩, fun a o e => h a o (ok.p.fh a o e), ok.p.nw⟩, ok.ln, ok.sl, (fun e he => have w := ok.ow e he; ⟨w.f, w.o.mono (Ex.refl F) fun o z => h _ o z, w.l, w.g⟩), ok.nd⟩
theorem ok_bare {F H : Hp} {n : Nat} {σ : L2.St} (hF : Ex F H) (hn : σ.length = n) : Ok K ⟨F, H, []⟩ F (List.replicate n none) [] σ H :=
  ⟨⟨Ex.refl F, fun _ _ z _ => z, id_al, hF, fun _ _ z _ => z⟩, by rw [List.length_replicate]; exact hn, (fun i d h => by
    rw [List.getElem?_replicate] at h
    split at h
    · cases h
    · cases h), (fun e he => (List.not_mem_nil he).elim), List.nodup_nil⟩
theorem isA_ofBl {F : Hp} : ∀ bs : List Bool, IsA K F (bs.map V.bl) (bs.map D.bl)
  | [] => .nil
  | b :: bs => .cons (.bl b) (isA_ofBl bs)
theorem ae_lcV {is vs : List Nat} {i : Nat} {f : Str} {C : Addr} {ns : List Str} {xs : List D} {κ : Type} {kt : κ → List L2.Key} {kvs : List (κ × List Int)} {c : List Int → Bool} (hs : ∀ i ∈ is, i ∈ vs) (cl : Cls K C) (na : NoAttr K C f) (hi : ds[i]? = some (some (.ins C ns xs))) (hf : (ns.zip xs).lookup f = some (eT kt (eL D.int) kvs)) (hl : kvs.length ≤ 100000)
    (h : ∀ l, l ∈ kvs.map (·.2) → ∀ E' : Ent, AG K E' is g (List.replicate ds.length none) [] (eL D.int l) fun ds2 T2 => AT K E' tt ds2 T2 fun b T3 => b = true ∧ AE K E' te ds2 T3 fun y T4 => y = .bl (c l))
    (p : P (.lst ((kvs.map fun p => c p.2).map .bl)) T) : AE K E (tLockE (tLc (iValsT (tFld K (tVar i) f)) g tt te vs)) ds T P := fun F σ H Q ok q => by
  obtain ⟨v, h1, h2⟩ := ok.sl i _ hi
  cases h2 with
  | ins g1 g2 t =>
  rename_i m dx vs0
  obtain ⟨w, e1, iw⟩ := lookup_is (ns := []) t hf
  cases iw with
  | dT g3 g4 t2 =>
  rename_i da us
  have Hd := ok.p.fh _ _ g3
  have Hm := ok.p.fh _ _ g1
  have hmd : m ≠ da := fun z => by rw [z, Hd] at Hm; cases Hm
  refine ⟨da, _, Hd, trivial, fun od => ?_⟩
  generalize hH0 : upd H da (.frz od (.dT ((kvs.map fun p => kt p.1).zip us))) = H0
  have H0d : H0 da = some (.frz od (.dT ((kvs.map fun p => kt p.1).zip us))) := by rw [← hH0]; exact upd_same
  have H0m : H0 m = some (.ins C dx (ns.zip vs0)) := by rw [← hH0, upd_ne hmd]; exact Hm
  have F0 : ∃ F0 : Hp, F0 = fun a => if a = da then none else F a := ⟨_, rfl⟩
  obtain ⟨F0, hF0⟩ := F0
  have F0o : ∀ a o, F0 a = some o → a ≠ da ∧ F a = some o := fun a o z => by
    rw [hF0] at z
    by_cases e : a = da
    · have z' := (if_pos e).symm.trans z
      cases z'
    · exact ⟨e, (if_neg e).symm.trans z⟩
  have F0i : ∀ a o, a ≠ da → F a = some o → F0 a = some o := fun a o z e => by
    rw [hF0]
    exact (if_neg z).trans e
  have x0 : Ex F0 H0 := fun a o z => by
    obtain ⟨n1, n2⟩ := F0o a o z
    rw [← hH0, upd_ne n1]
    exact ok.p.fh _ _ n2
  have H0o : ∀ a o, a ≠ da → H a = some o → H0 a = some o := fun a o n e => by rw [← hH0, upd_ne n]; exact e
  have lus : us.length = kvs.length := by rw [← g4, List.length_map]
  refine ⟨_, h1, _, _, _, _, _, rfl, H0m, cl, na, e1, da, od, _, rfl, H0d, fun D hD => ?_⟩
  have hDd : D ≠ da := fun z => by rw [z, H0d] at hD; cases hD
  have HD : H D = none := by rw [← hH0, upd_ne hDd] at hD; exact hD
  have zl : ((kvs.map fun p => kt p.1).zip us).length = kvs.length := by rw [List.length_zip, List.length_map]; omega
  refine lc_it (n := kvs.length) (by rw [← zl]; exact walk_valuesT) (fun i H' => Ex F0 H' ∧ H' da = some (.frz od (.dT ((kvs.map fun p => kt p.1).zip us))) ∧ (∀ a o, a ≠ da → H a = some o → H' a = some o) ∧ H' D = some (.lst (((kvs.take i).map fun p => c p.2).map .bl))) ?_ ?_ ?_ ?_
  · exact ⟨fun a o z => by rw [upd_ne (fun e => by rw [e] at z; rw [x0 _ _ z] at hD; cases hD)]; exact x0 a o z, by rw [upd_ne (fun z => hDd z.symm)]; exact H0d, fun a o n e => by rw [upd_ne (fun z => by rw [z, HD] at e; cases e)]; exact H0o a o n e, upd_same⟩
  · rintro i H' _ ⟨_, z, _, _⟩
    exact z
  · rintro i x H1 H2 hi ⟨y1, y2, y3, y4⟩ ⟨rfl, k, hk⟩
    have hx : us[i]? = some x := by
      rw [List.getElem?_zip_eq_some] at hk
      exact hk.2
    obtain ⟨dd, hdd, ix⟩ := t2.getV hx
    rw [List.getElem?_map] at hdd
    cases e3 : kvs[i]? with
    | none => rw [e3] at hdd; cases hdd
    | some p =>
    rw [e3] at hdd
    cases hdd
    have ix0 : Is K F0 x (eL AW.D.int p.2) := by
      cases ix with
      | lst z1 z2 =>
        rename_i a0 ws
        have := z2.ints
        subst this
        exact .lst (F0i _ _ (fun z => by rw [z, g3] at z1; cases z1) z1) (IsA.of_ints _)
    have okb : Ok K ⟨F0, H2, []⟩ F0 (List.replicate ds.length none) [] (wipe σ vs) H2 := ok_bare y1 (by rw [wipe_len]; exact ok.ln)
    refine h p.2 (List.mem_map.mpr ⟨p, List.mem_of_getElem? e3, rfl⟩) ⟨F0, H2, []⟩ F0 _ H2 x _ okb ix0 fun ds2 σ2 n2 ok2 off => ⟨wipe_eq (by rw [off.1, wipe_len]) hs off.2, ?_⟩
    refine n2 F0 σ2 H2 _ ok2 ?_
    rintro b T3 F3 H3 ⟨rfl, n3⟩ ok3 fr3 al3
    refine (if_pos rfl).symm ▸ n3 F3 σ2 H3 _ ok3 ?_
    rintro y dy T4 F4 H4 rfl ok4 fr4 al4 iy
    cases iy
    have keep : ∀ a o, H2 a = some o → H4 a = some o := fun a o z => by
      have fr := fr3.trans fr4 al3
      exact fr.hh a o z (fun z => by cases z)
    refine ⟨_, keep _ _ y4, by rw [List.length_map, List.length_map, List.length_take]; exact sz_lt (by omega), ?_, ?_, ?_, ?_⟩
    · intro a o z
      rw [upd_ne (fun e => by rw [e] at z; rw [x0 _ _ z] at hD; cases hD)]
      exact keep _ _ (y1 a o z)
    · rw [upd_ne (fun z => hDd z.symm)]
      exact keep _ _ y2
    · intro a o n e
      rw [upd_ne (fun z => by rw [z, HD] at e; cases e)]
      exact keep _ _ (y3 a o n e)
    · rw [upd_same, List.take_succ, e3]
      simp
  · rintro H2 ⟨y1, y2, y3, y4⟩
    refine ⟨y2, ?_⟩
    rw [List.take_length] at y4
    have okn := ok.newF (p := D) (o := .lst ((kvs.map fun p => c p.2).map .bl)) HD
    have hFD : F D = none := fresh_back ok.p.fh HD
    have big : ∀ a o, upd H D (.lst ((kvs.map fun p => c p.2).map .bl)) a = some o → upd H2 da (.dT ((kvs.map fun p => kt p.1).zip us)) a = some o := fun a o z => by
      by_cases ea : a = da
      · subst ea
        rw [upd_ne (fun z => hDd z.symm), Hd] at z
        cases z
        exact upd_same
      · rw [upd_ne ea]
        by_cases eD : a = D
        · subst eD
          rw [upd_same] at z
          cases z
          exact y4
        · rw [upd_ne eD] at z
          exact y3 a o ea z
    have big0 : ∀ a o, H a = some o → upd H2 da (.dT ((kvs.map fun p => kt p.1).zip us)) a = some o := fun a o z => big a o (by rw [upd_ne (fun e => by rw [e, HD] at z; cases z)]; exact z)
    refine q _ _ T _ _ p (okn.1.more big) ⟨okn.2, fun a o z _ => big0 a o z, fun a o z1 z2 _ => by rw [upd_ne (fun e => by rw [e, HD] at z2; cases z2)]; exact z1, fun e he => .inl (List.mem_map.mpr ⟨e, he, rfl⟩)⟩ (fun a o z => ⟨o, big0 a o z⟩) (.lst upd_same ?_)
    exact isA_ofBl _
end
end AW

/-! Mi8: == and repr of lists that own lists. -/
namespace AW
open PySem PySem.Spec PyProof.Rows L2 Evl
/-- what d is read as, by meaning -/
def DvS (K : PySem.W.Frag) (T : Tb) (d : D) (q : PyData) : Prop := ∀ (E : Ent) (F H : Hp) (ds : Sls) (σ : L2.St) (v : V), Ok K E F ds T σ H → Is K F v d → Dp K H v q
theorem Dv.s {K : PySem.W.Frag} {T : Tb} {d : D} {q : PyData} (h : Dv T d q) : DvS K T d q := fun E F H ds σ v ok i => h.dp ok i
section
variable {K : PySem.W.Frag} {E : Ent} {F H : Hp} {ds : Sls} {T : Tb} {σ : L2.St} {v : V} {d d1 d2 : D} {P : PD}
theorem rd_eqS2 {a b : PyData} (h1 : DvS K T d1 a) (h2 : DvS K T d2 b) (s1 : SeqAt.shaped a = true) (s2 : SeqAt.shaped b = true) (p : P (.bl (PyData.eqv a b)) T) : RD K E (rEqU K) T d1 d2 P := RD.l fun F σ ds H v1 v2 Q ok i1 i2 q =>
  ⟨a, b, h1 E F H ds σ v1 ok i1, h2 E F H ds σ v2 ok i2, s1, s2, q.ret ok p (.bl _)⟩
theorem rc_reprS {a : PyData} (hv : DvS K T d a) (sh : a.showable = true) (cl : a.canLay0 = true) (dep : a.depth ≤ 60) (sz : a.shown.length ≤ sizeLine) (p : P (.str a.shown) T) : RC K E (rRepr K) T [d] P := fun F σ ds H vs Q ok h q => by
  cases h with
  | cons h1 t =>
    cases t
    exact ⟨_, a, rfl, hv E F H ds σ _ ok h1, sh, cl, dep, sz, q.ret ok p (.str _)⟩
/-- the parts of a list -/
inductive DvA (K : PySem.W.Frag) (T : Tb) : List D → List PyData → Prop
  | nil : DvA K T [] []
  | cons {d : D} {q : PyData} {ds : List D} {qs : List PyData} : DvS K T d q → DvA K T ds qs → DvA K T (d :: ds) (q :: qs)
theorem DvA.dp {xs : List D} {qs : List PyData} (h : DvA K T xs qs) (ok : Ok K E F ds T σ H) : ∀ {vs : List V}, IsA K F vs xs → DpAll K H vs qs := by
  induction h with
  | nil => intro vs h; cases h; exact .nil
  | cons h1 h2 ih =>
    intro vs h
    cases h with
    | cons i t => exact .cons (h1 _ _ _ _ _ _ ok i) (ih t)
theorem DvS.own2 {a : Addr} {l : Bool} {xs : List D} {qs : List PyData} (j : Nat) (hj : T[j]? = some ⟨a, l, .lst xs⟩) (h : DvA K T xs qs) : DvS K T (.adr a) (.list qs) := fun E F H ds σ v ok i => by
  cases i
  obtain ⟨vs, h1, h2⟩ := ok.lst_at hj
  exact .lst (sq_of h1) (h.dp ok h2)
theorem foot_at {j : Nat} {a : Addr} {l : Bool} {o : OB} (h : T[j]? = some ⟨a, l, o⟩) : (foot (toFoot T))[j]? = some ⟨a, false, o⟩ := foot_get h
abbrev con_same3 (K : PySem.W.Frag) : Con0 := fun dd T P PX => dd.length = 2 ∧ ∃ (α : Type) (_ : DecidableEq α) (e : α → D) (n : Nat) (d1 d2 : D) (x y : α), Pl n e ∧ dd = [d1, d2] ∧ DvS K (foot T) d1 (e x).py ∧ DvS K (foot T) d2 (e y).py ∧ G (sameO e x y) fun b => P (.bl b) (T.map (·.2)) []
end
abbrev eFL {α : Type} (e : α → D) : List α → D := fun l => .frl (l.map e)
abbrev eH1 {α : Type} (a : α → D) : α → D := fun x => .lst [a x]
abbrev eH2 {α β : Type} (a : α → D) (b : β → D) : α × β → D := fun x => .lst [a x.1, b x.2]
abbrev eH3 {α β γ : Type} (a : α → D) (b : β → D) (c : γ → D) : α × β × γ → D := fun x => .lst [a x.1, b x.2.1, c x.2.2]
abbrev eH4 {α β γ δ : Type} (a : α → D) (b : β → D) (c : γ → D) (d : δ → D) : α × β × γ × δ → D := fun x => .lst [a x.1, b x.2.1, c x.2.2.1, d x.2.2.2]
abbrev eH5 {α β γ δ ε : Type} (a : α → D) (b : β → D) (c : γ → D) (d : δ → D) (e : ε → D) : α × β × γ × δ × ε → D := fun x => .lst [a x.1, b x.2.1, c x.2.2.1, d x.2.2.2.1, e x.2.2.2.2]
section
variable {α β γ δ ε : Type} [DecidableEq α] [DecidableEq β] [DecidableEq γ] [DecidableEq δ] [DecidableEq ε] {n : Nat} {a : α → D} {b : β → D} {c : γ → D} {d : δ → D} {e : ε → D}
theorem pl_H1 (ha : Pl n a) : Pl (n + 1) (eH1 a) := ⟨fun x => by simp [ha.pl], fun x => by simp [PyData.canLay0, PyData.canLayAll0, ha.cl], fun x => by
  simp only [D.py_lst, List.map_cons, List.map_nil, PyData.depth, PyData.depthAll]
  have := ha.dp x
  omega, fun x y => by
    simp [PyData.eqv, PyData.eqvAll, ha.eq]⟩
theorem pl_H2 (ha : Pl n a) (hb : Pl n b) : Pl (n + 1) (eH2 a b) := ⟨fun x => by simp [ha.pl, hb.pl], fun x => by simp [PyData.canLay0, PyData.canLayAll0, ha.cl, hb.cl], fun x => by
  simp only [D.py_lst, List.map_cons, List.map_nil, PyData.depth, PyData.depthAll]
  have := ha.dp (x.1)
  have := hb.dp (x.2)
  omega, fun x y => by
    obtain ⟨x0, x1⟩ := x
    obtain ⟨y0, y1⟩ := y
    simp [PyData.eqv, PyData.eqvAll, ha.eq, hb.eq]⟩
theorem pl_H3 (ha : Pl n a) (hb : Pl n b) (hc : Pl n c) : Pl (n + 1) (eH3 a b c) := ⟨fun x => by simp [ha.pl, hb.pl, hc.pl], fun x => by simp [PyData.canLay0, PyData.canLayAll0, ha.cl, hb.cl, hc.cl], fun x => by
  simp only [D.py_lst, List.map_cons, List.map_nil, PyData.depth, PyData.depthAll]
  have := ha.dp (x.1)
  have := hb.dp (x.2.1)
  have := hc.dp (x.2.2)
  omega, fun x y => by
    obtain ⟨x0, x1, x2⟩ := x
    obtain ⟨y0, y1, y2⟩ := y
    simp [PyData.eqv, PyData.eqvAll, ha.eq, hb.eq, hc.eq]⟩
theorem pl_H4 (ha : Pl n a) (hb : Pl n b) (hc : Pl n c) (hd : Pl n d) : Pl (n + 1) (eH4 a b c d) := ⟨fun x => by simp [ha.pl, hb.pl, hc.pl, hd.pl], fun x => by simp [PyData.canLay0, PyData.canLayAll0, ha.cl, hb.cl, hc.cl, hd.cl], fun x => by
  simp only [D.py_lst, List.map_cons, List.map_nil, PyData.depth, PyData.depthAll]
  have := ha.dp (x.1)
  have := hb.dp (x.2.1)
  have := hc.dp (x.2.2.1)
  have := hd.dp (x.2.2.2)
  omega, fun x y => by
    obtain ⟨x0, x1, x2, x3⟩ := x
    obtain ⟨y0, y1, y2, y3⟩ := y
    simp [PyData.eqv, PyData.eqvAll, ha.eq, hb.eq, hc.eq, hd.eq]⟩
theorem pl_H5 (ha : Pl n a) (hb : Pl n b) (hc : Pl n c) (hd : Pl n d) (he : Pl n e) : Pl (n + 1) (eH5 a b c d e) := ⟨fun x => by simp [ha.pl, hb.pl, hc.pl, hd.pl, he.pl], fun x => by simp [PyData.canLay0, PyData.canLayAll0, ha.cl, hb.cl, hc.cl, hd.cl, he.cl], fun x => by
  simp only [D.py_lst, List.map_cons, List.map_nil, PyData.depth, PyData.depthAll]
  have := ha.dp (x.1)
  have := hb.dp (x.2.1)
  have := hc.dp (x.2.2.1)
  have := hd.dp (x.2.2.2.1)
  have := he.dp (x.2.2.2.2)
  omega, fun x y => by
    obtain ⟨x0, x1, x2, x3, x4⟩ := x
    obtain ⟨y0, y1, y2, y3, y4⟩ := y
    simp [PyData.eqv, PyData.eqvAll, ha.eq, hb.eq, hc.eq, hd.eq, he.eq]⟩
end
end AW

/-! Pm1: plain tools for mirrors. -/
namespace AW
open PySem PySem.Spec PyProof.Rows L2 Evl
section
variable {α β γ S R : Type}
theorem Gb {m : Option α} {k : α → Option β} {Q : β → Prop} (h : G m fun a => G (k a) Q) : G (m.bind k) Q := by
  obtain ⟨a, rfl, b, e, q⟩ := h
  exact ⟨b, e, q⟩
theorem Gc {c : Prop} [Decidable c] {m : Option α} {Q : α → Prop} (hc : c) (h : G m Q) : G (chk c m) Q := by
  unfold chk
  rw [if_pos hc]
  exact h
theorem Gs {a : α} {Q : α → Prop} (h : Q a) : G (some a) Q := ⟨a, rfl, h⟩
theorem Gt {c : Bool} {a b : Option α} {Q : α → Prop} (hc : c = true) (h : G a Q) : G (if c = true then a else b) Q := by rw [if_pos hc]; exact h
theorem Gf {c : Bool} {a b : Option α} {Q : α → Prop} (hc : c = false) (h : G b Q) : G (if c = true then a else b) Q := by rw [if_neg (by rw [hc]; exact Bool.false_ne_true)]; exact h
theorem Gi {c : Bool} {a b : Option α} {Q : α → Prop} (h1 : c = true → G a Q) (h2 : c = false → G b Q) : G (if c = true then a else b) Q := by
  cases c with
  | true => exact Gt rfl (h1 rfl)
  | false => exact Gf rfl (h2 rfl)
theorem Ge {m : Option α} {a : α} {Q : α → Prop} (e : m = some a) (h : Q a) : G m Q := ⟨a, e, h⟩
theorem G.eq {m : Option α} {a : α} (h : G m fun b => b = a) : m = some a := by
  obtain ⟨b, e, rfl⟩ := h
  exact e
theorem G_same {α : Type} [DecidableEq α] {e : α → D} {x y : α} {Q : Bool → Prop} (hxy : x = y) (hok : okR (e x).py = true) (h : Q true) : G (sameO e x y) Q := by
  subst hxy
  exact Gc ⟨hok, hok⟩ (Gs (by rw [decide_eq_true rfl]; exact h))
/-- loops by an invariant -/
theorem forO_pre {xs : List α} {f : α → S → Option S} (I : List α → S → Prop) : ∀ (pre : List α) (s : S), I pre s → (∀ pre x s, x ∈ xs → I pre s → G (f x s) fun s' => I (pre ++ [x]) s') → G (forO xs s f) fun s' => I (pre ++ xs) s' := by
  induction xs with
  | nil => intro pre s h _; exact Gs (by rw [List.append_nil]; exact h)
  | cons x xs ih =>
    intro pre s h st
    refine Gb ((st pre x s (List.mem_cons_self ..) h).imp fun s' h' => ?_)
    have := ih (pre ++ [x]) s' h' fun pre y s hy => st pre y s (List.mem_cons_of_mem _ hy)
    rw [List.append_assoc] at this
    exact this
theorem G_forO {xs : List α} {s : S} {f : α → S → Option S} {Q : S → Prop} (I : List α → S → Prop) (h0 : I [] s) (st : ∀ pre x s, x ∈ xs → I pre s → G (f x s) fun s' => I (pre ++ [x]) s') (h : ∀ s, I xs s → Q s) : G (forO xs s f) Q :=
  (forO_pre I [] s h0 st).imp h
theorem G_forF {xs : List α} {s : S} {f : α → S → Option (Lp S R)} {Q : Fl S R → Prop} (I : List α → S → Prop) (h0 : I [] s) (st : ∀ pre x s, x ∈ xs → I pre s → G (f x s) fun l => ∃ s', l = .nx s' ∧ I (pre ++ [x]) s') (h : ∀ s, I xs s → Q (.nx s)) : G (forF xs s f) Q := by
  have key : ∀ (ys pre : List α) (s : S), (∀ y ∈ ys, y ∈ xs) → I pre s → G (forF ys s f) fun l => ∃ s', l = .nx s' ∧ I (pre ++ ys) s' := by
    intro ys
    induction ys with
    | nil => intro pre s _ h; exact Gs ⟨s, rfl, by rw [List.append_nil]; exact h⟩
    | cons y ys ih =>
      intro pre s hy hi
      refine Gb ((st pre y s (hy y (List.mem_cons_self ..)) hi).imp ?_)
      rintro _ ⟨s', rfl, h'⟩
      have := ih (pre ++ [y]) s' (fun z hz => hy z (List.mem_cons_of_mem _ hz)) h'
      rw [List.append_assoc] at this
      exact this
  refine (key xs [] s (fun _ z => z) h0).imp ?_
  rintro _ ⟨s', rfl, h'⟩
  exact h s' h'
/-- the general one: a turn may return or break -/
theorem G_forFg {xs : List α} {s : S} {f : α → S → Option (Lp S R)} {Q : Fl S R → Prop} (I : List α → S → Prop) (h0 : I [] s) (st : ∀ pre x post s, xs = pre ++ x :: post → I pre s → G (f x s) (lpQ (fun s' => I (pre ++ [x]) s') (fun s' => Q (.nx s')) fun r => Q (.rt r))) (h : ∀ s, I xs s → Q (.nx s)) : G (forF xs s f) Q := by
  have key : ∀ (ys pre : List α) (s : S), xs = pre ++ ys → I pre s → G (forF ys s f) Q := by
    intro ys
    induction ys with
    | nil => intro pre s e hi; exact Gs (h s (by rw [e, List.append_nil]; exact hi))
    | cons y ys ih =>
      intro pre s e hi
      refine Gb ((st pre y ys s e hi).imp fun l hl => ?_)
      cases l with
      | nx s' => exact ih (pre ++ [y]) s' (by rw [e, List.append_assoc]; rfl) hl
      | bk s' => exact Gs hl
      | rt r => exact Gs hl
  exact key xs [] s rfl h0
theorem G_lcO {xs : List α} {s : S} {f : α → S → Option (Option β × S)} {Q : List β × S → Prop} (I : List α → List β → S → Prop) (hl : xs.length ≤ 100000) (h0 : I [] [] s) (st : ∀ pre x bs s, x ∈ xs → I pre bs s → G (f x s) fun r => I (pre ++ [x]) (bs ++ r.1.toList) r.2) (h : ∀ bs s, I xs bs s → Q (bs, s)) : G (lcO xs s f) Q := by
  refine Gc hl ?_
  have key : ∀ (ys pre : List α) (bs : List β) (s : S), (∀ y ∈ ys, y ∈ xs) → I pre bs s → G (lcM ys s f) fun r => I (pre ++ ys) (bs ++ r.1) r.2 := by
    intro ys
    induction ys with
    | nil => intro pre bs s _ h; exact Gs (by rw [List.append_nil, List.append_nil]; exact h)
    | cons y ys ih =>
      intro pre bs s hy hi
      refine Gb ((st pre y bs s (hy y (List.mem_cons_self ..)) hi).imp fun r hr => ?_)
      refine Gb ((ih (pre ++ [y]) (bs ++ r.1.toList) r.2 (fun z hz => hy z (List.mem_cons_of_mem _ hz)) hr).imp fun r2 h2 => ?_)
      refine Gs ?_
      rw [List.append_assoc, List.append_assoc] at h2
      exact h2
  exact (key xs [] [] s (fun _ z => z) h0).imp fun r hr => h r.1 r.2 hr
theorem G_lcP {xs : List α} {c : α → Bool} {f : α → β} {Q : List β → Prop} (hl : xs.length ≤ 100000) (h : Q ((xs.filter c).map f)) : G (lcP xs c f) Q := Gc hl (Gs h)
theorem G_atI {xs : List α} {i : Int} {Q : α → Prop} (h0 : 0 ≤ i) (h1 : i < xs.length) (h : ∀ v, v ∈ xs → xs[i.toNat]? = some v → Q v) : G (atI xs i) Q := by
  have hlt : i.toNat < xs.length := by omega
  have e := List.getElem?_eq_getElem hlt
  exact ⟨_, atI_to h0 e, h _ (List.getElem_mem hlt) e⟩
theorem G_last {xs : List α} {Q : α → Prop} (h : ∀ v, xs.getLast? = some v → Q v) (hne : xs ≠ []) : G (atI xs (-1)) Q := by
  have e := List.getLast?_eq_some_getLast hne
  exact ⟨_, atI_last e, h _ e⟩
theorem atI_lit {xs : List α} {n : Nat} {v : α} (h : xs[n]? = some v) : atI xs (n : Int) = some v := atI_of h
end
/-! ### sizes -/
theorem okR_int {i : Int} (h : i.natAbs < 10 ^ 20) : okR (D.int i).py = true := by
  rw [D.py_int]
  exact okR_of (fit_int h) (by decide) (by decide)
theorem okR_bl (b : Bool) : okR (D.bl b).py = true := by
  rw [D.py_bl]
  exact okR_of (fit_bool b) (by decide) (by decide)
/-- data of small size: at most n deep, k places -/
def Ft (e : α → D) (n k : Nat) (x : α) : Prop := Fit n k (e x).py
theorem Ft.ok {α : Type} {e : α → D} {n k : Nat} {x : α} (h : Ft e n k x) (h1 : n ≤ 60) (h2 : k ≤ 600000) : okR (e x).py = true := okR_of h h1 h2
theorem ft_I {i : Int} (h : i.natAbs < 10 ^ 20) : Ft D.int 0 0 i := by
  unfold Ft
  rw [D.py_int]
  exact fit_int h
theorem ft_B (b : Bool) : Ft D.bl 0 0 b := by
  unfold Ft
  rw [D.py_bl]
  exact fit_bool b
theorem Ft.up {α : Type} {e : α → D} {n k n' k' : Nat} {x : α} (h : Ft e n k x) (h1 : n ≤ n') (h2 : k ≤ k') : Ft e n' k' x := Fit.up h h1 h2
theorem ft_L {α : Type} {e : α → D} {n k : Nat} {xs : List α} (h : ∀ x ∈ xs, Ft e n k x) : Ft (eL e) (n + 1) (xs.length * (k + 1)) xs := by
  unfold Ft
  rw [D.py_lst]
  have := fit_list (n := n) (k := k) (xs := (xs.map e).map D.py) fun x hx => by
    obtain ⟨y, hy, rfl⟩ := List.mem_map.mp hx
    obtain ⟨z, hz, rfl⟩ := List.mem_map.mp hy
    exact h z hz
  rwa [List.length_map, List.length_map] at this
theorem ft_TL {α : Type} {e : α → D} {n k : Nat} {xs : List α} (h : ∀ x ∈ xs, Ft e n k x) : Ft (eTL e) (n + 1) (xs.length * (k + 1)) xs := by
  unfold Ft
  rw [D.py_tup]
  have := fit_tuple (n := n) (k := k) (xs := (xs.map e).map D.py) fun x hx => by
    obtain ⟨y, hy, rfl⟩ := List.mem_map.mp hx
    obtain ⟨z, hz, rfl⟩ := List.mem_map.mp hy
    exact h z hz
  rwa [List.length_map, List.length_map] at this
theorem ft_T2 {α β : Type} {a : α → D} {b : β → D} {n k : Nat} {x : α × β} (h1 : Ft a n k x.1) (h2 : Ft b n k x.2) : Ft (eT2 a b) (n + 1) (2 * (k + 1)) x := by
  unfold Ft
  rw [D.py_tup]
  have key : ∀ z ∈ [a x.1, b x.2].map D.py, Fit n k z := by
    intro z hz
    simp only [List.map_cons, List.map_nil, List.mem_cons, List.not_mem_nil, or_false] at hz
    rcases hz with rfl | rfl
    · exact h1
    · exact h2
  have q := fit_tuple key
  exact q
theorem ft_H2 {α β : Type} {a : α → D} {b : β → D} {n k : Nat} {x : α × β} (h1 : Ft a n k x.1) (h2 : Ft b n k x.2) : Ft (eH2 a b) (n + 1) (2 * (k + 1)) x := by
  unfold Ft
  rw [D.py_lst]
  have key : ∀ z ∈ [a x.1, b x.2].map D.py, Fit n k z := by
    intro z hz
    simp only [List.map_cons, List.map_nil, List.mem_cons, List.not_mem_nil, or_false] at hz
    rcases hz with rfl | rfl
    · exact h1
    · exact h2
  have q := fit_list key
  exact q
theorem ft_T3 {α β γ : Type} {a : α → D} {b : β → D} {c : γ → D} {n k : Nat} {x : α × β × γ} (h1 : Ft a n k x.1) (h2 : Ft b n k x.2.1) (h3 : Ft c n k x.2.2) : Ft (eT3 a b c) (n + 1) (3 * (k + 1)) x := by
  unfold Ft
  rw [D.py_tup]
  have key : ∀ z ∈ [a x.1, b x.2.1, c x.2.2].map D.py, Fit n k z := by
    intro z hz
    simp only [List.map_cons, List.map_nil, List.mem_cons, List.not_mem_nil, or_false] at hz
    rcases hz with rfl | rfl | rfl
    · exact h1
    · exact h2
    · exact h3
  have q := fit_tuple key
  exact q
theorem ft_T4 {α β γ δ : Type} {a : α → D} {b : β → D} {c : γ → D} {d : δ → D} {n k : Nat} {x : α × β × γ × δ} (h1 : Ft a n k x.1) (h2 : Ft b n k x.2.1) (h3 : Ft c n k x.2.2.1) (h4 : Ft d n k x.2.2.2) : Ft (eT4 a b c d) (n + 1) (4 * (k + 1)) x := by
  unfold Ft
  rw [D.py_tup]
  have key : ∀ z ∈ [a x.1, b x.2.1, c x.2.2.1, d x.2.2.2].map D.py, Fit n k z := by
    intro z hz
    simp only [List.map_cons, List.map_nil, List.mem_cons, List.not_mem_nil, or_false] at hz
    rcases hz with rfl | rfl | rfl | rfl
    · exact h1
    · exact h2
    · exact h3
    · exact h4
  have q := fit_tuple key
  exact q
/-! ### ascending lists of ints below a bound -/
theorem nodup_sub_len {α : Type} [DecidableEq α] : ∀ {xs ys : List α}, xs.Nodup → xs ⊆ ys → xs.length ≤ ys.length
  | [], _, _, _ => Nat.zero_le _
  | x :: xs, ys, h, hs => by
    rw [List.nodup_cons] at h
    have hx : x ∈ ys := hs (List.mem_cons_self ..)
    have := nodup_sub_len (xs := xs) (ys := ys.erase x) h.2 fun z hz => (List.mem_erase_of_ne (fun e => h.1 (by rw [← e]; exact hz))).mpr (hs (List.mem_cons_of_mem _ hz))
    rw [List.length_erase_of_mem hx] at this
    have := List.length_pos_of_mem hx
    rw [List.length_cons]
    omega
theorem nodup_len {n : Nat} : ∀ {xs : List Int}, xs.Nodup → (∀ x ∈ xs, 0 ≤ x ∧ x < n) → xs.length ≤ n := by
  intro xs h hb
  have h2 : (xs.map Int.toNat).Nodup := by
    rw [List.Nodup, List.pairwise_map]
    exact h.imp_of_mem fun {a b} ha hb' hab e => hab (by have := hb a ha; have := hb b hb'; omega)
  have h3 : (xs.map Int.toNat) ⊆ List.range n := fun y hy => by
    obtain ⟨x, hx, rfl⟩ := List.mem_map.mp hy
    have := hb x hx
    exact List.mem_range.mpr (by omega)
  have := nodup_sub_len h2 h3
  rwa [List.length_map, List.length_range] at this
theorem usort_nodup {α : Type} {lt : α → α → Bool} (h : STO lt) (xs : List α) : (usort lt xs).Nodup := (usort_pw h xs).imp fun e => sto_irr h e
theorem usort_len {α : Type} {lt : α → α → Bool} : ∀ xs : List α, (usort lt xs).length ≤ xs.length
  | [] => Nat.le_refl _
  | x :: xs => by
    have key : ∀ ys : List α, (uins lt x ys).length ≤ ys.length + 1 := by
      intro ys
      induction ys with
      | nil => exact Nat.le_refl _
      | cons y ys ih =>
        unfold uins
        split
        · exact Nat.le_refl _
        · split
          · rw [List.length_cons, List.length_cons]; omega
          · rw [List.length_cons]; omega
    have := usort_len (lt := lt) xs
    have := key (usort lt xs)
    show (uins lt x (usort lt xs)).length ≤ _
    rw [List.length_cons]
    omega
theorem usort_fix {α : Type} {lt : α → α → Bool} (h : STO lt) {xs : List α} (hp : xs.Pairwise fun a b => lt a b = true) : usort lt xs = xs := usort_uniq h (usort_pw h xs) hp fun z => usort_mem h
theorem usort_congr {α : Type} {lt : α → α → Bool} (h : STO lt) {xs ys : List α} (e : ∀ z, z ∈ xs ↔ z ∈ ys) : usort lt xs = usort lt ys := usort_uniq h (usort_pw h xs) (usort_pw h ys) fun z => (usort_mem h).trans ((e z).trans (usort_mem h).symm)
theorem isort_mem {α : Type} {lt : α → α → Bool} {z : α} {xs : List α} : z ∈ isort lt xs ↔ z ∈ xs := (isort_perm xs).mem_iff
/-- sorted of what is there once is the strictly ascending list -/
theorem isort_nodup {α : Type} {lt : α → α → Bool} (h : STO lt) {xs : List α} (hn : xs.Nodup) : isort lt xs = usort lt xs := by
  refine usort_uniq h ?_ (usort_pw h xs) fun z => isort_mem.trans (usort_mem h).symm
  have n := (isort_perm (lt := lt) xs).nodup_iff.mpr hn
  refine (n.and (isort_pw h xs)).imp fun {a b} ⟨h1, h2⟩ => ?_
  cases e : lt a b with
  | true => rfl
  | false => exact (h1 (h.tc _ _ e h2)).elim
/-! ### dicts -/
section
variable {κ β : Type} [DecidableEq κ]
theorem dset_keys {kvs : List (κ × β)} {k : κ} {v : β} : (dset kvs k v).map (·.1) = if k ∈ kvs.map (·.1) then kvs.map (·.1) else kvs.map (·.1) ++ [k] := by
  unfold dset
  split
  · rw [List.map_map]
    apply List.map_congr_left
    intro p _
    show (if p.1 = k then (p.1, v) else p).1 = p.1
    split <;> rfl
  · rw [List.map_append]; rfl
theorem dset_mem {kvs : List (κ × β)} {k z : κ} {v : β} : z ∈ (dset kvs k v).map (·.1) ↔ z ∈ kvs.map (·.1) ∨ z = k := by
  rw [dset_keys]
  split
  · rename_i h
    constructor
    · exact .inl
    · rintro (h2 | rfl)
      · exact h2
      · exact h
  · rw [List.mem_append, List.mem_singleton]
theorem dset_nodup {kvs : List (κ × β)} {k : κ} {v : β} (h : (kvs.map (·.1)).Nodup) : ((dset kvs k v).map (·.1)).Nodup := by
  rw [dset_keys]
  split
  · exact h
  · rename_i hn
    rw [List.nodup_append]
    exact ⟨h, by simp, fun a ha b hb e => hn (by rw [List.mem_singleton] at hb; rw [← hb, ← e]; exact ha)⟩
theorem dlk_cons {p : κ × β} {kvs : List (κ × β)} {k : κ} : dlk (p :: kvs) k = if p.1 = k then some p.2 else dlk kvs k := by
  unfold dlk
  by_cases h : p.1 = k
  · rw [if_pos h, List.find?_cons_of_pos (by simp [h])]; rfl
  · rw [if_neg h, List.find?_cons_of_neg (by simpa using h)]
theorem dlk_dpush {kvs : List (κ × List β)} {k z : κ} {v : β} : (dlk (dpush kvs k v) z).getD [] = (dlk kvs z).getD [] ++ (if z = k then [v] else []) := by
  induction kvs with
  | nil =>
    unfold dpush
    rw [dlk_cons]
    by_cases h : k = z
    · rw [if_pos h, if_pos h.symm]; rfl
    · rw [if_neg h, if_neg (fun e => h e.symm)]; rfl
  | cons p kvs ih =>
    unfold dpush
    by_cases h : p.1 = k
    · rw [if_pos h, dlk_cons, dlk_cons]
      by_cases h2 : p.1 = z
      · rw [if_pos h2, if_pos h2, if_pos (h2.symm.trans h)]; rfl
      · rw [if_neg h2, if_neg h2, if_neg (fun e => h2 (h.trans e.symm)), List.append_nil]
    · rw [if_neg h, dlk_cons, dlk_cons]
      by_cases h2 : p.1 = z
      · rw [if_pos h2, if_pos h2, if_neg (fun e => h (h2.trans e)), List.append_nil]
      · rw [if_neg h2, if_neg h2]
        exact ih
theorem dpush_keys {kvs : List (κ × List β)} {k : κ} {v : β} : (dpush kvs k v).map (·.1) = if k ∈ kvs.map (·.1) then kvs.map (·.1) else kvs.map (·.1) ++ [k] := by
  induction kvs with
  | nil => rfl
  | cons p kvs ih =>
    unfold dpush
    by_cases h : p.1 = k
    · rw [if_pos h, if_pos (by rw [← h]; exact List.mem_cons_self ..)]; rfl
    · rw [if_neg h, List.map_cons, ih, List.map_cons]
      by_cases h2 : k ∈ kvs.map (·.1)
      · rw [if_pos h2, if_pos (List.mem_cons_of_mem _ h2)]
      · rw [if_neg h2, if_neg (fun z => (List.mem_cons.mp z).elim (fun e => h e.symm) h2)]; rfl
theorem dpush_nodup {kvs : List (κ × List β)} {k : κ} {v : β} (h : (kvs.map (·.1)).Nodup) : ((dpush kvs k v).map (·.1)).Nodup := by
  rw [dpush_keys]
  split
  · exact h
  · rename_i hn
    rw [List.nodup_append]
    exact ⟨h, by simp, fun a ha b hb e => hn (by rw [List.mem_singleton] at hb; rw [← hb, ← e]; exact ha)⟩
theorem dlk_of_mem {kvs : List (κ × β)} (h : (kvs.map (·.1)).Nodup) {p : κ × β} (hp : p ∈ kvs) : dlk kvs p.1 = some p.2 := by
  induction kvs with
  | nil => cases hp
  | cons q kvs ih =>
    rw [List.map_cons, List.nodup_cons] at h
    rw [dlk_cons]
    rcases List.mem_cons.mp hp with rfl | hp
    · rw [if_pos rfl]
    · rw [if_neg (fun e => h.1 (by rw [e]; exact List.mem_map.mpr ⟨p, hp, rfl⟩))]
      exact ih h.2 hp
end
end AW

/-! Pm2: more plain tools. -/
namespace AW
open PySem PySem.Spec PyProof.Rows L2 Evl
section
variable {α β γ S R : Type}
theorem G_forOs {xs : List α} {s : S} {f : α → S → Option S} {Q : S → Prop} (I : List α → S → Prop) (h0 : I [] s) (st : ∀ pre x post s, xs = pre ++ x :: post → I pre s → G (f x s) fun s' => I (pre ++ [x]) s') (h : ∀ s, I xs s → Q s) : G (forO xs s f) Q := by
  have key : ∀ (ys pre : List α) (s : S), xs = pre ++ ys → I pre s → G (forO ys s f) Q := by
    intro ys
    induction ys with
    | nil => intro pre s e hi; exact Gs (h s (by rw [e, List.append_nil]; exact hi))
    | cons y ys ih =>
      intro pre s e hi
      exact Gb ((st pre y ys s e hi).imp fun s' hs => ih (pre ++ [y]) s' (by rw [e, List.append_assoc]; rfl) hs)
  exact key xs [] s rfl h0
theorem G_lcOs {xs : List α} {s : S} {f : α → S → Option (Option β × S)} {Q : List β × S → Prop} (I : List α → List β → S → Prop) (hl : xs.length ≤ 100000) (h0 : I [] [] s) (st : ∀ pre x post bs s, xs = pre ++ x :: post → I pre bs s → G (f x s) fun r => I (pre ++ [x]) (bs ++ r.1.toList) r.2) (h : ∀ bs s, I xs bs s → Q (bs, s)) : G (lcO xs s f) Q := by
  refine Gc hl ?_
  have key : ∀ (ys pre : List α) (bs : List β) (s : S), xs = pre ++ ys → I pre bs s → G (lcM ys s f) fun r => I xs (bs ++ r.1) r.2 := by
    intro ys
    induction ys with
    | nil => intro pre bs s e h; exact Gs (by rw [e, List.append_nil, List.append_nil]; exact h)
    | cons y ys ih =>
      intro pre bs s e hi
      refine Gb ((st pre y ys bs s e hi).imp fun r hr => ?_)
      refine Gb ((ih (pre ++ [y]) (bs ++ r.1.toList) r.2 (by rw [e, List.append_assoc]; rfl) hr).imp fun r2 h2 => ?_)
      refine Gs ?_
      rw [List.append_assoc] at h2
      exact h2
  exact (key xs [] [] s rfl h0).imp fun r hr => h r.1 r.2 hr
/-- a loop that looks for an item -/
theorem search {xs : List α} {f : α → Unit → Option (Lp Unit R)} {c : α → Bool} {r : R} (hf : ∀ x ∈ xs, f x () = some (if c x = true then .rt r else .nx ())) : forF xs () f = some (if xs.any c = true then .rt r else .nx ()) := by
  induction xs with
  | nil => rfl
  | cons x xs ih =>
    unfold forF
    rw [hf x (List.mem_cons_self ..), Option.bind_some, List.any_cons]
    cases e : c x with
    | true => rfl
    | false =>
      rw [if_neg Bool.false_ne_true, Bool.false_or]
      exact ih fun y hy => hf y (List.mem_cons_of_mem _ hy)
/-- the loop that drops what is equal to the one before -/
theorem asc_loop [DecidableEq α] {lt : α → α → Bool} (h : STO lt) (items : List α) (hl : items.length < 100000) : G (forO (isort lt items) ([] : List α) fun (x : α) (found : List α) =>
    (if (!(!found.isEmpty)) then some true else (atI found (-1)).bind fun v => some (!decide (v = x))).bind fun c => if c then chk (found.length < 100000) <| some (found ++ [x]) else some found) fun r => r = usort lt items := by
  have srt := isort_pw h items
  have hlen : (isort lt items).length = items.length := (isort_perm items).length_eq
  refine G_forOs (fun pre found => found.Pairwise (fun a b => lt a b = true) ∧ (∀ z, z ∈ found ↔ z ∈ pre) ∧ found.getLast? = pre.getLast? ∧ found.length ≤ pre.length) ⟨List.Pairwise.nil, fun z => Iff.rfl, rfl, Nat.le_refl _⟩ ?_ ?_
  · rintro pre x post found e ⟨h1, h2, h3, h4⟩
    have hx : ∀ y ∈ pre, lt x y = false := fun y hy => by
      rw [e, List.pairwise_append] at srt
      exact srt.2.2 y hy x (List.mem_cons_self ..)
    have hpl : pre.length < 100000 := by
      have := congrArg List.length e
      rw [hlen, List.length_append, List.length_cons] at this
      omega
    have push : (∀ y ∈ found, lt y x = true) → G (chk (found.length < 100000) <| some (found ++ [x])) fun s' => s'.Pairwise (fun a b => lt a b = true) ∧ (∀ z, z ∈ s' ↔ z ∈ pre ++ [x]) ∧ s'.getLast? = (pre ++ [x]).getLast? ∧ s'.length ≤ (pre ++ [x]).length := fun hp => by
      refine Gc (by omega) (Gs ⟨?_, fun z => ?_, by simp, by simp; exact h4⟩)
      · rw [List.pairwise_append]
        exact ⟨h1, by simp, fun a ha b hb => by rw [List.mem_singleton.mp hb]; exact hp a ha⟩
      · rw [List.mem_append, List.mem_append, h2]
    refine Gb ?_
    by_cases hf : found = []
    · refine Gt (by rw [hf]; rfl) (Gs (Gt rfl (push fun y hy => by rw [hf] at hy; cases hy)))
    · refine Gf (by cases found with
        | nil => exact (hf rfl).elim
        | cons a b => rfl) (Gb (G_last (fun v hv => Gs ?_) hf))
      have hv1 : v ∈ found := List.mem_of_getLast? hv
      by_cases hvx : v = x
      · refine Gf (by simp [hvx]) (Gs ⟨h1, fun z => ?_, ?_, by simp; omega⟩)
        · rw [List.mem_append, List.mem_singleton, h2]
          exact ⟨.inl, fun w => w.elim id fun w => by rw [w, ← hvx]; exact (h2 v).mp hv1⟩
        · rw [hv, hvx]; simp
      · refine Gt (by simp [hvx]) (push fun y hy => ?_)
        have hvx' : lt v x = true := by
          cases e2 : lt v x with
          | true => rfl
          | false => exact (hvx (h.tc _ _ e2 (hx v ((h2 v).mp hv1)))).elim
        have hfd : found = found.dropLast ++ [v] := by
          have := List.dropLast_concat_getLast hf
          have e3 : found.getLast hf = v := by
            have := List.getLast?_eq_some_getLast hf
            rw [hv] at this
            exact (Option.some.inj this).symm
          rw [e3] at this
          exact this.symm
        rw [hfd] at hy h1
        rw [List.pairwise_append] at h1
        rcases List.mem_append.mp hy with hy | hy
        · exact h.tr _ _ _ (h1.2.2 y hy v (List.mem_singleton.mpr rfl)) hvx'
        · rw [List.mem_singleton.mp hy]
          exact hvx'
  · rintro s ⟨h1, h2, _, _⟩
    exact usort_uniq h h1 (usort_pw h items) fun z => (h2 z).trans (isort_mem.trans (usort_mem h).symm)
theorem dpush_mem {κ : Type} [DecidableEq κ] {kvs : List (κ × List β)} {k : κ} {v : β} {p : κ × List β} (h : p ∈ dpush kvs k v) : p ∈ kvs ∨ (∃ q ∈ kvs, p = (q.1, q.2 ++ [v])) ∨ p = (k, [v]) := by
  induction kvs with
  | nil => exact .inr (.inr (List.mem_singleton.mp h))
  | cons q kvs ih =>
    unfold dpush at h
    by_cases e : q.1 = k
    · rw [if_pos e] at h
      rcases List.mem_cons.mp h with h | h
      · exact .inr (.inl ⟨q, List.mem_cons_self .., h⟩)
      · exact .inl (List.mem_cons_of_mem _ h)
    · rw [if_neg e] at h
      rcases List.mem_cons.mp h with h | h
      · exact .inl (by rw [h]; exact List.mem_cons_self ..)
      · rcases ih h with h | ⟨q', h1, h2⟩ | h
        · exact .inl (List.mem_cons_of_mem _ h)
        · exact .inr (.inl ⟨q', List.mem_cons_of_mem _ h1, h2⟩)
        · exact .inr (.inr h)
theorem dpush_len {κ : Type} [DecidableEq κ] {kvs : List (κ × List β)} {k : κ} {v : β} : (dpush kvs k v).length ≤ kvs.length + 1 := by
  induction kvs with
  | nil => exact Nat.le_refl _
  | cons q kvs ih =>
    unfold dpush
    split
    · rw [List.length_cons, List.length_cons]; omega
    · rw [List.length_cons, List.length_cons]; omega
end
/-! ### machines: what their edges say -/
abbrev E3 := Int × Int × Int
def tg (es : List E3) (a s : Int) : List Int := usort ltI ((es.filter fun e => decide (e.1 = a) && decide (e.2.1 = s)).map fun e => e.2.2)
def fstep (es : List E3) (s : Int) (X : List Int) : List Int := usort ltI (X.flatMap fun a => tg es a s)
/-- the states in which reading a row can end, ascending -/
def fol (es : List E3) (row : List Int) (X : List Int) : List Int := row.foldl (fun X s => fstep es s X) X
theorem tg_mem {es : List E3} {a s b : Int} : b ∈ tg es a s ↔ (a, s, b) ∈ es := by
  unfold tg
  rw [usort_mem sto_I, List.mem_map]
  constructor
  · rintro ⟨⟨x, y, z⟩, h1, rfl⟩
    rw [List.mem_filter] at h1
    obtain ⟨h1, h2⟩ := h1
    simp only [Bool.and_eq_true, decide_eq_true_eq] at h2
    rw [← h2.1, ← h2.2]
    exact h1
  · intro h
    exact ⟨(a, s, b), List.mem_filter.mpr ⟨h, by simp⟩, rfl⟩
theorem fstep_mem {es : List E3} {s b : Int} {X : List Int} : b ∈ fstep es s X ↔ ∃ a ∈ X, (a, s, b) ∈ es := by
  unfold fstep
  rw [usort_mem sto_I, List.mem_flatMap]
  exact ⟨fun ⟨a, h1, h2⟩ => ⟨a, h1, tg_mem.mp h2⟩, fun ⟨a, h1, h2⟩ => ⟨a, h1, tg_mem.mpr h2⟩⟩
structure Eok (es : List E3) : Prop where
  len : es.length < 64
  bd : ∀ e ∈ es, 0 ≤ e.1 ∧ e.1 < 1000 ∧ 0 ≤ e.2.1 ∧ e.2.1 < 1000 ∧ 0 ≤ e.2.2 ∧ e.2.2 < 60
theorem Eok.all {es : List E3} (h : Eok es) : es.all bd3 = true := List.all_eq_true.mpr fun e he => decide_eq_true (by have := h.bd e he; omega)
theorem tg_len {es : List E3} (h : Eok es) {a s : Int} : (tg es a s).length ≤ 60 :=
  nodup_len (n := 60) (usort_nodup sto_I _) fun x hx => by
    have := h.bd _ (tg_mem.mp hx)
    exact ⟨this.2.2.2.2.1, this.2.2.2.2.2⟩
theorem fstep_len {es : List E3} (h : Eok es) {s : Int} {X : List Int} : (fstep es s X).length ≤ 60 :=
  nodup_len (n := 60) (usort_nodup sto_I _) fun x hx => by
    obtain ⟨a, _, h2⟩ := fstep_mem.mp hx
    have := h.bd _ h2
    exact ⟨this.2.2.2.2.1, this.2.2.2.2.2⟩
theorem fol_len {es : List E3} (h : Eok es) {st : Int} : ∀ {row : List Int} {X : List Int}, X.length ≤ 60 → (fol es row X).length ≤ 60
  | [], X, hx => hx
  | s :: row, X, _ => fol_len h (row := row) (X := fstep es s X) (st := st) (fstep_len h)
theorem fol_snoc {es : List E3} {row : List Int} {s : Int} {X : List Int} : fol es (row ++ [s]) X = fstep es s (fol es row X) := by
  unfold fol
  rw [List.foldl_append]
  rfl
theorem fol_bd {es : List E3} (h : Eok es) : ∀ {row : List Int} {X : List Int}, (∀ x ∈ X, 0 ≤ x ∧ x < 1000) → ∀ x ∈ fol es row X, 0 ≤ x ∧ x < 1000
  | [], X, hx => hx
  | s :: row, X, _ => fol_bd h (row := row) (X := fstep es s X) fun x hx => by
    obtain ⟨a, _, h2⟩ := fstep_mem.mp hx
    have := h.bd _ h2
    have h3 : 0 ≤ x ∧ x < 60 := ⟨this.2.2.2.2.1, this.2.2.2.2.2⟩
    omega
/-- the group of an ascending list's edges -/
theorem grp_tg {es : List E3} {a s : Int} : ((usort ltT3 es).filter fun e => decide (e.1 = a) && decide (e.2.1 = s)).map (fun e => e.2.2) = tg es a s := by
  refine usort_uniq sto_I ?_ (usort_pw sto_I _) fun z => ?_
  · rw [List.pairwise_map]
    refine (List.Pairwise.filter _ (usort_pw sto_T3 es)).imp_of_mem fun {x y} hx hy h => ?_
    have hx2 := (List.mem_filter.mp hx).2
    have hy2 := (List.mem_filter.mp hy).2
    simp only [Bool.and_eq_true, decide_eq_true_eq] at hx2 hy2
    simp only [ltT3, ltT2, ltI, Bool.or_eq_true, Bool.and_eq_true, decide_eq_true_eq] at h ⊢
    rw [hx2.1, hy2.1, hx2.2, hy2.2] at h
    rcases h with h | ⟨_, h | ⟨_, h⟩⟩
    · omega
    · omega
    · exact h
  · unfold tg
    rw [usort_mem sto_I]
    constructor
    · intro h
      obtain ⟨e, he, rfl⟩ := List.mem_map.mp h
      rw [List.mem_filter, usort_mem sto_T3] at he
      exact List.mem_map.mpr ⟨e, List.mem_filter.mpr he, rfl⟩
    · intro h
      obtain ⟨e, he, rfl⟩ := List.mem_map.mp h
      rw [List.mem_filter] at he
      exact List.mem_map.mpr ⟨e, List.mem_filter.mpr ⟨(usort_mem sto_T3).mpr he.1, he.2⟩, rfl⟩
theorem irng_split {lo hi x : Int} {pre post : List Int} (h : irng lo hi = pre ++ x :: post) : x = lo + pre.length ∧ lo + pre.length < hi := by
  have h1 : (irng lo hi)[pre.length]? = some x := by rw [h]; exact get_mid
  have h2 : pre.length < (irng lo hi).length := (List.getElem?_eq_some_iff.mp h1).1
  rw [irng_len] at h2
  rw [irng_at h2] at h1
  exact ⟨(Option.some.inj h1).symm, by omega⟩
theorem irng_take {n : Nat} : irng 0 (n : Int) = (List.range n).map fun (k : Nat) => (k : Int) := by
  unfold irng
  rw [show ((n : Int) - 0).toNat = n by omega]
  apply List.map_congr_left
  intro k _
  omega
theorem atI_nn {α : Type} {xs : List α} {i : Int} {v : α} (h0 : 0 ≤ i) (h : xs[i.toNat]? = some v) : atI xs i = some v := atI_to h0 h
theorem cutX_dropLast {α : Type} (xs : List α) : cutX xs none (some (-1)) = xs.dropLast := by
  unfold cutX
  rw [HT.sIx_none, List.drop_zero, Nat.sub_zero, List.dropLast_eq_take]
  congr 1
  unfold HT.sIx
  show (if (-1 : Int) < 0 then ((-1 : Int) + (xs.length : Int)).toNat else min (-1 : Int).toNat xs.length) = _
  rw [if_pos (by decide)]
  omega
end AW

namespace K03
open PySem PySem.Spec PyProof.Rows L2 Evl AW
def top (i : Nat) : Stmt := PySem.Challenge.pw_whatledhere_k03_machine_accepts.main.body.getD i (.Pass ⟨0, 0, 0, 0⟩)
abbrev s_Machine_init : Stmt := inClass (top 1) 0
abbrev s_Machine_targets : Stmt := inClass (top 1) 1
abbrev s_Machine_follow : Stmt := inClass (top 1) 2
abbrev s_Machine_accepts : Stmt := inClass (top 1) 3
abbrev s_is_clean : Stmt := top 2
abbrev s_is_deterministic : Stmt := top 3
abbrev s_single : Stmt := top 4
abbrev s__law_pool : Stmt := top 6
abbrev s__law_next : Stmt := top 7
abbrev s__law_same : Stmt := top 8
abbrev s__law_ascending : Stmt := top 9
abbrev s__law_targets : Stmt := top 10
abbrev s__law_follow : Stmt := top 11
abbrev s__law_forked : Stmt := top 12
abbrev s__law_looks : Stmt := top 13
abbrev s__law_single : Stmt := top 14
abbrev s_law : Stmt := top 15
def fa : List He.Fa := [.glo "is_clean", .glo "is_deterministic", .glo "single", .glo "_law_pool", .glo "_law_next", .glo "_law_same", .glo "_law_ascending", .glo "_law_targets", .glo "_law_follow", .glo "_law_forked", .glo "_law_looks", .glo "_law_single", .glo "law", .glo "Machine", .cls "Machine", .mkr "Machine", .noat "Machine" "worlds", .noat "Machine" "states", .noat "Machine" "edges", .noat "Machine" "finals", .noat "Machine" "by_start", .meth "Machine" "targets", .meth "Machine" "follow", .meth "Machine" "accepts", .free "abs", .free "all", .free "int", .free "len", .free "list", .free "min", .free "range", .free "repr", .free "set", .free "sorted", .free "tuple"]
def d_Machine_init : He.DefD := ⟨("Machine", some "__init__"), "__init__", "Machine.__init__", defArgs s_Machine_init, defBody s_Machine_init, defScope s_Machine_init, [], []⟩
def d_Machine_targets : He.DefD := ⟨("Machine", some "targets"), "targets", "Machine.targets", defArgs s_Machine_targets, defBody s_Machine_targets, defScope s_Machine_targets, [], []⟩
def d_Machine_follow : He.DefD := ⟨("Machine", some "follow"), "follow", "Machine.follow", defArgs s_Machine_follow, defBody s_Machine_follow, defScope s_Machine_follow, [], []⟩
def d_Machine_accepts : He.DefD := ⟨("Machine", some "accepts"), "accepts", "Machine.accepts", defArgs s_Machine_accepts, defBody s_Machine_accepts, defScope s_Machine_accepts, [], []⟩
def d_is_clean : He.DefD := ⟨("is_clean", none), "is_clean", "is_clean", defArgs s_is_clean, defBody s_is_clean, defScope s_is_clean, [], []⟩
def d_is_deterministic : He.DefD := ⟨("is_deterministic", none), "is_deterministic", "is_deterministic", defArgs s_is_deterministic, defBody s_is_deterministic, defScope s_is_deterministic, [], []⟩
def d_single : He.DefD := ⟨("single", none), "single", "single", defArgs s_single, defBody s_single, defScope s_single, [], []⟩
def d__law_pool : He.DefD := ⟨("_law_pool", none), "_law_pool", "_law_pool", defArgs s__law_pool, defBody s__law_pool, defScope s__law_pool, [], []⟩
def d__law_next : He.DefD := ⟨("_law_next", none), "_law_next", "_law_next", defArgs s__law_next, defBody s__law_next, defScope s__law_next, [], []⟩
def d__law_same : He.DefD := ⟨("_law_same", none), "_law_same", "_law_same", defArgs s__law_same, defBody s__law_same, defScope s__law_same, [], []⟩
def d__law_ascending : He.DefD := ⟨("_law_ascending", none), "_law_ascending", "_law_ascending", defArgs s__law_ascending, defBody s__law_ascending, defScope s__law_ascending, [], []⟩
def d__law_targets : He.DefD := ⟨("_law_targets", none), "_law_targets", "_law_targets", defArgs s__law_targets, defBody s__law_targets, defScope s__law_targets, [], []⟩
def d__law_follow : He.DefD := ⟨("_law_follow", none), "_law_follow", "_law_follow", defArgs s__law_follow, defBody s__law_follow, defScope s__law_follow, [], []⟩
def d__law_forked : He.DefD := ⟨("_law_forked", none), "_law_forked", "_law_forked", defArgs s__law_forked, defBody s__law_forked, defScope s__law_forked, [], []⟩
def d__law_looks : He.DefD := ⟨("_law_looks", none), "_law_looks", "_law_looks", defArgs s__law_looks, defBody s__law_looks, defScope s__law_looks, [], []⟩
def d__law_single : He.DefD := ⟨("_law_single", none), "_law_single", "_law_single", defArgs s__law_single, defBody s__law_single, defScope s__law_single, [], []⟩
def d_law : He.DefD := ⟨("law", none), "law", "law", defArgs s_law, defBody s_law, defScope s_law, [], []⟩
def fn : List He.DefD := [d_Machine_init, d_Machine_targets, d_Machine_follow, d_Machine_accepts, d_is_clean, d_is_deterministic, d_single, d__law_pool, d__law_next, d__law_same, d__law_ascending, d__law_targets, d__law_follow, d__law_forked, d__law_looks, d__law_single, d_law]
structure Top (K : PySem.W.Frag) (mg : Str → Option Value) where
  g_abs : mg "abs" = none
  g_all : mg "all" = none
  g_int : mg "int" = none
  g_len : mg "len" = none
  g_list : mg "list" = none
  g_min : mg "min" = none
  g_range : mg "range" = none
  g_repr : mg "repr" = none
  g_set : mg "set" = none
  g_sorted : mg "sorted" = none
  g_tuple : mg "tuple" = none
  fd_Machine_init : FuncData
  F_Machine_init : FunD K "__init__" "Machine.__init__" (defArgs s_Machine_init) (defBody s_Machine_init) (defScope s_Machine_init) [] [] (He.ma K (He.ga K "Machine") "__init__") fd_Machine_init
  fd_Machine_targets : FuncData
  F_Machine_targets : FunD K "targets" "Machine.targets" (defArgs s_Machine_targets) (defBody s_Machine_targets) (defScope s_Machine_targets) [] [] (He.ma K (He.ga K "Machine") "targets") fd_Machine_targets
  fd_Machine_follow : FuncData
  F_Machine_follow : FunD K "follow" "Machine.follow" (defArgs s_Machine_follow) (defBody s_Machine_follow) (defScope s_Machine_follow) [] [] (He.ma K (He.ga K "Machine") "follow") fd_Machine_follow
  fd_Machine_accepts : FuncData
  F_Machine_accepts : FunD K "accepts" "Machine.accepts" (defArgs s_Machine_accepts) (defBody s_Machine_accepts) (defScope s_Machine_accepts) [] [] (He.ma K (He.ga K "Machine") "accepts") fd_Machine_accepts
  m_is_clean : mg "is_clean" = some (.ref (He.ga K "is_clean"))
  fd_is_clean : FuncData
  F_is_clean : FunD K "is_clean" "is_clean" (defArgs s_is_clean) (defBody s_is_clean) (defScope s_is_clean) [] [] (He.ga K "is_clean") fd_is_clean
  m_is_deterministic : mg "is_deterministic" = some (.ref (He.ga K "is_deterministic"))
  fd_is_deterministic : FuncData
  F_is_deterministic : FunD K "is_deterministic" "is_deterministic" (defArgs s_is_deterministic) (defBody s_is_deterministic) (defScope s_is_deterministic) [] [] (He.ga K "is_deterministic") fd_is_deterministic
  m_single : mg "single" = some (.ref (He.ga K "single"))
  fd_single : FuncData
  F_single : FunD K "single" "single" (defArgs s_single) (defBody s_single) (defScope s_single) [] [] (He.ga K "single") fd_single
  m__law_pool : mg "_law_pool" = some (.ref (He.ga K "_law_pool"))
  fd__law_pool : FuncData
  F__law_pool : FunD K "_law_pool" "_law_pool" (defArgs s__law_pool) (defBody s__law_pool) (defScope s__law_pool) [] [] (He.ga K "_law_pool") fd__law_pool
  m__law_next : mg "_law_next" = some (.ref (He.ga K "_law_next"))
  fd__law_next : FuncData
  F__law_next : FunD K "_law_next" "_law_next" (defArgs s__law_next) (defBody s__law_next) (defScope s__law_next) [] [] (He.ga K "_law_next") fd__law_next
  m__law_same : mg "_law_same" = some (.ref (He.ga K "_law_same"))
  fd__law_same : FuncData
  F__law_same : FunD K "_law_same" "_law_same" (defArgs s__law_same) (defBody s__law_same) (defScope s__law_same) [] [] (He.ga K "_law_same") fd__law_same
  m__law_ascending : mg "_law_ascending" = some (.ref (He.ga K "_law_ascending"))
  fd__law_ascending : FuncData
  F__law_ascending : FunD K "_law_ascending" "_law_ascending" (defArgs s__law_ascending) (defBody s__law_ascending) (defScope s__law_ascending) [] [] (He.ga K "_law_ascending") fd__law_ascending
  m__law_targets : mg "_law_targets" = some (.ref (He.ga K "_law_targets"))
  fd__law_targets : FuncData
  F__law_targets : FunD K "_law_targets" "_law_targets" (defArgs s__law_targets) (defBody s__law_targets) (defScope s__law_targets) [] [] (He.ga K "_law_targets") fd__law_targets
  m__law_follow : mg "_law_follow" = some (.ref (He.ga K "_law_follow"))
  fd__law_follow : FuncData
  F__law_follow : FunD K "_law_follow" "_law_follow" (defArgs s__law_follow) (defBody s__law_follow) (defScope s__law_follow) [] [] (He.ga K "_law_follow") fd__law_follow
  m__law_forked : mg "_law_forked" = some (.ref (He.ga K "_law_forked"))
  fd__law_forked : FuncData
  F__law_forked : FunD K "_law_forked" "_law_forked" (defArgs s__law_forked) (defBody s__law_forked) (defScope s__law_forked) [] [] (He.ga K "_law_forked") fd__law_forked
  m__law_looks : mg "_law_looks" = some (.ref (He.ga K "_law_looks"))
  fd__law_looks : FuncData
  F__law_looks : FunD K "_law_looks" "_law_looks" (defArgs s__law_looks) (defBody s__law_looks) (defScope s__law_looks) [] [] (He.ga K "_law_looks") fd__law_looks
  m__law_single : mg "_law_single" = some (.ref (He.ga K "_law_single"))
  fd__law_single : FuncData
  F__law_single : FunD K "_law_single" "_law_single" (defArgs s__law_single) (defBody s__law_single) (defScope s__law_single) [] [] (He.ga K "_law_single") fd__law_single
  m_law : mg "law" = some (.ref (He.ga K "law"))
  fd_law : FuncData
  F_law : FunD K "law" "law" (defArgs s_law) (defBody s_law) (defScope s_law) [] [] (He.ga K "law") fd_law
  m_Machine : mg "Machine" = some (.ref (He.ga K "Machine"))
  cl_Machine : Cls K (He.ga K "Machine")
  mk_Machine : Mk K (He.ga K "Machine") (He.ma K (He.ga K "Machine") "__init__")
  na_Machine_worlds : NoAttr K (He.ga K "Machine") "worlds"
  na_Machine_states : NoAttr K (He.ga K "Machine") "states"
  na_Machine_edges : NoAttr K (He.ga K "Machine") "edges"
  na_Machine_finals : NoAttr K (He.ga K "Machine") "finals"
  na_Machine_by_start : NoAttr K (He.ga K "Machine") "by_start"
  me_Machine_targets : Meth K (He.ga K "Machine") "targets" (He.ma K (He.ga K "Machine") "targets")
  me_Machine_follow : Meth K (He.ga K "Machine") "follow" (He.ma K (He.ga K "Machine") "follow")
  me_Machine_accepts : Meth K (He.ga K "Machine") "accepts" (He.ma K (He.ga K "Machine") "accepts")
theorem top_of {K : PySem.W.Frag} {h : Heap} {mg : Str → Option Value} (X : K.In h) (G : h.Ns mainGlobals mg) (c : He.SaysD fa fn K) : Nonempty (Top K mg) := by
  obtain ⟨fd_Machine_init, F_Machine_init⟩ := c.def_ 0 (d := d_Machine_init) rfl
  obtain ⟨fd_Machine_targets, F_Machine_targets⟩ := c.def_ 1 (d := d_Machine_targets) rfl
  obtain ⟨fd_Machine_follow, F_Machine_follow⟩ := c.def_ 2 (d := d_Machine_follow) rfl
  obtain ⟨fd_Machine_accepts, F_Machine_accepts⟩ := c.def_ 3 (d := d_Machine_accepts) rfl
  obtain ⟨fd_is_clean, F_is_clean⟩ := c.def_ 4 (d := d_is_clean) rfl
  obtain ⟨fd_is_deterministic, F_is_deterministic⟩ := c.def_ 5 (d := d_is_deterministic) rfl
  obtain ⟨fd_single, F_single⟩ := c.def_ 6 (d := d_single) rfl
  obtain ⟨fd__law_pool, F__law_pool⟩ := c.def_ 7 (d := d__law_pool) rfl
  obtain ⟨fd__law_next, F__law_next⟩ := c.def_ 8 (d := d__law_next) rfl
  obtain ⟨fd__law_same, F__law_same⟩ := c.def_ 9 (d := d__law_same) rfl
  obtain ⟨fd__law_ascending, F__law_ascending⟩ := c.def_ 10 (d := d__law_ascending) rfl
  obtain ⟨fd__law_targets, F__law_targets⟩ := c.def_ 11 (d := d__law_targets) rfl
  obtain ⟨fd__law_follow, F__law_follow⟩ := c.def_ 12 (d := d__law_follow) rfl
  obtain ⟨fd__law_forked, F__law_forked⟩ := c.def_ 13 (d := d__law_forked) rfl
  obtain ⟨fd__law_looks, F__law_looks⟩ := c.def_ 14 (d := d__law_looks) rfl
  obtain ⟨fd__law_single, F__law_single⟩ := c.def_ 15 (d := d__law_single) rfl
  obtain ⟨fd_law, F_law⟩ := c.def_ 16 (d := d_law) rfl
  exact ⟨⟨He.free_ok X G (c.fact 24 (f := .free "abs") rfl),
    He.free_ok X G (c.fact 25 (f := .free "all") rfl),
    He.free_ok X G (c.fact 26 (f := .free "int") rfl),
    He.free_ok X G (c.fact 27 (f := .free "len") rfl),
    He.free_ok X G (c.fact 28 (f := .free "list") rfl),
    He.free_ok X G (c.fact 29 (f := .free "min") rfl),
    He.free_ok X G (c.fact 30 (f := .free "range") rfl),
    He.free_ok X G (c.fact 31 (f := .free "repr") rfl),
    He.free_ok X G (c.fact 32 (f := .free "set") rfl),
    He.free_ok X G (c.fact 33 (f := .free "sorted") rfl),
    He.free_ok X G (c.fact 34 (f := .free "tuple") rfl),
    fd_Machine_init,
    F_Machine_init,
    fd_Machine_targets,
    F_Machine_targets,
    fd_Machine_follow,
    F_Machine_follow,
    fd_Machine_accepts,
    F_Machine_accepts,
    He.glo_ok X G (c.fact 0 (f := .glo "is_clean") rfl),
    fd_is_clean,
    F_is_clean,
    He.glo_ok X G (c.fact 1 (f := .glo "is_deterministic") rfl),
    fd_is_deterministic,
    F_is_deterministic,
    He.glo_ok X G (c.fact 2 (f := .glo "single") rfl),
    fd_single,
    F_single,
    He.glo_ok X G (c.fact 3 (f := .glo "_law_pool") rfl),
    fd__law_pool,
    F__law_pool,
    He.glo_ok X G (c.fact 4 (f := .glo "_law_next") rfl),
    fd__law_next,
    F__law_next,
    He.glo_ok X G (c.fact 5 (f := .glo "_law_same") rfl),
    fd__law_same,
    F__law_same,
    He.glo_ok X G (c.fact 6 (f := .glo "_law_ascending") rfl),
    fd__law_ascending,
    F__law_ascending,
    He.glo_ok X G (c.fact 7 (f := .glo "_law_targets") rfl),
    fd__law_targets,
    F__law_targets,
    He.glo_ok X G (c.fact 8 (f := .glo "_law_follow") rfl),
    fd__law_follow,
    F__law_follow,
    He.glo_ok X G (c.fact 9 (f := .glo "_law_forked") rfl),
    fd__law_forked,
    F__law_forked,
    He.glo_ok X G (c.fact 10 (f := .glo "_law_looks") rfl),
    fd__law_looks,
    F__law_looks,
    He.glo_ok X G (c.fact 11 (f := .glo "_law_single") rfl),
    fd__law_single,
    F__law_single,
    He.glo_ok X G (c.fact 12 (f := .glo "law") rfl),
    fd_law,
    F_law,
    He.glo_ok X G (c.fact 13 (f := .glo "Machine") rfl),
    He.cls_ok (c.fact 14 (f := .cls "Machine") rfl),
    He.mkr_ok (c.fact 15 (f := .mkr "Machine") rfl),
    He.noat_ok (c.fact 16 (f := .noat "Machine" "worlds") rfl),
    He.noat_ok (c.fact 17 (f := .noat "Machine" "states") rfl),
    He.noat_ok (c.fact 18 (f := .noat "Machine" "edges") rfl),
    He.noat_ok (c.fact 19 (f := .noat "Machine" "finals") rfl),
    He.noat_ok (c.fact 20 (f := .noat "Machine" "by_start") rfl),
    He.meth_ok (c.fact 21 (f := .meth "Machine" "targets") rfl),
    He.meth_ok (c.fact 22 (f := .meth "Machine" "follow") rfl),
    He.meth_ok (c.fact 23 (f := .meth "Machine" "accepts") rfl)⟩⟩
local macro_rules | `(tactic| walk_at "slots") => `(tactic| simp only [slots, foot_cons, foot_nil, List.map_cons, List.map_nil, List.length_cons, List.length_nil, List.cons_append, List.nil_append, Nat.reduceAdd, Nat.reduceSub, List.replicate_succ, List.replicate_zero, List.replicate])
local macro_rules | `(tactic| walk_at "red") => `(tactic| (try simp only [List.set_cons_succ, List.set_cons_zero, List.eraseIdx_cons_succ, List.eraseIdx_cons_zero, wipeD, news, List.map_nil, List.nil_append, ↓reduceIte]))
local macro_rules | `(tactic| walk_at "lv") => `(tactic| first | with_reducible exact .f _ | with_reducible exact .r _ | exact .own 0 rfl | exact .own 1 rfl | exact .own 2 rfl | exact .own 3 rfl | assumption)
local macro_rules | `(tactic| walk_at "ar") => `(tactic| first | assumption | omega | decide)
local macro_rules | `(tactic| walk_at "len") => `(tactic| (simp only [List.length_map, List.length_append, List.length_cons, List.length_nil]; omega))
local macro_rules | `(tactic| walk_at "e1") => `(tactic| first
  | ((with_reducible apply ae_var); (case h => rfl)) | with_reducible refine ae_int ?_ | with_reducible refine ae_bl ?_ | with_reducible refine ae_str ?_ | with_reducible refine ae_non ?_ | with_reducible refine ae_op ?_ | with_reducible refine ae_un ?_ | with_reducible refine aa_cons ?_ | with_reducible refine aa_nil ?_
  | with_reducible refine ae_cb ?_ | with_reducible refine at_test ?_ | with_reducible refine at_tru ?_ | with_reducible refine at_and ?_ | with_reducible refine at_or ?_ | with_reducible refine at_not ?_ | with_reducible refine at_yes ?_
  | with_reducible refine ae_tup ?_ | with_reducible refine ae_if ?_ | with_reducible refine ae_andT ?_ | with_reducible refine ae_orT ?_ | with_reducible refine ae_notT ?_ | with_reducible refine ae_sl ?_ | with_reducible refine ao_none ?_ | with_reducible refine ao_some ?_ | with_reducible refine ae_bmL ?_ | with_reducible refine ae_bm0L ?_
  | with_reducible refine rd_add ?_ | with_reducible refine rd_sub ?_ | with_reducible refine rd_lt ?_ | with_reducible refine rd_le ?_ | with_reducible refine rd_gt ?_ | with_reducible refine rd_ge ?_ | with_reducible refine rd_eqI ?_ | with_reducible refine rd_neI ?_ | with_reducible refine ru_neg ?_
  | with_reducible refine rc_int ?_ | with_reducible refine rc_intB ?_ | with_reducible refine rc_abs ?_ | with_reducible refine rc_min2 ?_
  | ((with_reducible refine rd_mod ?ha ?_); (case ha => walk_at "ar")) | ((with_reducible refine rd_pow ?ha ?_); (case ha => exact ⟨by decide, by decide, by decide⟩)) | ((with_reducible refine rd_div ?ha ?_); (case ha => exact ⟨by decide, by decide⟩))
  | with_reducible refine rc_lenT ?_ | ((with_reducible apply rc_lenL); (case l => walk_at "lv"))
  | with_reducible refine ⟨_, tru_bl, ?_⟩ | with_reducible refine ⟨_, tru_non, ?_⟩ | with_reducible refine ⟨_, tru_int, ?_⟩ | with_reducible refine ⟨_, tru_tup, ?_⟩ | ((with_reducible apply tru_listE); (case l => walk_at "lv"))
  | ((with_reducible apply lvE); (case l => walk_at "lv")) | with_reducible refine ⟨_, rfl, ?_⟩
  | ((with_reducible apply rm_append 0); (case hj => rfl); (case hl => walk_at "len")) | ((with_reducible apply rm_append 1); (case hj => rfl); (case hl => walk_at "len")) | ((with_reducible apply rm_append 2); (case hj => rfl); (case hl => walk_at "len"))
  | ((with_reducible refine And.intro (?hl : List.length _ ≤ 100000) ?_); (case hl => walk_at "len"))
  | with_reducible refine as_seq ?_ | with_reducible refine as_asg ?_ | with_reducible refine as_ret ?_ | with_reducible refine as_retN ?_ | with_reducible refine as_drop ?_ | with_reducible refine as_if ?_ | with_reducible refine as_next ?_ | with_reducible refine as_brk ?_ | with_reducible refine as_cont ?_)
local macro_rules | `(tactic| walk_at "e") => `(tactic| repeat (walk_at "e1" <;> walk_at "red"))
local macro_rules | `(tactic| walk_at "next") => `(tactic| (walk_at "e"; refine ⟨rfl, _, _, _, rfl, rfl, ?hn, ?_⟩; (case hn => walk_at "ar")))
local macro_rules | `(tactic| walk_at "nx") => `(tactic| (refine ⟨_, rfl, ?_⟩; walk_at "red"))
local macro_rules | `(tactic| walk_at "wipe") => `(tactic| skip)

abbrev e3 := eT3 D.int D.int D.int
structure MMachine where
  worlds : Int
  states : Int
  edges : List (Int × Int × Int)
  finals : List Int
  by_start : List ((Int × Int) × List Int)
abbrev fMachine : List Str := ["worlds", "states", "edges", "finals", "by_start"]
abbrev oMachine (K : PySem.W.Frag) (m : MMachine) : OB := .ins (He.ga K "Machine") fMachine [.int m.worlds, .int m.states, .lst (m.edges.map e3), .lst (m.finals.map .int), eT kT2 (eL D.int) m.by_start]
abbrev eMachine (K : PySem.W.Frag) (m : MMachine) : D := .ins (He.ga K "Machine") fMachine [.int m.worlds, .int m.states, .lst (m.edges.map e3), .lst (m.finals.map .int), eT kT2 (eL D.int) m.by_start]
section
variable {P : Program} {w : World} {K : PySem.W.Frag} {mg : Str → Option Value} {base : Heap}
abbrev con_pool : Con0 := fun dd T P PX => dd.length = 2 ∧ ∃ (ns : List Int) (many : Int), dd = [.frl (ns.map .int), .int many] ∧ T = [] ∧ 0 ≤ many ∧ many ≤ 5000 ∧ ∀ (a : Addr) (ns' : List Int), P (.adr a) [] [(a, .lst (ns'.map .int))]
theorem sc__law_pool : FnScope ["script", "many", "pool", "seed", "k", "cell", "j"] ["script", "many"] (defScope s__law_pool) := ⟨rfl, rfl, rfl, by decide +kernel, rfl, by decide +kernel, by decide +kernel⟩
theorem bi__law_pool {K : PySem.W.Frag} {mg : Str → Option Value} (T : Top K mg) : Binds K T.fd__law_pool ["script", "many"] [] := T.F__law_pool.bindsN fun _ _ _ _ _ _ us hl => match us, hl with | [_, _], _ => rfl
def t__law_pool (K : PySem.W.Frag) : TS := (tSeq (tAsg (tLst tNil) (gName 2)) (tSeq (tAsg (tC (.int 77017)) (gName 3)) (tSeq (tFor (iRng1 (tCons (tCB rMin2 (tCons (tCB (rLenU K) (tCons (tVar 0) tNil)) (tCons (tC (.int 63)) tNil))) tNil)) (gName 4) (tSeq (tAsg (tCB rAbs (tCons (tOp (rIx K) (tVar 0) (tVar 4)) tNil)) (gName 5)) (tSeq (tAsg (tOp rMod (tCB rInt1 (tCons (tOp (rAdd K) (tOp (rAdd K) (tOp (rAdd K) (tOp (rMul K) (tVar 3) (tC (.int 48271))) (tVar 5)) (tVar 4)) (tC (.int 1))) tNil)) (tC (.int 2147483647))) (gName 3)) (tIfS (tTest (tOp rGe (tVar 5) (tOp rPow (tC (.int 10)) (tC (.int 18))))) (tFor (iRng1 (tCons (tC (.int 60)) tNil)) (gName 6) (tIfS (tTest (tOp rGt (tVar 5) (tC (.int 0)))) (tSeq (tDrop (tBM K "list" rAppend (tVar 2) (tCons (tOp rMod (tCB rInt1 (tCons (tVar 5) tNil)) (tC (.int 1000))) tNil))) (tAsg (tOp rDiv (tVar 5) (tC (.int 1000))) (gName 5))) tNext)) (tSeq (tDrop (tBM K "list" rAppend (tVar 2) (tCons (tOp rMod (tCB rInt1 (tCons (tOp (rAdd K) (tOp (rMul K) (tVar 5) (tC (.int 69621))) (tVar 3)) tNil)) (tC (.int 999983))) tNil))) (tDrop (tBM K "list" rAppend (tVar 2) (tCons (tOp rMod (tCB rInt1 (tCons (tVar 3) tNil)) (tC (.int 999979))) tNil)))))))) (tSeq (tFor (iRng1 (tCons (tVar 1) tNil)) (gName 6) (tIfS (tTest (tOp rLt (tCB (rLenU K) (tCons (tVar 2) tNil)) (tVar 1))) (tSeq (tAsg (tOp rMod (tCB rInt1 (tCons (tOp (rAdd K) (tOp (rMul K) (tVar 3) (tC (.int 48271))) (tC (.int 11))) tNil)) (tC (.int 2147483647))) (gName 3)) (tDrop (tBM K "list" rAppend (tVar 2) (tCons (tOp rMod (tCB rInt1 (tCons (tVar 3) tNil)) (tC (.int 999983))) tNil)))) tNext)) (tRet (tRevL K (tVar 2)))))))
theorem ok__law_pool (T : Top K mg) : FnG P w K mg base CX0 1 (He.ga K "_law_pool") T.fd__law_pool ["script", "many"] (spA K con_pool) := by
  refine okG T.F__law_pool sc__law_pool (spA_ln fun _ _ _ _ h => h.1) (fun cdv A ou s H vs Q E gu hr h => ⟨t__law_pool K , ?_, body h fun F dd Tf P PX hA hl hx => ?_⟩)
  · have hu := hr.units
    have hu5 := hu5_of hr
    have hu1 := hu_of hr
    exact PSs.nox (pss_cons (ps_set (i := 2) sc__law_pool.nd rfl (by first | exact Or.inl rfl | exact Or.inr rfl) (pe_lst pa_nil)) (pss_cons (ps_set (i := 3) sc__law_pool.nd rfl (by first | exact Or.inl rfl | exact Or.inr rfl) pe_int) (pss_cons (ps_for PassesOwn.never rfl (pi_range1 rfl T.g_range (pa_cons (pe_callB (call_min2 rfl) (by rfl) T.g_min (by decide +kernel) (pa_cons (pe_callB call_len_seq (by rfl) T.g_len boot_len (pa_cons (pv 0) pa_nil)) (pa_cons pe_int pa_nil))) pa_nil)) (pg_name (i := 4) sc__law_pool.nd rfl (by first | exact Or.inl rfl | exact Or.inr rfl)) (pss_cons (ps_set (i := 5) sc__law_pool.nd rfl (by first | exact Or.inl rfl | exact Or.inr rfl) (pe_callB call_abs (by rfl) T.g_abs (by decide +kernel) (pa_cons (pe_ix ix_seq (pv 0) (pv 4) (fun _ _ => rfl)) pa_nil))) (pss_cons (ps_set (i := 3) sc__law_pool.nd rfl (by first | exact Or.inl rfl | exact Or.inr rfl) (pe_op op_mod (pe_callTy call_int1 (by rfl) T.g_int (by decide +kernel) (pa_cons (pe_op opAdd (pe_op opAdd (pe_op opAdd (pe_op opMul (pv 3) pe_int) (pv 5)) (pv 4)) pe_int) pa_nil)) pe_int)) (pss_one (ps_if (pt_cmpR op_ge (pv 5) (pe_op op_pow pe_int pe_int) (by rfl)) (pss_one (ps_for PassesOwn.never rfl (pi_range1 rfl T.g_range (pa_cons pe_int pa_nil)) (pg_name (i := 6) sc__law_pool.nd rfl (by first | exact Or.inl rfl | exact Or.inr rfl)) (pss_one (ps_if (pt_cmpR op_gt (pv 5) pe_int (by rfl)) (pss_cons (ps_expr (pe_bm PySem.F.plainAttrs_list PySem.F.slot_list_append PySem.F.type_list_append mt_append (pv 2) (pa_cons (pe_op op_mod (pe_callTy call_int1 (by rfl) T.g_int (by decide +kernel) (pa_cons (pv 5) pa_nil)) pe_int) pa_nil))) (pss_one (ps_set (i := 5) sc__law_pool.nd rfl (by first | exact Or.inl rfl | exact Or.inr rfl) (pe_op op_fdiv (pv 5) pe_int)))) pss_nil)))) (pss_cons (ps_expr (pe_bm PySem.F.plainAttrs_list PySem.F.slot_list_append PySem.F.type_list_append mt_append (pv 2) (pa_cons (pe_op op_mod (pe_callTy call_int1 (by rfl) T.g_int (by decide +kernel) (pa_cons (pe_op opAdd (pe_op opMul (pv 5) pe_int) (pv 3)) pa_nil)) pe_int) pa_nil))) (pss_one (ps_expr (pe_bm PySem.F.plainAttrs_list PySem.F.slot_list_append PySem.F.type_list_append mt_append (pv 2) (pa_cons (pe_op op_mod (pe_callTy call_int1 (by rfl) T.g_int (by decide +kernel) (pa_cons (pv 3) pa_nil)) pe_int) pa_nil)))))))))) (pss_cons (ps_for PassesOwn.never rfl (pi_range1 rfl T.g_range (pa_cons (pv 1) pa_nil)) (pg_name (i := 6) sc__law_pool.nd rfl (by first | exact Or.inl rfl | exact Or.inr rfl)) (pss_one (ps_if (pt_cmpR op_lt (pe_callB call_len_seq (by rfl) T.g_len boot_len (pa_cons (pv 2) pa_nil)) (pv 1) (by rfl)) (pss_cons (ps_set (i := 3) sc__law_pool.nd rfl (by first | exact Or.inl rfl | exact Or.inr rfl) (pe_op op_mod (pe_callTy call_int1 (by rfl) T.g_int (by decide +kernel) (pa_cons (pe_op opAdd (pe_op opMul (pv 3) pe_int) pe_int) pa_nil)) pe_int)) (pss_one (ps_expr (pe_bm PySem.F.plainAttrs_list PySem.F.slot_list_append PySem.F.type_list_append mt_append (pv 2) (pa_cons (pe_op op_mod (pe_callTy call_int1 (by rfl) T.g_int (by decide +kernel) (pa_cons (pv 3) pa_nil)) pe_int) pa_nil))))) pss_nil))) (pss_one (ps_ret (pe_revL (pv 2))))))))
  · unfold t__law_pool
    obtain ⟨_, ns, many, rfl, rfl, hm0, hm, hP⟩ := hA
    walk_at "slots"
    walk_at "e"
    refine ae_lstO (aa_nil ⟨by decide, fun a => ?_⟩)
    walk_at "red"
    walk_at "e"
    refine as_forR (is := [4]) ?_
    walk_at "e"
    have hlen : min ((ns.length : Nat) : Int) 63 ≤ ns.length ∧ 0 ≤ min ((ns.length : Nat) : Int) 63 := by omega
    simp only [List.length_map]
    refine ⟨by omega, fun i ds T => ∃ (ps : List Int) (seed : Int) (v4 v5 v6 : Option D), ds = [some (.frl (ns.map .int)), some (.int many), some (.adr a), some (.int seed), v4, v5, v6] ∧ T = [⟨a, true, .lst (ps.map .int)⟩] ∧ ps.length ≤ 60 * i ∧ 0 ≤ seed ∧ seed < 2147483647, ?_, ?_, ?_⟩
    · exact ⟨[], 77017, none, none, none, rfl, rfl, by simp, by decide, by decide⟩
    · rintro i ds' T' hi ⟨ps, seed, v4, v5, v6, rfl, rfl, hl, hs0, hs1⟩
      have hi2 : i < ns.length := by omega
      have hi3 : i < 63 := by omega
      refine ag_name ?_
      walk_at "red"
      walk_at "e"
      refine rd_ixL (.r _) (d := .int ns[i]) (atI_of (by rw [List.getElem?_map, List.getElem?_eq_getElem hi2]; rfl)) ?_
      walk_at "e"
      refine rd_mul (cmul64 (by omega) (by decide)) ?_
      walk_at "e"
      refine ⟨fun hb => ?_, fun hb => ?_⟩
      · refine as_forR (is := [6]) ?_
        walk_at "e"
        refine ⟨by decide, fun k ds T => ∃ (ps' : List Int) (cell seed : Int) (v4 v6 : Option D), ds = [some (.frl (ns.map .int)), some (.int many), some (.adr a), some (.int seed), v4, some (.int cell), v6] ∧ T = [⟨a, true, .lst (ps'.map .int)⟩] ∧ ps'.length ≤ 60 * i + k ∧ 0 ≤ seed ∧ seed < 2147483647, ?_, ?_, ?_⟩
        · exact ⟨ps, _, _, _, _, rfl, rfl, hl, Int.emod_nonneg _ (by decide), Int.emod_lt_of_pos _ (by decide)⟩
        · rintro k ds' T' hk ⟨ps', cell, seed', v4', v6', rfl, rfl, hl', hs0', hs1'⟩
          refine ag_name ?_
          walk_at "red"
          walk_at "e"
          have hk2 : k < 60 := hk
          refine ⟨fun hb => ?_, fun hb => ?_⟩
          · walk_at "e"
            exact ⟨ps' ++ [cell % 1000], _, _, _, _, rfl, by rw [List.map_append]; rfl, by rw [List.length_append]; simp only [List.length_cons, List.length_nil]; omega, hs0', hs1'⟩
          · walk_at "e"
            exact ⟨ps', _, _, _, _, rfl, rfl, by omega, hs0', hs1'⟩
        · rintro ds' T' ⟨ps', cell, seed', v4', v6', rfl, rfl, hl', hs0', hs1'⟩
          exact ⟨ps', _, _, _, _, rfl, rfl, by have : Int.toNat 60 = 60 := rfl; omega, hs0', hs1'⟩
      · walk_at "e"
        have hb2 := of_decide_eq_false hb
        have e18 : (10 : Int) ^ Int.toNat 18 = 1000000000000000000 := by decide
        rw [e18] at hb2
        refine rd_mul (cmul64 (by omega) (by decide)) ?_
        walk_at "e"
        refine ⟨ps ++ [_] ++ [_], _, _, _, _, rfl, by rw [List.map_append, List.map_append]; rfl, by simp only [List.length_append, List.length_cons, List.length_nil]; omega, Int.emod_nonneg _ (by decide), Int.emod_lt_of_pos _ (by decide)⟩
    · rintro ds' T' ⟨ps, seed, v4, v5, v6, rfl, rfl, hl, hs0, hs1⟩
      walk_at "e"
      refine as_forR (is := [6]) ?_
      walk_at "e"
      refine ⟨by omega, fun k ds T => ∃ (ps' : List Int) (seed : Int) (v4 v5 v6 : Option D), ds = [some (.frl (ns.map .int)), some (.int many), some (.adr a), some (.int seed), v4, v5, v6] ∧ T = [⟨a, true, .lst (ps'.map .int)⟩] ∧ ps'.length ≤ 4000 + k ∧ 0 ≤ seed ∧ seed < 2147483647, ?_, ?_, ?_⟩
      · exact ⟨ps, _, _, _, _, rfl, rfl, by omega, hs0, hs1⟩
      · rintro k ds' T' hk ⟨ps', seed', v4', v5', v6', rfl, rfl, hl', hs0', hs1'⟩
        refine ag_name ?_
        walk_at "red"
        walk_at "e"
        refine ⟨fun hb => ?_, fun hb => ?_⟩
        · walk_at "e"
          refine rd_mul (cmul64 (by omega) (by decide)) ?_
          walk_at "e"
          exact ⟨ps' ++ [_], _, _, _, _, rfl, by rw [List.map_append]; rfl, by simp only [List.length_append, List.length_cons, List.length_nil]; omega, Int.emod_nonneg _ (by decide), Int.emod_lt_of_pos _ (by decide)⟩
        · walk_at "e"
          exact ⟨ps', _, _, _, _, rfl, rfl, by omega, hs0', hs1'⟩
      · rintro ds' T' ⟨ps', seed', v4', v5', v6', rfl, rfl, hl', hs0', hs1'⟩
        walk_at "e"
        refine ae_revLO ?_
        walk_at "e"
        refine ⟨_, .own 0 rfl, fun b => ?_⟩
        rw [← List.map_reverse]
        exact retN (hP b _) (List.mem_cons_self ..)
theorem sc__law_same : FnScope ["actual", "expected"] ["actual", "expected"] (defScope s__law_same) := ⟨rfl, rfl, rfl, by decide +kernel, rfl, by decide +kernel, by decide +kernel⟩
theorem bi__law_same {K : PySem.W.Frag} {mg : Str → Option Value} (T : Top K mg) : Binds K T.fd__law_same ["actual", "expected"] [] := T.F__law_same.bindsN fun _ _ _ _ _ _ us hl => match us, hl with | [_, _], _ => rfl
def t__law_same (K : PySem.W.Frag) : TS := (tRet (tAndT K (tOp (rEqU K) (tVar 0) (tVar 1)) (tOp (rEqU K) (tCB (rRepr K) (tCons (tVar 0) tNil)) (tCB (rRepr K) (tCons (tVar 1) tNil)))))
theorem ok__law_same (T : Top K mg) : FnG P w K mg base CX0 1 (He.ga K "_law_same") T.fd__law_same ["actual", "expected"] (spA K (con_same3 K)) := by
  refine okG T.F__law_same sc__law_same (spA_ln fun _ _ _ _ h => h.1) (fun cdv A ou s H vs Q E gu hr h => ⟨t__law_same K , ?_, body h fun F dd Tf P PX hA hl hx => ?_⟩)
  · have hu := hr.units
    have hu5 := hu5_of hr
    have hu1 := hu_of hr
    exact PSs.nox (pss_one (ps_ret (pe_andT (pe_cmpR (opEq hu) (pv 0) (pv 1) (by rfl)) (pe_one (pe_cmpR (opEq hu) (pe_callB (call_repr gu hu) (by rfl) T.g_repr (by decide +kernel) (pa_cons (pv 0) pa_nil)) (pe_callB (call_repr gu hu) (by rfl) T.g_repr (by decide +kernel) (pa_cons (pv 1) pa_nil)) (by rfl))))))
  · unfold t__law_same
    obtain ⟨_, α, _, e, n, d1, d2, x, y, pl, rfl, v1, v2, hG⟩ := hA
    obtain ⟨⟨ok1, ok2⟩, hG⟩ := gchk hG
    have hG := gsome hG
    have f1 := okR_fit ok1
    have f2 := okR_fit ok2
    walk_at "slots"
    walk_at "e"
    refine rd_eqS2 v1 v2 (f1.shaped (by decide)) (f2.shaped (by decide)) ?_
    walk_at "e"
    rw [pl.eq]
    refine ⟨fun hb => ?_, fun hb => ?_⟩
    · have hxy := of_decide_eq_true hb
      subst hxy
      walk_at "e"
      refine rc_reprS v1 f1.s f1.c f1.d (f1.shown (by decide)) ?_
      walk_at "e"
      refine rc_reprS v2 f1.s f1.c f1.d (f1.shown (by decide)) ?_
      refine rd_eqS ?_
      rw [hb] at hG
      exact retT hG fun e he => he
    · exact retT hG fun e he => he
end



def m_Machine_init (worlds_1 : Int) (states_1 : Int) (edges_1 : (List (Int × Int × Int))) (finals_1 : (List Int)) : Option MMachine :=
  chk (edges_1.length < 64 ∧ edges_1.all bd3 = true) <|
  chk (finals_1.length < 64) <|
  (forO (usort ltT3 edges_1) ([] : (List ((Int × Int) × (List Int)))) fun ((a_2, s_3, b_1) : (Int × Int × Int)) (selfby_start_1 : (List ((Int × Int) × (List Int)))) =>
  chk (selfby_start_1.length < 100000 ∧ selfby_start_1.all (fun p => decide (p.2.length < 100000)) = true) <|
  some (dpush selfby_start_1 (a_2, s_3) b_1)).bind fun selfby_start_2 =>
  some ⟨worlds_1, states_1, (usort ltT3 edges_1), (usort ltI finals_1), selfby_start_2⟩
abbrev con_Machine_init (K : PySem.W.Frag) : Con0 := fun dd T P PX => dd.length = 5 ∧ ∃ (am_1 : Addr) (worlds_1 : Int) (states_1 : Int) (dv_1 : D) (edges_1 : (List (Int × Int × Int))) (dv_2 : D) (finals_1 : (List Int)) (R_ : Foot), dd = [.adr am_1, D.int worlds_1, D.int states_1, dv_1, dv_2] ∧ T = (am_1, .ins (He.ga K "Machine") [] []) :: R_ ∧ LV (foot R_) dv_1 (edges_1.map (eT3 D.int D.int D.int)) ∧ LV (foot R_) dv_2 (finals_1.map D.int) ∧ G (m_Machine_init worlds_1 states_1 edges_1 finals_1) fun r => P .non (oMachine K r :: R_.map (·.2)) []
section
variable {P : Program} {w : World} {K : PySem.W.Frag} {mg : Str → Option Value} {base : Heap}
theorem sc_Machine_init : FnScope ["self", "worlds", "states", "edges", "finals", "a", "s", "b"] ["self", "worlds", "states", "edges", "finals"] (defScope s_Machine_init) := ⟨rfl, rfl, rfl, by decide +kernel, rfl, by decide +kernel, by decide +kernel⟩
theorem bi_Machine_init {K : PySem.W.Frag} {mg : Str → Option Value} (T : Top K mg) : Binds K T.fd_Machine_init ["self", "worlds", "states", "edges", "finals"] [] := T.F_Machine_init.bindsN fun _ _ _ _ _ _ us hl => match us, hl with | [_, _, _, _, _], _ => rfl
def t_Machine_init (K : PySem.W.Frag) (P : Program) (w : World) : TS := (tSeq (sFld K (tVar 0) (tVar 1) "worlds") (tSeq (sFld K (tVar 0) (tVar 2) "states") (tSeq (sFld K (tVar 0) (tCB (rSortedT K P w) (tCons (tCB (rSetOfT K P w) (tCons (tVar 3) tNil)) tNil)) "edges") (tSeq (sFld K (tVar 0) (tCB (rSortedSet w) (tCons (tCB (rSetOfI K w) (tCons (tVar 4) tNil)) tNil)) "finals") (tSeq (sFld K (tVar 0) tDNewT "by_start") (tFor (iU K (tFld K (tVar 0) "edges")) (gTup K 3 (gCons (gName 5) (gCons (gName 6) (gCons (gName 7) gNil)))) (tDrop (tBM K "list" rAppend (tSetdT (tFld K (tVar 0) "by_start") (tTup (tCons (tVar 5) (tCons (tVar 6) tNil))) (tLst tNil)) (tCons (tVar 7) tNil)))))))))
theorem ok_Machine_init (T : Top K mg) : FnG P w K mg base CX0 1 (He.ma K (He.ga K "Machine") "__init__") T.fd_Machine_init ["self", "worlds", "states", "edges", "finals"] (spA K (con_Machine_init K)) := by
  refine okG T.F_Machine_init sc_Machine_init (spA_ln fun _ _ _ _ h => h.1) (fun cdv A ou s H vs Q E gu hr h => ⟨t_Machine_init K P w , ?_, body h fun F dd Tf P PX hA hl hx => ?_⟩)
  · have hu := hr.units
    have hu5 := hu5_of hr
    have hu1 := hu_of hr
    exact PSs.nox (pss_cons (ps_fld (pv 0) (pv 1) rfl) (pss_cons (ps_fld (pv 0) (pv 2) rfl) (pss_cons (ps_fld (pv 0) (pe_callB (cr_sortedT rfl) (by rfl) T.g_sorted (by decide +kernel) (pa_cons (pe_callTy (cr_setOfT rfl hu) (by rfl) T.g_set (by decide +kernel) (pa_cons (pv 3) pa_nil)) pa_nil)) rfl) (pss_cons (ps_fld (pv 0) (pe_callB (cr_sortedSet rfl) (by rfl) T.g_sorted (by decide +kernel) (pa_cons (pe_callTy (cr_setOfI rfl) (by rfl) T.g_set (by decide +kernel) (pa_cons (pv 4) pa_nil)) pa_nil)) rfl) (pss_cons (ps_fld (pv 0) pe_dnewT rfl) (pss_one (ps_for PassesOwn.never rfl (pi_u (pe_fld (pv 0) rfl)) (pg_tup rfl (pgs_cons (pg_name (i := 5) sc_Machine_init.nd rfl (by first | exact Or.inl rfl | exact Or.inr rfl)) (pgs_cons (pg_name (i := 6) sc_Machine_init.nd rfl (by first | exact Or.inl rfl | exact Or.inr rfl)) (pgs_cons (pg_name (i := 7) sc_Machine_init.nd rfl (by first | exact Or.inl rfl | exact Or.inr rfl)) pgs_nil)))) (pss_one (ps_expr (pe_bm PySem.F.plainAttrs_list PySem.F.slot_list_append PySem.F.type_list_append mt_append (pe_setdT hu1 (pe_fld (pv 0) rfl) (pe_tup (pa_cons (pv 5) (pa_cons (pv 6) pa_nil))) (pe_lst pa_nil) ⟨rfl, rfl, rfl, rfl⟩) (pa_cons (pv 7) pa_nil)))))))))))
  · unfold t_Machine_init
    obtain ⟨_, am_1, worlds_1, states_1, dv_1, edges_1, dv_2, finals_1, R_, rfl, rfl, hv_1, hv_2, hG⟩ := hA
    walk_at "slots"
    unfold m_Machine_init at hG
    refine as_endA ?_
    refine as_seq (as_fld T.cl_Machine T.na_Machine_worlds (ae_var rfl (ae_var rfl ⟨_, 0, _, _, _, rfl, rfl, by decide, by decide, ?_⟩)))
    walk_at "red"
    refine as_seq (as_fld T.cl_Machine T.na_Machine_states (ae_var rfl (ae_var rfl ⟨_, 0, _, _, _, rfl, rfl, by decide, by decide, ?_⟩)))
    walk_at "red"
    refine as_seq (as_fld T.cl_Machine T.na_Machine_edges (ae_sortSet3 (aa_cons (ae_var rfl (aa_nil ?_)))))
    obtain ⟨hc, hG⟩ := gchk hG
    refine ⟨_, edges_1, rfl, hv_1.w, hc.1, hc.2, ae_var rfl ⟨_, 0, _, _, _, rfl, rfl, by decide, by decide, ?_⟩⟩
    walk_at "red"
    refine as_seq (as_fld T.cl_Machine T.na_Machine_finals (ae_sortSet1 (aa_cons (ae_var rfl (aa_nil ?_)))))
    obtain ⟨hc, hG⟩ := gchk hG
    refine ⟨_, finals_1, rfl, hv_2.w, hc, ae_var rfl ⟨_, 0, _, _, _, rfl, rfl, by decide, by decide, ?_⟩⟩
    walk_at "red"
    refine as_seq (as_fld T.cl_Machine T.na_Machine_by_start (ae_newT fun a_1 =>  (ae_var rfl ⟨_, 1, _, _, _, rfl, rfl, by decide, by decide, ?_⟩)))
    walk_at "red"
    refine as_sb (L := ⟨am_1, false, .ins (He.ga K "Machine") ["worlds", "states", "edges", "finals", "by_start"] [D.int worlds_1, D.int states_1, (eL (eT3 D.int D.int D.int)) (usort ltT3 edges_1), (eL D.int) (usort ltI finals_1), .adr a_1]⟩ :: (dlG a_1 true kT2 D.int ([] : (List ((Int × Int) × (List Int)))) [] ++ foot R_)) (Sb.grp0 (a := a_1) (kt := kT2) (e := D.int) (es := [⟨am_1, false, .ins (He.ga K "Machine") ["worlds", "states", "edges", "finals", "by_start"] [D.int worlds_1, D.int states_1, (eL (eT3 D.int D.int D.int)) (usort ltT3 edges_1), (eL D.int) (usort ltI finals_1), .adr a_1]⟩]) (post := foot R_) (by first | rfl | simp only [List.cons_append, List.nil_append, List.append_assoc]) (by first | rfl | simp only [List.cons_append, List.nil_append, List.append_assoc])) ?_
    refine for_LO (is := [5, 6, 7]) (ae_fld T.cl_Machine T.na_Machine_edges (ae_var rfl ⟨_, .ow 0 rfl rfl, ?_⟩))
    refine ⟨_, _, _, (eT3 D.int D.int D.int), _, _, _, fun (s_1 : (List ((Int × Int) × (List Int)))) (ds_ : Sls) (T_ : Tb) => ∃ (as_1 : List Addr) (wx_1 : Option D) (wx_2 : Option D) (wx_3 : Option D), as_1.length = s_1.length ∧ ds_ = [some (.adr am_1), some (D.int worlds_1), some (D.int states_1), some dv_1, some dv_2, wx_1, wx_2, wx_3] ∧ Sb (⟨am_1, false, .ins (He.ga K "Machine") ["worlds", "states", "edges", "finals", "by_start"] [D.int worlds_1, D.int states_1, (eL (eT3 D.int D.int D.int)) (usort ltT3 edges_1), (eL D.int) (usort ltI finals_1), .adr a_1]⟩ :: (dlG a_1 true kT2 D.int s_1 as_1 ++ foot R_)) T_, gbind hG, (.f _), ⟨_, _, _, _, rfl, rfl, Sb.r _⟩, (fun _ _ _ _ => .f _), ?_, ?_⟩
    · intro x_1 hx_1
      rintro selfby_start_1 M_1 hG _ _ ⟨as_1, wx_1, wx_2, wx_3, hl_1, rfl, hs_1⟩
      refine ag_sbS hs_1 ?_
      obtain ⟨a_2, s_3, b_1⟩ := x_1
      refine ag_tup rfl (ags_cons (ag_name (ags_cons (ag_name (ags_cons (ag_name (ags_nil ?_)))))))
      walk_at "red"
      refine as_drop ?_
      obtain ⟨hc, hG⟩ := gchk hG
      refine ae_grp (mk := fun X_ => ⟨am_1, false, .ins (He.ga K "Machine") ["worlds", "states", "edges", "finals", "by_start"] [D.int worlds_1, D.int states_1, (eL (eT3 D.int D.int D.int)) (usort ltT3 edges_1), (eL D.int) (usort ltI finals_1), .adr a_1]⟩ :: (X_ ++ foot R_)) (pre := [⟨am_1, false, .ins (He.ga K "Machine") ["worlds", "states", "edges", "finals", "by_start"] [D.int worlds_1, D.int states_1, (eL (eT3 D.int D.int D.int)) (usort ltT3 edges_1), (eL D.int) (usort ltI finals_1), .adr a_1]⟩]) (post := foot R_) (k := (a_2, s_3)) (v := b_1) kT2_inj (fun X => by simp only [List.cons_append, List.nil_append, List.append_assoc]) hl_1 hc.1 (all_len hc.2) (ae_fld T.cl_Machine T.na_Machine_by_start (ae_var rfl ⟨_, .ow 0 rfl rfl, ⟨rfl, rfl⟩⟩)) (ae_tup (aa_cons (ae_var rfl (aa_cons (ae_var rfl (aa_nil ⟨Nat.le_of_ble_eq_true rfl, ⟨rfl, rfl⟩⟩)))))) (fun _ => ae_var rfl ⟨rfl, rfl⟩) fun as_2 hl_2 => ?_
      walk_at "red"
      have hR := gsome hG
      exact ⟨(dpush selfby_start_1 (a_2, s_3) b_1), hR, _, _, _, _, hl_2, rfl, Sb.r _⟩
    rintro selfby_start_2 hG _ _ ⟨as_1, wx_1, wx_2, wx_3, hl_3, rfl, hs_2⟩
    refine as_sb hs_2 ?_
    refine as_frzGI (pre := [⟨am_1, false, .ins (He.ga K "Machine") ["worlds", "states", "edges", "finals", "by_start"] [D.int worlds_1, D.int states_1, (eL (eT3 D.int D.int D.int)) (usort ltT3 edges_1), (eL D.int) (usort ltI finals_1), .adr a_1]⟩]) (post := foot R_) (j := 0) (f := 4) hl_3 (by first | rfl | simp only [List.cons_append, List.nil_append, List.append_assoc]) rfl rfl ?_
    walk_at "red"
    have hR := gsome hG
    exact as_next (retM hR (List.mem_cons_self ..) (fun e he => (List.mem_cons_of_mem _ he)))
end

def m__law_next (pool_1 : (List Int)) (limit_1 : Int) : Option (Int × (List Int)) :=
  if (!(!pool_1.isEmpty)) then
  some (0, pool_1)
  else
  (pool_1.getLast?).bind fun v_1 =>
  chk (0 < limit_1) <|
  some ((v_1 % limit_1), pool_1.dropLast)
abbrev con__law_next (K : PySem.W.Frag) : Con0 := fun dd T P PX => dd.length = 2 ∧ ∃ (am_1 : Addr) (pool_1 : (List Int)) (limit_1 : Int) (R_ : Foot), dd = [.adr am_1, D.int limit_1] ∧ T = (am_1, (.lst (pool_1.map D.int))) :: R_ ∧ G (m__law_next pool_1 limit_1) fun r => P (D.int r.1) ((.lst (r.2.map D.int)) :: R_.map (·.2)) []
section
variable {P : Program} {w : World} {K : PySem.W.Frag} {mg : Str → Option Value} {base : Heap}
theorem sc__law_next : FnScope ["pool", "limit"] ["pool", "limit"] (defScope s__law_next) := ⟨rfl, rfl, rfl, by decide +kernel, rfl, by decide +kernel, by decide +kernel⟩
theorem bi__law_next {K : PySem.W.Frag} {mg : Str → Option Value} (T : Top K mg) : Binds K T.fd__law_next ["pool", "limit"] [] := T.F__law_next.bindsN fun _ _ _ _ _ _ us hl => match us, hl with | [_, _], _ => rfl
def t__law_next (K : PySem.W.Frag) : TS := (tSeq (tIfS (tNot (tTru K (tVar 0))) (tRet (tC (.int 0))) tNext) (tRet (tOp rMod (tCB rInt1 (tCons (tBM0 K "list" rPop (tVar 0)) tNil)) (tVar 1))))
theorem ok__law_next (T : Top K mg) : FnG P w K mg base CX0 1 (He.ga K "_law_next") T.fd__law_next ["pool", "limit"] (spA K (con__law_next K)) := by
  refine okG T.F__law_next sc__law_next (spA_ln fun _ _ _ _ h => h.1) (fun cdv A ou s H vs Q E gu hr h => ⟨t__law_next K , ?_, body h fun F dd Tf P PX hA hl hx => ?_⟩)
  · have hu := hr.units
    have hu5 := hu5_of hr
    have hu1 := hu_of hr
    exact PSs.nox (pss_cons (ps_if (pt_not (ptT (pv 0) (by intro _; rfl))) (pss_one (ps_ret pe_int)) pss_nil) (pss_one (ps_ret (pe_op op_mod (pe_callTy call_int1 (by rfl) T.g_int (by decide +kernel) (pa_cons (pe_bm0 PySem.F.plainAttrs_list PySem.F.slot_list_pop PySem.F.type_list_pop mt_pop (pv 0)) pa_nil)) (pv 1)))))
  · unfold t__law_next
    obtain ⟨_, am_1, pool_1, limit_1, R_, rfl, rfl, hG⟩ := hA
    walk_at "slots"
    unfold m__law_next at hG
    refine as_seq (as_if (atp (!(!pool_1.isEmpty)) (at_notP (at_tru (ae_var rfl (tru_LM (xs := pool_1) (e := D.int) (.own 0 rfl) ⟨rfl, rfl⟩)))) ?_))
    refine ⟨fun hb => ?_, fun hb => ?_⟩
    · replace hG := gif_t hG hb
      refine as_ret (ae_int ?_)
      have hR := gsome hG
      exact retM (hR) (List.mem_cons_self ..) (fun e he => (List.mem_cons_of_mem _ he))
    · replace hG := gif_f hG hb
      refine as_next ?_
      refine as_ret (ae_op (ae_cb (aa_cons (ae_bm0L (ae_var rfl ⟨⟨_, (.own 0 rfl)⟩, ?_⟩)))))
      obtain ⟨v_1, e_1, hG⟩ := gbind hG
      refine rm_popM (xs := pool_1) (e := D.int) 0 rfl e_1 (aa_nil (rc_int (ae_var rfl ?_)))
      obtain ⟨hc, hG⟩ := gchk hG
      refine rd_mod hc ?_
      have hR := gsome hG
      exact retM (hR) (List.mem_cons_self ..) (fun e he => (List.mem_cons_of_mem _ he))
end

def m_Machine_targets (self_1 : MMachine) (state_1 : Int) (frame_1 : Int) : Option (List Int) :=
  some ((dlk self_1.by_start (state_1, frame_1)).getD ([] : List Int))
abbrev con_Machine_targets (K : PySem.W.Frag) : Con0 := fun dd T P PX => dd.length = 3 ∧ ∃ (self_1 : MMachine) (state_1 : Int) (frame_1 : Int), dd = [(eMachine K) self_1, D.int state_1, D.int frame_1] ∧ G (m_Machine_targets self_1 state_1 frame_1) fun r => ∀ a, P (.adr a) (T.map (·.2)) [(a, (.lst (r.map D.int)))]
section
variable {P : Program} {w : World} {K : PySem.W.Frag} {mg : Str → Option Value} {base : Heap}
theorem sc_Machine_targets : FnScope ["self", "state", "frame"] ["self", "state", "frame"] (defScope s_Machine_targets) := ⟨rfl, rfl, rfl, by decide +kernel, rfl, by decide +kernel, by decide +kernel⟩
theorem bi_Machine_targets {K : PySem.W.Frag} {mg : Str → Option Value} (T : Top K mg) : Binds K T.fd_Machine_targets ["self", "state", "frame"] [] := T.F_Machine_targets.bindsN fun _ _ _ _ _ _ us hl => match us, hl with | [_, _, _], _ => rfl
def t_Machine_targets (K : PySem.W.Frag) : TS := (tRet (tCB (rListU K) (tCons (tDGet2 (tFld K (tVar 0) "by_start") (tTup (tCons (tVar 1) (tCons (tVar 2) tNil))) (tLst tNil)) tNil)))
theorem ok_Machine_targets (T : Top K mg) : FnG P w K mg base CX0 1 (He.ma K (He.ga K "Machine") "targets") T.fd_Machine_targets ["self", "state", "frame"] (spA K (con_Machine_targets K)) := by
  refine okG T.F_Machine_targets sc_Machine_targets (spA_ln fun _ _ _ _ h => h.1) (fun cdv A ou s H vs Q E gu hr h => ⟨t_Machine_targets K , ?_, body h fun F dd Tf P PX hA hl hx => ?_⟩)
  · have hu := hr.units
    have hu5 := hu5_of hr
    have hu1 := hu_of hr
    exact PSs.nox (pss_one (ps_ret (pe_callTy call_list_of (by rfl) T.g_list (by decide +kernel) (pa_cons (pe_dget2 hu1 (pe_fld (pv 0) rfl) (pe_tup (pa_cons (pv 1) (pa_cons (pv 2) pa_nil))) (pe_lst pa_nil) ⟨rfl, rfl, rfl, rfl⟩) pa_nil))))
  · unfold t_Machine_targets
    obtain ⟨_, self_1, state_1, frame_1, rfl, hG⟩ := hA
    walk_at "slots"
    unfold m_Machine_targets at hG
    refine as_ret (ae_cb (aa_cons (ae_get2TM (ae_fld T.cl_Machine T.na_Machine_by_start (ae_var rfl ⟨_, .f (by rfl), ⟨⟨_, _, .f _ _⟩, ae_tup (aa_cons (ae_var rfl (aa_cons (ae_var rfl (aa_nil ⟨Nat.le_of_ble_eq_true rfl, ae_lst (aa_nil ⟨Nat.le_of_ble_eq_true rfl, ⟨_, _, inferInstance, kT2, (eL D.int), self_1.by_start, (state_1, frame_1), ([] : List Int), kT2_inj, rfl, rfl, .f _ _, aa_nil (rc_listLO (xs := ((dlk self_1.by_start (state_1, frame_1)).getD ([] : List Int)).map D.int) (.f _) fun a_1 => ?_)⟩⟩)⟩)))))⟩⟩)))))
    have hR := gsome hG
    exact retTN (hR _) (fun e he => (List.mem_cons_of_mem _ he)) (List.mem_cons_self ..)
end

def m_Machine_follow (self_1 : MMachine) (state_1 : Int) (row_1 : (List Int)) : Option (List Int) :=
  (forO row_1 [state_1] fun (x_1 : Int) (reached_1 : (List Int)) =>
  (forO reached_1 ([] : (List (Int × Bool))) fun (x_2 : Int) (found_1 : (List (Int × Bool))) =>
  (forO ((dlk self_1.by_start (x_2, x_1)).getD ([] : List Int)) found_1 fun (x_3 : Int) (found_2 : (List (Int × Bool))) =>
  chk (found_2.length < 100000) <|
  some (dset found_2 x_3 true)).bind fun found_3 =>
  some found_3).bind fun found_4 =>
  chk (found_4.length < 64) <|
  some (isort ltI (found_4.map (·.1)))).bind fun reached_2 =>
  some reached_2
abbrev con_Machine_follow (K : PySem.W.Frag) : Con0 := fun dd T P PX => dd.length = 3 ∧ ∃ (self_1 : MMachine) (state_1 : Int) (row_1 : (List Int)), dd = [(eMachine K) self_1, D.int state_1, (eTL D.int) row_1] ∧ G (m_Machine_follow self_1 state_1 row_1) fun r => ∀ a, P (.adr a) (T.map (·.2)) [(a, (.lst (r.map D.int)))]
section
variable {P : Program} {w : World} {K : PySem.W.Frag} {mg : Str → Option Value} {base : Heap}
theorem sc_Machine_follow : FnScope ["self", "state", "row", "reached", "frame", "found", "a", "b"] ["self", "state", "row"] (defScope s_Machine_follow) := ⟨rfl, rfl, rfl, by decide +kernel, rfl, by decide +kernel, by decide +kernel⟩
theorem bi_Machine_follow {K : PySem.W.Frag} {mg : Str → Option Value} (T : Top K mg) : Binds K T.fd_Machine_follow ["self", "state", "row"] [] := T.F_Machine_follow.bindsN fun _ _ _ _ _ _ us hl => match us, hl with | [_, _, _], _ => rfl
def t_Machine_follow (K : PySem.W.Frag) : TS := (tSeq (tAsg (tLst (tCons (tVar 1) tNil)) (gName 3)) (tSeq (tFor (iU K (tVar 2)) (gName 4) (tSeq (tAsg tDNewK (gName 5)) (tSeq (tFor (iU K (tVar 3)) (gName 6) (tFor (iU K (tDGet2 (tFld K (tVar 0) "by_start") (tTup (tCons (tVar 6) (tCons (tVar 4) tNil))) (tLst tNil))) (gName 7) (sDPut (tVar 5) (tVar 7) (tC (.bl true))))) (tAsg (tCB (rSortA K) (tCons (tVar 5) tNil)) (gName 3))))) (tRet (tVar 3))))
theorem ok_Machine_follow (T : Top K mg) : FnG P w K mg base CX0 1 (He.ma K (He.ga K "Machine") "follow") T.fd_Machine_follow ["self", "state", "row"] (spA K (con_Machine_follow K)) := by
  refine okG T.F_Machine_follow sc_Machine_follow (spA_ln fun _ _ _ _ h => h.1) (fun cdv A ou s H vs Q E gu hr h => ⟨t_Machine_follow K , ?_, body h fun F dd Tf P PX hA hl hx => ?_⟩)
  · have hu := hr.units
    have hu5 := hu5_of hr
    have hu1 := hu_of hr
    exact PSs.nox (pss_cons (ps_set (i := 3) sc_Machine_follow.nd rfl (by first | exact Or.inl rfl | exact Or.inr rfl) (pe_lst (pa_cons (pv 1) pa_nil))) (pss_cons (ps_for PassesOwn.never rfl (pi_u (pv 2)) (pg_name (i := 4) sc_Machine_follow.nd rfl (by first | exact Or.inl rfl | exact Or.inr rfl)) (pss_cons (ps_set (i := 5) sc_Machine_follow.nd rfl (by first | exact Or.inl rfl | exact Or.inr rfl) pe_dnewK) (pss_cons (ps_for PassesOwn.never rfl (pi_u (pv 3)) (pg_name (i := 6) sc_Machine_follow.nd rfl (by first | exact Or.inl rfl | exact Or.inr rfl)) (pss_one (ps_for PassesOwn.never rfl (pi_u (pe_dget2 hu1 (pe_fld (pv 0) rfl) (pe_tup (pa_cons (pv 6) (pa_cons (pv 4) pa_nil))) (pe_lst pa_nil) ⟨rfl, rfl, rfl, rfl⟩)) (pg_name (i := 7) sc_Machine_follow.nd rfl (by first | exact Or.inl rfl | exact Or.inr rfl)) (pss_one (ps_dput hu1 (pv 5) (pv 7) pe_bl rfl))))) (pss_one (ps_set (i := 3) sc_Machine_follow.nd rfl (by first | exact Or.inl rfl | exact Or.inr rfl) (pe_callB (cr_sortA rfl) (by rfl) T.g_sorted (by decide +kernel) (pa_cons (pv 5) pa_nil))))))) (pss_one (ps_ret (pv 3)))))
  · unfold t_Machine_follow
    obtain ⟨_, self_1, state_1, row_1, rfl, hG⟩ := hA
    walk_at "slots"
    unfold m_Machine_follow at hG
    refine as_seq (as_asg (ae_lstO (aa_cons (ae_var rfl (aa_nil ⟨Nat.le_of_ble_eq_true rfl, fun a_1 => ?_⟩)))))
    walk_at "red"
    refine as_seq (for_TO (is := [4]) (ae_var rfl ?_))
    refine ⟨_, _, _, D.int, _, _, _, fun (s_1 : (List Int)) (ds_ : Sls) (T_ : Tb) => ∃ (a_2 : Addr) (wx_1 : Option D) (wx_2 : Option D) (wx_3 : Option D) (wx_4 : Option D), ds_ = [some ((eMachine K) self_1), some (D.int state_1), some ((eTL D.int) row_1), some (.adr a_2), wx_1, wx_2, wx_3, wx_4] ∧ Sb (⟨a_2, true, (.lst (s_1.map D.int))⟩ :: foot Tf) T_, gbind hG, rfl, ⟨_, _, _, _, _, rfl, Sb.r _⟩, ?_, ?_⟩
    · intro x_1 hx_1
      rintro reached_1 M_1 hG _ _ ⟨a_2, wx_1, wx_2, wx_3, wx_4, rfl, hs_1⟩
      refine ag_sbS hs_1 ?_
      refine ag_name ?_
      walk_at "red"
      refine as_seq (as_asg (ae_newKM fun a_3 =>  ?_))
      walk_at "red"
      refine as_seq (for_LO (is := [6]) (ae_var rfl ?_))
      refine ⟨_, _, _, D.int, _, _, _, fun (s_3 : (List (Int × Bool))) (ds_ : Sls) (T_ : Tb) => ∃ (wx_5 : Option D) (wx_6 : Option D), ds_ = [some ((eMachine K) self_1), some (D.int state_1), some ((eTL D.int) row_1), some (.adr a_2), some (D.int x_1), some (.adr a_3), wx_5, wx_6] ∧ Sb (⟨a_3, true, (obK kI D.bl s_3)⟩ :: ⟨a_2, true, (.lst (reached_1.map D.int))⟩ :: foot Tf) T_, gbind hG, (.own 1 rfl), ⟨_, _, rfl, Sb.r _⟩, (fun _ _ _ ⟨_, _, _, h_1⟩ => lv_sb h_1 (.own 1 rfl)), ?_, ?_⟩
      · intro x_2 hx_2
        rintro found_1 M_2 hG _ _ ⟨wx_5, wx_6, rfl, hs_2⟩
        refine ag_sbS hs_2 ?_
        refine ag_name ?_
        walk_at "red"
        refine for_LO (is := [7]) (ae_get2TM (ae_fld T.cl_Machine T.na_Machine_by_start (ae_var rfl ⟨_, .f (by rfl), ⟨⟨_, _, .f _ _⟩, ae_tup (aa_cons (ae_var rfl (aa_cons (ae_var rfl (aa_nil ⟨Nat.le_of_ble_eq_true rfl, ae_lst (aa_nil ⟨Nat.le_of_ble_eq_true rfl, ⟨_, _, inferInstance, kT2, (eL D.int), self_1.by_start, (x_2, x_1), ([] : List Int), kT2_inj, rfl, rfl, .f _ _, ?_⟩⟩)⟩)))))⟩⟩)))
        refine ⟨_, _, _, D.int, _, _, _, fun (s_5 : (List (Int × Bool))) (ds_ : Sls) (T_ : Tb) => ∃ (wx_7 : Option D), ds_ = [some ((eMachine K) self_1), some (D.int state_1), some ((eTL D.int) row_1), some (.adr a_2), some (D.int x_1), some (.adr a_3), some (D.int x_2), wx_7] ∧ Sb (⟨a_3, true, (obK kI D.bl s_5)⟩ :: ⟨a_2, true, (.lst (reached_1.map D.int))⟩ :: foot Tf) T_, gbind hG, (.f _), ⟨_, rfl, Sb.r _⟩, (fun _ _ _ _ => .f _), ?_, ?_⟩
        · intro x_3 hx_3
          rintro found_2 M_3 hG _ _ ⟨wx_7, rfl, hs_3⟩
          refine ag_sbS hs_3 ?_
          refine ag_name ?_
          walk_at "red"
          refine as_dputM (ae_bl (ae_var rfl (ae_var rfl ?_)))
          obtain ⟨hc, hG⟩ := gchk hG
          refine ⟨_, _, inferInstance, kI, D.bl, _, 0, _, found_2, x_3, true, kI_inj, rfl, rfl, rfl, rfl, hc, ?_⟩
          walk_at "red"
          have hR := gsome hG
          exact ⟨(dset found_2 x_3 true), hR, _, rfl, Sb.r _⟩
        rintro found_3 hG _ _ ⟨wx_7, rfl, hs_4⟩
        have hR := gsome hG
        exact ⟨found_3, hR, _, _, rfl, (Sb.r _).trans hs_4⟩
      rintro found_4 hG _ _ ⟨wx_5, wx_6, rfl, hs_5⟩
      refine as_sb hs_5 ?_
      refine as_frz 5 0 rfl rfl ?_
      walk_at "red"
      refine as_asg (ae_cb (aa_cons (ae_var rfl (aa_nil ?_))))
      obtain ⟨hc, hG⟩ := gchk hG
      refine rc_sortADMO (kvs := found_4) (ev := D.bl) (.f _ _) hc fun a_4 => ?_
      walk_at "red"
      have hR := gsome hG
      exact ⟨(isort ltI (found_4.map (·.1))), hR, _, _, _, _, _, rfl, Sb.s (.cons_cons _ (.cons _ (.refl _)))⟩
    rintro reached_2 hG _ _ ⟨a_2, wx_1, wx_2, wx_3, wx_4, rfl, hs_6⟩
    refine as_sb hs_6 ?_
    refine as_ret (ae_var rfl ?_)
    have hR := gsome hG
    exact retTN (hR _) (fun e he => (List.mem_cons_of_mem _ he)) (List.mem_cons_self ..)
end

def m_Machine_accepts (self_1 : MMachine) (p_1 : Int) (stack_1 : (List Int)) : Option Bool :=
  (m_Machine_follow self_1 p_1 stack_1).bind fun r_1 =>
  (forF (S := Unit) (R := Bool) r_1 () fun (x_1 : Int) (_ : Unit) =>
  if (decide (x_1 ∈ self_1.finals)) then
  some (Lp.rt true)
  else
  some (.nx ())).bind fun fl => match fl with
  | .rt rt_1 => some rt_1
  | .nx _ =>
  some false
abbrev con_Machine_accepts (K : PySem.W.Frag) : Con0 := fun dd T P PX => dd.length = 3 ∧ ∃ (self_1 : MMachine) (p_1 : Int) (stack_1 : (List Int)), dd = [(eMachine K) self_1, D.int p_1, (eTL D.int) stack_1] ∧ G (m_Machine_accepts self_1 p_1 stack_1) fun r => P (D.bl r) (T.map (·.2)) []
section
variable {P : Program} {w : World} {K : PySem.W.Frag} {mg : Str → Option Value} {base : Heap}
theorem sc_Machine_accepts : FnScope ["self", "p", "stack", "state"] ["self", "p", "stack"] (defScope s_Machine_accepts) := ⟨rfl, rfl, rfl, by decide +kernel, rfl, by decide +kernel, by decide +kernel⟩
theorem bi_Machine_accepts {K : PySem.W.Frag} {mg : Str → Option Value} (T : Top K mg) : Binds K T.fd_Machine_accepts ["self", "p", "stack"] [] := T.F_Machine_accepts.bindsN fun _ _ _ _ _ _ us hl => match us, hl with | [_, _, _], _ => rfl
def t_Machine_accepts (K : PySem.W.Frag) : TS := (tSeq (tFor (iU K (tMethG (He.ga K "Machine") "follow" (spA K (con_Machine_follow K)) (fun _ => E0) (tVar 0) (tCons (tVar 1) (tCons (tVar 2) tNil)))) (gName 3) (tIfS (tTest (tOp (rInU K) (tVar 3) (tFld K (tVar 0) "finals"))) (tRet (tC (.bl true))) tNext)) (tRet (tC (.bl false))))
theorem ok_Machine_accepts (T : Top K mg) : FnG P w K mg base CX0 2 (He.ma K (He.ga K "Machine") "accepts") T.fd_Machine_accepts ["self", "p", "stack"] (spA K (con_Machine_accepts K)) := by
  have G_Machine_follow := ok_Machine_follow (P := P) (w := w) (base := base) T
  have b_Machine_follow := bi_Machine_follow T
  refine okG T.F_Machine_accepts sc_Machine_accepts (spA_ln fun _ _ _ _ h => h.1) (fun cdv A ou s H vs Q E gu hr h => ⟨t_Machine_accepts K , ?_, body h fun F dd Tf P PX hA hl hx => ?_⟩)
  · have hu := hr.units
    have hu5 := hu5_of hr
    have hu1 := hu_of hr
    exact PSs.nox (pss_cons (ps_for PassesOwn.never rfl (pi_u (pe_methG (pv 0) T.cl_Machine T.me_Machine_follow G_Machine_follow gu (hr.mono (by decide)) b_Machine_follow (fun σ => passN σ) (pa_cons (pv 1) (pa_cons (pv 2) pa_nil)))) (pg_name (i := 3) sc_Machine_accepts.nd rfl (by first | exact Or.inl rfl | exact Or.inr rfl)) (pss_one (ps_if (pt_cmpR (opIn hu5) (pv 3) (pe_fld (pv 0) rfl) (by rfl)) (pss_one (ps_ret pe_bl)) pss_nil))) (pss_one (ps_ret pe_bl)))
  · unfold t_Machine_accepts
    obtain ⟨_, self_1, p_1, stack_1, rfl, hG⟩ := hA
    walk_at "slots"
    unfold m_Machine_accepts at hG
    refine as_seq (for_LF (is := [3]) (AE.froz (ae_methT no_exc (ae_var rfl ⟨_, _, rfl, by decide +kernel, aa_cons (ae_var rfl (aa_cons (ae_var rfl (aa_nil ?_))))⟩))))
    refine ⟨rfl, self_1, p_1, stack_1, rfl, (gbind hG).imp fun r_1 hG a_1 => ⟨toFoot_snd, ⟨0, _, rfl, rfl, rfl, ?_⟩⟩⟩
    refine ⟨_, _, _, _, D.int, _, _, _, fun (s_1 : Unit) (ds_ : Sls) (T_ : Tb) => ∃ (wx_1 : Option D), ds_ = [some ((eMachine K) self_1), some (D.int p_1), some ((eTL D.int) stack_1), wx_1] ∧ Sb (foot Tf) T_, gbind hG, (.f _), ⟨_, rfl, Sb.r _⟩, (fun _ _ _ _ => .f _), ?_, ?_⟩
    · intro x_1 hx_1
      rintro _ M_1 hG _ _ ⟨wx_1, rfl, hs_1⟩
      refine ag_sbS hs_1 ?_
      refine ag_name ?_
      walk_at "red"
      refine as_if (at_test (ae_op (ae_var rfl (ae_fld T.cl_Machine T.na_Machine_finals (ae_var rfl ⟨_, .f (by rfl), rd_inM pl_I (by decide) (x := x_1) (xs := self_1.finals) (dv_f pl_I x_1) (.f _) ⟨_, rfl, ?_⟩⟩)))))
      refine ⟨fun hb => ?_, fun hb => ?_⟩
      · replace hG := gif_t hG hb
        refine as_ret (ae_bl ?_)
        replace hG := grt hG
        have hR := gsome hG
        exact retT (hR) (fun e he => he)
      · replace hG := gif_f hG hb
        refine as_next ?_
        have hR := gsome hG
        exact ⟨(), hR, _, rfl, Sb.r _⟩
    rintro _ hG _ _ ⟨wx_1, rfl, hs_2⟩
    refine as_sb hs_2 ?_
    refine as_ret (ae_bl ?_)
    have hR := gsome hG
    exact retT (hR) (fun e he => he)
end

def m_is_clean (machine_1 : MMachine) : Option Bool :=
  (lcP machine_1.edges (fun ((a_1, s_1, b_1) : (Int × Int × Int)) => true) (fun ((a_1, s_1, b_1) : (Int × Int × Int)) => (decide (machine_1.worlds ≤ b_1)))).bind fun l_1 =>
  some (l_1.all id)
abbrev con_is_clean (K : PySem.W.Frag) : Con0 := fun dd T P PX => dd.length = 1 ∧ ∃ (machine_1 : MMachine), dd = [(eMachine K) machine_1] ∧ G (m_is_clean machine_1) fun r => P (D.bl r) (T.map (·.2)) []
section
variable {P : Program} {w : World} {K : PySem.W.Frag} {mg : Str → Option Value} {base : Heap}
theorem sc_is_clean : FnScope ["machine", "a", "s", "b"] ["machine"] (defScope s_is_clean) := ⟨rfl, rfl, rfl, by decide +kernel, rfl, by decide +kernel, by decide +kernel⟩
theorem bi_is_clean {K : PySem.W.Frag} {mg : Str → Option Value} (T : Top K mg) : Binds K T.fd_is_clean ["machine"] [] := T.F_is_clean.bindsN fun _ _ _ _ _ _ us hl => match us, hl with | [_], _ => rfl
def t_is_clean (K : PySem.W.Frag) : TS := (tRet (tCB (rAll K) (tCons (tLc (iU K (tFld K (tVar 0) "edges")) (gTup K 3 (gCons (gName 1) (gCons (gName 2) (gCons (gName 3) gNil)))) tYes (tOp rGe (tVar 3) (tFld K (tVar 0) "worlds")) [1, 2, 3]) tNil)))
theorem ok_is_clean (T : Top K mg) : FnG P w K mg base CX0 1 (He.ga K "is_clean") T.fd_is_clean ["machine"] (spA K (con_is_clean K)) := by
  refine okG T.F_is_clean sc_is_clean (spA_ln fun _ _ _ _ h => h.1) (fun cdv A ou s H vs Q E gu hr h => ⟨t_is_clean K , ?_, body h fun F dd Tf P PX hA hl hx => ?_⟩)
  · have hu := hr.units
    have hu5 := hu5_of hr
    have hu1 := hu_of hr
    exact PSs.nox (pss_one (ps_ret (pe_callB (cr_all rfl) (by rfl) T.g_all (by decide +kernel) (pa_cons (pe_lc (own := [("a", 1), ("s", 2), ("b", 3)]) (g := (gTup K 3 (gCons (gName 1) (gCons (gName 2) (gCons (gName 3) gNil))))) (tt := tYes) (te := (tOp rGe (tVar 3) (tFld K (tVar 0) "worlds"))) rfl sc_is_clean.nd (pi_u (pe_fld (pv 0) rfl)) (blkOk_by (own := [("a", 1), ("s", 2), ("b", 3)]) (N := ["machine", "a", "s", "b"]) (sc := defScope s_is_clean) (by decide +kernel)) (fun _ _ _ _ _ => (pg_tup rfl (pgs_cons (pg_name (i := 1) sc_is_clean.nd rfl (by first | exact Or.inl rfl | exact Or.inr rfl)) (pgs_cons (pg_name (i := 2) sc_is_clean.nd rfl (by first | exact Or.inl rfl | exact Or.inr rfl)) (pgs_cons (pg_name (i := 3) sc_is_clean.nd rfl (by first | exact Or.inl rfl | exact Or.inr rfl)) pgs_nil))))) (fun _ _ _ _ _ => pts_nil) (fun _ _ _ _ _ => (pe_cmpR op_ge (pv 3) (pe_fld (pv 0) rfl) (by rfl)))) pa_nil))))
  · unfold t_is_clean
    obtain ⟨_, machine_1, rfl, hG⟩ := hA
    walk_at "slots"
    unfold m_is_clean at hG
    refine as_ret (ae_cb (aa_cons (lcL_G (is := [1, 2, 3]) (fun _ h => h) (ae_fld T.cl_Machine T.na_Machine_edges (ae_var rfl ⟨_, .f (by rfl), ?_⟩)))))
    refine ⟨_, _, _, _, (eT3 D.int D.int D.int), D.bl, _, _, _, fun (_ : Unit) T_ => T_ = foot Tf, glcP (gbind hG), (.f _), rfl, (fun _ _ h => by subst h; exact (.f _)), ?_, ?_⟩
    · intro x_1 hx_1 s_2 M_1 hG Tx_1 hS_1
      subst hS_1
      obtain ⟨a_2, s_3, b_2⟩ := x_1
      refine ag_tup rfl (ags_cons (ag_name (ags_cons (ag_name (ags_cons (ag_name (ags_nil ?_)))))))
      walk_at "red"
      walk_at "wipe"
      refine at_yes ?_
      refine if_t rfl ?_
      exact ae_op (ae_var rfl (ae_fld T.cl_Machine T.na_Machine_worlds (ae_var rfl ⟨_, .f (by rfl), rd_ge ⟨(decide (machine_1.worlds ≤ b_2)), (), gsome hG, rfl, rfl⟩⟩)))
    intro l_1 _ hG _ hS
    subst hS
    refine aa_nil (rc_all (bs := l_1) (.f _) ?_)
    have hR := gsome hG
    exact retT (hR) (fun e he => he)
end

def m_single (worlds_1 : Int) (p_1 : Int) (stack_1 : (List Int)) : Option MMachine :=
  if (!(!stack_1.isEmpty)) then
  (m_Machine_init worlds_1 worlds_1 ([] : List (Int × Int × Int)) [p_1]).bind fun o_1 =>
  some o_1
  else
  (atI stack_1 0).bind fun v_1 =>
  chk ((stack_1.length : Int).natAbs ≤ 1000000000000000000) <|
  (forO (irng 1 (stack_1.length : Int)) [(p_1, v_1, worlds_1)] fun (x_2 : Int) (edges_1 : (List (Int × Int × Int))) =>
  (atI stack_1 x_2).bind fun v_2 =>
  chk (edges_1.length < 100000) <|
  some (edges_1 ++ [(((worlds_1 + x_2) - 1), v_2, (worlds_1 + x_2))])).bind fun edges_2 =>
  (m_Machine_init worlds_1 (worlds_1 + (stack_1.length : Int)) edges_2 [((worlds_1 + (stack_1.length : Int)) - 1)]).bind fun o_2 =>
  some o_2
abbrev con_single (K : PySem.W.Frag) : Con0 := fun dd T P PX => dd.length = 3 ∧ ∃ (worlds_1 : Int) (p_1 : Int) (stack_1 : (List Int)), dd = [D.int worlds_1, D.int p_1, (eTL D.int) stack_1] ∧ G (m_single worlds_1 p_1 stack_1) fun r => P ((eMachine K) r) (T.map (·.2)) []
section
variable {P : Program} {w : World} {K : PySem.W.Frag} {mg : Str → Option Value} {base : Heap}
theorem sc_single : FnScope ["worlds", "p", "stack", "edges", "index"] ["worlds", "p", "stack"] (defScope s_single) := ⟨rfl, rfl, rfl, by decide +kernel, rfl, by decide +kernel, by decide +kernel⟩
theorem bi_single {K : PySem.W.Frag} {mg : Str → Option Value} (T : Top K mg) : Binds K T.fd_single ["worlds", "p", "stack"] [] := T.F_single.bindsN fun _ _ _ _ _ _ us hl => match us, hl with | [_, _, _], _ => rfl
def t_single (K : PySem.W.Frag) : TS := (tSeq (tIfS (tNot (tTru K (tVar 2))) (tRet (tMakeG (He.ga K "Machine") (spA K (con_Machine_init K)) (fun _ => E0) (tCons (tVar 0) (tCons (tVar 0) (tCons (tLst tNil) (tCons (tLst (tCons (tVar 1) tNil)) tNil)))))) tNext) (tSeq (tAsg (tLst (tCons (tTup (tCons (tVar 1) (tCons (tOp (rIx K) (tVar 2) (tC (.int 0))) (tCons (tVar 0) tNil)))) tNil)) (gName 3)) (tSeq (tFor (iRng2 (tCons (tC (.int 1)) (tCons (tCB (rLenU K) (tCons (tVar 2) tNil)) tNil))) (gName 4) (tDrop (tBM K "list" rAppend (tVar 3) (tCons (tTup (tCons (tOp AW.rSub (tOp (rAdd K) (tVar 0) (tVar 4)) (tC (.int 1))) (tCons (tOp (rIx K) (tVar 2) (tVar 4)) (tCons (tOp (rAdd K) (tVar 0) (tVar 4)) tNil)))) tNil)))) (tRet (tMakeG (He.ga K "Machine") (spA K (con_Machine_init K)) (fun _ => E0) (tCons (tVar 0) (tCons (tOp (rAdd K) (tVar 0) (tCB (rLenU K) (tCons (tVar 2) tNil))) (tCons (tVar 3) (tCons (tLst (tCons (tOp AW.rSub (tOp (rAdd K) (tVar 0) (tCB (rLenU K) (tCons (tVar 2) tNil))) (tC (.int 1))) tNil)) tNil)))))))))
theorem ok_single (T : Top K mg) : FnG P w K mg base CX0 3 (He.ga K "single") T.fd_single ["worlds", "p", "stack"] (spA K (con_single K)) := by
  have G_Machine_init := ok_Machine_init (P := P) (w := w) (base := base) T
  have b_Machine_init := bi_Machine_init T
  refine okG T.F_single sc_single (spA_ln fun _ _ _ _ h => h.1) (fun cdv A ou s H vs Q E gu hr h => ⟨t_single K , ?_, body h fun F dd Tf P PX hA hl hx => ?_⟩)
  · have hu := hr.units
    have hu5 := hu5_of hr
    have hu1 := hu_of hr
    exact PSs.nox (pss_cons (ps_if (pt_not (ptT (pv 2) (by intro _; rfl))) (pss_one (ps_ret (pe_makeG T.mk_Machine G_Machine_init gu (hr.mono (by decide)) rfl T.m_Machine b_Machine_init (fun σ => passN σ) (pa_cons (pv 0) (pa_cons (pv 0) (pa_cons (pe_lst pa_nil) (pa_cons (pe_lst (pa_cons (pv 1) pa_nil)) pa_nil))))))) pss_nil) (pss_cons (ps_set (i := 3) sc_single.nd rfl (by first | exact Or.inl rfl | exact Or.inr rfl) (pe_lst (pa_cons (pe_tup (pa_cons (pv 1) (pa_cons (pe_ix ix_seq (pv 2) pe_int (fun _ _ => rfl)) (pa_cons (pv 0) pa_nil)))) pa_nil))) (pss_cons (ps_for PassesOwn.never rfl (pi_range2 rfl T.g_range (pa_cons pe_int (pa_cons (pe_callB call_len_seq (by rfl) T.g_len boot_len (pa_cons (pv 2) pa_nil)) pa_nil))) (pg_name (i := 4) sc_single.nd rfl (by first | exact Or.inl rfl | exact Or.inr rfl)) (pss_one (ps_expr (pe_bm PySem.F.plainAttrs_list PySem.F.slot_list_append PySem.F.type_list_append mt_append (pv 3) (pa_cons (pe_tup (pa_cons (pe_op op_sub (pe_op opAdd (pv 0) (pv 4)) pe_int) (pa_cons (pe_ix ix_seq (pv 2) (pv 4) (fun _ _ => rfl)) (pa_cons (pe_op opAdd (pv 0) (pv 4)) pa_nil)))) pa_nil))))) (pss_one (ps_ret (pe_makeG T.mk_Machine G_Machine_init gu (hr.mono (by decide)) rfl T.m_Machine b_Machine_init (fun σ => passN σ) (pa_cons (pv 0) (pa_cons (pe_op opAdd (pv 0) (pe_callB call_len_seq (by rfl) T.g_len boot_len (pa_cons (pv 2) pa_nil))) (pa_cons (pv 3) (pa_cons (pe_lst (pa_cons (pe_op op_sub (pe_op opAdd (pv 0) (pe_callB call_len_seq (by rfl) T.g_len boot_len (pa_cons (pv 2) pa_nil))) pe_int) pa_nil)) pa_nil))))))))))
  · unfold t_single
    obtain ⟨_, worlds_1, p_1, stack_1, rfl, hG⟩ := hA
    walk_at "slots"
    unfold m_single at hG
    refine as_seq (as_if (atp (!(!stack_1.isEmpty)) (at_notP (at_tru (ae_var rfl (tru_TM (xs := stack_1) (e := D.int) ⟨rfl, rfl⟩)))) ?_))
    refine ⟨fun hb => ?_, fun hb => ?_⟩
    · replace hG := gif_t hG hb
      refine as_ret (AE.froz (ae_make no_exc (aa_cons (ae_var rfl (aa_cons (ae_var rfl (aa_cons (ae_lst (aa_nil ⟨Nat.le_of_ble_eq_true rfl, aa_cons (ae_lst (aa_cons (ae_var rfl (aa_nil ⟨Nat.le_of_ble_eq_true rfl, aa_nil ?_⟩))))⟩)))))))))
      refine fun x_1 => ⟨rfl, _, worlds_1, worlds_1, _, ([] : List (Int × Int × Int)), _, [p_1], _, rfl, rfl, LV.foot (.f _), LV.foot (.f _), (gbind hG).imp fun o_1 hG => ⟨rfl, _, congrArg _ toFoot_snd, 0, _, rfl, rfl, rfl, ?_⟩⟩
      have hR := gsome hG
      exact retT (hR) (fun e he => he)
    · replace hG := gif_f hG hb
      refine as_next ?_
      refine as_seq (as_asg (ae_lstO (aa_cons (ae_tup (aa_cons (ae_var rfl (aa_cons (ae_op (ae_var rfl (ae_int ?_))))))))))
      obtain ⟨v_1, e_1, hG⟩ := gbind hG
      refine rd_ixTM (xs := stack_1) (e := D.int) e_1 (aa_cons (ae_var rfl (aa_nil ⟨Nat.le_of_ble_eq_true rfl, aa_nil ⟨Nat.le_of_ble_eq_true rfl, fun a_1 => ?_⟩⟩)))
      walk_at "red"
      refine as_seq (for_R2O (is := [4]) (aa_cons (ae_int (aa_cons (ae_cb (aa_cons (ae_var rfl (aa_nil (rc_lenTM (xs := stack_1) (e := D.int) (aa_nil ?_))))))))))
      obtain ⟨hn_1, hG⟩ := gchk hG
      refine ⟨_, _, _, _, _, _, fun (s_1 : (List (Int × Int × Int))) (ds_ : Sls) (T_ : Tb) => ∃ (wx_1 : Option D), ds_ = [some (D.int worlds_1), some (D.int p_1), some ((eTL D.int) stack_1), some (.adr a_1), wx_1] ∧ Sb (⟨a_1, true, (.lst (s_1.map (eT3 D.int D.int D.int)))⟩ :: foot Tf) T_, rfl, (by decide), hn_1, gbind hG, ⟨_, rfl, Sb.r _⟩, ?_, ?_⟩
      · intro x_2 hx_1
        rintro edges_1 M_1 hG _ _ ⟨wx_1, rfl, hs_1⟩
        refine ag_sbS hs_1 ?_
        refine ag_name ?_
        walk_at "red"
        refine as_drop (ae_bmL (ae_var rfl ⟨⟨_, (.own 0 rfl)⟩, aa_cons (ae_tup (aa_cons (ae_op (ae_op (ae_var rfl (ae_var rfl (rd_add (ae_int (rd_sub (aa_cons (ae_op (ae_var rfl (ae_var rfl ?_)))))))))))))⟩))
        obtain ⟨v_2, e_2, hG⟩ := gbind hG
        refine rd_ixTM (xs := stack_1) (e := D.int) e_2 (aa_cons (ae_op (ae_var rfl (ae_var rfl (rd_add (aa_nil ⟨Nat.le_of_ble_eq_true rfl, aa_nil ?_⟩))))))
        obtain ⟨hc, hG⟩ := gchk hG
        refine rm_appendM (xs := edges_1) (e := (eT3 D.int D.int D.int)) (x := (((worlds_1 + x_2) - 1), v_2, (worlds_1 + x_2))) 0 rfl hc rfl ?_
        walk_at "red"
        have hR := gsome hG
        exact ⟨(edges_1 ++ [(((worlds_1 + x_2) - 1), v_2, (worlds_1 + x_2))]), hR, _, rfl, Sb.r _⟩
      rintro edges_2 hG _ _ ⟨wx_1, rfl, hs_2⟩
      refine as_sb hs_2 ?_
      refine as_frz 3 0 rfl rfl ?_
      walk_at "red"
      refine as_ret (AE.froz (ae_make no_exc (aa_cons (ae_var rfl (aa_cons (ae_op (ae_var rfl (ae_cb (aa_cons (ae_var rfl (aa_nil (rc_lenTM (xs := stack_1) (e := D.int) (rd_add (aa_cons (ae_var rfl (aa_cons (ae_lst (aa_cons (ae_op (ae_op (ae_var rfl (ae_cb (aa_cons (ae_var rfl (aa_nil (rc_lenTM (xs := stack_1) (e := D.int) (rd_add (ae_int (rd_sub (aa_nil ⟨Nat.le_of_ble_eq_true rfl, aa_nil ?_⟩))))))))))))))))))))))))))))))
      refine fun x_3 => ⟨rfl, _, worlds_1, (worlds_1 + (stack_1.length : Int)), _, edges_2, _, [((worlds_1 + (stack_1.length : Int)) - 1)], _, rfl, rfl, LV.foot (.f _), LV.foot (.f _), (gbind hG).imp fun o_2 hG => ⟨rfl, _, congrArg _ toFoot_snd, 0, _, rfl, rfl, rfl, ?_⟩⟩
      have hR := gsome hG
      exact retT (hR) (fun e he => he)
end

def m_is_deterministic (machine : MMachine) : Option Bool := chk (machine.by_start.length ≤ 100000) (some ((machine.by_start.map fun p => decide ((p.2.length : Int) = 1)).all id))
abbrev con_is_deterministic (K : PySem.W.Frag) : Con0 := fun dd T P PX => dd.length = 1 ∧ ∃ (machine : MMachine), dd = [eMachine K machine] ∧ G (m_is_deterministic machine) fun r => P (.bl r) (T.map (·.2)) []
section
variable {P : Program} {w : World} {K : PySem.W.Frag} {mg : Str → Option Value} {base : Heap}
theorem sc_is_deterministic : FnScope ["machine", "found"] ["machine"] (defScope s_is_deterministic) := ⟨rfl, rfl, rfl, by decide +kernel, rfl, by decide +kernel, by decide +kernel⟩
theorem bi_is_deterministic {K : PySem.W.Frag} {mg : Str → Option Value} (T : Top K mg) : Binds K T.fd_is_deterministic ["machine"] [] := T.F_is_deterministic.bindsN fun _ _ _ _ _ _ us hl => match us, hl with | [_], _ => rfl
def t_is_deterministic (K : PySem.W.Frag) : TS := (tRet (tCB (rAll K) (tCons (tLockE (tLc (iValsT (tFld K (tVar 0) "by_start")) (gName 1) tYes (tOp (rEqU K) (tCB (rLenU K) (tCons (tVar 1) tNil)) (tC (.int 1))) [1])) tNil)))
theorem ok_is_deterministic (T : Top K mg) : FnG P w K mg base CX0 1 (He.ga K "is_deterministic") T.fd_is_deterministic ["machine"] (spA K (con_is_deterministic K)) := by
  refine okG T.F_is_deterministic sc_is_deterministic (spA_ln fun _ _ _ _ h => h.1) (fun cdv A ou s H vs Q E gu hr h => ⟨t_is_deterministic K , ?_, body h fun F dd Tf P PX hA hl hx => ?_⟩)
  · have hu := hr.units
    have hu5 := hu5_of hr
    have hu1 := hu_of hr
    exact PSs.nox (pss_one (ps_ret (pe_callB (cr_all rfl) (by rfl) T.g_all (by decide +kernel) (pa_cons (pe_lock (pe_lc (own := [("found", 1)]) (g := (gName 1)) (tt := tYes) (te := (tOp (rEqU K) (tCB (rLenU K) (tCons (tVar 1) tNil)) (tC (.int 1)))) rfl sc_is_deterministic.nd (pi_valuesT (pe_fld (pv 0) rfl)) (blkOk_by (own := [("found", 1)]) (N := ["machine", "found"]) (sc := defScope s_is_deterministic) (by decide +kernel)) (fun _ _ _ _ _ => (pg_name (i := 1) sc_is_deterministic.nd rfl (by first | exact Or.inl rfl | exact Or.inr rfl))) (fun _ _ _ _ _ => pts_nil) (fun _ _ _ _ _ => (pe_cmpR (opEq hu) (pe_callB call_len_seq (by rfl) T.g_len boot_len (pa_cons (pv 1) pa_nil)) pe_int (by rfl))))) pa_nil))))
  · unfold t_is_deterministic
    obtain ⟨_, machine, rfl, hG⟩ := hA
    walk_at "slots"
    unfold m_is_deterministic at hG
    obtain ⟨hc, hG⟩ := gchk hG
    have hR := gsome hG
    refine as_ret (ae_cb (aa_cons (ae_lcV (is := [1]) (kt := kT2) (kvs := machine.by_start) (c := fun l => decide ((l.length : Int) = 1)) (fun _ h => h) T.cl_Machine T.na_Machine_by_start rfl rfl hc (fun l hl E' => ?_) ?_)))
    · refine ag_name ?_
      walk_at "red"
      exact at_yes ⟨rfl, ae_op (ae_cb (aa_cons (ae_var rfl (aa_nil (rc_lenLM (xs := l) (e := D.int) (.f _) (ae_int (rd_eqI rfl)))))))⟩
    · exact aa_nil (rc_all (.f _) (retT hR fun e he => he))
end



def m__law_ascending_0 (items_1 : (List Int)) : Option (List Int) :=
  (forO (isort ltI items_1) ([] : List Int) fun (x_1 : Int) (found_1 : (List Int)) =>
  (if (!(!found_1.isEmpty)) then
  some true
  else
  (atI found_1 (-1)).bind fun v_1 =>
  some (!decide (v_1 = x_1))).bind fun c_1 =>
  if c_1 then
  chk (found_1.length < 100000) <|
  some (found_1 ++ [x_1])
  else
  some found_1).bind fun found_2 =>
  some found_2
def m__law_ascending_1 (items_1 : (List (Int × Int × Int))) : Option (List (Int × Int × Int)) :=
  chk (items_1.length < 64 ∧ items_1.all bd3 = true) <|
  (forO (isort ltT3 items_1) ([] : List (Int × Int × Int)) fun (x_1 : (Int × Int × Int)) (found_1 : (List (Int × Int × Int))) =>
  (if (!(!found_1.isEmpty)) then
  some true
  else
  (atI found_1 (-1)).bind fun v_1 =>
  some (!decide (v_1 = x_1))).bind fun c_1 =>
  if c_1 then
  chk (found_1.length < 100000) <|
  some (found_1 ++ [x_1])
  else
  some found_1).bind fun found_2 =>
  some found_2
abbrev con__law_ascending (K : PySem.W.Frag) : Con0 := fun dd T P PX => dd.length = 1 ∧ ((∃ (items_1 : (List Int)), dd = [(eL D.int) items_1] ∧ G (m__law_ascending_0 items_1) fun r => P ((eL D.int) r) (T.map (·.2)) []) ∨ (∃ (items_1 : (List (Int × Int × Int))), dd = [(eL (eT3 D.int D.int D.int)) items_1] ∧ G (m__law_ascending_1 items_1) fun r => P ((eL (eT3 D.int D.int D.int)) r) (T.map (·.2)) []))
section
variable {P : Program} {w : World} {K : PySem.W.Frag} {mg : Str → Option Value} {base : Heap}
theorem sc__law_ascending : FnScope ["items", "found", "item"] ["items"] (defScope s__law_ascending) := ⟨rfl, rfl, rfl, by decide +kernel, rfl, by decide +kernel, by decide +kernel⟩
theorem bi__law_ascending {K : PySem.W.Frag} {mg : Str → Option Value} (T : Top K mg) : Binds K T.fd__law_ascending ["items"] [] := T.F__law_ascending.bindsN fun _ _ _ _ _ _ us hl => match us, hl with | [_], _ => rfl
def t__law_ascending (K : PySem.W.Frag) : TS := (tSeq (tAsg (tLst tNil) (gName 1)) (tSeq (tFor (iU K (tCB (rSortA K) (tCons (tVar 0) tNil))) (gName 2) (tIfS (tOr (tNot (tTru K (tVar 1))) (tTest (tOp (rNeU K) (tOp (rIx K) (tVar 1) (tUn (rU fun i => .int (-i)) (tC (.int 1)))) (tVar 2)))) (tDrop (tBM K "list" rAppend (tVar 1) (tCons (tVar 2) tNil))) tNext)) (tRet (tVar 1))))
theorem ok__law_ascending (T : Top K mg) : FnG P w K mg base CX0 1 (He.ga K "_law_ascending") T.fd__law_ascending ["items"] (spA K (con__law_ascending K)) := by
  refine okG T.F__law_ascending sc__law_ascending (spA_ln fun _ _ _ _ h => h.1) (fun cdv A ou s H vs Q E gu hr h => ⟨t__law_ascending K , ?_, body h fun F dd Tf P PX hA hl hx => ?_⟩)
  · have hu := hr.units
    have hu5 := hu5_of hr
    have hu1 := hu_of hr
    exact PSs.nox (pss_cons (ps_set (i := 1) sc__law_ascending.nd rfl (by first | exact Or.inl rfl | exact Or.inr rfl) (pe_lst pa_nil)) (pss_cons (ps_for PassesOwn.never rfl (pi_u (pe_callB (cr_sortA rfl) (by rfl) T.g_sorted (by decide +kernel) (pa_cons (pv 0) pa_nil))) (pg_name (i := 2) sc__law_ascending.nd rfl (by first | exact Or.inl rfl | exact Or.inr rfl)) (pss_one (ps_if (PW.pt (pw_or (pt_not (ptT (pv 1) (by intro _; rfl))) (pw_or1 (pt_cmpR (opNe hu) (pe_ix ix_seq (pv 1) (pe_un un_neg pe_int) (fun _ _ => rfl)) (pv 2) (by rfl))))) (pss_one (ps_expr (pe_bm PySem.F.plainAttrs_list PySem.F.slot_list_append PySem.F.type_list_append mt_append (pv 1) (pa_cons (pv 2) pa_nil)))) pss_nil))) (pss_one (ps_ret (pv 1)))))
  · unfold t__law_ascending
    obtain ⟨_, hA⟩ := hA
    rcases hA with hA | hA
    · obtain ⟨items_1, rfl, hG⟩ := hA
      walk_at "slots"
      unfold m__law_ascending_0 at hG
      refine as_seq (as_asg (ae_lstO (aa_nil ⟨Nat.le_of_ble_eq_true rfl, fun a_1 => ?_⟩)))
      walk_at "red"
      refine as_seq (for_LO (is := [2]) (ae_cb (aa_cons (ae_var rfl (aa_nil (rc_sortIM (ns := items_1) (.f _) ?_))))))
      refine ⟨_, _, _, D.int, _, _, _, fun (s_1 : (List Int)) (ds_ : Sls) (T_ : Tb) => ∃ (wx_1 : Option D), ds_ = [some ((eL D.int) items_1), some (.adr a_1), wx_1] ∧ Sb (⟨a_1, true, (.lst (s_1.map D.int))⟩ :: foot Tf) T_, gbind hG, (.f _), ⟨_, rfl, Sb.r _⟩, (fun _ _ _ _ => .f _), ?_, ?_⟩
      · intro x_1 hx_1
        rintro found_1 M_1 hG _ _ ⟨wx_1, rfl, hs_1⟩
        refine ag_sbS hs_1 ?_
        refine ag_name ?_
        walk_at "red"
        refine as_if ?_
        obtain ⟨Qj, hJ, hK⟩ : ∃ Q, G _ Q ∧ Q = _ := ⟨_, gbind hG, rfl⟩
        refine AT.mid (fun b_ T_ =>  T_ = (⟨a_1, true, (.lst (found_1.map D.int))⟩ :: foot Tf) ∧ Qj b_) ?_ ?_
        · clear hG hK
          have hG := hJ
          refine at_or (atp (!(!found_1.isEmpty)) (at_notP (at_tru (ae_var rfl (tru_LM (xs := found_1) (e := D.int) (.own 0 rfl) ⟨rfl, rfl⟩)))) ?_)
          refine if_b (fun hb => ?_) (fun hb => ?_)
          · replace hG := gif_t hG hb
            exact ⟨rfl, gsome hG⟩
          · replace hG := gif_f hG hb
            refine at_test (ae_op (ae_op (ae_var rfl (ae_un (ae_int (ru_neg ?_))))))
            obtain ⟨v_1, e_1, hG⟩ := gbind hG
            exact rd_ixLM (xs := found_1) (e := D.int) (.own 0 rfl) e_1 (ae_var rfl (rd_neI ⟨_, rfl, ⟨rfl, gsome hG⟩⟩))
        subst hK
        rintro c_1 _ ⟨rfl, hG⟩
        refine ⟨fun hb => ?_, fun hb => ?_⟩
        · replace hG := gif_t hG hb
          refine as_drop (ae_bmL (ae_var rfl ⟨⟨_, (.own 0 rfl)⟩, aa_cons (ae_var rfl (aa_nil ?_))⟩))
          obtain ⟨hc, hG⟩ := gchk hG
          refine rm_appendM (xs := found_1) (e := D.int) (x := x_1) 0 rfl hc rfl ?_
          walk_at "red"
          have hR := gsome hG
          exact ⟨(found_1 ++ [x_1]), hR, _, rfl, Sb.r _⟩
        · replace hG := gif_f hG hb
          refine as_next ?_
          have hR := gsome hG
          exact ⟨found_1, hR, _, rfl, Sb.r _⟩
      rintro found_2 hG _ _ ⟨wx_1, rfl, hs_2⟩
      refine as_sb hs_2 ?_
      refine as_frz 1 0 rfl rfl ?_
      walk_at "red"
      refine as_ret (ae_var rfl ?_)
      have hR := gsome hG
      exact retT (hR) (fun e he => he)
    · obtain ⟨items_1, rfl, hG⟩ := hA
      walk_at "slots"
      unfold m__law_ascending_1 at hG
      refine as_seq (as_asg (ae_lstO (aa_nil ⟨Nat.le_of_ble_eq_true rfl, fun a_1 => ?_⟩)))
      walk_at "red"
      refine as_seq (for_LO (is := [2]) (ae_cb (aa_cons (ae_var rfl (aa_nil ?_)))))
      obtain ⟨hc, hG⟩ := gchk hG
      refine rc_sortT3M (xs := items_1) (.f _) hc.1 hc.2 ?_
      refine ⟨_, _, _, (eT3 D.int D.int D.int), _, _, _, fun (s_1 : (List (Int × Int × Int))) (ds_ : Sls) (T_ : Tb) => ∃ (wx_1 : Option D), ds_ = [some ((eL (eT3 D.int D.int D.int)) items_1), some (.adr a_1), wx_1] ∧ Sb (⟨a_1, true, (.lst (s_1.map (eT3 D.int D.int D.int)))⟩ :: foot Tf) T_, gbind hG, (.f _), ⟨_, rfl, Sb.r _⟩, (fun _ _ _ _ => .f _), ?_, ?_⟩
      · intro x_1 hx_1
        rintro found_1 M_1 hG _ _ ⟨wx_1, rfl, hs_1⟩
        refine ag_sbS hs_1 ?_
        refine ag_name ?_
        walk_at "red"
        refine as_if ?_
        obtain ⟨Qj, hJ, hK⟩ : ∃ Q, G _ Q ∧ Q = _ := ⟨_, gbind hG, rfl⟩
        refine AT.mid (fun b_ T_ =>  T_ = (⟨a_1, true, (.lst (found_1.map (eT3 D.int D.int D.int)))⟩ :: foot Tf) ∧ Qj b_) ?_ ?_
        · clear hG hK
          have hG := hJ
          refine at_or (atp (!(!found_1.isEmpty)) (at_notP (at_tru (ae_var rfl (tru_LM (xs := found_1) (e := (eT3 D.int D.int D.int)) (.own 0 rfl) ⟨rfl, rfl⟩)))) ?_)
          refine if_b (fun hb => ?_) (fun hb => ?_)
          · replace hG := gif_t hG hb
            exact ⟨rfl, gsome hG⟩
          · replace hG := gif_f hG hb
            refine at_test (ae_op (ae_op (ae_var rfl (ae_un (ae_int (ru_neg ?_))))))
            obtain ⟨v_1, e_1, hG⟩ := gbind hG
            exact rd_ixLM (xs := found_1) (e := (eT3 D.int D.int D.int)) (.own 0 rfl) e_1 (ae_var rfl (rd_neM (pl_T3 pl_I pl_I pl_I) (by decide) (x := v_1) (y := x_1) (dv_f (pl_T3 pl_I pl_I pl_I) v_1) (dv_f (pl_T3 pl_I pl_I pl_I) x_1) ⟨_, rfl, ⟨rfl, gsome hG⟩⟩))
        subst hK
        rintro c_1 _ ⟨rfl, hG⟩
        refine ⟨fun hb => ?_, fun hb => ?_⟩
        · replace hG := gif_t hG hb
          refine as_drop (ae_bmL (ae_var rfl ⟨⟨_, (.own 0 rfl)⟩, aa_cons (ae_var rfl (aa_nil ?_))⟩))
          obtain ⟨hc, hG⟩ := gchk hG
          refine rm_appendM (xs := found_1) (e := (eT3 D.int D.int D.int)) (x := x_1) 0 rfl hc rfl ?_
          walk_at "red"
          have hR := gsome hG
          exact ⟨(found_1 ++ [x_1]), hR, _, rfl, Sb.r _⟩
        · replace hG := gif_f hG hb
          refine as_next ?_
          have hR := gsome hG
          exact ⟨found_1, hR, _, rfl, Sb.r _⟩
      rintro found_2 hG _ _ ⟨wx_1, rfl, hs_2⟩
      refine as_sb hs_2 ?_
      refine as_frz 1 0 rfl rfl ?_
      walk_at "red"
      refine as_ret (ae_var rfl ?_)
      have hR := gsome hG
      exact retT (hR) (fun e he => he)
end

def m__law_targets (edges_1 : (List (Int × Int × Int))) (state_1 : Int) (frame_1 : Int) : Option (List Int) :=
  (lcP edges_1 (fun ((a_1, s_1, b_1) : (Int × Int × Int)) => ((decide (a_1 = state_1)) && (decide (s_1 = frame_1)))) (fun ((a_1, s_1, b_1) : (Int × Int × Int)) => b_1)).bind fun l_1 =>
  (m__law_ascending_0 l_1).bind fun r_1 =>
  some r_1
abbrev con__law_targets (K : PySem.W.Frag) : Con0 := fun dd T P PX => dd.length = 3 ∧ ∃ (edges_1 : (List (Int × Int × Int))) (state_1 : Int) (frame_1 : Int), dd = [(eL (eT3 D.int D.int D.int)) edges_1, D.int state_1, D.int frame_1] ∧ G (m__law_targets edges_1 state_1 frame_1) fun r => P ((eL D.int) r) (T.map (·.2)) []
section
variable {P : Program} {w : World} {K : PySem.W.Frag} {mg : Str → Option Value} {base : Heap}
theorem sc__law_targets : FnScope ["edges", "state", "frame", "a", "s", "b"] ["edges", "state", "frame"] (defScope s__law_targets) := ⟨rfl, rfl, rfl, by decide +kernel, rfl, by decide +kernel, by decide +kernel⟩
theorem bi__law_targets {K : PySem.W.Frag} {mg : Str → Option Value} (T : Top K mg) : Binds K T.fd__law_targets ["edges", "state", "frame"] [] := T.F__law_targets.bindsN fun _ _ _ _ _ _ us hl => match us, hl with | [_, _, _], _ => rfl
def t__law_targets (K : PySem.W.Frag) : TS := (tRet (tCallG (spA K (con__law_ascending K)) (fun _ => E0) (tCons (tLc (iU K (tVar 0)) (gTup K 3 (gCons (gName 3) (gCons (gName 4) (gCons (gName 5) gNil)))) (tAnd (tTest (tOp (rEqU K) (tVar 3) (tVar 1))) (tTest (tOp (rEqU K) (tVar 4) (tVar 2)))) (tVar 5) [3, 4, 5]) tNil)))
theorem ok__law_targets (T : Top K mg) : FnG P w K mg base CX0 2 (He.ga K "_law_targets") T.fd__law_targets ["edges", "state", "frame"] (spA K (con__law_targets K)) := by
  have G__law_ascending := ok__law_ascending (P := P) (w := w) (base := base) T
  have b__law_ascending := bi__law_ascending T
  refine okG T.F__law_targets sc__law_targets (spA_ln fun _ _ _ _ h => h.1) (fun cdv A ou s H vs Q E gu hr h => ⟨t__law_targets K , ?_, body h fun F dd Tf P PX hA hl hx => ?_⟩)
  · have hu := hr.units
    have hu5 := hu5_of hr
    have hu1 := hu_of hr
    exact PSs.nox (pss_one (ps_ret (pe_callG G__law_ascending gu (hr.mono (by decide)) rfl T.m__law_ascending T.F__law_ascending.kp b__law_ascending (fun σ => passN σ) (pa_cons (pe_lc (own := [("a", 3), ("s", 4), ("b", 5)]) (g := (gTup K 3 (gCons (gName 3) (gCons (gName 4) (gCons (gName 5) gNil))))) (tt := (tAnd (tTest (tOp (rEqU K) (tVar 3) (tVar 1))) (tTest (tOp (rEqU K) (tVar 4) (tVar 2))))) (te := (tVar 5)) rfl sc__law_targets.nd (pi_u (pv 0)) (blkOk_by (own := [("a", 3), ("s", 4), ("b", 5)]) (N := ["edges", "state", "frame", "a", "s", "b"]) (sc := defScope s__law_targets) (by decide +kernel)) (fun _ _ _ _ _ => (pg_tup rfl (pgs_cons (pg_name (i := 3) sc__law_targets.nd rfl (by first | exact Or.inl rfl | exact Or.inr rfl)) (pgs_cons (pg_name (i := 4) sc__law_targets.nd rfl (by first | exact Or.inl rfl | exact Or.inr rfl)) (pgs_cons (pg_name (i := 5) sc__law_targets.nd rfl (by first | exact Or.inl rfl | exact Or.inr rfl)) pgs_nil))))) (fun _ _ _ _ _ => (pts_one (PW.pt (pw_and (pt_cmpR (opEq hu) (pv 3) (pv 1) (by rfl)) (pw_and1 (pt_cmpR (opEq hu) (pv 4) (pv 2) (by rfl))))))) (fun _ _ _ _ _ => (pv 5))) pa_nil))))
  · unfold t__law_targets
    obtain ⟨_, edges_1, state_1, frame_1, rfl, hG⟩ := hA
    walk_at "slots"
    unfold m__law_targets at hG
    refine as_ret (ae_callT no_exc (aa_cons (lcL_G (is := [3, 4, 5]) (fun _ h => h) (ae_var rfl ?_))))
    refine ⟨_, _, _, _, (eT3 D.int D.int D.int), D.int, _, _, _, fun (_ : Unit) T_ => T_ = foot Tf, glcP (gbind hG), (.f _), rfl, (fun _ _ h => by subst h; exact (.f _)), ?_, ?_⟩
    · intro x_1 hx_1 s_2 M_1 hG Tx_1 hS_1
      subst hS_1
      obtain ⟨a_2, s_3, b_2⟩ := x_1
      refine ag_tup rfl (ags_cons (ag_name (ags_cons (ag_name (ags_cons (ag_name (ags_nil ?_)))))))
      walk_at "red"
      walk_at "wipe"
      refine atp ((decide (a_2 = state_1)) && (decide (s_3 = frame_1))) (at_andP (at_test (ae_op (ae_var rfl (ae_var rfl (rd_eqI ⟨_, rfl, ⟨rfl, rfl⟩⟩))))) (at_test (ae_op (ae_var rfl (ae_var rfl (rd_eqI ⟨_, rfl, ⟨rfl, rfl⟩⟩)))))) ?_
      refine if_b (fun hb => ?_) (fun hb => ?_)
      · skip
        exact ae_var rfl ⟨b_2, (), pst_t hG hb, rfl, rfl⟩
      · exact ⟨(), pst_f hG hb, rfl⟩
    intro l_1 _ hG _ hS
    subst hS
    refine aa_nil ?_
    refine ⟨rfl, .inl ⟨l_1, rfl, (gbind hG).imp fun r_1 hG => ⟨toFoot_snd, ?_⟩⟩⟩
    have hR := gsome hG
    exact retT (hR) (fun e he => he)
end

def m__law_follow (edges_1 : (List (Int × Int × Int))) (state_1 : Int) (row_1 : (List Int)) : Option (List Int) :=
  (forO row_1 [state_1] fun (x_1 : Int) (now_1 : (List Int)) =>
  (forO now_1 ([] : List Int) fun (x_2 : Int) (wider_1 : (List Int)) =>
  (m__law_targets edges_1 x_2 x_1).bind fun r_1 =>
  chk (wider_1.length + r_1.length ≤ 100000) <|
  some (wider_1 ++ r_1)).bind fun wider_2 =>
  (m__law_ascending_0 wider_2).bind fun r_2 =>
  some r_2).bind fun now_2 =>
  some now_2
abbrev con__law_follow (K : PySem.W.Frag) : Con0 := fun dd T P PX => dd.length = 3 ∧ ∃ (edges_1 : (List (Int × Int × Int))) (state_1 : Int) (row_1 : (List Int)), dd = [(eL (eT3 D.int D.int D.int)) edges_1, D.int state_1, (eTL D.int) row_1] ∧ G (m__law_follow edges_1 state_1 row_1) fun r => P ((eL D.int) r) (T.map (·.2)) []
section
variable {P : Program} {w : World} {K : PySem.W.Frag} {mg : Str → Option Value} {base : Heap}
theorem sc__law_follow : FnScope ["edges", "state", "row", "now", "frame", "wider", "a"] ["edges", "state", "row"] (defScope s__law_follow) := ⟨rfl, rfl, rfl, by decide +kernel, rfl, by decide +kernel, by decide +kernel⟩
theorem bi__law_follow {K : PySem.W.Frag} {mg : Str → Option Value} (T : Top K mg) : Binds K T.fd__law_follow ["edges", "state", "row"] [] := T.F__law_follow.bindsN fun _ _ _ _ _ _ us hl => match us, hl with | [_, _, _], _ => rfl
def t__law_follow (K : PySem.W.Frag) : TS := (tSeq (tAsg (tLst (tCons (tVar 1) tNil)) (gName 3)) (tSeq (tFor (iU K (tVar 2)) (gName 4) (tSeq (tAsg (tLst tNil) (gName 5)) (tSeq (tFor (iU K (tVar 3)) (gName 6) (tAsg (tOp (rAdd K) (tVar 5) (tCallG (spA K (con__law_targets K)) (fun _ => E0) (tCons (tVar 0) (tCons (tVar 6) (tCons (tVar 4) tNil))))) (gName 5))) (tAsg (tCallG (spA K (con__law_ascending K)) (fun _ => E0) (tCons (tVar 5) tNil)) (gName 3))))) (tRet (tVar 3))))
theorem ok__law_follow (T : Top K mg) : FnG P w K mg base CX0 3 (He.ga K "_law_follow") T.fd__law_follow ["edges", "state", "row"] (spA K (con__law_follow K)) := by
  have G__law_ascending := ok__law_ascending (P := P) (w := w) (base := base) T
  have b__law_ascending := bi__law_ascending T
  have G__law_targets := ok__law_targets (P := P) (w := w) (base := base) T
  have b__law_targets := bi__law_targets T
  refine okG T.F__law_follow sc__law_follow (spA_ln fun _ _ _ _ h => h.1) (fun cdv A ou s H vs Q E gu hr h => ⟨t__law_follow K , ?_, body h fun F dd Tf P PX hA hl hx => ?_⟩)
  · have hu := hr.units
    have hu5 := hu5_of hr
    have hu1 := hu_of hr
    exact PSs.nox (pss_cons (ps_set (i := 3) sc__law_follow.nd rfl (by first | exact Or.inl rfl | exact Or.inr rfl) (pe_lst (pa_cons (pv 1) pa_nil))) (pss_cons (ps_for PassesOwn.never rfl (pi_u (pv 2)) (pg_name (i := 4) sc__law_follow.nd rfl (by first | exact Or.inl rfl | exact Or.inr rfl)) (pss_cons (ps_set (i := 5) sc__law_follow.nd rfl (by first | exact Or.inl rfl | exact Or.inr rfl) (pe_lst pa_nil)) (pss_cons (ps_for PassesOwn.never rfl (pi_u (pv 3)) (pg_name (i := 6) sc__law_follow.nd rfl (by first | exact Or.inl rfl | exact Or.inr rfl)) (pss_one (ps_set (i := 5) sc__law_follow.nd rfl (by first | exact Or.inl rfl | exact Or.inr rfl) (pe_op opAdd (pv 5) (pe_callG G__law_targets gu (hr.mono (by decide)) rfl T.m__law_targets T.F__law_targets.kp b__law_targets (fun σ => passN σ) (pa_cons (pv 0) (pa_cons (pv 6) (pa_cons (pv 4) pa_nil)))))))) (pss_one (ps_set (i := 3) sc__law_follow.nd rfl (by first | exact Or.inl rfl | exact Or.inr rfl) (pe_callG G__law_ascending gu (hr.mono (by decide)) rfl T.m__law_ascending T.F__law_ascending.kp b__law_ascending (fun σ => passN σ) (pa_cons (pv 5) pa_nil))))))) (pss_one (ps_ret (pv 3)))))
  · unfold t__law_follow
    obtain ⟨_, edges_1, state_1, row_1, rfl, hG⟩ := hA
    walk_at "slots"
    unfold m__law_follow at hG
    refine as_seq (as_asg (ae_lst (aa_cons (ae_var rfl (aa_nil ⟨Nat.le_of_ble_eq_true rfl, ?_⟩)))))
    walk_at "red"
    refine as_seq (for_TO (is := [4]) (ae_var rfl ?_))
    refine ⟨_, _, _, D.int, _, _, _, fun (s_1 : (List Int)) (ds_ : Sls) (T_ : Tb) => ∃ (wx_1 : Option D) (wx_2 : Option D) (wx_3 : Option D), ds_ = [some ((eL (eT3 D.int D.int D.int)) edges_1), some (D.int state_1), some ((eTL D.int) row_1), some ((eL D.int) s_1), wx_1, wx_2, wx_3] ∧ Sb (foot Tf) T_, gbind hG, rfl, ⟨_, _, _, rfl, Sb.r _⟩, ?_, ?_⟩
    · intro x_1 hx_1
      rintro now_1 M_1 hG _ _ ⟨wx_1, wx_2, wx_3, rfl, hs_1⟩
      refine ag_sbS hs_1 ?_
      refine ag_name ?_
      walk_at "red"
      refine as_seq (as_asg (ae_lst (aa_nil ⟨Nat.le_of_ble_eq_true rfl, ?_⟩)))
      walk_at "red"
      refine as_seq (for_LO (is := [6]) (ae_var rfl ?_))
      refine ⟨_, _, _, D.int, _, _, _, fun (s_3 : (List Int)) (ds_ : Sls) (T_ : Tb) => ∃ (wx_4 : Option D), ds_ = [some ((eL (eT3 D.int D.int D.int)) edges_1), some (D.int state_1), some ((eTL D.int) row_1), some ((eL D.int) now_1), some (D.int x_1), some ((eL D.int) s_3), wx_4] ∧ Sb (foot Tf) T_, gbind hG, (.f _), ⟨_, rfl, Sb.r _⟩, (fun _ _ _ _ => .f _), ?_, ?_⟩
      · intro x_2 hx_2
        rintro wider_1 M_2 hG _ _ ⟨wx_4, rfl, hs_2⟩
        refine ag_sbS hs_2 ?_
        refine ag_name ?_
        walk_at "red"
        refine as_asg (ae_op (ae_var rfl (ae_callT no_exc (aa_cons (ae_var rfl (aa_cons (ae_var rfl (aa_cons (ae_var rfl (aa_nil ?_))))))))))
        refine ⟨rfl, edges_1, x_2, x_1, rfl, (gbind hG).imp fun r_1 hG => ⟨toFoot_snd, ?_⟩⟩
        obtain ⟨hc, hG⟩ := gchk hG
        refine rd_catLM (xs := wider_1) (ys := r_1) (e := D.int) (.f _) (.f _) hc ?_
        walk_at "red"
        have hR := gsome hG
        exact ⟨(wider_1 ++ r_1), hR, _, rfl, Sb.r _⟩
      rintro wider_2 hG _ _ ⟨wx_4, rfl, hs_3⟩
      refine as_sb hs_3 ?_
      refine as_asg (ae_callT no_exc (aa_cons (ae_var rfl (aa_nil ?_))))
      refine ⟨rfl, .inl ⟨wider_2, rfl, (gbind hG).imp fun r_2 hG => ⟨toFoot_snd, ?_⟩⟩⟩
      walk_at "red"
      have hR := gsome hG
      exact ⟨r_2, hR, _, _, _, rfl, Sb.r _⟩
    rintro now_2 hG _ _ ⟨wx_1, wx_2, wx_3, rfl, hs_4⟩
    refine as_sb hs_4 ?_
    refine as_ret (ae_var rfl ?_)
    have hR := gsome hG
    exact retT (hR) (fun e he => he)
end

def m__law_forked (edges_1 : (List (Int × Int × Int))) : Option Bool :=
  (forF (S := Unit) (R := Bool) edges_1 () fun ((a_1, s_3, b_1) : (Int × Int × Int)) (_ : Unit) =>
  (forF (S := Unit) (R := Bool) edges_1 () fun ((c_1, t_1, dx_1) : (Int × Int × Int)) (_ : Unit) =>
  if ((decide (a_1 = c_1)) && ((decide (s_3 = t_1)) && (!decide (b_1 = dx_1)))) then
  some (Lp.rt true)
  else
  some (.nx ())).bind fun fl => match fl with
  | .rt rt_1 => some (Lp.rt rt_1)
  | .nx _ =>
  some (.nx ())).bind fun fl => match fl with
  | .rt rt_2 => some rt_2
  | .nx _ =>
  some false
abbrev con__law_forked (K : PySem.W.Frag) : Con0 := fun dd T P PX => dd.length = 1 ∧ ∃ (edges_1 : (List (Int × Int × Int))), dd = [(eL (eT3 D.int D.int D.int)) edges_1] ∧ G (m__law_forked edges_1) fun r => P (D.bl r) (T.map (·.2)) []
section
variable {P : Program} {w : World} {K : PySem.W.Frag} {mg : Str → Option Value} {base : Heap}
theorem sc__law_forked : FnScope ["edges", "a", "s", "b", "c", "t", "d"] ["edges"] (defScope s__law_forked) := ⟨rfl, rfl, rfl, by decide +kernel, rfl, by decide +kernel, by decide +kernel⟩
theorem bi__law_forked {K : PySem.W.Frag} {mg : Str → Option Value} (T : Top K mg) : Binds K T.fd__law_forked ["edges"] [] := T.F__law_forked.bindsN fun _ _ _ _ _ _ us hl => match us, hl with | [_], _ => rfl
def t__law_forked (K : PySem.W.Frag) : TS := (tSeq (tFor (iU K (tVar 0)) (gTup K 3 (gCons (gName 1) (gCons (gName 2) (gCons (gName 3) gNil)))) (tFor (iU K (tVar 0)) (gTup K 3 (gCons (gName 4) (gCons (gName 5) (gCons (gName 6) gNil)))) (tIfS (tAnd (tTest (tOp (rEqU K) (tVar 1) (tVar 4))) (tAnd (tTest (tOp (rEqU K) (tVar 2) (tVar 5))) (tTest (tOp (rNeU K) (tVar 3) (tVar 6))))) (tRet (tC (.bl true))) tNext))) (tRet (tC (.bl false))))
theorem ok__law_forked (T : Top K mg) : FnG P w K mg base CX0 1 (He.ga K "_law_forked") T.fd__law_forked ["edges"] (spA K (con__law_forked K)) := by
  refine okG T.F__law_forked sc__law_forked (spA_ln fun _ _ _ _ h => h.1) (fun cdv A ou s H vs Q E gu hr h => ⟨t__law_forked K , ?_, body h fun F dd Tf P PX hA hl hx => ?_⟩)
  · have hu := hr.units
    have hu5 := hu5_of hr
    have hu1 := hu_of hr
    exact PSs.nox (pss_cons (ps_for PassesOwn.never rfl (pi_u (pv 0)) (pg_tup rfl (pgs_cons (pg_name (i := 1) sc__law_forked.nd rfl (by first | exact Or.inl rfl | exact Or.inr rfl)) (pgs_cons (pg_name (i := 2) sc__law_forked.nd rfl (by first | exact Or.inl rfl | exact Or.inr rfl)) (pgs_cons (pg_name (i := 3) sc__law_forked.nd rfl (by first | exact Or.inl rfl | exact Or.inr rfl)) pgs_nil)))) (pss_one (ps_for PassesOwn.never rfl (pi_u (pv 0)) (pg_tup rfl (pgs_cons (pg_name (i := 4) sc__law_forked.nd rfl (by first | exact Or.inl rfl | exact Or.inr rfl)) (pgs_cons (pg_name (i := 5) sc__law_forked.nd rfl (by first | exact Or.inl rfl | exact Or.inr rfl)) (pgs_cons (pg_name (i := 6) sc__law_forked.nd rfl (by first | exact Or.inl rfl | exact Or.inr rfl)) pgs_nil)))) (pss_one (ps_if (PW.pt (pw_and (pt_cmpR (opEq hu) (pv 1) (pv 4) (by rfl)) (pw_and (pt_cmpR (opEq hu) (pv 2) (pv 5) (by rfl)) (pw_and1 (pt_cmpR (opNe hu) (pv 3) (pv 6) (by rfl)))))) (pss_one (ps_ret pe_bl)) pss_nil))))) (pss_one (ps_ret pe_bl)))
  · unfold t__law_forked
    obtain ⟨_, edges_1, rfl, hG⟩ := hA
    walk_at "slots"
    unfold m__law_forked at hG
    refine as_seq (for_LF (is := [1, 2, 3]) (ae_var rfl ?_))
    refine ⟨_, _, _, _, (eT3 D.int D.int D.int), _, _, _, fun (s_1 : Unit) (ds_ : Sls) (T_ : Tb) => ∃ (wx_1 : Option D) (wx_2 : Option D) (wx_3 : Option D) (wx_4 : Option D) (wx_5 : Option D) (wx_6 : Option D), ds_ = [some ((eL (eT3 D.int D.int D.int)) edges_1), wx_1, wx_2, wx_3, wx_4, wx_5, wx_6] ∧ Sb (foot Tf) T_, gbind hG, (.f _), ⟨_, _, _, _, _, _, rfl, Sb.r _⟩, (fun _ _ _ _ => .f _), ?_, ?_⟩
    · intro x_1 hx_1
      rintro _ M_1 hG _ _ ⟨wx_1, wx_2, wx_3, wx_4, wx_5, wx_6, rfl, hs_1⟩
      refine ag_sbS hs_1 ?_
      obtain ⟨a_1, s_3, b_1⟩ := x_1
      refine ag_tup rfl (ags_cons (ag_name (ags_cons (ag_name (ags_cons (ag_name (ags_nil ?_)))))))
      walk_at "red"
      refine for_LF (is := [4, 5, 6]) (ae_var rfl ?_)
      refine ⟨_, _, _, _, (eT3 D.int D.int D.int), _, _, _, fun (s_4 : Unit) (ds_ : Sls) (T_ : Tb) => ∃ (wx_7 : Option D) (wx_8 : Option D) (wx_9 : Option D), ds_ = [some ((eL (eT3 D.int D.int D.int)) edges_1), some (D.int a_1), some (D.int s_3), some (D.int b_1), wx_7, wx_8, wx_9] ∧ Sb (foot Tf) T_, gbind hG, (.f _), ⟨_, _, _, rfl, Sb.r _⟩, (fun _ _ _ _ => .f _), ?_, ?_⟩
      · intro x_2 hx_2
        rintro _ M_2 hG _ _ ⟨wx_7, wx_8, wx_9, rfl, hs_2⟩
        refine ag_sbS hs_2 ?_
        obtain ⟨c_1, t_1, dx_1⟩ := x_2
        refine ag_tup rfl (ags_cons (ag_name (ags_cons (ag_name (ags_cons (ag_name (ags_nil ?_)))))))
        walk_at "red"
        refine as_if (atp ((decide (a_1 = c_1)) && ((decide (s_3 = t_1)) && (!decide (b_1 = dx_1)))) (at_andP (at_test (ae_op (ae_var rfl (ae_var rfl (rd_eqI ⟨_, rfl, ⟨rfl, rfl⟩⟩))))) (at_andP (at_test (ae_op (ae_var rfl (ae_var rfl (rd_eqI ⟨_, rfl, ⟨rfl, rfl⟩⟩))))) (at_test (ae_op (ae_var rfl (ae_var rfl (rd_neI ⟨_, rfl, ⟨rfl, rfl⟩⟩))))))) ?_)
        refine ⟨fun hb => ?_, fun hb => ?_⟩
        · replace hG := gif_t hG hb
          refine as_ret (ae_bl ?_)
          replace hG := grt hG
          replace hG := grt hG
          have hR := gsome hG
          exact retT (hR) (fun e he => he)
        · replace hG := gif_f hG hb
          refine as_next ?_
          have hR := gsome hG
          exact ⟨(), hR, _, _, _, rfl, Sb.r _⟩
      rintro _ hG _ _ ⟨wx_7, wx_8, wx_9, rfl, hs_3⟩
      have hR := gsome hG
      exact ⟨(), hR, _, _, _, _, _, _, rfl, (Sb.r _).trans hs_3⟩
    rintro _ hG _ _ ⟨wx_1, wx_2, wx_3, wx_4, wx_5, wx_6, rfl, hs_4⟩
    refine as_sb hs_4 ?_
    refine as_ret (ae_bl ?_)
    have hR := gsome hG
    exact retT (hR) (fun e he => he)
end




def m__law_looks (pool_1 : (List Int)) (machine_1 : MMachine) (worlds_1 : Int) (states_1 : Int) (edges_1 : (List (Int × Int × Int))) (finals_1 : (List Int)) : Option (Bool × (List Int)) :=
  (sameO (eT2 D.int D.int) (machine_1.worlds, machine_1.states) (worlds_1, states_1)).bind fun v_1 =>
  if (!v_1) then
  some (false, pool_1)
  else
  ((m__law_ascending_1 edges_1).bind fun r_1 =>
  (sameO (eL (eT3 D.int D.int D.int)) machine_1.edges r_1).bind fun v_2 =>
  if (!v_2) then
  some true
  else
  (m__law_ascending_0 finals_1).bind fun r_2 =>
  (sameO (eL D.int) machine_1.finals r_2).bind fun v_3 =>
  some (!v_3)).bind fun c_1 =>
  if c_1 then
  some (false, pool_1)
  else
  (forF (S := (List Int)) (R := (Bool × (List Int))) (irng 0 6) pool_1 fun (x_1 : Int) (pool_2 : (List Int)) =>
  (m__law_next pool_2 states_1).bind fun (r_3, pool_3) =>
  (m__law_next pool_3 7).bind fun (r_4, pool_4) =>
  chk (r_4.natAbs ≤ 1000000000000000000) <|
  (lcO (irng 0 r_4) pool_4 (fun (x_2 : Int) (s_4 : (List Int)) =>
  (m__law_next s_4 6).bind fun (r_5, pool_6) =>
  some (some r_5, pool_6))).bind fun (l_1, s_4a) =>
  (if ((decide (x_1 < 3)) && (!edges_1.isEmpty)) then
  (m__law_next s_4a (edges_1.length : Int)).bind fun (r_6, pool_8) =>
  (atI edges_1 r_6).bind fun v_4 =>
  chk ([v_4.2.1].length + l_1.length ≤ 100000) <|
  (m__law_next pool_8 (edges_1.length : Int)).bind fun (r_7, pool_9) =>
  (atI edges_1 r_7).bind fun v_5 =>
  some (pool_9, v_5.1, ([v_4.2.1] ++ l_1))
  else
  some (s_4a, r_3, l_1)).bind fun (pool_7, state_1, row_1) =>
  (m__law_follow edges_1 state_1 row_1).bind fun r_8 =>
  (m_Machine_follow machine_1 state_1 row_1).bind fun r_9 =>
  (sameO (eL D.int) r_9 r_8).bind fun v_6 =>
  if (!v_6) then
  some (Lp.rt (false, pool_7))
  else
  (if (!row_1.isEmpty) then
  (atI row_1 0).bind fun v_7 =>
  (m_Machine_targets machine_1 state_1 v_7).bind fun r_10 =>
  (atI row_1 0).bind fun v_8 =>
  (m__law_targets edges_1 state_1 v_8).bind fun r_11 =>
  (sameO (eL D.int) r_10 r_11).bind fun v_9 =>
  some (!v_9)
  else
  some false).bind fun c_2 =>
  if c_2 then
  some (Lp.rt (false, pool_7))
  else
  chk (0 < worlds_1) <|
  (m__law_follow edges_1 (state_1 % worlds_1) row_1).bind fun r_12 =>
  (lcP r_12 (fun (b_1 : Int) => (decide (b_1 ∈ finals_1))) (fun (b_1 : Int) => b_1)).bind fun l_2 =>
  (m_Machine_accepts machine_1 (state_1 % worlds_1) row_1).bind fun b_2 =>
  (sameO D.bl b_2 (decide (0 < (l_2.length : Int)))).bind fun v_10 =>
  if (!v_10) then
  some (Lp.rt (false, pool_7))
  else
  some (.nx pool_7)).bind fun fl => match fl with
  | .rt rt_1 => some rt_1
  | .nx pool_10 =>
  (lcP edges_1 (fun (edge_1 : (Int × Int × Int)) => (decide (edge_1.2.2 < worlds_1))) (fun (edge_1 : (Int × Int × Int)) => edge_1)).bind fun l_3 =>
  ((m_is_clean machine_1).bind fun b_3 =>
  (sameO D.bl b_3 (decide ((l_3.length : Int) = 0))).bind fun v_11 =>
  if v_11 then
  (m_is_deterministic machine_1).bind fun b_4 =>
  (m__law_forked edges_1).bind fun b_5 =>
  (sameO D.bl b_4 (!b_5)).bind fun v_12 =>
  some v_12
  else
  some false).bind fun c_3 =>
  some (c_3, pool_10)
abbrev con__law_looks (K : PySem.W.Frag) : Con0 := fun dd T P PX => dd.length = 6 ∧ ∃ (am_1 : Addr) (pool_1 : (List Int)) (machine_1 : MMachine) (worlds_1 : Int) (states_1 : Int) (edges_1 : (List (Int × Int × Int))) (finals_1 : (List Int)) (R_ : Foot), dd = [.adr am_1, (eMachine K) machine_1, D.int worlds_1, D.int states_1, (eL (eT3 D.int D.int D.int)) edges_1, (eL D.int) finals_1] ∧ T = (am_1, (.lst (pool_1.map D.int))) :: R_ ∧ G (m__law_looks pool_1 machine_1 worlds_1 states_1 edges_1 finals_1) fun r => P (D.bl r.1) ((.lst (r.2.map D.int)) :: R_.map (·.2)) []
section
variable {P : Program} {w : World} {K : PySem.W.Frag} {mg : Str → Option Value} {base : Heap}
theorem sc__law_looks : FnScope ["pool", "machine", "worlds", "states", "edges", "finals", "k", "state", "row", "j", "due", "p", "ends", "b", "clean", "edge"] ["pool", "machine", "worlds", "states", "edges", "finals"] (defScope s__law_looks) := ⟨rfl, rfl, rfl, by decide +kernel, rfl, by decide +kernel, by decide +kernel⟩
theorem bi__law_looks {K : PySem.W.Frag} {mg : Str → Option Value} (T : Top K mg) : Binds K T.fd__law_looks ["pool", "machine", "worlds", "states", "edges", "finals"] [] := T.F__law_looks.bindsN fun _ _ _ _ _ _ us hl => match us, hl with | [_, _, _, _, _, _], _ => rfl
def t__law_looks (K : PySem.W.Frag) : TS := (tSeq (tIfS (tNot (tTru K (tCallG (spA K (con_same3 K)) (fun _ => E0) (tCons (tTup (tCons (tFld K (tVar 1) "worlds") (tCons (tFld K (tVar 1) "states") tNil))) (tCons (tTup (tCons (tVar 2) (tCons (tVar 3) tNil))) tNil))))) (tRet (tC (.bl false))) tNext) (tSeq (tIfS (tOr (tNot (tTru K (tCallG (spA K (con_same3 K)) (fun _ => E0) (tCons (tFld K (tVar 1) "edges") (tCons (tCallG (spA K (con__law_ascending K)) (fun _ => E0) (tCons (tVar 4) tNil)) tNil))))) (tNot (tTru K (tCallG (spA K (con_same3 K)) (fun _ => E0) (tCons (tFld K (tVar 1) "finals") (tCons (tCallG (spA K (con__law_ascending K)) (fun _ => E0) (tCons (tVar 5) tNil)) tNil)))))) (tRet (tC (.bl false))) tNext) (tSeq (tFor (iRng1 (tCons (tC (.int 6)) tNil)) (gName 6) (tSeq (tAsg (tCallG (spA K (con__law_next K)) (fun _ => E0) (tCons (tVar 0) (tCons (tVar 3) tNil))) (gName 7)) (tSeq (tAsg (tCB (rTupleU K) (tCons (tLc (iRng1 (tCons (tCallG (spA K (con__law_next K)) (fun _ => E0) (tCons (tVar 0) (tCons (tC (.int 7)) tNil))) tNil)) (gName 9) tYes (tCallG (spA K (con__law_next K)) (fun _ => E0) (tCons (tVar 0) (tCons (tC (.int 6)) tNil))) [9]) tNil)) (gName 8)) (tSeq (tIfS (tAnd (tTest (tOp rLt (tVar 6) (tC (.int 3)))) (tTru K (tVar 4))) (tSeq (tAsg (tOp (rAdd K) (tTup (tCons (tOp (rIx K) (tOp (rIx K) (tVar 4) (tCallG (spA K (con__law_next K)) (fun _ => E0) (tCons (tVar 0) (tCons (tCB (rLenU K) (tCons (tVar 4) tNil)) tNil)))) (tC (.int 1))) tNil)) (tVar 8)) (gName 8)) (tAsg (tOp (rIx K) (tOp (rIx K) (tVar 4) (tCallG (spA K (con__law_next K)) (fun _ => E0) (tCons (tVar 0) (tCons (tCB (rLenU K) (tCons (tVar 4) tNil)) tNil)))) (tC (.int 0))) (gName 7))) tNext) (tSeq (tAsg (tCallG (spA K (con__law_follow K)) (fun _ => E0) (tCons (tVar 4) (tCons (tVar 7) (tCons (tVar 8) tNil)))) (gName 10)) (tSeq (tIfS (tNot (tTru K (tCallG (spA K (con_same3 K)) (fun _ => E0) (tCons (tMethG (He.ga K "Machine") "follow" (spA K (con_Machine_follow K)) (fun _ => E0) (tVar 1) (tCons (tVar 7) (tCons (tVar 8) tNil))) (tCons (tVar 10) tNil))))) (tRet (tC (.bl false))) tNext) (tSeq (tIfS (tAnd (tTru K (tVar 8)) (tNot (tTru K (tCallG (spA K (con_same3 K)) (fun _ => E0) (tCons (tMethG (He.ga K "Machine") "targets" (spA K (con_Machine_targets K)) (fun _ => E0) (tVar 1) (tCons (tVar 7) (tCons (tOp (rIx K) (tVar 8) (tC (.int 0))) tNil))) (tCons (tCallG (spA K (con__law_targets K)) (fun _ => E0) (tCons (tVar 4) (tCons (tVar 7) (tCons (tOp (rIx K) (tVar 8) (tC (.int 0))) tNil)))) tNil)))))) (tRet (tC (.bl false))) tNext) (tSeq (tAsg (tOp rMod (tCB rInt1 (tCons (tVar 7) tNil)) (tVar 2)) (gName 11)) (tSeq (tAsg (tLc (iU K (tCallG (spA K (con__law_follow K)) (fun _ => E0) (tCons (tVar 4) (tCons (tVar 11) (tCons (tVar 8) tNil))))) (gName 13) (tTest (tOp (rInU K) (tVar 13) (tVar 5))) (tVar 13) [13]) (gName 12)) (tIfS (tNot (tTru K (tCallG (spA K (con_same3 K)) (fun _ => E0) (tCons (tMethG (He.ga K "Machine") "accepts" (spA K (con_Machine_accepts K)) (fun _ => E0) (tVar 1) (tCons (tVar 11) (tCons (tVar 8) tNil))) (tCons (tOp rGt (tCB (rLenU K) (tCons (tVar 12) tNil)) (tC (.int 0))) tNil))))) (tRet (tC (.bl false))) tNext)))))))))) (tSeq (tAsg (tOp (rEqU K) (tCB (rLenU K) (tCons (tLc (iU K (tVar 4)) (gName 15) (tTest (tOp rLt (tOp (rIx K) (tVar 15) (tC (.int 2))) (tVar 2))) (tVar 15) [15]) tNil)) (tC (.int 0))) (gName 14)) (tRet (tAndT K (tCallG (spA K (con_same3 K)) (fun _ => E0) (tCons (tCallG (spA K (con_is_clean K)) (fun _ => E0) (tCons (tVar 1) tNil)) (tCons (tVar 14) tNil))) (tCallG (spA K (con_same3 K)) (fun _ => E0) (tCons (tCallG (spA K (con_is_deterministic K)) (fun _ => E0) (tCons (tVar 1) tNil)) (tCons (tNotT K (tCallG (spA K (con__law_forked K)) (fun _ => E0) (tCons (tVar 4) tNil))) tNil)))))))))
theorem ok__law_looks (T : Top K mg) : FnG P w K mg base CX0 4 (He.ga K "_law_looks") T.fd__law_looks ["pool", "machine", "worlds", "states", "edges", "finals"] (spA K (con__law_looks K)) := by
  have G__law_same := ok__law_same (P := P) (w := w) (base := base) T
  have b__law_same := bi__law_same T
  have G__law_next := ok__law_next (P := P) (w := w) (base := base) T
  have b__law_next := bi__law_next T
  have G__law_follow := ok__law_follow (P := P) (w := w) (base := base) T
  have b__law_follow := bi__law_follow T
  have G_is_clean := ok_is_clean (P := P) (w := w) (base := base) T
  have b_is_clean := bi_is_clean T
  have G_is_deterministic := ok_is_deterministic (P := P) (w := w) (base := base) T
  have b_is_deterministic := bi_is_deterministic T
  have G__law_ascending := ok__law_ascending (P := P) (w := w) (base := base) T
  have b__law_ascending := bi__law_ascending T
  have G_Machine_follow := ok_Machine_follow (P := P) (w := w) (base := base) T
  have b_Machine_follow := bi_Machine_follow T
  have G_Machine_accepts := ok_Machine_accepts (P := P) (w := w) (base := base) T
  have b_Machine_accepts := bi_Machine_accepts T
  have G__law_forked := ok__law_forked (P := P) (w := w) (base := base) T
  have b__law_forked := bi__law_forked T
  have G_Machine_targets := ok_Machine_targets (P := P) (w := w) (base := base) T
  have b_Machine_targets := bi_Machine_targets T
  have G__law_targets := ok__law_targets (P := P) (w := w) (base := base) T
  have b__law_targets := bi__law_targets T
  refine okG T.F__law_looks sc__law_looks (spA_ln fun _ _ _ _ h => h.1) (fun cdv A ou s H vs Q E gu hr h => ⟨t__law_looks K , ?_, body h fun F dd Tf P PX hA hl hx => ?_⟩)
  · have hu := hr.units
    have hu5 := hu5_of hr
    have hu1 := hu_of hr
    exact PSs.nox (pss_cons (ps_if (pt_not (ptT (pe_callG G__law_same gu (hr.mono (by decide)) rfl T.m__law_same T.F__law_same.kp b__law_same (fun σ => passN σ) (pa_cons (pe_tup (pa_cons (pe_fld (pv 1) rfl) (pa_cons (pe_fld (pv 1) rfl) pa_nil))) (pa_cons (pe_tup (pa_cons (pv 2) (pa_cons (pv 3) pa_nil))) pa_nil))) (by intro _; rfl))) (pss_one (ps_ret pe_bl)) pss_nil) (pss_cons (ps_if (PW.pt (pw_or (pt_not (ptT (pe_callG G__law_same gu (hr.mono (by decide)) rfl T.m__law_same T.F__law_same.kp b__law_same (fun σ => passN σ) (pa_cons (pe_fld (pv 1) rfl) (pa_cons (pe_callG G__law_ascending gu (hr.mono (by decide)) rfl T.m__law_ascending T.F__law_ascending.kp b__law_ascending (fun σ => passN σ) (pa_cons (pv 4) pa_nil)) pa_nil))) (by intro _; rfl))) (pw_or1 (pt_not (ptT (pe_callG G__law_same gu (hr.mono (by decide)) rfl T.m__law_same T.F__law_same.kp b__law_same (fun σ => passN σ) (pa_cons (pe_fld (pv 1) rfl) (pa_cons (pe_callG G__law_ascending gu (hr.mono (by decide)) rfl T.m__law_ascending T.F__law_ascending.kp b__law_ascending (fun σ => passN σ) (pa_cons (pv 5) pa_nil)) pa_nil))) (by intro _; rfl)))))) (pss_one (ps_ret pe_bl)) pss_nil) (pss_cons (ps_for PassesOwn.never rfl (pi_range1 rfl T.g_range (pa_cons pe_int pa_nil)) (pg_name (i := 6) sc__law_looks.nd rfl (by first | exact Or.inl rfl | exact Or.inr rfl)) (pss_cons (ps_set (i := 7) sc__law_looks.nd rfl (by first | exact Or.inl rfl | exact Or.inr rfl) (pe_callG G__law_next gu (hr.mono (by decide)) rfl T.m__law_next T.F__law_next.kp b__law_next (fun σ => passN σ) (pa_cons (pv 0) (pa_cons (pv 3) pa_nil)))) (pss_cons (ps_set (i := 8) sc__law_looks.nd rfl (by first | exact Or.inl rfl | exact Or.inr rfl) (pe_callTy call_tuple_of (by rfl) T.g_tuple (by decide +kernel) (pa_cons (pe_lc (own := [("j", 9)]) (g := (gName 9)) (tt := tYes) (te := (tCallG (spA K (con__law_next K)) (fun _ => E0) (tCons (tVar 0) (tCons (tC (.int 6)) tNil)))) rfl sc__law_looks.nd (pi_range1 rfl T.g_range (pa_cons (pe_callG G__law_next gu (hr.mono (by decide)) rfl T.m__law_next T.F__law_next.kp b__law_next (fun σ => passN σ) (pa_cons (pv 0) (pa_cons pe_int pa_nil))) pa_nil)) (blkOk_by (own := [("j", 9)]) (N := ["pool", "machine", "worlds", "states", "edges", "finals", "k", "state", "row", "j", "due", "p", "ends", "b", "clean", "edge"]) (sc := defScope s__law_looks) (by decide +kernel)) (fun _ _ _ _ _ => (pg_name (i := 9) sc__law_looks.nd rfl (by first | exact Or.inl rfl | exact Or.inr rfl))) (fun _ _ _ _ _ => pts_nil) (fun _ _ _ _ _ => (pe_callG G__law_next gu (hr.mono (by decide)) rfl T.m__law_next T.F__law_next.kp b__law_next (fun σ => passN σ) (pa_cons (pv 0) (pa_cons pe_int pa_nil))))) pa_nil))) (pss_cons (ps_if (PW.pt (pw_and (pt_cmpR op_lt (pv 6) pe_int (by rfl)) (pw_and1 (ptT (pv 4) (by intro _; rfl))))) (pss_cons (ps_set (i := 8) sc__law_looks.nd rfl (by first | exact Or.inl rfl | exact Or.inr rfl) (pe_op opAdd (pe_tup (pa_cons (pe_ix ix_seq (pe_ix ix_seq (pv 4) (pe_callG G__law_next gu (hr.mono (by decide)) rfl T.m__law_next T.F__law_next.kp b__law_next (fun σ => passN σ) (pa_cons (pv 0) (pa_cons (pe_callB call_len_seq (by rfl) T.g_len boot_len (pa_cons (pv 4) pa_nil)) pa_nil))) (fun _ _ => rfl)) pe_int (fun _ _ => rfl)) pa_nil)) (pv 8))) (pss_one (ps_set (i := 7) sc__law_looks.nd rfl (by first | exact Or.inl rfl | exact Or.inr rfl) (pe_ix ix_seq (pe_ix ix_seq (pv 4) (pe_callG G__law_next gu (hr.mono (by decide)) rfl T.m__law_next T.F__law_next.kp b__law_next (fun σ => passN σ) (pa_cons (pv 0) (pa_cons (pe_callB call_len_seq (by rfl) T.g_len boot_len (pa_cons (pv 4) pa_nil)) pa_nil))) (fun _ _ => rfl)) pe_int (fun _ _ => rfl))))) pss_nil) (pss_cons (ps_set (i := 10) sc__law_looks.nd rfl (by first | exact Or.inl rfl | exact Or.inr rfl) (pe_callG G__law_follow gu (hr.mono (by decide)) rfl T.m__law_follow T.F__law_follow.kp b__law_follow (fun σ => passN σ) (pa_cons (pv 4) (pa_cons (pv 7) (pa_cons (pv 8) pa_nil))))) (pss_cons (ps_if (pt_not (ptT (pe_callG G__law_same gu (hr.mono (by decide)) rfl T.m__law_same T.F__law_same.kp b__law_same (fun σ => passN σ) (pa_cons (pe_methG (pv 1) T.cl_Machine T.me_Machine_follow G_Machine_follow gu (hr.mono (by decide)) b_Machine_follow (fun σ => passN σ) (pa_cons (pv 7) (pa_cons (pv 8) pa_nil))) (pa_cons (pv 10) pa_nil))) (by intro _; rfl))) (pss_one (ps_ret pe_bl)) pss_nil) (pss_cons (ps_if (PW.pt (pw_and (ptT (pv 8) (by intro _; rfl)) (pw_and1 (pt_not (ptT (pe_callG G__law_same gu (hr.mono (by decide)) rfl T.m__law_same T.F__law_same.kp b__law_same (fun σ => passN σ) (pa_cons (pe_methG (pv 1) T.cl_Machine T.me_Machine_targets G_Machine_targets gu (hr.mono (by decide)) b_Machine_targets (fun σ => passN σ) (pa_cons (pv 7) (pa_cons (pe_ix ix_seq (pv 8) pe_int (fun _ _ => rfl)) pa_nil))) (pa_cons (pe_callG G__law_targets gu (hr.mono (by decide)) rfl T.m__law_targets T.F__law_targets.kp b__law_targets (fun σ => passN σ) (pa_cons (pv 4) (pa_cons (pv 7) (pa_cons (pe_ix ix_seq (pv 8) pe_int (fun _ _ => rfl)) pa_nil)))) pa_nil))) (by intro _; rfl)))))) (pss_one (ps_ret pe_bl)) pss_nil) (pss_cons (ps_set (i := 11) sc__law_looks.nd rfl (by first | exact Or.inl rfl | exact Or.inr rfl) (pe_op op_mod (pe_callTy call_int1 (by rfl) T.g_int (by decide +kernel) (pa_cons (pv 7) pa_nil)) (pv 2))) (pss_cons (ps_setLc (i := 12) (own := [("b", 13)]) (g := (gName 13)) (tt := (tTest (tOp (rInU K) (tVar 13) (tVar 5)))) (te := (tVar 13)) rfl sc__law_looks.nd rfl rfl (sw_true rfl rfl rfl (by decide +kernel)) (pi_u (pe_callG G__law_follow gu (hr.mono (by decide)) rfl T.m__law_follow T.F__law_follow.kp b__law_follow (fun σ => passN σ) (pa_cons (pv 4) (pa_cons (pv 11) (pa_cons (pv 8) pa_nil))))) (blkOk_by (own := [("b", 13)]) (N := ["pool", "machine", "worlds", "states", "edges", "finals", "k", "state", "row", "j", "due", "p", "ends", "b", "clean", "edge"]) (sc := defScope s__law_looks) (by decide +kernel)) (fun _ _ _ _ _ => (pg_name (i := 13) sc__law_looks.nd rfl (by first | exact Or.inl rfl | exact Or.inr rfl))) (fun _ _ _ _ _ => (pts_one (pt_cmpR (opIn hu5) (pv 13) (pv 5) (by rfl)))) (fun _ _ _ _ _ => (pv 13))) (pss_one (ps_if (pt_not (ptT (pe_callG G__law_same gu (hr.mono (by decide)) rfl T.m__law_same T.F__law_same.kp b__law_same (fun σ => passN σ) (pa_cons (pe_methG (pv 1) T.cl_Machine T.me_Machine_accepts G_Machine_accepts gu (hr.mono (by decide)) b_Machine_accepts (fun σ => passN σ) (pa_cons (pv 11) (pa_cons (pv 8) pa_nil))) (pa_cons (pe_cmpR op_gt (pe_callB call_len_seq (by rfl) T.g_len boot_len (pa_cons (pv 12) pa_nil)) pe_int (by rfl)) pa_nil))) (by intro _; rfl))) (pss_one (ps_ret pe_bl)) pss_nil))))))))))) (pss_cons (ps_set (i := 14) sc__law_looks.nd rfl (by first | exact Or.inl rfl | exact Or.inr rfl) (pe_cmpR (opEq hu) (pe_callB call_len_seq (by rfl) T.g_len boot_len (pa_cons (pe_lc (own := [("edge", 15)]) (g := (gName 15)) (tt := (tTest (tOp rLt (tOp (rIx K) (tVar 15) (tC (.int 2))) (tVar 2)))) (te := (tVar 15)) rfl sc__law_looks.nd (pi_u (pv 4)) (blkOk_by (own := [("edge", 15)]) (N := ["pool", "machine", "worlds", "states", "edges", "finals", "k", "state", "row", "j", "due", "p", "ends", "b", "clean", "edge"]) (sc := defScope s__law_looks) (by decide +kernel)) (fun _ _ _ _ _ => (pg_name (i := 15) sc__law_looks.nd rfl (by first | exact Or.inl rfl | exact Or.inr rfl))) (fun _ _ _ _ _ => (pts_one (pt_cmpR op_lt (pe_ix ix_seq (pv 15) pe_int (fun _ _ => rfl)) (pv 2) (by rfl)))) (fun _ _ _ _ _ => (pv 15))) pa_nil)) pe_int (by rfl))) (pss_one (ps_ret (pe_andT (pe_callG G__law_same gu (hr.mono (by decide)) rfl T.m__law_same T.F__law_same.kp b__law_same (fun σ => passN σ) (pa_cons (pe_callG G_is_clean gu (hr.mono (by decide)) rfl T.m_is_clean T.F_is_clean.kp b_is_clean (fun σ => passN σ) (pa_cons (pv 1) pa_nil)) (pa_cons (pv 14) pa_nil))) (pe_one (pe_callG G__law_same gu (hr.mono (by decide)) rfl T.m__law_same T.F__law_same.kp b__law_same (fun σ => passN σ) (pa_cons (pe_callG G_is_deterministic gu (hr.mono (by decide)) rfl T.m_is_deterministic T.F_is_deterministic.kp b_is_deterministic (fun σ => passN σ) (pa_cons (pv 1) pa_nil)) (pa_cons (pe_notT (pe_callG G__law_forked gu (hr.mono (by decide)) rfl T.m__law_forked T.F__law_forked.kp b__law_forked (fun σ => passN σ) (pa_cons (pv 4) pa_nil))) pa_nil)))))))))))
  · unfold t__law_looks
    obtain ⟨_, am_1, pool_1, machine_1, worlds_1, states_1, edges_1, finals_1, R_, rfl, rfl, hG⟩ := hA
    walk_at "slots"
    unfold m__law_looks at hG
    refine as_seq (as_if (at_not (at_tru (ae_callT no_exc (aa_cons (ae_tup (aa_cons (ae_fld T.cl_Machine T.na_Machine_worlds (ae_var rfl ⟨_, .f (by rfl), aa_cons (ae_fld T.cl_Machine T.na_Machine_states (ae_var rfl ⟨_, .f (by rfl), aa_nil ⟨Nat.le_of_ble_eq_true rfl, aa_cons (ae_tup (aa_cons (ae_var rfl (aa_cons (ae_var rfl (aa_nil ⟨Nat.le_of_ble_eq_true rfl, aa_nil ?_⟩))))))⟩⟩))⟩)))))))))
    refine ⟨rfl, _, _, (eT2 D.int D.int), _, _, _, (machine_1.worlds, machine_1.states), (worlds_1, states_1), (pl_T2 pl_I pl_I), rfl, (dv_f (pl_T2 pl_I pl_I) (machine_1.worlds, machine_1.states)).foot.s, (dv_f (pl_T2 pl_I pl_I) (worlds_1, states_1)).foot.s, (gbind hG).imp fun v_1 hG => ⟨toFoot_snd, ⟨_, tru_bl, ?_⟩⟩⟩
    refine ⟨fun hb => ?_, fun hb => ?_⟩
    · replace hG := gif_t hG hb
      refine as_ret (ae_bl ?_)
      have hR := gsome hG
      exact retM (hR) (List.mem_cons_self ..) (fun e he => (List.mem_cons_of_mem _ he))
    · replace hG := gif_f hG hb
      refine as_next ?_
      refine as_seq (as_if ?_)
      obtain ⟨Qj, hJ, hK⟩ : ∃ Q, G _ Q ∧ Q = _ := ⟨_, gbind hG, rfl⟩
      refine AT.mid (fun b_ T_ =>  T_ = (⟨am_1, false, (.lst (pool_1.map D.int))⟩ :: foot R_) ∧ Qj b_) ?_ ?_
      · clear hG hK
        have hG := hJ
        refine at_or (at_not (at_tru (ae_callT no_exc (aa_cons (ae_fld T.cl_Machine T.na_Machine_edges (ae_var rfl ⟨_, .f (by rfl), aa_cons (ae_callT no_exc (aa_cons (ae_var rfl (aa_nil ?_))))⟩))))))
        refine ⟨rfl, .inr ⟨edges_1, rfl, (gbind hG).imp fun r_1 hG => ⟨toFoot_snd, aa_nil ?_⟩⟩⟩
        refine ⟨rfl, _, _, (eL (eT3 D.int D.int D.int)), _, _, _, machine_1.edges, r_1, (pl_L (pl_T3 pl_I pl_I pl_I)), rfl, (dv_f (pl_L (pl_T3 pl_I pl_I pl_I)) machine_1.edges).foot.s, (dv_f (pl_L (pl_T3 pl_I pl_I pl_I)) r_1).foot.s, (gbind hG).imp fun v_2 hG => ⟨toFoot_snd, ⟨_, tru_bl, ?_⟩⟩⟩
        refine if_b (fun hb => ?_) (fun hb => ?_)
        · replace hG := gif_t hG hb
          exact ⟨rfl, gsome hG⟩
        · replace hG := gif_f hG hb
          refine at_not (at_tru (ae_callT no_exc (aa_cons (ae_fld T.cl_Machine T.na_Machine_finals (ae_var rfl ⟨_, .f (by rfl), aa_cons (ae_callT no_exc (aa_cons (ae_var rfl (aa_nil ?_))))⟩)))))
          refine ⟨rfl, .inl ⟨finals_1, rfl, (gbind hG).imp fun r_2 hG => ⟨toFoot_snd, aa_nil ?_⟩⟩⟩
          exact ⟨rfl, _, _, (eL D.int), _, _, _, machine_1.finals, r_2, (pl_L pl_I), rfl, (dv_f (pl_L pl_I) machine_1.finals).foot.s, (dv_f (pl_L pl_I) r_2).foot.s, (gbind hG).imp fun v_3 hG => ⟨toFoot_snd, ⟨_, tru_bl, ⟨rfl, gsome hG⟩⟩⟩⟩
      subst hK
      rintro c_1 _ ⟨rfl, hG⟩
      refine ⟨fun hb => ?_, fun hb => ?_⟩
      · replace hG := gif_t hG hb
        refine as_ret (ae_bl ?_)
        have hR := gsome hG
        exact retM (hR) (List.mem_cons_self ..) (fun e he => (List.mem_cons_of_mem _ he))
      · replace hG := gif_f hG hb
        refine as_next ?_
        refine as_seq (for_RF (is := [6]) (aa_cons (ae_int (aa_nil ?_))))
        refine ⟨_, _, _, _, _, _, fun (s_1 : (List Int)) (ds_ : Sls) (T_ : Tb) => ∃ (wx_1 : Option D) (wx_2 : Option D) (wx_3 : Option D) (wx_4 : Option D) (wx_5 : Option D) (wx_6 : Option D) (wx_7 : Option D) (wx_8 : Option D) (wx_9 : Option D) (wx_10 : Option D), ds_ = [some (.adr am_1), some ((eMachine K) machine_1), some (D.int worlds_1), some (D.int states_1), some ((eL (eT3 D.int D.int D.int)) edges_1), some ((eL D.int) finals_1), wx_1, wx_2, wx_3, wx_4, wx_5, wx_6, wx_7, wx_8, wx_9, wx_10] ∧ Sb (⟨am_1, false, (.lst (s_1.map D.int))⟩ :: foot R_) T_, rfl, (by decide), gbind hG, ⟨_, _, _, _, _, _, _, _, _, _, rfl, Sb.r _⟩, ?_, ?_⟩
        · intro x_1 hx_1
          rintro pool_2 M_1 hG _ _ ⟨wx_1, wx_2, wx_3, wx_4, wx_5, wx_6, wx_7, wx_8, wx_9, wx_10, rfl, hs_1⟩
          refine ag_sbS hs_1 ?_
          refine ag_name ?_
          walk_at "red"
          refine as_seq (as_asg (ae_callM 0 no_exc (aa_cons (ae_var rfl (aa_cons (ae_var rfl (aa_nil ?_)))))))
          refine ⟨_, rfl, ⟨rfl, _, pool_2, states_1, _, rfl, rfl, (gbind hG).imp fun ⟨r_3, pool_3⟩ hG => ⟨_, congrArg _ toFoot_snd, ?_⟩⟩⟩
          walk_at "red"
          refine as_seq (as_asg (ae_cb (aa_cons (lcR_G (is := [9]) (fun _ h => h) (aa_cons (ae_callM 0 no_exc (aa_cons (ae_var rfl (aa_cons (ae_int (aa_nil ?_)))))))))))
          refine ⟨_, rfl, ⟨rfl, _, pool_3, 7, _, rfl, rfl, (gbind hG).imp fun ⟨r_4, pool_4⟩ hG => ⟨_, congrArg _ toFoot_snd, aa_nil ?_⟩⟩⟩
          obtain ⟨hn_1, hG⟩ := gchk hG
          refine ⟨_, _, _, D.int, _, _, _, fun (s_3 : (List Int)) T_ => T_ = ⟨am_1, false, (.lst (s_3.map D.int))⟩ :: foot R_, rfl, hn_1, gbind hG, rfl, ?_, ?_⟩
          · intro x_2 hx_2 s_4 M_2 hG Tx_1 hS_1
            subst hS_1
            refine ag_name ?_
            walk_at "red"
            walk_at "wipe"
            refine at_yes ?_
            refine if_t rfl ?_
            refine ae_callM 0 no_exc (aa_cons (ae_var rfl (aa_cons (ae_int (aa_nil ?_)))))
            exact ⟨_, rfl, ⟨rfl, _, s_4, 6, _, rfl, rfl, (gbind hG).imp fun ⟨r_5, pool_6⟩ hG => ⟨_, congrArg _ toFoot_snd, ⟨r_5, pool_6, gsome hG, rfl, rfl⟩⟩⟩⟩
          intro l_1 s_4a hG _ hS
          subst hS
          refine aa_nil (rc_tupL (xs := l_1.map D.int) (.f _) ?_)
          walk_at "red"
          obtain ⟨Qj, hJ, hK⟩ : ∃ Q, G _ Q ∧ Q = _ := ⟨_, gbind hG, rfl⟩
          refine as_mid (fun a_ b_ => ∃ s_, Qj s_ ∧ (fun (s_5 : (List Int) × Int × (List Int)) (ds_ : Sls) (T_ : Tb) => ∃ (wx_11 : Option D) (wx_12 : Option D) (wx_13 : Option D) (wx_14 : Option D) (wx_15 : Option D) (wx_16 : Option D) (wx_17 : Option D), ds_ = [some (.adr am_1), some ((eMachine K) machine_1), some (D.int worlds_1), some (D.int states_1), some ((eL (eT3 D.int D.int D.int)) edges_1), some ((eL D.int) finals_1), some (D.int x_1), some (D.int s_5.2.1), some ((eTL D.int) s_5.2.2), wx_11, wx_12, wx_13, wx_14, wx_15, wx_16, wx_17] ∧ Sb (⟨am_1, false, (.lst (s_5.1.map D.int))⟩ :: foot R_) T_) s_ a_ b_) ?_ ?_
          · replace hG := hJ
            clear hJ hK
            refine as_if (atp ((decide (x_1 < 3)) && (!edges_1.isEmpty)) (at_andP (at_test (ae_op (ae_var rfl (ae_int (rd_lt ⟨_, rfl, ⟨rfl, rfl⟩⟩))))) (at_tru (ae_var rfl (tru_LM (xs := edges_1) (e := (eT3 D.int D.int D.int)) (.f _) ⟨rfl, rfl⟩)))) ?_)
            refine ⟨fun hb => ?_, fun hb => ?_⟩
            · replace hG := gif_t hG hb
              refine as_seq (as_asg (ae_op (ae_tup (aa_cons (ae_op (ae_op (ae_var rfl (ae_callM 0 no_exc (aa_cons (ae_var rfl (aa_cons (ae_cb (aa_cons (ae_var rfl (aa_nil (rc_lenLM (xs := edges_1) (e := (eT3 D.int D.int D.int)) (.f _) (aa_nil ?_)))))))))))))))))
              refine ⟨_, rfl, ⟨rfl, _, s_4a, (edges_1.length : Int), _, rfl, rfl, (gbind hG).imp fun ⟨r_6, pool_8⟩ hG => ⟨_, congrArg _ toFoot_snd, ?_⟩⟩⟩
              obtain ⟨v_4, e_1, hG⟩ := gbind hG
              refine rd_ixLM (xs := edges_1) (e := (eT3 D.int D.int D.int)) (.f _) e_1 (ae_int (rd_ixT (by rfl) (aa_nil ⟨Nat.le_of_ble_eq_true rfl, ae_var rfl ?_⟩)))
              obtain ⟨hc, hG⟩ := gchk hG
              refine rd_catTM (xs := [v_4.2.1]) (ys := l_1) (e := D.int) hc ?_
              walk_at "red"
              refine as_asg (ae_op (ae_op (ae_var rfl (ae_callM 0 no_exc (aa_cons (ae_var rfl (aa_cons (ae_cb (aa_cons (ae_var rfl (aa_nil (rc_lenLM (xs := edges_1) (e := (eT3 D.int D.int D.int)) (.f _) (aa_nil ?_)))))))))))))
              refine ⟨_, rfl, ⟨rfl, _, pool_8, (edges_1.length : Int), _, rfl, rfl, (gbind hG).imp fun ⟨r_7, pool_9⟩ hG => ⟨_, congrArg _ toFoot_snd, ?_⟩⟩⟩
              obtain ⟨v_5, e_2, hG⟩ := gbind hG
              refine rd_ixLM (xs := edges_1) (e := (eT3 D.int D.int D.int)) (.f _) e_2 (ae_int (rd_ixT (by rfl) ?_))
              walk_at "red"
              have hR := gsome hG
              exact ⟨(pool_9, v_5.1, ([v_4.2.1] ++ l_1)), hR, _, _, _, _, _, _, _, rfl, Sb.r _⟩
            · replace hG := gif_f hG hb
              refine as_next ?_
              have hR := gsome hG
              exact ⟨(s_4a, r_3, l_1), hR, _, _, _, _, _, _, _, rfl, Sb.r _⟩
          subst hK
          rintro _ _ ⟨⟨pool_7, state_1, row_1⟩, hG, wx_11, wx_12, wx_13, wx_14, wx_15, wx_16, wx_17, rfl, hs_2⟩
          refine as_sb hs_2 ?_
          refine as_seq (as_asg (ae_callT no_exc (aa_cons (ae_var rfl (aa_cons (ae_var rfl (aa_cons (ae_var rfl (aa_nil ?_)))))))))
          refine ⟨rfl, edges_1, state_1, row_1, rfl, (gbind hG).imp fun r_8 hG => ⟨toFoot_snd, ?_⟩⟩
          walk_at "red"
          refine as_seq (as_if (at_not (at_tru (ae_callT no_exc (aa_cons (AE.froz (ae_methT no_exc (ae_var rfl ⟨_, _, rfl, by decide +kernel, aa_cons (ae_var rfl (aa_cons (ae_var rfl (aa_nil ?_))))⟩))))))))
          refine ⟨rfl, machine_1, state_1, row_1, rfl, (gbind hG).imp fun r_9 hG a_1 => ⟨toFoot_snd, ⟨0, _, rfl, rfl, rfl, aa_cons (ae_var rfl (aa_nil ?_))⟩⟩⟩
          refine ⟨rfl, _, _, (eL D.int), _, _, _, r_9, r_8, (pl_L pl_I), rfl, (dv_f (pl_L pl_I) r_9).foot.s, (dv_f (pl_L pl_I) r_8).foot.s, (gbind hG).imp fun v_6 hG => ⟨toFoot_snd, ⟨_, tru_bl, ?_⟩⟩⟩
          refine ⟨fun hb => ?_, fun hb => ?_⟩
          · replace hG := gif_t hG hb
            refine as_ret (ae_bl ?_)
            replace hG := grt hG
            have hR := gsome hG
            exact retM (hR) (List.mem_cons_self ..) (fun e he => (List.mem_cons_of_mem _ he))
          · replace hG := gif_f hG hb
            refine as_next ?_
            refine as_seq (as_if ?_)
            obtain ⟨Qj, hJ, hK⟩ : ∃ Q, G _ Q ∧ Q = _ := ⟨_, gbind hG, rfl⟩
            refine AT.mid (fun b_ T_ =>  T_ = (⟨am_1, false, (.lst (pool_7.map D.int))⟩ :: foot R_) ∧ Qj b_) ?_ ?_
            · clear hG hK
              have hG := hJ
              refine at_and (at_tru (ae_var rfl (tru_TM (xs := row_1) (e := D.int) ?_)))
              refine if_b (fun hb => ?_) (fun hb => ?_)
              · replace hG := gif_t hG hb
                refine at_not (at_tru (ae_callT no_exc (aa_cons (AE.froz (ae_methT no_exc (ae_var rfl ⟨_, _, rfl, by decide +kernel, aa_cons (ae_var rfl (aa_cons (ae_op (ae_var rfl (ae_int ?_)))))⟩))))))
                obtain ⟨v_7, e_3, hG⟩ := gbind hG
                refine rd_ixTM (xs := row_1) (e := D.int) e_3 (aa_nil ?_)
                refine ⟨rfl, machine_1, state_1, v_7, rfl, (gbind hG).imp fun r_10 hG a_2 => ⟨toFoot_snd, ⟨0, _, rfl, rfl, rfl, aa_cons (ae_callT no_exc (aa_cons (ae_var rfl (aa_cons (ae_var rfl (aa_cons (ae_op (ae_var rfl (ae_int ?_)))))))))⟩⟩⟩
                obtain ⟨v_8, e_4, hG⟩ := gbind hG
                refine rd_ixTM (xs := row_1) (e := D.int) e_4 (aa_nil ?_)
                refine ⟨rfl, edges_1, state_1, v_8, rfl, (gbind hG).imp fun r_11 hG => ⟨toFoot_snd, aa_nil ?_⟩⟩
                exact ⟨rfl, _, _, (eL D.int), _, _, _, r_10, r_11, (pl_L pl_I), rfl, (dv_f (pl_L pl_I) r_10).foot.s, (dv_f (pl_L pl_I) r_11).foot.s, (gbind hG).imp fun v_9 hG => ⟨toFoot_snd, ⟨_, tru_bl, ⟨rfl, gsome hG⟩⟩⟩⟩
              · replace hG := gif_f hG hb
                exact ⟨rfl, gsome hG⟩
            subst hK
            rintro c_2 _ ⟨rfl, hG⟩
            refine ⟨fun hb => ?_, fun hb => ?_⟩
            · replace hG := gif_t hG hb
              refine as_ret (ae_bl ?_)
              replace hG := grt hG
              have hR := gsome hG
              exact retM (hR) (List.mem_cons_self ..) (fun e he => (List.mem_cons_of_mem _ he))
            · replace hG := gif_f hG hb
              refine as_next ?_
              refine as_seq (as_asg (ae_op (ae_cb (aa_cons (ae_var rfl (aa_nil (rc_int (ae_var rfl ?_))))))))
              obtain ⟨hc, hG⟩ := gchk hG
              refine rd_mod hc ?_
              walk_at "red"
              refine as_seq (as_asg (lcL_G (is := [13]) (fun _ h => h) (ae_callT no_exc (aa_cons (ae_var rfl (aa_cons (ae_var rfl (aa_cons (ae_var rfl (aa_nil ?_))))))))))
              refine ⟨rfl, edges_1, (state_1 % worlds_1), row_1, rfl, (gbind hG).imp fun r_12 hG => ⟨toFoot_snd, ?_⟩⟩
              refine ⟨_, _, _, _, D.int, D.int, _, _, _, fun (_ : Unit) T_ => T_ = ⟨am_1, false, (.lst (pool_7.map D.int))⟩ :: foot R_, glcP (gbind hG), (.f _), rfl, (fun _ _ h => by subst h; exact (.f _)), ?_, ?_⟩
              · intro x_3 hx_3 s_6 M_3 hG Tx_2 hS_2
                subst hS_2
                refine ag_name ?_
                walk_at "red"
                walk_at "wipe"
                refine at_test (ae_op (ae_var rfl (ae_var rfl (rd_inM pl_I (by decide) (x := x_3) (xs := finals_1) (dv_f pl_I x_3) (.f _) ⟨_, rfl, ?_⟩))))
                refine if_b (fun hb => ?_) (fun hb => ?_)
                · skip
                  exact ae_var rfl ⟨x_3, (), pst_t hG hb, rfl, rfl⟩
                · exact ⟨(), pst_f hG hb, rfl⟩
              intro l_2 _ hG _ hS
              subst hS
              walk_at "red"
              refine as_if (at_not (at_tru (ae_callT no_exc (aa_cons (ae_methT no_exc (ae_var rfl ⟨_, _, rfl, by decide +kernel, aa_cons (ae_var rfl (aa_cons (ae_var rfl (aa_nil ?_))))⟩))))))
              refine ⟨rfl, machine_1, (state_1 % worlds_1), row_1, rfl, (gbind hG).imp fun b_2 hG => ⟨toFoot_snd, aa_cons (ae_op (ae_cb (aa_cons (ae_var rfl (aa_nil (rc_lenLM (xs := l_2) (e := D.int) (.f _) (ae_int (rd_gt (aa_nil ?_)))))))))⟩⟩
              refine ⟨rfl, _, _, D.bl, _, _, _, b_2, (decide (0 < (l_2.length : Int))), pl_B, rfl, (dv_f pl_B b_2).foot.s, (dv_f pl_B (decide (0 < (l_2.length : Int)))).foot.s, (gbind hG).imp fun v_10 hG => ⟨toFoot_snd, ⟨_, tru_bl, ?_⟩⟩⟩
              refine ⟨fun hb => ?_, fun hb => ?_⟩
              · replace hG := gif_t hG hb
                refine as_ret (ae_bl ?_)
                replace hG := grt hG
                have hR := gsome hG
                exact retM (hR) (List.mem_cons_self ..) (fun e he => (List.mem_cons_of_mem _ he))
              · replace hG := gif_f hG hb
                refine as_next ?_
                have hR := gsome hG
                exact ⟨pool_7, hR, _, _, _, _, _, _, _, _, _, _, rfl, Sb.r _⟩
        rintro pool_10 hG _ _ ⟨wx_1, wx_2, wx_3, wx_4, wx_5, wx_6, wx_7, wx_8, wx_9, wx_10, rfl, hs_3⟩
        refine as_sb hs_3 ?_
        refine as_seq (as_asg (ae_op (ae_cb (aa_cons (lcL_G (is := [15]) (fun _ h => h) (ae_var rfl ?_))))))
        refine ⟨_, _, _, _, (eT3 D.int D.int D.int), (eT3 D.int D.int D.int), _, _, _, fun (_ : Unit) T_ => T_ = ⟨am_1, false, (.lst (pool_10.map D.int))⟩ :: foot R_, glcP (gbind hG), (.f _), rfl, (fun _ _ h => by subst h; exact (.f _)), ?_, ?_⟩
        · intro x_4 hx_4 s_7 M_4 hG Tx_3 hS_3
          subst hS_3
          refine ag_name ?_
          walk_at "red"
          walk_at "wipe"
          refine at_test (ae_op (ae_op (ae_var rfl (ae_int (rd_ixT (by rfl) (ae_var rfl (rd_lt ⟨_, rfl, ?_⟩)))))))
          refine if_b (fun hb => ?_) (fun hb => ?_)
          · skip
            exact ae_var rfl ⟨x_4, (), pst_t hG hb, rfl, rfl⟩
          · exact ⟨(), pst_f hG hb, rfl⟩
        intro l_3 _ hG _ hS
        subst hS
        refine aa_nil (rc_lenLM (xs := l_3) (e := (eT3 D.int D.int D.int)) (.f _) (ae_int (rd_eqI ?_)))
        walk_at "red"
        refine as_ret ?_
        obtain ⟨Qj, hJ, hK⟩ : ∃ Q, G _ Q ∧ Q = _ := ⟨_, gbind hG, rfl⟩
        refine AE.mid (fun d_ T_ => ∃ b_ : Bool, d_ = .bl b_ ∧  T_ = (⟨am_1, false, (.lst (pool_10.map D.int))⟩ :: foot R_) ∧ Qj b_) ?_ ?_
        · clear hG hK
          have hG := hJ
          refine ae_andT (ae_callT no_exc (aa_cons (ae_callT no_exc (aa_cons (ae_var rfl (aa_nil ?_))))))
          refine ⟨rfl, machine_1, rfl, (gbind hG).imp fun b_3 hG => ⟨toFoot_snd, aa_cons (ae_var rfl (aa_nil ?_))⟩⟩
          refine ⟨rfl, _, _, D.bl, _, _, _, b_3, (decide ((l_3.length : Int) = 0)), pl_B, rfl, (dv_f pl_B b_3).foot.s, (dv_f pl_B (decide ((l_3.length : Int) = 0))).foot.s, (gbind hG).imp fun v_11 hG => ⟨toFoot_snd, ⟨_, tru_bl, ?_⟩⟩⟩
          refine ⟨fun hb => ?_, fun hb => ?_⟩
          · replace hG := gif_t hG hb
            refine ae_callT no_exc (aa_cons (ae_callT no_exc (aa_cons (ae_var rfl (aa_nil ?_)))))
            refine ⟨rfl, machine_1, rfl, (gbind hG).imp fun b_4 hG => ⟨toFoot_snd, aa_cons (ae_notT (ae_callT no_exc (aa_cons (ae_var rfl (aa_nil ?_)))))⟩⟩
            refine ⟨rfl, edges_1, rfl, (gbind hG).imp fun b_5 hG => ⟨toFoot_snd, ⟨_, tru_bl, aa_nil ?_⟩⟩⟩
            exact ⟨rfl, _, _, D.bl, _, _, _, b_4, (!b_5), pl_B, rfl, (dv_f pl_B b_4).foot.s, (dv_f pl_B (!b_5)).foot.s, (gbind hG).imp fun v_12 hG => ⟨toFoot_snd, ⟨v_12, rfl, rfl, gsome hG⟩⟩⟩
          · replace hG := gif_f hG hb
            rw [hb]
            exact ⟨_, rfl, rfl, gsome hG⟩
        subst hK
        rintro _ _ ⟨c_3, rfl, rfl, hG⟩
        have hR := gsome hG
        exact retM (hR) (List.mem_cons_self ..) (fun e he => (List.mem_cons_of_mem _ he))
end

def m__law_single (pool_1 : (List Int)) (worlds_1 : Int) : Option (Bool × (List Int)) :=
  (m__law_next pool_1 worlds_1).bind fun (r_1, pool_2) =>
  (m__law_next pool_2 7).bind fun (r_2, pool_3) =>
  chk (r_2.natAbs ≤ 1000000000000000000) <|
  (lcO (irng 0 r_2) pool_3 (fun (x_1 : Int) (s_2 : (List Int)) =>
  (m__law_next s_2 4).bind fun (r_3, pool_5) =>
  some (some r_3, pool_5))).bind fun (l_1, s_2a) =>
  (m_single worlds_1 r_1 l_1).bind fun r_4 =>
  chk ((l_1.length : Int).natAbs ≤ 1000000000000000000) <|
  (lcP (irng 0 (l_1.length : Int)) (fun (j_2 : Int) => true) (fun (j_2 : Int) => (worlds_1 + j_2))).bind fun l_2 =>
  chk ([r_1].length + l_2.length ≤ 100000) <|
  chk ((l_1.length : Int).natAbs ≤ 1000000000000000000) <|
  (lcO (irng 0 (l_1.length : Int)) () (fun (x_3 : Int) (_ : Unit) =>
  (atI ([r_1] ++ l_2) x_3).bind fun v_1 =>
  (atI l_1 x_3).bind fun v_2 =>
  (atI ([r_1] ++ l_2) (x_3 + 1)).bind fun v_3 =>
  some (some (v_1, v_2, v_3), ()))).bind fun (l_3, _) =>
  (sameO (eT2 D.int D.int) (r_4.worlds, r_4.states) (worlds_1, (worlds_1 + (l_1.length : Int)))).bind fun v_4 =>
  if (!v_4) then
  some (false, s_2a)
  else
  (chk (l_3.length < 64 ∧ l_3.all bd3 = true) <|
  (sameO (eL (eT3 D.int D.int D.int)) r_4.edges (isort ltT3 l_3)).bind fun v_5 =>
  if (!v_5) then
  some true
  else
  (atI ([r_1] ++ l_2) (-1)).bind fun v_6 =>
  (sameO (eL D.int) r_4.finals [v_6]).bind fun v_7 =>
  some (!v_7)).bind fun c_1 =>
  if c_1 then
  some (false, s_2a)
  else
  chk (worlds_1.natAbs ≤ 1000000000000000000) <|
  (forF (S := Unit) (R := (Bool × (List Int))) (irng 0 worlds_1) () fun (x_4 : Int) (_ : Unit) =>
  (m_Machine_accepts r_4 x_4 l_1).bind fun b_1 =>
  (sameO D.bl b_1 (decide (x_4 = r_1))).bind fun v_8 =>
  if (!v_8) then
  some (Lp.rt (false, s_2a))
  else
  (chk (l_1.length + [0].length ≤ 100000) <|
  (m_Machine_accepts r_4 x_4 (l_1 ++ [0])).bind fun b_2 =>
  if b_2 then
  some true
  else
  (if (!l_1.isEmpty) then
  (m_Machine_accepts r_4 x_4 (cutX l_1 none (some (-1)))).bind fun b_3 =>
  some b_3
  else
  some false).bind fun c_3 =>
  some c_3).bind fun c_2 =>
  if c_2 then
  some (Lp.rt (false, s_2a))
  else
  (if (!l_1.isEmpty) then
  (atI l_1 (-1)).bind fun v_9 =>
  chk ((cutX l_1 none (some (-1))).length + [(v_9 + 1)].length ≤ 100000) <|
  (m_Machine_accepts r_4 x_4 ((cutX l_1 none (some (-1))) ++ [(v_9 + 1)])).bind fun b_4 =>
  some b_4
  else
  some false).bind fun c_4 =>
  if c_4 then
  some (Lp.rt (false, s_2a))
  else
  some (.nx ())).bind fun fl => match fl with
  | .rt rt_1 => some rt_1
  | .nx _ =>
  some (true, s_2a)
abbrev con__law_single (K : PySem.W.Frag) : Con0 := fun dd T P PX => dd.length = 2 ∧ ∃ (am_1 : Addr) (pool_1 : (List Int)) (worlds_1 : Int) (R_ : Foot), dd = [.adr am_1, D.int worlds_1] ∧ T = (am_1, (.lst (pool_1.map D.int))) :: R_ ∧ G (m__law_single pool_1 worlds_1) fun r => P (D.bl r.1) ((.lst (r.2.map D.int)) :: R_.map (·.2)) []
section
variable {P : Program} {w : World} {K : PySem.W.Frag} {mg : Str → Option Value} {base : Heap}
theorem sc__law_single : FnScope ["pool", "worlds", "p", "stack", "j", "machine", "states", "edges", "q"] ["pool", "worlds"] (defScope s__law_single) := ⟨rfl, rfl, rfl, by decide +kernel, rfl, by decide +kernel, by decide +kernel⟩
theorem bi__law_single {K : PySem.W.Frag} {mg : Str → Option Value} (T : Top K mg) : Binds K T.fd__law_single ["pool", "worlds"] [] := T.F__law_single.bindsN fun _ _ _ _ _ _ us hl => match us, hl with | [_, _], _ => rfl
def t__law_single (K : PySem.W.Frag) : TS := (tSeq (tAsg (tCallG (spA K (con__law_next K)) (fun _ => E0) (tCons (tVar 0) (tCons (tVar 1) tNil))) (gName 2)) (tSeq (tAsg (tCB (rTupleU K) (tCons (tLc (iRng1 (tCons (tCallG (spA K (con__law_next K)) (fun _ => E0) (tCons (tVar 0) (tCons (tC (.int 7)) tNil))) tNil)) (gName 4) tYes (tCallG (spA K (con__law_next K)) (fun _ => E0) (tCons (tVar 0) (tCons (tC (.int 4)) tNil))) [4]) tNil)) (gName 3)) (tSeq (tAsg (tCallG (spA K (con_single K)) (fun _ => E0) (tCons (tVar 1) (tCons (tVar 2) (tCons (tVar 3) tNil)))) (gName 5)) (tSeq (tAsg (tOp (rAdd K) (tLst (tCons (tVar 2) tNil)) (tLc (iRng1 (tCons (tCB (rLenU K) (tCons (tVar 3) tNil)) tNil)) (gName 4) tYes (tOp (rAdd K) (tVar 1) (tVar 4)) [4])) (gName 6)) (tSeq (tAsg (tLc (iRng1 (tCons (tCB (rLenU K) (tCons (tVar 3) tNil)) tNil)) (gName 4) tYes (tTup (tCons (tOp (rIx K) (tVar 6) (tVar 4)) (tCons (tOp (rIx K) (tVar 3) (tVar 4)) (tCons (tOp (rIx K) (tVar 6) (tOp (rAdd K) (tVar 4) (tC (.int 1)))) tNil)))) [4]) (gName 7)) (tSeq (tIfS (tNot (tTru K (tCallG (spA K (con_same3 K)) (fun _ => E0) (tCons (tTup (tCons (tFld K (tVar 5) "worlds") (tCons (tFld K (tVar 5) "states") tNil))) (tCons (tTup (tCons (tVar 1) (tCons (tOp (rAdd K) (tVar 1) (tCB (rLenU K) (tCons (tVar 3) tNil))) tNil))) tNil))))) (tRet (tC (.bl false))) tNext) (tSeq (tIfS (tOr (tNot (tTru K (tCallG (spA K (con_same3 K)) (fun _ => E0) (tCons (tFld K (tVar 5) "edges") (tCons (tCB (rSortA K) (tCons (tVar 7) tNil)) tNil))))) (tNot (tTru K (tCallG (spA K (con_same3 K)) (fun _ => E0) (tCons (tFld K (tVar 5) "finals") (tCons (tLst (tCons (tOp (rIx K) (tVar 6) (tUn (rU fun i => .int (-i)) (tC (.int 1)))) tNil)) tNil)))))) (tRet (tC (.bl false))) tNext) (tSeq (tFor (iRng1 (tCons (tVar 1) tNil)) (gName 8) (tSeq (tIfS (tNot (tTru K (tCallG (spA K (con_same3 K)) (fun _ => E0) (tCons (tMethG (He.ga K "Machine") "accepts" (spA K (con_Machine_accepts K)) (fun _ => E0) (tVar 5) (tCons (tVar 8) (tCons (tVar 3) tNil))) (tCons (tOp (rEqU K) (tVar 8) (tVar 2)) tNil))))) (tRet (tC (.bl false))) tNext) (tSeq (tIfS (tOr (tTru K (tMethG (He.ga K "Machine") "accepts" (spA K (con_Machine_accepts K)) (fun _ => E0) (tVar 5) (tCons (tVar 8) (tCons (tOp (rAdd K) (tVar 3) (tTup (tCons (tC (.int 0)) tNil))) tNil)))) (tAnd (tTru K (tVar 3)) (tTru K (tMethG (He.ga K "Machine") "accepts" (spA K (con_Machine_accepts K)) (fun _ => E0) (tVar 5) (tCons (tVar 8) (tCons (tSl (rSlU K) (tVar 3) tNoPart (tPart (tUn (rU fun i => .int (-i)) (tC (.int 1))))) tNil)))))) (tRet (tC (.bl false))) tNext) (tIfS (tAnd (tTru K (tVar 3)) (tTru K (tMethG (He.ga K "Machine") "accepts" (spA K (con_Machine_accepts K)) (fun _ => E0) (tVar 5) (tCons (tVar 8) (tCons (tOp (rAdd K) (tSl (rSlU K) (tVar 3) tNoPart (tPart (tUn (rU fun i => .int (-i)) (tC (.int 1))))) (tTup (tCons (tOp (rAdd K) (tOp (rIx K) (tVar 3) (tUn (rU fun i => .int (-i)) (tC (.int 1)))) (tC (.int 1))) tNil))) tNil))))) (tRet (tC (.bl false))) tNext)))) (tRet (tC (.bl true)))))))))))
theorem ok__law_single (T : Top K mg) : FnG P w K mg base CX0 4 (He.ga K "_law_single") T.fd__law_single ["pool", "worlds"] (spA K (con__law_single K)) := by
  have G__law_next := ok__law_next (P := P) (w := w) (base := base) T
  have b__law_next := bi__law_next T
  have G_single := ok_single (P := P) (w := w) (base := base) T
  have b_single := bi_single T
  have G__law_same := ok__law_same (P := P) (w := w) (base := base) T
  have b__law_same := bi__law_same T
  have G_Machine_accepts := ok_Machine_accepts (P := P) (w := w) (base := base) T
  have b_Machine_accepts := bi_Machine_accepts T
  refine okG T.F__law_single sc__law_single (spA_ln fun _ _ _ _ h => h.1) (fun cdv A ou s H vs Q E gu hr h => ⟨t__law_single K , ?_, body h fun F dd Tf P PX hA hl hx => ?_⟩)
  · have hu := hr.units
    have hu5 := hu5_of hr
    have hu1 := hu_of hr
    exact PSs.nox (pss_cons (ps_set (i := 2) sc__law_single.nd rfl (by first | exact Or.inl rfl | exact Or.inr rfl) (pe_callG G__law_next gu (hr.mono (by decide)) rfl T.m__law_next T.F__law_next.kp b__law_next (fun σ => passN σ) (pa_cons (pv 0) (pa_cons (pv 1) pa_nil)))) (pss_cons (ps_set (i := 3) sc__law_single.nd rfl (by first | exact Or.inl rfl | exact Or.inr rfl) (pe_callTy call_tuple_of (by rfl) T.g_tuple (by decide +kernel) (pa_cons (pe_lc (own := [("j", 4)]) (g := (gName 4)) (tt := tYes) (te := (tCallG (spA K (con__law_next K)) (fun _ => E0) (tCons (tVar 0) (tCons (tC (.int 4)) tNil)))) rfl sc__law_single.nd (pi_range1 rfl T.g_range (pa_cons (pe_callG G__law_next gu (hr.mono (by decide)) rfl T.m__law_next T.F__law_next.kp b__law_next (fun σ => passN σ) (pa_cons (pv 0) (pa_cons pe_int pa_nil))) pa_nil)) (blkOk_by (own := [("j", 4)]) (N := ["pool", "worlds", "p", "stack", "j", "machine", "states", "edges", "q"]) (sc := defScope s__law_single) (by decide +kernel)) (fun _ _ _ _ _ => (pg_name (i := 4) sc__law_single.nd rfl (by first | exact Or.inl rfl | exact Or.inr rfl))) (fun _ _ _ _ _ => pts_nil) (fun _ _ _ _ _ => (pe_callG G__law_next gu (hr.mono (by decide)) rfl T.m__law_next T.F__law_next.kp b__law_next (fun σ => passN σ) (pa_cons (pv 0) (pa_cons pe_int pa_nil))))) pa_nil))) (pss_cons (ps_set (i := 5) sc__law_single.nd rfl (by first | exact Or.inl rfl | exact Or.inr rfl) (pe_callG G_single gu (hr.mono (by decide)) rfl T.m_single T.F_single.kp b_single (fun σ => passN σ) (pa_cons (pv 1) (pa_cons (pv 2) (pa_cons (pv 3) pa_nil))))) (pss_cons (ps_set (i := 6) sc__law_single.nd rfl (by first | exact Or.inl rfl | exact Or.inr rfl) (pe_op opAdd (pe_lst (pa_cons (pv 2) pa_nil)) (pe_lc (own := [("j", 4)]) (g := (gName 4)) (tt := tYes) (te := (tOp (rAdd K) (tVar 1) (tVar 4))) rfl sc__law_single.nd (pi_range1 rfl T.g_range (pa_cons (pe_callB call_len_seq (by rfl) T.g_len boot_len (pa_cons (pv 3) pa_nil)) pa_nil)) (blkOk_by (own := [("j", 4)]) (N := ["pool", "worlds", "p", "stack", "j", "machine", "states", "edges", "q"]) (sc := defScope s__law_single) (by decide +kernel)) (fun _ _ _ _ _ => (pg_name (i := 4) sc__law_single.nd rfl (by first | exact Or.inl rfl | exact Or.inr rfl))) (fun _ _ _ _ _ => pts_nil) (fun _ _ _ _ _ => (pe_op opAdd (pv 1) (pv 4)))))) (pss_cons (ps_setLc (i := 7) (own := [("j", 4)]) (g := (gName 4)) (tt := tYes) (te := (tTup (tCons (tOp (rIx K) (tVar 6) (tVar 4)) (tCons (tOp (rIx K) (tVar 3) (tVar 4)) (tCons (tOp (rIx K) (tVar 6) (tOp (rAdd K) (tVar 4) (tC (.int 1)))) tNil))))) rfl sc__law_single.nd rfl rfl (sw_true rfl rfl rfl (by decide +kernel)) (pi_range1 rfl T.g_range (pa_cons (pe_callB call_len_seq (by rfl) T.g_len boot_len (pa_cons (pv 3) pa_nil)) pa_nil)) (blkOk_by (own := [("j", 4)]) (N := ["pool", "worlds", "p", "stack", "j", "machine", "states", "edges", "q"]) (sc := defScope s__law_single) (by decide +kernel)) (fun _ _ _ _ _ => (pg_name (i := 4) sc__law_single.nd rfl (by first | exact Or.inl rfl | exact Or.inr rfl))) (fun _ _ _ _ _ => pts_nil) (fun _ _ _ _ _ => (pe_tup (pa_cons (pe_ix ix_seq (pv 6) (pv 4) (fun _ _ => rfl)) (pa_cons (pe_ix ix_seq (pv 3) (pv 4) (fun _ _ => rfl)) (pa_cons (pe_ix ix_seq (pv 6) (pe_op opAdd (pv 4) pe_int) (fun _ _ => rfl)) pa_nil)))))) (pss_cons (ps_if (pt_not (ptT (pe_callG G__law_same gu (hr.mono (by decide)) rfl T.m__law_same T.F__law_same.kp b__law_same (fun σ => passN σ) (pa_cons (pe_tup (pa_cons (pe_fld (pv 5) rfl) (pa_cons (pe_fld (pv 5) rfl) pa_nil))) (pa_cons (pe_tup (pa_cons (pv 1) (pa_cons (pe_op opAdd (pv 1) (pe_callB call_len_seq (by rfl) T.g_len boot_len (pa_cons (pv 3) pa_nil))) pa_nil))) pa_nil))) (by intro _; rfl))) (pss_one (ps_ret pe_bl)) pss_nil) (pss_cons (ps_if (PW.pt (pw_or (pt_not (ptT (pe_callG G__law_same gu (hr.mono (by decide)) rfl T.m__law_same T.F__law_same.kp b__law_same (fun σ => passN σ) (pa_cons (pe_fld (pv 5) rfl) (pa_cons (pe_callB (cr_sortA rfl) (by rfl) T.g_sorted (by decide +kernel) (pa_cons (pv 7) pa_nil)) pa_nil))) (by intro _; rfl))) (pw_or1 (pt_not (ptT (pe_callG G__law_same gu (hr.mono (by decide)) rfl T.m__law_same T.F__law_same.kp b__law_same (fun σ => passN σ) (pa_cons (pe_fld (pv 5) rfl) (pa_cons (pe_lst (pa_cons (pe_ix ix_seq (pv 6) (pe_un un_neg pe_int) (fun _ _ => rfl)) pa_nil)) pa_nil))) (by intro _; rfl)))))) (pss_one (ps_ret pe_bl)) pss_nil) (pss_cons (ps_for PassesOwn.never rfl (pi_range1 rfl T.g_range (pa_cons (pv 1) pa_nil)) (pg_name (i := 8) sc__law_single.nd rfl (by first | exact Or.inl rfl | exact Or.inr rfl)) (pss_cons (ps_if (pt_not (ptT (pe_callG G__law_same gu (hr.mono (by decide)) rfl T.m__law_same T.F__law_same.kp b__law_same (fun σ => passN σ) (pa_cons (pe_methG (pv 5) T.cl_Machine T.me_Machine_accepts G_Machine_accepts gu (hr.mono (by decide)) b_Machine_accepts (fun σ => passN σ) (pa_cons (pv 8) (pa_cons (pv 3) pa_nil))) (pa_cons (pe_cmpR (opEq hu) (pv 8) (pv 2) (by rfl)) pa_nil))) (by intro _; rfl))) (pss_one (ps_ret pe_bl)) pss_nil) (pss_cons (ps_if (PW.pt (pw_or (ptT (pe_methG (pv 5) T.cl_Machine T.me_Machine_accepts G_Machine_accepts gu (hr.mono (by decide)) b_Machine_accepts (fun σ => passN σ) (pa_cons (pv 8) (pa_cons (pe_op opAdd (pv 3) (pe_tup (pa_cons pe_int pa_nil))) pa_nil))) (by intro _; rfl)) (pw_or1 (PW.pt (pw_and (ptT (pv 3) (by intro _; rfl)) (pw_and1 (ptT (pe_methG (pv 5) T.cl_Machine T.me_Machine_accepts G_Machine_accepts gu (hr.mono (by decide)) b_Machine_accepts (fun σ => passN σ) (pa_cons (pv 8) (pa_cons (pe_slice slU (pv 3) po_none (po_some (pe_un un_neg pe_int))) pa_nil))) (by intro _; rfl)))))))) (pss_one (ps_ret pe_bl)) pss_nil) (pss_one (ps_if (PW.pt (pw_and (ptT (pv 3) (by intro _; rfl)) (pw_and1 (ptT (pe_methG (pv 5) T.cl_Machine T.me_Machine_accepts G_Machine_accepts gu (hr.mono (by decide)) b_Machine_accepts (fun σ => passN σ) (pa_cons (pv 8) (pa_cons (pe_op opAdd (pe_slice slU (pv 3) po_none (po_some (pe_un un_neg pe_int))) (pe_tup (pa_cons (pe_op opAdd (pe_ix ix_seq (pv 3) (pe_un un_neg pe_int) (fun _ _ => rfl)) pe_int) pa_nil))) pa_nil))) (by intro _; rfl))))) (pss_one (ps_ret pe_bl)) pss_nil))))) (pss_one (ps_ret pe_bl))))))))))
  · unfold t__law_single
    obtain ⟨_, am_1, pool_1, worlds_1, R_, rfl, rfl, hG⟩ := hA
    walk_at "slots"
    unfold m__law_single at hG
    refine as_seq (as_asg (ae_callM 0 no_exc (aa_cons (ae_var rfl (aa_cons (ae_var rfl (aa_nil ?_)))))))
    refine ⟨_, rfl, ⟨rfl, _, pool_1, worlds_1, _, rfl, rfl, (gbind hG).imp fun ⟨r_1, pool_2⟩ hG => ⟨_, congrArg _ toFoot_snd, ?_⟩⟩⟩
    walk_at "red"
    refine as_seq (as_asg (ae_cb (aa_cons (lcR_G (is := [4]) (fun _ h => h) (aa_cons (ae_callM 0 no_exc (aa_cons (ae_var rfl (aa_cons (ae_int (aa_nil ?_)))))))))))
    refine ⟨_, rfl, ⟨rfl, _, pool_2, 7, _, rfl, rfl, (gbind hG).imp fun ⟨r_2, pool_3⟩ hG => ⟨_, congrArg _ toFoot_snd, aa_nil ?_⟩⟩⟩
    obtain ⟨hn_1, hG⟩ := gchk hG
    refine ⟨_, _, _, D.int, _, _, _, fun (s_1 : (List Int)) T_ => T_ = ⟨am_1, false, (.lst (s_1.map D.int))⟩ :: foot R_, rfl, hn_1, gbind hG, rfl, ?_, ?_⟩
    · intro x_1 hx_1 s_2 M_1 hG Tx_1 hS_1
      subst hS_1
      refine ag_name ?_
      walk_at "red"
      walk_at "wipe"
      refine at_yes ?_
      refine if_t rfl ?_
      refine ae_callM 0 no_exc (aa_cons (ae_var rfl (aa_cons (ae_int (aa_nil ?_)))))
      exact ⟨_, rfl, ⟨rfl, _, s_2, 4, _, rfl, rfl, (gbind hG).imp fun ⟨r_3, pool_5⟩ hG => ⟨_, congrArg _ toFoot_snd, ⟨r_3, pool_5, gsome hG, rfl, rfl⟩⟩⟩⟩
    intro l_1 s_2a hG _ hS
    subst hS
    refine aa_nil (rc_tupL (xs := l_1.map D.int) (.f _) ?_)
    walk_at "red"
    refine as_seq (as_asg (ae_callT no_exc (aa_cons (ae_var rfl (aa_cons (ae_var rfl (aa_cons (ae_var rfl (aa_nil ?_)))))))))
    refine ⟨rfl, worlds_1, r_1, l_1, rfl, (gbind hG).imp fun r_4 hG => ⟨toFoot_snd, ?_⟩⟩
    walk_at "red"
    refine as_seq (as_asg (ae_op (ae_lst (aa_cons (ae_var rfl (aa_nil ⟨Nat.le_of_ble_eq_true rfl, lcR_G (is := [4]) (fun _ h => h) (aa_cons (ae_cb (aa_cons (ae_var rfl (aa_nil (rc_lenTM (xs := l_1) (e := D.int) (aa_nil ?_)))))))⟩))))))
    obtain ⟨hn_2, hG⟩ := gchk hG
    refine ⟨_, _, _, D.int, _, _, _, fun (_ : Unit) T_ => T_ = ⟨am_1, false, (.lst (s_2a.map D.int))⟩ :: foot R_, rfl, hn_2, glcP (gbind hG), rfl, ?_, ?_⟩
    · intro x_2 hx_2 s_3 M_2 hG Tx_2 hS_2
      subst hS_2
      refine ag_name ?_
      walk_at "red"
      walk_at "wipe"
      refine at_yes ?_
      refine if_t rfl ?_
      exact ae_op (ae_var rfl (ae_var rfl (rd_add ⟨(worlds_1 + x_2), (), gsome hG, rfl, rfl⟩)))
    intro l_2 _ hG _ hS
    subst hS
    obtain ⟨hc, hG⟩ := gchk hG
    refine rd_catLM (xs := [r_1]) (ys := l_2) (e := D.int) (.f _) (.f _) hc ?_
    walk_at "red"
    refine as_seq (as_asg (lcR_G (is := [4]) (fun _ h => h) (aa_cons (ae_cb (aa_cons (ae_var rfl (aa_nil (rc_lenTM (xs := l_1) (e := D.int) (aa_nil ?_)))))))))
    obtain ⟨hn_3, hG⟩ := gchk hG
    refine ⟨_, _, _, (eT3 D.int D.int D.int), _, _, _, fun (s_4 : Unit) T_ => T_ = ⟨am_1, false, (.lst (s_2a.map D.int))⟩ :: foot R_, rfl, hn_3, gbind hG, rfl, ?_, ?_⟩
    · intro x_3 hx_3 s_5 M_3 hG Tx_3 hS_3
      subst hS_3
      refine ag_name ?_
      walk_at "red"
      walk_at "wipe"
      refine at_yes ?_
      refine if_t rfl ?_
      refine ae_tup (aa_cons (ae_op (ae_var rfl (ae_var rfl ?_))))
      obtain ⟨v_1, e_1, hG⟩ := gbind hG
      refine rd_ixLM (xs := ([r_1] ++ l_2)) (e := D.int) (.f _) e_1 (aa_cons (ae_op (ae_var rfl (ae_var rfl ?_))))
      obtain ⟨v_2, e_2, hG⟩ := gbind hG
      refine rd_ixTM (xs := l_1) (e := D.int) e_2 (aa_cons (ae_op (ae_var rfl (ae_op (ae_var rfl (ae_int (rd_add ?_)))))))
      obtain ⟨v_3, e_3, hG⟩ := gbind hG
      exact rd_ixLM (xs := ([r_1] ++ l_2)) (e := D.int) (.f _) e_3 (aa_nil ⟨Nat.le_of_ble_eq_true rfl, ⟨(v_1, v_2, v_3), (), gsome hG, rfl, rfl⟩⟩)
    intro l_3 _ hG _ hS
    subst hS
    walk_at "red"
    refine as_seq (as_if (at_not (at_tru (ae_callT no_exc (aa_cons (ae_tup (aa_cons (ae_fld T.cl_Machine T.na_Machine_worlds (ae_var rfl ⟨_, .f (by rfl), aa_cons (ae_fld T.cl_Machine T.na_Machine_states (ae_var rfl ⟨_, .f (by rfl), aa_nil ⟨Nat.le_of_ble_eq_true rfl, aa_cons (ae_tup (aa_cons (ae_var rfl (aa_cons (ae_op (ae_var rfl (ae_cb (aa_cons (ae_var rfl (aa_nil (rc_lenTM (xs := l_1) (e := D.int) (rd_add (aa_nil ⟨Nat.le_of_ble_eq_true rfl, aa_nil ?_⟩)))))))))))))⟩⟩))⟩)))))))))
    refine ⟨rfl, _, _, (eT2 D.int D.int), _, _, _, (r_4.worlds, r_4.states), (worlds_1, (worlds_1 + (l_1.length : Int))), (pl_T2 pl_I pl_I), rfl, (dv_f (pl_T2 pl_I pl_I) (r_4.worlds, r_4.states)).foot.s, (dv_f (pl_T2 pl_I pl_I) (worlds_1, (worlds_1 + (l_1.length : Int)))).foot.s, (gbind hG).imp fun v_4 hG => ⟨toFoot_snd, ⟨_, tru_bl, ?_⟩⟩⟩
    refine ⟨fun hb => ?_, fun hb => ?_⟩
    · replace hG := gif_t hG hb
      refine as_ret (ae_bl ?_)
      have hR := gsome hG
      exact retM (hR) (List.mem_cons_self ..) (fun e he => (List.mem_cons_of_mem _ he))
    · replace hG := gif_f hG hb
      refine as_next ?_
      refine as_seq (as_if ?_)
      obtain ⟨Qj, hJ, hK⟩ : ∃ Q, G _ Q ∧ Q = _ := ⟨_, gbind hG, rfl⟩
      refine AT.mid (fun b_ T_ =>  T_ = (⟨am_1, false, (.lst (s_2a.map D.int))⟩ :: foot R_) ∧ Qj b_) ?_ ?_
      · clear hG hK
        have hG := hJ
        refine at_or (at_not (at_tru (ae_callT no_exc (aa_cons (ae_fld T.cl_Machine T.na_Machine_edges (ae_var rfl ⟨_, .f (by rfl), aa_cons (ae_cb (aa_cons (ae_var rfl (aa_nil ?_))))⟩))))))
        obtain ⟨hc, hG⟩ := gchk hG
        refine rc_sortT3M (xs := l_3) (.f _) hc.1 hc.2 (aa_nil ?_)
        refine ⟨rfl, _, _, (eL (eT3 D.int D.int D.int)), _, _, _, r_4.edges, (isort ltT3 l_3), (pl_L (pl_T3 pl_I pl_I pl_I)), rfl, (dv_f (pl_L (pl_T3 pl_I pl_I pl_I)) r_4.edges).foot.s, (dv_f (pl_L (pl_T3 pl_I pl_I pl_I)) (isort ltT3 l_3)).foot.s, (gbind hG).imp fun v_5 hG => ⟨toFoot_snd, ⟨_, tru_bl, ?_⟩⟩⟩
        refine if_b (fun hb => ?_) (fun hb => ?_)
        · replace hG := gif_t hG hb
          exact ⟨rfl, gsome hG⟩
        · replace hG := gif_f hG hb
          refine at_not (at_tru (ae_callT no_exc (aa_cons (ae_fld T.cl_Machine T.na_Machine_finals (ae_var rfl ⟨_, .f (by rfl), aa_cons (ae_lst (aa_cons (ae_op (ae_var rfl (ae_un (ae_int (ru_neg ?_)))))))⟩)))))
          obtain ⟨v_6, e_4, hG⟩ := gbind hG
          refine rd_ixLM (xs := ([r_1] ++ l_2)) (e := D.int) (.f _) e_4 (aa_nil ⟨Nat.le_of_ble_eq_true rfl, aa_nil ?_⟩)
          exact ⟨rfl, _, _, (eL D.int), _, _, _, r_4.finals, [v_6], (pl_L pl_I), rfl, (dv_f (pl_L pl_I) r_4.finals).foot.s, (dv_f (pl_L pl_I) [v_6]).foot.s, (gbind hG).imp fun v_7 hG => ⟨toFoot_snd, ⟨_, tru_bl, ⟨rfl, gsome hG⟩⟩⟩⟩
      subst hK
      rintro c_1 _ ⟨rfl, hG⟩
      refine ⟨fun hb => ?_, fun hb => ?_⟩
      · replace hG := gif_t hG hb
        refine as_ret (ae_bl ?_)
        have hR := gsome hG
        exact retM (hR) (List.mem_cons_self ..) (fun e he => (List.mem_cons_of_mem _ he))
      · replace hG := gif_f hG hb
        refine as_next ?_
        refine as_seq (for_RF (is := [8]) (aa_cons (ae_var rfl (aa_nil ?_))))
        obtain ⟨hn_4, hG⟩ := gchk hG
        refine ⟨_, _, _, _, _, _, fun (s_6 : Unit) (ds_ : Sls) (T_ : Tb) => ∃ (wx_1 : Option D) (wx_2 : Option D), ds_ = [some (.adr am_1), some (D.int worlds_1), some (D.int r_1), some ((eTL D.int) l_1), wx_1, some ((eMachine K) r_4), some ((eL D.int) ([r_1] ++ l_2)), some ((eL (eT3 D.int D.int D.int)) l_3), wx_2] ∧ Sb (⟨am_1, false, (.lst (s_2a.map D.int))⟩ :: foot R_) T_, rfl, hn_4, gbind hG, ⟨_, _, rfl, Sb.r _⟩, ?_, ?_⟩
        · intro x_4 hx_4
          rintro _ M_4 hG _ _ ⟨wx_1, wx_2, rfl, hs_1⟩
          refine ag_sbS hs_1 ?_
          refine ag_name ?_
          walk_at "red"
          refine as_seq (as_if (at_not (at_tru (ae_callT no_exc (aa_cons (ae_methT no_exc (ae_var rfl ⟨_, _, rfl, by decide +kernel, aa_cons (ae_var rfl (aa_cons (ae_var rfl (aa_nil ?_))))⟩)))))))
          refine ⟨rfl, r_4, x_4, l_1, rfl, (gbind hG).imp fun b_1 hG => ⟨toFoot_snd, aa_cons (ae_op (ae_var rfl (ae_var rfl (rd_eqI (aa_nil ?_)))))⟩⟩
          refine ⟨rfl, _, _, D.bl, _, _, _, b_1, (decide (x_4 = r_1)), pl_B, rfl, (dv_f pl_B b_1).foot.s, (dv_f pl_B (decide (x_4 = r_1))).foot.s, (gbind hG).imp fun v_8 hG => ⟨toFoot_snd, ⟨_, tru_bl, ?_⟩⟩⟩
          refine ⟨fun hb => ?_, fun hb => ?_⟩
          · replace hG := gif_t hG hb
            refine as_ret (ae_bl ?_)
            replace hG := grt hG
            have hR := gsome hG
            exact retM (hR) (List.mem_cons_self ..) (fun e he => (List.mem_cons_of_mem _ he))
          · replace hG := gif_f hG hb
            refine as_next ?_
            refine as_seq (as_if ?_)
            obtain ⟨Qj, hJ, hK⟩ : ∃ Q, G _ Q ∧ Q = _ := ⟨_, gbind hG, rfl⟩
            refine AT.mid (fun b_ T_ =>  T_ = (⟨am_1, false, (.lst (s_2a.map D.int))⟩ :: foot R_) ∧ Qj b_) ?_ ?_
            · clear hG hK
              have hG := hJ
              refine at_or (at_tru (ae_methT no_exc (ae_var rfl ⟨_, _, rfl, by decide +kernel, aa_cons (ae_var rfl (aa_cons (ae_op (ae_var rfl (ae_tup (aa_cons (ae_int (aa_nil ⟨Nat.le_of_ble_eq_true rfl, ?_⟩))))))))⟩)))
              obtain ⟨hc, hG⟩ := gchk hG
              refine rd_catTM (xs := l_1) (ys := [0]) (e := D.int) hc (aa_nil ?_)
              refine ⟨rfl, r_4, x_4, (l_1 ++ [0]), rfl, (gbind hG).imp fun b_2 hG => ⟨toFoot_snd, ⟨_, tru_bl, ?_⟩⟩⟩
              refine if_b (fun hb => ?_) (fun hb => ?_)
              · replace hG := gif_t hG hb
                exact ⟨rfl, gsome hG⟩
              · replace hG := gif_f hG hb
                obtain ⟨Qj, hJ, hK⟩ : ∃ Q, G _ Q ∧ Q = _ := ⟨_, gbind hG, rfl⟩
                refine AT.mid (fun b_ T_ =>  T_ = (⟨am_1, false, (.lst (s_2a.map D.int))⟩ :: foot R_) ∧ Qj b_) ?_ ?_
                · clear hG hK
                  have hG := hJ
                  refine at_and (at_tru (ae_var rfl (tru_TM (xs := l_1) (e := D.int) ?_)))
                  refine if_b (fun hb => ?_) (fun hb => ?_)
                  · replace hG := gif_t hG hb
                    refine at_tru (ae_methT no_exc (ae_var rfl ⟨_, _, rfl, by decide +kernel, aa_cons (ae_var rfl (aa_cons (ae_sl (ae_var rfl (ao_none (ao_some (ae_un (ae_int (ru_neg ⟨_, rfl, rs_TM (xs := l_1) (e := D.int) (aa_nil ?_)⟩)))))))))⟩))
                    exact ⟨rfl, r_4, x_4, (cutX l_1 none (some (-1))), rfl, (gbind hG).imp fun b_3 hG => ⟨toFoot_snd, ⟨_, tru_bl, ⟨rfl, gsome hG⟩⟩⟩⟩
                  · replace hG := gif_f hG hb
                    exact ⟨rfl, gsome hG⟩
                subst hK
                rintro c_3 _ ⟨rfl, hG⟩
                exact ⟨rfl, gsome hG⟩
            subst hK
            rintro c_2 _ ⟨rfl, hG⟩
            refine ⟨fun hb => ?_, fun hb => ?_⟩
            · replace hG := gif_t hG hb
              refine as_ret (ae_bl ?_)
              replace hG := grt hG
              have hR := gsome hG
              exact retM (hR) (List.mem_cons_self ..) (fun e he => (List.mem_cons_of_mem _ he))
            · replace hG := gif_f hG hb
              refine as_next ?_
              refine as_if ?_
              obtain ⟨Qj, hJ, hK⟩ : ∃ Q, G _ Q ∧ Q = _ := ⟨_, gbind hG, rfl⟩
              refine AT.mid (fun b_ T_ =>  T_ = (⟨am_1, false, (.lst (s_2a.map D.int))⟩ :: foot R_) ∧ Qj b_) ?_ ?_
              · clear hG hK
                have hG := hJ
                refine at_and (at_tru (ae_var rfl (tru_TM (xs := l_1) (e := D.int) ?_)))
                refine if_b (fun hb => ?_) (fun hb => ?_)
                · replace hG := gif_t hG hb
                  refine at_tru (ae_methT no_exc (ae_var rfl ⟨_, _, rfl, by decide +kernel, aa_cons (ae_var rfl (aa_cons (ae_op (ae_sl (ae_var rfl (ao_none (ao_some (ae_un (ae_int (ru_neg ⟨_, rfl, rs_TM (xs := l_1) (e := D.int) (ae_tup (aa_cons (ae_op (ae_op (ae_var rfl (ae_un (ae_int (ru_neg ?_))))))))⟩))))))))))⟩))
                  obtain ⟨v_9, e_5, hG⟩ := gbind hG
                  refine rd_ixTM (xs := l_1) (e := D.int) e_5 (ae_int (rd_add (aa_nil ⟨Nat.le_of_ble_eq_true rfl, ?_⟩)))
                  obtain ⟨hc, hG⟩ := gchk hG
                  refine rd_catTM (xs := (cutX l_1 none (some (-1)))) (ys := [(v_9 + 1)]) (e := D.int) hc (aa_nil ?_)
                  exact ⟨rfl, r_4, x_4, ((cutX l_1 none (some (-1))) ++ [(v_9 + 1)]), rfl, (gbind hG).imp fun b_4 hG => ⟨toFoot_snd, ⟨_, tru_bl, ⟨rfl, gsome hG⟩⟩⟩⟩
                · replace hG := gif_f hG hb
                  exact ⟨rfl, gsome hG⟩
              subst hK
              rintro c_4 _ ⟨rfl, hG⟩
              refine ⟨fun hb => ?_, fun hb => ?_⟩
              · replace hG := gif_t hG hb
                refine as_ret (ae_bl ?_)
                replace hG := grt hG
                have hR := gsome hG
                exact retM (hR) (List.mem_cons_self ..) (fun e he => (List.mem_cons_of_mem _ he))
              · replace hG := gif_f hG hb
                refine as_next ?_
                have hR := gsome hG
                exact ⟨(), hR, _, _, rfl, Sb.r _⟩
        rintro _ hG _ _ ⟨wx_1, wx_2, rfl, hs_2⟩
        refine as_sb hs_2 ?_
        refine as_ret (ae_bl ?_)
        have hR := gsome hG
        exact retM (hR) (List.mem_cons_self ..) (fun e he => (List.mem_cons_of_mem _ he))
end




def m_law (pool_1 : List Int) : Option Bool :=
  (m__law_next pool_1 4).bind fun (r_1, pool_2) =>
  (m__law_next pool_2 6).bind fun (r_2, pool_3) =>
  (((m__law_next pool_3 2).bind fun (r_3, pool_6) =>
  if (decide (r_3 = 1)) then
  some ((decide ((1 + r_1) < ((1 + r_1) + r_2))), pool_6)
  else
  some (false, pool_6)).bind fun (c_1, pool_5) =>
  if c_1 then
  some ((1 + r_1), pool_5)
  else
  some (0, pool_5)).bind fun (low_1, pool_4) =>
  (m__law_next pool_4 15).bind fun (r_4, pool_7) =>
  chk (r_4.natAbs ≤ 1000000000000000000) <|
  (forO (irng 0 r_4) (pool_7, ([] : List (Int × Int × Int))) fun (x_1 : Int) ((pool_8, edges_1) : (List Int) × (List (Int × Int × Int))) =>
  (m__law_next pool_8 ((1 + r_1) + r_2)).bind fun (r_5, pool_9) =>
  (m__law_next pool_9 5).bind fun (r_6, pool_10) =>
  (m__law_next pool_10 (((1 + r_1) + r_2) - low_1)).bind fun (r_7, pool_11) =>
  chk (edges_1.length < 100000) <|
  (m__law_next pool_11 6).bind fun (r_8, pool_12) =>
  if (decide (r_8 = 0)) then
  (m__law_next pool_12 ((edges_1 ++ [(r_5, r_6, (low_1 + r_7))]).length : Int)).bind fun (r_9, pool_13) =>
  (atI (edges_1 ++ [(r_5, r_6, (low_1 + r_7))]) r_9).bind fun v_1 =>
  chk ([v_1].length + (edges_1 ++ [(r_5, r_6, (low_1 + r_7))]).length ≤ 100000) <|
  some (pool_13, ([v_1] ++ (edges_1 ++ [(r_5, r_6, (low_1 + r_7))])))
  else
  some (pool_12, (edges_1 ++ [(r_5, r_6, (low_1 + r_7))]))).bind fun (pool_14, edges_2) =>
  (m__law_next pool_14 4).bind fun (r_10, pool_15) =>
  chk (r_10.natAbs ≤ 1000000000000000000) <|
  (lcO (irng 0 r_10) pool_15 (fun (x_2 : Int) (s_5 : (List Int)) =>
  (m__law_next s_5 ((1 + r_1) + r_2)).bind fun (r_11, pool_17) =>
  some (some r_11, pool_17))).bind fun (l_1, s_5a) =>
  (m_Machine_init (1 + r_1) ((1 + r_1) + r_2) edges_2 l_1).bind fun o_1 =>
  (sameO (eH2 (eL (eT3 D.int D.int D.int)) (eL D.int)) (edges_2, l_1) (edges_2, l_1)).bind fun v_2 =>
  if (!v_2) then
  some false
  else
  chk (edges_2.length < 100000) <|
  chk (l_1.length < 100000) <|
  (m__law_looks s_5a o_1 (1 + r_1) ((1 + r_1) + r_2) edges_2 l_1).bind fun (b_1, pool_18) =>
  if (!b_1) then
  some false
  else
  (m_Machine_follow o_1 0 []).bind fun r_12 =>
  chk (r_12.length < 100000) <|
  (m_Machine_targets o_1 0 0).bind fun r_13 =>
  chk (r_13.length < 100000) <|
  (m_Machine_init ((1 + r_1) + 1) (((1 + r_1) + r_2) + 1) ([] : List (Int × Int × Int)) [(1 + r_1)]).bind fun o_2 =>
  ((m_Machine_accepts o_2 0 [0]).bind fun b_2 =>
  if b_2 then
  some true
  else
  (m_Machine_accepts o_2 (1 + r_1) []).bind fun b_3 =>
  some (!b_3)).bind fun c_2 =>
  if c_2 then
  some false
  else
  (m__law_looks pool_18 o_1 (1 + r_1) ((1 + r_1) + r_2) edges_2 l_1).bind fun (b_4, pool_19) =>
  if (!b_4) then
  some false
  else
  (m__law_single pool_19 (1 + r_1)).bind fun (b_5, pool_20) =>
  some b_5
abbrev con_law (K : PySem.W.Frag) : Con0 := fun dd T P PX => dd.length = 1 ∧ ∃ (script_1 : List Int), dd = [.frl (script_1.map D.int)] ∧ T = [] ∧ ∀ pool, G (m_law pool) fun r => P (D.bl r) [] []
section
variable {P : Program} {w : World} {K : PySem.W.Frag} {mg : Str → Option Value} {base : Heap}
theorem sc_law : FnScope ["script", "pool", "worlds", "states", "edges", "low", "k", "finals", "handed", "machine", "told", "other"] ["script"] (defScope s_law) := ⟨rfl, rfl, rfl, by decide +kernel, rfl, by decide +kernel, by decide +kernel⟩
theorem bi_law {K : PySem.W.Frag} {mg : Str → Option Value} (T : Top K mg) : Binds K T.fd_law ["script"] [] := T.F_law.bindsN fun _ _ _ _ _ _ us hl => match us, hl with | [_], _ => rfl
def t_law (K : PySem.W.Frag) : TS := (tSeq (tAsg (tCallG (spA K con_pool) (fun _ => E0) (tCons (tVar 0) (tCons (tC (.int 160)) tNil))) (gName 1)) (tSeq (tAsg (tOp (rAdd K) (tC (.int 1)) (tCallG (spA K (con__law_next K)) (fun _ => E0) (tCons (tVar 1) (tCons (tC (.int 4)) tNil)))) (gName 2)) (tSeq (tAsg (tOp (rAdd K) (tVar 2) (tCallG (spA K (con__law_next K)) (fun _ => E0) (tCons (tVar 1) (tCons (tC (.int 6)) tNil)))) (gName 3)) (tSeq (tAsg (tLst tNil) (gName 4)) (tSeq (tAsg (tC (.int 0)) (gName 5)) (tSeq (tIfS (tAnd (tTest (tOp (rEqU K) (tCallG (spA K (con__law_next K)) (fun _ => E0) (tCons (tVar 1) (tCons (tC (.int 2)) tNil))) (tC (.int 1)))) (tTest (tOp rGt (tVar 3) (tVar 2)))) (tAsg (tVar 2) (gName 5)) tNext) (tSeq (tFor (iRng1 (tCons (tCallG (spA K (con__law_next K)) (fun _ => E0) (tCons (tVar 1) (tCons (tC (.int 15)) tNil))) tNil)) (gName 6) (tSeq (tDrop (tBM K "list" rAppend (tVar 4) (tCons (tTup (tCons (tCallG (spA K (con__law_next K)) (fun _ => E0) (tCons (tVar 1) (tCons (tVar 3) tNil))) (tCons (tCallG (spA K (con__law_next K)) (fun _ => E0) (tCons (tVar 1) (tCons (tC (.int 5)) tNil))) (tCons (tOp (rAdd K) (tVar 5) (tCallG (spA K (con__law_next K)) (fun _ => E0) (tCons (tVar 1) (tCons (tOp AW.rSub (tVar 3) (tVar 5)) tNil)))) tNil)))) tNil))) (tIfS (tTest (tOp (rEqU K) (tCallG (spA K (con__law_next K)) (fun _ => E0) (tCons (tVar 1) (tCons (tC (.int 6)) tNil))) (tC (.int 0)))) (tAsg (tOp (rAdd K) (tLst (tCons (tOp (rIx K) (tVar 4) (tCallG (spA K (con__law_next K)) (fun _ => E0) (tCons (tVar 1) (tCons (tCB (rLenU K) (tCons (tVar 4) tNil)) tNil)))) tNil)) (tVar 4)) (gName 4)) tNext))) (tSeq (tAsg (tLc (iRng1 (tCons (tCallG (spA K (con__law_next K)) (fun _ => E0) (tCons (tVar 1) (tCons (tC (.int 4)) tNil))) tNil)) (gName 6) tYes (tCallG (spA K (con__law_next K)) (fun _ => E0) (tCons (tVar 1) (tCons (tVar 3) tNil))) [6]) (gName 7)) (tSeq (tAsg (tLst (tCons (tCB (rListU K) (tCons (tVar 4) tNil)) (tCons (tCB (rListU K) (tCons (tVar 7) tNil)) tNil))) (gName 8)) (tSeq (tAsg (tMakeG (He.ga K "Machine") (spA K (con_Machine_init K)) (fun _ => E0) (tCons (tVar 2) (tCons (tVar 3) (tCons (tOp (rIx K) (tVar 8) (tC (.int 0))) (tCons (tOp (rIx K) (tVar 8) (tC (.int 1))) tNil))))) (gName 9)) (tSeq (tIfS (tNot (tTru K (tCallG (spA K (con_same3 K)) (fun _ => E0) (tCons (tVar 8) (tCons (tLst (tCons (tVar 4) (tCons (tVar 7) tNil))) tNil))))) (tRet (tC (.bl false))) tNext) (tSeq (tDrop (tBM K "list" rAppend (tOp (rIx K) (tVar 8) (tC (.int 0))) (tCons (tTup (tCons (tC (.int 0)) (tCons (tC (.int 0)) (tCons (tC (.int 0)) tNil)))) tNil))) (tSeq (tDrop (tBM K "list" rAppend (tOp (rIx K) (tVar 8) (tC (.int 1))) (tCons (tC (.int 0)) tNil))) (tSeq (tIfS (tNot (tTru K (tCallG (spA K (con__law_looks K)) (fun _ => E0) (tCons (tVar 1) (tCons (tVar 9) (tCons (tVar 2) (tCons (tVar 3) (tCons (tVar 4) (tCons (tVar 7) tNil))))))))) (tRet (tC (.bl false))) tNext) (tSeq (tAsg (tMethG (He.ga K "Machine") "follow" (spA K (con_Machine_follow K)) (fun _ => E0) (tVar 9) (tCons (tC (.int 0)) (tCons (tTup tNil) tNil))) (gName 10)) (tSeq (tDrop (tBM K "list" rAppend (tVar 10) (tCons (tC (.int 99)) tNil))) (tSeq (tAsg (tMethG (He.ga K "Machine") "targets" (spA K (con_Machine_targets K)) (fun _ => E0) (tVar 9) (tCons (tC (.int 0)) (tCons (tC (.int 0)) tNil))) (gName 10)) (tSeq (tDrop (tBM K "list" rAppend (tVar 10) (tCons (tC (.int 98)) tNil))) (tSeq (tAsg (tMakeG (He.ga K "Machine") (spA K (con_Machine_init K)) (fun _ => E0) (tCons (tOp (rAdd K) (tVar 2) (tC (.int 1))) (tCons (tOp (rAdd K) (tVar 3) (tC (.int 1))) (tCons (tLst tNil) (tCons (tLst (tCons (tVar 2) tNil)) tNil))))) (gName 11)) (tSeq (tIfS (tOr (tTru K (tMethG (He.ga K "Machine") "accepts" (spA K (con_Machine_accepts K)) (fun _ => E0) (tVar 11) (tCons (tC (.int 0)) (tCons (tTup (tCons (tC (.int 0)) tNil)) tNil)))) (tNot (tTru K (tMethG (He.ga K "Machine") "accepts" (spA K (con_Machine_accepts K)) (fun _ => E0) (tVar 11) (tCons (tVar 2) (tCons (tTup tNil) tNil)))))) (tRet (tC (.bl false))) tNext) (tSeq (tIfS (tNot (tTru K (tCallG (spA K (con__law_looks K)) (fun _ => E0) (tCons (tVar 1) (tCons (tVar 9) (tCons (tVar 2) (tCons (tVar 3) (tCons (tVar 4) (tCons (tVar 7) tNil))))))))) (tRet (tC (.bl false))) tNext) (tRet (tCallG (spA K (con__law_single K)) (fun _ => E0) (tCons (tVar 1) (tCons (tVar 2) tNil)))))))))))))))))))))))))
theorem ok_law (T : Top K mg) : FnG P w K mg base CX0 5 (He.ga K "law") T.fd_law ["script"] (spA K (con_law K)) := by
  have G__law_pool := ok__law_pool (P := P) (w := w) (base := base) T
  have b__law_pool := bi__law_pool T
  have G_Machine_init := ok_Machine_init (P := P) (w := w) (base := base) T
  have b_Machine_init := bi_Machine_init T
  have G_Machine_follow := ok_Machine_follow (P := P) (w := w) (base := base) T
  have b_Machine_follow := bi_Machine_follow T
  have G_Machine_targets := ok_Machine_targets (P := P) (w := w) (base := base) T
  have b_Machine_targets := bi_Machine_targets T
  have G__law_single := ok__law_single (P := P) (w := w) (base := base) T
  have b__law_single := bi__law_single T
  have G__law_next := ok__law_next (P := P) (w := w) (base := base) T
  have b__law_next := bi__law_next T
  have G__law_same := ok__law_same (P := P) (w := w) (base := base) T
  have b__law_same := bi__law_same T
  have G__law_looks := ok__law_looks (P := P) (w := w) (base := base) T
  have b__law_looks := bi__law_looks T
  have G_Machine_accepts := ok_Machine_accepts (P := P) (w := w) (base := base) T
  have b_Machine_accepts := bi_Machine_accepts T
  refine okG T.F_law sc_law (spA_ln fun _ _ _ _ h => h.1) (fun cdv A ou s H vs Q E gu hr h => ⟨t_law K , ?_, body h fun F dd Tf P PX hA hl hx => ?_⟩)
  · have hu := hr.units
    have hu5 := hu5_of hr
    have hu1 := hu_of hr
    exact PSs.nox (pss_cons (ps_set (i := 1) sc_law.nd rfl (by first | exact Or.inl rfl | exact Or.inr rfl) (pe_callG G__law_pool gu (hr.mono (by decide)) rfl T.m__law_pool T.F__law_pool.kp b__law_pool (fun σ => passN σ) (pa_cons (pv 0) (pa_cons pe_int pa_nil)))) (pss_cons (ps_set (i := 2) sc_law.nd rfl (by first | exact Or.inl rfl | exact Or.inr rfl) (pe_op opAdd pe_int (pe_callG G__law_next gu (hr.mono (by decide)) rfl T.m__law_next T.F__law_next.kp b__law_next (fun σ => passN σ) (pa_cons (pv 1) (pa_cons pe_int pa_nil))))) (pss_cons (ps_set (i := 3) sc_law.nd rfl (by first | exact Or.inl rfl | exact Or.inr rfl) (pe_op opAdd (pv 2) (pe_callG G__law_next gu (hr.mono (by decide)) rfl T.m__law_next T.F__law_next.kp b__law_next (fun σ => passN σ) (pa_cons (pv 1) (pa_cons pe_int pa_nil))))) (pss_cons (ps_set (i := 4) sc_law.nd rfl (by first | exact Or.inl rfl | exact Or.inr rfl) (pe_lst pa_nil)) (pss_cons (ps_set (i := 5) sc_law.nd rfl (by first | exact Or.inl rfl | exact Or.inr rfl) pe_int) (pss_cons (ps_if (PW.pt (pw_and (pt_cmpR (opEq hu) (pe_callG G__law_next gu (hr.mono (by decide)) rfl T.m__law_next T.F__law_next.kp b__law_next (fun σ => passN σ) (pa_cons (pv 1) (pa_cons pe_int pa_nil))) pe_int (by rfl)) (pw_and1 (pt_cmpR op_gt (pv 3) (pv 2) (by rfl))))) (pss_one (ps_set (i := 5) sc_law.nd rfl (by first | exact Or.inl rfl | exact Or.inr rfl) (pv 2))) pss_nil) (pss_cons (ps_for PassesOwn.never rfl (pi_range1 rfl T.g_range (pa_cons (pe_callG G__law_next gu (hr.mono (by decide)) rfl T.m__law_next T.F__law_next.kp b__law_next (fun σ => passN σ) (pa_cons (pv 1) (pa_cons pe_int pa_nil))) pa_nil)) (pg_name (i := 6) sc_law.nd rfl (by first | exact Or.inl rfl | exact Or.inr rfl)) (pss_cons (ps_expr (pe_bm PySem.F.plainAttrs_list PySem.F.slot_list_append PySem.F.type_list_append mt_append (pv 4) (pa_cons (pe_tup (pa_cons (pe_callG G__law_next gu (hr.mono (by decide)) rfl T.m__law_next T.F__law_next.kp b__law_next (fun σ => passN σ) (pa_cons (pv 1) (pa_cons (pv 3) pa_nil))) (pa_cons (pe_callG G__law_next gu (hr.mono (by decide)) rfl T.m__law_next T.F__law_next.kp b__law_next (fun σ => passN σ) (pa_cons (pv 1) (pa_cons pe_int pa_nil))) (pa_cons (pe_op opAdd (pv 5) (pe_callG G__law_next gu (hr.mono (by decide)) rfl T.m__law_next T.F__law_next.kp b__law_next (fun σ => passN σ) (pa_cons (pv 1) (pa_cons (pe_op op_sub (pv 3) (pv 5)) pa_nil)))) pa_nil)))) pa_nil))) (pss_one (ps_if (pt_cmpR (opEq hu) (pe_callG G__law_next gu (hr.mono (by decide)) rfl T.m__law_next T.F__law_next.kp b__law_next (fun σ => passN σ) (pa_cons (pv 1) (pa_cons pe_int pa_nil))) pe_int (by rfl)) (pss_one (ps_set (i := 4) sc_law.nd rfl (by first | exact Or.inl rfl | exact Or.inr rfl) (pe_op opAdd (pe_lst (pa_cons (pe_ix ix_seq (pv 4) (pe_callG G__law_next gu (hr.mono (by decide)) rfl T.m__law_next T.F__law_next.kp b__law_next (fun σ => passN σ) (pa_cons (pv 1) (pa_cons (pe_callB call_len_seq (by rfl) T.g_len boot_len (pa_cons (pv 4) pa_nil)) pa_nil))) (fun _ _ => rfl)) pa_nil)) (pv 4)))) pss_nil)))) (pss_cons (ps_setLc (i := 7) (own := [("k", 6)]) (g := (gName 6)) (tt := tYes) (te := (tCallG (spA K (con__law_next K)) (fun _ => E0) (tCons (tVar 1) (tCons (tVar 3) tNil)))) rfl sc_law.nd rfl rfl (sw_true rfl rfl rfl (by decide +kernel)) (pi_range1 rfl T.g_range (pa_cons (pe_callG G__law_next gu (hr.mono (by decide)) rfl T.m__law_next T.F__law_next.kp b__law_next (fun σ => passN σ) (pa_cons (pv 1) (pa_cons pe_int pa_nil))) pa_nil)) (blkOk_by (own := [("k", 6)]) (N := ["script", "pool", "worlds", "states", "edges", "low", "k", "finals", "handed", "machine", "told", "other"]) (sc := defScope s_law) (by decide +kernel)) (fun _ _ _ _ _ => (pg_name (i := 6) sc_law.nd rfl (by first | exact Or.inl rfl | exact Or.inr rfl))) (fun _ _ _ _ _ => pts_nil) (fun _ _ _ _ _ => (pe_callG G__law_next gu (hr.mono (by decide)) rfl T.m__law_next T.F__law_next.kp b__law_next (fun σ => passN σ) (pa_cons (pv 1) (pa_cons (pv 3) pa_nil))))) (pss_cons (ps_set (i := 8) sc_law.nd rfl (by first | exact Or.inl rfl | exact Or.inr rfl) (pe_lst (pa_cons (pe_callTy call_list_of (by rfl) T.g_list (by decide +kernel) (pa_cons (pv 4) pa_nil)) (pa_cons (pe_callTy call_list_of (by rfl) T.g_list (by decide +kernel) (pa_cons (pv 7) pa_nil)) pa_nil)))) (pss_cons (ps_set (i := 9) sc_law.nd rfl (by first | exact Or.inl rfl | exact Or.inr rfl) (pe_makeG T.mk_Machine G_Machine_init gu (hr.mono (by decide)) rfl T.m_Machine b_Machine_init (fun σ => passN σ) (pa_cons (pv 2) (pa_cons (pv 3) (pa_cons (pe_ix ix_seq (pv 8) pe_int (fun _ _ => rfl)) (pa_cons (pe_ix ix_seq (pv 8) pe_int (fun _ _ => rfl)) pa_nil)))))) (pss_cons (ps_if (pt_not (ptT (pe_callG G__law_same gu (hr.mono (by decide)) rfl T.m__law_same T.F__law_same.kp b__law_same (fun σ => passN σ) (pa_cons (pv 8) (pa_cons (pe_lst (pa_cons (pv 4) (pa_cons (pv 7) pa_nil))) pa_nil))) (by intro _; rfl))) (pss_one (ps_ret pe_bl)) pss_nil) (pss_cons (ps_expr (pe_bm PySem.F.plainAttrs_list PySem.F.slot_list_append PySem.F.type_list_append mt_append (pe_ix ix_seq (pv 8) pe_int (fun _ _ => rfl)) (pa_cons (pe_tup (pa_cons pe_int (pa_cons pe_int (pa_cons pe_int pa_nil)))) pa_nil))) (pss_cons (ps_expr (pe_bm PySem.F.plainAttrs_list PySem.F.slot_list_append PySem.F.type_list_append mt_append (pe_ix ix_seq (pv 8) pe_int (fun _ _ => rfl)) (pa_cons pe_int pa_nil))) (pss_cons (ps_if (pt_not (ptT (pe_callG G__law_looks gu (hr.mono (by decide)) rfl T.m__law_looks T.F__law_looks.kp b__law_looks (fun σ => passN σ) (pa_cons (pv 1) (pa_cons (pv 9) (pa_cons (pv 2) (pa_cons (pv 3) (pa_cons (pv 4) (pa_cons (pv 7) pa_nil))))))) (by intro _; rfl))) (pss_one (ps_ret pe_bl)) pss_nil) (pss_cons (ps_set (i := 10) sc_law.nd rfl (by first | exact Or.inl rfl | exact Or.inr rfl) (pe_methG (pv 9) T.cl_Machine T.me_Machine_follow G_Machine_follow gu (hr.mono (by decide)) b_Machine_follow (fun σ => passN σ) (pa_cons pe_int (pa_cons (pe_tup pa_nil) pa_nil)))) (pss_cons (ps_expr (pe_bm PySem.F.plainAttrs_list PySem.F.slot_list_append PySem.F.type_list_append mt_append (pv 10) (pa_cons pe_int pa_nil))) (pss_cons (ps_set (i := 10) sc_law.nd rfl (by first | exact Or.inl rfl | exact Or.inr rfl) (pe_methG (pv 9) T.cl_Machine T.me_Machine_targets G_Machine_targets gu (hr.mono (by decide)) b_Machine_targets (fun σ => passN σ) (pa_cons pe_int (pa_cons pe_int pa_nil)))) (pss_cons (ps_expr (pe_bm PySem.F.plainAttrs_list PySem.F.slot_list_append PySem.F.type_list_append mt_append (pv 10) (pa_cons pe_int pa_nil))) (pss_cons (ps_set (i := 11) sc_law.nd rfl (by first | exact Or.inl rfl | exact Or.inr rfl) (pe_makeG T.mk_Machine G_Machine_init gu (hr.mono (by decide)) rfl T.m_Machine b_Machine_init (fun σ => passN σ) (pa_cons (pe_op opAdd (pv 2) pe_int) (pa_cons (pe_op opAdd (pv 3) pe_int) (pa_cons (pe_lst pa_nil) (pa_cons (pe_lst (pa_cons (pv 2) pa_nil)) pa_nil)))))) (pss_cons (ps_if (PW.pt (pw_or (ptT (pe_methG (pv 11) T.cl_Machine T.me_Machine_accepts G_Machine_accepts gu (hr.mono (by decide)) b_Machine_accepts (fun σ => passN σ) (pa_cons pe_int (pa_cons (pe_tup (pa_cons pe_int pa_nil)) pa_nil))) (by intro _; rfl)) (pw_or1 (pt_not (ptT (pe_methG (pv 11) T.cl_Machine T.me_Machine_accepts G_Machine_accepts gu (hr.mono (by decide)) b_Machine_accepts (fun σ => passN σ) (pa_cons (pv 2) (pa_cons (pe_tup pa_nil) pa_nil))) (by intro _; rfl)))))) (pss_one (ps_ret pe_bl)) pss_nil) (pss_cons (ps_if (pt_not (ptT (pe_callG G__law_looks gu (hr.mono (by decide)) rfl T.m__law_looks T.F__law_looks.kp b__law_looks (fun σ => passN σ) (pa_cons (pv 1) (pa_cons (pv 9) (pa_cons (pv 2) (pa_cons (pv 3) (pa_cons (pv 4) (pa_cons (pv 7) pa_nil))))))) (by intro _; rfl))) (pss_one (ps_ret pe_bl)) pss_nil) (pss_one (ps_ret (pe_callG G__law_single gu (hr.mono (by decide)) rfl T.m__law_single T.F__law_single.kp b__law_single (fun σ => passN σ) (pa_cons (pv 1) (pa_cons (pv 2) pa_nil))))))))))))))))))))))))))
  · unfold t_law
    obtain ⟨_, script_1, rfl, rfl, hG⟩ := hA
    walk_at "slots"
    unfold m_law at hG
    refine as_seq (as_asg (ae_call0 no_exc (aa_cons (ae_var rfl (aa_cons (ae_int (aa_nil ⟨rfl, _, 160, rfl, rfl, by decide, by decide, fun a_1 pool_1 => ?_⟩)))))))
    walk_at "red"
    replace hG := hG pool_1
    refine as_seq (as_asg (ae_op (ae_int (ae_callM 0 no_exc (aa_cons (ae_var rfl (aa_cons (ae_int (aa_nil ?_)))))))))
    refine ⟨_, rfl, ⟨rfl, _, pool_1, 4, _, rfl, rfl, (gbind hG).imp fun ⟨r_1, pool_2⟩ hG => ⟨_, congrArg _ toFoot_snd, rd_add ?_⟩⟩⟩
    walk_at "red"
    refine as_seq (as_asg (ae_op (ae_var rfl (ae_callM 0 no_exc (aa_cons (ae_var rfl (aa_cons (ae_int (aa_nil ?_)))))))))
    refine ⟨_, rfl, ⟨rfl, _, pool_2, 6, _, rfl, rfl, (gbind hG).imp fun ⟨r_2, pool_3⟩ hG => ⟨_, congrArg _ toFoot_snd, rd_add ?_⟩⟩⟩
    walk_at "red"
    refine as_seq (as_asg (ae_lstO (aa_nil ⟨Nat.le_of_ble_eq_true rfl, fun a_2 => ?_⟩)))
    walk_at "red"
    refine as_seq (as_asg (ae_int ?_))
    walk_at "red"
    obtain ⟨Qj, hJ, hK⟩ : ∃ Q, G _ Q ∧ Q = _ := ⟨_, gbind hG, rfl⟩
    refine as_mid (fun a_ b_ => ∃ s_, Qj s_ ∧ (fun (s_1 : Int × (List Int)) (ds_ : Sls) (T_ : Tb) => ∃ (wx_1 : Option D) (wx_2 : Option D) (wx_3 : Option D) (wx_4 : Option D) (wx_5 : Option D) (wx_6 : Option D), ds_ = [some ((eFL D.int) script_1), some (.adr a_1), some (D.int (1 + r_1)), some (D.int ((1 + r_1) + r_2)), some (.adr a_2), some (D.int s_1.1), wx_1, wx_2, wx_3, wx_4, wx_5, wx_6] ∧ Sb (⟨a_2, true, (.lst (([] : List (Int × Int × Int)).map (eT3 D.int D.int D.int)))⟩ :: ⟨a_1, true, (.lst (s_1.2.map D.int))⟩ :: foot []) T_) s_ a_ b_) ?_ ?_
    · replace hG := hJ
      clear hJ hK
      refine as_if ?_
      obtain ⟨Qj, hJ, hK⟩ : ∃ Q, G _ Q ∧ Q = _ := ⟨_, gbind hG, rfl⟩
      refine AT.mid (fun b_ T_ => ∃ pool_5 : (List Int), T_ = (⟨a_2, true, (.lst (([] : List (Int × Int × Int)).map (eT3 D.int D.int D.int)))⟩ :: ⟨a_1, true, (.lst (pool_5.map D.int))⟩ :: foot []) ∧ Qj (b_, pool_5)) ?_ ?_
      · clear hG hK
        have hG := hJ
        refine at_and (at_test (ae_op (ae_callM 1 no_exc (aa_cons (ae_var rfl (aa_cons (ae_int (aa_nil ?_))))))))
        refine ⟨_, rfl, ⟨rfl, _, pool_3, 2, _, rfl, rfl, (gbind hG).imp fun ⟨r_3, pool_6⟩ hG => ⟨_, congrArg _ toFoot_snd, ae_int (rd_eqI ⟨_, rfl, ?_⟩)⟩⟩⟩
        refine if_b (fun hb => ?_) (fun hb => ?_)
        · replace hG := gif_t hG hb
          exact at_test (ae_op (ae_var rfl (ae_var rfl (rd_gt ⟨_, rfl, ⟨pool_6, rfl, gsome hG⟩⟩))))
        · replace hG := gif_f hG hb
          exact ⟨pool_6, rfl, gsome hG⟩
      subst hK
      rintro c_1 _ ⟨pool_5, rfl, hG⟩
      refine ⟨fun hb => ?_, fun hb => ?_⟩
      · replace hG := gif_t hG hb
        refine as_asg (ae_var rfl ?_)
        walk_at "red"
        have hR := gsome hG
        exact ⟨((1 + r_1), pool_5), hR, _, _, _, _, _, _, rfl, Sb.r _⟩
      · replace hG := gif_f hG hb
        refine as_next ?_
        have hR := gsome hG
        exact ⟨(0, pool_5), hR, _, _, _, _, _, _, rfl, Sb.r _⟩
    subst hK
    rintro _ _ ⟨⟨low_1, pool_4⟩, hG, wx_1, wx_2, wx_3, wx_4, wx_5, wx_6, rfl, hs_1⟩
    refine as_sb hs_1 ?_
    refine as_seq (for_RO (is := [6]) (aa_cons (ae_callM 1 no_exc (aa_cons (ae_var rfl (aa_cons (ae_int (aa_nil ?_))))))))
    refine ⟨_, rfl, ⟨rfl, _, pool_4, 15, _, rfl, rfl, (gbind hG).imp fun ⟨r_4, pool_7⟩ hG => ⟨_, congrArg _ toFoot_snd, aa_nil ?_⟩⟩⟩
    obtain ⟨hn_1, hG⟩ := gchk hG
    refine ⟨_, _, _, _, _, fun (s_2 : (List Int) × (List (Int × Int × Int))) (ds_ : Sls) (T_ : Tb) => ∃ (a_3 : Addr) (wx_7 : Option D) (wx_8 : Option D) (wx_9 : Option D) (wx_10 : Option D) (wx_11 : Option D) (wx_12 : Option D), ds_ = [some ((eFL D.int) script_1), some (.adr a_1), some (D.int (1 + r_1)), some (D.int ((1 + r_1) + r_2)), some (.adr a_3), some (D.int low_1), wx_7, wx_8, wx_9, wx_10, wx_11, wx_12] ∧ Sb (⟨a_3, true, (.lst (s_2.2.map (eT3 D.int D.int D.int)))⟩ :: ⟨a_1, true, (.lst (s_2.1.map D.int))⟩ :: foot []) T_, rfl, hn_1, gbind hG, ⟨_, _, _, _, _, _, _, rfl, Sb.r _⟩, ?_, ?_⟩
    · intro x_1 hx_1
      rintro ⟨pool_8, edges_1⟩ M_1 hG _ _ ⟨a_3, wx_7, wx_8, wx_9, wx_10, wx_11, wx_12, rfl, hs_2⟩
      refine ag_sbS hs_2 ?_
      refine ag_name ?_
      walk_at "red"
      refine as_seq (as_drop (ae_bmL (ae_var rfl ⟨⟨_, (.own 0 rfl)⟩, aa_cons (ae_tup (aa_cons (ae_callM 1 no_exc (aa_cons (ae_var rfl (aa_cons (ae_var rfl (aa_nil ?_))))))))⟩)))
      refine ⟨_, rfl, ⟨rfl, _, pool_8, ((1 + r_1) + r_2), _, rfl, rfl, (gbind hG).imp fun ⟨r_5, pool_9⟩ hG => ⟨_, congrArg _ toFoot_snd, aa_cons (ae_callM 1 no_exc (aa_cons (ae_var rfl (aa_cons (ae_int (aa_nil ?_))))))⟩⟩⟩
      refine ⟨_, rfl, ⟨rfl, _, pool_9, 5, _, rfl, rfl, (gbind hG).imp fun ⟨r_6, pool_10⟩ hG => ⟨_, congrArg _ toFoot_snd, aa_cons (ae_op (ae_var rfl (ae_callM 1 no_exc (aa_cons (ae_var rfl (aa_cons (ae_op (ae_var rfl (ae_var rfl (rd_sub (aa_nil ?_)))))))))))⟩⟩⟩
      refine ⟨_, rfl, ⟨rfl, _, pool_10, (((1 + r_1) + r_2) - low_1), _, rfl, rfl, (gbind hG).imp fun ⟨r_7, pool_11⟩ hG => ⟨_, congrArg _ toFoot_snd, rd_add (aa_nil ⟨Nat.le_of_ble_eq_true rfl, aa_nil ?_⟩)⟩⟩⟩
      obtain ⟨hc, hG⟩ := gchk hG
      refine rm_appendM (xs := edges_1) (e := (eT3 D.int D.int D.int)) (x := (r_5, r_6, (low_1 + r_7))) 0 rfl hc rfl ?_
      walk_at "red"
      refine as_if (at_test (ae_op (ae_callM 1 no_exc (aa_cons (ae_var rfl (aa_cons (ae_int (aa_nil ?_))))))))
      refine ⟨_, rfl, ⟨rfl, _, pool_11, 6, _, rfl, rfl, (gbind hG).imp fun ⟨r_8, pool_12⟩ hG => ⟨_, congrArg _ toFoot_snd, ae_int (rd_eqI ⟨_, rfl, ?_⟩)⟩⟩⟩
      refine ⟨fun hb => ?_, fun hb => ?_⟩
      · replace hG := gif_t hG hb
        refine as_asg (ae_op (ae_lst (aa_cons (ae_op (ae_var rfl (ae_callM 1 no_exc (aa_cons (ae_var rfl (aa_cons (ae_cb (aa_cons (ae_var rfl (aa_nil (rc_lenLM (xs := (edges_1 ++ [(r_5, r_6, (low_1 + r_7))])) (e := (eT3 D.int D.int D.int)) (.own 0 rfl) (aa_nil ?_)))))))))))))))
        refine ⟨_, rfl, ⟨rfl, _, pool_12, ((edges_1 ++ [(r_5, r_6, (low_1 + r_7))]).length : Int), _, rfl, rfl, (gbind hG).imp fun ⟨r_9, pool_13⟩ hG => ⟨_, congrArg _ toFoot_snd, ?_⟩⟩⟩
        obtain ⟨v_1, e_1, hG⟩ := gbind hG
        refine rd_ixLM (xs := (edges_1 ++ [(r_5, r_6, (low_1 + r_7))])) (e := (eT3 D.int D.int D.int)) (.own 0 rfl) e_1 (aa_nil ⟨Nat.le_of_ble_eq_true rfl, ae_var rfl ?_⟩)
        obtain ⟨hc, hG⟩ := gchk hG
        refine rd_catLMO (xs := [v_1]) (ys := (edges_1 ++ [(r_5, r_6, (low_1 + r_7))])) (e := (eT3 D.int D.int D.int)) (.f _) (.own 0 rfl) hc fun a_4 => ?_
        walk_at "red"
        have hR := gsome hG
        exact ⟨(pool_13, ([v_1] ++ (edges_1 ++ [(r_5, r_6, (low_1 + r_7))]))), hR, _, _, _, _, _, _, _, rfl, Sb.s (.cons_cons _ (.cons _ (.cons_cons _ (.refl _))))⟩
      · replace hG := gif_f hG hb
        refine as_next ?_
        have hR := gsome hG
        exact ⟨(pool_12, (edges_1 ++ [(r_5, r_6, (low_1 + r_7))])), hR, _, _, _, _, _, _, _, rfl, Sb.r _⟩
    rintro ⟨pool_14, edges_2⟩ hG _ _ ⟨a_3, wx_7, wx_8, wx_9, wx_10, wx_11, wx_12, rfl, hs_3⟩
    refine as_sb hs_3 ?_
    refine as_frz 4 0 rfl rfl ?_
    walk_at "red"
    refine as_seq (as_asg (lcR_G (is := [6]) (fun _ h => h) (aa_cons (ae_callM 0 no_exc (aa_cons (ae_var rfl (aa_cons (ae_int (aa_nil ?_)))))))))
    refine ⟨_, rfl, ⟨rfl, _, pool_14, 4, _, rfl, rfl, (gbind hG).imp fun ⟨r_10, pool_15⟩ hG => ⟨_, congrArg _ toFoot_snd, aa_nil ?_⟩⟩⟩
    obtain ⟨hn_2, hG⟩ := gchk hG
    refine ⟨_, _, _, D.int, _, _, _, fun (s_4 : (List Int)) T_ => T_ = ⟨a_1, true, (.lst (s_4.map D.int))⟩ :: foot [], rfl, hn_2, gbind hG, rfl, ?_, ?_⟩
    · intro x_2 hx_2 s_5 M_2 hG Tx_1 hS_1
      subst hS_1
      refine ag_name ?_
      walk_at "red"
      walk_at "wipe"
      refine at_yes ?_
      refine if_t rfl ?_
      refine ae_callM 0 no_exc (aa_cons (ae_var rfl (aa_cons (ae_var rfl (aa_nil ?_)))))
      exact ⟨_, rfl, ⟨rfl, _, s_5, ((1 + r_1) + r_2), _, rfl, rfl, (gbind hG).imp fun ⟨r_11, pool_17⟩ hG => ⟨_, congrArg _ toFoot_snd, ⟨r_11, pool_17, gsome hG, rfl, rfl⟩⟩⟩⟩
    intro l_1 s_5a hG _ hS
    subst hS
    walk_at "red"
    refine as_seq (as_asg (ae_lstO (aa_cons (ae_cb (aa_cons (ae_var rfl (aa_nil (rc_listLO (xs := edges_2.map (eT3 D.int D.int D.int)) (.f _) fun a_5 => (aa_cons (ae_cb (aa_cons (ae_var rfl (aa_nil (rc_listLO (xs := l_1.map D.int) (.f _) fun a_6 => (aa_nil ⟨Nat.le_of_ble_eq_true rfl, fun a_7 => ?_⟩)))))))))))))))
    walk_at "red"
    refine as_seq (as_asg (AE.froz (ae_make no_exc (aa_cons (ae_var rfl (aa_cons (ae_var rfl (aa_cons (ae_op (ae_var rfl (ae_int (rd_ixL (d := .adr a_5) (.own 0 rfl) rfl (aa_cons (ae_op (ae_var rfl (ae_int (rd_ixL (d := .adr a_6) (.own 0 rfl) rfl (aa_nil ?_))))))))))))))))))
    refine fun x_3 => ⟨rfl, _, (1 + r_1), ((1 + r_1) + r_2), _, edges_2, _, l_1, _, rfl, rfl, LV.foot (.own 2 rfl), LV.foot (.own 1 rfl), (gbind hG).imp fun o_1 hG => ⟨rfl, _, congrArg _ toFoot_snd, 0, _, rfl, rfl, rfl, ?_⟩⟩
    walk_at "red"
    refine as_seq (as_if (at_not (at_tru (ae_callT no_exc (aa_cons (ae_var rfl (aa_cons (ae_lst (aa_cons (ae_var rfl (aa_cons (ae_var rfl (aa_nil ⟨Nat.le_of_ble_eq_true rfl, aa_nil ?_⟩)))))))))))))
    refine ⟨rfl, _, _, (eH2 (eL (eT3 D.int D.int D.int)) (eL D.int)), _, _, _, (edges_2, l_1), (edges_2, l_1), (pl_H2 (pl_L (pl_T3 pl_I pl_I pl_I)) ((pl_L pl_I).up (m := 2) (by decide))), rfl, (.own2 0 (foot_at rfl) (.cons (dv_LV (pl_T3 pl_I pl_I pl_I) (.own 2 rfl)).foot.s (.cons (dv_LV pl_I (.own 1 rfl)).foot.s (.nil)))), (dv_f (pl_H2 (pl_L (pl_T3 pl_I pl_I pl_I)) ((pl_L pl_I).up (m := 2) (by decide))) (edges_2, l_1)).foot.s, (gbind hG).imp fun v_2 hG => ⟨toFoot_snd, ⟨_, tru_bl, ?_⟩⟩⟩
    refine ⟨fun hb => ?_, fun hb => ?_⟩
    · replace hG := gif_t hG hb
      refine as_ret (ae_bl ?_)
      have hR := gsome hG
      exact retT (hR) (fun e he => (List.mem_cons_of_mem _ (List.mem_cons_of_mem _ (List.mem_cons_of_mem _ (List.mem_cons_of_mem _ he)))))
    · replace hG := gif_f hG hb
      refine as_next ?_
      refine as_seq (as_drop (ae_bmL (ae_op (ae_var rfl (ae_int (rd_ixL (d := .adr a_5) (.own 0 rfl) rfl ⟨⟨_, (.own 2 rfl)⟩, aa_cons (ae_tup (aa_cons (ae_int (aa_cons (ae_int (aa_cons (ae_int (aa_nil ⟨Nat.le_of_ble_eq_true rfl, aa_nil ?_⟩))))))))⟩))))))
      obtain ⟨hc, hG⟩ := gchk hG
      refine rm_appendM (xs := edges_2) (e := (eT3 D.int D.int D.int)) (x := (0, 0, 0)) 2 rfl hc rfl ?_
      walk_at "red"
      refine as_seq (as_drop (ae_bmL (ae_op (ae_var rfl (ae_int (rd_ixL (d := .adr a_6) (.own 0 rfl) rfl ⟨⟨_, (.own 1 rfl)⟩, aa_cons (ae_int (aa_nil ?_))⟩))))))
      obtain ⟨hc, hG⟩ := gchk hG
      refine rm_appendM (xs := l_1) (e := D.int) (x := 0) 1 rfl hc rfl ?_
      walk_at "red"
      refine as_seq (as_if (at_not (at_tru (ae_callM 3 no_exc (aa_cons (ae_var rfl (aa_cons (ae_var rfl (aa_cons (ae_var rfl (aa_cons (ae_var rfl (aa_cons (ae_var rfl (aa_cons (ae_var rfl (aa_nil ?_)))))))))))))))))
      refine ⟨_, rfl, ⟨rfl, _, s_5a, o_1, (1 + r_1), ((1 + r_1) + r_2), edges_2, l_1, _, rfl, rfl, (gbind hG).imp fun ⟨b_1, pool_18⟩ hG => ⟨_, congrArg _ toFoot_snd, ⟨_, tru_bl, ?_⟩⟩⟩⟩
      refine ⟨fun hb => ?_, fun hb => ?_⟩
      · replace hG := gif_t hG hb
        refine as_ret (ae_bl ?_)
        have hR := gsome hG
        exact retT (hR) (fun e he => (List.mem_cons_of_mem _ (List.mem_cons_of_mem _ (List.mem_cons_of_mem _ (List.mem_cons_of_mem _ he)))))
      · replace hG := gif_f hG hb
        refine as_next ?_
        refine as_seq (as_asg (ae_methT no_exc (ae_var rfl ⟨_, _, rfl, by decide +kernel, aa_cons (ae_int (aa_cons (ae_tup (aa_nil ⟨Nat.le_of_ble_eq_true rfl, aa_nil ?_⟩))))⟩)))
        refine ⟨rfl, o_1, 0, [], rfl, (gbind hG).imp fun r_12 hG a_8 => ⟨toFoot_snd, ?_⟩⟩
        walk_at "red"
        refine as_seq (as_drop (ae_bmL (ae_var rfl ⟨⟨_, (.own 0 rfl)⟩, aa_cons (ae_int (aa_nil ?_))⟩)))
        obtain ⟨hc, hG⟩ := gchk hG
        refine rm_appendM (xs := r_12) (e := D.int) (x := 99) 0 rfl hc rfl ?_
        walk_at "red"
        refine as_seq (as_asg (ae_methT no_exc (ae_var rfl ⟨_, _, rfl, by decide +kernel, aa_cons (ae_int (aa_cons (ae_int (aa_nil ?_))))⟩)))
        refine ⟨rfl, o_1, 0, 0, rfl, (gbind hG).imp fun r_13 hG a_9 => ⟨toFoot_snd, ?_⟩⟩
        walk_at "red"
        refine as_seq (as_drop (ae_bmL (ae_var rfl ⟨⟨_, (.own 0 rfl)⟩, aa_cons (ae_int (aa_nil ?_))⟩)))
        obtain ⟨hc, hG⟩ := gchk hG
        refine rm_appendM (xs := r_13) (e := D.int) (x := 98) 0 rfl hc rfl ?_
        walk_at "red"
        refine as_seq (as_asg (AE.froz (ae_make no_exc (aa_cons (ae_op (ae_var rfl (ae_int (rd_add (aa_cons (ae_op (ae_var rfl (ae_int (rd_add (aa_cons (ae_lst (aa_nil ⟨Nat.le_of_ble_eq_true rfl, aa_cons (ae_lst (aa_cons (ae_var rfl (aa_nil ⟨Nat.le_of_ble_eq_true rfl, aa_nil ?_⟩))))⟩))))))))))))))))
        refine fun x_4 => ⟨rfl, _, ((1 + r_1) + 1), (((1 + r_1) + r_2) + 1), _, ([] : List (Int × Int × Int)), _, [(1 + r_1)], _, rfl, rfl, LV.foot (.f _), LV.foot (.f _), (gbind hG).imp fun o_2 hG => ⟨rfl, _, congrArg _ toFoot_snd, 0, _, rfl, rfl, rfl, ?_⟩⟩
        walk_at "red"
        refine as_seq (as_if ?_)
        obtain ⟨Qj, hJ, hK⟩ : ∃ Q, G _ Q ∧ Q = _ := ⟨_, gbind hG, rfl⟩
        refine AT.mid (fun b_ T_ =>  T_ = (⟨a_9, true, (.lst ((r_13 ++ [98]).map D.int))⟩ :: ⟨a_8, true, (.lst ((r_12 ++ [99]).map D.int))⟩ :: ⟨a_7, true, .lst [.adr a_5, .adr a_6]⟩ :: ⟨a_6, true, (.lst ((l_1 ++ [0]).map D.int))⟩ :: ⟨a_5, true, (.lst ((edges_2 ++ [(0, 0, 0)]).map (eT3 D.int D.int D.int)))⟩ :: ⟨a_1, true, (.lst (pool_18.map D.int))⟩ :: foot []) ∧ Qj b_) ?_ ?_
        · clear hG hK
          have hG := hJ
          refine at_or (at_tru (ae_methT no_exc (ae_var rfl ⟨_, _, rfl, by decide +kernel, aa_cons (ae_int (aa_cons (ae_tup (aa_cons (ae_int (aa_nil ⟨Nat.le_of_ble_eq_true rfl, aa_nil ?_⟩))))))⟩)))
          refine ⟨rfl, o_2, 0, [0], rfl, (gbind hG).imp fun b_2 hG => ⟨toFoot_snd, ⟨_, tru_bl, ?_⟩⟩⟩
          refine if_b (fun hb => ?_) (fun hb => ?_)
          · replace hG := gif_t hG hb
            exact ⟨rfl, gsome hG⟩
          · replace hG := gif_f hG hb
            refine at_not (at_tru (ae_methT no_exc (ae_var rfl ⟨_, _, rfl, by decide +kernel, aa_cons (ae_var rfl (aa_cons (ae_tup (aa_nil ⟨Nat.le_of_ble_eq_true rfl, aa_nil ?_⟩))))⟩)))
            exact ⟨rfl, o_2, (1 + r_1), [], rfl, (gbind hG).imp fun b_3 hG => ⟨toFoot_snd, ⟨_, tru_bl, ⟨rfl, gsome hG⟩⟩⟩⟩
        subst hK
        rintro c_2 _ ⟨rfl, hG⟩
        refine ⟨fun hb => ?_, fun hb => ?_⟩
        · replace hG := gif_t hG hb
          refine as_ret (ae_bl ?_)
          have hR := gsome hG
          exact retT (hR) (fun e he => (List.mem_cons_of_mem _ (List.mem_cons_of_mem _ (List.mem_cons_of_mem _ (List.mem_cons_of_mem _ (List.mem_cons_of_mem _ (List.mem_cons_of_mem _ he)))))))
        · replace hG := gif_f hG hb
          refine as_next ?_
          refine as_seq (as_if (at_not (at_tru (ae_callM 5 no_exc (aa_cons (ae_var rfl (aa_cons (ae_var rfl (aa_cons (ae_var rfl (aa_cons (ae_var rfl (aa_cons (ae_var rfl (aa_cons (ae_var rfl (aa_nil ?_)))))))))))))))))
          refine ⟨_, rfl, ⟨rfl, _, pool_18, o_1, (1 + r_1), ((1 + r_1) + r_2), edges_2, l_1, _, rfl, rfl, (gbind hG).imp fun ⟨b_4, pool_19⟩ hG => ⟨_, congrArg _ toFoot_snd, ⟨_, tru_bl, ?_⟩⟩⟩⟩
          refine ⟨fun hb => ?_, fun hb => ?_⟩
          · replace hG := gif_t hG hb
            refine as_ret (ae_bl ?_)
            have hR := gsome hG
            exact retT (hR) (fun e he => (List.mem_cons_of_mem _ (List.mem_cons_of_mem _ (List.mem_cons_of_mem _ (List.mem_cons_of_mem _ (List.mem_cons_of_mem _ (List.mem_cons_of_mem _ he)))))))
          · replace hG := gif_f hG hb
            refine as_next ?_
            refine as_ret (ae_callM 5 no_exc (aa_cons (ae_var rfl (aa_cons (ae_var rfl (aa_nil ?_))))))
            refine ⟨_, rfl, ⟨rfl, _, pool_19, (1 + r_1), _, rfl, rfl, (gbind hG).imp fun ⟨b_5, pool_20⟩ hG => ⟨_, congrArg _ toFoot_snd, ?_⟩⟩⟩
            have hR := gsome hG
            exact retT (hR) (fun e he => (List.mem_cons_of_mem _ (List.mem_cons_of_mem _ (List.mem_cons_of_mem _ (List.mem_cons_of_mem _ (List.mem_cons_of_mem _ (List.mem_cons_of_mem _ he)))))))
end




/-! ### the plain law: machines -/
theorem next_ok {pool : List Int} {n : Int} {Q : Int × List Int → Prop} (hn : 0 < n) (h : ∀ r pool', 0 ≤ r → r < n → Q (r, pool')) : G (m__law_next pool n) Q := by
  unfold m__law_next
  refine Gi (fun _ => Gs (h 0 pool (Int.le_refl _) hn)) fun hb => ?_
  cases e : pool.getLast? with
  | none =>
    have : pool = [] := List.getLast?_eq_none_iff.mp e
    rw [this] at hb
    cases hb
  | some v => exact Gc hn (Gs (h _ _ (Int.emod_nonneg _ (by omega)) (Int.emod_lt_of_pos _ hn)))
structure Mk (W S : Int) (es : List E3) (fs : List Int) (M : MMachine) : Prop where
  w : M.worlds = W
  s : M.states = S
  e : M.edges = usort ltT3 es
  f : M.finals = usort ltI fs
  by_ : ∀ a s, (dlk M.by_start (a, s)).getD [] = tg es a s
  nd : (M.by_start.map (·.1)).Nodup
  ne : ∀ p ∈ M.by_start, p.2 ≠ []
  ln : M.by_start.length ≤ 63
theorem init_ok {W S : Int} {es : List E3} {fs : List Int} (he : Eok es) (hf : fs.length < 64) : G (m_Machine_init W S es fs) (Mk W S es fs) := by
  unfold m_Machine_init
  have hul := usort_len (lt := ltT3) es
  have hle := he.len
  refine Gc ⟨he.len, he.all⟩ (Gc hf (Gb ?_))
  refine G_forOs (fun pre d => (∀ h : Int × Int, (dlk d h).getD [] = (pre.filter fun e => decide (e.1 = h.1) && decide (e.2.1 = h.2)).map fun e => e.2.2) ∧ (d.map (·.1)).Nodup ∧ (∀ p ∈ d, p.2 ≠ [] ∧ p.2.length ≤ pre.length) ∧ d.length ≤ pre.length) ⟨fun h => rfl, List.nodup_nil, (fun p hp => by cases hp), Nat.le_refl _⟩ ?_ ?_
  · rintro pre ⟨a, s, b⟩ post d e ⟨h1, h2, h3, h4⟩
    have hpl : pre.length < 64 := by
      have := congrArg List.length e
      rw [List.length_append, List.length_cons] at this
      omega
    refine Gc ⟨by omega, List.all_eq_true.mpr fun p hp => decide_eq_true (by have := (h3 p hp).2; omega)⟩ (Gs ⟨fun h => ?_, dpush_nodup h2, fun p hp => ?_, ?_⟩)
    · rw [dlk_dpush, h1, List.filter_append, List.map_append]
      congr 1
      obtain ⟨h1, h2⟩ := h
      by_cases hh : (h1, h2) = (a, s)
      · rw [if_pos hh]
        cases hh
        simp
      · rw [if_neg hh, List.filter_cons_of_neg]
        · rfl
        · simp only [Bool.and_eq_true, decide_eq_true_eq]
          rintro ⟨rfl, rfl⟩
          exact hh rfl
    · rw [List.length_append]
      rcases dpush_mem hp with hp | ⟨q, hq, rfl⟩ | rfl
      · exact ⟨(h3 p hp).1, Nat.le_trans (h3 p hp).2 (Nat.le_add_right ..)⟩
      · exact ⟨by simp, by rw [List.length_append]; exact Nat.add_le_add (h3 q hq).2 (Nat.le_refl _)⟩
      · exact ⟨by simp, Nat.le_add_left ..⟩
    · have := dpush_len (kvs := d) (k := (a, s)) (v := b)
      rw [List.length_append]
      exact Nat.le_trans this (Nat.add_le_add h4 (Nat.le_refl _))
  · rintro d ⟨h1, h2, h3, h4⟩
    exact Gs ⟨rfl, rfl, rfl, rfl, fun a s => (h1 (a, s)).trans grp_tg, h2, fun p hp => (h3 p hp).1, by show d.length ≤ 63; omega⟩
theorem targets_ok {W S : Int} {es : List E3} {fs : List Int} {M : MMachine} (h : Mk W S es fs M) (a s : Int) : m_Machine_targets M a s = some (tg es a s) := by
  unfold m_Machine_targets
  rw [h.by_]
theorem asc0 {xs : List Int} (h : xs.length < 100000) : m__law_ascending_0 xs = some (usort ltI xs) := G.eq (by
  unfold m__law_ascending_0
  exact Gb ((asc_loop sto_I xs h).imp fun r hr => Gs hr))
theorem asc1 {xs : List E3} (h : Eok xs) : m__law_ascending_1 xs = some (usort ltT3 xs) := G.eq (by
  unfold m__law_ascending_1
  exact Gc ⟨h.len, h.all⟩ (Gb ((asc_loop sto_T3 xs (Nat.lt_of_lt_of_le h.len (by decide))).imp fun r hr => Gs hr)))
theorem ltargets {es : List E3} (h : Eok es) (a s : Int) : m__law_targets es a s = some (tg es a s) := G.eq (by
  unfold m__law_targets
  have hl := h.len
  refine Gb (G_lcP (by omega) (Gb (Ge (asc0 ?_) (Gs rfl))))
  rw [List.length_map]
  exact Nat.lt_of_le_of_lt (List.length_filter_le _ _) (by omega))
theorem lfollow {es : List E3} (h : Eok es) {row : List Int} {st : Int} : m__law_follow es st row = some (fol es row [st]) := G.eq (by
  unfold m__law_follow
  refine Gb (G_forO (fun pre now => now = fol es pre [st]) rfl ?_ fun now hn => Gs hn)
  rintro pre x now hx rfl
  have hln : (fol es pre [st]).length ≤ 60 := fol_len (st := st) h (by simp)
  refine Gb (G_forOs (fun pre2 wider => wider = pre2.flatMap (fun a => tg es a x) ∧ wider.length ≤ 60 * pre2.length) ⟨rfl, Nat.zero_le _⟩ ?_ ?_)
  · rintro pre2 y post wider e ⟨rfl, hw⟩
    have hp : pre2.length ≤ 60 := by
      have := congrArg List.length e
      rw [List.length_append] at this
      omega
    have ht := tg_len h (a := y) (s := x)
    refine Gb (Ge (ltargets h y x) (Gc (by omega) (Gs ⟨?_, ?_⟩)))
    · rw [List.flatMap_append]; simp
    · rw [List.length_append, List.length_append]
      simp only [List.length_cons, List.length_nil]
      omega
  · rintro wider ⟨rfl, hw⟩
    refine Gb (Ge (asc0 (by omega)) (Gs ?_))
    rw [fol_snoc]
    rfl)
theorem follow_ok {W S : Int} {es : List E3} {fs : List Int} {M : MMachine} (hk : Mk W S es fs M) (h : Eok es) {row : List Int} {st : Int} : m_Machine_follow M st row = some (fol es row [st]) := G.eq (by
  unfold m_Machine_follow
  refine Gb (G_forO (fun pre now => now = fol es pre [st]) rfl ?_ fun now hn => Gs hn)
  rintro pre x now hx rfl
  refine Gb (G_forO (fun pre2 (found : List (Int × Bool)) => (found.map (·.1)).Nodup ∧ ∀ z, z ∈ found.map (·.1) ↔ ∃ a ∈ pre2, (a, x, z) ∈ es) ⟨List.nodup_nil, fun z => by simp⟩ ?_ ?_)
  · rintro pre2 y found hy ⟨h1, h2⟩
    rw [hk.by_]
    refine Gb (G_forOs (fun pre3 (found : List (Int × Bool)) => (found.map (·.1)).Nodup ∧ ∀ z, z ∈ found.map (·.1) ↔ (∃ a ∈ pre2, (a, x, z) ∈ es) ∨ z ∈ pre3) ⟨h1, fun z => (h2 z).trans (by simp)⟩ ?_ ?_)
    · rintro pre3 b post3 f3 e3 ⟨h3, h4⟩
      have hlen : (f3.map (·.1)).length ≤ 1000 := nodup_len (n := 1000) h3 fun z hz => by
        rcases (h4 z).mp hz with ⟨a, _, ha⟩ | hz
        · have := h.bd _ ha
          have h5 : 0 ≤ z ∧ z < 60 := ⟨this.2.2.2.2.1, this.2.2.2.2.2⟩
          omega
        · have hz2 : z ∈ tg es y x := by rw [e3]; exact List.mem_append_left _ hz
          have := h.bd _ (tg_mem.mp hz2)
          have h5 : 0 ≤ z ∧ z < 60 := ⟨this.2.2.2.2.1, this.2.2.2.2.2⟩
          omega
      rw [List.length_map] at hlen
      refine Gc (by omega) (Gs ⟨dset_nodup h3, fun z => ?_⟩)
      rw [dset_mem, h4, List.mem_append, List.mem_singleton, or_assoc]
    · rintro f3 ⟨h3, h4⟩
      refine Gs ⟨h3, fun z => ?_⟩
      rw [h4, tg_mem]
      constructor
      · rintro (⟨a, ha, hz⟩ | hz)
        · exact ⟨a, List.mem_append_left _ ha, hz⟩
        · exact ⟨y, List.mem_append_right _ (List.mem_singleton.mpr rfl), hz⟩
      · rintro ⟨a, ha, hz⟩
        rcases List.mem_append.mp ha with ha | ha
        · exact .inl ⟨a, ha, hz⟩
        · rw [List.mem_singleton.mp ha] at hz
          exact .inr hz
  · rintro found ⟨h1, h2⟩
    have hlen : (found.map (·.1)).length ≤ 60 := nodup_len (n := 60) h1 fun z hz => by
      obtain ⟨a, _, ha⟩ := (h2 z).mp hz
      have := h.bd _ ha
      exact ⟨this.2.2.2.2.1, this.2.2.2.2.2⟩
    rw [List.length_map] at hlen
    refine Gc (by omega) (Gs ?_)
    rw [isort_nodup sto_I h1, fol_snoc]
    exact usort_congr sto_I fun z => (h2 z).trans (by rw [List.mem_flatMap]; exact ⟨fun ⟨a, h3, h4⟩ => ⟨a, h3, tg_mem.mpr h4⟩, fun ⟨a, h3, h4⟩ => ⟨a, h3, tg_mem.mp h4⟩⟩))
theorem acc_ok {W S : Int} {es : List E3} {fs : List Int} {M : MMachine} (hk : Mk W S es fs M) (h : Eok es) {row : List Int} {p : Int} : m_Machine_accepts M p row = some ((fol es row [p]).any fun z => decide (z ∈ fs)) := by
  unfold m_Machine_accepts
  rw [follow_ok hk h, Option.bind_some]
  have e : ∀ x : Int, decide (x ∈ M.finals) = decide (x ∈ fs) := fun x => by rw [hk.f]; exact decide_eq_decide.mpr (usort_mem sto_I)
  rw [search (c := fun z => decide (z ∈ fs)) (r := true) fun x _ => by
    show (if decide (x ∈ M.finals) = true then _ else _) = _
    rw [e x]
    cases decide (x ∈ fs) <;> rfl]
  rw [Option.bind_some]
  cases (fol es row [p]).any fun z => decide (z ∈ fs) <;> rfl
theorem clean_ok {W S : Int} {es : List E3} {fs : List Int} {M : MMachine} (hk : Mk W S es fs M) (h : Eok es) : m_is_clean M = some (decide (((es.filter fun e => decide (e.2.2 < W)).length : Int) = 0)) := G.eq (by
  unfold m_is_clean
  have hl := h.len
  have hul := usort_len (lt := ltT3) es
  rw [hk.e, hk.w]
  refine Gb (G_lcP (by omega) (Gs ?_))
  rw [Bool.eq_iff_iff, List.all_eq_true, decide_eq_true_eq]
  constructor
  · intro h1
    have : (es.filter fun e => decide (e.2.2 < W)) = [] := by
      rw [List.filter_eq_nil_iff]
      intro e he hw
      have h2 := h1 (decide (W ≤ e.2.2)) (List.mem_map.mpr ⟨e, List.mem_filter.mpr ⟨(usort_mem sto_T3).mpr he, rfl⟩, rfl⟩)
      have h3 := of_decide_eq_true hw
      have h4 := of_decide_eq_true h2
      omega
    rw [this]
    rfl
  · intro h1 b hb
    obtain ⟨e, he, rfl⟩ := List.mem_map.mp hb
    have he2 := (usort_mem sto_T3).mp (List.mem_filter.mp he).1
    have h2 : (es.filter fun e => decide (e.2.2 < W)) = [] := List.eq_nil_of_length_eq_zero (by omega)
    rw [List.filter_eq_nil_iff] at h2
    have h3 := h2 e he2
    show decide (W ≤ e.2.2) = true
    refine decide_eq_true ?_
    simp only [decide_eq_true_eq] at h3
    omega)
theorem forked_ok (es : List E3) : m__law_forked es = some (es.any fun e => es.any fun e' => decide (e.1 = e'.1) && (decide (e.2.1 = e'.2.1) && !decide (e.2.2 = e'.2.2))) := by
  unfold m__law_forked
  rw [search (c := fun e : E3 => es.any fun e' => decide (e.1 = e'.1) && (decide (e.2.1 = e'.2.1) && !decide (e.2.2 = e'.2.2))) (r := true) fun x _ => by
    obtain ⟨a, s, b⟩ := x
    show Option.bind (forF es () _) _ = _
    rw [search (c := fun e' : E3 => decide (a = e'.1) && (decide (s = e'.2.1) && !decide (b = e'.2.2))) (r := true) fun y _ => by
      obtain ⟨c, t, d⟩ := y
      show (if (decide (a = c) && (decide (s = t) && !decide (b = d))) = true then _ else _) = _
      cases (decide (a = c) && (decide (s = t) && !decide (b = d))) <;> rfl]
    rw [Option.bind_some]
    cases (es.any fun e' : E3 => decide (a = e'.1) && (decide (s = e'.2.1) && !decide (b = e'.2.2))) <;> rfl]
  rw [Option.bind_some]
  cases (es.any fun e => es.any fun e' => decide (e.1 = e'.1) && (decide (e.2.1 = e'.2.1) && !decide (e.2.2 = e'.2.2))) <;> rfl
theorem det_ok {W S : Int} {es : List E3} {fs : List Int} {M : MMachine} (hk : Mk W S es fs M) : m_is_deterministic M = some (!(es.any fun e => es.any fun e' => decide (e.1 = e'.1) && (decide (e.2.1 = e'.2.1) && !decide (e.2.2 = e'.2.2)))) := G.eq (by
  unfold m_is_deterministic
  have hl := hk.ln
  refine Gc (by omega) (Gs ?_)
  have hp : ∀ p ∈ M.by_start, p.2 = tg es p.1.1 p.1.2 := fun p hp => by
    have := dlk_of_mem hk.nd hp
    have h2 := hk.by_ p.1.1 p.1.2
    rw [show ((p.1.1, p.1.2) : Int × Int) = p.1 from rfl, this] at h2
    exact h2
  rw [Bool.eq_iff_iff, List.all_eq_true, Bool.not_eq_true', List.any_eq_false]
  constructor
  · intro h1 e he hf
    rw [List.any_eq_true] at hf
    obtain ⟨e', he', h2⟩ := hf
    simp only [Bool.and_eq_true, decide_eq_true_eq, Bool.not_eq_true', decide_eq_false_iff_not] at h2
    obtain ⟨a, s, b⟩ := e
    obtain ⟨a', s', b'⟩ := e'
    obtain ⟨rfl, rfl, hne⟩ := h2
    have hb : b ∈ tg es a s := tg_mem.mpr he
    have hb' : b' ∈ tg es a s := tg_mem.mpr he'
    have hby := hk.by_ a s
    cases hd : dlk M.by_start (a, s) with
    | none =>
      rw [hd] at hby
      rw [← hby] at hb
      cases hb
    | some l =>
      rw [hd] at hby
      have hby : l = tg es a s := hby
      unfold dlk at hd
      cases hf : M.by_start.find? fun p => decide (p.1 = (a, s)) with
      | none => rw [hf] at hd; cases hd
      | some p =>
        rw [hf] at hd
        have hpm := List.mem_of_find?_eq_some hf
        have h3 := h1 _ (List.mem_map.mpr ⟨p, hpm, rfl⟩)
        have h3 : ((p.2.length : Int) = 1) := of_decide_eq_true h3
        have h4 : p.2 = l := Option.some.inj hd
        rw [h4, hby] at h3
        match hq : tg es a s, h3 with
        | [x], _ =>
          rw [hq] at hb hb'
          exact hne ((List.mem_singleton.mp hb).trans (List.mem_singleton.mp hb').symm)
        | [], h3 => simp at h3
        | x :: y :: r, h3 => simp at h3; omega
  · intro h1 c hc
    obtain ⟨p, hpm, rfl⟩ := List.mem_map.mp hc
    show decide ((p.2.length : Int) = 1) = true
    refine decide_eq_true ?_
    have hne := hk.ne p hpm
    have ep := hp p hpm
    match hq : p.2 with
    | [] => exact (hne hq).elim
    | [x] => rfl
    | x :: y :: r =>
      exfalso
      have hx : x ∈ tg es p.1.1 p.1.2 := by rw [← ep, hq]; exact List.mem_cons_self ..
      have hy : y ∈ tg es p.1.1 p.1.2 := by rw [← ep, hq]; exact List.mem_cons_of_mem _ (List.mem_cons_self ..)
      have hxy : x ≠ y := by
        have := usort_nodup sto_I (((es.filter fun e => decide (e.1 = p.1.1) && decide (e.2.1 = p.1.2)).map fun e => e.2.2))
        have h5 : (tg es p.1.1 p.1.2).Nodup := this
        rw [← ep, hq, List.nodup_cons] at h5
        exact fun z => h5.1 (by rw [z]; exact List.mem_cons_self ..)
      refine h1 _ (tg_mem.mp hx) ?_
      rw [List.any_eq_true]
      exact ⟨_, tg_mem.mp hy, by simp [hxy]⟩)



theorem Gj {α β : Type} {m : Option α} {f : α → Option β} {Q : β → Prop} (R : α → Prop) (h : G m R) (k : ∀ a, R a → G (f a) Q) : G (m.bind f) Q := Gb (h.imp k)
theorem ok_is {xs : List Int} (hl : xs.length ≤ 1000) (hb : ∀ x ∈ xs, 0 ≤ x ∧ x < 1000) : okR (eL D.int xs).py = true :=
  (ft_L (n := 0) (k := 0) fun x hx => ft_I (by have := hb x hx; omega)).ok (by decide) (by omega)
theorem ok_e3 {xs : List E3} (hl : xs.length ≤ 1000) (hb : ∀ e ∈ xs, 0 ≤ e.1 ∧ e.1 < 1000 ∧ 0 ≤ e.2.1 ∧ e.2.1 < 1000 ∧ 0 ≤ e.2.2 ∧ e.2.2 < 60) : okR (eL e3 xs).py = true :=
  (ft_L (n := 1) (k := 3) fun x hx => ft_T3 (n := 0) (k := 0) (ft_I (by have := hb x hx; omega)) (ft_I (by have := hb x hx; omega)) (ft_I (by have := hb x hx; omega))).ok (by decide) (by omega)
theorem row_ok {pool : List Int} {n m : Int} {k : Nat} {Q : List Int × List Int → Prop} (h0 : 0 ≤ n) (hn : n < 1000) (hm : 0 < m) (hq : ∀ l p, l.length = n.toNat → (∀ x ∈ l, 0 ≤ x ∧ x < m) → Q (l, p)) :
    G (lcO (irng 0 n) pool (fun (x_2 : Int) (s_4 : List Int) => (m__law_next s_4 m).bind fun (r_5, pool_6) => some (some r_5, pool_6))) Q := by
  refine G_lcO (fun pre bs _ => bs.length = pre.length ∧ ∀ x ∈ bs, 0 ≤ x ∧ x < m) (by rw [irng_len]; omega) ⟨rfl, (fun x hx => by cases hx)⟩ ?_ ?_
  · rintro pre x bs s _ ⟨h1, h2⟩
    refine Gb (next_ok hm fun r p r0 r1 => Gs ⟨?_, fun y hy => ?_⟩)
    · show (bs ++ [r]).length = (pre ++ [x]).length
      rw [List.length_append, List.length_append, h1]; rfl
    · rcases List.mem_append.mp hy with hy | hy
      · exact h2 y hy
      · rw [List.mem_singleton.mp (show y ∈ [r] from hy)]
        exact ⟨r0, r1⟩
  · rintro bs s ⟨h1, h2⟩
    refine hq bs s ?_ h2
    rw [h1, irng_len]
    omega
theorem looks_ok {pool : List Int} {W S : Int} {es : List E3} {fs : List Int} {M : MMachine} (hk : Mk W S es fs M) (h : Eok es) (hW : 0 < W) (hS : 0 < S) (hW2 : W < 1000) (hS2 : S < 1000) (hf : fs.length ≤ 60) (hfb : ∀ x ∈ fs, 0 ≤ x ∧ x < 1000) : G (m__law_looks pool M W S es fs) fun r => r.1 = true := by
  unfold m__law_looks
  have hl := h.len
  refine Gb (G_same (by rw [hk.w, hk.s]) ((ft_T2 (n := 0) (k := 0) (ft_I (by show M.worlds.natAbs < _; rw [hk.w]; omega)) (ft_I (by show M.states.natAbs < _; rw [hk.s]; omega))).ok (by decide) (by decide)) (Gf rfl ?_))
  refine Gj (fun c => c = false) ?_ ?_
  · refine Gb (Ge (asc1 h) (Gb (G_same hk.e ?_ (Gf rfl (Gb (Ge (asc0 (by omega)) (Gb (G_same hk.f ?_ (Gs rfl)))))))))
    · rw [hk.e]
      refine ok_e3 (by have := usort_len (lt := ltT3) es; omega) fun e he => h.bd e ((usort_mem sto_T3).mp he)
    · rw [hk.f]
      refine ok_is (by have := usort_len (lt := ltI) fs; omega) fun e he => hfb e ((usort_mem sto_I).mp he)
  rintro _ rfl
  refine Gf rfl (Gb (G_forF (fun _ _ => True) trivial ?_ ?_))
  · rintro pre k pool2 _ _
    refine Gb (next_ok hS fun r3 pool3 r30 r31 => Gb (next_ok (by decide) fun r4 pool4 r40 r41 => Gc (by omega) (Gb (row_ok (k := 0) r40 (by omega) (by decide) fun l s4 hll hlb => ?_))))
    refine Gj (fun r => 0 ≤ r.2.1 ∧ r.2.1 < 1000) ?_ ?_
    · refine Gi (fun hc => ?_) fun _ => Gs ⟨r30, by show r3 < 1000; omega⟩
      have hne : 0 < es.length := by
        rw [Bool.and_eq_true] at hc
        have hc2 := hc.2
        cases es with
        | nil => cases hc2
        | cons a b => simp
      refine Gb (next_ok (by omega) fun r6 pool8 r60 r61 => Gb (G_atI r60 (by omega) fun v4 hv4 _ => Gc (by simp; omega) (Gb (next_ok (by omega) fun r7 pool9 r70 r71 => Gb (G_atI r70 (by omega) fun v5 hv5 _ => Gs ?_)))))
      have := h.bd _ hv5
      exact ⟨this.1, this.2.1⟩
    · rintro ⟨pool7, st, row⟩ ⟨hs0, hs1⟩
      have fb : ∀ {row : List Int} {st : Int}, 0 ≤ st ∧ st < 1000 → okR (eL D.int (fol es row [st])).py = true := fun {row st} hst =>
        ok_is (by have := fol_len (st := st) h (row := row) (X := [st]) (by simp); omega) (fol_bd h (by intro x hx; rw [List.mem_singleton.mp hx]; exact hst))
      refine Gb (Ge (lfollow h) (Gb (Ge (follow_ok hk h) (Gb (G_same rfl (fb ⟨hs0, hs1⟩) (Gf rfl ?_))))))
      refine Gj (fun c => c = false) ?_ ?_
      · refine Gi (fun hr => ?_) fun _ => Gs rfl
        cases row with
        | nil => cases hr
        | cons a row =>
          have ea : atI (a :: row) 0 = some a := atI_lit (n := 0) rfl
          refine Gb (Ge ea (Gb (Ge (targets_ok hk st a) (Gb (Ge ea (Gb (Ge (ltargets h st a) (Gb (G_same rfl ?_ (Gs rfl))))))))))
          refine ok_is (by have := tg_len h (a := st) (s := a); omega) fun x hx => ?_
          have := h.bd _ (tg_mem.mp hx)
          have h5 : 0 ≤ x ∧ x < 60 := ⟨this.2.2.2.2.1, this.2.2.2.2.2⟩
          omega
      rintro _ rfl
      have hp0 := Int.emod_nonneg st (show W ≠ 0 by omega)
      have hp1 := Int.emod_lt_of_pos st hW
      refine Gf rfl (Gc hW (Gb (Ge (lfollow h) (Gb (G_lcP ?_ (Gb (Ge (acc_ok hk h) (Gb (G_same ?_ (okR_bl _) (Gf rfl (Gs ⟨_, rfl, trivial⟩)))))))))))
      · have := fol_len (st := st % W) h (row := row) (X := [st % W]) (by simp)
        omega
      · rw [Bool.eq_iff_iff, List.any_eq_true, decide_eq_true_eq, List.length_map]
        constructor
        · rintro ⟨x, hx, hd⟩
          have : x ∈ (fol es row [st % W]).filter fun b => decide (b ∈ fs) := List.mem_filter.mpr ⟨hx, hd⟩
          have := List.length_pos_of_mem this
          omega
        · intro hl
          have hl2 : 0 < ((fol es row [st % W]).filter fun b => decide (b ∈ fs)).length := by omega
          obtain ⟨x, hx⟩ := List.exists_mem_of_length_pos hl2
          rw [List.mem_filter] at hx
          exact ⟨x, hx.1, hx.2⟩
  · rintro pool' _
    refine Gb (G_lcP (by omega) ?_)
    refine Gj (fun c => c = true) ?_ (fun c hc => Gs hc)
    refine Gb (Ge (clean_ok hk h) (Gb (G_same ?_ (okR_bl _) (Gt rfl (Gb (Ge (det_ok hk) (Gb (Ge (forked_ok es) (Gb (G_same rfl (okR_bl _) (Gs rfl)))))))))))
    rw [List.length_map]



/-! ### single -/
def nd (W p : Int) (j : Nat) : Int := if j = 0 then p else W + (j : Int) - 1
def chain (W p : Int) (l : List Int) : List E3 := (List.range l.length).map fun j => (nd W p j, l.getD j 0, nd W p (j + 1))
theorem chain_mem {W p : Int} {l : List Int} {a s b : Int} : (a, s, b) ∈ chain W p l ↔ ∃ j, j < l.length ∧ a = nd W p j ∧ s = l.getD j 0 ∧ b = nd W p (j + 1) := by
  unfold chain
  rw [List.mem_map]
  constructor
  · rintro ⟨j, hj, e⟩
    injection e with e1 e2
    injection e2 with e2 e3
    exact ⟨j, List.mem_range.mp hj, e1.symm, e2.symm, e3.symm⟩
  · rintro ⟨j, hj, rfl, rfl, rfl⟩
    exact ⟨j, List.mem_range.mpr hj, rfl⟩
theorem nd_inj {W p : Int} (hp : p < W) {i j : Nat} (h : nd W p i = nd W p j) : i = j := by
  unfold nd at h
  split at h <;> split at h <;> omega
theorem usort_one (x : Int) : usort ltI [x] = [x] := rfl
theorem fstep_nil (es : List E3) (s : Int) : fstep es s [] = [] := rfl
theorem fol_nil (es : List E3) : ∀ r : List Int, fol es r [] = []
  | [] => rfl
  | s :: r => fol_nil es r
theorem fstep_nd {W p : Int} {l : List Int} (hp : p < W) (s : Int) (i : Nat) : fstep (chain W p l) s [nd W p i] = if l[i]? = some s then [nd W p (i + 1)] else [] := by
  by_cases h : l[i]? = some s
  · rw [if_pos h]
    have hi := (List.getElem?_eq_some_iff.mp h).1
    refine usort_uniq sto_I (usort_pw sto_I _) (List.pairwise_singleton _ _) fun z => ?_
    rw [fstep_mem, List.mem_singleton]
    constructor
    · rintro ⟨a, ha, hz⟩
      rw [List.mem_singleton.mp ha] at hz
      obtain ⟨j, hj, e1, e2, e3⟩ := chain_mem.mp hz
      rw [nd_inj hp e1]
      exact e3
    · rintro rfl
      exact ⟨_, List.mem_singleton.mpr rfl, chain_mem.mpr ⟨i, hi, rfl, by rw [List.getD_eq_getElem?_getD, h]; rfl, rfl⟩⟩
  · rw [if_neg h]
    refine List.eq_nil_iff_forall_not_mem.mpr fun z hz => ?_
    obtain ⟨a, ha, hz⟩ := fstep_mem.mp hz
    rw [List.mem_singleton.mp ha] at hz
    obtain ⟨j, hj, e1, e2, e3⟩ := chain_mem.mp hz
    have := nd_inj hp e1
    subst this
    exact h (by rw [e2, List.getD_eq_getElem?_getD, List.getElem?_eq_getElem hj]; rfl)
theorem fol_nd {W p : Int} {l : List Int} (hp : p < W) : ∀ {r : List Int} {i : Nat}, fol (chain W p l) r [nd W p i] = if r <+: l.drop i then [nd W p (i + r.length)] else []
  | [], i => by rw [if_pos (List.nil_prefix)]; rfl
  | s :: r, i => by
    show fol (chain W p l) r (fstep (chain W p l) s [nd W p i]) = _
    rw [fstep_nd hp]
    by_cases h : l[i]? = some s
    · have hi := (List.getElem?_eq_some_iff.mp h).1
      have hd : l.drop i = s :: l.drop (i + 1) := by rw [List.drop_eq_getElem_cons hi, (List.getElem?_eq_some_iff.mp h).2]
      rw [if_pos h, fol_nd hp, hd]
      by_cases h2 : r <+: l.drop (i + 1)
      · rw [if_pos h2, if_pos (List.cons_prefix_cons.mpr ⟨rfl, h2⟩), List.length_cons, show i + 1 + r.length = i + (r.length + 1) by omega]
      · rw [if_neg h2, if_neg (fun z => h2 (List.cons_prefix_cons.mp z).2)]
    · rw [if_neg h, fol_nil, if_neg]
      intro hz
      obtain ⟨t, ht⟩ := hz
      refine h ?_
      rw [show l[i]? = (l.drop i)[0]? by rw [List.getElem?_drop, Nat.add_zero], ← ht]
      rfl
theorem acc_chain {W p q : Int} {l r : List Int} (hp0 : 0 ≤ p) (hp : p < W) (hq0 : 0 ≤ q) (hq : q < W) : ((fol (chain W p l) r [q]).any fun z => decide (z ∈ [nd W p l.length])) = decide (q = p ∧ r = l) := by
  by_cases hqp : q = p
  · subst hqp
    have e0 : fol (chain W q l) r [nd W q 0] = _ := fol_nd hp
    have e0' : fol (chain W q l) r [q] = _ := e0
    rw [e0', List.drop_zero]
    by_cases h : r <+: l
    · rw [if_pos h, List.any_cons, List.any_nil, Bool.or_false]
      refine decide_eq_decide.mpr ?_
      rw [List.mem_singleton]
      constructor
      · intro e
        have := nd_inj hp e
        exact ⟨rfl, h.eq_of_length (by omega)⟩
      · rintro ⟨_, rfl⟩
        rw [Nat.zero_add]
    · rw [if_neg h]
      refine (decide_eq_false ?_).symm
      rintro ⟨_, rfl⟩
      exact h (List.prefix_refl _)
  · rw [decide_eq_false (fun z => hqp z.1)]
    cases r with
    | nil =>
      show ([q].any _) = false
      rw [List.any_cons, List.any_nil, Bool.or_false]
      refine decide_eq_false ?_
      rw [List.mem_singleton]
      intro e
      unfold nd at e
      split at e
      · exact hqp e
      · omega
    | cons s r =>
      have : fstep (chain W p l) s [q] = [] := by
        refine List.eq_nil_iff_forall_not_mem.mpr fun z hz => ?_
        obtain ⟨a, ha, hz⟩ := fstep_mem.mp hz
        rw [List.mem_singleton.mp ha] at hz
        obtain ⟨j, hj, e1, e2, e3⟩ := chain_mem.mp hz
        unfold nd at e1
        split at e1
        · exact hqp e1
        · omega
      show ((fol (chain W p l) r (fstep (chain W p l) s [q])).any _) = false
      rw [this, fol_nil]
      rfl
theorem chain_ok {W p : Int} {l : List Int} (hp0 : 0 ≤ p) (hp : p < W) (hW : W ≤ 40) (hl : l.length ≤ 10) (hb : ∀ x ∈ l, 0 ≤ x ∧ x < 1000) : Eok (chain W p l) := by
  refine ⟨by unfold chain; rw [List.length_map, List.length_range]; omega, fun e he => ?_⟩
  obtain ⟨a, s, b⟩ := e
  obtain ⟨j, hj, rfl, rfl, rfl⟩ := chain_mem.mp he
  have h1 : 0 ≤ nd W p j ∧ nd W p j < 60 := by unfold nd; split <;> omega
  have h2 : 0 ≤ nd W p (j + 1) ∧ nd W p (j + 1) < 60 := by unfold nd; split <;> omega
  have h3 : 0 ≤ l.getD j 0 ∧ l.getD j 0 < 1000 := hb _ (by rw [List.getD_eq_getElem?_getD, List.getElem?_eq_getElem hj]; exact List.getElem_mem hj)
  exact ⟨h1.1, by show nd W p j < 1000; omega, h3.1, h3.2, h2.1, h2.2⟩
theorem chain_nodup {W p : Int} {l : List Int} (hp : p < W) : (chain W p l).Nodup := by
  unfold chain
  rw [List.Nodup, List.pairwise_map]
  refine List.nodup_range.imp fun {i j} hij e => hij ?_
  injection e with e1 e2
  exact nd_inj hp e1
theorem single_ok {W p : Int} {l : List Int} (hp0 : 0 ≤ p) (hp : p < W) (hW : W ≤ 40) (hl : l.length ≤ 10) (hb : ∀ x ∈ l, 0 ≤ x ∧ x < 1000) : G (m_single W p l) (Mk W (W + l.length) (chain W p l) [nd W p l.length]) := by
  unfold m_single
  refine Gi (fun h => ?_) fun h => ?_
  · cases l with
    | cons a l => cases h
    | nil =>
      refine Gj _ (init_ok (W := W) (S := W) (es := []) (fs := [p]) ⟨by decide, (fun e he => by cases he)⟩ (by simp)) fun M hM => Gs ?_
      have : W + ((([] : List Int).length : Nat) : Int) = W := by simp
      rw [this]
      exact hM
  · cases l with
    | nil => cases h
    | cons a l =>
      have hn : (a :: l).length = l.length + 1 := rfl
      refine Gb (Ge (atI_lit (n := 0) rfl) (Gc (by omega) (Gb (G_forOs (fun pre edges => edges = (List.range (pre.length + 1)).map fun j => (nd W p j, (a :: l).getD j 0, nd W p (j + 1))) ?_ ?_ ?_))))
      · show [(p, a, W)] = [(nd W p 0, a, nd W p 1)]
        have : nd W p 1 = W := by unfold nd; rw [if_neg (by decide)]; omega
        rw [this]; rfl
      · rintro pre x post edges e rfl
        obtain ⟨hx, hlt⟩ := irng_split e
        subst hx
        have h1 : (1 + (pre.length : Int)).toNat = pre.length + 1 := by omega
        have hlt2 : pre.length + 1 < (a :: l).length := by omega
        refine Gb (Ge (atI_nn (by omega) (by rw [h1]; exact List.getElem?_eq_getElem hlt2)) (Gc (by rw [List.length_map, List.length_range]; omega) (Gs ?_)))
        rw [List.length_append, show pre.length + [1 + (pre.length : Int)].length + 1 = pre.length + 1 + 1 from rfl, List.range_succ (n := pre.length + 1), List.map_append]
        congr 1
        have e1 : nd W p (pre.length + 1) = W + (1 + (pre.length : Int)) - 1 := by unfold nd; rw [if_neg (by omega)]; omega
        have e2 : nd W p (pre.length + 1 + 1) = W + (1 + (pre.length : Int)) := by unfold nd; rw [if_neg (by omega)]; omega
        show [_] = [(nd W p (pre.length + 1), (a :: l).getD (pre.length + 1) 0, nd W p (pre.length + 1 + 1))]
        rw [e1, e2, List.getD_eq_getElem?_getD, List.getElem?_eq_getElem hlt2]
        rfl
      · rintro edges rfl
        have e1 : (List.range ((irng 1 ((a :: l).length : Int)).length + 1)).map (fun j => (nd W p j, (a :: l).getD j 0, nd W p (j + 1))) = chain W p (a :: l) := by
          unfold chain
          rw [irng_len, show (((a :: l).length : Int) - 1).toNat + 1 = (a :: l).length by omega]
        have e2 : W + ((a :: l).length : Int) - 1 = nd W p (a :: l).length := by unfold nd; rw [if_neg (by omega)]
        rw [e1, e2]
        exact Gj _ (init_ok (chain_ok hp0 hp hW hl hb) (by simp)) fun M hM => Gs hM
theorem lsingle_ok {pool : List Int} {W : Int} (hW0 : 0 < W) (hW : W ≤ 40) : G (m__law_single pool W) fun r => r.1 = true := by
  unfold m__law_single
  refine Gb (next_ok hW0 fun p pool2 hp0 hp => Gb (next_ok (by decide) fun n pool3 hn0 hn => Gc (by omega) (Gb (row_ok (k := 0) hn0 (by omega) (by decide) fun l s2 hll hlb0 => ?_))))
  have hl : l.length ≤ 10 := by omega
  have hlb : ∀ x ∈ l, 0 ≤ x ∧ x < 1000 := fun x hx => by have := hlb0 x hx; omega
  have hE := chain_ok hp0 hp hW hl hlb
  refine Gj _ (single_ok hp0 hp hW hl hlb) fun M hM => ?_
  have hft : (irng 0 (l.length : Int)).filter (fun _ : Int => true) = irng 0 (l.length : Int) := List.filter_eq_self.mpr fun _ _ => rfl
  refine Gc (by omega) (Gb (G_lcP (by rw [irng_len]; omega) ?_))
  rw [hft]
  refine Gc (by simp [irng_len]; omega) (Gc (by omega) ?_)
  have est : [p] ++ List.map (fun j_2 => W + j_2) (irng 0 (l.length : Int)) = (List.range (l.length + 1)).map (nd W p) := by
    rw [irng_take, List.map_map, List.range_succ_eq_map, List.map_cons, List.map_map]
    show p :: _ = _ :: _
    congr 1
    apply List.map_congr_left
    intro k _
    show W + (k : Int) = nd W p (k + 1)
    unfold nd
    rw [if_neg (by omega)]
    omega
  rw [est]
  have hat : ∀ {i : Nat}, i < l.length + 1 → ((List.range (l.length + 1)).map (nd W p))[i]? = some (nd W p i) := fun {i} hi => by
    rw [List.getElem?_map, List.getElem?_range hi]; rfl
  refine Gb (G_lcOs (fun pre bs _ => bs = (List.range pre.length).map fun j => (nd W p j, l.getD j 0, nd W p (j + 1))) (by rw [irng_len]; omega) rfl ?_ ?_)
  · rintro pre x post bs _ e rfl
    obtain ⟨hx, hlt⟩ := irng_split e
    rw [Int.zero_add] at hx hlt
    subst hx
    have hj : pre.length < l.length := by omega
    have t1 : ((pre.length : Int)).toNat = pre.length := by omega
    have t2 : ((pre.length : Int) + 1).toNat = pre.length + 1 := by omega
    refine Gb (Ge (atI_nn (by omega) (by rw [t1]; exact hat (by omega))) (Gb (Ge (atI_nn (by omega) (by rw [t1]; exact List.getElem?_eq_getElem hj)) (Gb (Ge (atI_nn (by omega) (by rw [t2]; exact hat (by omega))) (Gs ?_))))))
    show _ ++ [_] = _
    rw [List.length_append, show pre.length + [(pre.length : Int)].length = pre.length + 1 from rfl, List.range_succ, List.map_append]
    congr 1
    show [_] = [(nd W p pre.length, l.getD pre.length 0, nd W p (pre.length + 1))]
    rw [List.getD_eq_getElem?_getD, List.getElem?_eq_getElem hj]
    rfl
  · rintro bs _ rfl
    rw [irng_len, show ((l.length : Int) - 0).toNat = l.length by omega]
    show G ((sameO _ _ _).bind _) _
    have ech : (List.range l.length).map (fun j => (nd W p j, l.getD j 0, nd W p (j + 1))) = chain W p l := rfl
    rw [ech]
    have hlast : (List.range (l.length + 1)).map (nd W p) ≠ [] := by simp
    have hgl : ((List.range (l.length + 1)).map (nd W p)).getLast? = some (nd W p l.length) := by rw [List.range_succ, List.map_append]; simp
    have hnl : 0 ≤ nd W p l.length ∧ nd W p l.length < 1000 := by unfold nd; split <;> omega
    refine Gb (G_same (by rw [hM.w, hM.s]) ((ft_T2 (n := 0) (k := 0) (ft_I (by show M.worlds.natAbs < _; rw [hM.w]; omega)) (ft_I (by show M.states.natAbs < _; rw [hM.s]; omega))).ok (by decide) (by decide)) (Gf rfl ?_))
    refine Gj (fun c => c = false) ?_ ?_
    · refine Gc ⟨hE.len, hE.all⟩ (Gb (G_same ?_ ?_ (Gf rfl (Gb (G_last (fun v hv => Gb (G_same ?_ ?_ (Gs rfl))) hlast)))))
      · rw [hM.e, isort_nodup sto_T3 (chain_nodup hp)]
      · rw [hM.e]
        exact ok_e3 (by have := usort_len (lt := ltT3) (chain W p l); have := hE.len; omega) fun e he => hE.bd e ((usort_mem sto_T3).mp he)
      · rw [hgl] at hv
        rw [hM.f, ← Option.some.inj hv]
        rfl
      · rw [hM.f]
        exact ok_is (by show 1 ≤ 1000; decide) fun x hx => by rw [List.mem_singleton.mp ((usort_mem sto_I).mp hx)]; exact hnl
    rintro _ rfl
    refine Gf rfl (Gc (by omega) (Gb (G_forF (fun _ _ => True) trivial ?_ fun _ _ => Gs rfl)))
    rintro pre q _ hq _
    obtain ⟨hq0, hq1⟩ := irng_mem.mp hq
    have acc : ∀ r, m_Machine_accepts M q r = some (decide (q = p ∧ r = l)) := fun r => by rw [acc_ok hM hE, acc_chain hp0 hp hq0 hq1]
    have no : ∀ r, r ≠ l → m_Machine_accepts M q r = some false := fun r hr => by rw [acc r, decide_eq_false (fun z => hr z.2)]
    refine Gb (Ge (acc l) (Gb (G_same ?_ (okR_bl _) (Gf rfl ?_))))
    · exact decide_eq_decide.mpr ⟨fun z => z.1, fun z => ⟨z, rfl⟩⟩
    refine Gj (fun c => c = false) ?_ ?_
    · refine Gc (by simp; omega) (Gb (Ge (no _ fun z => by have := congrArg List.length z; simp at this) (Gf rfl ?_)))
      refine Gj (fun c => c = false) ?_ (fun c hc => Gs hc)
      refine Gi (fun hne => ?_) fun _ => Gs rfl
      refine Gb (Ge (no _ fun z => ?_) (Gs rfl))
      rw [cutX_dropLast] at z
      have := congrArg List.length z
      rw [List.length_dropLast] at this
      cases l with
      | nil => cases hne
      | cons a l => simp at this
    rintro _ rfl
    refine Gf rfl ?_
    refine Gj (fun c => c = false) ?_ ?_
    · refine Gi (fun hne => ?_) fun _ => Gs rfl
      have hne2 : l ≠ [] := fun z => by rw [z] at hne; cases hne
      refine Gb (G_last (fun v hv => Gc ?_ (Gb (Ge (no _ fun z => ?_) (Gs rfl)))) hne2)
      · rw [cutX_dropLast, List.length_dropLast]
        show l.length - 1 + 1 ≤ _
        omega
      · rw [cutX_dropLast] at z
        rw [← z, List.getLast?_append] at hv
        simp at hv
        omega
    rintro _ rfl
    exact Gf rfl (Gs ⟨(), rfl, trivial⟩)



theorem law_true (pool : List Int) : m_law pool = some true := G.eq (by
  unfold m_law
  refine Gb (next_ok (by decide) fun r1 p1 a0 a1 => Gb (next_ok (by decide) fun r2 p2 b0 b1 => ?_))
  refine Gj (fun r => 0 ≤ r.1 ∧ r.1 < 1 + r1 + r2) ?_ ?_
  · refine Gj (fun r => r.1 = true → 1 + r1 < 1 + r1 + r2) ?_ ?_
    · refine Gb (next_ok (by decide) fun r3 p3 _ _ => Gi (fun _ => Gs fun h => of_decide_eq_true h) fun _ => Gs fun h => by cases h)
    · rintro ⟨c, p⟩ h
      exact Gi (fun hc => Gs ⟨by show 0 ≤ 1 + r1; omega, h hc⟩) fun _ => Gs ⟨by show (0 : Int) ≤ 0; omega, by show 0 < 1 + r1 + r2; omega⟩
  rintro ⟨low, p4⟩ ⟨l0, l1⟩
  have l0 : 0 ≤ low := l0
  have l1 : low < 1 + r1 + r2 := l1
  refine Gb (next_ok (by decide) fun r4 p7 d0 d1 => Gc (by omega) ?_)
  refine Gj (fun r => r.2.length ≤ 28 ∧ ∀ e ∈ r.2, 0 ≤ e.1 ∧ e.1 < 1 + r1 + r2 ∧ 0 ≤ e.2.1 ∧ e.2.1 < 5 ∧ 0 ≤ e.2.2 ∧ e.2.2 < 1 + r1 + r2) ?_ ?_
  · refine G_forOs (fun pre r => r.2.length ≤ 2 * pre.length ∧ ∀ e ∈ r.2, 0 ≤ e.1 ∧ e.1 < 1 + r1 + r2 ∧ 0 ≤ e.2.1 ∧ e.2.1 < 5 ∧ 0 ≤ e.2.2 ∧ e.2.2 < 1 + r1 + r2) ⟨Nat.zero_le _, (fun e he => by cases he)⟩ ?_ ?_
    · rintro pre x post ⟨p8, es⟩ e ⟨h1, h2⟩
      obtain ⟨hx, hlt⟩ := irng_split e
      have h1 : es.length ≤ 2 * pre.length := h1
      refine Gb (next_ok (by omega) fun r5 p9 e0 e1 => Gb (next_ok (by decide) fun r6 p10 f0 f1 => Gb (next_ok (by omega) fun r7 p11 g0 g1 => Gc (by omega) (Gb (next_ok (by decide) fun r8 p12 _ _ => ?_)))))
      have hb : ∀ e ∈ es ++ [(r5, r6, low + r7)], 0 ≤ e.1 ∧ e.1 < 1 + r1 + r2 ∧ 0 ≤ e.2.1 ∧ e.2.1 < 5 ∧ 0 ≤ e.2.2 ∧ e.2.2 < 1 + r1 + r2 := fun e he => by
        rcases List.mem_append.mp he with he | he
        · exact h2 e he
        · rw [List.mem_singleton.mp he]
          exact ⟨e0, e1, f0, f1, by show 0 ≤ low + r7; omega, by show low + r7 < _; omega⟩
      have hlen : (es ++ [(r5, r6, low + r7)]).length = es.length + 1 := by simp
      refine Gi (fun _ => ?_) fun _ => Gs ⟨?_, hb⟩
      · refine Gb (next_ok (by rw [hlen]; omega) fun r9 p13 i0 i1 => Gb (G_atI i0 i1 fun v hv _ => Gc (by rw [hlen]; simp; omega) (Gs ⟨?_, fun e he => ?_⟩)))
        · show ([v] ++ (es ++ [(r5, r6, low + r7)])).length ≤ 2 * (pre ++ [x]).length
          rw [List.length_append, hlen, List.length_append]
          simp only [List.length_cons, List.length_nil]
          omega
        · rcases List.mem_append.mp he with he | he
          · rw [List.mem_singleton.mp he]
            exact hb v hv
          · exact hb e he
      · show (es ++ [(r5, r6, low + r7)]).length ≤ 2 * (pre ++ [x]).length
        rw [hlen, List.length_append]
        simp only [List.length_cons, List.length_nil]
        omega
    · rintro ⟨p, es⟩ ⟨h1, h2⟩
      rw [irng_len] at h1
      exact ⟨by show es.length ≤ 28; have h1 : es.length ≤ 2 * (r4 - 0).toNat := h1; omega, h2⟩
  rintro ⟨p14, es⟩ ⟨h1, h2⟩
  have h1 : es.length ≤ 28 := h1
  have hE : Eok es := ⟨by omega, fun e he => by have := h2 e he; omega⟩
  refine Gb (next_ok (by decide) fun r10 p15 j0 j1 => Gc (by omega) (Gb (row_ok (k := 0) j0 (by omega) (by omega) fun fs p16 hfl hfb => ?_)))
  have hfl : fs.length ≤ 60 := by omega
  have hfb : ∀ x ∈ fs, 0 ≤ x ∧ x < 1000 := fun x hx => by have := hfb x hx; omega
  refine Gj _ (init_ok hE (by omega)) fun M hM => Gb (G_same rfl ?_ (Gf rfl (Gc (by omega) (Gc (by omega) ?_))))
  · refine (ft_H2 (n := 2) (k := 112) (x := (es, fs)) ((ft_L (n := 1) (k := 3) fun x hx => ft_T3 (n := 0) (k := 0) (ft_I ?_) (ft_I ?_) (ft_I ?_)).up (by decide) (by show es.length * _ ≤ _; omega)) ((ft_L (n := 0) (k := 0) fun x hx => ft_I ?_).up (by decide) (by show fs.length * _ ≤ _; omega))).ok (by decide) (by decide)
    · have := hE.bd x hx; omega
    · have := hE.bd x hx; omega
    · have := hE.bd x hx; omega
    · have := hfb x hx; omega
  have look : ∀ p, G (m__law_looks p M (1 + r1) (1 + r1 + r2) es fs) fun r => r.1 = true := fun p => looks_ok hM hE (by omega) (by omega) (by omega) (by omega) hfl hfb
  refine Gj _ (look p16) ?_
  rintro ⟨_, p18⟩ rfl
  refine Gf rfl (Gb (Ge (follow_ok hM hE) (Gc (by have := fol_len (st := 0) hE (row := []) (X := [0]) (by simp); omega) (Gb (Ge (targets_ok hM 0 0) (Gc (by have := tg_len hE (a := 0) (s := 0); omega) ?_))))))
  have hE0 : Eok [] := ⟨by decide, (fun e he => by cases he)⟩
  refine Gj _ (init_ok (es := []) (fs := [1 + r1]) hE0 (by simp)) fun M2 hM2 => ?_
  refine Gj (fun c => c = false) ?_ ?_
  · refine Gb (Ge (acc_ok hM2 hE0) (Gf rfl (Gb (Ge (acc_ok hM2 hE0) (Gs ?_)))))
    show (!([1 + r1].any fun z => decide (z ∈ [1 + r1]))) = false
    simp
  rintro _ rfl
  refine Gf rfl (Gj _ (look p18) ?_)
  rintro ⟨_, p19⟩ rfl
  refine Gf rfl (Gj _ (lsingle_ok (by omega) (by omega)) ?_)
  rintro ⟨b, p⟩ hb
  exact Gs hb)
abbrev hkX : PySem.W.Hook := He.hookD 5 fa fn
abbrev R : PySem.W.OpenRow := PySem.W.OpenLaw.row PySem.Challenge.rw_whatledhere_k03_machine_accepts
def ob (s : PySem.W.SharedT) : He.AlD := He.obsDG 5 fa fn (HandSHeadRun.getT s)
theorem ob_eq (s : PySem.W.SharedT) : ob s = hkX.obs s.abs := He.obsDG_eq (HandSHeadRun.getT_eq s)
def nms : List Str := ["Machine", "is_clean", "is_deterministic", "single", "_law_pool", "_law_next", "_law_same", "_law_ascending", "_law_targets", "_law_follow", "_law_forked", "_law_looks", "_law_single"]
theorem run (w : World) : HandSHeadRun.RunEq R (PySem.W.view R.prog [15]) hkX ob 6000 nms w := by
  intro os
  kernel_rfl
theorem facts {P : Program} {w : World} {K : PySem.W.Frag} {h : Heap} {mg : Str → Option Value} {f : Addr} (X : K.In h) (G : h.Ns mainGlobals mg) (hfa : mg ("law" : Str) = some (.ref f)) (c : He.SaysD fa fn K) :
    ∃ fd : FuncData, (∀ (s : Shared) (v : Value), BindsTo s fd ⟨[v], []⟩ [("script", v)]) ∧ ∀ base : Heap, K.In base → base.Ns mainGlobals mg → FnG P w K mg base CX0 5 f fd ["script"] (spA K (con_law K)) := by
  obtain ⟨T⟩ := top_of X G c
  have e := hfa.symm.trans T.m_law
  cases e
  have b := FunD.bindsA (ps := ["script"]) T.F_law fun _ _ _ _ _ _ us hl => match us, hl with | [_], _ => rfl
  exact ⟨_, fun s v => b s [v] rfl, fun base _ _ => ok_law T⟩
end K03
open PySem PySem.W PySem.Calls PyProof.Rows
theorem PySem.Challenge.cw_whatledhere_k03_machine_accepts_holds : PySem.Challenge.rw_whatledhere_k03_machine_accepts.Holds := by
  w_on; o_law
  refine HandSHeadRun.head_any (r := OpenLaw.row PySem.Challenge.rw_whatledhere_k03_machine_accepts) (q := view (OpenLaw.row PySem.Challenge.rw_whatledhere_k03_machine_accepts).prog [15]) (H := K03.hkX) (ob := K03.ob) (M := 6000) (loose := K03.nms)
    (d := HandSHeadRun.topDef (OpenLaw.row PySem.Challenge.rw_whatledhere_k03_machine_accepts).prog 15) (kwd := []) K03.ob_eq
    (by kernel_rfl) (fun s => by kernel_rfl) K03.run (by kernel_rfl) (by kernel_rfl) (by kernel_rfl) (by rfl) (by first | assumption | decide +kernel) (by decide +kernel) ⟨rfl, rfl, rfl, rfl, rfl, by decide +kernel⟩ ?hw ?hc
  case hw => w_witness2
  case hc =>
    refine AW.walkG (l := PySem.Challenge.rw_whatledhere_k03_machine_accepts) (n := 63) (k := 5) (x := "script") (CX := fun w => L2.CX0) rfl (by decide) (by kernel_rfl) ⟨rfl, by decide, by decide⟩ ?F ?hCX
    case F =>
      intro w mg fa h Y G hmg0
      obtain ⟨K, KX, c⟩ := Y
      have hmg : mg ("law" : PySem.Str) = some (.ref fa) := by
        have e : (HandSHeadRun.topDef (OpenLaw.row PySem.Challenge.rw_whatledhere_k03_machine_accepts).prog 15).name = ("law" : PySem.Str) := by kernel_rfl
        rw [← e]
        exact hmg0
      obtain ⟨fd, hb, hF⟩ := K03.facts (P := (PySem.Challenge.rw_whatledhere_k03_machine_accepts).prog) (w := w) KX G hmg c
      refine ⟨K, fd, _, KX, hb, fun H a ns hl hS => ?_, hF⟩
      refine ⟨H, [.frl (ns.map .int)], [], fun d _ _ => d = .bl true, fun _ _ => False, fun _ _ z => z, ?_, ?_, List.nodup_nil, ⟨rfl, ns, rfl, rfl, fun pool => ⟨true, K03.law_true pool, rfl⟩⟩, ?_, ?_⟩
      · exact .cons (.frl hS (AW.IsA.of_ints ns)) .nil
      · exact fun x hx => by cases hx
      · rintro v d os new F' H' rfl ep iv
        cases iv
        rfl
      · exact fun _ _ _ _ z _ => z.elim
    case hCX =>
      intro w H s e s' h
      exact h.elim

