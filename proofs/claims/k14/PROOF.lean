import PyProof.Rows.All
import Wide.All
import OpenK.AllK
import Wide.FinOn
import HandS.ForMost
import HandS.ForExc
import HandS.Evl
import HandS.Deep
import HandS.TupAny
import HandS.Wide
import HandS.Style
import HandS.Flow
import HandS.ExcIs
import HandS.Conv
import HandS.SetKeys
import HandS.ExcOwn
import HandS.Defaults
import HandS.HeadEnd
import PyProof.ReprBulk
import HandS.RevTup
import HandS.TupMul
import HandS.DictTup
import PyProof.DictMoreH
import HandS.Head0
import HandS.Head1
import HandS.Head2
import HandS.HeadHook1
import HandS.HeadHook2
import KE.KStateDown
import PySem.Challenge.RW_whatledhere_k14_raw_rules_play
import HandS.ExcBuiltin
set_option Elab.async false
set_option linter.all false
set_option maxRecDepth 100000
set_option maxHeartbeats 8000000
/-! AW: values as data D over a frozen part F of the abstract heap H; owned objects in a table T. -/
namespace AW
open PySem L2 Evl

/-- data: what a value stands for. adr: an object by its address alone (an owned one, or one of which nothing is said) -/
inductive D where
  | non | bl (b : Bool) | int (i : Int) | str (x : Str)
  | tup (ds : List D) | lst (ds : List D) | frl (ds : List D)
  | dK (ks : List Key) (ds : List D) | dT (ks : List (List Key)) (ds : List D)
  | ins (C : Addr) (ns : List Str) (ds : List D)
  | adr (a : Addr)

mutual
inductive Is (K : PySem.W.Frag) (F : Hp) : V → D → Prop
  | non : Is K F .non .non
  | bl (b : Bool) : Is K F (.bl b) (.bl b)
  | int (i : Int) : Is K F (.int i) (.int i)
  | str (x : Str) : Is K F (.str x) (.str x)
  | tup {a : Addr} {vs : List V} {ds : List D} : F a = some (.tup vs) → IsA K F vs ds → Is K F (.ref a) (.tup ds)
  | lst {a : Addr} {vs : List V} {ds : List D} : F a = some (.lst vs) → IsA K F vs ds → Is K F (.ref a) (.lst ds)
  | frl {a : Addr} {vs : List V} {ds : List D} : SqL K F a vs → IsA K F vs ds → Is K F (.ref a) (.frl ds)
  | dK {a : Addr} {ks : List Key} {vs : List V} {ds : List D} : F a = some (.dK (ks.zip vs)) → ks.length = vs.length → IsA K F vs ds → Is K F (.ref a) (.dK ks ds)
  | dT {a : Addr} {ks : List (List Key)} {vs : List V} {ds : List D} : F a = some (.dT (ks.zip vs)) → ks.length = vs.length → IsA K F vs ds → Is K F (.ref a) (.dT ks ds)
  | ins {a C dx : Addr} {ns : List Str} {vs : List V} {ds : List D} : F a = some (.ins C dx (ns.zip vs)) → ns.length = vs.length → IsA K F vs ds → Is K F (.ref a) (.ins C ns ds)
  | adr (a : Addr) : Is K F (.ref a) (.adr a)
inductive IsA (K : PySem.W.Frag) (F : Hp) : List V → List D → Prop
  | nil : IsA K F [] []
  | cons {v : V} {d : D} {vs : List V} {ds : List D} : Is K F v d → IsA K F vs ds → IsA K F (v :: vs) (d :: ds)
end

section
variable {K : PySem.W.Frag} {F F' : Hp}
mutual
theorem Is.mono (e : Ex F F') : ∀ {v : V} {d : D}, Is K F v d → Is K F' v d
  | _, _, .non => .non
  | _, _, .bl b => .bl b
  | _, _, .int i => .int i
  | _, _, .str x => .str x
  | _, _, .tup h t => .tup (e _ _ h) (IsA.mono e t)
  | _, _, .lst h t => .lst (e _ _ h) (IsA.mono e t)
  | _, _, .frl h t => .frl (ex_l e h) (IsA.mono e t)
  | _, _, .dK h l t => .dK (e _ _ h) l (IsA.mono e t)
  | _, _, .dT h l t => .dT (e _ _ h) l (IsA.mono e t)
  | _, _, .ins h l t => .ins (e _ _ h) l (IsA.mono e t)
  | _, _, .adr a => .adr a
theorem IsA.mono (e : Ex F F') : ∀ {vs : List V} {ds : List D}, IsA K F vs ds → IsA K F' vs ds
  | _, _, .nil => .nil
  | _, _, .cons h t => .cons (Is.mono e h) (IsA.mono e t)
end
theorem IsA.len : ∀ {vs : List V} {ds : List D}, IsA K F vs ds → vs.length = ds.length
  | _, _, .nil => rfl
  | _, _, .cons _ t => by rw [List.length_cons, List.length_cons, t.len]
theorem IsA.get : ∀ {vs : List V} {ds : List D} {i : Nat} {d : D}, IsA K F vs ds → ds[i]? = some d → ∃ v, vs[i]? = some v ∧ Is K F v d
  | _, _, i, d, .nil, h => by simp at h
  | _, _, 0, d, .cons h t, e => by
    simp at e
    subst e
    exact ⟨_, rfl, h⟩
  | _, _, i + 1, d, .cons h t, e => by
    obtain ⟨v, h1, h2⟩ := t.get (i := i) (d := d) (by simpa using e)
    exact ⟨v, by simpa using h1, h2⟩
theorem IsA.getV : ∀ {vs : List V} {ds : List D} {i : Nat} {v : V}, IsA K F vs ds → vs[i]? = some v → ∃ d, ds[i]? = some d ∧ Is K F v d
  | _, _, i, d, .nil, h => by simp at h
  | _, _, 0, d, .cons h t, e => by
    simp at e
    subst e
    exact ⟨_, rfl, h⟩
  | _, _, i + 1, d, .cons h t, e => by
    obtain ⟨v, h1, h2⟩ := t.getV (i := i) (v := d) (by simpa using e)
    exact ⟨v, by simpa using h1, h2⟩
theorem IsA.append : ∀ {vs ws : List V} {ds es : List D}, IsA K F vs ds → IsA K F ws es → IsA K F (vs ++ ws) (ds ++ es)
  | _, _, _, _, .nil, s => s
  | _, _, _, _, .cons h t, s => .cons h (t.append s)
theorem IsA.one {v : V} {d : D} (h : Is K F v d) : IsA K F [v] [d] := .cons h .nil
theorem IsA.take : ∀ {vs : List V} {ds : List D} (n : Nat), IsA K F vs ds → IsA K F (vs.take n) (ds.take n)
  | _, _, 0, _ => .nil
  | _, _, _ + 1, .nil => .nil
  | _, _, n + 1, .cons h t => .cons h (t.take n)
theorem IsA.drop : ∀ {vs : List V} {ds : List D} (n : Nat), IsA K F vs ds → IsA K F (vs.drop n) (ds.drop n)
  | _, _, 0, r => r
  | _, _, _ + 1, .nil => .nil
  | _, _, n + 1, .cons _ t => t.drop n
theorem IsA.set {v : V} {d : D} (h : Is K F v d) : ∀ {vs : List V} {ds : List D} (n : Nat), IsA K F vs ds → IsA K F (vs.set n v) (ds.set n d)
  | _, _, _, .nil => .nil
  | _, _, 0, .cons _ t => .cons h t
  | _, _, n + 1, .cons g t => .cons g (IsA.set h n t)
theorem IsA.reverse : ∀ {vs : List V} {ds : List D}, IsA K F vs ds → IsA K F vs.reverse ds.reverse
  | _, _, .nil => .nil
  | _, _, .cons h t => by
    rw [List.reverse_cons, List.reverse_cons]
    exact t.reverse.append (.one h)
theorem IsA.dropLast {vs : List V} {ds : List D} (h : IsA K F vs ds) : IsA K F vs.dropLast ds.dropLast := by
  rw [List.dropLast_eq_take, List.dropLast_eq_take, h.len]
  exact h.take _
theorem IsA.ints : ∀ {vs : List V} {ns : List Int}, IsA K F vs (ns.map D.int) → vs = ns.map V.int
  | _, [], .nil => rfl
  | _, n :: ns, .cons h t => by
    cases h
    rw [t.ints]
    rfl
theorem IsA.of_ints : ∀ (ns : List Int), IsA K F (ns.map V.int) (ns.map D.int)
  | [] => .nil
  | n :: ns => .cons (.int n) (IsA.of_ints ns)
theorem IsA.cutV {vs : List V} {ds : List D} (h : IsA K F vs ds) (n k : Nat) : IsA K F ((vs.drop n).take k) ((ds.drop n).take k) := (h.drop n).take k
theorem IsA.flat {vs : List V} {ds : List D} (h : IsA K F vs ds) : ∀ n : Nat, IsA K F (List.replicate n vs).flatten (List.replicate n ds).flatten
  | 0 => .nil
  | n + 1 => by
    rw [List.replicate_succ, List.replicate_succ, List.flatten_cons, List.flatten_cons]
    exact h.append (h.flat n)

/-- an owned object's content -/
inductive OB where
  | lst (ds : List D)
  | dK (ks : List Key) (ds : List D)
  | dT (ks : List (List Key)) (ds : List D)
  | ins (C : Addr) (ns : List Str) (ds : List D)
def OB.d : OB → D
  | .lst ds => .lst ds
  | .dK ks ds => .dK ks ds
  | .dT ks ds => .dT ks ds
  | .ins C ns ds => .ins C ns ds
def IsO (K : PySem.W.Frag) (F H : Hp) (a : Addr) : OB → Prop
  | .lst ds => ∃ vs, H a = some (.lst vs) ∧ IsA K F vs ds
  | .dK ks ds => ∃ vs, H a = some (.dK (ks.zip vs)) ∧ ks.length = vs.length ∧ IsA K F vs ds
  | .dT ks ds => ∃ vs, H a = some (.dT (ks.zip vs)) ∧ ks.length = vs.length ∧ IsA K F vs ds
  | .ins C ns ds => ∃ dx vs, H a = some (.ins C dx (ns.zip vs)) ∧ ns.length = vs.length ∧ IsA K F vs ds
theorem IsO.there {H : Hp} {a : Addr} {ob : OB} (h : IsO K F H a ob) : ∃ o, H a = some o := by
  cases ob with
  | lst ds => exact ⟨_, h.choose_spec.1⟩
  | dK ks ds => exact ⟨_, h.choose_spec.1⟩
  | dT ks ds => exact ⟨_, h.choose_spec.1⟩
  | ins C ns ds => exact ⟨_, h.choose_spec.choose_spec.1⟩
theorem IsO.mono {H H' : Hp} {a : Addr} {ob : OB} (e : Ex F F') (k : ∀ o, H a = some o → H' a = some o) (h : IsO K F H a ob) : IsO K F' H' a ob := by
  cases ob with
  | lst ds =>
    obtain ⟨vs, h1, h2⟩ := h
    exact ⟨vs, k _ h1, h2.mono e⟩
  | dK ks ds =>
    obtain ⟨vs, h1, h2, h3⟩ := h
    exact ⟨vs, k _ h1, h2, h3.mono e⟩
  | dT ks ds =>
    obtain ⟨vs, h1, h2, h3⟩ := h
    exact ⟨vs, k _ h1, h2, h3.mono e⟩
  | ins C ns ds =>
    obtain ⟨dx, vs, h1, h2, h3⟩ := h
    exact ⟨dx, vs, k _ h1, h2, h3.mono e⟩
/-- an owned object, frozen, is data -/
theorem IsO.froz {H : Hp} {a : Addr} {ob : OB} {o : HO} (h : IsO K F H a ob) (hn : F a = none) (ho : H a = some o) : Is K (upd F a o) (.ref a) ob.d := by
  have e : Ex F (upd F a o) := Ex.new hn
  cases ob with
  | lst ds =>
    obtain ⟨vs, h1, h2⟩ := h
    rw [ho] at h1
    cases h1
    exact .lst upd_same (h2.mono e)
  | dK ks ds =>
    obtain ⟨vs, h1, h2, h3⟩ := h
    rw [ho] at h1
    cases h1
    exact .dK upd_same h2 (h3.mono e)
  | dT ks ds =>
    obtain ⟨vs, h1, h2, h3⟩ := h
    rw [ho] at h1
    cases h1
    exact .dT upd_same h2 (h3.mono e)
  | ins C ns ds =>
    obtain ⟨dx, vs, h1, h2, h3⟩ := h
    rw [ho] at h1
    cases h1
    exact .ins upd_same h2 (h3.mono e)
end

structure Ow where
  a : Addr
  loc : Bool
  ob : OB
abbrev Tb := List Ow
abbrev Sls := List (Option D)
/-- a def's entry: its frozen heap, its heap, the addresses that it may write -/
structure Ent where
  F : Hp
  H : Hp
  O : List Addr

/-- what a stretch of code leaves -/
structure Post (F H : Hp) (O : List Addr) (F' H' : Hp) : Prop where
  ff : Ex F F'
  hh : ∀ a o, H a = some o → a ∉ O → H' a = some o
  al : ∀ a o, H a = some o → ∃ o', H' a = some o'
  fh : Ex F' H'
  nw : ∀ a o, F a = none → H a = some o → F' a = none

def Sl (K : PySem.W.Frag) (F : Hp) (σ : L2.St) (ds : Sls) : Prop := ∀ (i : Nat) (d : D), ds[i]? = some (some d) → ∃ v, σ[i]? = some (some v) ∧ Is K F v d
structure OwOk (K : PySem.W.Frag) (E : Ent) (F H : Hp) (e : Ow) : Prop where
  f : F e.a = none
  o : IsO K F H e.a e.ob
  l : e.loc = true → E.H e.a = none
  g : e.loc = false → e.a ∈ E.O ∧ ∃ o, E.H e.a = some o
/-- the state: slots ds, owned objects T -/
structure Ok (K : PySem.W.Frag) (E : Ent) (F : Hp) (ds : Sls) (T : Tb) (σ : L2.St) (H : Hp) : Prop where
  p : Post E.F E.H E.O F H
  ln : σ.length = ds.length
  sl : Sl K F σ ds
  ow : ∀ e ∈ T, OwOk K E F H e
  nd : (T.map (·.a)).Nodup

section
variable {K : PySem.W.Frag} {E : Ent} {F F' H H' : Hp} {ds : Sls} {T : Tb} {σ : L2.St} {p : Addr} {o : HO}
theorem Sl.mono (e : Ex F F') (h : Sl K F σ ds) : Sl K F' σ ds := fun i d hd => let ⟨v, a, b⟩ := h i d hd; ⟨v, a, b.mono e⟩
theorem Sl.set {v : V} {d : D} (h : Sl K F σ ds) (hl : σ.length = ds.length) (hv : Is K F v d) (i : Nat) : Sl K F (σ.set i (some v)) (ds.set i (some d)) := by
  intro j e he
  by_cases hj : i = j
  · subst hj
    have hi : i < ds.length := by
      have := (List.getElem?_eq_some_iff.mp he).1
      rw [List.length_set] at this
      exact this
    rw [List.getElem?_set_self hi] at he
    cases he
    exact ⟨v, List.getElem?_set_self (by omega), hv⟩
  · rw [List.getElem?_set_ne hj] at he
    obtain ⟨w, h1, h2⟩ := h j e he
    exact ⟨w, by rw [List.getElem?_set_ne hj]; exact h1, h2⟩
theorem Sl.none_ (h : Sl K F σ ds) (i : Nat) : Sl K F (σ.set i none) (ds.set i none) := by
  intro j e he
  by_cases hj : i = j
  · subst hj
    have hi : i < ds.length := by
      have := (List.getElem?_eq_some_iff.mp he).1
      rw [List.length_set] at this
      exact this
    rw [List.getElem?_set_self hi] at he
    cases he
  · rw [List.getElem?_set_ne hj] at he
    obtain ⟨w, h1, h2⟩ := h j e he
    exact ⟨w, by rw [List.getElem?_set_ne hj]; exact h1, h2⟩
/-- a new object, frozen at once -/
theorem Ok.newF (h : Ok K E F ds T σ H) (hp : H p = none) : Ok K E (upd F p o) ds T σ (upd H p o) ∧ Ex F (upd F p o) := by
  have hf : F p = none := fresh_back h.p.fh hp
  have hE : E.H p = none := by
    cases q : E.H p with
    | none => rfl
    | some u =>
      obtain ⟨o', e⟩ := h.p.al p u q
      rw [hp] at e
      cases e
  have e1 : Ex F (upd F p o) := Ex.new hf
  refine ⟨⟨⟨h.p.ff.trans e1, fun a u ha hO => ?_, fun a u ha => ?_, fun a u ha => ?_, fun a u hn ha => ?_⟩, h.ln, h.sl.mono e1, fun e he => ?_, h.nd⟩, e1⟩
  · have := h.p.hh a u ha hO
    rw [upd_ne (ne_of_none this hp)]
    exact this
  · obtain ⟨o', q⟩ := h.p.al a u ha
    exact ⟨o', by rw [upd_ne (ne_of_none q hp)]; exact q⟩
  · by_cases hap : a = p
    · subst hap
      rw [upd_same] at ha
      rw [upd_same]
      exact ha
    · rw [upd_ne hap] at ha
      rw [upd_ne hap]
      exact h.p.fh a u ha
  · have hap : a ≠ p := fun z => by subst z; rw [hE] at ha; cases ha
    rw [upd_ne hap]
    exact h.p.nw a u hn ha
  · obtain ⟨f, ob, l, g⟩ := h.ow e he
    obtain ⟨u, hu⟩ := ob.there
    have hap : e.a ≠ p := ne_of_none hu hp
    exact ⟨by rw [upd_ne hap]; exact f, ob.mono e1 fun o' q => by rw [upd_ne hap]; exact q, l, g⟩
/-- a new object, owned -/
theorem Ok.newO {ob : OB} (h : Ok K E F ds T σ H) (hp : H p = none) (hob : IsO K F (upd H p o) p ob) : Ok K E F ds (⟨p, true, ob⟩ :: T) σ (upd H p o) := by
  have hf : F p = none := fresh_back h.p.fh hp
  have hE : E.H p = none := by
    cases q : E.H p with
    | none => rfl
    | some u =>
      obtain ⟨o', e⟩ := h.p.al p u q
      rw [hp] at e
      cases e
  have hne : ∀ e ∈ T, e.a ≠ p := fun e he => by
    obtain ⟨u, hu⟩ := (h.ow e he).o.there
    exact ne_of_none hu hp
  refine ⟨⟨h.p.ff, fun a u ha hO => ?_, fun a u ha => ?_, fun a u ha => ?_, h.p.nw⟩, h.ln, h.sl, fun e he => ?_, ?_⟩
  · have := h.p.hh a u ha hO
    rw [upd_ne (ne_of_none this hp)]
    exact this
  · obtain ⟨o', q⟩ := h.p.al a u ha
    exact ⟨o', by rw [upd_ne (ne_of_none q hp)]; exact q⟩
  · rw [upd_ne (ne_of_none ha hf)]
    exact h.p.fh a u ha
  · rcases List.mem_cons.mp he with rfl | he
    · exact ⟨hf, hob, fun _ => hE, fun z => by cases z⟩
    · obtain ⟨f, ob, l, g⟩ := h.ow e he
      exact ⟨f, ob.mono (Ex.refl F) fun o' q => by rw [upd_ne (hne e he)]; exact q, l, g⟩
  · rw [List.map_cons, List.nodup_cons]
    refine ⟨fun hm => ?_, h.nd⟩
    obtain ⟨e, he, q⟩ := List.mem_map.mp hm
    exact hne e he q
theorem nodup_at {xs : List Addr} (h : xs.Nodup) {i j : Nat} {a : Addr} (hi : xs[i]? = some a) (hj : xs[j]? = some a) : i = j := by
  have h1 := (List.getElem?_eq_some_iff.mp hi).1
  exact (List.getElem?_inj h1 h).mp (hi.trans hj.symm)
/-- an owned object changes -/
theorem Ok.mut {j : Nat} {e : Ow} {ob' : OB} (h : Ok K E F ds T σ H) (hj : T[j]? = some e) (hob : IsO K F (upd H e.a o) e.a ob') : Ok K E F ds (T.set j { e with ob := ob' }) σ (upd H e.a o) := by
  have he := h.ow e (List.mem_of_getElem? hj)
  have hjl := (List.getElem?_eq_some_iff.mp hj).1
  have hmap : (T.set j { e with ob := ob' }).map (·.a) = T.map (·.a) := by
    rw [List.map_set]
    apply List.ext_getElem?
    intro i
    by_cases hi : j = i
    · subst hi
      rw [List.getElem?_set_self (by rw [List.length_map]; exact hjl), List.getElem?_map, hj]
      rfl
    · rw [List.getElem?_set_ne hi]
  refine ⟨⟨h.p.ff, fun a u ha hO => ?_, fun a u ha => ?_, fun a u ha => ?_, h.p.nw⟩, h.ln, h.sl, fun e' he' => ?_, by rw [hmap]; exact h.nd⟩
  · have hne : a ≠ e.a := fun z => by
      subst z
      cases q : e.loc with
      | true => rw [he.l q] at ha; cases ha
      | false => exact hO (he.g q).1
    rw [upd_ne hne]
    exact h.p.hh a u ha hO
  · by_cases hae : a = e.a
    · exact ⟨o, by rw [hae]; exact upd_same⟩
    · obtain ⟨o', q⟩ := h.p.al a u ha
      exact ⟨o', by rw [upd_ne hae]; exact q⟩
  · rw [upd_ne (ne_of_none ha he.f)]
    exact h.p.fh a u ha
  · obtain ⟨i, hi⟩ := List.getElem?_of_mem he'
    by_cases hij : j = i
    · subst hij
      rw [List.getElem?_set_self hjl] at hi
      cases hi
      exact ⟨he.f, hob, he.l, he.g⟩
    · rw [List.getElem?_set_ne hij] at hi
      obtain ⟨f, ob, l, g⟩ := h.ow e' (List.mem_of_getElem? hi)
      have hne : e'.a ≠ e.a := fun z => hij (nodup_at h.nd (i := j) (j := i) (a := e.a) (by rw [List.getElem?_map, hj]; rfl) (by rw [List.getElem?_map, hi]; exact congrArg some z))
      exact ⟨f, ob.mono (Ex.refl F) fun o' q => by rw [upd_ne hne]; exact q, l, g⟩
/-- an owned object of one's own is frozen -/
theorem Ok.froz {j : Nat} {e : Ow} (h : Ok K E F ds T σ H) (hj : T[j]? = some e) (hl : e.loc = true) : ∃ F', Ok K E F' ds (T.eraseIdx j) σ H ∧ Ex F F' ∧ Is K F' (.ref e.a) e.ob.d ∧ ∀ a, a ≠ e.a → F' a = F a := by
  have he := h.ow e (List.mem_of_getElem? hj)
  obtain ⟨o, ho⟩ := he.o.there
  have e1 : Ex F (upd F e.a o) := Ex.new he.f
  refine ⟨upd F e.a o, ⟨⟨h.p.ff.trans e1, h.p.hh, h.p.al, fun a u ha => ?_, fun a u hn ha => ?_⟩, h.ln, h.sl.mono e1, fun e' he' => ?_, ?_⟩, e1, he.o.froz he.f ho, fun a ha => upd_ne ha⟩
  · by_cases hap : a = e.a
    · subst hap
      rw [upd_same] at ha
      cases ha
      exact ho
    · rw [upd_ne hap] at ha
      exact h.p.fh a u ha
  · have hap : a ≠ e.a := fun z => by subst z; rw [he.l hl] at ha; cases ha
    rw [upd_ne hap]
    exact h.p.nw a u hn ha
  · obtain ⟨i, hi⟩ := List.getElem?_of_mem he'
    obtain ⟨k, hk, hkj⟩ : ∃ k, T[k]? = some e' ∧ k ≠ j := by
      by_cases hij : i < j
      · exact ⟨i, by rw [List.getElem?_eraseIdx_of_lt hij] at hi; exact hi, by omega⟩
      · exact ⟨i + 1, by rw [List.getElem?_eraseIdx_of_ge (by omega)] at hi; exact hi, by omega⟩
    obtain ⟨f, ob, l, g⟩ := h.ow e' (List.mem_of_getElem? hk)
    have hne : e'.a ≠ e.a := fun z => hkj (nodup_at h.nd (a := e.a) (by rw [List.getElem?_map, hk]; exact congrArg some z) (by rw [List.getElem?_map, hj]; rfl))
    exact ⟨by rw [upd_ne hne]; exact f, ob.mono e1 fun _ q => q, l, g⟩
  · exact h.nd.sublist ((List.eraseIdx_sublist ..).map _)
theorem Ok.slot (h : Ok K E F ds T σ H) {v : V} {d : D} (hv : Is K F v d) (i : Nat) : Ok K E F (ds.set i (some d)) T (σ.set i (some v)) H :=
  ⟨h.p, by rw [List.length_set, List.length_set]; exact h.ln, h.sl.set h.ln hv i, h.ow, h.nd⟩
theorem Ok.slot0 (h : Ok K E F ds T σ H) (i : Nat) : Ok K E F (ds.set i none) T (σ.set i none) H :=
  ⟨h.p, by rw [List.length_set, List.length_set]; exact h.ln, h.sl.none_ i, h.ow, h.nd⟩
/-- fewer owned objects -/
theorem Ok.less {T' : Tb} (h : Ok K E F ds T σ H) (s : T'.Sublist T) : Ok K E F ds T' σ H := ⟨h.p, h.ln, h.sl, fun e he => h.ow e (s.subset he), h.nd.sublist (s.map _)⟩
end
end AW

/-! AW: expressions as predicate transformers over data. -/
namespace AW
open PySem L2 Evl

abbrev PD := D → Tb → Prop
abbrev ads (T : Tb) : List Addr := T.map (·.a)
/-- what an expression's run leaves alone -/
structure Fr (T : Tb) (F H : Hp) (T' : Tb) (F' H' : Hp) : Prop where
  ff : Ex F F'
  hh : ∀ a o, H a = some o → a ∉ ads T → H' a = some o
  nw : ∀ a o, F a = none → H a = some o → a ∉ ads T → F' a = none
  tt : ∀ e ∈ T', e.a ∈ ads T ∨ H e.a = none
theorem Fr.refl (T : Tb) (F H : Hp) : Fr T F H T F H := ⟨Ex.refl F, fun _ _ h _ => h, fun _ _ h _ _ => h, fun e he => .inl (List.mem_map.mpr ⟨e, he, rfl⟩)⟩
theorem Fr.trans {T T1 T2 : Tb} {F H F1 H1 F2 H2 : Hp} (a : Fr T F H T1 F1 H1) (b : Fr T1 F1 H1 T2 F2 H2) (al : ∀ x o, H x = some o → ∃ o', H1 x = some o') : Fr T F H T2 F2 H2 := by
  have nin : ∀ x o, H x = some o → x ∉ ads T → x ∉ ads T1 := fun x o hx hn hm => by
    obtain ⟨e, he, q⟩ := List.mem_map.mp hm
    rcases a.tt e he with h | h
    · rw [q] at h
      exact hn h
    · rw [q, hx] at h
      cases h
  refine ⟨a.ff.trans b.ff, fun x o hx hn => b.hh x o (a.hh x o hx hn) (nin x o hx hn), fun x o hf hx hn => b.nw x o (a.nw x o hf hx hn) (a.hh x o hx hn) (nin x o hx hn), fun e he => ?_⟩
  rcases b.tt e he with h | h
  · obtain ⟨e1, he1, q⟩ := List.mem_map.mp h
    have := a.tt e1 he1
    rw [show e.a = e1.a from q.symm]
    exact this
  · refine .inr ?_
    cases q : H e.a with
    | none => rfl
    | some o =>
      obtain ⟨o', q'⟩ := al _ _ q
      rw [h] at q'
      cases q'

section
variable {K : PySem.W.Frag} {E : Ent}
/-- Q may be told of a value that stands for d with P -/
def Rs (K : PySem.W.Frag) (E : Ent) (P : PD) (ds : Sls) (T : Tb) (σ : L2.St) (F H : Hp) (Q : VK) : Prop :=
  ∀ v d T' F' H', P d T' → Ok K E F' ds T' σ H' → Fr T F H T' F' H' → (∀ x o, H x = some o → ∃ o', H' x = some o') → Is K F' v d → Q v H'
def AE (K : PySem.W.Frag) (E : Ent) (te : TE) (ds : Sls) (T : Tb) (P : PD) : Prop := ∀ F σ H Q, Ok K E F ds T σ H → Rs K E P ds T σ F H Q → te σ H Q
def AA (K : PySem.W.Frag) (E : Ent) (ta : TA) (ds : Sls) (T : Tb) (P : List D → Tb → Prop) : Prop :=
  ∀ F σ H (Q : List V → Hp → Prop), Ok K E F ds T σ H → (∀ vs dd T' F' H', P dd T' → Ok K E F' ds T' σ H' → Fr T F H T' F' H' → (∀ x o, H x = some o → ∃ o', H' x = some o') → IsA K F' vs dd → Q vs H') → ta σ H Q
def AT (K : PySem.W.Frag) (E : Ent) (tt : TT) (ds : Sls) (T : Tb) (P : Bool → Tb → Prop) : Prop :=
  ∀ F σ H (Q : Bool → Hp → Prop), Ok K E F ds T σ H → (∀ b T' F' H', P b T' → Ok K E F' ds T' σ H' → Fr T F H T' F' H' → (∀ x o, H x = some o → ∃ o', H' x = some o') → Q b H') → tt σ H Q
/-- a two-place operation, a call, a method's call, a slice on data -/
def RD (K : PySem.W.Frag) (E : Ent) (r : R2) (T : Tb) (d1 d2 : D) (P : PD) : Prop :=
  ∀ F σ ds H v1 v2 Q, Ok K E F ds T σ H → Is K F v1 d1 → Is K F v2 d2 → Rs K E P ds T σ F H Q → r v1 v2 H Q
def RU (K : PySem.W.Frag) (E : Ent) (r : V → Hp → VK → Prop) (T : Tb) (d1 : D) (P : PD) : Prop :=
  ∀ F σ ds H v1 Q, Ok K E F ds T σ H → Is K F v1 d1 → Rs K E P ds T σ F H Q → r v1 H Q
def RC (K : PySem.W.Frag) (E : Ent) (r : List V → Hp → VK → Prop) (T : Tb) (dd : List D) (P : PD) : Prop :=
  ∀ F σ ds H vs Q, Ok K E F ds T σ H → IsA K F vs dd → Rs K E P ds T σ F H Q → r vs H Q
def RM (K : PySem.W.Frag) (E : Ent) (r : V → List V → Hp → VK → Prop) (T : Tb) (d : D) (dd : List D) (P : PD) : Prop :=
  ∀ F σ ds H v vs Q, Ok K E F ds T σ H → Is K F v d → IsA K F vs dd → Rs K E P ds T σ F H Q → r v vs H Q
def RS (K : PySem.W.Frag) (E : Ent) (r : V → Option Int → Option Int → Hp → VK → Prop) (T : Tb) (d : D) (lo hi : Option Int) (P : PD) : Prop :=
  ∀ F σ ds H v Q, Ok K E F ds T σ H → Is K F v d → Rs K E P ds T σ F H Q → r v lo hi H Q
def Tru (K : PySem.W.Frag) (E : Ent) (T : Tb) (d : D) (k : Bool) : Prop := ∀ F σ ds H v, Ok K E F ds T σ H → Is K F v d → TruV K v H k

variable {te ta tb : TE} {tr : TA} {tt tu : TT} {ds : Sls} {T : Tb} {P P' : PD} {σ : L2.St} {F H F1 H1 : Hp} {Q : VK} {d d1 d2 : D} {r : R2} {v : V} {T1 : Tb}
theorem id_al {H : Hp} : ∀ x o, H x = some o → ∃ o', H x = some o' := fun _ o h => ⟨o, h⟩
theorem al_new {H : Hp} {p : Addr} {o : HO} : ∀ x u, H x = some u → ∃ o', upd H p o x = some o' := fun x u h => by
  by_cases e : x = p
  · exact ⟨o, by rw [e]; exact upd_same⟩
  · exact ⟨u, by rw [upd_ne e]; exact h⟩
theorem Fr.newF {p : Addr} {o : HO} (hF : F p = none) (hp : H p = none) : Fr T F H T (upd F p o) (upd H p o) :=
  ⟨Ex.new hF, fun a u h _ => by rw [upd_ne (ne_of_none h hp)]; exact h, fun a u hf h _ => by rw [upd_ne (ne_of_none h hp)]; exact hf, fun e he => .inl (List.mem_map.mpr ⟨e, he, rfl⟩)⟩
theorem Fr.newO {p : Addr} {o : HO} {ob : OB} (hp : H p = none) : Fr T F H (⟨p, true, ob⟩ :: T) F (upd H p o) :=
  ⟨Ex.refl F, fun a u h _ => by rw [upd_ne (ne_of_none h hp)]; exact h, fun a u hf h _ => hf, fun e he => by
    rcases List.mem_cons.mp he with rfl | he
    · exact .inr hp
    · exact .inl (List.mem_map.mpr ⟨e, he, rfl⟩)⟩
theorem Fr.mut {j : Nat} {e : Ow} {ob : OB} {o : HO} (hj : T[j]? = some e) : Fr T F H (T.set j { e with ob := ob }) F (upd H e.a o) :=
  ⟨Ex.refl F, fun a u h hn => by rw [upd_ne (fun z => hn (by rw [z]; exact List.mem_map.mpr ⟨e, List.mem_of_getElem? hj, rfl⟩))]; exact h, fun a u hf h _ => hf, fun e' he' => by
    rcases List.mem_or_eq_of_mem_set he' with h | h
    · exact .inl (List.mem_map.mpr ⟨e', h, rfl⟩)
    · exact .inl (by rw [h]; exact List.mem_map.mpr ⟨e, List.mem_of_getElem? hj, rfl⟩)⟩
theorem Rs.step (h : Rs K E P ds T σ F H Q) (f : Fr T F H T1 F1 H1) (al : ∀ x o, H x = some o → ∃ o', H1 x = some o') : Rs K E P ds T1 σ F1 H1 Q :=
  fun v d T' F' H' p ok fr al2 i => h v d T' F' H' p ok (f.trans fr al) (fun x o hx => let ⟨o1, h1⟩ := al x o hx; al2 x o1 h1) i
theorem Rs.ret (h : Rs K E P ds T σ F H Q) (ok : Ok K E F ds T σ H) (p : P d T) (i : Is K F v d) : Q v H := h v d T F H p ok (Fr.refl T F H) id_al i
theorem Rs.newF {p : Addr} {o : HO} (h : Rs K E P ds T σ F H Q) (ok : Ok K E F ds T σ H) (hp : H p = none) (q : P d T) (i : Is K (upd F p o) (.ref p) d) : Q (.ref p) (upd H p o) :=
  h _ d T _ _ q (ok.newF hp).1 (Fr.newF (fresh_back ok.p.fh hp) hp) al_new i
theorem Rs.newO {p : Addr} {o : HO} {ob : OB} (h : Rs K E P ds T σ F H Q) (ok : Ok K E F ds T σ H) (hp : H p = none) (q : P (.adr p) (⟨p, true, ob⟩ :: T)) (i : IsO K F (upd H p o) p ob) : Q (.ref p) (upd H p o) :=
  h _ (.adr p) _ _ _ q (ok.newO hp i) (Fr.newO hp) al_new (.adr p)
theorem Rs.mut {j : Nat} {e : Ow} {ob : OB} {o : HO} (h : Rs K E P ds T σ F H Q) (ok : Ok K E F ds T σ H) (hj : T[j]? = some e) (q : P d (T.set j { e with ob := ob })) (i : IsO K F (upd H e.a o) e.a ob) (hv : Is K F v d) : Q v (upd H e.a o) :=
  h v d _ _ _ q (ok.mut hj i) (Fr.mut hj) al_new hv
theorem Rs.newF' {p : Addr} {o : HO} (h : Rs K E P ds T σ F H Q) (ok : Ok K E F ds T σ H) (hp : H p = none) (q : P d T) (i : Ex F (upd F p o) → Is K (upd F p o) (.ref p) d) : Q (.ref p) (upd H p o) :=
  h.newF ok hp q (i (ok.newF hp).2)

/-! ### consequence, frame -/
theorem AE.imp (h : AE K E te ds T P) (k : ∀ d T', P d T' → P' d T') : AE K E te ds T P' := fun F σ H Q ok q => h F σ H Q ok fun v d T' F' H' p => q v d T' F' H' (k d T' p)
theorem AA.imp {P P' : List D → Tb → Prop} (h : AA K E tr ds T P) (k : ∀ d T', P d T' → P' d T') : AA K E tr ds T P' := fun F σ H Q ok q => h F σ H Q ok fun v d T' F' H' p => q v d T' F' H' (k d T' p)
theorem AT.imp {P P' : Bool → Tb → Prop} (h : AT K E tt ds T P) (k : ∀ d T', P d T' → P' d T') : AT K E tt ds T P' := fun F σ H Q ok q => h F σ H Q ok fun d T' F' H' p => q d T' F' H' (k d T' p)
/-- the value's owned object is frozen -/
theorem AE.froz (h : AE K E te ds T fun d T' => ∃ j e, T'[j]? = some e ∧ e.loc = true ∧ d = .adr e.a ∧ P e.ob.d (T'.eraseIdx j)) : AE K E te ds T P := fun F σ H Q ok q => h F σ H Q ok fun v d T' F' H' ⟨j, e, hj, hl, hd, p⟩ ok' fr al i => by
  subst hd
  cases i
  obtain ⟨F2, ok2, e2, i2, same⟩ := ok'.froz hj hl
  refine q _ _ _ F2 H' p ok2 ⟨fr.ff.trans e2, fr.hh, fun a o hf hx hn => ?_, fun e' he' => fr.tt e' ((List.eraseIdx_sublist ..).subset he')⟩ al i2
  have hne : a ≠ e.a := fun z => by
    rcases fr.tt e (List.mem_of_getElem? hj) with h2 | h2
    · rw [← z] at h2
      exact hn h2
    · rw [← z, hx] at h2
      cases h2
  rw [same a hne]
  exact fr.nw a o hf hx hn
theorem Ok.tail {e : Ow} (ok : Ok K E F ds (e :: T) σ H) : Ok K E F ds T σ H := ok.less (List.sublist_cons_self ..)
theorem Ok.notin {e : Ow} (ok : Ok K E F ds (e :: T) σ H) : e.a ∉ ads T := by
  have := ok.nd
  rw [List.map_cons, List.nodup_cons] at this
  exact this.1
/-- an owned object that is not touched is put back -/
theorem Ok.back {e : Ow} {T' : Tb} {F' H' : Hp} {ds' : Sls} {σ' : L2.St} (ok : Ok K E F ds (e :: T) σ H) (ok' : Ok K E F' ds' T' σ' H') (fr : Fr T F H T' F' H') : Ok K E F' ds' (e :: T') σ' H' := by
  have he := ok.ow e (List.mem_cons_self ..)
  have hn := ok.notin
  obtain ⟨o, ho⟩ := he.o.there
  have hn' : e.a ∉ ads T' := fun hm => by
    obtain ⟨e1, h1, q⟩ := List.mem_map.mp hm
    rcases fr.tt e1 h1 with h | h
    · rw [q] at h
      exact hn h
    · rw [q, ho] at h
      cases h
  refine ⟨ok'.p, ok'.ln, ok'.sl, fun x hx => ?_, ?_⟩
  · rcases List.mem_cons.mp hx with rfl | hx
    · exact ⟨fr.nw _ _ he.f ho hn, he.o.mono fr.ff fun u hu => fr.hh _ u hu hn, he.l, he.g⟩
    · exact ok'.ow x hx
  · rw [List.map_cons, List.nodup_cons]
    exact ⟨hn', ok'.nd⟩
theorem Fr.back {e : Ow} {T' : Tb} {F' H' : Hp} (fr : Fr T F H T' F' H') : Fr (e :: T) F H (e :: T') F' H' := by
  refine ⟨fr.ff, fun a o h hn => fr.hh a o h fun z => hn (List.mem_cons_of_mem _ z), fun a o hf h hn => fr.nw a o hf h fun z => hn (List.mem_cons_of_mem _ z), fun x hx => ?_⟩
  rcases List.mem_cons.mp hx with rfl | hx
  · exact .inl (List.mem_cons_self ..)
  · rcases fr.tt x hx with h | h
    · exact .inl (List.mem_cons_of_mem _ h)
    · exact .inr h
theorem AE.frame {e : Ow} (h : AE K E te ds T P) : AE K E te ds (e :: T) fun d T'' => ∃ T', T'' = e :: T' ∧ P d T' := fun F σ H Q ok q =>
  h F σ H Q ok.tail fun v d T' F' H' p ok' fr al i => q v d (e :: T') F' H' ⟨T', rfl, p⟩ (ok.back ok' fr) fr.back al i

/-! ### expressions -/
theorem ae_var {i : Nat} (h : ds[i]? = some (some d)) (p : P d T) : AE K E (tVar i) ds T P := fun F σ H Q ok q => by
  obtain ⟨v, h1, h2⟩ := ok.sl i d h
  exact ⟨v, h1, q.ret ok p h2⟩
theorem ae_int {i : Int} (p : P (.int i) T) : AE K E (tC (.int i)) ds T P := fun F σ H Q ok q => q.ret ok p (.int i)
theorem ae_bl {b : Bool} (p : P (.bl b) T) : AE K E (tC (.bl b)) ds T P := fun F σ H Q ok q => q.ret ok p (.bl b)
theorem ae_str {b : Str} (p : P (.str b) T) : AE K E (tC (.str b)) ds T P := fun F σ H Q ok q => q.ret ok p (.str b)
theorem ae_non (p : P .non T) : AE K E (tC .non) ds T P := fun F σ H Q ok q => q.ret ok p .non
theorem ae_op (h : AE K E ta ds T fun d1 T1 => AE K E tb ds T1 fun d2 T2 => RD K E r T2 d1 d2 P) : AE K E (tOp r ta tb) ds T P := fun F σ H Q ok q =>
  h F σ H _ ok fun v1 d1 T1 F1 H1 p1 ok1 fr1 al1 i1 => p1 F1 σ H1 _ ok1 fun v2 d2 T2 F2 H2 p2 ok2 fr2 al2 i2 =>
    p2 F2 σ ds H2 v1 v2 Q ok2 (i1.mono fr2.ff) i2 ((q.step fr1 al1).step fr2 al2)
theorem ae_un {r : V → Hp → VK → Prop} (h : AE K E ta ds T fun d1 T1 => RU K E r T1 d1 P) : AE K E (tUn r ta) ds T P := fun F σ H Q ok q =>
  h F σ H _ ok fun v1 d1 T1 F1 H1 p1 ok1 fr1 al1 i1 => p1 F1 σ ds H1 v1 Q ok1 i1 (q.step fr1 al1)
theorem aa_nil {P : List D → Tb → Prop} (p : P [] T) : AA K E tNil ds T P := fun F σ H Q ok q => q [] [] T F H p ok (Fr.refl T F H) id_al .nil
theorem aa_cons {P : List D → Tb → Prop} (h : AE K E ta ds T fun d T1 => AA K E tr ds T1 fun dd T2 => P (d :: dd) T2) : AA K E (tCons ta tr) ds T P := fun F σ H Q ok q =>
  h F σ H _ ok fun v1 d1 T1 F1 H1 p1 ok1 fr1 al1 i1 => p1 F1 σ H1 _ ok1 fun vs dd T2 F2 H2 p2 ok2 fr2 al2 i2 =>
    q (v1 :: vs) (d1 :: dd) T2 F2 H2 p2 ok2 (fr1.trans fr2 al1) (fun x o hx => let ⟨o1, h1⟩ := al1 x o hx; al2 x o1 h1) (.cons (i1.mono fr2.ff) i2)
theorem ae_lst (h : AA K E tr ds T fun dd T' => dd.length ≤ 100000 ∧ P (.lst dd) T') : AE K E (tLst tr) ds T P := fun F σ H Q ok q =>
  h F σ H _ ok fun vs dd T1 F1 H1 ⟨hl, p1⟩ ok1 fr1 al1 i1 => ⟨by rw [i1.len]; exact sz_of hl, fun p hp => (q.step fr1 al1).newF' ok1 hp p1 fun e => .lst upd_same (i1.mono e)⟩
theorem ae_lstO (h : AA K E tr ds T fun dd T' => dd.length ≤ 100000 ∧ ∀ p, P (.adr p) (⟨p, true, .lst dd⟩ :: T')) : AE K E (tLst tr) ds T P := fun F σ H Q ok q =>
  h F σ H _ ok fun vs dd T1 F1 H1 ⟨hl, p1⟩ ok1 fr1 al1 i1 => ⟨by rw [i1.len]; exact sz_of hl, fun p hp => (q.step fr1 al1).newO ok1 hp (p1 p) ⟨vs, upd_same, i1⟩⟩
theorem ae_tup (h : AA K E tr ds T fun dd T' => dd.length ≤ 100000 ∧ P (.tup dd) T') : AE K E (tTup tr) ds T P := fun F σ H Q ok q =>
  h F σ H _ ok fun vs dd T1 F1 H1 ⟨hl, p1⟩ ok1 fr1 al1 i1 => ⟨by rw [i1.len]; exact sz_of hl, fun p hp => (q.step fr1 al1).newF' ok1 hp p1 fun e => .tup upd_same (i1.mono e)⟩
theorem ae_cb {r : List V → Hp → VK → Prop} (h : AA K E tr ds T fun dd T' => RC K E r T' dd P) : AE K E (tCB r tr) ds T P := fun F σ H Q ok q =>
  h F σ H _ ok fun vs dd T1 F1 H1 p1 ok1 fr1 al1 i1 => p1 F1 σ ds H1 vs Q ok1 i1 (q.step fr1 al1)
theorem ae_if (h : AT K E tt ds T fun b T' => if b = true then AE K E ta ds T' P else AE K E tb ds T' P) : AE K E (tIf tt ta tb) ds T P := fun F σ H Q ok q =>
  h F σ H _ ok fun b T1 F1 H1 p1 ok1 fr1 al1 => by
    cases b with
    | true => exact p1 F1 σ H1 Q ok1 (q.step fr1 al1)
    | false => exact p1 F1 σ H1 Q ok1 (q.step fr1 al1)
theorem ae_andV (h : AE K E ta ds T fun d T' => ∃ b, d = .bl b ∧ (b = true → AE K E tb ds T' P) ∧ (b = false → P (.bl false) T')) : AE K E (tAndV ta tb) ds T P := fun F σ H Q ok q =>
  h F σ H _ ok fun v d T1 F1 H1 ⟨b, hd, h1, h2⟩ ok1 fr1 al1 i => by
    subst hd
    cases i
    refine ⟨b, rfl, ?_⟩
    cases b with
    | true => exact h1 rfl F1 σ H1 Q ok1 (q.step fr1 al1)
    | false => exact (q.step fr1 al1).ret ok1 (h2 rfl) (.bl false)
theorem ae_orV (h : AE K E ta ds T fun d T' => ∃ b, d = .bl b ∧ (b = true → P (.bl true) T') ∧ (b = false → AE K E tb ds T' P)) : AE K E (tOrV ta tb) ds T P := fun F σ H Q ok q =>
  h F σ H _ ok fun v d T1 F1 H1 ⟨b, hd, h1, h2⟩ ok1 fr1 al1 i => by
    subst hd
    cases i
    refine ⟨b, rfl, ?_⟩
    cases b with
    | true => exact (q.step fr1 al1).ret ok1 (h1 rfl) (.bl true)
    | false => exact h2 rfl F1 σ H1 Q ok1 (q.step fr1 al1)
theorem ae_notV (h : AE K E ta ds T fun d T' => ∃ b, d = .bl b ∧ P (.bl (!b)) T') : AE K E (tNotV ta) ds T P := fun F σ H Q ok q =>
  h F σ H _ ok fun v d T1 F1 H1 ⟨b, hd, h1⟩ ok1 fr1 al1 i => by
    subst hd
    cases i
    exact ⟨b, rfl, (q.step fr1 al1).ret ok1 h1 (.bl _)⟩
theorem ae_notT (h : AE K E ta ds T fun d T' => ∃ k, Tru K E T' d k ∧ P (.bl (!k)) T') : AE K E (tNotT K ta) ds T P := fun F σ H Q ok q =>
  h F σ H _ ok fun v d T1 F1 H1 ⟨k, hk, h1⟩ ok1 fr1 al1 i => ⟨k, hk F1 σ ds H1 v ok1 i, (q.step fr1 al1).ret ok1 h1 (.bl _)⟩
theorem ae_andT (h : AE K E ta ds T fun d T' => ∃ k, Tru K E T' d k ∧ (k = true → AE K E tb ds T' P) ∧ (k = false → P d T')) : AE K E (tAndT K ta tb) ds T P := fun F σ H Q ok q =>
  h F σ H _ ok fun v d T1 F1 H1 ⟨k, hk, h1, h2⟩ ok1 fr1 al1 i => ⟨k, hk F1 σ ds H1 v ok1 i, by
    cases k with
    | true => exact h1 rfl F1 σ H1 Q ok1 (q.step fr1 al1)
    | false => exact (q.step fr1 al1).ret ok1 (h2 rfl) i⟩
theorem ae_orT (h : AE K E ta ds T fun d T' => ∃ k, Tru K E T' d k ∧ (k = true → P d T') ∧ (k = false → AE K E tb ds T' P)) : AE K E (tOrT K ta tb) ds T P := fun F σ H Q ok q =>
  h F σ H _ ok fun v d T1 F1 H1 ⟨k, hk, h1, h2⟩ ok1 fr1 al1 i => ⟨k, hk F1 σ ds H1 v ok1 i, by
    cases k with
    | true => exact (q.step fr1 al1).ret ok1 (h1 rfl) i
    | false => exact h2 rfl F1 σ H1 Q ok1 (q.step fr1 al1)⟩
/-! ### tests -/
theorem at_test {P : Bool → Tb → Prop} (h : AE K E ta ds T fun d T' => ∃ b, d = .bl b ∧ P b T') : AT K E (tTest ta) ds T P := fun F σ H Q ok q =>
  h F σ H _ ok fun v d T1 F1 H1 ⟨b, hd, h1⟩ ok1 fr1 al1 i => by
    subst hd
    cases i
    exact ⟨b, rfl, q b T1 F1 H1 h1 ok1 fr1 al1⟩
theorem at_B {P : Bool → Tb → Prop} (h : AE K E ta ds T fun d T' => ∃ b, d = .bl b ∧ P b T') : AT K E (tB ta) ds T P := fun F σ H Q ok q =>
  h F σ H _ ok fun v d T1 F1 H1 ⟨b, hd, h1⟩ ok1 fr1 al1 i => by
    subst hd
    cases i
    exact ⟨b, rfl, q b T1 F1 H1 h1 ok1 fr1 al1⟩
def tTru (K : PySem.W.Frag) (ta : TE) : TT := fun σ H Q => ta σ H fun x H' => ∃ k, TruV K x H' k ∧ Q k H'
theorem at_tru {P : Bool → Tb → Prop} (h : AE K E ta ds T fun d T' => ∃ k, Tru K E T' d k ∧ P k T') : AT K E (tTru K ta) ds T P := fun F σ H Q ok q =>
  h F σ H _ ok fun v d T1 F1 H1 ⟨k, hk, h1⟩ ok1 fr1 al1 i => ⟨k, hk F1 σ ds H1 v ok1 i, q k T1 F1 H1 h1 ok1 fr1 al1⟩
theorem at_and {P : Bool → Tb → Prop} (h : AT K E tt ds T fun b T' => if b = true then AT K E tu ds T' P else P false T') : AT K E (tAnd tt tu) ds T P := fun F σ H Q ok q =>
  h F σ H _ ok fun b T1 F1 H1 h1 ok1 fr1 al1 => by
    cases b with
    | true => exact h1 F1 σ H1 Q ok1 fun b2 T2 F2 H2 h2 ok2 fr2 al2 => q b2 T2 F2 H2 h2 ok2 (fr1.trans fr2 al1) fun x o hx => let ⟨o1, h1⟩ := al1 x o hx; al2 x o1 h1
    | false => exact q false T1 F1 H1 h1 ok1 fr1 al1
theorem at_or {P : Bool → Tb → Prop} (h : AT K E tt ds T fun b T' => if b = true then P true T' else AT K E tu ds T' P) : AT K E (tOr tt tu) ds T P := fun F σ H Q ok q =>
  h F σ H _ ok fun b T1 F1 H1 h1 ok1 fr1 al1 => by
    cases b with
    | true => exact q true T1 F1 H1 h1 ok1 fr1 al1
    | false => exact h1 F1 σ H1 Q ok1 fun b2 T2 F2 H2 h2 ok2 fr2 al2 => q b2 T2 F2 H2 h2 ok2 (fr1.trans fr2 al1) fun x o hx => let ⟨o1, h1⟩ := al1 x o hx; al2 x o1 h1
theorem at_not {P : Bool → Tb → Prop} (h : AT K E tt ds T fun b T' => P (!b) T') : AT K E (tNot tt) ds T P := fun F σ H Q ok q =>
  h F σ H _ ok fun b T1 F1 H1 h1 ok1 fr1 al1 => q (!b) T1 F1 H1 h1 ok1 fr1 al1

/-! ### lists as they may lie: frozen, locked, owned -/
inductive LV (T : Tb) : D → List D → Prop
  | f (ds : List D) : LV T (.lst ds) ds
  | r (ds : List D) : LV T (.frl ds) ds
  | o {j : Nat} {e : Ow} {ds : List D} : T[j]? = some e → e.ob = .lst ds → LV T (.adr e.a) ds
theorem LV.own {T : Tb} {a : Addr} {l : Bool} {ds : List D} (j : Nat) (h : T[j]? = some ⟨a, l, .lst ds⟩) : LV T (.adr a) ds := .o h rfl
theorem LV.sq {xs : List D} (l : LV T d xs) (ok : Ok K E F ds T σ H) (i : Is K F v d) : ∃ a vs, v = .ref a ∧ SqL K H a vs ∧ IsA K F vs xs := by
  cases l with
  | f =>
    cases i with
    | lst h t => exact ⟨_, _, rfl, sq_of (ok.p.fh _ _ h), t⟩
  | r =>
    cases i with
    | frl h t => exact ⟨_, _, rfl, ex_l ok.p.fh h, t⟩
  | @o j e _ hj he =>
    cases i
    have w := (ok.ow e (List.mem_of_getElem? hj)).o
    rw [he] at w
    obtain ⟨vs, h1, h2⟩ := w
    exact ⟨_, vs, rfl, sq_of h1, h2⟩
/-- a list that the heap tracks -/
inductive LW (T : Tb) : D → List D → Prop
  | f (ds : List D) : LW T (.lst ds) ds
  | o {j : Nat} {e : Ow} {ds : List D} : T[j]? = some e → e.ob = .lst ds → LW T (.adr e.a) ds
theorem LW.own {T : Tb} {a : Addr} {l : Bool} {ds : List D} (j : Nat) (h : T[j]? = some ⟨a, l, .lst ds⟩) : LW T (.adr a) ds := .o h rfl
theorem LW.trk {xs : List D} (l : LW T d xs) (ok : Ok K E F ds T σ H) (i : Is K F v d) : ∃ a vs, v = .ref a ∧ H a = some (.lst vs) ∧ IsA K F vs xs := by
  cases l with
  | f =>
    cases i with
    | lst h t => exact ⟨_, _, rfl, ok.p.fh _ _ h, t⟩
  | @o j e _ hj he =>
    cases i
    have w := (ok.ow e (List.mem_of_getElem? hj)).o
    rw [he] at w
    obtain ⟨vs, h1, h2⟩ := w
    exact ⟨_, vs, rfl, h1, h2⟩
theorem LW.lv {xs : List D} (l : LW T d xs) : LV T d xs := by
  cases l with
  | f => exact .f _
  | o h1 h2 => exact .o h1 h2
theorem Is.tupE {xs : List D} (i : Is K F v (.tup xs)) : ∃ a vs, v = .ref a ∧ SqT K F a vs ∧ IsA K F vs xs := by
  cases i with
  | tup h t => exact ⟨_, _, rfl, st_of h, t⟩
theorem Is.tupT {xs : List D} (i : Is K F v (.tup xs)) : ∃ a vs, v = .ref a ∧ F a = some (.tup vs) ∧ IsA K F vs xs := by
  cases i with
  | tup h t => exact ⟨_, _, rfl, h, t⟩

/-! ### truth -/
theorem tru_bl {b : Bool} : Tru K E T (.bl b) b := fun F σ ds H v ok i => by
  cases i
  rfl
theorem tru_non : Tru K E T .non false := fun F σ ds H v ok i => by
  cases i
  rfl
theorem tru_int {n : Int} : Tru K E T (.int n) (n != 0) := fun F σ ds H v ok i => by
  cases i
  rfl
theorem tru_list {xs : List D} (l : LV T d xs) : Tru K E T d (!xs.isEmpty) := fun F σ ds H v ok i => by
  obtain ⟨a, vs, rfl, h1, h2⟩ := l.sq ok i
  refine .inl ⟨vs, h1, ?_⟩
  cases h2 <;> rfl
theorem tru_tup {xs : List D} : Tru K E T (.tup xs) (!xs.isEmpty) := fun F σ ds H v ok i => by
  obtain ⟨a, vs, rfl, h1, h2⟩ := i.tupE
  refine .inr (.inl ⟨vs, ex_t ok.p.fh h1, ?_⟩)
  cases h2 <;> rfl
end
end AW

/-! AwG: promises of defs that are kept where no repr is under way (so that repr of lists may be used in them). -/
namespace AW
open PySem PySem.Spec PyProof.Rows L2 Evl

/-- as FnOk, for surroundings without guards -/
structure FnG (P : Program) (w : World) (K : PySem.W.Frag) (mg : Str → Option Value) (base : Heap) (CX : CXT) (k : Nat) (f : Addr) (fd : FuncData) (ps : List Str) (sp : Sp) : Prop where
  ln : ∀ vs H Q E, sp vs H Q E → vs.length = ps.length
  go : ∀ (A : Around) (ou : List Env) (s : Shared) (H : Hp) (ar : Args) (us : List Value) (vs : List V) (Q : VK) (E : XK), A.guards = some [] → Room k A → Env0 P w K mg base A ou s H → BindsTo s fd ar (ps.zip us) → Vals vs us →
    sp vs H Q E → codeAny (model P w) A (.call (.ref f) ar) (CR CX ou P w H s Q E) s
theorem FnOk.g {P : Program} {w : World} {K : PySem.W.Frag} {mg : Str → Option Value} {base : Heap} {CX : CXT} {k : Nat} {f : Addr} {fd : FuncData} {ps : List Str} {sp : Sp} (F : FnOk P w K mg base CX k f fd ps sp) : FnG P w K mg base CX k f fd ps sp :=
  ⟨F.len, fun A ou s H ar us vs Q E _ hr => F.run A ou s H ar us vs Q E hr⟩
theorem FnG.up {P : Program} {w : World} {K : PySem.W.Frag} {mg : Str → Option Value} {base : Heap} {CX : CXT} {j k : Nat} {f : Addr} {fd : FuncData} {ps : List Str} {sp : Sp} (F : FnG P w K mg base CX j f fd ps sp) (h : j ≤ k) : FnG P w K mg base CX k f fd ps sp :=
  ⟨F.ln, fun A ou s H ar us vs Q E hg hr => F.go A ou s H ar us vs Q E hg (hr.mono h)⟩

theorem result_of {X : Cx} {CX : CXT} {E : XK} {Q : VK} {pins : List (Addr × Obj)} {σ : L2.St} {H : Hp} {s : Shared} (I : Inv X pins σ H s) (hx : ∀ e s', CX X.stack H s E e s' → X.xe e s')
    {R : Result → Shared → Prop} (hR : ∀ u s', EP X pins σ Q u s' → R (.ok (.ret u)) s') (hE : ∀ e s', X.xe e s' → R (.error e) s') {z : Result} {s' : Shared} (h : CR CX X.stack X.prog X.w H s Q E z s') : R z s' := by
  match z, h with
  | .error e, h => exact hE e s' (hx e s' h)
  | .ok (.ret u), h => exact hR u s' (I.after h)
  | .ok .next, h => exact h.elim
  | .ok .brk, h => exact h.elim
  | .ok .cont, h => exact h.elim

section
variable {X : Cx} {CX : CXT} {k : Nat} {f C : Addr} {fd : FuncData} {ps : List Str} {sp : Sp} {E : XK} {x m : Str} {p pos apos : Pos} {e o : Expr} {es : List Expr} {ta : TE} {t : TA}
theorem go_fn {pins : List (Addr × Obj)} {σ : L2.St} {H : Hp} {s : Shared} {Q : VK} {us : List Value} {vs : List V} (F : FnG X.prog X.w X.K X.mg X.base CX k f fd ps sp) (gu : X.A.guards = some []) (hr : Room k X.A) (hb : Binds X.K fd ps [])
    (I : Inv X pins σ H s) (hx : ∀ e s', CX X.stack H s E e s' → X.xe e s') (r : Vals vs us) (h : sp vs H Q E) : wpAny (model X.prog X.w) X.A (call (.ref f) us) (EP X pins σ Q) X.xe s := by
  have lu : us.length = ps.length := r.length.symm.trans (F.ln vs H Q E h)
  have bt : BindsTo s fd ⟨us, []⟩ (ps.zip us) := by
    have q := hb s us I.kIn (by rw [List.append_nil]; exact lu)
    rw [List.append_nil] at q
    exact q
  refine wpAny_call (codeAny_mono (F.go X.A X.stack s H ⟨us, []⟩ us vs Q E gu hr I.env0 bt r h) fun z s' hz => ?_)
  exact result_of I hx (R := fun z s' => match z with
    | .ok (.ret u) => EP X pins σ Q u s'
    | .error e => X.xe e s'
    | _ => False) (fun _ _ q => q) (fun _ _ q => q) hz |> fun q => by
      match z, q with
      | .error e, q => exact q
      | .ok (.ret u), q => exact q
/-- f(..); E: what is wanted of an exception, at the caller's slots -/
def tCallG (sp : Sp) (E : L2.St → XK) (t : TA) : TE := fun σ H Q => t σ H fun vs H1 => sp vs H1 Q (E σ)
def tMethG (C : Addr) (m : Str) (sp : Sp) (E : L2.St → XK) (ta : TE) (t : TA) : TE := fun σ H Q =>
  ta σ H fun x H1 => ∃ a dx fs, x = .ref a ∧ H1 a = some (.ins C dx fs) ∧ fs.lookup m = none ∧ t σ H1 fun vs H2 => sp (x :: vs) H2 Q (E σ)
def tMakeG (C : Addr) (sp : Sp) (E : L2.St → XK) (t : TA) : TE := fun σ H Q => t σ H fun vs H1 =>
  ∀ x dx, H1 x = none → H1 dx = none → dx ≠ x → sp (.ref x :: vs) (upd (upd H1 dx (.own x)) x (.ins C dx [])) (fun v H2 => v = .non ∧ Q (.ref x) H2) (E σ)
variable {EE : L2.St → XK}
theorem pe_callG (F : FnG X.prog X.w X.K X.mg X.base CX k f fd ps sp) (gu : X.A.guards = some []) (hr : Room k X.A) (hg : Gl X x) (hm : X.mg x = some (.ref f)) (hk : PySem.W.keepIn X.K (.ref f) = true) (hb : Binds X.K fd ps [])
    (hx : ∀ σ, PassesAt CX X σ (EE σ)) (ha : PA X (e :: es) t) (hdb : (x == ("__debug__" : Str)) = false := by decide)
    (he : starEach (e :: es) X.env = (false, eval e X.env) :: starEach es X.env := by rfl) (hpl : (backTo pos (starEach es X.env)).any (·.1) = false := by rfl) : PE X (.Call (.Name x p) (e :: es) [] pos) (tCallG sp EE t) := by
  constructor
  intro pins s σ H Q I h
  refine wpAny_Call_Name_kw (ld_glob I hg hm (PySem.W.callWith_K (h₀ := X.base) I.ok.mod.kin hk (thn (ha.run pos pins s σ H _ I h) ?_) he hpl) hdb)
  rintro us s1 ⟨vs, H1, I1, r, q⟩
  exact ⟨I1.kIn, go_fn F gu hr hb I1 (fun e s' => hx σ pins H1 s1 e s' I1) r q⟩
theorem pe_call0G (F : FnG X.prog X.w X.K X.mg X.base CX k f fd ps sp) (gu : X.A.guards = some []) (hr : Room k X.A) (hg : Gl X x) (hm : X.mg x = some (.ref f)) (hk : PySem.W.keepIn X.K (.ref f) = true) (hb : Binds X.K fd ps [])
    (hx : ∀ σ, PassesAt CX X σ (EE σ)) (hdb : (x == ("__debug__" : Str)) = false := by decide) : PE X (.Call (.Name x p) [] [] pos) (tCallG sp EE tNil) := by
  constructor
  intro pins s σ H Q I h
  exact wpAny_Call_Name_kw (ld_glob I hg hm (PySem.W.callWith_K0 I.kIn hk (go_fn (us := []) F gu hr hb I (fun e s' => hx σ pins H s e s' I) .nil h)) hdb)
theorem pe_methG {pl : Sem Bool} (he : PE X o ta) (c : Cls X.K C) (hm : Meth X.K C m f) (F : FnG X.prog X.w X.K X.mg X.base CX k f fd ps sp) (gu : X.A.guards = some []) (hr : Room k X.A) (hb : Binds X.K fd ps [])
    (hx : ∀ σ, PassesAt CX X σ (EE σ)) (ha : PA X (e :: es) t)
    (hst : starEach (e :: es) X.env = (false, eval e X.env) :: starEach es X.env := by rfl) (hpl : (backTo pos (starEach es X.env)).any (·.1) = false := by rfl)
    (ht : eval (.Call (.Attribute o m apos) (e :: es) [] pos) X.env = (eval o X.env >>= fun ov => standAt apos.atName >>= fun _ => holding [ov] (getMethod ov m pl) >>= fun z =>
      callWith pos z.1 z.2 (backTo pos (starEach (e :: es) X.env)) (backToKw pos (keywordEach [] X.env))) := by rfl) : PE X (.Call (.Attribute o m apos) (e :: es) [] pos) (tMethG C m sp EE ta t) := by
  constructor
  intro pins s σ H Q I h
  refine PySem.W.methodCall_KW (pl := pl) (thn (he.run pins s σ H _ I h) ?_) ht
  rintro u s1 ⟨x, H1, I1, rx, a, dx, fs, rfl, ea, l, q⟩
  obtain rfl : u = Value.ref a := rx
  refine getmeth_ok I1 ea c hm l (PySem.W.callWith_K (first := [.ref a]) (h₀ := X.base) I.ok.mod.kin hm.kp (thn (ha.run pos pins s1 σ H1 _ I1 q) ?_) hst hpl)
  rintro us s2 ⟨vs, H2, I2, r, q2⟩
  exact ⟨I2.kIn, go_fn (us := .ref a :: us) (vs := .ref a :: vs) F gu hr hb I2 (fun e s' => hx σ pins H2 s2 e s' I2) (.cons rfl r) q2⟩
theorem pe_meth0G {pl : Sem Bool} (he : PE X o ta) (c : Cls X.K C) (hm : Meth X.K C m f) (F : FnG X.prog X.w X.K X.mg X.base CX k f fd ps sp) (gu : X.A.guards = some []) (hr : Room k X.A) (hb : Binds X.K fd ps [])
    (hx : ∀ σ, PassesAt CX X σ (EE σ))
    (ht : eval (.Call (.Attribute o m apos) [] [] pos) X.env = (eval o X.env >>= fun ov => standAt apos.atName >>= fun _ => holding [ov] (getMethod ov m pl) >>= fun z =>
      callWith pos z.1 z.2 (backTo pos (starEach [] X.env)) (backToKw pos (keywordEach [] X.env))) := by rfl) : PE X (.Call (.Attribute o m apos) [] [] pos) (tMethG C m sp EE ta tNil) := by
  constructor
  intro pins s σ H Q I h
  refine PySem.W.methodCall_KW (pl := pl) (thn (he.run pins s σ H _ I h) ?_) ht
  rintro u s1 ⟨x, H1, I1, rx, a, dx, fs, rfl, ea, l, q⟩
  obtain rfl : u = Value.ref a := rx
  exact getmeth_ok I1 ea c hm l (PySem.W.callWith_K0 (first := [.ref a]) I1.kIn hm.kp (go_fn (us := [.ref a]) (vs := [.ref a]) F gu hr hb I1 (fun e s' => hx σ pins H1 s1 e s' I1) (.cons rfl .nil) q))
theorem under_call_guards {A : Around} {C : Addr} {us : List Value} (gu : A.guards = some []) : (A.under (.builtin "type.__call__" ⟨.ref C :: us, []⟩)).guards = some [] := by
  simp [Around.under, Code.guards, Code.isGuard, guardIds, pushGuards, gu]
theorem go_make {pins : List (Addr × Obj)} {σ : L2.St} {H : Hp} {s : Shared} {Q : VK} {E : XK} {us : List Value} {vs : List V} (M : Mk X.K C f) (F : FnG X.prog X.w X.K X.mg X.base CX k f fd ps sp) (gu : X.A.guards = some []) (hr : Room (k + 1) X.A)
    (hb : Binds X.K fd ps []) (I : Inv X pins σ H s) (hx : PassesAt CX X σ E) (r : Vals vs us)
    (h : ∀ x dx, H x = none → H dx = none → dx ≠ x → sp (.ref x :: vs) (upd (upd H dx (.own x)) x (.ins C dx [])) (fun v H2 => v = .non ∧ Q (.ref x) H2) E) :
    wpAny (model X.prog X.w) X.A (call (.ref C) us) (EP X pins σ Q) X.xe s := by
  have q0 := h (s.heap.objs.size + 1) s.heap.objs.size (I.hok.fresh (Nat.le_add_right _ 1)) (I.hok.fresh (Nat.le_refl _)) (Nat.ne_of_lt (Nat.lt_add_one _))
  have J := Inv.made (C := C) I
  have r2 : Vals (V.ref (s.heap.objs.size + 1) :: vs) (Value.ref (s.heap.objs.size + 1) :: us) := .cons rfl r
  have lu : (Value.ref (s.heap.objs.size + 1) :: us).length = ps.length := r2.length.symm.trans (F.ln _ _ _ _ q0)
  have bt := hb _ (Value.ref (s.heap.objs.size + 1) :: us) J.kIn (by rw [List.append_nil]; exact lu)
  rw [List.append_nil] at bt
  refine wpAny_call (make_map (f := f) I.kIn M.makes M.init (beq_iff_eq.mp M.fn) (codeAny_mono (F.go _ X.stack _ _ _ _ _ _ E (under_call_guards gu) (hr.make C us []) (J.env0.make C us []) bt r2 q0) ?_))
  intro z s' hz
  match z, hz with
  | .error e, hz => exact hx pins _ _ e s' J hz
  | .ok (.ret u), hz =>
    obtain ⟨v, H', J3, rv, ev, q3⟩ := J.after hz
    subst ev
    exact ⟨rv, ⟨V.ref (s.heap.objs.size + 1), H', J3, rfl, q3⟩⟩
  | .ok .next, hz => exact hz.elim
  | .ok .brk, hz => exact hz.elim
  | .ok .cont, hz => exact hz.elim
theorem pe_makeG (M : Mk X.K C f) (F : FnG X.prog X.w X.K X.mg X.base CX k f fd ps sp) (gu : X.A.guards = some []) (hr : Room (k + 1) X.A) (hg : Gl X x) (hm : X.mg x = some (.ref C)) (hb : Binds X.K fd ps []) (hx : ∀ σ, PassesAt CX X σ (EE σ))
    (ha : PA X (e :: es) t) (hdb : (x == ("__debug__" : Str)) = false := by decide)
    (he : starEach (e :: es) X.env = (false, eval e X.env) :: starEach es X.env := by rfl) (hpl : (backTo pos (starEach es X.env)).any (·.1) = false := by rfl) : PE X (.Call (.Name x p) (e :: es) [] pos) (tMakeG C sp EE t) := by
  constructor
  intro pins s σ H Q I h
  refine wpAny_Call_Name_kw (ld_glob I hg hm (PySem.W.callWith_K (h₀ := X.base) I.ok.mod.kin M.kp (thn (ha.run pos pins s σ H _ I h) ?_) he hpl) hdb)
  rintro us s1 ⟨vs, H1, I1, r, q⟩
  exact ⟨I1.kIn, go_make M F gu hr hb I1 (hx σ) r q⟩
end

/-- a def by its body, run where no repr is under way -/
theorem okG {CX : CXT} {P : Program} {w : World} {K : PySem.W.Frag} {mg : Str → Option Value} {base : Heap} {k : Nat} {f : Addr} {x qual : Str} {params : Arguments} {body : List Stmt} {scope : Scope} {dvs : List V} {kws : List (Str × V)} {fd : FuncData}
    {N ps : List Str} {sp : Sp} (F : FunD K x qual params body scope dvs kws f fd) (S : FnScope N ps scope) (ln : ∀ vs H Q E, sp vs H Q E → vs.length = ps.length)
    (hb : ∀ (cdv : Value) (A : Around) (ou : List Env) (s : Shared) (H : Hp) (vs : List V) (Q : VK) (E : XK), A.guards = some [] → Room k (A.deeper (envOfC qual scope s.heap.objs.size f cdv)) → sp vs H Q E →
      ∃ t, PSs (cxOf CX P w K mg base N qual scope f cdv A ou s H E) body t ∧ t { nx := fun _ H' => Q .non H', rt := Q } (start N vs) H) : FnG P w K mg base CX (k + 1) f fd ps sp := by
  obtain ⟨oc, od, dV, kV, doc, pm, an, cdv, ct, osl, rfl, lk, hcd, _, _⟩ := F.ex
  constructor
  · exact ln
  intro A ou s H ar us vs Q E gu hr e0 bt r hsp
  have up : ∀ b o, base.get? b = some o → s.heap.get? b = some o := fun b o e => (e0.bs b o e).1
  have KX := e0.mod.kin.keeps up
  have lim := e0.mod.nolimit.keeps up
  have hk : ∀ y ∈ ps.zip us, scope.names.lookup y.1 = some .local ∨ (scope.names.lookup y.1 = some .cell ∧ ((cellsFrom (s.heap.objs.size + 1) scope.names []).lookup y.1).isSome = true) := by
    rintro ⟨n, v⟩ hy
    exact (S.par n (List.of_mem_zip hy).1).imp id fun q => ⟨q, PySem.W.cellsFrom_some _ _ _ (.inl q)⟩
  refine codeAny_call_function hr.depth (KX _ _ lk) rfl S.co S.gen rfl (PySem.W.codeRec_of KX hcd) (bt _ _ _ _ (wpAny_newFunctionEnv_cells S.kind hk ?_))
  intro env he s1 x1
  subst he
  refine ⟨lim.keeps x1.toInCall.keep, codeAny_func ?_⟩
  obtain ⟨t, ht, q⟩ := hb cdv A ou s H vs Q E gu (hr.deeper _) hsp
  have J := inv_start (CX := CX) (P := P) (K := K) (mg := mg) (base := base) (E := E) S hr.hd e0 (ln _ _ _ _ hsp) r x1
  refine wpAny_mono (ht.run [] s1 (start N vs) H _ J q) ?_ fun e s' z => z
  intro fl s' z
  match fl, z with
  | .ret u, ⟨v, σ', H', J2, rv, q2⟩ => exact ⟨v, H', J2.os, J2.bare, J2.base, J2.hok, rv, q2⟩
  | .next, ⟨σ', H', J2, q2⟩ => exact ⟨V.non, H', J2.os, J2.bare, J2.base, J2.hok, rfl, q2⟩
  | .brk, ⟨_, _, _, q2⟩ => exact q2.elim
  | .cont, ⟨_, _, _, q2⟩ => exact q2.elim

/-- the law's call, behind the top -/
theorem callG {P : Program} {w : World} {K : PySem.W.Frag} {mg mb : Str → Option Value} {CX : CXT} {k : Nat} {fa a : Addr} {fd : FuncData} {x : Str} {sp : Sp} {s : Shared} {vs : List Value} {ns : List Int}
    (KX : K.In s.heap) (hns : s.heap.Ns mainGlobals mg) (hb : s.heap.Ns builtinsNs mb) (hbb : ∀ x : Str, x ≠ "__name__" → mb x = bootBuiltins x) (hlim : s.heap.NoLimit) (hg : s.gens = #[])
    (ha : s.heap.get? a = some { cls := .type "list", data := .seq vs.toArray }) (hi : IntsAre vs ns) (hl : ns.length ≤ sizeLine) (hr : Room k callerA)
    (F : ∀ base : Heap, K.In base → base.Ns mainGlobals mg → FnG P w K mg base CX k fa fd [x] sp) (hbind : ∀ (s : Shared) (u : Value), BindsTo s fd ⟨[u], []⟩ [(x, u)])
    (hsp : ∀ H : Hp, SqL K H a (ns.map V.int) → sp [.ref a] H (fun v _ => v = .bl true) fun _ _ _ => False) (hCX : ∀ H e s', CX [] H s (fun _ _ _ => False) e s' → False) :
    codeAny (model P w) callerA (.call (.ref fa) ⟨[.ref a], []⟩) (fun r s' => r = .ok (.ret (.bool true)) ∧ OldK s.heap s'.heap ∧ s'.os = s.os ∧ AllBare s'.gens) s := by
  have rv := vals_ints hi
  have lenV := hi.length
  have main : ∀ H : Hp, SqL K H a (ns.map V.int) → HOk P w H s.heap → (∀ b u, H b = some u → b = a ∧ K.lookup a = none ∧ ∃ o xs, u = .frz o (.lst xs)) →
      codeAny (model P w) callerA (.call (.ref fa) ⟨[.ref a], []⟩) (fun r s' => r = .ok (.ret (.bool true)) ∧ OldK s.heap s'.heap ∧ s'.os = s.os ∧ AllBare s'.gens) s := by
    intro H hS hok only
    have none_of : ∀ {b : Addr} {o : Obj}, s.heap.get? b = some o → (b = a → ∀ es ep, o.data ≠ .dict es ep → False) → H b = none := by
      intro b o e hd
      cases q : H b with
      | none => rfl
      | some u =>
        obtain ⟨rfl, _, _⟩ := only b u q
        rw [ha] at e
        cases e
        exact (hd rfl #[] 0 (fun z => by cases z)).elim
    have nsK : ∀ {b : Addr} {m : Str → Option Value}, s.heap.Ns b m → (hidT s.heap H).Ns b m := by
      rintro b m ⟨o, es, ep, e, d, r⟩
      refine ⟨o, es, ep, hidT_get e ?_, d, r⟩
      cases q : H b with
      | none => rfl
      | some u =>
        obtain ⟨rfl, _, _⟩ := only b u q
        rw [ha] at e
        cases e
        exact absurd d (fun z => by cases z)
    have hKb : K.In (hidT s.heap H) := by
      intro b o e
      refine hidT_get (KX b o e) ?_
      cases q : H b with
      | none => rfl
      | some u =>
        obtain ⟨rfl, h2, _⟩ := only b u q
        rw [h2] at e
        cases e
    have hM : Mod K mg (hidT s.heap H) := ⟨hKb, nsK hns, ⟨mb, nsK hb, hbb⟩, hlim.imp fun _ z => ⟨nsK z.1, z.2⟩⟩
    have e0 : Env0 P w K mg (hidT s.heap H) callerA [] s H := ⟨rfl, hM, fun b o e => of_hidT e, Nat.le_of_eq (hidT_size _ _), trivial, fun b hb => (List.not_mem_nil hb).elim, hok, .of_eq hg⟩
    refine codeAny_mono ((F _ hKb (nsK hns)).go callerA [] s H ⟨[.ref a], []⟩ [.ref a] [.ref a] _ _ rfl hr e0 (hbind s (.ref a)) (.cons rfl .nil) (hsp H hS)) ?_
    intro r s' h
    match r, h with
    | .error e, h => exact (hCX H e s' h).elim
    | .ok .next, h => exact h.elim
    | .ok .brk, h => exact h.elim
    | .ok .cont, h => exact h.elim
    | .ok (.ret u), ⟨v, H', os, bare, un, hok', rv', q⟩ =>
      have q' : v = .bl true := q
      subst q'
      obtain rfl : u = Value.bool true := rv'
      refine ⟨rfl, OldK.of_keep fun b o e => ?_, os, bare⟩
      cases q : H b with
      | none => exact un.keep b o e q (fun z => List.not_mem_nil z) (fun z => List.not_mem_nil z)
      | some u =>
        obtain ⟨_, _, ob, xs, rfl⟩ := only b u q
        have e1 := (hok b _ q).1
        have e2 := (hok' b _ (un.frzs b ob _ q)).1
        rw [e] at e1
        cases e1
        exact e2
  cases hk : K.lookup a with
  | some o =>
    have e := KX a o hk
    rw [ha] at e
    cases e
    exact main (fun _ => none) (.inr ⟨_, vs.toArray, _, hk, rfl, rfl, rfl, by rw [List.size_toArray, lenV]; exact hl, by simpa using rv⟩) (fun b u z => by cases z) fun b u z => by cases z
  | none =>
    obtain ⟨H, hH⟩ : ∃ H : Hp, H = fun b => if b = a then some (.frz { cls := .type "list", data := .seq vs.toArray } (.lst (ns.map V.int))) else none := ⟨_, rfl⟩
    have at_a : H a = some (.frz { cls := .type "list", data := .seq vs.toArray } (.lst (ns.map V.int))) := by
      rw [hH]
      exact if_pos rfl
    have only : ∀ b u, H b = some u → b = a ∧ u = .frz { cls := .type "list", data := .seq vs.toArray } (.lst (ns.map V.int)) := fun b u z => by
      by_cases hb : b = a
      · subst hb
        rw [at_a] at z
        exact ⟨rfl, (Option.some.inj z).symm⟩
      · rw [hH] at z
        have z' := (if_neg hb).symm.trans z
        cases z'
    refine main H (.inl (.inr ⟨_, at_a⟩)) (fun b u z => ?_) fun b u z => ⟨(only b u z).1, hk, _, _, (only b u z).2⟩
    obtain ⟨rfl, rfl⟩ := only b u z
    exact ⟨ha, by rw [List.length_map]; exact hl, vs, _, rv, ha⟩
theorem walkG {l : PySem.W.OpenLaw} {n k : Nat} {q : Program} {loose : List Str} {XP : (Str → Option Value) → Heap → Prop} {YP : World → Heap → Prop} {d : DefRec} {CX : World → CXT} {x : Str}
    (hn : l.most = some n) (hn2 : n ≤ sizeLine) (hdf : d.params.defaults = []) (hr : Room k callerA)
    (F : ∀ (w : World) (mg : Str → Option Value) (fa : Addr) (h : Heap), YP w h → h.Ns mainGlobals mg → mg d.name = some (.ref fa) →
      ∃ (K : PySem.W.Frag) (fd : FuncData) (sp : Sp), K.In h ∧ (∀ (s : Shared) (u : Value), BindsTo s fd ⟨[u], []⟩ [(x, u)]) ∧
        (∀ (H : Hp) (a : Addr) (ns : List Int), ns.length ≤ n → SqL K H a (ns.map V.int) → sp [.ref a] H (fun v _ => v = .bl true) fun _ _ _ => False) ∧ ∀ base : Heap, K.In base → base.Ns mainGlobals mg → FnG l.prog w K mg base (CX w) k fa fd [x] sp)
    (hCX : ∀ (w : World) (H : Hp) (s : Shared) (e : Value) (s' : Shared), CX w [] H s (fun _ _ _ => False) e s' → False) : PySem.W.WalkO q loose XP YP l.row.toRowW d [] (fun f vs => PySem.call f vs) := by
  refine Att.attach_call hn hdf ?_
  intro w s₀ s₁ mg mb fa o pm cd doc a vs ns G Y ho hd hcd hmg hobj hints hlen hg
  obtain ⟨K, fd, sp, KX, hb, hsp, hF⟩ := F w mg fa _ Y G.T.g hmg
  exact callG KX G.T.g G.T.b G.T.builtins G.T.nolimit hg hobj hints (Nat.le_trans hlen hn2) hr hF hb (fun H hS => hsp H a ns hlen hS) fun H e s' => hCX w H s₁ e s'
end AW

/-! AW: data as the library's PyData: ==, repr. -/
namespace AW
open PySem PySem.Spec PyProof.Rows L2 Evl

mutual
def D.py : D → PyData
  | .non => .none
  | .bl b => .bool b
  | .int i => .int i
  | .str x => .str x
  | .tup ds => .tuple (D.pys ds)
  | .lst ds => .list (D.pys ds)
  | .frl ds => .list (D.pys ds)
  | .dK _ _ => .none
  | .dT _ _ => .none
  | .ins _ _ _ => .none
  | .adr _ => .none
def D.pys : List D → List PyData
  | [] => []
  | d :: ds => D.py d :: D.pys ds
end
theorem D.pys_map : ∀ ds : List D, D.pys ds = ds.map D.py
  | [] => rfl
  | d :: ds => by rw [D.pys, D.pys_map ds, List.map_cons]
mutual
def D.plain : D → Bool
  | .non => true
  | .bl _ => true
  | .int _ => true
  | .str _ => true
  | .tup ds => D.plains ds
  | .lst ds => D.plains ds
  | .frl ds => D.plains ds
  | .dK _ _ => false
  | .dT _ _ => false
  | .ins _ _ _ => false
  | .adr _ => false
def D.plains : List D → Bool
  | [] => true
  | d :: ds => D.plain d && D.plains ds
end
theorem D.plains_iff : ∀ {ds : List D}, D.plains ds = true ↔ ∀ d ∈ ds, d.plain = true
  | [] => by simp [D.plains]
  | d :: ds => by simp [D.plains, D.plains_iff (ds := ds)]
@[simp] theorem D.py_non : D.py .non = .none := by simp only [D.py]
@[simp] theorem D.py_bl (b : Bool) : D.py (.bl b) = .bool b := by simp only [D.py]
@[simp] theorem D.py_int (i : Int) : D.py (.int i) = .int i := by simp only [D.py]
@[simp] theorem D.py_str (x : Str) : D.py (.str x) = .str x := by simp only [D.py]
@[simp] theorem D.py_tup (ds : List D) : D.py (.tup ds) = .tuple (ds.map D.py) := by simp only [D.py, D.pys_map]
@[simp] theorem D.py_lst (ds : List D) : D.py (.lst ds) = .list (ds.map D.py) := by simp only [D.py, D.pys_map]
@[simp] theorem D.plain_non : D.plain .non = true := by simp only [D.plain]
@[simp] theorem D.plain_bl (b : Bool) : D.plain (.bl b) = true := by simp only [D.plain]
@[simp] theorem D.plain_int (i : Int) : D.plain (.int i) = true := by simp only [D.plain]
@[simp] theorem D.plain_str (x : Str) : D.plain (.str x) = true := by simp only [D.plain]
@[simp] theorem D.plain_tup (ds : List D) : D.plain (.tup ds) = true ↔ ∀ d ∈ ds, d.plain = true := by rw [D.plain]; exact D.plains_iff
@[simp] theorem D.plain_lst (ds : List D) : D.plain (.lst ds) = true ↔ ∀ d ∈ ds, d.plain = true := by rw [D.plain]; exact D.plains_iff

/-- d, its owned lists read through the table -/
inductive Dv (T : Tb) : D → PyData → Prop
  | p {d : D} : d.plain = true → Dv T d d.py
  | o {j : Nat} {e : Ow} {ds : List D} : T[j]? = some e → e.ob = .lst ds → (∀ d ∈ ds, d.plain = true) → Dv T (.adr e.a) (.list (ds.map D.py))
/-- a list or tuple display of such -/
theorem Dv.own {T : Tb} {a : Addr} {l : Bool} {ds : List D} (j : Nat) (h : T[j]? = some ⟨a, l, .lst ds⟩) (hp : ∀ d ∈ ds, d.plain = true) : Dv T (.adr a) (.list (ds.map D.py)) := .o h rfl hp

section
variable {K : PySem.W.Frag} {E : Ent} {F H : Hp} {ds : Sls} {T : Tb} {σ : L2.St} {v : V} {d d1 d2 : D} {P : PD}
mutual
theorem Is.dp (e : Ex F H) : ∀ {d : D} {v : V}, Is K F v d → d.plain = true → Dp K H v d.py
  | .non, _, .non, _ => by rw [D.py]; exact .non
  | .bl _, _, .bl b, _ => by rw [D.py]; exact .bl b
  | .int _, _, .int i, _ => by rw [D.py]; exact .int i
  | .str _, _, .str x, _ => by rw [D.py]; exact .str x
  | .tup ds, _, .tup h t, p => by
    rw [D.py]
    rw [D.plain] at p
    exact .tup (st_of (e _ _ h)) (IsA.dp e t p)
  | .lst ds, _, .lst h t, p => by
    rw [D.py]
    rw [D.plain] at p
    exact .lst (sq_of (e _ _ h)) (IsA.dp e t p)
  | .frl ds, _, .frl h t, p => by
    rw [D.py]
    rw [D.plain] at p
    exact .lst (ex_l e h) (IsA.dp e t p)
  | .dK _ _, _, _, p => by rw [D.plain] at p; cases p
  | .dT _ _, _, _, p => by rw [D.plain] at p; cases p
  | .ins _ _ _, _, _, p => by rw [D.plain] at p; cases p
  | .adr _, _, _, p => by rw [D.plain] at p; cases p
theorem IsA.dp (e : Ex F H) : ∀ {ds : List D} {vs : List V}, IsA K F vs ds → D.plains ds = true → DpAll K H vs (D.pys ds)
  | [], _, .nil, _ => by rw [D.pys]; exact .nil
  | d :: ds, _, .cons h t, p => by
    rw [D.plains, Bool.and_eq_true] at p
    rw [D.pys]
    exact .cons (Is.dp e h p.1) (IsA.dp e t p.2)
end
theorem Dv.dp {q : PyData} (x : Dv T d q) (ok : Ok K E F ds T σ H) (i : Is K F v d) : Dp K H v q := by
  cases x with
  | p h => exact i.dp ok.p.fh h
  | @o j e xs hj he hp =>
    cases i
    have w := (ok.ow e (List.mem_of_getElem? hj)).o
    rw [he] at w
    obtain ⟨vs, h1, h2⟩ := w
    rw [← D.pys_map]
    exact .lst (sq_of h1) (h2.dp ok.p.fh (D.plains_iff.mpr hp))
end

/-! ### sizes -/
/-- q is shown in few signs: depth at most n, at most k places -/
structure Fit (n k : Nat) (q : PyData) : Prop where
  c : q.canLay0 = true
  d : q.depth ≤ n
  s : q.showable = true
  l : q.leavesShort 24 = true
  b : q.bulk ≤ k
theorem Fit.up {n k n' k' : Nat} {q : PyData} (f : Fit n k q) (h1 : n ≤ n') (h2 : k ≤ k') : Fit n' k' q := ⟨f.c, Nat.le_trans f.d h1, f.s, f.l, Nat.le_trans f.b h2⟩
theorem fit_none : Fit 0 0 .none := ⟨by simp [PyData.canLay0], by simp [PyData.depth], by simp [PyData.showable], by simp [PyData.leavesShort], by simp [PyData.bulk]⟩
theorem fit_bool (b : Bool) : Fit 0 0 (.bool b) := ⟨by simp [PyData.canLay0], by simp [PyData.depth], by simp [PyData.showable], by simp [PyData.leavesShort], by simp [PyData.bulk]⟩
theorem fit_int {i : Int} (h : i.natAbs < 10 ^ 20) : Fit 0 0 (.int i) := by
  refine ⟨by simp [PyData.canLay0], by simp [PyData.depth], ?_, ?_, by simp [PyData.bulk]⟩
  · simp only [PyData.showable, decide_eq_true_eq]
    by_cases h0 : i.natAbs = 0
    · rw [h0]
      decide
    · exact Nat.lt_of_lt_of_le ((Nat.log2_lt h0).mpr (Nat.lt_trans h (by decide : 10 ^ 20 < 2 ^ 67))) (by decide)
  · simp only [PyData.leavesShort, PyData.shown]
    have e := int_text_length_le10 (k := 20) (by decide) h
    refine decide_eq_true ?_
    show (Str.ofString (toString i)).length ≤ 24
    rw [PySem.ofString_length]
    omega
theorem all_fit {n k : Nat} : ∀ {xs : List PyData}, (∀ x ∈ xs, Fit n k x) → PyData.canLayAll0 xs = true ∧ PyData.depthAll xs ≤ n ∧ PyData.showableAll xs = true ∧ PyData.leavesShortAll 24 xs = true ∧ PyData.bulkAll xs ≤ xs.length * (k + 1)
  | [], _ => by simp [PyData.canLayAll0, PyData.depthAll, PyData.showableAll, PyData.leavesShortAll, PyData.bulkAll]
  | x :: xs, h => by
    obtain ⟨a1, a2, a3, a4, a5⟩ := all_fit (xs := xs) fun y hy => h y (List.mem_cons_of_mem _ hy)
    have f := h x (List.mem_cons_self ..)
    refine ⟨by simp [PyData.canLayAll0, f.c, a1], ?_, by simp [PyData.showableAll, f.s, a3], by simp [PyData.leavesShortAll, f.l, a4], ?_⟩
    · simp only [PyData.depthAll]
      have := f.d
      omega
    · simp only [PyData.bulkAll, List.length_cons]
      have := f.b
      rw [Nat.add_mul]
      omega
theorem fit_tuple {n k : Nat} {xs : List PyData} (h : ∀ x ∈ xs, Fit n k x) : Fit (n + 1) (xs.length * (k + 1)) (.tuple xs) := by
  obtain ⟨a1, a2, a3, a4, a5⟩ := all_fit h
  exact ⟨by simp [PyData.canLay0, a1], by simp only [PyData.depth]; omega, by simp [PyData.showable, a3], by simp [PyData.leavesShort, a4], by simp only [PyData.bulk]; exact a5⟩
theorem fit_list {n k : Nat} {xs : List PyData} (h : ∀ x ∈ xs, Fit n k x) : Fit (n + 1) (xs.length * (k + 1)) (.list xs) := by
  obtain ⟨a1, a2, a3, a4, a5⟩ := all_fit h
  exact ⟨by simp [PyData.canLay0, a1], by simp only [PyData.depth]; omega, by simp [PyData.showable, a3], by simp [PyData.leavesShort, a4], by simp only [PyData.bulk]; exact a5⟩
theorem Fit.shown {n k : Nat} {q : PyData} (f : Fit n k q) (h : k ≤ 600000) : q.shown.length ≤ sizeLine := by
  have h1 := PyData.shown_le_bulk 24 (by decide) q f.l
  have h2 := f.b
  have : sizeLine = 16777216 := by decide
  omega
theorem Fit.shaped {n k : Nat} {q : PyData} (f : Fit n k q) (h : n ≤ 60) : SeqAt.shaped q = true := by
  unfold SeqAt.shaped
  rw [f.c, Bool.true_and]
  exact decide_eq_true (by have := f.d; omega)

/-! ### repr -/
def rRepr (K : PySem.W.Frag) : List V → Hp → VK → Prop := fun vs H Q => ∃ v q, vs = [v] ∧ Dp K H v q ∧ q.showable = true ∧ q.canLay0 = true ∧ q.depth ≤ 60 ∧ q.shown.length ≤ sizeLine ∧ Q (.str q.shown) H
theorem call_repr {X : Cx} (gu : X.A.guards = some []) (hu : X.A.units + 64 < cLine) : CallR X (.builtin "repr") (rRepr X.K) := by
  intro pins s σ H xs us Q I r h
  obtain ⟨v, q, rfl, dp, sh, cl, dep, sz, k⟩ := h
  cases r with
  | cons ru rn =>
    cases rn
    rename_i u
    have fin : ∀ (t : Tok) (t' : Nat), EP X pins σ Q (.str q.shown t) { s with toks := t' } := fun t t' => ⟨.str q.shown, H, I.tok _, ⟨t, rfl⟩, k⟩
    obtain ⟨as, rd⟩ := Dp.reads I q v u dp ru
    cases dp with
    | non =>
      cases ru
      have fin' := fin
      simp only [PyData.shown] at fin'
      exact PySem.P.repr_of_none (fin' _ _)
    | bl b =>
      cases ru
      have fin' := fin
      simp only [PyData.shown] at fin'
      exact PySem.P.repr_of_bool (fin' _ _)
    | int i =>
      obtain ⟨t, rfl⟩ := ru
      have fin' := fin
      simp only [PyData.shown] at fin'
      exact PySem.P.repr_of_int (by simpa [PyData.showable] using sh) (fin' _ _)
    | str x =>
      obtain ⟨t, rfl⟩ := ru
      have fin' := fin
      simp only [PyData.shown] at fin' sz
      exact PySem.P.repr_of_str (fin' _ _) sz
    | lst h1 h2 =>
      cases ru
      exact repr_of_reads' rd sh (PyData.noDict_hsm (PyData.hasDict_of_canLay _ cl)) gu (by omega) (fun _ _ z => z) (fun h' u tk hk => ⟨.str _, H, I.kept hk, ⟨u, rfl⟩, k⟩) sz
    | tup h1 h2 =>
      cases ru
      exact repr_of_reads' rd sh (PyData.noDict_hsm (PyData.hasDict_of_canLay _ cl)) gu (by omega) (fun _ _ z => z) (fun h' u tk hk => ⟨.str _, H, I.kept hk, ⟨u, rfl⟩, k⟩) sz
end AW

/-! AW: operators, items, slices, built-ins, methods on data. -/
namespace AW
open PySem PySem.Spec PyProof.Rows L2 Evl

/-! ### unions of rules -/
theorem opr_or {X : Cx} {f : Value → Value → Sem Value} {r r' : R2} (h : OpR X f r) (h' : OpR X f r') : OpR X f (fun x y H Q => r x y H Q ∨ r' x y H Q) :=
  fun pins s σ H x y v u Q I rx ry q => q.elim (h pins s σ H x y v u Q I rx ry) (h' pins s σ H x y v u Q I rx ry)
theorem callr_or {X : Cx} {f : Value} {r r' : List V → Hp → VK → Prop} (h : CallR X f r) (h' : CallR X f r') : CallR X f (fun xs H Q => r xs H Q ∨ r' xs H Q) :=
  fun pins s σ H xs us Q I r q => q.elim (h pins s σ H xs us Q I r) (h' pins s σ H xs us Q I r)
def rStrAdd : R2 := fun x y H Q => ∃ i j, x = .str i ∧ y = .str j ∧ i.length + j.length ≤ sizeLine ∧ Q (.str (i ++ j)) H
def rAdd (K : PySem.W.Frag) : R2 := fun x y H Q => rI0 (fun i j => .int (i + j)) x y H Q ∨ rCatA K x y H Q ∨ rCat x y H Q ∨ rStrAdd x y H Q
def rMul (K : PySem.W.Frag) : R2 := fun x y H Q => rI CMulW (fun i j => .int (i * j)) x y H Q ∨ rRepT K x y H Q ∨ rRep x y H Q
def rInU (K : PySem.W.Frag) : R2 := fun x y H Q => rInD K x y H Q ∨ rIn K false x y H Q
def rNinU (K : PySem.W.Frag) : R2 := fun x y H Q => rNotInD K x y H Q ∨ rIn K true x y H Q
def rEqU (K : PySem.W.Frag) : R2 := fun x y H Q => rEqD K x y H Q ∨ rEq x y H Q
def rNeU (K : PySem.W.Frag) : R2 := fun x y H Q => rNeD K x y H Q ∨ rNe x y H Q
abbrev rSub : R2 := rI0 fun i j => .int (i - j)
abbrev rMod : R2 := rI (fun _ j => 0 < j) fun i j => .int (i % j)
abbrev rDiv : R2 := rI CDiv fun i j => .int (i / j)
abbrev rPow : R2 := rI CPow fun i j => .int (i ^ j.toNat)
abbrev rLt : R2 := rI0 fun i j => .bl (decide (i < j))
abbrev rLe : R2 := rI0 fun i j => .bl (decide (i ≤ j))
abbrev rGt : R2 := rI0 fun i j => .bl (decide (j < i))
abbrev rGe : R2 := rI0 fun i j => .bl (decide (j ≤ i))
abbrev rIsN : R2 := fun x y H Q => y = .non ∧ Q (.bl (decide (x = .non))) H
section
variable {X : Cx}
theorem opAdd : OpR X (binaryOp .Add) (rAdd X.K) := opr_or op_add (opr_or op_catA (opr_or op_cat op_add_str))
theorem opMul : OpR X (binaryOp .Mult) (rMul X.K) := opr_or op_mulW (opr_or op_repT op_rep)
theorem opEq (hu : X.A.units + 64 < cLine) : OpR X (compareOp .Eq) (rEqU X.K) := opr_or (op_eqD hu) op_eq
theorem opNe (hu : X.A.units + 64 < cLine) : OpR X (compareOp .NotEq) (rNeU X.K) := opr_or (op_neD hu) op_ne
theorem opIn (hu : X.A.units + 65 < cLine) : OpR X (compareOp .In) (rInU X.K) := opr_or (op_inD hu) op_in_seq
theorem opNin (hu : X.A.units + 65 < cLine) : OpR X (compareOp .NotIn) (rNinU X.K) := opr_or (op_notInD hu) op_notIn_seq
def rSlU (K : PySem.W.Frag) : V → Option Int → Option Int → Hp → VK → Prop := fun x lo hi H Q => rSlL K x lo hi H Q ∨ rSlA K x lo hi H Q
theorem slU : SlR X (rSlU X.K) := sl_list.or sl_tupA
end

section
variable {K : PySem.W.Frag} {E : Ent} {F H : Hp} {ds : Sls} {T : Tb} {σ : L2.St} {v : V} {d d1 d2 : D} {P : PD} {i j : Int} {xs ys : List D}
theorem atI_is {vs : List V} (h : IsA K F vs xs) (e : atI xs i = some d) : ∃ v, atI vs i = some v ∧ Is K F v d := by
  unfold atI at e ⊢
  rw [h.len]
  cases q : ixN xs.length i with
  | none => rw [q] at e; cases e
  | some k =>
    rw [q] at e
    exact h.get e
theorem atI_of {α : Type} {xs : List α} {k : Nat} {x : α} (h : xs[k]? = some x) : atI xs (k : Int) = some x := by
  unfold atI ixN
  have hk := (List.getElem?_eq_some_iff.mp h).1
  rw [if_pos (by omega), if_pos (by omega)]
  exact h
theorem atI_to {α : Type} {xs : List α} {i : Int} {x : α} (h0 : 0 ≤ i) (h : xs[i.toNat]? = some x) : atI xs i = some x := by
  have := atI_of h
  rwa [Int.toNat_of_nonneg h0] at this
theorem atI_last {α : Type} {xs : List α} {x : α} (h : xs.getLast? = some x) : atI xs (-1) = some x := by
  unfold atI ixN
  have hne : xs ≠ [] := fun z => by rw [z] at h; cases h
  have hl : 0 < xs.length := List.length_pos_iff.mpr hne
  rw [if_neg (by omega), if_pos (by omega)]
  rw [List.getLast?_eq_getElem?] at h
  show xs[(-1 + (xs.length : Int)).toNat]? = some x
  rw [show (-1 + (xs.length : Int)).toNat = xs.length - 1 by omega]
  exact h
/-! ### ints -/
theorem rd_I0 {g : Int → Int → V} {z : D} (hz : ∀ F, Is K F (g i j) z) (p : P z T) : RD K E (rI0 g) T (.int i) (.int j) P := fun F σ ds H v1 v2 Q ok i1 i2 q => by
  cases i1
  cases i2
  exact ⟨i, j, rfl, rfl, q.ret ok p (hz F)⟩
theorem rd_I {C : Int → Int → Prop} {g : Int → Int → V} {z : D} (hc : C i j) (hz : ∀ F, Is K F (g i j) z) (p : P z T) : RD K E (rI C g) T (.int i) (.int j) P := fun F σ ds H v1 v2 Q ok i1 i2 q => by
  cases i1
  cases i2
  exact ⟨i, j, rfl, rfl, hc, q.ret ok p (hz F)⟩
theorem RD.l {r r' : R2} (h : RD K E r T d1 d2 P) : RD K E (fun x y H Q => r x y H Q ∨ r' x y H Q) T d1 d2 P := fun F σ ds H v1 v2 Q ok i1 i2 q => .inl (h F σ ds H v1 v2 Q ok i1 i2 q)
theorem RD.r {r r' : R2} (h : RD K E r' T d1 d2 P) : RD K E (fun x y H Q => r x y H Q ∨ r' x y H Q) T d1 d2 P := fun F σ ds H v1 v2 Q ok i1 i2 q => .inr (h F σ ds H v1 v2 Q ok i1 i2 q)
theorem rd_add (p : P (.int (i + j)) T) : RD K E (rAdd K) T (.int i) (.int j) P := RD.l (rd_I0 (fun _ => .int _) p)
theorem rd_sub (p : P (.int (i - j)) T) : RD K E rSub T (.int i) (.int j) P := rd_I0 (fun _ => .int _) p
theorem rd_mul (hc : CMulW i j) (p : P (.int (i * j)) T) : RD K E (rMul K) T (.int i) (.int j) P := RD.l (rd_I hc (fun _ => .int _) p)
theorem rd_mod (hc : 0 < j) (p : P (.int (i % j)) T) : RD K E rMod T (.int i) (.int j) P := rd_I hc (fun _ => .int _) p
theorem rd_div (hc : CDiv i j) (p : P (.int (i / j)) T) : RD K E rDiv T (.int i) (.int j) P := rd_I hc (fun _ => .int _) p
theorem rd_pow (hc : CPow i j) (p : P (.int (i ^ j.toNat)) T) : RD K E rPow T (.int i) (.int j) P := rd_I hc (fun _ => .int _) p
theorem rd_lt (p : P (.bl (decide (i < j))) T) : RD K E rLt T (.int i) (.int j) P := rd_I0 (fun _ => .bl _) p
theorem rd_le (p : P (.bl (decide (i ≤ j))) T) : RD K E rLe T (.int i) (.int j) P := rd_I0 (fun _ => .bl _) p
theorem rd_gt (p : P (.bl (decide (j < i))) T) : RD K E rGt T (.int i) (.int j) P := rd_I0 (fun _ => .bl _) p
theorem rd_ge (p : P (.bl (decide (j ≤ i))) T) : RD K E rGe T (.int i) (.int j) P := rd_I0 (fun _ => .bl _) p
theorem ru_neg (p : P (.int (-i)) T) : RU K E (rU fun i => .int (-i)) T (.int i) P := fun F σ ds H v1 Q ok i1 q => by
  cases i1
  exact ⟨i, rfl, q.ret ok p (.int _)⟩
theorem rd_isN (hd : d ≠ .non) (p : P (.bl false) T) : RD K E rIsN T d .non P := fun F σ ds H v1 v2 Q ok i1 i2 q => by
  cases i2
  refine ⟨rfl, ?_⟩
  have : decide (v1 = .non) = false := decide_eq_false fun z => by
    subst z
    cases i1
    exact hd rfl
  rw [this]
  exact q.ret ok p (.bl _)
theorem rd_isNN (p : P (.bl true) T) : RD K E rIsN T .non .non P := fun F σ ds H v1 v2 Q ok i1 i2 q => by
  cases i2
  cases i1
  exact ⟨rfl, q.ret ok p (.bl _)⟩
/-! ### ==, in on data -/
theorem rd_eq {a b : PyData} (h1 : Dv T d1 a) (h2 : Dv T d2 b) (s1 : SeqAt.shaped a = true) (s2 : SeqAt.shaped b = true) (p : P (.bl (PyData.eqv a b)) T) : RD K E (rEqU K) T d1 d2 P := RD.l fun F σ ds H v1 v2 Q ok i1 i2 q =>
  ⟨a, b, h1.dp ok i1, h2.dp ok i2, s1, s2, q.ret ok p (.bl _)⟩
theorem rd_ne {a b : PyData} (h1 : Dv T d1 a) (h2 : Dv T d2 b) (s1 : SeqAt.shaped a = true) (s2 : SeqAt.shaped b = true) (p : P (.bl (!PyData.eqv a b)) T) : RD K E (rNeU K) T d1 d2 P := RD.l fun F σ ds H v1 v2 Q ok i1 i2 q =>
  ⟨a, b, h1.dp ok i1, h2.dp ok i2, s1, s2, q.ret ok p (.bl _)⟩
theorem eqv_int (i j : Int) : PyData.eqv (.int i) (.int j) = decide (i = j) := by
  simp only [PyData.eqv]
  by_cases h : i = j
  · subst h; simp
  · rw [decide_eq_false h]
    exact beq_eq_false_iff_ne.mpr h
theorem shaped_int (i : Int) : SeqAt.shaped (.int i) = true := by simp [SeqAt.shaped, PyData.canLay0, PyData.depth]
theorem rd_eqI (p : P (.bl (decide (i = j))) T) : RD K E (rEqU K) T (.int i) (.int j) P := by
  have h : ∀ i : Int, Dv T (.int i) (.int i) := fun i => by
    have := Dv.p (T := T) (d := .int i) (by simp)
    rwa [D.py_int] at this
  refine rd_eq (h i) (h j) (shaped_int i) (shaped_int j) ?_
  rw [eqv_int]
  exact p
theorem rd_neI (p : P (.bl (!decide (i = j))) T) : RD K E (rNeU K) T (.int i) (.int j) P := by
  have h : ∀ i : Int, Dv T (.int i) (.int i) := fun i => by
    have := Dv.p (T := T) (d := .int i) (by simp)
    rwa [D.py_int] at this
  refine rd_ne (h i) (h j) (shaped_int i) (shaped_int j) ?_
  rw [eqv_int]
  exact p
/-- a text and itself -/
theorem rd_eqS {x : Str} (p : P (.bl true) T) : RD K E (rEqU K) T (.str x) (.str x) P := RD.r fun F σ ds H v1 v2 Q ok i1 i2 q => by
  cases i1
  cases i2
  refine ⟨rfl, ?_⟩
  rw [decide_eq_true rfl]
  exact q.ret ok p (.bl _)
theorem rd_in {a : PyData} {bs : List PyData} (h1 : Dv T d1 a) (h2 : Dv T d2 (.list bs)) (s1 : SeqAt.shaped a = true) (s2 : SeqAt.shaped (.list bs) = true) (p : P (.bl (bs.any fun z => PyData.eqv z a)) T) : RD K E (rInU K) T d1 d2 P :=
  RD.l fun F σ ds H v1 v2 Q ok i1 i2 q => ⟨a, bs, h1.dp ok i1, h2.dp ok i2, s1, s2, q.ret ok p (.bl _)⟩
theorem rd_nin {a : PyData} {bs : List PyData} (h1 : Dv T d1 a) (h2 : Dv T d2 (.list bs)) (s1 : SeqAt.shaped a = true) (s2 : SeqAt.shaped (.list bs) = true) (p : P (.bl (!bs.any fun z => PyData.eqv z a)) T) : RD K E (rNinU K) T d1 d2 P :=
  RD.l fun F σ ds H v1 v2 Q ok i1 i2 q => ⟨a, bs, h1.dp ok i1, h2.dp ok i2, s1, s2, q.ret ok p (.bl _)⟩
/-- x in a list of ints -/
theorem any_int (i : Int) (ns : List Int) : ((ns.map PyData.int).any fun z => PyData.eqv z (.int i)) = decide (i ∈ ns) := by
  induction ns with
  | nil => rfl
  | cons n ns ih =>
    rw [List.map_cons, List.any_cons, ih, eqv_int]
    by_cases h : n = i
    · subst h; simp
    · simp [h, show ¬ i = n from fun z => h z.symm]
theorem shaped_ints (ns : List Int) : SeqAt.shaped (.list (ns.map PyData.int)) = true := by
  have h := all_fit (n := 0) (k := 0) (xs := []) (by simp)
  have : ∀ ns : List Int, PyData.canLayAll0 (ns.map PyData.int) = true ∧ PyData.depthAll (ns.map PyData.int) = 0 := fun ns => by
    induction ns with
    | nil => simp [PyData.canLayAll0, PyData.depthAll]
    | cons n ns ih => simp [PyData.canLayAll0, PyData.depthAll, PyData.canLay0, PyData.depth, ih.1, ih.2]
  simp [SeqAt.shaped, PyData.canLay0, PyData.depth, (this ns).1, (this ns).2]
theorem dv_int (i : Int) : Dv T (.int i) (.int i) := by
  have := Dv.p (T := T) (d := .int i) (by simp)
  rwa [D.py_int] at this
theorem map_py_int (ns : List Int) : (ns.map D.int).map D.py = ns.map PyData.int := by
  rw [List.map_map]
  exact List.map_congr_left fun x _ => by simp
theorem dv_of_lv {d : D} {xs : List D} (l : LV T d xs) (hp : ∀ x ∈ xs, x.plain = true) : Dv T d (.list (xs.map D.py)) := by
  cases l with
  | f =>
    have := Dv.p (T := T) (d := .lst xs) (by rw [D.plain_lst]; exact hp)
    rwa [D.py_lst] at this
  | r =>
    have := Dv.p (T := T) (d := .frl xs) (by rw [D.plain]; exact D.plains_iff.mpr hp)
    rwa [D.py, D.pys_map] at this
  | o h1 h2 => exact .o h1 h2 hp
theorem rd_inI {ns : List Int} (l : LV T d2 (ns.map D.int)) (p : P (.bl (decide (i ∈ ns))) T) : RD K E (rInU K) T (.int i) d2 P := by
  have h := dv_of_lv l (fun x hx => by obtain ⟨n, _, rfl⟩ := List.mem_map.mp hx; simp)
  rw [map_py_int] at h
  refine rd_in (dv_int i) h (shaped_int i) (shaped_ints ns) ?_
  rw [any_int]
  exact p
theorem rd_ninI {ns : List Int} (l : LV T d2 (ns.map D.int)) (p : P (.bl (!decide (i ∈ ns))) T) : RD K E (rNinU K) T (.int i) d2 P := by
  have h := dv_of_lv l (fun x hx => by obtain ⟨n, _, rfl⟩ := List.mem_map.mp hx; simp)
  rw [map_py_int] at h
  refine rd_nin (dv_int i) h (shaped_int i) (shaped_ints ns) ?_
  rw [any_int]
  exact p
/-! ### +, * of lists and tuples -/
theorem rd_catT (hl : xs.length + ys.length ≤ 100000) (p : P (.tup (xs ++ ys)) T) : RD K E (rAdd K) T (.tup xs) (.tup ys) P := RD.r (RD.l fun F σ ds H v1 v2 Q ok i1 i2 q => by
  obtain ⟨a, vs, rfl, h1, t1⟩ := i1.tupT
  obtain ⟨b, ws, rfl, h2, t2⟩ := i2.tupT
  refine ⟨a, b, vs, ws, rfl, rfl, st_of (ok.p.fh _ _ h1), st_of (ok.p.fh _ _ h2), by rw [t1.len, t2.len]; exact sz_of hl, fun e => ?_, fun _ e => ?_, fun _ _ pp hp => ?_⟩
  · subst e
    cases t1
    exact q.ret ok p (.tup h2 t2)
  · subst e
    cases t2
    refine q.ret ok p (.tup h1 ?_)
    rw [List.append_nil]
    exact t1
  · exact q.newF' ok hp p fun e => .tup upd_same ((t1.append t2).mono e))
theorem rd_catL (l1 : LW T d1 xs) (l2 : LW T d2 ys) (hl : xs.length + ys.length ≤ 100000) (p : P (.lst (xs ++ ys)) T) : RD K E (rAdd K) T d1 d2 P := RD.r (RD.r (RD.l fun F σ ds H v1 v2 Q ok i1 i2 q => by
  obtain ⟨a, vs, rfl, h1, t1⟩ := l1.trk ok i1
  obtain ⟨b, ws, rfl, h2, t2⟩ := l2.trk ok i2
  exact ⟨a, b, vs, ws, rfl, rfl, h1, h2, by rw [t1.len, t2.len]; exact sz_of hl, fun pp hp => q.newF' ok hp p fun e => .lst upd_same ((t1.append t2).mono e)⟩))
theorem rd_catLO (l1 : LW T d1 xs) (l2 : LW T d2 ys) (hl : xs.length + ys.length ≤ 100000) (p : ∀ a, P (.adr a) (⟨a, true, .lst (xs ++ ys)⟩ :: T)) : RD K E (rAdd K) T d1 d2 P := RD.r (RD.r (RD.l fun F σ ds H v1 v2 Q ok i1 i2 q => by
  obtain ⟨a, vs, rfl, h1, t1⟩ := l1.trk ok i1
  obtain ⟨b, ws, rfl, h2, t2⟩ := l2.trk ok i2
  exact ⟨a, b, vs, ws, rfl, rfl, h1, h2, by rw [t1.len, t2.len]; exact sz_of hl, fun pp hp => q.newO ok hp (p pp) ⟨vs ++ ws, upd_same, t1.append t2⟩⟩))
/-! ### items, slices -/
theorem rd_ixL (l : LV T d1 xs) (e : atI xs i = some d) (p : P d T) : RD K E (rIx K) T d1 (.int i) P := fun F σ ds H v1 v2 Q ok i1 i2 q => by
  obtain ⟨a, vs, rfl, h1, t1⟩ := l.sq ok i1
  cases i2
  obtain ⟨v, e1, iv⟩ := atI_is t1 e
  exact .inl ⟨a, vs, i, v, rfl, rfl, h1, e1, q.ret ok p iv⟩
theorem rd_ixT (e : atI xs i = some d) (p : P d T) : RD K E (rIx K) T (.tup xs) (.int i) P := fun F σ ds H v1 v2 Q ok i1 i2 q => by
  obtain ⟨a, vs, rfl, h1, t1⟩ := i1.tupE
  cases i2
  obtain ⟨v, e1, iv⟩ := atI_is t1 e
  exact .inr (.inl ⟨a, vs, i, v, rfl, rfl, ex_t ok.p.fh h1, e1, q.ret ok p iv⟩)
def cutX {α : Type} (xs : List α) (lo hi : Option Int) : List α := (xs.drop (HT.sIx xs.length 0 lo)).take (HT.sIx xs.length xs.length hi - HT.sIx xs.length 0 lo)
theorem cut_is {vs : List V} (h : IsA K F vs xs) (lo hi : Option Int) : IsA K F (cutV vs lo hi) (cutX xs lo hi) := by
  unfold cutV cutX
  rw [h.len]
  exact (h.drop _).take _
theorem rs_L {lo hi : Option Int} (l : LV T d xs) (p : P (.lst (cutX xs lo hi)) T) : RS K E (rSlU K) T d lo hi P := fun F σ ds H v Q ok i q => by
  obtain ⟨a, vs, rfl, h1, t1⟩ := l.sq ok i
  exact .inl ⟨a, vs, rfl, h1, fun pp hp => q.newF' ok hp p fun e => .lst upd_same ((cut_is t1 lo hi).mono e)⟩
theorem rs_LO {lo hi : Option Int} (l : LV T d xs) (p : ∀ a, P (.adr a) (⟨a, true, .lst (cutX xs lo hi)⟩ :: T)) : RS K E (rSlU K) T d lo hi P := fun F σ ds H v Q ok i q => by
  obtain ⟨a, vs, rfl, h1, t1⟩ := l.sq ok i
  exact .inl ⟨a, vs, rfl, h1, fun pp hp => q.newO ok hp (p pp) ⟨_, upd_same, cut_is t1 lo hi⟩⟩
theorem rs_T {lo hi : Option Int} (p : P (.tup (cutX xs lo hi)) T) : RS K E (rSlU K) T (.tup xs) lo hi P := fun F σ ds H v Q ok i q => by
  obtain ⟨a, vs, rfl, h1, t1⟩ := i.tupT
  refine .inr ⟨a, vs, rfl, st_of (ok.p.fh _ _ h1), fun hw => ?_, fun _ pp hp => q.newF' ok hp p fun e => .tup upd_same ((cut_is t1 lo hi).mono e)⟩
  have e : cutX xs lo hi = xs := by
    unfold cutX
    rw [t1.len] at hw
    rw [hw.1, hw.2, List.drop_zero, Nat.sub_zero, List.take_length]
  rw [e] at p
  exact q.ret ok p (.tup h1 t1)
def AO (K : PySem.W.Frag) (E : Ent) (to : TO) (ds : Sls) (T : Tb) (P : Option Int → Tb → Prop) : Prop :=
  ∀ F σ H (Q : Option Int → Hp → Prop), Ok K E F ds T σ H → (∀ b T' F' H', P b T' → Ok K E F' ds T' σ H' → Fr T F H T' F' H' → (∀ x o, H x = some o → ∃ o', H' x = some o') → Q b H') → to σ H Q
variable {te ta tb : TE} {tr : TA}
theorem ao_none {P : Option Int → Tb → Prop} (p : P none T) : AO K E tNoPart ds T P := fun F σ H Q ok q => q none T F H p ok (Fr.refl T F H) id_al
theorem ao_some {P : Option Int → Tb → Prop} (h : AE K E te ds T fun d T' => ∃ i, d = .int i ∧ P (some i) T') : AO K E (tPart te) ds T P := fun F σ H Q ok q =>
  h F σ H _ ok fun v d T1 F1 H1 ⟨i, hd, h1⟩ ok1 fr1 al1 iv => by
    subst hd
    cases iv
    exact ⟨i, rfl, q (some i) T1 F1 H1 h1 ok1 fr1 al1⟩
theorem ae_sl {r : V → Option Int → Option Int → Hp → VK → Prop} {tl th : TO} (h : AE K E te ds T fun d T1 => AO K E tl ds T1 fun lo T2 => AO K E th ds T2 fun hi T3 => RS K E r T3 d lo hi P) : AE K E (tSl r te tl th) ds T P := fun F σ H Q ok q =>
  h F σ H _ ok fun v d T1 F1 H1 p1 ok1 fr1 al1 i => p1 F1 σ H1 _ ok1 fun lo T2 F2 H2 p2 ok2 fr2 al2 => p2 F2 σ H2 _ ok2 fun hi T3 F3 H3 p3 ok3 fr3 al3 =>
    p3 F3 σ ds H3 v Q ok3 (i.mono (fr2.ff.trans fr3.ff)) (((q.step fr1 al1).step fr2 al2).step fr3 al3)
theorem ae_revL (h : AE K E te ds T fun d T1 => ∃ xs, LV T1 d xs ∧ P (.lst xs.reverse) T1) : AE K E (tRevL K te) ds T P := fun F σ H Q ok q =>
  h F σ H _ ok fun v d T1 F1 H1 ⟨xs, l, p⟩ ok1 fr1 al1 i => by
    obtain ⟨a, vs, rfl, h1, t1⟩ := l.sq ok1 i
    exact ⟨a, vs, rfl, h1, fun pp hp => (q.step fr1 al1).newF' ok1 hp p fun e => .lst upd_same (t1.reverse.mono e)⟩
theorem ae_revLO (h : AE K E te ds T fun d T1 => ∃ xs, LV T1 d xs ∧ ∀ a, P (.adr a) (⟨a, true, .lst xs.reverse⟩ :: T1)) : AE K E (tRevL K te) ds T P := fun F σ H Q ok q =>
  h F σ H _ ok fun v d T1 F1 H1 ⟨xs, l, p⟩ ok1 fr1 al1 i => by
    obtain ⟨a, vs, rfl, h1, t1⟩ := l.sq ok1 i
    exact ⟨a, vs, rfl, h1, fun pp hp => (q.step fr1 al1).newO ok1 hp (p pp) ⟨_, upd_same, t1.reverse⟩⟩
/-! ### built-ins -/
abbrev rLenU (K : PySem.W.Frag) : List V → Hp → VK → Prop := fun xs H Q => ∃ p ys, xs = [.ref p] ∧ (SqL K H p ys ∨ SqT K H p ys) ∧ Q (.int ys.length) H
theorem rc_lenL (l : LV T d xs) (p : P (.int xs.length) T) : RC K E (rLenU K) T [d] P := fun F σ ds H vs Q ok i q => by
  cases i with
  | cons i t =>
    cases t
    obtain ⟨a, vs, rfl, h1, t1⟩ := l.sq ok i
    refine ⟨a, vs, rfl, .inl h1, ?_⟩
    rw [t1.len]
    exact q.ret ok p (.int _)
theorem rc_lenT (p : P (.int xs.length) T) : RC K E (rLenU K) T [.tup xs] P := fun F σ ds H vs Q ok i q => by
  cases i with
  | cons i t =>
    cases t
    obtain ⟨a, vs, rfl, h1, t1⟩ := i.tupE
    refine ⟨a, vs, rfl, .inr (ex_t ok.p.fh h1), ?_⟩
    rw [t1.len]
    exact q.ret ok p (.int _)
abbrev rListU (K : PySem.W.Frag) : List V → Hp → VK → Prop := fun xs H Q => ∃ p ys, xs = [.ref p] ∧ (SqL K H p ys ∨ SqT K H p ys) ∧ ∀ l, H l = none → Q (.ref l) (upd H l (.lst ys))
theorem rc_listL (l : LV T d xs) (p : P (.lst xs) T) : RC K E (rListU K) T [d] P := fun F σ ds H vs Q ok i q => by
  cases i with
  | cons i t =>
    cases t
    obtain ⟨a, vs, rfl, h1, t1⟩ := l.sq ok i
    exact ⟨a, vs, rfl, .inl h1, fun pp hp => q.newF' ok hp p fun e => .lst upd_same (t1.mono e)⟩
theorem rc_listLO (l : LV T d xs) (p : ∀ a, P (.adr a) (⟨a, true, .lst xs⟩ :: T)) : RC K E (rListU K) T [d] P := fun F σ ds H vs Q ok i q => by
  cases i with
  | cons i t =>
    cases t
    obtain ⟨a, vs, rfl, h1, t1⟩ := l.sq ok i
    exact ⟨a, vs, rfl, .inl h1, fun pp hp => q.newO ok hp (p pp) ⟨_, upd_same, t1⟩⟩
abbrev rTupleU (K : PySem.W.Frag) : List V → Hp → VK → Prop := fun xs H Q => ∃ p ys, xs = [.ref p] ∧ ((SqL K H p ys ∧ ∀ l, H l = none → Q (.ref l) (upd H l (.tup ys))) ∨ (SqT K H p ys ∧ Q (.ref p) H))
theorem rc_tupL (l : LV T d xs) (p : P (.tup xs) T) : RC K E (rTupleU K) T [d] P := fun F σ ds H vs Q ok i q => by
  cases i with
  | cons i t =>
    cases t
    obtain ⟨a, vs, rfl, h1, t1⟩ := l.sq ok i
    exact ⟨a, vs, rfl, .inl ⟨h1, fun pp hp => q.newF' ok hp p fun e => .tup upd_same (t1.mono e)⟩⟩
abbrev rMin2 : List V → Hp → VK → Prop := fun xs H Q => ∃ i j, xs = [.int i, .int j] ∧ Q (.int (if j < i then j else i)) H
theorem rc_min2 (p : P (.int (min i j)) T) : RC K E rMin2 T [.int i, .int j] P := fun F σ ds H vs Q ok h q => by
  cases h with
  | cons h1 t =>
    cases h1
    cases t with
    | cons h2 t =>
      cases h2
      cases t
      refine ⟨i, j, rfl, ?_⟩
      have e : (if j < i then j else i) = min i j := by
        by_cases z : j < i
        · rw [if_pos z]; omega
        · rw [if_neg z]; omega
      rw [e]
      exact q.ret ok p (.int _)
abbrev rAbs : List V → Hp → VK → Prop := fun xs H Q => ∃ i, xs = [.int i] ∧ Q (.int (if i < 0 then -i else i)) H
theorem rc_abs (p : P (.int (i.natAbs : Int)) T) : RC K E rAbs T [.int i] P := fun F σ ds H vs Q ok h q => by
  cases h with
  | cons h1 t =>
    cases h1
    cases t
    refine ⟨i, rfl, ?_⟩
    have e : (if i < 0 then -i else i) = (i.natAbs : Int) := by
      by_cases z : i < 0
      · rw [if_pos z]; omega
      · rw [if_neg z]; omega
    rw [e]
    exact q.ret ok p (.int _)
abbrev rInt1 : List V → Hp → VK → Prop := fun xs H Q => (∃ i, xs = [.int i] ∧ Q (.int i) H) ∨ ∃ k, xs = [.bl k] ∧ Q (.int (if k then 1 else 0)) H
theorem rc_int (p : P (.int i) T) : RC K E rInt1 T [.int i] P := fun F σ ds H vs Q ok h q => by
  cases h with
  | cons h1 t =>
    cases h1
    cases t
    exact .inl ⟨i, rfl, q.ret ok p (.int _)⟩
theorem rc_intB {b : Bool} (p : P (.int (if b then 1 else 0)) T) : RC K E rInt1 T [.bl b] P := fun F σ ds H vs Q ok h q => by
  cases h with
  | cons h1 t =>
    cases h1
    cases t
    exact .inr ⟨b, rfl, q.ret ok p (.int _)⟩
theorem rc_repr {a : PyData} (hv : Dv T d a) (sh : a.showable = true) (cl : a.canLay0 = true) (dep : a.depth ≤ 60) (sz : a.shown.length ≤ sizeLine) (p : P (.str a.shown) T) : RC K E (rRepr K) T [d] P := fun F σ ds H vs Q ok h q => by
  cases h with
  | cons h1 t =>
    cases t
    exact ⟨_, a, rfl, hv.dp ok h1, sh, cl, dep, sz, q.ret ok p (.str _)⟩
/-! ### methods -/
def TyL (T : Tb) (d : D) : Prop := ∃ xs, LV T d xs
theorem ty_list (l : LV T d xs) (ok : Ok K E F ds T σ H) (i : Is K F v d) : tyV K "list" v H := by
  obtain ⟨a, vs, rfl, h1, t1⟩ := l.sq ok i
  exact .inl ⟨rfl, vs, h1⟩
theorem ae_bmL {r : V → List V → Hp → VK → Prop} (h : AE K E ta ds T fun d T1 => (∃ xs, LV T1 d xs) ∧ AA K E tr ds T1 fun dd T2 => RM K E r T2 d dd P) : AE K E (tBM K "list" r ta tr) ds T P := fun F σ H Q ok q =>
  h F σ H _ ok fun v d T1 F1 H1 ⟨⟨xs, l⟩, p1⟩ ok1 fr1 al1 i => ⟨ty_list l ok1 i, p1 F1 σ H1 _ ok1 fun vs dd T2 F2 H2 p2 ok2 fr2 al2 i2 => p2 F2 σ ds H2 v vs Q ok2 (i.mono fr2.ff) i2 ((q.step fr1 al1).step fr2 al2)⟩
theorem ae_bm0L {r : V → List V → Hp → VK → Prop} (h : AE K E ta ds T fun d T1 => (∃ xs, LV T1 d xs) ∧ RM K E r T1 d [] P) : AE K E (tBM0 K "list" r ta) ds T P := fun F σ H Q ok q =>
  h F σ H _ ok fun v d T1 F1 H1 ⟨⟨xs, l⟩, p1⟩ ok1 fr1 al1 i => ⟨ty_list l ok1 i, p1 F1 σ ds H1 v [] Q ok1 i .nil (q.step fr1 al1)⟩
theorem Ok.lst_at {j : Nat} {a : Addr} {l : Bool} (ok : Ok K E F ds T σ H) (hj : T[j]? = some ⟨a, l, .lst xs⟩) : ∃ vs, H a = some (.lst vs) ∧ IsA K F vs xs := (ok.ow _ (List.mem_of_getElem? hj)).o
theorem rm_append {a : Addr} {l : Bool} (j : Nat) (hj : T[j]? = some ⟨a, l, .lst xs⟩) (hl : xs.length < 100000) (p : P .non (T.set j ⟨a, l, .lst (xs ++ [d])⟩)) : RM K E rAppend T (.adr a) [d] P := fun F σ ds H v vs Q ok i is q => by
  cases i
  cases is with
  | cons i1 t =>
    cases t
    obtain ⟨ws, h1, t1⟩ := ok.lst_at hj
    exact ⟨a, ws, _, rfl, rfl, h1, by rw [t1.len]; exact sz_lt hl, q.mut ok hj p ⟨_, upd_same, t1.append (.one i1)⟩ .non⟩
theorem rm_pop {a : Addr} {l : Bool} (j : Nat) (hj : T[j]? = some ⟨a, l, .lst xs⟩) (hl : xs.getLast? = some d) (p : P d (T.set j ⟨a, l, .lst xs.dropLast⟩)) : RM K E rPop T (.adr a) [] P := fun F σ ds H v vs Q ok i is q => by
  cases i
  cases is
  obtain ⟨ws, h1, t1⟩ := ok.lst_at hj
  rw [List.getLast?_eq_getElem?] at hl
  obtain ⟨w, e, iw⟩ := t1.get hl
  exact ⟨a, ws, w, rfl, rfl, h1, by rw [t1.len]; exact e, q.mut ok hj p ⟨_, upd_same, t1.dropLast⟩ iw⟩
theorem rm_reverse {a : Addr} {l : Bool} (j : Nat) (hj : T[j]? = some ⟨a, l, .lst xs⟩) (p : P .non (T.set j ⟨a, l, .lst xs.reverse⟩)) : RM K E rReverse T (.adr a) [] P := fun F σ ds H v vs Q ok i is q => by
  cases i
  cases is
  obtain ⟨ws, h1, t1⟩ := ok.lst_at hj
  exact ⟨a, ws, rfl, rfl, h1, q.mut ok hj p ⟨_, upd_same, t1.reverse⟩ .non⟩
/-! ### fields -/
/-- the field f of a frozen or owned instance -/
inductive FV (T : Tb) (f : Str) (d' : D) : D → Addr → Prop
  | f {C : Addr} {ns : List Str} {xs : List D} : (ns.zip xs).lookup f = some d' → FV T f d' (.ins C ns xs) C
  | o {j : Nat} {e : Ow} {C : Addr} {ns : List Str} {xs : List D} : T[j]? = some e → e.ob = .ins C ns xs → (ns.zip xs).lookup f = some d' → FV T f d' (.adr e.a) C
theorem lookup_is {ns : List Str} {f : Str} : ∀ {ns : List Str} {vs : List V} {xs : List D}, IsA K F vs xs → (ns.zip xs).lookup f = some d → ∃ v, (ns.zip vs).lookup f = some v ∧ Is K F v d
  | [], _, _, _, h => by simp at h
  | n :: ns, _, _, .nil, h => by simp at h
  | n :: ns, _, _, .cons (v := v) (d := d) i t, h => by
    rw [List.zip_cons_cons, List.lookup_cons] at h ⊢
    cases q : f == n with
    | true =>
      rw [q] at h
      cases h
      exact ⟨v, rfl, i⟩
    | false =>
      rw [q] at h
      exact lookup_is (ns := ns) t h
theorem ae_fld {f : Str} {C : Addr} (cl : Cls K C) (na : NoAttr K C f) (h : AE K E ta ds T fun d T1 => ∃ d', FV T1 f d' d C ∧ P d' T1) : AE K E (tFld K ta f) ds T P := fun F σ H Q ok q =>
  h F σ H _ ok fun v d T1 F1 H1 ⟨d', fv, p⟩ ok1 fr1 al1 i => by
    cases fv with
    | f hl =>
      cases i with
      | ins h1 h2 t =>
        obtain ⟨w, e, iw⟩ := lookup_is (ns := []) t hl
        exact ⟨_, _, _, _, w, rfl, ok1.p.fh _ _ h1, cl, na, e, (q.step fr1 al1).ret ok1 p iw⟩
    | @o j e _ ns xs hj he hl =>
      cases i
      have w := (ok1.ow e (List.mem_of_getElem? hj)).o
      rw [he] at w
      obtain ⟨dx, vs, h1, h2, t⟩ := w
      obtain ⟨w, e, iw⟩ := lookup_is (ns := []) t hl
      exact ⟨_, _, _, _, w, rfl, h1, cl, na, e, (q.step fr1 al1).ret ok1 p iw⟩
end
end AW

/-! AW: targets, statements, loops, comprehensions. -/
namespace AW
open PySem PySem.Spec PyProof.Rows L2 Evl

abbrev PS2 := Sls → Tb → Prop
section
variable {K : PySem.W.Frag} {E : Ent} {F H : Hp} {ds : Sls} {T : Tb} {σ : L2.St} {v : V} {d : D} {P : PD} {te tl : TE} {ta : TA} {t u tb : TS} {tt : TT} {g : TG} {gs : TGs} {N B C : PS2} {R : PD}

/-! ### targets: slots of is are stored -/
def Off (is : List Nat) (σ σ' : L2.St) : Prop := σ'.length = σ.length ∧ ∀ i, i ∉ is → σ'[i]? = σ[i]?
def AG (K : PySem.W.Frag) (E : Ent) (is : List Nat) (g : TG) (ds : Sls) (T : Tb) (d : D) (N : PS2) : Prop :=
  ∀ F σ H v (Q : L2.St → Hp → Prop), Ok K E F ds T σ H → Is K F v d → (∀ ds' σ', N ds' T → Ok K E F ds' T σ' H → Off is σ σ' → Q σ' H) → g v σ H Q
def AGs (K : PySem.W.Frag) (E : Ent) (is : List Nat) (g : TGs) (ds : Sls) (T : Tb) (dd : List D) (N : PS2) : Prop :=
  ∀ F σ H vs (Q : L2.St → Hp → Prop), Ok K E F ds T σ H → IsA K F vs dd → (∀ ds' σ', N ds' T → Ok K E F ds' T σ' H → Off is σ σ' → Q σ' H) → g vs σ H Q
theorem ag_name {i : Nat} (h : N (ds.set i (some d)) T) : AG K E [i] (gName i) ds T d N := fun F σ H v Q ok iv q =>
  q _ _ h (ok.slot iv i) ⟨by rw [List.length_set], fun j hj => List.getElem?_set_ne (fun z => hj (by rw [z]; exact List.mem_cons_self ..))⟩
theorem ags_nil (h : N ds T) : AGs K E [] gNil ds T [] N := fun F σ H vs Q ok iv q => by
  cases iv
  exact ⟨rfl, q ds σ h ok ⟨rfl, fun _ _ => rfl⟩⟩
theorem ags_cons {is js : List Nat} {dd : List D} (h : AG K E is g ds T d fun ds1 T1 => AGs K E js gs ds1 T1 dd N) : AGs K E (is ++ js) (gCons g gs) ds T (d :: dd) N := fun F σ H vs Q ok iv q => by
  cases iv with
  | cons i1 i2 =>
    exact ⟨_, _, rfl, h F σ H _ _ ok i1 fun ds1 σ1 p1 ok1 e1 => p1 F σ1 H _ _ ok1 i2 fun ds2 σ2 p2 ok2 e2 => q ds2 σ2 p2 ok2 ⟨e2.1.trans e1.1, fun j hj =>
      (e2.2 j fun z => hj (List.mem_append_right _ z)).trans (e1.2 j fun z => hj (List.mem_append_left _ z))⟩⟩
theorem ag_tup {is : List Nat} {dd : List D} {n : Nat} (hn : dd.length = n) (h : AGs K E is gs ds T dd N) : AG K E is (gTup K n gs) ds T (.tup dd) N := fun F σ H v Q ok iv q => by
  obtain ⟨a, vs, rfl, h1, t1⟩ := iv.tupE
  exact ⟨a, vs, rfl, ex_t ok.p.fh h1, by rw [t1.len]; exact hn, h F σ H vs Q ok t1 q⟩

/-! ### statements -/
structure Cont (K : PySem.W.Frag) (E : Ent) (F : Hp) (D : Ends) (N : PS2) (R : PD) (B C : PS2) : Prop where
  n : ∀ ds' T' F' σ' H', N ds' T' → Ok K E F' ds' T' σ' H' → Ex F F' → D.nx σ' H'
  r : ∀ d T' v F' ds' σ' H', R d T' → Ok K E F' ds' T' σ' H' → Ex F F' → Is K F' v d → D.rt v H'
  b : ∀ ds' T' F' σ' H', B ds' T' → Ok K E F' ds' T' σ' H' → Ex F F' → D.bk σ' H'
  c : ∀ ds' T' F' σ' H', C ds' T' → Ok K E F' ds' T' σ' H' → Ex F F' → D.ct σ' H'
theorem Cont.up {F' : Hp} {D : Ends} (k : Cont K E F D N R B C) (e : Ex F F') : Cont K E F' D N R B C :=
  ⟨fun a b c x y p ok q => k.n a b c x y p ok (e.trans q), fun a b c x y z w p ok q => k.r a b c x y z w p ok (e.trans q), fun a b c x y p ok q => k.b a b c x y p ok (e.trans q), fun a b c x y p ok q => k.c a b c x y p ok (e.trans q)⟩
def AS (K : PySem.W.Frag) (E : Ent) (t : TS) (ds : Sls) (T : Tb) (N : PS2) (R : PD) (B C : PS2) : Prop := ∀ F σ H (D : Ends), Ok K E F ds T σ H → Cont K E F D N R B C → t D σ H
theorem as_next (h : N ds T) : AS K E tNext ds T N R B C := fun F σ H D ok k => k.n ds T F σ H h ok (Ex.refl F)
theorem as_seq (h : AS K E t ds T (fun ds' T' => AS K E u ds' T' N R B C) R B C) : AS K E (tSeq t u) ds T N R B C := fun F σ H D ok k =>
  h F σ H _ ok ⟨fun ds' T' F' σ' H' p ok' e => p F' σ' H' D ok' (k.up e), k.r, k.b, k.c⟩
theorem as_asgG {is : List Nat} (h : AE K E te ds T fun d T' => AG K E is g ds T' d N) : AS K E (tAsg te g) ds T N R B C := fun F σ H D ok k =>
  h F σ H _ ok fun v d T' F' H' p ok' fr al iv => p F' σ H' v _ ok' iv fun ds2 σ2 p2 ok2 _ => k.n ds2 T' F' σ2 H' p2 ok2 fr.ff
theorem as_asg {i : Nat} (h : AE K E te ds T fun d T' => N (ds.set i (some d)) T') : AS K E (tAsg te (gName i)) ds T N R B C := as_asgG (is := [i]) (h.imp fun d T' p => ag_name p)
theorem as_ret (h : AE K E te ds T R) : AS K E (tRet te) ds T N R B C := fun F σ H D ok k => h F σ H _ ok fun v d T' F' H' p ok' fr al iv => k.r d T' v F' ds σ H' p ok' fr.ff iv
theorem as_retN (h : R .non T) : AS K E tRetN ds T N R B C := fun F σ H D ok k => k.r .non T .non F ds σ H h ok (Ex.refl F) .non
theorem as_drop (h : AE K E te ds T fun _ T' => N ds T') : AS K E (tDrop te) ds T N R B C := fun F σ H D ok k => h F σ H _ ok fun v d T' F' H' p ok' fr al iv => k.n ds T' F' σ H' p ok' fr.ff
theorem as_brk (h : B ds T) : AS K E tBreak ds T N R B C := fun F σ H D ok k => k.b ds T F σ H h ok (Ex.refl F)
theorem as_cont (h : C ds T) : AS K E tCont ds T N R B C := fun F σ H D ok k => k.c ds T F σ H h ok (Ex.refl F)
theorem as_if (h : AT K E tt ds T fun b T' => (b = true → AS K E t ds T' N R B C) ∧ (b = false → AS K E u ds T' N R B C)) : AS K E (tIfS tt t u) ds T N R B C := fun F σ H D ok k =>
  h F σ H _ ok fun b T' F' H' p ok' fr al => by
    cases b with
    | true => exact p.1 rfl F' σ H' D ok' (k.up fr.ff)
    | false => exact p.2 rfl F' σ H' D ok' (k.up fr.ff)
theorem AS.imp {N' : PS2} (h : AS K E t ds T N R B C) (k : ∀ ds' T', N ds' T' → N' ds' T') : AS K E t ds T N' R B C := fun F σ H D ok c => h F σ H D ok ⟨fun a b x y z p => c.n a b x y z (k a b p), c.r, c.b, c.c⟩
/-- x op= e -/
theorem as_aug {i : Nat} {d0 : D} {r : R2} (hx : ds[i]? = some (some d0)) (h : AE K E te ds T fun d T' => RD K E r T' d0 d fun d' T2 => N (ds.set i (some d')) T2) : AS K E (tAug i te r) ds T N R B C := fun F σ H D ok k => by
  obtain ⟨v0, h1, h2⟩ := ok.sl i d0 hx
  refine ⟨v0, h1, h F σ H _ ok fun v d T' F' H' p ok' fr al iv => p F' σ ds H' v0 v _ ok' (h2.mono fr.ff) iv fun v2 d2 T2 F2 H2 p2 ok2 fr2 al2 iv2 => ?_⟩
  exact k.n _ T2 F2 _ H2 p2 (ok2.slot iv2 i) (fr.ff.trans fr2.ff)

/-! ### loops -/
theorem as_forL {is : List Nat} (h : AE K E tl ds T fun d T1 => ∃ xs, LV T1 d xs ∧ ∃ I : Nat → PS2, I 0 ds T1 ∧ (∀ i ds' T', i ≤ xs.length → I i ds' T' → LV T' d xs) ∧
      (∀ i x ds' T', xs[i]? = some x → I i ds' T' → AG K E is g ds' T' x fun ds2 T2 => AS K E tb ds2 T2 (I (i + 1)) R N (I (i + 1))) ∧ ∀ ds' T', I xs.length ds' T' → N ds' T') :
    AS K E (tFor (iList K tl) g tb) ds T N R B C := fun F σ H D ok k => h F σ H _ ok fun v d T1 F1 H1 ⟨xs, l, I, i0, il, ist, iend⟩ ok1 fr1 al1 iv => by
  obtain ⟨a, vs, rfl, h1, t1⟩ := l.sq ok1 iv
  refine ⟨a, rfl, ⟨vs, h1⟩, fun i m σ' H' => ∃ ds' T' F', I i ds' T' ∧ Ok K E F' ds' T' σ' H' ∧ Ex F1 F' ∧ i ≤ xs.length ∧ m = xs.length - i, ⟨_, ds, T1, F1, i0, ok1, Ex.refl F1, Nat.zero_le _, rfl⟩, ?_⟩
  rintro i m σ' H' ⟨ds', T', F', p, ok', e, hi, rfl⟩
  obtain ⟨b, ws, eb, hb, tw⟩ := (il i ds' T' hi p).sq ok' (iv.mono e)
  cases eb
  by_cases hlt : i < xs.length
  · obtain ⟨w, hw, iw⟩ := tw.get (List.getElem?_eq_getElem hlt)
    refine .inr ⟨⟨ws, w, hb, hw⟩, fun σ2 H2 => ∃ ds2 T2 F2, I (i + 1) ds2 T2 ∧ Ok K E F2 ds2 T2 σ2 H2 ∧ Ex F1 F2, ?_, ?_⟩
    · rintro σ2 H2 ⟨ds2, T2, F2, p2, ok2, e2⟩
      exact ⟨xs.length - (i + 1), by omega, ds2, T2, F2, p2, ok2, e2, hlt, rfl⟩
    · rintro x H2 ⟨rfl, hx⟩
      have hx2 : w = x := Option.some.inj (hw.symm.trans (hx ws hb))
      subst hx2
      refine ist i _ ds' T' (List.getElem?_eq_getElem hlt) p F' σ' H2 w _ ok' iw fun ds2 σ2 p2 ok2 _ => ?_
      exact p2 F' σ2 H2 _ ok2 ⟨fun ds3 T3 F3 σ3 H3 p3 ok3 e3 => ⟨ds3, T3, F3, p3, ok3, e.trans e3⟩, fun d3 T3 v3 F3 ds3 σ3 H3 p3 ok3 e3 => k.r d3 T3 v3 F3 ds3 σ3 H3 p3 ok3 ((fr1.ff.trans e).trans e3),
        fun ds3 T3 F3 σ3 H3 p3 ok3 e3 => k.n ds3 T3 F3 σ3 H3 p3 ok3 ((fr1.ff.trans e).trans e3), fun ds3 T3 F3 σ3 H3 p3 ok3 e3 => ⟨ds3, T3, F3, p3, ok3, e.trans e3⟩⟩
  · have hn : i = xs.length := by omega
    subst hn
    exact .inl ⟨⟨ws, hb, by rw [tw.len]; exact Nat.le_refl _⟩, k.n ds' T' F' σ' H' (iend ds' T' p) ok' (fr1.ff.trans e)⟩
theorem as_forT {is : List Nat} (h : AE K E tl ds T fun d T1 => ∃ xs, d = .tup xs ∧ ∃ I : Nat → PS2, I 0 ds T1 ∧
      (∀ i x ds' T', xs[i]? = some x → I i ds' T' → AG K E is g ds' T' x fun ds2 T2 => AS K E tb ds2 T2 (I (i + 1)) R N (I (i + 1))) ∧ ∀ ds' T', I xs.length ds' T' → N ds' T') :
    AS K E (tFor (iTup K tl) g tb) ds T N R B C := fun F σ H D ok k => h F σ H _ ok fun v d T1 F1 H1 ⟨xs, hd, I, i0, ist, iend⟩ ok1 fr1 al1 iv => by
  subst hd
  obtain ⟨a, vs, rfl, h1, t1⟩ := iv.tupE
  refine ⟨a, rfl, ⟨vs, ex_t ok1.p.fh h1⟩, for_tup (K := K) (a := a) (xs := vs) (fun i σ' H' => ∃ ds' T' F', I i ds' T' ∧ Ok K E F' ds' T' σ' H' ∧ Ex F1 F') ⟨ds, T1, F1, i0, ok1, Ex.refl F1⟩ ?_ ?_ ?_⟩
  · rintro i σ' H' hi ⟨ds', T', F', p, ok', e⟩
    exact ex_t ok'.p.fh (ex_t e h1)
  · rintro i x σ' H' hx ⟨ds', T', F', p, ok', e⟩
    obtain ⟨y, hy, iy⟩ := t1.getV hx
    refine ist i y ds' T' hy p F' σ' H' x _ ok' (iy.mono e) fun ds2 σ2 p2 ok2 _ => ?_
    exact p2 F' σ2 H' _ ok2 ⟨fun ds3 T3 F3 σ3 H3 p3 ok3 e3 => ⟨ds3, T3, F3, p3, ok3, e.trans e3⟩, fun d3 T3 v3 F3 ds3 σ3 H3 p3 ok3 e3 => k.r d3 T3 v3 F3 ds3 σ3 H3 p3 ok3 ((fr1.ff.trans e).trans e3),
        fun ds3 T3 F3 σ3 H3 p3 ok3 e3 => k.n ds3 T3 F3 σ3 H3 p3 ok3 ((fr1.ff.trans e).trans e3), fun ds3 T3 F3 σ3 H3 p3 ok3 e3 => ⟨ds3, T3, F3, p3, ok3, e.trans e3⟩⟩
  · rintro σ' H' ⟨ds', T', F', p, ok', e⟩
    rw [t1.len] at p
    exact k.n ds' T' F' σ' H' (iend ds' T' p) ok' (fr1.ff.trans e)
theorem forR_core {is : List Nat} {lo : Int} {n : Nat} {F0 F1 H1 : Hp} {T1 : Tb} {D : Ends} (I : Nat → PS2) (i0 : I 0 ds T1) (ok1 : Ok K E F1 ds T1 σ H1) (e0 : Ex F0 F1) (k : Cont K E F0 D N R B C)
    (ist : ∀ i ds' T', i < n → I i ds' T' → AG K E is g ds' T' (.int (lo + i)) fun ds2 T2 => AS K E tb ds2 T2 (I (i + 1)) R N (I (i + 1))) (iend : ∀ ds' T', I n ds' T' → N ds' T') :
    ∃ W : Nat → Nat → L2.St → Hp → Prop, (∃ m, W 0 m σ H1) ∧ ∀ i m σ H, W i m σ H →
      ((Itr lo n).stop i H ∧ D.nx σ H) ∨ ((Itr lo n).go i H ∧ ∃ N : L2.St → Hp → Prop, (∀ σ' H', N σ' H' → ∃ m', m' < m ∧ W (i + 1) m' σ' H') ∧ ∀ x H', (Itr lo n).yld i H x H' → g x σ H' fun σ2 H2 => tb { D with nx := N, ct := N, bk := D.nx } σ2 H2) := by
  refine for_range (lo := lo) (n := n) (fun i σ' H' => ∃ ds' T' F', I i ds' T' ∧ Ok K E F' ds' T' σ' H' ∧ Ex F1 F') ⟨ds, T1, F1, i0, ok1, Ex.refl F1⟩ ?_ ?_
  · rintro i σ' H' hi ⟨ds', T', F', p, ok', e⟩
    refine ist i ds' T' hi p F' σ' H' _ _ ok' (.int _) fun ds2 σ2 p2 ok2 _ => ?_
    exact p2 F' σ2 H' _ ok2 ⟨fun ds3 T3 F3 σ3 H3 p3 ok3 e3 => ⟨ds3, T3, F3, p3, ok3, e.trans e3⟩, fun d3 T3 v3 F3 ds3 σ3 H3 p3 ok3 e3 => k.r d3 T3 v3 F3 ds3 σ3 H3 p3 ok3 ((e0.trans e).trans e3),
        fun ds3 T3 F3 σ3 H3 p3 ok3 e3 => k.n ds3 T3 F3 σ3 H3 p3 ok3 ((e0.trans e).trans e3), fun ds3 T3 F3 σ3 H3 p3 ok3 e3 => ⟨ds3, T3, F3, p3, ok3, e.trans e3⟩⟩
  · rintro σ' H' ⟨ds', T', F', p, ok', e⟩
    exact k.n ds' T' F' σ' H' (iend ds' T' p) ok' (e0.trans e)
/-- for .. in range(n): n at most 2^61 in size -/
theorem as_forR {is : List Nat} (h : AA K E ta ds T fun dd T1 => ∃ n : Int, dd = [.int n] ∧ n.natAbs ≤ 2000000000000000000 ∧ ∃ I : Nat → PS2, I 0 ds T1 ∧
      (∀ i ds' T', i < n.toNat → I i ds' T' → AG K E is g ds' T' (.int (i : Int)) fun ds2 T2 => AS K E tb ds2 T2 (I (i + 1)) R N (I (i + 1))) ∧ ∀ ds' T', I n.toNat ds' T' → N ds' T') :
    AS K E (tFor (iRng1 ta) g tb) ds T N R B C := fun F σ H D ok k => h F σ H _ ok fun vs dd T1 F1 H1 ⟨n, hd, hn, I, i0, ist, iend⟩ ok1 fr1 al1 iv => by
  subst hd
  cases iv with
  | cons i1 t =>
    cases i1
    cases t
    refine ⟨n, rfl, by omega, by omega, forR_core (is := is) I i0 ok1 fr1.ff k (fun i ds' T' hi p => ?_) iend⟩
    rw [Int.zero_add]
    exact ist i ds' T' hi p
theorem as_forR2 {is : List Nat} (h : AA K E ta ds T fun dd T1 => ∃ lo n : Int, dd = [.int lo, .int n] ∧ lo.natAbs ≤ 2000000000000000000 ∧ n.natAbs ≤ 2000000000000000000 ∧ ∃ I : Nat → PS2, I 0 ds T1 ∧
      (∀ i ds' T', i < (n - lo).toNat → I i ds' T' → AG K E is g ds' T' (.int (lo + (i : Int))) fun ds2 T2 => AS K E tb ds2 T2 (I (i + 1)) R N (I (i + 1))) ∧ ∀ ds' T', I (n - lo).toNat ds' T' → N ds' T') :
    AS K E (tFor (iRng2 ta) g tb) ds T N R B C := fun F σ H D ok k => h F σ H _ ok fun vs dd T1 F1 H1 ⟨lo, n, hd, hlo, hn, I, i0, ist, iend⟩ ok1 fr1 al1 iv => by
  subst hd
  cases iv with
  | cons i1 t =>
    cases i1
    cases t with
    | cons i2 t =>
      cases i2
      cases t
      exact ⟨lo, n, rfl, ⟨by omega, by omega, by omega, by omega⟩, forR_core (is := is) I i0 ok1 fr1.ff k ist iend⟩
/-- while: m falls -/
theorem as_while (I : Nat → PS2) (m0 : Nat) (i0 : I m0 ds T)
    (ist : ∀ m ds' T', I m ds' T' → AT K E tt ds' T' fun b T2 => (b = true → AS K E tb ds' T2 (fun a b => ∃ m', m' < m ∧ I m' a b) R N (fun a b => ∃ m', m' < m ∧ I m' a b)) ∧ (b = false → N ds' T2)) :
    AS K E (tWhile tt tb) ds T N R B C := fun F σ H D ok k => by
  refine ⟨fun m σ' H' => ∃ ds' T' F', I m ds' T' ∧ Ok K E F' ds' T' σ' H' ∧ Ex F F', ⟨m0, ds, T, F, i0, ok, Ex.refl F⟩, ?_⟩
  rintro m σ' H' ⟨ds', T', F', p, ok', e⟩
  refine ist m ds' T' p F' σ' H' _ ok' fun b T2 F2 H2 p2 ok2 fr2 al2 => ?_
  cases b with
  | true =>
    refine ⟨fun σ3 H3 => ∃ m', m' < m ∧ ∃ ds3 T3 F3, I m' ds3 T3 ∧ Ok K E F3 ds3 T3 σ3 H3 ∧ Ex F F3, fun _ _ z => z, p2.1 rfl F2 σ' H2 _ ok2 ?_⟩
    have e2 := e.trans fr2.ff
    refine ⟨?_, fun d3 T3 v3 F3 ds3 σ3 H3 p3 ok3 e3 => k.r d3 T3 v3 F3 ds3 σ3 H3 p3 ok3 (e2.trans e3), fun ds3 T3 F3 σ3 H3 p3 ok3 e3 => k.n ds3 T3 F3 σ3 H3 p3 ok3 (e2.trans e3), ?_⟩
    · rintro ds3 T3 F3 σ3 H3 ⟨m', hm, p3⟩ ok3 e3
      exact ⟨m', hm, ds3, T3, F3, p3, ok3, e2.trans e3⟩
    · rintro ds3 T3 F3 σ3 H3 ⟨m', hm, p3⟩ ok3 e3
      exact ⟨m', hm, ds3, T3, F3, p3, ok3, e2.trans e3⟩
  | false => exact k.n ds' T2 F2 σ' H2 (p2.2 rfl) ok2 (e.trans fr2.ff)

/-! ### list comprehensions -/
def wipeD (ds : Sls) : List Nat → Sls
  | [] => ds
  | v :: vs => (wipeD ds vs).set v none
theorem Ok.reslot {ds2 : Sls} {σ2 : L2.St} {F2 H2 : Hp} {T2 : Tb} (ok : Ok K E F ds T σ H) (ok2 : Ok K E F2 ds2 T2 σ2 H2) (e : Ex F F2) : Ok K E F2 ds T2 σ H2 := ⟨ok2.p, ok.ln, ok.sl.mono e, ok2.ow, ok2.nd⟩
theorem Ok.wipe (ok : Ok K E F ds T σ H) : ∀ vs : List Nat, Ok K E F (wipeD ds vs) T (wipe σ vs) H
  | [] => ok
  | v :: vs => (ok.wipe vs).slot0 v
theorem wipe_len (σ : L2.St) : ∀ vs : List Nat, (wipe σ vs).length = σ.length
  | [] => rfl
  | v :: vs => by rw [wipe, List.length_set, wipe_len σ vs]
theorem wipe_off {σ : L2.St} {i : Nat} : ∀ {vs : List Nat}, i ∉ vs → (wipe σ vs)[i]? = σ[i]?
  | [], _ => rfl
  | v :: vs, h => by
    rw [wipe, List.getElem?_set_ne (fun z => h (by rw [z]; exact List.mem_cons_self ..))]
    exact wipe_off fun z => h (List.mem_cons_of_mem _ z)
theorem wipe_on {σ : L2.St} {i : Nat} (hi : i < σ.length) : ∀ {vs : List Nat}, i ∈ vs → (wipe σ vs)[i]? = some none
  | v :: vs, h => by
    rw [wipe]
    by_cases e : v = i
    · subst e
      exact List.getElem?_set_self (by rw [wipe_len]; exact hi)
    · rw [List.getElem?_set_ne e]
      exact wipe_on hi ((List.mem_cons.mp h).resolve_left fun z => e z.symm)
theorem wipe_eq {σ σ' : L2.St} {vs is : List Nat} (hl : σ'.length = σ.length) (hs : ∀ i ∈ is, i ∈ vs) (h : ∀ i, i ∉ is → σ'[i]? = (wipe σ vs)[i]?) : L2.wipe σ' vs = L2.wipe σ vs := by
  apply List.ext_getElem?
  intro i
  by_cases hv : i ∈ vs
  · by_cases hi : i < σ.length
    · rw [wipe_on hi hv, wipe_on (by omega) hv]
    · rw [List.getElem?_eq_none (by rw [wipe_len]; omega), List.getElem?_eq_none (by rw [wipe_len]; omega)]
  · rw [wipe_off hv, h i fun z => hv (hs i z)]
/-- the state within a comprehension: its list ahead of the table -/
def LcS (K : PySem.W.Frag) (E : Ent) (ds : Sls) (σ : L2.St) (T1 : Tb) (F1 H1 : Hp) (Dl : Addr) (J : Nat → List D → Tb → Prop) (i : Nat) (H' : Hp) : Prop :=
  ∃ F' T' acc, J i acc T' ∧ Ok K E F' ds (⟨Dl, true, .lst acc⟩ :: T') σ H' ∧ Fr T1 F1 H1 (⟨Dl, true, .lst acc⟩ :: T') F' H' ∧ ∀ x o, H1 x = some o → ∃ o', H' x = some o'
theorem lc_turn {vs is : List Nat} {T1 : Tb} {F1 H1 : Hp} {Dl : Addr} {J : Nat → List D → Tb → Prop} {i : Nat} {acc : List D} {F' H' : Hp} {T' : Tb} {x : D} {v : V} (hs : ∀ i ∈ is, i ∈ vs)
    (ok : Ok K E F' ds (⟨Dl, true, .lst acc⟩ :: T') σ H') (fr : Fr T1 F1 H1 (⟨Dl, true, .lst acc⟩ :: T') F' H') (al : ∀ x o, H1 x = some o → ∃ o', H' x = some o') (iv : Is K F' v x)
    (h : AG K E is g (wipeD ds vs) T' x fun ds2 T2 => AT K E tt ds2 T2 fun b T3 => if b = true then AE K E te ds2 T3 fun y T4 => acc.length < 100000 ∧ J (i + 1) (acc ++ [y]) T4 else J (i + 1) acc T3) :
    g v (wipe σ vs) H' fun σ2 H2 => wipe σ2 vs = wipe σ vs ∧ tt σ2 H2 fun b H3 => if b = true then te σ2 H3 fun y H4 => ∃ acc, H4 Dl = some (.lst acc) ∧ acc.length < sizeLine ∧
      LcS K E ds σ T1 F1 H1 Dl J (i + 1) (upd H4 Dl (.lst (acc ++ [y]))) else LcS K E ds σ T1 F1 H1 Dl J (i + 1) H3 := by
  refine h F' (wipe σ vs) H' v _ (ok.wipe vs).tail iv fun ds2 σ2 p2 ok2 off => ⟨wipe_eq (by rw [off.1, wipe_len]) hs off.2, ?_⟩
  refine p2 F' σ2 H' _ ok2 fun b T3 F3 H3 p3 ok3 fr3 al3 => ?_
  cases b with
  | true =>
    refine p3 F3 σ2 H3 _ ok3 ?_
    rintro y d T4 F4 H4 ⟨hlen, p4⟩ ok4 fr4 al4 iy
    have fr' := fr3.trans fr4 al3
    have al' : ∀ x o, H' x = some o → ∃ o', H4 x = some o' := fun x o hx => let ⟨o1, h1⟩ := al3 x o hx; al4 x o1 h1
    have okb := ok.back (ok.tail.reslot ok4 fr'.ff) fr'
    obtain ⟨ws, h1, t1⟩ := okb.lst_at (j := 0) rfl
    refine ⟨ws, h1, by rw [t1.len]; exact sz_lt hlen, ?_⟩
    refine ⟨F4, T4, acc ++ [d], p4, okb.mut (j := 0) rfl ⟨_, upd_same, t1.append (.one iy)⟩, (fr.trans fr'.back al).trans (Fr.mut (T := ⟨Dl, true, .lst acc⟩ :: T4) (j := 0) (e := ⟨Dl, true, .lst acc⟩) (ob := .lst (acc ++ [d])) (o := .lst (ws ++ [y])) rfl) fun x o hx => ?_, fun x o hx => ?_⟩
    · obtain ⟨o1, h1⟩ := al x o hx
      exact al' x o1 h1
    · obtain ⟨o1, h1⟩ := al x o hx
      obtain ⟨o2, h2⟩ := al' x o1 h1
      exact al_new x o2 h2
  | false =>
    have okb := ok.back (ok.tail.reslot ok3 fr3.ff) fr3
    exact ⟨F3, T3, acc, p3, okb, fr.trans fr3.back al, fun x o hx => let ⟨o1, h1⟩ := al x o hx; al3 x o1 h1⟩
/-- what a comprehension over n things leaves -/
abbrev LcP (J : Nat → List D → Tb → Prop) (n : Nat) (P : PD) : Prop := ∀ acc T' a, J n acc T' → P (.adr a) (⟨a, true, .lst acc⟩ :: T')
theorem ae_lcL {is vs : List Nat} (hs : ∀ i ∈ is, i ∈ vs) (h : AE K E tl ds T fun d T1 => ∃ xs, LV T1 d xs ∧ ∃ J : Nat → List D → Tb → Prop, J 0 [] T1 ∧ (∀ i acc T', i ≤ xs.length → J i acc T' → LV T' d xs) ∧
      (∀ i x acc T', xs[i]? = some x → J i acc T' → AG K E is g (wipeD ds vs) T' x fun ds2 T2 => AT K E tt ds2 T2 fun b T3 => if b = true then AE K E te ds2 T3 fun y T4 => acc.length < 100000 ∧ J (i + 1) (acc ++ [y]) T4 else J (i + 1) acc T3) ∧
      LcP J xs.length P) : AE K E (tLc (iList K tl) g tt te vs) ds T P := fun F σ H Q ok q => h F σ H _ ok fun v d T1 F1 H1 ⟨xs, l, J, j0, jl, jst, jend⟩ ok1 fr1 al1 iv => by
  obtain ⟨a, us, rfl, h1, t1⟩ := l.sq ok1 iv
  refine ⟨a, rfl, ⟨us, h1⟩, fun Dl hD => ⟨fun i m H' => LcS K E ds σ T1 F1 H1 Dl J i H' ∧ i ≤ xs.length ∧ m = xs.length - i, ⟨_, ⟨F1, T1, [], j0, ok1.newO hD ⟨[], upd_same, .nil⟩, Fr.newO hD, al_new⟩, Nat.zero_le _, rfl⟩, ?_⟩⟩
  rintro i m H' ⟨⟨F', T', acc, p, ok', fr', al'⟩, hi, rfl⟩
  obtain ⟨b, ws, eb, hb, tw⟩ := (jl i acc T' hi p).sq ok'.tail (iv.mono fr'.ff)
  cases eb
  by_cases hlt : i < xs.length
  · obtain ⟨w, hw, iw⟩ := tw.get (List.getElem?_eq_getElem hlt)
    refine .inr ⟨⟨ws, w, hb, hw⟩, fun H2 => LcS K E ds σ T1 F1 H1 Dl J (i + 1) H2, fun H2 z => ⟨xs.length - (i + 1), by omega, z, hlt, rfl⟩, ?_⟩
    rintro x H2 ⟨rfl, hx⟩
    have hx2 : w = x := Option.some.inj (hw.symm.trans (hx ws hb))
    subst hx2
    exact lc_turn hs ok' fr' al' iw (jst i _ acc T' (List.getElem?_eq_getElem hlt) p)
  · have hn : i = xs.length := by omega
    subst hn
    refine .inl ⟨⟨ws, hb, by rw [tw.len]; exact Nat.le_refl _⟩, ?_⟩
    exact (q.step fr1 al1) _ (.adr Dl) _ F' H' (jend acc T' Dl p) ok' fr' al' (.adr Dl)
theorem lcR_core {is vs : List Nat} {lo : Int} {n : Nat} {T1 : Tb} {F1 H1 : Hp} {Q : VK} (hs : ∀ i ∈ is, i ∈ vs) (J : Nat → List D → Tb → Prop) (j0 : J 0 [] T1) (ok1 : Ok K E F1 ds T1 σ H1)
    (jst : ∀ i acc T', i < n → J i acc T' → AG K E is g (wipeD ds vs) T' (.int (lo + i)) fun ds2 T2 => AT K E tt ds2 T2 fun b T3 => if b = true then AE K E te ds2 T3 fun y T4 => acc.length < 100000 ∧ J (i + 1) (acc ++ [y]) T4 else J (i + 1) acc T3)
    (q : Rs K E P ds T1 σ F1 H1 Q) (jend : LcP J n P) (Dl : Addr) (hD : H1 Dl = none) : ∃ W : Nat → Nat → Hp → Prop, (∃ m, W 0 m (upd H1 Dl (.lst []))) ∧ ∀ i m H, W i m H →
      ((Itr lo n).stop i H ∧ Q (.ref Dl) H) ∨ ((Itr lo n).go i H ∧ ∃ Nx : Hp → Prop, (∀ H', Nx H' → ∃ m', m' < m ∧ W (i + 1) m' H') ∧ ∀ x H', (Itr lo n).yld i H x H' → g x (wipe σ vs) H' fun σ2 H2 => wipe σ2 vs = wipe σ vs ∧ tt σ2 H2 fun b H3 =>
        if b = true then te σ2 H3 fun y H4 => ∃ acc, H4 Dl = some (.lst acc) ∧ acc.length < sizeLine ∧ Nx (upd H4 Dl (.lst (acc ++ [y]))) else Nx H3) := by
  refine lc_range (lo := lo) (n := n) (Qd := fun H => Q (.ref Dl) H) (fun i H' => LcS K E ds σ T1 F1 H1 Dl J i H') ⟨F1, T1, [], j0, ok1.newO hD ⟨[], upd_same, .nil⟩, Fr.newO hD, al_new⟩ ?_ ?_
  · rintro i H' hi ⟨F', T', acc, p, ok', fr', al'⟩
    exact lc_turn hs ok' fr' al' (.int _) (jst i acc T' hi p)
  · rintro H' ⟨F', T', acc, p, ok', fr', al'⟩
    exact q _ (.adr Dl) _ F' H' (jend acc T' Dl p) ok' fr' al' (.adr Dl)
theorem ae_lcR {is vs : List Nat} (hs : ∀ i ∈ is, i ∈ vs) (h : AA K E ta ds T fun dd T1 => ∃ n : Int, dd = [.int n] ∧ n.natAbs ≤ 2000000000000000000 ∧ ∃ J : Nat → List D → Tb → Prop, J 0 [] T1 ∧
      (∀ i acc T', i < n.toNat → J i acc T' → AG K E is g (wipeD ds vs) T' (.int (i : Int)) fun ds2 T2 => AT K E tt ds2 T2 fun b T3 => if b = true then AE K E te ds2 T3 fun y T4 => acc.length < 100000 ∧ J (i + 1) (acc ++ [y]) T4 else J (i + 1) acc T3) ∧
      LcP J n.toNat P) : AE K E (tLc (iRng1 ta) g tt te vs) ds T P := fun F σ H Q ok q => h F σ H _ ok fun us dd T1 F1 H1 ⟨n, hd, hn, J, j0, jst, jend⟩ ok1 fr1 al1 iv => by
  subst hd
  cases iv with
  | cons i1 t =>
    cases i1
    cases t
    refine ⟨n, rfl, by omega, by omega, fun Dl hD => lcR_core hs J j0 ok1 (fun i acc T' hi p => ?_) (q.step fr1 al1) jend Dl hD⟩
    rw [Int.zero_add]
    exact jst i acc T' hi p
theorem ae_lcT {is vs : List Nat} (hs : ∀ i ∈ is, i ∈ vs) (h : AE K E tl ds T fun d T1 => ∃ xs, d = .tup xs ∧ ∃ J : Nat → List D → Tb → Prop, J 0 [] T1 ∧
      (∀ i x acc T', xs[i]? = some x → J i acc T' → AG K E is g (wipeD ds vs) T' x fun ds2 T2 => AT K E tt ds2 T2 fun b T3 => if b = true then AE K E te ds2 T3 fun y T4 => acc.length < 100000 ∧ J (i + 1) (acc ++ [y]) T4 else J (i + 1) acc T3) ∧
      LcP J xs.length P) : AE K E (tLc (iTup K tl) g tt te vs) ds T P := fun F σ H Q ok q => h F σ H _ ok fun v d T1 F1 H1 ⟨xs, hd, J, j0, jst, jend⟩ ok1 fr1 al1 iv => by
  subst hd
  obtain ⟨a, us, rfl, h1, t1⟩ := iv.tupE
  refine ⟨a, rfl, ⟨us, ex_t ok1.p.fh h1⟩, fun Dl hD => lc_tup (K := K) (a := a) (xs := us) (Qd := fun H => Q (.ref Dl) H) (fun i H' => LcS K E ds σ T1 F1 H1 Dl J i H') ⟨F1, T1, [], j0, ok1.newO hD ⟨[], upd_same, .nil⟩, Fr.newO hD, al_new⟩ ?_ ?_ ?_⟩
  · rintro i H' hi ⟨F', T', acc, p, ok', fr', al'⟩
    exact ex_t ok'.p.fh (ex_t fr'.ff h1)
  · rintro i x H' hx ⟨F', T', acc, p, ok', fr', al'⟩
    obtain ⟨y, hy, iy⟩ := t1.getV hx
    exact lc_turn hs ok' fr' al' (iy.mono fr'.ff) (jst i y acc T' hy p)
  · rintro H' ⟨F', T', acc, p, ok', fr', al'⟩
    rw [t1.len] at p
    exact (q.step fr1 al1) _ (.adr Dl) _ F' H' (jend acc T' Dl p) ok' fr' al' (.adr Dl)
/-- the new list is frozen -/
theorem lcP_froz {J : Nat → List D → Tb → Prop} {n : Nat} (h : ∀ acc T', J n acc T' → P (.lst acc) T') : LcP J n fun d T' => ∃ j e, T'[j]? = some e ∧ e.loc = true ∧ d = .adr e.a ∧ P e.ob.d (T'.eraseIdx j) :=
  fun acc T' a p => ⟨0, _, rfl, rfl, rfl, h acc T' p⟩
end
end AW

/-! AW: promises of defs in terms of data, and calls by them. -/
namespace AW
open PySem PySem.Spec PyProof.Rows L2 Evl

/-- owned objects handed in, or handed out -/
abbrev Foot := List (Addr × OB)
def Owns (K : PySem.W.Frag) (F H : Hp) (T : Foot) : Prop := ∀ e ∈ T, F e.1 = none ∧ IsO K F H e.1 e.2
/-- a contract: arguments, owned objects; then what must hold of each end: its value, the owned objects' contents, new owned objects; of each exception: its class, the contents -/
abbrev Con0 := List D → Foot → (D → List OB → Foot → Prop) → (Value → List OB → Prop) → Prop
structure EndP (K : PySem.W.Frag) (F H : Hp) (T : Foot) (os : List OB) (new : Foot) (F' H' : Hp) : Prop where
  po : Post F H (T.map (·.1)) F' H'
  ln : os.length = T.length
  ow : Owns K F' H' ((T.map (·.1)).zip os)
  nw : ∀ e ∈ new, H e.1 = none ∧ F' e.1 = none ∧ IsO K F' H' e.1 e.2
  nd : (new.map (·.1)).Nodup
def spA (K : PySem.W.Frag) (A : Con0) : Sp := fun vs H Q X => ∃ F dd T P PX, Ex F H ∧ IsA K F vs dd ∧ Owns K F H T ∧ (T.map (·.1)).Nodup ∧ A dd T P PX ∧
  (∀ v d os new F' H', P d os new → EndP K F H T os new F' H' → Is K F' v d → Q v H') ∧ (∀ cls os F' H', PX cls os → EndP K F H T os [] F' H' → X cls none H')

abbrev news (l : Foot) : Tb := l.map fun e => ⟨e.1, true, e.2⟩
section
variable {K : PySem.W.Frag} {E : Ent} {F H F' H' : Hp} {ds : Sls} {T : Tb} {σ : L2.St} {v : V} {d : D} {P : PD} {ta : TA} {te : TE} {A : Con0} {EE : L2.St → XK}
theorem Ok.called {O : List Addr} {T' : Tb} (ok : Ok K E F ds T σ H) (po : Post F H O F' H') (hO : ∀ a ∈ O, a ∈ ads T) (h1 : T'.map (·.a) = T.map (·.a)) (h2 : T'.map (·.loc) = T.map (·.loc))
    (hob : ∀ (i : Nat) (e e' : Ow), T[i]? = some e → T'[i]? = some e' → (e.a ∉ O ∧ e'.ob = e.ob) ∨ IsO K F' H' e.a e'.ob) : Ok K E F' ds T' σ H' ∧ Fr T F H T' F' H' := by
  have notO : ∀ a o, E.H a = some o → a ∉ E.O → a ∉ O := fun a o ha hn hm => by
    obtain ⟨e, he, q⟩ := List.mem_map.mp (hO a hm)
    have w := ok.ow e he
    cases l : e.loc with
    | true => rw [← q, w.l l] at ha; cases ha
    | false => exact hn (q ▸ (w.g l).1)
  refine ⟨⟨⟨ok.p.ff.trans po.ff, fun a o ha hn => po.hh a o (ok.p.hh a o ha hn) (notO a o ha hn), fun a o ha => ?_, po.fh, fun a o hf ha => ?_⟩, ok.ln, ok.sl.mono po.ff, fun e' he' => ?_, by rw [h1]; exact ok.nd⟩, po.ff, fun a o ha hn => po.hh a o ha fun z => hn (hO a z),
    fun a o hf ha _ => po.nw a o hf ha, fun e' he' => ?_⟩
  · obtain ⟨o1, q⟩ := ok.p.al a o ha
    exact po.al a o1 q
  · obtain ⟨o1, q⟩ := ok.p.al a o ha
    exact po.nw a o1 (ok.p.nw a o hf ha) q
  · obtain ⟨i, hi⟩ := List.getElem?_of_mem he'
    have hl : T'.length = T.length := by
      have := congrArg List.length h1
      rwa [List.length_map, List.length_map] at this
    have hi2 : i < T.length := by have := (List.getElem?_eq_some_iff.mp hi).1; omega
    have e0 := List.getElem?_eq_getElem hi2
    have ea : e'.a = T[i].a := by
      have := congrArg (fun l => l[i]?) h1
      simp only [List.getElem?_map, hi, e0, Option.map_some] at this
      exact Option.some.inj this
    have el : e'.loc = T[i].loc := by
      have := congrArg (fun l => l[i]?) h2
      simp only [List.getElem?_map, hi, e0, Option.map_some] at this
      exact Option.some.inj this
    have w := ok.ow T[i] (List.mem_of_getElem? e0)
    obtain ⟨u, hu⟩ := w.o.there
    refine ⟨?_, ?_, ?_, ?_⟩
    · rw [ea]
      exact po.nw _ u w.f hu
    · rw [ea]
      rcases hob i _ _ e0 hi with ⟨hn, q⟩ | q
      · rw [q]
        exact w.o.mono po.ff fun o ho => po.hh _ o ho hn
      · exact q
    · rw [ea, el]
      exact w.l
    · rw [ea, el]
      exact w.g
  · refine .inl ?_
    show e'.a ∈ T.map (·.a)
    rw [← h1]
    exact List.mem_map.mpr ⟨e', he', rfl⟩
theorem Ok.adopt {new : Foot} (ok : Ok K E F ds T σ H) (hE : ∀ e ∈ new, E.H e.1 = none) (hn : ∀ e ∈ new, F e.1 = none ∧ IsO K F H e.1 e.2) (hd : ∀ e ∈ new, e.1 ∉ ads T) (nd : (new.map (·.1)).Nodup) : Ok K E F ds (news new ++ T) σ H := by
  refine ⟨ok.p, ok.ln, ok.sl, fun e he => ?_, ?_⟩
  · rcases List.mem_append.mp he with he | he
    · obtain ⟨x, hx, rfl⟩ := List.mem_map.mp he
      exact ⟨(hn x hx).1, (hn x hx).2, fun _ => hE x hx, fun z => by cases z⟩
    · exact ok.ow e he
  · have e1 : (news new).map (·.a) = new.map (·.1) := by rw [List.map_map]; rfl
    rw [List.map_append, e1, List.nodup_append]
    refine ⟨nd, ok.nd, fun a ha b hb z => ?_⟩
    obtain ⟨x, hx, rfl⟩ := List.mem_map.mp ha
    subst z
    exact hd x hx hb
/-- behind a call: T' is T with the footprint's new contents -/
theorem Rs.called {Tf : Foot} {os : List OB} {new : Foot} {T' : Tb} {Q : VK} (q : Rs K E P ds T σ F H Q) (ok : Ok K E F ds T σ H) (ep : EndP K F H Tf os new F' H') (hO : ∀ a ∈ Tf.map (·.1), a ∈ ads T) (h1 : T'.map (·.a) = T.map (·.a)) (h2 : T'.map (·.loc) = T.map (·.loc))
    (hob : ∀ (i : Nat) (e e' : Ow), T[i]? = some e → T'[i]? = some e' → (e.a ∉ Tf.map (·.1) ∧ e'.ob = e.ob) ∨ IsO K F' H' e.a e'.ob) (iv : Is K F' v d) (p : P d (news new ++ T')) : Q v H' := by
  obtain ⟨ok1, fr1⟩ := ok.called ep.po hO h1 h2 hob
  have hT : ∀ e ∈ new, e.1 ∉ ads T' := fun e he hm => by
    have hm' : e.1 ∈ T.map (·.a) := by
      rw [← h1]
      exact hm
    obtain ⟨x, hx, z⟩ := List.mem_map.mp hm'
    obtain ⟨u, hu⟩ := (ok.ow x hx).o.there
    rw [z, (ep.nw e he).1] at hu
    cases hu
  have ok2 := ok1.adopt (new := new) (fun e he => by
    cases z : E.H e.1 with
    | none => rfl
    | some o =>
      obtain ⟨o1, z1⟩ := ok.p.al _ o z
      rw [(ep.nw e he).1] at z1
      cases z1) (fun e he => (ep.nw e he).2) hT ep.nd
  refine q v d _ F' H' p ok2 ⟨fr1.ff, fr1.hh, fr1.nw, fun e he => ?_⟩ ep.po.al iv
  rcases List.mem_append.mp he with he | he
  · obtain ⟨x, hx, rfl⟩ := List.mem_map.mp he
    exact .inr (ep.nw x hx).1
  · exact fr1.tt e he
/-- an exception behind a call -/
def Exc (K : PySem.W.Frag) (E : Ent) (EE : L2.St → XK) (PX : Value → Tb → Prop) (ds : Sls) : Prop := ∀ cls T F σ H, PX cls T → Ok K E F ds T σ H → EE σ cls none H
theorem no_exc : Exc K E EE (fun _ _ => False) ds := fun _ _ _ _ _ h _ => h.elim
abbrev NoX : Value → List OB → Prop := fun _ _ => False
/-- f(..) that owns nothing -/
theorem ae_call0 {PX : Value → Tb → Prop} (hx : Exc K E EE PX ds) (h : AA K E ta ds T fun dd T' => A dd [] (fun d os new => P d (news new ++ T')) (fun cls _ => PX cls T')) : AE K E (tCallG (spA K A) EE ta) ds T P := fun F σ H Q ok q =>
  h F σ H _ ok fun vs dd T1 F1 H1 p1 ok1 fr1 al1 i1 => ⟨F1, dd, [], _, _, ok1.p.fh, i1, (fun e he => by cases he), List.nodup_nil, p1,
    fun v d os new F2 H2 p ep iv => (q.step fr1 al1).called ok1 ep (fun a ha => by cases ha) rfl rfl (fun i e e' h1 h2 => .inl ⟨(fun z => by cases z), by rw [h1] at h2; cases h2; rfl⟩) iv p,
    fun cls os F2 H2 p ep => hx cls T1 F2 σ H2 p (ok1.called ep.po (fun a ha => by cases ha) rfl rfl fun i e e' h1 h2 => .inl ⟨(fun z => by cases z), by rw [h1] at h2; cases h2; rfl⟩).1⟩
theorem set_maps {j : Nat} {e : Ow} {ob : OB} (hj : T[j]? = some e) : (T.set j ⟨e.a, e.loc, ob⟩).map (·.a) = T.map (·.a) ∧ (T.set j ⟨e.a, e.loc, ob⟩).map (·.loc) = T.map (·.loc) := by
  have hl := (List.getElem?_eq_some_iff.mp hj).1
  constructor
  · apply List.ext_getElem?
    intro i
    by_cases hi : j = i
    · subst hi
      rw [List.getElem?_map, List.getElem?_set_self hl, List.getElem?_map, hj]
      rfl
    · rw [List.getElem?_map, List.getElem?_set_ne hi, List.getElem?_map]
  · apply List.ext_getElem?
    intro i
    by_cases hi : j = i
    · subst hi
      rw [List.getElem?_map, List.getElem?_set_self hl, List.getElem?_map, hj]
      rfl
    · rw [List.getElem?_map, List.getElem?_set_ne hi, List.getElem?_map]
theorem one_ob {j : Nat} {e : Ow} {os : List OB} {new : Foot} {ob' : OB} (ok : Ok K E F ds T σ H) (hj : T[j]? = some e) (hos : os = [ob']) (ep : EndP K F H [(e.a, e.ob)] os new F' H') :
    ∀ (i : Nat) (x x' : Ow), T[i]? = some x → (T.set j ⟨e.a, e.loc, ob'⟩)[i]? = some x' → (x.a ∉ ([(e.a, e.ob)] : Foot).map (·.1) ∧ x'.ob = x.ob) ∨ IsO K F' H' x.a x'.ob := by
  intro i x x' h1 h2
  subst hos
  by_cases hi : j = i
  · subst hi
    rw [List.getElem?_set_self (List.getElem?_eq_some_iff.mp hj).1] at h2
    cases h2
    rw [hj] at h1
    cases h1
    exact .inr (ep.ow (e.a, ob') (List.mem_cons_self ..)).2
  · rw [List.getElem?_set_ne hi, h1] at h2
    cases h2
    refine .inl ⟨fun z => hi ?_, rfl⟩
    have z' : x.a = e.a := by
      have : x.a ∈ [e.a] := z
      exact List.mem_singleton.mp this
    exact nodup_at ok.nd (a := e.a) (by rw [List.getElem?_map, hj]; rfl) (by rw [List.getElem?_map, h1]; exact congrArg some z')
/-- f(..) that owns the object at place j of the table -/
theorem ae_call1 (j : Nat) {PX : Value → Tb → Prop} (hx : Exc K E EE PX ds) (h : AA K E ta ds T fun dd T' => ∃ e, T'[j]? = some e ∧ A dd [(e.a, e.ob)] (fun d os new => ∃ ob', os = [ob'] ∧ P d (news new ++ T'.set j ⟨e.a, e.loc, ob'⟩)) (fun cls os => ∃ ob', os = [ob'] ∧ PX cls (T'.set j ⟨e.a, e.loc, ob'⟩))) :
    AE K E (tCallG (spA K A) EE ta) ds T P := fun F σ H Q ok q =>
  h F σ H _ ok fun vs dd T1 F1 H1 ⟨e, hj, p1⟩ ok1 fr1 al1 i1 => by
    have he := ok1.ow e (List.mem_of_getElem? hj)
    have hO : ∀ a ∈ ([(e.a, e.ob)] : Foot).map (·.1), a ∈ ads T1 := fun a ha => by
      have : a ∈ [e.a] := ha
      rw [List.mem_singleton.mp this]
      exact List.mem_map.mpr ⟨e, List.mem_of_getElem? hj, rfl⟩
    refine ⟨F1, dd, [(e.a, e.ob)], _, _, ok1.p.fh, i1, fun x hx => ?_, by simp, p1, ?_, ?_⟩
    · rw [List.mem_singleton.mp hx]
      exact ⟨he.f, he.o⟩
    · rintro v d os new F2 H2 ⟨ob', hos, p⟩ ep iv
      exact (q.step fr1 al1).called ok1 ep hO (set_maps hj).1 (set_maps hj).2 (one_ob ok1 hj hos ep) iv p
    · rintro cls os F2 H2 ⟨ob', hos, p⟩ ep
      exact hx cls _ F2 σ H2 p (ok1.called ep.po hO (set_maps hj).1 (set_maps hj).2 (one_ob ok1 hj hos ep)).1
/-! ### a def's body against its contract -/
def slots (N : List Str) (dd : List D) : Sls := dd.map some ++ List.replicate (N.length - dd.length) none
/-- what a return must show -/
inductive Ret (P : D → List OB → Foot → Prop) (T : Foot) (d : D) (T' : Tb) : Prop
  | mk (os : List OB) (new : Foot) : P d os new → os.length = T.length → (∀ (m : Nat) (a : Addr) (o : OB), (T.map (·.1))[m]? = some a → os[m]? = some o → ⟨a, false, o⟩ ∈ T') → (∀ e ∈ new, ⟨e.1, true, e.2⟩ ∈ T') → (new.map (·.1)).Nodup → Ret P T d T'
def foot (T : Foot) : Tb := T.map fun e => ⟨e.1, false, e.2⟩
theorem ret0 {Pd : D → List OB → Foot → Prop} (h : Pd d [] []) : Ret Pd [] d T := .mk [] [] h rfl (fun _ _ _ z => by cases z) (fun _ z => by cases z) List.nodup_nil
theorem ret1 {Pd : D → List OB → Foot → Prop} {a : Addr} {o o' : OB} (h : Pd d [o'] []) (hm : ⟨a, false, o'⟩ ∈ T) : Ret Pd [(a, o)] d T := .mk [o'] [] h rfl (fun m b x h1 h2 => by
  match m, h1, h2 with
  | 0, h1, h2 =>
    cases h1
    cases h2
    exact hm
  | m + 1, h1, h2 => simp at h2) (fun _ z => by cases z) List.nodup_nil
theorem retN {Pd : D → List OB → Foot → Prop} {a : Addr} {o : OB} (h : Pd (.adr a) [] [(a, o)]) (hm : ⟨a, true, o⟩ ∈ T) : Ret Pd [] (.adr a) T := .mk [] [(a, o)] h rfl (fun _ _ _ z => by cases z) (fun e z => by
  rw [List.mem_singleton.mp z]
  exact hm) (by simp)
theorem ret1N {Pd : D → List OB → Foot → Prop} {a b : Addr} {o o' ob : OB} (h : Pd d [o'] [(b, ob)]) (hm : ⟨a, false, o'⟩ ∈ T) (hb : ⟨b, true, ob⟩ ∈ T) : Ret Pd [(a, o)] d T := .mk [o'] [(b, ob)] h rfl (fun m c x h1 h2 => by
  match m, h1, h2 with
  | 0, h1, h2 =>
    cases h1
    cases h2
    exact hm
  | m + 1, h1, h2 => simp at h2) (fun e z => by
  rw [List.mem_singleton.mp z]
  exact hb) (by simp)
theorem EndP.of {Tf : Foot} {os : List OB} {new : Foot} (nd : (Tf.map (·.1)).Nodup) (ok : Ok K ⟨F, H, Tf.map (·.1)⟩ F' ds T σ H') (ln : os.length = Tf.length) (h1 : ∀ (m : Nat) (a : Addr) (o : OB), (Tf.map (·.1))[m]? = some a → os[m]? = some o → ⟨a, false, o⟩ ∈ T)
    (h2 : ∀ e ∈ new, ⟨e.1, true, e.2⟩ ∈ T) (nd2 : (new.map (·.1)).Nodup) : EndP K F H Tf os new F' H' := by
  refine ⟨ok.p, ln, fun e he => ?_, fun e he => ?_, nd2⟩
  · obtain ⟨m, hm⟩ := List.getElem?_of_mem he
    rw [List.getElem?_zip_eq_some] at hm
    have w := ok.ow _ (h1 m e.1 e.2 hm.1 hm.2)
    exact ⟨w.f, w.o⟩
  · have w := ok.ow _ (h2 e he)
    exact ⟨w.l rfl, w.f, w.o⟩
/-- the entry: from the promise's premise to the state of the body -/
theorem enter {N : List Str} {vs : List V} {Q : VK} {X : XK} (h : spA K A vs H Q X) : ∃ F dd T P PX, A dd T P PX ∧ vs.length = dd.length ∧ Ok K ⟨F, H, T.map (·.1)⟩ F (slots N dd) (foot T) (L2.start N vs) H ∧
    (∀ d T' v F' ds' σ' H', Ret P T d T' → Ok K ⟨F, H, T.map (·.1)⟩ F' ds' T' σ' H' → Is K F' v d → Q v H') ∧ (∀ cls T' F' ds' σ' H', Ret (fun _ os _ => PX cls os) T .non T' → Ok K ⟨F, H, T.map (·.1)⟩ F' ds' T' σ' H' → X cls none H') := by
  obtain ⟨F, dd, T, P, PX, hF, ia, ow, nd, hA, hQ, hX⟩ := h
  have e1 : (foot T).map (·.a) = T.map (·.1) := by unfold foot; rw [List.map_map]; rfl
  refine ⟨F, dd, T, P, PX, hA, ia.len, ⟨⟨Ex.refl F, fun _ _ z _ => z, fun a o z => ⟨o, z⟩, hF, fun _ _ z _ => z⟩, ?_, ?_, ?_, by rw [e1]; exact nd⟩, ?_, ?_⟩
  · unfold L2.start slots
    rw [List.length_append, List.length_append, List.length_map, List.length_map, List.length_replicate, List.length_replicate, ia.len]
  · intro i d hd
    unfold slots at hd
    have hi : i < dd.length := by
      by_cases z : i < dd.length
      · exact z
      · rw [List.getElem?_append_right (by rw [List.length_map]; omega), List.getElem?_replicate] at hd
        split at hd <;> cases hd
    rw [List.getElem?_append_left (by rw [List.length_map]; exact hi), List.getElem?_map, List.getElem?_eq_getElem hi] at hd
    obtain ⟨v, h1, h2⟩ := ia.get (List.getElem?_eq_getElem hi)
    have hd' : dd[i] = d := by
      have := Option.some.inj hd
      exact Option.some.inj this
    rw [hd'] at h2
    refine ⟨v, ?_, h2⟩
    unfold L2.start
    rw [List.getElem?_append_left (by rw [List.length_map, ia.len]; exact hi), List.getElem?_map, h1]
    rfl
  · intro e he
    obtain ⟨x, hx, rfl⟩ := List.mem_map.mp he
    have w := ow x hx
    exact ⟨w.1, w.2, (fun z => by cases z), fun _ => ⟨List.mem_map.mpr ⟨x, hx, rfl⟩, w.2.there⟩⟩
  · rintro d T' v F' ds' σ' H' ⟨os, new, p, ln, h1, h2, nd2⟩ ok iv
    exact hQ v d os new F' H' p (EndP.of nd ok ln h1 h2 nd2) iv
  · rintro cls T' F' ds' σ' H' ⟨os, new, p, ln, h1, h2, nd2⟩ ok
    exact hX cls os F' H' p (EndP.of nd ok ln h1 (new := []) (fun _ z => by cases z) List.nodup_nil)
/-- the body, from its reading -/
theorem body {N : List Str} {vs : List V} {Q : VK} {X : XK} {t : TS} (h : spA K A vs H Q X)
    (hb : ∀ (F : Hp) (dd : List D) (Tf : Foot) (P : D → List OB → Foot → Prop) (PX : Value → List OB → Prop), A dd Tf P PX → vs.length = dd.length →
      (∀ cls T' F' ds' σ' H', Ret (fun _ os _ => PX cls os) Tf .non T' → Ok K ⟨F, H, Tf.map (·.1)⟩ F' ds' T' σ' H' → X cls none H') →
      AS K ⟨F, H, Tf.map (·.1)⟩ t (slots N dd) (foot Tf) (fun _ T' => Ret P Tf .non T') (fun d T' => Ret P Tf d T') (fun _ _ => False) (fun _ _ => False)) : t { nx := fun _ H' => Q .non H', rt := Q } (L2.start N vs) H := by
  obtain ⟨F, dd, Tf, P, PX, hA, hl, ok, hr, hx⟩ := enter (N := N) h
  exact hb F dd Tf P PX hA hl hx F (L2.start N vs) H _ ok ⟨fun ds' T' F' σ' H' p ok' _ => hr .non T' .non F' ds' σ' H' p ok' .non, fun d T' v F' ds' σ' H' p ok' _ iv => hr d T' v F' ds' σ' H' p ok' iv, fun _ _ _ _ _ p => p.elim, fun _ _ _ _ _ p => p.elim⟩
end
end AW

/-! AW: rules as the printer of terms writes them; the steps of a proof as short words. -/
namespace AW
open PySem PySem.Spec PyProof.Rows L2 Evl
section
variable {X : Cx}
theorem ptT {a : Expr} {ta : TE} (ha : PE X a ta) (he : ∀ whole, isTrue a X.env whole = (do let v ← whole; standAt a.pos; holding [v] (truthy v))) : PT X a (tTru X.K ta) := pt_truth ha he
/-- a walk over a list or a tuple -/
def iU (K : PySem.W.Frag) (tl : TE) : TI := fun σ H R => iList K tl σ H R ∨ iTup K tl σ H R
theorem pi_u {tg l : Expr} {tl : TE} (h : PE X l tl) : PI X tg l (iU X.K tl) := ⟨fun pins s σ H R I q => q.elim ((pi_list h).run pins s σ H R I) ((pi_tup h).run pins s σ H R I)⟩
theorem passN (σ : L2.St) {E : XK} : PassesAt CX0 X σ E := fun _ _ _ _ _ _ h => h.elim
end
section
variable {K : PySem.W.Frag} {E : Ent} {ds : Sls} {T : Tb} {P : PD} {te tl : TE} {tb : TS} {tt : TT} {g : TG} {N B C : PS2} {R : PD}
theorem as_uL (h : AS K E (tFor (iList K tl) g tb) ds T N R B C) : AS K E (tFor (iU K tl) g tb) ds T N R B C := fun F σ H D ok k => .inl (h F σ H D ok k)
theorem as_uT (h : AS K E (tFor (iTup K tl) g tb) ds T N R B C) : AS K E (tFor (iU K tl) g tb) ds T N R B C := fun F σ H D ok k => .inr (h F σ H D ok k)
theorem ae_uL {vs : List Nat} (h : AE K E (tLc (iList K tl) g tt te vs) ds T P) : AE K E (tLc (iU K tl) g tt te vs) ds T P := fun F σ H Q ok q => .inl (h F σ H Q ok q)
theorem ae_uT {vs : List Nat} (h : AE K E (tLc (iTup K tl) g tt te vs) ds T P) : AE K E (tLc (iU K tl) g tt te vs) ds T P := fun F σ H Q ok q => .inr (h F σ H Q ok q)
theorem at_yes {P : Bool → Tb → Prop} (p : P true T) : AT K E tYes ds T P := fun F σ H Q ok q => q true T F H p ok (Fr.refl T F H) id_al
theorem spA_ln {A : Con0} {n : Nat} (h : ∀ dd T P PX, A dd T P PX → dd.length = n) : ∀ (vs : List V) (H : Hp) (Q : VK) (X : XK), spA K A vs H Q X → vs.length = n := fun vs H Q X ⟨F, dd, Tf, P, PX, _, ia, _, _, hA, _⟩ => ia.len.trans (h dd Tf P PX hA)
end

theorem hu5_of {A : Around} {k : Nat} (hr : Room k A) : A.units + 65 < cLine := by
  have := hr.un
  omega
/-! ### calls that read what is owned, and change nothing of it -/
def toFoot (T : Tb) : Foot := T.map fun e => (e.a, e.ob)
section
variable {K : PySem.W.Frag} {E : Ent} {F H F' H' : Hp} {ds : Sls} {T : Tb} {σ : L2.St} {v : V} {d : D} {P : PD} {ta : TA} {te : TE} {A : Con0} {EE : L2.St → XK}
theorem foot_get {j : Nat} {e : Ow} (h : T[j]? = some e) : (foot (toFoot T))[j]? = some ⟨e.a, false, e.ob⟩ := by
  unfold foot toFoot
  rw [List.map_map, List.getElem?_map, h]
  rfl
theorem LV.foot {xs : List D} (l : LV T d xs) : LV (foot (toFoot T)) d xs := by
  cases l with
  | f => exact .f _
  | r => exact .r _
  | @o j e _ h1 h2 => exact .o (e := ⟨e.a, false, e.ob⟩) (foot_get h1) h2
theorem LW.foot {xs : List D} (l : LW T d xs) : LW (foot (toFoot T)) d xs := by
  cases l with
  | f => exact .f _
  | @o j e _ h1 h2 => exact .o (e := ⟨e.a, false, e.ob⟩) (foot_get h1) h2
theorem Dv.foot {q : PyData} (l : Dv T d q) : Dv (foot (toFoot T)) d q := by
  cases l with
  | p h => exact .p h
  | @o j e _ h1 h2 h3 => exact .o (e := ⟨e.a, false, e.ob⟩) (foot_get h1) h2 h3
theorem toFoot_fst : (toFoot T).map (·.1) = T.map (·.a) := by unfold toFoot; rw [List.map_map]; rfl
theorem all_ob {os : List OB} {new : Foot} (hos : os = T.map (·.ob)) (ep : EndP K F H (toFoot T) os new F' H') : ∀ (i : Nat) (x x' : Ow), T[i]? = some x → T[i]? = some x' → (x.a ∉ (toFoot T).map (·.1) ∧ x'.ob = x.ob) ∨ IsO K F' H' x.a x'.ob := by
  intro i x x' h1 h2
  rw [h1] at h2
  cases h2
  refine .inr (ep.ow (x.a, x.ob) ?_).2
  rw [hos, toFoot_fst]
  refine List.mem_of_getElem? (i := i) ?_
  rw [List.getElem?_zip_eq_some]
  exact ⟨by rw [List.getElem?_map, h1]; rfl, by rw [List.getElem?_map, h1]; rfl⟩
theorem ae_callT {PX : Value → Tb → Prop} (hx : Exc K E EE PX ds) (h : AA K E ta ds T fun dd T' => A dd (toFoot T') (fun d os new => os = T'.map (·.ob) ∧ P d (news new ++ T')) (fun cls os => os = T'.map (·.ob) ∧ PX cls T')) :
    AE K E (tCallG (spA K A) EE ta) ds T P := fun F σ H Q ok q =>
  h F σ H _ ok fun vs dd T1 F1 H1 p1 ok1 fr1 al1 i1 => by
    have hO : ∀ a ∈ (toFoot T1).map (·.1), a ∈ ads T1 := fun a ha => by
      rw [toFoot_fst] at ha
      exact ha
    refine ⟨F1, dd, toFoot T1, _, _, ok1.p.fh, i1, fun x hx => ?_, by rw [toFoot_fst]; exact ok1.nd, p1, ?_, ?_⟩
    · obtain ⟨e, he, rfl⟩ := List.mem_map.mp hx
      exact ⟨(ok1.ow e he).f, (ok1.ow e he).o⟩
    · rintro v d os new F2 H2 ⟨hos, p⟩ ep iv
      exact (q.step fr1 al1).called ok1 ep hO rfl rfl (all_ob hos ep) iv p
    · rintro cls os F2 H2 ⟨hos, p⟩ ep
      exact hx cls _ F2 σ H2 p (ok1.called ep.po hO rfl rfl (all_ob hos ep)).1
/-- o.m(..) on a frozen instance -/
theorem is_ins {C : Addr} {ns : List Str} {xs : List D} (i : Is K F v (.ins C ns xs)) : ∃ a dx vs, v = .ref a ∧ F a = some (.ins C dx (ns.zip vs)) ∧ ns.length = vs.length ∧ IsA K F vs xs := by
  cases i with
  | ins h1 h2 h3 => exact ⟨_, _, _, rfl, h1, h2, h3⟩
theorem zip_none {m : Str} : ∀ {ns : List Str} {vs : List V}, m ∉ ns → (ns.zip vs).lookup m = none
  | [], _, _ => rfl
  | _ :: _, [], _ => rfl
  | n :: ns, v :: vs, h => by
    rw [List.zip_cons_cons, List.lookup_cons, beq_false_of_ne (fun z => h (by rw [z]; exact List.mem_cons_self ..))]
    exact zip_none fun z => h (List.mem_cons_of_mem _ z)
theorem ae_methT {C : Addr} {m : Str} {PX : Value → Tb → Prop} (hx : Exc K E EE PX ds) (h : AE K E te ds T fun d0 T0 => ∃ ns xs, d0 = .ins C ns xs ∧ m ∉ ns ∧
      AA K E ta ds T0 fun dd T' => A (d0 :: dd) (toFoot T') (fun d os new => os = T'.map (·.ob) ∧ P d (news new ++ T')) (fun cls os => os = T'.map (·.ob) ∧ PX cls T')) :
    AE K E (tMethG C m (spA K A) EE te ta) ds T P := fun F σ H Q ok q =>
  h F σ H _ ok fun v0 d0 T0 F0 H0 ⟨ns, xs, hd, hm, p0⟩ ok0 fr0 al0 i0 => by
    subst hd
    obtain ⟨a, dx, vs0, rfl, h1, h2, h3⟩ := is_ins i0
    refine ⟨a, dx, _, rfl, ok0.p.fh _ _ h1, zip_none hm, ?_⟩
    refine p0 F0 σ H0 _ ok0 fun vs dd T1 F1 H1 p1 ok1 fr1 al1 i1 => ?_
    have hO : ∀ a ∈ (toFoot T1).map (·.1), a ∈ ads T1 := fun a ha => by
      rw [toFoot_fst] at ha
      exact ha
    refine ⟨F1, _ :: dd, toFoot T1, _, _, ok1.p.fh, .cons (i0.mono fr1.ff) i1, fun x hx => ?_, by rw [toFoot_fst]; exact ok1.nd, p1, ?_, ?_⟩
    · obtain ⟨e, he, rfl⟩ := List.mem_map.mp hx
      exact ⟨(ok1.ow e he).f, (ok1.ow e he).o⟩
    · rintro v d os new F2 H2 ⟨hos, p⟩ ep iv
      exact ((q.step fr0 al0).step fr1 al1).called ok1 ep hO rfl rfl (all_ob hos ep) iv p
    · rintro cls os F2 H2 ⟨hos, p⟩ ep
      exact hx cls _ F2 σ H2 p (ok1.called ep.po hO rfl rfl (all_ob hos ep)).1
/-- a return that has changed nothing owned -/
theorem foot_mem {Tf : Foot} {m : Nat} {a : Addr} {o : OB} (h1 : (Tf.map (·.1))[m]? = some a) (h2 : (Tf.map (·.2))[m]? = some o) : ⟨a, false, o⟩ ∈ foot Tf := by
  rw [List.getElem?_map] at h1 h2
  cases e : Tf[m]? with
  | none => rw [e] at h1; cases h1
  | some x =>
    rw [e] at h1 h2
    cases h1
    cases h2
    exact List.mem_map.mpr ⟨x, List.mem_of_getElem? e, rfl⟩
theorem retT {Pd : D → List OB → Foot → Prop} {Tf : Foot} (h : Pd d (Tf.map (·.2)) []) (hs : ∀ e ∈ foot Tf, e ∈ T) : Ret Pd Tf d T :=
  .mk _ [] h (by rw [List.length_map]) (fun m a o h1 h2 => hs _ (foot_mem h1 h2)) (fun _ z => by cases z) List.nodup_nil
theorem retTN {Pd : D → List OB → Foot → Prop} {Tf : Foot} {a : Addr} {o : OB} (h : Pd (.adr a) (Tf.map (·.2)) [(a, o)]) (hs : ∀ e ∈ foot Tf, e ∈ T) (hm : ⟨a, true, o⟩ ∈ T) : Ret Pd Tf (.adr a) T :=
  .mk _ [(a, o)] h (by rw [List.length_map]) (fun m a o h1 h2 => hs _ (foot_mem h1 h2)) (fun e z => by
    rw [List.mem_singleton.mp z]
    exact hm) (by simp)
end
/-! ### the words of a proof -/
theorem rd_any {K : PySem.W.Frag} {E : Ent} {r : R2} {T : Tb} {d1 d2 : D} {P P' : PD} (h : RD K E r T d1 d2 P') (k : ∀ d T', P' d T' → P d T') : RD K E r T d1 d2 P := fun F σ ds H v1 v2 Q ok i1 i2 q => h F σ ds H v1 v2 Q ok i1 i2 fun v d T' F' H' p => q v d T' F' H' (k d T' p)
end AW

/-! AW: dicts whose keys are tuples, instances, ghost steps. -/
namespace AW
open PySem PySem.Spec PyProof.Rows L2 Evl

/-! ### d.setdefault(key, x), the key a tuple -/
def tSetdT (td ty tx : TE) : TE := fun σ H Q => td σ H fun x H1 => ∃ a, x = .ref a ∧ IsD H1 a ∧ ty σ H1 fun y H2 => tx σ H2 fun z H3 =>
  ∃ (kvs : List (List Key × V)) (k : List Key) (b : Addr), H3 a = some (.dT kvs) ∧ y = .ref b ∧ H3 b = some (.tup (k.map kV)) ∧ kvs.length < sizeLine ∧ (∀ v, valV kvs k = some v → Q v H3) ∧ (valV kvs k = none → Q z (upd H3 a (.dT (putK kvs k z))))
section
variable {X : Cx} {pins : List (Addr × Obj)} {σ : L2.St} {H : Hp} {s : Shared} {a b : Addr} {r : Value} {d : V} {k : List Key} {A : Around} {E : Value → Shared → Prop}
theorem setdT {kvs : List (List Key × V)} {Q : Value → Shared → Prop} (hu : A.units + 1 < cLine) (I : Inv X pins σ H s) (e : H a = some (.dT kvs)) (eb : H b = some (.tup (k.map kV))) (rd : RelV d r) (hl : kvs.length < sizeLine)
    (h1 : ∀ v, valV kvs k = some v → ∀ (u : Value) (s' : Shared), Inv X pins σ H s' → RelV v u → Q u s') (h2 : valV kvs k = none → ∀ (u : Value) (s' : Shared), Inv X pins σ (upd H a (.dT (putK kvs k d))) s' → RelV d u → Q u s') :
    wpAny (model X.prog X.w) A (call (.builtin "dict.setdefault") [.ref a, .ref b, r]) Q E s := by
  obtain ⟨z, hd, xs, rel, dd⟩ := dt_of I.hok e
  have hz : xs.length ≤ sizeLine := Nat.le_trans (Nat.le_of_eq (Paired.length rel).symm) z
  refine call_setdefault_heap (hsz := hz) (knd := tupleKind (mixKind X.prog X.w)) (tupleKind_room_in1 hu) (key_of I.hok eb) hd dd (fun p hp => ?_) fun hn h' dd' hs => ?_
  · have q := rel.val k
    rw [hp] at q
    cases q0 : valV kvs k with
    | none => rw [q0] at q; exact (show False from q).elim
    | some v => rw [q0] at q; exact h1 v q0 _ _ (I.tok _) q
  · have q := rel.val k
    rw [hn] at q
    cases q0 : valV kvs k with
    | some v => rw [q0] at q; exact (show False from q).elim
    | none =>
      have hl2 : (putK kvs k d).length ≤ sizeLine := by
        have := length_putK kvs k d
        omega
      obtain ⟨ob, es, ep, hq, g2, g3, g4, _, g5⟩ := dd'
      refine h2 q0 _ _ (d_write I (by rw [e]; trivial) hs ⟨ob, hq⟩ ⟨hl2, hd, _, (rel.put k eb rd).keeps fun c ys ec => ?_, ob, es, ep, hq, g2, g3, g4, g5⟩) rd
      rw [upd_ne (ne_of ec e nofun)]
      exact ec
variable {o e f : Expr} {td ty tx : TE} {apos cpos : Pos}
theorem pe_setdT (hu : X.A.units + 1 < cLine) (ho : PE X o td) (he : PE X e ty) (hf : PE X f tx) (m : M2 X o "setdefault" apos e f cpos) : PE X (.Call (.Attribute o "setdefault" apos) [e, f] [] cpos) (tSetdT td ty tx) := by
  constructor
  intro pins s σ H Q I h
  refine wpAny_Call_method m.base m.few m.line PySem.F.plainAttrs_dict PySem.F.slot_dict_setdefault PySem.F.type_dict_setdefault (thn (ho.run pins s σ H _ I h) ?_)
  rintro u s1 ⟨x, H1, I1, rx, a, rfl, d, q1⟩
  obtain rfl : u = Value.ref a := rx
  obtain ⟨t1, t2, _⟩ := isD_at I1 d
  refine ⟨t1, t2, ?_⟩
  rw [m.trees]
  refine Calls.callWith_builtin rfl (Calls.evalArgs_plain (Calls.spliced_cons (thn (he.run pins s1 σ H1 _ I1 q1) ?_)))
  rintro iv s2 ⟨y, H2, I2, ry, q2⟩
  refine Calls.spliced_cons (thn (hf.run pins s2 σ H2 _ I2 q2) ?_)
  rintro fv s3 ⟨z, H3, I3, rz, kvs, k, b, ea, rfl, eb, hl, q3, q4⟩
  obtain rfl : iv = Value.ref b := ry
  exact Calls.spliced_nil (setdT hu I3 ea eb rz hl (fun v hv w' s4 I4 rw' => ⟨v, _, I4, rw', q3 v hv⟩) fun hn w' s4 I4 rw' => ⟨z, _, I4, rw', q4 hn⟩)
end

/-! ### keys as data -/
def kD : Key → D
  | .inl i => .int i
  | .inr x => .str x
def getD (ks : List (List Key)) (ds : List D) (k : List Key) : Option D := ((ks.zip ds).find? fun kv => decide (kv.1 = k)).map (·.2)
section
variable {K : PySem.W.Frag} {E : Ent} {F H : Hp} {ds : Sls} {T : Tb} {σ : L2.St} {v : V} {d : D} {P : PD} {te td ty tx tv : TE} {ta : TA} {N B C : PS2} {R : PD} {t : TS}
theorem keys_are : ∀ {k : List Key} {vs : List V}, IsA K F vs (k.map kD) → vs = k.map kV
  | [], _, .nil => rfl
  | .inl i :: k, _, .cons h t => by
    cases h
    rw [keys_are t]
    rfl
  | .inr x :: k, _, .cons h t => by
    cases h
    rw [keys_are t]
    rfl
theorem key_is {k : List Key} (i : Is K F v (.tup (k.map kD))) : ∃ b, v = .ref b ∧ F b = some (.tup (k.map kV)) := by
  obtain ⟨b, vs, rfl, h1, t1⟩ := i.tupT
  rw [keys_are t1] at h1
  exact ⟨b, rfl, h1⟩
theorem get_is {k : List Key} : ∀ {ks : List (List Key)} {vs : List V} {xs : List D}, IsA K F vs xs → (∀ d, getD ks xs k = some d → ∃ v, valV (ks.zip vs) k = some v ∧ Is K F v d) ∧ (getD ks xs k = none → valV (ks.zip vs) k = none)
  | [], _, _, _ => ⟨fun d h => by simp [getD] at h, fun _ => rfl⟩
  | k0 :: ks, _, _, .nil => ⟨fun d h => by simp [getD] at h, fun _ => rfl⟩
  | k0 :: ks, _, _, .cons (v := v) (d := d0) (vs := vs) (ds := xs) h t => by
    by_cases e : k0 = k
    · constructor
      · intro d hd
        unfold getD at hd
        rw [List.zip_cons_cons, List.find?_cons_of_pos (by simp [e])] at hd
        have hd' : d0 = d := Option.some.inj hd
        subst hd'
        exact ⟨v, by rw [List.zip_cons_cons]; exact valV_pos e, h⟩
      · intro hd
        unfold getD at hd
        rw [List.zip_cons_cons, List.find?_cons_of_pos (by simp [e])] at hd
        cases hd
    · obtain ⟨g1, g2⟩ := get_is (k := k) (ks := ks) t
      have e1 : getD (k0 :: ks) (d0 :: xs) k = getD ks xs k := by
        unfold getD
        rw [List.zip_cons_cons, List.find?_cons_of_neg (by simp [e])]
      have e2 : valV ((k0 :: ks).zip (v :: vs)) k = valV (ks.zip vs) k := by rw [List.zip_cons_cons]; exact valV_neg e
      rw [e1, e2]
      exact ⟨g1, g2⟩
/-- {}: to be filled with keys that are tuples -/
theorem ae_newT (p : ∀ a, P (.adr a) (⟨a, true, .dT [] []⟩ :: T)) : AE K E tDNewT ds T P := fun F σ H Q ok q => fun a ha => q.newO ok ha (p a) ⟨[], upd_same, rfl, .nil⟩
theorem Ok.dT_at {j : Nat} {a : Addr} {l : Bool} {ks : List (List Key)} {xs : List D} (ok : Ok K E F ds T σ H) (hj : T[j]? = some ⟨a, l, .dT ks xs⟩) : ∃ vs, H a = some (.dT (ks.zip vs)) ∧ ks.length = vs.length ∧ IsA K F vs xs := (ok.ow _ (List.mem_of_getElem? hj)).o
theorem ae_setdT (h : AE K E td ds T fun d T1 => ∃ a, d = .adr a ∧ (∃ (j : Nat) (l : Bool) (ks : List (List Key)) (xs : List D), T1[j]? = some ⟨a, l, .dT ks xs⟩) ∧ AE K E ty ds T1 fun d2 T2 => AE K E tx ds T2 fun d3 T3 => ∃ (k : List Key) (j : Nat) (l : Bool) (ks : List (List Key)) (xs : List D), d2 = .tup (k.map kD) ∧ T3[j]? = some ⟨a, l, .dT ks xs⟩ ∧ ks.length < 100000 ∧
      (∀ d, getD ks xs k = some d → P d T3) ∧ (getD ks xs k = none → P d3 (T3.set j ⟨a, l, .dT (ks ++ [k]) (xs ++ [d3])⟩))) : AE K E (tSetdT td ty tx) ds T P := fun F σ H Q ok q =>
  h F σ H _ ok fun v1 d1 T1 F1 H1 ⟨a, hd, ⟨j0, l0, ks0, xs0, hj0⟩, p1⟩ ok1 fr1 al1 i1 => by
    subst hd
    cases i1
    obtain ⟨vs0, e0, _, _⟩ := ok1.dT_at hj0
    refine ⟨a, rfl, .inr ⟨_, .inl e0⟩, p1 F1 σ H1 _ ok1 fun v2 d2 T2 F2 H2 p2 ok2 fr2 al2 i2 => p2 F2 σ H2 _ ok2 fun v3 d3 T3 F3 H3 p3 ok3 fr3 al3 i3 => ?_⟩
    obtain ⟨k, j, l, ks, xs, rfl, hj, hlen, c1, c2⟩ := p3
    obtain ⟨b, rfl, hb⟩ := key_is (i2.mono fr3.ff)
    obtain ⟨vs, e3, hl, t3⟩ := ok3.dT_at hj
    obtain ⟨g1, g2⟩ := get_is (k := k) (ks := ks) t3
    have q3 := ((q.step fr1 al1).step fr2 al2).step fr3 al3
    have zl : (ks.zip vs).length = ks.length := by rw [List.length_zip]; omega
    refine ⟨ks.zip vs, k, b, e3, rfl, ok3.p.fh _ _ hb, by rw [zl]; exact sz_lt hlen, fun v hv => ?_, fun hn => ?_⟩
    · cases z : getD ks xs k with
      | none => rw [g2 z] at hv; cases hv
      | some d =>
        obtain ⟨w, hw, iw⟩ := g1 d z
        rw [hv] at hw
        cases hw
        exact q3.ret ok3 (c1 d z) iw
    · cases z : getD ks xs k with
      | some d =>
        obtain ⟨w, hw, _⟩ := g1 d z
        rw [hn] at hw
        cases hw
      | none =>
        have e : putK (ks.zip vs) k v3 = (ks ++ [k]).zip (vs ++ [v3]) := by
          rw [putK_new _ hn, List.zip_append hl]
          rfl
        rw [e]
        exact q3.mut ok3 hj (c2 z) ⟨vs ++ [v3], upd_same, by rw [List.length_append, List.length_append, hl]; rfl, t3.append (.one i3)⟩ i3
/-- a dict as it may lie -/
inductive TV (T : Tb) : D → List (List Key) → List D → Prop
  | f (ks : List (List Key)) (xs : List D) : TV T (.dT ks xs) ks xs
  | o {j : Nat} {e : Ow} {ks : List (List Key)} {xs : List D} : T[j]? = some e → e.ob = .dT ks xs → TV T (.adr e.a) ks xs
theorem TV.at {ks : List (List Key)} {xs : List D} (l : TV T d ks xs) (ok : Ok K E F ds T σ H) (i : Is K F v d) : ∃ a vs, v = .ref a ∧ H a = some (.dT (ks.zip vs)) ∧ IsA K F vs xs := by
  cases l with
  | f =>
    cases i with
    | dT h1 h2 t => exact ⟨_, _, rfl, ok.p.fh _ _ h1, t⟩
  | @o j e _ _ hj he =>
    cases i
    have w := (ok.ow e (List.mem_of_getElem? hj)).o
    rw [he] at w
    obtain ⟨vs, h1, _, h2⟩ := w
    exact ⟨_, vs, rfl, h1, h2⟩
theorem ae_get2T (h : AE K E td ds T fun d T1 => (∃ ks xs, TV T1 d ks xs) ∧ AE K E ty ds T1 fun d2 T2 => AE K E tx ds T2 fun d3 T3 => ∃ (k : List Key) (ks : List (List Key)) (xs : List D), d2 = .tup (k.map kD) ∧ TV T3 d ks xs ∧ P ((getD ks xs k).getD d3) T3) :
    AE K E (tDGet2 td ty tx) ds T P := fun F σ H Q ok q =>
  h F σ H _ ok fun v1 d1 T1 F1 H1 ⟨⟨ks0, xs0, tv0⟩, p1⟩ ok1 fr1 al1 i1 => by
    obtain ⟨a, vs0, rfl, e0, _⟩ := tv0.at ok1 i1
    refine ⟨a, rfl, .inr ⟨_, .inl e0⟩, p1 F1 σ H1 _ ok1 fun v2 d2 T2 F2 H2 p2 ok2 fr2 al2 i2 => p2 F2 σ H2 _ ok2 fun v3 d3 T3 F3 H3 p3 ok3 fr3 al3 i3 => ?_⟩
    obtain ⟨k, ks, xs, rfl, tv, p⟩ := p3
    obtain ⟨b, rfl, hb⟩ := key_is (i2.mono fr3.ff)
    obtain ⟨a', vs, ea, e3, t3⟩ := tv.at ok3 (i1.mono (fr2.ff.trans fr3.ff))
    cases ea
    obtain ⟨g1, g2⟩ := get_is (k := k) (ks := ks) t3
    have q3 := ((q.step fr1 al1).step fr2 al2).step fr3 al3
    refine ⟨valV (ks.zip vs) k, DGet.t e3 (ok3.p.fh _ _ hb), ?_⟩
    cases z : getD ks xs k with
    | none =>
      rw [z] at p
      rw [g2 z]
      exact q3.ret ok3 p i3
    | some d =>
      obtain ⟨w, hw, iw⟩ := g1 d z
      rw [z] at p
      rw [hw]
      exact q3.ret ok3 p iw

/-! ### instances -/
theorem lookup_putF_zip {f : Str} {y : V} : ∀ {ns : List Str} {vs : List V}, ns.length = vs.length → f ∉ ns → putF f y (ns.zip vs) = (ns ++ [f]).zip (vs ++ [y])
  | [], [], _, _ => rfl
  | n :: ns, v :: vs, hl, h => by
    have hn : ¬ n = f := fun z => h (by rw [z]; exact List.mem_cons_self ..)
    have ih := lookup_putF_zip (f := f) (y := y) (ns := ns) (vs := vs) (by simpa using hl) fun z => h (List.mem_cons_of_mem _ z)
    show (if n = f then _ else (n, v) :: putF f y (ns.zip vs)) = _
    rw [if_neg hn, ih]
    rfl
/-- o.f = e, a field that is new -/
theorem as_fld {f : Str} {C0 : Addr} (cl : Cls K C0) (na : NoAttr K C0 f) (h : AE K E tv ds T fun d T1 => AE K E te ds T1 fun d2 T2 => ∃ (a : Addr) (j : Nat) (l : Bool) (ns : List Str) (xs : List D), d2 = .adr a ∧ T2[j]? = some ⟨a, l, .ins C0 ns xs⟩ ∧ f ∉ ns ∧ ns.length < 1000 ∧
      N ds (T2.set j ⟨a, l, .ins C0 (ns ++ [f]) (xs ++ [d])⟩)) : AS K E (sFld K te tv f) ds T N R B C := fun F σ H D ok k =>
  h F σ H _ ok fun v1 d1 T1 F1 H1 p1 ok1 fr1 al1 i1 => p1 F1 σ H1 _ ok1 fun v2 d2 T2 F2 H2 ⟨a, j, l, ns, xs, hd, hj, hf, hn, p⟩ ok2 fr2 al2 i2 => by
    subst hd
    cases i2
    obtain ⟨dx, vs, e1, e2, t⟩ : ∃ dx vs, H2 a = some (.ins C0 dx (ns.zip vs)) ∧ ns.length = vs.length ∧ IsA K F2 vs xs := (ok2.ow _ (List.mem_of_getElem? hj)).o
    refine ⟨a, C0, dx, _, rfl, e1, cl, na, by rw [List.length_zip]; omega, ?_⟩
    rw [lookup_putF_zip e2 hf]
    exact k.n ds _ F2 σ _ p (ok2.mut hj ⟨dx, vs ++ [v1], upd_same, by rw [List.length_append, List.length_append, e2]; rfl, t.append (.one (i1.mono fr2.ff))⟩) (fr1.ff.trans fr2.ff)
/-- C(..) -/
theorem ae_make {C0 : Addr} {A : Con0} {EE : L2.St → XK} {PX : Value → Tb → Prop} (hx : Exc K E EE PX ds) (h : AA K E ta ds T fun dd T' => ∀ x, A (.adr x :: dd) ((x, .ins C0 [] []) :: toFoot T')
      (fun d os new => d = .non ∧ ∃ ob, os = ob :: T'.map (·.ob) ∧ P (.adr x) (news new ++ ⟨x, true, ob⟩ :: T')) (fun cls os => ∃ ob, os = ob :: T'.map (·.ob) ∧ PX cls (⟨x, true, ob⟩ :: T'))) : AE K E (tMakeG C0 (spA K A) EE ta) ds T P := fun F σ H Q ok q =>
  h F σ H _ ok fun vs dd T1 F1 H1 p1 ok1 fr1 al1 i1 => by
    intro x dx nx ndx ne
    have okd := (ok1.newF (p := dx) (o := .own x) ndx).1
    have frd : Fr T1 F1 H1 T1 (upd F1 dx (.own x)) (upd H1 dx (.own x)) := Fr.newF (fresh_back ok1.p.fh ndx) ndx
    have nx2 : (upd H1 dx (.own x)) x = none := by rw [upd_ne (fun z => ne z.symm)]; exact nx
    have okx := okd.newO (p := x) (o := .ins C0 dx []) (ob := .ins C0 [] []) nx2 ⟨dx, [], upd_same, rfl, .nil⟩
    have q2 := ((q.step fr1 al1).step frd al_new).step (Fr.newO (ob := .ins C0 [] []) (o := .ins C0 dx []) nx2) al_new
    have hO : ∀ a ∈ ((x, OB.ins C0 [] []) :: toFoot T1).map (·.1), a ∈ ads (⟨x, true, .ins C0 [] []⟩ :: T1) := fun a ha => by
      rw [List.map_cons, toFoot_fst] at ha
      exact ha
    have hob : ∀ {os : List OB} {new : Foot} {ob : OB} {F2 H2 : Hp}, os = ob :: T1.map (·.ob) → EndP K (upd F1 dx (.own x)) (upd (upd H1 dx (.own x)) x (.ins C0 dx [])) ((x, OB.ins C0 [] []) :: toFoot T1) os new F2 H2 →
        ∀ (i : Nat) (e e' : Ow), (⟨x, true, .ins C0 [] []⟩ :: T1 : Tb)[i]? = some e → (⟨x, true, ob⟩ :: T1 : Tb)[i]? = some e' → (e.a ∉ ((x, OB.ins C0 [] []) :: toFoot T1).map (·.1) ∧ e'.ob = e.ob) ∨ IsO K F2 H2 e.a e'.ob := by
      intro os new ob F2 H2 hos ep i e e' h1 h2
      refine .inr ?_
      have z : e'.a = e.a := by
        match i, h1, h2 with
        | 0, h1, h2 => cases h1; cases h2; rfl
        | i + 1, h1, h2 =>
          have h1' : T1[i]? = some e := h1
          have h2' : T1[i]? = some e' := h2
          rw [h1'] at h2'
          cases h2'
          rfl
      have w := (ep.ow (e.a, e'.ob) ?_).2
      · exact w
      · rw [hos, List.map_cons, toFoot_fst]
        refine List.mem_of_getElem? (i := i) ?_
        rw [List.getElem?_zip_eq_some]
        match i, h1, h2 with
        | 0, h1, h2 => cases h1; cases h2; exact ⟨rfl, rfl⟩
        | i + 1, h1, h2 =>
          have h1' : T1[i]? = some e := h1
          have h2' : T1[i]? = some e' := h2
          exact ⟨by simp [h1'], by simp [h2']⟩
    refine ⟨upd F1 dx (.own x), .adr x :: dd, (x, .ins C0 [] []) :: toFoot T1, _, _, okx.p.fh, .cons (.adr x) (i1.mono (okd.p.ff |> fun _ => (ok1.newF (p := dx) (o := .own x) ndx).2)), fun e he => ?_, ?_, p1 x, ?_, ?_⟩
    · rcases List.mem_cons.mp he with rfl | he
      · have w := okx.ow _ (List.mem_cons_self ..)
        exact ⟨w.f, w.o⟩
      · obtain ⟨e0, he0, rfl⟩ := List.mem_map.mp he
        have w := okx.ow e0 (List.mem_cons_of_mem _ he0)
        exact ⟨w.f, w.o⟩
    · rw [List.map_cons, toFoot_fst]
      exact okx.nd
    · rintro v d os new F2 H2 ⟨rfl, ob, hos, p⟩ ep iv
      cases iv
      exact ⟨rfl, q2.called (T' := ⟨x, true, ob⟩ :: T1) okx ep hO rfl rfl (hob hos ep) (.adr x) p⟩
    · rintro cls os F2 H2 ⟨ob, hos, p⟩ ep
      exact hx cls _ F2 σ H2 p (okx.called (T' := ⟨x, true, ob⟩ :: T1) ep.po hO rfl rfl (hob hos ep)).1
/-- __init__'s return -/
theorem retI {Pd : D → List OB → Foot → Prop} {Tr : Foot} {x : Addr} {o ob : OB} (h : Pd .non (ob :: Tr.map (·.2)) []) (hm : ⟨x, false, ob⟩ ∈ T) (hs : ∀ e ∈ foot Tr, e ∈ T) : Ret Pd ((x, o) :: Tr) .non T :=
  .mk _ [] h (by simp) (fun m a y h1 h2 => by
    match m, h1, h2 with
    | 0, h1, h2 =>
      cases h1
      cases h2
      exact hm
    | m + 1, h1, h2 => exact hs _ (foot_mem (Tf := Tr) h1 h2)) (fun _ z => by cases z) List.nodup_nil

/-! ### ghost steps -/
theorem AS.ghost (h : ∀ F σ H, Ok K E F ds T σ H → ∃ F' ds' T', Ex F F' ∧ Ok K E F' ds' T' σ H ∧ AS K E t ds' T' N R B C) : AS K E t ds T N R B C := fun F σ H D ok k => by
  obtain ⟨F', ds', T', e, ok', q⟩ := h F σ H ok
  exact q F' σ H D ok' (k.up e)
/-- the owned objects behind the first are frozen -/
theorem Ok.frozAll {pre : Tb} : ∀ {L : Tb} {F : Hp}, Ok K E F ds (pre ++ L) σ H → (∀ e ∈ L, e.loc = true) → ∃ F', Ex F F' ∧ Ok K E F' ds pre σ H ∧ ∀ e ∈ L, Is K F' (.ref e.a) e.ob.d
  | [], F, ok, _ => ⟨F, Ex.refl F, by rw [List.append_nil] at ok; exact ok, fun e he => by cases he⟩
  | e :: L, F, ok, hl => by
    have hj : (pre ++ e :: L)[pre.length]? = some e := by rw [List.getElem?_append_right (Nat.le_refl _), Nat.sub_self]; rfl
    obtain ⟨F1, ok1, e1, i1, _⟩ := ok.froz hj (hl e (List.mem_cons_self ..))
    have er : (pre ++ e :: L).eraseIdx pre.length = pre ++ L := by
      rw [List.eraseIdx_append_of_length_le (Nat.le_refl _), Nat.sub_self]
      rfl
    rw [er] at ok1
    obtain ⟨F2, e2, ok2, i2⟩ := ok1.frozAll fun x hx => hl x (List.mem_cons_of_mem _ hx)
    refine ⟨F2, e1.trans e2, ok2, fun x hx => ?_⟩
    rcases List.mem_cons.mp hx with rfl | hx
    · exact i1.mono e2
    · exact i2 x hx
theorem Ok.retell {j : Nat} {e : Ow} {ob : OB} (ok : Ok K E F ds T σ H) (hj : T[j]? = some e) (h : IsO K F H e.a e.ob → IsO K F H e.a ob) : Ok K E F ds (T.set j { e with ob := ob }) σ H := by
  have e1 := (set_maps (T := T) (ob := ob) hj).1
  refine ⟨ok.p, ok.ln, ok.sl, fun x hx => ?_, by rw [e1]; exact ok.nd⟩
  rcases List.mem_or_eq_of_mem_set hx with hx | rfl
  · exact ok.ow x hx
  · have w := ok.ow e (List.mem_of_getElem? hj)
    exact ⟨w.f, h w.o, w.l, w.g⟩
end
theorem foot_cons (a : Addr) (o : OB) (T : Foot) : foot ((a, o) :: T) = ⟨a, false, o⟩ :: foot T := rfl
theorem foot_nil : foot [] = [] := rfl
theorem cmul64 {i j : Int} (h1 : i.natAbs < 2 ^ 64) (h2 : j.natAbs < 2 ^ 64) : CMulW i j := wide_mul h1 h2 (by decide) (by decide) (by decide)
section
variable {K : PySem.W.Frag} {E : Ent} {T : Tb} {d : D} {xs : List D}
theorem tru_listE {Q : Bool → Prop} (l : LV T d xs) (p : Q (!xs.isEmpty)) : ∃ k, Tru K E T d k ∧ Q k := ⟨_, tru_list l, p⟩
theorem lvE {Q : Prop} (l : LV T d xs) (p : Q) : (∃ xs, LV T d xs) ∧ Q := ⟨⟨xs, l⟩, p⟩
end
section
variable {K : PySem.W.Frag} {E : Ent} {ds : Sls} {T : Tb} {P : PD} {ta : TA} {te : TE} {tt : TT} {g : TG}
theorem ae_lcR2 {is vs : List Nat} (hs : ∀ i ∈ is, i ∈ vs) (h : AA K E ta ds T fun dd T1 => ∃ lo n : Int, dd = [.int lo, .int n] ∧ lo.natAbs ≤ 2000000000000000000 ∧ n.natAbs ≤ 2000000000000000000 ∧ ∃ J : Nat → List D → Tb → Prop, J 0 [] T1 ∧
      (∀ i acc T', i < (n - lo).toNat → J i acc T' → AG K E is g (wipeD ds vs) T' (.int (lo + (i : Int))) fun ds2 T2 => AT K E tt ds2 T2 fun b T3 => if b = true then AE K E te ds2 T3 fun y T4 => acc.length < 100000 ∧ J (i + 1) (acc ++ [y]) T4 else J (i + 1) acc T3) ∧
      LcP J (n - lo).toNat P) : AE K E (tLc (iRng2 ta) g tt te vs) ds T P := fun F σ H Q ok q => h F σ H _ ok fun us dd T1 F1 H1 ⟨lo, n, hd, hlo, hn, J, j0, jst, jend⟩ ok1 fr1 al1 iv => by
  subst hd
  cases iv with
  | cons i1 t =>
    cases i1
    cases t with
    | cons i2 t =>
      cases i2
      cases t
      exact ⟨lo, n, rfl, ⟨by omega, by omega, by omega, by omega⟩, fun Dl hD => lcR_core hs J j0 ok1 jst (q.step fr1 al1) jend Dl hD⟩
theorem cutX_from {α : Type} (xs : List α) (k : Nat) : cutX xs (some (k : Int)) none = xs.drop k := by
  unfold cutX
  rw [HT.sIx_nat, HT.sIx_none]
  by_cases h : k ≤ xs.length
  · rw [Nat.min_eq_left h, List.take_of_length_le (by rw [List.length_drop]; exact Nat.le_refl _)]
  · rw [Nat.min_eq_right (by omega), List.drop_of_length_le (Nat.le_refl _), List.drop_of_length_le (by omega), List.take_nil]
theorem cutX_to {α : Type} (xs : List α) (k : Nat) : cutX xs none (some (k : Int)) = xs.take k := by
  unfold cutX
  rw [HT.sIx_nat, HT.sIx_none, List.drop_zero, Nat.sub_zero]
  by_cases h : k ≤ xs.length
  · rw [Nat.min_eq_left h]
  · rw [Nat.min_eq_right (by omega), List.take_length, List.take_of_length_le (by omega)]
end
section
variable {K : PySem.W.Frag} {E : Ent} {ds : Sls} {T : Tb} {P : PD} {ta : TA} {te tl : TE} {tt : TT} {g : TG}
abbrev LcTurn (K : PySem.W.Frag) (E : Ent) (g : TG) (tt : TT) (te : TE) (is vs : List Nat) (ds : Sls) (J : Nat → List D → Tb → Prop) (i : Nat) (acc : List D) (T' : Tb) (x : D) : Prop :=
  AG K E is g (wipeD ds vs) T' x fun ds2 T2 => AT K E tt ds2 T2 fun b T3 => if b = true then AE K E te ds2 T3 fun y T4 => acc.length < 100000 ∧ J (i + 1) (acc ++ [y]) T4 else J (i + 1) acc T3
theorem lcRF {is vs : List Nat} (hs : ∀ i ∈ is, i ∈ vs) (h : AA K E ta ds T fun dd T1 => ∃ n : Int, dd = [.int n] ∧ n.natAbs ≤ 2000000000000000000 ∧ ∃ J : Nat → List D → Tb → Prop, J 0 [] T1 ∧
      (∀ i acc T', i < n.toNat → J i acc T' → LcTurn K E g tt te is vs ds J i acc T' (.int (i : Int))) ∧ ∀ acc T', J n.toNat acc T' → P (.lst acc) T') : AE K E (tLc (iRng1 ta) g tt te vs) ds T P :=
  AE.froz (ae_lcR hs (h.imp fun dd T1 ⟨n, hd, hn, J, j0, jst, jend⟩ => ⟨n, hd, hn, J, j0, jst, lcP_froz jend⟩))
theorem lcR2F {is vs : List Nat} (hs : ∀ i ∈ is, i ∈ vs) (h : AA K E ta ds T fun dd T1 => ∃ lo n : Int, dd = [.int lo, .int n] ∧ lo.natAbs ≤ 2000000000000000000 ∧ n.natAbs ≤ 2000000000000000000 ∧ ∃ J : Nat → List D → Tb → Prop, J 0 [] T1 ∧
      (∀ i acc T', i < (n - lo).toNat → J i acc T' → LcTurn K E g tt te is vs ds J i acc T' (.int (lo + (i : Int)))) ∧ ∀ acc T', J (n - lo).toNat acc T' → P (.lst acc) T') : AE K E (tLc (iRng2 ta) g tt te vs) ds T P :=
  AE.froz (ae_lcR2 hs (h.imp fun dd T1 ⟨lo, n, hd, hlo, hn, J, j0, jst, jend⟩ => ⟨lo, n, hd, hlo, hn, J, j0, jst, lcP_froz jend⟩))
theorem lcLF {is vs : List Nat} (hs : ∀ i ∈ is, i ∈ vs) (h : AE K E tl ds T fun d T1 => ∃ xs, LV T1 d xs ∧ ∃ J : Nat → List D → Tb → Prop, J 0 [] T1 ∧ (∀ i acc T', i ≤ xs.length → J i acc T' → LV T' d xs) ∧
      (∀ i x acc T', xs[i]? = some x → J i acc T' → LcTurn K E g tt te is vs ds J i acc T' x) ∧ ∀ acc T', J xs.length acc T' → P (.lst acc) T') : AE K E (tLc (iU K tl) g tt te vs) ds T P :=
  ae_uL (AE.froz (ae_lcL hs (h.imp fun d T1 ⟨xs, l, J, j0, jl, jst, jend⟩ => ⟨xs, l, J, j0, jl, jst, lcP_froz jend⟩)))
theorem lcTF {is vs : List Nat} (hs : ∀ i ∈ is, i ∈ vs) (h : AE K E tl ds T fun d T1 => ∃ xs, d = .tup xs ∧ ∃ J : Nat → List D → Tb → Prop, J 0 [] T1 ∧
      (∀ i x acc T', xs[i]? = some x → J i acc T' → LcTurn K E g tt te is vs ds J i acc T' x) ∧ ∀ acc T', J xs.length acc T' → P (.lst acc) T') : AE K E (tLc (iU K tl) g tt te vs) ds T P :=
  ae_uT (AE.froz (ae_lcT hs (h.imp fun d T1 ⟨xs, hd, J, j0, jst, jend⟩ => ⟨xs, hd, J, j0, jst, lcP_froz jend⟩)))
theorem if_t {p q : Prop} {b : Bool} (hb : b = true) (h : p) : if b = true then p else q := by rw [if_pos hb]; exact h
theorem if_f {p q : Prop} {b : Bool} (hb : b = false) (h : q) : if b = true then p else q := by rw [if_neg (by rw [hb]; exact Bool.false_ne_true)]; exact h
theorem if_b {p q : Prop} {b : Bool} (h1 : b = true → p) (h2 : b = false → q) : if b = true then p else q := by
  cases b with
  | true => exact h1 rfl
  | false => exact h2 rfl
/-- a name whose owned list is frozen as it is read -/
theorem ae_take {i : Nat} (j : Nat) {a : Addr} {ob : OB} (h : ds[i]? = some (some (.adr a))) (hj : T[j]? = some ⟨a, true, ob⟩) (p : P ob.d (T.eraseIdx j)) : AE K E (tVar i) ds T P := AE.froz (ae_var h ⟨j, _, hj, rfl, rfl, p⟩)
end
theorem as_mid {K : PySem.W.Frag} {E : Ent} {ds : Sls} {T : Tb} {t u : TS} {N B C : PS2} {R : PD} (M : PS2) (h : AS K E t ds T M R B C) (k : ∀ ds' T', M ds' T' → AS K E u ds' T' N R B C) : AS K E (tSeq t u) ds T N R B C := as_seq (h.imp k)
theorem toFoot_snd {T : Tb} : (toFoot T).map (·.2) = T.map (·.ob) := by unfold toFoot; rw [List.map_map]; rfl
section
variable {K : PySem.W.Frag} {E : Ent} {F H : Hp} {ds : Sls} {T : Tb} {σ : L2.St} {P : PD} {tr : TA} {v : V}
theorem Ok.fresh_ads {p : Addr} (ok : Ok K E F ds T σ H) (hp : H p = none) : p ∉ ads T := fun hm => by
  obtain ⟨e, he, q⟩ := List.mem_map.mp hm
  obtain ⟨u, hu⟩ := (ok.ow e he).o.there
  rw [q, hp] at hu
  cases hu
/-- a new owned list, apart from all that is owned -/
theorem ae_lstN (h : AA K E tr ds T fun dd T' => dd.length ≤ 100000 ∧ ∀ p, p ∉ ads T' → P (.adr p) (⟨p, true, .lst dd⟩ :: T')) : AE K E (tLst tr) ds T P := fun F σ H Q ok q =>
  h F σ H _ ok fun vs dd T1 F1 H1 ⟨hl, p1⟩ ok1 fr1 al1 i1 => ⟨by rw [i1.len]; exact sz_of hl, fun p hp => (q.step fr1 al1).newO ok1 hp (p1 p (ok1.fresh_ads hp)) ⟨vs, upd_same, i1⟩⟩
/-- the owned objects in front are frozen -/
theorem Ok.frozFront : ∀ {L pre : Tb} {F : Hp}, Ok K E F ds (L ++ pre) σ H → (∀ e ∈ L, e.loc = true) → ∃ F', Ex F F' ∧ Ok K E F' ds pre σ H ∧ ∀ e ∈ L, Is K F' (.ref e.a) e.ob.d
  | [], pre, F, ok, _ => ⟨F, Ex.refl F, ok, fun e he => by cases he⟩
  | e :: L, pre, F, ok, hl => by
    obtain ⟨F1, ok1, e1, i1, _⟩ := ok.froz (j := 0) rfl (hl e (List.mem_cons_self ..))
    obtain ⟨F2, e2, ok2, i2⟩ := Ok.frozFront (L := L) (pre := pre) ok1 fun x hx => hl x (List.mem_cons_of_mem _ hx)
    refine ⟨F2, e1.trans e2, ok2, fun x hx => ?_⟩
    rcases List.mem_cons.mp hx with rfl | hx
    · exact i1.mono e2
    · exact i2 x hx
theorem adrs_are : ∀ {as : List Addr} {vs : List V}, IsA K F vs (as.map D.adr) → vs = as.map V.ref
  | [], _, .nil => rfl
  | a :: as, _, .cons h t => by
    cases h
    rw [adrs_are t]
    rfl
theorem isA_refs : ∀ {as : List Addr} {xs : List D}, as.length = xs.length → (∀ (n : Nat) (a : Addr) (d : D), as[n]? = some a → xs[n]? = some d → Is K F (.ref a) d) → IsA K F (as.map V.ref) xs
  | [], [], _, _ => .nil
  | a :: as, x :: xs, h, k => .cons (k 0 a x rfl rfl) (isA_refs (by simpa using h) fun n b d h1 h2 => k (n + 1) b d h1 h2)
end
theorem as_end {K : PySem.W.Frag} {E : Ent} {ds : Sls} {T : Tb} {t : TS} {N B C : PS2} {R : PD} (M : PS2) (h : AS K E t ds T M R B C) (k : ∀ ds' T', M ds' T' → AS K E tNext ds' T' N R B C) : AS K E t ds T N R B C := fun F σ H D ok c =>
  h F σ H D ok ⟨fun ds' T' F' σ' H' m ok' e => k ds' T' m F' σ' H' D ok' (c.up e), c.r, c.b, c.c⟩
end AW

namespace K14
open PySem PySem.Spec PyProof.Rows L2 Evl AW
def top (i : Nat) : Stmt := PySem.Challenge.pw_whatledhere_k14_raw_rules_play.main.body.getD i (.Pass ⟨0, 0, 0, 0⟩)
abbrev s_Rules_init : Stmt := inClass (top 5) 0
abbrev s_Rules_of_head : Stmt := inClass (top 5) 1
abbrev s_moves : Stmt := top 6
abbrev s_play : Stmt := top 7
abbrev s__law_pool : Stmt := top 9
abbrev s__law_next : Stmt := top 10
abbrev s__law_same : Stmt := top 11
abbrev s__law_rows : Stmt := top 12
abbrev s__law_numbers : Stmt := top 13
abbrev s__law_moves : Stmt := top 14
abbrev s__law_walk : Stmt := top 15
abbrev s__law_wrongs : Stmt := top 16
abbrev s__law_refused : Stmt := top 17
abbrev s__law_heads_right : Stmt := top 18
abbrev s__law_run_right : Stmt := top 19
abbrev s__law_right : Stmt := top 20
abbrev s_law : Stmt := top 21
def fa : List He.Fa := [.glo "moves", .glo "play", .glo "_law_pool", .glo "_law_next", .glo "_law_same", .glo "_law_rows", .glo "_law_numbers", .glo "_law_moves", .glo "_law_walk", .glo "_law_wrongs", .glo "_law_refused", .glo "_law_heads_right", .glo "_law_run_right", .glo "_law_right", .glo "law", .glo "LedError", .exc "LedError", .glo "NoStep", .exc "NoStep", .glo "TooMany", .glo "Rules", .cls "Rules", .mkr "Rules", .noat "Rules" "worlds", .noat "Rules" "frames", .noat "Rules" "rows", .noat "Rules" "by_head", .meth "Rules" "of_head", .free "abs", .free "int", .free "isinstance", .free "len", .free "list", .free "min", .free "range", .free "repr", .free "str", .free "tuple", .exm "LedError" "LedError" true, .exm "LedError" "NoStep" false, .exm "LedError" "TooMany" false, .exm "NoStep" "LedError" true, .exm "NoStep" "NoStep" true, .exm "NoStep" "TooMany" false, .exm "TooMany" "LedError" true, .exm "TooMany" "NoStep" false, .exm "TooMany" "TooMany" true]
def d_Rules_init : He.DefD := ⟨("Rules", some "__init__"), "__init__", "Rules.__init__", defArgs s_Rules_init, defBody s_Rules_init, defScope s_Rules_init, [], []⟩
def d_Rules_of_head : He.DefD := ⟨("Rules", some "of_head"), "of_head", "Rules.of_head", defArgs s_Rules_of_head, defBody s_Rules_of_head, defScope s_Rules_of_head, [], []⟩
def d_moves : He.DefD := ⟨("moves", none), "moves", "moves", defArgs s_moves, defBody s_moves, defScope s_moves, [], []⟩
def d_play : He.DefD := ⟨("play", none), "play", "play", defArgs s_play, defBody s_play, defScope s_play, [], []⟩
def d__law_pool : He.DefD := ⟨("_law_pool", none), "_law_pool", "_law_pool", defArgs s__law_pool, defBody s__law_pool, defScope s__law_pool, [], []⟩
def d__law_next : He.DefD := ⟨("_law_next", none), "_law_next", "_law_next", defArgs s__law_next, defBody s__law_next, defScope s__law_next, [], []⟩
def d__law_same : He.DefD := ⟨("_law_same", none), "_law_same", "_law_same", defArgs s__law_same, defBody s__law_same, defScope s__law_same, [], []⟩
def d__law_rows : He.DefD := ⟨("_law_rows", none), "_law_rows", "_law_rows", defArgs s__law_rows, defBody s__law_rows, defScope s__law_rows, [], []⟩
def d__law_numbers : He.DefD := ⟨("_law_numbers", none), "_law_numbers", "_law_numbers", defArgs s__law_numbers, defBody s__law_numbers, defScope s__law_numbers, [], []⟩
def d__law_moves : He.DefD := ⟨("_law_moves", none), "_law_moves", "_law_moves", defArgs s__law_moves, defBody s__law_moves, defScope s__law_moves, [], []⟩
def d__law_walk : He.DefD := ⟨("_law_walk", none), "_law_walk", "_law_walk", defArgs s__law_walk, defBody s__law_walk, defScope s__law_walk, [], []⟩
def d__law_wrongs : He.DefD := ⟨("_law_wrongs", none), "_law_wrongs", "_law_wrongs", defArgs s__law_wrongs, defBody s__law_wrongs, defScope s__law_wrongs, [], []⟩
def d__law_refused : He.DefD := ⟨("_law_refused", none), "_law_refused", "_law_refused", defArgs s__law_refused, defBody s__law_refused, defScope s__law_refused, [], []⟩
def d__law_heads_right : He.DefD := ⟨("_law_heads_right", none), "_law_heads_right", "_law_heads_right", defArgs s__law_heads_right, defBody s__law_heads_right, defScope s__law_heads_right, [], []⟩
def d__law_run_right : He.DefD := ⟨("_law_run_right", none), "_law_run_right", "_law_run_right", defArgs s__law_run_right, defBody s__law_run_right, defScope s__law_run_right, [], []⟩
def d__law_right : He.DefD := ⟨("_law_right", none), "_law_right", "_law_right", defArgs s__law_right, defBody s__law_right, defScope s__law_right, [], []⟩
def d_law : He.DefD := ⟨("law", none), "law", "law", defArgs s_law, defBody s_law, defScope s_law, [], []⟩
def fn : List He.DefD := [d_Rules_init, d_Rules_of_head, d_moves, d_play, d__law_pool, d__law_next, d__law_same, d__law_rows, d__law_numbers, d__law_moves, d__law_walk, d__law_wrongs, d__law_refused, d__law_heads_right, d__law_run_right, d__law_right, d_law]
structure Top (K : PySem.W.Frag) (mg : Str → Option Value) where
  g_abs : mg "abs" = none
  g_int : mg "int" = none
  g_isinstance : mg "isinstance" = none
  g_len : mg "len" = none
  g_list : mg "list" = none
  g_min : mg "min" = none
  g_range : mg "range" = none
  g_repr : mg "repr" = none
  g_str : mg "str" = none
  g_tuple : mg "tuple" = none
  fd_Rules_init : FuncData
  F_Rules_init : FunD K "__init__" "Rules.__init__" (defArgs s_Rules_init) (defBody s_Rules_init) (defScope s_Rules_init) [] [] (He.ma K (He.ga K "Rules") "__init__") fd_Rules_init
  fd_Rules_of_head : FuncData
  F_Rules_of_head : FunD K "of_head" "Rules.of_head" (defArgs s_Rules_of_head) (defBody s_Rules_of_head) (defScope s_Rules_of_head) [] [] (He.ma K (He.ga K "Rules") "of_head") fd_Rules_of_head
  m_moves : mg "moves" = some (.ref (He.ga K "moves"))
  fd_moves : FuncData
  F_moves : FunD K "moves" "moves" (defArgs s_moves) (defBody s_moves) (defScope s_moves) [] [] (He.ga K "moves") fd_moves
  m_play : mg "play" = some (.ref (He.ga K "play"))
  fd_play : FuncData
  F_play : FunD K "play" "play" (defArgs s_play) (defBody s_play) (defScope s_play) [] [] (He.ga K "play") fd_play
  m__law_pool : mg "_law_pool" = some (.ref (He.ga K "_law_pool"))
  fd__law_pool : FuncData
  F__law_pool : FunD K "_law_pool" "_law_pool" (defArgs s__law_pool) (defBody s__law_pool) (defScope s__law_pool) [] [] (He.ga K "_law_pool") fd__law_pool
  m__law_next : mg "_law_next" = some (.ref (He.ga K "_law_next"))
  fd__law_next : FuncData
  F__law_next : FunD K "_law_next" "_law_next" (defArgs s__law_next) (defBody s__law_next) (defScope s__law_next) [] [] (He.ga K "_law_next") fd__law_next
  m__law_same : mg "_law_same" = some (.ref (He.ga K "_law_same"))
  fd__law_same : FuncData
  F__law_same : FunD K "_law_same" "_law_same" (defArgs s__law_same) (defBody s__law_same) (defScope s__law_same) [] [] (He.ga K "_law_same") fd__law_same
  m__law_rows : mg "_law_rows" = some (.ref (He.ga K "_law_rows"))
  fd__law_rows : FuncData
  F__law_rows : FunD K "_law_rows" "_law_rows" (defArgs s__law_rows) (defBody s__law_rows) (defScope s__law_rows) [] [] (He.ga K "_law_rows") fd__law_rows
  m__law_numbers : mg "_law_numbers" = some (.ref (He.ga K "_law_numbers"))
  fd__law_numbers : FuncData
  F__law_numbers : FunD K "_law_numbers" "_law_numbers" (defArgs s__law_numbers) (defBody s__law_numbers) (defScope s__law_numbers) [] [] (He.ga K "_law_numbers") fd__law_numbers
  m__law_moves : mg "_law_moves" = some (.ref (He.ga K "_law_moves"))
  fd__law_moves : FuncData
  F__law_moves : FunD K "_law_moves" "_law_moves" (defArgs s__law_moves) (defBody s__law_moves) (defScope s__law_moves) [] [] (He.ga K "_law_moves") fd__law_moves
  m__law_walk : mg "_law_walk" = some (.ref (He.ga K "_law_walk"))
  fd__law_walk : FuncData
  F__law_walk : FunD K "_law_walk" "_law_walk" (defArgs s__law_walk) (defBody s__law_walk) (defScope s__law_walk) [] [] (He.ga K "_law_walk") fd__law_walk
  m__law_wrongs : mg "_law_wrongs" = some (.ref (He.ga K "_law_wrongs"))
  fd__law_wrongs : FuncData
  F__law_wrongs : FunD K "_law_wrongs" "_law_wrongs" (defArgs s__law_wrongs) (defBody s__law_wrongs) (defScope s__law_wrongs) [] [] (He.ga K "_law_wrongs") fd__law_wrongs
  m__law_refused : mg "_law_refused" = some (.ref (He.ga K "_law_refused"))
  fd__law_refused : FuncData
  F__law_refused : FunD K "_law_refused" "_law_refused" (defArgs s__law_refused) (defBody s__law_refused) (defScope s__law_refused) [] [] (He.ga K "_law_refused") fd__law_refused
  m__law_heads_right : mg "_law_heads_right" = some (.ref (He.ga K "_law_heads_right"))
  fd__law_heads_right : FuncData
  F__law_heads_right : FunD K "_law_heads_right" "_law_heads_right" (defArgs s__law_heads_right) (defBody s__law_heads_right) (defScope s__law_heads_right) [] [] (He.ga K "_law_heads_right") fd__law_heads_right
  m__law_run_right : mg "_law_run_right" = some (.ref (He.ga K "_law_run_right"))
  fd__law_run_right : FuncData
  F__law_run_right : FunD K "_law_run_right" "_law_run_right" (defArgs s__law_run_right) (defBody s__law_run_right) (defScope s__law_run_right) [] [] (He.ga K "_law_run_right") fd__law_run_right
  m__law_right : mg "_law_right" = some (.ref (He.ga K "_law_right"))
  fd__law_right : FuncData
  F__law_right : FunD K "_law_right" "_law_right" (defArgs s__law_right) (defBody s__law_right) (defScope s__law_right) [] [] (He.ga K "_law_right") fd__law_right
  m_law : mg "law" = some (.ref (He.ga K "law"))
  fd_law : FuncData
  F_law : FunD K "law" "law" (defArgs s_law) (defBody s_law) (defScope s_law) [] [] (He.ga K "law") fd_law
  m_LedError : mg "LedError" = some (.ref (He.ga K "LedError"))
  x_LedError : PySem.W.excIn K (He.ga K "LedError") He.veBase "ValueError.__new__" = true
  k_LedError : PySem.W.keepIn K (.ref (He.ga K "LedError")) = true
  b_LedError : PySem.W.subIn K (.ref (He.ga K "LedError")) (.type "BaseException") = some true
  t_LedError : PySem.W.typeIn K (.ref (He.ga K "LedError")) = some (.type "type")
  m_NoStep : mg "NoStep" = some (.ref (He.ga K "NoStep"))
  x_NoStep : PySem.W.excIn K (He.ga K "NoStep") He.veBase "ValueError.__new__" = true
  k_NoStep : PySem.W.keepIn K (.ref (He.ga K "NoStep")) = true
  b_NoStep : PySem.W.subIn K (.ref (He.ga K "NoStep")) (.type "BaseException") = some true
  t_NoStep : PySem.W.typeIn K (.ref (He.ga K "NoStep")) = some (.type "type")
  m_TooMany : mg "TooMany" = some (.ref (He.ga K "TooMany"))
  m_Rules : mg "Rules" = some (.ref (He.ga K "Rules"))
  cl_Rules : Cls K (He.ga K "Rules")
  mk_Rules : Mk K (He.ga K "Rules") (He.ma K (He.ga K "Rules") "__init__")
  na_Rules_worlds : NoAttr K (He.ga K "Rules") "worlds"
  na_Rules_frames : NoAttr K (He.ga K "Rules") "frames"
  na_Rules_rows : NoAttr K (He.ga K "Rules") "rows"
  na_Rules_by_head : NoAttr K (He.ga K "Rules") "by_head"
  me_Rules_of_head : Meth K (He.ga K "Rules") "of_head" (He.ma K (He.ga K "Rules") "of_head")
  e_LedError_LedError : PySem.W.exmOne K (.ref (He.ga K "LedError")) (.ref (He.ga K "LedError")) = some true
  e_LedError_NoStep : PySem.W.exmOne K (.ref (He.ga K "LedError")) (.ref (He.ga K "NoStep")) = some false
  e_LedError_TooMany : PySem.W.exmOne K (.ref (He.ga K "LedError")) (.ref (He.ga K "TooMany")) = some false
  e_NoStep_LedError : PySem.W.exmOne K (.ref (He.ga K "NoStep")) (.ref (He.ga K "LedError")) = some true
  e_NoStep_NoStep : PySem.W.exmOne K (.ref (He.ga K "NoStep")) (.ref (He.ga K "NoStep")) = some true
  e_NoStep_TooMany : PySem.W.exmOne K (.ref (He.ga K "NoStep")) (.ref (He.ga K "TooMany")) = some false
  e_TooMany_LedError : PySem.W.exmOne K (.ref (He.ga K "TooMany")) (.ref (He.ga K "LedError")) = some true
  e_TooMany_NoStep : PySem.W.exmOne K (.ref (He.ga K "TooMany")) (.ref (He.ga K "NoStep")) = some false
  e_TooMany_TooMany : PySem.W.exmOne K (.ref (He.ga K "TooMany")) (.ref (He.ga K "TooMany")) = some true
theorem top_of {K : PySem.W.Frag} {h : Heap} {mg : Str → Option Value} (X : K.In h) (G : h.Ns mainGlobals mg) (c : He.SaysD fa fn K) : Nonempty (Top K mg) := by
  obtain ⟨fd_Rules_init, F_Rules_init⟩ := c.def_ 0 (d := d_Rules_init) rfl
  obtain ⟨fd_Rules_of_head, F_Rules_of_head⟩ := c.def_ 1 (d := d_Rules_of_head) rfl
  obtain ⟨fd_moves, F_moves⟩ := c.def_ 2 (d := d_moves) rfl
  obtain ⟨fd_play, F_play⟩ := c.def_ 3 (d := d_play) rfl
  obtain ⟨fd__law_pool, F__law_pool⟩ := c.def_ 4 (d := d__law_pool) rfl
  obtain ⟨fd__law_next, F__law_next⟩ := c.def_ 5 (d := d__law_next) rfl
  obtain ⟨fd__law_same, F__law_same⟩ := c.def_ 6 (d := d__law_same) rfl
  obtain ⟨fd__law_rows, F__law_rows⟩ := c.def_ 7 (d := d__law_rows) rfl
  obtain ⟨fd__law_numbers, F__law_numbers⟩ := c.def_ 8 (d := d__law_numbers) rfl
  obtain ⟨fd__law_moves, F__law_moves⟩ := c.def_ 9 (d := d__law_moves) rfl
  obtain ⟨fd__law_walk, F__law_walk⟩ := c.def_ 10 (d := d__law_walk) rfl
  obtain ⟨fd__law_wrongs, F__law_wrongs⟩ := c.def_ 11 (d := d__law_wrongs) rfl
  obtain ⟨fd__law_refused, F__law_refused⟩ := c.def_ 12 (d := d__law_refused) rfl
  obtain ⟨fd__law_heads_right, F__law_heads_right⟩ := c.def_ 13 (d := d__law_heads_right) rfl
  obtain ⟨fd__law_run_right, F__law_run_right⟩ := c.def_ 14 (d := d__law_run_right) rfl
  obtain ⟨fd__law_right, F__law_right⟩ := c.def_ 15 (d := d__law_right) rfl
  obtain ⟨fd_law, F_law⟩ := c.def_ 16 (d := d_law) rfl
  have ex_LedError := He.exc_ok (c.fact 16 (f := .exc "LedError") rfl)
  have ex_NoStep := He.exc_ok (c.fact 18 (f := .exc "NoStep") rfl)
  exact ⟨⟨He.free_ok X G (c.fact 28 (f := .free "abs") rfl),
    He.free_ok X G (c.fact 29 (f := .free "int") rfl),
    He.free_ok X G (c.fact 30 (f := .free "isinstance") rfl),
    He.free_ok X G (c.fact 31 (f := .free "len") rfl),
    He.free_ok X G (c.fact 32 (f := .free "list") rfl),
    He.free_ok X G (c.fact 33 (f := .free "min") rfl),
    He.free_ok X G (c.fact 34 (f := .free "range") rfl),
    He.free_ok X G (c.fact 35 (f := .free "repr") rfl),
    He.free_ok X G (c.fact 36 (f := .free "str") rfl),
    He.free_ok X G (c.fact 37 (f := .free "tuple") rfl),
    fd_Rules_init,
    F_Rules_init,
    fd_Rules_of_head,
    F_Rules_of_head,
    He.glo_ok X G (c.fact 0 (f := .glo "moves") rfl),
    fd_moves,
    F_moves,
    He.glo_ok X G (c.fact 1 (f := .glo "play") rfl),
    fd_play,
    F_play,
    He.glo_ok X G (c.fact 2 (f := .glo "_law_pool") rfl),
    fd__law_pool,
    F__law_pool,
    He.glo_ok X G (c.fact 3 (f := .glo "_law_next") rfl),
    fd__law_next,
    F__law_next,
    He.glo_ok X G (c.fact 4 (f := .glo "_law_same") rfl),
    fd__law_same,
    F__law_same,
    He.glo_ok X G (c.fact 5 (f := .glo "_law_rows") rfl),
    fd__law_rows,
    F__law_rows,
    He.glo_ok X G (c.fact 6 (f := .glo "_law_numbers") rfl),
    fd__law_numbers,
    F__law_numbers,
    He.glo_ok X G (c.fact 7 (f := .glo "_law_moves") rfl),
    fd__law_moves,
    F__law_moves,
    He.glo_ok X G (c.fact 8 (f := .glo "_law_walk") rfl),
    fd__law_walk,
    F__law_walk,
    He.glo_ok X G (c.fact 9 (f := .glo "_law_wrongs") rfl),
    fd__law_wrongs,
    F__law_wrongs,
    He.glo_ok X G (c.fact 10 (f := .glo "_law_refused") rfl),
    fd__law_refused,
    F__law_refused,
    He.glo_ok X G (c.fact 11 (f := .glo "_law_heads_right") rfl),
    fd__law_heads_right,
    F__law_heads_right,
    He.glo_ok X G (c.fact 12 (f := .glo "_law_run_right") rfl),
    fd__law_run_right,
    F__law_run_right,
    He.glo_ok X G (c.fact 13 (f := .glo "_law_right") rfl),
    fd__law_right,
    F__law_right,
    He.glo_ok X G (c.fact 14 (f := .glo "law") rfl),
    fd_law,
    F_law,
    He.glo_ok X G (c.fact 15 (f := .glo "LedError") rfl),
    ex_LedError.1,
    ex_LedError.2.1,
    ex_LedError.2.2.1,
    ex_LedError.2.2.2,
    He.glo_ok X G (c.fact 17 (f := .glo "NoStep") rfl),
    ex_NoStep.1,
    ex_NoStep.2.1,
    ex_NoStep.2.2.1,
    ex_NoStep.2.2.2,
    He.glo_ok X G (c.fact 19 (f := .glo "TooMany") rfl),
    He.glo_ok X G (c.fact 20 (f := .glo "Rules") rfl),
    He.cls_ok (c.fact 21 (f := .cls "Rules") rfl),
    He.mkr_ok (c.fact 22 (f := .mkr "Rules") rfl),
    He.noat_ok (c.fact 23 (f := .noat "Rules" "worlds") rfl),
    He.noat_ok (c.fact 24 (f := .noat "Rules" "frames") rfl),
    He.noat_ok (c.fact 25 (f := .noat "Rules" "rows") rfl),
    He.noat_ok (c.fact 26 (f := .noat "Rules" "by_head") rfl),
    He.meth_ok (c.fact 27 (f := .meth "Rules" "of_head") rfl),
    He.exm_ok (c.fact 38 (f := .exm "LedError" "LedError" true) rfl),
    He.exm_ok (c.fact 39 (f := .exm "LedError" "NoStep" false) rfl),
    He.exm_ok (c.fact 40 (f := .exm "LedError" "TooMany" false) rfl),
    He.exm_ok (c.fact 41 (f := .exm "NoStep" "LedError" true) rfl),
    He.exm_ok (c.fact 42 (f := .exm "NoStep" "NoStep" true) rfl),
    He.exm_ok (c.fact 43 (f := .exm "NoStep" "TooMany" false) rfl),
    He.exm_ok (c.fact 44 (f := .exm "TooMany" "LedError" true) rfl),
    He.exm_ok (c.fact 45 (f := .exm "TooMany" "NoStep" false) rfl),
    He.exm_ok (c.fact 46 (f := .exm "TooMany" "TooMany" true) rfl)⟩⟩
local macro_rules | `(tactic| walk_at "slots") => `(tactic| simp only [slots, foot_cons, foot_nil, List.map_cons, List.map_nil, List.length_cons, List.length_nil, List.cons_append, List.nil_append, Nat.reduceAdd, Nat.reduceSub, List.replicate_succ, List.replicate_zero, List.replicate])
local macro_rules | `(tactic| walk_at "red") => `(tactic| (try simp only [List.set_cons_succ, List.set_cons_zero, List.eraseIdx_cons_succ, List.eraseIdx_cons_zero, wipeD, news, List.map_nil, List.nil_append, ↓reduceIte]))
local macro_rules | `(tactic| walk_at "lv") => `(tactic| first | with_reducible exact .f _ | with_reducible exact .r _ | exact .own 0 rfl | exact .own 1 rfl | exact .own 2 rfl | exact .own 3 rfl | assumption)
local macro_rules | `(tactic| walk_at "ar") => `(tactic| first | assumption | omega | decide)
local macro_rules | `(tactic| walk_at "len") => `(tactic| (simp only [List.length_map, List.length_append, List.length_cons, List.length_nil]; omega))
local macro_rules | `(tactic| walk_at "e1") => `(tactic| first
  | ((with_reducible apply ae_var); (case h => rfl)) | with_reducible refine ae_int ?_ | with_reducible refine ae_bl ?_ | with_reducible refine ae_str ?_ | with_reducible refine ae_non ?_ | with_reducible refine ae_op ?_ | with_reducible refine ae_un ?_ | with_reducible refine aa_cons ?_ | with_reducible refine aa_nil ?_
  | with_reducible refine ae_cb ?_ | with_reducible refine at_test ?_ | with_reducible refine at_tru ?_ | with_reducible refine at_and ?_ | with_reducible refine at_or ?_ | with_reducible refine at_not ?_ | with_reducible refine at_yes ?_
  | with_reducible refine ae_tup ?_ | with_reducible refine ae_if ?_ | with_reducible refine ae_andT ?_ | with_reducible refine ae_orT ?_ | with_reducible refine ae_notT ?_ | with_reducible refine ae_sl ?_ | with_reducible refine ao_none ?_ | with_reducible refine ao_some ?_ | with_reducible refine ae_bmL ?_ | with_reducible refine ae_bm0L ?_
  | with_reducible refine rd_add ?_ | with_reducible refine rd_sub ?_ | with_reducible refine rd_lt ?_ | with_reducible refine rd_le ?_ | with_reducible refine rd_gt ?_ | with_reducible refine rd_ge ?_ | with_reducible refine rd_eqI ?_ | with_reducible refine rd_neI ?_ | with_reducible refine ru_neg ?_
  | with_reducible refine rc_int ?_ | with_reducible refine rc_intB ?_ | with_reducible refine rc_abs ?_ | with_reducible refine rc_min2 ?_
  | ((with_reducible refine rd_mod ?ha ?_); (case ha => walk_at "ar")) | ((with_reducible refine rd_pow ?ha ?_); (case ha => exact ⟨by decide, by decide, by decide⟩)) | ((with_reducible refine rd_div ?ha ?_); (case ha => exact ⟨by decide, by decide⟩))
  | with_reducible refine rc_lenT ?_ | ((with_reducible apply rc_lenL); (case l => walk_at "lv"))
  | with_reducible refine ⟨_, tru_bl, ?_⟩ | with_reducible refine ⟨_, tru_non, ?_⟩ | with_reducible refine ⟨_, tru_int, ?_⟩ | with_reducible refine ⟨_, tru_tup, ?_⟩ | ((with_reducible apply tru_listE); (case l => walk_at "lv"))
  | ((with_reducible apply lvE); (case l => walk_at "lv")) | with_reducible refine ⟨_, rfl, ?_⟩
  | ((with_reducible apply rm_append 0); (case hj => rfl); (case hl => walk_at "len")) | ((with_reducible apply rm_append 1); (case hj => rfl); (case hl => walk_at "len")) | ((with_reducible apply rm_append 2); (case hj => rfl); (case hl => walk_at "len"))
  | ((with_reducible refine And.intro (?hl : List.length _ ≤ 100000) ?_); (case hl => walk_at "len"))
  | with_reducible refine as_seq ?_ | with_reducible refine as_asg ?_ | with_reducible refine as_ret ?_ | with_reducible refine as_retN ?_ | with_reducible refine as_drop ?_ | with_reducible refine as_if ?_ | with_reducible refine as_next ?_ | with_reducible refine as_brk ?_ | with_reducible refine as_cont ?_)
local macro_rules | `(tactic| walk_at "e") => `(tactic| repeat (walk_at "e1" <;> walk_at "red"))
local macro_rules | `(tactic| walk_at "next") => `(tactic| (walk_at "e"; refine ⟨rfl, _, _, _, rfl, rfl, ?hn, ?_⟩; (case hn => walk_at "ar")))
local macro_rules | `(tactic| walk_at "nx") => `(tactic| (refine ⟨_, rfl, ?_⟩; walk_at "red"))

section
variable {P : Program} {w : World} {K : PySem.W.Frag} {mg : Str → Option Value} {base : Heap}
abbrev con_next : Con0 := fun dd T P PX => dd.length = 2 ∧ ∃ (l : Addr) (ns : List Int) (n : Int), dd = [.adr l, .int n] ∧ T = [(l, .lst (ns.map .int))] ∧ 0 < n ∧ ∀ (r : Int) (ns' : List Int), 0 ≤ r → r < n → P (.int r) [.lst (ns'.map .int)] []
theorem sc__law_next : FnScope ["pool", "limit"] ["pool", "limit"] (defScope s__law_next) := ⟨rfl, rfl, rfl, by decide +kernel, rfl, by decide +kernel, by decide +kernel⟩
theorem bi__law_next {K : PySem.W.Frag} {mg : Str → Option Value} (T : Top K mg) : Binds K T.fd__law_next ["pool", "limit"] [] := T.F__law_next.bindsN fun _ _ _ _ _ _ us hl => match us, hl with | [_, _], _ => rfl
def t__law_next (K : PySem.W.Frag) : TS := (tSeq (tIfS (tNot (tTru K (tVar 0))) (tRet (tC (.int 0))) tNext) (tRet (tOp rMod (tCB rInt1 (tCons (tBM0 K "list" rPop (tVar 0)) tNil)) (tVar 1))))
theorem ok__law_next (T : Top K mg) : FnG P w K mg base CX0 1 (He.ga K "_law_next") T.fd__law_next ["pool", "limit"] (spA K con_next) := by
  refine okG T.F__law_next sc__law_next (spA_ln fun _ _ _ _ h => h.1) (fun cdv A ou s H vs Q E gu hr h => ⟨t__law_next K , ?_, body h fun F dd Tf P PX hA hl hx => ?_⟩)
  · have hu := hr.units
    have hu5 := hu5_of hr
    have hu1 := hu_of hr
    exact PSs.nox (pss_cons (ps_if (pt_not (ptT (pv 0) (by intro _; rfl))) (pss_one (ps_ret pe_int)) pss_nil) (pss_one (ps_ret (pe_op op_mod (pe_callTy call_int1 (by rfl) T.g_int (by decide +kernel) (pa_cons (pe_bm0 PySem.F.plainAttrs_list PySem.F.slot_list_pop PySem.F.type_list_pop mt_pop (pv 0)) pa_nil)) (pv 1)))))
  · unfold t__law_next
    obtain ⟨_, l, ns, n, rfl, rfl, hn, hP⟩ := hA
    walk_at "slots"
    walk_at "e"
    refine ⟨fun hb => ?_, fun hb => ?_⟩
    · walk_at "e"
      exact ret1 (hP 0 ns (Int.le_refl _) hn) (List.mem_cons_self ..)
    · walk_at "e"
      have hne : ns ≠ [] := fun z => by subst z; simp at hb
      refine rm_pop 0 rfl (d := .int (ns.getLast hne)) (by rw [List.getLast?_map, List.getLast?_eq_some_getLast hne]; rfl) ?_
      walk_at "red"
      walk_at "e"
      rw [← List.map_dropLast]
      exact ret1 (hP _ ns.dropLast (Int.emod_nonneg _ (by omega)) (Int.emod_lt_of_pos _ hn)) (List.mem_cons_self ..)
abbrev con_pool : Con0 := fun dd T P PX => dd.length = 2 ∧ ∃ (ns : List Int) (many : Int), dd = [.frl (ns.map .int), .int many] ∧ T = [] ∧ 0 ≤ many ∧ many ≤ 5000 ∧ ∀ (a : Addr) (ns' : List Int), P (.adr a) [] [(a, .lst (ns'.map .int))]
theorem sc__law_pool : FnScope ["script", "many", "pool", "seed", "k", "cell", "j"] ["script", "many"] (defScope s__law_pool) := ⟨rfl, rfl, rfl, by decide +kernel, rfl, by decide +kernel, by decide +kernel⟩
theorem bi__law_pool {K : PySem.W.Frag} {mg : Str → Option Value} (T : Top K mg) : Binds K T.fd__law_pool ["script", "many"] [] := T.F__law_pool.bindsN fun _ _ _ _ _ _ us hl => match us, hl with | [_, _], _ => rfl
def t__law_pool (K : PySem.W.Frag) : TS := (tSeq (tAsg (tLst tNil) (gName 2)) (tSeq (tAsg (tC (.int 14217)) (gName 3)) (tSeq (tFor (iRng1 (tCons (tCB rMin2 (tCons (tCB (rLenU K) (tCons (tVar 0) tNil)) (tCons (tC (.int 63)) tNil))) tNil)) (gName 4) (tSeq (tAsg (tCB rAbs (tCons (tOp (rIx K) (tVar 0) (tVar 4)) tNil)) (gName 5)) (tSeq (tAsg (tOp rMod (tCB rInt1 (tCons (tOp (rAdd K) (tOp (rAdd K) (tOp (rAdd K) (tOp (rMul K) (tVar 3) (tC (.int 48271))) (tVar 5)) (tVar 4)) (tC (.int 1))) tNil)) (tC (.int 2147483647))) (gName 3)) (tIfS (tTest (tOp rGe (tVar 5) (tOp rPow (tC (.int 10)) (tC (.int 18))))) (tFor (iRng1 (tCons (tC (.int 60)) tNil)) (gName 6) (tIfS (tTest (tOp rGt (tVar 5) (tC (.int 0)))) (tSeq (tDrop (tBM K "list" rAppend (tVar 2) (tCons (tOp rMod (tCB rInt1 (tCons (tVar 5) tNil)) (tC (.int 1000))) tNil))) (tAsg (tOp rDiv (tVar 5) (tC (.int 1000))) (gName 5))) tNext)) (tSeq (tDrop (tBM K "list" rAppend (tVar 2) (tCons (tOp rMod (tCB rInt1 (tCons (tOp (rAdd K) (tOp (rMul K) (tVar 5) (tC (.int 69621))) (tVar 3)) tNil)) (tC (.int 999983))) tNil))) (tDrop (tBM K "list" rAppend (tVar 2) (tCons (tOp rMod (tCB rInt1 (tCons (tVar 3) tNil)) (tC (.int 999979))) tNil)))))))) (tSeq (tFor (iRng1 (tCons (tVar 1) tNil)) (gName 6) (tIfS (tTest (tOp rLt (tCB (rLenU K) (tCons (tVar 2) tNil)) (tVar 1))) (tSeq (tAsg (tOp rMod (tCB rInt1 (tCons (tOp (rAdd K) (tOp (rMul K) (tVar 3) (tC (.int 48271))) (tC (.int 11))) tNil)) (tC (.int 2147483647))) (gName 3)) (tDrop (tBM K "list" rAppend (tVar 2) (tCons (tOp rMod (tCB rInt1 (tCons (tVar 3) tNil)) (tC (.int 999983))) tNil)))) tNext)) (tRet (tRevL K (tVar 2)))))))
theorem ok__law_pool (T : Top K mg) : FnG P w K mg base CX0 1 (He.ga K "_law_pool") T.fd__law_pool ["script", "many"] (spA K con_pool) := by
  refine okG T.F__law_pool sc__law_pool (spA_ln fun _ _ _ _ h => h.1) (fun cdv A ou s H vs Q E gu hr h => ⟨t__law_pool K , ?_, body h fun F dd Tf P PX hA hl hx => ?_⟩)
  · have hu := hr.units
    have hu5 := hu5_of hr
    have hu1 := hu_of hr
    exact PSs.nox (pss_cons (ps_set (i := 2) sc__law_pool.nd rfl (by first | exact Or.inl rfl | exact Or.inr rfl) (pe_lst pa_nil)) (pss_cons (ps_set (i := 3) sc__law_pool.nd rfl (by first | exact Or.inl rfl | exact Or.inr rfl) pe_int) (pss_cons (ps_for PassesOwn.never rfl (pi_range1 rfl T.g_range (pa_cons (pe_callB (call_min2 rfl) (by rfl) T.g_min (by decide +kernel) (pa_cons (pe_callB call_len_seq (by rfl) T.g_len boot_len (pa_cons (pv 0) pa_nil)) (pa_cons pe_int pa_nil))) pa_nil)) (pg_name (i := 4) sc__law_pool.nd rfl (by first | exact Or.inl rfl | exact Or.inr rfl)) (pss_cons (ps_set (i := 5) sc__law_pool.nd rfl (by first | exact Or.inl rfl | exact Or.inr rfl) (pe_callB call_abs (by rfl) T.g_abs (by decide +kernel) (pa_cons (pe_ix ix_seq (pv 0) (pv 4) (fun _ _ => rfl)) pa_nil))) (pss_cons (ps_set (i := 3) sc__law_pool.nd rfl (by first | exact Or.inl rfl | exact Or.inr rfl) (pe_op op_mod (pe_callTy call_int1 (by rfl) T.g_int (by decide +kernel) (pa_cons (pe_op opAdd (pe_op opAdd (pe_op opAdd (pe_op opMul (pv 3) pe_int) (pv 5)) (pv 4)) pe_int) pa_nil)) pe_int)) (pss_one (ps_if (pt_cmpR op_ge (pv 5) (pe_op op_pow pe_int pe_int) (by rfl)) (pss_one (ps_for PassesOwn.never rfl (pi_range1 rfl T.g_range (pa_cons pe_int pa_nil)) (pg_name (i := 6) sc__law_pool.nd rfl (by first | exact Or.inl rfl | exact Or.inr rfl)) (pss_one (ps_if (pt_cmpR op_gt (pv 5) pe_int (by rfl)) (pss_cons (ps_expr (pe_bm PySem.F.plainAttrs_list PySem.F.slot_list_append PySem.F.type_list_append mt_append (pv 2) (pa_cons (pe_op op_mod (pe_callTy call_int1 (by rfl) T.g_int (by decide +kernel) (pa_cons (pv 5) pa_nil)) pe_int) pa_nil))) (pss_one (ps_set (i := 5) sc__law_pool.nd rfl (by first | exact Or.inl rfl | exact Or.inr rfl) (pe_op op_fdiv (pv 5) pe_int)))) pss_nil)))) (pss_cons (ps_expr (pe_bm PySem.F.plainAttrs_list PySem.F.slot_list_append PySem.F.type_list_append mt_append (pv 2) (pa_cons (pe_op op_mod (pe_callTy call_int1 (by rfl) T.g_int (by decide +kernel) (pa_cons (pe_op opAdd (pe_op opMul (pv 5) pe_int) (pv 3)) pa_nil)) pe_int) pa_nil))) (pss_one (ps_expr (pe_bm PySem.F.plainAttrs_list PySem.F.slot_list_append PySem.F.type_list_append mt_append (pv 2) (pa_cons (pe_op op_mod (pe_callTy call_int1 (by rfl) T.g_int (by decide +kernel) (pa_cons (pv 3) pa_nil)) pe_int) pa_nil)))))))))) (pss_cons (ps_for PassesOwn.never rfl (pi_range1 rfl T.g_range (pa_cons (pv 1) pa_nil)) (pg_name (i := 6) sc__law_pool.nd rfl (by first | exact Or.inl rfl | exact Or.inr rfl)) (pss_one (ps_if (pt_cmpR op_lt (pe_callB call_len_seq (by rfl) T.g_len boot_len (pa_cons (pv 2) pa_nil)) (pv 1) (by rfl)) (pss_cons (ps_set (i := 3) sc__law_pool.nd rfl (by first | exact Or.inl rfl | exact Or.inr rfl) (pe_op op_mod (pe_callTy call_int1 (by rfl) T.g_int (by decide +kernel) (pa_cons (pe_op opAdd (pe_op opMul (pv 3) pe_int) pe_int) pa_nil)) pe_int)) (pss_one (ps_expr (pe_bm PySem.F.plainAttrs_list PySem.F.slot_list_append PySem.F.type_list_append mt_append (pv 2) (pa_cons (pe_op op_mod (pe_callTy call_int1 (by rfl) T.g_int (by decide +kernel) (pa_cons (pv 3) pa_nil)) pe_int) pa_nil))))) pss_nil))) (pss_one (ps_ret (pe_revL (pv 2))))))))
  · unfold t__law_pool
    obtain ⟨_, ns, many, rfl, rfl, hm0, hm, hP⟩ := hA
    walk_at "slots"
    walk_at "e"
    refine ae_lstO (aa_nil ⟨by decide, fun a => ?_⟩)
    walk_at "red"
    walk_at "e"
    refine as_forR (is := [4]) ?_
    walk_at "e"
    have hlen : min ((ns.length : Nat) : Int) 63 ≤ ns.length ∧ 0 ≤ min ((ns.length : Nat) : Int) 63 := by omega
    simp only [List.length_map]
    refine ⟨by omega, fun i ds T => ∃ (ps : List Int) (seed : Int) (v4 v5 v6 : Option D), ds = [some (.frl (ns.map .int)), some (.int many), some (.adr a), some (.int seed), v4, v5, v6] ∧ T = [⟨a, true, .lst (ps.map .int)⟩] ∧ ps.length ≤ 60 * i ∧ 0 ≤ seed ∧ seed < 2147483647, ?_, ?_, ?_⟩
    · exact ⟨[], 14217, none, none, none, rfl, rfl, by simp, by decide, by decide⟩
    · rintro i ds' T' hi ⟨ps, seed, v4, v5, v6, rfl, rfl, hl, hs0, hs1⟩
      have hi2 : i < ns.length := by omega
      have hi3 : i < 63 := by omega
      refine ag_name ?_
      walk_at "red"
      walk_at "e"
      refine rd_ixL (.r _) (d := .int ns[i]) (atI_of (by rw [List.getElem?_map, List.getElem?_eq_getElem hi2]; rfl)) ?_
      walk_at "e"
      refine rd_mul (cmul64 (by omega) (by decide)) ?_
      walk_at "e"
      refine ⟨fun hb => ?_, fun hb => ?_⟩
      · refine as_forR (is := [6]) ?_
        walk_at "e"
        refine ⟨by decide, fun k ds T => ∃ (ps' : List Int) (cell seed : Int) (v4 v6 : Option D), ds = [some (.frl (ns.map .int)), some (.int many), some (.adr a), some (.int seed), v4, some (.int cell), v6] ∧ T = [⟨a, true, .lst (ps'.map .int)⟩] ∧ ps'.length ≤ 60 * i + k ∧ 0 ≤ seed ∧ seed < 2147483647, ?_, ?_, ?_⟩
        · exact ⟨ps, _, _, _, _, rfl, rfl, hl, Int.emod_nonneg _ (by decide), Int.emod_lt_of_pos _ (by decide)⟩
        · rintro k ds' T' hk ⟨ps', cell, seed', v4', v6', rfl, rfl, hl', hs0', hs1'⟩
          refine ag_name ?_
          walk_at "red"
          walk_at "e"
          have hk2 : k < 60 := hk
          refine ⟨fun hb => ?_, fun hb => ?_⟩
          · walk_at "e"
            exact ⟨ps' ++ [cell % 1000], _, _, _, _, rfl, by rw [List.map_append]; rfl, by rw [List.length_append]; simp only [List.length_cons, List.length_nil]; omega, hs0', hs1'⟩
          · walk_at "e"
            exact ⟨ps', _, _, _, _, rfl, rfl, by omega, hs0', hs1'⟩
        · rintro ds' T' ⟨ps', cell, seed', v4', v6', rfl, rfl, hl', hs0', hs1'⟩
          exact ⟨ps', _, _, _, _, rfl, rfl, by have : Int.toNat 60 = 60 := rfl; omega, hs0', hs1'⟩
      · walk_at "e"
        have hb2 := of_decide_eq_false hb
        have e18 : (10 : Int) ^ Int.toNat 18 = 1000000000000000000 := by decide
        rw [e18] at hb2
        refine rd_mul (cmul64 (by omega) (by decide)) ?_
        walk_at "e"
        refine ⟨ps ++ [_] ++ [_], _, _, _, _, rfl, by rw [List.map_append, List.map_append]; rfl, by simp only [List.length_append, List.length_cons, List.length_nil]; omega, Int.emod_nonneg _ (by decide), Int.emod_lt_of_pos _ (by decide)⟩
    · rintro ds' T' ⟨ps, seed, v4, v5, v6, rfl, rfl, hl, hs0, hs1⟩
      walk_at "e"
      refine as_forR (is := [6]) ?_
      walk_at "e"
      refine ⟨by omega, fun k ds T => ∃ (ps' : List Int) (seed : Int) (v4 v5 v6 : Option D), ds = [some (.frl (ns.map .int)), some (.int many), some (.adr a), some (.int seed), v4, v5, v6] ∧ T = [⟨a, true, .lst (ps'.map .int)⟩] ∧ ps'.length ≤ 4000 + k ∧ 0 ≤ seed ∧ seed < 2147483647, ?_, ?_, ?_⟩
      · exact ⟨ps, _, _, _, _, rfl, rfl, by omega, hs0, hs1⟩
      · rintro k ds' T' hk ⟨ps', seed', v4', v5', v6', rfl, rfl, hl', hs0', hs1'⟩
        refine ag_name ?_
        walk_at "red"
        walk_at "e"
        refine ⟨fun hb => ?_, fun hb => ?_⟩
        · walk_at "e"
          refine rd_mul (cmul64 (by omega) (by decide)) ?_
          walk_at "e"
          exact ⟨ps' ++ [_], _, _, _, _, rfl, by rw [List.map_append]; rfl, by simp only [List.length_append, List.length_cons, List.length_nil]; omega, Int.emod_nonneg _ (by decide), Int.emod_lt_of_pos _ (by decide)⟩
        · walk_at "e"
          exact ⟨ps', _, _, _, _, rfl, rfl, by omega, hs0', hs1'⟩
      · rintro ds' T' ⟨ps', seed', v4', v5', v6', rfl, rfl, hl', hs0', hs1'⟩
        walk_at "e"
        refine ae_revLO ?_
        walk_at "e"
        refine ⟨_, .own 0 rfl, fun b => ?_⟩
        rw [← List.map_reverse]
        exact retN (hP b _) (List.mem_cons_self ..)
abbrev con_same : Con0 := fun dd T P PX => dd.length = 2 ∧ ∃ (d1 d2 : D) (q : PyData) (n k : Nat), dd = [d1, d2] ∧ Dv (foot T) d1 q ∧ Dv (foot T) d2 q ∧ Fit n k q ∧ n ≤ 60 ∧ k ≤ 600000 ∧ P (.bl true) (T.map (·.2)) []
theorem sc__law_same : FnScope ["actual", "expected"] ["actual", "expected"] (defScope s__law_same) := ⟨rfl, rfl, rfl, by decide +kernel, rfl, by decide +kernel, by decide +kernel⟩
theorem bi__law_same {K : PySem.W.Frag} {mg : Str → Option Value} (T : Top K mg) : Binds K T.fd__law_same ["actual", "expected"] [] := T.F__law_same.bindsN fun _ _ _ _ _ _ us hl => match us, hl with | [_, _], _ => rfl
def t__law_same (K : PySem.W.Frag) : TS := (tRet (tAndT K (tOp (rEqU K) (tVar 0) (tVar 1)) (tOp (rEqU K) (tCB (rRepr K) (tCons (tVar 0) tNil)) (tCB (rRepr K) (tCons (tVar 1) tNil)))))
theorem ok__law_same (T : Top K mg) : FnG P w K mg base CX0 1 (He.ga K "_law_same") T.fd__law_same ["actual", "expected"] (spA K con_same) := by
  refine okG T.F__law_same sc__law_same (spA_ln fun _ _ _ _ h => h.1) (fun cdv A ou s H vs Q E gu hr h => ⟨t__law_same K , ?_, body h fun F dd Tf P PX hA hl hx => ?_⟩)
  · have hu := hr.units
    have hu5 := hu5_of hr
    have hu1 := hu_of hr
    exact PSs.nox (pss_one (ps_ret (pe_andT (pe_cmpR (opEq hu) (pv 0) (pv 1) (by rfl)) (pe_one (pe_cmpR (opEq hu) (pe_callB (call_repr gu hu) (by rfl) T.g_repr (by decide +kernel) (pa_cons (pv 0) pa_nil)) (pe_callB (call_repr gu hu) (by rfl) T.g_repr (by decide +kernel) (pa_cons (pv 1) pa_nil)) (by rfl))))))
  · unfold t__law_same
    obtain ⟨_, d1, d2, q, n, k, rfl, v1, v2, hf, hn, hk, hP⟩ := hA
    walk_at "slots"
    walk_at "e"
    refine rd_eq v1 v2 (hf.shaped hn) (hf.shaped hn) ?_
    walk_at "e"
    rw [SeqAt.eqv_refl _ hf.c]
    refine ⟨fun _ => ?_, fun h => by cases h⟩
    walk_at "e"
    refine rc_repr v1 hf.s hf.c (Nat.le_trans hf.d hn) (hf.shown hk) ?_
    walk_at "e"
    refine rc_repr v2 hf.s hf.c (Nat.le_trans hf.d hn) (hf.shown hk) ?_
    refine rd_eqS ?_
    exact retT hP fun e he => he
end



abbrev Rl := Int × Int × Int × List Int
abbrev dR (r : Rl) : D := .tup [.int r.1, .int r.2.1, .int r.2.2.1, .tup (r.2.2.2.map .int)]
abbrev Cf := Int × List Int
abbrev dC (c : Cf) : D := .tup [.int c.1, .tup (c.2.map .int)]
abbrev dM (m : Int × Int × List Int) : D := .tup [.int m.1, .int m.2.1, .tup (m.2.2.map .int)]
def rg (rs : List Rl) (k : Int) : Rl := rs.getD k.toNat (0, 0, 0, [])
def hit (rs : List Rl) (p s : Int) (k : Nat) : Bool := decide ((rg rs k).1 = p) && decide ((rg rs k).2.1 = s)
def numbers (rs : List Rl) (p s : Int) : List Int := ((List.range rs.length).filter (hit rs p s)).map Int.ofNat
def mvs (rs : List Rl) (c : Cf) : List (Int × Int × List Int) := match c.2 with
  | [] => []
  | s :: st => (numbers rs c.1 s).map fun k => (k, (rg rs k).2.2.1, (rg rs k).2.2.2 ++ st)
structure RlOk (r : Rl) : Prop where
  p : r.1.natAbs < 1000
  s : r.2.1.natAbs < 1000
  q : r.2.2.1.natAbs < 1000
  l : r.2.2.2.length ≤ 2
  e : ∀ x ∈ r.2.2.2, x.natAbs < 1000
abbrev RsOk (rs : List Rl) : Prop := rs.length ≤ 100 ∧ ∀ r ∈ rs, RlOk r
theorem rg_at {rs : List Rl} {k : Int} (h : k.toNat < rs.length) : rs[k.toNat]? = some (rg rs k) := by
  unfold rg
  rw [List.getD_eq_getElem?_getD, List.getElem?_eq_getElem h]
  rfl
theorem numbers_mem {rs : List Rl} {p s k : Int} (h : k ∈ numbers rs p s) : 0 ≤ k ∧ k.toNat < rs.length ∧ (rg rs k).1 = p ∧ (rg rs k).2.1 = s := by
  unfold numbers at h
  obtain ⟨n, hn, rfl⟩ := List.mem_map.mp h
  obtain ⟨h1, h2⟩ := List.mem_filter.mp hn
  have h3 := List.mem_range.mp h1
  unfold hit at h2
  simp only [Bool.and_eq_true, decide_eq_true_eq] at h2
  exact ⟨Int.natCast_nonneg n, by show n < rs.length; exact h3, h2.1, h2.2⟩
theorem atI_rs {rs : List Rl} {k : Int} (h0 : 0 ≤ k) (h : k.toNat < rs.length) : atI (rs.map dR) k = some (dR (rg rs k)) := atI_to h0 (by rw [List.getElem?_map, rg_at h]; rfl)
section
variable {P : Program} {w : World} {K : PySem.W.Frag} {mg : Str → Option Value} {base : Heap}
abbrev con_rows : Con0 := fun dd T P PX => dd.length = 4 ∧ ∃ (l : Addr) (ns : List Int) (W Fr many : Int), dd = [.adr l, .int W, .int Fr, .int many] ∧ T = [(l, .lst (ns.map .int))] ∧ 0 < W ∧ W ≤ 1000 ∧ 0 < Fr ∧ Fr ≤ 1000 ∧ 0 ≤ many ∧ many ≤ 100 ∧
  ∀ (rs : List Rl) (ns' : List Int), RsOk rs → P (.lst (rs.map dR)) [.lst (ns'.map .int)] []
theorem sc__law_rows : FnScope ["pool", "worlds", "frames", "many", "rows", "k", "row", "j", "rule"] ["pool", "worlds", "frames", "many"] (defScope s__law_rows) := ⟨rfl, rfl, rfl, by decide +kernel, rfl, by decide +kernel, by decide +kernel⟩
theorem bi__law_rows {K : PySem.W.Frag} {mg : Str → Option Value} (T : Top K mg) : Binds K T.fd__law_rows ["pool", "worlds", "frames", "many"] [] := T.F__law_rows.bindsN fun _ _ _ _ _ _ us hl => match us, hl with | [_, _, _, _], _ => rfl
def t__law_rows (K : PySem.W.Frag) : TS := (tSeq (tAsg (tLst tNil) (gName 4)) (tSeq (tFor (iRng1 (tCons (tVar 3) tNil)) (gName 5) (tSeq (tAsg (tCB (rTupleU K) (tCons (tLc (iRng1 (tCons (tCallG (spA K con_next) (fun _ => E0) (tCons (tVar 0) (tCons (tC (.int 3)) tNil))) tNil)) (gName 7) tYes (tCallG (spA K con_next) (fun _ => E0) (tCons (tVar 0) (tCons (tVar 2) tNil))) [7]) tNil)) (gName 6)) (tSeq (tAsg (tTup (tCons (tCallG (spA K con_next) (fun _ => E0) (tCons (tVar 0) (tCons (tVar 1) tNil))) (tCons (tCallG (spA K con_next) (fun _ => E0) (tCons (tVar 0) (tCons (tVar 2) tNil))) (tCons (tCallG (spA K con_next) (fun _ => E0) (tCons (tVar 0) (tCons (tVar 1) tNil))) (tCons (tVar 6) tNil))))) (gName 8)) (tSeq (tIfS (tAnd (tTru K (tVar 4)) (tTest (tOp (rEqU K) (tCallG (spA K con_next) (fun _ => E0) (tCons (tVar 0) (tCons (tC (.int 4)) tNil))) (tC (.int 0))))) (tAsg (tOp (rIx K) (tVar 4) (tCallG (spA K con_next) (fun _ => E0) (tCons (tVar 0) (tCons (tCB (rLenU K) (tCons (tVar 4) tNil)) tNil)))) (gName 8)) tNext) (tDrop (tBM K "list" rAppend (tVar 4) (tCons (tVar 8) tNil))))))) (tRet (tVar 4))))
theorem ok__law_rows (T : Top K mg) : FnG P w K mg base CX0 2 (He.ga K "_law_rows") T.fd__law_rows ["pool", "worlds", "frames", "many"] (spA K con_rows) := by
  have G__law_next := ok__law_next (P := P) (w := w) (base := base) T
  have b__law_next := bi__law_next T
  refine okG T.F__law_rows sc__law_rows (spA_ln fun _ _ _ _ h => h.1) (fun cdv A ou s H vs Q E gu hr h => ⟨t__law_rows K , ?_, body h fun F dd Tf P PX hA hl hx => ?_⟩)
  · have hu := hr.units
    have hu5 := hu5_of hr
    have hu1 := hu_of hr
    exact PSs.nox (pss_cons (ps_set (i := 4) sc__law_rows.nd rfl (by first | exact Or.inl rfl | exact Or.inr rfl) (pe_lst pa_nil)) (pss_cons (ps_for PassesOwn.never rfl (pi_range1 rfl T.g_range (pa_cons (pv 3) pa_nil)) (pg_name (i := 5) sc__law_rows.nd rfl (by first | exact Or.inl rfl | exact Or.inr rfl)) (pss_cons (ps_set (i := 6) sc__law_rows.nd rfl (by first | exact Or.inl rfl | exact Or.inr rfl) (pe_callTy call_tuple_of (by rfl) T.g_tuple (by decide +kernel) (pa_cons (pe_lc (own := [("j", 7)]) (g := (gName 7)) (tt := tYes) (te := (tCallG (spA K con_next) (fun _ => E0) (tCons (tVar 0) (tCons (tVar 2) tNil)))) rfl sc__law_rows.nd (pi_range1 rfl T.g_range (pa_cons (pe_callG G__law_next gu (hr.mono (by decide)) rfl T.m__law_next T.F__law_next.kp b__law_next (fun σ => passN σ) (pa_cons (pv 0) (pa_cons pe_int pa_nil))) pa_nil)) (blkOk_by (own := [("j", 7)]) (N := ["pool", "worlds", "frames", "many", "rows", "k", "row", "j", "rule"]) (sc := defScope s__law_rows) (by decide +kernel)) (fun _ _ _ _ _ => (pg_name (i := 7) sc__law_rows.nd rfl (by first | exact Or.inl rfl | exact Or.inr rfl))) (fun _ _ _ _ _ => pts_nil) (fun _ _ _ _ _ => (pe_callG G__law_next gu (hr.mono (by decide)) rfl T.m__law_next T.F__law_next.kp b__law_next (fun σ => passN σ) (pa_cons (pv 0) (pa_cons (pv 2) pa_nil))))) pa_nil))) (pss_cons (ps_set (i := 8) sc__law_rows.nd rfl (by first | exact Or.inl rfl | exact Or.inr rfl) (pe_tup (pa_cons (pe_callG G__law_next gu (hr.mono (by decide)) rfl T.m__law_next T.F__law_next.kp b__law_next (fun σ => passN σ) (pa_cons (pv 0) (pa_cons (pv 1) pa_nil))) (pa_cons (pe_callG G__law_next gu (hr.mono (by decide)) rfl T.m__law_next T.F__law_next.kp b__law_next (fun σ => passN σ) (pa_cons (pv 0) (pa_cons (pv 2) pa_nil))) (pa_cons (pe_callG G__law_next gu (hr.mono (by decide)) rfl T.m__law_next T.F__law_next.kp b__law_next (fun σ => passN σ) (pa_cons (pv 0) (pa_cons (pv 1) pa_nil))) (pa_cons (pv 6) pa_nil)))))) (pss_cons (ps_if (PW.pt (pw_and (ptT (pv 4) (by intro _; rfl)) (pw_and1 (pt_cmpR (opEq hu) (pe_callG G__law_next gu (hr.mono (by decide)) rfl T.m__law_next T.F__law_next.kp b__law_next (fun σ => passN σ) (pa_cons (pv 0) (pa_cons pe_int pa_nil))) pe_int (by rfl))))) (pss_one (ps_set (i := 8) sc__law_rows.nd rfl (by first | exact Or.inl rfl | exact Or.inr rfl) (pe_ix ix_seq (pv 4) (pe_callG G__law_next gu (hr.mono (by decide)) rfl T.m__law_next T.F__law_next.kp b__law_next (fun σ => passN σ) (pa_cons (pv 0) (pa_cons (pe_callB call_len_seq (by rfl) T.g_len boot_len (pa_cons (pv 4) pa_nil)) pa_nil))) (fun _ _ => rfl)))) pss_nil) (pss_one (ps_expr (pe_bm PySem.F.plainAttrs_list PySem.F.slot_list_append PySem.F.type_list_append mt_append (pv 4) (pa_cons (pv 8) pa_nil)))))))) (pss_one (ps_ret (pv 4)))))
  · unfold t__law_rows
    obtain ⟨_, l, ns, W, Fr, many, rfl, rfl, hW, hW1, hF, hF1, hm0, hm, hP⟩ := hA
    walk_at "slots"
    walk_at "e"
    refine ae_lstO (aa_nil ⟨by decide, fun a => ?_⟩)
    walk_at "red"
    refine as_seq (as_forR (is := [5]) ?_)
    walk_at "e"
    refine ⟨by omega, fun i ds T => ∃ (rs : List Rl) (ns : List Int) (v5 v6 v7 v8 : Option D), ds = [some (.adr l), some (.int W), some (.int Fr), some (.int many), some (.adr a), v5, v6, v7, v8] ∧ T = [⟨a, true, .lst (rs.map dR)⟩, ⟨l, false, .lst (ns.map .int)⟩] ∧ rs.length = i ∧ ∀ r ∈ rs, RlOk r, ?_, ?_, ?_⟩
    · exact ⟨[], ns, _, _, _, _, rfl, rfl, rfl, fun _ h => by cases h⟩
    · rintro i ds' T' hi ⟨rs, ns, v5, v6, v7, v8, rfl, rfl, hl, hr⟩
      refine ag_name ?_
      walk_at "red"
      walk_at "e"
      refine lcRF (is := [7]) (fun _ h => h) (aa_cons (ae_call1 1 no_exc ?_))
      walk_at "next"
      intro m ns2 m0 m1
      walk_at "nx"
      walk_at "e"
      refine ⟨by omega, fun k acc T => ∃ (row ns : List Int), acc = row.map .int ∧ T = [⟨a, true, .lst (rs.map dR)⟩, ⟨l, false, .lst (ns.map .int)⟩] ∧ row.length = k ∧ ∀ x ∈ row, x.natAbs < 1000, ?_, ?_, ?_⟩
      · exact ⟨[], _, rfl, rfl, rfl, fun _ h => by cases h⟩
      · rintro k acc T' hk ⟨row, ns2, rfl, rfl, hl2, hx⟩
        refine ag_name ?_
        walk_at "red"
        walk_at "e"
        refine ae_call1 1 no_exc ?_
        walk_at "next"
        intro r ns3 r0 r1
        walk_at "nx"
        refine ⟨by rw [List.length_map]; omega, row ++ [r], ns3, by rw [List.map_append]; rfl, rfl, by rw [List.length_append, hl2]; rfl, fun x hx2 => ?_⟩
        rcases List.mem_append.mp hx2 with h | h
        · exact hx x h
        · rw [List.mem_singleton.mp h]
          omega
      · rintro row' T' ⟨row, ns2, rfl, rfl, hl2, hx⟩
        walk_at "e"
        refine rc_tupL (.f _) ?_
        walk_at "red"
        walk_at "e"
        refine ae_call1 1 no_exc ?_
        walk_at "next"
        intro p ns3 p0 p1
        walk_at "nx"
        walk_at "e"
        refine ae_call1 1 no_exc ?_
        walk_at "next"
        intro s ns4 s0 s1
        walk_at "nx"
        walk_at "e"
        refine ae_call1 1 no_exc ?_
        walk_at "next"
        intro q ns5 q0 q1
        walk_at "nx"
        walk_at "e"
        have hr' : RlOk (p, s, q, row) := ⟨by show p.natAbs < 1000; omega, by show s.natAbs < 1000; omega, by show q.natAbs < 1000; omega, by show row.length ≤ 2; omega, hx⟩
        have ln : ∀ r : Rl, (rs ++ [r]).length = i + 1 := fun r => by rw [List.length_append, hl]; rfl
        have mem : ∀ r : Rl, RlOk r → ∀ x ∈ rs ++ [r], RlOk x := fun r hr0 x hx => (List.mem_append.mp hx).elim (hr x) fun z => by rw [List.mem_singleton.mp z]; exact hr0
        walk_at "e"
        refine if_b (fun hb => ?_) (fun hb => ?_)
        · refine at_test ?_
          walk_at "e"
          refine ae_call1 1 no_exc ?_
          walk_at "next"
          intro z ns6 z0 z1
          walk_at "nx"
          walk_at "e"
          refine ⟨fun hb2 => ?_, fun hb2 => ?_⟩
          · walk_at "e"
            refine ae_call1 1 no_exc ?_
            walk_at "e"
            have hne : rs ≠ [] := fun z => by subst z; simp at hb
            have hlp : 0 < rs.length := List.length_pos_iff.mpr hne
            refine ⟨rfl, _, _, _, rfl, rfl, by rw [List.length_map]; omega, ?_⟩
            intro y ns7 y0 y1
            rw [List.length_map] at y1
            walk_at "nx"
            refine rd_ixL (.own 0 rfl) (atI_rs y0 (by omega)) ?_
            walk_at "red"
            walk_at "e"
            exact ⟨rs ++ [rg rs y], _, _, _, _, _, rfl, by rw [List.map_append]; rfl, ln _, mem _ (hr _ (List.mem_of_getElem? (rg_at (k := y) (by omega))))⟩
          · walk_at "e"
            exact ⟨rs ++ [(p, s, q, row)], _, _, _, _, _, rfl, by rw [List.map_append]; rfl, ln _, mem _ hr'⟩
        · refine ⟨fun h => (by cases h), fun _ => ?_⟩
          walk_at "e"
          exact ⟨rs ++ [(p, s, q, row)], _, _, _, _, _, rfl, by rw [List.map_append]; rfl, ln _, mem _ hr'⟩
    · rintro ds' T' ⟨rs, ns, v5, v6, v7, v8, rfl, rfl, hl, hr⟩
      refine as_ret (ae_take 0 rfl rfl ?_)
      exact ret1 (hP rs ns ⟨by omega, hr⟩) (List.mem_cons_self ..)
theorem numbers_snoc (rs : List Rl) (p s : Int) (i : Nat) : (((List.range (i + 1)).filter (hit rs p s)).map Int.ofNat).map D.int = (((List.range i).filter (hit rs p s)).map Int.ofNat).map D.int ++ (if hit rs p s i = true then [.int (i : Int)] else []) := by
  rw [List.range_succ, List.filter_append, List.map_append, List.map_append]
  congr 1
  by_cases h : hit rs p s i = true
  · rw [if_pos h, List.filter_cons_of_pos h]
    rfl
  · rw [if_neg h, List.filter_cons_of_neg h]
    rfl
abbrev con_numbers : Con0 := fun dd T P PX => dd.length = 3 ∧ ∃ (d : D) (rs : List Rl) (p s : Int), dd = [d, .int p, .int s] ∧ LV (foot T) d (rs.map dR) ∧ rs.length ≤ 1000 ∧ P (.lst ((numbers rs p s).map .int)) (T.map (·.2)) []
theorem sc__law_numbers : FnScope ["rows", "p", "s", "k"] ["rows", "p", "s"] (defScope s__law_numbers) := ⟨rfl, rfl, rfl, by decide +kernel, rfl, by decide +kernel, by decide +kernel⟩
theorem bi__law_numbers {K : PySem.W.Frag} {mg : Str → Option Value} (T : Top K mg) : Binds K T.fd__law_numbers ["rows", "p", "s"] [] := T.F__law_numbers.bindsN fun _ _ _ _ _ _ us hl => match us, hl with | [_, _, _], _ => rfl
def t__law_numbers (K : PySem.W.Frag) : TS := (tRet (tLc (iRng1 (tCons (tCB (rLenU K) (tCons (tVar 0) tNil)) tNil)) (gName 3) (tAnd (tTest (tOp (rEqU K) (tOp (rIx K) (tOp (rIx K) (tVar 0) (tVar 3)) (tC (.int 0))) (tVar 1))) (tTest (tOp (rEqU K) (tOp (rIx K) (tOp (rIx K) (tVar 0) (tVar 3)) (tC (.int 1))) (tVar 2)))) (tVar 3) [3]))
theorem ok__law_numbers (T : Top K mg) : FnG P w K mg base CX0 1 (He.ga K "_law_numbers") T.fd__law_numbers ["rows", "p", "s"] (spA K con_numbers) := by
  refine okG T.F__law_numbers sc__law_numbers (spA_ln fun _ _ _ _ h => h.1) (fun cdv A ou s H vs Q E gu hr h => ⟨t__law_numbers K , ?_, body h fun F dd Tf P PX hA hl hx => ?_⟩)
  · have hu := hr.units
    have hu5 := hu5_of hr
    have hu1 := hu_of hr
    exact PSs.nox (pss_one (ps_ret (pe_lc (own := [("k", 3)]) (g := (gName 3)) (tt := (tAnd (tTest (tOp (rEqU K) (tOp (rIx K) (tOp (rIx K) (tVar 0) (tVar 3)) (tC (.int 0))) (tVar 1))) (tTest (tOp (rEqU K) (tOp (rIx K) (tOp (rIx K) (tVar 0) (tVar 3)) (tC (.int 1))) (tVar 2))))) (te := (tVar 3)) rfl sc__law_numbers.nd (pi_range1 rfl T.g_range (pa_cons (pe_callB call_len_seq (by rfl) T.g_len boot_len (pa_cons (pv 0) pa_nil)) pa_nil)) (blkOk_by (own := [("k", 3)]) (N := ["rows", "p", "s", "k"]) (sc := defScope s__law_numbers) (by decide +kernel)) (fun _ _ _ _ _ => (pg_name (i := 3) sc__law_numbers.nd rfl (by first | exact Or.inl rfl | exact Or.inr rfl))) (fun _ _ _ _ _ => (pts_one (PW.pt (pw_and (pt_cmpR (opEq hu) (pe_ix ix_seq (pe_ix ix_seq (pv 0) (pv 3) (fun _ _ => rfl)) pe_int (fun _ _ => rfl)) (pv 1) (by rfl)) (pw_and1 (pt_cmpR (opEq hu) (pe_ix ix_seq (pe_ix ix_seq (pv 0) (pv 3) (fun _ _ => rfl)) pe_int (fun _ _ => rfl)) (pv 2) (by rfl))))))) (fun _ _ _ _ _ => (pv 3)))))
  · unfold t__law_numbers
    obtain ⟨_, d, rs, p, s, rfl, lv, hlen, hP⟩ := hA
    walk_at "slots"
    walk_at "e"
    refine lcRF (is := [3]) (fun _ h => h) ?_
    walk_at "e"
    refine ⟨by rw [List.length_map]; omega, fun i acc T' => T' = foot Tf ∧ acc = (((List.range i).filter (hit rs p s)).map Int.ofNat).map D.int, ⟨rfl, rfl⟩, ?_, ?_⟩
    · rintro i acc T' hi ⟨rfl, rfl⟩
      have hi2 : i < rs.length := by rw [List.length_map] at hi; exact hi
      have at_i : atI (rs.map dR) (i : Int) = some (dR (rg rs i)) := atI_rs (by omega) (by show i < rs.length; exact hi2)
      have hl : ((((List.range i).filter (hit rs p s)).map Int.ofNat).map D.int).length < 100000 := by
        rw [List.length_map, List.length_map]
        have := List.length_filter_le (hit rs p s) (List.range i)
        rw [List.length_range] at this
        omega
      refine ag_name ?_
      walk_at "red"
      walk_at "e"
      refine rd_ixL lv at_i ?_
      walk_at "e"
      refine rd_ixT (d := .int (rg rs i).1) rfl ?_
      walk_at "e"
      refine if_b (fun hb => ?_) (fun hb => ?_)
      · walk_at "e"
        refine rd_ixL lv at_i ?_
        walk_at "e"
        refine rd_ixT (d := .int (rg rs i).2.1) rfl ?_
        walk_at "e"
        refine if_b (fun hb2 => ?_) (fun hb2 => ?_)
        · walk_at "e"
          refine ⟨hl, by trivial, ?_⟩
          rw [numbers_snoc, if_pos (by unfold hit; rw [hb, hb2]; rfl)]
        · refine ⟨by trivial, ?_⟩
          rw [numbers_snoc, if_neg (by unfold hit; rw [hb, hb2]; decide), List.append_nil]
      · refine ⟨by trivial, ?_⟩
        rw [numbers_snoc, if_neg (by unfold hit; rw [hb]; simp), List.append_nil]
    · rintro acc T' ⟨rfl, rfl⟩
      rw [List.length_map]
      exact retT hP fun e he => he
theorem mvs_len (rs : List Rl) (c : Cf) : (mvs rs c).length ≤ rs.length := by
  unfold mvs
  cases c.2 with
  | nil => exact Nat.zero_le _
  | cons s st =>
    show ((numbers rs c.1 s).map _).length ≤ rs.length
    rw [List.length_map]
    unfold numbers
    rw [List.length_map]
    have := List.length_filter_le (hit rs c.1 s) (List.range rs.length)
    rwa [List.length_range] at this
abbrev con_moves : Con0 := fun dd T P PX => dd.length = 3 ∧ ∃ (d : D) (rs : List Rl) (p : Int) (st : List Int), dd = [d, .int p, .tup (st.map .int)] ∧ LV (foot T) d (rs.map dR) ∧ RsOk rs ∧ st.length ≤ 1000 ∧ P (.lst ((mvs rs (p, st)).map dM)) (T.map (·.2)) []
theorem sc__law_moves : FnScope ["rows", "p", "stack", "k"] ["rows", "p", "stack"] (defScope s__law_moves) := ⟨rfl, rfl, rfl, by decide +kernel, rfl, by decide +kernel, by decide +kernel⟩
theorem bi__law_moves {K : PySem.W.Frag} {mg : Str → Option Value} (T : Top K mg) : Binds K T.fd__law_moves ["rows", "p", "stack"] [] := T.F__law_moves.bindsN fun _ _ _ _ _ _ us hl => match us, hl with | [_, _, _], _ => rfl
def t__law_moves (K : PySem.W.Frag) : TS := (tSeq (tIfS (tNot (tTru K (tVar 2))) (tRet (tLst tNil)) tNext) (tRet (tLc (iU K (tCallG (spA K con_numbers) (fun _ => E0) (tCons (tVar 0) (tCons (tVar 1) (tCons (tOp (rIx K) (tVar 2) (tC (.int 0))) tNil))))) (gName 3) tYes (tTup (tCons (tVar 3) (tCons (tOp (rIx K) (tOp (rIx K) (tVar 0) (tVar 3)) (tC (.int 2))) (tCons (tOp (rAdd K) (tOp (rIx K) (tOp (rIx K) (tVar 0) (tVar 3)) (tC (.int 3))) (tSl (rSlU K) (tVar 2) (tPart (tC (.int 1))) tNoPart)) tNil)))) [3])))
theorem ok__law_moves (T : Top K mg) : FnG P w K mg base CX0 2 (He.ga K "_law_moves") T.fd__law_moves ["rows", "p", "stack"] (spA K con_moves) := by
  have G__law_numbers := ok__law_numbers (P := P) (w := w) (base := base) T
  have b__law_numbers := bi__law_numbers T
  refine okG T.F__law_moves sc__law_moves (spA_ln fun _ _ _ _ h => h.1) (fun cdv A ou s H vs Q E gu hr h => ⟨t__law_moves K , ?_, body h fun F dd Tf P PX hA hl hx => ?_⟩)
  · have hu := hr.units
    have hu5 := hu5_of hr
    have hu1 := hu_of hr
    exact PSs.nox (pss_cons (ps_if (pt_not (ptT (pv 2) (by intro _; rfl))) (pss_one (ps_ret (pe_lst pa_nil))) pss_nil) (pss_one (ps_ret (pe_lc (own := [("k", 3)]) (g := (gName 3)) (tt := tYes) (te := (tTup (tCons (tVar 3) (tCons (tOp (rIx K) (tOp (rIx K) (tVar 0) (tVar 3)) (tC (.int 2))) (tCons (tOp (rAdd K) (tOp (rIx K) (tOp (rIx K) (tVar 0) (tVar 3)) (tC (.int 3))) (tSl (rSlU K) (tVar 2) (tPart (tC (.int 1))) tNoPart)) tNil))))) rfl sc__law_moves.nd (pi_u (pe_callG G__law_numbers gu (hr.mono (by decide)) rfl T.m__law_numbers T.F__law_numbers.kp b__law_numbers (fun σ => passN σ) (pa_cons (pv 0) (pa_cons (pv 1) (pa_cons (pe_ix ix_seq (pv 2) pe_int (fun _ _ => rfl)) pa_nil))))) (blkOk_by (own := [("k", 3)]) (N := ["rows", "p", "stack", "k"]) (sc := defScope s__law_moves) (by decide +kernel)) (fun _ _ _ _ _ => (pg_name (i := 3) sc__law_moves.nd rfl (by first | exact Or.inl rfl | exact Or.inr rfl))) (fun _ _ _ _ _ => pts_nil) (fun _ _ _ _ _ => (pe_tup (pa_cons (pv 3) (pa_cons (pe_ix ix_seq (pe_ix ix_seq (pv 0) (pv 3) (fun _ _ => rfl)) pe_int (fun _ _ => rfl)) (pa_cons (pe_op opAdd (pe_ix ix_seq (pe_ix ix_seq (pv 0) (pv 3) (fun _ _ => rfl)) pe_int (fun _ _ => rfl)) (pe_slice slU (pv 2) (po_some pe_int) po_none)) pa_nil)))))))))
  · unfold t__law_moves
    obtain ⟨_, d, rs, p, st, rfl, lv, ⟨hlen, hr⟩, hst, hP⟩ := hA
    walk_at "slots"
    walk_at "e"
    refine ⟨fun hb => ?_, fun hb => ?_⟩
    · walk_at "e"
      refine ae_lst (aa_nil ⟨by decide, ?_⟩)
      cases st with
      | nil => exact retT hP fun e he => he
      | cons s st => simp at hb
    · cases st with
      | nil => simp at hb
      | cons s st =>
        walk_at "e"
        refine lcLF (is := [3]) (fun _ h => h) (ae_callT no_exc ?_)
        walk_at "e"
        refine rd_ixT (d := .int s) (atI_of (k := 0) rfl) ?_
        walk_at "e"
        refine ⟨rfl, _, _, _, _, rfl, lv.foot, by omega, toFoot_snd, ?_⟩
        walk_at "red"
        refine ⟨_, .f _, fun i acc T' => T' = foot Tf ∧ acc = (((numbers rs p s).take i).map fun k => (k, (rg rs k).2.2.1, (rg rs k).2.2.2 ++ st)).map dM, ⟨rfl, rfl⟩, fun _ _ _ _ _ => .f _, ?_, ?_⟩
        · rintro i x acc T' hx ⟨rfl, rfl⟩
          rw [List.getElem?_map] at hx
          cases e : (numbers rs p s)[i]? with
          | none => rw [e] at hx; cases hx
          | some k =>
            rw [e] at hx
            cases hx
            obtain ⟨k0, k1, _, _⟩ := numbers_mem (List.mem_of_getElem? e)
            have at_k := atI_rs k0 k1
            have rk := hr _ (List.mem_of_getElem? (rg_at k1))
            refine ag_name ?_
            walk_at "red"
            walk_at "e"
            refine rd_ixL lv at_k ?_
            walk_at "e"
            refine rd_ixT (d := .int (rg rs k).2.2.1) rfl ?_
            walk_at "e"
            refine rd_ixL lv at_k ?_
            walk_at "e"
            refine rd_ixT (d := .tup ((rg rs k).2.2.2.map .int)) rfl ?_
            walk_at "e"
            refine rs_T ?_
            have hl := rk.l
            refine rd_catT ?_ ?_
            · have : (cutX (List.map D.int (s :: st)) (some 1) none).length ≤ 1001 := by
                rw [show (some (1 : Int)) = some ((1 : Nat) : Int) from rfl, cutX_from, List.length_drop, List.length_map]
                omega
              rw [List.length_map]
              omega
            walk_at "red"
            walk_at "e"
            refine ⟨?_, by trivial, ?_⟩
            · rw [List.length_map, List.length_map, List.length_take]
              have := mvs_len rs (p, s :: st)
              unfold mvs at this
              simp only [List.length_map] at this
              omega
            · rw [List.take_add_one, e, List.map_append, List.map_append, show (some (1 : Int)) = some ((1 : Nat) : Int) from rfl, cutX_from]
              simp [dM]
        · rintro acc T' ⟨rfl, rfl⟩
          rw [List.length_map, List.take_length]
          exact retT hP fun e he => he
end



def stp (rs : List Rl) (c : Cf) (j : Int) : Option Cf := match c.2 with
  | [] => none
  | s :: st => if j ∈ numbers rs c.1 s then some ((rg rs j).2.2.1, (rg rs j).2.2.2 ++ st) else none
def playF (rs : List Rl) : Cf → List Int → Option (List Cf)
  | c, [] => some [c]
  | c, j :: js => (stp rs c j).bind fun c' => (playF rs c' js).map (c :: ·)
theorem playF_len {rs : List Rl} : ∀ {js : List Int} {c : Cf} {cs : List Cf}, playF rs c js = some cs → cs.length = js.length + 1
  | [], c, cs, h => by
    cases h
    rfl
  | j :: js, c, cs, h => by
    unfold playF at h
    cases e : stp rs c j with
    | none => rw [e] at h; cases h
    | some c' =>
      rw [e] at h
      cases e2 : playF rs c' js with
      | none => rw [Option.bind_some, e2] at h; cases h
      | some cs' =>
        rw [Option.bind_some, e2] at h
        cases h
        rw [List.length_cons, playF_len e2]
        rfl
theorem playF_cons {rs : List Rl} {j : Int} {js : List Int} {c : Cf} {cs : List Cf} (h : playF rs c (j :: js) = some cs) : ∃ c' cs', stp rs c j = some c' ∧ playF rs c' js = some cs' ∧ cs = c :: cs' := by
  unfold playF at h
  cases e : stp rs c j with
  | none => rw [e] at h; cases h
  | some c' =>
    rw [e] at h
    cases e2 : playF rs c' js with
    | none => rw [Option.bind_some, e2] at h; cases h
    | some cs' =>
      rw [Option.bind_some, e2] at h
      cases h
      exact ⟨c', cs', rfl, e2, rfl⟩
theorem playF_mk {rs : List Rl} {j : Int} {js : List Int} {c c' : Cf} {cs : List Cf} (h1 : stp rs c j = some c') (h2 : playF rs c' js = some cs) : playF rs c (j :: js) = some (c :: cs) := by
  unfold playF
  rw [h1, Option.bind_some, h2]
  rfl
theorem playF_snoc {rs : List Rl} {e e' : Cf} {j : Int} : ∀ {js : List Int} {c : Cf} {cs : List Cf}, playF rs c js = some cs → cs.getLast? = some e → stp rs e j = some e' → playF rs c (js ++ [j]) = some (cs ++ [e'])
  | [], c, cs, h, hl, hs => by
    cases h
    cases hl
    exact playF_mk hs rfl
  | i :: js, c, cs, h, hl, hs => by
    obtain ⟨c', cs', h1, h2, rfl⟩ := playF_cons h
    have hne : cs' ≠ [] := fun z => by have := playF_len h2; rw [z] at this; cases this
    rw [List.getLast?_cons, List.getLast?_eq_some_getLast hne] at hl
    exact playF_mk h1 (playF_snoc h2 (by rw [List.getLast?_eq_some_getLast hne]; exact hl) hs)
theorem playF_take {rs : List Rl} : ∀ {js : List Int} {c : Cf} {cs : List Cf} (k : Nat), playF rs c js = some cs → playF rs c (js.take k) = some (cs.take (k + 1))
  | [], c, cs, k, h => by
    cases h
    rw [List.take_nil]
    simp [playF]
  | j :: js, c, cs, 0, h => by
    obtain ⟨c', cs', h1, h2, rfl⟩ := playF_cons h
    simp [playF]
  | j :: js, c, cs, k + 1, h => by
    obtain ⟨c', cs', h1, h2, rfl⟩ := playF_cons h
    exact playF_mk h1 (playF_take k h2)
theorem playF_bad {rs : List Rl} {e : Cf} {j : Int} {r : List Int} : ∀ {js : List Int} {c : Cf} {cs : List Cf} (k : Nat), playF rs c js = some cs → cs[k]? = some e → stp rs e j = none → playF rs c (js.take k ++ j :: r) = none
  | js, c, cs, 0, h, he, hs => by
    have hc : c = e := by
      cases js with
      | nil =>
        cases h
        exact Option.some.inj he
      | cons i js =>
        obtain ⟨c', cs', h1, h2, rfl⟩ := playF_cons h
        exact Option.some.inj he
    subst hc
    show (stp rs c j).bind _ = none
    rw [hs]
    rfl
  | [], c, cs, k + 1, h, he, hs => by
    cases h
    simp at he
  | i :: js, c, cs, k + 1, h, he, hs => by
    obtain ⟨c', cs', h1, h2, rfl⟩ := playF_cons h
    show (stp rs c i).bind (fun c' => (playF rs c' (js.take k ++ j :: r)).map _) = none
    rw [h1, Option.bind_some, playF_bad k h2 (by simpa using he) hs]
    rfl
theorem mvs_mem {rs : List Rl} {c : Cf} {m : Int × Int × List Int} (h : m ∈ mvs rs c) : stp rs c m.1 = some (m.2.1, m.2.2) := by
  unfold mvs at h
  unfold stp
  cases e : c.2 with
  | nil => rw [e] at h; cases h
  | cons s st =>
    rw [e] at h
    obtain ⟨k, hk, rfl⟩ := List.mem_map.mp h
    exact if_pos hk
structure CfOk (N : Nat) (c : Cf) : Prop where
  p : c.1.natAbs < 1000
  l : c.2.length ≤ N
  e : ∀ x ∈ c.2, x.natAbs < 1000
theorem CfOk.up {N M : Nat} {c : Cf} (h : CfOk N c) (hm : N ≤ M) : CfOk M c := ⟨h.p, Nat.le_trans h.l hm, h.e⟩
theorem stp_ok {N : Nat} {rs : List Rl} {c c' : Cf} {j : Int} (hr : RsOk rs) (hc : CfOk N c) (h : stp rs c j = some c') : CfOk (N + 1) c' ∧ 0 ≤ j ∧ j.toNat < rs.length := by
  unfold stp at h
  cases e : c.2 with
  | nil => rw [e] at h; cases h
  | cons s st =>
    rw [e] at h
    by_cases hj : j ∈ numbers rs c.1 s
    · have h' := (if_pos hj).symm.trans h
      cases h'
      obtain ⟨j0, j1, _, _⟩ := numbers_mem hj
      have rk := hr.2 _ (List.mem_of_getElem? (rg_at j1))
      have hl := hc.l
      have he := hc.e
      rw [e] at hl he
      have h2 := rk.l
      rw [List.length_cons] at hl
      refine ⟨⟨rk.q, ?_, fun x hx => ?_⟩, j0, j1⟩
      · show ((rg rs j).2.2.2 ++ st).length ≤ N + 1
        rw [List.length_append]
        omega
      · rcases List.mem_append.mp hx with hx | hx
        · exact rk.e x hx
        · exact he x (List.mem_cons_of_mem _ hx)
    · have h' := (if_neg hj).symm.trans h
      cases h'
section
variable {P : Program} {w : World} {K : PySem.W.Frag} {mg : Str → Option Value} {base : Heap}
abbrev con_walk : Con0 := fun dd T P PX => dd.length = 4 ∧ ∃ (l : Addr) (ns : List Int) (rs : List Rl) (p : Int) (st : List Int), dd = [.adr l, .lst (rs.map dR), .int p, .tup (st.map .int)] ∧ T = [(l, .lst (ns.map .int))] ∧ RsOk rs ∧ CfOk 50 (p, st) ∧
  ∀ (cs : List Cf) (js ns' : List Int), playF rs (p, st) js = some cs → js.length ≤ 12 → (∀ c ∈ cs, CfOk 70 c) → (∀ x ∈ js, x.natAbs < 1000) → P (.tup [.lst (cs.map dC), .lst (js.map .int)]) [.lst (ns'.map .int)] []
theorem sc__law_walk : FnScope ["pool", "rows", "p", "stack", "found", "numbers", "k", "due", "number", "q", "after"] ["pool", "rows", "p", "stack"] (defScope s__law_walk) := ⟨rfl, rfl, rfl, by decide +kernel, rfl, by decide +kernel, by decide +kernel⟩
theorem bi__law_walk {K : PySem.W.Frag} {mg : Str → Option Value} (T : Top K mg) : Binds K T.fd__law_walk ["pool", "rows", "p", "stack"] [] := T.F__law_walk.bindsN fun _ _ _ _ _ _ us hl => match us, hl with | [_, _, _, _], _ => rfl
def t__law_walk (K : PySem.W.Frag) : TS := (tSeq (tAsg (tLst (tCons (tTup (tCons (tVar 2) (tCons (tVar 3) tNil))) tNil)) (gName 4)) (tSeq (tAsg (tLst tNil) (gName 5)) (tSeq (tFor (iRng1 (tCons (tC (.int 12)) tNil)) (gName 6) (tSeq (tAsg (tCallG (spA K con_moves) (fun _ => E0) (tCons (tVar 1) (tCons (tOp (rIx K) (tOp (rIx K) (tVar 4) (tUn (rU fun i => .int (-i)) (tC (.int 1)))) (tC (.int 0))) (tCons (tOp (rIx K) (tOp (rIx K) (tVar 4) (tUn (rU fun i => .int (-i)) (tC (.int 1)))) (tC (.int 1))) tNil)))) (gName 7)) (tSeq (tIfS (tNot (tTru K (tVar 7))) tBreak tNext) (tSeq (tAsg (tOp (rIx K) (tVar 7) (tCallG (spA K con_next) (fun _ => E0) (tCons (tVar 0) (tCons (tCB (rLenU K) (tCons (tVar 7) tNil)) tNil)))) (gTup K 3 (gCons (gName 8) (gCons (gName 9) (gCons (gName 10) gNil))))) (tSeq (tDrop (tBM K "list" rAppend (tVar 5) (tCons (tVar 8) tNil))) (tDrop (tBM K "list" rAppend (tVar 4) (tCons (tTup (tCons (tVar 9) (tCons (tVar 10) tNil))) tNil)))))))) (tRet (tTup (tCons (tVar 4) (tCons (tVar 5) tNil)))))))
theorem ok__law_walk (T : Top K mg) : FnG P w K mg base CX0 3 (He.ga K "_law_walk") T.fd__law_walk ["pool", "rows", "p", "stack"] (spA K con_walk) := by
  have G__law_moves := ok__law_moves (P := P) (w := w) (base := base) T
  have b__law_moves := bi__law_moves T
  have G__law_next := ok__law_next (P := P) (w := w) (base := base) T
  have b__law_next := bi__law_next T
  refine okG T.F__law_walk sc__law_walk (spA_ln fun _ _ _ _ h => h.1) (fun cdv A ou s H vs Q E gu hr h => ⟨t__law_walk K , ?_, body h fun F dd Tf P PX hA hl hx => ?_⟩)
  · have hu := hr.units
    have hu5 := hu5_of hr
    have hu1 := hu_of hr
    exact PSs.nox (pss_cons (ps_set (i := 4) sc__law_walk.nd rfl (by first | exact Or.inl rfl | exact Or.inr rfl) (pe_lst (pa_cons (pe_tup (pa_cons (pv 2) (pa_cons (pv 3) pa_nil))) pa_nil))) (pss_cons (ps_set (i := 5) sc__law_walk.nd rfl (by first | exact Or.inl rfl | exact Or.inr rfl) (pe_lst pa_nil)) (pss_cons (ps_for PassesOwn.never rfl (pi_range1 rfl T.g_range (pa_cons pe_int pa_nil)) (pg_name (i := 6) sc__law_walk.nd rfl (by first | exact Or.inl rfl | exact Or.inr rfl)) (pss_cons (ps_set (i := 7) sc__law_walk.nd rfl (by first | exact Or.inl rfl | exact Or.inr rfl) (pe_callG G__law_moves gu (hr.mono (by decide)) rfl T.m__law_moves T.F__law_moves.kp b__law_moves (fun σ => passN σ) (pa_cons (pv 1) (pa_cons (pe_ix ix_seq (pe_ix ix_seq (pv 4) (pe_un un_neg pe_int) (fun _ _ => rfl)) pe_int (fun _ _ => rfl)) (pa_cons (pe_ix ix_seq (pe_ix ix_seq (pv 4) (pe_un un_neg pe_int) (fun _ _ => rfl)) pe_int (fun _ _ => rfl)) pa_nil))))) (pss_cons (ps_if (pt_not (ptT (pv 7) (by intro _; rfl))) (pss_one ps_break) pss_nil) (pss_cons (ps_asg (pe_ix ix_seq (pv 7) (pe_callG G__law_next gu (hr.mono (by decide)) rfl T.m__law_next T.F__law_next.kp b__law_next (fun σ => passN σ) (pa_cons (pv 0) (pa_cons (pe_callB call_len_seq (by rfl) T.g_len boot_len (pa_cons (pv 7) pa_nil)) pa_nil))) (fun _ _ => rfl)) (pg_tup rfl (pgs_cons (pg_name (i := 8) sc__law_walk.nd rfl (by first | exact Or.inl rfl | exact Or.inr rfl)) (pgs_cons (pg_name (i := 9) sc__law_walk.nd rfl (by first | exact Or.inl rfl | exact Or.inr rfl)) (pgs_cons (pg_name (i := 10) sc__law_walk.nd rfl (by first | exact Or.inl rfl | exact Or.inr rfl)) pgs_nil))))) (pss_cons (ps_expr (pe_bm PySem.F.plainAttrs_list PySem.F.slot_list_append PySem.F.type_list_append mt_append (pv 5) (pa_cons (pv 8) pa_nil))) (pss_one (ps_expr (pe_bm PySem.F.plainAttrs_list PySem.F.slot_list_append PySem.F.type_list_append mt_append (pv 4) (pa_cons (pe_tup (pa_cons (pv 9) (pa_cons (pv 10) pa_nil))) pa_nil))))))))) (pss_one (ps_ret (pe_tup (pa_cons (pv 4) (pa_cons (pv 5) pa_nil))))))))
  · unfold t__law_walk
    obtain ⟨_, l, ns, rs, p, st, rfl, rfl, hr, hc, hP⟩ := hA
    walk_at "slots"
    walk_at "e"
    refine ae_lstO ?_
    walk_at "e"
    intro a
    walk_at "red"
    walk_at "e"
    refine ae_lstO (aa_nil ⟨by decide, fun b => ?_⟩)
    walk_at "red"
    refine as_mid (fun ds T => ∃ (cs : List Cf) (js ns : List Int) (v6 v7 v8 v9 v10 : Option D), ds = [some (.adr l), some (.lst (rs.map dR)), some (.int p), some (.tup (st.map .int)), some (.adr a), some (.adr b), v6, v7, v8, v9, v10] ∧
      T = [⟨b, true, .lst (js.map .int)⟩, ⟨a, true, .lst (cs.map dC)⟩, ⟨l, false, .lst (ns.map .int)⟩] ∧ playF rs (p, st) js = some cs ∧ js.length ≤ 12 ∧ (∀ c ∈ cs, CfOk (50 + js.length) c) ∧ ∀ x ∈ js, x.natAbs < 1000) (as_forR (is := [6]) ?_) ?_
    walk_at "e"
    refine ⟨by decide, fun i ds T => ∃ (cs : List Cf) (js ns : List Int) (v6 v7 v8 v9 v10 : Option D), ds = [some (.adr l), some (.lst (rs.map dR)), some (.int p), some (.tup (st.map .int)), some (.adr a), some (.adr b), v6, v7, v8, v9, v10] ∧
      T = [⟨b, true, .lst (js.map .int)⟩, ⟨a, true, .lst (cs.map dC)⟩, ⟨l, false, .lst (ns.map .int)⟩] ∧ playF rs (p, st) js = some cs ∧ js.length ≤ i ∧ js.length ≤ 12 ∧ (∀ c ∈ cs, CfOk (50 + js.length) c) ∧ ∀ x ∈ js, x.natAbs < 1000, ?_, ?_, ?_⟩
    · exact ⟨[(p, st)], [], ns, _, _, _, _, _, rfl, rfl, rfl, Nat.le_refl _, by decide, fun c h => by rw [List.mem_singleton.mp h]; exact hc, fun _ h => by cases h⟩
    · rintro i ds' T' hi ⟨cs, js, ns, v6, v7, v8, v9, v10, rfl, rfl, hp, hl, hl12, hcs, hjs⟩
      have hi12 : i < 12 := hi
      have hcl := playF_len hp
      have hne : cs ≠ [] := fun z => by rw [z] at hcl; cases hcl
      obtain ⟨e, he⟩ : ∃ e, cs.getLast? = some e := ⟨_, List.getLast?_eq_some_getLast hne⟩
      have hem := List.mem_of_getLast? he
      have heo := hcs e hem
      have at_l : atI (cs.map dC) (-1) = some (dC e) := atI_last (by rw [List.getLast?_map, he]; rfl)
      refine ag_name ?_
      walk_at "red"
      refine as_seq (as_asg (ae_call0 no_exc ?_))
      walk_at "e"
      refine rd_ixL (.own 1 rfl) at_l ?_
      walk_at "e"
      refine rd_ixT (d := .int e.1) rfl ?_
      walk_at "e"
      refine rd_ixL (.own 1 rfl) at_l ?_
      walk_at "e"
      refine rd_ixT (d := .tup (e.2.map .int)) rfl ?_
      walk_at "e"
      refine ⟨rfl, _, rs, _, _, rfl, .f _, hr, by have := heo.l; omega, ?_⟩
      walk_at "red"
      walk_at "e"
      refine ⟨fun hb => ?_, fun hb => ?_⟩
      · walk_at "e"
        exact ⟨cs, js, ns, _, _, _, _, _, rfl, rfl, hp, hl12, hcs, hjs⟩
      · walk_at "e"
        refine as_asgG (is := [8, 9, 10]) ?_
        walk_at "e"
        refine ae_call1 2 no_exc ?_
        walk_at "e"
        have hmn : 0 < (mvs rs e).length := by
          cases h : mvs rs e with
          | nil => rw [show mvs rs (e.1, e.2) = mvs rs e from rfl, h] at hb; simp at hb
          | cons m ms => simp
        refine ⟨rfl, _, _, _, rfl, rfl, by rw [List.length_map]; exact Int.natCast_pos.mpr hmn, ?_⟩
        intro r ns' r0 r1
        rw [List.length_map] at r1
        have r1' : r < ((mvs rs e).length : Int) := r1
        walk_at "nx"
        have hrl : r.toNat < (mvs rs e).length := by omega
        obtain ⟨m, hm⟩ : ∃ m, (mvs rs e)[r.toNat]? = some m := ⟨_, List.getElem?_eq_getElem hrl⟩
        have hst := mvs_mem (List.mem_of_getElem? hm)
        obtain ⟨hok, j0, j1⟩ := stp_ok hr heo hst
        have h100 := hr.1
        refine rd_ixL (.f _) (d := dM m) (atI_to r0 (by rw [List.getElem?_map]; exact congrArg (Option.map dM) hm)) ?_
        refine ag_tup rfl (ags_cons (ag_name (ags_cons (ag_name (ags_cons (ag_name (ags_nil ?_)))))))
        walk_at "red"
        walk_at "e"
        refine ⟨cs ++ [(m.2.1, m.2.2)], js ++ [m.1], ns', _, _, _, _, _, rfl, by rw [List.map_append, List.map_append]; rfl, playF_snoc hp he hst, by rw [List.length_append]; simp only [List.length_cons, List.length_nil]; omega, by rw [List.length_append]; simp only [List.length_cons, List.length_nil]; omega, fun c hc => ?_, fun x hx => ?_⟩
        · rw [List.length_append]
          rcases List.mem_append.mp hc with h | h
          · exact (hcs c h).up (by simp only [List.length_cons, List.length_nil]; omega)
          · rw [List.mem_singleton.mp h]
            exact hok
        · rcases List.mem_append.mp hx with h | h
          · exact hjs x h
          · rw [List.mem_singleton.mp h]
            omega
    · rintro ds' T' ⟨cs, js, ns, v6, v7, v8, v9, v10, rfl, rfl, hp, hl, hl12, hcs, hjs⟩
      exact ⟨cs, js, ns, _, _, _, _, _, rfl, rfl, hp, hl12, hcs, hjs⟩
    · rintro ds' T' ⟨cs, js, ns, v6, v7, v8, v9, v10, rfl, rfl, hp, hl12, hcs, hjs⟩
      refine as_ret (ae_tup (aa_cons (ae_take 1 rfl rfl ?_)))
      walk_at "red"
      refine aa_cons (ae_take 0 rfl rfl ?_)
      walk_at "red"
      walk_at "e"
      exact ret1 (hP cs js ns hp hl12 (fun c h => (hcs c h).up (by omega)) hjs) (List.mem_cons_self ..)
end



/-! ### the class Rules -/
def hk (rs : List Rl) : Nat → List (Int × Int)
  | 0 => []
  | i + 1 => if ((rg rs i).1, (rg rs i).2.1) ∈ hk rs i then hk rs i else hk rs i ++ [((rg rs i).1, (rg rs i).2.1)]
def grp (rs : List Rl) (i : Nat) (h : Int × Int) : List Int := ((List.range i).filter (hit rs h.1 h.2)).map Int.ofNat
theorem grp_succ (rs : List Rl) (i : Nat) (h : Int × Int) : grp rs (i + 1) h = grp rs i h ++ (if hit rs h.1 h.2 i = true then [(i : Int)] else []) := by
  unfold grp
  rw [List.range_succ, List.filter_append, List.map_append]
  congr 1
  by_cases h : hit rs h.1 h.2 i = true
  · rw [if_pos h, List.filter_cons_of_pos h]
    rfl
  · rw [if_neg h, List.filter_cons_of_neg h]
    rfl
theorem hit_self (rs : List Rl) (i : Nat) : hit rs (rg rs i).1 (rg rs i).2.1 i = true := by unfold hit; simp
theorem hit_iff {rs : List Rl} {i : Nat} {h : Int × Int} : hit rs h.1 h.2 i = true ↔ h = ((rg rs i).1, (rg rs i).2.1) := by
  unfold hit
  obtain ⟨a, b⟩ := h
  simp only [Bool.and_eq_true, decide_eq_true_eq, Prod.mk.injEq]
  exact ⟨fun z => ⟨z.1.symm, z.2.symm⟩, fun z => ⟨z.1.symm, z.2.symm⟩⟩
theorem hk_mem {rs : List Rl} : ∀ {i j : Nat}, j < i → ((rg rs j).1, (rg rs j).2.1) ∈ hk rs i
  | i + 1, j, h => by
    unfold hk
    by_cases e : j = i
    · subst e
      split
      · assumption
      · exact List.mem_append_right _ (List.mem_singleton.mpr rfl)
    · have := hk_mem (rs := rs) (i := i) (j := j) (by omega)
      split
      · exact this
      · exact List.mem_append_left _ this
theorem grp_nil {rs : List Rl} {i : Nat} {h : Int × Int} (hn : h ∉ hk rs i) : grp rs i h = [] := by
  unfold grp
  rw [List.filter_eq_nil_iff.mpr, List.map_nil]
  intro j hj hh
  have hj' := List.mem_range.mp hj
  exact hn (by rw [hit_iff.mp hh]; exact hk_mem hj')
theorem hk_nd (rs : List Rl) : ∀ i, (hk rs i).Nodup
  | 0 => List.nodup_nil
  | i + 1 => by
    unfold hk
    split
    · exact hk_nd rs i
    · rename_i hn
      rw [List.nodup_append]
      exact ⟨hk_nd rs i, by simp, fun a ha b hb z => hn (by rw [List.mem_singleton] at hb; rw [← hb, ← z]; exact ha)⟩
abbrev ky (h : Int × Int) : List Key := [.inl h.1, .inl h.2]
theorem ky_inj {a b : Int × Int} (h : ky a = ky b) : a = b := by
  injection h with h1 h2
  injection h2 with h2 _
  exact Prod.ext (Sum.inl.inj h1) (Sum.inl.inj h2)
theorem getD_at {α : Type} {f : Int × Int → D} {h : Int × Int} : ∀ {ks : List (Int × Int)}, getD (ks.map ky) (ks.map f) (ky h) = if h ∈ ks then some (f h) else none
  | [] => rfl
  | k :: ks => by
    unfold getD
    rw [List.map_cons, List.map_cons, List.zip_cons_cons]
    by_cases e : k = h
    · subst e
      rw [List.find?_cons_of_pos (by simp), if_pos (List.mem_cons_self ..)]
      rfl
    · rw [List.find?_cons_of_neg (by simp only [decide_eq_true_eq]; exact fun z => e (ky_inj z))]
      have := getD_at (α := α) (f := f) (h := h) (ks := ks)
      unfold getD at this
      rw [this]
      by_cases hm : h ∈ ks
      · rw [if_pos hm, if_pos (List.mem_cons_of_mem _ hm)]
      · rw [if_neg hm, if_neg (fun z => hm ((List.mem_cons.mp z).resolve_left fun z => e z.symm))]
abbrev flds : List Str := ["worlds", "frames", "rows", "by_head"]
abbrev dGs (rs : List Rl) (n : Nat) : List D := (hk rs n).map fun h => .lst ((grp rs n h).map .int)
abbrev dRu (K : PySem.W.Frag) (W Fr : Int) (rs : List Rl) : D := .ins (He.ga K "Rules") flds [.int W, .int Fr, .lst (rs.map dR), .dT ((hk rs rs.length).map ky) (dGs rs rs.length)]
section
variable {P : Program} {w : World} {K : PySem.W.Frag} {mg : Str → Option Value} {base : Heap}
abbrev con_head (K : PySem.W.Frag) : Con0 := fun dd T P PX => dd.length = 3 ∧ ∃ (W Fr p s : Int) (rs : List Rl), dd = [dRu K W Fr rs, .int p, .int s] ∧ ∀ a, P (.adr a) (T.map (·.2)) [(a, .lst ((numbers rs p s).map .int))]
theorem sc_Rules_of_head : FnScope ["self", "p", "s"] ["self", "p", "s"] (defScope s_Rules_of_head) := ⟨rfl, rfl, rfl, by decide +kernel, rfl, by decide +kernel, by decide +kernel⟩
theorem bi_Rules_of_head {K : PySem.W.Frag} {mg : Str → Option Value} (T : Top K mg) : Binds K T.fd_Rules_of_head ["self", "p", "s"] [] := T.F_Rules_of_head.bindsN fun _ _ _ _ _ _ us hl => match us, hl with | [_, _, _], _ => rfl
def t_Rules_of_head (K : PySem.W.Frag) : TS := (tRet (tCB (rListU K) (tCons (tDGet2 (tFld K (tVar 0) "by_head") (tTup (tCons (tVar 1) (tCons (tVar 2) tNil))) (tLst tNil)) tNil)))
theorem ok_Rules_of_head (T : Top K mg) : FnG P w K mg base CX0 1 (He.ma K (He.ga K "Rules") "of_head") T.fd_Rules_of_head ["self", "p", "s"] (spA K (con_head K)) := by
  refine okG T.F_Rules_of_head sc_Rules_of_head (spA_ln fun _ _ _ _ h => h.1) (fun cdv A ou s H vs Q E gu hr h => ⟨t_Rules_of_head K , ?_, body h fun F dd Tf P PX hA hl hx => ?_⟩)
  · have hu := hr.units
    have hu5 := hu5_of hr
    have hu1 := hu_of hr
    exact PSs.nox (pss_one (ps_ret (pe_callTy call_list_of (by rfl) T.g_list (by decide +kernel) (pa_cons (pe_dget2 hu1 (pe_fld (pv 0) rfl) (pe_tup (pa_cons (pv 1) (pa_cons (pv 2) pa_nil))) (pe_lst pa_nil) ⟨rfl, rfl, rfl, rfl⟩) pa_nil))))
  · unfold t_Rules_of_head
    obtain ⟨_, W, Fr, p, s, rs, rfl, hP⟩ := hA
    walk_at "slots"
    walk_at "e"
    refine ae_get2T (ae_fld T.cl_Rules T.na_Rules_by_head ?_)
    walk_at "e"
    refine ⟨_, .f (by rfl), ⟨_, _, .f _ _⟩, ?_⟩
    walk_at "e"
    refine ae_lst (aa_nil ⟨by decide, [.inl p, .inl s], _, _, rfl, .f _ _, ?_⟩)
    rw [show ([.inl p, .inl s] : List Key) = ky (p, s) from rfl, getD_at (α := Unit)]
    have e : ((if (p, s) ∈ hk rs rs.length then some (D.lst ((grp rs rs.length (p, s)).map .int)) else none).getD (.lst [])) = .lst ((numbers rs p s).map .int) := by
      by_cases h : (p, s) ∈ hk rs rs.length
      · rw [if_pos h]
        rfl
      · rw [if_neg h]
        have := grp_nil h
        show D.lst [] = .lst ((grp rs rs.length (p, s)).map .int)
        rw [this]
        rfl
    rw [e]
    walk_at "e"
    refine rc_listLO (.f _) fun a => ?_
    exact retTN (hP a) (fun e he => List.mem_cons_of_mem _ he) (List.mem_cons_self ..)
abbrev con_pmoves (K : PySem.W.Frag) : Con0 := fun dd T P PX => dd.length = 3 ∧ ∃ (W Fr p : Int) (rs : List Rl) (st : List Int), dd = [dRu K W Fr rs, .int p, .tup (st.map .int)] ∧ RsOk rs ∧ st.length ≤ 1000 ∧ ∀ a, P (.adr a) (T.map (·.2)) [(a, .lst ((mvs rs (p, st)).map dM))]
theorem sc_moves : FnScope ["rules", "p", "stack", "found", "index", "_", "q", "row"] ["rules", "p", "stack"] (defScope s_moves) := ⟨rfl, rfl, rfl, by decide +kernel, rfl, by decide +kernel, by decide +kernel⟩
theorem bi_moves {K : PySem.W.Frag} {mg : Str → Option Value} (T : Top K mg) : Binds K T.fd_moves ["rules", "p", "stack"] [] := T.F_moves.bindsN fun _ _ _ _ _ _ us hl => match us, hl with | [_, _, _], _ => rfl
def t_moves (K : PySem.W.Frag) : TS := (tSeq (tIfS (tNot (tTru K (tVar 2))) (tRet (tLst tNil)) tNext) (tSeq (tAsg (tLst tNil) (gName 3)) (tSeq (tFor (iU K (tMethG (He.ga K "Rules") "of_head" (spA K (con_head K)) (fun _ => E0) (tVar 0) (tCons (tVar 1) (tCons (tOp (rIx K) (tVar 2) (tC (.int 0))) tNil)))) (gName 4) (tSeq (tAsg (tOp (rIx K) (tFld K (tVar 0) "rows") (tVar 4)) (gTup K 4 (gCons (gName 5) (gCons (gName 5) (gCons (gName 6) (gCons (gName 7) gNil)))))) (tDrop (tBM K "list" rAppend (tVar 3) (tCons (tTup (tCons (tVar 4) (tCons (tVar 6) (tCons (tOp (rAdd K) (tVar 7) (tSl (rSlU K) (tVar 2) (tPart (tC (.int 1))) tNoPart)) tNil)))) tNil))))) (tRet (tVar 3)))))
theorem ok_moves (T : Top K mg) : FnG P w K mg base CX0 2 (He.ga K "moves") T.fd_moves ["rules", "p", "stack"] (spA K (con_pmoves K)) := by
  have G_Rules_of_head := ok_Rules_of_head (P := P) (w := w) (base := base) T
  have b_Rules_of_head := bi_Rules_of_head T
  refine okG T.F_moves sc_moves (spA_ln fun _ _ _ _ h => h.1) (fun cdv A ou s H vs Q E gu hr h => ⟨t_moves K , ?_, body h fun F dd Tf P PX hA hl hx => ?_⟩)
  · have hu := hr.units
    have hu5 := hu5_of hr
    have hu1 := hu_of hr
    exact PSs.nox (pss_cons (ps_if (pt_not (ptT (pv 2) (by intro _; rfl))) (pss_one (ps_ret (pe_lst pa_nil))) pss_nil) (pss_cons (ps_set (i := 3) sc_moves.nd rfl (by first | exact Or.inl rfl | exact Or.inr rfl) (pe_lst pa_nil)) (pss_cons (ps_for PassesOwn.never rfl (pi_u (pe_methG (pv 0) T.cl_Rules T.me_Rules_of_head G_Rules_of_head gu (hr.mono (by decide)) b_Rules_of_head (fun σ => passN σ) (pa_cons (pv 1) (pa_cons (pe_ix ix_seq (pv 2) pe_int (fun _ _ => rfl)) pa_nil)))) (pg_name (i := 4) sc_moves.nd rfl (by first | exact Or.inl rfl | exact Or.inr rfl)) (pss_cons (ps_asg (pe_ix ix_seq (pe_fld (pv 0) rfl) (pv 4) (fun _ _ => rfl)) (pg_tup rfl (pgs_cons (pg_name (i := 5) sc_moves.nd rfl (by first | exact Or.inl rfl | exact Or.inr rfl)) (pgs_cons (pg_name (i := 5) sc_moves.nd rfl (by first | exact Or.inl rfl | exact Or.inr rfl)) (pgs_cons (pg_name (i := 6) sc_moves.nd rfl (by first | exact Or.inl rfl | exact Or.inr rfl)) (pgs_cons (pg_name (i := 7) sc_moves.nd rfl (by first | exact Or.inl rfl | exact Or.inr rfl)) pgs_nil)))))) (pss_one (ps_expr (pe_bm PySem.F.plainAttrs_list PySem.F.slot_list_append PySem.F.type_list_append mt_append (pv 3) (pa_cons (pe_tup (pa_cons (pv 4) (pa_cons (pv 6) (pa_cons (pe_op opAdd (pv 7) (pe_slice slU (pv 2) (po_some pe_int) po_none)) pa_nil)))) pa_nil)))))) (pss_one (ps_ret (pv 3))))))
  · unfold t_moves
    obtain ⟨_, W, Fr, p, rs, st, rfl, ⟨hlen, hr⟩, hst, hP⟩ := hA
    walk_at "slots"
    walk_at "e"
    refine ⟨fun hb => ?_, fun hb => ?_⟩
    · walk_at "e"
      refine ae_lstO (aa_nil ⟨by decide, fun a => ?_⟩)
      cases st with
      | nil => exact retTN (hP a) (fun e he => List.mem_cons_of_mem _ he) (List.mem_cons_self ..)
      | cons s st => simp at hb
    · cases st with
      | nil => simp at hb
      | cons s st =>
        walk_at "e"
        refine ae_lstO (aa_nil ⟨by decide, fun a => ?_⟩)
        walk_at "red"
        refine as_seq (as_uL (as_forL (is := [4]) (ae_methT no_exc ?_)))
        walk_at "e"
        refine ⟨_, _, rfl, by decide +kernel, ?_⟩
        walk_at "e"
        refine rd_ixT (d := .int s) (atI_of (k := 0) rfl) ?_
        walk_at "e"
        refine ⟨rfl, _, _, _, _, _, rfl, fun b => ⟨toFoot_snd, ?_⟩⟩
        walk_at "red"
        simp only [List.map_cons, List.cons_append, List.nil_append]
        refine ⟨_, .own 0 rfl, fun i ds T => ∃ (v4 v5 v6 v7 : Option D), ds = [some (dRu K W Fr rs), some (.int p), some (.tup ((s :: st).map .int)), some (.adr a), v4, v5, v6, v7] ∧
          T = ⟨b, true, .lst ((numbers rs p s).map .int)⟩ :: ⟨a, true, .lst ((((numbers rs p s).take i).map fun k => (k, (rg rs k).2.2.1, (rg rs k).2.2.2 ++ st)).map dM)⟩ :: foot Tf, ?_, ?_, ?_, ?_⟩
        · exact ⟨_, _, _, _, rfl, rfl⟩
        · rintro i ds' T' hi ⟨v4, v5, v6, v7, rfl, rfl⟩
          exact .own 0 rfl
        · rintro i x ds' T' hx ⟨v4, v5, v6, v7, rfl, rfl⟩
          rw [List.getElem?_map] at hx
          cases e : (numbers rs p s)[i]? with
          | none => rw [e] at hx; cases hx
          | some k =>
            rw [e] at hx
            cases hx
            obtain ⟨k0, k1, _, _⟩ := numbers_mem (List.mem_of_getElem? e)
            have rk := hr _ (List.mem_of_getElem? (rg_at k1))
            have hl := rk.l
            refine ag_name ?_
            walk_at "red"
            refine as_seq (as_asgG (is := [5, 5, 6, 7]) ?_)
            walk_at "e"
            refine ae_fld T.cl_Rules T.na_Rules_rows ?_
            walk_at "e"
            refine ⟨_, .f (by rfl), ?_⟩
            walk_at "e"
            refine rd_ixL (.f _) (atI_rs k0 k1) ?_
            refine ag_tup rfl (ags_cons (ag_name (ags_cons (ag_name (ags_cons (ag_name (ags_cons (ag_name (ags_nil ?_)))))))))
            walk_at "red"
            walk_at "e"
            refine rs_T (rd_catT ?_ ?_)
            · rw [show (some (1 : Int)) = some ((1 : Nat) : Int) from rfl, cutX_from, List.length_drop, List.length_map, List.length_map]
              omega
            walk_at "red"
            walk_at "e"
            refine rm_append 1 rfl ?_ ?_
            · rw [List.length_map, List.length_map, List.length_take]
              have := mvs_len rs (p, s :: st)
              unfold mvs at this
              simp only [List.length_map] at this
              omega
            walk_at "red"
            refine ⟨_, _, _, _, rfl, ?_⟩
            rw [List.take_add_one, e, List.map_append, List.map_append, show (some (1 : Int)) = some ((1 : Nat) : Int) from rfl, cutX_from]
            simp [dM]
        · rintro ds' T' ⟨v4, v5, v6, v7, rfl, rfl⟩
          rw [List.length_map, List.take_length]
          walk_at "e"
          exact retTN (hP a) (fun e he => List.mem_cons_of_mem _ (List.mem_cons_of_mem _ he)) (List.mem_cons_of_mem _ (List.mem_cons_self ..))
abbrev con_init (K : PySem.W.Frag) : Con0 := fun dd T P PX => dd.length = 4 ∧ ∃ (x : Addr) (W Fr : Int) (d : D) (rs : List Rl) (Tr : Foot), dd = [.adr x, .int W, .int Fr, d] ∧ T = (x, .ins (He.ga K "Rules") [] []) :: Tr ∧ LV (foot Tr) d (rs.map dR) ∧ rs.length ≤ 1000 ∧
  P .non (.ins (He.ga K "Rules") flds [.int W, .int Fr, .lst (rs.map dR), .dT ((hk rs rs.length).map ky) (dGs rs rs.length)] :: Tr.map (·.2)) []
theorem lv_tail {x : Ow} {T : Tb} {d : D} {xs : List D} (l : LV T d xs) : LV (x :: T) d xs := by
  cases l with
  | f => exact .f _
  | r => exact .r _
  | @o j e _ h1 h2 => exact .o (j := j + 1) h1 h2
abbrev xIns (K : PySem.W.Frag) (q : Addr) (W Fr : Int) (rs : List Rl) : OB := .ins (He.ga K "Rules") flds [.int W, .int Fr, .lst (rs.map dR), .adr q]
def Inv14 (K : PySem.W.Frag) (x q : Addr) (W Fr : Int) (d : D) (rs : List Rl) (Tr : Foot) (i : Nat) (ds : Sls) (T : Tb) : Prop := ∃ (L : Tb) (as : List Addr) (v4 v5 v6 v7 : Option D), ds = [some (.adr x), some (.int W), some (.int Fr), some d, v4, v5, v6, v7] ∧
  T = L ++ (⟨q, true, .dT ((hk rs i).map ky) (as.map .adr)⟩ :: ⟨x, false, xIns K q W Fr rs⟩ :: foot Tr) ∧ (∀ e ∈ L, e.loc = true) ∧ as.length = (hk rs i).length ∧ as.Nodup ∧
  ∀ (n : Nat) (a : Addr) (h : Int × Int), as[n]? = some a → (hk rs i)[n]? = some h → ⟨a, true, .lst ((grp rs i h).map .int)⟩ ∈ L
theorem hk_le (rs : List Rl) : ∀ i, (hk rs i).length ≤ i
  | 0 => Nat.le_refl _
  | i + 1 => by
    unfold hk
    have := hk_le rs i
    split
    · omega
    · rw [List.length_append, List.length_singleton]
      omega
theorem grp_le (rs : List Rl) (i : Nat) (h : Int × Int) : (grp rs i h).length ≤ i := by
  unfold grp
  rw [List.length_map]
  have := List.length_filter_le (hit rs h.1 h.2) (List.range i)
  rwa [List.length_range] at this
theorem getD_ix {h : Int × Int} {d : D} : ∀ {hs : List (Int × Int)} {as : List Addr}, getD (hs.map ky) (as.map D.adr) (ky h) = some d → ∃ (n : Nat) (a : Addr), hs[n]? = some h ∧ as[n]? = some a ∧ d = .adr a
  | [], _, z => by simp [getD] at z
  | _ :: _, [], z => by simp [getD] at z
  | k :: hs, a :: as, z => by
    by_cases e : k = h
    · subst e
      unfold getD at z
      rw [List.map_cons, List.map_cons, List.zip_cons_cons, List.find?_cons_of_pos (by simp)] at z
      exact ⟨0, a, rfl, rfl, (Option.some.inj z).symm⟩
    · have z' : getD (hs.map ky) (as.map D.adr) (ky h) = some d := by
        unfold getD at z ⊢
        rw [List.map_cons, List.map_cons, List.zip_cons_cons, List.find?_cons_of_neg (by simp only [decide_eq_true_eq]; exact fun z => e (ky_inj z))] at z
        exact z
      obtain ⟨n, b, h1, h2, h3⟩ := getD_ix z'
      exact ⟨n + 1, b, h1, h2, h3⟩
theorem getD_no {h : Int × Int} : ∀ {hs : List (Int × Int)} {as : List Addr}, as.length = hs.length → getD (hs.map ky) (as.map D.adr) (ky h) = none → h ∉ hs
  | [], _, _, _ => List.not_mem_nil
  | _ :: _, [], hl, _ => by cases hl
  | k :: hs, a :: as, hl, z => by
    by_cases e : k = h
    · subst e
      unfold getD at z
      rw [List.map_cons, List.map_cons, List.zip_cons_cons, List.find?_cons_of_pos (by simp)] at z
      cases z
    · have z' : getD (hs.map ky) (as.map D.adr) (ky h) = none := by
        unfold getD at z ⊢
        rw [List.map_cons, List.map_cons, List.zip_cons_cons, List.find?_cons_of_neg (by simp only [decide_eq_true_eq]; exact fun z => e (ky_inj z))] at z
        exact z
      intro hm
      exact (List.mem_cons.mp hm).elim (fun z => e z.symm) (getD_no (by simpa using hl) z')
theorem fvO {T : Tb} {a : Addr} {l : Bool} {C : Addr} {ns : List Str} {xs : List D} {f : Str} {d' : D} (j : Nat) (h : T[j]? = some ⟨a, l, .ins C ns xs⟩) (lk : (ns.zip xs).lookup f = some d') : FV T f d' (.adr a) C := .o h rfl lk
theorem sc_Rules_init : FnScope ["self", "worlds", "frames", "rows", "index", "p", "s", "_"] ["self", "worlds", "frames", "rows"] (defScope s_Rules_init) := ⟨rfl, rfl, rfl, by decide +kernel, rfl, by decide +kernel, by decide +kernel⟩
theorem bi_Rules_init {K : PySem.W.Frag} {mg : Str → Option Value} (T : Top K mg) : Binds K T.fd_Rules_init ["self", "worlds", "frames", "rows"] [] := T.F_Rules_init.bindsN fun _ _ _ _ _ _ us hl => match us, hl with | [_, _, _, _], _ => rfl
def t_Rules_init (K : PySem.W.Frag) : TS := (tSeq (sFld K (tVar 0) (tVar 1) "worlds") (tSeq (sFld K (tVar 0) (tVar 2) "frames") (tSeq (sFld K (tVar 0) (tCB (rListU K) (tCons (tVar 3) tNil)) "rows") (tSeq (sFld K (tVar 0) tDNewT "by_head") (tFor (iRng1 (tCons (tCB (rLenU K) (tCons (tFld K (tVar 0) "rows") tNil)) tNil)) (gName 4) (tSeq (tAsg (tOp (rIx K) (tFld K (tVar 0) "rows") (tVar 4)) (gTup K 4 (gCons (gName 5) (gCons (gName 6) (gCons (gName 7) (gCons (gName 7) gNil)))))) (tDrop (tBM K "list" rAppend (tSetdT (tFld K (tVar 0) "by_head") (tTup (tCons (tVar 5) (tCons (tVar 6) tNil))) (tLst tNil)) (tCons (tVar 4) tNil)))))))))
theorem ok_Rules_init (T : Top K mg) : FnG P w K mg base CX0 1 (He.ma K (He.ga K "Rules") "__init__") T.fd_Rules_init ["self", "worlds", "frames", "rows"] (spA K (con_init K)) := by
  refine okG T.F_Rules_init sc_Rules_init (spA_ln fun _ _ _ _ h => h.1) (fun cdv A ou s H vs Q E gu hr h => ⟨t_Rules_init K , ?_, body h fun F dd Tf P PX hA hl hx => ?_⟩)
  · have hu := hr.units
    have hu5 := hu5_of hr
    have hu1 := hu_of hr
    exact PSs.nox (pss_cons (ps_fld (pv 0) (pv 1) rfl) (pss_cons (ps_fld (pv 0) (pv 2) rfl) (pss_cons (ps_fld (pv 0) (pe_callTy call_list_of (by rfl) T.g_list (by decide +kernel) (pa_cons (pv 3) pa_nil)) rfl) (pss_cons (ps_fld (pv 0) pe_dnewT rfl) (pss_one (ps_for PassesOwn.never rfl (pi_range1 rfl T.g_range (pa_cons (pe_callB call_len_seq (by rfl) T.g_len boot_len (pa_cons (pe_fld (pv 0) rfl) pa_nil)) pa_nil)) (pg_name (i := 4) sc_Rules_init.nd rfl (by first | exact Or.inl rfl | exact Or.inr rfl)) (pss_cons (ps_asg (pe_ix ix_seq (pe_fld (pv 0) rfl) (pv 4) (fun _ _ => rfl)) (pg_tup rfl (pgs_cons (pg_name (i := 5) sc_Rules_init.nd rfl (by first | exact Or.inl rfl | exact Or.inr rfl)) (pgs_cons (pg_name (i := 6) sc_Rules_init.nd rfl (by first | exact Or.inl rfl | exact Or.inr rfl)) (pgs_cons (pg_name (i := 7) sc_Rules_init.nd rfl (by first | exact Or.inl rfl | exact Or.inr rfl)) (pgs_cons (pg_name (i := 7) sc_Rules_init.nd rfl (by first | exact Or.inl rfl | exact Or.inr rfl)) pgs_nil)))))) (pss_one (ps_expr (pe_bm PySem.F.plainAttrs_list PySem.F.slot_list_append PySem.F.type_list_append mt_append (pe_setdT hu1 (pe_fld (pv 0) rfl) (pe_tup (pa_cons (pv 5) (pa_cons (pv 6) pa_nil))) (pe_lst pa_nil) ⟨rfl, rfl, rfl, rfl⟩) (pa_cons (pv 4) pa_nil)))))))))))
  · unfold t_Rules_init
    obtain ⟨_, x, W, Fr, d, rs, Tr, rfl, rfl, lv, hlen, hP⟩ := hA
    walk_at "slots"
    refine as_seq (as_fld T.cl_Rules T.na_Rules_worlds ?_)
    walk_at "e"
    refine ⟨_, 0, _, _, _, rfl, rfl, by decide +kernel, by decide, ?_⟩
    walk_at "red"
    refine as_seq (as_fld T.cl_Rules T.na_Rules_frames ?_)
    walk_at "e"
    refine ⟨_, 0, _, _, _, rfl, rfl, by decide +kernel, by decide, ?_⟩
    walk_at "red"
    refine as_seq (as_fld T.cl_Rules T.na_Rules_rows ?_)
    walk_at "e"
    refine rc_listL (lv_tail lv) ?_
    walk_at "e"
    refine ⟨_, 0, _, _, _, rfl, rfl, by decide +kernel, by decide, ?_⟩
    walk_at "red"
    refine as_seq (as_fld T.cl_Rules T.na_Rules_by_head (ae_newT fun q => ?_))
    walk_at "e"
    refine ⟨_, 1, _, _, _, rfl, rfl, by decide +kernel, by decide, ?_⟩
    walk_at "red"
    simp only [List.nil_append, List.cons_append]
    refine as_end (fun ds T => Inv14 K x q W Fr d rs Tr rs.length ds T) (as_forR (is := [4]) ?_) ?_
    · walk_at "e"
      refine ae_fld T.cl_Rules T.na_Rules_rows ?_
      walk_at "e"
      refine ⟨.lst (rs.map dR), fvO 1 rfl rfl, ?_⟩
      walk_at "e"
      refine ⟨by rw [List.length_map]; omega, Inv14 K x q W Fr d rs Tr, ?_, ?_, ?_⟩
      · exact ⟨[], [], _, _, _, _, rfl, rfl, fun _ h => (by cases h), rfl, List.nodup_nil, fun n a h z => (by cases z)⟩
      · rintro i ds' T' hi ⟨L, as, v4, v5, v6, v7, rfl, rfl, hL, hal, hnd, hmem⟩
        rw [List.length_map] at hi
        have hi' : i < rs.length := hi
        have hjq : (L ++ (⟨q, true, .dT ((hk rs i).map ky) (as.map .adr)⟩ :: ⟨x, false, xIns K q W Fr rs⟩ :: foot Tr))[L.length]? = some ⟨q, true, .dT ((hk rs i).map ky) (as.map .adr)⟩ := by
          rw [List.getElem?_append_right (Nat.le_refl _), Nat.sub_self]
          rfl
        have hjx : (L ++ (⟨q, true, .dT ((hk rs i).map ky) (as.map .adr)⟩ :: ⟨x, false, xIns K q W Fr rs⟩ :: foot Tr))[L.length + 1]? = some ⟨x, false, xIns K q W Fr rs⟩ := by
          rw [List.getElem?_append_right (by omega), show L.length + 1 - L.length = 1 by omega]
          rfl
        refine ag_name ?_
        walk_at "red"
        refine as_seq (as_asgG (is := [5, 6, 7, 7]) ?_)
        walk_at "e"
        refine ae_fld T.cl_Rules T.na_Rules_rows ?_
        walk_at "e"
        refine ⟨.lst (rs.map dR), fvO _ hjx rfl, ?_⟩
        walk_at "e"
        refine rd_ixL (.f _) (atI_rs (k := (i : Int)) (by omega) (by show i < rs.length; exact hi')) ?_
        refine ag_tup rfl (ags_cons (ag_name (ags_cons (ag_name (ags_cons (ag_name (ags_cons (ag_name (ags_nil ?_)))))))))
        walk_at "red"
        refine as_drop (ae_bmL (ae_setdT ?_))
        refine ae_fld T.cl_Rules T.na_Rules_by_head ?_
        walk_at "e"
        refine ⟨.adr q, fvO _ hjx rfl, q, rfl, ⟨_, _, _, _, hjq⟩, ?_⟩
        walk_at "e"
        refine ae_lstN (aa_nil ⟨by decide, fun r hr => ?_⟩)
        refine ⟨ky ((rg rs i).1, (rg rs i).2.1), L.length + 1, true, _, _, rfl, hjq, ?_, fun d0 hd0 => ?_, fun hnone => ?_⟩
        · rw [List.length_map]
          have := hk_le rs i
          omega
        · obtain ⟨n, a, hn, ha, rfl⟩ := getD_ix hd0
          have hin : ((rg rs i).1, (rg rs i).2.1) ∈ hk rs i := List.mem_of_getElem? hn
          obtain ⟨j, hj⟩ := List.getElem?_of_mem (hmem n a _ ha hn)
          have hjl := (List.getElem?_eq_some_iff.mp hj).1
          have hj1 : (⟨r, true, .lst []⟩ :: (L ++ (⟨q, true, .dT ((hk rs i).map ky) (as.map .adr)⟩ :: ⟨x, false, xIns K q W Fr rs⟩ :: foot Tr)) : Tb)[j + 1]? = some ⟨a, true, .lst ((grp rs i ((rg rs i).1, (rg rs i).2.1)).map .int)⟩ := by
            show (L ++ _)[j]? = _
            rw [List.getElem?_append_left hjl]
            exact hj
          refine ⟨⟨_, .own (j + 1) hj1⟩, ?_⟩
          walk_at "e"
          refine rm_append (j + 1) hj1 ?_ ?_
          · rw [List.length_map]
            exact Nat.lt_of_le_of_lt (grp_le rs i _) (by omega)
          have ehk : hk rs (i + 1) = hk rs i := by
            conv => lhs; unfold hk
            exact if_pos hin
          refine ⟨⟨r, true, .lst []⟩ :: L.set j ⟨a, true, .lst ((grp rs (i + 1) ((rg rs i).1, (rg rs i).2.1)).map .int)⟩, as, _, _, _, _, rfl, ?_, fun e he => ?_, by rw [ehk]; exact hal, hnd, fun n' a' h' ha' hh' => ?_⟩
          · rw [List.set_cons_succ, List.set_append_left _ _ hjl, ehk, grp_succ, if_pos (hit_self rs i), List.map_append]
            rfl
          · rcases List.mem_cons.mp he with rfl | he
            · rfl
            · rcases List.mem_or_eq_of_mem_set he with h | rfl
              · exact hL e h
              · rfl
          · rw [ehk] at hh'
            refine List.mem_cons_of_mem _ ?_
            by_cases hnn : n' = n
            · subst hnn
              rw [ha] at ha'
              rw [hn] at hh'
              cases ha'
              cases hh'
              exact List.mem_of_getElem? (i := j) (List.getElem?_set_self hjl)
            · obtain ⟨j', hj'⟩ := List.getElem?_of_mem (hmem n' a' h' ha' hh')
              have hne : j ≠ j' := fun z => by
                subst z
                rw [hj] at hj'
                have haa : a = a' := congrArg Ow.a (Option.some.inj hj')
                exact hnn ((List.getElem?_inj (List.getElem?_eq_some_iff.mp ha').1 hnd).mp (by rw [ha', ha, haa]))
              have hh : h' ≠ ((rg rs i).1, (rg rs i).2.1) := fun z => hnn ((List.getElem?_inj (List.getElem?_eq_some_iff.mp hh').1 (hk_nd rs i)).mp (by rw [hh', hn, z]))
              rw [grp_succ rs i h', if_neg (fun z => hh (hit_iff.mp z)), List.append_nil]
              exact List.mem_of_getElem? (i := j') (by rw [List.getElem?_set_ne hne]; exact hj')
        · have hnin : ((rg rs i).1, (rg rs i).2.1) ∉ hk rs i := getD_no hal hnone
          refine ⟨⟨_, .own 0 rfl⟩, ?_⟩
          walk_at "e"
          have ehk : hk rs (i + 1) = hk rs i ++ [((rg rs i).1, (rg rs i).2.1)] := by
            conv => lhs; unfold hk
            exact if_neg hnin
          have has : ∀ a ∈ as, a ≠ r := fun a ha z => by
            obtain ⟨n, hn⟩ := List.getElem?_of_mem ha
            have hnl := (List.getElem?_eq_some_iff.mp hn).1
            have := hmem n a _ hn (List.getElem?_eq_getElem (by omega))
            refine hr (List.mem_map.mpr ⟨_, List.mem_append_left _ this, z⟩)
          refine ⟨⟨r, true, .lst [.int (i : Int)]⟩ :: L, as ++ [r], _, _, _, _, rfl, ?_, fun e he => ?_, by rw [ehk, List.length_append, List.length_append, hal]; rfl, ?_, fun n' a' h' ha' hh' => ?_⟩
          · rw [List.set_append_right _ _ (Nat.le_refl _), Nat.sub_self, List.set_cons_zero, ehk, List.map_append, List.map_append]
            rfl
          · rcases List.mem_cons.mp he with rfl | he
            · rfl
            · exact hL e he
          · rw [List.nodup_append]
            exact ⟨hnd, by simp, fun a ha b hb z => has a ha (by rw [List.mem_singleton] at hb; rw [z, hb])⟩
          · rw [ehk] at hh'
            by_cases hnl : n' < as.length
            · rw [List.getElem?_append_left hnl] at ha'
              rw [List.getElem?_append_left (by omega)] at hh'
              have hh : h' ≠ ((rg rs i).1, (rg rs i).2.1) := fun z => hnin (z ▸ List.mem_of_getElem? hh')
              rw [grp_succ, if_neg (fun z => hh (hit_iff.mp z)), List.append_nil]
              exact List.mem_cons_of_mem _ (hmem n' a' h' ha' hh')
            · have hl1 := (List.getElem?_eq_some_iff.mp ha').1
              rw [List.length_append, List.length_singleton] at hl1
              have hn' : n' = as.length := by omega
              subst hn'
              rw [List.getElem?_append_right (Nat.le_refl _), Nat.sub_self] at ha'
              rw [List.getElem?_append_right (by omega), hal, Nat.sub_self] at hh'
              cases ha'
              cases hh'
              rw [grp_succ, if_pos (hit_self rs i), grp_nil hnin]
              exact List.mem_cons_self ..
      · rintro ds' T' h
        rw [List.length_map] at h
        exact h
    · rintro ds' T' ⟨L, as, v4, v5, v6, v7, rfl, rfl, hL, hal, hnd, hmem⟩
      refine AS.ghost fun F σ H ok => ?_
      obtain ⟨F1, e1, ok1, i1⟩ := ok.frozFront hL
      have ok2 := ok1.retell (j := 0) (ob := .dT ((hk rs rs.length).map ky) (dGs rs rs.length)) rfl (by
        rintro ⟨vs, g1, g2, g3⟩
        refine ⟨vs, g1, g2, ?_⟩
        rw [adrs_are g3]
        refine isA_refs (by rw [hal, List.length_map]) fun n a d ha hd => ?_
        rw [List.getElem?_map] at hd
        cases z : (hk rs rs.length)[n]? with
        | none => rw [z] at hd; cases hd
        | some h =>
          rw [z] at hd
          cases hd
          exact i1 _ (hmem n a h ha z))
      obtain ⟨F2, ok3, e2, i2, _⟩ := ok2.froz (j := 0) rfl rfl
      have ok4 := ok3.retell (j := 0) (ob := .ins (He.ga K "Rules") flds [.int W, .int Fr, .lst (rs.map dR), .dT ((hk rs rs.length).map ky) (dGs rs rs.length)]) rfl (by
        rintro ⟨dx, vs, g1, g2, g3⟩
        refine ⟨dx, vs, g1, g2, ?_⟩
        cases g3 with
        | cons a1 g3 =>
          cases g3 with
          | cons a2 g3 =>
            cases g3 with
            | cons a3 g3 =>
              cases g3 with
              | cons a4 g3 =>
                cases g3
                cases a4
                exact .cons a1 (.cons a2 (.cons a3 (.cons i2 .nil))))
      exact ⟨F2, _, _, e1.trans e2, ok4, as_next (retI hP (List.mem_cons_self ..) fun e he => List.mem_cons_of_mem _ he)⟩
end



section
variable {P : Program} {w : World} {K : PySem.W.Frag} {mg : Str → Option Value} {base : Heap}
abbrev con_play (K : PySem.W.Frag) : Con0 := fun dd T P PX => dd.length = 4 ∧ ∃ (W Fr p : Int) (rs : List Rl) (st : List Int) (d : D) (js : List Int), dd = [dRu K W Fr rs, .int p, .tup (st.map .int), d] ∧ LV (foot T) d (js.map .int) ∧ RsOk rs ∧ CfOk 100 (p, st) ∧ js.length ≤ 100 ∧
  (∀ cs a, playF rs (p, st) js = some cs → P (.adr a) (T.map (·.2)) [(a, .lst (cs.map dC))]) ∧ (playF rs (p, st) js = none → PX (.ref (He.ga K "NoStep")) (T.map (·.2)))
theorem sc_play : FnScope ["rules", "p", "stack", "row", "found", "index", "_", "q", "pushed"] ["rules", "p", "stack", "row"] (defScope s_play) := ⟨rfl, rfl, rfl, by decide +kernel, rfl, by decide +kernel, by decide +kernel⟩
theorem bi_play {K : PySem.W.Frag} {mg : Str → Option Value} (T : Top K mg) : Binds K T.fd_play ["rules", "p", "stack", "row"] [] := T.F_play.bindsN fun _ _ _ _ _ _ us hl => match us, hl with | [_, _, _, _], _ => rfl
def t_play (K : PySem.W.Frag) (W : WX) : TS := (tSeq (tAsg (tLst (tCons (tTup (tCons (tVar 1) (tCons (tVar 2) tNil))) tNil)) (gName 4)) (tSeq (tFor (iU K (tVar 3)) (gName 5) (tSeq (tAsg (tOp (rIx K) (tVar 4) (tUn (rU fun i => .int (-i)) (tC (.int 1)))) (gTup K 2 (gCons (gName 1) (gCons (gName 2) gNil)))) (tSeq (tIfS (tOr (tNot (tTru K (tVar 2))) (tTest (tOp (rNinU K) (tVar 5) (tMethG (He.ga K "Rules") "of_head" (spA K (con_head K)) (fun _ => E0) (tVar 0) (tCons (tVar 1) (tCons (tOp (rIx K) (tVar 2) (tC (.int 0))) tNil)))))) (fun _ σ H => W (.ref (He.ga K "NoStep")) none σ H) tNext) (tSeq (tAsg (tOp (rIx K) (tFld K (tVar 0) "rows") (tVar 5)) (gTup K 4 (gCons (gName 6) (gCons (gName 6) (gCons (gName 7) (gCons (gName 8) gNil)))))) (tDrop (tBM K "list" rAppend (tVar 4) (tCons (tTup (tCons (tVar 7) (tCons (tOp (rAdd K) (tVar 8) (tSl (rSlU K) (tVar 2) (tPart (tC (.int 1))) tNoPart)) tNil))) tNil))))))) (tRet (tVar 4))))
theorem ok_play (T : Top K mg) : FnG P w K mg base (L2.CX P w) 2 (He.ga K "play") T.fd_play ["rules", "p", "stack", "row"] (spA K (con_play K)) := by
  have G_Rules_of_head := ok_Rules_of_head (P := P) (w := w) (base := base) T
  have b_Rules_of_head := bi_Rules_of_head T
  refine okG T.F_play sc_play (spA_ln fun _ _ _ _ h => h.1) (fun cdv A ou s H vs Q E gu hr h => ⟨t_play K (fun cls d _ H => E cls d H), ?_, body h fun F dd Tf P PX hA hl hx => ?_⟩)
  · have hu := hr.units
    have hu5 := hu5_of hr
    have hu1 := hu_of hr
    have tk : Takes (cxOf (L2.CX P w) P w K mg base ["rules", "p", "stack", "row", "found", "index", "_", "q", "pushed"] "play" (defScope s_play) (He.ga K "play") cdv A ou s H E) (fun cls d _ H => E cls d H) := takes_of rfl rfl rfl rfl
    exact (pss_cons (ps_set (i := 4) sc_play.nd rfl (by first | exact Or.inl rfl | exact Or.inr rfl) (pe_lst (pa_cons (pe_tup (pa_cons (pv 1) (pa_cons (pv 2) pa_nil))) pa_nil))) (pss_cons (ps_for (passes_of rfl) rfl (pi_u (pv 3)) (pg_name (i := 5) sc_play.nd rfl (by first | exact Or.inl rfl | exact Or.inr rfl)) (pss_cons (ps_asg (pe_ix ix_seq (pv 4) (pe_un un_neg pe_int) (fun _ _ => rfl)) (pg_tup rfl (pgs_cons (pg_name (i := 1) sc_play.nd rfl (by first | exact Or.inl rfl | exact Or.inr rfl)) (pgs_cons (pg_name (i := 2) sc_play.nd rfl (by first | exact Or.inl rfl | exact Or.inr rfl)) pgs_nil)))) (pss_cons (ps_if (PW.pt (pw_or (pt_not (ptT (pv 2) (by intro _; rfl))) (pw_or1 (pt_cmpR (opNin hu5) (pv 5) (pe_methG (pv 0) T.cl_Rules T.me_Rules_of_head G_Rules_of_head gu (hr.mono (by decide)) b_Rules_of_head (fun σ => passN σ) (pa_cons (pv 1) (pa_cons (pe_ix ix_seq (pv 2) pe_int (fun _ _ => rfl)) pa_nil))) (by rfl))))) (pss_one (ps_raise rfl tk (pmk_own PySem.F.excBase_ValueError T.x_NoStep T.m_NoStep T.k_NoStep (raises_own T.b_NoStep T.t_NoStep) rfl))) pss_nil) (pss_cons (ps_asg (pe_ix ix_seq (pe_fld (pv 0) rfl) (pv 5) (fun _ _ => rfl)) (pg_tup rfl (pgs_cons (pg_name (i := 6) sc_play.nd rfl (by first | exact Or.inl rfl | exact Or.inr rfl)) (pgs_cons (pg_name (i := 6) sc_play.nd rfl (by first | exact Or.inl rfl | exact Or.inr rfl)) (pgs_cons (pg_name (i := 7) sc_play.nd rfl (by first | exact Or.inl rfl | exact Or.inr rfl)) (pgs_cons (pg_name (i := 8) sc_play.nd rfl (by first | exact Or.inl rfl | exact Or.inr rfl)) pgs_nil)))))) (pss_one (ps_expr (pe_bm PySem.F.plainAttrs_list PySem.F.slot_list_append PySem.F.type_list_append mt_append (pv 4) (pa_cons (pe_tup (pa_cons (pv 7) (pa_cons (pe_op opAdd (pv 8) (pe_slice slU (pv 2) (po_some pe_int) po_none)) pa_nil))) pa_nil)))))))) (pss_one (ps_ret (pv 4)))))
  · unfold t_play
    obtain ⟨_, W, Fr, p, rs, st, d, js, rfl, lv, hr, hc, hjl, hP, hPX⟩ := hA
    walk_at "slots"
    walk_at "e"
    refine ae_lstO ?_
    walk_at "e"
    intro a
    walk_at "red"
    refine as_mid (fun ds T => ∃ (cs : List Cf) (v1 v2 v5 v6 v7 v8 : Option D), ds = [some (dRu K W Fr rs), v1, v2, some d, some (.adr a), v5, v6, v7, v8] ∧
      T = ⟨a, true, .lst (cs.map dC)⟩ :: foot Tf ∧ playF rs (p, st) js = some cs) (as_uL (as_forL (is := [5]) ?_)) ?_
    · walk_at "e"
      refine ⟨_, lv_tail lv, fun i ds T => ∃ (cs : List Cf) (v1 v2 v5 v6 v7 v8 : Option D), ds = [some (dRu K W Fr rs), v1, v2, some d, some (.adr a), v5, v6, v7, v8] ∧
        T = ⟨a, true, .lst (cs.map dC)⟩ :: foot Tf ∧ playF rs (p, st) (js.take i) = some cs ∧ i ≤ js.length ∧ ∀ c ∈ cs, CfOk (100 + i) c, ?_, ?_, ?_, ?_⟩
      · exact ⟨[(p, st)], _, _, _, _, _, _, rfl, rfl, rfl, Nat.zero_le _, fun c h => by rw [List.mem_singleton.mp h]; exact hc⟩
      · rintro i ds' T' hi ⟨cs, v1, v2, v5, v6, v7, v8, rfl, rfl, hp, hl, hcs⟩
        exact lv_tail lv
      · rintro i x ds' T' hx ⟨cs, v1, v2, v5, v6, v7, v8, rfl, rfl, hp, hl, hcs⟩
        rw [List.getElem?_map] at hx
        cases e : js[i]? with
        | none => rw [e] at hx; cases hx
        | some j =>
          rw [e] at hx
          cases hx
          have hil := (List.getElem?_eq_some_iff.mp e).1
          have ejs : js = js.take i ++ j :: js.drop (i + 1) := by
            rw [← (List.getElem?_eq_some_iff.mp e).2, ← List.drop_eq_getElem_cons hil, List.take_append_drop]
          have hcl := playF_len hp
          have htl : (js.take i).length = i := by rw [List.length_take]; omega
          have hne : cs ≠ [] := fun z => by rw [z] at hcl; cases hcl
          obtain ⟨c, he⟩ : ∃ c, cs.getLast? = some c := ⟨_, List.getLast?_eq_some_getLast hne⟩
          have hce := hcs c (List.mem_of_getLast? he)
          have hci : cs[i]? = some c := by rw [List.getLast?_eq_getElem?, hcl, htl] at he; exact he
          have at_l : atI (cs.map dC) (-1) = some (dC c) := atI_last (by rw [List.getLast?_map, he]; rfl)
          have bad : stp rs c j = none → playF rs (p, st) js = none := fun hs => by
            rw [ejs]
            have := playF_bad (r := js.drop (i + 1)) i hp hci hs
            rwa [List.take_take, Nat.min_self] at this
          obtain ⟨c1, c2⟩ := c
          refine ag_name ?_
          walk_at "red"
          refine as_seq (as_asgG (is := [1, 2]) ?_)
          walk_at "e"
          refine rd_ixL (.own 0 rfl) at_l ?_
          refine ag_tup rfl (ags_cons (ag_name (ags_cons (ag_name (ags_nil ?_)))))
          walk_at "red"
          walk_at "e"
          have hbad : ∀ T', (∀ e ∈ foot Tf, e ∈ T') → stp rs (c1, c2) j = none → ∀ ds N B C, AS K ⟨F, H, Tf.map (·.1)⟩ (fun _ σ H => E (.ref (He.ga K "NoStep")) none H) ds T' N (fun d T' => Ret P Tf d T') B C := fun T' hT hs ds N B C F σ H D ok k =>
            hx _ T' F ds σ H (retT (hPX (bad hs)) hT) ok
          refine if_b (fun hb => ⟨fun _ => ?_, fun h => by cases h⟩) (fun hb => ?_)
          · cases c2 with
            | nil => exact hbad _ (fun e he => List.mem_cons_of_mem _ he) rfl _ _ _ _
            | cons s st2 => simp at hb
          · cases c2 with
            | nil => simp at hb
            | cons s st2 =>
              refine at_test ?_
              walk_at "e"
              refine ae_methT no_exc ?_
              walk_at "e"
              refine ⟨_, _, rfl, by decide +kernel, ?_⟩
              walk_at "e"
              refine rd_ixT (d := .int s) (atI_of (k := 0) rfl) ?_
              walk_at "e"
              refine ⟨rfl, _, _, _, _, _, rfl, fun b => ⟨toFoot_snd, ?_⟩⟩
              walk_at "red"
              simp only [List.map_cons, List.cons_append, List.nil_append]
              refine rd_ninI (.own 0 rfl) ?_
              walk_at "e"
              refine ⟨fun hb2 => ?_, fun hb2 => ?_⟩
              · exact hbad _ (fun e he => List.mem_cons_of_mem _ (List.mem_cons_of_mem _ he)) (if_neg (by simpa using hb2)) _ _ _ _
              · have hm : j ∈ numbers rs c1 s := by simpa using hb2
                have hst : stp rs (c1, s :: st2) j = some ((rg rs j).2.2.1, (rg rs j).2.2.2 ++ st2) := if_pos hm
                obtain ⟨hok, j0, j1⟩ := stp_ok hr hce hst
                have rk := (hr.2 _ (List.mem_of_getElem? (rg_at j1))).l
                have hcl2 := hce.l
                walk_at "e"
                refine AS.ghost fun F σ H ok => ?_
                obtain ⟨F1, ok1, e1, _, _⟩ := ok.froz (j := 0) rfl rfl
                refine ⟨F1, _, _, e1, ok1, ?_⟩
                walk_at "red"
                refine as_asgG (is := [6, 6, 7, 8]) ?_
                walk_at "e"
                refine ae_fld T.cl_Rules T.na_Rules_rows ?_
                walk_at "e"
                refine ⟨_, .f (by rfl), ?_⟩
                walk_at "e"
                refine rd_ixL (.f _) (atI_rs j0 j1) ?_
                refine ag_tup rfl (ags_cons (ag_name (ags_cons (ag_name (ags_cons (ag_name (ags_cons (ag_name (ags_nil ?_)))))))))
                walk_at "red"
                walk_at "e"
                have hcl3 : (s :: st2).length ≤ 100 + i := hcl2
                rw [List.length_cons] at hcl3
                refine rs_T (rd_catT ?_ ?_)
                · rw [show (some (1 : Int)) = some ((1 : Nat) : Int) from rfl, cutX_from, List.length_drop, List.length_map, List.length_cons, List.length_map]
                  omega
                walk_at "red"
                walk_at "e"
                refine ⟨cs ++ [((rg rs j).2.2.1, (rg rs j).2.2.2 ++ st2)], _, _, _, _, _, _, rfl, ?_, ?_, by omega, fun c hc => ?_⟩
                · rw [show (some (1 : Int)) = some ((1 : Nat) : Int) from rfl, cutX_from, List.map_append]
                  simp [dC]
                · rw [List.take_add_one, e]
                  exact playF_snoc hp he hst
                · rcases List.mem_append.mp hc with h | h
                  · exact (hcs c h).up (by omega)
                  · rw [List.mem_singleton.mp h]
                    exact hok
      · rintro ds' T' ⟨cs, v1, v2, v5, v6, v7, v8, rfl, rfl, hp, hl, hcs⟩
        rw [List.length_map, List.take_length] at hp
        exact ⟨cs, _, _, _, _, _, _, rfl, rfl, hp⟩
    · rintro ds' T' ⟨cs, v1, v2, v5, v6, v7, v8, rfl, rfl, hp⟩
      walk_at "e"
      exact retTN (hP cs a hp) (fun e he => List.mem_cons_of_mem _ he) (List.mem_cons_self ..)
end



theorem fit_i {i : Int} (h : i.natAbs < 2000) : Fit 0 0 (D.int i).py := by
  rw [D.py_int]
  exact fit_int (Nat.lt_trans h (by decide))
theorem fitTup {ds : List D} {n k m : Nat} (h : ∀ d ∈ ds, Fit n k d.py) (hl : ds.length ≤ m) : Fit (n + 1) (m * (k + 1)) (D.tup ds).py := by
  rw [D.py_tup]
  exact (fit_tuple (fun x hx => by obtain ⟨d, hd, rfl⟩ := List.mem_map.mp hx; exact h d hd)).up (Nat.le_refl _) (by rw [List.length_map]; exact Nat.mul_le_mul_right _ hl)
theorem fitLst {ds : List D} {n k m : Nat} (h : ∀ d ∈ ds, Fit n k d.py) (hl : ds.length ≤ m) : Fit (n + 1) (m * (k + 1)) (.list (ds.map D.py)) :=
  (fit_list (fun x hx => by obtain ⟨d, hd, rfl⟩ := List.mem_map.mp hx; exact h d hd)).up (Nat.le_refl _) (by rw [List.length_map]; exact Nat.mul_le_mul_right _ hl)
theorem fit_ints {N : Nat} {xs : List Int} (hl : xs.length ≤ N) (he : ∀ x ∈ xs, x.natAbs < 1000) : Fit 1 (N * 1) (D.tup (xs.map .int)).py :=
  fitTup (fun d hd => by obtain ⟨x, hx, rfl⟩ := List.mem_map.mp hd; exact fit_i (Nat.lt_trans (he x hx) (by decide))) (by rw [List.length_map]; exact hl)
theorem fit_dC {N : Nat} {c : Cf} (h : CfOk N c) : Fit 2 (2 * (N + 1)) (dC c).py := by
  refine fitTup (fun d hd => ?_) (Nat.le_refl _)
  rcases List.mem_cons.mp hd with rfl | hd
  · exact (fit_i (Nat.lt_trans h.p (by decide))).up (by decide) (Nat.zero_le _)
  · rw [List.mem_singleton.mp hd]
    exact (fit_ints h.l h.e).up (by decide) (by omega)
theorem fit_dM {N : Nat} {i : Int} {c : Cf} (hi : i.natAbs < 1000) (h : CfOk N c) : Fit 2 (3 * (N + 1)) (dM (i, c.1, c.2)).py := by
  refine fitTup (fun d hd => ?_) (Nat.le_refl _)
  rcases List.mem_cons.mp hd with rfl | hd
  · exact (fit_i (Nat.lt_trans hi (by decide))).up (by decide) (Nat.zero_le _)
  · rcases List.mem_cons.mp hd with rfl | hd
    · exact (fit_i (Nat.lt_trans h.p (by decide))).up (by decide) (Nat.zero_le _)
    · rw [List.mem_singleton.mp hd]
      exact (fit_ints h.l h.e).up (by decide) (by omega)
theorem fit_dR {r : Rl} (h : RlOk r) : Fit 2 12 (dR r).py := by
  refine fitTup (m := 4) (k := 2) (fun d hd => ?_) (Nat.le_refl _)
  rcases List.mem_cons.mp hd with rfl | hd
  · exact (fit_i (Nat.lt_trans h.p (by decide))).up (by decide) (Nat.zero_le _)
  · rcases List.mem_cons.mp hd with rfl | hd
    · exact (fit_i (Nat.lt_trans h.s (by decide))).up (by decide) (Nat.zero_le _)
    · rcases List.mem_cons.mp hd with rfl | hd
      · exact (fit_i (Nat.lt_trans h.q (by decide))).up (by decide) (Nat.zero_le _)
      · rw [List.mem_singleton.mp hd]
        exact (fit_ints h.l h.e).up (by decide) (by omega)
theorem fit_int2 {a b : Int} (ha : a.natAbs < 2000) (hb : b.natAbs < 2000) : Fit 1 2 (D.tup [.int a, .int b]).py := by
  refine fitTup (m := 2) (k := 0) (fun d hd => ?_) (Nat.le_refl _)
  rcases List.mem_cons.mp hd with rfl | hd
  · exact fit_i ha
  · rw [List.mem_singleton.mp hd]
    exact fit_i hb
theorem lv_foot {T : Tb} {d : D} {xs : List D} (l : LV T d xs) : LV (foot (toFoot T)) d xs := by
  cases l with
  | f => exact .f _
  | r => exact .r _
  | @o j e _ h1 h2 => exact .o (j := j) (e := ⟨e.a, false, e.ob⟩) (foot_get h1) h2
theorem pl_ints (xs : List Int) : ∀ d ∈ xs.map D.int, d.plain = true := fun d hd => by obtain ⟨x, _, rfl⟩ := List.mem_map.mp hd; simp
theorem pl_tup {xs : List D} (h : ∀ d ∈ xs, d.plain = true) : (D.tup xs).plain = true := by rw [D.plain_tup]; exact h
theorem pl_dR (r : Rl) : (dR r).plain = true := by simp
theorem pl_dC (c : Cf) : (dC c).plain = true := by simp
theorem pl_dM (m : Int × Int × List Int) : (dM m).plain = true := by simp
theorem pl_map {α : Type} {f : α → D} (h : ∀ a, (f a).plain = true) (xs : List α) : ∀ d ∈ xs.map f, d.plain = true := fun d hd => by obtain ⟨x, _, rfl⟩ := List.mem_map.mp hd; exact h x
theorem fit_map {α : Type} {f : α → D} {n k m : Nat} {xs : List α} (h : ∀ a ∈ xs, Fit n k (f a).py) (hl : xs.length ≤ m) : Fit (n + 1) (m * (k + 1)) (.list ((xs.map f).map D.py)) :=
  fitLst (fun d hd => by obtain ⟨x, hx, rfl⟩ := List.mem_map.mp hd; exact h x hx) (by rw [List.length_map]; exact hl)
theorem numbers_small {rs : List Rl} {p s k : Int} (hr : RsOk rs) (h : k ∈ numbers rs p s) : k.natAbs < 1000 := by
  obtain ⟨h0, h1, _, _⟩ := numbers_mem h
  have := hr.1
  omega
theorem numbers_le {rs : List Rl} {p s : Int} : (numbers rs p s).length ≤ rs.length := by
  unfold numbers
  rw [List.length_map]
  have := List.length_filter_le (hit rs p s) (List.range rs.length)
  rwa [List.length_range] at this
section
variable {P : Program} {w : World} {K : PySem.W.Frag} {mg : Str → Option Value} {base : Heap}
abbrev con_heads (K : PySem.W.Frag) : Con0 := fun dd T P PX => dd.length = 4 ∧ ∃ (W Fr : Int) (rs : List Rl) (d : D), dd = [dRu K W Fr rs, .int W, .int Fr, d] ∧ LV (foot T) d (rs.map dR) ∧ RsOk rs ∧ 0 ≤ W ∧ W ≤ 1000 ∧ 0 ≤ Fr ∧ Fr ≤ 1000 ∧ P (.bl true) (T.map (·.2)) []
theorem sc__law_heads_right : FnScope ["rules", "worlds", "frames", "rows", "p", "s", "told"] ["rules", "worlds", "frames", "rows"] (defScope s__law_heads_right) := ⟨rfl, rfl, rfl, by decide +kernel, rfl, by decide +kernel, by decide +kernel⟩
theorem bi__law_heads_right {K : PySem.W.Frag} {mg : Str → Option Value} (T : Top K mg) : Binds K T.fd__law_heads_right ["rules", "worlds", "frames", "rows"] [] := T.F__law_heads_right.bindsN fun _ _ _ _ _ _ us hl => match us, hl with | [_, _, _, _], _ => rfl
def t__law_heads_right (K : PySem.W.Frag) : TS := (tSeq (tIfS (tOr (tNot (tTru K (tCallG (spA K con_same) (fun _ => E0) (tCons (tTup (tCons (tFld K (tVar 0) "worlds") (tCons (tFld K (tVar 0) "frames") tNil))) (tCons (tTup (tCons (tVar 1) (tCons (tVar 2) tNil))) tNil))))) (tNot (tTru K (tCallG (spA K con_same) (fun _ => E0) (tCons (tFld K (tVar 0) "rows") (tCons (tVar 3) tNil)))))) (tRet (tC (.bl false))) tNext) (tSeq (tFor (iRng1 (tCons (tVar 1) tNil)) (gName 4) (tFor (iRng1 (tCons (tVar 2) tNil)) (gName 5) (tSeq (tAsg (tMethG (He.ga K "Rules") "of_head" (spA K (con_head K)) (fun _ => E0) (tVar 0) (tCons (tVar 4) (tCons (tVar 5) tNil))) (gName 6)) (tSeq (tIfS (tNot (tTru K (tCallG (spA K con_same) (fun _ => E0) (tCons (tVar 6) (tCons (tCallG (spA K con_numbers) (fun _ => E0) (tCons (tVar 3) (tCons (tVar 4) (tCons (tVar 5) tNil)))) tNil))))) (tRet (tC (.bl false))) tNext) (tDrop (tBM K "list" rAppend (tVar 6) (tCons (tC (.int 0)) tNil))))))) (tRet (tC (.bl true)))))
theorem ok__law_heads_right (T : Top K mg) : FnG P w K mg base CX0 2 (He.ga K "_law_heads_right") T.fd__law_heads_right ["rules", "worlds", "frames", "rows"] (spA K (con_heads K)) := by
  have G__law_same := ok__law_same (P := P) (w := w) (base := base) T
  have b__law_same := bi__law_same T
  have G_Rules_of_head := ok_Rules_of_head (P := P) (w := w) (base := base) T
  have b_Rules_of_head := bi_Rules_of_head T
  have G__law_numbers := ok__law_numbers (P := P) (w := w) (base := base) T
  have b__law_numbers := bi__law_numbers T
  refine okG T.F__law_heads_right sc__law_heads_right (spA_ln fun _ _ _ _ h => h.1) (fun cdv A ou s H vs Q E gu hr h => ⟨t__law_heads_right K , ?_, body h fun F dd Tf P PX hA hl hx => ?_⟩)
  · have hu := hr.units
    have hu5 := hu5_of hr
    have hu1 := hu_of hr
    exact PSs.nox (pss_cons (ps_if (PW.pt (pw_or (pt_not (ptT (pe_callG G__law_same gu (hr.mono (by decide)) rfl T.m__law_same T.F__law_same.kp b__law_same (fun σ => passN σ) (pa_cons (pe_tup (pa_cons (pe_fld (pv 0) rfl) (pa_cons (pe_fld (pv 0) rfl) pa_nil))) (pa_cons (pe_tup (pa_cons (pv 1) (pa_cons (pv 2) pa_nil))) pa_nil))) (by intro _; rfl))) (pw_or1 (pt_not (ptT (pe_callG G__law_same gu (hr.mono (by decide)) rfl T.m__law_same T.F__law_same.kp b__law_same (fun σ => passN σ) (pa_cons (pe_fld (pv 0) rfl) (pa_cons (pv 3) pa_nil))) (by intro _; rfl)))))) (pss_one (ps_ret pe_bl)) pss_nil) (pss_cons (ps_for PassesOwn.never rfl (pi_range1 rfl T.g_range (pa_cons (pv 1) pa_nil)) (pg_name (i := 4) sc__law_heads_right.nd rfl (by first | exact Or.inl rfl | exact Or.inr rfl)) (pss_one (ps_for PassesOwn.never rfl (pi_range1 rfl T.g_range (pa_cons (pv 2) pa_nil)) (pg_name (i := 5) sc__law_heads_right.nd rfl (by first | exact Or.inl rfl | exact Or.inr rfl)) (pss_cons (ps_set (i := 6) sc__law_heads_right.nd rfl (by first | exact Or.inl rfl | exact Or.inr rfl) (pe_methG (pv 0) T.cl_Rules T.me_Rules_of_head G_Rules_of_head gu (hr.mono (by decide)) b_Rules_of_head (fun σ => passN σ) (pa_cons (pv 4) (pa_cons (pv 5) pa_nil)))) (pss_cons (ps_if (pt_not (ptT (pe_callG G__law_same gu (hr.mono (by decide)) rfl T.m__law_same T.F__law_same.kp b__law_same (fun σ => passN σ) (pa_cons (pv 6) (pa_cons (pe_callG G__law_numbers gu (hr.mono (by decide)) rfl T.m__law_numbers T.F__law_numbers.kp b__law_numbers (fun σ => passN σ) (pa_cons (pv 3) (pa_cons (pv 4) (pa_cons (pv 5) pa_nil)))) pa_nil))) (by intro _; rfl))) (pss_one (ps_ret pe_bl)) pss_nil) (pss_one (ps_expr (pe_bm PySem.F.plainAttrs_list PySem.F.slot_list_append PySem.F.type_list_append mt_append (pv 6) (pa_cons pe_int pa_nil))))))))) (pss_one (ps_ret pe_bl))))
  · unfold t__law_heads_right
    obtain ⟨_, W, Fr, rs, d, rfl, lv, hr, hW, hW1, hF, hF1, hP⟩ := hA
    have fRs : Fit 3 1300 (.list ((rs.map dR).map D.py)) := fit_map (m := 100) (fun r h => fit_dR (hr.2 r h)) hr.1
    walk_at "slots"
    walk_at "e"
    refine ae_callT no_exc ?_
    walk_at "e"
    refine ae_fld T.cl_Rules T.na_Rules_worlds ?_
    walk_at "e"
    refine ⟨_, .f (by rfl), ?_⟩
    walk_at "e"
    refine ae_fld T.cl_Rules T.na_Rules_frames ?_
    walk_at "e"
    refine ⟨_, .f (by rfl), ?_⟩
    walk_at "e"
    refine ⟨rfl, _, _, _, _, _, rfl, .p (by simp), .p (by simp), fit_int2 (by omega) (by omega), by decide, by decide, toFoot_snd, ?_⟩
    walk_at "e"
    refine if_b (fun hb => by cases hb) (fun _ => ?_)
    walk_at "e"
    refine ae_callT no_exc ?_
    walk_at "e"
    refine ae_fld T.cl_Rules T.na_Rules_rows ?_
    walk_at "e"
    refine ⟨_, .f (by rfl), ?_⟩
    walk_at "e"
    refine ⟨rfl, _, _, _, _, _, rfl, dv_of_lv (.f _) (pl_map pl_dR rs), dv_of_lv (lv_foot lv) (pl_map pl_dR rs), fRs, by decide, by decide, toFoot_snd, ?_⟩
    walk_at "e"
    refine ⟨fun hb => (by cases hb), fun _ => ?_⟩
    walk_at "e"
    refine as_forR (is := [4]) ?_
    walk_at "e"
    refine ⟨by omega, fun i ds T => ∃ (v4 v5 v6 : Option D), ds = [some (dRu K W Fr rs), some (.int W), some (.int Fr), some d, v4, v5, v6] ∧ T = foot Tf, ⟨_, _, _, rfl, rfl⟩, ?_, ?_⟩
    · rintro i ds' T' hi ⟨v4, v5, v6, rfl, rfl⟩
      refine ag_name ?_
      walk_at "red"
      refine as_forR (is := [5]) ?_
      walk_at "e"
      refine ⟨by omega, fun k ds T => ∃ (v5 v6 : Option D), ds = [some (dRu K W Fr rs), some (.int W), some (.int Fr), some d, some (.int (i : Int)), v5, v6] ∧ T = foot Tf, ⟨_, _, rfl, rfl⟩, ?_, ?_⟩
      · rintro k ds' T' hk ⟨v5, v6, rfl, rfl⟩
        refine ag_name ?_
        walk_at "red"
        refine as_end (fun ds T => ∃ (a : Addr) (xs : List D) (v6 : Option D), ds = [some (dRu K W Fr rs), some (.int W), some (.int Fr), some d, some (.int (i : Int)), some (.int (k : Int)), v6] ∧ T = ⟨a, true, .lst xs⟩ :: foot Tf) ?_ ?_
        · walk_at "e"
          refine ae_methT no_exc ?_
          walk_at "e"
          refine ⟨_, _, rfl, by decide +kernel, ?_⟩
          walk_at "e"
          refine ⟨rfl, _, _, _, _, _, rfl, fun b => ⟨toFoot_snd, ?_⟩⟩
          walk_at "red"
          simp only [List.map_cons, List.cons_append, List.nil_append]
          walk_at "e"
          refine ae_callT no_exc ?_
          walk_at "e"
          refine ae_callT no_exc ?_
          walk_at "e"
          refine ⟨rfl, d, rs, _, _, rfl, lv_foot (lv_tail lv), by have := hr.1; omega, toFoot_snd, ?_⟩
          walk_at "red"
          walk_at "e"
          refine ⟨rfl, _, _, _, _, _, rfl, dv_of_lv (lv_foot (.own 0 rfl)) (pl_ints _), dv_of_lv (.f _) (pl_ints _), fit_map (m := 100) (fun x hx => fit_i (Nat.lt_trans (numbers_small hr hx) (by decide))) (Nat.le_trans numbers_le hr.1), by decide, by decide, toFoot_snd, ?_⟩
          walk_at "e"
          refine ⟨fun hb => (by cases hb), fun _ => ?_⟩
          walk_at "e"
          refine rm_append 0 rfl ?_ ?_
          · rw [List.length_map]
            have h1 := numbers_le (rs := rs) (p := (i : Int)) (s := (k : Int))
            have h2 := hr.1
            omega
          exact ⟨_, _, _, rfl, rfl⟩
        · rintro ds' T' ⟨a, xs, v6, rfl, rfl⟩
          refine AS.ghost fun F σ H ok => ?_
          obtain ⟨F1, ok1, e1, _, _⟩ := ok.froz (j := 0) rfl rfl
          exact ⟨F1, _, _, e1, ok1, as_next ⟨_, _, rfl, rfl⟩⟩
      · rintro ds' T' ⟨v5, v6, rfl, rfl⟩
        exact ⟨_, _, _, rfl, rfl⟩
    · rintro ds' T' ⟨v4, v5, v6, rfl, rfl⟩
      walk_at "e"
      exact retT hP fun e he => he
theorem playF_hd {rs : List Rl} {js : List Int} {c : Cf} {cs : List Cf} (h : playF rs c js = some cs) : cs[0]? = some c := by
  cases js with
  | nil =>
    cases h
    rfl
  | cons j js =>
    obtain ⟨c', cs', h1, h2, rfl⟩ := playF_cons h
    rfl
abbrev con_run (K : PySem.W.Frag) : Con0 := fun dd T P PX => dd.length = 4 ∧ ∃ (W Fr : Int) (rs : List Rl) (d : D) (cs : List Cf) (js : List Int) (p : Int) (st : List Int), dd = [dRu K W Fr rs, d, .lst (cs.map dC), .lst (js.map .int)] ∧ LV (foot T) d (rs.map dR) ∧ RsOk rs ∧
  playF rs (p, st) js = some cs ∧ (∀ c ∈ cs, CfOk 70 c) ∧ CfOk 50 (p, st) ∧ js.length ≤ 12 ∧ (∀ x ∈ js, x.natAbs < 1000) ∧ P (.bl true) (T.map (·.2)) []
theorem sc__law_run_right : FnScope ["rules", "rows", "found", "numbers", "p", "stack", "k", "due", "told", "handed"] ["rules", "rows", "found", "numbers"] (defScope s__law_run_right) := ⟨rfl, rfl, rfl, by decide +kernel, rfl, by decide +kernel, by decide +kernel⟩
theorem bi__law_run_right {K : PySem.W.Frag} {mg : Str → Option Value} (T : Top K mg) : Binds K T.fd__law_run_right ["rules", "rows", "found", "numbers"] [] := T.F__law_run_right.bindsN fun _ _ _ _ _ _ us hl => match us, hl with | [_, _, _, _], _ => rfl
def t__law_run_right (K : PySem.W.Frag) (W : WX) : TS := (tSeq (tAsg (tOp (rIx K) (tVar 2) (tC (.int 0))) (gTup K 2 (gCons (gName 4) (gCons (gName 5) gNil)))) (tSeq (tFor (iRng1 (tCons (tCB (rLenU K) (tCons (tVar 2) tNil)) tNil)) (gName 6) (tSeq (tAsg (tCallG (spA K con_moves) (fun _ => E0) (tCons (tVar 1) (tCons (tOp (rIx K) (tOp (rIx K) (tVar 2) (tVar 6)) (tC (.int 0))) (tCons (tOp (rIx K) (tOp (rIx K) (tVar 2) (tVar 6)) (tC (.int 1))) tNil)))) (gName 7)) (tSeq (tAsg (tCallG (spA K (con_pmoves K)) (fun _ => E0) (tCons (tVar 0) (tCons (tOp (rIx K) (tOp (rIx K) (tVar 2) (tVar 6)) (tC (.int 0))) (tCons (tOp (rIx K) (tOp (rIx K) (tVar 2) (tVar 6)) (tC (.int 1))) tNil)))) (gName 8)) (tSeq (tIfS (tNot (tTru K (tCallG (spA K con_same) (fun _ => E0) (tCons (tVar 8) (tCons (tVar 7) tNil))))) (tRet (tC (.bl false))) tNext) (tSeq (tDrop (tBM K "list" rAppend (tVar 8) (tCons (tTup (tCons (tC (.int 0)) (tCons (tC (.int 0)) (tCons (tTup tNil) tNil)))) tNil))) (tSeq (tAsg (tSl (rSlU K) (tVar 3) tNoPart (tPart (tVar 6))) (gName 9)) (tSeq (tAsg (tCallG (spA K (con_play K)) (WE W) (tCons (tVar 0) (tCons (tVar 4) (tCons (tVar 5) (tCons (tVar 9) tNil))))) (gName 8)) (tSeq (tIfS (tOr (tNot (tTru K (tCallG (spA K con_same) (fun _ => E0) (tCons (tVar 8) (tCons (tSl (rSlU K) (tVar 2) tNoPart (tPart (tOp (rAdd K) (tVar 6) (tC (.int 1))))) tNil))))) (tTest (tOp (rNeU K) (tVar 9) (tSl (rSlU K) (tVar 3) tNoPart (tPart (tVar 6)))))) (tRet (tC (.bl false))) tNext) (tDrop (tBM K "list" rAppend (tVar 8) (tCons (tTup (tCons (tC (.int 0)) (tCons (tTup tNil) tNil))) tNil))))))))))) (tRet (tC (.bl true)))))
theorem ok__law_run_right (T : Top K mg) : FnG P w K mg base (L2.CX P w) 3 (He.ga K "_law_run_right") T.fd__law_run_right ["rules", "rows", "found", "numbers"] (spA K (con_run K)) := by
  have G__law_moves := ok__law_moves (P := P) (w := w) (base := base) T
  have b__law_moves := bi__law_moves T
  have G_moves := ok_moves (P := P) (w := w) (base := base) T
  have b_moves := bi_moves T
  have G_play := ok_play (P := P) (w := w) (base := base) T
  have b_play := bi_play T
  have G__law_same := ok__law_same (P := P) (w := w) (base := base) T
  have b__law_same := bi__law_same T
  refine okG T.F__law_run_right sc__law_run_right (spA_ln fun _ _ _ _ h => h.1) (fun cdv A ou s H vs Q E gu hr h => ⟨t__law_run_right K (fun cls d _ H => E cls d H), ?_, body h fun F dd Tf P PX hA hl hx => ?_⟩)
  · have hu := hr.units
    have hu5 := hu5_of hr
    have hu1 := hu_of hr
    have tk : Takes (cxOf (L2.CX P w) P w K mg base ["rules", "rows", "found", "numbers", "p", "stack", "k", "due", "told", "handed"] "_law_run_right" (defScope s__law_run_right) (He.ga K "_law_run_right") cdv A ou s H E) (fun cls d _ H => E cls d H) := takes_of rfl rfl rfl rfl
    exact (pss_cons (ps_asg (pe_ix ix_seq (pv 2) pe_int (fun _ _ => rfl)) (pg_tup rfl (pgs_cons (pg_name (i := 4) sc__law_run_right.nd rfl (by first | exact Or.inl rfl | exact Or.inr rfl)) (pgs_cons (pg_name (i := 5) sc__law_run_right.nd rfl (by first | exact Or.inl rfl | exact Or.inr rfl)) pgs_nil)))) (pss_cons (ps_for (passes_of rfl) rfl (pi_range1 rfl T.g_range (pa_cons (pe_callB call_len_seq (by rfl) T.g_len boot_len (pa_cons (pv 2) pa_nil)) pa_nil)) (pg_name (i := 6) sc__law_run_right.nd rfl (by first | exact Or.inl rfl | exact Or.inr rfl)) (pss_cons (ps_set (i := 7) sc__law_run_right.nd rfl (by first | exact Or.inl rfl | exact Or.inr rfl) (pe_callG G__law_moves gu (hr.mono (by decide)) rfl T.m__law_moves T.F__law_moves.kp b__law_moves (fun σ => passN σ) (pa_cons (pv 1) (pa_cons (pe_ix ix_seq (pe_ix ix_seq (pv 2) (pv 6) (fun _ _ => rfl)) pe_int (fun _ _ => rfl)) (pa_cons (pe_ix ix_seq (pe_ix ix_seq (pv 2) (pv 6) (fun _ _ => rfl)) pe_int (fun _ _ => rfl)) pa_nil))))) (pss_cons (ps_set (i := 8) sc__law_run_right.nd rfl (by first | exact Or.inl rfl | exact Or.inr rfl) (pe_callG G_moves gu (hr.mono (by decide)) rfl T.m_moves T.F_moves.kp b_moves (fun σ => passN σ) (pa_cons (pv 0) (pa_cons (pe_ix ix_seq (pe_ix ix_seq (pv 2) (pv 6) (fun _ _ => rfl)) pe_int (fun _ _ => rfl)) (pa_cons (pe_ix ix_seq (pe_ix ix_seq (pv 2) (pv 6) (fun _ _ => rfl)) pe_int (fun _ _ => rfl)) pa_nil))))) (pss_cons (ps_if (pt_not (ptT (pe_callG G__law_same gu (hr.mono (by decide)) rfl T.m__law_same T.F__law_same.kp b__law_same (fun σ => passN σ) (pa_cons (pv 8) (pa_cons (pv 7) pa_nil))) (by intro _; rfl))) (pss_one (ps_ret pe_bl)) pss_nil) (pss_cons (ps_expr (pe_bm PySem.F.plainAttrs_list PySem.F.slot_list_append PySem.F.type_list_append mt_append (pv 8) (pa_cons (pe_tup (pa_cons pe_int (pa_cons pe_int (pa_cons (pe_tup pa_nil) pa_nil)))) pa_nil))) (pss_cons (ps_set (i := 9) sc__law_run_right.nd rfl (by first | exact Or.inl rfl | exact Or.inr rfl) (pe_slice slU (pv 3) po_none (po_some (pv 6)))) (pss_cons (ps_set (i := 8) sc__law_run_right.nd rfl (by first | exact Or.inl rfl | exact Or.inr rfl) (pe_callG G_play gu (hr.mono (by decide)) rfl T.m_play T.F_play.kp b_play (fun σ => passAt tk σ) (pa_cons (pv 0) (pa_cons (pv 4) (pa_cons (pv 5) (pa_cons (pv 9) pa_nil)))))) (pss_cons (ps_if (PW.pt (pw_or (pt_not (ptT (pe_callG G__law_same gu (hr.mono (by decide)) rfl T.m__law_same T.F__law_same.kp b__law_same (fun σ => passN σ) (pa_cons (pv 8) (pa_cons (pe_slice slU (pv 2) po_none (po_some (pe_op opAdd (pv 6) pe_int))) pa_nil))) (by intro _; rfl))) (pw_or1 (pt_cmpR (opNe hu) (pv 9) (pe_slice slU (pv 3) po_none (po_some (pv 6))) (by rfl))))) (pss_one (ps_ret pe_bl)) pss_nil) (pss_one (ps_expr (pe_bm PySem.F.plainAttrs_list PySem.F.slot_list_append PySem.F.type_list_append mt_append (pv 8) (pa_cons (pe_tup (pa_cons pe_int (pa_cons (pe_tup pa_nil) pa_nil))) pa_nil)))))))))))) (pss_one (ps_ret pe_bl))))
  · unfold t__law_run_right
    obtain ⟨_, W, Fr, rs, d, cs, js, p, st, rfl, lv, hr, hp, hcs, hc, hjl, hjs, hP⟩ := hA
    have hcl := playF_len hp
    have h0 : (cs.map dC)[0]? = some (dC (p, st)) := by rw [List.getElem?_map, playF_hd hp]; rfl
    walk_at "slots"
    refine as_seq (as_asgG (is := [4, 5]) ?_)
    walk_at "e"
    refine rd_ixL (.f _) (atI_of (k := 0) h0) ?_
    refine ag_tup rfl (ags_cons (ag_name (ags_cons (ag_name (ags_nil ?_)))))
    walk_at "red"
    walk_at "e"
    refine as_forR (is := [6]) ?_
    walk_at "e"
    simp only [List.length_map]
    refine ⟨by omega, fun i ds T => ∃ (v6 v7 v8 v9 : Option D), ds = [some (dRu K W Fr rs), some d, some (.lst (cs.map dC)), some (.lst (js.map .int)), some (.int p), some (.tup (st.map .int)), v6, v7, v8, v9] ∧ T = foot Tf, ⟨_, _, _, _, rfl, rfl⟩, ?_, ?_⟩
    · rintro i ds' T' hi ⟨v6, v7, v8, v9, rfl, rfl⟩
      have hi' : i < cs.length := hi
      obtain ⟨c, hck⟩ : ∃ c, cs[i]? = some c := ⟨_, List.getElem?_eq_getElem hi'⟩
      have hcc := hcs c (List.mem_of_getElem? hck)
      have at_c : atI (cs.map dC) (i : Int) = some (dC c) := atI_of (by rw [List.getElem?_map, hck]; rfl)
      have hcl2 := hcc.l
      refine ag_name ?_
      walk_at "red"
      refine as_end (fun ds T => ∃ (L : Tb) (v7 v8 v9 : Option D), ds = [some (dRu K W Fr rs), some d, some (.lst (cs.map dC)), some (.lst (js.map .int)), some (.int p), some (.tup (st.map .int)), some (.int (i : Int)), v7, v8, v9] ∧ T = L ++ foot Tf ∧ ∀ e ∈ L, e.loc = true) ?_ ?_
      · walk_at "e"
        refine ae_callT no_exc ?_
        walk_at "e"
        refine rd_ixL (.f _) at_c ?_
        walk_at "e"
        refine rd_ixT (d := .int c.1) rfl ?_
        walk_at "e"
        refine rd_ixL (.f _) at_c ?_
        walk_at "e"
        refine rd_ixT (d := .tup (c.2.map .int)) rfl ?_
        walk_at "e"
        refine ⟨rfl, d, rs, _, _, rfl, lv_foot lv, hr, by omega, toFoot_snd, ?_⟩
        walk_at "red"
        walk_at "e"
        refine ae_callT no_exc ?_
        walk_at "e"
        refine rd_ixL (.f _) at_c ?_
        walk_at "e"
        refine rd_ixT (d := .int c.1) rfl ?_
        walk_at "e"
        refine rd_ixL (.f _) at_c ?_
        walk_at "e"
        refine rd_ixT (d := .tup (c.2.map .int)) rfl ?_
        walk_at "e"
        refine ⟨rfl, _, _, _, _, _, rfl, hr, by omega, fun a => ⟨toFoot_snd, ?_⟩⟩
        walk_at "red"
        simp only [List.map_cons, List.cons_append, List.nil_append]
        walk_at "e"
        refine ae_callT no_exc ?_
        walk_at "e"
        refine ⟨rfl, _, _, _, _, _, rfl, dv_of_lv (lv_foot (.own 0 rfl)) (pl_map pl_dM _), dv_of_lv (.f _) (pl_map pl_dM _), fit_map (n := 2) (k := 216) (m := 100) (fun m hm => ?_) (Nat.le_trans (mvs_len rs c) hr.1), by decide, by decide, toFoot_snd, ?_⟩
        · obtain ⟨g1, g2, g3⟩ := stp_ok hr hcc (mvs_mem hm)
          exact fit_dM (N := 71) (by have := hr.1; omega) g1
        walk_at "e"
        refine ⟨fun hb => (by cases hb), fun _ => ?_⟩
        walk_at "e"
        refine rm_append 0 rfl ?_ ?_
        · rw [List.length_map]
          have h1 := mvs_len rs c
          have h2 := hr.1
          exact Nat.lt_of_le_of_lt h1 (by omega)
        walk_at "red"
        walk_at "e"
        refine rs_L (.f _) ?_
        rw [cutX_to, ← List.map_take]
        walk_at "red"
        walk_at "e"
        refine ae_callT no_exc ?_
        walk_at "e"
        have hpt := playF_take i hp
        refine ⟨rfl, W, Fr, p, rs, st, _, js.take i, rfl, .f _, hr, hc.up (by decide), by rw [List.length_take]; omega, fun cs' b hcs' => ⟨toFoot_snd, ?_⟩, fun hn => by rw [hpt] at hn; cases hn⟩
        rw [hpt] at hcs'
        cases hcs'
        walk_at "red"
        simp only [List.map_cons, List.cons_append, List.nil_append]
        walk_at "e"
        refine ae_callT no_exc ?_
        walk_at "e"
        refine rs_L (.f _) ?_
        rw [show (i : Int) + 1 = ((i + 1 : Nat) : Int) from rfl, cutX_to, ← List.map_take]
        walk_at "red"
        walk_at "e"
        have htl : (cs.take (i + 1)).length ≤ 20 := by rw [List.length_take]; omega
        have hjf : Fit 1 20 (.list (((js.take i).map D.int).map D.py)) := fit_map (n := 0) (k := 0) (m := 20) (fun x hx => fit_i (Nat.lt_trans (hjs x (List.mem_of_mem_take hx)) (by decide))) (by rw [List.length_take]; omega)
        refine ⟨rfl, _, _, _, _, _, rfl, dv_of_lv (lv_foot (.own 0 rfl)) (pl_map pl_dC _), dv_of_lv (.f _) (pl_map pl_dC _), fit_map (n := 2) (k := 142) (m := 20) (fun c hc => fit_dC (N := 70) (hcs c (List.mem_of_mem_take hc))) htl, by decide, by decide, toFoot_snd, ?_⟩
        walk_at "e"
        refine if_b (fun hb => (by cases hb)) (fun _ => ?_)
        walk_at "e"
        refine rs_L (.f _) ?_
        rw [cutX_to, ← List.map_take]
        walk_at "red"
        walk_at "e"
        refine rd_ne (dv_of_lv (.f _) (pl_ints _)) (dv_of_lv (.f _) (pl_ints _)) (hjf.shaped (by decide)) (hjf.shaped (by decide)) ?_
        rw [SeqAt.eqv_refl _ hjf.c]
        walk_at "e"
        refine ⟨fun hb => (by cases hb), fun _ => ?_⟩
        walk_at "e"
        refine ⟨[_, _], _, _, _, rfl, rfl, fun e he => ?_⟩
        rcases List.mem_cons.mp he with rfl | he
        · rfl
        · rw [List.mem_singleton.mp he]
      · rintro ds' T' ⟨L, v7, v8, v9, rfl, rfl, hL⟩
        refine AS.ghost fun F σ H ok => ?_
        obtain ⟨F1, e1, ok1, _⟩ := ok.frozFront hL
        exact ⟨F1, _, _, e1, ok1, as_next ⟨_, _, _, _, rfl, rfl⟩⟩
    · rintro ds' T' ⟨v6, v7, v8, v9, rfl, rfl⟩
      walk_at "e"
      exact retT hP fun e he => he
end



section
variable {P : Program} {w : World} {K : PySem.W.Frag} {mg : Str → Option Value} {base : Heap}
theorem ret1T {Pd : D → List OB → Foot → Prop} {Tr : Foot} {x : Addr} {o ob : OB} {d : D} {T : Tb} (h : Pd d (ob :: Tr.map (·.2)) []) (hm : ⟨x, false, ob⟩ ∈ T) (hs : ∀ e ∈ foot Tr, e ∈ T) : Ret Pd ((x, o) :: Tr) d T :=
  .mk _ [] h (by simp) (fun m a y h1 h2 => by
    match m, h1, h2 with
    | 0, h1, h2 =>
      cases h1
      cases h2
      exact hm
    | m + 1, h1, h2 => exact hs _ (foot_mem (Tf := Tr) (m := m) (by simpa using h1) (by simpa using h2))) (fun _ z => by cases z) List.nodup_nil
theorem stp_mem {rs : List Rl} {c c' : Cf} {z : Int} (h : stp rs c z = some c') : z ∈ (mvs rs c).map (·.1) := by
  unfold stp at h
  unfold mvs
  cases e : c.2 with
  | nil => rw [e] at h; cases h
  | cons s st =>
    rw [e] at h
    by_cases hj : z ∈ numbers rs c.1 s
    · exact List.mem_map.mpr ⟨_, List.mem_map.mpr ⟨z, hj, rfl⟩, rfl⟩
    · have h' := (if_neg hj).symm.trans h
      cases h'
abbrev con_wrongs : Con0 := fun dd T P PX => dd.length = 4 ∧ ∃ (l : Addr) (ns : List Int) (d : D) (rs : List Rl) (cs : List Cf) (js : List Int) (p : Int) (st : List Int) (Tr : Foot), dd = [.adr l, d, .lst (cs.map dC), .lst (js.map .int)] ∧ T = (l, .lst (ns.map .int)) :: Tr ∧ LV (foot Tr) d (rs.map dR) ∧ RsOk rs ∧
  playF rs (p, st) js = some cs ∧ (∀ c ∈ cs, CfOk 70 c) ∧ js.length ≤ 12 ∧ (∀ x ∈ js, x.natAbs < 1000) ∧
  ∀ (ws : List (List Int)) (ns' : List Int), (∀ v ∈ ws, v.length ≤ 40 ∧ playF rs (p, st) v = none) → P (.lst (ws.map fun v => .lst (v.map .int))) (.lst (ns'.map .int) :: Tr.map (·.2)) []
theorem sc__law_wrongs : FnScope ["pool", "rows", "found", "numbers", "wrongs", "spot", "k", "p", "stack", "right", "move", "drawn", "j"] ["pool", "rows", "found", "numbers"] (defScope s__law_wrongs) := ⟨rfl, rfl, rfl, by decide +kernel, rfl, by decide +kernel, by decide +kernel⟩
theorem bi__law_wrongs {K : PySem.W.Frag} {mg : Str → Option Value} (T : Top K mg) : Binds K T.fd__law_wrongs ["pool", "rows", "found", "numbers"] [] := T.F__law_wrongs.bindsN fun _ _ _ _ _ _ us hl => match us, hl with | [_, _, _, _], _ => rfl
def t__law_wrongs (K : PySem.W.Frag) : TS := (tSeq (tAsg (tLst tNil) (gName 4)) (tSeq (tAsg (tCallG (spA K con_next) (fun _ => E0) (tCons (tVar 0) (tCons (tCB (rLenU K) (tCons (tVar 2) tNil)) tNil))) (gName 5)) (tSeq (tFor (iRng1 (tCons (tCB (rLenU K) (tCons (tVar 2) tNil)) tNil)) (gName 6) (tSeq (tAsg (tOp (rIx K) (tVar 2) (tVar 6)) (gTup K 2 (gCons (gName 7) (gCons (gName 8) gNil)))) (tSeq (tAsg (tLc (iU K (tCallG (spA K con_moves) (fun _ => E0) (tCons (tVar 1) (tCons (tVar 7) (tCons (tVar 8) tNil))))) (gName 10) tYes (tOp (rIx K) (tVar 10) (tC (.int 0))) [10]) (gName 9)) (tSeq (tAsg (tLst (tCons (tUn (rU fun i => .int (-i)) (tC (.int 1))) (tCons (tCB (rLenU K) (tCons (tVar 1) tNil)) (tCons (tCallG (spA K con_next) (fun _ => E0) (tCons (tVar 0) (tCons (tOp (rAdd K) (tCB (rLenU K) (tCons (tVar 1) tNil)) (tC (.int 1))) tNil))) tNil)))) (gName 11)) (tSeq (tIfS (tTest (tOp (rEqU K) (tVar 6) (tVar 5))) (tAsg (tLc (iRng2 (tCons (tUn (rU fun i => .int (-i)) (tC (.int 2))) (tCons (tOp (rAdd K) (tCB (rLenU K) (tCons (tVar 1) tNil)) (tC (.int 3))) tNil))) (gName 12) tYes (tVar 12) [12]) (gName 11)) tNext) (tSeq (tIfS (tTru K (tVar 8)) (tAsg (tOp (rAdd K) (tVar 11) (tLc (iRng1 (tCons (tCB (rLenU K) (tCons (tVar 1) tNil)) tNil)) (gName 12) (tTest (tOp (rEqU K) (tOp (rIx K) (tOp (rIx K) (tVar 1) (tVar 12)) (tC (.int 1))) (tOp (rIx K) (tVar 8) (tC (.int 0))))) (tVar 12) [12])) (gName 11)) tNext) (tFor (iU K (tVar 11)) (gName 12) (tIfS (tTest (tOp (rNinU K) (tVar 12) (tVar 9))) (tSeq (tDrop (tBM K "list" rAppend (tVar 4) (tCons (tOp (rAdd K) (tSl (rSlU K) (tVar 3) tNoPart (tPart (tVar 6))) (tLst (tCons (tVar 12) tNil))) tNil))) (tDrop (tBM K "list" rAppend (tVar 4) (tCons (tOp (rAdd K) (tOp (rAdd K) (tSl (rSlU K) (tVar 3) tNoPart (tPart (tVar 6))) (tLst (tCons (tVar 12) tNil))) (tSl (rSlU K) (tVar 3) (tPart (tOp (rAdd K) (tVar 6) (tC (.int 1)))) tNoPart)) tNil)))) tNext)))))))) (tRet (tVar 4)))))
theorem ok__law_wrongs (T : Top K mg) : FnG P w K mg base CX0 3 (He.ga K "_law_wrongs") T.fd__law_wrongs ["pool", "rows", "found", "numbers"] (spA K con_wrongs) := by
  have G__law_next := ok__law_next (P := P) (w := w) (base := base) T
  have b__law_next := bi__law_next T
  have G__law_moves := ok__law_moves (P := P) (w := w) (base := base) T
  have b__law_moves := bi__law_moves T
  refine okG T.F__law_wrongs sc__law_wrongs (spA_ln fun _ _ _ _ h => h.1) (fun cdv A ou s H vs Q E gu hr h => ⟨t__law_wrongs K , ?_, body h fun F dd Tf P PX hA hl hx => ?_⟩)
  · have hu := hr.units
    have hu5 := hu5_of hr
    have hu1 := hu_of hr
    exact PSs.nox (pss_cons (ps_set (i := 4) sc__law_wrongs.nd rfl (by first | exact Or.inl rfl | exact Or.inr rfl) (pe_lst pa_nil)) (pss_cons (ps_set (i := 5) sc__law_wrongs.nd rfl (by first | exact Or.inl rfl | exact Or.inr rfl) (pe_callG G__law_next gu (hr.mono (by decide)) rfl T.m__law_next T.F__law_next.kp b__law_next (fun σ => passN σ) (pa_cons (pv 0) (pa_cons (pe_callB call_len_seq (by rfl) T.g_len boot_len (pa_cons (pv 2) pa_nil)) pa_nil)))) (pss_cons (ps_for PassesOwn.never rfl (pi_range1 rfl T.g_range (pa_cons (pe_callB call_len_seq (by rfl) T.g_len boot_len (pa_cons (pv 2) pa_nil)) pa_nil)) (pg_name (i := 6) sc__law_wrongs.nd rfl (by first | exact Or.inl rfl | exact Or.inr rfl)) (pss_cons (ps_asg (pe_ix ix_seq (pv 2) (pv 6) (fun _ _ => rfl)) (pg_tup rfl (pgs_cons (pg_name (i := 7) sc__law_wrongs.nd rfl (by first | exact Or.inl rfl | exact Or.inr rfl)) (pgs_cons (pg_name (i := 8) sc__law_wrongs.nd rfl (by first | exact Or.inl rfl | exact Or.inr rfl)) pgs_nil)))) (pss_cons (ps_setLc (i := 9) (own := [("move", 10)]) (g := (gName 10)) (tt := tYes) (te := (tOp (rIx K) (tVar 10) (tC (.int 0)))) rfl sc__law_wrongs.nd rfl rfl (sw_true rfl rfl rfl (by decide +kernel)) (pi_u (pe_callG G__law_moves gu (hr.mono (by decide)) rfl T.m__law_moves T.F__law_moves.kp b__law_moves (fun σ => passN σ) (pa_cons (pv 1) (pa_cons (pv 7) (pa_cons (pv 8) pa_nil))))) (blkOk_by (own := [("move", 10)]) (N := ["pool", "rows", "found", "numbers", "wrongs", "spot", "k", "p", "stack", "right", "move", "drawn", "j"]) (sc := defScope s__law_wrongs) (by decide +kernel)) (fun _ _ _ _ _ => (pg_name (i := 10) sc__law_wrongs.nd rfl (by first | exact Or.inl rfl | exact Or.inr rfl))) (fun _ _ _ _ _ => pts_nil) (fun _ _ _ _ _ => (pe_ix ix_seq (pv 10) pe_int (fun _ _ => rfl)))) (pss_cons (ps_set (i := 11) sc__law_wrongs.nd rfl (by first | exact Or.inl rfl | exact Or.inr rfl) (pe_lst (pa_cons (pe_un un_neg pe_int) (pa_cons (pe_callB call_len_seq (by rfl) T.g_len boot_len (pa_cons (pv 1) pa_nil)) (pa_cons (pe_callG G__law_next gu (hr.mono (by decide)) rfl T.m__law_next T.F__law_next.kp b__law_next (fun σ => passN σ) (pa_cons (pv 0) (pa_cons (pe_op opAdd (pe_callB call_len_seq (by rfl) T.g_len boot_len (pa_cons (pv 1) pa_nil)) pe_int) pa_nil))) pa_nil))))) (pss_cons (ps_if (pt_cmpR (opEq hu) (pv 6) (pv 5) (by rfl)) (pss_one (ps_setLc (i := 11) (own := [("j", 12)]) (g := (gName 12)) (tt := tYes) (te := (tVar 12)) rfl sc__law_wrongs.nd rfl rfl (sw_true rfl rfl rfl (by decide +kernel)) (pi_range2 rfl T.g_range (pa_cons (pe_un un_neg pe_int) (pa_cons (pe_op opAdd (pe_callB call_len_seq (by rfl) T.g_len boot_len (pa_cons (pv 1) pa_nil)) pe_int) pa_nil))) (blkOk_by (own := [("j", 12)]) (N := ["pool", "rows", "found", "numbers", "wrongs", "spot", "k", "p", "stack", "right", "move", "drawn", "j"]) (sc := defScope s__law_wrongs) (by decide +kernel)) (fun _ _ _ _ _ => (pg_name (i := 12) sc__law_wrongs.nd rfl (by first | exact Or.inl rfl | exact Or.inr rfl))) (fun _ _ _ _ _ => pts_nil) (fun _ _ _ _ _ => (pv 12)))) pss_nil) (pss_cons (ps_if (ptT (pv 8) (by intro _; rfl)) (pss_one (ps_set (i := 11) sc__law_wrongs.nd rfl (by first | exact Or.inl rfl | exact Or.inr rfl) (pe_op opAdd (pv 11) (pe_lc (own := [("j", 12)]) (g := (gName 12)) (tt := (tTest (tOp (rEqU K) (tOp (rIx K) (tOp (rIx K) (tVar 1) (tVar 12)) (tC (.int 1))) (tOp (rIx K) (tVar 8) (tC (.int 0)))))) (te := (tVar 12)) rfl sc__law_wrongs.nd (pi_range1 rfl T.g_range (pa_cons (pe_callB call_len_seq (by rfl) T.g_len boot_len (pa_cons (pv 1) pa_nil)) pa_nil)) (blkOk_by (own := [("j", 12)]) (N := ["pool", "rows", "found", "numbers", "wrongs", "spot", "k", "p", "stack", "right", "move", "drawn", "j"]) (sc := defScope s__law_wrongs) (by decide +kernel)) (fun _ _ _ _ _ => (pg_name (i := 12) sc__law_wrongs.nd rfl (by first | exact Or.inl rfl | exact Or.inr rfl))) (fun _ _ _ _ _ => (pts_one (pt_cmpR (opEq hu) (pe_ix ix_seq (pe_ix ix_seq (pv 1) (pv 12) (fun _ _ => rfl)) pe_int (fun _ _ => rfl)) (pe_ix ix_seq (pv 8) pe_int (fun _ _ => rfl)) (by rfl)))) (fun _ _ _ _ _ => (pv 12)))))) pss_nil) (pss_one (ps_for PassesOwn.never rfl (pi_u (pv 11)) (pg_name (i := 12) sc__law_wrongs.nd rfl (by first | exact Or.inl rfl | exact Or.inr rfl)) (pss_one (ps_if (pt_cmpR (opNin hu5) (pv 12) (pv 9) (by rfl)) (pss_cons (ps_expr (pe_bm PySem.F.plainAttrs_list PySem.F.slot_list_append PySem.F.type_list_append mt_append (pv 4) (pa_cons (pe_op opAdd (pe_slice slU (pv 3) po_none (po_some (pv 6))) (pe_lst (pa_cons (pv 12) pa_nil))) pa_nil))) (pss_one (ps_expr (pe_bm PySem.F.plainAttrs_list PySem.F.slot_list_append PySem.F.type_list_append mt_append (pv 4) (pa_cons (pe_op opAdd (pe_op opAdd (pe_slice slU (pv 3) po_none (po_some (pv 6))) (pe_lst (pa_cons (pv 12) pa_nil))) (pe_slice slU (pv 3) (po_some (pe_op opAdd (pv 6) pe_int)) po_none)) pa_nil))))) pss_nil)))))))))) (pss_one (ps_ret (pv 4))))))
  · unfold t__law_wrongs
    obtain ⟨_, l, ns, d, rs, cs, js, p, st, Tr, rfl, rfl, lv, hr, hp, hcs, hjl, hjs, hP⟩ := hA
    have hcl := playF_len hp
    walk_at "slots"
    walk_at "e"
    refine ae_lstO (aa_nil ⟨by decide, fun a => ?_⟩)
    walk_at "red"
    walk_at "e"
    refine ae_call1 1 no_exc ?_
    walk_at "e"
    refine ⟨rfl, _, _, _, rfl, rfl, by rw [List.length_map]; omega, ?_⟩
    intro spot ns2 s0 s1
    walk_at "nx"
    walk_at "e"
    refine as_forR (is := [6]) ?_
    walk_at "e"
    simp only [List.length_map]
    refine ⟨by omega, fun i ds T => ∃ (ws : List (List Int)) (ns3 : List Int) (v6 v7 v8 v9 v10 v11 v12 : Option D), ds = [some (.adr l), some d, some (.lst (cs.map dC)), some (.lst (js.map .int)), some (.adr a), some (.int spot), v6, v7, v8, v9, v10, v11, v12] ∧ T = (⟨a, true, .lst (ws.map fun v => .lst (v.map .int))⟩ :: ⟨l, false, .lst (ns3.map .int)⟩ :: foot Tr) ∧ ws.length ≤ 600 * i ∧ ∀ v ∈ ws, v.length ≤ 40 ∧ playF rs (p, st) v = none, ?_, ?_, ?_⟩
    · exact ⟨[], ns2, _, _, _, _, _, _, _, rfl, rfl, Nat.zero_le _, fun _ h => (by cases h)⟩
    · rintro i ds' T' hi ⟨ws, ns3, v6, v7, v8, v9, v10, v11, v12, rfl, rfl, hwl, hws⟩
      have hi' : i < cs.length := hi
      obtain ⟨c, hck⟩ : ∃ c, cs[i]? = some c := ⟨_, List.getElem?_eq_getElem hi'⟩
      have hcc := hcs c (List.mem_of_getElem? hck)
      have at_c : atI (cs.map dC) (i : Int) = some (dC c) := atI_of (by rw [List.getElem?_map, hck]; rfl)
      have hcl2 := hcc.l
      obtain ⟨c1, c2⟩ := c
      have lv3 : ∀ (x y : Ow), LV (x :: y :: foot Tr) d (rs.map dR) := fun x y => lv_tail (lv_tail lv)
      have hrl := hr.1
      refine ag_name ?_
      walk_at "red"
      refine as_seq (as_asgG (is := [7, 8]) ?_)
      walk_at "e"
      refine rd_ixL (.f _) at_c ?_
      refine ag_tup rfl (ags_cons (ag_name (ags_cons (ag_name (ags_nil ?_)))))
      walk_at "red"
      walk_at "e"
      refine lcLF (is := [10]) (fun _ h => h) (ae_callT no_exc ?_)
      walk_at "e"
      refine ⟨rfl, d, rs, _, _, rfl, (lv3 _ _).foot, hr, Nat.le_trans hcl2 (by decide), toFoot_snd, ?_⟩
      walk_at "red"
      refine ⟨_, .f _, fun i acc T' => T' = (⟨a, true, .lst (ws.map fun v => .lst (v.map .int))⟩ :: ⟨l, false, .lst (ns3.map .int)⟩ :: foot Tr) ∧ acc = (((mvs rs (c1, c2)).take i).map (·.1)).map D.int, ⟨rfl, rfl⟩, fun _ _ _ _ _ => .f _, ?_, ?_⟩
      · rintro k x acc T' hx ⟨rfl, rfl⟩
        rw [List.getElem?_map] at hx
        cases e : (mvs rs (c1, c2))[k]? with
        | none => rw [e] at hx; cases hx
        | some m =>
          rw [e] at hx
          cases hx
          refine ag_name ?_
          walk_at "red"
          walk_at "e"
          refine rd_ixT (d := .int m.1) rfl ?_
          walk_at "e"
          refine ⟨?_, by trivial, ?_⟩
          · rw [List.length_map, List.length_map, List.length_take]
            have := mvs_len rs (c1, c2)
            omega
          · rw [List.take_add_one, e, List.map_append, List.map_append]
            rfl
      · rintro acc T' ⟨rfl, rfl⟩
        rw [List.length_map, List.take_length]
        walk_at "e"
        refine ae_lst ?_
        have lv0 := lv3
        walk_at "e"
        refine rc_lenL (l := lv3 _ _) ?_
        walk_at "e"
        refine ae_call1 1 no_exc ?_
        walk_at "e"
        refine rc_lenL (l := lv3 _ _) ?_
        walk_at "e"
        refine ⟨rfl, _, _, _, rfl, rfl, by rw [List.length_map]; omega, ?_⟩
        intro z0 ns4 z1 z2
        walk_at "nx"
        refine aa_nil ⟨by simp only [List.length_cons, List.length_nil]; omega, ?_⟩
        walk_at "red"
        refine as_mid (fun ds T => ∃ (zs : List Int) (v10 v12 : Option D), ds = [some (.adr l), some d, some (.lst (cs.map dC)), some (.lst (js.map .int)), some (.adr a), some (.int spot), some (.int (i : Int)), some (.int c1), some (.tup (c2.map .int)), some (.lst (((mvs rs (c1, c2)).map (·.1)).map .int)), v10, some (.lst (zs.map .int)), v12] ∧ T = (⟨a, true, .lst (ws.map fun v => .lst (v.map .int))⟩ :: ⟨l, false, .lst (ns4.map .int)⟩ :: foot Tr) ∧ zs.length ≤ 150) ?_ ?_
        · walk_at "e"
          refine ⟨fun hb => ?_, fun hb => ?_⟩
          · walk_at "e"
            refine lcR2F (is := [12]) (fun _ h => h) ?_
            walk_at "e"
            refine rc_lenL (l := lv3 _ _) ?_
            walk_at "e"
            rw [List.length_map]
            refine ⟨_, _, rfl, by decide, by omega, fun k acc T' => T' = (⟨a, true, .lst (ws.map fun v => .lst (v.map .int))⟩ :: ⟨l, false, .lst (ns4.map .int)⟩ :: foot Tr) ∧ ∃ zs : List Int, acc = zs.map .int ∧ zs.length = k, ⟨rfl, [], rfl, rfl⟩, ?_, ?_⟩
            · rintro k acc T' hk ⟨rfl, zs, rfl, hzl⟩
              refine ag_name ?_
              walk_at "red"
              walk_at "e"
              exact ⟨by rw [List.length_map]; omega, by trivial, zs ++ [_], by rw [List.map_append]; rfl, by rw [List.length_append, hzl]; rfl⟩
            · rintro acc T' ⟨rfl, zs, rfl, hzl⟩
              walk_at "red"
              exact ⟨zs, _, _, rfl, by trivial, by omega⟩
          · walk_at "e"
            exact ⟨[-1, _, _], _, _, rfl, by trivial, by simp only [List.length_cons, List.length_nil]; omega⟩
        · rintro ds' T' ⟨zs, v10, v12, rfl, rfl, hzl⟩
          refine as_mid (fun ds T => ∃ (zs : List Int) (v10 v12 : Option D), ds = [some (.adr l), some d, some (.lst (cs.map dC)), some (.lst (js.map .int)), some (.adr a), some (.int spot), some (.int (i : Int)), some (.int c1), some (.tup (c2.map .int)), some (.lst (((mvs rs (c1, c2)).map (·.1)).map .int)), v10, some (.lst (zs.map .int)), v12] ∧ T = (⟨a, true, .lst (ws.map fun v => .lst (v.map .int))⟩ :: ⟨l, false, .lst (ns4.map .int)⟩ :: foot Tr) ∧ zs.length ≤ 290) ?_ ?_
          · walk_at "e"
            refine ⟨fun hb => ?_, fun hb => ?_⟩
            · cases c2 with
              | nil => simp at hb
              | cons s st2 =>
                walk_at "e"
                refine lcRF (is := [12]) (fun _ h => h) ?_
                walk_at "e"
                refine rc_lenL (l := lv3 _ _) ?_
                walk_at "e"
                rw [List.length_map]
                refine ⟨by omega, fun k acc T' => T' = (⟨a, true, .lst (ws.map fun v => .lst (v.map .int))⟩ :: ⟨l, false, .lst (ns4.map .int)⟩ :: foot Tr) ∧ ∃ zs : List Int, acc = zs.map .int ∧ zs.length ≤ k, ⟨rfl, [], rfl, Nat.le_refl _⟩, ?_, ?_⟩
                · rintro k acc T' hk ⟨rfl, zs2, rfl, hzl2⟩
                  refine ag_name ?_
                  walk_at "red"
                  walk_at "e"
                  refine rd_ixL (lv3 _ _) (atI_rs (k := (k : Int)) (by omega) (by show k < rs.length; omega)) ?_
                  walk_at "e"
                  refine rd_ixT (d := .int (rg rs k).2.1) rfl ?_
                  walk_at "e"
                  refine rd_ixT (d := .int s) (atI_of (k := 0) rfl) ?_
                  walk_at "e"
                  refine if_b (fun hb => ?_) (fun hb => ?_)
                  · walk_at "e"
                    exact ⟨by rw [List.length_map]; omega, by trivial, zs2 ++ [_], by rw [List.map_append]; rfl, by rw [List.length_append]; simp only [List.length_cons, List.length_nil]; omega⟩
                  · exact ⟨by trivial, zs2, rfl, by omega⟩
                · rintro acc T' ⟨rfl, zs2, rfl, hzl2⟩
                  walk_at "red"
                  refine rd_catL (.f _) (.f _) (by rw [List.length_map, List.length_map]; omega) ?_
                  walk_at "red"
                  exact ⟨zs ++ zs2, _, _, by rw [List.map_append], by trivial, by rw [List.length_append]; omega⟩
            · walk_at "e"
              exact ⟨zs, _, _, rfl, by trivial, by omega⟩
          · rintro ds' T' ⟨zs, v10, v12, rfl, rfl, hzl⟩
            refine as_uL (as_forL (is := [12]) ?_)
            walk_at "e"
            refine ⟨_, .f _, fun k ds T => ∃ (ws : List (List Int)) (v10 v12 : Option D), ds = [some (.adr l), some d, some (.lst (cs.map dC)), some (.lst (js.map .int)), some (.adr a), some (.int spot), some (.int (i : Int)), some (.int c1), some (.tup (c2.map .int)), some (.lst (((mvs rs (c1, c2)).map (·.1)).map .int)), v10, some (.lst (zs.map .int)), v12] ∧ T = (⟨a, true, .lst (ws.map fun v => .lst (v.map .int))⟩ :: ⟨l, false, .lst (ns4.map .int)⟩ :: foot Tr) ∧ ws.length ≤ 600 * i + 2 * k ∧ (∀ v ∈ ws, v.length ≤ 40 ∧ playF rs (p, st) v = none) ∧ k ≤ 290, ?_, ?_, ?_, ?_⟩
            · exact ⟨ws, _, _, rfl, by trivial, hwl, hws, by decide⟩
            · rintro k ds' T' hk _
              exact .f _
            · rintro k x ds' T' hx ⟨ws, v10, v12, rfl, rfl, hwl, hws, hk290⟩
              rw [List.getElem?_map] at hx
              cases e : zs[k]? with
              | none => rw [e] at hx; cases hx
              | some z =>
                rw [e] at hx
                cases hx
                have hkl := (List.getElem?_eq_some_iff.mp e).1
                refine ag_name ?_
                walk_at "red"
                walk_at "e"
                refine rd_ninI (.f _) ?_
                walk_at "e"
                refine ⟨fun hb => ?_, fun hb => ?_⟩
                · have hs : stp rs (c1, c2) z = none := by
                    cases q : stp rs (c1, c2) z with
                    | none => rfl
                    | some c' =>
                      have := stp_mem q
                      simp only [Bool.not_eq_true', decide_eq_false_iff_not] at hb
                      exact absurd this hb
                  have b1 := playF_bad (r := []) i hp hck hs
                  have b2 := playF_bad (r := js.drop (i + 1)) i hp hck hs
                  have tk : (js.take i).length ≤ 12 := by rw [List.length_take]; omega
                  have dr : (js.drop (i + 1)).length ≤ 12 := by rw [List.length_drop]; omega
                  have wl : ∀ v : List Int, (ws ++ [v]).length = ws.length + 1 := fun v => by rw [List.length_append]; rfl
                  walk_at "e"
                  refine rs_L (.f _) ?_
                  rw [cutX_to, ← List.map_take]
                  walk_at "red"
                  refine ae_lst ?_
                  walk_at "e"
                  refine rd_catL (.f _) (.f _) (by rw [List.length_map]; simp only [List.length_cons, List.length_nil]; omega) ?_
                  walk_at "red"
                  walk_at "e"
                  refine rs_L (.f _) ?_
                  rw [cutX_to, ← List.map_take]
                  walk_at "red"
                  refine ae_lst ?_
                  walk_at "e"
                  refine rd_catL (.f _) (.f _) (by rw [List.length_map]; simp only [List.length_cons, List.length_nil]; omega) ?_
                  walk_at "red"
                  walk_at "e"
                  refine rs_L (.f _) ?_
                  rw [show (i : Int) + 1 = ((i + 1 : Nat) : Int) from rfl, cutX_from, ← List.map_drop]
                  walk_at "red"
                  refine rd_catL (.f _) (.f _) (by rw [List.length_append, List.length_map, List.length_map]; simp only [List.length_cons, List.length_nil]; omega) ?_
                  walk_at "red"
                  walk_at "e"
                  refine ⟨ws ++ [js.take i ++ [z], js.take i ++ [z] ++ js.drop (i + 1)], _, _, rfl, by simp, ?_, fun v hv => ?_, by omega⟩
                  · rw [List.length_append]
                    simp only [List.length_cons, List.length_nil]
                    omega
                  · rcases List.mem_append.mp hv with hv | hv
                    · exact hws v hv
                    · rcases List.mem_cons.mp hv with rfl | hv
                      · exact ⟨by rw [List.length_append]; simp only [List.length_cons, List.length_nil]; omega, b1⟩
                      · rw [List.mem_singleton.mp hv]
                        refine ⟨by rw [List.length_append, List.length_append]; simp only [List.length_cons, List.length_nil]; omega, ?_⟩
                        rw [List.append_assoc]
                        exact b2
                · walk_at "e"
                  exact ⟨ws, _, _, rfl, by trivial, by omega, hws, by omega⟩
            · rintro ds' T' ⟨ws, v10, v12, rfl, rfl, hwl, hws, hk290⟩
              exact ⟨ws, ns4, _, _, _, _, _, _, _, rfl, by trivial, by rw [List.length_map] at hwl; omega, hws⟩
    · rintro ds' T' ⟨ws, ns3, v6, v7, v8, v9, v10, v11, v12, rfl, rfl, hwl, hws⟩
      refine as_ret (ae_take 0 rfl rfl ?_)
      exact ret1T (hP ws ns3 hws) (List.mem_cons_self ..) (fun e he => List.mem_cons_of_mem _ he)
end



def tTryAs (K : PySem.W.Frag) (c : Value) (i : Nat) (tb : WX → TS) (ts : Addr → Value → Option Addr → TS) (Wout : WX) : TS := fun D σ H => tb (wAs K c i ts Wout D) D σ H
theorem takes_0 {X : Cx} : Takes X (fun _ _ _ _ => False) := fun _ _ x => by
  obtain ⟨_, _, _, _, _, _, _, _, _, _, _, _, _, _, _, _, z⟩ := x
  exact z.elim
def rIsC (K : PySem.W.Frag) (D : Addr) (cls : Value) (d : Option Addr) (a : Addr) : List V → Hp → VK → Prop := fun xs H Q => cls = .ref D ∧ d = none ∧ rIsE K D a xs H Q
theorem call_isC {X : Cx} {a D : Addr} {cls : Value} {d : Option Addr} {oe : Obj} {pn : List (Addr × Obj)} (C : ExcC X.K D) (hz : Zc cls d oe) (hf : ∃ vs, oe.data = .fields vs) : CallR (X.suite a ((a, oe) :: pn)) (.builtin "isinstance") (rIsC X.K D cls d a) := by
  intro pins s σ H xs us Q I r h
  obtain ⟨h1, h2, h3⟩ := h
  subst h1 h2
  exact call_isE C hz hf pins s σ H xs us Q I r h3
class TopX (K : PySem.W.Frag) (mg : Str → Option Value) : Prop where
  c_NoStep : ExcC K (He.ga K "NoStep")
  b_ValueError : mg "ValueError" = none
  k1 : PySem.W.kitOne K (.ref (He.ga K "NoStep")) (.ref (He.ga K "LedError")) = some true
  k2 : PySem.W.kitOne K (.ref (He.ga K "NoStep")) (.type "ValueError") = some true
  k3 : PySem.W.kitOne K (.ref (He.ga K "NoStep")) (.ref (He.ga K "TooMany")) = some false
section
variable {K : PySem.W.Frag} {E : Ent} {ds : Sls} {T : Tb} {N B C : PS2} {R : PD} {P : PD}
theorem ae_isC {i : Nat} {a Dd : Addr} {cls : Value} {d : Option Addr} {c : V} {cv : Value} {b : Bool} (h : ds[i]? = some (some (.adr a))) (hcls : cls = .ref Dd) (hd : d = none) (hcv : ∀ u, RelV c u → u = cv) (hk : PySem.W.kitOne K (.ref Dd) cv = some b) (p : P (.bl b) T) :
    AE K E (tCB (rIsC K Dd cls d a) (tCons (tVar i) (tCons (tC c) tNil))) ds T P := fun F σ H Q ok q => by
  obtain ⟨v, hv, iv⟩ := ok.sl i _ h
  cases iv
  exact ⟨.ref a, hv, hcls, hd, c, cv, b, rfl, hcv, hk, q.ret ok p (.bl b)⟩
theorem as_try1 {c : Value} {i : Nat} {ts : Addr → Value → Option Addr → TS} {Wout : WX} {A : Con0} {ta : TA} {PX : Value → Tb → Prop}
    (hA : AA K E ta ds T fun dd T' => A dd (toFoot T') (fun d os new => os = T'.map (·.ob) ∧ N ds (news new ++ T')) (fun cls os => os = T'.map (·.ob) ∧ PX cls T'))
    (hx : ∀ cls T', PX cls T' → PySem.W.exmOne K cls c = some true ∧ ∀ a, AS K E (ts a cls none) (ds.set i (some (.adr a))) T' (fun _ _ => False) R (fun _ _ => False) (fun _ _ => False)) :
    AS K E (tTryAs K c i (fun W => tDrop (tCallG (spA K A) (WE W) ta)) ts Wout) ds T N R B C := fun F σ H D ok k =>
  hA F σ H _ ok fun vs dd T1 F1 H1 p1 ok1 fr1 al1 i1 => by
    have hO : ∀ a ∈ (toFoot T1).map (·.1), a ∈ ads T1 := fun a ha => by
      rw [toFoot_fst] at ha
      exact ha
    refine ⟨F1, dd, toFoot T1, _, _, ok1.p.fh, i1, fun x hx => ?_, by rw [toFoot_fst]; exact ok1.nd, p1, ?_, ?_⟩
    · obtain ⟨e, he, rfl⟩ := List.mem_map.mp hx
      exact ⟨(ok1.ow e he).f, (ok1.ow e he).o⟩
    · rintro v d os new F2 H2 ⟨hos, p⟩ ep iv
      have q : Rs K E (fun _ T' => N ds T') ds T σ F H (fun v H' => D.nx σ H') := fun v d T' F' H' p ok' fr al iv => k.n ds T' F' σ H' p ok' fr.ff
      exact (q.step fr1 al1).called ok1 ep hO rfl rfl (all_ob hos ep) iv p
    · rintro cls os F2 H2 ⟨hos, p⟩ ep
      obtain ⟨ok2, fr2⟩ := ok1.called ep.po hO rfl rfl (all_ob hos ep)
      obtain ⟨q1, q2⟩ := hx cls _ p
      refine ⟨true, q1, fun _ a ha => ?_, fun z => by cases z⟩
      have ex : Ex F F2 := fr1.ff.trans fr2.ff
      refine q2 a F2 _ H2 _ ?_ ⟨fun _ _ _ _ _ z => z.elim, fun d T' v F' ds' σ' H' r ok' e iv => k.r d T' v F' ds' σ' H' r ok' (ex.trans e) iv, fun _ _ _ _ _ z => z.elim, fun _ _ _ _ _ z => z.elim⟩
      exact ok2.slot (.adr a) i
end
section
variable {P : Program} {w : World} {K : PySem.W.Frag} {mg : Str → Option Value} {base : Heap} [TX : TopX K mg]
abbrev con_refused (K : PySem.W.Frag) : Con0 := fun dd T P PX => dd.length = 4 ∧ ∃ (W Fr p : Int) (rs : List Rl) (st : List Int) (d : D) (js : List Int), dd = [dRu K W Fr rs, .int p, .tup (st.map .int), d] ∧ LV (foot T) d (js.map .int) ∧ RsOk rs ∧ CfOk 100 (p, st) ∧ js.length ≤ 100 ∧ playF rs (p, st) js = none ∧ P (.bl true) (T.map (·.2)) []
theorem sc__law_refused : FnScope ["rules", "p", "stack", "row", "e"] ["rules", "p", "stack", "row"] (defScope s__law_refused) := ⟨rfl, rfl, rfl, by decide +kernel, rfl, by decide +kernel, by decide +kernel⟩
theorem bi__law_refused {K : PySem.W.Frag} {mg : Str → Option Value} (T : Top K mg) : Binds K T.fd__law_refused ["rules", "p", "stack", "row"] [] := T.F__law_refused.bindsN fun _ _ _ _ _ _ us hl => match us, hl with | [_, _, _, _], _ => rfl
def t__law_refused (K : PySem.W.Frag) : TS := (tSeq (tTryAs K (.ref (He.ga K "NoStep")) 4 (fun W => (tDrop (tCallG (spA K (con_play K)) (WE W) (tCons (tVar 0) (tCons (tVar 1) (tCons (tVar 2) (tCons (tVar 3) tNil))))))) (fun a cls d => (tRet (tAndT K (tCB (rIsC K (He.ga K "NoStep") cls d a) (tCons (tVar 4) (tCons (tC (.ref (He.ga K "LedError"))) tNil))) (tAndT K (tCB (rIsC K (He.ga K "NoStep") cls d a) (tCons (tVar 4) (tCons (tC (.ty "ValueError")) tNil))) (tNotT K (tCB (rIsC K (He.ga K "NoStep") cls d a) (tCons (tVar 4) (tCons (tC (.ref (He.ga K "TooMany"))) tNil)))))))) (fun _ _ _ _ => False)) (tRet (tC (.bl false))))
theorem ok__law_refused (T : Top K mg) : FnG P w K mg base CX0 3 (He.ga K "_law_refused") T.fd__law_refused ["rules", "p", "stack", "row"] (spA K (con_refused K)) := by
  have G_play := ok_play (P := P) (w := w) (base := base) T
  have b_play := bi_play T
  refine okG T.F__law_refused sc__law_refused (spA_ln fun _ _ _ _ h => h.1) (fun cdv A ou s H vs Q E gu hr h => ⟨t__law_refused K , ?_, body h fun F dd Tf P PX hA hl hx => ?_⟩)
  · have hu := hr.units
    have hu5 := hu5_of hr
    have hu1 := hu_of hr
    exact PSs.nox (pss_cons (ps_try_as (i := 4) (tb := fun W => (tDrop (tCallG (spA K (con_play K)) (WE W) (tCons (tVar 0) (tCons (tVar 1) (tCons (tVar 2) (tCons (tVar 3) tNil))))))) (ts := fun a cls d => (tRet (tAndT K (tCB (rIsC K (He.ga K "NoStep") cls d a) (tCons (tVar 4) (tCons (tC (.ref (He.ga K "LedError"))) tNil))) (tAndT K (tCB (rIsC K (He.ga K "NoStep") cls d a) (tCons (tVar 4) (tCons (tC (.ty "ValueError")) tNil))) (tNotT K (tCB (rIsC K (He.ga K "NoStep") cls d a) (tCons (tVar 4) (tCons (tC (.ref (He.ga K "TooMany"))) tNil)))))))) (Wout := fun _ _ _ _ => False) rfl rfl sc__law_refused.nd rfl rfl ⟨rfl, by decide, Or.inl T.m_NoStep⟩ takes_0 (fun W pn xe tk _ => (pss_one (ps_expr (pe_callG G_play gu (hr.mono (by decide)) rfl T.m_play T.F_play.kp b_play (fun σ => passAt tk σ) (pa_cons (pv 0) (pa_cons (pv 1) (pa_cons (pv 2) (pa_cons (pv 3) pa_nil)))))))) (fun a oe cls d pn hz hf => (pss_one (ps_ret (pe_andT (pe_callB (call_isC TX.c_NoStep hz hf) (by rfl) T.g_isinstance (by decide +kernel) (pa_cons (pv 4) (pa_cons (pe_glob rfl T.m_LedError rfl) pa_nil))) (pe_andT (pe_callB (call_isC TX.c_NoStep hz hf) (by rfl) T.g_isinstance (by decide +kernel) (pa_cons (pv 4) (pa_cons (pe_bltn rfl TX.b_ValueError boot_ValueError rfl) pa_nil))) (pe_one (pe_notT (pe_callB (call_isC TX.c_NoStep hz hf) (by rfl) T.g_isinstance (by decide +kernel) (pa_cons (pv 4) (pa_cons (pe_glob rfl T.m_TooMany rfl) pa_nil))))))))))) (pss_one (ps_ret pe_bl)))
  · unfold t__law_refused
    obtain ⟨_, W, Fr, p, rs, st, d, js, rfl, lv, hr, hc, hjl, hn, hP⟩ := hA
    walk_at "slots"
    refine as_seq (as_try1 (PX := fun cls T' => cls = .ref (He.ga K "NoStep") ∧ T' = foot Tf) ?_ ?_)
    · walk_at "e"
      refine ⟨rfl, W, Fr, p, rs, st, d, js, rfl, lv.foot, hr, hc, hjl, fun cs a h => (by rw [hn] at h; cases h), fun _ => ⟨toFoot_snd, rfl, by trivial⟩⟩
    · rintro cls T' ⟨rfl, rfl⟩
      refine ⟨T.e_NoStep_NoStep, fun a => ?_⟩
      walk_at "red"
      refine as_ret (ae_andT (ae_isC (a := a) rfl rfl rfl (fun u h => h) TX.k1 ⟨_, tru_bl, fun _ => ?_, fun z => (by cases z)⟩))
      refine ae_andT (ae_isC (a := a) rfl rfl rfl (fun u h => h) TX.k2 ⟨_, tru_bl, fun _ => ?_, fun z => (by cases z)⟩)
      refine ae_notT (ae_isC (a := a) rfl rfl rfl (fun u h => h) TX.k3 ⟨_, tru_bl, ?_⟩)
      exact retT hP fun e he => he
abbrev con_right (K : PySem.W.Frag) : Con0 := fun dd T P PX => dd.length = 6 ∧ ∃ (W Fr : Int) (rs : List Rl) (d : D) (cs : List Cf) (js : List Int) (p : Int) (st : List Int) (ws : List (List Int)), dd = [dRu K W Fr rs, .int W, .int Fr, d, .tup [.lst (cs.map dC), .lst (js.map .int)], .lst (ws.map fun v => .lst (v.map .int))] ∧ LV (foot T) d (rs.map dR) ∧ RsOk rs ∧
  0 ≤ W ∧ W ≤ 1000 ∧ 0 ≤ Fr ∧ Fr ≤ 1000 ∧ playF rs (p, st) js = some cs ∧ (∀ c ∈ cs, CfOk 70 c) ∧ CfOk 50 (p, st) ∧ js.length ≤ 12 ∧ (∀ x ∈ js, x.natAbs < 1000) ∧ (∀ v ∈ ws, v.length ≤ 40 ∧ playF rs (p, st) v = none) ∧ P (.bl true) (T.map (·.2)) []
theorem sc__law_right : FnScope ["rules", "worlds", "frames", "rows", "walk", "wrongs", "row", "handed"] ["rules", "worlds", "frames", "rows", "walk", "wrongs"] (defScope s__law_right) := ⟨rfl, rfl, rfl, by decide +kernel, rfl, by decide +kernel, by decide +kernel⟩
theorem bi__law_right {K : PySem.W.Frag} {mg : Str → Option Value} (T : Top K mg) : Binds K T.fd__law_right ["rules", "worlds", "frames", "rows", "walk", "wrongs"] [] := T.F__law_right.bindsN fun _ _ _ _ _ _ us hl => match us, hl with | [_, _, _, _, _, _], _ => rfl
def t__law_right (K : PySem.W.Frag) (W : WX) : TS := (tSeq (tIfS (tOr (tNot (tTru K (tCallG (spA K (con_heads K)) (fun _ => E0) (tCons (tVar 0) (tCons (tVar 1) (tCons (tVar 2) (tCons (tVar 3) tNil))))))) (tNot (tTru K (tCallG (spA K (con_run K)) (WE W) (tCons (tVar 0) (tCons (tVar 3) (tCons (tOp (rIx K) (tVar 4) (tC (.int 0))) (tCons (tOp (rIx K) (tVar 4) (tC (.int 1))) tNil)))))))) (tRet (tC (.bl false))) tNext) (tSeq (tFor (iU K (tVar 5)) (gName 6) (tSeq (tAsg (tCB (rListU K) (tCons (tVar 6) tNil)) (gName 7)) (tIfS (tOr (tNot (tTru K (tCallG (spA K (con_refused K)) (fun _ => E0) (tCons (tVar 0) (tCons (tOp (rIx K) (tOp (rIx K) (tOp (rIx K) (tVar 4) (tC (.int 0))) (tC (.int 0))) (tC (.int 0))) (tCons (tOp (rIx K) (tOp (rIx K) (tOp (rIx K) (tVar 4) (tC (.int 0))) (tC (.int 0))) (tC (.int 1))) (tCons (tVar 7) tNil))))))) (tTest (tOp (rNeU K) (tVar 7) (tVar 6)))) (tRet (tC (.bl false))) tNext))) (tRet (tC (.bl true)))))
theorem ok__law_right (T : Top K mg) : FnG P w K mg base (L2.CX P w) 4 (He.ga K "_law_right") T.fd__law_right ["rules", "worlds", "frames", "rows", "walk", "wrongs"] (spA K (con_right K)) := by
  have G__law_heads_right := ok__law_heads_right (P := P) (w := w) (base := base) T
  have b__law_heads_right := bi__law_heads_right T
  have G__law_run_right := ok__law_run_right (P := P) (w := w) (base := base) T
  have b__law_run_right := bi__law_run_right T
  have G__law_refused := ok__law_refused (P := P) (w := w) (base := base) T
  have b__law_refused := bi__law_refused T
  refine okG T.F__law_right sc__law_right (spA_ln fun _ _ _ _ h => h.1) (fun cdv A ou s H vs Q E gu hr h => ⟨t__law_right K (fun cls d _ H => E cls d H), ?_, body h fun F dd Tf P PX hA hl hx => ?_⟩)
  · have hu := hr.units
    have hu5 := hu5_of hr
    have hu1 := hu_of hr
    have tk : Takes (cxOf (L2.CX P w) P w K mg base ["rules", "worlds", "frames", "rows", "walk", "wrongs", "row", "handed"] "_law_right" (defScope s__law_right) (He.ga K "_law_right") cdv A ou s H E) (fun cls d _ H => E cls d H) := takes_of rfl rfl rfl rfl
    exact (pss_cons (ps_if (PW.pt (pw_or (pt_not (ptT (pe_callG G__law_heads_right gu (hr.mono (by decide)) rfl T.m__law_heads_right T.F__law_heads_right.kp b__law_heads_right (fun σ => passN σ) (pa_cons (pv 0) (pa_cons (pv 1) (pa_cons (pv 2) (pa_cons (pv 3) pa_nil))))) (by intro _; rfl))) (pw_or1 (pt_not (ptT (pe_callG G__law_run_right gu (hr.mono (by decide)) rfl T.m__law_run_right T.F__law_run_right.kp b__law_run_right (fun σ => passAt tk σ) (pa_cons (pv 0) (pa_cons (pv 3) (pa_cons (pe_ix ix_seq (pv 4) pe_int (fun _ _ => rfl)) (pa_cons (pe_ix ix_seq (pv 4) pe_int (fun _ _ => rfl)) pa_nil))))) (by intro _; rfl)))))) (pss_one (ps_ret pe_bl)) pss_nil) (pss_cons (ps_for (passes_of rfl) rfl (pi_u (pv 5)) (pg_name (i := 6) sc__law_right.nd rfl (by first | exact Or.inl rfl | exact Or.inr rfl)) (pss_cons (ps_set (i := 7) sc__law_right.nd rfl (by first | exact Or.inl rfl | exact Or.inr rfl) (pe_callTy call_list_of (by rfl) T.g_list (by decide +kernel) (pa_cons (pv 6) pa_nil))) (pss_one (ps_if (PW.pt (pw_or (pt_not (ptT (pe_callG G__law_refused gu (hr.mono (by decide)) rfl T.m__law_refused T.F__law_refused.kp b__law_refused (fun σ => passN σ) (pa_cons (pv 0) (pa_cons (pe_ix ix_seq (pe_ix ix_seq (pe_ix ix_seq (pv 4) pe_int (fun _ _ => rfl)) pe_int (fun _ _ => rfl)) pe_int (fun _ _ => rfl)) (pa_cons (pe_ix ix_seq (pe_ix ix_seq (pe_ix ix_seq (pv 4) pe_int (fun _ _ => rfl)) pe_int (fun _ _ => rfl)) pe_int (fun _ _ => rfl)) (pa_cons (pv 7) pa_nil))))) (by intro _; rfl))) (pw_or1 (pt_cmpR (opNe hu) (pv 7) (pv 6) (by rfl))))) (pss_one (ps_ret pe_bl)) pss_nil)))) (pss_one (ps_ret pe_bl))))
  · unfold t__law_right
    obtain ⟨_, W, Fr, rs, d, cs, js, p, st, ws, rfl, lv, hr, hW, hW1, hF, hF1, hp, hcs, hc, hjl, hjs, hws, hP⟩ := hA
    have h0 : (cs.map dC)[0]? = some (dC (p, st)) := by rw [List.getElem?_map, playF_hd hp]; rfl
    walk_at "slots"
    walk_at "e"
    refine ae_callT no_exc ?_
    walk_at "e"
    refine ⟨rfl, W, Fr, rs, d, rfl, lv.foot, hr, hW, hW1, hF, hF1, toFoot_snd, ?_⟩
    walk_at "e"
    refine if_b (fun hb => (by cases hb)) (fun _ => ?_)
    walk_at "e"
    refine ae_callT no_exc ?_
    walk_at "e"
    refine rd_ixT (d := .lst (cs.map dC)) rfl ?_
    walk_at "e"
    refine rd_ixT (d := .lst (js.map .int)) rfl ?_
    walk_at "e"
    refine ⟨rfl, W, Fr, rs, d, cs, js, p, st, rfl, lv.foot, hr, hp, hcs, hc, hjl, hjs, toFoot_snd, ?_⟩
    walk_at "e"
    refine ⟨fun hb => (by cases hb), fun _ => ?_⟩
    walk_at "e"
    refine as_uL (as_forL (is := [6]) ?_)
    walk_at "e"
    refine ⟨_, .f _, fun i ds T => ∃ (v6 v7 : Option D), ds = [some (dRu K W Fr rs), some (.int W), some (.int Fr), some d, some (.tup [.lst (cs.map dC), .lst (js.map .int)]), some (.lst (ws.map fun v => .lst (v.map .int))), v6, v7] ∧ T = foot Tf, ⟨_, _, rfl, rfl⟩, fun _ _ _ _ _ => .f _, ?_, ?_⟩
    · rintro i x ds' T' hx ⟨v6, v7, rfl, rfl⟩
      rw [List.getElem?_map] at hx
      cases e : ws[i]? with
      | none => rw [e] at hx; cases hx
      | some v =>
        rw [e] at hx
        cases hx
        obtain ⟨hvl, hvn⟩ := hws v (List.mem_of_getElem? e)
        have sh := shaped_ints v
        have cl : (PyData.list (v.map .int)).canLay0 = true := by
          unfold SeqAt.shaped at sh
          exact (Bool.and_eq_true_iff.mp sh).1
        have dv : Dv (foot Tf) (.lst (v.map .int)) (.list (v.map .int)) := by
          have := dv_of_lv (T := foot Tf) (.f _) (pl_ints v)
          rwa [map_py_int] at this
        refine ag_name ?_
        walk_at "red"
        walk_at "e"
        refine rc_listL (.f _) ?_
        walk_at "e"
        refine ae_callT no_exc ?_
        walk_at "e"
        refine rd_ixT (d := .lst (cs.map dC)) rfl ?_
        walk_at "e"
        refine rd_ixL (.f _) (atI_of (k := 0) h0) ?_
        walk_at "e"
        refine rd_ixT (d := .int p) rfl ?_
        walk_at "e"
        refine rd_ixT (d := .lst (cs.map dC)) rfl ?_
        walk_at "e"
        refine rd_ixL (.f _) (atI_of (k := 0) h0) ?_
        walk_at "e"
        refine rd_ixT (d := .tup (st.map .int)) rfl ?_
        walk_at "e"
        refine ⟨rfl, W, Fr, p, rs, st, _, v, rfl, .f _, hr, hc.up (by decide), by omega, hvn, toFoot_snd, ?_⟩
        walk_at "e"
        refine if_b (fun hb => (by cases hb)) (fun _ => ?_)
        walk_at "e"
        refine rd_ne dv dv sh sh ?_
        rw [SeqAt.eqv_refl _ cl]
        walk_at "e"
        refine ⟨fun hb => (by cases hb), fun _ => ?_⟩
        walk_at "e"
        exact ⟨_, _, rfl, by trivial⟩
    · rintro ds' T' ⟨v6, v7, rfl, rfl⟩
      walk_at "e"
      exact retT hP fun e he => he
end



section
variable {P : Program} {w : World} {K : PySem.W.Frag} {mg : Str → Option Value} {base : Heap} [TX : TopX K mg]
abbrev con_law : Con0 := fun dd T P PX => dd.length = 1 ∧ ∃ (ns : List Int), dd = [.frl (ns.map .int)] ∧ T = [] ∧ P (.bl true) [] []
theorem pick {sm a b : Int} (h : sm = 0 ∨ sm = 1) : ∃ x : Int, atI [D.int a, D.int b] sm = some (.int x) ∧ (x = a ∨ x = b) := by
  rcases h with rfl | rfl
  · exact ⟨a, atI_of (k := 0) rfl, .inl rfl⟩
  · exact ⟨b, atI_of (k := 1) rfl, .inr rfl⟩
theorem sc_law : FnScope ["script", "pool", "small", "worlds", "frames", "many", "rows", "deep", "p", "stack", "k", "walk", "wrongs", "turned", "second", "less", "handed", "rules", "other"] ["script"] (defScope s_law) := ⟨rfl, rfl, rfl, by decide +kernel, rfl, by decide +kernel, by decide +kernel⟩
theorem bi_law {K : PySem.W.Frag} {mg : Str → Option Value} (T : Top K mg) : Binds K T.fd_law ["script"] [] := T.F_law.bindsN fun _ _ _ _ _ _ us hl => match us, hl with | [_], _ => rfl
def t_law (K : PySem.W.Frag) (W : WX) : TS := (tSeq (tAsg (tCallG (spA K con_pool) (fun _ => E0) (tCons (tVar 0) (tCons (tC (.int 450)) tNil))) (gName 1)) (tSeq (tAsg (tCB rInt1 (tCons (tOp (rEqU K) (tCallG (spA K con_next) (fun _ => E0) (tCons (tVar 1) (tCons (tC (.int 2)) tNil))) (tC (.int 0))) tNil)) (gName 2)) (tSeq (tAsg (tOp (rAdd K) (tC (.int 1)) (tCallG (spA K con_next) (fun _ => E0) (tCons (tVar 1) (tCons (tOp (rIx K) (tLst (tCons (tC (.int 4)) (tCons (tC (.int 2)) tNil))) (tVar 2)) tNil)))) (gName 3)) (tSeq (tAsg (tOp (rAdd K) (tC (.int 1)) (tCallG (spA K con_next) (fun _ => E0) (tCons (tVar 1) (tCons (tOp (rIx K) (tLst (tCons (tC (.int 6)) (tCons (tC (.int 2)) tNil))) (tVar 2)) tNil)))) (gName 4)) (tSeq (tAsg (tCallG (spA K con_next) (fun _ => E0) (tCons (tVar 1) (tCons (tC (.int 15)) tNil))) (gName 5)) (tSeq (tIfS (tTest (tOp (rEqU K) (tCallG (spA K con_next) (fun _ => E0) (tCons (tVar 1) (tCons (tC (.int 8)) tNil))) (tC (.int 3)))) (tAsg (tOp (rAdd K) (tC (.int 15)) (tCallG (spA K con_next) (fun _ => E0) (tCons (tVar 1) (tCons (tC (.int 26)) tNil)))) (gName 5)) tNext) (tSeq (tAsg (tCallG (spA K con_rows) (fun _ => E0) (tCons (tVar 1) (tCons (tVar 3) (tCons (tVar 4) (tCons (tVar 5) tNil))))) (gName 6)) (tSeq (tAsg (tOp (rAdd K) (tC (.int 1)) (tCallG (spA K con_next) (fun _ => E0) (tCons (tVar 1) (tCons (tC (.int 6)) tNil)))) (gName 7)) (tSeq (tIfS (tTest (tOp (rEqU K) (tCallG (spA K con_next) (fun _ => E0) (tCons (tVar 1) (tCons (tC (.int 8)) tNil))) (tC (.int 5)))) (tAsg (tOp (rAdd K) (tC (.int 7)) (tCallG (spA K con_next) (fun _ => E0) (tCons (tVar 1) (tCons (tC (.int 34)) tNil)))) (gName 7)) tNext) (tSeq (tIfS (tTest (tOp (rEqU K) (tCallG (spA K con_next) (fun _ => E0) (tCons (tVar 1) (tCons (tC (.int 12)) tNil))) (tC (.int 0)))) (tAsg (tC (.int 0)) (gName 7)) tNext) (tSeq (tAsg (tCallG (spA K con_next) (fun _ => E0) (tCons (tVar 1) (tCons (tVar 3) tNil))) (gName 8)) (tSeq (tAsg (tCB (rTupleU K) (tCons (tLc (iRng1 (tCons (tVar 7) tNil)) (gName 10) tYes (tCallG (spA K con_next) (fun _ => E0) (tCons (tVar 1) (tCons (tVar 4) tNil))) [10]) tNil)) (gName 9)) (tSeq (tAsg (tCallG (spA K con_walk) (fun _ => E0) (tCons (tVar 1) (tCons (tVar 6) (tCons (tVar 8) (tCons (tVar 9) tNil))))) (gName 11)) (tSeq (tAsg (tCallG (spA K con_wrongs) (fun _ => E0) (tCons (tVar 1) (tCons (tVar 6) (tCons (tOp (rIx K) (tVar 11) (tC (.int 0))) (tCons (tOp (rIx K) (tVar 11) (tC (.int 1))) tNil))))) (gName 12)) (tSeq (tAsg (tRevL K (tVar 6)) (gName 13)) (tSeq (tAsg (tCallG (spA K con_walk) (fun _ => E0) (tCons (tVar 1) (tCons (tVar 13) (tCons (tVar 8) (tCons (tVar 9) tNil))))) (gName 14)) (tSeq (tAsg (tCallG (spA K con_wrongs) (fun _ => E0) (tCons (tVar 1) (tCons (tVar 13) (tCons (tOp (rIx K) (tVar 14) (tC (.int 0))) (tCons (tOp (rIx K) (tVar 14) (tC (.int 1))) tNil))))) (gName 15)) (tSeq (tAsg (tCB (rListU K) (tCons (tVar 6) tNil)) (gName 16)) (tSeq (tAsg (tMakeG (He.ga K "Rules") (spA K (con_init K)) (fun _ => E0) (tCons (tVar 3) (tCons (tVar 4) (tCons (tVar 16) tNil)))) (gName 17)) (tSeq (tAsg (tMakeG (He.ga K "Rules") (spA K (con_init K)) (fun _ => E0) (tCons (tVar 3) (tCons (tVar 4) (tCons (tVar 13) tNil)))) (gName 18)) (tSeq (tIfS (tOr (tTest (tOp (rNeU K) (tVar 16) (tVar 6))) (tNot (tTru K (tCallG (spA K (con_right K)) (WE W) (tCons (tVar 17) (tCons (tVar 3) (tCons (tVar 4) (tCons (tVar 6) (tCons (tVar 11) (tCons (tVar 12) tNil)))))))))) (tRet (tC (.bl false))) tNext) (tSeq (tDrop (tBM0 K "list" rReverse (tVar 16))) (tSeq (tDrop (tBM K "list" rAppend (tVar 16) (tCons (tTup (tCons (tC (.int 0)) (tCons (tC (.int 0)) (tCons (tC (.int 0)) (tCons (tTup (tCons (tC (.int 0)) (tCons (tC (.int 0)) tNil))) tNil))))) tNil))) (tSeq (tIfS (tNot (tTru K (tCallG (spA K (con_right K)) (WE W) (tCons (tVar 18) (tCons (tVar 3) (tCons (tVar 4) (tCons (tVar 13) (tCons (tVar 14) (tCons (tSl (rSlU K) (tVar 15) tNoPart (tPart (tC (.int 40)))) tNil))))))))) (tRet (tC (.bl false))) tNext) (tSeq (tIfS (tNot (tTru K (tCallG (spA K (con_right K)) (WE W) (tCons (tVar 17) (tCons (tVar 3) (tCons (tVar 4) (tCons (tVar 6) (tCons (tVar 11) (tCons (tSl (rSlU K) (tVar 12) tNoPart (tPart (tC (.int 40)))) tNil))))))))) (tRet (tC (.bl false))) tNext) (tRet (tCallG (spA K (con_heads K)) (fun _ => E0) (tCons (tVar 18) (tCons (tVar 3) (tCons (tVar 4) (tCons (tRevL K (tVar 6)) tNil)))))))))))))))))))))))))))))))
theorem ok_law (T : Top K mg) : FnG P w K mg base (L2.CX P w) 5 (He.ga K "law") T.fd_law ["script"] (spA K con_law) := by
  have G__law_pool := ok__law_pool (P := P) (w := w) (base := base) T
  have b__law_pool := bi__law_pool T
  have G__law_next := ok__law_next (P := P) (w := w) (base := base) T
  have b__law_next := bi__law_next T
  have G__law_rows := ok__law_rows (P := P) (w := w) (base := base) T
  have b__law_rows := bi__law_rows T
  have G__law_walk := ok__law_walk (P := P) (w := w) (base := base) T
  have b__law_walk := bi__law_walk T
  have G__law_wrongs := ok__law_wrongs (P := P) (w := w) (base := base) T
  have b__law_wrongs := bi__law_wrongs T
  have G_Rules_init := ok_Rules_init (P := P) (w := w) (base := base) T
  have b_Rules_init := bi_Rules_init T
  have G__law_heads_right := ok__law_heads_right (P := P) (w := w) (base := base) T
  have b__law_heads_right := bi__law_heads_right T
  have G__law_right := ok__law_right (P := P) (w := w) (base := base) T
  have b__law_right := bi__law_right T
  refine okG T.F_law sc_law (spA_ln fun _ _ _ _ h => h.1) (fun cdv A ou s H vs Q E gu hr h => ⟨t_law K (fun cls d _ H => E cls d H), ?_, body h fun F dd Tf P PX hA hl hx => ?_⟩)
  · have hu := hr.units
    have hu5 := hu5_of hr
    have hu1 := hu_of hr
    have tk : Takes (cxOf (L2.CX P w) P w K mg base ["script", "pool", "small", "worlds", "frames", "many", "rows", "deep", "p", "stack", "k", "walk", "wrongs", "turned", "second", "less", "handed", "rules", "other"] "law" (defScope s_law) (He.ga K "law") cdv A ou s H E) (fun cls d _ H => E cls d H) := takes_of rfl rfl rfl rfl
    exact (pss_cons (ps_set (i := 1) sc_law.nd rfl (by first | exact Or.inl rfl | exact Or.inr rfl) (pe_callG G__law_pool gu (hr.mono (by decide)) rfl T.m__law_pool T.F__law_pool.kp b__law_pool (fun σ => passN σ) (pa_cons (pv 0) (pa_cons pe_int pa_nil)))) (pss_cons (ps_set (i := 2) sc_law.nd rfl (by first | exact Or.inl rfl | exact Or.inr rfl) (pe_callTy call_int1 (by rfl) T.g_int (by decide +kernel) (pa_cons (pe_cmpR (opEq hu) (pe_callG G__law_next gu (hr.mono (by decide)) rfl T.m__law_next T.F__law_next.kp b__law_next (fun σ => passN σ) (pa_cons (pv 1) (pa_cons pe_int pa_nil))) pe_int (by rfl)) pa_nil))) (pss_cons (ps_set (i := 3) sc_law.nd rfl (by first | exact Or.inl rfl | exact Or.inr rfl) (pe_op opAdd pe_int (pe_callG G__law_next gu (hr.mono (by decide)) rfl T.m__law_next T.F__law_next.kp b__law_next (fun σ => passN σ) (pa_cons (pv 1) (pa_cons (pe_ix ix_seq (pe_lst (pa_cons pe_int (pa_cons pe_int pa_nil))) (pv 2) (fun _ _ => rfl)) pa_nil))))) (pss_cons (ps_set (i := 4) sc_law.nd rfl (by first | exact Or.inl rfl | exact Or.inr rfl) (pe_op opAdd pe_int (pe_callG G__law_next gu (hr.mono (by decide)) rfl T.m__law_next T.F__law_next.kp b__law_next (fun σ => passN σ) (pa_cons (pv 1) (pa_cons (pe_ix ix_seq (pe_lst (pa_cons pe_int (pa_cons pe_int pa_nil))) (pv 2) (fun _ _ => rfl)) pa_nil))))) (pss_cons (ps_set (i := 5) sc_law.nd rfl (by first | exact Or.inl rfl | exact Or.inr rfl) (pe_callG G__law_next gu (hr.mono (by decide)) rfl T.m__law_next T.F__law_next.kp b__law_next (fun σ => passN σ) (pa_cons (pv 1) (pa_cons pe_int pa_nil)))) (pss_cons (ps_if (pt_cmpR (opEq hu) (pe_callG G__law_next gu (hr.mono (by decide)) rfl T.m__law_next T.F__law_next.kp b__law_next (fun σ => passN σ) (pa_cons (pv 1) (pa_cons pe_int pa_nil))) pe_int (by rfl)) (pss_one (ps_set (i := 5) sc_law.nd rfl (by first | exact Or.inl rfl | exact Or.inr rfl) (pe_op opAdd pe_int (pe_callG G__law_next gu (hr.mono (by decide)) rfl T.m__law_next T.F__law_next.kp b__law_next (fun σ => passN σ) (pa_cons (pv 1) (pa_cons pe_int pa_nil)))))) pss_nil) (pss_cons (ps_set (i := 6) sc_law.nd rfl (by first | exact Or.inl rfl | exact Or.inr rfl) (pe_callG G__law_rows gu (hr.mono (by decide)) rfl T.m__law_rows T.F__law_rows.kp b__law_rows (fun σ => passN σ) (pa_cons (pv 1) (pa_cons (pv 3) (pa_cons (pv 4) (pa_cons (pv 5) pa_nil)))))) (pss_cons (ps_set (i := 7) sc_law.nd rfl (by first | exact Or.inl rfl | exact Or.inr rfl) (pe_op opAdd pe_int (pe_callG G__law_next gu (hr.mono (by decide)) rfl T.m__law_next T.F__law_next.kp b__law_next (fun σ => passN σ) (pa_cons (pv 1) (pa_cons pe_int pa_nil))))) (pss_cons (ps_if (pt_cmpR (opEq hu) (pe_callG G__law_next gu (hr.mono (by decide)) rfl T.m__law_next T.F__law_next.kp b__law_next (fun σ => passN σ) (pa_cons (pv 1) (pa_cons pe_int pa_nil))) pe_int (by rfl)) (pss_one (ps_set (i := 7) sc_law.nd rfl (by first | exact Or.inl rfl | exact Or.inr rfl) (pe_op opAdd pe_int (pe_callG G__law_next gu (hr.mono (by decide)) rfl T.m__law_next T.F__law_next.kp b__law_next (fun σ => passN σ) (pa_cons (pv 1) (pa_cons pe_int pa_nil)))))) pss_nil) (pss_cons (ps_if (pt_cmpR (opEq hu) (pe_callG G__law_next gu (hr.mono (by decide)) rfl T.m__law_next T.F__law_next.kp b__law_next (fun σ => passN σ) (pa_cons (pv 1) (pa_cons pe_int pa_nil))) pe_int (by rfl)) (pss_one (ps_set (i := 7) sc_law.nd rfl (by first | exact Or.inl rfl | exact Or.inr rfl) pe_int)) pss_nil) (pss_cons (ps_set (i := 8) sc_law.nd rfl (by first | exact Or.inl rfl | exact Or.inr rfl) (pe_callG G__law_next gu (hr.mono (by decide)) rfl T.m__law_next T.F__law_next.kp b__law_next (fun σ => passN σ) (pa_cons (pv 1) (pa_cons (pv 3) pa_nil)))) (pss_cons (ps_set (i := 9) sc_law.nd rfl (by first | exact Or.inl rfl | exact Or.inr rfl) (pe_callTy call_tuple_of (by rfl) T.g_tuple (by decide +kernel) (pa_cons (pe_lc (own := [("k", 10)]) (g := (gName 10)) (tt := tYes) (te := (tCallG (spA K con_next) (fun _ => E0) (tCons (tVar 1) (tCons (tVar 4) tNil)))) rfl sc_law.nd (pi_range1 rfl T.g_range (pa_cons (pv 7) pa_nil)) (blkOk_by (own := [("k", 10)]) (N := ["script", "pool", "small", "worlds", "frames", "many", "rows", "deep", "p", "stack", "k", "walk", "wrongs", "turned", "second", "less", "handed", "rules", "other"]) (sc := defScope s_law) (by decide +kernel)) (fun _ _ _ _ _ => (pg_name (i := 10) sc_law.nd rfl (by first | exact Or.inl rfl | exact Or.inr rfl))) (fun _ _ _ _ _ => pts_nil) (fun _ _ _ _ _ => (pe_callG G__law_next gu (hr.mono (by decide)) rfl T.m__law_next T.F__law_next.kp b__law_next (fun σ => passN σ) (pa_cons (pv 1) (pa_cons (pv 4) pa_nil))))) pa_nil))) (pss_cons (ps_set (i := 11) sc_law.nd rfl (by first | exact Or.inl rfl | exact Or.inr rfl) (pe_callG G__law_walk gu (hr.mono (by decide)) rfl T.m__law_walk T.F__law_walk.kp b__law_walk (fun σ => passN σ) (pa_cons (pv 1) (pa_cons (pv 6) (pa_cons (pv 8) (pa_cons (pv 9) pa_nil)))))) (pss_cons (ps_set (i := 12) sc_law.nd rfl (by first | exact Or.inl rfl | exact Or.inr rfl) (pe_callG G__law_wrongs gu (hr.mono (by decide)) rfl T.m__law_wrongs T.F__law_wrongs.kp b__law_wrongs (fun σ => passN σ) (pa_cons (pv 1) (pa_cons (pv 6) (pa_cons (pe_ix ix_seq (pv 11) pe_int (fun _ _ => rfl)) (pa_cons (pe_ix ix_seq (pv 11) pe_int (fun _ _ => rfl)) pa_nil)))))) (pss_cons (ps_set (i := 13) sc_law.nd rfl (by first | exact Or.inl rfl | exact Or.inr rfl) (pe_revL (pv 6))) (pss_cons (ps_set (i := 14) sc_law.nd rfl (by first | exact Or.inl rfl | exact Or.inr rfl) (pe_callG G__law_walk gu (hr.mono (by decide)) rfl T.m__law_walk T.F__law_walk.kp b__law_walk (fun σ => passN σ) (pa_cons (pv 1) (pa_cons (pv 13) (pa_cons (pv 8) (pa_cons (pv 9) pa_nil)))))) (pss_cons (ps_set (i := 15) sc_law.nd rfl (by first | exact Or.inl rfl | exact Or.inr rfl) (pe_callG G__law_wrongs gu (hr.mono (by decide)) rfl T.m__law_wrongs T.F__law_wrongs.kp b__law_wrongs (fun σ => passN σ) (pa_cons (pv 1) (pa_cons (pv 13) (pa_cons (pe_ix ix_seq (pv 14) pe_int (fun _ _ => rfl)) (pa_cons (pe_ix ix_seq (pv 14) pe_int (fun _ _ => rfl)) pa_nil)))))) (pss_cons (ps_set (i := 16) sc_law.nd rfl (by first | exact Or.inl rfl | exact Or.inr rfl) (pe_callTy call_list_of (by rfl) T.g_list (by decide +kernel) (pa_cons (pv 6) pa_nil))) (pss_cons (ps_set (i := 17) sc_law.nd rfl (by first | exact Or.inl rfl | exact Or.inr rfl) (pe_makeG T.mk_Rules G_Rules_init gu (hr.mono (by decide)) rfl T.m_Rules b_Rules_init (fun σ => passN σ) (pa_cons (pv 3) (pa_cons (pv 4) (pa_cons (pv 16) pa_nil))))) (pss_cons (ps_set (i := 18) sc_law.nd rfl (by first | exact Or.inl rfl | exact Or.inr rfl) (pe_makeG T.mk_Rules G_Rules_init gu (hr.mono (by decide)) rfl T.m_Rules b_Rules_init (fun σ => passN σ) (pa_cons (pv 3) (pa_cons (pv 4) (pa_cons (pv 13) pa_nil))))) (pss_cons (ps_if (PW.pt (pw_or (pt_cmpR (opNe hu) (pv 16) (pv 6) (by rfl)) (pw_or1 (pt_not (ptT (pe_callG G__law_right gu (hr.mono (by decide)) rfl T.m__law_right T.F__law_right.kp b__law_right (fun σ => passAt tk σ) (pa_cons (pv 17) (pa_cons (pv 3) (pa_cons (pv 4) (pa_cons (pv 6) (pa_cons (pv 11) (pa_cons (pv 12) pa_nil))))))) (by intro _; rfl)))))) (pss_one (ps_ret pe_bl)) pss_nil) (pss_cons (ps_expr (pe_bm0 PySem.F.plainAttrs_list PySem.F.slot_list_reverse PySem.F.type_list_reverse mt_reverse (pv 16))) (pss_cons (ps_expr (pe_bm PySem.F.plainAttrs_list PySem.F.slot_list_append PySem.F.type_list_append mt_append (pv 16) (pa_cons (pe_tup (pa_cons pe_int (pa_cons pe_int (pa_cons pe_int (pa_cons (pe_tup (pa_cons pe_int (pa_cons pe_int pa_nil))) pa_nil))))) pa_nil))) (pss_cons (ps_if (pt_not (ptT (pe_callG G__law_right gu (hr.mono (by decide)) rfl T.m__law_right T.F__law_right.kp b__law_right (fun σ => passAt tk σ) (pa_cons (pv 18) (pa_cons (pv 3) (pa_cons (pv 4) (pa_cons (pv 13) (pa_cons (pv 14) (pa_cons (pe_slice slU (pv 15) po_none (po_some pe_int)) pa_nil))))))) (by intro _; rfl))) (pss_one (ps_ret pe_bl)) pss_nil) (pss_cons (ps_if (pt_not (ptT (pe_callG G__law_right gu (hr.mono (by decide)) rfl T.m__law_right T.F__law_right.kp b__law_right (fun σ => passAt tk σ) (pa_cons (pv 17) (pa_cons (pv 3) (pa_cons (pv 4) (pa_cons (pv 6) (pa_cons (pv 11) (pa_cons (pe_slice slU (pv 12) po_none (po_some pe_int)) pa_nil))))))) (by intro _; rfl))) (pss_one (ps_ret pe_bl)) pss_nil) (pss_one (ps_ret (pe_callG G__law_heads_right gu (hr.mono (by decide)) rfl T.m__law_heads_right T.F__law_heads_right.kp b__law_heads_right (fun σ => passN σ) (pa_cons (pv 18) (pa_cons (pv 3) (pa_cons (pv 4) (pa_cons (pe_revL (pv 6)) pa_nil))))))))))))))))))))))))))))))))
  · unfold t_law
    obtain ⟨_, ns, rfl, rfl, hP⟩ := hA
    walk_at "slots"
    walk_at "e"
    refine ae_callT no_exc ?_
    walk_at "e"
    refine ⟨rfl, ns, 450, rfl, rfl, by decide, by decide, fun a ns1 => ⟨rfl, ?_⟩⟩
    walk_at "red"
    simp only [List.map_cons, List.cons_append, List.nil_append]
    walk_at "e"
    refine ae_call1 0 no_exc ?_
    walk_at "next"
    intro r ns2 r0 r1
    walk_at "nx"
    walk_at "e"
    obtain ⟨sm, hsm, hs2⟩ : ∃ sm : Int, (if decide (r = 0) = true then (1 : Int) else 0) = sm ∧ (sm = 0 ∨ sm = 1) := ⟨_, rfl, by split <;> simp⟩
    rw [hsm]
    refine ae_call1 0 no_exc ?_
    walk_at "e"
    refine ae_lst ?_
    walk_at "e"
    obtain ⟨x1, hx1, hx1'⟩ := pick (a := 4) (b := 2) hs2
    refine rd_ixL (.f _) hx1 ?_
    walk_at "next"
    intro r2 ns3 r20 r21
    walk_at "nx"
    walk_at "e"
    refine ae_call1 0 no_exc ?_
    walk_at "e"
    refine ae_lst ?_
    walk_at "e"
    obtain ⟨x2, hx2, hx2'⟩ := pick (a := 6) (b := 2) hs2
    refine rd_ixL (.f _) hx2 ?_
    walk_at "next"
    intro r3 ns4 r30 r31
    walk_at "nx"
    walk_at "e"
    obtain ⟨W, hW⟩ : ∃ W : Int, 1 + r2 = W := ⟨_, rfl⟩
    obtain ⟨Fr, hFr⟩ : ∃ Fr : Int, 1 + r3 = Fr := ⟨_, rfl⟩
    rw [hW, hFr]
    have hW0 : 0 < W ∧ W ≤ 4 := by omega
    have hF0 : 0 < Fr ∧ Fr ≤ 6 := by omega
    refine ae_call1 0 no_exc ?_
    walk_at "next"
    intro many ns5 m0 m1
    walk_at "nx"
    refine as_mid (fun ds T => ∃ (many : Int) (ns6 : List Int), ds = [some (.frl (ns.map .int)), some (.adr a), some (.int sm), some (.int W), some (.int Fr), some (.int many), none, none, none, none, none, none, none, none, none, none, none, none, none] ∧ T = [⟨a, true, .lst (ns6.map .int)⟩] ∧ 0 ≤ many ∧ many ≤ 60) ?_ ?_
    · walk_at "e"
      refine ae_call1 0 no_exc ?_
      walk_at "next"
      intro y ns6 y0 y1
      walk_at "nx"
      walk_at "e"
      refine ⟨fun hb => ?_, fun hb => ?_⟩
      · walk_at "e"
        refine ae_call1 0 no_exc ?_
        walk_at "next"
        intro z ns7 z0 z1
        walk_at "nx"
        walk_at "e"
        exact ⟨_, ns7, rfl, by trivial, by omega, by omega⟩
      · walk_at "e"
        exact ⟨many, ns6, rfl, by trivial, by omega, by omega⟩
    rintro ds' T' ⟨many, ns6, rfl, rfl, hm0, hm1⟩
    walk_at "e"
    refine ae_call1 0 no_exc ?_
    walk_at "e"
    refine ⟨rfl, _, _, _, _, _, rfl, rfl, hW0.1, by omega, hF0.1, by omega, hm0, by omega, fun rs ns7 hr => ?_⟩
    walk_at "nx"
    walk_at "e"
    refine ae_call1 0 no_exc ?_
    walk_at "next"
    intro dp ns8 d0 d1
    walk_at "nx"
    refine rd_add ?_
    walk_at "red"
    refine as_mid (fun ds T => ∃ (deep : Int) (ns9 : List Int), ds = [some (.frl (ns.map .int)), some (.adr a), some (.int sm), some (.int W), some (.int Fr), some (.int many), some (.lst (rs.map dR)), some (.int deep), none, none, none, none, none, none, none, none, none, none, none] ∧ T = [⟨a, true, .lst (ns9.map .int)⟩] ∧ 0 ≤ deep ∧ deep ≤ 45) ?_ ?_
    · walk_at "e"
      refine ae_call1 0 no_exc ?_
      walk_at "next"
      intro y ns9 y0 y1
      walk_at "nx"
      walk_at "e"
      refine ⟨fun hb => ?_, fun hb => ?_⟩
      · walk_at "e"
        refine ae_call1 0 no_exc ?_
        walk_at "next"
        intro z ns10 z0 z1
        walk_at "nx"
        walk_at "e"
        exact ⟨_, ns10, rfl, by trivial, by omega, by omega⟩
      · walk_at "e"
        exact ⟨_, ns9, rfl, by trivial, by omega, by omega⟩
    rintro ds' T' ⟨deep, ns9, rfl, rfl, dp0, dp1⟩
    refine as_mid (fun ds T => ∃ (deep : Int) (ns9 : List Int), ds = [some (.frl (ns.map .int)), some (.adr a), some (.int sm), some (.int W), some (.int Fr), some (.int many), some (.lst (rs.map dR)), some (.int deep), none, none, none, none, none, none, none, none, none, none, none] ∧ T = [⟨a, true, .lst (ns9.map .int)⟩] ∧ 0 ≤ deep ∧ deep ≤ 45) ?_ ?_
    · walk_at "e"
      refine ae_call1 0 no_exc ?_
      walk_at "next"
      intro y ns10 y0 y1
      walk_at "nx"
      walk_at "e"
      refine ⟨fun hb => ?_, fun hb => ?_⟩
      · walk_at "e"
        exact ⟨_, ns10, rfl, by trivial, by decide, by decide⟩
      · walk_at "e"
        exact ⟨_, ns10, rfl, by trivial, by omega, by omega⟩
    rintro ds' T' ⟨deep, ns10, rfl, rfl, dp0, dp1⟩
    walk_at "e"
    refine ae_call1 0 no_exc ?_
    walk_at "next"
    intro p ns11 p0 p1
    walk_at "nx"
    walk_at "e"
    refine lcRF (is := [10]) (fun _ h => h) ?_
    walk_at "e"
    refine ⟨by omega, fun k acc T => ∃ (row ns : List Int), acc = row.map .int ∧ T = [⟨a, true, .lst (ns.map .int)⟩] ∧ row.length = k ∧ ∀ x ∈ row, x.natAbs < 1000, ?_, ?_, ?_⟩
    · exact ⟨[], _, rfl, rfl, rfl, fun _ h => (by cases h)⟩
    · rintro k acc T' hk ⟨row, ns2, rfl, rfl, hl2, hx⟩
      refine ag_name ?_
      walk_at "red"
      walk_at "e"
      refine ae_call1 0 no_exc ?_
      walk_at "next"
      intro r ns3 r0 r1
      walk_at "nx"
      refine ⟨by rw [List.length_map]; omega, row ++ [r], ns3, by rw [List.map_append]; rfl, by trivial, by rw [List.length_append, hl2]; rfl, fun x hx2 => ?_⟩
      rcases List.mem_append.mp hx2 with h | h
      · exact hx x h
      · rw [List.mem_singleton.mp h]
        omega
    · rintro row' T' ⟨st, ns12, rfl, rfl, hl2, hx⟩
      walk_at "e"
      refine rc_tupL (.f _) ?_
      walk_at "red"
      walk_at "e"
      have hc : CfOk 50 (p, st) := ⟨by show p.natAbs < 1000; omega, by show st.length ≤ 50; omega, hx⟩
      have hr2 : RsOk rs.reverse := ⟨by rw [List.length_reverse]; exact hr.1, fun r h => hr.2 r (List.mem_reverse.mp h)⟩
      have hrl := hr.1
      refine ae_call1 0 no_exc ?_
      walk_at "e"
      refine ⟨rfl, _, _, rs, p, st, rfl, rfl, hr, hc, fun cs1 js1 ns13 hp1 hjl1 hcs1 hjs1 => ?_⟩
      walk_at "nx"
      walk_at "e"
      refine ae_call1 0 no_exc ?_
      walk_at "e"
      refine rd_ixT (d := .lst (cs1.map dC)) rfl ?_
      walk_at "e"
      refine rd_ixT (d := .lst (js1.map .int)) rfl ?_
      walk_at "e"
      refine ⟨rfl, _, _, _, rs, cs1, js1, p, st, [], rfl, rfl, .f _, hr, hp1, hcs1, hjl1, hjs1, fun ws1 ns14 hws1 => ?_⟩
      walk_at "nx"
      walk_at "e"
      refine ae_revL ?_
      walk_at "e"
      refine ⟨_, .f _, ?_⟩
      rw [← List.map_reverse]
      walk_at "red"
      walk_at "e"
      refine ae_call1 0 no_exc ?_
      walk_at "e"
      refine ⟨rfl, _, _, rs.reverse, p, st, rfl, rfl, hr2, hc, fun cs2 js2 ns15 hp2 hjl2 hcs2 hjs2 => ?_⟩
      walk_at "nx"
      walk_at "e"
      refine ae_call1 0 no_exc ?_
      walk_at "e"
      refine rd_ixT (d := .lst (cs2.map dC)) rfl ?_
      walk_at "e"
      refine rd_ixT (d := .lst (js2.map .int)) rfl ?_
      walk_at "e"
      refine ⟨rfl, _, _, _, rs.reverse, cs2, js2, p, st, [], rfl, rfl, .f _, hr2, hp2, hcs2, hjl2, hjs2, fun ws2 ns16 hws2 => ?_⟩
      walk_at "nx"
      walk_at "e"
      refine rc_listLO (.f _) fun b => ?_
      walk_at "red"
      walk_at "e"
      refine AE.froz (ae_make no_exc ?_)
      walk_at "e"
      intro x
      refine ⟨rfl, x, W, Fr, _, rs, _, rfl, rfl, lv_foot (.own 0 rfl), by omega, rfl, _, congrArg (List.cons _) toFoot_snd, 0, _, rfl, rfl, rfl, ?_⟩
      walk_at "red"
      simp only [OB.d]
      walk_at "e"
      refine AE.froz (ae_make no_exc ?_)
      walk_at "e"
      intro x2
      refine ⟨rfl, x2, W, Fr, _, rs.reverse, _, rfl, rfl, .f _, by rw [List.length_reverse]; omega, rfl, _, congrArg (List.cons _) toFoot_snd, 0, _, rfl, rfl, rfl, ?_⟩
      walk_at "red"
      simp only [OB.d]
      walk_at "e"
      have fRs : Fit 3 1300 (.list ((rs.map dR).map D.py)) := fit_map (m := 100) (fun r h => fit_dR (hr.2 r h)) hr.1
      refine rd_ne (dv_of_lv (.own 0 rfl) (pl_map pl_dR _)) (dv_of_lv (.f _) (pl_map pl_dR _)) (fRs.shaped (by decide)) (fRs.shaped (by decide)) ?_
      rw [SeqAt.eqv_refl _ fRs.c]
      walk_at "e"
      refine if_b (fun hb => (by cases hb)) (fun _ => ?_)
      walk_at "e"
      refine ae_callT no_exc ?_
      walk_at "e"
      refine ⟨rfl, W, Fr, rs, _, cs1, js1, p, st, ws1, rfl, .f _, hr, by omega, by omega, by omega, by omega, hp1, hcs1, hc, hjl1, hjs1, hws1, toFoot_snd, ?_⟩
      walk_at "e"
      refine ⟨fun hb => (by cases hb), fun _ => ?_⟩
      walk_at "e"
      refine rm_reverse 0 rfl ?_
      walk_at "red"
      walk_at "e"
      refine rm_append 0 rfl ?_ ?_
      · rw [List.length_reverse, List.length_map]
        omega
      walk_at "red"
      walk_at "e"
      refine ae_callT no_exc ?_
      walk_at "e"
      refine rs_L (.f _) ?_
      rw [show (some (40 : Int)) = some ((40 : Nat) : Int) from rfl, cutX_to, ← List.map_take]
      walk_at "red"
      walk_at "e"
      refine ⟨rfl, W, Fr, rs.reverse, _, cs2, js2, p, st, (ws2.take 40), rfl, .f _, hr2, by omega, by omega, by omega, by omega, hp2, hcs2, hc, hjl2, hjs2, (fun v h => hws2 v (List.mem_of_mem_take h)), toFoot_snd, ?_⟩
      walk_at "e"
      refine ⟨fun hb => (by cases hb), fun _ => ?_⟩
      walk_at "e"
      refine ae_callT no_exc ?_
      walk_at "e"
      refine rs_L (.f _) ?_
      rw [show (some (40 : Int)) = some ((40 : Nat) : Int) from rfl, cutX_to, ← List.map_take]
      walk_at "red"
      walk_at "e"
      refine ⟨rfl, W, Fr, rs, _, cs1, js1, p, st, (ws1.take 40), rfl, .f _, hr, by omega, by omega, by omega, by omega, hp1, hcs1, hc, hjl1, hjs1, (fun v h => hws1 v (List.mem_of_mem_take h)), toFoot_snd, ?_⟩
      walk_at "e"
      refine ⟨fun hb => (by cases hb), fun _ => ?_⟩
      walk_at "e"
      refine ae_callT no_exc ?_
      walk_at "e"
      refine ae_revL ?_
      walk_at "e"
      refine ⟨_, .f _, ?_⟩
      rw [← List.map_reverse]
      walk_at "red"
      walk_at "e"
      refine ⟨rfl, W, Fr, rs.reverse, _, rfl, .f _, hr2, by omega, by omega, by omega, by omega, toFoot_snd, ?_⟩
      walk_at "red"
      exact ret0 hP
end



def exB (K : PySem.W.Frag) : Bool :=
  (He.Fa.free "ValueError").ok K && (He.eqO (PySem.W.findIn K (.ref (He.ga K "NoStep")) "__getattribute__") (some (some (.builtin "BaseException.__getattribute__"))) && (He.eqO (PySem.W.findIn K (.ref (He.ga K "NoStep")) "__getattr__") (some none) &&
  (decide (PySem.W.subIn K (.ref (He.ga K "NoStep")) (.type "BaseException") = some true) && (PySem.W.hasDictIn K (He.ga K "NoStep") && (He.eqO (PySem.W.findIn K (.ref (He.ga K "NoStep")) "__class__") (some (some (.builtin "object.__class__"))) &&
  (He.eqO (PySem.W.specialIn K (.builtin "object.__class__") "__get__") (some (some (.builtin "getset_descriptor.__get__"))) && (decide (PySem.W.takesIn K (.builtin "object.__class__") = some true) && (decide (PySem.W.mroIn K (He.ga K "NoStep") (.type "object") = some true) &&
  (decide (PySem.W.kitOne K (.ref (He.ga K "NoStep")) (.ref (He.ga K "LedError")) = some true) && (decide (PySem.W.kitOne K (.ref (He.ga K "NoStep")) (.type "ValueError") = some true) && decide (PySem.W.kitOne K (.ref (He.ga K "NoStep")) (.ref (He.ga K "TooMany")) = some false)))))))))))
theorem topx_of {K : PySem.W.Frag} {h : Heap} {mg : Str → Option Value} (X : K.In h) (G : h.Ns mainGlobals mg) (c : exB K = true) : TopX K mg := by
  obtain ⟨c1, c⟩ := He.ba c
  obtain ⟨c2, c⟩ := He.ba c
  obtain ⟨c3, c⟩ := He.ba c
  obtain ⟨c4, c⟩ := He.ba c
  obtain ⟨c5, c⟩ := He.ba c
  obtain ⟨c6, c⟩ := He.ba c
  obtain ⟨c7, c⟩ := He.ba c
  obtain ⟨c8, c⟩ := He.ba c
  obtain ⟨c9, c⟩ := He.ba c
  obtain ⟨c10, c⟩ := He.ba c
  obtain ⟨c11, c12⟩ := He.ba c
  exact ⟨⟨He.eqO_ok c2, He.eqO_ok c3, of_decide_eq_true c4, c5, He.eqO_ok c6, He.eqO_ok c7, of_decide_eq_true c8, of_decide_eq_true c9⟩, He.free_ok X G c1, of_decide_eq_true c10, of_decide_eq_true c11, of_decide_eq_true c12⟩
abbrev Al2 : Type := He.AlD × Bool
def obs2 (K : PySem.W.Frag) : Al2 := (He.obsD fa fn K, exB K)
def obsX (g : Addr → Option Obj) : Al2 := obs2 (He.frG g (He.asD g 5))
def hkX : PySem.W.Hook where
  α := Al2
  obs := fun s => obsX s.heap.get?
  val := fun _ => (He.valD fn, true)
  says := fun _ h => ∃ K : PySem.W.Frag, K.In h ∧ He.SaysD fa fn K ∧ exB K = true
  of := fun _ _ e => ⟨_, He.frG_in, congrArg Prod.fst e, congrArg Prod.snd e⟩
  keeps := fun _ _ _ ⟨K, hK, c⟩ k => ⟨K, PySem.W.Frag.In.keeps hK k, c⟩
abbrev R : PySem.W.OpenRow := PySem.W.OpenLaw.row PySem.Challenge.rw_whatledhere_k14_raw_rules_play
def ob (s : PySem.W.SharedT) : Al2 := obsX (HandSHeadRun.getT s)
theorem ob_eq (s : PySem.W.SharedT) : ob s = hkX.obs s.abs := by
  have e : HandSHeadRun.getT s = s.abs.heap.get? := funext (HandSHeadRun.getT_eq s)
  unfold ob
  rw [e]
  rfl
def nms : List Str := ["LedError", "NoStep", "TooMany", "Rules", "moves", "play", "_law_pool", "_law_next", "_law_same", "_law_rows", "_law_numbers", "_law_moves", "_law_walk", "_law_wrongs", "_law_refused", "_law_heads_right", "_law_run_right", "_law_right"]
theorem run (w : World) : HandSHeadRun.RunEq R (PySem.W.view R.prog [21]) hkX ob 6000 nms w := by
  intro os
  kernel_rfl
theorem facts {P : Program} {w : World} {K : PySem.W.Frag} {h : Heap} {mg : Str → Option Value} {f : Addr} (X : K.In h) (G : h.Ns mainGlobals mg) (hfa : mg ("law" : Str) = some (.ref f)) (c : He.SaysD fa fn K) (c2 : exB K = true) :
    ∃ fd : FuncData, (∀ (s : Shared) (v : Value), BindsTo s fd ⟨[v], []⟩ [("script", v)]) ∧ ∀ base : Heap, K.In base → base.Ns mainGlobals mg → FnG P w K mg base (L2.CX P w) 5 f fd ["script"] (spA K con_law) := by
  obtain ⟨T⟩ := top_of X G c
  haveI TX := topx_of X G c2
  have e := hfa.symm.trans T.m_law
  cases e
  have b := FunD.bindsA (ps := ["script"]) T.F_law fun _ _ _ _ _ _ us hl => match us, hl with | [_], _ => rfl
  exact ⟨_, fun s v => b s [v] rfl, fun base _ _ => ok_law T⟩
theorem isA_ints {K : PySem.W.Frag} {F : Hp} : ∀ ns : List Int, IsA K F (ns.map V.int) (ns.map D.int)
  | [] => .nil
  | n :: ns => .cons (.int n) (isA_ints ns)
end K14
open PySem PySem.W PySem.Calls PyProof.Rows
theorem PySem.Challenge.cw_whatledhere_k14_raw_rules_play_holds : PySem.Challenge.rw_whatledhere_k14_raw_rules_play.Holds := by
  w_on; o_law
  refine HandSHeadRun.head_any (r := OpenLaw.row PySem.Challenge.rw_whatledhere_k14_raw_rules_play) (q := view (OpenLaw.row PySem.Challenge.rw_whatledhere_k14_raw_rules_play).prog [21]) (H := K14.hkX) (ob := K14.ob) (M := 6000) (loose := K14.nms)
    (d := HandSHeadRun.topDef (OpenLaw.row PySem.Challenge.rw_whatledhere_k14_raw_rules_play).prog 21) (kwd := []) K14.ob_eq
    (by kernel_rfl) (fun s => by kernel_rfl) K14.run (by kernel_rfl) (by kernel_rfl) (by kernel_rfl) (by rfl) (by first | assumption | decide +kernel) (by decide +kernel) ⟨rfl, rfl, rfl, rfl, rfl, by decide +kernel⟩ ?hw ?hc
  case hw => w_witness2
  case hc =>
    refine AW.walkG (l := PySem.Challenge.rw_whatledhere_k14_raw_rules_play) (n := 63) (k := 5) (x := "script") (CX := fun w => L2.CX PySem.Challenge.rw_whatledhere_k14_raw_rules_play.prog w) rfl (by decide) (by kernel_rfl) ⟨rfl, by decide, by decide⟩ ?F ?hCX
    case F =>
      intro w mg fa h Y G hmg0
      obtain ⟨K, KX, c, c2⟩ := Y
      have hmg : mg ("law" : PySem.Str) = some (.ref fa) := by
        have e : (HandSHeadRun.topDef (OpenLaw.row PySem.Challenge.rw_whatledhere_k14_raw_rules_play).prog 21).name = ("law" : PySem.Str) := by kernel_rfl
        rw [← e]
        exact hmg0
      obtain ⟨fd, hb, hF⟩ := K14.facts (P := (PySem.Challenge.rw_whatledhere_k14_raw_rules_play).prog) (w := w) KX G hmg c c2
      refine ⟨K, fd, _, KX, hb, fun H a ns hl hS => ?_, hF⟩
      refine ⟨H, [.frl (ns.map .int)], [], fun d _ _ => d = .bl true, fun _ _ => False, fun _ _ z => z, ?_, ?_, List.nodup_nil, ⟨rfl, ns, rfl, rfl, rfl⟩, ?_, ?_⟩
      · exact .cons (.frl hS (K14.isA_ints ns)) .nil
      · exact fun x hx => by cases hx
      · rintro v d os new F' H' rfl ep iv
        cases iv
        rfl
      · exact fun _ _ _ _ z _ => z.elim
    case hCX =>
      intro w H s e s' h
      obtain ⟨_, _, _, _, _, _, _, _, _, _, _, _, z⟩ := h
      exact z

